import PyProof.Rows.All
import Wide.All
import OpenK.AllK
import Wide.FinOn
import HandS.ForMost
import HandS.Walk
import HandS.DictComp
import HandS.IsInst
import HandS.TupAny
import HandS.Replace
import HandS.Zip
import KE.GoesEnum
import KE.GoesZip
import KE.GoesMore
import HandS.More
import HandS.Finally
import KE.KSortedM
import KE.KEqSeq
import PySem.Challenge.RW_stretchprices_k70_whole_turns_and_rests
set_option Elab.async false
set_option linter.all false
set_option maxRecDepth 100000
set_option maxHeartbeats 5000000
/-! The mathematics: a breadth-first going over a machine's standings, its differences, their greatest divisor. -/
namespace K70

structure Parts where
  rows : List Nat
  ans : Nat
  moves : List (List (List (Int × Nat)))
abbrev Meter := List (List (List Int))

structure Parts.Ok (P : Parts) : Prop where
  r1 : 1 ≤ P.rows.length
  r2 : P.rows.length ≤ 2
  low : ∀ c ∈ P.rows, 97 ≤ c ∧ c ≤ 122
  asc : P.rows.Pairwise (· < ·)
  a1 : 1 ≤ P.ans
  a2 : P.ans ≤ 2
  m1 : 1 ≤ P.moves.length
  m2 : P.moves.length ≤ 12
  sh : ∀ ls ∈ P.moves, ls.length = P.rows.length ∧ ∀ l ∈ ls, l.length = P.ans ∧ ∀ p ∈ l, 1 ≤ p.1 ∧ p.1 ≤ 99 ∧ p.2 < P.moves.length
structure MeterOk (P : Parts) (W : Meter) : Prop where
  m : W.length = P.moves.length
  sh : ∀ ls ∈ W, ls.length = P.rows.length ∧ ∀ l ∈ ls, l.length = P.ans ∧ ∀ x ∈ l, -99 ≤ x ∧ x ≤ 99

def goal (P : Parts) (s : Nat) (ja : Nat × Nat) : Nat := (((P.moves.getD s []).getD ja.1 []).getD ja.2 (0, 0)).2
def worth (W : Meter) (s : Nat) (ja : Nat × Nat) : Int := ((W.getD s []).getD ja.1 []).getD ja.2 0
def signs (P : Parts) : List (Nat × Nat) := (List.range P.rows.length).flatMap fun j => (List.range P.ans).map fun a => (j, a)

theorem mem_signs {P : Parts} {ja : Nat × Nat} : ja ∈ signs P ↔ ja.1 < P.rows.length ∧ ja.2 < P.ans := by
  unfold signs
  simp only [List.mem_flatMap, List.mem_map, List.mem_range]
  constructor
  · rintro ⟨j, hj, a, ha, rfl⟩
    exact ⟨hj, ha⟩
  · rintro ⟨hj, ha⟩
    exact ⟨ja.1, hj, ja.2, ha, rfl⟩
theorem signs_len {P : Parts} (ok : P.Ok) : (signs P).length ≤ 4 := by
  have h1 := ok.r2
  have h2 := ok.a2
  unfold signs
  rw [List.length_flatMap]
  simp only [List.length_range, List.length_map]
  have e : ∀ n : Nat, n ≤ 2 → ((List.range n).map fun _ => P.ans).sum ≤ 4 := by
    intro n hn
    match n, hn with
    | 0, _ => simp
    | 1, _ => simp [List.range_succ]; omega
    | 2, _ => simp [List.range_succ]; omega
  exact e _ h1
theorem signs_ne {P : Parts} (ok : P.Ok) : 1 ≤ (signs P).length := by
  have h1 := ok.r1
  have h2 := ok.a1
  have : ((0 : Nat), (0 : Nat)) ∈ signs P := mem_signs.mpr ⟨h1, h2⟩
  exact List.length_pos_of_mem this

theorem getD_some {α : Type} {l : List α} {i : Nat} {d x : α} (h : l[i]? = some x) : l.getD i d = x := by
  rw [List.getD_eq_getElem?_getD, h]; rfl
theorem mem_of {α : Type} {l : List α} {i : Nat} {x : α} (h : l[i]? = some x) : x ∈ l := List.mem_of_getElem? h

theorem moves_at {P : Parts} (ok : P.Ok) {s : Nat} {ja : Nat × Nat} (hs : s < P.moves.length) (h : ja ∈ signs P) :
    ∃ ls l p, P.moves[s]? = some ls ∧ ls[ja.1]? = some l ∧ l[ja.2]? = some p ∧ goal P s ja = p.2 ∧ p.2 < P.moves.length ∧ 1 ≤ p.1 ∧ p.1 ≤ 99 := by
  obtain ⟨hj, ha⟩ := mem_signs.mp h
  have e1 : P.moves[s]? = some P.moves[s] := List.getElem?_eq_getElem hs
  obtain ⟨hl, q⟩ := ok.sh _ (mem_of e1)
  have hj' : ja.1 < P.moves[s].length := by omega
  have e2 : P.moves[s][ja.1]? = some P.moves[s][ja.1] := List.getElem?_eq_getElem hj'
  obtain ⟨hl2, q2⟩ := q _ (mem_of e2)
  have ha' : ja.2 < P.moves[s][ja.1].length := by omega
  have e3 : P.moves[s][ja.1][ja.2]? = some P.moves[s][ja.1][ja.2] := List.getElem?_eq_getElem ha'
  obtain ⟨b1, b2, b3⟩ := q2 _ (mem_of e3)
  refine ⟨_, _, _, e1, e2, e3, ?_, b3, b1, b2⟩
  unfold goal
  rw [getD_some e1, getD_some e2, getD_some e3]
theorem worth_at {P : Parts} {W : Meter} (ok : MeterOk P W) {s : Nat} {ja : Nat × Nat} (hs : s < P.moves.length) (h : ja ∈ signs P) :
    ∃ ls l x, W[s]? = some ls ∧ ls[ja.1]? = some l ∧ l[ja.2]? = some x ∧ worth W s ja = x ∧ -99 ≤ x ∧ x ≤ 99 := by
  obtain ⟨hj, ha⟩ := mem_signs.mp h
  have hs' : s < W.length := by rw [ok.m]; exact hs
  have e1 : W[s]? = some W[s] := List.getElem?_eq_getElem hs'
  obtain ⟨hl, q⟩ := ok.sh _ (mem_of e1)
  have hj' : ja.1 < W[s].length := by omega
  have e2 : W[s][ja.1]? = some W[s][ja.1] := List.getElem?_eq_getElem hj'
  obtain ⟨hl2, q2⟩ := q _ (mem_of e2)
  have ha' : ja.2 < W[s][ja.1].length := by omega
  have e3 : W[s][ja.1][ja.2]? = some W[s][ja.1][ja.2] := List.getElem?_eq_getElem ha'
  obtain ⟨b1, b2⟩ := q2 _ (mem_of e3)
  refine ⟨_, _, _, e1, e2, e3, ?_, b1, b2⟩
  unfold worth
  rw [getD_some e1, getD_some e2, getD_some e3]
theorem goal_lt {P : Parts} (ok : P.Ok) {s : Nat} {ja : Nat × Nat} (hs : s < P.moves.length) (h : ja ∈ signs P) : goal P s ja < P.moves.length := by
  obtain ⟨ls, l, p, _, _, _, e, hp, _⟩ := moves_at ok hs h
  rw [e]; exact hp
theorem worth_le {P : Parts} {W : Meter} (ok : MeterOk P W) {s : Nat} {ja : Nat × Nat} (hs : s < P.moves.length) (h : ja ∈ signs P) : -99 ≤ worth W s ja ∧ worth W s ja ≤ 99 := by
  obtain ⟨ls, l, p, _, _, _, e, h1, h2⟩ := worth_at ok hs h
  rw [e]; exact ⟨h1, h2⟩

/-! ### the going -/
abbrev Fnd := List (Nat × Int)
def keys (F : Fnd) : List Nat := F.map (·.1)
def step (P : Parts) (W : Meter) (s : Nat) (r : Int) (F : Fnd) (ja : Nat × Nat) : Fnd :=
  if goal P s ja ∈ keys F then F else F ++ [(goal P s ja, r + worth W s ja)]
def turn (P : Parts) (W : Meter) (F : Fnd) (s : Nat) (r : Int) : Fnd := (signs P).foldl (step P W s r) F
def bfs (P : Parts) (W : Meter) : Nat → Nat → Fnd → Fnd
  | 0, _, F => F
  | n + 1, i, F => match F[i]? with
    | none => F
    | some (s, r) => bfs P W n (i + 1) (turn P W F s r)
def first (P : Parts) (W : Meter) : Fnd := bfs P W 40 0 [(0, 0)]

/-- what holds all the while -/
structure FOk (P : Parts) (F : Fnd) : Prop where
  z : F[0]? = some (0, 0)
  nd : (keys F).Nodup
  lt : ∀ k ∈ keys F, k < P.moves.length
  bd : ∀ (i : Nat) s r, F[i]? = some (s, r) → -(99 * (i : Int)) ≤ r ∧ r ≤ 99 * (i : Int)

theorem nodup_len : ∀ (n : Nat) (l : List Nat), l.Nodup → (∀ k ∈ l, k < n) → l.length ≤ n
  | 0, [], _, _ => Nat.le_refl _
  | 0, k :: _, _, h => absurd (h k (List.mem_cons_self ..)) (Nat.not_lt_zero _)
  | n + 1, l, nd, h => by
    have h1 := nodup_len n (l.filter (· ≠ n)) (List.Pairwise.filter _ nd) fun k hk => by
      obtain ⟨a, b⟩ := List.mem_filter.mp hk
      have := h k a
      have b' : k ≠ n := by simpa using b
      omega
    have h2 : l.length ≤ (l.filter (· ≠ n)).length + 1 := by
      clear h1 h
      induction l with
      | nil => simp
      | cons x r ih =>
        obtain ⟨hx, hr⟩ := List.nodup_cons.mp nd
        by_cases e : x = n
        · subst e
          have : r.filter (· ≠ x) = r := List.filter_eq_self.mpr fun y hy => by
            have : y ≠ x := fun q => hx (q ▸ hy)
            simpa using this
          rw [List.filter_cons_of_neg (by simp), this]
          simp
        · rw [List.filter_cons_of_pos (by simpa using e)]
          have := ih hr
          simp only [List.length_cons]
          omega
    omega
theorem FOk.len {P : Parts} {F : Fnd} (f : FOk P F) : F.length ≤ P.moves.length := by
  have := nodup_len _ _ f.nd f.lt
  simpa [keys] using this
theorem FOk.pos {P : Parts} {F : Fnd} (f : FOk P F) : 0 < F.length := by
  have := f.z
  exact (List.getElem?_eq_some_iff.mp this).1
theorem fok0 {P : Parts} (ok : P.Ok) : FOk P [(0, 0)] where
  z := rfl
  nd := by simp [keys]
  lt := fun k hk => by
    have : k = 0 := by simpa [keys] using hk
    have := ok.m1
    omega
  bd := fun i s r h => by
    match i, h with
    | 0, h => cases h; simp
    | i + 1, h => simp at h

/-- F grows to F' at the end -/
def Pre (F F' : Fnd) : Prop := ∃ G, F' = F ++ G
theorem Pre.refl (F : Fnd) : Pre F F := ⟨[], by simp⟩
theorem Pre.trans {A B C : Fnd} (h : Pre A B) (k : Pre B C) : Pre A C := by
  obtain ⟨x, rfl⟩ := h
  obtain ⟨y, rfl⟩ := k
  exact ⟨x ++ y, by simp⟩
theorem Pre.get {A B : Fnd} (h : Pre A B) {i : Nat} {x : Nat × Int} (e : A[i]? = some x) : B[i]? = some x := by
  obtain ⟨y, rfl⟩ := h
  rw [List.getElem?_append_left (List.getElem?_eq_some_iff.mp e).1]
  exact e
theorem Pre.keys {A B : Fnd} (h : Pre A B) {k : Nat} (e : k ∈ keys A) : k ∈ K70.keys B := by
  obtain ⟨y, rfl⟩ := h
  unfold K70.keys at *
  rw [List.map_append]
  exact List.mem_append_left _ e
theorem Pre.len {A B : Fnd} (h : Pre A B) : A.length ≤ B.length := by
  obtain ⟨y, rfl⟩ := h
  simp

theorem step_ok {P : Parts} {W : Meter} (ok : P.Ok) (mk : MeterOk P W) {F : Fnd} {s i : Nat} {r : Int} (f : FOk P F) (hi : F[i]? = some (s, r)) {ja : Nat × Nat} (h : ja ∈ signs P) :
    FOk P (step P W s r F ja) ∧ Pre F (step P W s r F ja) ∧ goal P s ja ∈ keys (step P W s r F ja) := by
  have hs : s < P.moves.length := f.lt s (List.mem_map.mpr ⟨_, mem_of hi, rfl⟩)
  unfold step
  by_cases e : goal P s ja ∈ keys F
  · rw [if_pos e]
    exact ⟨f, .refl _, e⟩
  · rw [if_neg e]
    have hil : i < F.length := (List.getElem?_eq_some_iff.mp hi).1
    refine ⟨⟨?_, ?_, ?_, ?_⟩, ⟨_, rfl⟩, ?_⟩
    · rw [List.getElem?_append_left f.pos]
      exact f.z
    · unfold keys at *
      rw [List.map_append]
      refine List.nodup_append.mpr ⟨f.nd, by simp, fun a ha b hb q => ?_⟩
      have : b = goal P s ja := by simpa using hb
      subst q
      exact e (this ▸ ha)
    · intro k hk
      unfold keys at *
      rw [List.map_append] at hk
      rcases List.mem_append.1 hk with hk | hk
      · exact f.lt k hk
      · have : k = goal P s ja := by simpa using hk
        rw [this]
        exact goal_lt ok hs h
    · intro j s' r' hj
      by_cases hjl : j < F.length
      · rw [List.getElem?_append_left hjl] at hj
        exact f.bd j s' r' hj
      · have hje : j = F.length := by
          have := (List.getElem?_eq_some_iff.mp hj).1
          simp at this
          omega
        subst hje
        rw [List.getElem?_append_right (Nat.le_refl _)] at hj
        simp at hj
        obtain ⟨_, rfl⟩ := hj
        have b1 := f.bd i s r hi
        have b2 := worth_le mk hs h
        omega
    · unfold keys
      rw [List.map_append]
      exact List.mem_append_right _ (by simp)
theorem fold_ok {P : Parts} {W : Meter} (ok : P.Ok) (mk : MeterOk P W) {s i : Nat} {r : Int} : ∀ (l : List (Nat × Nat)) {F : Fnd}, FOk P F → F[i]? = some (s, r) → (∀ ja ∈ l, ja ∈ signs P) →
    FOk P (l.foldl (step P W s r) F) ∧ Pre F (l.foldl (step P W s r) F) ∧ ∀ ja ∈ l, goal P s ja ∈ keys (l.foldl (step P W s r) F)
  | [], F, f, hi, _ => ⟨f, .refl _, fun _ h => nomatch h⟩
  | ja :: l, F, f, hi, h => by
    obtain ⟨f1, p1, g1⟩ := step_ok (W := W) ok mk f hi (h ja (List.mem_cons_self ..))
    obtain ⟨f2, p2, g2⟩ := fold_ok ok mk l f1 (p1.get hi) fun x hx => h x (List.mem_cons_of_mem _ hx)
    refine ⟨f2, p1.trans p2, fun x hx => ?_⟩
    rcases List.mem_cons.1 hx with rfl | hx
    · exact p2.keys g1
    · exact g2 x hx
theorem turn_ok {P : Parts} {W : Meter} (ok : P.Ok) (mk : MeterOk P W) {F : Fnd} {s i : Nat} {r : Int} (f : FOk P F) (hi : F[i]? = some (s, r)) :
    FOk P (turn P W F s r) ∧ Pre F (turn P W F s r) ∧ ∀ ja ∈ signs P, goal P s ja ∈ keys (turn P W F s r) := fold_ok ok mk _ f hi fun _ h => h

/-- the standings below i lead to standings of F -/
def Shut (P : Parts) (F : Fnd) (i : Nat) : Prop := ∀ (j : Nat) s r, j < i → F[j]? = some (s, r) → ∀ ja ∈ signs P, goal P s ja ∈ keys F
theorem bfs_ok {P : Parts} {W : Meter} (ok : P.Ok) (mk : MeterOk P W) : ∀ (n i : Nat) {F : Fnd}, FOk P F → Shut P F i → i ≤ F.length → 12 < n + i →
    FOk P (bfs P W n i F) ∧ Shut P (bfs P W n i F) (bfs P W n i F).length
  | 0, i, F, f, _, hi, hn => absurd hn (by have := f.len; have := ok.m2; omega)
  | n + 1, i, F, f, sh, hi, hn => by
    unfold bfs
    cases e : F[i]? with
    | none =>
      have hl : F.length ≤ i := List.getElem?_eq_none_iff.mp e
      have : F.length = i := by omega
      exact ⟨f, by rw [this]; exact sh⟩
    | some x =>
      obtain ⟨s, r⟩ := x
      obtain ⟨f1, p1, g1⟩ := turn_ok (W := W) ok mk f e
      have hil : i < F.length := (List.getElem?_eq_some_iff.mp e).1
      refine bfs_ok ok mk n (i + 1) f1 (fun j s' r' hj e' ja hja => ?_) (Nat.lt_of_lt_of_le hil p1.len) (by omega)
      by_cases hji : j = i
      · subst hji
        rw [p1.get e] at e'
        cases e'
        exact g1 ja hja
      · have hjl : j < F.length := by omega
        have e0 : F[j]? = some F[j] := List.getElem?_eq_getElem hjl
        have := p1.get e0
        rw [this] at e'
        have e1 : F[j]? = some (s', r') := by rw [e0, ← Option.some.inj e']
        exact p1.keys (sh j s' r' (by omega) e1 ja hja)
theorem first_ok {P : Parts} {W : Meter} (ok : P.Ok) (mk : MeterOk P W) : FOk P (first P W) ∧ Shut P (first P W) (first P W).length :=
  bfs_ok ok mk 40 0 (fok0 ok) (fun j s r h => absurd h (Nat.not_lt_zero _)) (Nat.zero_le _) (by decide)
theorem bfs_end {P : Parts} {W : Meter} {n i : Nat} {F : Fnd} (h : F.length ≤ i) : bfs P W n i F = F := by
  cases n with
  | zero => rfl
  | succ n =>
    unfold bfs
    rw [List.getElem?_eq_none_iff.mpr h]
theorem bfs_go {P : Parts} {W : Meter} {n i : Nat} {F : Fnd} {s : Nat} {r : Int} (h : F[i]? = some (s, r)) : bfs P W (n + 1) i F = bfs P W n (i + 1) (turn P W F s r) := by
  rw [bfs]
  rw [h]

/-! ### the differences -/
/-- the reading at a standing -/
def rd (F : Fnd) (s : Nat) : Int := ((F.find? fun p => p.1 == s).map (·.2)).getD 0
theorem find_of_nd : ∀ {F : Fnd}, (keys F).Nodup → ∀ {i : Nat} {s : Nat} {r : Int}, F[i]? = some (s, r) → (F.find? fun p => p.1 == s) = some (s, r)
  | [], _, i, s, r, h => by simp at h
  | (k, v) :: F, nd, 0, s, r, h => by
    have e : (k, v) = (s, r) := Option.some.inj h
    cases e
    simp
  | (k, v) :: F, nd, i + 1, s, r, h => by
    obtain ⟨hk, nd'⟩ := List.nodup_cons.mp (show (k :: keys F).Nodup from nd)
    have h' : F[i]? = some (s, r) := by simpa using h
    have hne : k ≠ s := fun e => hk (by rw [e]; exact List.mem_map.mpr ⟨(s, r), mem_of h', rfl⟩)
    rw [List.find?_cons_of_neg (by simpa using hne)]
    exact find_of_nd nd' h'
theorem rd_of {F : Fnd} (nd : (keys F).Nodup) {i s : Nat} {r : Int} (h : F[i]? = some (s, r)) : rd F s = r := by
  unfold rd
  rw [find_of_nd nd h]
  rfl
theorem key_at {F : Fnd} {s : Nat} (h : s ∈ keys F) : ∃ (i : Nat) (r : Int), F[i]? = some (s, r) := by
  obtain ⟨⟨k, r⟩, hm, e⟩ := List.mem_map.mp h
  obtain ⟨i, hi⟩ := List.mem_iff_getElem?.mp hm
  have e' : k = s := e
  subst e'
  exact ⟨i, r, hi⟩

def diff (P : Parts) (W : Meter) (F : Fnd) (x : Nat × Int) (ja : Nat × Nat) : Int := x.2 + worth W x.1 ja - rd F (goal P x.1 ja)
/-- all differences, in order -/
def diffsOf (P : Parts) (W : Meter) (F : Fnd) (G : Fnd) : List Int := G.flatMap fun x => (signs P).map (diff P W F x)
def gstep (d : Nat) (x : Int) : Nat := Nat.gcd x.natAbs d
def gall (l : List Int) : Nat := l.foldl gstep 0
def diffs (P : Parts) (W : Meter) : List Int := diffsOf P W (first P W) (first P W)
def due (P : Parts) (W : Meter) : Nat := gall (diffs P W)

theorem gfold_dvd (m : Nat) : ∀ (l : List Int) (d : Nat), m ∣ l.foldl gstep d ↔ m ∣ d ∧ ∀ x ∈ l, (m : Int) ∣ x
  | [], d => by simp
  | x :: l, d => by
    rw [List.foldl_cons, gfold_dvd m l]
    unfold gstep
    rw [Nat.dvd_gcd_iff]
    have : m ∣ x.natAbs ↔ (m : Int) ∣ x := by
      rw [← Int.natCast_dvd_natCast, Int.dvd_natAbs]
    rw [this]
    simp only [List.mem_cons, forall_eq_or_imp]
    constructor
    · rintro ⟨⟨a, b⟩, c⟩; exact ⟨b, a, c⟩
    · rintro ⟨b, a, c⟩; exact ⟨⟨a, b⟩, c⟩
theorem gall_dvd (m : Nat) (l : List Int) : m ∣ gall l ↔ ∀ x ∈ l, (m : Int) ∣ x := by
  unfold gall
  rw [gfold_dvd]
  simp
theorem gfold_le (b : Nat) : ∀ (l : List Int) (d : Nat), d ≤ b → (∀ x ∈ l, x.natAbs ≤ b) → l.foldl gstep d ≤ b
  | [], d, h, _ => h
  | x :: l, d, h, k => by
    rw [List.foldl_cons]
    refine gfold_le b l _ ?_ fun y hy => k y (List.mem_cons_of_mem _ hy)
    unfold gstep
    rcases Nat.eq_zero_or_pos d with e | e
    · subst e
      rw [Nat.gcd_zero_right]
      exact k x (List.mem_cons_self ..)
    · exact Nat.le_trans (Nat.gcd_le_right _ e) h
theorem diff_le {P : Parts} {W : Meter} (ok : P.Ok) (mk : MeterOk P W) {i : Nat} {x : Nat × Int} (h : (first P W)[i]? = some x) {ja : Nat × Nat} (hj : ja ∈ signs P) : (diff P W (first P W) x ja).natAbs ≤ 2300 := by
  obtain ⟨f, sh⟩ := first_ok ok mk
  obtain ⟨s, r⟩ := x
  have hil : i < (first P W).length := (List.getElem?_eq_some_iff.mp h).1
  have hl := f.len
  have hm := ok.m2
  have hs : s < P.moves.length := f.lt s (List.mem_map.mpr ⟨_, mem_of h, rfl⟩)
  have b1 := f.bd i s r h
  have b2 := worth_le mk hs hj
  obtain ⟨k, q, hk⟩ := key_at (sh i s r hil h ja hj)
  have hkl : k < (first P W).length := (List.getElem?_eq_some_iff.mp hk).1
  have b3 := f.bd k _ q hk
  unfold diff
  rw [rd_of f.nd hk]
  show (r + worth W s ja - q).natAbs ≤ 2300
  omega
theorem diffs_le {P : Parts} {W : Meter} (ok : P.Ok) (mk : MeterOk P W) {G : Fnd} (hG : ∀ x ∈ G, x ∈ first P W) : ∀ y ∈ diffsOf P W (first P W) G, y.natAbs ≤ 2300 := by
  intro y hy
  obtain ⟨x, hx, hy⟩ := List.mem_flatMap.mp hy
  obtain ⟨ja, hja, rfl⟩ := List.mem_map.mp hy
  obtain ⟨i, hi⟩ := List.mem_iff_getElem?.mp (hG x hx)
  exact diff_le ok mk hi hja
theorem due_le {P : Parts} {W : Meter} (ok : P.Ok) (mk : MeterOk P W) : due P W ≤ 2300 := gfold_le _ _ _ (Nat.zero_le _) (diffs_le ok mk fun _ h => h)

/-! ### Euclid, with fuel -/
def euc : Nat → Nat → Nat → Nat
  | 0, a, _ => a
  | n + 1, a, b => if b = 0 then a else euc n b (a % b)
theorem euc_eq : ∀ (n a b : Nat), b < n → euc n a b = Nat.gcd a b
  | 0, _, _, h => (Nat.not_lt_zero _ h).elim
  | n + 1, a, b, h => by
    unfold euc
    by_cases e : b = 0
    · subst e; simp
    · rw [if_neg e]
      have hl : a % b < b := Nat.mod_lt _ (Nat.pos_of_ne_zero e)
      rw [euc_eq n b (a % b) (by omega), Nat.gcd_comm a b, Nat.gcd_rec b a, Nat.gcd_comm]

/-! ### rests: a run's reading and the reading of the going -/
def walkTo (P : Parts) (W : Meter) : List (Nat × Nat) → Nat → Int → Nat × Int
  | [], s, t => (s, t)
  | ja :: l, s, t => walkTo P W l (goal P s ja) (t + worth W s ja)
theorem walk_rest {P : Parts} {W : Meter} (ok : P.Ok) (mk : MeterOk P W) {m : Nat} (h : ∀ x ∈ diffs P W, (m : Int) ∣ x) : ∀ (l : List (Nat × Nat)) (s : Nat) (t : Int), (∀ ja ∈ l, ja ∈ signs P) → s ∈ keys (first P W) → (m : Int) ∣ t - rd (first P W) s →
    (walkTo P W l s t).1 ∈ keys (first P W) ∧ (m : Int) ∣ (walkTo P W l s t).2 - rd (first P W) (walkTo P W l s t).1
  | [], s, t, _, hs, ht => ⟨hs, ht⟩
  | ja :: l, s, t, hl, hs, ht => by
    obtain ⟨f, sh⟩ := first_ok ok mk
    obtain ⟨i, r, hi⟩ := key_at hs
    have hil : i < (first P W).length := (List.getElem?_eq_some_iff.mp hi).1
    have hja := hl ja (List.mem_cons_self ..)
    refine walk_rest ok mk h l _ _ (fun x hx => hl x (List.mem_cons_of_mem _ hx)) (sh i s r hil hi ja hja) ?_
    have hd : (m : Int) ∣ diff P W (first P W) (s, r) ja := h _ (List.mem_flatMap.mpr ⟨(s, r), mem_of hi, List.mem_map.mpr ⟨ja, hja, rfl⟩⟩)
    have e : t + worth W s ja - rd (first P W) (goal P s ja) = (t - rd (first P W) s) + diff P W (first P W) (s, r) ja := by
      unfold diff
      rw [rd_of f.nd hi]
      show t + worth W s ja - rd (first P W) (goal P s ja) = t - r + (r + worth W s ja - rd (first P W) (goal P s ja))
      omega
    rw [e]
    exact Int.dvd_add ht hd
theorem emod_of_dvd_sub {m : Nat} {a b : Int} (h : (m : Int) ∣ a - b) : a % (m : Int) = b % (m : Int) := Int.emod_eq_emod_iff_emod_sub_eq_zero.mpr (Int.emod_eq_zero_of_dvd h)
end K70

/-! Rules of our own: zip(text, tuple), enumerate(tuple). -/
namespace K70
open PySem L2
open PySem.Spec PyProof.Rows

/-- the signs of a text and the items of the tuple at b, in new pairs -/
def ItzS (K : PySem.W.Frag) (x : Str) (b : Addr) : It :=
  ⟨fun i H => ∃ (c : Nat) (ys : List V) (y : V), x.cps[i]? = some c ∧ SqT K H b ys ∧ ys[i]? = some y,
    fun i H v H' => ∃ T c y, v = .ref T ∧ H T = none ∧ H' = upd H T (.tup [.str ⟨#[c]⟩, y]) ∧ x.cps[i]? = some c ∧ ∀ ys, SqT K H b ys → ys[i]? = some y,
    fun i H => ∃ ys : List V, SqT K H b ys ∧ i ≤ x.cps.size ∧ i ≤ ys.length ∧ (i = x.cps.size ∨ i = ys.length)⟩
/-- the cells of the zip lie apart, and apart from the tuple -/
structure ZSep (z TI TO i1 i2 b : Addr) : Prop where
  TIz : TI ≠ z
  TOz : TO ≠ z
  TITO : TI ≠ TO
  TIi1 : TI ≠ i1
  TIi2 : TI ≠ i2
  zi1 : z ≠ i1
  zi2 : z ≠ i2
  zb : z ≠ b
  Ti1 : TO ≠ i1
  Ti2 : TO ≠ i2
  Tb : TO ≠ b
  i12 : i1 ≠ i2
  i1b : i1 ≠ b
  bi2 : b ≠ i2
theorem ZSep.sep {z TI TO i1 i2 b : Addr} (D : ZSep z TI TO i1 i2 b) : ZipSep2 z TI TO i1 i2 [i1] [i2, b] where
  TIz := D.TIz
  TOz := D.TOz
  TITO := D.TITO
  TIi1 := D.TIi1
  mem1 := by simp
  zf1 := by simpa using D.zi1
  Tf1 := by simpa using D.Ti1
  TIi2 := D.TIi2
  mem2 := by simp
  zf2 := by simpa using ⟨D.zi2, D.zb⟩
  Tf2 := by simpa using ⟨D.Ti2, D.Tb⟩
  sep1_2 := by simpa using ⟨D.i12, D.i1b⟩
  sep2_1 := by simpa using D.i12.symm
/-- two cells, or five: what holds of each holds of the list's -/
theorem of2 {p : Addr → Prop} {a b : Addr} (pa : p a) (pb : p b) : ∀ l, l ∈ [a, b] → p l :=
  fun l m => by
    rcases List.mem_cons.mp m with q | m
    · exact q ▸ pa
    · exact (List.mem_singleton.mp m) ▸ pb
theorem of5 {p : Addr → Prop} {a b c d e : Addr} (pa : p a) (pb : p b) (pc : p c) (pd : p d) (pe : p e) : ∀ l, l ∈ [a, b, c, d, e] → p l :=
  fun l m => by
    rcases List.mem_cons.mp m with q | m
    · exact q ▸ pa
    rcases List.mem_cons.mp m with q | m
    · exact q ▸ pb
    rcases List.mem_cons.mp m with q | m
    · exact q ▸ pc
    exact of2 pd pe l m
theorem out2 {l a b : Addr} (h : l ∉ [a, b]) : l ≠ a ∧ l ≠ b := by simpa using h
theorem out5 {l a b c d e : Addr} (h : l ∉ [a, b, c, d, e]) : l ≠ a ∧ l ≠ b ∧ l ≠ c ∧ l ≠ d ∧ l ≠ e := by simpa using h
/-- the cells of the running zip -/
def ZCells (x : Str) (t : Tok) (b z TI TO i1 i2 : Addr) (n : Nat) (hp : Heap) : Prop :=
  IsZip hp z TI TO .none ∧ IsTupOf2 hp TI (.ref i1) (.ref i2) ∧ (∃ u v, IsTupOf2 hp TO u v) ∧ hp.IsStrIter i1 (strIterType x) x t n ∧ hp.IsTupleIter i2 b n
/-- each of them is there -/
theorem ZCells.lt {x : Str} {t : Tok} {b z TI TO i1 i2 : Addr} {n : Nat} {hp : Heap} (st : ZCells x t b z TI TO i1 i2 n hp) : ∀ l, l ∈ [z, TI, TO, i1, i2] → l < hp.objs.size := by
  obtain ⟨cz, cI, ⟨_, _, cO⟩, ⟨_, c1, _⟩, ⟨_, c2, _⟩⟩ := st
  exact of5 (Heap.lt_size cz) (Heap.lt_size cI) (Heap.lt_size cO) (Heap.lt_size c1) (Heap.lt_size c2)
theorem turn_zipS {P : Program} {w : World} {K : PySem.W.Frag} {elts : List Expr} {kk : Nat} {tpos : Pos} {x : Str} {t : Tok} {b z TI TO i1 i2 : Addr} (D : ZSep z TI TO i1 i2 b) :
    Turn P w K (.Tuple elts kk tpos) (ItzS K x b) [z, TI, TO, i1, i2] z (ZCells x t b z TI TO i1 i2) where
  mem := List.mem_cons_self
  obj := fun _ _ st => by
    obtain ⟨cz, cI, ⟨u, v, cO⟩, ⟨oS, c1, _, g1⟩, ⟨oT, c2, _, g2⟩⟩ := st
    refine of5 ⟨_, cz, ?_⟩ ⟨_, cI, ?_⟩ ⟨_, cO, ?_⟩ ⟨oS, c1, ?_⟩ ⟨oT, c2, ?_⟩
    · intro _ f; cases f
    · intro _ f; cases f
    · intro _ f; cases f
    · intro _ f; cases g1.symm.trans f
    · intro _ f; cases g2.symm.trans f
  keep := fun _ _ _ st kp => by
    obtain ⟨cz, cI, ⟨u, v, cO⟩, ⟨oS, c1, r1⟩, ⟨oT, c2, r2⟩⟩ := st
    exact ⟨kp z (by simp) _ cz, kp TI (by simp) _ cI, ⟨u, v, kp TO (by simp) _ cO⟩, ⟨oS, kp i1 (by simp) oS c1, r1⟩, oT, kp i2 (by simp) oT c2, r2⟩
  item := by
    intro X hP hw hK cool n pn sh τ Hp Er iv fp st gh
    subst hP hw hK
    have less := ZCells.lt st
    obtain ⟨cz, cI, ⟨u0, v0, cO⟩, c1, c2⟩ := st
    obtain ⟨cd, ys, y, ec, sq, ey⟩ := gh
    obtain ⟨vs, rel, ptr, _⟩ := iv.tuple sq
    obtain ⟨uy, huy, ruy⟩ := rel.get ey
    have zlt := less z (by simp)
    have n1 : n < x.cps.size := (Array.getElem?_eq_some_iff.mp ec).1
    have n2 : n < vs.toArray.size := by
      have := (List.getElem?_eq_some_iff.mp huy).1
      simpa using this
    have calm : X.A.in1.handled = none := iv.ok.hd cool
    refine wpAny_pyNext_zipD2_item D.sep (Draws.text calm i1 x t) (Draws.tuple calm i2 b D.bi2 vs.toArray) cz cI cO c1 ⟨c2, ptr⟩ n1 n2 fun p1 p2 hp' tk y1 y2 nz nO n1' n2' nT nsz kept => ?_
    obtain ⟨cd', tc, ec', rfl⟩ := y1
    obtain rfl : cd' = cd := Option.some.inj (ec'.symm.trans ec)
    obtain rfl : p2 = uy := by
      have f1 : vs.toArray[n]? = some p2 := y2
      have f2 : vs.toArray[n]? = some uy := by simpa using huy
      exact Option.some.inj (f1.symm.trans f2)
    refine ⟨_, rfl, wpAny_letOwnedTupleGo_zip (s := { sh with heap := hp', toks := tk }) nz fun hp2 nz2 same => ?_⟩
    have cell : hp2.get? sh.heap.objs.size = some { cls := .type "tuple", data := .seq #[.str ⟨#[cd']⟩ tc, p2] } :=
      (same.2 _ (Nat.ne_of_gt zlt)).trans nT
    have made : ObjOk X.prog X.w (upd Hp sh.heap.objs.size (.tup [.str ⟨#[cd']⟩, y])) hp2 sh.heap.objs.size (.tup [.str ⟨#[cd']⟩, y]) := by
      refine ⟨?_, [.str ⟨#[cd']⟩ tc, p2], .cons ⟨_, rfl⟩ (.cons ruy .nil), _, cell, rfl, _, rfl⟩
      show 2 ≤ sizeLine
      decide
    have old : ∀ l o, l ∉ [z, TI, TO, i1, i2] → sh.heap.get? l = some o → hp2.get? l = some o := fun l o far at_ => by
      obtain ⟨d1, _, d3, d4, d5⟩ := out5 far
      exact (same.2 l d1).trans (kept l o d1 d3 d4 d5 at_)
    have iv2 : Inv X pn τ (upd Hp sh.heap.objs.size (.tup [.str ⟨#[cd']⟩, y])) { sh with heap := hp2, toks := tk } :=
      iv.turnedNew (t' := tk) (ch := [z, TI, TO, i1, i2]) old fp (Nat.le_refl _) made
    refine ⟨.ref sh.heap.objs.size, _, iv2, rfl, ⟨_, cd', y, rfl, iv.hok.fresh (Nat.le_refl _), rfl, ec, fun l hl => ?_⟩, ⟨nz2, ?_, ⟨.str ⟨#[cd']⟩ tc, p2, ?_⟩, ?_, ?_⟩, fun l hl => ?_⟩
    · rw [iv.tuple_inj hl sq]; exact ey
    · have := kept _ _ D.TIz D.TITO D.TIi1 D.TIi2 cI
      exact (same.2 TI D.TIz).trans this
    · exact (same.2 TO D.TOz).trans nO
    · obtain ⟨oS, at_, rest⟩ := n1'
      exact ⟨oS, (same.2 i1 D.zi1.symm).trans at_, rest⟩
    · obtain ⟨⟨oT, at_, rest⟩, _⟩ := n2'
      exact ⟨oT, (same.2 i2 D.zi2.symm).trans at_, rest⟩
    · have := (fp l hl).1
      rwa [upd_ne (Nat.ne_of_lt (less l hl))]
  done := by
    intro X hP hw hK cool n pn sh τ Hp Er iv fp st gh
    subst hP hw hK
    obtain ⟨cz, cI, ⟨u0, v0, cO⟩, c1, c2⟩ := st
    obtain ⟨ys, sq, m1, m2, fin⟩ := gh
    obtain ⟨vs, rel, ptr, _⟩ := iv.tuple sq
    have same := rel.length
    have calm : X.A.in1.handled = none := iv.ok.hd cool
    refine wpAny_pyNext_zipD2_end D.sep (Draws.text calm i1 x t) (Draws.tuple calm i2 b D.bi2 vs.toArray) cz cI cO c1 ⟨c2, ptr⟩ m1 (by simp; omega) (by simp; omega) fun hp' tk kept => ⟨rfl, ?_⟩
    refine iv.turnedL (t' := tk) (ch := [z, TI, TO, i1, i2]) (fun l o far at_ => ?_) fp
    obtain ⟨d1, _, d3, d4, d5⟩ := out5 far
    exact kept l o d1 d3 d4 d5 at_
  self := fun _ _ _ _ _ st q => wpAny_pyIter_zip st.1 q

theorem ZSep.new (I b : Nat) (h : b < I) : ZSep (I + 4) (I + 2) (I + 3) I (I + 1) b := by
  constructor <;> (show ((_ : Nat) ≠ (_ : Nat)); omega)
def iZipS (K : PySem.W.Frag) (ta : TA) : TI := fun σ H R => ta σ H fun vs H1 => ∃ x b ys, vs = [.str x, .ref b] ∧ SqT K H1 b ys ∧ R (ItzS K x b) H1
theorem pi_zipS {X : Cx} {e e2 : Expr} {ta : TA} {p pos tpos : Pos} {elts : List Expr} {kk : Nat} (hg : Gl X "zip") (hm : X.mg "zip" = none) (ha : PA X [e, e2] ta)
    (nostar : starEach [e, e2] X.env = (false, eval e X.env) :: starEach [e2] X.env := by rfl)
    (plain : (backTo pos (starEach [e2] X.env)).any (·.1) = false := by rfl) :
    PI X (.Tuple elts kk tpos) (.Call (.Name "zip" p) [e, e2] [] pos) (iZipS X.K ta) := by
  constructor
  intro pn sh τ Hp R iv hq
  have args := ha.run pos pn sh τ Hp _ iv hq
  refine Call_ (ld_blt iv hg hm PyProof.Rows.boot_zip (PyProof.Rows.callWith_type1 (thn args ?_) nostar plain))
  rintro us s1 ⟨vals, H1, iv1, rel, x, b, ys, rfl, sq, post⟩
  rcases rel with _ | ⟨⟨t, rfl⟩, _ | ⟨r', _ | _⟩⟩
  cases r'
  obtain ⟨vs, _, ptr, _⟩ := iv1.tuple sq
  obtain ⟨ob, at_, _⟩ := id ptr
  generalize hn : s1.heap.objs.size = N at *
  have fresh : ∀ l, N ≤ l → FpOk X pn H1 l := fun l hl => iv1.fpOk (hn ▸ hl) (iv1.hok.fresh (hn ▸ hl))
  refine zip_begins2 (begins_text x t) (begins_tuple b vs.toArray) trivial ptr fun hp' cz cI cO c1 c2 _ kept => wpAny_pyIter_zip cz ?_
  rw [hn] at cz cI cO c1 c2
  refine ⟨N + 4, [N + 4, N + 2, N + 3, N, N + 1], _, _, H1, by rw [hn], iv1.kept (t' := s1.toks) kept, turn_zipS (t := t) (ZSep.new N b (hn ▸ Heap.lt_size at_)), ?_, ?_, post⟩
  · exact ⟨cz, cI, ⟨_, _, cO⟩, ⟨_, c1, rfl, rfl⟩, _, c2, rfl, rfl⟩
  · exact of5 (fresh _ (by omega)) (fresh _ (by omega)) (fresh _ (by omega)) (fresh _ (by omega)) (fresh _ (by omega))
theorem walk_zipS {K : PySem.W.Frag} {x : Str} {b : Addr} {ys : List V} {n : Nat} (hn : n = min x.cps.size ys.length) :
    Walk (ItzS K x b) n (fun H => SqT K H b ys) (YPair (fun i => x.cps[i]?.map fun c => V.str ⟨#[c]⟩) (fun i => ys[i]?)) where
  goes := fun i H hi h => by
    have h1 : i < x.cps.size := by omega
    have h3 : i < ys.length := by omega
    exact ⟨x.cps[i], ys, ys[i], Array.getElem?_eq_getElem h1, h, List.getElem?_eq_getElem h3⟩
  stops := fun H h => ⟨ys, h, by omega, by omega, by omega⟩
  yields := fun i H v H' hi h y => by
    obtain ⟨T, c, y, rfl, hT, rfl, hc, f⟩ := y
    exact ⟨T, _, y, rfl, hT, rfl, by simp [hc], f ys h⟩

/-! ### enumerate(tuple) -/
/-- the cell that a new enumerate fills: its reader stands at `at_` -/
abbrev enumCell (at_ : Addr) : Obj := { cls := .type "enumerate", data := .fields #[.none, .bool false, .ref at_, rawInt 0, .none, .none] }
theorem meets_enum {v : Value} {o : Obj} {Pr : Heap → Prop} (B : Begins v o Pr) :
    Meets (Builtin.«enumerate.__new__» ⟨[.type "enumerate", v], []⟩)
      (fun _ R s => Pr s.heap ∧ R (.ok (.ret (.ref (s.heap.push o).objs.size))) { s with heap := (s.heap.push o).push (enumCell s.heap.objs.size) }) := by
  refine .of_wp fun pr wo Ar R sh ⟨ready, post⟩ => ?_
  obtain ⟨hp, gl, ds, τ, ou⟩ := sh
  have below := sub_enumerate
  have begin_ : ∀ {Ar' : Around} {Er Q : Value → Shared → Prop}, Q (.ref hp.objs.size) ⟨hp.push o, gl, ds, τ, ou⟩ →
      wpAny (model pr wo) Ar' (pyIter v) Q Er ⟨hp, gl, ds, τ, ou⟩ :=
    fun go => B.iter pr wo _ _ ⟨hp, gl, ds, τ, ou⟩ _ ready go
  wp_walk using begin_
  refine wpAny_stack_any fun _ => ?_
  refine wpAny_pure ?_
  split
  · rename_i cl _ _ _ _ _
    cases (cl == Value.type "enumerate") <;> (wp_walk using begin_; exact ⟨_, rfl, post⟩)
  · wp_walk using begin_
    exact ⟨_, rfl, post⟩
theorem enum_starts {pr : Program} {wo : World} {Ar : Around} {Er Q : Value → Shared → Prop} {sh : Shared} {v : Value} {o : Obj} {Pr : Heap → Prop} (B : Begins v o Pr) (ready : Pr sh.heap)
    (post : ∀ hp, IsEnum hp (sh.heap.objs.size + 1) sh.heap.objs.size 0 .none → hp.get? sh.heap.objs.size = some o →
      (∀ l ob, sh.heap.get? l = some ob → hp.get? l = some ob) → Q (.ref (sh.heap.objs.size + 1)) { sh with heap := hp }) :
    wpAny (model pr wo) Ar (call (.type "enumerate") [v]) Q Er sh := by
  have grown : (sh.heap.push o).objs.size = sh.heap.objs.size + 1 := Heap.size_push ..
  have cell : IsEnum ((sh.heap.push o).push (enumCell sh.heap.objs.size)) (sh.heap.objs.size + 1) sh.heap.objs.size 0 .none := by
    have top := Heap.get?_push_size (sh.heap.push o) (o := enumCell sh.heap.objs.size) rfl
    rwa [grown] at top
  refine callType_new F.called_enumerate (by decide) (F.typeCall_enumerate_1 _) (F.newCall_enumerate_1 _) (fun _ => F.args_object_init_2 _ _)
    F.entry_enumerate_new (meets_enum B) ⟨ready, ?_⟩
  show _ ∧ _
  rw [grown]
  refine ⟨⟨_, cell, rfl⟩, post _ cell ?_ fun l ob at_ => ?_⟩
  · exact Heap.get?_push_of_some _ (Heap.get?_push_size _ B.free)
  · exact Heap.get?_push_of_some _ (Heap.get?_push_of_some _ at_)

/-- number and item, in new pairs -/
def IteT (K : PySem.W.Frag) (a : Addr) : It :=
  ⟨fun n H => ∃ (xs : List V) (x : V), SqT K H a xs ∧ xs[n]? = some x,
    fun n H v H' => ∃ T x, v = .ref T ∧ H T = none ∧ H' = upd H T (.tup [.int (n : Nat), x]) ∧ ∀ xs, SqT K H a xs → xs[n]? = some x,
    fun n H => ∃ xs : List V, SqT K H a xs ∧ xs.length = n⟩
/-- the two cells of the running enumerate -/
def ECells (a e r : Addr) (n : Nat) (hp : Heap) : Prop := (∃ last, IsEnum hp e r ((n : Nat) : Int) last) ∧ hp.IsTupleIter r a n ∧ e ≠ r
theorem ECells.lt {a e r : Addr} {n : Nat} {hp : Heap} (st : ECells a e r n hp) : ∀ l, l ∈ [e, r] → l < hp.objs.size := by
  obtain ⟨⟨_, ce⟩, ⟨_, cr, _⟩, _⟩ := st
  exact of2 (Heap.lt_size ce) (Heap.lt_size cr)
theorem turn_enumT {P : Program} {w : World} {K : PySem.W.Frag} {elts : List Expr} {kk : Nat} {tpos : Pos} (a e r : Addr) (ae : a ≠ e) (ar : a ≠ r) :
    Turn P w K (.Tuple elts kk tpos) (IteT K a) [e, r] e (ECells a e r) where
  mem := List.mem_cons_self
  obj := fun _ _ st => by
    obtain ⟨⟨_, ce⟩, ⟨oT, cr, _, g⟩, _⟩ := st
    refine of2 ⟨_, ce, ?_⟩ ⟨oT, cr, ?_⟩
    · intro _ f; cases f
    · intro _ f; cases g.symm.trans f
  keep := fun _ _ _ st kp => by
    obtain ⟨⟨last, ce⟩, ⟨oT, cr, rest⟩, ner⟩ := st
    exact ⟨⟨last, kp e (by simp) _ ce⟩, ⟨oT, kp r (by simp) oT cr, rest⟩, ner⟩
  item := by
    intro X hP hw hK cool n pn sh τ Hp Er iv fp st gh
    subst hP hw hK
    have less := ECells.lt st
    obtain ⟨⟨last, ce⟩, cr, ner⟩ := st
    obtain ⟨xs, x, sq, ex⟩ := gh
    obtain ⟨vs, rel, ptr, _⟩ := iv.tuple sq
    obtain ⟨ux, hux, rux⟩ := rel.get ex
    have elt := less e (by simp)
    have nlt : n < vs.toArray.size := by
      have := (List.getElem?_eq_some_iff.mp hux).1
      simpa using this
    have calm : X.A.in1.handled = none := iv.ok.hd cool
    have apart : e ∉ [r, a] := by simpa using ⟨ner, ae.symm⟩
    refine wpAny_pyNext_enum_itemC (Draws.tuple calm r a ar vs.toArray) ce ⟨cr, ptr⟩ nlt ner apart fun p1 hp' tk y1 ne nr nT _ kept => ?_
    obtain rfl : p1 = ux := by
      have f1 : vs.toArray[n]? = some p1 := y1
      have f2 : vs.toArray[n]? = some ux := by simpa using hux
      exact Option.some.inj (f1.symm.trans f2)
    refine ⟨_, rfl, wpAny_letOwnedTupleGo_enum (s := { sh with heap := hp', toks := tk + 1 }) ne fun hp2 ne2 same => ?_⟩
    have cell : hp2.get? sh.heap.objs.size = some { cls := .type "tuple", data := .seq #[.int n tk, p1] } :=
      (same.2 _ (Nat.ne_of_gt elt)).trans nT
    have made : ObjOk X.prog X.w (upd Hp sh.heap.objs.size (.tup [.int (n : Nat), x])) hp2 sh.heap.objs.size (.tup [.int (n : Nat), x]) := by
      refine ⟨?_, [.int n tk, p1], .cons ⟨_, rfl⟩ (.cons rux .nil), _, cell, rfl, _, rfl⟩
      show 2 ≤ sizeLine
      decide
    have old : ∀ l o, l ∉ [e, r] → sh.heap.get? l = some o → hp2.get? l = some o := fun l o far at_ => by
      obtain ⟨d1, d2⟩ := out2 far
      exact (same.2 l d1).trans (kept l o d1 d2 at_)
    have iv2 : Inv X pn τ (upd Hp sh.heap.objs.size (.tup [.int (n : Nat), x])) { sh with heap := hp2, toks := tk + 1 } :=
      iv.turnedNew (ch := [e, r]) old fp (Nat.le_refl _) made
    refine ⟨.ref sh.heap.objs.size, _, iv2, rfl, ⟨_, x, rfl, iv.hok.fresh (Nat.le_refl _), rfl, fun l hl => ?_⟩, ⟨⟨p1, ?_⟩, ?_, ner⟩, fun l hl => ?_⟩
    · rw [iv.tuple_inj hl sq]; exact ex
    · have up : ((n + 1 : Nat) : Int) = (n : Int) + 1 := rfl
      rw [up]
      exact ne2
    · obtain ⟨⟨oT, at_, rest⟩, _⟩ := nr
      exact ⟨oT, (same.2 r ner.symm).trans at_, rest⟩
    · have := (fp l hl).1
      rwa [upd_ne (Nat.ne_of_lt (less l hl))]
  done := by
    intro X hP hw hK cool n pn sh τ Hp Er iv fp st gh
    subst hP hw hK
    obtain ⟨⟨last, ce⟩, cr, _⟩ := st
    obtain ⟨xs, sq, ex⟩ := gh
    obtain ⟨vs, rel, ptr, _⟩ := iv.tuple sq
    obtain ⟨k0, k1, _, k3, k4, k5⟩ := fp r (by simp)
    have calm : X.A.in1.handled = none := iv.ok.hd cool
    have all : n = vs.toArray.size := by
      have := rel.length
      simp; omega
    subst all
    refine wpAny_pyNext_enum_endD (Draws.tuple calm r a ar vs.toArray) ce ⟨cr, ptr⟩ fun hp' kept => ⟨rfl, ?_⟩
    exact iv.turned (t' := sh.toks) (fun l o far at_ => kept l o far at_) k0 k1 k3 k4 k5
  self := fun _ _ _ _ _ st q => by
    obtain ⟨⟨_, ce⟩, _⟩ := st
    exact wpAny_pyIter_enum ce q
def iEnumT (K : PySem.W.Frag) (ta : TA) : TI := fun σ H R => ta σ H fun vs H1 => ∃ a xs, vs = [.ref a] ∧ SqT K H1 a xs ∧ R (IteT K a) H1
theorem pi_enumT {X : Cx} {e : Expr} {ta : TA} {p pos tpos : Pos} {elts : List Expr} {kk : Nat} (hg : Gl X "enumerate") (hm : X.mg "enumerate" = none) (ha : PA X [e] ta)
    (nostar : starEach [e] X.env = [(false, eval e X.env)] := by rfl) :
    PI X (.Tuple elts kk tpos) (.Call (.Name "enumerate" p) [e] [] pos) (iEnumT X.K ta) := by
  constructor
  intro pn sh τ Hp R iv hq
  have args := ha.run pos pn sh τ Hp _ iv hq
  refine Call_ (ld_blt iv hg hm boot_enumerate (PyProof.Rows.callWith_type1 (thn args ?_) nostar rfl))
  rintro us s1 ⟨vals, H1, iv1, rel, a, xs, rfl, sq, post⟩
  rcases rel with _ | ⟨r, _ | _⟩
  cases r
  obtain ⟨vs, _, ptr, _⟩ := iv1.tuple sq
  obtain ⟨ob, at_, _⟩ := id ptr
  have alt : a < s1.heap.objs.size := Heap.lt_size at_
  have fresh : ∀ l, s1.heap.objs.size ≤ l → FpOk X pn H1 l := fun l hl => iv1.fpOk hl (iv1.hok.fresh hl)
  refine enum_starts (begins_tuple a vs.toArray) ptr fun hp' ce cr kept => wpAny_pyIter_enum ce ?_
  refine ⟨s1.heap.objs.size + 1, [s1.heap.objs.size + 1, s1.heap.objs.size], _, _, H1, rfl, iv1.kept (t' := s1.toks) kept, turn_enumT a _ s1.heap.objs.size (Nat.ne_of_lt (Nat.lt_succ_of_lt alt)) (Nat.ne_of_lt alt), ?_, ?_, post⟩
  · exact ⟨⟨.none, ce⟩, ⟨_, cr, rfl, rfl⟩, Nat.succ_ne_self _⟩
  · exact of2 (fresh _ (by omega)) (fresh _ (by omega))
theorem walk_enumT {K : PySem.W.Frag} {a : Addr} {xs : List V} : Walk (IteT K a) xs.length (fun H => SqT K H a xs) (YPair (fun i => some (.int (i : Nat))) (fun i => xs[i]?)) where
  goes := fun i H hi h => ⟨xs, xs[i], h, List.getElem?_eq_getElem hi⟩
  stops := fun H h => ⟨xs, h, rfl⟩
  yields := fun i H v H' hi h y => by
    obtain ⟨T, x, rfl, hT, rfl, f⟩ := y
    exact ⟨T, _, x, rfl, hT, rfl, rfl, f xs h⟩
end K70

/-! What stands in the heap: tuples of tuples, the tape, the machine; what a step leaves as it was. -/
namespace K70
open PySem L2

/-! ### lists pair by pair -/
theorem Pd.append {α β : Type} {R : α → β → Prop} : ∀ {a : List α} {b : List β} {c : List α} {d : List β}, Paired R a b → Paired R c d → Paired R (a ++ c) (b ++ d)
  | _, _, _, _, .nil, s => s
  | _, _, _, _, .cons r t, s => .cons r (Pd.append t s)
theorem Pd.snoc {α β : Type} {R : α → β → Prop} {a : List α} {b : List β} {x : α} {y : β} (h : Paired R a b) (r : R x y) : Paired R (a ++ [x]) (b ++ [y]) := Pd.append h (.cons r .nil)
theorem Pd.mono {α β : Type} {R S : α → β → Prop} (f : ∀ x y, R x y → S x y) : ∀ {a : List α} {b : List β}, Paired R a b → Paired S a b
  | _, _, .nil => .nil
  | _, _, .cons r t => .cons (f _ _ r) (Pd.mono f t)
theorem Pd.get {α β : Type} {R : α → β → Prop} : ∀ {a : List α} {b : List β}, Paired R a b → ∀ {i : Nat} {y : β}, b[i]? = some y → ∃ x, a[i]? = some x ∧ R x y
  | _, _, .nil, i, y, h => by simp at h
  | _, _, .cons r t, 0, y, h => by simp at h; subst h; exact ⟨_, rfl, r⟩
  | _, _, .cons r t, i + 1, y, h => by
    obtain ⟨x, e, q⟩ := Pd.get t (i := i) (y := y) (by simpa using h)
    exact ⟨x, by simpa using e, q⟩
theorem Pd.get' {α β : Type} {R : α → β → Prop} : ∀ {a : List α} {b : List β}, Paired R a b → ∀ {i : Nat} {x : α}, a[i]? = some x → ∃ y, b[i]? = some y ∧ R x y
  | _, _, .nil, i, y, h => by simp at h
  | _, _, .cons r t, 0, y, h => by simp at h; subst h; exact ⟨_, rfl, r⟩
  | _, _, .cons r t, i + 1, y, h => by
    obtain ⟨x, e, q⟩ := Pd.get' t (i := i) (x := y) (by simpa using h)
    exact ⟨x, by simpa using e, q⟩
theorem Pd.len {α β : Type} {R : α → β → Prop} : ∀ {a : List α} {b : List β}, Paired R a b → a.length = b.length
  | _, _, .nil => rfl
  | _, _, .cons _ t => by simp [Pd.len t]

/-! ### tuples stay -/
def TX (H H' : Hp) : Prop := ∀ a xs, H a = some (.tup xs) → H' a = some (.tup xs)
theorem TX.refl (H : Hp) : TX H H := fun _ _ h => h
theorem TX.trans {A B C : Hp} (h : TX A B) (k : TX B C) : TX A C := fun a xs e => k a xs (h a xs e)
theorem Same.tx {H H' : Hp} (s : Same H H') : TX H H' := fun a xs h => s _ _ h
theorem Same.alloc {H : Hp} {p : Addr} {o : HO} (n : H p = none) : Same H (upd H p o) := fun b u e => by
  rw [upd_ne (ne_of_none e n)]; exact e
theorem Same.alloc' {H0 H : Hp} {p : Addr} {o : HO} (s : Same H0 H) (n : H p = none) : Same H0 (upd H p o) := s.trans (Same.alloc n)
/-- an object that is new since H0 is written -/
theorem Same.write {H0 H : Hp} {p : Addr} {o : HO} (s : Same H0 H) (n : H0 p = none) : Same H0 (upd H p o) := fun b u e => by
  rw [upd_ne (ne_of_none e n)]; exact s b u e
theorem TX.write {H : Hp} {p : Addr} {o u : HO} (h : H p = some u) (d : ∀ xs, u ≠ .tup xs) : TX H (upd H p o) := fun a xs e => by
  have : a ≠ p := fun q => by subst q; rw [h] at e; exact d xs (Option.some.inj e)
  rw [upd_ne this]; exact e
theorem tx_alloc {H : Hp} {p : Addr} {o : HO} (n : H p = none) : TX H (upd H p o) := Same.tx (Same.alloc n)
theorem tx_lst {H : Hp} {p : Addr} {o : HO} {xs : List V} (h : H p = some (.lst xs)) : TX H (upd H p o) := TX.write h (fun _ z => by cases z)

/-- a value and what it tells, through the tuples alone -/
def Mono {α : Type} (R : Hp → V → α → Prop) : Prop := ∀ H H' v x, TX H H' → R H v x → R H' v x
def TupOf {α : Type} (R : Hp → V → α → Prop) (H : Hp) (v : V) (l : List α) : Prop := ∃ a vs, v = .ref a ∧ H a = some (.tup vs) ∧ Paired (R H) vs l
theorem TupOf.mono {α : Type} {R : Hp → V → α → Prop} (m : Mono R) : Mono (TupOf R) := fun H H' v l tx h => by
  obtain ⟨a, vs, e, ha, p⟩ := h
  exact ⟨a, vs, e, tx _ _ ha, Pd.mono (fun x y r => m _ _ _ _ tx r) p⟩
def RInt (_ : Hp) (v : V) (i : Int) : Prop := v = .int i
theorem RInt.mono : Mono RInt := fun _ _ _ _ _ h => h
def RMove (H : Hp) (v : V) (p : Int × Nat) : Prop := ∃ b, v = .ref b ∧ H b = some (.tup [.int p.1, .int (p.2 : Nat)])
theorem RMove.mono : Mono RMove := fun H H' v p tx h => by
  obtain ⟨b, e, hb⟩ := h
  exact ⟨b, e, tx _ _ hb⟩
abbrev RLine := TupOf RMove
abbrev RRows := TupOf RLine
abbrev RMoves := TupOf RRows
theorem RLine.mono : Mono RLine := TupOf.mono RMove.mono
theorem RRows.mono : Mono RRows := TupOf.mono RLine.mono
theorem RMoves.mono : Mono RMoves := TupOf.mono RRows.mono
abbrev WLine := TupOf RInt
abbrev WRows := TupOf WLine
abbrev WMeter := TupOf WRows
theorem WLine.mono : Mono WLine := TupOf.mono RInt.mono
theorem WRows.mono : Mono WRows := TupOf.mono WLine.mono
theorem WMeter.mono : Mono WMeter := TupOf.mono WRows.mono
theorem Pd.tx {α : Type} {R : Hp → V → α → Prop} (m : Mono R) {H H' : Hp} {vs : List V} {l : List α} (tx : TX H H') (h : Paired (R H) vs l) : Paired (R H') vs l := Pd.mono (fun x y r => m _ _ _ _ tx r) h
/-- the item of a tuple at a place -/
theorem TupOf.get {α : Type} {R : Hp → V → α → Prop} {K : PySem.W.Frag} {H : Hp} {v : V} {l : List α} (h : TupOf R H v l) {i : Nat} {x : α} (e : l[i]? = some x) :
    ∃ a vs u, v = .ref a ∧ SqT K H a vs ∧ atI vs ((i : Nat) : Int) = some u ∧ R H u x := by
  obtain ⟨a, vs, rfl, ha, p⟩ := h
  obtain ⟨u, hu, r⟩ := Pd.get p e
  exact ⟨a, vs, u, rfl, SqT.of ha, atI_nat hu, r⟩

/-! ### the tape -/
structure Tape where
  t : Addr
  inner : Addr
  ns : List Int
def TapeAt (T : Tape) (H : Hp) : Prop := ∃ (i : Nat) (d s c : Int), H T.t = some (.lst [.ref T.inner, .int (i : Nat), .int d, .int s, .int c]) ∧ H T.inner = some (.lst (T.ns.map V.int)) ∧ T.inner ≠ T.t
/-- all but the tape is as it was; the tape is one -/
structure TS (T : Tape) (H0 H : Hp) : Prop where
  but : ∀ b o, b ≠ T.t → H0 b = some o → H b = some o
  at0 : TapeAt T H0
  at1 : TapeAt T H
theorem TS.refl {T : Tape} {H : Hp} (h : TapeAt T H) : TS T H H := ⟨fun _ _ _ e => e, h, h⟩
theorem TS.trans {T : Tape} {A B C : Hp} (h : TS T A B) (k : TS T B C) : TS T A C := ⟨fun b o n e => k.but b o n (h.but b o n e), h.at0, k.at1⟩
theorem TapeAt.some {T : Tape} {H : Hp} (h : TapeAt T H) : ∃ xs, H T.t = some (.lst xs) := by
  obtain ⟨i, d, s, c, e, _⟩ := h
  exact ⟨_, e⟩
theorem TapeAt.same {T : Tape} {H H' : Hp} (h : TapeAt T H) (s : Same H H') : TapeAt T H' := by
  obtain ⟨i, d, s', c, e, k, n⟩ := h
  exact ⟨i, d, s', c, s _ _ e, s _ _ k, n⟩
theorem TS.same {T : Tape} {A B C : Hp} (h : TS T A B) (k : Same B C) : TS T A C := ⟨fun b o n e => k _ _ (h.but b o n e), h.at0, h.at1.same k⟩
theorem TS.alloc {T : Tape} {A B : Hp} {p : Addr} {o : HO} (h : TS T A B) (n : B p = none) : TS T A (upd B p o) := h.same (Same.alloc n)
theorem TS.free {T : Tape} {A B : Hp} (h : TS T A B) {p : Addr} (n : B p = none) : A p = none := by
  cases e : A p with
  | none => rfl
  | some o =>
    by_cases q : p = T.t
    · subst q
      obtain ⟨xs, z⟩ := h.at1.some
      rw [z] at n; cases n
    · rw [h.but p o q e] at n; cases n
theorem TS.write {T : Tape} {A B : Hp} {p : Addr} {o : HO} (h : TS T A B) (n : A p = none) : TS T A (upd B p o) where
  but := fun b u q e => by rw [upd_ne (ne_of_none e n)]; exact h.but b u q e
  at0 := h.at0
  at1 := by
    obtain ⟨i, d, s, c, e, k, ne⟩ := h.at1
    obtain ⟨i0, d0, s0, c0, e0, k0, _⟩ := h.at0
    exact ⟨i, d, s, c, by rw [upd_ne (ne_of_none e0 n)]; exact e, by rw [upd_ne (ne_of_none k0 n)]; exact k, ne⟩
theorem TS.keep {T : Tape} {A B : Hp} (h : TS T A B) {b : Addr} {o : HO} (e : A b = some o) (d : ∀ xs, o ≠ .lst xs) : B b = some o := by
  refine h.but b o (fun q => ?_) e
  subst q
  obtain ⟨xs, z⟩ := h.at0.some
  rw [z] at e
  exact d xs (Option.some.inj e).symm
theorem TS.tx {T : Tape} {A B : Hp} (h : TS T A B) : TX A B := fun a xs e => h.keep e (fun _ z => by cases z)
/-- a list of one's own is not the tape -/
theorem TS.own {T : Tape} {A B C : Hp} (h : TS T A B) (k : TS T B C) {p : Addr} {o : HO} (n : A p = none) (e : B p = some o) : C p = some o := by
  refine k.but p o (fun q => ?_) e
  subst q
  obtain ⟨xs, z⟩ := h.at0.some
  rw [z] at n; cases n

/-! ### the machine's parts -/
def strOf (l : List Nat) : Str := ⟨l.toArray⟩
def ch (c : Nat) : Str := ⟨#[c]⟩
def PartsAt (P : Parts) (H : Hp) (v : V) : Prop := ∃ a m, v = .ref a ∧ H a = some (.tup [.str (strOf P.rows), .int (P.ans : Nat), m]) ∧ RMoves H m P.moves
theorem PartsAt.tx {P : Parts} {H H' : Hp} {v : V} (h : PartsAt P H v) (tx : TX H H') : PartsAt P H' v := by
  obtain ⟨a, m, e, ha, hm⟩ := h
  exact ⟨a, m, e, tx _ _ ha, RMoves.mono _ _ _ _ tx hm⟩
/-- a row and an answer -/
def RSign (P : Parts) (H : Hp) (v : V) (ja : Nat × Nat) : Prop := ∃ b c, v = .ref b ∧ P.rows[ja.1]? = some c ∧ H b = some (.tup [.str (ch c), .int (ja.2 : Nat)])
theorem RSign.mono (P : Parts) : Mono (RSign P) := fun H H' v p tx h => by
  obtain ⟨b, c, e, hc, hb⟩ := h
  exact ⟨b, c, e, hc, tx _ _ hb⟩
def SignsAt (P : Parts) (H : Hp) (p : Addr) (l : List (Nat × Nat)) : Prop := ∃ vs, H p = some (.lst vs) ∧ Paired (RSign P H) vs l

/-- a pair (run, reading) -/
def REnt (L : Nat) (H : Hp) (v : V) (r : Int) : Prop := ∃ b c z t ys, v = .ref b ∧ H b = some (.tup [.ref c, .int r]) ∧ H c = some (.tup [.str z, .ref t]) ∧ H t = some (.tup ys) ∧ z.length ≤ L ∧ ys.length ≤ L
theorem REnt.mono (L : Nat) : Mono (REnt L) := fun H H' v p tx h => by
  obtain ⟨b, c, z, t, ys, e, hb, hc, ht, l1, l2⟩ := h
  exact ⟨b, c, z, t, ys, e, tx _ _ hb, tx _ _ hc, tx _ _ ht, l1, l2⟩
theorem REnt.le {L L' : Nat} (h : L ≤ L') {H : Hp} {v : V} {r : Int} (e : REnt L H v r) : REnt L' H v r := by
  obtain ⟨b, c, z, t, ys, e, hb, hc, ht, l1, l2⟩ := e
  exact ⟨b, c, z, t, ys, e, hb, hc, ht, Nat.le_trans l1 h, Nat.le_trans l2 h⟩
/-- the dict of the going: its pairs in order -/
def RKv (L : Nat) (H : Hp) (kv : Key × V) (x : Nat × Int) : Prop := kv.1 = Sum.inl (x.1 : Int) ∧ REnt L H kv.2 x.2
def FndAt (L : Nat) (H : Hp) (kvs : List (Key × V)) (F : Fnd) : Prop := Paired (RKv L H) kvs F
theorem FndAt.tx {L : Nat} {H H' : Hp} {kvs : List (Key × V)} {F : Fnd} (h : FndAt L H kvs F) (tx : TX H H') : FndAt L H' kvs F := Pd.mono (fun x y r => ⟨r.1, REnt.mono _ _ _ _ _ tx r.2⟩) h
theorem FndAt.le {L L' : Nat} {H : Hp} {kvs : List (Key × V)} {F : Fnd} (h : FndAt L H kvs F) (l : L ≤ L') : FndAt L' H kvs F := Pd.mono (fun x y r => ⟨r.1, REnt.le l r.2⟩) h
theorem FndAt.val {L : Nat} {H : Hp} : ∀ {kvs : List (Key × V)} {F : Fnd}, FndAt L H kvs F → (keys F).Nodup → ∀ {i s : Nat} {r : Int}, F[i]? = some (s, r) → ∃ v, valV kvs (Sum.inl (s : Int) : Key) = some v ∧ REnt L H v r
  | _, _, .nil, _, i, s, r, h => by simp at h
  | _, _, .cons (a := kv) (b := x) q t, nd, 0, s, r, h => by
    have e : x = (s, r) := Option.some.inj h
    subst e
    exact ⟨kv.2, valV_pos q.1, q.2⟩
  | _, _, .cons (a := kv) (b := x) (l₂ := F) q t, nd, i + 1, s, r, h => by
    obtain ⟨hk, nd'⟩ := List.nodup_cons.mp (show (x.1 :: keys F).Nodup from nd)
    have h' : F[i]? = some (s, r) := by simpa using h
    have hne : ¬ kv.1 = (Sum.inl (s : Int) : Key) := fun e => by
      rw [q.1] at e
      have e1 : (x.1 : Int) = (s : Int) := Sum.inl.inj e
      have e2 : x.1 = s := by omega
      exact hk (by rw [e2]; exact List.mem_map.mpr ⟨(s, r), mem_of h', rfl⟩)
    obtain ⟨v, hv, hr⟩ := FndAt.val t nd' h'
    exact ⟨v, by rw [valV_neg hne]; exact hv, hr⟩
theorem FndAt.none {L : Nat} {H : Hp} : ∀ {kvs : List (Key × V)} {F : Fnd}, FndAt L H kvs F → ∀ {s : Nat}, s ∉ keys F → valV kvs (Sum.inl (s : Int) : Key) = none
  | _, _, .nil, s, _ => rfl
  | _, _, .cons (a := kv) (b := x) (l₂ := F) q t, s, h => by
    have hne : ¬ kv.1 = (Sum.inl (s : Int) : Key) := fun e => by
      rw [q.1] at e
      have e1 : (x.1 : Int) = (s : Int) := Sum.inl.inj e
      have e2 : x.1 = s := by omega
      exact h (by rw [← e2]; exact List.mem_map.mpr ⟨x, List.mem_cons_self .., rfl⟩)
    rw [valV_neg hne]
    exact FndAt.none t fun z => h (List.mem_cons_of_mem _ z)
theorem FndAt.keysK {L : Nat} {H : Hp} : ∀ {kvs : List (Key × V)} {F : Fnd}, FndAt L H kvs F → kvs.map (fun kv => kV kv.1) = (keys F).map fun s => V.int (s : Nat)
  | _, _, .nil => rfl
  | _, _, .cons (a := kv) (b := x) (l₂ := F) q t => by
    show kV kv.1 :: _ = V.int (x.1 : Nat) :: _
    rw [q.1]
    exact congrArg _ (FndAt.keysK t)
end K70

/-! The text by places; the facts of the top that the walk asks. -/
namespace K70
open PySem L2
def topS (i : Nat) : Stmt := PySem.Challenge.pw_stretchprices_k70_whole_turns_and_rests.main.body.getD i (.Pass ⟨0, 0, 0, 0⟩)

abbrev s_common_divisor : Stmt := topS 6
abbrev N_common_divisor : List Str := ["one", "other"]
theorem sc_common_divisor : FnScope N_common_divisor ["one", "other"] (defScope s_common_divisor) := ⟨rfl, rfl, rfl, by decide +kernel, rfl, by decide +kernel, by decide +kernel⟩
abbrev s_is_integer : Stmt := topS 10
abbrev N_is_integer : List Str := ["thing"]
theorem sc_is_integer : FnScope N_is_integer ["thing"] (defScope s_is_integer) := ⟨rfl, rfl, rfl, by decide +kernel, rfl, by decide +kernel, by decide +kernel⟩
abbrev s_is_within : Stmt := topS 11
abbrev N_is_within : List Str := ["thing", "least", "most"]
theorem sc_is_within : FnScope N_is_within ["thing", "least", "most"] (defScope s_is_within) := ⟨rfl, rfl, rfl, by decide +kernel, rfl, by decide +kernel, by decide +kernel⟩
abbrev s_is_pair : Stmt := topS 12
abbrev N_is_pair : List Str := ["thing"]
theorem sc_is_pair : FnScope N_is_pair ["thing"] (defScope s_is_pair) := ⟨rfl, rfl, rfl, by decide +kernel, rfl, by decide +kernel, by decide +kernel⟩
abbrev s_is_string_of : Stmt := topS 13
abbrev N_is_string_of : List Str := ["thing", "signs", "sign"]
theorem sc_is_string_of : FnScope N_is_string_of ["thing", "signs"] (defScope s_is_string_of) := ⟨rfl, rfl, rfl, by decide +kernel, rfl, by decide +kernel, by decide +kernel⟩
abbrev s_is_word : Stmt := topS 14
abbrev N_is_word : List Str := ["thing"]
theorem sc_is_word : FnScope N_is_word ["thing"] (defScope s_is_word) := ⟨rfl, rfl, rfl, by decide +kernel, rfl, by decide +kernel, by decide +kernel⟩
abbrev s_is_ascending : Stmt := topS 15
abbrev N_is_ascending : List Str := ["word", "at"]
theorem sc_is_ascending : FnScope N_is_ascending ["word"] (defScope s_is_ascending) := ⟨rfl, rfl, rfl, by decide +kernel, rfl, by decide +kernel, by decide +kernel⟩
abbrev s_is_rows : Stmt := topS 16
abbrev N_is_rows : List Str := ["thing"]
theorem sc_is_rows : FnScope N_is_rows ["thing"] (defScope s_is_rows) := ⟨rfl, rfl, rfl, by decide +kernel, rfl, by decide +kernel, by decide +kernel⟩
abbrev s_is_move : Stmt := topS 21
abbrev N_is_move : List Str := ["thing", "size"]
theorem sc_is_move : FnScope N_is_move ["thing", "size"] (defScope s_is_move) := ⟨rfl, rfl, rfl, by decide +kernel, rfl, by decide +kernel, by decide +kernel⟩
abbrev s_are_moves : Stmt := topS 22
abbrev N_are_moves : List Str := ["thing", "rows", "answers", "standing", "moves", "move"]
theorem sc_are_moves : FnScope N_are_moves ["thing", "rows", "answers"] (defScope s_are_moves) := ⟨rfl, rfl, rfl, by decide +kernel, rfl, by decide +kernel, by decide +kernel⟩
abbrev s_Machine___init__ : Stmt := inClass (topS 23) 0
abbrev N_Machine___init__ : List Str := ["self", "rows", "answers", "moves"]
theorem sc_Machine___init__ : FnScope N_Machine___init__ ["self", "rows", "answers", "moves"] (defScope s_Machine___init__) := ⟨rfl, rfl, rfl, by decide +kernel, rfl, by decide +kernel, by decide +kernel⟩
abbrev s_Machine_keep : Stmt := inClass (topS 23) 1
abbrev N_Machine_keep : List Str := ["self", "rows", "answers", "moves", "standing", "lines", "row", "line", "answer", "move"]
theorem sc_Machine_keep : FnScope N_Machine_keep ["self", "rows", "answers", "moves"] (defScope s_Machine_keep) := ⟨rfl, rfl, rfl, by decide +kernel, rfl, by decide +kernel, by decide +kernel⟩
abbrev s_signs_of : Stmt := topS 24
abbrev N_signs_of : List Str := ["machine", "row", "answer"]
theorem sc_signs_of : FnScope N_signs_of ["machine"] (defScope s_signs_of) := ⟨rfl, rfl, rfl, by decide +kernel, rfl, by decide +kernel, by decide +kernel⟩
abbrev s_is_meter : Stmt := topS 27
abbrev N_is_meter : List Str := ["machine", "thing", "lines", "line", "item"]
theorem sc_is_meter : FnScope N_is_meter ["machine", "thing"] (defScope s_is_meter) := ⟨rfl, rfl, rfl, by decide +kernel, rfl, by decide +kernel, by decide +kernel⟩
abbrev s_check_meter : Stmt := topS 28
abbrev N_check_meter : List Str := ["machine", "thing"]
theorem sc_check_meter : FnScope N_check_meter ["machine", "thing"] (defScope s_check_meter) := ⟨rfl, rfl, rfl, by decide +kernel, rfl, by decide +kernel, by decide +kernel⟩
abbrev s_worth_at : Stmt := topS 29
abbrev N_worth_at : List Str := ["machine", "meter", "standing", "row", "answer"]
theorem sc_worth_at : FnScope N_worth_at ["machine", "meter", "standing", "row", "answer"] (defScope s_worth_at) := ⟨rfl, rfl, rfl, by decide +kernel, rfl, by decide +kernel, by decide +kernel⟩
abbrev s_first_readings : Stmt := topS 32
abbrev N_first_readings : List Str := ["machine", "meter", "found", "waiting", "standing", "run", "read", "row", "answer", "goal", "longer"]
theorem sc_first_readings : FnScope N_first_readings ["machine", "meter"] (defScope s_first_readings) := ⟨rfl, rfl, rfl, by decide +kernel, rfl, by decide +kernel, by decide +kernel⟩
abbrev s_shifts : Stmt := topS 33
abbrev N_shifts : List Str := ["machine", "meter", "found", "rows", "standing", "run", "read", "row", "answer", "other", "its", "difference"]
theorem sc_shifts : FnScope N_shifts ["machine", "meter", "found"] (defScope s_shifts) := ⟨rfl, rfl, rfl, by decide +kernel, rfl, by decide +kernel, by decide +kernel⟩
abbrev s_turns : Stmt := topS 34
abbrev N_turns : List Str := ["machine", "meter", "found", "difference", "run", "other"]
theorem sc_turns : FnScope N_turns ["machine", "meter"] (defScope s_turns) := ⟨rfl, rfl, rfl, by decide +kernel, rfl, by decide +kernel, by decide +kernel⟩
abbrev s_check_divisor : Stmt := topS 35
abbrev N_check_divisor : List Str := ["machine", "meter", "m"]
theorem sc_check_divisor : FnScope N_check_divisor ["machine", "meter", "m"] (defScope s_check_divisor) := ⟨rfl, rfl, rfl, by decide +kernel, rfl, by decide +kernel, by decide +kernel⟩
abbrev s_rests : Stmt := topS 36
abbrev N_rests : List Str := ["machine", "meter", "m", "found", "difference", "run", "other", "standing", "read"]
theorem sc_rests : FnScope N_rests ["machine", "meter", "m"] (defScope s_rests) := ⟨rfl, rfl, rfl, by decide +kernel, rfl, by decide +kernel, by decide +kernel⟩
abbrev s_parting_rests : Stmt := topS 37
abbrev N_parting_rests : List Str := ["machine", "meter", "m", "difference", "run", "other"]
theorem sc_parting_rests : FnScope N_parting_rests ["machine", "meter", "m"] (defScope s_parting_rests) := ⟨rfl, rfl, rfl, by decide +kernel, rfl, by decide +kernel, by decide +kernel⟩
abbrev s__law_tape : Stmt := topS 39
abbrev N__law_tape : List Str := ["_law_script"]
theorem sc__law_tape : FnScope N__law_tape ["_law_script"] (defScope s__law_tape) := ⟨rfl, rfl, rfl, by decide +kernel, rfl, by decide +kernel, by decide +kernel⟩
abbrev s__law_pick : Stmt := topS 40
abbrev N__law_pick : List Str := ["_law_tape_here", "_law_size", "_law_digit", "_law_cell", "_law_mixed"]
theorem sc__law_pick : FnScope N__law_pick ["_law_tape_here", "_law_size"] (defScope s__law_pick) := ⟨rfl, rfl, rfl, by decide +kernel, rfl, by decide +kernel, by decide +kernel⟩
abbrev s__law_common : Stmt := topS 41
abbrev N__law_common : List Str := ["_law_one", "_law_other", "_law_turn", "_law_rest"]
theorem sc__law_common : FnScope N__law_common ["_law_one", "_law_other"] (defScope s__law_common) := ⟨rfl, rfl, rfl, by decide +kernel, rfl, by decide +kernel, by decide +kernel⟩
abbrev s__law_is_int : Stmt := topS 47
abbrev N__law_is_int : List Str := ["_law_thing"]
theorem sc__law_is_int : FnScope N__law_is_int ["_law_thing"] (defScope s__law_is_int) := ⟨rfl, rfl, rfl, by decide +kernel, rfl, by decide +kernel, by decide +kernel⟩
abbrev s__law_rows : Stmt := topS 49
abbrev N__law_rows : List Str := ["_law_tape_here", "_law_most", "_law_letters", "_law_many", "_law_start", "_law_found", "_law_k"]
theorem sc__law_rows : FnScope N__law_rows ["_law_tape_here", "_law_most"] (defScope s__law_rows) := ⟨rfl, rfl, rfl, by decide +kernel, rfl, by decide +kernel, by decide +kernel⟩
abbrev s__law_moves : Stmt := topS 50
abbrev N__law_moves : List Str := ["_law_tape_here", "_law_rows_here", "_law_answers", "_law_many", "_law_kind", "_law_heights", "_law_k", "_law_prices", "_law_row", "_law_moves_here", "_law_lines", "_law_at", "_law_line", "_law_answer", "_law_goal", "_law_ticks"]
theorem sc__law_moves : FnScope N__law_moves ["_law_tape_here", "_law_rows_here", "_law_answers", "_law_many"] (defScope s__law_moves) := ⟨rfl, rfl, rfl, by decide +kernel, rfl, by decide +kernel, by decide +kernel⟩
abbrev s__law_drawn : Stmt := topS 51
abbrev N__law_drawn : List Str := ["_law_tape_here", "_law_most_standings", "_law_most_rows", "_law_most_answers", "_law_rows_here", "_law_answers", "_law_many"]
theorem sc__law_drawn : FnScope N__law_drawn ["_law_tape_here", "_law_most_standings", "_law_most_rows", "_law_most_answers"] (defScope s__law_drawn) := ⟨rfl, rfl, rfl, by decide +kernel, rfl, by decide +kernel, by decide +kernel⟩
abbrev s__law_gone : Stmt := topS 52
abbrev N__law_gone : List Str := ["_law_parts", "_law_standing", "_law_row", "_law_answer"]
theorem sc__law_gone : FnScope N__law_gone ["_law_parts", "_law_standing", "_law_row", "_law_answer"] (defScope s__law_gone) := ⟨rfl, rfl, rfl, by decide +kernel, rfl, by decide +kernel, by decide +kernel⟩
abbrev s__law_signs : Stmt := topS 53
abbrev N__law_signs : List Str := ["_law_parts", "_law_found", "_law_row", "_law_answer"]
theorem sc__law_signs : FnScope N__law_signs ["_law_parts"] (defScope s__law_signs) := ⟨rfl, rfl, rfl, by decide +kernel, rfl, by decide +kernel, by decide +kernel⟩
abbrev s__law_run : Stmt := topS 54
abbrev N__law_run : List Str := ["_law_tape_here", "_law_parts", "_law_most", "_law_code", "_law_told", "_law_k", "_law_row", "_law_answer"]
theorem sc__law_run : FnScope N__law_run ["_law_tape_here", "_law_parts", "_law_most"] (defScope s__law_run) := ⟨rfl, rfl, rfl, by decide +kernel, rfl, by decide +kernel, by decide +kernel⟩
abbrev s__law_first : Stmt := topS 55
abbrev N__law_first : List Str := ["_law_parts", "_law_meter", "_law_found", "_law_waiting", "_law_turn", "_law_standing", "_law_run_here", "_law_read_here", "_law_row", "_law_answer", "_law_goal", "_law_worth"]
theorem sc__law_first : FnScope N__law_first ["_law_parts", "_law_meter"] (defScope s__law_first) := ⟨rfl, rfl, rfl, by decide +kernel, rfl, by decide +kernel, by decide +kernel⟩
abbrev s__law_divisor : Stmt := topS 56
abbrev N__law_divisor : List Str := ["_law_parts", "_law_meter", "_law_found", "_law_part", "_law_standing", "_law_row", "_law_answer", "_law_worth", "_law_goal"]
theorem sc__law_divisor : FnScope N__law_divisor ["_law_parts", "_law_meter"] (defScope s__law_divisor) := ⟨rfl, rfl, rfl, by decide +kernel, rfl, by decide +kernel, by decide +kernel⟩
abbrev s__law_modular_meter : Stmt := topS 57
abbrev N__law_modular_meter : List Str := ["_law_tape_here", "_law_parts", "_law_many", "_law_number", "_law_heights", "_law_k", "_law_found", "_law_lines", "_law_line", "_law_worths", "_law_ticks", "_law_goal", "_law_worth"]
theorem sc__law_modular_meter : FnScope N__law_modular_meter ["_law_tape_here", "_law_parts"] (defScope s__law_modular_meter) := ⟨rfl, rfl, rfl, by decide +kernel, rfl, by decide +kernel, by decide +kernel⟩
abbrev s__law_read : Stmt := topS 58
abbrev N__law_read : List Str := ["_law_parts", "_law_meter", "_law_run_here", "_law_standing", "_law_total", "_law_row", "_law_answer"]
theorem sc__law_read : FnScope N__law_read ["_law_parts", "_law_meter", "_law_run_here"] (defScope s__law_read) := ⟨rfl, rfl, rfl, by decide +kernel, rfl, by decide +kernel, by decide +kernel⟩
abbrev s_law : Stmt := topS 59
abbrev N_law : List Str := ["_law_script", "_law_tape_here", "_law_most", "_law_parts", "_law_meter", "_law_machine", "_law_due", "_law_told", "_law_reached", "_law_numbers", "_law_number", "_law_shown", "_law_k", "_law_read_here", "_law_standing", "_law_rest"]
theorem sc_law : FnScope N_law ["_law_script"] (defScope s_law) := ⟨rfl, rfl, rfl, by decide +kernel, rfl, by decide +kernel, by decide +kernel⟩

/-- a def of the module, where it stands -/
structure DefAt (K : PySem.W.Frag) (mg : Str → Option Value) (x : Str) (st : Stmt) (ps : List Str) where
  f : Addr
  fd : FuncData
  F : Fun K x x st f fd
  g : mg x = some (.ref f)
  b : Binds K fd ps []
/-- a method of Machine -/
structure MetAt (K : PySem.W.Frag) (C : Addr) (m q : Str) (st : Stmt) (ps : List Str) where
  f : Addr
  fd : FuncData
  F : Fun K m q st f fd
  me : Meth K C m f
  b : Binds K fd ps []
structure Txt (K : PySem.W.Frag) (mg : Str → Option Value) where
  z_len : mg "len" = none
  z_abs : mg "abs" = none
  z_int : mg "int" = none
  z_bool : mg "bool" = none
  z_str : mg "str" = none
  z_max : mg "max" = none
  z_sorted : mg "sorted" = none
  z_list : mg "list" = none
  z_tuple : mg "tuple" = none
  z_dict : mg "dict" = none
  z_isinstance : mg "isinstance" = none
  z_all : mg "all" = none
  z_range : mg "range" = none
  z_zip : mg "zip" = none
  z_enumerate : mg "enumerate" = none
  m_MOST_ROWS : ∃ t, mg "MOST_ROWS" = some (.int 4 t)
  m_MOST_ANSWERS : ∃ t, mg "MOST_ANSWERS" = some (.int 3 t)
  m_MOST_STANDINGS : ∃ t, mg "MOST_STANDINGS" = some (.int 12 t)
  m_MOST_TICKS : ∃ t, mg "MOST_TICKS" = some (.int 99 t)
  m_MOST_READING : ∃ t, mg "MOST_READING" = some (.int 99 t)
  m_SMALL : ∃ t, mg "SMALL" = some (.str "abcdefghijklmnopqrstuvwxyz" t)
  m_MOST_DIVISOR : ∃ t, mg "MOST_DIVISOR" = some (.int 1000000000000000000000000000000 t)
  C : Addr
  cl : Cls K C
  gC : mg "Machine" = some (.ref C)
  n_rows : NoAttr K C "rows"
  n_answers : NoAttr K C "answers"
  n_moves : NoAttr K C "moves"
  n_size : NoAttr K C "size"
  n_kept_steps : NoAttr K C "kept_steps"
  n_kept_webs : NoAttr K C "kept_webs"
  d_common_divisor : DefAt K mg "common_divisor" s_common_divisor ["one", "other"]
  d_is_integer : DefAt K mg "is_integer" s_is_integer ["thing"]
  d_is_within : DefAt K mg "is_within" s_is_within ["thing", "least", "most"]
  d_is_pair : DefAt K mg "is_pair" s_is_pair ["thing"]
  d_is_string_of : DefAt K mg "is_string_of" s_is_string_of ["thing", "signs"]
  d_is_word : DefAt K mg "is_word" s_is_word ["thing"]
  d_is_ascending : DefAt K mg "is_ascending" s_is_ascending ["word"]
  d_is_rows : DefAt K mg "is_rows" s_is_rows ["thing"]
  d_is_move : DefAt K mg "is_move" s_is_move ["thing", "size"]
  d_are_moves : DefAt K mg "are_moves" s_are_moves ["thing", "rows", "answers"]
  d_Machine___init__ : MetAt K C "__init__" "Machine.__init__" s_Machine___init__ ["self", "rows", "answers", "moves"]
  d_Machine_keep : MetAt K C "keep" "Machine.keep" s_Machine_keep ["self", "rows", "answers", "moves"]
  d_signs_of : DefAt K mg "signs_of" s_signs_of ["machine"]
  d_is_meter : DefAt K mg "is_meter" s_is_meter ["machine", "thing"]
  d_check_meter : DefAt K mg "check_meter" s_check_meter ["machine", "thing"]
  d_worth_at : DefAt K mg "worth_at" s_worth_at ["machine", "meter", "standing", "row", "answer"]
  d_first_readings : DefAt K mg "first_readings" s_first_readings ["machine", "meter"]
  d_shifts : DefAt K mg "shifts" s_shifts ["machine", "meter", "found"]
  d_turns : DefAt K mg "turns" s_turns ["machine", "meter"]
  d_check_divisor : DefAt K mg "check_divisor" s_check_divisor ["machine", "meter", "m"]
  d_rests : DefAt K mg "rests" s_rests ["machine", "meter", "m"]
  d_parting_rests : DefAt K mg "parting_rests" s_parting_rests ["machine", "meter", "m"]
  d__law_tape : DefAt K mg "_law_tape" s__law_tape ["_law_script"]
  d__law_pick : DefAt K mg "_law_pick" s__law_pick ["_law_tape_here", "_law_size"]
  d__law_common : DefAt K mg "_law_common" s__law_common ["_law_one", "_law_other"]
  d__law_is_int : DefAt K mg "_law_is_int" s__law_is_int ["_law_thing"]
  d__law_rows : DefAt K mg "_law_rows" s__law_rows ["_law_tape_here", "_law_most"]
  d__law_moves : DefAt K mg "_law_moves" s__law_moves ["_law_tape_here", "_law_rows_here", "_law_answers", "_law_many"]
  d__law_drawn : DefAt K mg "_law_drawn" s__law_drawn ["_law_tape_here", "_law_most_standings", "_law_most_rows", "_law_most_answers"]
  d__law_gone : DefAt K mg "_law_gone" s__law_gone ["_law_parts", "_law_standing", "_law_row", "_law_answer"]
  d__law_signs : DefAt K mg "_law_signs" s__law_signs ["_law_parts"]
  d__law_run : DefAt K mg "_law_run" s__law_run ["_law_tape_here", "_law_parts", "_law_most"]
  d__law_first : DefAt K mg "_law_first" s__law_first ["_law_parts", "_law_meter"]
  d__law_divisor : DefAt K mg "_law_divisor" s__law_divisor ["_law_parts", "_law_meter"]
  d__law_modular_meter : DefAt K mg "_law_modular_meter" s__law_modular_meter ["_law_tape_here", "_law_parts"]
  d__law_read : DefAt K mg "_law_read" s__law_read ["_law_parts", "_law_meter", "_law_run_here"]
  d_law : DefAt K mg "law" s_law ["_law_script"]
  mkM : Mk K C d_Machine___init__.f
end K70

namespace K70
open PySem L2
theorem ifP {c : Bool} {A B : Prop} (h : c = true) (a : A) : if c = true then A else B := by rw [if_pos h]; exact a
theorem ifN {c : Bool} {A B : Prop} (h : c = false) (b : B) : if c = true then A else B := by rw [if_neg (by rw [h]; decide)]; exact b
theorem kii {K : PySem.W.Frag} : PySem.W.kitOne K (.type "int") (.type "int") = some true := kit_ty (by decide +kernel)
theorem kib {K : PySem.W.Frag} : PySem.W.kitOne K (.type "int") (.type "bool") = some false := kit_ty (by decide +kernel)
theorem ktt {K : PySem.W.Frag} : PySem.W.kitOne K (.type "tuple") (.type "tuple") = some true := kit_ty (by decide +kernel)
theorem kss {K : PySem.W.Frag} : PySem.W.kitOne K (.type "str") (.type "str") = some true := kit_ty (by decide +kernel)
theorem kdd {K : PySem.W.Frag} : PySem.W.kitOne K (.type "dict") (.type "dict") = some true := kit_ty (by decide +kernel)

def rLenSeq (K : PySem.W.Frag) : List V → Hp → VK → Prop := fun xs H Q => ∃ p ys, xs = [V.ref p] ∧ (SqL K H p ys ∨ SqT K H p ys) ∧ Q (V.int (ys.length : Nat)) H
theorem call_len_seq2 {X : Cx} : CallR X (.builtin "len") (rLenSeq X.K) := call_len_seq
def sp_is_integer (K : PySem.W.Frag) (mg : Str → Option Value) (T : Txt K mg) : Sp := fun vs H Q _ => ∃ i : Int, vs = [.int i] ∧ Q (.bl true) H
def sp_is_within (K : PySem.W.Frag) (mg : Str → Option Value) (T : Txt K mg) : Sp := fun vs H Q _ => ∃ i a b : Int, vs = [.int i, .int a, .int b] ∧ a ≤ i ∧ i ≤ b ∧ Q (.bl true) H
def sp_is_pair (K : PySem.W.Frag) (mg : Str → Option Value) (T : Txt K mg) : Sp := fun vs H Q _ => ∃ (a : Addr) (x y : V), vs = [.ref a] ∧ H a = some (.tup [x, y]) ∧ Q (.bl true) H
section
variable {P : Program} {w : World} {K : PySem.W.Frag} {mg : Str → Option Value} {base : Heap}
theorem ok_is_integer (T : Txt K mg) : FnOk P w K mg base CX0 1 T.d_is_integer.f T.d_is_integer.fd ["thing"] (sp_is_integer K mg T) := by
  refine T.d_is_integer.F.ok sc_is_integer (fun vs H Q E h => ?_) (fun cdv A outer s H vs Q E hr h => ?_)
  · obtain ⟨i, rfl, k⟩ := h
    rfl
  · obtain ⟨i, rfl, k⟩ := h
    have hu := hu_of hr
    refine ⟨_, (pss_one (ps_ret (pe_and (pe_callB (id := "isinstance") call_isi (by rfl) T.z_isinstance (by decide +kernel) (pa_cons (pv 0) (pa_cons (pe_bltn (v := .ty "int") (u := .type "int") rfl T.z_int (by decide +kernel) rfl) pa_nil))) (pe_one (pe_not (pe_callB (id := "isinstance") call_isi (by rfl) T.z_isinstance (by decide +kernel) (pa_cons (pv 0) (pa_cons (pe_bltn (v := .ty "bool") (u := .type "bool") rfl T.z_bool (by decide +kernel) rfl) pa_nil)))))))), ?_⟩
    refine ⟨_, rfl, ?_⟩
    refine ⟨_, _, _, _, _, rfl, .ty _, .base (.int i), kii, _, rfl, ?_⟩
    refine ifP rfl ?_
    refine ⟨_, rfl, ?_⟩
    refine ⟨_, _, _, _, _, rfl, .ty _, .base (.int i), kib, _, rfl, ?_⟩
    exact k
theorem ok_is_within (T : Txt K mg) : FnOk P w K mg base CX0 2 T.d_is_within.f T.d_is_within.fd ["thing", "least", "most"] (sp_is_within K mg T) := by
  have G_is_integer := ok_is_integer (P := P) (w := w) (base := base) T
  refine T.d_is_within.F.ok sc_is_within (fun vs H Q E h => ?_) (fun cdv A outer s H vs Q E hr h => ?_)
  · obtain ⟨i, a, b, rfl, h1, h2, k⟩ := h
    rfl
  · obtain ⟨i, a, b, rfl, h1, h2, k⟩ := h
    have hu := hu_of hr
    refine ⟨_, (pss_one (ps_ret (pe_and (pe_call G_is_integer (hr.mono (by decide)) rfl T.d_is_integer.g T.d_is_integer.F.kp T.d_is_integer.b .nil pass0 (pa_cons (pv 0) pa_nil)) (pe_one (pe_chain op_le op_le (pv 1) (pv 0) (pv 2)))))), ?_⟩
    refine ⟨_, rfl, i, rfl, _, rfl, ifP rfl ?_⟩
    refine ⟨_, rfl, _, rfl, _, _, rfl, rfl, _, rfl, ifP (decide_eq_true h1) ?_⟩
    refine ⟨_, rfl, _, _, rfl, rfl, ?_⟩
    show Q (.bl (decide (i ≤ b))) H
    rw [decide_eq_true h2]
    exact k
theorem ok_is_pair (T : Txt K mg) : FnOk P w K mg base CX0 1 T.d_is_pair.f T.d_is_pair.fd ["thing"] (sp_is_pair K mg T) := by
  refine T.d_is_pair.F.ok sc_is_pair (fun vs H Q E h => ?_) (fun cdv A outer s H vs Q E hr h => ?_)
  · obtain ⟨a, x, y, rfl, ha, k⟩ := h
    rfl
  · obtain ⟨a, x, y, rfl, ha, k⟩ := h
    have hu := hu_of hr
    refine ⟨_, (pss_one (ps_ret (pe_and (pe_callB (id := "isinstance") call_isi (by rfl) T.z_isinstance (by decide +kernel) (pa_cons (pv 0) (pa_cons (pe_bltn (v := .ty "tuple") (u := .type "tuple") rfl T.z_tuple (by decide +kernel) rfl) pa_nil))) (pe_one (pe_cmpR op_eq (pe_callB (id := "len") call_len_seq (by rfl) T.z_len (by decide +kernel) (pa_cons (pv 0) pa_nil)) pe_int (nomark _)))))), ?_⟩
    refine ⟨_, rfl, _, _, _, _, _, rfl, .ty _, .base (.tup ha), ktt, _, rfl, ifP rfl ?_⟩
    refine ⟨_, rfl, _, _, rfl, .inr (SqT.of ha), ?_⟩
    refine ⟨rfl, ?_⟩
    exact k
end
end K70

namespace K70
open PySem L2
theorem at_of {α : Type} {xs : List α} {z : Int} {j : Nat} {v : α} (e : z = (j : Int)) (h : xs[j]? = some v) : atI xs z = some v := by
  rw [e]
  exact atI_nat h
theorem small_list : (Str.ofString "abcdefghijklmnopqrstuvwxyz").cps.toList = List.range' 97 26 := by decide +kernel
theorem small_mem {c : Nat} (h : 97 ≤ c ∧ c ≤ 122) : c ∈ (Str.ofString "abcdefghijklmnopqrstuvwxyz").cps.toList := by
  rw [small_list]
  exact List.mem_range'.mpr ⟨c - 97, by omega, by omega⟩
theorem strOf_cps (l : List Nat) : (strOf l).cps.toList = l := by simp [strOf]
theorem strOf_len (l : List Nat) : (strOf l).length = l.length := by simp [strOf, Str.length]
def sp_is_string_of (K : PySem.W.Frag) (mg : Str → Option Value) (T : Txt K mg) : Sp := fun vs H Q _ => ∃ z g : Str, vs = [.str z, .str g] ∧ (∀ c ∈ z.cps.toList, c ∈ g.cps.toList) ∧ Q (.bl true) H
def sp_is_word (K : PySem.W.Frag) (mg : Str → Option Value) (T : Txt K mg) : Sp := fun vs H Q _ => ∃ l : List Nat, vs = [.str (strOf l)] ∧ (∀ c ∈ l, 97 ≤ c ∧ c ≤ 122) ∧ 1 ≤ l.length ∧ l.length ≤ 2 ∧ Q (.bl true) H
def sp_is_ascending (K : PySem.W.Frag) (mg : Str → Option Value) (T : Txt K mg) : Sp := fun vs H Q _ => ∃ l : List Nat, vs = [.str (strOf l)] ∧ l.Pairwise (· < ·) ∧ 1 ≤ l.length ∧ l.length ≤ 2 ∧ Q (.bl true) H
def sp_is_rows (K : PySem.W.Frag) (mg : Str → Option Value) (T : Txt K mg) : Sp := fun vs H Q _ => ∃ l : List Nat, vs = [.str (strOf l)] ∧ (∀ c ∈ l, 97 ≤ c ∧ c ≤ 122) ∧ l.Pairwise (· < ·) ∧ 1 ≤ l.length ∧ l.length ≤ 2 ∧ Q (.bl true) H
def sp_is_move (K : PySem.W.Frag) (mg : Str → Option Value) (T : Txt K mg) : Sp := fun vs H Q _ => ∃ (b : Addr) (t : Int) (g n : Nat), vs = [.ref b, .int (n : Nat)] ∧ H b = some (.tup [.int t, .int (g : Nat)]) ∧ 1 ≤ t ∧ t ≤ 99 ∧ g < n ∧ Q (.bl true) H
def sp_are_moves (K : PySem.W.Frag) (mg : Str → Option Value) (T : Txt K mg) : Sp := fun vs H Q _ => ∃ (v : V) (Pt : Parts), vs = [v, .str (strOf Pt.rows), .int (Pt.ans : Nat)] ∧ RMoves H v Pt.moves ∧ Pt.Ok ∧ ∀ H' : Hp, Same H H' → Q (.bl true) H'
section
variable {P : Program} {w : World} {K : PySem.W.Frag} {mg : Str → Option Value} {base : Heap}
theorem ok_is_string_of (T : Txt K mg) : FnOk P w K mg base CX0 1 T.d_is_string_of.f T.d_is_string_of.fd ["thing", "signs"] (sp_is_string_of K mg T) := by
  refine T.d_is_string_of.F.ok sc_is_string_of (fun vs H Q E h => ?_) (fun cdv A outer s H vs Q E hr h => ?_)
  · obtain ⟨z, g, rfl, hm, k⟩ := h
    rfl
  · obtain ⟨z, g, rfl, hm, k⟩ := h
    have hu := hu_of hr
    refine ⟨_, (pss_cons (ps_if (pt_not (pt_val (pe_callB (id := "isinstance") call_isi (by rfl) T.z_isinstance (by decide +kernel) (pa_cons (pv 0) (pa_cons (pe_bltn (v := .ty "str") (u := .type "str") rfl T.z_str (by decide +kernel) rfl) pa_nil)))))
       (pss_one (ps_ret pe_bl))
       pss_nil)
      (pss_cons (ps_for PassesOwn.never rfl (pi_str (pv 0)) (pg_name (i := 2) sc_is_string_of.nd rfl (Or.inl rfl))
       (pss_one (ps_if (pt_cmpR op_notIn_sign (pv 2) (pv 1) (by rfl))
         (pss_one (ps_ret pe_bl))
         pss_nil)))
      (pss_one (ps_ret pe_bl)))), ?_⟩
    refine ⟨_, rfl, _, _, _, _, _, rfl, .ty _, .base (.str z), kss, _, rfl, ifN rfl ?_⟩
    refine ⟨_, rfl, _, rfl, for_it (walk_str (z := z)) (fun i σ H' => H' = H ∧ ∃ v, σ = [some (.str z), some (.str g), v]) ⟨rfl, _, rfl⟩ (fun _ _ _ _ _ => trivial) ?_ ?_⟩
    · rintro i x σ H1 H2 hi ⟨rfl, v, rfl⟩ ⟨rfl, c, hc, rfl⟩
      refine ⟨_, rfl, _, rfl, c, g, rfl, rfl, _, rfl, ifN ?_ ?_⟩
      · have hcm : c ∈ z.cps.toList := by
          rw [Array.getElem?_eq_some_iff] at hc
          obtain ⟨h1, rfl⟩ := hc
          simp
        rw [decide_eq_true (hm c hcm)]
        rfl
      · exact ⟨rfl, _, rfl⟩
    · rintro σ H1 ⟨rfl, v, rfl⟩
      exact k
theorem ok_is_word (T : Txt K mg) : FnOk P w K mg base CX0 2 T.d_is_word.f T.d_is_word.fd ["thing"] (sp_is_word K mg T) := by
  have G_is_string_of := ok_is_string_of (P := P) (w := w) (base := base) T
  refine T.d_is_word.F.ok sc_is_word (fun vs H Q E h => ?_) (fun cdv A outer s H vs Q E hr h => ?_)
  · obtain ⟨l, rfl, hl, h1, h2, k⟩ := h
    rfl
  · obtain ⟨l, rfl, hl, h1, h2, k⟩ := h
    have hu := hu_of hr
    refine ⟨_, (pss_one (ps_ret (pe_and (pe_call G_is_string_of (hr.mono (by decide)) rfl T.d_is_string_of.g T.d_is_string_of.F.kp T.d_is_string_of.b .nil pass0 (pa_cons (pv 0) (pa_cons (pe_glob (v := .str "abcdefghijklmnopqrstuvwxyz") rfl T.m_SMALL.choose_spec ⟨_, rfl⟩) pa_nil))) (pe_one (pe_cmpR op_gt (pe_callB (id := "len") call_len_str (by rfl) T.z_len (by decide +kernel) (pa_cons (pv 0) pa_nil)) pe_int (nomark _)))))), ?_⟩
    refine ⟨_, rfl, _, _, rfl, fun c hc => small_mem (hl c (by rw [strOf_cps] at hc; exact hc)), _, rfl, ifP rfl ?_⟩
    refine ⟨_, rfl, _, rfl, ?_, _, _, rfl, rfl, ?_⟩
    · rw [strOf_len]; exact Nat.le_trans h2 (by decide)
    · show Q (.bl (decide ((0 : Int) < ((strOf l).length : Nat)))) H
      rw [strOf_len, decide_eq_true (by omega)]
      exact k
theorem ok_is_ascending (T : Txt K mg) : FnOk P w K mg base CX0 1 T.d_is_ascending.f T.d_is_ascending.fd ["word"] (sp_is_ascending K mg T) := by
  refine T.d_is_ascending.F.ok sc_is_ascending (fun vs H Q E h => ?_) (fun cdv A outer s H vs Q E hr h => ?_)
  · obtain ⟨l, rfl, hp, h1, h2, k⟩ := h
    rfl
  · obtain ⟨l, rfl, hp, h1, h2, k⟩ := h
    have hu := hu_of hr
    refine ⟨_, (pss_cons (ps_for PassesOwn.never rfl (pi_range2 (by rfl) T.z_range (pa_cons pe_int (pa_cons (pe_callB (id := "len") call_len_str (by rfl) T.z_len (by decide +kernel) (pa_cons (pv 0) pa_nil)) pa_nil))) (pg_name (i := 1) sc_is_ascending.nd rfl (Or.inl rfl))
       (pss_one (ps_if (pt_cmpR op_ge_str (pe_ix ix_str (pv 0) (pe_op op_sub (pv 1) pe_int) (fun _ _ => rfl)) (pe_ix ix_str (pv 0) (pv 1) (fun _ _ => rfl)) (nomark _))
         (pss_one (ps_ret pe_bl))
         pss_nil)))
      (pss_one (ps_ret pe_bl))), ?_⟩
    refine ⟨_, rfl, _, rfl, ?_, _, _, rfl, ⟨by decide, by decide, ?_, ?_⟩, ?_⟩
    · rw [strOf_len]; exact Nat.le_trans h2 (by decide)
    · rw [strOf_len]; omega
    · rw [strOf_len]; omega
    · rw [strOf_len]
      refine for_range (fun i σ H' => H' = H ∧ ∃ v, σ = [some (.str (strOf l)), v]) ⟨rfl, _, rfl⟩ ?_ ?_
      · rintro i σ H1 hi ⟨rfl, v, rfl⟩
        have hi1 : i + 1 < l.length := by omega
        have e0 : l[i]? = some l[i] := List.getElem?_eq_getElem (by omega)
        have e1 : l[i + 1]? = some l[i + 1] := List.getElem?_eq_getElem hi1
        refine ⟨_, rfl, _, rfl, _, _, rfl, rfl, _, _, _, rfl, rfl, ?_, at_of (j := i) (by omega) (by rw [strOf_cps]; exact e0), _, rfl, _, rfl, _, _, _, rfl, rfl, ?_, at_of (j := i + 1) (by omega) (by rw [strOf_cps]; exact e1), _, _, rfl, rfl, _, rfl, ifN ?_ ?_⟩
        · rw [strOf_len]; exact Nat.le_trans h2 (by decide)
        · rw [strOf_len]; exact Nat.le_trans h2 (by decide)
        · have hlt : l[i] < l[i + 1] := List.pairwise_iff_getElem.mp hp i (i + 1) (by omega) hi1 (by omega)
          have : ([l[i]] : List Nat) < [l[i + 1]] := List.Lex.rel hlt
          show (!decide (([l[i]] : List Nat) < [l[i + 1]])) = false
          rw [decide_eq_true this]
          rfl
        · exact ⟨rfl, _, rfl⟩
      · rintro σ H1 ⟨rfl, v, rfl⟩
        exact k
theorem ok_is_rows (T : Txt K mg) : FnOk P w K mg base CX0 3 T.d_is_rows.f T.d_is_rows.fd ["thing"] (sp_is_rows K mg T) := by
  have G_is_ascending := ok_is_ascending (P := P) (w := w) (base := base) T
  have G_is_word := ok_is_word (P := P) (w := w) (base := base) T
  refine T.d_is_rows.F.ok sc_is_rows (fun vs H Q E h => ?_) (fun cdv A outer s H vs Q E hr h => ?_)
  · obtain ⟨l, rfl, hl, hp, h1, h2, k⟩ := h
    rfl
  · obtain ⟨l, rfl, hl, hp, h1, h2, k⟩ := h
    have hu := hu_of hr
    refine ⟨_, (pss_one (ps_ret (pe_and (pe_call G_is_word (hr.mono (by decide)) rfl T.d_is_word.g T.d_is_word.F.kp T.d_is_word.b .nil pass0 (pa_cons (pv 0) pa_nil)) (pe_and (pe_cmpR op_le (pe_callB (id := "len") call_len_str (by rfl) T.z_len (by decide +kernel) (pa_cons (pv 0) pa_nil)) (pe_glob (v := .int 4) rfl T.m_MOST_ROWS.choose_spec ⟨_, rfl⟩) (nomark _)) (pe_one (pe_call G_is_ascending (hr.mono (by decide)) rfl T.d_is_ascending.g T.d_is_ascending.F.kp T.d_is_ascending.b .nil pass0 (pa_cons (pv 0) pa_nil))))))), ?_⟩
    refine ⟨_, rfl, l, rfl, hl, h1, h2, _, rfl, ifP rfl ?_⟩
    refine ⟨_, rfl, _, rfl, ?_, _, _, rfl, rfl, _, rfl, ifP ?_ ?_⟩
    · rw [strOf_len]; exact Nat.le_trans h2 (by decide)
    · rw [strOf_len]; exact decide_eq_true (by omega)
    · exact ⟨_, rfl, l, rfl, hp, h1, h2, k⟩
theorem ok_is_move (T : Txt K mg) : FnOk P w K mg base CX0 3 T.d_is_move.f T.d_is_move.fd ["thing", "size"] (sp_is_move K mg T) := by
  have G_is_pair := ok_is_pair (P := P) (w := w) (base := base) T
  have G_is_within := ok_is_within (P := P) (w := w) (base := base) T
  refine T.d_is_move.F.ok sc_is_move (fun vs H Q E h => ?_) (fun cdv A outer s H vs Q E hr h => ?_)
  · obtain ⟨b, t, g, n, rfl, hb, h1, h2, h3, k⟩ := h
    rfl
  · obtain ⟨b, t, g, n, rfl, hb, h1, h2, h3, k⟩ := h
    have hu := hu_of hr
    refine ⟨_, (pss_one (ps_ret (pe_and (pe_call G_is_pair (hr.mono (by decide)) rfl T.d_is_pair.g T.d_is_pair.F.kp T.d_is_pair.b .nil pass0 (pa_cons (pv 0) pa_nil)) (pe_and (pe_call G_is_within (hr.mono (by decide)) rfl T.d_is_within.g T.d_is_within.F.kp T.d_is_within.b .nil pass0 (pa_cons (pe_ix ix_tup (pv 0) pe_int (fun _ _ => rfl)) (pa_cons pe_int (pa_cons (pe_glob (v := .int 99) rfl T.m_MOST_TICKS.choose_spec ⟨_, rfl⟩) pa_nil)))) (pe_one (pe_call G_is_within (hr.mono (by decide)) rfl T.d_is_within.g T.d_is_within.F.kp T.d_is_within.b .nil pass0 (pa_cons (pe_ix ix_tup (pv 0) pe_int (fun _ _ => rfl)) (pa_cons pe_int (pa_cons (pe_op op_sub (pv 1) pe_int) pa_nil))))))))), ?_⟩
    refine ⟨_, rfl, b, _, _, rfl, hb, _, rfl, ifP rfl ?_⟩
    refine ⟨_, rfl, _, _, _, _, rfl, rfl, SqT.of hb, rfl, _, _, _, rfl, h1, h2, _, rfl, ifP rfl ?_⟩
    refine ⟨_, rfl, _, _, _, _, rfl, rfl, SqT.of hb, rfl, _, rfl, _, _, rfl, rfl, _, _, _, rfl, by omega, by omega, k⟩
theorem ok_are_moves (T : Txt K mg) : FnOk P w K mg base CX0 4 T.d_are_moves.f T.d_are_moves.fd ["thing", "rows", "answers"] (sp_are_moves K mg T) := by
  have G_is_move := ok_is_move (P := P) (w := w) (base := base) T
  refine T.d_are_moves.F.ok sc_are_moves (fun vs H Q E h => ?_) (fun cdv A outer s H vs Q E hr h => ?_)
  · obtain ⟨v, Pt, rfl, hm, ok, k⟩ := h
    rfl
  · obtain ⟨v, Pt, rfl, hm, ok, k⟩ := h
    have hu := hu_of hr
    refine ⟨_, (pss_cons (ps_if (PW.pt (pw_or (pt_not (pt_val (pe_callB (id := "isinstance") call_isi (by rfl) T.z_isinstance (by decide +kernel) (pa_cons (pv 0) (pa_cons (pe_bltn (v := .ty "tuple") (u := .type "tuple") rfl T.z_tuple (by decide +kernel) rfl) pa_nil))))) (pw_or1 (pt_not (pt_chain op_le op_le pe_int (pe_callB (id := "len") call_len_seq (by rfl) T.z_len (by decide +kernel) (pa_cons (pv 0) pa_nil)) (pe_glob (v := .int 12) rfl T.m_MOST_STANDINGS.choose_spec ⟨_, rfl⟩))))))
       (pss_one (ps_ret pe_bl))
       pss_nil)
      (pss_cons (ps_for PassesOwn.never rfl (pi_tup (pv 0)) (pg_name (i := 3) sc_are_moves.nd rfl (Or.inl rfl))
       (pss_cons (ps_if (PW.pt (pw_or (pt_not (pt_val (pe_callB (id := "isinstance") call_isi (by rfl) T.z_isinstance (by decide +kernel) (pa_cons (pv 3) (pa_cons (pe_bltn (v := .ty "tuple") (u := .type "tuple") rfl T.z_tuple (by decide +kernel) rfl) pa_nil))))) (pw_or1 (pt_cmpR op_ne (pe_callB (id := "len") call_len_seq (by rfl) T.z_len (by decide +kernel) (pa_cons (pv 3) pa_nil)) (pe_callB (id := "len") call_len_str (by rfl) T.z_len (by decide +kernel) (pa_cons (pv 1) pa_nil)) (nomark _)))))
         (pss_one (ps_ret pe_bl))
         pss_nil)
        (pss_one (ps_for PassesOwn.never rfl (pi_tup (pv 3)) (pg_name (i := 4) sc_are_moves.nd rfl (Or.inl rfl))
         (pss_cons (ps_if (PW.pt (pw_or (pt_not (pt_val (pe_callB (id := "isinstance") call_isi (by rfl) T.z_isinstance (by decide +kernel) (pa_cons (pv 4) (pa_cons (pe_bltn (v := .ty "tuple") (u := .type "tuple") rfl T.z_tuple (by decide +kernel) rfl) pa_nil))))) (pw_or1 (pt_cmpR op_ne (pe_callB (id := "len") call_len_seq (by rfl) T.z_len (by decide +kernel) (pa_cons (pv 4) pa_nil)) (pv 2) (nomark _)))))
           (pss_one (ps_ret pe_bl))
           pss_nil)
          (pss_one (ps_if (pt_not (pt_val (pe_callB (id := "all") (cr_all rfl) (by rfl) T.z_all (by decide +kernel) (pa_cons (pe_lc (own := [("move", 5)]) rfl sc_are_moves.nd (pi_tup (pv 4)) (blkOk_by (own := [("move", 5)]) (N := N_are_moves) (sc := defScope s_are_moves) (by decide +kernel)) (fun _ _ _ _ _ => (pg_name (i := 5) sc_are_moves.nd rfl (Or.inl rfl))) (fun _ _ _ _ _ => pts_nil) (fun _ _ _ _ _ => (pe_call G_is_move (hr.mono (by decide)) rfl T.d_is_move.g T.d_is_move.F.kp T.d_is_move.b .nil pass0 (pa_cons (pv 5) (pa_cons (pe_callB (id := "len") (r := rLenSeq K) call_len_seq2 (by rfl) T.z_len (by decide +kernel) (pa_cons (pv 0) pa_nil)) pa_nil))))) pa_nil))))
           (pss_one (ps_ret pe_bl))
           pss_nil)))))))
      (pss_one (ps_ret pe_bl)))), ?_⟩
    obtain ⟨a, us, rfl, ha, hp⟩ := hm
    have hlen : us.length = Pt.moves.length := Pd.len hp
    have hm1 := ok.m1
    have hm2 := ok.m2
    refine ⟨_, rfl, _, _, _, _, _, rfl, .ty _, .base (.tup ha), ktt, _, rfl, ifN rfl ?_⟩
    refine ⟨_, rfl, _, _, rfl, .inr (SqT.of ha), _, _, rfl, rfl, _, rfl, ifP (decide_eq_true (by omega)) ?_⟩
    refine ⟨_, _, rfl, rfl, _, rfl, ifN ?_ ?_⟩
    · rw [decide_eq_true (by omega)]; rfl
    refine ⟨_, rfl, _, rfl, ⟨_, SqT.of ha⟩, for_tup (xs := us) (fun i σ H' => Same H H' ∧ ∃ v1 v2 v3, σ = [some (.ref a), some (.str (strOf Pt.rows)), some (.int (Pt.ans : Nat)), v1, v2, v3]) ⟨Same.refl _, _, _, _, rfl⟩ (fun i σ H' _ h => SqT.of (h.1 _ _ ha)) ?_ ?_⟩
    · rintro i x σ H1 hx ⟨s1, v1, v2, v3, rfl⟩
      obtain ⟨ls, hls, r⟩ := Pd.get' hp hx
      obtain ⟨hl1, sh⟩ := ok.sh ls (mem_of hls)
      obtain ⟨a2, us2, rfl, ha2, hp2⟩ := RRows.mono _ _ _ _ (Same.tx s1) r
      have hlen2 : us2.length = ls.length := Pd.len hp2
      refine ⟨_, rfl, _, _, _, _, _, rfl, .ty _, .base (.tup ha2), ktt, _, rfl, ifN rfl ?_⟩
      refine ⟨_, rfl, _, _, rfl, .inr (SqT.of ha2), _, rfl, _, rfl, ?_, rfl, _, rfl, ifN ?_ ?_⟩
      · rw [strOf_len]; exact Nat.le_trans ok.r2 (by decide)
      · rw [strOf_len, hlen2, hl1]
        simp
      refine ⟨_, rfl, _, rfl, ⟨_, SqT.of ha2⟩, for_tup (xs := us2) (fun i σ H' => Same H1 H' ∧ ∃ v2 v3, σ = [some (.ref a), some (.str (strOf Pt.rows)), some (.int (Pt.ans : Nat)), some (.ref a2), v2, v3]) ⟨Same.refl _, _, _, rfl⟩ (fun i σ H' _ h => SqT.of (h.1 _ _ ha2)) ?_ ?_⟩
      · rintro j y σ H2 hy ⟨s2, w2, w3, rfl⟩
        obtain ⟨l, hl, r2⟩ := Pd.get' hp2 hy
        obtain ⟨hl2, sh2⟩ := sh l (mem_of hl)
        obtain ⟨a3, us3, rfl, ha3, hp3⟩ := RLine.mono _ _ _ _ (Same.tx s2) r2
        have hlen3 : us3.length = l.length := Pd.len hp3
        refine ⟨_, rfl, _, _, _, _, _, rfl, .ty _, .base (.tup ha3), ktt, _, rfl, ifN rfl ?_⟩
        refine ⟨_, rfl, _, _, rfl, .inr (SqT.of ha3), _, rfl, rfl, _, rfl, ifN ?_ ?_⟩
        · rw [hlen3, hl2]
          simp
        refine ⟨_, rfl, _, rfl, ⟨_, SqT.of ha3⟩, fun D hD => lc_tup (xs := us3) (fun i H' => Same H2 H' ∧ H' D = some (.lst (List.replicate i (V.bl true)))) ⟨Same.alloc hD, upd_same⟩ (fun i H' _ h => SqT.of (h.1 _ _ ha3)) ?_ ?_⟩
        · rintro n z H3 hz ⟨s3, hD3⟩
          obtain ⟨p, hp', b, rfl, hb⟩ := Pd.get' hp3 hz
          obtain ⟨q1, q2, q3⟩ := sh2 p (mem_of hp')
          have hn : n < us3.length := (List.getElem?_eq_some_iff.mp hz).1
          have ha' : H3 a = some (.tup us) := s3 _ _ (s2 _ _ (s1 _ _ ha))
          refine ⟨rfl, ?_⟩
          refine ⟨_, rfl, _, rfl, _, _, rfl, .inr (SqT.of ha'), b, p.1, p.2, us.length, rfl, s3 _ _ hb, q1, q2, by omega, _, hD3, ?_, Same.write s3 hD, upd_same.trans (by rw [← List.replicate_succ'])⟩
          rw [List.length_replicate]
          have := ok.a2
          exact small1000 (by omega)
        · rintro H3 ⟨s3, hD3⟩
          refine ⟨_, List.replicate us3.length true, rfl, SqL.of (by rw [List.map_replicate]; exact hD3), _, rfl, ifN ?_ ?_⟩
          · simp
          · exact ⟨s2.trans s3, _, _, rfl⟩
      · rintro σ H2 ⟨s2, w2, w3, rfl⟩
        exact ⟨s1.trans s2, _, _, _, rfl⟩
    · rintro σ H1 ⟨s1, v1, v2, v3, rfl⟩
      exact k _ s1
end
end K70

namespace K70
open PySem L2
theorem tseq_intro {t u : L2.TS} {D : Ends} {σ : L2.St} {H : Hp} (h : ∀ u' : L2.TS, u' = u → tSeq t u' D σ H) : tSeq t u D σ H := h u rfl
theorem seq_open {t u : L2.TS} {D : Ends} {σ : L2.St} {H : Hp} (h : t { D with nx := u D } σ H) : tSeq t u D σ H := h
theorem asgC_open {v : V} {i : Nat} {D : Ends} {σ : L2.St} {H : Hp} (h : D.nx (σ.set i (some v)) H) : tAsg (tC v) (gName i) D σ H := h
theorem nx_open {f : L2.St → Hp → Prop} {r : VK} {b c : L2.St → Hp → Prop} {σ : L2.St} {H : Hp} (h : f σ H) : ({ nx := f, rt := r, bk := b, ct := c } : Ends).nx σ H := h
theorem TS.of {T : Tape} {H H' : Hp} (h : TapeAt T H) (hb : ∀ b, b ≠ T.t → H' b = H b) {i : Nat} {d s c : Int} (e : H' T.t = some (.lst [.ref T.inner, .int (i : Nat), .int d, .int s, .int c])) : TS T H H' where
  but := fun b o n q => by rw [hb b n]; exact q
  at0 := h
  at1 := by
    obtain ⟨_, _, _, _, _, k, n⟩ := h
    exact ⟨i, d, s, c, e, by rw [hb _ n]; exact k, n⟩
def sp__law_pick (K : PySem.W.Frag) (mg : Str → Option Value) (T : Txt K mg) : Sp := fun vs H Q _ => ∃ (Tp : Tape) (n : Nat), vs = [.ref Tp.t, .int (n : Nat)] ∧ TapeAt Tp H ∧ 1 ≤ n ∧ n ≤ 1000 ∧ ∀ (k : Nat) (H' : Hp), k < n → TS Tp H H' → Q (.int (k : Nat)) H'
theorem pick_end {Tp : Tape} {n : Nat} {H H' : Hp} {Q : VK} (k : ∀ (k : Nat) (H' : Hp), k < n → TS Tp H H' → Q (.int (k : Nat)) H') {x : Int} (hn : (0 : Int) < n) (ts : TS Tp H H') : Q (.int (x % (n : Int))) H' := by
  have h0 : 0 ≤ x % (n : Int) := Int.emod_nonneg _ (by omega)
  have h1 : x % (n : Int) < n := Int.emod_lt_of_pos _ hn
  have q := k (x % (n : Int)).toNat H' (by omega) ts
  rw [Int.toNat_of_nonneg h0] at q
  exact q
section
variable {P : Program} {w : World} {K : PySem.W.Frag} {mg : Str → Option Value} {base : Heap}
theorem ok__law_pick (T : Txt K mg) : FnOk P w K mg base CX0 1 T.d__law_pick.f T.d__law_pick.fd ["_law_tape_here", "_law_size"] (sp__law_pick K mg T) := by
  refine T.d__law_pick.F.ok sc__law_pick (fun vs H Q E h => ?_) (fun cdv A outer s H vs Q E hr h => ?_)
  · obtain ⟨Tp, n, rfl, tp, hn1, hn2, k⟩ := h
    rfl
  · obtain ⟨Tp, n, rfl, tp, hn1, hn2, k⟩ := h
    have hu := hu_of hr
    refine ⟨_, (pss_cons (ps_if (pt_cmpR op_gt (pe_ix ix_list (pv 0) pe_int (fun _ _ => rfl)) pe_int (nomark _))
       (pss_cons (ps_set (i := 2) sc__law_pick.nd rfl (Or.inl rfl) (pe_op op_mod (pe_callTy (T := "int") call_int1 (by rfl) T.z_int (by decide +kernel) (pa_cons (pe_ix ix_list (pv 0) pe_int (fun _ _ => rfl)) pa_nil)) (pv 1)))
        (pss_cons (ps_asg (pe_op op_fdiv (pe_ix ix_list (pv 0) pe_int (fun _ _ => rfl)) (pv 1)) (pg_sub (pv 0) pe_int set_list))
        (pss_one (ps_ret (pv 2)))))
       pss_nil)
      (pss_cons (ps_asg (pe_op op_add (pe_ix ix_list (pv 0) pe_int (fun _ _ => rfl)) pe_int) (pg_sub (pv 0) pe_int set_list))
      (pss_cons (ps_set (i := 3) sc__law_pick.nd rfl (Or.inl rfl) pe_int)
      (pss_cons (ps_if (pt_cmpR op_lt (pe_ix ix_list (pv 0) pe_int (fun _ _ => rfl)) (pe_callB (id := "len") call_len_seq (by rfl) T.z_len (by decide +kernel) (pa_cons (pe_ix ix_list (pv 0) pe_int (fun _ _ => rfl)) pa_nil)) (nomark _))
       (pss_cons (ps_set (i := 3) sc__law_pick.nd rfl (Or.inl rfl) (pe_ix ix_list (pe_ix ix_list (pv 0) pe_int (fun _ _ => rfl)) (pe_ix ix_list (pv 0) pe_int (fun _ _ => rfl)) (fun _ _ => rfl)))
        (pss_one (ps_asg (pe_op op_add (pe_ix ix_list (pv 0) pe_int (fun _ _ => rfl)) pe_int) (pg_sub (pv 0) pe_int set_list))))
       pss_nil)
      (pss_cons (ps_if (pt_cmpR op_ge (pv 3) (pe_op op_pow pe_int pe_int) (nomark _))
       (pss_cons (ps_asg (pe_op op_fdiv (pv 3) (pv 1)) (pg_sub (pv 0) pe_int set_list))
        (pss_one (ps_ret (pe_op op_mod (pe_callTy (T := "int") call_int1 (by rfl) T.z_int (by decide +kernel) (pa_cons (pv 3) pa_nil)) (pv 1)))))
       pss_nil)
      (pss_cons (ps_set (i := 4) sc__law_pick.nd rfl (Or.inl rfl) (pe_op op_mod (pe_callTy (T := "int") call_int1 (by rfl) T.z_int (by decide +kernel) (pa_cons (pe_op op_add (pe_op op_add (pe_op op_mul (pe_ix ix_list (pv 0) pe_int (fun _ _ => rfl)) pe_int) (pe_op op_mod (pe_callTy (T := "int") call_int1 (by rfl) T.z_int (by decide +kernel) (pa_cons (pv 3) pa_nil)) pe_int)) (pe_op op_mul (pe_ix ix_list (pv 0) pe_int (fun _ _ => rfl)) pe_int)) pa_nil)) pe_int))
      (pss_cons (ps_set (i := 4) sc__law_pick.nd rfl (Or.inl rfl) (pe_op op_mod (pe_callTy (T := "int") call_int1 (by rfl) T.z_int (by decide +kernel) (pa_cons (pe_op op_mul (pv 4) (pe_op op_add (pe_op op_fdiv (pv 4) pe_int) pe_int)) pa_nil)) pe_int))
      (pss_cons (ps_asg (pv 4) (pg_sub (pv 0) pe_int set_list))
      (pss_one (ps_ret (pe_op op_mod (pe_callTy (T := "int") call_int1 (by rfl) T.z_int (by decide +kernel) (pa_cons (pe_op op_fdiv (pv 4) pe_int) pa_nil)) (pv 1)))))))))))), ?_⟩
    have hn : (0 : Int) < (n : Int) := by omega
    have hn3 : (n : Int) < 1073741824 := by omega
    obtain ⟨i, d, s0, c, e, hi, ne⟩ := id tp
    -- if tape[2] > 1
    refine ⟨_, rfl, _, _, _, _, rfl, rfl, SqL.of e, rfl, _, _, rfl, rfl, _, rfl, ite2 (fun h => ?_) (fun h => ?_)⟩
    · refine ⟨_, rfl, _, _, _, _, rfl, rfl, SqL.of e, rfl, .inl ⟨_, rfl, _, rfl, _, _, rfl, rfl, hn, ?_⟩⟩
      refine ⟨_, rfl, _, _, _, _, rfl, rfl, SqL.of e, rfl, _, rfl, _, _, rfl, rfl, ⟨hn, hn3⟩, _, rfl, _, _, _, _, rfl, rfl, e, rfl, ?_⟩
      refine ⟨_, rfl, ?_⟩
      exact pick_end k hn (TS.of tp (fun b hb => upd_ne hb) upd_same)
    · -- tape[4] = tape[4] + 1; cell = 0
      refine ⟨_, rfl, _, _, _, _, rfl, rfl, SqL.of e, rfl, _, _, rfl, rfl, _, rfl, _, _, _, _, rfl, rfl, e, rfl, ?_⟩
      dsimp only
      refine seq_open (asgC_open ?_)
      dsimp only
      refine tseq_intro fun rest hrest => ?_
      have R : ∀ (cell : Int) (i' : Nat) (H1 : Hp), H1 Tp.t = some (.lst [.ref Tp.inner, .int (i' : Nat), .int d, .int s0, .int (c + 1)]) → (∀ b, b ≠ Tp.t → H1 b = H b) →
          rest { nx := fun _ H' => Q .non H', rt := Q } [some (.ref Tp.t), some (.int (n : Nat)), none, some (.int cell), none] H1 := by
        intro cell i' H1 e1 hb
        subst hrest
        -- if cell >= 10 ** 18
        refine ⟨_, rfl, _, _, rfl, rfl, ⟨by decide, by decide, by decide⟩, _, _, rfl, rfl, _, rfl, ite2 (fun h => ?_) (fun h => ?_)⟩
        · refine ⟨_, rfl, _, rfl, _, _, rfl, rfl, ⟨hn, hn3⟩, _, rfl, _, _, _, _, rfl, rfl, e1, rfl, ?_⟩
          refine ⟨_, rfl, .inl ⟨_, rfl, _, rfl, _, _, rfl, rfl, hn, ?_⟩⟩
          exact pick_end k hn (TS.of tp (fun b hb' => (upd_ne hb').trans (hb b hb')) upd_same)
        · refine ⟨_, rfl, _, _, _, _, rfl, rfl, SqL.of e1, rfl, _, _, rfl, rfl, .inr ⟨by decide, by decide⟩, _, rfl, .inl ⟨_, rfl, _, _, rfl, rfl, (show (0 : Int) < 2147483629 by decide), _, _, rfl, rfl, _, rfl, _, _, _, _, rfl, rfl, SqL.of e1, rfl, _, _, rfl, rfl, .inr ⟨by decide, by decide⟩, _, _, rfl, rfl, .inl ⟨_, rfl, _, _, rfl, rfl, (show (0 : Int) < 2147483647 by decide), ?_⟩⟩⟩
          refine ⟨_, rfl, _, rfl, _, _, rfl, rfl, ⟨by decide, by decide⟩, _, _, rfl, rfl, _, _, rfl, rfl, .inl ⟨by omega, by omega⟩, .inl ⟨_, rfl, _, _, rfl, rfl, (show (0 : Int) < 2147483399 by decide), ?_⟩⟩
          refine ⟨_, rfl, _, rfl, _, _, _, _, rfl, rfl, e1, rfl, ?_⟩
          refine ⟨_, rfl, _, _, rfl, rfl, ⟨by decide, by decide⟩, .inl ⟨_, rfl, _, rfl, _, _, rfl, rfl, hn, ?_⟩⟩
          exact pick_end k hn (TS.of tp (fun b hb' => (upd_ne hb').trans (hb b hb')) upd_same)
      -- if tape[1] < len(tape[0])
      refine ⟨_, rfl, _, _, _, _, rfl, rfl, SqL.of upd_same, rfl, _, rfl, _, _, _, _, rfl, rfl, SqL.of upd_same, rfl, _, _, rfl, .inl (SqL.of ((upd_ne ne).trans hi)), _, _, rfl, rfl, _, rfl, ite2 (fun h => ?_) (fun h => ?_)⟩
      · have hil : i < Tp.ns.length := by
          have := of_decide_eq_true h
          rw [List.length_map] at this
          omega
        refine ⟨_, rfl, _, _, _, _, rfl, rfl, SqL.of upd_same, rfl, _, rfl, _, _, _, _, rfl, rfl, SqL.of upd_same, rfl, _, _, _, _, rfl, rfl, SqL.of ((upd_ne ne).trans hi), atI_nat (v := .int Tp.ns[i]) (by simp [hil]), ?_⟩
        refine ⟨_, rfl, _, _, _, _, rfl, rfl, SqL.of upd_same, rfl, _, _, rfl, rfl, _, rfl, _, _, _, _, rfl, rfl, upd_same, rfl, ?_⟩
        exact R Tp.ns[i] (i + 1) _ upd_same fun b hb => (upd_ne hb).trans (upd_ne hb)
      · exact R 0 i _ upd_same fun b hb => upd_ne hb
end
end K70

namespace K70
open PySem L2
/-! ### places of signs in a row string -/
theorem occ1 (c : Nat) : Builtin.Str.occurrences (strOf [c]) (ch c) 0 (strOf [c]).length 1 = [0] := by
  rw [StrLaws.occ_eq]
  simp [strOf, ch, Str.length, StrLaws.occBody, Builtin.Str.subAt, List.range']
theorem occ2a (c d : Nat) : Builtin.Str.occurrences (strOf [c, d]) (ch c) 0 (strOf [c, d]).length 1 = [0] := by
  rw [StrLaws.occ_eq]
  simp [strOf, ch, Str.length, StrLaws.occBody, Builtin.Str.subAt, List.range']
theorem occ2b (c d : Nat) (h : c ≠ d) : Builtin.Str.occurrences (strOf [c, d]) (ch d) 0 (strOf [c, d]).length 1 = [1] := by
  rw [StrLaws.occ_eq]
  simp [strOf, ch, Str.length, StrLaws.occBody, Builtin.Str.subAt, List.range', h]
theorem occ_at {l : List Nat} (h1 : 1 ≤ l.length) (h2 : l.length ≤ 2) (hp : l.Pairwise (· < ·)) {j c : Nat} (h : l[j]? = some c) :
    ∃ rest, Builtin.Str.occurrences (strOf l) (ch c) 0 (strOf l).length 1 = j :: rest := by
  match l, h1, h2, hp, j, h with
  | [a], _, _, _, 0, h =>
    have e : a = c := (by simpa using h)
    rw [← e]
    exact ⟨[], occ1 a⟩
  | [a], _, _, _, j + 1, h => simp at h
  | [a, b], _, _, _, 0, h =>
    have e : a = c := (by simpa using h)
    rw [← e]
    exact ⟨[], occ2a a b⟩
  | [a, b], _, _, hp, 1, h =>
    have e : b = c := by simpa using h
    rw [← e]
    have : a < b := by simpa using hp
    exact ⟨[], occ2b a b (by omega)⟩
  | [a, b], _, _, _, j + 2, h => simp at h
theorem strOf_snoc (l : List Nat) (c : Nat) : strOf l ++ (⟨#[c]⟩ : Str) = strOf (l ++ [c]) := by
  show (⟨_⟩ : Str) = ⟨_⟩
  congr 1
  simp [strOf]
theorem letters_at {i : Nat} (h : i < 26) : (Str.ofString "abcdefghijklmnopqrstuvwxyz").cps.toList[i]? = some (97 + i) := by
  rw [small_list, List.getElem?_range' h]
  simp

/-! ### promises -/
def sp__law_tape (K : PySem.W.Frag) (mg : Str → Option Value) (T : Txt K mg) : Sp := fun vs H Q _ => ∃ (a : Addr) (ns : List Int), vs = [.ref a] ∧ SqL K H a (ns.map V.int) ∧ ns.length ≤ 63 ∧ ∀ (Tp : Tape) (H' : Hp), TapeAt Tp H' → Q (.ref Tp.t) H'
def sp__law_common (K : PySem.W.Frag) (mg : Str → Option Value) (T : Txt K mg) : Sp := fun vs H Q _ => ∃ x y : Int, vs = [.int x, .int y] ∧ y.natAbs < 4000 ∧ Q (.int (Nat.gcd x.natAbs y.natAbs : Nat)) H
def sp__law_is_int (K : PySem.W.Frag) (mg : Str → Option Value) (T : Txt K mg) : Sp := fun vs H Q _ => ∃ i : Int, vs = [.int i] ∧ Q (.bl true) H
def sp__law_rows (K : PySem.W.Frag) (mg : Str → Option Value) (T : Txt K mg) : Sp := fun vs H Q _ => ∃ (Tp : Tape), vs = [.ref Tp.t, .int 2] ∧ TapeAt Tp H ∧
  ∀ (l : List Nat) (H' : Hp), TS Tp H H' → 1 ≤ l.length → l.length ≤ 2 → (∀ c ∈ l, 97 ≤ c ∧ c ≤ 122) → l.Pairwise (· < ·) → Q (.str (strOf l)) H'
def sp__law_gone (K : PySem.W.Frag) (mg : Str → Option Value) (T : Txt K mg) : Sp := fun vs H Q _ => ∃ (v : V) (Pt : Parts) (s c : Nat) (ja : Nat × Nat), vs = [v, .int (s : Nat), .str (ch c), .int (ja.2 : Nat)] ∧ PartsAt Pt H v ∧ Pt.Ok ∧ s < Pt.moves.length ∧ ja ∈ signs Pt ∧ Pt.rows[ja.1]? = some c ∧
  ∀ (b : Addr) (tk : Int), H b = some (.tup [.int tk, .int (goal Pt s ja : Nat)]) → Q (.ref b) H
def sp__law_signs (K : PySem.W.Frag) (mg : Str → Option Value) (T : Txt K mg) : Sp := fun vs H Q _ => ∃ (v : V) (Pt : Parts), vs = [v] ∧ PartsAt Pt H v ∧ Pt.Ok ∧
  ∀ (p : Addr) (H' : Hp), Same H H' → H p = none → SignsAt Pt H' p (signs Pt) → Q (.ref p) H'
theorem signs_pre (n : Nat) (i : Nat) : ((List.range (i + 1)).flatMap fun j => (List.range n).map fun a => (j, a)) = ((List.range i).flatMap fun j => (List.range n).map fun a => (j, a)) ++ (List.range n).map fun a => (i, a) := by
  rw [List.range_succ, List.flatMap_append]
  simp
theorem push_tup {α : Type} {R : Hp → V → α → Prop} (m : Mono R) {H : Hp} {p q : Addr} {vs xs : List V} {l : List α} {x : α} (hL : H p = some (.lst vs)) (hv : Paired (R H) vs l) (hq : H q = none) (hr : ∀ H', TX H H' → H' q = some (.tup xs) → R H' (.ref q) x) :
    Paired (R (upd (upd H q (.tup xs)) p (.lst (vs ++ [.ref q])))) (vs ++ [.ref q]) (l ++ [x]) := by
  have ne : p ≠ q := ne_of_none hL hq
  have tx : TX H (upd (upd H q (.tup xs)) p (.lst (vs ++ [.ref q]))) := (tx_alloc hq).trans (tx_lst ((upd_ne ne).trans hL))
  exact Pd.snoc (Pd.tx m tx hv) (hr _ tx ((upd_ne ne.symm).trans upd_same))
section
variable {P : Program} {w : World} {K : PySem.W.Frag} {mg : Str → Option Value} {base : Heap}
theorem ok__law_tape (T : Txt K mg) : FnOk P w K mg base CX0 1 T.d__law_tape.f T.d__law_tape.fd ["_law_script"] (sp__law_tape K mg T) := by
  refine T.d__law_tape.F.ok sc__law_tape (fun vs H Q E h => ?_) (fun cdv A outer s H vs Q E hr h => ?_)
  · obtain ⟨a, ns, rfl, hS, hl, k⟩ := h
    rfl
  · obtain ⟨a, ns, rfl, hS, hl, k⟩ := h
    have hu := hu_of hr
    refine ⟨_, (pss_one (ps_ret (pe_lst (pa_cons (pe_callTy (T := "list") call_list_of (by rfl) T.z_list (by decide +kernel) (pa_cons (pv 0) pa_nil)) (pa_cons pe_int (pa_cons pe_int (pa_cons pe_int (pa_cons pe_int pa_nil)))))))), ?_⟩
    refine ⟨_, rfl, _, _, rfl, .inl hS, fun l hl1 => ⟨(by show 5 ≤ sizeLine; decide), fun t ht => ?_⟩⟩
    have ne : l ≠ t := ne_of_none upd_same ht
    exact k ⟨t, l, ns⟩ _ ⟨0, 0, 1, 0, upd_same, (upd_ne ne).trans upd_same, ne⟩
theorem ok__law_common (T : Txt K mg) : FnOk P w K mg base CX0 1 T.d__law_common.f T.d__law_common.fd ["_law_one", "_law_other"] (sp__law_common K mg T) := by
  refine T.d__law_common.F.ok sc__law_common (fun vs H Q E h => ?_) (fun cdv A outer s H vs Q E hr h => ?_)
  · obtain ⟨x, y, rfl, hy, k⟩ := h
    rfl
  · obtain ⟨x, y, rfl, hy, k⟩ := h
    have hu := hu_of hr
    refine ⟨_, (pss_cons (ps_set (i := 0) sc__law_common.nd rfl (Or.inl rfl) (pe_callB (id := "abs") call_abs (by rfl) T.z_abs (by decide +kernel) (pa_cons (pv 0) pa_nil)))
      (pss_cons (ps_set (i := 1) sc__law_common.nd rfl (Or.inl rfl) (pe_callB (id := "abs") call_abs (by rfl) T.z_abs (by decide +kernel) (pa_cons (pv 1) pa_nil)))
      (pss_cons (ps_for PassesOwn.never rfl (pi_range1 (by rfl) T.z_range (pa_cons pe_int pa_nil)) (pg_name (i := 2) sc__law_common.nd rfl (Or.inl rfl))
       (pss_cons (ps_if (pt_cmpR op_eq (pv 1) pe_int (nomark _))
         (pss_one (ps_ret (pv 0)))
         pss_nil)
        (pss_cons (ps_set (i := 3) sc__law_common.nd rfl (Or.inl rfl) (pe_op op_mod (pe_callTy (T := "int") call_int1 (by rfl) T.z_int (by decide +kernel) (pa_cons (pv 0) pa_nil)) (pv 1)))
        (pss_cons (ps_set (i := 0) sc__law_common.nd rfl (Or.inl rfl) (pv 1))
        (pss_one (ps_set (i := 1) sc__law_common.nd rfl (Or.inl rfl) (pv 3)))))))
      (pss_one (ps_ret (pv 0)))))), ?_⟩
    refine ⟨_, rfl, _, rfl, ?_⟩
    refine ⟨_, rfl, _, rfl, ?_⟩
    have ex : (if x < 0 then -x else x) = (x.natAbs : Int) := by split <;> omega
    have ey : (if y < 0 then -y else y) = (y.natAbs : Int) := by split <;> omega
    rw [ex, ey]
    refine ⟨4000, rfl, by decide, by decide, for_range (n := 4000) (fun i σ H' => H' = H ∧ ∃ (a b : Nat) (v r : Option V), σ = [some (.int (a : Nat)), some (.int (b : Nat)), v, r] ∧ b < 4000 - i ∧ Nat.gcd a b = Nat.gcd x.natAbs y.natAbs)
      ⟨rfl, _, _, _, _, rfl, hy, rfl⟩ ?_ ?_⟩
    · rintro i σ H1 hi ⟨rfl, a, b, v, r, rfl, hb, hg⟩
      refine ⟨_, rfl, rfl, _, rfl, ite2 (fun h => ?_) (fun h => ?_)⟩
      · have e : (b : Int) = 0 := by simpa using of_decide_eq_true h
        have e0 : b = 0 := by omega
        subst e0
        refine ⟨_, rfl, ?_⟩
        rw [Nat.gcd_zero_right] at hg
        rw [hg]
        exact k
      · have e : ¬ (b : Int) = 0 := by
          intro q
          apply h
          rw [q]
          rfl
        have hb0 : 0 < b := by omega
        have hlt : a % b < b := Nat.mod_lt _ hb0
        refine ⟨_, rfl, .inl ⟨_, rfl, _, rfl, _, _, rfl, rfl, (by show (0 : Int) < b; omega), ?_⟩⟩
        refine ⟨_, rfl, _, rfl, rfl, b, a % b, _, _, rfl, by omega, ?_⟩
        rw [← hg, Nat.gcd_comm a b, Nat.gcd_rec b a, Nat.gcd_comm]
    · rintro σ H1 ⟨rfl, a, b, v, r, rfl, hb, hg⟩
      exact absurd hb (by omega)
theorem ok__law_is_int (T : Txt K mg) : FnOk P w K mg base CX0 1 T.d__law_is_int.f T.d__law_is_int.fd ["_law_thing"] (sp__law_is_int K mg T) := by
  refine T.d__law_is_int.F.ok sc__law_is_int (fun vs H Q E h => ?_) (fun cdv A outer s H vs Q E hr h => ?_)
  · obtain ⟨i, rfl, k⟩ := h
    rfl
  · obtain ⟨i, rfl, k⟩ := h
    have hu := hu_of hr
    refine ⟨_, (pss_one (ps_ret (pe_and (pe_callB (id := "isinstance") call_isi (by rfl) T.z_isinstance (by decide +kernel) (pa_cons (pv 0) (pa_cons (pe_bltn (v := .ty "int") (u := .type "int") rfl T.z_int (by decide +kernel) rfl) pa_nil))) (pe_one (pe_not (pe_callB (id := "isinstance") call_isi (by rfl) T.z_isinstance (by decide +kernel) (pa_cons (pv 0) (pa_cons (pe_bltn (v := .ty "bool") (u := .type "bool") rfl T.z_bool (by decide +kernel) rfl) pa_nil)))))))), ?_⟩
    refine ⟨_, rfl, ?_⟩
    refine ⟨_, _, _, _, _, rfl, .ty _, .base (.int i), kii, _, rfl, ?_⟩
    refine ifP rfl ?_
    refine ⟨_, rfl, ?_⟩
    refine ⟨_, _, _, _, _, rfl, .ty _, .base (.int i), kib, _, rfl, ?_⟩
    exact k
theorem ok__law_rows (T : Txt K mg) : FnOk P w K mg base CX0 2 T.d__law_rows.f T.d__law_rows.fd ["_law_tape_here", "_law_most"] (sp__law_rows K mg T) := by
  have G__law_pick := ok__law_pick (P := P) (w := w) (base := base) T
  refine T.d__law_rows.F.ok sc__law_rows (fun vs H Q E h => ?_) (fun cdv A outer s H vs Q E hr h => ?_)
  · obtain ⟨Tp, rfl, tp, k⟩ := h
    rfl
  · obtain ⟨Tp, rfl, tp, k⟩ := h
    have hu := hu_of hr
    refine ⟨_, (pss_cons (ps_set (i := 2) sc__law_rows.nd rfl (Or.inl rfl) pe_str)
      (pss_cons (ps_set (i := 3) sc__law_rows.nd rfl (Or.inl rfl) (pe_op op_add pe_int (pe_call G__law_pick (hr.mono (by decide)) rfl T.d__law_pick.g T.d__law_pick.F.kp T.d__law_pick.b .nil pass0 (pa_cons (pv 0) (pa_cons (pv 1) pa_nil)))))
      (pss_cons (ps_set (i := 4) sc__law_rows.nd rfl (Or.inl rfl) (pe_call G__law_pick (hr.mono (by decide)) rfl T.d__law_pick.g T.d__law_pick.F.kp T.d__law_pick.b .nil pass0 (pa_cons (pv 0) (pa_cons pe_int pa_nil))))
      (pss_cons (ps_set (i := 5) sc__law_rows.nd rfl (Or.inl rfl) pe_str)
      (pss_cons (ps_for PassesOwn.never rfl (pi_range1 (by rfl) T.z_range (pa_cons (pv 3) pa_nil)) (pg_name (i := 6) sc__law_rows.nd rfl (Or.inl rfl))
       (pss_cons (ps_set (i := 5) sc__law_rows.nd rfl (Or.inl rfl) (pe_op op_add_str (pv 5) (pe_ix ix_str (pv 2) (pe_op op_add (pv 4) (pv 6)) (fun _ _ => rfl))))
        (pss_one (ps_set (i := 4) sc__law_rows.nd rfl (Or.inl rfl) (pe_op op_add (pv 4) (pe_call G__law_pick (hr.mono (by decide)) rfl T.d__law_pick.g T.d__law_pick.F.kp T.d__law_pick.b .nil pass0 (pa_cons (pv 0) (pa_cons pe_int pa_nil))))))))
      (pss_one (ps_ret (pv 5)))))))), ?_⟩
    refine ⟨_, rfl, _, rfl, Tp, 2, rfl, tp, by decide, by decide, fun m H1 hm t1 => ⟨_, _, rfl, rfl, ?_⟩⟩
    refine ⟨_, rfl, Tp, 20, rfl, t1.at1, by decide, by decide, fun st H2 hst t2 => ?_⟩
    refine ⟨_, rfl, _, rfl, ?_, ?_, for_range (n := 1 + m) (fun i σ H' => TS Tp H H' ∧ ∃ (l : List Nat) (s : Nat) (v : Option V), σ = [some (.ref Tp.t), some (.int 2), some (.str "abcdefghijklmnopqrstuvwxyz"), some (.int (1 + (m : Nat))), some (.int (s : Nat)), some (.str (strOf l)), v] ∧ l.length = i ∧ s ≤ 19 + i ∧ (∀ c ∈ l, 97 ≤ c ∧ c < 97 + s + i) ∧ l.Pairwise (· < ·)) ⟨t1.trans t2, [], st, _, rfl, rfl, by omega, (by simp), List.Pairwise.nil⟩ ?_ ?_⟩
    · omega
    · omega
    · rintro i σ H3 hi ⟨t3, l, s, v, rfl, hl, hs, hc, hp⟩
      refine ⟨_, rfl, _, rfl, _, rfl, _, rfl, _, _, rfl, rfl, _, _, _, rfl, rfl, ?_, at_of (j := s + i) (by omega) (letters_at (by omega)), _, _, rfl, rfl, ?_, ?_⟩
      · show (Str.ofString "abcdefghijklmnopqrstuvwxyz").length ≤ sizeLine
        decide +kernel
      · rw [strOf_len]
        show l.length + 1 ≤ sizeLine
        exact Nat.le_trans (show l.length + 1 ≤ 3 by omega) (by decide)
      refine ⟨_, rfl, _, rfl, Tp, 2, rfl, t3.at1, by decide, by decide, fun d H4 hd t4 => ⟨_, _, rfl, rfl, ?_⟩⟩
      refine ⟨t3.trans t4, l ++ [97 + (s + i)], s + d, some (.int (0 + (i : Nat))), ?_, by simp [hl], by omega, fun c h => ?_, ?_⟩
      · rw [← strOf_snoc, Int.natCast_add]
        rfl
      · rcases List.mem_append.1 h with h | h
        · have := hc c h
          omega
        · have : c = 97 + (s + i) := by simpa using h
          omega
      · refine List.pairwise_append.mpr ⟨hp, by simp, fun x hx y hy => ?_⟩
        have := hc x hx
        have : y = 97 + (s + i) := by simpa using hy
        omega
    · rintro σ H3 ⟨t3, l, s, v, rfl, hl, hs, hc, hp⟩
      refine ⟨_, rfl, k l H3 t3 (by omega) (by omega) (fun c h => ?_) hp⟩
      have := hc c h
      omega
theorem ok__law_gone (T : Txt K mg) : FnOk P w K mg base CX0 1 T.d__law_gone.f T.d__law_gone.fd ["_law_parts", "_law_standing", "_law_row", "_law_answer"] (sp__law_gone K mg T) := by
  refine T.d__law_gone.F.ok sc__law_gone (fun vs H Q E h => ?_) (fun cdv A outer s H vs Q E hr h => ?_)
  · obtain ⟨v, Pt, s, c, ja, rfl, hv, ok, hs, hja, hc, k⟩ := h
    rfl
  · obtain ⟨v, Pt, s, c, ja, rfl, hv, ok, hs, hja, hc, k⟩ := h
    have hu := hu_of hr
    refine ⟨_, (pss_one (ps_ret (pe_ix ix_tup (pe_ix ix_tup (pe_ix ix_tup (pe_ix ix_tup (pv 0) pe_int (fun _ _ => rfl)) (pv 1) (fun _ _ => rfl)) (pe_bm PySem.F.plainAttrs_str PySem.F.slot_str_index PySem.F.type_str_index mt_sindex (pe_ix ix_tup (pv 0) pe_int (fun _ _ => rfl)) (pa_cons (pv 2) pa_nil)) (fun _ _ => rfl)) (pv 3) (fun _ _ => rfl)))), ?_⟩
    obtain ⟨a, m, rfl, ha, hm⟩ := hv
    obtain ⟨ls, l, p, e1, e2, e3, eg, _⟩ := moves_at ok hs hja
    obtain ⟨a1, us1, u1, rfl, q1, i1, r1⟩ := TupOf.get (K := K) hm e1
    obtain ⟨a2, us2, u2, rfl, q2, i2, r2⟩ := TupOf.get (K := K) r1 e2
    obtain ⟨a3, us3, u3, rfl, q3, i3, b, rfl, hb⟩ := TupOf.get (K := K) r2 e3
    obtain ⟨rest, ho⟩ := occ_at ok.r1 ok.r2 ok.asc hc
    refine ⟨_, rfl, _, _, _, _, rfl, rfl, SqT.of ha, rfl, _, rfl, _, _, _, _, rfl, rfl, q1, i1, ?_⟩
    refine ⟨_, rfl, _, _, _, _, rfl, rfl, SqT.of ha, rfl, rfl, _, rfl, _, _, _, _, rfl, rfl, ho, _, _, _, _, rfl, rfl, q2, i2, ?_⟩
    refine ⟨_, rfl, _, _, _, _, rfl, rfl, q3, i3, ?_⟩
    exact k b p.1 (by rw [eg]; exact hb)
theorem ok__law_signs (T : Txt K mg) : FnOk P w K mg base CX0 1 T.d__law_signs.f T.d__law_signs.fd ["_law_parts"] (sp__law_signs K mg T) := by
  refine T.d__law_signs.F.ok sc__law_signs (fun vs H Q E h => ?_) (fun cdv A outer s H vs Q E hr h => ?_)
  · obtain ⟨v, Pt, rfl, hv, ok, k⟩ := h
    rfl
  · obtain ⟨v, Pt, rfl, hv, ok, k⟩ := h
    have hu := hu_of hr
    refine ⟨_, (pss_cons (ps_set (i := 1) sc__law_signs.nd rfl (Or.inl rfl) (pe_lst pa_nil))
      (pss_cons (ps_for PassesOwn.never rfl (pi_str (pe_ix ix_tup (pv 0) pe_int (fun _ _ => rfl))) (pg_name (i := 2) sc__law_signs.nd rfl (Or.inl rfl))
       (pss_one (ps_for PassesOwn.never rfl (pi_range1 (by rfl) T.z_range (pa_cons (pe_ix ix_tup (pv 0) pe_int (fun _ _ => rfl)) pa_nil)) (pg_name (i := 3) sc__law_signs.nd rfl (Or.inl rfl))
         (pss_one (ps_expr (pe_bm PySem.F.plainAttrs_list PySem.F.slot_list_append PySem.F.type_list_append mt_append (pv 1) (pa_cons (pe_tup (pa_cons (pv 2) (pa_cons (pv 3) pa_nil))) pa_nil)))))))
      (pss_one (ps_ret (pv 1))))), ?_⟩
    obtain ⟨a, m, rfl, ha, hm⟩ := hv
    refine ⟨Nat.zero_le _, fun p hp => ?_⟩
    have hr2 := ok.r2
    have ha2 := ok.a2
    refine ⟨_, rfl, _, _, _, _, rfl, rfl, SqT.of ((Same.alloc hp) _ _ ha), rfl, _, rfl, for_it (walk_str (z := strOf Pt.rows)) (fun i σ H' => Same H H' ∧ SignsAt Pt H' p ((List.range i).flatMap fun j => (List.range Pt.ans).map fun a => (j, a)) ∧ ∃ v1 v2, σ = [some (.ref a), some (.ref p), v1, v2])
      ⟨Same.alloc hp, ⟨[], upd_same, .nil⟩, _, _, rfl⟩ (fun _ _ _ _ _ => trivial) ?_ ?_⟩
    · rintro i x σ H1 H2 hi ⟨s1, g1, v1, v2, rfl⟩ ⟨rfl, c, hc, rfl⟩
      have hi' : i < Pt.rows.length := by simpa [strOf] using hi
      have hc' : Pt.rows[i]? = some c := by simpa [strOf] using hc
      refine ⟨_, rfl, _, _, _, _, rfl, rfl, SqT.of (s1 _ _ ha), rfl, _, rfl, by omega, by omega, for_range (n := Pt.ans) (fun k σ H' => Same H H' ∧ SignsAt Pt H' p (((List.range i).flatMap fun j => (List.range Pt.ans).map fun a => (j, a)) ++ (List.range k).map fun a => (i, a)) ∧ ∃ v2, σ = [some (.ref a), some (.ref p), some (.str ⟨#[c]⟩), v2])
        ⟨s1, by simpa using g1, _, rfl⟩ ?_ ?_⟩
      · rintro k σ H3 hk ⟨s3, ⟨vs, hL, hv⟩, v3, rfl⟩
        have hlen : vs.length < sizeLine := by
          rw [Pd.len hv]
          have h1 := signs_len ok
          have h2 : (((List.range i).flatMap fun j => (List.range Pt.ans).map fun a => (j, a)) ++ (List.range k).map fun a => (i, a)).length ≤ 100 := by
            rw [List.length_append, List.length_flatMap]
            simp only [List.length_range, List.length_map]
            have : ((List.range i).map fun _ => Pt.ans).sum ≤ 50 := by
              match i, (show i ≤ 2 by omega) with
              | 0, _ => simp
              | 1, _ => simp [List.range_succ]; omega
              | 2, _ => simp [List.range_succ]; omega
            omega
          exact small1000 (by omega)
        refine ⟨_, rfl, .inl ⟨rfl, _, SqL.of hL⟩, _, rfl, _, rfl, (by show 2 ≤ sizeLine; decide), fun q hq => ⟨_, _, _, rfl, rfl, (Same.alloc hq) _ _ hL, hlen, ?_⟩⟩
        refine ⟨Same.write (Same.alloc' s3 hq) hp, ⟨_, upd_same, ?_⟩, _, rfl⟩
        rw [List.range_succ, List.map_append, ← List.append_assoc]
        exact push_tup (RSign.mono Pt) hL hv hq fun H' tx e => ⟨q, c, rfl, hc', by rw [e]; show some (HO.tup [.str _, .int (0 + (k : Int))]) = _; rw [Int.zero_add]; rfl⟩
      · rintro σ H3 ⟨s3, g3, v3, rfl⟩
        exact ⟨s3, by rw [signs_pre]; exact g3, _, _, rfl⟩
    · rintro σ H1 ⟨s1, g1, v1, v2, rfl⟩
      refine ⟨_, rfl, k p H1 s1 hp ?_⟩
      have : (strOf Pt.rows).cps.size = Pt.rows.length := by simp [strOf]
      rw [this] at g1
      exact g1
end
end K70

namespace K70
open PySem L2
/-! ### the machine as an object -/
def mf (Pt : Parts) (m : V) (d w : Addr) : List (Str × V) :=
  putF "kept_webs" (.ref w) (putF "kept_steps" (.ref d) (putF "size" (.int (Pt.moves.length : Nat)) (putF "moves" m (putF "answers" (.int (Pt.ans : Nat)) (putF "rows" (.str (strOf Pt.rows)) [])))))
theorem mf_rows (Pt : Parts) (m : V) (d w : Addr) : (mf Pt m d w).lookup ("rows" : Str) = some (.str (strOf Pt.rows)) := by
  unfold mf
  rw [lookup_putF, if_neg (by decide +kernel), lookup_putF, if_neg (by decide +kernel), lookup_putF, if_neg (by decide +kernel), lookup_putF, if_neg (by decide +kernel), lookup_putF, if_neg (by decide +kernel), lookup_putF, if_pos rfl]
theorem mf_answers (Pt : Parts) (m : V) (d w : Addr) : (mf Pt m d w).lookup ("answers" : Str) = some (.int (Pt.ans : Nat)) := by
  unfold mf
  rw [lookup_putF, if_neg (by decide +kernel), lookup_putF, if_neg (by decide +kernel), lookup_putF, if_neg (by decide +kernel), lookup_putF, if_neg (by decide +kernel), lookup_putF, if_pos rfl]
theorem mf_size (Pt : Parts) (m : V) (d w : Addr) : (mf Pt m d w).lookup ("size" : Str) = some (.int (Pt.moves.length : Nat)) := by
  unfold mf
  rw [lookup_putF, if_neg (by decide +kernel), lookup_putF, if_neg (by decide +kernel), lookup_putF, if_pos rfl]
theorem mf_steps (Pt : Parts) (m : V) (d w : Addr) : (mf Pt m d w).lookup ("kept_steps" : Str) = some (.ref d) := by
  unfold mf
  rw [lookup_putF, if_neg (by decide +kernel), lookup_putF, if_pos rfl]
theorem mf_keep (Pt : Parts) (m : V) (d w : Addr) : (mf Pt m d w).lookup ("keep" : Str) = none := by
  unfold mf
  rw [lookup_putF, if_neg (by decide +kernel), lookup_putF, if_neg (by decide +kernel), lookup_putF, if_neg (by decide +kernel), lookup_putF, if_neg (by decide +kernel), lookup_putF, if_neg (by decide +kernel), lookup_putF, if_neg (by decide +kernel)]
  rfl
theorem pf_len {n : Nat} {f : Str} {v : V} {fs : List (Str × V)} (h : fs.length ≤ n) : (putF f v fs).length ≤ n + 1 := Nat.le_trans (length_putF f v fs) (Nat.succ_le_succ h)
abbrev skey (s c a : Nat) : List Key := [Sum.inl (s : Int), Sum.inr (ch c), Sum.inl (a : Int)]
/-- the steps told so far: standings below i, at i rows below j, at j answers below k -/
def StepsTo (Pt : Parts) (H : Hp) (kvs : List (List Key × V)) (i j k : Nat) : Prop := ∀ (s : Nat) (ja : Nat × Nat) (c : Nat), s < Pt.moves.length → ja ∈ signs Pt → Pt.rows[ja.1]? = some c →
  (s < i ∨ (s = i ∧ (ja.1 < j ∨ (ja.1 = j ∧ ja.2 < k)))) → ∃ (b : Addr) (tk : Int), valV kvs (skey s c ja.2) = some (.ref b) ∧ H b = some (.tup [.int tk, .int (goal Pt s ja : Nat)])
def MachAt (C : Addr) (Pt : Parts) (H : Hp) (x : Addr) : Prop := ∃ (dx : Addr) (m : V) (d w : Addr) (kvs : List (List Key × V)), H x = some (.ins C dx (mf Pt m d w)) ∧ H d = some (.dT kvs) ∧ StepsTo Pt H kvs Pt.moves.length 0 0
theorem MachAt.keep {C : Addr} {Pt : Parts} {H H' : Hp} {x : Addr} (h : MachAt C Pt H x) (k : ∀ b o, (∀ xs, o ≠ .lst xs) → H b = some o → H' b = some o) : MachAt C Pt H' x := by
  obtain ⟨dx, m, d, w, kvs, h1, h2, h3⟩ := h
  refine ⟨dx, m, d, w, kvs, k _ _ (fun _ z => by cases z) h1, k _ _ (fun _ z => by cases z) h2, fun s ja c a1 a2 a3 a4 => ?_⟩
  obtain ⟨b, tk, e1, e2⟩ := h3 s ja c a1 a2 a3 a4
  exact ⟨b, tk, e1, k _ _ (fun _ z => by cases z) e2⟩
theorem MachAt.same {C : Addr} {Pt : Parts} {H H' : Hp} {x : Addr} (h : MachAt C Pt H x) (s : Same H H') : MachAt C Pt H' x := h.keep fun b o _ e => s b o e
theorem MachAt.ts {C : Addr} {Pt : Parts} {H H' : Hp} {x : Addr} {T : Tape} (h : MachAt C Pt H x) (s : TS T H H') : MachAt C Pt H' x := h.keep fun b o n e => s.keep e n
structure KInv (C x dx : Addr) (m : V) (d w : Addr) (Pt : Parts) (H H' : Hp) (i j k : Nat) : Prop where
  bx : ∀ b o, H b = some o → b ≠ x → H' b = some o
  hx : H' x = some (.ins C dx (mf Pt m d w))
  nd : H d = none
  st : ∃ kvs, H' d = some (.dT kvs) ∧ kvs.length ≤ 4 * i + 2 * j + k ∧ StepsTo Pt H' kvs i j k
theorem KInv.alloc {C x dx : Addr} {m : V} {d w : Addr} {Pt : Parts} {H H' : Hp} {i j k : Nat} (h : KInv C x dx m d w Pt H H' i j k) {q : Addr} {o : HO} (n : H' q = none) : KInv C x dx m d w Pt H (upd H' q o) i j k where
  bx := fun b u e ne => (Same.alloc n) _ _ (h.bx b u e ne)
  hx := (Same.alloc n) _ _ h.hx
  nd := h.nd
  st := by
    obtain ⟨kvs, e1, e2, e3⟩ := h.st
    refine ⟨kvs, (Same.alloc n) _ _ e1, e2, fun s ja c a1 a2 a3 a4 => ?_⟩
    obtain ⟨b, tk, z1, z2⟩ := e3 s ja c a1 a2 a3 a4
    exact ⟨b, tk, z1, (Same.alloc n) _ _ z2⟩
theorem KInv.row {C x dx : Addr} {m : V} {d w : Addr} {Pt : Parts} (ok : Pt.Ok) {H H' : Hp} {i j : Nat} (h : KInv C x dx m d w Pt H H' i j Pt.ans) : KInv C x dx m d w Pt H H' i (j + 1) 0 where
  bx := h.bx
  hx := h.hx
  nd := h.nd
  st := by
    obtain ⟨kvs, e1, e2, e3⟩ := h.st
    have := ok.a2
    refine ⟨kvs, e1, by omega, fun s ja c a1 a2 a3 a4 => e3 s ja c a1 a2 a3 ?_⟩
    obtain ⟨_, q⟩ := mem_signs.mp a2
    omega
theorem KInv.line {C x dx : Addr} {m : V} {d w : Addr} {Pt : Parts} (ok : Pt.Ok) {H H' : Hp} {i : Nat} (h : KInv C x dx m d w Pt H H' i Pt.rows.length 0) : KInv C x dx m d w Pt H H' (i + 1) 0 0 where
  bx := h.bx
  hx := h.hx
  nd := h.nd
  st := by
    obtain ⟨kvs, e1, e2, e3⟩ := h.st
    have := ok.r2
    refine ⟨kvs, e1, by omega, fun s ja c a1 a2 a3 a4 => e3 s ja c a1 a2 a3 ?_⟩
    obtain ⟨q, _⟩ := mem_signs.mp a2
    omega
theorem KInv.put {C x dx : Addr} {m : V} {d w : Addr} {Pt : Parts} (ok : Pt.Ok) {H H' : Hp} {i j k c : Nat} (h : KInv C x dx m d w Pt H H' i j k) (hj : (j, k) ∈ signs Pt) (hc : Pt.rows[j]? = some c) {b : Addr} {tk : Int} (hb : H' b = some (.tup [.int tk, .int (goal Pt i (j, k) : Nat)]))
    {kvs : List (List Key × V)} (hd : H' d = some (.dT kvs)) : KInv C x dx m d w Pt H (upd H' d (.dT (putK kvs (skey i c k) (.ref b)))) i j (k + 1) where
  bx := fun a u e ne => by
    have : a ≠ d := ne_of_none e h.nd
    rw [upd_ne this]
    exact h.bx a u e ne
  hx := by
    have : x ≠ d := ne_of h.hx hd (by intro z; cases z)
    rw [upd_ne this]
    exact h.hx
  nd := h.nd
  st := by
    obtain ⟨kvs', e1, e2, e3⟩ := h.st
    rw [hd] at e1
    obtain rfl : kvs = kvs' := by cases e1; rfl
    have l := length_putK kvs (skey i c k) (.ref b)
    have tx : TX H' (upd H' d (.dT (putK kvs (skey i c k) (.ref b)))) := TX.write hd (fun _ z => by cases z)
    refine ⟨_, upd_same, by omega, fun s ja c' a1 a2 a3 a4 => ?_⟩
    rw [valV_put]
    by_cases q : skey s c' ja.2 = skey i c k
    · rw [if_pos q]
      injection q with q1 q
      injection q with q2 q
      injection q with q3 _
      have z1 : (s : Int) = (i : Int) := Sum.inl.inj q1
      have z1' : s = i := by omega
      have z3 : (ja.2 : Int) = (k : Int) := Sum.inl.inj q3
      have z3' : ja.2 = k := by omega
      have z2 : ch c' = ch c := Sum.inr.inj q2
      have z2' : c' = c := by
        have : (ch c').cps.toList = (ch c).cps.toList := by rw [z2]
        simpa [ch] using this
      have nd : Pt.rows.Nodup := List.Pairwise.imp (fun h => Nat.ne_of_lt h) ok.asc
      have z4 : ja.1 = j := nd_ix nd a3 (by rw [z2']; exact hc)
      have z5 : ja = (j, k) := Prod.ext z4 z3'
      exact ⟨b, tk, rfl, by rw [z1', z5]; exact tx _ _ hb⟩
    · rw [if_neg q]
      obtain ⟨b', tk', y1, y2⟩ := e3 s ja c' a1 a2 a3 (by
        rcases a4 with a4 | ⟨a4, a5 | ⟨a5, a6⟩⟩
        · exact .inl a4
        · exact .inr ⟨a4, .inl a5⟩
        · by_cases r : ja.2 = k
          · exfalso
            apply q
            have z : c' = c := by
              rw [a5, hc] at a3
              exact (Option.some.inj a3).symm
            rw [a4, r, z]
          · exact .inr ⟨a4, .inr ⟨a5, by omega⟩⟩)
      exact ⟨b', tk', y1, tx _ _ y2⟩

theorem goal_eq {P : Parts} {s j a : Nat} {ls : List (List (Int × Nat))} {l : List (Int × Nat)} {p : Int × Nat} (e1 : P.moves[s]? = some ls) (e2 : ls[j]? = some l) (e3 : l[a]? = some p) : goal P s (j, a) = p.2 := by
  unfold goal
  rw [getD_some e1, getD_some e2, getD_some e3]
def sp_Machine_keep (K : PySem.W.Frag) (mg : Str → Option Value) (T : Txt K mg) : Sp := fun vs H Q _ => ∃ (x dx : Addr) (m : V) (Pt : Parts), vs = [.ref x, .str (strOf Pt.rows), .int (Pt.ans : Nat), m] ∧ H x = some (.ins T.C dx []) ∧ RMoves H m Pt.moves ∧ Pt.Ok ∧
  ∀ H' : Hp, (∀ b o, H b = some o → b ≠ x → H' b = some o) → MachAt T.C Pt H' x → Q .non H'
def sp_Machine___init__ (K : PySem.W.Frag) (mg : Str → Option Value) (T : Txt K mg) : Sp := fun vs H Q _ => ∃ (x dx : Addr) (m : V) (Pt : Parts), vs = [.ref x, .str (strOf Pt.rows), .int (Pt.ans : Nat), m] ∧ H x = some (.ins T.C dx []) ∧ RMoves H m Pt.moves ∧ Pt.Ok ∧
  ∀ H' : Hp, (∀ b o, H b = some o → b ≠ x → H' b = some o) → MachAt T.C Pt H' x → Q .non H'
section
variable {P : Program} {w : World} {K : PySem.W.Frag} {mg : Str → Option Value} {base : Heap}
theorem ok_Machine_keep (T : Txt K mg) : FnOk P w K mg base CX0 1 T.d_Machine_keep.f T.d_Machine_keep.fd ["self", "rows", "answers", "moves"] (sp_Machine_keep K mg T) := by
  refine T.d_Machine_keep.F.ok sc_Machine_keep (fun vs H Q E h => ?_) (fun cdv A outer s H vs Q E hr h => ?_)
  · obtain ⟨x, dx, m, Pt, rfl, hx, hm, ok, k⟩ := h
    rfl
  · obtain ⟨x, dx, m, Pt, rfl, hx, hm, ok, k⟩ := h
    have hu := hu_of hr
    refine ⟨_, (pss_cons (ps_fld (pv 0) (pv 1) rfl)
      (pss_cons (ps_fld (pv 0) (pv 2) rfl)
      (pss_cons (ps_fld (pv 0) (pv 3) rfl)
      (pss_cons (ps_fld (pv 0) (pe_callB (id := "len") call_len_seq (by rfl) T.z_len (by decide +kernel) (pa_cons (pv 3) pa_nil)) rfl)
      (pss_cons (ps_fld (pv 0) pe_dnewT rfl)
      (pss_cons (ps_fld (pv 0) pe_dnewK rfl)
      (pss_one (ps_for PassesOwn.never rfl (pi_enumT (by rfl) T.z_enumerate (pa_cons (pv 3) pa_nil)) (pg_tup rfl (pgs_cons (pg_name (i := 4) sc_Machine_keep.nd rfl (Or.inl rfl)) (pgs_cons (pg_name (i := 5) sc_Machine_keep.nd rfl (Or.inl rfl)) pgs_nil)))
       (pss_one (ps_for PassesOwn.never rfl (pi_zipS (by rfl) T.z_zip (pa_cons (pv 1) (pa_cons (pv 5) pa_nil))) (pg_tup rfl (pgs_cons (pg_name (i := 6) sc_Machine_keep.nd rfl (Or.inl rfl)) (pgs_cons (pg_name (i := 7) sc_Machine_keep.nd rfl (Or.inl rfl)) pgs_nil)))
         (pss_one (ps_for PassesOwn.never rfl (pi_enumT (by rfl) T.z_enumerate (pa_cons (pv 7) pa_nil)) (pg_tup rfl (pgs_cons (pg_name (i := 8) sc_Machine_keep.nd rfl (Or.inl rfl)) (pgs_cons (pg_name (i := 9) sc_Machine_keep.nd rfl (Or.inl rfl)) pgs_nil)))
           (pss_one (ps_dput hu (pe_fld (pv 0) rfl) (pe_tup (pa_cons (pv 4) (pa_cons (pv 6) (pa_cons (pv 8) pa_nil)))) (pv 9) rfl)))))))))))))), ?_⟩
    obtain ⟨a, us, rfl, ha, hp⟩ := hm
    have hlen : us.length = Pt.moves.length := Pd.len hp
    have nxa : a ≠ x := ne_of ha hx (by intro z; cases z)
    refine ⟨_, rfl, _, rfl, x, T.C, dx, [], rfl, hx, T.cl, T.n_rows, (by show 0 < 1000; decide), ?_⟩
    refine ⟨_, rfl, _, rfl, x, T.C, dx, _, rfl, upd_same, T.cl, T.n_answers, Nat.lt_of_le_of_lt (pf_len (Nat.zero_le 0)) (by decide), ?_⟩
    refine ⟨_, rfl, _, rfl, x, T.C, dx, _, rfl, upd_same, T.cl, T.n_moves, Nat.lt_of_le_of_lt (pf_len (pf_len (Nat.zero_le 0))) (by decide), ?_⟩
    refine ⟨_, rfl, _, _, rfl, .inr (SqT.of ((upd_ne nxa).trans ((upd_ne nxa).trans ((upd_ne nxa).trans ha)))), _, rfl, x, T.C, dx, _, rfl, upd_same, T.cl, T.n_size, Nat.lt_of_le_of_lt (pf_len (pf_len (pf_len (Nat.zero_le 0)))) (by decide), ?_⟩
    refine fun d hd => ?_
    have ndx : x ≠ d := ne_of_none upd_same hd
    refine ⟨_, rfl, x, T.C, dx, _, rfl, (upd_ne ndx).trans upd_same, T.cl, T.n_kept_steps, Nat.lt_of_le_of_lt (pf_len (pf_len (pf_len (pf_len (Nat.zero_le 0))))) (by decide), ?_⟩
    refine fun w0 hw => ?_
    have nwx : x ≠ w0 := ne_of_none upd_same hw
    have nwd : d ≠ w0 := ne_of_none ((upd_ne ndx.symm).trans upd_same) hw
    refine ⟨_, rfl, x, T.C, dx, _, rfl, (upd_ne nwx).trans upd_same, T.cl, T.n_kept_webs, Nat.lt_of_le_of_lt (pf_len (pf_len (pf_len (pf_len (pf_len (Nat.zero_le 0)))))) (by decide), ?_⟩
    have hd0 : H d = none := by
      rw [upd_ne ndx.symm, upd_ne ndx.symm, upd_ne ndx.symm, upd_ne ndx.symm] at hd
      exact hd
    have hw0 : H w0 = none := by
      rw [upd_ne nwx.symm, upd_ne nwd.symm, upd_ne nwx.symm, upd_ne nwx.symm, upd_ne nwx.symm, upd_ne nwx.symm] at hw
      exact hw
    have nad : a ≠ d := ne_of_none ha hd0
    have naw : a ≠ w0 := ne_of_none ha hw0
    refine ⟨_, rfl, a, us, rfl, SqT.of (by simp only [upd_ne nxa, upd_ne nad, upd_ne naw]; exact ha), for_it (walk_enumT (xs := us)) (fun i σ H' => KInv T.C x dx (.ref a) d w0 Pt H H' i 0 0 ∧ ∃ v1 v2 v3 v4 v5 v6, σ = [some (.ref x), some (.str (strOf Pt.rows)), some (.int (Pt.ans : Nat)), some (.ref a), v1, v2, v3, v4, v5, v6]) ⟨?_, _, _, _, _, _, _, rfl⟩ (fun i σ H' _ h => SqT.of (h.1.bx _ _ ha nxa)) ?_ ?_⟩
    · refine ⟨fun b o e ne => ?_, ?_, hd0, [], ?_, by simp, fun s ja c a1 a2 a3 a4 => ?_⟩
      · simp only [upd_ne ne, upd_ne (ne_of_none e hd0), upd_ne (ne_of_none e hw0)]
        exact e
      · refine upd_same.trans ?_
        unfold mf
        rw [hlen]
      · simp only [upd_ne ndx.symm, upd_ne nwd]
        exact upd_same
      · exfalso
        omega
    · rintro i y σ H1 H2 hi ⟨ki, v1, v2, v3, v4, v5, v6, rfl⟩ ⟨Tq, z1, z2, rfl, hT, rfl, e1, e2⟩
      obtain ⟨ls, hls, a2, us2, rfl, ha2, hp2⟩ := Pd.get' hp e2
      obtain ⟨sh1, sh⟩ := ok.sh ls (mem_of hls)
      have e1' : V.int ((i : Nat) : Int) = z1 := Option.some.inj e1
      subst e1'
      have nx2 : a2 ≠ x := ne_of ha2 hx (by intro z; cases z)
      have k1 := ki.alloc (o := .tup [.int ((i : Nat) : Int), .ref a2]) hT
      have him : i < Pt.moves.length := by omega
      refine ⟨_, _, rfl, SqT.of upd_same, rfl, _, _, rfl, _, _, rfl, rfl, ?_⟩
      refine ⟨_, rfl, _, rfl, strOf Pt.rows, a2, us2, rfl, SqT.of (k1.bx _ _ ha2 nx2), for_it (walk_zipS (x := strOf Pt.rows) (ys := us2) (n := Pt.rows.length) ?_) (fun j σ H' => KInv T.C x dx (.ref a) d w0 Pt H H' i j 0 ∧ ∃ v3 v4 v5 v6, σ = [some (.ref x), some (.str (strOf Pt.rows)), some (.int (Pt.ans : Nat)), some (.ref a), some (.int ((i : Nat) : Int)), some (.ref a2), v3, v4, v5, v6]) ⟨k1, _, _, _, _, rfl⟩ (fun j σ H' _ h => SqT.of (h.1.bx _ _ ha2 nx2)) ?_ ?_⟩
      · have := Pd.len hp2
        simp [strOf]
        omega
      · rintro j y2 σ H3 H4 hj ⟨kj, v3, v4, v5, v6, rfl⟩ ⟨Tq2, z1, z2, rfl, hT2, rfl, f1, f2⟩
        obtain ⟨l, hl, a3, us3, rfl, ha3, hp3⟩ := Pd.get' hp2 f2
        obtain ⟨sh2, _⟩ := sh l (mem_of hl)
        have hc : Pt.rows[j]? = some Pt.rows[j] := List.getElem?_eq_getElem hj
        have ez : z1 = .str (ch Pt.rows[j]) := by
          have q : (strOf Pt.rows).cps[j]? = some Pt.rows[j] := by simp [strOf, hj]
          simp only [q, Option.map_some] at f1
          exact (Option.some.inj f1).symm
        subst ez
        have nx3 : a3 ≠ x := ne_of ha3 hx (by intro z; cases z)
        have k2 := kj.alloc (o := .tup [.str (ch Pt.rows[j]), .ref a3]) hT2
        refine ⟨_, _, rfl, SqT.of upd_same, rfl, _, _, rfl, _, _, rfl, rfl, ?_⟩
        refine ⟨_, rfl, a3, us3, rfl, SqT.of (k2.bx _ _ ha3 nx3), for_it (walk_enumT (xs := us3)) (fun k σ H' => KInv T.C x dx (.ref a) d w0 Pt H H' i j k ∧ ∃ v5 v6, σ = [some (.ref x), some (.str (strOf Pt.rows)), some (.int (Pt.ans : Nat)), some (.ref a), some (.int ((i : Nat) : Int)), some (.ref a2), some (.str (ch Pt.rows[j])), some (.ref a3), v5, v6]) ⟨k2, _, _, rfl⟩ (fun k σ H' _ h => SqT.of (h.1.bx _ _ ha3 nx3)) ?_ ?_⟩
        · rintro n y3 σ H5 H6 hn ⟨kn, v5, v6, rfl⟩ ⟨Tq3, z1, z2, rfl, hT3, rfl, g1, g2⟩
          obtain ⟨p, hp', b, rfl, hb⟩ := Pd.get' hp3 g2
          have g1' : V.int ((n : Nat) : Int) = z1 := Option.some.inj g1
          subst g1'
          have nxb : b ≠ x := ne_of hb hx (by intro z; cases z)
          have k3 := kn.alloc (o := .tup [.int ((n : Nat) : Int), .ref b]) hT3
          have hnl : n < us3.length := (List.getElem?_eq_some_iff.mp g2).1
          have hl3 := Pd.len hp3
          have hja : (j, n) ∈ signs Pt := mem_signs.mpr ⟨hj, by show n < Pt.ans; omega⟩
          have hg : goal Pt i (j, n) = p.2 := goal_eq hls hl hp'
          refine ⟨_, _, rfl, SqT.of upd_same, rfl, _, _, rfl, _, _, rfl, rfl, ?_⟩
          refine ⟨_, rfl, _, rfl, x, T.C, dx, _, _, rfl, k3.hx, T.cl, T.n_kept_steps, mf_steps _ _ _ _, _, rfl, _, rfl, _, rfl, (by show 3 ≤ sizeLine; decide), fun q hq => ?_⟩
          have k4 := k3.alloc (o := .tup [.int ((i : Nat) : Int), .str (ch Pt.rows[j]), .int ((n : Nat) : Int)]) hq
          obtain ⟨kvs, hkv, hkl, _⟩ := k4.st
          refine ⟨d, _, rfl, DPut.t (k := skey i Pt.rows[j] n) hkv upd_same ?_, ?_⟩
          · have := ok.m2
            have := ok.r2
            have := ok.a2
            exact small1000 (by omega)
          · exact ⟨k4.put ok hja hc (by rw [hg]; exact k4.bx _ _ hb nxb) hkv, _, _, rfl⟩
        · rintro σ H5 ⟨kn, v5, v6, rfl⟩
          have hl3 := Pd.len hp3
          rw [hl3, sh2] at kn
          exact ⟨kn.row ok, _, _, _, _, rfl⟩
      · rintro σ H3 ⟨kj, v3, v4, v5, v6, rfl⟩
        exact ⟨kj.line ok, _, _, _, _, _, _, rfl⟩
    · rintro σ H1 ⟨ki, v1, v2, v3, v4, v5, v6, rfl⟩
      rw [hlen] at ki
      obtain ⟨kvs, q1, _, q2⟩ := ki.st
      exact k H1 ki.bx ⟨dx, .ref a, d, w0, kvs, ki.hx, q1, q2⟩
theorem ok_Machine___init__ (T : Txt K mg) : FnOk P w K mg base CX0 5 T.d_Machine___init__.f T.d_Machine___init__.fd ["self", "rows", "answers", "moves"] (sp_Machine___init__ K mg T) := by
  have G_Machine_keep := ok_Machine_keep (P := P) (w := w) (base := base) T
  have G_are_moves := ok_are_moves (P := P) (w := w) (base := base) T
  have G_is_rows := ok_is_rows (P := P) (w := w) (base := base) T
  have G_is_within := ok_is_within (P := P) (w := w) (base := base) T
  refine T.d_Machine___init__.F.ok sc_Machine___init__ (fun vs H Q E h => ?_) (fun cdv A outer s H vs Q E hr h => ?_)
  · obtain ⟨x, dx, m, Pt, rfl, hx, hm, ok, k⟩ := h
    rfl
  · obtain ⟨x, dx, m, Pt, rfl, hx, hm, ok, k⟩ := h
    have hu := hu_of hr
    refine ⟨_, (pss_cons (ps_if (pt_not (pt_val (pe_call G_is_rows (hr.mono (by decide)) rfl T.d_is_rows.g T.d_is_rows.F.kp T.d_is_rows.b .nil pass0 (pa_cons (pv 1) pa_nil))))
       (pss_one ps_never)
       pss_nil)
      (pss_cons (ps_if (pt_not (pt_val (pe_call G_is_within (hr.mono (by decide)) rfl T.d_is_within.g T.d_is_within.F.kp T.d_is_within.b .nil pass0 (pa_cons (pv 2) (pa_cons pe_int (pa_cons (pe_glob (v := .int 3) rfl T.m_MOST_ANSWERS.choose_spec ⟨_, rfl⟩) pa_nil))))))
       (pss_one ps_never)
       pss_nil)
      (pss_cons (ps_if (pt_not (pt_val (pe_call G_are_moves (hr.mono (by decide)) rfl T.d_are_moves.g T.d_are_moves.F.kp T.d_are_moves.b .nil pass0 (pa_cons (pv 3) (pa_cons (pv 1) (pa_cons (pv 2) pa_nil))))))
       (pss_one ps_never)
       pss_nil)
      (pss_one (ps_expr (pe_meth (pv 0) T.cl T.d_Machine_keep.me G_Machine_keep (hr.mono (by decide)) T.d_Machine_keep.b .nil pass0 (pa_cons (pv 1) (pa_cons (pv 2) (pa_cons (pv 3) pa_nil))))))))), ?_⟩
    refine ⟨_, rfl, Pt.rows, rfl, ok.low, ok.asc, ok.r1, ok.r2, _, rfl, ifN rfl ?_⟩
    have h1 := ok.a1
    have h2 := ok.a2
    refine ⟨_, rfl, _, _, _, rfl, by omega, by omega, _, rfl, ifN rfl ?_⟩
    refine ⟨_, rfl, _, rfl, _, rfl, m, Pt, rfl, hm, ok, fun H1 s1 => ⟨_, rfl, ifN rfl ?_⟩⟩
    refine ⟨_, rfl, x, dx, [], rfl, s1 _ _ hx, rfl, _, rfl, _, rfl, _, rfl, x, dx, m, Pt, rfl, s1 _ _ hx, RMoves.mono _ _ _ _ (Same.tx s1) hm, ok, fun H2 b2 m2 => ?_⟩
    exact k H2 (fun b o e ne => b2 b o (s1 _ _ e) ne) m2
end
end K70

namespace K70
open PySem L2
/-! ### a comprehension with two fors -/
/-- over any body: `At l` is what holds before the item numbered l -/
theorem comp_walk {J : It} {n : Nat} {G : Hp → Prop} {Y : Nat → Hp → V → Hp → Prop} (w : Walk J n G Y) (Body : (Hp → Prop) → V → Hp → Prop) {S0 : Hp} {Fin : Hp → Prop}
    (At : Nat → Hp → Prop) (h0 : At 0 S0) (hG : ∀ l M, l ≤ n → At l M → G M) (hs : ∀ l y M M', l < n → At l M → Y l M y M' → Body (At (l + 1)) y M') (hd : ∀ M, At n M → Fin M) :
    ∃ Z : Nat → Nat → Hp → Prop, (∃ left, Z 0 left S0) ∧
      ∀ l left M, Z l left M → (J.stop l M ∧ Fin M) ∨
        (J.go l M ∧ ∃ N : Hp → Prop, (∀ M', N M' → ∃ less, less < left ∧ Z (l + 1) less M') ∧ ∀ y M', J.yld l M y M' → Body N y M') := by
  refine ⟨fun l left M => left + l = n ∧ At l M, ⟨n, rfl, h0⟩, fun l left M ⟨all, at_⟩ => ?_⟩
  have g := hG l M (by omega) at_
  cases left with
  | zero =>
    obtain rfl : l = n := by omega
    exact Or.inl ⟨w.stops M g, hd M at_⟩
  | succ less =>
    have more : l < n := by omega
    refine Or.inr ⟨w.goes l M more g, At (l + 1), fun M' next => ⟨less, Nat.lt_succ_self _, by omega, next⟩, fun y M' yl => ?_⟩
    exact hs l y M M' more at_ (w.yields l M y M' more g yl)
theorem lc2_out {J : It} {n : Nat} {G : Hp → Prop} {Y : Nat → Hp → V → Hp → Prop} (w : Walk J n G Y) {g : TG} {tt : TT} {wi1 : TI} {R1 : (Hp → Prop) → L2.St → It → Hp → Prop} {vs : List Nat} {σ : L2.St} {H1 : Hp} {D : Addr} {Qd : Hp → Prop} (Pv : Nat → Hp → Prop) (h0 : Pv 0 (upd H1 D (.lst []))) (hG : ∀ l M, l ≤ n → Pv l M → G M)
    (hs : ∀ l y M M', l < n → Pv l M → Y l M y M' →
      g y (wipe σ vs) M' fun τ M2 => wipe τ vs = wipe σ vs ∧ tt τ M2 fun yes M3 => if yes = true then wi1 τ M3 (R1 (Pv (l + 1)) τ) else Pv (l + 1) M3)
    (hd : ∀ M, Pv n M → Qd M) :
    ∃ Z : Nat → Nat → Hp → Prop, (∃ left, Z 0 left (upd H1 D (.lst []))) ∧
      ∀ l left M, Z l left M → (J.stop l M ∧ Qd M) ∨
        (J.go l M ∧ ∃ N : Hp → Prop, (∀ M', N M' → ∃ less, less < left ∧ Z (l + 1) less M') ∧ ∀ y M', J.yld l M y M' →
          g y (wipe σ vs) M' fun τ M2 => wipe τ vs = wipe σ vs ∧ tt τ M2 fun yes M3 => if yes = true then wi1 τ M3 (R1 N τ) else N M3) :=
  comp_walk w (fun N y M' => g y (wipe σ vs) M' fun τ M2 => wipe τ vs = wipe σ vs ∧ tt τ M2 fun yes M3 => if yes = true then wi1 τ M3 (R1 N τ) else N M3) Pv h0 hG hs hd
theorem lc2_in {J1 : It} {n : Nat} {G : Hp → Prop} {Y : Nat → Hp → V → Hp → Prop} (w : Walk J1 n G Y) {g1 : TG} {tt1 : TT} {te : TE} {vs1 : List Nat} {σ2 : L2.St} {H4 : Hp} {D : Addr} {Nx : Hp → Prop} (Pw : Nat → Hp → Prop) (h0 : Pw 0 H4) (hG : ∀ l M, l ≤ n → Pw l M → G M)
    (hs : ∀ l y M M', l < n → Pw l M → Y l M y M' →
      g1 y (wipe σ2 vs1) M' fun τ M2 => wipe τ vs1 = wipe σ2 vs1 ∧ tt1 τ M2 fun yes M3 =>
        if yes = true then te τ M3 fun it M4 => ∃ got, M4 D = some (.lst got) ∧ got.length < sizeLine ∧ Pw (l + 1) (upd M4 D (.lst (got ++ [it]))) else Pw (l + 1) M3)
    (hd : ∀ M, Pw n M → Nx M) :
    ∃ Z : Nat → Nat → Hp → Prop, (∃ left, Z 0 left H4) ∧
      ∀ l left M, Z l left M → (J1.stop l M ∧ Nx M) ∨
        (J1.go l M ∧ ∃ N : Hp → Prop, (∀ M', N M' → ∃ less, less < left ∧ Z (l + 1) less M') ∧ ∀ y M', J1.yld l M y M' →
          g1 y (wipe σ2 vs1) M' fun τ M2 => wipe τ vs1 = wipe σ2 vs1 ∧ tt1 τ M2 fun yes M3 =>
            if yes = true then te τ M3 fun it M4 => ∃ got, M4 D = some (.lst got) ∧ got.length < sizeLine ∧ N (upd M4 D (.lst (got ++ [it]))) else N M3) :=
  comp_walk w (fun N y M' => g1 y (wipe σ2 vs1) M' fun τ M2 => wipe τ vs1 = wipe σ2 vs1 ∧ tt1 τ M2 fun yes M3 =>
    if yes = true then te τ M3 fun it M4 => ∃ got, M4 D = some (.lst got) ∧ got.length < sizeLine ∧ N (upd M4 D (.lst (got ++ [it]))) else N M3) Pw h0 hG hs hd

def sp_signs_of (K : PySem.W.Frag) (mg : Str → Option Value) (T : Txt K mg) : Sp := fun vs H Q _ => ∃ (x : Addr) (Pt : Parts), vs = [.ref x] ∧ MachAt T.C Pt H x ∧ Pt.Ok ∧
  ∀ (p : Addr) (H' : Hp), Same H H' → H p = none → SignsAt Pt H' p (signs Pt) → Q (.ref p) H'
def sp_worth_at (K : PySem.W.Frag) (mg : Str → Option Value) (T : Txt K mg) : Sp := fun vs H Q _ => ∃ (x : Addr) (v : V) (Pt : Parts) (W : Meter) (s c : Nat) (ja : Nat × Nat), vs = [.ref x, v, .int (s : Nat), .str (ch c), .int (ja.2 : Nat)] ∧ MachAt T.C Pt H x ∧ Pt.Ok ∧ WMeter H v W ∧ MeterOk Pt W ∧ s < Pt.moves.length ∧ ja ∈ signs Pt ∧ Pt.rows[ja.1]? = some c ∧
  Q (.int (worth W s ja)) H
def sp_is_meter (K : PySem.W.Frag) (mg : Str → Option Value) (T : Txt K mg) : Sp := fun vs H Q _ => ∃ (x : Addr) (v : V) (Pt : Parts) (W : Meter), vs = [.ref x, v] ∧ MachAt T.C Pt H x ∧ Pt.Ok ∧ WMeter H v W ∧ MeterOk Pt W ∧ ∀ H' : Hp, Same H H' → Q (.bl true) H'
def sp_check_meter (K : PySem.W.Frag) (mg : Str → Option Value) (T : Txt K mg) : Sp := fun vs H Q _ => ∃ (x : Addr) (v : V) (Pt : Parts) (W : Meter), vs = [.ref x, v] ∧ MachAt T.C Pt H x ∧ Pt.Ok ∧ WMeter H v W ∧ MeterOk Pt W ∧ ∀ H' : Hp, Same H H' → Q .non H'
def sp_common_divisor (K : PySem.W.Frag) (mg : Str → Option Value) (T : Txt K mg) : Sp := fun vs H Q _ => ∃ x y : Nat, vs = [.int (x : Nat), .int (y : Nat)] ∧ Q (.int (Nat.gcd x y : Nat)) H
theorem small_pre (Pt : Parts) (ok : Pt.Ok) {i k : Nat} (hi : i ≤ 2) (hk : k ≤ 2) : (((List.range i).flatMap fun j => (List.range Pt.ans).map fun a => (j, a)) ++ (List.range k).map fun a => (i, a)).length ≤ 100 := by
  have ha2 := ok.a2
  rw [List.length_append, List.length_flatMap]
  simp only [List.length_range, List.length_map]
  have : ((List.range i).map fun _ => Pt.ans).sum ≤ 50 := by
    match i, hi with
    | 0, _ => simp
    | 1, _ => simp [List.range_succ]; omega
    | 2, _ => simp [List.range_succ]; omega
  omega
section
variable {P : Program} {w : World} {K : PySem.W.Frag} {mg : Str → Option Value} {base : Heap}
theorem ok_signs_of (T : Txt K mg) : FnOk P w K mg base CX0 1 T.d_signs_of.f T.d_signs_of.fd ["machine"] (sp_signs_of K mg T) := by
  refine T.d_signs_of.F.ok sc_signs_of (fun vs H Q E h => ?_) (fun cdv A outer s H vs Q E hr h => ?_)
  · obtain ⟨x, Pt, rfl, hx, ok, k⟩ := h
    rfl
  · obtain ⟨x, Pt, rfl, hx, ok, k⟩ := h
    have hu := hu_of hr
    refine ⟨_, (pss_one (ps_ret (pe_lc2 (own := [("row", 1), ("answer", 2)]) (vs1 := [2]) rfl sc_signs_of.nd (pi_str (pe_fld (pv 0) rfl)) (blkOk_by (own := [("row", 1), ("answer", 2)]) (N := N_signs_of) (sc := defScope s_signs_of) (by decide +kernel)) (by decide) (fun _ _ _ _ _ => (pg_name (i := 1) sc_signs_of.nd rfl (Or.inl rfl))) (fun _ _ _ _ _ => pts_nil) (fun _ _ _ _ _ => (pi_range1 (by rfl) T.z_range (pa_cons (show PE _ _ (tFld K (tVar 0) "answers") from pe_fld (pv 0) rfl) pa_nil))) (fun _ _ _ _ _ => (pg_name (i := 2) sc_signs_of.nd rfl (Or.inl rfl))) (fun _ _ _ _ _ => pts_nil) (fun _ _ _ _ _ => (pe_tup (pa_cons (pv 1) (pa_cons (pv 2) pa_nil))))))), ?_⟩
    have hr2 := ok.r2
    have ha2 := ok.a2
    obtain ⟨dx, m, d, w0, kvs, h1, h2, h3⟩ := id hx
    refine ⟨_, rfl, x, T.C, dx, _, _, rfl, h1, T.cl, T.n_rows, mf_rows _ _ _ _, _, rfl, fun p hp => lc2_out (walk_str (z := strOf Pt.rows)) (fun i H' => Same H H' ∧ SignsAt Pt H' p ((List.range i).flatMap fun j => (List.range Pt.ans).map fun a => (j, a)))
      ⟨Same.alloc hp, ⟨[], upd_same, .nil⟩⟩ (fun _ _ _ _ => trivial) ?_ ?_⟩
    · rintro i y H1 H2 hi ⟨s1, g1⟩ ⟨rfl, c, hc, rfl⟩
      have hi' : i < Pt.rows.length := by simpa [strOf] using hi
      have hc' : Pt.rows[i]? = some c := by simpa [strOf] using hc
      refine ⟨rfl, ?_⟩
      refine ⟨_, rfl, x, T.C, dx, _, _, rfl, s1 _ _ h1, T.cl, T.n_answers, mf_answers _ _ _ _, _, rfl, by omega, by omega, lc2_in (walk_range (lo := 0) (n := Pt.ans)) (fun k H' => Same H H' ∧ SignsAt Pt H' p (((List.range i).flatMap fun j => (List.range Pt.ans).map fun a => (j, a)) ++ (List.range k).map fun a => (i, a)))
        ⟨s1, by simpa using g1⟩ (fun _ _ _ _ => trivial) ?_ ?_⟩
      · rintro n y H3 H4 hn ⟨s3, ⟨vs, hL, hv⟩⟩ ⟨rfl, rfl⟩
        refine ⟨rfl, ?_⟩
        refine ⟨_, rfl, _, rfl, (by show 2 ≤ sizeLine; decide), fun q hq => ⟨vs, (Same.alloc hq) _ _ hL, ?_, Same.write (Same.alloc' s3 hq) hp, ⟨_, upd_same, ?_⟩⟩⟩
        · rw [Pd.len hv]
          exact small1000 (Nat.le_trans (small_pre Pt ok (by omega) (by omega)) (by decide))
        · rw [List.range_succ, List.map_append, ← List.append_assoc]
          exact push_tup (RSign.mono Pt) hL hv hq fun H' tx e => ⟨q, c, rfl, hc', by rw [e]; show some (HO.tup [.str _, .int (0 + (n : Int))]) = _; rw [Int.zero_add]; rfl⟩
      · rintro H3 ⟨s3, g3⟩
        exact ⟨s3, by rw [signs_pre]; exact g3⟩
    · rintro H1 ⟨s1, g1⟩
      refine k p H1 s1 hp ?_
      have : (strOf Pt.rows).cps.size = Pt.rows.length := by simp [strOf]
      rw [this] at g1
      exact g1
theorem ok_worth_at (T : Txt K mg) : FnOk P w K mg base CX0 1 T.d_worth_at.f T.d_worth_at.fd ["machine", "meter", "standing", "row", "answer"] (sp_worth_at K mg T) := by
  refine T.d_worth_at.F.ok sc_worth_at (fun vs H Q E h => ?_) (fun cdv A outer s H vs Q E hr h => ?_)
  · obtain ⟨x, v, Pt, W, s, c, ja, rfl, hx, ok, hw, mk, hs, hja, hc, k⟩ := h
    rfl
  · obtain ⟨x, v, Pt, W, s, c, ja, rfl, hx, ok, hw, mk, hs, hja, hc, k⟩ := h
    have hu := hu_of hr
    refine ⟨_, (pss_one (ps_ret (pe_ix ix_tup (pe_ix ix_tup (pe_ix ix_tup (pv 1) (pv 2) (fun _ _ => rfl)) (pe_bm PySem.F.plainAttrs_str PySem.F.slot_str_index PySem.F.type_str_index mt_sindex (pe_fld (pv 0) rfl) (pa_cons (pv 3) pa_nil)) (fun _ _ => rfl)) (pv 4) (fun _ _ => rfl)))), ?_⟩
    obtain ⟨dx, m, d, w0, kvs, h1, h2, h3⟩ := id hx
    obtain ⟨ls, l, y, e1, e2, e3, eg, _⟩ := K70.worth_at mk hs hja
    obtain ⟨a1, us1, u1, rfl, q1, i1, r1⟩ := TupOf.get (K := K) hw e1
    obtain ⟨a2, us2, u2, rfl, q2, i2, r2⟩ := TupOf.get (K := K) r1 e2
    obtain ⟨a3, us3, u3, rfl, q3, i3, r3⟩ := TupOf.get (K := K) r2 e3
    obtain ⟨rest, ho⟩ := occ_at ok.r1 ok.r2 ok.asc hc
    refine ⟨_, rfl, _, rfl, _, _, _, _, rfl, rfl, q1, i1, ?_⟩
    refine ⟨_, rfl, x, T.C, dx, _, _, rfl, h1, T.cl, T.n_rows, mf_rows _ _ _ _, rfl, _, rfl, _, _, _, _, rfl, rfl, ho, _, _, _, _, rfl, rfl, q2, i2, ?_⟩
    refine ⟨_, rfl, _, _, _, _, rfl, rfl, q3, i3, ?_⟩
    rw [r3, ← eg]
    exact k
theorem ok_is_meter (T : Txt K mg) : FnOk P w K mg base CX0 3 T.d_is_meter.f T.d_is_meter.fd ["machine", "thing"] (sp_is_meter K mg T) := by
  have G_is_within := ok_is_within (P := P) (w := w) (base := base) T
  refine T.d_is_meter.F.ok sc_is_meter (fun vs H Q E h => ?_) (fun cdv A outer s H vs Q E hr h => ?_)
  · obtain ⟨x, v, Pt, W, rfl, hx, ok, hw, mk, k⟩ := h
    rfl
  · obtain ⟨x, v, Pt, W, rfl, hx, ok, hw, mk, k⟩ := h
    have hu := hu_of hr
    refine ⟨_, (pss_cons (ps_if (PW.pt (pw_or (pt_not (pt_val (pe_callB (id := "isinstance") call_isi (by rfl) T.z_isinstance (by decide +kernel) (pa_cons (pv 1) (pa_cons (pe_bltn (v := .ty "tuple") (u := .type "tuple") rfl T.z_tuple (by decide +kernel) rfl) pa_nil))))) (pw_or1 (pt_cmpR op_ne (pe_callB (id := "len") call_len_seq (by rfl) T.z_len (by decide +kernel) (pa_cons (pv 1) pa_nil)) (pe_fld (pv 0) rfl) (nomark _)))))
       (pss_one (ps_ret pe_bl))
       pss_nil)
      (pss_cons (ps_for PassesOwn.never rfl (pi_tup (pv 1)) (pg_name (i := 2) sc_is_meter.nd rfl (Or.inl rfl))
       (pss_cons (ps_if (PW.pt (pw_or (pt_not (pt_val (pe_callB (id := "isinstance") call_isi (by rfl) T.z_isinstance (by decide +kernel) (pa_cons (pv 2) (pa_cons (pe_bltn (v := .ty "tuple") (u := .type "tuple") rfl T.z_tuple (by decide +kernel) rfl) pa_nil))))) (pw_or1 (pt_cmpR op_ne (pe_callB (id := "len") call_len_seq (by rfl) T.z_len (by decide +kernel) (pa_cons (pv 2) pa_nil)) (pe_callB (id := "len") call_len_str (by rfl) T.z_len (by decide +kernel) (pa_cons (pe_fld (pv 0) rfl) pa_nil)) (nomark _)))))
         (pss_one (ps_ret pe_bl))
         pss_nil)
        (pss_one (ps_for PassesOwn.never rfl (pi_tup (pv 2)) (pg_name (i := 3) sc_is_meter.nd rfl (Or.inl rfl))
         (pss_cons (ps_if (PW.pt (pw_or (pt_not (pt_val (pe_callB (id := "isinstance") call_isi (by rfl) T.z_isinstance (by decide +kernel) (pa_cons (pv 3) (pa_cons (pe_bltn (v := .ty "tuple") (u := .type "tuple") rfl T.z_tuple (by decide +kernel) rfl) pa_nil))))) (pw_or1 (pt_cmpR op_ne (pe_callB (id := "len") call_len_seq (by rfl) T.z_len (by decide +kernel) (pa_cons (pv 3) pa_nil)) (pe_fld (pv 0) rfl) (nomark _)))))
           (pss_one (ps_ret pe_bl))
           pss_nil)
          (pss_one (ps_if (pt_not (pt_val (pe_callB (id := "all") (cr_all rfl) (by rfl) T.z_all (by decide +kernel) (pa_cons (pe_lc (own := [("item", 4)]) rfl sc_is_meter.nd (pi_tup (pv 3)) (blkOk_by (own := [("item", 4)]) (N := N_is_meter) (sc := defScope s_is_meter) (by decide +kernel)) (fun _ _ _ _ _ => (pg_name (i := 4) sc_is_meter.nd rfl (Or.inl rfl))) (fun _ _ _ _ _ => pts_nil) (fun _ _ _ _ _ => (pe_call G_is_within (hr.mono (by decide)) rfl T.d_is_within.g T.d_is_within.F.kp T.d_is_within.b .nil pass0 (pa_cons (pv 4) (pa_cons (pe_un un_neg (pe_glob (v := .int 99) rfl T.m_MOST_READING.choose_spec ⟨_, rfl⟩)) (pa_cons (pe_glob (v := .int 99) rfl T.m_MOST_READING.choose_spec ⟨_, rfl⟩) pa_nil)))))) pa_nil))))
           (pss_one (ps_ret pe_bl))
           pss_nil)))))))
      (pss_one (ps_ret pe_bl)))), ?_⟩
    obtain ⟨dx, m, d, w0, kvs, h1, h2, h3⟩ := id hx
    obtain ⟨a, us, rfl, ha, hp⟩ := hw
    have hlen : us.length = W.length := Pd.len hp
    have hr2 := ok.r2
    have ha2 := ok.a2
    refine ⟨_, rfl, _, _, _, _, _, rfl, .ty _, .base (.tup ha), ktt, _, rfl, ifN rfl ?_⟩
    refine ⟨_, rfl, _, _, rfl, .inr (SqT.of ha), _, rfl, x, T.C, dx, _, _, rfl, h1, T.cl, T.n_size, mf_size _ _ _ _, rfl, _, rfl, ifN ?_ ?_⟩
    · rw [hlen, mk.m]
      simp
    refine ⟨_, rfl, _, rfl, ⟨_, SqT.of ha⟩, for_tup (xs := us) (fun i σ H' => Same H H' ∧ ∃ v1 v2 v3, σ = [some (.ref x), some (.ref a), v1, v2, v3]) ⟨Same.refl _, _, _, _, rfl⟩ (fun i σ H' _ h => SqT.of (h.1 _ _ ha)) ?_ ?_⟩
    · rintro i y σ H1 hy ⟨s1, v1, v2, v3, rfl⟩
      obtain ⟨ls, hls, a2, us2, rfl, ha2', hp2⟩ := Pd.get' hp hy
      obtain ⟨hl1, sh⟩ := mk.sh ls (mem_of hls)
      have ha2 := s1 _ _ ha2'
      have hlen2 : us2.length = ls.length := Pd.len hp2
      refine ⟨_, rfl, _, _, _, _, _, rfl, .ty _, .base (.tup ha2), ktt, _, rfl, ifN rfl ?_⟩
      refine ⟨_, rfl, _, _, rfl, .inr (SqT.of ha2), _, rfl, x, T.C, dx, _, _, rfl, s1 _ _ h1, T.cl, T.n_rows, mf_rows _ _ _ _, _, rfl, ?_, rfl, _, rfl, ifN ?_ ?_⟩
      · rw [strOf_len]; exact Nat.le_trans ok.r2 (by decide)
      · rw [strOf_len, hlen2, hl1]
        simp
      refine ⟨_, rfl, _, rfl, ⟨_, SqT.of ha2⟩, for_tup (xs := us2) (fun i σ H' => Same H H' ∧ ∃ v2 v3, σ = [some (.ref x), some (.ref a), some (.ref a2), v2, v3]) ⟨s1, _, _, rfl⟩ (fun i σ H' _ h => SqT.of (h.1 _ _ ha2')) ?_ ?_⟩
      · rintro j y σ H2 hy2 ⟨s2, w2, w3, rfl⟩
        obtain ⟨l, hl, a3, us3, rfl, ha3', hp3⟩ := Pd.get' hp2 hy2
        obtain ⟨hl2, sh2⟩ := sh l (mem_of hl)
        have ha3 := s2 _ _ ha3'
        have hlen3 : us3.length = l.length := Pd.len hp3
        refine ⟨_, rfl, _, _, _, _, _, rfl, .ty _, .base (.tup ha3), ktt, _, rfl, ifN rfl ?_⟩
        refine ⟨_, rfl, _, _, rfl, .inr (SqT.of ha3), _, rfl, x, T.C, dx, _, _, rfl, s2 _ _ h1, T.cl, T.n_answers, mf_answers _ _ _ _, rfl, _, rfl, ifN ?_ ?_⟩
        · rw [hlen3, hl2]
          simp
        refine ⟨_, rfl, _, rfl, ⟨_, SqT.of ha3⟩, fun D hD => lc_tup (xs := us3) (fun i H' => Same H2 H' ∧ H' D = some (.lst (List.replicate i (V.bl true)))) ⟨Same.alloc hD, upd_same⟩ (fun i H' _ h => SqT.of (h.1 _ _ ha3)) ?_ ?_⟩
        · rintro n z H3 hz ⟨s3, hD3⟩
          obtain ⟨p, hp', rfl⟩ := Pd.get' hp3 hz
          obtain ⟨q1, q2⟩ := sh2 p (mem_of hp')
          have hn : n < us3.length := (List.getElem?_eq_some_iff.mp hz).1
          refine ⟨rfl, ?_⟩
          refine ⟨_, rfl, _, rfl, p, _, _, rfl, by omega, by omega, _, hD3, ?_, Same.write s3 hD, upd_same.trans (by rw [← List.replicate_succ'])⟩
          rw [List.length_replicate]
          exact small1000 (by omega)
        · rintro H3 ⟨s3, hD3⟩
          refine ⟨_, List.replicate us3.length true, rfl, SqL.of (by rw [List.map_replicate]; exact hD3), _, rfl, ifN ?_ ?_⟩
          · simp
          · exact ⟨s2.trans s3, _, _, rfl⟩
      · rintro σ H2 ⟨s2, w2, w3, rfl⟩
        exact ⟨s2, _, _, _, rfl⟩
    · rintro σ H1 ⟨s1, v1, v2, v3, rfl⟩
      exact k _ s1
theorem ok_check_meter (T : Txt K mg) : FnOk P w K mg base CX0 4 T.d_check_meter.f T.d_check_meter.fd ["machine", "thing"] (sp_check_meter K mg T) := by
  have G_is_meter := ok_is_meter (P := P) (w := w) (base := base) T
  refine T.d_check_meter.F.ok sc_check_meter (fun vs H Q E h => ?_) (fun cdv A outer s H vs Q E hr h => ?_)
  · obtain ⟨x, v, Pt, W, rfl, hx, ok, hw, mk, k⟩ := h
    rfl
  · obtain ⟨x, v, Pt, W, rfl, hx, ok, hw, mk, k⟩ := h
    have hu := hu_of hr
    refine ⟨_, (pss_one (ps_if (pt_not (pt_val (pe_call G_is_meter (hr.mono (by decide)) rfl T.d_is_meter.g T.d_is_meter.F.kp T.d_is_meter.b .nil pass0 (pa_cons (pv 0) (pa_cons (pv 1) pa_nil)))))
       (pss_one ps_never)
       pss_nil)), ?_⟩
    refine ⟨_, rfl, _, rfl, x, v, Pt, W, rfl, hx, ok, hw, mk, fun H1 s1 => ⟨_, rfl, ifN rfl ?_⟩⟩
    exact k H1 s1
theorem ok_common_divisor (T : Txt K mg) : FnOk P w K mg base CX0 1 T.d_common_divisor.f T.d_common_divisor.fd ["one", "other"] (sp_common_divisor K mg T) := by
  refine T.d_common_divisor.F.ok sc_common_divisor (fun vs H Q E h => ?_) (fun cdv A outer s H vs Q E hr h => ?_)
  · obtain ⟨a, b, rfl, k⟩ := h
    rfl
  · obtain ⟨a, b, rfl, k⟩ := h
    have hu := hu_of hr
    refine ⟨_, (pss_cons (ps_while PassesOwn.never (pt_cmpR op_ne (pv 1) pe_int (nomark _))
       (pss_one (ps_par (i := 0) (j := 1) (by rfl) sc_common_divisor.nd rfl rfl (by decide) rfl rfl (pa_cons (pv 1) (pa_cons (pe_op op_mod (pe_callTy (T := "int") call_int1 (by rfl) T.z_int (by decide +kernel) (pa_cons (pv 0) pa_nil)) (pv 1)) pa_nil)) (by rfl))))
      (pss_one (ps_ret (pv 0)))), ?_⟩
    refine ⟨fun m σ H' => H' = H ∧ ∃ x y : Nat, σ = [some (.int (x : Nat)), some (.int (y : Nat))] ∧ Nat.gcd x y = Nat.gcd a b ∧ m = y, ⟨b, rfl, a, b, rfl, rfl, rfl⟩, ?_⟩
    rintro m σ H1 ⟨rfl, x, y, rfl, hg, rfl⟩
    refine ⟨_, rfl, rfl, _, rfl, ?_⟩
    by_cases hy : m = 0
    · subst hy
      refine ifN rfl ?_
      refine ⟨_, rfl, ?_⟩
      rw [Nat.gcd_zero_right] at hg
      rw [hg]
      exact k
    · refine ifP ?_ ?_
      · have : ¬ (V.int (m : Nat) = V.int 0) := fun e => by
          injection e with e
          omega
        simp [this]
      · refine ⟨fun σ' H' => H' = H1 ∧ ∃ x y : Nat, σ' = [some (.int (x : Nat)), some (.int (y : Nat))] ∧ Nat.gcd x y = Nat.gcd a b ∧ y < m, fun σ' H' ⟨e, x', y', e1, e2, e3⟩ => ⟨y', e3, e, x', y', e1, e2, rfl⟩, ?_⟩
        refine ⟨_, rfl, _, rfl, .inl ⟨_, rfl, _, rfl, _, _, rfl, rfl, (show (0 : Int) < (m : Nat) by omega), _, _, rfl, ?_⟩⟩
        refine ⟨rfl, m, x % m, rfl, ?_, Nat.mod_lt _ (by omega)⟩
        rw [← hg, Nat.gcd_comm x m, Nat.gcd_rec m x, Nat.gcd_comm]
end
end K70

namespace K70
open PySem L2
/-! ### the going, in the heap -/
structure BI (H H' : Hp) (p q : Addr) (F : Fnd) (i : Nat) : Prop where
  s : Same H H'
  d : ∃ kvs, H' p = some (.dK kvs) ∧ FndAt F.length H' kvs F
  w : H' q = some (.lst (((keys F).drop i).map fun s => V.int (s : Nat)))
  np : H p = none
  nq : H q = none
theorem BI.pq {H H' : Hp} {p q : Addr} {F : Fnd} {i : Nat} (b : BI H H' p q F i) : p ≠ q := by
  obtain ⟨kvs, e, _⟩ := b.d
  exact ne_of e b.w (by intro z; cases z)
theorem BI.same {H H' H2 : Hp} {p q : Addr} {F : Fnd} {i : Nat} (b : BI H H' p q F i) (s : Same H' H2) : BI H H2 p q F i := by
  obtain ⟨kvs, e, f⟩ := b.d
  exact ⟨b.s.trans s, ⟨kvs, s _ _ e, f.tx (Same.tx s)⟩, s _ _ b.w, b.np, b.nq⟩
theorem BI.alloc {H H' : Hp} {p q : Addr} {F : Fnd} {i : Nat} (b : BI H H' p q F i) {a : Addr} {o : HO} (n : H' a = none) : BI H (upd H' a o) p q F i := b.same (Same.alloc n)
theorem BI.add {H H' : Hp} {p q : Addr} {F : Fnd} {i : Nat} (b : BI H H' p q F i) (hi : i ≤ F.length) {kvs : List (Key × V)} (hp : H' p = some (.dK kvs)) {g : Nat} {r : Int} {v : V} (hg : g ∉ keys F) (e : REnt (F.length + 1) H' v r) :
    BI H (upd (upd H' p (.dK (putK kvs (Sum.inl (g : Int)) v))) q (.lst ((((keys F).drop i).map fun s => V.int (s : Nat)) ++ [.int (g : Nat)]))) p q (F ++ [(g, r)]) i := by
  have pq := b.pq
  obtain ⟨kvs', e1, f⟩ := b.d
  rw [hp] at e1
  obtain rfl : kvs = kvs' := by cases e1; rfl
  have hq : (upd H' p (.dK (putK kvs (Sum.inl (g : Int)) v))) q = some (.lst (((keys F).drop i).map fun s => V.int (s : Nat))) := (upd_ne pq.symm).trans b.w
  have tx : TX H' (upd (upd H' p (.dK (putK kvs (Sum.inl (g : Int)) v))) q (.lst ((((keys F).drop i).map fun s => V.int (s : Nat)) ++ [.int (g : Nat)]))) := (TX.write hp (fun _ z => by cases z)).trans (tx_lst hq)
  refine ⟨Same.write (Same.write b.s b.np) b.nq, ⟨putK kvs (Sum.inl (g : Int)) v, (upd_ne pq).trans upd_same, ?_⟩, upd_same.trans ?_, b.np, b.nq⟩
  · rw [putK_new _ (FndAt.none f hg)] at tx ⊢
    rw [List.length_append]
    exact Pd.snoc ((FndAt.le f (Nat.le_succ _)).tx tx) ⟨rfl, REnt.mono _ _ _ _ _ tx e⟩
  · congr 2
    unfold keys
    rw [List.map_append, List.drop_append_of_le_length (by simpa using hi), List.map_append]
    rfl
theorem cat1 {K : PySem.W.Frag} {H : Hp} {a b : Addr} {xs : List V} {y : V} {Q : VK} (ha : H a = some (.tup xs)) (hb : H b = some (.tup [y])) (hl : xs.length ≤ 999) (h : ∀ (c : Addr) (H' : Hp), Same H H' → H' c = some (.tup (xs ++ [y])) → Q (.ref c) H') : rCatA K (.ref a) (.ref b) H Q :=
  ⟨a, b, xs, [y], rfl, rfl, SqT.of ha, SqT.of hb, Nat.le_trans (show xs.length + 1 ≤ 1000 by omega) (by decide), fun e => h b H (Same.refl _) (by rw [hb, e]; rfl), fun _ e => (by cases e), fun _ _ p hp => h p _ (Same.alloc hp) upd_same⟩
theorem take_fold {α β : Type} (f : β → α → β) {l : List α} {k : Nat} {x : α} (h : l[k]? = some x) (b : β) : (l.take (k + 1)).foldl f b = f ((l.take k).foldl f b) x := by
  rw [List.take_add_one, h]
  rw [List.foldl_append]
  rfl
theorem pre_ok {P : Parts} {W : Meter} (ok : P.Ok) (mk : MeterOk P W) {F : Fnd} {s i : Nat} {r : Int} (f : FOk P F) (hi : F[i]? = some (s, r)) (k : Nat) : FOk P (((signs P).take k).foldl (step P W s r) F) ∧ Pre F (((signs P).take k).foldl (step P W s r) F) := by
  obtain ⟨a, b, _⟩ := fold_ok (W := W) ok mk ((signs P).take k) f hi fun ja h => List.mem_of_mem_take h
  exact ⟨a, b⟩
theorem str_len_app (a b : Str) : (a ++ b).length = a.length + b.length := by
  show (a.cps ++ b.cps).size = a.cps.size + b.cps.size
  simp
def sp_first_readings (K : PySem.W.Frag) (mg : Str → Option Value) (T : Txt K mg) : Sp := fun vs H Q _ => ∃ (x : Addr) (v : V) (Pt : Parts) (W : Meter), vs = [.ref x, v] ∧ MachAt T.C Pt H x ∧ Pt.Ok ∧ WMeter H v W ∧ MeterOk Pt W ∧
  ∀ (p : Addr) (kvs : List (Key × V)) (H' : Hp), Same H H' → H p = none → H' p = some (.dK kvs) → FndAt 40 H' kvs (first Pt W) → Q (.ref p) H'
section
variable {P : Program} {w : World} {K : PySem.W.Frag} {mg : Str → Option Value} {base : Heap}
theorem ok_first_readings (T : Txt K mg) : FnOk P w K mg base CX0 2 T.d_first_readings.f T.d_first_readings.fd ["machine", "meter"] (sp_first_readings K mg T) := by
  have G_signs_of := ok_signs_of (P := P) (w := w) (base := base) T
  have G_worth_at := ok_worth_at (P := P) (w := w) (base := base) T
  refine T.d_first_readings.F.ok sc_first_readings (fun vs H Q E h => ?_) (fun cdv A outer s H vs Q E hr h => ?_)
  · obtain ⟨x, v, Pt, W, rfl, hx, ok, hw, mk, k⟩ := h
    rfl
  · obtain ⟨x, v, Pt, W, rfl, hx, ok, hw, mk, k⟩ := h
    have hu := hu_of hr
    refine ⟨_, (pss_cons (ps_set (i := 2) sc_first_readings.nd rfl (Or.inl rfl) (pe_disp (pps_cons pe_int (pe_tup (pa_cons (pe_tup (pa_cons pe_str (pa_cons (pe_tup pa_nil) pa_nil))) (pa_cons pe_int pa_nil))) pps_nil) (by rfl) (by rfl) (fun z => by cases z) (by decide)))
      (pss_cons (ps_set (i := 3) sc_first_readings.nd rfl (Or.inl rfl) (pe_lst (pa_cons pe_int pa_nil)))
      (pss_cons (ps_while PassesOwn.never (pt_cmpR op_gt (pe_callB (id := "len") call_len_seq (by rfl) T.z_len (by decide +kernel) (pa_cons (pv 3) pa_nil)) pe_int (nomark _))
       (pss_cons (ps_set (i := 4) sc_first_readings.nd rfl (Or.inl rfl) (pe_bm PySem.F.plainAttrs_list PySem.F.slot_list_pop PySem.F.type_list_pop mt_popAt (pv 3) (pa_cons pe_int pa_nil)))
        (pss_cons (ps_asg (pe_dget hu (pv 2) (pv 4) (fun _ _ => rfl)) (pg_tup rfl (pgs_cons (pg_name (i := 5) sc_first_readings.nd rfl (Or.inl rfl)) (pgs_cons (pg_name (i := 6) sc_first_readings.nd rfl (Or.inl rfl)) pgs_nil))))
        (pss_one (ps_for PassesOwn.never rfl (pi_list (pe_call G_signs_of (hr.mono (by decide)) rfl T.d_signs_of.g T.d_signs_of.F.kp T.d_signs_of.b .nil pass0 (pa_cons (pv 0) pa_nil))) (pg_tup rfl (pgs_cons (pg_name (i := 7) sc_first_readings.nd rfl (Or.inl rfl)) (pgs_cons (pg_name (i := 8) sc_first_readings.nd rfl (Or.inl rfl)) pgs_nil)))
         (pss_cons (ps_set (i := 9) sc_first_readings.nd rfl (Or.inl rfl) (pe_ix ix_tup (pe_dget hu (pe_fld (pv 0) rfl) (pe_tup (pa_cons (pv 4) (pa_cons (pv 7) (pa_cons (pv 8) pa_nil)))) (fun _ _ => rfl)) pe_int (fun _ _ => rfl)))
          (pss_one (ps_if (pt_cmp (pc_dnotin hu (pv 9) (pv 2)))
           (pss_cons (ps_set (i := 10) sc_first_readings.nd rfl (Or.inl rfl) (pe_tup (pa_cons (pe_op op_add_str (pe_ix ix_tup (pv 5) pe_int (fun _ _ => rfl)) (pv 7)) (pa_cons (pe_op op_catA (pe_ix ix_tup (pv 5) pe_int (fun _ _ => rfl)) (pe_tup (pa_cons (pv 8) pa_nil))) pa_nil))))
            (pss_cons (ps_dput hu (pv 2) (pv 9) (pe_tup (pa_cons (pv 10) (pa_cons (pe_op op_add (pv 6) (pe_call G_worth_at (hr.mono (by decide)) rfl T.d_worth_at.g T.d_worth_at.F.kp T.d_worth_at.b .nil pass0 (pa_cons (pv 0) (pa_cons (pv 1) (pa_cons (pv 4) (pa_cons (pv 7) (pa_cons (pv 8) pa_nil))))))) pa_nil))) rfl)
            (pss_one (ps_expr (pe_bm PySem.F.plainAttrs_list PySem.F.slot_list_append PySem.F.type_list_append mt_append (pv 3) (pa_cons (pv 9) pa_nil))))))
           pss_nil))))))))
      (pss_one (ps_ret (pv 2)))))), ?_⟩
    obtain ⟨dx, m, d, w0, kvsM, h1, h2, h3⟩ := id hx
    refine fun p np => ⟨(by show 0 ≤ sizeLine; decide), fun t0 n0 => ⟨(by show 2 ≤ sizeLine; decide), fun t1 n1 => ⟨(by show 2 ≤ sizeLine; decide), fun t2 n2 => ⟨?_, [(Sum.inl 0, .ref t2)], rfl, (by show 1 ≤ 15; decide), ?_⟩⟩⟩⟩
    · exact (Same.alloc n2) _ _ ((Same.alloc n1) _ _ ((Same.alloc n0) _ _ upd_same))
    refine ⟨(by show 1 ≤ sizeLine; decide), fun q nq => ?_⟩
    have b0 : BI H (upd (upd (upd (upd (upd (upd H p (.dK [])) t0 (.tup [])) t1 (.tup [.str "", .ref t0])) t2 (.tup [.ref t1, .int 0])) p (.dK (mergeK [] [(Sum.inl 0, .ref t2)]))) q (.lst [.int 0])) p q [(0, 0)] 0 := by
      have a0 := Same.alloc' (Same.alloc (o := .dK []) np) (o := .tup []) n0
      have a1 := Same.alloc' a0 (o := .tup [.str "", .ref t0]) n1
      have a2 := Same.alloc' a1 (o := .tup [.ref t1, .int 0]) n2
      have hp3 := (Same.alloc (o := .tup [.ref t1, .int 0]) n2) _ _ ((Same.alloc (o := .tup [.str "", .ref t0]) n1) _ _ ((Same.alloc (o := .tup []) n0) _ _ (upd_same (H := H) (a := p) (o := .dK []))))
      have a3 := Same.write a2 (o := .dK (mergeK [] [(Sum.inl 0, .ref t2)])) np
      have pq : p ≠ q := ne_of_none upd_same nq
      have tx := (TX.write (o := .dK (mergeK [] [(Sum.inl 0, .ref t2)])) hp3 (fun _ z => by cases z)).trans (tx_alloc (o := .lst [.int 0]) nq)
      refine ⟨Same.alloc' a3 nq, ⟨[(Sum.inl 0, .ref t2)], (upd_ne pq).trans upd_same, .cons ⟨rfl, t2, t1, "", t0, [], rfl, tx _ _ upd_same, tx _ _ ((Same.alloc n2) _ _ upd_same), tx _ _ ((Same.alloc n2) _ _ ((Same.alloc n1) _ _ upd_same)), by decide +kernel, by decide⟩ .nil⟩, upd_same, np, a3.free nq⟩
    refine ⟨fun μ σ H' => ∃ (F : Fnd) (i : Nat) (v4 v5 v6 v7 v8 v9 v10 : Option V), σ = [some (.ref x), some v, some (.ref p), some (.ref q), v4, v5, v6, v7, v8, v9, v10] ∧ μ = 12 - i ∧ BI H H' p q F i ∧ FOk Pt F ∧ i ≤ F.length ∧ bfs Pt W (40 - i) i F = first Pt W,
      ⟨_, [(0, 0)], 0, none, none, none, none, none, none, none, rfl, rfl, b0, fok0 ok, Nat.zero_le _, rfl⟩, ?_⟩
    rintro μ σ H1 ⟨F, i, v4, v5, v6, v7, v8, v9, v10, rfl, rfl, bi, fo, hi, hb⟩
    refine ⟨_, rfl, _, _, rfl, .inl (SqL.of bi.w), _, _, rfl, rfl, _, rfl, ?_⟩
    have hlen : ((((keys F).drop i).map fun s => V.int (s : Nat)).length) = F.length - i := by simp [keys]
    rw [hlen]
    have fl := fo.len
    have m2 := ok.m2
    by_cases hlt : i < F.length
    · refine ifP (decide_eq_true (by omega)) ?_
      obtain ⟨⟨s, r⟩, hsr⟩ : ∃ x, F[i]? = some x := ⟨_, List.getElem?_eq_getElem hlt⟩
      have hsn : s < Pt.moves.length := fo.lt s (List.mem_map.mpr ⟨_, mem_of hsr, rfl⟩)
      have hdr : (keys F).drop i = s :: (keys F).drop (i + 1) := by
        unfold keys
        have hk : (F.map (·.1))[i]? = some s := by rw [List.getElem?_map, hsr]; rfl
        obtain ⟨hkl, hke⟩ := List.getElem?_eq_some_iff.mp hk
        rw [List.drop_eq_getElem_cons hkl, hke]
      have hw1 := bi.w
      rw [hdr] at hw1
      refine ⟨fun σ' H' => ∃ (F : Fnd) (v4 v5 v6 v7 v8 v9 v10 : Option V), σ' = [some (.ref x), some v, some (.ref p), some (.ref q), v4, v5, v6, v7, v8, v9, v10] ∧ BI H H' p q F (i + 1) ∧ FOk Pt F ∧ i + 1 ≤ F.length ∧ bfs Pt W (40 - (i + 1)) (i + 1) F = first Pt W,
        fun σ' H' ⟨F, v4, v5, v6, v7, v8, v9, v10, e, bi, fo, hi', hb⟩ => ⟨12 - (i + 1), by omega, F, i + 1, v4, v5, v6, v7, v8, v9, v10, e, rfl, bi, fo, hi', hb⟩, ?_⟩
      -- standing = waiting.pop(0)
      refine ⟨_, rfl, .inl ⟨rfl, _, SqL.of hw1⟩, q, _, 0, 0, .int (s : Nat), rfl, rfl, hw1, by decide, by decide, by simp [seqIndex?], rfl, ?_⟩
      have bi2 : BI H (upd H1 q (.lst ((((s :: (keys F).drop (i + 1)).map fun s => V.int (s : Nat))).eraseIdx 0))) p q F (i + 1) := by
        obtain ⟨kvs, e, f⟩ := bi.d
        exact ⟨Same.write bi.s bi.nq, ⟨kvs, (upd_ne bi.pq).trans e, f.tx (tx_lst bi.w)⟩, upd_same, bi.np, bi.nq⟩
      obtain ⟨kvs, e, f⟩ := bi2.d
      obtain ⟨vv, hval, b, rc, z, t, ys, rfl, hbq, hcq, htq, l1, l2⟩ := f.val fo.nd hsr
      -- run, read = found[standing]
      refine ⟨_, rfl, _, rfl, p, .ref b, rfl, (by rw [← hval]; exact DGet.k (k := Sum.inl ((s : Nat) : Int)) e), b, _, rfl, SqT.of hbq, rfl, _, _, rfl, _, _, rfl, rfl, ?_⟩
      -- for row, answer in signs_of(machine)
      refine ⟨_, rfl, x, Pt, rfl, hx.same bi2.s, ok, fun l Hs ss nl sg => ?_⟩
      obtain ⟨vs, hl, hv⟩ := sg
      have bis := bi2.same ss
      have lp : l ≠ p := (ne_of_none e nl).symm
      have lq : l ≠ q := (ne_of_none bi2.w nl).symm
      have hcs := ss _ _ hcq
      have hts := ss _ _ htq
      refine ⟨l, rfl, ⟨_, SqL.of hl⟩, for_it (walk_list (xs := vs)) (fun k σ H' => BI H H' p q (((signs Pt).take k).foldl (step Pt W s r) F) (i + 1) ∧ H' l = some (.lst vs) ∧ TX Hs H' ∧
        ∃ (v7 v8 v9 v10 : Option V), σ = [some (.ref x), some v, some (.ref p), some (.ref q), some (.int (s : Nat)), some (.ref rc), some (.int r), v7, v8, v9, v10])
        ⟨bis, hl, TX.refl _, _, _, _, _, rfl⟩ (fun k σ H' _ h => SqL.of h.2.1) ?_ ?_⟩
      · rintro k y σ _ H5 hk ⟨bi5, hl5, tx5, v7, v8, v9, v10, rfl⟩ ⟨rfl, hy⟩
        obtain ⟨ja, hja', b2, c', rfl, hc', hb2⟩ := Pd.get' hv hy
        have hja := mem_of hja'
        obtain ⟨fo5, pre5⟩ := pre_ok (W := W) ok mk fo hsr k
        have fl5 := fo5.len
        refine ⟨b2, _, rfl, SqT.of (tx5 _ _ hb2), rfl, _, _, rfl, _, _, rfl, rfl, ?_⟩
        obtain ⟨bb, tk, hv', hbb⟩ := h3 s ja c' hsn hja hc' (.inl hsn)
        refine ⟨_, rfl, x, T.C, dx, _, _, rfl, bi5.s _ _ h1, T.cl, T.n_kept_steps, mf_steps _ _ _ _, _, rfl, _, rfl, _, rfl, (by show 3 ≤ sizeLine; decide), fun tq hq => ⟨d, .ref bb, rfl, (by rw [← hv']; exact DGet.t (k := skey s c' ja.2) ((Same.alloc hq) _ _ (bi5.s _ _ h2)) upd_same), _, _, _, _, rfl, rfl, SqT.of ((Same.alloc hq) _ _ (bi5.s _ _ hbb)), rfl, ?_⟩⟩
        have bi6 := bi5.alloc (o := .tup [.int (s : Nat), .str (ch c'), .int (ja.2 : Nat)]) hq
        have tx6 := tx5.trans (tx_alloc (o := .tup [.int (s : Nat), .str (ch c'), .int (ja.2 : Nat)]) hq)
        have hl6 := (Same.alloc (o := .tup [.int (s : Nat), .str (ch c'), .int (ja.2 : Nat)]) hq) _ _ hl5
        have ef := take_fold (step Pt W s r) hja' F
        obtain ⟨kvs6, e6, f6⟩ := bi6.d
        generalize hF5 : ((signs Pt).take k).foldl (step Pt W s r) F = F5 at bi5 bi6 fo5 pre5 fl5 ef f6
        generalize hH6 : upd H5 tq (.tup [.int (s : Nat), .str (ch c'), .int (ja.2 : Nat)]) = H6 at bi6 tx6 hl6 e6 f6
        refine ⟨_, rfl, _, rfl, p, _, rfl, DGet.k (k := Sum.inl ((goal Pt s ja : Nat) : Int)) e6, _, rfl, ?_⟩
        by_cases hg : goal Pt s ja ∈ keys F5
        · obtain ⟨i', r', hi'⟩ := key_at hg
          obtain ⟨v', hval', _⟩ := f6.val fo5.nd hi'
          refine ifN (by rw [hval']; rfl) ?_
          have es : step Pt W s r F5 ja = F5 := if_pos hg
          rw [es] at ef
          exact ⟨by rw [ef]; exact bi6, hl6, tx6, _, _, _, _, rfl⟩
        · refine ifP (by rw [FndAt.none f6 hg]; rfl) ?_
          have es : step Pt W s r F5 ja = F5 ++ [(goal Pt s ja, r + worth W s ja)] := if_neg hg
          rw [es] at ef
          have hc6 := tx6 _ _ hcs
          have ht6 := tx6 _ _ hts
          have lf := pre5.len
          have lk := Pd.len f6
          -- longer = (run[0] + row, run[1] + (answer,))
          refine ⟨_, rfl, _, _, _, _, rfl, rfl, SqT.of hc6, rfl, _, rfl, _, _, rfl, rfl, ?_, _, rfl, _, _, _, _, rfl, rfl, SqT.of hc6, rfl, _, rfl, (by show 1 ≤ sizeLine; decide), fun t1 n1 => cat1 ((Same.alloc n1) _ _ ht6) upd_same (by omega) fun t2 H7 s7 ht2 => ⟨(by show 2 ≤ sizeLine; decide), fun t3 n3 => ?_⟩⟩
          · show z.length + 1 ≤ sizeLine
            exact Nat.le_trans (show z.length + 1 ≤ 1000 by omega) (by decide)
          have S8 := ((Same.alloc (o := .tup [.int (ja.2 : Nat)]) n1).trans s7).trans (Same.alloc (o := .tup [.str (z ++ ch c'), .ref t2]) n3)
          -- found[goal] = (longer, read + worth_at(..))
          refine ⟨_, rfl, _, rfl, _, rfl, _, rfl, _, rfl, _, rfl, _, rfl, x, v, Pt, W, s, c', ja, rfl, hx.same (bi6.s.trans S8), ok, WMeter.mono _ _ _ _ (Same.tx (bi6.s.trans S8)) hw, mk, hsn, hja, hc', _, _, rfl, rfl, (by show 2 ≤ sizeLine; decide), fun t4 n4 => ?_⟩
          have S9 := S8.trans (Same.alloc (o := .tup [.ref t3, .int (r + worth W s ja)]) n4)
          have e9 := S9 _ _ e6
          have bi9 := bi6.same S9
          refine ⟨_, rfl, _, rfl, p, _, rfl, DPut.k (k := Sum.inl ((goal Pt s ja : Nat) : Int)) e9 (small1000 (by omega)), ?_⟩
          have w10 := (upd_ne (o := .dK (putK kvs6 (Sum.inl ((goal Pt s ja : Nat) : Int)) (.ref t4))) bi9.pq.symm).trans bi9.w
          refine ⟨_, rfl, .inl ⟨rfl, _, SqL.of w10⟩, _, rfl, q, _, _, rfl, rfl, w10, ?_, ?_⟩
          · simp only [List.length_map, List.length_drop, keys]
            exact small1000 (by omega)
          have rent : REnt (F5.length + 1) (upd (upd H7 t3 (.tup [.str (z ++ ch c'), .ref t2])) t4 (.tup [.ref t3, .int (r + worth W s ja)])) (.ref t4) (r + worth W s ja) := by
            refine ⟨t4, t3, z ++ ch c', t2, ys ++ [.int (ja.2 : Nat)], rfl, upd_same, (Same.alloc n4) _ _ upd_same, (Same.alloc n4) _ _ ((Same.alloc n3) _ _ ht2), ?_, ?_⟩
            · rw [str_len_app]
              show z.length + 1 ≤ _
              omega
            · rw [List.length_append]
              show ys.length + 1 ≤ _
              omega
          exact ⟨by rw [ef]; exact bi9.add (by omega) e9 hg rent, (upd_ne lq).trans ((upd_ne lp).trans (S9 _ _ hl6)), ((tx6.trans (Same.tx S9)).trans (TX.write e9 (fun _ z => by cases z))).trans (tx_lst w10), _, _, _, _, rfl⟩
      · rintro σ H5 ⟨bi5, hl5, tx5, v7, v8, v9, v10, rfl⟩
        have hvl := Pd.len hv
        rw [hvl, List.take_length] at bi5
        obtain ⟨fo5, pre5, _⟩ := turn_ok (W := W) ok mk fo hsr
        have e40 : 40 - i = (40 - (i + 1)) + 1 := by omega
        rw [e40, bfs_go hsr] at hb
        exact ⟨turn Pt W F s r, _, _, _, _, _, _, _, rfl, bi5, fo5, Nat.lt_of_lt_of_le hlt pre5.len, hb⟩
    · have hie : i = F.length := by omega
      refine ifN (decide_eq_false (by omega)) ?_
      rw [bfs_end (by omega)] at hb
      obtain ⟨kvs, e, f⟩ := bi.d
      refine ⟨_, rfl, k p kvs H1 bi.s bi.np e ?_⟩
      rw [← hb]
      exact FndAt.le f (by omega)
end
end K70

namespace K70
open PySem L2
/-! ### the differences, in the heap -/
def RDiff (H : Hp) (v : V) (x : Int) : Prop := ∃ b r1 r2, v = .ref b ∧ H b = some (.tup [.int x, .ref r1, .ref r2])
theorem RDiff.mono : Mono RDiff := fun H H' v x tx h => by
  obtain ⟨b, r1, r2, e, hb⟩ := h
  exact ⟨b, r1, r2, e, tx _ _ hb⟩
def DiffsAt (H : Hp) (p : Addr) (l : List Int) : Prop := ∃ vs, H p = some (.lst vs) ∧ Paired (RDiff H) vs l
theorem MachAt.bx {C : Addr} {Pt : Parts} {H H' : Hp} {x pd : Addr} {kvs : List (Key × V)} (h : MachAt C Pt H x) (hp : H pd = some (.dK kvs)) (k : ∀ b o, b ≠ pd → H b = some o → H' b = some o) : MachAt C Pt H' x := by
  obtain ⟨dx, m, d, w, kvs', h1, h2, h3⟩ := h
  refine ⟨dx, m, d, w, kvs', k _ _ (ne_of h1 hp (by intro z; cases z)) h1, k _ _ (ne_of h2 hp (by intro z; cases z)) h2, fun s ja c a1 a2 a3 a4 => ?_⟩
  obtain ⟨b, tk, e1, e2⟩ := h3 s ja c a1 a2 a3 a4
  exact ⟨b, tk, e1, k _ _ (ne_of e2 hp (by intro z; cases z)) e2⟩
theorem bx_tx {H H' : Hp} {pd : Addr} {kvs : List (Key × V)} (hp : H pd = some (.dK kvs)) (k : ∀ b o, b ≠ pd → H b = some o → H' b = some o) : TX H H' := fun a xs e => k _ _ (ne_of e hp (by intro z; cases z)) e
theorem DGet.kf {H : Hp} {a : Addr} {o : Obj} {kvs : List (Key × V)} {k : Key} (e : H a = some (.frz o (.dK kvs))) : DGet H a (kV k) (valV kvs k) := .inl ⟨kvs, k, .inr ⟨o, e⟩, rfl, rfl⟩
theorem diffsOf_snoc {P : Parts} {W : Meter} {F G : Fnd} {i : Nat} {x : Nat × Int} (h : G[i]? = some x) : diffsOf P W F (G.take (i + 1)) = diffsOf P W F (G.take i) ++ (signs P).map (diff P W F x) := by
  unfold diffsOf
  rw [List.take_add_one, h, List.flatMap_append]
  simp
theorem map_snoc {α β : Type} (f : α → β) {l : List α} {k : Nat} {x : α} (h : l[k]? = some x) : (l.take (k + 1)).map f = (l.take k).map f ++ [f x] := by
  rw [List.take_add_one, h, List.map_append]
  rfl
def sp_shifts (K : PySem.W.Frag) (mg : Str → Option Value) (T : Txt K mg) : Sp := fun vs H Q _ => ∃ (x : Addr) (v : V) (pd : Addr) (Pt : Parts) (W : Meter) (kvs : List (Key × V)), vs = [.ref x, v, .ref pd] ∧ MachAt T.C Pt H x ∧ Pt.Ok ∧ WMeter H v W ∧ MeterOk Pt W ∧ H pd = some (.dK kvs) ∧ FndAt 40 H kvs (first Pt W) ∧
  ∀ (p : Addr) (H' : Hp), Same H H' → DiffsAt H' p (diffs Pt W) → Q (.ref p) H'
def sp_turns (K : PySem.W.Frag) (mg : Str → Option Value) (T : Txt K mg) : Sp := fun vs H Q _ => ∃ (x : Addr) (v : V) (Pt : Parts) (W : Meter), vs = [.ref x, v] ∧ MachAt T.C Pt H x ∧ Pt.Ok ∧ WMeter H v W ∧ MeterOk Pt W ∧
  ∀ (H' : Hp), Same H H' → Q (.int (due Pt W : Nat)) H'
def sp_check_divisor (K : PySem.W.Frag) (mg : Str → Option Value) (T : Txt K mg) : Sp := fun vs H Q _ => ∃ (x : Addr) (v : V) (Pt : Parts) (W : Meter) (m : Nat), vs = [.ref x, v, .int (m : Nat)] ∧ MachAt T.C Pt H x ∧ Pt.Ok ∧ WMeter H v W ∧ MeterOk Pt W ∧ 1 ≤ m ∧ m ≤ 1000000000000000000000000000000 ∧
  ∀ (H' : Hp), Same H H' → Q .non H'
/-- what rests tells -/
def restK (m : Nat) (F : Fnd) : List (Key × V) := F.map fun x => (Sum.inl (x.1 : Int), V.int (x.2 % (m : Int)))
def sp_rests (K : PySem.W.Frag) (mg : Str → Option Value) (T : Txt K mg) : Sp := fun vs H Q _ => ∃ (x : Addr) (v : V) (Pt : Parts) (W : Meter) (m : Nat), vs = [.ref x, v, .int (m : Nat)] ∧ MachAt T.C Pt H x ∧ Pt.Ok ∧ WMeter H v W ∧ MeterOk Pt W ∧ 1 ≤ m ∧ m ≤ 1000000000000000000000000000000 ∧
  (¬ (∀ y ∈ diffs Pt W, (m : Int) ∣ y) → ∀ (H' : Hp), Same H H' → Q .non H') ∧ ((∀ y ∈ diffs Pt W, (m : Int) ∣ y) → ∀ (p : Addr) (H' : Hp), Same H H' → H p = none → H' p = some (.dK (restK m (first Pt W))) → Q (.ref p) H')
def sp_parting_rests (K : PySem.W.Frag) (mg : Str → Option Value) (T : Txt K mg) : Sp := fun vs H Q _ => ∃ (x : Addr) (v : V) (Pt : Parts) (W : Meter) (m : Nat), vs = [.ref x, v, .int (m : Nat)] ∧ MachAt T.C Pt H x ∧ Pt.Ok ∧ WMeter H v W ∧ MeterOk Pt W ∧ 1 ≤ m ∧ m ≤ 1000000000000000000000000000000 ∧
  (¬ (∀ y ∈ diffs Pt W, (m : Int) ∣ y) → ∀ (p : Addr) (H' : Hp), Same H H' → Q (.ref p) H') ∧ ((∀ y ∈ diffs Pt W, (m : Int) ∣ y) → ∀ (H' : Hp), Same H H' → Q .non H')
theorem restK_none (m : Nat) : ∀ {G : Fnd} {s : Nat}, s ∉ keys G → valV (restK m G) (Sum.inl (s : Int) : Key) = none
  | [], _, _ => rfl
  | x :: G, s, h => by
    have hne : ¬ (Sum.inl (x.1 : Int) : Key) = Sum.inl (s : Int) := fun e => by
      have e1 : (x.1 : Int) = (s : Int) := Sum.inl.inj e
      have e2 : x.1 = s := by omega
      exact h (by rw [← e2]; exact List.mem_cons_self ..)
    show valV ((Sum.inl (x.1 : Int), V.int (x.2 % (m : Int))) :: restK m G) _ = none
    rw [valV_neg hne]
    exact restK_none m fun z => h (List.mem_cons_of_mem _ z)
theorem restK_put {m : Nat} {F : Fnd} (nd : (keys F).Nodup) {i s : Nat} {r : Int} (h : F[i]? = some (s, r)) : putK (restK m (F.take i)) (Sum.inl (s : Int)) (.int (r % (m : Int))) = restK m (F.take (i + 1)) := by
  have hno : s ∉ keys (F.take i) := fun hm => by
    obtain ⟨j, r', hj⟩ := key_at hm
    obtain ⟨hjl, _⟩ := List.getElem?_eq_some_iff.mp hj
    have hji : j < i := by
      rw [List.length_take] at hjl
      omega
    have hj' : F[j]? = some (s, r') := by rw [List.getElem?_take, if_pos hji] at hj; exact hj
    have a : (keys F)[j]? = some s := by unfold keys; rw [List.getElem?_map, hj']; rfl
    have b : (keys F)[i]? = some s := by unfold keys; rw [List.getElem?_map, h]; rfl
    have := nd_ix nd a b
    omega
  rw [putK_new _ (restK_none m hno)]
  unfold restK
  rw [map_snoc _ h]
/-- a dict comprehension's own walk -/
theorem dc_it {J : It} {n : Nat} {G : Hp → Prop} {Y : Nat → Hp → V → Hp → Prop} (w : Walk J n G Y) {g : TG} {tt : TT} {tk tv : TE} {vs : List Nat} {σ : L2.St} {H1 : Hp} {D : Addr} {Qd : Hp → Prop} (Pv : Nat → Hp → Prop) (h0 : Pv 0 (upd H1 D (.dK []))) (hG : ∀ l M, l ≤ n → Pv l M → G M)
    (hs : ∀ l y M M', l < n → Pv l M → Y l M y M' →
      g y (wipe σ vs) M' fun τ M2 => wipe τ vs = wipe σ vs ∧ tt τ M2 fun yes M3 =>
        if yes = true then tk τ M3 fun u M4 => tv τ M4 fun v M5 =>
          ∃ got k, u = kV k ∧ M5 D = some (.dK got) ∧ got.length < sizeLine ∧ Pv (l + 1) (upd M5 D (.dK (putK got k v)))
        else Pv (l + 1) M3)
    (hd : ∀ M, Pv n M → Qd M) :
    ∃ Z : Nat → Nat → Hp → Prop, (∃ left, Z 0 left (upd H1 D (.dK []))) ∧
      ∀ l left M, Z l left M → (J.stop l M ∧ Qd M) ∨
        (J.go l M ∧ ∃ N : Hp → Prop, (∀ M', N M' → ∃ less, less < left ∧ Z (l + 1) less M') ∧ ∀ y M', J.yld l M y M' →
          g y (wipe σ vs) M' fun τ M2 => wipe τ vs = wipe σ vs ∧ tt τ M2 fun yes M3 =>
            if yes = true then tk τ M3 fun u M4 => tv τ M4 fun v M5 =>
              ∃ got k, u = kV k ∧ M5 D = some (.dK got) ∧ got.length < sizeLine ∧ N (upd M5 D (.dK (putK got k v)))
            else N M3) :=
  comp_walk w (fun N y M' => g y (wipe σ vs) M' fun τ M2 => wipe τ vs = wipe σ vs ∧ tt τ M2 fun yes M3 =>
    if yes = true then tk τ M3 fun u M4 => tv τ M4 fun v M5 =>
      ∃ got k, u = kV k ∧ M5 D = some (.dK got) ∧ got.length < sizeLine ∧ N (upd M5 D (.dK (putK got k v)))
    else N M3) Pv h0 hG hs hd
theorem bl_ne (a : Int) : (!decide (V.int a = V.int 0)) = !decide (a = 0) := by
  by_cases h : a = 0
  · subst h; rfl
  · have : ¬ V.int a = V.int 0 := fun e => by injection e with e; exact h e
    rw [decide_eq_false h, decide_eq_false this]
section
variable {P : Program} {w : World} {K : PySem.W.Frag} {mg : Str → Option Value} {base : Heap}
theorem ok_shifts (T : Txt K mg) : FnOk P w K mg base CX0 2 T.d_shifts.f T.d_shifts.fd ["machine", "meter", "found"] (sp_shifts K mg T) := by
  have G_signs_of := ok_signs_of (P := P) (w := w) (base := base) T
  have G_worth_at := ok_worth_at (P := P) (w := w) (base := base) T
  refine T.d_shifts.F.ok sc_shifts (fun vs H Q E h => ?_) (fun cdv A outer s H vs Q E hr h => ?_)
  · obtain ⟨x, v, pd, Pt, W, kvs, rfl, hx, ok, hw, mk, hp, hf, k⟩ := h
    rfl
  · obtain ⟨x, v, pd, Pt, W, kvs, rfl, hx, ok, hw, mk, hp, hf, k⟩ := h
    have hu := hu_of hr
    refine ⟨_, (pss_cons (ps_set (i := 3) sc_shifts.nd rfl (Or.inl rfl) (pe_lst pa_nil))
      (pss_cons (ps_lock (ps_for PassesOwn.never rfl (pi_items (pv 2)) (pg_tup rfl (pgs_cons (pg_name (i := 4) sc_shifts.nd rfl (Or.inl rfl)) (pgs_cons (pg_tup rfl (pgs_cons (pg_name (i := 5) sc_shifts.nd rfl (Or.inl rfl)) (pgs_cons (pg_name (i := 6) sc_shifts.nd rfl (Or.inl rfl)) pgs_nil))) pgs_nil)))
       (pss_one (ps_for PassesOwn.never rfl (pi_list (pe_call G_signs_of (hr.mono (by decide)) rfl T.d_signs_of.g T.d_signs_of.F.kp T.d_signs_of.b .nil pass0 (pa_cons (pv 0) pa_nil))) (pg_tup rfl (pgs_cons (pg_name (i := 7) sc_shifts.nd rfl (Or.inl rfl)) (pgs_cons (pg_name (i := 8) sc_shifts.nd rfl (Or.inl rfl)) pgs_nil)))
         (pss_cons (ps_asg (pe_dget hu (pv 2) (pe_ix ix_tup (pe_dget hu (pe_fld (pv 0) rfl) (pe_tup (pa_cons (pv 4) (pa_cons (pv 7) (pa_cons (pv 8) pa_nil)))) (fun _ _ => rfl)) pe_int (fun _ _ => rfl)) (fun _ _ => rfl)) (pg_tup rfl (pgs_cons (pg_name (i := 9) sc_shifts.nd rfl (Or.inl rfl)) (pgs_cons (pg_name (i := 10) sc_shifts.nd rfl (Or.inl rfl)) pgs_nil))))
          (pss_cons (ps_set (i := 11) sc_shifts.nd rfl (Or.inl rfl) (pe_op op_sub (pe_op op_add (pv 6) (pe_call G_worth_at (hr.mono (by decide)) rfl T.d_worth_at.g T.d_worth_at.F.kp T.d_worth_at.b .nil pass0 (pa_cons (pv 0) (pa_cons (pv 1) (pa_cons (pv 4) (pa_cons (pv 7) (pa_cons (pv 8) pa_nil))))))) (pv 10)))
          (pss_one (ps_expr (pe_bm PySem.F.plainAttrs_list PySem.F.slot_list_append PySem.F.type_list_append mt_append (pv 3) (pa_cons (pe_tup (pa_cons (pv 11) (pa_cons (pe_tup (pa_cons (pe_op op_add_str (pe_ix ix_tup (pv 5) pe_int (fun _ _ => rfl)) (pv 7)) (pa_cons (pe_op op_catA (pe_ix ix_tup (pv 5) pe_int (fun _ _ => rfl)) (pe_tup (pa_cons (pv 8) pa_nil))) pa_nil))) (pa_cons (pv 9) pa_nil)))) pa_nil))))))))))
      (pss_one (ps_ret (pv 3))))), ?_⟩
    obtain ⟨fo, sh⟩ := first_ok ok mk
    have fl := fo.len
    have m2 := ok.m2
    have sl := signs_len ok
    have lk := Pd.len hf
    refine ⟨(by show 0 ≤ sizeLine; decide), fun p np => ?_⟩
    have npd : p ≠ pd := (ne_of_none hp np).symm
    refine ⟨pd, .dK kvs, (Same.alloc np) _ _ hp, True.intro, fun od => ?_⟩
    refine ⟨_, rfl, pd, od, kvs, rfl, upd_same, for_it (walk_items (kvs := kvs) (o := od) (d := pd)) (fun i σ H' => (∀ b o, b ≠ pd → H b = some o → H' b = some o) ∧ H' pd = some (.frz od (.dK kvs)) ∧ (∃ vs, H' p = some (.lst vs) ∧ vs.length ≤ 4 * i ∧ Paired (RDiff H') vs (diffsOf Pt W (first Pt W) ((first Pt W).take i))) ∧
      ∃ (v4 v5 v6 v7 v8 v9 v10 v11 : Option V), σ = [some (.ref x), some v, some (.ref pd), some (.ref p), v4, v5, v6, v7, v8, v9, v10, v11])
      ⟨fun b o n e => (upd_ne n).trans ((Same.alloc np) _ _ e), upd_same, ⟨[], (upd_ne npd).trans upd_same, Nat.zero_le _, .nil⟩, _, _, _, _, _, _, _, _, rfl⟩ (fun i σ H' _ h => h.2.1) ?_ ?_⟩
    · rintro i y σ H1 H2 hi ⟨bx, hpd, ⟨vs, hL, hll, hv⟩, v4, v5, v6, v7, v8, v9, v10, v11, rfl⟩ ⟨Tq, z1, z2, rfl, hT, rfl, e1, e2⟩
      obtain ⟨kv, hkv⟩ : ∃ kv, kvs[i]? = some kv := ⟨_, List.getElem?_eq_getElem hi⟩
      simp only [hkv, Option.map_some] at e1 e2
      obtain rfl : _ = _ := Option.some.inj e1
      obtain rfl : _ = _ := Option.some.inj e2
      obtain ⟨⟨s, r⟩, hsr, hk1, b, rc, z, t, ys, hk2, hb, hc, ht, l1, l2⟩ := Pd.get' hf hkv
      obtain ⟨kk, kw⟩ := kv
      simp only at hk1 hk2
      subst hk1 hk2
      have hsn : s < Pt.moves.length := fo.lt s (List.mem_map.mpr ⟨_, mem_of hsr, rfl⟩)
      have hil : i < (first Pt W).length := (List.getElem?_eq_some_iff.mp hsr).1
      have bx2 : ∀ a o, a ≠ pd → H a = some o → (upd H1 Tq (.tup [kV (Sum.inl (s : Int)), .ref b])) a = some o := fun a o n e => (Same.alloc hT) _ _ (bx a o n e)
      have hpd2 := (Same.alloc (o := .tup [kV (Sum.inl (s : Int)), .ref b]) hT) _ _ hpd
      have hL2 := (Same.alloc (o := .tup [kV (Sum.inl (s : Int)), .ref b]) hT) _ _ hL
      have hv2 := Pd.tx RDiff.mono (tx_alloc (o := .tup [kV (Sum.inl (s : Int)), .ref b]) hT) hv
      have tx2 := bx_tx hp bx2
      refine ⟨Tq, _, rfl, SqT.of upd_same, rfl, _, _, rfl, _, _, rfl, b, _, rfl, SqT.of (tx2 _ _ hb), rfl, _, _, rfl, _, _, rfl, rfl, rfl, ?_⟩
      refine ⟨_, rfl, x, Pt, rfl, hx.bx hp bx2, ok, fun l Hs ss nl sg => ?_⟩
      obtain ⟨us, hl, hus⟩ := sg
      have lp : l ≠ p := (ne_of_none hL2 nl).symm
      have lpd : l ≠ pd := (ne_of_none hpd2 nl).symm
      refine ⟨l, rfl, ⟨_, SqL.of hl⟩, for_it (walk_list (xs := us)) (fun k σ H' => (∀ b o, b ≠ pd → H b = some o → H' b = some o) ∧ H' pd = some (.frz od (.dK kvs)) ∧ H' l = some (.lst us) ∧ TX Hs H' ∧
          (∃ vs, H' p = some (.lst vs) ∧ vs.length ≤ 4 * i + k ∧ Paired (RDiff H') vs (diffsOf Pt W (first Pt W) ((first Pt W).take i) ++ ((signs Pt).take k).map (diff Pt W (first Pt W) (s, r)))) ∧
        ∃ (v7 v8 v9 v10 v11 : Option V), σ = [some (.ref x), some v, some (.ref pd), some (.ref p), some (.int (s : Nat)), some (.ref rc), some (.int r), v7, v8, v9, v10, v11])
        ⟨fun b o n e => ss _ _ (bx2 b o n e), ss _ _ hpd2, hl, TX.refl _, ⟨vs, ss _ _ hL2, hll, by simpa using Pd.tx RDiff.mono (Same.tx ss) hv2⟩, _, _, _, _, _, rfl⟩ (fun k σ H' _ h => SqL.of h.2.2.1) ?_ ?_⟩
      · rintro n y σ _ H5 hn ⟨bx5, hpd5, hl5, tx5, ⟨ws, hL5, hll5, hv5⟩, v7, v8, v9, v10, v11, rfl⟩ ⟨rfl, hy⟩
        obtain ⟨ja, hja', b2, c', rfl, hc', hb2⟩ := Pd.get' hus hy
        have hja := mem_of hja'
        have hnl : n < (signs Pt).length := (List.getElem?_eq_some_iff.mp hja').1
        refine ⟨b2, _, rfl, SqT.of (tx5 _ _ hb2), rfl, _, _, rfl, _, _, rfl, rfl, ?_⟩
        have txH := bx_tx hp bx5
        obtain ⟨dx, m, d, w0, kvsM, h1, h2, h3⟩ := hx.bx hp bx5
        obtain ⟨bb, tk, hv', hbb⟩ := h3 s ja c' hsn hja hc' (.inl hsn)
        obtain ⟨i', r', hi'⟩ := key_at (sh i s r hil hsr ja hja)
        obtain ⟨ov, hval, ob, oc, oz, ot, oys, rfl, hob, _⟩ := hf.val fo.nd hi'
        -- other, its = found[machine.kept_steps[..][1]]
        refine ⟨_, rfl, _, rfl, x, T.C, dx, _, _, rfl, h1, T.cl, T.n_kept_steps, mf_steps _ _ _ _, _, rfl, _, rfl, _, rfl, (by show 3 ≤ sizeLine; decide), fun tq hq => ?_⟩
        have S6 := Same.alloc (o := .tup [.int (s : Nat), .str (ch c'), .int (ja.2 : Nat)]) hq
        refine ⟨d, .ref bb, rfl, (by rw [← hv']; exact DGet.t (k := skey s c' ja.2) (S6 _ _ h2) upd_same), _, _, _, _, rfl, rfl, SqT.of (S6 _ _ hbb), rfl, pd, .ref ob, rfl, (by rw [← hval]; exact DGet.kf (k := Sum.inl ((goal Pt s ja : Nat) : Int)) (S6 _ _ hpd5)), ob, _, rfl, SqT.of (S6 _ _ (txH _ _ hob)), rfl, _, _, rfl, _, _, rfl, rfl, ?_⟩
        -- difference = read + worth_at(..) - its
        refine ⟨_, rfl, _, rfl, _, rfl, _, rfl, _, rfl, _, rfl, x, v, Pt, W, s, c', ja, rfl, (hx.bx hp bx5).same S6, ok, WMeter.mono _ _ _ _ (txH.trans (Same.tx S6)) hw, mk, hsn, hja, hc', _, _, rfl, rfl, _, rfl, _, _, rfl, rfl, ?_⟩
        have hc6 := S6 _ _ (txH _ _ hc)
        have ht6 := S6 _ _ (txH _ _ ht)
        -- rows.append(..)
        refine ⟨_, rfl, .inl ⟨rfl, _, SqL.of (S6 _ _ hL5)⟩, _, rfl, _, rfl, _, _, _, _, rfl, rfl, SqT.of hc6, rfl, _, rfl, _, _, rfl, rfl, ?_, _, rfl, _, _, _, _, rfl, rfl, SqT.of hc6, rfl, _, rfl, (by show 1 ≤ sizeLine; decide), fun t1 n1 => cat1 ((Same.alloc n1) _ _ ht6) upd_same (by omega) fun t2 H7 s7 ht2 => ⟨(by show 2 ≤ sizeLine; decide), fun t3 n3 => ?_⟩⟩
        · show z.length + 1 ≤ sizeLine
          exact Nat.le_trans (show z.length + 1 ≤ 1000 by omega) (by decide)
        have S8 := (S6.trans ((Same.alloc (o := .tup [.int (ja.2 : Nat)]) n1).trans s7)).trans (Same.alloc (o := .tup [.str (z ++ ch c'), .ref t2]) n3)
        refine ⟨_, rfl, (by show 3 ≤ sizeLine; decide), fun t4 n4 => ?_⟩
        have S9 := S8.trans (Same.alloc (o := .tup [.int (r + worth W s ja - r'), .ref t3, .ref oc]) n4)
        refine ⟨p, _, _, rfl, rfl, S9 _ _ hL5, small1000 (by omega), ?_⟩
        refine ⟨fun b o q e => (upd_ne (ne_of_none e np)).trans (S9 _ _ (bx5 b o q e)), (upd_ne npd.symm).trans (S9 _ _ hpd5), (upd_ne lp).trans (S9 _ _ hl5), (tx5.trans (Same.tx S9)).trans (tx_lst (S9 _ _ hL5)), ⟨_, upd_same, ?_, ?_⟩, _, _, _, _, _, rfl⟩
        · rw [List.length_append]
          show ws.length + 1 ≤ _
          omega
        · rw [map_snoc _ hja', ← List.append_assoc]
          refine push_tup RDiff.mono (S8 _ _ hL5) (Pd.tx RDiff.mono (Same.tx S8) hv5) n4 fun H' _ e => ⟨t4, t3, oc, rfl, ?_⟩
          rw [e]
          unfold diff
          rw [rd_of fo.nd hi']
      · rintro σ H5 ⟨bx5, hpd5, hl5, tx5, ⟨ws, hL5, hll5, hv5⟩, v7, v8, v9, v10, v11, rfl⟩
        have hul := Pd.len hus
        rw [hul, List.take_length, ← diffsOf_snoc hsr] at hv5
        exact ⟨bx5, hpd5, ⟨ws, hL5, by omega, hv5⟩, _, _, _, _, _, _, _, _, rfl⟩
    · rintro σ H1 ⟨bx, hpd, ⟨vs, hL, hll, hv⟩, v4, v5, v6, v7, v8, v9, v10, v11, rfl⟩
      refine ⟨hpd, ?_⟩
      rw [lk, List.take_length] at hv
      refine ⟨_, rfl, k p _ (fun b o e => ?_) ⟨vs, (upd_ne npd).trans hL, Pd.tx RDiff.mono (TX.write hpd (fun _ z => by cases z)) hv⟩⟩
      by_cases q : b = pd
      · subst q
        rw [hp] at e
        rw [upd_same]
        exact e
      · rw [upd_ne q]
        exact bx b o q e
theorem ok_turns (T : Txt K mg) : FnOk P w K mg base CX0 5 T.d_turns.f T.d_turns.fd ["machine", "meter"] (sp_turns K mg T) := by
  have G_check_meter := ok_check_meter (P := P) (w := w) (base := base) T
  have G_common_divisor := ok_common_divisor (P := P) (w := w) (base := base) T
  have G_first_readings := ok_first_readings (P := P) (w := w) (base := base) T
  have G_shifts := ok_shifts (P := P) (w := w) (base := base) T
  refine T.d_turns.F.ok sc_turns (fun vs H Q E h => ?_) (fun cdv A outer s H vs Q E hr h => ?_)
  · obtain ⟨x, v, Pt, W, rfl, hx, ok, hw, mk, k⟩ := h
    rfl
  · obtain ⟨x, v, Pt, W, rfl, hx, ok, hw, mk, k⟩ := h
    have hu := hu_of hr
    refine ⟨_, (pss_cons (ps_expr (pe_call G_check_meter (hr.mono (by decide)) rfl T.d_check_meter.g T.d_check_meter.F.kp T.d_check_meter.b .nil pass0 (pa_cons (pv 0) (pa_cons (pv 1) pa_nil))))
      (pss_cons (ps_set (i := 2) sc_turns.nd rfl (Or.inl rfl) pe_int)
      (pss_cons (ps_for PassesOwn.never rfl (pi_list (pe_call G_shifts (hr.mono (by decide)) rfl T.d_shifts.g T.d_shifts.F.kp T.d_shifts.b .nil pass0 (pa_cons (pv 0) (pa_cons (pv 1) (pa_cons (pe_call G_first_readings (hr.mono (by decide)) rfl T.d_first_readings.g T.d_first_readings.F.kp T.d_first_readings.b .nil pass0 (pa_cons (pv 0) (pa_cons (pv 1) pa_nil))) pa_nil))))) (pg_tup rfl (pgs_cons (pg_name (i := 3) sc_turns.nd rfl (Or.inl rfl)) (pgs_cons (pg_name (i := 4) sc_turns.nd rfl (Or.inl rfl)) (pgs_cons (pg_name (i := 5) sc_turns.nd rfl (Or.inl rfl)) pgs_nil))))
       (pss_one (ps_set (i := 2) sc_turns.nd rfl (Or.inl rfl) (pe_call G_common_divisor (hr.mono (by decide)) rfl T.d_common_divisor.g T.d_common_divisor.F.kp T.d_common_divisor.b .nil pass0 (pa_cons (pe_callB (id := "abs") call_abs (by rfl) T.z_abs (by decide +kernel) (pa_cons (pv 3) pa_nil)) (pa_cons (pv 2) pa_nil))))))
      (pss_one (ps_ret (pv 2)))))), ?_⟩
    refine ⟨_, rfl, _, rfl, x, v, Pt, W, rfl, hx, ok, hw, mk, fun H1 s1 => ?_⟩
    refine ⟨_, rfl, _, rfl, _, rfl, _, rfl, x, v, Pt, W, rfl, hx.same s1, ok, WMeter.mono _ _ _ _ (Same.tx s1) hw, mk, fun pd kvs H2 s2 npd hpd hf => ?_⟩
    have s12 := s1.trans s2
    refine ⟨x, v, pd, Pt, W, kvs, rfl, hx.same s12, ok, WMeter.mono _ _ _ _ (Same.tx s12) hw, mk, hpd, hf, fun p H3 s3 ⟨vs, hl, hv⟩ => ?_⟩
    have hvl := Pd.len hv
    refine ⟨p, rfl, ⟨_, SqL.of hl⟩, for_it (walk_list (xs := vs)) (fun i σ H' => H' = H3 ∧ ∃ (v3 v4 v5 : Option V), σ = [some (.ref x), some v, some (.int (((diffs Pt W).take i).foldl gstep 0 : Nat)), v3, v4, v5]) ⟨rfl, _, _, _, rfl⟩ (fun i σ H' _ h => by rw [h.1]; exact SqL.of hl) ?_ ?_⟩
    · rintro i y σ _ H4 hi ⟨rfl, v3, v4, v5, rfl⟩ ⟨rfl, hy⟩
      obtain ⟨df, hdf, b, r1, r2, rfl, hb⟩ := Pd.get' hv hy
      refine ⟨b, _, rfl, SqT.of hb, rfl, _, _, rfl, _, _, rfl, _, _, rfl, rfl, ?_⟩
      have e : (if df < 0 then -df else df) = (df.natAbs : Int) := by split <;> omega
      refine ⟨_, rfl, _, rfl, ?_⟩
      rw [e]
      refine ⟨_, rfl, df.natAbs, _, rfl, ?_⟩
      exact ⟨rfl, some (.int df), some (.ref r1), some (.ref r2), by rw [take_fold gstep hdf]; rfl⟩
    · rintro σ H4 ⟨rfl, v3, v4, v5, rfl⟩
      rw [hvl, List.take_length]
      exact ⟨_, rfl, k _ (s12.trans s3)⟩
theorem ok_check_divisor (T : Txt K mg) : FnOk P w K mg base CX0 5 T.d_check_divisor.f T.d_check_divisor.fd ["machine", "meter", "m"] (sp_check_divisor K mg T) := by
  have G_check_meter := ok_check_meter (P := P) (w := w) (base := base) T
  have G_is_within := ok_is_within (P := P) (w := w) (base := base) T
  refine T.d_check_divisor.F.ok sc_check_divisor (fun vs H Q E h => ?_) (fun cdv A outer s H vs Q E hr h => ?_)
  · obtain ⟨x, v, Pt, W, m, rfl, hx, ok, hw, mk, h1, h2, k⟩ := h
    rfl
  · obtain ⟨x, v, Pt, W, m, rfl, hx, ok, hw, mk, h1, h2, k⟩ := h
    have hu := hu_of hr
    refine ⟨_, (pss_cons (ps_expr (pe_call G_check_meter (hr.mono (by decide)) rfl T.d_check_meter.g T.d_check_meter.F.kp T.d_check_meter.b .nil pass0 (pa_cons (pv 0) (pa_cons (pv 1) pa_nil))))
      (pss_one (ps_if (pt_not (pt_val (pe_call G_is_within (hr.mono (by decide)) rfl T.d_is_within.g T.d_is_within.F.kp T.d_is_within.b .nil pass0 (pa_cons (pv 2) (pa_cons pe_int (pa_cons (pe_glob (v := .int 1000000000000000000000000000000) rfl T.m_MOST_DIVISOR.choose_spec ⟨_, rfl⟩) pa_nil))))))
       (pss_one ps_never)
       pss_nil))), ?_⟩
    refine ⟨_, rfl, _, rfl, x, v, Pt, W, rfl, hx, ok, hw, mk, fun H1 s1 => ?_⟩
    refine ⟨_, rfl, (m : Nat), 1, 1000000000000000000000000000000, rfl, by omega, by omega, _, rfl, ifN rfl ?_⟩
    exact k H1 s1
theorem ok_parting_rests (T : Txt K mg) : FnOk P w K mg base CX0 6 T.d_parting_rests.f T.d_parting_rests.fd ["machine", "meter", "m"] (sp_parting_rests K mg T) := by
  have G_check_divisor := ok_check_divisor (P := P) (w := w) (base := base) T
  have G_first_readings := ok_first_readings (P := P) (w := w) (base := base) T
  have G_shifts := ok_shifts (P := P) (w := w) (base := base) T
  refine T.d_parting_rests.F.ok sc_parting_rests (fun vs H Q E h => ?_) (fun cdv A outer s H vs Q E hr h => ?_)
  · obtain ⟨x, v, Pt, W, m, rfl, hx, ok, hw, mk, hm1, hm2, k1, k2⟩ := h
    rfl
  · obtain ⟨x, v, Pt, W, m, rfl, hx, ok, hw, mk, hm1, hm2, k1, k2⟩ := h
    have hu := hu_of hr
    refine ⟨_, (pss_cons (ps_expr (pe_call G_check_divisor (hr.mono (by decide)) rfl T.d_check_divisor.g T.d_check_divisor.F.kp T.d_check_divisor.b .nil pass0 (pa_cons (pv 0) (pa_cons (pv 1) (pa_cons (pv 2) pa_nil)))))
      (pss_cons (ps_for PassesOwn.never rfl (pi_list (pe_call G_shifts (hr.mono (by decide)) rfl T.d_shifts.g T.d_shifts.F.kp T.d_shifts.b .nil pass0 (pa_cons (pv 0) (pa_cons (pv 1) (pa_cons (pe_call G_first_readings (hr.mono (by decide)) rfl T.d_first_readings.g T.d_first_readings.F.kp T.d_first_readings.b .nil pass0 (pa_cons (pv 0) (pa_cons (pv 1) pa_nil))) pa_nil))))) (pg_tup rfl (pgs_cons (pg_name (i := 3) sc_parting_rests.nd rfl (Or.inl rfl)) (pgs_cons (pg_name (i := 4) sc_parting_rests.nd rfl (Or.inl rfl)) (pgs_cons (pg_name (i := 5) sc_parting_rests.nd rfl (Or.inl rfl)) pgs_nil))))
       (pss_one (ps_if (pt_cmpR op_ne (pe_op op_mod (pe_callTy (T := "int") call_int1 (by rfl) T.z_int (by decide +kernel) (pa_cons (pv 3) pa_nil)) (pv 2)) pe_int (nomark _))
         (pss_one (ps_ret (pe_tup (pa_cons (pv 4) (pa_cons (pv 5) pa_nil)))))
         pss_nil)))
      (pss_one (ps_ret pe_non)))), ?_⟩
    have hm0 : (0 : Int) < (m : Nat) := by omega
    refine ⟨_, rfl, _, rfl, _, rfl, x, v, Pt, W, m, rfl, hx, ok, hw, mk, hm1, hm2, fun H1 s1 => ?_⟩
    refine ⟨_, rfl, _, rfl, _, rfl, _, rfl, x, v, Pt, W, rfl, hx.same s1, ok, WMeter.mono _ _ _ _ (Same.tx s1) hw, mk, fun pd kvs H2 s2 npd hpd hf => ?_⟩
    have s12 := s1.trans s2
    refine ⟨x, v, pd, Pt, W, kvs, rfl, hx.same s12, ok, WMeter.mono _ _ _ _ (Same.tx s12) hw, mk, hpd, hf, fun p H3 s3 ⟨vs, hl, hv⟩ => ?_⟩
    have hvl := Pd.len hv
    refine ⟨p, rfl, ⟨_, SqL.of hl⟩, for_it (walk_list (xs := vs)) (fun i σ H' => H' = H3 ∧ (∀ y ∈ (diffs Pt W).take i, (m : Int) ∣ y) ∧ ∃ (v3 v4 v5 : Option V), σ = [some (.ref x), some v, some (.int (m : Nat)), v3, v4, v5]) ⟨rfl, by simp, _, _, _, rfl⟩ (fun i σ H' _ h => by rw [h.1]; exact SqL.of hl) ?_ ?_⟩
    · rintro i y σ _ H4 hi ⟨rfl, hall, v3, v4, v5, rfl⟩ ⟨rfl, hy⟩
      obtain ⟨df, hdf, b, r1, r2, rfl, hb⟩ := Pd.get' hv hy
      refine ⟨b, _, rfl, SqT.of hb, rfl, _, _, rfl, _, _, rfl, _, _, rfl, rfl, ?_⟩
      refine ⟨_, rfl, .inl ⟨_, rfl, _, rfl, _, _, rfl, rfl, hm0, rfl, _, rfl, ?_⟩⟩
      by_cases hdv : (m : Int) ∣ df
      · refine ifN ?_ ?_
        · rw [bl_ne, Int.emod_eq_zero_of_dvd hdv]; rfl
        · refine ⟨rfl, fun y hy => ?_, _, _, _, rfl⟩
          rw [List.take_add_one, hdf] at hy
          rcases List.mem_append.1 hy with hy | hy
          · exact hall y hy
          · have : y = df := by simpa using hy
            rw [this]; exact hdv
      · refine ifP ?_ ?_
        · rw [bl_ne, decide_eq_false fun e => hdv (Int.dvd_of_emod_eq_zero e)]; rfl
        · refine ⟨_, rfl, _, rfl, (by show 2 ≤ sizeLine; decide), fun pp npp => ?_⟩
          exact k1 (fun all => hdv (all _ (mem_of hdf))) pp _ ((s12.trans s3).trans (Same.alloc npp))
    · rintro σ H4 ⟨rfl, hall, v3, v4, v5, rfl⟩
      rw [hvl, List.take_length] at hall
      exact k2 hall _ (s12.trans s3)
theorem ok_rests (T : Txt K mg) : FnOk P w K mg base CX0 6 T.d_rests.f T.d_rests.fd ["machine", "meter", "m"] (sp_rests K mg T) := by
  have G_check_divisor := ok_check_divisor (P := P) (w := w) (base := base) T
  have G_first_readings := ok_first_readings (P := P) (w := w) (base := base) T
  have G_shifts := ok_shifts (P := P) (w := w) (base := base) T
  refine T.d_rests.F.ok sc_rests (fun vs H Q E h => ?_) (fun cdv A outer s H vs Q E hr h => ?_)
  · obtain ⟨x, v, Pt, W, m, rfl, hx, ok, hw, mk, hm1, hm2, k1, k2⟩ := h
    rfl
  · obtain ⟨x, v, Pt, W, m, rfl, hx, ok, hw, mk, hm1, hm2, k1, k2⟩ := h
    have hu := hu_of hr
    refine ⟨_, (pss_cons (ps_expr (pe_call G_check_divisor (hr.mono (by decide)) rfl T.d_check_divisor.g T.d_check_divisor.F.kp T.d_check_divisor.b .nil pass0 (pa_cons (pv 0) (pa_cons (pv 1) (pa_cons (pv 2) pa_nil)))))
      (pss_cons (ps_set (i := 3) sc_rests.nd rfl (Or.inl rfl) (pe_call G_first_readings (hr.mono (by decide)) rfl T.d_first_readings.g T.d_first_readings.F.kp T.d_first_readings.b .nil pass0 (pa_cons (pv 0) (pa_cons (pv 1) pa_nil))))
      (pss_cons (ps_for PassesOwn.never rfl (pi_list (pe_call G_shifts (hr.mono (by decide)) rfl T.d_shifts.g T.d_shifts.F.kp T.d_shifts.b .nil pass0 (pa_cons (pv 0) (pa_cons (pv 1) (pa_cons (pv 3) pa_nil))))) (pg_tup rfl (pgs_cons (pg_name (i := 4) sc_rests.nd rfl (Or.inl rfl)) (pgs_cons (pg_name (i := 5) sc_rests.nd rfl (Or.inl rfl)) (pgs_cons (pg_name (i := 6) sc_rests.nd rfl (Or.inl rfl)) pgs_nil))))
       (pss_one (ps_if (pt_cmpR op_ne (pe_op op_mod (pe_callTy (T := "int") call_int1 (by rfl) T.z_int (by decide +kernel) (pa_cons (pv 4) pa_nil)) (pv 2)) pe_int (nomark _))
         (pss_one (ps_ret pe_non))
         pss_nil)))
      (pss_one (ps_ret (pe_lock (pe_dc (own := [("standing", 7), ("run", 5), ("read", 8)]) (g := (gTup K 2 (gCons (gName 7) (gCons (gTup K 2 (gCons (gName 5) (gCons (gName 8) gNil))) gNil)))) rfl sc_rests.nd (pi_items (pv 3)) (blkOk_by (own := [("standing", 7), ("run", 5), ("read", 8)]) (N := N_rests) (sc := defScope s_rests) (by decide +kernel)) (fun _ _ _ _ _ => (pg_tup rfl (pgs_cons (pg_name (i := 7) sc_rests.nd rfl (Or.inl rfl)) (pgs_cons (pg_tup rfl (pgs_cons (pg_name (i := 5) sc_rests.nd rfl (Or.inl rfl)) (pgs_cons (pg_name (i := 8) sc_rests.nd rfl (Or.inl rfl)) pgs_nil))) pgs_nil)))) (fun _ _ _ _ _ => pts_nil) (fun _ _ _ _ _ => (pv 7)) (fun _ _ _ _ _ => (pe_op op_mod (pe_callTy (T := "int") call_int1 (by rfl) T.z_int (by decide +kernel) (pa_cons (pv 8) pa_nil)) (pv 2)))))))))), ?_⟩
    have hm0 : (0 : Int) < (m : Nat) := by omega
    refine ⟨_, rfl, _, rfl, _, rfl, x, v, Pt, W, m, rfl, hx, ok, hw, mk, hm1, hm2, fun H1 s1 => ?_⟩
    refine ⟨_, rfl, _, rfl, x, v, Pt, W, rfl, hx.same s1, ok, WMeter.mono _ _ _ _ (Same.tx s1) hw, mk, fun pd kvs H2 s2 npd hpd hf => ?_⟩
    have s12 := s1.trans s2
    refine ⟨_, rfl, _, rfl, _, rfl, x, v, pd, Pt, W, kvs, rfl, hx.same s12, ok, WMeter.mono _ _ _ _ (Same.tx s12) hw, mk, hpd, hf, fun p H3 s3 ⟨vs, hl, hv⟩ => ?_⟩
    have hvl := Pd.len hv
    refine ⟨p, rfl, ⟨_, SqL.of hl⟩, for_it (walk_list (xs := vs)) (fun i σ H' => H' = H3 ∧ (∀ y ∈ (diffs Pt W).take i, (m : Int) ∣ y) ∧ ∃ (v4 v5 v6 v7 v8 : Option V), σ = [some (.ref x), some v, some (.int (m : Nat)), some (.ref pd), v4, v5, v6, v7, v8]) ⟨rfl, by simp, _, _, _, _, _, rfl⟩ (fun i σ H' _ h => by rw [h.1]; exact SqL.of hl) ?_ ?_⟩
    · rintro i y σ _ H4 hi ⟨rfl, hall, v4, v5, v6, v7, v8, rfl⟩ ⟨rfl, hy⟩
      obtain ⟨df, hdf, b, r1, r2, rfl, hb⟩ := Pd.get' hv hy
      refine ⟨b, _, rfl, SqT.of hb, rfl, _, _, rfl, _, _, rfl, _, _, rfl, rfl, ?_⟩
      refine ⟨_, rfl, .inl ⟨_, rfl, _, rfl, _, _, rfl, rfl, hm0, rfl, _, rfl, ?_⟩⟩
      by_cases hdv : (m : Int) ∣ df
      · refine ifN ?_ ?_
        · rw [bl_ne, Int.emod_eq_zero_of_dvd hdv]; rfl
        · refine ⟨rfl, fun y hy => ?_, _, _, _, _, _, rfl⟩
          rw [List.take_add_one, hdf] at hy
          rcases List.mem_append.1 hy with hy | hy
          · exact hall y hy
          · have : y = df := by simpa using hy
            rw [this]; exact hdv
      · refine ifP ?_ ?_
        · rw [bl_ne, decide_eq_false fun e => hdv (Int.dvd_of_emod_eq_zero e)]; rfl
        · exact k1 (fun all => hdv (all _ (mem_of hdf))) _ (s12.trans s3)
    · rintro σ H4 ⟨rfl, hall, v4, v5, v6, v7, v8, rfl⟩
      rw [hvl, List.take_length] at hall
      have hpd3 := s3 _ _ hpd
      have hf3 := hf.tx (Same.tx s3)
      have s123 := s12.trans s3
      obtain ⟨fo, sh⟩ := first_ok ok mk
      have fl := fo.len
      have m2 := ok.m2
      have lk := Pd.len hf
      refine ⟨pd, .dK kvs, hpd3, True.intro, fun od => ?_⟩
      refine ⟨_, rfl, pd, od, kvs, rfl, upd_same, fun D hD => ?_⟩
      have nDp : D ≠ pd := fun e => by rw [e, upd_same] at hD; cases hD
      have hD3 : H4 D = none := by rw [upd_ne nDp] at hD; exact hD
      refine dc_it (walk_items (kvs := kvs) (o := od) (d := pd)) (fun i H' => (∀ b o, b ≠ pd → H4 b = some o → H' b = some o) ∧ H' pd = some (.frz od (.dK kvs)) ∧ H' D = some (.dK (restK m ((first Pt W).take i))))
        ⟨fun b o n e => (upd_ne (ne_of_none e hD3)).trans ((upd_ne n).trans e), (upd_ne nDp.symm).trans upd_same, upd_same⟩ (fun i H' _ h => h.2.1) ?_ ?_
      · rintro i y H5 H6 hi ⟨bx, hpd5, hD5⟩ ⟨Tq, z1, z2, rfl, hT, rfl, e1, e2⟩
        obtain ⟨kv, hkv⟩ : ∃ kv, kvs[i]? = some kv := ⟨_, List.getElem?_eq_getElem hi⟩
        simp only [hkv, Option.map_some] at e1 e2
        obtain rfl : _ = _ := Option.some.inj e1
        obtain rfl : _ = _ := Option.some.inj e2
        obtain ⟨⟨s, r⟩, hsr, hk1, b, rc, z, t, ys, hk2, hb, hc, ht, l1, l2⟩ := Pd.get' hf3 hkv
        obtain ⟨kk, kw⟩ := kv
        simp only at hk1 hk2
        subst hk1 hk2
        have bx6 : ∀ a o, a ≠ pd → H4 a = some o → (upd H5 Tq (.tup [kV (Sum.inl (s : Int)), .ref b])) a = some o := fun a o n e => (Same.alloc hT) _ _ (bx a o n e)
        have tx6 := bx_tx hpd3 bx6
        refine ⟨Tq, _, rfl, SqT.of upd_same, rfl, _, _, rfl, _, _, rfl, b, _, rfl, SqT.of (tx6 _ _ hb), rfl, _, _, rfl, _, _, rfl, rfl, rfl, rfl, ?_⟩
        refine ⟨_, rfl, _, rfl, .inl ⟨_, rfl, _, rfl, _, _, rfl, rfl, hm0, _, Sum.inl (s : Int), rfl, (Same.alloc hT) _ _ hD5, ?_, ?_⟩⟩
        · unfold restK
          rw [List.length_map, List.length_take]
          exact small1000 (by omega)
        · refine ⟨fun b o n e => (upd_ne (ne_of_none e hD3)).trans (bx6 b o n e), (upd_ne nDp.symm).trans ((Same.alloc hT) _ _ hpd5), upd_same.trans ?_⟩
          rw [restK_put fo.nd hsr]
      · rintro H5 ⟨bx, hpd5, hD5⟩
        rw [lk, List.take_length] at hD5
        refine ⟨hpd5, k2 hall D _ (fun b o e => ?_) (s123.free hD3) ((upd_ne nDp).trans hD5)⟩
        have e4 := s123 _ _ e
        by_cases q : b = pd
        · subst q
          rw [hpd3] at e4
          rw [upd_same]
          exact e4
        · rw [upd_ne q]
          exact bx b o q e4
end
end K70

namespace K70
open PySem L2
/-! ### lists of one's own -/
def OL {α : Type} (R : Hp → V → α → Prop) (H H' : Hp) (a : Addr) (l : List α) : Prop := H a = none ∧ ∃ vs, H' a = some (.lst vs) ∧ Paired (R H') vs l
theorem OL.ts {α : Type} {R : Hp → V → α → Prop} (m : Mono R) {Tp : Tape} {H H' H2 : Hp} {a : Addr} {l : List α} (h : OL R H H' a l) (t : TS Tp H H') (k : TS Tp H' H2) : OL R H H2 a l := by
  obtain ⟨n, vs, e, p⟩ := h
  exact ⟨n, vs, t.own k n e, Pd.tx m k.tx p⟩
theorem OL.alloc {α : Type} {R : Hp → V → α → Prop} (m : Mono R) {H H' : Hp} {a q : Addr} {o : HO} {l : List α} (h : OL R H H' a l) (n : H' q = none) : OL R H (upd H' q o) a l := by
  obtain ⟨n0, vs, e, p⟩ := h
  exact ⟨n0, vs, (Same.alloc n) _ _ e, Pd.tx m (tx_alloc n) p⟩
theorem OL.wr {α : Type} {R : Hp → V → α → Prop} (m : Mono R) {H H' : Hp} {a b : Addr} {ws : List V} {o : HO} {l : List α} (h : OL R H H' a l) (ne : a ≠ b) (e : H' b = some (.lst ws)) : OL R H (upd H' b o) a l := by
  obtain ⟨n0, vs, e0, p⟩ := h
  exact ⟨n0, vs, (upd_ne ne).trans e0, Pd.tx m (tx_lst e) p⟩
theorem OL.ne {α : Type} {R : Hp → V → α → Prop} {H H' : Hp} {a q : Addr} {l : List α} (h : OL R H H' a l) (n : H' q = none) : a ≠ q := by
  obtain ⟨_, vs, e, _⟩ := h
  exact ne_of_none e n
theorem OL.get {α : Type} {R : Hp → V → α → Prop} {K : PySem.W.Frag} {H H' : Hp} {a : Addr} {l : List α} (h : OL R H H' a l) {i : Nat} {x : α} (e : l[i]? = some x) : ∃ vs u, SqL K H' a vs ∧ atI vs ((i : Nat) : Int) = some u ∧ R H' u x := by
  obtain ⟨_, vs, e0, p⟩ := h
  obtain ⟨u, hu, r⟩ := Pd.get p e
  exact ⟨vs, u, SqL.of e0, atI_nat hu, r⟩
theorem OL.new {α : Type} (R : Hp → V → α → Prop) {H H' : Hp} {a : Addr} (n : H a = none) : OL R H (upd H' a (.lst [])) a [] := ⟨n, [], upd_same, .nil⟩
theorem OL.pushI {H H' : Hp} {a : Addr} {l : List Int} {vs : List V} (h : OL RInt H H' a l) (e : H' a = some (.lst vs)) (x : Int) : OL RInt H (upd H' a (.lst (vs ++ [.int x]))) a (l ++ [x]) := by
  obtain ⟨n, vs', e', p⟩ := h
  rw [e] at e'
  obtain rfl : vs = vs' := by cases e'; rfl
  exact ⟨n, _, upd_same, Pd.snoc (Pd.tx RInt.mono (tx_lst e) p) rfl⟩
theorem OL.pushT {α : Type} {R : Hp → V → α → Prop} (m : Mono R) {H H' : Hp} {a q : Addr} {l : List α} {vs xs : List V} {x : α} (h : OL R H H' a l) (e : H' a = some (.lst vs)) (hq : H' q = none) (hr : ∀ H2, TX H' H2 → H2 q = some (.tup xs) → R H2 (.ref q) x) :
    OL R H (upd (upd H' q (.tup xs)) a (.lst (vs ++ [.ref q]))) a (l ++ [x]) := by
  obtain ⟨n, vs', e', p⟩ := h
  rw [e] at e'
  obtain rfl : vs = vs' := by cases e'; rfl
  exact ⟨n, _, upd_same, push_tup m e p hq hr⟩
theorem OL.len {α : Type} {R : Hp → V → α → Prop} {H H' : Hp} {a : Addr} {l : List α} {vs : List V} (h : OL R H H' a l) (e : H' a = some (.lst vs)) : vs.length = l.length := by
  obtain ⟨n, vs', e', p⟩ := h
  rw [e] at e'
  obtain rfl : vs = vs' := by cases e'; rfl
  exact Pd.len p
theorem tseq_join {t u : L2.TS} {D : Ends} {σ : L2.St} {H : Hp} (h : ∀ C : L2.St → Hp → Prop, C = u D → t { D with nx := C } σ H) : tSeq t u D σ H := h (u D) rfl

def GoodL (n ans : Nat) (l : List (Int × Nat)) : Prop := ∀ p ∈ l, 1 ≤ p.1 ∧ p.1 ≤ 99 ∧ p.2 < n
def GoodR (n r ans : Nat) (ls : List (List (Int × Nat))) : Prop := ∀ l ∈ ls, l.length = ans ∧ GoodL n ans l
def GoodM (n r ans : Nat) (ms : List (List (List (Int × Nat)))) : Prop := ∀ ls ∈ ms, ls.length = r ∧ GoodR n r ans ls
theorem all_snoc {α : Type} {P : α → Prop} {l : List α} {x : α} (h : ∀ y ∈ l, P y) (hx : P x) : ∀ y ∈ l ++ [x], P y := fun y hy => by
  rcases List.mem_append.1 hy with hy | hy
  · exact h y hy
  · have : y = x := by simpa using hy
    rw [this]; exact hx
def sp__law_moves (K : PySem.W.Frag) (mg : Str → Option Value) (T : Txt K mg) : Sp := fun vs H Q _ => ∃ (Tp : Tape) (rows : List Nat) (ans many : Nat), vs = [.ref Tp.t, .str (strOf rows), .int (ans : Nat), .int (many : Nat)] ∧ TapeAt Tp H ∧ 1 ≤ rows.length ∧ rows.length ≤ 2 ∧ 1 ≤ ans ∧ ans ≤ 2 ∧ 1 ≤ many ∧ many ≤ 12 ∧
  ∀ (m : V) (ms : List (List (List (Int × Nat)))) (H' : Hp), TS Tp H H' → RMoves H' m ms → ms.length = many → GoodM many rows.length ans ms → Q m H'
def sp__law_drawn (K : PySem.W.Frag) (mg : Str → Option Value) (T : Txt K mg) : Sp := fun vs H Q _ => ∃ (Tp : Tape) (n : Nat), vs = [.ref Tp.t, .int (n : Nat), .int 2, .int 2] ∧ TapeAt Tp H ∧ 1 ≤ n ∧ n ≤ 12 ∧
  ∀ (Pt : Parts) (v : V) (H' : Hp), TS Tp H H' → PartsAt Pt H' v → Pt.Ok → Q v H'
def sp__law_modular_meter (K : PySem.W.Frag) (mg : Str → Option Value) (T : Txt K mg) : Sp := fun vs H Q _ => ∃ (Tp : Tape) (v : V) (Pt : Parts), vs = [.ref Tp.t, v] ∧ TapeAt Tp H ∧ PartsAt Pt H v ∧ Pt.Ok ∧
  ∀ (u : V) (W : Meter) (H' : Hp), TS Tp H H' → WMeter H' u W → MeterOk Pt W → Q u H'
section
variable {P : Program} {w : World} {K : PySem.W.Frag} {mg : Str → Option Value} {base : Heap}
theorem ok__law_moves (T : Txt K mg) : FnOk P w K mg base CX0 2 T.d__law_moves.f T.d__law_moves.fd ["_law_tape_here", "_law_rows_here", "_law_answers", "_law_many"] (sp__law_moves K mg T) := by
  have G__law_pick := ok__law_pick (P := P) (w := w) (base := base) T
  refine T.d__law_moves.F.ok sc__law_moves (fun vs H Q E h => ?_) (fun cdv A outer s H vs Q E hr h => ?_)
  · obtain ⟨Tp, rows, ans, many, rfl, tp, hr1, hr2, ha1, ha2, hm1, hm2, k⟩ := h
    rfl
  · obtain ⟨Tp, rows, ans, many, rfl, tp, hr1, hr2, ha1, ha2, hm1, hm2, k⟩ := h
    have hu := hu_of hr
    refine ⟨_, (pss_cons (ps_set (i := 4) sc__law_moves.nd rfl (Or.inl rfl) (pe_call G__law_pick (hr.mono (by decide)) rfl T.d__law_pick.g T.d__law_pick.F.kp T.d__law_pick.b .nil pass0 (pa_cons (pv 0) (pa_cons pe_int pa_nil))))
      (pss_cons (ps_setLc (i := 5) (own := [("_law_k", 6)]) rfl sc__law_moves.nd rfl rfl (sw_true rfl rfl rfl (by decide +kernel)) (pi_range1 (by rfl) T.z_range (pa_cons (pv 3) pa_nil)) (blkOk_by (own := [("_law_k", 6)]) (N := N__law_moves) (sc := defScope s__law_moves) (by decide +kernel)) (fun _ _ _ _ _ => (pg_name (i := 6) sc__law_moves.nd rfl (Or.inl rfl))) (fun _ _ _ _ _ => pts_nil) (fun _ _ _ _ _ => (pe_call G__law_pick (hr.mono (by decide)) rfl T.d__law_pick.g T.d__law_pick.F.kp T.d__law_pick.b .nil pass0 (pa_cons (pv 0) (pa_cons pe_int pa_nil)))))
      (pss_cons (ps_setLc (i := 7) (own := [("_law_row", 8)]) rfl sc__law_moves.nd rfl rfl (sw_true rfl rfl rfl (by decide +kernel)) (pi_str (pv 1)) (blkOk_by (own := [("_law_row", 8)]) (N := N__law_moves) (sc := defScope s__law_moves) (by decide +kernel)) (fun _ _ _ _ _ => (pg_name (i := 8) sc__law_moves.nd rfl (Or.inl rfl))) (fun _ _ _ _ _ => pts_nil) (fun _ _ _ _ _ => (pe_op op_add pe_int (pe_call G__law_pick (hr.mono (by decide)) rfl T.d__law_pick.g T.d__law_pick.F.kp T.d__law_pick.b .nil pass0 (pa_cons (pv 0) (pa_cons pe_int pa_nil))))))
      (pss_cons (ps_set (i := 9) sc__law_moves.nd rfl (Or.inl rfl) (pe_lst pa_nil))
      (pss_cons (ps_for PassesOwn.never rfl (pi_range1 (by rfl) T.z_range (pa_cons (pv 3) pa_nil)) (pg_name (i := 6) sc__law_moves.nd rfl (Or.inl rfl))
       (pss_cons (ps_set (i := 10) sc__law_moves.nd rfl (Or.inl rfl) (pe_lst pa_nil))
        (pss_cons (ps_for PassesOwn.never rfl (pi_range1 (by rfl) T.z_range (pa_cons (pe_callB (id := "len") call_len_str (by rfl) T.z_len (by decide +kernel) (pa_cons (pv 1) pa_nil)) pa_nil)) (pg_name (i := 11) sc__law_moves.nd rfl (Or.inl rfl))
         (pss_cons (ps_set (i := 12) sc__law_moves.nd rfl (Or.inl rfl) (pe_lst pa_nil))
          (pss_cons (ps_for PassesOwn.never rfl (pi_range1 (by rfl) T.z_range (pa_cons (pv 2) pa_nil)) (pg_name (i := 13) sc__law_moves.nd rfl (Or.inl rfl))
           (pss_cons (ps_set (i := 14) sc__law_moves.nd rfl (Or.inl rfl) (pe_call G__law_pick (hr.mono (by decide)) rfl T.d__law_pick.g T.d__law_pick.F.kp T.d__law_pick.b .nil pass0 (pa_cons (pv 0) (pa_cons (pv 3) pa_nil))))
            (pss_cons (ps_if (pt_cmpR op_eq (pv 4) pe_int (nomark _))
             (pss_one (ps_set (i := 14) sc__law_moves.nd rfl (Or.inl rfl) (pe_op op_mod (pe_callTy (T := "int") call_int1 (by rfl) T.z_int (by decide +kernel) (pa_cons (pv 11) pa_nil)) (pv 3))))
             pss_nil)
            (pss_cons (ps_set (i := 15) sc__law_moves.nd rfl (Or.inl rfl) (pe_op op_add pe_int (pe_call G__law_pick (hr.mono (by decide)) rfl T.d__law_pick.g T.d__law_pick.F.kp T.d__law_pick.b .nil pass0 (pa_cons (pv 0) (pa_cons pe_int pa_nil)))))
            (pss_cons (ps_if (PW.pt (pw_or (pt_cmpR op_eq (pv 4) pe_int (nomark _)) (pw_or1 (PW.pt (pw_and (pt_cmpR op_eq (pv 4) pe_int (nomark _)) (pw_and1 (pt_cmpR op_gt (pe_call G__law_pick (hr.mono (by decide)) rfl T.d__law_pick.g T.d__law_pick.F.kp T.d__law_pick.b .nil pass0 (pa_cons (pv 0) (pa_cons pe_int pa_nil))) pe_int (nomark _))))))))
             (pss_one (ps_set (i := 15) sc__law_moves.nd rfl (Or.inl rfl) (pe_op op_sub (pe_op op_add (pe_ix ix_list (pv 7) (pv 11) (fun _ _ => rfl)) (pe_ix ix_list (pv 5) (pv 14) (fun _ _ => rfl))) (pe_ix ix_list (pv 5) (pv 6) (fun _ _ => rfl)))))
             pss_nil)
            (pss_one (ps_expr (pe_bm PySem.F.plainAttrs_list PySem.F.slot_list_append PySem.F.type_list_append mt_append (pv 12) (pa_cons (pe_tup (pa_cons (pv 15) (pa_cons (pv 14) pa_nil))) pa_nil)))))))))
          (pss_one (ps_expr (pe_bm PySem.F.plainAttrs_list PySem.F.slot_list_append PySem.F.type_list_append mt_append (pv 10) (pa_cons (pe_callTy (T := "tuple") call_tuple_of (by rfl) T.z_tuple (by decide +kernel) (pa_cons (pv 12) pa_nil)) pa_nil)))))))
        (pss_one (ps_expr (pe_bm PySem.F.plainAttrs_list PySem.F.slot_list_append PySem.F.type_list_append mt_append (pv 9) (pa_cons (pe_callTy (T := "tuple") call_tuple_of (by rfl) T.z_tuple (by decide +kernel) (pa_cons (pv 10) pa_nil)) pa_nil)))))))
      (pss_one (ps_ret (pe_callTy (T := "tuple") call_tuple_of (by rfl) T.z_tuple (by decide +kernel) (pa_cons (pv 9) pa_nil))))))))), ?_⟩
    refine ⟨_, rfl, Tp, 4, rfl, tp, by decide, by decide, fun kd H1 hkd t1 => ?_⟩
    -- heights
    refine ⟨_, rfl, _, rfl, by omega, by omega, fun ah nah => lc_range (lo := 0) (n := many) (fun i H' => TS Tp H H' ∧ ∃ hs : List Int, hs.length = i ∧ (∀ h ∈ hs, 0 ≤ h ∧ h ≤ 3) ∧ OL RInt H H' ah hs) ⟨t1.alloc nah, [], rfl, by simp, OL.new _ (t1.free nah)⟩ ?_ ?_⟩
    · rintro i H2 hi ⟨t2, hs, hl, hb, hh⟩
      refine ⟨rfl, ?_⟩
      refine ⟨_, rfl, Tp, 4, rfl, t2.at1, by decide, by decide, fun h H3 hlt t3 => ?_⟩
      have hh3 := hh.ts RInt.mono t2 t3
      obtain ⟨nh, vs, e, p⟩ := id hh3
      exact ⟨vs, e, small1000 (by rw [Pd.len p]; omega), (t2.trans t3).write nh, hs ++ [(h : Int)], by simp [hl], all_snoc hb (by omega), hh3.pushI e _⟩
    rintro H2 ⟨t2, hs, hhl, hhb, hh2⟩
    -- prices
    refine ⟨_, rfl, _, rfl, fun ap nap => lc_it (walk_str (z := strOf rows)) (fun i H' => TS Tp H H' ∧ OL RInt H H' ah hs ∧ ∃ ps : List Int, ps.length = i ∧ (∀ h ∈ ps, 4 ≤ h ∧ h ≤ 8) ∧ OL RInt H H' ap ps) ⟨t2.alloc nap, hh2.alloc RInt.mono nap, [], rfl, by simp, OL.new _ (t2.free nap)⟩ (fun _ _ _ _ => trivial) ?_ ?_⟩
    · rintro i y _ H3 hi ⟨t3, hh3, ps, hl, hb, hp3⟩ ⟨rfl, c, hc, rfl⟩
      have nap' := hh2.ne nap
      refine ⟨rfl, ?_⟩
      refine ⟨_, rfl, Tp, 5, rfl, t3.at1, by decide, by decide, fun h H4 hlt t4 => ⟨_, _, rfl, rfl, ?_⟩⟩
      have hh4 := hh3.ts RInt.mono t3 t4
      have hp4 := hp3.ts RInt.mono t3 t4
      obtain ⟨nh, vs, e, p⟩ := id hp4
      have hi' : i < rows.length := by simpa [strOf] using hi
      exact ⟨vs, e, small1000 (by rw [Pd.len p]; omega), (t3.trans t4).write nh, hh4.wr RInt.mono nap' e, ps ++ [4 + (h : Int)], by simp [hl], all_snoc hb (by omega), hp4.pushI e _⟩
    rintro H3 ⟨t3, hh3, ps, hpl, hpb, hp3⟩
    have hpl' : ps.length = rows.length := by simpa [strOf] using hpl
    -- moves_here = []
    refine ⟨(by show 0 ≤ sizeLine; decide), fun aM naM => ?_⟩
    have neh := hh3.ne naM
    have nep := hp3.ne naM
    refine ⟨_, rfl, _, rfl, by omega, by omega, for_range (n := many) (fun i σ H' => TS Tp H H' ∧ OL RInt H H' ah hs ∧ OL RInt H H' ap ps ∧ (∃ ms, ms.length = i ∧ GoodM many rows.length ans ms ∧ OL RRows H H' aM ms) ∧
      ∃ (v6 v8 v10 v11 v12 v13 v14 v15 : Option V), σ = [some (.ref Tp.t), some (.str (strOf rows)), some (.int (ans : Nat)), some (.int (many : Nat)), some (.int (kd : Nat)), some (.ref ah), v6, some (.ref ap), v8, some (.ref aM), v10, v11, v12, v13, v14, v15])
      ⟨t3.alloc naM, hh3.alloc RInt.mono naM, hp3.alloc RInt.mono naM, ⟨[], rfl, (fun _ h => by cases h), OL.new _ (t3.free naM)⟩, _, _, _, _, _, _, _, _, rfl⟩ ?_ ?_⟩
    · rintro i σ H4 hi ⟨t4, hh4, hp4, ⟨ms, hml, hmg, hM4⟩, v6, v8, v10, v11, v12, v13, v14, v15, rfl⟩
      -- lines = []
      refine ⟨(by show 0 ≤ sizeLine; decide), fun aL naL => ?_⟩
      have neh2 := hh4.ne naL
      have nep2 := hp4.ne naL
      have neM2 := hM4.ne naL
      refine ⟨_, rfl, _, rfl, ?_, _, rfl, ?_, ?_, ?_⟩
      · rw [strOf_len]; exact Nat.le_trans hr2 (by decide)
      · rw [strOf_len]; omega
      · rw [strOf_len]; omega
      rw [strOf_len]
      refine for_range (n := rows.length) (fun j σ H' => TS Tp H H' ∧ OL RInt H H' ah hs ∧ OL RInt H H' ap ps ∧ OL RRows H H' aM ms ∧ (∃ ls, ls.length = j ∧ GoodR many rows.length ans ls ∧ OL RLine H H' aL ls) ∧
        ∃ (v8 v11 v12 v13 v14 v15 : Option V), σ = [some (.ref Tp.t), some (.str (strOf rows)), some (.int (ans : Nat)), some (.int (many : Nat)), some (.int (kd : Nat)), some (.ref ah), some (.int (0 + (i : Nat))), some (.ref ap), v8, some (.ref aM), some (.ref aL), v11, v12, v13, v14, v15])
        ⟨t4.alloc naL, hh4.alloc RInt.mono naL, hp4.alloc RInt.mono naL, hM4.alloc RRows.mono naL, ⟨[], rfl, (fun _ h => by cases h), OL.new _ (t4.free naL)⟩, _, _, _, _, _, _, rfl⟩ ?_ ?_
      · rintro j σ H5 hj ⟨t5, hh5, hp5, hM5, ⟨ls, hll, hlg, hL5⟩, w8, w11, w12, w13, w14, w15, rfl⟩
        -- line = []
        refine ⟨(by show 0 ≤ sizeLine; decide), fun al nal => ?_⟩
        have neh3 := hh5.ne nal
        have nep3 := hp5.ne nal
        have neM3 := hM5.ne nal
        have neL3 := hL5.ne nal
        refine ⟨_, rfl, _, rfl, by omega, by omega, for_range (n := ans) (fun n σ H' => TS Tp H H' ∧ OL RInt H H' ah hs ∧ OL RInt H H' ap ps ∧ OL RRows H H' aM ms ∧ OL RLine H H' aL ls ∧ (∃ l, l.length = n ∧ GoodL many ans l ∧ OL RMove H H' al l) ∧
          ∃ (v8 v13 v14 v15 : Option V), σ = [some (.ref Tp.t), some (.str (strOf rows)), some (.int (ans : Nat)), some (.int (many : Nat)), some (.int (kd : Nat)), some (.ref ah), some (.int (0 + (i : Nat))), some (.ref ap), v8, some (.ref aM), some (.ref aL), some (.int (0 + (j : Nat))), some (.ref al), v13, v14, v15])
          ⟨t5.alloc nal, hh5.alloc RInt.mono nal, hp5.alloc RInt.mono nal, hM5.alloc RRows.mono nal, hL5.alloc RLine.mono nal, ⟨[], rfl, (fun _ h => by cases h), OL.new _ (t5.free nal)⟩, _, _, _, _, rfl⟩ ?_ ?_⟩
        · rintro n σ H6 hn ⟨t6, hh6, hp6, hM6, hL6, ⟨l, hl, hg, hl6⟩, x8, x13, x14, x15, rfl⟩
          -- goal = pick(many)
          refine ⟨_, rfl, _, rfl, Tp, many, rfl, t6.at1, hm1, by omega, fun g0 H7 hg0 t7 => ?_⟩
          have t67 := t6.trans t7
          dsimp only [gName]
          refine tseq_join fun C hC => ?_
          have R1 : ∀ g : Nat, g < many → C [some (.ref Tp.t), some (.str (strOf rows)), some (.int (ans : Nat)), some (.int (many : Nat)), some (.int (kd : Nat)), some (.ref ah), some (.int (0 + (i : Nat))), some (.ref ap), x8, some (.ref aM), some (.ref aL), some (.int (0 + (j : Nat))), some (.ref al), some (.int (0 + (n : Nat))), some (.int (g : Nat)), x15] H7 := by
            intro g hgm
            rw [hC]
            -- ticks = 1 + pick(4)
            refine ⟨_, rfl, Tp, 4, rfl, t67.at1, by decide, by decide, fun tk H8 htk t8 => ⟨_, _, rfl, rfl, ?_⟩⟩
            have t68 := t67.trans t8
            dsimp only [gName]
            refine tseq_join fun C2 hC2 => ?_
            have R2 : ∀ (tk : Int) (H9 : Hp), 1 ≤ tk → tk ≤ 99 → TS Tp H6 H9 → C2 [some (.ref Tp.t), some (.str (strOf rows)), some (.int (ans : Nat)), some (.int (many : Nat)), some (.int (kd : Nat)), some (.ref ah), some (.int (0 + (i : Nat))), some (.ref ap), x8, some (.ref aM), some (.ref aL), some (.int (0 + (j : Nat))), some (.ref al), some (.int (0 + (n : Nat))), some (.int (g : Nat)), some (.int tk)] H9 := by
              intro tk H9 b1 b2 t9
              rw [hC2]
              have hl9 := hl6.ts RMove.mono t6 t9
              obtain ⟨nl0, vs, e, p⟩ := id hl9
              refine ⟨_, rfl, .inl ⟨rfl, _, SqL.of e⟩, _, rfl, _, rfl, (by show 2 ≤ sizeLine; decide), fun q hq => ⟨al, _, _, rfl, rfl, (Same.alloc hq) _ _ e, small1000 (by rw [Pd.len p]; omega), ?_⟩⟩
              have e' := (Same.alloc (o := .tup [.int tk, .int (g : Nat)]) hq) _ _ e
              have t9' := t6.trans t9
              exact ⟨(t9'.alloc hq).write nl0, ((hh6.ts RInt.mono t6 t9).alloc RInt.mono hq).wr RInt.mono neh3 e', ((hp6.ts RInt.mono t6 t9).alloc RInt.mono hq).wr RInt.mono nep3 e', ((hM6.ts RRows.mono t6 t9).alloc RRows.mono hq).wr RRows.mono neM3 e',
                ((hL6.ts RLine.mono t6 t9).alloc RLine.mono hq).wr RLine.mono neL3 e', ⟨l ++ [(tk, g)], by simp [hl], all_snoc hg ⟨b1, b2, hgm⟩, hl9.pushT RMove.mono e hq fun H2 _ z => ⟨q, rfl, z⟩⟩, _, _, _, _, rfl⟩
            -- the price and the heights
            have PR : ∀ H9 : Hp, TS Tp H6 H9 → ∃ (vp vh : List V) (p h1 h2 : Int), SqL K H9 ap vp ∧ atI vp (0 + ((j : Nat) : Int)) = some (.int p) ∧ SqL K H9 ah vh ∧ atI vh ((g : Nat) : Int) = some (.int h1) ∧ atI vh (0 + ((i : Nat) : Int)) = some (.int h2) ∧ 1 ≤ p + h1 - h2 ∧ p + h1 - h2 ≤ 99 := by
              intro H9 t9
              have ej : ps[j]? = some ps[j] := List.getElem?_eq_getElem (by omega)
              have eg : hs[g]? = some hs[g] := List.getElem?_eq_getElem (by omega)
              have ei : hs[i]? = some hs[i] := List.getElem?_eq_getElem (by omega)
              obtain ⟨vp, u1, q1, q2, rfl⟩ := (hp6.ts RInt.mono t6 t9).get (K := K) ej
              obtain ⟨n0, vh, e, pd⟩ := hh6.ts RInt.mono t6 t9
              obtain ⟨u2, g2, rfl⟩ := Pd.get pd eg
              obtain ⟨u3, g3, rfl⟩ := Pd.get pd ei
              have c1 := hpb _ (mem_of ej)
              have c2 := hhb _ (mem_of eg)
              have c3 := hhb _ (mem_of ei)
              exact ⟨vp, vh, _, _, _, q1, by rw [Int.zero_add]; exact q2, SqL.of e, atI_nat g2, by rw [Int.zero_add]; exact atI_nat g3, by omega, by omega⟩
            refine ⟨_, rfl, rfl, _, rfl, ite2 (fun h => ?_) (fun h => ?_)⟩
            · obtain ⟨vp, vh, p, h1, h2, q1, q2, q3, q4, q5, b1, b2⟩ := PR H8 (t7.trans t8)
              refine ⟨_, rfl, _, rfl, _, _, _, _, rfl, rfl, q1, q2, _, rfl, _, rfl, _, _, _, _, rfl, rfl, q3, q4, _, _, rfl, rfl, _, rfl, _, rfl, _, _, _, _, rfl, rfl, q3, q5, _, _, rfl, rfl, ?_⟩
              exact R2 _ H8 b1 b2 (t7.trans t8)
            · refine ⟨_, rfl, rfl, _, rfl, ite2 (fun h2 => ?_) (fun h2 => ?_)⟩
              · refine ⟨_, rfl, Tp, 6, rfl, t68.at1, by decide, by decide, fun z H9 hz t9 => ⟨_, _, rfl, rfl, _, rfl, ite2 (fun h3 => ?_) (fun h3 => ?_)⟩⟩
                · obtain ⟨vp, vh, p, h1, h2, q1, q2, q3, q4, q5, b1, b2⟩ := PR H9 ((t7.trans t8).trans t9)
                  refine ⟨_, rfl, _, rfl, _, _, _, _, rfl, rfl, q1, q2, _, rfl, _, rfl, _, _, _, _, rfl, rfl, q3, q4, _, _, rfl, rfl, _, rfl, _, rfl, _, _, _, _, rfl, rfl, q3, q5, _, _, rfl, rfl, ?_⟩
                  exact R2 _ H9 b1 b2 ((t7.trans t8).trans t9)
                · exact R2 (1 + (tk : Int)) H9 (by omega) (by omega) ((t7.trans t8).trans t9)
              · exact R2 (1 + (tk : Int)) H8 (by omega) (by omega) (t7.trans t8)
          refine ⟨_, rfl, rfl, _, rfl, ite2 (fun h => ?_) (fun h => ?_)⟩
          · refine ⟨_, rfl, .inl ⟨_, rfl, _, rfl, _, _, rfl, rfl, (show (0 : Int) < (many : Nat) by omega), ?_⟩⟩
            have q := R1 (j % many) (Nat.mod_lt _ (by omega))
            have e : ((j % many : Nat) : Int) = (0 + ((j : Nat) : Int)) % ((many : Nat) : Int) := by rw [Int.zero_add]; rfl
            rw [e] at q
            exact q
          · exact R1 g0 hg0
        · rintro σ H6 ⟨t6, hh6, hp6, hM6, hL6, ⟨l, hl, hg, hl6⟩, x8, x13, x14, x15, rfl⟩
          -- lines.append(tuple(line))
          obtain ⟨nL0, vsL, eL, pL⟩ := id hL6
          obtain ⟨nl0, vsl, el, pl⟩ := id hl6
          refine ⟨_, rfl, .inl ⟨rfl, _, SqL.of eL⟩, _, rfl, al, vsl, rfl, .inl ⟨SqL.of el, fun q hq => ⟨aL, _, _, rfl, rfl, (Same.alloc hq) _ _ eL, small1000 (by rw [Pd.len pL]; omega), ?_⟩⟩⟩
          have e' := (Same.alloc (o := .tup vsl) hq) _ _ eL
          exact ⟨(t6.alloc hq).write nL0, (hh6.alloc RInt.mono hq).wr RInt.mono neh2 e', (hp6.alloc RInt.mono hq).wr RInt.mono nep2 e', (hM6.alloc RRows.mono hq).wr RRows.mono neM2 e',
            ⟨ls ++ [l], by simp [hll], all_snoc hlg ⟨hl, hg⟩, hL6.pushT RLine.mono eL hq fun H2 tx z => ⟨q, vsl, rfl, z, Pd.tx RMove.mono tx pl⟩⟩, _, _, _, _, _, _, rfl⟩
      · rintro σ H5 ⟨t5, hh5, hp5, hM5, ⟨ls, hll, hlg, hL5⟩, w8, w11, w12, w13, w14, w15, rfl⟩
        -- moves_here.append(tuple(lines))
        obtain ⟨nM0, vsM, eM, pM⟩ := id hM5
        obtain ⟨nL0, vsL, eL, pL⟩ := id hL5
        refine ⟨_, rfl, .inl ⟨rfl, _, SqL.of eM⟩, _, rfl, aL, vsL, rfl, .inl ⟨SqL.of eL, fun q hq => ⟨aM, _, _, rfl, rfl, (Same.alloc hq) _ _ eM, small1000 (by rw [Pd.len pM]; omega), ?_⟩⟩⟩
        have e' := (Same.alloc (o := .tup vsL) hq) _ _ eM
        exact ⟨(t5.alloc hq).write nM0, (hh5.alloc RInt.mono hq).wr RInt.mono neh e', (hp5.alloc RInt.mono hq).wr RInt.mono nep e',
          ⟨ms ++ [ls], by simp [hml], all_snoc hmg ⟨hll, hlg⟩, hM5.pushT RRows.mono eM hq fun H2 tx z => ⟨q, vsL, rfl, z, Pd.tx RLine.mono tx pL⟩⟩, _, _, _, _, _, _, _, _, rfl⟩
    · rintro σ H4 ⟨t4, hh4, hp4, ⟨ms, hml, hmg, hM4⟩, v6, v8, v10, v11, v12, v13, v14, v15, rfl⟩
      obtain ⟨nM0, vsM, eM, pM⟩ := id hM4
      refine ⟨_, rfl, aM, vsM, rfl, .inl ⟨SqL.of eM, fun q hq => ?_⟩⟩
      exact k (.ref q) ms _ (t4.alloc hq) ⟨q, vsM, rfl, upd_same, Pd.tx RRows.mono (tx_alloc hq) pM⟩ hml hmg
theorem ok__law_drawn (T : Txt K mg) : FnOk P w K mg base CX0 3 T.d__law_drawn.f T.d__law_drawn.fd ["_law_tape_here", "_law_most_standings", "_law_most_rows", "_law_most_answers"] (sp__law_drawn K mg T) := by
  have G__law_moves := ok__law_moves (P := P) (w := w) (base := base) T
  have G__law_pick := ok__law_pick (P := P) (w := w) (base := base) T
  have G__law_rows := ok__law_rows (P := P) (w := w) (base := base) T
  refine T.d__law_drawn.F.ok sc__law_drawn (fun vs H Q E h => ?_) (fun cdv A outer s H vs Q E hr h => ?_)
  · obtain ⟨Tp, n, rfl, tp, hn1, hn2, k⟩ := h
    rfl
  · obtain ⟨Tp, n, rfl, tp, hn1, hn2, k⟩ := h
    have hu := hu_of hr
    refine ⟨_, (pss_cons (ps_set (i := 4) sc__law_drawn.nd rfl (Or.inl rfl) (pe_call G__law_rows (hr.mono (by decide)) rfl T.d__law_rows.g T.d__law_rows.F.kp T.d__law_rows.b .nil pass0 (pa_cons (pv 0) (pa_cons (pv 2) pa_nil))))
      (pss_cons (ps_set (i := 5) sc__law_drawn.nd rfl (Or.inl rfl) (pe_op op_add pe_int (pe_call G__law_pick (hr.mono (by decide)) rfl T.d__law_pick.g T.d__law_pick.F.kp T.d__law_pick.b .nil pass0 (pa_cons (pv 0) (pa_cons (pv 3) pa_nil)))))
      (pss_cons (ps_set (i := 6) sc__law_drawn.nd rfl (Or.inl rfl) (pe_op op_add pe_int (pe_call G__law_pick (hr.mono (by decide)) rfl T.d__law_pick.g T.d__law_pick.F.kp T.d__law_pick.b .nil pass0 (pa_cons (pv 0) (pa_cons (pv 1) pa_nil)))))
      (pss_one (ps_ret (pe_tup (pa_cons (pv 4) (pa_cons (pv 5) (pa_cons (pe_call G__law_moves (hr.mono (by decide)) rfl T.d__law_moves.g T.d__law_moves.F.kp T.d__law_moves.b .nil pass0 (pa_cons (pv 0) (pa_cons (pv 4) (pa_cons (pv 5) (pa_cons (pv 6) pa_nil))))) pa_nil))))))))), ?_⟩
    refine ⟨_, rfl, _, rfl, Tp, rfl, tp, fun l H1 t1 l1 l2 lo as => ?_⟩
    refine ⟨_, rfl, _, rfl, Tp, 2, rfl, t1.at1, by decide, by decide, fun a H2 ha t2 => ⟨_, _, rfl, rfl, ?_⟩⟩
    have t12 := t1.trans t2
    refine ⟨_, rfl, _, rfl, Tp, n, rfl, t12.at1, hn1, by omega, fun m H3 hm t3 => ⟨_, _, rfl, rfl, ?_⟩⟩
    have t13 := t12.trans t3
    refine ⟨_, rfl, _, rfl, _, rfl, _, rfl, _, rfl, _, rfl, Tp, l, 1 + a, 1 + m, rfl, t13.at1, l1, l2, by omega, by omega, by omega, by omega, fun u ms H4 t4 hu hl hg => ⟨(by show 3 ≤ sizeLine; decide), fun q hq => ?_⟩⟩
    refine k ⟨l, 1 + a, ms⟩ (.ref q) _ ((t13.trans t4).alloc hq) ⟨q, u, rfl, upd_same, RMoves.mono _ _ _ _ (tx_alloc hq) hu⟩ ⟨l1, l2, lo, as, by show 1 ≤ 1 + a; omega, by show 1 + a ≤ 2; omega, by show 1 ≤ ms.length; omega, by show ms.length ≤ 12; omega, fun ls hls => ?_⟩
    obtain ⟨c1, c2⟩ := hg ls hls
    refine ⟨c1, fun l' hl' => ?_⟩
    obtain ⟨c3, c4⟩ := c2 l' hl'
    exact ⟨c3, fun p hp => by
      obtain ⟨d1, d2, d3⟩ := c4 p hp
      exact ⟨d1, d2, by show p.2 < ms.length; omega⟩⟩
theorem ok__law_modular_meter (T : Txt K mg) : FnOk P w K mg base CX0 2 T.d__law_modular_meter.f T.d__law_modular_meter.fd ["_law_tape_here", "_law_parts"] (sp__law_modular_meter K mg T) := by
  have G__law_pick := ok__law_pick (P := P) (w := w) (base := base) T
  refine T.d__law_modular_meter.F.ok sc__law_modular_meter (fun vs H Q E h => ?_) (fun cdv A outer s H vs Q E hr h => ?_)
  · obtain ⟨Tp, v, Pt, rfl, tp, hv, ok, k⟩ := h
    rfl
  · obtain ⟨Tp, v, Pt, rfl, tp, hv, ok, k⟩ := h
    have hu := hu_of hr
    refine ⟨_, (pss_cons (ps_set (i := 2) sc__law_modular_meter.nd rfl (Or.inl rfl) (pe_callB (id := "len") call_len_seq (by rfl) T.z_len (by decide +kernel) (pa_cons (pe_ix ix_tup (pv 1) pe_int (fun _ _ => rfl)) pa_nil)))
      (pss_cons (ps_set (i := 3) sc__law_modular_meter.nd rfl (Or.inl rfl) (pe_ix ix_list (pe_lst (pa_cons pe_int (pa_cons pe_int (pa_cons pe_int (pa_cons pe_int (pa_cons pe_int (pa_cons pe_int (pa_cons pe_int pa_nil)))))))) (pe_call G__law_pick (hr.mono (by decide)) rfl T.d__law_pick.g T.d__law_pick.F.kp T.d__law_pick.b .nil pass0 (pa_cons (pv 0) (pa_cons pe_int pa_nil))) (fun _ _ => rfl)))
      (pss_cons (ps_setLc (i := 4) (own := [("_law_k", 5)]) rfl sc__law_modular_meter.nd rfl rfl (sw_true rfl rfl rfl (by decide +kernel)) (pi_range1 (by rfl) T.z_range (pa_cons (pv 2) pa_nil)) (blkOk_by (own := [("_law_k", 5)]) (N := N__law_modular_meter) (sc := defScope s__law_modular_meter) (by decide +kernel)) (fun _ _ _ _ _ => (pg_name (i := 5) sc__law_modular_meter.nd rfl (Or.inl rfl))) (fun _ _ _ _ _ => pts_nil) (fun _ _ _ _ _ => (pe_call G__law_pick (hr.mono (by decide)) rfl T.d__law_pick.g T.d__law_pick.F.kp T.d__law_pick.b .nil pass0 (pa_cons (pv 0) (pa_cons pe_int pa_nil)))))
      (pss_cons (ps_set (i := 6) sc__law_modular_meter.nd rfl (Or.inl rfl) (pe_lst pa_nil))
      (pss_cons (ps_for PassesOwn.never rfl (pi_range1 (by rfl) T.z_range (pa_cons (pv 2) pa_nil)) (pg_name (i := 5) sc__law_modular_meter.nd rfl (Or.inl rfl))
       (pss_cons (ps_set (i := 7) sc__law_modular_meter.nd rfl (Or.inl rfl) (pe_lst pa_nil))
        (pss_cons (ps_for PassesOwn.never rfl (pi_tup (pe_ix ix_tup (pe_ix ix_tup (pv 1) pe_int (fun _ _ => rfl)) (pv 5) (fun _ _ => rfl))) (pg_name (i := 8) sc__law_modular_meter.nd rfl (Or.inl rfl))
         (pss_cons (ps_set (i := 9) sc__law_modular_meter.nd rfl (Or.inl rfl) (pe_lst pa_nil))
          (pss_cons (ps_for PassesOwn.never rfl (pi_tup (pv 8)) (pg_tup rfl (pgs_cons (pg_name (i := 10) sc__law_modular_meter.nd rfl (Or.inl rfl)) (pgs_cons (pg_name (i := 11) sc__law_modular_meter.nd rfl (Or.inl rfl)) pgs_nil)))
           (pss_cons (ps_set (i := 12) sc__law_modular_meter.nd rfl (Or.inl rfl) (pe_op op_add (pe_op op_sub (pe_ix ix_list (pv 4) (pv 11) (fun _ _ => rfl)) (pe_ix ix_list (pv 4) (pv 5) (fun _ _ => rfl))) (pe_op op_mul (pv 3) (pe_op op_sub (pe_call G__law_pick (hr.mono (by decide)) rfl T.d__law_pick.g T.d__law_pick.F.kp T.d__law_pick.b .nil pass0 (pa_cons (pv 0) (pa_cons pe_int pa_nil))) pe_int))))
            (pss_cons (ps_if (pt_cmpR op_eq (pe_call G__law_pick (hr.mono (by decide)) rfl T.d__law_pick.g T.d__law_pick.F.kp T.d__law_pick.b .nil pass0 (pa_cons (pv 0) (pa_cons pe_int pa_nil))) pe_int (nomark _))
             (pss_one (ps_set (i := 12) sc__law_modular_meter.nd rfl (Or.inl rfl) (pe_op op_sub (pe_call G__law_pick (hr.mono (by decide)) rfl T.d__law_pick.g T.d__law_pick.F.kp T.d__law_pick.b .nil pass0 (pa_cons (pv 0) (pa_cons pe_int pa_nil))) pe_int)))
             pss_nil)
            (pss_one (ps_expr (pe_bm PySem.F.plainAttrs_list PySem.F.slot_list_append PySem.F.type_list_append mt_append (pv 9) (pa_cons (pv 12) pa_nil)))))))
          (pss_one (ps_expr (pe_bm PySem.F.plainAttrs_list PySem.F.slot_list_append PySem.F.type_list_append mt_append (pv 7) (pa_cons (pe_callTy (T := "tuple") call_tuple_of (by rfl) T.z_tuple (by decide +kernel) (pa_cons (pv 9) pa_nil)) pa_nil)))))))
        (pss_one (ps_expr (pe_bm PySem.F.plainAttrs_list PySem.F.slot_list_append PySem.F.type_list_append mt_append (pv 6) (pa_cons (pe_callTy (T := "tuple") call_tuple_of (by rfl) T.z_tuple (by decide +kernel) (pa_cons (pv 7) pa_nil)) pa_nil)))))))
      (pss_one (ps_ret (pe_callTy (T := "tuple") call_tuple_of (by rfl) T.z_tuple (by decide +kernel) (pa_cons (pv 6) pa_nil))))))))), ?_⟩
    obtain ⟨a, m, rfl, ha, am, um, rfl, ham, hpm⟩ := hv
    have hml : um.length = Pt.moves.length := Pd.len hpm
    have hm1 := ok.m1
    have hm2 := ok.m2
    have hr2 := ok.r2
    have ha2 := ok.a2
    refine ⟨_, rfl, _, _, _, _, rfl, rfl, SqT.of ha, rfl, _, _, rfl, .inr (SqT.of ham), ?_⟩
    refine ⟨(by show 7 ≤ sizeLine; decide), fun lq nlq => ⟨_, rfl, Tp, 7, rfl, tp.same (Same.alloc nlq), by decide, by decide, fun kk H1 hkk t1' => ?_⟩⟩
    have t0 : TS Tp H (upd H lq (.lst [.int 0, .int 1, .int 2, .int 3, .int 4, .int 6, .int 12])) := (TS.refl tp).alloc nlq
    have hl1 := t0.own t1' nlq upd_same
    have t1 := t0.trans t1'
    obtain ⟨num, hn0, hn1, hat⟩ : ∃ num : Int, 0 ≤ num ∧ num ≤ 12 ∧ ([.int 0, .int 1, .int 2, .int 3, .int 4, .int 6, .int 12] : List V)[kk]? = some (.int num) := by
      match kk, hkk with
      | 0, _ => exact ⟨0, by decide, by decide, rfl⟩
      | 1, _ => exact ⟨1, by decide, by decide, rfl⟩
      | 2, _ => exact ⟨2, by decide, by decide, rfl⟩
      | 3, _ => exact ⟨3, by decide, by decide, rfl⟩
      | 4, _ => exact ⟨4, by decide, by decide, rfl⟩
      | 5, _ => exact ⟨6, by decide, by decide, rfl⟩
      | 6, _ => exact ⟨12, by decide, by decide, rfl⟩
    refine ⟨lq, _, _, _, rfl, rfl, SqL.of hl1, atI_nat hat, ?_⟩
    -- heights
    refine ⟨_, rfl, _, rfl, by omega, by omega, fun ah nah => lc_range (lo := 0) (n := um.length) (fun i H' => TS Tp H H' ∧ ∃ hs : List Int, hs.length = i ∧ (∀ h ∈ hs, 0 ≤ h ∧ h ≤ 12) ∧ OL RInt H H' ah hs) ⟨t1.alloc nah, [], rfl, by simp, OL.new _ (t1.free nah)⟩ ?_ ?_⟩
    · rintro i H2 hi ⟨t2, hs, hl, hb, hh⟩
      refine ⟨rfl, ?_⟩
      refine ⟨_, rfl, Tp, 13, rfl, t2.at1, by decide, by decide, fun h H3 hlt t3 => ?_⟩
      have hh3 := hh.ts RInt.mono t2 t3
      obtain ⟨nh, vs, e, p⟩ := id hh3
      exact ⟨vs, e, small1000 (by rw [Pd.len p]; omega), (t2.trans t3).write nh, hs ++ [(h : Int)], by simp [hl], all_snoc hb (by omega), hh3.pushI e _⟩
    rintro H2 ⟨t2, hs, hhl, hhb, hh2⟩
    -- found = []
    refine ⟨(by show 0 ≤ sizeLine; decide), fun aF naF => ?_⟩
    have neh := hh2.ne naF
    refine ⟨_, rfl, _, rfl, by omega, by omega, for_range (n := um.length) (fun i σ H' => TS Tp H H' ∧ OL RInt H H' ah hs ∧ (∃ ws : Meter, ws.length = i ∧ (∀ ls ∈ ws, ls.length = Pt.rows.length ∧ ∀ l ∈ ls, l.length = Pt.ans ∧ ∀ x ∈ l, -99 ≤ x ∧ x ≤ 99) ∧ OL WRows H H' aF ws) ∧
      ∃ (v5 v7 v8 v9 v10 v11 v12 : Option V), σ = [some (.ref Tp.t), some (.ref a), some (.int (um.length : Nat)), some (.int num), some (.ref ah), v5, some (.ref aF), v7, v8, v9, v10, v11, v12])
      ⟨t2.alloc naF, hh2.alloc RInt.mono naF, ⟨[], rfl, (fun _ h => by cases h), OL.new _ (t2.free naF)⟩, _, _, _, _, _, _, _, rfl⟩ ?_ ?_⟩
    · rintro i σ H3 hi ⟨t3, hh3, ⟨ws, hwl, hwg, hF3⟩, v5, v7, v8, v9, v10, v11, v12, rfl⟩
      refine ⟨(by show 0 ≤ sizeLine; decide), fun aL naL => ?_⟩
      have neh2 := hh3.ne naL
      have neF2 := hF3.ne naL
      have hur : um[i]? = some um[i] := List.getElem?_eq_getElem hi
      obtain ⟨ms, hms, ar, ur, ear, har, hpr⟩ := Pd.get' hpm hur
      rw [ear] at hur
      obtain ⟨sh1, sh2⟩ := ok.sh ms (mem_of hms)
      have hrl := Pd.len hpr
      have t3a := t3.alloc (o := .lst []) naL
      refine ⟨_, rfl, _, _, _, _, rfl, rfl, SqT.of (t3a.tx _ _ ha), rfl, _, rfl, _, _, _, _, rfl, rfl, SqT.of (t3a.tx _ _ ham), at_of (j := i) (by omega) hur, _, rfl, ⟨_, SqT.of (t3a.tx _ _ har)⟩,
        for_tup (xs := ur) (fun j σ H' => TS Tp H H' ∧ OL RInt H H' ah hs ∧ OL WRows H H' aF ws ∧ (∃ ls : List (List Int), ls.length = j ∧ (∀ l ∈ ls, l.length = Pt.ans ∧ ∀ x ∈ l, -99 ≤ x ∧ x ≤ 99) ∧ OL WLine H H' aL ls) ∧
        ∃ (v8 v9 v10 v11 v12 : Option V), σ = [some (.ref Tp.t), some (.ref a), some (.int (um.length : Nat)), some (.int num), some (.ref ah), some (.int (0 + (i : Nat))), some (.ref aF), some (.ref aL), v8, v9, v10, v11, v12])
        ⟨t3a, hh3.alloc RInt.mono naL, hF3.alloc WRows.mono naL, ⟨[], rfl, (fun _ h => by cases h), OL.new _ (t3.free naL)⟩, _, _, _, _, _, rfl⟩ (fun j σ H' _ h => SqT.of (h.1.tx _ _ har)) ?_ ?_⟩
      · rintro j y σ H4 hy ⟨t4, hh4, hF4, ⟨ls, hll, hlg, hL4⟩, w8, w9, w10, w11, w12, rfl⟩
        obtain ⟨l, hl, al, ul, rfl, hal, hpl⟩ := Pd.get' hpr hy
        obtain ⟨sh3, sh4⟩ := sh2 l (mem_of hl)
        have hjl : j < ur.length := (List.getElem?_eq_some_iff.mp hy).1
        refine ⟨(by show 0 ≤ sizeLine; decide), fun aw naw => ?_⟩
        have neh3 := hh4.ne naw
        have neF3 := hF4.ne naw
        have neL3 := hL4.ne naw
        have t4a := t4.alloc (o := .lst []) naw
        refine ⟨_, rfl, _, rfl, ⟨_, SqT.of (t4a.tx _ _ hal)⟩, for_tup (xs := ul) (fun n σ H' => TS Tp H H' ∧ OL RInt H H' ah hs ∧ OL WRows H H' aF ws ∧ OL WLine H H' aL ls ∧ (∃ l : List Int, l.length = n ∧ (∀ x ∈ l, -99 ≤ x ∧ x ≤ 99) ∧ OL RInt H H' aw l) ∧
          ∃ (v10 v11 v12 : Option V), σ = [some (.ref Tp.t), some (.ref a), some (.int (um.length : Nat)), some (.int num), some (.ref ah), some (.int (0 + (i : Nat))), some (.ref aF), some (.ref aL), some (.ref al), some (.ref aw), v10, v11, v12])
          ⟨t4a, hh4.alloc RInt.mono naw, hF4.alloc WRows.mono naw, hL4.alloc WLine.mono naw, ⟨[], rfl, by simp, OL.new _ (t4.free naw)⟩, _, _, _, rfl⟩ (fun n σ H' _ h => SqT.of (h.1.tx _ _ hal)) ?_ ?_⟩
        · rintro n y σ H5 hy5 ⟨t5, hh5, hF5, hL5, ⟨wl, hwll, hwlg, hw5⟩, x10, x11, x12, rfl⟩
          obtain ⟨p, hp, b, rfl, hb⟩ := Pd.get' hpl hy5
          obtain ⟨_, _, sh5⟩ := sh4 p (mem_of hp)
          have hnl : n < ul.length := (List.getElem?_eq_some_iff.mp hy5).1
          have hull := Pd.len hpl
          refine ⟨b, _, rfl, SqT.of (t5.tx _ _ hb), rfl, _, _, rfl, _, _, rfl, rfl, ?_⟩
          have eg : hs[p.2]? = some hs[p.2] := List.getElem?_eq_getElem (by omega)
          have ei : hs[i]? = some hs[i] := List.getElem?_eq_getElem (by omega)
          have c1 := hhb _ (mem_of eg)
          have c2 := hhb _ (mem_of ei)
          obtain ⟨n0, vh, eh, pdh⟩ := id hh5
          obtain ⟨u2, g2, rfl⟩ := Pd.get pdh eg
          obtain ⟨u3, g3, rfl⟩ := Pd.get pdh ei
          -- worth
          refine ⟨_, rfl, _, rfl, _, _, _, _, rfl, rfl, SqL.of eh, atI_nat g2, _, rfl, _, rfl, _, _, _, _, rfl, rfl, SqL.of eh, at_of (j := i) (by omega) g3, _, _, rfl, rfl, _, rfl, _, rfl, Tp, 5, rfl, t5.at1, by decide, by decide, fun z H6 hz t6 => ⟨_, _, rfl, rfl, _, _, rfl, rfl, .inl ⟨by omega, by omega⟩, _, _, rfl, rfl, ?_⟩⟩
          have t56 := t5.trans t6
          dsimp only [gName]
          refine tseq_join fun C hC => ?_
          have R1 : ∀ (w : Int) (H7 : Hp), -99 ≤ w → w ≤ 99 → TS Tp H5 H7 → C [some (.ref Tp.t), some (.ref a), some (.int (um.length : Nat)), some (.int num), some (.ref ah), some (.int (0 + (i : Nat))), some (.ref aF), some (.ref aL), some (.ref al), some (.ref aw), some (.int p.1), some (.int (p.2 : Nat)), some (.int w)] H7 := by
            intro w H7 b1 b2 t7
            rw [hC]
            have hw7 := hw5.ts RInt.mono t5 t7
            obtain ⟨nw0, vs, e, pd⟩ := id hw7
            refine ⟨_, rfl, .inl ⟨rfl, _, SqL.of e⟩, _, rfl, aw, _, _, rfl, rfl, e, small1000 (by rw [Pd.len pd]; omega), ?_⟩
            exact ⟨(t5.trans t7).write nw0, (hh5.ts RInt.mono t5 t7).wr RInt.mono neh3 e, (hF5.ts WRows.mono t5 t7).wr WRows.mono neF3 e, (hL5.ts WLine.mono t5 t7).wr WLine.mono neL3 e, ⟨wl ++ [w], by simp [hwll], all_snoc hwlg ⟨b1, b2⟩, hw7.pushI e w⟩, _, _, _, rfl⟩
          have hz' : (z : Int) - 2 ≤ 2 ∧ -2 ≤ (z : Int) - 2 := by omega
          have m1 : num * ((z : Int) - 2) ≤ 24 := by
            have := Int.mul_le_mul_of_nonneg_left hz'.1 hn0
            omega
          have m2 : -24 ≤ num * ((z : Int) - 2) := by
            have := Int.mul_le_mul_of_nonneg_left hz'.2 hn0
            omega
          refine ⟨_, rfl, Tp, 30, rfl, t56.at1, by decide, by decide, fun z2 H7 hz2 t7 => ⟨rfl, _, rfl, ite2 (fun h => ?_) (fun h => ?_)⟩⟩
          · refine ⟨_, rfl, Tp, 199, rfl, (t56.trans t7).at1, by decide, by decide, fun z3 H8 hz3 t8 => ⟨_, _, rfl, rfl, ?_⟩⟩
            exact R1 ((z3 : Int) - 99) H8 (by omega) (by omega) ((t6.trans t7).trans t8)
          · exact R1 _ H7 (by omega) (by omega) (t6.trans t7)
        · rintro σ H5 ⟨t5, hh5, hF5, hL5, ⟨wl, hwll, hwlg, hw5⟩, x10, x11, x12, rfl⟩
          have hull := Pd.len hpl
          obtain ⟨nL0, vsL, eL, pL⟩ := id hL5
          obtain ⟨nw0, vsw, ew, pw⟩ := id hw5
          refine ⟨_, rfl, .inl ⟨rfl, _, SqL.of eL⟩, _, rfl, aw, vsw, rfl, .inl ⟨SqL.of ew, fun q hq => ⟨aL, _, _, rfl, rfl, (Same.alloc hq) _ _ eL, small1000 (by rw [Pd.len pL]; omega), ?_⟩⟩⟩
          have e' := (Same.alloc (o := .tup vsw) hq) _ _ eL
          exact ⟨(t5.alloc hq).write nL0, (hh5.alloc RInt.mono hq).wr RInt.mono neh2 e', (hF5.alloc WRows.mono hq).wr WRows.mono neF2 e',
            ⟨ls ++ [wl], by simp [hll], all_snoc hlg ⟨by omega, hwlg⟩, hL5.pushT WLine.mono eL hq fun H2 tx z => ⟨q, vsw, rfl, z, Pd.tx RInt.mono tx pw⟩⟩, _, _, _, _, _, rfl⟩
      · rintro σ H4 ⟨t4, hh4, hF4, ⟨ls, hll, hlg, hL4⟩, w8, w9, w10, w11, w12, rfl⟩
        obtain ⟨nF0, vsF, eF, pF⟩ := id hF4
        obtain ⟨nL0, vsL, eL, pL⟩ := id hL4
        refine ⟨_, rfl, .inl ⟨rfl, _, SqL.of eF⟩, _, rfl, aL, vsL, rfl, .inl ⟨SqL.of eL, fun q hq => ⟨aF, _, _, rfl, rfl, (Same.alloc hq) _ _ eF, small1000 (by rw [Pd.len pF]; omega), ?_⟩⟩⟩
        have e' := (Same.alloc (o := .tup vsL) hq) _ _ eF
        exact ⟨(t4.alloc hq).write nF0, (hh4.alloc RInt.mono hq).wr RInt.mono neh e',
          ⟨ws ++ [ls], by simp [hwl], all_snoc hwg ⟨by omega, hlg⟩, hF4.pushT WRows.mono eF hq fun H2 tx z => ⟨q, vsL, rfl, z, Pd.tx WLine.mono tx pL⟩⟩, _, _, _, _, _, _, _, rfl⟩
    · rintro σ H3 ⟨t3, hh3, ⟨ws, hwl, hwg, hF3⟩, v5, v7, v8, v9, v10, v11, v12, rfl⟩
      obtain ⟨nF0, vsF, eF, pF⟩ := id hF3
      refine ⟨_, rfl, aF, vsF, rfl, .inl ⟨SqL.of eF, fun q hq => ?_⟩⟩
      exact k (.ref q) ws _ (t3.alloc hq) ⟨q, vsF, rfl, upd_same, Pd.tx WRows.mono (tx_alloc hq) pF⟩ ⟨by omega, hwg⟩
end
end K70

namespace K70
open PySem L2
def rowAt (Pt : Parts) (ja : Nat × Nat) : Nat := Pt.rows.getD ja.1 0
def RunAt (Pt : Parts) (H : Hp) (u : V) (l : List (Nat × Nat)) : Prop := ∃ a t, u = .ref a ∧ H a = some (.tup [.str (strOf (l.map (rowAt Pt))), .ref t]) ∧ H t = some (.tup (l.map fun ja => V.int (ja.2 : Nat)))
def sp__law_run (K : PySem.W.Frag) (mg : Str → Option Value) (T : Txt K mg) : Sp := fun vs H Q _ => ∃ (Tp : Tape) (v : V) (Pt : Parts), vs = [.ref Tp.t, v, .int 15] ∧ TapeAt Tp H ∧ PartsAt Pt H v ∧ Pt.Ok ∧
  ∀ (u : V) (l : List (Nat × Nat)) (H' : Hp), TS Tp H H' → (∀ ja ∈ l, ja ∈ signs Pt) → RunAt Pt H' u l → Q u H'
def sp__law_first (K : PySem.W.Frag) (mg : Str → Option Value) (T : Txt K mg) : Sp := fun vs H Q _ => ∃ (v u : V) (Pt : Parts) (W : Meter), vs = [v, u] ∧ PartsAt Pt H v ∧ Pt.Ok ∧ WMeter H u W ∧ MeterOk Pt W ∧
  ∀ (p : Addr) (kvs : List (Key × V)) (H' : Hp), Same H H' → H p = none → H' p = some (.dK kvs) → FndAt 40 H' kvs (first Pt W) → Q (.ref p) H'
def sp__law_divisor (K : PySem.W.Frag) (mg : Str → Option Value) (T : Txt K mg) : Sp := fun vs H Q _ => ∃ (v u : V) (Pt : Parts) (W : Meter), vs = [v, u] ∧ PartsAt Pt H v ∧ Pt.Ok ∧ WMeter H u W ∧ MeterOk Pt W ∧
  ∀ (H' : Hp), Same H H' → Q (.int (due Pt W : Nat)) H'
def sp__law_read (K : PySem.W.Frag) (mg : Str → Option Value) (T : Txt K mg) : Sp := fun vs H Q _ => ∃ (v u r : V) (Pt : Parts) (W : Meter) (l : List (Nat × Nat)), vs = [v, u, r] ∧ PartsAt Pt H v ∧ Pt.Ok ∧ WMeter H u W ∧ MeterOk Pt W ∧ RunAt Pt H r l ∧ (∀ ja ∈ l, ja ∈ signs Pt) ∧
  ∀ (p : Addr) (H' : Hp), Same H H' → H' p = some (.tup [.int (walkTo Pt W l 0 0).2, .int ((walkTo Pt W l 0 0).1 : Nat)]) → Q (.ref p) H'
theorem row_of {Pt : Parts} {ja : Nat × Nat} {c : Nat} (h : Pt.rows[ja.1]? = some c) : rowAt Pt ja = c := getD_some h
theorem row_at {Pt : Parts} {ja : Nat × Nat} (h : ja ∈ signs Pt) : Pt.rows[ja.1]? = some (rowAt Pt ja) := by
  obtain ⟨hj, _⟩ := mem_signs.mp h
  have e : Pt.rows[ja.1]? = some Pt.rows[ja.1] := List.getElem?_eq_getElem hj
  rw [row_of e]; exact e
theorem walk_snoc {P : Parts} {W : Meter} (ja : Nat × Nat) : ∀ (l : List (Nat × Nat)) (s : Nat) (t : Int), walkTo P W (l ++ [ja]) s t = (goal P (walkTo P W l s t).1 ja, (walkTo P W l s t).2 + worth W (walkTo P W l s t).1 ja)
  | [], s, t => rfl
  | x :: l, s, t => by
    show walkTo P W (l ++ [ja]) _ _ = _
    rw [walk_snoc ja l]
    rfl
theorem walk_lt {P : Parts} {W : Meter} (ok : P.Ok) : ∀ (l : List (Nat × Nat)) (s : Nat) (t : Int), s < P.moves.length → (∀ ja ∈ l, ja ∈ signs P) → (walkTo P W l s t).1 < P.moves.length
  | [], s, t, h, _ => h
  | ja :: l, s, t, h, k => walk_lt ok l _ _ (goal_lt ok h (k ja (List.mem_cons_self ..))) fun x hx => k x (List.mem_cons_of_mem _ hx)
section
variable {P : Program} {w : World} {K : PySem.W.Frag} {mg : Str → Option Value} {base : Heap}
theorem ok__law_run (T : Txt K mg) : FnOk P w K mg base CX0 2 T.d__law_run.f T.d__law_run.fd ["_law_tape_here", "_law_parts", "_law_most"] (sp__law_run K mg T) := by
  have G__law_pick := ok__law_pick (P := P) (w := w) (base := base) T
  have G__law_signs := ok__law_signs (P := P) (w := w) (base := base) T
  refine T.d__law_run.F.ok sc__law_run (fun vs H Q E h => ?_) (fun cdv A outer s H vs Q E hr h => ?_)
  · obtain ⟨Tp, v, Pt, rfl, tp, hv, ok, k⟩ := h
    rfl
  · obtain ⟨Tp, v, Pt, rfl, tp, hv, ok, k⟩ := h
    have hu := hu_of hr
    refine ⟨_, (pss_cons (ps_set (i := 3) sc__law_run.nd rfl (Or.inl rfl) pe_str)
      (pss_cons (ps_set (i := 4) sc__law_run.nd rfl (Or.inl rfl) (pe_lst pa_nil))
      (pss_cons (ps_for PassesOwn.never rfl (pi_range1 (by rfl) T.z_range (pa_cons (pe_call G__law_pick (hr.mono (by decide)) rfl T.d__law_pick.g T.d__law_pick.F.kp T.d__law_pick.b .nil pass0 (pa_cons (pv 0) (pa_cons (pe_op op_add (pv 2) pe_int) pa_nil))) pa_nil)) (pg_name (i := 5) sc__law_run.nd rfl (Or.inl rfl))
       (pss_cons (ps_asg (pe_ix ix_list (pe_call G__law_signs (hr.mono (by decide)) rfl T.d__law_signs.g T.d__law_signs.F.kp T.d__law_signs.b .nil pass0 (pa_cons (pv 1) pa_nil)) (pe_call G__law_pick (hr.mono (by decide)) rfl T.d__law_pick.g T.d__law_pick.F.kp T.d__law_pick.b .nil pass0 (pa_cons (pv 0) (pa_cons (pe_callB (id := "len") call_len_seq (by rfl) T.z_len (by decide +kernel) (pa_cons (pe_call G__law_signs (hr.mono (by decide)) rfl T.d__law_signs.g T.d__law_signs.F.kp T.d__law_signs.b .nil pass0 (pa_cons (pv 1) pa_nil)) pa_nil)) pa_nil))) (fun _ _ => rfl)) (pg_tup rfl (pgs_cons (pg_name (i := 6) sc__law_run.nd rfl (Or.inl rfl)) (pgs_cons (pg_name (i := 7) sc__law_run.nd rfl (Or.inl rfl)) pgs_nil))))
        (pss_cons (ps_set (i := 3) sc__law_run.nd rfl (Or.inl rfl) (pe_op op_add_str (pv 3) (pv 6)))
        (pss_one (ps_expr (pe_bm PySem.F.plainAttrs_list PySem.F.slot_list_append PySem.F.type_list_append mt_append (pv 4) (pa_cons (pv 7) pa_nil)))))))
      (pss_one (ps_ret (pe_tup (pa_cons (pv 3) (pa_cons (pe_callTy (T := "tuple") call_tuple_of (by rfl) T.z_tuple (by decide +kernel) (pa_cons (pv 4) pa_nil)) pa_nil)))))))), ?_⟩
    have sl := signs_len ok
    have sn := signs_ne ok
    refine ⟨(by show 0 ≤ sizeLine; decide), fun at_ nat => ?_⟩
    have t0 := (TS.refl tp).alloc (o := .lst []) nat
    refine ⟨_, rfl, _, rfl, _, _, rfl, rfl, Tp, 16, rfl, t0.at1, by decide, by decide, fun n H1 hn t1 => ⟨_, rfl, by omega, by omega, ?_⟩⟩
    have t01 := t0.trans t1
    refine for_range (n := n) (fun i σ H' => TS Tp H H' ∧ (∃ l : List (Nat × Nat), l.length = i ∧ (∀ ja ∈ l, ja ∈ signs Pt) ∧ H' at_ = some (.lst (l.map fun ja => V.int (ja.2 : Nat))) ∧
      ∃ (v5 v6 v7 : Option V), σ = [some (.ref Tp.t), some v, some (.int 15), some (.str (strOf (l.map (rowAt Pt)))), some (.ref at_), v5, v6, v7])) ⟨t01, [], rfl, (fun _ h => by cases h), t0.own t1 nat upd_same, _, _, _, rfl⟩ ?_ ?_
    · rintro i σ H2 hi ⟨t2, l, hl, hls, hL, v5, v6, v7, rfl⟩
      refine ⟨_, rfl, v, Pt, rfl, hv.tx t2.tx, ok, fun l1 H3 s3 n1 ⟨vs1, e1, p1⟩ => ⟨_, rfl, _, rfl, v, Pt, rfl, hv.tx (t2.same s3).tx, ok, fun l2 H4 s4 n2 ⟨vs2, e2, p2⟩ => ?_⟩⟩
      have hl2 := Pd.len p2
      have t4 := (t2.same s3).same s4
      refine ⟨l2, vs2, rfl, .inl (SqL.of e2), Tp, vs2.length, rfl, t4.at1, by omega, by omega, fun kk H5 hkk t5 => ?_⟩
      have t45 := t4.trans t5
      have hl1 := Pd.len p1
      obtain ⟨ja, hja⟩ : ∃ ja, (signs Pt)[kk]? = some ja := ⟨_, List.getElem?_eq_getElem (by omega)⟩
      obtain ⟨y, hy, b, c, rfl, hc, hb⟩ := Pd.get p1 hja
      have e1' := ((TS.refl t2.at1).same s3).same s4 |>.own t5 n1 (s4 _ _ e1)
      have tx35 : TX H3 H5 := (Same.tx s4).trans t5.tx
      refine ⟨l1, _, _, _, rfl, rfl, SqL.of e1', atI_nat hy, b, _, rfl, SqT.of (tx35 _ _ hb), rfl, _, _, rfl, _, _, rfl, rfl, ?_⟩
      have hjs := mem_of hja
      have hL5 : H5 at_ = some (.lst (l.map fun ja => V.int (ja.2 : Nat))) := (((TS.refl t2.at1).same s3).same s4 |>.trans t5).but at_ _ (fun e => by
        obtain ⟨xs, z⟩ := tp.some
        rw [e, z] at nat
        cases nat) hL
      refine ⟨_, rfl, _, rfl, _, _, rfl, rfl, ?_, ?_⟩
      · rw [strOf_len]
        show (l.map (rowAt Pt)).length + 1 ≤ sizeLine
        rw [List.length_map]
        exact Nat.le_trans (show l.length + 1 ≤ 1000 by omega) (by decide)
      refine ⟨_, rfl, .inl ⟨rfl, _, SqL.of hL5⟩, _, rfl, at_, _, _, rfl, rfl, hL5, small1000 (by rw [List.length_map]; omega), ?_⟩
      refine ⟨t45.write nat, l ++ [ja], by simp [hl], all_snoc hls hjs, upd_same.trans (by rw [List.map_append]; rfl), some (.int (0 + (i : Nat))), some (.str (ch c)), some (.int (ja.2 : Nat)), ?_⟩
      rw [List.map_append, show [ja].map (rowAt Pt) = [c] by simp [row_of hc], ← strOf_snoc]
      rfl
    · rintro σ H2 ⟨t2, l, hl, hls, hL, v5, v6, v7, rfl⟩
      refine ⟨_, rfl, _, rfl, at_, _, rfl, .inl ⟨SqL.of hL, fun q hq => ⟨(by show 2 ≤ sizeLine; decide), fun q2 hq2 => ?_⟩⟩⟩
      exact k (.ref q2) l _ ((t2.alloc hq).alloc hq2) hls ⟨q2, q, rfl, upd_same, (Same.alloc hq2) _ _ upd_same⟩
theorem ok__law_read (T : Txt K mg) : FnOk P w K mg base CX0 2 T.d__law_read.f T.d__law_read.fd ["_law_parts", "_law_meter", "_law_run_here"] (sp__law_read K mg T) := by
  have G__law_gone := ok__law_gone (P := P) (w := w) (base := base) T
  refine T.d__law_read.F.ok sc__law_read (fun vs H Q E h => ?_) (fun cdv A outer s H vs Q E hr h => ?_)
  · obtain ⟨v, u, r, Pt, W, l, rfl, hv, ok, hw, mk, hrun, hls, k⟩ := h
    rfl
  · obtain ⟨v, u, r, Pt, W, l, rfl, hv, ok, hw, mk, hrun, hls, k⟩ := h
    have hu := hu_of hr
    refine ⟨_, (pss_cons (ps_set (i := 3) sc__law_read.nd rfl (Or.inl rfl) pe_int)
      (pss_cons (ps_set (i := 4) sc__law_read.nd rfl (Or.inl rfl) pe_int)
      (pss_cons (ps_for PassesOwn.never rfl (pi_zipS (by rfl) T.z_zip (pa_cons (pe_ix ix_tup (pv 2) pe_int (fun _ _ => rfl)) (pa_cons (pe_ix ix_tup (pv 2) pe_int (fun _ _ => rfl)) pa_nil))) (pg_tup rfl (pgs_cons (pg_name (i := 5) sc__law_read.nd rfl (Or.inl rfl)) (pgs_cons (pg_name (i := 6) sc__law_read.nd rfl (Or.inl rfl)) pgs_nil)))
       (pss_cons (ps_set (i := 4) sc__law_read.nd rfl (Or.inl rfl) (pe_op op_add (pv 4) (pe_ix ix_tup (pe_ix ix_tup (pe_ix ix_tup (pv 1) (pv 3) (fun _ _ => rfl)) (pe_bm PySem.F.plainAttrs_str PySem.F.slot_str_index PySem.F.type_str_index mt_sindex (pe_ix ix_tup (pv 0) pe_int (fun _ _ => rfl)) (pa_cons (pv 5) pa_nil)) (fun _ _ => rfl)) (pv 6) (fun _ _ => rfl))))
        (pss_one (ps_set (i := 3) sc__law_read.nd rfl (Or.inl rfl) (pe_ix ix_tup (pe_call G__law_gone (hr.mono (by decide)) rfl T.d__law_gone.g T.d__law_gone.F.kp T.d__law_gone.b .nil pass0 (pa_cons (pv 0) (pa_cons (pv 3) (pa_cons (pv 5) (pa_cons (pv 6) pa_nil))))) pe_int (fun _ _ => rfl))))))
      (pss_one (ps_ret (pe_tup (pa_cons (pv 4) (pa_cons (pv 3) pa_nil)))))))), ?_⟩
    obtain ⟨ra, rt, rfl, hra, hrt⟩ := hrun
    have m1 := ok.m1
    refine ⟨_, rfl, _, _, _, _, rfl, rfl, SqT.of hra, rfl, _, rfl, _, _, _, _, rfl, rfl, SqT.of hra, rfl, strOf (l.map (rowAt Pt)), rt, _, rfl, SqT.of hrt,
      for_it (walk_zipS (x := strOf (l.map (rowAt Pt))) (ys := l.map fun ja => V.int (ja.2 : Nat)) (n := l.length) (by simp [strOf])) (fun i σ H' => Same H H' ∧ ∃ (v5 v6 : Option V), σ = [some v, some u, some (.ref ra), some (.int ((walkTo Pt W (l.take i) 0 0).1 : Nat)), some (.int (walkTo Pt W (l.take i) 0 0).2), v5, v6]) ⟨Same.refl _, _, _, rfl⟩ (fun i σ H' _ h => SqT.of (h.1 _ _ hrt)) ?_ ?_⟩
    · rintro i y σ H1 H2 hi ⟨s1, v5, v6, rfl⟩ ⟨Tq, z1, z2, rfl, hT, rfl, f1, f2⟩
      obtain ⟨ja, hja⟩ : ∃ ja, l[i]? = some ja := ⟨_, List.getElem?_eq_getElem hi⟩
      have hjs := hls ja (mem_of hja)
      have hc := row_at hjs
      have ez1 : z1 = .str (ch (rowAt Pt ja)) := by
        have q : (strOf (l.map (rowAt Pt))).cps[i]? = some (rowAt Pt ja) := by simp [strOf, hja]
        simp only [q, Option.map_some] at f1
        exact (Option.some.inj f1).symm
      have ez2 : z2 = .int (ja.2 : Nat) := by
        simp only [List.getElem?_map, hja, Option.map_some] at f2
        exact (Option.some.inj f2).symm
      subst ez1 ez2
      have hlt := walk_lt (W := W) ok (l.take i) 0 0 (by omega) fun x hx => hls x (List.mem_of_mem_take hx)
      have ew : walkTo Pt W (l.take (i + 1)) 0 0 = (goal Pt (walkTo Pt W (l.take i) 0 0).1 ja, (walkTo Pt W (l.take i) 0 0).2 + worth W (walkTo Pt W (l.take i) 0 0).1 ja) := by
        rw [List.take_add_one, hja]
        exact walk_snoc ja _ 0 0
      generalize walkTo Pt W (l.take i) 0 0 = st at hlt ew
      obtain ⟨s, t⟩ := st
      have S2 := Same.alloc' s1 (o := .tup [.str (ch (rowAt Pt ja)), .int (ja.2 : Nat)]) hT
      obtain ⟨a, m, rfl, ha, hm⟩ := hv.tx (Same.tx S2)
      obtain ⟨ls, l3, x, e1, e2, e3, eg, _⟩ := K70.worth_at mk hlt hjs
      obtain ⟨a1, us1, u1, rfl, q1, i1, r1⟩ := TupOf.get (K := K) (WMeter.mono _ _ _ _ (Same.tx S2) hw) e1
      obtain ⟨a2, us2, u2, rfl, q2, i2, r2⟩ := TupOf.get (K := K) r1 e2
      obtain ⟨a3, us3, u3, rfl, q3, i3, r3⟩ := TupOf.get (K := K) r2 e3
      obtain ⟨rest, ho⟩ := occ_at ok.r1 ok.r2 ok.asc hc
      refine ⟨_, _, rfl, SqT.of upd_same, rfl, _, _, rfl, _, _, rfl, rfl, ?_⟩
      refine ⟨_, rfl, _, rfl, _, rfl, _, _, _, _, rfl, rfl, q1, i1, _, rfl, _, _, _, _, rfl, rfl, SqT.of ha, rfl, rfl, _, rfl, _, _, _, _, rfl, rfl, ho, _, _, _, _, rfl, rfl, q2, i2, _, rfl, _, _, _, _, rfl, rfl, q3, i3, _, x, rfl, r3, ?_⟩
      refine ⟨_, rfl, _, rfl, _, rfl, _, rfl, .ref a, Pt, s, rowAt Pt ja, ja, rfl, ⟨a, m, rfl, ha, hm⟩, ok, hlt, hjs, hc, fun b tk hb => ⟨_, _, _, _, rfl, rfl, SqT.of hb, rfl, ?_⟩⟩
      rw [ew]
      refine ⟨S2, some (.str (ch (rowAt Pt ja))), some (.int (ja.2 : Nat)), ?_⟩
      rw [eg]
      rfl
    · rintro σ H1 ⟨s1, v5, v6, rfl⟩
      rw [List.take_length]
      refine ⟨_, rfl, _, rfl, (by show 2 ≤ sizeLine; decide), fun q hq => ?_⟩
      exact k q _ (Same.alloc' s1 hq) upd_same
end
end K70

namespace K70
open PySem L2
section
variable {P : Program} {w : World} {K : PySem.W.Frag} {mg : Str → Option Value} {base : Heap}
theorem ok__law_first (T : Txt K mg) : FnOk P w K mg base CX0 2 T.d__law_first.f T.d__law_first.fd ["_law_parts", "_law_meter"] (sp__law_first K mg T) := by
  have G__law_gone := ok__law_gone (P := P) (w := w) (base := base) T
  have G__law_signs := ok__law_signs (P := P) (w := w) (base := base) T
  refine T.d__law_first.F.ok sc__law_first (fun vs H Q E h => ?_) (fun cdv A outer s H vs Q E hr h => ?_)
  · obtain ⟨v, u, Pt, W, rfl, hv, ok, hw, mk, k⟩ := h
    rfl
  · obtain ⟨v, u, Pt, W, rfl, hv, ok, hw, mk, k⟩ := h
    have hu := hu_of hr
    refine ⟨_, (pss_cons (ps_set (i := 2) sc__law_first.nd rfl (Or.inl rfl) pe_dnewK)
      (pss_cons (ps_dput hu (pv 2) pe_int (pe_tup (pa_cons (pe_tup (pa_cons pe_str (pa_cons (pe_tup pa_nil) pa_nil))) (pa_cons pe_int pa_nil))) rfl)
      (pss_cons (ps_set (i := 3) sc__law_first.nd rfl (Or.inl rfl) (pe_lst (pa_cons pe_int pa_nil)))
      (pss_cons (ps_for PassesOwn.never rfl (pi_range1 (by rfl) T.z_range (pa_cons pe_int pa_nil)) (pg_name (i := 4) sc__law_first.nd rfl (Or.inl rfl))
       (pss_cons (ps_if (pt_cmpR op_ge (pv 4) (pe_callB (id := "len") call_len_seq (by rfl) T.z_len (by decide +kernel) (pa_cons (pv 3) pa_nil)) (nomark _))
         (pss_one ps_break)
         pss_nil)
        (pss_cons (ps_set (i := 5) sc__law_first.nd rfl (Or.inl rfl) (pe_ix ix_list (pv 3) (pv 4) (fun _ _ => rfl)))
        (pss_cons (ps_asg (pe_dget hu (pv 2) (pv 5) (fun _ _ => rfl)) (pg_tup rfl (pgs_cons (pg_name (i := 6) sc__law_first.nd rfl (Or.inl rfl)) (pgs_cons (pg_name (i := 7) sc__law_first.nd rfl (Or.inl rfl)) pgs_nil))))
        (pss_one (ps_for PassesOwn.never rfl (pi_list (pe_call G__law_signs (hr.mono (by decide)) rfl T.d__law_signs.g T.d__law_signs.F.kp T.d__law_signs.b .nil pass0 (pa_cons (pv 0) pa_nil))) (pg_tup rfl (pgs_cons (pg_name (i := 8) sc__law_first.nd rfl (Or.inl rfl)) (pgs_cons (pg_name (i := 9) sc__law_first.nd rfl (Or.inl rfl)) pgs_nil)))
         (pss_cons (ps_set (i := 10) sc__law_first.nd rfl (Or.inl rfl) (pe_ix ix_tup (pe_call G__law_gone (hr.mono (by decide)) rfl T.d__law_gone.g T.d__law_gone.F.kp T.d__law_gone.b .nil pass0 (pa_cons (pv 0) (pa_cons (pv 5) (pa_cons (pv 8) (pa_cons (pv 9) pa_nil))))) pe_int (fun _ _ => rfl)))
          (pss_one (ps_if (pt_cmp (pc_dnotin hu (pv 10) (pv 2)))
           (pss_cons (ps_set (i := 11) sc__law_first.nd rfl (Or.inl rfl) (pe_ix ix_tup (pe_ix ix_tup (pe_ix ix_tup (pv 1) (pv 5) (fun _ _ => rfl)) (pe_bm PySem.F.plainAttrs_str PySem.F.slot_str_index PySem.F.type_str_index mt_sindex (pe_ix ix_tup (pv 0) pe_int (fun _ _ => rfl)) (pa_cons (pv 8) pa_nil)) (fun _ _ => rfl)) (pv 9) (fun _ _ => rfl)))
            (pss_cons (ps_dput hu (pv 2) (pv 10) (pe_tup (pa_cons (pe_tup (pa_cons (pe_op op_add_str (pe_ix ix_tup (pv 6) pe_int (fun _ _ => rfl)) (pv 8)) (pa_cons (pe_op op_catA (pe_ix ix_tup (pv 6) pe_int (fun _ _ => rfl)) (pe_tup (pa_cons (pv 9) pa_nil))) pa_nil))) (pa_cons (pe_op op_add (pv 7) (pv 11)) pa_nil))) rfl)
            (pss_one (ps_expr (pe_bm PySem.F.plainAttrs_list PySem.F.slot_list_append PySem.F.type_list_append mt_append (pv 3) (pa_cons (pv 10) pa_nil))))))
           pss_nil)))))))))
      (pss_one (ps_ret (pv 2))))))), ?_⟩
    refine fun p np => ?_
    refine ⟨(by show 0 ≤ sizeLine; decide), fun t0 n0 => ⟨(by show 2 ≤ sizeLine; decide), fun t1 n1 => ⟨(by show 2 ≤ sizeLine; decide), fun t2 n2 => ?_⟩⟩⟩
    have hp3 := (Same.alloc (o := .tup [.ref t1, .int 0]) n2) _ _ ((Same.alloc (o := .tup [.str "", .ref t0]) n1) _ _ ((Same.alloc (o := .tup []) n0) _ _ (upd_same (H := H) (a := p) (o := .dK []))))
    refine ⟨_, rfl, p, _, rfl, DPut.k (k := Sum.inl 0) hp3 (by decide), ?_⟩
    refine ⟨(by show 1 ≤ sizeLine; decide), fun q nq => ?_⟩
    have b0 : BI H (upd (upd (upd (upd (upd (upd H p (.dK [])) t0 (.tup [])) t1 (.tup [.str "", .ref t0])) t2 (.tup [.ref t1, .int 0])) p (.dK (putK [] (Sum.inl 0) (.ref t2)))) q (.lst [.int 0])) p q [(0, 0)] 0 := by
      have a0 := Same.alloc' (Same.alloc (o := .dK []) np) (o := .tup []) n0
      have a1 := Same.alloc' a0 (o := .tup [.str "", .ref t0]) n1
      have a2 := Same.alloc' a1 (o := .tup [.ref t1, .int 0]) n2
      have a3 := Same.write a2 (o := .dK (putK [] (Sum.inl 0) (.ref t2))) np
      have pq : p ≠ q := ne_of_none upd_same nq
      have tx := (TX.write (o := .dK (putK [] (Sum.inl 0) (.ref t2))) hp3 (fun _ z => by cases z)).trans (tx_alloc (o := .lst [.int 0]) nq)
      refine ⟨Same.alloc' a3 nq, ⟨[(Sum.inl 0, .ref t2)], (upd_ne pq).trans upd_same, .cons ⟨rfl, t2, t1, "", t0, [], rfl, tx _ _ upd_same, tx _ _ ((Same.alloc n2) _ _ upd_same), tx _ _ ((Same.alloc n2) _ _ ((Same.alloc n1) _ _ upd_same)), by decide +kernel, by decide⟩ .nil⟩, upd_same, np, a3.free nq⟩
    have fin : ∀ (F : Fnd) (H' : Hp), BI H H' p q F 0 → FOk Pt F → F = first Pt W → Q (.ref p) H' := by
      intro F H' bi fo e
      obtain ⟨kvs, e1, f⟩ := bi.d
      have fl := fo.len
      have m2 := ok.m2
      refine k p kvs H' bi.s bi.np e1 ?_
      rw [← e]
      exact FndAt.le f (by omega)
    refine ⟨40, rfl, by decide, by decide, for_range (n := 40) (fun i σ H' => ∃ (F : Fnd) (v4 v5 v6 v7 v8 v9 v10 v11 : Option V), σ = [some v, some u, some (.ref p), some (.ref q), v4, v5, v6, v7, v8, v9, v10, v11] ∧ BI H H' p q F 0 ∧ FOk Pt F ∧ i ≤ F.length ∧ bfs Pt W (40 - i) i F = first Pt W)
      ⟨[(0, 0)], none, none, none, none, none, none, none, none, rfl, b0, fok0 ok, Nat.zero_le _, rfl⟩ ?_ ?_⟩
    · rintro i σ H1 hi ⟨F, v4, v5, v6, v7, v8, v9, v10, v11, rfl, bi, fo, hiF, hb⟩
      have fl := fo.len
      have m2 := ok.m2
      refine ⟨_, rfl, _, rfl, _, _, rfl, .inl (SqL.of bi.w), _, _, rfl, rfl, _, rfl, ?_⟩
      have hlen : ((((keys F).drop 0).map fun s => V.int (s : Nat)).length) = F.length := by simp [keys]
      rw [hlen]
      by_cases hlt : i < F.length
      · refine ifN (decide_eq_false (by omega)) ?_
        obtain ⟨⟨s, r⟩, hsr⟩ : ∃ x, F[i]? = some x := ⟨_, List.getElem?_eq_getElem hlt⟩
        have hsn : s < Pt.moves.length := fo.lt s (List.mem_map.mpr ⟨_, mem_of hsr, rfl⟩)
        have hki : (((keys F).drop 0).map fun s => V.int (s : Nat))[i]? = some (.int (s : Nat)) := by
          rw [List.drop_zero]
          unfold keys
          rw [List.getElem?_map, List.getElem?_map, hsr]
          rfl
        -- standing = waiting[turn]
        refine ⟨_, rfl, _, rfl, _, _, _, _, rfl, rfl, SqL.of bi.w, at_of (j := i) (by omega) hki, ?_⟩
        obtain ⟨kvs, e, f⟩ := bi.d
        obtain ⟨vv, hval, b, rc, z, t, ys, rfl, hbq, hcq, htq, l1, l2⟩ := f.val fo.nd hsr
        refine ⟨_, rfl, _, rfl, p, .ref b, rfl, (by rw [← hval]; exact DGet.k (k := Sum.inl ((s : Nat) : Int)) e), b, _, rfl, SqT.of hbq, rfl, _, _, rfl, _, _, rfl, rfl, ?_⟩
        refine ⟨_, rfl, v, Pt, rfl, hv.tx (Same.tx bi.s), ok, fun l Hs ss nl sg => ?_⟩
        obtain ⟨vs, hl, hvs⟩ := sg
        have bis := bi.same ss
        have lp : l ≠ p := (ne_of_none e nl).symm
        have lq : l ≠ q := (ne_of_none bi.w nl).symm
        have hcs := ss _ _ hcq
        have hts := ss _ _ htq
        refine ⟨l, rfl, ⟨_, SqL.of hl⟩, for_it (walk_list (xs := vs)) (fun k σ H' => BI H H' p q (((signs Pt).take k).foldl (step Pt W s r) F) 0 ∧ H' l = some (.lst vs) ∧ TX Hs H' ∧
          ∃ (v8 v9 v10 v11 : Option V), σ = [some v, some u, some (.ref p), some (.ref q), some (.int (0 + (i : Nat))), some (.int (s : Nat)), some (.ref rc), some (.int r), v8, v9, v10, v11])
          ⟨bis, hl, TX.refl _, _, _, _, _, rfl⟩ (fun k σ H' _ h => SqL.of h.2.1) ?_ ?_⟩
        · rintro n y σ _ H5 hk ⟨bi5, hl5, tx5, w8, w9, w10, w11, rfl⟩ ⟨rfl, hy⟩
          obtain ⟨ja, hja', b2, c', rfl, hc', hb2⟩ := Pd.get' hvs hy
          have hja := mem_of hja'
          obtain ⟨fo5, pre5⟩ := pre_ok (W := W) ok mk fo hsr n
          have fl5 := fo5.len
          refine ⟨b2, _, rfl, SqT.of (tx5 _ _ hb2), rfl, _, _, rfl, _, _, rfl, rfl, ?_⟩
          refine ⟨_, rfl, _, rfl, _, rfl, _, rfl, v, Pt, s, c', ja, rfl, hv.tx (Same.tx bi5.s), ok, hsn, hja, hc', fun bb tk hbb => ⟨_, _, _, _, rfl, rfl, SqT.of hbb, rfl, ?_⟩⟩
          have ef := take_fold (step Pt W s r) hja' F
          obtain ⟨kvs6, e6, f6⟩ := bi5.d
          generalize hF5 : ((signs Pt).take n).foldl (step Pt W s r) F = F5 at bi5 fo5 pre5 fl5 ef f6
          refine ⟨_, rfl, _, rfl, p, _, rfl, DGet.k (k := Sum.inl ((goal Pt s ja : Nat) : Int)) e6, _, rfl, ?_⟩
          by_cases hg : goal Pt s ja ∈ keys F5
          · obtain ⟨i', r', hi'⟩ := key_at hg
            obtain ⟨v', hval', _⟩ := f6.val fo5.nd hi'
            refine ifN (by rw [hval']; rfl) ?_
            have es : step Pt W s r F5 ja = F5 := if_pos hg
            rw [es] at ef
            exact ⟨by rw [ef]; exact bi5, hl5, tx5, _, _, _, _, rfl⟩
          · refine ifP (by rw [FndAt.none f6 hg]; rfl) ?_
            have es : step Pt W s r F5 ja = F5 ++ [(goal Pt s ja, r + worth W s ja)] := if_neg hg
            rw [es] at ef
            have hc6 := tx5 _ _ hcs
            have ht6 := tx5 _ _ hts
            have lf := pre5.len
            have lk := Pd.len f6
            obtain ⟨a, m, rfl, ha, hm⟩ := hv.tx (Same.tx bi5.s)
            obtain ⟨ls, l3, x, e1, e2, e3, eg, _⟩ := K70.worth_at mk hsn hja
            obtain ⟨a1, us1, u1, rfl, q1, i1, r1⟩ := TupOf.get (K := K) (WMeter.mono _ _ _ _ (Same.tx bi5.s) hw) e1
            obtain ⟨a2, us2, u2, rfl, q2, i2, r2⟩ := TupOf.get (K := K) r1 e2
            obtain ⟨a3, us3, u3, rfl, q3, i3, r3⟩ := TupOf.get (K := K) r2 e3
            obtain rfl := r3
            obtain ⟨rest, ho⟩ := occ_at ok.r1 ok.r2 ok.asc hc'
            -- worth
            refine ⟨_, rfl, _, rfl, _, _, _, _, rfl, rfl, q1, i1, _, rfl, _, _, _, _, rfl, rfl, SqT.of ha, rfl, rfl, _, rfl, _, _, _, _, rfl, rfl, ho, _, _, _, _, rfl, rfl, q2, i2, _, rfl, _, _, _, _, rfl, rfl, q3, i3, ?_⟩
            -- found[goal] = ((run[0] + row, run[1] + (answer,)), read + worth)
            refine ⟨_, rfl, _, _, _, _, rfl, rfl, SqT.of hc6, rfl, _, rfl, _, _, rfl, rfl, ?_, _, rfl, _, _, _, _, rfl, rfl, SqT.of hc6, rfl, _, rfl, (by show 1 ≤ sizeLine; decide), fun t1 n1 => cat1 ((Same.alloc n1) _ _ ht6) upd_same (by omega) fun t2 H7 s7 ht2 => ⟨(by show 2 ≤ sizeLine; decide), fun t3 n3 => ?_⟩⟩
            · show z.length + 1 ≤ sizeLine
              exact Nat.le_trans (show z.length + 1 ≤ 1000 by omega) (by decide)
            have S8 := ((Same.alloc (o := .tup [.int (ja.2 : Nat)]) n1).trans s7).trans (Same.alloc (o := .tup [.str (z ++ ch c'), .ref t2]) n3)
            refine ⟨_, rfl, _, rfl, _, _, rfl, rfl, (by show 2 ≤ sizeLine; decide), fun t4 n4 => ?_⟩
            have S9 := S8.trans (Same.alloc (o := .tup [.ref t3, .int (r + x)]) n4)
            have e9 := S9 _ _ e6
            have bi9 := bi5.same S9
            refine ⟨_, rfl, _, rfl, p, _, rfl, DPut.k (k := Sum.inl ((goal Pt s ja : Nat) : Int)) e9 (small1000 (by omega)), ?_⟩
            have w10' := (upd_ne (o := .dK (putK kvs6 (Sum.inl ((goal Pt s ja : Nat) : Int)) (.ref t4))) bi9.pq.symm).trans bi9.w
            refine ⟨_, rfl, .inl ⟨rfl, _, SqL.of w10'⟩, _, rfl, q, _, _, rfl, rfl, w10', ?_, ?_⟩
            · simp only [List.length_map, List.length_drop, keys]
              exact small1000 (by omega)
            have rent : REnt (F5.length + 1) (upd (upd H7 t3 (.tup [.str (z ++ ch c'), .ref t2])) t4 (.tup [.ref t3, .int (r + x)])) (.ref t4) (r + worth W s ja) := by
              refine ⟨t4, t3, z ++ ch c', t2, ys ++ [.int (ja.2 : Nat)], rfl, ?_, (Same.alloc n4) _ _ upd_same, (Same.alloc n4) _ _ ((Same.alloc n3) _ _ ht2), ?_, ?_⟩
              · rw [eg]; exact upd_same
              · rw [str_len_app]
                show z.length + 1 ≤ _
                omega
              · rw [List.length_append]
                show ys.length + 1 ≤ _
                omega
            exact ⟨by rw [ef]; exact bi9.add (Nat.zero_le _) e9 hg rent, (upd_ne lq).trans ((upd_ne lp).trans (S9 _ _ hl5)), ((tx5.trans (Same.tx S9)).trans (TX.write e9 (fun _ z => by cases z))).trans (tx_lst w10'), _, _, _, _, rfl⟩
        · rintro σ H5 ⟨bi5, hl5, tx5, w8, w9, w10, w11, rfl⟩
          have hvl := Pd.len hvs
          rw [hvl, List.take_length] at bi5
          obtain ⟨fo5, pre5, _⟩ := turn_ok (W := W) ok mk fo hsr
          have e40 : 40 - i = (40 - (i + 1)) + 1 := by omega
          rw [e40, bfs_go hsr] at hb
          exact ⟨turn Pt W F s r, _, _, _, _, _, _, _, _, rfl, bi5, fo5, Nat.lt_of_lt_of_le hlt pre5.len, hb⟩
      · refine ifP (decide_eq_true (by omega)) ?_
        rw [bfs_end (by omega)] at hb
        exact ⟨_, rfl, fin F H1 bi fo hb⟩
    · rintro σ H1 ⟨F, v4, v5, v6, v7, v8, v9, v10, v11, rfl, bi, fo, hiF, hb⟩
      exact ⟨_, rfl, fin F H1 bi fo hb⟩
theorem ok__law_divisor (T : Txt K mg) : FnOk P w K mg base CX0 3 T.d__law_divisor.f T.d__law_divisor.fd ["_law_parts", "_law_meter"] (sp__law_divisor K mg T) := by
  have G__law_common := ok__law_common (P := P) (w := w) (base := base) T
  have G__law_first := ok__law_first (P := P) (w := w) (base := base) T
  have G__law_gone := ok__law_gone (P := P) (w := w) (base := base) T
  have G__law_signs := ok__law_signs (P := P) (w := w) (base := base) T
  refine T.d__law_divisor.F.ok sc__law_divisor (fun vs H Q E h => ?_) (fun cdv A outer s H vs Q E hr h => ?_)
  · obtain ⟨v, u, Pt, W, rfl, hv, ok, hw, mk, k⟩ := h
    rfl
  · obtain ⟨v, u, Pt, W, rfl, hv, ok, hw, mk, k⟩ := h
    have hu := hu_of hr
    refine ⟨_, (pss_cons (ps_set (i := 2) sc__law_divisor.nd rfl (Or.inl rfl) (pe_call G__law_first (hr.mono (by decide)) rfl T.d__law_first.g T.d__law_first.F.kp T.d__law_first.b .nil pass0 (pa_cons (pv 0) (pa_cons (pv 1) pa_nil))))
      (pss_cons (ps_set (i := 3) sc__law_divisor.nd rfl (Or.inl rfl) pe_int)
      (pss_cons (ps_lock (ps_for PassesOwn.never rfl (pi_keys (pv 2)) (pg_name (i := 4) sc__law_divisor.nd rfl (Or.inl rfl))
       (pss_one (ps_for PassesOwn.never rfl (pi_list (pe_call G__law_signs (hr.mono (by decide)) rfl T.d__law_signs.g T.d__law_signs.F.kp T.d__law_signs.b .nil pass0 (pa_cons (pv 0) pa_nil))) (pg_tup rfl (pgs_cons (pg_name (i := 5) sc__law_divisor.nd rfl (Or.inl rfl)) (pgs_cons (pg_name (i := 6) sc__law_divisor.nd rfl (Or.inl rfl)) pgs_nil)))
         (pss_cons (ps_set (i := 7) sc__law_divisor.nd rfl (Or.inl rfl) (pe_ix ix_tup (pe_ix ix_tup (pe_ix ix_tup (pv 1) (pv 4) (fun _ _ => rfl)) (pe_bm PySem.F.plainAttrs_str PySem.F.slot_str_index PySem.F.type_str_index mt_sindex (pe_ix ix_tup (pv 0) pe_int (fun _ _ => rfl)) (pa_cons (pv 5) pa_nil)) (fun _ _ => rfl)) (pv 6) (fun _ _ => rfl)))
          (pss_cons (ps_set (i := 8) sc__law_divisor.nd rfl (Or.inl rfl) (pe_ix ix_tup (pe_call G__law_gone (hr.mono (by decide)) rfl T.d__law_gone.g T.d__law_gone.F.kp T.d__law_gone.b .nil pass0 (pa_cons (pv 0) (pa_cons (pv 4) (pa_cons (pv 5) (pa_cons (pv 6) pa_nil))))) pe_int (fun _ _ => rfl)))
          (pss_one (ps_set (i := 3) sc__law_divisor.nd rfl (Or.inl rfl) (pe_call G__law_common (hr.mono (by decide)) rfl T.d__law_common.g T.d__law_common.F.kp T.d__law_common.b .nil pass0 (pa_cons (pe_op op_sub (pe_op op_add (pe_ix ix_tup (pe_dget hu (pv 2) (pv 4) (fun _ _ => rfl)) pe_int (fun _ _ => rfl)) (pv 7)) (pe_ix ix_tup (pe_dget hu (pv 2) (pv 8) (fun _ _ => rfl)) pe_int (fun _ _ => rfl))) (pa_cons (pv 3) pa_nil)))))))))))
      (pss_one (ps_ret (pv 3)))))), ?_⟩
    obtain ⟨fo, sh⟩ := first_ok ok mk
    refine ⟨_, rfl, _, rfl, v, u, Pt, W, rfl, hv, ok, hw, mk, fun pd kvs H1 s1 npd hpd hf => ?_⟩
    have lk := Pd.len hf
    refine ⟨pd, .dK kvs, hpd, True.intro, fun od => ?_⟩
    refine ⟨_, rfl, pd, od, rfl, .inl ⟨kvs, upd_same, for_it (walk_keys (kvs := kvs) (o := od) (d := pd)) (fun i σ H' => (∀ b o, b ≠ pd → H1 b = some o → H' b = some o) ∧ H' pd = some (.frz od (.dK kvs)) ∧
      ∃ (v4 v5 v6 v7 v8 : Option V), σ = [some v, some u, some (.ref pd), some (.int ((diffsOf Pt W (first Pt W) ((first Pt W).take i)).foldl gstep 0 : Nat)), v4, v5, v6, v7, v8])
      ⟨fun b o n e => (upd_ne n).trans e, upd_same, _, _, _, _, _, rfl⟩ (fun i σ H' _ h => h.2.1) ?_ ?_⟩⟩
    · rintro i y σ _ H2 hi ⟨bx, hpd2, v4, v5, v6, v7, v8, rfl⟩ ⟨rfl, kk, kw, hkv, rfl⟩
      obtain ⟨⟨s, r⟩, hsr, hk1, b, rc, z, t, ys, hk2, hb, hc, ht, l1, l2⟩ := Pd.get' hf hkv
      simp only at hk1 hk2
      subst hk1 hk2
      have hsn : s < Pt.moves.length := fo.lt s (List.mem_map.mpr ⟨_, mem_of hsr, rfl⟩)
      have hil : i < (first Pt W).length := (List.getElem?_eq_some_iff.mp hsr).1
      have txH := (Same.tx s1).trans (bx_tx hpd bx)
      refine ⟨_, rfl, v, Pt, rfl, hv.tx txH, ok, fun l Hs ss nl sg => ?_⟩
      obtain ⟨us, hl, hus⟩ := sg
      have bxs : ∀ b o, b ≠ pd → H1 b = some o → Hs b = some o := fun b o n e => ss _ _ (bx b o n e)
      have hpds := ss _ _ hpd2
      have tx1 := bx_tx hpd bxs
      have txs := (Same.tx s1).trans tx1
      refine ⟨l, rfl, ⟨_, SqL.of hl⟩, for_it (walk_list (xs := us)) (fun k σ H' => H' = Hs ∧ ∃ (v5 v6 v7 v8 : Option V), σ = [some v, some u, some (.ref pd), some (.int ((diffsOf Pt W (first Pt W) ((first Pt W).take i) ++ ((signs Pt).take k).map (diff Pt W (first Pt W) (s, r))).foldl gstep 0 : Nat)), some (.int (s : Nat)), v5, v6, v7, v8])
        ⟨rfl, v5, v6, v7, v8, by rw [List.take_zero, List.map_nil, List.append_nil]; rfl⟩ (fun k σ H' _ h => by rw [h.1]; exact SqL.of hl) ?_ ?_⟩
      · rintro n y σ _ H5 hn ⟨rfl, w5, w6, w7, w8, rfl⟩ ⟨rfl, hy⟩
        obtain ⟨ja, hja', b2, c', rfl, hc', hb2⟩ := Pd.get' hus hy
        have hja := mem_of hja'
        refine ⟨b2, _, rfl, SqT.of hb2, rfl, _, _, rfl, _, _, rfl, rfl, ?_⟩
        have hv5 := hv.tx txs
        obtain ⟨a, m, rfl, ha, hm⟩ := id hv5
        obtain ⟨ls, l3, x, e1, e2, e3, eg, _⟩ := K70.worth_at mk hsn hja
        obtain ⟨a1, us1, u1, rfl, q1, i1, r1⟩ := TupOf.get (K := K) (WMeter.mono _ _ _ _ txs hw) e1
        obtain ⟨a2, us2, u2, rfl, q2, i2, r2⟩ := TupOf.get (K := K) r1 e2
        obtain ⟨a3, us3, u3, rfl, q3, i3, r3⟩ := TupOf.get (K := K) r2 e3
        obtain rfl := r3
        obtain ⟨rest, ho⟩ := occ_at ok.r1 ok.r2 ok.asc hc'
        refine ⟨_, rfl, _, rfl, _, _, _, _, rfl, rfl, q1, i1, _, rfl, _, _, _, _, rfl, rfl, SqT.of ha, rfl, rfl, _, rfl, _, _, _, _, rfl, rfl, ho, _, _, _, _, rfl, rfl, q2, i2, _, rfl, _, _, _, _, rfl, rfl, q3, i3, ?_⟩
        refine ⟨_, rfl, _, rfl, _, rfl, _, rfl, .ref a, Pt, s, c', ja, rfl, hv5, ok, hsn, hja, hc', fun bb tk hbb => ⟨_, _, _, _, rfl, rfl, SqT.of hbb, rfl, ?_⟩⟩
        obtain ⟨i', r', hi'⟩ := key_at (sh i s r hil hsr ja hja)
        obtain ⟨ov, hval, ob, oc, oz, ot, oys, rfl, hob, _⟩ := hf.val fo.nd hi'
        obtain ⟨sv, hvals, sb, sc, sz, st, sys, rfl, hsb, _⟩ := hf.val fo.nd hsr
        refine ⟨_, rfl, _, rfl, pd, .ref sb, rfl, (by rw [← hvals]; exact DGet.kf (k := Sum.inl ((s : Nat) : Int)) hpds), _, _, _, _, rfl, rfl, SqT.of (tx1 _ _ hsb), rfl, _, rfl, _, _, rfl, rfl, _, rfl, _, rfl, pd, .ref ob, rfl, (by rw [← hval]; exact DGet.kf (k := Sum.inl ((goal Pt s ja : Nat) : Int)) hpds), _, _, _, _, rfl, rfl, SqT.of (tx1 _ _ hob), rfl, _, _, rfl, rfl, _, rfl, _, _, rfl, ?_, ?_⟩
        · rw [Int.natAbs_natCast]
          refine Nat.lt_of_le_of_lt (gfold_le 2300 _ _ (Nat.zero_le _) fun y hy => ?_) (by decide)
          rcases List.mem_append.1 hy with hy | hy
          · exact diffs_le ok mk (fun x hx => List.mem_of_mem_take hx) y hy
          · obtain ⟨jb, hjb, rfl⟩ := List.mem_map.mp hy
            exact diff_le ok mk hsr (List.mem_of_mem_take hjb)
        · refine ⟨rfl, some (.str (ch c')), some (.int (ja.2 : Nat)), some (.int x), some (.int (goal Pt s ja : Nat)), ?_⟩
          rw [Int.natAbs_natCast, map_snoc _ hja', ← List.append_assoc, List.foldl_append (l' := [_])]
          have ed : diff Pt W (first Pt W) (s, r) ja = r + x - r' := by
            unfold diff
            rw [rd_of fo.nd hi', ← eg]
          rw [ed]
          rfl
      · rintro σ H5 ⟨rfl, w5, w6, w7, w8, rfl⟩
        have hul := Pd.len hus
        rw [hul, List.take_length, ← diffsOf_snoc hsr]
        exact ⟨bxs, hpds, _, _, _, _, _, rfl⟩
    · rintro σ H2 ⟨bx, hpd2, v4, v5, v6, v7, v8, rfl⟩
      refine ⟨hpd2, ?_⟩
      rw [lk, List.take_length]
      refine ⟨_, rfl, k _ fun b o e => ?_⟩
      have e1 := s1 _ _ e
      by_cases q : b = pd
      · subst q
        rw [hpd] at e1
        rw [upd_same]
        exact e1
      · rw [upd_ne q]
        exact bx b o q e1
end
end K70

namespace K70
open PySem L2
/-! ### the law's own ends -/
theorem restK_val (m : Nat) : ∀ {F : Fnd}, (keys F).Nodup → ∀ {i s : Nat} {r : Int}, F[i]? = some (s, r) → valV (restK m F) (Sum.inl (s : Int) : Key) = some (.int (r % (m : Int)))
  | [], _, i, s, r, h => by simp at h
  | x :: F, nd, 0, s, r, h => by
    have e : x = (s, r) := Option.some.inj h
    subst e
    exact valV_pos rfl
  | x :: F, nd, i + 1, s, r, h => by
    obtain ⟨hk, nd'⟩ := List.nodup_cons.mp (show (x.1 :: keys F).Nodup from nd)
    have h' : F[i]? = some (s, r) := by simpa using h
    have hne : ¬ (Sum.inl (x.1 : Int) : Key) = Sum.inl (s : Int) := fun e => by
      have e1 : (x.1 : Int) = (s : Int) := Sum.inl.inj e
      have e2 : x.1 = s := by omega
      exact hk (by rw [e2]; exact List.mem_map.mpr ⟨(s, r), mem_of h', rfl⟩)
    show valV ((Sum.inl (x.1 : Int), V.int (x.2 % (m : Int))) :: restK m F) _ = _
    rw [valV_neg hne]
    exact restK_val m nd' h'
theorem valV_no {κ : Type} [DecidableEq κ] : ∀ {kvs : List (κ × V)} {k : κ}, (∀ p ∈ kvs, p.1 ≠ k) → valV kvs k = none
  | [], _, _ => rfl
  | p :: kvs, k, h => by
    rw [valV_neg (h p (List.mem_cons_self ..))]
    exact valV_no fun q hq => h q (List.mem_cons_of_mem _ hq)
theorem merge_new : ∀ (more acc : List (Key × V)), (more.map (·.1)).Nodup → (∀ p ∈ more, ∀ q ∈ acc, q.1 ≠ p.1) → mergeK acc more = acc ++ more
  | [], acc, _, _ => by simp [mergeK]
  | p :: more, acc, nd, h => by
    obtain ⟨h1, h2⟩ := List.nodup_cons.mp (show (p.1 :: more.map (·.1)).Nodup from nd)
    show mergeK (putK acc p.1 p.2) more = _
    rw [putK_new _ (valV_no fun q hq => h p (List.mem_cons_self ..) q hq), merge_new more _ h2 ?_, List.append_assoc]
    · rfl
    · intro q hq r hr
      rcases List.mem_append.1 hr with hr | hr
      · exact h q (List.mem_cons_of_mem _ hq) r hr
      · have : r = (p.1, p.2) := by simpa using hr
        rw [this]
        exact fun e => h1 (by show p.1 ∈ _; rw [show p.1 = q.1 from e]; exact List.mem_map.mpr ⟨q, hq, rfl⟩)
abbrev zk (z : Int) : Key × V := (Sum.inl z, V.int 0)
theorem zk_merge {rs : List Int} (nd : rs.Nodup) : mergeK [] (rs.map zk) = rs.map zk := by
  rw [merge_new _ _ ?_ (fun p _ q hq => by cases hq)]
  · rfl
  · rw [List.map_map]
    exact List.Pairwise.map _ (fun a b h e => h (Sum.inl.inj e)) nd
theorem zk_val : ∀ {rs : List Int} {z : Int}, z ∈ rs → valV (rs.map zk) (Sum.inl z : Key) = some (.int 0)
  | [], _, h => by cases h
  | y :: rs, z, h => by
    show valV (zk y :: rs.map zk) _ = _
    by_cases e : y = z
    · subst e
      exact valV_pos rfl
    · rw [valV_neg fun q => e (Sum.inl.inj q)]
      rcases List.mem_cons.mp h with h | h
      · exact absurd h.symm e
      · exact zk_val h
theorem TapeAt.ne {T : Tape} {H : Hp} (h : TapeAt T H) {p : Addr} (n : H p = none) : p ≠ T.t := fun e => by
  obtain ⟨xs, z⟩ := h.some
  rw [e, z] at n
  cases n
theorem dpInts {K : PySem.W.Frag} {H : Hp} : ∀ rs : List Int, DpAll K H (rs.map V.int) (rs.map PyData.int)
  | [] => .nil
  | z :: rs => .cons (.int z) (dpInts rs)
def keyInts (F : Fnd) : List Int := (keys F).map fun (s : Nat) => (s : Int)
theorem keyInts_nd {F : Fnd} (nd : (keys F).Nodup) : (keyInts F).Nodup := List.Pairwise.map _ (fun a b (h : a ≠ b) (e : (a : Int) = (b : Int)) => h (by omega)) nd
theorem restK_keys (m : Nat) (F : Fnd) : (restK m F).map (fun kv => kV kv.1) = (keyInts F).map V.int := by
  unfold restK keyInts keys
  simp only [List.map_map]
  rfl
theorem max_eq (D : Nat) : (if (1 : Int) > ((D : Nat) : Int) then 1 else ((D : Nat) : Int)) = ((max D 1 : Nat) : Int) := by
  split <;> omega

theorem dec_dvd (D m : Nat) : decide (V.int (((D : Nat) : Int) % ((m : Nat) : Int)) = V.int 0) = decide (m ∣ D) := by
  have e : (V.int (((D : Nat) : Int) % ((m : Nat) : Int)) = V.int 0) ↔ m ∣ D := by
    constructor
    · intro h
      injection h with h
      exact Int.natCast_dvd_natCast.mp (Int.dvd_of_emod_eq_zero h)
    · intro h
      rw [Int.emod_eq_zero_of_dvd (Int.natCast_dvd_natCast.mpr h)]
  exact decide_eq_decide.mpr e
def spLaw (K : PySem.W.Frag) : Sp := fun vs H Q _ => ∃ (a : Addr) (ns : List Int), vs = [.ref a] ∧ SqL K H a (ns.map V.int) ∧ ns.length ≤ 63 ∧ ∀ H', Q (.bl true) H'
def sp_law (K : PySem.W.Frag) (mg : Str → Option Value) (T : Txt K mg) : Sp := spLaw K
section
variable {P : Program} {w : World} {K : PySem.W.Frag} {mg : Str → Option Value} {base : Heap}
theorem ok_law (T : Txt K mg) : FnOk P w K mg base CX0 7 T.d_law.f T.d_law.fd ["_law_script"] (sp_law K mg T) := by
  have G_Machine___init__ := ok_Machine___init__ (P := P) (w := w) (base := base) T
  have G__law_divisor := ok__law_divisor (P := P) (w := w) (base := base) T
  have G__law_drawn := ok__law_drawn (P := P) (w := w) (base := base) T
  have G__law_first := ok__law_first (P := P) (w := w) (base := base) T
  have G__law_is_int := ok__law_is_int (P := P) (w := w) (base := base) T
  have G__law_modular_meter := ok__law_modular_meter (P := P) (w := w) (base := base) T
  have G__law_pick := ok__law_pick (P := P) (w := w) (base := base) T
  have G__law_read := ok__law_read (P := P) (w := w) (base := base) T
  have G__law_run := ok__law_run (P := P) (w := w) (base := base) T
  have G__law_tape := ok__law_tape (P := P) (w := w) (base := base) T
  have G_parting_rests := ok_parting_rests (P := P) (w := w) (base := base) T
  have G_rests := ok_rests (P := P) (w := w) (base := base) T
  have G_turns := ok_turns (P := P) (w := w) (base := base) T
  refine T.d_law.F.ok sc_law (fun vs H Q E h => ?_) (fun cdv A outer s H vs Q E hr h => ?_)
  · obtain ⟨a, ns, rfl, hS, hl, k⟩ := h
    rfl
  · obtain ⟨a, ns, rfl, hS, hl, k⟩ := h
    have hu := hu_of hr
    refine ⟨_, (pss_cons (ps_set (i := 1) sc_law.nd rfl (Or.inl rfl) (pe_call G__law_tape (hr.mono (by decide)) rfl T.d__law_tape.g T.d__law_tape.F.kp T.d__law_tape.b .nil pass0 (pa_cons (pv 0) pa_nil)))
      (pss_cons (ps_set (i := 2) sc_law.nd rfl (Or.inl rfl) (pe_op op_add pe_int (pe_op op_mul pe_int (pe_callTy (T := "int") call_int1 (by rfl) T.z_int (by decide +kernel) (pa_cons (pe_cmpR op_eq (pe_call G__law_pick (hr.mono (by decide)) rfl T.d__law_pick.g T.d__law_pick.F.kp T.d__law_pick.b .nil pass0 (pa_cons (pv 1) (pa_cons pe_int pa_nil))) pe_int (nomark _)) pa_nil)))))
      (pss_cons (ps_set (i := 3) sc_law.nd rfl (Or.inl rfl) (pe_call G__law_drawn (hr.mono (by decide)) rfl T.d__law_drawn.g T.d__law_drawn.F.kp T.d__law_drawn.b .nil pass0 (pa_cons (pv 1) (pa_cons (pv 2) (pa_cons pe_int (pa_cons pe_int pa_nil))))))
      (pss_cons (ps_set (i := 4) sc_law.nd rfl (Or.inl rfl) (pe_call G__law_modular_meter (hr.mono (by decide)) rfl T.d__law_modular_meter.g T.d__law_modular_meter.F.kp T.d__law_modular_meter.b .nil pass0 (pa_cons (pv 1) (pa_cons (pv 3) pa_nil))))
      (pss_cons (ps_set (i := 5) sc_law.nd rfl (Or.inl rfl) (pe_make T.mkM G_Machine___init__ (hr.mono (by decide)) rfl T.gC T.d_Machine___init__.b .nil pass0 (pa_cons (pe_ix ix_tup (pv 3) pe_int (fun _ _ => rfl)) (pa_cons (pe_ix ix_tup (pv 3) pe_int (fun _ _ => rfl)) (pa_cons (pe_ix ix_tup (pv 3) pe_int (fun _ _ => rfl)) pa_nil)))))
      (pss_cons (ps_set (i := 6) sc_law.nd rfl (Or.inl rfl) (pe_call G__law_divisor (hr.mono (by decide)) rfl T.d__law_divisor.g T.d__law_divisor.F.kp T.d__law_divisor.b .nil pass0 (pa_cons (pv 3) (pa_cons (pv 4) pa_nil))))
      (pss_cons (ps_set (i := 7) sc_law.nd rfl (Or.inl rfl) (pe_call G_turns (hr.mono (by decide)) rfl T.d_turns.g T.d_turns.F.kp T.d_turns.b .nil pass0 (pa_cons (pv 5) (pa_cons (pv 4) pa_nil))))
      (pss_cons (ps_if (PW.pt (pw_or (pt_not (pt_val (pe_call G__law_is_int (hr.mono (by decide)) rfl T.d__law_is_int.g T.d__law_is_int.F.kp T.d__law_is_int.b .nil pass0 (pa_cons (pv 7) pa_nil)))) (pw_or1 (pt_cmpR op_ne (pv 7) (pv 6) (nomark _)))))
       (pss_one (ps_ret pe_bl))
       pss_nil)
      (pss_cons (ps_set (i := 8) sc_law.nd rfl (Or.inl rfl) (pe_callB (id := "sorted") cr_sorted (by rfl) T.z_sorted (by decide +kernel) (pa_cons (pe_callTy (T := "list") (call_listD rfl) (by rfl) T.z_list (by decide +kernel) (pa_cons (pe_call G__law_first (hr.mono (by decide)) rfl T.d__law_first.g T.d__law_first.F.kp T.d__law_first.b .nil pass0 (pa_cons (pv 3) (pa_cons (pv 4) pa_nil))) pa_nil)) pa_nil)))
      (pss_cons (ps_set (i := 9) sc_law.nd rfl (Or.inl rfl) (pe_lst (pa_cons pe_int (pa_cons (pe_op op_add pe_int (pe_call G__law_pick (hr.mono (by decide)) rfl T.d__law_pick.g T.d__law_pick.F.kp T.d__law_pick.b .nil pass0 (pa_cons (pv 1) (pa_cons pe_int pa_nil)))) (pa_cons pe_int (pa_cons (pe_op op_pow pe_int pe_int) (pa_cons (pe_callB (id := "max") (call_max2 rfl) (by rfl) T.z_max (by decide +kernel) (pa_cons (pv 6) (pa_cons pe_int pa_nil))) (pa_cons (pe_op op_add (pe_op op_mul pe_int (pv 6)) pe_int) pa_nil))))))))
      (pss_cons (ps_expr (pe_bm PySem.F.plainAttrs_list PySem.F.slot_list_append PySem.F.type_list_append mt_append (pv 9) (pa_cons (pe_op op_mul (pe_callB (id := "max") (call_max2 rfl) (by rfl) T.z_max (by decide +kernel) (pa_cons (pv 6) (pa_cons pe_int pa_nil))) (pe_op op_add pe_int (pe_call G__law_pick (hr.mono (by decide)) rfl T.d__law_pick.g T.d__law_pick.F.kp T.d__law_pick.b .nil pass0 (pa_cons (pv 1) (pa_cons pe_int pa_nil))))) pa_nil)))
      (pss_cons (ps_for PassesOwn.never rfl (pi_list (pv 9)) (pg_name (i := 10) sc_law.nd rfl (Or.inl rfl))
       (pss_cons (ps_set (i := 11) sc_law.nd rfl (Or.inl rfl) (pe_call G_rests (hr.mono (by decide)) rfl T.d_rests.g T.d_rests.F.kp T.d_rests.b .nil pass0 (pa_cons (pv 5) (pa_cons (pv 4) (pa_cons (pv 10) pa_nil)))))
        (pss_cons (ps_if (pt_cmpR op_ne (pe_cmpR op_notN (pv 11) pe_non (nomark _)) (pe_cmpR op_eq (pe_op op_mod (pe_callTy (T := "int") call_int1 (by rfl) T.z_int (by decide +kernel) (pa_cons (pv 6) pa_nil)) (pv 10)) pe_int (nomark _)) (nomark _))
         (pss_one (ps_ret pe_bl))
         pss_nil)
        (pss_cons (ps_if (pt_cmpR op_ne (pe_cmpR op_isN (pe_call G_parting_rests (hr.mono (by decide)) rfl T.d_parting_rests.g T.d_parting_rests.F.kp T.d_parting_rests.b .nil pass0 (pa_cons (pv 5) (pa_cons (pv 4) (pa_cons (pv 10) pa_nil)))) pe_non (nomark _)) (pe_cmpR op_notN (pv 11) pe_non (nomark _)) (nomark _))
         (pss_one (ps_ret pe_bl))
         pss_nil)
        (pss_one (ps_if (pt_cmpR op_notN (pv 11) pe_non (nomark _))
         (pss_cons (ps_if (PW.pt (pw_or (pt_not (pt_val (pe_callB (id := "isinstance") call_isi (by rfl) T.z_isinstance (by decide +kernel) (pa_cons (pv 11) (pa_cons (pe_bltn (v := .ty "dict") (u := .type "dict") rfl T.z_dict (by decide +kernel) rfl) pa_nil))))) (pw_or1 (pt_cmpR (op_neD hr.units) (pe_callB (id := "sorted") cr_sorted (by rfl) T.z_sorted (by decide +kernel) (pa_cons (pe_callTy (T := "list") (call_listD rfl) (by rfl) T.z_list (by decide +kernel) (pa_cons (pv 11) pa_nil)) pa_nil)) (pv 8) (nomark _)))))
           (pss_one (ps_ret pe_bl))
           pss_nil)
          (pss_cons (ps_for PassesOwn.never rfl (pi_range1 (by rfl) T.z_range (pa_cons pe_int pa_nil)) (pg_name (i := 12) sc_law.nd rfl (Or.inl rfl))
           (pss_cons (ps_asg (pe_call G__law_read (hr.mono (by decide)) rfl T.d__law_read.g T.d__law_read.F.kp T.d__law_read.b .nil pass0 (pa_cons (pv 3) (pa_cons (pv 4) (pa_cons (pe_call G__law_run (hr.mono (by decide)) rfl T.d__law_run.g T.d__law_run.F.kp T.d__law_run.b .nil pass0 (pa_cons (pv 1) (pa_cons (pv 3) (pa_cons pe_int pa_nil)))) pa_nil)))) (pg_tup rfl (pgs_cons (pg_name (i := 13) sc_law.nd rfl (Or.inl rfl)) (pgs_cons (pg_name (i := 14) sc_law.nd rfl (Or.inl rfl)) pgs_nil))))
            (pss_cons (ps_set (i := 15) sc_law.nd rfl (Or.inl rfl) (pe_dget hu (pv 11) (pv 14) (fun _ _ => rfl)))
            (pss_one (ps_if (PW.pt (pw_or (pt_not (pt_val (pe_call G__law_is_int (hr.mono (by decide)) rfl T.d__law_is_int.g T.d__law_is_int.F.kp T.d__law_is_int.b .nil pass0 (pa_cons (pv 15) pa_nil)))) (pw_or1 (pt_cmpR op_ne (pv 15) (pe_op op_mod (pe_callTy (T := "int") call_int1 (by rfl) T.z_int (by decide +kernel) (pa_cons (pv 13) pa_nil)) (pv 10)) (nomark _)))))
             (pss_one (ps_ret pe_bl))
             pss_nil)))))
          (pss_one (ps_expr (pe_dclear (pv 11))))))
         pss_nil))))))
      (pss_one (ps_ret (pe_and (pe_cmpR op_eq (pe_call G_turns (hr.mono (by decide)) rfl T.d_turns.g T.d_turns.F.kp T.d_turns.b .nil pass0 (pa_cons (pv 5) (pa_cons (pv 4) pa_nil))) (pv 6) (nomark _)) (pe_one (pe_cmpR (op_eq_dictA hr.units0) (pe_call G_rests (hr.mono (by decide)) rfl T.d_rests.g T.d_rests.F.kp T.d_rests.b .nil pass0 (pa_cons (pv 5) (pa_cons (pv 4) (pa_cons pe_int pa_nil)))) (pe_callTy (T := "dict") (call_dictP rfl) (by rfl) T.z_dict (by decide +kernel) (pa_cons (pe_lc (own := [("_law_standing", 14)]) rfl sc_law.nd (pi_list (pv 8)) (blkOk_by (own := [("_law_standing", 14)]) (N := N_law) (sc := defScope s_law) (by decide +kernel)) (fun _ _ _ _ _ => (pg_name (i := 14) sc_law.nd rfl (Or.inl rfl))) (fun _ _ _ _ _ => pts_nil) (fun _ _ _ _ _ => (pe_tup (pa_cons (pv 14) (pa_cons pe_int pa_nil))))) pa_nil)) (nomark _)))))))))))))))))), ?_⟩
    refine ⟨_, rfl, a, ns, rfl, hS, hl, fun Tp H1 tp1 => ?_⟩
    -- most
    refine ⟨_, rfl, Tp, 8, rfl, tp1, by decide, by decide, fun d0 H2 hd0 t2 => ⟨rfl, .inr ⟨_, rfl, _, _, rfl, rfl, .inl ⟨by decide, by decide⟩, _, _, rfl, rfl, ?_⟩⟩⟩
    obtain ⟨n, hn1, hn2, en⟩ : ∃ n : Nat, 1 ≤ n ∧ n ≤ 12 ∧ (5 + 7 * (if decide (V.int ((d0 : Nat) : Int) = V.int 0) = true then 1 else 0) : Int) = ((n : Nat) : Int) := by
      split
      · exact ⟨12, by decide, by decide, rfl⟩
      · exact ⟨5, by decide, by decide, rfl⟩
    dsimp only [gName]
    rw [en]
    -- parts, meter
    refine ⟨_, rfl, _, rfl, Tp, n, rfl, t2.at1, hn1, hn2, fun Pt v H3 t3 hv3 ok => ?_⟩
    refine ⟨_, rfl, _, rfl, Tp, v, Pt, rfl, t3.at1, hv3, ok, fun u W H4 t4 hu4 mk => ?_⟩
    have hv4 := hv3.tx t4.tx
    obtain ⟨pa, m, rfl, ha, hm⟩ := id hv4
    -- machine
    refine ⟨_, rfl, _, _, _, _, rfl, rfl, SqT.of ha, rfl, _, rfl, _, _, _, _, rfl, rfl, SqT.of ha, rfl, _, rfl, _, _, _, _, rfl, rfl, SqT.of ha, rfl, fun x dx nx ndx nex => ?_⟩
    have s45 : Same H4 (upd (upd H4 dx (.own x)) x (.ins T.C dx [])) := fun b o e => by
      rw [upd_ne (ne_of_none e nx), upd_ne (ne_of_none e ndx)]
      exact e
    refine ⟨x, dx, m, Pt, rfl, upd_same, RMoves.mono _ _ _ _ (Same.tx s45) hm, ok, fun H5 bx hx5 => ⟨rfl, ?_⟩⟩
    have s5 : Same H4 H5 := fun b o e => bx b o (s45 b o e) (ne_of_none e nx)
    have tp5 := t4.at1.same s5
    have hv5 := hv4.tx (Same.tx s5)
    have hu5 := WMeter.mono _ _ _ _ (Same.tx s5) hu4
    obtain ⟨fo, sh⟩ := first_ok ok mk
    have fl := fo.len
    have m2 := ok.m2
    -- due
    refine ⟨_, rfl, _, rfl, .ref pa, u, Pt, W, rfl, hv5, ok, hu5, mk, fun H6 s6 => ?_⟩
    have tp6 := tp5.same s6
    have hv6 := hv5.tx (Same.tx s6)
    have hu6 := WMeter.mono _ _ _ _ (Same.tx s6) hu5
    have hx6 := hx5.same s6
    -- told
    refine ⟨_, rfl, _, rfl, x, u, Pt, W, rfl, hx6, ok, hu6, mk, fun H7 s7 => ?_⟩
    have tp7 := tp6.same s7
    have hv7 := hv6.tx (Same.tx s7)
    have hu7 := WMeter.mono _ _ _ _ (Same.tx s7) hu6
    have hx7 := hx6.same s7
    refine ⟨_, rfl, _, rfl, _, rfl, ifN rfl ?_⟩
    refine ⟨_, rfl, _, rfl, rfl, _, rfl, ifN (by simp) ?_⟩
    -- reached
    refine ⟨_, rfl, _, rfl, .ref pa, u, Pt, W, rfl, hv7, ok, hu7, mk, fun p kvs H8 s8 np hp8 hf8 => ⟨p, kvs, rfl, .inl hp8, fun l nl => ⟨l, keyInts (first Pt W), rfl, SqL.of ?_, ?_, fun rs rl hperm hsort nrl => ?_⟩⟩⟩
    · rw [hf8.keysK]
      unfold keyInts
      rw [List.map_map]
      exact upd_same
    · unfold keyInts keys
      rw [List.length_map, List.length_map]
      omega
    have s9 : Same H7 (upd (upd H8 l (.lst (kvs.map fun kv => kV kv.1))) rl (.lst (rs.map V.int))) := Same.alloc' (Same.alloc' s8 nl) nrl
    have hrl9 : (upd (upd H8 l (.lst (kvs.map fun kv => kV kv.1))) rl (.lst (rs.map V.int))) rl = some (.lst (rs.map V.int)) := upd_same
    have rlne : rl ≠ Tp.t := (tp7.same (Same.alloc' s8 nl)).ne nrl
    generalize hH9 : upd (upd H8 l (.lst (kvs.map fun kv => kV kv.1))) rl (.lst (rs.map V.int)) = H9 at s9 hrl9
    have tp9 := tp7.same s9
    generalize hD : due Pt W = D
    have hDle : D ≤ 2300 := by rw [← hD]; exact due_le ok mk
    -- numbers
    refine ⟨_, rfl, Tp, 12, rfl, tp9, by decide, by decide, fun d1 H10 hd1 t10 => ⟨_, _, rfl, rfl, _, _, rfl, rfl, ⟨by decide, by decide, by decide⟩, _, rfl, _, _, rfl, _, rfl, _, _, rfl, rfl, .inl ⟨by decide, by decide⟩, _, _, rfl, rfl, (by show 6 ≤ sizeLine; decide), fun nl nnl => ?_⟩⟩
    rw [max_eq]
    have nlne := t10.at1.ne nnl
    have t10' := t10.alloc (o := .lst [.int 1, .int (1 + ((d1 : Nat) : Int)), .int 2, .int ((10 : Int) ^ (30 : Int).toNat), .int ((max D 1 : Nat) : Int), .int (2 * ((D : Nat) : Int) + 1)]) nnl
    refine ⟨_, rfl, .inl ⟨rfl, _, SqL.of upd_same⟩, _, rfl, _, _, rfl, _, rfl, Tp, 4, rfl, t10'.at1, by decide, by decide, fun d2 H11 hd2 t11 => ⟨_, _, rfl, rfl, _, _, rfl, rfl, .inr ⟨by omega, by omega⟩, nl, _, _, rfl, rfl, t11.but _ _ nlne upd_same, (by show 6 < sizeLine; decide), ?_⟩⟩
    rw [max_eq]
    have t9_11 := t10'.trans t11
    obtain ⟨ms, hms, hmb⟩ : ∃ ms : List Nat, ([.int 1, .int (1 + ((d1 : Nat) : Int)), .int 2, .int ((10 : Int) ^ (30 : Int).toNat), .int ((max D 1 : Nat) : Int), .int (2 * ((D : Nat) : Int) + 1)] ++ [.int (((max D 1 : Nat) : Int) * (1 + ((d2 : Nat) : Int)))] : List V) = ms.map (fun m => V.int (m : Nat)) ∧ ∀ m ∈ ms, 1 ≤ m ∧ m ≤ 1000000000000000000000000000000 := by
      refine ⟨[1, 1 + d1, 2, 1000000000000000000000000000000, max D 1, 2 * D + 1, max D 1 * (1 + d2)], ?_, ?_⟩
      · have e1 : ((10 : Int) ^ (30 : Int).toNat) = ((1000000000000000000000000000000 : Nat) : Int) := by decide +kernel
        have e2 : (((max D 1 : Nat) : Int) * (1 + ((d2 : Nat) : Int))) = ((max D 1 * (1 + d2) : Nat) : Int) := by rw [Int.natCast_mul, Int.natCast_add]; rfl
        rw [e1, e2]
        simp only [List.map_cons, List.map_nil, List.cons_append, List.nil_append, Int.natCast_add, Int.natCast_mul]
        rfl
      · intro m hm
        have hx : max D 1 ≤ 2300 := by omega
        have hx1 : 1 ≤ max D 1 := by omega
        have hy : max D 1 * (1 + d2) ≤ 2300 * 4 := Nat.mul_le_mul hx (by omega)
        have hy1 : 1 * 1 ≤ max D 1 * (1 + d2) := Nat.mul_le_mul hx1 (by omega)
        simp only [List.mem_cons, or_false, List.not_mem_nil] at hm
        rcases hm with rfl | rfl | rfl | rfl | rfl | rfl | rfl <;> omega
    rw [hms]
    have tL := t9_11.write (o := .lst (ms.map fun m => V.int (m : Nat))) (t10.free nnl)
    have hnl0 : (upd H11 nl (.lst (ms.map fun m => V.int (m : Nat)))) nl = some (.lst (ms.map fun m => V.int (m : Nat))) := upd_same
    have hrl0 := tL.but _ _ rlne hrl9
    have hv0 := (hv7.tx (Same.tx s9)).tx tL.tx
    have hu0 := WMeter.mono _ _ _ _ tL.tx (WMeter.mono _ _ _ _ (Same.tx s9) hu7)
    have hx0 := (hx7.same s9).ts tL
    have tp0 := tL.at1
    have rsl : rs.length ≤ 12 := by
      rw [hperm.length_eq]
      unfold keyInts keys
      rw [List.length_map, List.length_map]
      omega
    generalize upd H11 nl (.lst (ms.map fun m => V.int (m : Nat))) = L0 at tL hnl0 hrl0 hv0 hu0 hx0 tp0 ⊢
    refine ⟨_, rfl, nl, rfl, ⟨_, SqL.of hnl0⟩, for_it (walk_list (xs := ms.map fun m => V.int (m : Nat))) (fun i σ H' => TS Tp L0 H' ∧ ∃ (v10 v11 v12 v13 v14 v15 : Option V), σ = [some (.ref a), some (.ref Tp.t), some (.int (n : Nat)), some (.ref pa), some u, some (.ref x), some (.int (D : Nat)), some (.int (D : Nat)), some (.ref rl), some (.ref nl), v10, v11, v12, v13, v14, v15]) ⟨TS.refl tp0, _, _, _, _, _, _, rfl⟩ (fun i σ H' _ h => SqL.of (h.1.but _ _ nlne hnl0)) ?_ ?_⟩
    · rintro i y σ _ H' hi ⟨t, v10, v11, v12, v13, v14, v15, rfl⟩ ⟨rfl, hy⟩
      obtain ⟨mm, hmm, rfl⟩ : ∃ mm, ms[i]? = some mm ∧ y = .int ((mm : Nat) : Int) := by
        rw [List.getElem?_map] at hy
        cases q : ms[i]? with
        | none => rw [q] at hy; cases hy
        | some mm => rw [q] at hy; exact ⟨mm, rfl, (Option.some.inj hy).symm⟩
      obtain ⟨hm1, hm2⟩ := hmb mm (mem_of hmm)
      have hm0 : (0 : Int) < ((mm : Nat) : Int) := by omega
      have hdv : (∀ y ∈ diffs Pt W, ((mm : Nat) : Int) ∣ y) ↔ mm ∣ D := by rw [← hD]; exact (gall_dvd mm _).symm
      have hv' := hv0.tx t.tx
      have hu' := WMeter.mono _ _ _ _ t.tx hu0
      have hx' := hx0.ts t
      -- shown = rests(machine, meter, number)
      refine ⟨_, rfl, _, rfl, _, rfl, x, u, Pt, W, mm, rfl, hx', ok, hu', mk, hm1, hm2, fun hnd H2 s2 => ?_, fun hd p H2 s2 np hp => ?_⟩
      · have hnD : ¬ mm ∣ D := fun q => hnd (hdv.mpr q)
        refine ⟨_, rfl, rfl, _, rfl, .inl ⟨_, rfl, _, rfl, _, _, rfl, rfl, hm0, rfl, rfl, _, rfl, ifN ?_ ?_⟩⟩
        · rw [dec_dvd, decide_eq_false hnD]
          rfl
        refine ⟨_, rfl, _, rfl, _, rfl, x, u, Pt, W, mm, rfl, hx'.same s2, ok, WMeter.mono _ _ _ _ (Same.tx s2) hu', mk, hm1, hm2, fun _ q H3 s3 => ?_, fun hd => absurd hd hnd⟩
        refine ⟨rfl, _, rfl, rfl, rfl, _, rfl, ifN rfl ?_⟩
        refine ⟨_, rfl, rfl, _, rfl, ifN rfl ?_⟩
        exact ⟨(t.same s2).same s3, _, _, _, _, _, _, rfl⟩
      · have hmD : mm ∣ D := hdv.mp hd
        refine ⟨_, rfl, rfl, _, rfl, .inl ⟨_, rfl, _, rfl, _, _, rfl, rfl, hm0, rfl, rfl, _, rfl, ifN ?_ ?_⟩⟩
        · rw [dec_dvd, decide_eq_true hmD]
          rfl
        refine ⟨_, rfl, _, rfl, _, rfl, x, u, Pt, W, mm, rfl, hx'.same s2, ok, WMeter.mono _ _ _ _ (Same.tx s2) hu', mk, hm1, hm2, fun hnd => absurd hd hnd, fun _ H3 s3 => ?_⟩
        refine ⟨rfl, _, rfl, rfl, rfl, _, rfl, ifN rfl ?_⟩
        refine ⟨_, rfl, rfl, _, rfl, ifP rfl ?_⟩
        have t3 := (t.same s2).same s3
        have hp3 := s3 _ _ hp
        have np0 := t.free np
        -- isinstance(shown, dict), sorted(list(shown)) != reached
        refine ⟨_, rfl, _, _, _, _, _, rfl, .ty _, .base (.dK hp3), kdd, _, rfl, ifN rfl ?_⟩
        refine ⟨_, rfl, p, _, rfl, .inl hp3, fun l2 nl2 => ⟨l2, keyInts (first Pt W), rfl, SqL.of (upd_same.trans (by rw [restK_keys])), ?_, fun rs2 rl2 hperm2 hsort2 nrl2 => ?_⟩⟩
        · rw [← hperm.length_eq]
          omega
        have s4 : Same H3 (upd (upd H3 l2 (.lst ((restK mm (first Pt W)).map fun kv => kV kv.1))) rl2 (.lst (rs2.map V.int))) := Same.alloc' (Same.alloc nl2) nrl2
        have ers : rs2 = rs := PySem.W.ksm_same (hperm2.trans hperm.symm) hsort2 hsort
        have t4 := t3.same s4
        refine ⟨_, rfl, .list (rs2.map PyData.int), .list (rs.map PyData.int), Dp.lst (SqL.of upd_same) (dpInts rs2), Dp.lst (SqL.of (t4.but _ _ rlne hrl0)) (dpInts rs), PySem.W.ke_shaped_ints rs2, PySem.W.ke_shaped_ints rs, _, rfl, ifN ?_ ?_⟩
        · rw [ers, SeqAt.eqv_refl _ (SeqAt.canLay_of_shaped (PySem.W.ke_shaped_ints rs))]
          rfl
        have hp4 := s4 _ _ hp3
        generalize upd (upd H3 l2 (.lst ((restK mm (first Pt W)).map fun kv => kV kv.1))) rl2 (.lst (rs2.map V.int)) = H4' at s4 t4 hp4 ⊢
        -- for k in range(4)
        refine ⟨4, rfl, by decide, by decide, for_range (n := 4) (fun j σ H' => TS Tp L0 H' ∧ H' p = some (.dK (restK mm (first Pt W))) ∧ ∃ (v12 v13 v14 v15 : Option V), σ = [some (.ref a), some (.ref Tp.t), some (.int (n : Nat)), some (.ref pa), some u, some (.ref x), some (.int (D : Nat)), some (.int (D : Nat)), some (.ref rl), some (.ref nl), some (.int ((mm : Nat) : Int)), some (.ref p), v12, v13, v14, v15]) ⟨t4, hp4, _, _, _, _, rfl⟩ ?_ ?_⟩
        · rintro j σ H5' hj ⟨t5, hp5, w12, w13, w14, w15, rfl⟩
          refine ⟨_, rfl, _, rfl, _, rfl, _, rfl, Tp, .ref pa, Pt, rfl, t5.at1, hv0.tx t5.tx, ok, fun r l H6' t6 hls hrun => ?_⟩
          have t56 := t5.trans t6
          refine ⟨.ref pa, u, r, Pt, W, l, rfl, hv0.tx t56.tx, ok, WMeter.mono _ _ _ _ t56.tx hu0, mk, hrun, hls, fun q H7' s7' hq => ?_⟩
          have t57 := t56.same s7'
          have hp7 := s7' _ _ (t6.keep hp5 (fun _ z => by cases z))
          refine ⟨q, _, rfl, SqT.of hq, rfl, _, _, rfl, _, _, rfl, rfl, ?_⟩
          have h0k : 0 ∈ keys (first Pt W) := List.mem_map.mpr ⟨(0, 0), mem_of fo.z, rfl⟩
          obtain ⟨hk, hdvd⟩ := walk_rest ok mk hd l 0 0 hls h0k (by rw [rd_of fo.nd fo.z]; exact Int.dvd_zero _)
          obtain ⟨i', r', hi'⟩ := key_at hk
          rw [rd_of fo.nd hi'] at hdvd
          have hval := restK_val mm fo.nd hi'
          have hem := emod_of_dvd_sub hdvd
          -- rest = shown[standing]
          refine ⟨_, rfl, _, rfl, p, .int (r' % ((mm : Nat) : Int)), rfl, (by rw [← hval]; exact DGet.k (k := Sum.inl (((walkTo Pt W l 0 0).1 : Nat) : Int)) hp7), ?_⟩
          refine ⟨_, rfl, _, rfl, _, rfl, ifN rfl ?_⟩
          refine ⟨_, rfl, _, rfl, .inl ⟨_, rfl, _, rfl, _, _, rfl, rfl, hm0, rfl, _, rfl, ifN ?_ ?_⟩⟩
          · show (!decide (V.int (r' % ((mm : Nat) : Int)) = V.int ((walkTo Pt W l 0 0).2 % ((mm : Nat) : Int)))) = false
            rw [hem]
            simp
          · exact ⟨t57, hp7, _, _, _, _, rfl⟩
        · rintro σ H5' ⟨t5, hp5, w12, w13, w14, w15, rfl⟩
          refine ⟨_, rfl, .inr (.inr (.inl ⟨rfl, .inl ⟨_, hp5⟩⟩)), p, _, rfl, rfl, hp5, ?_⟩
          exact ⟨t5.write np0, _, _, _, _, _, _, rfl⟩
    · rintro σ H' ⟨t, v10, v11, v12, v13, v14, v15, rfl⟩
      have hu' := WMeter.mono _ _ _ _ t.tx hu0
      have hx' := hx0.ts t
      refine ⟨_, rfl, _, rfl, x, u, Pt, W, rfl, hx', ok, hu', mk, fun H2 s2 => ⟨_, rfl, rfl, _, rfl, ifP (by rw [hD]; simp) ?_⟩⟩
      have hu2 := WMeter.mono _ _ _ _ (Same.tx s2) hu'
      refine ⟨_, rfl, _, rfl, x, u, Pt, W, 1, rfl, hx'.same s2, ok, hu2, mk, by decide, by decide, fun hnd => absurd (fun y _ => Int.one_dvd y) hnd, fun hd p H3 s3 np hp => ?_⟩
      have hrl3 := s3 _ _ (s2 _ _ (t.but _ _ rlne hrl0))
      refine ⟨_, rfl, rl, rfl, ⟨_, SqL.of hrl3⟩, fun DD hDD => lc_list (a := rl) (xs := rs.map V.int) (fun i H' => Same H3 H' ∧ ∃ ps : List Addr, H' DD = some (.lst (ps.map V.ref)) ∧ Paired (fun p kv => H' p = some (.tup [kV kv.1, kv.2])) ps ((rs.take i).map zk)) ⟨Same.alloc hDD, [], upd_same, .nil⟩ (fun i H' _ h => SqL.of (h.1 _ _ hrl3)) ?_ ?_⟩
      · rintro i y H4 hy ⟨s4, ps, hps, hpd⟩
        obtain ⟨z, hz, rfl⟩ : ∃ z, rs[i]? = some z ∧ y = .int z := by
          rw [List.getElem?_map] at hy
          cases q : rs[i]? with
          | none => rw [q] at hy; cases hy
          | some z => rw [q] at hy; exact ⟨z, rfl, (Option.some.inj hy).symm⟩
        have hpl := Pd.len hpd
        rw [List.length_map, List.length_take] at hpl
        refine ⟨rfl, ?_⟩
        refine ⟨_, rfl, (by show 2 ≤ sizeLine; decide), fun q hq => ⟨_, (Same.alloc hq) _ _ hps, small1000 (by rw [List.length_map]; omega), Same.write (Same.alloc' s4 hq) hDD, ps ++ [q], upd_same.trans (by rw [List.map_append]; rfl), ?_⟩⟩
        have ne : DD ≠ q := ne_of_none hps hq
        have tx : TX H4 (upd (upd H4 q (.tup [.int z, .int 0])) DD (.lst (ps.map V.ref ++ [.ref q]))) := (tx_alloc hq).trans (tx_lst ((upd_ne ne).trans hps))
        rw [map_snoc _ hz]
        exact Pd.snoc (Pd.mono (fun a b h => tx _ _ h) hpd) ((upd_ne ne.symm).trans upd_same)
      · rintro H4 ⟨s4, ps, hps, hpd⟩
        rw [List.length_map, List.take_length] at hpd
        refine ⟨DD, ps, rs.map zk, rfl, SqL.of hps, Pd.mono (fun a b h => SqT.of h) hpd, fun q hq => ?_⟩
        have rnd : rs.Nodup := (List.Perm.nodup_iff hperm).mpr (keyInts_nd fo.nd)
        rw [zk_merge rnd]
        refine ⟨p, q, restK 1 (first Pt W), rs.map zk, rfl, rfl, (Same.alloc hq) _ _ (s4 _ _ hp), upd_same, ?_, fun kv hkv => ?_, k _⟩
        · rw [List.length_map, hperm.length_eq]
          unfold restK keyInts keys
          simp
        · obtain ⟨⟨s, r⟩, hsr, rfl⟩ := List.mem_map.mp hkv
          refine ⟨?_, rfl⟩
          have hs : ((s : Nat) : Int) ∈ rs := hperm.mem_iff.mpr (List.mem_map.mpr ⟨s, List.mem_map.mpr ⟨(s, r), hsr, rfl⟩, rfl⟩)
          rw [zk_val hs]
          show some (V.int 0) = some (V.int (r % ((1 : Nat) : Int)))
          rw [show ((1 : Nat) : Int) = 1 from rfl, Int.emod_one]
end
end K70

namespace K70
open PySem L2
def DefAt.of {K : PySem.W.Frag} {mg : Str → Option Value} {h : Heap} (X : K.In h) (G : h.Ns mainGlobals mg) {x : Str} {st : Stmt} {ps : List Str} {f : Addr} {oc : Value} {od an : Option Addr} {sl : Array (Option Value)} {kV dc pm cd ct : Value}
    (a : PySem.W.nsIn K mainGlobals x = some (some (.ref f))) (l : K.lookup f = some ⟨oc, od, .func (PySem.W.fnOf x x (defArgs st) (defBody st) (defScope st) .none kV dc pm an cd ct), sl⟩) (c : PySem.W.codeIn K cd x = true) (k : PySem.W.keepIn K (.ref f) = true)
    (hb : ∀ (kV doc pm : Value) (an : Option Addr) (cdv ct : Value) (us : List Value), us.length = ps.length → bindArgs (PySem.W.fnOf x x (defArgs st) (defBody st) (defScope st) .none kV doc pm an cdv ct) ⟨us, []⟩ = pure (ps.zip us)) : DefAt K mg x st ps :=
  ⟨f, _, fun_mk l c k, PySem.W.mg_of X G a, (fun_mk (st := st) l c k).binds hb⟩
def MetAt.of {K : PySem.W.Frag} {C : Addr} {m q : Str} {st : Stmt} {ps : List Str} {f : Addr} {oc : Value} {od an : Option Addr} {sl : Array (Option Value)} {kV dc pm cd ct : Value}
    (a : PySem.W.findIn K (.ref C) m = some (some (.ref f))) (i : PySem.W.isFn K (.ref f) = true) (l : K.lookup f = some ⟨oc, od, .func (PySem.W.fnOf m q (defArgs st) (defBody st) (defScope st) .none kV dc pm an cd ct), sl⟩) (c : PySem.W.codeIn K cd q = true) (k : PySem.W.keepIn K (.ref f) = true)
    (hb : ∀ (kV doc pm : Value) (an : Option Addr) (cdv ct : Value) (us : List Value), us.length = ps.length → bindArgs (PySem.W.fnOf m q (defArgs st) (defBody st) (defScope st) .none kV doc pm an cdv ct) ⟨us, []⟩ = pure (ps.zip us)) : MetAt K C m q st ps :=
  ⟨f, _, fun_mk l c k, ⟨a, i, k⟩, (fun_mk (st := st) l c k).binds hb⟩
theorem all_mk {l : PySem.W.OpenLaw} {w : World} {K : PySem.W.Frag} {h : Heap} {mg : Str → Option Value} {fa C : Addr} (X : K.In h) (G : h.Ns mainGlobals mg) (hfa : mg "law" = some (.ref fa))
    {t_MOST_ROWS : Tok}
    {t_MOST_ANSWERS : Tok}
    {t_MOST_STANDINGS : Tok}
    {t_MOST_TICKS : Tok}
    {t_MOST_READING : Tok}
    {t_MOST_DIVISOR : Tok}
    {t_SMALL : Tok}
    {f0 : Addr} {od0 an0 : Option Addr} {sl0 : Array (Option Value)} {oc0 kV0 dc0 pm0 cd0 ct0 : Value}
    {f1 : Addr} {od1 an1 : Option Addr} {sl1 : Array (Option Value)} {oc1 kV1 dc1 pm1 cd1 ct1 : Value}
    {f2 : Addr} {od2 an2 : Option Addr} {sl2 : Array (Option Value)} {oc2 kV2 dc2 pm2 cd2 ct2 : Value}
    {f3 : Addr} {od3 an3 : Option Addr} {sl3 : Array (Option Value)} {oc3 kV3 dc3 pm3 cd3 ct3 : Value}
    {f4 : Addr} {od4 an4 : Option Addr} {sl4 : Array (Option Value)} {oc4 kV4 dc4 pm4 cd4 ct4 : Value}
    {f5 : Addr} {od5 an5 : Option Addr} {sl5 : Array (Option Value)} {oc5 kV5 dc5 pm5 cd5 ct5 : Value}
    {f6 : Addr} {od6 an6 : Option Addr} {sl6 : Array (Option Value)} {oc6 kV6 dc6 pm6 cd6 ct6 : Value}
    {f7 : Addr} {od7 an7 : Option Addr} {sl7 : Array (Option Value)} {oc7 kV7 dc7 pm7 cd7 ct7 : Value}
    {f8 : Addr} {od8 an8 : Option Addr} {sl8 : Array (Option Value)} {oc8 kV8 dc8 pm8 cd8 ct8 : Value}
    {f9 : Addr} {od9 an9 : Option Addr} {sl9 : Array (Option Value)} {oc9 kV9 dc9 pm9 cd9 ct9 : Value}
    {f10 : Addr} {od10 an10 : Option Addr} {sl10 : Array (Option Value)} {oc10 kV10 dc10 pm10 cd10 ct10 : Value}
    {f11 : Addr} {od11 an11 : Option Addr} {sl11 : Array (Option Value)} {oc11 kV11 dc11 pm11 cd11 ct11 : Value}
    {f12 : Addr} {od12 an12 : Option Addr} {sl12 : Array (Option Value)} {oc12 kV12 dc12 pm12 cd12 ct12 : Value}
    {f13 : Addr} {od13 an13 : Option Addr} {sl13 : Array (Option Value)} {oc13 kV13 dc13 pm13 cd13 ct13 : Value}
    {f14 : Addr} {od14 an14 : Option Addr} {sl14 : Array (Option Value)} {oc14 kV14 dc14 pm14 cd14 ct14 : Value}
    {f15 : Addr} {od15 an15 : Option Addr} {sl15 : Array (Option Value)} {oc15 kV15 dc15 pm15 cd15 ct15 : Value}
    {f16 : Addr} {od16 an16 : Option Addr} {sl16 : Array (Option Value)} {oc16 kV16 dc16 pm16 cd16 ct16 : Value}
    {f17 : Addr} {od17 an17 : Option Addr} {sl17 : Array (Option Value)} {oc17 kV17 dc17 pm17 cd17 ct17 : Value}
    {f18 : Addr} {od18 an18 : Option Addr} {sl18 : Array (Option Value)} {oc18 kV18 dc18 pm18 cd18 ct18 : Value}
    {f19 : Addr} {od19 an19 : Option Addr} {sl19 : Array (Option Value)} {oc19 kV19 dc19 pm19 cd19 ct19 : Value}
    {f20 : Addr} {od20 an20 : Option Addr} {sl20 : Array (Option Value)} {oc20 kV20 dc20 pm20 cd20 ct20 : Value}
    {f21 : Addr} {od21 an21 : Option Addr} {sl21 : Array (Option Value)} {oc21 kV21 dc21 pm21 cd21 ct21 : Value}
    {f22 : Addr} {od22 an22 : Option Addr} {sl22 : Array (Option Value)} {oc22 kV22 dc22 pm22 cd22 ct22 : Value}
    {f23 : Addr} {od23 an23 : Option Addr} {sl23 : Array (Option Value)} {oc23 kV23 dc23 pm23 cd23 ct23 : Value}
    {f24 : Addr} {od24 an24 : Option Addr} {sl24 : Array (Option Value)} {oc24 kV24 dc24 pm24 cd24 ct24 : Value}
    {f25 : Addr} {od25 an25 : Option Addr} {sl25 : Array (Option Value)} {oc25 kV25 dc25 pm25 cd25 ct25 : Value}
    {f26 : Addr} {od26 an26 : Option Addr} {sl26 : Array (Option Value)} {oc26 kV26 dc26 pm26 cd26 ct26 : Value}
    {f27 : Addr} {od27 an27 : Option Addr} {sl27 : Array (Option Value)} {oc27 kV27 dc27 pm27 cd27 ct27 : Value}
    {f28 : Addr} {od28 an28 : Option Addr} {sl28 : Array (Option Value)} {oc28 kV28 dc28 pm28 cd28 ct28 : Value}
    {f29 : Addr} {od29 an29 : Option Addr} {sl29 : Array (Option Value)} {oc29 kV29 dc29 pm29 cd29 ct29 : Value}
    {f30 : Addr} {od30 an30 : Option Addr} {sl30 : Array (Option Value)} {oc30 kV30 dc30 pm30 cd30 ct30 : Value}
    {f31 : Addr} {od31 an31 : Option Addr} {sl31 : Array (Option Value)} {oc31 kV31 dc31 pm31 cd31 ct31 : Value}
    {f32 : Addr} {od32 an32 : Option Addr} {sl32 : Array (Option Value)} {oc32 kV32 dc32 pm32 cd32 ct32 : Value}
    {f33 : Addr} {od33 an33 : Option Addr} {sl33 : Array (Option Value)} {oc33 kV33 dc33 pm33 cd33 ct33 : Value}
    {f34 : Addr} {od34 an34 : Option Addr} {sl34 : Array (Option Value)} {oc34 kV34 dc34 pm34 cd34 ct34 : Value}
    {f35 : Addr} {od35 an35 : Option Addr} {sl35 : Array (Option Value)} {oc35 kV35 dc35 pm35 cd35 ct35 : Value}
    {f36 : Addr} {od36 an36 : Option Addr} {sl36 : Array (Option Value)} {oc36 kV36 dc36 pm36 cd36 ct36 : Value}
    (aC : PySem.W.nsIn K mainGlobals "Machine" = some (some (.ref C)))
    (pg : PySem.W.plainGet K C Str.empty = true)
    (hd : PySem.W.hasDictIn K C = true)
    (po : PySem.W.plainOver K C = true)
    (sa : PySem.W.findIn K (.ref C) "__setattr__" = some (some (.builtin "object.__setattr__")))
    (mk : PySem.W.makesIn K C = true)
    (kc : PySem.W.keepIn K (.ref C) = true)
    (n_rows : PySem.W.findIn K (.ref C) "rows" = some none)
    (n_answers : PySem.W.findIn K (.ref C) "answers" = some none)
    (n_moves : PySem.W.findIn K (.ref C) "moves" = some none)
    (n_size : PySem.W.findIn K (.ref C) "size" = some none)
    (n_kept_steps : PySem.W.findIn K (.ref C) "kept_steps" = some none)
    (n_kept_webs : PySem.W.findIn K (.ref C) "kept_webs" = some none)
    (z_len : PySem.W.nsIn K mainGlobals "len" = some none)
    (z_abs : PySem.W.nsIn K mainGlobals "abs" = some none)
    (z_int : PySem.W.nsIn K mainGlobals "int" = some none)
    (z_bool : PySem.W.nsIn K mainGlobals "bool" = some none)
    (z_str : PySem.W.nsIn K mainGlobals "str" = some none)
    (z_max : PySem.W.nsIn K mainGlobals "max" = some none)
    (z_sorted : PySem.W.nsIn K mainGlobals "sorted" = some none)
    (z_list : PySem.W.nsIn K mainGlobals "list" = some none)
    (z_tuple : PySem.W.nsIn K mainGlobals "tuple" = some none)
    (z_dict : PySem.W.nsIn K mainGlobals "dict" = some none)
    (z_isinstance : PySem.W.nsIn K mainGlobals "isinstance" = some none)
    (z_all : PySem.W.nsIn K mainGlobals "all" = some none)
    (z_range : PySem.W.nsIn K mainGlobals "range" = some none)
    (z_zip : PySem.W.nsIn K mainGlobals "zip" = some none)
    (z_enumerate : PySem.W.nsIn K mainGlobals "enumerate" = some none)
    (m_MOST_ROWS : PySem.W.nsIn K mainGlobals "MOST_ROWS" = some (some (.int 4 t_MOST_ROWS)))
    (m_MOST_ANSWERS : PySem.W.nsIn K mainGlobals "MOST_ANSWERS" = some (some (.int 3 t_MOST_ANSWERS)))
    (m_MOST_STANDINGS : PySem.W.nsIn K mainGlobals "MOST_STANDINGS" = some (some (.int 12 t_MOST_STANDINGS)))
    (m_MOST_TICKS : PySem.W.nsIn K mainGlobals "MOST_TICKS" = some (some (.int 99 t_MOST_TICKS)))
    (m_MOST_READING : PySem.W.nsIn K mainGlobals "MOST_READING" = some (some (.int 99 t_MOST_READING)))
    (m_MOST_DIVISOR : PySem.W.nsIn K mainGlobals "MOST_DIVISOR" = some (some (.int 1000000000000000000000000000000 t_MOST_DIVISOR)))
    (m_SMALL : PySem.W.nsIn K mainGlobals "SMALL" = some (some (.str "abcdefghijklmnopqrstuvwxyz" t_SMALL)))
    (a0 : PySem.W.nsIn K mainGlobals "common_divisor" = some (some (.ref f0)))
    (l0 : K.lookup f0 = some ⟨oc0, od0, .func (PySem.W.fnOf "common_divisor" "common_divisor" (defArgs s_common_divisor) (defBody s_common_divisor) (defScope s_common_divisor) .none kV0 dc0 pm0 an0 cd0 ct0), sl0⟩)
    (c0 : PySem.W.codeIn K cd0 "common_divisor" = true)
    (k0 : PySem.W.keepIn K (.ref f0) = true)
    (a1 : PySem.W.nsIn K mainGlobals "is_integer" = some (some (.ref f1)))
    (l1 : K.lookup f1 = some ⟨oc1, od1, .func (PySem.W.fnOf "is_integer" "is_integer" (defArgs s_is_integer) (defBody s_is_integer) (defScope s_is_integer) .none kV1 dc1 pm1 an1 cd1 ct1), sl1⟩)
    (c1 : PySem.W.codeIn K cd1 "is_integer" = true)
    (k1 : PySem.W.keepIn K (.ref f1) = true)
    (a2 : PySem.W.nsIn K mainGlobals "is_within" = some (some (.ref f2)))
    (l2 : K.lookup f2 = some ⟨oc2, od2, .func (PySem.W.fnOf "is_within" "is_within" (defArgs s_is_within) (defBody s_is_within) (defScope s_is_within) .none kV2 dc2 pm2 an2 cd2 ct2), sl2⟩)
    (c2 : PySem.W.codeIn K cd2 "is_within" = true)
    (k2 : PySem.W.keepIn K (.ref f2) = true)
    (a3 : PySem.W.nsIn K mainGlobals "is_pair" = some (some (.ref f3)))
    (l3 : K.lookup f3 = some ⟨oc3, od3, .func (PySem.W.fnOf "is_pair" "is_pair" (defArgs s_is_pair) (defBody s_is_pair) (defScope s_is_pair) .none kV3 dc3 pm3 an3 cd3 ct3), sl3⟩)
    (c3 : PySem.W.codeIn K cd3 "is_pair" = true)
    (k3 : PySem.W.keepIn K (.ref f3) = true)
    (a4 : PySem.W.nsIn K mainGlobals "is_string_of" = some (some (.ref f4)))
    (l4 : K.lookup f4 = some ⟨oc4, od4, .func (PySem.W.fnOf "is_string_of" "is_string_of" (defArgs s_is_string_of) (defBody s_is_string_of) (defScope s_is_string_of) .none kV4 dc4 pm4 an4 cd4 ct4), sl4⟩)
    (c4 : PySem.W.codeIn K cd4 "is_string_of" = true)
    (k4 : PySem.W.keepIn K (.ref f4) = true)
    (a5 : PySem.W.nsIn K mainGlobals "is_word" = some (some (.ref f5)))
    (l5 : K.lookup f5 = some ⟨oc5, od5, .func (PySem.W.fnOf "is_word" "is_word" (defArgs s_is_word) (defBody s_is_word) (defScope s_is_word) .none kV5 dc5 pm5 an5 cd5 ct5), sl5⟩)
    (c5 : PySem.W.codeIn K cd5 "is_word" = true)
    (k5 : PySem.W.keepIn K (.ref f5) = true)
    (a6 : PySem.W.nsIn K mainGlobals "is_ascending" = some (some (.ref f6)))
    (l6 : K.lookup f6 = some ⟨oc6, od6, .func (PySem.W.fnOf "is_ascending" "is_ascending" (defArgs s_is_ascending) (defBody s_is_ascending) (defScope s_is_ascending) .none kV6 dc6 pm6 an6 cd6 ct6), sl6⟩)
    (c6 : PySem.W.codeIn K cd6 "is_ascending" = true)
    (k6 : PySem.W.keepIn K (.ref f6) = true)
    (a7 : PySem.W.nsIn K mainGlobals "is_rows" = some (some (.ref f7)))
    (l7 : K.lookup f7 = some ⟨oc7, od7, .func (PySem.W.fnOf "is_rows" "is_rows" (defArgs s_is_rows) (defBody s_is_rows) (defScope s_is_rows) .none kV7 dc7 pm7 an7 cd7 ct7), sl7⟩)
    (c7 : PySem.W.codeIn K cd7 "is_rows" = true)
    (k7 : PySem.W.keepIn K (.ref f7) = true)
    (a8 : PySem.W.nsIn K mainGlobals "is_move" = some (some (.ref f8)))
    (l8 : K.lookup f8 = some ⟨oc8, od8, .func (PySem.W.fnOf "is_move" "is_move" (defArgs s_is_move) (defBody s_is_move) (defScope s_is_move) .none kV8 dc8 pm8 an8 cd8 ct8), sl8⟩)
    (c8 : PySem.W.codeIn K cd8 "is_move" = true)
    (k8 : PySem.W.keepIn K (.ref f8) = true)
    (a9 : PySem.W.nsIn K mainGlobals "are_moves" = some (some (.ref f9)))
    (l9 : K.lookup f9 = some ⟨oc9, od9, .func (PySem.W.fnOf "are_moves" "are_moves" (defArgs s_are_moves) (defBody s_are_moves) (defScope s_are_moves) .none kV9 dc9 pm9 an9 cd9 ct9), sl9⟩)
    (c9 : PySem.W.codeIn K cd9 "are_moves" = true)
    (k9 : PySem.W.keepIn K (.ref f9) = true)
    (a10 : PySem.W.findIn K (.ref C) "__init__" = some (some (.ref f10)))
    (i10 : PySem.W.isFn K (.ref f10) = true)
    (l10 : K.lookup f10 = some ⟨oc10, od10, .func (PySem.W.fnOf "__init__" "Machine.__init__" (defArgs s_Machine___init__) (defBody s_Machine___init__) (defScope s_Machine___init__) .none kV10 dc10 pm10 an10 cd10 ct10), sl10⟩)
    (c10 : PySem.W.codeIn K cd10 "Machine.__init__" = true)
    (k10 : PySem.W.keepIn K (.ref f10) = true)
    (a11 : PySem.W.findIn K (.ref C) "keep" = some (some (.ref f11)))
    (i11 : PySem.W.isFn K (.ref f11) = true)
    (l11 : K.lookup f11 = some ⟨oc11, od11, .func (PySem.W.fnOf "keep" "Machine.keep" (defArgs s_Machine_keep) (defBody s_Machine_keep) (defScope s_Machine_keep) .none kV11 dc11 pm11 an11 cd11 ct11), sl11⟩)
    (c11 : PySem.W.codeIn K cd11 "Machine.keep" = true)
    (k11 : PySem.W.keepIn K (.ref f11) = true)
    (a12 : PySem.W.nsIn K mainGlobals "signs_of" = some (some (.ref f12)))
    (l12 : K.lookup f12 = some ⟨oc12, od12, .func (PySem.W.fnOf "signs_of" "signs_of" (defArgs s_signs_of) (defBody s_signs_of) (defScope s_signs_of) .none kV12 dc12 pm12 an12 cd12 ct12), sl12⟩)
    (c12 : PySem.W.codeIn K cd12 "signs_of" = true)
    (k12 : PySem.W.keepIn K (.ref f12) = true)
    (a13 : PySem.W.nsIn K mainGlobals "is_meter" = some (some (.ref f13)))
    (l13 : K.lookup f13 = some ⟨oc13, od13, .func (PySem.W.fnOf "is_meter" "is_meter" (defArgs s_is_meter) (defBody s_is_meter) (defScope s_is_meter) .none kV13 dc13 pm13 an13 cd13 ct13), sl13⟩)
    (c13 : PySem.W.codeIn K cd13 "is_meter" = true)
    (k13 : PySem.W.keepIn K (.ref f13) = true)
    (a14 : PySem.W.nsIn K mainGlobals "check_meter" = some (some (.ref f14)))
    (l14 : K.lookup f14 = some ⟨oc14, od14, .func (PySem.W.fnOf "check_meter" "check_meter" (defArgs s_check_meter) (defBody s_check_meter) (defScope s_check_meter) .none kV14 dc14 pm14 an14 cd14 ct14), sl14⟩)
    (c14 : PySem.W.codeIn K cd14 "check_meter" = true)
    (k14 : PySem.W.keepIn K (.ref f14) = true)
    (a15 : PySem.W.nsIn K mainGlobals "worth_at" = some (some (.ref f15)))
    (l15 : K.lookup f15 = some ⟨oc15, od15, .func (PySem.W.fnOf "worth_at" "worth_at" (defArgs s_worth_at) (defBody s_worth_at) (defScope s_worth_at) .none kV15 dc15 pm15 an15 cd15 ct15), sl15⟩)
    (c15 : PySem.W.codeIn K cd15 "worth_at" = true)
    (k15 : PySem.W.keepIn K (.ref f15) = true)
    (a16 : PySem.W.nsIn K mainGlobals "first_readings" = some (some (.ref f16)))
    (l16 : K.lookup f16 = some ⟨oc16, od16, .func (PySem.W.fnOf "first_readings" "first_readings" (defArgs s_first_readings) (defBody s_first_readings) (defScope s_first_readings) .none kV16 dc16 pm16 an16 cd16 ct16), sl16⟩)
    (c16 : PySem.W.codeIn K cd16 "first_readings" = true)
    (k16 : PySem.W.keepIn K (.ref f16) = true)
    (a17 : PySem.W.nsIn K mainGlobals "shifts" = some (some (.ref f17)))
    (l17 : K.lookup f17 = some ⟨oc17, od17, .func (PySem.W.fnOf "shifts" "shifts" (defArgs s_shifts) (defBody s_shifts) (defScope s_shifts) .none kV17 dc17 pm17 an17 cd17 ct17), sl17⟩)
    (c17 : PySem.W.codeIn K cd17 "shifts" = true)
    (k17 : PySem.W.keepIn K (.ref f17) = true)
    (a18 : PySem.W.nsIn K mainGlobals "turns" = some (some (.ref f18)))
    (l18 : K.lookup f18 = some ⟨oc18, od18, .func (PySem.W.fnOf "turns" "turns" (defArgs s_turns) (defBody s_turns) (defScope s_turns) .none kV18 dc18 pm18 an18 cd18 ct18), sl18⟩)
    (c18 : PySem.W.codeIn K cd18 "turns" = true)
    (k18 : PySem.W.keepIn K (.ref f18) = true)
    (a19 : PySem.W.nsIn K mainGlobals "check_divisor" = some (some (.ref f19)))
    (l19 : K.lookup f19 = some ⟨oc19, od19, .func (PySem.W.fnOf "check_divisor" "check_divisor" (defArgs s_check_divisor) (defBody s_check_divisor) (defScope s_check_divisor) .none kV19 dc19 pm19 an19 cd19 ct19), sl19⟩)
    (c19 : PySem.W.codeIn K cd19 "check_divisor" = true)
    (k19 : PySem.W.keepIn K (.ref f19) = true)
    (a20 : PySem.W.nsIn K mainGlobals "rests" = some (some (.ref f20)))
    (l20 : K.lookup f20 = some ⟨oc20, od20, .func (PySem.W.fnOf "rests" "rests" (defArgs s_rests) (defBody s_rests) (defScope s_rests) .none kV20 dc20 pm20 an20 cd20 ct20), sl20⟩)
    (c20 : PySem.W.codeIn K cd20 "rests" = true)
    (k20 : PySem.W.keepIn K (.ref f20) = true)
    (a21 : PySem.W.nsIn K mainGlobals "parting_rests" = some (some (.ref f21)))
    (l21 : K.lookup f21 = some ⟨oc21, od21, .func (PySem.W.fnOf "parting_rests" "parting_rests" (defArgs s_parting_rests) (defBody s_parting_rests) (defScope s_parting_rests) .none kV21 dc21 pm21 an21 cd21 ct21), sl21⟩)
    (c21 : PySem.W.codeIn K cd21 "parting_rests" = true)
    (k21 : PySem.W.keepIn K (.ref f21) = true)
    (a22 : PySem.W.nsIn K mainGlobals "_law_tape" = some (some (.ref f22)))
    (l22 : K.lookup f22 = some ⟨oc22, od22, .func (PySem.W.fnOf "_law_tape" "_law_tape" (defArgs s__law_tape) (defBody s__law_tape) (defScope s__law_tape) .none kV22 dc22 pm22 an22 cd22 ct22), sl22⟩)
    (c22 : PySem.W.codeIn K cd22 "_law_tape" = true)
    (k22 : PySem.W.keepIn K (.ref f22) = true)
    (a23 : PySem.W.nsIn K mainGlobals "_law_pick" = some (some (.ref f23)))
    (l23 : K.lookup f23 = some ⟨oc23, od23, .func (PySem.W.fnOf "_law_pick" "_law_pick" (defArgs s__law_pick) (defBody s__law_pick) (defScope s__law_pick) .none kV23 dc23 pm23 an23 cd23 ct23), sl23⟩)
    (c23 : PySem.W.codeIn K cd23 "_law_pick" = true)
    (k23 : PySem.W.keepIn K (.ref f23) = true)
    (a24 : PySem.W.nsIn K mainGlobals "_law_common" = some (some (.ref f24)))
    (l24 : K.lookup f24 = some ⟨oc24, od24, .func (PySem.W.fnOf "_law_common" "_law_common" (defArgs s__law_common) (defBody s__law_common) (defScope s__law_common) .none kV24 dc24 pm24 an24 cd24 ct24), sl24⟩)
    (c24 : PySem.W.codeIn K cd24 "_law_common" = true)
    (k24 : PySem.W.keepIn K (.ref f24) = true)
    (a25 : PySem.W.nsIn K mainGlobals "_law_is_int" = some (some (.ref f25)))
    (l25 : K.lookup f25 = some ⟨oc25, od25, .func (PySem.W.fnOf "_law_is_int" "_law_is_int" (defArgs s__law_is_int) (defBody s__law_is_int) (defScope s__law_is_int) .none kV25 dc25 pm25 an25 cd25 ct25), sl25⟩)
    (c25 : PySem.W.codeIn K cd25 "_law_is_int" = true)
    (k25 : PySem.W.keepIn K (.ref f25) = true)
    (a26 : PySem.W.nsIn K mainGlobals "_law_rows" = some (some (.ref f26)))
    (l26 : K.lookup f26 = some ⟨oc26, od26, .func (PySem.W.fnOf "_law_rows" "_law_rows" (defArgs s__law_rows) (defBody s__law_rows) (defScope s__law_rows) .none kV26 dc26 pm26 an26 cd26 ct26), sl26⟩)
    (c26 : PySem.W.codeIn K cd26 "_law_rows" = true)
    (k26 : PySem.W.keepIn K (.ref f26) = true)
    (a27 : PySem.W.nsIn K mainGlobals "_law_moves" = some (some (.ref f27)))
    (l27 : K.lookup f27 = some ⟨oc27, od27, .func (PySem.W.fnOf "_law_moves" "_law_moves" (defArgs s__law_moves) (defBody s__law_moves) (defScope s__law_moves) .none kV27 dc27 pm27 an27 cd27 ct27), sl27⟩)
    (c27 : PySem.W.codeIn K cd27 "_law_moves" = true)
    (k27 : PySem.W.keepIn K (.ref f27) = true)
    (a28 : PySem.W.nsIn K mainGlobals "_law_drawn" = some (some (.ref f28)))
    (l28 : K.lookup f28 = some ⟨oc28, od28, .func (PySem.W.fnOf "_law_drawn" "_law_drawn" (defArgs s__law_drawn) (defBody s__law_drawn) (defScope s__law_drawn) .none kV28 dc28 pm28 an28 cd28 ct28), sl28⟩)
    (c28 : PySem.W.codeIn K cd28 "_law_drawn" = true)
    (k28 : PySem.W.keepIn K (.ref f28) = true)
    (a29 : PySem.W.nsIn K mainGlobals "_law_gone" = some (some (.ref f29)))
    (l29 : K.lookup f29 = some ⟨oc29, od29, .func (PySem.W.fnOf "_law_gone" "_law_gone" (defArgs s__law_gone) (defBody s__law_gone) (defScope s__law_gone) .none kV29 dc29 pm29 an29 cd29 ct29), sl29⟩)
    (c29 : PySem.W.codeIn K cd29 "_law_gone" = true)
    (k29 : PySem.W.keepIn K (.ref f29) = true)
    (a30 : PySem.W.nsIn K mainGlobals "_law_signs" = some (some (.ref f30)))
    (l30 : K.lookup f30 = some ⟨oc30, od30, .func (PySem.W.fnOf "_law_signs" "_law_signs" (defArgs s__law_signs) (defBody s__law_signs) (defScope s__law_signs) .none kV30 dc30 pm30 an30 cd30 ct30), sl30⟩)
    (c30 : PySem.W.codeIn K cd30 "_law_signs" = true)
    (k30 : PySem.W.keepIn K (.ref f30) = true)
    (a31 : PySem.W.nsIn K mainGlobals "_law_run" = some (some (.ref f31)))
    (l31 : K.lookup f31 = some ⟨oc31, od31, .func (PySem.W.fnOf "_law_run" "_law_run" (defArgs s__law_run) (defBody s__law_run) (defScope s__law_run) .none kV31 dc31 pm31 an31 cd31 ct31), sl31⟩)
    (c31 : PySem.W.codeIn K cd31 "_law_run" = true)
    (k31 : PySem.W.keepIn K (.ref f31) = true)
    (a32 : PySem.W.nsIn K mainGlobals "_law_first" = some (some (.ref f32)))
    (l32 : K.lookup f32 = some ⟨oc32, od32, .func (PySem.W.fnOf "_law_first" "_law_first" (defArgs s__law_first) (defBody s__law_first) (defScope s__law_first) .none kV32 dc32 pm32 an32 cd32 ct32), sl32⟩)
    (c32 : PySem.W.codeIn K cd32 "_law_first" = true)
    (k32 : PySem.W.keepIn K (.ref f32) = true)
    (a33 : PySem.W.nsIn K mainGlobals "_law_divisor" = some (some (.ref f33)))
    (l33 : K.lookup f33 = some ⟨oc33, od33, .func (PySem.W.fnOf "_law_divisor" "_law_divisor" (defArgs s__law_divisor) (defBody s__law_divisor) (defScope s__law_divisor) .none kV33 dc33 pm33 an33 cd33 ct33), sl33⟩)
    (c33 : PySem.W.codeIn K cd33 "_law_divisor" = true)
    (k33 : PySem.W.keepIn K (.ref f33) = true)
    (a34 : PySem.W.nsIn K mainGlobals "_law_modular_meter" = some (some (.ref f34)))
    (l34 : K.lookup f34 = some ⟨oc34, od34, .func (PySem.W.fnOf "_law_modular_meter" "_law_modular_meter" (defArgs s__law_modular_meter) (defBody s__law_modular_meter) (defScope s__law_modular_meter) .none kV34 dc34 pm34 an34 cd34 ct34), sl34⟩)
    (c34 : PySem.W.codeIn K cd34 "_law_modular_meter" = true)
    (k34 : PySem.W.keepIn K (.ref f34) = true)
    (a35 : PySem.W.nsIn K mainGlobals "_law_read" = some (some (.ref f35)))
    (l35 : K.lookup f35 = some ⟨oc35, od35, .func (PySem.W.fnOf "_law_read" "_law_read" (defArgs s__law_read) (defBody s__law_read) (defScope s__law_read) .none kV35 dc35 pm35 an35 cd35 ct35), sl35⟩)
    (c35 : PySem.W.codeIn K cd35 "_law_read" = true)
    (k35 : PySem.W.keepIn K (.ref f35) = true)
    (a36 : PySem.W.nsIn K mainGlobals "law" = some (some (.ref f36)))
    (l36 : K.lookup f36 = some ⟨oc36, od36, .func (PySem.W.fnOf "law" "law" (defArgs s_law) (defBody s_law) (defScope s_law) .none kV36 dc36 pm36 an36 cd36 ct36), sl36⟩)
    (c36 : PySem.W.codeIn K cd36 "law" = true)
    (k36 : PySem.W.keepIn K (.ref f36) = true) :
    ∃ fd : FuncData, (∀ (s : Shared) (v : Value), BindsTo s fd ⟨[v], []⟩ [("_law_script", v)]) ∧ ∀ base : Heap, K.In base → base.Ns mainGlobals mg → FnOk l.prog w K mg base CX0 7 fa fd ["_law_script"] (spLaw K) := by
  have e := hfa.symm.trans (PySem.W.mg_of X G a36)
  cases e
  let T : Txt K mg := {
    z_len := PySem.W.mg_none_of X G z_len
    z_abs := PySem.W.mg_none_of X G z_abs
    z_int := PySem.W.mg_none_of X G z_int
    z_bool := PySem.W.mg_none_of X G z_bool
    z_str := PySem.W.mg_none_of X G z_str
    z_max := PySem.W.mg_none_of X G z_max
    z_sorted := PySem.W.mg_none_of X G z_sorted
    z_list := PySem.W.mg_none_of X G z_list
    z_tuple := PySem.W.mg_none_of X G z_tuple
    z_dict := PySem.W.mg_none_of X G z_dict
    z_isinstance := PySem.W.mg_none_of X G z_isinstance
    z_all := PySem.W.mg_none_of X G z_all
    z_range := PySem.W.mg_none_of X G z_range
    z_zip := PySem.W.mg_none_of X G z_zip
    z_enumerate := PySem.W.mg_none_of X G z_enumerate
    m_MOST_ROWS := ⟨_, PySem.W.mg_of X G m_MOST_ROWS⟩
    m_MOST_ANSWERS := ⟨_, PySem.W.mg_of X G m_MOST_ANSWERS⟩
    m_MOST_STANDINGS := ⟨_, PySem.W.mg_of X G m_MOST_STANDINGS⟩
    m_MOST_TICKS := ⟨_, PySem.W.mg_of X G m_MOST_TICKS⟩
    m_MOST_READING := ⟨_, PySem.W.mg_of X G m_MOST_READING⟩
    m_MOST_DIVISOR := ⟨_, PySem.W.mg_of X G m_MOST_DIVISOR⟩
    m_SMALL := ⟨_, PySem.W.mg_of X G m_SMALL⟩
    C := C
    cl := ⟨pg, hd, po, sa⟩
    gC := PySem.W.mg_of X G aC
    n_rows := n_rows
    n_answers := n_answers
    n_moves := n_moves
    n_size := n_size
    n_kept_steps := n_kept_steps
    n_kept_webs := n_kept_webs
    d_common_divisor := DefAt.of X G a0 l0 c0 k0 (fun _ _ _ _ _ _ us hl => match us, hl with | [_, _], _ => rfl)
    d_is_integer := DefAt.of X G a1 l1 c1 k1 (fun _ _ _ _ _ _ us hl => match us, hl with | [_], _ => rfl)
    d_is_within := DefAt.of X G a2 l2 c2 k2 (fun _ _ _ _ _ _ us hl => match us, hl with | [_, _, _], _ => rfl)
    d_is_pair := DefAt.of X G a3 l3 c3 k3 (fun _ _ _ _ _ _ us hl => match us, hl with | [_], _ => rfl)
    d_is_string_of := DefAt.of X G a4 l4 c4 k4 (fun _ _ _ _ _ _ us hl => match us, hl with | [_, _], _ => rfl)
    d_is_word := DefAt.of X G a5 l5 c5 k5 (fun _ _ _ _ _ _ us hl => match us, hl with | [_], _ => rfl)
    d_is_ascending := DefAt.of X G a6 l6 c6 k6 (fun _ _ _ _ _ _ us hl => match us, hl with | [_], _ => rfl)
    d_is_rows := DefAt.of X G a7 l7 c7 k7 (fun _ _ _ _ _ _ us hl => match us, hl with | [_], _ => rfl)
    d_is_move := DefAt.of X G a8 l8 c8 k8 (fun _ _ _ _ _ _ us hl => match us, hl with | [_, _], _ => rfl)
    d_are_moves := DefAt.of X G a9 l9 c9 k9 (fun _ _ _ _ _ _ us hl => match us, hl with | [_, _, _], _ => rfl)
    d_Machine___init__ := MetAt.of a10 i10 l10 c10 k10 (fun _ _ _ _ _ _ us hl => match us, hl with | [_, _, _, _], _ => rfl)
    d_Machine_keep := MetAt.of a11 i11 l11 c11 k11 (fun _ _ _ _ _ _ us hl => match us, hl with | [_, _, _, _], _ => rfl)
    d_signs_of := DefAt.of X G a12 l12 c12 k12 (fun _ _ _ _ _ _ us hl => match us, hl with | [_], _ => rfl)
    d_is_meter := DefAt.of X G a13 l13 c13 k13 (fun _ _ _ _ _ _ us hl => match us, hl with | [_, _], _ => rfl)
    d_check_meter := DefAt.of X G a14 l14 c14 k14 (fun _ _ _ _ _ _ us hl => match us, hl with | [_, _], _ => rfl)
    d_worth_at := DefAt.of X G a15 l15 c15 k15 (fun _ _ _ _ _ _ us hl => match us, hl with | [_, _, _, _, _], _ => rfl)
    d_first_readings := DefAt.of X G a16 l16 c16 k16 (fun _ _ _ _ _ _ us hl => match us, hl with | [_, _], _ => rfl)
    d_shifts := DefAt.of X G a17 l17 c17 k17 (fun _ _ _ _ _ _ us hl => match us, hl with | [_, _, _], _ => rfl)
    d_turns := DefAt.of X G a18 l18 c18 k18 (fun _ _ _ _ _ _ us hl => match us, hl with | [_, _], _ => rfl)
    d_check_divisor := DefAt.of X G a19 l19 c19 k19 (fun _ _ _ _ _ _ us hl => match us, hl with | [_, _, _], _ => rfl)
    d_rests := DefAt.of X G a20 l20 c20 k20 (fun _ _ _ _ _ _ us hl => match us, hl with | [_, _, _], _ => rfl)
    d_parting_rests := DefAt.of X G a21 l21 c21 k21 (fun _ _ _ _ _ _ us hl => match us, hl with | [_, _, _], _ => rfl)
    d__law_tape := DefAt.of X G a22 l22 c22 k22 (fun _ _ _ _ _ _ us hl => match us, hl with | [_], _ => rfl)
    d__law_pick := DefAt.of X G a23 l23 c23 k23 (fun _ _ _ _ _ _ us hl => match us, hl with | [_, _], _ => rfl)
    d__law_common := DefAt.of X G a24 l24 c24 k24 (fun _ _ _ _ _ _ us hl => match us, hl with | [_, _], _ => rfl)
    d__law_is_int := DefAt.of X G a25 l25 c25 k25 (fun _ _ _ _ _ _ us hl => match us, hl with | [_], _ => rfl)
    d__law_rows := DefAt.of X G a26 l26 c26 k26 (fun _ _ _ _ _ _ us hl => match us, hl with | [_, _], _ => rfl)
    d__law_moves := DefAt.of X G a27 l27 c27 k27 (fun _ _ _ _ _ _ us hl => match us, hl with | [_, _, _, _], _ => rfl)
    d__law_drawn := DefAt.of X G a28 l28 c28 k28 (fun _ _ _ _ _ _ us hl => match us, hl with | [_, _, _, _], _ => rfl)
    d__law_gone := DefAt.of X G a29 l29 c29 k29 (fun _ _ _ _ _ _ us hl => match us, hl with | [_, _, _, _], _ => rfl)
    d__law_signs := DefAt.of X G a30 l30 c30 k30 (fun _ _ _ _ _ _ us hl => match us, hl with | [_], _ => rfl)
    d__law_run := DefAt.of X G a31 l31 c31 k31 (fun _ _ _ _ _ _ us hl => match us, hl with | [_, _, _], _ => rfl)
    d__law_first := DefAt.of X G a32 l32 c32 k32 (fun _ _ _ _ _ _ us hl => match us, hl with | [_, _], _ => rfl)
    d__law_divisor := DefAt.of X G a33 l33 c33 k33 (fun _ _ _ _ _ _ us hl => match us, hl with | [_, _], _ => rfl)
    d__law_modular_meter := DefAt.of X G a34 l34 c34 k34 (fun _ _ _ _ _ _ us hl => match us, hl with | [_, _], _ => rfl)
    d__law_read := DefAt.of X G a35 l35 c35 k35 (fun _ _ _ _ _ _ us hl => match us, hl with | [_, _, _], _ => rfl)
    d_law := DefAt.of X G a36 l36 c36 k36 (fun _ _ _ _ _ _ us hl => match us, hl with | [_], _ => rfl)
    mkM := ⟨mk, a10, i10, kc⟩ }
  exact ⟨T.d_law.fd, fun s v => .of_eq rfl, fun base _ _ => ok_law T⟩
theorem walk {l : PySem.W.OpenLaw} {q : Program} {loose : List Str} {XP : (Str → Option Value) → Heap → Prop} {YP : World → Heap → Prop} {d : DefRec} {K : Params → PySem.W.Frag} (hn : l.most = some 63) (hdf : d.params.defaults = [])
    (hY : ∀ (w : World) (h : Heap), YP w h → (K w.params).In h)
    (F : ∀ (w : World) (mg : Str → Option Value) (fa : Addr) (h : Heap), (K w.params).In h → h.Ns mainGlobals mg → mg d.name = some (.ref fa) →
      ∃ fd : FuncData, (∀ (s : Shared) (u : Value), BindsTo s fd ⟨[u], []⟩ [("_law_script", u)]) ∧ ∀ base : Heap, (K w.params).In base → base.Ns mainGlobals mg → FnOk l.prog w (K w.params) mg base CX0 7 fa fd ["_law_script"] (spLaw (K w.params))) :
    PySem.W.WalkO q loose XP YP l.row.toRowW d [] (fun f vs => PySem.call f vs) :=
  L2.walk_of (n := 63) (k := 7) (x := "_law_script") (CX := fun _ => CX0) (sp := fun w => spLaw (K w.params)) hn (by decide) hdf ⟨rfl, by decide, by decide⟩ hY F (fun _ _ a ns hl _ hS => ⟨a, ns, rfl, hS, hl, fun _ => rfl⟩) fun _ _ _ _ _ z => z
end K70

open PySem PySem.W PyProof.Rows
set_option maxRecDepth 100000 in
set_option maxHeartbeats 0 in
theorem PySem.Challenge.cw_stretchprices_k70_whole_turns_and_rests_holds : PySem.Challenge.rw_stretchprices_k70_whole_turns_and_rests.Holds := by
  w_on; o_law; k_head; (case hw => w_witness2)
  k_fill
  refine K70.walk (l := PySem.Challenge.rw_stretchprices_k70_whole_turns_and_rests) rfl rfl (fun w h Y => PySem.W.kIn_of Y) ?F
  case F =>
    intro w mg fa h KX G hmg
    refine' K70.all_mk KX G hmg ?aC ?pg ?hd ?po ?sa ?mk ?kc ?n_rows ?n_answers ?n_moves ?n_size ?n_kept_steps ?n_kept_webs ?z_len ?z_abs ?z_int ?z_bool ?z_str ?z_max ?z_sorted ?z_list ?z_tuple ?z_dict ?z_isinstance ?z_all ?z_range ?z_zip ?z_enumerate ?m_MOST_ROWS ?m_MOST_ANSWERS ?m_MOST_STANDINGS ?m_MOST_TICKS ?m_MOST_READING ?m_MOST_DIVISOR ?m_SMALL ?a0 ?l0 ?c0 ?k0 ?a1 ?l1 ?c1 ?k1 ?a2 ?l2 ?c2 ?k2 ?a3 ?l3 ?c3 ?k3 ?a4 ?l4 ?c4 ?k4 ?a5 ?l5 ?c5 ?k5 ?a6 ?l6 ?c6 ?k6 ?a7 ?l7 ?c7 ?k7 ?a8 ?l8 ?c8 ?k8 ?a9 ?l9 ?c9 ?k9 ?a10 ?i10 ?l10 ?c10 ?k10 ?a11 ?i11 ?l11 ?c11 ?k11 ?a12 ?l12 ?c12 ?k12 ?a13 ?l13 ?c13 ?k13 ?a14 ?l14 ?c14 ?k14 ?a15 ?l15 ?c15 ?k15 ?a16 ?l16 ?c16 ?k16 ?a17 ?l17 ?c17 ?k17 ?a18 ?l18 ?c18 ?k18 ?a19 ?l19 ?c19 ?k19 ?a20 ?l20 ?c20 ?k20 ?a21 ?l21 ?c21 ?k21 ?a22 ?l22 ?c22 ?k22 ?a23 ?l23 ?c23 ?k23 ?a24 ?l24 ?c24 ?k24 ?a25 ?l25 ?c25 ?k25 ?a26 ?l26 ?c26 ?k26 ?a27 ?l27 ?c27 ?k27 ?a28 ?l28 ?c28 ?k28 ?a29 ?l29 ?c29 ?k29 ?a30 ?l30 ?c30 ?k30 ?a31 ?l31 ?c31 ?k31 ?a32 ?l32 ?c32 ?k32 ?a33 ?l33 ?c33 ?k33 ?a34 ?l34 ?c34 ?k34 ?a35 ?l35 ?c35 ?k35 ?a36 ?l36 ?c36 ?k36
    (case aC => k_is)
    (case pg => k_is)
    (case hd => k_is)
    (case po => k_is)
    (case sa => k_is)
    (case mk => k_is)
    (case kc => k_is)
    (case n_rows => k_is)
    (case n_answers => k_is)
    (case n_moves => k_is)
    (case n_size => k_is)
    (case n_kept_steps => k_is)
    (case n_kept_webs => k_is)
    (case z_len => k_is)
    (case z_abs => k_is)
    (case z_int => k_is)
    (case z_bool => k_is)
    (case z_str => k_is)
    (case z_max => k_is)
    (case z_sorted => k_is)
    (case z_list => k_is)
    (case z_tuple => k_is)
    (case z_dict => k_is)
    (case z_isinstance => k_is)
    (case z_all => k_is)
    (case z_range => k_is)
    (case z_zip => k_is)
    (case z_enumerate => k_is)
    (case m_MOST_ROWS => k_is)
    (case m_MOST_ANSWERS => k_is)
    (case m_MOST_STANDINGS => k_is)
    (case m_MOST_TICKS => k_is)
    (case m_MOST_READING => k_is)
    (case m_MOST_DIVISOR => k_is)
    (case m_SMALL => k_is)
    (case a0 => k_is)
    (case l0 => k_is)
    (case c0 => k_is)
    (case k0 => k_is)
    (case a1 => k_is)
    (case l1 => k_is)
    (case c1 => k_is)
    (case k1 => k_is)
    (case a2 => k_is)
    (case l2 => k_is)
    (case c2 => k_is)
    (case k2 => k_is)
    (case a3 => k_is)
    (case l3 => k_is)
    (case c3 => k_is)
    (case k3 => k_is)
    (case a4 => k_is)
    (case l4 => k_is)
    (case c4 => k_is)
    (case k4 => k_is)
    (case a5 => k_is)
    (case l5 => k_is)
    (case c5 => k_is)
    (case k5 => k_is)
    (case a6 => k_is)
    (case l6 => k_is)
    (case c6 => k_is)
    (case k6 => k_is)
    (case a7 => k_is)
    (case l7 => k_is)
    (case c7 => k_is)
    (case k7 => k_is)
    (case a8 => k_is)
    (case l8 => k_is)
    (case c8 => k_is)
    (case k8 => k_is)
    (case a9 => k_is)
    (case l9 => k_is)
    (case c9 => k_is)
    (case k9 => k_is)
    (case a10 => k_is)
    (case i10 => k_is)
    (case l10 => k_is)
    (case c10 => k_is)
    (case k10 => k_is)
    (case a11 => k_is)
    (case i11 => k_is)
    (case l11 => k_is)
    (case c11 => k_is)
    (case k11 => k_is)
    (case a12 => k_is)
    (case l12 => k_is)
    (case c12 => k_is)
    (case k12 => k_is)
    (case a13 => k_is)
    (case l13 => k_is)
    (case c13 => k_is)
    (case k13 => k_is)
    (case a14 => k_is)
    (case l14 => k_is)
    (case c14 => k_is)
    (case k14 => k_is)
    (case a15 => k_is)
    (case l15 => k_is)
    (case c15 => k_is)
    (case k15 => k_is)
    (case a16 => k_is)
    (case l16 => k_is)
    (case c16 => k_is)
    (case k16 => k_is)
    (case a17 => k_is)
    (case l17 => k_is)
    (case c17 => k_is)
    (case k17 => k_is)
    (case a18 => k_is)
    (case l18 => k_is)
    (case c18 => k_is)
    (case k18 => k_is)
    (case a19 => k_is)
    (case l19 => k_is)
    (case c19 => k_is)
    (case k19 => k_is)
    (case a20 => k_is)
    (case l20 => k_is)
    (case c20 => k_is)
    (case k20 => k_is)
    (case a21 => k_is)
    (case l21 => k_is)
    (case c21 => k_is)
    (case k21 => k_is)
    (case a22 => k_is)
    (case l22 => k_is)
    (case c22 => k_is)
    (case k22 => k_is)
    (case a23 => k_is)
    (case l23 => k_is)
    (case c23 => k_is)
    (case k23 => k_is)
    (case a24 => k_is)
    (case l24 => k_is)
    (case c24 => k_is)
    (case k24 => k_is)
    (case a25 => k_is)
    (case l25 => k_is)
    (case c25 => k_is)
    (case k25 => k_is)
    (case a26 => k_is)
    (case l26 => k_is)
    (case c26 => k_is)
    (case k26 => k_is)
    (case a27 => k_is)
    (case l27 => k_is)
    (case c27 => k_is)
    (case k27 => k_is)
    (case a28 => k_is)
    (case l28 => k_is)
    (case c28 => k_is)
    (case k28 => k_is)
    (case a29 => k_is)
    (case l29 => k_is)
    (case c29 => k_is)
    (case k29 => k_is)
    (case a30 => k_is)
    (case l30 => k_is)
    (case c30 => k_is)
    (case k30 => k_is)
    (case a31 => k_is)
    (case l31 => k_is)
    (case c31 => k_is)
    (case k31 => k_is)
    (case a32 => k_is)
    (case l32 => k_is)
    (case c32 => k_is)
    (case k32 => k_is)
    (case a33 => k_is)
    (case l33 => k_is)
    (case c33 => k_is)
    (case k33 => k_is)
    (case a34 => k_is)
    (case l34 => k_is)
    (case c34 => k_is)
    (case k34 => k_is)
    (case a35 => k_is)
    (case l35 => k_is)
    (case c35 => k_is)
    (case k35 => k_is)
    (case a36 => k_is)
    (case l36 => k_is)
    (case c36 => k_is)
    (case k36 => k_is)
#print axioms PySem.Challenge.cw_stretchprices_k70_whole_turns_and_rests_holds


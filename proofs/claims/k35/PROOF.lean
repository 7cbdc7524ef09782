import PyProof.Rows.All
import Wide.All
import OpenK.AllK
import Wide.FinOn
import HandS.ForMost
import HandS.Evl
import HandS.TupAny
import HandS.Defaults
import KE.KDictWalk
import HandS.Text
import HandS.Walk
import HandS.Head0
import HandS.Head1
import HandS.Head2
import HandS.HeadEnd
import HandS.HeadHook1
import HandS.HeadHook2
import PySem.Challenge.RW_bellnest_k35_whole_runs_keep_to_the_pape
set_option Elab.async false
set_option linter.all false
/-! The plain machine: what the law's own machine does, told over plain lists; its nests, its paper, its measure. -/
namespace Bn
inductive Deed where
  | put (x : Nat) (ns : List Int)
  | copy (x y : Nat)
  | grow (x : Nat) (n : Int)
  | tick (x : Nat)
  | still (n : Nat)
  | same (most : Bool) (x y : Nat) (n : Int)
  | alone (x : Nat)
  | anew (x y t : Nat)
abbrev Boxes := List (List Int)
def sz (B : Boxes) (x : Nat) : Nat := (B.getD x []).length
def off (B : Boxes) (x : Nat) : Nat := ((B.take x).map List.length).sum
def total (B : Boxes) : Nat := (B.map List.length).sum
structure Row where
  rank : Nat
  places : List (Deed × Nat)
structure Prog where
  boxes : Boxes
  rows : List Row
def turns (B : Boxes) : Deed → Nat
  | .put x _ => sz B x
  | .copy x _ => sz B x
  | .grow x _ => 2 * sz B x
  | .tick _ => 1
  | .still n => n
  | .same _ _ _ _ => 1
  | .alone _ => 1
  | .anew x _ _ => 2 * sz B x + 2
def DOk (B : Boxes) : Deed → Prop
  | .put x ns => x < B.length ∧ ns.length = sz B x
  | .copy x y => x < B.length ∧ y < B.length ∧ sz B y = sz B x
  | .grow x _ => x < B.length
  | .tick x => x < B.length ∧ sz B x = 1
  | .still n => 1 ≤ n ∧ n ≤ 9
  | .same _ x y _ => x < B.length ∧ y < B.length
  | .alone x => x < B.length
  | .anew x y t => x < B.length ∧ y < B.length ∧ t < B.length ∧ sz B y = sz B x ∧ sz B t = 1
def rk (P : Prog) (r : Nat) : Nat := match P.rows[r]? with
  | some row => row.rank
  | none => 0
def plc (P : Prog) (r : Nat) : List (Deed × Nat) := match P.rows[r]? with
  | some row => row.places
  | none => []
def ln (P : Prog) (r : Nat) : Nat := (plc P r).length
def wAt (P : Prog) (r p : Nat) : Nat := match (plc P r)[p]? with
  | some q => q.2
  | none => 0
structure WF (P : Prog) : Prop where
  b1 : 1 ≤ P.boxes.length
  b8 : P.boxes.length ≤ 8
  bs : ∀ s ∈ P.boxes, 1 ≤ s.length ∧ s.length ≤ 2
  r1 : 1 ≤ P.rows.length
  r7 : P.rows.length ≤ 7
  rk0 : rk P 0 = 0
  rkb : ∀ k, 0 < k → k < P.rows.length → 1 ≤ rk P k ∧ rk P k ≤ 9
  pl : ∀ r, r < P.rows.length → 1 ≤ ln P r ∧ ln P r ≤ 12
  dk : ∀ (r p : Nat) (d : Deed) (w : Nat), (plc P r)[p]? = some (d, w) → DOk P.boxes d ∧ w < 128
theorem sz_le {B : Boxes} (h : ∀ s ∈ B, 1 ≤ s.length ∧ s.length ≤ 2) {x : Nat} (hx : x < B.length) : 1 ≤ sz B x ∧ sz B x ≤ 2 := by
  unfold sz
  rw [List.getD_eq_getElem?_getD, List.getElem?_eq_getElem hx]
  exact h _ (List.getElem_mem hx)
theorem sz_le0 {B : Boxes} (h : ∀ s ∈ B, 1 ≤ s.length ∧ s.length ≤ 2) (x : Nat) : sz B x ≤ 2 := by
  by_cases hx : x < B.length
  · exact (sz_le h hx).2
  · unfold sz
    rw [List.getD_eq_getElem?_getD, List.getElem?_eq_none (by omega)]
    exact Nat.zero_le _
theorem off_total : ∀ {B : Boxes} {x : Nat}, x < B.length → off B x + sz B x ≤ total B
  | [], x, h => absurd h (Nat.not_lt_zero _)
  | b :: B, 0, _ => by
    show 0 + b.length ≤ _
    unfold total
    rw [List.map_cons, List.sum_cons]
    omega
  | b :: B, x + 1, h => by
    have ih := off_total (B := B) (x := x) (by simpa using h)
    have e1 : off (b :: B) (x + 1) = b.length + off B x := by
      unfold off
      rw [List.take_succ_cons, List.map_cons, List.sum_cons]
    have e2 : sz (b :: B) (x + 1) = sz B x := by
      unfold sz
      rw [List.getD_cons_succ]
    have e3 : total (b :: B) = b.length + total B := by
      unfold total
      rw [List.map_cons, List.sum_cons]
    omega
theorem turns_le {B : Boxes} (h : ∀ s ∈ B, 1 ≤ s.length ∧ s.length ≤ 2) {d : Deed} (k : DOk B d) : 1 ≤ turns B d ∧ turns B d ≤ 9 := by
  cases d with
  | put x ns => have := sz_le h k.1; simp only [turns]; omega
  | copy x y => have := sz_le h k.1; simp only [turns]; omega
  | grow x n => have := sz_le h (x := x) k; simp only [turns]; omega
  | tick x => simp only [turns]; omega
  | still n => simp only [turns, DOk] at *; omega
  | same m x y n => simp only [turns]; omega
  | alone x => simp only [turns]; omega
  | anew x y t => have := sz_le h k.1; simp only [turns]; omega
/-! ### frames, the step of a deed -/
structure Frm where
  row : Nat
  place : Nat
  turn : Nat
  hand : List Int
structure Mst where
  flags : Nat
  pile : List Frm
  cells : List Int
def adv (B : Boxes) (d : Deed) (f : Frm) (hand : List Int) : Frm :=
  if f.turn + 1 = turns B d then ⟨f.row, f.place + 1, 0, []⟩ else ⟨f.row, f.place, f.turn + 1, hand⟩
/-- the hand behind a turn's reads, ahead of its end -/
def handB (B : Boxes) (d : Deed) (f : Frm) (c : List Int) : List Int := match d with
  | .grow x _ => if f.turn < sz B x then f.hand ++ [c.getD (off B x + f.turn) 0] else f.hand
  | .anew x y t => if f.turn = sz B x + 1 then f.hand
    else if f.turn = 0 then f.hand ++ [c.getD (off B t) 0]
    else if f.turn ≤ sz B x then f.hand ++ [c.getD (off B y + (f.turn - 1)) 0]
    else f.hand
  | _ => f.hand
/-- the cells behind a turn -/
def cellB (B : Boxes) (d : Deed) (f : Frm) (c : List Int) : List Int := match d with
  | .put x ns => c.set (off B x + f.turn) (ns.getD f.turn 0)
  | .copy x y => c.set (off B x + f.turn) (c.getD (off B y + f.turn) 0)
  | .grow x n => if f.turn < sz B x then c else c.set (off B x + (f.turn - sz B x)) (f.hand.getD (f.turn - sz B x) 0 + n)
  | .tick x => c.set (off B x) (c.getD (off B x) 0 + 1)
  | .anew x _ _ => if f.turn ≤ sz B x + 1 then c else c.set (off B x + (f.turn - sz B x - 2)) (f.hand.getD (f.turn - sz B x - 1) 0)
  | _ => c
/-- whether the deed goes back -/
def backB (B : Boxes) (d : Deed) (f : Frm) (c : List Int) : Bool := match d with
  | .anew x _ t => decide (f.turn = sz B x + 1 ∧ c.getD (off B t) 0 ≠ f.hand.getD 0 0)
  | _ => false
def stepF (B : Boxes) (d : Deed) (f : Frm) (c : List Int) : Frm × List Int :=
  if backB B d f c then (⟨f.row, f.place, 0, []⟩, c) else (adv B d f (handB B d f c), cellB B d f c)
def HandOk (B : Boxes) (d : Deed) (f : Frm) : Prop := match d with
  | .grow x _ => f.hand.length = min f.turn (sz B x)
  | .anew x _ _ => f.hand.length = min f.turn (sz B x + 1)
  | _ => True
/-- a frame amid its row -/
def Amid (P : Prog) (f : Frm) (d : Deed) : Prop := (∃ w, (plc P f.row)[f.place]? = some (d, w)) ∧ f.turn < turns P.boxes d ∧ HandOk P.boxes d f
def AtEnd (P : Prog) (f : Frm) : Prop := f.place = ln P f.row ∧ f.turn = 0 ∧ f.hand = []
def FV (P : Prog) (f : Frm) : Prop := f.row < P.rows.length ∧ ((∃ d, Amid P f d) ∨ (f.row = 0 ∧ AtEnd P f))
theorem cellB_len {B : Boxes} {d : Deed} {f : Frm} {c : List Int} : (cellB B d f c).length = c.length := by
  cases d <;> simp only [cellB]
  all_goals (try split)
  all_goals simp
theorem stepF_len {B : Boxes} {d : Deed} {f : Frm} {c : List Int} : (stepF B d f c).2.length = c.length := by
  unfold stepF
  split
  · rfl
  · exact cellB_len
theorem stepF_row {B : Boxes} {d : Deed} {f : Frm} {c : List Int} : (stepF B d f c).1.row = f.row := by
  unfold stepF
  split
  · rfl
  · unfold adv
    split <;> rfl
/-! ### the measure -/
def rest (P : Prog) (r p : Nat) : Nat := (((plc P r).drop p).map fun q => turns P.boxes q.1).sum
def R (P : Prog) (f : Frm) : Nat := rest P f.row f.place - f.turn
def dirt (B : Boxes) (d : Deed) (f : Frm) (c : List Int) : Nat := match d with
  | .anew x _ t => if 1 ≤ f.turn ∧ f.turn ≤ sz B x + 1 ∧ c.getD (off B t) 0 ≠ f.hand.getD 0 0 then 10 else 0
  | _ => 0
def dirtF (P : Prog) (f : Frm) (c : List Int) : Nat := match (plc P f.row)[f.place]? with
  | some q => dirt P.boxes q.1 f c
  | none => 0
theorem dirt_le {B : Boxes} {d : Deed} {f : Frm} {c : List Int} : dirt B d f c ≤ 10 := by
  cases d <;> simp only [dirt]
  all_goals (try split)
  all_goals omega
theorem dirtF_le {P : Prog} {f : Frm} {c : List Int} : dirtF P f c ≤ 10 := by
  unfold dirtF
  split
  · exact dirt_le
  · omega
theorem rest_at {P : Prog} {r p : Nat} {q : Deed × Nat} (h : (plc P r)[p]? = some q) : rest P r p = turns P.boxes q.1 + rest P r (p + 1) := by
  unfold rest
  obtain ⟨h1, h2⟩ := List.getElem?_eq_some_iff.mp h
  rw [List.drop_eq_getElem_cons h1, List.map_cons, List.sum_cons, h2]
theorem sum_le9 : ∀ {l : List Nat}, (∀ x ∈ l, x ≤ 9) → l.sum ≤ 9 * l.length
  | [], _ => by simp
  | a :: r, h => by
    have h1 := h a (by simp)
    have h2 := sum_le9 (l := r) fun x hx => h x (by simp [hx])
    rw [List.sum_cons, List.length_cons]
    omega
theorem rest_le {P : Prog} (wf : WF P) {r : Nat} (hr : r < P.rows.length) (p : Nat) : rest P r p ≤ 108 := by
  unfold rest
  have h1 := sum_le9 (l := ((plc P r).drop p).map fun q => turns P.boxes q.1) (fun x hx => by
    obtain ⟨q, hq, e⟩ := List.mem_map.mp hx
    have hq2 := List.mem_of_mem_drop hq
    obtain ⟨i, hi⟩ := List.getElem?_of_mem hq2
    have h3 := wf.dk r i q.1 q.2 hi
    have h4 := (turns_le wf.bs h3.1).2
    omega)
  rw [List.length_map, List.length_drop] at h1
  have h2 := (wf.pl r hr).2
  unfold ln at h2
  omega
theorem R_le {P : Prog} (wf : WF P) {f : Frm} (hr : f.row < P.rows.length) : R P f ≤ 108 := by
  have := rest_le wf hr f.place
  unfold R
  omega
/-- a step goes on: the frame stays one of its row (or has come to the row's end), and the measure falls -/
theorem step_ok {P : Prog} (wf : WF P) {f : Frm} {d : Deed} {c : List Int} (hr : f.row < P.rows.length) (h : Amid P f d) :
    ((∃ d', Amid P (stepF P.boxes d f c).1 d') ∨ AtEnd P (stepF P.boxes d f c).1) ∧
    R P (stepF P.boxes d f c).1 + dirtF P (stepF P.boxes d f c).1 (stepF P.boxes d f c).2 < R P f + dirtF P f c := by
  obtain ⟨⟨w, hp⟩, ht, hh⟩ := h
  have hd := (wf.dk _ _ _ _ hp).1
  have htl := turns_le wf.bs hd
  have hrest := rest_at hp
  simp only at hrest
  have hD : dirtF P f c = dirt P.boxes d f c := by
    unfold dirtF
    rw [hp]
  have hlt : f.place < ln P f.row := (List.getElem?_eq_some_iff.mp hp).1
  by_cases hb : backB P.boxes d f c = true
  · -- back
    have es : stepF P.boxes d f c = (⟨f.row, f.place, 0, []⟩, c) := by
      unfold stepF
      rw [if_pos hb]
    rw [es, hD]
    cases d with
    | anew x y t =>
      simp only [backB, decide_eq_true_eq] at hb
      have h2 := sz_le wf.bs hd.1
      refine ⟨.inl ⟨.anew x y t, ⟨w, hp⟩, by show 0 < _; omega, by simp [HandOk]⟩, ?_⟩
      have e1 : dirtF P ⟨f.row, f.place, 0, []⟩ c = 0 := by
        unfold dirtF
        simp only
        rw [hp]
        simp [dirt]
      have e2 : dirt P.boxes (.anew x y t) f c = 10 := by
        simp only [dirt]
        rw [if_pos ⟨by omega, by omega, hb.2⟩]
      have e3 : R P ⟨f.row, f.place, 0, []⟩ = rest P f.row f.place := by
        unfold R
        simp
      have e4 : R P f = rest P f.row f.place - f.turn := rfl
      show R P ⟨f.row, f.place, 0, []⟩ + dirtF P ⟨f.row, f.place, 0, []⟩ c < _
      rw [e1, e2, e3, e4]
      have : f.turn ≤ 3 := by omega
      omega
    | _ => cases hb
  · have es : stepF P.boxes d f c = (adv P.boxes d f (handB P.boxes d f c), cellB P.boxes d f c) := by
      unfold stepF
      rw [if_neg hb]
    rw [es, hD]
    simp only
    by_cases hl : f.turn + 1 = turns P.boxes d
    · have ea : adv P.boxes d f (handB P.boxes d f c) = ⟨f.row, f.place + 1, 0, []⟩ := by
        unfold adv
        rw [if_pos hl]
      rw [ea]
      have e3 : R P ⟨f.row, f.place + 1, 0, []⟩ = rest P f.row (f.place + 1) := by
        unfold R
        simp
      have e4 : R P f = rest P f.row f.place - f.turn := rfl
      have e5 : dirtF P ⟨f.row, f.place + 1, 0, []⟩ (cellB P.boxes d f c) = 0 := by
        unfold dirtF
        simp only
        cases (plc P f.row)[f.place + 1]? with
        | none => rfl
        | some q =>
          simp only
          cases q.1 <;> simp [dirt]
      refine ⟨?_, by omega⟩
      cases e : (plc P f.row)[f.place + 1]? with
      | none =>
        refine .inr ⟨?_, rfl, rfl⟩
        have := List.getElem?_eq_none_iff.mp e
        show f.place + 1 = ln P f.row
        unfold ln at *
        omega
      | some q =>
        have h3 := wf.dk _ _ q.1 q.2 e
        have h4 := turns_le wf.bs h3.1
        refine .inl ⟨q.1, ⟨q.2, e⟩, by show 0 < _; omega, ?_⟩
        cases q.1 <;> simp [HandOk]
    · have ea : adv P.boxes d f (handB P.boxes d f c) = ⟨f.row, f.place, f.turn + 1, handB P.boxes d f c⟩ := by
        unfold adv
        rw [if_neg hl]
      rw [ea]
      have e3 : R P ⟨f.row, f.place, f.turn + 1, handB P.boxes d f c⟩ = rest P f.row f.place - (f.turn + 1) := rfl
      have e4 : R P f = rest P f.row f.place - f.turn := rfl
      have e5 : dirtF P ⟨f.row, f.place, f.turn + 1, handB P.boxes d f c⟩ (cellB P.boxes d f c) = dirt P.boxes d ⟨f.row, f.place, f.turn + 1, handB P.boxes d f c⟩ (cellB P.boxes d f c) := by
        unfold dirtF
        simp only
        rw [hp]
      have e6 : HandOk P.boxes d ⟨f.row, f.place, f.turn + 1, handB P.boxes d f c⟩ := by
        cases d with
        | grow x n =>
          simp only [HandOk, handB] at *
          split
          · rw [List.length_append, List.length_singleton]
            omega
          · omega
        | anew x y t =>
          simp only [HandOk, handB] at *
          split
          · omega
          · split
            · rw [List.length_append, List.length_singleton]
              omega
            · split
              · rw [List.length_append, List.length_singleton]
                omega
              · omega
        | _ => trivial
      have e7 : dirt P.boxes d ⟨f.row, f.place, f.turn + 1, handB P.boxes d f c⟩ (cellB P.boxes d f c) ≤ dirt P.boxes d f c := by
        cases d with
        | anew x y t =>
          simp only [dirt, backB, decide_eq_true_eq, HandOk] at *
          have h2 := sz_le wf.bs hd.1
          by_cases h0 : f.turn = 0
          · have ehd : handB P.boxes (.anew x y t) f c = f.hand ++ [c.getD (off P.boxes t) 0] := by
              simp only [handB]
              rw [if_neg (by omega), if_pos h0]
            have ec : cellB P.boxes (.anew x y t) f c = c := by
              simp only [cellB]
              rw [if_pos (by omega)]
            have el : f.hand = [] := by
              apply List.eq_nil_of_length_eq_zero
              omega
            rw [ehd, ec, el]
            rw [if_neg]
            · omega
            · intro z
              exact z.2.2 (by simp)
          · by_cases h1 : f.turn ≤ sz P.boxes x
            · have ehd : handB P.boxes (.anew x y t) f c = f.hand ++ [c.getD (off P.boxes y + (f.turn - 1)) 0] := by
                simp only [handB]
                rw [if_neg (by omega), if_neg h0, if_pos h1]
              have ec : cellB P.boxes (.anew x y t) f c = c := by
                simp only [cellB]
                rw [if_pos (by omega)]
              have eg : (f.hand ++ [c.getD (off P.boxes y + (f.turn - 1)) 0]).getD 0 0 = f.hand.getD 0 0 := by
                cases e : f.hand with
                | nil =>
                  rw [e] at hh
                  simp at hh
                  omega
                | cons a r => simp
              rw [ehd, ec, eg]
              split
              · rename_i z
                rw [if_pos ⟨by omega, by omega, z.2.2⟩]
                exact Nat.le_refl _
              · omega
            · rw [if_neg (by omega)]
              omega
        | _ => simp [dirt]
      refine ⟨.inl ⟨d, ⟨w, hp⟩, by show f.turn + 1 < _; omega, e6⟩, ?_⟩
      rw [e5]
      have : f.turn + 1 ≤ rest P f.row f.place := by omega
      omega
end Bn
set_option Elab.async false
set_option linter.all false
namespace Bn
/-! ### bits -/
def pop : Nat → Nat → Nat
  | 0, _ => 0
  | n + 1, w => (if w.testBit n then 1 else 0) + pop n w
theorem pop_or : ∀ (n a b : Nat), pop n (a ||| b) ≤ pop n a + pop n b
  | 0, _, _ => by simp [pop]
  | n + 1, a, b => by
    have ih := pop_or n a b
    simp only [pop, Nat.testBit_or]
    cases a.testBit n <;> cases b.testBit n <;> simp <;> omega
theorem pop_le : ∀ (n a : Nat), pop n a ≤ n
  | 0, _ => by simp [pop]
  | n + 1, a => by
    have ih := pop_le n a
    simp only [pop]
    split <;> omega
theorem bit_down : ∀ k, k < 7 → ∀ w, w < 128 → w.testBit k = true → 2 ^ k ≤ w ∧ pop 7 (w - 2 ^ k) + 1 = pop 7 w := by decide +kernel
theorem flag_some {n w : Nat} (h : w < 2 ^ n) (he : w % 2 = 0) (h0 : w ≠ 0) : ∃ k, 0 < k ∧ k < n ∧ w.testBit k = true := by
  obtain ⟨k, hk⟩ := Nat.exists_testBit_of_ne_zero h0
  refine ⟨k, ?_, ?_, hk⟩
  · rcases Nat.eq_zero_or_pos k with e | e
    · subst e
      rw [Nat.testBit_zero] at hk
      simp at hk
      omega
    · exact e
  · rcases Nat.lt_or_ge k n with e | e
    · exact e
    · have : w < 2 ^ k := Nat.lt_of_lt_of_le h (Nat.pow_le_pow_right (by omega) e)
      rw [Nat.testBit_lt_two_pow this] at hk
      cases hk
theorem or_even {a b : Nat} (ha : a % 2 = 0) (hb : b % 2 = 0) : (a ||| b) % 2 = 0 := by
  have h : (a ||| b).testBit 0 = false := by
    rw [Nat.testBit_or, Nat.testBit_zero, Nat.testBit_zero]
    simp [ha, hb]
  rw [Nat.testBit_zero] at h
  have h2 := of_decide_eq_false h
  have h3 := Nat.mod_two_eq_zero_or_one (a ||| b)
  rcases h3 with h3 | h3
  · exact h3
  · exact absurd h3 h2
theorem or_lt {n a b : Nat} (ha : a < 2 ^ n) (hb : b < 2 ^ n) : (a ||| b) < 2 ^ n := Nat.or_lt_two_pow ha hb
/-! ### nests -/
/-- behind a row r, with w shut beneath and there -/
def Nest (P : Prog) : Nat → Nat → List Frm → Prop
  | _, _, [] => True
  | r, w, f :: fs => (rk P r < rk P f.row ∧ 0 < f.row ∧ f.row < P.rows.length ∧ w.testBit f.row = false) ∧ Nest P f.row (w ||| wAt P f.row f.place) fs
def lastR (r : Nat) (fs : List Frm) : Nat := match fs.getLast? with
  | some f => f.row
  | none => r
def orW (P : Prog) (w : Nat) (fs : List Frm) : Nat := fs.foldl (fun w f => w ||| wAt P f.row f.place) w
theorem lastR_cons (r : Nat) (f : Frm) (fs : List Frm) : lastR r (f :: fs) = lastR f.row fs := by
  unfold lastR
  cases fs with
  | nil => rfl
  | cons g gs =>
    rw [List.getLast?_cons_cons]
    cases h : (g :: gs).getLast? with
    | none => simp at h
    | some x => rfl
theorem lastR_snoc (r : Nat) (f : Frm) (fs : List Frm) : lastR r (fs ++ [f]) = f.row := by
  unfold lastR
  rw [List.getLast?_append]
  rfl
theorem orW_snoc (P : Prog) (w : Nat) (f : Frm) (fs : List Frm) : orW P w (fs ++ [f]) = orW P w fs ||| wAt P f.row f.place := by
  unfold orW
  rw [List.foldl_append]
  rfl
theorem nest_snoc {P : Prog} {g : Frm} : ∀ {fs : List Frm} {r w : Nat}, Nest P r w (fs ++ [g]) ↔ Nest P r w fs ∧ (rk P (lastR r fs) < rk P g.row ∧ 0 < g.row ∧ g.row < P.rows.length ∧ (orW P w fs).testBit g.row = false)
  | [], r, w => by
    show (_ ∧ True) ↔ True ∧ _
    constructor
    · rintro ⟨a, _⟩
      exact ⟨trivial, a⟩
    · rintro ⟨_, a⟩
      exact ⟨a, trivial⟩
  | f :: fs, r, w => by
    have ih := nest_snoc (P := P) (g := g) (fs := fs) (r := f.row) (w := w ||| wAt P f.row f.place)
    rw [lastR_cons]
    show (_ ∧ Nest P f.row (w ||| wAt P f.row f.place) (fs ++ [g])) ↔ (_ ∧ Nest P f.row (w ||| wAt P f.row f.place) fs) ∧ _
    rw [ih]
    constructor
    · rintro ⟨a, d, e⟩
      exact ⟨⟨a, d⟩, e⟩
    · rintro ⟨⟨a, d⟩, e⟩
      exact ⟨a, d, e⟩
theorem nest_len {P : Prog} (wf : WF P) : ∀ {fs : List Frm} {r w : Nat}, rk P r ≤ 9 → Nest P r w fs → rk P r + fs.length ≤ 9
  | [], r, w, h, _ => h
  | f :: fs, r, w, h, ⟨⟨h1, h2, h3, h4⟩, h5⟩ => by
    have h6 := nest_len wf (wf.rkb f.row h2 h3).2 h5
    rw [List.length_cons]
    omega
/-! ### the paper -/
/-- a place of the row, of main its end too -/
def VP (P : Prog) (r p : Nat) : Prop := p < ln P r ∨ (r = 0 ∧ p = ln P r)
def Step (P : Prog) (r w b s p : Nat) : Prop :=
  VP P r p ∧ 0 < b ∧ b < P.rows.length ∧ rk P r < rk P b ∧ s = w ||| wAt P r p ∧ s.testBit b = false
abbrev Pap := Nat → Nat → Option Nat
def Closed (P : Prog) (M : Pap) : Prop := ∀ r w d, M r w = some d → ∀ b s p, Step P r w b s p → ∃ d', M b s = some d' ∧ d' < d
def Thru (P : Prog) (M : Pap) : Nat → Nat → List Frm → Prop
  | _, _, [] => True
  | d, w, f :: fs => ∃ d', M f.row w = some d' ∧ d' < d ∧ Thru P M d' (w ||| wAt P f.row f.place) fs
theorem thru_len {P : Prog} {M : Pap} : ∀ {fs : List Frm} {d w : Nat}, Thru P M d w fs → fs.length ≤ d
  | [], d, w, _ => Nat.zero_le _
  | f :: fs, d, w, ⟨d', h1, h2, h3⟩ => by
    have := thru_len h3
    rw [List.length_cons]
    omega
theorem thru_of {P : Prog} {M : Pap} (hc : Closed P M) : ∀ {fs : List Frm} {r w p d : Nat}, M r w = some d → VP P r p → (∀ f ∈ fs, VP P f.row f.place) →
    Nest P r (w ||| wAt P r p) fs → Thru P M d (w ||| wAt P r p) fs
  | [], _, _, _, _, _, _, _, _ => trivial
  | f :: fs, r, w, p, d, hm, hp, hv, ⟨⟨h1, h2, h3, h4⟩, h5⟩ => by
    obtain ⟨d', e1, e2⟩ := hc r w d hm f.row (w ||| wAt P r p) p ⟨hp, h2, h3, h1, rfl, h4⟩
    exact ⟨d', e1, e2, thru_of hc e1 (hv f (by simp)) (fun g hg => hv g (by simp [hg])) h5⟩
/-! ### a turn of the machine -/
def shut (P : Prog) (pile : List Frm) : Nat := orW P 0 pile
def topR (pile : List Frm) : Nat := lastR 0 pile
def Enter (P : Prog) (pile : List Frm) (fl k : Nat) : Prop := 0 < k ∧ k < P.rows.length ∧ fl.testBit k = true ∧ (shut P pile).testBit k = false ∧ rk P (topR pile) < rk P k
def Turn (P : Prog) (st : Mst) (w : Nat) (st' : Mst) : Prop :=
  (∃ k, Enter P st.pile (st.flags ||| w) k ∧ st' = ⟨(st.flags ||| w) - 2 ^ k, st.pile ++ [⟨k, 0, 0, []⟩], st.cells⟩) ∨
  ((∀ k, ¬ Enter P st.pile (st.flags ||| w) k) ∧ ∃ bs top, st.pile = bs ++ [top] ∧
    ((top.place = ln P top.row ∧ st' = ⟨st.flags ||| w, st.pile, st.cells⟩) ∨
     ∃ d w', (plc P top.row)[top.place]? = some (d, w') ∧
       st' = ⟨st.flags ||| w, if 0 < top.row ∧ (stepF P.boxes d top st.cells).1.place = ln P top.row then bs else bs ++ [(stepF P.boxes d top st.cells).1], (stepF P.boxes d top st.cells).2⟩))
structure Inv (P : Prog) (st : Mst) : Prop where
  nest : ∃ f0 fs, st.pile = f0 :: fs ∧ f0.row = 0 ∧ Nest P 0 (wAt P 0 f0.place) fs
  fv : ∀ f ∈ st.pile, FV P f
  fl : st.flags < 2 ^ P.rows.length
  ev : st.flags % 2 = 0
  cl : st.cells.length = total P.boxes
/-- where the machine rests -/
def Rests (P : Prog) (st : Mst) : Prop := st.flags = 0 ∧ ∃ f, st.pile = [f] ∧ f.place = ln P 0
def sumR (P : Prog) : List Frm → Nat
  | [] => 0
  | f :: fs => R P f + sumR P fs
theorem sumR_snoc (P : Prog) (g : Frm) : ∀ fs : List Frm, sumR P (fs ++ [g]) = sumR P fs + R P g
  | [] => by simp [sumR]
  | f :: fs => by
    have := sumR_snoc P g fs
    show R P f + sumR P (fs ++ [g]) = R P f + sumR P fs + R P g
    omega
def topD (P : Prog) (pile : List Frm) (c : List Int) : Nat := match pile.getLast? with
  | some f => dirtF P f c
  | none => 0
theorem topD_snoc (P : Prog) (g : Frm) (fs : List Frm) (c : List Int) : topD P (fs ++ [g]) c = dirtF P g c := by
  unfold topD
  rw [List.getLast?_append]
  rfl
theorem topD_le (P : Prog) (fs : List Frm) (c : List Int) : topD P fs c ≤ 10 := by
  unfold topD
  split
  · exact dirtF_le
  · omega
/-- how much there is still to do, but for the ringings to come -/
def Phi (P : Prog) (st : Mst) : Nat := sumR P st.pile + 10 * st.pile.length + topD P st.pile st.cells + 130 * pop 7 st.flags
theorem fv_vp {P : Prog} {f : Frm} (h : FV P f) : VP P f.row f.place := by
  obtain ⟨h1, h2 | ⟨h2, h3⟩⟩ := h
  · obtain ⟨d, ⟨w, hw⟩, _⟩ := h2
    exact .inl (List.getElem?_eq_some_iff.mp hw).1
  · exact .inr ⟨h2, h3.1⟩
theorem pile_snoc (st : Mst) (f0 : Frm) (fs : List Frm) (h : st.pile = f0 :: fs) : topR st.pile = lastR f0.row fs ∧ ∀ P, shut P st.pile = orW P (wAt P f0.row f0.place) fs := by
  rw [h]
  refine ⟨lastR_cons 0 f0 fs, fun P => ?_⟩
  unfold shut orW
  rw [List.foldl_cons, Nat.zero_or]
theorem turn_ok {P : Prog} (wf : WF P) {st st' : Mst} {w : Nat} (I : Inv P st) (hw : w < 2 ^ P.rows.length) (hev : w % 2 = 0) (h : Turn P st w st') :
    Inv P st' ∧ (Phi P st' < Phi P st + 130 * pop 7 w ∨ (Phi P st' ≤ Phi P st + 130 * pop 7 w ∧ w = 0 → Rests P st) ∧ Phi P st' ≤ Phi P st + 130 * pop 7 w) := by
  obtain ⟨f0, fs, hpile, hrow0, hnest⟩ := I.nest
  have hfl : (st.flags ||| w) < 2 ^ P.rows.length := or_lt I.fl hw
  have h128 : (st.flags ||| w) < 128 := Nat.lt_of_lt_of_le hfl (Nat.le_trans (Nat.pow_le_pow_right (by omega) wf.r7) (by decide))
  have hfe : (st.flags ||| w) % 2 = 0 := or_even I.ev hev
  have hpo := pop_or 7 st.flags w
  have htop := pile_snoc st f0 fs hpile
  rcases h with ⟨k, ⟨hk0, hkn, hkb, hks, hkr⟩, rfl⟩ | ⟨hno, bs, top, hbt, h⟩
  · -- a bell enters
    obtain ⟨hb1, hb2⟩ := bit_down k (by have := wf.r7; omega) _ h128 hkb
    have hn' : Nest P 0 (wAt P 0 f0.place) (fs ++ [⟨k, 0, 0, []⟩]) := by
      refine nest_snoc.mpr ⟨hnest, ?_, hk0, hkn, ?_⟩
      · rw [htop.1, hrow0] at hkr
        exact hkr
      · rw [htop.2 P, hrow0] at hks
        exact hks
    have hpl := wf.pl k hkn
    have hkv : FV P ⟨k, 0, 0, []⟩ := by
      refine ⟨hkn, .inl ?_⟩
      have h0 : 0 < (plc P k).length := by
        have := hpl.1
        unfold ln at this
        omega
      have e0 : (plc P k)[0]? = some (plc P k)[0] := List.getElem?_eq_getElem h0
      have hd := (wf.dk k 0 _ _ e0).1
      refine ⟨_, ⟨_, e0⟩, ?_, ?_⟩
      · have := turns_le wf.bs hd
        show 0 < _
        omega
      · generalize (plc P k)[0].1 = d
        cases d <;> simp [HandOk]
    refine ⟨⟨⟨f0, fs ++ [⟨k, 0, 0, []⟩], by rw [hpile]; rfl, hrow0, hn'⟩, fun f hf => ?_, ?_, ?_, I.cl⟩, .inl ?_⟩
    · rcases List.mem_append.mp hf with z | z
      · exact I.fv f z
      · rw [List.mem_singleton.mp z]
        exact hkv
    · exact Nat.lt_of_le_of_lt (Nat.sub_le _ _) hfl
    · show ((st.flags ||| w) - 2 ^ k) % 2 = 0
      have e2 : 2 ^ k = 2 * 2 ^ (k - 1) := by
        rw [← Nat.pow_succ']
        congr 1
        omega
      omega
    · have hR : R P ⟨k, 0, 0, []⟩ ≤ 108 := R_le wf (f := ⟨k, 0, 0, []⟩) hkn
      have hD := dirtF_le (P := P) (f := ⟨k, 0, 0, []⟩) (c := st.cells)
      show sumR P (st.pile ++ [(⟨k, 0, 0, []⟩ : Frm)]) + 10 * (st.pile ++ [(⟨k, 0, 0, []⟩ : Frm)]).length + topD P (st.pile ++ [(⟨k, 0, 0, []⟩ : Frm)]) st.cells + 130 * pop 7 ((st.flags ||| w) - 2 ^ k) < _
      rw [sumR_snoc, topD_snoc, List.length_append, List.length_singleton]
      unfold Phi
      omega
  · have hmem : top ∈ st.pile := by rw [hbt]; simp
    have hfvt := I.fv top hmem
    rcases h with ⟨hend, rfl⟩ | ⟨d, w', hdp, rfl⟩
    · -- idle
      have e1 : Phi P ⟨st.flags ||| w, st.pile, st.cells⟩ ≤ Phi P st + 130 * pop 7 w := by
        unfold Phi
        show sumR P st.pile + 10 * st.pile.length + topD P st.pile st.cells + 130 * pop 7 (st.flags ||| w) ≤ _
        omega
      refine ⟨⟨⟨f0, fs, hpile, hrow0, hnest⟩, I.fv, hfl, hfe, I.cl⟩, .inr ⟨fun ⟨_, hw0⟩ => ?_, e1⟩⟩
      subst hw0
      have ht0 : top.row = 0 := by
        obtain ⟨_, ⟨d, ⟨w, hw⟩, _⟩ | ⟨h2, _⟩⟩ := hfvt
        · have := (List.getElem?_eq_some_iff.mp hw).1
          unfold ln at hend
          omega
        · exact h2
      have hbs : bs = [] := by
        cases hb : bs with
        | nil => rfl
        | cons g gs =>
          rw [hb] at hbt
          rw [hbt] at hpile
          injection hpile with _ e2
          rw [← e2] at hnest
          have := (nest_snoc.mp hnest).2.2.1
          omega
      subst hbs
      have hpile2 : st.pile = [top] := by simpa using hbt
      refine ⟨?_, top, hpile2, by rw [hend, ht0]⟩
      rw [Nat.or_zero] at hno
      by_cases hz : st.flags = 0
      · exact hz
      · obtain ⟨k, k1, k2, k3⟩ := flag_some I.fl I.ev hz
        exfalso
        refine hno k ⟨k1, k2, k3, ?_, ?_⟩
        · rw [hpile2]
          have e0 : shut P [top] = wAt P top.row top.place := by
            unfold shut orW
            rw [List.foldl_cons, List.foldl_nil, Nat.zero_or]
          rw [e0]
          have e1 : wAt P top.row top.place = 0 := by
            unfold wAt
            rw [List.getElem?_eq_none (by unfold ln at hend; omega)]
          rw [e1]
          simp
        · rw [hpile2]
          have e0 : topR [top] = top.row := by
            unfold topR lastR
            rfl
          rw [e0, ht0, wf.rk0]
          have := (wf.rkb k k1 k2).1
          omega
    · -- a turn of the top's deed
      have ham : Amid P top d := by
        obtain ⟨_, ⟨d1, ⟨w1, h1⟩, h2, h3⟩ | ⟨h2, h3⟩⟩ := hfvt
        · rw [hdp] at h1
          injection h1 with h1
          injection h1 with e1 e2
          subst e1
          exact ⟨⟨_, hdp⟩, h2, h3⟩
        · have := (List.getElem?_eq_some_iff.mp hdp).1
          have := h3.1
          unfold ln at this
          omega
      obtain ⟨hk, hm⟩ := step_ok wf (c := st.cells) hfvt.1 ham
      have hlen := stepF_len (B := P.boxes) (d := d) (f := top) (c := st.cells)
      have hrow := stepF_row (B := P.boxes) (d := d) (f := top) (c := st.cells)
      generalize hS : stepF P.boxes d top st.cells = S at hk hm hlen hrow
      obtain ⟨f', c'⟩ := S
      simp only at hk hm hlen hrow ⊢
      by_cases hout : 0 < top.row ∧ f'.place = ln P top.row
      · rw [if_pos hout]
        -- the bell's row is done
        have hb : ∃ gs, bs = f0 :: gs ∧ fs = gs ++ [top] := by
          cases hb : bs with
          | nil =>
            rw [hb] at hbt
            rw [hbt] at hpile
            injection hpile with e1 _
            rw [e1, hrow0] at hout
            exact absurd hout.1 (Nat.lt_irrefl _)
          | cons g gs =>
            rw [hb] at hbt
            rw [hbt] at hpile
            injection hpile with e1 e2
            exact ⟨gs, by rw [e1], e2.symm⟩
        obtain ⟨gs, hb1, hb2⟩ := hb
        have hn' : Nest P 0 (wAt P 0 f0.place) gs := by
          rw [hb2] at hnest
          exact (nest_snoc.mp hnest).1
        refine ⟨⟨⟨f0, gs, hb1, hrow0, hn'⟩, fun f hf => I.fv f (by rw [hbt]; simp [show f ∈ bs from hf]), hfl, hfe, by show c'.length = _; rw [hlen]; exact I.cl⟩, .inl ?_⟩
        show sumR P bs + 10 * bs.length + topD P bs c' + 130 * pop 7 (st.flags ||| w) < _
        have hD := topD_le P bs c'
        have hE : Phi P st = sumR P bs + R P top + 10 * (bs.length + 1) + dirtF P top st.cells + 130 * pop 7 st.flags := by
          unfold Phi
          rw [hbt, sumR_snoc, topD_snoc, List.length_append, List.length_singleton]
        rw [hE]
        omega
      · rw [if_neg hout]
        have hfv' : FV P f' := by
          refine ⟨by rw [hrow]; exact hfvt.1, ?_⟩
          rcases hk with ⟨d', hd'⟩ | he
          · exact .inl ⟨d', hd'⟩
          · refine .inr ⟨?_, he⟩
            rw [hrow]
            rcases Nat.eq_zero_or_pos top.row with z | z
            · exact z
            · exact absurd ⟨z, by rw [he.1, hrow]⟩ hout
        have hpn : ∃ g0 gs, bs ++ [f'] = g0 :: gs ∧ g0.row = 0 ∧ Nest P 0 (wAt P 0 g0.place) gs := by
          cases hb : bs with
          | nil =>
            rw [hb] at hbt
            rw [hbt] at hpile
            injection hpile with e1 e2
            exact ⟨f', [], rfl, by rw [hrow, e1, hrow0], trivial⟩
          | cons g gs =>
            rw [hb] at hbt
            rw [hbt] at hpile
            injection hpile with e1 e2
            refine ⟨g, gs ++ [f'], rfl, by rw [e1, hrow0], ?_⟩
            rw [← e2, ← e1] at hnest
            have z := nest_snoc.mp hnest
            exact nest_snoc.mpr ⟨z.1, by rw [hrow]; exact z.2⟩
        refine ⟨⟨hpn, fun f hf => ?_, hfl, hfe, by show c'.length = _; rw [hlen]; exact I.cl⟩, .inl ?_⟩
        · rcases List.mem_append.mp hf with z | z
          · exact I.fv f (by rw [hbt]; simp [z])
          · rw [List.mem_singleton.mp z]
            exact hfv'
        · show sumR P (bs ++ [f']) + 10 * (bs ++ [f']).length + topD P (bs ++ [f']) c' + 130 * pop 7 (st.flags ||| w) < _
          rw [sumR_snoc, topD_snoc, List.length_append, List.length_singleton]
          have hE : Phi P st = sumR P bs + R P top + 10 * (bs.length + 1) + dirtF P top st.cells + 130 * pop 7 st.flags := by
            unfold Phi
            rw [hbt, sumR_snoc, topD_snoc, List.length_append, List.length_singleton]
          rw [hE]
          omega
end Bn
set_option Elab.async false
set_option linter.all false
set_option maxRecDepth 100000
set_option maxHeartbeats 4000000
namespace Bn
open PySem PySem.Spec PyProof.Rows L2 Evl
/-! ### short names of operations -/
abbrev rPl : R2 := rI0 fun i j => .int (i + j)
abbrev rMi : R2 := rI0 fun i j => .int (i - j)
abbrev rTi : R2 := rI CMul fun i j => .int (i * j)
abbrev rMo : R2 := rI (fun _ j => 0 < j) fun i j => .int (i % j)
abbrev rDi : R2 := rI CDiv fun i j => .int (i / j)
abbrev rPo : R2 := rI CPow fun i j => .int (i ^ j.toNat)
abbrev rSl : R2 := rI CPow fun i j => .int (i * 2 ^ j.toNat)
abbrev rSr : R2 := rI (fun _ j => 0 ≤ j) fun i j => .int (i / 2 ^ j.toNat)
abbrev rAn : R2 := rI0 fun i j => .int (Builtin.bitAnd i j)
abbrev rOr : R2 := rI0 fun i j => .int (Builtin.bitOr i j)
abbrev rNg : V → Hp → VK → Prop := rU fun i => .int (-i)
abbrev rLt : R2 := rI0 fun i j => .bl (decide (i < j))
abbrev rLe : R2 := rI0 fun i j => .bl (decide (i ≤ j))
abbrev rGr : R2 := rI0 fun i j => .bl (decide (j < i))
abbrev rGq : R2 := rI0 fun i j => .bl (decide (j ≤ i))
def rMin2 : List V → Hp → VK → Prop := fun xs H Q => ∃ i j, xs = [.int i, .int j] ∧ Q (.int (if j < i then j else i)) H
def rTupS (K : PySem.W.Frag) : List V → Hp → VK → Prop := fun xs H Q => ∃ p ys, xs = [.ref p] ∧ ((SqL K H p ys ∧ ∀ l, H l = none → Q (.ref l) (upd H l (.tup ys))) ∨ (SqT K H p ys ∧ Q (.ref p) H))
/-! ### a text of one sign, once or twice -/
def rMulS : R2 := fun x y H Q => ∃ (z : Str) (n : Int), x = .str z ∧ y = .int n ∧ (n = 1 ∨ n = 2) ∧ z.length ≤ 10 ∧ ∀ u, Q (.str u) H
theorem op_mulS {X : Cx} : OpR X (binaryOp .Mult) rMulS := by
  intro pins s σ H x y v u Q I rx ry h
  obtain ⟨z, n, rfl, rfl, hn, hz, q⟩ := h
  obtain ⟨t, rfl⟩ := rx
  obtain ⟨t', rfl⟩ := ry
  have hs : (2 : Nat) * 10 ≤ sizeLine := by decide
  refine P.mul_str ?_ (fun _ _ => ?_) (fun _ _ => ?_) ?_
  · rcases hn with rfl | rfl <;> decide
  · rcases hn with rfl | rfl <;> omega
  · unfold Builtin.Str.tooLong
    refine decide_eq_false ?_
    rcases hn with rfl | rfl
    · show ¬ z.length * 1 > sizeLine
      omega
    · show ¬ z.length * 2 > sizeLine
      omega
  · rcases hn with rfl | rfl
    · exact ⟨.str z, H, I, ⟨_, rfl⟩, q z⟩
    · by_cases hz0 : z.length = 0
      · have e : ((2 : Int) == 1 || z.length == 0) = true := by rw [hz0]; rfl
        rw [if_neg (by decide), if_pos e]
        exact ⟨.str z, H, I, ⟨_, rfl⟩, q z⟩
      · have e : ((2 : Int) == 1 || z.length == 0) = false := by
          have e1 : (z.length == 0) = false := beq_eq_false_iff_ne.mpr hz0
          rw [e1]
          rfl
        rw [if_neg (by decide), if_neg (by rw [e]; exact Bool.false_ne_true)]
        refine ⟨?_, ⟨.str _, H, I.tok _, ⟨_, rfl⟩, q _⟩⟩
        show ((List.replicate 2 z.cps).foldl (· ++ ·) #[]).size ≤ sizeLine
        have e3 : ((List.replicate 2 z.cps).foldl (· ++ ·) #[]).size = z.cps.size + z.cps.size := by
          simp [List.replicate]
        rw [e3]
        have e4 : z.cps.size = z.length := rfl
        omega
/-! ### d.items() of a dict whose keys are tuples -/
def ItiT (d : Addr) (o : Obj) (kvs : List (List Key × V)) : It :=
  ⟨fun i H => H d = some (.frz o (.dT kvs)) ∧ i < kvs.length,
   fun i H x H' => ∃ (T q : Addr) (k : List Key) (v : V), kvs[i]? = some (k, v) ∧ x = .ref T ∧ H T = none ∧ H q = some (.tup (k.map kV)) ∧ H' = upd H T (.tup [.ref q, v]),
   fun i H => H d = some (.frz o (.dT kvs)) ∧ kvs.length ≤ i⟩
def iItemsT (td : TE) : TI := fun σ H R => td σ H fun x H1 => ∃ d o kvs, x = .ref d ∧ H1 d = some (.frz o (.dT kvs)) ∧ R (ItiT d o kvs) H1
/-- what stands at such a dict, raw: its entries, each key's tuple, each value -/
theorem rawT {X : Cx} {pins : List (Addr × Obj)} {σ : L2.St} {H : Hp} {s : Shared} {d : Addr} {o : Obj} {kvs : List (List Key × V)} (I : L2.Inv X pins σ H s) (h : H d = some (.frz o (.dT kvs))) :
    (d == sysModules) = false ∧ ∃ (es : Array DictEntry) (ep : Nat), s.heap.get? d = some o ∧ o.data = .dict es ep ∧ s.heap.DictRaw d es ep ∧ es.size = kvs.length ∧
      ∀ (i : Nat) (hi : i < es.size) (k : List Key) (v : V), kvs[i]? = some (k, v) → ∃ (q : Addr), es[i].key = .ref q ∧ H q = some (.tup (k.map kV)) ∧ RelV v es[i].val := by
  obtain ⟨hd, _, hs, xs, pr, ob, es, ep, ho, hx, hdt, he, _⟩ := I.hok d _ h
  have eo : ob = o := by
    rw [hd] at ho
    exact (Option.some.inj ho).symm
  subst eo
  refine ⟨hs, es, ep, hd, hdt, ⟨ob, hd, hx, hdt⟩, ?_, fun i hi k v e => ?_⟩
  · have l1 := size_of_entries he
    have l2 := Paired.length pr
    omega
  · obtain ⟨b, hb, e1, e2, e3⟩ := paired_get pr e
    have q := entry_at he i
    rw [hb, Array.getElem?_eq_getElem hi] at q
    have q2 := Option.some.inj q
    exact ⟨b.2.1, by rw [q2]; rfl, e2, by rw [q2]; exact e3⟩
theorem one_ep {o : Obj} {es es' : Array DictEntry} {ep ep' : Nat} (h : o.data = .dict es ep) (h' : o.data = .dict es' ep') : es' = es ∧ ep' = ep := by
  rw [h] at h'
  cases h'
  exact ⟨rfl, rfl⟩
theorem turn_itemsT {P : Program} {w : World} {K : PySem.W.Frag} {d : Addr} {o : Obj} {es : Array DictEntry} {ep : Nat} {kvs : List (List Key × V)} {elts : List Expr} {kk : Nat} {tpos : Pos} (it : Addr) (hod : o.data = .dict es ep) (hsz : es.size = kvs.length) :
    L2.Turn P w K (.Tuple elts kk tpos) (ItiT d o kvs) [it] it (fun i h => ∃ ok ov, IsItemIter h it d i es.size ep ok ov) where
  mem := List.mem_singleton.mpr rfl
  obj := fun i h st b hb => by
    rw [List.mem_singleton.mp hb]
    obtain ⟨ok, ov, e⟩ := st
    exact ⟨_, e, fun v z => nomatch z⟩
  keep := fun i h h' st k => by
    obtain ⟨ok, ov, e⟩ := st
    exact ⟨ok, ov, k it (List.mem_singleton.mpr rfl) _ e⟩
  item := by
    intro X hP hw hK hc i pins s σ H E I hf st hg
    subst hP hw hK
    obtain ⟨hfz, hi⟩ := hg
    obtain ⟨hs, es', ep', hgd, hdt, hraw, hsz', ent⟩ := rawT I hfz
    obtain ⟨rfl, rfl⟩ := one_ep hod hdt
    have hi2 : i < es'.size := by omega
    obtain ⟨p, hkv⟩ : ∃ p, kvs[i]? = some p := ⟨kvs[i], List.getElem?_eq_getElem hi⟩
    obtain ⟨k, v⟩ := p
    obtain ⟨q, hkey, hq, hv⟩ := ent i hi2 k v hkv
    obtain ⟨ok, ov, he⟩ := st
    have hlt : it < s.heap.objs.size := Heap.lt_size he
    refine wpAny_pyNext_items_item_raw he hraw hi2 fun h' ho hT hz hk => ?_
    refine ⟨_, rfl, wpAny_letOwnedTupleGo_items (s := { s with heap := h' }) ho fun h2 he2 sb => ?_⟩
    have hT2 : h2.get? s.heap.objs.size = some { cls := .type "tuple", data := .seq #[es'[i].key, es'[i].val] } := (sb.2 _ (Nat.ne_of_gt hlt)).trans hT
    have new : ObjOk X.prog X.w (upd H s.heap.objs.size (.tup [.ref q, v])) h2 s.heap.objs.size (.tup [.ref q, v]) :=
      ⟨by show 2 ≤ sizeLine; decide, [es'[i].key, es'[i].val], .cons hkey (.cons hv .nil), ⟨_, hT2, rfl, _, rfl⟩⟩
    have I1 : L2.Inv X pins σ (upd H s.heap.objs.size (.tup [.ref q, v])) { s with heap := h2 } :=
      I.turnedNew (t' := s.toks) (ch := [it]) (fun b ob hb e => (sb.2 b fun z => hb (List.mem_singleton.mpr z)).trans (hk b ob (fun z => hb (List.mem_singleton.mpr z)) e)) hf (Nat.le_refl _) new
    refine ⟨.ref s.heap.objs.size, _, I1, rfl, ⟨_, q, k, v, hkv, rfl, I.hok.fresh (Nat.le_refl _), hq, rfl⟩, ⟨_, _, he2⟩, fun b hb => ?_⟩
    rw [List.mem_singleton.mp hb, upd_ne (Nat.ne_of_lt hlt)]
    exact (hf it (List.mem_singleton.mpr rfl)).1
  done := by
    intro X hP hw hK hc i pins s σ H E I hf st hg
    subst hP hw hK
    obtain ⟨hfz, hi⟩ := hg
    obtain ⟨f0, f1, f2, f3, f4, f5⟩ := hf it (List.mem_singleton.mpr rfl)
    obtain ⟨hs, es', ep', hgd, hdt, hraw, hsz', ent⟩ := rawT I hfz
    obtain ⟨rfl, rfl⟩ := one_ep hod hdt
    obtain ⟨ok, ov, he⟩ := st
    exact wpAny_pyNext_items_end_raw (I.ok.hd hc) he hraw (by omega) fun h' eb => ⟨rfl, I.turned (t' := s.toks) (fun b ob hb e => eb b ob hb e) f0 f1 f3 f4 f5⟩
  self := fun A i s Q E st h => by
    obtain ⟨_, _, e⟩ := st
    exact PySem.W.kcp_self e h
theorem pi_itemsT {X : Cx} {e : Expr} {td : TE} {apos cpos : Pos} {elts : List Expr} {kk : Nat} {tpos : Pos} (he : PE X e td) (hbase : attributeBase e "items" X.env (eval e X.env) = eval e X.env := by rfl) (hline : (apos.endLine == cpos.line) = true := by rfl) :
    PI X (.Tuple elts kk tpos) (.Call (.Attribute e "items" apos) [] [] cpos) (iItemsT td) := by
  refine ⟨fun pins s σ H R I h => ?_⟩
  refine wpAny_Call_method (T := "dict") (id := "dict.items") hbase rfl hline F.plainAttrs_dict F.slot_dict_items F.type_dict_items (thn (he.run pins s σ H _ I h) fun u s1 z => ?_)
  obtain ⟨x, H1, I1, rx, d, o, kvs, ex, hfz, q⟩ := z
  subst ex
  have eu : u = Value.ref d := rx
  subst eu
  obtain ⟨hs, es, ep, hgd, hdt, hraw, hsz, ent⟩ := rawT I1 hfz
  obtain ⟨ob, hob, hex, _⟩ := id hraw
  refine ⟨⟨ob, hob, hex.1⟩, fun b eb => ?_, ?_⟩
  · cases eb
    exact ⟨ob, hob, hex.2.1⟩
  have I2 : L2.Inv X pins σ H1 { s1 with heap := s1.heap.push { cls := .type "dict_items", data := .fields #[.ref d] } } := I1.kept (t' := s1.toks) fun b ob q => Heap.get?_push_of_some _ q
  have fin : wpAny (model X.prog X.w) X.A (pyIter (.ref s1.heap.objs.size)) (PIE X pins σ (.Tuple elts kk tpos) R) X.xe { s1 with heap := s1.heap.push { cls := .type "dict_items", data := .fields #[.ref d] } } := by
    refine wpAny_pyIter_items_raw (d := d) ⟨_, Heap.get?_push_size _ rfl, rfl, rfl⟩ (hraw.at fun o e => Heap.get?_push_of_some _ e) (pi_one (tk := s1.toks) I2 _ (turn_itemsT _ hdt hsz) ⟨.none, .none, ?_⟩ q)
    exact Heap.get?_push_size _ rfl
  show wpAny _ _ (callWith cpos (.builtin "dict.items") [.ref d] [] []) _ X.xe s1
  exact method_meetsIn F.slot_dict_items F.entry_dict_items rfl (PySem.evalArgs_none ⟨rfl, ⟨ob, hob, hex.1⟩, F.args_dict_items_1 _, _, meets_dict_items_raw d hs, ⟨es, ep, hraw⟩, fin⟩)
end Bn
set_option Elab.async false
set_option linter.all false
set_option maxRecDepth 100000
set_option maxHeartbeats 4000000
namespace Bn
open PySem PySem.Spec PyProof.Rows L2 Evl
/-! ### the text by places -/
def top (i : Nat) : Stmt := PySem.Challenge.pw_bellnest_k35_whole_runs_keep_to_the_pape.main.body.getD i (.Pass ⟨0, 0, 0, 0⟩)
abbrev FnP (K : PySem.W.Frag) (x q : Str) (st : Stmt) (f : Addr) (fd : FuncData) : Prop := FunD K x q (defArgs st) (defBody st) (defScope st) [] [] f fd
/-- a def that keeps its promise, by its name -/
def Has (P : Program) (w : World) (K : PySem.W.Frag) (mg : Str → Option Value) (base : Heap) (k : Nat) (x : Str) (ps : List Str) (sp : Sp) : Prop :=
  ∃ (f : Addr) (fd : FuncData), mg x = some (.ref f) ∧ PySem.W.keepIn K (.ref f) = true ∧ Binds K fd ps [] ∧ FnOk P w K mg base CX0 k f fd ps sp
/-! ### what is kept -/
/-- the tuples are kept -/
def Tk (H H' : Hp) : Prop := ∀ a xs, H a = some (.tup xs) → H' a = some (.tup xs)
theorem Tk.of {H H' : Hp} (e : Ex H H') : Tk H H' := fun a xs h => e a _ h
theorem Tk.trans {H H1 H2 : Hp} (a : Tk H H1) (b : Tk H1 H2) : Tk H H2 := fun x o h => b x o (a x o h)
theorem Tk.upd {H : Hp} {p : Addr} {o : HO} {xs : List V} (h : H p = some (.lst xs)) : Tk H (upd H p o) := fun a ys ha => by
  rw [upd_ne (ne_of ha h (by intro z; cases z))]
  exact ha
/-! ### the data as they stand -/
def BoxesAt (H : Hp) (b : Addr) (B : Boxes) : Prop :=
  ∃ as : List Addr, H b = some (.tup (as.map V.ref)) ∧ as.length = B.length ∧
    ∀ (i : Nat) (a : Addr), as[i]? = some a → ∃ (nm : Str) (q : Addr), H a = some (.tup [.str nm, .ref q]) ∧ H q = some (.tup ((B.getD i []).map V.int))
def kindS : Deed → Str
  | .put _ _ => "put"
  | .copy _ _ => "copy"
  | .grow _ _ => "grow"
  | .tick _ => "tick"
  | .still _ => "still"
  | .same true _ _ _ => "most"
  | .same false _ _ _ => "is"
  | .alone _ => "none"
  | .anew _ _ _ => "anew"
def DeedAt (H : Hp) (a : Addr) (d : Deed) : Prop := match d with
  | .put x ns => ∃ q, H a = some (.tup [.str "put", .int (x : Nat), .ref q]) ∧ H q = some (.tup (ns.map V.int))
  | .copy x y => H a = some (.tup [.str "copy", .int (x : Nat), .int (y : Nat)])
  | .grow x n => H a = some (.tup [.str "grow", .int (x : Nat), .int n])
  | .tick x => H a = some (.tup [.str "tick", .int (x : Nat)])
  | .still n => H a = some (.tup [.str "still", .int (n : Nat)])
  | .same m x y n => H a = some (.tup [.str (kindS (.same m x y n)), .int (x : Nat), .int (y : Nat), .int n])
  | .alone x => H a = some (.tup [.str "none", .int (x : Nat)])
  | .anew x y t => H a = some (.tup [.str "anew", .int (x : Nat), .int (y : Nat), .int (t : Nat)])
def PlacesAt (H : Hp) (a : Addr) (ps : List (Deed × Nat)) : Prop :=
  ∃ qs : List Addr, H a = some (.tup (qs.map V.ref)) ∧ qs.length = ps.length ∧
    ∀ (i : Nat) (q : Addr) (x : Deed × Nat), qs[i]? = some q → ps[i]? = some x → ∃ da, H q = some (.tup [.ref da, .int (x.2 : Nat)]) ∧ DeedAt H da x.1
def RowsAt (H : Hp) (a : Addr) (rs : List Row) : Prop :=
  ∃ qs : List Addr, H a = some (.tup (qs.map V.ref)) ∧ qs.length = rs.length ∧
    ∀ (i : Nat) (q : Addr) (r : Row), qs[i]? = some q → rs[i]? = some r → ∃ (nm : Str) (pl : Addr), H q = some (.tup [.str nm, .int (r.rank : Nat), .ref pl]) ∧ PlacesAt H pl r.places
def ProgAt (H : Hp) (a : Addr) (P : Prog) : Prop :=
  ∃ bx rw : Addr, H a = some (.tup [.ref bx, .ref rw]) ∧ BoxesAt H bx P.boxes ∧ RowsAt H rw P.rows
theorem BoxesAt.keep {H H' : Hp} {b : Addr} {B : Boxes} (h : BoxesAt H b B) (t : Tk H H') : BoxesAt H' b B := by
  obtain ⟨as, h1, h2, h3⟩ := h
  refine ⟨as, t _ _ h1, h2, fun i a e => ?_⟩
  obtain ⟨nm, q, h4, h5⟩ := h3 i a e
  exact ⟨nm, q, t _ _ h4, t _ _ h5⟩
theorem DeedAt.keep {H H' : Hp} {a : Addr} {d : Deed} (h : DeedAt H a d) (t : Tk H H') : DeedAt H' a d := by
  cases d with
  | put x ns =>
    obtain ⟨q, h1, h2⟩ := h
    exact ⟨q, t _ _ h1, t _ _ h2⟩
  | _ => exact t _ _ h
theorem PlacesAt.keep {H H' : Hp} {a : Addr} {ps : List (Deed × Nat)} (h : PlacesAt H a ps) (t : Tk H H') : PlacesAt H' a ps := by
  obtain ⟨qs, h1, h2, h3⟩ := h
  refine ⟨qs, t _ _ h1, h2, fun i q x e1 e2 => ?_⟩
  obtain ⟨da, h4, h5⟩ := h3 i q x e1 e2
  exact ⟨da, t _ _ h4, h5.keep t⟩
theorem RowsAt.keep {H H' : Hp} {a : Addr} {rs : List Row} (h : RowsAt H a rs) (t : Tk H H') : RowsAt H' a rs := by
  obtain ⟨qs, h1, h2, h3⟩ := h
  refine ⟨qs, t _ _ h1, h2, fun i q x e1 e2 => ?_⟩
  obtain ⟨nm, pl, h4, h5⟩ := h3 i q x e1 e2
  exact ⟨nm, pl, t _ _ h4, h5.keep t⟩
theorem ProgAt.keep {H H' : Hp} {a : Addr} {P : Prog} (h : ProgAt H a P) (t : Tk H H') : ProgAt H' a P := by
  obtain ⟨bx, rw, h1, h2, h3⟩ := h
  exact ⟨bx, rw, t _ _ h1, h2.keep t, h3.keep t⟩
/-- a list of triples of numbers -/
def TriAt (H : Hp) (as : List Addr) (S : List (Nat × Nat × Nat)) : Prop :=
  as.length = S.length ∧ ∀ (i : Nat) (a : Addr) (x : Nat × Nat × Nat), as[i]? = some a → S[i]? = some x → H a = some (.tup [.int (x.1 : Nat), .int (x.2.1 : Nat), .int (x.2.2 : Nat)])
theorem TriAt.keep {H H' : Hp} {as : List Addr} {S : List (Nat × Nat × Nat)} (h : TriAt H as S) (t : Tk H H') : TriAt H' as S :=
  ⟨h.1, fun i a x e1 e2 => t _ _ (h.2 i a x e1 e2)⟩
/-! ### what weighing knows -/
structure Ent where
  d : Nat
  b : Nat
  s : Nat
  p : Nat
abbrev Kn := Nat → Nat → Option Ent
def key (r w : Nat) : List Key := [Sum.inl (r : Int), Sum.inl (w : Int)]
def KnownAt (H : Hp) (a : Addr) (M : Kn) : Prop :=
  ∃ kvs : List (List Key × V), H a = some (.dT kvs) ∧ (kvs.map (·.1)).Nodup ∧ (∀ kv ∈ kvs, ∃ r w, kv.1 = key r w ∧ r < 7 ∧ w < 128) ∧
    ∀ r w, (M r w = none → valV kvs (key r w) = none) ∧ ∀ e, M r w = some e → ∃ q, valV kvs (key r w) = some (.ref q) ∧ H q = some (.tup [.int (e.d : Nat), .int (e.b : Nat), .int (e.s : Nat), .int (e.p : Nat)])
def Good (P : Prog) (M : Kn) : Prop := ∀ r w e, M r w = some e → r < P.rows.length ∧
  (∀ b s p, Step P r w b s p → ∃ e', M b s = some e' ∧ e'.d < e.d) ∧ (0 < e.d → Step P r w e.b e.s e.p)
def papOf (M : Kn) : Pap := fun r w => (M r w).map (·.d)
/-! ### the machine as it stands -/
def FrameAt (H : Hp) (c f : Addr) (fr : Frm) : Prop :=
  ∃ h, H f = some (.lst [.int (fr.row : Nat), .int (fr.place : Nat), .int (fr.turn : Nat), .ref h]) ∧ H h = some (.lst (fr.hand.map V.int)) ∧ h ≠ c
def NowAt (H0 H : Hp) (a : Addr) (st : Mst) : Prop :=
  Ex H0 H ∧ ∃ (l c : Addr) (as : List Addr), H0 a = none ∧ H0 l = none ∧ H0 c = none ∧ (∀ f ∈ as, H0 f = none) ∧
    H a = some (.lst [.int (st.flags : Nat), .ref l, .ref c]) ∧ H l = some (.lst (as.map V.ref)) ∧ H c = some (.lst (st.cells.map V.int)) ∧ as.Nodup ∧ as.length = st.pile.length ∧
    ∀ (i : Nat) (f : Addr) (fr : Frm), as[i]? = some f → st.pile[i]? = some fr → FrameAt H c f fr
/-- a pile, to be read -/
def PileAt (H : Hp) (l : Addr) (pile : List Frm) : Prop :=
  ∃ as : List Addr, H l = some (.lst (as.map V.ref)) ∧ as.length = pile.length ∧
    ∀ (i : Nat) (f : Addr) (fr : Frm), as[i]? = some f → pile[i]? = some fr → ∃ h, H f = some (.lst [.int (fr.row : Nat), .int (fr.place : Nat), .int (fr.turn : Nat), .ref h])
/-! ### stands -/
def wordOf (P : Prog) (l : List (Nat × Nat)) : Nat := l.foldl (fun w s => w ||| wAt P s.1 s.2) 0
def floorOf (P : Prog) (l : List (Nat × Nat)) : Int := match l.getLast? with
  | some s => (rk P s.1 : Int)
  | none => -1
def OkS (P : Prog) (l : List (Nat × Nat)) : Prop := ∀ i s, l[i]? = some s → floorOf P (l.take i) < (rk P s.1 : Int) ∧ (wordOf P (l.take i)).testBit s.1 = false ∧ s.1 < P.rows.length ∧ s.2 ≤ ln P s.1
def StandsAt (H : Hp) (as : List Addr) (S : List (Nat × Nat)) : Prop :=
  as.length = S.length ∧ ∀ (i : Nat) (a : Addr) (x : Nat × Nat), as[i]? = some a → S[i]? = some x → H a = some (.tup [.int (x.1 : Nat), .int (x.2 : Nat), .int 0])
/-! ### cells touched -/
def cellsL (B : Boxes) (x : Nat) : List Nat := (List.range (sz B x)).map fun k => off B x + k
def nV (l : List Nat) : List V := l.map fun n => V.int (n : Nat)
def tR (B : Boxes) (d : Deed) (t : Nat) : List Nat := match d with
  | .copy _ y => [off B y + t]
  | .grow x _ => if t < sz B x then [off B x + t] else []
  | .tick x => cellsL B x
  | .same _ x y _ => cellsL B x ++ cellsL B y
  | .anew x y s => if t = 0 ∨ t = sz B x + 1 then cellsL B s else if t ≤ sz B x then [off B y + (t - 1)] else []
  | _ => []
def tW (B : Boxes) (d : Deed) (t : Nat) : List Nat := match d with
  | .put x _ => [off B x + t]
  | .copy x _ => [off B x + t]
  | .grow x _ => if t < sz B x then [] else [off B x + (t - sz B x)]
  | .tick x => cellsL B x
  | .anew x _ _ => if t ≤ sz B x + 1 then [] else [off B x + (t - sz B x - 2)]
  | _ => []
/-! ### the promises -/
section
def BOk (B : Boxes) : Prop := 1 ≤ B.length ∧ B.length ≤ 8 ∧ ∀ s ∈ B, 1 ≤ s.length ∧ s.length ≤ 2
def sp_psizeof (K : PySem.W.Frag) : Sp := fun vs H Q _ => vs.length = 2 ∧ ∃ (b : Addr) (B : Boxes) (x : Nat), vs = [.ref b, .int (x : Nat)] ∧ BoxesAt H b B ∧ x < B.length ∧ ∀ H', Ex H H' → Q (.int (sz B x : Nat)) H'
def sp_pcellsof (K : PySem.W.Frag) : Sp := fun vs H Q _ => vs.length = 2 ∧ ∃ (b : Addr) (B : Boxes) (x : Nat), vs = [.ref b, .int (x : Nat)] ∧ BoxesAt H b B ∧ BOk B ∧ x < B.length ∧
  ∀ p H', H p = none → Ex H H' → H' p = some (.lst (nV (cellsL B x))) → Q (.ref p) H'
def sp_pwordat (K : PySem.W.Frag) : Sp := fun vs H Q _ => vs.length = 3 ∧ ∃ (p : Addr) (P : Prog) (r pl : Nat), vs = [.ref p, .int (r : Nat), .int (pl : Nat)] ∧ ProgAt H p P ∧ r < P.rows.length ∧ pl ≤ ln P r ∧ ∀ H', Ex H H' → Q (.int (wAt P r pl : Nat)) H'
def sp_pturnsahead (K : PySem.W.Frag) : Sp := fun vs H Q _ => vs.length = 2 ∧ ∃ (p s : Addr) (P : Prog) (r pl : Nat), vs = [.ref p, .ref s] ∧ ProgAt H p P ∧ WF P ∧ H s = some (.tup [.int (r : Nat), .int (pl : Nat), .int 0]) ∧ r < P.rows.length ∧ pl ≤ ln P r ∧
  ∀ (n : Nat) H', n ≤ 108 → Ex H H' → Q (.int (n : Nat)) H'
def sp_pringingsto (K : PySem.W.Frag) : Sp := fun vs H Q _ => vs.length = 2 ∧ ∃ (p l : Addr) (P : Prog) (as : List Addr) (S : List (Nat × Nat)), vs = [.ref p, .ref l] ∧ ProgAt H p P ∧ WF P ∧ H l = some (.lst (as.map V.ref)) ∧ StandsAt H as S ∧ OkS P S ∧ S.length ≤ 10 ∧
  ∀ v H', Ex H H' → Q v H'
def sp_pstepson (K : PySem.W.Frag) : Sp := fun vs H Q _ => vs.length = 3 ∧ ∃ (p : Addr) (P : Prog) (r w : Nat), vs = [.ref p, .int (r : Nat), .int (w : Nat)] ∧ ProgAt H p P ∧ WF P ∧ r < P.rows.length ∧ w < 128 ∧
  ∀ q as S H', H q = none → Ex H H' → H' q = some (.lst (as.map V.ref)) → TriAt H' as S → (∀ b s p, (b, s, p) ∈ S ↔ Step P r w b s p) → Q (.ref q) H'
def sp_weighN (n : Nat) : Sp := fun vs H Q _ => vs.length = 4 ∧ ∃ (p d : Addr) (P : Prog) (r w : Nat) (M : Kn), vs = [.ref p, .int (r : Nat), .int (w : Nat), .ref d] ∧ ProgAt H p P ∧ WF P ∧ r < P.rows.length ∧ w < 128 ∧ 9 < rk P r + n ∧ KnownAt H d M ∧ Good P M ∧
  ∀ H' M' e, (∀ b o, b ≠ d → H b = some o → H' b = some o) → KnownAt H' d M' → Good P M' → (∀ r' w' x, M r' w' = some x → M' r' w' = some x) → (∀ r' w', M r' w' = none → M' r' w' ≠ none → rk P r ≤ rk P r') → M' r w = some e → Q (.int (e.d : Nat)) H'
def sp_pweigh (K : PySem.W.Frag) : Sp := sp_weighN 10
def sp_pdeepest (K : PySem.W.Frag) : Sp := fun vs H Q _ => vs.length = 1 ∧ ∃ (p : Addr) (P : Prog), vs = [.ref p] ∧ ProgAt H p P ∧ WF P ∧
  ∀ q x H' M (D : Nat), Ex H H' → H' q = some (.tup [.int (D : Nat), x]) → Closed P M → M 0 0 = some D → Q (.ref q) H'
def sp_ppaper (K : PySem.W.Frag) : Sp := fun vs H Q _ => vs.length = 1 ∧ ∃ (p : Addr) (P : Prog), vs = [.ref p] ∧ ProgAt H p P ∧ WF P ∧
  ∀ q as L H' M, Ex H H' → H' q = some (.lst (as.map V.ref)) → TriAt H' as L → Closed P M → (∃ D, M 0 0 = some D) → (∀ r w d, (r, w, d) ∈ L ↔ M r w = some d) → L.length ≤ 1000 → Q (.ref q) H'
def sp_draw (K : PySem.W.Frag) : Sp := fun vs H Q _ => vs.length = 3 ∧ ∃ (a : Addr) (ns : List Int) (k m : Int), vs = [.ref a, .int k, .int m] ∧ SqL K H a (ns.map V.int) ∧ 0 ≤ k ∧ k ≤ 20000 ∧ 0 < m ∧ ∀ d H', 0 ≤ d → d < m → Ex H H' → Q (.int d) H'
def sp_number (K : PySem.W.Frag) : Sp := fun vs H Q _ => vs.length = 2 ∧ ∃ (a : Addr) (ns : List Int) (k : Int), vs = [.ref a, .int k] ∧ SqL K H a (ns.map V.int) ∧ 0 ≤ k ∧ k ≤ 15000 ∧ ∀ i H', Ex H H' → Q (.int i) H'
def sp_boxes (K : PySem.W.Frag) : Sp := fun vs H Q _ => vs.length = 1 ∧ ∃ (a : Addr) (ns : List Int), vs = [.ref a] ∧ SqL K H a (ns.map V.int) ∧ ∀ b B H', Ex H H' → BoxesAt H' b B → BOk B → Q (.ref b) H'
def sp_deed (K : PySem.W.Frag) : Sp := fun vs H Q _ => vs.length = 3 ∧ ∃ (b a : Addr) (B : Boxes) (ns : List Int) (k : Int), vs = [.ref b, .ref a, .int k] ∧ BoxesAt H b B ∧ BOk B ∧ SqL K H a (ns.map V.int) ∧ 0 ≤ k ∧ k ≤ 10000 ∧
  ∀ q d H', Ex H H' → DeedAt H' q d → DOk B d → Q (.ref q) H'
def sp_rank (K : PySem.W.Frag) : Sp := fun vs H Q _ => vs.length = 2 ∧ ∃ (a : Addr) (ns : List Int) (r : Int), vs = [.ref a, .int r] ∧ SqL K H a (ns.map V.int) ∧ 1 ≤ r ∧ r ≤ 6 ∧ ∀ (x : Nat) H', 1 ≤ x → x ≤ 9 → Ex H H' → Q (.int (x : Nat)) H'
def sp_shut (K : PySem.W.Frag) : Sp := fun vs H Q _ => vs.length = 3 ∧ ∃ (a : Addr) (ns : List Int) (k : Int) (n : Nat), vs = [.ref a, .int k, .int (n : Nat)] ∧ SqL K H a (ns.map V.int) ∧ 0 ≤ k ∧ k ≤ 15000 ∧ n ≤ 6 ∧ ∀ (x : Nat) H', x < 128 → Ex H H' → Q (.int (x : Nat)) H'
def sp_program (K : PySem.W.Frag) : Sp := fun vs H Q _ => vs.length = 2 ∧ ∃ (a : Addr) (ns : List Int) (m : Int), vs = [.ref a, .int m] ∧ SqL K H a (ns.map V.int) ∧ 1 ≤ m ∧ m ≤ 12 ∧ ∀ q P H', Ex H H' → ProgAt H' q P → WF P → Q (.ref q) H'
def sp_turns (K : PySem.W.Frag) : Sp := fun vs H Q _ => vs.length = 2 ∧ ∃ (b q : Addr) (B : Boxes) (d : Deed), vs = [.ref b, .ref q] ∧ BoxesAt H b B ∧ BOk B ∧ DeedAt H q d ∧ DOk B d ∧ ∀ H', Ex H H' → Q (.int (turns B d : Nat)) H'
def sp_enters (K : PySem.W.Frag) : Sp := fun vs H Q _ => vs.length = 3 ∧ ∃ (p l : Addr) (P : Prog) (pile : List Frm) (fl : Nat), vs = [.ref p, .ref l, .int (fl : Nat)] ∧ ProgAt H p P ∧ WF P ∧ PileAt H l pile ∧ pile ≠ [] ∧ (∀ f ∈ pile, f.row < P.rows.length ∧ f.place ≤ ln P f.row) ∧
  ∀ (k : Nat) H', (k = 0 ∧ (∀ j, ¬ Enter P pile fl j) ∨ Enter P pile fl k) → Ex H H' → Q (.int (k : Nat)) H'
def sp_cells (K : PySem.W.Frag) : Sp := sp_pcellsof K
def sp_touched (K : PySem.W.Frag) : Sp := fun vs H Q _ => vs.length = 3 ∧ ∃ (b q : Addr) (B : Boxes) (d : Deed) (t : Nat), vs = [.ref b, .ref q, .int (t : Nat)] ∧ BoxesAt H b B ∧ BOk B ∧ DeedAt H q d ∧ DOk B d ∧ t < turns B d ∧
  ∀ u r w H', H r = none → H w = none → Ex H H' → H' u = some (.tup [.ref r, .ref w]) → H' r = some (.lst (nV (tR B d t))) → H' w = some (.lst (nV (tW B d t))) → Q (.ref u) H'
def sp_step (K : PySem.W.Frag) : Sp := fun vs H Q _ => vs.length = 4 ∧ ∃ (b q f c : Addr) (B : Boxes) (d : Deed) (fr : Frm) (cs : List Int), vs = [.ref b, .ref q, .ref f, .ref c] ∧ BoxesAt H b B ∧ BOk B ∧ DeedAt H q d ∧ DOk B d ∧ fr.turn < turns B d ∧ HandOk B d fr ∧
  FrameAt H c f fr ∧ H c = some (.lst (cs.map V.int)) ∧ cs.length = total B ∧
  ∀ v H', (∀ b o, b ≠ f → b ≠ c → H b = some o → H' b = some o) → FrameAt H' c f (stepF B d fr cs).1 → H' c = some (.lst ((stepF B d fr cs).2.map V.int)) → Q v H'
def sp_turn (K : PySem.W.Frag) : Sp := fun vs H Q _ => vs.length = 3 ∧ ∃ (p a : Addr) (P : Prog) (H0 : Hp) (st : Mst) (w : Nat), vs = [.ref p, .ref a, .int (w : Nat)] ∧ ProgAt H0 p P ∧ WF P ∧ NowAt H0 H a st ∧ Inv P st ∧ w < 128 ∧
  ∀ v H' st', Turn P st w st' → NowAt H0 H' a st' → Q v H'
def sp_start (K : PySem.W.Frag) : Sp := fun vs H Q _ => vs.length = 1 ∧ ∃ (p : Addr) (P : Prog), vs = [.ref p] ∧ ProgAt H p P ∧ WF P ∧ ∀ a H' cs, cs.length = total P.boxes → NowAt H H' a ⟨0, [⟨0, 0, 0, []⟩], cs⟩ → Q (.ref a) H'
def sp_rests (K : PySem.W.Frag) : Sp := fun vs H Q _ => vs.length = 2 ∧ ∃ (p a : Addr) (P : Prog) (H0 : Hp) (st : Mst), vs = [.ref p, .ref a] ∧ ProgAt H0 p P ∧ WF P ∧ NowAt H0 H a st ∧ Inv P st ∧ ∀ b H', (b = true ↔ Rests P st) → Ex H H' → Q (.bl b) H'
def sp_ringings (K : PySem.W.Frag) : Sp := fun vs H Q _ => vs.length = 2 ∧ ∃ (a : Addr) (ns : List Int) (n : Nat), vs = [.ref a, .int (n : Nat)] ∧ SqL K H a (ns.map V.int) ∧ ns.length ≤ 63 ∧ n ≤ 6 ∧
  ∀ q (ws : List Nat) H', Ex H H' → H' q = some (.lst (nV ws)) → (∀ w ∈ ws, w < 2 ^ (n + 1) ∧ w % 2 = 0) → ws.length ≤ 1000 → Q (.ref q) H'
/-- a dict that bears a paper -/
def PapAt (H : Hp) (a : Addr) (M : Pap) : Prop := ∃ kvs : List (List Key × V), H a = some (.dT kvs) ∧ ∀ r w, valV kvs (key r w) = (M r w).map fun d => V.int (d : Nat)
def sp_goes (K : PySem.W.Frag) : Sp := fun vs H Q _ => vs.length = 3 ∧ ∃ (p l a : Addr) (P : Prog) (f0 : Frm) (fs : List Frm) (M : Pap) (D : Nat), vs = [.ref p, .ref l, .ref a] ∧ ProgAt H p P ∧ WF P ∧ PileAt H l (f0 :: fs) ∧ (∀ f ∈ f0 :: fs, f.row < P.rows.length ∧ f.place ≤ ln P f.row) ∧ PapAt H a M ∧ M 0 0 = some D ∧ fs.length ≤ 1000 ∧
  Thru P M D (wAt P f0.row f0.place) fs ∧ ∀ H', Ex H H' → Q (.bl true) H'
def sp_law (K : PySem.W.Frag) : Sp := fun vs H Q _ => vs.length = 1 ∧ ∃ (a : Addr) (ns : List Int), vs = [.ref a] ∧ SqL K H a (ns.map V.int) ∧ ns.length ≤ 63 ∧ ∀ H', Q (.bl true) H'
end
end Bn
set_option Elab.async false
set_option linter.all false
set_option maxRecDepth 100000
set_option maxHeartbeats 4000000
namespace Bn
open PySem PySem.Spec PyProof.Rows L2 Evl
/-! size_of: slots 0 boxes 1 x -/
abbrev s_psizeof : Stmt := top 2
abbrev n_psizeof : List Str := ["boxes", "x"]
abbrev p_psizeof : List Str := ["boxes", "x"]
set_option maxRecDepth 100000 in
set_option linter.unusedVariables false in
def t_psizeof (K : PySem.W.Frag) : TS :=
  (tRet (tCB (rLenS K) (tCons (tOp (rIxT K) (tOp (rIxT K) (tVar 0) (tVar 1)) (tC (.int 1))) tNil)))
/-! cells_of: slots 0 boxes 1 x 2 first 3 k -/
abbrev s_pcellsof : Stmt := top 3
abbrev n_pcellsof : List Str := ["boxes", "x", "first", "k"]
abbrev p_pcellsof : List Str := ["boxes", "x"]
set_option maxRecDepth 100000 in
set_option linter.unusedVariables false in
def t_pcellsof (K : PySem.W.Frag) : TS :=
  (tSeq (tAsg (tCB (rSum K) (tCons (tLc (iRng1 (tCons (tVar 1) tNil)) (gName 3) tYes (tCall (sp_psizeof K) [] E0 (tCons (tVar 0) (tCons (tVar 3) tNil))) [3]) tNil)) (gName 2)) (tRet (tLc (iRng1 (tCons (tCall (sp_psizeof K) [] E0 (tCons (tVar 0) (tCons (tVar 1) tNil))) tNil)) (gName 3) tYes (tOp rPl (tVar 2) (tVar 3)) [3])))
/-! word_at: slots 0 program 1 row 2 place 3 places -/
abbrev s_pwordat : Stmt := top 17
abbrev n_pwordat : List Str := ["program", "row", "place", "places"]
abbrev p_pwordat : List Str := ["program", "row", "place"]
set_option maxRecDepth 100000 in
set_option linter.unusedVariables false in
def t_pwordat (K : PySem.W.Frag) : TS :=
  (tSeq (tAsg (tOp (rIxT K) (tOp (rIxT K) (tOp (rIxT K) (tVar 0) (tC (.int 1))) (tVar 1)) (tC (.int 2))) (gName 3)) (tSeq (tIfS (tTest (tOp rEq (tVar 2) (tCB (rLenS K) (tCons (tVar 3) tNil)))) (tRet (tC (.int 0))) tNext) (tRet (tOp (rIxT K) (tOp (rIxT K) (tVar 3) (tVar 2)) (tC (.int 1))))))
/-! ringings_to: slots 0 program 1 stands 2 rows 3 words 4 shut 5 floor 6 stand 7 row -/
abbrev s_pringingsto : Stmt := top 23
abbrev n_pringingsto : List Str := ["program", "stands", "rows", "words", "shut", "floor", "stand", "row"]
abbrev p_pringingsto : List Str := ["program", "stands"]
set_option maxRecDepth 100000 in
set_option linter.unusedVariables false in
def t_pringingsto (K : PySem.W.Frag) : TS :=
  (tSeq (tAsg (tOp (rIxT K) (tVar 0) (tC (.int 1))) (gName 2)) (tSeq (tAsg (tLst tNil) (gName 3)) (tSeq (tAsg (tC (.int 0)) (gName 4)) (tSeq (tAsg (tUn rNg (tC (.int 1))) (gName 5)) (tSeq (tFor (iList K (tVar 1)) (gName 6) (tSeq (tAsg (tOp (rIxT K) (tVar 6) (tC (.int 0))) (gName 7)) (tSeq (tIfS (tOr (tTest (tOp rLe (tOp (rIxT K) (tOp (rIxT K) (tVar 2) (tVar 7)) (tC (.int 1))) (tVar 5))) (tTest (tOp rEq (tOp rAn (tOp rSr (tVar 4) (tVar 7)) (tC (.int 1))) (tC (.int 1))))) tNever tNext) (tSeq (tIfS (tTest (tOp rGr (tVar 7) (tC (.int 0)))) (tDrop (tBM K "list" rAppend (tVar 3) (tCons (tOp rSl (tC (.int 1)) (tVar 7)) tNil))) tNext) (tSeq (tDrop (tBM K "list" rExtend (tVar 3) (tCons (tOp rRep (tLst (tCons (tC (.int 0)) tNil)) (tCall (sp_pturnsahead K) [] E0 (tCons (tVar 0) (tCons (tVar 6) tNil)))) tNil))) (tSeq (tAsg (tOp rOr (tVar 4) (tCall (sp_pwordat K) [] E0 (tCons (tVar 0) (tCons (tVar 7) (tCons (tOp (rIxT K) (tVar 6) (tC (.int 1))) tNil))))) (gName 4)) (tAsg (tOp (rIxT K) (tOp (rIxT K) (tVar 2) (tVar 7)) (tC (.int 1))) (gName 5)))))))) (tRet (tVar 3)))))))
/-! steps_on: slots 0 program 1 row 2 word 3 rows 4 many 5 found 6 place 7 shut 8 bell -/
abbrev s_pstepson : Stmt := top 25
abbrev n_pstepson : List Str := ["program", "row", "word", "rows", "many", "found", "place", "shut", "bell"]
abbrev p_pstepson : List Str := ["program", "row", "word"]
set_option maxRecDepth 100000 in
set_option linter.unusedVariables false in
def t_pstepson (K : PySem.W.Frag) : TS :=
  (tSeq (tAsg (tOp (rIxT K) (tVar 0) (tC (.int 1))) (gName 3)) (tSeq (tAsg (tCB (rLenS K) (tCons (tOp (rIxT K) (tOp (rIxT K) (tVar 3) (tVar 1)) (tC (.int 2))) tNil)) (gName 4)) (tSeq (tIfS (tTest (tOp rEq (tVar 1) (tC (.int 0)))) (tAsg (tOp rPl (tVar 4) (tC (.int 1))) (gName 4)) tNext) (tSeq (tAsg (tLst tNil) (gName 5)) (tSeq (tFor (iRng1 (tCons (tVar 4) tNil)) (gName 6) (tSeq (tAsg (tOp rOr (tVar 2) (tCall (sp_pwordat K) [] E0 (tCons (tVar 0) (tCons (tVar 1) (tCons (tVar 6) tNil))))) (gName 7)) (tFor (iRng2 (tCons (tC (.int 1)) (tCons (tCB (rLenS K) (tCons (tVar 3) tNil)) tNil))) (gName 8) (tIfS (tAnd (tTest (tOp rGr (tOp (rIxT K) (tOp (rIxT K) (tVar 3) (tVar 8)) (tC (.int 1))) (tOp (rIxT K) (tOp (rIxT K) (tVar 3) (tVar 1)) (tC (.int 1))))) (tTest (tOp rEq (tOp rAn (tOp rSr (tVar 7) (tVar 8)) (tC (.int 1))) (tC (.int 0))))) (tDrop (tBM K "list" rAppend (tVar 5) (tCons (tTup (tCons (tVar 8) (tCons (tVar 7) (tCons (tVar 6) tNil)))) tNil))) tNext)))) (tRet (tVar 5)))))))
/-! weigh: slots 0 program 1 row 2 word 3 known 4 deep 5 bell 6 shut 7 place 8 depth -/
abbrev s_pweigh : Stmt := top 26
abbrev n_pweigh : List Str := ["program", "row", "word", "known", "deep", "bell", "shut", "place", "depth"]
abbrev p_pweigh : List Str := ["program", "row", "word", "known"]
set_option maxRecDepth 100000 in
set_option linter.unusedVariables false in
def t_pweigh (K : PySem.W.Frag) (sp : Sp) : TS :=
  (tSeq (tIfS (tB (tDNotIn (tTup (tCons (tVar 1) (tCons (tVar 2) tNil))) (tVar 3))) (tSeq (tAsg (tTup (tCons (tC (.int 0)) (tCons (tC (.int 0)) (tCons (tC (.int 0)) (tCons (tC (.int 0)) tNil))))) (gName 4)) (tSeq (tFor (iList K (tCall (sp_pstepson K) [] E0 (tCons (tVar 0) (tCons (tVar 1) (tCons (tVar 2) tNil))))) (gTup K 3 (gCons (gName 5) (gCons (gName 6) (gCons (gName 7) gNil)))) (tSeq (tAsg (tOp rPl (tC (.int 1)) (tCall sp [] E0 (tCons (tVar 0) (tCons (tVar 5) (tCons (tVar 6) (tCons (tVar 3) tNil)))))) (gName 8)) (tIfS (tTest (tOp rGr (tVar 8) (tOp (rIxT K) (tVar 4) (tC (.int 0))))) (tAsg (tTup (tCons (tVar 8) (tCons (tVar 5) (tCons (tVar 6) (tCons (tVar 7) tNil))))) (gName 4)) tNext))) (sDPut (tVar 3) (tTup (tCons (tVar 1) (tCons (tVar 2) tNil))) (tVar 4)))) tNext) (tRet (tOp (rIxT K) (tDGet (tVar 3) (tTup (tCons (tVar 1) (tCons (tVar 2) tNil)))) (tC (.int 0)))))
/-! deepest: slots 0 program 1 known 2 depth 3 stands 4 row 5 word 6 step -/
abbrev s_pdeepest : Stmt := top 27
abbrev n_pdeepest : List Str := ["program", "known", "depth", "stands", "row", "word", "step"]
abbrev p_pdeepest : List Str := ["program"]
set_option maxRecDepth 100000 in
set_option linter.unusedVariables false in
def t_pdeepest (K : PySem.W.Frag) : TS :=
  (tSeq (tAsg tDNewT (gName 1)) (tSeq (tAsg (tCall (sp_pweigh K) [] E0 (tCons (tVar 0) (tCons (tC (.int 0)) (tCons (tC (.int 0)) (tCons (tVar 1) tNil))))) (gName 2)) (tSeq (tAsg (tLst tNil) (gName 3)) (tSeq (tAsg (tC (.int 0)) (gName 4)) (tSeq (tAsg (tC (.int 0)) (gName 5)) (tSeq (tWhile (tTest (tOp rGr (tOp (rIxT K) (tDGet (tVar 1) (tTup (tCons (tVar 4) (tCons (tVar 5) tNil)))) (tC (.int 0))) (tC (.int 0)))) (tSeq (tAsg (tDGet (tVar 1) (tTup (tCons (tVar 4) (tCons (tVar 5) tNil)))) (gName 6)) (tSeq (tDrop (tBM K "list" rAppend (tVar 3) (tCons (tTup (tCons (tVar 4) (tCons (tOp (rIxT K) (tVar 6) (tC (.int 3))) (tCons (tC (.int 0)) tNil)))) tNil))) (tSeq (tAsg (tOp (rIxT K) (tVar 6) (tC (.int 1))) (gName 4)) (tAsg (tOp (rIxT K) (tVar 6) (tC (.int 2))) (gName 5)))))) (tSeq (tDrop (tBM K "list" rAppend (tVar 3) (tCons (tTup (tCons (tVar 4) (tCons (tC (.int 0)) (tCons (tC (.int 0)) tNil)))) tNil))) (tRet (tTup (tCons (tVar 2) (tCons (tCall (sp_pringingsto K) [] E0 (tCons (tVar 0) (tCons (tVar 3) tNil))) tNil)))))))))))
/-! paper: slots 0 program 1 known 2 spot 3 step -/
abbrev s_ppaper : Stmt := top 28
abbrev n_ppaper : List Str := ["program", "known", "spot", "step"]
abbrev p_ppaper : List Str := ["program"]
set_option maxRecDepth 100000 in
set_option linter.unusedVariables false in
def t_ppaper (K : PySem.W.Frag) : TS :=
  (tSeq (tAsg tDNewT (gName 1)) (tSeq (tDrop (tCall (sp_pweigh K) [] E0 (tCons (tVar 0) (tCons (tC (.int 0)) (tCons (tC (.int 0)) (tCons (tVar 1) tNil)))))) (tRet (tLockE (tLc (iItemsT (tVar 1)) (gTup K 2 (gCons (gName 2) (gCons (gName 3) gNil))) tYes (tTup (tCons (tOp (rIxT K) (tVar 2) (tC (.int 0))) (tCons (tOp (rIxT K) (tVar 2) (tC (.int 1))) (tCons (tOp (rIxT K) (tVar 3) (tC (.int 0))) tNil)))) [2, 3])))))
/-! _law_draw: slots 0 _law_script 1 _law_k 2 _law_many 3 _law_cell -/
abbrev s_draw : Stmt := top 30
abbrev n_draw : List Str := ["_law_script", "_law_k", "_law_many", "_law_cell"]
abbrev p_draw : List Str := ["_law_script", "_law_k", "_law_many"]
set_option maxRecDepth 100000 in
set_option linter.unusedVariables false in
def t_draw (K : PySem.W.Frag) : TS :=
  (tSeq (tAsg (tC (.int 0)) (gName 3)) (tSeq (tIfS (tTest (tOp rGr (tCB (rLenS K) (tCons (tVar 0) tNil)) (tC (.int 0)))) (tAsg (tOp rMo (tOp (rIxL K) (tVar 0) (tOp rMo (tVar 1) (tCB (rLenS K) (tCons (tVar 0) tNil)))) (tC (.int 1000003))) (gName 3)) tNext) (tRet (tOp rMo (tOp rDi (tOp rMo (tOp rTi (tOp rMo (tOp rTi (tOp rPl (tVar 3) (tC (.int 1))) (tOp rPl (tOp rPl (tOp rTi (tVar 1) (tVar 1)) (tVar 1)) (tC (.int 41)))) (tC (.int 999983))) (tC (.int 48271))) (tC (.int 2147483647))) (tC (.int 11))) (tVar 2)))))
/-! _law_number: slots 0 _law_script 1 _law_k 2 _law_far 3 _law_menu -/
abbrev s_number : Stmt := top 31
abbrev n_number : List Str := ["_law_script", "_law_k", "_law_far", "_law_menu"]
abbrev p_number : List Str := ["_law_script", "_law_k"]
set_option maxRecDepth 100000 in
set_option linter.unusedVariables false in
def t_number (K : PySem.W.Frag) : TS :=
  (tSeq (tAsg (tCall (sp_draw K) [] E0 (tCons (tVar 0) (tCons (tVar 1) (tCons (tC (.int 2000)) tNil)))) (gName 2)) (tSeq (tAsg (tLst (tCons (tOp rMi (tOp rMo (tVar 2) (tC (.int 7))) (tC (.int 3))) (tCons (tOp rMi (tOp rPo (tC (.int 10)) (tC (.int 9))) (tOp rMo (tVar 2) (tC (.int 5)))) (tCons (tOp rMi (tOp rMo (tVar 2) (tC (.int 5))) (tOp rPo (tC (.int 10)) (tC (.int 9)))) (tCons (tOp rTi (tVar 2) (tC (.int 499999))) tNil))))) (gName 3)) (tRet (tOp (rIxL K) (tVar 3) (tCall (sp_draw K) [] E0 (tCons (tVar 0) (tCons (tOp rPl (tVar 1) (tC (.int 4000))) (tCons (tC (.int 4)) tNil))))))))
/-! _law_boxes: slots 0 _law_script 1 _law_boxes_here 2 _law_b 3 _law_starts 4 _law_size -/
abbrev s_boxes : Stmt := top 32
abbrev n_boxes : List Str := ["_law_script", "_law_boxes_here", "_law_b", "_law_starts", "_law_size"]
abbrev p_boxes : List Str := ["_law_script"]
set_option maxRecDepth 100000 in
set_option linter.unusedVariables false in
def t_boxes (K : PySem.W.Frag) : TS :=
  (tSeq (tAsg (tLst tNil) (gName 1)) (tSeq (tFor (iRng1 (tCons (tOp (rIxL K) (tLst (tCons (tC (.int 1)) (tCons (tC (.int 2)) (tCons (tC (.int 3)) (tCons (tC (.int 3)) (tCons (tC (.int 4)) (tCons (tC (.int 4)) (tCons (tC (.int 5)) (tCons (tC (.int 8)) tNil))))))))) (tCall (sp_draw K) [] E0 (tCons (tVar 0) (tCons (tC (.int 3)) (tCons (tC (.int 8)) tNil))))) tNil)) (gName 2) (tSeq (tAsg (tLst (tCons (tCall (sp_number K) [] E0 (tCons (tVar 0) (tCons (tOp rPl (tC (.int 10)) (tOp rTi (tC (.int 4)) (tVar 2))) tNil))) (tCons (tCall (sp_number K) [] E0 (tCons (tVar 0) (tCons (tOp rPl (tC (.int 11)) (tOp rTi (tC (.int 4)) (tVar 2))) tNil))) tNil))) (gName 3)) (tSeq (tAsg (tOp rPl (tC (.int 1)) (tCall (sp_draw K) [] E0 (tCons (tVar 0) (tCons (tOp rPl (tC (.int 12)) (tOp rTi (tC (.int 4)) (tVar 2))) (tCons (tC (.int 2)) tNil))))) (gName 4)) (tDrop (tBM K "list" rAppend (tVar 1) (tCons (tTup (tCons (tOp rMulS (tOp rIxS (tC (.str "abcdefgh")) (tVar 2)) (tVar 4)) (tCons (tCB (rTupS K) (tCons (tSl (rSlL K) (tVar 3) tNoPart (tPart (tVar 4))) tNil)) tNil))) tNil)))))) (tRet (tCB (rTupS K) (tCons (tVar 1) tNil)))))
/-! _law_deed: slots 0 _law_boxes_here 1 _law_script 2 _law_k 3 _law_kinds 4 _law_kind 5 _law_x 6 _law_size 7 _law_same 8 _law_y 9 _law_ones 10 _law_n 11 _law_b -/
abbrev s_deed : Stmt := top 33
abbrev n_deed : List Str := ["_law_boxes_here", "_law_script", "_law_k", "_law_kinds", "_law_kind", "_law_x", "_law_size", "_law_same", "_law_y", "_law_ones", "_law_n", "_law_b"]
abbrev p_deed : List Str := ["_law_boxes_here", "_law_script", "_law_k"]
set_option maxRecDepth 100000 in
set_option linter.unusedVariables false in
def t_deed (K : PySem.W.Frag) : TS :=
  (tSeq (tAsg (tLst (tCons (tC (.str "put")) (tCons (tC (.str "copy")) (tCons (tC (.str "grow")) (tCons (tC (.str "tick")) (tCons (tC (.str "still")) (tCons (tC (.str "is")) (tCons (tC (.str "most")) (tCons (tC (.str "none")) (tCons (tC (.str "anew")) (tCons (tC (.str "grow")) (tCons (tC (.str "put")) (tCons (tC (.str "anew")) tNil))))))))))))) (gName 3)) (tSeq (tAsg (tOp (rIxL K) (tVar 3) (tCall (sp_draw K) [] E0 (tCons (tVar 1) (tCons (tVar 2) (tCons (tC (.int 12)) tNil))))) (gName 4)) (tSeq (tAsg (tCall (sp_draw K) [] E0 (tCons (tVar 1) (tCons (tOp rPl (tVar 2) (tC (.int 1))) (tCons (tCB (rLenS K) (tCons (tVar 0) tNil)) tNil)))) (gName 5)) (tSeq (tAsg (tCB (rLenS K) (tCons (tOp (rIxT K) (tOp (rIxT K) (tVar 0) (tVar 5)) (tC (.int 1))) tNil)) (gName 6)) (tSeq (tAsg (tLc (iRng1 (tCons (tCB (rLenS K) (tCons (tVar 0) tNil)) tNil)) (gName 11) (tTest (tOp rEq (tCB (rLenS K) (tCons (tOp (rIxT K) (tOp (rIxT K) (tVar 0) (tVar 11)) (tC (.int 1))) tNil)) (tVar 6))) (tVar 11) [11]) (gName 7)) (tSeq (tAsg (tOp (rIxL K) (tVar 7) (tCall (sp_draw K) [] E0 (tCons (tVar 1) (tCons (tOp rPl (tVar 2) (tC (.int 2))) (tCons (tCB (rLenS K) (tCons (tVar 7) tNil)) tNil))))) (gName 8)) (tSeq (tAsg (tLc (iRng1 (tCons (tCB (rLenS K) (tCons (tVar 0) tNil)) tNil)) (gName 11) (tAnd (tTest (tOp rEq (tCB (rLenS K) (tCons (tOp (rIxT K) (tOp (rIxT K) (tVar 0) (tVar 11)) (tC (.int 1))) tNil)) (tC (.int 1)))) (tAnd (tTest (tOp rNe (tVar 11) (tVar 5))) (tTest (tOp rNe (tVar 11) (tVar 8))))) (tVar 11) [11]) (gName 9)) (tSeq (tAsg (tCall (sp_number K) [] E0 (tCons (tVar 1) (tCons (tOp rPl (tVar 2) (tC (.int 3))) tNil))) (gName 10)) (tSeq (tIfS (tTest (tOp rEq (tVar 4) (tC (.str "put")))) (tRet (tTup (tCons (tC (.str "put")) (tCons (tVar 5) (tCons (tCB (rTupS K) (tCons (tSl (rSlL K) (tLst (tCons (tVar 10) (tCons (tUn rNg (tVar 10)) tNil))) tNoPart (tPart (tVar 6))) tNil)) tNil))))) tNext) (tSeq (tIfS (tAnd (tTest (tOp rEq (tVar 4) (tC (.str "copy")))) (tTest (tOp rNe (tVar 5) (tVar 8)))) (tRet (tTup (tCons (tC (.str "copy")) (tCons (tVar 5) (tCons (tVar 8) tNil))))) tNext) (tSeq (tIfS (tTest (tOp rEq (tVar 4) (tC (.str "grow")))) (tRet (tTup (tCons (tC (.str "grow")) (tCons (tVar 5) (tCons (tVar 10) tNil))))) tNext) (tSeq (tIfS (tAnd (tTest (tOp rEq (tVar 4) (tC (.str "tick")))) (tTest (tOp rEq (tVar 6) (tC (.int 1))))) (tRet (tTup (tCons (tC (.str "tick")) (tCons (tVar 5) tNil)))) tNext) (tSeq (tIfS (tOr (tTest (tOp rEq (tVar 4) (tC (.str "is")))) (tTest (tOp rEq (tVar 4) (tC (.str "most"))))) (tRet (tTup (tCons (tVar 4) (tCons (tVar 5) (tCons (tVar 8) (tCons (tVar 10) tNil)))))) tNext) (tSeq (tIfS (tTest (tOp rEq (tVar 4) (tC (.str "none")))) (tRet (tTup (tCons (tC (.str "none")) (tCons (tVar 5) tNil)))) tNext) (tSeq (tIfS (tAnd (tTest (tOp rEq (tVar 4) (tC (.str "anew")))) (tAnd (tTest (tOp rNe (tVar 5) (tVar 8))) (tTest (tOp rGr (tCB (rLenS K) (tCons (tVar 9) tNil)) (tC (.int 0)))))) (tRet (tTup (tCons (tC (.str "anew")) (tCons (tVar 5) (tCons (tVar 8) (tCons (tOp (rIxL K) (tVar 9) (tCall (sp_draw K) [] E0 (tCons (tVar 1) (tCons (tOp rPl (tVar 2) (tC (.int 4))) (tCons (tCB (rLenS K) (tCons (tVar 9) tNil)) tNil))))) tNil)))))) tNext) (tRet (tTup (tCons (tC (.str "still")) (tCons (tOp rPl (tC (.int 1)) (tCall (sp_draw K) [] E0 (tCons (tVar 1) (tCons (tOp rPl (tVar 2) (tC (.int 5))) (tCons (tC (.int 9)) tNil))))) tNil)))))))))))))))))))
/-! _law_rank: slots 0 _law_script 1 _law_r 2 _law_wild -/
abbrev s_rank : Stmt := top 34
abbrev n_rank : List Str := ["_law_script", "_law_r", "_law_wild"]
abbrev p_rank : List Str := ["_law_script", "_law_r"]
set_option maxRecDepth 100000 in
set_option linter.unusedVariables false in
def t_rank (K : PySem.W.Frag) : TS :=
  (tSeq (tAsg (tCall (sp_draw K) [] E0 (tCons (tVar 0) (tCons (tOp rPl (tC (.int 60)) (tVar 1)) (tCons (tC (.int 9)) tNil)))) (gName 2)) (tRet (tOp (rIxL K) (tLst (tCons (tOp rPl (tC (.int 1)) (tVar 2)) (tCons (tOp rPl (tVar 1) (tOp rDi (tVar 2) (tC (.int 3)))) (tCons (tOp rMi (tC (.int 9)) (tVar 1)) (tCons (tOp rPl (tC (.int 1)) (tOp rDi (tVar 2) (tC (.int 3)))) tNil))))) (tCall (sp_draw K) [] E0 (tCons (tVar 0) (tCons (tC (.int 4)) (tCons (tC (.int 4)) tNil)))))))
/-! _law_shut: slots 0 _law_script 1 _law_k 2 _law_bells 3 _law_word 4 _law_half -/
abbrev s_shut : Stmt := top 35
abbrev n_shut : List Str := ["_law_script", "_law_k", "_law_bells", "_law_word", "_law_half"]
abbrev p_shut : List Str := ["_law_script", "_law_k", "_law_bells"]
set_option maxRecDepth 100000 in
set_option linter.unusedVariables false in
def t_shut (K : PySem.W.Frag) : TS :=
  (tSeq (tAsg (tCall (sp_draw K) [] E0 (tCons (tVar 0) (tCons (tVar 1) (tCons (tOp rSl (tC (.int 1)) (tVar 2)) tNil)))) (gName 3)) (tSeq (tAsg (tCall (sp_draw K) [] E0 (tCons (tVar 0) (tCons (tOp rPl (tVar 1) (tC (.int 1))) (tCons (tOp rSl (tC (.int 1)) (tVar 2)) tNil)))) (gName 4)) (tRet (tOp rSl (tOp (rIxL K) (tLst (tCons (tC (.int 0)) (tCons (tOp rAn (tVar 3) (tVar 4)) (tCons (tVar 3) tNil)))) (tCall (sp_draw K) [] E0 (tCons (tVar 0) (tCons (tC (.int 5)) (tCons (tC (.int 3)) tNil))))) (tC (.int 1))))))
/-! _law_program: slots 0 _law_script 1 _law_longest 2 _law_boxes_here 3 _law_bells 4 _law_rows 5 _law_r 6 _law_places 7 _law_p 8 _law_k -/
abbrev s_program : Stmt := top 36
abbrev n_program : List Str := ["_law_script", "_law_longest", "_law_boxes_here", "_law_bells", "_law_rows", "_law_r", "_law_places", "_law_p", "_law_k"]
abbrev p_program : List Str := ["_law_script", "_law_longest"]
set_option maxRecDepth 100000 in
set_option linter.unusedVariables false in
def t_program (K : PySem.W.Frag) : TS :=
  (tSeq (tAsg (tCall (sp_boxes K) [] E0 (tCons (tVar 0) tNil)) (gName 2)) (tSeq (tAsg (tCall (sp_draw K) [] E0 (tCons (tVar 0) (tCons (tC (.int 6)) (tCons (tC (.int 7)) tNil)))) (gName 3)) (tSeq (tAsg (tLst tNil) (gName 4)) (tSeq (tFor (iRng1 (tCons (tOp rPl (tVar 3) (tC (.int 1))) tNil)) (gName 5) (tSeq (tAsg (tLst tNil) (gName 6)) (tSeq (tFor (iRng1 (tCons (tOp rPl (tC (.int 1)) (tCall (sp_draw K) [] E0 (tCons (tVar 0) (tCons (tOp rPl (tC (.int 70)) (tVar 5)) (tCons (tVar 1) tNil))))) tNil)) (gName 7) (tSeq (tAsg (tOp rPl (tOp rPl (tC (.int 100)) (tOp rTi (tC (.int 200)) (tVar 5))) (tOp rTi (tC (.int 12)) (tVar 7))) (gName 8)) (tDrop (tBM K "list" rAppend (tVar 6) (tCons (tTup (tCons (tCall (sp_deed K) [] E0 (tCons (tVar 2) (tCons (tVar 0) (tCons (tVar 8) tNil)))) (tCons (tCall (sp_shut K) [] E0 (tCons (tVar 0) (tCons (tOp rPl (tVar 8) (tC (.int 7))) (tCons (tVar 3) tNil)))) tNil))) tNil))))) (tIfS (tTest (tOp rEq (tVar 5) (tC (.int 0)))) (tDrop (tBM K "list" rAppend (tVar 4) (tCons (tTup (tCons (tC (.str "main")) (tCons (tC (.int 0)) (tCons (tCB (rTupS K) (tCons (tVar 6) tNil)) tNil)))) tNil))) (tDrop (tBM K "list" rAppend (tVar 4) (tCons (tTup (tCons (tOp rMulS (tOp rIxS (tC (.str "klmnop")) (tOp rMi (tVar 5) (tC (.int 1)))) (tOp rPl (tC (.int 1)) (tOp rMo (tVar 5) (tC (.int 2))))) (tCons (tCall (sp_rank K) [] E0 (tCons (tVar 0) (tCons (tVar 5) tNil))) (tCons (tCB (rTupS K) (tCons (tVar 6) tNil)) tNil)))) tNil))))))) (tRet (tTup (tCons (tVar 2) (tCons (tCB (rTupS K) (tCons (tVar 4) tNil)) tNil))))))))
/-! _law_turns: slots 0 _law_boxes_here 1 _law_deed_here 2 _law_size -/
abbrev s_turns : Stmt := top 37
abbrev n_turns : List Str := ["_law_boxes_here", "_law_deed_here", "_law_size"]
abbrev p_turns : List Str := ["_law_boxes_here", "_law_deed_here"]
set_option maxRecDepth 100000 in
set_option linter.unusedVariables false in
def t_turns (K : PySem.W.Frag) : TS :=
  (tSeq (tIfS (tTest (tOp rEq (tOp (rIxT K) (tVar 1) (tC (.int 0))) (tC (.str "still")))) (tRet (tOp (rIxT K) (tVar 1) (tC (.int 1)))) tNext) (tSeq (tAsg (tCB (rLenS K) (tCons (tOp (rIxT K) (tOp (rIxT K) (tVar 0) (tOp (rIxT K) (tVar 1) (tC (.int 1)))) (tC (.int 1))) tNil)) (gName 2)) (tSeq (tIfS (tOr (tTest (tOp rEq (tOp (rIxT K) (tVar 1) (tC (.int 0))) (tC (.str "put")))) (tTest (tOp rEq (tOp (rIxT K) (tVar 1) (tC (.int 0))) (tC (.str "copy"))))) (tRet (tVar 2)) tNext) (tSeq (tIfS (tTest (tOp rEq (tOp (rIxT K) (tVar 1) (tC (.int 0))) (tC (.str "grow")))) (tRet (tOp rTi (tC (.int 2)) (tVar 2))) tNext) (tSeq (tIfS (tTest (tOp rEq (tOp (rIxT K) (tVar 1) (tC (.int 0))) (tC (.str "anew")))) (tRet (tOp rPl (tOp rTi (tC (.int 2)) (tVar 2)) (tC (.int 2)))) tNext) (tRet (tC (.int 1))))))))
/-! _law_enters: slots 0 _law_program_here 1 _law_pile 2 _law_flags 3 _law_rows 4 _law_shut_here 5 _law_frame 6 _law_first 7 _law_k -/
abbrev s_enters : Stmt := top 38
abbrev n_enters : List Str := ["_law_program_here", "_law_pile", "_law_flags", "_law_rows", "_law_shut_here", "_law_frame", "_law_first", "_law_k"]
abbrev p_enters : List Str := ["_law_program_here", "_law_pile", "_law_flags"]
def b_enters_0 (K : PySem.W.Frag) : TS := (tAsg (tOp (rIxT K) (tVar 0) (tC (.int 1))) (gName 3))
def b_enters_1 (K : PySem.W.Frag) : TS := (tAsg (tC (.int 0)) (gName 4))
def b_enters_2 (K : PySem.W.Frag) : TS := (tFor (iList K (tVar 1)) (gName 5) (tIfS (tTest (tOp rLt (tOp (rIxL K) (tVar 5) (tC (.int 1))) (tCB (rLenS K) (tCons (tOp (rIxT K) (tOp (rIxT K) (tVar 3) (tOp (rIxL K) (tVar 5) (tC (.int 0)))) (tC (.int 2))) tNil)))) (tAsg (tOp rOr (tVar 4) (tOp (rIxT K) (tOp (rIxT K) (tOp (rIxT K) (tOp (rIxT K) (tVar 3) (tOp (rIxL K) (tVar 5) (tC (.int 0)))) (tC (.int 2))) (tOp (rIxL K) (tVar 5) (tC (.int 1)))) (tC (.int 1)))) (gName 4)) tNext))
def b_enters_3 (K : PySem.W.Frag) : TS := (tAsg (tC (.int 0)) (gName 6))
def b_enters_4 (K : PySem.W.Frag) : TS := (tFor (iRng2 (tCons (tC (.int 1)) (tCons (tCB (rLenS K) (tCons (tVar 3) tNil)) tNil))) (gName 7) (tIfS (tAnd (tTest (tOp rEq (tOp rAn (tOp rSr (tVar 2) (tVar 7)) (tC (.int 1))) (tC (.int 1)))) (tAnd (tTest (tOp rEq (tOp rAn (tOp rSr (tVar 4) (tVar 7)) (tC (.int 1))) (tC (.int 0)))) (tTest (tOp rGr (tOp (rIxT K) (tOp (rIxT K) (tVar 3) (tVar 7)) (tC (.int 1))) (tOp (rIxT K) (tOp (rIxT K) (tVar 3) (tOp (rIxL K) (tOp (rIxL K) (tVar 1) (tUn rNg (tC (.int 1)))) (tC (.int 0)))) (tC (.int 1))))))) (tIfS (tOr (tTest (tOp rEq (tVar 6) (tC (.int 0)))) (tTest (tOp rGr (tOp (rIxT K) (tOp (rIxT K) (tVar 3) (tVar 7)) (tC (.int 1))) (tOp (rIxT K) (tOp (rIxT K) (tVar 3) (tVar 6)) (tC (.int 1)))))) (tAsg (tVar 7) (gName 6)) tNext) tNext))
def b_enters_5 (K : PySem.W.Frag) : TS := (tRet (tVar 6))
def r_enters_5 (K : PySem.W.Frag) : TS := b_enters_5 K
def r_enters_4 (K : PySem.W.Frag) : TS := tSeq (b_enters_4 K) (r_enters_5 K)
def r_enters_3 (K : PySem.W.Frag) : TS := tSeq (b_enters_3 K) (r_enters_4 K)
def r_enters_2 (K : PySem.W.Frag) : TS := tSeq (b_enters_2 K) (r_enters_3 K)
def r_enters_1 (K : PySem.W.Frag) : TS := tSeq (b_enters_1 K) (r_enters_2 K)
def r_enters_0 (K : PySem.W.Frag) : TS := tSeq (b_enters_0 K) (r_enters_1 K)
set_option maxRecDepth 100000 in
set_option linter.unusedVariables false in
def t_enters (K : PySem.W.Frag) : TS :=
  r_enters_0 K
/-! _law_cells: slots 0 _law_boxes_here 1 _law_x 2 _law_first 3 _law_k 4 _law_box -/
abbrev s_cells : Stmt := top 39
abbrev n_cells : List Str := ["_law_boxes_here", "_law_x", "_law_first", "_law_k", "_law_box"]
abbrev p_cells : List Str := ["_law_boxes_here", "_law_x"]
set_option maxRecDepth 100000 in
set_option linter.unusedVariables false in
def t_cells (K : PySem.W.Frag) : TS :=
  (tSeq (tAsg (tCB (rSum K) (tCons (tLc (iTup K (tSl (rSlA K) (tVar 0) tNoPart (tPart (tVar 1)))) (gName 4) tYes (tCB (rLenS K) (tCons (tOp (rIxT K) (tVar 4) (tC (.int 1))) tNil)) [4]) tNil)) (gName 2)) (tRet (tLc (iRng1 (tCons (tCB (rLenS K) (tCons (tOp (rIxT K) (tOp (rIxT K) (tVar 0) (tVar 1)) (tC (.int 1))) tNil)) tNil)) (gName 3) tYes (tOp rPl (tVar 2) (tVar 3)) [3])))
/-! _law_touched: slots 0 _law_boxes_here 1 _law_deed_here 2 _law_turn_here 3 _law_x 4 _law_y -/
abbrev s_touched : Stmt := top 40
abbrev n_touched : List Str := ["_law_boxes_here", "_law_deed_here", "_law_turn_here", "_law_x", "_law_y"]
abbrev p_touched : List Str := ["_law_boxes_here", "_law_deed_here", "_law_turn_here"]
set_option maxRecDepth 100000 in
set_option linter.unusedVariables false in
def t_touched (K : PySem.W.Frag) : TS :=
  (tSeq (tIfS (tOr (tTest (tOp rEq (tOp (rIxT K) (tVar 1) (tC (.int 0))) (tC (.str "still")))) (tTest (tOp rEq (tOp (rIxT K) (tVar 1) (tC (.int 0))) (tC (.str "none"))))) (tRet (tTup (tCons (tLst tNil) (tCons (tLst tNil) tNil)))) tNext) (tSeq (tAsg (tCall (sp_cells K) [] E0 (tCons (tVar 0) (tCons (tOp (rIxT K) (tVar 1) (tC (.int 1))) tNil))) (gName 3)) (tSeq (tIfS (tTest (tOp rEq (tOp (rIxT K) (tVar 1) (tC (.int 0))) (tC (.str "tick")))) (tRet (tTup (tCons (tVar 3) (tCons (tVar 3) tNil)))) tNext) (tSeq (tIfS (tTest (tOp rEq (tOp (rIxT K) (tVar 1) (tC (.int 0))) (tC (.str "put")))) (tRet (tTup (tCons (tLst tNil) (tCons (tLst (tCons (tOp (rIxL K) (tVar 3) (tVar 2)) tNil)) tNil)))) tNext) (tSeq (tIfS (tAnd (tTest (tOp rEq (tOp (rIxT K) (tVar 1) (tC (.int 0))) (tC (.str "grow")))) (tTest (tOp rLt (tVar 2) (tCB (rLenS K) (tCons (tVar 3) tNil))))) (tRet (tTup (tCons (tLst (tCons (tOp (rIxL K) (tVar 3) (tVar 2)) tNil)) (tCons (tLst tNil) tNil)))) tNext) (tSeq (tIfS (tTest (tOp rEq (tOp (rIxT K) (tVar 1) (tC (.int 0))) (tC (.str "grow")))) (tRet (tTup (tCons (tLst tNil) (tCons (tLst (tCons (tOp (rIxL K) (tVar 3) (tOp rMi (tVar 2) (tCB (rLenS K) (tCons (tVar 3) tNil)))) tNil)) tNil)))) tNext) (tSeq (tAsg (tCall (sp_cells K) [] E0 (tCons (tVar 0) (tCons (tOp (rIxT K) (tVar 1) (tC (.int 2))) tNil))) (gName 4)) (tSeq (tIfS (tTest (tOp rEq (tOp (rIxT K) (tVar 1) (tC (.int 0))) (tC (.str "copy")))) (tRet (tTup (tCons (tLst (tCons (tOp (rIxL K) (tVar 4) (tVar 2)) tNil)) (tCons (tLst (tCons (tOp (rIxL K) (tVar 3) (tVar 2)) tNil)) tNil)))) tNext) (tSeq (tIfS (tOr (tTest (tOp rEq (tOp (rIxT K) (tVar 1) (tC (.int 0))) (tC (.str "is")))) (tTest (tOp rEq (tOp (rIxT K) (tVar 1) (tC (.int 0))) (tC (.str "most"))))) (tRet (tTup (tCons (tOp rCat (tVar 3) (tVar 4)) (tCons (tLst tNil) tNil)))) tNext) (tSeq (tIfS (tOr (tTest (tOp rEq (tVar 2) (tC (.int 0)))) (tTest (tOp rEq (tVar 2) (tOp rPl (tCB (rLenS K) (tCons (tVar 3) tNil)) (tC (.int 1)))))) (tRet (tTup (tCons (tCall (sp_cells K) [] E0 (tCons (tVar 0) (tCons (tOp (rIxT K) (tVar 1) (tC (.int 3))) tNil))) (tCons (tLst tNil) tNil)))) tNext) (tSeq (tIfS (tTest (tOp rLe (tVar 2) (tCB (rLenS K) (tCons (tVar 3) tNil)))) (tRet (tTup (tCons (tLst (tCons (tOp (rIxL K) (tVar 4) (tOp rMi (tVar 2) (tC (.int 1)))) tNil)) (tCons (tLst tNil) tNil)))) tNext) (tRet (tTup (tCons (tLst tNil) (tCons (tLst (tCons (tOp (rIxL K) (tVar 3) (tOp rMi (tOp rMi (tVar 2) (tCB (rLenS K) (tCons (tVar 3) tNil))) (tC (.int 2)))) tNil)) tNil)))))))))))))))
/-! _law_step: slots 0 _law_boxes_here 1 _law_deed_here 2 _law_frame 3 _law_cells_here 4 _law_touched_here 5 _law_taken 6 _law_size 7 _law_at 8 _law_k -/
abbrev s_step : Stmt := top 41
abbrev n_step : List Str := ["_law_boxes_here", "_law_deed_here", "_law_frame", "_law_cells_here", "_law_touched_here", "_law_taken", "_law_size", "_law_at", "_law_k"]
abbrev p_step : List Str := ["_law_boxes_here", "_law_deed_here", "_law_frame", "_law_cells_here"]
def b_step_0 (K : PySem.W.Frag) : TS := (tAsg (tCall (sp_touched K) [] E0 (tCons (tVar 0) (tCons (tVar 1) (tCons (tOp (rIxL K) (tVar 2) (tC (.int 2))) tNil)))) (gName 4))
def b_step_1 (K : PySem.W.Frag) : TS := (tAsg (tLc (iList K (tOp (rIxT K) (tVar 4) (tC (.int 0)))) (gName 8) tYes (tOp (rIxL K) (tVar 3) (tVar 8)) [8]) (gName 5))
def b_step_2 (K : PySem.W.Frag) : TS := (tAsg (tC (.int 0)) (gName 6))
def b_step_3 (K : PySem.W.Frag) : TS := (tIfS (tOr (tTest (tOp rEq (tOp (rIxT K) (tVar 1) (tC (.int 0))) (tC (.str "grow")))) (tTest (tOp rEq (tOp (rIxT K) (tVar 1) (tC (.int 0))) (tC (.str "anew"))))) (tAsg (tCB (rLenS K) (tCons (tOp (rIxT K) (tOp (rIxT K) (tVar 0) (tOp (rIxT K) (tVar 1) (tC (.int 1)))) (tC (.int 1))) tNil)) (gName 6)) tNext)
def b_step_4 (K : PySem.W.Frag) : TS := (tIfS (tAnd (tTest (tOp rEq (tOp (rIxT K) (tVar 1) (tC (.int 0))) (tC (.str "anew")))) (tTest (tOp rEq (tOp (rIxL K) (tVar 2) (tC (.int 2))) (tOp rPl (tVar 6) (tC (.int 1)))))) (tIfS (tTest (tOp rNe (tOp (rIxL K) (tVar 5) (tC (.int 0))) (tOp (rIxL K) (tOp (rIxL K) (tVar 2) (tC (.int 3))) (tC (.int 0))))) (tSeq (tAsg (tC (.int 0)) (gSub (tVar 2) (tC (.int 2)) rSetL)) (tSeq (tAsg (tLst tNil) (gSub (tVar 2) (tC (.int 3)) rSetL)) (tRet (tC (.str "back"))))) tNext) (tIfS (tTest (tOp rGr (tVar 6) (tC (.int 0)))) (tAsg (tOp rCat (tOp (rIxL K) (tVar 2) (tC (.int 3))) (tVar 5)) (gSub (tVar 2) (tC (.int 3)) rSetL)) tNext))
def b_step_5 (K : PySem.W.Frag) : TS := (tFor (iList K (tOp (rIxT K) (tVar 4) (tC (.int 1)))) (gName 7) (tSeq (tIfS (tTest (tOp rEq (tOp (rIxT K) (tVar 1) (tC (.int 0))) (tC (.str "put")))) (tAsg (tOp (rIxT K) (tOp (rIxT K) (tVar 1) (tC (.int 2))) (tOp (rIxL K) (tVar 2) (tC (.int 2)))) (gSub (tVar 3) (tVar 7) rSetL)) tNext) (tSeq (tIfS (tTest (tOp rEq (tOp (rIxT K) (tVar 1) (tC (.int 0))) (tC (.str "copy")))) (tAsg (tOp (rIxL K) (tVar 5) (tC (.int 0))) (gSub (tVar 3) (tVar 7) rSetL)) tNext) (tSeq (tIfS (tTest (tOp rEq (tOp (rIxT K) (tVar 1) (tC (.int 0))) (tC (.str "tick")))) (tAsg (tOp rPl (tOp (rIxL K) (tVar 5) (tC (.int 0))) (tC (.int 1))) (gSub (tVar 3) (tVar 7) rSetL)) tNext) (tSeq (tIfS (tTest (tOp rEq (tOp (rIxT K) (tVar 1) (tC (.int 0))) (tC (.str "grow")))) (tAsg (tOp rPl (tOp (rIxL K) (tOp (rIxL K) (tVar 2) (tC (.int 3))) (tOp rMi (tOp (rIxL K) (tVar 2) (tC (.int 2))) (tVar 6))) (tOp (rIxT K) (tVar 1) (tC (.int 2)))) (gSub (tVar 3) (tVar 7) rSetL)) tNext) (tIfS (tTest (tOp rEq (tOp (rIxT K) (tVar 1) (tC (.int 0))) (tC (.str "anew")))) (tAsg (tOp (rIxL K) (tOp (rIxL K) (tVar 2) (tC (.int 3))) (tOp rMi (tOp rMi (tOp (rIxL K) (tVar 2) (tC (.int 2))) (tVar 6)) (tC (.int 1)))) (gSub (tVar 3) (tVar 7) rSetL)) tNext))))))
def b_step_6 (K : PySem.W.Frag) : TS := (tAsg (tOp rPl (tOp (rIxL K) (tVar 2) (tC (.int 2))) (tC (.int 1))) (gSub (tVar 2) (tC (.int 2)) rSetL))
def b_step_7 (K : PySem.W.Frag) : TS := (tIfS (tTest (tOp rEq (tOp (rIxL K) (tVar 2) (tC (.int 2))) (tCall (sp_turns K) [] E0 (tCons (tVar 0) (tCons (tVar 1) tNil))))) (tSeq (tAsg (tOp rPl (tOp (rIxL K) (tVar 2) (tC (.int 1))) (tC (.int 1))) (gSub (tVar 2) (tC (.int 1)) rSetL)) (tSeq (tAsg (tC (.int 0)) (gSub (tVar 2) (tC (.int 2)) rSetL)) (tAsg (tLst tNil) (gSub (tVar 2) (tC (.int 3)) rSetL)))) tNext)
def b_step_8 (K : PySem.W.Frag) : TS := (tRet (tC (.str "turn")))
def r_step_8 (K : PySem.W.Frag) : TS := b_step_8 K
def r_step_7 (K : PySem.W.Frag) : TS := tSeq (b_step_7 K) (r_step_8 K)
def r_step_6 (K : PySem.W.Frag) : TS := tSeq (b_step_6 K) (r_step_7 K)
def r_step_5 (K : PySem.W.Frag) : TS := tSeq (b_step_5 K) (r_step_6 K)
def r_step_4 (K : PySem.W.Frag) : TS := tSeq (b_step_4 K) (r_step_5 K)
def r_step_3 (K : PySem.W.Frag) : TS := tSeq (b_step_3 K) (r_step_4 K)
def r_step_2 (K : PySem.W.Frag) : TS := tSeq (b_step_2 K) (r_step_3 K)
def r_step_1 (K : PySem.W.Frag) : TS := tSeq (b_step_1 K) (r_step_2 K)
def r_step_0 (K : PySem.W.Frag) : TS := tSeq (b_step_0 K) (r_step_1 K)
set_option maxRecDepth 100000 in
set_option linter.unusedVariables false in
def t_step (K : PySem.W.Frag) : TS :=
  r_step_0 K
/-! _law_turn: slots 0 _law_program_here 1 _law_now 2 _law_word 3 _law_bell 4 _law_frame 5 _law_places 6 _law_what -/
abbrev s_turn : Stmt := top 42
abbrev n_turn : List Str := ["_law_program_here", "_law_now", "_law_word", "_law_bell", "_law_frame", "_law_places", "_law_what"]
abbrev p_turn : List Str := ["_law_program_here", "_law_now", "_law_word"]
def b_turn_0 (K : PySem.W.Frag) : TS := (tAsg (tOp rOr (tOp (rIxL K) (tVar 1) (tC (.int 0))) (tVar 2)) (gSub (tVar 1) (tC (.int 0)) rSetL))
def b_turn_1 (K : PySem.W.Frag) : TS := (tAsg (tCall (sp_enters K) [] E0 (tCons (tVar 0) (tCons (tOp (rIxL K) (tVar 1) (tC (.int 1))) (tCons (tOp (rIxL K) (tVar 1) (tC (.int 0))) tNil)))) (gName 3))
def b_turn_2 (K : PySem.W.Frag) : TS := (tIfS (tTest (tOp rGr (tVar 3) (tC (.int 0)))) (tSeq (tAsg (tOp rMi (tOp (rIxL K) (tVar 1) (tC (.int 0))) (tOp rSl (tC (.int 1)) (tVar 3))) (gSub (tVar 1) (tC (.int 0)) rSetL)) (tSeq (tDrop (tBM K "list" rAppend (tOp (rIxL K) (tVar 1) (tC (.int 1))) (tCons (tLst (tCons (tVar 3) (tCons (tC (.int 0)) (tCons (tC (.int 0)) (tCons (tLst tNil) tNil))))) tNil))) (tRet (tC (.str "enter"))))) tNext)
def b_turn_3 (K : PySem.W.Frag) : TS := (tAsg (tOp (rIxL K) (tOp (rIxL K) (tVar 1) (tC (.int 1))) (tUn rNg (tC (.int 1)))) (gName 4))
def b_turn_4 (K : PySem.W.Frag) : TS := (tAsg (tOp (rIxT K) (tOp (rIxT K) (tOp (rIxT K) (tVar 0) (tC (.int 1))) (tOp (rIxL K) (tVar 4) (tC (.int 0)))) (tC (.int 2))) (gName 5))
def b_turn_5 (K : PySem.W.Frag) : TS := (tIfS (tTest (tOp rEq (tOp (rIxL K) (tVar 4) (tC (.int 1))) (tCB (rLenS K) (tCons (tVar 5) tNil)))) (tRet (tC (.str "idle"))) tNext)
def b_turn_6 (K : PySem.W.Frag) : TS := (tAsg (tCall (sp_step K) [] E0 (tCons (tOp (rIxT K) (tVar 0) (tC (.int 0))) (tCons (tOp (rIxT K) (tOp (rIxT K) (tVar 5) (tOp (rIxL K) (tVar 4) (tC (.int 1)))) (tC (.int 0))) (tCons (tVar 4) (tCons (tOp (rIxL K) (tVar 1) (tC (.int 2))) tNil))))) (gName 6))
def b_turn_7 (K : PySem.W.Frag) : TS := (tIfS (tAnd (tTest (tOp rGr (tOp (rIxL K) (tVar 4) (tC (.int 0))) (tC (.int 0)))) (tTest (tOp rEq (tOp (rIxL K) (tVar 4) (tC (.int 1))) (tCB (rLenS K) (tCons (tVar 5) tNil))))) (tDrop (tBM0 K "list" rPop (tOp (rIxL K) (tVar 1) (tC (.int 1))))) tNext)
def b_turn_8 (K : PySem.W.Frag) : TS := (tRet (tVar 6))
def r_turn_8 (K : PySem.W.Frag) : TS := b_turn_8 K
def r_turn_7 (K : PySem.W.Frag) : TS := tSeq (b_turn_7 K) (r_turn_8 K)
def r_turn_6 (K : PySem.W.Frag) : TS := tSeq (b_turn_6 K) (r_turn_7 K)
def r_turn_5 (K : PySem.W.Frag) : TS := tSeq (b_turn_5 K) (r_turn_6 K)
def r_turn_4 (K : PySem.W.Frag) : TS := tSeq (b_turn_4 K) (r_turn_5 K)
def r_turn_3 (K : PySem.W.Frag) : TS := tSeq (b_turn_3 K) (r_turn_4 K)
def r_turn_2 (K : PySem.W.Frag) : TS := tSeq (b_turn_2 K) (r_turn_3 K)
def r_turn_1 (K : PySem.W.Frag) : TS := tSeq (b_turn_1 K) (r_turn_2 K)
def r_turn_0 (K : PySem.W.Frag) : TS := tSeq (b_turn_0 K) (r_turn_1 K)
set_option maxRecDepth 100000 in
set_option linter.unusedVariables false in
def t_turn (K : PySem.W.Frag) : TS :=
  r_turn_0 K
/-! _law_start: slots 0 _law_program_here 1 _law_cells_here 2 _law_box -/
abbrev s_start : Stmt := top 43
abbrev n_start : List Str := ["_law_program_here", "_law_cells_here", "_law_box"]
abbrev p_start : List Str := ["_law_program_here"]
set_option maxRecDepth 100000 in
set_option linter.unusedVariables false in
def t_start (K : PySem.W.Frag) : TS :=
  (tSeq (tAsg (tLst tNil) (gName 1)) (tSeq (tFor (iTup K (tOp (rIxT K) (tVar 0) (tC (.int 0)))) (gName 2) (tDrop (tBM K "list" rExtend (tVar 1) (tCons (tCB (rListS K) (tCons (tOp (rIxT K) (tVar 2) (tC (.int 1))) tNil)) tNil)))) (tRet (tLst (tCons (tC (.int 0)) (tCons (tLst (tCons (tLst (tCons (tC (.int 0)) (tCons (tC (.int 0)) (tCons (tC (.int 0)) (tCons (tLst tNil) tNil))))) tNil)) (tCons (tVar 1) tNil)))))))
/-! _law_rests: slots 0 _law_program_here 1 _law_now -/
abbrev s_rests : Stmt := top 44
abbrev n_rests : List Str := ["_law_program_here", "_law_now"]
abbrev p_rests : List Str := ["_law_program_here", "_law_now"]
set_option maxRecDepth 100000 in
set_option linter.unusedVariables false in
def t_rests (K : PySem.W.Frag) : TS :=
  (tRet (tAndV (tOp rEq (tOp (rIxL K) (tVar 1) (tC (.int 0))) (tC (.int 0))) (tAndV (tOp rEq (tCB (rLenS K) (tCons (tOp (rIxL K) (tVar 1) (tC (.int 1))) tNil)) (tC (.int 1))) (tOp rEq (tOp (rIxL K) (tOp (rIxL K) (tOp (rIxL K) (tVar 1) (tC (.int 1))) (tC (.int 0))) (tC (.int 1))) (tCB (rLenS K) (tCons (tOp (rIxT K) (tOp (rIxT K) (tOp (rIxT K) (tVar 0) (tC (.int 1))) (tC (.int 0))) (tC (.int 2))) tNil))))))
/-! _law_ringings: slots 0 _law_script 1 _law_bells 2 _law_words 3 _law_way 4 _law_k 5 _law_gap 6 _law_word -/
abbrev s_ringings : Stmt := top 45
abbrev n_ringings : List Str := ["_law_script", "_law_bells", "_law_words", "_law_way", "_law_k", "_law_gap", "_law_word"]
abbrev p_ringings : List Str := ["_law_script", "_law_bells"]
set_option maxRecDepth 100000 in
set_option linter.unusedVariables false in
def t_ringings (K : PySem.W.Frag) : TS :=
  (tSeq (tAsg (tLst tNil) (gName 2)) (tSeq (tAsg (tCall (sp_draw K) [] E0 (tCons (tVar 0) (tCons (tC (.int 97)) (tCons (tC (.int 4)) tNil)))) (gName 3)) (tSeq (tFor (iRng1 (tCons (tOp rPl (tCB rMin2 (tCons (tCB (rLenS K) (tCons (tVar 0) tNil)) (tCons (tC (.int 60)) tNil))) (tCall (sp_draw K) [] E0 (tCons (tVar 0) (tCons (tC (.int 96)) (tCons (tC (.int 9)) tNil))))) tNil)) (gName 4) (tSeq (tAsg (tOp (rIxL K) (tLst (tCons (tC (.int 0)) (tCons (tCall (sp_draw K) [] E0 (tCons (tVar 0) (tCons (tOp rPl (tC (.int 5000)) (tVar 4)) (tCons (tC (.int 2)) tNil)))) (tCons (tCall (sp_draw K) [] E0 (tCons (tVar 0) (tCons (tOp rPl (tC (.int 5000)) (tVar 4)) (tCons (tC (.int 4)) tNil)))) (tCons (tCall (sp_draw K) [] E0 (tCons (tVar 0) (tCons (tOp rPl (tC (.int 5000)) (tVar 4)) (tCons (tC (.int 8)) tNil)))) tNil))))) (tVar 3)) (gName 5)) (tSeq (tDrop (tBM K "list" rExtend (tVar 2) (tCons (tOp rRep (tLst (tCons (tC (.int 0)) tNil)) (tVar 5)) tNil))) (tSeq (tAsg (tCall (sp_draw K) [] E0 (tCons (tVar 0) (tCons (tOp rPl (tC (.int 6000)) (tVar 4)) (tCons (tOp rSl (tC (.int 1)) (tVar 1)) tNil)))) (gName 6)) (tSeq (tIfS (tAnd (tTest (tOp rGr (tVar 1) (tC (.int 0)))) (tTest (tOp rGr (tVar 3) (tC (.int 0))))) (tAsg (tOp rSl (tC (.int 1)) (tCall (sp_draw K) [] E0 (tCons (tVar 0) (tCons (tOp rPl (tC (.int 7000)) (tVar 4)) (tCons (tVar 1) tNil))))) (gName 6)) tNext) (tDrop (tBM K "list" rAppend (tVar 2) (tCons (tOp rSl (tVar 6) (tC (.int 1))) tNil)))))))) (tRet (tVar 2)))))
/-! _law_goes: slots 0 _law_program_here 1 _law_pile 2 _law_depths 3 _law_rows 4 _law_depth 5 _law_shut_here 6 _law_k 7 _law_beneath 8 _law_spot -/
abbrev s_goes : Stmt := top 46
abbrev n_goes : List Str := ["_law_program_here", "_law_pile", "_law_depths", "_law_rows", "_law_depth", "_law_shut_here", "_law_k", "_law_beneath", "_law_spot"]
abbrev p_goes : List Str := ["_law_program_here", "_law_pile", "_law_depths"]
def b_goes_0 (K : PySem.W.Frag) : TS := (tAsg (tOp (rIxT K) (tVar 0) (tC (.int 1))) (gName 3))
def b_goes_1 (K : PySem.W.Frag) : TS := (tIfS (tB (tDNotIn (tTup (tCons (tC (.int 0)) (tCons (tC (.int 0)) tNil))) (tVar 2))) (tRet (tC (.bl false))) tNext)
def b_goes_2 (K : PySem.W.Frag) : TS := (tAsg (tDGet (tVar 2) (tTup (tCons (tC (.int 0)) (tCons (tC (.int 0)) tNil)))) (gName 4))
def b_goes_3 (K : PySem.W.Frag) : TS := (tAsg (tC (.int 0)) (gName 5))
def b_goes_4 (K : PySem.W.Frag) : TS := (tFor (iRng2 (tCons (tC (.int 1)) (tCons (tCB (rLenS K) (tCons (tVar 1) tNil)) tNil))) (gName 6) (tSeq (tAsg (tOp (rIxL K) (tVar 1) (tOp rMi (tVar 6) (tC (.int 1)))) (gName 7)) (tSeq (tIfS (tTest (tOp rLt (tOp (rIxL K) (tVar 7) (tC (.int 1))) (tCB (rLenS K) (tCons (tOp (rIxT K) (tOp (rIxT K) (tVar 3) (tOp (rIxL K) (tVar 7) (tC (.int 0)))) (tC (.int 2))) tNil)))) (tAsg (tOp rOr (tVar 5) (tOp (rIxT K) (tOp (rIxT K) (tOp (rIxT K) (tOp (rIxT K) (tVar 3) (tOp (rIxL K) (tVar 7) (tC (.int 0)))) (tC (.int 2))) (tOp (rIxL K) (tVar 7) (tC (.int 1)))) (tC (.int 1)))) (gName 5)) tNext) (tSeq (tAsg (tTup (tCons (tOp (rIxL K) (tOp (rIxL K) (tVar 1) (tVar 6)) (tC (.int 0))) (tCons (tVar 5) tNil))) (gName 8)) (tSeq (tIfS (tOr (tB (tDNotIn (tVar 8) (tVar 2))) (tTest (tOp rGq (tDGet (tVar 2) (tVar 8)) (tVar 4)))) (tRet (tC (.bl false))) tNext) (tAsg (tDGet (tVar 2) (tVar 8)) (gName 4)))))))
def b_goes_5 (K : PySem.W.Frag) : TS := (tRet (tOp rGq (tVar 4) (tC (.int 0))))
def r_goes_5 (K : PySem.W.Frag) : TS := b_goes_5 K
def r_goes_4 (K : PySem.W.Frag) : TS := tSeq (b_goes_4 K) (r_goes_5 K)
def r_goes_3 (K : PySem.W.Frag) : TS := tSeq (b_goes_3 K) (r_goes_4 K)
def r_goes_2 (K : PySem.W.Frag) : TS := tSeq (b_goes_2 K) (r_goes_3 K)
def r_goes_1 (K : PySem.W.Frag) : TS := tSeq (b_goes_1 K) (r_goes_2 K)
def r_goes_0 (K : PySem.W.Frag) : TS := tSeq (b_goes_0 K) (r_goes_1 K)
set_option maxRecDepth 100000 in
set_option linter.unusedVariables false in
def t_goes (K : PySem.W.Frag) : TS :=
  r_goes_0 K
/-! law: slots 0 _law_script 1 _law_program_here 2 _law_words 3 _law_depths 4 _law_row 5 _law_shut_here 6 _law_depth 7 _law_most 8 _law_now 9 _law_at 10 _law_word -/
abbrev s_law : Stmt := top 47
abbrev n_law : List Str := ["_law_script", "_law_program_here", "_law_words", "_law_depths", "_law_row", "_law_shut_here", "_law_depth", "_law_most", "_law_now", "_law_at", "_law_word"]
abbrev p_law : List Str := ["_law_script"]
def b_law_0 (K : PySem.W.Frag) : TS := (tAsg (tCall (sp_program K) [] E0 (tCons (tVar 0) (tCons (tOp (rIxL K) (tLst (tCons (tC (.int 1)) (tCons (tC (.int 2)) (tCons (tC (.int 4)) (tCons (tC (.int 12)) tNil))))) (tCall (sp_draw K) [] E0 (tCons (tVar 0) (tCons (tC (.int 7)) (tCons (tC (.int 4)) tNil))))) tNil))) (gName 1))
def b_law_1 (K : PySem.W.Frag) : TS := (tAsg (tCall (sp_ringings K) [] E0 (tCons (tVar 0) (tCons (tOp rMi (tCB (rLenS K) (tCons (tOp (rIxT K) (tVar 1) (tC (.int 1))) tNil)) (tC (.int 1))) tNil))) (gName 2))
def b_law_2 (K : PySem.W.Frag) : TS := (tAsg tDNewT (gName 3))
def b_law_3 (K : PySem.W.Frag) : TS := (tFor (iList K (tCall (sp_ppaper K) [] E0 (tCons (tVar 1) tNil))) (gTup K 3 (gCons (gName 4) (gCons (gName 5) (gCons (gName 6) gNil)))) (sDPut (tVar 3) (tTup (tCons (tVar 4) (tCons (tVar 5) tNil))) (tVar 6)))
def b_law_4 (K : PySem.W.Frag) : TS := (tAsg (tOp (rIxT K) (tCall (sp_pdeepest K) [] E0 (tCons (tVar 1) tNil)) (tC (.int 0))) (gName 7))
def b_law_5 (K : PySem.W.Frag) : TS := (tAsg (tCall (sp_start K) [] E0 (tCons (tVar 1) tNil)) (gName 8))
def b_law_6 (K : PySem.W.Frag) : TS := (tAsg (tC (.int 0)) (gName 9))
def b_law_7 (K : PySem.W.Frag) : TS := (tWhile (tOr (tTest (tOp rLt (tVar 9) (tCB (rLenS K) (tCons (tVar 2) tNil)))) (tNot (tB (tCall (sp_rests K) [] E0 (tCons (tVar 1) (tCons (tVar 8) tNil)))))) (tSeq (tAsg (tC (.int 0)) (gName 10)) (tSeq (tIfS (tTest (tOp rLt (tVar 9) (tCB (rLenS K) (tCons (tVar 2) tNil)))) (tAsg (tOp (rIxL K) (tVar 2) (tVar 9)) (gName 10)) tNext) (tSeq (tDrop (tCall (sp_turn K) [] E0 (tCons (tVar 1) (tCons (tVar 8) (tCons (tVar 10) tNil))))) (tSeq (tIfS (tOr (tTest (tOp rGr (tOp rMi (tCB (rLenS K) (tCons (tOp (rIxL K) (tVar 8) (tC (.int 1))) tNil)) (tC (.int 1))) (tVar 7))) (tNot (tB (tCall (sp_goes K) [] E0 (tCons (tVar 1) (tCons (tOp (rIxL K) (tVar 8) (tC (.int 1))) (tCons (tVar 3) tNil))))))) (tRet (tC (.bl false))) tNext) (tAsg (tOp rPl (tVar 9) (tC (.int 1))) (gName 9)))))))
def b_law_8 (K : PySem.W.Frag) : TS := (tRet (tC (.bl true)))
def r_law_8 (K : PySem.W.Frag) : TS := b_law_8 K
def r_law_7 (K : PySem.W.Frag) : TS := tSeq (b_law_7 K) (r_law_8 K)
def r_law_6 (K : PySem.W.Frag) : TS := tSeq (b_law_6 K) (r_law_7 K)
def r_law_5 (K : PySem.W.Frag) : TS := tSeq (b_law_5 K) (r_law_6 K)
def r_law_4 (K : PySem.W.Frag) : TS := tSeq (b_law_4 K) (r_law_5 K)
def r_law_3 (K : PySem.W.Frag) : TS := tSeq (b_law_3 K) (r_law_4 K)
def r_law_2 (K : PySem.W.Frag) : TS := tSeq (b_law_2 K) (r_law_3 K)
def r_law_1 (K : PySem.W.Frag) : TS := tSeq (b_law_1 K) (r_law_2 K)
def r_law_0 (K : PySem.W.Frag) : TS := tSeq (b_law_0 K) (r_law_1 K)
set_option maxRecDepth 100000 in
set_option linter.unusedVariables false in
def t_law (K : PySem.W.Frag) : TS :=
  r_law_0 K
end Bn
set_option Elab.async false
set_option linter.all false
set_option maxRecDepth 100000
set_option maxHeartbeats 4000000
namespace Bn
open PySem PySem.Spec PyProof.Rows L2 Evl
/-! ### what evaluates to one of several: Er -/
def Er (te : TE) (σ : L2.St) (H : Hp) (Φ : V → Hp → Prop) : Prop := ∀ H1, Ex H H1 → ∀ Q : VK, (∀ v H2, Ex H1 H2 → Φ v H2 → Q v H2) → te σ H1 Q
abbrev EvI (te : TE) (σ : L2.St) (H : Hp) (φ : Int → Prop) : Prop := Er te σ H fun v _ => ∃ i, v = .int i ∧ φ i
def EaR (ta : TA) (σ : L2.St) (H : Hp) (Φ : List V → Hp → Prop) : Prop := ∀ H1, Ex H H1 → ∀ Q : List V → Hp → Prop, (∀ vs H2, Ex H1 H2 → Φ vs H2 → Q vs H2) → ta σ H1 Q
def Mono (Φ : V → Hp → Prop) : Prop := ∀ v H1 H2, Ex H1 H2 → Φ v H1 → Φ v H2
theorem Mono.val {φ : V → Prop} : Mono fun v _ => φ v := fun _ _ _ _ h => h
section
variable {K : PySem.W.Frag} {σ : L2.St} {H H' : Hp} {ta tb te tx : TE} {t u : TT} {x y z v : V} {r : R2} {Φ Ψ Χ : V → Hp → Prop} {φ ψ χ : Int → Prop} {D : Ends} {tu tw tz : TS} {p a : Addr} {xs : List V} {i j : Int}
theorem Er.mono (e : Ex H H') (h : Er te σ H Φ) : Er te σ H' Φ := fun H1 a Q q => h H1 (e.trans a) Q q
theorem er_of (h : Ev te σ H v) (k : ∀ H', Ex H H' → Φ v H') : Er te σ H Φ := fun H1 e Q q => h H1 e Q fun H2 e2 => q v H2 e2 (k H2 (e.trans e2))
theorem er_imp (h : Er te σ H Φ) (k : ∀ v H', Ex H H' → Φ v H' → Ψ v H') : Er te σ H Ψ := fun H1 e Q q => h H1 e Q fun v H2 e2 f => q v H2 e2 (k v H2 (e.trans e2) f)
theorem ev_of_er (h : Er te σ H fun u _ => u = v) : Ev te σ H v := fun H1 e Q q => h H1 e Q fun u H2 e2 f => by
  rw [f]
  exact q H2 e2
theorem er_op (ha : Er ta σ H Φ) (hb : Er tb σ H Ψ) (hm : Mono Φ) (hr : ∀ x y H1, Ex H H1 → Φ x H1 → Ψ y H1 → ∀ Q : VK, (∀ v H2, Ex H1 H2 → Χ v H2 → Q v H2) → r x y H1 Q) : Er (tOp r ta tb) σ H Χ := fun H1 e Q q =>
  ha H1 e _ fun x H2 e2 f => hb H2 (e.trans e2) _ fun y H3 e3 g => hr x y H3 ((e.trans e2).trans e3) (hm x H2 H3 e3 f) g Q fun v H4 e4 => q v H4 ((e2.trans e3).trans e4)
theorem ei_of (h : Ev te σ H (.int i)) (p : φ i) : EvI te σ H φ := er_of h fun _ _ => ⟨i, rfl, p⟩
theorem ei_imp (h : EvI te σ H φ) (k : ∀ i, φ i → ψ i) : EvI te σ H ψ := er_imp h fun _ _ _ ⟨i, e, f⟩ => ⟨i, e, k i f⟩
theorem ei_op {C : Int → Int → Prop} {g : Int → Int → Int} (ha : EvI ta σ H φ) (hb : EvI tb σ H ψ) (h : ∀ i j, φ i → ψ j → C i j ∧ χ (g i j)) : EvI (tOp (rI C fun i j => .int (g i j)) ta tb) σ H χ :=
  er_op ha hb Mono.val fun x y H1 e ⟨i, ex, f⟩ ⟨j, ey, f2⟩ Q q => ⟨i, j, ex, ey, (h i j f f2).1, q _ H1 (Ex.refl H1) ⟨_, rfl, (h i j f f2).2⟩⟩
theorem ei_op0 {g : Int → Int → Int} (ha : EvI ta σ H φ) (hb : EvI tb σ H ψ) (h : ∀ i j, φ i → ψ j → χ (g i j)) : EvI (tOp (rI0 fun i j => .int (g i j)) ta tb) σ H χ :=
  er_op ha hb Mono.val fun x y H1 e ⟨i, ex, f⟩ ⟨j, ey, f2⟩ Q q => ⟨i, j, ex, ey, q _ H1 (Ex.refl H1) ⟨_, rfl, h i j f f2⟩⟩
theorem er_call {sp : Sp} {dvs vs : List V} {E : XK} {ta : TA} (h : EvA ta σ H vs) (hs : ∀ H1, Ex H H1 → ∀ Q : VK, (∀ v H2, Ex H1 H2 → Φ v H2 → Q v H2) → ∀ E : XK, sp (vs ++ dvs) H1 Q E) : Er (tCall sp dvs E ta) σ H Φ := fun H1 e Q q =>
  h H1 e _ fun H2 e2 => hs H2 (e.trans e2) Q (fun v H3 e3 f => q v H3 (e2.trans e3) f) E
theorem er_callR {sp : Sp} {dvs : List V} {E : XK} {ta : TA} {Ψ : List V → Hp → Prop} (h : EaR ta σ H Ψ) (hs : ∀ vs H1, Ex H H1 → Ψ vs H1 → ∀ Q : VK, (∀ v H2, Ex H1 H2 → Φ v H2 → Q v H2) → ∀ E : XK, sp (vs ++ dvs) H1 Q E) : Er (tCall sp dvs E ta) σ H Φ := fun H1 e Q q =>
  h H1 e _ fun vs H2 e2 f => hs vs H2 (e.trans e2) f Q (fun v H3 e3 f => q v H3 (e2.trans e3) f) E
theorem ear_nil : EaR tNil σ H fun vs _ => vs = [] := fun H1 _ _ q => q _ H1 (Ex.refl H1) rfl
theorem ear_cons {tr : TA} {Ψ : List V → Hp → Prop} (h : Er ta σ H Φ) (hm : Mono Φ) (hr : EaR tr σ H Ψ) : EaR (tCons ta tr) σ H fun vs H' => ∃ v r, vs = v :: r ∧ Φ v H' ∧ Ψ r H' := fun H1 e Q q =>
  h H1 e _ fun v H2 e2 f => hr H2 (e.trans e2) _ fun vs H3 e3 g => q _ H3 (e2.trans e3) ⟨v, vs, rfl, hm v H2 H3 e3 f, g⟩
theorem ear_of {ta : TA} {vs : List V} (h : EvA ta σ H vs) : EaR ta σ H fun us _ => us = vs := fun H1 e Q q => h H1 e _ fun H2 e2 => q vs H2 e2 rfl
/-- a new tuple, a new list of such -/
theorem er_tup {ta : TA} {Ψ : List V → Hp → Prop} (h : EaR ta σ H Ψ) (hl : ∀ vs H', Ψ vs H' → vs.length ≤ 100000) (hm : ∀ vs H1 H2, Ex H1 H2 → Ψ vs H1 → Ψ vs H2) :
    Er (tTup ta) σ H fun v H' => ∃ p vs, v = .ref p ∧ H' p = some (.tup vs) ∧ Ψ vs H' := fun H1 e Q q =>
  h H1 e _ fun vs H2 e2 f => ⟨sz_of (hl vs H2 f), fun p hp => q _ _ (e2.trans (Ex.new hp)) ⟨p, vs, rfl, upd_same, hm vs H2 _ (Ex.new hp) f⟩⟩
theorem er_lst {ta : TA} {Ψ : List V → Hp → Prop} (h : EaR ta σ H Ψ) (hl : ∀ vs H', Ψ vs H' → vs.length ≤ 100000) (hm : ∀ vs H1 H2, Ex H1 H2 → Ψ vs H1 → Ψ vs H2) :
    Er (tLst ta) σ H fun v H' => ∃ p vs, v = .ref p ∧ H' p = some (.lst vs) ∧ Ψ vs H' := fun H1 e Q q =>
  h H1 e _ fun vs H2 e2 f => ⟨sz_of (hl vs H2 f), fun p hp => q _ _ (e2.trans (Ex.new hp)) ⟨p, vs, rfl, upd_same, hm vs H2 _ (Ex.new hp) f⟩⟩
/-- an item of a list at an unknown place in bounds -/
theorem at_in {xs : List V} {i : Int} (h0 : 0 ≤ i) (h1 : i < (xs.length : Int)) : ∃ x, x ∈ xs ∧ atI xs i = some x := by
  have hi : i.toNat < xs.length := by omega
  have e : i = ((i.toNat : Nat) : Int) := by omega
  have h2 : atI xs ((i.toNat : Nat) : Int) = some xs[i.toNat] := atI_nat (List.getElem?_eq_getElem hi)
  rw [← e] at h2
  exact ⟨xs[i.toNat], List.getElem_mem hi, h2⟩
theorem er_il {χ : V → Prop} (ha : Er ta σ H fun v H' => ∃ p vs, v = .ref p ∧ H' p = some (.lst vs) ∧ (vs.length : Int) = j ∧ ∀ x ∈ vs, χ x) (hb : EvI tb σ H fun i => 0 ≤ i ∧ i < j) : Er (tOp (rIxL K) ta tb) σ H fun v _ => χ v :=
  er_op ha hb (fun v H1 H2 e ⟨p, vs, e1, e2, e3⟩ => ⟨p, vs, e1, e p _ e2, e3⟩) fun x y H1 e ⟨p, vs, ex, hp, hl, hx⟩ ⟨i, ey, h0, h1⟩ Q q => by
    obtain ⟨x0, hm, ha⟩ := at_in (xs := vs) h0 (by omega)
    exact ⟨p, vs, i, x0, ex, ey, sq_of hp, ha, q x0 H1 (Ex.refl H1) (hx x0 hm)⟩
theorem er_lstAt (ha : Ev ta σ H (.ref p)) (hp : H p = some (.lst xs)) {χ : V → Prop} (h : ∀ x ∈ xs, χ x) : Er ta σ H fun v H' => ∃ p vs, v = .ref p ∧ H' p = some (.lst vs) ∧ (vs.length : Int) = (xs.length : Int) ∧ ∀ x ∈ vs, χ x :=
  er_of ha fun H' e => ⟨p, xs, rfl, e p _ hp, rfl, h⟩
theorem er_lstN (ha : EvL ta σ H xs) {χ : V → Prop} (h : ∀ x ∈ xs, χ x) : Er ta σ H fun v H' => ∃ p vs, v = .ref p ∧ H' p = some (.lst vs) ∧ (vs.length : Int) = (xs.length : Int) ∧ ∀ x ∈ vs, χ x := fun H1 e Q q =>
  ha H1 e _ fun p H2 _ e2 hp => q _ H2 e2 ⟨p, xs, rfl, hp, rfl, h⟩
/-! ### statements with such -/
theorem q_asgR {i : Nat} (h : Er te σ H Φ) (k : ∀ v H1, Ex H H1 → Φ v H1 → tz D (σ.set i (some v)) H1) : tSeq (tAsg te (gName i)) tz D σ H := h H (Ex.refl H) _ fun v H1 e f => k v H1 e f
theorem q_asgI {i : Nat} (h : EvI te σ H φ) (k : ∀ n H1, Ex H H1 → φ n → tz D (σ.set i (some (.int n))) H1) : tSeq (tAsg te (gName i)) tz D σ H := h H (Ex.refl H) _ fun v H1 e ⟨n, ev, f⟩ => by
  subst ev
  exact k n H1 e f
theorem s_asgR {i : Nat} (h : Er te σ H Φ) (k : ∀ v H1, Ex H H1 → Φ v H1 → D.nx (σ.set i (some v)) H1) : tAsg te (gName i) D σ H := h H (Ex.refl H) _ fun v H1 e f => k v H1 e f
theorem s_asgI {i : Nat} (h : EvI te σ H φ) (k : ∀ n H1, Ex H H1 → φ n → D.nx (σ.set i (some (.int n))) H1) : tAsg te (gName i) D σ H := h H (Ex.refl H) _ fun v H1 e ⟨n, ev, f⟩ => by
  subst ev
  exact k n H1 e f
theorem s_retR (h : Er te σ H Φ) (k : ∀ v H1, Ex H H1 → Φ v H1 → D.rt v H1) : tRet te D σ H := h H (Ex.refl H) _ k
theorem s_retI (h : EvI te σ H φ) (k : ∀ n H1, Ex H H1 → φ n → D.rt (.int n) H1) : tRet te D σ H := h H (Ex.refl H) _ fun v H1 e ⟨n, ev, f⟩ => by
  subst ev
  exact k n H1 e f
theorem q_dropR (h : Er te σ H Φ) (k : ∀ v H1, Ex H H1 → Φ v H1 → tz D σ H1) : tSeq (tDrop te) tz D σ H := h H (Ex.refl H) _ k
/-- if: both ways, by an answer that is known -/
theorem q_ifB {b : Bool} (h : EvT t σ H b) (h1 : b = true → ∀ H1, Ex H H1 → tu { D with nx := tz D } σ H1) (h2 : b = false → ∀ H1, Ex H H1 → tw { D with nx := tz D } σ H1) : tSeq (tIfS t tu tw) tz D σ H := s_if (D := { D with nx := tz D }) h h1 h2
/-- for x in range(n), n told by what is true of it -/
theorem q_forE1 {tn : TE} {j : Nat} (h : EvI tn σ H φ) (k : ∀ (n : Int) H1, Ex H H1 → φ n → 0 ≤ n ∧ n ≤ 100000 ∧ ∃ Pv : Nat → L2.St → Hp → Prop, Pv 0 σ H1 ∧
      (∀ (i : Nat) σ' H', (i : Int) < n → Pv i σ' H' → tu { D with nx := Pv (i + 1), ct := Pv (i + 1), bk := tz D } (σ'.set j (some (.int (i : Int)))) H') ∧ ∀ σ' H', Pv n.toNat σ' H' → tz D σ' H') : tSeq (tFor (iRng1 (tCons tn tNil)) (gName j) tu) tz D σ H :=
  h H (Ex.refl H) _ fun v H1 e ⟨n, ev, f⟩ => by
    subst ev
    obtain ⟨n0, n1, Pv, p0, hs, hd⟩ := k n H1 e f
    refine ⟨n, rfl, by omega, by omega, for_range (lo := 0) (n := n.toNat) Pv p0 (fun i σ' H' hi p => ?_) hd⟩
    have e0 : (0 : Int) + (i : Int) = (i : Int) := Int.zero_add _
    show tu { D with nx := Pv (i + 1), ct := Pv (i + 1), bk := tz D } (σ'.set j (some (.int ((0 : Int) + (i : Int))))) H'
    rw [e0]
    exact hs i σ' H' (by omega) p
/-! ### subscripts, lengths -/
theorem e_ix (ha : Ev ta σ H (.ref p)) (hb : Ev tb σ H (.int i)) (h : H p = some (.tup xs)) (hi : atI xs i = some v) : Ev (tOp (rIxT K) ta tb) σ H v := ev_op ha hb (rv_ixT (st_of h) hi)
theorem e_il (ha : Ev ta σ H (.ref p)) (hb : Ev tb σ H (.int i)) (h : H p = some (.lst xs)) (hi : atI xs i = some v) : Ev (tOp (rIxL K) ta tb) σ H v := ev_op ha hb (rv_ixL (sq_of h) hi)
theorem e_lenT (ha : Ev ta σ H (.ref p)) (h : H p = some (.tup xs)) : Ev (tCB (rLenS K) (tCons ta tNil)) σ H (.int (xs.length : Int)) := fun H1 e Q q =>
  ha H1 e _ fun H2 e2 => ⟨p, xs, rfl, Or.inr (ex_t (e.trans e2) (st_of h)), q H2 e2⟩
theorem e_lenL (ha : Ev ta σ H (.ref p)) (h : H p = some (.lst xs)) : Ev (tCB (rLenS K) (tCons ta tNil)) σ H (.int (xs.length : Int)) := ev_len ha (sq_of h)
theorem at_ref {as : List Addr} {n : Nat} {a : Addr} (h : as[n]? = some a) : atI (as.map V.ref) (n : Int) = some (.ref a) := atI_nat (by rw [List.getElem?_map, h]; rfl)
theorem e_pl (ha : Ev ta σ H (.int i)) (hb : Ev tb σ H (.int j)) : Ev (tOp rPl ta tb) σ H (.int (i + j)) := ev_op ha hb rv_I0
theorem e_mi (ha : Ev ta σ H (.int i)) (hb : Ev tb σ H (.int j)) : Ev (tOp rMi ta tb) σ H (.int (i - j)) := ev_op ha hb rv_I0
theorem e_ti (ha : Ev ta σ H (.int i)) (hb : Ev tb σ H (.int j)) (h : CMul i j) : Ev (tOp rTi ta tb) σ H (.int (i * j)) := ev_op ha hb (rv_I h)
theorem e_mo (ha : Ev ta σ H (.int i)) (hb : Ev tb σ H (.int j)) (h : 0 < j) : Ev (tOp rMo ta tb) σ H (.int (i % j)) := ev_op ha hb (rv_I h)
theorem e_or {m n : Nat} (ha : Ev ta σ H (.int (m : Int))) (hb : Ev tb σ H (.int (n : Int))) : Ev (tOp rOr ta tb) σ H (.int ((m ||| n : Nat) : Int)) := by
  have h : Ev (tOp rOr ta tb) σ H (.int (Builtin.bitOr (m : Int) (n : Int))) := ev_op ha hb rv_I0
  rw [_root_.Bits.bitOr_pp (Int.natCast_nonneg _) (Int.natCast_nonneg _)] at h
  simpa using h
theorem e_an {m n : Nat} (ha : Ev ta σ H (.int (m : Int))) (hb : Ev tb σ H (.int (n : Int))) : Ev (tOp rAn ta tb) σ H (.int ((m &&& n : Nat) : Int)) := by
  have h : Ev (tOp rAn ta tb) σ H (.int (Builtin.bitAnd (m : Int) (n : Int))) := ev_op ha hb rv_I0
  rw [bitAnd_pp (Int.natCast_nonneg _) (Int.natCast_nonneg _)] at h
  simpa using h
/-- w >> k & 1 -/
theorem e_bit {m k : Nat} (ha : Ev ta σ H (.int (m : Int))) (hb : Ev tb σ H (.int (k : Int))) : Ev (tOp rAn (tOp rSr ta tb) (tC (.int 1))) σ H (.int (if m.testBit k then 1 else 0)) := by
  have h1 : Ev (tOp rSr ta tb) σ H (.int ((m / 2 ^ k : Nat) : Int)) := by
    have h : Ev (tOp rSr ta tb) σ H (.int ((m : Int) / 2 ^ (k : Int).toNat)) := ev_op ha hb (rv_I (Int.natCast_nonneg k))
    rw [Int.toNat_natCast] at h
    have e : (m : Int) / 2 ^ k = ((m / 2 ^ k : Nat) : Int) := by
      rw [Int.natCast_ediv, Int.natCast_pow]
      rfl
    rw [e] at h
    exact h
  have h2 := e_an (tb := tC (.int 1)) (n := 1) h1 ev_c
  have e : m / 2 ^ k &&& 1 = if m.testBit k then 1 else 0 := by
    have e1 : m.testBit k = decide (m / 2 ^ k % 2 = 1) := Nat.testBit_eq_decide_div_mod_eq
    rw [e1, Nat.and_one_is_mod]
    rcases Nat.mod_two_eq_zero_or_one (m / 2 ^ k) with z | z <;> rw [z] <;> rfl
  rw [e] at h2
  cases hb : m.testBit k <;> rw [hb] at h2 <;> exact h2
theorem t_eqI (ha : Ev ta σ H (.int i)) (hb : Ev tb σ H (.int j)) : EvT (tTest (tOp rEq ta tb)) σ H (decide (i = j)) := by
  have h := et_test (ev_op ha hb (rv_eq rfl))
  have e : decide (V.int i = V.int j) = decide (i = j) := by
    by_cases z : i = j
    · rw [z, decide_eq_true rfl, decide_eq_true rfl]
    · rw [decide_eq_false z, decide_eq_false fun q => z (V.int.inj q)]
  rw [e] at h
  exact h
theorem t_neI (ha : Ev ta σ H (.int i)) (hb : Ev tb σ H (.int j)) : EvT (tTest (tOp rNe ta tb)) σ H (!decide (i = j)) := by
  have h := et_test (ev_op ha hb (rv_ne rfl))
  have e : decide (V.int i = V.int j) = decide (i = j) := by
    by_cases z : i = j
    · rw [z, decide_eq_true rfl, decide_eq_true rfl]
    · rw [decide_eq_false z, decide_eq_false fun q => z (V.int.inj q)]
  rw [e] at h
  exact h
theorem t_eqS {a b : Str} (ha : Ev ta σ H (.str a)) (hb : Ev tb σ H (.str b)) : EvT (tTest (tOp rEq ta tb)) σ H (decide (a = b)) := by
  have h := et_test (ev_op ha hb (rv_eq rfl))
  have e : decide (V.str a = V.str b) = decide (a = b) := by
    by_cases z : a = b
    · rw [z, decide_eq_true rfl, decide_eq_true rfl]
    · rw [decide_eq_false z, decide_eq_false fun q => z (V.str.inj q)]
  rw [e] at h
  exact h
theorem t_lt (ha : Ev ta σ H (.int i)) (hb : Ev tb σ H (.int j)) : EvT (tTest (tOp rLt ta tb)) σ H (decide (i < j)) := et_test (ev_op ha hb rv_I0)
theorem t_le (ha : Ev ta σ H (.int i)) (hb : Ev tb σ H (.int j)) : EvT (tTest (tOp rLe ta tb)) σ H (decide (i ≤ j)) := et_test (ev_op ha hb rv_I0)
theorem t_gr (ha : Ev ta σ H (.int i)) (hb : Ev tb σ H (.int j)) : EvT (tTest (tOp rGr ta tb)) σ H (decide (j < i)) := et_test (ev_op ha hb rv_I0)
theorem t_gq (ha : Ev ta σ H (.int i)) (hb : Ev tb σ H (.int j)) : EvT (tTest (tOp rGq ta tb)) σ H (decide (j ≤ i)) := et_test (ev_op ha hb rv_I0)
theorem ev_same (h : Ev te σ H v) (e : v = z) : Ev te σ H z := e ▸ h
/-! ### the program's data -/
theorem boxes_at {b : Addr} {B : Boxes} {x : Nat} (h : BoxesAt H b B) (hx : x < B.length) : ∃ (as : List V) (a q : Addr) (nm : Str), H b = some (.tup as) ∧ as.length = B.length ∧ atI as (x : Int) = some (.ref a) ∧ H a = some (.tup [.str nm, .ref q]) ∧ H q = some (.tup ((B.getD x []).map V.int)) := by
  obtain ⟨as, h1, h2, h3⟩ := h
  have hx2 : x < as.length := by omega
  obtain ⟨nm, q, h4, h5⟩ := h3 x as[x] (List.getElem?_eq_getElem hx2)
  exact ⟨as.map V.ref, as[x], q, nm, h1, by rw [List.length_map]; exact h2, at_ref (List.getElem?_eq_getElem hx2), h4, h5⟩
/-- len(boxes[x][1]) -/
theorem e_size {b : Addr} {B : Boxes} {x : Nat} (ha : Ev ta σ H (.ref b)) (hb : Ev tb σ H (.int (x : Int))) (h : BoxesAt H b B) (hx : x < B.length) :
    Ev (tCB (rLenS K) (tCons (tOp (rIxT K) (tOp (rIxT K) ta tb) (tC (.int 1))) tNil)) σ H (.int (sz B x : Nat)) := by
  obtain ⟨as, a, q, nm, h1, _, h2, h3, h4⟩ := boxes_at h hx
  have h := e_lenT (K := K) (e_ix (K := K) (e_ix (K := K) ha hb h1 h2) (tb := tC (.int 1)) ev_c h3 rfl) h4
  rw [List.length_map] at h
  exact h
theorem prog_at {P : Prog} (h : ProgAt H p P) : ∃ (bx rw : Addr), H p = some (.tup [.ref bx, .ref rw]) ∧ BoxesAt H bx P.boxes ∧ RowsAt H rw P.rows := h
theorem rows_at {rw : Addr} {P : Prog} {r : Nat} (h : RowsAt H rw P.rows) (hr : r < P.rows.length) : ∃ (as : List V) (a pl : Addr) (nm : Str), H rw = some (.tup as) ∧ as.length = P.rows.length ∧ atI as (r : Int) = some (.ref a) ∧
    H a = some (.tup [.str nm, .int (rk P r : Nat), .ref pl]) ∧ PlacesAt H pl (plc P r) := by
  obtain ⟨as, h1, h2, h3⟩ := h
  have hx2 : r < as.length := by omega
  have e : P.rows[r]? = some P.rows[r] := List.getElem?_eq_getElem hr
  obtain ⟨nm, pl, h4, h5⟩ := h3 r as[r] P.rows[r] (List.getElem?_eq_getElem hx2) e
  refine ⟨as.map V.ref, as[r], pl, nm, h1, by rw [List.length_map]; exact h2, at_ref (List.getElem?_eq_getElem hx2), ?_, ?_⟩
  · have e1 : rk P r = P.rows[r].rank := by
      unfold rk
      rw [e]
    rw [e1]
    exact h4
  · have e1 : plc P r = P.rows[r].places := by
      unfold plc
      rw [e]
    rw [e1]
    exact h5
theorem places_at {pl : Addr} {ps : List (Deed × Nat)} {i : Nat} {x : Deed × Nat} (h : PlacesAt H pl ps) (hi : ps[i]? = some x) : ∃ (qs : List V) (q da : Addr), H pl = some (.tup qs) ∧ qs.length = ps.length ∧ atI qs (i : Int) = some (.ref q) ∧
    H q = some (.tup [.ref da, .int (x.2 : Nat)]) ∧ DeedAt H da x.1 := by
  obtain ⟨qs, h1, h2, h3⟩ := h
  have hx2 : i < qs.length := by
    have := (List.getElem?_eq_some_iff.mp hi).1
    omega
  obtain ⟨da, h4, h5⟩ := h3 i qs[i] x (List.getElem?_eq_getElem hx2) hi
  exact ⟨qs.map V.ref, qs[i], da, h1, by rw [List.length_map]; exact h2, at_ref (List.getElem?_eq_getElem hx2), h4, h5⟩
/-- rows = program[1]: its reading -/
theorem e_rows {P : Prog} {rw bx : Addr} (ha : Ev ta σ H (.ref p)) (h : H p = some (.tup [.ref bx, .ref rw])) : Ev (tOp (rIxT K) ta (tC (.int 1))) σ H (.ref rw) := e_ix ha ev_c h rfl
/-- rows[r][1] -/
theorem e_rank {P : Prog} {rw : Addr} {r : Nat} (ha : Ev ta σ H (.ref rw)) (hb : Ev tb σ H (.int (r : Int))) (h : RowsAt H rw P.rows) (hr : r < P.rows.length) : Ev (tOp (rIxT K) (tOp (rIxT K) ta tb) (tC (.int 1))) σ H (.int (rk P r : Nat)) := by
  obtain ⟨as, a, pl, nm, h1, _, h2, h3, _⟩ := rows_at h hr
  exact e_ix (e_ix ha hb h1 h2) ev_c h3 rfl
end
end Bn
set_option Elab.async false
set_option linter.all false
set_option maxRecDepth 100000
set_option maxHeartbeats 4000000
namespace Bn
open PySem PySem.Spec PyProof.Rows L2 Evl
section
variable {K : PySem.W.Frag} {σ : L2.St} {H H' : Hp} {ta tb te tx : TE} {vs : List V} {Q : VK} {E : XK}
theorem t_yes : EvT tYes σ H true := fun H1 _ _ q => q H1 (Ex.refl H1)
theorem e_sum {ns : List Int} (h : EvL te σ H (ns.map V.int)) : Ev (tCB (rSum K) (tCons te tNil)) σ H (.int ns.sum) := fun H1 e Q q =>
  h H1 e _ fun p H2 _ e2 hp => ⟨p, ns, rfl, sq_of hp, q H2 e2⟩
theorem given_all (n : Nat) (v : Nat → V) : given n (fun _ => true) v = (List.range n).map v := by
  unfold given
  rw [List.filter_eq_self.mpr fun _ _ => rfl]
theorem off_succ {B : Boxes} {x : Nat} (h : x < B.length) : off B (x + 1) = off B x + sz B x := by
  unfold off sz
  rw [List.take_succ_eq_append_getElem h, List.map_append, List.sum_append, List.getD_eq_getElem?_getD, List.getElem?_eq_getElem h]
  simp
theorem off_sum {B : Boxes} : ∀ {x : Nat}, x ≤ B.length → ((List.range x).map fun k => ((sz B k : Nat) : Int)).sum = (off B x : Nat)
  | 0, _ => by simp [off]
  | x + 1, h => by
    rw [List.range_succ, List.map_append, List.sum_append, off_sum (by omega), off_succ (by omega)]
    simp
theorem map_nV (l : List Nat) : nV l = (l.map fun n => ((n : Nat) : Int)).map V.int := by
  unfold nV
  rw [List.map_map]
  rfl
theorem off_le {B : Boxes} (h : BOk B) {x : Nat} (hx : x ≤ B.length) : off B x ≤ 16 := by
  unfold off
  have h1 : ∀ l : List (List Int), (∀ s ∈ l, s.length ≤ 2) → (l.map List.length).sum ≤ 2 * l.length := by
    intro l
    induction l with
    | nil => intro _; simp
    | cons a r ih =>
      intro hl
      have := hl a (by simp)
      have := ih fun s hs => hl s (by simp [hs])
      rw [List.map_cons, List.sum_cons, List.length_cons]
      omega
  have h2 := h1 (B.take x) fun s hs => (h.2.2 s (List.mem_of_mem_take hs)).2
  rw [List.length_take] at h2
  have := h.2.1
  omega
theorem pure_psizeof (h : sp_psizeof K vs H Q E) : t_psizeof K { nx := fun _ H' => Q .non H', rt := Q } (L2.start n_psizeof vs) H := by
  obtain ⟨_, b, B, x, rfl, hB, hx, k⟩ := h
  exact s_ret (e_size (ev_var rfl) (ev_var rfl) hB hx) k
theorem c_psizeof {b : Addr} {B : Boxes} {x : Nat} (hB : BoxesAt H b B) (hx : x < B.length) : SpV (sp_psizeof K) [.ref b, .int (x : Int)] H (.int (sz B x : Nat)) := fun H1 e Q q E => ⟨rfl, b, B, x, rfl, hB.keep (.of e), hx, q⟩
theorem pure_pcellsof (h : sp_pcellsof K vs H Q E) : t_pcellsof K { nx := fun _ H' => Q .non H', rt := Q } (L2.start n_pcellsof vs) H := by
  obtain ⟨_, b, B, x, rfl, hB, hbo, hx, k⟩ := h
  have h8 := hbo.2.1
  have hs : EvL (tLc (iRng1 (tCons (tVar 1) tNil)) (gName 3) tYes (tCall (sp_psizeof K) [] E0 (tCons (tVar 0) (tCons (tVar 3) tNil))) [3]) (L2.start n_pcellsof [.ref b, .int (x : Int)]) H (((List.range x).map fun k => ((sz B k : Nat) : Int)).map V.int) := by
    have h1 := el_lcR1 (σ := L2.start n_pcellsof [.ref b, .int (x : Int)]) (H := H) (ta := tCons (tVar 1) tNil) (j := 3) (vs := [3]) (n := (x : Int)) (t := tYes) (te := tCall (sp_psizeof K) [] E0 (tCons (tVar 0) (tCons (tVar 3) tNil)))
      (fun _ => true) (fun i => .int (sz B i : Nat)) (ea_cons (ev_var rfl) ea_nil) (by omega) (fun _ => rfl) (fun i H1 e hi => t_yes)
      (fun i H1 e hi _ => ev_call (ea_cons (ev_var rfl) (ea_cons (ev_var rfl) ea_nil)) (c_psizeof (hB.keep (.of e)) (by omega)))
    rw [given_all, Int.toNat_natCast] at h1
    rw [List.map_map]
    exact h1
  refine q_asg (e_sum hs) fun H1 e1 => ?_
  rw [off_sum (by omega)]
  have hl : EvL (tLc (iRng1 (tCons (tCall (sp_psizeof K) [] E0 (tCons (tVar 0) (tCons (tVar 1) tNil))) tNil)) (gName 3) tYes (tOp rPl (tVar 2) (tVar 3)) [3]) [some (.ref b), some (.int (x : Int)), some (.int ((off B x : Nat) : Int)), none] H1 (nV (cellsL B x)) := by
    have h1 := el_lcR1 (σ := [some (.ref b), some (.int (x : Int)), some (.int ((off B x : Nat) : Int)), none]) (H := H1) (ta := tCons (tCall (sp_psizeof K) [] E0 (tCons (tVar 0) (tCons (tVar 1) tNil))) tNil) (j := 3) (vs := [3]) (n := ((sz B x : Nat) : Int)) (t := tYes) (te := tOp rPl (tVar 2) (tVar 3))
      (fun _ => true) (fun i => .int ((off B x + i : Nat) : Int)) (ea_cons (ev_call (ea_cons (ev_var rfl) (ea_cons (ev_var rfl) ea_nil)) (c_psizeof (hB.keep (.of e1)) hx)) ea_nil) (by have := sz_le0 hbo.2.2 x; omega) (fun _ => rfl) (fun i H1 e hi => t_yes)
      (fun i H1 e hi _ => ev_same (e_pl (ev_var rfl) (ev_var rfl)) (by rw [Int.natCast_add]))
    rw [given_all, Int.toNat_natCast] at h1
    unfold nV cellsL
    rw [List.map_map]
    exact h1
  exact s_retL hl fun p H2 hp e2 h2 => k p H2 (fresh_back e1 hp) (e1.trans e2) h2
theorem pure_pwordat (h : sp_pwordat K vs H Q E) : t_pwordat K { nx := fun _ H' => Q .non H', rt := Q } (L2.start n_pwordat vs) H := by
  obtain ⟨_, p, P, r, pl, rfl, hP, hr, hpl, k⟩ := h
  obtain ⟨bx, rw, h1, h2, h3⟩ := prog_at hP
  obtain ⟨as, a, pa, nm, h4, _, h5, h6, h7⟩ := rows_at h3 hr
  refine q_asg (e_ix (e_ix (e_ix (ev_var rfl) ev_c h1 rfl) (ev_var rfl) h4 h5) ev_c h6 rfl) fun H1 e1 => ?_
  obtain ⟨qs, h8, h9, h10⟩ := id h7
  have hlen : ((qs.map V.ref).length : Int) = ((ln P r : Nat) : Int) := by
    rw [List.length_map, h9]
    rfl
  refine q_when (t_eqI (ev_var rfl) (e_lenT (ev_var rfl) (e1 _ _ h8))) (fun hb H2 e2 => ?_) (fun hb H2 e2 => ?_)
  · refine s_ret ev_c fun H3 e3 => ?_
    have hb := of_decide_eq_true hb
    have e0 : wAt P r pl = 0 := by
      unfold wAt
      rw [List.getElem?_eq_none (by unfold ln at hlen; omega)]
    have := k H3 ((e1.trans e2).trans e3)
    rw [e0] at this
    exact this
  · have hb := of_decide_eq_false hb
    have hlt : pl < (plc P r).length := by
      unfold ln at hlen hpl
      omega
    obtain ⟨qs, q, da, g1, _, g2, g3, _⟩ := places_at h7 (List.getElem?_eq_getElem hlt)
    have ew : wAt P r pl = (plc P r)[pl].2 := by
      unfold wAt
      rw [List.getElem?_eq_getElem hlt]
    refine s_ret (e_ix (e_ix (ev_var rfl) (ev_var rfl) ((e1.trans e2) _ _ g1) g2) ev_c ((e1.trans e2) _ _ g3) rfl) fun H3 e3 => ?_
    have := k H3 ((e1.trans e2).trans e3)
    rw [ew] at this
    exact this
/-! ### draws -/
theorem pure_draw (h : sp_draw K vs H Q E) : t_draw K { nx := fun _ H' => Q .non H', rt := Q } (L2.start n_draw vs) H := by
  obtain ⟨_, a, ns, k, m, rfl, hS, hk0, hk1, hm, kk⟩ := h
  refine q_asg ev_c fun H1 e1 => ?_
  have hlenE : Ev (tCB (rLenS K) (tCons (tVar 0) tNil)) [some (.ref a), some (.int k), some (.int m), some (.int 0)] H1 (.int ((ns.map V.int).length : Int)) := ev_len (ev_var rfl) (ex_l e1 hS)
  -- the rest, from any cell below 1000003
  have fin : ∀ (c : Int) (H2 : Hp), 0 ≤ c → c < 1000003 → Ex H H2 → tRet (tOp rMo (tOp rDi (tOp rMo (tOp rTi (tOp rMo (tOp rTi (tOp rPl (tVar 3) (tC (.int 1))) (tOp rPl (tOp rPl (tOp rTi (tVar 1) (tVar 1)) (tVar 1)) (tC (.int 41)))) (tC (.int 999983))) (tC (.int 48271))) (tC (.int 2147483647))) (tC (.int 11))) (tVar 2))
      { nx := fun _ H' => Q .non H', rt := Q } [some (.ref a), some (.int k), some (.int m), some (.int c)] H2 := by
    intro c H2 hc0 hc1 e2
    refine s_ret (e_mo (ev_op (e_mo (e_ti (e_mo (e_ti (e_pl (ev_var rfl) ev_c) (e_pl (e_pl (e_ti (ev_var rfl) (ev_var rfl) (.inl (by omega))) (ev_var rfl)) ev_c) (.inl (by omega))) ev_c (by decide)) ev_c (.inr (by decide))) ev_c (by decide)) ev_c (rv_I ⟨by decide, by decide⟩)) (ev_var rfl) hm) fun H3 e3 => ?_
    exact kk _ H3 (Int.emod_nonneg _ (by omega)) (Int.emod_lt_of_pos _ hm) (e2.trans e3)
  refine q_when (t_gr hlenE ev_c) (fun hb H2 e2 => ?_) (fun hb H2 e2 => fin 0 H2 (by decide) (by decide) (e1.trans e2))
  have hb := of_decide_eq_true hb
  have hi0 : 0 ≤ k % ((ns.map V.int).length : Int) := Int.emod_nonneg _ (by omega)
  have hi1 : k % ((ns.map V.int).length : Int) < ((ns.map V.int).length : Int) := Int.emod_lt_of_pos _ hb
  obtain ⟨x, hx, hat⟩ := at_in hi0 hi1
  obtain ⟨n, hn, rfl⟩ := List.mem_map.mp hx
  refine s_asg (e_mo (ev_op (ev_var rfl) (e_mo (ev_var rfl) (hlenE.mono e2) hb) (rv_ixL (ex_l (e1.trans e2) hS) hat)) ev_c (by decide)) fun H3 e3 => ?_
  exact fin _ H3 (Int.emod_nonneg _ (by decide)) (Int.emod_lt_of_pos _ (by decide)) ((e1.trans e2).trans e3)
/-- draw(script, k, m): some number below m -/
theorem e_draw {a : Addr} {ns : List Int} {k m : Int} {tc : TE} (ha : Ev ta σ H (.ref a)) (hb : Ev tb σ H (.int k)) (hc : Ev tc σ H (.int m)) (hS : SqL K H a (ns.map V.int)) (hk : 0 ≤ k ∧ k ≤ 20000) (hm : 0 < m) :
    EvI (tCall (sp_draw K) [] E0 (tCons ta (tCons tb (tCons tc tNil)))) σ H fun d => 0 ≤ d ∧ d < m :=
  er_call (ea_cons ha (ea_cons hb (ea_cons hc ea_nil))) fun H1 e Q q E => ⟨rfl, a, ns, k, m, rfl, ex_l e hS, hk.1, hk.2, hm, fun d H' h0 h1 e' => q _ H' e' ⟨d, rfl, h0, h1⟩⟩
end
end Bn
set_option Elab.async false
set_option linter.all false
set_option maxRecDepth 100000
set_option maxHeartbeats 4000000
namespace Bn
open PySem PySem.Spec PyProof.Rows L2 Evl
abbrev EvN (te : TE) (σ : L2.St) (H : Hp) (φ : Nat → Prop) : Prop := Er te σ H fun v _ => ∃ n : Nat, v = .int (n : Int) ∧ φ n
section
variable {K : PySem.W.Frag} {σ : L2.St} {H H' : Hp} {ta tb tc te tx : TE} {t u : TT} {vs xs : List V} {Q : VK} {E : XK} {D : Ends} {tu tw tz : TS} {Φ Ψ : V → Hp → Prop} {v : V} {p l : Addr}
theorem en_of_ei {φ : Int → Prop} {ψ : Nat → Prop} (h : EvI te σ H φ) (k : ∀ i, φ i → 0 ≤ i ∧ ψ i.toNat) : EvN te σ H ψ := er_imp h fun v _ _ ⟨i, ev, f⟩ => ⟨i.toNat, by rw [ev, Int.toNat_of_nonneg (k i f).1], (k i f).2⟩
theorem ei_of_en {φ : Int → Prop} {ψ : Nat → Prop} (h : EvN te σ H ψ) (k : ∀ n : Nat, ψ n → φ (n : Int)) : EvI te σ H φ := er_imp h fun v _ _ ⟨n, ev, f⟩ => ⟨(n : Int), ev, k n f⟩
theorem q_asgN {i : Nat} {φ : Nat → Prop} (h : EvN te σ H φ) (k : ∀ (n : Nat) H1, Ex H H1 → φ n → tz D (σ.set i (some (.int (n : Int)))) H1) : tSeq (tAsg te (gName i)) tz D σ H := q_asgR h fun v H1 e ⟨n, ev, f⟩ => by
  subst ev
  exact k n H1 e f
theorem s_retN {φ : Nat → Prop} (h : EvN te σ H φ) (k : ∀ (n : Nat) H1, Ex H H1 → φ n → D.rt (.int (n : Int)) H1) : tRet te D σ H := s_retR h fun v H1 e ⟨n, ev, f⟩ => by
  subst ev
  exact k n H1 e f
theorem s_appR (hl : H l = some (.lst xs)) (ha : Ev ta σ H (.ref l)) (h : Er te σ H Φ) (hz : xs.length < 100000) (k : ∀ v H1, Ex H H1 → Φ v H1 → H1 l = some (.lst xs) → D.nx σ (upd H1 l (.lst (xs ++ [v])))) :
    tDrop (tBM K "list" rAppend ta (tCons te tNil)) D σ H := ha H (Ex.refl H) _ fun H1 e1 =>
  ⟨Or.inl ⟨rfl, xs, sq_of (e1 l _ hl)⟩, h H1 e1 _ fun v H2 e2 f => ⟨l, xs, v, rfl, rfl, e2 l _ (e1 l _ hl), sz_lt hz, k v H2 (e1.trans e2) f (e2 l _ (e1 l _ hl))⟩⟩
theorem q_appR (hl : H l = some (.lst xs)) (ha : Ev ta σ H (.ref l)) (h : Er te σ H Φ) (hz : xs.length < 100000) (k : ∀ v H1, Ex H H1 → Φ v H1 → H1 l = some (.lst xs) → tz D σ (upd H1 l (.lst (xs ++ [v])))) :
    tSeq (tDrop (tBM K "list" rAppend ta (tCons te tNil))) tz D σ H := s_appR (D := { D with nx := tz D }) hl ha h hz k
theorem e_number {a : Addr} {ns : List Int} {k : Int} (ha : Ev ta σ H (.ref a)) (hb : Ev tb σ H (.int k)) (hS : SqL K H a (ns.map V.int)) (hk : 0 ≤ k ∧ k ≤ 15000) :
    EvI (tCall (sp_number K) [] E0 (tCons ta (tCons tb tNil))) σ H fun _ => True :=
  er_call (ea_cons ha (ea_cons hb ea_nil)) fun H1 e Q q E => ⟨rfl, a, ns, k, rfl, ex_l e hS, hk.1, hk.2, fun d H' e' => q _ H' e' ⟨d, rfl, trivial⟩⟩
theorem pure_number (h : sp_number K vs H Q E) : t_number K { nx := fun _ H' => Q .non H', rt := Q } (L2.start n_number vs) H := by
  obtain ⟨_, a, ns, k, rfl, hS, hk0, hk1, kk⟩ := h
  refine q_asgI (e_draw (ev_var rfl) (ev_var rfl) ev_c hS ⟨hk0, by omega⟩ (by decide)) fun d H1 e1 hd => ?_
  refine q_asgL (el_lst (ea_cons (e_mi (e_mo (ev_var rfl) ev_c (by decide)) ev_c) (ea_cons (e_mi (ev_op ev_c ev_c (rv_I ⟨by decide, by decide, by decide⟩)) (e_mo (ev_var rfl) ev_c (by decide)))
    (ea_cons (e_mi (e_mo (ev_var rfl) ev_c (by decide)) (ev_op ev_c ev_c (rv_I ⟨by decide, by decide, by decide⟩))) (ea_cons (e_ti (ev_var rfl) ev_c (.inr (by decide))) ea_nil)))) (by simp)) fun p H2 hp e2 h2 => ?_
  refine s_retR (er_il (χ := fun v => ∃ i, v = .int i) (er_lstAt (ev_var rfl) h2 (by
    intro x hx
    simp only [List.mem_cons, List.not_mem_nil, or_false] at hx
    rcases hx with rfl | rfl | rfl | rfl <;> exact ⟨_, rfl⟩)) (ei_imp (e_draw (ev_var rfl) (e_pl (ev_var rfl) ev_c) ev_c (ex_l (e1.trans e2) hS) ⟨by omega, by omega⟩ (by decide)) fun i hi => ⟨hi.1, hi.2⟩)) fun v H3 e3 ⟨i, hv⟩ => ?_
  subst hv
  exact kk i H3 ((e1.trans e2).trans e3)
theorem pure_rank (h : sp_rank K vs H Q E) : t_rank K { nx := fun _ H' => Q .non H', rt := Q } (L2.start n_rank vs) H := by
  obtain ⟨_, a, ns, r, rfl, hS, hr0, hr1, kk⟩ := h
  refine q_asgI (e_draw (ev_var rfl) (e_pl ev_c (ev_var rfl)) ev_c hS ⟨by omega, by omega⟩ (by decide)) fun d H1 e1 hd => ?_
  have hdi : EvI (tOp rDi (tVar 2) (tC (.int 3))) [some (.ref a), some (.int r), some (.int d)] H1 fun i => 0 ≤ i ∧ i ≤ 2 := ei_of (ev_op (ev_var rfl) ev_c (rv_I ⟨by decide, by decide⟩)) (by omega)
  have hq : Ev (tOp rDi (tVar 2) (tC (.int 3))) [some (.ref a), some (.int r), some (.int d)] H1 (.int (d / 3)) := ev_op (ev_var rfl) ev_c (rv_I ⟨by decide, by decide⟩)
  refine s_retR (er_il (χ := fun v => ∃ n : Nat, v = .int (n : Int) ∧ 1 ≤ n ∧ n ≤ 9) (er_lstN (el_lst (ea_cons (e_pl ev_c (ev_var rfl)) (ea_cons (e_pl (ev_var rfl) hq) (ea_cons (e_mi ev_c (ev_var rfl)) (ea_cons (e_pl ev_c hq) ea_nil)))) (by simp)) (by
    intro x hx
    simp only [List.mem_cons, List.not_mem_nil, or_false] at hx
    rcases hx with rfl | rfl | rfl | rfl
    · exact ⟨(1 + d).toNat, by rw [Int.toNat_of_nonneg (by omega)], by omega, by omega⟩
    · exact ⟨(r + d / 3).toNat, by rw [Int.toNat_of_nonneg (by omega)], by omega, by omega⟩
    · exact ⟨(9 - r).toNat, by rw [Int.toNat_of_nonneg (by omega)], by omega, by omega⟩
    · exact ⟨(1 + d / 3).toNat, by rw [Int.toNat_of_nonneg (by omega)], by omega, by omega⟩))
    (ei_imp (e_draw (ev_var rfl) ev_c ev_c (ex_l e1 hS) (by decide) (by decide)) fun i hi => ⟨hi.1, hi.2⟩)) fun v H3 e3 ⟨n, hv, h1, h2⟩ => ?_
  subst hv
  exact kk n H3 h1 h2 (e1.trans e3)
theorem e_shl {i : Int} {j : Nat} (ha : Ev ta σ H (.int i)) (hb : Ev tb σ H (.int (j : Int))) (hj : j ≤ 100) (hi : i.natAbs < 2 ^ 64) : Ev (tOp rSl ta tb) σ H (.int (i * 2 ^ j)) := by
  have h : Ev (tOp rSl ta tb) σ H (.int (i * 2 ^ (j : Int).toNat)) := ev_op ha hb (rv_I ⟨by omega, by omega, hi⟩)
  rw [Int.toNat_natCast] at h
  exact h
theorem pow2_int (n : Nat) : (1 : Int) * 2 ^ n = ((2 ^ n : Nat) : Int) := by
  rw [Int.one_mul, Int.natCast_pow]
  rfl
theorem pow2_pos (n : Nat) : (0 : Int) < 1 * 2 ^ n := by
  rw [pow2_int]
  exact Int.natCast_pos.mpr (Nat.two_pow_pos n)
theorem pure_shut (h : sp_shut K vs H Q E) : t_shut K { nx := fun _ H' => Q .non H', rt := Q } (L2.start n_shut vs) H := by
  obtain ⟨_, a, ns, k, n, rfl, hS, hk0, hk1, hn, kk⟩ := h
  have h64 : 2 ^ n ≤ 64 := Nat.le_trans (Nat.pow_le_pow_right (by decide) hn) (by decide)
  have hp := pow2_int n
  refine q_asgN (φ := fun m => m < 2 ^ n) (en_of_ei (e_draw (ev_var rfl) (ev_var rfl) (e_shl ev_c (ev_var rfl) (by omega) (by decide)) hS ⟨hk0, by omega⟩ (pow2_pos n)) fun i hi => ⟨hi.1, by omega⟩) fun m H1 e1 hm => ?_
  refine q_asgN (φ := fun m => m < 2 ^ n) (en_of_ei (e_draw (ev_var rfl) (e_pl (ev_var rfl) ev_c) (e_shl ev_c (ev_var rfl) (by omega) (by decide)) (ex_l e1 hS) ⟨by omega, by omega⟩ (pow2_pos n)) fun i hi => ⟨hi.1, by omega⟩) fun m2 H2 e2 hm2 => ?_
  have hand : m &&& m2 < 2 ^ n := Nat.lt_of_le_of_lt Nat.and_le_left hm
  have h1 : EvN (tOp (rIxL K) (tLst (tCons (tC (.int 0)) (tCons (tOp rAn (tVar 3) (tVar 4)) (tCons (tVar 3) tNil)))) (tCall (sp_draw K) [] E0 (tCons (tVar 0) (tCons (tC (.int 5)) (tCons (tC (.int 3)) tNil)))))
      [some (.ref a), some (.int k), some (.int (n : Int)), some (.int (m : Int)), some (.int (m2 : Int))] H2 fun i => i < 64 := by
    refine er_il (er_lstN (el_lst (ea_cons ev_c (ea_cons (e_an (ev_var rfl) (ev_var rfl)) (ea_cons (ev_var rfl) ea_nil))) (by simp)) (by
      intro x hx
      simp only [List.mem_cons, List.not_mem_nil, or_false] at hx
      rcases hx with rfl | rfl | rfl
      · exact ⟨0, rfl, by decide⟩
      · exact ⟨_, rfl, by omega⟩
      · exact ⟨_, rfl, by omega⟩)) (ei_imp (e_draw (ev_var rfl) ev_c ev_c (ex_l (e1.trans e2) hS) (by decide) (by decide)) fun i hi => ⟨hi.1, hi.2⟩)
  refine s_retN (φ := fun i => i < 128) (en_of_ei (φ := fun i => 0 ≤ i ∧ i < 128) (ei_op (ei_of_en (φ := fun i => 0 ≤ i ∧ i < 64) h1 fun n hn => by omega) (ei_of (φ := fun j => j = 1) ev_c rfl) fun i j hi hj => ?_) fun i hi => by omega) fun x H3 e3 hx => kk x H3 hx ((e1.trans e2).trans e3)
  subst hj
  have e0 : i * 2 ^ (1 : Int).toNat = i * 2 := rfl
  rw [e0]
  exact ⟨⟨by decide, by decide, by omega⟩, by omega, by omega⟩
end
end Bn
set_option Elab.async false
set_option linter.all false
set_option maxRecDepth 100000
set_option maxHeartbeats 4000000
namespace Bn
open PySem PySem.Spec PyProof.Rows L2 Evl
section
variable {K : PySem.W.Frag} {σ : L2.St} {H H' : Hp} {ta tb tc te tx : TE} {t u : TT} {vs xs : List V} {Q : VK} {E : XK} {D : Ends} {tu tw tz : TS} {Φ Ψ : V → Hp → Prop} {v : V} {p l : Addr}
theorem at_inA {α : Type} {xs : List α} {i : Int} (h0 : 0 ≤ i) (h1 : i < (xs.length : Int)) : ∃ x, x ∈ xs ∧ atI xs i = some x := by
  have hi : i.toNat < xs.length := by omega
  have e : i = ((i.toNat : Nat) : Int) := by omega
  have h2 : atI xs ((i.toNat : Nat) : Int) = some xs[i.toNat] := atI_nat (List.getElem?_eq_getElem hi)
  rw [← e] at h2
  exact ⟨xs[i.toNat], List.getElem_mem hi, h2⟩
theorem er_txt {w : Str} {i n : Int} (hb : Ev tb σ H (.int i)) (hc : Ev tc σ H (.int n)) (hw : w.length ≤ 100) (h0 : 0 ≤ i) (h1 : i < (w.cps.toList.length : Int)) (hn : n = 1 ∨ n = 2) :
    Er (tOp rMulS (tOp rIxS (tC (.str w)) tb) tc) σ H fun v _ => ∃ u, v = .str u := by
  obtain ⟨c, _, hat⟩ := at_inA h0 h1
  have h := ev_op (tb := tb) (ev_c (σ := σ) (H := H) (v := .str w)) hb (rv_ixS (by omega) hat)
  exact er_op (Φ := fun u _ => u = V.str ⟨#[c]⟩) (Ψ := fun u _ => u = V.int n) (er_of h fun _ _ => rfl) (er_of hc fun _ _ => rfl) Mono.val (fun x y H1 e ex ey Q q => ⟨⟨#[c]⟩, n, ex, ey, hn, (by show 1 ≤ 10; decide), fun u => q _ H1 (Ex.refl H1) ⟨u, rfl⟩⟩)
theorem eu_tupV (ha : Ev ta σ H (.ref p)) (hp : H p = some (.lst xs)) : EvU (tCB (rTupS K) (tCons ta tNil)) σ H xs := fun H1 e Q q =>
  ha H1 e _ fun H2 e2 => ⟨p, xs, rfl, Or.inl ⟨sq_of (e2 p _ (e p _ hp)), fun t ht => q t _ (fresh_back e2 ht) (e2.trans (Ex.new ht)) upd_same⟩⟩
theorem eu_tupL (ha : EvL ta σ H xs) : EvU (tCB (rTupS K) (tCons ta tNil)) σ H xs := fun H1 e Q q =>
  ha H1 e _ fun p H2 _ e2 hp => ⟨p, xs, rfl, Or.inl ⟨sq_of hp, fun t ht => q t _ (fresh_back e2 ht) (e2.trans (Ex.new ht)) upd_same⟩⟩
theorem er_ofU (h : EvU te σ H xs) : Er te σ H fun v H' => ∃ q, v = .ref q ∧ H' q = some (.tup xs) := fun H1 e Q q => h H1 e _ fun p H2 _ e2 hp => q _ H2 e2 ⟨p, rfl, hp⟩
theorem mono_ref {o : HO} : Mono fun v H' => ∃ q, v = .ref q ∧ H' q = some o := fun v H1 H2 e ⟨q, h1, h2⟩ => ⟨q, h1, e q _ h2⟩
theorem cut_take (xs : List V) (n : Nat) : cutV xs none (some (n : Int)) = xs.take n := by
  unfold cutV
  rw [HT.sIx_none, HT.sIx_nat, List.drop_zero, Nat.sub_zero]
  by_cases h : n ≤ xs.length
  · rw [Nat.min_eq_left h]
  · rw [Nat.min_eq_right (by omega), List.take_of_length_le (Nat.le_refl _), List.take_of_length_le (by omega)]
theorem el_cutL {th : TE} {n : Nat} (ha : EvL ta σ H xs) (hb : Ev th σ H (.int (n : Int))) : EvL (tSl (rSlL K) ta tNoPart (tPart th)) σ H (xs.take n) := fun H1 e Q q =>
  ha H1 e _ fun p H2 hp0 e2 hp => hb H2 (e.trans e2) _ fun H3 e3 => ⟨(n : Int), rfl, p, xs, rfl, sq_of (e3 p _ hp), fun t ht => q t _ (fresh_back e2 (fresh_back e3 ht)) ((e2.trans e3).trans (Ex.new ht)) (by rw [← cut_take]; exact upd_same)⟩
theorem el_cutV {th : TE} {n : Nat} (ha : Ev ta σ H (.ref p)) (hp : H p = some (.lst xs)) (hb : Ev th σ H (.int (n : Int))) : EvL (tSl (rSlL K) ta tNoPart (tPart th)) σ H (xs.take n) := fun H1 e Q q =>
  ha H1 e _ fun H2 e2 => hb H2 (e.trans e2) _ fun H3 e3 => ⟨(n : Int), rfl, p, xs, rfl, sq_of (e3 p _ (e2 p _ (e p _ hp))), fun t ht => q t _ (fresh_back e2 (fresh_back e3 ht)) ((e2.trans e3).trans (Ex.new ht)) (by rw [← cut_take]; exact upd_same)⟩
/-! ### boxes -/
def BxL (H : Hp) (as : List Addr) (B : Boxes) : Prop := as.length = B.length ∧ ∀ (i : Nat) (a : Addr), as[i]? = some a → ∃ (nm : Str) (q : Addr), H a = some (.tup [.str nm, .ref q]) ∧ H q = some (.tup ((B.getD i []).map V.int))
theorem BxL.keep {as : List Addr} {B : Boxes} (h : BxL H as B) (t : Tk H H') : BxL H' as B := ⟨h.1, fun i a e => by
  obtain ⟨nm, q, h1, h2⟩ := h.2 i a e
  exact ⟨nm, q, t _ _ h1, t _ _ h2⟩⟩
theorem BxL.snoc {as : List Addr} {B : Boxes} {a q : Addr} {nm : Str} {st : List Int} (h : BxL H as B) (h1 : H a = some (.tup [.str nm, .ref q])) (h2 : H q = some (.tup (st.map V.int))) : BxL H (as ++ [a]) (B ++ [st]) := by
  refine ⟨by rw [List.length_append, List.length_append, h.1]; rfl, fun i b e => ?_⟩
  by_cases hi : i < as.length
  · rw [List.getElem?_append_left hi] at e
    obtain ⟨nm, q, h3, h4⟩ := h.2 i b e
    refine ⟨nm, q, h3, ?_⟩
    rw [List.getD_eq_getElem?_getD, List.getElem?_append_left (by rw [← h.1]; exact hi), ← List.getD_eq_getElem?_getD]
    exact h4
  · rw [List.getElem?_append_right (by omega)] at e
    have hi2 : i - as.length = 0 := by
      cases hz : i - as.length with
      | zero => rfl
      | succ m =>
        rw [hz] at e
        cases e
    rw [hi2] at e
    have ea : a = b := Option.some.inj e
    subst ea
    refine ⟨nm, q, h1, ?_⟩
    rw [List.getD_eq_getElem?_getD, List.getElem?_append_right (by rw [← h.1]; omega), ← h.1, hi2]
    exact h2
theorem pure_boxes (h : sp_boxes K vs H Q E) : t_boxes K { nx := fun _ H' => Q .non H', rt := Q } (L2.start n_boxes vs) H := by
  obtain ⟨_, a, ns, rfl, hS, kk⟩ := h
  refine q_asgL (el_lst ea_nil (by simp)) fun l H1 hl e1 h1 => ?_
  refine q_forE1 (φ := fun n => 1 ≤ n ∧ n ≤ 8) (er_il (χ := fun v => ∃ i, v = .int i ∧ 1 ≤ i ∧ i ≤ 8) (er_lstN (el_lst (ea_cons ev_c (ea_cons ev_c (ea_cons ev_c (ea_cons ev_c (ea_cons ev_c (ea_cons ev_c (ea_cons ev_c (ea_cons ev_c ea_nil)))))))) (by simp)) (by
    intro x hx
    simp only [List.mem_cons, List.not_mem_nil, or_false] at hx
    rcases hx with rfl | rfl | rfl | rfl | rfl | rfl | rfl | rfl <;> exact ⟨_, rfl, by decide, by decide⟩)) (ei_imp (e_draw (ev_var rfl) ev_c ev_c (ex_l e1 hS) (by decide) (by decide)) fun i hi => ⟨hi.1, hi.2⟩)) fun n H2 e2 hn => ⟨by omega, by omega, ?_⟩
  refine ⟨fun i σ' H' => ∃ (as : List Addr) (B : Boxes) (v2 v3 v4 : Option V), σ' = [some (.ref a), some (.ref l), v2, v3, v4] ∧ Ex H H' ∧ H' l = some (.lst (as.map V.ref)) ∧ BxL H' as B ∧ B.length = i ∧ ∀ s ∈ B, 1 ≤ s.length ∧ s.length ≤ 2,
    ⟨[], [], none, none, none, rfl, e1.trans e2, e2 _ _ h1, ⟨rfl, fun i a e => by cases e⟩, rfl, fun s hs => by cases hs⟩, ?_, ?_⟩
  · rintro i σ' H' hi ⟨as, B, v2, v3, v4, rfl, eH, hl', hB, hBl, hBs⟩
    have hi8 : (i : Int) < 8 := by omega
    refine q_asgR (er_lst (ear_cons (e_number (ev_var rfl) (e_pl ev_c (e_ti ev_c (ev_var rfl) (.inl (by decide)))) (ex_l eH hS) ⟨by omega, by omega⟩) Mono.val (ear_cons (e_number (ev_var rfl) (e_pl ev_c (e_ti ev_c (ev_var rfl) (.inl (by decide)))) (ex_l eH hS) ⟨by omega, by omega⟩) Mono.val ear_nil)) ?_ ?_) ?_
    · rintro _ _ ⟨v, r, rfl, _, v', r', rfl, _, rfl⟩
      simp
    · rintro _ _ _ _ h
      exact h
    rintro _ H3 e3 ⟨p, _, rfl, hp, _, _, rfl, ⟨i1, rfl, _⟩, _, _, rfl, ⟨i2, rfl, _⟩, rfl⟩
    refine q_asgN (φ := fun s => 1 ≤ s ∧ s ≤ 2) (en_of_ei (φ := fun i => 1 ≤ i ∧ i ≤ 2) (ei_op0 (φ := fun i => i = 1) (ei_of ev_c rfl) (e_draw (ev_var rfl) (e_pl ev_c (e_ti ev_c (ev_var rfl) (.inl (by decide)))) ev_c (ex_l (eH.trans e3) hS) ⟨by omega, by omega⟩ (by decide)) fun i j hi hj => by omega) fun i hi => by omega) fun s H4 e4 hs => ?_
    have hl4 := e4 _ _ (e3 _ _ hl')
    refine s_appR hl4 (ev_var rfl) (er_tup (ear_cons (er_txt (ev_var rfl) (ev_var rfl) (by decide) (by omega) (by show (i : Int) < 8; exact hi8) (by omega)) Mono.val (ear_cons (er_ofU (eu_tupL (el_cutV (ev_var rfl) (e4 _ _ hp) (ev_var rfl)))) mono_ref ear_nil)) ?_ ?_) ?_ ?_
    · rintro _ _ ⟨v, r, rfl, _, v', r', rfl, _, rfl⟩
      simp
    · rintro _ H1 H2 e ⟨v, r, rfl, hv, v', r', rfl, ⟨q, hq1, hq2⟩, rfl⟩
      exact ⟨_, _, rfl, hv, _, _, rfl, ⟨q, hq1, e _ _ hq2⟩, rfl⟩
    · rw [List.length_map, hB.1]
      omega
    rintro _ H5 e5 ⟨q, _, rfl, hq, _, _, rfl, ⟨nm, rfl⟩, _, _, rfl, ⟨z, rfl, hz⟩, rfl⟩ hl5
    have tk : Tk H' H5 := Tk.of ((e3.trans e4).trans e5)
    have tu := Tk.upd (o := .lst (as.map V.ref ++ [.ref q])) hl5
    refine ⟨as ++ [q], B ++ [([i1, i2] : List Int).take s], _, _, _, rfl, Ex.mut (((eH.trans e3).trans e4).trans e5) hl, ?_, ?_, ?_, ?_⟩
    · rw [upd_same, List.map_append]
      rfl
    · refine ((hB.keep tk).keep tu).snoc (tu _ _ hq) (tu _ _ ?_)
      rw [List.map_take]
      exact hz
    · rw [List.length_append, hBl]
      rfl
    · intro st hst
      rcases List.mem_append.mp hst with h | h
      · exact hBs st h
      · rw [List.mem_singleton.mp h, List.length_take]
        show 1 ≤ min s 2 ∧ min s 2 ≤ 2
        omega
  · rintro σ' H' ⟨as, B, v2, v3, v4, rfl, eH, hl', hB, hBl, hBs⟩
    refine s_retU (eu_tupV (ev_var rfl) hl') fun q H5 hq e5 h5 => ?_
    exact kk q B H5 (eH.trans e5) ⟨as, h5, hB.1, (hB.keep (Tk.of e5)).2⟩ ⟨by omega, by omega, hBs⟩
theorem er_boxes {a : Addr} {ns : List Int} (ha : Ev ta σ H (.ref a)) (hS : SqL K H a (ns.map V.int)) : Er (tCall (sp_boxes K) [] E0 (tCons ta tNil)) σ H fun v H' => ∃ b B, v = .ref b ∧ BoxesAt H' b B ∧ BOk B :=
  er_call (ea_cons ha ea_nil) fun H1 e Q q E => ⟨rfl, a, ns, rfl, ex_l e hS, fun b B H' e' hB hb => q _ H' e' ⟨b, B, rfl, hB, hb⟩⟩
end
end Bn
set_option Elab.async false
set_option linter.all false
set_option maxRecDepth 100000
set_option maxHeartbeats 4000000
namespace Bn
open PySem PySem.Spec PyProof.Rows L2 Evl
section
variable {K : PySem.W.Frag} {σ : L2.St} {H H' : Hp} {ta tb tc te tx : TE} {t u : TT} {vs xs : List V} {Q : VK} {E : XK} {D : Ends} {tu tw tz : TS} {Φ Ψ : V → Hp → Prop} {v : V} {p l : Addr}
theorem er_eq (h : Ev te σ H v) : Er te σ H fun u _ => u = v := er_of h fun _ _ => rfl
theorem e_nboxes {b : Addr} {B : Boxes} (ha : Ev ta σ H (.ref b)) (h : BoxesAt H b B) : Ev (tCB (rLenS K) (tCons ta tNil)) σ H (.int (B.length : Nat)) := by
  obtain ⟨as, h1, h2, _⟩ := h
  have h3 := e_lenT (K := K) ha h1
  rw [List.length_map, h2] at h3
  exact h3
theorem mem_given {n : Nat} {f : Nat → Bool} {v : Nat → V} {x : V} (h : x ∈ given n f v) : ∃ i, i < n ∧ f i = true ∧ x = v i := by
  unfold given at h
  obtain ⟨i, hi, e⟩ := List.mem_map.mp h
  obtain ⟨h1, h2⟩ := List.mem_filter.mp hi
  exact ⟨i, List.mem_range.mp h1, h2, e.symm⟩
theorem given_pos {n : Nat} {f : Nat → Bool} {v : Nat → V} {i : Nat} (h : i < n) (hf : f i = true) : 0 < (given n f v).length := by
  unfold given
  rw [List.length_map]
  exact List.length_pos_of_mem (List.mem_filter.mpr ⟨List.mem_range.mpr h, hf⟩)
theorem pure_deed (h : sp_deed K vs H Q E) : t_deed K { nx := fun _ H' => Q .non H', rt := Q } (L2.start n_deed vs) H := by
  obtain ⟨_, b, a, B, ns, k, rfl, hB, hbo, hS, hk0, hk1, kk⟩ := h
  have hb1 := hbo.1
  have hb8 := hbo.2.1
  change t_deed K _ [some (.ref b), some (.ref a), some (.int k), none, none, none, none, none, none, none, none, none] H
  unfold t_deed
  refine q_asgL (el_lst (ea_cons ev_c (ea_cons ev_c (ea_cons ev_c (ea_cons ev_c (ea_cons ev_c (ea_cons ev_c (ea_cons ev_c (ea_cons ev_c (ea_cons ev_c (ea_cons ev_c (ea_cons ev_c (ea_cons ev_c ea_nil)))))))))))) (by simp)) fun lk H1 hlk e1 h1 => ?_
  refine q_asgR (er_il (χ := fun v => ∃ s : Str, v = .str s) (er_lstAt (ev_var rfl) h1 (by
    intro x hx
    simp only [List.mem_cons, List.not_mem_nil, or_false] at hx
    rcases hx with rfl | rfl | rfl | rfl | rfl | rfl | rfl | rfl | rfl | rfl | rfl | rfl <;> exact ⟨_, rfl⟩)) (ei_imp (e_draw (ev_var rfl) (ev_var rfl) ev_c (ex_l e1 hS) ⟨hk0, by omega⟩ (by decide)) fun i hi => ⟨hi.1, hi.2⟩)) fun v H2 e2 ⟨s, hs⟩ => ?_
  subst hs
  have e12 := e1.trans e2
  refine q_asgN (φ := fun x => x < B.length) (en_of_ei (e_draw (ev_var rfl) (e_pl (ev_var rfl) ev_c) (e_nboxes (ev_var rfl) (hB.keep (.of e12))) (ex_l e12 hS) ⟨by omega, by omega⟩ (by omega)) fun i hi => ⟨hi.1, by omega⟩) fun x H3 e3 hx => ?_
  have e13 := e12.trans e3
  have hsx := sz_le hbo.2.2 hx
  refine q_asg (e_size (ev_var rfl) (ev_var rfl) (hB.keep (.of e13)) hx) fun H4 e4 => ?_
  have e14 := e13.trans e4
  refine q_asgL (el_lcR1 (n := (B.length : Int)) (fun i => decide (((sz B i : Nat) : Int) = ((sz B x : Nat) : Int))) (fun i => .int (i : Int)) (ea_cons (e_nboxes (ev_var rfl) (hB.keep (.of e14))) ea_nil) (by omega) (fun _ => rfl)
    (fun i H' e hi => t_eqI (e_size (ev_var rfl) (ev_var rfl) (hB.keep (.of (e14.trans e))) (by omega)) (ev_var rfl)) (fun i H' e hi _ => ev_var rfl)) fun ls H5 hls e5 h5 => ?_
  have e15 := e14.trans e5
  rw [Int.toNat_natCast] at h5
  have hpos : 0 < (given B.length (fun i => decide (((sz B i : Nat) : Int) = ((sz B x : Nat) : Int))) (fun i => V.int (i : Int))).length := given_pos hx (by simp)
  refine q_asgN (φ := fun y => y < B.length ∧ sz B y = sz B x) (er_il (χ := fun v => ∃ n : Nat, v = .int (n : Int) ∧ n < B.length ∧ sz B n = sz B x) (er_lstAt (ev_var rfl) h5 (fun v hv => by
      obtain ⟨i, hi, hf, rfl⟩ := mem_given hv
      have hf := of_decide_eq_true hf
      exact ⟨i, rfl, hi, by omega⟩)) (ei_imp (e_draw (ev_var rfl) (e_pl (ev_var rfl) ev_c) (e_lenL (ev_var rfl) h5) (ex_l e15 hS) ⟨by omega, by omega⟩ (by omega)) fun i hi => ⟨hi.1, hi.2⟩)) fun y H6 e6 ⟨hy, hxy⟩ => ?_
  have e16 := e15.trans e6
  refine q_asgL (el_lcR1 (n := (B.length : Int)) (fun i => decide (((sz B i : Nat) : Int) = 1) && (!decide ((i : Int) = (x : Int)) && !decide ((i : Int) = (y : Int)))) (fun i => .int (i : Int)) (ea_cons (e_nboxes (ev_var rfl) (hB.keep (.of e16))) ea_nil) (by omega) (fun _ => rfl)
    (fun i H' e hi => et_and (t_eqI (e_size (ev_var rfl) (ev_var rfl) (hB.keep (.of (e16.trans e))) (by omega)) ev_c) fun _ => et_and (t_neI (ev_var rfl) (ev_var rfl)) fun _ => t_neI (ev_var rfl) (ev_var rfl)) (fun i H' e hi _ => ev_var rfl)) fun lo H7 hlo e7 h7 => ?_
  have e17 := e16.trans e7
  rw [Int.toNat_natCast] at h7
  refine q_asgI (e_number (ev_var rfl) (e_pl (ev_var rfl) ev_c) (ex_l e17 hS) ⟨by omega, by omega⟩) fun n H8 e8 _ => ?_
  have e18 := e17.trans e8
  -- put
  refine q_when (t_eqS (ev_var rfl) ev_c) (fun hb H9 e9 => ?_) (fun hb H9 e9 => ?_)
  · refine s_retR (er_tup (ear_cons (er_eq ev_c) Mono.val (ear_cons (er_eq (ev_var rfl)) Mono.val (ear_cons (er_ofU (eu_tupL (el_cutL (n := sz B x) (el_lst (ea_cons (ev_var rfl) (ea_cons (ev_un (ev_var rfl) ru_neg) ea_nil)) (by simp)) (ev_var rfl)))) mono_ref ear_nil))) ?_ ?_) ?_
    · rintro _ _ ⟨_, _, rfl, _, _, _, rfl, _, _, _, rfl, _, rfl⟩
      simp
    · rintro _ Ha Hb e ⟨_, _, rfl, h1, _, _, rfl, h2, _, _, rfl, ⟨q, hq1, hq2⟩, rfl⟩
      exact ⟨_, _, rfl, h1, _, _, rfl, h2, _, _, rfl, ⟨q, hq1, e _ _ hq2⟩, rfl⟩
    · rintro _ H10 e10 ⟨q, _, rfl, hq, _, _, rfl, rfl, _, _, rfl, rfl, _, _, rfl, ⟨z, rfl, hz⟩, rfl⟩
      refine kk q (.put x (([n, -n] : List Int).take (sz B x))) H10 ((e18.trans e9).trans e10) ⟨z, hq, ?_⟩ ⟨hx, ?_⟩
      · rw [List.map_take]
        exact hz
      · rw [List.length_take]
        show min (sz B x) 2 = _
        omega
  have e19 := e18.trans e9
  -- copy
  refine q_when (et_and (t_eqS (ev_var rfl) ev_c) fun _ => t_neI (ev_var rfl) (ev_var rfl)) (fun hb H10 e10 => ?_) (fun hb H10 e10 => ?_)
  · refine s_retU (eu_tup (ea_cons ev_c (ea_cons (ev_var rfl) (ea_cons (ev_var rfl) ea_nil))) (by simp)) fun q H11 hq e11 h11 => ?_
    exact kk q (.copy x y) H11 ((e19.trans e10).trans e11) h11 ⟨hx, hy, hxy⟩
  have e20 := e19.trans e10
  -- grow
  refine q_when (t_eqS (ev_var rfl) ev_c) (fun hb H11 e11 => ?_) (fun hb H11 e11 => ?_)
  · refine s_retU (eu_tup (ea_cons ev_c (ea_cons (ev_var rfl) (ea_cons (ev_var rfl) ea_nil))) (by simp)) fun q H12 hq e12 h12 => ?_
    exact kk q (.grow x n) H12 ((e20.trans e11).trans e12) h12 hx
  have e21 := e20.trans e11
  -- tick
  refine q_when (et_and (t_eqS (ev_var rfl) ev_c) fun _ => t_eqI (ev_var rfl) ev_c) (fun hb H12 e12 => ?_) (fun hb H12 e12 => ?_)
  · refine s_retU (eu_tup (ea_cons ev_c (ea_cons (ev_var rfl) ea_nil)) (by simp)) fun q H13 hq e13 h13 => ?_
    have hb2 := of_decide_eq_true (Bool.and_eq_true_iff.mp hb).2
    exact kk q (.tick x) H13 ((e21.trans e12).trans e13) h13 ⟨hx, by omega⟩
  have e22 := e21.trans e12
  -- is, most
  refine q_when (et_or (t_eqS (ev_var rfl) ev_c) fun _ => t_eqS (ev_var rfl) ev_c) (fun hb H13 e13 => ?_) (fun hb H13 e13 => ?_)
  · refine s_retU (eu_tup (ea_cons (ev_var rfl) (ea_cons (ev_var rfl) (ea_cons (ev_var rfl) (ea_cons (ev_var rfl) ea_nil)))) (by simp)) fun q H14 hq e14 h14 => ?_
    rcases Bool.or_eq_true_iff.mp hb with hb | hb
    · have hb := of_decide_eq_true hb
      subst hb
      exact kk q (.same false x y n) H14 ((e22.trans e13).trans e14) h14 ⟨hx, hy⟩
    · have hb := of_decide_eq_true hb
      subst hb
      exact kk q (.same true x y n) H14 ((e22.trans e13).trans e14) h14 ⟨hx, hy⟩
  have e23 := e22.trans e13
  -- none
  refine q_when (t_eqS (ev_var rfl) ev_c) (fun hb H14 e14 => ?_) (fun hb H14 e14 => ?_)
  · refine s_retU (eu_tup (ea_cons ev_c (ea_cons (ev_var rfl) ea_nil)) (by simp)) fun q H15 hq e15 h15 => ?_
    exact kk q (.alone x) H15 ((e23.trans e14).trans e15) h15 hx
  have e24 := e23.trans e14
  -- anew
  have h7b : H14 lo = _ := (((((((e8.trans e9).trans e10).trans e11).trans e12).trans e13).trans e14) _ _ h7)
  refine q_when (et_and (t_eqS (ev_var rfl) ev_c) fun _ => et_and (t_neI (ev_var rfl) (ev_var rfl)) fun _ => t_gr (e_lenL (ev_var rfl) h7b) ev_c) (fun hb H15 e15 => ?_) (fun hb H15 e15 => ?_)
  · have hb2 := of_decide_eq_true (Bool.and_eq_true_iff.mp (Bool.and_eq_true_iff.mp hb).2).2
    have h7c := e15 _ _ h7b
    have hone : ∀ σ : L2.St, σ[1]? = some (some (.ref a)) → σ[2]? = some (some (.int k)) → σ[9]? = some (some (.ref lo)) → EvN (tOp (rIxL K) (tVar 9) (tCall (sp_draw K) [] E0 (tCons (tVar 1) (tCons (tOp rPl (tVar 2) (tC (.int 4))) (tCons (tCB (rLenS K) (tCons (tVar 9) tNil)) tNil))))) σ H15 fun t => t < B.length ∧ sz B t = 1 := fun σ s1 s2 s9 =>
      er_il (χ := fun v => ∃ n : Nat, v = .int (n : Int) ∧ n < B.length ∧ sz B n = 1) (er_lstAt (ev_var s9) h7c (fun v hv => by
        obtain ⟨i, hi, hf, rfl⟩ := mem_given hv
        have hf := of_decide_eq_true (Bool.and_eq_true_iff.mp hf).1
        exact ⟨i, rfl, hi, by omega⟩)) (ei_imp (e_draw (ev_var s1) (e_pl (ev_var s2) ev_c) (e_lenL (ev_var s9) h7c) (ex_l (e24.trans e15) hS) ⟨by omega, by omega⟩ (by omega)) fun i hi => ⟨hi.1, hi.2⟩)
    refine s_retR (er_tup (ear_cons (er_eq ev_c) Mono.val (ear_cons (er_eq (ev_var rfl)) Mono.val (ear_cons (er_eq (ev_var rfl)) Mono.val (ear_cons (hone _ rfl rfl rfl) Mono.val ear_nil)))) ?_ ?_) ?_
    · rintro _ _ ⟨_, _, rfl, _, _, _, rfl, _, _, _, rfl, _, _, _, rfl, _, rfl⟩
      simp
    · rintro _ Ha Hb e h
      exact h
    · rintro _ H16 e16 ⟨q, _, rfl, hq, _, _, rfl, rfl, _, _, rfl, rfl, _, _, rfl, rfl, _, _, rfl, ⟨t, rfl, ht1, ht2⟩, rfl⟩
      exact kk q (.anew x y t) H16 ((e24.trans e15).trans e16) hq ⟨hx, hy, ht1, hxy, ht2⟩
  have e25 := e24.trans e15
  -- still
  have hst : ∀ σ : L2.St, σ[1]? = some (some (.ref a)) → σ[2]? = some (some (.int k)) → EvN (tOp rPl (tC (.int 1)) (tCall (sp_draw K) [] E0 (tCons (tVar 1) (tCons (tOp rPl (tVar 2) (tC (.int 5))) (tCons (tC (.int 9)) tNil))))) σ H15 fun n => 1 ≤ n ∧ n ≤ 9 := fun σ s1 s2 =>
    en_of_ei (φ := fun i => 1 ≤ i ∧ i ≤ 9) (ei_op0 (φ := fun i => i = 1) (ei_of ev_c rfl) (e_draw (ev_var s1) (e_pl (ev_var s2) ev_c) ev_c (ex_l e25 hS) ⟨by omega, by omega⟩ (by decide)) fun i j hi hj => by omega) fun i hi => by omega
  refine s_retR (er_tup (ear_cons (er_eq ev_c) Mono.val (ear_cons (hst _ rfl rfl) Mono.val ear_nil)) ?_ ?_) ?_
  · rintro _ _ ⟨_, _, rfl, _, _, _, rfl, _, rfl⟩
    simp
  · rintro _ Ha Hb e h
    exact h
  · rintro _ H16 e16 ⟨q, _, rfl, hq, _, _, rfl, rfl, _, _, rfl, ⟨m, rfl, hm⟩, rfl⟩
    exact kk q (.still m) H16 (e25.trans e16) hq hm
end
end Bn
set_option Elab.async false
set_option linter.all false
set_option maxRecDepth 100000
set_option maxHeartbeats 4000000
namespace Bn
open PySem PySem.Spec PyProof.Rows L2 Evl
/-! ### rows and places that grow -/
def RowOk (B : Boxes) (i : Nat) (r : Row) : Prop := (1 ≤ r.places.length ∧ r.places.length ≤ 12) ∧ (∀ x ∈ r.places, DOk B x.1 ∧ x.2 < 128) ∧ (i = 0 → r.rank = 0) ∧ (0 < i → 1 ≤ r.rank ∧ r.rank ≤ 9)
theorem wf_mk {B : Boxes} {rs : List Row} (hb : BOk B) (h1 : 1 ≤ rs.length) (h7 : rs.length ≤ 7) (h : ∀ i r, rs[i]? = some r → RowOk B i r) : WF ⟨B, rs⟩ := by
  refine ⟨hb.1, hb.2.1, hb.2.2, h1, h7, ?_, ?_, ?_, ?_⟩
  · have e : rs[0]? = some rs[0] := List.getElem?_eq_getElem h1
    show (match rs[0]? with | some row => row.rank | none => 0) = 0
    rw [e]
    exact (h 0 _ e).2.2.1 rfl
  · intro k k0 kn
    have e : rs[k]? = some rs[k] := List.getElem?_eq_getElem kn
    show 1 ≤ (match rs[k]? with | some row => row.rank | none => 0) ∧ (match rs[k]? with | some row => row.rank | none => 0) ≤ 9
    rw [e]
    exact (h k _ e).2.2.2 k0
  · intro r hr
    have e : rs[r]? = some rs[r] := List.getElem?_eq_getElem hr
    show 1 ≤ (match rs[r]? with | some row => row.places | none => []).length ∧ (match rs[r]? with | some row => row.places | none => []).length ≤ 12
    rw [e]
    exact (h r _ e).1
  · intro r p d w hd
    have hd : (match rs[r]? with | some row => row.places | none => [])[p]? = some (d, w) := hd
    cases e : rs[r]? with
    | none =>
      rw [e] at hd
      cases hd
    | some row =>
      rw [e] at hd
      exact (h r row e).2.1 (d, w) (List.mem_of_getElem? hd)
def PlL (H : Hp) (qs : List Addr) (ps : List (Deed × Nat)) : Prop := qs.length = ps.length ∧
  ∀ (i : Nat) (q : Addr) (x : Deed × Nat), qs[i]? = some q → ps[i]? = some x → ∃ da, H q = some (.tup [.ref da, .int (x.2 : Nat)]) ∧ DeedAt H da x.1
def RwL (H : Hp) (qs : List Addr) (rs : List Row) : Prop := qs.length = rs.length ∧
  ∀ (i : Nat) (q : Addr) (r : Row), qs[i]? = some q → rs[i]? = some r → ∃ (nm : Str) (pl : Addr), H q = some (.tup [.str nm, .int (r.rank : Nat), .ref pl]) ∧ PlacesAt H pl r.places
theorem PlL.keep {H H' : Hp} {qs : List Addr} {ps : List (Deed × Nat)} (h : PlL H qs ps) (t : Tk H H') : PlL H' qs ps := ⟨h.1, fun i q x e1 e2 => by
  obtain ⟨da, h1, h2⟩ := h.2 i q x e1 e2
  exact ⟨da, t _ _ h1, h2.keep t⟩⟩
theorem RwL.keep {H H' : Hp} {qs : List Addr} {rs : List Row} (h : RwL H qs rs) (t : Tk H H') : RwL H' qs rs := ⟨h.1, fun i q x e1 e2 => by
  obtain ⟨nm, pl, h1, h2⟩ := h.2 i q x e1 e2
  exact ⟨nm, pl, t _ _ h1, h2.keep t⟩⟩
theorem snoc_at {α β : Type} {as : List α} {bs : List β} {a : α} {b : β} (hl : as.length = bs.length) {i : Nat} {x : α} {y : β} (e1 : (as ++ [a])[i]? = some x) (e2 : (bs ++ [b])[i]? = some y) :
    (as[i]? = some x ∧ bs[i]? = some y) ∨ (x = a ∧ y = b) := by
  by_cases hi : i < as.length
  · rw [List.getElem?_append_left hi] at e1
    rw [List.getElem?_append_left (by omega)] at e2
    exact .inl ⟨e1, e2⟩
  · rw [List.getElem?_append_right (by omega)] at e1
    rw [List.getElem?_append_right (by omega)] at e2
    have h0 : i - as.length = 0 := by
      cases hz : i - as.length with
      | zero => rfl
      | succ m =>
        rw [hz] at e1
        cases e1
    rw [h0] at e1
    rw [← hl, h0] at e2
    exact .inr ⟨(Option.some.inj e1).symm, (Option.some.inj e2).symm⟩
theorem PlL.snoc {H : Hp} {qs : List Addr} {ps : List (Deed × Nat)} {q da : Addr} {d : Deed} {w : Nat} (h : PlL H qs ps) (h1 : H q = some (.tup [.ref da, .int (w : Nat)])) (h2 : DeedAt H da d) : PlL H (qs ++ [q]) (ps ++ [(d, w)]) := by
  refine ⟨by rw [List.length_append, List.length_append, h.1]; rfl, fun i q' x e1 e2 => ?_⟩
  rcases snoc_at h.1 e1 e2 with ⟨g1, g2⟩ | ⟨rfl, rfl⟩
  · exact h.2 i q' x g1 g2
  · exact ⟨da, h1, h2⟩
theorem RwL.snoc {H : Hp} {qs : List Addr} {rs : List Row} {q pl : Addr} {nm : Str} {r : Row} (h : RwL H qs rs) (h1 : H q = some (.tup [.str nm, .int (r.rank : Nat), .ref pl])) (h2 : PlacesAt H pl r.places) : RwL H (qs ++ [q]) (rs ++ [r]) := by
  refine ⟨by rw [List.length_append, List.length_append, h.1]; rfl, fun i q' x e1 e2 => ?_⟩
  rcases snoc_at h.1 e1 e2 with ⟨g1, g2⟩ | ⟨rfl, rfl⟩
  · exact h.2 i q' x g1 g2
  · exact ⟨nm, pl, h1, h2⟩
theorem rows_snoc {B : Boxes} {rs : List Row} {r : Row} (h : ∀ i r, rs[i]? = some r → RowOk B i r) (hr : RowOk B rs.length r) : ∀ i r', (rs ++ [r])[i]? = some r' → RowOk B i r' := by
  intro i r' e
  by_cases hi : i < rs.length
  · rw [List.getElem?_append_left hi] at e
    exact h i r' e
  · rw [List.getElem?_append_right (by omega)] at e
    have h0 : i - rs.length = 0 := by
      cases hz : i - rs.length with
      | zero => rfl
      | succ m =>
        rw [hz] at e
        cases e
    rw [h0] at e
    have e3 := Option.some.inj e
    subst e3
    have : i = rs.length := by omega
    rw [this]
    exact hr
section
variable {K : PySem.W.Frag} {σ : L2.St} {H H' : Hp} {ta tb tc te tx : TE} {t u : TT} {vs xs : List V} {Q : VK} {E : XK} {D : Ends} {tu tw tz : TS} {Φ Ψ : V → Hp → Prop} {v : V} {p l : Addr}
theorem er_deed {b a : Addr} {B : Boxes} {ns : List Int} {k : Int} (ha : Ev ta σ H (.ref b)) (hb : Ev tb σ H (.ref a)) (hc : Ev tc σ H (.int k)) (hB : BoxesAt H b B) (ho : BOk B) (hS : SqL K H a (ns.map V.int)) (hk : 0 ≤ k ∧ k ≤ 10000) :
    Er (tCall (sp_deed K) [] E0 (tCons ta (tCons tb (tCons tc tNil)))) σ H fun v H' => ∃ q d, v = .ref q ∧ DeedAt H' q d ∧ DOk B d :=
  er_call (ea_cons ha (ea_cons hb (ea_cons hc ea_nil))) fun H1 e Q q E => ⟨rfl, b, a, B, ns, k, rfl, hB.keep (.of e), ho, ex_l e hS, hk.1, hk.2, fun z d H' e' h1 h2 => q _ H' e' ⟨z, d, rfl, h1, h2⟩⟩
theorem en_shut {a : Addr} {ns : List Int} {k : Int} {n : Nat} (ha : Ev ta σ H (.ref a)) (hb : Ev tb σ H (.int k)) (hc : Ev tc σ H (.int (n : Int))) (hS : SqL K H a (ns.map V.int)) (hk : 0 ≤ k ∧ k ≤ 15000) (hn : n ≤ 6) :
    EvN (tCall (sp_shut K) [] E0 (tCons ta (tCons tb (tCons tc tNil)))) σ H fun x => x < 128 :=
  er_call (ea_cons ha (ea_cons hb (ea_cons hc ea_nil))) fun H1 e Q q E => ⟨rfl, a, ns, k, n, rfl, ex_l e hS, hk.1, hk.2, hn, fun x H' hx e' => q _ H' e' ⟨x, rfl, hx⟩⟩
theorem en_rank {a : Addr} {ns : List Int} {r : Int} (ha : Ev ta σ H (.ref a)) (hb : Ev tb σ H (.int r)) (hS : SqL K H a (ns.map V.int)) (hr : 1 ≤ r ∧ r ≤ 6) :
    EvN (tCall (sp_rank K) [] E0 (tCons ta (tCons tb tNil))) σ H fun x => 1 ≤ x ∧ x ≤ 9 :=
  er_call (ea_cons ha (ea_cons hb ea_nil)) fun H1 e Q q E => ⟨rfl, a, ns, r, rfl, ex_l e hS, hr.1, hr.2, fun x H' h1 h2 e' => q _ H' e' ⟨x, rfl, h1, h2⟩⟩
theorem pure_program (h : sp_program K vs H Q E) : t_program K { nx := fun _ H' => Q .non H', rt := Q } (L2.start n_program vs) H := by
  obtain ⟨_, a, ns, m, rfl, hS, hm1, hm2, kk⟩ := h
  refine q_asgR (er_boxes (ev_var rfl) hS) ?_
  rintro _ H1 e1 ⟨b, B, rfl, hB, hbo⟩
  refine q_asgN (φ := fun n => n ≤ 6) (en_of_ei (e_draw (ev_var rfl) ev_c ev_c (ex_l e1 hS) (by decide) (by decide)) fun i hi => ⟨hi.1, by omega⟩) fun n H2 e2 hn => ?_
  refine q_asgL (el_lst ea_nil (by simp)) fun lr H3 hlr e3 h3 => ?_
  have hlr0 : H lr = none := fresh_back (e1.trans e2) hlr
  have e13 := (e1.trans e2).trans e3
  refine q_forE1 (φ := fun i => i = (n : Int) + 1) (ei_of (e_pl (ev_var rfl) ev_c) rfl) fun n1 H4 e4 hn1 => ⟨by omega, by omega, ?_⟩
  have e14 := e13.trans e4
  refine ⟨fun i σ' H' => ∃ (as : List Addr) (rs : List Row) (v5 v6 v7 v8 : Option V), σ' = [some (.ref a), some (.int m), some (.ref b), some (.int (n : Int)), some (.ref lr), v5, v6, v7, v8] ∧ Ex H H' ∧ BoxesAt H' b B ∧ H' lr = some (.lst (as.map V.ref)) ∧ RwL H' as rs ∧ rs.length = i ∧ ∀ i r, rs[i]? = some r → RowOk B i r,
    ⟨[], [], none, none, none, none, rfl, e14, hB.keep (.of ((e2.trans e3).trans e4)), e4 _ _ h3, ⟨rfl, fun i q r z => by cases z⟩, rfl, fun i r z => by cases z⟩, ?_, ?_⟩
  · rintro i σ' H' hi ⟨as, rs, v5, v6, v7, v8, rfl, eH, hB', hl', hR, hRl, hRo⟩
    refine q_asgL (el_lst ea_nil (by simp)) fun lp H5 hlp e5 h5 => ?_
    have hlp0 : H lp = none := fresh_back eH hlp
    have hne : lp ≠ lr := fun z => by
      rw [z, hl'] at hlp
      cases hlp
    refine q_forE1 (φ := fun i => 1 ≤ i ∧ i ≤ 12) (ei_op0 (φ := fun i => i = 1) (ei_of ev_c rfl) (e_draw (ev_var rfl) (e_pl ev_c (ev_var rfl)) (ev_var rfl) (ex_l (eH.trans e5) hS) ⟨by omega, by omega⟩ (by omega)) fun i j hi hj => by omega) fun n2 H6 e6 hn2 => ⟨by omega, by omega, ?_⟩
    refine ⟨fun j σ' H' => ∃ (qs : List Addr) (ps : List (Deed × Nat)) (v7 v8 : Option V), σ' = [some (.ref a), some (.int m), some (.ref b), some (.int (n : Int)), some (.ref lr), some (.int (i : Int)), some (.ref lp), v7, v8] ∧ Ex H H' ∧ BoxesAt H' b B ∧ H' lr = some (.lst (as.map V.ref)) ∧ RwL H' as rs ∧
        H' lp = some (.lst (qs.map V.ref)) ∧ PlL H' qs ps ∧ ps.length = j ∧ ∀ x ∈ ps, DOk B x.1 ∧ x.2 < 128,
      ⟨[], [], _, _, rfl, (eH.trans e5).trans e6, hB'.keep (.of (e5.trans e6)), e6 _ _ (e5 _ _ hl'), hR.keep (.of (e5.trans e6)), e6 _ _ h5, ⟨rfl, fun i q r z => by cases z⟩, rfl, fun x z => by cases z⟩, ?_, ?_⟩
    · rintro j σ'' H'' hj ⟨qs, ps, w7, w8, rfl, eH2, hB2, hl2, hR2, hp2, hP2, hPl, hPo⟩
      refine q_asg (e_pl (e_pl ev_c (e_ti ev_c (ev_var rfl) (.inl (by decide)))) (e_ti ev_c (ev_var rfl) (.inl (by decide)))) fun H7 e7 => ?_
      have hp7 := e7 _ _ hp2
      refine s_appR hp7 (ev_var rfl) (er_tup (ear_cons (er_deed (ev_var rfl) (ev_var rfl) (ev_var rfl) (hB2.keep (.of e7)) hbo (ex_l (eH2.trans e7) hS) ⟨by omega, by omega⟩)
        (fun v Ha Hb e ⟨q, d, g1, g2, g3⟩ => ⟨q, d, g1, g2.keep (.of e), g3⟩) (ear_cons (en_shut (ev_var rfl) (e_pl (ev_var rfl) ev_c) (ev_var rfl) (ex_l (eH2.trans e7) hS) ⟨by omega, by omega⟩ hn) Mono.val ear_nil)) ?_ ?_) ?_ ?_
      · rintro _ _ ⟨_, _, rfl, _, _, _, rfl, _, rfl⟩
        simp
      · rintro _ Ha Hb e ⟨_, _, rfl, ⟨q, d, g1, g2, g3⟩, _, _, rfl, h2, rfl⟩
        exact ⟨_, _, rfl, ⟨q, d, g1, g2.keep (.of e), g3⟩, _, _, rfl, h2, rfl⟩
      · rw [List.length_map, hP2.1]
        omega
      · rintro _ H8 e8 ⟨q, _, rfl, hq, _, _, rfl, ⟨da, d, rfl, hd1, hd2⟩, _, _, rfl, ⟨w, rfl, hw⟩, rfl⟩ hl8
        have tk : Tk H'' H8 := Tk.of (e7.trans e8)
        have tu := Tk.upd (o := .lst (qs.map V.ref ++ [.ref q])) hl8
        refine ⟨qs ++ [q], ps ++ [(d, w)], _, _, rfl, Ex.mut ((eH2.trans e7).trans e8) hlp0, (hB2.keep tk).keep tu, ?_, (hR2.keep tk).keep tu, ?_, ((hP2.keep tk).keep tu).snoc (tu _ _ hq) (hd1.keep tu), ?_, ?_⟩
        · rw [upd_ne (Ne.symm hne)]
          exact e8 _ _ (e7 _ _ hl2)
        · rw [upd_same, List.map_append]
          rfl
        · rw [List.length_append, hPl]
          rfl
        · intro x hx
          rcases List.mem_append.mp hx with z | z
          · exact hPo x z
          · rw [List.mem_singleton.mp z]
            exact ⟨hd2, hw⟩
    · rintro σ'' H'' ⟨qs, ps, w7, w8, rfl, eH2, hB2, hl2, hR2, hp2, hP2, hPl, hPo⟩
      have hps : 1 ≤ ps.length ∧ ps.length ≤ 12 := by omega
      refine s_if (t_eqI (ev_var rfl) ev_c) (fun hb H7 e7 => ?_) (fun hb H7 e7 => ?_)
      · have hb := of_decide_eq_true hb
        refine s_appR (e7 _ _ hl2) (ev_var rfl) (er_tup (ear_cons (er_eq ev_c) Mono.val (ear_cons (er_eq ev_c) Mono.val (ear_cons (er_ofU (eu_tupV (ev_var rfl) (e7 _ _ hp2))) mono_ref ear_nil))) ?_ ?_) ?_ ?_
        · rintro _ _ ⟨_, _, rfl, _, _, _, rfl, _, _, _, rfl, _, rfl⟩
          simp
        · rintro _ Ha Hb e ⟨_, _, rfl, g1, _, _, rfl, g2, _, _, rfl, ⟨z, g3, g4⟩, rfl⟩
          exact ⟨_, _, rfl, g1, _, _, rfl, g2, _, _, rfl, ⟨z, g3, e _ _ g4⟩, rfl⟩
        · rw [List.length_map, hR2.1]
          omega
        · rintro _ H8 e8 ⟨q, _, rfl, hq, _, _, rfl, rfl, _, _, rfl, rfl, _, _, rfl, ⟨z, rfl, hz⟩, rfl⟩ hl8
          have tk : Tk H'' H8 := Tk.of (e7.trans e8)
          have tu := Tk.upd (o := .lst (as.map V.ref ++ [.ref q])) hl8
          have hPs : PlacesAt H8 z ps := ⟨qs, hz, hP2.1, (hP2.keep tk).2⟩
          refine ⟨as ++ [q], rs ++ [⟨0, ps⟩], _, _, _, _, rfl, Ex.mut ((eH2.trans e7).trans e8) hlr0, (hB2.keep tk).keep tu, ?_, ((hR2.keep tk).keep tu).snoc (r := ⟨0, ps⟩) (tu _ _ hq) (hPs.keep tu), ?_, rows_snoc hRo ⟨hps, hPo, fun _ => rfl, fun h0 => by omega⟩⟩
          · rw [upd_same, List.map_append]
            rfl
          · rw [List.length_append, hRl]
            rfl
      · have hb := of_decide_eq_false hb
        have hi6 : 1 ≤ (i : Int) ∧ (i : Int) ≤ 6 := by omega
        refine s_appR (e7 _ _ hl2) (ev_var rfl) (er_tup (ear_cons (er_txt (e_mi (ev_var rfl) ev_c) (e_pl ev_c (e_mo (ev_var rfl) ev_c (by decide))) (by decide) (by omega) (by show (i : Int) - 1 < 6; omega) (by omega)) Mono.val
          (ear_cons (en_rank (ev_var rfl) (ev_var rfl) (ex_l (eH2.trans e7) hS) hi6) Mono.val (ear_cons (er_ofU (eu_tupV (ev_var rfl) (e7 _ _ hp2))) mono_ref ear_nil))) ?_ ?_) ?_ ?_
        · rintro _ _ ⟨_, _, rfl, _, _, _, rfl, _, _, _, rfl, _, rfl⟩
          simp
        · rintro _ Ha Hb e ⟨_, _, rfl, g1, _, _, rfl, g2, _, _, rfl, ⟨z, g3, g4⟩, rfl⟩
          exact ⟨_, _, rfl, g1, _, _, rfl, g2, _, _, rfl, ⟨z, g3, e _ _ g4⟩, rfl⟩
        · rw [List.length_map, hR2.1]
          omega
        · rintro _ H8 e8 ⟨q, _, rfl, hq, _, _, rfl, ⟨nm, rfl⟩, _, _, rfl, ⟨rr, rfl, hrr⟩, _, _, rfl, ⟨z, rfl, hz⟩, rfl⟩ hl8
          have tk : Tk H'' H8 := Tk.of (e7.trans e8)
          have tu := Tk.upd (o := .lst (as.map V.ref ++ [.ref q])) hl8
          have hPs : PlacesAt H8 z ps := ⟨qs, hz, hP2.1, (hP2.keep tk).2⟩
          refine ⟨as ++ [q], rs ++ [⟨rr, ps⟩], _, _, _, _, rfl, Ex.mut ((eH2.trans e7).trans e8) hlr0, (hB2.keep tk).keep tu, ?_, ((hR2.keep tk).keep tu).snoc (r := ⟨rr, ps⟩) (tu _ _ hq) (hPs.keep tu), ?_, rows_snoc hRo ⟨hps, hPo, fun h0 => by omega, fun _ => hrr⟩⟩
          · rw [upd_same, List.map_append]
            rfl
          · rw [List.length_append, hRl]
            rfl
  · rintro σ' H' ⟨as, rs, v5, v6, v7, v8, rfl, eH, hB', hl', hR, hRl, hRo⟩
    refine s_retR (er_tup (ear_cons (er_eq (ev_var rfl)) Mono.val (ear_cons (er_ofU (eu_tupV (ev_var rfl) hl')) mono_ref ear_nil)) ?_ ?_) ?_
    · rintro _ _ ⟨_, _, rfl, _, _, _, rfl, _, rfl⟩
      simp
    · rintro _ Ha Hb e ⟨_, _, rfl, g1, _, _, rfl, ⟨z, g3, g4⟩, rfl⟩
      exact ⟨_, _, rfl, g1, _, _, rfl, ⟨z, g3, e _ _ g4⟩, rfl⟩
    · rintro _ H5 e5 ⟨q, _, rfl, hq, _, _, rfl, rfl, _, _, rfl, ⟨z, rfl, hz⟩, rfl⟩
      have tk : Tk H' H5 := .of e5
      exact kk q ⟨B, rs⟩ H5 (eH.trans e5) ⟨b, z, hq, hB'.keep tk, as, hz, hR.1, (hR.keep tk).2⟩ (wf_mk hbo (by omega) (by omega) hRo)
end
end Bn
set_option Elab.async false
set_option linter.all false
set_option maxRecDepth 100000
set_option maxHeartbeats 4000000
namespace Bn
open PySem PySem.Spec PyProof.Rows L2 Evl
section
variable {K : PySem.W.Frag} {σ : L2.St} {H H' : Hp} {ta tb tc te tx : TE} {t u : TT} {vs xs : List V} {Q : VK} {E : XK} {D : Ends} {tu tw tz : TS} {Φ Ψ : V → Hp → Prop} {v : V} {p l : Addr}
theorem e_min {i j : Int} (ha : Ev ta σ H (.int i)) (hb : Ev tb σ H (.int j)) : Ev (tCB rMin2 (tCons ta (tCons tb tNil))) σ H (.int (if j < i then j else i)) := fun H1 e Q q =>
  ha H1 e _ fun H2 e2 => hb H2 (e.trans e2) _ fun H3 e3 => ⟨i, j, rfl, q H3 (e2.trans e3)⟩
theorem el_rep {n : Nat} (ha : EvL ta σ H xs) (hb : Ev tb σ H (.int (n : Int))) (hn : n ≤ 1000) (hx : xs.length ≤ 10) : EvL (tOp rRep ta tb) σ H (List.replicate n xs).flatten := fun H1 e Q q =>
  ha H1 e _ fun p H2 hp0 e2 hp => hb H2 (e.trans e2) _ fun H3 e3 => ⟨p, (n : Int), xs, rfl, rfl, e3 p _ hp, by omega, by omega, sz_of (by
    rw [Int.toNat_natCast]
    exact Nat.le_trans (Nat.mul_le_mul hx hn) (by decide)), fun t ht => q t _ (fresh_back e2 (fresh_back e3 ht)) ((e2.trans e3).trans (Ex.new ht)) upd_same⟩
theorem rep_nV (n k : Nat) : (List.replicate n [V.int (k : Int)]).flatten = nV (List.replicate n k) := by
  induction n with
  | zero => rfl
  | succ n ih =>
    rw [List.replicate_succ, List.flatten_cons, ih, List.replicate_succ]
    rfl
theorem s_extL {zs : List V} (hl : H l = some (.lst xs)) (ha : Ev ta σ H (.ref l)) (h : EvL te σ H zs) (hz : xs.length + zs.length ≤ 100000) (k : ∀ H1, Ex H H1 → H1 l = some (.lst xs) → D.nx σ (upd H1 l (.lst (xs ++ zs)))) :
    tDrop (tBM K "list" rExtend ta (tCons te tNil)) D σ H := ha H (Ex.refl H) _ fun H1 e1 =>
  ⟨Or.inl ⟨rfl, xs, sq_of (e1 l _ hl)⟩, h H1 e1 _ fun b H2 hb e2 h2 => ⟨l, b, xs, zs, rfl, rfl, e2 l _ (e1 l _ hl), h2, sz_of hz, k H2 (e1.trans e2) (e2 l _ (e1 l _ hl))⟩⟩
theorem q_extL {zs : List V} (hl : H l = some (.lst xs)) (ha : Ev ta σ H (.ref l)) (h : EvL te σ H zs) (hz : xs.length + zs.length ≤ 100000) (k : ∀ H1, Ex H H1 → H1 l = some (.lst xs) → tz D σ (upd H1 l (.lst (xs ++ zs)))) :
    tSeq (tDrop (tBM K "list" rExtend ta (tCons te tNil))) tz D σ H := s_extL (D := { D with nx := tz D }) hl ha h hz k
theorem nV_append (a b : List Nat) : nV (a ++ b) = nV a ++ nV b := by
  unfold nV
  rw [List.map_append]
theorem nV_len (a : List Nat) : (nV a).length = a.length := by
  unfold nV
  rw [List.length_map]
theorem pure_ringings (h : sp_ringings K vs H Q E) : t_ringings K { nx := fun _ H' => Q .non H', rt := Q } (L2.start n_ringings vs) H := by
  obtain ⟨_, a, ns, n, rfl, hS, hlen, hn, kk⟩ := h
  have hp := pow2_int n
  have h64 : 2 ^ n ≤ 64 := Nat.le_trans (Nat.pow_le_pow_right (by decide) hn) (by decide)
  have h128 : 2 ^ (n + 1) = 2 ^ n * 2 := Nat.pow_succ ..
  refine q_asgL (el_lst ea_nil (by simp)) fun lw H1 hlw e1 h1 => ?_
  refine q_asgN (φ := fun m => m < 4) (en_of_ei (e_draw (ev_var rfl) ev_c ev_c (ex_l e1 hS) (by decide) (by decide)) fun i hi => ⟨hi.1, by omega⟩) fun way H2 e2 hway => ?_
  have e12 := e1.trans e2
  have hmin : Ev (tCB rMin2 (tCons (tCB (rLenS K) (tCons (tVar 0) tNil)) (tCons (tC (.int 60)) tNil))) ((L2.start n_ringings [.ref a, .int (n : Int)]).set 2 (some (.ref lw)) |>.set 3 (some (.int (way : Int)))) H2 _ := e_min (ev_len (ev_var rfl) (ex_l e12 hS)) ev_c
  refine q_forE1 (φ := fun i => 0 ≤ i ∧ i ≤ 71) (ei_op0 (φ := fun i => 0 ≤ i ∧ i ≤ 63) (ei_of hmin (by rw [List.length_map]; split <;> omega)) (e_draw (ev_var rfl) ev_c ev_c (ex_l e12 hS) (by decide) (by decide)) fun i j hi hj => by omega) fun n1 H3 e3 hn1 => ⟨by omega, by omega, ?_⟩
  refine ⟨fun i σ' H' => ∃ (W : List Nat) (v4 v5 v6 : Option V), σ' = [some (.ref a), some (.int (n : Int)), some (.ref lw), some (.int (way : Int)), v4, v5, v6] ∧ Ex H H' ∧ H' lw = some (.lst (nV W)) ∧ (∀ w ∈ W, w < 2 ^ (n + 1) ∧ w % 2 = 0) ∧ W.length ≤ 8 * i,
    ⟨[], none, none, none, rfl, e12.trans e3, e3 _ _ (e2 _ _ h1), fun w hw => (by cases hw), (by simp)⟩, ?_, ?_⟩
  · rintro i σ' H' hi ⟨W, v4, v5, v6, rfl, eH, hW, hWo, hWl⟩
    have hdr : ∀ m : Int, 0 < m → m ≤ 8 → EvI (tCall (sp_draw K) [] E0 (tCons (tVar 0) (tCons (tOp rPl (tC (.int 5000)) (tVar 4)) (tCons (tC (.int m)) tNil)))) ([some (.ref a), some (.int (n : Int)), some (.ref lw), some (.int (way : Int)), v4, v5, v6].set 4 (some (.int (i : Int)))) H' fun d => 0 ≤ d ∧ d < 8 :=
      fun m h0 h8 => ei_imp (e_draw (ev_var rfl) (e_pl ev_c (ev_var rfl)) ev_c (ex_l eH hS) ⟨by omega, by omega⟩ h0) fun d hd => ⟨hd.1, by omega⟩
    have hgl := er_lst (ear_cons (er_eq (ev_c (v := .int 0))) Mono.val (ear_cons (hdr 2 (by decide) (by decide)) Mono.val (ear_cons (hdr 4 (by decide) (by decide)) Mono.val (ear_cons (hdr 8 (by decide) (by decide)) Mono.val ear_nil))))
      (fun vs H' h => by
        obtain ⟨_, _, rfl, _, _, _, rfl, _, _, _, rfl, _, _, _, rfl, _, rfl⟩ := h
        simp) (fun _ _ _ _ h => h)
    refine q_asgN (φ := fun g => g < 8) (er_il (χ := fun v => ∃ g : Nat, v = .int (g : Int) ∧ g < 8) (j := 4) (er_imp hgl ?_) (ei_of (ev_var rfl) (by omega))) fun g H4 e4 hg => ?_
    · rintro _ H'' _ ⟨p, _, rfl, hp, _, _, rfl, rfl, _, _, rfl, ⟨i1, rfl, h1⟩, _, _, rfl, ⟨i2, rfl, h2⟩, _, _, rfl, ⟨i3, rfl, h3⟩, rfl⟩
      refine ⟨p, _, rfl, hp, rfl, fun x hx => ?_⟩
      simp only [List.mem_cons, List.not_mem_nil, or_false] at hx
      rcases hx with rfl | rfl | rfl | rfl
      · exact ⟨0, rfl, by decide⟩
      · exact ⟨i1.toNat, by rw [Int.toNat_of_nonneg h1.1], by omega⟩
      · exact ⟨i2.toNat, by rw [Int.toNat_of_nonneg h2.1], by omega⟩
      · exact ⟨i3.toNat, by rw [Int.toNat_of_nonneg h3.1], by omega⟩
    have hrep := el_rep (n := g) (el_lst (ea_cons (ev_c (v := .int 0)) ea_nil) (by simp)) (ev_var (σ := [some (.ref a), some (.int (n : Int)), some (.ref lw), some (.int (way : Int)), some (.int (i : Int)), some (.int (g : Int)), v6]) (H := H4) (i := 5) rfl) (by omega) (by simp)
    have hz : (List.replicate g [V.int 0]).flatten = nV (List.replicate g 0) := rep_nV g 0
    rw [hz] at hrep
    refine q_extL (e4 _ _ hW) (ev_var rfl) hrep (by rw [nV_len, nV_len, List.length_replicate]; omega) fun H5 e5 h5 => ?_
    rw [← nV_append]
    have eH5 : Ex H (upd H5 lw (.lst (nV (W ++ List.replicate g 0)))) := Ex.mut ((eH.trans e4).trans e5) hlw
    have hW5 : (upd H5 lw (.lst (nV (W ++ List.replicate g 0)))) lw = some (.lst (nV (W ++ List.replicate g 0))) := upd_same
    have hWo5 : ∀ w ∈ W ++ List.replicate g 0, w < 2 ^ (n + 1) ∧ w % 2 = 0 := fun w hw => by
      rcases List.mem_append.mp hw with z | z
      · exact hWo w z
      · rw [List.eq_of_mem_replicate z]
        exact ⟨Nat.two_pow_pos _, rfl⟩
    have hWl5 : (W ++ List.replicate g 0).length ≤ 8 * i + 7 := by
      rw [List.length_append, List.length_replicate]
      omega
    generalize W ++ List.replicate g 0 = W5 at *
    generalize upd H5 lw (.lst (nV W5)) = H6 at *
    refine q_asgN (φ := fun m => m < 2 ^ n) (en_of_ei (e_draw (ev_var rfl) (e_pl ev_c (ev_var rfl)) (e_shl ev_c (ev_var rfl) (by omega) (by decide)) (ex_l eH5 hS) ⟨by omega, by omega⟩ (pow2_pos n)) fun i hi => ⟨hi.1, by omega⟩) fun m H7 e7 hm => ?_
    have fin : ∀ (m : Nat) (H8 : Hp), m < 2 ^ n → Ex H6 H8 → tDrop (tBM K "list" rAppend (tVar 2) (tCons (tOp rSl (tVar 6) (tC (.int 1))) tNil))
        { nx := (fun i σ' H' => ∃ (W : List Nat) (v4 v5 v6 : Option V), σ' = [some (.ref a), some (.int (n : Int)), some (.ref lw), some (.int (way : Int)), v4, v5, v6] ∧ Ex H H' ∧ H' lw = some (.lst (nV W)) ∧ (∀ w ∈ W, w < 2 ^ (n + 1) ∧ w % 2 = 0) ∧ W.length ≤ 8 * i) (i + 1), rt := Q,
          bk := fun σ' H' => tRet (tVar 2) { nx := fun _ H' => Q .non H', rt := Q } σ' H', ct := (fun i σ' H' => ∃ (W : List Nat) (v4 v5 v6 : Option V), σ' = [some (.ref a), some (.int (n : Int)), some (.ref lw), some (.int (way : Int)), v4, v5, v6] ∧ Ex H H' ∧ H' lw = some (.lst (nV W)) ∧ (∀ w ∈ W, w < 2 ^ (n + 1) ∧ w % 2 = 0) ∧ W.length ≤ 8 * i) (i + 1) }
        [some (.ref a), some (.int (n : Int)), some (.ref lw), some (.int (way : Int)), some (.int (i : Int)), some (.int (g : Int)), some (.int (m : Int))] H8 := by
      intro m H8 hm8 e8
      refine s_app (v := .int ((m * 2 : Nat) : Int)) (e8 _ _ hW5) (ev_var rfl) (ev_same (e_shl (i := (m : Int)) (j := 1) (ev_var rfl) ev_c (by decide) (by omega)) ?_) (by rw [nV_len]; omega) fun H9 e9 => ?_
      · rw [Int.natCast_mul]
        rfl
      · refine ⟨W5 ++ [m * 2], _, _, _, rfl, Ex.mut ((eH5.trans e8).trans e9) hlw, ?_, fun w hw => ?_, ?_⟩
        · rw [upd_same, nV_append]
          rfl
        · rcases List.mem_append.mp hw with z | z
          · exact hWo5 w z
          · rw [List.mem_singleton.mp z]
            exact ⟨by omega, by omega⟩
        · rw [List.length_append, List.length_singleton]
          omega
    refine q_when (et_and (t_gr (ev_var rfl) ev_c) fun _ => t_gr (ev_var rfl) ev_c) (fun hb H8 e8 => ?_) (fun hb H8 e8 => fin m H8 hm (e7.trans e8))
    have hb1 := of_decide_eq_true (Bool.and_eq_true_iff.mp hb).1
    refine s_asgR (Φ := fun v _ => ∃ m2 : Nat, v = .int (m2 : Int) ∧ m2 < 2 ^ n) (er_op (Φ := fun u _ => u = .int 1) (er_eq ev_c) (e_draw (ev_var rfl) (e_pl ev_c (ev_var rfl)) (ev_var rfl) (ex_l ((eH5.trans e7).trans e8) hS) ⟨by omega, by omega⟩ hb1) Mono.val ?_) ?_
    · rintro x y H9 e9 rfl ⟨d, rfl, hd⟩ Q' q'
      have hd2 : d.toNat < n := by omega
      refine ⟨1, d, rfl, rfl, ⟨hd.1, by omega, by decide⟩, q' _ H9 (Ex.refl H9) ⟨2 ^ d.toNat, ?_, Nat.pow_lt_pow_right (by decide) hd2⟩⟩
      show V.int (1 * 2 ^ d.toNat) = _
      rw [pow2_int]
    · rintro _ H9 e9 ⟨m2, rfl, hm2⟩
      exact fin m2 H9 hm2 ((e7.trans e8).trans e9)
  · rintro σ' H' ⟨W, v4, v5, v6, rfl, eH, hW, hWo, hWl⟩
    refine s_ret (ev_var rfl) fun H4 e4 => kk lw W H4 (eH.trans e4) (e4 _ _ hW) hWo (by omega)
end
end Bn
set_option Elab.async false
set_option linter.all false
set_option maxRecDepth 100000
set_option maxHeartbeats 4000000
namespace Bn
open PySem PySem.Spec PyProof.Rows L2 Evl
/-! ### kinds -/
def xOf : Deed → Nat
  | .put x _ => x
  | .copy x _ => x
  | .grow x _ => x
  | .tick x => x
  | .still _ => 0
  | .same _ x _ _ => x
  | .alone x => x
  | .anew x _ _ => x
theorem same_k {m : Bool} {x y : Nat} {n : Int} {s : Str} (h : kindS (.same m x y n) = s) (h1 : ¬ s = "is") (h2 : ¬ s = "most") : False := by
  cases m
  · exact h1 h.symm
  · exact h2 h.symm
theorem at0 {x : V} {r : List V} : atI (x :: r) 0 = some x := atI_nat (j := 0) rfl
theorem at1 {x y : V} {r : List V} : atI (x :: y :: r) 1 = some y := atI_nat (j := 1) rfl
theorem still_of {d : Deed} (h : kindS d = "still") : ∃ n, d = .still n := by
  cases d with
  | still n => exact ⟨n, rfl⟩
  | same m x y n => exact (same_k h (by decide +kernel) (by decide +kernel)).elim
  | put x ns => exact absurd (show ("put" : Str) = "still" from h) (by decide +kernel)
  | copy x y => exact absurd (show ("copy" : Str) = "still" from h) (by decide +kernel)
  | grow x n => exact absurd (show ("grow" : Str) = "still" from h) (by decide +kernel)
  | tick x => exact absurd (show ("tick" : Str) = "still" from h) (by decide +kernel)
  | alone x => exact absurd (show ("none" : Str) = "still" from h) (by decide +kernel)
  | anew x y t => exact absurd (show ("anew" : Str) = "still" from h) (by decide +kernel)
section
variable {K : PySem.W.Frag} {σ : L2.St} {H H' Hn : Hp} {ta tb tc te tx : TE} {t u : TT} {vs xs : List V} {Q : VK} {E : XK} {D : Ends} {tu tw tz : TS} {Φ Ψ : V → Hp → Prop} {v : V} {p l q : Addr} {b : Bool}
theorem deed_box {B : Boxes} {d : Deed} (h : DeedAt H q d) (hd : DOk B d) (hs : kindS d ≠ "still") : ∃ r, H q = some (.tup (.str (kindS d) :: .int (xOf d : Nat) :: r)) ∧ xOf d < B.length := by
  cases d with
  | put x ns =>
    obtain ⟨z, h1, _⟩ := h
    exact ⟨_, h1, hd.1⟩
  | copy x y => exact ⟨_, h, hd.1⟩
  | grow x n => exact ⟨_, h, hd⟩
  | tick x => exact ⟨_, h, hd.1⟩
  | still n => exact absurd rfl hs
  | same m x y n => exact ⟨_, h, hd.1⟩
  | alone x => exact ⟨_, h, hd⟩
  | anew x y t => exact ⟨_, h, hd.1⟩
theorem deed_kind {d : Deed} (h : DeedAt H q d) : ∃ r, H q = some (.tup (.str (kindS d) :: r)) := by
  cases d with
  | put x ns =>
    obtain ⟨z, h1, _⟩ := h
    exact ⟨_, h1⟩
  | _ => exact ⟨_, h⟩
/-- a test upon a deed's first item -/
theorem t_kind {s s' : Str} {r : List V} (ha : Ev ta σ H (.ref q)) (h : H q = some (.tup (.str s :: r))) : EvT (tTest (tOp rEq (tOp (rIxT K) ta (tC (.int 0))) (tC (.str s')))) σ H (decide (s = s')) := t_eqS (e_ix ha ev_c h at0) ev_c
theorem q_no (e : Ex H Hn) (h : EvT t σ H false) (k : ∀ H1, Ex H H1 → tz D σ H1) : tSeq (tIfS t tu tNext) tz D σ Hn := q_when (h.mono e) (fun z => by cases z) fun _ H1 e1 => k H1 (e.trans e1)
theorem q_yes (e : Ex H Hn) (h : EvT t σ H true) (k : ∀ H1, Ex H H1 → tu { D with nx := tz D } σ H1) : tSeq (tIfS t tu tw) tz D σ Hn := q_ifB (h.mono e) (fun _ H1 e1 => k H1 (e.trans e1)) fun z => by cases z
theorem pure_turns (h : sp_turns K vs H Q E) : t_turns K { nx := fun _ H' => Q .non H', rt := Q } (L2.start n_turns vs) H := by
  obtain ⟨_, b, q, B, d, rfl, hB, hbo, hq, hd, kk⟩ := h
  obtain ⟨r, hk⟩ := deed_kind hq
  refine q_when (t_kind (ev_var rfl) hk) (fun hb H1 e1 => ?_) (fun hb H1 e1 => ?_)
  · obtain ⟨n, rfl⟩ := still_of (of_decide_eq_true hb)
    exact s_ret (e_ix (ev_var rfl) ev_c (e1 _ _ hq) rfl) fun H2 e2 => kk H2 (e1.trans e2)
  have hns := of_decide_eq_false hb
  obtain ⟨r2, hk2, hx⟩ := deed_box hq hd hns
  refine q_asg ((e_size (ev_var rfl) (e_ix (ev_var rfl) ev_c hk2 at1) hB hx).mono e1) fun H2 e2 => ?_
  have e12 := e1.trans e2
  refine q_when ((et_or (t_kind (ev_var rfl) hk) fun _ => t_kind (ev_var rfl) hk).mono e12) (fun hb H3 e3 => ?_) (fun hb2 H3 e3 => ?_)
  · refine s_ret (ev_var rfl) fun H4 e4 => ?_
    have et : turns B d = sz B (xOf d) := by
      rcases Bool.or_eq_true_iff.mp hb with hb | hb
      · have hb := of_decide_eq_true hb
        cases d with
        | put x ns => rfl
        | copy x y => rfl
        | still n => exact absurd rfl hns
        | same m x y n => exact (same_k hb (by decide +kernel) (by decide +kernel)).elim
        | grow x n => exact absurd (show ("grow" : Str) = "put" from hb) (by decide +kernel)
        | tick x => exact absurd (show ("tick" : Str) = "put" from hb) (by decide +kernel)
        | alone x => exact absurd (show ("none" : Str) = "put" from hb) (by decide +kernel)
        | anew x y t => exact absurd (show ("anew" : Str) = "put" from hb) (by decide +kernel)
      · have hb := of_decide_eq_true hb
        cases d with
        | put x ns => rfl
        | copy x y => rfl
        | still n => exact absurd rfl hns
        | same m x y n => exact (same_k hb (by decide +kernel) (by decide +kernel)).elim
        | grow x n => exact absurd (show ("grow" : Str) = "copy" from hb) (by decide +kernel)
        | tick x => exact absurd (show ("tick" : Str) = "copy" from hb) (by decide +kernel)
        | alone x => exact absurd (show ("none" : Str) = "copy" from hb) (by decide +kernel)
        | anew x y t => exact absurd (show ("anew" : Str) = "copy" from hb) (by decide +kernel)
    have := kk H4 ((e12.trans e3).trans e4)
    rw [et] at this
    exact this
  have e13 := e12.trans e3
  refine q_when ((t_kind (ev_var rfl) hk).mono e13) (fun hb H4 e4 => ?_) (fun hb3 H4 e4 => ?_)
  · refine s_ret (e_ti ev_c (ev_var rfl) (.inl (by decide))) fun H5 e5 => ?_
    have hb := of_decide_eq_true hb
    have et : turns B d = 2 * sz B (xOf d) := by
      cases d with
      | grow x n => rfl
      | still n => exact absurd rfl hns
      | same m x y n => exact (same_k hb (by decide +kernel) (by decide +kernel)).elim
      | put x ns => exact absurd (show ("put" : Str) = "grow" from hb) (by decide +kernel)
      | copy x y => exact absurd (show ("copy" : Str) = "grow" from hb) (by decide +kernel)
      | tick x => exact absurd (show ("tick" : Str) = "grow" from hb) (by decide +kernel)
      | alone x => exact absurd (show ("none" : Str) = "grow" from hb) (by decide +kernel)
      | anew x y t => exact absurd (show ("anew" : Str) = "grow" from hb) (by decide +kernel)
    have := kk H5 ((e13.trans e4).trans e5)
    rw [et, Int.natCast_mul] at this
    exact this
  have e14 := e13.trans e4
  refine q_when ((t_kind (ev_var rfl) hk).mono e14) (fun hb H5 e5 => ?_) (fun hb4 H5 e5 => ?_)
  · refine s_ret (e_pl (e_ti ev_c (ev_var rfl) (.inl (by decide))) ev_c) fun H6 e6 => ?_
    have hb := of_decide_eq_true hb
    have et : turns B d = 2 * sz B (xOf d) + 2 := by
      cases d with
      | anew x y t => rfl
      | still n => exact absurd rfl hns
      | same m x y n => exact (same_k hb (by decide +kernel) (by decide +kernel)).elim
      | put x ns => exact absurd (show ("put" : Str) = "anew" from hb) (by decide +kernel)
      | copy x y => exact absurd (show ("copy" : Str) = "anew" from hb) (by decide +kernel)
      | tick x => exact absurd (show ("tick" : Str) = "anew" from hb) (by decide +kernel)
      | alone x => exact absurd (show ("none" : Str) = "anew" from hb) (by decide +kernel)
      | grow x n => exact absurd (show ("grow" : Str) = "anew" from hb) (by decide +kernel)
    have := kk H6 ((e14.trans e5).trans e6)
    rw [et, Int.natCast_add, Int.natCast_mul] at this
    exact this
  refine s_ret ev_c fun H6 e6 => ?_
  have g1 := of_decide_eq_false (Bool.or_eq_false_iff.mp hb2).1
  have g2 := of_decide_eq_false (Bool.or_eq_false_iff.mp hb2).2
  have g3 := of_decide_eq_false hb3
  have g4 := of_decide_eq_false hb4
  have et : turns B d = 1 := by
    cases d with
    | put x ns => exact absurd rfl g1
    | copy x y => exact absurd rfl g2
    | grow x n => exact absurd rfl g3
    | anew x y t => exact absurd rfl g4
    | still n => exact absurd rfl hns
    | _ => rfl
  have := kk H6 ((e14.trans e5).trans e6)
  rw [et] at this
  exact this
/-! ### cells -/
theorem boxes_map {b : Addr} {B : Boxes} (h : BoxesAt H b B) : ∃ as : List Addr, H b = some (.tup (as.map V.ref)) ∧ as.length = B.length ∧
    ∀ (i : Nat) (a : Addr), as[i]? = some a → ∃ (nm : Str) (q : Addr), H a = some (.tup [.str nm, .ref q]) ∧ H q = some (.tup ((B.getD i []).map V.int)) := h
theorem pure_cells (h : sp_cells K vs H Q E) : t_cells K { nx := fun _ H' => Q .non H', rt := Q } (L2.start n_cells vs) H := by
  obtain ⟨_, b, B, x, rfl, hB, hbo, hx, k⟩ := h
  have h8 := hbo.2.1
  obtain ⟨as, h1, h2, h3⟩ := boxes_map hB
  have hcut : cutV (as.map V.ref) none (some (x : Int)) = (as.take x).map V.ref := by
    rw [cut_take, List.map_take]
  have hs : EvL (tLc (iTup K (tSl (rSlA K) (tVar 0) tNoPart (tPart (tVar 1)))) (gName 4) tYes (tCB (rLenS K) (tCons (tOp (rIxT K) (tVar 4) (tC (.int 1))) tNil)) [4]) (L2.start n_cells [.ref b, .int (x : Int)]) H (((List.range x).map fun k => ((sz B k : Nat) : Int)).map V.int) := by
    intro H1 e1 Q1 q1
    refine ⟨.ref b, rfl, .int (x : Int), rfl, (x : Int), rfl, b, as.map V.ref, rfl, st_of (e1 _ _ h1), fun hw => ?_, fun _ p hp => ?_⟩
    · exfalso
      have h4 := hw.2
      rw [HT.sIx_nat, List.length_map] at h4
      omega
    refine ⟨p, rfl, ⟨_, st_of upd_same⟩, fun D hD => ?_⟩
    rw [hcut] at hD ⊢
    have e2 : Ex H (upd H1 p (.tup ((as.take x).map V.ref))) := e1.trans (Ex.new hp)
    generalize hH2 : upd H1 p (.tup ((as.take x).map V.ref)) = H2 at *
    have hp2 : H2 p = some (.tup ((as.take x).map V.ref)) := by
      rw [← hH2]
      exact upd_same
    have e12 : Ex H1 H2 := by
      rw [← hH2]
      exact Ex.new hp
    refine lc_tup (K := K) (a := p) (xs := (as.take x).map V.ref) (Cw H2 (fun _ => true) (fun i => .int ((sz B i : Nat) : Int)) D) ⟨hD, Ex.new hD, upd_same⟩ (fun i H' _ p0 => st_of (p0.2.1 _ _ hp2)) (fun i y H' hi p0 => ⟨rfl, ?_⟩) (fun H' p0 => ?_)
    · rw [List.getElem?_map] at hi
      cases ea : (as.take x)[i]? with
      | none =>
        rw [ea] at hi
        cases hi
      | some a =>
        rw [ea] at hi
        have ey := Option.some.inj hi
        subst ey
        have hix : i < x := by
          have := (List.getElem?_eq_some_iff.mp ea).1
          rw [List.length_take] at this
          omega
        rw [List.getElem?_take_of_lt hix] at ea
        obtain ⟨nm, q, g1, g2⟩ := h3 i a ea
        refine cw_turn p0 (by omega) t_yes fun _ => ?_
        have hl := e_lenT (K := K) (e_ix (K := K) (tb := tC (.int 1)) (ev_var (σ := (wipe (L2.start n_cells [.ref b, .int (x : Int)]) [4]).set 4 (some (.ref a))) (i := 4) rfl) ev_c (e2 _ _ g1) rfl) (e2 _ _ g2)
        rw [List.length_map] at hl
        exact hl
    · have e5 : given ((as.take x).map V.ref).length (fun _ => true) (fun i => V.int ((sz B i : Nat) : Int)) = ((List.range x).map fun k => ((sz B k : Nat) : Int)).map V.int := by
        rw [given_all, List.length_map, List.length_take, Nat.min_eq_left (by omega), List.map_map]
        rfl
      obtain ⟨z1, z2, z3⟩ := p0
      rw [e5] at z3
      exact q1 D H' (fresh_back e12 z1) (e12.trans z2) z3
  refine q_asg (e_sum hs) fun H1 e1 => ?_
  rw [off_sum (by omega)]
  have hl : EvL (tLc (iRng1 (tCons (tCB (rLenS K) (tCons (tOp (rIxT K) (tOp (rIxT K) (tVar 0) (tVar 1)) (tC (.int 1))) tNil)) tNil)) (gName 3) tYes (tOp rPl (tVar 2) (tVar 3)) [3]) [some (.ref b), some (.int (x : Int)), some (.int ((off B x : Nat) : Int)), none, none] H1 (nV (cellsL B x)) := by
    have h1 := el_lcR1 (σ := [some (.ref b), some (.int (x : Int)), some (.int ((off B x : Nat) : Int)), none, none]) (H := H1) (ta := tCons (tCB (rLenS K) (tCons (tOp (rIxT K) (tOp (rIxT K) (tVar 0) (tVar 1)) (tC (.int 1))) tNil)) tNil) (j := 3) (vs := [3]) (n := ((sz B x : Nat) : Int)) (t := tYes) (te := tOp rPl (tVar 2) (tVar 3))
      (fun _ => true) (fun i => .int ((off B x + i : Nat) : Int)) (ea_cons ((e_size (ev_var rfl) (ev_var rfl) hB hx).mono e1) ea_nil) (by have := sz_le0 hbo.2.2 x; omega) (fun _ => rfl) (fun i H1 e hi => t_yes)
      (fun i H1 e hi _ => ev_same (e_pl (ev_var rfl) (ev_var rfl)) (by rw [Int.natCast_add]))
    rw [given_all, Int.toNat_natCast] at h1
    unfold nV cellsL
    rw [List.map_map]
    exact h1
  exact s_retL hl fun p H2 hp e2 h2 => k p H2 (fresh_back e1 hp) (e1.trans e2) h2
end
end Bn
set_option Elab.async false
set_option linter.all false
set_option maxRecDepth 100000
set_option maxHeartbeats 4000000
namespace Bn
open PySem PySem.Spec PyProof.Rows L2 Evl
section
variable {K : PySem.W.Frag} {σ : L2.St} {H H' Hn H0 : Hp} {ta tb tc te tx : TE} {t u : TT} {vs xs ys : List V} {Q : VK} {E : XK} {D : Ends} {tu tw tz : TS} {Φ Ψ : V → Hp → Prop} {v : V} {p l q : Addr} {b : Bool}
/-- a list that H0 does not know -/
def Fr (H0 : Hp) (xs : List V) : V → Hp → Prop := fun v H' => ∃ r, v = .ref r ∧ H0 r = none ∧ H' r = some (.lst xs)
theorem Fr.mono : Mono (Fr H0 xs) := fun v H1 H2 e ⟨r, h1, h2, h3⟩ => ⟨r, h1, h2, e r _ h3⟩
theorem fr_of (h : EvL te σ H xs) (e : Ex H0 H) : Er te σ H (Fr H0 xs) := fun H1 e1 Q q => h H1 e1 _ fun p H2 hp e2 h2 => q _ H2 e2 ⟨p, rfl, fresh_back e (fresh_back e1 hp), h2⟩
theorem fr_var (h : Ev te σ H (.ref p)) (hp : H0 p = none) (hx : H p = some (.lst xs)) : Er te σ H (Fr H0 xs) := er_of h fun H' e => ⟨p, rfl, hp, e p _ hx⟩
/-- a pair of such -/
theorem s_ret2 (ha : Er ta σ H (Fr H0 xs)) (hb : Er tb σ H (Fr H0 ys)) (k : ∀ u r w H1, Ex H H1 → H0 r = none → H0 w = none → H1 u = some (.tup [.ref r, .ref w]) → H1 r = some (.lst xs) → H1 w = some (.lst ys) → D.rt (.ref u) H1) :
    tRet (tTup (tCons ta (tCons tb tNil))) D σ H := by
  refine s_retR (er_tup (ear_cons ha Fr.mono (ear_cons hb Fr.mono ear_nil)) ?_ ?_) ?_
  · rintro _ _ ⟨_, _, rfl, _, _, _, rfl, _, rfl⟩
    simp
  · rintro _ Ha Hb e ⟨_, _, rfl, g1, _, _, rfl, g2, rfl⟩
    exact ⟨_, _, rfl, Fr.mono _ _ _ e g1, _, _, rfl, Fr.mono _ _ _ e g2, rfl⟩
  · rintro _ H1 e1 ⟨u, _, rfl, hu, _, _, rfl, ⟨r, rfl, hr0, hr⟩, _, _, rfl, ⟨w, rfl, hw0, hw⟩, rfl⟩
    exact k u r w H1 e1 hr0 hw0 hu hr hw
theorem el_cells {b : Addr} {B : Boxes} {x : Nat} (ha : Ev ta σ H (.ref b)) (hb : Ev tb σ H (.int (x : Int))) (hB : BoxesAt H b B) (hbo : BOk B) (hx : x < B.length) : EvL (tCall (sp_cells K) [] E0 (tCons ta (tCons tb tNil))) σ H (nV (cellsL B x)) :=
  el_call (ea_cons ha (ea_cons hb ea_nil)) fun H1 e Q q E => ⟨rfl, b, B, x, rfl, hB.keep (.of e), hbo, hx, q⟩
theorem el_cat {p' : Addr} (ha : Ev ta σ H (.ref p)) (hp : H p = some (.lst xs)) (hb : Ev tb σ H (.ref p')) (hp' : H p' = some (.lst ys)) (hz : xs.length + ys.length ≤ 100000) : EvL (tOp rCat ta tb) σ H (xs ++ ys) := fun H1 e Q q =>
  ha H1 e _ fun H2 e2 => hb H2 (e.trans e2) _ fun H3 e3 => ⟨p, p', xs, ys, rfl, rfl, e3 _ _ (e2 _ _ (e _ _ hp)), e3 _ _ (e2 _ _ (e _ _ hp')), sz_of hz, fun t ht => q t _ (fresh_back e2 (fresh_back e3 ht)) ((e2.trans e3).trans (Ex.new ht)) upd_same⟩
theorem cells_len (B : Boxes) (x : Nat) : (cellsL B x).length = sz B x := by
  unfold cellsL
  rw [List.length_map, List.length_range]
theorem at_cells {B : Boxes} {x t : Nat} (h : t < sz B x) : atI (nV (cellsL B x)) (t : Int) = some (.int ((off B x + t : Nat) : Int)) := by
  refine atI_nat ?_
  unfold nV cellsL
  rw [List.map_map, List.getElem?_map, List.getElem?_range h]
  rfl
theorem e_lenC {B : Boxes} {x : Nat} (ha : Ev ta σ H (.ref p)) (hp : H p = some (.lst (nV (cellsL B x)))) : Ev (tCB (rLenS K) (tCons ta tNil)) σ H (.int ((sz B x : Nat) : Int)) := by
  have h := e_lenL (K := K) ha hp
  rw [nV_len, cells_len] at h
  exact h
/-- [x[i]] -/
theorem el_one {B : Boxes} {x t : Nat} (ha : Ev ta σ H (.ref p)) (hp : H p = some (.lst (nV (cellsL B x)))) (hb : Ev tb σ H (.int (t : Int))) (h : t < sz B x) : EvL (tLst (tCons (tOp (rIxL K) ta tb) tNil)) σ H (nV [off B x + t]) :=
  el_lst (ea_cons (e_il ha hb hp (at_cells h)) ea_nil) (by show 1 ≤ 100000; decide)
theorem el_nil : EvL (tLst tNil) σ H (nV []) := el_lst ea_nil (by show 0 ≤ 100000; decide)
theorem at2 {x y z : V} {r : List V} : atI (x :: y :: z :: r) 2 = some z := atI_nat (j := 2) rfl
theorem at3 {x y z v : V} {r : List V} : atI (x :: y :: z :: v :: r) 3 = some v := atI_nat (j := 3) rfl
/-- the tests upon a deed's kind, answered -/
theorem k_no {s s' : Str} {r : List V} (ha : Ev ta σ H (.ref q)) (h : H q = some (.tup (.str s :: r))) (hn : decide (s = s') = false) : EvT (tTest (tOp rEq (tOp (rIxT K) ta (tC (.int 0))) (tC (.str s')))) σ H false := et_is (t_kind ha h) hn
theorem k_yes {s : Str} {r : List V} (ha : Ev ta σ H (.ref q)) (h : H q = some (.tup (.str s :: r))) : EvT (tTest (tOp rEq (tOp (rIxT K) ta (tC (.int 0))) (tC (.str s)))) σ H true := et_is (t_kind ha h) (decide_eq_true rfl)
theorem or_no (h1 : EvT t σ H false) (h2 : EvT u σ H false) : EvT (tOr t u) σ H false := et_or h1 fun _ => h2
theorem or_yes1 (h1 : EvT t σ H true) (h2 : EvT u σ H b) : EvT (tOr t u) σ H true := et_is (et_or h1 fun _ => h2) rfl
theorem or_yes2 (h1 : EvT t σ H false) (h2 : EvT u σ H true) : EvT (tOr t u) σ H true := et_or h1 fun _ => h2
theorem and_no (h1 : EvT t σ H false) : EvT (tAnd t u) σ H false := et_is (et_and (b := true) h1 fun z => by cases z) rfl
theorem and_yes (h1 : EvT t σ H true) (h2 : EvT u σ H b) : EvT (tAnd t u) σ H b := et_is (et_and h1 fun _ => h2) (Bool.true_and b)
theorem pure_touched (h : sp_touched K vs H Q E) : t_touched K { nx := fun _ H' => Q .non H', rt := Q } (L2.start n_touched vs) H := by
  obtain ⟨_, b, q, B, d, t, rfl, hB, hbo, hq, hd, ht, kk⟩ := h
  -- the two empty lists
  have fin0 : ∀ (σ : L2.St) (H1 : Hp), Ex H H1 → tR B d t = [] → tW B d t = [] → tRet (tTup (tCons (tLst tNil) (tCons (tLst tNil) tNil))) { nx := fun _ H' => Q .non H', rt := Q } σ H1 := fun σ H1 e hr hw =>
    s_ret2 (fr_of el_nil e) (fr_of el_nil e) fun u r w H2 e2 h1 h2 h3 h4 h5 => kk u r w H2 h1 h2 (e.trans e2) h3 (by rw [hr]; exact h4) (by rw [hw]; exact h5)
  cases d with
  | still n => exact q_yes (Ex.refl H) (or_yes1 (k_yes (ev_var rfl) hq) (k_no (ev_var rfl) hq (by decide +kernel))) fun H1 e1 => fin0 _ H1 e1 rfl rfl
  | alone x => exact q_yes (Ex.refl H) (or_yes2 (k_no (ev_var rfl) hq (by decide +kernel)) (k_yes (ev_var rfl) hq)) fun H1 e1 => fin0 _ H1 e1 rfl rfl
  | put x ns =>
    obtain ⟨z, hq, hz⟩ := hq
    refine q_no (Ex.refl H) (or_no (k_no (ev_var rfl) hq (by decide +kernel)) (k_no (ev_var rfl) hq (by decide +kernel))) fun H1 e1 => ?_
    refine q_asgL ((el_cells (ev_var rfl) (e_ix (ev_var rfl) ev_c hq at1) hB hbo hd.1).mono e1) fun px H2 hpx e2 h2 => ?_
    have e02 := e1.trans e2
    have hq2 := e02 _ _ hq
    refine q_no (Ex.refl H2) (k_no (ev_var rfl) hq2 (by decide +kernel)) fun H3 e3 => ?_
    refine q_yes e3 (k_yes (ev_var rfl) hq2) fun H4 e4 => ?_
    exact s_ret2 (fr_of el_nil (e02.trans e4)) (fr_of (el_one (ev_var rfl) (e4 _ _ h2) (ev_var rfl) ht) (e02.trans e4)) fun u r w H5 e5 h1 h2 h3 h4 h5 => kk u r w H5 h1 h2 ((e02.trans e4).trans e5) h3 h4 h5
  | copy x y =>
    obtain ⟨hx, hy, hxy⟩ := hd
    have ht : t < sz B x := ht
    refine q_no (Ex.refl H) (or_no (k_no (ev_var rfl) hq (by decide +kernel)) (k_no (ev_var rfl) hq (by decide +kernel))) fun H1 e1 => ?_
    refine q_asgL ((el_cells (ev_var rfl) (e_ix (ev_var rfl) ev_c hq at1) hB hbo hx).mono e1) fun px H2 hpx e2 h2 => ?_
    have e02 := e1.trans e2
    have hq2 := e02 _ _ hq
    refine q_no (Ex.refl H2) (k_no (ev_var rfl) hq2 (by decide +kernel)) fun H3 e3 => ?_
    refine q_no e3 (k_no (ev_var rfl) hq2 (by decide +kernel)) fun H4 e4 => ?_
    refine q_no e4 (and_no (k_no (ev_var rfl) hq2 (by decide +kernel))) fun H5 e5 => ?_
    refine q_no e5 (k_no (ev_var rfl) hq2 (by decide +kernel)) fun H6 e6 => ?_
    refine q_asgL ((el_cells (ev_var rfl) (e_ix (ev_var rfl) ev_c hq2 at2) (hB.keep (.of e02)) hbo hy).mono e6) fun py H7 hpy e7 h7 => ?_
    have e07 := e02.trans (e6.trans e7)
    have h27 := (e6.trans e7) _ _ h2
    have hq7 := e07 _ _ hq
    refine q_yes (Ex.refl H7) (k_yes (ev_var rfl) hq7) fun H8 e8 => ?_
    exact s_ret2 (fr_of (el_one (ev_var rfl) (e8 _ _ h7) (ev_var rfl) (by omega)) (e07.trans e8)) (fr_of (el_one (ev_var rfl) (e8 _ _ h27) (ev_var rfl) ht) (e07.trans e8)) fun u r w H9 e9 h1 h2 h3 h4 h5 => kk u r w H9 h1 h2 ((e07.trans e8).trans e9) h3 h4 h5
  | grow x n =>
    have hx : x < B.length := hd
    have ht : t < 2 * sz B x := ht
    refine q_no (Ex.refl H) (or_no (k_no (ev_var rfl) hq (by decide +kernel)) (k_no (ev_var rfl) hq (by decide +kernel))) fun H1 e1 => ?_
    refine q_asgL ((el_cells (ev_var rfl) (e_ix (ev_var rfl) ev_c hq at1) hB hbo hx).mono e1) fun px H2 hpx e2 h2 => ?_
    have e02 := e1.trans e2
    have hq2 := e02 _ _ hq
    refine q_no (Ex.refl H2) (k_no (ev_var rfl) hq2 (by decide +kernel)) fun H3 e3 => ?_
    refine q_no e3 (k_no (ev_var rfl) hq2 (by decide +kernel)) fun H4 e4 => ?_
    refine q_when ((and_yes (k_yes (ev_var rfl) hq2) (t_lt (ev_var rfl) (e_lenC (ev_var rfl) h2))).mono e4) (fun hb H5 e5 => ?_) (fun hb H5 e5 => ?_)
    · have hb := of_decide_eq_true hb
      have hts : t < sz B x := by omega
      have e25 := e4.trans e5
      have er : tR B (.grow x n) t = [off B x + t] := if_pos hts
      have ew : tW B (.grow x n) t = [] := if_pos hts
      refine s_ret2 (fr_of (el_one (ev_var rfl) (e25 _ _ h2) (ev_var rfl) hts) (e02.trans e25)) (fr_of el_nil (e02.trans e25)) fun u r w H6 e6 h1 h2 h3 h4 h5 => kk u r w H6 h1 h2 ((e02.trans e25).trans e6) h3 (by rw [er]; exact h4) (by rw [ew]; exact h5)
    · have hb := of_decide_eq_false hb
      have hts : ¬ t < sz B x := by omega
      have e25 := e4.trans e5
      have er : tR B (.grow x n) t = [] := if_neg hts
      have ew : tW B (.grow x n) t = [off B x + (t - sz B x)] := if_neg hts
      refine q_yes e25 (k_yes (ev_var rfl) hq2) fun H6 e6 => ?_
      refine s_ret2 (fr_of el_nil (e02.trans e6)) (fr_of (el_one (t := t - sz B x) (ev_var rfl) (e6 _ _ h2) (ev_same (e_mi (ev_var rfl) (e_lenC (ev_var rfl) (e6 _ _ h2))) (by congr 1; omega)) (by omega)) (e02.trans e6)) fun u r w H7 e7 h1 h2 h3 h4 h5 => kk u r w H7 h1 h2 ((e02.trans e6).trans e7) h3 (by rw [er]; exact h4) (by rw [ew]; exact h5)
  | tick x =>
    refine q_no (Ex.refl H) (or_no (k_no (ev_var rfl) hq (by decide +kernel)) (k_no (ev_var rfl) hq (by decide +kernel))) fun H1 e1 => ?_
    refine q_asgL ((el_cells (ev_var rfl) (e_ix (ev_var rfl) ev_c hq at1) hB hbo hd.1).mono e1) fun px H2 hpx e2 h2 => ?_
    have e02 := e1.trans e2
    have hpx0 := fresh_back e1 hpx
    refine q_yes (Ex.refl H2) (k_yes (ev_var rfl) (e02 _ _ hq)) fun H3 e3 => ?_
    exact s_ret2 (fr_var (ev_var rfl) hpx0 (e3 _ _ h2)) (fr_var (ev_var rfl) hpx0 (e3 _ _ h2)) fun u r w H4 e4 h1 h2 h3 h4 h5 => kk u r w H4 h1 h2 ((e02.trans e3).trans e4) h3 h4 h5
  | same m x y n =>
    obtain ⟨hx, hy⟩ := hd
    have hk : ∀ s' : Str, ¬ s' = "is" → ¬ s' = "most" → decide (kindS (.same m x y n) = s') = false := fun s' n1 n2 => decide_eq_false fun z => same_k z n1 n2
    refine q_no (Ex.refl H) (or_no (k_no (ev_var rfl) hq (hk _ (by decide +kernel) (by decide +kernel))) (k_no (ev_var rfl) hq (hk _ (by decide +kernel) (by decide +kernel)))) fun H1 e1 => ?_
    refine q_asgL ((el_cells (ev_var rfl) (e_ix (ev_var rfl) ev_c hq at1) hB hbo hx).mono e1) fun px H2 hpx e2 h2 => ?_
    have e02 := e1.trans e2
    have hq2 := e02 _ _ hq
    refine q_no (Ex.refl H2) (k_no (ev_var rfl) hq2 (hk _ (by decide +kernel) (by decide +kernel))) fun H3 e3 => ?_
    refine q_no e3 (k_no (ev_var rfl) hq2 (hk _ (by decide +kernel) (by decide +kernel))) fun H4 e4 => ?_
    refine q_no e4 (and_no (k_no (ev_var rfl) hq2 (hk _ (by decide +kernel) (by decide +kernel)))) fun H5 e5 => ?_
    refine q_no e5 (k_no (ev_var rfl) hq2 (hk _ (by decide +kernel) (by decide +kernel))) fun H6 e6 => ?_
    refine q_asgL ((el_cells (ev_var rfl) (e_ix (ev_var rfl) ev_c hq2 at2) (hB.keep (.of e02)) hbo hy).mono e6) fun py H7 hpy e7 h7 => ?_
    have e07 := e02.trans (e6.trans e7)
    have h27 := (e6.trans e7) _ _ h2
    have hq7 := e07 _ _ hq
    refine q_no (Ex.refl H7) (k_no (ev_var rfl) hq7 (hk _ (by decide +kernel) (by decide +kernel))) fun H8 e8 => ?_
    have hor : EvT (tOr (tTest (tOp rEq (tOp (rIxT K) (tVar 1) (tC (.int 0))) (tC (.str "is")))) (tTest (tOp rEq (tOp (rIxT K) (tVar 1) (tC (.int 0))) (tC (.str "most"))))) [some (.ref b), some (.ref q), some (.int (t : Int)), some (.ref px), some (.ref py)] H7 true := by
      cases m
      · exact or_yes1 (k_yes (ev_var rfl) hq7) (k_no (ev_var rfl) hq7 (by show decide (("is" : Str) = "most") = false; decide +kernel))
      · exact or_yes2 (k_no (ev_var rfl) hq7 (by show decide (("most" : Str) = "is") = false; decide +kernel)) (k_yes (ev_var rfl) hq7)
    refine q_yes e8 hor fun H9 e9 => ?_
    have s1 := sz_le0 hbo.2.2 x
    have s2 := sz_le0 hbo.2.2 y
    refine s_ret2 (fr_of (el_cat (ev_var rfl) (e9 _ _ h27) (ev_var rfl) (e9 _ _ h7) (by rw [nV_len, nV_len, cells_len, cells_len]; omega)) (e07.trans e9)) (fr_of el_nil (e07.trans e9)) fun u r w H10 e10 h1 h2 h3 h4 h5 => kk u r w H10 h1 h2 ((e07.trans e9).trans e10) h3 ?_ h5
    rw [← nV_append] at h4
    exact h4
  | anew x y s =>
    obtain ⟨hx, hy, hs, hxy, hs1⟩ := hd
    have ht : t < 2 * sz B x + 2 := ht
    refine q_no (Ex.refl H) (or_no (k_no (ev_var rfl) hq (by decide +kernel)) (k_no (ev_var rfl) hq (by decide +kernel))) fun H1 e1 => ?_
    refine q_asgL ((el_cells (ev_var rfl) (e_ix (ev_var rfl) ev_c hq at1) hB hbo hx).mono e1) fun px H2 hpx e2 h2 => ?_
    have e02 := e1.trans e2
    have hq2 := e02 _ _ hq
    refine q_no (Ex.refl H2) (k_no (ev_var rfl) hq2 (by decide +kernel)) fun H3 e3 => ?_
    refine q_no e3 (k_no (ev_var rfl) hq2 (by decide +kernel)) fun H4 e4 => ?_
    refine q_no e4 (and_no (k_no (ev_var rfl) hq2 (by decide +kernel))) fun H5 e5 => ?_
    refine q_no e5 (k_no (ev_var rfl) hq2 (by decide +kernel)) fun H6 e6 => ?_
    refine q_asgL ((el_cells (ev_var rfl) (e_ix (ev_var rfl) ev_c hq2 at2) (hB.keep (.of e02)) hbo hy).mono e6) fun py H7 hpy e7 h7 => ?_
    have e07 := e02.trans (e6.trans e7)
    have h27 := (e6.trans e7) _ _ h2
    have hq7 := e07 _ _ hq
    refine q_no (Ex.refl H7) (k_no (ev_var rfl) hq7 (by decide +kernel)) fun H8 e8 => ?_
    refine q_no e8 (or_no (k_no (ev_var rfl) hq7 (by decide +kernel)) (k_no (ev_var rfl) hq7 (by decide +kernel))) fun H9 e9 => ?_
    refine q_when ((et_or (t_eqI (ev_var rfl) ev_c) fun _ => t_eqI (ev_var rfl) (e_pl (e_lenC (ev_var rfl) h27) ev_c)).mono e9) (fun hb H10 e10 => ?_) (fun hb H10 e10 => ?_)
    · have hc : t = 0 ∨ t = sz B x + 1 := by
        rcases Bool.or_eq_true_iff.mp hb with hb | hb
        · have hb := of_decide_eq_true hb
          omega
        · have hb := of_decide_eq_true hb
          omega
      have er : tR B (.anew x y s) t = cellsL B s := if_pos hc
      have ew : tW B (.anew x y s) t = [] := if_pos (by omega)
      have e710 := e9.trans e10
      refine s_ret2 (fr_of (el_cells (ev_var rfl) (e_ix (ev_var rfl) ev_c (e710 _ _ hq7) at3) (hB.keep (.of (e07.trans e710))) hbo hs) (e07.trans e710)) (fr_of el_nil (e07.trans e710)) fun u r w H11 e11 h1 h2 h3 h4 h5 => kk u r w H11 h1 h2 ((e07.trans e710).trans e11) h3 (by rw [er]; exact h4) (by rw [ew]; exact h5)
    · have hc : ¬ (t = 0 ∨ t = sz B x + 1) := by
        have g1 := of_decide_eq_false (Bool.or_eq_false_iff.mp hb).1
        have g2 := of_decide_eq_false (Bool.or_eq_false_iff.mp hb).2
        omega
      have e710 := e9.trans e10
      refine q_when ((t_le (ev_var rfl) (e_lenC (ev_var rfl) h27)).mono e710) (fun hb H11 e11 => ?_) (fun hb H11 e11 => ?_)
      · have hb := of_decide_eq_true hb
        have hl : t ≤ sz B x := by omega
        have er : tR B (.anew x y s) t = [off B y + (t - 1)] := by
          show (if t = 0 ∨ t = sz B x + 1 then _ else if t ≤ sz B x then _ else _) = _
          rw [if_neg hc, if_pos hl]
        have ew : tW B (.anew x y s) t = [] := if_pos (by omega)
        have e711 := e710.trans e11
        refine s_ret2 (fr_of (el_one (t := t - 1) (ev_var rfl) (e711 _ _ h7) (ev_same (e_mi (ev_var rfl) ev_c) (by congr 1; omega)) (by omega)) (e07.trans e711)) (fr_of el_nil (e07.trans e711)) fun u r w H12 e12 h1 h2 h3 h4 h5 => kk u r w H12 h1 h2 ((e07.trans e711).trans e12) h3 (by rw [er]; exact h4) (by rw [ew]; exact h5)
      · have hb := of_decide_eq_false hb
        have hl : ¬ t ≤ sz B x := by omega
        have er : tR B (.anew x y s) t = [] := by
          show (if t = 0 ∨ t = sz B x + 1 then _ else if t ≤ sz B x then _ else _) = _
          rw [if_neg hc, if_neg hl]
        have ew : tW B (.anew x y s) t = [off B x + (t - sz B x - 2)] := if_neg (by omega)
        have e711 := e710.trans e11
        refine s_ret2 (fr_of el_nil (e07.trans e711)) (fr_of (el_one (t := t - sz B x - 2) (ev_var rfl) (e711 _ _ h27) (ev_same (e_mi (e_mi (ev_var rfl) (e_lenC (ev_var rfl) (e711 _ _ h27))) ev_c) (by congr 1; omega)) (by omega)) (e07.trans e711)) fun u r w H12 e12 h1 h2 h3 h4 h5 => kk u r w H12 h1 h2 ((e07.trans e711).trans e12) h3 (by rw [er]; exact h4) (by rw [ew]; exact h5)
end
end Bn
set_option Elab.async false
set_option linter.all false
set_option maxRecDepth 100000
set_option maxHeartbeats 4000000
namespace Bn
open PySem PySem.Spec PyProof.Rows L2 Evl
/-! ### a step of a deed -/
def takenL (B : Boxes) (d : Deed) (t : Nat) (cs : List Int) : List Int := (tR B d t).map fun k => cs.getD k 0
def sdOf (B : Boxes) : Deed → Nat
  | .grow x _ => sz B x
  | .anew x _ _ => sz B x
  | _ => 0
theorem fr_ne {a b c : V} {h : Addr} {xs : List Int} : HO.lst [a, b, c, .ref h] ≠ HO.lst (xs.map V.int) := by
  intro e
  injection e with e
  have h3 := congrArg (fun l : List V => l[3]?) e
  simp only [List.getElem?_map] at h3
  have h4 : (some (V.ref h) : Option V) = (xs[3]?).map V.int := h3
  cases hx : xs[3]? with
  | none =>
    rw [hx] at h4
    cases h4
  | some i =>
    rw [hx] at h4
    cases h4
theorem at_ints {ns : List Int} {t : Nat} (h : t < ns.length) : atI (ns.map V.int) (t : Int) = some (.int (ns.getD t 0)) := by
  refine atI_nat ?_
  rw [List.getElem?_map, List.getD_eq_getElem?_getD, List.getElem?_eq_getElem h]
  rfl
theorem tR_lt {B : Boxes} {d : Deed} {t : Nat} (hd : DOk B d) (ht : t < turns B d) : ∀ k ∈ tR B d t, k < total B := by
  intro k hk
  have hc : ∀ x, x < B.length → ∀ k ∈ cellsL B x, k < total B := fun x hx k hk => by
    have h1 := off_total hx
    unfold cellsL at hk
    obtain ⟨j, hj, rfl⟩ := List.mem_map.mp hk
    have := List.mem_range.mp hj
    omega
  cases d with
  | put x ns => cases hk
  | copy x y =>
    have h1 := off_total hd.2.1
    have h2 := hd.2.2
    have ht : t < sz B x := ht
    rw [List.mem_singleton.mp hk]
    omega
  | grow x n =>
    have hd : x < B.length := hd
    have h1 := off_total hd
    have hk : k ∈ (if t < sz B x then [off B x + t] else []) := hk
    split at hk
    · rw [List.mem_singleton.mp hk]
      omega
    · cases hk
  | tick x => exact hc x hd.1 k hk
  | still n => cases hk
  | same m x y n =>
    rcases List.mem_append.mp hk with z | z
    · exact hc x hd.1 k z
    · exact hc y hd.2 k z
  | alone x => cases hk
  | anew x y s =>
    have hk : k ∈ (if t = 0 ∨ t = sz B x + 1 then cellsL B s else if t ≤ sz B x then [off B y + (t - 1)] else []) := hk
    split at hk
    · exact hc s hd.2.2.1 k hk
    · split at hk
      · have h1 := off_total hd.2.1
        have h2 := hd.2.2.2.1
        rw [List.mem_singleton.mp hk]
        omega
      · cases hk
/-- all that was tracked but the frame f and the cells c is as it was -/
def Kept (H H' : Hp) (f c : Addr) : Prop := ∀ b o, b ≠ f → b ≠ c → H b = some o → H' b = some o
structure Wk (H2 Hn : Hp) (f c : Addr) (fr : Frm) (cs : List Int) : Prop where
  kept : Kept H2 Hn f c
  fr : FrameAt Hn c f fr
  cl : Hn c = some (.lst (cs.map V.int))
  bf : ∃ xs, H2 f = some (.lst xs)
  bc : ∃ xs, H2 c = some (.lst xs)
section
variable {K : PySem.W.Frag} {σ : L2.St} {H H2 H' Hn H0 : Hp} {ta tb tc te tx : TE} {t u : TT} {vs xs ys : List V} {Q : VK} {E : XK} {D : Ends} {tu tw tz : TS} {Φ Ψ : V → Hp → Prop} {v : V} {p l q b f c : Addr} {fr : Frm} {cs : List Int}
theorem Wk.ex (W : Wk H2 Hn f c fr cs) (e : Ex Hn H') : Wk H2 H' f c fr cs := by
  obtain ⟨h, h1, h2, h3⟩ := W.fr
  exact ⟨fun b o n1 n2 e1 => e _ _ (W.kept b o n1 n2 e1), ⟨h, e _ _ h1, e _ _ h2, h3⟩, e _ _ W.cl, W.bf, W.bc⟩
theorem Wk.tk (W : Wk H2 Hn f c fr cs) : Tk H2 Hn := fun a xs h => by
  obtain ⟨ys, hf⟩ := W.bf
  obtain ⟨zs, hc⟩ := W.bc
  exact W.kept a _ (ne_of h hf (by intro z; cases z)) (ne_of h hc (by intro z; cases z)) h
/-- a number of the frame is stored -/
theorem Wk.setI (W : Wk H2 Hn f c fr cs) {r' p' t' : Nat} {h : Addr} (hf : Hn f = some (.lst [.int (fr.row : Nat), .int (fr.place : Nat), .int (fr.turn : Nat), .ref h])) : Wk H2 (upd Hn f (.lst [.int (r' : Nat), .int (p' : Nat), .int (t' : Nat), .ref h])) f c ⟨r', p', t', fr.hand⟩ cs := by
  obtain ⟨h', h1, h2, h3⟩ := W.fr
  rw [hf] at h1
  have e : h = h' := by
    injection h1 with h1
    injection h1 with h1
    injection h1 with _ h1
    injection h1 with _ h1
    injection h1 with _ h1
    injection h1 with h1 _
    injection h1 with h1
  subst e
  have nhf : h ≠ f := ne_of h2 hf (Ne.symm fr_ne)
  have ncf : c ≠ f := ne_of W.cl hf (Ne.symm fr_ne)
  exact ⟨fun b o n1 n2 e1 => by rw [upd_ne n1]; exact W.kept b o n1 n2 e1, ⟨h, upd_same, by rw [upd_ne nhf]; exact h2, h3⟩, by rw [upd_ne ncf]; exact W.cl, W.bf, W.bc⟩
/-- a new hand -/
theorem Wk.setH (W : Wk H2 Hn f c fr cs) {h hn : Addr} {hand : List Int} (hf : Hn f = some (.lst [.int (fr.row : Nat), .int (fr.place : Nat), .int (fr.turn : Nat), .ref h])) (hh : Hn hn = some (.lst (hand.map V.int))) (hc : hn ≠ c) :
    Wk H2 (upd Hn f (.lst [.int (fr.row : Nat), .int (fr.place : Nat), .int (fr.turn : Nat), .ref hn])) f c ⟨fr.row, fr.place, fr.turn, hand⟩ cs := by
  have nhf : hn ≠ f := ne_of hh hf (Ne.symm fr_ne)
  have ncf : c ≠ f := ne_of W.cl hf (Ne.symm fr_ne)
  exact ⟨fun b o n1 n2 e1 => by rw [upd_ne n1]; exact W.kept b o n1 n2 e1, ⟨hn, upd_same, by rw [upd_ne nhf]; exact hh, hc⟩, by rw [upd_ne ncf]; exact W.cl, W.bf, W.bc⟩
/-- a cell is stored -/
theorem Wk.setC (W : Wk H2 Hn f c fr cs) (k : Nat) (i : Int) : Wk H2 (upd Hn c (.lst ((cs.map V.int).set k (.int i)))) f c fr (cs.set k i) := by
  obtain ⟨h, h1, h2, h3⟩ := W.fr
  have ncf : f ≠ c := ne_of h1 W.cl fr_ne
  exact ⟨fun b o n1 n2 e1 => by rw [upd_ne n2]; exact W.kept b o n1 n2 e1, ⟨h, by rw [upd_ne ncf]; exact h1, by rw [upd_ne h3]; exact h2, h3⟩, by rw [upd_same, List.map_set], W.bf, W.bc⟩
theorem Wk.setT (W : Wk H2 Hn f c fr cs) {h : Addr} {i : Int} {t' : Nat} (hf : Hn f = some (.lst [.int (fr.row : Nat), .int (fr.place : Nat), .int (fr.turn : Nat), .ref h])) (hi : i = (t' : Int)) :
    Wk H2 (upd Hn f (.lst (([.int (fr.row : Nat), .int (fr.place : Nat), .int (fr.turn : Nat), .ref h] : List V).set 2 (.int i)))) f c ⟨fr.row, fr.place, t', fr.hand⟩ cs := by
  subst hi
  exact W.setI (r' := fr.row) (p' := fr.place) (t' := t') hf
theorem Wk.setP (W : Wk H2 Hn f c fr cs) {h : Addr} {i : Int} {p' : Nat} (hf : Hn f = some (.lst [.int (fr.row : Nat), .int (fr.place : Nat), .int (fr.turn : Nat), .ref h])) (hi : i = (p' : Int)) :
    Wk H2 (upd Hn f (.lst (([.int (fr.row : Nat), .int (fr.place : Nat), .int (fr.turn : Nat), .ref h] : List V).set 1 (.int i)))) f c ⟨fr.row, p', fr.turn, fr.hand⟩ cs := by
  subst hi
  exact W.setI (r' := fr.row) (p' := p') (t' := fr.turn) hf
theorem q_setLL {j : Nat} (hl : H l = some (.lst xs)) (h : EvL te σ H ys) (ho : Ev ta σ H (.ref l)) (hi : Ev tb σ H (.int (j : Int))) (hj : j < xs.length) (k : ∀ p H1, H p = none → Ex H H1 → H1 p = some (.lst ys) → tz D σ (upd H1 l (.lst (xs.set j (.ref p))))) :
    tSeq (tAsg te (gSub ta tb rSetL)) tz D σ H := h H (Ex.refl H) _ fun p H1 hp e1 h1 => ho H1 e1 _ fun H2 e2 => hi H2 (e1.trans e2) _ fun H3 e3 =>
  ⟨l, xs, (j : Int), j, rfl, rfl, ((e1.trans e2).trans e3) l _ hl, ixN_nat hj, k p H3 hp ((e1.trans e2).trans e3) (e3 _ _ (e2 _ _ h1))⟩
theorem s_setLL {j : Nat} (hl : H l = some (.lst xs)) (h : EvL te σ H ys) (ho : Ev ta σ H (.ref l)) (hi : Ev tb σ H (.int (j : Int))) (hj : j < xs.length) (k : ∀ p H1, H p = none → Ex H H1 → H1 p = some (.lst ys) → D.nx σ (upd H1 l (.lst (xs.set j (.ref p))))) :
    tAsg te (gSub ta tb rSetL) D σ H := h H (Ex.refl H) _ fun p H1 hp e1 h1 => ho H1 e1 _ fun H2 e2 => hi H2 (e1.trans e2) _ fun H3 e3 =>
  ⟨l, xs, (j : Int), j, rfl, rfl, ((e1.trans e2).trans e3) l _ hl, ixN_nat hj, k p H3 hp ((e1.trans e2).trans e3) (e3 _ _ (e2 _ _ h1))⟩
theorem s_no (e : Ex H Hn) (h : EvT t σ H false) (k : ∀ H1, Ex H H1 → D.nx σ H1) : tIfS t tu tNext D σ Hn := s_when (h.mono e) (fun z => by cases z) fun _ H1 e1 => k H1 (e.trans e1)
theorem s_yes (e : Ex H Hn) (h : EvT t σ H true) (k : ∀ H1, Ex H H1 → tu D σ H1) : tIfS t tu tw D σ Hn := s_if (h.mono e) (fun _ H1 e1 => k H1 (e.trans e1)) fun z => by cases z
theorem e_turns {B : Boxes} {d : Deed} (ha : Ev ta σ H (.ref b)) (hb : Ev tb σ H (.ref q)) (hB : BoxesAt H b B) (hbo : BOk B) (hq : DeedAt H q d) (hd : DOk B d) : Ev (tCall (sp_turns K) [] E0 (tCons ta (tCons tb tNil))) σ H (.int (turns B d : Nat)) :=
  ev_call (ea_cons ha (ea_cons hb ea_nil)) fun H1 e Q q' E => ⟨rfl, b, q, B, d, rfl, hB.keep (.of e), hbo, hq.keep (.of e), hd, q'⟩
/-- the end of a step: the turn's number, the deed's end -/
theorem step_end {B : Boxes} {d : Deed} {v4 v5 v6 v7 v8 : Option V} (W : Wk H2 Hn f c fr cs) (hB : BoxesAt H2 b B) (hbo : BOk B) (hq : DeedAt H2 q d) (hd : DOk B d)
    (kk : ∀ v H', Kept H2 H' f c → FrameAt H' c f (adv B d fr fr.hand) → H' c = some (.lst (cs.map V.int)) → Q v H') :
    r_step_6 K { nx := fun _ H' => Q .non H', rt := Q } [some (.ref b), some (.ref q), some (.ref f), some (.ref c), v4, v5, v6, v7, v8] Hn := by
  unfold r_step_6 b_step_6 r_step_7 b_step_7 r_step_8 b_step_8
  obtain ⟨h, h1, h2, h3⟩ := id W.fr
  refine q_setL (j := 2) h1 (e_pl (e_il (ev_var rfl) ev_c h1 rfl) ev_c) (ev_var rfl) ev_c (by show 2 < 4; decide) fun H3 e3 => ?_
  have W4 := (W.ex e3).setT (t' := fr.turn + 1) (e3 _ _ h1) (i := (fr.turn : Int) + 1) (by omega)
  generalize upd H3 f (.lst (([.int (fr.row : Nat), .int (fr.place : Nat), .int (fr.turn : Nat), .ref h] : List V).set 2 (.int ((fr.turn : Int) + 1)))) = H4 at *
  obtain ⟨h4, g1, g2, g3⟩ := id W4.fr
  refine q_when (t_eqI (e_il (ev_var rfl) ev_c g1 rfl) (e_turns (ev_var rfl) (ev_var rfl) (hB.keep W4.tk) hbo (hq.keep W4.tk) hd)) (fun hb H5 e5 => ?_) (fun hb H5 e5 => ?_)
  · have hb : ((fr.turn + 1 : Nat) : Int) = (turns B d : Nat) := of_decide_eq_true hb
    have hl : fr.turn + 1 = turns B d := by omega
    have ea : adv B d fr fr.hand = ⟨fr.row, fr.place + 1, 0, []⟩ := if_pos hl
    refine q_setL (j := 1) (e5 _ _ g1) (e_pl (e_il (ev_var rfl) ev_c (e5 _ _ g1) rfl) ev_c) (ev_var rfl) ev_c (by show 1 < 4; decide) fun H6 e6 => ?_
    have W7 := ((W4.ex e5).ex e6).setP (p' := fr.place + 1) (e6 _ _ (e5 _ _ g1)) (i := (fr.place : Int) + 1) (by omega)
    generalize upd H6 f _ = H7 at *
    obtain ⟨h7, j1, j2, j3⟩ := id W7.fr
    refine q_setL (j := 2) j1 (ev_c (v := .int 0)) (ev_var rfl) ev_c (by show 2 < 4; decide) fun H8 e8 => ?_
    have W9 := (W7.ex e8).setT (t' := 0) (e8 _ _ j1) (i := 0) rfl
    generalize upd H8 f _ = H9 at *
    obtain ⟨h9, m1, m2, m3⟩ := id W9.fr
    refine s_setLL (j := 3) m1 (el_lst ea_nil (by show 0 ≤ 100000; decide)) (ev_var rfl) ev_c (by show 3 < 4; decide) fun p H10 hp e10 h10 => ?_
    have npc : p ≠ c := fun z => by
      rw [z, W9.cl] at hp
      cases hp
    have W11 := (W9.ex e10).setH (hand := []) (e10 _ _ m1) h10 npc
    dsimp only
    refine s_ret ev_c fun H12 e12 => ?_
    have W12 := Wk.ex W11 e12
    exact kk _ H12 W12.kept (by rw [ea]; exact W12.fr) W12.cl
  · have hb : ¬ ((fr.turn + 1 : Nat) : Int) = (turns B d : Nat) := of_decide_eq_false hb
    have hl : ¬ fr.turn + 1 = turns B d := by omega
    have ea : adv B d fr fr.hand = ⟨fr.row, fr.place, fr.turn + 1, fr.hand⟩ := if_neg hl
    refine s_ret ev_c fun H6 e6 => ?_
    have W6 := (W4.ex e5).ex e6
    exact kk _ H6 W6.kept (by rw [ea]; exact W6.fr) W6.cl
end
end Bn
set_option Elab.async false
set_option linter.all false
set_option maxRecDepth 100000
set_option maxHeartbeats 4000000
namespace Bn
open PySem PySem.Spec PyProof.Rows L2 Evl
def HandW (B : Boxes) (d : Deed) (f : Frm) : Prop := match d with
  | .grow x _ => sz B x ≤ f.turn → f.hand.length = sz B x
  | .anew x _ _ => sz B x + 1 < f.turn → f.hand.length = sz B x + 1
  | _ => True
section
variable {K : PySem.W.Frag} {σ : L2.St} {H H2 H' Hn H0 : Hp} {ta tb tc te tx : TE} {t u : TT} {vs xs ys : List V} {Q : VK} {E : XK} {D : Ends} {tu tw tz : TS} {Φ Ψ : V → Hp → Prop} {v : V} {p l q b f c : Addr} {fr : Frm} {cs : List Int}
theorem q_yesSet {j : Nat} (h : EvT t σ H true) (hl : H l = some (.lst xs)) (hv : Ev te σ H v) (ho : Ev ta σ H (.ref l)) (hi : Ev tb σ H (.int (j : Int))) (hj : j < xs.length) (k : ∀ H1, Ex H H1 → tz D σ (upd H1 l (.lst (xs.set j v)))) :
    tSeq (tIfS t (tAsg te (gSub ta tb rSetL)) tNext) tz D σ H :=
  q_yes (Ex.refl H) h fun H1 e1 => s_setL (e1 _ _ hl) (hv.mono e1) (ho.mono e1) (hi.mono e1) hj fun H2 e2 => k H2 (e1.trans e2)
theorem s_yesSet {j : Nat} (h : EvT t σ H true) (hl : H l = some (.lst xs)) (hv : Ev te σ H v) (ho : Ev ta σ H (.ref l)) (hi : Ev tb σ H (.int (j : Int))) (hj : j < xs.length) (k : ∀ H1, Ex H H1 → D.nx σ (upd H1 l (.lst (xs.set j v)))) :
    tIfS t (tAsg te (gSub ta tb rSetL)) tNext D σ H :=
  s_yes (Ex.refl H) h fun H1 e1 => s_setL (e1 _ _ hl) (hv.mono e1) (ho.mono e1) (hi.mono e1) hj fun H2 e2 => k H2 (e1.trans e2)
theorem nV_one {a i : Nat} {x : V} (h : (nV [a])[i]? = some x) : i = 0 ∧ x = .int (a : Nat) := by
  cases i with
  | zero => exact ⟨rfl, (Option.some.inj h).symm⟩
  | succ n => cases h
/-- the loop over the cells that are written: none or one -/
theorem step_loop {B : Boxes} {d : Deed} {u w tk r : Addr} {v7 v8 : Option V} (W : Wk H2 Hn f c fr cs) (hB : BoxesAt H2 b B) (hbo : BOk B) (hq : DeedAt H2 q d) (hd : DOk B d) (ht : fr.turn < turns B d) (hh : HandW B d fr) (hcl : cs.length = total B)
    (hu : H2 u = some (.tup [.ref r, .ref w])) (hw : H2 w = some (.lst (nV (tW B d fr.turn)))) (htk : H2 tk = some (.lst ((takenL B d fr.turn cs).map V.int))) (nwf : w ≠ f) (nwc : w ≠ c) (ntf : tk ≠ f) (ntc : tk ≠ c)
    (hk : ∀ v7 v8 H', Wk H2 H' f c fr (cellB B d fr cs) → r_step_6 K D [some (.ref b), some (.ref q), some (.ref f), some (.ref c), some (.ref u), some (.ref tk), some (.int (sdOf B d : Nat)), v7, v8] H') :
    r_step_5 K D [some (.ref b), some (.ref q), some (.ref f), some (.ref c), some (.ref u), some (.ref tk), some (.int (sdOf B d : Nat)), v7, v8] Hn := by
  unfold r_step_5 b_step_5
  have hwl : ∀ cs' H', Wk H2 H' f c fr cs' → H' w = some (.lst (nV (tW B d fr.turn))) := fun cs' H' W' => W'.kept w _ nwf nwc hw
  have htl : ∀ cs' H', Wk H2 H' f c fr cs' → H' tk = some (.lst ((takenL B d fr.turn cs).map V.int)) := fun cs' H' W' => W'.kept tk _ ntf ntc htk
  -- the cells behind i turns
  refine q_forLn (e_ix (ev_var rfl) ev_c (W.tk _ _ hu) rfl) (sq_of (hwl _ _ W)) (fun i σ' H' => ∃ v7, σ' = [some (.ref b), some (.ref q), some (.ref f), some (.ref c), some (.ref u), some (.ref tk), some (.int (sdOf B d : Nat)), v7, v8] ∧ ((i = 0 ∧ Wk H2 H' f c fr cs) ∨ (0 < i ∧ Wk H2 H' f c fr (cellB B d fr cs))))
    (fun H1 e1 => ⟨v7, rfl, .inl ⟨rfl, W.ex e1⟩⟩) (fun i σ' H' hi ⟨_, _, h⟩ => sq_of (h.elim (fun z => hwl _ _ z.2) fun z => hwl _ _ z.2)) ?_ ?_
  · rintro i x σ' H' hi ⟨v7, rfl, h⟩
    have h0 : i = 0 → Wk H2 H' f c fr cs := fun z => h.elim (fun y => y.2) fun y => absurd z (by omega)
    clear h
    cases d with
    | still n => cases hi
    | alone x => cases hi
    | same m x y n => cases hi
    | put bx ns =>
      obtain ⟨rfl, rfl⟩ := nV_one hi
      have W' := h0 rfl
      have hx := hd.1
      have ht : fr.turn < sz B bx := ht
      have ho := off_total hx
      obtain ⟨z, hq1, hz1⟩ := hq.keep W'.tk
      obtain ⟨h, g1, g2, g3⟩ := id W'.fr
      refine q_yesSet (k_yes (ev_var rfl) hq1) W'.cl (e_ix (e_ix (ev_var rfl) ev_c hq1 at2) (e_il (ev_var rfl) ev_c g1 rfl) hz1 (at_ints (by have := hd.2; omega))) (ev_var rfl) (ev_var rfl) (by rw [List.length_map]; omega) fun H1 e1 => ?_
      have W1 := (W'.ex e1).setC (off B bx + fr.turn) (ns.getD fr.turn 0)
      generalize upd H1 c _ = H3 at *
      have hq3 := W1.tk _ _ (show H2 q = _ from hq.choose_spec.1)
      refine q_no (Ex.refl H3) (k_no (ev_var rfl) hq3 (by decide +kernel)) fun H4 e4 => ?_
      refine q_no e4 (k_no (ev_var rfl) hq3 (by decide +kernel)) fun H5 e5 => ?_
      refine q_no e5 (k_no (ev_var rfl) hq3 (by decide +kernel)) fun H6 e6 => ?_
      refine s_no e6 (k_no (ev_var rfl) hq3 (by decide +kernel)) fun H7 e7 => ?_
      exact ⟨_, rfl, .inr ⟨by decide, W1.ex e7⟩⟩
    | copy bx y =>
      obtain ⟨rfl, rfl⟩ := nV_one hi
      have W' := h0 rfl
      have hx := hd.1
      have ht : fr.turn < sz B bx := ht
      have ho := off_total hx
      have hq1 := W'.tk _ _ hq
      refine q_no (Ex.refl H') (k_no (ev_var rfl) hq1 (by decide +kernel)) fun H1 e1 => ?_
      have W1 := W'.ex e1
      refine q_yesSet (k_yes (ev_var rfl) (e1 _ _ hq1)) W1.cl (e_il (ev_var rfl) ev_c (htl _ _ W1) (at_ints (t := 0) (by show 0 < 1; decide))) (ev_var rfl) (ev_var rfl) (by rw [List.length_map]; omega) fun H3 e3 => ?_
      have W3 := (W1.ex e3).setC (off B bx + fr.turn) (cs.getD (off B y + fr.turn) 0)
      have hs : (takenL B (.copy bx y) fr.turn cs).getD 0 0 = cs.getD (off B y + fr.turn) 0 := rfl
      rw [hs]
      generalize upd H3 c _ = H4 at *
      have hq3 := W3.tk _ _ hq
      refine q_no (Ex.refl H4) (k_no (ev_var rfl) hq3 (by decide +kernel)) fun H5 e5 => ?_
      refine q_no e5 (k_no (ev_var rfl) hq3 (by decide +kernel)) fun H6 e6 => ?_
      refine s_no e6 (k_no (ev_var rfl) hq3 (by decide +kernel)) fun H7 e7 => ?_
      exact ⟨_, rfl, .inr ⟨by decide, W3.ex e7⟩⟩
    | tick bx =>
      have hx := hd.1
      have hc1 : cellsL B bx = [off B bx] := by
        unfold cellsL
        rw [hd.2]
        rfl
      have hi : (nV (cellsL B bx))[i]? = some x := hi
      rw [hc1] at hi
      obtain ⟨rfl, rfl⟩ := nV_one hi
      have W' := h0 rfl
      have ho := off_total hx
      have ho1 := hd.2
      have hq1 := W'.tk _ _ hq
      have hs : (takenL B (.tick bx) fr.turn cs) = [cs.getD (off B bx) 0] := by
        show (cellsL B bx).map _ = _
        rw [hc1]
        rfl
      rw [hs] at htl
      refine q_no (Ex.refl H') (k_no (ev_var rfl) hq1 (by decide +kernel)) fun H1 e1 => ?_
      refine q_no e1 (k_no (ev_var rfl) hq1 (by decide +kernel)) fun H1 e1 => ?_
      have W1 := W'.ex e1
      refine q_yesSet (k_yes (ev_var rfl) (e1 _ _ hq1)) W1.cl (e_pl (e_il (ev_var rfl) ev_c (htl _ _ W1) (at_ints (t := 0) (by show 0 < 1; decide))) ev_c) (ev_var rfl) (ev_var rfl) (by rw [List.length_map]; omega) fun H3 e3 => ?_
      have W3 := (W1.ex e3).setC (off B bx) (cs.getD (off B bx) 0 + 1)
      show tSeq _ _ _ _ (upd H3 c (.lst ((cs.map V.int).set (off B bx) (.int (cs.getD (off B bx) 0 + 1)))))
      generalize upd H3 c (.lst ((cs.map V.int).set (off B bx) (.int (cs.getD (off B bx) 0 + 1)))) = H4 at *
      have hq3 := W3.tk _ _ hq
      refine q_no (Ex.refl H4) (k_no (ev_var rfl) hq3 (by decide +kernel)) fun H6 e6 => ?_
      refine s_no e6 (k_no (ev_var rfl) hq3 (by decide +kernel)) fun H7 e7 => ?_
      exact ⟨_, rfl, .inr ⟨by decide, W3.ex e7⟩⟩
    | grow bx n =>
      have hx : bx < B.length := hd
      have ht : fr.turn < 2 * sz B bx := ht
      have ho := off_total hx
      by_cases hts : fr.turn < sz B bx
      · have hi : (nV (if fr.turn < sz B bx then [] else [off B bx + (fr.turn - sz B bx)]))[i]? = some x := hi
        rw [if_pos hts] at hi
        cases hi
      · have hi : (nV (if fr.turn < sz B bx then [] else [off B bx + (fr.turn - sz B bx)]))[i]? = some x := hi
        rw [if_neg hts] at hi
        obtain ⟨rfl, rfl⟩ := nV_one hi
        have W' := h0 rfl
        have hq1 := W'.tk _ _ hq
        have hhl : fr.hand.length = sz B bx := hh (by omega)
        have ec : cellB B (.grow bx n) fr cs = cs.set (off B bx + (fr.turn - sz B bx)) (fr.hand.getD (fr.turn - sz B bx) 0 + n) := if_neg hts
        refine q_no (Ex.refl H') (k_no (ev_var rfl) hq1 (by decide +kernel)) fun H1 e1 => ?_
        refine q_no e1 (k_no (ev_var rfl) hq1 (by decide +kernel)) fun H1 e1 => ?_
        refine q_no e1 (k_no (ev_var rfl) hq1 (by decide +kernel)) fun H1 e1 => ?_
        have W1 := W'.ex e1
        obtain ⟨h, g1, g2, g3⟩ := id W1.fr
        refine q_yesSet (k_yes (ev_var rfl) (e1 _ _ hq1)) W1.cl (e_pl (e_il (i := ((fr.turn - sz B bx : Nat) : Int)) (e_il (ev_var rfl) ev_c g1 rfl) (ev_same (e_mi (e_il (ev_var rfl) ev_c g1 rfl) (ev_var rfl)) (by show V.int ((fr.turn : Int) - (sz B bx : Int)) = _; congr 1; omega)) g2 (at_ints (by omega))) (e_ix (ev_var rfl) ev_c (e1 _ _ hq1) at2)) (ev_var rfl) (ev_var rfl) (by rw [List.length_map]; omega) fun H3 e3 => ?_
        have W3 := (W1.ex e3).setC (off B bx + (fr.turn - sz B bx)) (fr.hand.getD (fr.turn - sz B bx) 0 + n)
        show tIfS _ _ _ _ _ (upd H3 c (.lst ((cs.map V.int).set (off B bx + (fr.turn - sz B bx)) (.int (fr.hand.getD (fr.turn - sz B bx) 0 + n)))))
        generalize upd H3 c (.lst ((cs.map V.int).set (off B bx + (fr.turn - sz B bx)) (.int (fr.hand.getD (fr.turn - sz B bx) 0 + n)))) = H4 at *
        have hq3 := W3.tk _ _ hq
        refine s_no (Ex.refl H4) (k_no (ev_var rfl) hq3 (by decide +kernel)) fun H7 e7 => ?_
        rw [ec]
        exact ⟨_, rfl, .inr ⟨by decide, W3.ex e7⟩⟩
    | anew bx y s =>
      have hx := hd.1
      have ht : fr.turn < 2 * sz B bx + 2 := ht
      have ho := off_total hx
      by_cases hts : fr.turn ≤ sz B bx + 1
      · have hi : (nV (if fr.turn ≤ sz B bx + 1 then [] else [off B bx + (fr.turn - sz B bx - 2)]))[i]? = some x := hi
        rw [if_pos hts] at hi
        cases hi
      · have hi : (nV (if fr.turn ≤ sz B bx + 1 then [] else [off B bx + (fr.turn - sz B bx - 2)]))[i]? = some x := hi
        rw [if_neg hts] at hi
        obtain ⟨rfl, rfl⟩ := nV_one hi
        have W' := h0 rfl
        have hq1 := W'.tk _ _ hq
        have hhl : fr.hand.length = sz B bx + 1 := hh (by omega)
        have ec : cellB B (.anew bx y s) fr cs = cs.set (off B bx + (fr.turn - sz B bx - 2)) (fr.hand.getD (fr.turn - sz B bx - 1) 0) := if_neg hts
        refine q_no (Ex.refl H') (k_no (ev_var rfl) hq1 (by decide +kernel)) fun H1 e1 => ?_
        refine q_no e1 (k_no (ev_var rfl) hq1 (by decide +kernel)) fun H1 e1 => ?_
        refine q_no e1 (k_no (ev_var rfl) hq1 (by decide +kernel)) fun H1 e1 => ?_
        refine q_no e1 (k_no (ev_var rfl) hq1 (by decide +kernel)) fun H1 e1 => ?_
        have W1 := W'.ex e1
        obtain ⟨h, g1, g2, g3⟩ := id W1.fr
        refine s_yesSet (k_yes (ev_var rfl) (e1 _ _ hq1)) W1.cl (e_il (i := ((fr.turn - sz B bx - 1 : Nat) : Int)) (e_il (ev_var rfl) ev_c g1 rfl) (ev_same (e_mi (e_mi (e_il (ev_var rfl) ev_c g1 rfl) (ev_var rfl)) ev_c) (by show V.int ((fr.turn : Int) - (sz B bx : Int) - 1) = _; congr 1; omega)) g2 (at_ints (by omega))) (ev_var rfl) (ev_var rfl) (by rw [List.length_map]; omega) fun H3 e3 => ?_
        have W3 := (W1.ex e3).setC (off B bx + (fr.turn - sz B bx - 2)) (fr.hand.getD (fr.turn - sz B bx - 1) 0)
        rw [ec]
        exact ⟨_, rfl, .inr ⟨by decide, W3⟩⟩
  · rintro σ' H' ⟨v7, rfl, h⟩
    rw [nV_len] at h
    refine hk v7 v8 H' ?_
    rcases h with ⟨h0, W'⟩ | ⟨_, W'⟩
    · have e : cellB B d fr cs = cs := by
        cases d with
        | put x ns => cases h0
        | copy x y => cases h0
        | tick x =>
          have h0 : (cellsL B x).length = 0 := h0
          rw [cells_len] at h0
          have := hd.2
          omega
        | grow x n =>
          have h0 : (if fr.turn < sz B x then [] else [off B x + (fr.turn - sz B x)]).length = 0 := h0
          show (if fr.turn < sz B x then cs else _) = cs
          split
          · rfl
          · rename_i z
            rw [if_neg z] at h0
            cases h0
        | anew x y s =>
          have h0 : (if fr.turn ≤ sz B x + 1 then [] else [off B x + (fr.turn - sz B x - 2)]).length = 0 := h0
          show (if fr.turn ≤ sz B x + 1 then cs else _) = cs
          split
          · rfl
          · rename_i z
            rw [if_neg z] at h0
            cases h0
        | _ => rfl
      rw [e]
      exact W'
    · exact W'
/-! ### the whole step -/
theorem er_touched {B : Boxes} {d : Deed} {t : Nat} (ha : Ev ta σ H (.ref b)) (hb : Ev tb σ H (.ref q)) (hc : Ev tc σ H (.int (t : Int))) (hB : BoxesAt H b B) (hbo : BOk B) (hq : DeedAt H q d) (hd : DOk B d) (ht : t < turns B d) :
    Er (tCall (sp_touched K) [] E0 (tCons ta (tCons tb (tCons tc tNil)))) σ H fun v H' => ∃ u r w, v = .ref u ∧ H r = none ∧ H w = none ∧ H' u = some (.tup [.ref r, .ref w]) ∧ H' r = some (.lst (nV (tR B d t))) ∧ H' w = some (.lst (nV (tW B d t))) :=
  er_call (ea_cons ha (ea_cons hb (ea_cons hc ea_nil))) fun H1 e Q q' E => ⟨rfl, b, q, B, d, t, rfl, hB.keep (.of e), hbo, hq.keep (.of e), hd, ht, fun u r w H' h1 h2 e' h3 h4 h5 => q' _ H' e' ⟨u, r, w, rfl, fresh_back e h1, fresh_back e h2, h3, h4, h5⟩⟩
theorem range_map {rs : List Nat} {g : Nat → V} : (List.range rs.length).map (fun i => g (rs.getD i 0)) = rs.map g := by
  refine List.ext_getElem (by simp) fun i h1 h2 => ?_
  have h3 : i < rs.length := by simpa using h2
  simp [List.getElem?_eq_getElem h3]
theorem tR_len {B : Boxes} {d : Deed} {t : Nat} (hbo : BOk B) : (tR B d t).length ≤ 4 := by
  have hs := fun x => sz_le0 hbo.2.2 x
  cases d with
  | grow x n =>
    show (if t < sz B x then [off B x + t] else []).length ≤ 4
    split <;> simp
  | tick x =>
    show (cellsL B x).length ≤ 4
    rw [cells_len]
    have := hs x
    omega
  | same m x y n =>
    show (cellsL B x ++ cellsL B y).length ≤ 4
    rw [List.length_append, cells_len, cells_len]
    have := hs x
    have := hs y
    omega
  | anew x y s =>
    show (if t = 0 ∨ t = sz B x + 1 then cellsL B s else if t ≤ sz B x then [off B y + (t - 1)] else []).length ≤ 4
    split
    · rw [cells_len]
      have := hs s
      omega
    · split <;> simp
  | _ => simp [tR]
theorem taken_lc {rs : List Nat} {tl : TE} {σ : L2.St} {r : Addr} (hl : Ev tl σ H (.ref r)) (hr : H r = some (.lst (nV rs))) (hc : ∀ x : V, ((wipe σ [8]).set 8 (some x))[3]? = some (some (.ref c))) (h8 : ∀ x : V, ((wipe σ [8]).set 8 (some x))[8]? = some (some x)) (hw : ∀ x, wipe ((wipe σ [8]).set 8 (some x)) [8] = wipe σ [8])
    (hcl : H c = some (.lst (cs.map V.int))) (hlt : ∀ k ∈ rs, k < cs.length) (hz : rs.length ≤ 4) : EvL (tLc (iList K tl) (gName 8) tYes (tOp (rIxL K) (tVar 3) (tVar 8)) [8]) σ H ((rs.map fun k => cs.getD k 0).map V.int) := by
  have h1 := el_lcL (K := K) (tl := tl) (σ := σ) (H := H) (a := r) (xs := nV rs) (j := 8) (vs := [8]) (t := tYes) (te := tOp (rIxL K) (tVar 3) (tVar 8)) (fun _ => true) (fun i => V.int (cs.getD (rs.getD i 0) 0)) hl (sq_of hr) (by rw [nV_len]; omega) hw (fun i x H1 e hi => t_yes) (fun i x H1 e hi _ => by
    unfold nV at hi
    rw [List.getElem?_map] at hi
    cases hri : rs[i]? with
    | none =>
      rw [hri] at hi
      cases hi
    | some k =>
      rw [hri] at hi
      have hx := Option.some.inj hi
      subst hx
      have hk : k < cs.length := hlt k (List.mem_of_getElem? hri)
      have e0 : rs.getD i 0 = k := by rw [List.getD_eq_getElem?_getD, hri]; rfl
      rw [e0]
      exact e_il (ev_var (hc _)) (ev_var (h8 _)) (e _ _ hcl) (at_ints hk))
  rw [given_all, nV_len] at h1
  have e1 : (List.range rs.length).map (fun i => V.int (cs.getD (rs.getD i 0) 0)) = (rs.map fun k => cs.getD k 0).map V.int := by
    rw [List.map_map]
    exact range_map (g := fun k => V.int (cs.getD k 0))
  rw [e1] at h1
  exact h1
theorem handW_of {B : Boxes} {d : Deed} (h : HandOk B d fr) : HandW B d ⟨fr.row, fr.place, fr.turn, handB B d fr cs⟩ := by
  cases d with
  | grow x n =>
    intro ht
    have h : fr.hand.length = min fr.turn (sz B x) := h
    have ht : sz B x ≤ fr.turn := ht
    show (if fr.turn < sz B x then _ else fr.hand).length = _
    rw [if_neg (by omega), h]
    omega
  | anew x y s =>
    intro ht
    have h : fr.hand.length = min fr.turn (sz B x + 1) := h
    have ht : sz B x + 1 < fr.turn := ht
    show (if fr.turn = sz B x + 1 then fr.hand else if fr.turn = 0 then _ else if fr.turn ≤ sz B x then _ else fr.hand).length = _
    rw [if_neg (by omega), if_neg (by omega), if_neg (by omega), h]
    omega
  | _ => trivial
theorem cellB_hand {B : Boxes} {d : Deed} (h : HandOk B d fr) : cellB B d ⟨fr.row, fr.place, fr.turn, handB B d fr cs⟩ cs = cellB B d fr cs := by
  cases d with
  | grow x n =>
    show (if fr.turn < sz B x then cs else cs.set _ ((if fr.turn < sz B x then _ else fr.hand).getD _ 0 + n)) = (if fr.turn < sz B x then cs else _)
    split
    · rfl
    · rfl
  | anew x y s =>
    show (if fr.turn ≤ sz B x + 1 then cs else cs.set _ ((if fr.turn = sz B x + 1 then fr.hand else if fr.turn = 0 then _ else if fr.turn ≤ sz B x then _ else fr.hand).getD _ 0)) = (if fr.turn ≤ sz B x + 1 then cs else _)
    split
    · rfl
    · rw [if_neg (by omega), if_neg (by omega), if_neg (by omega)]
  | _ => rfl
/-- the size that the step reckons with, the hand -/
theorem hand_eq {B : Boxes} {d : Deed} (hd : DOk B d) (hbo : BOk B) : (sdOf B d = 0 → handB B d fr cs = fr.hand) ∧ (backB B d fr cs = false → ¬ (∃ x y s, d = .anew x y s ∧ fr.turn = sz B x + 1) → 0 < sdOf B d → handB B d fr cs = fr.hand ++ takenL B d fr.turn cs) := by
  constructor
  · intro h
    cases d with
    | grow x n =>
      have h : sz B x = 0 := h
      have := (sz_le hbo.2.2 (x := x) hd).1
      omega
    | anew x y s =>
      have h : sz B x = 0 := h
      have := (sz_le hbo.2.2 hd.1).1
      omega
    | _ => rfl
  · intro hb hn h0
    cases d with
    | grow x n =>
      show (if fr.turn < sz B x then fr.hand ++ [cs.getD (off B x + fr.turn) 0] else fr.hand) = fr.hand ++ (if fr.turn < sz B x then [off B x + fr.turn] else []).map _
      split
      · rfl
      · simp
    | anew x y s =>
      have hne : ¬ fr.turn = sz B x + 1 := fun z => hn ⟨x, y, s, rfl, z⟩
      have hc1 : cellsL B s = [off B s] := by
        unfold cellsL
        rw [hd.2.2.2.2]
        rfl
      show (if fr.turn = sz B x + 1 then fr.hand else if fr.turn = 0 then fr.hand ++ [cs.getD (off B s) 0] else if fr.turn ≤ sz B x then fr.hand ++ [cs.getD (off B y + (fr.turn - 1)) 0] else fr.hand) =
        fr.hand ++ (if fr.turn = 0 ∨ fr.turn = sz B x + 1 then cellsL B s else if fr.turn ≤ sz B x then [off B y + (fr.turn - 1)] else []).map _
      rw [if_neg hne]
      by_cases h0 : fr.turn = 0
      · rw [if_pos h0, if_pos (.inl h0), hc1]
        rfl
      · have hor : ¬ (fr.turn = 0 ∨ fr.turn = sz B x + 1) := fun z => z.elim h0 hne
        by_cases hl : fr.turn ≤ sz B x
        · rw [if_neg h0, if_pos hl, if_neg hor, if_pos hl]
          rfl
        · rw [if_neg h0, if_neg hl, if_neg hor, if_neg hl]
          simp
    | put x ns => exact absurd h0 (Nat.lt_irrefl 0)
    | copy x y => exact absurd h0 (Nat.lt_irrefl 0)
    | tick x => exact absurd h0 (Nat.lt_irrefl 0)
    | still n => exact absurd h0 (Nat.lt_irrefl 0)
    | same m x y n => exact absurd h0 (Nat.lt_irrefl 0)
    | alone x => exact absurd h0 (Nat.lt_irrefl 0)
end
end Bn
set_option Elab.async false
set_option linter.all false
set_option maxRecDepth 100000
set_option maxHeartbeats 4000000
namespace Bn
open PySem PySem.Spec PyProof.Rows L2 Evl
section
variable {K : PySem.W.Frag} {σ : L2.St} {H H2 H' Hn H0 : Hp} {ta tb tc te tx : TE} {t u : TT} {vs xs ys : List V} {Q : VK} {E : XK} {D : Ends} {tu tw tz : TS} {Φ Ψ : V → Hp → Prop} {v : V} {p l q b f c : Addr} {fr : Frm} {cs : List Int}
theorem sd_yes {B : Boxes} {d : Deed} (h : kindS d = "grow" ∨ kindS d = "anew") : sdOf B d = sz B (xOf d) ∧ kindS d ≠ "still" := by
  have k1 : kindS d ≠ "still" := by
    intro z
    rw [z] at h
    exact h.elim (fun y => absurd y (by decide +kernel)) fun y => absurd y (by decide +kernel)
  refine ⟨?_, k1⟩
  cases d with
  | grow x n => rfl
  | anew x y s => rfl
  | put x ns => exact h.elim (fun y => absurd (show ("put" : Str) = "grow" from y) (by decide +kernel)) fun y => absurd (show ("put" : Str) = "anew" from y) (by decide +kernel)
  | copy x y => exact h.elim (fun y => absurd (show ("copy" : Str) = "grow" from y) (by decide +kernel)) fun y => absurd (show ("copy" : Str) = "anew" from y) (by decide +kernel)
  | tick x => exact h.elim (fun y => absurd (show ("tick" : Str) = "grow" from y) (by decide +kernel)) fun y => absurd (show ("tick" : Str) = "anew" from y) (by decide +kernel)
  | still n => exact absurd rfl k1
  | alone x => exact h.elim (fun y => absurd (show ("none" : Str) = "grow" from y) (by decide +kernel)) fun y => absurd (show ("none" : Str) = "anew" from y) (by decide +kernel)
  | same m x y n => exact h.elim (fun z => (same_k z (by decide +kernel) (by decide +kernel)).elim) fun z => (same_k z (by decide +kernel) (by decide +kernel)).elim
theorem sd_no {B : Boxes} {d : Deed} (h1 : ¬ kindS d = "grow") (h2 : ¬ kindS d = "anew") : sdOf B d = 0 := by
  cases d with
  | grow x n => exact absurd rfl h1
  | anew x y s => exact absurd rfl h2
  | _ => rfl
theorem anew_of {d : Deed} (h : kindS d = "anew") : ∃ x y s, d = .anew x y s := by
  cases d with
  | anew x y s => exact ⟨x, y, s, rfl⟩
  | put x ns => exact absurd (show ("put" : Str) = "anew" from h) (by decide +kernel)
  | copy x y => exact absurd (show ("copy" : Str) = "anew" from h) (by decide +kernel)
  | grow x n => exact absurd (show ("grow" : Str) = "anew" from h) (by decide +kernel)
  | tick x => exact absurd (show ("tick" : Str) = "anew" from h) (by decide +kernel)
  | still n => exact absurd (show ("still" : Str) = "anew" from h) (by decide +kernel)
  | alone x => exact absurd (show ("none" : Str) = "anew" from h) (by decide +kernel)
  | same m x y n => exact (same_k h (by decide +kernel) (by decide +kernel)).elim
theorem pure_step (h : sp_step K vs H Q E) : t_step K { nx := fun _ H' => Q .non H', rt := Q } (L2.start n_step vs) H := by
  obtain ⟨_, b, q, f, c, B, d, fr, cs, rfl, hB, hbo, hq, hd, ht, hh, hF, hcl, hlen, kk⟩ := h
  obtain ⟨h, hf, hhd, hhc⟩ := id hF
  unfold t_step r_step_0 b_step_0
  refine q_asgR (er_touched (ev_var rfl) (ev_var rfl) (e_il (ev_var rfl) ev_c hf rfl) hB hbo hq hd ht) ?_
  rintro _ H1 e1 ⟨u, r, w, rfl, hr0, hw0, hu, hr, hw⟩
  unfold r_step_1 b_step_1
  refine q_asgL (taken_lc (e_ix (ev_var rfl) ev_c hu rfl) hr (fun _ => rfl) (fun _ => rfl) (fun _ => rfl) (e1 _ _ hcl) (fun k hk => by rw [hlen]; exact tR_lt hd ht k hk) (tR_len hbo)) fun tk H2 htk0 e2 htk => ?_
  unfold r_step_2 b_step_2
  refine q_asg (ev_c (v := .int 0)) fun H3 e3 => ?_
  have e03 := (e1.trans e2).trans e3
  have e13 := e2.trans e3
  have W3 : Wk H3 H3 f c fr cs := ⟨fun b o _ _ e => e, ⟨h, e03 _ _ hf, e03 _ _ hhd, hhc⟩, e03 _ _ hcl, ⟨_, e03 _ _ hf⟩, ⟨_, e03 _ _ hcl⟩⟩
  have nwf : w ≠ f := (ne_of_none hf hw0).symm
  have nwc : w ≠ c := (ne_of_none hcl hw0).symm
  have ntf : tk ≠ f := (ne_of_none (e1 _ _ hf) htk0).symm
  have ntc : tk ≠ c := (ne_of_none (e1 _ _ hcl) htk0).symm
  have hB3 := hB.keep (.of e03)
  have hq3 := hq.keep (.of e03)
  have htk3 : H3 tk = some (.lst ((takenL B d fr.turn cs).map V.int)) := e3 _ _ htk
  -- the loop and the end
  have nx5 : ∀ Hn, Wk H3 Hn f c ⟨fr.row, fr.place, fr.turn, handB B d fr cs⟩ cs → backB B d fr cs = false →
      r_step_5 K { nx := fun _ H' => Q .non H', rt := Q } [some (.ref b), some (.ref q), some (.ref f), some (.ref c), some (.ref u), some (.ref tk), some (.int (sdOf B d : Nat)), none, none] Hn := by
    intro Hn W hb
    refine step_loop W hB3 hbo hq3 hd ht (handW_of hh) hlen (e13 _ _ hu) (e13 _ _ hw) htk3 nwf nwc ntf ntc fun v7 v8 H' W' => ?_
    refine step_end W' hB3 hbo hq3 hd fun v H'' hK hFr hC => ?_
    have es : stepF B d fr cs = (adv B d fr (handB B d fr cs), cellB B d fr cs) := by
      unfold stepF
      rw [if_neg (by rw [hb]; exact Bool.false_ne_true)]
    refine kk v H'' (fun b o n1 n2 e => hK b o n1 n2 (e03 _ _ e)) ?_ ?_
    · rw [es]
      exact hFr
    · rw [es]
      rw [cellB_hand hh] at hC
      exact hC
  -- the hand
  have nx4 : ∀ H4, Ex H3 H4 → r_step_4 K { nx := fun _ H' => Q .non H', rt := Q } [some (.ref b), some (.ref q), some (.ref f), some (.ref c), some (.ref u), some (.ref tk), some (.int (sdOf B d : Nat)), none, none] H4 := by
    intro H4 e4
    unfold r_step_4 b_step_4
    have W4 := W3.ex e4
    obtain ⟨kr, hk⟩ := deed_kind hq3
    refine q_ifB ((et_and (t_kind (ev_var rfl) hk) fun _ => t_eqI (e_il (ev_var rfl) ev_c (e03 _ _ hf) rfl) (e_pl (ev_var rfl) ev_c)).mono e4) (fun hb H5 e5 => ?_) (fun hb H5 e5 => ?_)
    · obtain ⟨x, y, s, rfl⟩ := anew_of (of_decide_eq_true (Bool.and_eq_true_iff.mp hb).1)
      have ht1 : (fr.turn : Int) = (sz B x : Int) + 1 := of_decide_eq_true (Bool.and_eq_true_iff.mp hb).2
      have ht1 : fr.turn = sz B x + 1 := by omega
      have hc1 : cellsL B s = [off B s] := by
        unfold cellsL
        rw [hd.2.2.2.2]
        rfl
      have htkl : takenL B (.anew x y s) fr.turn cs = [cs.getD (off B s) 0] := by
        show (if fr.turn = 0 ∨ fr.turn = sz B x + 1 then cellsL B s else _).map _ = _
        rw [if_pos (.inr ht1), hc1]
        rfl
      have hhl : fr.hand.length = min fr.turn (sz B x + 1) := hh
      have W5 := W4.ex e5
      obtain ⟨h5, g1, g2, g3⟩ := id W5.fr
      have ht5 := W5.kept tk _ ntf ntc htk3
      rw [htkl] at ht5
      refine s_when (t_neI (e_il (ev_var rfl) ev_c ht5 (at_ints (t := 0) (by show 0 < 1; decide))) (e_il (e_il (ev_var rfl) ev_c g1 rfl) ev_c g2 (at_ints (t := 0) (by omega)))) (fun hb H6 e6 => ?_) (fun hb H6 e6 => ?_)
      · have hb : (!decide (cs.getD (off B s) 0 = fr.hand.getD 0 0)) = true := hb
        have hbk : backB B (.anew x y s) fr cs = true := by
          show decide (fr.turn = sz B x + 1 ∧ cs.getD (off B s) 0 ≠ fr.hand.getD 0 0) = true
          refine decide_eq_true ⟨ht1, fun z => ?_⟩
          rw [z] at hb
          simp at hb
        have es : stepF B (.anew x y s) fr cs = (⟨fr.row, fr.place, 0, []⟩, cs) := by
          unfold stepF
          rw [if_pos hbk]
        refine q_setL (j := 2) (e6 _ _ g1) (ev_c (v := .int 0)) (ev_var rfl) ev_c (by show 2 < 4; decide) fun H7 e7 => ?_
        have W7 := ((W5.ex e6).ex e7).setT (t' := 0) (e7 _ _ (e6 _ _ g1)) (i := 0) rfl
        generalize upd H7 f _ = H8 at *
        obtain ⟨h8, m1, m2, m3⟩ := id W7.fr
        refine q_setLL (j := 3) m1 (el_lst ea_nil (by show 0 ≤ 100000; decide)) (ev_var rfl) ev_c (by show 3 < 4; decide) fun p H9 hp e9 h9 => ?_
        have npc : p ≠ c := fun z => by
          rw [z, W7.cl] at hp
          cases hp
        have W9 := (W7.ex e9).setH (hand := []) (e9 _ _ m1) h9 npc
        refine s_ret ev_c fun H10 e10 => ?_
        have W10 := Wk.ex W9 e10
        refine kk _ H10 (fun b o n1 n2 e => W10.kept b o n1 n2 (e03 _ _ e)) ?_ ?_
        · rw [es]
          exact W10.fr
        · rw [es]
          exact W10.cl
      · have hb : (!decide (cs.getD (off B s) 0 = fr.hand.getD 0 0)) = false := hb
        have heq : cs.getD (off B s) 0 = fr.hand.getD 0 0 := by
          by_cases z : cs.getD (off B s) 0 = fr.hand.getD 0 0
          · exact z
          · rw [decide_eq_false z] at hb
            cases hb
        have hbk : backB B (.anew x y s) fr cs = false := decide_eq_false fun z => z.2 heq
        have ehb : handB B (.anew x y s) fr cs = fr.hand := if_pos ht1
        refine nx5 H6 ?_ hbk
        rw [ehb]
        exact W5.ex e6
    · have hna : ¬ ∃ x y s, d = .anew x y s ∧ fr.turn = sz B x + 1 := by
        rintro ⟨x, y, s, rfl, h1⟩
        have g : (decide (kindS (.anew x y s) = "anew") && decide ((fr.turn : Int) = ((sdOf B (.anew x y s) : Nat) : Int) + 1)) = true := by
          have h2 : (fr.turn : Int) = ((sdOf B (.anew x y s) : Nat) : Int) + 1 := by
            show (fr.turn : Int) = ((sz B x : Nat) : Int) + 1
            omega
          have h3 : kindS (.anew x y s) = "anew" := rfl
          exact Bool.and_eq_true_iff.mpr ⟨decide_eq_true h3, decide_eq_true h2⟩
        have hb : (decide (kindS (.anew x y s) = "anew") && decide ((fr.turn : Int) = ((sdOf B (.anew x y s) : Nat) : Int) + 1)) = false := hb
        rw [g] at hb
        cases hb
      have hbk : backB B d fr cs = false := by
        cases d with
        | anew x y s => exact decide_eq_false fun z => hna ⟨x, y, s, rfl, z.1⟩
        | _ => rfl
      have he := hand_eq (fr := fr) (cs := cs) hd hbo
      have W5 := W4.ex e5
      refine s_when (t_gr (ev_var rfl) ev_c) (fun hb H6 e6 => ?_) (fun hb H6 e6 => ?_)
      · have hb : (0 : Int) < ((sdOf B d : Nat) : Int) := of_decide_eq_true hb
        have W6 := W5.ex e6
        obtain ⟨h6, g1, g2, g3⟩ := id W6.fr
        have ht6 := W6.kept tk _ ntf ntc htk3
        have hl1 : (takenL B d fr.turn cs).length ≤ 4 := by
          unfold takenL
          rw [List.length_map]
          exact tR_len hbo
        have hl2 : fr.hand.length ≤ 4 := by
          cases d with
          | grow x n =>
            have := sz_le0 hbo.2.2 x
            have hh : fr.hand.length = min fr.turn (sz B x) := hh
            omega
          | anew x y s =>
            have := sz_le0 hbo.2.2 x
            have hh : fr.hand.length = min fr.turn (sz B x + 1) := hh
            omega
          | put x ns => exact absurd hb (Int.lt_irrefl 0)
          | copy x y => exact absurd hb (Int.lt_irrefl 0)
          | tick x => exact absurd hb (Int.lt_irrefl 0)
          | still n => exact absurd hb (Int.lt_irrefl 0)
          | same m x y n => exact absurd hb (Int.lt_irrefl 0)
          | alone x => exact absurd hb (Int.lt_irrefl 0)
        refine s_setLL (j := 3) g1 (el_cat (e_il (ev_var rfl) ev_c g1 rfl) g2 (ev_var rfl) ht6 (by rw [List.length_map, List.length_map]; omega)) (ev_var rfl) ev_c (by show 3 < 4; decide) fun p H7 hp e7 h7 => ?_
        have npc : p ≠ c := fun z => by
          rw [z, W6.cl] at hp
          cases hp
        rw [← List.map_append, ← he.2 hbk hna (by omega)] at h7
        have W8 := (W6.ex e7).setH (hand := handB B d fr cs) (e7 _ _ g1) h7 npc
        exact nx5 _ W8 hbk
      · have hb : ¬ (0 : Int) < ((sdOf B d : Nat) : Int) := of_decide_eq_false hb
        refine nx5 H6 ?_ hbk
        rw [he.1 (by omega)]
        exact W5.ex e6
  unfold r_step_3 b_step_3
  obtain ⟨kr, hk⟩ := deed_kind hq3
  refine q_when (et_or (t_kind (ev_var rfl) hk) fun _ => t_kind (ev_var rfl) hk) (fun hb H4 e4 => ?_) (fun hb H4 e4 => ?_)
  · have hb2 : kindS d = "grow" ∨ kindS d = "anew" := (Bool.or_eq_true_iff.mp hb).elim (fun z => .inl (of_decide_eq_true z)) fun z => .inr (of_decide_eq_true z)
    obtain ⟨s1, s2⟩ := sd_yes (B := B) hb2
    obtain ⟨r2, hk2, hx⟩ := deed_box hq3 hd s2
    refine s_asg ((e_size (ev_var rfl) (e_ix (ev_var rfl) ev_c hk2 at1) hB3 hx).mono e4) fun H5 e5 => ?_
    have := nx4 H5 (e4.trans e5)
    rw [s1] at this
    exact this
  · have hb2 := Bool.or_eq_false_iff.mp hb
    have s1 := sd_no (B := B) (of_decide_eq_false hb2.1) (of_decide_eq_false hb2.2)
    have := nx4 H4 e4
    rw [s1] at this
    exact this
end
end Bn
set_option Elab.async false
set_option linter.all false
set_option maxRecDepth 100000
set_option maxHeartbeats 4000000
namespace Bn
open PySem PySem.Spec PyProof.Rows L2 Evl
section
variable {K : PySem.W.Frag} {σ : L2.St} {H H2 H' Hn H0 : Hp} {ta tb tc te tx td ty : TE} {t u : TT} {vs xs ys : List V} {Q : VK} {E : XK} {D : Ends} {tu tw tz : TS} {Φ Ψ : V → Hp → Prop} {v : V} {p l q b f c a : Addr} {fr : Frm} {cs : List Int} {P : Prog}
theorem or_y (h1 : EvT t σ H true) : EvT (tOr t u) σ H true := et_is (et_or (b := true) h1 fun z => by cases z) rfl
/-! ### rows and their places -/
theorem e_places {rw : Addr} {r : Nat} (ha : Ev ta σ H (.ref rw)) (hb : Ev tb σ H (.int (r : Int))) (h : RowsAt H rw P.rows) (hr : r < P.rows.length) : ∃ pl, Ev (tOp (rIxT K) (tOp (rIxT K) ta tb) (tC (.int 2))) σ H (.ref pl) ∧ PlacesAt H pl (plc P r) := by
  obtain ⟨as, a, pl, nm, h1, _, h2, h3, h4⟩ := rows_at h hr
  exact ⟨pl, e_ix (e_ix ha hb h1 h2) ev_c h3 rfl, h4⟩
theorem e_ln {r : Nat} {pl : Addr} (ha : Ev ta σ H (.ref pl)) (h : PlacesAt H pl (plc P r)) : Ev (tCB (rLenS K) (tCons ta tNil)) σ H (.int (ln P r : Nat)) := by
  obtain ⟨qs, h1, h2, _⟩ := h
  have h3 := e_lenT (K := K) ha h1
  rw [List.length_map, h2] at h3
  exact h3
theorem e_wAt {r i : Nat} {pl : Addr} (ha : Ev ta σ H (.ref pl)) (hb : Ev tb σ H (.int (i : Int))) (h : PlacesAt H pl (plc P r)) (hi : i < ln P r) : Ev (tOp (rIxT K) (tOp (rIxT K) ta tb) (tC (.int 1))) σ H (.int (wAt P r i : Nat)) := by
  have e : (plc P r)[i]? = some (plc P r)[i] := List.getElem?_eq_getElem hi
  obtain ⟨qs, q, da, h1, _, h2, h3, _⟩ := places_at h e
  have ew : wAt P r i = (plc P r)[i].2 := by
    unfold wAt
    rw [e]
  rw [ew]
  exact e_ix (e_ix ha hb h1 h2) ev_c h3 rfl
theorem wAt_end {r i : Nat} (h : ¬ i < ln P r) : wAt P r i = 0 := by
  unfold wAt
  rw [List.getElem?_eq_none (by unfold ln at h; omega)]
theorem e_nrows {rw : Addr} (ha : Ev ta σ H (.ref rw)) (h : RowsAt H rw P.rows) : Ev (tCB (rLenS K) (tCons ta tNil)) σ H (.int (P.rows.length : Nat)) := by
  obtain ⟨qs, h1, h2, _⟩ := h
  have h3 := e_lenT (K := K) ha h1
  rw [List.length_map, h2] at h3
  exact h3
/-- the shut word with one frame's more, as both defs reckon it -/
theorem q_shut {rw fa h : Addr} {w : Nat} {j : Nat} {f : Frm} {tf tr ts : TE} (hf : Ev tf σ H (.ref fa)) (hfa : H fa = some (.lst [.int (f.row : Nat), .int (f.place : Nat), .int (f.turn : Nat), .ref h])) (hr : Ev tr σ H (.ref rw)) (hs : Ev ts σ H (.int (w : Int)))
    (hR : RowsAt H rw P.rows) (hrow : f.row < P.rows.length) (hset : σ.set j (some (.int (w : Int))) = σ) (k : ∀ H1, Ex H H1 → D.nx (σ.set j (some (.int ((w ||| wAt P f.row f.place : Nat) : Int)))) H1) :
    tIfS (tTest (tOp rLt (tOp (rIxL K) tf (tC (.int 1))) (tCB (rLenS K) (tCons (tOp (rIxT K) (tOp (rIxT K) tr (tOp (rIxL K) tf (tC (.int 0)))) (tC (.int 2))) tNil))))
      (tAsg (tOp rOr ts (tOp (rIxT K) (tOp (rIxT K) (tOp (rIxT K) (tOp (rIxT K) tr (tOp (rIxL K) tf (tC (.int 0)))) (tC (.int 2))) (tOp (rIxL K) tf (tC (.int 1)))) (tC (.int 1)))) (gName j)) tNext D σ H := by
  obtain ⟨pl, hpl, hP⟩ := e_places (K := K) hr (e_il (K := K) hf (ev_c (v := .int 0)) hfa (v := .int (f.row : Nat)) rfl) hR hrow
  have hpc := e_il (K := K) (tb := tC (.int 1)) hf ev_c hfa (v := .int (f.place : Nat)) rfl
  refine s_when (t_lt hpc (e_ln hpl hP)) (fun hb H1 e1 => ?_) (fun hb H1 e1 => ?_)
  · have hb := of_decide_eq_true hb
    exact s_asg ((e_or hs (e_wAt hpl hpc hP (by omega))).mono e1) fun H2 e2 => k H2 (e1.trans e2)
  · have hb := of_decide_eq_false hb
    have := k H1 e1
    rw [wAt_end (by omega), Nat.or_zero, hset] at this
    exact this
theorem q_shutS {rw fa h : Addr} {w : Nat} {j : Nat} {f : Frm} {tf tr ts : TE} (hf : Ev tf σ H (.ref fa)) (hfa : H fa = some (.lst [.int (f.row : Nat), .int (f.place : Nat), .int (f.turn : Nat), .ref h])) (hr : Ev tr σ H (.ref rw)) (hs : Ev ts σ H (.int (w : Int)))
    (hR : RowsAt H rw P.rows) (hrow : f.row < P.rows.length) (hset : σ.set j (some (.int (w : Int))) = σ) (k : ∀ H1, Ex H H1 → tz D (σ.set j (some (.int ((w ||| wAt P f.row f.place : Nat) : Int)))) H1) :
    tSeq (tIfS (tTest (tOp rLt (tOp (rIxL K) tf (tC (.int 1))) (tCB (rLenS K) (tCons (tOp (rIxT K) (tOp (rIxT K) tr (tOp (rIxL K) tf (tC (.int 0)))) (tC (.int 2))) tNil))))
      (tAsg (tOp rOr ts (tOp (rIxT K) (tOp (rIxT K) (tOp (rIxT K) (tOp (rIxT K) tr (tOp (rIxL K) tf (tC (.int 0)))) (tC (.int 2))) (tOp (rIxL K) tf (tC (.int 1)))) (tC (.int 1)))) (gName j)) tNext) tz D σ H :=
  q_shut (D := { D with nx := tz D }) hf hfa hr hs hR hrow hset k
theorem PileAt.ex {pile : List Frm} (h : PileAt H l pile) (e : Ex H H') : PileAt H' l pile := by
  obtain ⟨as, h1, h2, h3⟩ := h
  refine ⟨as, e _ _ h1, h2, fun i f fr e1 e2 => ?_⟩
  obtain ⟨h, h4⟩ := h3 i f fr e1 e2
  exact ⟨h, e _ _ h4⟩
theorem pile_top {pile : List Frm} {bs : List Frm} {top : Frm} (h : PileAt H l pile) (hp : pile = bs ++ [top]) : ∃ (xs : List V) (ft h' : Addr), H l = some (.lst xs) ∧ atI xs (-1) = some (.ref ft) ∧ H ft = some (.lst [.int (top.row : Nat), .int (top.place : Nat), .int (top.turn : Nat), .ref h']) := by
  obtain ⟨as, h1, h2, h3⟩ := h
  have hne : as ≠ [] := fun z => by
    rw [z, hp] at h2
    simp at h2
  obtain ⟨as', ft, ea⟩ : ∃ as' ft, as = as' ++ [ft] := ⟨as.dropLast, as.getLast hne, (List.dropLast_concat_getLast hne).symm⟩
  subst ea
  subst hp
  rw [List.length_append, List.length_append] at h2
  have hl : as'.length = bs.length := by simpa using h2
  have e1 : (as' ++ [ft])[as'.length]? = some ft := by rw [List.getElem?_append_right (Nat.le_refl _)]; simp
  have e2 : (bs ++ [top])[as'.length]? = some top := by rw [List.getElem?_append_right (by omega), hl]; simp
  obtain ⟨h', h4⟩ := h3 _ ft top e1 e2
  refine ⟨_, ft, h', h1, ?_, h4⟩
  rw [List.map_append]
  exact atI_last _ _
theorem pure_enters (h : sp_enters K vs H Q E) : t_enters K { nx := fun _ H' => Q .non H', rt := Q } (L2.start n_enters vs) H := by
  obtain ⟨_, p, l, P, pile, fl, rfl, hP, wf, hpl, hne, hv, kk⟩ := h
  obtain ⟨bs, top, hbt⟩ : ∃ bs top, pile = bs ++ [top] := ⟨pile.dropLast, pile.getLast hne, (List.dropLast_concat_getLast hne).symm⟩
  have htr : topR pile = top.row := by
    rw [hbt]
    exact lastR_snoc 0 top bs
  have hrt : top.row < P.rows.length := (hv top (by rw [hbt]; simp)).1
  obtain ⟨bx, rw', g1, g2, g3⟩ := prog_at hP
  have r7 := wf.r7
  unfold t_enters r_enters_0 b_enters_0
  refine q_asg (e_ix (ev_var rfl) ev_c g1 rfl) fun H1 e1 => ?_
  unfold r_enters_1 b_enters_1
  refine q_asg (ev_c (v := .int ((0 : Nat) : Int))) fun H2 e2 => ?_
  have e12 := e1.trans e2
  unfold r_enters_2 b_enters_2
  obtain ⟨as, a1, a2, a3⟩ := id hpl
  refine q_forLn (ev_var rfl) (sq_of (e12 _ _ a1)) (fun i σ' H' => ∃ v5, σ' = [some (.ref p), some (.ref l), some (.int (fl : Nat)), some (.ref rw'), some (.int ((orW P 0 (pile.take i) : Nat) : Int)), v5, none, none] ∧ Ex H H')
    (fun H3 e3 => ⟨none, rfl, e12.trans e3⟩) (fun i σ' H' hi ⟨_, _, e⟩ => sq_of (e _ _ a1)) ?_ ?_
  · rintro i x σ' H' hi ⟨v5, rfl, eH⟩
    rw [List.getElem?_map] at hi
    cases ea : as[i]? with
    | none =>
      rw [ea] at hi
      cases hi
    | some fa =>
      rw [ea] at hi
      have hx := Option.some.inj hi
      subst hx
      have hip : i < pile.length := by
        have := (List.getElem?_eq_some_iff.mp ea).1
        omega
      have ef : pile[i]? = some pile[i] := List.getElem?_eq_getElem hip
      obtain ⟨hh, hfa⟩ := a3 i fa _ ea ef
      have eo : orW P 0 (pile.take (i + 1)) = orW P 0 (pile.take i) ||| wAt P pile[i].row pile[i].place := by
        rw [List.take_succ_eq_append_getElem hip, orW_snoc]
      refine q_shut (f := pile[i]) (ev_var rfl) (eH _ _ hfa) (ev_var rfl) (ev_var rfl) (g3.keep (.of eH)) (hv _ (List.getElem_mem hip)).1 rfl fun H4 e4 => ?_
      exact ⟨_, by rw [eo]; rfl, eH.trans e4⟩
  · rintro σ' H' ⟨v5, rfl, eH⟩
    rw [List.length_map, a2, List.take_length]
    unfold r_enters_3 b_enters_3
    refine q_asg (ev_c (v := .int ((0 : Nat) : Int))) fun H3 e3 => ?_
    unfold r_enters_4 b_enters_4
    have eH3 := eH.trans e3
    refine q_forR2 (lo := 1) (n := (P.rows.length : Nat)) (ea_cons ev_c (ea_cons ((e_nrows (ev_var rfl) g3).mono eH3) ea_nil)) (by omega) (fun i σ' H' => ∃ (fst : Nat) (v7 : Option V), σ' = [some (.ref p), some (.ref l), some (.int (fl : Nat)), some (.ref rw'), some (.int ((orW P 0 pile : Nat) : Int)), v5, some (.int (fst : Nat)), v7] ∧ Ex H H' ∧
        (fst = 0 ∧ (∀ j, j < i + 1 → ¬ Enter P pile fl j) ∨ Enter P pile fl fst))
      (fun H4 e4 => ⟨0, _, rfl, eH3.trans e4, .inl ⟨rfl, fun j hj z => absurd z.1 (by omega)⟩⟩) ?_ ?_
    · rintro i σ' H' hi ⟨fst, v7, rfl, eH', hE⟩
      have hi1 : i + 1 < P.rows.length := by omega
      have ek : (1 : Int) + (i : Int) = ((i + 1 : Nat) : Int) := by omega
      rw [ek]
      obtain ⟨xs, ft, hh, t1, t2, t3⟩ := pile_top (hpl.ex eH') hbt
      have hrk := e_rank (K := K) (P := P) (ev_var (σ := [some (.ref p), some (.ref l), some (.int (fl : Nat)), some (.ref rw'), some (.int ((orW P 0 pile : Nat) : Int)), v5, some (.int (fst : Nat)), some (.int ((i + 1 : Nat) : Int))]) (H := H') (i := 3) rfl) (ev_var (i := 7) rfl) (g3.keep (.of eH')) hi1
      have hrt' := e_rank (K := K) (P := P) (ev_var (σ := [some (.ref p), some (.ref l), some (.int (fl : Nat)), some (.ref rw'), some (.int ((orW P 0 pile : Nat) : Int)), v5, some (.int (fst : Nat)), some (.int ((i + 1 : Nat) : Int))]) (H := H') (i := 3) rfl)
        (e_il (K := K) (tb := tC (.int 0)) (e_il (K := K) (tb := tUn rNg (tC (.int 1))) (ev_var (i := 1) rfl) (ev_un ev_c ru_neg) t1 t2) ev_c t3 (v := .int (top.row : Nat)) rfl) (g3.keep (.of eH')) hrt
      refine s_when (et_and (t_eqI (e_bit (ev_var rfl) (ev_var rfl)) ev_c) fun _ => et_and (t_eqI (e_bit (ev_var rfl) (ev_var rfl)) ev_c) fun _ => t_gr hrk hrt') (fun hb H4 e4 => ?_) (fun hb H4 e4 => ?_)
      · obtain ⟨c1, hb⟩ := Bool.and_eq_true_iff.mp hb
        obtain ⟨c2, c3⟩ := Bool.and_eq_true_iff.mp hb
        have c1 := of_decide_eq_true c1
        have c2 := of_decide_eq_true c2
        have c3 := of_decide_eq_true c3
        have hen : Enter P pile fl (i + 1) := by
          refine ⟨by omega, hi1, ?_, ?_, ?_⟩
          · cases hz : fl.testBit (i + 1) with
            | true => rfl
            | false =>
              rw [hz] at c1
              exact absurd c1 (by decide)
          · show (orW P 0 pile).testBit (i + 1) = false
            cases hz : (orW P 0 pile).testBit (i + 1) with
            | false => rfl
            | true =>
              rw [hz] at c2
              exact absurd c2 (by decide)
          · rw [htr]
            omega
        by_cases hf0 : fst = 0
        · subst hf0
          refine s_yes (Ex.refl H4) (or_y (et_is (t_eqI (ev_var rfl) ev_c) (decide_eq_true rfl))) fun H5 e5 => ?_
          exact s_asg (ev_var rfl) fun H6 e6 => ⟨i + 1, _, rfl, ((eH'.trans e4).trans e5).trans e6, .inr hen⟩
        · have hfn : Enter P pile fl fst := hE.resolve_left fun z => hf0 z.1
          refine s_when ((et_or (t_eqI (ev_var rfl) ev_c) fun _ => t_gr hrk (e_rank (ev_var rfl) (ev_var rfl) (g3.keep (.of eH')) hfn.2.1)).mono e4) (fun _ H5 e5 => ?_) (fun _ H5 e5 => ?_)
          · exact s_asg (ev_var rfl) fun H6 e6 => ⟨i + 1, _, rfl, ((eH'.trans e4).trans e5).trans e6, .inr hen⟩
          · exact ⟨fst, _, rfl, (eH'.trans e4).trans e5, .inr hfn⟩
      · refine ⟨fst, _, rfl, eH'.trans e4, hE.imp (fun z => ⟨z.1, fun j hj hz => ?_⟩) id⟩
        by_cases hji : j < i + 1
        · exact z.2 j hji hz
        · have hj : j = i + 1 := by omega
          subst hj
          obtain ⟨z1, z2, z3, z4, z5⟩ := hz
          rw [htr] at z5
          have z4 : (orW P 0 pile).testBit (i + 1) = false := z4
          have : (decide ((if fl.testBit (i + 1) then (1 : Int) else 0) = 1) && (decide ((if (orW P 0 pile).testBit (i + 1) then (1 : Int) else 0) = 0) && decide (((rk P top.row : Nat) : Int) < ((rk P (i + 1) : Nat) : Int)))) = true := by
            rw [z3, z4]
            simp
            omega
          have hb : (decide ((if fl.testBit (i + 1) then (1 : Int) else 0) = 1) && (decide ((if (orW P 0 pile).testBit (i + 1) then (1 : Int) else 0) = 0) && decide (((rk P top.row : Nat) : Int) < ((rk P (i + 1) : Nat) : Int)))) = false := hb
          rw [this] at hb
          cases hb
    · rintro σ' H' ⟨fst, v7, rfl, eH', hE⟩
      unfold r_enters_5 b_enters_5
      refine s_ret (ev_var rfl) fun H4 e4 => kk fst H4 (hE.imp (fun z => ⟨z.1, fun j hz => ?_⟩) id) (eH'.trans e4)
      refine z.2 j ?_ hz
      have := hz.2.1
      omega
end
end Bn
set_option Elab.async false
set_option linter.all false
set_option maxRecDepth 100000
set_option maxHeartbeats 4000000
namespace Bn
open PySem PySem.Spec PyProof.Rows L2 Evl
section
variable {K : PySem.W.Frag} {σ : L2.St} {H H2 H' Hn H0 : Hp} {ta tb tc te tx td ty : TE} {t u : TT} {vs xs ys : List V} {Q : VK} {E : XK} {D : Ends} {tu tw tz : TS} {Φ Ψ : V → Hp → Prop} {v : V} {p l q b f c a : Addr} {fr : Frm} {cs : List Int} {P : Prog}
/-! ### dicts with pairs of numbers as keys -/
theorem eu_key {r w : Nat} (ha : Ev ta σ H (.int (r : Int))) (hb : Ev tb σ H (.int (w : Int))) : EvU (tTup (tCons ta (tCons tb tNil))) σ H ((key r w).map kV) := eu_tup (ea_cons ha (ea_cons hb ea_nil)) (by show 2 ≤ 100000; decide)
theorem e_dni {kvs : List (List Key × V)} {k : List Key} (hk : EvU ty σ H (k.map kV)) (ha : Ev td σ H (.ref a)) (h : H a = some (.dT kvs)) : Ev (tDNotIn ty td) σ H (.bl (!(valV kvs k).isSome)) := fun H1 e Q q =>
  hk H1 e _ fun y H2 _ e2 hy => ha H2 (e.trans e2) _ fun H3 e3 => ⟨a, valV kvs k, rfl, DGet.t (e3 _ _ (e2 _ _ (e _ _ h))) (e3 _ _ hy), q H3 (e2.trans e3)⟩
theorem e_dniV {kvs : List (List Key × V)} {k : List Key} {y : Addr} (hk : Ev ty σ H (.ref y)) (hy : H y = some (.tup (k.map kV))) (ha : Ev td σ H (.ref a)) (h : H a = some (.dT kvs)) : Ev (tDNotIn ty td) σ H (.bl (!(valV kvs k).isSome)) := fun H1 e Q q =>
  hk H1 e _ fun H2 e2 => ha H2 (e.trans e2) _ fun H3 e3 => ⟨a, valV kvs k, rfl, DGet.t (e3 _ _ (e2 _ _ (e _ _ h))) (e3 _ _ (e2 _ _ (e _ _ hy))), q H3 (e2.trans e3)⟩
theorem e_dget {kvs : List (List Key × V)} {k : List Key} (ha : Ev td σ H (.ref a)) (hk : EvU ty σ H (k.map kV)) (h : H a = some (.dT kvs)) (hv : valV kvs k = some v) : Ev (tDGet td ty) σ H v := fun H1 e Q q =>
  ha H1 e _ fun H2 e2 => hk H2 (e.trans e2) _ fun y H3 _ e3 hy => ⟨a, v, rfl, by
    have g := DGet.t (e3 _ _ (e2 _ _ (e _ _ h))) hy
    rw [hv] at g
    exact g, q H3 (e2.trans e3)⟩
theorem e_dgetV {kvs : List (List Key × V)} {k : List Key} {y : Addr} (ha : Ev td σ H (.ref a)) (hk : Ev ty σ H (.ref y)) (hy : H y = some (.tup (k.map kV))) (h : H a = some (.dT kvs)) (hv : valV kvs k = some v) : Ev (tDGet td ty) σ H v := fun H1 e Q q =>
  ha H1 e _ fun H2 e2 => hk H2 (e.trans e2) _ fun H3 e3 => ⟨a, v, rfl, by
    have g := DGet.t (e3 _ _ (e2 _ _ (e _ _ h))) (e3 _ _ (e2 _ _ (e _ _ hy)))
    rw [hv] at g
    exact g, q H3 (e2.trans e3)⟩
theorem pure_goes (h : sp_goes K vs H Q E) : t_goes K { nx := fun _ H' => Q .non H', rt := Q } (L2.start n_goes vs) H := by
  obtain ⟨_, p, l, a, P, f0, fs, M, D0, rfl, hP, wf, hpl, hv, ⟨kvs, hd, hM⟩, hM0, hbig, hT, kk⟩ := h
  obtain ⟨bx, rw', g1, g2, g3⟩ := prog_at hP
  obtain ⟨as, a1, a2, a3⟩ := id hpl
  have hval : ∀ r w d, M r w = some d → valV kvs (key r w) = some (.int (d : Nat)) := fun r w d h => by rw [hM, h]; rfl
  have r7 := wf.r7
  have hlen8 := thru_len hT
  unfold t_goes r_goes_0 b_goes_0
  refine q_asg (e_ix (ev_var rfl) ev_c g1 rfl) fun H1 e1 => ?_
  unfold r_goes_1 b_goes_1
  refine q_no e1 (et_is (et_B (e_dni (eu_key (r := 0) (w := 0) ev_c ev_c) (ev_var rfl) hd)) (by rw [hval 0 0 D0 hM0]; rfl)) fun H2 e2 => ?_
  unfold r_goes_2 b_goes_2
  refine q_asg ((e_dget (ev_var rfl) (eu_key (r := 0) (w := 0) ev_c ev_c) hd (hval 0 0 D0 hM0)).mono e2) fun H3 e3 => ?_
  unfold r_goes_3 b_goes_3
  refine q_asg (ev_c (v := .int ((0 : Nat) : Int))) fun H4 e4 => ?_
  unfold r_goes_4 b_goes_4
  have e04 := (e2.trans e3).trans e4
  have hll := e_lenL (K := K) (ev_var (σ := [some (.ref p), some (.ref l), some (.ref a), some (.ref rw'), some (.int (D0 : Nat)), some (.int ((0 : Nat) : Int)), none, none, none]) (H := H) (i := 1) rfl) a1
  rw [List.length_map, a2] at hll
  -- the pile is short: its ranks rise
  · refine q_forR2 (lo := 1) (n := ((f0 :: fs).length : Nat)) (ea_cons ev_c (ea_cons (hll.mono e04) ea_nil)) (by rw [List.length_cons]; omega) (fun i σ' H' => ∃ (d w : Nat) (fi : Frm) (v6 v7 v8 : Option V), (f0 :: fs)[i]? = some fi ∧ σ' = [some (.ref p), some (.ref l), some (.ref a), some (.ref rw'), some (.int (d : Nat)), some (.int (w : Nat)), v6, v7, v8] ∧ Ex H H' ∧
        Thru P M d (w ||| wAt P fi.row fi.place) (fs.drop i)) (fun H5 e5 => ⟨D0, 0, f0, none, none, none, rfl, rfl, e04.trans e5, by rw [Nat.zero_or]; exact hT⟩) ?_ ?_
    · rintro i σ' H' hi ⟨d, w, fi, v6, v7, v8, hfi, rfl, eH, hTi⟩
      rw [List.length_cons] at hi
      have hi2 : i < fs.length := by omega
      have ek : (1 : Int) + (i : Int) = ((i + 1 : Nat) : Int) := by omega
      rw [ek]
      have hia : i < as.length := by
        rw [a2, List.length_cons]
        omega
      have hia1 : i + 1 < as.length := by
        rw [a2, List.length_cons]
        omega
      have ea : as[i]? = some as[i] := List.getElem?_eq_getElem hia
      have ea1 : as[i + 1]? = some as[i + 1] := List.getElem?_eq_getElem hia1
      have eg : (f0 :: fs)[i + 1]? = some fs[i] := by
        rw [List.getElem?_cons_succ]
        exact List.getElem?_eq_getElem hi2
      obtain ⟨hh, hfa⟩ := a3 i _ fi ea hfi
      obtain ⟨hg, hga⟩ := a3 (i + 1) _ _ ea1 eg
      have hfm : fi ∈ f0 :: fs := List.mem_of_getElem? hfi
      refine q_asg ((e_il (i := ((i : Nat) : Int)) (ev_var rfl) (ev_same (e_mi (ev_var rfl) ev_c) (by show V.int (((i + 1 : Nat) : Int) - 1) = _; congr 1; omega)) a1 (at_ref ea)).mono eH) fun H5 e5 => ?_
      have eH5 := eH.trans e5
      refine q_shutS (f := fi) (j := 5) (ev_var rfl) (eH5 _ _ hfa) (ev_var rfl) (ev_var rfl) (g3.keep (.of eH5)) (hv fi hfm).1 rfl fun H6 e6 => ?_
      have eH6 := eH5.trans e6
      have hdrop : fs.drop i = fs[i] :: fs.drop (i + 1) := List.drop_eq_getElem_cons hi2
      rw [hdrop] at hTi
      obtain ⟨d', hm', hlt, hT'⟩ := hTi
      refine q_asgU (eu_key (r := fs[i].row) (w := w ||| wAt P fi.row fi.place) (e_il (e_il (ev_var rfl) (ev_var rfl) (eH6 _ _ a1) (at_ref ea1)) ev_c (eH6 _ _ hga) rfl) (ev_var rfl)) fun s H7 hs e7 hs7 => ?_
      have eH7 := eH6.trans e7
      have hd7 := eH7 _ _ hd
      have hvv := hval _ _ _ hm'
      refine q_no (Ex.refl H7) (or_no (et_is (et_B (e_dniV (ev_var rfl) hs7 (ev_var rfl) hd7)) (by rw [hvv]; rfl)) (et_is (t_gq (e_dgetV (ev_var rfl) (ev_var rfl) hs7 hd7 hvv) (ev_var rfl)) (decide_eq_false (by omega)))) fun H8 e8 => ?_
      refine s_asg ((e_dgetV (ev_var rfl) (ev_var rfl) hs7 hd7 hvv).mono e8) fun H9 e9 => ?_
      exact ⟨d', w ||| wAt P fi.row fi.place, fs[i], _, _, _, eg, rfl, (eH7.trans e8).trans e9, hT'⟩
    · rintro σ' H' ⟨d, w, fi, v6, v7, v8, hfi, rfl, eH, hTi⟩
      unfold r_goes_5 b_goes_5
      refine s_ret (ev_same (ev_op (ev_var rfl) ev_c rv_I0) ?_) fun H5 e5 => kk H5 (eH.trans e5)
      show V.bl (decide ((0 : Int) ≤ (d : Int))) = V.bl true
      rw [decide_eq_true (Int.natCast_nonneg d)]
/-! ### the start -/
theorem el_listT (ha : Ev ta σ H (.ref p)) (h : H p = some (.tup xs)) : EvL (tCB (rListS K) (tCons ta tNil)) σ H xs := fun H1 e Q q =>
  ha H1 e _ fun H2 e2 => ⟨p, xs, rfl, Or.inr (ex_t (e.trans e2) (st_of h)), fun l hl => q l _ (fresh_back e2 hl) (e2.trans (Ex.new hl)) upd_same⟩
theorem flat_len : ∀ (B : Boxes), B.flatten.length = total B
  | [] => rfl
  | b :: B => by
    rw [List.flatten_cons, List.length_append, flat_len B]
    unfold total
    rw [List.map_cons, List.sum_cons]
theorem flat_le {B : Boxes} (h : ∀ s ∈ B, 1 ≤ s.length ∧ s.length ≤ 2) : B.flatten.length ≤ 2 * B.length := by
  induction B with
  | nil => simp
  | cons b B ih =>
    have h1 := h b (by simp)
    have h2 := ih fun s hs => h s (by simp [hs])
    rw [List.flatten_cons, List.length_append, List.length_cons]
    omega
theorem pure_start (h : sp_start K vs H Q E) : t_start K { nx := fun _ H' => Q .non H', rt := Q } (L2.start n_start vs) H := by
  obtain ⟨_, p, P, rfl, hP, wf, kk⟩ := h
  obtain ⟨bx, rw', g1, ⟨as, a1, a2, a3⟩, g3⟩ := prog_at hP
  have b8 := wf.b8
  refine q_asgL (el_lst ea_nil (by show 0 ≤ 100000; decide)) fun lc H1 hlc e1 h1 => ?_
  refine q_forT (e_ix (ev_var rfl) ev_c (e1 _ _ g1) rfl) (st_of (e1 _ _ a1)) (fun i σ' H' => ∃ v2, σ' = [some (.ref p), some (.ref lc), v2] ∧ Ex H H' ∧ H' lc = some (.lst ((P.boxes.take i).flatten.map V.int)))
    (fun H2 e2 => ⟨none, rfl, e1.trans e2, e2 _ _ h1⟩) (fun i σ' H' hi ⟨_, _, e, _⟩ => st_of (e _ _ a1)) ?_ ?_
  · rintro i x σ' H' hi ⟨v2, rfl, eH, hl⟩
    rw [List.getElem?_map] at hi
    cases ea : as[i]? with
    | none =>
      rw [ea] at hi
      cases hi
    | some ba =>
      rw [ea] at hi
      have hx := Option.some.inj hi
      subst hx
      have hib : i < P.boxes.length := by
        have := (List.getElem?_eq_some_iff.mp ea).1
        omega
      obtain ⟨nm, q, c1, c2⟩ := a3 i ba ea
      have eg : P.boxes.getD i [] = P.boxes[i] := by rw [List.getD_eq_getElem?_getD, List.getElem?_eq_getElem hib]; rfl
      rw [eg] at c2
      have hs2 := wf.bs _ (List.getElem_mem hib)
      have hfl : (P.boxes.take i).flatten.length ≤ 2 * 8 := by
        have h2 := flat_le (B := P.boxes.take i) fun s hs => wf.bs s (List.mem_of_mem_take hs)
        rw [List.length_take] at h2
        omega
      show tDrop _ _ [some (.ref p), some (.ref lc), some (.ref ba)] H'
      refine s_extL hl (ev_var rfl) (el_listT (e_ix (ev_var rfl) ev_c (eH _ _ c1) rfl) (eH _ _ c2)) (by rw [List.length_map, List.length_map]; omega) fun H2 e2 h2 => ?_
      refine ⟨_, rfl, Ex.mut (eH.trans e2) hlc, ?_⟩
      rw [upd_same, List.take_succ_eq_append_getElem hib, List.flatten_append, List.map_append]
      simp
  · rintro σ' H' ⟨v2, rfl, eH, hl⟩
    rw [List.length_map, a2, List.take_length] at hl
    refine ⟨Nat.zero_le _, fun h hh => ⟨by show 4 ≤ sizeLine; decide, fun f hf => ⟨by show 1 ≤ sizeLine; decide, fun l hl' => ⟨.ref lc, rfl, by show 3 ≤ sizeLine; decide, fun a ha => ?_⟩⟩⟩⟩
    have nhl : h ≠ lc := (ne_of_none hl hh).symm
    have nfh : f ≠ h := fun z => by
      rw [z, upd_same] at hf
      cases hf
    have nlf : l ≠ f := fun z => by
      rw [z, upd_same] at hl'
      cases hl'
    have nal : a ≠ l := fun z => by
      rw [z, upd_same] at ha
      cases ha
    have hf1 : H' f = none := by
      rw [upd_ne nfh] at hf
      exact hf
    have hl2 : (upd H' h (.lst [])) l = none := by
      rw [upd_ne nlf] at hl'
      exact hl'
    have nlh : l ≠ h := fun z => by
      rw [z, upd_same] at hl2
      cases hl2
    have hl1 : H' l = none := by
      rw [upd_ne nlh] at hl2
      exact hl2
    have ha3 : (upd (upd H' h (.lst [])) f (.lst [.int 0, .int 0, .int 0, .ref h])) a = none := by
      rw [upd_ne nal] at ha
      exact ha
    have naf : a ≠ f := fun z => by
      rw [z, upd_same] at ha3
      cases ha3
    have ha2 : (upd H' h (.lst [])) a = none := by
      rw [upd_ne naf] at ha3
      exact ha3
    have nah : a ≠ h := fun z => by
      rw [z, upd_same] at ha2
      cases ha2
    have ha1 : H' a = none := by
      rw [upd_ne nah] at ha2
      exact ha2
    have nfl : f ≠ lc := (ne_of_none hl hf1).symm
    have nll : l ≠ lc := (ne_of_none hl hl1).symm
    have nac : a ≠ lc := (ne_of_none hl ha1).symm
    refine kk a _ P.boxes.flatten (flat_len _) ⟨(((eH.trans (Ex.new hh)).trans (Ex.new hf)).trans (Ex.new hl')).trans (Ex.new ha), l, lc, [f], fresh_back eH ha1, fresh_back eH hl1, hlc, ?_, ?_, ?_, ?_, ?_, rfl, ?_⟩
    · intro g hg
      rw [List.mem_singleton.mp hg]
      exact fresh_back eH hf1
    · exact upd_same
    · rw [upd_ne nal.symm]
      exact upd_same
    · rw [upd_ne nac.symm, upd_ne nll.symm, upd_ne nfl.symm, upd_ne nhl.symm]
      exact hl
    · exact List.nodup_cons.mpr ⟨by simp, List.nodup_nil⟩
    · intro i g fr e1 e2
      cases i with
      | zero =>
        have e1 := Option.some.inj e1
        have e2 := Option.some.inj e2
        subst e1 e2
        refine ⟨h, ?_, ?_, nhl⟩
        · rw [upd_ne naf.symm, upd_ne nlf.symm]
          exact upd_same
        · rw [upd_ne nah.symm, upd_ne nlh.symm, upd_ne nfh.symm]
          exact upd_same
      | succ n => cases e1
end
end Bn
set_option Elab.async false
set_option linter.all false
set_option maxRecDepth 100000
set_option maxHeartbeats 4000000
namespace Bn
open PySem PySem.Spec PyProof.Rows L2 Evl
section
variable {K : PySem.W.Frag} {σ : L2.St} {H H2 H' Hn H0 : Hp} {ta tb tc te tx td ty : TE} {t u : TT} {vs xs ys : List V} {Q : VK} {E : XK} {D : Ends} {tu tw tz : TS} {Φ Ψ : V → Hp → Prop} {v : V} {p l q b f c a : Addr} {fr : Frm} {cs : List Int} {P : Prog} {st : Mst}
theorem e_eqI {i j : Int} (ha : Ev ta σ H (.int i)) (hb : Ev tb σ H (.int j)) : Ev (tOp rEq ta tb) σ H (.bl (decide (i = j))) := by
  refine ev_same (ev_op ha hb (rv_eq rfl)) ?_
  by_cases z : i = j
  · rw [z, decide_eq_true rfl, decide_eq_true rfl]
  · rw [decide_eq_false z, decide_eq_false fun q => z (V.int.inj q)]
theorem NowAt.ex (h : NowAt H0 H a st) (e : Ex H H') : NowAt H0 H' a st := by
  obtain ⟨e0, l, c, as, n1, n2, n3, n4, h1, h2, h3, nd, hl, hf⟩ := h
  refine ⟨e0.trans e, l, c, as, n1, n2, n3, n4, e _ _ h1, e _ _ h2, e _ _ h3, nd, hl, fun i f fr e1 e2 => ?_⟩
  obtain ⟨h, g1, g2, g3⟩ := hf i f fr e1 e2
  exact ⟨h, e _ _ g1, e _ _ g2, g3⟩
theorem pure_rests (h : sp_rests K vs H Q E) : t_rests K { nx := fun _ H' => Q .non H', rt := Q } (L2.start n_rests vs) H := by
  obtain ⟨_, p, a, P, H0, st, rfl, hP, wf, ⟨e0, l, c, as, n1, n2, n3, n4, h1, h2, h3, nd, hl, hf⟩, I, kk⟩ := h
  obtain ⟨bx, rw', g1, g2, g3⟩ := prog_at (hP.keep (.of e0))
  obtain ⟨f0, fs, hpile, hrow, _⟩ := I.nest
  have ha0 : 0 < as.length := by
    rw [hl, hpile]
    simp
  have ea : as[0]? = some as[0] := List.getElem?_eq_getElem ha0
  obtain ⟨hh, j1, j2, j3⟩ := hf 0 _ f0 ea (by rw [hpile]; rfl)
  have hlen := e_lenL (K := K) (e_il (K := K) (tb := tC (.int 1)) (ev_var (σ := L2.start n_rests [.ref p, .ref a]) (i := 1) rfl) ev_c h1 (v := .ref l) rfl) h2
  rw [List.length_map, hl] at hlen
  obtain ⟨pl, hpl, hPl⟩ := e_places (K := K) (P := P) (r := 0) (e_ix (K := K) (tb := tC (.int 1)) (ev_var (σ := L2.start n_rests [.ref p, .ref a]) (i := 0) rfl) ev_c g1 (v := .ref rw') rfl) (ev_c (v := .int ((0 : Nat) : Int))) g3 (by have := wf.r1; omega)
  refine s_ret (ev_andV (e_eqI (e_il (ev_var rfl) ev_c h1 rfl) ev_c) fun _ => ev_andV (e_eqI hlen ev_c) fun _ => e_eqI (e_il (e_il (e_il (ev_var rfl) ev_c h1 rfl) ev_c h2 (at_ref (n := 0) ea)) ev_c j1 (v := .int (f0.place : Nat)) rfl) (e_ln hpl hPl)) fun H1 e1 => kk _ H1 ?_ e1
  constructor
  · intro hb
    obtain ⟨c1, hb⟩ := Bool.and_eq_true_iff.mp hb
    obtain ⟨c2, c3⟩ := Bool.and_eq_true_iff.mp hb
    have c1 := of_decide_eq_true c1
    have c2 := of_decide_eq_true c2
    have c3 := of_decide_eq_true c3
    refine ⟨by omega, f0, ?_, by omega⟩
    rw [hpile] at c2 ⊢
    have : fs.length = 0 := by
      rw [List.length_cons] at c2
      omega
    rw [List.eq_nil_of_length_eq_zero this]
  · rintro ⟨c1, f, c2, c3⟩
    rw [hpile] at c2
    injection c2 with d1 d2
    subst d1 d2
    refine Bool.and_eq_true_iff.mpr ⟨decide_eq_true (by omega), Bool.and_eq_true_iff.mpr ⟨decide_eq_true ?_, decide_eq_true (by omega)⟩⟩
    rw [hpile]
    rfl
/-! ### what stands apart -/
theorem now_ne_l {i : Int} {l c : Addr} {as : List Addr} : HO.lst [.int i, .ref l, .ref c] ≠ HO.lst (as.map V.ref) := by
  intro e
  injection e with e
  cases as with
  | nil => cases e
  | cons a r =>
    injection e with e _
    cases e
theorem now_ne_i {i : Int} {l c : Addr} {xs : List Int} : HO.lst [.int i, .ref l, .ref c] ≠ HO.lst (xs.map V.int) := by
  intro e
  injection e with e
  have h3 : (some (V.ref l) : Option V) = (xs.map V.int)[1]? := congrArg (fun l : List V => l[1]?) e
  rw [List.getElem?_map] at h3
  cases hx : xs[1]? with
  | none =>
    rw [hx] at h3
    cases h3
  | some i =>
    rw [hx] at h3
    cases h3
theorem now_ne_f {i : Int} {l c h : Addr} {x y z : V} : HO.lst [.int i, .ref l, .ref c] ≠ HO.lst [x, y, z, .ref h] := by
  intro e
  injection e with e
  injection e with _ e
  injection e with _ e
  injection e with _ e
  cases e
theorem pile_ne_f {as : List Addr} {h : Addr} {x : Int} {y z : V} : HO.lst (as.map V.ref) ≠ HO.lst [.int x, y, z, .ref h] := by
  intro e
  injection e with e
  cases as with
  | nil => cases e
  | cons a r =>
    injection e with e _
    cases e
theorem pile_ne_i {as : List Addr} {xs : List Int} (h : as ≠ []) : HO.lst (as.map V.ref) ≠ HO.lst (xs.map V.int) := by
  intro e
  injection e with e
  cases as with
  | nil => exact h rfl
  | cons a r =>
    cases xs with
    | nil => cases e
    | cons x s =>
      injection e with e _
      cases e
/-- the machine as it stands, spelled out -/
structure Now (H0 H : Hp) (a l c : Addr) (as : List Addr) (st : Mst) : Prop where
  ex : Ex H0 H
  na : H0 a = none
  nl : H0 l = none
  nc : H0 c = none
  nf : ∀ f ∈ as, H0 f = none
  ha : H a = some (.lst [.int (st.flags : Nat), .ref l, .ref c])
  hl : H l = some (.lst (as.map V.ref))
  hc : H c = some (.lst (st.cells.map V.int))
  nd : as.Nodup
  len : as.length = st.pile.length
  fr : ∀ (i : Nat) (f : Addr) (fr : Frm), as[i]? = some f → st.pile[i]? = some fr → FrameAt H c f fr
  ne : st.pile ≠ []
theorem NowAt.now (h : NowAt H0 H a st) (ne : st.pile ≠ []) : ∃ l c as, Now H0 H a l c as st := by
  obtain ⟨e0, l, c, as, n1, n2, n3, n4, h1, h2, h3, nd, hl, hf⟩ := h
  exact ⟨l, c, as, e0, n1, n2, n3, n4, h1, h2, h3, nd, hl, hf, ne⟩
theorem Now.at {as : List Addr} (N : Now H0 H a l c as st) : NowAt H0 H a st := ⟨N.ex, l, c, as, N.na, N.nl, N.nc, N.nf, N.ha, N.hl, N.hc, N.nd, N.len, N.fr⟩
theorem Now.grow {as : List Addr} (N : Now H0 H a l c as st) (e : Ex H H') : Now H0 H' a l c as st := by
  refine ⟨N.ex.trans e, N.na, N.nl, N.nc, N.nf, e _ _ N.ha, e _ _ N.hl, e _ _ N.hc, N.nd, N.len, fun i f fr e1 e2 => ?_, N.ne⟩
  obtain ⟨h, g1, g2, g3⟩ := N.fr i f fr e1 e2
  exact ⟨h, e _ _ g1, e _ _ g2, g3⟩
theorem Now.asne {as : List Addr} (N : Now H0 H a l c as st) : as ≠ [] := fun z => by
  have := N.len
  rw [z] at this
  have h2 : st.pile.length = 0 := this.symm
  exact N.ne (List.eq_nil_of_length_eq_zero h2)
theorem Now.frame {as : List Addr} (N : Now H0 H a l c as st) {f : Addr} (hf : f ∈ as) : ∃ (i : Nat) (fr : Frm), as[i]? = some f ∧ st.pile[i]? = some fr ∧ FrameAt H c f fr := by
  obtain ⟨i, hi⟩ := List.getElem?_of_mem hf
  have hi2 : i < st.pile.length := by
    rw [← N.len]
    exact (List.getElem?_eq_some_iff.mp hi).1
  exact ⟨i, st.pile[i], hi, List.getElem?_eq_getElem hi2, N.fr i f _ hi (List.getElem?_eq_getElem hi2)⟩
theorem Now.setFlags {as : List Addr} (N : Now H0 H a l c as st) (fl : Nat) : Now H0 (upd H a (.lst [.int (fl : Nat), .ref l, .ref c])) a l c as ⟨fl, st.pile, st.cells⟩ := by
  have nla : l ≠ a := (ne_of N.ha N.hl now_ne_l).symm
  have nca : c ≠ a := (ne_of N.ha N.hc now_ne_i).symm
  refine ⟨Ex.mut N.ex N.na, N.na, N.nl, N.nc, N.nf, upd_same, by rw [upd_ne nla]; exact N.hl, by rw [upd_ne nca]; exact N.hc, N.nd, N.len, fun i f fr e1 e2 => ?_, N.ne⟩
  obtain ⟨h, g1, g2, g3⟩ := N.fr i f fr e1 e2
  exact ⟨h, by rw [upd_ne (ne_of N.ha g1 now_ne_f).symm]; exact g1, by rw [upd_ne (ne_of N.ha g2 now_ne_i).symm]; exact g2, g3⟩
/-- a new frame on the pile: f was new, its hand h was new -/
theorem Now.push {as : List Addr} (N : Now H0 H a l c as st) {f : Addr} {fr : Frm} (hF : FrameAt H c f fr) (h0 : H0 f = none) (hn : f ∉ as) : Now H0 (upd H l (.lst (as.map V.ref ++ [.ref f]))) a l c (as ++ [f]) ⟨st.flags, st.pile ++ [fr], st.cells⟩ := by
  have nal : a ≠ l := ne_of N.ha N.hl now_ne_l
  have ncl : c ≠ l := (ne_of N.hl N.hc (pile_ne_i N.asne)).symm
  have keep : ∀ (g : Addr) (gr : Frm), FrameAt H c g gr → FrameAt (upd H l (.lst (as.map V.ref ++ [.ref f]))) c g gr := by
    rintro g gr ⟨h, g1, g2, g3⟩
    exact ⟨h, by rw [upd_ne (ne_of N.hl g1 pile_ne_f).symm]; exact g1, by rw [upd_ne (ne_of N.hl g2 (pile_ne_i N.asne)).symm]; exact g2, g3⟩
  refine ⟨Ex.mut N.ex N.nl, N.na, N.nl, N.nc, fun g hg => ?_, by rw [upd_ne nal]; exact N.ha, by rw [upd_same, List.map_append]; rfl, by rw [upd_ne ncl]; exact N.hc, ?_, by rw [List.length_append, List.length_append, N.len]; rfl, fun i g gr e1 e2 => ?_, by simp⟩
  · rcases List.mem_append.mp hg with z | z
    · exact N.nf g z
    · rw [List.mem_singleton.mp z]
      exact h0
  · exact nd_snoc N.nd hn
  · rcases snoc_at N.len e1 e2 with ⟨z1, z2⟩ | ⟨rfl, rfl⟩
    · exact keep _ _ (N.fr i g gr z1 z2)
    · exact keep _ _ hF
/-- the top's frame and the cells have changed -/
theorem Now.stepped {as bs : List Addr} {bp : List Frm} {top fr : Frm} {f : Addr} {cs : List Int} (N : Now H0 H a l c as st) (hp : st.pile = bp ++ [top]) (has : as = bs ++ [f]) (hK : Kept H H' f c) (hF : FrameAt H' c f fr) (hC : H' c = some (.lst (cs.map V.int))) :
    Now H0 H' a l c as ⟨st.flags, bp ++ [fr], cs⟩ := by
  have hlen : bs.length = bp.length := by
    have := N.len
    rw [has, hp, List.length_append, List.length_append] at this
    simpa using this
  have hfm : f ∈ as := by rw [has]; simp
  obtain ⟨_, top', _, _, hft⟩ := N.frame hfm
  obtain ⟨h, g1, g2, g3⟩ := hft
  have nal : a ≠ f := ne_of N.ha g1 now_ne_f
  have nac : a ≠ c := ne_of N.ha N.hc now_ne_i
  have nlf : l ≠ f := ne_of N.hl g1 pile_ne_f
  have nlc : l ≠ c := ne_of N.hl N.hc (pile_ne_i N.asne)
  refine ⟨fun b o e => hK b o (fun z => by rw [z, N.nf f hfm] at e; cases e) (fun z => by rw [z, N.nc] at e; cases e) (N.ex b o e), N.na, N.nl, N.nc, N.nf, hK _ _ nal nac N.ha, hK _ _ nlf nlc N.hl, hC, N.nd, by rw [has, List.length_append, List.length_append, hlen]; rfl, fun i g gr e1 e2 => ?_, by simp⟩
  rw [has] at e1
  have e1' := e1
  rcases snoc_at hlen e1 e2 with ⟨z1, z2⟩ | ⟨rfl, rfl⟩
  · have hgm : g ∈ bs := List.mem_of_getElem? z1
    have hi : i < bp.length := (List.getElem?_eq_some_iff.mp z2).1
    have e3 : st.pile[i]? = some gr := by
      rw [hp, List.getElem?_append_left hi]
      exact z2
    obtain ⟨hh, j1, j2, j3⟩ := N.fr i g gr (by rw [has]; exact e1') e3
    have ngf : g ≠ f := fun z => by
      have nd := N.nd
      rw [has] at nd
      have := List.nodup_append.mp nd
      exact this.2.2 g hgm f (by simp) z
    have ngc : g ≠ c := ne_of j1 N.hc fr_ne
    have nhf : hh ≠ f := (ne_of g1 j2 fr_ne).symm
    exact ⟨hh, hK _ _ ngf ngc j1, hK _ _ nhf j3 j2, j3⟩
  · exact hF
/-- the top is taken off -/
theorem Now.pop {as bs : List Addr} {bp : List Frm} {top : Frm} {f : Addr} (N : Now H0 H a l c as st) (hp : st.pile = bp ++ [top]) (has : as = bs ++ [f]) (hne : bp ≠ []) : Now H0 (upd H l (.lst (bs.map V.ref))) a l c bs ⟨st.flags, bp, st.cells⟩ := by
  have hlen : bs.length = bp.length := by
    have := N.len
    rw [has, hp, List.length_append, List.length_append] at this
    simpa using this
  have nal : a ≠ l := ne_of N.ha N.hl now_ne_l
  have ncl : c ≠ l := (ne_of N.hl N.hc (pile_ne_i N.asne)).symm
  have hnd := N.nd
  rw [has] at hnd
  refine ⟨Ex.mut N.ex N.nl, N.na, N.nl, N.nc, fun g hg => N.nf g (by rw [has]; simp [hg]), by rw [upd_ne nal]; exact N.ha, upd_same, by rw [upd_ne ncl]; exact N.hc, (List.nodup_append.mp hnd).1, hlen, fun i g gr e1 e2 => ?_, hne⟩
  have hi : i < bs.length := (List.getElem?_eq_some_iff.mp e1).1
  have hi2 : i < bp.length := by omega
  obtain ⟨h, g1, g2, g3⟩ := N.fr i g gr (by rw [has, List.getElem?_append_left hi]; exact e1) (by rw [hp, List.getElem?_append_left hi2]; exact e2)
  exact ⟨h, by rw [upd_ne (ne_of N.hl g1 pile_ne_f).symm]; exact g1, by rw [upd_ne (ne_of N.hl g2 (pile_ne_i N.asne)).symm]; exact g2, g3⟩
theorem Now.pile {as : List Addr} (N : Now H0 H a l c as st) : PileAt H l st.pile := ⟨as, N.hl, N.len, fun i f fr e1 e2 => by
  obtain ⟨h, g1, _, _⟩ := N.fr i f fr e1 e2
  exact ⟨h, g1⟩⟩
theorem q_asgCall {sp : Sp} {dvs : List V} {E : XK} {tA : TA} {i : Nat} (h : EvA tA σ H vs) (hs : ∀ H1, Ex H H1 → sp (vs ++ dvs) H1 (fun v H2 => tz D (σ.set i (some v)) H2) E) : tSeq (tAsg (tCall sp dvs E tA) (gName i)) tz D σ H := h H (Ex.refl H) _ fun H1 e => hs H1 e
theorem en_enters {pile : List Frm} {fl : Nat} (ha : Ev ta σ H (.ref p)) (hb : Ev tb σ H (.ref l)) (hc : Ev tc σ H (.int (fl : Int))) (hP : ProgAt H p P) (wf : WF P) (hpl : PileAt H l pile) (ne : pile ≠ []) (hv : ∀ f ∈ pile, f.row < P.rows.length ∧ f.place ≤ ln P f.row) :
    EvN (tCall (sp_enters K) [] E0 (tCons ta (tCons tb (tCons tc tNil)))) σ H fun k => k = 0 ∧ (∀ j, ¬ Enter P pile fl j) ∨ Enter P pile fl k :=
  er_call (ea_cons ha (ea_cons hb (ea_cons hc ea_nil))) fun H1 e Q q' E => ⟨rfl, p, l, P, pile, fl, rfl, hP.keep (.of e), wf, hpl.ex e, ne, hv, fun k H' hk e' => q' _ H' e' ⟨k, rfl, hk⟩⟩
/-! ### a turn -/
theorem fv_le {f : Frm} (h : FV P f) : f.row < P.rows.length ∧ f.place ≤ ln P f.row := by
  have h2 := fv_vp h
  refine ⟨h.1, ?_⟩
  rcases h2 with z | ⟨z1, z2⟩
  · omega
  · exact Nat.le_of_eq z2
theorem pure_turn (h : sp_turn K vs H Q E) : t_turn K { nx := fun _ H' => Q .non H', rt := Q } (L2.start n_turn vs) H := by
  obtain ⟨_, p, a, P, H0, st, w, rfl, hP0, wf, hN, I, hw, kk⟩ := h
  obtain ⟨f0, fs, hpile, hrow, hnest⟩ := I.nest
  have hne : st.pile ≠ [] := by rw [hpile]; simp
  obtain ⟨l, c, as, N⟩ := hN.now hne
  obtain ⟨bp, top, hbt⟩ : ∃ bs top, st.pile = bs ++ [top] := ⟨st.pile.dropLast, st.pile.getLast hne, (List.dropLast_concat_getLast hne).symm⟩
  have htm : top ∈ st.pile := by rw [hbt]; simp
  obtain ⟨bs, f, has⟩ : ∃ bs f, as = bs ++ [f] := ⟨as.dropLast, as.getLast N.asne, (List.dropLast_concat_getLast N.asne).symm⟩
  have hlen : bs.length = bp.length := by
    have := N.len
    rw [has, hbt, List.length_append, List.length_append] at this
    simpa using this
  have hlast : atI (as.map V.ref) (-1) = some (.ref f) := by
    rw [has, List.map_append]
    exact atI_last _ _
  have eaf : as[bs.length]? = some f := by
    rw [has, List.getElem?_append_right (Nat.le_refl _)]
    simp
  have ept : st.pile[bs.length]? = some top := by
    rw [hbt, List.getElem?_append_right (by omega), hlen]
    simp
  have hrt := (fv_le (I.fv top htm)).1
  have hfl128 : (st.flags ||| w) < 128 := or_lt (n := 7) (Nat.lt_of_lt_of_le I.fl (Nat.le_trans (Nat.pow_le_pow_right (by decide) wf.r7) (by decide))) hw
  have h10 : rk P 0 + fs.length ≤ 9 := nest_len wf (by rw [wf.rk0]; omega) hnest
  have hpl10 : st.pile.length ≤ 10 := by
    rw [hpile, List.length_cons]
    omega
  unfold t_turn r_turn_0 b_turn_0
  refine q_setL (j := 0) N.ha (e_or (e_il (ev_var rfl) ev_c N.ha rfl) (ev_var rfl)) (ev_var rfl) ev_c (by show 0 < 3; decide) fun H1 e1 => ?_
  have N2 := (N.grow e1).setFlags (st.flags ||| w)
  show r_turn_1 K _ [some (.ref p), some (.ref a), some (.int (w : Nat)), none, none, none, none] (upd H1 a (.lst [.int ((st.flags ||| w : Nat) : Int), .ref l, .ref c]))
  generalize upd H1 a (.lst [.int ((st.flags ||| w : Nat) : Int), .ref l, .ref c]) = H2 at *
  generalize hfl : (st.flags ||| w) = fl at *
  unfold r_turn_1 b_turn_1
  have hP2 := hP0.keep (.of N2.ex)
  refine q_asgN (en_enters (ev_var rfl) (e_il (ev_var rfl) ev_c N2.ha (v := .ref l) rfl) (e_il (ev_var rfl) ev_c N2.ha (v := .int (fl : Nat)) rfl) hP2 wf N2.pile hne fun f hf => fv_le (I.fv f hf)) fun k H3 e3 hk => ?_
  have N3 := N2.grow e3
  have hP3 := hP2.keep (.of e3)
  unfold r_turn_2 b_turn_2
  refine q_when (t_gr (ev_var rfl) ev_c) (fun hb H4 e4 => ?_) (fun hb H4 e4 => ?_)
  · -- a bell enters
    have hb : (0 : Int) < (k : Int) := of_decide_eq_true hb
    have hen : Enter P st.pile fl k := hk.resolve_left fun z => by
      have := z.1
      omega
    obtain ⟨hb1, _⟩ := bit_down k (by have := hen.2.1; have := wf.r7; omega) fl hfl128 hen.2.2.1
    have N4 := N3.grow e4
    have hsub : ((fl : Nat) : Int) - 1 * 2 ^ k = ((fl - 2 ^ k : Nat) : Int) := by
      rw [pow2_int, Int.natCast_sub hb1]
    refine q_setL (j := 0) N4.ha (ev_same (e_mi (e_il (ev_var rfl) ev_c N4.ha (v := .int (fl : Nat)) rfl) (e_shl (j := k) ev_c (ev_var rfl) (by have := hen.2.1; have := wf.r7; omega) (by decide))) (by rw [hsub])) (ev_var rfl) ev_c (by show 0 < 3; decide) fun H5 e5 => ?_
    have N6 := (N4.grow e5).setFlags (fl - 2 ^ k)
    show tSeq _ _ _ [some (.ref p), some (.ref a), some (.int (w : Nat)), some (.int (k : Nat)), none, none, none] (upd H5 a (.lst [.int ((fl - 2 ^ k : Nat) : Int), .ref l, .ref c]))
    generalize upd H5 a (.lst [.int ((fl - 2 ^ k : Nat) : Int), .ref l, .ref c]) = H6 at *
    -- now[1].append([bell, 0, 0, []])
    refine ⟨.ref a, rfl, a, _, 1, .ref l, rfl, rfl, sq_of N6.ha, rfl, .inl ⟨rfl, _, sq_of N6.hl⟩, ⟨_, rfl, ⟨Nat.zero_le _, fun h hh => ⟨by show 4 ≤ sizeLine; decide, fun g hg => ?_⟩⟩⟩⟩
    have N8 := (N6.grow (Ex.new hh)).grow (Ex.new (o := .lst [.int (k : Nat), .int 0, .int 0, .ref h]) hg)
    have ngh : g ≠ h := fun z => by
      rw [z, upd_same] at hg
      cases hg
    have hF : FrameAt (upd (upd H6 h (.lst [])) g (.lst [.int (k : Nat), .int 0, .int 0, .ref h])) c g ⟨k, 0, 0, []⟩ := by
      refine ⟨h, upd_same, ?_, (ne_of_none N6.hc hh).symm⟩
      rw [upd_ne ngh.symm]
      exact upd_same
    have hg6 : H6 g = none := by
      rw [upd_ne ngh] at hg
      exact hg
    have hgas : g ∉ as := fun z => by
      obtain ⟨_, _, _, _, hh', j1, _⟩ := N6.frame z
      rw [j1] at hg6
      cases hg6
    have N9 := N8.push hF (fresh_back N6.ex hg6) hgas
    refine ⟨l, as.map V.ref, .ref g, rfl, rfl, N8.hl, ?_, ?_⟩
    · rw [List.length_map, N.len]
      exact Nat.lt_of_le_of_lt hpl10 (by decide)
    · exact kk _ _ _ (.inl ⟨k, by rw [hfl]; exact hen, by rw [hfl]⟩) N9.at
  · have hb : ¬ (0 : Int) < (k : Int) := of_decide_eq_false hb
    have hno : ∀ j, ¬ Enter P st.pile fl j := by
      rcases hk with z | z
      · exact z.2
      · have := z.1
        omega
    have N4 := N3.grow e4
    have hP4 := hP3.keep (.of e4)
    obtain ⟨ht, j1, j2, j3⟩ := N4.fr _ f top eaf ept
    obtain ⟨bx, rw', g1, g2, g3⟩ := prog_at hP4
    unfold r_turn_3 b_turn_3
    refine q_asg (e_il (e_il (ev_var rfl) ev_c N4.ha (v := .ref l) rfl) (ev_un ev_c ru_neg) N4.hl hlast) fun H5 e5 => ?_
    have N5 := N4.grow e5
    unfold r_turn_4 b_turn_4
    obtain ⟨pl, hpl, hPl⟩ := e_places (K := K) (P := P) (r := top.row) (e_ix (K := K) (tb := tC (.int 1)) (ev_var (σ := [some (.ref p), some (.ref a), some (.int (w : Nat)), some (.int (k : Nat)), some (.ref f), none, none]) (i := 0) rfl) ev_c (e5 _ _ g1) (v := .ref rw') rfl)
      (e_il (K := K) (tb := tC (.int 0)) (ev_var (i := 4) rfl) ev_c (e5 _ _ j1) (v := .int (top.row : Nat)) rfl) (g3.keep (.of e5)) hrt
    refine q_asg hpl fun H6 e6 => ?_
    have N6 := N5.grow e6
    have hPl6 := hPl.keep (.of e6)
    have j16 := e6 _ _ (e5 _ _ j1)
    unfold r_turn_5 b_turn_5
    refine q_when (t_eqI (e_il (ev_var rfl) ev_c j16 (v := .int (top.place : Nat)) rfl) (e_ln (P := P) (r := top.row) (ev_var rfl) hPl6)) (fun hb H7 e7 => ?_) (fun hb H7 e7 => ?_)
    · -- idle
      have hb : ((top.place : Nat) : Int) = ((ln P top.row : Nat) : Int) := of_decide_eq_true hb
      refine s_ret ev_c fun H8 e8 => kk _ _ _ (.inr ⟨by rw [hfl]; exact hno, bp, top, hbt, .inl ⟨by omega, by rw [hfl]⟩⟩) ((N6.grow e7).grow e8).at
    · have hb : ¬ ((top.place : Nat) : Int) = ((ln P top.row : Nat) : Int) := of_decide_eq_false hb
      have hlt : top.place < (plc P top.row).length := by
        have := (fv_le (I.fv top htm)).2
        unfold ln at this hb
        omega
      obtain ⟨d, w', hdp⟩ : ∃ d w', (plc P top.row)[top.place]? = some (d, w') := ⟨_, _, List.getElem?_eq_getElem hlt⟩
      have ham : Amid P top d := by
        obtain ⟨_, ⟨d1, ⟨w1, h1⟩, h2, h3⟩ | ⟨h2, h3⟩⟩ := I.fv top htm
        · rw [hdp] at h1
          injection h1 with h1
          injection h1 with q1 q2
          subst q1
          exact ⟨⟨_, hdp⟩, h2, h3⟩
        · have := h3.1
          unfold ln at this
          omega
      have hdok := (wf.dk _ _ _ _ hdp).1
      have hbo : BOk P.boxes := ⟨wf.b1, wf.b8, wf.bs⟩
      have N7 := N6.grow e7
      have e47 := (e5.trans e6).trans e7
      obtain ⟨qs, q, da, k1, _, k2, k3, k4⟩ := places_at (hPl6.keep (.of e7)) hdp
      have j17 := e7 _ _ j16
      unfold r_turn_6 b_turn_6
      refine q_asgCall (ea_cons (e_ix (ev_var rfl) ev_c (e47 _ _ g1) (v := .ref bx) rfl) (ea_cons (e_ix (e_ix (ev_var rfl) (e_il (ev_var rfl) ev_c j17 (v := .int (top.place : Nat)) rfl) k1 k2) ev_c k3 (v := .ref da) rfl) (ea_cons (ev_var rfl) (ea_cons (e_il (ev_var rfl) ev_c N7.ha (v := .ref c) rfl) ea_nil)))) fun H8 e8 => ?_
      have N8 := N7.grow e8
      have e48 := e47.trans e8
      refine ⟨rfl, bx, da, f, c, P.boxes, d, top, st.cells, rfl, g2.keep (.of e48), hbo, k4.keep (.of e8), hdok, ham.2.1, ham.2.2, N8.fr _ f top eaf ept, N8.hc, I.cl, fun v H9 hK hF hC => ?_⟩
      have N9 := N8.stepped hbt has hK hF hC
      have hrow9 := stepF_row (B := P.boxes) (d := d) (f := top) (c := st.cells)
      have hPl9 : PlacesAt H9 pl (plc P top.row) := by
        have h6 := ((hPl6.keep (.of e7)).keep (.of e8))
        refine h6.keep fun b xs hx => ?_
        obtain ⟨hh, z1, _⟩ := N8.fr _ f top eaf ept
        exact hK b _ (ne_of hx z1 (by intro z; cases z)) (ne_of hx N8.hc (by intro z; cases z)) hx
      obtain ⟨h9, z1, z2, z3⟩ := id hF
      unfold r_turn_7 b_turn_7
      refine q_when (et_and (t_gr (e_il (ev_var rfl) ev_c z1 (v := .int ((stepF P.boxes d top st.cells).1.row : Nat)) rfl) ev_c) fun _ => t_eqI (e_il (ev_var rfl) ev_c z1 (v := .int ((stepF P.boxes d top st.cells).1.place : Nat)) rfl) (e_ln (P := P) (r := top.row) (ev_var rfl) hPl9)) (fun hb H10 e10 => ?_) (fun hb H10 e10 => ?_)
      · have hc1 := of_decide_eq_true (Bool.and_eq_true_iff.mp hb).1
        have hc2 := of_decide_eq_true (Bool.and_eq_true_iff.mp hb).2
        rw [hrow9] at hc1
        have hcond : 0 < top.row ∧ (stepF P.boxes d top st.cells).1.place = ln P top.row := ⟨by omega, by omega⟩
        have hbne : bp ≠ [] := fun z => by
          rw [z] at hbt
          rw [hbt] at hpile
          injection hpile with y1 y2
          rw [y1, hrow] at hcond
          exact absurd hcond.1 (Nat.lt_irrefl 0)
        have N10 := N9.grow e10
        have N11 := N10.pop rfl has hbne
        have hdl : (as.map V.ref).dropLast = bs.map V.ref := by
          rw [has, List.map_append]
          exact List.dropLast_concat
        have hlst : (as.map V.ref)[(as.map V.ref).length - 1]? = some (.ref f) := by
          rw [List.length_map, List.getElem?_map]
          have : as.length - 1 = bs.length := by
            rw [has, List.length_append]
            simp
          rw [this, eaf]
          rfl
        refine ⟨.ref a, rfl, a, _, 1, .ref l, rfl, rfl, sq_of N10.ha, rfl, .inl ⟨rfl, _, sq_of N10.hl⟩, l, as.map V.ref, .ref f, rfl, rfl, N10.hl, hlst, ?_⟩
        rw [hdl]
        refine s_ret (ev_var rfl) fun H12 e12 => kk _ _ _ (.inr ⟨by rw [hfl]; exact hno, bp, top, hbt, .inr ⟨d, w', hdp, ?_⟩⟩) (N11.grow e12).at
        rw [if_pos hcond, hfl]
      · have hcond : ¬ (0 < top.row ∧ (stepF P.boxes d top st.cells).1.place = ln P top.row) := by
          rintro ⟨y1, y2⟩
          rcases Bool.and_eq_false_iff.mp hb with z | z
          · have := of_decide_eq_false z
            rw [hrow9] at this
            omega
          · have := of_decide_eq_false z
            omega
        refine s_ret (ev_var rfl) fun H12 e12 => kk _ _ _ (.inr ⟨by rw [hfl]; exact hno, bp, top, hbt, .inr ⟨d, w', hdp, ?_⟩⟩) ((N9.grow e10).grow e12).at
        rw [if_neg hcond, hfl]
end
end Bn
set_option Elab.async false
set_option linter.all false
set_option maxRecDepth 100000
set_option maxHeartbeats 4000000
namespace Bn
open PySem PySem.Spec PyProof.Rows L2 Evl
section
variable {K : PySem.W.Frag} {σ : L2.St} {H H2 H' Hn H0 : Hp} {ta tb tc te tx td ty : TE} {t u : TT} {vs xs ys : List V} {Q : VK} {E : XK} {D : Ends} {tu tw tz : TS} {Φ Ψ : V → Hp → Prop} {v : V} {p l q b f c a : Addr} {fr : Frm} {cs : List Int} {P : Prog} {st : Mst}
theorem e_wordat {r i : Nat} (ha : Ev ta σ H (.ref p)) (hb : Ev tb σ H (.int (r : Int))) (hc : Ev tc σ H (.int (i : Int))) (hP : ProgAt H p P) (hr : r < P.rows.length) (hi : i ≤ ln P r) : Ev (tCall (sp_pwordat K) [] E0 (tCons ta (tCons tb (tCons tc tNil)))) σ H (.int (wAt P r i : Nat)) :=
  ev_call (ea_cons ha (ea_cons hb (ea_cons hc ea_nil))) fun H1 e Q q E => ⟨rfl, p, P, r, i, rfl, hP.keep (.of e), hr, hi, q⟩
theorem wAt_lt (wf : WF P) (r i : Nat) : wAt P r i < 128 := by
  unfold wAt
  cases e : (plc P r)[i]? with
  | none => decide
  | some q => exact (wf.dk r i q.1 q.2 e).2
theorem or128 {m n : Nat} (h1 : m < 128) (h2 : n < 128) : (m ||| n) < 128 := or_lt (n := 7) h1 h2
theorem TriAt.snoc {as : List Addr} {S : List (Nat × Nat × Nat)} {q : Addr} {x : Nat × Nat × Nat} (h : TriAt H as S) (h1 : H q = some (.tup [.int (x.1 : Nat), .int (x.2.1 : Nat), .int (x.2.2 : Nat)])) : TriAt H (as ++ [q]) (S ++ [x]) := by
  refine ⟨by rw [List.length_append, List.length_append, h.1]; rfl, fun i a y e1 e2 => ?_⟩
  rcases snoc_at h.1 e1 e2 with ⟨g1, g2⟩ | ⟨rfl, rfl⟩
  · exact h.2 i a y g1 g2
  · exact h1
/-! ### steps -/
theorem pure_pstepson (h : sp_pstepson K vs H Q E) : t_pstepson K { nx := fun _ H' => Q .non H', rt := Q } (L2.start n_pstepson vs) H := by
  obtain ⟨_, p, P, r, w, rfl, hP, wf, hr, hw, kk⟩ := h
  obtain ⟨bx, rw', g1, g2, g3⟩ := prog_at hP
  have hl12 := (wf.pl r hr).2
  have r7 := wf.r7
  refine q_asg (e_ix (ev_var rfl) ev_c g1 rfl) fun H1 e1 => ?_
  obtain ⟨pl, hpl, hPl⟩ := e_places (K := K) (P := P) (r := r) (ev_var (σ := [some (.ref p), some (.int (r : Nat)), some (.int (w : Nat)), some (.ref rw'), none, none, none, none, none]) (i := 3) rfl) (ev_var (i := 1) rfl) (g3.keep (.of e1)) hr
  refine q_asg (e_ln hpl hPl) fun H2 e2 => ?_
  have e12 := e1.trans e2
  -- how many places there are
  have nx : ∀ (many : Nat) (H3 : Hp), (∀ i, i < many ↔ VP P r i) → many ≤ 13 → Ex H H3 → tSeq (tAsg (tLst tNil) (gName 5)) (tSeq (tFor (iRng1 (tCons (tVar 4) tNil)) (gName 6) (tSeq (tAsg (tOp rOr (tVar 2) (tCall (sp_pwordat K) [] E0 (tCons (tVar 0) (tCons (tVar 1) (tCons (tVar 6) tNil))))) (gName 7)) (tFor (iRng2 (tCons (tC (.int 1)) (tCons (tCB (rLenS K) (tCons (tVar 3) tNil)) tNil))) (gName 8) (tIfS (tAnd (tTest (tOp rGr (tOp (rIxT K) (tOp (rIxT K) (tVar 3) (tVar 8)) (tC (.int 1))) (tOp (rIxT K) (tOp (rIxT K) (tVar 3) (tVar 1)) (tC (.int 1))))) (tTest (tOp rEq (tOp rAn (tOp rSr (tVar 7) (tVar 8)) (tC (.int 1))) (tC (.int 0))))) (tDrop (tBM K "list" rAppend (tVar 5) (tCons (tTup (tCons (tVar 8) (tCons (tVar 7) (tCons (tVar 6) tNil)))) tNil))) tNext)))) (tRet (tVar 5)))
      { nx := fun _ H' => Q .non H', rt := Q } [some (.ref p), some (.int (r : Nat)), some (.int (w : Nat)), some (.ref rw'), some (.int (many : Nat)), none, none, none, none] H3 := by
    intro many H3 hm h13 e3
    refine q_asgL (el_lst ea_nil (by show 0 ≤ 100000; decide)) fun lf H4 hlf e4 h4 => ?_
    have e04 := e3.trans e4
    have hlf0 : H lf = none := fresh_back e3 hlf
    refine q_forR1 (n := (many : Int)) (ea_cons (ev_var rfl) ea_nil) (by omega) (fun i σ' H' => ∃ (as : List Addr) (S : List (Nat × Nat × Nat)) (v6 v7 v8 : Option V), σ' = [some (.ref p), some (.int (r : Nat)), some (.int (w : Nat)), some (.ref rw'), some (.int (many : Nat)), some (.ref lf), v6, v7, v8] ∧ Ex H H' ∧
        H' lf = some (.lst (as.map V.ref)) ∧ TriAt H' as S ∧ (∀ b s p, (b, s, p) ∈ S ↔ p < i ∧ Step P r w b s p) ∧ S.length ≤ 8 * i)
      (fun H5 e5 => ⟨[], [], none, none, none, rfl, e04.trans e5, e5 _ _ h4, ⟨rfl, fun i a x z => by cases z⟩, fun b s p => ⟨fun z => (by cases z), fun z => absurd z.1 (by omega)⟩, by simp⟩) ?_ ?_
    · rintro i σ' H' hi ⟨as, S, v6, v7, v8, rfl, eH, hf, hT, hS, hSl⟩
      have him : i < many := by omega
      have hvp := (hm i).mp him
      have hil : i ≤ ln P r := by
        rcases hvp with z | z
        · omega
        · exact Nat.le_of_eq z.2
      refine q_asg (e_or (ev_var rfl) (e_wordat (ev_var rfl) (ev_var rfl) (ev_var rfl) (hP.keep (.of eH)) hr hil)) fun H5 e5 => ?_
      have eH5 := eH.trans e5
      refine s_forR2 (lo := 1) (n := (P.rows.length : Nat)) (ea_cons ev_c (ea_cons (e_nrows (ev_var rfl) (g3.keep (.of eH5))) ea_nil)) (by omega) (fun j σ' H' => ∃ (as : List Addr) (S : List (Nat × Nat × Nat)) (v8 : Option V), σ' = [some (.ref p), some (.int (r : Nat)), some (.int (w : Nat)), some (.ref rw'), some (.int (many : Nat)), some (.ref lf), some (.int (i : Nat)), some (.int ((w ||| wAt P r i : Nat) : Int)), v8] ∧ Ex H H' ∧
          H' lf = some (.lst (as.map V.ref)) ∧ TriAt H' as S ∧ (∀ b s p, (b, s, p) ∈ S ↔ (p < i ∨ p = i ∧ b < j + 1) ∧ Step P r w b s p) ∧ S.length ≤ 8 * i + j)
        (fun H6 e6 => ⟨as, S, v8, rfl, eH5.trans e6, e6 _ _ (e5 _ _ hf), hT.keep (.of (e5.trans e6)), fun b s p => ⟨fun z => ⟨.inl ((hS b s p).mp z).1, ((hS b s p).mp z).2⟩, fun z => (hS b s p).mpr ⟨?_, z.2⟩⟩, by omega⟩) ?_ ?_
      · rcases z.1 with y | ⟨y1, y2⟩
        · exact y
        · have := z.2.2.1
          omega
      · rintro j σ' H' hj ⟨as, S, v8, rfl, eH', hf', hT', hS', hSl'⟩
        have hj1 : j + 1 < P.rows.length := by omega
        have ek : (1 : Int) + (j : Int) = ((j + 1 : Nat) : Int) := by omega
        rw [ek]
        refine s_when (et_and (t_gr (e_rank (ev_var rfl) (ev_var rfl) (g3.keep (.of eH')) hj1) (e_rank (ev_var rfl) (ev_var rfl) (g3.keep (.of eH')) hr)) fun _ => t_eqI (e_bit (ev_var rfl) (ev_var rfl)) ev_c) (fun hb H6 e6 => ?_) (fun hb H6 e6 => ?_)
        · have c1 := of_decide_eq_true (Bool.and_eq_true_iff.mp hb).1
          have c2 := of_decide_eq_true (Bool.and_eq_true_iff.mp hb).2
          have hbit : (w ||| wAt P r i).testBit (j + 1) = false := by
            cases hz : (w ||| wAt P r i).testBit (j + 1) with
            | false => rfl
            | true =>
              rw [hz] at c2
              exact absurd c2 (by decide)
          have hst : Step P r w (j + 1) (w ||| wAt P r i) i := ⟨hvp, by omega, hj1, by omega, rfl, hbit⟩
          refine s_appU (e6 _ _ hf') (ev_var rfl) (eu_tup (ea_cons (ev_var rfl) (ea_cons (ev_var rfl) (ea_cons (ev_var rfl) ea_nil))) (by show 3 ≤ 100000; decide)) ?_ fun q H7 hq e7 h7 => ?_
          · rw [List.length_map, hT'.1]
            omega
          have hl7 := e7 _ _ (e6 _ _ hf')
          have tk : Tk H' H7 := Tk.of (e6.trans e7)
          have tu := Tk.upd (o := .lst (as.map V.ref ++ [.ref q])) hl7
          refine ⟨as ++ [q], S ++ [(j + 1, w ||| wAt P r i, i)], _, rfl, Ex.mut ((eH'.trans e6).trans e7) hlf0, by rw [upd_same, List.map_append]; rfl, ((hT'.keep tk).keep tu).snoc (tu _ _ h7), fun b s p => ?_, by rw [List.length_append, List.length_singleton]; omega⟩
          rw [List.mem_append, List.mem_singleton, hS']
          constructor
          · rintro (⟨z1, z2⟩ | z)
            · exact ⟨z1.imp id fun y => ⟨y.1, by omega⟩, z2⟩
            · injection z with z1 z2
              injection z2 with z2 z3
              subst z1 z2 z3
              exact ⟨.inr ⟨rfl, by omega⟩, hst⟩
          · rintro ⟨z1, z2⟩
            rcases z1 with y | ⟨y1, y2⟩
            · exact .inl ⟨.inl y, z2⟩
            · by_cases hbj : b < j + 1
              · exact .inl ⟨.inr ⟨y1, hbj⟩, z2⟩
              · right
                have hbe : b = j + 1 := by omega
                subst y1 hbe
                rw [z2.2.2.2.2.1]
        · refine ⟨as, S, _, rfl, eH'.trans e6, e6 _ _ hf', hT'.keep (.of e6), fun b s p => ?_, by omega⟩
          rw [hS']
          constructor
          · rintro ⟨z1, z2⟩
            exact ⟨z1.imp id fun y => ⟨y.1, by omega⟩, z2⟩
          · rintro ⟨z1, z2⟩
            refine ⟨?_, z2⟩
            rcases z1 with y | ⟨y1, y2⟩
            · exact .inl y
            · refine .inr ⟨y1, ?_⟩
              by_cases hbj : b < j + 1
              · exact hbj
              · exfalso
                have hbe : b = j + 1 := by omega
                subst y1 hbe
                obtain ⟨_, _, _, x1, x2, x3⟩ := z2
                rw [x2] at x3
                have : (decide (((rk P r : Nat) : Int) < ((rk P (j + 1) : Nat) : Int)) && decide ((if (w ||| wAt P r p).testBit (j + 1) then (1 : Int) else 0) = 0)) = true := by
                  rw [x3]
                  simp
                  omega
                have hb : (decide (((rk P r : Nat) : Int) < ((rk P (j + 1) : Nat) : Int)) && decide ((if (w ||| wAt P r p).testBit (j + 1) then (1 : Int) else 0) = 0)) = false := hb
                rw [this] at hb
                cases hb
      · rintro σ' H' ⟨as, S, v8, rfl, eH', hf', hT', hS', hSl'⟩
        refine ⟨as, S, _, _, _, rfl, eH', hf', hT', fun b s p => ?_, by omega⟩
        rw [hS']
        constructor
        · rintro ⟨z1, z2⟩
          exact ⟨by omega, z2⟩
        · rintro ⟨z1, z2⟩
          refine ⟨?_, z2⟩
          have := z2.2.2.1
          omega
    · rintro σ' H' ⟨as, S, v6, v7, v8, rfl, eH, hf, hT, hS, hSl⟩
      rw [Int.toNat_natCast] at hS
      refine s_ret (ev_var rfl) fun H5 e5 => kk lf as S H5 hlf0 (eH.trans e5) (e5 _ _ hf) (hT.keep (.of e5)) fun b s p => ?_
      rw [hS]
      exact ⟨fun z => z.2, fun z => ⟨(hm p).mpr z.1, z⟩⟩
  refine q_when (t_eqI (ev_var rfl) ev_c) (fun hb H3 e3 => ?_) (fun hb H3 e3 => ?_)
  · have hb := of_decide_eq_true hb
    refine s_asg (ev_same (e_pl (ev_var rfl) ev_c) (by rw [← Int.natCast_succ])) fun H4 e4 => ?_
    exact nx (ln P r + 1) H4 (fun i => ⟨fun z => by
      by_cases hz : i < ln P r
      · exact .inl hz
      · exact .inr ⟨by omega, by omega⟩, fun z => by
      rcases z with y | y
      · omega
      · omega⟩) (by omega) ((e12.trans e3).trans e4)
  · have hb := of_decide_eq_false hb
    exact nx (ln P r) H3 (fun i => ⟨fun z => .inl z, fun z => by
      rcases z with y | y
      · exact y
      · omega⟩) (by omega) (e12.trans e3)
/-! ### ringings to stands -/
theorem en_ahead {s : Addr} {r i : Nat} (ha : Ev ta σ H (.ref p)) (hb : Ev tb σ H (.ref s)) (hP : ProgAt H p P) (wf : WF P) (hs : H s = some (.tup [.int (r : Nat), .int (i : Nat), .int 0])) (hr : r < P.rows.length) (hi : i ≤ ln P r) : EvN (tCall (sp_pturnsahead K) [] E0 (tCons ta (tCons tb tNil))) σ H fun n => n ≤ 108 :=
  er_call (ea_cons ha (ea_cons hb ea_nil)) fun H1 e Q q E => ⟨rfl, p, s, P, r, i, rfl, hP.keep (.of e), wf, e _ _ hs, hr, hi, fun n H' hn e' => q _ H' e' ⟨n, rfl, hn⟩⟩
theorem er_rep {m : Nat} (ha : EvL ta σ H xs) (hb : EvN tb σ H fun n => n ≤ m) (hm : m ≤ 1000) (hx : xs.length = 1) : Er (tOp rRep ta tb) σ H fun v H' => ∃ p zs, v = .ref p ∧ H' p = some (.lst zs) ∧ zs.length ≤ m := fun H1 e Q q =>
  ha H1 e _ fun p H2 hp0 e2 hp => hb H2 (e.trans e2) _ fun y H3 e3 ⟨n, ey, hn⟩ => ⟨p, (n : Int), xs, rfl, ey, e3 p _ hp, by omega, by omega, sz_of (by
    rw [Int.toNat_natCast, hx]
    omega), fun t ht => q _ _ ((e2.trans e3).trans (Ex.new ht)) ⟨t, _, rfl, upd_same, by
      rw [Int.toNat_natCast]
      simp [hx, hn]⟩⟩
theorem q_extR {m : Nat} (hl : H l = some (.lst xs)) (ha : Ev ta σ H (.ref l)) (h : Er te σ H fun v H' => ∃ p zs, v = .ref p ∧ H' p = some (.lst zs) ∧ zs.length ≤ m) (hz : xs.length + m ≤ 100000) (k : ∀ zs H1, zs.length ≤ m → Ex H H1 → H1 l = some (.lst xs) → tz D σ (upd H1 l (.lst (xs ++ zs)))) :
    tSeq (tDrop (tBM K "list" rExtend ta (tCons te tNil))) tz D σ H := ha H (Ex.refl H) _ fun H1 e1 =>
  ⟨Or.inl ⟨rfl, xs, sq_of (e1 l _ hl)⟩, h H1 e1 _ fun v H2 e2 ⟨p, zs, ev, hp, hzs⟩ => ⟨l, p, xs, zs, rfl, by rw [ev], e2 l _ (e1 l _ hl), hp, sz_of (by omega), k zs H2 hzs (e1.trans e2) (e2 l _ (e1 l _ hl))⟩⟩
theorem pure_pringingsto (h : sp_pringingsto K vs H Q E) : t_pringingsto K { nx := fun _ H' => Q .non H', rt := Q } (L2.start n_pringingsto vs) H := by
  obtain ⟨_, p, l, P, as, S, rfl, hP, wf, hl, hS, hO, hS10, kk⟩ := h
  obtain ⟨bx, rw', g1, g2, g3⟩ := prog_at hP
  have r7 := wf.r7
  refine q_asg (e_ix (ev_var rfl) ev_c g1 rfl) fun H1 e1 => ?_
  refine q_asgL (el_lst ea_nil (by show 0 ≤ 100000; decide)) fun lw H2 hlw e2 h2 => ?_
  have hlw0 : H lw = none := fresh_back e1 hlw
  refine q_asg (ev_c (v := .int ((0 : Nat) : Int))) fun H3 e3 => ?_
  refine q_asg (ev_un ev_c ru_neg) fun H4 e4 => ?_
  have e04 := ((e1.trans e2).trans e3).trans e4
  have h4 := e4 _ _ (e3 _ _ h2)
  refine q_forLn (ev_var rfl) (sq_of (e04 _ _ hl)) (fun i σ' H' => ∃ (ws : List V) (v6 v7 : Option V), σ' = [some (.ref p), some (.ref l), some (.ref rw'), some (.ref lw), some (.int ((wordOf P (S.take i) : Nat) : Int)), some (.int (floorOf P (S.take i))), v6, v7] ∧ Ex H H' ∧ H' lw = some (.lst ws) ∧ ws.length ≤ 200 * i)
    (fun H5 e5 => ⟨[], none, none, rfl, e04.trans e5, e5 _ _ h4, by simp⟩) (fun i σ' H' hi ⟨_, _, _, _, e, _⟩ => sq_of (e _ _ hl)) ?_ ?_
  · rintro i x σ' H' hi ⟨ws, v6, v7, rfl, eH, hw, hwl⟩
    rw [List.getElem?_map] at hi
    cases ea : as[i]? with
    | none =>
      rw [ea] at hi
      cases hi
    | some sa =>
      rw [ea] at hi
      have hx := Option.some.inj hi
      subst hx
      have hiS : i < S.length := by
        rw [← hS.1]
        exact (List.getElem?_eq_some_iff.mp ea).1
      have es : S[i]? = some S[i] := List.getElem?_eq_getElem hiS
      have hsa := hS.2 i sa _ ea es
      obtain ⟨o1, o2, o3, o4⟩ := hO i _ es
      generalize hs : S[i] = s at *
      have h10 : i < 10 := by omega
      refine q_asg (e_ix (ev_var rfl) ev_c (eH _ _ hsa) (v := .int (s.1 : Nat)) rfl) fun H5 e5 => ?_
      have eH5 := eH.trans e5
      refine q_no (Ex.refl H5) (or_no (et_is (t_le (e_rank (ev_var rfl) (ev_var rfl) (g3.keep (.of eH5)) o3) (ev_var rfl)) (decide_eq_false (by omega))) (et_is (t_eqI (e_bit (ev_var rfl) (ev_var rfl)) ev_c) (by rw [o2]; rfl))) fun H6 e6 => ?_
      have eo : wordOf P (S.take (i + 1)) = wordOf P (S.take i) ||| wAt P s.1 s.2 := by
        rw [List.take_succ_eq_append_getElem hiS, hs]
        unfold wordOf
        rw [List.foldl_append]
        rfl
      have ef : floorOf P (S.take (i + 1)) = (rk P s.1 : Nat) := by
        rw [List.take_succ_eq_append_getElem hiS, hs]
        unfold floorOf
        rw [List.getLast?_append]
        rfl
      -- the rest, whatever words there are
      have nx : ∀ (ws : List V) (H7 : Hp), Ex H H7 → H7 lw = some (.lst ws) → ws.length ≤ 200 * i + 1 → tSeq (tDrop (tBM K "list" rExtend (tVar 3) (tCons (tOp rRep (tLst (tCons (tC (.int 0)) tNil)) (tCall (sp_pturnsahead K) [] E0 (tCons (tVar 0) (tCons (tVar 6) tNil)))) tNil))) (tSeq (tAsg (tOp rOr (tVar 4) (tCall (sp_pwordat K) [] E0 (tCons (tVar 0) (tCons (tVar 7) (tCons (tOp (rIxT K) (tVar 6) (tC (.int 1))) tNil))))) (gName 4)) (tAsg (tOp (rIxT K) (tOp (rIxT K) (tVar 2) (tVar 7)) (tC (.int 1))) (gName 5)))
          { nx := (fun i σ' H' => ∃ (ws : List V) (v6 v7 : Option V), σ' = [some (.ref p), some (.ref l), some (.ref rw'), some (.ref lw), some (.int ((wordOf P (S.take i) : Nat) : Int)), some (.int (floorOf P (S.take i))), v6, v7] ∧ Ex H H' ∧ H' lw = some (.lst ws) ∧ ws.length ≤ 200 * i) (i + 1), rt := Q,
            bk := fun σ' H' => tRet (tVar 3) { nx := fun _ H' => Q .non H', rt := Q } σ' H',
            ct := (fun i σ' H' => ∃ (ws : List V) (v6 v7 : Option V), σ' = [some (.ref p), some (.ref l), some (.ref rw'), some (.ref lw), some (.int ((wordOf P (S.take i) : Nat) : Int)), some (.int (floorOf P (S.take i))), v6, v7] ∧ Ex H H' ∧ H' lw = some (.lst ws) ∧ ws.length ≤ 200 * i) (i + 1) }
          [some (.ref p), some (.ref l), some (.ref rw'), some (.ref lw), some (.int ((wordOf P (S.take i) : Nat) : Int)), some (.int (floorOf P (S.take i))), some (.ref sa), some (.int (s.1 : Nat))] H7 := by
        intro ws H7 e7 hw7 hwl7
        refine q_extR (m := 108) hw7 (ev_var rfl) (er_rep (el_lst (ea_cons (ev_c (v := .int 0)) ea_nil) (by show 1 ≤ 100000; decide)) (en_ahead (ev_var rfl) (ev_var rfl) (hP.keep (.of e7)) wf (e7 _ _ hsa) o3 o4) (by decide) rfl) (by omega) fun zs H8 hzs e8 h8 => ?_
        have e88 : Ex H (upd H8 lw (.lst (ws ++ zs))) := Ex.mut (e7.trans e8) hlw0
        have hw8 : (upd H8 lw (.lst (ws ++ zs))) lw = some (.lst (ws ++ zs)) := upd_same
        have hwl8 : (ws ++ zs).length ≤ 200 * (i + 1) := by
          rw [List.length_append]
          omega
        generalize ws ++ zs = ws8 at *
        generalize upd H8 lw (.lst ws8) = H9 at *
        refine q_asg (e_or (ev_var rfl) (e_wordat (ev_var rfl) (ev_var rfl) (e_ix (ev_var rfl) ev_c (e88 _ _ hsa) (v := .int (s.2 : Nat)) rfl) (hP.keep (.of e88)) o3 o4)) fun H10 e10 => ?_
        refine s_asg (e_rank (ev_var rfl) (ev_var rfl) (g3.keep (.of (e88.trans e10))) o3) fun H11 e11 => ?_
        exact ⟨ws8, _, _, by rw [eo, ef]; rfl, (e88.trans e10).trans e11, e11 _ _ (e10 _ _ hw8), hwl8⟩
      have eH6 : Ex H H6 := eH5.trans e6
      have hw6 : H6 lw = some (.lst ws) := e6 _ _ (e5 _ _ hw)
      refine q_when (t_gr (ev_var rfl) ev_c) (fun hb H7 e7 => ?_) (fun hb H7 e7 => nx ws H7 (eH6.trans e7) (e7 _ _ hw6) (by omega))
      refine s_app (v := .int (1 * 2 ^ s.1)) (e7 _ _ hw6) (ev_var rfl) (e_shl ev_c (ev_var rfl) (by omega) (by decide)) (by omega) fun H8 e8 => ?_
      exact nx _ _ (Ex.mut ((eH6.trans e7).trans e8) hlw0) upd_same (by rw [List.length_append, List.length_singleton]; omega)
  · rintro σ' H' ⟨ws, v6, v7, rfl, eH, hw, hwl⟩
    exact s_ret (ev_var rfl) fun H5 e5 => kk _ H5 (eH.trans e5)
end
end Bn
set_option Elab.async false
set_option linter.all false
set_option maxRecDepth 100000
set_option maxHeartbeats 4000000
namespace Bn
open PySem PySem.Spec PyProof.Rows L2 Evl
section
variable {K : PySem.W.Frag} {σ : L2.St} {H H2 H' Hn H0 H1 : Hp} {ta tb tc te tx td ty tv tl : TE} {t u : TT} {vs xs ys : List V} {Q : VK} {E : XK} {D : Ends} {tu tw tz : TS} {Φ : V → Hp → Prop} {v : V} {p l q b f c a d : Addr} {fr : Frm} {cs : List Int} {P : Prog} {st : Mst} {M : Kn}
/-! ### what is known -/
theorem key_inj {r w r' w' : Nat} (h : key r w = key r' w') : r = r' ∧ w = w' := by
  injection h with h1 h2
  injection h2 with h2 _
  injection h1 with h1
  injection h2 with h2
  omega
def allKeys : List (List Key) := (List.range 7).flatMap fun r => (List.range 128).map (key r)
theorem allKeys_len : allKeys.length = 896 := by decide +kernel
theorem keys_le {kvs : List (List Key × V)} (nd : (kvs.map (·.1)).Nodup) (h : ∀ kv ∈ kvs, ∃ r w, kv.1 = key r w ∧ r < 7 ∧ w < 128) : kvs.length ≤ 896 := by
  have h1 := List.Nodup.length_le_of_subset (l₂ := allKeys) nd fun k hk => by
    obtain ⟨kv, hkv, e⟩ := List.mem_map.mp hk
    obtain ⟨r, w, e1, hr, hw⟩ := h kv hkv
    have e2 : k = key r w := by
      rw [← e1]
      exact e.symm
    subst e2
    exact List.mem_flatMap.mpr ⟨r, List.mem_range.mpr hr, List.mem_map.mpr ⟨w, List.mem_range.mpr hw, rfl⟩⟩
  rw [List.length_map, allKeys_len] at h1
  exact h1
theorem KnownAt.ex (h : KnownAt H d M) (e : Ex H H') : KnownAt H' d M := by
  obtain ⟨kvs, h1, nd, h2, h3⟩ := h
  refine ⟨kvs, e _ _ h1, nd, h2, fun r w => ⟨(h3 r w).1, fun x hx => ?_⟩⟩
  obtain ⟨q, g1, g2⟩ := (h3 r w).2 x hx
  exact ⟨q, g1, e _ _ g2⟩
def entV (e : Ent) : List V := [.int (e.d : Nat), .int (e.b : Nat), .int (e.s : Nat), .int (e.p : Nat)]
/-- the known with one entry more -/
def more (M : Kn) (r w : Nat) (e : Ent) : Kn := fun r' w' => if r' = r ∧ w' = w then some e else M r' w'
theorem KnownAt.put {r w : Nat} {e : Ent} {dp : Addr} {kvs : List (List Key × V)} (hd : H d = some (.dT kvs)) (h : KnownAt H d M) (hn : M r w = none) (hr : r < 7) (hw : w < 128) (hp : H dp = some (.tup (entV e))) : KnownAt (upd H d (.dT (putK kvs (key r w) (.ref dp)))) d (more M r w e) := by
  obtain ⟨kvs', h1, nd, h2, h3⟩ := h
  rw [hd] at h1
  injection h1 with h1
  injection h1 with h1
  subst h1
  have hv := (h3 r w).1 hn
  have tk : Tk H (upd H d (.dT (putK kvs (key r w) (.ref dp)))) := fun a xs ha => by
    rw [upd_ne (ne_of ha hd (by intro z; cases z))]
    exact ha
  refine ⟨_, upd_same, nd_putK _ nd hv, fun kv hkv => ?_, fun r' w' => ?_⟩
  · rw [putK_new _ hv] at hkv
    rcases List.mem_append.mp hkv with z | z
    · exact h2 kv z
    · rw [List.mem_singleton.mp z]
      exact ⟨r, w, rfl, hr, hw⟩
  · rw [valV_put]
    by_cases hk : r' = r ∧ w' = w
    · obtain ⟨rfl, rfl⟩ := hk
      rw [if_pos rfl]
      refine ⟨fun z => ?_, fun x hx => ?_⟩
      · unfold more at z
        rw [if_pos ⟨rfl, rfl⟩] at z
        cases z
      · unfold more at hx
        rw [if_pos ⟨rfl, rfl⟩] at hx
        have hx := Option.some.inj hx
        subst hx
        exact ⟨dp, rfl, tk _ _ hp⟩
    · rw [if_neg fun z => hk (key_inj z)]
      unfold more
      rw [if_neg hk]
      refine ⟨(h3 r' w').1, fun x hx => ?_⟩
      obtain ⟨q, g1, g2⟩ := (h3 r' w').2 x hx
      exact ⟨q, g1, tk _ _ g2⟩
/-- what was tracked but the dict at d is as it was -/
def KeptD (H H' : Hp) (d : Addr) : Prop := ∀ b o, b ≠ d → H b = some o → H' b = some o
theorem KeptD.tk {kvs : List (List Key × V)} (h : KeptD H H' d) (hd : H d = some (.dT kvs)) : Tk H H' := fun a xs ha => h a _ (ne_of ha hd (by intro z; cases z)) ha
theorem KeptD.ex (h : KeptD H H1 d) (e : Ex H1 H') : KeptD H H' d := fun b o n z => e _ _ (h b o n z)
theorem q_forLR {g : TG} {Ψ : Addr → List V → Hp → Prop} (h : Er tl σ H fun v H' => ∃ q xs, v = .ref q ∧ H' q = some (.lst xs) ∧ Ψ q xs H')
    (k : ∀ q xs H1, Ex H H1 → H1 q = some (.lst xs) → Ψ q xs H1 → ∃ Pv : Nat → L2.St → Hp → Prop, Pv 0 σ H1 ∧ (∀ i σ' H', i ≤ xs.length → Pv i σ' H' → SqL K H' q xs) ∧
      (∀ i x σ' H', xs[i]? = some x → Pv i σ' H' → g x σ' H' fun σ2 H2 => tu { D with nx := Pv (i + 1), ct := Pv (i + 1), bk := tz D } σ2 H2) ∧ ∀ σ' H', Pv xs.length σ' H' → tz D σ' H') : tSeq (tFor (iList K tl) g tu) tz D σ H :=
  h H (Ex.refl H) _ fun v H1 e ⟨q, xs, ev, hq, hΨ⟩ => by
    subst ev
    obtain ⟨Pv, p0, hl, hs, hd⟩ := k q xs H1 e hq hΨ
    exact ⟨q, rfl, ⟨xs, sq_of hq⟩, for_list Pv p0 hl hs hd⟩
/-- a, b, c = a triple -/
theorem g_tri {x y z : V} {i j k : Nat} {Qs : L2.St → Hp → Prop} (h : H a = some (.tup [x, y, z])) (q : Qs (((σ.set i (some x)).set j (some y)).set k (some z)) H) : gTup K 3 (gCons (gName i) (gCons (gName j) (gCons (gName k) gNil))) (.ref a) σ H Qs :=
  ⟨a, [x, y, z], rfl, st_of h, rfl, x, [y, z], rfl, y, [z], rfl, z, [], rfl, rfl, q⟩
theorem s_dput {kvs : List (List Key × V)} {k : List Key} (hv : Ev tv σ H v) (hd : Ev td σ H (.ref a)) (hk : EvU ty σ H (k.map kV)) (h : H a = some (.dT kvs)) (hl : kvs.length ≤ 100000) (g : ∀ H1, Ex H H1 → D.nx σ (upd H1 a (.dT (putK kvs k v)))) : sDPut td ty tv D σ H :=
  hv H (Ex.refl H) _ fun H1 e1 => hd H1 e1 _ fun H2 e2 => hk H2 (e1.trans e2) _ fun y H3 _ e3 hy => ⟨a, _, rfl, DPut.t (e3 _ _ (e2 _ _ (e1 _ _ h))) hy (Nat.lt_of_le_of_lt hl (by decide)), g H3 ((e1.trans e2).trans e3)⟩
theorem er_steps {r w : Nat} (ha : Ev ta σ H (.ref p)) (hb : Ev tb σ H (.int (r : Int))) (hc : Ev tc σ H (.int (w : Int))) (hP : ProgAt H p P) (wf : WF P) (hr : r < P.rows.length) (hw : w < 128) :
    Er (tCall (sp_pstepson K) [] E0 (tCons ta (tCons tb (tCons tc tNil)))) σ H fun v H' => ∃ q xs, v = .ref q ∧ H' q = some (.lst xs) ∧ (H q = none ∧ ∃ (as : List Addr) (S : List (Nat × Nat × Nat)), xs = as.map V.ref ∧ TriAt H' as S ∧ ∀ b s p, (b, s, p) ∈ S ↔ Step P r w b s p) :=
  er_call (ea_cons ha (ea_cons hb (ea_cons hc ea_nil))) fun H1 e Q q' E => ⟨rfl, p, P, r, w, rfl, hP.keep (.of e), wf, hr, hw, fun q as S H' hq e' h1 h2 h3 => q' _ H' e' ⟨q, _, rfl, h1, fresh_back e hq, as, S, rfl, h2, h3⟩⟩
theorem q_asgPC {sp : Sp} {dvs : List V} {E : XK} {tA : TA} {i : Nat} {c : Int} (h : EvA tA σ H vs) (hs : ∀ H1, Ex H H1 → sp (vs ++ dvs) H1 (fun v H2 => ∃ x y, V.int c = .int x ∧ v = .int y ∧ tz D (σ.set i (some (.int (x + y)))) H2) E) : tSeq (tAsg (tOp rPl (tC (.int c)) (tCall sp dvs E tA)) (gName i)) tz D σ H := h H (Ex.refl H) _ fun H1 e => hs H1 e
theorem pure_pweigh {n : Nat} (h : sp_weighN (n + 1) vs H Q E) : t_pweigh K (sp_weighN n) { nx := fun _ H' => Q .non H', rt := Q } (L2.start n_pweigh vs) H := by
  obtain ⟨_, p, d, P, r, w, M, rfl, hP, wf, hr, hw, hrk, hKn, hG, kk⟩ := h
  have r7 := wf.r7
  obtain ⟨kvs, hd, nd, hks, hM⟩ := id hKn
  -- behind the if
  have fin : ∀ (v4 v5 v6 v7 v8 : Option V) (H' : Hp) (M' : Kn) (e : Ent), KeptD H H' d → KnownAt H' d M' → Good P M' → (∀ r' w' x, M r' w' = some x → M' r' w' = some x) → (∀ r' w', M r' w' = none → M' r' w' ≠ none → rk P r ≤ rk P r') → M' r w = some e →
      tRet (tOp (rIxT K) (tDGet (tVar 3) (tTup (tCons (tVar 1) (tCons (tVar 2) tNil)))) (tC (.int 0))) { nx := fun _ H' => Q .non H', rt := Q } [some (.ref p), some (.int (r : Nat)), some (.int (w : Nat)), some (.ref d), v4, v5, v6, v7, v8] H' := by
    intro v4 v5 v6 v7 v8 H' M' e hK hKn' hG' hE hN he
    obtain ⟨kvs', hd', nd', hks', hM'⟩ := id hKn'
    obtain ⟨q, g1, g2⟩ := (hM' r w).2 e he
    refine s_ret (e_ix (e_dget (ev_var rfl) (eu_key (r := r) (w := w) (ev_var rfl) (ev_var rfl)) hd' g1) ev_c g2 (v := .int (e.d : Nat)) rfl) fun H1 e1 => ?_
    exact kk H1 M' e (hK.ex e1) (hKn'.ex e1) hG' hE hN he
  refine q_when (et_B (e_dni (eu_key (r := r) (w := w) (ev_var rfl) (ev_var rfl)) (ev_var rfl) hd)) (fun hb H1 e1 => ?_) (fun hb H1 e1 => ?_)
  · have hMn : M r w = none := by
      cases hm : M r w with
      | none => rfl
      | some e =>
        obtain ⟨q, g1, _⟩ := (hM r w).2 e hm
        rw [g1] at hb
        cases hb
    refine q_asgU (eu_tup (ea_cons (ev_c (v := .int ((0 : Nat) : Int))) (ea_cons (ev_c (v := .int ((0 : Nat) : Int))) (ea_cons (ev_c (v := .int ((0 : Nat) : Int))) (ea_cons (ev_c (v := .int ((0 : Nat) : Int))) ea_nil)))) (by show 4 ≤ 100000; decide)) fun dp0 H2 _ e2 h2 => ?_
    have e02 := e1.trans e2
    refine q_forLR (er_steps (ev_var rfl) (ev_var rfl) (ev_var rfl) (hP.keep (.of e02)) wf hr hw) ?_
    rintro q xs H3 e3 hq ⟨hq0, as, S, rfl, hT, hS⟩
    have e03 := e02.trans e3
    have hd3 := e03 _ _ hd
    have nqd : q ≠ d := ne_of hq hd3 (by intro z; cases z)
    have hP3 := hP.keep (.of e03)
    refine ⟨fun i σ' H' => ∃ (dp : Addr) (Mi : Kn) (e : Ent) (v5 v6 v7 v8 : Option V), σ' = [some (.ref p), some (.int (r : Nat)), some (.int (w : Nat)), some (.ref d), some (.ref dp), v5, v6, v7, v8] ∧ KeptD H3 H' d ∧ KnownAt H' d Mi ∧ Good P Mi ∧
        (∀ r' w' x, M r' w' = some x → Mi r' w' = some x) ∧ (∀ r' w', M r' w' = none → Mi r' w' ≠ none → rk P r < rk P r') ∧ dp ≠ d ∧ H' dp = some (.tup (entV e)) ∧
        (∀ x ∈ S.take i, ∃ e', Mi x.1 x.2.1 = some e' ∧ e'.d < e.d) ∧ (0 < e.d → Step P r w e.b e.s e.p),
      ⟨dp0, M, ⟨0, 0, 0, 0⟩, none, none, none, none, rfl, fun b o _ z => z, hKn.ex e03, hG, fun _ _ _ z => z, fun _ _ z1 z2 => absurd z1 z2, ne_of (e3 _ _ h2) hd3 (by intro z; cases z), e3 _ _ h2, fun x hx => (by cases hx), fun z => absurd z (Nat.lt_irrefl 0)⟩,
      fun i σ' H' hi ⟨_, _, _, _, _, _, _, _, hK, _⟩ => sq_of (hK _ _ nqd hq), ?_, ?_⟩
    · rintro i x σ' H' hi ⟨dp, Mi, e, v5, v6, v7, v8, rfl, hK, hKi, hGi, hEi, hNi, ndp, hdp, hSt, hst⟩
      rw [List.getElem?_map] at hi
      cases ea : as[i]? with
      | none =>
        rw [ea] at hi
        cases hi
      | some sa =>
        rw [ea] at hi
        have hx := Option.some.inj hi
        subst hx
        have hiS : i < S.length := by
          rw [← hT.1]
          exact (List.getElem?_eq_some_iff.mp ea).1
        have es : S[i]? = some S[i] := List.getElem?_eq_getElem hiS
        have htk := hS S[i].1 S[i].2.1 S[i].2.2
        have hstep : Step P r w S[i].1 S[i].2.1 S[i].2.2 := htk.mp (List.getElem_mem hiS)
        have hsa := hT.2 i sa _ ea es
        have tk3 := hK.tk hd3
        have htake : S.take (i + 1) = S.take i ++ [S[i]] := List.take_succ_eq_append_getElem hiS
        generalize hsx : S[i] = s at *
        refine g_tri (tk3 _ _ hsa) ?_
        -- depth = 1 + weigh(..)
        have hA : EvA (tCons (tVar 0) (tCons (tVar 5) (tCons (tVar 6) (tCons (tVar 3) tNil)))) [some (.ref p), some (.int (r : Nat)), some (.int (w : Nat)), some (.ref d), some (.ref dp), some (.int (s.1 : Nat)), some (.int (s.2.1 : Nat)), some (.int (s.2.2 : Nat)), v8] H' [.ref p, .int (s.1 : Nat), .int (s.2.1 : Nat), .ref d] := ea_cons (ev_var rfl) (ea_cons (ev_var rfl) (ea_cons (ev_var rfl) (ea_cons (ev_var rfl) ea_nil)))
        refine q_asgPC hA fun H4 e4 => ?_
        obtain ⟨_, sb0, sbn, srk, ss, sbit⟩ := id hstep
        have hs128 : s.2.1 < 128 := by
          rw [ss]
          exact or128 hw (wAt_lt wf _ _)
        refine ⟨rfl, p, d, P, s.1, s.2.1, Mi, rfl, (hP3.keep tk3).keep (.of e4), wf, sbn, hs128, by omega, hKi.ex e4, hGi, fun H5 M5 e5 hK5 hKn5 hG5 hE5 hN5 hM5 => ?_⟩
        refine ⟨1, (e5.d : Int), rfl, rfl, ?_⟩
        have hK35 : KeptD H3 H5 d := fun b o nb z => hK5 b o nb (e4 _ _ (hK b o nb z))
        have hdp5 : H5 dp = some (.tup (entV e)) := hK5 _ _ ndp (e4 _ _ hdp)
        have hE5' : ∀ r' w' x, M r' w' = some x → M5 r' w' = some x := fun r' w' x z => hE5 _ _ _ (hEi _ _ _ z)
        have hN5' : ∀ r' w', M r' w' = none → M5 r' w' ≠ none → rk P r < rk P r' := fun r' w' z1 z2 => by
          cases hz : Mi r' w' with
          | none =>
            have := hN5 r' w' hz z2
            omega
          | some y => exact hNi r' w' z1 (by rw [hz]; intro z; cases z)
        refine s_when (t_gr (ev_var rfl) (e_ix (ev_var rfl) ev_c hdp5 (v := .int (e.d : Nat)) rfl)) (fun hb H6 e6 => ?_) (fun hb H6 e6 => ?_)
        · have hb := of_decide_eq_true hb
          refine s_asgU (eu_tup (ea_cons (ev_var rfl) (ea_cons (ev_var rfl) (ea_cons (ev_var rfl) (ea_cons (ev_var rfl) ea_nil)))) (by show 4 ≤ 100000; decide)) fun dp2 H7 hdp2 e7 h7 => ?_
          have h7' : H7 dp2 = some (.tup (entV ⟨1 + e5.d, s.1, s.2.1, s.2.2⟩)) := by
            rw [h7]
            show some (HO.tup [.int (1 + (e5.d : Int)), _, _, _]) = some (HO.tup [.int ((1 + e5.d : Nat) : Int), _, _, _])
            rw [Int.natCast_add]
            rfl
          refine ⟨dp2, M5, ⟨1 + e5.d, s.1, s.2.1, s.2.2⟩, _, _, _, _, rfl, (hK35.ex e6).ex e7, (hKn5.ex e6).ex e7, hG5, hE5', hN5', ?_, h7', fun x hx => ?_, fun _ => hstep⟩
          · obtain ⟨kv5, z1, _⟩ := hKn5
            exact ne_of h7' (e7 _ _ (e6 _ _ z1)) (by intro z; cases z)
          · rw [htake] at hx
            rcases List.mem_append.mp hx with z | z
            · obtain ⟨e', y1, y2⟩ := hSt x z
              refine ⟨e', hE5 _ _ _ y1, ?_⟩
              show e'.d < 1 + e5.d
              omega
            · rw [List.mem_singleton.mp z]
              exact ⟨e5, hM5, by show e5.d < 1 + e5.d; omega⟩
        · have hb := of_decide_eq_false hb
          refine ⟨dp, M5, e, _, _, _, _, rfl, hK35.ex e6, hKn5.ex e6, hG5, hE5', hN5', ndp, e6 _ _ hdp5, fun x hx => ?_, hst⟩
          rw [htake] at hx
          rcases List.mem_append.mp hx with z | z
          · obtain ⟨e', y1, y2⟩ := hSt x z
            exact ⟨e', hE5 _ _ _ y1, y2⟩
          · rw [List.mem_singleton.mp z]
            exact ⟨e5, hM5, by omega⟩
    · rintro σ' H' ⟨dp, Mi, e, v5, v6, v7, v8, rfl, hK, hKi, hGi, hEi, hNi, ndp, hdp, hSt, hst⟩
      rw [List.length_map, hT.1, List.take_length] at hSt
      obtain ⟨kvi, hdi, ndi, hksi, hMi⟩ := id hKi
      have hMin : Mi r w = none := by
        cases hm : Mi r w with
        | none => rfl
        | some y =>
          have := hNi r w hMn (by rw [hm]; intro z; cases z)
          exact absurd this (Nat.lt_irrefl _)
      refine s_dput (k := key r w) (ev_var rfl) (ev_var rfl) (eu_key (ev_var rfl) (ev_var rfl)) hdi (by have := keys_le ndi hksi; omega) fun H4 e4 => ?_
      have hKp := KnownAt.put (e := e) (e4 _ _ hdi) (hKi.ex e4) hMin (by omega) hw (e4 _ _ hdp)
      refine fin _ _ _ _ _ _ (more Mi r w e) e (fun b o nb z => ?_) hKp ?_ ?_ ?_ ?_
      · rw [upd_ne nb]
        exact e4 _ _ (hK b o nb (e03 _ _ z))
      · intro r' w' x hx
        unfold more at hx
        have look : ∀ b s y, Mi b s = some y → more Mi r w e b s = some y := fun b s y hy => by
          unfold more
          rw [if_neg]
          · exact hy
          · rintro ⟨rfl, rfl⟩
            rw [hMin] at hy
            cases hy
        by_cases hk : r' = r ∧ w' = w
        · rw [if_pos hk] at hx
          have hx := Option.some.inj hx
          subst hx
          obtain ⟨rfl, rfl⟩ := hk
          refine ⟨hr, fun b s p hs => ?_, hst⟩
          obtain ⟨e', y1, y2⟩ := hSt (b, s, p) ((hS b s p).mpr hs)
          exact ⟨e', look _ _ _ y1, y2⟩
        · rw [if_neg hk] at hx
          obtain ⟨z1, z2, z3⟩ := hGi r' w' x hx
          refine ⟨z1, fun b s p hs => ?_, z3⟩
          obtain ⟨e', y1, y2⟩ := z2 b s p hs
          exact ⟨e', look _ _ _ y1, y2⟩
      · intro r' w' x hx
        unfold more
        rw [if_neg]
        · exact hEi _ _ _ hx
        · rintro ⟨rfl, rfl⟩
          rw [hMn] at hx
          cases hx
      · intro r' w' z1 z2
        by_cases hk : r' = r ∧ w' = w
        · rw [hk.1]
          exact Nat.le_refl _
        · unfold more at z2
          rw [if_neg hk] at z2
          exact Nat.le_of_lt (hNi r' w' z1 z2)
      · unfold more
        rw [if_pos ⟨rfl, rfl⟩]
  · have hMs : ∃ e, M r w = some e := by
      cases hm : M r w with
      | some e => exact ⟨e, rfl⟩
      | none =>
        rw [(hM r w).1 hm] at hb
        cases hb
    obtain ⟨e, he⟩ := hMs
    exact fin _ _ _ _ _ H1 M e (fun b o _ z => e1 _ _ z) (hKn.ex e1) hG (fun _ _ _ z => z) (fun _ _ z1 z2 => absurd z1 z2) he
end
end Bn
set_option Elab.async false
set_option linter.all false
set_option maxRecDepth 100000
set_option maxHeartbeats 4000000
namespace Bn
open PySem PySem.Spec PyProof.Rows L2 Evl
section
variable {K : PySem.W.Frag} {σ : L2.St} {H H2 H' Hn H0 H1 : Hp} {ta tb tc te tx td ty tv tl : TE} {t u : TT} {vs xs ys : List V} {Q : VK} {E : XK} {D : Ends} {tu tw tz : TS} {Φ : V → Hp → Prop} {v : V} {p l q b f c a d : Addr} {fr : Frm} {cs : List Int} {P : Prog} {st : Mst} {M : Kn}
theorem q_dnew {i : Nat} (k : ∀ p, H p = none → tz D (σ.set i (some (.ref p))) (upd H p (.dT []))) : tSeq (tAsg tDNewT (gName i)) tz D σ H := k
theorem known_nil (h : H d = some (.dT [])) : KnownAt H d (fun _ _ => none) := ⟨[], h, List.nodup_nil, fun _ z => (by cases z), fun _ _ => ⟨fun _ => rfl, fun _ z => (by cases z)⟩⟩
theorem good_nil : Good P (fun _ _ => none) := fun _ _ _ z => by cases z
theorem kept_new {u : HO} (h : H d = none) (hK : ∀ b o, b ≠ d → (upd H d u) b = some o → H' b = some o) : Ex H H' := fun b o z => by
  have n : b ≠ d := by
    rintro rfl
    rw [h] at z
    cases z
  refine hK b o n ?_
  rw [upd_ne n]
  exact z
theorem good_closed (h : Good P M) : Closed P (papOf M) := fun r w d hd b s p hs => by
  unfold papOf at hd
  cases hm : M r w with
  | none =>
    rw [hm] at hd
    cases hd
  | some e =>
    rw [hm] at hd
    have hd := Option.some.inj hd
    obtain ⟨_, g2, _⟩ := h r w e hm
    obtain ⟨e', z1, z2⟩ := g2 b s p hs
    refine ⟨e'.d, ?_, ?_⟩
    · unfold papOf
      rw [z1]
      rfl
    · rw [← hd]
      exact z2
theorem wordOf_snoc (L : List (Nat × Nat)) (s : Nat × Nat) : wordOf P (L ++ [s]) = wordOf P L ||| wAt P s.1 s.2 := by
  unfold wordOf
  rw [List.foldl_append]
  rfl
theorem floorOf_snoc (L : List (Nat × Nat)) (s : Nat × Nat) : floorOf P (L ++ [s]) = (rk P s.1 : Nat) := by
  unfold floorOf
  rw [List.getLast?_append]
  rfl
theorem oks_snoc {L : List (Nat × Nat)} {s : Nat × Nat} (h : OkS P L) (h1 : floorOf P L < (rk P s.1 : Int)) (h2 : (wordOf P L).testBit s.1 = false) (h3 : s.1 < P.rows.length) (h4 : s.2 ≤ ln P s.1) : OkS P (L ++ [s]) := fun i x hi => by
  by_cases z : i < L.length
  · rw [List.getElem?_append_left z] at hi
    rw [List.take_append_of_le_length (Nat.le_of_lt z)]
    exact h i x hi
  · have z2 : i < (L ++ [s]).length := (List.getElem?_eq_some_iff.mp hi).1
    rw [List.length_append, List.length_singleton] at z2
    have z3 : i = L.length := by omega
    subst z3
    rw [List.getElem?_append_right (Nat.le_refl _), Nat.sub_self] at hi
    have hx := Option.some.inj hi
    subst hx
    rw [List.take_left]
    exact ⟨h1, h2, h3, h4⟩
theorem stands_snoc {as : List Addr} {L : List (Nat × Nat)} {s : Nat × Nat} (h : StandsAt H as L) (h1 : H a = some (.tup [.int (s.1 : Nat), .int (s.2 : Nat), .int 0])) : StandsAt H (as ++ [a]) (L ++ [s]) := by
  obtain ⟨g1, g2⟩ := h
  refine ⟨by rw [List.length_append, List.length_append, g1]; rfl, fun i b x e1 e2 => ?_⟩
  by_cases z : i < as.length
  · rw [List.getElem?_append_left z] at e1
    rw [List.getElem?_append_left (by omega)] at e2
    exact g2 i b x e1 e2
  · rw [List.getElem?_append_right (by omega)] at e1
    rw [List.getElem?_append_right (by omega)] at e2
    cases hk : i - as.length with
    | zero =>
      rw [hk] at e1
      rw [← g1, hk] at e2
      have e1 := Option.some.inj e1
      have e2 := Option.some.inj e2
      subst e1
      subst e2
      exact h1
    | succ n =>
      rw [hk] at e1
      cases e1
theorem StandsAt.ex {as : List Addr} {L : List (Nat × Nat)} (h : StandsAt H as L) (e : Ex H H') : StandsAt H' as L := ⟨h.1, fun i a x e1 e2 => e _ _ (h.2 i a x e1 e2)⟩
theorem q_weigh {i : Nat} {r w : Nat} (ha : Ev ta σ H (.ref p)) (hb : Ev tb σ H (.int (r : Int))) (hc : Ev tc σ H (.int (w : Int))) (hd : Ev td σ H (.ref d)) (hP : ProgAt H p P) (wf : WF P) (hr : r < P.rows.length) (hw : w < 128) (hKn : KnownAt H d M) (hG : Good P M)
    (k : ∀ H' M' e, KeptD H H' d → KnownAt H' d M' → Good P M' → M' r w = some e → tz D (σ.set i (some (.int (e.d : Nat)))) H') :
    tSeq (tAsg (tCall (sp_pweigh K) [] E0 (tCons ta (tCons tb (tCons tc (tCons td tNil))))) (gName i)) tz D σ H :=
  q_asgCall (ea_cons ha (ea_cons hb (ea_cons hc (ea_cons hd ea_nil)))) fun H1 e => ⟨rfl, p, d, P, r, w, M, rfl, hP.keep (.of e), wf, hr, hw, by omega, hKn.ex e, hG, fun H' M' e' hK h2 h3 h4 h5 h6 => k H' M' e' (fun b o nb z => hK b o nb (e _ _ z)) h2 h3 h6⟩
theorem q_dropCall {sp : Sp} {dvs : List V} {E : XK} {tA : TA} (h : EvA tA σ H vs) (hs : ∀ H1, Ex H H1 → sp (vs ++ dvs) H1 (fun v H2 => tz D σ H2) E) : tSeq (tDrop (tCall sp dvs E tA)) tz D σ H := h H (Ex.refl H) _ fun H1 e => hs H1 e
theorem q_weighD {r w : Nat} (ha : Ev ta σ H (.ref p)) (hb : Ev tb σ H (.int (r : Int))) (hc : Ev tc σ H (.int (w : Int))) (hd : Ev td σ H (.ref d)) (hP : ProgAt H p P) (wf : WF P) (hr : r < P.rows.length) (hw : w < 128) (hKn : KnownAt H d M) (hG : Good P M)
    (k : ∀ H' M' e, KeptD H H' d → KnownAt H' d M' → Good P M' → M' r w = some e → tz D σ H') :
    tSeq (tDrop (tCall (sp_pweigh K) [] E0 (tCons ta (tCons tb (tCons tc (tCons td tNil)))))) tz D σ H :=
  q_dropCall (ea_cons ha (ea_cons hb (ea_cons hc (ea_cons hd ea_nil)))) fun H1 e => ⟨rfl, p, d, P, r, w, M, rfl, hP.keep (.of e), wf, hr, hw, by omega, hKn.ex e, hG, fun H' M' e' hK h2 h3 h4 h5 h6 => k H' M' e' (fun b o nb z => hK b o nb (e _ _ z)) h2 h3 h6⟩
theorem er_ringto {as : List Addr} {S : List (Nat × Nat)} (ha : Ev ta σ H (.ref p)) (hb : Ev tb σ H (.ref l)) (hP : ProgAt H p P) (wf : WF P) (hl : H l = some (.lst (as.map V.ref))) (hS : StandsAt H as S) (hO : OkS P S) (h10 : S.length ≤ 10) :
    Er (tCall (sp_pringingsto K) [] E0 (tCons ta (tCons tb tNil))) σ H fun _ _ => True :=
  er_call (ea_cons ha (ea_cons hb ea_nil)) fun H1 e Q q' E => ⟨rfl, p, l, P, as, S, rfl, hP.keep (.of e), wf, e _ _ hl, hS.ex e, hO, h10, fun v H' e' => q' v H' e' trivial⟩
theorem pure_pdeepest (h : sp_pdeepest K vs H Q E) : t_pdeepest K { nx := fun _ H' => Q .non H', rt := Q } (L2.start n_pdeepest vs) H := by
  obtain ⟨_, p, P, rfl, hP, wf, kk⟩ := h
  have r7 := wf.r7
  have r1 := wf.r1
  have rk9 : ∀ r, r < P.rows.length → rk P r ≤ 9 := fun r hr => by
    by_cases z : r = 0
    · rw [z, wf.rk0]
      exact Nat.zero_le _
    · exact (wf.rkb r (by omega) hr).2
  change t_pdeepest K _ [some (.ref p), none, none, none, none, none, none] H
  unfold t_pdeepest
  refine q_dnew fun d hd => ?_
  have e1 : Ex H (upd H d (.dT [])) := Ex.new hd
  refine q_weigh (r := 0) (w := 0) (ev_var rfl) ev_c ev_c (ev_var rfl) (hP.keep (.of e1)) wf r1 (by decide) (known_nil upd_same) good_nil fun H2 M e0 hK hKn hG hM => ?_
  have e2 := kept_new hd hK
  clear hK e1
  obtain ⟨kvs, hdd, nd, hks, hMv⟩ := id hKn
  refine q_asgL (el_lst ea_nil (by show 0 ≤ 100000; decide)) fun l H3 hl0 e3 hl => ?_
  have hl2 : ∀ {H'}, Ex H2 H' → H2 l = none := fun _ => hl0
  refine q_asg (ev_c (v := .int ((0 : Nat) : Int))) fun H4 e4 => ?_
  refine q_asg (ev_c (v := .int ((0 : Nat) : Int))) fun H5 e5 => ?_
  have e35 := e4.trans e5
  refine q_while (fun m σ' H' => ∃ (r w : Nat) (v6 : Option V) (e : Ent) (as : List Addr) (L : List (Nat × Nat)), σ' = [some (.ref p), some (.ref d), some (.int (e0.d : Nat)), some (.ref l), some (.int (r : Nat)), some (.int (w : Nat)), v6] ∧ Ex H2 H' ∧ H' l = some (.lst (as.map V.ref)) ∧
      StandsAt H' as L ∧ OkS P L ∧ wordOf P L = w ∧ floorOf P L < (rk P r : Int) ∧ w.testBit r = false ∧ r < P.rows.length ∧ L.length ≤ rk P r ∧ M r w = some e ∧ e.d = m) e0.d
    ⟨0, 0, none, e0, [], [], rfl, e3.trans e35, e35 _ _ hl, ⟨rfl, fun i a x z => (by cases z)⟩, fun i s z => (by cases z), rfl, by rw [wf.rk0]; show (-1 : Int) < ((0 : Nat) : Int); decide, rfl, r1, Nat.zero_le _, hM, rfl⟩ ?_
  rintro m σ' H' ⟨r, w, v6, e, as, L, rfl, eH, hll, hS, hO, hw, hf, hb, hr, hL, hMe, rfl⟩
  obtain ⟨q, g1, g2⟩ := (hMv r w).2 e hMe
  have hd' := eH _ _ hdd
  have hq' := eH _ _ g2
  have hr9 := rk9 r hr
  have asl : as.length ≤ 9 := by
    have := hS.1
    omega
  refine ⟨_, t_gr (e_ix (e_dget (ev_var rfl) (eu_key (r := r) (w := w) (ev_var rfl) (ev_var rfl)) hd' g1) ev_c hq' (v := .int (e.d : Nat)) rfl) ev_c, fun hg H6 e6 => ?_, fun hg H6 e6 => ?_⟩
  · have hg := of_decide_eq_true hg
    have hpos : 0 < e.d := by omega
    obtain ⟨_, _, hst⟩ := hG r w e hMe
    obtain ⟨svp, sb0, sbn, srk, ss, sbit⟩ := hst hpos
    obtain ⟨_, cl, _⟩ := hG r w e hMe
    obtain ⟨e', m1, m2⟩ := cl _ _ _ (hst hpos)
    have hpl : e.p ≤ ln P r := by
      rcases svp with z | ⟨_, z⟩
      · exact Nat.le_of_lt z
      · omega
    have eH6 := eH.trans e6
    refine ⟨fun σ2 H'' => ∃ (r w : Nat) (v6 : Option V) (e1 : Ent) (as : List Addr) (L : List (Nat × Nat)), σ2 = [some (.ref p), some (.ref d), some (.int (e0.d : Nat)), some (.ref l), some (.int (r : Nat)), some (.int (w : Nat)), v6] ∧ Ex H2 H'' ∧ H'' l = some (.lst (as.map V.ref)) ∧
      StandsAt H'' as L ∧ OkS P L ∧ wordOf P L = w ∧ floorOf P L < (rk P r : Int) ∧ w.testBit r = false ∧ r < P.rows.length ∧ L.length ≤ rk P r ∧ M r w = some e1 ∧ e1.d < e.d, ?_, ?_⟩
    · rintro σ2 H'' ⟨r', w', v6', e1, as', L', h1, h2, h3, h4, h5, h6, h7, h8, h9, h10, h11, h12⟩
      exact ⟨e1.d, h12, r', w', v6', e1, as', L', h1, h2, h3, h4, h5, h6, h7, h8, h9, h10, h11, rfl⟩
    · refine q_asg (e_dget (ev_var rfl) (eu_key (r := r) (w := w) (ev_var rfl) (ev_var rfl)) (e6 _ _ hd') g1) fun H7 e7 => ?_
      have e67 := e6.trans e7
      refine q_appU (xs := as.map V.ref) (ys := [.int (r : Nat), .int (e.p : Nat), .int 0]) (e67 _ _ hll) (ev_var rfl) (eu_tup (ea_cons (ev_var rfl) (ea_cons (e_ix (ev_var rfl) ev_c (e67 _ _ hq') (v := .int (e.p : Nat)) rfl) (ea_cons ev_c ea_nil))) (by show 3 ≤ 100000; decide)) (by rw [List.length_map]; omega) fun sa H8 hsa e8 h8 => ?_
      have e68 := e67.trans e8
      have eH9 : Ex H2 (upd H8 l (.lst (as.map V.ref ++ [.ref sa]))) := Ex.mut (eH.trans e68) hl0
      have nsa : sa ≠ l := ne_of h8 (e8 _ _ (e67 _ _ hll)) (by intro z; cases z)
      have hS9 : StandsAt (upd H8 l (.lst (as.map V.ref ++ [.ref sa]))) (as ++ [sa]) (L ++ [(r, e.p)]) := by
        refine stands_snoc ⟨hS.1, fun i a x z1 z2 => ?_⟩ ?_
        · have z3 := e68 _ _ (hS.2 i a x z1 z2)
          have na : a ≠ l := ne_of z3 (e8 _ _ (e67 _ _ hll)) (by intro z; cases z)
          rw [upd_ne na]
          exact z3
        · rw [upd_ne nsa]
          exact h8
      have hl9 : (upd H8 l (.lst (as.map V.ref ++ [.ref sa]))) l = some (.lst ((as ++ [sa]).map V.ref)) := by
        rw [upd_same, List.map_append]
        rfl
      generalize (upd H8 l (.lst (as.map V.ref ++ [.ref sa]))) = H9 at *
      have hq9 := eH9 _ _ g2
      refine q_asg (e_ix (ev_var rfl) ev_c hq9 (v := .int (e.b : Nat)) rfl) fun H10 e10 => ?_
      refine s_asg (e_ix (ev_var rfl) ev_c (e10 _ _ hq9) (v := .int (e.s : Nat)) rfl) fun H11 e11 => ?_
      have e911 := e10.trans e11
      refine ⟨e.b, e.s, _, e', as ++ [sa], L ++ [(r, e.p)], rfl, eH9.trans e911, e911 _ _ hl9, hS9.ex e911, oks_snoc hO hf (by rw [hw]; exact hb) hr hpl, ?_, ?_, sbit, sbn, ?_, m1, m2⟩
      · rw [wordOf_snoc, hw, ss]
      · rw [floorOf_snoc]
        exact Int.ofNat_lt.mpr srk
      · rw [List.length_append, List.length_singleton]
        omega
  · refine q_appU (xs := as.map V.ref) (ys := [.int (r : Nat), .int ((0 : Nat) : Int), .int 0]) (e6 _ _ hll) (ev_var rfl) (eu_tup (ea_cons (ev_var rfl) (ea_cons ev_c (ea_cons ev_c ea_nil))) (by show 3 ≤ 100000; decide)) (by rw [List.length_map]; omega) fun sa H8 hsa e8 h8 => ?_
    have e68 := e6.trans e8
    have eH9 : Ex H2 (upd H8 l (.lst (as.map V.ref ++ [.ref sa]))) := Ex.mut (eH.trans e68) hl0
    have nsa : sa ≠ l := ne_of h8 (e8 _ _ (e6 _ _ hll)) (by intro z; cases z)
    have hS9 : StandsAt (upd H8 l (.lst (as.map V.ref ++ [.ref sa]))) (as ++ [sa]) (L ++ [(r, 0)]) := by
      refine stands_snoc ⟨hS.1, fun i a x z1 z2 => ?_⟩ ?_
      · have z3 := e68 _ _ (hS.2 i a x z1 z2)
        have na : a ≠ l := ne_of z3 (e8 _ _ (e6 _ _ hll)) (by intro z; cases z)
        rw [upd_ne na]
        exact z3
      · rw [upd_ne nsa]
        exact h8
    have hl9 : (upd H8 l (.lst (as.map V.ref ++ [.ref sa]))) l = some (.lst ((as ++ [sa]).map V.ref)) := by
      rw [upd_same, List.map_append]
      rfl
    generalize (upd H8 l (.lst (as.map V.ref ++ [.ref sa]))) = H9 at *
    refine s_retR (er_tup (Ψ := fun vs _ => ∃ x, vs = [.int (e0.d : Nat), x]) (?_) (fun vs H' ⟨x, z⟩ => by rw [z]; show 2 ≤ 100000; decide) (fun vs H1 H2 _ z => z)) fun v H10 e10 ⟨q', vs, z1, z2, x, z3⟩ => ?_
    · have hlast := er_ringto (K := K) (σ := [some (.ref p), some (.ref d), some (.int (e0.d : Nat)), some (.ref l), some (.int (r : Nat)), some (.int (w : Nat)), v6]) (ta := tVar 0) (tb := tVar 3) (ev_var rfl) (ev_var rfl) (hP.keep (.of (e2.trans eH9))) wf hl9 hS9 (oks_snoc hO hf (by rw [hw]; exact hb) hr (Nat.zero_le _)) (by rw [List.length_append, List.length_singleton]; omega)
      have hh := ear_cons (er_eq (ev_var (i := 2) rfl)) (fun _ _ _ _ z => z) (ear_cons hlast (fun _ _ _ _ z => trivial) ear_nil)
      exact fun H1 e Q q => hh H1 e Q fun vs H2 e2 ⟨y, r1, y1, y2, y3, r2, y4, _, y5⟩ => q vs H2 e2 ⟨y3, by rw [y1, y2, y4, y5]⟩
    · subst z1 z3
      refine kk _ _ _ (papOf M) e0.d ((e2.trans eH9).trans e10) z2 (good_closed hG) ?_
      unfold papOf
      rw [hM]
      rfl
end
end Bn
set_option Elab.async false
set_option linter.all false
set_option maxRecDepth 100000
set_option maxHeartbeats 4000000
namespace Bn
open PySem PySem.Spec PyProof.Rows L2 Evl
section
variable {K : PySem.W.Frag} {σ : L2.St} {H H2 H' Hn H0 H1 : Hp} {ta tb tc te tx td ty tv tl : TE} {t u : TT} {vs xs ys : List V} {Q : VK} {E : XK} {D : Ends} {tu tw tz : TS} {Φ : V → Hp → Prop} {v : V} {p l q b f c a d : Addr} {fr : Frm} {cs : List Int} {P : Prog} {st : Mst} {M : Kn}
theorem valV_mem : ∀ {kvs : List (List Key × V)} {k : List Key} {v : V}, (kvs.map (·.1)).Nodup → (k, v) ∈ kvs → valV kvs k = some v
  | [], k, v, _, h => by cases h
  | kv :: r, k, v, nd, h => by
    rw [List.map_cons, List.nodup_cons] at nd
    by_cases e : kv.1 = k
    · rw [valV_pos e]
      rcases List.mem_cons.mp h with z | z
      · rw [← z]
      · refine absurd ?_ nd.1
        rw [e]
        exact List.mem_map.mpr ⟨(k, v), z, rfl⟩
    · rw [valV_neg e]
      rcases List.mem_cons.mp h with z | z
      · exact absurd (by rw [← z]) e
      · exact valV_mem nd.2 z
theorem walk_itemsT {kvs : List (List Key × V)} {o : Obj} : Walk (ItiT d o kvs) kvs.length (fun H => H d = some (.frz o (.dT kvs))) (fun i H x H' => ∃ (T q : Addr) (k : List Key) (v : V), kvs[i]? = some (k, v) ∧ x = .ref T ∧ H T = none ∧ H q = some (.tup (k.map kV)) ∧ H' = upd H T (.tup [.ref q, v])) :=
  ⟨fun _ _ hi q => ⟨q, hi⟩, fun _ q => ⟨q, Nat.le_refl _⟩, fun _ _ _ _ _ _ y => y⟩
theorem g_two {x y : V} {i j : Nat} {Qs : L2.St → Hp → Prop} (h : H a = some (.tup [x, y])) (q : Qs ((σ.set i (some x)).set j (some y)) H) : gTup K 2 (gCons (gName i) (gCons (gName j) gNil)) (.ref a) σ H Qs :=
  ⟨a, [x, y], rfl, st_of h, rfl, x, [y], rfl, y, [], rfl, rfl, q⟩
theorem yes_tup {ys : List V} {Pq : V → Hp → Prop} {R : Hp → Prop} (h : EvU te σ H ys) (k : ∀ p H1, H p = none → Ex H H1 → H1 p = some (.tup ys) → Pq (.ref p) H1) : tYes σ H fun b H3 => if b = true then te σ H3 Pq else R H3 := by
  show (if true = true then te σ H Pq else R H)
  rw [if_pos rfl]
  exact h H (Ex.refl H) _ k
/-- the key of an entry, its word, its depth -/
def unkey : List Key → Nat × Nat
  | [Sum.inl r, Sum.inl w] => (r.toNat, w.toNat)
  | _ => (0, 0)
theorem unkey_key (r w : Nat) : unkey (key r w) = (r, w) := rfl
def tri (M : Kn) (kv : List Key × V) : Nat × Nat × Nat := ((unkey kv.1).1, (unkey kv.1).2, match M (unkey kv.1).1 (unkey kv.1).2 with
  | some e => e.d
  | none => 0)
theorem pure_ppaper (h : sp_ppaper K vs H Q E) : t_ppaper K { nx := fun _ H' => Q .non H', rt := Q } (L2.start n_ppaper vs) H := by
  obtain ⟨_, p, P, rfl, hP, wf, kk⟩ := h
  have r1 := wf.r1
  change t_ppaper K _ [some (.ref p), none, none, none] H
  unfold t_ppaper
  refine q_dnew fun d hd => ?_
  have e1 : Ex H (upd H d (.dT [])) := Ex.new hd
  refine q_weighD (r := 0) (w := 0) (ev_var rfl) ev_c ev_c (ev_var rfl) (hP.keep (.of e1)) wf r1 (by decide) (known_nil upd_same) good_nil fun H2 M e0 hK hKn hG hM => ?_
  have e2 := kept_new hd hK
  clear hK e1
  obtain ⟨kvs, hdd, nd, hks, hMv⟩ := id hKn
  have h896 := keys_le nd hks
  -- what stands behind a key
  have ent : ∀ k v, (k, v) ∈ kvs → ∃ r w e q, k = key r w ∧ M r w = some e ∧ v = .ref q ∧ H2 q = some (.tup (entV e)) := by
    intro k v hm
    obtain ⟨r, w, hk, _, _⟩ := hks _ hm
    have hk : k = key r w := hk
    have hv := valV_mem nd hm
    cases hmm : M r w with
    | none =>
      have := (hMv r w).1 hmm
      rw [← hk, hv] at this
      cases this
    | some e =>
      obtain ⟨q, g1, g2⟩ := (hMv r w).2 e hmm
      rw [← hk, hv] at g1
      exact ⟨r, w, e, q, hk, hmm, Option.some.inj g1, g2⟩
  have lst : ∀ r w n, (r, w, n) ∈ kvs.map (tri M) ↔ papOf M r w = some n := by
    intro r w n
    constructor
    · intro hm
      obtain ⟨kv, h1, h2⟩ := List.mem_map.mp hm
      obtain ⟨r', w', e, q, z1, z2, _, _⟩ := ent kv.1 kv.2 h1
      unfold tri at h2
      rw [z1, unkey_key] at h2
      simp only [z2] at h2
      injection h2 with y1 y2
      injection y2 with y2 y3
      subst y1 y2 y3
      unfold papOf
      rw [z2]
      rfl
    · intro hm
      unfold papOf at hm
      cases hmm : M r w with
      | none =>
        rw [hmm] at hm
        cases hm
      | some e =>
        rw [hmm] at hm
        have hm := Option.some.inj hm
        subst hm
        obtain ⟨q, g1, _⟩ := (hMv r w).2 e hmm
        have hin := valV_in g1
        obtain ⟨kv, h1, h2⟩ := List.mem_map.mp hin
        refine List.mem_map.mpr ⟨kv, h1, ?_⟩
        have h2 : kv.1 = key r w := h2
        unfold tri
        rw [h2, unkey_key]
        simp only [hmm]
  show ∃ d' u, H2 d' = some u ∧ Mut (some u) ∧ ∀ od, _
  refine ⟨d, _, hdd, trivial, fun od => ?_⟩
  refine ⟨.ref d, rfl, d, od, kvs, rfl, upd_same, fun C hC => ?_⟩
  have ndC : C ≠ d := by
    rintro rfl
    rw [upd_same] at hC
    cases hC
  have hC2 : H2 C = none := by
    rw [upd_ne ndC] at hC
    exact hC
  refine lc_it walk_itemsT (fun i H' => H' d = some (.frz od (.dT kvs)) ∧ (∀ b o, b ≠ d → H2 b = some o → H' b = some o) ∧ ∃ as : List Addr, H' C = some (.lst (as.map V.ref)) ∧ as.length = i ∧ TriAt H' as ((kvs.map (tri M)).take i)) ⟨?_, ?_, [], upd_same, rfl, ?_⟩ (fun i H' _ h => h.1) ?_ ?_
  · rw [upd_ne ndC.symm]
    exact upd_same
  · intro b o nb z
    have nbC : b ≠ C := by
      rintro rfl
      rw [hC2] at z
      cases z
    rw [upd_ne nbC, upd_ne nb]
    exact z
  · exact ⟨rfl, fun i a x z => by cases z⟩
  · rintro i x H3 H4 hi ⟨hf, hK, as, hl, hal, hT⟩ ⟨T, q, k, v, hkv, rfl, hTn, hq, rfl⟩
    have hmem : (k, v) ∈ kvs := List.mem_of_getElem? hkv
    obtain ⟨r, w, e, q2, rfl, hMe, rfl, hq2⟩ := ent k v hmem
    have nq2d : q2 ≠ d := ne_of hq2 hdd (by intro z; cases z)
    have eT : Ex H3 (upd H3 T (.tup [.ref q, .ref q2])) := Ex.new hTn
    refine g_two (x := .ref q) (y := .ref q2) upd_same ⟨rfl, ?_⟩
    have hq3 : (upd H3 T (.tup [.ref q, .ref q2])) q = some (.tup [.int (r : Int), .int (w : Int)]) := eT _ _ hq
    have hq23 := eT _ _ (hK _ _ nq2d hq2)
    refine yes_tup (eu_tup (vs := [.int (r : Nat), .int (w : Nat), .int (e.d : Nat)]) (ea_cons (e_ix (v := .int (r : Nat)) (ev_var rfl) ev_c hq3 rfl) (ea_cons (e_ix (v := .int (w : Nat)) (ev_var rfl) ev_c hq3 rfl) (ea_cons (e_ix (v := .int (e.d : Nat)) (ev_var rfl) ev_c hq23 rfl) ea_nil))) (by show 3 ≤ 100000; decide)) fun ad H5 had e5 h5 => ?_
    have e35 := eT.trans e5
    have hl5 := e35 _ _ hl
    refine ⟨_, hl5, sz_lt (by rw [List.length_map, hal]; omega), ?_⟩
    have nad : ad ≠ C := ne_of h5 hl5 (by intro z; cases z)
    refine ⟨?_, ?_, as ++ [ad], ?_, ?_, ?_⟩
    · rw [upd_ne ndC.symm]
      exact e35 _ _ hf
    · intro b o nb z
      have nbC : b ≠ C := by
        rintro rfl
        rw [hC2] at z
        cases z
      rw [upd_ne nbC]
      exact e35 _ _ (hK b o nb z)
    · rw [upd_same, List.map_append]
      rfl
    · rw [List.length_append, hal]
      rfl
    · have hik : (kvs.map (tri M))[i]? = some (r, w, e.d) := by
        rw [List.getElem?_map, hkv]
        show some (tri M (key r w, _)) = _
        unfold tri
        rw [unkey_key]
        simp only [hMe]
      obtain ⟨hi', hik'⟩ := List.getElem?_eq_some_iff.mp hik
      rw [List.take_succ_eq_append_getElem hi', hik']
      refine ⟨by rw [List.length_append, List.length_append, hT.1]; rfl, fun j a x z1 z2 => ?_⟩
      by_cases z : j < as.length
      · rw [List.getElem?_append_left z] at z1
        rw [List.getElem?_append_left (by rw [← hT.1]; exact z)] at z2
        have z3 := e35 _ _ (hT.2 j a x z1 z2)
        have na : a ≠ C := ne_of z3 hl5 (by intro z; cases z)
        rw [upd_ne na]
        exact z3
      · rw [List.getElem?_append_right (by omega)] at z1
        rw [List.getElem?_append_right (by rw [← hT.1]; omega), ← hT.1] at z2
        cases hk : j - as.length with
        | zero =>
          rw [hk] at z1 z2
          have z1 := Option.some.inj z1
          have z2 := Option.some.inj z2
          subst z1
          subst z2
          rw [upd_ne nad]
          exact h5
        | succ n =>
          rw [hk] at z1
          cases z1
  · rintro H3 ⟨hf, hK, as, hl, hal, hT⟩
    refine ⟨hf, ?_⟩
    rw [List.take_of_length_le (by rw [List.length_map]; exact Nat.le_refl _)] at hT
    have eE : Ex H2 (upd H3 d (.dT kvs)) := fun b o z => by
      by_cases nb : b = d
      · subst nb
        rw [upd_same, ← z, hdd]
      · rw [upd_ne nb]
        exact hK b o nb z
    refine kk C as (kvs.map (tri M)) _ (papOf M) (e2.trans eE) ?_ ?_ (good_closed hG) ⟨e0.d, by unfold papOf; rw [hM]; rfl⟩ lst (by rw [List.length_map]; omega)
    · rw [upd_ne ndC]
      exact hl
    · refine ⟨hT.1, fun j a x z1 z2 => ?_⟩
      have z3 := hT.2 j a x z1 z2
      have na : a ≠ d := ne_of z3 hf (by intro z; cases z)
      rw [upd_ne na]
      exact z3
end
end Bn
set_option Elab.async false
set_option linter.all false
set_option maxRecDepth 100000
set_option maxHeartbeats 4000000
namespace Bn
open PySem PySem.Spec PyProof.Rows L2 Evl
section
variable {K : PySem.W.Frag} {σ : L2.St} {H H2 H' Hn H0 H1 : Hp} {ta tb tc te tx td ty tv tl : TE} {t u : TT} {vs xs ys : List V} {Q : VK} {E : XK} {D : Ends} {tu tw tz : TS} {Φ : V → Hp → Prop} {v : V} {p l q b f c a d : Addr} {fr : Frm} {cs : List Int} {P : Prog} {st : Mst} {M : Pap}
theorem fv_new (wf : WF P) {k : Nat} (hkn : k < P.rows.length) : FV P ⟨k, 0, 0, []⟩ := by
  have hpl := wf.pl k hkn
  refine ⟨hkn, .inl ?_⟩
  have h0 : 0 < (plc P k).length := by
    have := hpl.1
    unfold ln at this
    omega
  have e0 : (plc P k)[0]? = some (plc P k)[0] := List.getElem?_eq_getElem h0
  have hd := (wf.dk k 0 _ _ e0).1
  refine ⟨_, ⟨_, e0⟩, ?_, ?_⟩
  · have := turns_le wf.bs hd
    show 0 < _
    omega
  · generalize (plc P k)[0].1 = d
    cases d <;> simp [HandOk]
theorem inv_new (wf : WF P) (hc : cs.length = total P.boxes) : Inv P ⟨0, [⟨0, 0, 0, []⟩], cs⟩ :=
  ⟨⟨⟨0, 0, 0, []⟩, [], rfl, rfl, trivial⟩, fun f hf => by
    rw [List.mem_singleton.mp hf]
    exact fv_new wf wf.r1, Nat.two_pow_pos _, rfl, hc⟩
theorem er_program {ns : List Int} (ha : Ev ta σ H (.ref a)) (hS : SqL K H a (ns.map V.int)) (hb : Er tb σ H fun v _ => ∃ m : Int, v = .int m ∧ 1 ≤ m ∧ m ≤ 12) :
    Er (tCall (sp_program K) [] E0 (tCons ta (tCons tb tNil))) σ H fun v H' => ∃ q P, v = .ref q ∧ ProgAt H' q P ∧ WF P :=
  er_callR (ear_cons (er_eq ha) Mono.val (ear_cons hb Mono.val ear_nil)) fun vs H1 e ⟨v1, r1, z1, z2, v2, r2, z3, ⟨m, z4, z5⟩, z6⟩ Q q' E => by
    subst z1 z2 z3 z4 z6
    exact ⟨rfl, a, ns, m, rfl, ex_l e hS, z5.1, z5.2, fun q P H' e' h1 h2 => q' _ H' e' ⟨q, P, rfl, h1, h2⟩⟩
theorem er_words {ns : List Int} {n : Nat} (ha : Ev ta σ H (.ref a)) (hb : Ev tb σ H (.int (n : Int))) (hS : SqL K H a (ns.map V.int)) (hl : ns.length ≤ 63) (hn : n ≤ 6) :
    Er (tCall (sp_ringings K) [] E0 (tCons ta (tCons tb tNil))) σ H fun v H' => ∃ (q : Addr) (ws : List Nat), v = .ref q ∧ H' q = some (.lst (nV ws)) ∧ (∀ w ∈ ws, w < 2 ^ (n + 1) ∧ w % 2 = 0) ∧ ws.length ≤ 1000 :=
  er_call (ea_cons ha (ea_cons hb ea_nil)) fun H1 e Q q' E => ⟨rfl, a, ns, n, rfl, ex_l e hS, hl, hn, fun q ws H' e' h1 h2 h3 => q' _ H' e' ⟨q, ws, rfl, h1, h2, h3⟩⟩
theorem er_paper (ha : Ev ta σ H (.ref p)) (hP : ProgAt H p P) (wf : WF P) :
    Er (tCall (sp_ppaper K) [] E0 (tCons ta tNil)) σ H fun v H' => ∃ q xs, v = .ref q ∧ H' q = some (.lst xs) ∧ ∃ (as : List Addr) (L : List (Nat × Nat × Nat)) (M : Pap), xs = as.map V.ref ∧ TriAt H' as L ∧ Closed P M ∧ (∃ D, M 0 0 = some D) ∧ (∀ r w d, (r, w, d) ∈ L ↔ M r w = some d) ∧ L.length ≤ 1000 :=
  er_call (ea_cons ha ea_nil) fun H1 e Q q' E => ⟨rfl, p, P, rfl, hP.keep (.of e), wf, fun q as L H' M e' h1 h2 h3 h4 h5 h6 => q' _ H' e' ⟨q, _, rfl, h1, as, L, M, rfl, h2, h3, h4, h5, h6⟩⟩
theorem er_most (ha : Ev ta σ H (.ref p)) (hP : ProgAt H p P) (wf : WF P) :
    Er (tOp (rIxT K) (tCall (sp_pdeepest K) [] E0 (tCons ta tNil)) (tC (.int 0))) σ H fun v _ => ∃ (D : Nat) (M : Pap), v = .int (D : Nat) ∧ Closed P M ∧ M 0 0 = some D :=
  er_op (Φ := fun v H' => ∃ q x, ∃ (D : Nat) (M : Pap), v = .ref q ∧ H' q = some (.tup [.int (D : Nat), x]) ∧ Closed P M ∧ M 0 0 = some D)
    (er_call (ea_cons ha ea_nil) fun H1 e Q q' E => ⟨rfl, p, P, rfl, hP.keep (.of e), wf, fun q x H' M D e' h1 h2 h3 => q' _ H' e' ⟨q, x, D, M, rfl, h1, h2, h3⟩⟩)
    (er_eq ev_c) (fun v H1 H2 e ⟨q, x, D, M, h1, h2, h3⟩ => ⟨q, x, D, M, h1, e _ _ h2, h3⟩) fun x y H1 e ⟨q, x', D, M, h1, h2, h3, h4⟩ hy Q q' => ⟨q, _, 0, .int (D : Nat), h1, hy, st_of h2, rfl, q' _ H1 (Ex.refl H1) ⟨D, M, rfl, h3, h4⟩⟩
theorem e_rests [Decidable (Rests P st)] (ha : Ev ta σ H (.ref p)) (hb : Ev tb σ H (.ref a)) (hP : ProgAt H0 p P) (wf : WF P) (hN : NowAt H0 H a st) (I : Inv P st) :
    Ev (tCall (sp_rests K) [] E0 (tCons ta (tCons tb tNil))) σ H (.bl (decide (Rests P st))) :=
  ev_call (ea_cons ha (ea_cons hb ea_nil)) fun H1 e Q q' E => ⟨rfl, p, a, P, H0, st, rfl, hP, wf, hN.ex e, I, fun b H' hb e' => by
    have : b = decide (Rests P st) := by
      by_cases h : Rests P st
      · rw [hb.mpr h, decide_eq_true h]
      · rw [decide_eq_false h]
        cases b with
        | false => rfl
        | true => exact absurd (hb.mp rfl) h
    rw [this]
    exact q' H' e'⟩
theorem e_goes {f0 : Frm} {fs : List Frm} {D0 : Nat} (ha : Ev ta σ H (.ref p)) (hb : Ev tb σ H (.ref l)) (hc : Ev tc σ H (.ref a)) (hP : ProgAt H p P) (wf : WF P) (h1 : PileAt H l (f0 :: fs)) (h2 : ∀ f ∈ f0 :: fs, f.row < P.rows.length ∧ f.place ≤ ln P f.row) (h3 : PapAt H a M) (h4 : M 0 0 = some D0) (h5 : fs.length ≤ 1000) (h6 : Thru P M D0 (wAt P f0.row f0.place) fs) :
    Ev (tCall (sp_goes K) [] E0 (tCons ta (tCons tb (tCons tc tNil)))) σ H (.bl true) :=
  ev_call (ea_cons ha (ea_cons hb (ea_cons hc ea_nil))) fun H1 e Q q' E => ⟨rfl, p, l, a, P, f0, fs, M, D0, rfl, hP.keep (.of e), wf, h1.ex e, h2, by
    obtain ⟨kvs, y1, y2⟩ := h3
    exact ⟨kvs, e _ _ y1, y2⟩, h4, h5, h6, fun H' e' => q' H' e'⟩
def need (ws : List Nat) (i : Nat) : Nat := ((ws.drop i).map fun w => 130 * pop 7 w + 1).sum
theorem need_step {ws : List Nat} {i : Nat} {w : Nat} (h : ws[i]? = some w) : need ws i = 130 * pop 7 w + 1 + need ws (i + 1) := by
  obtain ⟨hi, e⟩ := List.getElem?_eq_some_iff.mp h
  unfold need
  rw [List.drop_eq_getElem_cons hi, e, List.map_cons, List.sum_cons]
theorem need_end {ws : List Nat} {i : Nat} (h : ws.length ≤ i) : need ws i = 0 := by
  unfold need
  rw [List.drop_eq_nil_of_le h]
  rfl
theorem pop_zero : pop 7 0 = 0 := by decide
theorem pure_law (h : sp_law K vs H Q E) : t_law K { nx := fun _ H' => Q .non H', rt := Q } (L2.start n_law vs) H := by
  obtain ⟨_, a, ns, rfl, hS, hl63, kk⟩ := h
  change t_law K _ [some (.ref a), none, none, none, none, none, none, none, none, none, none] H
  unfold t_law r_law_0 b_law_0
  refine q_asgR (er_program (ns := ns) (ev_var rfl) hS (er_il (χ := fun v => ∃ m : Int, v = .int m ∧ 1 ≤ m ∧ m ≤ 12) (er_lstN (el_lst (ea_cons ev_c (ea_cons ev_c (ea_cons ev_c (ea_cons ev_c ea_nil)))) (by simp)) (by
      intro x hx
      simp only [List.mem_cons, List.not_mem_nil, or_false] at hx
      rcases hx with z | z | z | z <;> exact ⟨_, z, by decide, by decide⟩)) (e_draw (k := 7) (m := 4) (ev_var rfl) ev_c ev_c hS ⟨by decide, by decide⟩ (by decide)))) ?_
  rintro _ H1 e1 ⟨p, P, rfl, hP, wf⟩
  have r1 := wf.r1
  have r7 := wf.r7
  obtain ⟨bx, rw', g1, g2, g3⟩ := prog_at hP
  unfold r_law_1 b_law_1
  refine q_asgR (er_words (ns := ns) (n := P.rows.length - 1) (ev_var rfl) (ev_is (e_mi (e_nrows (e_rows (P := P) (ev_var rfl) g1) g3) ev_c) (congrArg V.int (by omega))) (ex_l e1 hS) hl63 (by omega)) ?_
  rintro _ H2 e2 ⟨wq, ws, rfl, hwq, hws, hwl⟩
  unfold r_law_2 b_law_2
  refine q_dnew fun dd hdd => ?_
  have e3 : Ex H2 (upd H2 dd (.dT [])) := Ex.new hdd
  have hd3 : (upd H2 dd (.dT [])) dd = some (.dT []) := upd_same
  generalize (upd H2 dd (.dT [])) = H3 at *
  have e13 := e2.trans e3
  have hP3 := hP.keep (.of e13)
  unfold r_law_3 b_law_3
  refine q_forLR (er_paper (ev_var rfl) hP3 wf) ?_
  rintro q xs H4 e4 hq ⟨as, L, M, rfl, hT, hC, ⟨D1, hD1⟩, hL, hLl⟩
  have e14 := e13.trans e4
  have hd4 := e4 _ _ hd3
  have hq0 : q ≠ dd := ne_of hq hd4 (by intro z; cases z)
  -- all of H4 but dd stays
  refine ⟨fun i σ' H' => ∃ (v4 v5 v6 : Option V) (kvs : List (List Key × V)), σ' = [some (.ref a), some (.ref p), some (.ref wq), some (.ref dd), v4, v5, v6, none, none, none, none] ∧ KeptD H4 H' dd ∧ H' dd = some (.dT kvs) ∧ kvs.length ≤ i ∧
      (∀ r w d, (r, w, d) ∈ L.take i → valV kvs (key r w) = some (.int (d : Nat))) ∧ (∀ r w, (∀ d, (r, w, d) ∉ L.take i) → valV kvs (key r w) = none),
    ⟨none, none, none, [], rfl, fun b o _ z => z, hd4, Nat.le_refl _, fun r w d z => (by cases z), fun _ _ _ => rfl⟩, fun i σ' H' hi ⟨_, _, _, _, _, hK, _⟩ => sq_of (hK _ _ hq0 hq), ?_, ?_⟩
  · rintro i x σ' H' hi ⟨v4, v5, v6, kvs, rfl, hK, hd', hkl, hin, hout⟩
    rw [List.getElem?_map] at hi
    cases ea : as[i]? with
    | none =>
      rw [ea] at hi
      cases hi
    | some sa =>
      rw [ea] at hi
      have hx := Option.some.inj hi
      subst hx
      have hiL : i < L.length := by
        rw [← hT.1]
        exact (List.getElem?_eq_some_iff.mp ea).1
      have es : L[i]? = some L[i] := List.getElem?_eq_getElem hiL
      have hsa := hT.2 i sa _ ea es
      have htake : L.take (i + 1) = L.take i ++ [L[i]] := List.take_succ_eq_append_getElem hiL
      have hmem : L[i] ∈ L := List.getElem_mem hiL
      generalize hsx : L[i] = s at *
      obtain ⟨r, w, n⟩ := s
      have hMrw := (hL r w n).mp hmem
      refine g_tri (hK.tk hd4 _ _ hsa) ?_
      refine s_dput (k := key r w) (ev_var rfl) (ev_var rfl) (eu_key (r := r) (w := w) (ev_var rfl) (ev_var rfl)) hd' (by omega) fun H5 e5 => ?_
      refine ⟨_, _, _, _, rfl, fun b o nb z => ?_, upd_same, ?_, fun r' w' d' hm => ?_, fun r' w' hm => ?_⟩
      · rw [upd_ne nb]
        exact e5 _ _ (hK b o nb z)
      · have := length_putK kvs (key r w) (.int (n : Nat))
        exact Nat.le_trans this (by omega)
      · rw [valV_put]
        rw [htake] at hm
        by_cases hk : key r' w' = key r w
        · rw [if_pos hk]
          obtain ⟨rfl, rfl⟩ := key_inj hk
          have h2 : (r', w', d') ∈ L := by
            rcases List.mem_append.mp hm with z | z
            · exact List.mem_of_mem_take z
            · rw [List.mem_singleton.mp z]
              exact hmem
          have h3 := (hL r' w' d').mp h2
          rw [hMrw] at h3
          rw [Option.some.inj h3]
        · rw [if_neg hk]
          rcases List.mem_append.mp hm with z | z
          · exact hin r' w' d' z
          · refine absurd ?_ hk
            have := List.mem_singleton.mp z
            injection this with y1 y2
            injection y2 with y2 y3
            rw [y1, y2]
      · rw [htake] at hm
        rw [valV_put, if_neg]
        · exact hout r' w' fun d' z => hm d' (List.mem_append.mpr (.inl z))
        · intro hk
          obtain ⟨rfl, rfl⟩ := key_inj hk
          exact hm n (List.mem_append.mpr (.inr (List.mem_singleton.mpr rfl)))
  · rintro σ' H' ⟨v4, v5, v6, kvs, rfl, hK, hd', hkl, hin, hout⟩
    rw [List.length_map, hT.1, List.take_length] at hin hout
    have hPap : PapAt H' dd M := ⟨kvs, hd', fun r w => by
      cases hm : M r w with
      | some d =>
        rw [hin r w d ((hL r w d).mpr hm)]
        rfl
      | none =>
        rw [hout r w fun d z => by rw [(hL r w d).mp z] at hm; cases hm]
        rfl⟩
    have tk1 : Tk H1 H' := fun b xs' z => hK.tk hd4 _ _ (e14 _ _ z)
    have hP' := hP.keep tk1
    have hwq' : H' wq = some (.lst (nV ws)) := by
      refine hK _ _ ?_ (e4 _ _ (e3 _ _ hwq))
      rintro rfl
      rw [hdd] at hwq
      cases hwq
    unfold r_law_4 b_law_4
    refine q_asgR (er_most (ev_var rfl) hP' wf) ?_
    rintro _ H5 e5 ⟨D2, M2, rfl, hC2, hD2⟩
    unfold r_law_5 b_law_5
    refine q_asgCall (ea_cons (ev_var rfl) ea_nil) fun H6 e6 => ?_
    have e56 := e5.trans e6
    refine ⟨rfl, p, P, rfl, hP'.keep (.of e56), wf, fun a0 H7 cs hcs hN0 => ?_⟩
    have hP6 := hP'.keep (.of e56)
    have hPap6 : PapAt H6 dd M := by
      obtain ⟨k1, y1, y2⟩ := hPap
      exact ⟨k1, e56 _ _ y1, y2⟩
    have hwq6 := e56 _ _ hwq'
    unfold r_law_6 b_law_6
    refine q_asg (ev_c (v := .int ((0 : Nat) : Int))) fun H8 e8 => ?_
    unfold r_law_7 b_law_7
    refine q_while (fun m σ' H' => ∃ (i : Nat) (st : Mst) (v10 : Option V), σ' = [some (.ref a), some (.ref p), some (.ref wq), some (.ref dd), v4, v5, v6, some (.int (D2 : Nat)), some (.ref a0), some (.int (i : Nat)), v10] ∧ NowAt H6 H' a0 st ∧ Inv P st ∧ m = Phi P st + need ws i) _
      ⟨0, _, none, rfl, hN0.ex e8, inv_new wf hcs, rfl⟩ ?_
    rintro m σ' H9 ⟨i, st, v10, rfl, hN, I, rfl⟩
    have e9 : Ex H6 H9 := hN.1
    have hwq9 := e9 _ _ hwq6
    have := Classical.propDecidable (Rests P st)
    have hlen : ∀ v10, EvT (tTest (tOp rLt (tVar 9) (tCB (rLenS K) (tCons (tVar 2) tNil)))) [some (.ref a), some (.ref p), some (.ref wq), some (.ref dd), v4, v5, v6, some (.int (D2 : Nat)), some (.ref a0), some (.int (i : Nat)), v10] H9 (decide ((i : Int) < ((nV ws).length : Int))) := fun v10 => t_lt (ev_var rfl) (e_lenL (ev_var rfl) hwq9)
    have nVl : (nV ws).length = ws.length := List.length_map _
    rw [nVl] at hlen
    refine ⟨_, et_or (hlen v10) fun _ => et_not (et_B (e_rests (ev_var rfl) (ev_var rfl) hP6 wf hN I)), fun hb H10 e10 => ?_, fun hb H10 e10 => ?_⟩
    · refine ⟨fun σ2 H2 => ∃ (i' : Nat) (st' : Mst) (v10 : Option V), σ2 = [some (.ref a), some (.ref p), some (.ref wq), some (.ref dd), v4, v5, v6, some (.int (D2 : Nat)), some (.ref a0), some (.int (i' : Nat)), v10] ∧ NowAt H6 H2 a0 st' ∧ Inv P st' ∧ Phi P st' + need ws i' < Phi P st + need ws i, fun σ2 H2 ⟨i', st', v10', h1, h2, h3, h4⟩ => ⟨_, h4, i', st', v10', h1, h2, h3, rfl⟩, ?_⟩
      -- the turn, whatever the word
      have go : ∀ (w : Nat) (H11 : Hp), Ex H9 H11 → w < 2 ^ P.rows.length → w % 2 = 0 → (∀ st', Phi P st' < Phi P st + 130 * pop 7 w ∨ (Phi P st' ≤ Phi P st + 130 * pop 7 w ∧ w = 0 → Rests P st) ∧ Phi P st' ≤ Phi P st + 130 * pop 7 w → Phi P st' + need ws (i + 1) < Phi P st + need ws i) →
          tSeq (tDrop (tCall (sp_turn K) [] E0 (tCons (tVar 1) (tCons (tVar 8) (tCons (tVar 10) tNil))))) (tSeq (tIfS (tOr (tTest (tOp rGr (tOp rMi (tCB (rLenS K) (tCons (tOp (rIxL K) (tVar 8) (tC (.int 1))) tNil)) (tC (.int 1))) (tVar 7))) (tNot (tB (tCall (sp_goes K) [] E0 (tCons (tVar 1) (tCons (tOp (rIxL K) (tVar 8) (tC (.int 1))) (tCons (tVar 3) tNil))))))) (tRet (tC (.bl false))) tNext) (tAsg (tOp rPl (tVar 9) (tC (.int 1))) (gName 9)))
            { nx := fun σ2 H2 => ∃ (i' : Nat) (st' : Mst) (v10 : Option V), σ2 = [some (.ref a), some (.ref p), some (.ref wq), some (.ref dd), v4, v5, v6, some (.int (D2 : Nat)), some (.ref a0), some (.int (i' : Nat)), v10] ∧ NowAt H6 H2 a0 st' ∧ Inv P st' ∧ Phi P st' + need ws i' < Phi P st + need ws i,
              rt := Q, bk := r_law_8 K { nx := fun _ H' => Q .non H', rt := Q },
              ct := fun σ2 H2 => ∃ (i' : Nat) (st' : Mst) (v10 : Option V), σ2 = [some (.ref a), some (.ref p), some (.ref wq), some (.ref dd), v4, v5, v6, some (.int (D2 : Nat)), some (.ref a0), some (.int (i' : Nat)), v10] ∧ NowAt H6 H2 a0 st' ∧ Inv P st' ∧ Phi P st' + need ws i' < Phi P st + need ws i }
            [some (.ref a), some (.ref p), some (.ref wq), some (.ref dd), v4, v5, v6, some (.int (D2 : Nat)), some (.ref a0), some (.int (i : Nat)), some (.int (w : Nat))] H11 := by
        intro w H11 e11 hw hev hless
        refine q_dropCall (ea_cons (ev_var rfl) (ea_cons (ev_var rfl) (ea_cons (ev_var rfl) ea_nil))) fun H12 e12 => ?_
        refine ⟨rfl, p, a0, P, H6, st, w, rfl, hP6, wf, (hN.ex e11).ex e12, I, Nat.lt_of_lt_of_le hw (Nat.le_trans (Nat.pow_le_pow_right (by omega) r7) (by decide)), fun v H13 st' hturn hN' => ?_⟩
        obtain ⟨I', hphi⟩ := turn_ok wf I hw hev hturn
        have hphi' := hless st' hphi
        obtain ⟨f0, fs, hpile, hrow0, hnest⟩ := I'.nest
        have hvp : ∀ f ∈ st'.pile, f.row < P.rows.length ∧ f.place ≤ ln P f.row := fun f hf => fv_le (I'.fv f hf)
        obtain ⟨l, c, as', N⟩ := hN'.now (by rw [hpile]; intro z; cases z)
        have e13 := N.ex
        have hnl := nest_len wf (fs := fs) (r := 0) (by rw [wf.rk0]; exact Nat.zero_le _) hnest
        have hthru : ∀ {M : Pap} {D : Nat}, Closed P M → M 0 0 = some D → Thru P M D (wAt P f0.row f0.place) fs := fun {M D} hc hd => by
          have h0 := fv_vp (I'.fv f0 (by rw [hpile]; simp))
          rw [hrow0] at h0
          have := thru_of hc hd h0 (fun f (hf : f ∈ fs) => fv_vp (I'.fv f (by rw [hpile]; exact List.mem_cons_of_mem _ hf))) (by rw [Nat.zero_or]; exact hnest)
          rw [Nat.zero_or] at this
          rw [hrow0]
          exact this
        have hlen' := thru_len (hthru hC2 hD2)
        have hal : as'.length = fs.length + 1 := by
          rw [N.len, hpile]
          rfl
        have tst : EvT (tOr (tTest (tOp rGr (tOp rMi (tCB (rLenS K) (tCons (tOp (rIxL K) (tVar 8) (tC (.int 1))) tNil)) (tC (.int 1))) (tVar 7))) (tNot (tB (tCall (sp_goes K) [] E0 (tCons (tVar 1) (tCons (tOp (rIxL K) (tVar 8) (tC (.int 1))) (tCons (tVar 3) tNil)))))))
            [some (.ref a), some (.ref p), some (.ref wq), some (.ref dd), v4, v5, v6, some (.int (D2 : Nat)), some (.ref a0), some (.int (i : Nat)), some (.int (w : Nat))] H13 false := by
          refine et_is (et_or (t_gr (e_mi (e_lenL (e_il (v := .ref l) (ev_var rfl) ev_c N.ha rfl) N.hl) ev_c) (ev_var rfl)) fun _ => et_not (et_B (e_goes (f0 := f0) (fs := fs) (M := M) (ev_var rfl) (e_il (v := .ref l) (ev_var rfl) ev_c N.ha rfl) (ev_var rfl) (hP6.keep (.of e13)) wf ?_ ?_ ?_ hD1 (by omega) (hthru hC hD1)))) ?_
          · have := N.pile
            rw [hpile] at this
            exact this
          · intro f hf
            exact hvp f (by rw [hpile]; exact hf)
          · obtain ⟨k1, y1, y2⟩ := hPap6
            exact ⟨k1, e13 _ _ y1, y2⟩
          · rw [List.length_map, hal]
            rw [decide_eq_false (by omega)]
            rfl
        refine q_no (Ex.refl H13) tst fun H14 e14 => ?_
        refine s_asg (e_pl (ev_var rfl) ev_c) fun H15 e15 => ?_
        exact ⟨i + 1, st', _, rfl, (N.at.ex e14).ex e15, I', hphi'⟩
      refine q_asg (ev_c (v := .int ((0 : Nat) : Int))) fun H11 e11 => ?_
      have e911 := e10.trans e11
      refine q_when ((hlen _).mono e911) (fun hlt H12 e12 => ?_) (fun hlt H12 e12 => ?_)
      · have hlt := of_decide_eq_true hlt
        have hi : i < ws.length := by omega
        have ew : ws[i]? = some ws[i] := List.getElem?_eq_getElem hi
        obtain ⟨w1, w2⟩ := hws _ (List.getElem_mem hi)
        have en := need_step ew
        have erl : P.rows.length - 1 + 1 = P.rows.length := by omega
        rw [erl] at w1
        refine s_asg (e_il (v := .int (ws[i] : Nat)) (ev_var rfl) (ev_var rfl) (e12 _ _ (e911 _ _ hwq9)) (atI_nat (by unfold nV; rw [List.getElem?_map, ew]; rfl))) fun H13 e13 => ?_
        refine go ws[i] H13 ((e911.trans e12).trans e13) w1 w2 fun st' h => ?_
        rw [en]
        rcases h with h | ⟨_, h⟩ <;> omega
      · have hlt := of_decide_eq_false hlt
        have hi : ws.length ≤ i := by omega
        have en := need_end hi
        have en1 := need_end (ws := ws) (i := i + 1) (by omega)
        have hnr : ¬ Rests P st := by
          rw [decide_eq_false hlt, Bool.false_or] at hb
          intro hr
          rw [decide_eq_true hr] at hb
          cases hb
        refine go 0 H12 (e911.trans e12) (Nat.two_pow_pos _) rfl fun st' h => ?_
        rw [pop_zero] at h
        rw [en, en1]
        rcases h with h | ⟨h1, h2⟩
        · omega
        · exact absurd (h1 ⟨h2, rfl⟩) hnr
    · unfold r_law_8 b_law_8
      exact s_ret ev_c fun H11 e11 => kk H11
end
end Bn
set_option Elab.async false
set_option linter.all false
set_option maxRecDepth 100000
set_option maxHeartbeats 4000000
namespace Bn
open PySem PySem.Spec PyProof.Rows L2 Evl
section
variable {P : Program} {w : World} {K : PySem.W.Frag} {mg : Str → Option Value} {base : Heap}
theorem sc_psizeof : FnScope n_psizeof p_psizeof (defScope s_psizeof) := ⟨rfl, rfl, rfl, by decide +kernel, rfl, by decide +kernel, by decide +kernel⟩
theorem ok_psizeof {f : Addr} {fd : FuncData} (F : FnP K "size_of" "size_of" s_psizeof f fd) (zLen : mg "len" = none) : FnOk P w K mg base CX0 1 f fd p_psizeof (sp_psizeof K) := by
  have nd : (n_psizeof : List Str).Nodup := sc_psizeof.nd
  refine F.ok sc_psizeof (fun vs H Q E h => h.1) (fun cdv A outer s H vs Q E hr h => ⟨t_psizeof K, PSs.nox ?_, pure_psizeof h⟩)
  exact (pss_one (ps_ret (pe_callB call_len_seq (by rfl) zLen (by decide +kernel) (pa_cons (pe_ix ix_tup (pe_ix ix_tup (pv 0) (pv 1) (fun _ _ => rfl)) pe_int (fun _ _ => rfl)) pa_nil))))
theorem sc_pcellsof : FnScope n_pcellsof p_pcellsof (defScope s_pcellsof) := ⟨rfl, rfl, rfl, by decide +kernel, rfl, by decide +kernel, by decide +kernel⟩
theorem ok_pcellsof {f : Addr} {fd : FuncData} (F : FnP K "cells_of" "cells_of" s_pcellsof f fd) (hpsizeof : Has P w K mg base 1 "size_of" p_psizeof (sp_psizeof K)) (zRange : mg "range" = none) (zSum : mg "sum" = none) : FnOk P w K mg base CX0 2 f fd p_pcellsof (sp_pcellsof K) := by
  obtain ⟨fpsizeof, dpsizeof, gpsizeof, kpsizeof, bpsizeof, Gpsizeof⟩ := hpsizeof
  have nd : (n_pcellsof : List Str).Nodup := sc_pcellsof.nd
  refine F.ok sc_pcellsof (fun vs H Q E h => h.1) (fun cdv A outer s H vs Q E hr h => ⟨t_pcellsof K, PSs.nox ?_, pure_pcellsof h⟩)
  exact (pss_cons (ps_set (i := 2) nd rfl (Or.inr rfl) (pe_callB (cr_sum rfl) (by rfl) zSum (by decide +kernel) (pa_cons (pe_lc (own := [("k", 3)]) (g := (gName 3)) (tt := tYes) rfl nd (pi_range1 (by rfl) zRange (pa_cons (pv 1) pa_nil)) (blkOk_by (own := [("k", 3)]) (N := n_pcellsof) (sc := defScope s_pcellsof) (by decide +kernel)) (fun _ _ _ _ _ => (pg_name (i := 3) nd rfl (Or.inl rfl))) (fun _ _ _ _ _ => pts_nil) (fun _ _ _ _ _ => (pe_call Gpsizeof (hr.mono (by decide)) (by rfl) gpsizeof kpsizeof bpsizeof .nil pass0 (pa_cons (pv 0) (pa_cons (pv 3) pa_nil))))) pa_nil))) (pss_one (ps_ret (pe_lc (own := [("k", 3)]) (g := (gName 3)) (tt := tYes) rfl nd (pi_range1 (by rfl) zRange (pa_cons (pe_call Gpsizeof (hr.mono (by decide)) (by rfl) gpsizeof kpsizeof bpsizeof .nil pass0 (pa_cons (pv 0) (pa_cons (pv 1) pa_nil))) pa_nil)) (blkOk_by (own := [("k", 3)]) (N := n_pcellsof) (sc := defScope s_pcellsof) (by decide +kernel)) (fun _ _ _ _ _ => (pg_name (i := 3) nd rfl (Or.inl rfl))) (fun _ _ _ _ _ => pts_nil) (fun _ _ _ _ _ => (pe_op op_add (pv 2) (pv 3)))))))
theorem sc_pwordat : FnScope n_pwordat p_pwordat (defScope s_pwordat) := ⟨rfl, rfl, rfl, by decide +kernel, rfl, by decide +kernel, by decide +kernel⟩
theorem ok_pwordat {f : Addr} {fd : FuncData} (F : FnP K "word_at" "word_at" s_pwordat f fd) (zLen : mg "len" = none) : FnOk P w K mg base CX0 1 f fd p_pwordat (sp_pwordat K) := by
  have nd : (n_pwordat : List Str).Nodup := sc_pwordat.nd
  refine F.ok sc_pwordat (fun vs H Q E h => h.1) (fun cdv A outer s H vs Q E hr h => ⟨t_pwordat K, PSs.nox ?_, pure_pwordat h⟩)
  exact (pss_cons (ps_set (i := 3) nd rfl (Or.inl rfl) (pe_ix ix_tup (pe_ix ix_tup (pe_ix ix_tup (pv 0) pe_int (fun _ _ => rfl)) (pv 1) (fun _ _ => rfl)) pe_int (fun _ _ => rfl))) (pss_cons (ps_if (pt_cmpR op_eq (pv 2) (pe_callB call_len_seq (by rfl) zLen (by decide +kernel) (pa_cons (pv 3) pa_nil)) (nomark _)) (pss_one (ps_ret pe_int)) pss_nil) (pss_one (ps_ret (pe_ix ix_tup (pe_ix ix_tup (pv 3) (pv 2) (fun _ _ => rfl)) pe_int (fun _ _ => rfl))))))
theorem sc_pringingsto : FnScope n_pringingsto p_pringingsto (defScope s_pringingsto) := ⟨rfl, rfl, rfl, by decide +kernel, rfl, by decide +kernel, by decide +kernel⟩
theorem ok_pringingsto {f : Addr} {fd : FuncData} (F : FnP K "ringings_to" "ringings_to" s_pringingsto f fd) (hpturnsahead : Has P w K mg base 5 "turns_ahead" p_pturnsahead (sp_pturnsahead K)) (hpwordat : Has P w K mg base 1 "word_at" p_pwordat (sp_pwordat K)) : FnOk P w K mg base CX0 6 f fd p_pringingsto (sp_pringingsto K) := by
  obtain ⟨fpturnsahead, dpturnsahead, gpturnsahead, kpturnsahead, bpturnsahead, Gpturnsahead⟩ := hpturnsahead
  obtain ⟨fpwordat, dpwordat, gpwordat, kpwordat, bpwordat, Gpwordat⟩ := hpwordat
  have nd : (n_pringingsto : List Str).Nodup := sc_pringingsto.nd
  refine F.ok sc_pringingsto (fun vs H Q E h => h.1) (fun cdv A outer s H vs Q E hr h => ⟨t_pringingsto K, PSs.nox ?_, pure_pringingsto h⟩)
  exact (pss_cons (ps_set (i := 2) nd rfl (Or.inl rfl) (pe_ix ix_tup (pv 0) pe_int (fun _ _ => rfl))) (pss_cons (ps_set (i := 3) nd rfl (Or.inl rfl) (pe_lst pa_nil)) (pss_cons (ps_set (i := 4) nd rfl (Or.inl rfl) pe_int) (pss_cons (ps_set (i := 5) nd rfl (Or.inl rfl) (pe_un un_neg pe_int)) (pss_cons (ps_for PassesOwn.never rfl (pi_list (pv 1)) (pg_name (i := 6) nd rfl (Or.inl rfl)) (pss_cons (ps_set (i := 7) nd rfl (Or.inl rfl) (pe_ix ix_tup (pv 6) pe_int (fun _ _ => rfl))) (pss_cons (ps_if (PW.pt (pw_or (pt_cmpR op_le (pe_ix ix_tup (pe_ix ix_tup (pv 2) (pv 7) (fun _ _ => rfl)) pe_int (fun _ _ => rfl)) (pv 5) (nomark _)) (pw_or1 (pt_cmpR op_eq (pe_op op_and (pe_op op_shr (pv 4) (pv 7)) pe_int) pe_int (nomark _))))) (pss_one ps_never) pss_nil) (pss_cons (ps_if (pt_cmpR op_gt (pv 7) pe_int (nomark _)) (pss_one (ps_expr (pe_bm PySem.F.plainAttrs_list PySem.F.slot_list_append PySem.F.type_list_append mt_append (pv 3) (pa_cons (pe_op op_shl pe_int (pv 7)) pa_nil)))) pss_nil) (pss_cons (ps_expr (pe_bm PySem.F.plainAttrs_list PySem.F.slot_list_extend PySem.F.type_list_extend mt_extend (pv 3) (pa_cons (pe_op op_rep (pe_lst (pa_cons pe_int pa_nil)) (pe_call Gpturnsahead (hr.mono (by decide)) (by rfl) gpturnsahead kpturnsahead bpturnsahead .nil pass0 (pa_cons (pv 0) (pa_cons (pv 6) pa_nil)))) pa_nil))) (pss_cons (ps_set (i := 4) nd rfl (Or.inl rfl) (pe_op op_or (pv 4) (pe_call Gpwordat (hr.mono (by decide)) (by rfl) gpwordat kpwordat bpwordat .nil pass0 (pa_cons (pv 0) (pa_cons (pv 7) (pa_cons (pe_ix ix_tup (pv 6) pe_int (fun _ _ => rfl)) pa_nil)))))) (pss_one (ps_set (i := 5) nd rfl (Or.inl rfl) (pe_ix ix_tup (pe_ix ix_tup (pv 2) (pv 7) (fun _ _ => rfl)) pe_int (fun _ _ => rfl)))))))))) (pss_one (ps_ret (pv 3))))))))
theorem sc_pstepson : FnScope n_pstepson p_pstepson (defScope s_pstepson) := ⟨rfl, rfl, rfl, by decide +kernel, rfl, by decide +kernel, by decide +kernel⟩
theorem ok_pstepson {f : Addr} {fd : FuncData} (F : FnP K "steps_on" "steps_on" s_pstepson f fd) (hpwordat : Has P w K mg base 1 "word_at" p_pwordat (sp_pwordat K)) (zLen : mg "len" = none) (zRange : mg "range" = none) : FnOk P w K mg base CX0 2 f fd p_pstepson (sp_pstepson K) := by
  obtain ⟨fpwordat, dpwordat, gpwordat, kpwordat, bpwordat, Gpwordat⟩ := hpwordat
  have nd : (n_pstepson : List Str).Nodup := sc_pstepson.nd
  refine F.ok sc_pstepson (fun vs H Q E h => h.1) (fun cdv A outer s H vs Q E hr h => ⟨t_pstepson K, PSs.nox ?_, pure_pstepson h⟩)
  exact (pss_cons (ps_set (i := 3) nd rfl (Or.inl rfl) (pe_ix ix_tup (pv 0) pe_int (fun _ _ => rfl))) (pss_cons (ps_set (i := 4) nd rfl (Or.inl rfl) (pe_callB call_len_seq (by rfl) zLen (by decide +kernel) (pa_cons (pe_ix ix_tup (pe_ix ix_tup (pv 3) (pv 1) (fun _ _ => rfl)) pe_int (fun _ _ => rfl)) pa_nil))) (pss_cons (ps_if (pt_cmpR op_eq (pv 1) pe_int (nomark _)) (pss_one (ps_set (i := 4) nd rfl (Or.inl rfl) (pe_op op_add (pv 4) pe_int))) pss_nil) (pss_cons (ps_set (i := 5) nd rfl (Or.inl rfl) (pe_lst pa_nil)) (pss_cons (ps_for PassesOwn.never rfl (pi_range1 (by rfl) zRange (pa_cons (pv 4) pa_nil)) (pg_name (i := 6) nd rfl (Or.inl rfl)) (pss_cons (ps_set (i := 7) nd rfl (Or.inl rfl) (pe_op op_or (pv 2) (pe_call Gpwordat (hr.mono (by decide)) (by rfl) gpwordat kpwordat bpwordat .nil pass0 (pa_cons (pv 0) (pa_cons (pv 1) (pa_cons (pv 6) pa_nil)))))) (pss_one (ps_for PassesOwn.never rfl (pi_range2 (by rfl) zRange (pa_cons pe_int (pa_cons (pe_callB call_len_seq (by rfl) zLen (by decide +kernel) (pa_cons (pv 3) pa_nil)) pa_nil))) (pg_name (i := 8) nd rfl (Or.inl rfl)) (pss_one (ps_if (PW.pt (pw_and (pt_cmpR op_gt (pe_ix ix_tup (pe_ix ix_tup (pv 3) (pv 8) (fun _ _ => rfl)) pe_int (fun _ _ => rfl)) (pe_ix ix_tup (pe_ix ix_tup (pv 3) (pv 1) (fun _ _ => rfl)) pe_int (fun _ _ => rfl)) (nomark _)) (pw_and1 (pt_cmpR op_eq (pe_op op_and (pe_op op_shr (pv 7) (pv 8)) pe_int) pe_int (nomark _))))) (pss_one (ps_expr (pe_bm PySem.F.plainAttrs_list PySem.F.slot_list_append PySem.F.type_list_append mt_append (pv 5) (pa_cons (pe_tup (pa_cons (pv 8) (pa_cons (pv 7) (pa_cons (pv 6) pa_nil)))) pa_nil)))) pss_nil)))))) (pss_one (ps_ret (pv 5))))))))
theorem sc_pweigh : FnScope n_pweigh p_pweigh (defScope s_pweigh) := ⟨rfl, rfl, rfl, by decide +kernel, rfl, by decide +kernel, by decide +kernel⟩
theorem sc_pdeepest : FnScope n_pdeepest p_pdeepest (defScope s_pdeepest) := ⟨rfl, rfl, rfl, by decide +kernel, rfl, by decide +kernel, by decide +kernel⟩
theorem ok_pdeepest {f : Addr} {fd : FuncData} (F : FnP K "deepest" "deepest" s_pdeepest f fd) (hpringingsto : Has P w K mg base 6 "ringings_to" p_pringingsto (sp_pringingsto K)) (hpweigh : Has P w K mg base 13 "weigh" p_pweigh (sp_pweigh K)) : FnOk P w K mg base CX0 14 f fd p_pdeepest (sp_pdeepest K) := by
  obtain ⟨fpringingsto, dpringingsto, gpringingsto, kpringingsto, bpringingsto, Gpringingsto⟩ := hpringingsto
  obtain ⟨fpweigh, dpweigh, gpweigh, kpweigh, bpweigh, Gpweigh⟩ := hpweigh
  have nd : (n_pdeepest : List Str).Nodup := sc_pdeepest.nd
  refine F.ok sc_pdeepest (fun vs H Q E h => h.1) (fun cdv A outer s H vs Q E hr h => ⟨t_pdeepest K, PSs.nox ?_, pure_pdeepest h⟩)
  have hu := hu_of hr
  exact (pss_cons (ps_set (i := 1) nd rfl (Or.inl rfl) pe_dnewT) (pss_cons (ps_set (i := 2) nd rfl (Or.inl rfl) (pe_call Gpweigh (hr.mono (by decide)) (by rfl) gpweigh kpweigh bpweigh .nil pass0 (pa_cons (pv 0) (pa_cons pe_int (pa_cons pe_int (pa_cons (pv 1) pa_nil)))))) (pss_cons (ps_set (i := 3) nd rfl (Or.inl rfl) (pe_lst pa_nil)) (pss_cons (ps_set (i := 4) nd rfl (Or.inl rfl) pe_int) (pss_cons (ps_set (i := 5) nd rfl (Or.inl rfl) pe_int) (pss_cons (ps_while PassesOwn.never (pt_cmpR op_gt (pe_ix ix_tup (pe_dget hu (pv 1) (pe_tup (pa_cons (pv 4) (pa_cons (pv 5) pa_nil))) (fun _ _ => rfl)) pe_int (fun _ _ => rfl)) pe_int (nomark _)) (pss_cons (ps_set (i := 6) nd rfl (Or.inl rfl) (pe_dget hu (pv 1) (pe_tup (pa_cons (pv 4) (pa_cons (pv 5) pa_nil))) (fun _ _ => rfl))) (pss_cons (ps_expr (pe_bm PySem.F.plainAttrs_list PySem.F.slot_list_append PySem.F.type_list_append mt_append (pv 3) (pa_cons (pe_tup (pa_cons (pv 4) (pa_cons (pe_ix ix_tup (pv 6) pe_int (fun _ _ => rfl)) (pa_cons pe_int pa_nil)))) pa_nil))) (pss_cons (ps_set (i := 4) nd rfl (Or.inl rfl) (pe_ix ix_tup (pv 6) pe_int (fun _ _ => rfl))) (pss_one (ps_set (i := 5) nd rfl (Or.inl rfl) (pe_ix ix_tup (pv 6) pe_int (fun _ _ => rfl)))))))) (pss_cons (ps_expr (pe_bm PySem.F.plainAttrs_list PySem.F.slot_list_append PySem.F.type_list_append mt_append (pv 3) (pa_cons (pe_tup (pa_cons (pv 4) (pa_cons pe_int (pa_cons pe_int pa_nil)))) pa_nil))) (pss_one (ps_ret (pe_tup (pa_cons (pv 2) (pa_cons (pe_call Gpringingsto (hr.mono (by decide)) (by rfl) gpringingsto kpringingsto bpringingsto .nil pass0 (pa_cons (pv 0) (pa_cons (pv 3) pa_nil))) pa_nil))))))))))))
theorem sc_ppaper : FnScope n_ppaper p_ppaper (defScope s_ppaper) := ⟨rfl, rfl, rfl, by decide +kernel, rfl, by decide +kernel, by decide +kernel⟩
theorem ok_ppaper {f : Addr} {fd : FuncData} (F : FnP K "paper" "paper" s_ppaper f fd) (hpweigh : Has P w K mg base 13 "weigh" p_pweigh (sp_pweigh K)) : FnOk P w K mg base CX0 14 f fd p_ppaper (sp_ppaper K) := by
  obtain ⟨fpweigh, dpweigh, gpweigh, kpweigh, bpweigh, Gpweigh⟩ := hpweigh
  have nd : (n_ppaper : List Str).Nodup := sc_ppaper.nd
  refine F.ok sc_ppaper (fun vs H Q E h => h.1) (fun cdv A outer s H vs Q E hr h => ⟨t_ppaper K, PSs.nox ?_, pure_ppaper h⟩)
  exact (pss_cons (ps_set (i := 1) nd rfl (Or.inl rfl) pe_dnewT) (pss_cons (ps_expr (pe_call Gpweigh (hr.mono (by decide)) (by rfl) gpweigh kpweigh bpweigh .nil pass0 (pa_cons (pv 0) (pa_cons pe_int (pa_cons pe_int (pa_cons (pv 1) pa_nil)))))) (pss_one (ps_ret (pe_lock (pe_lc (own := [("spot", 2), ("step", 3)]) (g := (gTup K 2 (gCons (gName 2) (gCons (gName 3) gNil)))) (tt := tYes) rfl nd (pi_itemsT (pv 1)) (blkOk_by (own := [("spot", 2), ("step", 3)]) (N := n_ppaper) (sc := defScope s_ppaper) (by decide +kernel)) (fun _ _ _ _ _ => (pg_tup rfl (pgs_cons (pg_name (i := 2) nd rfl (Or.inl rfl)) (pgs_cons (pg_name (i := 3) nd rfl (Or.inl rfl)) pgs_nil)))) (fun _ _ _ _ _ => pts_nil) (fun _ _ _ _ _ => (pe_tup (pa_cons (pe_ix ix_tup (pv 2) pe_int (fun _ _ => rfl)) (pa_cons (pe_ix ix_tup (pv 2) pe_int (fun _ _ => rfl)) (pa_cons (pe_ix ix_tup (pv 3) pe_int (fun _ _ => rfl)) pa_nil)))))))))))
theorem sc_draw : FnScope n_draw p_draw (defScope s_draw) := ⟨rfl, rfl, rfl, by decide +kernel, rfl, by decide +kernel, by decide +kernel⟩
theorem ok_draw {f : Addr} {fd : FuncData} (F : FnP K "_law_draw" "_law_draw" s_draw f fd) (zLen : mg "len" = none) : FnOk P w K mg base CX0 1 f fd p_draw (sp_draw K) := by
  have nd : (n_draw : List Str).Nodup := sc_draw.nd
  refine F.ok sc_draw (fun vs H Q E h => h.1) (fun cdv A outer s H vs Q E hr h => ⟨t_draw K, PSs.nox ?_, pure_draw h⟩)
  exact (pss_cons (ps_set (i := 3) nd rfl (Or.inl rfl) pe_int) (pss_cons (ps_if (pt_cmpR op_gt (pe_callB call_len_seq (by rfl) zLen (by decide +kernel) (pa_cons (pv 0) pa_nil)) pe_int (nomark _)) (pss_one (ps_set (i := 3) nd rfl (Or.inl rfl) (pe_op op_mod (pe_ix ix_list (pv 0) (pe_op op_mod (pv 1) (pe_callB call_len_seq (by rfl) zLen (by decide +kernel) (pa_cons (pv 0) pa_nil))) (fun _ _ => rfl)) pe_int))) pss_nil) (pss_one (ps_ret (pe_op op_mod (pe_op op_fdiv (pe_op op_mod (pe_op op_mul (pe_op op_mod (pe_op op_mul (pe_op op_add (pv 3) pe_int) (pe_op op_add (pe_op op_add (pe_op op_mul (pv 1) (pv 1)) (pv 1)) pe_int)) pe_int) pe_int) pe_int) pe_int) (pv 2))))))
theorem sc_number : FnScope n_number p_number (defScope s_number) := ⟨rfl, rfl, rfl, by decide +kernel, rfl, by decide +kernel, by decide +kernel⟩
theorem ok_number {f : Addr} {fd : FuncData} (F : FnP K "_law_number" "_law_number" s_number f fd) (hdraw : Has P w K mg base 1 "_law_draw" p_draw (sp_draw K)) : FnOk P w K mg base CX0 2 f fd p_number (sp_number K) := by
  obtain ⟨fdraw, ddraw, gdraw, kdraw, bdraw, Gdraw⟩ := hdraw
  have nd : (n_number : List Str).Nodup := sc_number.nd
  refine F.ok sc_number (fun vs H Q E h => h.1) (fun cdv A outer s H vs Q E hr h => ⟨t_number K, PSs.nox ?_, pure_number h⟩)
  exact (pss_cons (ps_set (i := 2) nd rfl (Or.inl rfl) (pe_call Gdraw (hr.mono (by decide)) (by rfl) gdraw kdraw bdraw .nil pass0 (pa_cons (pv 0) (pa_cons (pv 1) (pa_cons pe_int pa_nil))))) (pss_cons (ps_set (i := 3) nd rfl (Or.inl rfl) (pe_lst (pa_cons (pe_op op_sub (pe_op op_mod (pv 2) pe_int) pe_int) (pa_cons (pe_op op_sub (pe_op op_pow pe_int pe_int) (pe_op op_mod (pv 2) pe_int)) (pa_cons (pe_op op_sub (pe_op op_mod (pv 2) pe_int) (pe_op op_pow pe_int pe_int)) (pa_cons (pe_op op_mul (pv 2) pe_int) pa_nil)))))) (pss_one (ps_ret (pe_ix ix_list (pv 3) (pe_call Gdraw (hr.mono (by decide)) (by rfl) gdraw kdraw bdraw .nil pass0 (pa_cons (pv 0) (pa_cons (pe_op op_add (pv 1) pe_int) (pa_cons pe_int pa_nil)))) (fun _ _ => rfl))))))
theorem sc_boxes : FnScope n_boxes p_boxes (defScope s_boxes) := ⟨rfl, rfl, rfl, by decide +kernel, rfl, by decide +kernel, by decide +kernel⟩
theorem ok_boxes {f : Addr} {fd : FuncData} (F : FnP K "_law_boxes" "_law_boxes" s_boxes f fd) (hdraw : Has P w K mg base 1 "_law_draw" p_draw (sp_draw K)) (hnumber : Has P w K mg base 2 "_law_number" p_number (sp_number K)) (zRange : mg "range" = none) (zTuple : mg "tuple" = none) : FnOk P w K mg base CX0 3 f fd p_boxes (sp_boxes K) := by
  obtain ⟨fdraw, ddraw, gdraw, kdraw, bdraw, Gdraw⟩ := hdraw
  obtain ⟨fnumber, dnumber, gnumber, knumber, bnumber, Gnumber⟩ := hnumber
  have nd : (n_boxes : List Str).Nodup := sc_boxes.nd
  refine F.ok sc_boxes (fun vs H Q E h => h.1) (fun cdv A outer s H vs Q E hr h => ⟨t_boxes K, PSs.nox ?_, pure_boxes h⟩)
  exact (pss_cons (ps_set (i := 1) nd rfl (Or.inl rfl) (pe_lst pa_nil)) (pss_cons (ps_for PassesOwn.never rfl (pi_range1 (by rfl) zRange (pa_cons (pe_ix ix_list (pe_lst (pa_cons pe_int (pa_cons pe_int (pa_cons pe_int (pa_cons pe_int (pa_cons pe_int (pa_cons pe_int (pa_cons pe_int (pa_cons pe_int pa_nil))))))))) (pe_call Gdraw (hr.mono (by decide)) (by rfl) gdraw kdraw bdraw .nil pass0 (pa_cons (pv 0) (pa_cons pe_int (pa_cons pe_int pa_nil)))) (fun _ _ => rfl)) pa_nil)) (pg_name (i := 2) nd rfl (Or.inl rfl)) (pss_cons (ps_set (i := 3) nd rfl (Or.inl rfl) (pe_lst (pa_cons (pe_call Gnumber (hr.mono (by decide)) (by rfl) gnumber knumber bnumber .nil pass0 (pa_cons (pv 0) (pa_cons (pe_op op_add pe_int (pe_op op_mul pe_int (pv 2))) pa_nil))) (pa_cons (pe_call Gnumber (hr.mono (by decide)) (by rfl) gnumber knumber bnumber .nil pass0 (pa_cons (pv 0) (pa_cons (pe_op op_add pe_int (pe_op op_mul pe_int (pv 2))) pa_nil))) pa_nil)))) (pss_cons (ps_set (i := 4) nd rfl (Or.inl rfl) (pe_op op_add pe_int (pe_call Gdraw (hr.mono (by decide)) (by rfl) gdraw kdraw bdraw .nil pass0 (pa_cons (pv 0) (pa_cons (pe_op op_add pe_int (pe_op op_mul pe_int (pv 2))) (pa_cons pe_int pa_nil)))))) (pss_one (ps_expr (pe_bm PySem.F.plainAttrs_list PySem.F.slot_list_append PySem.F.type_list_append mt_append (pv 1) (pa_cons (pe_tup (pa_cons (pe_op op_mulS (pe_ix ix_str pe_str (pv 2) (fun _ _ => rfl)) (pv 4)) (pa_cons (pe_callTy call_tuple_of (by rfl) zTuple (by decide +kernel) (pa_cons (pe_slice sl_list (pv 3) po_none (po_some (pv 4))) pa_nil)) pa_nil))) pa_nil))))))) (pss_one (ps_ret (pe_callTy call_tuple_of (by rfl) zTuple (by decide +kernel) (pa_cons (pv 1) pa_nil))))))
theorem sc_deed : FnScope n_deed p_deed (defScope s_deed) := ⟨rfl, rfl, rfl, by decide +kernel, rfl, by decide +kernel, by decide +kernel⟩
theorem ok_deed {f : Addr} {fd : FuncData} (F : FnP K "_law_deed" "_law_deed" s_deed f fd) (hdraw : Has P w K mg base 1 "_law_draw" p_draw (sp_draw K)) (hnumber : Has P w K mg base 2 "_law_number" p_number (sp_number K)) (zLen : mg "len" = none) (zRange : mg "range" = none) (zTuple : mg "tuple" = none) : FnOk P w K mg base CX0 3 f fd p_deed (sp_deed K) := by
  obtain ⟨fdraw, ddraw, gdraw, kdraw, bdraw, Gdraw⟩ := hdraw
  obtain ⟨fnumber, dnumber, gnumber, knumber, bnumber, Gnumber⟩ := hnumber
  have nd : (n_deed : List Str).Nodup := sc_deed.nd
  refine F.ok sc_deed (fun vs H Q E h => h.1) (fun cdv A outer s H vs Q E hr h => ⟨t_deed K, PSs.nox ?_, pure_deed h⟩)
  exact (pss_cons (ps_set (i := 3) nd rfl (Or.inl rfl) (pe_lst (pa_cons pe_str (pa_cons pe_str (pa_cons pe_str (pa_cons pe_str (pa_cons pe_str (pa_cons pe_str (pa_cons pe_str (pa_cons pe_str (pa_cons pe_str (pa_cons pe_str (pa_cons pe_str (pa_cons pe_str pa_nil)))))))))))))) (pss_cons (ps_set (i := 4) nd rfl (Or.inl rfl) (pe_ix ix_list (pv 3) (pe_call Gdraw (hr.mono (by decide)) (by rfl) gdraw kdraw bdraw .nil pass0 (pa_cons (pv 1) (pa_cons (pv 2) (pa_cons pe_int pa_nil)))) (fun _ _ => rfl))) (pss_cons (ps_set (i := 5) nd rfl (Or.inr rfl) (pe_call Gdraw (hr.mono (by decide)) (by rfl) gdraw kdraw bdraw .nil pass0 (pa_cons (pv 1) (pa_cons (pe_op op_add (pv 2) pe_int) (pa_cons (pe_callB call_len_seq (by rfl) zLen (by decide +kernel) (pa_cons (pv 0) pa_nil)) pa_nil))))) (pss_cons (ps_set (i := 6) nd rfl (Or.inr rfl) (pe_callB call_len_seq (by rfl) zLen (by decide +kernel) (pa_cons (pe_ix ix_tup (pe_ix ix_tup (pv 0) (pv 5) (fun _ _ => rfl)) pe_int (fun _ _ => rfl)) pa_nil))) (pss_cons (ps_setLc (i := 7) (own := [("_law_b", 11)]) (g := (gName 11)) (tt := (tTest (tOp rEq (tCB (rLenS K) (tCons (tOp (rIxT K) (tOp (rIxT K) (tVar 0) (tVar 11)) (tC (.int 1))) tNil)) (tVar 6)))) rfl nd rfl rfl (sw_true rfl rfl rfl (by decide +kernel)) (pi_range1 (by rfl) zRange (pa_cons (pe_callB call_len_seq (by rfl) zLen (by decide +kernel) (pa_cons (pv 0) pa_nil)) pa_nil)) (blkOk_by (own := [("_law_b", 11)]) (N := n_deed) (sc := defScope s_deed) (by decide +kernel)) (fun _ _ _ _ _ => (pg_name (i := 11) nd rfl (Or.inl rfl))) (fun _ _ _ _ _ => pts_one (pt_cmpR op_eq (pe_callB call_len_seq (by rfl) zLen (by decide +kernel) (pa_cons (pe_ix ix_tup (pe_ix ix_tup (pv 0) (pv 11) (fun _ _ => rfl)) pe_int (fun _ _ => rfl)) pa_nil)) (pv 6) (nomark _))) (fun _ _ _ _ _ => (pv 11))) (pss_cons (ps_set (i := 8) nd rfl (Or.inr rfl) (pe_ix ix_list (pv 7) (pe_call Gdraw (hr.mono (by decide)) (by rfl) gdraw kdraw bdraw .nil pass0 (pa_cons (pv 1) (pa_cons (pe_op op_add (pv 2) pe_int) (pa_cons (pe_callB call_len_seq (by rfl) zLen (by decide +kernel) (pa_cons (pv 7) pa_nil)) pa_nil)))) (fun _ _ => rfl))) (pss_cons (ps_setLc (i := 9) (own := [("_law_b", 11)]) (g := (gName 11)) (tt := (tAnd (tTest (tOp rEq (tCB (rLenS K) (tCons (tOp (rIxT K) (tOp (rIxT K) (tVar 0) (tVar 11)) (tC (.int 1))) tNil)) (tC (.int 1)))) (tAnd (tTest (tOp rNe (tVar 11) (tVar 5))) (tTest (tOp rNe (tVar 11) (tVar 8)))))) rfl nd rfl rfl (sw_true rfl rfl rfl (by decide +kernel)) (pi_range1 (by rfl) zRange (pa_cons (pe_callB call_len_seq (by rfl) zLen (by decide +kernel) (pa_cons (pv 0) pa_nil)) pa_nil)) (blkOk_by (own := [("_law_b", 11)]) (N := n_deed) (sc := defScope s_deed) (by decide +kernel)) (fun _ _ _ _ _ => (pg_name (i := 11) nd rfl (Or.inl rfl))) (fun _ _ _ _ _ => pts_one (PW.pt (pw_and (pt_cmpR op_eq (pe_callB call_len_seq (by rfl) zLen (by decide +kernel) (pa_cons (pe_ix ix_tup (pe_ix ix_tup (pv 0) (pv 11) (fun _ _ => rfl)) pe_int (fun _ _ => rfl)) pa_nil)) pe_int (nomark _)) (pw_and (pt_cmpR op_ne (pv 11) (pv 5) (nomark _)) (pw_and1 (pt_cmpR op_ne (pv 11) (pv 8) (nomark _))))))) (fun _ _ _ _ _ => (pv 11))) (pss_cons (ps_set (i := 10) nd rfl (Or.inl rfl) (pe_call Gnumber (hr.mono (by decide)) (by rfl) gnumber knumber bnumber .nil pass0 (pa_cons (pv 1) (pa_cons (pe_op op_add (pv 2) pe_int) pa_nil)))) (pss_cons (ps_if (pt_cmpR op_eq (pv 4) pe_str (nomark _)) (pss_one (ps_ret (pe_tup (pa_cons pe_str (pa_cons (pv 5) (pa_cons (pe_callTy call_tuple_of (by rfl) zTuple (by decide +kernel) (pa_cons (pe_slice sl_list (pe_lst (pa_cons (pv 10) (pa_cons (pe_un un_neg (pv 10)) pa_nil))) po_none (po_some (pv 6))) pa_nil)) pa_nil)))))) pss_nil) (pss_cons (ps_if (PW.pt (pw_and (pt_cmpR op_eq (pv 4) pe_str (nomark _)) (pw_and1 (pt_cmpR op_ne (pv 5) (pv 8) (nomark _))))) (pss_one (ps_ret (pe_tup (pa_cons pe_str (pa_cons (pv 5) (pa_cons (pv 8) pa_nil)))))) pss_nil) (pss_cons (ps_if (pt_cmpR op_eq (pv 4) pe_str (nomark _)) (pss_one (ps_ret (pe_tup (pa_cons pe_str (pa_cons (pv 5) (pa_cons (pv 10) pa_nil)))))) pss_nil) (pss_cons (ps_if (PW.pt (pw_and (pt_cmpR op_eq (pv 4) pe_str (nomark _)) (pw_and1 (pt_cmpR op_eq (pv 6) pe_int (nomark _))))) (pss_one (ps_ret (pe_tup (pa_cons pe_str (pa_cons (pv 5) pa_nil))))) pss_nil) (pss_cons (ps_if (PW.pt (pw_or (pt_cmpR op_eq (pv 4) pe_str (nomark _)) (pw_or1 (pt_cmpR op_eq (pv 4) pe_str (nomark _))))) (pss_one (ps_ret (pe_tup (pa_cons (pv 4) (pa_cons (pv 5) (pa_cons (pv 8) (pa_cons (pv 10) pa_nil))))))) pss_nil) (pss_cons (ps_if (pt_cmpR op_eq (pv 4) pe_str (nomark _)) (pss_one (ps_ret (pe_tup (pa_cons pe_str (pa_cons (pv 5) pa_nil))))) pss_nil) (pss_cons (ps_if (PW.pt (pw_and (pt_cmpR op_eq (pv 4) pe_str (nomark _)) (pw_and (pt_cmpR op_ne (pv 5) (pv 8) (nomark _)) (pw_and1 (pt_cmpR op_gt (pe_callB call_len_seq (by rfl) zLen (by decide +kernel) (pa_cons (pv 9) pa_nil)) pe_int (nomark _)))))) (pss_one (ps_ret (pe_tup (pa_cons pe_str (pa_cons (pv 5) (pa_cons (pv 8) (pa_cons (pe_ix ix_list (pv 9) (pe_call Gdraw (hr.mono (by decide)) (by rfl) gdraw kdraw bdraw .nil pass0 (pa_cons (pv 1) (pa_cons (pe_op op_add (pv 2) pe_int) (pa_cons (pe_callB call_len_seq (by rfl) zLen (by decide +kernel) (pa_cons (pv 9) pa_nil)) pa_nil)))) (fun _ _ => rfl)) pa_nil))))))) pss_nil) (pss_one (ps_ret (pe_tup (pa_cons pe_str (pa_cons (pe_op op_add pe_int (pe_call Gdraw (hr.mono (by decide)) (by rfl) gdraw kdraw bdraw .nil pass0 (pa_cons (pv 1) (pa_cons (pe_op op_add (pv 2) pe_int) (pa_cons pe_int pa_nil))))) pa_nil))))))))))))))))))))
theorem sc_rank : FnScope n_rank p_rank (defScope s_rank) := ⟨rfl, rfl, rfl, by decide +kernel, rfl, by decide +kernel, by decide +kernel⟩
theorem ok_rank {f : Addr} {fd : FuncData} (F : FnP K "_law_rank" "_law_rank" s_rank f fd) (hdraw : Has P w K mg base 1 "_law_draw" p_draw (sp_draw K)) : FnOk P w K mg base CX0 2 f fd p_rank (sp_rank K) := by
  obtain ⟨fdraw, ddraw, gdraw, kdraw, bdraw, Gdraw⟩ := hdraw
  have nd : (n_rank : List Str).Nodup := sc_rank.nd
  refine F.ok sc_rank (fun vs H Q E h => h.1) (fun cdv A outer s H vs Q E hr h => ⟨t_rank K, PSs.nox ?_, pure_rank h⟩)
  exact (pss_cons (ps_set (i := 2) nd rfl (Or.inl rfl) (pe_call Gdraw (hr.mono (by decide)) (by rfl) gdraw kdraw bdraw .nil pass0 (pa_cons (pv 0) (pa_cons (pe_op op_add pe_int (pv 1)) (pa_cons pe_int pa_nil))))) (pss_one (ps_ret (pe_ix ix_list (pe_lst (pa_cons (pe_op op_add pe_int (pv 2)) (pa_cons (pe_op op_add (pv 1) (pe_op op_fdiv (pv 2) pe_int)) (pa_cons (pe_op op_sub pe_int (pv 1)) (pa_cons (pe_op op_add pe_int (pe_op op_fdiv (pv 2) pe_int)) pa_nil))))) (pe_call Gdraw (hr.mono (by decide)) (by rfl) gdraw kdraw bdraw .nil pass0 (pa_cons (pv 0) (pa_cons pe_int (pa_cons pe_int pa_nil)))) (fun _ _ => rfl)))))
theorem sc_shut : FnScope n_shut p_shut (defScope s_shut) := ⟨rfl, rfl, rfl, by decide +kernel, rfl, by decide +kernel, by decide +kernel⟩
theorem ok_shut {f : Addr} {fd : FuncData} (F : FnP K "_law_shut" "_law_shut" s_shut f fd) (hdraw : Has P w K mg base 1 "_law_draw" p_draw (sp_draw K)) : FnOk P w K mg base CX0 2 f fd p_shut (sp_shut K) := by
  obtain ⟨fdraw, ddraw, gdraw, kdraw, bdraw, Gdraw⟩ := hdraw
  have nd : (n_shut : List Str).Nodup := sc_shut.nd
  refine F.ok sc_shut (fun vs H Q E h => h.1) (fun cdv A outer s H vs Q E hr h => ⟨t_shut K, PSs.nox ?_, pure_shut h⟩)
  exact (pss_cons (ps_set (i := 3) nd rfl (Or.inl rfl) (pe_call Gdraw (hr.mono (by decide)) (by rfl) gdraw kdraw bdraw .nil pass0 (pa_cons (pv 0) (pa_cons (pv 1) (pa_cons (pe_op op_shl pe_int (pv 2)) pa_nil))))) (pss_cons (ps_set (i := 4) nd rfl (Or.inl rfl) (pe_call Gdraw (hr.mono (by decide)) (by rfl) gdraw kdraw bdraw .nil pass0 (pa_cons (pv 0) (pa_cons (pe_op op_add (pv 1) pe_int) (pa_cons (pe_op op_shl pe_int (pv 2)) pa_nil))))) (pss_one (ps_ret (pe_op op_shl (pe_ix ix_list (pe_lst (pa_cons pe_int (pa_cons (pe_op op_and (pv 3) (pv 4)) (pa_cons (pv 3) pa_nil)))) (pe_call Gdraw (hr.mono (by decide)) (by rfl) gdraw kdraw bdraw .nil pass0 (pa_cons (pv 0) (pa_cons pe_int (pa_cons pe_int pa_nil)))) (fun _ _ => rfl)) pe_int)))))
theorem sc_program : FnScope n_program p_program (defScope s_program) := ⟨rfl, rfl, rfl, by decide +kernel, rfl, by decide +kernel, by decide +kernel⟩
theorem ok_program {f : Addr} {fd : FuncData} (F : FnP K "_law_program" "_law_program" s_program f fd) (hboxes : Has P w K mg base 3 "_law_boxes" p_boxes (sp_boxes K)) (hdeed : Has P w K mg base 3 "_law_deed" p_deed (sp_deed K)) (hdraw : Has P w K mg base 1 "_law_draw" p_draw (sp_draw K)) (hrank : Has P w K mg base 2 "_law_rank" p_rank (sp_rank K)) (hshut : Has P w K mg base 2 "_law_shut" p_shut (sp_shut K)) (zRange : mg "range" = none) (zTuple : mg "tuple" = none) : FnOk P w K mg base CX0 4 f fd p_program (sp_program K) := by
  obtain ⟨fboxes, dboxes, gboxes, kboxes, bboxes, Gboxes⟩ := hboxes
  obtain ⟨fdeed, ddeed, gdeed, kdeed, bdeed, Gdeed⟩ := hdeed
  obtain ⟨fdraw, ddraw, gdraw, kdraw, bdraw, Gdraw⟩ := hdraw
  obtain ⟨frank, drank, grank, krank, brank, Grank⟩ := hrank
  obtain ⟨fshut, dshut, gshut, kshut, bshut, Gshut⟩ := hshut
  have nd : (n_program : List Str).Nodup := sc_program.nd
  refine F.ok sc_program (fun vs H Q E h => h.1) (fun cdv A outer s H vs Q E hr h => ⟨t_program K, PSs.nox ?_, pure_program h⟩)
  exact (pss_cons (ps_set (i := 2) nd rfl (Or.inl rfl) (pe_call Gboxes (hr.mono (by decide)) (by rfl) gboxes kboxes bboxes .nil pass0 (pa_cons (pv 0) pa_nil))) (pss_cons (ps_set (i := 3) nd rfl (Or.inl rfl) (pe_call Gdraw (hr.mono (by decide)) (by rfl) gdraw kdraw bdraw .nil pass0 (pa_cons (pv 0) (pa_cons pe_int (pa_cons pe_int pa_nil))))) (pss_cons (ps_set (i := 4) nd rfl (Or.inl rfl) (pe_lst pa_nil)) (pss_cons (ps_for PassesOwn.never rfl (pi_range1 (by rfl) zRange (pa_cons (pe_op op_add (pv 3) pe_int) pa_nil)) (pg_name (i := 5) nd rfl (Or.inl rfl)) (pss_cons (ps_set (i := 6) nd rfl (Or.inl rfl) (pe_lst pa_nil)) (pss_cons (ps_for PassesOwn.never rfl (pi_range1 (by rfl) zRange (pa_cons (pe_op op_add pe_int (pe_call Gdraw (hr.mono (by decide)) (by rfl) gdraw kdraw bdraw .nil pass0 (pa_cons (pv 0) (pa_cons (pe_op op_add pe_int (pv 5)) (pa_cons (pv 1) pa_nil))))) pa_nil)) (pg_name (i := 7) nd rfl (Or.inl rfl)) (pss_cons (ps_set (i := 8) nd rfl (Or.inl rfl) (pe_op op_add (pe_op op_add pe_int (pe_op op_mul pe_int (pv 5))) (pe_op op_mul pe_int (pv 7)))) (pss_one (ps_expr (pe_bm PySem.F.plainAttrs_list PySem.F.slot_list_append PySem.F.type_list_append mt_append (pv 6) (pa_cons (pe_tup (pa_cons (pe_call Gdeed (hr.mono (by decide)) (by rfl) gdeed kdeed bdeed .nil pass0 (pa_cons (pv 2) (pa_cons (pv 0) (pa_cons (pv 8) pa_nil)))) (pa_cons (pe_call Gshut (hr.mono (by decide)) (by rfl) gshut kshut bshut .nil pass0 (pa_cons (pv 0) (pa_cons (pe_op op_add (pv 8) pe_int) (pa_cons (pv 3) pa_nil)))) pa_nil))) pa_nil)))))) (pss_one (ps_if (pt_cmpR op_eq (pv 5) pe_int (nomark _)) (pss_one (ps_expr (pe_bm PySem.F.plainAttrs_list PySem.F.slot_list_append PySem.F.type_list_append mt_append (pv 4) (pa_cons (pe_tup (pa_cons pe_str (pa_cons pe_int (pa_cons (pe_callTy call_tuple_of (by rfl) zTuple (by decide +kernel) (pa_cons (pv 6) pa_nil)) pa_nil)))) pa_nil)))) (pss_one (ps_expr (pe_bm PySem.F.plainAttrs_list PySem.F.slot_list_append PySem.F.type_list_append mt_append (pv 4) (pa_cons (pe_tup (pa_cons (pe_op op_mulS (pe_ix ix_str pe_str (pe_op op_sub (pv 5) pe_int) (fun _ _ => rfl)) (pe_op op_add pe_int (pe_op op_mod (pv 5) pe_int))) (pa_cons (pe_call Grank (hr.mono (by decide)) (by rfl) grank krank brank .nil pass0 (pa_cons (pv 0) (pa_cons (pv 5) pa_nil))) (pa_cons (pe_callTy call_tuple_of (by rfl) zTuple (by decide +kernel) (pa_cons (pv 6) pa_nil)) pa_nil)))) pa_nil))))))))) (pss_one (ps_ret (pe_tup (pa_cons (pv 2) (pa_cons (pe_callTy call_tuple_of (by rfl) zTuple (by decide +kernel) (pa_cons (pv 4) pa_nil)) pa_nil)))))))))
theorem sc_turns : FnScope n_turns p_turns (defScope s_turns) := ⟨rfl, rfl, rfl, by decide +kernel, rfl, by decide +kernel, by decide +kernel⟩
theorem ok_turns {f : Addr} {fd : FuncData} (F : FnP K "_law_turns" "_law_turns" s_turns f fd) (zLen : mg "len" = none) : FnOk P w K mg base CX0 1 f fd p_turns (sp_turns K) := by
  have nd : (n_turns : List Str).Nodup := sc_turns.nd
  refine F.ok sc_turns (fun vs H Q E h => h.1) (fun cdv A outer s H vs Q E hr h => ⟨t_turns K, PSs.nox ?_, pure_turns h⟩)
  exact (pss_cons (ps_if (pt_cmpR op_eq (pe_ix ix_tup (pv 1) pe_int (fun _ _ => rfl)) pe_str (nomark _)) (pss_one (ps_ret (pe_ix ix_tup (pv 1) pe_int (fun _ _ => rfl)))) pss_nil) (pss_cons (ps_set (i := 2) nd rfl (Or.inl rfl) (pe_callB call_len_seq (by rfl) zLen (by decide +kernel) (pa_cons (pe_ix ix_tup (pe_ix ix_tup (pv 0) (pe_ix ix_tup (pv 1) pe_int (fun _ _ => rfl)) (fun _ _ => rfl)) pe_int (fun _ _ => rfl)) pa_nil))) (pss_cons (ps_if (PW.pt (pw_or (pt_cmpR op_eq (pe_ix ix_tup (pv 1) pe_int (fun _ _ => rfl)) pe_str (nomark _)) (pw_or1 (pt_cmpR op_eq (pe_ix ix_tup (pv 1) pe_int (fun _ _ => rfl)) pe_str (nomark _))))) (pss_one (ps_ret (pv 2))) pss_nil) (pss_cons (ps_if (pt_cmpR op_eq (pe_ix ix_tup (pv 1) pe_int (fun _ _ => rfl)) pe_str (nomark _)) (pss_one (ps_ret (pe_op op_mul pe_int (pv 2)))) pss_nil) (pss_cons (ps_if (pt_cmpR op_eq (pe_ix ix_tup (pv 1) pe_int (fun _ _ => rfl)) pe_str (nomark _)) (pss_one (ps_ret (pe_op op_add (pe_op op_mul pe_int (pv 2)) pe_int))) pss_nil) (pss_one (ps_ret pe_int)))))))
theorem sc_enters : FnScope n_enters p_enters (defScope s_enters) := ⟨rfl, rfl, rfl, by decide +kernel, rfl, by decide +kernel, by decide +kernel⟩
theorem ok_enters {f : Addr} {fd : FuncData} (F : FnP K "_law_enters" "_law_enters" s_enters f fd) (zLen : mg "len" = none) (zRange : mg "range" = none) : FnOk P w K mg base CX0 1 f fd p_enters (sp_enters K) := by
  have nd : (n_enters : List Str).Nodup := sc_enters.nd
  refine F.ok sc_enters (fun vs H Q E h => h.1) (fun cdv A outer s H vs Q E hr h => ⟨t_enters K, PSs.nox ?_, pure_enters h⟩)
  unfold t_enters r_enters_0 b_enters_0 r_enters_1 b_enters_1 r_enters_2 b_enters_2 r_enters_3 b_enters_3 r_enters_4 b_enters_4 r_enters_5 b_enters_5
  exact (pss_cons (ps_set (i := 3) nd rfl (Or.inl rfl) (pe_ix ix_tup (pv 0) pe_int (fun _ _ => rfl))) (pss_cons (ps_set (i := 4) nd rfl (Or.inl rfl) pe_int) (pss_cons (ps_for PassesOwn.never rfl (pi_list (pv 1)) (pg_name (i := 5) nd rfl (Or.inl rfl)) (pss_one (ps_if (pt_cmpR op_lt (pe_ix ix_list (pv 5) pe_int (fun _ _ => rfl)) (pe_callB call_len_seq (by rfl) zLen (by decide +kernel) (pa_cons (pe_ix ix_tup (pe_ix ix_tup (pv 3) (pe_ix ix_list (pv 5) pe_int (fun _ _ => rfl)) (fun _ _ => rfl)) pe_int (fun _ _ => rfl)) pa_nil)) (nomark _)) (pss_one (ps_set (i := 4) nd rfl (Or.inl rfl) (pe_op op_or (pv 4) (pe_ix ix_tup (pe_ix ix_tup (pe_ix ix_tup (pe_ix ix_tup (pv 3) (pe_ix ix_list (pv 5) pe_int (fun _ _ => rfl)) (fun _ _ => rfl)) pe_int (fun _ _ => rfl)) (pe_ix ix_list (pv 5) pe_int (fun _ _ => rfl)) (fun _ _ => rfl)) pe_int (fun _ _ => rfl))))) pss_nil))) (pss_cons (ps_set (i := 6) nd rfl (Or.inl rfl) pe_int) (pss_cons (ps_for PassesOwn.never rfl (pi_range2 (by rfl) zRange (pa_cons pe_int (pa_cons (pe_callB call_len_seq (by rfl) zLen (by decide +kernel) (pa_cons (pv 3) pa_nil)) pa_nil))) (pg_name (i := 7) nd rfl (Or.inl rfl)) (pss_one (ps_if (PW.pt (pw_and (pt_cmpR op_eq (pe_op op_and (pe_op op_shr (pv 2) (pv 7)) pe_int) pe_int (nomark _)) (pw_and (pt_cmpR op_eq (pe_op op_and (pe_op op_shr (pv 4) (pv 7)) pe_int) pe_int (nomark _)) (pw_and1 (pt_cmpR op_gt (pe_ix ix_tup (pe_ix ix_tup (pv 3) (pv 7) (fun _ _ => rfl)) pe_int (fun _ _ => rfl)) (pe_ix ix_tup (pe_ix ix_tup (pv 3) (pe_ix ix_list (pe_ix ix_list (pv 1) (pe_un un_neg pe_int) (fun _ _ => rfl)) pe_int (fun _ _ => rfl)) (fun _ _ => rfl)) pe_int (fun _ _ => rfl)) (nomark _)))))) (pss_one (ps_if (PW.pt (pw_or (pt_cmpR op_eq (pv 6) pe_int (nomark _)) (pw_or1 (pt_cmpR op_gt (pe_ix ix_tup (pe_ix ix_tup (pv 3) (pv 7) (fun _ _ => rfl)) pe_int (fun _ _ => rfl)) (pe_ix ix_tup (pe_ix ix_tup (pv 3) (pv 6) (fun _ _ => rfl)) pe_int (fun _ _ => rfl)) (nomark _))))) (pss_one (ps_set (i := 6) nd rfl (Or.inl rfl) (pv 7))) pss_nil)) pss_nil))) (pss_one (ps_ret (pv 6))))))))
theorem sc_cells : FnScope n_cells p_cells (defScope s_cells) := ⟨rfl, rfl, rfl, by decide +kernel, rfl, by decide +kernel, by decide +kernel⟩
theorem ok_cells {f : Addr} {fd : FuncData} (F : FnP K "_law_cells" "_law_cells" s_cells f fd) (zLen : mg "len" = none) (zRange : mg "range" = none) (zSum : mg "sum" = none) : FnOk P w K mg base CX0 1 f fd p_cells (sp_cells K) := by
  have nd : (n_cells : List Str).Nodup := sc_cells.nd
  refine F.ok sc_cells (fun vs H Q E h => h.1) (fun cdv A outer s H vs Q E hr h => ⟨t_cells K, PSs.nox ?_, pure_cells h⟩)
  exact (pss_cons (ps_set (i := 2) nd rfl (Or.inr rfl) (pe_callB (cr_sum rfl) (by rfl) zSum (by decide +kernel) (pa_cons (pe_lc (own := [("_law_box", 4)]) (g := (gName 4)) (tt := tYes) rfl nd (pi_tup (pe_slice sl_tupA (pv 0) po_none (po_some (pv 1)))) (blkOk_by (own := [("_law_box", 4)]) (N := n_cells) (sc := defScope s_cells) (by decide +kernel)) (fun _ _ _ _ _ => (pg_name (i := 4) nd rfl (Or.inl rfl))) (fun _ _ _ _ _ => pts_nil) (fun _ _ _ _ _ => (pe_callB call_len_seq (by rfl) zLen (by decide +kernel) (pa_cons (pe_ix ix_tup (pv 4) pe_int (fun _ _ => rfl)) pa_nil)))) pa_nil))) (pss_one (ps_ret (pe_lc (own := [("_law_k", 3)]) (g := (gName 3)) (tt := tYes) rfl nd (pi_range1 (by rfl) zRange (pa_cons (pe_callB call_len_seq (by rfl) zLen (by decide +kernel) (pa_cons (pe_ix ix_tup (pe_ix ix_tup (pv 0) (pv 1) (fun _ _ => rfl)) pe_int (fun _ _ => rfl)) pa_nil)) pa_nil)) (blkOk_by (own := [("_law_k", 3)]) (N := n_cells) (sc := defScope s_cells) (by decide +kernel)) (fun _ _ _ _ _ => (pg_name (i := 3) nd rfl (Or.inl rfl))) (fun _ _ _ _ _ => pts_nil) (fun _ _ _ _ _ => (pe_op op_add (pv 2) (pv 3)))))))
theorem sc_touched : FnScope n_touched p_touched (defScope s_touched) := ⟨rfl, rfl, rfl, by decide +kernel, rfl, by decide +kernel, by decide +kernel⟩
theorem ok_touched {f : Addr} {fd : FuncData} (F : FnP K "_law_touched" "_law_touched" s_touched f fd) (hcells : Has P w K mg base 1 "_law_cells" p_cells (sp_cells K)) (zLen : mg "len" = none) : FnOk P w K mg base CX0 2 f fd p_touched (sp_touched K) := by
  obtain ⟨fcells, dcells, gcells, kcells, bcells, Gcells⟩ := hcells
  have nd : (n_touched : List Str).Nodup := sc_touched.nd
  refine F.ok sc_touched (fun vs H Q E h => h.1) (fun cdv A outer s H vs Q E hr h => ⟨t_touched K, PSs.nox ?_, pure_touched h⟩)
  exact (pss_cons (ps_if (PW.pt (pw_or (pt_cmpR op_eq (pe_ix ix_tup (pv 1) pe_int (fun _ _ => rfl)) pe_str (nomark _)) (pw_or1 (pt_cmpR op_eq (pe_ix ix_tup (pv 1) pe_int (fun _ _ => rfl)) pe_str (nomark _))))) (pss_one (ps_ret (pe_tup (pa_cons (pe_lst pa_nil) (pa_cons (pe_lst pa_nil) pa_nil))))) pss_nil) (pss_cons (ps_set (i := 3) nd rfl (Or.inl rfl) (pe_call Gcells (hr.mono (by decide)) (by rfl) gcells kcells bcells .nil pass0 (pa_cons (pv 0) (pa_cons (pe_ix ix_tup (pv 1) pe_int (fun _ _ => rfl)) pa_nil)))) (pss_cons (ps_if (pt_cmpR op_eq (pe_ix ix_tup (pv 1) pe_int (fun _ _ => rfl)) pe_str (nomark _)) (pss_one (ps_ret (pe_tup (pa_cons (pv 3) (pa_cons (pv 3) pa_nil))))) pss_nil) (pss_cons (ps_if (pt_cmpR op_eq (pe_ix ix_tup (pv 1) pe_int (fun _ _ => rfl)) pe_str (nomark _)) (pss_one (ps_ret (pe_tup (pa_cons (pe_lst pa_nil) (pa_cons (pe_lst (pa_cons (pe_ix ix_list (pv 3) (pv 2) (fun _ _ => rfl)) pa_nil)) pa_nil))))) pss_nil) (pss_cons (ps_if (PW.pt (pw_and (pt_cmpR op_eq (pe_ix ix_tup (pv 1) pe_int (fun _ _ => rfl)) pe_str (nomark _)) (pw_and1 (pt_cmpR op_lt (pv 2) (pe_callB call_len_seq (by rfl) zLen (by decide +kernel) (pa_cons (pv 3) pa_nil)) (nomark _))))) (pss_one (ps_ret (pe_tup (pa_cons (pe_lst (pa_cons (pe_ix ix_list (pv 3) (pv 2) (fun _ _ => rfl)) pa_nil)) (pa_cons (pe_lst pa_nil) pa_nil))))) pss_nil) (pss_cons (ps_if (pt_cmpR op_eq (pe_ix ix_tup (pv 1) pe_int (fun _ _ => rfl)) pe_str (nomark _)) (pss_one (ps_ret (pe_tup (pa_cons (pe_lst pa_nil) (pa_cons (pe_lst (pa_cons (pe_ix ix_list (pv 3) (pe_op op_sub (pv 2) (pe_callB call_len_seq (by rfl) zLen (by decide +kernel) (pa_cons (pv 3) pa_nil))) (fun _ _ => rfl)) pa_nil)) pa_nil))))) pss_nil) (pss_cons (ps_set (i := 4) nd rfl (Or.inl rfl) (pe_call Gcells (hr.mono (by decide)) (by rfl) gcells kcells bcells .nil pass0 (pa_cons (pv 0) (pa_cons (pe_ix ix_tup (pv 1) pe_int (fun _ _ => rfl)) pa_nil)))) (pss_cons (ps_if (pt_cmpR op_eq (pe_ix ix_tup (pv 1) pe_int (fun _ _ => rfl)) pe_str (nomark _)) (pss_one (ps_ret (pe_tup (pa_cons (pe_lst (pa_cons (pe_ix ix_list (pv 4) (pv 2) (fun _ _ => rfl)) pa_nil)) (pa_cons (pe_lst (pa_cons (pe_ix ix_list (pv 3) (pv 2) (fun _ _ => rfl)) pa_nil)) pa_nil))))) pss_nil) (pss_cons (ps_if (PW.pt (pw_or (pt_cmpR op_eq (pe_ix ix_tup (pv 1) pe_int (fun _ _ => rfl)) pe_str (nomark _)) (pw_or1 (pt_cmpR op_eq (pe_ix ix_tup (pv 1) pe_int (fun _ _ => rfl)) pe_str (nomark _))))) (pss_one (ps_ret (pe_tup (pa_cons (pe_op op_cat (pv 3) (pv 4)) (pa_cons (pe_lst pa_nil) pa_nil))))) pss_nil) (pss_cons (ps_if (PW.pt (pw_or (pt_cmpR op_eq (pv 2) pe_int (nomark _)) (pw_or1 (pt_cmpR op_eq (pv 2) (pe_op op_add (pe_callB call_len_seq (by rfl) zLen (by decide +kernel) (pa_cons (pv 3) pa_nil)) pe_int) (nomark _))))) (pss_one (ps_ret (pe_tup (pa_cons (pe_call Gcells (hr.mono (by decide)) (by rfl) gcells kcells bcells .nil pass0 (pa_cons (pv 0) (pa_cons (pe_ix ix_tup (pv 1) pe_int (fun _ _ => rfl)) pa_nil))) (pa_cons (pe_lst pa_nil) pa_nil))))) pss_nil) (pss_cons (ps_if (pt_cmpR op_le (pv 2) (pe_callB call_len_seq (by rfl) zLen (by decide +kernel) (pa_cons (pv 3) pa_nil)) (nomark _)) (pss_one (ps_ret (pe_tup (pa_cons (pe_lst (pa_cons (pe_ix ix_list (pv 4) (pe_op op_sub (pv 2) pe_int) (fun _ _ => rfl)) pa_nil)) (pa_cons (pe_lst pa_nil) pa_nil))))) pss_nil) (pss_one (ps_ret (pe_tup (pa_cons (pe_lst pa_nil) (pa_cons (pe_lst (pa_cons (pe_ix ix_list (pv 3) (pe_op op_sub (pe_op op_sub (pv 2) (pe_callB call_len_seq (by rfl) zLen (by decide +kernel) (pa_cons (pv 3) pa_nil))) pe_int) (fun _ _ => rfl)) pa_nil)) pa_nil))))))))))))))))
theorem sc_step : FnScope n_step p_step (defScope s_step) := ⟨rfl, rfl, rfl, by decide +kernel, rfl, by decide +kernel, by decide +kernel⟩
theorem ok_step {f : Addr} {fd : FuncData} (F : FnP K "_law_step" "_law_step" s_step f fd) (htouched : Has P w K mg base 2 "_law_touched" p_touched (sp_touched K)) (hturns : Has P w K mg base 1 "_law_turns" p_turns (sp_turns K)) (zLen : mg "len" = none) : FnOk P w K mg base CX0 3 f fd p_step (sp_step K) := by
  obtain ⟨ftouched, dtouched, gtouched, ktouched, btouched, Gtouched⟩ := htouched
  obtain ⟨fturns, dturns, gturns, kturns, bturns, Gturns⟩ := hturns
  have nd : (n_step : List Str).Nodup := sc_step.nd
  refine F.ok sc_step (fun vs H Q E h => h.1) (fun cdv A outer s H vs Q E hr h => ⟨t_step K, PSs.nox ?_, pure_step h⟩)
  unfold t_step r_step_0 b_step_0 r_step_1 b_step_1 r_step_2 b_step_2 r_step_3 b_step_3 r_step_4 b_step_4 r_step_5 b_step_5 r_step_6 b_step_6 r_step_7 b_step_7 r_step_8 b_step_8
  exact (pss_cons (ps_set (i := 4) nd rfl (Or.inl rfl) (pe_call Gtouched (hr.mono (by decide)) (by rfl) gtouched ktouched btouched .nil pass0 (pa_cons (pv 0) (pa_cons (pv 1) (pa_cons (pe_ix ix_list (pv 2) pe_int (fun _ _ => rfl)) pa_nil))))) (pss_cons (ps_setLc (i := 5) (own := [("_law_k", 8)]) (g := (gName 8)) (tt := tYes) rfl nd rfl rfl (sw_true rfl rfl rfl (by decide +kernel)) (pi_list (pe_ix ix_tup (pv 4) pe_int (fun _ _ => rfl))) (blkOk_by (own := [("_law_k", 8)]) (N := n_step) (sc := defScope s_step) (by decide +kernel)) (fun _ _ _ _ _ => (pg_name (i := 8) nd rfl (Or.inl rfl))) (fun _ _ _ _ _ => pts_nil) (fun _ _ _ _ _ => (pe_ix ix_list (pv 3) (pv 8) (fun _ _ => rfl)))) (pss_cons (ps_set (i := 6) nd rfl (Or.inl rfl) pe_int) (pss_cons (ps_if (PW.pt (pw_or (pt_cmpR op_eq (pe_ix ix_tup (pv 1) pe_int (fun _ _ => rfl)) pe_str (nomark _)) (pw_or1 (pt_cmpR op_eq (pe_ix ix_tup (pv 1) pe_int (fun _ _ => rfl)) pe_str (nomark _))))) (pss_one (ps_set (i := 6) nd rfl (Or.inl rfl) (pe_callB call_len_seq (by rfl) zLen (by decide +kernel) (pa_cons (pe_ix ix_tup (pe_ix ix_tup (pv 0) (pe_ix ix_tup (pv 1) pe_int (fun _ _ => rfl)) (fun _ _ => rfl)) pe_int (fun _ _ => rfl)) pa_nil)))) pss_nil) (pss_cons (ps_if (PW.pt (pw_and (pt_cmpR op_eq (pe_ix ix_tup (pv 1) pe_int (fun _ _ => rfl)) pe_str (nomark _)) (pw_and1 (pt_cmpR op_eq (pe_ix ix_list (pv 2) pe_int (fun _ _ => rfl)) (pe_op op_add (pv 6) pe_int) (nomark _))))) (pss_one (ps_if (pt_cmpR op_ne (pe_ix ix_list (pv 5) pe_int (fun _ _ => rfl)) (pe_ix ix_list (pe_ix ix_list (pv 2) pe_int (fun _ _ => rfl)) pe_int (fun _ _ => rfl)) (nomark _)) (pss_cons (ps_asg pe_int (pg_sub (pv 2) pe_int set_list)) (pss_cons (ps_asg (pe_lst pa_nil) (pg_sub (pv 2) pe_int set_list)) (pss_one (ps_ret pe_str)))) pss_nil)) (pss_one (ps_if (pt_cmpR op_gt (pv 6) pe_int (nomark _)) (pss_one (ps_asg (pe_op op_cat (pe_ix ix_list (pv 2) pe_int (fun _ _ => rfl)) (pv 5)) (pg_sub (pv 2) pe_int set_list))) pss_nil))) (pss_cons (ps_for PassesOwn.never rfl (pi_list (pe_ix ix_tup (pv 4) pe_int (fun _ _ => rfl))) (pg_name (i := 7) nd rfl (Or.inl rfl)) (pss_cons (ps_if (pt_cmpR op_eq (pe_ix ix_tup (pv 1) pe_int (fun _ _ => rfl)) pe_str (nomark _)) (pss_one (ps_asg (pe_ix ix_tup (pe_ix ix_tup (pv 1) pe_int (fun _ _ => rfl)) (pe_ix ix_list (pv 2) pe_int (fun _ _ => rfl)) (fun _ _ => rfl)) (pg_sub (pv 3) (pv 7) set_list))) pss_nil) (pss_cons (ps_if (pt_cmpR op_eq (pe_ix ix_tup (pv 1) pe_int (fun _ _ => rfl)) pe_str (nomark _)) (pss_one (ps_asg (pe_ix ix_list (pv 5) pe_int (fun _ _ => rfl)) (pg_sub (pv 3) (pv 7) set_list))) pss_nil) (pss_cons (ps_if (pt_cmpR op_eq (pe_ix ix_tup (pv 1) pe_int (fun _ _ => rfl)) pe_str (nomark _)) (pss_one (ps_asg (pe_op op_add (pe_ix ix_list (pv 5) pe_int (fun _ _ => rfl)) pe_int) (pg_sub (pv 3) (pv 7) set_list))) pss_nil) (pss_cons (ps_if (pt_cmpR op_eq (pe_ix ix_tup (pv 1) pe_int (fun _ _ => rfl)) pe_str (nomark _)) (pss_one (ps_asg (pe_op op_add (pe_ix ix_list (pe_ix ix_list (pv 2) pe_int (fun _ _ => rfl)) (pe_op op_sub (pe_ix ix_list (pv 2) pe_int (fun _ _ => rfl)) (pv 6)) (fun _ _ => rfl)) (pe_ix ix_tup (pv 1) pe_int (fun _ _ => rfl))) (pg_sub (pv 3) (pv 7) set_list))) pss_nil) (pss_one (ps_if (pt_cmpR op_eq (pe_ix ix_tup (pv 1) pe_int (fun _ _ => rfl)) pe_str (nomark _)) (pss_one (ps_asg (pe_ix ix_list (pe_ix ix_list (pv 2) pe_int (fun _ _ => rfl)) (pe_op op_sub (pe_op op_sub (pe_ix ix_list (pv 2) pe_int (fun _ _ => rfl)) (pv 6)) pe_int) (fun _ _ => rfl)) (pg_sub (pv 3) (pv 7) set_list))) pss_nil))))))) (pss_cons (ps_asg (pe_op op_add (pe_ix ix_list (pv 2) pe_int (fun _ _ => rfl)) pe_int) (pg_sub (pv 2) pe_int set_list)) (pss_cons (ps_if (pt_cmpR op_eq (pe_ix ix_list (pv 2) pe_int (fun _ _ => rfl)) (pe_call Gturns (hr.mono (by decide)) (by rfl) gturns kturns bturns .nil pass0 (pa_cons (pv 0) (pa_cons (pv 1) pa_nil))) (nomark _)) (pss_cons (ps_asg (pe_op op_add (pe_ix ix_list (pv 2) pe_int (fun _ _ => rfl)) pe_int) (pg_sub (pv 2) pe_int set_list)) (pss_cons (ps_asg pe_int (pg_sub (pv 2) pe_int set_list)) (pss_one (ps_asg (pe_lst pa_nil) (pg_sub (pv 2) pe_int set_list))))) pss_nil) (pss_one (ps_ret pe_str))))))))))
theorem sc_turn : FnScope n_turn p_turn (defScope s_turn) := ⟨rfl, rfl, rfl, by decide +kernel, rfl, by decide +kernel, by decide +kernel⟩
theorem ok_turn {f : Addr} {fd : FuncData} (F : FnP K "_law_turn" "_law_turn" s_turn f fd) (henters : Has P w K mg base 1 "_law_enters" p_enters (sp_enters K)) (hstep : Has P w K mg base 3 "_law_step" p_step (sp_step K)) (zLen : mg "len" = none) : FnOk P w K mg base CX0 4 f fd p_turn (sp_turn K) := by
  obtain ⟨fenters, denters, genters, kenters, benters, Genters⟩ := henters
  obtain ⟨fstep, dstep, gstep, kstep, bstep, Gstep⟩ := hstep
  have nd : (n_turn : List Str).Nodup := sc_turn.nd
  refine F.ok sc_turn (fun vs H Q E h => h.1) (fun cdv A outer s H vs Q E hr h => ⟨t_turn K, PSs.nox ?_, pure_turn h⟩)
  unfold t_turn r_turn_0 b_turn_0 r_turn_1 b_turn_1 r_turn_2 b_turn_2 r_turn_3 b_turn_3 r_turn_4 b_turn_4 r_turn_5 b_turn_5 r_turn_6 b_turn_6 r_turn_7 b_turn_7 r_turn_8 b_turn_8
  exact (pss_cons (ps_asg (pe_op op_or (pe_ix ix_list (pv 1) pe_int (fun _ _ => rfl)) (pv 2)) (pg_sub (pv 1) pe_int set_list)) (pss_cons (ps_set (i := 3) nd rfl (Or.inl rfl) (pe_call Genters (hr.mono (by decide)) (by rfl) genters kenters benters .nil pass0 (pa_cons (pv 0) (pa_cons (pe_ix ix_list (pv 1) pe_int (fun _ _ => rfl)) (pa_cons (pe_ix ix_list (pv 1) pe_int (fun _ _ => rfl)) pa_nil))))) (pss_cons (ps_if (pt_cmpR op_gt (pv 3) pe_int (nomark _)) (pss_cons (ps_asg (pe_op op_sub (pe_ix ix_list (pv 1) pe_int (fun _ _ => rfl)) (pe_op op_shl pe_int (pv 3))) (pg_sub (pv 1) pe_int set_list)) (pss_cons (ps_expr (pe_bm PySem.F.plainAttrs_list PySem.F.slot_list_append PySem.F.type_list_append mt_append (pe_ix ix_list (pv 1) pe_int (fun _ _ => rfl)) (pa_cons (pe_lst (pa_cons (pv 3) (pa_cons pe_int (pa_cons pe_int (pa_cons (pe_lst pa_nil) pa_nil))))) pa_nil))) (pss_one (ps_ret pe_str)))) pss_nil) (pss_cons (ps_set (i := 4) nd rfl (Or.inl rfl) (pe_ix ix_list (pe_ix ix_list (pv 1) pe_int (fun _ _ => rfl)) (pe_un un_neg pe_int) (fun _ _ => rfl))) (pss_cons (ps_set (i := 5) nd rfl (Or.inl rfl) (pe_ix ix_tup (pe_ix ix_tup (pe_ix ix_tup (pv 0) pe_int (fun _ _ => rfl)) (pe_ix ix_list (pv 4) pe_int (fun _ _ => rfl)) (fun _ _ => rfl)) pe_int (fun _ _ => rfl))) (pss_cons (ps_if (pt_cmpR op_eq (pe_ix ix_list (pv 4) pe_int (fun _ _ => rfl)) (pe_callB call_len_seq (by rfl) zLen (by decide +kernel) (pa_cons (pv 5) pa_nil)) (nomark _)) (pss_one (ps_ret pe_str)) pss_nil) (pss_cons (ps_set (i := 6) nd rfl (Or.inl rfl) (pe_call Gstep (hr.mono (by decide)) (by rfl) gstep kstep bstep .nil pass0 (pa_cons (pe_ix ix_tup (pv 0) pe_int (fun _ _ => rfl)) (pa_cons (pe_ix ix_tup (pe_ix ix_tup (pv 5) (pe_ix ix_list (pv 4) pe_int (fun _ _ => rfl)) (fun _ _ => rfl)) pe_int (fun _ _ => rfl)) (pa_cons (pv 4) (pa_cons (pe_ix ix_list (pv 1) pe_int (fun _ _ => rfl)) pa_nil)))))) (pss_cons (ps_if (PW.pt (pw_and (pt_cmpR op_gt (pe_ix ix_list (pv 4) pe_int (fun _ _ => rfl)) pe_int (nomark _)) (pw_and1 (pt_cmpR op_eq (pe_ix ix_list (pv 4) pe_int (fun _ _ => rfl)) (pe_callB call_len_seq (by rfl) zLen (by decide +kernel) (pa_cons (pv 5) pa_nil)) (nomark _))))) (pss_one (ps_expr (pe_bm0 PySem.F.plainAttrs_list PySem.F.slot_list_pop PySem.F.type_list_pop mt_pop (pe_ix ix_list (pv 1) pe_int (fun _ _ => rfl))))) pss_nil) (pss_one (ps_ret (pv 6)))))))))))
theorem sc_start : FnScope n_start p_start (defScope s_start) := ⟨rfl, rfl, rfl, by decide +kernel, rfl, by decide +kernel, by decide +kernel⟩
theorem ok_start {f : Addr} {fd : FuncData} (F : FnP K "_law_start" "_law_start" s_start f fd) (zList : mg "list" = none) : FnOk P w K mg base CX0 1 f fd p_start (sp_start K) := by
  have nd : (n_start : List Str).Nodup := sc_start.nd
  refine F.ok sc_start (fun vs H Q E h => h.1) (fun cdv A outer s H vs Q E hr h => ⟨t_start K, PSs.nox ?_, pure_start h⟩)
  exact (pss_cons (ps_set (i := 1) nd rfl (Or.inl rfl) (pe_lst pa_nil)) (pss_cons (ps_for PassesOwn.never rfl (pi_tup (pe_ix ix_tup (pv 0) pe_int (fun _ _ => rfl))) (pg_name (i := 2) nd rfl (Or.inl rfl)) (pss_one (ps_expr (pe_bm PySem.F.plainAttrs_list PySem.F.slot_list_extend PySem.F.type_list_extend mt_extend (pv 1) (pa_cons (pe_callTy call_list_of (by rfl) zList (by decide +kernel) (pa_cons (pe_ix ix_tup (pv 2) pe_int (fun _ _ => rfl)) pa_nil)) pa_nil))))) (pss_one (ps_ret (pe_lst (pa_cons pe_int (pa_cons (pe_lst (pa_cons (pe_lst (pa_cons pe_int (pa_cons pe_int (pa_cons pe_int (pa_cons (pe_lst pa_nil) pa_nil))))) pa_nil)) (pa_cons (pv 1) pa_nil))))))))
theorem sc_rests : FnScope n_rests p_rests (defScope s_rests) := ⟨rfl, rfl, rfl, by decide +kernel, rfl, by decide +kernel, by decide +kernel⟩
theorem ok_rests {f : Addr} {fd : FuncData} (F : FnP K "_law_rests" "_law_rests" s_rests f fd) (zLen : mg "len" = none) : FnOk P w K mg base CX0 1 f fd p_rests (sp_rests K) := by
  have nd : (n_rests : List Str).Nodup := sc_rests.nd
  refine F.ok sc_rests (fun vs H Q E h => h.1) (fun cdv A outer s H vs Q E hr h => ⟨t_rests K, PSs.nox ?_, pure_rests h⟩)
  exact (pss_one (ps_ret (pe_and (pe_cmpR op_eq (pe_ix ix_list (pv 1) pe_int (fun _ _ => rfl)) pe_int (nomark _)) (pe_and (pe_cmpR op_eq (pe_callB call_len_seq (by rfl) zLen (by decide +kernel) (pa_cons (pe_ix ix_list (pv 1) pe_int (fun _ _ => rfl)) pa_nil)) pe_int (nomark _)) (pe_one (pe_cmpR op_eq (pe_ix ix_list (pe_ix ix_list (pe_ix ix_list (pv 1) pe_int (fun _ _ => rfl)) pe_int (fun _ _ => rfl)) pe_int (fun _ _ => rfl)) (pe_callB call_len_seq (by rfl) zLen (by decide +kernel) (pa_cons (pe_ix ix_tup (pe_ix ix_tup (pe_ix ix_tup (pv 0) pe_int (fun _ _ => rfl)) pe_int (fun _ _ => rfl)) pe_int (fun _ _ => rfl)) pa_nil)) (nomark _)))))))
theorem sc_ringings : FnScope n_ringings p_ringings (defScope s_ringings) := ⟨rfl, rfl, rfl, by decide +kernel, rfl, by decide +kernel, by decide +kernel⟩
theorem ok_ringings {f : Addr} {fd : FuncData} (F : FnP K "_law_ringings" "_law_ringings" s_ringings f fd) (hdraw : Has P w K mg base 1 "_law_draw" p_draw (sp_draw K)) (zLen : mg "len" = none) (zMin : mg "min" = none) (zRange : mg "range" = none) : FnOk P w K mg base CX0 2 f fd p_ringings (sp_ringings K) := by
  obtain ⟨fdraw, ddraw, gdraw, kdraw, bdraw, Gdraw⟩ := hdraw
  have nd : (n_ringings : List Str).Nodup := sc_ringings.nd
  refine F.ok sc_ringings (fun vs H Q E h => h.1) (fun cdv A outer s H vs Q E hr h => ⟨t_ringings K, PSs.nox ?_, pure_ringings h⟩)
  exact (pss_cons (ps_set (i := 2) nd rfl (Or.inl rfl) (pe_lst pa_nil)) (pss_cons (ps_set (i := 3) nd rfl (Or.inl rfl) (pe_call Gdraw (hr.mono (by decide)) (by rfl) gdraw kdraw bdraw .nil pass0 (pa_cons (pv 0) (pa_cons pe_int (pa_cons pe_int pa_nil))))) (pss_cons (ps_for PassesOwn.never rfl (pi_range1 (by rfl) zRange (pa_cons (pe_op op_add (pe_callB (call_min2 rfl) (by rfl) zMin (by decide +kernel) (pa_cons (pe_callB call_len_seq (by rfl) zLen (by decide +kernel) (pa_cons (pv 0) pa_nil)) (pa_cons pe_int pa_nil))) (pe_call Gdraw (hr.mono (by decide)) (by rfl) gdraw kdraw bdraw .nil pass0 (pa_cons (pv 0) (pa_cons pe_int (pa_cons pe_int pa_nil))))) pa_nil)) (pg_name (i := 4) nd rfl (Or.inl rfl)) (pss_cons (ps_set (i := 5) nd rfl (Or.inl rfl) (pe_ix ix_list (pe_lst (pa_cons pe_int (pa_cons (pe_call Gdraw (hr.mono (by decide)) (by rfl) gdraw kdraw bdraw .nil pass0 (pa_cons (pv 0) (pa_cons (pe_op op_add pe_int (pv 4)) (pa_cons pe_int pa_nil)))) (pa_cons (pe_call Gdraw (hr.mono (by decide)) (by rfl) gdraw kdraw bdraw .nil pass0 (pa_cons (pv 0) (pa_cons (pe_op op_add pe_int (pv 4)) (pa_cons pe_int pa_nil)))) (pa_cons (pe_call Gdraw (hr.mono (by decide)) (by rfl) gdraw kdraw bdraw .nil pass0 (pa_cons (pv 0) (pa_cons (pe_op op_add pe_int (pv 4)) (pa_cons pe_int pa_nil)))) pa_nil))))) (pv 3) (fun _ _ => rfl))) (pss_cons (ps_expr (pe_bm PySem.F.plainAttrs_list PySem.F.slot_list_extend PySem.F.type_list_extend mt_extend (pv 2) (pa_cons (pe_op op_rep (pe_lst (pa_cons pe_int pa_nil)) (pv 5)) pa_nil))) (pss_cons (ps_set (i := 6) nd rfl (Or.inl rfl) (pe_call Gdraw (hr.mono (by decide)) (by rfl) gdraw kdraw bdraw .nil pass0 (pa_cons (pv 0) (pa_cons (pe_op op_add pe_int (pv 4)) (pa_cons (pe_op op_shl pe_int (pv 1)) pa_nil))))) (pss_cons (ps_if (PW.pt (pw_and (pt_cmpR op_gt (pv 1) pe_int (nomark _)) (pw_and1 (pt_cmpR op_gt (pv 3) pe_int (nomark _))))) (pss_one (ps_set (i := 6) nd rfl (Or.inl rfl) (pe_op op_shl pe_int (pe_call Gdraw (hr.mono (by decide)) (by rfl) gdraw kdraw bdraw .nil pass0 (pa_cons (pv 0) (pa_cons (pe_op op_add pe_int (pv 4)) (pa_cons (pv 1) pa_nil))))))) pss_nil) (pss_one (ps_expr (pe_bm PySem.F.plainAttrs_list PySem.F.slot_list_append PySem.F.type_list_append mt_append (pv 2) (pa_cons (pe_op op_shl (pv 6) pe_int) pa_nil))))))))) (pss_one (ps_ret (pv 2))))))
theorem sc_goes : FnScope n_goes p_goes (defScope s_goes) := ⟨rfl, rfl, rfl, by decide +kernel, rfl, by decide +kernel, by decide +kernel⟩
theorem ok_goes {f : Addr} {fd : FuncData} (F : FnP K "_law_goes" "_law_goes" s_goes f fd) (zLen : mg "len" = none) (zRange : mg "range" = none) : FnOk P w K mg base CX0 1 f fd p_goes (sp_goes K) := by
  have nd : (n_goes : List Str).Nodup := sc_goes.nd
  refine F.ok sc_goes (fun vs H Q E h => h.1) (fun cdv A outer s H vs Q E hr h => ⟨t_goes K, PSs.nox ?_, pure_goes h⟩)
  have hu := hu_of hr
  unfold t_goes r_goes_0 b_goes_0 r_goes_1 b_goes_1 r_goes_2 b_goes_2 r_goes_3 b_goes_3 r_goes_4 b_goes_4 r_goes_5 b_goes_5
  exact (pss_cons (ps_set (i := 3) nd rfl (Or.inl rfl) (pe_ix ix_tup (pv 0) pe_int (fun _ _ => rfl))) (pss_cons (ps_if (pt_cmp (pc_dnotin hu (pe_tup (pa_cons pe_int (pa_cons pe_int pa_nil))) (pv 2))) (pss_one (ps_ret pe_bl)) pss_nil) (pss_cons (ps_set (i := 4) nd rfl (Or.inl rfl) (pe_dget hu (pv 2) (pe_tup (pa_cons pe_int (pa_cons pe_int pa_nil))) (fun _ _ => rfl))) (pss_cons (ps_set (i := 5) nd rfl (Or.inl rfl) pe_int) (pss_cons (ps_for PassesOwn.never rfl (pi_range2 (by rfl) zRange (pa_cons pe_int (pa_cons (pe_callB call_len_seq (by rfl) zLen (by decide +kernel) (pa_cons (pv 1) pa_nil)) pa_nil))) (pg_name (i := 6) nd rfl (Or.inl rfl)) (pss_cons (ps_set (i := 7) nd rfl (Or.inl rfl) (pe_ix ix_list (pv 1) (pe_op op_sub (pv 6) pe_int) (fun _ _ => rfl))) (pss_cons (ps_if (pt_cmpR op_lt (pe_ix ix_list (pv 7) pe_int (fun _ _ => rfl)) (pe_callB call_len_seq (by rfl) zLen (by decide +kernel) (pa_cons (pe_ix ix_tup (pe_ix ix_tup (pv 3) (pe_ix ix_list (pv 7) pe_int (fun _ _ => rfl)) (fun _ _ => rfl)) pe_int (fun _ _ => rfl)) pa_nil)) (nomark _)) (pss_one (ps_set (i := 5) nd rfl (Or.inl rfl) (pe_op op_or (pv 5) (pe_ix ix_tup (pe_ix ix_tup (pe_ix ix_tup (pe_ix ix_tup (pv 3) (pe_ix ix_list (pv 7) pe_int (fun _ _ => rfl)) (fun _ _ => rfl)) pe_int (fun _ _ => rfl)) (pe_ix ix_list (pv 7) pe_int (fun _ _ => rfl)) (fun _ _ => rfl)) pe_int (fun _ _ => rfl))))) pss_nil) (pss_cons (ps_set (i := 8) nd rfl (Or.inl rfl) (pe_tup (pa_cons (pe_ix ix_list (pe_ix ix_list (pv 1) (pv 6) (fun _ _ => rfl)) pe_int (fun _ _ => rfl)) (pa_cons (pv 5) pa_nil)))) (pss_cons (ps_if (PW.pt (pw_or (pt_cmp (pc_dnotin hu (pv 8) (pv 2))) (pw_or1 (pt_cmpR op_ge (pe_dget hu (pv 2) (pv 8) (fun _ _ => rfl)) (pv 4) (nomark _))))) (pss_one (ps_ret pe_bl)) pss_nil) (pss_one (ps_set (i := 4) nd rfl (Or.inl rfl) (pe_dget hu (pv 2) (pv 8) (fun _ _ => rfl))))))))) (pss_one (ps_ret (pe_cmpR op_ge (pv 4) pe_int (nomark _)))))))))
theorem sc_law : FnScope n_law p_law (defScope s_law) := ⟨rfl, rfl, rfl, by decide +kernel, rfl, by decide +kernel, by decide +kernel⟩
theorem ok_law {f : Addr} {fd : FuncData} (F : FnP K "law" "law" s_law f fd) (hdraw : Has P w K mg base 1 "_law_draw" p_draw (sp_draw K)) (hgoes : Has P w K mg base 1 "_law_goes" p_goes (sp_goes K)) (hprogram : Has P w K mg base 4 "_law_program" p_program (sp_program K)) (hrests : Has P w K mg base 1 "_law_rests" p_rests (sp_rests K)) (hringings : Has P w K mg base 2 "_law_ringings" p_ringings (sp_ringings K)) (hstart : Has P w K mg base 1 "_law_start" p_start (sp_start K)) (hturn : Has P w K mg base 4 "_law_turn" p_turn (sp_turn K)) (hpdeepest : Has P w K mg base 14 "deepest" p_pdeepest (sp_pdeepest K)) (hppaper : Has P w K mg base 14 "paper" p_ppaper (sp_ppaper K)) (zLen : mg "len" = none) : FnOk P w K mg base CX0 15 f fd p_law (sp_law K) := by
  obtain ⟨fdraw, ddraw, gdraw, kdraw, bdraw, Gdraw⟩ := hdraw
  obtain ⟨fgoes, dgoes, ggoes, kgoes, bgoes, Ggoes⟩ := hgoes
  obtain ⟨fprogram, dprogram, gprogram, kprogram, bprogram, Gprogram⟩ := hprogram
  obtain ⟨frests, drests, grests, krests, brests, Grests⟩ := hrests
  obtain ⟨fringings, dringings, gringings, kringings, bringings, Gringings⟩ := hringings
  obtain ⟨fstart, dstart, gstart, kstart, bstart, Gstart⟩ := hstart
  obtain ⟨fturn, dturn, gturn, kturn, bturn, Gturn⟩ := hturn
  obtain ⟨fpdeepest, dpdeepest, gpdeepest, kpdeepest, bpdeepest, Gpdeepest⟩ := hpdeepest
  obtain ⟨fppaper, dppaper, gppaper, kppaper, bppaper, Gppaper⟩ := hppaper
  have nd : (n_law : List Str).Nodup := sc_law.nd
  refine F.ok sc_law (fun vs H Q E h => h.1) (fun cdv A outer s H vs Q E hr h => ⟨t_law K, PSs.nox ?_, pure_law h⟩)
  have hu := hu_of hr
  unfold t_law r_law_0 b_law_0 r_law_1 b_law_1 r_law_2 b_law_2 r_law_3 b_law_3 r_law_4 b_law_4 r_law_5 b_law_5 r_law_6 b_law_6 r_law_7 b_law_7 r_law_8 b_law_8
  exact (pss_cons (ps_set (i := 1) nd rfl (Or.inl rfl) (pe_call Gprogram (hr.mono (by decide)) (by rfl) gprogram kprogram bprogram .nil pass0 (pa_cons (pv 0) (pa_cons (pe_ix ix_list (pe_lst (pa_cons pe_int (pa_cons pe_int (pa_cons pe_int (pa_cons pe_int pa_nil))))) (pe_call Gdraw (hr.mono (by decide)) (by rfl) gdraw kdraw bdraw .nil pass0 (pa_cons (pv 0) (pa_cons pe_int (pa_cons pe_int pa_nil)))) (fun _ _ => rfl)) pa_nil)))) (pss_cons (ps_set (i := 2) nd rfl (Or.inl rfl) (pe_call Gringings (hr.mono (by decide)) (by rfl) gringings kringings bringings .nil pass0 (pa_cons (pv 0) (pa_cons (pe_op op_sub (pe_callB call_len_seq (by rfl) zLen (by decide +kernel) (pa_cons (pe_ix ix_tup (pv 1) pe_int (fun _ _ => rfl)) pa_nil)) pe_int) pa_nil)))) (pss_cons (ps_set (i := 3) nd rfl (Or.inl rfl) pe_dnewT) (pss_cons (ps_for PassesOwn.never rfl (pi_list (pe_call Gppaper (hr.mono (by decide)) (by rfl) gppaper kppaper bppaper .nil pass0 (pa_cons (pv 1) pa_nil))) (pg_tup rfl (pgs_cons (pg_name (i := 4) nd rfl (Or.inl rfl)) (pgs_cons (pg_name (i := 5) nd rfl (Or.inl rfl)) (pgs_cons (pg_name (i := 6) nd rfl (Or.inl rfl)) pgs_nil)))) (pss_one (ps_dput hu (pv 3) (pe_tup (pa_cons (pv 4) (pa_cons (pv 5) pa_nil))) (pv 6) rfl))) (pss_cons (ps_set (i := 7) nd rfl (Or.inl rfl) (pe_ix ix_tup (pe_call Gpdeepest (hr.mono (by decide)) (by rfl) gpdeepest kpdeepest bpdeepest .nil pass0 (pa_cons (pv 1) pa_nil)) pe_int (fun _ _ => rfl))) (pss_cons (ps_set (i := 8) nd rfl (Or.inl rfl) (pe_call Gstart (hr.mono (by decide)) (by rfl) gstart kstart bstart .nil pass0 (pa_cons (pv 1) pa_nil))) (pss_cons (ps_set (i := 9) nd rfl (Or.inl rfl) pe_int) (pss_cons (ps_while PassesOwn.never (PW.pt (pw_or (pt_cmpR op_lt (pv 9) (pe_callB call_len_seq (by rfl) zLen (by decide +kernel) (pa_cons (pv 2) pa_nil)) (nomark _)) (pw_or1 (pt_not (pt_val (pe_call Grests (hr.mono (by decide)) (by rfl) grests krests brests .nil pass0 (pa_cons (pv 1) (pa_cons (pv 8) pa_nil)))))))) (pss_cons (ps_set (i := 10) nd rfl (Or.inl rfl) pe_int) (pss_cons (ps_if (pt_cmpR op_lt (pv 9) (pe_callB call_len_seq (by rfl) zLen (by decide +kernel) (pa_cons (pv 2) pa_nil)) (nomark _)) (pss_one (ps_set (i := 10) nd rfl (Or.inl rfl) (pe_ix ix_list (pv 2) (pv 9) (fun _ _ => rfl)))) pss_nil) (pss_cons (ps_expr (pe_call Gturn (hr.mono (by decide)) (by rfl) gturn kturn bturn .nil pass0 (pa_cons (pv 1) (pa_cons (pv 8) (pa_cons (pv 10) pa_nil))))) (pss_cons (ps_if (PW.pt (pw_or (pt_cmpR op_gt (pe_op op_sub (pe_callB call_len_seq (by rfl) zLen (by decide +kernel) (pa_cons (pe_ix ix_list (pv 8) pe_int (fun _ _ => rfl)) pa_nil)) pe_int) (pv 7) (nomark _)) (pw_or1 (pt_not (pt_val (pe_call Ggoes (hr.mono (by decide)) (by rfl) ggoes kgoes bgoes .nil pass0 (pa_cons (pv 1) (pa_cons (pe_ix ix_list (pv 8) pe_int (fun _ _ => rfl)) (pa_cons (pv 3) pa_nil))))))))) (pss_one (ps_ret pe_bl)) pss_nil) (pss_one (ps_set (i := 9) nd rfl (Or.inl rfl) (pe_op op_add (pv 9) pe_int)))))))) (pss_one (ps_ret pe_bl))))))))))
end
end Bn
set_option Elab.async false
set_option linter.all false
set_option maxRecDepth 100000
set_option maxHeartbeats 4000000
namespace Bn
open PySem PySem.Spec PyProof.Rows L2 Evl
/-! ### weigh calls itself -/
section
variable {P : Program} {w : World} {K : PySem.W.Frag} {mg : Str → Option Value} {base : Heap}
theorem ok_pweigh {f : Addr} {fd : FuncData} (F : FnP K "weigh" "weigh" s_pweigh f fd) (gpweigh : mg "weigh" = some (.ref f)) (bpweigh : Binds K fd p_pweigh []) (hpstepson : Has P w K mg base 2 "steps_on" p_pstepson (sp_pstepson K)) : ∀ n : Nat, FnOk P w K mg base CX0 (n + 3) f fd p_pweigh (sp_weighN n)
  | 0 => F.ok sc_pweigh (fun vs H Q E h => h.1) fun cdv A outer s H vs Q E hr h => by
    obtain ⟨_, p, d, P', r, w', M, _, _, wf, hr', _, hrk, _⟩ := h
    exfalso
    by_cases z : r = 0
    · rw [z, wf.rk0] at hrk
      omega
    · have := (wf.rkb r (by omega) hr').2
      omega
  | n + 1 => by
    have Gpweigh := ok_pweigh F gpweigh bpweigh hpstepson n
    have kpweigh := F.kp
    obtain ⟨fpstepson, dpstepson, gpstepson, kpstepson, bpstepson, Gpstepson⟩ := hpstepson
    have nd : (n_pweigh : List Str).Nodup := sc_pweigh.nd
    refine F.ok sc_pweigh (fun vs H Q E h => h.1) (fun cdv A outer s H vs Q E hr h => ⟨t_pweigh K (sp_weighN n), PSs.nox ?_, pure_pweigh h⟩)
    have hu := hu_of hr
    exact (pss_cons (ps_if (pt_cmp (pc_dnotin hu (pe_tup (pa_cons (pv 1) (pa_cons (pv 2) pa_nil))) (pv 3))) (pss_cons (ps_set (i := 4) nd rfl (Or.inl rfl) (pe_tup (pa_cons pe_int (pa_cons pe_int (pa_cons pe_int (pa_cons pe_int pa_nil)))))) (pss_cons (ps_for PassesOwn.never rfl (pi_list (pe_call Gpstepson (hr.mono (by omega)) (by rfl) gpstepson kpstepson bpstepson .nil pass0 (pa_cons (pv 0) (pa_cons (pv 1) (pa_cons (pv 2) pa_nil))))) (pg_tup rfl (pgs_cons (pg_name (i := 5) nd rfl (Or.inl rfl)) (pgs_cons (pg_name (i := 6) nd rfl (Or.inl rfl)) (pgs_cons (pg_name (i := 7) nd rfl (Or.inl rfl)) pgs_nil)))) (pss_cons (ps_set (i := 8) nd rfl (Or.inl rfl) (pe_op op_add pe_int (pe_call Gpweigh (hr.mono (by omega)) (by rfl) gpweigh kpweigh bpweigh .nil pass0 (pa_cons (pv 0) (pa_cons (pv 5) (pa_cons (pv 6) (pa_cons (pv 3) pa_nil))))))) (pss_one (ps_if (pt_cmpR op_gt (pv 8) (pe_ix ix_tup (pv 4) pe_int (fun _ _ => rfl)) (nomark _)) (pss_one (ps_set (i := 4) nd rfl (Or.inl rfl) (pe_tup (pa_cons (pv 8) (pa_cons (pv 5) (pa_cons (pv 6) (pa_cons (pv 7) pa_nil))))))) pss_nil)))) (pss_one (ps_dput hu (pv 3) (pe_tup (pa_cons (pv 1) (pa_cons (pv 2) pa_nil))) (pv 4) rfl)))) pss_nil) (pss_one (ps_ret (pe_ix ix_tup (pe_dget hu (pv 3) (pe_tup (pa_cons (pv 1) (pa_cons (pv 2) pa_nil))) (fun _ _ => rfl)) pe_int (fun _ _ => rfl)))))
end
/-! ### the classes of deeds -/
def clsName : Deed → Str
  | .put _ _ => "Put"
  | .copy _ _ => "Copy"
  | .grow _ _ => "Grow"
  | .tick _ => "Tick"
  | .still _ => "Still"
  | .same _ _ _ _ => "Held"
  | .alone _ => "Alone"
  | .anew _ _ _ => "Anew"
def fieldsOf (b q : Addr) : List (Str × V) := [("boxes", .ref b), ("deed", .ref q)]
def DeedIn (K : PySem.W.Frag) (H : Hp) (a C b q : Addr) (B : Boxes) (d : Deed) : Prop := (∃ dx, H a = some (.ins C dx (fieldsOf b q))) ∧ BoxesAt H b B ∧ BOk B ∧ DeedAt H q d ∧ DOk B d
def sp_init (C : Addr) : Sp := fun vs H Q _ => vs.length = 3 ∧ ∃ (a dx b q : Addr), vs = [.ref a, .ref b, .ref q] ∧ H a = some (.ins C dx []) ∧ ∀ H', (∀ c o, c ≠ a → H c = some o → H' c = some o) → H' a = some (.ins C dx (fieldsOf b q)) → Q .non H'
def sp_own (K : PySem.W.Frag) (C : Addr) : Sp := fun vs H Q _ => vs.length = 2 ∧ ∃ (a b q : Addr) (B : Boxes) (ds : List V) (k : Int) (x : Nat), vs = [.ref a, .int k] ∧ (∃ dx, H a = some (.ins C dx (fieldsOf b q))) ∧ BoxesAt H b B ∧ BOk B ∧ H q = some (.tup ds) ∧ atI ds k = some (.int (x : Nat)) ∧ x < B.length ∧
  ∀ p H', H p = none → Ex H H' → H' p = some (.lst (nV (cellsL B x))) → Q (.ref p) H'
def sp_mturns (K : PySem.W.Frag) (n : Str) (C : Addr) : Sp := fun vs H Q _ => vs.length = 1 ∧ ∃ (a b q : Addr) (B : Boxes) (d : Deed), vs = [.ref a] ∧ DeedIn K H a C b q B d ∧ clsName d = n ∧ ∀ H', Ex H H' → Q (.int (turns B d : Nat)) H'
def sp_pdeedof (K : PySem.W.Frag) : Sp := fun vs H Q _ => vs.length = 2 ∧ ∃ (b q : Addr) (B : Boxes) (d : Deed), vs = [.ref b, .ref q] ∧ BoxesAt H b B ∧ BOk B ∧ DeedAt H q d ∧ DOk B d ∧ ∀ a H', Ex H H' → DeedIn K H' a (He.ga K (clsName d)) b q B d → Q (.ref a) H'
abbrev s_init : Stmt := inClass (top 5) 0
abbrev s_own : Stmt := inClass (top 5) 6
abbrev s_tDeed : Stmt := inClass (top 5) 1
abbrev s_tPut : Stmt := inClass (top 6) 0
abbrev s_tCopy : Stmt := inClass (top 7) 0
abbrev s_tGrow : Stmt := inClass (top 8) 0
abbrev s_tStill : Stmt := inClass (top 10) 0
abbrev s_tAnew : Stmt := inClass (top 14) 0
abbrev s_pdeedof : Stmt := top 15
abbrev s_pturnsahead : Stmt := top 22
abbrev n_init : List Str := ["self", "boxes", "deed"]
abbrev n_own : List Str := ["self", "k"]
abbrev n_mturns : List Str := ["self"]
abbrev n_pdeedof : List Str := ["boxes", "deed", "kind"]
abbrev p_pdeedof : List Str := ["boxes", "deed"]
abbrev n_pturnsahead : List Str := ["program", "stand", "many", "place"]
abbrev p_pturnsahead : List Str := ["program", "stand"]
theorem sc_init : FnScope n_init n_init (defScope s_init) := ⟨rfl, rfl, rfl, by decide +kernel, rfl, by decide +kernel, by decide +kernel⟩
theorem sc_own : FnScope n_own n_own (defScope s_own) := ⟨rfl, rfl, rfl, by decide +kernel, rfl, by decide +kernel, by decide +kernel⟩
theorem sc_tDeed : FnScope n_mturns n_mturns (defScope s_tDeed) := ⟨rfl, rfl, rfl, by decide +kernel, rfl, by decide +kernel, by decide +kernel⟩
theorem sc_tPut : FnScope n_mturns n_mturns (defScope s_tPut) := ⟨rfl, rfl, rfl, by decide +kernel, rfl, by decide +kernel, by decide +kernel⟩
theorem sc_tCopy : FnScope n_mturns n_mturns (defScope s_tCopy) := ⟨rfl, rfl, rfl, by decide +kernel, rfl, by decide +kernel, by decide +kernel⟩
theorem sc_tGrow : FnScope n_mturns n_mturns (defScope s_tGrow) := ⟨rfl, rfl, rfl, by decide +kernel, rfl, by decide +kernel, by decide +kernel⟩
theorem sc_tStill : FnScope n_mturns n_mturns (defScope s_tStill) := ⟨rfl, rfl, rfl, by decide +kernel, rfl, by decide +kernel, by decide +kernel⟩
theorem sc_tAnew : FnScope n_mturns n_mturns (defScope s_tAnew) := ⟨rfl, rfl, rfl, by decide +kernel, rfl, by decide +kernel, by decide +kernel⟩
theorem sc_pdeedof : FnScope n_pdeedof p_pdeedof (defScope s_pdeedof) := ⟨rfl, rfl, rfl, by decide +kernel, rfl, by decide +kernel, by decide +kernel⟩
theorem sc_pturnsahead : FnScope n_pturnsahead p_pturnsahead (defScope s_pturnsahead) := ⟨rfl, rfl, rfl, by decide +kernel, rfl, by decide +kernel, by decide +kernel⟩
/-! readings -/
def t_init (K : PySem.W.Frag) : TS := tSeq (sFld K (tVar 0) (tVar 1) "boxes") (sFld K (tVar 0) (tVar 2) "deed")
def t_own (K : PySem.W.Frag) : TS := tRet (tCall (sp_pcellsof K) [] E0 (tCons (tFld K (tVar 0) "boxes") (tCons (tOp (rIxT K) (tFld K (tVar 0) "deed") (tVar 1)) tNil)))
def lenOwn (K : PySem.W.Frag) (C : Addr) : TE := tCB (rLenS K) (tCons (tMeth C "own" (sp_own K C) [] E0 (tVar 0) (tCons (tC (.int 1)) tNil)) tNil)
def t_tDeed : TS := tRet (tC (.int 1))
def t_tPut (K : PySem.W.Frag) (C : Addr) : TS := tRet (lenOwn K C)
def t_tGrow (K : PySem.W.Frag) (C : Addr) : TS := tRet (tOp rTi (tC (.int 2)) (lenOwn K C))
def t_tStill (K : PySem.W.Frag) : TS := tRet (tOp (rIxT K) (tFld K (tVar 0) "deed") (tC (.int 1)))
def t_tAnew (K : PySem.W.Frag) (C : Addr) : TS := tRet (tOp rPl (tOp rTi (tC (.int 2)) (lenOwn K C)) (tC (.int 2)))
def mk (K : PySem.W.Frag) (n : Str) : TE := tMake (He.ga K n) (sp_init (He.ga K n)) [] E0 (tCons (tVar 0) (tCons (tVar 1) tNil))
def isK (s : Str) : TT := tTest (tOp rEq (tVar 2) (tC (.str s)))
def t_pdeedof (K : PySem.W.Frag) : TS := tSeq (tAsg (tOp (rIxT K) (tVar 1) (tC (.int 0))) (gName 2)) (tSeq (tIfS (isK "put") (tRet (mk K "Put")) tNext) (tSeq (tIfS (isK "copy") (tRet (mk K "Copy")) tNext) (tSeq (tIfS (isK "grow") (tRet (mk K "Grow")) tNext) (tSeq (tIfS (isK "tick") (tRet (mk K "Tick")) tNext)
  (tSeq (tIfS (isK "still") (tRet (mk K "Still")) tNext) (tSeq (tIfS (isK "none") (tRet (mk K "Alone")) tNext) (tSeq (tIfS (isK "anew") (tRet (mk K "Anew")) tNext) (tRet (mk K "Held")))))))))
def names8 : List Str := ["Put", "Copy", "Grow", "Tick", "Still", "Held", "Alone", "Anew"]
theorem clsName_in (d : Deed) : clsName d ∈ names8 := by
  cases d <;> simp only [clsName] <;> decide
def tTurns (K : PySem.W.Frag) (n : {n : Str // n ∈ names8}) : TE := tMeth (He.ga K n.1) "turns" (sp_mturns K n.1 (He.ga K n.1)) [] E0 (tCall (sp_pdeedof K) [] E0 (tCons (tOp (rIxT K) (tVar 0) (tC (.int 0))) (tCons (tOp (rIxT K) (tVar 3) (tC (.int 0))) tNil))) tNil
def tAny {α : Type} (t : α → TE) : TE := fun σ H Q => ∃ i, t i σ H Q
def t_pturnsahead (K : PySem.W.Frag) : TS := tSeq (tAsg (tOp (rIxT K) (tVar 1) (tC (.int 2))) (gName 2)) (tSeq (tFor (iTup K (tSl (rSlA K) (tOp (rIxT K) (tOp (rIxT K) (tOp (rIxT K) (tVar 0) (tC (.int 1))) (tOp (rIxT K) (tVar 1) (tC (.int 0)))) (tC (.int 2))) tNoPart (tPart (tOp (rIxT K) (tVar 1) (tC (.int 1)))))) (gName 3)
  (tAsg (tOp rPl (tVar 2) (tAny (tTurns K))) (gName 2))) (tRet (tVar 2)))
section
variable {K : PySem.W.Frag} {σ : L2.St} {H H2 H' Hn H0 H1 : Hp} {ta tb tc te tx td ty tv tl th : TE} {t u : TT} {vs xs ys : List V} {Q : VK} {E : XK} {D : Ends} {tu tw tz : TS} {v : V} {p l q b f c a d C dx : Addr} {g : TG} {fs : List (Str × V)} {s : Str}
theorem e_fld (ha : Ev ta σ H (.ref a)) (h : H a = some (.ins C dx fs)) (c : Cls K C) (n : NoAttr K C s) (l : fs.lookup s = some v) : Ev (tFld K ta s) σ H v := fun H1 e Q q => ha H1 e _ fun H2 e2 => ⟨a, C, dx, fs, v, rfl, e2 _ _ (e _ _ h), c, n, l, q H2 e2⟩
theorem pure_init (c : Cls K C) (n1 : NoAttr K C "boxes") (n2 : NoAttr K C "deed") (h : sp_init C vs H Q E) : t_init K { nx := fun _ H' => Q .non H', rt := Q } (L2.start n_init vs) H := by
  obtain ⟨_, a, dx, b, q, rfl, ha, kk⟩ := h
  refine ⟨_, rfl, _, rfl, a, C, dx, [], rfl, ha, c, n1, by decide, ?_⟩
  refine ⟨_, rfl, _, rfl, a, C, dx, _, rfl, upd_same, c, n2, by show 1 < 1000; decide, ?_⟩
  rw [upd_upd]
  refine kk _ (fun c o nc z => ?_) upd_same
  rw [upd_ne nc]
  exact z
theorem pure_own (c : Cls K C) (n1 : NoAttr K C "boxes") (n2 : NoAttr K C "deed") (h : sp_own K C vs H Q E) : t_own K { nx := fun _ H' => Q .non H', rt := Q } (L2.start n_own vs) H := by
  obtain ⟨_, a, b, q, B, ds, k, x, rfl, ⟨dx, ha⟩, hB, hbo, hq, hk, hx, kk⟩ := h
  have hA : EvA (tCons (tFld K (tVar 0) "boxes") (tCons (tOp (rIxT K) (tFld K (tVar 0) "deed") (tVar 1)) tNil)) [some (.ref a), some (.int k)] H [.ref b, .int (x : Nat)] :=
    ea_cons (e_fld (ev_var rfl) ha c n1 rfl) (ea_cons (e_ix (e_fld (v := .ref q) (ev_var rfl) ha c n2 rfl) (ev_var rfl) hq hk) ea_nil)
  have hl : EvL (tCall (sp_pcellsof K) [] E0 (tCons (tFld K (tVar 0) "boxes") (tCons (tOp (rIxT K) (tFld K (tVar 0) "deed") (tVar 1)) tNil))) [some (.ref a), some (.int k)] H (nV (cellsL B x)) :=
    el_call hA fun H1 e Q q' E => ⟨rfl, b, B, x, rfl, hB.keep (.of e), hbo, hx, fun p H' hp e' h' => q' p H' hp e' h'⟩
  exact s_retL hl fun p H1 hp e h1 => kk p H1 hp e h1
theorem e_lenOwn {B : Boxes} {ds : List V} {x : Nat} (h0 : σ[0]? = some (some (.ref a))) (ha : ∃ dx, H a = some (.ins C dx (fieldsOf b q))) (hB : BoxesAt H b B) (hbo : BOk B) (hq : H q = some (.tup ds)) (hk : atI ds 1 = some (.int (x : Nat))) (hx : x < B.length) : Ev (lenOwn K C) σ H (.int (sz B x : Nat)) := by
  have h1 : EvL (tMeth C "own" (sp_own K C) [] E0 (tVar 0) (tCons (tC (.int 1)) tNil)) σ H (nV (cellsL B x)) := fun H1 e Q q' => by
    obtain ⟨dx, ha⟩ := ha
    exact ⟨_, h0, a, dx, fieldsOf b q, rfl, e _ _ ha, rfl, rfl, a, b, q, B, ds, 1, x, rfl, ⟨dx, e _ _ ha⟩, hB.keep (.of e), hbo, e _ _ hq, hk, hx, fun p H' hp e' h' => q' p H' hp e' h'⟩
  have h2 := ev_lenN (K := K) h1
  have h3 : ((nV (cellsL B x)).length : Int) = ((sz B x : Nat) : Int) := by
    unfold nV cellsL
    rw [List.length_map, List.length_map, List.length_range]
  rw [h3] at h2
  exact h2
theorem pure_tDeed {n : Str} (hn : n = "Tick" ∨ n = "Held" ∨ n = "Alone") (h : sp_mturns K n C vs H Q E) : t_tDeed { nx := fun _ H' => Q .non H', rt := Q } (L2.start n_mturns vs) H := by
  obtain ⟨_, a, b, q, B, d, rfl, hd, hc, kk⟩ := h
  have e1 : turns B d = 1 := by
    cases d with
    | tick x => rfl
    | same m x y n => rfl
    | alone x => rfl
    | _ =>
      simp only [clsName] at hc
      rcases hn with rfl | rfl | rfl <;> exact absurd hc (by decide)
  refine s_ret ev_c fun H1 e => ?_
  have := kk H1 e
  rw [e1] at this
  exact this
theorem pure_tPut (h : sp_mturns K "Put" C vs H Q E) : t_tPut K C { nx := fun _ H' => Q .non H', rt := Q } (L2.start n_mturns vs) H := by
  obtain ⟨_, a, b, q, B, d, rfl, ⟨ha, hB, hbo, hq, hd⟩, hc, kk⟩ := h
  cases d with
  | put x ns =>
    obtain ⟨q', h1, h2⟩ := hq
    exact s_ret (e_lenOwn rfl ha hB hbo h1 rfl hd.1) kk
  | _ =>
    simp only [clsName] at hc
    exact absurd hc (by decide)
theorem pure_tCopy (h : sp_mturns K "Copy" C vs H Q E) : t_tPut K C { nx := fun _ H' => Q .non H', rt := Q } (L2.start n_mturns vs) H := by
  obtain ⟨_, a, b, q, B, d, rfl, ⟨ha, hB, hbo, hq, hd⟩, hc, kk⟩ := h
  cases d with
  | copy x y => exact s_ret (e_lenOwn rfl ha hB hbo hq rfl hd.1) kk
  | _ =>
    simp only [clsName] at hc
    exact absurd hc (by decide)
theorem pure_tGrow (h : sp_mturns K "Grow" C vs H Q E) : t_tGrow K C { nx := fun _ H' => Q .non H', rt := Q } (L2.start n_mturns vs) H := by
  obtain ⟨_, a, b, q, B, d, rfl, ⟨ha, hB, hbo, hq, hd⟩, hc, kk⟩ := h
  cases d with
  | grow x n =>
    refine s_ret (ev_is (e_ti ev_c (e_lenOwn rfl ha hB hbo hq rfl hd) (.inl (by decide))) ?_) kk
    show V.int ((2 : Int) * ((sz B x : Nat) : Int)) = V.int ((2 * sz B x : Nat) : Int)
    rw [Int.natCast_mul]
    rfl
  | _ =>
    simp only [clsName] at hc
    exact absurd hc (by decide)
theorem pure_tStill (c : Cls K C) (n2 : NoAttr K C "deed") (h : sp_mturns K "Still" C vs H Q E) : t_tStill K { nx := fun _ H' => Q .non H', rt := Q } (L2.start n_mturns vs) H := by
  obtain ⟨_, a, b, q, B, d, rfl, ⟨⟨dx, ha⟩, hB, hbo, hq, hd⟩, hc, kk⟩ := h
  cases d with
  | still n => exact s_ret (e_ix (e_fld (v := .ref q) (ev_var rfl) ha c n2 rfl) ev_c hq rfl) kk
  | _ =>
    simp only [clsName] at hc
    exact absurd hc (by decide)
theorem pure_tAnew (h : sp_mturns K "Anew" C vs H Q E) : t_tAnew K C { nx := fun _ H' => Q .non H', rt := Q } (L2.start n_mturns vs) H := by
  obtain ⟨_, a, b, q, B, d, rfl, ⟨ha, hB, hbo, hq, hd⟩, hc, kk⟩ := h
  cases d with
  | anew x y t =>
    refine s_ret (ev_is (e_pl (e_ti ev_c (e_lenOwn rfl ha hB hbo hq rfl hd.1) (.inl (by decide))) ev_c) ?_) kk
    show V.int ((2 : Int) * ((sz B x : Nat) : Int) + 2) = V.int ((2 * sz B x + 2 : Nat) : Int)
    rw [Int.natCast_add, Int.natCast_mul]
    rfl
  | _ =>
    simp only [clsName] at hc
    exact absurd hc (by decide)
end
end Bn
set_option Elab.async false
set_option linter.all false
set_option maxRecDepth 100000
set_option maxHeartbeats 4000000
namespace Bn
open PySem PySem.Spec PyProof.Rows L2 Evl
section
variable {K : PySem.W.Frag} {σ : L2.St} {H H2 H' Hn H0 H1 : Hp} {ta tb tc te tx td ty tv tl th : TE} {t u : TT} {vs xs ys : List V} {Q : VK} {E : XK} {D : Ends} {tu tw tz : TS} {v : V} {p l q b f c a d C dx : Addr} {g : TG} {fs : List (Str × V)} {s : Str} {B : Boxes}
theorem DeedIn.ex {d : Deed} (h : DeedIn K H a C b q B d) (e : Ex H H') : DeedIn K H' a C b q B d := by
  obtain ⟨⟨dx, h1⟩, h2, h3, h4, h5⟩ := h
  exact ⟨⟨dx, e _ _ h1⟩, h2.keep (.of e), h3, h4.keep (.of e), h5⟩
theorem er_mk {d : Deed} {n : Str} (h0 : σ[0]? = some (some (.ref b))) (h1 : σ[1]? = some (some (.ref q))) (hB : BoxesAt H b B) (hbo : BOk B) (hq : DeedAt H q d) (hd : DOk B d) :
    Er (mk K n) σ H fun v H' => ∃ a, v = .ref a ∧ DeedIn K H' a (He.ga K n) b q B d := fun H1 e Q q' => by
  refine ⟨_, h0, _, h1, fun x dx hx hdx hne => ?_⟩
  refine ⟨rfl, x, dx, b, q, rfl, upd_same, fun H' hK hI => ⟨rfl, ?_⟩⟩
  have e2 : Ex H1 H' := fun c o z => by
    have n1 : c ≠ x := by
      rintro rfl
      rw [hx] at z
      cases z
    have n2 : c ≠ dx := by
      rintro rfl
      rw [hdx] at z
      cases z
    refine hK c o n1 ?_
    rw [upd_ne n1, upd_ne n2]
    exact z
  have tk : Tk H H' := .of (e.trans e2)
  exact q' _ H' e2 ⟨x, rfl, ⟨dx, hI⟩, hB.keep tk, hbo, hq.keep tk, hd⟩
theorem kind_tup {d : Deed} (h : DeedAt H q d) : ∃ r, H q = some (.tup (.str (kindS d) :: r)) := by
  cases d with
  | put x ns =>
    obtain ⟨q', h1, _⟩ := h
    exact ⟨_, h1⟩
  | _ => exact ⟨_, h⟩
def clsOf (s : Str) : Str := if s = "put" then "Put" else if s = "copy" then "Copy" else if s = "grow" then "Grow" else if s = "tick" then "Tick" else if s = "still" then "Still" else if s = "none" then "Alone" else if s = "anew" then "Anew" else "Held"
theorem cls_kind (d : Deed) : clsName d = clsOf (kindS d) := by
  cases d with
  | same m x y n => cases m <;> simp only [clsName, kindS] <;> decide
  | _ => simp only [clsName, kindS] <;> decide
theorem m_call {sp sp2 : Sp} {dvs : List V} {E E2 : XK} {tA : TA} {m : Str} (h : EvA tA σ H vs) (k : ∀ H2, Ex H H2 → sp (vs ++ dvs) H2 (fun x H1 => ∃ a dx fs, x = .ref a ∧ H1 a = some (.ins C dx fs) ∧ fs.lookup m = none ∧ sp2 [x] H1 Q E2) E) : tMeth C m sp2 [] E2 (tCall sp dvs E tA) tNil σ H Q := h H (Ex.refl H) _ fun H1 e => k H1 e
theorem pure_pdeedof (h : sp_pdeedof K vs H Q E) : t_pdeedof K { nx := fun _ H' => Q .non H', rt := Q } (L2.start n_pdeedof vs) H := by
  obtain ⟨_, b, q, B, d, rfl, hB, hbo, hq, hd, kk⟩ := h
  obtain ⟨r, h1⟩ := kind_tup hq
  have fin : ∀ (n : Str) (H' : Hp), Ex H H' → clsName d = n → ∀ v H1, Ex H' H1 → (∃ a, v = .ref a ∧ DeedIn K H1 a (He.ga K n) b q B d) → Q v H1 := by
    rintro n H' e rfl v H1 e1 ⟨a, rfl, hD⟩
    exact kk a H1 (e.trans e1) hD
  have mkr : ∀ (n : Str) (H' : Hp), Ex H H' → Er (mk K n) [some (.ref b), some (.ref q), some (.str (kindS d))] H' fun v H1 => ∃ a, v = .ref a ∧ DeedIn K H1 a (He.ga K n) b q B d := fun n H' e => er_mk rfl rfl (hB.keep (.of e)) hbo (hq.keep (.of e)) hd
  have kc : ∀ s : Str, kindS d = s → clsName d = clsOf s := fun s hs => by
    rw [← hs]
    exact cls_kind d
  refine q_asg (e_ix (v := .str (kindS d)) (ev_var rfl) ev_c h1 (atI_nat (j := 0) rfl)) fun H1 e1 => ?_
  refine q_when (t_eqS (ev_var rfl) ev_c) (fun hb H2 e2 => s_retR (mkr "Put" H2 (e1.trans e2)) (fin _ _ (e1.trans e2) ((kc "put" (of_decide_eq_true hb)).trans (by decide)))) (fun hb1 H2 e2 => ?_)
  have e02 := e1.trans e2
  refine q_when (t_eqS (ev_var rfl) ev_c) (fun hb H2 e2 => s_retR (mkr "Copy" H2 (e02.trans e2)) (fin _ _ (e02.trans e2) ((kc "copy" (of_decide_eq_true hb)).trans (by decide)))) (fun hb2 H3 e3 => ?_)
  have e03 := e02.trans e3
  refine q_when (t_eqS (ev_var rfl) ev_c) (fun hb H2 e2 => s_retR (mkr "Grow" H2 (e03.trans e2)) (fin _ _ (e03.trans e2) ((kc "grow" (of_decide_eq_true hb)).trans (by decide)))) (fun hb3 H4 e4 => ?_)
  have e04 := e03.trans e4
  refine q_when (t_eqS (ev_var rfl) ev_c) (fun hb H2 e2 => s_retR (mkr "Tick" H2 (e04.trans e2)) (fin _ _ (e04.trans e2) ((kc "tick" (of_decide_eq_true hb)).trans (by decide)))) (fun hb4 H5 e5 => ?_)
  have e05 := e04.trans e5
  refine q_when (t_eqS (ev_var rfl) ev_c) (fun hb H2 e2 => s_retR (mkr "Still" H2 (e05.trans e2)) (fin _ _ (e05.trans e2) ((kc "still" (of_decide_eq_true hb)).trans (by decide)))) (fun hb5 H6 e6 => ?_)
  have e06 := e05.trans e6
  refine q_when (t_eqS (ev_var rfl) ev_c) (fun hb H2 e2 => s_retR (mkr "Alone" H2 (e06.trans e2)) (fin _ _ (e06.trans e2) ((kc "none" (of_decide_eq_true hb)).trans (by decide)))) (fun hb6 H7 e7 => ?_)
  have e07 := e06.trans e7
  refine q_when (t_eqS (ev_var rfl) ev_c) (fun hb H2 e2 => s_retR (mkr "Anew" H2 (e07.trans e2)) (fin _ _ (e07.trans e2) ((kc "anew" (of_decide_eq_true hb)).trans (by decide)))) (fun hb7 H8 e8 => ?_)
  have e08 := e07.trans e8
  refine s_retR (mkr "Held" H8 e08) (fin _ _ e08 ?_)
  cases d with
  | same m x y n => rfl
  | put x ns => exact absurd rfl (of_decide_eq_false hb1)
  | copy x y => exact absurd rfl (of_decide_eq_false hb2)
  | grow x n => exact absurd rfl (of_decide_eq_false hb3)
  | tick x => exact absurd rfl (of_decide_eq_false hb4)
  | still n => exact absurd rfl (of_decide_eq_false hb5)
  | alone x => exact absurd rfl (of_decide_eq_false hb6)
  | anew x y t => exact absurd rfl (of_decide_eq_false hb7)
/-! ### turns ahead -/
theorem q_forCut {n : Nat} (ha : Ev ta σ H (.ref p)) (hp : H p = some (.tup xs)) (hb : Ev th σ H (.int (n : Int)))
    (k : ∀ a H1, Ex H H1 → H1 a = some (.tup (xs.take n)) → ∃ Pv : Nat → L2.St → Hp → Prop, Pv 0 σ H1 ∧ (∀ i σ' H', i ≤ (xs.take n).length → Pv i σ' H' → SqT K H' a (xs.take n)) ∧
      (∀ i x σ' H', (xs.take n)[i]? = some x → Pv i σ' H' → g x σ' H' fun σ2 H2 => tu { D with nx := Pv (i + 1), ct := Pv (i + 1), bk := tz D } σ2 H2) ∧ ∀ σ' H', Pv (xs.take n).length σ' H' → tz D σ' H') :
    tSeq (tFor (iTup K (tSl (rSlA K) ta tNoPart (tPart th))) g tu) tz D σ H := by
  refine ha H (Ex.refl H) _ fun H1 e1 => hb H1 e1 _ fun H2 e2 => ?_
  have h2 := e2 _ _ (e1 _ _ hp)
  refine ⟨(n : Int), rfl, p, xs, rfl, st_of h2, fun hw => ?_, fun _ a ha => ?_⟩
  · have h4 := hw.2
    rw [HT.sIx_nat] at h4
    have ht : xs.take n = xs := List.take_of_length_le (by omega)
    obtain ⟨Pv, k1, k2, k3, k4⟩ := k p H2 (e1.trans e2) (by rw [ht]; exact h2)
    exact ⟨p, rfl, ⟨_, st_of h2⟩, for_tup Pv k1 k2 k3 k4⟩
  · rw [cut_take]
    obtain ⟨Pv, k1, k2, k3, k4⟩ := k a (upd H2 a (.tup (xs.take n))) ((e1.trans e2).trans (Ex.new ha)) upd_same
    exact ⟨a, rfl, ⟨_, st_of upd_same⟩, for_tup Pv k1 k2 k3 k4⟩
theorem e_turnsAny {qa da : Addr} {d : Deed} {v' : V} (h0 : σ[0]? = some (some (.ref p))) (h3 : σ[3]? = some (some (.ref qa))) (hp : H p = some (.tup [.ref b, v'])) (hqa : H qa = some (.tup [.ref da, v])) (hB : BoxesAt H b B) (hbo : BOk B) (hq : DeedAt H da d) (hd : DOk B d) :
    Ev (tAny (tTurns K)) σ H (.int (turns B d : Nat)) := fun H1 e Q q' => by
  refine ⟨⟨clsName d, clsName_in d⟩, ?_⟩
  have hA : EvA (tCons (tOp (rIxT K) (tVar 0) (tC (.int 0))) (tCons (tOp (rIxT K) (tVar 3) (tC (.int 0))) tNil)) σ H [.ref b, .ref da] := ea_cons (e_ix (ev_var h0) ev_c hp rfl) (ea_cons (e_ix (ev_var h3) ev_c hqa rfl) ea_nil)
  refine m_call (hA.mono e) fun H2 e2 => ?_
  have e02 := e.trans e2
  refine ⟨rfl, b, da, B, d, rfl, hB.keep (.of e02), hbo, hq.keep (.of e02), hd, fun a H3 e3 hD => ?_⟩
  obtain ⟨dx, hi⟩ := id hD.1
  exact ⟨a, dx, fieldsOf b da, rfl, hi, rfl, rfl, a, b, da, B, d, rfl, hD, rfl, fun H4 e4 => q' H4 ((e2.trans e3).trans e4)⟩
theorem pure_pturnsahead (h : sp_pturnsahead K vs H Q E) : t_pturnsahead K { nx := fun _ H' => Q .non H', rt := Q } (L2.start n_pturnsahead vs) H := by
  obtain ⟨_, p, s, P, r, pl, rfl, hP, wf, hs, hr, hpl, kk⟩ := h
  obtain ⟨bx, rw', g1, g2, g3⟩ := prog_at hP
  obtain ⟨as, ra, pa, nm, j1, j2, j3, j4, j5⟩ := rows_at g3 hr
  obtain ⟨qs, k1, k2, k3⟩ := id j5
  have hln := (wf.pl r hr).2
  have hbo : BOk P.boxes := ⟨wf.b1, wf.b8, wf.bs⟩
  refine q_asg (e_ix (v := .int ((0 : Nat) : Int)) (ev_var rfl) ev_c hs rfl) fun H1 e1 => ?_
  refine q_forCut (n := pl) (xs := qs.map V.ref) (e_ix (v := .ref pa) (e_ix (v := .ref ra) (e_ix (v := .ref rw') (ev_var rfl) ev_c (e1 _ _ g1) rfl) (e_ix (v := .int (r : Nat)) (ev_var rfl) ev_c (e1 _ _ hs) rfl) (e1 _ _ j1) j3) ev_c (e1 _ _ j4) rfl) (e1 _ _ k1) (e_ix (v := .int (pl : Nat)) (ev_var rfl) ev_c (e1 _ _ hs) rfl) fun ta H2 e2 hta => ?_
  have e02 := e1.trans e2
  refine ⟨fun i σ' H' => ∃ (m : Nat) (v3 : Option V), σ' = [some (.ref p), some (.ref s), some (.int (m : Nat)), v3] ∧ Ex H2 H' ∧ m ≤ 9 * i, ⟨0, none, rfl, Ex.refl H2, Nat.le_refl _⟩, fun i σ' H' _ ⟨m, v3, _, e, _⟩ => st_of (e _ _ hta), ?_, ?_⟩
  · rintro i x σ' H' hi ⟨m, v3, rfl, eH, hm⟩
    have hi2 := (List.getElem?_eq_some_iff.mp hi).1
    rw [List.length_take, List.length_map] at hi2
    have hip : i < pl := by omega
    rw [List.getElem?_take_of_lt hip, List.getElem?_map] at hi
    cases ea : qs[i]? with
    | none =>
      rw [ea] at hi
      cases hi
    | some qa =>
      rw [ea] at hi
      have hx := Option.some.inj hi
      subst hx
      have hiP : i < (plc P r).length := by omega
      have ep : (plc P r)[i]? = some (plc P r)[i] := List.getElem?_eq_getElem hiP
      obtain ⟨da, y1, y2⟩ := k3 i qa _ ea ep
      have hdk := (wf.dk r i (plc P r)[i].1 (plc P r)[i].2 ep).1
      have ht := turns_le wf.bs hdk
      have eH' := e02.trans eH
      refine s_asg (e_pl (ev_var rfl) (e_turnsAny (K := K) rfl rfl (eH' _ _ g1) (eH' _ _ y1) (g2.keep (.of eH')) hbo (y2.keep (.of eH')) hdk)) fun H3 e3 => ?_
      exact ⟨m + turns P.boxes (plc P r)[i].1, _, rfl, eH.trans e3, by omega⟩
  · rintro σ' H' ⟨m, v3, rfl, eH, hm⟩
    rw [List.length_take, List.length_map] at hm
    refine s_ret (ev_var rfl) fun H3 e3 => kk m H3 ?_ ((e02.trans eH).trans e3)
    have : min pl qs.length ≤ 12 := Nat.le_trans (Nat.min_le_left _ _) (Nat.le_trans hpl hln)
    omega
end
end Bn
set_option Elab.async false
set_option linter.all false
set_option maxRecDepth 100000
set_option maxHeartbeats 4000000
namespace Bn
open PySem PySem.Spec PyProof.Rows L2 Evl
section
variable {P : Program} {w : World} {K : PySem.W.Frag} {mg : Str → Option Value} {base : Heap} {f C : Addr} {fd : FuncData}
theorem ok_init (F : FnP K "__init__" "Deed.__init__" s_init f fd) (c : Cls K C) (n1 : NoAttr K C "boxes") (n2 : NoAttr K C "deed") : FnOk P w K mg base CX0 1 f fd n_init (sp_init C) := by
  have nd : (n_init : List Str).Nodup := sc_init.nd
  refine F.ok sc_init (fun vs H Q E h => h.1) (fun cdv A outer s H vs Q E hr h => ⟨t_init K, PSs.nox ?_, pure_init c n1 n2 h⟩)
  exact pss_cons (ps_fld (pv 0) (pv 1) rfl) (pss_one (ps_fld (pv 0) (pv 2) rfl))
theorem ok_own (F : FnP K "own" "Deed.own" s_own f fd) (c : Cls K C) (n1 : NoAttr K C "boxes") (n2 : NoAttr K C "deed") (hpcellsof : Has P w K mg base 2 "cells_of" p_pcellsof (sp_pcellsof K)) : FnOk P w K mg base CX0 3 f fd n_own (sp_own K C) := by
  obtain ⟨fpcellsof, dpcellsof, gpcellsof, kpcellsof, bpcellsof, Gpcellsof⟩ := hpcellsof
  have nd : (n_own : List Str).Nodup := sc_own.nd
  refine F.ok sc_own (fun vs H Q E h => h.1) (fun cdv A outer s H vs Q E hr h => ⟨t_own K, PSs.nox ?_, pure_own c n1 n2 h⟩)
  exact pss_one (ps_ret (pe_call Gpcellsof (hr.mono (by decide)) (by rfl) gpcellsof kpcellsof bpcellsof .nil pass0 (pa_cons (pe_fld (pv 0) rfl) (pa_cons (pe_ix ix_tup (pe_fld (pv 0) rfl) (pv 1) (fun _ _ => rfl)) pa_nil))))
/-- the method own of the class at C -/
structure OwnP (P : Program) (w : World) (K : PySem.W.Frag) (mg : Str → Option Value) (base : Heap) (C : Addr) : Prop where
  cls : Cls K C
  own : ∃ f fd, Meth K C "own" f ∧ FnOk P w K mg base CX0 3 f fd n_own (sp_own K C) ∧ Binds K fd n_own []
theorem ok_tDeed {n : Str} (hn : n = "Tick" ∨ n = "Held" ∨ n = "Alone") (F : FnP K "turns" "Deed.turns" s_tDeed f fd) : FnOk P w K mg base CX0 4 f fd n_mturns (sp_mturns K n C) := by
  have nd : (n_mturns : List Str).Nodup := sc_tDeed.nd
  refine F.ok sc_tDeed (fun vs H Q E h => h.1) (fun cdv A outer s H vs Q E hr h => ⟨t_tDeed, PSs.nox ?_, pure_tDeed hn h⟩)
  exact pss_one (ps_ret pe_int)
theorem ok_tStill (F : FnP K "turns" "Still.turns" s_tStill f fd) (c : Cls K C) (n2 : NoAttr K C "deed") : FnOk P w K mg base CX0 4 f fd n_mturns (sp_mturns K "Still" C) := by
  have nd : (n_mturns : List Str).Nodup := sc_tStill.nd
  refine F.ok sc_tStill (fun vs H Q E h => h.1) (fun cdv A outer s H vs Q E hr h => ⟨t_tStill K, PSs.nox ?_, pure_tStill c n2 h⟩)
  exact pss_one (ps_ret (pe_ix ix_tup (pe_fld (pv 0) rfl) pe_int (fun _ _ => rfl)))
theorem ok_tPut (F : FnP K "turns" "Put.turns" s_tPut f fd) (O : OwnP P w K mg base C) (zLen : mg "len" = none) : FnOk P w K mg base CX0 4 f fd n_mturns (sp_mturns K "Put" C) := by
  obtain ⟨fo, fdo, M, G, B⟩ := O.own
  have nd : (n_mturns : List Str).Nodup := sc_tPut.nd
  refine F.ok sc_tPut (fun vs H Q E h => h.1) (fun cdv A outer s H vs Q E hr h => ⟨t_tPut K C, PSs.nox ?_, pure_tPut h⟩)
  exact pss_one (ps_ret (pe_callB call_len_seq (by rfl) zLen (by decide +kernel) (pa_cons (pe_meth (pv 0) O.cls M G (hr.mono (by decide)) B .nil pass0 (pa_cons pe_int pa_nil)) pa_nil)))
theorem ok_tCopy (F : FnP K "turns" "Copy.turns" s_tCopy f fd) (O : OwnP P w K mg base C) (zLen : mg "len" = none) : FnOk P w K mg base CX0 4 f fd n_mturns (sp_mturns K "Copy" C) := by
  obtain ⟨fo, fdo, M, G, B⟩ := O.own
  have nd : (n_mturns : List Str).Nodup := sc_tCopy.nd
  refine F.ok sc_tCopy (fun vs H Q E h => h.1) (fun cdv A outer s H vs Q E hr h => ⟨t_tPut K C, PSs.nox ?_, pure_tCopy h⟩)
  exact pss_one (ps_ret (pe_callB call_len_seq (by rfl) zLen (by decide +kernel) (pa_cons (pe_meth (pv 0) O.cls M G (hr.mono (by decide)) B .nil pass0 (pa_cons pe_int pa_nil)) pa_nil)))
theorem ok_tGrow (F : FnP K "turns" "Grow.turns" s_tGrow f fd) (O : OwnP P w K mg base C) (zLen : mg "len" = none) : FnOk P w K mg base CX0 4 f fd n_mturns (sp_mturns K "Grow" C) := by
  obtain ⟨fo, fdo, M, G, B⟩ := O.own
  have nd : (n_mturns : List Str).Nodup := sc_tGrow.nd
  refine F.ok sc_tGrow (fun vs H Q E h => h.1) (fun cdv A outer s H vs Q E hr h => ⟨t_tGrow K C, PSs.nox ?_, pure_tGrow h⟩)
  exact pss_one (ps_ret (pe_op op_mul pe_int (pe_callB call_len_seq (by rfl) zLen (by decide +kernel) (pa_cons (pe_meth (pv 0) O.cls M G (hr.mono (by decide)) B .nil pass0 (pa_cons pe_int pa_nil)) pa_nil))))
theorem ok_tAnew (F : FnP K "turns" "Anew.turns" s_tAnew f fd) (O : OwnP P w K mg base C) (zLen : mg "len" = none) : FnOk P w K mg base CX0 4 f fd n_mturns (sp_mturns K "Anew" C) := by
  obtain ⟨fo, fdo, M, G, B⟩ := O.own
  have nd : (n_mturns : List Str).Nodup := sc_tAnew.nd
  refine F.ok sc_tAnew (fun vs H Q E h => h.1) (fun cdv A outer s H vs Q E hr h => ⟨t_tAnew K C, PSs.nox ?_, pure_tAnew h⟩)
  exact pss_one (ps_ret (pe_op op_add (pe_op op_mul pe_int (pe_callB call_len_seq (by rfl) zLen (by decide +kernel) (pa_cons (pe_meth (pv 0) O.cls M G (hr.mono (by decide)) B .nil pass0 (pa_cons pe_int pa_nil)) pa_nil))) pe_int))
/-- a class of deeds, by its name -/
structure Kls (P : Program) (w : World) (K : PySem.W.Frag) (mg : Str → Option Value) (base : Heap) (n : Str) : Prop where
  glo : mg n = some (.ref (He.ga K n))
  cls : Cls K (He.ga K n)
  make : ∃ f fd, Mk K (He.ga K n) f ∧ FnOk P w K mg base CX0 1 f fd n_init (sp_init (He.ga K n)) ∧ Binds K fd n_init []
  turns : ∃ f fd, Meth K (He.ga K n) "turns" f ∧ FnOk P w K mg base CX0 4 f fd n_mturns (sp_mturns K n (He.ga K n)) ∧ Binds K fd n_mturns []
theorem pe_any {X : Cx} {e : Expr} {α : Type} {t : α → TE} (h : ∀ i, PE X e (t i)) : PE X e (tAny t) := ⟨fun pins s σ H Q I ⟨i, q⟩ => (h i).run pins s σ H Q I q⟩
theorem ok_pdeedof (F : FnP K "deed_of" "deed_of" s_pdeedof f fd) (hK : ∀ n ∈ names8, Kls P w K mg base n) : FnOk P w K mg base CX0 3 f fd p_pdeedof (sp_pdeedof K) := by
  obtain ⟨f1, d1, M1, G1, B1⟩ := (hK "Put" (by decide)).make
  obtain ⟨f2, d2, M2, G2, B2⟩ := (hK "Copy" (by decide)).make
  obtain ⟨f3, d3, M3, G3, B3⟩ := (hK "Grow" (by decide)).make
  obtain ⟨f4, d4, M4, G4, B4⟩ := (hK "Tick" (by decide)).make
  obtain ⟨f5, d5, M5, G5, B5⟩ := (hK "Still" (by decide)).make
  obtain ⟨f6, d6, M6, G6, B6⟩ := (hK "Alone" (by decide)).make
  obtain ⟨f7, d7, M7, G7, B7⟩ := (hK "Anew" (by decide)).make
  obtain ⟨f8, d8, M8, G8, B8⟩ := (hK "Held" (by decide)).make
  have g1 := (hK "Put" (by decide)).glo
  have g2 := (hK "Copy" (by decide)).glo
  have g3 := (hK "Grow" (by decide)).glo
  have g4 := (hK "Tick" (by decide)).glo
  have g5 := (hK "Still" (by decide)).glo
  have g6 := (hK "Alone" (by decide)).glo
  have g7 := (hK "Anew" (by decide)).glo
  have g8 := (hK "Held" (by decide)).glo
  have nd : (n_pdeedof : List Str).Nodup := sc_pdeedof.nd
  refine F.ok sc_pdeedof (fun vs H Q E h => h.1) (fun cdv A outer s H vs Q E hr h => ⟨t_pdeedof K, PSs.nox ?_, pure_pdeedof h⟩)
  exact pss_cons (ps_set (i := 2) nd rfl (Or.inl rfl) (pe_ix ix_tup (pv 1) pe_int (fun _ _ => rfl)))
    (pss_cons (ps_if (pt_cmpR op_eq (pv 2) pe_str (nomark _)) (pss_one (ps_ret (pe_make M1 G1 (hr.mono (by decide)) (by rfl) g1 B1 .nil pass0 (pa_cons (pv 0) (pa_cons (pv 1) pa_nil))))) pss_nil)
    (pss_cons (ps_if (pt_cmpR op_eq (pv 2) pe_str (nomark _)) (pss_one (ps_ret (pe_make M2 G2 (hr.mono (by decide)) (by rfl) g2 B2 .nil pass0 (pa_cons (pv 0) (pa_cons (pv 1) pa_nil))))) pss_nil)
    (pss_cons (ps_if (pt_cmpR op_eq (pv 2) pe_str (nomark _)) (pss_one (ps_ret (pe_make M3 G3 (hr.mono (by decide)) (by rfl) g3 B3 .nil pass0 (pa_cons (pv 0) (pa_cons (pv 1) pa_nil))))) pss_nil)
    (pss_cons (ps_if (pt_cmpR op_eq (pv 2) pe_str (nomark _)) (pss_one (ps_ret (pe_make M4 G4 (hr.mono (by decide)) (by rfl) g4 B4 .nil pass0 (pa_cons (pv 0) (pa_cons (pv 1) pa_nil))))) pss_nil)
    (pss_cons (ps_if (pt_cmpR op_eq (pv 2) pe_str (nomark _)) (pss_one (ps_ret (pe_make M5 G5 (hr.mono (by decide)) (by rfl) g5 B5 .nil pass0 (pa_cons (pv 0) (pa_cons (pv 1) pa_nil))))) pss_nil)
    (pss_cons (ps_if (pt_cmpR op_eq (pv 2) pe_str (nomark _)) (pss_one (ps_ret (pe_make M6 G6 (hr.mono (by decide)) (by rfl) g6 B6 .nil pass0 (pa_cons (pv 0) (pa_cons (pv 1) pa_nil))))) pss_nil)
    (pss_cons (ps_if (pt_cmpR op_eq (pv 2) pe_str (nomark _)) (pss_one (ps_ret (pe_make M7 G7 (hr.mono (by decide)) (by rfl) g7 B7 .nil pass0 (pa_cons (pv 0) (pa_cons (pv 1) pa_nil))))) pss_nil)
    (pss_one (ps_ret (pe_make M8 G8 (hr.mono (by decide)) (by rfl) g8 B8 .nil pass0 (pa_cons (pv 0) (pa_cons (pv 1) pa_nil))))))))))))
theorem ok_pturnsahead (F : FnP K "turns_ahead" "turns_ahead" s_pturnsahead f fd) (hK : ∀ n ∈ names8, Kls P w K mg base n) (hpdeedof : Has P w K mg base 3 "deed_of" p_pdeedof (sp_pdeedof K)) : FnOk P w K mg base CX0 5 f fd p_pturnsahead (sp_pturnsahead K) := by
  obtain ⟨fpdeedof, dpdeedof, gpdeedof, kpdeedof, bpdeedof, Gpdeedof⟩ := hpdeedof
  have nd : (n_pturnsahead : List Str).Nodup := sc_pturnsahead.nd
  refine F.ok sc_pturnsahead (fun vs H Q E h => h.1) (fun cdv A outer s H vs Q E hr h => ⟨t_pturnsahead K, PSs.nox ?_, pure_pturnsahead h⟩)
  refine pss_cons (ps_set (i := 2) nd rfl (Or.inl rfl) (pe_ix ix_tup (pv 1) pe_int (fun _ _ => rfl)))
    (pss_cons (ps_for PassesOwn.never rfl (pi_tup (pe_slice sl_tupA (pe_ix ix_tup (pe_ix ix_tup (pe_ix ix_tup (pv 0) pe_int (fun _ _ => rfl)) (pe_ix ix_tup (pv 1) pe_int (fun _ _ => rfl)) (fun _ _ => rfl)) pe_int (fun _ _ => rfl)) po_none (po_some (pe_ix ix_tup (pv 1) pe_int (fun _ _ => rfl))))) (pg_name (i := 3) nd rfl (Or.inl rfl))
      (pss_one (ps_set (i := 2) nd rfl (Or.inl rfl) (pe_op op_add (pv 2) (pe_any fun n => ?_))))) (pss_one (ps_ret (pv 2))))
  obtain ⟨ft, dt, M, G, B⟩ := (hK n.1 n.2).turns
  exact pe_meth0 (pe_call Gpdeedof (hr.mono (by decide)) (by rfl) gpdeedof kpdeedof bpdeedof .nil pass0 (pa_cons (pe_ix ix_tup (pv 0) pe_int (fun _ _ => rfl)) (pa_cons (pe_ix ix_tup (pv 3) pe_int (fun _ _ => rfl)) pa_nil))) (hK n.1 n.2).cls M G (hr.mono (by decide)) B .nil pass0
end
end Bn
set_option Elab.async false
set_option linter.all false
set_option maxRecDepth 100000
set_option maxHeartbeats 0
namespace Bn
open PySem PySem.Spec PyProof.Rows L2 Evl
/-! the head: facts by names, the run -/
def d_psizeof : He.DefD := ⟨("size_of", none), "size_of", "size_of", defArgs s_psizeof, defBody s_psizeof, defScope s_psizeof, [], []⟩
def d_pcellsof : He.DefD := ⟨("cells_of", none), "cells_of", "cells_of", defArgs s_pcellsof, defBody s_pcellsof, defScope s_pcellsof, [], []⟩
def d_pdeedof : He.DefD := ⟨("deed_of", none), "deed_of", "deed_of", defArgs s_pdeedof, defBody s_pdeedof, defScope s_pdeedof, [], []⟩
def d_pwordat : He.DefD := ⟨("word_at", none), "word_at", "word_at", defArgs s_pwordat, defBody s_pwordat, defScope s_pwordat, [], []⟩
def d_pturnsahead : He.DefD := ⟨("turns_ahead", none), "turns_ahead", "turns_ahead", defArgs s_pturnsahead, defBody s_pturnsahead, defScope s_pturnsahead, [], []⟩
def d_pringingsto : He.DefD := ⟨("ringings_to", none), "ringings_to", "ringings_to", defArgs s_pringingsto, defBody s_pringingsto, defScope s_pringingsto, [], []⟩
def d_pstepson : He.DefD := ⟨("steps_on", none), "steps_on", "steps_on", defArgs s_pstepson, defBody s_pstepson, defScope s_pstepson, [], []⟩
def d_pweigh : He.DefD := ⟨("weigh", none), "weigh", "weigh", defArgs s_pweigh, defBody s_pweigh, defScope s_pweigh, [], []⟩
def d_pdeepest : He.DefD := ⟨("deepest", none), "deepest", "deepest", defArgs s_pdeepest, defBody s_pdeepest, defScope s_pdeepest, [], []⟩
def d_ppaper : He.DefD := ⟨("paper", none), "paper", "paper", defArgs s_ppaper, defBody s_ppaper, defScope s_ppaper, [], []⟩
def d_draw : He.DefD := ⟨("_law_draw", none), "_law_draw", "_law_draw", defArgs s_draw, defBody s_draw, defScope s_draw, [], []⟩
def d_number : He.DefD := ⟨("_law_number", none), "_law_number", "_law_number", defArgs s_number, defBody s_number, defScope s_number, [], []⟩
def d_boxes : He.DefD := ⟨("_law_boxes", none), "_law_boxes", "_law_boxes", defArgs s_boxes, defBody s_boxes, defScope s_boxes, [], []⟩
def d_deed : He.DefD := ⟨("_law_deed", none), "_law_deed", "_law_deed", defArgs s_deed, defBody s_deed, defScope s_deed, [], []⟩
def d_rank : He.DefD := ⟨("_law_rank", none), "_law_rank", "_law_rank", defArgs s_rank, defBody s_rank, defScope s_rank, [], []⟩
def d_shut : He.DefD := ⟨("_law_shut", none), "_law_shut", "_law_shut", defArgs s_shut, defBody s_shut, defScope s_shut, [], []⟩
def d_program : He.DefD := ⟨("_law_program", none), "_law_program", "_law_program", defArgs s_program, defBody s_program, defScope s_program, [], []⟩
def d_turns : He.DefD := ⟨("_law_turns", none), "_law_turns", "_law_turns", defArgs s_turns, defBody s_turns, defScope s_turns, [], []⟩
def d_enters : He.DefD := ⟨("_law_enters", none), "_law_enters", "_law_enters", defArgs s_enters, defBody s_enters, defScope s_enters, [], []⟩
def d_cells : He.DefD := ⟨("_law_cells", none), "_law_cells", "_law_cells", defArgs s_cells, defBody s_cells, defScope s_cells, [], []⟩
def d_touched : He.DefD := ⟨("_law_touched", none), "_law_touched", "_law_touched", defArgs s_touched, defBody s_touched, defScope s_touched, [], []⟩
def d_step : He.DefD := ⟨("_law_step", none), "_law_step", "_law_step", defArgs s_step, defBody s_step, defScope s_step, [], []⟩
def d_turn : He.DefD := ⟨("_law_turn", none), "_law_turn", "_law_turn", defArgs s_turn, defBody s_turn, defScope s_turn, [], []⟩
def d_start : He.DefD := ⟨("_law_start", none), "_law_start", "_law_start", defArgs s_start, defBody s_start, defScope s_start, [], []⟩
def d_rests : He.DefD := ⟨("_law_rests", none), "_law_rests", "_law_rests", defArgs s_rests, defBody s_rests, defScope s_rests, [], []⟩
def d_ringings : He.DefD := ⟨("_law_ringings", none), "_law_ringings", "_law_ringings", defArgs s_ringings, defBody s_ringings, defScope s_ringings, [], []⟩
def d_goes : He.DefD := ⟨("_law_goes", none), "_law_goes", "_law_goes", defArgs s_goes, defBody s_goes, defScope s_goes, [], []⟩
def d_law : He.DefD := ⟨("law", none), "law", "law", defArgs s_law, defBody s_law, defScope s_law, [], []⟩
def dI_Put : He.DefD := ⟨("Put", some "__init__"), "__init__", "Deed.__init__", defArgs s_init, defBody s_init, defScope s_init, [], []⟩
def dT_Put : He.DefD := ⟨("Put", some "turns"), "turns", "Put.turns", defArgs s_tPut, defBody s_tPut, defScope s_tPut, [], []⟩
def dO_Put : He.DefD := ⟨("Put", some "own"), "own", "Deed.own", defArgs s_own, defBody s_own, defScope s_own, [], []⟩
def dI_Copy : He.DefD := ⟨("Copy", some "__init__"), "__init__", "Deed.__init__", defArgs s_init, defBody s_init, defScope s_init, [], []⟩
def dT_Copy : He.DefD := ⟨("Copy", some "turns"), "turns", "Copy.turns", defArgs s_tCopy, defBody s_tCopy, defScope s_tCopy, [], []⟩
def dO_Copy : He.DefD := ⟨("Copy", some "own"), "own", "Deed.own", defArgs s_own, defBody s_own, defScope s_own, [], []⟩
def dI_Grow : He.DefD := ⟨("Grow", some "__init__"), "__init__", "Deed.__init__", defArgs s_init, defBody s_init, defScope s_init, [], []⟩
def dT_Grow : He.DefD := ⟨("Grow", some "turns"), "turns", "Grow.turns", defArgs s_tGrow, defBody s_tGrow, defScope s_tGrow, [], []⟩
def dO_Grow : He.DefD := ⟨("Grow", some "own"), "own", "Deed.own", defArgs s_own, defBody s_own, defScope s_own, [], []⟩
def dI_Tick : He.DefD := ⟨("Tick", some "__init__"), "__init__", "Deed.__init__", defArgs s_init, defBody s_init, defScope s_init, [], []⟩
def dT_Tick : He.DefD := ⟨("Tick", some "turns"), "turns", "Deed.turns", defArgs s_tDeed, defBody s_tDeed, defScope s_tDeed, [], []⟩
def dI_Still : He.DefD := ⟨("Still", some "__init__"), "__init__", "Deed.__init__", defArgs s_init, defBody s_init, defScope s_init, [], []⟩
def dT_Still : He.DefD := ⟨("Still", some "turns"), "turns", "Still.turns", defArgs s_tStill, defBody s_tStill, defScope s_tStill, [], []⟩
def dI_Held : He.DefD := ⟨("Held", some "__init__"), "__init__", "Deed.__init__", defArgs s_init, defBody s_init, defScope s_init, [], []⟩
def dT_Held : He.DefD := ⟨("Held", some "turns"), "turns", "Deed.turns", defArgs s_tDeed, defBody s_tDeed, defScope s_tDeed, [], []⟩
def dI_Alone : He.DefD := ⟨("Alone", some "__init__"), "__init__", "Deed.__init__", defArgs s_init, defBody s_init, defScope s_init, [], []⟩
def dT_Alone : He.DefD := ⟨("Alone", some "turns"), "turns", "Deed.turns", defArgs s_tDeed, defBody s_tDeed, defScope s_tDeed, [], []⟩
def dI_Anew : He.DefD := ⟨("Anew", some "__init__"), "__init__", "Deed.__init__", defArgs s_init, defBody s_init, defScope s_init, [], []⟩
def dT_Anew : He.DefD := ⟨("Anew", some "turns"), "turns", "Anew.turns", defArgs s_tAnew, defBody s_tAnew, defScope s_tAnew, [], []⟩
def dO_Anew : He.DefD := ⟨("Anew", some "own"), "own", "Deed.own", defArgs s_own, defBody s_own, defScope s_own, [], []⟩
def fnA : List He.DefD := [d_psizeof, d_pcellsof, d_pdeedof, d_pwordat, d_pturnsahead, d_pringingsto, d_pstepson, d_pweigh, d_pdeepest, d_ppaper, d_draw, d_number, d_boxes, d_deed, d_rank, d_shut, d_program, d_turns, d_enters, d_cells, d_touched, d_step, d_turn, d_start, d_rests, d_ringings, d_goes, d_law, dI_Put, dT_Put, dO_Put, dI_Copy, dT_Copy, dO_Copy, dI_Grow, dT_Grow, dO_Grow, dI_Tick, dT_Tick, dI_Still, dT_Still, dI_Held, dT_Held, dI_Alone, dT_Alone, dI_Anew, dT_Anew, dO_Anew]
def faA : List He.Fa := [.glo "size_of", .glo "cells_of", .glo "deed_of", .glo "word_at", .glo "turns_ahead", .glo "ringings_to", .glo "steps_on", .glo "weigh", .glo "deepest", .glo "paper", .glo "_law_draw", .glo "_law_number", .glo "_law_boxes", .glo "_law_deed", .glo "_law_rank", .glo "_law_shut", .glo "_law_program", .glo "_law_turns", .glo "_law_enters", .glo "_law_cells", .glo "_law_touched", .glo "_law_step", .glo "_law_turn", .glo "_law_start", .glo "_law_rests", .glo "_law_ringings", .glo "_law_goes", .glo "law", .free "len", .free "sum", .free "min", .free "tuple", .free "list", .free "range", .glo "Put", .cls "Put", .mkr "Put", .meth "Put" "turns", .noat "Put" "boxes", .noat "Put" "deed", .meth "Put" "own", .glo "Copy", .cls "Copy", .mkr "Copy", .meth "Copy" "turns", .noat "Copy" "boxes", .noat "Copy" "deed", .meth "Copy" "own", .glo "Grow", .cls "Grow", .mkr "Grow", .meth "Grow" "turns", .noat "Grow" "boxes", .noat "Grow" "deed", .meth "Grow" "own", .glo "Tick", .cls "Tick", .mkr "Tick", .meth "Tick" "turns", .noat "Tick" "boxes", .noat "Tick" "deed", .glo "Still", .cls "Still", .mkr "Still", .meth "Still" "turns", .noat "Still" "boxes", .noat "Still" "deed", .glo "Held", .cls "Held", .mkr "Held", .meth "Held" "turns", .noat "Held" "boxes", .noat "Held" "deed", .glo "Alone", .cls "Alone", .mkr "Alone", .meth "Alone" "turns", .noat "Alone" "boxes", .noat "Alone" "deed", .glo "Anew", .cls "Anew", .mkr "Anew", .meth "Anew" "turns", .noat "Anew" "boxes", .noat "Anew" "deed", .meth "Anew" "own"]
def looseA : List Str := [("_wall" : Str), ("size_of" : Str), ("cells_of" : Str), ("Deed" : Str), ("Put" : Str), ("Copy" : Str), ("Grow" : Str), ("Tick" : Str), ("Still" : Str), ("Promise" : Str), ("Held" : Str), ("Alone" : Str), ("Anew" : Str), ("deed_of" : Str), ("word_at" : Str), ("BellError" : Str), ("NoNest" : Str), ("turns_ahead" : Str), ("ringings_to" : Str), ("steps_on" : Str), ("weigh" : Str), ("deepest" : Str), ("paper" : Str), ("_law_draw" : Str), ("_law_number" : Str), ("_law_boxes" : Str), ("_law_deed" : Str), ("_law_rank" : Str), ("_law_shut" : Str), ("_law_program" : Str), ("_law_turns" : Str), ("_law_enters" : Str), ("_law_cells" : Str), ("_law_touched" : Str), ("_law_step" : Str), ("_law_turn" : Str), ("_law_start" : Str), ("_law_rests" : Str), ("_law_ringings" : Str), ("_law_goes" : Str)]
abbrev RA : PySem.W.OpenRow := PySem.W.OpenLaw.row PySem.Challenge.rw_bellnest_k35_whole_runs_keep_to_the_pape
abbrev hkA : PySem.W.Hook := He.hookD 5 faA fnA
def obA (s : PySem.W.SharedT) : He.AlD := He.obsDG 5 faA fnA (HandSHeadRun.getT s)
theorem obA_eq (s : PySem.W.SharedT) : obA s = hkA.obs s.abs := He.obsDG_eq (HandSHeadRun.getT_eq s)
theorem runA (w : World) : HandSHeadRun.RunEq RA (PySem.W.view RA.prog [47]) hkA obA 12000 looseA w := by
  intro os
  kernel_rfl
end Bn
set_option Elab.async false
set_option linter.all false
set_option maxRecDepth 100000
set_option maxHeartbeats 0
namespace Bn
open PySem PySem.Spec PyProof.Rows L2 Evl
section
variable {P : Program} {w : World} {K : PySem.W.Frag} {h : Heap} {mg : Str → Option Value}
theorem kls_Put (X : K.In h) (G : h.Ns mainGlobals mg) (c : He.SaysD faA fnA K) {base : Heap} (hpcellsof : Has P w K mg base 2 "cells_of" p_pcellsof (sp_pcellsof K)) : Kls P w K mg base "Put" := by
  have cl := He.cls_ok (c.fact 35 (f := .cls "Put") rfl)
  have n1 := He.noat_ok (c.fact 38 (f := .noat "Put" "boxes") rfl)
  have n2 := He.noat_ok (c.fact 39 (f := .noat "Put" "deed") rfl)
  obtain ⟨fi, FI⟩ := c.def_ 28 (d := dI_Put) rfl
  obtain ⟨ft, FT⟩ := c.def_ 29 (d := dT_Put) rfl
  have bI : Binds K fi n_init [] := FunD.bindsN FI fun _ _ _ _ _ _ us hl => match us, hl with | [_, _, _], _ => rfl
  have bT : Binds K ft n_mturns [] := FunD.bindsN FT fun _ _ _ _ _ _ us hl => match us, hl with | [_], _ => rfl
  obtain ⟨fo, FO⟩ := c.def_ 30 (d := dO_Put) rfl
  have bO : Binds K fo n_own [] := FunD.bindsN FO fun _ _ _ _ _ _ us hl => match us, hl with | [_, _], _ => rfl
  have O : OwnP P w K mg base (He.ga K "Put") := ⟨cl, _, fo, He.meth_ok (c.fact 40 (f := .meth "Put" "own") rfl), ok_own FO cl n1 n2 hpcellsof, bO⟩
  exact ⟨(He.glo_ok X G (c.fact 34 (f := .glo "Put") rfl)), cl, ⟨_, fi, He.mkr_ok (c.fact 36 (f := .mkr "Put") rfl), ok_init FI cl n1 n2, bI⟩, ⟨_, ft, He.meth_ok (c.fact 37 (f := .meth "Put" "turns") rfl), ok_tPut FT O (He.free_ok X G (c.fact 28 (f := .free "len") rfl)), bT⟩⟩
theorem kls_Copy (X : K.In h) (G : h.Ns mainGlobals mg) (c : He.SaysD faA fnA K) {base : Heap} (hpcellsof : Has P w K mg base 2 "cells_of" p_pcellsof (sp_pcellsof K)) : Kls P w K mg base "Copy" := by
  have cl := He.cls_ok (c.fact 42 (f := .cls "Copy") rfl)
  have n1 := He.noat_ok (c.fact 45 (f := .noat "Copy" "boxes") rfl)
  have n2 := He.noat_ok (c.fact 46 (f := .noat "Copy" "deed") rfl)
  obtain ⟨fi, FI⟩ := c.def_ 31 (d := dI_Copy) rfl
  obtain ⟨ft, FT⟩ := c.def_ 32 (d := dT_Copy) rfl
  have bI : Binds K fi n_init [] := FunD.bindsN FI fun _ _ _ _ _ _ us hl => match us, hl with | [_, _, _], _ => rfl
  have bT : Binds K ft n_mturns [] := FunD.bindsN FT fun _ _ _ _ _ _ us hl => match us, hl with | [_], _ => rfl
  obtain ⟨fo, FO⟩ := c.def_ 33 (d := dO_Copy) rfl
  have bO : Binds K fo n_own [] := FunD.bindsN FO fun _ _ _ _ _ _ us hl => match us, hl with | [_, _], _ => rfl
  have O : OwnP P w K mg base (He.ga K "Copy") := ⟨cl, _, fo, He.meth_ok (c.fact 47 (f := .meth "Copy" "own") rfl), ok_own FO cl n1 n2 hpcellsof, bO⟩
  exact ⟨(He.glo_ok X G (c.fact 41 (f := .glo "Copy") rfl)), cl, ⟨_, fi, He.mkr_ok (c.fact 43 (f := .mkr "Copy") rfl), ok_init FI cl n1 n2, bI⟩, ⟨_, ft, He.meth_ok (c.fact 44 (f := .meth "Copy" "turns") rfl), ok_tCopy FT O (He.free_ok X G (c.fact 28 (f := .free "len") rfl)), bT⟩⟩
theorem kls_Grow (X : K.In h) (G : h.Ns mainGlobals mg) (c : He.SaysD faA fnA K) {base : Heap} (hpcellsof : Has P w K mg base 2 "cells_of" p_pcellsof (sp_pcellsof K)) : Kls P w K mg base "Grow" := by
  have cl := He.cls_ok (c.fact 49 (f := .cls "Grow") rfl)
  have n1 := He.noat_ok (c.fact 52 (f := .noat "Grow" "boxes") rfl)
  have n2 := He.noat_ok (c.fact 53 (f := .noat "Grow" "deed") rfl)
  obtain ⟨fi, FI⟩ := c.def_ 34 (d := dI_Grow) rfl
  obtain ⟨ft, FT⟩ := c.def_ 35 (d := dT_Grow) rfl
  have bI : Binds K fi n_init [] := FunD.bindsN FI fun _ _ _ _ _ _ us hl => match us, hl with | [_, _, _], _ => rfl
  have bT : Binds K ft n_mturns [] := FunD.bindsN FT fun _ _ _ _ _ _ us hl => match us, hl with | [_], _ => rfl
  obtain ⟨fo, FO⟩ := c.def_ 36 (d := dO_Grow) rfl
  have bO : Binds K fo n_own [] := FunD.bindsN FO fun _ _ _ _ _ _ us hl => match us, hl with | [_, _], _ => rfl
  have O : OwnP P w K mg base (He.ga K "Grow") := ⟨cl, _, fo, He.meth_ok (c.fact 54 (f := .meth "Grow" "own") rfl), ok_own FO cl n1 n2 hpcellsof, bO⟩
  exact ⟨(He.glo_ok X G (c.fact 48 (f := .glo "Grow") rfl)), cl, ⟨_, fi, He.mkr_ok (c.fact 50 (f := .mkr "Grow") rfl), ok_init FI cl n1 n2, bI⟩, ⟨_, ft, He.meth_ok (c.fact 51 (f := .meth "Grow" "turns") rfl), ok_tGrow FT O (He.free_ok X G (c.fact 28 (f := .free "len") rfl)), bT⟩⟩
theorem kls_Tick (X : K.In h) (G : h.Ns mainGlobals mg) (c : He.SaysD faA fnA K) {base : Heap} (hpcellsof : Has P w K mg base 2 "cells_of" p_pcellsof (sp_pcellsof K)) : Kls P w K mg base "Tick" := by
  have cl := He.cls_ok (c.fact 56 (f := .cls "Tick") rfl)
  have n1 := He.noat_ok (c.fact 59 (f := .noat "Tick" "boxes") rfl)
  have n2 := He.noat_ok (c.fact 60 (f := .noat "Tick" "deed") rfl)
  obtain ⟨fi, FI⟩ := c.def_ 37 (d := dI_Tick) rfl
  obtain ⟨ft, FT⟩ := c.def_ 38 (d := dT_Tick) rfl
  have bI : Binds K fi n_init [] := FunD.bindsN FI fun _ _ _ _ _ _ us hl => match us, hl with | [_, _, _], _ => rfl
  have bT : Binds K ft n_mturns [] := FunD.bindsN FT fun _ _ _ _ _ _ us hl => match us, hl with | [_], _ => rfl
  exact ⟨(He.glo_ok X G (c.fact 55 (f := .glo "Tick") rfl)), cl, ⟨_, fi, He.mkr_ok (c.fact 57 (f := .mkr "Tick") rfl), ok_init FI cl n1 n2, bI⟩, ⟨_, ft, He.meth_ok (c.fact 58 (f := .meth "Tick" "turns") rfl), ok_tDeed (by decide) FT, bT⟩⟩
theorem kls_Still (X : K.In h) (G : h.Ns mainGlobals mg) (c : He.SaysD faA fnA K) {base : Heap} (hpcellsof : Has P w K mg base 2 "cells_of" p_pcellsof (sp_pcellsof K)) : Kls P w K mg base "Still" := by
  have cl := He.cls_ok (c.fact 62 (f := .cls "Still") rfl)
  have n1 := He.noat_ok (c.fact 65 (f := .noat "Still" "boxes") rfl)
  have n2 := He.noat_ok (c.fact 66 (f := .noat "Still" "deed") rfl)
  obtain ⟨fi, FI⟩ := c.def_ 39 (d := dI_Still) rfl
  obtain ⟨ft, FT⟩ := c.def_ 40 (d := dT_Still) rfl
  have bI : Binds K fi n_init [] := FunD.bindsN FI fun _ _ _ _ _ _ us hl => match us, hl with | [_, _, _], _ => rfl
  have bT : Binds K ft n_mturns [] := FunD.bindsN FT fun _ _ _ _ _ _ us hl => match us, hl with | [_], _ => rfl
  exact ⟨(He.glo_ok X G (c.fact 61 (f := .glo "Still") rfl)), cl, ⟨_, fi, He.mkr_ok (c.fact 63 (f := .mkr "Still") rfl), ok_init FI cl n1 n2, bI⟩, ⟨_, ft, He.meth_ok (c.fact 64 (f := .meth "Still" "turns") rfl), ok_tStill FT cl n2, bT⟩⟩
theorem kls_Held (X : K.In h) (G : h.Ns mainGlobals mg) (c : He.SaysD faA fnA K) {base : Heap} (hpcellsof : Has P w K mg base 2 "cells_of" p_pcellsof (sp_pcellsof K)) : Kls P w K mg base "Held" := by
  have cl := He.cls_ok (c.fact 68 (f := .cls "Held") rfl)
  have n1 := He.noat_ok (c.fact 71 (f := .noat "Held" "boxes") rfl)
  have n2 := He.noat_ok (c.fact 72 (f := .noat "Held" "deed") rfl)
  obtain ⟨fi, FI⟩ := c.def_ 41 (d := dI_Held) rfl
  obtain ⟨ft, FT⟩ := c.def_ 42 (d := dT_Held) rfl
  have bI : Binds K fi n_init [] := FunD.bindsN FI fun _ _ _ _ _ _ us hl => match us, hl with | [_, _, _], _ => rfl
  have bT : Binds K ft n_mturns [] := FunD.bindsN FT fun _ _ _ _ _ _ us hl => match us, hl with | [_], _ => rfl
  exact ⟨(He.glo_ok X G (c.fact 67 (f := .glo "Held") rfl)), cl, ⟨_, fi, He.mkr_ok (c.fact 69 (f := .mkr "Held") rfl), ok_init FI cl n1 n2, bI⟩, ⟨_, ft, He.meth_ok (c.fact 70 (f := .meth "Held" "turns") rfl), ok_tDeed (by decide) FT, bT⟩⟩
theorem kls_Alone (X : K.In h) (G : h.Ns mainGlobals mg) (c : He.SaysD faA fnA K) {base : Heap} (hpcellsof : Has P w K mg base 2 "cells_of" p_pcellsof (sp_pcellsof K)) : Kls P w K mg base "Alone" := by
  have cl := He.cls_ok (c.fact 74 (f := .cls "Alone") rfl)
  have n1 := He.noat_ok (c.fact 77 (f := .noat "Alone" "boxes") rfl)
  have n2 := He.noat_ok (c.fact 78 (f := .noat "Alone" "deed") rfl)
  obtain ⟨fi, FI⟩ := c.def_ 43 (d := dI_Alone) rfl
  obtain ⟨ft, FT⟩ := c.def_ 44 (d := dT_Alone) rfl
  have bI : Binds K fi n_init [] := FunD.bindsN FI fun _ _ _ _ _ _ us hl => match us, hl with | [_, _, _], _ => rfl
  have bT : Binds K ft n_mturns [] := FunD.bindsN FT fun _ _ _ _ _ _ us hl => match us, hl with | [_], _ => rfl
  exact ⟨(He.glo_ok X G (c.fact 73 (f := .glo "Alone") rfl)), cl, ⟨_, fi, He.mkr_ok (c.fact 75 (f := .mkr "Alone") rfl), ok_init FI cl n1 n2, bI⟩, ⟨_, ft, He.meth_ok (c.fact 76 (f := .meth "Alone" "turns") rfl), ok_tDeed (by decide) FT, bT⟩⟩
theorem kls_Anew (X : K.In h) (G : h.Ns mainGlobals mg) (c : He.SaysD faA fnA K) {base : Heap} (hpcellsof : Has P w K mg base 2 "cells_of" p_pcellsof (sp_pcellsof K)) : Kls P w K mg base "Anew" := by
  have cl := He.cls_ok (c.fact 80 (f := .cls "Anew") rfl)
  have n1 := He.noat_ok (c.fact 83 (f := .noat "Anew" "boxes") rfl)
  have n2 := He.noat_ok (c.fact 84 (f := .noat "Anew" "deed") rfl)
  obtain ⟨fi, FI⟩ := c.def_ 45 (d := dI_Anew) rfl
  obtain ⟨ft, FT⟩ := c.def_ 46 (d := dT_Anew) rfl
  have bI : Binds K fi n_init [] := FunD.bindsN FI fun _ _ _ _ _ _ us hl => match us, hl with | [_, _, _], _ => rfl
  have bT : Binds K ft n_mturns [] := FunD.bindsN FT fun _ _ _ _ _ _ us hl => match us, hl with | [_], _ => rfl
  obtain ⟨fo, FO⟩ := c.def_ 47 (d := dO_Anew) rfl
  have bO : Binds K fo n_own [] := FunD.bindsN FO fun _ _ _ _ _ _ us hl => match us, hl with | [_, _], _ => rfl
  have O : OwnP P w K mg base (He.ga K "Anew") := ⟨cl, _, fo, He.meth_ok (c.fact 85 (f := .meth "Anew" "own") rfl), ok_own FO cl n1 n2 hpcellsof, bO⟩
  exact ⟨(He.glo_ok X G (c.fact 79 (f := .glo "Anew") rfl)), cl, ⟨_, fi, He.mkr_ok (c.fact 81 (f := .mkr "Anew") rfl), ok_init FI cl n1 n2, bI⟩, ⟨_, ft, He.meth_ok (c.fact 82 (f := .meth "Anew" "turns") rfl), ok_tAnew FT O (He.free_ok X G (c.fact 28 (f := .free "len") rfl)), bT⟩⟩
theorem facts {f : Addr} (X : K.In h) (G : h.Ns mainGlobals mg) (hfa : mg ("law" : Str) = some (.ref f)) (c : He.SaysD faA fnA K) :
    ∃ fd : FuncData, (∀ (s : Shared) (v : Value), BindsTo s fd ⟨[v], []⟩ [("_law_script", v)]) ∧ ∀ base : Heap, K.In base → base.Ns mainGlobals mg → FnOk P w K mg base CX0 15 f fd ["_law_script"] (sp_law K) := by
  have e := hfa.symm.trans (He.glo_ok X G (c.fact 27 (f := .glo "law") rfl))
  cases e
  obtain ⟨fd, F⟩ := c.def_ 27 (d := d_law) rfl
  have b := FunD.bindsA (ps := ["_law_script"]) F fun _ _ _ _ _ _ us hl => match us, hl with | [_], _ => rfl
  refine ⟨fd, fun s v => b s [v] rfl, fun base _ _ => ?_⟩
  have zLen := He.free_ok X G (c.fact 28 (f := .free "len") rfl)
  have zSum := He.free_ok X G (c.fact 29 (f := .free "sum") rfl)
  have zMin := He.free_ok X G (c.fact 30 (f := .free "min") rfl)
  have zTuple := He.free_ok X G (c.fact 31 (f := .free "tuple") rfl)
  have zList := He.free_ok X G (c.fact 32 (f := .free "list") rfl)
  have zRange := He.free_ok X G (c.fact 33 (f := .free "range") rfl)
  have hpsizeof : Has P w K mg base 1 "size_of" p_psizeof (sp_psizeof K) := by
    obtain ⟨fd, F⟩ := c.def_ 0 (d := d_psizeof) rfl
    have b : Binds K fd p_psizeof [] := FunD.bindsN F fun _ _ _ _ _ _ us hl => match us, hl with | [_, _], _ => rfl
    exact ⟨_, fd, (He.glo_ok X G (c.fact 0 (f := .glo "size_of") rfl)), FunD.kp F, b, ok_psizeof F zLen⟩
  have hpcellsof : Has P w K mg base 2 "cells_of" p_pcellsof (sp_pcellsof K) := by
    obtain ⟨fd, F⟩ := c.def_ 1 (d := d_pcellsof) rfl
    have b : Binds K fd p_pcellsof [] := FunD.bindsN F fun _ _ _ _ _ _ us hl => match us, hl with | [_, _], _ => rfl
    exact ⟨_, fd, (He.glo_ok X G (c.fact 1 (f := .glo "cells_of") rfl)), FunD.kp F, b, ok_pcellsof F hpsizeof zRange zSum⟩
  have hK : ∀ n ∈ names8, Kls P w K mg base n := fun n hn => by
    simp only [names8, List.mem_cons, List.not_mem_nil, or_false] at hn
    rcases hn with rfl | rfl | rfl | rfl | rfl | rfl | rfl | rfl
    · exact kls_Put X G c hpcellsof
    · exact kls_Copy X G c hpcellsof
    · exact kls_Grow X G c hpcellsof
    · exact kls_Tick X G c hpcellsof
    · exact kls_Still X G c hpcellsof
    · exact kls_Held X G c hpcellsof
    · exact kls_Alone X G c hpcellsof
    · exact kls_Anew X G c hpcellsof
  have hpwordat : Has P w K mg base 1 "word_at" p_pwordat (sp_pwordat K) := by
    obtain ⟨fd, F⟩ := c.def_ 3 (d := d_pwordat) rfl
    have b : Binds K fd p_pwordat [] := FunD.bindsN F fun _ _ _ _ _ _ us hl => match us, hl with | [_, _, _], _ => rfl
    exact ⟨_, fd, (He.glo_ok X G (c.fact 3 (f := .glo "word_at") rfl)), FunD.kp F, b, ok_pwordat F zLen⟩
  have hpdeedof : Has P w K mg base 3 "deed_of" p_pdeedof (sp_pdeedof K) := by
    obtain ⟨fd, F⟩ := c.def_ 2 (d := d_pdeedof) rfl
    have b : Binds K fd p_pdeedof [] := FunD.bindsN F fun _ _ _ _ _ _ us hl => match us, hl with | [_, _], _ => rfl
    exact ⟨_, fd, (He.glo_ok X G (c.fact 2 (f := .glo "deed_of") rfl)), FunD.kp F, b, ok_pdeedof F hK⟩
  have hpturnsahead : Has P w K mg base 5 "turns_ahead" p_pturnsahead (sp_pturnsahead K) := by
    obtain ⟨fd, F⟩ := c.def_ 4 (d := d_pturnsahead) rfl
    have b : Binds K fd p_pturnsahead [] := FunD.bindsN F fun _ _ _ _ _ _ us hl => match us, hl with | [_, _], _ => rfl
    exact ⟨_, fd, (He.glo_ok X G (c.fact 4 (f := .glo "turns_ahead") rfl)), FunD.kp F, b, ok_pturnsahead F hK hpdeedof⟩
  have hpringingsto : Has P w K mg base 6 "ringings_to" p_pringingsto (sp_pringingsto K) := by
    obtain ⟨fd, F⟩ := c.def_ 5 (d := d_pringingsto) rfl
    have b : Binds K fd p_pringingsto [] := FunD.bindsN F fun _ _ _ _ _ _ us hl => match us, hl with | [_, _], _ => rfl
    exact ⟨_, fd, (He.glo_ok X G (c.fact 5 (f := .glo "ringings_to") rfl)), FunD.kp F, b, ok_pringingsto F hpturnsahead hpwordat⟩
  have hpstepson : Has P w K mg base 2 "steps_on" p_pstepson (sp_pstepson K) := by
    obtain ⟨fd, F⟩ := c.def_ 6 (d := d_pstepson) rfl
    have b : Binds K fd p_pstepson [] := FunD.bindsN F fun _ _ _ _ _ _ us hl => match us, hl with | [_, _, _], _ => rfl
    exact ⟨_, fd, (He.glo_ok X G (c.fact 6 (f := .glo "steps_on") rfl)), FunD.kp F, b, ok_pstepson F hpwordat zLen zRange⟩
  have hpweigh : Has P w K mg base 13 "weigh" p_pweigh (sp_pweigh K) := by
    obtain ⟨fd, F⟩ := c.def_ 7 (d := d_pweigh) rfl
    have b : Binds K fd p_pweigh [] := FunD.bindsN F fun _ _ _ _ _ _ us hl => match us, hl with | [_, _, _, _], _ => rfl
    exact ⟨_, fd, (He.glo_ok X G (c.fact 7 (f := .glo "weigh") rfl)), FunD.kp F, b, ok_pweigh F (He.glo_ok X G (c.fact 7 (f := .glo "weigh") rfl)) b hpstepson 10⟩
  have hpdeepest : Has P w K mg base 14 "deepest" p_pdeepest (sp_pdeepest K) := by
    obtain ⟨fd, F⟩ := c.def_ 8 (d := d_pdeepest) rfl
    have b : Binds K fd p_pdeepest [] := FunD.bindsN F fun _ _ _ _ _ _ us hl => match us, hl with | [_], _ => rfl
    exact ⟨_, fd, (He.glo_ok X G (c.fact 8 (f := .glo "deepest") rfl)), FunD.kp F, b, ok_pdeepest F hpringingsto hpweigh⟩
  have hppaper : Has P w K mg base 14 "paper" p_ppaper (sp_ppaper K) := by
    obtain ⟨fd, F⟩ := c.def_ 9 (d := d_ppaper) rfl
    have b : Binds K fd p_ppaper [] := FunD.bindsN F fun _ _ _ _ _ _ us hl => match us, hl with | [_], _ => rfl
    exact ⟨_, fd, (He.glo_ok X G (c.fact 9 (f := .glo "paper") rfl)), FunD.kp F, b, ok_ppaper F hpweigh⟩
  have hdraw : Has P w K mg base 1 "_law_draw" p_draw (sp_draw K) := by
    obtain ⟨fd, F⟩ := c.def_ 10 (d := d_draw) rfl
    have b : Binds K fd p_draw [] := FunD.bindsN F fun _ _ _ _ _ _ us hl => match us, hl with | [_, _, _], _ => rfl
    exact ⟨_, fd, (He.glo_ok X G (c.fact 10 (f := .glo "_law_draw") rfl)), FunD.kp F, b, ok_draw F zLen⟩
  have hnumber : Has P w K mg base 2 "_law_number" p_number (sp_number K) := by
    obtain ⟨fd, F⟩ := c.def_ 11 (d := d_number) rfl
    have b : Binds K fd p_number [] := FunD.bindsN F fun _ _ _ _ _ _ us hl => match us, hl with | [_, _], _ => rfl
    exact ⟨_, fd, (He.glo_ok X G (c.fact 11 (f := .glo "_law_number") rfl)), FunD.kp F, b, ok_number F hdraw⟩
  have hboxes : Has P w K mg base 3 "_law_boxes" p_boxes (sp_boxes K) := by
    obtain ⟨fd, F⟩ := c.def_ 12 (d := d_boxes) rfl
    have b : Binds K fd p_boxes [] := FunD.bindsN F fun _ _ _ _ _ _ us hl => match us, hl with | [_], _ => rfl
    exact ⟨_, fd, (He.glo_ok X G (c.fact 12 (f := .glo "_law_boxes") rfl)), FunD.kp F, b, ok_boxes F hdraw hnumber zRange zTuple⟩
  have hdeed : Has P w K mg base 3 "_law_deed" p_deed (sp_deed K) := by
    obtain ⟨fd, F⟩ := c.def_ 13 (d := d_deed) rfl
    have b : Binds K fd p_deed [] := FunD.bindsN F fun _ _ _ _ _ _ us hl => match us, hl with | [_, _, _], _ => rfl
    exact ⟨_, fd, (He.glo_ok X G (c.fact 13 (f := .glo "_law_deed") rfl)), FunD.kp F, b, ok_deed F hdraw hnumber zLen zRange zTuple⟩
  have hrank : Has P w K mg base 2 "_law_rank" p_rank (sp_rank K) := by
    obtain ⟨fd, F⟩ := c.def_ 14 (d := d_rank) rfl
    have b : Binds K fd p_rank [] := FunD.bindsN F fun _ _ _ _ _ _ us hl => match us, hl with | [_, _], _ => rfl
    exact ⟨_, fd, (He.glo_ok X G (c.fact 14 (f := .glo "_law_rank") rfl)), FunD.kp F, b, ok_rank F hdraw⟩
  have hshut : Has P w K mg base 2 "_law_shut" p_shut (sp_shut K) := by
    obtain ⟨fd, F⟩ := c.def_ 15 (d := d_shut) rfl
    have b : Binds K fd p_shut [] := FunD.bindsN F fun _ _ _ _ _ _ us hl => match us, hl with | [_, _, _], _ => rfl
    exact ⟨_, fd, (He.glo_ok X G (c.fact 15 (f := .glo "_law_shut") rfl)), FunD.kp F, b, ok_shut F hdraw⟩
  have hprogram : Has P w K mg base 4 "_law_program" p_program (sp_program K) := by
    obtain ⟨fd, F⟩ := c.def_ 16 (d := d_program) rfl
    have b : Binds K fd p_program [] := FunD.bindsN F fun _ _ _ _ _ _ us hl => match us, hl with | [_, _], _ => rfl
    exact ⟨_, fd, (He.glo_ok X G (c.fact 16 (f := .glo "_law_program") rfl)), FunD.kp F, b, ok_program F hboxes hdeed hdraw hrank hshut zRange zTuple⟩
  have hturns : Has P w K mg base 1 "_law_turns" p_turns (sp_turns K) := by
    obtain ⟨fd, F⟩ := c.def_ 17 (d := d_turns) rfl
    have b : Binds K fd p_turns [] := FunD.bindsN F fun _ _ _ _ _ _ us hl => match us, hl with | [_, _], _ => rfl
    exact ⟨_, fd, (He.glo_ok X G (c.fact 17 (f := .glo "_law_turns") rfl)), FunD.kp F, b, ok_turns F zLen⟩
  have henters : Has P w K mg base 1 "_law_enters" p_enters (sp_enters K) := by
    obtain ⟨fd, F⟩ := c.def_ 18 (d := d_enters) rfl
    have b : Binds K fd p_enters [] := FunD.bindsN F fun _ _ _ _ _ _ us hl => match us, hl with | [_, _, _], _ => rfl
    exact ⟨_, fd, (He.glo_ok X G (c.fact 18 (f := .glo "_law_enters") rfl)), FunD.kp F, b, ok_enters F zLen zRange⟩
  have hcells : Has P w K mg base 1 "_law_cells" p_cells (sp_cells K) := by
    obtain ⟨fd, F⟩ := c.def_ 19 (d := d_cells) rfl
    have b : Binds K fd p_cells [] := FunD.bindsN F fun _ _ _ _ _ _ us hl => match us, hl with | [_, _], _ => rfl
    exact ⟨_, fd, (He.glo_ok X G (c.fact 19 (f := .glo "_law_cells") rfl)), FunD.kp F, b, ok_cells F zLen zRange zSum⟩
  have htouched : Has P w K mg base 2 "_law_touched" p_touched (sp_touched K) := by
    obtain ⟨fd, F⟩ := c.def_ 20 (d := d_touched) rfl
    have b : Binds K fd p_touched [] := FunD.bindsN F fun _ _ _ _ _ _ us hl => match us, hl with | [_, _, _], _ => rfl
    exact ⟨_, fd, (He.glo_ok X G (c.fact 20 (f := .glo "_law_touched") rfl)), FunD.kp F, b, ok_touched F hcells zLen⟩
  have hstep : Has P w K mg base 3 "_law_step" p_step (sp_step K) := by
    obtain ⟨fd, F⟩ := c.def_ 21 (d := d_step) rfl
    have b : Binds K fd p_step [] := FunD.bindsN F fun _ _ _ _ _ _ us hl => match us, hl with | [_, _, _, _], _ => rfl
    exact ⟨_, fd, (He.glo_ok X G (c.fact 21 (f := .glo "_law_step") rfl)), FunD.kp F, b, ok_step F htouched hturns zLen⟩
  have hturn : Has P w K mg base 4 "_law_turn" p_turn (sp_turn K) := by
    obtain ⟨fd, F⟩ := c.def_ 22 (d := d_turn) rfl
    have b : Binds K fd p_turn [] := FunD.bindsN F fun _ _ _ _ _ _ us hl => match us, hl with | [_, _, _], _ => rfl
    exact ⟨_, fd, (He.glo_ok X G (c.fact 22 (f := .glo "_law_turn") rfl)), FunD.kp F, b, ok_turn F henters hstep zLen⟩
  have hstart : Has P w K mg base 1 "_law_start" p_start (sp_start K) := by
    obtain ⟨fd, F⟩ := c.def_ 23 (d := d_start) rfl
    have b : Binds K fd p_start [] := FunD.bindsN F fun _ _ _ _ _ _ us hl => match us, hl with | [_], _ => rfl
    exact ⟨_, fd, (He.glo_ok X G (c.fact 23 (f := .glo "_law_start") rfl)), FunD.kp F, b, ok_start F zList⟩
  have hrests : Has P w K mg base 1 "_law_rests" p_rests (sp_rests K) := by
    obtain ⟨fd, F⟩ := c.def_ 24 (d := d_rests) rfl
    have b : Binds K fd p_rests [] := FunD.bindsN F fun _ _ _ _ _ _ us hl => match us, hl with | [_, _], _ => rfl
    exact ⟨_, fd, (He.glo_ok X G (c.fact 24 (f := .glo "_law_rests") rfl)), FunD.kp F, b, ok_rests F zLen⟩
  have hringings : Has P w K mg base 2 "_law_ringings" p_ringings (sp_ringings K) := by
    obtain ⟨fd, F⟩ := c.def_ 25 (d := d_ringings) rfl
    have b : Binds K fd p_ringings [] := FunD.bindsN F fun _ _ _ _ _ _ us hl => match us, hl with | [_, _], _ => rfl
    exact ⟨_, fd, (He.glo_ok X G (c.fact 25 (f := .glo "_law_ringings") rfl)), FunD.kp F, b, ok_ringings F hdraw zLen zMin zRange⟩
  have hgoes : Has P w K mg base 1 "_law_goes" p_goes (sp_goes K) := by
    obtain ⟨fd, F⟩ := c.def_ 26 (d := d_goes) rfl
    have b : Binds K fd p_goes [] := FunD.bindsN F fun _ _ _ _ _ _ us hl => match us, hl with | [_, _, _], _ => rfl
    exact ⟨_, fd, (He.glo_ok X G (c.fact 26 (f := .glo "_law_goes") rfl)), FunD.kp F, b, ok_goes F zLen zRange⟩
  exact ok_law F hdraw hgoes hprogram hrests hringings hstart hturn hpdeepest hppaper zLen
end
end Bn
open PySem PySem.W PySem.Calls PyProof.Rows
theorem PySem.Challenge.cw_bellnest_k35_whole_runs_keep_to_the_pape_holds : PySem.Challenge.rw_bellnest_k35_whole_runs_keep_to_the_pape.Holds := by
  w_on; o_law
  refine HandSHeadRun.head_any (r := OpenLaw.row PySem.Challenge.rw_bellnest_k35_whole_runs_keep_to_the_pape) (q := view (OpenLaw.row PySem.Challenge.rw_bellnest_k35_whole_runs_keep_to_the_pape).prog [47]) (H := Bn.hkA) (ob := Bn.obA) (M := 12000) (loose := Bn.looseA) (d := HandSHeadRun.topDef (OpenLaw.row PySem.Challenge.rw_bellnest_k35_whole_runs_keep_to_the_pape).prog 47) (kwd := []) Bn.obA_eq
    (by kernel_rfl) (fun s => by kernel_rfl) Bn.runA (by kernel_rfl) (by kernel_rfl) (by kernel_rfl) (by rfl) (by first | assumption | decide +kernel) (by decide +kernel) ⟨rfl, rfl, rfl, rfl, rfl, by decide +kernel⟩ ?hw ?hc
  case hw => w_witness2
  case hc =>
    refine L2.walk_ofE (l := PySem.Challenge.rw_bellnest_k35_whole_runs_keep_to_the_pape) (n := 63) (k := 15) (x := "_law_script") (CX := L2.CX0) rfl (by decide) (by kernel_rfl) ⟨rfl, by decide, by decide⟩ ?F (fun _ _ _ _ z => z)
    intro w mg fa h Y G hmg0
    obtain ⟨K, KX, c⟩ := Y
    have hmg : mg ("law" : PySem.Str) = some (.ref fa) := by
      have e : (HandSHeadRun.topDef (OpenLaw.row PySem.Challenge.rw_bellnest_k35_whole_runs_keep_to_the_pape).prog 47).name = ("law" : PySem.Str) := by kernel_rfl
      rw [← e]
      exact hmg0
    obtain ⟨fd, hb, hF⟩ := Bn.facts (P := (PySem.Challenge.rw_bellnest_k35_whole_runs_keep_to_the_pape).prog) (w := w) KX G hmg c
    exact ⟨K, fd, Bn.sp_law K, KX, hb, fun H a ns hl _ hS => ⟨rfl, a, ns, rfl, hS, hl, fun _ => rfl⟩, hF⟩

import PyProof.Rows.All
import Wide.All
import OpenK.AllK
import Wide.FinOn
import KE.KStateDown
import HandS.ForMost
import HandS.Exc
import HandS.TryOnly
import HandS.ExcOwn
import HandS.WordsExc
import HandS.Evl
import HandS.IsInst
import HandS.Style
import HandS.Conv
import HandS.Defaults
import HandS.Head0
import HandS.Head1
import HandS.Head2
import HandS.HeadEnd
import HandS.HeadHook1
import HandS.HeadHook2
import HandS.ExcCtx
import HandS.Hot
import HandS.HotCalls
import HandS.ExcIs
import PyProof.WalkLemmas
import HandS.Walk
import HandS.ExcInit
import HandS.Sort
import PySem.Challenge.RW_atmost_k02_whole_heights
set_option Elab.async false
set_option linter.all false
set_option maxRecDepth 100000
set_option maxHeartbeats 8000000
namespace Am
abbrev Say := Nat × Nat × Int
abbrev Sums := List (Option Int)
def z0 : Say := (0, 0, 0)
/-- what a saying asks of sums is not yet so -/
def slack (sums : Sums) (s : Say) : Bool :=
  match sums.getD s.1 none with
  | none => false
  | some x => match sums.getD s.2.1 none with
    | none => true
    | some y => decide (x + s.2.2 < y)
structure LSt where
  sums : Sums
  last : List Int
  ch : Int
def turn (st : LSt) (a : Nat) (s : Say) : LSt :=
  if slack st.sums s then ⟨st.sums.set s.2.1 (some ((st.sums.getD s.1 none).getD 0 + s.2.2)), st.last.set s.2.1 (a : Int), (s.2.1 : Int)⟩ else st
/-- a round as far as the i-th saying -/
def upTo (ss : List Say) (st : LSt) : Nat → LSt
  | 0 => st
  | i + 1 => turn (upTo ss st i) i (ss.getD i z0)
def round (ss : List Say) (st : LSt) : LSt := upTo ss { st with ch := -1 } ss.length
def rounds (ss : List Say) : Nat → LSt → LSt
  | 0, st => st
  | k + 1, st => if (round ss st).ch < 0 then { round ss st with ch := -1 } else rounds ss k (round ss st)
def lessened (ss : List Say) (sums : Sums) (last : List Int) : LSt := rounds ss (sums.length + 1) ⟨sums, last, 0⟩

def Ok (n : Nat) (ss : List Say) : Prop := ∀ s ∈ ss, s.1 < n ∧ s.2.1 < n
theorem Ok.get {n : Nat} {ss : List Say} (h : Ok n ss) {i : Nat} {s : Say} (e : ss[i]? = some s) : s.1 < n ∧ s.2.1 < n := h s (List.mem_of_getElem? e)

inductive Walk (ss : List Say) (last : List Int) : Nat → List Nat → Nat → Int → Prop
  | nil (v : Nat) : Walk ss last v [] v 0
  | step {v l u a : Nat} {m W : Int} {as : List Nat} : last.getD v (-1) = (a : Int) → ss[a]? = some (l, v, m) → Walk ss last l as u W → Walk ss last v (a :: as) u (W + m)

/-- relaxed: what the saying asks is so -/
theorem slack_false {sums : Sums} {l u : Nat} {m x : Int} (h : slack sums (l, u, m) = false) (e : sums.getD l none = some x) : ∃ y, sums.getD u none = some y ∧ y ≤ x + m := by
  unfold slack at h
  simp only [e] at h
  cases q : sums.getD u none with
  | none => rw [q] at h; simp at h
  | some y =>
    rw [q] at h
    simp at h
    exact ⟨y, rfl, by omega⟩
theorem slack_of {sums : Sums} {l u : Nat} {m x y : Int} (e : sums.getD l none = some x) (e2 : sums.getD u none = some y) (h : y ≤ x + m) : slack sums (l, u, m) = false := by
  unfold slack
  simp only [e, e2]
  simp
  omega
theorem slack_none {sums : Sums} {l u : Nat} {m : Int} (e : sums.getD l none = none) : slack sums (l, u, m) = false := by
  unfold slack
  simp only [e]
theorem slack_true {sums : Sums} {l u : Nat} {m : Int} (h : slack sums (l, u, m) = true) : ∃ x, sums.getD l none = some x ∧ (sums.getD u none = none ∨ ∃ y, sums.getD u none = some y ∧ x + m < y) := by
  unfold slack at h
  cases e : sums.getD l none with
  | none => rw [e] at h; simp at h
  | some x =>
    rw [e] at h
    refine ⟨x, rfl, ?_⟩
    cases q : sums.getD u none with
    | none => exact .inl rfl
    | some y =>
      rw [q] at h
      simp at h
      exact .inr ⟨y, rfl, h⟩

theorem getD_set {α : Type} {l : List α} {i j : Nat} {a d : α} (hi : i < l.length) : (l.set i a).getD j d = if j = i then a else l.getD j d := by
  rw [List.getD_eq_getElem?_getD, List.getD_eq_getElem?_getD]
  by_cases h : j = i
  · subst h
    rw [if_pos rfl, List.getElem?_set_self hi]
    rfl
  · rw [if_neg h, List.getElem?_set_ne (Ne.symm h)]

/-- the invariant: round r, j sayings of it done; t: the round in which a place was changed last -/
structure LInv (n : Nat) (ss : List Say) (S0 : Sums) (r j : Nat) (sums : Sums) (last : List Int) (t : Nat → Nat) : Prop where
  len : sums.length = n
  lenL : last.length = n
  lst : ∀ v, v < n → last.getD v (-1) = -1 ∨ ∃ a : Nat, last.getD v (-1) = (a : Int)
  root : ∀ v, last.getD v (-1) = -1 → t v = 0 ∧ sums.getD v none = S0.getD v none
  par : ∀ v (a : Nat), last.getD v (-1) = (a : Int) → ∃ l m x y, ss[a]? = some (l, v, m) ∧ sums.getD l none = some x ∧ sums.getD v none = some y ∧ x + m ≤ y ∧ t v ≤ t l + 1 ∧ v < n
  tle : ∀ v, t v ≤ r
  rel : ∀ i s, ss[i]? = some s → (if i < j then t s.1 < r else t s.1 + 1 < r) → slack sums s = false
  neg : ∀ v a as W, Walk ss last v (a :: as) v W → W < 0
  mono : ∀ v x, S0.getD v none = some x → ∃ y, sums.getD v none = some y ∧ y ≤ x

section
variable {n : Nat} {ss : List Say} {S0 sums : Sums} {last : List Int} {r j : Nat} {t : Nat → Nat}

theorem LInv.walk (I : LInv n ss S0 r j sums last t) {v u : Nat} {as : List Nat} {W : Int} (w : Walk ss last v as u W) : ∀ y, sums.getD v none = some y → ∃ x, sums.getD u none = some x ∧ x + W ≤ y := by
  induction w with
  | nil v => intro y h; exact ⟨y, h, by omega⟩
  | step h1 h2 _ ih =>
    intro y h
    obtain ⟨l', m', x, y', e1, e2, e3, e4, _⟩ := I.par _ _ h1
    rw [h2] at e1
    cases e1
    rw [h] at e3
    cases e3
    obtain ⟨x', q1, q2⟩ := ih x e2
    exact ⟨x', q1, by omega⟩

theorem LInv.keep (I : LInv n ss S0 r j sums last t) {s : Say} (hs : ss[j]? = some s) (h : slack sums s = false) : LInv n ss S0 r (j + 1) sums last t := by
  refine ⟨I.len, I.lenL, I.lst, I.root, I.par, I.tle, fun i s' e q => ?_, I.neg, I.mono⟩
  by_cases hij : i = j
  · subst hij
    rw [hs] at e
    cases e
    exact h
  · refine I.rel i s' e ?_
    by_cases hlt : i < j
    · rw [if_pos hlt]
      rw [if_pos (by omega)] at q
      exact q
    · rw [if_neg hlt]
      rw [if_neg (by omega)] at q
      exact q

theorem LInv.change (ok : Ok n ss) (I : LInv n ss S0 r j sums last t) {l u : Nat} {m : Int} (hs : ss[j]? = some (l, u, m)) (h : slack sums (l, u, m) = true) (hr : 0 < r) :
    LInv n ss S0 r (j + 1) (sums.set u (some ((sums.getD l none).getD 0 + m))) (last.set u (j : Int)) (fun v => if v = u then r else t v) := by
  obtain ⟨x, hx, hu⟩ := slack_true h
  obtain ⟨hln, hun⟩ := ok.get hs
  simp only at hln hun
  have hus : u < sums.length := by rw [I.len]; exact hun
  have hul : u < last.length := by rw [I.lenL]; exact hun
  rw [hx]
  simp only [Option.getD_some]
  have gS : ∀ v, (sums.set u (some (x + m))).getD v none = if v = u then some (x + m) else sums.getD v none := fun v => getD_set hus
  have gL : ∀ v, (last.set u (j : Int)).getD v (-1) = if v = u then (j : Int) else last.getD v (-1) := fun v => getD_set hul
  -- the changed one's lower place was changed in this round or the one ahead
  have htl : r ≤ t l + 1 := by
    by_cases q : r ≤ t l + 1
    · exact q
    · have := I.rel j (l, u, m) hs (by rw [if_neg (Nat.lt_irrefl _)]; exact Nat.lt_of_not_le q)
      rw [this] at h
      cases h
  have dn : ∀ v y, sums.getD v none = some y → ∃ z, (sums.set u (some (x + m))).getD v none = some z ∧ z ≤ y := fun v y e => by
    rw [gS]
    by_cases hv : v = u
    · rw [if_pos hv]
      refine ⟨_, rfl, ?_⟩
      subst hv
      rcases hu with hu | ⟨y', hu, lt⟩
      · rw [hu] at e; cases e
      · rw [hu] at e; cases e; omega
    · rw [if_neg hv]
      exact ⟨y, e, Int.le_refl _⟩
  have par' : ∀ v (a : Nat), (last.set u (j : Int)).getD v (-1) = (a : Int) → ∃ l' m' x' y', ss[a]? = some (l', v, m') ∧ (sums.set u (some (x + m))).getD l' none = some x' ∧ (sums.set u (some (x + m))).getD v none = some y' ∧ x' + m' ≤ y' ∧ (if v = u then r else t v) ≤ (if l' = u then r else t l') + 1 ∧ v < n ∧ (l' = u → v ≠ u ∨ m' < 0 → x' + m' < y') ∧ (v = u → a = j) := fun v a e => by
    rw [gL] at e
    by_cases hv : v = u
    · rw [if_pos hv] at e
      have ej : j = a := by omega
      subst hv ej
      obtain ⟨z, hz, hzx⟩ := dn l x hx
      refine ⟨l, m, z, x + m, hs, hz, by rw [gS, if_pos rfl], by omega, ?_, hun, ?_, fun _ => rfl⟩
      · rw [if_pos rfl]
        by_cases hl : l = v
        · rw [if_pos hl]; omega
        · rw [if_neg hl]; exact htl
      · intro hl _
        subst hl
        rw [gS, if_pos rfl] at hz
        cases hz
        rcases hu with hu | ⟨y', hu, lt⟩
        · rw [hu] at hx; cases hx
        · rw [hu] at hx; cases hx; omega
    · rw [if_neg hv] at e
      obtain ⟨l', m', x', y', e1, e2, e3, e4, e5, e6⟩ := I.par v a e
      obtain ⟨z, hz, hzx⟩ := dn l' x' e2
      refine ⟨l', m', z, y', e1, hz, by rw [gS, if_neg hv]; exact e3, by omega, ?_, e6, ?_, fun q => absurd q hv⟩
      · rw [if_neg hv]
        by_cases hl : l' = u
        · rw [if_pos hl]
          have := I.tle v
          omega
        · rw [if_neg hl]; exact e5
      · intro hl _
        subst hl
        rw [gS, if_pos rfl] at hz
        cases hz
        rcases hu with hu | ⟨w, hu, lt⟩
        · rw [hu] at e2; cases e2
        · rw [hu] at e2; cases e2; omega
  -- in the new graph: strictly less along a walk that comes to u, else a walk of the old one
  have key : ∀ v as w W, Walk ss (last.set u (j : Int)) v as w W → ∀ y, (sums.set u (some (x + m))).getD v none = some y → ∃ z, (sums.set u (some (x + m))).getD w none = some z ∧
      (z + W < y ∨ (z + W ≤ y ∧ (as ≠ [] → w ≠ u) ∧ (v ≠ u → Walk ss last v as w W))) := by
    intro v as w W hw
    induction hw with
    | nil v => intro y hy; exact ⟨y, hy, .inr ⟨by omega, fun q => absurd rfl q, fun _ => .nil v⟩⟩
    | @step v l' w' a m' W as h1 h2 _ ih =>
      intro y hy
      obtain ⟨l2, m2, x', y', e1, e2, e3, e4, _, _, e7, e8⟩ := par' v a h1
      rw [h2] at e1
      cases e1
      rw [hy] at e3
      cases e3
      obtain ⟨z, hz, hq⟩ := ih x' e2
      refine ⟨z, hz, ?_⟩
      by_cases hl : l' = u
      · have st : x' + m' < y := by
          by_cases hv : v = u
          · -- a place above itself
            have ea := e8 hv
            subst ea
            rw [hs] at h2
            cases h2
            refine e7 hl (.inr ?_)
            subst hl
            rcases hu with hu | ⟨y', hu, lt⟩
            · rw [hu] at hx; cases hx
            · rw [hu] at hx; cases hx; omega
          · exact e7 hl (.inl hv)
        left
        rcases hq with hq | ⟨hq, _⟩ <;> omega
      · rcases hq with hq | ⟨hq, h3, h4⟩
        · left; omega
        · right
          refine ⟨by omega, fun _ => ?_, fun hv => ?_⟩
          · cases as with
            | nil =>
              have w0 := h4 hl
              cases w0
              exact hl
            | cons b bs => exact h3 (by simp)
          · rw [gL, if_neg hv] at h1
            exact .step h1 h2 (h4 hl)
  refine ⟨by rw [List.length_set]; exact I.len, by rw [List.length_set]; exact I.lenL, fun v hv => ?_, fun v e => ?_, fun v a e => ?_, fun v => ?_, fun i s e q => ?_, fun v a as W hw => ?_, fun v y e => ?_⟩
  · rw [gL]
    by_cases hvu : v = u
    · rw [if_pos hvu]; exact .inr ⟨j, rfl⟩
    · rw [if_neg hvu]; exact I.lst v hv
  · rw [gL] at e
    by_cases hvu : v = u
    · rw [if_pos hvu] at e; omega
    · rw [if_neg hvu] at e
      rw [gS, if_neg hvu]
      simp only [if_neg hvu]
      exact I.root v e
  · obtain ⟨l', m', x', y', e1, e2, e3, e4, e5, e6, _⟩ := par' v a e
    exact ⟨l', m', x', y', e1, e2, e3, e4, e5, e6⟩
  · by_cases hvu : v = u
    · simp only [if_pos hvu]; exact Nat.le_refl _
    · simp only [if_neg hvu]; exact I.tle v
  · -- relaxed ones
    obtain ⟨l', u', m'⟩ := s
    simp only at q
    by_cases hl : l' = u
    · rw [if_pos hl] at q
      split at q <;> omega
    · rw [if_neg hl] at q
      by_cases hij : i = j
      · subst hij
        rw [hs] at e
        cases e
        exact slack_of (by rw [gS, if_neg hl]; exact hx) (by rw [gS, if_pos rfl]) (Int.le_refl _)
      · have old := I.rel i (l', u', m') e (by
          by_cases hlt : i < j
          · rw [if_pos hlt]; rw [if_pos (by omega)] at q; exact q
          · rw [if_neg hlt]; rw [if_neg (by omega)] at q; exact q)
        cases hx' : sums.getD l' none with
        | none => exact slack_none (by rw [gS, if_neg hl]; exact hx')
        | some x' =>
          obtain ⟨y', hy', le⟩ := slack_false old hx'
          obtain ⟨z, hz, hzy⟩ := dn u' y' hy'
          exact slack_of (by rw [gS, if_neg hl]; exact hx') hz (by omega)
  · have hy : ∃ y, (sums.set u (some (x + m))).getD v none = some y := by
      cases hw with
      | step h1 h2 _ =>
        obtain ⟨_, _, _, y', _, _, e3, _⟩ := par' v a h1
        exact ⟨y', e3⟩
    obtain ⟨y, hy⟩ := hy
    obtain ⟨z, hz, hq⟩ := key v (a :: as) v W hw y hy
    rw [hy] at hz
    cases hz
    rcases hq with hq | ⟨hq, h3, h4⟩
    · omega
    · exact I.neg v a as W (h4 (h3 (by simp)))
  · obtain ⟨z, hz, le⟩ := I.mono v y e
    obtain ⟨z', hz', le'⟩ := dn v z hz
    exact ⟨z', hz', by omega⟩

/-- the next round -/
theorem LInv.next (I : LInv n ss S0 r ss.length sums last t) : LInv n ss S0 (r + 1) 0 sums last t := by
  refine ⟨I.len, I.lenL, I.lst, I.root, I.par, fun v => Nat.le_succ_of_le (I.tle v), fun i s e q => ?_, I.neg, I.mono⟩
  refine I.rel i s e ?_
  have hi := (List.getElem?_eq_some_iff.mp e).1
  rw [if_pos hi]
  rw [if_neg (by omega)] at q
  omega
end
end Am

namespace Am

def sayAt (ss : List Say) (a : Int) : Option Say := if 0 ≤ a then ss[a.toNat]? else none
def run (ss : List Say) : List Int → Nat → Int → Option (Nat × Int)
  | [], p, t => some (p, t)
  | a :: r, p, t => match sayAt ss a with
    | some (l, u, m) => if l = p then run ss r u (t + m) else none
    | none => none
def ends (q : Nat) : Option (Nat × Int) → Option Int
  | some (x, t) => if x = q then some t else none
  | none => none
/-- a chain's sum from p to q -/
def sumAlong (ss : List Say) (c : List Int) (p q : Nat) : Option Int := ends q (run ss c p 0)
def keeps (hs : List Int) (s : Say) : Bool := decide (hs.getD s.2.1 0 - hs.getD s.1 0 ≤ s.2.2)
def keepAll (n : Nat) (ss : List Say) (hs : List Int) : Bool := decide (hs.length = n) && ss.all (keeps hs)
def isRing (ss : List Say) (c : List Int) : Bool :=
  match c with
  | [] => false
  | a :: _ => match sayAt ss a with
    | some (l, _, _) => match sumAlong ss c l l with
      | some t => decide (t < 0)
      | none => false
    | none => false

theorem sayAt_nat (ss : List Say) (a : Nat) : sayAt ss (a : Int) = ss[a]? := by
  unfold sayAt
  rw [if_pos (Int.natCast_nonneg a)]
  simp
theorem run_cons (ss : List Say) (a : Int) (r : List Int) (p : Nat) (t : Int) : run ss (a :: r) p t = match sayAt ss a with
    | some (l, u, m) => if l = p then run ss r u (t + m) else none
    | none => none := rfl
theorem run_append (ss : List Say) : ∀ (c d : List Int) (p : Nat) (t : Int), run ss (c ++ d) p t = match run ss c p t with | some (x, t') => run ss d x t' | none => none
  | [], d, p, t => rfl
  | a :: r, d, p, t => by
    show run ss (a :: (r ++ d)) p t = _
    rw [run_cons, run_cons]
    cases h : sayAt ss a with
    | none => rfl
    | some s =>
      obtain ⟨l, u, m⟩ := s
      simp only
      by_cases q : l = p
      · rw [if_pos q, if_pos q]
        exact run_append ss r d u (t + m)
      · rw [if_neg q, if_neg q]
/-- a chain's numbers do not lean on where the sum begins -/
theorem run_shift (ss : List Say) : ∀ (c : List Int) (p : Nat) (t : Int), run ss c p t = (run ss c p 0).map fun x => (x.1, x.2 + t)
  | [], p, t => by show some (p, t) = some (p, 0 + t); rw [Int.zero_add]
  | a :: r, p, t => by
    unfold run
    cases h : sayAt ss a with
    | none => rfl
    | some s =>
      obtain ⟨l, u, m⟩ := s
      simp only
      by_cases q : l = p
      · rw [if_pos q, if_pos q, run_shift ss r u (t + m), run_shift ss r u (0 + m)]
        cases run ss r u 0 with
        | none => rfl
        | some x => simp; omega
      · rw [if_neg q, if_neg q]; rfl

section
variable {n : Nat} {ss : List Say} {S0 sums : Sums} {last : List Int} {r j : Nat} {t : Nat → Nat}

theorem Walk.cast {v u : Nat} {as : List Nat} {W W' : Int} (w : Walk ss last v as u W) (e : W = W') : Walk ss last v as u W' := e ▸ w
theorem Walk.app {v u x : Nat} {as bs : List Nat} {W W' : Int} (w : Walk ss last v as u W) (w' : Walk ss last u bs x W') : Walk ss last v (as ++ bs) x (W' + W) := by
  induction w with
  | nil v => exact w'.cast (by omega)
  | step h1 h2 _ ih => exact (Walk.step h1 h2 (ih w')).cast (by omega)
/-- against the steps a walk is a chain -/
theorem Walk.run {v u : Nat} {as : List Nat} {W : Int} (w : Walk ss last v as u W) : ∀ t0, Am.run ss (as.reverse.map Int.ofNat) u t0 = some (v, t0 + W) := by
  induction w with
  | nil v => intro t0; show some (v, t0) = _; rw [Int.add_zero]
  | @step v l u a m W as h1 h2 _ ih =>
    intro t0
    rw [List.reverse_cons, List.map_append, run_append, ih t0]
    show Am.run ss [Int.ofNat a] l (t0 + W) = _
    unfold Am.run
    have e : sayAt ss (Int.ofNat a) = some (l, v, m) := (sayAt_nat ss a).trans h2
    rw [e]
    simp only [if_true]
    show some (v, t0 + W + m) = _
    rw [Int.add_assoc]
theorem Walk.sum {v u : Nat} {as : List Nat} {W : Int} (w : Walk ss last v as u W) : sumAlong ss (as.reverse.map Int.ofNat) u v = some W := by
  unfold sumAlong
  rw [w.run 0]
  show (if v = v then some (0 + W) else none) = some W
  rw [if_pos rfl, Int.zero_add]
theorem Walk.ring {v a : Nat} {as : List Nat} {W : Int} (w : Walk ss last v (a :: as) v W) (h : W < 0) : isRing ss ((a :: as).reverse.map Int.ofNat) = true := by
  have e := w.sum
  have r := w.run 0
  cases q : (a :: as).reverse.map Int.ofNat with
  | nil => simp at q
  | cons b bs =>
    rw [q] at e r
    unfold isRing
    unfold Am.run at r
    cases q2 : sayAt ss b with
    | none => rw [q2] at r; simp at r
    | some s =>
      obtain ⟨l, x, m⟩ := s
      rw [q2] at r
      simp only at r
      by_cases hl : l = v
      · subst hl
        simp only [q2, e]
        exact decide_eq_true h
      · rw [if_neg hl] at r; cases r

/-- the places of a walk -/
def verts (ss : List Say) : Nat → List Nat → List Nat
  | v, [] => [v]
  | v, a :: as => v :: verts ss (ss.getD a z0).1 as
theorem verts_len (ss : List Say) : ∀ (v : Nat) (as : List Nat), (verts ss v as).length = as.length + 1
  | v, [] => rfl
  | v, a :: as => by show (verts ss _ as).length + 1 = _; rw [verts_len ss _ as]; rfl
theorem getD_some {α : Type} {l : List α} {i : Nat} {x d : α} (h : l[i]? = some x) : l.getD i d = x := by
  rw [List.getD_eq_getElem?_getD, h]; rfl
theorem Walk.mid {v u : Nat} {as : List Nat} {W : Int} (w : Walk ss last v as u W) : ∀ y ∈ verts ss v as, ∃ bs cs W1 W2, Walk ss last v bs y W1 ∧ Walk ss last y cs u W2 ∧ bs.length + cs.length = as.length := by
  induction w with
  | nil v =>
    intro y hy
    have e : y = v := by simpa [verts] using hy
    subst e
    exact ⟨[], [], 0, 0, .nil y, .nil y, rfl⟩
  | @step v l u a m W as h1 h2 w ih =>
    intro y hy
    have e : verts ss v (a :: as) = v :: verts ss l as := by
      show v :: verts ss (ss.getD a z0).1 as = _
      rw [getD_some h2]
    rw [e] at hy
    rcases List.mem_cons.mp hy with q | q
    · subst q
      exact ⟨[], a :: as, 0, W + m, .nil y, .step h1 h2 w, by simp⟩
    · obtain ⟨bs, cs, W1, W2, w1, w2, hl⟩ := ih y q
      exact ⟨a :: bs, cs, W1 + m, W2, .step h1 h2 w1, w2, by simp only [List.length_cons]; omega⟩
theorem Walk.twice {v u : Nat} {as : List Nat} {W : Int} (w : Walk ss last v as u W) (h : ¬ (verts ss v as).Nodup) : ∃ y b bs cs W1 W2, Walk ss last y (b :: bs) y W1 ∧ Walk ss last y cs u W2 ∧ (b :: bs).length ≤ as.length := by
  induction w with
  | nil v => exact absurd (by simp [verts]) h
  | @step v l u a m W as h1 h2 w ih =>
    have e : verts ss v (a :: as) = v :: verts ss l as := by
      show v :: verts ss (ss.getD a z0).1 as = _
      rw [getD_some h2]
    rw [e] at h
    by_cases q : v ∈ verts ss l as
    · obtain ⟨bs, cs, W1, W2, w1, w2, hl⟩ := w.mid v q
      exact ⟨v, a, bs, cs, W1 + m, W2, .step h1 h2 w1, w2, by simp only [List.length_cons]; omega⟩
    · by_cases q2 : (verts ss l as).Nodup
      · exact absurd (List.nodup_cons.mpr ⟨q, q2⟩) h
      · obtain ⟨y, b, bs, cs, W1, W2, w1, w2, hl⟩ := ih q2
        exact ⟨y, b, bs, cs, W1, W2, w1, w2, Nat.le_trans hl (Nat.le_succ _)⟩
theorem Walk.low {v u : Nat} {as : List Nat} {W : Int} (w : Walk ss last v as u W) (hs : ∀ v (a : Nat), last.getD v (-1) = (a : Int) → v < n) (hu : u < n) : ∀ y ∈ verts ss v as, y < n := by
  induction w with
  | nil v => intro y hy; have e : y = v := by simpa [verts] using hy
             subst e; exact hu
  | @step v l u a m W as h1 h2 w ih =>
    intro y hy
    have e : verts ss v (a :: as) = v :: verts ss l as := by
      show v :: verts ss (ss.getD a z0).1 as = _
      rw [getD_some h2]
    rw [e] at hy
    rcases List.mem_cons.mp hy with q | q
    · subst q; exact hs _ _ h1
    · exact ih hu y q
theorem Walk.det {v l : Nat} {a : Nat} {m : Int} (h1 : last.getD v (-1) = (a : Int)) (h2 : ss[a]? = some (l, v, m)) {b u : Nat} {bs : List Nat} {W : Int} (w : Walk ss last v (b :: bs) u W) : b = a ∧ ∃ W', Walk ss last l bs u W' ∧ W = W' + m := by
  cases w with
  | step g1 g2 w' =>
    rw [h1] at g1
    have e : a = b := by omega
    subst e
    rw [h2] at g2
    cases g2
    exact ⟨rfl, _, w', rfl⟩
/-- a ring at a walk's start is one at its end -/
theorem Walk.turn {y u : Nat} {cs : List Nat} {W2 : Int} (w : Walk ss last y cs u W2) : ∀ {b : Nat} {bs : List Nat} {W1 : Int}, Walk ss last y (b :: bs) y W1 → ∃ d ds W3, Walk ss last u (d :: ds) u W3 ∧ (d :: ds).length = (b :: bs).length := by
  induction w with
  | nil v => intro b bs W1 h; exact ⟨b, bs, W1, h, rfl⟩
  | @step v l u a m W as h1 h2 w ih =>
    intro b bs W1 h
    obtain ⟨e, W', w', e'⟩ := Walk.det h1 h2 h
    subst e
    have c := w'.app (Walk.step h1 h2 (Walk.nil l))
    cases bs with
    | nil => exact ih c
    | cons d ds =>
      obtain ⟨d2, ds2, W4, w4, hl⟩ := ih c
      exact ⟨d2, ds2, W4, w4, by rw [hl]; simp⟩
/-- so many steps: a ring at the end -/
theorem Walk.long {v u : Nat} {as : List Nat} {W : Int} (w : Walk ss last v as u W) (hs : ∀ v (a : Nat), last.getD v (-1) = (a : Int) → v < n) (hu : u < n) (hl : n ≤ as.length) : ∃ d ds W3, Walk ss last u (d :: ds) u W3 ∧ (d :: ds).length ≤ as.length := by
  have h : ¬ (verts ss v as).Nodup := fun q => by
    have := List.Nodup.length_le_of_subset q (l₂ := List.range n) fun y hy => List.mem_range.mpr (w.low hs hu y hy)
    rw [verts_len, List.length_range] at this
    omega
  obtain ⟨y, b, bs, cs, W1, W2, w1, w2, hl2⟩ := w.twice h
  obtain ⟨d, ds, W3, w3, hl3⟩ := w2.turn w1
  exact ⟨d, ds, W3, w3, by rw [hl3]; exact hl2⟩

/-- what ring_behind wants: so many steps back, and a ring there -/
def Deep (ss : List Say) (last : List Int) (v : Nat) : Prop := ∃ as x W d ds W3, Walk ss last v as x W ∧ as.length = last.length ∧ Walk ss last x (d :: ds) x W3 ∧ (∀ y b bs Wb, Walk ss last y (b :: bs) y Wb → Wb < 0) ∧ (d :: ds).length ≤ last.length
theorem LInv.steps (I : LInv n ss S0 r j sums last t) : ∀ (k : Nat) (v : Nat), v < n → k ≤ t v → ∃ as x W, Walk ss last v as x W ∧ as.length = k ∧ x < n
  | 0, v, hv, _ => ⟨[], v, 0, .nil v, rfl, hv⟩
  | k + 1, v, hv, h => by
    rcases I.lst v hv with q | ⟨a, q⟩
    · have := (I.root v q).1; omega
    · obtain ⟨l, m, x, y, e1, e2, e3, e4, e5, e6⟩ := I.par v a q
      have hl : l < n := by
        rcases Nat.lt_or_ge l n with g | g
        · exact g
        · rw [List.getD_eq_getElem?_getD, List.getElem?_eq_none (by rw [I.len]; exact g)] at e2
          cases e2
      obtain ⟨as, x, W, w, hk, hx⟩ := I.steps k l hl (by omega)
      exact ⟨a :: as, x, W + m, .step q e1 w, by simp [hk], hx⟩
theorem LInv.deep (I : LInv n ss S0 r j sums last t) {v : Nat} (hv : v < n) (h : n ≤ t v) : Deep ss last v := by
  obtain ⟨as, x, W, w, hk, hx⟩ := I.steps n v hv h
  obtain ⟨d, ds, W3, w3, hl⟩ := w.long (n := n) (fun v a e => by obtain ⟨_, _, _, _, _, _, _, _, _, e6⟩ := I.par v a e; exact e6) hx (Nat.le_of_eq hk.symm)
  exact ⟨as, x, W, d, ds, W3, w, hk.trans I.lenL.symm, w3, I.neg, by rw [I.lenL, ← hk]; exact hl⟩

/-- heights that keep all: along a walk no place is more above than its sum -/
def Kept (ss : List Say) (h : Nat → Int) : Prop := ∀ s ∈ ss, h s.2.1 - h s.1 ≤ s.2.2
theorem Walk.kept {h : Nat → Int} (k : Kept ss h) {v u : Nat} {as : List Nat} {W : Int} (w : Walk ss last v as u W) : h v ≤ h u + W := by
  induction w with
  | nil v => omega
  | step h1 h2 _ ih =>
    have := k _ (List.mem_of_getElem? h2)
    simp only at this
    omega
theorem run_kept {h : Nat → Int} (k : Kept ss h) : ∀ {c : List Int} {p q : Nat} {t0 t1 : Int}, run ss c p t0 = some (q, t1) → h q + t0 ≤ h p + t1
  | [], p, q, t0, t1, e => by
    cases e; omega
  | a :: r, p, q, t0, t1, e => by
    unfold run at e
    cases hs : sayAt ss a with
    | none => rw [hs] at e; cases e
    | some s =>
      obtain ⟨l, u, m⟩ := s
      rw [hs] at e
      simp only at e
      by_cases hl : l = p
      · rw [if_pos hl] at e
        have ih := run_kept k e
        have mem : (l, u, m) ∈ ss := by
          unfold sayAt at hs
          split at hs
          · exact List.mem_of_getElem? hs
          · cases hs
        have := k _ mem
        simp only at this
        subst hl
        omega
      · rw [if_neg hl] at e; cases e
theorem sum_kept {h : Nat → Int} (k : Kept ss h) {c : List Int} {p q : Nat} {W : Int} (e : sumAlong ss c p q = some W) : h q ≤ h p + W := by
  unfold sumAlong at e
  cases hr : run ss c p 0 with
  | none => rw [hr] at e; cases e
  | some x =>
    obtain ⟨y, t1⟩ := x
    rw [hr] at e
    simp only [ends] at e
    by_cases hy : y = q
    · rw [if_pos hy] at e
      cases e
      subst hy
      have := run_kept k hr
      omega
    · rw [if_neg hy] at e; cases e
theorem keepAll_kept {n : Nat} {hs : List Int} (h : keepAll n ss hs = true) : Kept ss (fun v => hs.getD v 0) := by
  unfold keepAll at h
  simp only [Bool.and_eq_true, List.all_eq_true] at h
  intro s m
  have := h.2 s m
  unfold keeps at this
  simpa using this
/-- never both -/
theorem ring_not_kept {c : List Int} (h : isRing ss c = true) {f : Nat → Int} (k : Kept ss f) : False := by
  unfold isRing at h
  split at h
  · cases h
  · split at h
    · split at h
      · rename_i e
        have := sum_kept k e
        have := of_decide_eq_true h
        omega
      · cases h
    · cases h

/-- what chain_to wants: so many steps back there is a root -/
inductive Up (ss : List Say) (last : List Int) : Nat → Nat → Prop
  | root {v : Nat} : last.getD v (-1) = -1 → v < last.length → Up ss last v 0
  | step {v l a k : Nat} {m : Int} : last.getD v (-1) = (a : Int) → ss[a]? = some (l, v, m) → v < last.length → Up ss last l k → Up ss last v (k + 1)
theorem LInv.below (I : LInv n ss S0 r j sums last t) {v x : Nat} {y : Int} (e : sums.getD v none = some y) : v < n := by
  rcases Nat.lt_or_ge v n with g | g
  · exact g
  · rw [List.getD_eq_getElem?_getD, List.getElem?_eq_none (by rw [I.len]; exact g)] at e
    cases e
theorem LInv.up_or (I : LInv n ss S0 r j sums last t) : ∀ (k : Nat) (v : Nat), v < n → (∃ K, K ≤ k ∧ Up ss last v K) ∨ ∃ as x W, Walk ss last v as x W ∧ as.length = k ∧ x < n
  | 0, v, hv => .inr ⟨[], v, 0, .nil v, rfl, hv⟩
  | k + 1, v, hv => by
    rcases I.lst v hv with q | ⟨a, q⟩
    · exact .inl ⟨0, Nat.zero_le _, .root q (by rw [I.lenL]; exact hv)⟩
    · obtain ⟨l, m, x, y, e1, e2, e3, e4, e5, e6⟩ := I.par v a q
      have hl : l < n := I.below (x := 0) e2
      rcases I.up_or k l hl with ⟨K, hK, u⟩ | ⟨as, x, W, w, hk, hx⟩
      · exact .inl ⟨K + 1, Nat.succ_le_succ hK, .step q e1 (by rw [I.lenL]; exact hv) u⟩
      · exact .inr ⟨a :: as, x, W + m, .step q e1 w, by simp [hk], hx⟩
theorem LInv.up (I : LInv n ss S0 r j sums last t) {h : Nat → Int} (k : Kept ss h) {v : Nat} (hv : v < n) : ∃ K, K ≤ n ∧ Up ss last v K := by
  rcases I.up_or n v hv with q | ⟨as, x, W, w, hk, hx⟩
  · exact q
  · obtain ⟨d, ds, W3, w3, _⟩ := w.long (n := n) (fun v a e => by obtain ⟨_, _, _, _, _, _, _, _, _, e6⟩ := I.par v a e; exact e6) hx (Nat.le_of_eq hk.symm)
    have a1 := I.neg _ _ _ _ w3
    have a2 := w3.kept k
    omega
theorem Up.walk {v K : Nat} (u : Up ss last v K) : ∃ as x W, Walk ss last v as x W ∧ last.getD x (-1) = -1 := by
  induction u with
  | @root v h _ => exact ⟨[], v, 0, .nil v, h⟩
  | @step v l a k m h1 h2 _ _ ih =>
    obtain ⟨as, x, W, w, e⟩ := ih
    exact ⟨a :: as, x, W + m, .step h1 h2 w, e⟩

/-! ### the rounds -/
/-- within round r, i sayings done: all is as before and asked so far, or a place was changed -/
def RInv (n : Nat) (ss : List Say) (S0 : Sums) (r : Nat) (st0 : LSt) (i : Nat) (st : LSt) : Prop :=
  ∃ t, LInv n ss S0 r i st.sums st.last t ∧ ((st.ch = -1 ∧ st.sums = st0.sums ∧ st.last = st0.last ∧ ∀ k s, k < i → ss[k]? = some s → slack st0.sums s = false) ∨ ∃ v, v < n ∧ st.ch = (v : Int) ∧ t v = r)
theorem RInv.upTo (ok : Ok n ss) (hr : 0 < r) (st0 : LSt) (h0 : st0.ch = -1) (I : LInv n ss S0 r 0 st0.sums st0.last t) : ∀ i, i ≤ ss.length → RInv n ss S0 r st0 i (Am.upTo ss st0 i)
  | 0, _ => ⟨t, I, .inl ⟨h0, rfl, rfl, fun k s hk => absurd hk (Nat.not_lt_zero k)⟩⟩
  | i + 1, hi => by
    obtain ⟨t', J, alt⟩ := RInv.upTo ok hr st0 h0 I i (Nat.le_of_succ_le hi)
    have hs : ss[i]? = some (ss[i]'hi) := List.getElem?_eq_getElem hi
    have hd : ss.getD i z0 = ss[i]'hi := getD_some hs
    generalize ss[i]'hi = s at hs hd
    obtain ⟨l, u, m⟩ := s
    show RInv n ss S0 r st0 (i + 1) (Am.turn (Am.upTo ss st0 i) i (ss.getD i z0))
    rw [hd]
    generalize Am.upTo ss st0 i = st at J alt
    unfold Am.turn
    cases h : slack st.sums (l, u, m) with
    | false =>
      rw [if_neg (by simp)]
      refine ⟨t', J.keep hs h, ?_⟩
      rcases alt with ⟨a1, a2, a3, a4⟩ | a
      · refine .inl ⟨a1, a2, a3, fun k s hk e => ?_⟩
        by_cases q : k = i
        · subst q
          rw [hs] at e
          cases e
          rw [← a2]
          exact h
        · exact a4 k s (by omega) e
      · exact .inr a
    | true =>
      rw [if_pos rfl]
      refine ⟨_, J.change ok hs h hr, .inr ⟨u, (ok.get hs).2, rfl, ?_⟩⟩
      rw [if_pos rfl]
/-- behind some rounds: all is so, or a place was changed in the last of them -/
theorem rounds_ok (ok : Ok n ss) : ∀ (k r : Nat) (st : LSt) (t : Nat → Nat), 0 < r → LInv n ss S0 r 0 st.sums st.last t →
    ((rounds ss k st).ch = -1 ∧ (∀ s ∈ ss, slack (rounds ss k st).sums s = false) ∧ ∃ r' j' t', LInv n ss S0 r' j' (rounds ss k st).sums (rounds ss k st).last t') ∨
      k = 0 ∨ (∃ v t', v < n ∧ (rounds ss k st).ch = (v : Int) ∧ t' v + 1 = r + k ∧ LInv n ss S0 (r + k - 1) ss.length (rounds ss k st).sums (rounds ss k st).last t')
  | 0, r, st, t, _, _ => .inr (.inl rfl)
  | k + 1, r, st, t, hr, I => by
    obtain ⟨t', J, alt⟩ := RInv.upTo (t := t) ok hr { st with ch := -1 } rfl I ss.length (Nat.le_refl _)
    have e : Am.upTo ss { st with ch := -1 } ss.length = round ss st := rfl
    rw [e] at J alt
    unfold rounds
    rcases alt with ⟨a1, a2, a3, a4⟩ | ⟨v, hv, hc, ht⟩
    · rw [if_pos (by rw [a1]; decide)]
      refine .inl ⟨rfl, fun s hs => ?_, r, _, t', J⟩
      obtain ⟨i, hi⟩ := List.getElem?_of_mem hs
      show slack (round ss st).sums s = false
      rw [a2]
      exact a4 i s (List.getElem?_eq_some_iff.mp hi).1 hi
    · rw [if_neg (by rw [hc]; omega)]
      rcases rounds_ok ok k (r + 1) (round ss st) t' (Nat.succ_pos r) J.next with q | q | ⟨v', t2, q1, q2, q3, q4⟩
      · exact .inl q
      · subst q
        refine .inr (.inr ⟨v, t', hv, hc, by omega, ?_⟩)
        show LInv n ss S0 (r + 1 - 1) ss.length (round ss st).sums (round ss st).last t'
        rw [Nat.add_sub_cancel]
        exact J
      · refine .inr (.inr ⟨v', t2, q1, q2, by omega, ?_⟩)
        have e : r + 1 + k - 1 = r + (k + 1) - 1 := by omega
        rw [← e]
        exact q4
/-- what lessened leaves -/
structure Less (n : Nat) (ss : List Say) (S0 : Sums) (st : LSt) : Prop where
  inv : ∃ r j t, LInv n ss S0 r j st.sums st.last t
  end' : (st.ch = -1 ∧ ∀ s ∈ ss, slack st.sums s = false) ∨ ∃ v, v < n ∧ st.ch = (v : Int) ∧ Deep ss st.last v
theorem LInv.start (hn : S0.length = n) : LInv n ss S0 1 0 S0 (List.replicate n (-1)) (fun _ => 0) := by
  have hL : ∀ v, (List.replicate n (-1 : Int)).getD v (-1) = -1 := fun v => by
    rw [List.getD_eq_getElem?_getD, List.getElem?_replicate]
    split <;> rfl
  refine ⟨hn, List.length_replicate, fun v _ => .inl (hL v), fun v _ => ⟨rfl, rfl⟩, fun v a e => ?_, fun _ => Nat.zero_le _, fun i s _ q => ?_, fun v a as W w => ?_, fun v x e => ⟨x, e, Int.le_refl _⟩⟩
  · rw [hL] at e; omega
  · rw [if_neg (Nat.not_lt_zero i)] at q; omega
  · cases w with
    | step h1 _ _ => rw [hL] at h1; omega
theorem lessened_ok (ok : Ok n ss) (hn : S0.length = n) : Less n ss S0 (lessened ss S0 (List.replicate n (-1))) := by
  unfold lessened
  rw [hn]
  rcases rounds_ok (S0 := S0) ok (n + 1) 1 ⟨S0, List.replicate n (-1), 0⟩ (fun _ => 0) (by decide) (LInv.start hn) with ⟨q1, q2, q3⟩ | q | ⟨v, t', q1, q2, q3, q4⟩
  · exact ⟨q3, .inl ⟨q1, q2⟩⟩
  · omega
  · exact ⟨⟨_, _, t', q4⟩, .inr ⟨v, q1, q2, q4.deep q1 (by omega)⟩⟩
end
end Am

namespace Am
def sumsOf (n one : Nat) : Sums := (List.replicate n none).set one (some 0)
/-- each place is led to from one of height 0 by sayings that are just so -/
inductive Led (ss : List Say) (hs : List Int) : Nat → Prop
  | root {v : Nat} : hs.getD v 0 = 0 → v < hs.length → Led ss hs v
  | step {l v : Nat} {m : Int} : (l, v, m) ∈ ss → hs.getD v 0 - hs.getD l 0 = m → v < hs.length → Led ss hs l → Led ss hs v
theorem rep_getD {α : Type} {n : Nat} {x d : α} {v : Nat} (h : v < n) : (List.replicate n x).getD v d = x := by
  rw [List.getD_eq_getElem?_getD, List.getElem?_replicate, if_pos h]; rfl
theorem map_some_getD {hs : List Int} {v : Nat} : (hs.map some).getD v none = hs[v]? := by
  rw [List.getD_eq_getElem?_getD, List.getElem?_map]
  cases hs[v]? <;> rfl
theorem Deep.not_kept {ss : List Say} {last : List Int} {v : Nat} (d : Deep ss last v) {h : Nat → Int} (k : Kept ss h) : False := by
  obtain ⟨_, _, _, _, _, _, _, _, w, ng, _⟩ := d
  have lt := ng _ _ _ _ w
  have := w.kept k
  omega
theorem all_some : ∀ (l : Sums), (∀ v, v < l.length → ∃ y, l.getD v none = some y) → ∃ hs : List Int, l = hs.map some
  | [], _ => ⟨[], rfl⟩
  | x :: r, h => by
    obtain ⟨y, hy⟩ := h 0 (Nat.succ_pos _)
    have e : x = some y := hy
    subst e
    obtain ⟨hs, e⟩ := all_some r fun v hv => h (v + 1) (Nat.succ_lt_succ hv)
    exact ⟨y :: hs, by rw [e]; rfl⟩
section
variable {n : Nat} {ss : List Say} {S0 sums : Sums} {last : List Int}
theorem keepAll_of {hs : List Int} (hl : hs.length = n) (h : ∀ s ∈ ss, hs.getD s.2.1 0 - hs.getD s.1 0 ≤ s.2.2) : keepAll n ss hs = true := by
  unfold keepAll
  rw [decide_eq_true hl, Bool.true_and, List.all_eq_true]
  exact fun s hs' => decide_eq_true (h s hs')
theorem keepAll_len {hs : List Int} (h : keepAll n ss hs = true) : hs.length = n := by
  unfold keepAll at h
  simp only [Bool.and_eq_true_iff] at h
  exact of_decide_eq_true h.1
/-- heights from nought everywhere -/
theorem fromAll_ok (ok : Ok n ss) {st : LSt} (L : Less n ss (List.replicate n (some 0)) st) :
    (st.ch = -1 ∧ ∃ hs : List Int, st.sums = hs.map some ∧ keepAll n ss hs = true ∧ (∀ v, hs.getD v 0 ≤ 0) ∧ ∀ v, v < n → Led ss hs v) ∨ ∃ v, v < n ∧ st.ch = (v : Int) ∧ Deep ss st.last v := by
  rcases L.end' with ⟨hc, rel⟩ | q
  · refine .inl ⟨hc, ?_⟩
    obtain ⟨r, j, t, I⟩ := L.inv
    have mono : ∀ v, v < n → ∃ y, st.sums.getD v none = some y ∧ y ≤ 0 := fun v hv => I.mono v 0 (rep_getD hv)
    obtain ⟨hs, e⟩ := all_some st.sums fun v hv => by
      obtain ⟨y, hy, _⟩ := mono v (by rw [← I.len]; exact hv)
      exact ⟨y, hy⟩
    have hl : hs.length = n := by have := I.len; rw [e, List.length_map] at this; exact this
    have hat : ∀ v x, st.sums.getD v none = some x → hs.getD v 0 = x := fun v x q => by
      rw [e, map_some_getD] at q
      rw [List.getD_eq_getElem?_getD, q]; rfl
    have ka : keepAll n ss hs = true := keepAll_of hl fun s hs' => by
      obtain ⟨l, u, m⟩ := s
      obtain ⟨x, hx, _⟩ := mono l (ok _ hs').1
      obtain ⟨y, hy, le⟩ := slack_false (rel _ hs') hx
      simp only
      rw [hat u y hy, hat l x hx]
      omega
    refine ⟨hs, e, ka, fun v => ?_, fun v hv => ?_⟩
    · rcases Nat.lt_or_ge v n with g | g
      · obtain ⟨y, hy, le⟩ := mono v g
        rw [hat v y hy]; exact le
      · rw [List.getD_eq_getElem?_getD, List.getElem?_eq_none (by rw [hl]; exact g)]
        exact Int.le_refl 0
    · obtain ⟨K, hK, u⟩ := I.up (keepAll_kept ka) hv
      clear hK
      induction u with
      | @root v h1 h2 =>
        have e2 := (I.root v h1).2
        rw [rep_getD hv] at e2
        exact .root (hat v 0 e2) (by rw [hl]; exact hv)
      | @step v l a k m h1 h2 h3 _ ih =>
        obtain ⟨l', m', x, y, e1, e2, e3, e4, e5, e6⟩ := I.par v a h1
        rw [h2] at e1
        cases e1
        have mem := List.mem_of_getElem? h2
        obtain ⟨y', hy', le⟩ := slack_false (rel _ mem) e2
        rw [e3] at hy'
        cases hy'
        refine .step mem ?_ (by rw [hl]; exact hv) (ih (ok _ mem).1)
        rw [hat v y e3, hat l x e2]
        omega
  · exact .inr q
/-- what from_one leaves where heights keep all -/
structure One (n : Nat) (ss : List Say) (one : Nat) (sums : Sums) (last : List Int) : Prop where
  len : sums.length = n
  lenL : last.length = n
  at1 : sums.getD one none = some 0
  rel : ∀ s ∈ ss, slack sums s = false
  way : ∀ v y, sums.getD v none = some y → v < n ∧ (∃ K, K ≤ n ∧ Up ss last v K) ∧ ∀ as x W, Walk ss last v as x W → last.getD x (-1) = -1 → x = one ∧ W = y
theorem fromOne_ok (ok : Ok n ss) {one : Nat} (h1 : one < n) {st : LSt} (L : Less n ss (sumsOf n one) st) {h : Nat → Int} (k : Kept ss h) : One n ss one st.sums st.last := by
  have rel : ∀ s ∈ ss, slack st.sums s = false := by
    rcases L.end' with ⟨_, q⟩ | ⟨v, _, _, d⟩
    · exact q
    · exact (d.not_kept k).elim
  obtain ⟨r, j, t, I⟩ := L.inv
  have s0 : ∀ v, (sumsOf n one).getD v none = if v = one then some 0 else none := fun v => by
    unfold sumsOf
    rw [getD_set (by rw [List.length_replicate]; exact h1)]
    by_cases q : v = one
    · rw [if_pos q, if_pos q]
    · rw [if_neg q, if_neg q, List.getD_eq_getElem?_getD, List.getElem?_replicate]
      split <;> rfl
  have tight : ∀ v as x W, Walk ss st.last v as x W → ∀ y, st.sums.getD v none = some y → ∃ z, st.sums.getD x none = some z ∧ y = z + W := by
    intro v as x W w
    induction w with
    | nil v => intro y hy; exact ⟨y, hy, by omega⟩
    | @step v l u a m W as g1 g2 _ ih =>
      intro y hy
      obtain ⟨l', m', x', y', e1, e2, e3, e4, _⟩ := I.par v a g1
      rw [g2] at e1
      cases e1
      rw [hy] at e3
      cases e3
      obtain ⟨y2, hy2, le⟩ := slack_false (rel _ (List.mem_of_getElem? g2)) e2
      rw [hy] at hy2
      cases hy2
      obtain ⟨z, hz, e⟩ := ih x' e2
      exact ⟨z, hz, by omega⟩
  have rootIs : ∀ x z, st.sums.getD x none = some z → st.last.getD x (-1) = -1 → x = one ∧ z = 0 := fun x z hz hx => by
    have e := (I.root x hx).2
    rw [hz, s0] at e
    by_cases q : x = one
    · rw [if_pos q] at e
      cases e
      exact ⟨q, rfl⟩
    · rw [if_neg q] at e; cases e
  have a1 : st.sums.getD one none = some 0 := by
    obtain ⟨y, hy, _⟩ := I.mono one 0 (by rw [s0, if_pos rfl])
    obtain ⟨K, _, u⟩ := I.up k h1
    obtain ⟨as, x, W, w, hx⟩ := u.walk
    obtain ⟨z, hz, _⟩ := tight one as x W w y hy
    obtain ⟨e, _⟩ := rootIs x z hz hx
    subst e
    have e := (I.root x hx).2
    rw [e, s0, if_pos rfl]
  refine ⟨I.len, I.lenL, a1, rel, fun v y hy => ⟨I.below (x := 0) hy, I.up k (I.below (x := 0) hy), fun as x W w hx => ?_⟩⟩
  obtain ⟨z, hz, e⟩ := tight v as x W w y hy
  obtain ⟨e1, e2⟩ := rootIs x z hz hx
  exact ⟨e1, by omega⟩

/-! ### spread, raised -/
def spreadOf (n : Nat) (rest : List Int) (sums : Sums) (far : Int) : List Int :=
  (List.range n).map fun v => match sums.getD v none with | none => rest.getD v 0 + far | some y => y
def Far (ss : List Say) (rest : List Int) (sums : Sums) (far : Int) : Prop :=
  ∀ s ∈ ss, sums.getD s.1 none = none → ∀ y, sums.getD s.2.1 none = some y → y - rest.getD s.1 0 - s.2.2 ≤ far
theorem range_map_getD {n : Nat} {f : Nat → Int} {v : Nat} (h : v < n) : ((List.range n).map f).getD v 0 = f v := by
  rw [List.getD_eq_getElem?_getD, List.getElem?_map, List.getElem?_range h]; rfl
theorem spread_at {rest : List Int} {far : Int} {v : Nat} {y : Int} (hv : v < n) (e : sums.getD v none = some y) : (spreadOf n rest sums far).getD v 0 = y := by
  unfold spreadOf
  rw [range_map_getD hv, e]
theorem spread_ok (ok : Ok n ss) {rest : List Int} {far : Int} (k : keepAll n ss rest = true) (rel : ∀ s ∈ ss, slack sums s = false) (hf : Far ss rest sums far) : keepAll n ss (spreadOf n rest sums far) = true := by
  refine keepAll_of (by unfold spreadOf; rw [List.length_map, List.length_range]) fun s hs => ?_
  have kk := keepAll_kept k s hs
  have r := rel s hs
  have f := hf s hs
  obtain ⟨l, u, m⟩ := s
  obtain ⟨hl, hu⟩ := ok _ hs
  simp only at hl hu kk f ⊢
  unfold spreadOf
  rw [range_map_getD hl, range_map_getD hu]
  cases e : sums.getD l none with
  | some x =>
    obtain ⟨y, hy, le⟩ := slack_false r e
    rw [hy]
    simp only
    omega
  | none =>
    cases e2 : sums.getD u none with
    | none => simp only; omega
    | some y =>
      have := f e y e2
      simp only
      omega
/-- the places that no chain leads to -/
def without (n : Nat) (sums : Sums) : List Nat := (List.range n).filter fun v => (sums.getD v none).isNone
def raisedOf (hs : List Int) (ps : List Nat) (d : Int) : List Int := (List.range hs.length).map fun v => if v ∈ ps then hs.getD v 0 + d else hs.getD v 0
theorem mem_without {v : Nat} : v ∈ without n sums ↔ v < n ∧ sums.getD v none = none := by
  unfold without
  rw [List.mem_filter, List.mem_range]
  simp
theorem raised_at {hs : List Int} {ps : List Nat} {d : Int} {v : Nat} (h : v < hs.length) : (raisedOf hs ps d).getD v 0 = if v ∈ ps then hs.getD v 0 + d else hs.getD v 0 := by
  unfold raisedOf
  rw [range_map_getD h]
theorem raised_ok (ok : Ok n ss) {hs : List Int} {d : Int} (k : keepAll n ss hs = true) (rel : ∀ s ∈ ss, slack sums s = false) (hd : 0 ≤ d) : keepAll n ss (raisedOf hs (without n sums) d) = true := by
  have hl := keepAll_len k
  refine keepAll_of (by unfold raisedOf; rw [List.length_map, List.length_range]; exact hl) fun s hs' => ?_
  have kk := keepAll_kept k s hs'
  have r := rel s hs'
  obtain ⟨l, u, m⟩ := s
  obtain ⟨h1, h2⟩ := ok _ hs'
  simp only at h1 h2 kk ⊢
  rw [raised_at (by rw [hl]; exact h2), raised_at (by rw [hl]; exact h1)]
  by_cases q1 : l ∈ without n sums
  · rw [if_pos q1]
    split <;> omega
  · rw [if_neg q1]
    have q2 : ¬ u ∈ without n sums := fun z => by
      cases e : sums.getD l none with
      | none => exact q1 (mem_without.mpr ⟨h1, e⟩)
      | some x =>
        obtain ⟨y, hy, _⟩ := slack_false r e
        have := (mem_without.mp z).2
        rw [hy] at this; cases this
    rw [if_neg q2]
    exact kk

/-! ### a saying left out -/
def less1 (ss : List Say) (i : Nat) : List Say := ss.take i ++ ss.drop (i + 1)
theorem mem_less1 {i : Nat} {s : Say} (h : s ∈ less1 ss i) : s ∈ ss := by
  obtain q | q := List.mem_append.mp h
  · exact List.mem_of_mem_take q
  · exact List.mem_of_mem_drop q
theorem Ok.less1 (ok : Ok n ss) (i : Nat) : Ok n (less1 ss i) := fun s h => ok s (mem_less1 h)
theorem Kept.less1 {h : Nat → Int} (k : Kept ss h) (i : Nat) : Kept (less1 ss i) h := fun s m => k s (mem_less1 m)
/-- a step of the others, told of all -/
def shift (i : Nat) (a : Int) : Int := if (i : Int) ≤ a then a + 1 else a
theorem less1_get (i k : Nat) : (Am.less1 ss i)[k]? = if k < i then ss[k]? else ss[k + 1]? := by
  unfold Am.less1
  by_cases hi : i ≤ ss.length
  · by_cases h : k < i
    · rw [if_pos h, List.getElem?_append_left (by rw [List.length_take]; omega), List.getElem?_take, if_pos h]
    · rw [if_neg h, List.getElem?_append_right (by rw [List.length_take]; omega), List.length_take, List.getElem?_drop]
      congr 1
      omega
  · rw [List.take_of_length_le (by omega), List.drop_of_length_le (by omega), List.append_nil]
    by_cases h : k < i
    · rw [if_pos h]
    · rw [if_neg h, List.getElem?_eq_none (by omega), List.getElem?_eq_none (by omega)]
theorem sayAt_shift {i : Nat} (hi : i < ss.length) (a : Int) (h : 0 ≤ a) : sayAt ss (shift i a) = sayAt (Am.less1 ss i) a := by
  obtain ⟨k, rfl⟩ := Int.eq_ofNat_of_zero_le h
  unfold shift
  rw [sayAt_nat, less1_get]
  by_cases q : k < i
  · rw [if_neg (by omega), if_pos q, sayAt_nat]
  · rw [if_pos (by omega), if_neg q]
    exact sayAt_nat ss (k + 1)
theorem run_shifted {i : Nat} (hi : i < ss.length) : ∀ (c : List Int) (p : Nat) (t : Int), (∀ a ∈ c, 0 ≤ a) → run ss (c.map (shift i)) p t = run (Am.less1 ss i) c p t
  | [], p, t, _ => rfl
  | a :: r, p, t, h => by
    rw [List.map_cons, run_cons, run_cons, sayAt_shift hi a (h a List.mem_cons_self)]
    cases sayAt (Am.less1 ss i) a with
    | none => rfl
    | some s =>
      obtain ⟨l, u, m⟩ := s
      simp only
      rw [run_shifted hi r u (t + m) fun a ha => h a (List.mem_cons_of_mem _ ha)]
theorem sum_shifted {i : Nat} (hi : i < ss.length) {c : List Int} {p q : Nat} (h : ∀ a ∈ c, 0 ≤ a) : sumAlong ss (c.map (shift i)) p q = sumAlong (Am.less1 ss i) c p q := by
  unfold sumAlong
  rw [run_shifted hi c p 0 h]
theorem shift_ne (i : Nat) (a : Int) : shift i a ≠ (i : Int) := by
  unfold shift
  split <;> omega
theorem chain_nonneg (as : List Nat) : ∀ a ∈ as.reverse.map Int.ofNat, 0 ≤ a := fun a h => by
  obtain ⟨k, _, rfl⟩ := List.mem_map.mp h
  exact Int.natCast_nonneg k
end
end Am

namespace Am
open PySem L2 Evl
open He (ga ma)

abbrev rAddI : R2 := rI0 fun i j => .int (i + j)
abbrev rSubI : R2 := rI0 fun i j => .int (i - j)
abbrev rMulI : R2 := rI CMul fun i j => .int (i * j)
abbrev rDivI : R2 := rI CDiv fun i j => .int (i / j)
abbrev rModI : R2 := rI (fun _ j => 0 < j) fun i j => .int (i % j)
abbrev rPowI : R2 := rI CPow fun i j => .int (i ^ j.toNat)
abbrev rNegI : V → Hp → VK → Prop := rU fun i => .int (-i)
abbrev rLtI : R2 := rI0 fun i j => .bl (decide (i < j))
abbrev rLeI : R2 := rI0 fun i j => .bl (decide (i ≤ j))
abbrev rGtI : R2 := rI0 fun i j => .bl (decide (j < i))
abbrev rGeI : R2 := rI0 fun i j => .bl (decide (j ≤ i))
abbrev rIsN0 : R2 := fun x y H Q => y = .non ∧ Q (.bl (decide (x = .non))) H
abbrev rNotN0 : R2 := fun x y H Q => y = .non ∧ Q (.bl (!decide (x = .non))) H

/-! ### promises -/
/-- a value is handed back, what stood stands -/
def Pur (R : List V → Hp → V → Prop) : Sp := fun vs H Q _ => ∃ z, R vs H z ∧ ∀ H2, Ex H H2 → Q z H2
/-- a new list -/
def PurL (R : List V → Hp → List V → Prop) : Sp := fun vs H Q _ => ∃ xs, R vs H xs ∧ ∀ p H2, H p = none → Ex H H2 → H2 p = some (.lst xs) → Q (.ref p) H2

section
variable {K : PySem.W.Frag} {σ : L2.St} {H H' : Hp} {ta tb tc te tx : TE} {t u : TT} {x y z v : V} {r : R2}
theorem ev_pur {R : List V → Hp → V → Prop} {vs : List V} {ta : TA} {E : XK} (h : EvA ta σ H vs) (hR : ∀ H1, Ex H H1 → R vs H1 z) : Ev (tCall (Pur R) [] E ta) σ H z :=
  ev_call h fun H1 e1 Q q E => ⟨z, by rw [List.append_nil]; exact hR H1 e1, fun H2 e2 => q H2 e2⟩
theorem el_pur {R : List V → Hp → List V → Prop} {vs xs : List V} {ta : TA} {E : XK} (h : EvA ta σ H vs) (hR : ∀ H1, Ex H H1 → R vs H1 xs) : EvL (tCall (PurL R) [] E ta) σ H xs :=
  el_call h fun H1 e1 Q q E => ⟨xs, by rw [List.append_nil]; exact hR H1 e1, fun p H2 hp e2 h2 => q p H2 hp e2 h2⟩
theorem rv_rI {C : Int → Int → Prop} {g : Int → Int → V} {i j : Int} (hc : C i j) : RV (rI C g) (.int i) (.int j) H (g i j) := rv_I hc
theorem rv_isN : RV rIsN0 x .non H (.bl (decide (x = .non))) := fun H1 _ _ q => ⟨rfl, q H1 (Ex.refl H1)⟩
theorem rv_notN : RV rNotN0 x .non H (.bl (!decide (x = .non))) := fun H1 _ _ q => ⟨rfl, q H1 (Ex.refl H1)⟩
theorem rv_isB {a b : Bool} : RV rIsB (.bl a) (.bl b) H (.bl (decide (a = b))) := fun H1 _ _ q => ⟨a, b, rfl, rfl, q H1 (Ex.refl H1)⟩
theorem rv_notB {a b : Bool} : RV rNotB (.bl a) (.bl b) H (.bl (!decide (a = b))) := fun H1 _ _ q => ⟨a, b, rfl, rfl, q H1 (Ex.refl H1)⟩
/-- a < b < c -/
theorem ev_chain {r r' : R2} {k : Bool} (ha : Ev ta σ H x) (hb : Ev tb σ H y) (hr : RV r x y H (.bl k)) (hc : k = true → Ev tc σ H z) {k2 : Bool} (hr' : k = true → RV r' y z H (.bl k2)) : Ev (tChain r r' ta tb tc) σ H (.bl (k && k2)) := fun H1 e Q q =>
  ha H1 e _ fun H2 e2 => hb H2 (e.trans e2) _ fun H3 e3 => hr H3 ((e.trans e2).trans e3) _ fun H4 e4 => ⟨k, rfl, by
    cases k with
    | true =>
      rw [if_pos rfl]
      exact hc rfl H4 (((e.trans e2).trans e3).trans e4) _ fun H5 e5 => hr' rfl H5 ((((e.trans e2).trans e3).trans e4).trans e5) Q fun H6 e6 => q H6 ((((e2.trans e3).trans e4).trans e5).trans e6)
    | false =>
      rw [if_neg (by decide)]
      exact q H4 ((e2.trans e3).trans e4)⟩
/-- isinstance(x, a built-in class) -/
theorem rc_isi {tn n : String} {b : Bool} (ty : ∀ H1, Ex H H1 → TyX K H1 x (.type tn)) (h : kitB tn n = some b) : RC (rIsi K) [x, .ty n] H (.bl b) := fun H1 e Q q =>
  ⟨x, .ty n, .type tn, .type n, b, rfl, .ty n, ty H1 e, kit_ty h, q H1 (Ex.refl H1)⟩
theorem ev_isi {tn n : String} {b : Bool} (ha : Ev ta σ H x) (ty : ∀ H1, Ex H H1 → TyX K H1 x (.type tn)) (h : kitB tn n = some b) : Ev (tCB (rIsi K) (tCons ta (tCons (tC (.ty n)) tNil))) σ H (.bl b) :=
  ev_cb (ea_cons ha (ea_cons ev_c ea_nil)) (rc_isi ty h)
theorem ty_int {i : Int} : TyX K H (.int i) (.type "int") := .base (.int i)
theorem ty_bl {i : Bool} : TyX K H (.bl i) (.type "bool") := .base (.bl i)
theorem ty_L {a : Addr} {xs : List V} (h : SqL K H a xs) : TyX K H (.ref a) (.type "list") := by
  rcases h with (h | ⟨o, h⟩) | ⟨o, its, n, hk, hc, _⟩
  · exact .base (.lst h)
  · exact .base (.frz h)
  · exact .kList hk hc
theorem ty_T {a : Addr} {xs : List V} (h : SqT K H a xs) : TyX K H (.ref a) (.type "tuple") := by
  rcases h with (h | ⟨o, h⟩) | ⟨o, its, n, hk, hc, _⟩
  · exact .base (.tup h)
  · exact .fTuple h
  · exact .kTuple hk hc
theorem ev_lenT {p : Addr} {xs : List V} (ha : Ev ta σ H (.ref p)) (h : SqT K H p xs) : Ev (tCB (rLenS K) (tCons ta tNil)) σ H (.int (xs.length : Int)) := fun H1 e Q q =>
  ha H1 e _ fun H2 e2 => ⟨p, xs, rfl, Or.inr (ex_t (e.trans e2) h), q H2 e2⟩
theorem ev_all {bs : List Bool} (ha : EvL ta σ H (bs.map V.bl)) : Ev (tCB (rAll K) (tCons ta tNil)) σ H (.bl (bs.all id)) := fun H1 e Q q =>
  ha H1 e _ fun p H2 _ e2 h2 => ⟨p, bs, rfl, sq_of h2, q H2 e2⟩
theorem ev_any {bs : List Bool} (ha : EvL ta σ H (bs.map V.bl)) : Ev (tCB (rAny K) (tCons ta tNil)) σ H (.bl (bs.any id)) := fun H1 e Q q =>
  ha H1 e _ fun p H2 _ e2 h2 => ⟨p, bs, rfl, sq_of h2, q H2 e2⟩
theorem ev_sum {p : Addr} {ns : List Int} (ha : Ev ta σ H (.ref p)) (h : SqL K H p (ns.map V.int)) : Ev (tCB (rSum K) (tCons ta tNil)) σ H (.int ns.sum) := fun H1 e Q q =>
  ha H1 e _ fun H2 e2 => ⟨p, ns, rfl, ex_l (e.trans e2) h, q H2 e2⟩
theorem el_is {xs ys : List V} (h : EvL te σ H xs) (e : xs = ys) : EvL te σ H ys := e ▸ h

theorem ty_mono {ty : Value} (e : Ex H H') (h : TyX K H x ty) : TyX K H' x ty := by
  cases h with
  | base b =>
    refine .base ?_
    cases b with
    | non => exact .non
    | bl i => exact .bl i
    | int i => exact .int i
    | str i => exact .str i
    | flt i => exact .flt i
    | lst q => exact .lst (e _ _ q)
    | frz q => exact .frz (e _ _ q)
    | tup q => exact .tup (e _ _ q)
    | dK q => exact .dK (e _ _ q)
    | dT q => exact .dT (e _ _ q)
    | ins q a b c d f => exact .ins (e _ _ q) a b c d f
  | byt b => exact .byt b
  | set q => exact .set (e _ _ q)
  | kList q c => exact .kList q c
  | kTuple q c => exact .kTuple q c
  | kDict q c => exact .kDict q c
  | fTuple q => exact .fTuple (e _ _ q)
  | fDict q => exact .fDict (e _ _ q)

/-! ### comprehensions without a test -/
theorem given_all {n : Nat} {f : Nat → Bool} {v : Nat → V} (h : ∀ i, f i = true) : given n f v = (List.range n).map v := by
  unfold given
  congr 1
  exact List.filter_eq_self.mpr fun i _ => h i
theorem et_yes : EvT tYes σ H true := fun H1 _ _ q => q H1 (Ex.refl H1)
theorem el_map {a : Addr} {xs : List V} {tl : TE} {j : Nat} {vs : List Nat} (v : Nat → V) (h : Ev tl σ H (.ref a)) (hx : SqL K H a xs) (hz : xs.length ≤ 40000) (hw : ∀ x, wipe ((wipe σ vs).set j (some x)) vs = wipe σ vs)
    (he : ∀ (i : Nat) (x : V) H1, Ex H H1 → xs[i]? = some x → Ev te ((wipe σ vs).set j (some x)) H1 (v i)) : EvL (tLc (iList K tl) (gName j) tYes te vs) σ H ((List.range xs.length).map v) :=
  el_is (el_lcL (fun _ => true) v h hx hz hw (fun _ _ _ _ _ => et_yes) fun i x H1 e hi _ => he i x H1 e hi) (given_all fun _ => rfl)
theorem map_range {α β : Type} {l : List α} {d : α} {f : α → β} : (List.range l.length).map (fun i => f (l.getD i d)) = l.map f := by
  refine List.ext_getElem? fun i => ?_
  simp only [List.getElem?_map]
  by_cases h : i < l.length
  · rw [List.getElem?_range h, List.getElem?_eq_getElem h]
    show some (f (l.getD i d)) = some (f l[i])
    rw [List.getD_eq_getElem?_getD, List.getElem?_eq_getElem h]
    rfl
  · rw [List.getElem?_eq_none (by simpa using h), List.getElem?_eq_none (by simpa using h)]
    rfl

/-! ### sayings -/
/-- a saying: a tuple of three numbers -/
def TupAt (K : PySem.W.Frag) (H : Hp) (v : V) (s : Say) : Prop := ∃ t, v = .ref t ∧ SqT K H t [.int (s.1 : Int), .int (s.2.1 : Int), .int s.2.2]
def Says (K : PySem.W.Frag) (H : Hp) (a : Addr) (ss : List Say) : Prop := ss.length ≤ 1000 ∧ ∃ xs, SqL K H a xs ∧ Paired (TupAt K H) xs ss
abbrev iV (hs : List Int) : List V := hs.map V.int
theorem paired_at {α β : Type} {F : α → β → Prop} {xs : List α} {ys : List β} (r : Paired F xs ys) : ∀ i : Nat, (xs[i]? = none ∧ ys[i]? = none) ∨ ∃ x y, xs[i]? = some x ∧ ys[i]? = some y ∧ F x y := by
  induction r with
  | nil => exact fun i => .inl ⟨rfl, rfl⟩
  | cons r _ ih => exact fun i => match i with
    | 0 => .inr ⟨_, _, rfl, rfl, r⟩
    | i + 1 => ih i
theorem paired_get {α β : Type} {F : α → β → Prop} {xs : List α} {ys : List β} {i : Nat} {x : α} (r : Paired F xs ys) (e : xs[i]? = some x) : ∃ y, ys[i]? = some y ∧ F x y := by
  rcases paired_at r i with ⟨n, -⟩ | ⟨_, y, e1, e2, h⟩
  · exact nomatch n.symm.trans e
  · exact ⟨y, e2, Option.some.inj (e1.symm.trans e) ▸ h⟩
theorem paired_getR {α β : Type} {F : α → β → Prop} {xs : List α} {ys : List β} {i : Nat} {y : β} (r : Paired F xs ys) (e : ys[i]? = some y) : ∃ x, xs[i]? = some x ∧ F x y := by
  rcases paired_at r i with ⟨-, n⟩ | ⟨x, _, e1, e2, h⟩
  · exact nomatch n.symm.trans e
  · exact ⟨x, e1, Option.some.inj (e2.symm.trans e) ▸ h⟩
theorem TupAt.mono {s : Say} (e : Ex H H') (h : TupAt K H v s) : TupAt K H' v s := by
  obtain ⟨t, e1, e2⟩ := h
  exact ⟨t, e1, ex_t e e2⟩
theorem Says.mono {a : Addr} {ss : List Say} (e : Ex H H') (h : Says K H a ss) : Says K H' a ss := by
  obtain ⟨hz, xs, h1, h2⟩ := h
  exact ⟨hz, xs, ex_l e h1, L2.Paired.mapP h2 fun _ _ => TupAt.mono e⟩
theorem Says.len {a : Addr} {ss : List Say} {xs : List V} (h : Paired (TupAt K H) xs ss) : xs.length = ss.length := Paired.length h

theorem at_iV {hs : List Int} {i : Nat} (h : i < hs.length) : atI (iV hs) (i : Int) = some (V.int (hs.getD i 0)) := by
  refine atI_nat ?_
  rw [List.getElem?_map, List.getD_eq_getElem?_getD, List.getElem?_eq_getElem h]
  rfl
end
end Am

/-! ### the head's facts: He's, and tests of one's own beside -/
namespace Am
open PySem PySem.Spec PyProof.Rows L2
def obsX (ck : List (PySem.W.Frag → Bool)) (fa : List He.Fa) (fn : List He.DefD) (K : PySem.W.Frag) : He.AlD := (ck.all (fun c => c K) && (He.obsD fa fn K).1, (He.obsD fa fn K).2)
def SaysX (ck : List (PySem.W.Frag → Bool)) (fa : List He.Fa) (fn : List He.DefD) (K : PySem.W.Frag) : Prop := obsX ck fa fn K = He.valD fn
def obsXG (n : Nat) (ck : List (PySem.W.Frag → Bool)) (fa : List He.Fa) (fn : List He.DefD) (g : Addr → Option Obj) : He.AlD := obsX ck fa fn (He.frG g (He.asD g n))
/-- a hook of what is read of a piece of the heap: that it is as it should be -/
def hookOf {α : Type} (n : Nat) (read : PySem.W.Frag → α) (good : α) : PySem.W.Hook where
  α := α
  obs s := read (He.frG s.heap.get? (He.asD s.heap.get? n))
  val _ := good
  says _ h := ∃ K : PySem.W.Frag, K.In h ∧ read K = good
  of _ _ same := ⟨_, He.frG_in, same⟩
  keeps _ _ _ was up := was.imp fun _ k => ⟨k.1.keeps up, k.2⟩
def hookX (n : Nat) (ck : List (PySem.W.Frag → Bool)) (fa : List He.Fa) (fn : List He.DefD) : PySem.W.Hook := hookOf n (obsX ck fa fn) (He.valD fn)
theorem obsXG_eq {n : Nat} {ck : List (PySem.W.Frag → Bool)} {fa : List He.Fa} {fn : List He.DefD} {g : Addr → Option Obj} {s : Shared} (h : ∀ a, g a = s.heap.get? a) : obsXG n ck fa fn g = (hookX n ck fa fn).obs s := by
  obtain rfl : g = s.heap.get? := funext h
  rfl
theorem SaysX.d {ck : List (PySem.W.Frag → Bool)} {fa : List He.Fa} {fn : List He.DefD} {K : PySem.W.Frag} (c : SaysX ck fa fn K) : He.SaysD fa fn K := by
  have c1 : (ck.all (fun c => c K) && (He.obsD fa fn K).1) = true := congrArg (fun z : He.AlD => z.1) c
  have c2 : (He.obsD fa fn K).2 = fn.map He.DefD.val := congrArg (fun z : He.AlD => z.2) c
  have e1 := (He.ba c1).2
  unfold He.SaysD He.valD
  rw [← c2, ← e1]
theorem SaysX.ck {ck : List (PySem.W.Frag → Bool)} {fa : List He.Fa} {fn : List He.DefD} {K : PySem.W.Frag} (c : SaysX ck fa fn K) (i : Nat) {f : PySem.W.Frag → Bool} (h : ck[i]? = some f := by rfl) : f K = true := by
  have c1 : (ck.all (fun c => c K) && (He.obsD fa fn K).1) = true := congrArg (fun z : He.AlD => z.1) c
  exact List.all_eq_true.mp (He.ba c1).1 f (List.mem_of_getElem? h)
end Am

namespace Am
open PySem L2 Evl
open He (ga ma)
def kinds : List String := ["NoneType", "bool", "int", "str", "list", "tuple", "dict"]
def isI : V → Bool
  | .int _ => true
  | _ => false
/-- a thing of one of these kinds -/
def Kn (K : PySem.W.Frag) (H : Hp) (x : V) : Prop := ∃ tn, TyX K H x (.type tn) ∧ tn ∈ kinds ∧ isI x = decide (tn = "int")
def isB (n : Int) : V → Bool
  | .int i => decide (0 ≤ i) && decide (i < n)
  | _ => false
def okTup (n : Int) : List V → Bool
  | [a, b, c] => isB n a && (isB n b && isI c)
  | _ => false
def oV : Option Int → V
  | none => .non
  | some i => .int i
theorem Kn.mono {K : PySem.W.Frag} {H H' : Hp} {x : V} (e : Ex H H') (h : Kn K H x) : Kn K H' x := by
  obtain ⟨tn, h1, h2⟩ := h
  exact ⟨tn, ty_mono e h1, h2⟩
theorem kn_int {K : PySem.W.Frag} {H : Hp} (i : Int) : Kn K H (.int i) := ⟨"int", ty_int, by decide, rfl⟩

def sp_is_number (K : PySem.W.Frag) : Sp := Pur fun vs H z => ∃ x, vs = [x] ∧ Kn K H x ∧ z = .bl (isI x)
def sp_is_below (K : PySem.W.Frag) : Sp := Pur fun vs H z => ∃ x n, vs = [x, .int n] ∧ Kn K H x ∧ z = .bl (isB n x)
def sp_is_saying (K : PySem.W.Frag) : Sp := Pur fun vs H z => ∃ x n, vs = [x, .int n] ∧ ((∃ tn, TyX K H x (.type tn) ∧ tn ∈ kinds ∧ tn ≠ "tuple" ∧ z = .bl false) ∨ ∃ t xs, x = .ref t ∧ SqT K H t xs ∧ (∀ y ∈ xs, Kn K H y) ∧ z = .bl (okTup n xs))
/-- of what is right -/
def sp_check_sayings (K : PySem.W.Frag) : Sp := Pur fun vs H z => ∃ (n : Nat) (a : Addr) (ss : List Say), vs = [.int (n : Int), .ref a] ∧ 0 < n ∧ Says K H a ss ∧ Ok n ss ∧ z = .non
def sp_check_places (K : PySem.W.Frag) : Sp := Pur fun vs H z => ∃ (n p q : Nat), vs = [.int (n : Int), .int (p : Int), .int (q : Int)] ∧ p < n ∧ q < n ∧ z = .non
def sp_keep (K : PySem.W.Frag) : Sp := Pur fun vs H z => ∃ (v : V) (b : Addr) (s : Say) (hs : List Int), vs = [v, .ref b] ∧ TupAt K H v s ∧ SqL K H b (iV hs) ∧ s.1 < hs.length ∧ s.2.1 < hs.length ∧ z = .bl (keeps hs s)
def sp_keep_all (K : PySem.W.Frag) : Sp := Pur fun vs H z => ∃ (n : Nat) (a b : Addr) (ss : List Say) (hs : List Int), vs = [.int (n : Int), .ref a, .ref b] ∧ Says K H a ss ∧ Ok n ss ∧ SqL K H b (iV hs) ∧ z = .bl (keepAll n ss hs)
def sp_sum_along (K : PySem.W.Frag) : Sp := Pur fun vs H z => ∃ (a c : Addr) (ss : List Say) (ch : List Int) (p q : Nat), vs = [.ref a, .ref c, .int (p : Int), .int (q : Int)] ∧ Says K H a ss ∧ SqL K H c (iV ch) ∧ z = oV (sumAlong ss ch p q)
def sp_kept (K : PySem.W.Frag) : Sp := Pur fun vs H z => ∃ (n : Nat) (a b : Addr) (ss : List Say) (hs : List Int), vs = [.int (n : Int), .ref a, .ref b] ∧ 0 < n ∧ Says K H a ss ∧ Ok n ss ∧ SqL K H b (iV hs) ∧ hs.length = n ∧ n ≤ 1000 ∧ z = .bl (keepAll n ss hs)
/-- the sum, or it is refused -/
def sp_sum_of (K : PySem.W.Frag) : Sp := fun vs H Q E => ∃ (n : Nat) (a c : Addr) (ss : List Say) (ch : List Int) (p q : Nat), vs = [.int (n : Int), .ref a, .ref c, .int (p : Int), .int (q : Int)] ∧ 0 < n ∧ Says K H a ss ∧ Ok n ss ∧ p < n ∧ q < n ∧
  SqL K H c (iV ch) ∧ ch.length ≤ 1000 ∧ (∀ x ∈ ch, 0 ≤ x ∧ x < (ss.length : Int)) ∧
  (∀ W, sumAlong ss ch p q = some W → ∀ H2, Ex H H2 → Q (.int W) H2) ∧ (sumAlong ss ch p q = none → ∀ H2, Ex H H2 → E (.ref (ga K "BadNumber")) none H2)
end Am

namespace Am
open PySem L2 Evl
open He (ga ma)
def t_is_number (K : PySem.W.Frag) : TS := tRet (tAndV (tCB (rIsi K) (tCons (tVar 0) (tCons ((tC (.ty "int"))) (tNil)))) (tNotV (tCB (rIsi K) (tCons (tVar 0) (tCons ((tC (.ty "bool"))) (tNil))))))
def t_is_below (K : PySem.W.Frag) : TS := tRet (tAndV (tCall (sp_is_number K) [] E0 (tCons (tVar 0) (tNil))) (tChain rLeI rLtI (tC (.int 0)) (tVar 0) (tVar 1)))
def t_is_saying (K : PySem.W.Frag) : TS := tSeq (tIfS (tOr (tNot (tB (tCB (rIsi K) (tCons (tVar 0) (tCons ((tC (.ty "tuple"))) (tNil)))))) (tTest (tOp rNe (tCB (rLenS K) (tCons (tVar 0) (tNil))) (tC (.int 3))))) (tRet (tC (.bl false))) (tNext)) (tRet (tAndV (tCall (sp_is_below K) [] E0 (tCons (tOp (rIxT K) (tVar 0) (tC (.int 0))) (tCons (tVar 1) (tNil)))) (tAndV (tCall (sp_is_below K) [] E0 (tCons (tOp (rIxT K) (tVar 0) (tC (.int 1))) (tCons (tVar 1) (tNil)))) (tCall (sp_is_number K) [] E0 (tCons (tOp (rIxT K) (tVar 0) (tC (.int 2))) (tNil))))))
def t_check_sayings (K : PySem.W.Frag) : TS := tSeq (tIfS (tOr (tNot (tB (tCall (sp_is_number K) [] E0 (tCons (tVar 0) (tNil))))) (tTest (tOp rLtI (tVar 0) (tC (.int 1))))) (tNever) (tNext)) (tIfS (tOr (tNot (tB (tCB (rIsi K) (tCons (tVar 1) (tCons ((tC (.ty "list"))) (tNil)))))) (tNot (tB (tCB (rAll K) (tCons (tLc (iList K (tVar 1)) (gName 2) (tYes) (tCall (sp_is_saying K) [] E0 (tCons (tVar 2) (tCons (tVar 0) (tNil)))) [2]) (tNil)))))) (tNever) (tNext))
def t_check_places (K : PySem.W.Frag) : TS := tIfS (tOr (tNot (tB (tCall (sp_is_below K) [] E0 (tCons (tVar 1) (tCons (tVar 0) (tNil)))))) (tNot (tB (tCall (sp_is_below K) [] E0 (tCons (tVar 2) (tCons (tVar 0) (tNil))))))) (tNever) (tNext)
def t_keep (K : PySem.W.Frag) : TS := tRet (tOp rLeI (tOp rSubI (tOp (rIxL K) (tVar 1) (tOp (rIxT K) (tVar 0) (tC (.int 1)))) (tOp (rIxL K) (tVar 1) (tOp (rIxT K) (tVar 0) (tC (.int 0))))) (tOp (rIxT K) (tVar 0) (tC (.int 2))))
def t_keep_all (K : PySem.W.Frag) : TS := tRet (tAndV (tOp rEq (tCB (rLenS K) (tCons (tVar 2) (tNil))) (tVar 0)) (tCB (rAll K) (tCons (tLc (iList K (tVar 1)) (gName 3) (tYes) (tCall (sp_keep K) [] E0 (tCons (tVar 3) (tCons (tVar 2) (tNil)))) [3]) (tNil))))
def t_sum_along (K : PySem.W.Frag) : TS := tSeq (tAsg (tC (.int 0)) (gName 4)) (tSeq (tAsg (tVar 2) (gName 5)) (tSeq (tFor (iList K (tVar 1)) (gName 6) (tSeq (tIfS (tOr (tNot (tTest (tChain rLeI rLtI (tC (.int 0)) (tVar 6) (tCB (rLenS K) (tCons (tVar 0) (tNil)))))) (tTest (tOp rNe (tOp (rIxT K) (tOp (rIxL K) (tVar 0) (tVar 6)) (tC (.int 0))) (tVar 5)))) (tRet (tC .non)) (tNext)) (tSeq (tAsg (tOp (rIxT K) (tOp (rIxL K) (tVar 0) (tVar 6)) (tC (.int 1))) (gName 5)) (tAsg (tOp rAddI (tVar 4) (tOp (rIxT K) (tOp (rIxL K) (tVar 0) (tVar 6)) (tC (.int 2)))) (gName 4))))) (tSeq (tIfS (tTest (tOp rNe (tVar 5) (tVar 3))) (tRet (tC .non)) (tNext)) (tRet (tVar 4)))))
def t_kept (K : PySem.W.Frag) : TS := tSeq (tDrop (tCall (sp_check_sayings K) [] E0 (tCons (tVar 0) (tCons (tVar 1) (tNil))))) (tSeq (tIfS (tOr (tNot (tB (tCB (rIsi K) (tCons (tVar 2) (tCons ((tC (.ty "list"))) (tNil)))))) (tOr (tTest (tOp rNe (tCB (rLenS K) (tCons (tVar 2) (tNil))) (tVar 0))) (tNot (tB (tCB (rAll K) (tCons (tLc (iList K (tVar 2)) (gName 3) (tYes) (tCall (sp_is_number K) [] E0 (tCons (tVar 3) (tNil))) [3]) (tNil))))))) (tNever) (tNext)) (tRet (tCall (sp_keep_all K) [] E0 (tCons (tVar 0) (tCons (tVar 1) (tCons (tVar 2) (tNil)))))))
abbrev Bd (Q : VK) : Ends := { nx := fun _ H' => Q .non H', rt := Q }
section
variable {K : PySem.W.Frag} {vs : List V} {H : Hp} {Q : VK} {E : XK}
theorem pure_is_number (h : sp_is_number K vs H Q E) : t_is_number K (Bd Q) (start ["thing"] vs) H := by
  obtain ⟨z, ⟨x, rfl, ⟨tn, ty, mem, hi⟩, rfl⟩, q⟩ := h
  have T : ∀ H1, Ex H H1 → TyX K H1 x (.type tn) := fun H1 e => ty_mono e ty
  have key : kitB tn "int" = some (decide (tn = "int" ∨ tn = "bool")) ∧ kitB tn "bool" = some (decide (tn = "bool")) ∧ (decide (tn = "int" ∨ tn = "bool") && !decide (tn = "bool")) = isI x := by
    rw [hi]
    simp only [kinds, List.mem_cons, List.not_mem_nil, or_false] at mem
    rcases mem with rfl | rfl | rfl | rfl | rfl | rfl | rfl <;> exact ⟨by decide +kernel, by decide +kernel, by decide⟩
  obtain ⟨ka, kb, e⟩ := key
  refine s_ret (v := .bl (isI x)) ?_ q
  rw [← e]
  exact ev_andV (ev_isi (ev_var rfl) T ka) fun _ => ev_notV (ev_isi (ev_var rfl) T kb)
theorem ev_num {ta : TE} {σ : L2.St} {x : V} (ha : Ev ta σ H x) (k : Kn K H x) : Ev (tCall (sp_is_number K) [] E0 (tCons ta tNil)) σ H (.bl (isI x)) :=
  ev_pur (ea_cons ha ea_nil) fun H1 e => ⟨x, rfl, k.mono e, rfl⟩
theorem pure_is_below (h : sp_is_below K vs H Q E) : t_is_below K (Bd Q) (start ["thing", "count"] vs) H := by
  obtain ⟨z, ⟨x, n, rfl, k, rfl⟩, q⟩ := h
  refine s_ret (v := .bl (isB n x)) ?_ q
  have e : isB n x = (isI x && isB n x) := by cases x <;> rfl
  rw [e]
  refine ev_andV (ev_num (ev_var rfl) k) fun hx => ?_
  cases x with
  | int i => exact ev_chain ev_c (ev_var rfl) rv_I0 (fun _ => ev_var rfl) fun _ => rv_I0
  | _ => cases hx
theorem ev_below {ta tb : TE} {σ : L2.St} {x : V} {n : Int} (ha : Ev ta σ H x) (hb : Ev tb σ H (.int n)) (k : Kn K H x) : Ev (tCall (sp_is_below K) [] E0 (tCons ta (tCons tb tNil))) σ H (.bl (isB n x)) :=
  ev_pur (ea_cons ha (ea_cons hb ea_nil)) fun H1 e => ⟨x, n, rfl, k.mono e, rfl⟩
theorem pure_is_saying (h : sp_is_saying K vs H Q E) : t_is_saying K (Bd Q) (start ["thing", "count"] vs) H := by
  obtain ⟨z, ⟨x, n, rfl, h⟩, q⟩ := h
  rcases h with ⟨tn, ty, mem, ne, rfl⟩ | ⟨t, xs, rfl, hT, kn, rfl⟩
  · have T : ∀ H1, Ex H H1 → TyX K H1 x (.type tn) := fun H1 e => ty_mono e ty
    have key : kitB tn "tuple" = some false := by
      simp only [kinds, List.mem_cons, List.not_mem_nil, or_false] at mem
      rcases mem with rfl | rfl | rfl | rfl | rfl | rfl | rfl <;> first | decide +kernel | exact absurd rfl ne
    refine q_when (b := true) (et_or (a := true) (b := false) (et_not (a := false) (et_B (ev_isi (ev_var rfl) T key))) fun e => nomatch e) (fun _ H1 e1 => ?_) (fun e => nomatch e)
    exact s_ret ev_c fun H2 e2 => q H2 (e1.trans e2)
  · have T : ∀ H1, Ex H H1 → TyX K H1 (.ref t) (.type "tuple") := fun H1 e => ty_T (ex_t e hT)
    refine q_when (b := !decide (V.int (xs.length : Int) = V.int 3)) (et_is (et_or (a := false) (et_not (a := true) (et_B (ev_isi (ev_var rfl) T (by decide +kernel)))) fun _ => et_test (ev_op (ev_lenT (ev_var rfl) hT) ev_c (rv_ne rfl))) (Bool.false_or _)) (fun hb H1 e1 => ?_) (fun hb H1 e1 => ?_)
    · have hl : xs.length ≠ 3 := fun z => by rw [z] at hb; exact absurd hb (by decide)
      have e : okTup n xs = false := by
        match xs, hl with
        | [], _ => rfl
        | [_], _ => rfl
        | [_, _], _ => rfl
        | [_, _, _], h => exact absurd rfl h
        | _ :: _ :: _ :: _ :: _, _ => rfl
      refine s_ret ev_c fun H2 e2 => ?_
      have := q H2 (e1.trans e2)
      rw [e] at this
      exact this
    · have hl : xs.length = 3 := by
        have h2 : decide (V.int (xs.length : Int) = V.int 3) = true := by simpa using hb
        have h3 := of_decide_eq_true h2
        injection h3 with h4
        omega
      obtain ⟨a, b, c, rfl⟩ : ∃ a b c, xs = [a, b, c] := by
        match xs, hl with
        | [a, b, c], _ => exact ⟨a, b, c, rfl⟩
      have hT1 := ex_t e1 hT
      have ix : ∀ (i : Int) (v : V), atI [a, b, c] i = some v → Ev (tOp (rIxT K) (tVar 0) (tC (.int i))) (start ["thing", "count"] [V.ref t, V.int n]) H1 v := fun i v hv => ev_op (ev_var rfl) ev_c (rv_ixT hT1 hv)
      have kk : ∀ y ∈ [a, b, c], Kn K H1 y := fun y hy => (kn y hy).mono e1
      refine s_ret (ev_andV (ev_below (ix 0 a rfl) (ev_var rfl) (kk a (by simp))) fun _ => ev_andV (ev_below (ix 1 b rfl) (ev_var rfl) (kk b (by simp))) fun _ => ev_num (ix 2 c rfl) (kk c (by simp))) fun H2 e2 => q H2 (e1.trans e2)
end
end Am

namespace Am
open PySem L2 Evl
open He (ga ma)
section
variable {K : PySem.W.Frag} {vs : List V} {H : Hp} {Q : VK} {E : XK}
theorem tup_okTup {n : Nat} {s : Say} (h : s.1 < n ∧ s.2.1 < n) : okTup (n : Int) [.int (s.1 : Int), .int (s.2.1 : Int), .int s.2.2] = true := by
  obtain ⟨h1, h2⟩ := h
  have e : ∀ {p : Nat}, p < n → isB (n : Int) (.int (p : Int)) = true := fun {p} hp => by
    unfold isB
    simp only [decide_eq_true_eq, Bool.and_eq_true]
    omega
  show (isB (n : Int) (.int (s.1 : Int)) && (isB (n : Int) (.int (s.2.1 : Int)) && true)) = true
  rw [e h1, e h2]
  rfl
theorem kit_ll : kitB "list" "list" = some true := by decide +kernel
theorem ev_saying {ta tb : TE} {σ : L2.St} {x : V} {n : Nat} {s : Say} (ha : Ev ta σ H x) (hb : Ev tb σ H (.int (n : Int))) (k : TupAt K H x s) (h : s.1 < n ∧ s.2.1 < n) : Ev (tCall (sp_is_saying K) [] E0 (tCons ta (tCons tb tNil))) σ H (.bl true) :=
  ev_pur (ea_cons ha (ea_cons hb ea_nil)) fun H1 e => ⟨x, n, rfl, by
    obtain ⟨t, rfl, hT⟩ := k
    refine .inr ⟨t, _, rfl, ex_t e hT, fun y hy => ?_, by rw [tup_okTup h]⟩
    simp only [List.mem_cons, List.not_mem_nil, or_false] at hy
    rcases hy with rfl | rfl | rfl <;> exact kn_int _⟩
theorem all_true {n : Nat} {f : Nat → Bool} (h : ∀ i, i < n → f i = true) : ((List.range n).map f).all id = true := by
  rw [List.all_eq_true]
  intro b hb
  obtain ⟨i, hi, rfl⟩ := List.mem_map.mp hb
  exact h i (List.mem_range.mp hi)
theorem pure_check_sayings (h : sp_check_sayings K vs H Q E) : t_check_sayings K (Bd Q) (start ["count", "sayings", "saying"] vs) H := by
  obtain ⟨z, ⟨n, a, ss, rfl, hn, hS, ok, rfl⟩, q⟩ := h
  obtain ⟨hz, xs, hL, hp⟩ := hS
  have hlen : xs.length = ss.length := Paired.length hp
  refine q_when (b := false) (et_is (et_or (et_not (et_B (ev_num (ev_var rfl) (kn_int _)))) fun _ => et_test (ev_op (ev_var rfl) ev_c rv_I0)) ?_) (fun e => nomatch e) fun _ H1 e1 => ?_
  · show (!true || decide ((n : Int) < 1)) = false
    simp
    omega
  have hL1 := ex_l e1 hL
  refine s_when (b := false) (et_is (et_or (et_not (et_B (ev_isi (tn := "list") (ev_var rfl) (fun H2 e2 => ty_L (ex_l e2 hL1)) kit_ll))) fun _ => et_not (et_B (ev_all (bs := (List.range xs.length).map fun _ => true) (el_is (el_map (fun _ => .bl true) (ev_var rfl) hL1 (by omega) (fun _ => rfl) fun i x H2 e2 hi => ?_) (by rw [List.map_map] <;> rfl))))) ?_) (fun e => nomatch e) fun _ H2 e2 => q H2 (e1.trans e2)
  · obtain ⟨s, hs, ht⟩ := paired_get hp hi
    exact ev_saying (ev_var rfl) (ev_var rfl) (ht.mono (e1.trans e2)) (ok.get hs)
  · rw [all_true fun _ _ => rfl]
    rfl
theorem isB_nat {p n : Nat} (h : p < n) : isB (n : Int) (.int (p : Int)) = true := by
  unfold isB
  simp only [decide_eq_true_eq, Bool.and_eq_true]
  omega
theorem pure_check_places (h : sp_check_places K vs H Q E) : t_check_places K (Bd Q) (start ["count", "one", "other"] vs) H := by
  obtain ⟨z, ⟨n, p, q, rfl, hp, hq, rfl⟩, k⟩ := h
  refine s_when (b := false) (et_is (et_or (et_not (et_B (ev_below (ev_var rfl) (ev_var rfl) (kn_int _)))) fun _ => et_not (et_B (ev_below (ev_var rfl) (ev_var rfl) (kn_int _)))) ?_) (fun e => nomatch e) fun _ H2 e2 => k H2 e2
  rw [isB_nat hp, isB_nat hq]
  rfl
theorem pure_keep (h : sp_keep K vs H Q E) : t_keep K (Bd Q) (start ["saying", "heights"] vs) H := by
  obtain ⟨z, ⟨v, b, s, hs, rfl, ⟨t, rfl, hT⟩, hL, h1, h2, rfl⟩, q⟩ := h
  have ix : ∀ (i : Int) (v : V), atI [V.int (s.1 : Int), .int (s.2.1 : Int), .int s.2.2] i = some v → Ev (tOp (rIxT K) (tVar 0) (tC (.int i))) (start ["saying", "heights"] [V.ref t, V.ref b]) H v := fun i v hv => ev_op (ev_var rfl) ev_c (rv_ixT hT hv)
  refine s_ret (ev_op (ev_op (ev_op (ev_var rfl) (ix 1 _ rfl) (rv_ixL hL (at_iV h2))) (ev_op (ev_var rfl) (ix 0 _ rfl) (rv_ixL hL (at_iV h1))) rv_I0) (ix 2 _ rfl) rv_I0) q
theorem ev_keep {ta tb : TE} {σ : L2.St} {v : V} {b : Addr} {s : Say} {hs : List Int} (ha : Ev ta σ H v) (hb : Ev tb σ H (.ref b)) (k : TupAt K H v s) (hL : SqL K H b (iV hs)) (h1 : s.1 < hs.length) (h2 : s.2.1 < hs.length) : Ev (tCall (sp_keep K) [] E0 (tCons ta (tCons tb tNil))) σ H (.bl (keeps hs s)) :=
  ev_pur (ea_cons ha (ea_cons hb ea_nil)) fun H1 e => ⟨v, b, s, hs, rfl, k.mono e, ex_l e hL, h1, h2, rfl⟩
theorem all_map_id {α : Type} {l : List α} {f : α → Bool} : (l.map f).all id = l.all f := by
  rw [List.all_map]; rfl
theorem dec_len {a b : Nat} : decide (V.int (a : Int) = V.int (b : Int)) = decide (a = b) := by
  by_cases h : a = b
  · subst h; simp
  · rw [decide_eq_false h, decide_eq_false fun z => h (by injection z with z; omega)]
theorem pure_keep_all (h : sp_keep_all K vs H Q E) : t_keep_all K (Bd Q) (start ["count", "sayings", "heights", "saying"] vs) H := by
  obtain ⟨z, ⟨n, a, b, ss, hs, rfl, ⟨hz, xs, hA, hp⟩, ok, hB, rfl⟩, q⟩ := h
  have hlen : xs.length = ss.length := Paired.length hp
  refine s_ret (v := .bl (keepAll n ss hs)) (ev_is (ev_andV (ev_op (ev_len (ev_var rfl) hB) (ev_var rfl) (rv_eq rfl)) fun hl => ev_all (bs := ss.map (keeps hs)) (el_is (el_map (fun i => .bl (keeps hs (ss.getD i z0))) (ev_var rfl) hA (by omega) (fun _ => rfl) fun i x H2 e2 hi => ?_) ?_)) ?_) q
  · have hl2 : hs.length = n := by
      have := of_decide_eq_true hl
      injection this with this
      rw [List.length_map] at this
      omega
    obtain ⟨s, hs', ht⟩ := paired_get hp hi
    rw [getD_some hs']
    have := ok.get hs'
    exact ev_keep (ev_var rfl) (ev_var rfl) (ht.mono e2) (ex_l e2 hB) (by omega) (by omega)
  · rw [hlen, map_range (f := fun s => V.bl (keeps hs s)), List.map_map]
    rfl
  · rw [all_map_id, List.length_map, dec_len]
    rfl
theorem ev_keep_all {ta tb tc : TE} {σ : L2.St} {n : Nat} {a b : Addr} {ss : List Say} {hs : List Int} (h1 : Ev ta σ H (.int (n : Int))) (h2 : Ev tb σ H (.ref a)) (h3 : Ev tc σ H (.ref b)) (hS : Says K H a ss) (ok : Ok n ss) (hB : SqL K H b (iV hs)) : Ev (tCall (sp_keep_all K) [] E0 (tCons ta (tCons tb (tCons tc tNil)))) σ H (.bl (keepAll n ss hs)) :=
  ev_pur (ea_cons h1 (ea_cons h2 (ea_cons h3 ea_nil))) fun H1 e => ⟨n, a, b, ss, hs, rfl, hS.mono e, ok, ex_l e hB, rfl⟩
theorem Says.at {a : Addr} {ss : List Say} (h : Says K H a ss) {i : Nat} {s : Say} (e : ss[i]? = some s) : ∃ xs v, SqL K H a xs ∧ atI xs (i : Int) = some v ∧ TupAt K H v s := by
  obtain ⟨_, xs, hL, hp⟩ := h
  obtain ⟨v, hv, ht⟩ := paired_getR hp e
  exact ⟨xs, v, hL, atI_nat hv, ht⟩
/-- sayings[i][j] -/
theorem ev_part {ta tb : TE} {σ : L2.St} {a : Addr} {ss : List Say} {i : Nat} {s : Say} {j : Int} {v : V} (hS : Says K H a ss) (e : ss[i]? = some s) (ha : Ev ta σ H (.ref a)) (hb : Ev tb σ H (.int (i : Int))) (hv : atI [V.int (s.1 : Int), .int (s.2.1 : Int), .int s.2.2] j = some v) : Ev (tOp (rIxT K) (tOp (rIxL K) ta tb) (tC (.int j))) σ H v := by
  obtain ⟨xs, w, hL, hx, t, rfl, hT⟩ := hS.at e
  exact ev_op (ev_op ha hb (rv_ixL hL hx)) ev_c (rv_ixT hT hv)
theorem ev_lenS {ta : TE} {σ : L2.St} {a : Addr} {ss : List Say} (hS : Says K H a ss) (ha : Ev ta σ H (.ref a)) : Ev (tCB (rLenS K) (tCons ta tNil)) σ H (.int (ss.length : Int)) := by
  obtain ⟨hz, xs, hL, hp⟩ := hS
  have := ev_len ha hL
  rw [Paired.length hp] at this
  exact this
theorem dec_nat {a b : Nat} : decide (V.int (a : Int) = V.int (b : Int)) = decide (a = b) := dec_len
/-- the test of one step of a chain -/
theorem et_step {σ : L2.St} {a : Addr} {ss : List Say} {p : Nat} {x : Int} (hS : Says K H a ss) (h0 : σ[0]? = some (some (V.ref a))) (h6 : σ[6]? = some (some (V.int x))) (h5 : σ[5]? = some (some (V.int (p : Int)))) :
    EvT (tOr (tNot (tTest (tChain rLeI rLtI (tC (.int 0)) (tVar 6) (tCB (rLenS K) (tCons (tVar 0) (tNil)))))) (tTest (tOp rNe (tOp (rIxT K) (tOp (rIxL K) (tVar 0) (tVar 6)) (tC (.int 0))) (tVar 5)))) σ H
      (match sayAt ss x with | some s => !decide (s.1 = p) | none => true) := by
  have c : EvT (tTest (tChain rLeI rLtI (tC (.int 0)) (tVar 6) (tCB (rLenS K) (tCons (tVar 0) (tNil))))) σ H (decide ((0 : Int) ≤ x) && decide (x < (ss.length : Int))) :=
    et_test (ev_chain ev_c (ev_var h6) rv_I0 (fun _ => ev_lenS hS (ev_var h0)) fun _ => rv_I0)
  cases hs : sayAt ss x with
  | none =>
    have e : (decide ((0 : Int) ≤ x) && decide (x < (ss.length : Int))) = false := by
      unfold sayAt at hs
      by_cases h : 0 ≤ x
      · rw [if_pos h] at hs
        have := List.getElem?_eq_none_iff.mp hs
        rw [decide_eq_true h, Bool.true_and]
        refine decide_eq_false ?_; omega
      · rw [decide_eq_false h, Bool.false_and]
    exact et_is (et_or (b := false) (et_not c) fun z => by rw [e] at z; cases z) (by rw [e]; rfl)
  | some s =>
    unfold sayAt at hs
    by_cases h : 0 ≤ x
    · rw [if_pos h] at hs
      obtain ⟨k, rfl⟩ := Int.eq_ofNat_of_zero_le h
      have hs2 : ss[k]? = some s := hs
      have hk := (List.getElem?_eq_some_iff.mp hs2).1
      refine et_is (et_or (et_not c) fun _ => et_test (ev_op (ev_part hS hs2 (ev_var h0) (ev_var h6) rfl) (ev_var h5) (rv_ne rfl))) ?_
      rw [dec_nat, decide_eq_true (Int.natCast_nonneg k), Bool.true_and, decide_eq_true (by omega : (k : Int) < (ss.length : Int))]
      rfl
    · rw [if_neg h] at hs; cases hs
theorem sayAt_some {ss : List Say} {x : Int} {s : Say} (h : sayAt ss x = some s) : ∃ k : Nat, x = (k : Int) ∧ ss[k]? = some s := by
  unfold sayAt at h
  by_cases h0 : 0 ≤ x
  · rw [if_pos h0] at h
    obtain ⟨k, rfl⟩ := Int.eq_ofNat_of_zero_le h0
    exact ⟨k, rfl, h⟩
  · rw [if_neg h0] at h; cases h
theorem drop_at {α : Type} {l : List α} {i : Nat} {x : α} (h : l[i]? = some x) : l.drop i = x :: l.drop (i + 1) := by
  rcases List.getElem?_eq_some_iff.mp h with ⟨hi, e⟩
  rw [List.drop_eq_getElem_cons hi, e]
theorem iV_at {ch : List Int} {i : Nat} {v : V} (h : (iV ch)[i]? = some v) : ∃ x, ch[i]? = some x ∧ v = .int x := by
  rw [List.getElem?_map] at h
  cases e : ch[i]? with
  | none => rw [e] at h; exact nomatch h
  | some x => rw [e] at h; exact ⟨x, rfl, (Option.some.inj h).symm⟩
theorem pure_sum_along (h : sp_sum_along K vs H Q E) : t_sum_along K (Bd Q) (start ["sayings", "chain", "one", "other", "total", "place", "at"] vs) H := by
  obtain ⟨z, ⟨a, c, ss, ch, p, q, rfl, hS, hC, rfl⟩, k⟩ := h
  refine q_asg ev_c fun H1 e1 => q_asg (ev_var rfl) fun H2 e2 => ?_
  have e := e1.trans e2
  refine q_forLn (ev_var rfl) (ex_l e hC) (fun i σ' H' => ∃ (u : Nat) (t : Int) (w : Option V), σ' = [some (.ref a), some (.ref c), some (.int (p : Int)), some (.int (q : Int)), some (.int t), some (.int (u : Int)), w] ∧ Ex H H' ∧ sumAlong ss ch p q = ends q (run ss (ch.drop i) u t))
    (fun H3 e3 => ⟨p, 0, none, rfl, e.trans e3, rfl⟩) (fun i σ' H' _ ⟨_, _, _, _, e', _⟩ => ex_l e' hC) ?_ ?_
  · rintro i x σ' H' hi ⟨u, t, w, rfl, e', inv⟩
    obtain ⟨x, hx, rfl⟩ := iV_at hi
    rw [drop_at hx, run_cons] at inv
    have hS' := hS.mono e'
    refine q_when (et_step hS' rfl rfl rfl) (fun hb H3 e3 => ?_) fun hb H3 e3 => ?_
    · refine s_ret ev_c fun H4 e4 => ?_
      have kk := k H4 ((e'.trans e3).trans e4)
      rw [inv] at kk
      cases hs : sayAt ss x with
      | none =>
        rw [hs] at kk
        exact kk
      | some s =>
        obtain ⟨l, v, m⟩ := s
        rw [hs] at hb kk
        have ne : ¬ l = u := by simpa using hb
        simp only at kk
        rw [if_neg ne] at kk
        exact kk
    · cases hs : sayAt ss x with
      | none => rw [hs] at hb; cases hb
      | some s =>
        obtain ⟨l, v, m⟩ := s
        rw [hs] at hb inv
        have eq : l = u := by simpa using hb
        simp only at inv
        rw [if_pos eq] at inv
        obtain ⟨j, rfl, hj⟩ := sayAt_some hs
        have hS3 := hS'.mono e3
        refine q_asg (ev_part hS3 hj (ev_var rfl) (ev_var rfl) rfl) fun H4 e4 => ?_
        refine s_asg (ev_op (ev_var rfl) (ev_part (hS3.mono e4) hj (ev_var rfl) (ev_var rfl) rfl) rv_I0) fun H5 e5 => ?_
        exact ⟨v, t + m, _, rfl, ((e'.trans e3).trans e4).trans e5, inv⟩
  · rintro σ' H' ⟨u, t, w, rfl, e', inv⟩
    rw [List.length_map, List.drop_length] at inv
    have inv2 : sumAlong ss ch p q = if u = q then some t else none := inv
    refine q_when (et_test (ev_op (ev_var rfl) (ev_var rfl) (rv_ne rfl))) (fun hb H3 e3 => ?_) fun hb H3 e3 => ?_
    · have ne : ¬ u = q := by rw [dec_nat] at hb; simpa using hb
      refine s_ret ev_c fun H4 e4 => ?_
      have kk := k H4 ((e'.trans e3).trans e4)
      rw [inv2, if_neg ne] at kk
      exact kk
    · have eq : u = q := by rw [dec_nat] at hb; simpa using hb
      refine s_ret (ev_var rfl) fun H4 e4 => ?_
      have kk := k H4 ((e'.trans e3).trans e4)
      rw [inv2, if_pos eq] at kk
      exact kk
theorem ev_sum_along {ta tb tc td : TE} {σ : L2.St} {a c : Addr} {ss : List Say} {ch : List Int} {p q : Nat} (h1 : Ev ta σ H (.ref a)) (h2 : Ev tb σ H (.ref c)) (h3 : Ev tc σ H (.int (p : Int))) (h4 : Ev td σ H (.int (q : Int))) (hS : Says K H a ss) (hC : SqL K H c (iV ch)) :
    Ev (tCall (sp_sum_along K) [] E0 (tCons ta (tCons tb (tCons tc (tCons td tNil))))) σ H (oV (sumAlong ss ch p q)) :=
  ev_pur (ea_cons h1 (ea_cons h2 (ea_cons h3 (ea_cons h4 ea_nil)))) fun H1 e => ⟨a, c, ss, ch, p, q, rfl, hS.mono e, ex_l e hC, rfl⟩
theorem ev_check {ta tb : TE} {σ : L2.St} {n : Nat} {a : Addr} {ss : List Say} (h1 : Ev ta σ H (.int (n : Int))) (h2 : Ev tb σ H (.ref a)) (hn : 0 < n) (hS : Says K H a ss) (ok : Ok n ss) : Ev (tCall (sp_check_sayings K) [] E0 (tCons ta (tCons tb tNil))) σ H .non :=
  ev_pur (ea_cons h1 (ea_cons h2 ea_nil)) fun H1 e => ⟨n, a, ss, rfl, hn, hS.mono e, ok, rfl⟩
theorem pure_kept (h : sp_kept K vs H Q E) : t_kept K (Bd Q) (start ["count", "sayings", "heights", "one"] vs) H := by
  obtain ⟨z, ⟨n, a, b, ss, hs, rfl, hn, hS, ok, hB, hl, hz, rfl⟩, q⟩ := h
  refine q_drop (ev_check (ev_var rfl) (ev_var rfl) hn hS ok) fun H1 e1 => ?_
  have hB1 := ex_l e1 hB
  refine q_when (b := false) (et_is (et_or (et_not (et_B (ev_isi (tn := "list") (ev_var rfl) (fun H2 e2 => ty_L (ex_l e2 hB1)) kit_ll))) fun _ => et_or (et_test (ev_op (ev_len (ev_var rfl) hB1) (ev_var rfl) (rv_ne rfl))) fun _ => et_not (et_B (ev_all (bs := (List.range (iV hs).length).map fun _ => true) (el_is (el_map (fun _ => .bl true) (ev_var rfl) hB1 (by rw [List.length_map]; omega) (fun _ => rfl) fun i x H2 e2 hi => ?_) (by rw [List.map_map] <;> rfl))))) ?_) (fun e => nomatch e) fun _ H2 e2 => ?_
  · obtain ⟨y, _, rfl⟩ := iV_at hi
    exact ev_num (ev_var rfl) (kn_int _)
  · rw [all_true fun _ _ => rfl, List.length_map, hl, dec_len]
    simp
  · exact s_ret (ev_keep_all (ev_var rfl) (ev_var rfl) (ev_var rfl) (hS.mono (e1.trans e2)) ok (ex_l e2 hB1)) fun H3 e3 => q H3 ((e1.trans e2).trans e3)
end
end Am

namespace Am
open PySem L2 Evl
open He (ga ma)
section
variable {K : PySem.W.Frag} {σ : L2.St} {H H' : Hp} {ta tb tc te tx : TE} {t u : TT} {x y z v : V} {r : R2} {D : Ends} {tz tu : TS} {ts tss : TA}
/-! ### displays, places -/
theorem ev_tupIx {vs : List V} {i : Int} (h : EvA ts σ H vs) (hl : vs.length ≤ 100000) (hb : Ev tb σ H (.int i)) (hv : atI vs i = some v) : Ev (tOp (rIxT K) (tTup ts) tb) σ H v := fun H1 e Q q =>
  eu_tup h hl H1 e _ fun p H2 _ e2 hp => hb H2 (e.trans e2) _ fun H3 e3 => ⟨p, vs, i, v, rfl, rfl, st_of (e3 p _ hp), hv, q H3 (e2.trans e3)⟩
theorem ea2 (h1 : Ev ta σ H x) (h2 : Ev tb σ H y) : EvA (tCons ta (tCons tb tNil)) σ H [x, y] := ea_cons h1 (ea_cons h2 ea_nil)
theorem ea3 (h1 : Ev ta σ H x) (h2 : Ev tb σ H y) (h3 : Ev tc σ H z) : EvA (tCons ta (tCons tb (tCons tc tNil))) σ H [x, y, z] := ea_cons h1 (ea2 h2 h3)

/-! ### statements -/
theorem s_par {i j : Nat} (h1 : Ev ta σ H x) (h2 : Ev tb σ H y) (k : ∀ H1, Ex H H1 → D.nx ((σ.set i (some x)).set j (some y)) H1) : tPar i j (tCons ta (tCons tb tNil)) D σ H :=
  ea2 h1 h2 H (Ex.refl H) _ fun H1 e => ⟨x, y, rfl, k H1 e⟩
theorem q_par {i j : Nat} (h1 : Ev ta σ H x) (h2 : Ev tb σ H y) (k : ∀ H1, Ex H H1 → tz D ((σ.set i (some x)).set j (some y)) H1) : tSeq (tPar i j (tCons ta (tCons tb tNil))) tz D σ H := s_par (D := { D with nx := tz D }) h1 h2 k
/-- what is called hands back as its promise says -/
theorem raw_call {sp : Sp} {vs : List V} {E : XK} {Q : VK} (h : EvA ts σ H vs) (k : ∀ H1, Ex H H1 → sp vs H1 Q E) : tCall sp [] E ts σ H Q := h H (Ex.refl H) _ fun H1 e1 => by
  rw [List.append_nil]
  exact k H1 e1
theorem raw_par2 {i j : Nat} (h : ta σ H fun x H1 => tb σ H1 fun y H2 => ∃ v w, [x, y] = [v, w] ∧ D.nx ((σ.set i (some v)).set j (some w)) H2) : tPar i j (tCons ta (tCons tb tNil)) D σ H := h
theorem raw_q_par2 {i j : Nat} (h : ta σ H fun x H1 => tb σ H1 fun y H2 => ∃ v w, [x, y] = [v, w] ∧ tz D ((σ.set i (some v)).set j (some w)) H2) : tSeq (tPar i j (tCons ta (tCons tb tNil))) tz D σ H := h
theorem raw_q_asg {i : Nat} (h : te σ H fun x H1 => tz D (σ.set i (some x)) H1) : tSeq (tAsg te (gName i)) tz D σ H := h
theorem unp2 {a b : V} {p : Addr} {i j : Nat} {R : L2.St → Hp → Prop} (hT : SqT K H p [a, b]) (k : R ((σ.set i (some a)).set j (some b)) H) : gTup K 2 (gCons (gName i) (gCons (gName j) gNil)) (.ref p) σ H R :=
  ⟨p, [a, b], rfl, hT, rfl, a, [b], rfl, b, [], rfl, rfl, k⟩
theorem unp3 {a b c : V} {p : Addr} {i j l : Nat} {R : L2.St → Hp → Prop} (hT : SqT K H p [a, b, c]) (k : R (((σ.set i (some a)).set j (some b)).set l (some c)) H) : gTup K 3 (gCons (gName i) (gCons (gName j) (gCons (gName l) gNil))) (.ref p) σ H R :=
  ⟨p, [a, b, c], rfl, hT, rfl, a, [b, c], rfl, b, [c], rfl, c, [], rfl, rfl, k⟩
theorem q_unp3 {a b c : V} {p : Addr} {i j l : Nat} (h : Ev te σ H (.ref p)) (hT : SqT K H p [a, b, c]) (k : ∀ H1, Ex H H1 → tz D (((σ.set i (some a)).set j (some b)).set l (some c)) H1) : tSeq (tAsg te (gTup K 3 (gCons (gName i) (gCons (gName j) (gCons (gName l) gNil))))) tz D σ H :=
  h H (Ex.refl H) _ fun H1 e => unp3 (ex_t e hT) (k H1 e)
theorem q_unp2 {a b : V} {p : Addr} {i j : Nat} (h : Ev te σ H (.ref p)) (hT : SqT K H p [a, b]) (k : ∀ H1, Ex H H1 → tz D ((σ.set i (some a)).set j (some b)) H1) : tSeq (tAsg te (gTup K 2 (gCons (gName i) (gCons (gName j) gNil)))) tz D σ H :=
  h H (Ex.refl H) _ fun H1 e => unp2 (ex_t e hT) (k H1 e)
/-- sayings[i], taken apart -/
theorem q_unpS {a : Addr} {ss : List Say} {n : Nat} {s : Say} {i j l : Nat} (hS : Says K H a ss) (e : ss[n]? = some s) (ha : Ev ta σ H (.ref a)) (hb : Ev tb σ H (.int (n : Int))) (k : ∀ H1, Ex H H1 → tz D (((σ.set i (some (.int (s.1 : Int)))).set j (some (.int (s.2.1 : Int)))).set l (some (.int s.2.2))) H1) :
    tSeq (tAsg (tOp (rIxL K) ta tb) (gTup K 3 (gCons (gName i) (gCons (gName j) (gCons (gName l) gNil))))) tz D σ H := by
  obtain ⟨xs, w, hL, hx, t, rfl, hT⟩ := hS.at e
  exact q_unp3 (ev_op ha hb (rv_ixL hL hx)) hT k

/-! ### comprehensions -/
theorem el_mapR {j : Nat} {vs : List Nat} {n : Int} (v : Nat → V) (h : EvA ts σ H [.int n]) (hn : 0 ≤ n ∧ n ≤ 40000) (hw : ∀ x, wipe ((wipe σ vs).set j (some x)) vs = wipe σ vs)
    (he : ∀ (i : Nat) H1, Ex H H1 → (i : Int) < n → Ev te ((wipe σ vs).set j (some (.int (i : Int)))) H1 (v i)) : EvL (tLc (iRng1 ts) (gName j) tYes te vs) σ H ((List.range n.toNat).map v) :=
  el_is (el_lcR1 (fun _ => true) v h hn hw (fun _ _ _ _ => et_yes) fun i H1 e hi _ => he i H1 e hi) (given_all fun _ => rfl)
/-- over sayings taken apart, with a test -/
theorem el_saysF {a : Addr} {ss : List Say} {tl : TE} {tt : TT} {i j l : Nat} (f : Say → Bool) (v : Say → V) (hS : Says K H a ss) (h : Ev tl σ H (.ref a))
    (hw : ∀ x y z, wipe ((((wipe σ [i, j, l]).set i (some x)).set j (some y)).set l (some z)) [i, j, l] = wipe σ [i, j, l])
    (ht : ∀ s H1, Ex H H1 → s ∈ ss → EvT tt ((((wipe σ [i, j, l]).set i (some (.int (s.1 : Int)))).set j (some (.int (s.2.1 : Int)))).set l (some (.int s.2.2))) H1 (f s))
    (he : ∀ s H1, Ex H H1 → s ∈ ss → f s = true → Ev te ((((wipe σ [i, j, l]).set i (some (.int (s.1 : Int)))).set j (some (.int (s.2.1 : Int)))).set l (some (.int s.2.2))) H1 (v s)) :
    EvL (tLc (iList K tl) (gTup K 3 (gCons (gName i) (gCons (gName j) (gCons (gName l) gNil)))) tt te [i, j, l]) σ H ((ss.filter f).map v) := fun H0 e Q q => h H0 e _ fun H1 e1 => by
  obtain ⟨hz, xs, hx, hp⟩ := hS
  have hlen : xs.length = ss.length := Paired.length hp
  refine ⟨a, rfl, ⟨xs, ex_l (e.trans e1) hx⟩, fun Dl hD => ?_⟩
  refine lc_list (xs := xs) (fun i H' => H1 Dl = none ∧ Ex H1 H' ∧ H' Dl = some (.lst (((ss.take i).filter f).map v))) ⟨hD, Ex.new hD, upd_same⟩ (fun i H' _ p => ex_l ((e.trans e1).trans p.2.1) hx) (fun k x H' hi ⟨p1, p2, p3⟩ => ?_)
    (fun H' ⟨p1, p2, p3⟩ => q Dl H' (fresh_back e1 p1) (e1.trans p2) (by rw [hlen, List.take_length] at p3; exact p3))
  obtain ⟨s, hs, tp, rfl, hT⟩ := paired_get hp hi
  have E2 := (e.trans e1).trans p2
  have mem := List.mem_of_getElem? hs
  have hk := (List.getElem?_eq_some_iff.mp hs).1
  have tk : ss.take (k + 1) = ss.take k ++ [s] := by rw [List.take_succ, hs]; rfl
  have ht1 := ht s H1 (e.trans e1) mem
  have he1 := fun hf => he s H1 (e.trans e1) mem hf
  refine unp3 (ex_t E2 hT) ⟨hw _ _ _, ht1 H' p2 _ fun H3 e3 => ?_⟩
  cases hf : f s with
  | true =>
    rw [if_pos rfl]
    refine he1 hf H3 (p2.trans e3) _ fun H4 e4 => ⟨_, e4 Dl _ (e3 Dl _ p3), sz_lt ?_, p1, Ex.mut ((p2.trans e3).trans e4) p1, ?_⟩
    · rw [List.length_map]
      have := List.length_filter_le f (ss.take k)
      rw [List.length_take] at this
      omega
    · rw [upd_same, tk, List.filter_append, List.map_append, List.filter_cons, if_pos hf]
      rfl
  | false =>
    rw [if_neg (by decide)]
    refine ⟨p1, p2.trans e3, ?_⟩
    rw [tk, List.filter_append, List.filter_cons, if_neg (by rw [hf]; exact Bool.false_ne_true)]
    show H3 Dl = some (.lst ((List.filter f (ss.take k) ++ []).map v))
    rw [List.append_nil]
    exact e3 Dl _ p3
theorem el_says {a : Addr} {ss : List Say} {tl : TE} {i j l : Nat} (v : Say → V) (hS : Says K H a ss) (h : Ev tl σ H (.ref a))
    (hw : ∀ x y z, wipe ((((wipe σ [i, j, l]).set i (some x)).set j (some y)).set l (some z)) [i, j, l] = wipe σ [i, j, l])
    (he : ∀ s H1, Ex H H1 → s ∈ ss → Ev te ((((wipe σ [i, j, l]).set i (some (.int (s.1 : Int)))).set j (some (.int (s.2.1 : Int)))).set l (some (.int s.2.2))) H1 (v s)) :
    EvL (tLc (iList K tl) (gTup K 3 (gCons (gName i) (gCons (gName j) (gCons (gName l) gNil)))) tYes te [i, j, l]) σ H (ss.map v) :=
  el_is (el_saysF (fun _ => true) v hS h hw (fun _ _ _ _ => et_yes) fun s H1 e m _ => he s H1 e m) (by rw [List.filter_eq_self.mpr fun _ _ => rfl])

/-! ### data: numbers, sayings -/
def dI (hs : List Int) : PyData := .list (hs.map .int)
def dSay (s : Say) : PyData := .tuple [.int (s.1 : Int), .int (s.2.1 : Int), .int s.2.2]
def dS (ss : List Say) : PyData := .list (ss.map dSay)
theorem dp_ints : ∀ hs : List Int, DpAll K H (iV hs) (hs.map .int)
  | [] => .nil
  | h :: r => .cons (.int h) (dp_ints r)
theorem dp_I {a : Addr} {hs : List Int} (h : SqL K H a (iV hs)) : Dp K H (.ref a) (dI hs) := .lst h (dp_ints hs)
theorem dp_says : ∀ {xs : List V} {ss : List Say}, Paired (TupAt K H) xs ss → DpAll K H xs (ss.map dSay)
  | _, _, .nil => .nil
  | _, _, .cons r t => by
    obtain ⟨p, rfl, hT⟩ := r
    exact .cons (.tup hT (.cons (.int _) (.cons (.int _) (.cons (.int _) .nil)))) (dp_says t)
theorem dp_S {a : Addr} {ss : List Say} (h : Says K H a ss) : Dp K H (.ref a) (dS ss) := by
  obtain ⟨_, xs, hL, hp⟩ := h
  exact .lst hL (dp_says hp)
theorem lay_ints : ∀ hs : List Int, PyData.canLayAll0 (hs.map .int) = true
  | [] => by unfold PyData.canLayAll0; rfl
  | h :: r => by rw [List.map_cons, PyData.canLayAll0, lay_ints r]; simp [PyData.canLay0]
theorem lay_says : ∀ ss : List Say, PyData.canLayAll0 (ss.map dSay) = true
  | [] => by unfold PyData.canLayAll0; rfl
  | h :: r => by rw [List.map_cons, PyData.canLayAll0, lay_says r]; simp [PyData.canLay0, PyData.canLayAll0, dSay]
theorem dep_ints : ∀ hs : List Int, PyData.depthAll (hs.map .int) = 0
  | [] => by unfold PyData.depthAll; rfl
  | h :: r => by rw [List.map_cons, PyData.depthAll, dep_ints r]; simp [PyData.depth]
theorem dep_says : ∀ ss : List Say, PyData.depthAll (ss.map dSay) ≤ 1
  | [] => by rw [List.map_nil, PyData.depthAll]; exact Nat.zero_le 1
  | h :: r => by
    rw [List.map_cons]; rw [PyData.depthAll]
    have := dep_says r
    have e : (dSay h).depth = 1 := by simp [dSay, PyData.depth, PyData.depthAll]
    rw [e]
    omega
theorem lay_I (hs : List Int) : (dI hs).canLay0 = true := by unfold dI; rw [PyData.canLay0]; exact lay_ints hs
theorem lay_S (ss : List Say) : (dS ss).canLay0 = true := by unfold dS; rw [PyData.canLay0]; exact lay_says ss
theorem dep_I (hs : List Int) : (dI hs).depth = 1 := by unfold dI; rw [PyData.depth, dep_ints]
theorem dep_S (ss : List Say) : (dS ss).depth ≤ 2 := by unfold dS; rw [PyData.depth]; have := dep_says ss; omega
theorem sh_I (hs : List Int) : SeqAt.shaped (dI hs) = true := by unfold SeqAt.shaped; rw [lay_I, dep_I]; rfl
theorem sh_S (ss : List Say) : SeqAt.shaped (dS ss) = true := by
  unfold SeqAt.shaped
  rw [lay_S, Bool.true_and]
  exact decide_eq_true (by have := dep_S ss; omega)
/-- a list of two, of these -/
theorem sh_2 {d e : PyData} (h1 : d.canLay0 = true) (h2 : e.canLay0 = true) (g1 : d.depth ≤ 5) (g2 : e.depth ≤ 5) : SeqAt.shaped (.list [d, e]) = true := by
  unfold SeqAt.shaped
  rw [PyData.canLay0, PyData.canLayAll0, PyData.canLayAll0, h1, h2, PyData.canLayAll0]
  refine decide_eq_true ?_
  rw [PyData.depth, PyData.depthAll, PyData.depthAll, PyData.depthAll]
  omega
theorem sh_lay {d : PyData} (h : SeqAt.shaped d = true) : d.canLay0 = true := SeqAt.canLay_of_shaped h
theorem eqv_self {d : PyData} (h : SeqAt.shaped d = true) : PyData.eqv d d = true := by
  first
    | exact SeqAt.eqv_refl d (sh_lay h)
    | exact P3.eqv_refl d (sh_lay h)
    | exact eqv_refl d (sh_lay h)
theorem rv_neD {d e : PyData} {b : Bool} (hx : ∀ H1, Ex H H1 → Dp K H1 x d) (hy : ∀ H1, Ex H H1 → Dp K H1 y e) (sx : SeqAt.shaped d = true) (sy : SeqAt.shaped e = true) (hb : (!PyData.eqv d e) = b) : RV (rNeD K) x y H (.bl b) := fun H1 e1 Q q =>
  ⟨d, e, hx H1 e1, hy H1 e1, sx, sy, by rw [hb]; exact q H1 (Ex.refl H1)⟩
theorem rv_eqD {d e : PyData} {b : Bool} (hx : ∀ H1, Ex H H1 → Dp K H1 x d) (hy : ∀ H1, Ex H H1 → Dp K H1 y e) (sx : SeqAt.shaped d = true) (sy : SeqAt.shaped e = true) (hb : PyData.eqv d e = b) : RV (rEqD K) x y H (.bl b) := fun H1 e1 Q q =>
  ⟨d, e, hx H1 e1, hy H1 e1, sx, sy, by rw [hb]; exact q H1 (Ex.refl H1)⟩
/-- x != [], of numbers -/
theorem ev_neNil {p : Addr} {hs : List Int} (ha : Ev ta σ H (.ref p)) (h : SqL K H p (iV hs)) : Ev (tOp (rNeD K) ta (tLst tNil)) σ H (.bl (!hs.isEmpty)) :=
  ev_opL (xs := []) ha (el_lst ea_nil (by simp)) fun q H1 hq e => rv_neD (d := dI hs) (e := dI []) (fun H2 e2 => dp_I (ex_l (e.trans e2) h)) (fun H2 e2 => dp_I (sq_of (e2 q _ hq))) (sh_I hs) (sh_I []) (by cases hs <;> rfl)
/-- x == [] -/
theorem ev_eqNil {p : Addr} {hs : List Int} (ha : Ev ta σ H (.ref p)) (h : SqL K H p (iV hs)) : Ev (tOp (rEqD K) ta (tLst tNil)) σ H (.bl hs.isEmpty) :=
  ev_opL (xs := []) ha (el_lst ea_nil (by simp)) fun q H1 hq e => rv_eqD (d := dI hs) (e := dI []) (fun H2 e2 => dp_I (ex_l (e.trans e2) h)) (fun H2 e2 => dp_I (sq_of (e2 q _ hq))) (sh_I hs) (sh_I []) (by cases hs <;> rfl)

/-! ### what stands but for one object -/
def less (H : Hp) (l : Addr) : Hp := fun b => if b = l then none else H b
theorem less_at {l : Addr} : less H l l = none := if_pos rfl
theorem less_ne {l b : Addr} (h : b ≠ l) : less H l b = H b := if_neg h
theorem ex_less {l : Addr} : Ex (less H l) H := fun a o h => by
  by_cases q : a = l
  · rw [q, less_at] at h; cases h
  · rw [less_ne q] at h; exact h
/-- what stood ahead of l's making -/
theorem ex_less_old {H0 : Hp} {l : Addr} (e : Ex H0 H) (h : H0 l = none) : Ex H0 (less H l) := fun a o ha => by
  rw [less_ne (ne_of_none ha h)]
  exact e a o ha
theorem lst_less {l d : Addr} {o : HO} (h : H d = some o) (hd : d ≠ l) : less H l d = some o := by rw [less_ne hd]; exact h
end
end Am

namespace Am
open PySem L2 Evl
open He (ga ma)
/-- sayings in a list that may be changed -/
def SaysM (K : PySem.W.Frag) (H : Hp) (a : Addr) (ss : List Say) : Prop := ss.length ≤ 1000 ∧ ∃ xs, H a = some (.lst xs) ∧ Paired (TupAt K H) xs ss
theorem SaysM.says {K : PySem.W.Frag} {H : Hp} {a : Addr} {ss : List Say} (h : SaysM K H a ss) : Says K H a ss := by
  obtain ⟨hz, xs, h1, h2⟩ := h
  exact ⟨hz, xs, sq_of h1, h2⟩
theorem SaysM.mono {K : PySem.W.Frag} {H H' : Hp} {a : Addr} {ss : List Say} (e : Ex H H') (h : SaysM K H a ss) : SaysM K H' a ss := by
  obtain ⟨hz, xs, h1, h2⟩ := h
  exact ⟨hz, xs, e _ _ h1, L2.Paired.mapP h2 fun _ _ => TupAt.mono e⟩
def sp__law_drawn (K : PySem.W.Frag) : Sp := fun vs H Q _ => ∃ (a : Addr) (ns : List Int) (n : Nat), vs = [.ref a, .int (n : Int)] ∧ SqL K H a (iV ns) ∧ ns.length ≤ 63 ∧ n ≤ 100 ∧
  ∀ (ds : List Int) p H2, ds.length = n → H p = none → Ex H H2 → H2 p = some (.lst (iV ds)) → Q (.ref p) H2
def sp__law_sayings (K : PySem.W.Frag) : Sp := fun vs H Q _ => ∃ (a : Addr) (ns : List Int), vs = [.ref a] ∧ SqL K H a (iV ns) ∧ ns.length ≤ 63 ∧
  ∀ (n : Nat) (ss : List Say) p l H2, 0 < n → n ≤ 65 → Ok n ss → ss.length ≤ 63 → (ns.sum % 4 ≤ 1 → ∃ f, Kept ss f) → H p = none → H l = none → Ex H H2 → H2 p = some (.tup [.int (n : Int), .ref l]) → SaysM K H2 l ss → Q (.ref p) H2
def sp__law_sum (K : PySem.W.Frag) : Sp := Pur fun vs H z => ∃ (a c : Addr) (ss : List Say) (ch : List Int) (p q : Nat), vs = [.ref a, .ref c, .int (p : Int), .int (q : Int)] ∧ Says K H a ss ∧ SqL K H c (iV ch) ∧ z = oV (sumAlong ss ch p q)
def sp__law_kept (K : PySem.W.Frag) : Sp := Pur fun vs H z => ∃ (n : Nat) (a b : Addr) (ss : List Say) (hs : List Int), vs = [.int (n : Int), .ref a, .ref b] ∧ Says K H a ss ∧ Ok n ss ∧ SqL K H b (iV hs) ∧ hs.length ≤ 1000 ∧ z = .bl (keepAll n ss hs)
def t__law_drawn (K : PySem.W.Frag) : TS := tSeq (tAsg (tOp (rIxT K) (tTup (tCons (tC (.int 10)) (tCons (tC (.int 1000)) (tNil)))) (tOp rModI (tOp rDivI (tCB (rSum K) (tCons (tVar 0) (tNil))) (tC (.int 4))) (tC (.int 2)))) (gName 2)) (tRet (tLc (iRng1 (tCons (tVar 1) (tNil))) (gName 3) (tYes) (tIf (tTest (tOp (rNeD K) (tVar 0) (tLst (tNil)))) (tOp rModI (tOp rDivI (tOp (rIxL K) (tVar 0) (tOp rModI (tVar 3) (tCB (rLenS K) (tCons (tVar 0) (tNil))))) (tC (.int 3))) (tVar 2)) (tC (.int 0))) [3]))
def t__law_sayings (K : PySem.W.Frag) : TS := tSeq (tPar3 1 2 3 (tCons (tCB (rSum K) (tCons (tVar 0) (tNil))) (tCons (tCB (rLenS K) (tCons (tVar 0) (tNil))) (tCons (tLst (tNil)) (tNil))))) (tSeq (tAsg (tOp (rIxT K) (tTup (tCons (tOp rAddI (tC (.int 1)) (tOp rDivI (tVar 2) (tC (.int 2)))) (tCons (tOp rAddI (tC (.int 1)) (tOp rModI (tOp rDivI (tVar 1) (tC (.int 8))) (tC (.int 4)))) (tCons (tOp rAddI (tVar 2) (tC (.int 2))) (tCons (tOp rAddI (tC (.int 1)) (tOp rModI (tOp rDivI (tVar 1) (tC (.int 8))) (tOp rAddI (tVar 2) (tC (.int 1))))) (tNil)))))) (tOp rModI (tOp rDivI (tVar 1) (tC (.int 32))) (tC (.int 4)))) (gName 4)) (tSeq (tPar 5 6 (tCons (tCall (sp__law_drawn K) [] E0 (tCons (tVar 0) (tCons (tVar 4) (tNil)))) (tCons (tOp rModI (tVar 1) (tC (.int 4))) (tNil)))) (tSeq (tFor (iList K (tVar 0)) (gName 7) (tSeq (tPar 8 9 (tCons (tOp rModI (tVar 7) (tVar 4)) (tCons (tOp rModI (tOp rDivI (tVar 7) (tVar 4)) (tVar 4)) (tNil)))) (tSeq (tAsg (tOp rDivI (tOp rDivI (tVar 7) (tVar 4)) (tVar 4)) (gName 10)) (tSeq (tPar 11 12 (tCons (tOp rAddI (tVar 10) (tOp rDivI (tVar 7) (tC (.int 7)))) (tCons (tOp (rIxT K) (tTup (tCons (tOp rDivI (tVar 7) (tC (.int 3))) (tCons (tVar 10) (tNil)))) (tOp rModI (tOp rDivI (tVar 1) (tC (.int 128))) (tC (.int 2)))) (tNil)))) (tSeq (tAsg (tOp (rIxT K) (tTup (tCons (tOp rModI (tVar 11) (tC (.int 4))) (tCons (tOp rModI (tVar 11) (tC (.int 40))) (tCons (tOp rSubI (tOp rModI (tVar 11) (tC (.int 9))) (tC (.int 1))) (tCons (tOp rMulI (tOp rModI (tOp rDivI (tVar 12) (tC (.int 2))) (tOp rPowI (tC (.int 10)) (tC (.int 60)))) (tOp rSubI (tC (.int 1)) (tOp rMulI (tOp rModI (tVar 12) (tC (.int 2))) (tC (.int 2))))) (tNil)))))) (tVar 6)) (gName 13)) (tDrop (tBM K "list" rAppend (tVar 3) (tCons (tTup (tCons (tVar 8) (tCons (tVar 9) (tCons (tIf (tTest (tOp rEq (tVar 6) (tC (.int 3)))) (tVar 13) (tOp rAddI (tOp rSubI (tOp (rIxL K) (tVar 5) (tVar 9)) (tOp (rIxL K) (tVar 5) (tVar 8))) (tVar 13))) (tNil))))) (tNil))))))))) (tSeq (tIfS (tTest (tOp rEq (tOp rModI (tOp rDivI (tVar 1) (tC (.int 256))) (tC (.int 4))) (tC (.int 3)))) (tAsg (tSl (rSlL K) (tVar 3) tNoPart (tPart (tOp rModI (tOp rDivI (tVar 1) (tC (.int 1024))) (tOp rAddI (tVar 2) (tC (.int 1)))))) (gName 3)) (tNext)) (tRet (tTup (tCons (tVar 4) (tCons (tVar 3) (tNil)))))))))
def t__law_sum (K : PySem.W.Frag) : TS := tSeq (tPar 4 5 (tCons (tC (.int 0)) (tCons (tVar 2) (tNil)))) (tSeq (tFor (iList K (tVar 1)) (gName 6) (tSeq (tIfS (tOr (tB (tCB (rIsi K) (tCons (tVar 6) (tCons ((tC (.ty "bool"))) (tNil))))) (tOr (tNot (tB (tCB (rIsi K) (tCons (tVar 6) (tCons ((tC (.ty "int"))) (tNil)))))) (tNot (tTest (tChain rLeI rLtI (tC (.int 0)) (tVar 6) (tCB (rLenS K) (tCons (tVar 0) (tNil)))))))) (tRet (tC .non)) (tNext)) (tSeq (tAsg (tOp (rIxL K) (tVar 0) (tVar 6)) (gTup K 3 (gCons (gName 7) (gCons (gName 8) (gCons (gName 9) (gNil)))))) (tSeq (tIfS (tTest (tOp rNe (tVar 7) (tVar 5))) (tRet (tC .non)) (tNext)) (tPar 4 5 (tCons (tOp rAddI (tVar 4) (tVar 9)) (tCons (tVar 8) (tNil)))))))) (tRet (tIf (tTest (tOp rEq (tVar 5) (tVar 3))) (tVar 4) (tC .non))))
def t__law_kept (K : PySem.W.Frag) : TS := tSeq (tIfS (tOr (tTest (tOp rNe (tCB (rLenS K) (tCons (tVar 2) (tNil))) (tVar 0))) (tB (tCB (rAny K) (tCons (tLc (iList K (tVar 2)) (gName 3) (tYes) (tOrV (tCB (rIsi K) (tCons (tVar 3) (tCons ((tC (.ty "bool"))) (tNil)))) (tNotV (tCB (rIsi K) (tCons (tVar 3) (tCons ((tC (.ty "int"))) (tNil)))))) [3]) (tNil))))) (tRet (tC (.bl false))) (tNext)) (tRet (tCB (rAll K) (tCons (tLc (iList K (tVar 1)) (gTup K 3 (gCons (gName 4) (gCons (gName 5) (gCons (gName 6) (gNil))))) (tYes) (tOp rLeI (tOp (rIxL K) (tVar 2) (tVar 5)) (tOp rAddI (tOp (rIxL K) (tVar 2) (tVar 4)) (tVar 6))) [4, 5, 6]) (tNil))))
section
variable {K : PySem.W.Frag} {vs : List V} {H H' : Hp} {Q : VK} {E : XK} {σ : L2.St} {ta tb tc te : TE} {tz tu : TS} {D : Ends}
theorem q_par3L {x y : V} {zs : List V} {i j l : Nat} (h1 : Ev ta σ H x) (h2 : Ev tb σ H y) (h3 : EvL tc σ H zs) (k : ∀ p H1, H p = none → Ex H H1 → H1 p = some (.lst zs) → tz D (((σ.set i (some x)).set j (some y)).set l (some (.ref p))) H1) :
    tSeq (tPar3 i j l (tCons ta (tCons tb (tCons tc tNil)))) tz D σ H :=
  show tPar3 i j l (tCons ta (tCons tb (tCons tc tNil))) { D with nx := tz D } σ H from
  h1 H (Ex.refl H) _ fun H1 e1 => h2 H1 e1 _ fun H2 e2 => h3 H2 (e1.trans e2) _ fun p H3 hp e3 h3' => ⟨x, y, .ref p, rfl, k p H3 (fresh_back (e1.trans e2) hp) ((e1.trans e2).trans e3) h3'⟩
theorem iV_map {α : Type} (l : List α) (f : α → Int) : iV (l.map f) = l.map fun x => V.int (f x) := by
  show (l.map f).map V.int = _
  rw [List.map_map]; rfl
theorem mod2 (x : Int) : x % 2 = 0 ∨ x % 2 = 1 := by omega
theorem mod4 (x : Int) : x % 4 = 0 ∨ x % 4 = 1 ∨ x % 4 = 2 ∨ x % 4 = 3 := by omega
theorem dv {i j : Int} (h : 0 < j) (h2 : j < 1000000 := by decide) : RV rDivI (.int i) (.int j) H (.int (i / j)) := rv_rI ⟨h, by omega⟩
theorem md {i j : Int} (h : 0 < j) : RV rModI (.int i) (.int j) H (.int (i % j)) := rv_rI h
theorem sqT_upd {t l : Addr} {xs ys : List V} {o : HO} (h : SqT K H t xs) (hl : H l = some (.lst ys)) : SqT K (upd H l o) t xs := by
  rcases h with (h | ⟨b, h⟩) | h
  · exact .inl (.inl (by rw [upd_ne (ne_of h hl fun z => nomatch z)]; exact h))
  · exact .inl (.inr ⟨b, by rw [upd_ne (ne_of h hl fun z => nomatch z)]; exact h⟩)
  · exact .inr h
theorem TupAt.upd {v : V} {s : Say} {l : Addr} {ys : List V} {o : HO} (h : TupAt K H v s) (hl : H l = some (.lst ys)) : TupAt K (L2.upd H l o) v s := by
  obtain ⟨t, rfl, hT⟩ := h
  exact ⟨t, rfl, sqT_upd hT hl⟩
theorem pure__law_drawn (h : sp__law_drawn K vs H Q E) : t__law_drawn K (Bd Q) (start ["_law_script", "_law_count", "_law_most", "_law_place"] vs) H := by
  obtain ⟨a, ns, n, rfl, hL, hz, hn, k⟩ := h
  obtain ⟨m, hm0, hm⟩ : ∃ m : Int, 0 < m ∧ atI [V.int 10, V.int 1000] (ns.sum / 4 % 2) = some (.int m) := by
    rcases mod2 (ns.sum / 4) with e | e <;> rw [e]
    · exact ⟨10, by decide, rfl⟩
    · exact ⟨1000, by decide, rfl⟩
  refine q_asg (ev_tupIx (ea2 ev_c ev_c) (by show 2 ≤ 100000; decide) (ev_op (ev_op (ev_sum (ev_var rfl) hL) ev_c (dv (by decide))) ev_c (md (by decide))) hm) fun H1 e1 => ?_
  have hL1 := ex_l e1 hL
  refine s_retL (el_mapR (fun i => .int (if ns.isEmpty then 0 else ns.getD (i % ns.length) 0 / 3 % m)) (ea_cons (ev_var rfl) ea_nil) (by omega) (fun _ => rfl) fun i H2 e2 hi => ?_) fun p H2 hp e2 h2 => k ((List.range n).map fun i => if ns.isEmpty then 0 else ns.getD (i % ns.length) 0 / 3 % m) p H2 (by rw [List.length_map, List.length_range]) (fresh_back e1 hp) (e1.trans e2) (by rw [h2, iV_map]; rfl)
  have hL2 := ex_l e2 hL1
  refine ev_if (et_test (ev_neNil (ev_var rfl) hL2)) (fun hb => ?_) fun hb => ?_
  · have ne : ns.isEmpty = false := by simpa using hb
    rw [ne]
    have hpos : 0 < ns.length := by cases ns with | nil => cases ne | cons _ _ => exact Nat.succ_pos _
    have hlen : ((iV ns).length : Int) = (ns.length : Int) := by rw [List.length_map]
    refine ev_op (ev_op (ev_op (ev_var rfl) (ev_op (ev_var rfl) (ev_len (ev_var rfl) hL2) (md (by rw [hlen]; omega))) (rv_ixL hL2 ?_)) ev_c (dv (by decide))) (ev_var rfl) (md hm0)
    rw [hlen]
    exact at_iV (Nat.mod_lt _ hpos)
  · have ne : ns.isEmpty = true := by simpa using hb
    rw [ne]
    exact ev_c
theorem nat_of {c : Int} {n : Nat} (hn : 0 < n) : ∃ L : Nat, L < n ∧ c % (n : Int) = (L : Int) := by
  have h1 := Int.emod_nonneg c (show (n : Int) ≠ 0 by omega)
  have h2 := Int.emod_lt_of_pos c (show (0 : Int) < n by omega)
  exact ⟨(c % (n : Int)).toNat, by omega, by omega⟩
theorem paired_take {α β : Type} {F : α → β → Prop} : ∀ {xs : List α} {ys : List β} (k : Nat), Paired F xs ys → Paired F (xs.take k) (ys.take k)
  | _, _, 0, _ => .nil
  | _, _, _ + 1, .nil => .nil
  | _, _, k + 1, .cons r t => .cons r (paired_take k t)
theorem paired_app {α β : Type} {F : α → β → Prop} : ∀ {xs : List α} {ys : List β} {x : α} {y : β}, Paired F xs ys → F x y → Paired F (xs ++ [x]) (ys ++ [y])
  | _, _, _, _, .nil, h => Paired.cons h .nil
  | _, _, _, _, .cons r t, h => .cons r (paired_app t h)
theorem cut_take {xs : List V} {k : Int} (h : 0 ≤ k) : cutV xs none (some k) = xs.take k.toNat := by
  unfold cutV
  have e1 : HT.sIx xs.length 0 none = 0 := rfl
  have e2 : HT.sIx xs.length xs.length (some k) = min k.toNat xs.length := by
    unfold HT.sIx
    simp only
    try split
    all_goals omega
  rw [e1, e2, List.drop_zero, Nat.sub_zero]
  by_cases q : k.toNat ≤ xs.length
  · rw [Nat.min_eq_left q]
  · rw [Nat.min_eq_right (by omega), List.take_length, List.take_of_length_le (by omega)]
theorem more_ok {c rest anyo kind : Int} (hk : 0 ≤ kind ∧ kind < 4) : ∃ m : Int, atI [V.int (rest % 4), .int (rest % 40), .int (rest % 9 - 1), .int (anyo / 2 % 10 ^ (60 : Int).toNat * (1 - anyo % 2 * 2))] kind = some (.int m) ∧ (kind ≤ 1 → 0 ≤ m) := by
  have : kind = 0 ∨ kind = 1 ∨ kind = 2 ∨ kind = 3 := by omega
  rcases this with rfl | rfl | rfl | rfl
  · exact ⟨_, rfl, fun _ => by omega⟩
  · exact ⟨_, rfl, fun _ => by omega⟩
  · exact ⟨_, rfl, fun h => absurd h (by decide)⟩
  · exact ⟨_, rfl, fun h => absurd h (by decide)⟩
theorem count_ok {m : Nat} {c : Int} (hm : m ≤ 63) (hc : 0 ≤ c ∧ c < 4) (d : Int) : ∃ n : Nat, 0 < n ∧ n ≤ 65 ∧ atI [V.int (1 + (m : Int) / 2), .int (1 + d / 8 % 4), .int ((m : Int) + 2), .int (1 + d / 8 % ((m : Int) + 1))] c = some (.int (n : Int)) := by
  have : c = 0 ∨ c = 1 ∨ c = 2 ∨ c = 3 := by omega
  have key : ∀ x : Int, 1 ≤ x → x ≤ 65 → ∃ n : Nat, 0 < n ∧ n ≤ 65 ∧ x = (n : Int) := fun x h1 h2 => ⟨x.toNat, by omega, by omega, by omega⟩
  have h3 := Int.emod_nonneg (d / 8) (show ((m : Int) + 1) ≠ 0 by omega)
  have h4 := Int.emod_lt_of_pos (d / 8) (show (0 : Int) < (m : Int) + 1 by omega)
  rcases this with rfl | rfl | rfl | rfl
  · obtain ⟨n, a, b, e⟩ := key (1 + (m : Int) / 2) (by omega) (by omega)
    exact ⟨n, a, b, by rw [← e]; rfl⟩
  · obtain ⟨n, a, b, e⟩ := key (1 + d / 8 % 4) (by omega) (by omega)
    exact ⟨n, a, b, by rw [← e]; rfl⟩
  · obtain ⟨n, a, b, e⟩ := key ((m : Int) + 2) (by omega) (by omega)
    exact ⟨n, a, b, by rw [← e]; rfl⟩
  · obtain ⟨n, a, b, e⟩ := key (1 + d / 8 % ((m : Int) + 1)) (by omega) (by omega)
    exact ⟨n, a, b, by rw [← e]; rfl⟩
theorem pure__law_sayings (h : sp__law_sayings K vs H Q E) : t__law_sayings K (Bd Q) (start ["_law_script", "_law_code", "_law_many", "_law_found", "_law_count", "_law_drawn_here", "_law_kind", "_law_cell", "_law_lower", "_law_upper", "_law_high", "_law_rest", "_law_any_one", "_law_more"] vs) H := by
  obtain ⟨a, ns, rfl, hL, hz, k⟩ := h
  refine q_par3L (ev_sum (ev_var rfl) hL) (ev_len (ev_var rfl) hL) (el_lst ea_nil (by simp)) fun l H1 hl e1 hl1 => ?_
  rw [List.length_map]
  have hL1 := ex_l e1 hL
  obtain ⟨n, hn0, hn65, hn⟩ := count_ok (m := ns.length) (c := ns.sum / 32 % 4) hz (by omega) ns.sum
  refine q_asg (ev_tupIx (ea_cons (ev_op ev_c (ev_op (ev_var rfl) ev_c (dv (by decide))) rv_I0) (ea3 (ev_op ev_c (ev_op (ev_op (ev_var rfl) ev_c (dv (by decide))) ev_c (md (by decide))) rv_I0) (ev_op (ev_var rfl) ev_c rv_I0) (ev_op ev_c (ev_op (ev_op (ev_var rfl) ev_c (dv (by decide))) (ev_op (ev_var rfl) ev_c rv_I0) (md (by omega))) rv_I0)))
    (by show 4 ≤ 100000; decide) (ev_op (ev_op (ev_var rfl) ev_c (dv (by decide))) ev_c (md (by decide))) hn) fun H2 e2 => ?_
  refine raw_q_par2 (raw_call (ea2 (ev_var rfl) (ev_var rfl)) fun H3 e3 => ⟨a, ns, n, rfl, ex_l (e2.trans e3) hL1, hz, by omega, fun ds d H4 hds hd e4 hd4 => ?_⟩)
  refine (ev_op (ev_var rfl) ev_c (md (by decide)) : Ev (tOp rModI (tVar 1) (tC (.int 4))) _ H4 (.int (ns.sum % 4))) H4 (Ex.refl H4) _ fun H5 e5 => ⟨_, _, rfl, ?_⟩
  have E5 : Ex H1 H5 := ((e2.trans e3).trans e4).trans e5
  have hl5 : H5 l = some (.lst []) := E5 _ _ hl1
  have dl : d ≠ l := fun z => by rw [z, (e2.trans e3) _ _ hl1] at hd; cases hd
  have hBl : less H5 l l = none := less_at
  have hB0 : Ex H (less H5 l) := ex_less_old (e1.trans E5) hl
  have hLB : SqL K (less H5 l) a (iV ns) := ex_l hB0 hL
  have hdB : less H5 l d = some (.lst (iV ds)) := lst_less (e5 _ _ hd4) dl
  refine q_forLn (ev_var rfl) (ex_l ex_less hLB) (fun i σ' H' => ∃ (xs : List V) (ss : List Say) (w7 w8 w9 w10 w11 w12 w13 : Option V), σ' = [some (.ref a), some (.int ns.sum), some (.int (ns.length : Int)), some (.ref l), some (.int (n : Int)), some (.ref d), some (.int (ns.sum % 4)), w7, w8, w9, w10, w11, w12, w13] ∧
      Ex (less H5 l) H' ∧ H' l = some (.lst xs) ∧ Paired (TupAt K H') xs ss ∧ Ok n ss ∧ ss.length = i ∧ (ns.sum % 4 ≤ 1 → Kept ss fun v => ds.getD v 0))
    (fun H6 e6 => ⟨[], [], none, none, none, none, none, none, none, rfl, ex_less.trans e6, e6 _ _ hl5, .nil, (fun s hs => nomatch hs), rfl, (fun _ s hs => nomatch hs)⟩) (fun i σ' H' _ ⟨_, _, _, _, _, _, _, _, _, _, e', _⟩ => ex_l e' hLB) ?_ ?_
  · rintro i x σ' H' hi ⟨xs, ss, w7, w8, w9, w10, w11, w12, w13, rfl, e', hl', hp, ok, hlen, kept⟩
    obtain ⟨c, hc, rfl⟩ := iV_at hi
    have hi63 : i < 63 := by have := (List.getElem?_eq_some_iff.mp hc).1; omega
    have hn0' : (0 : Int) < (n : Int) := by omega
    obtain ⟨L, hL', eL⟩ := nat_of (c := c) hn0
    obtain ⟨U, hU', eU⟩ := nat_of (c := c / (n : Int)) hn0
    have dvn : ∀ {x : Int} {G : Hp}, RV rDivI (.int x) (.int (n : Int)) G (.int (x / (n : Int))) := fun {x G} => rv_rI ⟨hn0', by omega⟩
    refine q_par (x := .int (L : Int)) (y := .int (U : Int)) (ev_is (ev_op (ev_var rfl) (ev_var rfl) (md hn0')) (by rw [eL])) (ev_is (ev_op (ev_op (ev_var rfl) (ev_var rfl) dvn) (ev_var rfl) (md hn0')) (by rw [eU])) fun H6 e6 => ?_
    refine q_asg (ev_op (ev_op (ev_var rfl) (ev_var rfl) dvn) (ev_var rfl) dvn) fun H7 e7 => ?_
    obtain ⟨an, han⟩ : ∃ an : Int, atI [V.int (c / 3), .int (c / (n : Int) / (n : Int))] (ns.sum / 128 % 2) = some (.int an) := by
      rcases mod2 (ns.sum / 128) with z | z <;> rw [z]
      · exact ⟨_, rfl⟩
      · exact ⟨_, rfl⟩
    refine q_par (ev_op (ev_var rfl) (ev_op (ev_var rfl) ev_c (dv (by decide))) rv_I0) (ev_tupIx (ea2 (ev_op (ev_var rfl) ev_c (dv (by decide))) (ev_var rfl)) (by show 2 ≤ 100000; decide) (ev_op (ev_op (ev_var rfl) ev_c (dv (by decide))) ev_c (md (by decide))) han) fun H8 e8 => ?_
    obtain ⟨mo, hmo, hmo0⟩ := more_ok (c := c) (rest := c / (n : Int) / (n : Int) + c / 7) (anyo := an) (kind := ns.sum % 4) (by omega)
    have sm : -(2 ^ 64) < an % 2 ∧ an % 2 < 2 ^ 64 := by omega
    refine q_asg (ev_tupIx (ea_cons (ev_op (ev_var rfl) ev_c (md (by decide))) (ea3 (ev_op (ev_var rfl) ev_c (md (by decide))) (ev_op (ev_op (ev_var rfl) ev_c (md (by decide))) ev_c rv_I0)
        (ev_op (ev_op (ev_op (ev_var rfl) ev_c (dv (by decide))) (ev_op ev_c ev_c (rv_rI ⟨by decide, by decide, by decide⟩)) (md (by decide))) (ev_op ev_c (ev_op (ev_op (ev_var rfl) ev_c (md (by decide))) ev_c (rv_rI (.inl sm))) rv_I0) (rv_rI (.inr (by omega))))))
      (by show 4 ≤ 100000; decide) (ev_var rfl) hmo) fun H9 e9 => ?_
    have E9 : Ex H' H9 := ((e6.trans e7).trans e8).trans e9
    have hd9 : SqL K H9 d (iV ds) := sq_of (E9 _ _ (e' _ _ hdB))
    have at_ : ∀ {p : Nat}, p < n → atI (iV ds) (p : Int) = some (.int (ds.getD p 0)) := fun {p} hp => at_iV (by rw [hds]; exact hp)
    let m : Int := if ns.sum % 4 = 3 then mo else ds.getD U 0 - ds.getD L 0 + mo
    refine s_appU (ys := [.int (L : Int), .int (U : Int), .int m]) (E9 _ _ hl') (ev_var rfl) (eu_tup (ea3 (ev_var rfl) (ev_var rfl) (ev_if (b := decide (V.int (ns.sum % 4) = V.int 3)) (et_test (ev_op (ev_var rfl) ev_c (rv_eq rfl))) (fun hb => ?_) fun hb => ?_)) (by show 3 ≤ 100000; decide)) (by rw [Paired.length hp]; omega) fun p H10 hp10 e10 h10 => ?_
    · have z : ns.sum % 4 = 3 := by
        have := of_decide_eq_true hb
        injection this
      exact ev_is (ev_var rfl) (by show _ = V.int (if ns.sum % 4 = 3 then mo else _); rw [if_pos z])
    · have z : ¬ ns.sum % 4 = 3 := fun q => by rw [q] at hb; exact absurd hb (by decide)
      exact ev_is (ev_op (ev_op (ev_op (ev_var rfl) (ev_var rfl) (rv_ixL hd9 (at_ hU'))) (ev_op (ev_var rfl) (ev_var rfl) (rv_ixL hd9 (at_ hL'))) rv_I0) (ev_var rfl) rv_I0) (by show _ = V.int (if ns.sum % 4 = 3 then mo else _); rw [if_neg z])
    · have E10 : Ex H' H10 := E9.trans e10
      have hl10 : H10 l = some (.lst xs) := E10 _ _ hl'
      refine ⟨xs ++ [.ref p], ss ++ [(L, U, m)], _, _, _, _, _, _, _, rfl, Ex.mut (e'.trans E10) hBl, upd_same, paired_app (L2.Paired.mapP hp fun _ _ q => (q.mono E10).upd hl10) (TupAt.upd ⟨p, rfl, st_of h10⟩ hl10), fun s hs => ?_, by simp [hlen], fun hk s hs => ?_⟩
      · rcases List.mem_append.mp hs with q | q
        · exact ok s q
        · have es : s = (L, U, m) := by simpa using q
          subst es
          exact ⟨hL', hU'⟩
      · rcases List.mem_append.mp hs with q | q
        · exact kept hk s q
        · have es : s = (L, U, m) := by simpa using q
          subst es
          show ds.getD U 0 - ds.getD L 0 ≤ (if ns.sum % 4 = 3 then mo else ds.getD U 0 - ds.getD L 0 + mo)
          rw [if_neg (by omega)]
          have := hmo0 hk
          omega
  · rintro σ' H' ⟨xs, ss, w7, w8, w9, w10, w11, w12, w13, rfl, e', hl', hp, ok, hlen, kept⟩
    rw [List.length_map] at hlen
    have old : Ex H H' := hB0.trans e'
    have fin : ∀ (l2 : Addr) (ss2 : List Say) (H6 : Hp) (τ : L2.St), H l2 = none → Ex H H6 → SaysM K H6 l2 ss2 → Ok n ss2 → ss2.length ≤ 63 → (ns.sum % 4 ≤ 1 → ∃ f, Kept ss2 f) → τ[4]? = some (some (.int (n : Int))) → τ[3]? = some (some (.ref l2)) → tRet (tTup (tCons (tVar 4) (tCons (tVar 3) tNil))) (Bd Q) τ H6 :=
      fun l2 ss2 H6 τ h0 e6 hS ok2 hz2 hk2 h4 h3 => s_retU (eu_tup (ea2 (ev_var h4) (ev_var h3)) (by show 2 ≤ 100000; decide)) fun p H7 hp7 e7 h7 => k n ss2 p l2 H7 hn0 hn65 ok2 hz2 hk2 (fresh_back e6 hp7) h0 (e6.trans e7) h7 (hS.mono e7)
    refine q_when (et_test (ev_op (ev_op (ev_op (ev_var rfl) ev_c (dv (by decide))) ev_c (md (by decide))) ev_c (rv_eq rfl))) (fun _ H6 e6 => ?_) fun _ H6 e6 => ?_
    · have hm0 : (0 : Int) < (ns.length : Int) + 1 := by omega
      have hk0 := Int.emod_nonneg (ns.sum / 1024) (show (ns.length : Int) + 1 ≠ 0 by omega)
      refine s_asgL (el_sl (lo := none) (hi := some (ns.sum / 1024 % ((ns.length : Int) + 1))) (ev_var rfl) eo_none (eo_some (ev_op (ev_op (ev_var rfl) ev_c (dv (by decide))) (ev_op (ev_var rfl) ev_c rv_I0) (md hm0))) (sq_of (e6 _ _ hl'))) fun l2 H7 hl2 e7 h7 => ?_
      rw [cut_take hk0] at h7
      have E7 := e6.trans e7
      refine fin l2 (ss.take (ns.sum / 1024 % ((ns.length : Int) + 1)).toNat) H7 _ (fresh_back (old.trans e6) hl2) (old.trans E7) ⟨by rw [List.length_take]; omega, _, h7, paired_take _ (L2.Paired.mapP hp fun _ _ q => q.mono E7)⟩ (fun s hs => ok s (List.mem_of_mem_take hs)) (by rw [List.length_take]; omega) (fun hk => ⟨fun v => ds.getD v 0, fun s hs => kept hk s (List.mem_of_mem_take hs)⟩) rfl rfl
    · exact fin l ss H6 _ hl (old.trans e6) ⟨by omega, xs, e6 _ _ hl', L2.Paired.mapP hp fun _ _ q => q.mono e6⟩ ok (by omega) (fun hk => ⟨_, kept hk⟩) rfl rfl
end
end Am

/-! what is asked while an exception is handled: walks that come to their end -/
namespace Am
open PySem PyProof.Rows L2
section
variable {prog : Program} {w : World} {A : Around} {E : Value → Shared → Prop} {s : Shared} {x1 : Addr}
/-- StopIteration told while another exception, at x1, is handled: what stood stands -/
theorem stop_hot {α : Type} {Q : α → Shared → Prop} (hot : HotX.HotAt A x1 s.heap)
    (hE : ∀ a h, (∀ b o, s.heap.get? b = some o → h.get? b = some o) → (∃ o, h.get? a = some o ∧ o.cls = .type "StopIteration") → E (.ref a) { s with heap := h }) : wpAny (model prog w) A (do raiseNew (← newExc (.type "StopIteration") []) : Sem α) Q E s := by
  rcases hot with ⟨hh, ox, fx, gx, dx, cx⟩
  unfold newExc newTuple
  wp_walk
  generalize hob : (Obj.mk (.type "StopIteration") _ _ _ : Obj) = ob
  generalize hm : s.heap.push _ = m
  have up : ∀ b o, s.heap.get? b = some o → m.get? b = some o := fun b o e => hm ▸ Heap.get?_push_of_some _ e
  have xm := up _ _ gx
  have lt : ∀ {b o}, m.get? b = some o → b ≠ m.objs.size := fun e => Nat.ne_of_lt (Heap.lt_size e)
  have top : (m.push ob).get? m.objs.size = some ob := Heap.get?_push_size m (by rw [← hob]; rfl)
  refine HotX.raiseNew_hot ⟨hh, ox, fx, Heap.get?_push_of_some ob xm, dx, cx⟩ (lt xm) top (by rw [← hob]) (by simp [Array.size_append]; omega) ?_
  refine hE _ _ (fun b o e => ?_) ⟨_, Heap.get?_update_self _ top (by rw [← hob]; rfl), by rw [← hob]; rfl⟩
  rw [Heap.get?_update_other _ _ (Ne.symm (lt (up b o e)))]
  exact Heap.get?_push_of_some ob (up b o e)
/-- the same behind a store into the iterator at it -/
theorem tail_hot {it : Addr} {o : Obj} {fs : Array Value} {nm : String} {Q : Fin → Shared → Prop} (hot : HotX.HotAt A x1 s.heap) (hne : x1 ≠ it) (ho : s.heap.get? it = some o) (hd : o.data = .fields fs) (hz : 0 < fs.size)
    (hE : ∀ a h, Heap.ExtBut it s.heap h → (∃ o, h.get? a = some o ∧ o.cls = .type "StopIteration") → E (.ref a) { s with heap := h }) :
    wpAny (model prog w) A (do rule nm; setField (.ref it) 0 .none; Builtin.SmallTypes.stopIteration) Q E s := by
  refine wpAny_bind (wpAny_rule (wpAny_bind (wpAny_setField ho hd hz ?_)))
  have old := fun (b : Addr) (hb : b ≠ it) => Heap.get?_update_other s.heap (Obj.mapFields (·.setIfInBounds 0 Value.none)) (Ne.symm hb)
  obtain ⟨hh, ox, fx, gx, rest⟩ := hot
  unfold Builtin.SmallTypes.stopIteration
  exact stop_hot ⟨hh, ox, fx, (old x1 hne).trans gx, rest⟩ fun a h up k => hE a h (fun b u hb e => up b u ((old b hb).trans e)) k
/-- next of a list's iterator that has come to the end -/
theorem list_end_hot {it l : Addr} {i : Nat} {items : Array Value} {Q : Option Value → Shared → Prop} (hot : HotX.HotAt A x1 s.heap) (hne : x1 ≠ it) (hit : s.heap.IsListIter it l i) (hl : s.heap.IsList l items) (hx : items[i]? = none)
    (hQ : ∀ h, Heap.ExtBut it s.heap h → Q none { s with heap := h }) : wpAny (model prog w) A (pyNext (.ref it)) Q E s := by
  have ty := hit.typeIs
  rcases hit with ⟨⟨ci, di, ai, si⟩, ho, hc, hd⟩
  rcases hl with ⟨⟨cq, dq, aq, sq⟩, hq, _, nq, eq⟩
  dsimp only at hc hd eq
  subst hc hd eq
  unfold pyNext
  refine wpAny_bind (wpAny_attempt (wpAny_callSpecial?_slot ty slot_listiter_next (wpAny_call_entry slot_listiter_next ty entry_listiter_next ?_ (args_listiter_next _))))
  unfold Builtin.«list_iterator.__next__»
  wp_walk
  rw [Int.toNat_natCast, hx]
  dsimp only
  refine tail_hot (A := A.in1) hot hne ho rfl (by simp) fun a h ext ⟨oe, ge, ce⟩ => wpAny_bind (wpAny_isInstance ⟨oe, ge, ce⟩ isSubtype_stop ?_)
  exact wpAny_pure (hQ h ext)
/-- a list gone through while the exception at x1 is handled; that exception is among what is watched -/
theorem walks_listH {ox : Obj} {fx : Array Value} (hh : A.handled = some (.ref x1)) (dx : ox.data = .fields fx) (cx : fx[2]? = some .none) (it l : Addr) (hl : l ≠ it) (hne : x1 ≠ it) (items : Array Value) :
    Walks prog w A it [it, l, x1] [it] items.size (fun i v => items[i]? = some v) (fun i h => (h.IsListIter it l i ∧ h.IsList l items) ∧ h.get? x1 = some ox) := by
  have off : ∀ b, b ∉ [it] → b ≠ it := fun b hb e => hb (List.mem_singleton.mpr e)
  constructor
  case sub => exact fun b hb => List.mem_singleton.mp hb ▸ List.mem_cons_self
  case frame => exact fun i h h' ⟨⟨a, b⟩, c⟩ k => ⟨⟨a.at (k it (by simp)), b.at (k l (by simp))⟩, k x1 (by simp) ox c⟩
  case self => exact fun i s' Q' E' st => wpAny_pyIter_listiter st.1.1
  case done => exact fun s' Q' E' st hQ => list_end_hot ⟨hh, ox, fx, st.2, dx, cx⟩ hne st.1.1 st.1.2 (by simp) fun h ext => hQ h s'.toks fun b o hb => ext b o (off b hb)
  case item =>
    intro i s' Q' E' hi st hQ
    refine wpAny_pyNext_list_item st.1.1 st.1.2 (Array.getElem?_eq_getElem hi) fun h nx same => ?_
    exact hQ _ h s'.toks (Array.getElem?_eq_getElem hi) ⟨⟨nx, st.1.2.extBut same.extBut hl⟩, same.extBut x1 ox hne st.2⟩ fun b o hb => same.extBut b o (off b hb)
end
section
variable {X : Cx}
theorem cr_anyH (hc : L2H.HotC X) : CallR X (.builtin "any") (rAny X.K) := fun pins s σ H vs us Q I rel ask => by
  rcases ask with ⟨l, truths, rfl, held, want⟩
  rcases hc with ⟨⟨x1, ox⟩, ⟨hh, fx, dx, cx⟩, here⟩
  have gx : s.heap.get? x1 = some ox := (I.pin _ (List.mem_append_left _ here)).1
  obtain ⟨items, rv, isl, -⟩ := I.list held
  obtain rfl := Vals.ref1 rel
  refine call_any_walk (iter_any isl.isList fun s2 e2 begun apart => ?_)
  subst e2
  refine ⟨_, _, _, _, _, _, _, rfl, walks_listH (A := X.A.in1) hh dx cx _ l apart (Nat.ne_of_lt (Heap.lt_size gx)) items.toArray, ⟨begun, Heap.get?_push_of_some _ gx⟩, truth_bools rv.bls, ?_⟩
  intro h tk up
  have old : ∀ b o, s.heap.get? b = some o → h.get? b = some o := fun b o e =>
    up b o (fun m => Nat.ne_of_lt (Heap.lt_size e) (List.mem_singleton.mp m)) (Heap.get?_push_of_some _ e)
  have many : items.toArray.size = truths.length := by rw [List.size_toArray, rv.bls, List.length_map]
  refine ⟨.bl (truths.any id), H, I.kept old, ?_, want⟩
  rw [many, L2.any_range]
  rfl
end
end Am

namespace Am
open PySem L2 Evl
open He (ga ma)
section
variable {K : PySem.W.Frag} {vs : List V} {H H' : Hp} {Q : VK} {E : XK} {σ : L2.St} {ta tb tc td te : TE} {tz tu : TS} {D : Ends}
theorem kit_ib : kitB "int" "bool" = some false := by decide +kernel
theorem kit_ii : kitB "int" "int" = some true := by decide +kernel
theorem kit_bb : kitB "bool" "bool" = some true := by decide +kernel
/-- the test of one step by the law's own walk -/
theorem et_own {a : Addr} {ss : List Say} {x : Int} (hS : Says K H a ss) (h0 : σ[0]? = some (some (V.ref a))) (h6 : σ[6]? = some (some (V.int x))) :
    EvT (tOr (tB (tCB (rIsi K) (tCons (tVar 6) (tCons ((tC (.ty "bool"))) (tNil))))) (tOr (tNot (tB (tCB (rIsi K) (tCons (tVar 6) (tCons ((tC (.ty "int"))) (tNil)))))) (tNot (tTest (tChain rLeI rLtI (tC (.int 0)) (tVar 6) (tCB (rLenS K) (tCons (tVar 0) (tNil)))))))) σ H (sayAt ss x).isNone := by
  refine et_is (et_or (et_B (ev_isi (ev_var h6) (fun _ _ => ty_int) kit_ib)) fun _ => et_or (et_not (et_B (ev_isi (ev_var h6) (fun _ _ => ty_int) kit_ii))) fun _ => et_not (et_test (ev_chain ev_c (ev_var h6) rv_I0 (fun _ => ev_lenS hS (ev_var h0)) fun _ => rv_I0))) ?_
  show (!(decide ((0 : Int) ≤ x) && decide (x < (ss.length : Int)))) = (sayAt ss x).isNone
  unfold sayAt
  by_cases h : 0 ≤ x
  · rw [if_pos h, decide_eq_true h, Bool.true_and]
    by_cases h2 : x < (ss.length : Int)
    · rw [decide_eq_true h2, List.getElem?_eq_getElem (by omega : x.toNat < ss.length)]
      rfl
    · rw [decide_eq_false h2, List.getElem?_eq_none (by omega : ss.length ≤ x.toNat)]
      rfl
  · rw [if_neg h, decide_eq_false h]
    rfl
theorem pure__law_sum {N : List Str} (hN : N.length = 10) (h : sp__law_sum K vs H Q E) : t__law_sum K (Bd Q) (L2.start N vs) H := by
  obtain ⟨z, ⟨a, c, ss, ch, p, q, rfl, hS, hC, rfl⟩, k⟩ := h
  have hst : L2.start N [V.ref a, V.ref c, V.int (p : Int), V.int (q : Int)] = [some (.ref a), some (.ref c), some (.int (p : Int)), some (.int (q : Int)), none, none, none, none, none, none] := by
    unfold L2.start
    rw [hN]
    rfl
  rw [hst]
  refine q_par ev_c (ev_var rfl) fun H1 e => ?_
  refine q_forLn (ev_var rfl) (ex_l e hC) (fun i σ' H' => ∃ (u : Nat) (t : Int) (w7 w8 w9 w6 : Option V), σ' = [some (.ref a), some (.ref c), some (.int (p : Int)), some (.int (q : Int)), some (.int t), some (.int (u : Int)), w6, w7, w8, w9] ∧ Ex H H' ∧ sumAlong ss ch p q = ends q (run ss (ch.drop i) u t))
    (fun H3 e3 => ⟨p, 0, none, none, none, none, rfl, e.trans e3, rfl⟩) (fun i σ' H' _ ⟨_, _, _, _, _, _, _, e', _⟩ => ex_l e' hC) ?_ ?_
  · rintro i x σ' H' hi ⟨u, t, w7, w8, w9, w6, rfl, e', inv⟩
    obtain ⟨x, hx, rfl⟩ := iV_at hi
    rw [drop_at hx, run_cons] at inv
    have hS' := hS.mono e'
    refine q_when (et_own hS' rfl rfl) (fun hb H3 e3 => ?_) fun hb H3 e3 => ?_
    · refine s_ret ev_c fun H4 e4 => ?_
      have kk := k H4 ((e'.trans e3).trans e4)
      rw [inv] at kk
      cases hs : sayAt ss x with
      | none => rw [hs] at kk; exact kk
      | some s => rw [hs] at hb; cases hb
    · cases hs : sayAt ss x with
      | none => rw [hs] at hb; cases hb
      | some s =>
        obtain ⟨l, v, m⟩ := s
        rw [hs] at inv
        simp only at inv
        obtain ⟨j, rfl, hj⟩ := sayAt_some hs
        have hS3 := hS'.mono e3
        refine q_unpS hS3 hj (ev_var rfl) (ev_var rfl) fun H4 e4 => ?_
        refine q_when (et_test (ev_op (ev_var rfl) (ev_var rfl) (rv_ne rfl))) (fun hb H5 e5 => ?_) fun hb H5 e5 => ?_
        · have ne : ¬ l = u := by rw [dec_nat] at hb; simpa using hb
          refine s_ret ev_c fun H6 e6 => ?_
          have kk := k H6 ((((e'.trans e3).trans e4).trans e5).trans e6)
          rw [inv, if_neg ne] at kk
          exact kk
        · have eq : l = u := by rw [dec_nat] at hb; simpa using hb
          rw [if_pos eq] at inv
          exact s_par (ev_op (ev_var rfl) (ev_var rfl) rv_I0) (ev_var rfl) fun H6 e6 => ⟨v, t + m, _, _, _, _, rfl, (((e'.trans e3).trans e4).trans e5).trans e6, inv⟩
  · rintro σ' H' ⟨u, t, w7, w8, w9, w6, rfl, e', inv⟩
    rw [List.length_map, List.drop_length] at inv
    have inv2 : sumAlong ss ch p q = if u = q then some t else none := inv
    refine s_ret (v := oV (if u = q then some t else none)) (ev_if (b := decide (u = q)) (et_is (et_test (ev_op (ev_var rfl) (ev_var rfl) (rv_eq rfl))) dec_nat) (fun hb => ?_) fun hb => ?_) fun H4 e4 => ?_
    · rw [if_pos (of_decide_eq_true hb)]
      exact ev_var rfl
    · rw [if_neg (of_decide_eq_false hb)]
      exact ev_c
    · have kk := k H4 (e'.trans e4)
      rw [inv2] at kk
      exact kk
theorem ev__law_sum {a c : Addr} {ss : List Say} {ch : List Int} {p q : Nat} (h1 : Ev ta σ H (.ref a)) (h2 : Ev tb σ H (.ref c)) (h3 : Ev tc σ H (.int (p : Int))) (h4 : Ev td σ H (.int (q : Int))) (hS : Says K H a ss) (hC : SqL K H c (iV ch)) :
    Ev (tCall (sp__law_sum K) [] E0 (tCons ta (tCons tb (tCons tc (tCons td tNil))))) σ H (oV (sumAlong ss ch p q)) :=
  ev_pur (ea_cons h1 (ea_cons h2 (ea_cons h3 (ea_cons h4 ea_nil)))) fun H1 e => ⟨a, c, ss, ch, p, q, rfl, hS.mono e, ex_l e hC, rfl⟩
theorem any_false {n : Nat} : ((List.range n).map fun _ => false).any id = false := by
  rw [List.any_eq_false]
  intro b hb
  obtain ⟨_, _, rfl⟩ := List.mem_map.mp hb
  exact Bool.false_ne_true
theorem pure__law_kept (h : sp__law_kept K vs H Q E) : t__law_kept K (Bd Q) (start ["_law_count", "_law_sayings_here", "_law_row", "_law_one", "_law_lower", "_law_upper", "_law_number"] vs) H := by
  obtain ⟨z, ⟨n, a, b, ss, hs, rfl, hS, ok, hB, hz, rfl⟩, q⟩ := h
  refine q_when (b := !decide (hs.length = n)) (et_is (et_or (b := false) (et_test (ev_op (ev_len (ev_var rfl) hB) (ev_var rfl) (rv_ne rfl))) fun _ => et_B (ev_is (ev_any (bs := (List.range (iV hs).length).map fun _ => false) (el_is (el_map (fun _ => .bl false) (ev_var rfl) hB (by rw [List.length_map]; omega) (fun _ => rfl) fun i x H2 e2 hi => ?_) (by rw [List.map_map] <;> rfl))) (by rw [any_false]))) ?_) (fun hb H1 e1 => ?_) fun hb H1 e1 => ?_
  · obtain ⟨y, _, rfl⟩ := iV_at hi
    exact ev_orV (a := false) (b := false) (ev_isi (ev_var rfl) (fun _ _ => ty_int) kit_ib) fun _ => ev_notV (ev_isi (ev_var rfl) (fun _ _ => ty_int) kit_ii)
  · rw [List.length_map, dec_len, Bool.or_false]
  · have ne : ¬ hs.length = n := by simpa using hb
    refine s_ret ev_c fun H2 e2 => ?_
    have kk := q H2 (e1.trans e2)
    have : keepAll n ss hs = false := by unfold keepAll; rw [decide_eq_false ne]; rfl
    rw [this] at kk
    exact kk
  · have eq : hs.length = n := by simpa using hb
    have hB1 := ex_l e1 hB
    refine s_ret (v := .bl (keepAll n ss hs)) (ev_is (ev_all (bs := ss.map (keeps hs)) (el_is (el_says (fun s => .bl (keeps hs s)) (hS.mono e1) (ev_var rfl) (fun _ _ _ => rfl) fun s H2 e2 hs' => ?_) (by rw [List.map_map]; rfl))) ?_) fun H2 e2 => q H2 (e1.trans e2)
    · have := ok s hs'
      have hB2 := ex_l e2 hB1
      refine ev_is (ev_op (ev_op (ev_var rfl) (ev_var rfl) (rv_ixL hB2 (at_iV (by omega)))) (ev_op (ev_op (ev_var rfl) (ev_var rfl) (rv_ixL hB2 (at_iV (by omega)))) (ev_var rfl) rv_I0) rv_I0) ?_
      unfold keeps
      congr 1
      refine decide_eq_decide.mpr ?_; omega
    · rw [all_map_id]
      unfold keepAll
      rw [decide_eq_true eq, Bool.true_and]
theorem ev__law_kept {n : Nat} {a b : Addr} {ss : List Say} {hs : List Int} (h1 : Ev ta σ H (.int (n : Int))) (h2 : Ev tb σ H (.ref a)) (h3 : Ev tc σ H (.ref b)) (hS : Says K H a ss) (ok : Ok n ss) (hB : SqL K H b (iV hs)) (hz : hs.length ≤ 1000) :
    Ev (tCall (sp__law_kept K) [] E0 (tCons ta (tCons tb (tCons tc tNil)))) σ H (.bl (keepAll n ss hs)) :=
  ev_pur (ea3 h1 h2 h3) fun H1 e => ⟨n, a, b, ss, hs, rfl, hS.mono e, ok, ex_l e hB, hz, rfl⟩
end
end Am

/-! the walks of the program -/
namespace Am
open PySem L2 Evl
open He (ga ma)
abbrev oVs (S : Sums) : List V := S.map oV
def sp_lessened (K : PySem.W.Frag) : Sp := fun vs H Q _ => ∃ (a s l : Addr) (ss : List Say) (S0 : Sums) (n : Nat), vs = [.ref a, .ref s, .ref l] ∧ s ≠ l ∧ Says K (less (less H s) l) a ss ∧ Ok n ss ∧ S0.length = n ∧ n ≤ 100 ∧ H s = some (.lst (oVs S0)) ∧ H l = some (.lst (iV (List.replicate n (-1)))) ∧
  ∀ st H2, Less n ss S0 st → Ex (less (less H s) l) H2 → H2 s = some (.lst (oVs st.sums)) → H2 l = some (.lst (iV st.last)) → Q (.int st.ch) H2
def sp_ring_behind (K : PySem.W.Frag) : Sp := fun vs H Q _ => ∃ (a l : Addr) (ss : List Say) (last : List Int) (v : Nat), vs = [.ref a, .ref l, .int (v : Int)] ∧ Says K H a ss ∧ SqL K H l (iV last) ∧ last.length ≤ 100 ∧ Deep ss last v ∧
  ∀ (c : List Int) p H2, isRing ss c = true → c.length ≤ 100 → H p = none → Ex H H2 → H2 p = some (.lst (iV c)) → Q (.ref p) H2
def sp_from_all (K : PySem.W.Frag) : Sp := fun vs H Q _ => ∃ (n : Nat) (a : Addr) (ss : List Say), vs = [.int (n : Int), .ref a] ∧ Says K H a ss ∧ Ok n ss ∧ 0 < n ∧ n ≤ 100 ∧
  (∀ (hs : List Int) t s r H2, keepAll n ss hs = true → (∀ v, hs.getD v 0 ≤ 0) → (∀ v, v < n → Led ss hs v) → H s = none → H r = none → Ex H H2 → H2 t = some (.tup [.ref s, .ref r]) → H2 s = some (.lst (iV hs)) → H2 r = some (.lst []) → Q (.ref t) H2) ∧
  (∀ (c : List Int) t s r H2, isRing ss c = true → c.length ≤ 100 → H s = none → H r = none → Ex H H2 → H2 t = some (.tup [.ref s, .ref r]) → H2 r = some (.lst (iV c)) → Q (.ref t) H2)
def t_lessened (K : PySem.W.Frag) : TS := tSeq (tFor (iRng1 (tCons (tOp rAddI (tCB (rLenS K) (tCons (tVar 1) (tNil))) (tC (.int 1))) (tNil))) (gName 3) (tSeq (tAsg (tUn rNegI (tC (.int 1))) (gName 4)) (tSeq (tFor (iEnum K (tCons (tVar 0) (tNil))) (gTup K 2 (gCons (gName 5) (gCons (gName 6) (gNil)))) (tSeq (tAsg (tVar 6) (gTup K 3 (gCons (gName 7) (gCons (gName 8) (gCons (gName 9) (gNil)))))) (tIfS (tAnd (tTest (tOp rNotN0 (tOp (rIxL K) (tVar 1) (tVar 7)) (tC .non))) (tOr (tTest (tOp rIsN0 (tOp (rIxL K) (tVar 1) (tVar 8)) (tC .non))) (tTest (tOp rGtI (tOp (rIxL K) (tVar 1) (tVar 8)) (tOp rAddI (tOp (rIxL K) (tVar 1) (tVar 7)) (tVar 9)))))) (tSeq (tAsg (tOp rAddI (tOp (rIxL K) (tVar 1) (tVar 7)) (tVar 9)) (gSub (tVar 1) (tVar 8) rSetL)) (tSeq (tAsg (tVar 5) (gSub (tVar 2) (tVar 8) rSetL)) (tAsg (tVar 8) (gName 4)))) (tNext)))) (tIfS (tTest (tOp rLtI (tVar 4) (tC (.int 0)))) (tRet (tUn rNegI (tC (.int 1)))) (tNext))))) (tRet (tVar 4))
def t_ring_behind (K : PySem.W.Frag) : TS := tSeq (tFor (iRng1 (tCons (tCB (rLenS K) (tCons (tVar 1) (tNil))) (tNil))) (gName 3) (tAsg (tOp (rIxT K) (tOp (rIxL K) (tVar 0) (tOp (rIxL K) (tVar 1) (tVar 2))) (tC (.int 0))) (gName 2))) (tSeq (tAsg (tLst (tCons (tOp (rIxL K) (tVar 1) (tVar 2)) (tNil))) (gName 4)) (tSeq (tAsg (tOp (rIxT K) (tOp (rIxL K) (tVar 0) (tOp (rIxL K) (tVar 1) (tVar 2))) (tC (.int 0))) (gName 5)) (tSeq (tWhile (tTest (tOp rNe (tVar 5) (tVar 2))) (tSeq (tDrop (tBM K "list" rAppend (tVar 4) (tCons (tOp (rIxL K) (tVar 1) (tVar 5)) (tNil)))) (tAsg (tOp (rIxT K) (tOp (rIxL K) (tVar 0) (tOp (rIxL K) (tVar 1) (tVar 5))) (tC (.int 0))) (gName 5)))) (tRet (tRevL K (tVar 4))))))
def t_from_all (K : PySem.W.Frag) : TS := tSeq (tAsg (tLc (iRng1 (tCons (tVar 0) (tNil))) (gName 4) (tYes) (tC (.int 0)) [4]) (gName 2)) (tSeq (tAsg (tLc (iRng1 (tCons (tVar 0) (tNil))) (gName 4) (tYes) (tUn rNegI (tC (.int 1))) [4]) (gName 3)) (tSeq (tAsg (tCall (sp_lessened K) [] E0 (tCons (tVar 1) (tCons (tVar 2) (tCons (tVar 3) (tNil))))) (gName 4)) (tSeq (tIfS (tTest (tOp rLtI (tVar 4) (tC (.int 0)))) (tRet (tTup (tCons (tVar 2) (tCons (tLst (tNil)) (tNil))))) (tNext)) (tRet (tTup (tCons (tVar 2) (tCons (tCall (sp_ring_behind K) [] E0 (tCons (tVar 1) (tCons (tVar 3) (tCons (tVar 4) (tNil))))) (tNil))))))))
section
variable {K : PySem.W.Frag} {vs : List V} {H H' : Hp} {Q : VK} {E : XK} {σ : L2.St} {ta tb tc td te : TE} {tz tu : TS} {D : Ends} {ts : TA}
/-- for .. in enumerate(a list) -/
theorem q_forE {a : Addr} {xs : List V} {g : TG} (h : Ev ta σ H (.ref a)) (hx : SqL K H a xs) (Pv : Nat → L2.St → Hp → Prop) (h0 : ∀ H1, Ex H H1 → Pv 0 σ H1) (hk : ∀ i σ' H', Pv i σ' H' → SqL K H' a xs)
    (hs : ∀ i x T σ' H', xs[i]? = some x → Pv i σ' H' → H' T = none → g (.ref T) σ' (upd H' T (.tup [.int (i : Int), x])) fun σ2 H2 => tu { D with nx := Pv (i + 1), ct := Pv (i + 1), bk := tz D } σ2 H2)
    (hd : ∀ σ' H', Pv xs.length σ' H' → tz D σ' H') : tSeq (tFor (iEnum K (tCons ta tNil)) g tu) tz D σ H :=
  h H (Ex.refl H) _ fun H1 e1 => ⟨a, xs, rfl, ex_l e1 hx, for_it (D := { D with nx := tz D }) (walk_enum (xs := xs)) Pv (h0 H1 e1) (fun i σ' H' _ p => hk i σ' H' p)
    (fun i x σ' H2 H3 hi p ⟨T, x1, x2, e1, hT, e2, e3, e4⟩ => by
      subst e1 e2
      cases e3
      exact hs i x2 T σ' H2 e4 p hT) (fun σ' H' p => hd σ' H' p)⟩
theorem at_oV {S : Sums} {i : Nat} (h : i < S.length) : atI (oVs S) (i : Int) = some (oV (S.getD i none)) := by
  refine atI_nat ?_
  rw [List.getElem?_map, List.getD_eq_getElem?_getD, List.getElem?_eq_getElem h]
  rfl
theorem oV_non {o : Option Int} : decide (oV o = V.non) = o.isNone := by cases o <;> rfl
/-- does the saying ask for less -/
theorem et_slack {s : Addr} {S : Sums} {x : Say} (hs : SqL K H s (oVs S)) (h1 : σ[1]? = some (some (V.ref s))) (h7 : σ[7]? = some (some (V.int (x.1 : Int)))) (h8 : σ[8]? = some (some (V.int (x.2.1 : Int)))) (h9 : σ[9]? = some (some (V.int x.2.2))) (hl : x.1 < S.length) (hu : x.2.1 < S.length) :
    EvT (tAnd (tTest (tOp rNotN0 (tOp (rIxL K) (tVar 1) (tVar 7)) (tC .non))) (tOr (tTest (tOp rIsN0 (tOp (rIxL K) (tVar 1) (tVar 8)) (tC .non))) (tTest (tOp rGtI (tOp (rIxL K) (tVar 1) (tVar 8)) (tOp rAddI (tOp (rIxL K) (tVar 1) (tVar 7)) (tVar 9)))))) σ H (slack S x) := by
  have L : Ev (tOp (rIxL K) (tVar 1) (tVar 7)) σ H (oV (S.getD x.1 none)) := ev_op (ev_var h1) (ev_var h7) (rv_ixL hs (at_oV hl))
  have U : Ev (tOp (rIxL K) (tVar 1) (tVar 8)) σ H (oV (S.getD x.2.1 none)) := ev_op (ev_var h1) (ev_var h8) (rv_ixL hs (at_oV hu))
  obtain ⟨l, u, m⟩ := x
  simp only at L U h7 h8 h9 hl hu
  unfold slack
  simp only
  cases hL : S.getD l none with
  | none =>
    rw [hL] at L
    exact et_is (et_and (a := false) (b := false) (et_test (ev_op L ev_c rv_notN)) fun z => nomatch z) rfl
  | some a =>
    rw [hL] at L
    cases hU : S.getD u none with
    | none =>
      rw [hU] at U
      exact et_is (et_and (a := true) (b := true) (et_test (ev_op L ev_c rv_notN)) fun _ => et_is (et_or (a := true) (b := true) (et_test (ev_op U ev_c rv_isN)) fun z => nomatch z) rfl) rfl
    | some b =>
      rw [hU] at U
      exact et_is (et_and (a := true) (et_test (ev_op L ev_c rv_notN)) fun _ => et_is (et_or (a := false) (et_test (ev_op U ev_c rv_isN)) fun _ => et_test (ev_op (ev_is U rfl) (ev_op (ev_is L rfl) (ev_var h9) rv_I0) rv_I0)) (Bool.false_or _)) (Bool.true_and _)
theorem sum_some {S : Sums} {x : Say} (h : slack S x = true) : ∃ a, S.getD x.1 none = some a := by
  obtain ⟨l, u, m⟩ := x
  obtain ⟨a, ha, _⟩ := slack_true h
  exact ⟨a, ha⟩
theorem turn_no {st : LSt} {i : Nat} {x : Say} (h : slack st.sums x = false) : turn st i x = st := by
  unfold turn
  rw [h]
  rfl
theorem turn_yes {st : LSt} {i : Nat} {x : Say} {a : Int} (h : slack st.sums x = true) (ha : st.sums.getD x.1 none = some a) : turn st i x = ⟨st.sums.set x.2.1 (some (a + x.2.2)), st.last.set x.2.1 (i : Int), (x.2.1 : Int)⟩ := by
  unfold turn
  rw [if_pos h, ha]
  rfl
theorem upTo_succ {ss : List Say} {st : LSt} {i : Nat} {x : Say} (h : ss[i]? = some x) : upTo ss st (i + 1) = turn (upTo ss st i) i x := by
  show turn (upTo ss st i) i (ss.getD i z0) = _
  rw [getD_some h]
theorem turn_len {st : LSt} {i : Nat} {x : Say} : (turn st i x).sums.length = st.sums.length ∧ (turn st i x).last.length = st.last.length := by
  unfold turn
  split
  · exact ⟨List.length_set .., List.length_set ..⟩
  · exact ⟨rfl, rfl⟩
theorem upTo_len {ss : List Say} {st : LSt} : ∀ i, (upTo ss st i).sums.length = st.sums.length ∧ (upTo ss st i).last.length = st.last.length
  | 0 => ⟨rfl, rfl⟩
  | i + 1 => ⟨(turn_len).1.trans (upTo_len i).1, (turn_len).2.trans (upTo_len i).2⟩
theorem oVs_set {S : Sums} {j : Nat} {x : Int} : (oVs S).set j (.int x) = oVs (S.set j (some x)) := by
  show _ = (S.set j (some x)).map oV
  rw [List.map_set]
  rfl
theorem iV_set {l : List Int} {j : Nat} {x : Int} : (iV l).set j (.int x) = iV (l.set j x) := by
  show _ = (l.set j x).map V.int
  rw [List.map_set]
theorem mut2 {s l : Addr} {H0 : Hp} : less (less H0 s) l s = none ∧ less (less H0 s) l l = none := by
  refine ⟨?_, less_at⟩
  by_cases h : s = l
  · rw [h]; exact less_at
  · rw [less_ne h]; exact less_at
theorem pure_lessened (h : sp_lessened K vs H Q E) : t_lessened K (Bd Q) (L2.start ["sayings", "sums", "last", "turn", "changed", "at", "saying", "lower", "upper", "number"] vs) H := by
  obtain ⟨a, s, l, ss, S0, n, rfl, hsl, hS, ok, hn, hz, hs, hl, k⟩ := h
  have hB := mut2 (s := s) (l := l) (H0 := H)
  generalize hBd : less (less H s) l = B at hS hB k
  have hBH : Ex B H := by rw [← hBd]; exact ex_less.trans ex_less
  have hlen : ((oVs S0).length : Int) + 1 = ((n + 1 : Nat) : Int) := by rw [List.length_map, hn]; rfl
  refine q_forR1 (n := ((n + 1 : Nat) : Int)) (ea_cons (ev_is (ev_op (ev_len (ev_var rfl) (sq_of hs)) ev_c rv_I0) (by rw [hlen])) ea_nil) (by omega)
    (fun i σ' H' => ∃ (st : LSt) (w3 w4 w5 w6 w7 w8 w9 : Option V), σ' = [some (.ref a), some (.ref s), some (.ref l), w3, w4, w5, w6, w7, w8, w9] ∧ (0 < i → w4 = some (.int st.ch)) ∧ Ex B H' ∧ H' s = some (.lst (oVs st.sums)) ∧ H' l = some (.lst (iV st.last)) ∧ st.sums.length = n ∧ st.last.length = n ∧ i ≤ n + 1 ∧
      lessened ss S0 (List.replicate n (-1)) = rounds ss (n + 1 - i) st)
    (fun H1 e1 => ⟨⟨S0, List.replicate n (-1), 0⟩, none, none, none, none, none, none, none, rfl, fun z => absurd z (Nat.lt_irrefl 0), hBH.trans e1, e1 _ _ hs, e1 _ _ hl, hn, List.length_replicate, Nat.zero_le _, by unfold lessened; rw [hn]; rfl⟩) ?_ ?_
  · rintro i σ' H' hi ⟨st, w3, w4, w5, w6, w7, w8, w9, rfl, _, e', hs', hl', ls, ll, _, inv⟩
    refine q_asg (v := .int (-1)) (ev_un ev_c ru_neg) fun H1 e1 => ?_
    -- one round
    obtain ⟨hz1, xs, hxL, hxp⟩ := id hS
    have hxlen : xs.length = ss.length := Paired.length hxp
    refine q_forE (ev_var rfl) (ex_l (e'.trans e1) hxL)
      (fun j σ' H' => ∃ (w5 w6 w7 w8 w9 : Option V), σ' = [some (.ref a), some (.ref s), some (.ref l), some (.int (i : Int)), some (.int (upTo ss { st with ch := -1 } j).ch), w5, w6, w7, w8, w9] ∧ Ex B H' ∧ H' s = some (.lst (oVs (upTo ss { st with ch := -1 } j).sums)) ∧ H' l = some (.lst (iV (upTo ss { st with ch := -1 } j).last)))
      (fun H2 e2 => ⟨w5, w6, w7, w8, w9, rfl, (e'.trans e1).trans e2, (e1.trans e2) _ _ hs', (e1.trans e2) _ _ hl'⟩) (fun j σ' H' ⟨_, _, _, _, _, _, e3, _⟩ => ex_l e3 hxL) ?_ ?_
    · rintro j x T σ' H3 hx2 ⟨w5, w6, w7, w8, w9, rfl, e3, hs3, hl3⟩ hT
      obtain ⟨y, hy, tp, rfl, hTp⟩ := paired_get hxp hx2
      have e4 : Ex H3 (upd H3 T (.tup [.int (j : Int), .ref tp])) := Ex.new hT
      refine unp2 (st_of upd_same) ?_
      have E4 := e3.trans e4
      have lens := upTo_len (ss := ss) (st := { st with ch := -1 }) j
      have hyb := ok.get hy
      have hyl : y.1 < (upTo ss { st with ch := -1 } j).sums.length := by rw [lens.1]; show _ < st.sums.length; omega
      have hyu : y.2.1 < (upTo ss { st with ch := -1 } j).sums.length := by rw [lens.1]; show _ < st.sums.length; omega
      have hyL : y.2.1 < (upTo ss { st with ch := -1 } j).last.length := by rw [lens.2]; show _ < st.last.length; omega
      have hup := upTo_succ (st := { st with ch := -1 }) hy
      generalize upTo ss { st with ch := -1 } j = sj at *
      generalize upTo ss { st with ch := -1 } (j + 1) = sj1 at *
      have hs4 := e4 _ _ hs3
      have hl4 := e4 _ _ hl3
      generalize upd H3 T (.tup [.int (j : Int), .ref tp]) = H4 at *
      refine q_unp3 (ev_var rfl) (ex_t E4 hTp) fun H5 e5 => ?_
      have hs5 := e5 _ _ hs4
      have hl5 := e5 _ _ hl4
      refine s_when (et_slack (x := y) (sq_of hs5) rfl rfl rfl rfl hyl hyu) (fun hb H6 e6 => ?_) fun hb H6 e6 => ?_
      · obtain ⟨av, hav⟩ := sum_some hb
        rw [turn_yes hb hav] at hup
        have hs6 := e6 _ _ hs5
        have hl6 := e6 _ _ hl5
        refine q_setL (v := .int (av + y.2.2)) hs6 (ev_op (ev_is (ev_op (ev_var rfl) (ev_var rfl) (rv_ixL (sq_of hs6) (at_oV hyl))) (by rw [hav]; rfl)) (ev_var rfl) rv_I0) (ev_var rfl) (ev_var rfl) (by rw [List.length_map]; exact hyu) fun H7 e7 => ?_
        rw [oVs_set]
        have E7 : Ex B H7 := ((E4.trans e5).trans e6).trans e7
        have hl7 : (upd H7 s (.lst (oVs (sj.sums.set y.2.1 (some (av + y.2.2)))))) l = some (.lst (iV sj.last)) := by rw [upd_ne (Ne.symm hsl)]; exact e7 _ _ hl6
        have E7' := Ex.mut (o := .lst (oVs (sj.sums.set y.2.1 (some (av + y.2.2))))) E7 hB.1
        refine q_setL (v := .int (j : Int)) hl7 (ev_var rfl) (ev_var rfl) (ev_var rfl) (by rw [List.length_map]; exact hyL) fun H8 e8 => ?_
        rw [iV_set]
        refine s_asg (ev_var rfl) fun H9 e9 => ?_
        rw [hup]
        refine ⟨_, _, _, _, _, rfl, (Ex.mut (E7'.trans e8) hB.2).trans e9, ?_, ?_⟩
        · refine e9 _ _ ?_
          rw [upd_ne hsl]
          exact e8 _ _ upd_same
        · exact e9 _ _ upd_same
      · rw [turn_no hb] at hup
        rw [hup]
        exact ⟨_, _, _, _, _, rfl, (E4.trans e5).trans e6, e6 _ _ hs5, e6 _ _ hl5⟩
    · rintro σ' H3 ⟨w5, w6, w7, w8, w9, rfl, e3, hs3, hl3⟩
      rw [hxlen] at hs3 hl3 ⊢
      have er : upTo ss { st with ch := -1 } ss.length = round ss st := rfl
      have lens := upTo_len (ss := ss) (st := { st with ch := -1 }) ss.length
      rw [er] at hs3 hl3 lens ⊢
      have hk : n + 1 - i = (n + 1 - (i + 1)) + 1 := by omega
      rw [hk] at inv
      have inv2 : lessened ss S0 (List.replicate n (-1)) = if (round ss st).ch < 0 then { round ss st with ch := -1 } else rounds ss (n + 1 - (i + 1)) (round ss st) := inv
      have fin := lessened_ok (S0 := S0) ok hn
      refine s_when (b := decide ((round ss st).ch < 0)) (et_test (ev_op (ev_var rfl) ev_c rv_I0)) (fun hb H4 e4 => ?_) fun hb H4 e4 => ?_
      · rw [inv2, if_pos (of_decide_eq_true hb)] at fin
        exact s_ret (v := .int (-1)) (ev_un ev_c ru_neg) fun H5 e5 => k { round ss st with ch := -1 } H5 fin ((e3.trans e4).trans e5) ((e4.trans e5) _ _ hs3) ((e4.trans e5) _ _ hl3)
      · rw [if_neg (of_decide_eq_false hb)] at inv2
        exact ⟨round ss st, _, _, _, _, _, _, _, rfl, fun _ => rfl, e3.trans e4, e4 _ _ hs3, e4 _ _ hl3, by rw [lens.1]; exact ls, by rw [lens.2]; exact ll, by omega, inv2⟩
  · rintro σ' H' ⟨st, w3, w4, w5, w6, w7, w8, w9, rfl, h4, e', hs', hl', ls, ll, _, inv⟩
    have e0 : n + 1 - ((n + 1 : Nat) : Int).toNat = 0 := by omega
    rw [e0] at inv
    have inv2 : lessened ss S0 (List.replicate n (-1)) = st := inv
    have h4' := h4 (by omega)
    subst h4'
    have fin := lessened_ok (S0 := S0) ok hn
    rw [inv2] at fin
    exact s_ret (ev_var rfl) fun H5 e5 => k st H5 fin (e'.trans e5) (e5 _ _ hs') (e5 _ _ hl')
end
end Am

namespace Am
open PySem L2 Evl
open He (ga ma)
section
variable {K : PySem.W.Frag} {vs : List V} {H H' : Hp} {Q : VK} {E : XK} {σ : L2.St} {ta tb tc td te : TE} {tz tu : TS} {D : Ends} {ts : TA}
/-- sayings[last[x]][0] -/
theorem ev_back {a l : Addr} {ss : List Say} {last : List Int} {v k : Nat} {s : Say} (hS : Says K H a ss) (hL : SqL K H l (iV last)) (ha : Ev ta σ H (.ref a)) (hl : Ev tb σ H (.ref l)) (hv : Ev tc σ H (.int (v : Int))) (h1 : last.getD v (-1) = (k : Int)) (hvl : v < last.length) (h2 : ss[k]? = some s) :
    Ev (tOp (rIxT K) (tOp (rIxL K) ta (tOp (rIxL K) tb tc)) (tC (.int 0))) σ H (.int (s.1 : Int)) := by
  have e : last.getD v 0 = (k : Int) := by
    rw [List.getD_eq_getElem?_getD, List.getElem?_eq_getElem hvl] at h1 ⊢
    exact h1
  exact ev_part hS h2 ha (ev_op hl hv (rv_ixL hL (by rw [at_iV hvl, e]))) rfl
theorem ev_lastAt {l : Addr} {last : List Int} {v k : Nat} (hL : SqL K H l (iV last)) (hl : Ev tb σ H (.ref l)) (hv : Ev tc σ H (.int (v : Int))) (h1 : last.getD v (-1) = (k : Int)) (hvl : v < last.length) : Ev (tOp (rIxL K) tb tc) σ H (.int (k : Int)) := by
  have e : last.getD v 0 = (k : Int) := by
    rw [List.getD_eq_getElem?_getD, List.getElem?_eq_getElem hvl] at h1 ⊢
    exact h1
  exact ev_op hl hv (rv_ixL hL (by rw [at_iV hvl, e]))
theorem in_last {last : List Int} {v k : Nat} (h : last.getD v (-1) = (k : Int)) : v < last.length := by
  rcases Nat.lt_or_ge v last.length with g | g
  · exact g
  · rw [List.getD_eq_getElem?_getD, List.getElem?_eq_none g] at h
    have h' : (-1 : Int) = (k : Int) := h
    omega
theorem el_rev {p : Addr} {xs : List V} (h : Ev te σ H (.ref p)) (hx : SqL K H p xs) : EvL (tRevL K te) σ H xs.reverse := fun H1 e Q q =>
  h H1 e _ fun H2 e2 => ⟨p, xs, rfl, ex_l (e.trans e2) hx, fun r hr => q r _ (fresh_back e2 hr) (e2.trans (Ex.new hr)) upd_same⟩
theorem rev_iV (as : List Nat) : (iV (as.map Int.ofNat)).reverse = iV (as.reverse.map Int.ofNat) := by
  show (List.map V.int (as.map Int.ofNat)).reverse = List.map V.int (as.reverse.map Int.ofNat)
  rw [← List.map_reverse, ← List.map_reverse]
theorem app_iV (as : List Nat) (k : Nat) : iV (as.map Int.ofNat) ++ [V.int (k : Int)] = iV ((as ++ [k]).map Int.ofNat) := by
  show _ = List.map V.int ((as ++ [k]).map Int.ofNat)
  rw [List.map_append, List.map_append]
  rfl
theorem pure_ring_behind (h : sp_ring_behind K vs H Q E) : t_ring_behind K (Bd Q) (L2.start ["sayings", "last", "place", "turn", "found", "now"] vs) H := by
  obtain ⟨a, l, ss, last, v, rfl, hS, hL, hz, ⟨as, x, W, d, ds, W3, w, hal, w3, neg, hdl⟩, k⟩ := h
  have hlen : ((iV last).length : Int) = ((last.length : Nat) : Int) := by rw [List.length_map]
  refine q_forR1 (n := ((last.length : Nat) : Int)) (ea_cons (ev_is (ev_len (ev_var rfl) hL) (by rw [hlen])) ea_nil) (by omega)
    (fun i σ' H' => ∃ (u : Nat) (rs : List Nat) (W' : Int) (w3 : Option V), σ' = [some (.ref a), some (.ref l), some (.int (u : Int)), w3, none, none] ∧ Ex H H' ∧ Walk ss last u rs x W' ∧ rs.length + i = last.length)
    (fun H1 e1 => ⟨v, as, W, none, rfl, e1, w, by omega⟩) ?_ ?_
  · rintro i σ' H' hi ⟨u, rs, W', w3', rfl, e', wu, hr⟩
    cases wu with
    | nil => simp at hr; omega
    | @step _ y _ b m W2 rs2 g1 g2 wy =>
      exact s_asg (ev_back (hS.mono e') (ex_l e' hL) (ev_var rfl) (ev_var rfl) (ev_var rfl) g1 (in_last g1) g2) fun H1 e1 => ⟨y, rs2, W2, _, rfl, e'.trans e1, wy, by rw [List.length_cons] at hr; omega⟩
  · rintro σ' H' ⟨u, rs, W', w3', rfl, e', wu, hr⟩
    have hr0 : rs = [] := by
      have : ((last.length : Nat) : Int).toNat = last.length := by omega
      rw [this] at hr
      refine List.length_eq_zero_iff.mp ?_; omega
    subst hr0
    cases wu
    -- x is on the ring
    cases w3 with
    | @step _ y _ _ m W2 _ g1 g2 wy =>
      have hS' := hS.mono e'
      have hL' := ex_l e' hL
      refine q_asgL (el_lst (ea_cons (ev_lastAt hL' (ev_var rfl) (ev_var rfl) g1 (in_last g1)) ea_nil) (by show 1 ≤ 100000; decide)) fun f H1 hf e1 hf1 => ?_
      refine q_asg (ev_back (hS'.mono e1) (ex_l e1 hL') (ev_var rfl) (ev_var rfl) (ev_var rfl) g1 (in_last g1) g2) fun H2 e2 => ?_
      have hB : Ex H (less H2 f) := ex_less_old ((e'.trans e1).trans e2) (fresh_back e' hf)
      refine q_while (fun m σ' H3 => ∃ (bs cs : List Nat) (u : Nat) (Wb Wc : Int), σ' = [some (.ref a), some (.ref l), some (.int (x : Int)), w3', some (.ref f), some (.int (u : Int))] ∧ Ex (less H2 f) H3 ∧ H3 f = some (.lst (iV ((d :: bs).map Int.ofNat))) ∧
          Walk ss last x (d :: bs) u Wb ∧ Walk ss last u cs x Wc ∧ (d :: bs).length + cs.length = (d :: ds).length ∧ cs.length = m) ds.length
        ⟨[], ds, y, _, _, rfl, ex_less, e2 _ _ hf1, .step g1 g2 (.nil y), wy, by simp; omega, rfl⟩ ?_
      rintro m1 σ' H3 ⟨bs, cs, u, Wb, Wc, rfl, e3, hf3, wb, wc, hl3, rfl⟩
      have E3 := hB.trans e3
      refine ⟨!decide (u = x), et_is (et_test (ev_op (ev_var rfl) (ev_var rfl) (rv_ne rfl))) (by rw [dec_nat]), fun hb H4 e4 => ?_, fun hb H4 e4 => ?_⟩
      · have ne : u ≠ x := by simpa using hb
        cases wc with
        | nil => exact absurd rfl ne
        | @step _ y2 _ b m2 W5 cs2 h1 h2 wy2 =>
          refine ⟨fun σ2 H5 => ∃ (bs cs : List Nat) (u : Nat) (Wb Wc : Int), σ2 = [some (.ref a), some (.ref l), some (.int (x : Int)), w3', some (.ref f), some (.int (u : Int))] ∧ Ex (less H2 f) H5 ∧ H5 f = some (.lst (iV ((d :: bs).map Int.ofNat))) ∧
            Walk ss last x (d :: bs) u Wb ∧ Walk ss last u cs x Wc ∧ (d :: bs).length + cs.length = (d :: ds).length ∧ cs.length = cs2.length, fun σ2 H5 ⟨bs', cs', u', Wb', Wc', q1, q2, q3, q4, q5, q6, q7⟩ => ⟨cs2.length, by simp, bs', cs', u', Wb', Wc', q1, q2, q3, q4, q5, q6, q7⟩, ?_⟩
          have E4 := E3.trans e4
          have hsz : ((d :: bs).map Int.ofNat).length < 100000 := by
            rw [List.length_map]
            have : (d :: ds).length ≤ 100 := Nat.le_trans hdl hz
            omega
          refine q_app (v := .int (b : Int)) (e4 _ _ hf3) (ev_var rfl) (ev_lastAt (ex_l E4 hL) (ev_var rfl) (ev_var rfl) h1 (in_last h1)) (by rw [List.length_map]; exact hsz) fun H5 e5 => ?_
          rw [app_iV]
          have EB : Ex (less H2 f) (upd H5 f (.lst (iV ((d :: bs ++ [b]).map Int.ofNat)))) := Ex.mut ((e3.trans e4).trans e5) less_at
          refine s_asg (ev_back (hS.mono (hB.trans EB)) (ex_l (hB.trans EB) hL) (ev_var rfl) (ev_var rfl) (ev_var rfl) h1 (in_last h1) h2) fun H6 e6 => ?_
          exact ⟨bs ++ [b], cs2, y2, _, W5, rfl, EB.trans e6, e6 _ _ upd_same, wb.app (.step h1 h2 (.nil y2)), wy2, by simp at hl3 ⊢; omega, rfl⟩
      · have eq : u = x := by simpa using hb
        subst eq
        have E4 := E3.trans e4
        have hw := neg _ _ _ _ wb
        refine s_retL (el_rev (ev_var rfl) (sq_of (e4 _ _ hf3))) fun p H5 hp e5 h5 => ?_
        rw [rev_iV] at h5
        refine k _ p H5 (wb.ring hw) ?_ (fresh_back E4 hp) (E4.trans e5) h5
        rw [List.length_map, List.length_reverse]
        have : (d :: ds).length ≤ 100 := Nat.le_trans hdl hz
        omega
theorem pure_from_all (h : sp_from_all K vs H Q E) : t_from_all K (Bd Q) (L2.start ["count", "sayings", "sums", "last", "place"] vs) H := by
  obtain ⟨n, a, ss, rfl, hS, ok, hn, hz, k1, k2⟩ := h
  have eS : ((List.range n).map fun _ => V.int 0) = oVs (List.replicate n (some 0)) := by
    show _ = (List.replicate n (some 0)).map oV
    rw [List.map_replicate, List.map_const', List.length_range]
    rfl
  have eL : ((List.range n).map fun _ => V.int (-1)) = iV (List.replicate n (-1)) := by
    show _ = (List.replicate n (-1)).map V.int
    rw [List.map_replicate, List.map_const', List.length_range]
  refine q_asgL (el_mapR (n := (n : Int)) (fun _ => .int 0) (ea_cons (ev_var rfl) ea_nil) (by omega) (fun _ => rfl) fun i H1 e1 hi => ev_c) fun s H1 hs' e1 hs1 => ?_
  have hs1' : H1 s = some (.lst (oVs (List.replicate n (some 0)))) := by rw [← eS]; exact hs1
  refine q_asgL (el_mapR (n := (n : Int)) (fun _ => .int (-1)) (ea_cons (ev_var rfl) ea_nil) (by omega) (fun _ => rfl) fun i H2 e2 hi => ev_un ev_c ru_neg) fun l H2 hl e2 hl2 => ?_
  have hl2' : H2 l = some (.lst (iV (List.replicate n (-1)))) := by rw [← eL]; exact hl2
  have hsl : s ≠ l := fun z => by rw [z, hl] at hs1'; cases hs1'
  have hl0 := fresh_back e1 hl
  refine raw_q_asg (raw_call (ea3 (ev_var rfl) (ev_var rfl) (ev_var rfl)) fun H3 e3 => ?_)
  have hs3 := e3 _ _ (e2 _ _ hs1')
  have hl3 := e3 _ _ hl2'
  have E3 : Ex H H3 := (e1.trans e2).trans e3
  have EB : Ex H (less (less H3 s) l) := ex_less_old (ex_less_old E3 hs') hl0
  refine ⟨a, s, l, ss, List.replicate n (some 0), n, rfl, hsl, hS.mono EB, ok, List.length_replicate, hz, hs3, hl3, fun st H4 L e4 hs4 hl4 => ?_⟩
  have E4 := EB.trans e4
  rcases fromAll_ok ok L with ⟨hc, hs, est, ka, h0, led⟩ | ⟨v, hv, hc, dp⟩
  · rw [hc]
    have hs4' : H4 s = some (.lst (iV hs)) := by
      rw [hs4, est]
      show some (HO.lst ((hs.map some).map oV)) = _
      rw [List.map_map]
      rfl
    refine q_when (b := true) (et_test (ev_op (ev_var rfl) ev_c rv_I0)) (fun _ H5 e5 => ?_) (fun z => nomatch z)
    have rt : ∀ R : VK, (∀ t r H6, H5 r = none → Ex H5 H6 → H6 t = some (.tup [.ref s, .ref r]) → H6 r = some (.lst []) → R (.ref t) H6) → tTup (tCons (tVar 2) (tCons (tLst tNil) tNil)) [some (V.int (n : Int)), some (V.ref a), some (V.ref s), some (V.ref l), some (V.int (-1))] H5 R := fun R q =>
      ⟨_, rfl, (el_lst ea_nil (by simp)) H5 (Ex.refl H5) _ fun r H6 hr e6 h6 => ⟨by show 2 ≤ sizeLine; decide, fun t ht => q t r _ hr (e6.trans (Ex.new ht)) upd_same (Ex.new ht _ _ h6)⟩⟩
    exact rt _ fun t r H6 hr e6 ht hr6 => k1 hs t s r H6 ka h0 led hs' (fresh_back (E4.trans e5) hr) ((E4.trans e5).trans e6) ht (e6 _ _ (e5 _ _ hs4')) hr6
  · rw [hc]
    refine q_when (b := false) (et_is (et_test (ev_op (ev_var rfl) ev_c rv_I0)) (decide_eq_false (by omega))) (fun z => nomatch z) fun _ H5 e5 => ?_
    have hll : st.last.length = n := by
      obtain ⟨_, _, _, I⟩ := L.inv
      exact I.lenL
    have rt : ∀ R : VK, (∀ t r H6 c, isRing ss c = true → c.length ≤ 100 → H5 r = none → Ex H5 H6 → H6 t = some (.tup [.ref s, .ref r]) → H6 r = some (.lst (iV c)) → R (.ref t) H6) → tTup (tCons (tVar 2) (tCons (tCall (sp_ring_behind K) [] E0 (tCons (tVar 1) (tCons (tVar 3) (tCons (tVar 4) tNil)))) tNil)) [some (V.int (n : Int)), some (V.ref a), some (V.ref s), some (V.ref l), some (V.int (v : Int))] H5 R := fun R q =>
      ⟨_, rfl, raw_call (ea3 (ev_var rfl) (ev_var rfl) (ev_var rfl)) fun H6 e6 => ⟨a, l, ss, st.last, v, rfl, hS.mono ((E4.trans e5).trans e6), sq_of (e6 _ _ (e5 _ _ hl4)), by omega, dp, fun c r H7 hc hcl hr e7 h7 => ⟨by show 2 ≤ sizeLine; decide, fun t ht =>
        q t r _ c hc hcl (fresh_back e6 hr) ((e6.trans e7).trans (Ex.new ht)) upd_same (Ex.new ht _ _ h7)⟩⟩⟩
    exact rt _ fun t r H6 c hcr hcl hr e6 ht hr6 => k2 c t s r H6 hcr hcl hs' (fresh_back (E4.trans e5) hr) ((E4.trans e5).trans e6) ht hr6
end
end Am

/-! raising, and what is caught -/
namespace Am
open PySem PySem.Spec PyProof.Rows L2
open He (ga ma)
abbrev St := L2.St
/-- C is raised -/
def tRaiseC (C : Addr) (E : XK) : TS := fun _ _ H => E (.ref C) none H
/-- what catches: an own error without a dict -/
def tSuite0 (K : PySem.W.Frag) (ts : Addr → Addr → TS) : Addr → Value → Option Addr → TS := fun a cls d Dn σ H => ∃ D, (cls = .ref D ∧ d = none ∧ ExcC K D) ∧ ts a D Dn σ H
def tTry (K : PySem.W.Frag) (x : Str) (i : Nat) (tb : WX → TS) (ts : Addr → Value → Option Addr → TS) : TS := fun D σ H => tb (wAs K (.ref (ga K x)) i ts (fun _ _ _ _ => False) D) D σ H
theorem pSuite0 {X : Cx} {st : List Stmt} {ts : Addr → Addr → TS} {a : Addr} {oe : Obj} {cls : Value} {d : Option Addr} (h : ∀ D, L2N.Zn (.ref D) none oe → ExcC X.K D → PSs X st (ts a D)) (hz : L2N.Zn cls d oe) : PSs X st (tSuite0 X.K ts a cls d) :=
  ⟨fun pins s σ H Dn I hw => by
    obtain ⟨D, ⟨rfl, rfl, hC⟩, q⟩ := hw
    exact (h D hz hC).run pins s σ H Dn I q⟩
theorem takesN0 {X : Cx} : L2N.Takes X (fun _ _ _ _ => False) := fun _ _ x => by
  repeat obtain ⟨_, x⟩ := x
theorem passN {X : Cx} : Passes (L2N.CX X.prog X.w) X E0 := fun _ _ _ _ _ _ _ h => by
  repeat obtain ⟨_, h⟩ := h
theorem hot_suite {X : Cx} {a : Addr} {oe : Obj} {pn : List (Addr × Obj)} {cls : Value} {d : Option Addr} (hz : L2N.Zn cls d oe) (hf : ∃ vs, oe.data = .fields vs) : L2H.HotC (X.suite a ((a, oe) :: pn)) := by
  obtain ⟨vs, hv⟩ := hf
  exact ⟨(a, oe), ⟨rfl, vs, hv, hz.2.2 vs hv⟩, List.mem_cons_self⟩
end Am
namespace Am
open PySem L2 Evl
open He (ga ma)
/-! ### the same, to be asked of the head -/
def excCB (K : PySem.W.Frag) (D : Addr) : Bool := decide (PySem.W.findIn K (.ref D) "__getattribute__" = some (some (.builtin "BaseException.__getattribute__"))) && (decide (PySem.W.findIn K (.ref D) "__getattr__" = some none) && (decide (PySem.W.subIn K (.ref D) (.type "BaseException") = some true) && (PySem.W.hasDictIn K D &&
  (decide (PySem.W.findIn K (.ref D) "__class__" = some (some (.builtin "object.__class__"))) && (decide (PySem.W.specialIn K (.builtin "object.__class__") "__get__" = some (some (.builtin "getset_descriptor.__get__"))) && (decide (PySem.W.takesIn K (.builtin "object.__class__") = some true) && decide (PySem.W.mroIn K D (.type "object") = some true)))))))
theorem excCB_ok {K : PySem.W.Frag} {D : Addr} (h : excCB K D = true) : ExcC K D := by
  unfold excCB at h
  simp only [decide_eq_true_eq, Bool.and_eq_true] at h
  obtain ⟨h1, h2, h3, h4, h5, h6, h7, h8⟩ := h
  exact ⟨h1, h2, h3, h4, h5, h6, h7, h8⟩
def kitOB (K : PySem.W.Frag) (x y : Str) (b : Bool) : Bool := decide (PySem.W.kitOne K (.ref (ga K x)) (.ref (ga K y)) = some b)
theorem kitOB_ok {K : PySem.W.Frag} {x y : Str} {b : Bool} (h : kitOB K x y b = true) : PySem.W.kitOne K (.ref (ga K x)) (.ref (ga K y)) = some b := of_decide_eq_true h
section
variable {K : PySem.W.Frag} {vs : List V} {H H' : Hp} {Q : VK} {E : XK} {σ : L2.St} {ta tb tc td te t1 t2 : TE} {tz tu : TS} {D : Ends} {ts : TA}
theorem ev_check_places {n p q : Nat} (h1 : Ev ta σ H (.int (n : Int))) (h2 : Ev tb σ H (.int (p : Int))) (h3 : Ev tc σ H (.int (q : Int))) (hp : p < n) (hq : q < n) : Ev (tCall (sp_check_places K) [] E0 (tCons ta (tCons tb (tCons tc tNil)))) σ H .non :=
  ev_pur (ea3 h1 h2 h3) fun H1 e => ⟨n, p, q, rfl, hp, hq, rfl⟩
theorem raw_callS {sp : Sp} {vs : List V} {E : L2.St → XK} {Q : VK} (h : EvA ts σ H vs) (k : ∀ H1, Ex H H1 → sp vs H1 Q (E σ)) : tCallS sp E ts σ H Q := h H (Ex.refl H) _ k
theorem raw_q_tryDrop {sp : Sp} {x : Str} {i : Nat} {tsu : Addr → Value → Option Addr → TS} (h : tCallS sp (WE (wAs K (.ref (ga K x)) i tsu (fun _ _ _ _ => False) { D with nx := tz D })) ts σ H fun _ H1 => tz D σ H1) : tSeq (tTry K x i (fun W => tDrop (tCallS sp (WE W) ts)) tsu) tz D σ H := h
theorem ev_isE {a D C : Addr} {b : Bool} (ha : Ev ta σ H (.ref a)) (h : PySem.W.kitOne K (.ref D) (.ref C) = some b) : Ev (tCB (rIsE K D a) (tCons ta (tCons (tC (.ref C)) tNil))) σ H (.bl b) :=
  ev_cb (ea2 ha ev_c) fun H1 e1 Q q => ⟨.ref C, .ref C, b, rfl, fun _ r => r, h, q H1 (Ex.refl H1)⟩
theorem ev_anyV {p : Addr} {bs : List Bool} (ha : Ev ta σ H (.ref p)) (h : SqL K H p (bs.map V.bl)) : Ev (tCB (rAny K) (tCons ta tNil)) σ H (.bl (bs.any id)) := fun H1 e Q q =>
  ha H1 e _ fun H2 e2 => ⟨p, bs, rfl, ex_l (e.trans e2) h, q H2 e2⟩
theorem raw_q_asgG {g : TG} (h : te σ H fun x H1 => g x σ H1 (tz D)) : tSeq (tAsg te g) tz D σ H := h
theorem q_asgLL {xs ys : List V} {i : Nat} (h1 : EvL t1 σ H xs) (h2 : EvL t2 σ H ys) (k : ∀ p1 p2 h H1, H p1 = none → H p2 = none → H h = none → Ex H H1 → H1 p1 = some (.lst xs) → H1 p2 = some (.lst ys) → H1 h = some (.lst [.ref p1, .ref p2]) → tz D (σ.set i (some (.ref h))) H1) :
    tSeq (tAsg (tLst (tCons t1 (tCons t2 tNil))) (gName i)) tz D σ H :=
  raw_q_asg (h1 H (Ex.refl H) _ fun p1 H1 hp1 e1 h1' => h2 H1 e1 _ fun p2 H2 hp2 e2 h2' => ⟨by show 2 ≤ sizeLine; decide, fun h hh =>
    k p1 p2 h _ hp1 (fresh_back e1 hp2) (fresh_back (e1.trans e2) hh) ((e1.trans e2).trans (Ex.new hh)) (Ex.new hh _ _ (e2 _ _ h1')) (Ex.new hh _ _ h2') upd_same⟩)
theorem ev_nePair {h p1 p2 a b : Addr} {ss : List Say} {hs : List Int} (h0 : Ev ta σ H (.ref h)) (h1 : Ev tb σ H (.ref a)) (h2 : Ev tc σ H (.ref b)) (hh : SqL K H h [.ref p1, .ref p2]) (hp1 : Says K H p1 ss) (hp2 : SqL K H p2 (iV hs)) (ha : Says K H a ss) (hb : SqL K H b (iV hs)) :
    Ev (tOp (rNeD K) ta (tLst (tCons tb (tCons tc tNil)))) σ H (.bl false) := by
  have sh := sh_2 (lay_S ss) (lay_I hs) (Nat.le_trans (dep_S ss) (by decide)) (by rw [dep_I]; decide)
  exact ev_opL (xs := [.ref a, .ref b]) h0 (el_lst (ea2 h1 h2) (by show 2 ≤ 100000; decide)) fun q H1 hq e => rv_neD (d := .list [dS ss, dI hs]) (e := .list [dS ss, dI hs])
    (fun H2 e2 => .lst (ex_l (e.trans e2) hh) (.cons (dp_S (hp1.mono (e.trans e2))) (.cons (dp_I (ex_l (e.trans e2) hp2)) .nil)))
    (fun H2 e2 => .lst (sq_of (e2 _ _ hq)) (.cons (dp_S (ha.mono (e.trans e2))) (.cons (dp_I (ex_l (e.trans e2) hb)) .nil))) sh sh (by rw [eqv_self sh]; rfl)
theorem el_rep {xs : List V} {k : Int} (h1 : EvL ta σ H xs) (h2 : Ev tb σ H (.int k)) (hk : 0 ≤ k ∧ k ≤ 1000) (hx : xs.length ≤ 10) : EvL (tOp rRep ta tb) σ H (List.replicate k.toNat xs).flatten := fun H1 e Q q =>
  h1 H1 e _ fun p H2 hp e2 hp2 => h2 H2 (e.trans e2) _ fun H3 e3 => ⟨p, k, xs, rfl, rfl, e3 _ _ hp2, by omega, by omega, sz_of (by
    have : xs.length * k.toNat ≤ 10 * 1000 := Nat.mul_le_mul hx (by omega)
    omega), fun r hr => q r _ (fresh_back (e2.trans e3) hr) ((e2.trans e3).trans (Ex.new hr)) upd_same⟩
theorem el_rg {n : Int} (h : Ev ta σ H (.int n)) (hn : 0 ≤ n ∧ n ≤ 1000) : EvL (tLstRg (tRg1 ta)) σ H (rgV 0 n) := fun H1 e Q q =>
  h H1 e _ fun H2 e2 => ⟨n, rfl, RgOk.of_le (by decide) (by omega) (by decide) hn.1, fun r hr => q r _ (fresh_back e2 hr) (e2.trans (Ex.new hr)) upd_same⟩
theorem rg_iV (n : Nat) : rgV 0 (n : Int) = iV ((List.range n).map fun (i : Nat) => (i : Int)) := by
  rw [iV_map]
  unfold rgV
  show List.map (fun i : Nat => V.int (0 + (i : Int))) (List.range ((n : Int) - 0).toNat) = _
  have e : ((n : Int) - 0).toNat = n := by omega
  rw [e]
  congr 1
  funext i
  rw [Int.zero_add]
theorem rep_iV (n : Nat) : (List.replicate (n : Int).toNat [V.int 5]).flatten = iV (List.replicate n 5) := by
  show (List.replicate n [V.int 5]).flatten = _
  rw [show iV (List.replicate n 5) = List.replicate n (V.int 5) from List.map_replicate]
  induction n with
  | zero => rfl
  | succ k ih => rw [List.replicate_succ, List.flatten_cons, ih, List.replicate_succ]; rfl
theorem cut_iV (ch : List Int) (lo hi : Option Int) : ∃ ch', cutV (iV ch) lo hi = iV ch' ∧ (∀ x ∈ ch', x ∈ ch) ∧ ch'.length ≤ ch.length := by
  refine ⟨((ch.drop (HT.sIx (iV ch).length 0 lo)).take (HT.sIx (iV ch).length (iV ch).length hi - HT.sIx (iV ch).length 0 lo)), ?_, fun x hx => List.mem_of_mem_drop (List.mem_of_mem_take hx), ?_⟩
  · unfold cutV
    rw [show (iV ch).drop (HT.sIx (iV ch).length 0 lo) = iV (ch.drop (HT.sIx (iV ch).length 0 lo)) from (List.map_drop ..).symm]
    exact (List.map_take ..).symm
  · rw [List.length_take, List.length_drop]
    omega
theorem q_forP {tl : TE} {j : Nat} {P : List V → Hp → Prop} (hl : ∀ Q' : VK, (∀ p xs H1, Ex H H1 → H1 p = some (.lst xs) → P xs H1 → Q' (.ref p) H1) → tl σ H Q') (Pv : Hp → Nat → L2.St → Hp → Prop) (h0 : ∀ xs H1, Ex H H1 → P xs H1 → Pv H1 0 σ H1)
    (hk : ∀ H1 i σ' H', Pv H1 i σ' H' → Ex H1 H') (hs : ∀ xs H1, Ex H H1 → P xs H1 → ∀ i x σ' H', x ∈ xs → Pv H1 i σ' H' → tu { D with nx := Pv H1 (i + 1), ct := Pv H1 (i + 1), bk := tz D } (σ'.set j (some x)) H')
    (hd : ∀ xs H1, Ex H H1 → P xs H1 → ∀ i σ' H', Pv H1 i σ' H' → tz D σ' H') : tSeq (tFor (iList K tl) (gName j) tu) tz D σ H :=
  hl _ fun p xs H1 e hp hP => ⟨p, rfl, ⟨xs, sq_of hp⟩, for_list (xs := xs) (Pv H1) (h0 xs H1 e hP) (fun i σ' H' _ pv => sq_of (hk H1 i σ' H' pv _ _ hp)) (fun i x σ' H' hi pv => hs xs H1 e hP i x σ' H' (List.mem_of_getElem? hi) pv) (fun σ' H' pv => hd xs H1 e hP _ σ' H' pv)⟩
end
def sp_law (K : PySem.W.Frag) : Sp := fun vs H Q _ => ∃ (a : Addr) (ns : List Int), vs = [.ref a] ∧ SqL K H a (iV ns) ∧ ns.length ≤ 63 ∧ ∀ H2, Q (.bl true) H2
end Am

/-! the answers: classes, their making, their fields -/
namespace Am
open PySem PySem.Spec PyProof.Rows L2
section
variable {X : Cx}
/-- range(n), as a value -/
def rRange1 : List V → Hp → VK → Prop := fun vs H Q => ∃ n, vs = [V.int n] ∧ ∀ p, H p = none → Q (.ref p) (upd H p (.rng 0 n))
theorem cr_range1 : CallR X (.type "range") rRange1 := by
  rintro pins s σ H _ us Q I r ⟨n, rfl, q⟩
  rw [show us = [us.getD 0 .none] from by cases r with | cons _ t => cases t; rfl] at *
  cases r with
  | cons ri _ =>
    obtain ⟨t, rt⟩ := ri
    rw [rt]
    refine call_range_1 ⟨.ref s.heap.objs.size, upd H s.heap.objs.size (.rng 0 n), I.laid (t' := s.toks + 1 + 1) (fun b o e => Heap.get?_push_of_some _ e) (Nat.le_refl _) ?_, rfl, q _ (I.hok.fresh (Nat.le_refl _))⟩
    exact ⟨s.toks, t, s.toks + 1, Heap.get?_push_size _ rfl⟩
/-- two readings of one expression: one of them is known to do -/
def tEither (t1 t2 : TE) : TE := fun σ H Q => t1 σ H Q ∨ t2 σ H Q
theorem pe_either {e : Expr} {t1 t2 : TE} (h1 : PE X e t1) (h2 : PE X e t2) : PE X e (tEither t1 t2) :=
  ⟨fun pins s σ H Q I h => h.elim (fun q => h1.run pins s σ H Q I q) fun q => h2.run pins s σ H Q I q⟩
end
end Am
namespace Am
open PySem L2 Evl
open He (ga ma)
abbrev rInRng : R2 := fun x y H Q => ∃ i a lo hi, x = V.int i ∧ y = V.ref a ∧ H a = some (.rng lo hi) ∧ Q (.bl (decide (lo ≤ i ∧ i < hi))) H
/-- the classes of answers -/
inductive Kd where
  | heights | ring | follows | free | fixed | loose | needless | needed
  deriving DecidableEq
def Kd.nm : Kd → Str
  | .heights => "Heights"
  | .ring => "Ring"
  | .follows => "Follows"
  | .free => "Free"
  | .fixed => "Fixed"
  | .loose => "Loose"
  | .needless => "Needless"
  | .needed => "Needed"
def Kd.fs : Kd → List Str
  | .heights => ["heights"]
  | .ring => ["chain"]
  | .follows => ["chain", "heights"]
  | .free => ["places"]
  | .fixed => ["there", "back"]
  | .loose => ["first", "second"]
  | .needless => ["chain"]
  | .needed => ["heights"]
abbrev kds : List Kd := [.heights, .ring, .follows, .free, .fixed, .loose, .needless, .needed]
structure KdF (K : PySem.W.Frag) (ks : List Kd) (k : Kd) : Prop where
  cl : Cls K (ga K k.nm)
  ha : PySem.W.findIn K (.ref (ga K k.nm)) "__class__" = some (some (.builtin "object.__class__"))
  got : PySem.W.specialIn K (.builtin "object.__class__") "__get__" = some (some (.builtin "getset_descriptor.__get__"))
  tk : PySem.W.takesIn K (.builtin "object.__class__") = some true
  hm : PySem.W.mroIn K (ga K k.nm) (.type "object") = some true
  na : ∀ f ∈ k.fs, NoAttr K (ga K k.nm) f
  an : PySem.W.kitOne K (.ref (ga K k.nm)) (.ref (ga K "Answer")) = some true
  kit : ∀ d ∈ ks, PySem.W.kitOne K (.ref (ga K k.nm)) (.ref (ga K d.nm)) = some (decide (k = d))
def kdB (K : PySem.W.Frag) (ks : List Kd) (k : Kd) : Bool :=
  (He.Fa.cls k.nm).ok K && (He.eqO (PySem.W.findIn K (.ref (ga K k.nm)) "__class__") (some (some (.builtin "object.__class__"))) && (He.eqO (PySem.W.specialIn K (.builtin "object.__class__") "__get__") (some (some (.builtin "getset_descriptor.__get__"))) &&
    (decide (PySem.W.takesIn K (.builtin "object.__class__") = some true) && (decide (PySem.W.mroIn K (ga K k.nm) (.type "object") = some true) && (k.fs.all (fun f => He.eqO (PySem.W.findIn K (.ref (ga K k.nm)) f) (some none)) &&
      (decide (PySem.W.kitOne K (.ref (ga K k.nm)) (.ref (ga K "Answer")) = some true) && ks.all fun d => decide (PySem.W.kitOne K (.ref (ga K k.nm)) (.ref (ga K d.nm)) = some (decide (k = d)))))))))
theorem kdB_ok {K : PySem.W.Frag} {ks : List Kd} {k : Kd} (h : kdB K ks k = true) : KdF K ks k := by
  unfold kdB at h
  simp only [Bool.and_eq_true_iff] at h
  obtain ⟨h1, h2, h3, h4, h5, h6, h7, h8⟩ := h
  exact ⟨He.cls_ok h1, He.eqO_ok h2, He.eqO_ok h3, of_decide_eq_true h4, of_decide_eq_true h5, fun f hf => He.eqO_ok (List.all_eq_true.mp h6 f hf), of_decide_eq_true h7, fun d hd => of_decide_eq_true (List.all_eq_true.mp h8 d hd)⟩
/-- all these classes -/
def AnsF (K : PySem.W.Frag) (ks : List Kd) : Prop := ∀ k ∈ ks, KdF K ks k
def ansB (ks : List Kd) (K : PySem.W.Frag) : Bool := ks.all (kdB K ks)
theorem ansB_ok {K : PySem.W.Frag} {ks : List Kd} (h : ansB ks K = true) : AnsF K ks := fun k hk => kdB_ok (List.all_eq_true.mp h k hk)

/-- an answer with one list, with two -/
def An1 (K : PySem.W.Frag) (H : Hp) (x : Addr) (k : Kd) (f : Str) (l : Addr) : Prop := ∃ dx, H x = some (.ins (ga K k.nm) dx [(f, .ref l)])
def An2 (K : PySem.W.Frag) (H : Hp) (x : Addr) (k : Kd) (f g : Str) (l m : Addr) : Prop := ∃ dx, H x = some (.ins (ga K k.nm) dx [(f, .ref l), (g, .ref m)])
/-- a value, what stood stands: P of the heap ahead, the value, the heap after -/
def EvP (te : TE) (σ : L2.St) (H : Hp) (P : Hp → V → Hp → Prop) : Prop := ∀ H1, Ex H H1 → ∀ Q : VK, (∀ v H2, Ex H1 H2 → P H1 v H2 → Q v H2) → te σ H1 Q
section
variable {K : PySem.W.Frag} {vs : List V} {H H' : Hp} {Q : VK} {E : XK} {σ : L2.St} {ta tb tc td te : TE} {tz tu : TS} {D : Ends} {ts : TA} {ks : List Kd} {k : Kd} {x l m : Addr} {f g : Str} {P : Hp → V → Hp → Prop}
theorem An1.mono (e : Ex H H') (h : An1 K H x k f l) : An1 K H' x k f l := by obtain ⟨dx, h⟩ := h; exact ⟨dx, e _ _ h⟩
theorem An2.mono (e : Ex H H') (h : An2 K H x k f g l m) : An2 K H' x k f g l m := by obtain ⟨dx, h⟩ := h; exact ⟨dx, e _ _ h⟩
theorem q_asgP {i : Nat} (h : EvP te σ H P) (kk : ∀ v H1, Ex H H1 → P H v H1 → tz D (σ.set i (some v)) H1) : tSeq (tAsg te (gName i)) tz D σ H := raw_q_asg (h H (Ex.refl H) _ kk)
theorem s_retP (h : EvP te σ H P) (kk : ∀ v H1, Ex H H1 → P H v H1 → D.rt v H1) : tRet te D σ H := h H (Ex.refl H) _ kk
theorem EvP.imp {P' : Hp → V → Hp → Prop} (h : EvP te σ H P) (i : ∀ H1 v H2, Ex H H1 → Ex H1 H2 → P H1 v H2 → P' H1 v H2) : EvP te σ H P' := fun H1 e Q q => h H1 e Q fun v H2 e2 p => q v H2 e2 (i H1 v H2 e e2 p)
/-- a field -/
theorem ev_fld {C dx : Addr} {fs : List (Str × V)} {v : V} (ha : Ev ta σ H (.ref x)) (hx : H x = some (.ins C dx fs)) (cl : Cls K C) (na : NoAttr K C f) (hl : fs.lookup f = some v) : Ev (tFld K ta f) σ H v := fun H1 e Q q =>
  ha H1 e _ fun H2 e2 => ⟨x, C, dx, fs, v, rfl, (e.trans e2) _ _ hx, cl, na, hl, q H2 e2⟩
theorem ev_f1 {v : V} (F : KdF K ks k) (ha : Ev ta σ H (.ref x)) (h : An1 K H x k f l) (hf : f ∈ k.fs) : Ev (tFld K ta f) σ H (.ref l) := by
  obtain ⟨dx, h⟩ := h
  exact ev_fld ha h F.cl (F.na f hf) (by simp [List.lookup])
theorem ty_1 (F : KdF K ks k) (h : An1 K H x k f l) : TyX K H (.ref x) (.ref (ga K k.nm)) := by
  obtain ⟨dx, h⟩ := h
  exact .base (.ins h F.cl F.ha F.got F.tk F.hm)
theorem ty_2 (F : KdF K ks k) (h : An2 K H x k f g l m) : TyX K H (.ref x) (.ref (ga K k.nm)) := by
  obtain ⟨dx, h⟩ := h
  exact .base (.ins h F.cl F.ha F.got F.tk F.hm)
/-- isinstance(x, an own class) -/
theorem ev_isC {C D : Addr} {b : Bool} (ha : Ev ta σ H (.ref x)) (ty : TyX K H (.ref x) (.ref C)) (h : PySem.W.kitOne K (.ref C) (.ref D) = some b) : Ev (tCB (rIsi K) (tCons ta (tCons (tC (.ref D)) tNil))) σ H (.bl b) :=
  ev_cb (ea2 ha ev_c) fun H1 e Q q => ⟨.ref x, .ref D, .ref C, .ref D, b, rfl, .own D, ty_mono e ty, h, q H1 (Ex.refl H1)⟩
theorem ev_left {t1 t2 : TE} {v : V} (h : Ev t1 σ H v) : Ev (tEither t1 t2) σ H v := fun H1 e Q q => .inl (h H1 e Q q)
theorem ev_right {t1 t2 : TE} {v : V} (h : Ev t2 σ H v) : Ev (tEither t1 t2) σ H v := fun H1 e Q q => .inr (h H1 e Q q)
/-- i in range(n) -/
theorem ev_inRng {i n : Int} (ha : Ev ta σ H (.int i)) (hb : Ev tb σ H (.int n)) : Ev (tOp rInRng ta (tCB rRange1 (tCons tb tNil))) σ H (.bl (decide (0 ≤ i ∧ i < n))) := fun H1 e Q q =>
  ha H1 e _ fun H2 e2 => hb H2 (e.trans e2) _ fun H3 e3 => ⟨n, rfl, fun p hp => ⟨i, p, 0, n, rfl, rfl, upd_same, q _ ((e2.trans e3).trans (Ex.new hp))⟩⟩

/-! ### making -/
/-- self.f = list(arg) -/
def sp_init1 (K : PySem.W.Frag) (k : Kd) (f : Str) : Sp := fun vs H Q _ => ∃ (x dx c : Addr) (xs : List V), vs = [.ref x, .ref c] ∧ H x = some (.ins (ga K k.nm) dx []) ∧ SqL K H c xs ∧
  ∀ l H2, H l = none → Ex (less H x) H2 → H2 l = some (.lst xs) → H2 x = some (.ins (ga K k.nm) dx [(f, .ref l)]) → Q .non H2
/-- self.f = list(arg); self.g = list(other) -/
def sp_init2 (K : PySem.W.Frag) (k : Kd) (f g : Str) : Sp := fun vs H Q _ => ∃ (x dx c d : Addr) (xs ys : List V), vs = [.ref x, .ref c, .ref d] ∧ H x = some (.ins (ga K k.nm) dx []) ∧ SqL K H c xs ∧ SqL K H d ys ∧
  ∀ l m H2, H l = none → H m = none → l ≠ m → Ex (less H x) H2 → H2 l = some (.lst xs) → H2 m = some (.lst ys) → H2 x = some (.ins (ga K k.nm) dx [(f, .ref l), (g, .ref m)]) → Q .non H2
def t_init1 (K : PySem.W.Frag) (f : Str) : TS := sFld K (tVar 0) (tCB (rListS K) (tCons (tVar 1) (tNil))) f
def t_init2 (K : PySem.W.Frag) (f g : Str) : TS := tSeq (sFld K (tVar 0) (tCB (rListS K) (tCons (tVar 1) (tNil))) f) (sFld K (tVar 0) (tCB (rListS K) (tCons (tVar 2) (tNil))) g)
theorem s_fld {i : Nat} {C dx : Addr} {fs : List (Str × V)} {c : Addr} {xs : List V} (hi : σ[i]? = some (some (V.ref x))) (hx : H x = some (.ins C dx fs)) (cl : Cls K C) (na : NoAttr K C f) (hz : fs.length < 1000) (ha : Ev ta σ H (.ref c)) (hc : SqL K H c xs)
    (kk : ∀ l H2, H l = none → Ex (less H x) H2 → H2 l = some (.lst xs) → H2 x = some (.ins C dx (putF f (.ref l) fs)) → D.nx σ H2) : sFld K (tVar i) (tCB (rListS K) (tCons ta tNil)) f D σ H :=
  (el_list ha hc) H (Ex.refl H) _ fun l H1 hl e1 h1 => by
    refine (ev_var hi : Ev (tVar i) σ H1 _) H1 (Ex.refl H1) _ fun H2 e2 => ⟨x, C, dx, fs, rfl, (e1.trans e2) _ _ hx, cl, na, hz, ?_⟩
    have ne : l ≠ x := fun z => by rw [z, hx] at hl; cases hl
    exact kk l _ hl (Ex.mut (ex_less.trans (e1.trans e2)) less_at) (by rw [upd_ne ne]; exact e2 _ _ h1) upd_same
theorem q_fld {i : Nat} {C dx : Addr} {fs : List (Str × V)} {c : Addr} {xs : List V} (hi : σ[i]? = some (some (V.ref x))) (hx : H x = some (.ins C dx fs)) (cl : Cls K C) (na : NoAttr K C f) (hz : fs.length < 1000) (ha : Ev ta σ H (.ref c)) (hc : SqL K H c xs)
    (kk : ∀ l H2, H l = none → Ex (less H x) H2 → H2 l = some (.lst xs) → H2 x = some (.ins C dx (putF f (.ref l) fs)) → tz D σ H2) : tSeq (sFld K (tVar i) (tCB (rListS K) (tCons ta tNil)) f) tz D σ H := s_fld (D := { D with nx := tz D }) hi hx cl na hz ha hc kk
theorem sq_less {c : Addr} {xs : List V} {C dx : Addr} {fs : List (Str × V)} (h : SqL K H c xs) (hx : H x = some (.ins C dx fs)) : SqL K (less H x) c xs := by
  rcases h with (h | ⟨b, h⟩) | h
  · exact .inl (.inl (by rw [less_ne (ne_of h hx fun z => nomatch z)]; exact h))
  · exact .inl (.inr ⟨b, by rw [less_ne (ne_of h hx fun z => nomatch z)]; exact h⟩)
  · exact .inr h
theorem pure_init1 (F : KdF K ks k) (hf : f ∈ k.fs) {N : List Str} (hN : N.length = 2) (h : sp_init1 K k f vs H Q E) : t_init1 K f (Bd Q) (L2.start N vs) H := by
  obtain ⟨x, dx, c, xs, rfl, hx, hc, q⟩ := h
  have hst : L2.start N [V.ref x, V.ref c] = [some (.ref x), some (.ref c)] := by
    unfold L2.start
    rw [hN]
    rfl
  rw [hst]
  exact s_fld rfl hx F.cl (F.na f hf) (by decide) (ev_var rfl) hc fun l H2 hl e h2 h3 => q l H2 hl e h2 h3
theorem pure_init2 (F : KdF K ks k) (hf : f ∈ k.fs) (hg : g ∈ k.fs) (hne : ¬ f = g) {N : List Str} (hN : N.length = 3) (h : sp_init2 K k f g vs H Q E) : t_init2 K f g (Bd Q) (L2.start N vs) H := by
  obtain ⟨x, dx, c, d, xs, ys, rfl, hx, hc, hd, q⟩ := h
  have hst : L2.start N [V.ref x, V.ref c, V.ref d] = [some (.ref x), some (.ref c), some (.ref d)] := by
    unfold L2.start
    rw [hN]
    rfl
  rw [hst]
  refine q_fld rfl hx F.cl (F.na f hf) (by decide) (ev_var rfl) hc fun l H2 hl e h2 h3 => ?_
  refine s_fld rfl h3 F.cl (F.na g hg) (by show (1 : Nat) < 1000; decide) (ev_var rfl) (ex_l e (sq_less hd hx)) fun m H3 hm e3 h4 h5 => ?_
  have lx : l ≠ x := fun z => by rw [z, hx] at hl; cases hl
  have lm : l ≠ m := fun z => by rw [← z, h2] at hm; cases hm
  refine q l m H3 hl ?_ lm ((ex_less_old e less_at).trans e3) (e3 _ _ (by rw [less_ne lx]; exact h2)) h4 ?_
  · cases hH : H m with
    | none => rfl
    | some o =>
      by_cases mx : m = x
      · rw [mx, h3] at hm; cases hm
      · have := e m o (by rw [less_ne mx]; exact hH)
        rw [hm] at this
        cases this
  · have : putF g (V.ref m) (putF f (V.ref l) []) = [(f, .ref l), (g, .ref m)] := by
      simp [putF, hne]
    rw [← this]
    exact h5
/-- C(a list) -/
theorem ep_make1 {c : Addr} {xs : List V} (ha : Ev ta σ H (.ref c)) (hc : SqL K H c xs) : EvP (tMake (ga K k.nm) (sp_init1 K k f) [] E (tCons ta tNil)) σ H fun H1 v H2 => ∃ x l, v = .ref x ∧ An1 K H2 x k f l ∧ H1 x = none ∧ H1 l = none ∧ l ≠ x ∧ H2 l = some (.lst xs) := fun H1 e Q q =>
  (ea_cons ha ea_nil) H1 e _ fun H2 e2 x dx hx hdx hne => by
    have n1 : upd H2 dx (.own x) x = none := by rw [upd_ne (Ne.symm hne)]; exact hx
    have EX : Ex H2 (upd (upd H2 dx (.own x)) x (.ins (ga K k.nm) dx [])) := (Ex.new hdx).trans (Ex.new n1)
    refine ⟨x, dx, c, xs, rfl, upd_same, ex_l ((e.trans e2).trans EX) hc, fun l H3 hl e3 h3 h4 => ⟨rfl, ?_⟩⟩
    have E3 : Ex H2 H3 := (ex_less_old EX hx).trans e3
    refine q _ H3 (e2.trans E3) ⟨x, l, rfl, ⟨dx, h4⟩, fresh_back e2 hx, fresh_back e2 (fresh_back EX hl), fun z => ?_, h3⟩
    rw [z, upd_same] at hl
    cases hl
/-- C(a list, a list) -/
theorem ep_make2 {c d : Addr} {xs ys : List V} (ha : Ev ta σ H (.ref c)) (hc : SqL K H c xs) (hb : Ev tb σ H (.ref d)) (hd : SqL K H d ys) : EvP (tMake (ga K k.nm) (sp_init2 K k f g) [] E (tCons ta (tCons tb tNil))) σ H fun H1 v H2 => ∃ x l m, v = .ref x ∧ An2 K H2 x k f g l m ∧ H1 x = none ∧ H1 l = none ∧ H1 m = none ∧ l ≠ x ∧ m ≠ x ∧ l ≠ m ∧ H2 l = some (.lst xs) ∧ H2 m = some (.lst ys) := fun H1 e Q q =>
  (ea2 ha hb) H1 e _ fun H2 e2 x dx hx hdx hne => by
    have n1 : upd H2 dx (.own x) x = none := by rw [upd_ne (Ne.symm hne)]; exact hx
    have EX : Ex H2 (upd (upd H2 dx (.own x)) x (.ins (ga K k.nm) dx [])) := (Ex.new hdx).trans (Ex.new n1)
    refine ⟨x, dx, c, d, xs, ys, rfl, upd_same, ex_l ((e.trans e2).trans EX) hc, ex_l ((e.trans e2).trans EX) hd, fun l m H3 hl hm hlm e3 h3 h4 h5 => ⟨rfl, ?_⟩⟩
    have E3 : Ex H2 H3 := (ex_less_old EX hx).trans e3
    refine q _ H3 (e2.trans E3) ⟨x, l, m, rfl, ⟨dx, h5⟩, fresh_back e2 hx, fresh_back e2 (fresh_back EX hl), fresh_back e2 (fresh_back EX hm), fun z => ?_, fun z => ?_, hlm, h3, h4⟩
    · rw [z, upd_same] at hl
      cases hl
    · rw [z, upd_same] at hm
      cases hm
/-- C(what is just made), C(a list, what is just made) -/
theorem ep_make1L {xs : List V} (ha : EvL ta σ H xs) : EvP (tMake (ga K k.nm) (sp_init1 K k f) [] E (tCons ta tNil)) σ H fun H1 v H2 => ∃ x l, v = .ref x ∧ An1 K H2 x k f l ∧ H1 x = none ∧ H1 l = none ∧ l ≠ x ∧ H2 l = some (.lst xs) := fun H1 e Q q =>
  ha H1 e _ fun p H1' hp e1 hp1 => (ep_make1 (ta := fun _ H Q => Q (.ref p) H) (c := p) (xs := xs) (E := E) (σ := σ) (H := H1') (fun H2 e2 Q q => q H2 (Ex.refl H2)) (sq_of hp1)) H1' (Ex.refl H1') Q fun v H2 e2 ⟨x, l, ev, ha, hx, hl, r⟩ => q v H2 (e1.trans e2) ⟨x, l, ev, ha, fresh_back e1 hx, fresh_back e1 hl, r⟩
theorem ep_make2L {xs ys : List V} (ha : EvL ta σ H xs) (hb : EvL tb σ H ys) : EvP (tMake (ga K k.nm) (sp_init2 K k f g) [] E (tCons ta (tCons tb tNil))) σ H fun H1 v H2 => ∃ x l m, v = .ref x ∧ An2 K H2 x k f g l m ∧ H1 x = none ∧ H1 l = none ∧ H1 m = none ∧ l ≠ x ∧ m ≠ x ∧ l ≠ m ∧ H2 l = some (.lst xs) ∧ H2 m = some (.lst ys) := fun H1 e Q q =>
  ha H1 e _ fun p H2 hp e2 hp2 => hb H2 (e.trans e2) _ fun r H3 hr e3 hr3 =>
    (ep_make2 (ta := fun _ H Q => Q (.ref p) H) (tb := fun _ H Q => Q (.ref r) H) (c := p) (d := r) (xs := xs) (ys := ys) (E := E) (σ := σ) (H := H3) (fun H2 e2 Q q => q H2 (Ex.refl H2)) (sq_of (e3 _ _ hp2)) (fun H2 e2 Q q => q H2 (Ex.refl H2)) (sq_of hr3)) H3 (Ex.refl H3) Q fun v H4 e4 ⟨x, l, m, ev, ha, hx, hl, hm, rest⟩ =>
      q v H4 ((e2.trans e3).trans e4) ⟨x, l, m, ev, ha, fresh_back (e2.trans e3) hx, fresh_back (e2.trans e3) hl, fresh_back (e2.trans e3) hm, rest⟩
end
end Am

/-! Heights, Ring, heights -/
namespace Am
open PySem L2 Evl
open He (ga ma)
/-- there is a sum, and it is below 0 -/
def negO : Option Int → Bool
  | some t => decide (t < 0)
  | none => false
def ringAt (ss : List Say) (c : List Int) : Option Say → Bool
  | some s => negO (sumAlong ss c s.1 s.1)
  | none => false
theorem ring_val (ss : List Say) (a : Int) (r : List Int) : isRing ss (a :: r) = ringAt ss (a :: r) (sayAt ss a) := by
  show (match sayAt ss a with
    | some (l, _, _) => match sumAlong ss (a :: r) l l with
      | some t => decide (t < 0)
      | none => false
    | none => false) = _
  cases sayAt ss a with
  | none => rfl
  | some s =>
    obtain ⟨l, u, m⟩ := s
    show (match sumAlong ss (a :: r) l l with
      | some t => decide (t < 0)
      | none => false) = negO (sumAlong ss (a :: r) l l)
    cases sumAlong ss (a :: r) l l <;> rfl
def sp_Heights_init (K : PySem.W.Frag) : Sp := sp_init1 K .heights "heights"
def sp_Ring_init (K : PySem.W.Frag) : Sp := sp_init1 K .ring "chain"
def t_Heights_init (K : PySem.W.Frag) : TS := t_init1 K "heights"
def t_Ring_init (K : PySem.W.Frag) : TS := t_init1 K "chain"
def sp_Heights_shows (K : PySem.W.Frag) : Sp := Pur fun vs H z => ∃ (x a l : Addr) (n : Nat) (ss : List Say) (hs : List Int), vs = [.ref x, .int (n : Int), .ref a] ∧ An1 K H x .heights "heights" l ∧ Says K H a ss ∧ Ok n ss ∧ SqL K H l (iV hs) ∧ z = .bl (keepAll n ss hs)
def sp_Ring_shows (K : PySem.W.Frag) : Sp := Pur fun vs H z => ∃ (x a l : Addr) (n : V) (ss : List Say) (c : List Int), vs = [.ref x, n, .ref a] ∧ An1 K H x .ring "chain" l ∧ Says K H a ss ∧ SqL K H l (iV c) ∧ z = .bl (isRing ss c)
def sp__law_ring (K : PySem.W.Frag) : Sp := Pur fun vs H z => ∃ (a l : Addr) (ss : List Say) (c : List Int), vs = [.ref a, .ref l] ∧ Says K H a ss ∧ SqL K H l (iV c) ∧ z = .bl (isRing ss c)
/-- the heights, or a ring -/
def sp_heights (K : PySem.W.Frag) : Sp := fun vs H Q _ => ∃ (n : Nat) (a : Addr) (ss : List Say), vs = [.int (n : Int), .ref a] ∧ Says K H a ss ∧ Ok n ss ∧ 0 < n ∧ n ≤ 100 ∧
  (∀ (hs : List Int) x l H2, keepAll n ss hs = true → H x = none → H l = none → l ≠ x → Ex H H2 → An1 K H2 x .heights "heights" l → H2 l = some (.lst (iV hs)) → Q (.ref x) H2) ∧
  (∀ (c : List Int) x l H2, isRing ss c = true → c.length ≤ 100 → H x = none → H l = none → l ≠ x → Ex H H2 → An1 K H2 x .ring "chain" l → H2 l = some (.lst (iV c)) → Q (.ref x) H2)
def t_Heights_shows (K : PySem.W.Frag) : TS := tRet (tCall (sp_keep_all K) [] E0 (tCons (tVar 1) (tCons (tVar 2) (tCons (tFld K (tVar 0) "heights") (tNil)))))
def t_Ring_shows (K : PySem.W.Frag) : TS := tSeq (tIfS (tOr (tTest (tOp (rEqD K) (tFld K (tVar 0) "chain") (tLst (tNil)))) (tNot (tTest (tChain rLeI rLtI (tC (.int 0)) (tOp (rIxL K) (tFld K (tVar 0) "chain") (tC (.int 0))) (tCB (rLenS K) (tCons (tVar 2) (tNil))))))) (tRet (tC (.bl false))) (tNext)) (tSeq (tAsg (tOp (rIxT K) (tOp (rIxL K) (tVar 2) (tOp (rIxL K) (tFld K (tVar 0) "chain") (tC (.int 0)))) (tC (.int 0))) (gName 3)) (tSeq (tAsg (tCall (sp_sum_along K) [] E0 (tCons (tVar 2) (tCons (tFld K (tVar 0) "chain") (tCons (tVar 3) (tCons (tVar 3) (tNil)))))) (gName 4)) (tRet (tAndV (tOp rNotN0 (tVar 4) (tC .non)) (tOp rLtI (tVar 4) (tC (.int 0)))))))
def t_heights (K : PySem.W.Frag) : TS := tSeq (tDrop (tCall (sp_check_sayings K) [] E0 (tCons (tVar 0) (tCons (tVar 1) (tNil))))) (tSeq (tAsg (tCall (sp_from_all K) [] E0 (tCons (tVar 0) (tCons (tVar 1) (tNil)))) (gTup K 2 (gCons (gName 2) (gCons (gName 3) (gNil))))) (tSeq (tIfS (tTest (tOp (rNeD K) (tVar 3) (tLst (tNil)))) (tRet (tMake (ga K "Ring") (sp_Ring_init K) [] E0 (tCons (tVar 3) (tNil)))) (tNext)) (tRet (tMake (ga K "Heights") (sp_Heights_init K) [] E0 (tCons (tVar 2) (tNil))))))
def t__law_ring (K : PySem.W.Frag) : TS := tSeq (tIfS (tOr (tNot (tB (tCB (rIsi K) (tCons (tVar 1) (tCons ((tC (.ty "list"))) (tNil)))))) (tOr (tTest (tOp (rEqD K) (tVar 1) (tLst (tNil)))) (tNot (tTest (tOp rInRng (tOp (rIxL K) (tVar 1) (tC (.int 0))) (tCB rRange1 (tCons (tCB (rLenS K) (tCons (tVar 0) (tNil))) tNil))))))) (tRet (tC (.bl false))) (tNext)) (tSeq (tAsg (tCall (sp__law_sum K) [] E0 (tCons (tVar 0) (tCons (tVar 1) (tCons (tOp (rIxT K) (tOp (rIxL K) (tVar 0) (tOp (rIxL K) (tVar 1) (tC (.int 0)))) (tC (.int 0))) (tCons (tOp (rIxT K) (tOp (rIxL K) (tVar 0) (tOp (rIxL K) (tVar 1) (tC (.int 0)))) (tC (.int 0))) (tNil)))))) (gName 2)) (tRet (tAndV (tOp rNotN0 (tVar 2) (tC .non)) (tOp rLtI (tVar 2) (tC (.int 0))))))
section
variable {K : PySem.W.Frag} {vs : List V} {H H' : Hp} {Q : VK} {E : XK} {σ : L2.St} {ta tb tc td te : TE} {tz tu : TS} {D : Ends} {ts : TA} {ks : List Kd} {k : Kd} {x l m : Addr} {f g : Str} {P : Hp → V → Hp → Prop}
theorem pure_Heights_shows (F : KdF K ks .heights) (h : sp_Heights_shows K vs H Q E) : t_Heights_shows K (Bd Q) (L2.start ["self", "count", "sayings"] vs) H := by
  obtain ⟨z, ⟨x, a, l, n, ss, hs, rfl, hx, hS, ok, hl, rfl⟩, q⟩ := h
  exact s_ret (ev_keep_all (ev_var rfl) (ev_var rfl) (ev_f1 (v := .ref l) F (ev_var rfl) hx (by decide)) hS ok hl) q
/-- c[0] -/
theorem ev_head {a : Int} {r : List Int} (ha : Ev ta σ H (.ref l)) (hl : SqL K H l (iV (a :: r))) : Ev (tOp (rIxL K) ta (tC (.int 0))) σ H (.int a) := ev_op ha ev_c (rv_ixL hl (show atI (iV (a :: r)) ((0 : Nat) : Int) = some (V.int a) from at_iV (Nat.succ_pos _)))
theorem sayAt_rng {ss : List Say} {a : Int} : (sayAt ss a).isSome = decide (0 ≤ a ∧ a < (ss.length : Int)) := by
  cases hs : sayAt ss a with
  | some s =>
    obtain ⟨k, rfl, hk⟩ := sayAt_some hs
    have := (List.getElem?_eq_some_iff.mp hk).1
    exact Eq.symm (decide_eq_true (by omega))
  | none =>
    refine (decide_eq_false fun ⟨h0, h1⟩ => ?_).symm
    unfold sayAt at hs
    rw [if_pos h0] at hs
    have := List.getElem?_eq_none_iff.mp hs
    omega
/-- the end of both tests of a ring -/
theorem ev_lessZ {o : Option Int} {i : Nat} (hi : σ[i]? = some (some (oV o))) : Ev (tAndV (tOp rNotN0 (tVar i) (tC .non)) (tOp rLtI (tVar i) (tC (.int 0)))) σ H (.bl (negO o)) := by
  cases o with
  | none => exact ev_andV (a := false) (b := false) (ev_is (ev_op (ev_var hi) ev_c rv_notN) rfl) fun z => nomatch z
  | some t => exact ev_andV (a := true) (ev_is (ev_op (ev_var hi) ev_c rv_notN) rfl) fun _ => ev_op (ev_is (ev_var hi) rfl) ev_c rv_I0
theorem pure_Ring_shows (F : KdF K ks .ring) (h : sp_Ring_shows K vs H Q E) : t_Ring_shows K (Bd Q) (L2.start ["self", "count", "sayings", "first", "total"] vs) H := by
  obtain ⟨z, ⟨x, a, l, n, ss, c, rfl, hx, hS, hl, rfl⟩, q⟩ := h
  have fl : ∀ {H1 : Hp} {w3 w4 : Option V}, Ex H H1 → Ev (tFld K (tVar 0) "chain") [some (V.ref x), some n, some (V.ref a), w3, w4] H1 (.ref l) := fun e => ev_f1 (v := .ref l) F (ev_var rfl) (hx.mono e) (by decide)
  cases c with
  | nil =>
    refine q_when (b := true) (et_is (et_or (b := true) (et_test (ev_eqNil (fl (Ex.refl H)) hl)) fun z => nomatch z) rfl) (fun _ H1 e1 => s_ret ev_c fun H2 e2 => q H2 (e1.trans e2)) (fun z => nomatch z)
  | cons y r =>
    refine q_when (b := (sayAt ss y).isNone) (et_is (et_or (et_test (ev_eqNil (fl (Ex.refl H)) hl)) fun _ => et_not (et_test (ev_chain ev_c (ev_head (fl (Ex.refl H)) hl) rv_I0 (fun _ => ev_lenS hS (ev_var rfl)) fun _ => rv_I0))) ?_) (fun hb H1 e1 => ?_) fun hb H1 e1 => ?_
    · show (false || !(decide ((0 : Int) ≤ y) && decide (y < (ss.length : Int)))) = _
      have := sayAt_rng (ss := ss) (a := y)
      rw [Bool.decide_and] at this
      rw [← this]
      cases sayAt ss y <;> rfl
    · refine s_ret ev_c fun H2 e2 => ?_
      have kk := q H2 (e1.trans e2)
      rw [ring_val] at kk
      cases hs : sayAt ss y with
      | none => rw [hs] at kk; exact kk
      | some s => rw [hs] at hb; cases hb
    · cases hs : sayAt ss y with
      | none => rw [hs] at hb; cases hb
      | some s =>
        obtain ⟨k, rfl, hk⟩ := sayAt_some hs
        have hS1 := hS.mono e1
        have hl1 := ex_l e1 hl
        refine q_asg (ev_part hS1 hk (ev_var rfl) (ev_head (fl e1) hl1) rfl) fun H2 e2 => ?_
        have hl2 := ex_l e2 hl1
        refine q_asg (ev_sum_along (ev_var rfl) (fl (e1.trans e2)) (ev_var rfl) (ev_var rfl) (hS1.mono e2) hl2) fun H3 e3 => ?_
        refine s_ret (ev_lessZ rfl) fun H4 e4 => ?_
        have kk := q H4 (((e1.trans e2).trans e3).trans e4)
        rw [ring_val] at kk
        rw [hs] at kk
        exact kk
theorem pure__law_ring (h : sp__law_ring K vs H Q E) : t__law_ring K (Bd Q) (L2.start ["_law_sayings_here", "_law_chain", "_law_total"] vs) H := by
  obtain ⟨z, ⟨a, l, ss, c, rfl, hS, hl, rfl⟩, q⟩ := h
  have isl : ∀ {b : Bool} {tt : TT}, (EvT tt [some (V.ref a), some (V.ref l), none] H b) → EvT (tOr (tNot (tB (tCB (rIsi K) (tCons (tVar 1) (tCons ((tC (.ty "list"))) (tNil)))))) tt) [some (V.ref a), some (V.ref l), none] H b := fun {b tt} ht =>
    et_is (et_or (et_not (et_B (ev_isi (tn := "list") (ev_var rfl) (fun H1 e1 => ty_L (ex_l e1 hl)) kit_ll))) fun _ => ht) (by simp)
  cases c with
  | nil =>
    refine q_when (b := true) (isl (et_is (et_or (b := true) (et_test (ev_eqNil (ev_var rfl) hl)) fun z => nomatch z) rfl)) (fun _ H1 e1 => s_ret ev_c fun H2 e2 => q H2 (e1.trans e2)) (fun z => nomatch z)
  | cons y r =>
    refine q_when (b := (sayAt ss y).isNone) (isl (et_is (et_or (et_test (ev_eqNil (ev_var rfl) hl)) fun _ => et_not (et_test (ev_inRng (ev_head (ev_var rfl) hl) (ev_lenS hS (ev_var rfl))))) ?_)) (fun hb H1 e1 => ?_) fun hb H1 e1 => ?_
    · show (false || !(decide ((0 : Int) ≤ y ∧ y < (ss.length : Int)))) = _
      rw [← sayAt_rng]
      cases sayAt ss y <;> rfl
    · refine s_ret ev_c fun H2 e2 => ?_
      have kk := q H2 (e1.trans e2)
      rw [ring_val] at kk
      cases hs : sayAt ss y with
      | none => rw [hs] at kk; exact kk
      | some s => rw [hs] at hb; cases hb
    · cases hs : sayAt ss y with
      | none => rw [hs] at hb; cases hb
      | some s =>
        obtain ⟨k, rfl, hk⟩ := sayAt_some hs
        have hS1 := hS.mono e1
        have hl1 := ex_l e1 hl
        have p : Ev (tOp (rIxT K) (tOp (rIxL K) (tVar 0) (tOp (rIxL K) (tVar 1) (tC (.int 0)))) (tC (.int 0))) [some (V.ref a), some (V.ref l), none] H1 (.int (s.1 : Int)) := ev_part hS1 hk (ev_var rfl) (ev_head (ev_var rfl) hl1) rfl
        refine q_asg (ev__law_sum (ev_var rfl) (ev_var rfl) p p hS1 hl1) fun H3 e3 => ?_
        refine s_ret (ev_lessZ rfl) fun H4 e4 => ?_
        have kk := q H4 ((e1.trans e3).trans e4)
        rw [ring_val] at kk
        rw [hs] at kk
        exact kk
theorem ring_ne {ss : List Say} {c : List Int} (h : isRing ss c = true) : c.isEmpty = false := by
  cases c with
  | nil => cases h
  | cons _ _ => rfl
theorem pure_heights (h : sp_heights K vs H Q E) : t_heights K (Bd Q) (L2.start ["count", "sayings", "found", "ring"] vs) H := by
  obtain ⟨n, a, ss, rfl, hS, ok, hn, hz, k1, k2⟩ := h
  refine q_drop (ev_check (ev_var rfl) (ev_var rfl) hn hS ok) fun H1 e1 => ?_
  refine raw_q_asgG (raw_call (ea2 (ev_var rfl) (ev_var rfl)) fun H2 e2 => ⟨n, a, ss, rfl, hS.mono (e1.trans e2), ok, hn, hz, fun hs t s r H3 ka h0 led hs' hr e3 ht hs3 hr3 => ?_, fun c t s r H3 hc hcl hs' hr e3 ht hr3 => ?_⟩)
  · refine unp2 (st_of ht) ?_
    have E3 := (e1.trans e2).trans e3
    refine q_when (b := false) (et_is (et_test (ev_neNil (hs := []) (ev_var rfl) (sq_of hr3))) rfl) (fun z => nomatch z) fun _ H4 e4 => ?_
    refine s_retP (ep_make1 (xs := iV hs) (ev_var rfl) (sq_of (e4 _ _ hs3))) fun v H5 e5 ⟨x, l, ev, ha, hx, hl, ne, h5⟩ => ?_
    subst ev
    exact k1 hs x l H5 ka (fresh_back (E3.trans e4) hx) (fresh_back (E3.trans e4) hl) ne ((E3.trans e4).trans e5) ha h5
  · refine unp2 (st_of ht) ?_
    have E3 := (e1.trans e2).trans e3
    refine q_when (b := true) (et_is (et_test (ev_neNil (hs := c) (ev_var rfl) (sq_of hr3))) (by rw [ring_ne hc]; rfl)) (fun _ H4 e4 => ?_) fun z => nomatch z
    refine s_retP (ep_make1 (xs := iV c) (ev_var rfl) (sq_of (e4 _ _ hr3))) fun v H5 e5 ⟨x, l, ev, ha, hx, hl, ne, h5⟩ => ?_
    subst ev
    exact k2 c x l H5 hc hcl (fresh_back (E3.trans e4) hx) (fresh_back (E3.trans e4) hl) ne ((E3.trans e4).trans e5) ha h5
end
end Am

/-! what the laws of answers share -/
namespace Am
open PySem L2 Evl
open He (ga ma)
theorem sum_app_bad {ss : List Say} {c : List Int} {x : Int} {p q : Nat} (h : sayAt ss x = none) : sumAlong ss (c ++ [x]) p q = none := by
  unfold sumAlong
  rw [run_append]
  cases run ss c p 0 with
  | none => rfl
  | some y =>
    obtain ⟨u, t⟩ := y
    show ends q (run ss [x] u t) = none
    rw [run_cons, h]
    rfl
theorem sayAt_len {ss : List Say} : sayAt ss (ss.length : Int) = none := by
  rw [sayAt_nat]
  exact List.getElem?_eq_none (Nat.le_refl _)
theorem ring_app {ss : List Say} {c : List Int} (h : isRing ss c = true) : isRing ss (c ++ [(ss.length : Int)]) = false := by
  cases c with
  | nil => cases h
  | cons a r =>
    rw [List.cons_append, ring_val]
    cases sayAt ss a with
    | none => rfl
    | some s =>
      show negO (sumAlong ss (a :: (r ++ [(ss.length : Int)])) s.1 s.1) = false
      rw [← List.cons_append, sum_app_bad sayAt_len]
      rfl
theorem keepAll_app {n : Nat} {ss : List Say} {hs : List Int} {x : Int} (h : keepAll n ss hs = true) : keepAll n ss (hs ++ [x]) = false := by
  have := keepAll_len h
  unfold keepAll
  rw [List.length_append, this]
  have : decide (n + [x].length = n) = false := decide_eq_false (by simp)
  rw [this]
  rfl
theorem keepAll_len_ne {n : Nat} {ss : List Say} {hs : List Int} (h : ¬ hs.length = n) : keepAll n ss hs = false := by
  unfold keepAll
  rw [decide_eq_false h]
  rfl
/-- a saying turned about -/
def about (s : Say) : Say := (s.2.1, s.1, -s.2.2)
theorem Ok.about {n : Nat} {ss : List Say} (h : Ok n ss) : Ok n (ss.map about) := fun s hs => by
  obtain ⟨t, ht, rfl⟩ := List.mem_map.mp hs
  exact ⟨(h t ht).2, (h t ht).1⟩
section
variable {K : PySem.W.Frag} {vs : List V} {H H' : Hp} {Q : VK} {E : XK} {σ : L2.St} {ta tb tc td te : TE} {tz tu : TS} {D : Ends} {ts : TA} {ks : List Kd} {k : Kd} {x l m : Addr} {f g : Str} {P : Hp → V → Hp → Prop}
/-- a tuple of these -/
def TupV (K : PySem.W.Frag) (H : Hp) (v : V) (ws : List V) : Prop := ∃ t, v = .ref t ∧ SqT K H t ws
theorem TupV.mono {v : V} {ws : List V} (e : Ex H H') (h : TupV K H v ws) : TupV K H' v ws := by obtain ⟨t, e1, e2⟩ := h; exact ⟨t, e1, ex_t e e2⟩
theorem TupV.upd {v : V} {ws ys : List V} {l : Addr} {o : HO} (h : TupV K H v ws) (hl : H l = some (.lst ys)) : TupV K (L2.upd H l o) v ws := by
  obtain ⟨t, rfl, hT⟩ := h
  exact ⟨t, rfl, sqT_upd hT hl⟩
theorem paired_map {α β γ : Type} {F : α → β → Prop} {G : α → γ → Prop} {u : β → γ} (i : ∀ x y, F x y → G x (u y)) : ∀ {xs : List α} {ys : List β}, Paired F xs ys → Paired G xs (ys.map u)
  | _, _, .nil => .nil
  | _, _, .cons r t => .cons (i _ _ r) (paired_map i t)
theorem paired_drop {α β : Type} {F : α → β → Prop} : ∀ {xs : List α} {ys : List β} (k : Nat), Paired F xs ys → Paired F (xs.drop k) (ys.drop k)
  | _, _, 0, h => h
  | _, _, _ + 1, .nil => .nil
  | _, _, k + 1, .cons r t => paired_drop k t
theorem paired_append {α β : Type} {F : α → β → Prop} : ∀ {xs xs' : List α} {ys ys' : List β}, Paired F xs ys → Paired F xs' ys' → Paired F (xs ++ xs') (ys ++ ys')
  | _, _, _, _, .nil, h => h
  | _, _, _, _, .cons r t, h => .cons r (paired_append t h)
theorem paired_rev {α β : Type} {F : α → β → Prop} : ∀ {xs : List α} {ys : List β}, Paired F xs ys → Paired F xs.reverse ys.reverse
  | _, _, .nil => .nil
  | _, _, .cons r t => by
    simp only [List.reverse_cons]
    exact paired_append (paired_rev t) (.cons r .nil)
theorem yes_ok {A B : Hp → Prop} (h : A H) : tYes σ H fun b H3 => if b = true then A H3 else B H3 := by
  show (if true = true then A H else B H)
  rw [if_pos rfl]
  exact h
/-- the comprehension that lays tuples: g is unpacking of the item -/
theorem ep_lcT {a : Addr} {xs : List V} {tl : TE} {g : TG} {js : List Nat} (w : Nat → List V) (h : Ev tl σ H (.ref a)) (hx : SqL K H a xs) (hz : xs.length ≤ 40000)
    (hs : ∀ i x H1, Ex H H1 → xs[i]? = some x → ∀ R : L2.St → Hp → Prop, (∀ σ', wipe σ' js = wipe σ js → (∀ H2, Ex H1 H2 → ∀ Q : VK, (∀ v H3, Ex H2 H3 → TupV K H3 v (w i) → Q v H3) → te σ' H2 Q) → R σ' H1) → g x (wipe σ js) H1 R) :
    EvP (tLc (iList K tl) g tYes te js) σ H fun H1 v H2 => ∃ p ys, v = .ref p ∧ H1 p = none ∧ H2 p = some (.lst ys) ∧ ys.length = xs.length ∧ ∀ i v, ys[i]? = some v → TupV K H2 v (w i) := fun H0 e Q q => h H0 e _ fun H1 e1 =>
  ⟨a, rfl, ⟨xs, ex_l (e.trans e1) hx⟩, fun Dl hD =>
    lc_list (xs := xs) (fun i H' => H1 Dl = none ∧ Ex H1 H' ∧ i ≤ xs.length ∧ ∃ ys, H' Dl = some (.lst ys) ∧ ys.length = i ∧ ∀ j v, ys[j]? = some v → TupV K H' v (w j)) ⟨hD, Ex.new hD, Nat.zero_le _, [], upd_same, rfl, fun j v z => by simp at z⟩ (fun i H' _ p => ex_l ((e.trans e1).trans p.2.1) hx)
      (fun i x H' hi ⟨p1, p2, p3, ys, p4, p5, p6⟩ => hs i x H' ((e.trans e1).trans p2) hi _ fun σ' hw he => ⟨hw, yes_ok (by
        refine he H' (Ex.refl H') _ fun v H3 e3 hv => ⟨ys, e3 _ _ p4, sz_lt (by have hlt := (List.getElem?_eq_some_iff.mp hi).1; omega), p1, Ex.mut (p2.trans e3) p1, by have hlt := (List.getElem?_eq_some_iff.mp hi).1; omega, ys ++ [v], upd_same, by rw [List.length_append, p5]; rfl, fun j u hj => ?_⟩
        by_cases hj2 : j < ys.length
        · rw [List.getElem?_append_left hj2] at hj
          exact ((p6 j u hj).mono e3).upd (e3 _ _ p4)
        · have : j = i := by
            have := (List.getElem?_eq_some_iff.mp hj).1
            rw [List.length_append] at this
            simp at this
            omega
          subst this
          rw [List.getElem?_append_right (by omega), p5, Nat.sub_self] at hj
          have : v = u := by simpa using hj
          subst this
          exact hv.upd (e3 _ _ p4))⟩)
      (fun H' ⟨p1, p2, _, ys, p4, p5, p6⟩ => q _ H' (e1.trans p2) ⟨Dl, ys, rfl, fresh_back e1 p1, p4, p5, p6⟩)⟩
theorem paired_of {α β : Type} {F : α → β → Prop} {d : β} : ∀ {xs : List α} {ys : List β}, xs.length = ys.length → (∀ i x, xs[i]? = some x → F x (ys.getD i d)) → Paired F xs ys
  | [], [], _, _ => .nil
  | _ :: _, [], many, _ => nomatch many
  | [], _ :: _, many, _ => nomatch many
  | x :: xs, y :: ys, h, g => .cons (g 0 x rfl) (paired_of (d := d) (by simpa using h) fun i z hz => by have := g (i + 1) z (by simpa using hz); simpa using this)
/-- over sayings, laying sayings -/
theorem ep_lcS {a : Addr} {ss : List Say} {tl : TE} {i j l : Nat} (w : Say → Say) (hS : Says K H a ss) (h : Ev tl σ H (.ref a))
    (hw : ∀ x y z, wipe ((((wipe σ [i, j, l]).set i (some x)).set j (some y)).set l (some z)) [i, j, l] = wipe σ [i, j, l])
    (he : ∀ s H1, Ex H H1 → s ∈ ss → EvU te ((((wipe σ [i, j, l]).set i (some (.int (s.1 : Int)))).set j (some (.int (s.2.1 : Int)))).set l (some (.int s.2.2))) H1 [.int ((w s).1 : Int), .int ((w s).2.1 : Int), .int (w s).2.2]) :
    EvP (tLc (iList K tl) (gTup K 3 (gCons (gName i) (gCons (gName j) (gCons (gName l) gNil)))) tYes te [i, j, l]) σ H fun H1 v H2 => ∃ p, v = .ref p ∧ H1 p = none ∧ SaysM K H2 p (ss.map w) := by
  obtain ⟨hz, xs, hx, hp⟩ := hS
  have hlen : xs.length = ss.length := Paired.length hp
  refine (ep_lcT (fun n => [.int ((w (ss.getD n z0)).1 : Int), .int ((w (ss.getD n z0)).2.1 : Int), .int (w (ss.getD n z0)).2.2]) h hx (by omega) (fun n x H1 e hi R r => ?_)).imp fun H1 v H2 e1 e2 ⟨p, ys, ev, hp1, hp2, hl, hy⟩ => ⟨p, ev, hp1, by rw [List.length_map]; exact hz, ys, hp2, ?_⟩
  · obtain ⟨s, hs, tp, rfl, hT⟩ := paired_get hp hi
    refine unp3 (ex_t e hT) (r _ (hw _ _ _) fun H2 e2 Q q => ?_)
    rw [getD_some hs] at q
    exact he s H2 (e.trans e2) (List.mem_of_getElem? hs) H2 (Ex.refl H2) Q fun p H3 hp e3 h3 => q _ H3 e3 ⟨p, rfl, st_of h3⟩
  · refine paired_of (d := z0) (by rw [List.length_map, hl, hlen]) fun n v hv => ?_
    obtain ⟨t, et, ht⟩ := hy n v hv
    have hn : n < ss.length := by have := (List.getElem?_eq_some_iff.mp hv).1; omega
    have e : (ss.map w).getD n z0 = w (ss.getD n z0) := by
      rw [List.getD_eq_getElem?_getD, List.getElem?_map, List.getD_eq_getElem?_getD, List.getElem?_eq_getElem hn]
      rfl
    rw [e]
    exact ⟨t, et, ht⟩
/-- a cut of sayings -/
theorem says_cut {xs : List V} {ss : List Say} (lo hi : Option Int) (h : Paired (TupAt K H) xs ss) : ∃ ss', Paired (TupAt K H) (cutV xs lo hi) ss' ∧ (∀ s ∈ ss', s ∈ ss) ∧ ss'.length ≤ ss.length :=
  ⟨_, paired_take _ (paired_drop _ h), fun s hs => List.mem_of_mem_drop (List.mem_of_mem_take hs), by rw [List.length_take, List.length_drop]; omega⟩

/-! ### methods -/
theorem ev_meth {R : List V → Hp → V → Prop} {C dx : Addr} {fs : List (Str × V)} {mth : Str} {ws : List V} {z : V} (ha : Ev ta σ H (.ref x)) (hx : H x = some (.ins C dx fs)) (hl : fs.lookup mth = none) (ht : EvA ts σ H ws) (hR : ∀ H1, Ex H H1 → R (.ref x :: ws) H1 z) : Ev (tMeth C mth (Pur R) [] E ta ts) σ H z := fun H1 e Q q =>
  ha H1 e _ fun H2 e2 => ⟨x, dx, fs, rfl, (e.trans e2) _ _ hx, hl, ht H2 (e.trans e2) _ fun H3 e3 => ⟨z, by rw [List.append_nil]; exact hR H3 ((e.trans e2).trans e3), fun H4 e4 => q H4 ((e2.trans e3).trans e4)⟩⟩
theorem An1.shows (h : An1 K H x k f l) (hf : f ∈ k.fs) : ∃ dx, H x = some (.ins (ga K k.nm) dx [(f, .ref l)]) ∧ ([(f, V.ref l)] : List (Str × V)).lookup ("shows" : Str) = none := by
  obtain ⟨dx, h⟩ := h
  refine ⟨dx, h, ?_⟩
  have ne : (("shows" : Str) == f) = false := by
    revert hf
    cases k <;> simp only [Kd.fs, List.mem_cons, List.not_mem_nil, or_false] <;> intro hf <;> first | (subst hf; decide +kernel) | (rcases hf with rfl | rfl <;> decide +kernel)
  simp [List.lookup, ne]
theorem ev_Heights_shows {t1 t2 : TE} {a : Addr} {n : Nat} {ss : List Say} {hs : List Int} (hx : An1 K H x .heights "heights" l) (hS : Says K H a ss) (ok : Ok n ss) (hl : SqL K H l (iV hs)) (ha : Ev ta σ H (.ref x)) (h1 : Ev t1 σ H (.int (n : Int))) (h2 : Ev t2 σ H (.ref a)) :
    Ev (tMeth (ga K "Heights") "shows" (sp_Heights_shows K) [] E ta (tCons t1 (tCons t2 tNil))) σ H (.bl (keepAll n ss hs)) := by
  obtain ⟨dx, hh, hn⟩ := hx.shows (by decide)
  exact ev_meth ha hh hn (ea2 h1 h2) fun H1 e => ⟨x, a, l, n, ss, hs, rfl, hx.mono e, hS.mono e, ok, ex_l e hl, rfl⟩
theorem ev_Ring_shows {t1 t2 : TE} {a : Addr} {n : V} {ss : List Say} {c : List Int} (hx : An1 K H x .ring "chain" l) (hS : Says K H a ss) (hl : SqL K H l (iV c)) (ha : Ev ta σ H (.ref x)) (h1 : Ev t1 σ H n) (h2 : Ev t2 σ H (.ref a)) :
    Ev (tMeth (ga K "Ring") "shows" (sp_Ring_shows K) [] E ta (tCons t1 (tCons t2 tNil))) σ H (.bl (isRing ss c)) := by
  obtain ⟨dx, hh, hn⟩ := hx.shows (by decide)
  exact ev_meth ha hh hn (ea2 h1 h2) fun H1 e => ⟨x, a, l, n, ss, c, rfl, hx.mono e, hS.mono e, ex_l e hl, rfl⟩
theorem ev__law_ring {a : Addr} {ss : List Say} {c : List Int} (h1 : Ev ta σ H (.ref a)) (h2 : Ev tb σ H (.ref l)) (hS : Says K H a ss) (hC : SqL K H l (iV c)) : Ev (tCall (sp__law_ring K) [] E0 (tCons ta (tCons tb tNil))) σ H (.bl (isRing ss c)) :=
  ev_pur (ea2 h1 h2) fun H1 e => ⟨a, l, ss, c, rfl, hS.mono e, ex_l e hC, rfl⟩
end
end Am

/-! law 2 -/
namespace Am
open PySem L2 Evl
open He (ga ma)
def sp__law_due (K : PySem.W.Frag) : Sp := Pur fun vs H z => ∃ (n : Nat) (a x l : Addr) (ss : List Say) (cs : List Int), vs = [.int (n : Int), .ref a, .ref x] ∧ Says K H a ss ∧ Ok n ss ∧ SqL K H l (iV cs) ∧ cs.length ≤ 1000 ∧
  ((An1 K H x .heights "heights" l ∧ z = .bl (keepAll n ss cs)) ∨ (An1 K H x .ring "chain" l ∧ z = .bl (isRing ss cs)))
def sp__law_right (K : PySem.W.Frag) : Sp := Pur fun vs H z => ∃ (n : Nat) (a o : Addr) (ss : List Say) (xs : List V), vs = [.int (n : Int), .ref a, .ref o] ∧ 0 < n ∧ n ≤ 65 ∧ Says K H a ss ∧ Ok n ss ∧ SqL K H o xs ∧ (∀ x ∈ xs, ∃ r rs, x = .ref r ∧ Says K H r rs ∧ Ok n rs) ∧ z = .bl true
def t__law_due (K : PySem.W.Frag) : TS := tSeq (tIfS (tB (tCB (rIsi K) (tCons (tVar 2) (tCons ((tC (.ref (ga K "Ring")))) (tNil))))) (tRet (tCall (sp__law_ring K) [] E0 (tCons (tVar 1) (tCons (tFld K (tVar 2) "chain") (tNil))))) (tNext)) (tRet (tCall (sp__law_kept K) [] E0 (tCons (tVar 0) (tCons (tVar 1) (tCons (tFld K (tVar 2) "heights") (tNil))))))
def t__law_right_7 (K : PySem.W.Frag) : TS := tSeq (tIfS (tB (tCB (rIsi K) (tCons (tVar 4) (tCons ((tC (.ref (ga K "Heights")))) (tNil))))) (tDrop (tBM K "list" rAppend (tFld K (tVar 4) "heights") (tCons (tC (.int 0)) (tNil)))) (tDrop (tBM K "list" rAppend (tFld K (tVar 4) "chain") (tCons (tCB (rLenS K) (tCons (tVar 1) (tNil))) (tNil))))) (tRet (tOp rIsB (tEither (tMeth (ga K "Heights") "shows" (sp_Heights_shows K) [] E0 (tVar 4) (tCons (tVar 0) (tCons (tVar 1) (tNil)))) (tMeth (ga K "Ring") "shows" (sp_Ring_shows K) [] E0 (tVar 4) (tCons (tVar 0) (tCons (tVar 1) (tNil))))) (tC (.bl false))))
def t__law_right_5 (K : PySem.W.Frag) : TS := tSeq (tIfS (tOr (tNot (tB (tCall (sp__law_due K) [] E0 (tCons (tVar 0) (tCons (tVar 1) (tCons (tVar 4) (tNil))))))) (tTest (tOp rNotB (tEither (tMeth (ga K "Heights") "shows" (sp_Heights_shows K) [] E0 (tVar 4) (tCons (tVar 0) (tCons (tVar 1) (tNil)))) (tMeth (ga K "Ring") "shows" (sp_Ring_shows K) [] E0 (tVar 4) (tCons (tVar 0) (tCons (tVar 1) (tNil))))) (tC (.bl true))))) (tRet (tC (.bl false))) (tNext)) (tSeq (tFor (iList K (tVar 2)) (gName 5) (tIfS (tTest (tOp rNe (tEither (tMeth (ga K "Heights") "shows" (sp_Heights_shows K) [] E0 (tVar 4) (tCons (tVar 0) (tCons (tVar 5) (tNil)))) (tMeth (ga K "Ring") "shows" (sp_Ring_shows K) [] E0 (tVar 4) (tCons (tVar 0) (tCons (tVar 5) (tNil))))) (tCall (sp__law_due K) [] E0 (tCons (tVar 0) (tCons (tVar 5) (tCons (tVar 4) (tNil))))))) (tRet (tC (.bl false))) (tNext))) (t__law_right_7 K))
def t__law_right_2 (K : PySem.W.Frag) : TS := tSeq (tIfS (tOr (tNot (tB (tCB (rIsi K) (tCons (tVar 4) (tCons ((tC (.ref (ga K "Answer")))) (tNil)))))) (tOr (tTest (tOp rEq (tCB (rIsi K) (tCons (tVar 4) (tCons ((tC (.ref (ga K "Heights")))) (tNil)))) (tCB (rIsi K) (tCons (tVar 4) (tCons ((tC (.ref (ga K "Ring")))) (tNil)))))) (tTest (tOp (rNeD K) (tVar 3) (tVar 1))))) (tRet (tC (.bl false))) (tNext)) (tSeq (tIfS (tB (tCB (rAny K) (tCons (tLst (tCons (tCB (rIsi K) (tCons (tVar 4) (tCons ((tC (.ref (ga K "Fixed")))) (tNil)))) (tCons (tCB (rIsi K) (tCons (tVar 4) (tCons ((tC (.ref (ga K "Follows")))) (tNil)))) (tCons (tCB (rIsi K) (tCons (tVar 4) (tCons ((tC (.ref (ga K "Free")))) (tNil)))) (tNil))))) (tNil)))) (tRet (tC (.bl false))) (tNext)) (tSeq (tIfS (tB (tCB (rAny K) (tCons (tLst (tCons (tCB (rIsi K) (tCons (tVar 4) (tCons ((tC (.ref (ga K "Loose")))) (tNil)))) (tCons (tCB (rIsi K) (tCons (tVar 4) (tCons ((tC (.ref (ga K "Needed")))) (tNil)))) (tCons (tCB (rIsi K) (tCons (tVar 4) (tCons ((tC (.ref (ga K "Needless")))) (tNil)))) (tNil))))) (tNil)))) (tRet (tC (.bl false))) (tNext)) (t__law_right_5 K)))
def t__law_right (K : PySem.W.Frag) : TS := tSeq (tAsg (tCB (rListS K) (tCons (tVar 1) (tNil))) (gName 3)) (tSeq (tAsg (tCall (sp_heights K) [] E0 (tCons (tVar 0) (tCons (tVar 3) (tNil)))) (gName 4)) (t__law_right_2 K))
def t_law (K : PySem.W.Frag) : TS := tSeq (tAsg (tCall (sp__law_sayings K) [] E0 (tCons (tVar 0) (tNil))) (gTup K 2 (gCons (gName 1) (gCons (gName 2) (gNil))))) (tSeq (tAsg (tLc (iList K (tVar 2)) (gTup K 3 (gCons (gName 6) (gCons (gName 7) (gCons (gName 8) (gNil))))) (tYes) (tTup (tCons (tVar 7) (tCons (tVar 6) (tCons (tUn rNegI (tVar 8)) (tNil))))) [6, 7, 8]) (gName 3)) (tSeq (tAsg (tLst (tCons (tVar 2) (tCons (tRevL K (tVar 2)) (tCons (tSl (rSlL K) (tVar 2) tNoPart (tPart (tUn rNegI (tC (.int 1))))) (tCons (tVar 3) (tCons (tVar 2) (tNil))))))) (gName 4)) (tSeq (tFor (iList K (tVar 4)) (gName 5) (tIfS (tNot (tB (tCall (sp__law_right K) [] E0 (tCons (tVar 1) (tCons (tVar 5) (tCons (tVar 4) (tNil))))))) (tRet (tC (.bl false))) (tNext))) (tRet (tOrV (tCB (rIsi K) (tCons (tCall (sp_heights K) [] E0 (tCons (tVar 1) (tCons (tVar 2) (tNil)))) (tCons ((tC (.ref (ga K "Heights")))) (tNil)))) (tOp rGtI (tOp rModI (tCB (rSum K) (tCons (tVar 0) (tNil))) (tC (.int 4))) (tC (.int 1))))))))
section
variable {K : PySem.W.Frag} {vs : List V} {H H' : Hp} {Q : VK} {E : XK} {σ : L2.St} {ta tb tc td te : TE} {tz tu : TS} {D : Ends} {ts : TA} {ks : List Kd} {k : Kd} {x l m : Addr} {f g : Str} {P : Hp → V → Hp → Prop}
theorem pure__law_due (A : AnsF K kds) (h : sp__law_due K vs H Q E) : t__law_due K (Bd Q) (L2.start ["_law_count", "_law_sayings_here", "_law_found"] vs) H := by
  obtain ⟨z, ⟨n, a, x, l, ss, cs, rfl, hS, ok, hl, hz, hx⟩, q⟩ := h
  have F1 := A .heights (by decide)
  have F2 := A .ring (by decide)
  rcases hx with ⟨hx, rfl⟩ | ⟨hx, rfl⟩
  · refine q_when (b := false) (et_B (ev_isC (ev_var rfl) (ty_1 F1 hx) (F1.kit .ring (by decide)))) (fun z => nomatch z) fun _ H1 e1 => ?_
    exact s_ret (ev__law_kept (ev_var rfl) (ev_var rfl) (ev_f1 (v := .ref l) F1 (ev_var rfl) (hx.mono e1) (by decide)) (hS.mono e1) ok (ex_l e1 hl) hz) fun H2 e2 => q H2 (e1.trans e2)
  · refine q_when (b := true) (et_B (ev_isC (ev_var rfl) (ty_1 F2 hx) (F2.kit .ring (by decide)))) (fun _ H1 e1 => ?_) (fun z => nomatch z)
    exact s_ret (ev__law_ring (ev_var rfl) (ev_f1 (v := .ref l) F2 (ev_var rfl) (hx.mono e1) (by decide)) (hS.mono e1) (ex_l e1 hl)) fun H2 e2 => q H2 (e1.trans e2)
/-- which of the two -/
inductive Is2 : Kd → Str → Prop where
  | h : Is2 .heights "heights"
  | r : Is2 .ring "chain"
def good (n : Nat) (k : Kd) (ss : List Say) (cs : List Int) : Bool := match k with
  | .heights => keepAll n ss cs
  | _ => isRing ss cs
theorem ev_shows2 {t1 t2 : TE} {a : Addr} {n : Nat} {ss : List Say} {cs : List Int} (i : Is2 k f) (hx : An1 K H x k f l) (hS : Says K H a ss) (ok : Ok n ss) (hl : SqL K H l (iV cs)) (ha : Ev ta σ H (.ref x)) (h1 : Ev t1 σ H (.int (n : Int))) (h2 : Ev t2 σ H (.ref a)) :
    Ev (tEither (tMeth (ga K "Heights") "shows" (sp_Heights_shows K) [] E0 ta (tCons t1 (tCons t2 tNil))) (tMeth (ga K "Ring") "shows" (sp_Ring_shows K) [] E0 ta (tCons t1 (tCons t2 tNil)))) σ H (.bl (good n k ss cs)) := by
  cases i with
  | h => exact ev_left (ev_Heights_shows hx hS ok hl ha h1 h2)
  | r => exact ev_right (ev_Ring_shows hx hS hl ha h1 h2)
theorem ev_due2 {t1 t2 : TE} {a : Addr} {n : Nat} {ss : List Say} {cs : List Int} (i : Is2 k f) (hx : An1 K H x k f l) (hS : Says K H a ss) (ok : Ok n ss) (hl : SqL K H l (iV cs)) (hz : cs.length ≤ 1000) (ha : Ev ta σ H (.ref x)) (h1 : Ev t1 σ H (.int (n : Int))) (h2 : Ev t2 σ H (.ref a)) :
    Ev (tCall (sp__law_due K) [] E0 (tCons t1 (tCons t2 (tCons ta tNil)))) σ H (.bl (good n k ss cs)) :=
  ev_pur (ea3 h1 h2 ha) fun H1 e => ⟨n, a, x, l, ss, cs, rfl, hS.mono e, ok, ex_l e hl, hz, by
    cases i with
    | h => exact .inl ⟨hx.mono e, rfl⟩
    | r => exact .inr ⟨hx.mono e, rfl⟩⟩
def rightSt (n : Nat) (a o p x : Addr) (w : Option V) : L2.St := [some (.int (n : Int)), some (.ref a), some (.ref o), some (.ref p), some (.ref x), w]
theorem Is2.mem (i : Is2 k f) : k ∈ kds ∧ f ∈ k.fs := by cases i <;> exact ⟨by decide, by decide⟩
/-- what holds of the answer: x of k with the list l, which is cs; H0 the heap ahead of it -/
structure Fnd (K : PySem.W.Frag) (H0 H : Hp) (k : Kd) (f : Str) (x l : Addr) (cs : List Int) : Prop where
  e : Ex H0 H
  hx : An1 K H x k f l
  hl : H l = some (.lst (iV cs))
  ne : l ≠ x
  l0 : H0 l = none
theorem Fnd.mono {H0 : Hp} {cs : List Int} (h : Fnd K H0 H k f x l cs) (e : Ex H H') : Fnd K H0 H' k f x l cs := ⟨h.e.trans e, h.hx.mono e, e _ _ h.hl, h.ne, h.l0⟩
theorem Fnd.put {H0 : Hp} {cs cs' : List Int} (h : Fnd K H0 H k f x l cs) : Fnd K H0 (upd H l (.lst (iV cs'))) k f x l cs' := by
  obtain ⟨dx, hx⟩ := h.hx
  exact ⟨Ex.mut h.e h.l0, ⟨dx, by rw [upd_ne (Ne.symm h.ne)]; exact hx⟩, upd_same, h.ne, h.l0⟩
theorem right7 (A : AnsF K kds) {n : Nat} {a o p : Addr} {w : Option V} {ss : List Say} {cs : List Int} {H0 : Hp} (i : Is2 k f) (ok : Ok n ss) (hS0 : Says K H0 a ss) (hz : cs.length ≤ 100) (F : Fnd K H0 H k f x l cs) (hg : good n k ss cs = true) (q : ∀ H2, Ex H0 H2 → Q (.bl true) H2) : t__law_right_7 K (Bd Q) (rightSt n a o p x w) H := by
  have C := A k i.mem.1
  have fin : ∀ (H4 : Hp) (cs' : List Int), Fnd K H0 H4 k f x l cs' → good n k ss cs' = false → tRet (tOp rIsB (tEither (tMeth (ga K "Heights") "shows" (sp_Heights_shows K) [] E0 (tVar 4) (tCons (tVar 0) (tCons (tVar 1) (tNil)))) (tMeth (ga K "Ring") "shows" (sp_Ring_shows K) [] E0 (tVar 4) (tCons (tVar 0) (tCons (tVar 1) (tNil))))) (tC (.bl false))) (Bd Q) (rightSt n a o p x w) H4 := fun H4 cs' F4 hg4 =>
    s_ret (v := .bl true) (ev_is (ev_op (ev_shows2 i F4.hx (hS0.mono F4.e) ok (sq_of F4.hl) (ev_var rfl) (ev_var rfl) (ev_var rfl)) ev_c rv_isB) (by rw [hg4]; rfl)) fun H5 e5 => q H5 (F4.e.trans e5)
  have ap : ∀ v : Int, iV cs ++ [V.int v] = iV (cs ++ [v]) := fun v => by show _ = List.map V.int (cs ++ [v]); rw [List.map_append]; rfl
  have hz' : (iV cs).length < 100000 := by rw [List.length_map]; omega
  cases i with
  | h =>
    refine q_if (b := true) (et_B (ev_isC (ev_var rfl) (ty_1 C F.hx) (C.kit .heights (by decide)))) (fun _ H1 e1 => ?_) (fun z => nomatch z)
    have F1 := F.mono e1
    refine s_app F1.hl (ev_f1 (v := .ref l) C (ev_var rfl) F1.hx (by decide)) ev_c hz' fun H2 e2 => ?_
    rw [ap]
    exact fin _ _ (F1.mono e2).put (keepAll_app hg)
  | r =>
    refine q_if (b := false) (et_B (ev_isC (ev_var rfl) (ty_1 C F.hx) (C.kit .heights (by decide)))) (fun z => nomatch z) (fun _ H1 e1 => ?_)
    have F1 := F.mono e1
    refine s_app F1.hl (ev_f1 (v := .ref l) C (ev_var rfl) F1.hx (by decide)) (ev_lenS (hS0.mono F1.e) (ev_var rfl)) hz' fun H2 e2 => ?_
    rw [ap]
    exact fin _ _ (F1.mono e2).put (ring_app hg)
theorem right5 (A : AnsF K kds) {n : Nat} {a o p : Addr} {w : Option V} {ss : List Say} {xs : List V} {cs : List Int} {H0 : Hp} (i : Is2 k f) (ok : Ok n ss) (hS0 : Says K H0 a ss) (hO : SqL K H0 o xs) (hxs : ∀ x ∈ xs, ∃ r rs, x = .ref r ∧ Says K H0 r rs ∧ Ok n rs) (hz : cs.length ≤ 100) (F : Fnd K H0 H k f x l cs) (hg : good n k ss cs = true) (q : ∀ H2, Ex H0 H2 → Q (.bl true) H2) :
    t__law_right_5 K (Bd Q) (rightSt n a o p x w) H := by
  refine q_when (b := false) (et_is (et_or (et_not (et_B (ev_due2 i F.hx (hS0.mono F.e) ok (sq_of F.hl) (by omega) (ev_var rfl) (ev_var rfl) (ev_var rfl)))) fun _ => et_test (ev_op (ev_shows2 i F.hx (hS0.mono F.e) ok (sq_of F.hl) (ev_var rfl) (ev_var rfl) (ev_var rfl)) ev_c rv_notB)) (by rw [hg]; rfl)) (fun z => nomatch z) fun _ H1 e1 => ?_
  have F1 := F.mono e1
  refine q_forLn (ev_var rfl) (ex_l F1.e hO) (fun j σ' H' => ∃ w, σ' = rightSt n a o p x w ∧ Ex H1 H') (fun H2 e2 => ⟨w, rfl, e2⟩) (fun j σ' H' _ ⟨_, _, e'⟩ => ex_l (F1.e.trans e') hO) ?_ ?_
  · rintro j y σ' H' hy ⟨w', rfl, e'⟩
    obtain ⟨r, rs, rfl, hr, okr⟩ := hxs y (List.mem_of_getElem? hy)
    have F2 := F1.mono e'
    refine s_when (b := false) (et_is (et_test (ev_op (ev_shows2 i F2.hx (hr.mono F2.e) okr (sq_of F2.hl) (ev_var rfl) (ev_var rfl) (ev_var rfl)) (ev_due2 i F2.hx (hr.mono F2.e) okr (sq_of F2.hl) (by omega) (ev_var rfl) (ev_var rfl) (ev_var rfl)) (rv_ne rfl))) (by simp)) (fun z => nomatch z) fun _ H2 e2 => ?_
    exact ⟨_, rfl, e'.trans e2⟩
  · rintro σ' H' ⟨w', rfl, e'⟩
    exact right7 A i ok hS0 hz (F1.mono e') hg q
theorem right2 (A : AnsF K kds) {n : Nat} {a o p : Addr} {w : Option V} {ss : List Say} {xs : List V} {cs : List Int} {H0 : Hp} (i : Is2 k f) (ok : Ok n ss) (hS0 : Says K H0 a ss) (hO : SqL K H0 o xs) (hxs : ∀ x ∈ xs, ∃ r rs, x = .ref r ∧ Says K H0 r rs ∧ Ok n rs) (hz : cs.length ≤ 100) (F : Fnd K H0 H k f x l cs) (hp : Says K H p ss) (hg : good n k ss cs = true) (q : ∀ H2, Ex H0 H2 → Q (.bl true) H2) :
    t__law_right_2 K (Bd Q) (rightSt n a o p x w) H := by
  have C := A k i.mem.1
  have ty : ∀ {H1 : Hp}, Ex H H1 → TyX K H1 (.ref x) (.ref (ga K k.nm)) := fun e => ty_1 C (F.hx.mono e)
  have no : ∀ {H1 : Hp} (d : Kd), Ex H H1 → d ∈ kds → Ev (tCB (rIsi K) (tCons (tVar 4) (tCons ((tC (.ref (ga K d.nm)))) (tNil)))) (rightSt n a o p x w) H1 (.bl (decide (k = d))) := fun d e hd => ev_isC (ev_var rfl) (ty e) (C.kit d hd)
  refine q_when (b := false) (et_is (et_or (et_not (et_B (ev_isC (ev_var rfl) (ty (Ex.refl H)) C.an))) fun _ => et_or (et_test (ev_op (no .heights (Ex.refl H) (by decide)) (no .ring (Ex.refl H) (by decide)) (rv_eq rfl))) fun _ => et_test (ev_op (ev_var rfl) (ev_var rfl) (rv_neD (fun H2 e2 => dp_S (hp.mono e2)) (fun H2 e2 => dp_S (hS0.mono (F.e.trans e2))) (sh_S ss) (sh_S ss) rfl))) ?_) (fun z => nomatch z) fun _ H1 e1 => ?_
  · rw [eqv_self (sh_S ss)]
    cases i <;> decide
  refine q_when (b := false) (et_is (et_B (ev_any (bs := [decide (k = .fixed), decide (k = .follows), decide (k = .free)]) (el_lst (ea3 (no .fixed e1 (by decide)) (no .follows e1 (by decide)) (no .free e1 (by decide))) (by show 3 ≤ 100000; decide)))) (by cases i <;> decide)) (fun z => nomatch z) fun _ H2 e2 => ?_
  have e12 := e1.trans e2
  refine q_when (b := false) (et_is (et_B (ev_any (bs := [decide (k = .loose), decide (k = .needed), decide (k = .needless)]) (el_lst (ea3 (no .loose e12 (by decide)) (no .needed e12 (by decide)) (no .needless e12 (by decide))) (by show 3 ≤ 100000; decide)))) (by cases i <;> decide)) (fun z => nomatch z) fun _ H3 e3 => ?_
  exact right5 A i ok hS0 hO hxs hz (F.mono (e12.trans e3)) hg q
theorem pure__law_right (A : AnsF K kds) (h : sp__law_right K vs H Q E) : t__law_right K (Bd Q) (L2.start ["_law_count", "_law_sayings_here", "_law_others", "_law_handed", "_law_found", "_law_some"] vs) H := by
  obtain ⟨z, ⟨n, a, o, ss, xs, rfl, hn, hn65, hS, ok, hO, hxs, rfl⟩, q⟩ := h
  obtain ⟨hz1, ys, hy, hyp⟩ := id hS
  refine q_asgL (el_list (ev_var rfl) hy) fun p H1 hp e1 h1 => ?_
  have hP : Says K H1 p ss := ⟨hz1, ys, sq_of h1, L2.Paired.mapP hyp fun _ _ z => z.mono e1⟩
  refine raw_q_asg (raw_call (ea2 (ev_var rfl) (ev_var rfl)) fun H2 e2 => ⟨n, p, ss, rfl, hP.mono e2, ok, hn, by omega, fun hs x l H3 hk hx hl ne e3 ha hl3 => ?_, fun c x l H3 hc hcl hx hl ne e3 ha hl3 => ?_⟩)
  · have e := (e1.trans e2).trans e3
    have hlen := keepAll_len hk
    exact right2 A .h ok hS hO hxs (by omega) ⟨e, ha, hl3, ne, fresh_back (e1.trans e2) hl⟩ (hP.mono (e2.trans e3)) hk q
  · have e := (e1.trans e2).trans e3
    exact right2 A .r ok hS hO hxs (by omega) ⟨e, ha, hl3, ne, fresh_back (e1.trans e2) hl⟩ (hP.mono (e2.trans e3)) hc q
theorem pure_law2 (A : AnsF K kds) (h : sp_law K vs H Q E) : t_law K (Bd Q) (L2.start ["_law_script", "_law_count", "_law_sayings_here", "_law_turned", "_law_some", "_law_told", "_law_lower", "_law_upper", "_law_number"] vs) H := by
  obtain ⟨a, ns, rfl, hL, hz, k⟩ := h
  refine raw_q_asgG (raw_call (ea_cons (ev_var rfl) ea_nil) fun H1 e1 => ⟨a, ns, rfl, ex_l e1 hL, hz, fun n ss p l H2 hn hn65 ok hss hkept hp0 hl0 e2 hp hS => ?_⟩)
  refine unp2 (st_of hp) ?_
  have hL2 := ex_l (e1.trans e2) hL
  refine q_asgP (ep_lcS about hS.says (ev_var rfl) (fun _ _ _ => rfl) fun s H3 e3 hs => eu_tup (ea3 (ev_var rfl) (ev_var rfl) (ev_un (ev_var rfl) ru_neg)) (by show 3 ≤ 100000; decide)) fun v H3 e3 ⟨t, ev, ht0, hT⟩ => ?_
  subst ev
  have hS3 := hS.mono e3
  obtain ⟨hz1, ys, hy, hyp⟩ := id hS3
  show tSeq (tAsg (tLst (tCons (tVar 2) (tCons _ (tCons _ (tCons _ (tCons (tVar 2) tNil)))))) (gName 4)) _ (Bd Q) [some (V.ref a), some (V.int (n : Int)), some (V.ref l), some (V.ref t), none, none, none, none, none] H3
  refine raw_q_asg ⟨_, rfl, (el_rev (ev_var rfl) (sq_of hy)) H3 (Ex.refl H3) _ fun b H4 _ e4 h4 => (el_sl (ev_var rfl) eo_none (eo_some (ev_un ev_c ru_neg)) (sq_of hy)) H4 e4 _ fun c H5 _ e5 h5 => ⟨_, rfl, _, rfl, by show 5 ≤ sizeLine; decide, fun o ho => ?_⟩⟩
  have E5 := e4.trans e5
  have E6 : Ex H3 (upd H5 o (.lst [.ref l, .ref b, .ref c, .ref t, .ref l])) := E5.trans (Ex.new ho)
  obtain ⟨ss', hc', hc2, hc3⟩ := says_cut none (some (-1)) hyp
  have hall : ∀ x ∈ ([.ref l, .ref b, .ref c, .ref t, .ref l] : List V), ∃ r rs, x = .ref r ∧ Says K (upd H5 o (.lst [.ref l, .ref b, .ref c, .ref t, .ref l])) r rs ∧ Ok n rs := by
    intro x hx
    simp only [or_false, List.mem_cons, List.not_mem_nil] at hx
    have hl6 : Says K (upd H5 o (.lst [.ref l, .ref b, .ref c, .ref t, .ref l])) l ss := (hS3.mono E6).says
    rcases hx with rfl | rfl | rfl | rfl | rfl
    · exact ⟨l, ss, rfl, hl6, ok⟩
    · exact ⟨b, ss.reverse, rfl, ⟨by rw [List.length_reverse]; exact hz1, _, sq_of (Ex.new ho _ _ (e5 _ _ h4)), paired_rev (L2.Paired.mapP hyp fun _ _ z => z.mono E6)⟩, fun s hs => ok s (List.mem_reverse.mp hs)⟩
    · exact ⟨c, ss', rfl, ⟨by omega, _, sq_of (Ex.new ho _ _ h5), L2.Paired.mapP hc' fun _ _ z => z.mono E6⟩, fun s hs => ok s (hc2 s hs)⟩
    · exact ⟨t, ss.map about, rfl, (hT.mono E6).says, ok.about⟩
    · exact ⟨l, ss, rfl, hl6, ok⟩
  have ho6 : upd H5 o (.lst [.ref l, .ref b, .ref c, .ref t, .ref l]) o = some (.lst [.ref l, .ref b, .ref c, .ref t, .ref l]) := upd_same
  have hS6 := hS3.mono E6
  generalize upd H5 o (.lst [.ref l, .ref b, .ref c, .ref t, .ref l]) = H6 at *
  refine q_forLn (ev_var rfl) (sq_of ho6) (fun j σ' H' => ∃ w, σ' = [some (V.ref a), some (V.int (n : Int)), some (V.ref l), some (V.ref t), some (V.ref o), w, none, none, none] ∧ Ex H6 H') (fun H7 e7 => ⟨none, rfl, e7⟩) (fun j σ' H' _ ⟨_, _, e'⟩ => sq_of (e' _ _ ho6)) ?_ ?_
  · rintro j y σ' H' hy' ⟨w, rfl, e'⟩
    obtain ⟨r, rs, rfl, hr, okr⟩ := hall y (List.mem_of_getElem? hy')
    refine s_when (b := false) (et_is (et_not (et_B (ev_pur (z := .bl true) (ea3 (ev_var rfl) (ev_var rfl) (ev_var rfl)) fun H8 e8 => ⟨n, r, o, rs, _, rfl, hn, hn65, hr.mono (e'.trans e8), okr, sq_of ((e'.trans e8) _ _ ho6), fun x hx => ?_, rfl⟩))) rfl) (fun z => nomatch z) fun _ H9 e9 => ⟨_, rfl, e'.trans e9⟩
    obtain ⟨r', rs', q1, q2, q3⟩ := hall x hx
    exact ⟨r', rs', q1, q2.mono (e'.trans e8), q3⟩
  · rintro σ' H' ⟨w, rfl, e'⟩
    have hS7 := hS6.mono e'
    show tOrV _ _ _ H' Q
    have hL7 := ex_l ((e3.trans E6).trans e') hL2
    refine raw_call (ea2 (ev_var rfl) (ev_var rfl)) fun H8 e8 => ⟨n, l, ss, rfl, (hS7.mono e8).says, ok, hn, by omega, fun hs x l' H9 hk hx hl ne e9 ha hl9 => ?_, fun c x l' H9 hc hcl hx hl ne e9 ha hl9 => ?_⟩
    · have C := A .heights (by decide)
      exact ⟨.ref x, .ref _, .ref _, .ref _, true, rfl, .own _, ty_1 C ha, C.kit .heights (by decide), true, rfl, by rw [if_pos rfl]; exact k H9⟩
    · have C := A .ring (by decide)
      refine ⟨.ref x, .ref _, .ref _, .ref _, false, rfl, .own _, ty_1 C ha, C.kit .heights (by decide), false, rfl, ?_⟩
      rw [if_neg (by decide)]
      have hgt : decide (1 < ns.sum % 4) = true := by
        refine decide_eq_true (Int.not_le.mp fun h => ?_)
        obtain ⟨f, kf⟩ := hkept h
        exact ring_not_kept hc kf
      refine (ev_op (ev_op (ev_sum (ev_var rfl) (ex_l (e8.trans e9) hL7)) ev_c (md (by decide))) ev_c rv_I0 : Ev (tOp rGtI _ _) _ H9 (.bl (decide (1 < ns.sum % 4)))) H9 (Ex.refl H9) _ fun H10 e10 => ?_
      rw [hgt]
      exact k H10
end
end Am

namespace Am
open PySem L2 Evl
open He (ga ma)
/-! ### the text -/
def top (i : Nat) : Stmt := PySem.Challenge.pw_atmost_k02_whole_heights.main.body.getD i (.Pass ⟨0, 0, 0, 0⟩)
abbrev s_keep : Stmt := top 9
abbrev N_keep : List Str := ["saying", "heights"]
theorem sc_keep : FnScope N_keep ["saying", "heights"] (defScope s_keep) := ⟨rfl, rfl, rfl, by decide +kernel, rfl, by decide +kernel, by decide +kernel⟩
abbrev s_keep_all : Stmt := top 10
abbrev N_keep_all : List Str := ["count", "sayings", "heights", "saying"]
theorem sc_keep_all : FnScope N_keep_all ["count", "sayings", "heights"] (defScope s_keep_all) := ⟨rfl, rfl, rfl, by decide +kernel, rfl, by decide +kernel, by decide +kernel⟩
abbrev s_Heights_shows : Stmt := inClass (top 14) 1
abbrev N_Heights_shows : List Str := ["self", "count", "sayings"]
theorem sc_Heights_shows : FnScope N_Heights_shows ["self", "count", "sayings"] (defScope s_Heights_shows) := ⟨rfl, rfl, rfl, by decide +kernel, rfl, by decide +kernel, by decide +kernel⟩
abbrev s_sum_along : Stmt := top 11
abbrev N_sum_along : List Str := ["sayings", "chain", "one", "other", "total", "place", "at"]
theorem sc_sum_along : FnScope N_sum_along ["sayings", "chain", "one", "other"] (defScope s_sum_along) := ⟨rfl, rfl, rfl, by decide +kernel, rfl, by decide +kernel, by decide +kernel⟩
abbrev s_Ring_shows : Stmt := inClass (top 15) 1
abbrev N_Ring_shows : List Str := ["self", "count", "sayings", "first", "total"]
theorem sc_Ring_shows : FnScope N_Ring_shows ["self", "count", "sayings"] (defScope s_Ring_shows) := ⟨rfl, rfl, rfl, by decide +kernel, rfl, by decide +kernel, by decide +kernel⟩
abbrev s__law_kept : Stmt := top 32
abbrev N__law_kept : List Str := ["_law_count", "_law_sayings_here", "_law_row", "_law_one", "_law_lower", "_law_upper", "_law_number"]
theorem sc__law_kept : FnScope N__law_kept ["_law_count", "_law_sayings_here", "_law_row"] (defScope s__law_kept) := ⟨rfl, rfl, rfl, by decide +kernel, rfl, by decide +kernel, by decide +kernel⟩
abbrev s__law_sum : Stmt := top 31
abbrev N__law_sum : List Str := ["_law_sayings_here", "_law_chain", "_law_one", "_law_other", "_law_total", "_law_place", "_law_at", "_law_lower", "_law_upper", "_law_number"]
theorem sc__law_sum : FnScope N__law_sum ["_law_sayings_here", "_law_chain", "_law_one", "_law_other"] (defScope s__law_sum) := ⟨rfl, rfl, rfl, by decide +kernel, rfl, by decide +kernel, by decide +kernel⟩
abbrev s__law_ring : Stmt := top 33
abbrev N__law_ring : List Str := ["_law_sayings_here", "_law_chain", "_law_total"]
theorem sc__law_ring : FnScope N__law_ring ["_law_sayings_here", "_law_chain"] (defScope s__law_ring) := ⟨rfl, rfl, rfl, by decide +kernel, rfl, by decide +kernel, by decide +kernel⟩
abbrev s__law_due : Stmt := top 34
abbrev N__law_due : List Str := ["_law_count", "_law_sayings_here", "_law_found"]
theorem sc__law_due : FnScope N__law_due ["_law_count", "_law_sayings_here", "_law_found"] (defScope s__law_due) := ⟨rfl, rfl, rfl, by decide +kernel, rfl, by decide +kernel, by decide +kernel⟩
abbrev s_Heights_init : Stmt := inClass (top 14) 0
abbrev N_Heights_init : List Str := ["self", "heights"]
theorem sc_Heights_init : FnScope N_Heights_init ["self", "heights"] (defScope s_Heights_init) := ⟨rfl, rfl, rfl, by decide +kernel, rfl, by decide +kernel, by decide +kernel⟩
abbrev s_Ring_init : Stmt := inClass (top 15) 0
abbrev N_Ring_init : List Str := ["self", "chain"]
theorem sc_Ring_init : FnScope N_Ring_init ["self", "chain"] (defScope s_Ring_init) := ⟨rfl, rfl, rfl, by decide +kernel, rfl, by decide +kernel, by decide +kernel⟩
abbrev s_is_number : Stmt := top 5
abbrev N_is_number : List Str := ["thing"]
theorem sc_is_number : FnScope N_is_number ["thing"] (defScope s_is_number) := ⟨rfl, rfl, rfl, by decide +kernel, rfl, by decide +kernel, by decide +kernel⟩
abbrev s_is_below : Stmt := top 6
abbrev N_is_below : List Str := ["thing", "count"]
theorem sc_is_below : FnScope N_is_below ["thing", "count"] (defScope s_is_below) := ⟨rfl, rfl, rfl, by decide +kernel, rfl, by decide +kernel, by decide +kernel⟩
abbrev s_is_saying : Stmt := top 7
abbrev N_is_saying : List Str := ["thing", "count"]
theorem sc_is_saying : FnScope N_is_saying ["thing", "count"] (defScope s_is_saying) := ⟨rfl, rfl, rfl, by decide +kernel, rfl, by decide +kernel, by decide +kernel⟩
abbrev s_check_sayings : Stmt := top 8
abbrev N_check_sayings : List Str := ["count", "sayings", "saying"]
theorem sc_check_sayings : FnScope N_check_sayings ["count", "sayings"] (defScope s_check_sayings) := ⟨rfl, rfl, rfl, by decide +kernel, rfl, by decide +kernel, by decide +kernel⟩
abbrev s_lessened : Stmt := top 23
abbrev N_lessened : List Str := ["sayings", "sums", "last", "turn", "changed", "at", "saying", "lower", "upper", "number"]
theorem sc_lessened : FnScope N_lessened ["sayings", "sums", "last"] (defScope s_lessened) := ⟨rfl, rfl, rfl, by decide +kernel, rfl, by decide +kernel, by decide +kernel⟩
abbrev s_ring_behind : Stmt := top 24
abbrev N_ring_behind : List Str := ["sayings", "last", "place", "turn", "found", "now"]
theorem sc_ring_behind : FnScope N_ring_behind ["sayings", "last", "place"] (defScope s_ring_behind) := ⟨rfl, rfl, rfl, by decide +kernel, rfl, by decide +kernel, by decide +kernel⟩
abbrev s_from_all : Stmt := top 25
abbrev N_from_all : List Str := ["count", "sayings", "sums", "last", "place"]
theorem sc_from_all : FnScope N_from_all ["count", "sayings"] (defScope s_from_all) := ⟨rfl, rfl, rfl, by decide +kernel, rfl, by decide +kernel, by decide +kernel⟩
abbrev s_heights : Stmt := top 27
abbrev N_heights : List Str := ["count", "sayings", "found", "ring"]
theorem sc_heights : FnScope N_heights ["count", "sayings"] (defScope s_heights) := ⟨rfl, rfl, rfl, by decide +kernel, rfl, by decide +kernel, by decide +kernel⟩
abbrev s__law_right : Stmt := top 35
abbrev N__law_right : List Str := ["_law_count", "_law_sayings_here", "_law_others", "_law_handed", "_law_found", "_law_some"]
theorem sc__law_right : FnScope N__law_right ["_law_count", "_law_sayings_here", "_law_others"] (defScope s__law_right) := ⟨rfl, rfl, rfl, by decide +kernel, rfl, by decide +kernel, by decide +kernel⟩
abbrev s__law_drawn : Stmt := top 29
abbrev N__law_drawn : List Str := ["_law_script", "_law_count", "_law_most", "_law_place"]
theorem sc__law_drawn : FnScope N__law_drawn ["_law_script", "_law_count"] (defScope s__law_drawn) := ⟨rfl, rfl, rfl, by decide +kernel, rfl, by decide +kernel, by decide +kernel⟩
abbrev s__law_sayings : Stmt := top 30
abbrev N__law_sayings : List Str := ["_law_script", "_law_code", "_law_many", "_law_found", "_law_count", "_law_drawn_here", "_law_kind", "_law_cell", "_law_lower", "_law_upper", "_law_high", "_law_rest", "_law_any_one", "_law_more"]
theorem sc__law_sayings : FnScope N__law_sayings ["_law_script"] (defScope s__law_sayings) := ⟨rfl, rfl, rfl, by decide +kernel, rfl, by decide +kernel, by decide +kernel⟩
abbrev s_law : Stmt := top 36
abbrev N_law : List Str := ["_law_script", "_law_count", "_law_sayings_here", "_law_turned", "_law_some", "_law_told", "_law_lower", "_law_upper", "_law_number"]
theorem sc_law : FnScope N_law ["_law_script"] (defScope s_law) := ⟨rfl, rfl, rfl, by decide +kernel, rfl, by decide +kernel, by decide +kernel⟩
structure Txt (K : PySem.W.Frag) (mg : Str → Option Value) where
  fd_keep : FuncData
  F_keep : FunD K "keep" "keep" (defArgs s_keep) (defBody s_keep) (defScope s_keep) [] [] (ga K "keep") fd_keep
  b_keep : Binds K fd_keep ["saying", "heights"] []
  fd_keep_all : FuncData
  F_keep_all : FunD K "keep_all" "keep_all" (defArgs s_keep_all) (defBody s_keep_all) (defScope s_keep_all) [] [] (ga K "keep_all") fd_keep_all
  b_keep_all : Binds K fd_keep_all ["count", "sayings", "heights"] []
  fd_Heights_shows : FuncData
  F_Heights_shows : FunD K "shows" "Heights.shows" (defArgs s_Heights_shows) (defBody s_Heights_shows) (defScope s_Heights_shows) [] [] (ma K (ga K "Heights") "shows") fd_Heights_shows
  b_Heights_shows : Binds K fd_Heights_shows ["self", "count", "sayings"] []
  fd_sum_along : FuncData
  F_sum_along : FunD K "sum_along" "sum_along" (defArgs s_sum_along) (defBody s_sum_along) (defScope s_sum_along) [] [] (ga K "sum_along") fd_sum_along
  b_sum_along : Binds K fd_sum_along ["sayings", "chain", "one", "other"] []
  fd_Ring_shows : FuncData
  F_Ring_shows : FunD K "shows" "Ring.shows" (defArgs s_Ring_shows) (defBody s_Ring_shows) (defScope s_Ring_shows) [] [] (ma K (ga K "Ring") "shows") fd_Ring_shows
  b_Ring_shows : Binds K fd_Ring_shows ["self", "count", "sayings"] []
  fd__law_kept : FuncData
  F__law_kept : FunD K "_law_kept" "_law_kept" (defArgs s__law_kept) (defBody s__law_kept) (defScope s__law_kept) [] [] (ga K "_law_kept") fd__law_kept
  b__law_kept : Binds K fd__law_kept ["_law_count", "_law_sayings_here", "_law_row"] []
  fd__law_sum : FuncData
  F__law_sum : FunD K "_law_sum" "_law_sum" (defArgs s__law_sum) (defBody s__law_sum) (defScope s__law_sum) [] [] (ga K "_law_sum") fd__law_sum
  b__law_sum : Binds K fd__law_sum ["_law_sayings_here", "_law_chain", "_law_one", "_law_other"] []
  fd__law_ring : FuncData
  F__law_ring : FunD K "_law_ring" "_law_ring" (defArgs s__law_ring) (defBody s__law_ring) (defScope s__law_ring) [] [] (ga K "_law_ring") fd__law_ring
  b__law_ring : Binds K fd__law_ring ["_law_sayings_here", "_law_chain"] []
  fd__law_due : FuncData
  F__law_due : FunD K "_law_due" "_law_due" (defArgs s__law_due) (defBody s__law_due) (defScope s__law_due) [] [] (ga K "_law_due") fd__law_due
  b__law_due : Binds K fd__law_due ["_law_count", "_law_sayings_here", "_law_found"] []
  fd_Heights_init : FuncData
  F_Heights_init : FunD K "__init__" "Heights.__init__" (defArgs s_Heights_init) (defBody s_Heights_init) (defScope s_Heights_init) [] [] (ma K (ga K "Heights") "__init__") fd_Heights_init
  b_Heights_init : Binds K fd_Heights_init ["self", "heights"] []
  fd_Ring_init : FuncData
  F_Ring_init : FunD K "__init__" "Ring.__init__" (defArgs s_Ring_init) (defBody s_Ring_init) (defScope s_Ring_init) [] [] (ma K (ga K "Ring") "__init__") fd_Ring_init
  b_Ring_init : Binds K fd_Ring_init ["self", "chain"] []
  fd_is_number : FuncData
  F_is_number : FunD K "is_number" "is_number" (defArgs s_is_number) (defBody s_is_number) (defScope s_is_number) [] [] (ga K "is_number") fd_is_number
  b_is_number : Binds K fd_is_number ["thing"] []
  fd_is_below : FuncData
  F_is_below : FunD K "is_below" "is_below" (defArgs s_is_below) (defBody s_is_below) (defScope s_is_below) [] [] (ga K "is_below") fd_is_below
  b_is_below : Binds K fd_is_below ["thing", "count"] []
  fd_is_saying : FuncData
  F_is_saying : FunD K "is_saying" "is_saying" (defArgs s_is_saying) (defBody s_is_saying) (defScope s_is_saying) [] [] (ga K "is_saying") fd_is_saying
  b_is_saying : Binds K fd_is_saying ["thing", "count"] []
  fd_check_sayings : FuncData
  F_check_sayings : FunD K "check_sayings" "check_sayings" (defArgs s_check_sayings) (defBody s_check_sayings) (defScope s_check_sayings) [] [] (ga K "check_sayings") fd_check_sayings
  b_check_sayings : Binds K fd_check_sayings ["count", "sayings"] []
  fd_lessened : FuncData
  F_lessened : FunD K "lessened" "lessened" (defArgs s_lessened) (defBody s_lessened) (defScope s_lessened) [] [] (ga K "lessened") fd_lessened
  b_lessened : Binds K fd_lessened ["sayings", "sums", "last"] []
  fd_ring_behind : FuncData
  F_ring_behind : FunD K "ring_behind" "ring_behind" (defArgs s_ring_behind) (defBody s_ring_behind) (defScope s_ring_behind) [] [] (ga K "ring_behind") fd_ring_behind
  b_ring_behind : Binds K fd_ring_behind ["sayings", "last", "place"] []
  fd_from_all : FuncData
  F_from_all : FunD K "from_all" "from_all" (defArgs s_from_all) (defBody s_from_all) (defScope s_from_all) [] [] (ga K "from_all") fd_from_all
  b_from_all : Binds K fd_from_all ["count", "sayings"] []
  fd_heights : FuncData
  F_heights : FunD K "heights" "heights" (defArgs s_heights) (defBody s_heights) (defScope s_heights) [] [] (ga K "heights") fd_heights
  b_heights : Binds K fd_heights ["count", "sayings"] []
  fd__law_right : FuncData
  F__law_right : FunD K "_law_right" "_law_right" (defArgs s__law_right) (defBody s__law_right) (defScope s__law_right) [] [] (ga K "_law_right") fd__law_right
  b__law_right : Binds K fd__law_right ["_law_count", "_law_sayings_here", "_law_others"] []
  fd__law_drawn : FuncData
  F__law_drawn : FunD K "_law_drawn" "_law_drawn" (defArgs s__law_drawn) (defBody s__law_drawn) (defScope s__law_drawn) [] [] (ga K "_law_drawn") fd__law_drawn
  b__law_drawn : Binds K fd__law_drawn ["_law_script", "_law_count"] []
  fd__law_sayings : FuncData
  F__law_sayings : FunD K "_law_sayings" "_law_sayings" (defArgs s__law_sayings) (defBody s__law_sayings) (defScope s__law_sayings) [] [] (ga K "_law_sayings") fd__law_sayings
  b__law_sayings : Binds K fd__law_sayings ["_law_script"] []
  fd_law : FuncData
  F_law : FunD K "law" "law" (defArgs s_law) (defBody s_law) (defScope s_law) [] [] (ga K "law") fd_law
  b_law : Binds K fd_law ["_law_script"] []
  g_Answer : mg "Answer" = some (.ref (ga K "Answer"))
  g_Fixed : mg "Fixed" = some (.ref (ga K "Fixed"))
  g_Follows : mg "Follows" = some (.ref (ga K "Follows"))
  g_Free : mg "Free" = some (.ref (ga K "Free"))
  g_Heights : mg "Heights" = some (.ref (ga K "Heights"))
  g_Loose : mg "Loose" = some (.ref (ga K "Loose"))
  g_Needed : mg "Needed" = some (.ref (ga K "Needed"))
  g_Needless : mg "Needless" = some (.ref (ga K "Needless"))
  g_Ring : mg "Ring" = some (.ref (ga K "Ring"))
  g__law_drawn : mg "_law_drawn" = some (.ref (ga K "_law_drawn"))
  g__law_due : mg "_law_due" = some (.ref (ga K "_law_due"))
  g__law_kept : mg "_law_kept" = some (.ref (ga K "_law_kept"))
  g__law_right : mg "_law_right" = some (.ref (ga K "_law_right"))
  g__law_ring : mg "_law_ring" = some (.ref (ga K "_law_ring"))
  g__law_sayings : mg "_law_sayings" = some (.ref (ga K "_law_sayings"))
  g__law_sum : mg "_law_sum" = some (.ref (ga K "_law_sum"))
  g_check_sayings : mg "check_sayings" = some (.ref (ga K "check_sayings"))
  g_from_all : mg "from_all" = some (.ref (ga K "from_all"))
  g_heights : mg "heights" = some (.ref (ga K "heights"))
  g_is_below : mg "is_below" = some (.ref (ga K "is_below"))
  g_is_number : mg "is_number" = some (.ref (ga K "is_number"))
  g_is_saying : mg "is_saying" = some (.ref (ga K "is_saying"))
  g_keep : mg "keep" = some (.ref (ga K "keep"))
  g_keep_all : mg "keep_all" = some (.ref (ga K "keep_all"))
  g_law : mg "law" = some (.ref (ga K "law"))
  g_lessened : mg "lessened" = some (.ref (ga K "lessened"))
  g_ring_behind : mg "ring_behind" = some (.ref (ga K "ring_behind"))
  g_sum_along : mg "sum_along" = some (.ref (ga K "sum_along"))
  n_all : mg "all" = none
  n_any : mg "any" = none
  n_bool : mg "bool" = none
  n_enumerate : mg "enumerate" = none
  n_int : mg "int" = none
  n_isinstance : mg "isinstance" = none
  n_len : mg "len" = none
  n_list : mg "list" = none
  n_range : mg "range" = none
  n_sum : mg "sum" = none
  n_tuple : mg "tuple" = none
  c_Heights : Cls K (ga K "Heights")
  c_Ring : Cls K (ga K "Ring")
  k_Heights : Mk K (ga K "Heights") (ma K (ga K "Heights") "__init__")
  k_Ring : Mk K (ga K "Ring") (ma K (ga K "Ring") "__init__")
  m_Heights_shows : Meth K (ga K "Heights") "shows" (ma K (ga K "Heights") "shows")
  m_Ring_shows : Meth K (ga K "Ring") "shows" (ma K (ga K "Ring") "shows")
  aF : AnsF K kds
section
variable {P : Program} {w : World} {K : PySem.W.Frag} {mg : Str → Option Value} {base : Heap}
theorem ok_keep (T : Txt K mg) : FnOk P w K mg base CX0 1 (ga K "keep") T.fd_keep ["saying", "heights"] (sp_keep K) := by
  refine T.F_keep.ok sc_keep (fun vs H Q E h => ?_) (fun cdv A outer s H vs Q E hr h => ⟨t_keep K, PSs.nox ?_, pure_keep h⟩)
  · first | (obtain ⟨_, ⟨_, rfl, _⟩, _⟩ := h; rfl) | (obtain ⟨_, ⟨_, _, rfl, _⟩, _⟩ := h; rfl) | (obtain ⟨_, ⟨_, _, _, rfl, _⟩, _⟩ := h; rfl) | (obtain ⟨_, ⟨_, _, _, _, rfl, _⟩, _⟩ := h; rfl) | (obtain ⟨_, ⟨_, _, _, _, _, rfl, _⟩, _⟩ := h; rfl) | (obtain ⟨_, ⟨_, _, _, _, _, _, rfl, _⟩, _⟩ := h; rfl) | (obtain ⟨_, ⟨_, _, _, _, _, _, _, rfl, _⟩, _⟩ := h; rfl) | (obtain ⟨_, ⟨_, _, _, _, _, _, _, _, rfl, _⟩, _⟩ := h; rfl) | (obtain ⟨_, ⟨_, _, _, _, _, _, _, _, _, rfl, _⟩, _⟩ := h; rfl) | (obtain ⟨_, ⟨_, _, _, _, _, _, _, _, _, _, rfl, _⟩, _⟩ := h; rfl) | (obtain ⟨_, ⟨_, _, _, _, _, _, _, _, _, _, _, rfl, _⟩, _⟩ := h; rfl) | (obtain ⟨_, ⟨_, _, _, _, _, _, _, _, _, _, _, _, rfl, _⟩, _⟩ := h; rfl) | (obtain ⟨_, rfl, _⟩ := h; rfl) | (obtain ⟨_, _, rfl, _⟩ := h; rfl) | (obtain ⟨_, _, _, rfl, _⟩ := h; rfl) | (obtain ⟨_, _, _, _, rfl, _⟩ := h; rfl) | (obtain ⟨_, _, _, _, _, rfl, _⟩ := h; rfl) | (obtain ⟨_, _, _, _, _, _, rfl, _⟩ := h; rfl) | (obtain ⟨_, _, _, _, _, _, _, rfl, _⟩ := h; rfl) | (obtain ⟨_, _, _, _, _, _, _, _, rfl, _⟩ := h; rfl) | (obtain ⟨_, _, _, _, _, _, _, _, _, rfl, _⟩ := h; rfl) | (obtain ⟨_, _, _, _, _, _, _, _, _, _, rfl, _⟩ := h; rfl) | (obtain ⟨_, _, _, _, _, _, _, _, _, _, _, rfl, _⟩ := h; rfl) | (obtain ⟨_, _, _, _, _, _, _, _, _, _, _, _, rfl, _⟩ := h; rfl)
  · exact pss_one (ps_ret (pe_cmpR op_le (pe_op op_sub (pe_ix ix_list (pv 1) (pe_ix ix_tup (pv 0) (pe_int) (fun _ _ => rfl)) (fun _ _ => rfl)) (pe_ix ix_list (pv 1) (pe_ix ix_tup (pv 0) (pe_int) (fun _ _ => rfl)) (fun _ _ => rfl))) (pe_ix ix_tup (pv 0) (pe_int) (fun _ _ => rfl)) (nomark _)))
theorem ok_keep_all (T : Txt K mg) : FnOk P w K mg base CX0 2 (ga K "keep_all") T.fd_keep_all ["count", "sayings", "heights"] (sp_keep_all K) := by
  refine T.F_keep_all.ok sc_keep_all (fun vs H Q E h => ?_) (fun cdv A outer s H vs Q E hr h => ⟨t_keep_all K, PSs.nox ?_, pure_keep_all h⟩)
  · first | (obtain ⟨_, ⟨_, rfl, _⟩, _⟩ := h; rfl) | (obtain ⟨_, ⟨_, _, rfl, _⟩, _⟩ := h; rfl) | (obtain ⟨_, ⟨_, _, _, rfl, _⟩, _⟩ := h; rfl) | (obtain ⟨_, ⟨_, _, _, _, rfl, _⟩, _⟩ := h; rfl) | (obtain ⟨_, ⟨_, _, _, _, _, rfl, _⟩, _⟩ := h; rfl) | (obtain ⟨_, ⟨_, _, _, _, _, _, rfl, _⟩, _⟩ := h; rfl) | (obtain ⟨_, ⟨_, _, _, _, _, _, _, rfl, _⟩, _⟩ := h; rfl) | (obtain ⟨_, ⟨_, _, _, _, _, _, _, _, rfl, _⟩, _⟩ := h; rfl) | (obtain ⟨_, ⟨_, _, _, _, _, _, _, _, _, rfl, _⟩, _⟩ := h; rfl) | (obtain ⟨_, ⟨_, _, _, _, _, _, _, _, _, _, rfl, _⟩, _⟩ := h; rfl) | (obtain ⟨_, ⟨_, _, _, _, _, _, _, _, _, _, _, rfl, _⟩, _⟩ := h; rfl) | (obtain ⟨_, ⟨_, _, _, _, _, _, _, _, _, _, _, _, rfl, _⟩, _⟩ := h; rfl) | (obtain ⟨_, rfl, _⟩ := h; rfl) | (obtain ⟨_, _, rfl, _⟩ := h; rfl) | (obtain ⟨_, _, _, rfl, _⟩ := h; rfl) | (obtain ⟨_, _, _, _, rfl, _⟩ := h; rfl) | (obtain ⟨_, _, _, _, _, rfl, _⟩ := h; rfl) | (obtain ⟨_, _, _, _, _, _, rfl, _⟩ := h; rfl) | (obtain ⟨_, _, _, _, _, _, _, rfl, _⟩ := h; rfl) | (obtain ⟨_, _, _, _, _, _, _, _, rfl, _⟩ := h; rfl) | (obtain ⟨_, _, _, _, _, _, _, _, _, rfl, _⟩ := h; rfl) | (obtain ⟨_, _, _, _, _, _, _, _, _, _, rfl, _⟩ := h; rfl) | (obtain ⟨_, _, _, _, _, _, _, _, _, _, _, rfl, _⟩ := h; rfl) | (obtain ⟨_, _, _, _, _, _, _, _, _, _, _, _, rfl, _⟩ := h; rfl)
  · exact pss_one (ps_ret (pe_and (pe_cmpR op_eq (pe_callB call_len_seq (by rfl) T.n_len (by decide +kernel) (pa_cons (pv 2) (pa_nil))) (pv 0) (nomark _)) (pe_one (pe_callB (cr_all rfl) (by rfl) T.n_all (by decide +kernel) (pa_cons (pe_lc (own := [("saying", 3)]) (by rfl) sc_keep_all.nd (pi_list (pv 1)) (blkOk_by (own := [("saying", 3)]) (N := N_keep_all) (sc := defScope s_keep_all) (by decide +kernel)) (fun _ _ _ _ _ => pg_name (i := 3) sc_keep_all.nd rfl (Or.inl rfl)) (fun _ _ _ _ _ => pts_nil) (fun _ _ _ _ _ => pe_call (ok_keep T) (hr.mono (by decide)) (by rfl) T.g_keep T.F_keep.kp T.b_keep .nil pass0 (pa_cons (pv 3) (pa_cons (pv 2) (pa_nil))))) (pa_nil))))))
theorem ok_Heights_shows (T : Txt K mg) : FnOk P w K mg base CX0 3 (ma K (ga K "Heights") "shows") T.fd_Heights_shows ["self", "count", "sayings"] (sp_Heights_shows K) := by
  refine T.F_Heights_shows.ok sc_Heights_shows (fun vs H Q E h => ?_) (fun cdv A outer s H vs Q E hr h => ⟨t_Heights_shows K, PSs.nox ?_, pure_Heights_shows (T.aF .heights (by decide)) h⟩)
  · first | (obtain ⟨_, ⟨_, rfl, _⟩, _⟩ := h; rfl) | (obtain ⟨_, ⟨_, _, rfl, _⟩, _⟩ := h; rfl) | (obtain ⟨_, ⟨_, _, _, rfl, _⟩, _⟩ := h; rfl) | (obtain ⟨_, ⟨_, _, _, _, rfl, _⟩, _⟩ := h; rfl) | (obtain ⟨_, ⟨_, _, _, _, _, rfl, _⟩, _⟩ := h; rfl) | (obtain ⟨_, ⟨_, _, _, _, _, _, rfl, _⟩, _⟩ := h; rfl) | (obtain ⟨_, ⟨_, _, _, _, _, _, _, rfl, _⟩, _⟩ := h; rfl) | (obtain ⟨_, ⟨_, _, _, _, _, _, _, _, rfl, _⟩, _⟩ := h; rfl) | (obtain ⟨_, ⟨_, _, _, _, _, _, _, _, _, rfl, _⟩, _⟩ := h; rfl) | (obtain ⟨_, ⟨_, _, _, _, _, _, _, _, _, _, rfl, _⟩, _⟩ := h; rfl) | (obtain ⟨_, ⟨_, _, _, _, _, _, _, _, _, _, _, rfl, _⟩, _⟩ := h; rfl) | (obtain ⟨_, ⟨_, _, _, _, _, _, _, _, _, _, _, _, rfl, _⟩, _⟩ := h; rfl) | (obtain ⟨_, rfl, _⟩ := h; rfl) | (obtain ⟨_, _, rfl, _⟩ := h; rfl) | (obtain ⟨_, _, _, rfl, _⟩ := h; rfl) | (obtain ⟨_, _, _, _, rfl, _⟩ := h; rfl) | (obtain ⟨_, _, _, _, _, rfl, _⟩ := h; rfl) | (obtain ⟨_, _, _, _, _, _, rfl, _⟩ := h; rfl) | (obtain ⟨_, _, _, _, _, _, _, rfl, _⟩ := h; rfl) | (obtain ⟨_, _, _, _, _, _, _, _, rfl, _⟩ := h; rfl) | (obtain ⟨_, _, _, _, _, _, _, _, _, rfl, _⟩ := h; rfl) | (obtain ⟨_, _, _, _, _, _, _, _, _, _, rfl, _⟩ := h; rfl) | (obtain ⟨_, _, _, _, _, _, _, _, _, _, _, rfl, _⟩ := h; rfl) | (obtain ⟨_, _, _, _, _, _, _, _, _, _, _, _, rfl, _⟩ := h; rfl)
  · exact pss_one (ps_ret (pe_call (ok_keep_all T) (hr.mono (by decide)) (by rfl) T.g_keep_all T.F_keep_all.kp T.b_keep_all .nil pass0 (pa_cons (pv 1) (pa_cons (pv 2) (pa_cons (pe_fld (pv 0) rfl) (pa_nil))))))
theorem ok_sum_along (T : Txt K mg) : FnOk P w K mg base CX0 1 (ga K "sum_along") T.fd_sum_along ["sayings", "chain", "one", "other"] (sp_sum_along K) := by
  refine T.F_sum_along.ok sc_sum_along (fun vs H Q E h => ?_) (fun cdv A outer s H vs Q E hr h => ⟨t_sum_along K, PSs.nox ?_, pure_sum_along h⟩)
  · first | (obtain ⟨_, ⟨_, rfl, _⟩, _⟩ := h; rfl) | (obtain ⟨_, ⟨_, _, rfl, _⟩, _⟩ := h; rfl) | (obtain ⟨_, ⟨_, _, _, rfl, _⟩, _⟩ := h; rfl) | (obtain ⟨_, ⟨_, _, _, _, rfl, _⟩, _⟩ := h; rfl) | (obtain ⟨_, ⟨_, _, _, _, _, rfl, _⟩, _⟩ := h; rfl) | (obtain ⟨_, ⟨_, _, _, _, _, _, rfl, _⟩, _⟩ := h; rfl) | (obtain ⟨_, ⟨_, _, _, _, _, _, _, rfl, _⟩, _⟩ := h; rfl) | (obtain ⟨_, ⟨_, _, _, _, _, _, _, _, rfl, _⟩, _⟩ := h; rfl) | (obtain ⟨_, ⟨_, _, _, _, _, _, _, _, _, rfl, _⟩, _⟩ := h; rfl) | (obtain ⟨_, ⟨_, _, _, _, _, _, _, _, _, _, rfl, _⟩, _⟩ := h; rfl) | (obtain ⟨_, ⟨_, _, _, _, _, _, _, _, _, _, _, rfl, _⟩, _⟩ := h; rfl) | (obtain ⟨_, ⟨_, _, _, _, _, _, _, _, _, _, _, _, rfl, _⟩, _⟩ := h; rfl) | (obtain ⟨_, rfl, _⟩ := h; rfl) | (obtain ⟨_, _, rfl, _⟩ := h; rfl) | (obtain ⟨_, _, _, rfl, _⟩ := h; rfl) | (obtain ⟨_, _, _, _, rfl, _⟩ := h; rfl) | (obtain ⟨_, _, _, _, _, rfl, _⟩ := h; rfl) | (obtain ⟨_, _, _, _, _, _, rfl, _⟩ := h; rfl) | (obtain ⟨_, _, _, _, _, _, _, rfl, _⟩ := h; rfl) | (obtain ⟨_, _, _, _, _, _, _, _, rfl, _⟩ := h; rfl) | (obtain ⟨_, _, _, _, _, _, _, _, _, rfl, _⟩ := h; rfl) | (obtain ⟨_, _, _, _, _, _, _, _, _, _, rfl, _⟩ := h; rfl) | (obtain ⟨_, _, _, _, _, _, _, _, _, _, _, rfl, _⟩ := h; rfl) | (obtain ⟨_, _, _, _, _, _, _, _, _, _, _, _, rfl, _⟩ := h; rfl)
  · exact pss_cons (ps_set (i := 4) sc_sum_along.nd rfl (Or.inl rfl) (pe_int)) (pss_cons (ps_set (i := 5) sc_sum_along.nd rfl (Or.inl rfl) (pv 2)) (pss_cons (ps_for PassesOwn.never rfl (pi_list (pv 1)) (pg_name (i := 6) sc_sum_along.nd rfl (Or.inl rfl)) (pss_cons (ps_if (PW.pt (pw_or (pt_not (pt_chain op_le op_lt (pe_int) (pv 6) (pe_callB call_len_seq (by rfl) T.n_len (by decide +kernel) (pa_cons (pv 0) (pa_nil))))) (pw_or1 (pt_cmpR op_ne (pe_ix ix_tup (pe_ix ix_list (pv 0) (pv 6) (fun _ _ => rfl)) (pe_int) (fun _ _ => rfl)) (pv 5) (nomark _))))) (pss_one (ps_ret (pe_non))) (pss_nil)) (pss_cons (ps_set (i := 5) sc_sum_along.nd rfl (Or.inl rfl) (pe_ix ix_tup (pe_ix ix_list (pv 0) (pv 6) (fun _ _ => rfl)) (pe_int) (fun _ _ => rfl))) (pss_one (ps_set (i := 4) sc_sum_along.nd rfl (Or.inl rfl) (pe_op op_add (pv 4) (pe_ix ix_tup (pe_ix ix_list (pv 0) (pv 6) (fun _ _ => rfl)) (pe_int) (fun _ _ => rfl)))))))) (pss_cons (ps_if (pt_cmpR op_ne (pv 5) (pv 3) (nomark _)) (pss_one (ps_ret (pe_non))) (pss_nil)) (pss_one (ps_ret (pv 4))))))
theorem ok_Ring_shows (T : Txt K mg) : FnOk P w K mg base CX0 2 (ma K (ga K "Ring") "shows") T.fd_Ring_shows ["self", "count", "sayings"] (sp_Ring_shows K) := by
  refine T.F_Ring_shows.ok sc_Ring_shows (fun vs H Q E h => ?_) (fun cdv A outer s H vs Q E hr h => ⟨t_Ring_shows K, PSs.nox ?_, pure_Ring_shows (T.aF .ring (by decide)) h⟩)
  · first | (obtain ⟨_, ⟨_, rfl, _⟩, _⟩ := h; rfl) | (obtain ⟨_, ⟨_, _, rfl, _⟩, _⟩ := h; rfl) | (obtain ⟨_, ⟨_, _, _, rfl, _⟩, _⟩ := h; rfl) | (obtain ⟨_, ⟨_, _, _, _, rfl, _⟩, _⟩ := h; rfl) | (obtain ⟨_, ⟨_, _, _, _, _, rfl, _⟩, _⟩ := h; rfl) | (obtain ⟨_, ⟨_, _, _, _, _, _, rfl, _⟩, _⟩ := h; rfl) | (obtain ⟨_, ⟨_, _, _, _, _, _, _, rfl, _⟩, _⟩ := h; rfl) | (obtain ⟨_, ⟨_, _, _, _, _, _, _, _, rfl, _⟩, _⟩ := h; rfl) | (obtain ⟨_, ⟨_, _, _, _, _, _, _, _, _, rfl, _⟩, _⟩ := h; rfl) | (obtain ⟨_, ⟨_, _, _, _, _, _, _, _, _, _, rfl, _⟩, _⟩ := h; rfl) | (obtain ⟨_, ⟨_, _, _, _, _, _, _, _, _, _, _, rfl, _⟩, _⟩ := h; rfl) | (obtain ⟨_, ⟨_, _, _, _, _, _, _, _, _, _, _, _, rfl, _⟩, _⟩ := h; rfl) | (obtain ⟨_, rfl, _⟩ := h; rfl) | (obtain ⟨_, _, rfl, _⟩ := h; rfl) | (obtain ⟨_, _, _, rfl, _⟩ := h; rfl) | (obtain ⟨_, _, _, _, rfl, _⟩ := h; rfl) | (obtain ⟨_, _, _, _, _, rfl, _⟩ := h; rfl) | (obtain ⟨_, _, _, _, _, _, rfl, _⟩ := h; rfl) | (obtain ⟨_, _, _, _, _, _, _, rfl, _⟩ := h; rfl) | (obtain ⟨_, _, _, _, _, _, _, _, rfl, _⟩ := h; rfl) | (obtain ⟨_, _, _, _, _, _, _, _, _, rfl, _⟩ := h; rfl) | (obtain ⟨_, _, _, _, _, _, _, _, _, _, rfl, _⟩ := h; rfl) | (obtain ⟨_, _, _, _, _, _, _, _, _, _, _, rfl, _⟩ := h; rfl) | (obtain ⟨_, _, _, _, _, _, _, _, _, _, _, _, rfl, _⟩ := h; rfl)
  · exact pss_cons (ps_if (PW.pt (pw_or (pt_cmpR (op_eqD hr.units) (pe_fld (pv 0) rfl) (pe_lst (pa_nil)) (nomark _)) (pw_or1 (pt_not (pt_chain op_le op_lt (pe_int) (pe_ix ix_list (pe_fld (pv 0) rfl) (pe_int) (fun _ _ => rfl)) (pe_callB call_len_seq (by rfl) T.n_len (by decide +kernel) (pa_cons (pv 2) (pa_nil)))))))) (pss_one (ps_ret (pe_bl))) (pss_nil)) (pss_cons (ps_set (i := 3) sc_Ring_shows.nd rfl (Or.inl rfl) (pe_ix ix_tup (pe_ix ix_list (pv 2) (pe_ix ix_list (pe_fld (pv 0) rfl) (pe_int) (fun _ _ => rfl)) (fun _ _ => rfl)) (pe_int) (fun _ _ => rfl))) (pss_cons (ps_set (i := 4) sc_Ring_shows.nd rfl (Or.inl rfl) (pe_call (ok_sum_along T) (hr.mono (by decide)) (by rfl) T.g_sum_along T.F_sum_along.kp T.b_sum_along .nil pass0 (pa_cons (pv 2) (pa_cons (pe_fld (pv 0) rfl) (pa_cons (pv 3) (pa_cons (pv 3) (pa_nil))))))) (pss_one (ps_ret (pe_and (pe_cmpR op_notN (pv 4) (pe_non) (nomark _)) (pe_one (pe_cmpR op_lt (pv 4) (pe_int) (nomark _))))))))
theorem ok__law_kept (T : Txt K mg) : FnOk P w K mg base CX0 1 (ga K "_law_kept") T.fd__law_kept ["_law_count", "_law_sayings_here", "_law_row"] (sp__law_kept K) := by
  refine T.F__law_kept.ok sc__law_kept (fun vs H Q E h => ?_) (fun cdv A outer s H vs Q E hr h => ⟨t__law_kept K, PSs.nox ?_, pure__law_kept h⟩)
  · first | (obtain ⟨_, ⟨_, rfl, _⟩, _⟩ := h; rfl) | (obtain ⟨_, ⟨_, _, rfl, _⟩, _⟩ := h; rfl) | (obtain ⟨_, ⟨_, _, _, rfl, _⟩, _⟩ := h; rfl) | (obtain ⟨_, ⟨_, _, _, _, rfl, _⟩, _⟩ := h; rfl) | (obtain ⟨_, ⟨_, _, _, _, _, rfl, _⟩, _⟩ := h; rfl) | (obtain ⟨_, ⟨_, _, _, _, _, _, rfl, _⟩, _⟩ := h; rfl) | (obtain ⟨_, ⟨_, _, _, _, _, _, _, rfl, _⟩, _⟩ := h; rfl) | (obtain ⟨_, ⟨_, _, _, _, _, _, _, _, rfl, _⟩, _⟩ := h; rfl) | (obtain ⟨_, ⟨_, _, _, _, _, _, _, _, _, rfl, _⟩, _⟩ := h; rfl) | (obtain ⟨_, ⟨_, _, _, _, _, _, _, _, _, _, rfl, _⟩, _⟩ := h; rfl) | (obtain ⟨_, ⟨_, _, _, _, _, _, _, _, _, _, _, rfl, _⟩, _⟩ := h; rfl) | (obtain ⟨_, ⟨_, _, _, _, _, _, _, _, _, _, _, _, rfl, _⟩, _⟩ := h; rfl) | (obtain ⟨_, rfl, _⟩ := h; rfl) | (obtain ⟨_, _, rfl, _⟩ := h; rfl) | (obtain ⟨_, _, _, rfl, _⟩ := h; rfl) | (obtain ⟨_, _, _, _, rfl, _⟩ := h; rfl) | (obtain ⟨_, _, _, _, _, rfl, _⟩ := h; rfl) | (obtain ⟨_, _, _, _, _, _, rfl, _⟩ := h; rfl) | (obtain ⟨_, _, _, _, _, _, _, rfl, _⟩ := h; rfl) | (obtain ⟨_, _, _, _, _, _, _, _, rfl, _⟩ := h; rfl) | (obtain ⟨_, _, _, _, _, _, _, _, _, rfl, _⟩ := h; rfl) | (obtain ⟨_, _, _, _, _, _, _, _, _, _, rfl, _⟩ := h; rfl) | (obtain ⟨_, _, _, _, _, _, _, _, _, _, _, rfl, _⟩ := h; rfl) | (obtain ⟨_, _, _, _, _, _, _, _, _, _, _, _, rfl, _⟩ := h; rfl)
  · exact pss_cons (ps_if (PW.pt (pw_or (pt_cmpR op_ne (pe_callB call_len_seq (by rfl) T.n_len (by decide +kernel) (pa_cons (pv 2) (pa_nil))) (pv 0) (nomark _)) (pw_or1 (pt_val (pe_callB (cr_any rfl) (by rfl) T.n_any (by decide +kernel) (pa_cons (pe_lc (own := [("_law_one", 3)]) (by rfl) sc__law_kept.nd (pi_list (pv 2)) (blkOk_by (own := [("_law_one", 3)]) (N := N__law_kept) (sc := defScope s__law_kept) (by decide +kernel)) (fun _ _ _ _ _ => pg_name (i := 3) sc__law_kept.nd rfl (Or.inl rfl)) (fun _ _ _ _ _ => pts_nil) (fun _ _ _ _ _ => pe_or (pe_callB call_isi (by rfl) T.n_isinstance (by decide +kernel) (pa_cons (pv 3) (pa_cons ((pe_bltn (v := .ty "bool") (by rfl) T.n_bool (by decide +kernel) rfl)) (pa_nil)))) (pe_one (pe_not (pe_callB call_isi (by rfl) T.n_isinstance (by decide +kernel) (pa_cons (pv 3) (pa_cons ((pe_bltn (v := .ty "int") (by rfl) T.n_int (by decide +kernel) rfl)) (pa_nil)))))))) (pa_nil))))))) (pss_one (ps_ret (pe_bl))) (pss_nil)) (pss_one (ps_ret (pe_callB (cr_all rfl) (by rfl) T.n_all (by decide +kernel) (pa_cons (pe_lc (own := [("_law_lower", 4), ("_law_upper", 5), ("_law_number", 6)]) (by rfl) sc__law_kept.nd (pi_list (pv 1)) (blkOk_by (own := [("_law_lower", 4), ("_law_upper", 5), ("_law_number", 6)]) (N := N__law_kept) (sc := defScope s__law_kept) (by decide +kernel)) (fun _ _ _ _ _ => pg_tup (by rfl) (pgs_cons (pg_name (i := 4) sc__law_kept.nd rfl (Or.inl rfl)) (pgs_cons (pg_name (i := 5) sc__law_kept.nd rfl (Or.inl rfl)) (pgs_cons (pg_name (i := 6) sc__law_kept.nd rfl (Or.inl rfl)) (pgs_nil))))) (fun _ _ _ _ _ => pts_nil) (fun _ _ _ _ _ => pe_cmpR op_le (pe_ix ix_list (pv 2) (pv 5) (fun _ _ => rfl)) (pe_op op_add (pe_ix ix_list (pv 2) (pv 4) (fun _ _ => rfl)) (pv 6)) (nomark _))) (pa_nil)))))
theorem ok__law_sum (T : Txt K mg) : FnOk P w K mg base CX0 1 (ga K "_law_sum") T.fd__law_sum ["_law_sayings_here", "_law_chain", "_law_one", "_law_other"] (sp__law_sum K) := by
  refine T.F__law_sum.ok sc__law_sum (fun vs H Q E h => ?_) (fun cdv A outer s H vs Q E hr h => ⟨t__law_sum K, PSs.nox ?_, pure__law_sum rfl h⟩)
  · first | (obtain ⟨_, ⟨_, rfl, _⟩, _⟩ := h; rfl) | (obtain ⟨_, ⟨_, _, rfl, _⟩, _⟩ := h; rfl) | (obtain ⟨_, ⟨_, _, _, rfl, _⟩, _⟩ := h; rfl) | (obtain ⟨_, ⟨_, _, _, _, rfl, _⟩, _⟩ := h; rfl) | (obtain ⟨_, ⟨_, _, _, _, _, rfl, _⟩, _⟩ := h; rfl) | (obtain ⟨_, ⟨_, _, _, _, _, _, rfl, _⟩, _⟩ := h; rfl) | (obtain ⟨_, ⟨_, _, _, _, _, _, _, rfl, _⟩, _⟩ := h; rfl) | (obtain ⟨_, ⟨_, _, _, _, _, _, _, _, rfl, _⟩, _⟩ := h; rfl) | (obtain ⟨_, ⟨_, _, _, _, _, _, _, _, _, rfl, _⟩, _⟩ := h; rfl) | (obtain ⟨_, ⟨_, _, _, _, _, _, _, _, _, _, rfl, _⟩, _⟩ := h; rfl) | (obtain ⟨_, ⟨_, _, _, _, _, _, _, _, _, _, _, rfl, _⟩, _⟩ := h; rfl) | (obtain ⟨_, ⟨_, _, _, _, _, _, _, _, _, _, _, _, rfl, _⟩, _⟩ := h; rfl) | (obtain ⟨_, rfl, _⟩ := h; rfl) | (obtain ⟨_, _, rfl, _⟩ := h; rfl) | (obtain ⟨_, _, _, rfl, _⟩ := h; rfl) | (obtain ⟨_, _, _, _, rfl, _⟩ := h; rfl) | (obtain ⟨_, _, _, _, _, rfl, _⟩ := h; rfl) | (obtain ⟨_, _, _, _, _, _, rfl, _⟩ := h; rfl) | (obtain ⟨_, _, _, _, _, _, _, rfl, _⟩ := h; rfl) | (obtain ⟨_, _, _, _, _, _, _, _, rfl, _⟩ := h; rfl) | (obtain ⟨_, _, _, _, _, _, _, _, _, rfl, _⟩ := h; rfl) | (obtain ⟨_, _, _, _, _, _, _, _, _, _, rfl, _⟩ := h; rfl) | (obtain ⟨_, _, _, _, _, _, _, _, _, _, _, rfl, _⟩ := h; rfl) | (obtain ⟨_, _, _, _, _, _, _, _, _, _, _, _, rfl, _⟩ := h; rfl)
  · exact pss_cons (ps_par (i := 4) (j := 5) (by rfl) sc__law_sum.nd rfl rfl (by decide) rfl rfl (pa_cons (pe_int) (pa_cons (pv 2) (pa_nil))) (by rfl)) (pss_cons (ps_for PassesOwn.never rfl (pi_list (pv 1)) (pg_name (i := 6) sc__law_sum.nd rfl (Or.inl rfl)) (pss_cons (ps_if (PW.pt (pw_or (pt_val (pe_callB call_isi (by rfl) T.n_isinstance (by decide +kernel) (pa_cons (pv 6) (pa_cons ((pe_bltn (v := .ty "bool") (by rfl) T.n_bool (by decide +kernel) rfl)) (pa_nil))))) (pw_or (pt_not (pt_val (pe_callB call_isi (by rfl) T.n_isinstance (by decide +kernel) (pa_cons (pv 6) (pa_cons ((pe_bltn (v := .ty "int") (by rfl) T.n_int (by decide +kernel) rfl)) (pa_nil)))))) (pw_or1 (pt_not (pt_chain op_le op_lt (pe_int) (pv 6) (pe_callB call_len_seq (by rfl) T.n_len (by decide +kernel) (pa_cons (pv 0) (pa_nil))))))))) (pss_one (ps_ret (pe_non))) (pss_nil)) (pss_cons (ps_asg (pe_ix ix_list (pv 0) (pv 6) (fun _ _ => rfl)) (pg_tup (by rfl) (pgs_cons (pg_name (i := 7) sc__law_sum.nd rfl (Or.inl rfl)) (pgs_cons (pg_name (i := 8) sc__law_sum.nd rfl (Or.inl rfl)) (pgs_cons (pg_name (i := 9) sc__law_sum.nd rfl (Or.inl rfl)) (pgs_nil)))))) (pss_cons (ps_if (pt_cmpR op_ne (pv 7) (pv 5) (nomark _)) (pss_one (ps_ret (pe_non))) (pss_nil)) (pss_one (ps_par (i := 4) (j := 5) (by rfl) sc__law_sum.nd rfl rfl (by decide) rfl rfl (pa_cons (pe_op op_add (pv 4) (pv 9)) (pa_cons (pv 8) (pa_nil))) (by rfl))))))) (pss_one (ps_ret (pe_ifExp (pt_cmpR op_eq (pv 5) (pv 3) (nomark _)) (pv 4) (pe_non)))))
theorem ok__law_ring (T : Txt K mg) : FnOk P w K mg base CX0 2 (ga K "_law_ring") T.fd__law_ring ["_law_sayings_here", "_law_chain"] (sp__law_ring K) := by
  refine T.F__law_ring.ok sc__law_ring (fun vs H Q E h => ?_) (fun cdv A outer s H vs Q E hr h => ⟨t__law_ring K, PSs.nox ?_, pure__law_ring h⟩)
  · first | (obtain ⟨_, ⟨_, rfl, _⟩, _⟩ := h; rfl) | (obtain ⟨_, ⟨_, _, rfl, _⟩, _⟩ := h; rfl) | (obtain ⟨_, ⟨_, _, _, rfl, _⟩, _⟩ := h; rfl) | (obtain ⟨_, ⟨_, _, _, _, rfl, _⟩, _⟩ := h; rfl) | (obtain ⟨_, ⟨_, _, _, _, _, rfl, _⟩, _⟩ := h; rfl) | (obtain ⟨_, ⟨_, _, _, _, _, _, rfl, _⟩, _⟩ := h; rfl) | (obtain ⟨_, ⟨_, _, _, _, _, _, _, rfl, _⟩, _⟩ := h; rfl) | (obtain ⟨_, ⟨_, _, _, _, _, _, _, _, rfl, _⟩, _⟩ := h; rfl) | (obtain ⟨_, ⟨_, _, _, _, _, _, _, _, _, rfl, _⟩, _⟩ := h; rfl) | (obtain ⟨_, ⟨_, _, _, _, _, _, _, _, _, _, rfl, _⟩, _⟩ := h; rfl) | (obtain ⟨_, ⟨_, _, _, _, _, _, _, _, _, _, _, rfl, _⟩, _⟩ := h; rfl) | (obtain ⟨_, ⟨_, _, _, _, _, _, _, _, _, _, _, _, rfl, _⟩, _⟩ := h; rfl) | (obtain ⟨_, rfl, _⟩ := h; rfl) | (obtain ⟨_, _, rfl, _⟩ := h; rfl) | (obtain ⟨_, _, _, rfl, _⟩ := h; rfl) | (obtain ⟨_, _, _, _, rfl, _⟩ := h; rfl) | (obtain ⟨_, _, _, _, _, rfl, _⟩ := h; rfl) | (obtain ⟨_, _, _, _, _, _, rfl, _⟩ := h; rfl) | (obtain ⟨_, _, _, _, _, _, _, rfl, _⟩ := h; rfl) | (obtain ⟨_, _, _, _, _, _, _, _, rfl, _⟩ := h; rfl) | (obtain ⟨_, _, _, _, _, _, _, _, _, rfl, _⟩ := h; rfl) | (obtain ⟨_, _, _, _, _, _, _, _, _, _, rfl, _⟩ := h; rfl) | (obtain ⟨_, _, _, _, _, _, _, _, _, _, _, rfl, _⟩ := h; rfl) | (obtain ⟨_, _, _, _, _, _, _, _, _, _, _, _, rfl, _⟩ := h; rfl)
  · exact pss_cons (ps_if (PW.pt (pw_or (pt_not (pt_val (pe_callB call_isi (by rfl) T.n_isinstance (by decide +kernel) (pa_cons (pv 1) (pa_cons ((pe_bltn (v := .ty "list") (by rfl) T.n_list (by decide +kernel) rfl)) (pa_nil)))))) (pw_or (pt_cmpR (op_eqD hr.units) (pv 1) (pe_lst (pa_nil)) (nomark _)) (pw_or1 (pt_not (pt_cmpR op_in_rng (pe_ix ix_list (pv 1) (pe_int) (fun _ _ => rfl)) (pe_callTy cr_range1 (by rfl) T.n_range (by decide +kernel) (pa_cons (pe_callB call_len_seq (by rfl) T.n_len (by decide +kernel) (pa_cons (pv 0) (pa_nil))) pa_nil)) (by rfl))))))) (pss_one (ps_ret (pe_bl))) (pss_nil)) (pss_cons (ps_set (i := 2) sc__law_ring.nd rfl (Or.inl rfl) (pe_call (ok__law_sum T) (hr.mono (by decide)) (by rfl) T.g__law_sum T.F__law_sum.kp T.b__law_sum .nil pass0 (pa_cons (pv 0) (pa_cons (pv 1) (pa_cons (pe_ix ix_tup (pe_ix ix_list (pv 0) (pe_ix ix_list (pv 1) (pe_int) (fun _ _ => rfl)) (fun _ _ => rfl)) (pe_int) (fun _ _ => rfl)) (pa_cons (pe_ix ix_tup (pe_ix ix_list (pv 0) (pe_ix ix_list (pv 1) (pe_int) (fun _ _ => rfl)) (fun _ _ => rfl)) (pe_int) (fun _ _ => rfl)) (pa_nil))))))) (pss_one (ps_ret (pe_and (pe_cmpR op_notN (pv 2) (pe_non) (nomark _)) (pe_one (pe_cmpR op_lt (pv 2) (pe_int) (nomark _)))))))
theorem ok__law_due (T : Txt K mg) : FnOk P w K mg base CX0 3 (ga K "_law_due") T.fd__law_due ["_law_count", "_law_sayings_here", "_law_found"] (sp__law_due K) := by
  refine T.F__law_due.ok sc__law_due (fun vs H Q E h => ?_) (fun cdv A outer s H vs Q E hr h => ⟨t__law_due K, PSs.nox ?_, pure__law_due T.aF h⟩)
  · first | (obtain ⟨_, ⟨_, rfl, _⟩, _⟩ := h; rfl) | (obtain ⟨_, ⟨_, _, rfl, _⟩, _⟩ := h; rfl) | (obtain ⟨_, ⟨_, _, _, rfl, _⟩, _⟩ := h; rfl) | (obtain ⟨_, ⟨_, _, _, _, rfl, _⟩, _⟩ := h; rfl) | (obtain ⟨_, ⟨_, _, _, _, _, rfl, _⟩, _⟩ := h; rfl) | (obtain ⟨_, ⟨_, _, _, _, _, _, rfl, _⟩, _⟩ := h; rfl) | (obtain ⟨_, ⟨_, _, _, _, _, _, _, rfl, _⟩, _⟩ := h; rfl) | (obtain ⟨_, ⟨_, _, _, _, _, _, _, _, rfl, _⟩, _⟩ := h; rfl) | (obtain ⟨_, ⟨_, _, _, _, _, _, _, _, _, rfl, _⟩, _⟩ := h; rfl) | (obtain ⟨_, ⟨_, _, _, _, _, _, _, _, _, _, rfl, _⟩, _⟩ := h; rfl) | (obtain ⟨_, ⟨_, _, _, _, _, _, _, _, _, _, _, rfl, _⟩, _⟩ := h; rfl) | (obtain ⟨_, ⟨_, _, _, _, _, _, _, _, _, _, _, _, rfl, _⟩, _⟩ := h; rfl) | (obtain ⟨_, rfl, _⟩ := h; rfl) | (obtain ⟨_, _, rfl, _⟩ := h; rfl) | (obtain ⟨_, _, _, rfl, _⟩ := h; rfl) | (obtain ⟨_, _, _, _, rfl, _⟩ := h; rfl) | (obtain ⟨_, _, _, _, _, rfl, _⟩ := h; rfl) | (obtain ⟨_, _, _, _, _, _, rfl, _⟩ := h; rfl) | (obtain ⟨_, _, _, _, _, _, _, rfl, _⟩ := h; rfl) | (obtain ⟨_, _, _, _, _, _, _, _, rfl, _⟩ := h; rfl) | (obtain ⟨_, _, _, _, _, _, _, _, _, rfl, _⟩ := h; rfl) | (obtain ⟨_, _, _, _, _, _, _, _, _, _, rfl, _⟩ := h; rfl) | (obtain ⟨_, _, _, _, _, _, _, _, _, _, _, rfl, _⟩ := h; rfl) | (obtain ⟨_, _, _, _, _, _, _, _, _, _, _, _, rfl, _⟩ := h; rfl)
  · exact pss_cons (ps_if (pt_val (pe_callB call_isi (by rfl) T.n_isinstance (by decide +kernel) (pa_cons (pv 2) (pa_cons ((pe_glob (v := .ref (ga K "Ring")) (by rfl) T.g_Ring rfl)) (pa_nil))))) (pss_one (ps_ret (pe_call (ok__law_ring T) (hr.mono (by decide)) (by rfl) T.g__law_ring T.F__law_ring.kp T.b__law_ring .nil pass0 (pa_cons (pv 1) (pa_cons (pe_fld (pv 2) rfl) (pa_nil)))))) (pss_nil)) (pss_one (ps_ret (pe_call (ok__law_kept T) (hr.mono (by decide)) (by rfl) T.g__law_kept T.F__law_kept.kp T.b__law_kept .nil pass0 (pa_cons (pv 0) (pa_cons (pv 1) (pa_cons (pe_fld (pv 2) rfl) (pa_nil)))))))
theorem ok_Heights_init (T : Txt K mg) : FnOk P w K mg base CX0 1 (ma K (ga K "Heights") "__init__") T.fd_Heights_init ["self", "heights"] (sp_Heights_init K) := by
  refine T.F_Heights_init.ok sc_Heights_init (fun vs H Q E h => ?_) (fun cdv A outer s H vs Q E hr h => ⟨t_Heights_init K, PSs.nox ?_, pure_init1 (T.aF .heights (by decide)) (by decide) rfl h⟩)
  · first | (obtain ⟨_, ⟨_, rfl, _⟩, _⟩ := h; rfl) | (obtain ⟨_, ⟨_, _, rfl, _⟩, _⟩ := h; rfl) | (obtain ⟨_, ⟨_, _, _, rfl, _⟩, _⟩ := h; rfl) | (obtain ⟨_, ⟨_, _, _, _, rfl, _⟩, _⟩ := h; rfl) | (obtain ⟨_, ⟨_, _, _, _, _, rfl, _⟩, _⟩ := h; rfl) | (obtain ⟨_, ⟨_, _, _, _, _, _, rfl, _⟩, _⟩ := h; rfl) | (obtain ⟨_, ⟨_, _, _, _, _, _, _, rfl, _⟩, _⟩ := h; rfl) | (obtain ⟨_, ⟨_, _, _, _, _, _, _, _, rfl, _⟩, _⟩ := h; rfl) | (obtain ⟨_, ⟨_, _, _, _, _, _, _, _, _, rfl, _⟩, _⟩ := h; rfl) | (obtain ⟨_, ⟨_, _, _, _, _, _, _, _, _, _, rfl, _⟩, _⟩ := h; rfl) | (obtain ⟨_, ⟨_, _, _, _, _, _, _, _, _, _, _, rfl, _⟩, _⟩ := h; rfl) | (obtain ⟨_, ⟨_, _, _, _, _, _, _, _, _, _, _, _, rfl, _⟩, _⟩ := h; rfl) | (obtain ⟨_, rfl, _⟩ := h; rfl) | (obtain ⟨_, _, rfl, _⟩ := h; rfl) | (obtain ⟨_, _, _, rfl, _⟩ := h; rfl) | (obtain ⟨_, _, _, _, rfl, _⟩ := h; rfl) | (obtain ⟨_, _, _, _, _, rfl, _⟩ := h; rfl) | (obtain ⟨_, _, _, _, _, _, rfl, _⟩ := h; rfl) | (obtain ⟨_, _, _, _, _, _, _, rfl, _⟩ := h; rfl) | (obtain ⟨_, _, _, _, _, _, _, _, rfl, _⟩ := h; rfl) | (obtain ⟨_, _, _, _, _, _, _, _, _, rfl, _⟩ := h; rfl) | (obtain ⟨_, _, _, _, _, _, _, _, _, _, rfl, _⟩ := h; rfl) | (obtain ⟨_, _, _, _, _, _, _, _, _, _, _, rfl, _⟩ := h; rfl) | (obtain ⟨_, _, _, _, _, _, _, _, _, _, _, _, rfl, _⟩ := h; rfl)
  · exact pss_one (ps_fld (pv 0) (pe_callTy call_list_of (by rfl) T.n_list (by decide +kernel) (pa_cons (pv 1) (pa_nil))) rfl)
theorem ok_Ring_init (T : Txt K mg) : FnOk P w K mg base CX0 1 (ma K (ga K "Ring") "__init__") T.fd_Ring_init ["self", "chain"] (sp_Ring_init K) := by
  refine T.F_Ring_init.ok sc_Ring_init (fun vs H Q E h => ?_) (fun cdv A outer s H vs Q E hr h => ⟨t_Ring_init K, PSs.nox ?_, pure_init1 (T.aF .ring (by decide)) (by decide) rfl h⟩)
  · first | (obtain ⟨_, ⟨_, rfl, _⟩, _⟩ := h; rfl) | (obtain ⟨_, ⟨_, _, rfl, _⟩, _⟩ := h; rfl) | (obtain ⟨_, ⟨_, _, _, rfl, _⟩, _⟩ := h; rfl) | (obtain ⟨_, ⟨_, _, _, _, rfl, _⟩, _⟩ := h; rfl) | (obtain ⟨_, ⟨_, _, _, _, _, rfl, _⟩, _⟩ := h; rfl) | (obtain ⟨_, ⟨_, _, _, _, _, _, rfl, _⟩, _⟩ := h; rfl) | (obtain ⟨_, ⟨_, _, _, _, _, _, _, rfl, _⟩, _⟩ := h; rfl) | (obtain ⟨_, ⟨_, _, _, _, _, _, _, _, rfl, _⟩, _⟩ := h; rfl) | (obtain ⟨_, ⟨_, _, _, _, _, _, _, _, _, rfl, _⟩, _⟩ := h; rfl) | (obtain ⟨_, ⟨_, _, _, _, _, _, _, _, _, _, rfl, _⟩, _⟩ := h; rfl) | (obtain ⟨_, ⟨_, _, _, _, _, _, _, _, _, _, _, rfl, _⟩, _⟩ := h; rfl) | (obtain ⟨_, ⟨_, _, _, _, _, _, _, _, _, _, _, _, rfl, _⟩, _⟩ := h; rfl) | (obtain ⟨_, rfl, _⟩ := h; rfl) | (obtain ⟨_, _, rfl, _⟩ := h; rfl) | (obtain ⟨_, _, _, rfl, _⟩ := h; rfl) | (obtain ⟨_, _, _, _, rfl, _⟩ := h; rfl) | (obtain ⟨_, _, _, _, _, rfl, _⟩ := h; rfl) | (obtain ⟨_, _, _, _, _, _, rfl, _⟩ := h; rfl) | (obtain ⟨_, _, _, _, _, _, _, rfl, _⟩ := h; rfl) | (obtain ⟨_, _, _, _, _, _, _, _, rfl, _⟩ := h; rfl) | (obtain ⟨_, _, _, _, _, _, _, _, _, rfl, _⟩ := h; rfl) | (obtain ⟨_, _, _, _, _, _, _, _, _, _, rfl, _⟩ := h; rfl) | (obtain ⟨_, _, _, _, _, _, _, _, _, _, _, rfl, _⟩ := h; rfl) | (obtain ⟨_, _, _, _, _, _, _, _, _, _, _, _, rfl, _⟩ := h; rfl)
  · exact pss_one (ps_fld (pv 0) (pe_callTy call_list_of (by rfl) T.n_list (by decide +kernel) (pa_cons (pv 1) (pa_nil))) rfl)
theorem ok_is_number (T : Txt K mg) : FnOk P w K mg base CX0 1 (ga K "is_number") T.fd_is_number ["thing"] (sp_is_number K) := by
  refine T.F_is_number.ok sc_is_number (fun vs H Q E h => ?_) (fun cdv A outer s H vs Q E hr h => ⟨t_is_number K, PSs.nox ?_, pure_is_number h⟩)
  · first | (obtain ⟨_, ⟨_, rfl, _⟩, _⟩ := h; rfl) | (obtain ⟨_, ⟨_, _, rfl, _⟩, _⟩ := h; rfl) | (obtain ⟨_, ⟨_, _, _, rfl, _⟩, _⟩ := h; rfl) | (obtain ⟨_, ⟨_, _, _, _, rfl, _⟩, _⟩ := h; rfl) | (obtain ⟨_, ⟨_, _, _, _, _, rfl, _⟩, _⟩ := h; rfl) | (obtain ⟨_, ⟨_, _, _, _, _, _, rfl, _⟩, _⟩ := h; rfl) | (obtain ⟨_, ⟨_, _, _, _, _, _, _, rfl, _⟩, _⟩ := h; rfl) | (obtain ⟨_, ⟨_, _, _, _, _, _, _, _, rfl, _⟩, _⟩ := h; rfl) | (obtain ⟨_, ⟨_, _, _, _, _, _, _, _, _, rfl, _⟩, _⟩ := h; rfl) | (obtain ⟨_, ⟨_, _, _, _, _, _, _, _, _, _, rfl, _⟩, _⟩ := h; rfl) | (obtain ⟨_, ⟨_, _, _, _, _, _, _, _, _, _, _, rfl, _⟩, _⟩ := h; rfl) | (obtain ⟨_, ⟨_, _, _, _, _, _, _, _, _, _, _, _, rfl, _⟩, _⟩ := h; rfl) | (obtain ⟨_, rfl, _⟩ := h; rfl) | (obtain ⟨_, _, rfl, _⟩ := h; rfl) | (obtain ⟨_, _, _, rfl, _⟩ := h; rfl) | (obtain ⟨_, _, _, _, rfl, _⟩ := h; rfl) | (obtain ⟨_, _, _, _, _, rfl, _⟩ := h; rfl) | (obtain ⟨_, _, _, _, _, _, rfl, _⟩ := h; rfl) | (obtain ⟨_, _, _, _, _, _, _, rfl, _⟩ := h; rfl) | (obtain ⟨_, _, _, _, _, _, _, _, rfl, _⟩ := h; rfl) | (obtain ⟨_, _, _, _, _, _, _, _, _, rfl, _⟩ := h; rfl) | (obtain ⟨_, _, _, _, _, _, _, _, _, _, rfl, _⟩ := h; rfl) | (obtain ⟨_, _, _, _, _, _, _, _, _, _, _, rfl, _⟩ := h; rfl) | (obtain ⟨_, _, _, _, _, _, _, _, _, _, _, _, rfl, _⟩ := h; rfl)
  · exact pss_one (ps_ret (pe_and (pe_callB call_isi (by rfl) T.n_isinstance (by decide +kernel) (pa_cons (pv 0) (pa_cons ((pe_bltn (v := .ty "int") (by rfl) T.n_int (by decide +kernel) rfl)) (pa_nil)))) (pe_one (pe_not (pe_callB call_isi (by rfl) T.n_isinstance (by decide +kernel) (pa_cons (pv 0) (pa_cons ((pe_bltn (v := .ty "bool") (by rfl) T.n_bool (by decide +kernel) rfl)) (pa_nil))))))))
theorem ok_is_below (T : Txt K mg) : FnOk P w K mg base CX0 2 (ga K "is_below") T.fd_is_below ["thing", "count"] (sp_is_below K) := by
  refine T.F_is_below.ok sc_is_below (fun vs H Q E h => ?_) (fun cdv A outer s H vs Q E hr h => ⟨t_is_below K, PSs.nox ?_, pure_is_below h⟩)
  · first | (obtain ⟨_, ⟨_, rfl, _⟩, _⟩ := h; rfl) | (obtain ⟨_, ⟨_, _, rfl, _⟩, _⟩ := h; rfl) | (obtain ⟨_, ⟨_, _, _, rfl, _⟩, _⟩ := h; rfl) | (obtain ⟨_, ⟨_, _, _, _, rfl, _⟩, _⟩ := h; rfl) | (obtain ⟨_, ⟨_, _, _, _, _, rfl, _⟩, _⟩ := h; rfl) | (obtain ⟨_, ⟨_, _, _, _, _, _, rfl, _⟩, _⟩ := h; rfl) | (obtain ⟨_, ⟨_, _, _, _, _, _, _, rfl, _⟩, _⟩ := h; rfl) | (obtain ⟨_, ⟨_, _, _, _, _, _, _, _, rfl, _⟩, _⟩ := h; rfl) | (obtain ⟨_, ⟨_, _, _, _, _, _, _, _, _, rfl, _⟩, _⟩ := h; rfl) | (obtain ⟨_, ⟨_, _, _, _, _, _, _, _, _, _, rfl, _⟩, _⟩ := h; rfl) | (obtain ⟨_, ⟨_, _, _, _, _, _, _, _, _, _, _, rfl, _⟩, _⟩ := h; rfl) | (obtain ⟨_, ⟨_, _, _, _, _, _, _, _, _, _, _, _, rfl, _⟩, _⟩ := h; rfl) | (obtain ⟨_, rfl, _⟩ := h; rfl) | (obtain ⟨_, _, rfl, _⟩ := h; rfl) | (obtain ⟨_, _, _, rfl, _⟩ := h; rfl) | (obtain ⟨_, _, _, _, rfl, _⟩ := h; rfl) | (obtain ⟨_, _, _, _, _, rfl, _⟩ := h; rfl) | (obtain ⟨_, _, _, _, _, _, rfl, _⟩ := h; rfl) | (obtain ⟨_, _, _, _, _, _, _, rfl, _⟩ := h; rfl) | (obtain ⟨_, _, _, _, _, _, _, _, rfl, _⟩ := h; rfl) | (obtain ⟨_, _, _, _, _, _, _, _, _, rfl, _⟩ := h; rfl) | (obtain ⟨_, _, _, _, _, _, _, _, _, _, rfl, _⟩ := h; rfl) | (obtain ⟨_, _, _, _, _, _, _, _, _, _, _, rfl, _⟩ := h; rfl) | (obtain ⟨_, _, _, _, _, _, _, _, _, _, _, _, rfl, _⟩ := h; rfl)
  · exact pss_one (ps_ret (pe_and (pe_call (ok_is_number T) (hr.mono (by decide)) (by rfl) T.g_is_number T.F_is_number.kp T.b_is_number .nil pass0 (pa_cons (pv 0) (pa_nil))) (pe_one (pe_chain op_le op_lt (pe_int) (pv 0) (pv 1)))))
theorem ok_is_saying (T : Txt K mg) : FnOk P w K mg base CX0 3 (ga K "is_saying") T.fd_is_saying ["thing", "count"] (sp_is_saying K) := by
  refine T.F_is_saying.ok sc_is_saying (fun vs H Q E h => ?_) (fun cdv A outer s H vs Q E hr h => ⟨t_is_saying K, PSs.nox ?_, pure_is_saying h⟩)
  · first | (obtain ⟨_, ⟨_, rfl, _⟩, _⟩ := h; rfl) | (obtain ⟨_, ⟨_, _, rfl, _⟩, _⟩ := h; rfl) | (obtain ⟨_, ⟨_, _, _, rfl, _⟩, _⟩ := h; rfl) | (obtain ⟨_, ⟨_, _, _, _, rfl, _⟩, _⟩ := h; rfl) | (obtain ⟨_, ⟨_, _, _, _, _, rfl, _⟩, _⟩ := h; rfl) | (obtain ⟨_, ⟨_, _, _, _, _, _, rfl, _⟩, _⟩ := h; rfl) | (obtain ⟨_, ⟨_, _, _, _, _, _, _, rfl, _⟩, _⟩ := h; rfl) | (obtain ⟨_, ⟨_, _, _, _, _, _, _, _, rfl, _⟩, _⟩ := h; rfl) | (obtain ⟨_, ⟨_, _, _, _, _, _, _, _, _, rfl, _⟩, _⟩ := h; rfl) | (obtain ⟨_, ⟨_, _, _, _, _, _, _, _, _, _, rfl, _⟩, _⟩ := h; rfl) | (obtain ⟨_, ⟨_, _, _, _, _, _, _, _, _, _, _, rfl, _⟩, _⟩ := h; rfl) | (obtain ⟨_, ⟨_, _, _, _, _, _, _, _, _, _, _, _, rfl, _⟩, _⟩ := h; rfl) | (obtain ⟨_, rfl, _⟩ := h; rfl) | (obtain ⟨_, _, rfl, _⟩ := h; rfl) | (obtain ⟨_, _, _, rfl, _⟩ := h; rfl) | (obtain ⟨_, _, _, _, rfl, _⟩ := h; rfl) | (obtain ⟨_, _, _, _, _, rfl, _⟩ := h; rfl) | (obtain ⟨_, _, _, _, _, _, rfl, _⟩ := h; rfl) | (obtain ⟨_, _, _, _, _, _, _, rfl, _⟩ := h; rfl) | (obtain ⟨_, _, _, _, _, _, _, _, rfl, _⟩ := h; rfl) | (obtain ⟨_, _, _, _, _, _, _, _, _, rfl, _⟩ := h; rfl) | (obtain ⟨_, _, _, _, _, _, _, _, _, _, rfl, _⟩ := h; rfl) | (obtain ⟨_, _, _, _, _, _, _, _, _, _, _, rfl, _⟩ := h; rfl) | (obtain ⟨_, _, _, _, _, _, _, _, _, _, _, _, rfl, _⟩ := h; rfl)
  · exact pss_cons (ps_if (PW.pt (pw_or (pt_not (pt_val (pe_callB call_isi (by rfl) T.n_isinstance (by decide +kernel) (pa_cons (pv 0) (pa_cons ((pe_bltn (v := .ty "tuple") (by rfl) T.n_tuple (by decide +kernel) rfl)) (pa_nil)))))) (pw_or1 (pt_cmpR op_ne (pe_callB call_len_seq (by rfl) T.n_len (by decide +kernel) (pa_cons (pv 0) (pa_nil))) (pe_int) (nomark _))))) (pss_one (ps_ret (pe_bl))) (pss_nil)) (pss_one (ps_ret (pe_and (pe_call (ok_is_below T) (hr.mono (by decide)) (by rfl) T.g_is_below T.F_is_below.kp T.b_is_below .nil pass0 (pa_cons (pe_ix ix_tup (pv 0) (pe_int) (fun _ _ => rfl)) (pa_cons (pv 1) (pa_nil)))) (pe_and (pe_call (ok_is_below T) (hr.mono (by decide)) (by rfl) T.g_is_below T.F_is_below.kp T.b_is_below .nil pass0 (pa_cons (pe_ix ix_tup (pv 0) (pe_int) (fun _ _ => rfl)) (pa_cons (pv 1) (pa_nil)))) (pe_one (pe_call (ok_is_number T) (hr.mono (by decide)) (by rfl) T.g_is_number T.F_is_number.kp T.b_is_number .nil pass0 (pa_cons (pe_ix ix_tup (pv 0) (pe_int) (fun _ _ => rfl)) (pa_nil))))))))
theorem ok_check_sayings (T : Txt K mg) : FnOk P w K mg base CX0 4 (ga K "check_sayings") T.fd_check_sayings ["count", "sayings"] (sp_check_sayings K) := by
  refine T.F_check_sayings.ok sc_check_sayings (fun vs H Q E h => ?_) (fun cdv A outer s H vs Q E hr h => ⟨t_check_sayings K, PSs.nox ?_, pure_check_sayings h⟩)
  · first | (obtain ⟨_, ⟨_, rfl, _⟩, _⟩ := h; rfl) | (obtain ⟨_, ⟨_, _, rfl, _⟩, _⟩ := h; rfl) | (obtain ⟨_, ⟨_, _, _, rfl, _⟩, _⟩ := h; rfl) | (obtain ⟨_, ⟨_, _, _, _, rfl, _⟩, _⟩ := h; rfl) | (obtain ⟨_, ⟨_, _, _, _, _, rfl, _⟩, _⟩ := h; rfl) | (obtain ⟨_, ⟨_, _, _, _, _, _, rfl, _⟩, _⟩ := h; rfl) | (obtain ⟨_, ⟨_, _, _, _, _, _, _, rfl, _⟩, _⟩ := h; rfl) | (obtain ⟨_, ⟨_, _, _, _, _, _, _, _, rfl, _⟩, _⟩ := h; rfl) | (obtain ⟨_, ⟨_, _, _, _, _, _, _, _, _, rfl, _⟩, _⟩ := h; rfl) | (obtain ⟨_, ⟨_, _, _, _, _, _, _, _, _, _, rfl, _⟩, _⟩ := h; rfl) | (obtain ⟨_, ⟨_, _, _, _, _, _, _, _, _, _, _, rfl, _⟩, _⟩ := h; rfl) | (obtain ⟨_, ⟨_, _, _, _, _, _, _, _, _, _, _, _, rfl, _⟩, _⟩ := h; rfl) | (obtain ⟨_, rfl, _⟩ := h; rfl) | (obtain ⟨_, _, rfl, _⟩ := h; rfl) | (obtain ⟨_, _, _, rfl, _⟩ := h; rfl) | (obtain ⟨_, _, _, _, rfl, _⟩ := h; rfl) | (obtain ⟨_, _, _, _, _, rfl, _⟩ := h; rfl) | (obtain ⟨_, _, _, _, _, _, rfl, _⟩ := h; rfl) | (obtain ⟨_, _, _, _, _, _, _, rfl, _⟩ := h; rfl) | (obtain ⟨_, _, _, _, _, _, _, _, rfl, _⟩ := h; rfl) | (obtain ⟨_, _, _, _, _, _, _, _, _, rfl, _⟩ := h; rfl) | (obtain ⟨_, _, _, _, _, _, _, _, _, _, rfl, _⟩ := h; rfl) | (obtain ⟨_, _, _, _, _, _, _, _, _, _, _, rfl, _⟩ := h; rfl) | (obtain ⟨_, _, _, _, _, _, _, _, _, _, _, _, rfl, _⟩ := h; rfl)
  · exact pss_cons (ps_if (PW.pt (pw_or (pt_not (pt_val (pe_call (ok_is_number T) (hr.mono (by decide)) (by rfl) T.g_is_number T.F_is_number.kp T.b_is_number .nil pass0 (pa_cons (pv 0) (pa_nil))))) (pw_or1 (pt_cmpR op_lt (pv 0) (pe_int) (nomark _))))) (pss_one (ps_never)) (pss_nil)) (pss_one (ps_if (PW.pt (pw_or (pt_not (pt_val (pe_callB call_isi (by rfl) T.n_isinstance (by decide +kernel) (pa_cons (pv 1) (pa_cons ((pe_bltn (v := .ty "list") (by rfl) T.n_list (by decide +kernel) rfl)) (pa_nil)))))) (pw_or1 (pt_not (pt_val (pe_callB (cr_all rfl) (by rfl) T.n_all (by decide +kernel) (pa_cons (pe_lc (own := [("saying", 2)]) (by rfl) sc_check_sayings.nd (pi_list (pv 1)) (blkOk_by (own := [("saying", 2)]) (N := N_check_sayings) (sc := defScope s_check_sayings) (by decide +kernel)) (fun _ _ _ _ _ => pg_name (i := 2) sc_check_sayings.nd rfl (Or.inl rfl)) (fun _ _ _ _ _ => pts_nil) (fun _ _ _ _ _ => pe_call (ok_is_saying T) (hr.mono (by decide)) (by rfl) T.g_is_saying T.F_is_saying.kp T.b_is_saying .nil pass0 (pa_cons (pv 2) (pa_cons (pv 0) (pa_nil))))) (pa_nil)))))))) (pss_one (ps_never)) (pss_nil)))
theorem ok_lessened (T : Txt K mg) : FnOk P w K mg base CX0 1 (ga K "lessened") T.fd_lessened ["sayings", "sums", "last"] (sp_lessened K) := by
  refine T.F_lessened.ok sc_lessened (fun vs H Q E h => ?_) (fun cdv A outer s H vs Q E hr h => ⟨t_lessened K, PSs.nox ?_, pure_lessened h⟩)
  · first | (obtain ⟨_, ⟨_, rfl, _⟩, _⟩ := h; rfl) | (obtain ⟨_, ⟨_, _, rfl, _⟩, _⟩ := h; rfl) | (obtain ⟨_, ⟨_, _, _, rfl, _⟩, _⟩ := h; rfl) | (obtain ⟨_, ⟨_, _, _, _, rfl, _⟩, _⟩ := h; rfl) | (obtain ⟨_, ⟨_, _, _, _, _, rfl, _⟩, _⟩ := h; rfl) | (obtain ⟨_, ⟨_, _, _, _, _, _, rfl, _⟩, _⟩ := h; rfl) | (obtain ⟨_, ⟨_, _, _, _, _, _, _, rfl, _⟩, _⟩ := h; rfl) | (obtain ⟨_, ⟨_, _, _, _, _, _, _, _, rfl, _⟩, _⟩ := h; rfl) | (obtain ⟨_, ⟨_, _, _, _, _, _, _, _, _, rfl, _⟩, _⟩ := h; rfl) | (obtain ⟨_, ⟨_, _, _, _, _, _, _, _, _, _, rfl, _⟩, _⟩ := h; rfl) | (obtain ⟨_, ⟨_, _, _, _, _, _, _, _, _, _, _, rfl, _⟩, _⟩ := h; rfl) | (obtain ⟨_, ⟨_, _, _, _, _, _, _, _, _, _, _, _, rfl, _⟩, _⟩ := h; rfl) | (obtain ⟨_, rfl, _⟩ := h; rfl) | (obtain ⟨_, _, rfl, _⟩ := h; rfl) | (obtain ⟨_, _, _, rfl, _⟩ := h; rfl) | (obtain ⟨_, _, _, _, rfl, _⟩ := h; rfl) | (obtain ⟨_, _, _, _, _, rfl, _⟩ := h; rfl) | (obtain ⟨_, _, _, _, _, _, rfl, _⟩ := h; rfl) | (obtain ⟨_, _, _, _, _, _, _, rfl, _⟩ := h; rfl) | (obtain ⟨_, _, _, _, _, _, _, _, rfl, _⟩ := h; rfl) | (obtain ⟨_, _, _, _, _, _, _, _, _, rfl, _⟩ := h; rfl) | (obtain ⟨_, _, _, _, _, _, _, _, _, _, rfl, _⟩ := h; rfl) | (obtain ⟨_, _, _, _, _, _, _, _, _, _, _, rfl, _⟩ := h; rfl) | (obtain ⟨_, _, _, _, _, _, _, _, _, _, _, _, rfl, _⟩ := h; rfl)
  · exact pss_cons (ps_for PassesOwn.never rfl (pi_range1 (by rfl) T.n_range (pa_cons (pe_op op_add (pe_callB call_len_seq (by rfl) T.n_len (by decide +kernel) (pa_cons (pv 1) (pa_nil))) (pe_int)) (pa_nil))) (pg_name (i := 3) sc_lessened.nd rfl (Or.inl rfl)) (pss_cons (ps_set (i := 4) sc_lessened.nd rfl (Or.inl rfl) (pe_un un_neg (pe_int))) (pss_cons (ps_for PassesOwn.never rfl (pi_enum (by rfl) T.n_enumerate (pa_cons (pv 0) (pa_nil))) (pg_tup (by rfl) (pgs_cons (pg_name (i := 5) sc_lessened.nd rfl (Or.inl rfl)) (pgs_cons (pg_name (i := 6) sc_lessened.nd rfl (Or.inl rfl)) (pgs_nil)))) (pss_cons (ps_asg (pv 6) (pg_tup (by rfl) (pgs_cons (pg_name (i := 7) sc_lessened.nd rfl (Or.inl rfl)) (pgs_cons (pg_name (i := 8) sc_lessened.nd rfl (Or.inl rfl)) (pgs_cons (pg_name (i := 9) sc_lessened.nd rfl (Or.inl rfl)) (pgs_nil)))))) (pss_one (ps_if (PW.pt (pw_and (pt_cmpR op_notN (pe_ix ix_list (pv 1) (pv 7) (fun _ _ => rfl)) (pe_non) (nomark _)) (pw_and1 (PW.pt (pw_or (pt_cmpR op_isN (pe_ix ix_list (pv 1) (pv 8) (fun _ _ => rfl)) (pe_non) (nomark _)) (pw_or1 (pt_cmpR op_gt (pe_ix ix_list (pv 1) (pv 8) (fun _ _ => rfl)) (pe_op op_add (pe_ix ix_list (pv 1) (pv 7) (fun _ _ => rfl)) (pv 9)) (nomark _)))))))) (pss_cons (ps_asg (pe_op op_add (pe_ix ix_list (pv 1) (pv 7) (fun _ _ => rfl)) (pv 9)) (pg_sub (pv 1) (pv 8) set_list)) (pss_cons (ps_asg (pv 5) (pg_sub (pv 2) (pv 8) set_list)) (pss_one (ps_set (i := 4) sc_lessened.nd rfl (Or.inl rfl) (pv 8))))) (pss_nil))))) (pss_one (ps_if (pt_cmpR op_lt (pv 4) (pe_int) (nomark _)) (pss_one (ps_ret (pe_un un_neg (pe_int)))) (pss_nil)))))) (pss_one (ps_ret (pv 4)))
theorem ok_ring_behind (T : Txt K mg) : FnOk P w K mg base CX0 1 (ga K "ring_behind") T.fd_ring_behind ["sayings", "last", "place"] (sp_ring_behind K) := by
  refine T.F_ring_behind.ok sc_ring_behind (fun vs H Q E h => ?_) (fun cdv A outer s H vs Q E hr h => ⟨t_ring_behind K, PSs.nox ?_, pure_ring_behind h⟩)
  · first | (obtain ⟨_, ⟨_, rfl, _⟩, _⟩ := h; rfl) | (obtain ⟨_, ⟨_, _, rfl, _⟩, _⟩ := h; rfl) | (obtain ⟨_, ⟨_, _, _, rfl, _⟩, _⟩ := h; rfl) | (obtain ⟨_, ⟨_, _, _, _, rfl, _⟩, _⟩ := h; rfl) | (obtain ⟨_, ⟨_, _, _, _, _, rfl, _⟩, _⟩ := h; rfl) | (obtain ⟨_, ⟨_, _, _, _, _, _, rfl, _⟩, _⟩ := h; rfl) | (obtain ⟨_, ⟨_, _, _, _, _, _, _, rfl, _⟩, _⟩ := h; rfl) | (obtain ⟨_, ⟨_, _, _, _, _, _, _, _, rfl, _⟩, _⟩ := h; rfl) | (obtain ⟨_, ⟨_, _, _, _, _, _, _, _, _, rfl, _⟩, _⟩ := h; rfl) | (obtain ⟨_, ⟨_, _, _, _, _, _, _, _, _, _, rfl, _⟩, _⟩ := h; rfl) | (obtain ⟨_, ⟨_, _, _, _, _, _, _, _, _, _, _, rfl, _⟩, _⟩ := h; rfl) | (obtain ⟨_, ⟨_, _, _, _, _, _, _, _, _, _, _, _, rfl, _⟩, _⟩ := h; rfl) | (obtain ⟨_, rfl, _⟩ := h; rfl) | (obtain ⟨_, _, rfl, _⟩ := h; rfl) | (obtain ⟨_, _, _, rfl, _⟩ := h; rfl) | (obtain ⟨_, _, _, _, rfl, _⟩ := h; rfl) | (obtain ⟨_, _, _, _, _, rfl, _⟩ := h; rfl) | (obtain ⟨_, _, _, _, _, _, rfl, _⟩ := h; rfl) | (obtain ⟨_, _, _, _, _, _, _, rfl, _⟩ := h; rfl) | (obtain ⟨_, _, _, _, _, _, _, _, rfl, _⟩ := h; rfl) | (obtain ⟨_, _, _, _, _, _, _, _, _, rfl, _⟩ := h; rfl) | (obtain ⟨_, _, _, _, _, _, _, _, _, _, rfl, _⟩ := h; rfl) | (obtain ⟨_, _, _, _, _, _, _, _, _, _, _, rfl, _⟩ := h; rfl) | (obtain ⟨_, _, _, _, _, _, _, _, _, _, _, _, rfl, _⟩ := h; rfl)
  · exact pss_cons (ps_for PassesOwn.never rfl (pi_range1 (by rfl) T.n_range (pa_cons (pe_callB call_len_seq (by rfl) T.n_len (by decide +kernel) (pa_cons (pv 1) (pa_nil))) (pa_nil))) (pg_name (i := 3) sc_ring_behind.nd rfl (Or.inl rfl)) (pss_one (ps_set (i := 2) sc_ring_behind.nd rfl (Or.inl rfl) (pe_ix ix_tup (pe_ix ix_list (pv 0) (pe_ix ix_list (pv 1) (pv 2) (fun _ _ => rfl)) (fun _ _ => rfl)) (pe_int) (fun _ _ => rfl))))) (pss_cons (ps_set (i := 4) sc_ring_behind.nd rfl (Or.inl rfl) (pe_lst (pa_cons (pe_ix ix_list (pv 1) (pv 2) (fun _ _ => rfl)) (pa_nil)))) (pss_cons (ps_set (i := 5) sc_ring_behind.nd rfl (Or.inl rfl) (pe_ix ix_tup (pe_ix ix_list (pv 0) (pe_ix ix_list (pv 1) (pv 2) (fun _ _ => rfl)) (fun _ _ => rfl)) (pe_int) (fun _ _ => rfl))) (pss_cons (ps_while PassesOwn.never (pt_cmpR op_ne (pv 5) (pv 2) (nomark _)) (pss_cons (ps_expr (pe_bm PySem.F.plainAttrs_list PySem.F.slot_list_append PySem.F.type_list_append mt_append (pv 4) (pa_cons (pe_ix ix_list (pv 1) (pv 5) (fun _ _ => rfl)) (pa_nil)))) (pss_one (ps_set (i := 5) sc_ring_behind.nd rfl (Or.inl rfl) (pe_ix ix_tup (pe_ix ix_list (pv 0) (pe_ix ix_list (pv 1) (pv 5) (fun _ _ => rfl)) (fun _ _ => rfl)) (pe_int) (fun _ _ => rfl)))))) (pss_one (ps_ret (pe_revL (pv 4)))))))
theorem ok_from_all (T : Txt K mg) : FnOk P w K mg base CX0 2 (ga K "from_all") T.fd_from_all ["count", "sayings"] (sp_from_all K) := by
  refine T.F_from_all.ok sc_from_all (fun vs H Q E h => ?_) (fun cdv A outer s H vs Q E hr h => ⟨t_from_all K, PSs.nox ?_, pure_from_all h⟩)
  · first | (obtain ⟨_, ⟨_, rfl, _⟩, _⟩ := h; rfl) | (obtain ⟨_, ⟨_, _, rfl, _⟩, _⟩ := h; rfl) | (obtain ⟨_, ⟨_, _, _, rfl, _⟩, _⟩ := h; rfl) | (obtain ⟨_, ⟨_, _, _, _, rfl, _⟩, _⟩ := h; rfl) | (obtain ⟨_, ⟨_, _, _, _, _, rfl, _⟩, _⟩ := h; rfl) | (obtain ⟨_, ⟨_, _, _, _, _, _, rfl, _⟩, _⟩ := h; rfl) | (obtain ⟨_, ⟨_, _, _, _, _, _, _, rfl, _⟩, _⟩ := h; rfl) | (obtain ⟨_, ⟨_, _, _, _, _, _, _, _, rfl, _⟩, _⟩ := h; rfl) | (obtain ⟨_, ⟨_, _, _, _, _, _, _, _, _, rfl, _⟩, _⟩ := h; rfl) | (obtain ⟨_, ⟨_, _, _, _, _, _, _, _, _, _, rfl, _⟩, _⟩ := h; rfl) | (obtain ⟨_, ⟨_, _, _, _, _, _, _, _, _, _, _, rfl, _⟩, _⟩ := h; rfl) | (obtain ⟨_, ⟨_, _, _, _, _, _, _, _, _, _, _, _, rfl, _⟩, _⟩ := h; rfl) | (obtain ⟨_, rfl, _⟩ := h; rfl) | (obtain ⟨_, _, rfl, _⟩ := h; rfl) | (obtain ⟨_, _, _, rfl, _⟩ := h; rfl) | (obtain ⟨_, _, _, _, rfl, _⟩ := h; rfl) | (obtain ⟨_, _, _, _, _, rfl, _⟩ := h; rfl) | (obtain ⟨_, _, _, _, _, _, rfl, _⟩ := h; rfl) | (obtain ⟨_, _, _, _, _, _, _, rfl, _⟩ := h; rfl) | (obtain ⟨_, _, _, _, _, _, _, _, rfl, _⟩ := h; rfl) | (obtain ⟨_, _, _, _, _, _, _, _, _, rfl, _⟩ := h; rfl) | (obtain ⟨_, _, _, _, _, _, _, _, _, _, rfl, _⟩ := h; rfl) | (obtain ⟨_, _, _, _, _, _, _, _, _, _, _, rfl, _⟩ := h; rfl) | (obtain ⟨_, _, _, _, _, _, _, _, _, _, _, _, rfl, _⟩ := h; rfl)
  · exact pss_cons (ps_setLc (i := 2) (own := [("place", 4)]) (by rfl) sc_from_all.nd rfl rfl (sw_true rfl rfl rfl (by decide +kernel)) (pi_range1 (by rfl) T.n_range (pa_cons (pv 0) (pa_nil))) (blkOk_by (own := [("place", 4)]) (N := N_from_all) (sc := defScope s_from_all) (by decide +kernel)) (fun _ _ _ _ _ => pg_name (i := 4) sc_from_all.nd rfl (Or.inl rfl)) (fun _ _ _ _ _ => pts_nil) (fun _ _ _ _ _ => pe_int)) (pss_cons (ps_setLc (i := 3) (own := [("place", 4)]) (by rfl) sc_from_all.nd rfl rfl (sw_true rfl rfl rfl (by decide +kernel)) (pi_range1 (by rfl) T.n_range (pa_cons (pv 0) (pa_nil))) (blkOk_by (own := [("place", 4)]) (N := N_from_all) (sc := defScope s_from_all) (by decide +kernel)) (fun _ _ _ _ _ => pg_name (i := 4) sc_from_all.nd rfl (Or.inl rfl)) (fun _ _ _ _ _ => pts_nil) (fun _ _ _ _ _ => pe_un un_neg (pe_int))) (pss_cons (ps_set (i := 4) sc_from_all.nd rfl (Or.inl rfl) (pe_call (ok_lessened T) (hr.mono (by decide)) (by rfl) T.g_lessened T.F_lessened.kp T.b_lessened .nil pass0 (pa_cons (pv 1) (pa_cons (pv 2) (pa_cons (pv 3) (pa_nil)))))) (pss_cons (ps_if (pt_cmpR op_lt (pv 4) (pe_int) (nomark _)) (pss_one (ps_ret (pe_tup (pa_cons (pv 2) (pa_cons (pe_lst (pa_nil)) (pa_nil)))))) (pss_nil)) (pss_one (ps_ret (pe_tup (pa_cons (pv 2) (pa_cons (pe_call (ok_ring_behind T) (hr.mono (by decide)) (by rfl) T.g_ring_behind T.F_ring_behind.kp T.b_ring_behind .nil pass0 (pa_cons (pv 1) (pa_cons (pv 3) (pa_cons (pv 4) (pa_nil))))) (pa_nil)))))))))
theorem ok_heights (T : Txt K mg) : FnOk P w K mg base CX0 5 (ga K "heights") T.fd_heights ["count", "sayings"] (sp_heights K) := by
  refine T.F_heights.ok sc_heights (fun vs H Q E h => ?_) (fun cdv A outer s H vs Q E hr h => ⟨t_heights K, PSs.nox ?_, pure_heights h⟩)
  · first | (obtain ⟨_, ⟨_, rfl, _⟩, _⟩ := h; rfl) | (obtain ⟨_, ⟨_, _, rfl, _⟩, _⟩ := h; rfl) | (obtain ⟨_, ⟨_, _, _, rfl, _⟩, _⟩ := h; rfl) | (obtain ⟨_, ⟨_, _, _, _, rfl, _⟩, _⟩ := h; rfl) | (obtain ⟨_, ⟨_, _, _, _, _, rfl, _⟩, _⟩ := h; rfl) | (obtain ⟨_, ⟨_, _, _, _, _, _, rfl, _⟩, _⟩ := h; rfl) | (obtain ⟨_, ⟨_, _, _, _, _, _, _, rfl, _⟩, _⟩ := h; rfl) | (obtain ⟨_, ⟨_, _, _, _, _, _, _, _, rfl, _⟩, _⟩ := h; rfl) | (obtain ⟨_, ⟨_, _, _, _, _, _, _, _, _, rfl, _⟩, _⟩ := h; rfl) | (obtain ⟨_, ⟨_, _, _, _, _, _, _, _, _, _, rfl, _⟩, _⟩ := h; rfl) | (obtain ⟨_, ⟨_, _, _, _, _, _, _, _, _, _, _, rfl, _⟩, _⟩ := h; rfl) | (obtain ⟨_, ⟨_, _, _, _, _, _, _, _, _, _, _, _, rfl, _⟩, _⟩ := h; rfl) | (obtain ⟨_, rfl, _⟩ := h; rfl) | (obtain ⟨_, _, rfl, _⟩ := h; rfl) | (obtain ⟨_, _, _, rfl, _⟩ := h; rfl) | (obtain ⟨_, _, _, _, rfl, _⟩ := h; rfl) | (obtain ⟨_, _, _, _, _, rfl, _⟩ := h; rfl) | (obtain ⟨_, _, _, _, _, _, rfl, _⟩ := h; rfl) | (obtain ⟨_, _, _, _, _, _, _, rfl, _⟩ := h; rfl) | (obtain ⟨_, _, _, _, _, _, _, _, rfl, _⟩ := h; rfl) | (obtain ⟨_, _, _, _, _, _, _, _, _, rfl, _⟩ := h; rfl) | (obtain ⟨_, _, _, _, _, _, _, _, _, _, rfl, _⟩ := h; rfl) | (obtain ⟨_, _, _, _, _, _, _, _, _, _, _, rfl, _⟩ := h; rfl) | (obtain ⟨_, _, _, _, _, _, _, _, _, _, _, _, rfl, _⟩ := h; rfl)
  · exact pss_cons (ps_expr (pe_call (ok_check_sayings T) (hr.mono (by decide)) (by rfl) T.g_check_sayings T.F_check_sayings.kp T.b_check_sayings .nil pass0 (pa_cons (pv 0) (pa_cons (pv 1) (pa_nil))))) (pss_cons (ps_asg (pe_call (ok_from_all T) (hr.mono (by decide)) (by rfl) T.g_from_all T.F_from_all.kp T.b_from_all .nil pass0 (pa_cons (pv 0) (pa_cons (pv 1) (pa_nil)))) (pg_tup (by rfl) (pgs_cons (pg_name (i := 2) sc_heights.nd rfl (Or.inl rfl)) (pgs_cons (pg_name (i := 3) sc_heights.nd rfl (Or.inl rfl)) (pgs_nil))))) (pss_cons (ps_if (pt_cmpR (op_neD hr.units) (pv 3) (pe_lst (pa_nil)) (nomark _)) (pss_one (ps_ret (pe_make T.k_Ring (ok_Ring_init T) (hr.mono (by decide)) (by rfl) T.g_Ring T.b_Ring_init .nil pass0 (pa_cons (pv 3) (pa_nil))))) (pss_nil)) (pss_one (ps_ret (pe_make T.k_Heights (ok_Heights_init T) (hr.mono (by decide)) (by rfl) T.g_Heights T.b_Heights_init .nil pass0 (pa_cons (pv 2) (pa_nil)))))))
theorem ok__law_right (T : Txt K mg) : FnOk P w K mg base CX0 6 (ga K "_law_right") T.fd__law_right ["_law_count", "_law_sayings_here", "_law_others"] (sp__law_right K) := by
  refine T.F__law_right.ok sc__law_right (fun vs H Q E h => ?_) (fun cdv A outer s H vs Q E hr h => ⟨t__law_right K, PSs.nox ?_, pure__law_right T.aF h⟩)
  · first | (obtain ⟨_, ⟨_, rfl, _⟩, _⟩ := h; rfl) | (obtain ⟨_, ⟨_, _, rfl, _⟩, _⟩ := h; rfl) | (obtain ⟨_, ⟨_, _, _, rfl, _⟩, _⟩ := h; rfl) | (obtain ⟨_, ⟨_, _, _, _, rfl, _⟩, _⟩ := h; rfl) | (obtain ⟨_, ⟨_, _, _, _, _, rfl, _⟩, _⟩ := h; rfl) | (obtain ⟨_, ⟨_, _, _, _, _, _, rfl, _⟩, _⟩ := h; rfl) | (obtain ⟨_, ⟨_, _, _, _, _, _, _, rfl, _⟩, _⟩ := h; rfl) | (obtain ⟨_, ⟨_, _, _, _, _, _, _, _, rfl, _⟩, _⟩ := h; rfl) | (obtain ⟨_, ⟨_, _, _, _, _, _, _, _, _, rfl, _⟩, _⟩ := h; rfl) | (obtain ⟨_, ⟨_, _, _, _, _, _, _, _, _, _, rfl, _⟩, _⟩ := h; rfl) | (obtain ⟨_, ⟨_, _, _, _, _, _, _, _, _, _, _, rfl, _⟩, _⟩ := h; rfl) | (obtain ⟨_, ⟨_, _, _, _, _, _, _, _, _, _, _, _, rfl, _⟩, _⟩ := h; rfl) | (obtain ⟨_, rfl, _⟩ := h; rfl) | (obtain ⟨_, _, rfl, _⟩ := h; rfl) | (obtain ⟨_, _, _, rfl, _⟩ := h; rfl) | (obtain ⟨_, _, _, _, rfl, _⟩ := h; rfl) | (obtain ⟨_, _, _, _, _, rfl, _⟩ := h; rfl) | (obtain ⟨_, _, _, _, _, _, rfl, _⟩ := h; rfl) | (obtain ⟨_, _, _, _, _, _, _, rfl, _⟩ := h; rfl) | (obtain ⟨_, _, _, _, _, _, _, _, rfl, _⟩ := h; rfl) | (obtain ⟨_, _, _, _, _, _, _, _, _, rfl, _⟩ := h; rfl) | (obtain ⟨_, _, _, _, _, _, _, _, _, _, rfl, _⟩ := h; rfl) | (obtain ⟨_, _, _, _, _, _, _, _, _, _, _, rfl, _⟩ := h; rfl) | (obtain ⟨_, _, _, _, _, _, _, _, _, _, _, _, rfl, _⟩ := h; rfl)
  · exact pss_cons (ps_set (i := 3) sc__law_right.nd rfl (Or.inl rfl) (pe_callTy call_list_of (by rfl) T.n_list (by decide +kernel) (pa_cons (pv 1) (pa_nil)))) (pss_cons (ps_set (i := 4) sc__law_right.nd rfl (Or.inl rfl) (pe_call (ok_heights T) (hr.mono (by decide)) (by rfl) T.g_heights T.F_heights.kp T.b_heights .nil pass0 (pa_cons (pv 0) (pa_cons (pv 3) (pa_nil))))) (pss_cons (ps_if (PW.pt (pw_or (pt_not (pt_val (pe_callB call_isi (by rfl) T.n_isinstance (by decide +kernel) (pa_cons (pv 4) (pa_cons ((pe_glob (v := .ref (ga K "Answer")) (by rfl) T.g_Answer rfl)) (pa_nil)))))) (pw_or (pt_cmpR op_eq (pe_callB call_isi (by rfl) T.n_isinstance (by decide +kernel) (pa_cons (pv 4) (pa_cons ((pe_glob (v := .ref (ga K "Heights")) (by rfl) T.g_Heights rfl)) (pa_nil)))) (pe_callB call_isi (by rfl) T.n_isinstance (by decide +kernel) (pa_cons (pv 4) (pa_cons ((pe_glob (v := .ref (ga K "Ring")) (by rfl) T.g_Ring rfl)) (pa_nil)))) (nomark _)) (pw_or1 (pt_cmpR (op_neD hr.units) (pv 3) (pv 1) (nomark _)))))) (pss_one (ps_ret (pe_bl))) (pss_nil)) (pss_cons (ps_if (pt_val (pe_callB (cr_any rfl) (by rfl) T.n_any (by decide +kernel) (pa_cons (pe_lst (pa_cons (pe_callB call_isi (by rfl) T.n_isinstance (by decide +kernel) (pa_cons (pv 4) (pa_cons ((pe_glob (v := .ref (ga K "Fixed")) (by rfl) T.g_Fixed rfl)) (pa_nil)))) (pa_cons (pe_callB call_isi (by rfl) T.n_isinstance (by decide +kernel) (pa_cons (pv 4) (pa_cons ((pe_glob (v := .ref (ga K "Follows")) (by rfl) T.g_Follows rfl)) (pa_nil)))) (pa_cons (pe_callB call_isi (by rfl) T.n_isinstance (by decide +kernel) (pa_cons (pv 4) (pa_cons ((pe_glob (v := .ref (ga K "Free")) (by rfl) T.g_Free rfl)) (pa_nil)))) (pa_nil))))) (pa_nil)))) (pss_one (ps_ret (pe_bl))) (pss_nil)) (pss_cons (ps_if (pt_val (pe_callB (cr_any rfl) (by rfl) T.n_any (by decide +kernel) (pa_cons (pe_lst (pa_cons (pe_callB call_isi (by rfl) T.n_isinstance (by decide +kernel) (pa_cons (pv 4) (pa_cons ((pe_glob (v := .ref (ga K "Loose")) (by rfl) T.g_Loose rfl)) (pa_nil)))) (pa_cons (pe_callB call_isi (by rfl) T.n_isinstance (by decide +kernel) (pa_cons (pv 4) (pa_cons ((pe_glob (v := .ref (ga K "Needed")) (by rfl) T.g_Needed rfl)) (pa_nil)))) (pa_cons (pe_callB call_isi (by rfl) T.n_isinstance (by decide +kernel) (pa_cons (pv 4) (pa_cons ((pe_glob (v := .ref (ga K "Needless")) (by rfl) T.g_Needless rfl)) (pa_nil)))) (pa_nil))))) (pa_nil)))) (pss_one (ps_ret (pe_bl))) (pss_nil)) (pss_cons (ps_if (PW.pt (pw_or (pt_not (pt_val (pe_call (ok__law_due T) (hr.mono (by decide)) (by rfl) T.g__law_due T.F__law_due.kp T.b__law_due .nil pass0 (pa_cons (pv 0) (pa_cons (pv 1) (pa_cons (pv 4) (pa_nil))))))) (pw_or1 (pt_cmpR op_notBl (pe_either (pe_meth (pv 4) T.c_Heights T.m_Heights_shows (ok_Heights_shows T) (hr.mono (by decide)) T.b_Heights_shows .nil pass0 (pa_cons (pv 0) (pa_cons (pv 1) (pa_nil)))) (pe_meth (pv 4) T.c_Ring T.m_Ring_shows (ok_Ring_shows T) (hr.mono (by decide)) T.b_Ring_shows .nil pass0 (pa_cons (pv 0) (pa_cons (pv 1) (pa_nil))))) (pe_bl) (nomark _))))) (pss_one (ps_ret (pe_bl))) (pss_nil)) (pss_cons (ps_for PassesOwn.never rfl (pi_list (pv 2)) (pg_name (i := 5) sc__law_right.nd rfl (Or.inl rfl)) (pss_one (ps_if (pt_cmpR op_ne (pe_either (pe_meth (pv 4) T.c_Heights T.m_Heights_shows (ok_Heights_shows T) (hr.mono (by decide)) T.b_Heights_shows .nil pass0 (pa_cons (pv 0) (pa_cons (pv 5) (pa_nil)))) (pe_meth (pv 4) T.c_Ring T.m_Ring_shows (ok_Ring_shows T) (hr.mono (by decide)) T.b_Ring_shows .nil pass0 (pa_cons (pv 0) (pa_cons (pv 5) (pa_nil))))) (pe_call (ok__law_due T) (hr.mono (by decide)) (by rfl) T.g__law_due T.F__law_due.kp T.b__law_due .nil pass0 (pa_cons (pv 0) (pa_cons (pv 5) (pa_cons (pv 4) (pa_nil))))) (nomark _)) (pss_one (ps_ret (pe_bl))) (pss_nil)))) (pss_cons (ps_if (pt_val (pe_callB call_isi (by rfl) T.n_isinstance (by decide +kernel) (pa_cons (pv 4) (pa_cons ((pe_glob (v := .ref (ga K "Heights")) (by rfl) T.g_Heights rfl)) (pa_nil))))) (pss_one (ps_expr (pe_bm PySem.F.plainAttrs_list PySem.F.slot_list_append PySem.F.type_list_append mt_append (pe_fld (pv 4) rfl) (pa_cons (pe_int) (pa_nil))))) (pss_one (ps_expr (pe_bm PySem.F.plainAttrs_list PySem.F.slot_list_append PySem.F.type_list_append mt_append (pe_fld (pv 4) rfl) (pa_cons (pe_callB call_len_seq (by rfl) T.n_len (by decide +kernel) (pa_cons (pv 1) (pa_nil))) (pa_nil)))))) (pss_one (ps_ret (pe_cmpR op_isBl (pe_either (pe_meth (pv 4) T.c_Heights T.m_Heights_shows (ok_Heights_shows T) (hr.mono (by decide)) T.b_Heights_shows .nil pass0 (pa_cons (pv 0) (pa_cons (pv 1) (pa_nil)))) (pe_meth (pv 4) T.c_Ring T.m_Ring_shows (ok_Ring_shows T) (hr.mono (by decide)) T.b_Ring_shows .nil pass0 (pa_cons (pv 0) (pa_cons (pv 1) (pa_nil))))) (pe_bl) (nomark _)))))))))))
theorem ok__law_drawn (T : Txt K mg) : FnOk P w K mg base CX0 1 (ga K "_law_drawn") T.fd__law_drawn ["_law_script", "_law_count"] (sp__law_drawn K) := by
  refine T.F__law_drawn.ok sc__law_drawn (fun vs H Q E h => ?_) (fun cdv A outer s H vs Q E hr h => ⟨t__law_drawn K, PSs.nox ?_, pure__law_drawn h⟩)
  · first | (obtain ⟨_, ⟨_, rfl, _⟩, _⟩ := h; rfl) | (obtain ⟨_, ⟨_, _, rfl, _⟩, _⟩ := h; rfl) | (obtain ⟨_, ⟨_, _, _, rfl, _⟩, _⟩ := h; rfl) | (obtain ⟨_, ⟨_, _, _, _, rfl, _⟩, _⟩ := h; rfl) | (obtain ⟨_, ⟨_, _, _, _, _, rfl, _⟩, _⟩ := h; rfl) | (obtain ⟨_, ⟨_, _, _, _, _, _, rfl, _⟩, _⟩ := h; rfl) | (obtain ⟨_, ⟨_, _, _, _, _, _, _, rfl, _⟩, _⟩ := h; rfl) | (obtain ⟨_, ⟨_, _, _, _, _, _, _, _, rfl, _⟩, _⟩ := h; rfl) | (obtain ⟨_, ⟨_, _, _, _, _, _, _, _, _, rfl, _⟩, _⟩ := h; rfl) | (obtain ⟨_, ⟨_, _, _, _, _, _, _, _, _, _, rfl, _⟩, _⟩ := h; rfl) | (obtain ⟨_, ⟨_, _, _, _, _, _, _, _, _, _, _, rfl, _⟩, _⟩ := h; rfl) | (obtain ⟨_, ⟨_, _, _, _, _, _, _, _, _, _, _, _, rfl, _⟩, _⟩ := h; rfl) | (obtain ⟨_, rfl, _⟩ := h; rfl) | (obtain ⟨_, _, rfl, _⟩ := h; rfl) | (obtain ⟨_, _, _, rfl, _⟩ := h; rfl) | (obtain ⟨_, _, _, _, rfl, _⟩ := h; rfl) | (obtain ⟨_, _, _, _, _, rfl, _⟩ := h; rfl) | (obtain ⟨_, _, _, _, _, _, rfl, _⟩ := h; rfl) | (obtain ⟨_, _, _, _, _, _, _, rfl, _⟩ := h; rfl) | (obtain ⟨_, _, _, _, _, _, _, _, rfl, _⟩ := h; rfl) | (obtain ⟨_, _, _, _, _, _, _, _, _, rfl, _⟩ := h; rfl) | (obtain ⟨_, _, _, _, _, _, _, _, _, _, rfl, _⟩ := h; rfl) | (obtain ⟨_, _, _, _, _, _, _, _, _, _, _, rfl, _⟩ := h; rfl) | (obtain ⟨_, _, _, _, _, _, _, _, _, _, _, _, rfl, _⟩ := h; rfl)
  · exact pss_cons (ps_set (i := 2) sc__law_drawn.nd rfl (Or.inr rfl) (pe_ix ix_tup (pe_tup (pa_cons (pe_int) (pa_cons (pe_int) (pa_nil)))) (pe_op op_mod (pe_op op_fdiv (pe_callB (cr_sum rfl) (by rfl) T.n_sum (by decide +kernel) (pa_cons (pv 0) (pa_nil))) (pe_int)) (pe_int)) (fun _ _ => rfl))) (pss_one (ps_ret (pe_lc (own := [("_law_place", 3)]) (by rfl) sc__law_drawn.nd (pi_range1 (by rfl) T.n_range (pa_cons (pv 1) (pa_nil))) (blkOk_by (own := [("_law_place", 3)]) (N := N__law_drawn) (sc := defScope s__law_drawn) (by decide +kernel)) (fun _ _ _ _ _ => pg_name (i := 3) sc__law_drawn.nd rfl (Or.inl rfl)) (fun _ _ _ _ _ => pts_nil) (fun _ _ _ _ _ => pe_ifExp (pt_cmpR (op_neD hr.units) (pv 0) (pe_lst (pa_nil)) (nomark _)) (pe_op op_mod (pe_op op_fdiv (pe_ix ix_list (pv 0) (pe_op op_mod (pv 3) (pe_callB call_len_seq (by rfl) T.n_len (by decide +kernel) (pa_cons (pv 0) (pa_nil)))) (fun _ _ => rfl)) (pe_int)) (pv 2)) (pe_int)))))
theorem ok__law_sayings (T : Txt K mg) : FnOk P w K mg base CX0 2 (ga K "_law_sayings") T.fd__law_sayings ["_law_script"] (sp__law_sayings K) := by
  refine T.F__law_sayings.ok sc__law_sayings (fun vs H Q E h => ?_) (fun cdv A outer s H vs Q E hr h => ⟨t__law_sayings K, PSs.nox ?_, pure__law_sayings h⟩)
  · first | (obtain ⟨_, ⟨_, rfl, _⟩, _⟩ := h; rfl) | (obtain ⟨_, ⟨_, _, rfl, _⟩, _⟩ := h; rfl) | (obtain ⟨_, ⟨_, _, _, rfl, _⟩, _⟩ := h; rfl) | (obtain ⟨_, ⟨_, _, _, _, rfl, _⟩, _⟩ := h; rfl) | (obtain ⟨_, ⟨_, _, _, _, _, rfl, _⟩, _⟩ := h; rfl) | (obtain ⟨_, ⟨_, _, _, _, _, _, rfl, _⟩, _⟩ := h; rfl) | (obtain ⟨_, ⟨_, _, _, _, _, _, _, rfl, _⟩, _⟩ := h; rfl) | (obtain ⟨_, ⟨_, _, _, _, _, _, _, _, rfl, _⟩, _⟩ := h; rfl) | (obtain ⟨_, ⟨_, _, _, _, _, _, _, _, _, rfl, _⟩, _⟩ := h; rfl) | (obtain ⟨_, ⟨_, _, _, _, _, _, _, _, _, _, rfl, _⟩, _⟩ := h; rfl) | (obtain ⟨_, ⟨_, _, _, _, _, _, _, _, _, _, _, rfl, _⟩, _⟩ := h; rfl) | (obtain ⟨_, ⟨_, _, _, _, _, _, _, _, _, _, _, _, rfl, _⟩, _⟩ := h; rfl) | (obtain ⟨_, rfl, _⟩ := h; rfl) | (obtain ⟨_, _, rfl, _⟩ := h; rfl) | (obtain ⟨_, _, _, rfl, _⟩ := h; rfl) | (obtain ⟨_, _, _, _, rfl, _⟩ := h; rfl) | (obtain ⟨_, _, _, _, _, rfl, _⟩ := h; rfl) | (obtain ⟨_, _, _, _, _, _, rfl, _⟩ := h; rfl) | (obtain ⟨_, _, _, _, _, _, _, rfl, _⟩ := h; rfl) | (obtain ⟨_, _, _, _, _, _, _, _, rfl, _⟩ := h; rfl) | (obtain ⟨_, _, _, _, _, _, _, _, _, rfl, _⟩ := h; rfl) | (obtain ⟨_, _, _, _, _, _, _, _, _, _, rfl, _⟩ := h; rfl) | (obtain ⟨_, _, _, _, _, _, _, _, _, _, _, rfl, _⟩ := h; rfl) | (obtain ⟨_, _, _, _, _, _, _, _, _, _, _, _, rfl, _⟩ := h; rfl)
  · exact pss_cons (ps_par3 (i := 1) (j := 2) (l := 3) (by rfl) sc__law_sayings.nd rfl rfl rfl (by decide) (by decide) (by decide) rfl rfl rfl (pa_cons (pe_callB (cr_sum rfl) (by rfl) T.n_sum (by decide +kernel) (pa_cons (pv 0) (pa_nil))) (pa_cons (pe_callB call_len_seq (by rfl) T.n_len (by decide +kernel) (pa_cons (pv 0) (pa_nil))) (pa_cons (pe_lst (pa_nil)) (pa_nil)))) (by rfl)) (pss_cons (ps_set (i := 4) sc__law_sayings.nd rfl (Or.inl rfl) (pe_ix ix_tup (pe_tup (pa_cons (pe_op op_add (pe_int) (pe_op op_fdiv (pv 2) (pe_int))) (pa_cons (pe_op op_add (pe_int) (pe_op op_mod (pe_op op_fdiv (pv 1) (pe_int)) (pe_int))) (pa_cons (pe_op op_add (pv 2) (pe_int)) (pa_cons (pe_op op_add (pe_int) (pe_op op_mod (pe_op op_fdiv (pv 1) (pe_int)) (pe_op op_add (pv 2) (pe_int)))) (pa_nil)))))) (pe_op op_mod (pe_op op_fdiv (pv 1) (pe_int)) (pe_int)) (fun _ _ => rfl))) (pss_cons (ps_par (i := 5) (j := 6) (by rfl) sc__law_sayings.nd rfl rfl (by decide) rfl rfl (pa_cons (pe_call (ok__law_drawn T) (hr.mono (by decide)) (by rfl) T.g__law_drawn T.F__law_drawn.kp T.b__law_drawn .nil pass0 (pa_cons (pv 0) (pa_cons (pv 4) (pa_nil)))) (pa_cons (pe_op op_mod (pv 1) (pe_int)) (pa_nil))) (by rfl)) (pss_cons (ps_for PassesOwn.never rfl (pi_list (pv 0)) (pg_name (i := 7) sc__law_sayings.nd rfl (Or.inl rfl)) (pss_cons (ps_par (i := 8) (j := 9) (by rfl) sc__law_sayings.nd rfl rfl (by decide) rfl rfl (pa_cons (pe_op op_mod (pv 7) (pv 4)) (pa_cons (pe_op op_mod (pe_op op_fdiv (pv 7) (pv 4)) (pv 4)) (pa_nil))) (by rfl)) (pss_cons (ps_set (i := 10) sc__law_sayings.nd rfl (Or.inl rfl) (pe_op op_fdiv (pe_op op_fdiv (pv 7) (pv 4)) (pv 4))) (pss_cons (ps_par (i := 11) (j := 12) (by rfl) sc__law_sayings.nd rfl rfl (by decide) rfl rfl (pa_cons (pe_op op_add (pv 10) (pe_op op_fdiv (pv 7) (pe_int))) (pa_cons (pe_ix ix_tup (pe_tup (pa_cons (pe_op op_fdiv (pv 7) (pe_int)) (pa_cons (pv 10) (pa_nil)))) (pe_op op_mod (pe_op op_fdiv (pv 1) (pe_int)) (pe_int)) (fun _ _ => rfl)) (pa_nil))) (by rfl)) (pss_cons (ps_set (i := 13) sc__law_sayings.nd rfl (Or.inl rfl) (pe_ix ix_tup (pe_tup (pa_cons (pe_op op_mod (pv 11) (pe_int)) (pa_cons (pe_op op_mod (pv 11) (pe_int)) (pa_cons (pe_op op_sub (pe_op op_mod (pv 11) (pe_int)) (pe_int)) (pa_cons (pe_op op_mul (pe_op op_mod (pe_op op_fdiv (pv 12) (pe_int)) (pe_op op_pow (pe_int) (pe_int))) (pe_op op_sub (pe_int) (pe_op op_mul (pe_op op_mod (pv 12) (pe_int)) (pe_int)))) (pa_nil)))))) (pv 6) (fun _ _ => rfl))) (pss_one (ps_expr (pe_bm PySem.F.plainAttrs_list PySem.F.slot_list_append PySem.F.type_list_append mt_append (pv 3) (pa_cons (pe_tup (pa_cons (pv 8) (pa_cons (pv 9) (pa_cons (pe_ifExp (pt_cmpR op_eq (pv 6) (pe_int) (nomark _)) (pv 13) (pe_op op_add (pe_op op_sub (pe_ix ix_list (pv 5) (pv 9) (fun _ _ => rfl)) (pe_ix ix_list (pv 5) (pv 8) (fun _ _ => rfl))) (pv 13))) (pa_nil))))) (pa_nil)))))))))) (pss_cons (ps_if (pt_cmpR op_eq (pe_op op_mod (pe_op op_fdiv (pv 1) (pe_int)) (pe_int)) (pe_int) (nomark _)) (pss_one (ps_set (i := 3) sc__law_sayings.nd rfl (Or.inl rfl) (pe_slice sl_list (pv 3) po_none (po_some (pe_op op_mod (pe_op op_fdiv (pv 1) (pe_int)) (pe_op op_add (pv 2) (pe_int))))))) (pss_nil)) (pss_one (ps_ret (pe_tup (pa_cons (pv 4) (pa_cons (pv 3) (pa_nil))))))))))
theorem ok_law (T : Txt K mg) : FnOk P w K mg base CX0 7 (ga K "law") T.fd_law ["_law_script"] (sp_law K) := by
  refine T.F_law.ok sc_law (fun vs H Q E h => ?_) (fun cdv A outer s H vs Q E hr h => ⟨t_law K, PSs.nox ?_, pure_law2 T.aF h⟩)
  · first | (obtain ⟨_, ⟨_, rfl, _⟩, _⟩ := h; rfl) | (obtain ⟨_, ⟨_, _, rfl, _⟩, _⟩ := h; rfl) | (obtain ⟨_, ⟨_, _, _, rfl, _⟩, _⟩ := h; rfl) | (obtain ⟨_, ⟨_, _, _, _, rfl, _⟩, _⟩ := h; rfl) | (obtain ⟨_, ⟨_, _, _, _, _, rfl, _⟩, _⟩ := h; rfl) | (obtain ⟨_, ⟨_, _, _, _, _, _, rfl, _⟩, _⟩ := h; rfl) | (obtain ⟨_, ⟨_, _, _, _, _, _, _, rfl, _⟩, _⟩ := h; rfl) | (obtain ⟨_, ⟨_, _, _, _, _, _, _, _, rfl, _⟩, _⟩ := h; rfl) | (obtain ⟨_, ⟨_, _, _, _, _, _, _, _, _, rfl, _⟩, _⟩ := h; rfl) | (obtain ⟨_, ⟨_, _, _, _, _, _, _, _, _, _, rfl, _⟩, _⟩ := h; rfl) | (obtain ⟨_, ⟨_, _, _, _, _, _, _, _, _, _, _, rfl, _⟩, _⟩ := h; rfl) | (obtain ⟨_, ⟨_, _, _, _, _, _, _, _, _, _, _, _, rfl, _⟩, _⟩ := h; rfl) | (obtain ⟨_, rfl, _⟩ := h; rfl) | (obtain ⟨_, _, rfl, _⟩ := h; rfl) | (obtain ⟨_, _, _, rfl, _⟩ := h; rfl) | (obtain ⟨_, _, _, _, rfl, _⟩ := h; rfl) | (obtain ⟨_, _, _, _, _, rfl, _⟩ := h; rfl) | (obtain ⟨_, _, _, _, _, _, rfl, _⟩ := h; rfl) | (obtain ⟨_, _, _, _, _, _, _, rfl, _⟩ := h; rfl) | (obtain ⟨_, _, _, _, _, _, _, _, rfl, _⟩ := h; rfl) | (obtain ⟨_, _, _, _, _, _, _, _, _, rfl, _⟩ := h; rfl) | (obtain ⟨_, _, _, _, _, _, _, _, _, _, rfl, _⟩ := h; rfl) | (obtain ⟨_, _, _, _, _, _, _, _, _, _, _, rfl, _⟩ := h; rfl) | (obtain ⟨_, _, _, _, _, _, _, _, _, _, _, _, rfl, _⟩ := h; rfl)
  · exact pss_cons (ps_asg (pe_call (ok__law_sayings T) (hr.mono (by decide)) (by rfl) T.g__law_sayings T.F__law_sayings.kp T.b__law_sayings .nil pass0 (pa_cons (pv 0) (pa_nil))) (pg_tup (by rfl) (pgs_cons (pg_name (i := 1) sc_law.nd rfl (Or.inl rfl)) (pgs_cons (pg_name (i := 2) sc_law.nd rfl (Or.inl rfl)) (pgs_nil))))) (pss_cons (ps_setLc (i := 3) (own := [("_law_lower", 6), ("_law_upper", 7), ("_law_number", 8)]) (by rfl) sc_law.nd rfl rfl (sw_true rfl rfl rfl (by decide +kernel)) (pi_list (pv 2)) (blkOk_by (own := [("_law_lower", 6), ("_law_upper", 7), ("_law_number", 8)]) (N := N_law) (sc := defScope s_law) (by decide +kernel)) (fun _ _ _ _ _ => pg_tup (by rfl) (pgs_cons (pg_name (i := 6) sc_law.nd rfl (Or.inl rfl)) (pgs_cons (pg_name (i := 7) sc_law.nd rfl (Or.inl rfl)) (pgs_cons (pg_name (i := 8) sc_law.nd rfl (Or.inl rfl)) (pgs_nil))))) (fun _ _ _ _ _ => pts_nil) (fun _ _ _ _ _ => pe_tup (pa_cons (pv 7) (pa_cons (pv 6) (pa_cons (pe_un un_neg (pv 8)) (pa_nil)))))) (pss_cons (ps_set (i := 4) sc_law.nd rfl (Or.inl rfl) (pe_lst (pa_cons (pv 2) (pa_cons (pe_revL (pv 2)) (pa_cons (pe_slice sl_list (pv 2) po_none (po_some (pe_un un_neg (pe_int)))) (pa_cons (pv 3) (pa_cons (pv 2) (pa_nil)))))))) (pss_cons (ps_for PassesOwn.never rfl (pi_list (pv 4)) (pg_name (i := 5) sc_law.nd rfl (Or.inl rfl)) (pss_one (ps_if (pt_not (pt_val (pe_call (ok__law_right T) (hr.mono (by decide)) (by rfl) T.g__law_right T.F__law_right.kp T.b__law_right .nil pass0 (pa_cons (pv 1) (pa_cons (pv 5) (pa_cons (pv 4) (pa_nil))))))) (pss_one (ps_ret (pe_bl))) (pss_nil)))) (pss_one (ps_ret (pe_or (pe_callB call_isi (by rfl) T.n_isinstance (by decide +kernel) (pa_cons (pe_call (ok_heights T) (hr.mono (by decide)) (by rfl) T.g_heights T.F_heights.kp T.b_heights .nil pass0 (pa_cons (pv 1) (pa_cons (pv 2) (pa_nil)))) (pa_cons ((pe_glob (v := .ref (ga K "Heights")) (by rfl) T.g_Heights rfl)) (pa_nil)))) (pe_one (pe_cmpR op_gt (pe_op op_mod (pe_callB (cr_sum rfl) (by rfl) T.n_sum (by decide +kernel) (pa_cons (pv 0) (pa_nil))) (pe_int)) (pe_int) (nomark _)))))))))
end
/-! ### the head -/
def d_keep : He.DefD := ⟨("keep", none), "keep", "keep", defArgs s_keep, defBody s_keep, defScope s_keep, [], []⟩
def d_keep_all : He.DefD := ⟨("keep_all", none), "keep_all", "keep_all", defArgs s_keep_all, defBody s_keep_all, defScope s_keep_all, [], []⟩
def d_Heights_shows : He.DefD := ⟨("Heights", some "shows"), "shows", "Heights.shows", defArgs s_Heights_shows, defBody s_Heights_shows, defScope s_Heights_shows, [], []⟩
def d_sum_along : He.DefD := ⟨("sum_along", none), "sum_along", "sum_along", defArgs s_sum_along, defBody s_sum_along, defScope s_sum_along, [], []⟩
def d_Ring_shows : He.DefD := ⟨("Ring", some "shows"), "shows", "Ring.shows", defArgs s_Ring_shows, defBody s_Ring_shows, defScope s_Ring_shows, [], []⟩
def d__law_kept : He.DefD := ⟨("_law_kept", none), "_law_kept", "_law_kept", defArgs s__law_kept, defBody s__law_kept, defScope s__law_kept, [], []⟩
def d__law_sum : He.DefD := ⟨("_law_sum", none), "_law_sum", "_law_sum", defArgs s__law_sum, defBody s__law_sum, defScope s__law_sum, [], []⟩
def d__law_ring : He.DefD := ⟨("_law_ring", none), "_law_ring", "_law_ring", defArgs s__law_ring, defBody s__law_ring, defScope s__law_ring, [], []⟩
def d__law_due : He.DefD := ⟨("_law_due", none), "_law_due", "_law_due", defArgs s__law_due, defBody s__law_due, defScope s__law_due, [], []⟩
def d_Heights_init : He.DefD := ⟨("Heights", some "__init__"), "__init__", "Heights.__init__", defArgs s_Heights_init, defBody s_Heights_init, defScope s_Heights_init, [], []⟩
def d_Ring_init : He.DefD := ⟨("Ring", some "__init__"), "__init__", "Ring.__init__", defArgs s_Ring_init, defBody s_Ring_init, defScope s_Ring_init, [], []⟩
def d_is_number : He.DefD := ⟨("is_number", none), "is_number", "is_number", defArgs s_is_number, defBody s_is_number, defScope s_is_number, [], []⟩
def d_is_below : He.DefD := ⟨("is_below", none), "is_below", "is_below", defArgs s_is_below, defBody s_is_below, defScope s_is_below, [], []⟩
def d_is_saying : He.DefD := ⟨("is_saying", none), "is_saying", "is_saying", defArgs s_is_saying, defBody s_is_saying, defScope s_is_saying, [], []⟩
def d_check_sayings : He.DefD := ⟨("check_sayings", none), "check_sayings", "check_sayings", defArgs s_check_sayings, defBody s_check_sayings, defScope s_check_sayings, [], []⟩
def d_lessened : He.DefD := ⟨("lessened", none), "lessened", "lessened", defArgs s_lessened, defBody s_lessened, defScope s_lessened, [], []⟩
def d_ring_behind : He.DefD := ⟨("ring_behind", none), "ring_behind", "ring_behind", defArgs s_ring_behind, defBody s_ring_behind, defScope s_ring_behind, [], []⟩
def d_from_all : He.DefD := ⟨("from_all", none), "from_all", "from_all", defArgs s_from_all, defBody s_from_all, defScope s_from_all, [], []⟩
def d_heights : He.DefD := ⟨("heights", none), "heights", "heights", defArgs s_heights, defBody s_heights, defScope s_heights, [], []⟩
def d__law_right : He.DefD := ⟨("_law_right", none), "_law_right", "_law_right", defArgs s__law_right, defBody s__law_right, defScope s__law_right, [], []⟩
def d__law_drawn : He.DefD := ⟨("_law_drawn", none), "_law_drawn", "_law_drawn", defArgs s__law_drawn, defBody s__law_drawn, defScope s__law_drawn, [], []⟩
def d__law_sayings : He.DefD := ⟨("_law_sayings", none), "_law_sayings", "_law_sayings", defArgs s__law_sayings, defBody s__law_sayings, defScope s__law_sayings, [], []⟩
def d_law : He.DefD := ⟨("law", none), "law", "law", defArgs s_law, defBody s_law, defScope s_law, [], []⟩
def fn : List He.DefD := [d_keep, d_keep_all, d_Heights_shows, d_sum_along, d_Ring_shows, d__law_kept, d__law_sum, d__law_ring, d__law_due, d_Heights_init, d_Ring_init, d_is_number, d_is_below, d_is_saying, d_check_sayings, d_lessened, d_ring_behind, d_from_all, d_heights, d__law_right, d__law_drawn, d__law_sayings, d_law]
def fa : List He.Fa := ([.glo "Answer", .glo "Fixed", .glo "Follows", .glo "Free", .glo "Heights", .glo "Loose", .glo "Needed", .glo "Needless", .glo "Ring", .glo "_law_drawn", .glo "_law_due", .glo "_law_kept", .glo "_law_right", .glo "_law_ring", .glo "_law_sayings", .glo "_law_sum", .glo "check_sayings", .glo "from_all", .glo "heights", .glo "is_below", .glo "is_number", .glo "is_saying", .glo "keep", .glo "keep_all", .glo "law", .glo "lessened", .glo "ring_behind", .glo "sum_along", .free "all", .free "any"] : List He.Fa) ++ ([.free "bool", .free "enumerate", .free "int", .free "isinstance", .free "len", .free "list", .free "range", .free "sum", .free "tuple", .cls "Heights", .cls "Ring", .mkr "Heights", .mkr "Ring", .meth "Heights" "shows", .meth "Ring" "shows"] : List He.Fa)
def ck : List (PySem.W.Frag → Bool) := [(ansB kds)]
abbrev Rw : PySem.W.OpenRow := PySem.W.OpenLaw.row PySem.Challenge.rw_atmost_k02_whole_heights
abbrev hk : PySem.W.Hook := hookX 7 ck fa fn
def ob (s : PySem.W.SharedT) : He.AlD := obsXG 7 ck fa fn (HandSHeadRun.getT s)
theorem ob_eq (s : PySem.W.SharedT) : ob s = hk.obs s.abs := obsXG_eq (HandSHeadRun.getT_eq s)
def loose : List PySem.Str := (["SayError", "BadCount", "BadSayings", "is_number", "is_below", "is_saying", "check_sayings", "keep", "keep_all", "sum_along", "Answer", "Heights", "Ring", "Follows", "Free", "Fixed", "Loose", "Needless", "Needed", "lessened", "ring_behind", "from_all", "heights", "_law_drawn", "_law_sayings", "_law_sum", "_law_kept", "_law_ring", "_law_due", "_law_right"] : List PySem.Str)
theorem run_top (w : World) : HandSHeadRun.RunEq Rw (PySem.W.view Rw.prog [36]) hk ob 6000 loose w := by
  intro os
  kernel_rfl
theorem facts {P : Program} {w : World} {K : PySem.W.Frag} {h : Heap} {mg : Str → Option Value} {f : Addr} (X : K.In h) (G : h.Ns mainGlobals mg) (hfa : mg ("law" : Str) = some (.ref f)) (c : SaysX ck fa fn K) :
    ∃ fd : FuncData, (∀ (s : Shared) (v : Value), BindsTo s fd ⟨[v], []⟩ [("_law_script", v)]) ∧ ∀ base : Heap, K.In base → base.Ns mainGlobals mg → FnOk P w K mg base CX0 7 f fd ["_law_script"] (sp_law K) := by
  have cd := c.d
  obtain ⟨fd_keep, F_keep⟩ := cd.def_ 0 (d := d_keep) rfl
  obtain ⟨fd_keep_all, F_keep_all⟩ := cd.def_ 1 (d := d_keep_all) rfl
  obtain ⟨fd_Heights_shows, F_Heights_shows⟩ := cd.def_ 2 (d := d_Heights_shows) rfl
  obtain ⟨fd_sum_along, F_sum_along⟩ := cd.def_ 3 (d := d_sum_along) rfl
  obtain ⟨fd_Ring_shows, F_Ring_shows⟩ := cd.def_ 4 (d := d_Ring_shows) rfl
  obtain ⟨fd__law_kept, F__law_kept⟩ := cd.def_ 5 (d := d__law_kept) rfl
  obtain ⟨fd__law_sum, F__law_sum⟩ := cd.def_ 6 (d := d__law_sum) rfl
  obtain ⟨fd__law_ring, F__law_ring⟩ := cd.def_ 7 (d := d__law_ring) rfl
  obtain ⟨fd__law_due, F__law_due⟩ := cd.def_ 8 (d := d__law_due) rfl
  obtain ⟨fd_Heights_init, F_Heights_init⟩ := cd.def_ 9 (d := d_Heights_init) rfl
  obtain ⟨fd_Ring_init, F_Ring_init⟩ := cd.def_ 10 (d := d_Ring_init) rfl
  obtain ⟨fd_is_number, F_is_number⟩ := cd.def_ 11 (d := d_is_number) rfl
  obtain ⟨fd_is_below, F_is_below⟩ := cd.def_ 12 (d := d_is_below) rfl
  obtain ⟨fd_is_saying, F_is_saying⟩ := cd.def_ 13 (d := d_is_saying) rfl
  obtain ⟨fd_check_sayings, F_check_sayings⟩ := cd.def_ 14 (d := d_check_sayings) rfl
  obtain ⟨fd_lessened, F_lessened⟩ := cd.def_ 15 (d := d_lessened) rfl
  obtain ⟨fd_ring_behind, F_ring_behind⟩ := cd.def_ 16 (d := d_ring_behind) rfl
  obtain ⟨fd_from_all, F_from_all⟩ := cd.def_ 17 (d := d_from_all) rfl
  obtain ⟨fd_heights, F_heights⟩ := cd.def_ 18 (d := d_heights) rfl
  obtain ⟨fd__law_right, F__law_right⟩ := cd.def_ 19 (d := d__law_right) rfl
  obtain ⟨fd__law_drawn, F__law_drawn⟩ := cd.def_ 20 (d := d__law_drawn) rfl
  obtain ⟨fd__law_sayings, F__law_sayings⟩ := cd.def_ 21 (d := d__law_sayings) rfl
  obtain ⟨fd_law, F_law⟩ := cd.def_ 22 (d := d_law) rfl
  have T : Txt K mg := {
    fd_keep := fd_keep, F_keep := F_keep, b_keep := F_keep.bindsN fun _ _ _ _ _ _ us hl => match us, hl with | [_, _], _ => rfl
    fd_keep_all := fd_keep_all, F_keep_all := F_keep_all, b_keep_all := F_keep_all.bindsN fun _ _ _ _ _ _ us hl => match us, hl with | [_, _, _], _ => rfl
    fd_Heights_shows := fd_Heights_shows, F_Heights_shows := F_Heights_shows, b_Heights_shows := F_Heights_shows.bindsN fun _ _ _ _ _ _ us hl => match us, hl with | [_, _, _], _ => rfl
    fd_sum_along := fd_sum_along, F_sum_along := F_sum_along, b_sum_along := F_sum_along.bindsN fun _ _ _ _ _ _ us hl => match us, hl with | [_, _, _, _], _ => rfl
    fd_Ring_shows := fd_Ring_shows, F_Ring_shows := F_Ring_shows, b_Ring_shows := F_Ring_shows.bindsN fun _ _ _ _ _ _ us hl => match us, hl with | [_, _, _], _ => rfl
    fd__law_kept := fd__law_kept, F__law_kept := F__law_kept, b__law_kept := F__law_kept.bindsN fun _ _ _ _ _ _ us hl => match us, hl with | [_, _, _], _ => rfl
    fd__law_sum := fd__law_sum, F__law_sum := F__law_sum, b__law_sum := F__law_sum.bindsN fun _ _ _ _ _ _ us hl => match us, hl with | [_, _, _, _], _ => rfl
    fd__law_ring := fd__law_ring, F__law_ring := F__law_ring, b__law_ring := F__law_ring.bindsN fun _ _ _ _ _ _ us hl => match us, hl with | [_, _], _ => rfl
    fd__law_due := fd__law_due, F__law_due := F__law_due, b__law_due := F__law_due.bindsN fun _ _ _ _ _ _ us hl => match us, hl with | [_, _, _], _ => rfl
    fd_Heights_init := fd_Heights_init, F_Heights_init := F_Heights_init, b_Heights_init := F_Heights_init.bindsN fun _ _ _ _ _ _ us hl => match us, hl with | [_, _], _ => rfl
    fd_Ring_init := fd_Ring_init, F_Ring_init := F_Ring_init, b_Ring_init := F_Ring_init.bindsN fun _ _ _ _ _ _ us hl => match us, hl with | [_, _], _ => rfl
    fd_is_number := fd_is_number, F_is_number := F_is_number, b_is_number := F_is_number.bindsN fun _ _ _ _ _ _ us hl => match us, hl with | [_], _ => rfl
    fd_is_below := fd_is_below, F_is_below := F_is_below, b_is_below := F_is_below.bindsN fun _ _ _ _ _ _ us hl => match us, hl with | [_, _], _ => rfl
    fd_is_saying := fd_is_saying, F_is_saying := F_is_saying, b_is_saying := F_is_saying.bindsN fun _ _ _ _ _ _ us hl => match us, hl with | [_, _], _ => rfl
    fd_check_sayings := fd_check_sayings, F_check_sayings := F_check_sayings, b_check_sayings := F_check_sayings.bindsN fun _ _ _ _ _ _ us hl => match us, hl with | [_, _], _ => rfl
    fd_lessened := fd_lessened, F_lessened := F_lessened, b_lessened := F_lessened.bindsN fun _ _ _ _ _ _ us hl => match us, hl with | [_, _, _], _ => rfl
    fd_ring_behind := fd_ring_behind, F_ring_behind := F_ring_behind, b_ring_behind := F_ring_behind.bindsN fun _ _ _ _ _ _ us hl => match us, hl with | [_, _, _], _ => rfl
    fd_from_all := fd_from_all, F_from_all := F_from_all, b_from_all := F_from_all.bindsN fun _ _ _ _ _ _ us hl => match us, hl with | [_, _], _ => rfl
    fd_heights := fd_heights, F_heights := F_heights, b_heights := F_heights.bindsN fun _ _ _ _ _ _ us hl => match us, hl with | [_, _], _ => rfl
    fd__law_right := fd__law_right, F__law_right := F__law_right, b__law_right := F__law_right.bindsN fun _ _ _ _ _ _ us hl => match us, hl with | [_, _, _], _ => rfl
    fd__law_drawn := fd__law_drawn, F__law_drawn := F__law_drawn, b__law_drawn := F__law_drawn.bindsN fun _ _ _ _ _ _ us hl => match us, hl with | [_, _], _ => rfl
    fd__law_sayings := fd__law_sayings, F__law_sayings := F__law_sayings, b__law_sayings := F__law_sayings.bindsN fun _ _ _ _ _ _ us hl => match us, hl with | [_], _ => rfl
    fd_law := fd_law, F_law := F_law, b_law := F_law.bindsN fun _ _ _ _ _ _ us hl => match us, hl with | [_], _ => rfl
    g_Answer := He.glo_ok X G (cd.fact 0 (f := .glo "Answer") rfl)
    g_Fixed := He.glo_ok X G (cd.fact 1 (f := .glo "Fixed") rfl)
    g_Follows := He.glo_ok X G (cd.fact 2 (f := .glo "Follows") rfl)
    g_Free := He.glo_ok X G (cd.fact 3 (f := .glo "Free") rfl)
    g_Heights := He.glo_ok X G (cd.fact 4 (f := .glo "Heights") rfl)
    g_Loose := He.glo_ok X G (cd.fact 5 (f := .glo "Loose") rfl)
    g_Needed := He.glo_ok X G (cd.fact 6 (f := .glo "Needed") rfl)
    g_Needless := He.glo_ok X G (cd.fact 7 (f := .glo "Needless") rfl)
    g_Ring := He.glo_ok X G (cd.fact 8 (f := .glo "Ring") rfl)
    g__law_drawn := He.glo_ok X G (cd.fact 9 (f := .glo "_law_drawn") rfl)
    g__law_due := He.glo_ok X G (cd.fact 10 (f := .glo "_law_due") rfl)
    g__law_kept := He.glo_ok X G (cd.fact 11 (f := .glo "_law_kept") rfl)
    g__law_right := He.glo_ok X G (cd.fact 12 (f := .glo "_law_right") rfl)
    g__law_ring := He.glo_ok X G (cd.fact 13 (f := .glo "_law_ring") rfl)
    g__law_sayings := He.glo_ok X G (cd.fact 14 (f := .glo "_law_sayings") rfl)
    g__law_sum := He.glo_ok X G (cd.fact 15 (f := .glo "_law_sum") rfl)
    g_check_sayings := He.glo_ok X G (cd.fact 16 (f := .glo "check_sayings") rfl)
    g_from_all := He.glo_ok X G (cd.fact 17 (f := .glo "from_all") rfl)
    g_heights := He.glo_ok X G (cd.fact 18 (f := .glo "heights") rfl)
    g_is_below := He.glo_ok X G (cd.fact 19 (f := .glo "is_below") rfl)
    g_is_number := He.glo_ok X G (cd.fact 20 (f := .glo "is_number") rfl)
    g_is_saying := He.glo_ok X G (cd.fact 21 (f := .glo "is_saying") rfl)
    g_keep := He.glo_ok X G (cd.fact 22 (f := .glo "keep") rfl)
    g_keep_all := He.glo_ok X G (cd.fact 23 (f := .glo "keep_all") rfl)
    g_law := He.glo_ok X G (cd.fact 24 (f := .glo "law") rfl)
    g_lessened := He.glo_ok X G (cd.fact 25 (f := .glo "lessened") rfl)
    g_ring_behind := He.glo_ok X G (cd.fact 26 (f := .glo "ring_behind") rfl)
    g_sum_along := He.glo_ok X G (cd.fact 27 (f := .glo "sum_along") rfl)
    n_all := He.free_ok X G (cd.fact 28 (f := .free "all") rfl)
    n_any := He.free_ok X G (cd.fact 29 (f := .free "any") rfl)
    n_bool := He.free_ok X G (cd.fact 30 (f := .free "bool") rfl)
    n_enumerate := He.free_ok X G (cd.fact 31 (f := .free "enumerate") rfl)
    n_int := He.free_ok X G (cd.fact 32 (f := .free "int") rfl)
    n_isinstance := He.free_ok X G (cd.fact 33 (f := .free "isinstance") rfl)
    n_len := He.free_ok X G (cd.fact 34 (f := .free "len") rfl)
    n_list := He.free_ok X G (cd.fact 35 (f := .free "list") rfl)
    n_range := He.free_ok X G (cd.fact 36 (f := .free "range") rfl)
    n_sum := He.free_ok X G (cd.fact 37 (f := .free "sum") rfl)
    n_tuple := He.free_ok X G (cd.fact 38 (f := .free "tuple") rfl)
    c_Heights := He.cls_ok (cd.fact 39 (f := .cls "Heights") rfl)
    c_Ring := He.cls_ok (cd.fact 40 (f := .cls "Ring") rfl)
    k_Heights := He.mkr_ok (cd.fact 41 (f := .mkr "Heights") rfl)
    k_Ring := He.mkr_ok (cd.fact 42 (f := .mkr "Ring") rfl)
    m_Heights_shows := He.meth_ok (cd.fact 43 (f := .meth "Heights" "shows") rfl)
    m_Ring_shows := He.meth_ok (cd.fact 44 (f := .meth "Ring" "shows") rfl)
    aF := ansB_ok (c.ck 0 (f := (ansB kds)) rfl)
  }
  have e := hfa.symm.trans T.g_law
  cases e
  have b := FunD.bindsA (ps := ["_law_script"]) T.F_law fun _ _ _ _ _ _ us hl => match us, hl with | [_], _ => rfl
  exact ⟨T.fd_law, fun s v => b s [v] rfl, fun base _ _ => ok_law T⟩
end Am
open PySem PySem.W PySem.Calls PyProof.Rows
theorem PySem.Challenge.cw_atmost_k02_whole_heights_holds : PySem.Challenge.rw_atmost_k02_whole_heights.Holds := by
  w_on; o_law
  refine HandSHeadRun.head_any (r := Am.Rw) (q := view Am.Rw.prog [36]) (H := Am.hk) (ob := Am.ob) (M := 6000) (loose := Am.loose) (d := HandSHeadRun.topDef Am.Rw.prog 36) (kwd := []) Am.ob_eq
    (by kernel_rfl) (fun s => by kernel_rfl) Am.run_top (by kernel_rfl) (by kernel_rfl) (by kernel_rfl) (by rfl) (by first | assumption | decide +kernel) (by decide +kernel) ⟨rfl, rfl, rfl, rfl, rfl, by decide +kernel⟩ ?hw ?hc
  case hw => w_witness2
  case hc =>
    refine L2.walk_ofE (l := PySem.Challenge.rw_atmost_k02_whole_heights) (n := 63) (k := 7) (x := "_law_script") (CX := L2.CX0) rfl (by decide) (by kernel_rfl) ⟨rfl, by decide, by decide⟩ ?F (fun _ _ _ _ z => z)
    intro w mg fa h Y G hmg0
    obtain ⟨K, KX, c⟩ := Y
    have hmg : mg ("law" : PySem.Str) = some (.ref fa) := by
      have e : (HandSHeadRun.topDef Am.Rw.prog 36).name = ("law" : PySem.Str) := by kernel_rfl
      rw [← e]
      exact hmg0
    obtain ⟨fd, hb, hF⟩ := Am.facts (P := (PySem.Challenge.rw_atmost_k02_whole_heights).prog) (w := w) KX G hmg c
    exact ⟨K, fd, Am.sp_law K, KX, hb, fun H a ns hl _ hS => ⟨a, ns, rfl, hS, hl, fun _ => rfl⟩, hF⟩
#print axioms PySem.Challenge.cw_atmost_k02_whole_heights_holds

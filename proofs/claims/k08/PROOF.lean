import PyProof.Rows.All
import Wide.All
import OpenK.AllK
import Wide.FinOn
import KE.KStateDown
import HandS.ForMost
import HandS.Exc
import HandS.TryOnly
import HandS.ExcOwn
import HandS.WordsExc
import HandS.Evl
import HandS.IsInst
import HandS.Style
import HandS.Conv
import HandS.Defaults
import HandS.Head0
import HandS.Head1
import HandS.Head2
import HandS.HeadEnd
import HandS.HeadHook1
import HandS.HeadHook2
import HandS.ExcCtx
import HandS.Hot
import HandS.HotCalls
import HandS.ExcIs
import PyProof.WalkLemmas
import HandS.Walk
import HandS.ExcInit
import HandS.ExcField
import HandS.ExcInitHot
import KE.KExcIs
import HandS.Sort
import KE.GoesComp
import KE.GoesMore
import PyProof.PureInt
import PySem.Challenge.RW_atmost_k08_refused
set_option Elab.async false
set_option linter.all false
set_option maxRecDepth 100000
set_option maxHeartbeats 8000000
namespace Am
abbrev Say := Nat × Nat × Int
abbrev Sums := List (Option Int)
def z0 : Say := (0, 0, 0)
/-- what a saying asks of sums is not yet so -/
def slack (sums : Sums) (s : Say) : Bool :=
  match sums.getD s.1 none with
  | none => false
  | some x => match sums.getD s.2.1 none with
    | none => true
    | some y => decide (x + s.2.2 < y)
structure LSt where
  sums : Sums
  last : List Int
  ch : Int
def turn (st : LSt) (a : Nat) (s : Say) : LSt :=
  if slack st.sums s then ⟨st.sums.set s.2.1 (some ((st.sums.getD s.1 none).getD 0 + s.2.2)), st.last.set s.2.1 (a : Int), (s.2.1 : Int)⟩ else st
/-- a round as far as the i-th saying -/
def upTo (ss : List Say) (st : LSt) : Nat → LSt
  | 0 => st
  | i + 1 => turn (upTo ss st i) i (ss.getD i z0)
def round (ss : List Say) (st : LSt) : LSt := upTo ss { st with ch := -1 } ss.length
def rounds (ss : List Say) : Nat → LSt → LSt
  | 0, st => st
  | k + 1, st => if (round ss st).ch < 0 then { round ss st with ch := -1 } else rounds ss k (round ss st)
def lessened (ss : List Say) (sums : Sums) (last : List Int) : LSt := rounds ss (sums.length + 1) ⟨sums, last, 0⟩

def Ok (n : Nat) (ss : List Say) : Prop := ∀ s ∈ ss, s.1 < n ∧ s.2.1 < n
theorem Ok.get {n : Nat} {ss : List Say} (h : Ok n ss) {i : Nat} {s : Say} (e : ss[i]? = some s) : s.1 < n ∧ s.2.1 < n := h s (List.mem_of_getElem? e)

inductive Walk (ss : List Say) (last : List Int) : Nat → List Nat → Nat → Int → Prop
  | nil (v : Nat) : Walk ss last v [] v 0
  | step {v l u a : Nat} {m W : Int} {as : List Nat} : last.getD v (-1) = (a : Int) → ss[a]? = some (l, v, m) → Walk ss last l as u W → Walk ss last v (a :: as) u (W + m)

/-- relaxed: what the saying asks is so -/
theorem slack_false {sums : Sums} {l u : Nat} {m x : Int} (h : slack sums (l, u, m) = false) (e : sums.getD l none = some x) : ∃ y, sums.getD u none = some y ∧ y ≤ x + m := by
  unfold slack at h
  simp only [e] at h
  cases q : sums.getD u none with
  | none => rw [q] at h; simp at h
  | some y =>
    rw [q] at h
    simp at h
    exact ⟨y, rfl, by omega⟩
theorem slack_of {sums : Sums} {l u : Nat} {m x y : Int} (e : sums.getD l none = some x) (e2 : sums.getD u none = some y) (h : y ≤ x + m) : slack sums (l, u, m) = false := by
  unfold slack
  simp only [e, e2]
  simp
  omega
theorem slack_none {sums : Sums} {l u : Nat} {m : Int} (e : sums.getD l none = none) : slack sums (l, u, m) = false := by
  unfold slack
  simp only [e]
theorem slack_true {sums : Sums} {l u : Nat} {m : Int} (h : slack sums (l, u, m) = true) : ∃ x, sums.getD l none = some x ∧ (sums.getD u none = none ∨ ∃ y, sums.getD u none = some y ∧ x + m < y) := by
  unfold slack at h
  cases e : sums.getD l none with
  | none => rw [e] at h; simp at h
  | some x =>
    rw [e] at h
    refine ⟨x, rfl, ?_⟩
    cases q : sums.getD u none with
    | none => exact .inl rfl
    | some y =>
      rw [q] at h
      simp at h
      exact .inr ⟨y, rfl, h⟩

theorem getD_set {α : Type} {l : List α} {i j : Nat} {a d : α} (hi : i < l.length) : (l.set i a).getD j d = if j = i then a else l.getD j d := by
  rw [List.getD_eq_getElem?_getD, List.getD_eq_getElem?_getD]
  by_cases h : j = i
  · subst h
    rw [if_pos rfl, List.getElem?_set_self hi]
    rfl
  · rw [if_neg h, List.getElem?_set_ne (Ne.symm h)]

/-- the invariant: round r, j sayings of it done; t: the round in which a place was changed last -/
structure LInv (n : Nat) (ss : List Say) (S0 : Sums) (r j : Nat) (sums : Sums) (last : List Int) (t : Nat → Nat) : Prop where
  len : sums.length = n
  lenL : last.length = n
  lst : ∀ v, v < n → last.getD v (-1) = -1 ∨ ∃ a : Nat, last.getD v (-1) = (a : Int)
  root : ∀ v, last.getD v (-1) = -1 → t v = 0 ∧ sums.getD v none = S0.getD v none
  par : ∀ v (a : Nat), last.getD v (-1) = (a : Int) → ∃ l m x y, ss[a]? = some (l, v, m) ∧ sums.getD l none = some x ∧ sums.getD v none = some y ∧ x + m ≤ y ∧ t v ≤ t l + 1 ∧ v < n
  tle : ∀ v, t v ≤ r
  rel : ∀ i s, ss[i]? = some s → (if i < j then t s.1 < r else t s.1 + 1 < r) → slack sums s = false
  neg : ∀ v a as W, Walk ss last v (a :: as) v W → W < 0
  mono : ∀ v x, S0.getD v none = some x → ∃ y, sums.getD v none = some y ∧ y ≤ x

section
variable {n : Nat} {ss : List Say} {S0 sums : Sums} {last : List Int} {r j : Nat} {t : Nat → Nat}

theorem LInv.walk (I : LInv n ss S0 r j sums last t) {v u : Nat} {as : List Nat} {W : Int} (w : Walk ss last v as u W) : ∀ y, sums.getD v none = some y → ∃ x, sums.getD u none = some x ∧ x + W ≤ y := by
  induction w with
  | nil v => intro y h; exact ⟨y, h, by omega⟩
  | step h1 h2 _ ih =>
    intro y h
    obtain ⟨l', m', x, y', e1, e2, e3, e4, _⟩ := I.par _ _ h1
    rw [h2] at e1
    cases e1
    rw [h] at e3
    cases e3
    obtain ⟨x', q1, q2⟩ := ih x e2
    exact ⟨x', q1, by omega⟩

theorem LInv.keep (I : LInv n ss S0 r j sums last t) {s : Say} (hs : ss[j]? = some s) (h : slack sums s = false) : LInv n ss S0 r (j + 1) sums last t := by
  refine ⟨I.len, I.lenL, I.lst, I.root, I.par, I.tle, fun i s' e q => ?_, I.neg, I.mono⟩
  by_cases hij : i = j
  · subst hij
    rw [hs] at e
    cases e
    exact h
  · refine I.rel i s' e ?_
    by_cases hlt : i < j
    · rw [if_pos hlt]
      rw [if_pos (by omega)] at q
      exact q
    · rw [if_neg hlt]
      rw [if_neg (by omega)] at q
      exact q

theorem LInv.change (ok : Ok n ss) (I : LInv n ss S0 r j sums last t) {l u : Nat} {m : Int} (hs : ss[j]? = some (l, u, m)) (h : slack sums (l, u, m) = true) (hr : 0 < r) :
    LInv n ss S0 r (j + 1) (sums.set u (some ((sums.getD l none).getD 0 + m))) (last.set u (j : Int)) (fun v => if v = u then r else t v) := by
  obtain ⟨x, hx, hu⟩ := slack_true h
  obtain ⟨hln, hun⟩ := ok.get hs
  simp only at hln hun
  have hus : u < sums.length := by rw [I.len]; exact hun
  have hul : u < last.length := by rw [I.lenL]; exact hun
  rw [hx]
  simp only [Option.getD_some]
  have gS : ∀ v, (sums.set u (some (x + m))).getD v none = if v = u then some (x + m) else sums.getD v none := fun v => getD_set hus
  have gL : ∀ v, (last.set u (j : Int)).getD v (-1) = if v = u then (j : Int) else last.getD v (-1) := fun v => getD_set hul
  -- the changed one's lower place was changed in this round or the one ahead
  have htl : r ≤ t l + 1 := by
    by_cases q : r ≤ t l + 1
    · exact q
    · have := I.rel j (l, u, m) hs (by rw [if_neg (Nat.lt_irrefl _)]; exact Nat.lt_of_not_le q)
      rw [this] at h
      cases h
  have dn : ∀ v y, sums.getD v none = some y → ∃ z, (sums.set u (some (x + m))).getD v none = some z ∧ z ≤ y := fun v y e => by
    rw [gS]
    by_cases hv : v = u
    · rw [if_pos hv]
      refine ⟨_, rfl, ?_⟩
      subst hv
      rcases hu with hu | ⟨y', hu, lt⟩
      · rw [hu] at e; cases e
      · rw [hu] at e; cases e; omega
    · rw [if_neg hv]
      exact ⟨y, e, Int.le_refl _⟩
  have par' : ∀ v (a : Nat), (last.set u (j : Int)).getD v (-1) = (a : Int) → ∃ l' m' x' y', ss[a]? = some (l', v, m') ∧ (sums.set u (some (x + m))).getD l' none = some x' ∧ (sums.set u (some (x + m))).getD v none = some y' ∧ x' + m' ≤ y' ∧ (if v = u then r else t v) ≤ (if l' = u then r else t l') + 1 ∧ v < n ∧ (l' = u → v ≠ u ∨ m' < 0 → x' + m' < y') ∧ (v = u → a = j) := fun v a e => by
    rw [gL] at e
    by_cases hv : v = u
    · rw [if_pos hv] at e
      have ej : j = a := by omega
      subst hv ej
      obtain ⟨z, hz, hzx⟩ := dn l x hx
      refine ⟨l, m, z, x + m, hs, hz, by rw [gS, if_pos rfl], by omega, ?_, hun, ?_, fun _ => rfl⟩
      · rw [if_pos rfl]
        by_cases hl : l = v
        · rw [if_pos hl]; omega
        · rw [if_neg hl]; exact htl
      · intro hl _
        subst hl
        rw [gS, if_pos rfl] at hz
        cases hz
        rcases hu with hu | ⟨y', hu, lt⟩
        · rw [hu] at hx; cases hx
        · rw [hu] at hx; cases hx; omega
    · rw [if_neg hv] at e
      obtain ⟨l', m', x', y', e1, e2, e3, e4, e5, e6⟩ := I.par v a e
      obtain ⟨z, hz, hzx⟩ := dn l' x' e2
      refine ⟨l', m', z, y', e1, hz, by rw [gS, if_neg hv]; exact e3, by omega, ?_, e6, ?_, fun q => absurd q hv⟩
      · rw [if_neg hv]
        by_cases hl : l' = u
        · rw [if_pos hl]
          have := I.tle v
          omega
        · rw [if_neg hl]; exact e5
      · intro hl _
        subst hl
        rw [gS, if_pos rfl] at hz
        cases hz
        rcases hu with hu | ⟨w, hu, lt⟩
        · rw [hu] at e2; cases e2
        · rw [hu] at e2; cases e2; omega
  -- in the new graph: strictly less along a walk that comes to u, else a walk of the old one
  have key : ∀ v as w W, Walk ss (last.set u (j : Int)) v as w W → ∀ y, (sums.set u (some (x + m))).getD v none = some y → ∃ z, (sums.set u (some (x + m))).getD w none = some z ∧
      (z + W < y ∨ (z + W ≤ y ∧ (as ≠ [] → w ≠ u) ∧ (v ≠ u → Walk ss last v as w W))) := by
    intro v as w W hw
    induction hw with
    | nil v => intro y hy; exact ⟨y, hy, .inr ⟨by omega, fun q => absurd rfl q, fun _ => .nil v⟩⟩
    | @step v l' w' a m' W as h1 h2 _ ih =>
      intro y hy
      obtain ⟨l2, m2, x', y', e1, e2, e3, e4, _, _, e7, e8⟩ := par' v a h1
      rw [h2] at e1
      cases e1
      rw [hy] at e3
      cases e3
      obtain ⟨z, hz, hq⟩ := ih x' e2
      refine ⟨z, hz, ?_⟩
      by_cases hl : l' = u
      · have st : x' + m' < y := by
          by_cases hv : v = u
          · -- a place above itself
            have ea := e8 hv
            subst ea
            rw [hs] at h2
            cases h2
            refine e7 hl (.inr ?_)
            subst hl
            rcases hu with hu | ⟨y', hu, lt⟩
            · rw [hu] at hx; cases hx
            · rw [hu] at hx; cases hx; omega
          · exact e7 hl (.inl hv)
        left
        rcases hq with hq | ⟨hq, _⟩ <;> omega
      · rcases hq with hq | ⟨hq, h3, h4⟩
        · left; omega
        · right
          refine ⟨by omega, fun _ => ?_, fun hv => ?_⟩
          · cases as with
            | nil =>
              have w0 := h4 hl
              cases w0
              exact hl
            | cons b bs => exact h3 (by simp)
          · rw [gL, if_neg hv] at h1
            exact .step h1 h2 (h4 hl)
  refine ⟨by rw [List.length_set]; exact I.len, by rw [List.length_set]; exact I.lenL, fun v hv => ?_, fun v e => ?_, fun v a e => ?_, fun v => ?_, fun i s e q => ?_, fun v a as W hw => ?_, fun v y e => ?_⟩
  · rw [gL]
    by_cases hvu : v = u
    · rw [if_pos hvu]; exact .inr ⟨j, rfl⟩
    · rw [if_neg hvu]; exact I.lst v hv
  · rw [gL] at e
    by_cases hvu : v = u
    · rw [if_pos hvu] at e; omega
    · rw [if_neg hvu] at e
      rw [gS, if_neg hvu]
      simp only [if_neg hvu]
      exact I.root v e
  · obtain ⟨l', m', x', y', e1, e2, e3, e4, e5, e6, _⟩ := par' v a e
    exact ⟨l', m', x', y', e1, e2, e3, e4, e5, e6⟩
  · by_cases hvu : v = u
    · simp only [if_pos hvu]; exact Nat.le_refl _
    · simp only [if_neg hvu]; exact I.tle v
  · -- relaxed ones
    obtain ⟨l', u', m'⟩ := s
    simp only at q
    by_cases hl : l' = u
    · rw [if_pos hl] at q
      split at q <;> omega
    · rw [if_neg hl] at q
      by_cases hij : i = j
      · subst hij
        rw [hs] at e
        cases e
        exact slack_of (by rw [gS, if_neg hl]; exact hx) (by rw [gS, if_pos rfl]) (Int.le_refl _)
      · have old := I.rel i (l', u', m') e (by
          by_cases hlt : i < j
          · rw [if_pos hlt]; rw [if_pos (by omega)] at q; exact q
          · rw [if_neg hlt]; rw [if_neg (by omega)] at q; exact q)
        cases hx' : sums.getD l' none with
        | none => exact slack_none (by rw [gS, if_neg hl]; exact hx')
        | some x' =>
          obtain ⟨y', hy', le⟩ := slack_false old hx'
          obtain ⟨z, hz, hzy⟩ := dn u' y' hy'
          exact slack_of (by rw [gS, if_neg hl]; exact hx') hz (by omega)
  · have hy : ∃ y, (sums.set u (some (x + m))).getD v none = some y := by
      cases hw with
      | step h1 h2 _ =>
        obtain ⟨_, _, _, y', _, _, e3, _⟩ := par' v a h1
        exact ⟨y', e3⟩
    obtain ⟨y, hy⟩ := hy
    obtain ⟨z, hz, hq⟩ := key v (a :: as) v W hw y hy
    rw [hy] at hz
    cases hz
    rcases hq with hq | ⟨hq, h3, h4⟩
    · omega
    · exact I.neg v a as W (h4 (h3 (by simp)))
  · obtain ⟨z, hz, le⟩ := I.mono v y e
    obtain ⟨z', hz', le'⟩ := dn v z hz
    exact ⟨z', hz', by omega⟩

/-- the next round -/
theorem LInv.next (I : LInv n ss S0 r ss.length sums last t) : LInv n ss S0 (r + 1) 0 sums last t := by
  refine ⟨I.len, I.lenL, I.lst, I.root, I.par, fun v => Nat.le_succ_of_le (I.tle v), fun i s e q => ?_, I.neg, I.mono⟩
  refine I.rel i s e ?_
  have hi := (List.getElem?_eq_some_iff.mp e).1
  rw [if_pos hi]
  rw [if_neg (by omega)] at q
  omega
end
end Am

namespace Am

def sayAt (ss : List Say) (a : Int) : Option Say := if 0 ≤ a then ss[a.toNat]? else none
def run (ss : List Say) : List Int → Nat → Int → Option (Nat × Int)
  | [], p, t => some (p, t)
  | a :: r, p, t => match sayAt ss a with
    | some (l, u, m) => if l = p then run ss r u (t + m) else none
    | none => none
def ends (q : Nat) : Option (Nat × Int) → Option Int
  | some (x, t) => if x = q then some t else none
  | none => none
/-- a chain's sum from p to q -/
def sumAlong (ss : List Say) (c : List Int) (p q : Nat) : Option Int := ends q (run ss c p 0)
def keeps (hs : List Int) (s : Say) : Bool := decide (hs.getD s.2.1 0 - hs.getD s.1 0 ≤ s.2.2)
def keepAll (n : Nat) (ss : List Say) (hs : List Int) : Bool := decide (hs.length = n) && ss.all (keeps hs)
def isRing (ss : List Say) (c : List Int) : Bool :=
  match c with
  | [] => false
  | a :: _ => match sayAt ss a with
    | some (l, _, _) => match sumAlong ss c l l with
      | some t => decide (t < 0)
      | none => false
    | none => false

theorem sayAt_nat (ss : List Say) (a : Nat) : sayAt ss (a : Int) = ss[a]? := by
  unfold sayAt
  rw [if_pos (Int.natCast_nonneg a)]
  simp
theorem run_cons (ss : List Say) (a : Int) (r : List Int) (p : Nat) (t : Int) : run ss (a :: r) p t = match sayAt ss a with
    | some (l, u, m) => if l = p then run ss r u (t + m) else none
    | none => none := rfl
theorem run_append (ss : List Say) : ∀ (c d : List Int) (p : Nat) (t : Int), run ss (c ++ d) p t = match run ss c p t with | some (x, t') => run ss d x t' | none => none
  | [], d, p, t => rfl
  | a :: r, d, p, t => by
    show run ss (a :: (r ++ d)) p t = _
    rw [run_cons, run_cons]
    cases h : sayAt ss a with
    | none => rfl
    | some s =>
      obtain ⟨l, u, m⟩ := s
      simp only
      by_cases q : l = p
      · rw [if_pos q, if_pos q]
        exact run_append ss r d u (t + m)
      · rw [if_neg q, if_neg q]
/-- a chain's numbers do not lean on where the sum begins -/
theorem run_shift (ss : List Say) : ∀ (c : List Int) (p : Nat) (t : Int), run ss c p t = (run ss c p 0).map fun x => (x.1, x.2 + t)
  | [], p, t => by show some (p, t) = some (p, 0 + t); rw [Int.zero_add]
  | a :: r, p, t => by
    unfold run
    cases h : sayAt ss a with
    | none => rfl
    | some s =>
      obtain ⟨l, u, m⟩ := s
      simp only
      by_cases q : l = p
      · rw [if_pos q, if_pos q, run_shift ss r u (t + m), run_shift ss r u (0 + m)]
        cases run ss r u 0 with
        | none => rfl
        | some x => simp; omega
      · rw [if_neg q, if_neg q]; rfl

section
variable {n : Nat} {ss : List Say} {S0 sums : Sums} {last : List Int} {r j : Nat} {t : Nat → Nat}

theorem Walk.cast {v u : Nat} {as : List Nat} {W W' : Int} (w : Walk ss last v as u W) (e : W = W') : Walk ss last v as u W' := e ▸ w
theorem Walk.app {v u x : Nat} {as bs : List Nat} {W W' : Int} (w : Walk ss last v as u W) (w' : Walk ss last u bs x W') : Walk ss last v (as ++ bs) x (W' + W) := by
  induction w with
  | nil v => exact w'.cast (by omega)
  | step h1 h2 _ ih => exact (Walk.step h1 h2 (ih w')).cast (by omega)
/-- against the steps a walk is a chain -/
theorem Walk.run {v u : Nat} {as : List Nat} {W : Int} (w : Walk ss last v as u W) : ∀ t0, Am.run ss (as.reverse.map Int.ofNat) u t0 = some (v, t0 + W) := by
  induction w with
  | nil v => intro t0; show some (v, t0) = _; rw [Int.add_zero]
  | @step v l u a m W as h1 h2 _ ih =>
    intro t0
    rw [List.reverse_cons, List.map_append, run_append, ih t0]
    show Am.run ss [Int.ofNat a] l (t0 + W) = _
    unfold Am.run
    have e : sayAt ss (Int.ofNat a) = some (l, v, m) := (sayAt_nat ss a).trans h2
    rw [e]
    simp only [if_true]
    show some (v, t0 + W + m) = _
    rw [Int.add_assoc]
theorem Walk.sum {v u : Nat} {as : List Nat} {W : Int} (w : Walk ss last v as u W) : sumAlong ss (as.reverse.map Int.ofNat) u v = some W := by
  unfold sumAlong
  rw [w.run 0]
  show (if v = v then some (0 + W) else none) = some W
  rw [if_pos rfl, Int.zero_add]
theorem Walk.ring {v a : Nat} {as : List Nat} {W : Int} (w : Walk ss last v (a :: as) v W) (h : W < 0) : isRing ss ((a :: as).reverse.map Int.ofNat) = true := by
  have e := w.sum
  have r := w.run 0
  cases q : (a :: as).reverse.map Int.ofNat with
  | nil => simp at q
  | cons b bs =>
    rw [q] at e r
    unfold isRing
    unfold Am.run at r
    cases q2 : sayAt ss b with
    | none => rw [q2] at r; simp at r
    | some s =>
      obtain ⟨l, x, m⟩ := s
      rw [q2] at r
      simp only at r
      by_cases hl : l = v
      · subst hl
        simp only [q2, e]
        exact decide_eq_true h
      · rw [if_neg hl] at r; cases r

/-- the places of a walk -/
def verts (ss : List Say) : Nat → List Nat → List Nat
  | v, [] => [v]
  | v, a :: as => v :: verts ss (ss.getD a z0).1 as
theorem verts_len (ss : List Say) : ∀ (v : Nat) (as : List Nat), (verts ss v as).length = as.length + 1
  | v, [] => rfl
  | v, a :: as => by show (verts ss _ as).length + 1 = _; rw [verts_len ss _ as]; rfl
theorem getD_some {α : Type} {l : List α} {i : Nat} {x d : α} (h : l[i]? = some x) : l.getD i d = x := by
  rw [List.getD_eq_getElem?_getD, h]; rfl
theorem Walk.mid {v u : Nat} {as : List Nat} {W : Int} (w : Walk ss last v as u W) : ∀ y ∈ verts ss v as, ∃ bs cs W1 W2, Walk ss last v bs y W1 ∧ Walk ss last y cs u W2 ∧ bs.length + cs.length = as.length := by
  induction w with
  | nil v =>
    intro y hy
    have e : y = v := by simpa [verts] using hy
    subst e
    exact ⟨[], [], 0, 0, .nil y, .nil y, rfl⟩
  | @step v l u a m W as h1 h2 w ih =>
    intro y hy
    have e : verts ss v (a :: as) = v :: verts ss l as := by
      show v :: verts ss (ss.getD a z0).1 as = _
      rw [getD_some h2]
    rw [e] at hy
    rcases List.mem_cons.mp hy with q | q
    · subst q
      exact ⟨[], a :: as, 0, W + m, .nil y, .step h1 h2 w, by simp⟩
    · obtain ⟨bs, cs, W1, W2, w1, w2, hl⟩ := ih y q
      exact ⟨a :: bs, cs, W1 + m, W2, .step h1 h2 w1, w2, by simp only [List.length_cons]; omega⟩
theorem Walk.twice {v u : Nat} {as : List Nat} {W : Int} (w : Walk ss last v as u W) (h : ¬ (verts ss v as).Nodup) : ∃ y b bs cs W1 W2, Walk ss last y (b :: bs) y W1 ∧ Walk ss last y cs u W2 ∧ (b :: bs).length ≤ as.length := by
  induction w with
  | nil v => exact absurd (by simp [verts]) h
  | @step v l u a m W as h1 h2 w ih =>
    have e : verts ss v (a :: as) = v :: verts ss l as := by
      show v :: verts ss (ss.getD a z0).1 as = _
      rw [getD_some h2]
    rw [e] at h
    by_cases q : v ∈ verts ss l as
    · obtain ⟨bs, cs, W1, W2, w1, w2, hl⟩ := w.mid v q
      exact ⟨v, a, bs, cs, W1 + m, W2, .step h1 h2 w1, w2, by simp only [List.length_cons]; omega⟩
    · by_cases q2 : (verts ss l as).Nodup
      · exact absurd (List.nodup_cons.mpr ⟨q, q2⟩) h
      · obtain ⟨y, b, bs, cs, W1, W2, w1, w2, hl⟩ := ih q2
        exact ⟨y, b, bs, cs, W1, W2, w1, w2, Nat.le_trans hl (Nat.le_succ _)⟩
theorem Walk.low {v u : Nat} {as : List Nat} {W : Int} (w : Walk ss last v as u W) (hs : ∀ v (a : Nat), last.getD v (-1) = (a : Int) → v < n) (hu : u < n) : ∀ y ∈ verts ss v as, y < n := by
  induction w with
  | nil v => intro y hy; have e : y = v := by simpa [verts] using hy
             subst e; exact hu
  | @step v l u a m W as h1 h2 w ih =>
    intro y hy
    have e : verts ss v (a :: as) = v :: verts ss l as := by
      show v :: verts ss (ss.getD a z0).1 as = _
      rw [getD_some h2]
    rw [e] at hy
    rcases List.mem_cons.mp hy with q | q
    · subst q; exact hs _ _ h1
    · exact ih hu y q
theorem Walk.det {v l : Nat} {a : Nat} {m : Int} (h1 : last.getD v (-1) = (a : Int)) (h2 : ss[a]? = some (l, v, m)) {b u : Nat} {bs : List Nat} {W : Int} (w : Walk ss last v (b :: bs) u W) : b = a ∧ ∃ W', Walk ss last l bs u W' ∧ W = W' + m := by
  cases w with
  | step g1 g2 w' =>
    rw [h1] at g1
    have e : a = b := by omega
    subst e
    rw [h2] at g2
    cases g2
    exact ⟨rfl, _, w', rfl⟩
/-- a ring at a walk's start is one at its end -/
theorem Walk.turn {y u : Nat} {cs : List Nat} {W2 : Int} (w : Walk ss last y cs u W2) : ∀ {b : Nat} {bs : List Nat} {W1 : Int}, Walk ss last y (b :: bs) y W1 → ∃ d ds W3, Walk ss last u (d :: ds) u W3 ∧ (d :: ds).length = (b :: bs).length := by
  induction w with
  | nil v => intro b bs W1 h; exact ⟨b, bs, W1, h, rfl⟩
  | @step v l u a m W as h1 h2 w ih =>
    intro b bs W1 h
    obtain ⟨e, W', w', e'⟩ := Walk.det h1 h2 h
    subst e
    have c := w'.app (Walk.step h1 h2 (Walk.nil l))
    cases bs with
    | nil => exact ih c
    | cons d ds =>
      obtain ⟨d2, ds2, W4, w4, hl⟩ := ih c
      exact ⟨d2, ds2, W4, w4, by rw [hl]; simp⟩
/-- so many steps: a ring at the end -/
theorem Walk.long {v u : Nat} {as : List Nat} {W : Int} (w : Walk ss last v as u W) (hs : ∀ v (a : Nat), last.getD v (-1) = (a : Int) → v < n) (hu : u < n) (hl : n ≤ as.length) : ∃ d ds W3, Walk ss last u (d :: ds) u W3 ∧ (d :: ds).length ≤ as.length := by
  have h : ¬ (verts ss v as).Nodup := fun q => by
    have := List.Nodup.length_le_of_subset q (l₂ := List.range n) fun y hy => List.mem_range.mpr (w.low hs hu y hy)
    rw [verts_len, List.length_range] at this
    omega
  obtain ⟨y, b, bs, cs, W1, W2, w1, w2, hl2⟩ := w.twice h
  obtain ⟨d, ds, W3, w3, hl3⟩ := w2.turn w1
  exact ⟨d, ds, W3, w3, by rw [hl3]; exact hl2⟩

/-- what ring_behind wants: so many steps back, and a ring there -/
def Deep (ss : List Say) (last : List Int) (v : Nat) : Prop := ∃ as x W d ds W3, Walk ss last v as x W ∧ as.length = last.length ∧ Walk ss last x (d :: ds) x W3 ∧ (∀ y b bs Wb, Walk ss last y (b :: bs) y Wb → Wb < 0) ∧ (d :: ds).length ≤ last.length
theorem LInv.steps (I : LInv n ss S0 r j sums last t) : ∀ (k : Nat) (v : Nat), v < n → k ≤ t v → ∃ as x W, Walk ss last v as x W ∧ as.length = k ∧ x < n
  | 0, v, hv, _ => ⟨[], v, 0, .nil v, rfl, hv⟩
  | k + 1, v, hv, h => by
    rcases I.lst v hv with q | ⟨a, q⟩
    · have := (I.root v q).1; omega
    · obtain ⟨l, m, x, y, e1, e2, e3, e4, e5, e6⟩ := I.par v a q
      have hl : l < n := by
        rcases Nat.lt_or_ge l n with g | g
        · exact g
        · rw [List.getD_eq_getElem?_getD, List.getElem?_eq_none (by rw [I.len]; exact g)] at e2
          cases e2
      obtain ⟨as, x, W, w, hk, hx⟩ := I.steps k l hl (by omega)
      exact ⟨a :: as, x, W + m, .step q e1 w, by simp [hk], hx⟩
theorem LInv.deep (I : LInv n ss S0 r j sums last t) {v : Nat} (hv : v < n) (h : n ≤ t v) : Deep ss last v := by
  obtain ⟨as, x, W, w, hk, hx⟩ := I.steps n v hv h
  obtain ⟨d, ds, W3, w3, hl⟩ := w.long (n := n) (fun v a e => by obtain ⟨_, _, _, _, _, _, _, _, _, e6⟩ := I.par v a e; exact e6) hx (Nat.le_of_eq hk.symm)
  exact ⟨as, x, W, d, ds, W3, w, hk.trans I.lenL.symm, w3, I.neg, by rw [I.lenL, ← hk]; exact hl⟩

/-- heights that keep all: along a walk no place is more above than its sum -/
def Kept (ss : List Say) (h : Nat → Int) : Prop := ∀ s ∈ ss, h s.2.1 - h s.1 ≤ s.2.2
theorem Walk.kept {h : Nat → Int} (k : Kept ss h) {v u : Nat} {as : List Nat} {W : Int} (w : Walk ss last v as u W) : h v ≤ h u + W := by
  induction w with
  | nil v => omega
  | step h1 h2 _ ih =>
    have := k _ (List.mem_of_getElem? h2)
    simp only at this
    omega
theorem run_kept {h : Nat → Int} (k : Kept ss h) : ∀ {c : List Int} {p q : Nat} {t0 t1 : Int}, run ss c p t0 = some (q, t1) → h q + t0 ≤ h p + t1
  | [], p, q, t0, t1, e => by
    cases e; omega
  | a :: r, p, q, t0, t1, e => by
    unfold run at e
    cases hs : sayAt ss a with
    | none => rw [hs] at e; cases e
    | some s =>
      obtain ⟨l, u, m⟩ := s
      rw [hs] at e
      simp only at e
      by_cases hl : l = p
      · rw [if_pos hl] at e
        have ih := run_kept k e
        have mem : (l, u, m) ∈ ss := by
          unfold sayAt at hs
          split at hs
          · exact List.mem_of_getElem? hs
          · cases hs
        have := k _ mem
        simp only at this
        subst hl
        omega
      · rw [if_neg hl] at e; cases e
theorem sum_kept {h : Nat → Int} (k : Kept ss h) {c : List Int} {p q : Nat} {W : Int} (e : sumAlong ss c p q = some W) : h q ≤ h p + W := by
  unfold sumAlong at e
  cases hr : run ss c p 0 with
  | none => rw [hr] at e; cases e
  | some x =>
    obtain ⟨y, t1⟩ := x
    rw [hr] at e
    simp only [ends] at e
    by_cases hy : y = q
    · rw [if_pos hy] at e
      cases e
      subst hy
      have := run_kept k hr
      omega
    · rw [if_neg hy] at e; cases e
theorem keepAll_kept {n : Nat} {hs : List Int} (h : keepAll n ss hs = true) : Kept ss (fun v => hs.getD v 0) := by
  unfold keepAll at h
  simp only [Bool.and_eq_true, List.all_eq_true] at h
  intro s m
  have := h.2 s m
  unfold keeps at this
  simpa using this
/-- never both -/
theorem ring_not_kept {c : List Int} (h : isRing ss c = true) {f : Nat → Int} (k : Kept ss f) : False := by
  unfold isRing at h
  split at h
  · cases h
  · split at h
    · split at h
      · rename_i e
        have := sum_kept k e
        have := of_decide_eq_true h
        omega
      · cases h
    · cases h

/-- what chain_to wants: so many steps back there is a root -/
inductive Up (ss : List Say) (last : List Int) : Nat → Nat → Prop
  | root {v : Nat} : last.getD v (-1) = -1 → v < last.length → Up ss last v 0
  | step {v l a k : Nat} {m : Int} : last.getD v (-1) = (a : Int) → ss[a]? = some (l, v, m) → v < last.length → Up ss last l k → Up ss last v (k + 1)
theorem LInv.below (I : LInv n ss S0 r j sums last t) {v x : Nat} {y : Int} (e : sums.getD v none = some y) : v < n := by
  rcases Nat.lt_or_ge v n with g | g
  · exact g
  · rw [List.getD_eq_getElem?_getD, List.getElem?_eq_none (by rw [I.len]; exact g)] at e
    cases e
theorem LInv.up_or (I : LInv n ss S0 r j sums last t) : ∀ (k : Nat) (v : Nat), v < n → (∃ K, K ≤ k ∧ Up ss last v K) ∨ ∃ as x W, Walk ss last v as x W ∧ as.length = k ∧ x < n
  | 0, v, hv => .inr ⟨[], v, 0, .nil v, rfl, hv⟩
  | k + 1, v, hv => by
    rcases I.lst v hv with q | ⟨a, q⟩
    · exact .inl ⟨0, Nat.zero_le _, .root q (by rw [I.lenL]; exact hv)⟩
    · obtain ⟨l, m, x, y, e1, e2, e3, e4, e5, e6⟩ := I.par v a q
      have hl : l < n := I.below (x := 0) e2
      rcases I.up_or k l hl with ⟨K, hK, u⟩ | ⟨as, x, W, w, hk, hx⟩
      · exact .inl ⟨K + 1, Nat.succ_le_succ hK, .step q e1 (by rw [I.lenL]; exact hv) u⟩
      · exact .inr ⟨a :: as, x, W + m, .step q e1 w, by simp [hk], hx⟩
theorem LInv.up (I : LInv n ss S0 r j sums last t) {h : Nat → Int} (k : Kept ss h) {v : Nat} (hv : v < n) : ∃ K, K ≤ n ∧ Up ss last v K := by
  rcases I.up_or n v hv with q | ⟨as, x, W, w, hk, hx⟩
  · exact q
  · obtain ⟨d, ds, W3, w3, _⟩ := w.long (n := n) (fun v a e => by obtain ⟨_, _, _, _, _, _, _, _, _, e6⟩ := I.par v a e; exact e6) hx (Nat.le_of_eq hk.symm)
    have a1 := I.neg _ _ _ _ w3
    have a2 := w3.kept k
    omega
theorem Up.walk {v K : Nat} (u : Up ss last v K) : ∃ as x W, Walk ss last v as x W ∧ last.getD x (-1) = -1 := by
  induction u with
  | @root v h _ => exact ⟨[], v, 0, .nil v, h⟩
  | @step v l a k m h1 h2 _ _ ih =>
    obtain ⟨as, x, W, w, e⟩ := ih
    exact ⟨a :: as, x, W + m, .step h1 h2 w, e⟩

/-! ### the rounds -/
/-- within round r, i sayings done: all is as before and asked so far, or a place was changed -/
def RInv (n : Nat) (ss : List Say) (S0 : Sums) (r : Nat) (st0 : LSt) (i : Nat) (st : LSt) : Prop :=
  ∃ t, LInv n ss S0 r i st.sums st.last t ∧ ((st.ch = -1 ∧ st.sums = st0.sums ∧ st.last = st0.last ∧ ∀ k s, k < i → ss[k]? = some s → slack st0.sums s = false) ∨ ∃ v, v < n ∧ st.ch = (v : Int) ∧ t v = r)
theorem RInv.upTo (ok : Ok n ss) (hr : 0 < r) (st0 : LSt) (h0 : st0.ch = -1) (I : LInv n ss S0 r 0 st0.sums st0.last t) : ∀ i, i ≤ ss.length → RInv n ss S0 r st0 i (Am.upTo ss st0 i)
  | 0, _ => ⟨t, I, .inl ⟨h0, rfl, rfl, fun k s hk => absurd hk (Nat.not_lt_zero k)⟩⟩
  | i + 1, hi => by
    obtain ⟨t', J, alt⟩ := RInv.upTo ok hr st0 h0 I i (Nat.le_of_succ_le hi)
    have hs : ss[i]? = some (ss[i]'hi) := List.getElem?_eq_getElem hi
    have hd : ss.getD i z0 = ss[i]'hi := getD_some hs
    generalize ss[i]'hi = s at hs hd
    obtain ⟨l, u, m⟩ := s
    show RInv n ss S0 r st0 (i + 1) (Am.turn (Am.upTo ss st0 i) i (ss.getD i z0))
    rw [hd]
    generalize Am.upTo ss st0 i = st at J alt
    unfold Am.turn
    cases h : slack st.sums (l, u, m) with
    | false =>
      rw [if_neg (by simp)]
      refine ⟨t', J.keep hs h, ?_⟩
      rcases alt with ⟨a1, a2, a3, a4⟩ | a
      · refine .inl ⟨a1, a2, a3, fun k s hk e => ?_⟩
        by_cases q : k = i
        · subst q
          rw [hs] at e
          cases e
          rw [← a2]
          exact h
        · exact a4 k s (by omega) e
      · exact .inr a
    | true =>
      rw [if_pos rfl]
      refine ⟨_, J.change ok hs h hr, .inr ⟨u, (ok.get hs).2, rfl, ?_⟩⟩
      rw [if_pos rfl]
/-- behind some rounds: all is so, or a place was changed in the last of them -/
theorem rounds_ok (ok : Ok n ss) : ∀ (k r : Nat) (st : LSt) (t : Nat → Nat), 0 < r → LInv n ss S0 r 0 st.sums st.last t →
    ((rounds ss k st).ch = -1 ∧ (∀ s ∈ ss, slack (rounds ss k st).sums s = false) ∧ ∃ r' j' t', LInv n ss S0 r' j' (rounds ss k st).sums (rounds ss k st).last t') ∨
      k = 0 ∨ (∃ v t', v < n ∧ (rounds ss k st).ch = (v : Int) ∧ t' v + 1 = r + k ∧ LInv n ss S0 (r + k - 1) ss.length (rounds ss k st).sums (rounds ss k st).last t')
  | 0, r, st, t, _, _ => .inr (.inl rfl)
  | k + 1, r, st, t, hr, I => by
    obtain ⟨t', J, alt⟩ := RInv.upTo (t := t) ok hr { st with ch := -1 } rfl I ss.length (Nat.le_refl _)
    have e : Am.upTo ss { st with ch := -1 } ss.length = round ss st := rfl
    rw [e] at J alt
    unfold rounds
    rcases alt with ⟨a1, a2, a3, a4⟩ | ⟨v, hv, hc, ht⟩
    · rw [if_pos (by rw [a1]; decide)]
      refine .inl ⟨rfl, fun s hs => ?_, r, _, t', J⟩
      obtain ⟨i, hi⟩ := List.getElem?_of_mem hs
      show slack (round ss st).sums s = false
      rw [a2]
      exact a4 i s (List.getElem?_eq_some_iff.mp hi).1 hi
    · rw [if_neg (by rw [hc]; omega)]
      rcases rounds_ok ok k (r + 1) (round ss st) t' (Nat.succ_pos r) J.next with q | q | ⟨v', t2, q1, q2, q3, q4⟩
      · exact .inl q
      · subst q
        refine .inr (.inr ⟨v, t', hv, hc, by omega, ?_⟩)
        show LInv n ss S0 (r + 1 - 1) ss.length (round ss st).sums (round ss st).last t'
        rw [Nat.add_sub_cancel]
        exact J
      · refine .inr (.inr ⟨v', t2, q1, q2, by omega, ?_⟩)
        have e : r + 1 + k - 1 = r + (k + 1) - 1 := by omega
        rw [← e]
        exact q4
/-- what lessened leaves -/
structure Less (n : Nat) (ss : List Say) (S0 : Sums) (st : LSt) : Prop where
  inv : ∃ r j t, LInv n ss S0 r j st.sums st.last t
  end' : (st.ch = -1 ∧ ∀ s ∈ ss, slack st.sums s = false) ∨ ∃ v, v < n ∧ st.ch = (v : Int) ∧ Deep ss st.last v
theorem LInv.start (hn : S0.length = n) : LInv n ss S0 1 0 S0 (List.replicate n (-1)) (fun _ => 0) := by
  have hL : ∀ v, (List.replicate n (-1 : Int)).getD v (-1) = -1 := fun v => by
    rw [List.getD_eq_getElem?_getD, List.getElem?_replicate]
    split <;> rfl
  refine ⟨hn, List.length_replicate, fun v _ => .inl (hL v), fun v _ => ⟨rfl, rfl⟩, fun v a e => ?_, fun _ => Nat.zero_le _, fun i s _ q => ?_, fun v a as W w => ?_, fun v x e => ⟨x, e, Int.le_refl _⟩⟩
  · rw [hL] at e; omega
  · rw [if_neg (Nat.not_lt_zero i)] at q; omega
  · cases w with
    | step h1 _ _ => rw [hL] at h1; omega
theorem lessened_ok (ok : Ok n ss) (hn : S0.length = n) : Less n ss S0 (lessened ss S0 (List.replicate n (-1))) := by
  unfold lessened
  rw [hn]
  rcases rounds_ok (S0 := S0) ok (n + 1) 1 ⟨S0, List.replicate n (-1), 0⟩ (fun _ => 0) (by decide) (LInv.start hn) with ⟨q1, q2, q3⟩ | q | ⟨v, t', q1, q2, q3, q4⟩
  · exact ⟨q3, .inl ⟨q1, q2⟩⟩
  · omega
  · exact ⟨⟨_, _, t', q4⟩, .inr ⟨v, q1, q2, q4.deep q1 (by omega)⟩⟩
end
end Am

namespace Am
def sumsOf (n one : Nat) : Sums := (List.replicate n none).set one (some 0)
/-- each place is led to from one of height 0 by sayings that are just so -/
inductive Led (ss : List Say) (hs : List Int) : Nat → Prop
  | root {v : Nat} : hs.getD v 0 = 0 → v < hs.length → Led ss hs v
  | step {l v : Nat} {m : Int} : (l, v, m) ∈ ss → hs.getD v 0 - hs.getD l 0 = m → v < hs.length → Led ss hs l → Led ss hs v
theorem rep_getD {α : Type} {n : Nat} {x d : α} {v : Nat} (h : v < n) : (List.replicate n x).getD v d = x := by
  rw [List.getD_eq_getElem?_getD, List.getElem?_replicate, if_pos h]; rfl
theorem map_some_getD {hs : List Int} {v : Nat} : (hs.map some).getD v none = hs[v]? := by
  rw [List.getD_eq_getElem?_getD, List.getElem?_map]
  cases hs[v]? <;> rfl
theorem Deep.not_kept {ss : List Say} {last : List Int} {v : Nat} (d : Deep ss last v) {h : Nat → Int} (k : Kept ss h) : False := by
  obtain ⟨_, _, _, _, _, _, _, _, w, ng, _⟩ := d
  have lt := ng _ _ _ _ w
  have := w.kept k
  omega
theorem all_some : ∀ (l : Sums), (∀ v, v < l.length → ∃ y, l.getD v none = some y) → ∃ hs : List Int, l = hs.map some
  | [], _ => ⟨[], rfl⟩
  | x :: r, h => by
    obtain ⟨y, hy⟩ := h 0 (Nat.succ_pos _)
    have e : x = some y := hy
    subst e
    obtain ⟨hs, e⟩ := all_some r fun v hv => h (v + 1) (Nat.succ_lt_succ hv)
    exact ⟨y :: hs, by rw [e]; rfl⟩
section
variable {n : Nat} {ss : List Say} {S0 sums : Sums} {last : List Int}
theorem keepAll_of {hs : List Int} (hl : hs.length = n) (h : ∀ s ∈ ss, hs.getD s.2.1 0 - hs.getD s.1 0 ≤ s.2.2) : keepAll n ss hs = true := by
  unfold keepAll
  rw [decide_eq_true hl, Bool.true_and, List.all_eq_true]
  exact fun s hs' => decide_eq_true (h s hs')
theorem keepAll_len {hs : List Int} (h : keepAll n ss hs = true) : hs.length = n := by
  unfold keepAll at h
  simp only [Bool.and_eq_true_iff] at h
  exact of_decide_eq_true h.1
/-- heights from nought everywhere -/
theorem fromAll_ok (ok : Ok n ss) {st : LSt} (L : Less n ss (List.replicate n (some 0)) st) :
    (st.ch = -1 ∧ ∃ hs : List Int, st.sums = hs.map some ∧ keepAll n ss hs = true ∧ (∀ v, hs.getD v 0 ≤ 0) ∧ ∀ v, v < n → Led ss hs v) ∨ ∃ v, v < n ∧ st.ch = (v : Int) ∧ Deep ss st.last v := by
  rcases L.end' with ⟨hc, rel⟩ | q
  · refine .inl ⟨hc, ?_⟩
    obtain ⟨r, j, t, I⟩ := L.inv
    have mono : ∀ v, v < n → ∃ y, st.sums.getD v none = some y ∧ y ≤ 0 := fun v hv => I.mono v 0 (rep_getD hv)
    obtain ⟨hs, e⟩ := all_some st.sums fun v hv => by
      obtain ⟨y, hy, _⟩ := mono v (by rw [← I.len]; exact hv)
      exact ⟨y, hy⟩
    have hl : hs.length = n := by have := I.len; rw [e, List.length_map] at this; exact this
    have hat : ∀ v x, st.sums.getD v none = some x → hs.getD v 0 = x := fun v x q => by
      rw [e, map_some_getD] at q
      rw [List.getD_eq_getElem?_getD, q]; rfl
    have ka : keepAll n ss hs = true := keepAll_of hl fun s hs' => by
      obtain ⟨l, u, m⟩ := s
      obtain ⟨x, hx, _⟩ := mono l (ok _ hs').1
      obtain ⟨y, hy, le⟩ := slack_false (rel _ hs') hx
      simp only
      rw [hat u y hy, hat l x hx]
      omega
    refine ⟨hs, e, ka, fun v => ?_, fun v hv => ?_⟩
    · rcases Nat.lt_or_ge v n with g | g
      · obtain ⟨y, hy, le⟩ := mono v g
        rw [hat v y hy]; exact le
      · rw [List.getD_eq_getElem?_getD, List.getElem?_eq_none (by rw [hl]; exact g)]
        exact Int.le_refl 0
    · obtain ⟨K, hK, u⟩ := I.up (keepAll_kept ka) hv
      clear hK
      induction u with
      | @root v h1 h2 =>
        have e2 := (I.root v h1).2
        rw [rep_getD hv] at e2
        exact .root (hat v 0 e2) (by rw [hl]; exact hv)
      | @step v l a k m h1 h2 h3 _ ih =>
        obtain ⟨l', m', x, y, e1, e2, e3, e4, e5, e6⟩ := I.par v a h1
        rw [h2] at e1
        cases e1
        have mem := List.mem_of_getElem? h2
        obtain ⟨y', hy', le⟩ := slack_false (rel _ mem) e2
        rw [e3] at hy'
        cases hy'
        refine .step mem ?_ (by rw [hl]; exact hv) (ih (ok _ mem).1)
        rw [hat v y e3, hat l x e2]
        omega
  · exact .inr q
/-- what from_one leaves where heights keep all -/
structure One (n : Nat) (ss : List Say) (one : Nat) (sums : Sums) (last : List Int) : Prop where
  len : sums.length = n
  lenL : last.length = n
  at1 : sums.getD one none = some 0
  rel : ∀ s ∈ ss, slack sums s = false
  way : ∀ v y, sums.getD v none = some y → v < n ∧ (∃ K, K ≤ n ∧ Up ss last v K) ∧ ∀ as x W, Walk ss last v as x W → last.getD x (-1) = -1 → x = one ∧ W = y
theorem fromOne_ok (ok : Ok n ss) {one : Nat} (h1 : one < n) {st : LSt} (L : Less n ss (sumsOf n one) st) {h : Nat → Int} (k : Kept ss h) : One n ss one st.sums st.last := by
  have rel : ∀ s ∈ ss, slack st.sums s = false := by
    rcases L.end' with ⟨_, q⟩ | ⟨v, _, _, d⟩
    · exact q
    · exact (d.not_kept k).elim
  obtain ⟨r, j, t, I⟩ := L.inv
  have s0 : ∀ v, (sumsOf n one).getD v none = if v = one then some 0 else none := fun v => by
    unfold sumsOf
    rw [getD_set (by rw [List.length_replicate]; exact h1)]
    by_cases q : v = one
    · rw [if_pos q, if_pos q]
    · rw [if_neg q, if_neg q, List.getD_eq_getElem?_getD, List.getElem?_replicate]
      split <;> rfl
  have tight : ∀ v as x W, Walk ss st.last v as x W → ∀ y, st.sums.getD v none = some y → ∃ z, st.sums.getD x none = some z ∧ y = z + W := by
    intro v as x W w
    induction w with
    | nil v => intro y hy; exact ⟨y, hy, by omega⟩
    | @step v l u a m W as g1 g2 _ ih =>
      intro y hy
      obtain ⟨l', m', x', y', e1, e2, e3, e4, _⟩ := I.par v a g1
      rw [g2] at e1
      cases e1
      rw [hy] at e3
      cases e3
      obtain ⟨y2, hy2, le⟩ := slack_false (rel _ (List.mem_of_getElem? g2)) e2
      rw [hy] at hy2
      cases hy2
      obtain ⟨z, hz, e⟩ := ih x' e2
      exact ⟨z, hz, by omega⟩
  have rootIs : ∀ x z, st.sums.getD x none = some z → st.last.getD x (-1) = -1 → x = one ∧ z = 0 := fun x z hz hx => by
    have e := (I.root x hx).2
    rw [hz, s0] at e
    by_cases q : x = one
    · rw [if_pos q] at e
      cases e
      exact ⟨q, rfl⟩
    · rw [if_neg q] at e; cases e
  have a1 : st.sums.getD one none = some 0 := by
    obtain ⟨y, hy, _⟩ := I.mono one 0 (by rw [s0, if_pos rfl])
    obtain ⟨K, _, u⟩ := I.up k h1
    obtain ⟨as, x, W, w, hx⟩ := u.walk
    obtain ⟨z, hz, _⟩ := tight one as x W w y hy
    obtain ⟨e, _⟩ := rootIs x z hz hx
    subst e
    have e := (I.root x hx).2
    rw [e, s0, if_pos rfl]
  refine ⟨I.len, I.lenL, a1, rel, fun v y hy => ⟨I.below (x := 0) hy, I.up k (I.below (x := 0) hy), fun as x W w hx => ?_⟩⟩
  obtain ⟨z, hz, e⟩ := tight v as x W w y hy
  obtain ⟨e1, e2⟩ := rootIs x z hz hx
  exact ⟨e1, by omega⟩

/-! ### spread, raised -/
def spreadOf (n : Nat) (rest : List Int) (sums : Sums) (far : Int) : List Int :=
  (List.range n).map fun v => match sums.getD v none with | none => rest.getD v 0 + far | some y => y
def Far (ss : List Say) (rest : List Int) (sums : Sums) (far : Int) : Prop :=
  ∀ s ∈ ss, sums.getD s.1 none = none → ∀ y, sums.getD s.2.1 none = some y → y - rest.getD s.1 0 - s.2.2 ≤ far
theorem range_map_getD {n : Nat} {f : Nat → Int} {v : Nat} (h : v < n) : ((List.range n).map f).getD v 0 = f v := by
  rw [List.getD_eq_getElem?_getD, List.getElem?_map, List.getElem?_range h]; rfl
theorem spread_at {rest : List Int} {far : Int} {v : Nat} {y : Int} (hv : v < n) (e : sums.getD v none = some y) : (spreadOf n rest sums far).getD v 0 = y := by
  unfold spreadOf
  rw [range_map_getD hv, e]
theorem spread_ok (ok : Ok n ss) {rest : List Int} {far : Int} (k : keepAll n ss rest = true) (rel : ∀ s ∈ ss, slack sums s = false) (hf : Far ss rest sums far) : keepAll n ss (spreadOf n rest sums far) = true := by
  refine keepAll_of (by unfold spreadOf; rw [List.length_map, List.length_range]) fun s hs => ?_
  have kk := keepAll_kept k s hs
  have r := rel s hs
  have f := hf s hs
  obtain ⟨l, u, m⟩ := s
  obtain ⟨hl, hu⟩ := ok _ hs
  simp only at hl hu kk f ⊢
  unfold spreadOf
  rw [range_map_getD hl, range_map_getD hu]
  cases e : sums.getD l none with
  | some x =>
    obtain ⟨y, hy, le⟩ := slack_false r e
    rw [hy]
    simp only
    omega
  | none =>
    cases e2 : sums.getD u none with
    | none => simp only; omega
    | some y =>
      have := f e y e2
      simp only
      omega
/-- the places that no chain leads to -/
def without (n : Nat) (sums : Sums) : List Nat := (List.range n).filter fun v => (sums.getD v none).isNone
def raisedOf (hs : List Int) (ps : List Nat) (d : Int) : List Int := (List.range hs.length).map fun v => if v ∈ ps then hs.getD v 0 + d else hs.getD v 0
theorem mem_without {v : Nat} : v ∈ without n sums ↔ v < n ∧ sums.getD v none = none := by
  unfold without
  rw [List.mem_filter, List.mem_range]
  simp
theorem raised_at {hs : List Int} {ps : List Nat} {d : Int} {v : Nat} (h : v < hs.length) : (raisedOf hs ps d).getD v 0 = if v ∈ ps then hs.getD v 0 + d else hs.getD v 0 := by
  unfold raisedOf
  rw [range_map_getD h]
theorem raised_ok (ok : Ok n ss) {hs : List Int} {d : Int} (k : keepAll n ss hs = true) (rel : ∀ s ∈ ss, slack sums s = false) (hd : 0 ≤ d) : keepAll n ss (raisedOf hs (without n sums) d) = true := by
  have hl := keepAll_len k
  refine keepAll_of (by unfold raisedOf; rw [List.length_map, List.length_range]; exact hl) fun s hs' => ?_
  have kk := keepAll_kept k s hs'
  have r := rel s hs'
  obtain ⟨l, u, m⟩ := s
  obtain ⟨h1, h2⟩ := ok _ hs'
  simp only at h1 h2 kk ⊢
  rw [raised_at (by rw [hl]; exact h2), raised_at (by rw [hl]; exact h1)]
  by_cases q1 : l ∈ without n sums
  · rw [if_pos q1]
    split <;> omega
  · rw [if_neg q1]
    have q2 : ¬ u ∈ without n sums := fun z => by
      cases e : sums.getD l none with
      | none => exact q1 (mem_without.mpr ⟨h1, e⟩)
      | some x =>
        obtain ⟨y, hy, _⟩ := slack_false r e
        have := (mem_without.mp z).2
        rw [hy] at this; cases this
    rw [if_neg q2]
    exact kk

/-! ### a saying left out -/
def less1 (ss : List Say) (i : Nat) : List Say := ss.take i ++ ss.drop (i + 1)
theorem mem_less1 {i : Nat} {s : Say} (h : s ∈ less1 ss i) : s ∈ ss := by
  obtain q | q := List.mem_append.mp h
  · exact List.mem_of_mem_take q
  · exact List.mem_of_mem_drop q
theorem Ok.less1 (ok : Ok n ss) (i : Nat) : Ok n (less1 ss i) := fun s h => ok s (mem_less1 h)
theorem Kept.less1 {h : Nat → Int} (k : Kept ss h) (i : Nat) : Kept (less1 ss i) h := fun s m => k s (mem_less1 m)
/-- a step of the others, told of all -/
def shift (i : Nat) (a : Int) : Int := if (i : Int) ≤ a then a + 1 else a
theorem less1_get (i k : Nat) : (Am.less1 ss i)[k]? = if k < i then ss[k]? else ss[k + 1]? := by
  unfold Am.less1
  by_cases hi : i ≤ ss.length
  · by_cases h : k < i
    · rw [if_pos h, List.getElem?_append_left (by rw [List.length_take]; omega), List.getElem?_take, if_pos h]
    · rw [if_neg h, List.getElem?_append_right (by rw [List.length_take]; omega), List.length_take, List.getElem?_drop]
      congr 1
      omega
  · rw [List.take_of_length_le (by omega), List.drop_of_length_le (by omega), List.append_nil]
    by_cases h : k < i
    · rw [if_pos h]
    · rw [if_neg h, List.getElem?_eq_none (by omega), List.getElem?_eq_none (by omega)]
theorem sayAt_shift {i : Nat} (hi : i < ss.length) (a : Int) (h : 0 ≤ a) : sayAt ss (shift i a) = sayAt (Am.less1 ss i) a := by
  obtain ⟨k, rfl⟩ := Int.eq_ofNat_of_zero_le h
  unfold shift
  rw [sayAt_nat, less1_get]
  by_cases q : k < i
  · rw [if_neg (by omega), if_pos q, sayAt_nat]
  · rw [if_pos (by omega), if_neg q]
    exact sayAt_nat ss (k + 1)
theorem run_shifted {i : Nat} (hi : i < ss.length) : ∀ (c : List Int) (p : Nat) (t : Int), (∀ a ∈ c, 0 ≤ a) → run ss (c.map (shift i)) p t = run (Am.less1 ss i) c p t
  | [], p, t, _ => rfl
  | a :: r, p, t, h => by
    rw [List.map_cons, run_cons, run_cons, sayAt_shift hi a (h a List.mem_cons_self)]
    cases sayAt (Am.less1 ss i) a with
    | none => rfl
    | some s =>
      obtain ⟨l, u, m⟩ := s
      simp only
      rw [run_shifted hi r u (t + m) fun a ha => h a (List.mem_cons_of_mem _ ha)]
theorem sum_shifted {i : Nat} (hi : i < ss.length) {c : List Int} {p q : Nat} (h : ∀ a ∈ c, 0 ≤ a) : sumAlong ss (c.map (shift i)) p q = sumAlong (Am.less1 ss i) c p q := by
  unfold sumAlong
  rw [run_shifted hi c p 0 h]
theorem shift_ne (i : Nat) (a : Int) : shift i a ≠ (i : Int) := by
  unfold shift
  split <;> omega
theorem chain_nonneg (as : List Nat) : ∀ a ∈ as.reverse.map Int.ofNat, 0 ≤ a := fun a h => by
  obtain ⟨k, _, rfl⟩ := List.mem_map.mp h
  exact Int.natCast_nonneg k
end
end Am

namespace Am
open PySem L2 Evl
open He (ga ma)

abbrev rAddI : R2 := rI0 fun i j => .int (i + j)
abbrev rSubI : R2 := rI0 fun i j => .int (i - j)
abbrev rMulI : R2 := rI CMul fun i j => .int (i * j)
abbrev rDivI : R2 := rI CDiv fun i j => .int (i / j)
abbrev rModI : R2 := rI (fun _ j => 0 < j) fun i j => .int (i % j)
abbrev rPowI : R2 := rI CPow fun i j => .int (i ^ j.toNat)
abbrev rNegI : V → Hp → VK → Prop := rU fun i => .int (-i)
abbrev rLtI : R2 := rI0 fun i j => .bl (decide (i < j))
abbrev rLeI : R2 := rI0 fun i j => .bl (decide (i ≤ j))
abbrev rGtI : R2 := rI0 fun i j => .bl (decide (j < i))
abbrev rGeI : R2 := rI0 fun i j => .bl (decide (j ≤ i))
abbrev rIsN0 : R2 := fun x y H Q => y = .non ∧ Q (.bl (decide (x = .non))) H
abbrev rNotN0 : R2 := fun x y H Q => y = .non ∧ Q (.bl (!decide (x = .non))) H

/-! ### promises -/
/-- a value is handed back, what stood stands -/
def Pur (R : List V → Hp → V → Prop) : Sp := fun vs H Q _ => ∃ z, R vs H z ∧ ∀ H2, Ex H H2 → Q z H2
/-- a new list -/
def PurL (R : List V → Hp → List V → Prop) : Sp := fun vs H Q _ => ∃ xs, R vs H xs ∧ ∀ p H2, H p = none → Ex H H2 → H2 p = some (.lst xs) → Q (.ref p) H2

section
variable {K : PySem.W.Frag} {σ : L2.St} {H H' : Hp} {ta tb tc te tx : TE} {t u : TT} {x y z v : V} {r : R2}
theorem ev_pur {R : List V → Hp → V → Prop} {vs : List V} {ta : TA} {E : XK} (h : EvA ta σ H vs) (hR : ∀ H1, Ex H H1 → R vs H1 z) : Ev (tCall (Pur R) [] E ta) σ H z :=
  ev_call h fun H1 e1 Q q E => ⟨z, by rw [List.append_nil]; exact hR H1 e1, fun H2 e2 => q H2 e2⟩
theorem el_pur {R : List V → Hp → List V → Prop} {vs xs : List V} {ta : TA} {E : XK} (h : EvA ta σ H vs) (hR : ∀ H1, Ex H H1 → R vs H1 xs) : EvL (tCall (PurL R) [] E ta) σ H xs :=
  el_call h fun H1 e1 Q q E => ⟨xs, by rw [List.append_nil]; exact hR H1 e1, fun p H2 hp e2 h2 => q p H2 hp e2 h2⟩
theorem rv_rI {C : Int → Int → Prop} {g : Int → Int → V} {i j : Int} (hc : C i j) : RV (rI C g) (.int i) (.int j) H (g i j) := rv_I hc
theorem rv_isN : RV rIsN0 x .non H (.bl (decide (x = .non))) := fun H1 _ _ q => ⟨rfl, q H1 (Ex.refl H1)⟩
theorem rv_notN : RV rNotN0 x .non H (.bl (!decide (x = .non))) := fun H1 _ _ q => ⟨rfl, q H1 (Ex.refl H1)⟩
theorem rv_isB {a b : Bool} : RV rIsB (.bl a) (.bl b) H (.bl (decide (a = b))) := fun H1 _ _ q => ⟨a, b, rfl, rfl, q H1 (Ex.refl H1)⟩
theorem rv_notB {a b : Bool} : RV rNotB (.bl a) (.bl b) H (.bl (!decide (a = b))) := fun H1 _ _ q => ⟨a, b, rfl, rfl, q H1 (Ex.refl H1)⟩
/-- a < b < c -/
theorem ev_chain {r r' : R2} {k : Bool} (ha : Ev ta σ H x) (hb : Ev tb σ H y) (hr : RV r x y H (.bl k)) (hc : k = true → Ev tc σ H z) {k2 : Bool} (hr' : k = true → RV r' y z H (.bl k2)) : Ev (tChain r r' ta tb tc) σ H (.bl (k && k2)) := fun H1 e Q q =>
  ha H1 e _ fun H2 e2 => hb H2 (e.trans e2) _ fun H3 e3 => hr H3 ((e.trans e2).trans e3) _ fun H4 e4 => ⟨k, rfl, by
    cases k with
    | true =>
      rw [if_pos rfl]
      exact hc rfl H4 (((e.trans e2).trans e3).trans e4) _ fun H5 e5 => hr' rfl H5 ((((e.trans e2).trans e3).trans e4).trans e5) Q fun H6 e6 => q H6 ((((e2.trans e3).trans e4).trans e5).trans e6)
    | false =>
      rw [if_neg (by decide)]
      exact q H4 ((e2.trans e3).trans e4)⟩
/-- isinstance(x, a built-in class) -/
theorem rc_isi {tn n : String} {b : Bool} (ty : ∀ H1, Ex H H1 → TyX K H1 x (.type tn)) (h : kitB tn n = some b) : RC (rIsi K) [x, .ty n] H (.bl b) := fun H1 e Q q =>
  ⟨x, .ty n, .type tn, .type n, b, rfl, .ty n, ty H1 e, kit_ty h, q H1 (Ex.refl H1)⟩
theorem ev_isi {tn n : String} {b : Bool} (ha : Ev ta σ H x) (ty : ∀ H1, Ex H H1 → TyX K H1 x (.type tn)) (h : kitB tn n = some b) : Ev (tCB (rIsi K) (tCons ta (tCons (tC (.ty n)) tNil))) σ H (.bl b) :=
  ev_cb (ea_cons ha (ea_cons ev_c ea_nil)) (rc_isi ty h)
theorem ty_int {i : Int} : TyX K H (.int i) (.type "int") := .base (.int i)
theorem ty_bl {i : Bool} : TyX K H (.bl i) (.type "bool") := .base (.bl i)
theorem ty_L {a : Addr} {xs : List V} (h : SqL K H a xs) : TyX K H (.ref a) (.type "list") := by
  rcases h with (h | ⟨o, h⟩) | ⟨o, its, n, hk, hc, _⟩
  · exact .base (.lst h)
  · exact .base (.frz h)
  · exact .kList hk hc
theorem ty_T {a : Addr} {xs : List V} (h : SqT K H a xs) : TyX K H (.ref a) (.type "tuple") := by
  rcases h with (h | ⟨o, h⟩) | ⟨o, its, n, hk, hc, _⟩
  · exact .base (.tup h)
  · exact .fTuple h
  · exact .kTuple hk hc
theorem ev_lenT {p : Addr} {xs : List V} (ha : Ev ta σ H (.ref p)) (h : SqT K H p xs) : Ev (tCB (rLenS K) (tCons ta tNil)) σ H (.int (xs.length : Int)) := fun H1 e Q q =>
  ha H1 e _ fun H2 e2 => ⟨p, xs, rfl, Or.inr (ex_t (e.trans e2) h), q H2 e2⟩
theorem ev_all {bs : List Bool} (ha : EvL ta σ H (bs.map V.bl)) : Ev (tCB (rAll K) (tCons ta tNil)) σ H (.bl (bs.all id)) := fun H1 e Q q =>
  ha H1 e _ fun p H2 _ e2 h2 => ⟨p, bs, rfl, sq_of h2, q H2 e2⟩
theorem ev_any {bs : List Bool} (ha : EvL ta σ H (bs.map V.bl)) : Ev (tCB (rAny K) (tCons ta tNil)) σ H (.bl (bs.any id)) := fun H1 e Q q =>
  ha H1 e _ fun p H2 _ e2 h2 => ⟨p, bs, rfl, sq_of h2, q H2 e2⟩
theorem ev_sum {p : Addr} {ns : List Int} (ha : Ev ta σ H (.ref p)) (h : SqL K H p (ns.map V.int)) : Ev (tCB (rSum K) (tCons ta tNil)) σ H (.int ns.sum) := fun H1 e Q q =>
  ha H1 e _ fun H2 e2 => ⟨p, ns, rfl, ex_l (e.trans e2) h, q H2 e2⟩
theorem el_is {xs ys : List V} (h : EvL te σ H xs) (e : xs = ys) : EvL te σ H ys := e ▸ h

theorem ty_mono {ty : Value} (e : Ex H H') (h : TyX K H x ty) : TyX K H' x ty := by
  cases h with
  | base b =>
    refine .base ?_
    cases b with
    | non => exact .non
    | bl i => exact .bl i
    | int i => exact .int i
    | str i => exact .str i
    | flt i => exact .flt i
    | lst q => exact .lst (e _ _ q)
    | frz q => exact .frz (e _ _ q)
    | tup q => exact .tup (e _ _ q)
    | dK q => exact .dK (e _ _ q)
    | dT q => exact .dT (e _ _ q)
    | ins q a b c d f => exact .ins (e _ _ q) a b c d f
  | byt b => exact .byt b
  | set q => exact .set (e _ _ q)
  | kList q c => exact .kList q c
  | kTuple q c => exact .kTuple q c
  | kDict q c => exact .kDict q c
  | fTuple q => exact .fTuple (e _ _ q)
  | fDict q => exact .fDict (e _ _ q)

/-! ### comprehensions without a test -/
theorem given_all {n : Nat} {f : Nat → Bool} {v : Nat → V} (h : ∀ i, f i = true) : given n f v = (List.range n).map v := by
  unfold given
  congr 1
  exact List.filter_eq_self.mpr fun i _ => h i
theorem et_yes : EvT tYes σ H true := fun H1 _ _ q => q H1 (Ex.refl H1)
theorem el_map {a : Addr} {xs : List V} {tl : TE} {j : Nat} {vs : List Nat} (v : Nat → V) (h : Ev tl σ H (.ref a)) (hx : SqL K H a xs) (hz : xs.length ≤ 40000) (hw : ∀ x, wipe ((wipe σ vs).set j (some x)) vs = wipe σ vs)
    (he : ∀ (i : Nat) (x : V) H1, Ex H H1 → xs[i]? = some x → Ev te ((wipe σ vs).set j (some x)) H1 (v i)) : EvL (tLc (iList K tl) (gName j) tYes te vs) σ H ((List.range xs.length).map v) :=
  el_is (el_lcL (fun _ => true) v h hx hz hw (fun _ _ _ _ _ => et_yes) fun i x H1 e hi _ => he i x H1 e hi) (given_all fun _ => rfl)
theorem map_range {α β : Type} {l : List α} {d : α} {f : α → β} : (List.range l.length).map (fun i => f (l.getD i d)) = l.map f := by
  refine List.ext_getElem? fun i => ?_
  simp only [List.getElem?_map]
  by_cases h : i < l.length
  · rw [List.getElem?_range h, List.getElem?_eq_getElem h]
    show some (f (l.getD i d)) = some (f l[i])
    rw [List.getD_eq_getElem?_getD, List.getElem?_eq_getElem h]
    rfl
  · rw [List.getElem?_eq_none (by simpa using h), List.getElem?_eq_none (by simpa using h)]
    rfl

/-! ### sayings -/
/-- a saying: a tuple of three numbers -/
def TupAt (K : PySem.W.Frag) (H : Hp) (v : V) (s : Say) : Prop := ∃ t, v = .ref t ∧ SqT K H t [.int (s.1 : Int), .int (s.2.1 : Int), .int s.2.2]
def Says (K : PySem.W.Frag) (H : Hp) (a : Addr) (ss : List Say) : Prop := ss.length ≤ 1000 ∧ ∃ xs, SqL K H a xs ∧ Paired (TupAt K H) xs ss
abbrev iV (hs : List Int) : List V := hs.map V.int
theorem paired_at {α β : Type} {F : α → β → Prop} {xs : List α} {ys : List β} (r : Paired F xs ys) : ∀ i : Nat, (xs[i]? = none ∧ ys[i]? = none) ∨ ∃ x y, xs[i]? = some x ∧ ys[i]? = some y ∧ F x y := by
  induction r with
  | nil => exact fun i => .inl ⟨rfl, rfl⟩
  | cons r _ ih => exact fun i => match i with
    | 0 => .inr ⟨_, _, rfl, rfl, r⟩
    | i + 1 => ih i
theorem paired_get {α β : Type} {F : α → β → Prop} {xs : List α} {ys : List β} {i : Nat} {x : α} (r : Paired F xs ys) (e : xs[i]? = some x) : ∃ y, ys[i]? = some y ∧ F x y := by
  rcases paired_at r i with ⟨n, -⟩ | ⟨_, y, e1, e2, h⟩
  · exact nomatch n.symm.trans e
  · exact ⟨y, e2, Option.some.inj (e1.symm.trans e) ▸ h⟩
theorem paired_getR {α β : Type} {F : α → β → Prop} {xs : List α} {ys : List β} {i : Nat} {y : β} (r : Paired F xs ys) (e : ys[i]? = some y) : ∃ x, xs[i]? = some x ∧ F x y := by
  rcases paired_at r i with ⟨-, n⟩ | ⟨x, _, e1, e2, h⟩
  · exact nomatch n.symm.trans e
  · exact ⟨x, e1, Option.some.inj (e2.symm.trans e) ▸ h⟩
theorem TupAt.mono {s : Say} (e : Ex H H') (h : TupAt K H v s) : TupAt K H' v s := by
  obtain ⟨t, e1, e2⟩ := h
  exact ⟨t, e1, ex_t e e2⟩
theorem Says.mono {a : Addr} {ss : List Say} (e : Ex H H') (h : Says K H a ss) : Says K H' a ss := by
  obtain ⟨hz, xs, h1, h2⟩ := h
  exact ⟨hz, xs, ex_l e h1, L2.Paired.mapP h2 fun _ _ => TupAt.mono e⟩
theorem Says.len {a : Addr} {ss : List Say} {xs : List V} (h : Paired (TupAt K H) xs ss) : xs.length = ss.length := Paired.length h

theorem at_iV {hs : List Int} {i : Nat} (h : i < hs.length) : atI (iV hs) (i : Int) = some (V.int (hs.getD i 0)) := by
  refine atI_nat ?_
  rw [List.getElem?_map, List.getD_eq_getElem?_getD, List.getElem?_eq_getElem h]
  rfl
end
end Am

/-! ### the head's facts: He's, and tests of one's own beside -/
namespace Am
open PySem PySem.Spec PyProof.Rows L2
def obsX (ck : List (PySem.W.Frag → Bool)) (fa : List He.Fa) (fn : List He.DefD) (K : PySem.W.Frag) : He.AlD := (ck.all (fun c => c K) && (He.obsD fa fn K).1, (He.obsD fa fn K).2)
def SaysX (ck : List (PySem.W.Frag → Bool)) (fa : List He.Fa) (fn : List He.DefD) (K : PySem.W.Frag) : Prop := obsX ck fa fn K = He.valD fn
def obsXG (n : Nat) (ck : List (PySem.W.Frag → Bool)) (fa : List He.Fa) (fn : List He.DefD) (g : Addr → Option Obj) : He.AlD := obsX ck fa fn (He.frG g (He.asD g n))
/-- a hook of what is read of a piece of the heap: that it is as it should be -/
def hookOf {α : Type} (n : Nat) (read : PySem.W.Frag → α) (good : α) : PySem.W.Hook where
  α := α
  obs s := read (He.frG s.heap.get? (He.asD s.heap.get? n))
  val _ := good
  says _ h := ∃ K : PySem.W.Frag, K.In h ∧ read K = good
  of _ _ same := ⟨_, He.frG_in, same⟩
  keeps _ _ _ was up := was.imp fun _ k => ⟨k.1.keeps up, k.2⟩
def hookX (n : Nat) (ck : List (PySem.W.Frag → Bool)) (fa : List He.Fa) (fn : List He.DefD) : PySem.W.Hook := hookOf n (obsX ck fa fn) (He.valD fn)
theorem obsXG_eq {n : Nat} {ck : List (PySem.W.Frag → Bool)} {fa : List He.Fa} {fn : List He.DefD} {g : Addr → Option Obj} {s : Shared} (h : ∀ a, g a = s.heap.get? a) : obsXG n ck fa fn g = (hookX n ck fa fn).obs s := by
  obtain rfl : g = s.heap.get? := funext h
  rfl
theorem SaysX.d {ck : List (PySem.W.Frag → Bool)} {fa : List He.Fa} {fn : List He.DefD} {K : PySem.W.Frag} (c : SaysX ck fa fn K) : He.SaysD fa fn K := by
  have c1 : (ck.all (fun c => c K) && (He.obsD fa fn K).1) = true := congrArg (fun z : He.AlD => z.1) c
  have c2 : (He.obsD fa fn K).2 = fn.map He.DefD.val := congrArg (fun z : He.AlD => z.2) c
  have e1 := (He.ba c1).2
  unfold He.SaysD He.valD
  rw [← c2, ← e1]
theorem SaysX.ck {ck : List (PySem.W.Frag → Bool)} {fa : List He.Fa} {fn : List He.DefD} {K : PySem.W.Frag} (c : SaysX ck fa fn K) (i : Nat) {f : PySem.W.Frag → Bool} (h : ck[i]? = some f := by rfl) : f K = true := by
  have c1 : (ck.all (fun c => c K) && (He.obsD fa fn K).1) = true := congrArg (fun z : He.AlD => z.1) c
  exact List.all_eq_true.mp (He.ba c1).1 f (List.mem_of_getElem? h)
end Am

namespace Am
open PySem L2 Evl
open He (ga ma)
def kinds : List String := ["NoneType", "bool", "int", "str", "list", "tuple", "dict"]
def isI : V → Bool
  | .int _ => true
  | _ => false
/-- a thing of one of these kinds -/
def Kn (K : PySem.W.Frag) (H : Hp) (x : V) : Prop := ∃ tn, TyX K H x (.type tn) ∧ tn ∈ kinds ∧ isI x = decide (tn = "int")
def isB (n : Int) : V → Bool
  | .int i => decide (0 ≤ i) && decide (i < n)
  | _ => false
def okTup (n : Int) : List V → Bool
  | [a, b, c] => isB n a && (isB n b && isI c)
  | _ => false
def oV : Option Int → V
  | none => .non
  | some i => .int i
theorem Kn.mono {K : PySem.W.Frag} {H H' : Hp} {x : V} (e : Ex H H') (h : Kn K H x) : Kn K H' x := by
  obtain ⟨tn, h1, h2⟩ := h
  exact ⟨tn, ty_mono e h1, h2⟩
theorem kn_int {K : PySem.W.Frag} {H : Hp} (i : Int) : Kn K H (.int i) := ⟨"int", ty_int, by decide, rfl⟩

def sp_is_number (K : PySem.W.Frag) : Sp := Pur fun vs H z => ∃ x, vs = [x] ∧ Kn K H x ∧ z = .bl (isI x)
def sp_is_below (K : PySem.W.Frag) : Sp := Pur fun vs H z => ∃ x n, vs = [x, .int n] ∧ Kn K H x ∧ z = .bl (isB n x)
def sp_is_saying (K : PySem.W.Frag) : Sp := Pur fun vs H z => ∃ x n, vs = [x, .int n] ∧ ((∃ tn, TyX K H x (.type tn) ∧ tn ∈ kinds ∧ tn ≠ "tuple" ∧ z = .bl false) ∨ ∃ t xs, x = .ref t ∧ SqT K H t xs ∧ (∀ y ∈ xs, Kn K H y) ∧ z = .bl (okTup n xs))
/-- of what is right -/
def sp_check_sayings (K : PySem.W.Frag) : Sp := Pur fun vs H z => ∃ (n : Nat) (a : Addr) (ss : List Say), vs = [.int (n : Int), .ref a] ∧ 0 < n ∧ Says K H a ss ∧ Ok n ss ∧ z = .non
def sp_check_places (K : PySem.W.Frag) : Sp := Pur fun vs H z => ∃ (n p q : Nat), vs = [.int (n : Int), .int (p : Int), .int (q : Int)] ∧ p < n ∧ q < n ∧ z = .non
def sp_keep (K : PySem.W.Frag) : Sp := Pur fun vs H z => ∃ (v : V) (b : Addr) (s : Say) (hs : List Int), vs = [v, .ref b] ∧ TupAt K H v s ∧ SqL K H b (iV hs) ∧ s.1 < hs.length ∧ s.2.1 < hs.length ∧ z = .bl (keeps hs s)
def sp_keep_all (K : PySem.W.Frag) : Sp := Pur fun vs H z => ∃ (n : Nat) (a b : Addr) (ss : List Say) (hs : List Int), vs = [.int (n : Int), .ref a, .ref b] ∧ Says K H a ss ∧ Ok n ss ∧ SqL K H b (iV hs) ∧ z = .bl (keepAll n ss hs)
def sp_sum_along (K : PySem.W.Frag) : Sp := Pur fun vs H z => ∃ (a c : Addr) (ss : List Say) (ch : List Int) (p q : Nat), vs = [.ref a, .ref c, .int (p : Int), .int (q : Int)] ∧ Says K H a ss ∧ SqL K H c (iV ch) ∧ z = oV (sumAlong ss ch p q)
def sp_kept (K : PySem.W.Frag) : Sp := Pur fun vs H z => ∃ (n : Nat) (a b : Addr) (ss : List Say) (hs : List Int), vs = [.int (n : Int), .ref a, .ref b] ∧ 0 < n ∧ Says K H a ss ∧ Ok n ss ∧ SqL K H b (iV hs) ∧ hs.length = n ∧ n ≤ 1000 ∧ z = .bl (keepAll n ss hs)
/-- the sum, or it is refused -/
def sp_sum_of (K : PySem.W.Frag) : Sp := fun vs H Q E => ∃ (n : Nat) (a c : Addr) (ss : List Say) (ch : List Int) (p q : Nat), vs = [.int (n : Int), .ref a, .ref c, .int (p : Int), .int (q : Int)] ∧ 0 < n ∧ Says K H a ss ∧ Ok n ss ∧ p < n ∧ q < n ∧
  SqL K H c (iV ch) ∧ ch.length ≤ 1000 ∧ (∀ x ∈ ch, 0 ≤ x ∧ x < (ss.length : Int)) ∧
  (∀ W, sumAlong ss ch p q = some W → ∀ H2, Ex H H2 → Q (.int W) H2) ∧ (sumAlong ss ch p q = none → ∀ H2, Ex H H2 → E (.ref (ga K "BadNumber")) none H2)
end Am

namespace Am
open PySem L2 Evl
open He (ga ma)
def t_is_number (K : PySem.W.Frag) : TS := tRet (tAndV (tCB (rIsi K) (tCons (tVar 0) (tCons ((tC (.ty "int"))) (tNil)))) (tNotV (tCB (rIsi K) (tCons (tVar 0) (tCons ((tC (.ty "bool"))) (tNil))))))
def t_is_below (K : PySem.W.Frag) : TS := tRet (tAndV (tCall (sp_is_number K) [] E0 (tCons (tVar 0) (tNil))) (tChain rLeI rLtI (tC (.int 0)) (tVar 0) (tVar 1)))
def t_is_saying (K : PySem.W.Frag) : TS := tSeq (tIfS (tOr (tNot (tB (tCB (rIsi K) (tCons (tVar 0) (tCons ((tC (.ty "tuple"))) (tNil)))))) (tTest (tOp rNe (tCB (rLenS K) (tCons (tVar 0) (tNil))) (tC (.int 3))))) (tRet (tC (.bl false))) (tNext)) (tRet (tAndV (tCall (sp_is_below K) [] E0 (tCons (tOp (rIxT K) (tVar 0) (tC (.int 0))) (tCons (tVar 1) (tNil)))) (tAndV (tCall (sp_is_below K) [] E0 (tCons (tOp (rIxT K) (tVar 0) (tC (.int 1))) (tCons (tVar 1) (tNil)))) (tCall (sp_is_number K) [] E0 (tCons (tOp (rIxT K) (tVar 0) (tC (.int 2))) (tNil))))))
def t_check_sayings (K : PySem.W.Frag) : TS := tSeq (tIfS (tOr (tNot (tB (tCall (sp_is_number K) [] E0 (tCons (tVar 0) (tNil))))) (tTest (tOp rLtI (tVar 0) (tC (.int 1))))) (tNever) (tNext)) (tIfS (tOr (tNot (tB (tCB (rIsi K) (tCons (tVar 1) (tCons ((tC (.ty "list"))) (tNil)))))) (tNot (tB (tCB (rAll K) (tCons (tLc (iList K (tVar 1)) (gName 2) (tYes) (tCall (sp_is_saying K) [] E0 (tCons (tVar 2) (tCons (tVar 0) (tNil)))) [2]) (tNil)))))) (tNever) (tNext))
def t_check_places (K : PySem.W.Frag) : TS := tIfS (tOr (tNot (tB (tCall (sp_is_below K) [] E0 (tCons (tVar 1) (tCons (tVar 0) (tNil)))))) (tNot (tB (tCall (sp_is_below K) [] E0 (tCons (tVar 2) (tCons (tVar 0) (tNil))))))) (tNever) (tNext)
def t_keep (K : PySem.W.Frag) : TS := tRet (tOp rLeI (tOp rSubI (tOp (rIxL K) (tVar 1) (tOp (rIxT K) (tVar 0) (tC (.int 1)))) (tOp (rIxL K) (tVar 1) (tOp (rIxT K) (tVar 0) (tC (.int 0))))) (tOp (rIxT K) (tVar 0) (tC (.int 2))))
def t_keep_all (K : PySem.W.Frag) : TS := tRet (tAndV (tOp rEq (tCB (rLenS K) (tCons (tVar 2) (tNil))) (tVar 0)) (tCB (rAll K) (tCons (tLc (iList K (tVar 1)) (gName 3) (tYes) (tCall (sp_keep K) [] E0 (tCons (tVar 3) (tCons (tVar 2) (tNil)))) [3]) (tNil))))
def t_sum_along (K : PySem.W.Frag) : TS := tSeq (tAsg (tC (.int 0)) (gName 4)) (tSeq (tAsg (tVar 2) (gName 5)) (tSeq (tFor (iList K (tVar 1)) (gName 6) (tSeq (tIfS (tOr (tNot (tTest (tChain rLeI rLtI (tC (.int 0)) (tVar 6) (tCB (rLenS K) (tCons (tVar 0) (tNil)))))) (tTest (tOp rNe (tOp (rIxT K) (tOp (rIxL K) (tVar 0) (tVar 6)) (tC (.int 0))) (tVar 5)))) (tRet (tC .non)) (tNext)) (tSeq (tAsg (tOp (rIxT K) (tOp (rIxL K) (tVar 0) (tVar 6)) (tC (.int 1))) (gName 5)) (tAsg (tOp rAddI (tVar 4) (tOp (rIxT K) (tOp (rIxL K) (tVar 0) (tVar 6)) (tC (.int 2)))) (gName 4))))) (tSeq (tIfS (tTest (tOp rNe (tVar 5) (tVar 3))) (tRet (tC .non)) (tNext)) (tRet (tVar 4)))))
def t_kept (K : PySem.W.Frag) : TS := tSeq (tDrop (tCall (sp_check_sayings K) [] E0 (tCons (tVar 0) (tCons (tVar 1) (tNil))))) (tSeq (tIfS (tOr (tNot (tB (tCB (rIsi K) (tCons (tVar 2) (tCons ((tC (.ty "list"))) (tNil)))))) (tOr (tTest (tOp rNe (tCB (rLenS K) (tCons (tVar 2) (tNil))) (tVar 0))) (tNot (tB (tCB (rAll K) (tCons (tLc (iList K (tVar 2)) (gName 3) (tYes) (tCall (sp_is_number K) [] E0 (tCons (tVar 3) (tNil))) [3]) (tNil))))))) (tNever) (tNext)) (tRet (tCall (sp_keep_all K) [] E0 (tCons (tVar 0) (tCons (tVar 1) (tCons (tVar 2) (tNil)))))))
abbrev Bd (Q : VK) : Ends := { nx := fun _ H' => Q .non H', rt := Q }
section
variable {K : PySem.W.Frag} {vs : List V} {H : Hp} {Q : VK} {E : XK}
theorem pure_is_number (h : sp_is_number K vs H Q E) : t_is_number K (Bd Q) (start ["thing"] vs) H := by
  obtain ⟨z, ⟨x, rfl, ⟨tn, ty, mem, hi⟩, rfl⟩, q⟩ := h
  have T : ∀ H1, Ex H H1 → TyX K H1 x (.type tn) := fun H1 e => ty_mono e ty
  have key : kitB tn "int" = some (decide (tn = "int" ∨ tn = "bool")) ∧ kitB tn "bool" = some (decide (tn = "bool")) ∧ (decide (tn = "int" ∨ tn = "bool") && !decide (tn = "bool")) = isI x := by
    rw [hi]
    simp only [kinds, List.mem_cons, List.not_mem_nil, or_false] at mem
    rcases mem with rfl | rfl | rfl | rfl | rfl | rfl | rfl <;> exact ⟨by decide +kernel, by decide +kernel, by decide⟩
  obtain ⟨ka, kb, e⟩ := key
  refine s_ret (v := .bl (isI x)) ?_ q
  rw [← e]
  exact ev_andV (ev_isi (ev_var rfl) T ka) fun _ => ev_notV (ev_isi (ev_var rfl) T kb)
theorem ev_num {ta : TE} {σ : L2.St} {x : V} (ha : Ev ta σ H x) (k : Kn K H x) : Ev (tCall (sp_is_number K) [] E0 (tCons ta tNil)) σ H (.bl (isI x)) :=
  ev_pur (ea_cons ha ea_nil) fun H1 e => ⟨x, rfl, k.mono e, rfl⟩
theorem pure_is_below (h : sp_is_below K vs H Q E) : t_is_below K (Bd Q) (start ["thing", "count"] vs) H := by
  obtain ⟨z, ⟨x, n, rfl, k, rfl⟩, q⟩ := h
  refine s_ret (v := .bl (isB n x)) ?_ q
  have e : isB n x = (isI x && isB n x) := by cases x <;> rfl
  rw [e]
  refine ev_andV (ev_num (ev_var rfl) k) fun hx => ?_
  cases x with
  | int i => exact ev_chain ev_c (ev_var rfl) rv_I0 (fun _ => ev_var rfl) fun _ => rv_I0
  | _ => cases hx
theorem ev_below {ta tb : TE} {σ : L2.St} {x : V} {n : Int} (ha : Ev ta σ H x) (hb : Ev tb σ H (.int n)) (k : Kn K H x) : Ev (tCall (sp_is_below K) [] E0 (tCons ta (tCons tb tNil))) σ H (.bl (isB n x)) :=
  ev_pur (ea_cons ha (ea_cons hb ea_nil)) fun H1 e => ⟨x, n, rfl, k.mono e, rfl⟩
theorem pure_is_saying (h : sp_is_saying K vs H Q E) : t_is_saying K (Bd Q) (start ["thing", "count"] vs) H := by
  obtain ⟨z, ⟨x, n, rfl, h⟩, q⟩ := h
  rcases h with ⟨tn, ty, mem, ne, rfl⟩ | ⟨t, xs, rfl, hT, kn, rfl⟩
  · have T : ∀ H1, Ex H H1 → TyX K H1 x (.type tn) := fun H1 e => ty_mono e ty
    have key : kitB tn "tuple" = some false := by
      simp only [kinds, List.mem_cons, List.not_mem_nil, or_false] at mem
      rcases mem with rfl | rfl | rfl | rfl | rfl | rfl | rfl <;> first | decide +kernel | exact absurd rfl ne
    refine q_when (b := true) (et_or (a := true) (b := false) (et_not (a := false) (et_B (ev_isi (ev_var rfl) T key))) fun e => nomatch e) (fun _ H1 e1 => ?_) (fun e => nomatch e)
    exact s_ret ev_c fun H2 e2 => q H2 (e1.trans e2)
  · have T : ∀ H1, Ex H H1 → TyX K H1 (.ref t) (.type "tuple") := fun H1 e => ty_T (ex_t e hT)
    refine q_when (b := !decide (V.int (xs.length : Int) = V.int 3)) (et_is (et_or (a := false) (et_not (a := true) (et_B (ev_isi (ev_var rfl) T (by decide +kernel)))) fun _ => et_test (ev_op (ev_lenT (ev_var rfl) hT) ev_c (rv_ne rfl))) (Bool.false_or _)) (fun hb H1 e1 => ?_) (fun hb H1 e1 => ?_)
    · have hl : xs.length ≠ 3 := fun z => by rw [z] at hb; exact absurd hb (by decide)
      have e : okTup n xs = false := by
        match xs, hl with
        | [], _ => rfl
        | [_], _ => rfl
        | [_, _], _ => rfl
        | [_, _, _], h => exact absurd rfl h
        | _ :: _ :: _ :: _ :: _, _ => rfl
      refine s_ret ev_c fun H2 e2 => ?_
      have := q H2 (e1.trans e2)
      rw [e] at this
      exact this
    · have hl : xs.length = 3 := by
        have h2 : decide (V.int (xs.length : Int) = V.int 3) = true := by simpa using hb
        have h3 := of_decide_eq_true h2
        injection h3 with h4
        omega
      obtain ⟨a, b, c, rfl⟩ : ∃ a b c, xs = [a, b, c] := by
        match xs, hl with
        | [a, b, c], _ => exact ⟨a, b, c, rfl⟩
      have hT1 := ex_t e1 hT
      have ix : ∀ (i : Int) (v : V), atI [a, b, c] i = some v → Ev (tOp (rIxT K) (tVar 0) (tC (.int i))) (start ["thing", "count"] [V.ref t, V.int n]) H1 v := fun i v hv => ev_op (ev_var rfl) ev_c (rv_ixT hT1 hv)
      have kk : ∀ y ∈ [a, b, c], Kn K H1 y := fun y hy => (kn y hy).mono e1
      refine s_ret (ev_andV (ev_below (ix 0 a rfl) (ev_var rfl) (kk a (by simp))) fun _ => ev_andV (ev_below (ix 1 b rfl) (ev_var rfl) (kk b (by simp))) fun _ => ev_num (ix 2 c rfl) (kk c (by simp))) fun H2 e2 => q H2 (e1.trans e2)
end
end Am

namespace Am
open PySem L2 Evl
open He (ga ma)
section
variable {K : PySem.W.Frag} {vs : List V} {H : Hp} {Q : VK} {E : XK}
theorem tup_okTup {n : Nat} {s : Say} (h : s.1 < n ∧ s.2.1 < n) : okTup (n : Int) [.int (s.1 : Int), .int (s.2.1 : Int), .int s.2.2] = true := by
  obtain ⟨h1, h2⟩ := h
  have e : ∀ {p : Nat}, p < n → isB (n : Int) (.int (p : Int)) = true := fun {p} hp => by
    unfold isB
    simp only [decide_eq_true_eq, Bool.and_eq_true]
    omega
  show (isB (n : Int) (.int (s.1 : Int)) && (isB (n : Int) (.int (s.2.1 : Int)) && true)) = true
  rw [e h1, e h2]
  rfl
theorem kit_ll : kitB "list" "list" = some true := by decide +kernel
theorem ev_saying {ta tb : TE} {σ : L2.St} {x : V} {n : Nat} {s : Say} (ha : Ev ta σ H x) (hb : Ev tb σ H (.int (n : Int))) (k : TupAt K H x s) (h : s.1 < n ∧ s.2.1 < n) : Ev (tCall (sp_is_saying K) [] E0 (tCons ta (tCons tb tNil))) σ H (.bl true) :=
  ev_pur (ea_cons ha (ea_cons hb ea_nil)) fun H1 e => ⟨x, n, rfl, by
    obtain ⟨t, rfl, hT⟩ := k
    refine .inr ⟨t, _, rfl, ex_t e hT, fun y hy => ?_, by rw [tup_okTup h]⟩
    simp only [List.mem_cons, List.not_mem_nil, or_false] at hy
    rcases hy with rfl | rfl | rfl <;> exact kn_int _⟩
theorem all_true {n : Nat} {f : Nat → Bool} (h : ∀ i, i < n → f i = true) : ((List.range n).map f).all id = true := by
  rw [List.all_eq_true]
  intro b hb
  obtain ⟨i, hi, rfl⟩ := List.mem_map.mp hb
  exact h i (List.mem_range.mp hi)
theorem pure_check_sayings (h : sp_check_sayings K vs H Q E) : t_check_sayings K (Bd Q) (start ["count", "sayings", "saying"] vs) H := by
  obtain ⟨z, ⟨n, a, ss, rfl, hn, hS, ok, rfl⟩, q⟩ := h
  obtain ⟨hz, xs, hL, hp⟩ := hS
  have hlen : xs.length = ss.length := Paired.length hp
  refine q_when (b := false) (et_is (et_or (et_not (et_B (ev_num (ev_var rfl) (kn_int _)))) fun _ => et_test (ev_op (ev_var rfl) ev_c rv_I0)) ?_) (fun e => nomatch e) fun _ H1 e1 => ?_
  · show (!true || decide ((n : Int) < 1)) = false
    simp
    omega
  have hL1 := ex_l e1 hL
  refine s_when (b := false) (et_is (et_or (et_not (et_B (ev_isi (tn := "list") (ev_var rfl) (fun H2 e2 => ty_L (ex_l e2 hL1)) kit_ll))) fun _ => et_not (et_B (ev_all (bs := (List.range xs.length).map fun _ => true) (el_is (el_map (fun _ => .bl true) (ev_var rfl) hL1 (by omega) (fun _ => rfl) fun i x H2 e2 hi => ?_) (by rw [List.map_map] <;> rfl))))) ?_) (fun e => nomatch e) fun _ H2 e2 => q H2 (e1.trans e2)
  · obtain ⟨s, hs, ht⟩ := paired_get hp hi
    exact ev_saying (ev_var rfl) (ev_var rfl) (ht.mono (e1.trans e2)) (ok.get hs)
  · rw [all_true fun _ _ => rfl]
    rfl
theorem isB_nat {p n : Nat} (h : p < n) : isB (n : Int) (.int (p : Int)) = true := by
  unfold isB
  simp only [decide_eq_true_eq, Bool.and_eq_true]
  omega
theorem pure_check_places (h : sp_check_places K vs H Q E) : t_check_places K (Bd Q) (start ["count", "one", "other"] vs) H := by
  obtain ⟨z, ⟨n, p, q, rfl, hp, hq, rfl⟩, k⟩ := h
  refine s_when (b := false) (et_is (et_or (et_not (et_B (ev_below (ev_var rfl) (ev_var rfl) (kn_int _)))) fun _ => et_not (et_B (ev_below (ev_var rfl) (ev_var rfl) (kn_int _)))) ?_) (fun e => nomatch e) fun _ H2 e2 => k H2 e2
  rw [isB_nat hp, isB_nat hq]
  rfl
theorem pure_keep (h : sp_keep K vs H Q E) : t_keep K (Bd Q) (start ["saying", "heights"] vs) H := by
  obtain ⟨z, ⟨v, b, s, hs, rfl, ⟨t, rfl, hT⟩, hL, h1, h2, rfl⟩, q⟩ := h
  have ix : ∀ (i : Int) (v : V), atI [V.int (s.1 : Int), .int (s.2.1 : Int), .int s.2.2] i = some v → Ev (tOp (rIxT K) (tVar 0) (tC (.int i))) (start ["saying", "heights"] [V.ref t, V.ref b]) H v := fun i v hv => ev_op (ev_var rfl) ev_c (rv_ixT hT hv)
  refine s_ret (ev_op (ev_op (ev_op (ev_var rfl) (ix 1 _ rfl) (rv_ixL hL (at_iV h2))) (ev_op (ev_var rfl) (ix 0 _ rfl) (rv_ixL hL (at_iV h1))) rv_I0) (ix 2 _ rfl) rv_I0) q
theorem ev_keep {ta tb : TE} {σ : L2.St} {v : V} {b : Addr} {s : Say} {hs : List Int} (ha : Ev ta σ H v) (hb : Ev tb σ H (.ref b)) (k : TupAt K H v s) (hL : SqL K H b (iV hs)) (h1 : s.1 < hs.length) (h2 : s.2.1 < hs.length) : Ev (tCall (sp_keep K) [] E0 (tCons ta (tCons tb tNil))) σ H (.bl (keeps hs s)) :=
  ev_pur (ea_cons ha (ea_cons hb ea_nil)) fun H1 e => ⟨v, b, s, hs, rfl, k.mono e, ex_l e hL, h1, h2, rfl⟩
theorem all_map_id {α : Type} {l : List α} {f : α → Bool} : (l.map f).all id = l.all f := by
  rw [List.all_map]; rfl
theorem dec_len {a b : Nat} : decide (V.int (a : Int) = V.int (b : Int)) = decide (a = b) := by
  by_cases h : a = b
  · subst h; simp
  · rw [decide_eq_false h, decide_eq_false fun z => h (by injection z with z; omega)]
theorem pure_keep_all (h : sp_keep_all K vs H Q E) : t_keep_all K (Bd Q) (start ["count", "sayings", "heights", "saying"] vs) H := by
  obtain ⟨z, ⟨n, a, b, ss, hs, rfl, ⟨hz, xs, hA, hp⟩, ok, hB, rfl⟩, q⟩ := h
  have hlen : xs.length = ss.length := Paired.length hp
  refine s_ret (v := .bl (keepAll n ss hs)) (ev_is (ev_andV (ev_op (ev_len (ev_var rfl) hB) (ev_var rfl) (rv_eq rfl)) fun hl => ev_all (bs := ss.map (keeps hs)) (el_is (el_map (fun i => .bl (keeps hs (ss.getD i z0))) (ev_var rfl) hA (by omega) (fun _ => rfl) fun i x H2 e2 hi => ?_) ?_)) ?_) q
  · have hl2 : hs.length = n := by
      have := of_decide_eq_true hl
      injection this with this
      rw [List.length_map] at this
      omega
    obtain ⟨s, hs', ht⟩ := paired_get hp hi
    rw [getD_some hs']
    have := ok.get hs'
    exact ev_keep (ev_var rfl) (ev_var rfl) (ht.mono e2) (ex_l e2 hB) (by omega) (by omega)
  · rw [hlen, map_range (f := fun s => V.bl (keeps hs s)), List.map_map]
    rfl
  · rw [all_map_id, List.length_map, dec_len]
    rfl
theorem ev_keep_all {ta tb tc : TE} {σ : L2.St} {n : Nat} {a b : Addr} {ss : List Say} {hs : List Int} (h1 : Ev ta σ H (.int (n : Int))) (h2 : Ev tb σ H (.ref a)) (h3 : Ev tc σ H (.ref b)) (hS : Says K H a ss) (ok : Ok n ss) (hB : SqL K H b (iV hs)) : Ev (tCall (sp_keep_all K) [] E0 (tCons ta (tCons tb (tCons tc tNil)))) σ H (.bl (keepAll n ss hs)) :=
  ev_pur (ea_cons h1 (ea_cons h2 (ea_cons h3 ea_nil))) fun H1 e => ⟨n, a, b, ss, hs, rfl, hS.mono e, ok, ex_l e hB, rfl⟩
theorem Says.at {a : Addr} {ss : List Say} (h : Says K H a ss) {i : Nat} {s : Say} (e : ss[i]? = some s) : ∃ xs v, SqL K H a xs ∧ atI xs (i : Int) = some v ∧ TupAt K H v s := by
  obtain ⟨_, xs, hL, hp⟩ := h
  obtain ⟨v, hv, ht⟩ := paired_getR hp e
  exact ⟨xs, v, hL, atI_nat hv, ht⟩
/-- sayings[i][j] -/
theorem ev_part {ta tb : TE} {σ : L2.St} {a : Addr} {ss : List Say} {i : Nat} {s : Say} {j : Int} {v : V} (hS : Says K H a ss) (e : ss[i]? = some s) (ha : Ev ta σ H (.ref a)) (hb : Ev tb σ H (.int (i : Int))) (hv : atI [V.int (s.1 : Int), .int (s.2.1 : Int), .int s.2.2] j = some v) : Ev (tOp (rIxT K) (tOp (rIxL K) ta tb) (tC (.int j))) σ H v := by
  obtain ⟨xs, w, hL, hx, t, rfl, hT⟩ := hS.at e
  exact ev_op (ev_op ha hb (rv_ixL hL hx)) ev_c (rv_ixT hT hv)
theorem ev_lenS {ta : TE} {σ : L2.St} {a : Addr} {ss : List Say} (hS : Says K H a ss) (ha : Ev ta σ H (.ref a)) : Ev (tCB (rLenS K) (tCons ta tNil)) σ H (.int (ss.length : Int)) := by
  obtain ⟨hz, xs, hL, hp⟩ := hS
  have := ev_len ha hL
  rw [Paired.length hp] at this
  exact this
theorem dec_nat {a b : Nat} : decide (V.int (a : Int) = V.int (b : Int)) = decide (a = b) := dec_len
/-- the test of one step of a chain -/
theorem et_step {σ : L2.St} {a : Addr} {ss : List Say} {p : Nat} {x : Int} (hS : Says K H a ss) (h0 : σ[0]? = some (some (V.ref a))) (h6 : σ[6]? = some (some (V.int x))) (h5 : σ[5]? = some (some (V.int (p : Int)))) :
    EvT (tOr (tNot (tTest (tChain rLeI rLtI (tC (.int 0)) (tVar 6) (tCB (rLenS K) (tCons (tVar 0) (tNil)))))) (tTest (tOp rNe (tOp (rIxT K) (tOp (rIxL K) (tVar 0) (tVar 6)) (tC (.int 0))) (tVar 5)))) σ H
      (match sayAt ss x with | some s => !decide (s.1 = p) | none => true) := by
  have c : EvT (tTest (tChain rLeI rLtI (tC (.int 0)) (tVar 6) (tCB (rLenS K) (tCons (tVar 0) (tNil))))) σ H (decide ((0 : Int) ≤ x) && decide (x < (ss.length : Int))) :=
    et_test (ev_chain ev_c (ev_var h6) rv_I0 (fun _ => ev_lenS hS (ev_var h0)) fun _ => rv_I0)
  cases hs : sayAt ss x with
  | none =>
    have e : (decide ((0 : Int) ≤ x) && decide (x < (ss.length : Int))) = false := by
      unfold sayAt at hs
      by_cases h : 0 ≤ x
      · rw [if_pos h] at hs
        have := List.getElem?_eq_none_iff.mp hs
        rw [decide_eq_true h, Bool.true_and]
        refine decide_eq_false ?_; omega
      · rw [decide_eq_false h, Bool.false_and]
    exact et_is (et_or (b := false) (et_not c) fun z => by rw [e] at z; cases z) (by rw [e]; rfl)
  | some s =>
    unfold sayAt at hs
    by_cases h : 0 ≤ x
    · rw [if_pos h] at hs
      obtain ⟨k, rfl⟩ := Int.eq_ofNat_of_zero_le h
      have hs2 : ss[k]? = some s := hs
      have hk := (List.getElem?_eq_some_iff.mp hs2).1
      refine et_is (et_or (et_not c) fun _ => et_test (ev_op (ev_part hS hs2 (ev_var h0) (ev_var h6) rfl) (ev_var h5) (rv_ne rfl))) ?_
      rw [dec_nat, decide_eq_true (Int.natCast_nonneg k), Bool.true_and, decide_eq_true (by omega : (k : Int) < (ss.length : Int))]
      rfl
    · rw [if_neg h] at hs; cases hs
theorem sayAt_some {ss : List Say} {x : Int} {s : Say} (h : sayAt ss x = some s) : ∃ k : Nat, x = (k : Int) ∧ ss[k]? = some s := by
  unfold sayAt at h
  by_cases h0 : 0 ≤ x
  · rw [if_pos h0] at h
    obtain ⟨k, rfl⟩ := Int.eq_ofNat_of_zero_le h0
    exact ⟨k, rfl, h⟩
  · rw [if_neg h0] at h; cases h
theorem drop_at {α : Type} {l : List α} {i : Nat} {x : α} (h : l[i]? = some x) : l.drop i = x :: l.drop (i + 1) := by
  rcases List.getElem?_eq_some_iff.mp h with ⟨hi, e⟩
  rw [List.drop_eq_getElem_cons hi, e]
theorem iV_at {ch : List Int} {i : Nat} {v : V} (h : (iV ch)[i]? = some v) : ∃ x, ch[i]? = some x ∧ v = .int x := by
  rw [List.getElem?_map] at h
  cases e : ch[i]? with
  | none => rw [e] at h; exact nomatch h
  | some x => rw [e] at h; exact ⟨x, rfl, (Option.some.inj h).symm⟩
theorem pure_sum_along (h : sp_sum_along K vs H Q E) : t_sum_along K (Bd Q) (start ["sayings", "chain", "one", "other", "total", "place", "at"] vs) H := by
  obtain ⟨z, ⟨a, c, ss, ch, p, q, rfl, hS, hC, rfl⟩, k⟩ := h
  refine q_asg ev_c fun H1 e1 => q_asg (ev_var rfl) fun H2 e2 => ?_
  have e := e1.trans e2
  refine q_forLn (ev_var rfl) (ex_l e hC) (fun i σ' H' => ∃ (u : Nat) (t : Int) (w : Option V), σ' = [some (.ref a), some (.ref c), some (.int (p : Int)), some (.int (q : Int)), some (.int t), some (.int (u : Int)), w] ∧ Ex H H' ∧ sumAlong ss ch p q = ends q (run ss (ch.drop i) u t))
    (fun H3 e3 => ⟨p, 0, none, rfl, e.trans e3, rfl⟩) (fun i σ' H' _ ⟨_, _, _, _, e', _⟩ => ex_l e' hC) ?_ ?_
  · rintro i x σ' H' hi ⟨u, t, w, rfl, e', inv⟩
    obtain ⟨x, hx, rfl⟩ := iV_at hi
    rw [drop_at hx, run_cons] at inv
    have hS' := hS.mono e'
    refine q_when (et_step hS' rfl rfl rfl) (fun hb H3 e3 => ?_) fun hb H3 e3 => ?_
    · refine s_ret ev_c fun H4 e4 => ?_
      have kk := k H4 ((e'.trans e3).trans e4)
      rw [inv] at kk
      cases hs : sayAt ss x with
      | none =>
        rw [hs] at kk
        exact kk
      | some s =>
        obtain ⟨l, v, m⟩ := s
        rw [hs] at hb kk
        have ne : ¬ l = u := by simpa using hb
        simp only at kk
        rw [if_neg ne] at kk
        exact kk
    · cases hs : sayAt ss x with
      | none => rw [hs] at hb; cases hb
      | some s =>
        obtain ⟨l, v, m⟩ := s
        rw [hs] at hb inv
        have eq : l = u := by simpa using hb
        simp only at inv
        rw [if_pos eq] at inv
        obtain ⟨j, rfl, hj⟩ := sayAt_some hs
        have hS3 := hS'.mono e3
        refine q_asg (ev_part hS3 hj (ev_var rfl) (ev_var rfl) rfl) fun H4 e4 => ?_
        refine s_asg (ev_op (ev_var rfl) (ev_part (hS3.mono e4) hj (ev_var rfl) (ev_var rfl) rfl) rv_I0) fun H5 e5 => ?_
        exact ⟨v, t + m, _, rfl, ((e'.trans e3).trans e4).trans e5, inv⟩
  · rintro σ' H' ⟨u, t, w, rfl, e', inv⟩
    rw [List.length_map, List.drop_length] at inv
    have inv2 : sumAlong ss ch p q = if u = q then some t else none := inv
    refine q_when (et_test (ev_op (ev_var rfl) (ev_var rfl) (rv_ne rfl))) (fun hb H3 e3 => ?_) fun hb H3 e3 => ?_
    · have ne : ¬ u = q := by rw [dec_nat] at hb; simpa using hb
      refine s_ret ev_c fun H4 e4 => ?_
      have kk := k H4 ((e'.trans e3).trans e4)
      rw [inv2, if_neg ne] at kk
      exact kk
    · have eq : u = q := by rw [dec_nat] at hb; simpa using hb
      refine s_ret (ev_var rfl) fun H4 e4 => ?_
      have kk := k H4 ((e'.trans e3).trans e4)
      rw [inv2, if_pos eq] at kk
      exact kk
theorem ev_sum_along {ta tb tc td : TE} {σ : L2.St} {a c : Addr} {ss : List Say} {ch : List Int} {p q : Nat} (h1 : Ev ta σ H (.ref a)) (h2 : Ev tb σ H (.ref c)) (h3 : Ev tc σ H (.int (p : Int))) (h4 : Ev td σ H (.int (q : Int))) (hS : Says K H a ss) (hC : SqL K H c (iV ch)) :
    Ev (tCall (sp_sum_along K) [] E0 (tCons ta (tCons tb (tCons tc (tCons td tNil))))) σ H (oV (sumAlong ss ch p q)) :=
  ev_pur (ea_cons h1 (ea_cons h2 (ea_cons h3 (ea_cons h4 ea_nil)))) fun H1 e => ⟨a, c, ss, ch, p, q, rfl, hS.mono e, ex_l e hC, rfl⟩
theorem ev_check {ta tb : TE} {σ : L2.St} {n : Nat} {a : Addr} {ss : List Say} (h1 : Ev ta σ H (.int (n : Int))) (h2 : Ev tb σ H (.ref a)) (hn : 0 < n) (hS : Says K H a ss) (ok : Ok n ss) : Ev (tCall (sp_check_sayings K) [] E0 (tCons ta (tCons tb tNil))) σ H .non :=
  ev_pur (ea_cons h1 (ea_cons h2 ea_nil)) fun H1 e => ⟨n, a, ss, rfl, hn, hS.mono e, ok, rfl⟩
theorem pure_kept (h : sp_kept K vs H Q E) : t_kept K (Bd Q) (start ["count", "sayings", "heights", "one"] vs) H := by
  obtain ⟨z, ⟨n, a, b, ss, hs, rfl, hn, hS, ok, hB, hl, hz, rfl⟩, q⟩ := h
  refine q_drop (ev_check (ev_var rfl) (ev_var rfl) hn hS ok) fun H1 e1 => ?_
  have hB1 := ex_l e1 hB
  refine q_when (b := false) (et_is (et_or (et_not (et_B (ev_isi (tn := "list") (ev_var rfl) (fun H2 e2 => ty_L (ex_l e2 hB1)) kit_ll))) fun _ => et_or (et_test (ev_op (ev_len (ev_var rfl) hB1) (ev_var rfl) (rv_ne rfl))) fun _ => et_not (et_B (ev_all (bs := (List.range (iV hs).length).map fun _ => true) (el_is (el_map (fun _ => .bl true) (ev_var rfl) hB1 (by rw [List.length_map]; omega) (fun _ => rfl) fun i x H2 e2 hi => ?_) (by rw [List.map_map] <;> rfl))))) ?_) (fun e => nomatch e) fun _ H2 e2 => ?_
  · obtain ⟨y, _, rfl⟩ := iV_at hi
    exact ev_num (ev_var rfl) (kn_int _)
  · rw [all_true fun _ _ => rfl, List.length_map, hl, dec_len]
    simp
  · exact s_ret (ev_keep_all (ev_var rfl) (ev_var rfl) (ev_var rfl) (hS.mono (e1.trans e2)) ok (ex_l e2 hB1)) fun H3 e3 => q H3 ((e1.trans e2).trans e3)
end
end Am

namespace Am
open PySem L2 Evl
open He (ga ma)
section
variable {K : PySem.W.Frag} {σ : L2.St} {H H' : Hp} {ta tb tc te tx : TE} {t u : TT} {x y z v : V} {r : R2} {D : Ends} {tz tu : TS} {ts tss : TA}
/-! ### displays, places -/
theorem ev_tupIx {vs : List V} {i : Int} (h : EvA ts σ H vs) (hl : vs.length ≤ 100000) (hb : Ev tb σ H (.int i)) (hv : atI vs i = some v) : Ev (tOp (rIxT K) (tTup ts) tb) σ H v := fun H1 e Q q =>
  eu_tup h hl H1 e _ fun p H2 _ e2 hp => hb H2 (e.trans e2) _ fun H3 e3 => ⟨p, vs, i, v, rfl, rfl, st_of (e3 p _ hp), hv, q H3 (e2.trans e3)⟩
theorem ea2 (h1 : Ev ta σ H x) (h2 : Ev tb σ H y) : EvA (tCons ta (tCons tb tNil)) σ H [x, y] := ea_cons h1 (ea_cons h2 ea_nil)
theorem ea3 (h1 : Ev ta σ H x) (h2 : Ev tb σ H y) (h3 : Ev tc σ H z) : EvA (tCons ta (tCons tb (tCons tc tNil))) σ H [x, y, z] := ea_cons h1 (ea2 h2 h3)

/-! ### statements -/
theorem s_par {i j : Nat} (h1 : Ev ta σ H x) (h2 : Ev tb σ H y) (k : ∀ H1, Ex H H1 → D.nx ((σ.set i (some x)).set j (some y)) H1) : tPar i j (tCons ta (tCons tb tNil)) D σ H :=
  ea2 h1 h2 H (Ex.refl H) _ fun H1 e => ⟨x, y, rfl, k H1 e⟩
theorem q_par {i j : Nat} (h1 : Ev ta σ H x) (h2 : Ev tb σ H y) (k : ∀ H1, Ex H H1 → tz D ((σ.set i (some x)).set j (some y)) H1) : tSeq (tPar i j (tCons ta (tCons tb tNil))) tz D σ H := s_par (D := { D with nx := tz D }) h1 h2 k
/-- what is called hands back as its promise says -/
theorem raw_call {sp : Sp} {vs : List V} {E : XK} {Q : VK} (h : EvA ts σ H vs) (k : ∀ H1, Ex H H1 → sp vs H1 Q E) : tCall sp [] E ts σ H Q := h H (Ex.refl H) _ fun H1 e1 => by
  rw [List.append_nil]
  exact k H1 e1
theorem raw_par2 {i j : Nat} (h : ta σ H fun x H1 => tb σ H1 fun y H2 => ∃ v w, [x, y] = [v, w] ∧ D.nx ((σ.set i (some v)).set j (some w)) H2) : tPar i j (tCons ta (tCons tb tNil)) D σ H := h
theorem raw_q_par2 {i j : Nat} (h : ta σ H fun x H1 => tb σ H1 fun y H2 => ∃ v w, [x, y] = [v, w] ∧ tz D ((σ.set i (some v)).set j (some w)) H2) : tSeq (tPar i j (tCons ta (tCons tb tNil))) tz D σ H := h
theorem raw_q_asg {i : Nat} (h : te σ H fun x H1 => tz D (σ.set i (some x)) H1) : tSeq (tAsg te (gName i)) tz D σ H := h
theorem unp2 {a b : V} {p : Addr} {i j : Nat} {R : L2.St → Hp → Prop} (hT : SqT K H p [a, b]) (k : R ((σ.set i (some a)).set j (some b)) H) : gTup K 2 (gCons (gName i) (gCons (gName j) gNil)) (.ref p) σ H R :=
  ⟨p, [a, b], rfl, hT, rfl, a, [b], rfl, b, [], rfl, rfl, k⟩
theorem unp3 {a b c : V} {p : Addr} {i j l : Nat} {R : L2.St → Hp → Prop} (hT : SqT K H p [a, b, c]) (k : R (((σ.set i (some a)).set j (some b)).set l (some c)) H) : gTup K 3 (gCons (gName i) (gCons (gName j) (gCons (gName l) gNil))) (.ref p) σ H R :=
  ⟨p, [a, b, c], rfl, hT, rfl, a, [b, c], rfl, b, [c], rfl, c, [], rfl, rfl, k⟩
theorem q_unp3 {a b c : V} {p : Addr} {i j l : Nat} (h : Ev te σ H (.ref p)) (hT : SqT K H p [a, b, c]) (k : ∀ H1, Ex H H1 → tz D (((σ.set i (some a)).set j (some b)).set l (some c)) H1) : tSeq (tAsg te (gTup K 3 (gCons (gName i) (gCons (gName j) (gCons (gName l) gNil))))) tz D σ H :=
  h H (Ex.refl H) _ fun H1 e => unp3 (ex_t e hT) (k H1 e)
theorem q_unp2 {a b : V} {p : Addr} {i j : Nat} (h : Ev te σ H (.ref p)) (hT : SqT K H p [a, b]) (k : ∀ H1, Ex H H1 → tz D ((σ.set i (some a)).set j (some b)) H1) : tSeq (tAsg te (gTup K 2 (gCons (gName i) (gCons (gName j) gNil)))) tz D σ H :=
  h H (Ex.refl H) _ fun H1 e => unp2 (ex_t e hT) (k H1 e)
/-- sayings[i], taken apart -/
theorem q_unpS {a : Addr} {ss : List Say} {n : Nat} {s : Say} {i j l : Nat} (hS : Says K H a ss) (e : ss[n]? = some s) (ha : Ev ta σ H (.ref a)) (hb : Ev tb σ H (.int (n : Int))) (k : ∀ H1, Ex H H1 → tz D (((σ.set i (some (.int (s.1 : Int)))).set j (some (.int (s.2.1 : Int)))).set l (some (.int s.2.2))) H1) :
    tSeq (tAsg (tOp (rIxL K) ta tb) (gTup K 3 (gCons (gName i) (gCons (gName j) (gCons (gName l) gNil))))) tz D σ H := by
  obtain ⟨xs, w, hL, hx, t, rfl, hT⟩ := hS.at e
  exact q_unp3 (ev_op ha hb (rv_ixL hL hx)) hT k

/-! ### comprehensions -/
theorem el_mapR {j : Nat} {vs : List Nat} {n : Int} (v : Nat → V) (h : EvA ts σ H [.int n]) (hn : 0 ≤ n ∧ n ≤ 40000) (hw : ∀ x, wipe ((wipe σ vs).set j (some x)) vs = wipe σ vs)
    (he : ∀ (i : Nat) H1, Ex H H1 → (i : Int) < n → Ev te ((wipe σ vs).set j (some (.int (i : Int)))) H1 (v i)) : EvL (tLc (iRng1 ts) (gName j) tYes te vs) σ H ((List.range n.toNat).map v) :=
  el_is (el_lcR1 (fun _ => true) v h hn hw (fun _ _ _ _ => et_yes) fun i H1 e hi _ => he i H1 e hi) (given_all fun _ => rfl)
/-- over sayings taken apart, with a test -/
theorem el_saysF {a : Addr} {ss : List Say} {tl : TE} {tt : TT} {i j l : Nat} (f : Say → Bool) (v : Say → V) (hS : Says K H a ss) (h : Ev tl σ H (.ref a))
    (hw : ∀ x y z, wipe ((((wipe σ [i, j, l]).set i (some x)).set j (some y)).set l (some z)) [i, j, l] = wipe σ [i, j, l])
    (ht : ∀ s H1, Ex H H1 → s ∈ ss → EvT tt ((((wipe σ [i, j, l]).set i (some (.int (s.1 : Int)))).set j (some (.int (s.2.1 : Int)))).set l (some (.int s.2.2))) H1 (f s))
    (he : ∀ s H1, Ex H H1 → s ∈ ss → f s = true → Ev te ((((wipe σ [i, j, l]).set i (some (.int (s.1 : Int)))).set j (some (.int (s.2.1 : Int)))).set l (some (.int s.2.2))) H1 (v s)) :
    EvL (tLc (iList K tl) (gTup K 3 (gCons (gName i) (gCons (gName j) (gCons (gName l) gNil)))) tt te [i, j, l]) σ H ((ss.filter f).map v) := fun H0 e Q q => h H0 e _ fun H1 e1 => by
  obtain ⟨hz, xs, hx, hp⟩ := hS
  have hlen : xs.length = ss.length := Paired.length hp
  refine ⟨a, rfl, ⟨xs, ex_l (e.trans e1) hx⟩, fun Dl hD => ?_⟩
  refine lc_list (xs := xs) (fun i H' => H1 Dl = none ∧ Ex H1 H' ∧ H' Dl = some (.lst (((ss.take i).filter f).map v))) ⟨hD, Ex.new hD, upd_same⟩ (fun i H' _ p => ex_l ((e.trans e1).trans p.2.1) hx) (fun k x H' hi ⟨p1, p2, p3⟩ => ?_)
    (fun H' ⟨p1, p2, p3⟩ => q Dl H' (fresh_back e1 p1) (e1.trans p2) (by rw [hlen, List.take_length] at p3; exact p3))
  obtain ⟨s, hs, tp, rfl, hT⟩ := paired_get hp hi
  have E2 := (e.trans e1).trans p2
  have mem := List.mem_of_getElem? hs
  have hk := (List.getElem?_eq_some_iff.mp hs).1
  have tk : ss.take (k + 1) = ss.take k ++ [s] := by rw [List.take_succ, hs]; rfl
  have ht1 := ht s H1 (e.trans e1) mem
  have he1 := fun hf => he s H1 (e.trans e1) mem hf
  refine unp3 (ex_t E2 hT) ⟨hw _ _ _, ht1 H' p2 _ fun H3 e3 => ?_⟩
  cases hf : f s with
  | true =>
    rw [if_pos rfl]
    refine he1 hf H3 (p2.trans e3) _ fun H4 e4 => ⟨_, e4 Dl _ (e3 Dl _ p3), sz_lt ?_, p1, Ex.mut ((p2.trans e3).trans e4) p1, ?_⟩
    · rw [List.length_map]
      have := List.length_filter_le f (ss.take k)
      rw [List.length_take] at this
      omega
    · rw [upd_same, tk, List.filter_append, List.map_append, List.filter_cons, if_pos hf]
      rfl
  | false =>
    rw [if_neg (by decide)]
    refine ⟨p1, p2.trans e3, ?_⟩
    rw [tk, List.filter_append, List.filter_cons, if_neg (by rw [hf]; exact Bool.false_ne_true)]
    show H3 Dl = some (.lst ((List.filter f (ss.take k) ++ []).map v))
    rw [List.append_nil]
    exact e3 Dl _ p3
theorem el_says {a : Addr} {ss : List Say} {tl : TE} {i j l : Nat} (v : Say → V) (hS : Says K H a ss) (h : Ev tl σ H (.ref a))
    (hw : ∀ x y z, wipe ((((wipe σ [i, j, l]).set i (some x)).set j (some y)).set l (some z)) [i, j, l] = wipe σ [i, j, l])
    (he : ∀ s H1, Ex H H1 → s ∈ ss → Ev te ((((wipe σ [i, j, l]).set i (some (.int (s.1 : Int)))).set j (some (.int (s.2.1 : Int)))).set l (some (.int s.2.2))) H1 (v s)) :
    EvL (tLc (iList K tl) (gTup K 3 (gCons (gName i) (gCons (gName j) (gCons (gName l) gNil)))) tYes te [i, j, l]) σ H (ss.map v) :=
  el_is (el_saysF (fun _ => true) v hS h hw (fun _ _ _ _ => et_yes) fun s H1 e m _ => he s H1 e m) (by rw [List.filter_eq_self.mpr fun _ _ => rfl])

/-! ### data: numbers, sayings -/
def dI (hs : List Int) : PyData := .list (hs.map .int)
def dSay (s : Say) : PyData := .tuple [.int (s.1 : Int), .int (s.2.1 : Int), .int s.2.2]
def dS (ss : List Say) : PyData := .list (ss.map dSay)
theorem dp_ints : ∀ hs : List Int, DpAll K H (iV hs) (hs.map .int)
  | [] => .nil
  | h :: r => .cons (.int h) (dp_ints r)
theorem dp_I {a : Addr} {hs : List Int} (h : SqL K H a (iV hs)) : Dp K H (.ref a) (dI hs) := .lst h (dp_ints hs)
theorem dp_says : ∀ {xs : List V} {ss : List Say}, Paired (TupAt K H) xs ss → DpAll K H xs (ss.map dSay)
  | _, _, .nil => .nil
  | _, _, .cons r t => by
    obtain ⟨p, rfl, hT⟩ := r
    exact .cons (.tup hT (.cons (.int _) (.cons (.int _) (.cons (.int _) .nil)))) (dp_says t)
theorem dp_S {a : Addr} {ss : List Say} (h : Says K H a ss) : Dp K H (.ref a) (dS ss) := by
  obtain ⟨_, xs, hL, hp⟩ := h
  exact .lst hL (dp_says hp)
theorem lay_ints : ∀ hs : List Int, PyData.canLayAll0 (hs.map .int) = true
  | [] => by unfold PyData.canLayAll0; rfl
  | h :: r => by rw [List.map_cons, PyData.canLayAll0, lay_ints r]; simp [PyData.canLay0]
theorem lay_says : ∀ ss : List Say, PyData.canLayAll0 (ss.map dSay) = true
  | [] => by unfold PyData.canLayAll0; rfl
  | h :: r => by rw [List.map_cons, PyData.canLayAll0, lay_says r]; simp [PyData.canLay0, PyData.canLayAll0, dSay]
theorem dep_ints : ∀ hs : List Int, PyData.depthAll (hs.map .int) = 0
  | [] => by unfold PyData.depthAll; rfl
  | h :: r => by rw [List.map_cons, PyData.depthAll, dep_ints r]; simp [PyData.depth]
theorem dep_says : ∀ ss : List Say, PyData.depthAll (ss.map dSay) ≤ 1
  | [] => by rw [List.map_nil, PyData.depthAll]; exact Nat.zero_le 1
  | h :: r => by
    rw [List.map_cons]; rw [PyData.depthAll]
    have := dep_says r
    have e : (dSay h).depth = 1 := by simp [dSay, PyData.depth, PyData.depthAll]
    rw [e]
    omega
theorem lay_I (hs : List Int) : (dI hs).canLay0 = true := by unfold dI; rw [PyData.canLay0]; exact lay_ints hs
theorem lay_S (ss : List Say) : (dS ss).canLay0 = true := by unfold dS; rw [PyData.canLay0]; exact lay_says ss
theorem dep_I (hs : List Int) : (dI hs).depth = 1 := by unfold dI; rw [PyData.depth, dep_ints]
theorem dep_S (ss : List Say) : (dS ss).depth ≤ 2 := by unfold dS; rw [PyData.depth]; have := dep_says ss; omega
theorem sh_I (hs : List Int) : SeqAt.shaped (dI hs) = true := by unfold SeqAt.shaped; rw [lay_I, dep_I]; rfl
theorem sh_S (ss : List Say) : SeqAt.shaped (dS ss) = true := by
  unfold SeqAt.shaped
  rw [lay_S, Bool.true_and]
  exact decide_eq_true (by have := dep_S ss; omega)
/-- a list of two, of these -/
theorem sh_2 {d e : PyData} (h1 : d.canLay0 = true) (h2 : e.canLay0 = true) (g1 : d.depth ≤ 5) (g2 : e.depth ≤ 5) : SeqAt.shaped (.list [d, e]) = true := by
  unfold SeqAt.shaped
  rw [PyData.canLay0, PyData.canLayAll0, PyData.canLayAll0, h1, h2, PyData.canLayAll0]
  refine decide_eq_true ?_
  rw [PyData.depth, PyData.depthAll, PyData.depthAll, PyData.depthAll]
  omega
theorem sh_lay {d : PyData} (h : SeqAt.shaped d = true) : d.canLay0 = true := SeqAt.canLay_of_shaped h
theorem eqv_self {d : PyData} (h : SeqAt.shaped d = true) : PyData.eqv d d = true := by
  first
    | exact SeqAt.eqv_refl d (sh_lay h)
    | exact P3.eqv_refl d (sh_lay h)
    | exact eqv_refl d (sh_lay h)
theorem rv_neD {d e : PyData} {b : Bool} (hx : ∀ H1, Ex H H1 → Dp K H1 x d) (hy : ∀ H1, Ex H H1 → Dp K H1 y e) (sx : SeqAt.shaped d = true) (sy : SeqAt.shaped e = true) (hb : (!PyData.eqv d e) = b) : RV (rNeD K) x y H (.bl b) := fun H1 e1 Q q =>
  ⟨d, e, hx H1 e1, hy H1 e1, sx, sy, by rw [hb]; exact q H1 (Ex.refl H1)⟩
theorem rv_eqD {d e : PyData} {b : Bool} (hx : ∀ H1, Ex H H1 → Dp K H1 x d) (hy : ∀ H1, Ex H H1 → Dp K H1 y e) (sx : SeqAt.shaped d = true) (sy : SeqAt.shaped e = true) (hb : PyData.eqv d e = b) : RV (rEqD K) x y H (.bl b) := fun H1 e1 Q q =>
  ⟨d, e, hx H1 e1, hy H1 e1, sx, sy, by rw [hb]; exact q H1 (Ex.refl H1)⟩
/-- x != [], of numbers -/
theorem ev_neNil {p : Addr} {hs : List Int} (ha : Ev ta σ H (.ref p)) (h : SqL K H p (iV hs)) : Ev (tOp (rNeD K) ta (tLst tNil)) σ H (.bl (!hs.isEmpty)) :=
  ev_opL (xs := []) ha (el_lst ea_nil (by simp)) fun q H1 hq e => rv_neD (d := dI hs) (e := dI []) (fun H2 e2 => dp_I (ex_l (e.trans e2) h)) (fun H2 e2 => dp_I (sq_of (e2 q _ hq))) (sh_I hs) (sh_I []) (by cases hs <;> rfl)
/-- x == [] -/
theorem ev_eqNil {p : Addr} {hs : List Int} (ha : Ev ta σ H (.ref p)) (h : SqL K H p (iV hs)) : Ev (tOp (rEqD K) ta (tLst tNil)) σ H (.bl hs.isEmpty) :=
  ev_opL (xs := []) ha (el_lst ea_nil (by simp)) fun q H1 hq e => rv_eqD (d := dI hs) (e := dI []) (fun H2 e2 => dp_I (ex_l (e.trans e2) h)) (fun H2 e2 => dp_I (sq_of (e2 q _ hq))) (sh_I hs) (sh_I []) (by cases hs <;> rfl)

/-! ### what stands but for one object -/
def less (H : Hp) (l : Addr) : Hp := fun b => if b = l then none else H b
theorem less_at {l : Addr} : less H l l = none := if_pos rfl
theorem less_ne {l b : Addr} (h : b ≠ l) : less H l b = H b := if_neg h
theorem ex_less {l : Addr} : Ex (less H l) H := fun a o h => by
  by_cases q : a = l
  · rw [q, less_at] at h; cases h
  · rw [less_ne q] at h; exact h
/-- what stood ahead of l's making -/
theorem ex_less_old {H0 : Hp} {l : Addr} (e : Ex H0 H) (h : H0 l = none) : Ex H0 (less H l) := fun a o ha => by
  rw [less_ne (ne_of_none ha h)]
  exact e a o ha
theorem lst_less {l d : Addr} {o : HO} (h : H d = some o) (hd : d ≠ l) : less H l d = some o := by rw [less_ne hd]; exact h
end
end Am

namespace Am
open PySem L2 Evl
open He (ga ma)
/-- sayings in a list that may be changed -/
def SaysM (K : PySem.W.Frag) (H : Hp) (a : Addr) (ss : List Say) : Prop := ss.length ≤ 1000 ∧ ∃ xs, H a = some (.lst xs) ∧ Paired (TupAt K H) xs ss
theorem SaysM.says {K : PySem.W.Frag} {H : Hp} {a : Addr} {ss : List Say} (h : SaysM K H a ss) : Says K H a ss := by
  obtain ⟨hz, xs, h1, h2⟩ := h
  exact ⟨hz, xs, sq_of h1, h2⟩
theorem SaysM.mono {K : PySem.W.Frag} {H H' : Hp} {a : Addr} {ss : List Say} (e : Ex H H') (h : SaysM K H a ss) : SaysM K H' a ss := by
  obtain ⟨hz, xs, h1, h2⟩ := h
  exact ⟨hz, xs, e _ _ h1, L2.Paired.mapP h2 fun _ _ => TupAt.mono e⟩
def sp__law_drawn (K : PySem.W.Frag) : Sp := fun vs H Q _ => ∃ (a : Addr) (ns : List Int) (n : Nat), vs = [.ref a, .int (n : Int)] ∧ SqL K H a (iV ns) ∧ ns.length ≤ 63 ∧ n ≤ 100 ∧
  ∀ (ds : List Int) p H2, ds.length = n → H p = none → Ex H H2 → H2 p = some (.lst (iV ds)) → Q (.ref p) H2
def sp__law_sayings (K : PySem.W.Frag) : Sp := fun vs H Q _ => ∃ (a : Addr) (ns : List Int), vs = [.ref a] ∧ SqL K H a (iV ns) ∧ ns.length ≤ 63 ∧
  ∀ (n : Nat) (ss : List Say) p l H2, 0 < n → n ≤ 65 → Ok n ss → ss.length ≤ 63 → (ns.sum % 4 ≤ 1 → ∃ f, Kept ss f) → H p = none → H l = none → Ex H H2 → H2 p = some (.tup [.int (n : Int), .ref l]) → SaysM K H2 l ss → Q (.ref p) H2
def sp__law_sum (K : PySem.W.Frag) : Sp := Pur fun vs H z => ∃ (a c : Addr) (ss : List Say) (ch : List Int) (p q : Nat), vs = [.ref a, .ref c, .int (p : Int), .int (q : Int)] ∧ Says K H a ss ∧ SqL K H c (iV ch) ∧ z = oV (sumAlong ss ch p q)
def sp__law_kept (K : PySem.W.Frag) : Sp := Pur fun vs H z => ∃ (n : Nat) (a b : Addr) (ss : List Say) (hs : List Int), vs = [.int (n : Int), .ref a, .ref b] ∧ Says K H a ss ∧ Ok n ss ∧ SqL K H b (iV hs) ∧ hs.length ≤ 1000 ∧ z = .bl (keepAll n ss hs)
def t__law_drawn (K : PySem.W.Frag) : TS := tSeq (tAsg (tOp (rIxT K) (tTup (tCons (tC (.int 10)) (tCons (tC (.int 1000)) (tNil)))) (tOp rModI (tOp rDivI (tCB (rSum K) (tCons (tVar 0) (tNil))) (tC (.int 4))) (tC (.int 2)))) (gName 2)) (tRet (tLc (iRng1 (tCons (tVar 1) (tNil))) (gName 3) (tYes) (tIf (tTest (tOp (rNeD K) (tVar 0) (tLst (tNil)))) (tOp rModI (tOp rDivI (tOp (rIxL K) (tVar 0) (tOp rModI (tVar 3) (tCB (rLenS K) (tCons (tVar 0) (tNil))))) (tC (.int 3))) (tVar 2)) (tC (.int 0))) [3]))
def t__law_sayings (K : PySem.W.Frag) : TS := tSeq (tPar3 1 2 3 (tCons (tCB (rSum K) (tCons (tVar 0) (tNil))) (tCons (tCB (rLenS K) (tCons (tVar 0) (tNil))) (tCons (tLst (tNil)) (tNil))))) (tSeq (tAsg (tOp (rIxT K) (tTup (tCons (tOp rAddI (tC (.int 1)) (tOp rDivI (tVar 2) (tC (.int 2)))) (tCons (tOp rAddI (tC (.int 1)) (tOp rModI (tOp rDivI (tVar 1) (tC (.int 8))) (tC (.int 4)))) (tCons (tOp rAddI (tVar 2) (tC (.int 2))) (tCons (tOp rAddI (tC (.int 1)) (tOp rModI (tOp rDivI (tVar 1) (tC (.int 8))) (tOp rAddI (tVar 2) (tC (.int 1))))) (tNil)))))) (tOp rModI (tOp rDivI (tVar 1) (tC (.int 32))) (tC (.int 4)))) (gName 4)) (tSeq (tPar 5 6 (tCons (tCall (sp__law_drawn K) [] E0 (tCons (tVar 0) (tCons (tVar 4) (tNil)))) (tCons (tOp rModI (tVar 1) (tC (.int 4))) (tNil)))) (tSeq (tFor (iList K (tVar 0)) (gName 7) (tSeq (tPar 8 9 (tCons (tOp rModI (tVar 7) (tVar 4)) (tCons (tOp rModI (tOp rDivI (tVar 7) (tVar 4)) (tVar 4)) (tNil)))) (tSeq (tAsg (tOp rDivI (tOp rDivI (tVar 7) (tVar 4)) (tVar 4)) (gName 10)) (tSeq (tPar 11 12 (tCons (tOp rAddI (tVar 10) (tOp rDivI (tVar 7) (tC (.int 7)))) (tCons (tOp (rIxT K) (tTup (tCons (tOp rDivI (tVar 7) (tC (.int 3))) (tCons (tVar 10) (tNil)))) (tOp rModI (tOp rDivI (tVar 1) (tC (.int 128))) (tC (.int 2)))) (tNil)))) (tSeq (tAsg (tOp (rIxT K) (tTup (tCons (tOp rModI (tVar 11) (tC (.int 4))) (tCons (tOp rModI (tVar 11) (tC (.int 40))) (tCons (tOp rSubI (tOp rModI (tVar 11) (tC (.int 9))) (tC (.int 1))) (tCons (tOp rMulI (tOp rModI (tOp rDivI (tVar 12) (tC (.int 2))) (tOp rPowI (tC (.int 10)) (tC (.int 60)))) (tOp rSubI (tC (.int 1)) (tOp rMulI (tOp rModI (tVar 12) (tC (.int 2))) (tC (.int 2))))) (tNil)))))) (tVar 6)) (gName 13)) (tDrop (tBM K "list" rAppend (tVar 3) (tCons (tTup (tCons (tVar 8) (tCons (tVar 9) (tCons (tIf (tTest (tOp rEq (tVar 6) (tC (.int 3)))) (tVar 13) (tOp rAddI (tOp rSubI (tOp (rIxL K) (tVar 5) (tVar 9)) (tOp (rIxL K) (tVar 5) (tVar 8))) (tVar 13))) (tNil))))) (tNil))))))))) (tSeq (tIfS (tTest (tOp rEq (tOp rModI (tOp rDivI (tVar 1) (tC (.int 256))) (tC (.int 4))) (tC (.int 3)))) (tAsg (tSl (rSlL K) (tVar 3) tNoPart (tPart (tOp rModI (tOp rDivI (tVar 1) (tC (.int 1024))) (tOp rAddI (tVar 2) (tC (.int 1)))))) (gName 3)) (tNext)) (tRet (tTup (tCons (tVar 4) (tCons (tVar 3) (tNil)))))))))
def t__law_sum (K : PySem.W.Frag) : TS := tSeq (tPar 4 5 (tCons (tC (.int 0)) (tCons (tVar 2) (tNil)))) (tSeq (tFor (iList K (tVar 1)) (gName 6) (tSeq (tIfS (tOr (tB (tCB (rIsi K) (tCons (tVar 6) (tCons ((tC (.ty "bool"))) (tNil))))) (tOr (tNot (tB (tCB (rIsi K) (tCons (tVar 6) (tCons ((tC (.ty "int"))) (tNil)))))) (tNot (tTest (tChain rLeI rLtI (tC (.int 0)) (tVar 6) (tCB (rLenS K) (tCons (tVar 0) (tNil)))))))) (tRet (tC .non)) (tNext)) (tSeq (tAsg (tOp (rIxL K) (tVar 0) (tVar 6)) (gTup K 3 (gCons (gName 7) (gCons (gName 8) (gCons (gName 9) (gNil)))))) (tSeq (tIfS (tTest (tOp rNe (tVar 7) (tVar 5))) (tRet (tC .non)) (tNext)) (tPar 4 5 (tCons (tOp rAddI (tVar 4) (tVar 9)) (tCons (tVar 8) (tNil)))))))) (tRet (tIf (tTest (tOp rEq (tVar 5) (tVar 3))) (tVar 4) (tC .non))))
def t__law_kept (K : PySem.W.Frag) : TS := tSeq (tIfS (tOr (tTest (tOp rNe (tCB (rLenS K) (tCons (tVar 2) (tNil))) (tVar 0))) (tB (tCB (rAny K) (tCons (tLc (iList K (tVar 2)) (gName 3) (tYes) (tOrV (tCB (rIsi K) (tCons (tVar 3) (tCons ((tC (.ty "bool"))) (tNil)))) (tNotV (tCB (rIsi K) (tCons (tVar 3) (tCons ((tC (.ty "int"))) (tNil)))))) [3]) (tNil))))) (tRet (tC (.bl false))) (tNext)) (tRet (tCB (rAll K) (tCons (tLc (iList K (tVar 1)) (gTup K 3 (gCons (gName 4) (gCons (gName 5) (gCons (gName 6) (gNil))))) (tYes) (tOp rLeI (tOp (rIxL K) (tVar 2) (tVar 5)) (tOp rAddI (tOp (rIxL K) (tVar 2) (tVar 4)) (tVar 6))) [4, 5, 6]) (tNil))))
section
variable {K : PySem.W.Frag} {vs : List V} {H H' : Hp} {Q : VK} {E : XK} {σ : L2.St} {ta tb tc te : TE} {tz tu : TS} {D : Ends}
theorem q_par3L {x y : V} {zs : List V} {i j l : Nat} (h1 : Ev ta σ H x) (h2 : Ev tb σ H y) (h3 : EvL tc σ H zs) (k : ∀ p H1, H p = none → Ex H H1 → H1 p = some (.lst zs) → tz D (((σ.set i (some x)).set j (some y)).set l (some (.ref p))) H1) :
    tSeq (tPar3 i j l (tCons ta (tCons tb (tCons tc tNil)))) tz D σ H :=
  show tPar3 i j l (tCons ta (tCons tb (tCons tc tNil))) { D with nx := tz D } σ H from
  h1 H (Ex.refl H) _ fun H1 e1 => h2 H1 e1 _ fun H2 e2 => h3 H2 (e1.trans e2) _ fun p H3 hp e3 h3' => ⟨x, y, .ref p, rfl, k p H3 (fresh_back (e1.trans e2) hp) ((e1.trans e2).trans e3) h3'⟩
theorem iV_map {α : Type} (l : List α) (f : α → Int) : iV (l.map f) = l.map fun x => V.int (f x) := by
  show (l.map f).map V.int = _
  rw [List.map_map]; rfl
theorem mod2 (x : Int) : x % 2 = 0 ∨ x % 2 = 1 := by omega
theorem mod4 (x : Int) : x % 4 = 0 ∨ x % 4 = 1 ∨ x % 4 = 2 ∨ x % 4 = 3 := by omega
theorem dv {i j : Int} (h : 0 < j) (h2 : j < 1000000 := by decide) : RV rDivI (.int i) (.int j) H (.int (i / j)) := rv_rI ⟨h, by omega⟩
theorem md {i j : Int} (h : 0 < j) : RV rModI (.int i) (.int j) H (.int (i % j)) := rv_rI h
theorem sqT_upd {t l : Addr} {xs ys : List V} {o : HO} (h : SqT K H t xs) (hl : H l = some (.lst ys)) : SqT K (upd H l o) t xs := by
  rcases h with (h | ⟨b, h⟩) | h
  · exact .inl (.inl (by rw [upd_ne (ne_of h hl fun z => nomatch z)]; exact h))
  · exact .inl (.inr ⟨b, by rw [upd_ne (ne_of h hl fun z => nomatch z)]; exact h⟩)
  · exact .inr h
theorem TupAt.upd {v : V} {s : Say} {l : Addr} {ys : List V} {o : HO} (h : TupAt K H v s) (hl : H l = some (.lst ys)) : TupAt K (L2.upd H l o) v s := by
  obtain ⟨t, rfl, hT⟩ := h
  exact ⟨t, rfl, sqT_upd hT hl⟩
theorem pure__law_drawn (h : sp__law_drawn K vs H Q E) : t__law_drawn K (Bd Q) (start ["_law_script", "_law_count", "_law_most", "_law_place"] vs) H := by
  obtain ⟨a, ns, n, rfl, hL, hz, hn, k⟩ := h
  obtain ⟨m, hm0, hm⟩ : ∃ m : Int, 0 < m ∧ atI [V.int 10, V.int 1000] (ns.sum / 4 % 2) = some (.int m) := by
    rcases mod2 (ns.sum / 4) with e | e <;> rw [e]
    · exact ⟨10, by decide, rfl⟩
    · exact ⟨1000, by decide, rfl⟩
  refine q_asg (ev_tupIx (ea2 ev_c ev_c) (by show 2 ≤ 100000; decide) (ev_op (ev_op (ev_sum (ev_var rfl) hL) ev_c (dv (by decide))) ev_c (md (by decide))) hm) fun H1 e1 => ?_
  have hL1 := ex_l e1 hL
  refine s_retL (el_mapR (fun i => .int (if ns.isEmpty then 0 else ns.getD (i % ns.length) 0 / 3 % m)) (ea_cons (ev_var rfl) ea_nil) (by omega) (fun _ => rfl) fun i H2 e2 hi => ?_) fun p H2 hp e2 h2 => k ((List.range n).map fun i => if ns.isEmpty then 0 else ns.getD (i % ns.length) 0 / 3 % m) p H2 (by rw [List.length_map, List.length_range]) (fresh_back e1 hp) (e1.trans e2) (by rw [h2, iV_map]; rfl)
  have hL2 := ex_l e2 hL1
  refine ev_if (et_test (ev_neNil (ev_var rfl) hL2)) (fun hb => ?_) fun hb => ?_
  · have ne : ns.isEmpty = false := by simpa using hb
    rw [ne]
    have hpos : 0 < ns.length := by cases ns with | nil => cases ne | cons _ _ => exact Nat.succ_pos _
    have hlen : ((iV ns).length : Int) = (ns.length : Int) := by rw [List.length_map]
    refine ev_op (ev_op (ev_op (ev_var rfl) (ev_op (ev_var rfl) (ev_len (ev_var rfl) hL2) (md (by rw [hlen]; omega))) (rv_ixL hL2 ?_)) ev_c (dv (by decide))) (ev_var rfl) (md hm0)
    rw [hlen]
    exact at_iV (Nat.mod_lt _ hpos)
  · have ne : ns.isEmpty = true := by simpa using hb
    rw [ne]
    exact ev_c
theorem nat_of {c : Int} {n : Nat} (hn : 0 < n) : ∃ L : Nat, L < n ∧ c % (n : Int) = (L : Int) := by
  have h1 := Int.emod_nonneg c (show (n : Int) ≠ 0 by omega)
  have h2 := Int.emod_lt_of_pos c (show (0 : Int) < n by omega)
  exact ⟨(c % (n : Int)).toNat, by omega, by omega⟩
theorem paired_take {α β : Type} {F : α → β → Prop} : ∀ {xs : List α} {ys : List β} (k : Nat), Paired F xs ys → Paired F (xs.take k) (ys.take k)
  | _, _, 0, _ => .nil
  | _, _, _ + 1, .nil => .nil
  | _, _, k + 1, .cons r t => .cons r (paired_take k t)
theorem paired_app {α β : Type} {F : α → β → Prop} : ∀ {xs : List α} {ys : List β} {x : α} {y : β}, Paired F xs ys → F x y → Paired F (xs ++ [x]) (ys ++ [y])
  | _, _, _, _, .nil, h => Paired.cons h .nil
  | _, _, _, _, .cons r t, h => .cons r (paired_app t h)
theorem cut_take {xs : List V} {k : Int} (h : 0 ≤ k) : cutV xs none (some k) = xs.take k.toNat := by
  unfold cutV
  have e1 : HT.sIx xs.length 0 none = 0 := rfl
  have e2 : HT.sIx xs.length xs.length (some k) = min k.toNat xs.length := by
    unfold HT.sIx
    simp only
    try split
    all_goals omega
  rw [e1, e2, List.drop_zero, Nat.sub_zero]
  by_cases q : k.toNat ≤ xs.length
  · rw [Nat.min_eq_left q]
  · rw [Nat.min_eq_right (by omega), List.take_length, List.take_of_length_le (by omega)]
theorem more_ok {c rest anyo kind : Int} (hk : 0 ≤ kind ∧ kind < 4) : ∃ m : Int, atI [V.int (rest % 4), .int (rest % 40), .int (rest % 9 - 1), .int (anyo / 2 % 10 ^ (60 : Int).toNat * (1 - anyo % 2 * 2))] kind = some (.int m) ∧ (kind ≤ 1 → 0 ≤ m) := by
  have : kind = 0 ∨ kind = 1 ∨ kind = 2 ∨ kind = 3 := by omega
  rcases this with rfl | rfl | rfl | rfl
  · exact ⟨_, rfl, fun _ => by omega⟩
  · exact ⟨_, rfl, fun _ => by omega⟩
  · exact ⟨_, rfl, fun h => absurd h (by decide)⟩
  · exact ⟨_, rfl, fun h => absurd h (by decide)⟩
theorem count_ok {m : Nat} {c : Int} (hm : m ≤ 63) (hc : 0 ≤ c ∧ c < 4) (d : Int) : ∃ n : Nat, 0 < n ∧ n ≤ 65 ∧ atI [V.int (1 + (m : Int) / 2), .int (1 + d / 8 % 4), .int ((m : Int) + 2), .int (1 + d / 8 % ((m : Int) + 1))] c = some (.int (n : Int)) := by
  have : c = 0 ∨ c = 1 ∨ c = 2 ∨ c = 3 := by omega
  have key : ∀ x : Int, 1 ≤ x → x ≤ 65 → ∃ n : Nat, 0 < n ∧ n ≤ 65 ∧ x = (n : Int) := fun x h1 h2 => ⟨x.toNat, by omega, by omega, by omega⟩
  have h3 := Int.emod_nonneg (d / 8) (show ((m : Int) + 1) ≠ 0 by omega)
  have h4 := Int.emod_lt_of_pos (d / 8) (show (0 : Int) < (m : Int) + 1 by omega)
  rcases this with rfl | rfl | rfl | rfl
  · obtain ⟨n, a, b, e⟩ := key (1 + (m : Int) / 2) (by omega) (by omega)
    exact ⟨n, a, b, by rw [← e]; rfl⟩
  · obtain ⟨n, a, b, e⟩ := key (1 + d / 8 % 4) (by omega) (by omega)
    exact ⟨n, a, b, by rw [← e]; rfl⟩
  · obtain ⟨n, a, b, e⟩ := key ((m : Int) + 2) (by omega) (by omega)
    exact ⟨n, a, b, by rw [← e]; rfl⟩
  · obtain ⟨n, a, b, e⟩ := key (1 + d / 8 % ((m : Int) + 1)) (by omega) (by omega)
    exact ⟨n, a, b, by rw [← e]; rfl⟩
theorem pure__law_sayings (h : sp__law_sayings K vs H Q E) : t__law_sayings K (Bd Q) (start ["_law_script", "_law_code", "_law_many", "_law_found", "_law_count", "_law_drawn_here", "_law_kind", "_law_cell", "_law_lower", "_law_upper", "_law_high", "_law_rest", "_law_any_one", "_law_more"] vs) H := by
  obtain ⟨a, ns, rfl, hL, hz, k⟩ := h
  refine q_par3L (ev_sum (ev_var rfl) hL) (ev_len (ev_var rfl) hL) (el_lst ea_nil (by simp)) fun l H1 hl e1 hl1 => ?_
  rw [List.length_map]
  have hL1 := ex_l e1 hL
  obtain ⟨n, hn0, hn65, hn⟩ := count_ok (m := ns.length) (c := ns.sum / 32 % 4) hz (by omega) ns.sum
  refine q_asg (ev_tupIx (ea_cons (ev_op ev_c (ev_op (ev_var rfl) ev_c (dv (by decide))) rv_I0) (ea3 (ev_op ev_c (ev_op (ev_op (ev_var rfl) ev_c (dv (by decide))) ev_c (md (by decide))) rv_I0) (ev_op (ev_var rfl) ev_c rv_I0) (ev_op ev_c (ev_op (ev_op (ev_var rfl) ev_c (dv (by decide))) (ev_op (ev_var rfl) ev_c rv_I0) (md (by omega))) rv_I0)))
    (by show 4 ≤ 100000; decide) (ev_op (ev_op (ev_var rfl) ev_c (dv (by decide))) ev_c (md (by decide))) hn) fun H2 e2 => ?_
  refine raw_q_par2 (raw_call (ea2 (ev_var rfl) (ev_var rfl)) fun H3 e3 => ⟨a, ns, n, rfl, ex_l (e2.trans e3) hL1, hz, by omega, fun ds d H4 hds hd e4 hd4 => ?_⟩)
  refine (ev_op (ev_var rfl) ev_c (md (by decide)) : Ev (tOp rModI (tVar 1) (tC (.int 4))) _ H4 (.int (ns.sum % 4))) H4 (Ex.refl H4) _ fun H5 e5 => ⟨_, _, rfl, ?_⟩
  have E5 : Ex H1 H5 := ((e2.trans e3).trans e4).trans e5
  have hl5 : H5 l = some (.lst []) := E5 _ _ hl1
  have dl : d ≠ l := fun z => by rw [z, (e2.trans e3) _ _ hl1] at hd; cases hd
  have hBl : less H5 l l = none := less_at
  have hB0 : Ex H (less H5 l) := ex_less_old (e1.trans E5) hl
  have hLB : SqL K (less H5 l) a (iV ns) := ex_l hB0 hL
  have hdB : less H5 l d = some (.lst (iV ds)) := lst_less (e5 _ _ hd4) dl
  refine q_forLn (ev_var rfl) (ex_l ex_less hLB) (fun i σ' H' => ∃ (xs : List V) (ss : List Say) (w7 w8 w9 w10 w11 w12 w13 : Option V), σ' = [some (.ref a), some (.int ns.sum), some (.int (ns.length : Int)), some (.ref l), some (.int (n : Int)), some (.ref d), some (.int (ns.sum % 4)), w7, w8, w9, w10, w11, w12, w13] ∧
      Ex (less H5 l) H' ∧ H' l = some (.lst xs) ∧ Paired (TupAt K H') xs ss ∧ Ok n ss ∧ ss.length = i ∧ (ns.sum % 4 ≤ 1 → Kept ss fun v => ds.getD v 0))
    (fun H6 e6 => ⟨[], [], none, none, none, none, none, none, none, rfl, ex_less.trans e6, e6 _ _ hl5, .nil, (fun s hs => nomatch hs), rfl, (fun _ s hs => nomatch hs)⟩) (fun i σ' H' _ ⟨_, _, _, _, _, _, _, _, _, _, e', _⟩ => ex_l e' hLB) ?_ ?_
  · rintro i x σ' H' hi ⟨xs, ss, w7, w8, w9, w10, w11, w12, w13, rfl, e', hl', hp, ok, hlen, kept⟩
    obtain ⟨c, hc, rfl⟩ := iV_at hi
    have hi63 : i < 63 := by have := (List.getElem?_eq_some_iff.mp hc).1; omega
    have hn0' : (0 : Int) < (n : Int) := by omega
    obtain ⟨L, hL', eL⟩ := nat_of (c := c) hn0
    obtain ⟨U, hU', eU⟩ := nat_of (c := c / (n : Int)) hn0
    have dvn : ∀ {x : Int} {G : Hp}, RV rDivI (.int x) (.int (n : Int)) G (.int (x / (n : Int))) := fun {x G} => rv_rI ⟨hn0', by omega⟩
    refine q_par (x := .int (L : Int)) (y := .int (U : Int)) (ev_is (ev_op (ev_var rfl) (ev_var rfl) (md hn0')) (by rw [eL])) (ev_is (ev_op (ev_op (ev_var rfl) (ev_var rfl) dvn) (ev_var rfl) (md hn0')) (by rw [eU])) fun H6 e6 => ?_
    refine q_asg (ev_op (ev_op (ev_var rfl) (ev_var rfl) dvn) (ev_var rfl) dvn) fun H7 e7 => ?_
    obtain ⟨an, han⟩ : ∃ an : Int, atI [V.int (c / 3), .int (c / (n : Int) / (n : Int))] (ns.sum / 128 % 2) = some (.int an) := by
      rcases mod2 (ns.sum / 128) with z | z <;> rw [z]
      · exact ⟨_, rfl⟩
      · exact ⟨_, rfl⟩
    refine q_par (ev_op (ev_var rfl) (ev_op (ev_var rfl) ev_c (dv (by decide))) rv_I0) (ev_tupIx (ea2 (ev_op (ev_var rfl) ev_c (dv (by decide))) (ev_var rfl)) (by show 2 ≤ 100000; decide) (ev_op (ev_op (ev_var rfl) ev_c (dv (by decide))) ev_c (md (by decide))) han) fun H8 e8 => ?_
    obtain ⟨mo, hmo, hmo0⟩ := more_ok (c := c) (rest := c / (n : Int) / (n : Int) + c / 7) (anyo := an) (kind := ns.sum % 4) (by omega)
    have sm : -(2 ^ 64) < an % 2 ∧ an % 2 < 2 ^ 64 := by omega
    refine q_asg (ev_tupIx (ea_cons (ev_op (ev_var rfl) ev_c (md (by decide))) (ea3 (ev_op (ev_var rfl) ev_c (md (by decide))) (ev_op (ev_op (ev_var rfl) ev_c (md (by decide))) ev_c rv_I0)
        (ev_op (ev_op (ev_op (ev_var rfl) ev_c (dv (by decide))) (ev_op ev_c ev_c (rv_rI ⟨by decide, by decide, by decide⟩)) (md (by decide))) (ev_op ev_c (ev_op (ev_op (ev_var rfl) ev_c (md (by decide))) ev_c (rv_rI (.inl sm))) rv_I0) (rv_rI (.inr (by omega))))))
      (by show 4 ≤ 100000; decide) (ev_var rfl) hmo) fun H9 e9 => ?_
    have E9 : Ex H' H9 := ((e6.trans e7).trans e8).trans e9
    have hd9 : SqL K H9 d (iV ds) := sq_of (E9 _ _ (e' _ _ hdB))
    have at_ : ∀ {p : Nat}, p < n → atI (iV ds) (p : Int) = some (.int (ds.getD p 0)) := fun {p} hp => at_iV (by rw [hds]; exact hp)
    let m : Int := if ns.sum % 4 = 3 then mo else ds.getD U 0 - ds.getD L 0 + mo
    refine s_appU (ys := [.int (L : Int), .int (U : Int), .int m]) (E9 _ _ hl') (ev_var rfl) (eu_tup (ea3 (ev_var rfl) (ev_var rfl) (ev_if (b := decide (V.int (ns.sum % 4) = V.int 3)) (et_test (ev_op (ev_var rfl) ev_c (rv_eq rfl))) (fun hb => ?_) fun hb => ?_)) (by show 3 ≤ 100000; decide)) (by rw [Paired.length hp]; omega) fun p H10 hp10 e10 h10 => ?_
    · have z : ns.sum % 4 = 3 := by
        have := of_decide_eq_true hb
        injection this
      exact ev_is (ev_var rfl) (by show _ = V.int (if ns.sum % 4 = 3 then mo else _); rw [if_pos z])
    · have z : ¬ ns.sum % 4 = 3 := fun q => by rw [q] at hb; exact absurd hb (by decide)
      exact ev_is (ev_op (ev_op (ev_op (ev_var rfl) (ev_var rfl) (rv_ixL hd9 (at_ hU'))) (ev_op (ev_var rfl) (ev_var rfl) (rv_ixL hd9 (at_ hL'))) rv_I0) (ev_var rfl) rv_I0) (by show _ = V.int (if ns.sum % 4 = 3 then mo else _); rw [if_neg z])
    · have E10 : Ex H' H10 := E9.trans e10
      have hl10 : H10 l = some (.lst xs) := E10 _ _ hl'
      refine ⟨xs ++ [.ref p], ss ++ [(L, U, m)], _, _, _, _, _, _, _, rfl, Ex.mut (e'.trans E10) hBl, upd_same, paired_app (L2.Paired.mapP hp fun _ _ q => (q.mono E10).upd hl10) (TupAt.upd ⟨p, rfl, st_of h10⟩ hl10), fun s hs => ?_, by simp [hlen], fun hk s hs => ?_⟩
      · rcases List.mem_append.mp hs with q | q
        · exact ok s q
        · have es : s = (L, U, m) := by simpa using q
          subst es
          exact ⟨hL', hU'⟩
      · rcases List.mem_append.mp hs with q | q
        · exact kept hk s q
        · have es : s = (L, U, m) := by simpa using q
          subst es
          show ds.getD U 0 - ds.getD L 0 ≤ (if ns.sum % 4 = 3 then mo else ds.getD U 0 - ds.getD L 0 + mo)
          rw [if_neg (by omega)]
          have := hmo0 hk
          omega
  · rintro σ' H' ⟨xs, ss, w7, w8, w9, w10, w11, w12, w13, rfl, e', hl', hp, ok, hlen, kept⟩
    rw [List.length_map] at hlen
    have old : Ex H H' := hB0.trans e'
    have fin : ∀ (l2 : Addr) (ss2 : List Say) (H6 : Hp) (τ : L2.St), H l2 = none → Ex H H6 → SaysM K H6 l2 ss2 → Ok n ss2 → ss2.length ≤ 63 → (ns.sum % 4 ≤ 1 → ∃ f, Kept ss2 f) → τ[4]? = some (some (.int (n : Int))) → τ[3]? = some (some (.ref l2)) → tRet (tTup (tCons (tVar 4) (tCons (tVar 3) tNil))) (Bd Q) τ H6 :=
      fun l2 ss2 H6 τ h0 e6 hS ok2 hz2 hk2 h4 h3 => s_retU (eu_tup (ea2 (ev_var h4) (ev_var h3)) (by show 2 ≤ 100000; decide)) fun p H7 hp7 e7 h7 => k n ss2 p l2 H7 hn0 hn65 ok2 hz2 hk2 (fresh_back e6 hp7) h0 (e6.trans e7) h7 (hS.mono e7)
    refine q_when (et_test (ev_op (ev_op (ev_op (ev_var rfl) ev_c (dv (by decide))) ev_c (md (by decide))) ev_c (rv_eq rfl))) (fun _ H6 e6 => ?_) fun _ H6 e6 => ?_
    · have hm0 : (0 : Int) < (ns.length : Int) + 1 := by omega
      have hk0 := Int.emod_nonneg (ns.sum / 1024) (show (ns.length : Int) + 1 ≠ 0 by omega)
      refine s_asgL (el_sl (lo := none) (hi := some (ns.sum / 1024 % ((ns.length : Int) + 1))) (ev_var rfl) eo_none (eo_some (ev_op (ev_op (ev_var rfl) ev_c (dv (by decide))) (ev_op (ev_var rfl) ev_c rv_I0) (md hm0))) (sq_of (e6 _ _ hl'))) fun l2 H7 hl2 e7 h7 => ?_
      rw [cut_take hk0] at h7
      have E7 := e6.trans e7
      refine fin l2 (ss.take (ns.sum / 1024 % ((ns.length : Int) + 1)).toNat) H7 _ (fresh_back (old.trans e6) hl2) (old.trans E7) ⟨by rw [List.length_take]; omega, _, h7, paired_take _ (L2.Paired.mapP hp fun _ _ q => q.mono E7)⟩ (fun s hs => ok s (List.mem_of_mem_take hs)) (by rw [List.length_take]; omega) (fun hk => ⟨fun v => ds.getD v 0, fun s hs => kept hk s (List.mem_of_mem_take hs)⟩) rfl rfl
    · exact fin l ss H6 _ hl (old.trans e6) ⟨by omega, xs, e6 _ _ hl', L2.Paired.mapP hp fun _ _ q => q.mono e6⟩ ok (by omega) (fun hk => ⟨_, kept hk⟩) rfl rfl
end
end Am

/-! what is asked while an exception is handled: walks that come to their end -/
namespace Am
open PySem PyProof.Rows L2
section
variable {prog : Program} {w : World} {A : Around} {E : Value → Shared → Prop} {s : Shared} {x1 : Addr}
/-- StopIteration told while another exception, at x1, is handled: what stood stands -/
theorem stop_hot {α : Type} {Q : α → Shared → Prop} (hot : HotX.HotAt A x1 s.heap)
    (hE : ∀ a h, (∀ b o, s.heap.get? b = some o → h.get? b = some o) → (∃ o, h.get? a = some o ∧ o.cls = .type "StopIteration") → E (.ref a) { s with heap := h }) : wpAny (model prog w) A (do raiseNew (← newExc (.type "StopIteration") []) : Sem α) Q E s := by
  rcases hot with ⟨hh, ox, fx, gx, dx, cx⟩
  unfold newExc newTuple
  wp_walk
  generalize hob : (Obj.mk (.type "StopIteration") _ _ _ : Obj) = ob
  generalize hm : s.heap.push _ = m
  have up : ∀ b o, s.heap.get? b = some o → m.get? b = some o := fun b o e => hm ▸ Heap.get?_push_of_some _ e
  have xm := up _ _ gx
  have lt : ∀ {b o}, m.get? b = some o → b ≠ m.objs.size := fun e => Nat.ne_of_lt (Heap.lt_size e)
  have top : (m.push ob).get? m.objs.size = some ob := Heap.get?_push_size m (by rw [← hob]; rfl)
  refine HotX.raiseNew_hot ⟨hh, ox, fx, Heap.get?_push_of_some ob xm, dx, cx⟩ (lt xm) top (by rw [← hob]) (by simp [Array.size_append]; omega) ?_
  refine hE _ _ (fun b o e => ?_) ⟨_, Heap.get?_update_self _ top (by rw [← hob]; rfl), by rw [← hob]; rfl⟩
  rw [Heap.get?_update_other _ _ (Ne.symm (lt (up b o e)))]
  exact Heap.get?_push_of_some ob (up b o e)
/-- the same behind a store into the iterator at it -/
theorem tail_hot {it : Addr} {o : Obj} {fs : Array Value} {nm : String} {Q : Fin → Shared → Prop} (hot : HotX.HotAt A x1 s.heap) (hne : x1 ≠ it) (ho : s.heap.get? it = some o) (hd : o.data = .fields fs) (hz : 0 < fs.size)
    (hE : ∀ a h, Heap.ExtBut it s.heap h → (∃ o, h.get? a = some o ∧ o.cls = .type "StopIteration") → E (.ref a) { s with heap := h }) :
    wpAny (model prog w) A (do rule nm; setField (.ref it) 0 .none; Builtin.SmallTypes.stopIteration) Q E s := by
  refine wpAny_bind (wpAny_rule (wpAny_bind (wpAny_setField ho hd hz ?_)))
  have old := fun (b : Addr) (hb : b ≠ it) => Heap.get?_update_other s.heap (Obj.mapFields (·.setIfInBounds 0 Value.none)) (Ne.symm hb)
  obtain ⟨hh, ox, fx, gx, rest⟩ := hot
  unfold Builtin.SmallTypes.stopIteration
  exact stop_hot ⟨hh, ox, fx, (old x1 hne).trans gx, rest⟩ fun a h up k => hE a h (fun b u hb e => up b u ((old b hb).trans e)) k
/-- next of a list's iterator that has come to the end -/
theorem list_end_hot {it l : Addr} {i : Nat} {items : Array Value} {Q : Option Value → Shared → Prop} (hot : HotX.HotAt A x1 s.heap) (hne : x1 ≠ it) (hit : s.heap.IsListIter it l i) (hl : s.heap.IsList l items) (hx : items[i]? = none)
    (hQ : ∀ h, Heap.ExtBut it s.heap h → Q none { s with heap := h }) : wpAny (model prog w) A (pyNext (.ref it)) Q E s := by
  have ty := hit.typeIs
  rcases hit with ⟨⟨ci, di, ai, si⟩, ho, hc, hd⟩
  rcases hl with ⟨⟨cq, dq, aq, sq⟩, hq, _, nq, eq⟩
  dsimp only at hc hd eq
  subst hc hd eq
  unfold pyNext
  refine wpAny_bind (wpAny_attempt (wpAny_callSpecial?_slot ty slot_listiter_next (wpAny_call_entry slot_listiter_next ty entry_listiter_next ?_ (args_listiter_next _))))
  unfold Builtin.«list_iterator.__next__»
  wp_walk
  rw [Int.toNat_natCast, hx]
  dsimp only
  refine tail_hot (A := A.in1) hot hne ho rfl (by simp) fun a h ext ⟨oe, ge, ce⟩ => wpAny_bind (wpAny_isInstance ⟨oe, ge, ce⟩ isSubtype_stop ?_)
  exact wpAny_pure (hQ h ext)
/-- a list gone through while the exception at x1 is handled; that exception is among what is watched -/
theorem walks_listH {ox : Obj} {fx : Array Value} (hh : A.handled = some (.ref x1)) (dx : ox.data = .fields fx) (cx : fx[2]? = some .none) (it l : Addr) (hl : l ≠ it) (hne : x1 ≠ it) (items : Array Value) :
    Walks prog w A it [it, l, x1] [it] items.size (fun i v => items[i]? = some v) (fun i h => (h.IsListIter it l i ∧ h.IsList l items) ∧ h.get? x1 = some ox) := by
  have off : ∀ b, b ∉ [it] → b ≠ it := fun b hb e => hb (List.mem_singleton.mpr e)
  constructor
  case sub => exact fun b hb => List.mem_singleton.mp hb ▸ List.mem_cons_self
  case frame => exact fun i h h' ⟨⟨a, b⟩, c⟩ k => ⟨⟨a.at (k it (by simp)), b.at (k l (by simp))⟩, k x1 (by simp) ox c⟩
  case self => exact fun i s' Q' E' st => wpAny_pyIter_listiter st.1.1
  case done => exact fun s' Q' E' st hQ => list_end_hot ⟨hh, ox, fx, st.2, dx, cx⟩ hne st.1.1 st.1.2 (by simp) fun h ext => hQ h s'.toks fun b o hb => ext b o (off b hb)
  case item =>
    intro i s' Q' E' hi st hQ
    refine wpAny_pyNext_list_item st.1.1 st.1.2 (Array.getElem?_eq_getElem hi) fun h nx same => ?_
    exact hQ _ h s'.toks (Array.getElem?_eq_getElem hi) ⟨⟨nx, st.1.2.extBut same.extBut hl⟩, same.extBut x1 ox hne st.2⟩ fun b o hb => same.extBut b o (off b hb)
end
section
variable {X : Cx}
theorem cr_anyH (hc : L2H.HotC X) : CallR X (.builtin "any") (rAny X.K) := fun pins s σ H vs us Q I rel ask => by
  rcases ask with ⟨l, truths, rfl, held, want⟩
  rcases hc with ⟨⟨x1, ox⟩, ⟨hh, fx, dx, cx⟩, here⟩
  have gx : s.heap.get? x1 = some ox := (I.pin _ (List.mem_append_left _ here)).1
  obtain ⟨items, rv, isl, -⟩ := I.list held
  obtain rfl := Vals.ref1 rel
  refine call_any_walk (iter_any isl.isList fun s2 e2 begun apart => ?_)
  subst e2
  refine ⟨_, _, _, _, _, _, _, rfl, walks_listH (A := X.A.in1) hh dx cx _ l apart (Nat.ne_of_lt (Heap.lt_size gx)) items.toArray, ⟨begun, Heap.get?_push_of_some _ gx⟩, truth_bools rv.bls, ?_⟩
  intro h tk up
  have old : ∀ b o, s.heap.get? b = some o → h.get? b = some o := fun b o e =>
    up b o (fun m => Nat.ne_of_lt (Heap.lt_size e) (List.mem_singleton.mp m)) (Heap.get?_push_of_some _ e)
  have many : items.toArray.size = truths.length := by rw [List.size_toArray, rv.bls, List.length_map]
  refine ⟨.bl (truths.any id), H, I.kept old, ?_, want⟩
  rw [many, L2.any_range]
  rfl
end
end Am

namespace Am
open PySem L2 Evl
open He (ga ma)
section
variable {K : PySem.W.Frag} {vs : List V} {H H' : Hp} {Q : VK} {E : XK} {σ : L2.St} {ta tb tc td te : TE} {tz tu : TS} {D : Ends}
theorem kit_ib : kitB "int" "bool" = some false := by decide +kernel
theorem kit_ii : kitB "int" "int" = some true := by decide +kernel
theorem kit_bb : kitB "bool" "bool" = some true := by decide +kernel
/-- the test of one step by the law's own walk -/
theorem et_own {a : Addr} {ss : List Say} {x : Int} (hS : Says K H a ss) (h0 : σ[0]? = some (some (V.ref a))) (h6 : σ[6]? = some (some (V.int x))) :
    EvT (tOr (tB (tCB (rIsi K) (tCons (tVar 6) (tCons ((tC (.ty "bool"))) (tNil))))) (tOr (tNot (tB (tCB (rIsi K) (tCons (tVar 6) (tCons ((tC (.ty "int"))) (tNil)))))) (tNot (tTest (tChain rLeI rLtI (tC (.int 0)) (tVar 6) (tCB (rLenS K) (tCons (tVar 0) (tNil)))))))) σ H (sayAt ss x).isNone := by
  refine et_is (et_or (et_B (ev_isi (ev_var h6) (fun _ _ => ty_int) kit_ib)) fun _ => et_or (et_not (et_B (ev_isi (ev_var h6) (fun _ _ => ty_int) kit_ii))) fun _ => et_not (et_test (ev_chain ev_c (ev_var h6) rv_I0 (fun _ => ev_lenS hS (ev_var h0)) fun _ => rv_I0))) ?_
  show (!(decide ((0 : Int) ≤ x) && decide (x < (ss.length : Int)))) = (sayAt ss x).isNone
  unfold sayAt
  by_cases h : 0 ≤ x
  · rw [if_pos h, decide_eq_true h, Bool.true_and]
    by_cases h2 : x < (ss.length : Int)
    · rw [decide_eq_true h2, List.getElem?_eq_getElem (by omega : x.toNat < ss.length)]
      rfl
    · rw [decide_eq_false h2, List.getElem?_eq_none (by omega : ss.length ≤ x.toNat)]
      rfl
  · rw [if_neg h, decide_eq_false h]
    rfl
theorem pure__law_sum {N : List Str} (hN : N.length = 10) (h : sp__law_sum K vs H Q E) : t__law_sum K (Bd Q) (L2.start N vs) H := by
  obtain ⟨z, ⟨a, c, ss, ch, p, q, rfl, hS, hC, rfl⟩, k⟩ := h
  have hst : L2.start N [V.ref a, V.ref c, V.int (p : Int), V.int (q : Int)] = [some (.ref a), some (.ref c), some (.int (p : Int)), some (.int (q : Int)), none, none, none, none, none, none] := by
    unfold L2.start
    rw [hN]
    rfl
  rw [hst]
  refine q_par ev_c (ev_var rfl) fun H1 e => ?_
  refine q_forLn (ev_var rfl) (ex_l e hC) (fun i σ' H' => ∃ (u : Nat) (t : Int) (w7 w8 w9 w6 : Option V), σ' = [some (.ref a), some (.ref c), some (.int (p : Int)), some (.int (q : Int)), some (.int t), some (.int (u : Int)), w6, w7, w8, w9] ∧ Ex H H' ∧ sumAlong ss ch p q = ends q (run ss (ch.drop i) u t))
    (fun H3 e3 => ⟨p, 0, none, none, none, none, rfl, e.trans e3, rfl⟩) (fun i σ' H' _ ⟨_, _, _, _, _, _, _, e', _⟩ => ex_l e' hC) ?_ ?_
  · rintro i x σ' H' hi ⟨u, t, w7, w8, w9, w6, rfl, e', inv⟩
    obtain ⟨x, hx, rfl⟩ := iV_at hi
    rw [drop_at hx, run_cons] at inv
    have hS' := hS.mono e'
    refine q_when (et_own hS' rfl rfl) (fun hb H3 e3 => ?_) fun hb H3 e3 => ?_
    · refine s_ret ev_c fun H4 e4 => ?_
      have kk := k H4 ((e'.trans e3).trans e4)
      rw [inv] at kk
      cases hs : sayAt ss x with
      | none => rw [hs] at kk; exact kk
      | some s => rw [hs] at hb; cases hb
    · cases hs : sayAt ss x with
      | none => rw [hs] at hb; cases hb
      | some s =>
        obtain ⟨l, v, m⟩ := s
        rw [hs] at inv
        simp only at inv
        obtain ⟨j, rfl, hj⟩ := sayAt_some hs
        have hS3 := hS'.mono e3
        refine q_unpS hS3 hj (ev_var rfl) (ev_var rfl) fun H4 e4 => ?_
        refine q_when (et_test (ev_op (ev_var rfl) (ev_var rfl) (rv_ne rfl))) (fun hb H5 e5 => ?_) fun hb H5 e5 => ?_
        · have ne : ¬ l = u := by rw [dec_nat] at hb; simpa using hb
          refine s_ret ev_c fun H6 e6 => ?_
          have kk := k H6 ((((e'.trans e3).trans e4).trans e5).trans e6)
          rw [inv, if_neg ne] at kk
          exact kk
        · have eq : l = u := by rw [dec_nat] at hb; simpa using hb
          rw [if_pos eq] at inv
          exact s_par (ev_op (ev_var rfl) (ev_var rfl) rv_I0) (ev_var rfl) fun H6 e6 => ⟨v, t + m, _, _, _, _, rfl, (((e'.trans e3).trans e4).trans e5).trans e6, inv⟩
  · rintro σ' H' ⟨u, t, w7, w8, w9, w6, rfl, e', inv⟩
    rw [List.length_map, List.drop_length] at inv
    have inv2 : sumAlong ss ch p q = if u = q then some t else none := inv
    refine s_ret (v := oV (if u = q then some t else none)) (ev_if (b := decide (u = q)) (et_is (et_test (ev_op (ev_var rfl) (ev_var rfl) (rv_eq rfl))) dec_nat) (fun hb => ?_) fun hb => ?_) fun H4 e4 => ?_
    · rw [if_pos (of_decide_eq_true hb)]
      exact ev_var rfl
    · rw [if_neg (of_decide_eq_false hb)]
      exact ev_c
    · have kk := k H4 (e'.trans e4)
      rw [inv2] at kk
      exact kk
theorem ev__law_sum {a c : Addr} {ss : List Say} {ch : List Int} {p q : Nat} (h1 : Ev ta σ H (.ref a)) (h2 : Ev tb σ H (.ref c)) (h3 : Ev tc σ H (.int (p : Int))) (h4 : Ev td σ H (.int (q : Int))) (hS : Says K H a ss) (hC : SqL K H c (iV ch)) :
    Ev (tCall (sp__law_sum K) [] E0 (tCons ta (tCons tb (tCons tc (tCons td tNil))))) σ H (oV (sumAlong ss ch p q)) :=
  ev_pur (ea_cons h1 (ea_cons h2 (ea_cons h3 (ea_cons h4 ea_nil)))) fun H1 e => ⟨a, c, ss, ch, p, q, rfl, hS.mono e, ex_l e hC, rfl⟩
theorem any_false {n : Nat} : ((List.range n).map fun _ => false).any id = false := by
  rw [List.any_eq_false]
  intro b hb
  obtain ⟨_, _, rfl⟩ := List.mem_map.mp hb
  exact Bool.false_ne_true
theorem pure__law_kept (h : sp__law_kept K vs H Q E) : t__law_kept K (Bd Q) (start ["_law_count", "_law_sayings_here", "_law_row", "_law_one", "_law_lower", "_law_upper", "_law_number"] vs) H := by
  obtain ⟨z, ⟨n, a, b, ss, hs, rfl, hS, ok, hB, hz, rfl⟩, q⟩ := h
  refine q_when (b := !decide (hs.length = n)) (et_is (et_or (b := false) (et_test (ev_op (ev_len (ev_var rfl) hB) (ev_var rfl) (rv_ne rfl))) fun _ => et_B (ev_is (ev_any (bs := (List.range (iV hs).length).map fun _ => false) (el_is (el_map (fun _ => .bl false) (ev_var rfl) hB (by rw [List.length_map]; omega) (fun _ => rfl) fun i x H2 e2 hi => ?_) (by rw [List.map_map] <;> rfl))) (by rw [any_false]))) ?_) (fun hb H1 e1 => ?_) fun hb H1 e1 => ?_
  · obtain ⟨y, _, rfl⟩ := iV_at hi
    exact ev_orV (a := false) (b := false) (ev_isi (ev_var rfl) (fun _ _ => ty_int) kit_ib) fun _ => ev_notV (ev_isi (ev_var rfl) (fun _ _ => ty_int) kit_ii)
  · rw [List.length_map, dec_len, Bool.or_false]
  · have ne : ¬ hs.length = n := by simpa using hb
    refine s_ret ev_c fun H2 e2 => ?_
    have kk := q H2 (e1.trans e2)
    have : keepAll n ss hs = false := by unfold keepAll; rw [decide_eq_false ne]; rfl
    rw [this] at kk
    exact kk
  · have eq : hs.length = n := by simpa using hb
    have hB1 := ex_l e1 hB
    refine s_ret (v := .bl (keepAll n ss hs)) (ev_is (ev_all (bs := ss.map (keeps hs)) (el_is (el_says (fun s => .bl (keeps hs s)) (hS.mono e1) (ev_var rfl) (fun _ _ _ => rfl) fun s H2 e2 hs' => ?_) (by rw [List.map_map]; rfl))) ?_) fun H2 e2 => q H2 (e1.trans e2)
    · have := ok s hs'
      have hB2 := ex_l e2 hB1
      refine ev_is (ev_op (ev_op (ev_var rfl) (ev_var rfl) (rv_ixL hB2 (at_iV (by omega)))) (ev_op (ev_op (ev_var rfl) (ev_var rfl) (rv_ixL hB2 (at_iV (by omega)))) (ev_var rfl) rv_I0) rv_I0) ?_
      unfold keeps
      congr 1
      refine decide_eq_decide.mpr ?_; omega
    · rw [all_map_id]
      unfold keepAll
      rw [decide_eq_true eq, Bool.true_and]
theorem ev__law_kept {n : Nat} {a b : Addr} {ss : List Say} {hs : List Int} (h1 : Ev ta σ H (.int (n : Int))) (h2 : Ev tb σ H (.ref a)) (h3 : Ev tc σ H (.ref b)) (hS : Says K H a ss) (ok : Ok n ss) (hB : SqL K H b (iV hs)) (hz : hs.length ≤ 1000) :
    Ev (tCall (sp__law_kept K) [] E0 (tCons ta (tCons tb (tCons tc tNil)))) σ H (.bl (keepAll n ss hs)) :=
  ev_pur (ea3 h1 h2 h3) fun H1 e => ⟨n, a, b, ss, hs, rfl, hS.mono e, ok, ex_l e hB, hz, rfl⟩
end
end Am

/-! the walks of the program -/
namespace Am
open PySem L2 Evl
open He (ga ma)
abbrev oVs (S : Sums) : List V := S.map oV
def sp_lessened (K : PySem.W.Frag) : Sp := fun vs H Q _ => ∃ (a s l : Addr) (ss : List Say) (S0 : Sums) (n : Nat), vs = [.ref a, .ref s, .ref l] ∧ s ≠ l ∧ Says K (less (less H s) l) a ss ∧ Ok n ss ∧ S0.length = n ∧ n ≤ 100 ∧ H s = some (.lst (oVs S0)) ∧ H l = some (.lst (iV (List.replicate n (-1)))) ∧
  ∀ st H2, Less n ss S0 st → Ex (less (less H s) l) H2 → H2 s = some (.lst (oVs st.sums)) → H2 l = some (.lst (iV st.last)) → Q (.int st.ch) H2
def sp_ring_behind (K : PySem.W.Frag) : Sp := fun vs H Q _ => ∃ (a l : Addr) (ss : List Say) (last : List Int) (v : Nat), vs = [.ref a, .ref l, .int (v : Int)] ∧ Says K H a ss ∧ SqL K H l (iV last) ∧ last.length ≤ 100 ∧ Deep ss last v ∧
  ∀ (c : List Int) p H2, isRing ss c = true → c.length ≤ 100 → H p = none → Ex H H2 → H2 p = some (.lst (iV c)) → Q (.ref p) H2
def sp_from_all (K : PySem.W.Frag) : Sp := fun vs H Q _ => ∃ (n : Nat) (a : Addr) (ss : List Say), vs = [.int (n : Int), .ref a] ∧ Says K H a ss ∧ Ok n ss ∧ 0 < n ∧ n ≤ 100 ∧
  (∀ (hs : List Int) t s r H2, keepAll n ss hs = true → (∀ v, hs.getD v 0 ≤ 0) → (∀ v, v < n → Led ss hs v) → H s = none → H r = none → Ex H H2 → H2 t = some (.tup [.ref s, .ref r]) → H2 s = some (.lst (iV hs)) → H2 r = some (.lst []) → Q (.ref t) H2) ∧
  (∀ (c : List Int) t s r H2, isRing ss c = true → c.length ≤ 100 → H s = none → H r = none → Ex H H2 → H2 t = some (.tup [.ref s, .ref r]) → H2 r = some (.lst (iV c)) → Q (.ref t) H2)
def t_lessened (K : PySem.W.Frag) : TS := tSeq (tFor (iRng1 (tCons (tOp rAddI (tCB (rLenS K) (tCons (tVar 1) (tNil))) (tC (.int 1))) (tNil))) (gName 3) (tSeq (tAsg (tUn rNegI (tC (.int 1))) (gName 4)) (tSeq (tFor (iEnum K (tCons (tVar 0) (tNil))) (gTup K 2 (gCons (gName 5) (gCons (gName 6) (gNil)))) (tSeq (tAsg (tVar 6) (gTup K 3 (gCons (gName 7) (gCons (gName 8) (gCons (gName 9) (gNil)))))) (tIfS (tAnd (tTest (tOp rNotN0 (tOp (rIxL K) (tVar 1) (tVar 7)) (tC .non))) (tOr (tTest (tOp rIsN0 (tOp (rIxL K) (tVar 1) (tVar 8)) (tC .non))) (tTest (tOp rGtI (tOp (rIxL K) (tVar 1) (tVar 8)) (tOp rAddI (tOp (rIxL K) (tVar 1) (tVar 7)) (tVar 9)))))) (tSeq (tAsg (tOp rAddI (tOp (rIxL K) (tVar 1) (tVar 7)) (tVar 9)) (gSub (tVar 1) (tVar 8) rSetL)) (tSeq (tAsg (tVar 5) (gSub (tVar 2) (tVar 8) rSetL)) (tAsg (tVar 8) (gName 4)))) (tNext)))) (tIfS (tTest (tOp rLtI (tVar 4) (tC (.int 0)))) (tRet (tUn rNegI (tC (.int 1)))) (tNext))))) (tRet (tVar 4))
def t_ring_behind (K : PySem.W.Frag) : TS := tSeq (tFor (iRng1 (tCons (tCB (rLenS K) (tCons (tVar 1) (tNil))) (tNil))) (gName 3) (tAsg (tOp (rIxT K) (tOp (rIxL K) (tVar 0) (tOp (rIxL K) (tVar 1) (tVar 2))) (tC (.int 0))) (gName 2))) (tSeq (tAsg (tLst (tCons (tOp (rIxL K) (tVar 1) (tVar 2)) (tNil))) (gName 4)) (tSeq (tAsg (tOp (rIxT K) (tOp (rIxL K) (tVar 0) (tOp (rIxL K) (tVar 1) (tVar 2))) (tC (.int 0))) (gName 5)) (tSeq (tWhile (tTest (tOp rNe (tVar 5) (tVar 2))) (tSeq (tDrop (tBM K "list" rAppend (tVar 4) (tCons (tOp (rIxL K) (tVar 1) (tVar 5)) (tNil)))) (tAsg (tOp (rIxT K) (tOp (rIxL K) (tVar 0) (tOp (rIxL K) (tVar 1) (tVar 5))) (tC (.int 0))) (gName 5)))) (tRet (tRevL K (tVar 4))))))
def t_from_all (K : PySem.W.Frag) : TS := tSeq (tAsg (tLc (iRng1 (tCons (tVar 0) (tNil))) (gName 4) (tYes) (tC (.int 0)) [4]) (gName 2)) (tSeq (tAsg (tLc (iRng1 (tCons (tVar 0) (tNil))) (gName 4) (tYes) (tUn rNegI (tC (.int 1))) [4]) (gName 3)) (tSeq (tAsg (tCall (sp_lessened K) [] E0 (tCons (tVar 1) (tCons (tVar 2) (tCons (tVar 3) (tNil))))) (gName 4)) (tSeq (tIfS (tTest (tOp rLtI (tVar 4) (tC (.int 0)))) (tRet (tTup (tCons (tVar 2) (tCons (tLst (tNil)) (tNil))))) (tNext)) (tRet (tTup (tCons (tVar 2) (tCons (tCall (sp_ring_behind K) [] E0 (tCons (tVar 1) (tCons (tVar 3) (tCons (tVar 4) (tNil))))) (tNil))))))))
section
variable {K : PySem.W.Frag} {vs : List V} {H H' : Hp} {Q : VK} {E : XK} {σ : L2.St} {ta tb tc td te : TE} {tz tu : TS} {D : Ends} {ts : TA}
/-- for .. in enumerate(a list) -/
theorem q_forE {a : Addr} {xs : List V} {g : TG} (h : Ev ta σ H (.ref a)) (hx : SqL K H a xs) (Pv : Nat → L2.St → Hp → Prop) (h0 : ∀ H1, Ex H H1 → Pv 0 σ H1) (hk : ∀ i σ' H', Pv i σ' H' → SqL K H' a xs)
    (hs : ∀ i x T σ' H', xs[i]? = some x → Pv i σ' H' → H' T = none → g (.ref T) σ' (upd H' T (.tup [.int (i : Int), x])) fun σ2 H2 => tu { D with nx := Pv (i + 1), ct := Pv (i + 1), bk := tz D } σ2 H2)
    (hd : ∀ σ' H', Pv xs.length σ' H' → tz D σ' H') : tSeq (tFor (iEnum K (tCons ta tNil)) g tu) tz D σ H :=
  h H (Ex.refl H) _ fun H1 e1 => ⟨a, xs, rfl, ex_l e1 hx, for_it (D := { D with nx := tz D }) (walk_enum (xs := xs)) Pv (h0 H1 e1) (fun i σ' H' _ p => hk i σ' H' p)
    (fun i x σ' H2 H3 hi p ⟨T, x1, x2, e1, hT, e2, e3, e4⟩ => by
      subst e1 e2
      cases e3
      exact hs i x2 T σ' H2 e4 p hT) (fun σ' H' p => hd σ' H' p)⟩
theorem at_oV {S : Sums} {i : Nat} (h : i < S.length) : atI (oVs S) (i : Int) = some (oV (S.getD i none)) := by
  refine atI_nat ?_
  rw [List.getElem?_map, List.getD_eq_getElem?_getD, List.getElem?_eq_getElem h]
  rfl
theorem oV_non {o : Option Int} : decide (oV o = V.non) = o.isNone := by cases o <;> rfl
/-- does the saying ask for less -/
theorem et_slack {s : Addr} {S : Sums} {x : Say} (hs : SqL K H s (oVs S)) (h1 : σ[1]? = some (some (V.ref s))) (h7 : σ[7]? = some (some (V.int (x.1 : Int)))) (h8 : σ[8]? = some (some (V.int (x.2.1 : Int)))) (h9 : σ[9]? = some (some (V.int x.2.2))) (hl : x.1 < S.length) (hu : x.2.1 < S.length) :
    EvT (tAnd (tTest (tOp rNotN0 (tOp (rIxL K) (tVar 1) (tVar 7)) (tC .non))) (tOr (tTest (tOp rIsN0 (tOp (rIxL K) (tVar 1) (tVar 8)) (tC .non))) (tTest (tOp rGtI (tOp (rIxL K) (tVar 1) (tVar 8)) (tOp rAddI (tOp (rIxL K) (tVar 1) (tVar 7)) (tVar 9)))))) σ H (slack S x) := by
  have L : Ev (tOp (rIxL K) (tVar 1) (tVar 7)) σ H (oV (S.getD x.1 none)) := ev_op (ev_var h1) (ev_var h7) (rv_ixL hs (at_oV hl))
  have U : Ev (tOp (rIxL K) (tVar 1) (tVar 8)) σ H (oV (S.getD x.2.1 none)) := ev_op (ev_var h1) (ev_var h8) (rv_ixL hs (at_oV hu))
  obtain ⟨l, u, m⟩ := x
  simp only at L U h7 h8 h9 hl hu
  unfold slack
  simp only
  cases hL : S.getD l none with
  | none =>
    rw [hL] at L
    exact et_is (et_and (a := false) (b := false) (et_test (ev_op L ev_c rv_notN)) fun z => nomatch z) rfl
  | some a =>
    rw [hL] at L
    cases hU : S.getD u none with
    | none =>
      rw [hU] at U
      exact et_is (et_and (a := true) (b := true) (et_test (ev_op L ev_c rv_notN)) fun _ => et_is (et_or (a := true) (b := true) (et_test (ev_op U ev_c rv_isN)) fun z => nomatch z) rfl) rfl
    | some b =>
      rw [hU] at U
      exact et_is (et_and (a := true) (et_test (ev_op L ev_c rv_notN)) fun _ => et_is (et_or (a := false) (et_test (ev_op U ev_c rv_isN)) fun _ => et_test (ev_op (ev_is U rfl) (ev_op (ev_is L rfl) (ev_var h9) rv_I0) rv_I0)) (Bool.false_or _)) (Bool.true_and _)
theorem sum_some {S : Sums} {x : Say} (h : slack S x = true) : ∃ a, S.getD x.1 none = some a := by
  obtain ⟨l, u, m⟩ := x
  obtain ⟨a, ha, _⟩ := slack_true h
  exact ⟨a, ha⟩
theorem turn_no {st : LSt} {i : Nat} {x : Say} (h : slack st.sums x = false) : turn st i x = st := by
  unfold turn
  rw [h]
  rfl
theorem turn_yes {st : LSt} {i : Nat} {x : Say} {a : Int} (h : slack st.sums x = true) (ha : st.sums.getD x.1 none = some a) : turn st i x = ⟨st.sums.set x.2.1 (some (a + x.2.2)), st.last.set x.2.1 (i : Int), (x.2.1 : Int)⟩ := by
  unfold turn
  rw [if_pos h, ha]
  rfl
theorem upTo_succ {ss : List Say} {st : LSt} {i : Nat} {x : Say} (h : ss[i]? = some x) : upTo ss st (i + 1) = turn (upTo ss st i) i x := by
  show turn (upTo ss st i) i (ss.getD i z0) = _
  rw [getD_some h]
theorem turn_len {st : LSt} {i : Nat} {x : Say} : (turn st i x).sums.length = st.sums.length ∧ (turn st i x).last.length = st.last.length := by
  unfold turn
  split
  · exact ⟨List.length_set .., List.length_set ..⟩
  · exact ⟨rfl, rfl⟩
theorem upTo_len {ss : List Say} {st : LSt} : ∀ i, (upTo ss st i).sums.length = st.sums.length ∧ (upTo ss st i).last.length = st.last.length
  | 0 => ⟨rfl, rfl⟩
  | i + 1 => ⟨(turn_len).1.trans (upTo_len i).1, (turn_len).2.trans (upTo_len i).2⟩
theorem oVs_set {S : Sums} {j : Nat} {x : Int} : (oVs S).set j (.int x) = oVs (S.set j (some x)) := by
  show _ = (S.set j (some x)).map oV
  rw [List.map_set]
  rfl
theorem iV_set {l : List Int} {j : Nat} {x : Int} : (iV l).set j (.int x) = iV (l.set j x) := by
  show _ = (l.set j x).map V.int
  rw [List.map_set]
theorem mut2 {s l : Addr} {H0 : Hp} : less (less H0 s) l s = none ∧ less (less H0 s) l l = none := by
  refine ⟨?_, less_at⟩
  by_cases h : s = l
  · rw [h]; exact less_at
  · rw [less_ne h]; exact less_at
theorem pure_lessened (h : sp_lessened K vs H Q E) : t_lessened K (Bd Q) (L2.start ["sayings", "sums", "last", "turn", "changed", "at", "saying", "lower", "upper", "number"] vs) H := by
  obtain ⟨a, s, l, ss, S0, n, rfl, hsl, hS, ok, hn, hz, hs, hl, k⟩ := h
  have hB := mut2 (s := s) (l := l) (H0 := H)
  generalize hBd : less (less H s) l = B at hS hB k
  have hBH : Ex B H := by rw [← hBd]; exact ex_less.trans ex_less
  have hlen : ((oVs S0).length : Int) + 1 = ((n + 1 : Nat) : Int) := by rw [List.length_map, hn]; rfl
  refine q_forR1 (n := ((n + 1 : Nat) : Int)) (ea_cons (ev_is (ev_op (ev_len (ev_var rfl) (sq_of hs)) ev_c rv_I0) (by rw [hlen])) ea_nil) (by omega)
    (fun i σ' H' => ∃ (st : LSt) (w3 w4 w5 w6 w7 w8 w9 : Option V), σ' = [some (.ref a), some (.ref s), some (.ref l), w3, w4, w5, w6, w7, w8, w9] ∧ (0 < i → w4 = some (.int st.ch)) ∧ Ex B H' ∧ H' s = some (.lst (oVs st.sums)) ∧ H' l = some (.lst (iV st.last)) ∧ st.sums.length = n ∧ st.last.length = n ∧ i ≤ n + 1 ∧
      lessened ss S0 (List.replicate n (-1)) = rounds ss (n + 1 - i) st)
    (fun H1 e1 => ⟨⟨S0, List.replicate n (-1), 0⟩, none, none, none, none, none, none, none, rfl, fun z => absurd z (Nat.lt_irrefl 0), hBH.trans e1, e1 _ _ hs, e1 _ _ hl, hn, List.length_replicate, Nat.zero_le _, by unfold lessened; rw [hn]; rfl⟩) ?_ ?_
  · rintro i σ' H' hi ⟨st, w3, w4, w5, w6, w7, w8, w9, rfl, _, e', hs', hl', ls, ll, _, inv⟩
    refine q_asg (v := .int (-1)) (ev_un ev_c ru_neg) fun H1 e1 => ?_
    -- one round
    obtain ⟨hz1, xs, hxL, hxp⟩ := id hS
    have hxlen : xs.length = ss.length := Paired.length hxp
    refine q_forE (ev_var rfl) (ex_l (e'.trans e1) hxL)
      (fun j σ' H' => ∃ (w5 w6 w7 w8 w9 : Option V), σ' = [some (.ref a), some (.ref s), some (.ref l), some (.int (i : Int)), some (.int (upTo ss { st with ch := -1 } j).ch), w5, w6, w7, w8, w9] ∧ Ex B H' ∧ H' s = some (.lst (oVs (upTo ss { st with ch := -1 } j).sums)) ∧ H' l = some (.lst (iV (upTo ss { st with ch := -1 } j).last)))
      (fun H2 e2 => ⟨w5, w6, w7, w8, w9, rfl, (e'.trans e1).trans e2, (e1.trans e2) _ _ hs', (e1.trans e2) _ _ hl'⟩) (fun j σ' H' ⟨_, _, _, _, _, _, e3, _⟩ => ex_l e3 hxL) ?_ ?_
    · rintro j x T σ' H3 hx2 ⟨w5, w6, w7, w8, w9, rfl, e3, hs3, hl3⟩ hT
      obtain ⟨y, hy, tp, rfl, hTp⟩ := paired_get hxp hx2
      have e4 : Ex H3 (upd H3 T (.tup [.int (j : Int), .ref tp])) := Ex.new hT
      refine unp2 (st_of upd_same) ?_
      have E4 := e3.trans e4
      have lens := upTo_len (ss := ss) (st := { st with ch := -1 }) j
      have hyb := ok.get hy
      have hyl : y.1 < (upTo ss { st with ch := -1 } j).sums.length := by rw [lens.1]; show _ < st.sums.length; omega
      have hyu : y.2.1 < (upTo ss { st with ch := -1 } j).sums.length := by rw [lens.1]; show _ < st.sums.length; omega
      have hyL : y.2.1 < (upTo ss { st with ch := -1 } j).last.length := by rw [lens.2]; show _ < st.last.length; omega
      have hup := upTo_succ (st := { st with ch := -1 }) hy
      generalize upTo ss { st with ch := -1 } j = sj at *
      generalize upTo ss { st with ch := -1 } (j + 1) = sj1 at *
      have hs4 := e4 _ _ hs3
      have hl4 := e4 _ _ hl3
      generalize upd H3 T (.tup [.int (j : Int), .ref tp]) = H4 at *
      refine q_unp3 (ev_var rfl) (ex_t E4 hTp) fun H5 e5 => ?_
      have hs5 := e5 _ _ hs4
      have hl5 := e5 _ _ hl4
      refine s_when (et_slack (x := y) (sq_of hs5) rfl rfl rfl rfl hyl hyu) (fun hb H6 e6 => ?_) fun hb H6 e6 => ?_
      · obtain ⟨av, hav⟩ := sum_some hb
        rw [turn_yes hb hav] at hup
        have hs6 := e6 _ _ hs5
        have hl6 := e6 _ _ hl5
        refine q_setL (v := .int (av + y.2.2)) hs6 (ev_op (ev_is (ev_op (ev_var rfl) (ev_var rfl) (rv_ixL (sq_of hs6) (at_oV hyl))) (by rw [hav]; rfl)) (ev_var rfl) rv_I0) (ev_var rfl) (ev_var rfl) (by rw [List.length_map]; exact hyu) fun H7 e7 => ?_
        rw [oVs_set]
        have E7 : Ex B H7 := ((E4.trans e5).trans e6).trans e7
        have hl7 : (upd H7 s (.lst (oVs (sj.sums.set y.2.1 (some (av + y.2.2)))))) l = some (.lst (iV sj.last)) := by rw [upd_ne (Ne.symm hsl)]; exact e7 _ _ hl6
        have E7' := Ex.mut (o := .lst (oVs (sj.sums.set y.2.1 (some (av + y.2.2))))) E7 hB.1
        refine q_setL (v := .int (j : Int)) hl7 (ev_var rfl) (ev_var rfl) (ev_var rfl) (by rw [List.length_map]; exact hyL) fun H8 e8 => ?_
        rw [iV_set]
        refine s_asg (ev_var rfl) fun H9 e9 => ?_
        rw [hup]
        refine ⟨_, _, _, _, _, rfl, (Ex.mut (E7'.trans e8) hB.2).trans e9, ?_, ?_⟩
        · refine e9 _ _ ?_
          rw [upd_ne hsl]
          exact e8 _ _ upd_same
        · exact e9 _ _ upd_same
      · rw [turn_no hb] at hup
        rw [hup]
        exact ⟨_, _, _, _, _, rfl, (E4.trans e5).trans e6, e6 _ _ hs5, e6 _ _ hl5⟩
    · rintro σ' H3 ⟨w5, w6, w7, w8, w9, rfl, e3, hs3, hl3⟩
      rw [hxlen] at hs3 hl3 ⊢
      have er : upTo ss { st with ch := -1 } ss.length = round ss st := rfl
      have lens := upTo_len (ss := ss) (st := { st with ch := -1 }) ss.length
      rw [er] at hs3 hl3 lens ⊢
      have hk : n + 1 - i = (n + 1 - (i + 1)) + 1 := by omega
      rw [hk] at inv
      have inv2 : lessened ss S0 (List.replicate n (-1)) = if (round ss st).ch < 0 then { round ss st with ch := -1 } else rounds ss (n + 1 - (i + 1)) (round ss st) := inv
      have fin := lessened_ok (S0 := S0) ok hn
      refine s_when (b := decide ((round ss st).ch < 0)) (et_test (ev_op (ev_var rfl) ev_c rv_I0)) (fun hb H4 e4 => ?_) fun hb H4 e4 => ?_
      · rw [inv2, if_pos (of_decide_eq_true hb)] at fin
        exact s_ret (v := .int (-1)) (ev_un ev_c ru_neg) fun H5 e5 => k { round ss st with ch := -1 } H5 fin ((e3.trans e4).trans e5) ((e4.trans e5) _ _ hs3) ((e4.trans e5) _ _ hl3)
      · rw [if_neg (of_decide_eq_false hb)] at inv2
        exact ⟨round ss st, _, _, _, _, _, _, _, rfl, fun _ => rfl, e3.trans e4, e4 _ _ hs3, e4 _ _ hl3, by rw [lens.1]; exact ls, by rw [lens.2]; exact ll, by omega, inv2⟩
  · rintro σ' H' ⟨st, w3, w4, w5, w6, w7, w8, w9, rfl, h4, e', hs', hl', ls, ll, _, inv⟩
    have e0 : n + 1 - ((n + 1 : Nat) : Int).toNat = 0 := by omega
    rw [e0] at inv
    have inv2 : lessened ss S0 (List.replicate n (-1)) = st := inv
    have h4' := h4 (by omega)
    subst h4'
    have fin := lessened_ok (S0 := S0) ok hn
    rw [inv2] at fin
    exact s_ret (ev_var rfl) fun H5 e5 => k st H5 fin (e'.trans e5) (e5 _ _ hs') (e5 _ _ hl')
end
end Am

namespace Am
open PySem L2 Evl
open He (ga ma)
section
variable {K : PySem.W.Frag} {vs : List V} {H H' : Hp} {Q : VK} {E : XK} {σ : L2.St} {ta tb tc td te : TE} {tz tu : TS} {D : Ends} {ts : TA}
/-- sayings[last[x]][0] -/
theorem ev_back {a l : Addr} {ss : List Say} {last : List Int} {v k : Nat} {s : Say} (hS : Says K H a ss) (hL : SqL K H l (iV last)) (ha : Ev ta σ H (.ref a)) (hl : Ev tb σ H (.ref l)) (hv : Ev tc σ H (.int (v : Int))) (h1 : last.getD v (-1) = (k : Int)) (hvl : v < last.length) (h2 : ss[k]? = some s) :
    Ev (tOp (rIxT K) (tOp (rIxL K) ta (tOp (rIxL K) tb tc)) (tC (.int 0))) σ H (.int (s.1 : Int)) := by
  have e : last.getD v 0 = (k : Int) := by
    rw [List.getD_eq_getElem?_getD, List.getElem?_eq_getElem hvl] at h1 ⊢
    exact h1
  exact ev_part hS h2 ha (ev_op hl hv (rv_ixL hL (by rw [at_iV hvl, e]))) rfl
theorem ev_lastAt {l : Addr} {last : List Int} {v k : Nat} (hL : SqL K H l (iV last)) (hl : Ev tb σ H (.ref l)) (hv : Ev tc σ H (.int (v : Int))) (h1 : last.getD v (-1) = (k : Int)) (hvl : v < last.length) : Ev (tOp (rIxL K) tb tc) σ H (.int (k : Int)) := by
  have e : last.getD v 0 = (k : Int) := by
    rw [List.getD_eq_getElem?_getD, List.getElem?_eq_getElem hvl] at h1 ⊢
    exact h1
  exact ev_op hl hv (rv_ixL hL (by rw [at_iV hvl, e]))
theorem in_last {last : List Int} {v k : Nat} (h : last.getD v (-1) = (k : Int)) : v < last.length := by
  rcases Nat.lt_or_ge v last.length with g | g
  · exact g
  · rw [List.getD_eq_getElem?_getD, List.getElem?_eq_none g] at h
    have h' : (-1 : Int) = (k : Int) := h
    omega
theorem el_rev {p : Addr} {xs : List V} (h : Ev te σ H (.ref p)) (hx : SqL K H p xs) : EvL (tRevL K te) σ H xs.reverse := fun H1 e Q q =>
  h H1 e _ fun H2 e2 => ⟨p, xs, rfl, ex_l (e.trans e2) hx, fun r hr => q r _ (fresh_back e2 hr) (e2.trans (Ex.new hr)) upd_same⟩
theorem rev_iV (as : List Nat) : (iV (as.map Int.ofNat)).reverse = iV (as.reverse.map Int.ofNat) := by
  show (List.map V.int (as.map Int.ofNat)).reverse = List.map V.int (as.reverse.map Int.ofNat)
  rw [← List.map_reverse, ← List.map_reverse]
theorem app_iV (as : List Nat) (k : Nat) : iV (as.map Int.ofNat) ++ [V.int (k : Int)] = iV ((as ++ [k]).map Int.ofNat) := by
  show _ = List.map V.int ((as ++ [k]).map Int.ofNat)
  rw [List.map_append, List.map_append]
  rfl
theorem pure_ring_behind (h : sp_ring_behind K vs H Q E) : t_ring_behind K (Bd Q) (L2.start ["sayings", "last", "place", "turn", "found", "now"] vs) H := by
  obtain ⟨a, l, ss, last, v, rfl, hS, hL, hz, ⟨as, x, W, d, ds, W3, w, hal, w3, neg, hdl⟩, k⟩ := h
  have hlen : ((iV last).length : Int) = ((last.length : Nat) : Int) := by rw [List.length_map]
  refine q_forR1 (n := ((last.length : Nat) : Int)) (ea_cons (ev_is (ev_len (ev_var rfl) hL) (by rw [hlen])) ea_nil) (by omega)
    (fun i σ' H' => ∃ (u : Nat) (rs : List Nat) (W' : Int) (w3 : Option V), σ' = [some (.ref a), some (.ref l), some (.int (u : Int)), w3, none, none] ∧ Ex H H' ∧ Walk ss last u rs x W' ∧ rs.length + i = last.length)
    (fun H1 e1 => ⟨v, as, W, none, rfl, e1, w, by omega⟩) ?_ ?_
  · rintro i σ' H' hi ⟨u, rs, W', w3', rfl, e', wu, hr⟩
    cases wu with
    | nil => simp at hr; omega
    | @step _ y _ b m W2 rs2 g1 g2 wy =>
      exact s_asg (ev_back (hS.mono e') (ex_l e' hL) (ev_var rfl) (ev_var rfl) (ev_var rfl) g1 (in_last g1) g2) fun H1 e1 => ⟨y, rs2, W2, _, rfl, e'.trans e1, wy, by rw [List.length_cons] at hr; omega⟩
  · rintro σ' H' ⟨u, rs, W', w3', rfl, e', wu, hr⟩
    have hr0 : rs = [] := by
      have : ((last.length : Nat) : Int).toNat = last.length := by omega
      rw [this] at hr
      refine List.length_eq_zero_iff.mp ?_; omega
    subst hr0
    cases wu
    -- x is on the ring
    cases w3 with
    | @step _ y _ _ m W2 _ g1 g2 wy =>
      have hS' := hS.mono e'
      have hL' := ex_l e' hL
      refine q_asgL (el_lst (ea_cons (ev_lastAt hL' (ev_var rfl) (ev_var rfl) g1 (in_last g1)) ea_nil) (by show 1 ≤ 100000; decide)) fun f H1 hf e1 hf1 => ?_
      refine q_asg (ev_back (hS'.mono e1) (ex_l e1 hL') (ev_var rfl) (ev_var rfl) (ev_var rfl) g1 (in_last g1) g2) fun H2 e2 => ?_
      have hB : Ex H (less H2 f) := ex_less_old ((e'.trans e1).trans e2) (fresh_back e' hf)
      refine q_while (fun m σ' H3 => ∃ (bs cs : List Nat) (u : Nat) (Wb Wc : Int), σ' = [some (.ref a), some (.ref l), some (.int (x : Int)), w3', some (.ref f), some (.int (u : Int))] ∧ Ex (less H2 f) H3 ∧ H3 f = some (.lst (iV ((d :: bs).map Int.ofNat))) ∧
          Walk ss last x (d :: bs) u Wb ∧ Walk ss last u cs x Wc ∧ (d :: bs).length + cs.length = (d :: ds).length ∧ cs.length = m) ds.length
        ⟨[], ds, y, _, _, rfl, ex_less, e2 _ _ hf1, .step g1 g2 (.nil y), wy, by simp; omega, rfl⟩ ?_
      rintro m1 σ' H3 ⟨bs, cs, u, Wb, Wc, rfl, e3, hf3, wb, wc, hl3, rfl⟩
      have E3 := hB.trans e3
      refine ⟨!decide (u = x), et_is (et_test (ev_op (ev_var rfl) (ev_var rfl) (rv_ne rfl))) (by rw [dec_nat]), fun hb H4 e4 => ?_, fun hb H4 e4 => ?_⟩
      · have ne : u ≠ x := by simpa using hb
        cases wc with
        | nil => exact absurd rfl ne
        | @step _ y2 _ b m2 W5 cs2 h1 h2 wy2 =>
          refine ⟨fun σ2 H5 => ∃ (bs cs : List Nat) (u : Nat) (Wb Wc : Int), σ2 = [some (.ref a), some (.ref l), some (.int (x : Int)), w3', some (.ref f), some (.int (u : Int))] ∧ Ex (less H2 f) H5 ∧ H5 f = some (.lst (iV ((d :: bs).map Int.ofNat))) ∧
            Walk ss last x (d :: bs) u Wb ∧ Walk ss last u cs x Wc ∧ (d :: bs).length + cs.length = (d :: ds).length ∧ cs.length = cs2.length, fun σ2 H5 ⟨bs', cs', u', Wb', Wc', q1, q2, q3, q4, q5, q6, q7⟩ => ⟨cs2.length, by simp, bs', cs', u', Wb', Wc', q1, q2, q3, q4, q5, q6, q7⟩, ?_⟩
          have E4 := E3.trans e4
          have hsz : ((d :: bs).map Int.ofNat).length < 100000 := by
            rw [List.length_map]
            have : (d :: ds).length ≤ 100 := Nat.le_trans hdl hz
            omega
          refine q_app (v := .int (b : Int)) (e4 _ _ hf3) (ev_var rfl) (ev_lastAt (ex_l E4 hL) (ev_var rfl) (ev_var rfl) h1 (in_last h1)) (by rw [List.length_map]; exact hsz) fun H5 e5 => ?_
          rw [app_iV]
          have EB : Ex (less H2 f) (upd H5 f (.lst (iV ((d :: bs ++ [b]).map Int.ofNat)))) := Ex.mut ((e3.trans e4).trans e5) less_at
          refine s_asg (ev_back (hS.mono (hB.trans EB)) (ex_l (hB.trans EB) hL) (ev_var rfl) (ev_var rfl) (ev_var rfl) h1 (in_last h1) h2) fun H6 e6 => ?_
          exact ⟨bs ++ [b], cs2, y2, _, W5, rfl, EB.trans e6, e6 _ _ upd_same, wb.app (.step h1 h2 (.nil y2)), wy2, by simp at hl3 ⊢; omega, rfl⟩
      · have eq : u = x := by simpa using hb
        subst eq
        have E4 := E3.trans e4
        have hw := neg _ _ _ _ wb
        refine s_retL (el_rev (ev_var rfl) (sq_of (e4 _ _ hf3))) fun p H5 hp e5 h5 => ?_
        rw [rev_iV] at h5
        refine k _ p H5 (wb.ring hw) ?_ (fresh_back E4 hp) (E4.trans e5) h5
        rw [List.length_map, List.length_reverse]
        have : (d :: ds).length ≤ 100 := Nat.le_trans hdl hz
        omega
theorem pure_from_all (h : sp_from_all K vs H Q E) : t_from_all K (Bd Q) (L2.start ["count", "sayings", "sums", "last", "place"] vs) H := by
  obtain ⟨n, a, ss, rfl, hS, ok, hn, hz, k1, k2⟩ := h
  have eS : ((List.range n).map fun _ => V.int 0) = oVs (List.replicate n (some 0)) := by
    show _ = (List.replicate n (some 0)).map oV
    rw [List.map_replicate, List.map_const', List.length_range]
    rfl
  have eL : ((List.range n).map fun _ => V.int (-1)) = iV (List.replicate n (-1)) := by
    show _ = (List.replicate n (-1)).map V.int
    rw [List.map_replicate, List.map_const', List.length_range]
  refine q_asgL (el_mapR (n := (n : Int)) (fun _ => .int 0) (ea_cons (ev_var rfl) ea_nil) (by omega) (fun _ => rfl) fun i H1 e1 hi => ev_c) fun s H1 hs' e1 hs1 => ?_
  have hs1' : H1 s = some (.lst (oVs (List.replicate n (some 0)))) := by rw [← eS]; exact hs1
  refine q_asgL (el_mapR (n := (n : Int)) (fun _ => .int (-1)) (ea_cons (ev_var rfl) ea_nil) (by omega) (fun _ => rfl) fun i H2 e2 hi => ev_un ev_c ru_neg) fun l H2 hl e2 hl2 => ?_
  have hl2' : H2 l = some (.lst (iV (List.replicate n (-1)))) := by rw [← eL]; exact hl2
  have hsl : s ≠ l := fun z => by rw [z, hl] at hs1'; cases hs1'
  have hl0 := fresh_back e1 hl
  refine raw_q_asg (raw_call (ea3 (ev_var rfl) (ev_var rfl) (ev_var rfl)) fun H3 e3 => ?_)
  have hs3 := e3 _ _ (e2 _ _ hs1')
  have hl3 := e3 _ _ hl2'
  have E3 : Ex H H3 := (e1.trans e2).trans e3
  have EB : Ex H (less (less H3 s) l) := ex_less_old (ex_less_old E3 hs') hl0
  refine ⟨a, s, l, ss, List.replicate n (some 0), n, rfl, hsl, hS.mono EB, ok, List.length_replicate, hz, hs3, hl3, fun st H4 L e4 hs4 hl4 => ?_⟩
  have E4 := EB.trans e4
  rcases fromAll_ok ok L with ⟨hc, hs, est, ka, h0, led⟩ | ⟨v, hv, hc, dp⟩
  · rw [hc]
    have hs4' : H4 s = some (.lst (iV hs)) := by
      rw [hs4, est]
      show some (HO.lst ((hs.map some).map oV)) = _
      rw [List.map_map]
      rfl
    refine q_when (b := true) (et_test (ev_op (ev_var rfl) ev_c rv_I0)) (fun _ H5 e5 => ?_) (fun z => nomatch z)
    have rt : ∀ R : VK, (∀ t r H6, H5 r = none → Ex H5 H6 → H6 t = some (.tup [.ref s, .ref r]) → H6 r = some (.lst []) → R (.ref t) H6) → tTup (tCons (tVar 2) (tCons (tLst tNil) tNil)) [some (V.int (n : Int)), some (V.ref a), some (V.ref s), some (V.ref l), some (V.int (-1))] H5 R := fun R q =>
      ⟨_, rfl, (el_lst ea_nil (by simp)) H5 (Ex.refl H5) _ fun r H6 hr e6 h6 => ⟨by show 2 ≤ sizeLine; decide, fun t ht => q t r _ hr (e6.trans (Ex.new ht)) upd_same (Ex.new ht _ _ h6)⟩⟩
    exact rt _ fun t r H6 hr e6 ht hr6 => k1 hs t s r H6 ka h0 led hs' (fresh_back (E4.trans e5) hr) ((E4.trans e5).trans e6) ht (e6 _ _ (e5 _ _ hs4')) hr6
  · rw [hc]
    refine q_when (b := false) (et_is (et_test (ev_op (ev_var rfl) ev_c rv_I0)) (decide_eq_false (by omega))) (fun z => nomatch z) fun _ H5 e5 => ?_
    have hll : st.last.length = n := by
      obtain ⟨_, _, _, I⟩ := L.inv
      exact I.lenL
    have rt : ∀ R : VK, (∀ t r H6 c, isRing ss c = true → c.length ≤ 100 → H5 r = none → Ex H5 H6 → H6 t = some (.tup [.ref s, .ref r]) → H6 r = some (.lst (iV c)) → R (.ref t) H6) → tTup (tCons (tVar 2) (tCons (tCall (sp_ring_behind K) [] E0 (tCons (tVar 1) (tCons (tVar 3) (tCons (tVar 4) tNil)))) tNil)) [some (V.int (n : Int)), some (V.ref a), some (V.ref s), some (V.ref l), some (V.int (v : Int))] H5 R := fun R q =>
      ⟨_, rfl, raw_call (ea3 (ev_var rfl) (ev_var rfl) (ev_var rfl)) fun H6 e6 => ⟨a, l, ss, st.last, v, rfl, hS.mono ((E4.trans e5).trans e6), sq_of (e6 _ _ (e5 _ _ hl4)), by omega, dp, fun c r H7 hc hcl hr e7 h7 => ⟨by show 2 ≤ sizeLine; decide, fun t ht =>
        q t r _ c hc hcl (fresh_back e6 hr) ((e6.trans e7).trans (Ex.new ht)) upd_same (Ex.new ht _ _ h7)⟩⟩⟩
    exact rt _ fun t r H6 c hcr hcl hr e6 ht hr6 => k2 c t s r H6 hcr hcl hs' (fresh_back (E4.trans e5) hr) ((E4.trans e5).trans e6) ht hr6
end
end Am

/-! raising, and what is caught -/
namespace Am
open PySem PySem.Spec PyProof.Rows L2
open He (ga ma)
abbrev St := L2.St
/-- C is raised -/
def tRaiseC (C : Addr) (E : XK) : TS := fun _ _ H => E (.ref C) none H
/-- what catches: an own error without a dict -/
def tSuite0 (K : PySem.W.Frag) (ts : Addr → Addr → TS) : Addr → Value → Option Addr → TS := fun a cls d Dn σ H => ∃ D, (cls = .ref D ∧ d = none ∧ ExcC K D) ∧ ts a D Dn σ H
def tTry (K : PySem.W.Frag) (x : Str) (i : Nat) (tb : WX → TS) (ts : Addr → Value → Option Addr → TS) : TS := fun D σ H => tb (wAs K (.ref (ga K x)) i ts (fun _ _ _ _ => False) D) D σ H
theorem pSuite0 {X : Cx} {st : List Stmt} {ts : Addr → Addr → TS} {a : Addr} {oe : Obj} {cls : Value} {d : Option Addr} (h : ∀ D, L2N.Zn (.ref D) none oe → ExcC X.K D → PSs X st (ts a D)) (hz : L2N.Zn cls d oe) : PSs X st (tSuite0 X.K ts a cls d) :=
  ⟨fun pins s σ H Dn I hw => by
    obtain ⟨D, ⟨rfl, rfl, hC⟩, q⟩ := hw
    exact (h D hz hC).run pins s σ H Dn I q⟩
theorem takesN0 {X : Cx} : L2N.Takes X (fun _ _ _ _ => False) := fun _ _ x => by
  repeat obtain ⟨_, x⟩ := x
theorem passN {X : Cx} : Passes (L2N.CX X.prog X.w) X E0 := fun _ _ _ _ _ _ _ h => by
  repeat obtain ⟨_, h⟩ := h
theorem hot_suite {X : Cx} {a : Addr} {oe : Obj} {pn : List (Addr × Obj)} {cls : Value} {d : Option Addr} (hz : L2N.Zn cls d oe) (hf : ∃ vs, oe.data = .fields vs) : L2H.HotC (X.suite a ((a, oe) :: pn)) := by
  obtain ⟨vs, hv⟩ := hf
  exact ⟨(a, oe), ⟨rfl, vs, hv, hz.2.2 vs hv⟩, List.mem_cons_self⟩
end Am
namespace Am
open PySem L2 Evl
open He (ga ma)
/-! ### the same, to be asked of the head -/
def excCB (K : PySem.W.Frag) (D : Addr) : Bool := decide (PySem.W.findIn K (.ref D) "__getattribute__" = some (some (.builtin "BaseException.__getattribute__"))) && (decide (PySem.W.findIn K (.ref D) "__getattr__" = some none) && (decide (PySem.W.subIn K (.ref D) (.type "BaseException") = some true) && (PySem.W.hasDictIn K D &&
  (decide (PySem.W.findIn K (.ref D) "__class__" = some (some (.builtin "object.__class__"))) && (decide (PySem.W.specialIn K (.builtin "object.__class__") "__get__" = some (some (.builtin "getset_descriptor.__get__"))) && (decide (PySem.W.takesIn K (.builtin "object.__class__") = some true) && decide (PySem.W.mroIn K D (.type "object") = some true)))))))
theorem excCB_ok {K : PySem.W.Frag} {D : Addr} (h : excCB K D = true) : ExcC K D := by
  unfold excCB at h
  simp only [decide_eq_true_eq, Bool.and_eq_true] at h
  obtain ⟨h1, h2, h3, h4, h5, h6, h7, h8⟩ := h
  exact ⟨h1, h2, h3, h4, h5, h6, h7, h8⟩
def kitOB (K : PySem.W.Frag) (x y : Str) (b : Bool) : Bool := decide (PySem.W.kitOne K (.ref (ga K x)) (.ref (ga K y)) = some b)
theorem kitOB_ok {K : PySem.W.Frag} {x y : Str} {b : Bool} (h : kitOB K x y b = true) : PySem.W.kitOne K (.ref (ga K x)) (.ref (ga K y)) = some b := of_decide_eq_true h
section
variable {K : PySem.W.Frag} {vs : List V} {H H' : Hp} {Q : VK} {E : XK} {σ : L2.St} {ta tb tc td te t1 t2 : TE} {tz tu : TS} {D : Ends} {ts : TA}
theorem ev_check_places {n p q : Nat} (h1 : Ev ta σ H (.int (n : Int))) (h2 : Ev tb σ H (.int (p : Int))) (h3 : Ev tc σ H (.int (q : Int))) (hp : p < n) (hq : q < n) : Ev (tCall (sp_check_places K) [] E0 (tCons ta (tCons tb (tCons tc tNil)))) σ H .non :=
  ev_pur (ea3 h1 h2 h3) fun H1 e => ⟨n, p, q, rfl, hp, hq, rfl⟩
theorem raw_callS {sp : Sp} {vs : List V} {E : L2.St → XK} {Q : VK} (h : EvA ts σ H vs) (k : ∀ H1, Ex H H1 → sp vs H1 Q (E σ)) : tCallS sp E ts σ H Q := h H (Ex.refl H) _ k
theorem raw_q_tryDrop {sp : Sp} {x : Str} {i : Nat} {tsu : Addr → Value → Option Addr → TS} (h : tCallS sp (WE (wAs K (.ref (ga K x)) i tsu (fun _ _ _ _ => False) { D with nx := tz D })) ts σ H fun _ H1 => tz D σ H1) : tSeq (tTry K x i (fun W => tDrop (tCallS sp (WE W) ts)) tsu) tz D σ H := h
theorem ev_isE {a D C : Addr} {b : Bool} (ha : Ev ta σ H (.ref a)) (h : PySem.W.kitOne K (.ref D) (.ref C) = some b) : Ev (tCB (rIsE K D a) (tCons ta (tCons (tC (.ref C)) tNil))) σ H (.bl b) :=
  ev_cb (ea2 ha ev_c) fun H1 e1 Q q => ⟨.ref C, .ref C, b, rfl, fun _ r => r, h, q H1 (Ex.refl H1)⟩
theorem ev_anyV {p : Addr} {bs : List Bool} (ha : Ev ta σ H (.ref p)) (h : SqL K H p (bs.map V.bl)) : Ev (tCB (rAny K) (tCons ta tNil)) σ H (.bl (bs.any id)) := fun H1 e Q q =>
  ha H1 e _ fun H2 e2 => ⟨p, bs, rfl, ex_l (e.trans e2) h, q H2 e2⟩
theorem raw_q_asgG {g : TG} (h : te σ H fun x H1 => g x σ H1 (tz D)) : tSeq (tAsg te g) tz D σ H := h
theorem q_asgLL {xs ys : List V} {i : Nat} (h1 : EvL t1 σ H xs) (h2 : EvL t2 σ H ys) (k : ∀ p1 p2 h H1, H p1 = none → H p2 = none → H h = none → Ex H H1 → H1 p1 = some (.lst xs) → H1 p2 = some (.lst ys) → H1 h = some (.lst [.ref p1, .ref p2]) → tz D (σ.set i (some (.ref h))) H1) :
    tSeq (tAsg (tLst (tCons t1 (tCons t2 tNil))) (gName i)) tz D σ H :=
  raw_q_asg (h1 H (Ex.refl H) _ fun p1 H1 hp1 e1 h1' => h2 H1 e1 _ fun p2 H2 hp2 e2 h2' => ⟨by show 2 ≤ sizeLine; decide, fun h hh =>
    k p1 p2 h _ hp1 (fresh_back e1 hp2) (fresh_back (e1.trans e2) hh) ((e1.trans e2).trans (Ex.new hh)) (Ex.new hh _ _ (e2 _ _ h1')) (Ex.new hh _ _ h2') upd_same⟩)
theorem ev_nePair {h p1 p2 a b : Addr} {ss : List Say} {hs : List Int} (h0 : Ev ta σ H (.ref h)) (h1 : Ev tb σ H (.ref a)) (h2 : Ev tc σ H (.ref b)) (hh : SqL K H h [.ref p1, .ref p2]) (hp1 : Says K H p1 ss) (hp2 : SqL K H p2 (iV hs)) (ha : Says K H a ss) (hb : SqL K H b (iV hs)) :
    Ev (tOp (rNeD K) ta (tLst (tCons tb (tCons tc tNil)))) σ H (.bl false) := by
  have sh := sh_2 (lay_S ss) (lay_I hs) (Nat.le_trans (dep_S ss) (by decide)) (by rw [dep_I]; decide)
  exact ev_opL (xs := [.ref a, .ref b]) h0 (el_lst (ea2 h1 h2) (by show 2 ≤ 100000; decide)) fun q H1 hq e => rv_neD (d := .list [dS ss, dI hs]) (e := .list [dS ss, dI hs])
    (fun H2 e2 => .lst (ex_l (e.trans e2) hh) (.cons (dp_S (hp1.mono (e.trans e2))) (.cons (dp_I (ex_l (e.trans e2) hp2)) .nil)))
    (fun H2 e2 => .lst (sq_of (e2 _ _ hq)) (.cons (dp_S (ha.mono (e.trans e2))) (.cons (dp_I (ex_l (e.trans e2) hb)) .nil))) sh sh (by rw [eqv_self sh]; rfl)
theorem el_rep {xs : List V} {k : Int} (h1 : EvL ta σ H xs) (h2 : Ev tb σ H (.int k)) (hk : 0 ≤ k ∧ k ≤ 1000) (hx : xs.length ≤ 10) : EvL (tOp rRep ta tb) σ H (List.replicate k.toNat xs).flatten := fun H1 e Q q =>
  h1 H1 e _ fun p H2 hp e2 hp2 => h2 H2 (e.trans e2) _ fun H3 e3 => ⟨p, k, xs, rfl, rfl, e3 _ _ hp2, by omega, by omega, sz_of (by
    have : xs.length * k.toNat ≤ 10 * 1000 := Nat.mul_le_mul hx (by omega)
    omega), fun r hr => q r _ (fresh_back (e2.trans e3) hr) ((e2.trans e3).trans (Ex.new hr)) upd_same⟩
theorem el_rg {n : Int} (h : Ev ta σ H (.int n)) (hn : 0 ≤ n ∧ n ≤ 1000) : EvL (tLstRg (tRg1 ta)) σ H (rgV 0 n) := fun H1 e Q q =>
  h H1 e _ fun H2 e2 => ⟨n, rfl, RgOk.of_le (by decide) (by omega) (by decide) hn.1, fun r hr => q r _ (fresh_back e2 hr) (e2.trans (Ex.new hr)) upd_same⟩
theorem rg_iV (n : Nat) : rgV 0 (n : Int) = iV ((List.range n).map fun (i : Nat) => (i : Int)) := by
  rw [iV_map]
  unfold rgV
  show List.map (fun i : Nat => V.int (0 + (i : Int))) (List.range ((n : Int) - 0).toNat) = _
  have e : ((n : Int) - 0).toNat = n := by omega
  rw [e]
  congr 1
  funext i
  rw [Int.zero_add]
theorem rep_iV (n : Nat) : (List.replicate (n : Int).toNat [V.int 5]).flatten = iV (List.replicate n 5) := by
  show (List.replicate n [V.int 5]).flatten = _
  rw [show iV (List.replicate n 5) = List.replicate n (V.int 5) from List.map_replicate]
  induction n with
  | zero => rfl
  | succ k ih => rw [List.replicate_succ, List.flatten_cons, ih, List.replicate_succ]; rfl
theorem cut_iV (ch : List Int) (lo hi : Option Int) : ∃ ch', cutV (iV ch) lo hi = iV ch' ∧ (∀ x ∈ ch', x ∈ ch) ∧ ch'.length ≤ ch.length := by
  refine ⟨((ch.drop (HT.sIx (iV ch).length 0 lo)).take (HT.sIx (iV ch).length (iV ch).length hi - HT.sIx (iV ch).length 0 lo)), ?_, fun x hx => List.mem_of_mem_drop (List.mem_of_mem_take hx), ?_⟩
  · unfold cutV
    rw [show (iV ch).drop (HT.sIx (iV ch).length 0 lo) = iV (ch.drop (HT.sIx (iV ch).length 0 lo)) from (List.map_drop ..).symm]
    exact (List.map_take ..).symm
  · rw [List.length_take, List.length_drop]
    omega
theorem q_forP {tl : TE} {j : Nat} {P : List V → Hp → Prop} (hl : ∀ Q' : VK, (∀ p xs H1, Ex H H1 → H1 p = some (.lst xs) → P xs H1 → Q' (.ref p) H1) → tl σ H Q') (Pv : Hp → Nat → L2.St → Hp → Prop) (h0 : ∀ xs H1, Ex H H1 → P xs H1 → Pv H1 0 σ H1)
    (hk : ∀ H1 i σ' H', Pv H1 i σ' H' → Ex H1 H') (hs : ∀ xs H1, Ex H H1 → P xs H1 → ∀ i x σ' H', x ∈ xs → Pv H1 i σ' H' → tu { D with nx := Pv H1 (i + 1), ct := Pv H1 (i + 1), bk := tz D } (σ'.set j (some x)) H')
    (hd : ∀ xs H1, Ex H H1 → P xs H1 → ∀ i σ' H', Pv H1 i σ' H' → tz D σ' H') : tSeq (tFor (iList K tl) (gName j) tu) tz D σ H :=
  hl _ fun p xs H1 e hp hP => ⟨p, rfl, ⟨xs, sq_of hp⟩, for_list (xs := xs) (Pv H1) (h0 xs H1 e hP) (fun i σ' H' _ pv => sq_of (hk H1 i σ' H' pv _ _ hp)) (fun i x σ' H' hi pv => hs xs H1 e hP i x σ' H' (List.mem_of_getElem? hi) pv) (fun σ' H' pv => hd xs H1 e hP _ σ' H' pv)⟩
end
def sp_law (K : PySem.W.Frag) : Sp := fun vs H Q _ => ∃ (a : Addr) (ns : List Int), vs = [.ref a] ∧ SqL K H a (iV ns) ∧ ns.length ≤ 63 ∧ ∀ H2, Q (.bl true) H2
end Am

/-! an own exception with an own __init__; what is asked of it while it is handled -/
namespace Am
open PySem PyProof.Rows L2
open He (ga ma)
/-! ### what is asked of a call's text -/
/-- no name of the machine's own -/
abbrev Usual (x : Str) : Prop := (x == ("__debug__" : Str)) = false
/-- no star among the arguments -/
abbrev NoStar (X : Cx) (e : Expr) (es : List Expr) : Prop := starEach (e :: es) X.env = (false, eval e X.env) :: starEach es X.env
abbrev NoneOn (X : Cx) (es : List Expr) (pos : Pos) : Prop := (backTo pos (starEach es X.env)).any (·.1) = false
section
variable {X : Cx} {x : Str} {f : Value} {e : Expr} {es : List Expr} {t : TA} {q pos : Pos} {pins : List (Addr × Obj)} {σ : L2.St} {H : Hp} {s : Shared} {R : Value → Shared → Prop} {want : List V → Hp → Prop}
/-- x(e, ..) of what the module knows by the name x, up to the call itself -/
theorem call_glob (I : Inv X pins σ H s) (hg : Gl X x) (hm : X.mg x = some f) (hk : PySem.W.keepIn X.K f = true) (ha : PA X (e :: es) t) (hdb : Usual x) (he : NoStar X e es) (hpl : NoneOn X es pos) (ask : t σ H want)
    (go : ∀ us s1 vs H1, Inv X pins σ H1 s1 → Vals vs us → want vs H1 → wpAny (model X.prog X.w) X.A (call f us) R X.xe s1) : wpAny (model X.prog X.w) X.A (eval (.Call (.Name x q) (e :: es) [] pos) X.env) R X.xe s := by
  refine wpAny_Call_Name_kw (ld_glob (u := f) I hg hm ?_ hdb)
  refine PySem.W.callWith_K (h₀ := X.base) I.ok.mod.kin hk (thn (ha.run pos pins s σ H want I ask) ?_) he hpl
  exact fun us s1 ⟨vs, H1, I1, rel, w⟩ => ⟨I1.kIn, go us s1 vs H1 I1 rel w⟩
/-- C(e, ..), nothing being handled -/
theorem pmk_oexN {X : Cx} {CX : CXT} {x : Str} {e : Expr} {es : List Expr} {ta : TA} {p pos : Pos} {C fI : Addr} {k : Nat} {fd : FuncData} {ps : List Str} {sp : Sp} (T : OexC X.K C)
    (iC : PySem.W.findIn X.K (.ref C) "__init__" = some (some (.ref fI))) (tI : PySem.W.typeIn X.K (.ref fI) = some (.type "function"))
    (F1 : FnOk X.prog X.w X.K X.mg X.base CX k fI fd ps sp) (hr : Room (k + 1) X.A) (hb : Binds X.K fd ps []) (hx : Passes CX X (fun _ _ _ => False)) (hg : Gl X x) (hm : X.mg x = some (.ref C)) (ha : PA X (e :: es) ta)
    (hdb : Usual x := by decide) (he : NoStar X e es := by rfl) (hpl : NoneOn X es pos := by rfl) : L2N.PMk X (.Call (.Name x p) (e :: es) [] pos) (tMkO C sp [] ta) := by
  intro pins s σ H Q I ask
  refine call_glob I hg hm T.kC ha hdb he hpl ask ?_
  rintro us ⟨h0, gens, drawn, toks, os⟩ vs H1 I1 rel ⟨few, made⟩
  rcases T.cls with ⟨_, _, _, _, bm, _, _, _, _, _, _, _, _, _, _, known, ve⟩
  -- the new exception: behind the tuple of its arguments
  have above : h0.objs.size ≤ h0.objs.size + 1 := Nat.le_succ _
  have want := made _ (I1.hok.fresh above)
  rw [List.append_nil] at want
  have small : us.length ≤ sizeLine := by rw [sizeLine_eq, ← rel.length]; omega
  refine wpAny_call (PySem.HandSPX.call_own F.excBase_ValueError (fun Y => PySem.HandSPX.refsVE_contains Y bm ve) (I1.kIn _ _ known) (PySem.W.looks_findIn I1.kIn iC) (fun self => PySem.W.bind_fn I1.kIn self tI) small ?_)
  have up : ∀ b o, h0.get? b = some o → ((h0.push (PySem.W.kdv_tup us)).push (PySem.HandSPX.excO C h0.objs.size)).get? b = some o := fun b o e => by heap_get
  have top : ((h0.push (PySem.W.kdv_tup us)).push (PySem.HandSPX.excO C h0.objs.size)).get? (h0.objs.size + 1) = some (PySem.HandSPX.excO C h0.objs.size) := by heap_get
  have I2 := I1.laid (t' := toks) up above (exo_ok (P := X.prog) (w := X.w) (H := upd H1 (h0.objs.size + 1) (exo (h0.objs.size + 1) C none)) top)
  have rel2 : Vals (V.ref (h0.objs.size + 1) :: vs) (Value.ref (h0.objs.size + 1) :: us) := .cons rfl rel
  have binds := hb _ (Value.ref (h0.objs.size + 1) :: us) I2.kIn (by rw [List.append_nil, ← F1.len _ _ _ _ want]; exact rel2.length.symm)
  rw [List.append_nil] at binds
  refine codeAny_mono (F1.run _ X.stack _ _ ⟨_, []⟩ _ _ _ _ (hr.make C us []) (I2.env0.make C us []) binds rel2 want) ?_
  rintro (er | (_ | _ | _ | u)) ⟨h2, gens2, drawn2, toks2, os2⟩ got
  · exact hx pins σ _ _ er _ I2 got
  · exact got.elim
  · exact got.elim
  · exact got.elim
  · obtain ⟨v, H2, sameOs, bare, un, ok2, ru, rfl, d, fs, atE, atD, newD, fine⟩ := got
    obtain ⟨t0, G, J, grown, none0, oe, gone⟩ := mk_end0 (d2 := drawn2) (t2 := toks2) I1 above up un ok2 sameOs bare atE atD newD
    exact ⟨ru, _, _, _, ⟨G, gens2, drawn2, toks2, os2⟩, _, .ref C, some d, rfl, J, grown, none0, oe, ⟨rfl, rfl, by rintro _ ⟨⟩; rfl⟩, rfl, rfl, gone, rfl, bare, raises_own T.exC T.tyC, fine⟩
end
/-! ### what the class must say, to be asked of the head -/
/-- a class whose own instances ValueError makes -/
def madeByVE (C : Addr) (o : Obj) : Bool := match o.cls, o.data with
  | .type "type", .cls k => k.mro.head? == some (.ref C) && (o.slots.size == 6 && (o.slots[4]? == some (some (.builtin "ValueError.__new__")) && (k.hasDict && (!k.hasDel && PySem.HandSPX.refsVE k.mro.tail))))
  | _, _ => false
def oexB (K : PySem.W.Frag) (C : Addr) : Bool :=
  (K.lookup C).any (madeByVE C) && (PySem.W.findIn K (.ref C) "__setattr__" == some (some (.builtin "object.__setattr__")) && (PySem.W.subIn K (.ref C) (.type "BaseException") == some true && (PySem.W.typeIn K (.ref C) == some (.type "type") && PySem.W.keepIn K (.ref C))))
theorem madeByVE_ok {C : Addr} {o : Obj} (h : madeByVE C o = true) : ∃ nm q N bs bm sn sub ab col dd k0 k1 k2 k3 k5, o = PySem.excClassObj nm q C N bs bm true sn sub ab col dd k0 k1 k2 k3 k5 "ValueError.__new__" ∧ PySem.HandSPX.refsVE bm = true := by
  obtain ⟨oc, dd, data, ⟨slots⟩⟩ := o
  unfold madeByVE at h
  split at h
  next k hc hd =>
    dsimp only at hc hd
    subst hc hd
    obtain ⟨nm, bs, mro, ns, qn, hdc, sn, sub, ab, col, del⟩ := k
    rw [Bool.and_eq_true, Bool.and_eq_true, Bool.and_eq_true, Bool.and_eq_true, Bool.and_eq_true] at h
    obtain ⟨hm, hz, hs, h1, h2, h3⟩ := h
    obtain ⟨k0, k1, k2, k3, k4, k5, rfl⟩ : ∃ k0 k1 k2 k3 k4 k5, slots = [k0, k1, k2, k3, k4, k5] := by
      match slots, (beq_iff_eq.mp hz : slots.length = 6) with
      | [k0, k1, k2, k3, k4, k5], _ => exact ⟨k0, k1, k2, k3, k4, k5, rfl⟩
    match mro, hm, h3 with
    | m :: bm, hm, h3 =>
      obtain rfl : m = .ref C := Option.some.inj (beq_iff_eq.mp hm)
      obtain rfl : k4 = some (.builtin "ValueError.__new__") := Option.some.inj (beq_iff_eq.mp hs)
      obtain rfl : hdc = true := h1
      obtain rfl : del = false := by simpa using h2
      exact ⟨nm, qn, ns, bs, bm, sn, sub, ab, col, dd, k0, k1, k2, k3, k5, rfl, h3⟩
  next => cases h
theorem oexB_ok {K : PySem.W.Frag} {C : Addr} (h : oexB K C = true) : OexC K C := by
  unfold oexB at h
  rw [Bool.and_eq_true, Bool.and_eq_true, Bool.and_eq_true, Bool.and_eq_true] at h
  obtain ⟨there, sa, sub, ty, keep⟩ := h
  obtain ⟨o, at_, made⟩ := (Option.any_eq_true_iff_get _ _).mp there |> fun ⟨hs, q⟩ => (⟨_, Option.some_get hs |>.symm, q⟩ : ∃ o, K.lookup C = some o ∧ madeByVE C o = true)
  obtain ⟨nm, q, N, bs, bm, sn, sb, ab, col, dd, k0, k1, k2, k3, k5, rfl, ve⟩ := madeByVE_ok made
  exact ⟨⟨nm, q, N, bs, bm, sn, sb, ab, col, dd, k0, k1, k2, k3, k5, at_, ve⟩, beq_iff_eq.mp sa, beq_iff_eq.mp sub, beq_iff_eq.mp ty, keep⟩
/-! ### while it is handled -/
/-- X bears the exception p that is handled; its class, its dict -/
structure HotZ (X : Cx) (p : Addr × Obj) (c : Value) (d : Option Addr) : Prop where
  hot : L2H.Hot1 X.A p
  mem : p ∈ X.pn
  zn : L2N.Zn c d p.2
section
variable {X : Cx} {p : Addr × Obj} {c : Value} {d : Option Addr}
theorem HotZ.hc (h : HotZ X p c d) : L2H.HotC X := ⟨p, h.hot, h.mem⟩
theorem hotz_suite {a : Addr} {oe : Obj} {pn : List (Addr × Obj)} (hz : L2N.Zn c d oe) (hf : ∃ vs, oe.data = .fields vs) : HotZ (X.suite a ((a, oe) :: pn)) (a, oe) c d where
  hot := hf.elim fun vs hv => ⟨rfl, vs, hv, hz.2.2 vs hv⟩
  mem := List.mem_cons_self
  zn := hz
section
variable {C : Addr} {pins : List (Addr × Obj)} {σ : L2.St} {H : Hp} {s : Shared}
/-- it stands as an instance of its class, with its dict's object -/
theorem HotZ.inst (hz : HotZ X p (.ref C) d) (I : Inv X pins σ H s) {od : Option Obj} (h : match d, od with
    | none, none => True
    | some dd, some o => s.heap.get? dd = some o
    | _, _ => False) : PySem.W.InstAt s.heap p.1 p.2 C od := by
  obtain ⟨-, fs, data, -⟩ := hz.hot
  have no : PySem.W.notCls p.2 = true := by unfold PySem.W.notCls; rw [data]
  refine ⟨(I.pin p (List.mem_append_left _ hz.mem)).1, hz.zn.1, no, ?_⟩
  rw [hz.zn.2.1]
  cases d <;> cases od <;> first | trivial | exact h | exact h.elim
/-- its dict's object, and what it says of each name -/
theorem dict_says {dd : Addr} {fs : List (Str × V)} (I : Inv X pins σ H s) (at_ : H dd = some (.xd fs)) : ∃ o, s.heap.get? dd = some o ∧ ∀ n, ∃ v, PySem.W.lookIn n o = some v ∧ RelO (fs.lookup n) v := by
  have ok : ObjOk X.prog X.w H s.heap dd (.xd fs) := I.hok dd _ at_
  obtain ⟨m, names, rel⟩ := ok
  obtain ⟨o, get, look⟩ := lookIn_ns names
  exact ⟨o, get, fun n => ⟨m n, look n, rel n⟩⟩
end
/-- isinstance(e, t), e being handled -/
def rIsX (K : PySem.W.Frag) (c : Value) (d : Option Addr) (a : Addr) : List V → Hp → VK → Prop := fun xs H Q => ∃ (D : Addr) (t : V) (tv : Value) (b : Bool), c = .ref D ∧ ExcC K D ∧ (d = none ∨ ∃ dd fs, d = some dd ∧ H dd = some (.xd fs)) ∧
  xs = [.ref a, t] ∧ (∀ u, RelV t u → u = tv) ∧ PySem.W.kitOne K (.ref D) tv = some b ∧ Q (.bl b) H
theorem vals_ref_one {a : Addr} {t : V} {us : List Value} (r : Vals [V.ref a, t] us) : ∃ u, us = [.ref a, u] ∧ RelV t u := by
  cases r with
  | cons r1 r =>
    cases r1
    cases r with
    | cons r2 r => cases r; exact ⟨_, rfl, r2⟩
theorem call_isX (hz : HotZ X p c d) : CallR X (.builtin "isinstance") (rIsX X.K c d p.1) := by
  rintro pins s σ H _ us Q I rel ⟨D, t, tv, b, rfl, says, dict, rfl, only, ans, want⟩
  obtain ⟨u, rfl, ru⟩ := vals_ref_one rel
  obtain rfl := only u ru
  have inst : ∃ od, PySem.W.InstAt s.heap p.1 p.2 D od := by
    rcases dict with rfl | ⟨dd, fs, rfl, at_⟩
    · exact ⟨none, hz.inst I trivial⟩
    · exact (dict_says I at_).elim fun o k => ⟨some o, hz.inst I k.1⟩
  have named : (PySem.W.clsIn X.K D).isSome = true := (PySem.W.any_some says.hd).elim fun k h => by rw [h.1]; rfl
  obtain ⟨od, J⟩ := inst
  refine PySem.W.kia_one (PySem.W.kitx_exc named says.hg says.hk says.hs says.ha says.hn says.ht says.hm) I.kIn J ans (by rintro ⟨⟩) fun tk => ?_
  exact ⟨.bl b, H, I.tok tk, rfl, want⟩
/-- e.f, e being handled -/
theorem pe_xfX {C : Addr} {e : Expr} {te : TE} {pos : Pos} {n : Str} (T : XfC X.K C) (hno : PySem.W.findIn X.K (.ref C) n = some none) (hz : HotZ X p c d) (he : PE X e te) (hb : attributeBase e n X.env (eval e X.env) = eval e X.env := by rfl) :
    PE X (.Attribute e n pos) (tXf p.1 c d C n te) := by
  constructor
  intro pins s σ H Q I ask
  refine attr_of hb (thn (he.run pins s σ H _ I ask) ?_)
  rintro u0 s1 ⟨_, H1, I1, ru0, rfl, rfl, dd, fs, v, rfl, at_, found, want⟩
  obtain rfl : u0 = .ref p.1 := ru0
  obtain ⟨o, get, says⟩ := dict_says I1 at_
  obtain ⟨w, look, rel⟩ := says n
  rw [found] at rel
  obtain ⟨u, rfl, ru⟩ := RelO.some_of rel
  exact HandSPX.exc_get I1.kIn (hz.inst I1 (od := some o) get) T.ga T.gg T.exC (PySem.W.findObj_own T.hdC hno rfl look) (handed_of ru) ⟨v, H1, I1.tok _, ru, want⟩
end
end Am

/-! defs that are called, and loops that are gone through, while an exception is handled -/
namespace Am
open PySem PyProof.Rows L2
open He (ga ma)
/-- a promise that speaks of the handled exception: its address, class, dict -/
abbrev SpX := Addr → Value → Option Addr → Sp
structure FnX (P : Program) (w : World) (K : PySem.W.Frag) (mg : Str → Option Value) (base : Heap) (CX : CXT) (k : Nat) (f : Addr) (fd : FuncData) (ps : List Str) (sp : SpX) : Prop where
  len : ∀ a c d vs H Q E, sp a c d vs H Q E → vs.length = ps.length
  run : ∀ (p : Addr × Obj) (c : Value) (d : Option Addr) (A : Around) (outer : List Env) (s : Shared) (H : Hp) (args : Args) (us : List Value) (vs : List V) (Q : VK) (E : XK),
    L2H.Hot1 A p → L2N.Zn c d p.2 → L2H.PinOk outer H s p → L2H.RoomH k A → Env0 P w K mg base A outer s H → BindsTo s fd args (ps.zip us) → Vals vs us → sp p.1 c d vs H Q E → codeAny (model P w) A (.call (.ref f) args) (CR CX outer P w H s Q E) s
section
variable {P : Program} {w : World} {K : PySem.W.Frag} {mg : Str → Option Value} {base : Heap} {CX : CXT} {k : Nat} {f : Addr} {x qual : Str} {params : Arguments} {body : List Stmt} {scope : Scope} {dvs : List V} {kws : List (Str × V)} {fd : FuncData} {N ps : List Str}
variable {A : Around} {outer : List Env} {s : Shared} {H : Hp} {E : XK} {p : Addr × Obj} {cdv : Value}
/-- where a body has been left, the call has -/
theorem left_call {Q : VK} {fl : Flow} {s' : Shared} (h : SP (L2H.cxH CX P w K mg base N qual scope f cdv A outer s H E p) [] { nx := fun _ H' => Q .non H', rt := Q } fl s') :
    match fl with
    | .ret u => CE outer P w H s Q u s'
    | .next => CE outer P w H s Q .none s'
    | _ => False := by
  have of : ∀ {σ' H' v u}, Inv (L2H.cxH CX P w K mg base N qual scope f cdv A outer s H E p) [] σ' H' s' → RelV v u → Q v H' → CE outer P w H s Q u s' :=
    fun J r q => ⟨_, _, J.os, J.bare, J.base, J.hok, r, q⟩
  cases fl with
  | ret u => exact let ⟨_, _, _, J, r, q⟩ := h; of J r q
  | next => exact let ⟨_, _, J, q⟩ := h; of J (v := .non) rfl q
  | brk => exact h.elim fun _ h => h.elim fun _ h => h.2
  | cont => exact h.elim fun _ h => h.elim fun _ h => h.2
/-- such a def, from its body -/
theorem okX {sp : SpX} (F : FunD K x qual params body scope dvs kws f fd) (S : FnScope N ps scope) (len : ∀ a c d vs H Q E, sp a c d vs H Q E → vs.length = ps.length)
    (hbody : ∀ (cdv : Value) (A : Around) (outer : List Env) (s : Shared) (H : Hp) (vs : List V) (Q : VK) (E : XK) (p : Addr × Obj) (c : Value) (d : Option Addr), L2H.Hot1 A p → L2N.Zn c d p.2 → L2H.RoomH k (A.deeper (envOfC qual scope s.heap.objs.size f cdv)) → sp p.1 c d vs H Q E →
      ∃ t, PSs (L2H.cxH CX P w K mg base N qual scope f cdv A outer s H E p) body t ∧ t { nx := fun _ H' => Q .non H', rt := Q } (L2.start N vs) H) : FnX P w K mg base CX (k + 1) f fd ps sp := by
  rcases F.ex with ⟨_, _, _, _, _, _, _, cdv, _, _, rfl, there, code, -⟩
  constructor
  · exact len
  intro p c d A outer s H args us vs Q E hot zn pin room e0 binds rel want
  have up := fun b o e => (e0.bs b o e).1
  have parts : ∀ y ∈ ps.zip us, scope.names.lookup y.1 = some .local ∨ (scope.names.lookup y.1 = some .cell ∧ ((cellsFrom (s.heap.objs.size + 1) scope.names []).lookup y.1).isSome = true) :=
    fun y hy => (S.par y.1 (List.of_mem_zip hy).1).imp_right fun z => ⟨z, PySem.W.cellsFrom_some _ _ _ (.inl z)⟩
  have known := e0.mod.kin.keeps up
  refine codeAny_call_function room.depth (known f _ there) rfl S.co S.gen rfl (PySem.W.codeRec_of known code) (binds _ _ _ _ ?_)
  refine wpAny_newFunctionEnv_cells S.kind parts ?_
  rintro env rfl s1 entered
  constructor
  · exact (e0.mod.nolimit.keeps up).keeps entered.toInCall.keep
  obtain ⟨t, ht, ask⟩ := hbody cdv A outer s H vs Q E p c d hot zn (room.deeper _) want
  have I := L2H.inv_startH (CX := CX) (w := w) (E := E) S pin e0 (len _ _ _ _ _ _ _ want) rel entered
  refine codeAny_func (wpAny_mono (ht.run [] s1 _ H _ I ask) (fun fl s2 h => ?_) fun _ _ h => h)
  have z := left_call h
  cases fl <;> first | exact z | exact z.elim
theorem okH {sp : Sp} (F : FunD K x qual params body scope dvs kws f fd) (S : FnScope N ps scope) (len : ∀ vs H Q E, sp vs H Q E → vs.length = ps.length)
    (hbody : ∀ (cdv : Value) (A : Around) (outer : List Env) (s : Shared) (H : Hp) (vs : List V) (Q : VK) (E : XK) (p : Addr × Obj), L2H.Hot1 A p → L2H.RoomH k (A.deeper (envOfC qual scope s.heap.objs.size f cdv)) → sp vs H Q E →
      ∃ t, PSs (L2H.cxH CX P w K mg base N qual scope f cdv A outer s H E p) body t ∧ t { nx := fun _ H' => Q .non H', rt := Q } (L2.start N vs) H) : L2H.FnH P w K mg base CX (k + 1) f fd ps sp := by
  rcases F.ex with ⟨_, _, _, _, _, _, _, cdv, _, _, rfl, there, code, -⟩
  exact L2H.fn_ofH there code S len (hbody cdv)
theorem hotC_cxH (hot : L2H.Hot1 A p) : L2H.HotC (L2H.cxH CX P w K mg base N qual scope f cdv A outer s H E p) := ⟨p, ⟨hot.1, hot.2⟩, List.mem_singleton.mpr rfl⟩
theorem hotZ_cxH {c : Value} {d : Option Addr} (hot : L2H.Hot1 A p) (z : L2N.Zn c d p.2) : HotZ (L2H.cxH CX P w K mg base N qual scope f cdv A outer s H E p) p c d := ⟨⟨hot.1, hot.2⟩, List.mem_singleton.mpr rfl, z⟩
theorem RoomH.units {A : Around} (r : L2H.RoomH k A) : A.units + 64 < cLine := by have := r.un; omega
end
section
variable {X : Cx} {k : Nat} {f : Addr} {fd : FuncData} {ps : List Str} {x : Str} {q pos : Pos} {e : Expr} {es : List Expr} {t : TA}
theorem pass0At (σ : L2.St) : PassesAt (fun _ _ _ _ _ _ => False : CXT) X σ (fun _ _ _ => False) := fun _ _ _ _ _ _ z => z.elim
/-- the call of a def, an exception being handled -/
theorem pe_callH0 {sp : Sp} (F : L2H.FnH X.prog X.w X.K X.mg X.base (fun _ _ _ _ _ _ => False) k f fd ps sp) (hr : L2H.RoomH k X.A) (hc : L2H.HotC X) (hg : Gl X x) (hm : X.mg x = some (.ref f)) (hk : PySem.W.keepIn X.K (.ref f) = true) (hb : Binds X.K fd ps [])
    (ha : PA X (e :: es) t) (hdb : Usual x := by decide) (he : NoStar X e es := by rfl) (hpl : NoneOn X es pos := by rfl) : PE X (.Call (.Name x q) (e :: es) [] pos) (tCall sp [] (fun _ _ _ => False) t) := by
  have r := L2H.pe_callH (q := q) (E := fun _ _ _ _ => False) F hr hc hg hm hk hb (fun σ => pass0At σ) ha hdb he hpl
  refine ⟨fun pins s σ H Q I ask => r.run pins s σ H Q I ?_⟩
  have same : ∀ vs : List V, vs ++ [] = vs := List.append_nil
  simp only [tCall, same] at ask
  exact ask
/-- the call of a def that is told of the handled exception -/
def tCallX (sp : SpX) (a : Addr) (c : Value) (d : Option Addr) (t : TA) : TE := fun σ H Q => t σ H fun vs H1 => sp a c d vs H1 Q fun _ _ _ => False
theorem run_callX {sp : SpX} {p : Addr × Obj} {c : Value} {d : Option Addr} {pins : List (Addr × Obj)} {σ : L2.St} {H : Hp} {s : Shared} {Q : VK} {us : List Value} {vs : List V} (F : FnX X.prog X.w X.K X.mg X.base (fun _ _ _ _ _ _ => False) k f fd ps sp)
    (room : L2H.RoomH k X.A) (hz : HotZ X p c d) (hb : Binds X.K fd ps []) (I : Inv X pins σ H s) (rel : Vals vs us) (want : sp p.1 c d vs H Q fun _ _ _ => False) : wpAny (model X.prog X.w) X.A (call (.ref f) us) (EP X pins σ Q) X.xe s := by
  have many : (us ++ []).length = ps.length := by rw [List.append_nil, ← rel.length, F.len _ _ _ _ _ _ _ want]
  have binds : BindsTo s fd ⟨us, []⟩ (ps.zip us) := by
    have z := hb s us I.kIn many
    rwa [List.append_nil] at z
  obtain ⟨there, free, apart, nofs, nocell⟩ := I.pin p (List.mem_append_left _ hz.mem)
  have out : p.1 ∉ frs X.stack := fun z => (List.mem_cons.mp (I.stkSub p.1 z)).elim apart nofs
  refine wpAny_call (codeAny_mono (F.run p c d X.A X.stack s H ⟨us, []⟩ us vs Q _ hz.hot hz.zn ⟨there, free, out, nocell⟩ room I.env0 binds rel want) ?_)
  rintro (_ | (_ | _ | _ | u)) s' got
  all_goals first | exact got.elim | exact I.after got
theorem pe_callX {sp : SpX} {p : Addr × Obj} {c : Value} {d : Option Addr} (F : FnX X.prog X.w X.K X.mg X.base (fun _ _ _ _ _ _ => False) k f fd ps sp) (hr : L2H.RoomH k X.A) (hz : HotZ X p c d) (hg : Gl X x) (hm : X.mg x = some (.ref f)) (hk : PySem.W.keepIn X.K (.ref f) = true) (hb : Binds X.K fd ps [])
    (ha : PA X (e :: es) t) (hdb : Usual x := by decide) (he : NoStar X e es := by rfl) (hpl : NoneOn X es pos := by rfl) : PE X (.Call (.Name x q) (e :: es) [] pos) (tCallX sp p.1 c d t) :=
  ⟨fun pins s σ H Q I ask => call_glob I hg hm hk ha hdb he hpl ask fun us s1 vs H1 I1 rel want => run_callX F hr hz hb I1 rel want⟩
end

/-! ### for over a list -/
theorem turn_listH {P : Program} {w : World} {K : PySem.W.Frag} {tg : Expr} (l it : Addr) : L2H.TurnH P w K tg (Itl K l) [it] it (fun i h => h.IsListIter it l i) where
  mem := List.mem_singleton.mpr rfl
  obj := (turn_list (P := P) (w := w) (K := K) (tg := tg) l it).obj
  keep := (turn_list (P := P) (w := w) (K := K) (tg := tg) l it).keep
  self := (turn_list (P := P) (w := w) (K := K) (tg := tg) l it).self
  item := by
    rintro X rfl rfl rfl - i pins s σ H E I own at_ ⟨xs, x, held, hx⟩
    obtain ⟨items, vals, isl, -⟩ := I.list held
    obtain ⟨u, hu, rel⟩ := vals.get hx
    obtain ⟨free, nl, -, fresh, nc, np⟩ := own it (List.mem_singleton.mpr rfl)
    refine wpAny_pyNext_list_item at_ isl.isList (List.getElem?_toArray.trans hu) fun h nx same => ⟨u, rfl, ?_⟩
    obtain ⟨o, get, cls, data⟩ := id nx
    refine go_of (s := { s with heap := h }) get cls data (by decide) ⟨x, H, I.turned (t' := s.toks) (fun b _ hb => (same.2 b hb).trans) free nl fresh nc np, rel, ⟨rfl, fun ys hy => ?_⟩, nx, fun b hb => (own b hb).1⟩
    exact I.list_inj hy held ▸ hx
  done := by
    rintro X rfl rfl rfl ⟨⟨x1, ox⟩, ⟨hh, fx, dx, cx⟩, here⟩ i pins s σ H E I own at_ ⟨xs, held, le⟩
    obtain ⟨items, vals, isl, -⟩ := I.list held
    obtain ⟨free, nl, -, fresh, nc, np⟩ := own it (List.mem_singleton.mpr rfl)
    have mem := List.mem_append_left pins here
    have no : items.toArray[i]? = none := by rw [List.getElem?_toArray, List.getElem?_eq_none_iff, ← vals.length]; exact le
    exact list_end_hot ⟨hh, ox, fx, (I.pin _ mem).1, dx, cx⟩ (np _ mem) at_ isl.isList no fun h ext => ⟨rfl, I.turned (t' := s.toks) ext free nl fresh nc np⟩
theorem pi_listH {X : Cx} {tg l : Expr} {tl : TE} (hl : PE X l tl) : L2H.PIH X tg l (iList X.K tl) := by
  constructor
  intro pins s σ H R I ask
  refine thn (hl.run pins s σ H _ I ask) ?_
  rintro _ s1 ⟨_, H1, I1, rel, a, rfl, ⟨xs, held⟩, want⟩
  cases rel
  obtain ⟨items, -, isl, -⟩ := I1.list held
  have new := Nat.le_refl s1.heap.objs.size
  have own := I1.fpOk new (I1.hok.fresh new)
  refine wpAny_pyIter_list isl.isList ⟨_, [s1.heap.objs.size], _, _, H1, rfl, I1.kept (t' := s1.toks) fun _ _ => Heap.get?_push_of_some _, turn_listH a _, ⟨_, Heap.get?_push_size _ rfl, rfl, rfl⟩, ?_, want⟩
  exact fun b hb => List.mem_singleton.mp hb ▸ own
end Am

/-! the answers: classes, their making, their fields -/
namespace Am
open PySem PySem.Spec PyProof.Rows L2
section
variable {X : Cx}
/-- range(n), as a value -/
def rRange1 : List V → Hp → VK → Prop := fun vs H Q => ∃ n, vs = [V.int n] ∧ ∀ p, H p = none → Q (.ref p) (upd H p (.rng 0 n))
theorem cr_range1 : CallR X (.type "range") rRange1 := by
  rintro pins s σ H _ us Q I r ⟨n, rfl, q⟩
  rw [show us = [us.getD 0 .none] from by cases r with | cons _ t => cases t; rfl] at *
  cases r with
  | cons ri _ =>
    obtain ⟨t, rt⟩ := ri
    rw [rt]
    refine call_range_1 ⟨.ref s.heap.objs.size, upd H s.heap.objs.size (.rng 0 n), I.laid (t' := s.toks + 1 + 1) (fun b o e => Heap.get?_push_of_some _ e) (Nat.le_refl _) ?_, rfl, q _ (I.hok.fresh (Nat.le_refl _))⟩
    exact ⟨s.toks, t, s.toks + 1, Heap.get?_push_size _ rfl⟩
/-- two readings of one expression: one of them is known to do -/
def tEither (t1 t2 : TE) : TE := fun σ H Q => t1 σ H Q ∨ t2 σ H Q
theorem pe_either {e : Expr} {t1 t2 : TE} (h1 : PE X e t1) (h2 : PE X e t2) : PE X e (tEither t1 t2) :=
  ⟨fun pins s σ H Q I h => h.elim (fun q => h1.run pins s σ H Q I q) fun q => h2.run pins s σ H Q I q⟩
end
end Am
namespace Am
open PySem L2 Evl
open He (ga ma)
abbrev rInRng : R2 := fun x y H Q => ∃ i a lo hi, x = V.int i ∧ y = V.ref a ∧ H a = some (.rng lo hi) ∧ Q (.bl (decide (lo ≤ i ∧ i < hi))) H
/-- the classes of answers -/
inductive Kd where
  | heights | ring | follows | free | fixed | loose | needless | needed
  deriving DecidableEq
def Kd.nm : Kd → Str
  | .heights => "Heights"
  | .ring => "Ring"
  | .follows => "Follows"
  | .free => "Free"
  | .fixed => "Fixed"
  | .loose => "Loose"
  | .needless => "Needless"
  | .needed => "Needed"
def Kd.fs : Kd → List Str
  | .heights => ["heights"]
  | .ring => ["chain"]
  | .follows => ["chain", "heights"]
  | .free => ["places"]
  | .fixed => ["there", "back"]
  | .loose => ["first", "second"]
  | .needless => ["chain"]
  | .needed => ["heights"]
abbrev kds : List Kd := [.heights, .ring, .follows, .free, .fixed, .loose, .needless, .needed]
structure KdF (K : PySem.W.Frag) (ks : List Kd) (k : Kd) : Prop where
  cl : Cls K (ga K k.nm)
  ha : PySem.W.findIn K (.ref (ga K k.nm)) "__class__" = some (some (.builtin "object.__class__"))
  got : PySem.W.specialIn K (.builtin "object.__class__") "__get__" = some (some (.builtin "getset_descriptor.__get__"))
  tk : PySem.W.takesIn K (.builtin "object.__class__") = some true
  hm : PySem.W.mroIn K (ga K k.nm) (.type "object") = some true
  na : ∀ f ∈ k.fs, NoAttr K (ga K k.nm) f
  an : PySem.W.kitOne K (.ref (ga K k.nm)) (.ref (ga K "Answer")) = some true
  kit : ∀ d ∈ ks, PySem.W.kitOne K (.ref (ga K k.nm)) (.ref (ga K d.nm)) = some (decide (k = d))
def kdB (K : PySem.W.Frag) (ks : List Kd) (k : Kd) : Bool :=
  (He.Fa.cls k.nm).ok K && (He.eqO (PySem.W.findIn K (.ref (ga K k.nm)) "__class__") (some (some (.builtin "object.__class__"))) && (He.eqO (PySem.W.specialIn K (.builtin "object.__class__") "__get__") (some (some (.builtin "getset_descriptor.__get__"))) &&
    (decide (PySem.W.takesIn K (.builtin "object.__class__") = some true) && (decide (PySem.W.mroIn K (ga K k.nm) (.type "object") = some true) && (k.fs.all (fun f => He.eqO (PySem.W.findIn K (.ref (ga K k.nm)) f) (some none)) &&
      (decide (PySem.W.kitOne K (.ref (ga K k.nm)) (.ref (ga K "Answer")) = some true) && ks.all fun d => decide (PySem.W.kitOne K (.ref (ga K k.nm)) (.ref (ga K d.nm)) = some (decide (k = d)))))))))
theorem kdB_ok {K : PySem.W.Frag} {ks : List Kd} {k : Kd} (h : kdB K ks k = true) : KdF K ks k := by
  unfold kdB at h
  simp only [Bool.and_eq_true_iff] at h
  obtain ⟨h1, h2, h3, h4, h5, h6, h7, h8⟩ := h
  exact ⟨He.cls_ok h1, He.eqO_ok h2, He.eqO_ok h3, of_decide_eq_true h4, of_decide_eq_true h5, fun f hf => He.eqO_ok (List.all_eq_true.mp h6 f hf), of_decide_eq_true h7, fun d hd => of_decide_eq_true (List.all_eq_true.mp h8 d hd)⟩
/-- all these classes -/
def AnsF (K : PySem.W.Frag) (ks : List Kd) : Prop := ∀ k ∈ ks, KdF K ks k
def ansB (ks : List Kd) (K : PySem.W.Frag) : Bool := ks.all (kdB K ks)
theorem ansB_ok {K : PySem.W.Frag} {ks : List Kd} (h : ansB ks K = true) : AnsF K ks := fun k hk => kdB_ok (List.all_eq_true.mp h k hk)

/-- an answer with one list, with two -/
def An1 (K : PySem.W.Frag) (H : Hp) (x : Addr) (k : Kd) (f : Str) (l : Addr) : Prop := ∃ dx, H x = some (.ins (ga K k.nm) dx [(f, .ref l)])
def An2 (K : PySem.W.Frag) (H : Hp) (x : Addr) (k : Kd) (f g : Str) (l m : Addr) : Prop := ∃ dx, H x = some (.ins (ga K k.nm) dx [(f, .ref l), (g, .ref m)])
/-- a value, what stood stands: P of the heap ahead, the value, the heap after -/
def EvP (te : TE) (σ : L2.St) (H : Hp) (P : Hp → V → Hp → Prop) : Prop := ∀ H1, Ex H H1 → ∀ Q : VK, (∀ v H2, Ex H1 H2 → P H1 v H2 → Q v H2) → te σ H1 Q
section
variable {K : PySem.W.Frag} {vs : List V} {H H' : Hp} {Q : VK} {E : XK} {σ : L2.St} {ta tb tc td te : TE} {tz tu : TS} {D : Ends} {ts : TA} {ks : List Kd} {k : Kd} {x l m : Addr} {f g : Str} {P : Hp → V → Hp → Prop}
theorem An1.mono (e : Ex H H') (h : An1 K H x k f l) : An1 K H' x k f l := by obtain ⟨dx, h⟩ := h; exact ⟨dx, e _ _ h⟩
theorem An2.mono (e : Ex H H') (h : An2 K H x k f g l m) : An2 K H' x k f g l m := by obtain ⟨dx, h⟩ := h; exact ⟨dx, e _ _ h⟩
theorem q_asgP {i : Nat} (h : EvP te σ H P) (kk : ∀ v H1, Ex H H1 → P H v H1 → tz D (σ.set i (some v)) H1) : tSeq (tAsg te (gName i)) tz D σ H := raw_q_asg (h H (Ex.refl H) _ kk)
theorem s_retP (h : EvP te σ H P) (kk : ∀ v H1, Ex H H1 → P H v H1 → D.rt v H1) : tRet te D σ H := h H (Ex.refl H) _ kk
theorem EvP.imp {P' : Hp → V → Hp → Prop} (h : EvP te σ H P) (i : ∀ H1 v H2, Ex H H1 → Ex H1 H2 → P H1 v H2 → P' H1 v H2) : EvP te σ H P' := fun H1 e Q q => h H1 e Q fun v H2 e2 p => q v H2 e2 (i H1 v H2 e e2 p)
/-- a field -/
theorem ev_fld {C dx : Addr} {fs : List (Str × V)} {v : V} (ha : Ev ta σ H (.ref x)) (hx : H x = some (.ins C dx fs)) (cl : Cls K C) (na : NoAttr K C f) (hl : fs.lookup f = some v) : Ev (tFld K ta f) σ H v := fun H1 e Q q =>
  ha H1 e _ fun H2 e2 => ⟨x, C, dx, fs, v, rfl, (e.trans e2) _ _ hx, cl, na, hl, q H2 e2⟩
theorem ev_f1 {v : V} (F : KdF K ks k) (ha : Ev ta σ H (.ref x)) (h : An1 K H x k f l) (hf : f ∈ k.fs) : Ev (tFld K ta f) σ H (.ref l) := by
  obtain ⟨dx, h⟩ := h
  exact ev_fld ha h F.cl (F.na f hf) (by simp [List.lookup])
theorem ty_1 (F : KdF K ks k) (h : An1 K H x k f l) : TyX K H (.ref x) (.ref (ga K k.nm)) := by
  obtain ⟨dx, h⟩ := h
  exact .base (.ins h F.cl F.ha F.got F.tk F.hm)
theorem ty_2 (F : KdF K ks k) (h : An2 K H x k f g l m) : TyX K H (.ref x) (.ref (ga K k.nm)) := by
  obtain ⟨dx, h⟩ := h
  exact .base (.ins h F.cl F.ha F.got F.tk F.hm)
/-- isinstance(x, an own class) -/
theorem ev_isC {C D : Addr} {b : Bool} (ha : Ev ta σ H (.ref x)) (ty : TyX K H (.ref x) (.ref C)) (h : PySem.W.kitOne K (.ref C) (.ref D) = some b) : Ev (tCB (rIsi K) (tCons ta (tCons (tC (.ref D)) tNil))) σ H (.bl b) :=
  ev_cb (ea2 ha ev_c) fun H1 e Q q => ⟨.ref x, .ref D, .ref C, .ref D, b, rfl, .own D, ty_mono e ty, h, q H1 (Ex.refl H1)⟩
theorem ev_left {t1 t2 : TE} {v : V} (h : Ev t1 σ H v) : Ev (tEither t1 t2) σ H v := fun H1 e Q q => .inl (h H1 e Q q)
theorem ev_right {t1 t2 : TE} {v : V} (h : Ev t2 σ H v) : Ev (tEither t1 t2) σ H v := fun H1 e Q q => .inr (h H1 e Q q)
/-- i in range(n) -/
theorem ev_inRng {i n : Int} (ha : Ev ta σ H (.int i)) (hb : Ev tb σ H (.int n)) : Ev (tOp rInRng ta (tCB rRange1 (tCons tb tNil))) σ H (.bl (decide (0 ≤ i ∧ i < n))) := fun H1 e Q q =>
  ha H1 e _ fun H2 e2 => hb H2 (e.trans e2) _ fun H3 e3 => ⟨n, rfl, fun p hp => ⟨i, p, 0, n, rfl, rfl, upd_same, q _ ((e2.trans e3).trans (Ex.new hp))⟩⟩

/-! ### making -/
/-- self.f = list(arg) -/
def sp_init1 (K : PySem.W.Frag) (k : Kd) (f : Str) : Sp := fun vs H Q _ => ∃ (x dx c : Addr) (xs : List V), vs = [.ref x, .ref c] ∧ H x = some (.ins (ga K k.nm) dx []) ∧ SqL K H c xs ∧
  ∀ l H2, H l = none → Ex (less H x) H2 → H2 l = some (.lst xs) → H2 x = some (.ins (ga K k.nm) dx [(f, .ref l)]) → Q .non H2
/-- self.f = list(arg); self.g = list(other) -/
def sp_init2 (K : PySem.W.Frag) (k : Kd) (f g : Str) : Sp := fun vs H Q _ => ∃ (x dx c d : Addr) (xs ys : List V), vs = [.ref x, .ref c, .ref d] ∧ H x = some (.ins (ga K k.nm) dx []) ∧ SqL K H c xs ∧ SqL K H d ys ∧
  ∀ l m H2, H l = none → H m = none → l ≠ m → Ex (less H x) H2 → H2 l = some (.lst xs) → H2 m = some (.lst ys) → H2 x = some (.ins (ga K k.nm) dx [(f, .ref l), (g, .ref m)]) → Q .non H2
def t_init1 (K : PySem.W.Frag) (f : Str) : TS := sFld K (tVar 0) (tCB (rListS K) (tCons (tVar 1) (tNil))) f
def t_init2 (K : PySem.W.Frag) (f g : Str) : TS := tSeq (sFld K (tVar 0) (tCB (rListS K) (tCons (tVar 1) (tNil))) f) (sFld K (tVar 0) (tCB (rListS K) (tCons (tVar 2) (tNil))) g)
theorem s_fld {i : Nat} {C dx : Addr} {fs : List (Str × V)} {c : Addr} {xs : List V} (hi : σ[i]? = some (some (V.ref x))) (hx : H x = some (.ins C dx fs)) (cl : Cls K C) (na : NoAttr K C f) (hz : fs.length < 1000) (ha : Ev ta σ H (.ref c)) (hc : SqL K H c xs)
    (kk : ∀ l H2, H l = none → Ex (less H x) H2 → H2 l = some (.lst xs) → H2 x = some (.ins C dx (putF f (.ref l) fs)) → D.nx σ H2) : sFld K (tVar i) (tCB (rListS K) (tCons ta tNil)) f D σ H :=
  (el_list ha hc) H (Ex.refl H) _ fun l H1 hl e1 h1 => by
    refine (ev_var hi : Ev (tVar i) σ H1 _) H1 (Ex.refl H1) _ fun H2 e2 => ⟨x, C, dx, fs, rfl, (e1.trans e2) _ _ hx, cl, na, hz, ?_⟩
    have ne : l ≠ x := fun z => by rw [z, hx] at hl; cases hl
    exact kk l _ hl (Ex.mut (ex_less.trans (e1.trans e2)) less_at) (by rw [upd_ne ne]; exact e2 _ _ h1) upd_same
theorem q_fld {i : Nat} {C dx : Addr} {fs : List (Str × V)} {c : Addr} {xs : List V} (hi : σ[i]? = some (some (V.ref x))) (hx : H x = some (.ins C dx fs)) (cl : Cls K C) (na : NoAttr K C f) (hz : fs.length < 1000) (ha : Ev ta σ H (.ref c)) (hc : SqL K H c xs)
    (kk : ∀ l H2, H l = none → Ex (less H x) H2 → H2 l = some (.lst xs) → H2 x = some (.ins C dx (putF f (.ref l) fs)) → tz D σ H2) : tSeq (sFld K (tVar i) (tCB (rListS K) (tCons ta tNil)) f) tz D σ H := s_fld (D := { D with nx := tz D }) hi hx cl na hz ha hc kk
theorem sq_less {c : Addr} {xs : List V} {C dx : Addr} {fs : List (Str × V)} (h : SqL K H c xs) (hx : H x = some (.ins C dx fs)) : SqL K (less H x) c xs := by
  rcases h with (h | ⟨b, h⟩) | h
  · exact .inl (.inl (by rw [less_ne (ne_of h hx fun z => nomatch z)]; exact h))
  · exact .inl (.inr ⟨b, by rw [less_ne (ne_of h hx fun z => nomatch z)]; exact h⟩)
  · exact .inr h
theorem pure_init1 (F : KdF K ks k) (hf : f ∈ k.fs) {N : List Str} (hN : N.length = 2) (h : sp_init1 K k f vs H Q E) : t_init1 K f (Bd Q) (L2.start N vs) H := by
  obtain ⟨x, dx, c, xs, rfl, hx, hc, q⟩ := h
  have hst : L2.start N [V.ref x, V.ref c] = [some (.ref x), some (.ref c)] := by
    unfold L2.start
    rw [hN]
    rfl
  rw [hst]
  exact s_fld rfl hx F.cl (F.na f hf) (by decide) (ev_var rfl) hc fun l H2 hl e h2 h3 => q l H2 hl e h2 h3
theorem pure_init2 (F : KdF K ks k) (hf : f ∈ k.fs) (hg : g ∈ k.fs) (hne : ¬ f = g) {N : List Str} (hN : N.length = 3) (h : sp_init2 K k f g vs H Q E) : t_init2 K f g (Bd Q) (L2.start N vs) H := by
  obtain ⟨x, dx, c, d, xs, ys, rfl, hx, hc, hd, q⟩ := h
  have hst : L2.start N [V.ref x, V.ref c, V.ref d] = [some (.ref x), some (.ref c), some (.ref d)] := by
    unfold L2.start
    rw [hN]
    rfl
  rw [hst]
  refine q_fld rfl hx F.cl (F.na f hf) (by decide) (ev_var rfl) hc fun l H2 hl e h2 h3 => ?_
  refine s_fld rfl h3 F.cl (F.na g hg) (by show (1 : Nat) < 1000; decide) (ev_var rfl) (ex_l e (sq_less hd hx)) fun m H3 hm e3 h4 h5 => ?_
  have lx : l ≠ x := fun z => by rw [z, hx] at hl; cases hl
  have lm : l ≠ m := fun z => by rw [← z, h2] at hm; cases hm
  refine q l m H3 hl ?_ lm ((ex_less_old e less_at).trans e3) (e3 _ _ (by rw [less_ne lx]; exact h2)) h4 ?_
  · cases hH : H m with
    | none => rfl
    | some o =>
      by_cases mx : m = x
      · rw [mx, h3] at hm; cases hm
      · have := e m o (by rw [less_ne mx]; exact hH)
        rw [hm] at this
        cases this
  · have : putF g (V.ref m) (putF f (V.ref l) []) = [(f, .ref l), (g, .ref m)] := by
      simp [putF, hne]
    rw [← this]
    exact h5
/-- C(a list) -/
theorem ep_make1 {c : Addr} {xs : List V} (ha : Ev ta σ H (.ref c)) (hc : SqL K H c xs) : EvP (tMake (ga K k.nm) (sp_init1 K k f) [] E (tCons ta tNil)) σ H fun H1 v H2 => ∃ x l, v = .ref x ∧ An1 K H2 x k f l ∧ H1 x = none ∧ H1 l = none ∧ l ≠ x ∧ H2 l = some (.lst xs) := fun H1 e Q q =>
  (ea_cons ha ea_nil) H1 e _ fun H2 e2 x dx hx hdx hne => by
    have n1 : upd H2 dx (.own x) x = none := by rw [upd_ne (Ne.symm hne)]; exact hx
    have EX : Ex H2 (upd (upd H2 dx (.own x)) x (.ins (ga K k.nm) dx [])) := (Ex.new hdx).trans (Ex.new n1)
    refine ⟨x, dx, c, xs, rfl, upd_same, ex_l ((e.trans e2).trans EX) hc, fun l H3 hl e3 h3 h4 => ⟨rfl, ?_⟩⟩
    have E3 : Ex H2 H3 := (ex_less_old EX hx).trans e3
    refine q _ H3 (e2.trans E3) ⟨x, l, rfl, ⟨dx, h4⟩, fresh_back e2 hx, fresh_back e2 (fresh_back EX hl), fun z => ?_, h3⟩
    rw [z, upd_same] at hl
    cases hl
/-- C(a list, a list) -/
theorem ep_make2 {c d : Addr} {xs ys : List V} (ha : Ev ta σ H (.ref c)) (hc : SqL K H c xs) (hb : Ev tb σ H (.ref d)) (hd : SqL K H d ys) : EvP (tMake (ga K k.nm) (sp_init2 K k f g) [] E (tCons ta (tCons tb tNil))) σ H fun H1 v H2 => ∃ x l m, v = .ref x ∧ An2 K H2 x k f g l m ∧ H1 x = none ∧ H1 l = none ∧ H1 m = none ∧ l ≠ x ∧ m ≠ x ∧ l ≠ m ∧ H2 l = some (.lst xs) ∧ H2 m = some (.lst ys) := fun H1 e Q q =>
  (ea2 ha hb) H1 e _ fun H2 e2 x dx hx hdx hne => by
    have n1 : upd H2 dx (.own x) x = none := by rw [upd_ne (Ne.symm hne)]; exact hx
    have EX : Ex H2 (upd (upd H2 dx (.own x)) x (.ins (ga K k.nm) dx [])) := (Ex.new hdx).trans (Ex.new n1)
    refine ⟨x, dx, c, d, xs, ys, rfl, upd_same, ex_l ((e.trans e2).trans EX) hc, ex_l ((e.trans e2).trans EX) hd, fun l m H3 hl hm hlm e3 h3 h4 h5 => ⟨rfl, ?_⟩⟩
    have E3 : Ex H2 H3 := (ex_less_old EX hx).trans e3
    refine q _ H3 (e2.trans E3) ⟨x, l, m, rfl, ⟨dx, h5⟩, fresh_back e2 hx, fresh_back e2 (fresh_back EX hl), fresh_back e2 (fresh_back EX hm), fun z => ?_, fun z => ?_, hlm, h3, h4⟩
    · rw [z, upd_same] at hl
      cases hl
    · rw [z, upd_same] at hm
      cases hm
/-- C(what is just made), C(a list, what is just made) -/
theorem ep_make1L {xs : List V} (ha : EvL ta σ H xs) : EvP (tMake (ga K k.nm) (sp_init1 K k f) [] E (tCons ta tNil)) σ H fun H1 v H2 => ∃ x l, v = .ref x ∧ An1 K H2 x k f l ∧ H1 x = none ∧ H1 l = none ∧ l ≠ x ∧ H2 l = some (.lst xs) := fun H1 e Q q =>
  ha H1 e _ fun p H1' hp e1 hp1 => (ep_make1 (ta := fun _ H Q => Q (.ref p) H) (c := p) (xs := xs) (E := E) (σ := σ) (H := H1') (fun H2 e2 Q q => q H2 (Ex.refl H2)) (sq_of hp1)) H1' (Ex.refl H1') Q fun v H2 e2 ⟨x, l, ev, ha, hx, hl, r⟩ => q v H2 (e1.trans e2) ⟨x, l, ev, ha, fresh_back e1 hx, fresh_back e1 hl, r⟩
theorem ep_make2L {xs ys : List V} (ha : EvL ta σ H xs) (hb : EvL tb σ H ys) : EvP (tMake (ga K k.nm) (sp_init2 K k f g) [] E (tCons ta (tCons tb tNil))) σ H fun H1 v H2 => ∃ x l m, v = .ref x ∧ An2 K H2 x k f g l m ∧ H1 x = none ∧ H1 l = none ∧ H1 m = none ∧ l ≠ x ∧ m ≠ x ∧ l ≠ m ∧ H2 l = some (.lst xs) ∧ H2 m = some (.lst ys) := fun H1 e Q q =>
  ha H1 e _ fun p H2 hp e2 hp2 => hb H2 (e.trans e2) _ fun r H3 hr e3 hr3 =>
    (ep_make2 (ta := fun _ H Q => Q (.ref p) H) (tb := fun _ H Q => Q (.ref r) H) (c := p) (d := r) (xs := xs) (ys := ys) (E := E) (σ := σ) (H := H3) (fun H2 e2 Q q => q H2 (Ex.refl H2)) (sq_of (e3 _ _ hp2)) (fun H2 e2 Q q => q H2 (Ex.refl H2)) (sq_of hr3)) H3 (Ex.refl H3) Q fun v H4 e4 ⟨x, l, m, ev, ha, hx, hl, hm, rest⟩ =>
      q v H4 ((e2.trans e3).trans e4) ⟨x, l, m, ev, ha, fresh_back (e2.trans e3) hx, fresh_back (e2.trans e3) hl, fresh_back (e2.trans e3) hm, rest⟩
end
end Am

/-! Heights, Ring, heights -/
namespace Am
open PySem L2 Evl
open He (ga ma)
/-- there is a sum, and it is below 0 -/
def negO : Option Int → Bool
  | some t => decide (t < 0)
  | none => false
def ringAt (ss : List Say) (c : List Int) : Option Say → Bool
  | some s => negO (sumAlong ss c s.1 s.1)
  | none => false
theorem ring_val (ss : List Say) (a : Int) (r : List Int) : isRing ss (a :: r) = ringAt ss (a :: r) (sayAt ss a) := by
  show (match sayAt ss a with
    | some (l, _, _) => match sumAlong ss (a :: r) l l with
      | some t => decide (t < 0)
      | none => false
    | none => false) = _
  cases sayAt ss a with
  | none => rfl
  | some s =>
    obtain ⟨l, u, m⟩ := s
    show (match sumAlong ss (a :: r) l l with
      | some t => decide (t < 0)
      | none => false) = negO (sumAlong ss (a :: r) l l)
    cases sumAlong ss (a :: r) l l <;> rfl
def sp_Heights_init (K : PySem.W.Frag) : Sp := sp_init1 K .heights "heights"
def sp_Ring_init (K : PySem.W.Frag) : Sp := sp_init1 K .ring "chain"
def t_Heights_init (K : PySem.W.Frag) : TS := t_init1 K "heights"
def t_Ring_init (K : PySem.W.Frag) : TS := t_init1 K "chain"
def sp_Heights_shows (K : PySem.W.Frag) : Sp := Pur fun vs H z => ∃ (x a l : Addr) (n : Nat) (ss : List Say) (hs : List Int), vs = [.ref x, .int (n : Int), .ref a] ∧ An1 K H x .heights "heights" l ∧ Says K H a ss ∧ Ok n ss ∧ SqL K H l (iV hs) ∧ z = .bl (keepAll n ss hs)
def sp_Ring_shows (K : PySem.W.Frag) : Sp := Pur fun vs H z => ∃ (x a l : Addr) (n : V) (ss : List Say) (c : List Int), vs = [.ref x, n, .ref a] ∧ An1 K H x .ring "chain" l ∧ Says K H a ss ∧ SqL K H l (iV c) ∧ z = .bl (isRing ss c)
def sp__law_ring (K : PySem.W.Frag) : Sp := Pur fun vs H z => ∃ (a l : Addr) (ss : List Say) (c : List Int), vs = [.ref a, .ref l] ∧ Says K H a ss ∧ SqL K H l (iV c) ∧ z = .bl (isRing ss c)
/-- the heights, or a ring -/
def sp_heights (K : PySem.W.Frag) : Sp := fun vs H Q _ => ∃ (n : Nat) (a : Addr) (ss : List Say), vs = [.int (n : Int), .ref a] ∧ Says K H a ss ∧ Ok n ss ∧ 0 < n ∧ n ≤ 100 ∧
  (∀ (hs : List Int) x l H2, keepAll n ss hs = true → H x = none → H l = none → l ≠ x → Ex H H2 → An1 K H2 x .heights "heights" l → H2 l = some (.lst (iV hs)) → Q (.ref x) H2) ∧
  (∀ (c : List Int) x l H2, isRing ss c = true → c.length ≤ 100 → H x = none → H l = none → l ≠ x → Ex H H2 → An1 K H2 x .ring "chain" l → H2 l = some (.lst (iV c)) → Q (.ref x) H2)
def t_Heights_shows (K : PySem.W.Frag) : TS := tRet (tCall (sp_keep_all K) [] E0 (tCons (tVar 1) (tCons (tVar 2) (tCons (tFld K (tVar 0) "heights") (tNil)))))
def t_Ring_shows (K : PySem.W.Frag) : TS := tSeq (tIfS (tOr (tTest (tOp (rEqD K) (tFld K (tVar 0) "chain") (tLst (tNil)))) (tNot (tTest (tChain rLeI rLtI (tC (.int 0)) (tOp (rIxL K) (tFld K (tVar 0) "chain") (tC (.int 0))) (tCB (rLenS K) (tCons (tVar 2) (tNil))))))) (tRet (tC (.bl false))) (tNext)) (tSeq (tAsg (tOp (rIxT K) (tOp (rIxL K) (tVar 2) (tOp (rIxL K) (tFld K (tVar 0) "chain") (tC (.int 0)))) (tC (.int 0))) (gName 3)) (tSeq (tAsg (tCall (sp_sum_along K) [] E0 (tCons (tVar 2) (tCons (tFld K (tVar 0) "chain") (tCons (tVar 3) (tCons (tVar 3) (tNil)))))) (gName 4)) (tRet (tAndV (tOp rNotN0 (tVar 4) (tC .non)) (tOp rLtI (tVar 4) (tC (.int 0)))))))
def t_heights (K : PySem.W.Frag) : TS := tSeq (tDrop (tCall (sp_check_sayings K) [] E0 (tCons (tVar 0) (tCons (tVar 1) (tNil))))) (tSeq (tAsg (tCall (sp_from_all K) [] E0 (tCons (tVar 0) (tCons (tVar 1) (tNil)))) (gTup K 2 (gCons (gName 2) (gCons (gName 3) (gNil))))) (tSeq (tIfS (tTest (tOp (rNeD K) (tVar 3) (tLst (tNil)))) (tRet (tMake (ga K "Ring") (sp_Ring_init K) [] E0 (tCons (tVar 3) (tNil)))) (tNext)) (tRet (tMake (ga K "Heights") (sp_Heights_init K) [] E0 (tCons (tVar 2) (tNil))))))
def t__law_ring (K : PySem.W.Frag) : TS := tSeq (tIfS (tOr (tNot (tB (tCB (rIsi K) (tCons (tVar 1) (tCons ((tC (.ty "list"))) (tNil)))))) (tOr (tTest (tOp (rEqD K) (tVar 1) (tLst (tNil)))) (tNot (tTest (tOp rInRng (tOp (rIxL K) (tVar 1) (tC (.int 0))) (tCB rRange1 (tCons (tCB (rLenS K) (tCons (tVar 0) (tNil))) tNil))))))) (tRet (tC (.bl false))) (tNext)) (tSeq (tAsg (tCall (sp__law_sum K) [] E0 (tCons (tVar 0) (tCons (tVar 1) (tCons (tOp (rIxT K) (tOp (rIxL K) (tVar 0) (tOp (rIxL K) (tVar 1) (tC (.int 0)))) (tC (.int 0))) (tCons (tOp (rIxT K) (tOp (rIxL K) (tVar 0) (tOp (rIxL K) (tVar 1) (tC (.int 0)))) (tC (.int 0))) (tNil)))))) (gName 2)) (tRet (tAndV (tOp rNotN0 (tVar 2) (tC .non)) (tOp rLtI (tVar 2) (tC (.int 0))))))
section
variable {K : PySem.W.Frag} {vs : List V} {H H' : Hp} {Q : VK} {E : XK} {σ : L2.St} {ta tb tc td te : TE} {tz tu : TS} {D : Ends} {ts : TA} {ks : List Kd} {k : Kd} {x l m : Addr} {f g : Str} {P : Hp → V → Hp → Prop}
theorem pure_Heights_shows (F : KdF K ks .heights) (h : sp_Heights_shows K vs H Q E) : t_Heights_shows K (Bd Q) (L2.start ["self", "count", "sayings"] vs) H := by
  obtain ⟨z, ⟨x, a, l, n, ss, hs, rfl, hx, hS, ok, hl, rfl⟩, q⟩ := h
  exact s_ret (ev_keep_all (ev_var rfl) (ev_var rfl) (ev_f1 (v := .ref l) F (ev_var rfl) hx (by decide)) hS ok hl) q
/-- c[0] -/
theorem ev_head {a : Int} {r : List Int} (ha : Ev ta σ H (.ref l)) (hl : SqL K H l (iV (a :: r))) : Ev (tOp (rIxL K) ta (tC (.int 0))) σ H (.int a) := ev_op ha ev_c (rv_ixL hl (show atI (iV (a :: r)) ((0 : Nat) : Int) = some (V.int a) from at_iV (Nat.succ_pos _)))
theorem sayAt_rng {ss : List Say} {a : Int} : (sayAt ss a).isSome = decide (0 ≤ a ∧ a < (ss.length : Int)) := by
  cases hs : sayAt ss a with
  | some s =>
    obtain ⟨k, rfl, hk⟩ := sayAt_some hs
    have := (List.getElem?_eq_some_iff.mp hk).1
    exact Eq.symm (decide_eq_true (by omega))
  | none =>
    refine (decide_eq_false fun ⟨h0, h1⟩ => ?_).symm
    unfold sayAt at hs
    rw [if_pos h0] at hs
    have := List.getElem?_eq_none_iff.mp hs
    omega
/-- the end of both tests of a ring -/
theorem ev_lessZ {o : Option Int} {i : Nat} (hi : σ[i]? = some (some (oV o))) : Ev (tAndV (tOp rNotN0 (tVar i) (tC .non)) (tOp rLtI (tVar i) (tC (.int 0)))) σ H (.bl (negO o)) := by
  cases o with
  | none => exact ev_andV (a := false) (b := false) (ev_is (ev_op (ev_var hi) ev_c rv_notN) rfl) fun z => nomatch z
  | some t => exact ev_andV (a := true) (ev_is (ev_op (ev_var hi) ev_c rv_notN) rfl) fun _ => ev_op (ev_is (ev_var hi) rfl) ev_c rv_I0
theorem pure_Ring_shows (F : KdF K ks .ring) (h : sp_Ring_shows K vs H Q E) : t_Ring_shows K (Bd Q) (L2.start ["self", "count", "sayings", "first", "total"] vs) H := by
  obtain ⟨z, ⟨x, a, l, n, ss, c, rfl, hx, hS, hl, rfl⟩, q⟩ := h
  have fl : ∀ {H1 : Hp} {w3 w4 : Option V}, Ex H H1 → Ev (tFld K (tVar 0) "chain") [some (V.ref x), some n, some (V.ref a), w3, w4] H1 (.ref l) := fun e => ev_f1 (v := .ref l) F (ev_var rfl) (hx.mono e) (by decide)
  cases c with
  | nil =>
    refine q_when (b := true) (et_is (et_or (b := true) (et_test (ev_eqNil (fl (Ex.refl H)) hl)) fun z => nomatch z) rfl) (fun _ H1 e1 => s_ret ev_c fun H2 e2 => q H2 (e1.trans e2)) (fun z => nomatch z)
  | cons y r =>
    refine q_when (b := (sayAt ss y).isNone) (et_is (et_or (et_test (ev_eqNil (fl (Ex.refl H)) hl)) fun _ => et_not (et_test (ev_chain ev_c (ev_head (fl (Ex.refl H)) hl) rv_I0 (fun _ => ev_lenS hS (ev_var rfl)) fun _ => rv_I0))) ?_) (fun hb H1 e1 => ?_) fun hb H1 e1 => ?_
    · show (false || !(decide ((0 : Int) ≤ y) && decide (y < (ss.length : Int)))) = _
      have := sayAt_rng (ss := ss) (a := y)
      rw [Bool.decide_and] at this
      rw [← this]
      cases sayAt ss y <;> rfl
    · refine s_ret ev_c fun H2 e2 => ?_
      have kk := q H2 (e1.trans e2)
      rw [ring_val] at kk
      cases hs : sayAt ss y with
      | none => rw [hs] at kk; exact kk
      | some s => rw [hs] at hb; cases hb
    · cases hs : sayAt ss y with
      | none => rw [hs] at hb; cases hb
      | some s =>
        obtain ⟨k, rfl, hk⟩ := sayAt_some hs
        have hS1 := hS.mono e1
        have hl1 := ex_l e1 hl
        refine q_asg (ev_part hS1 hk (ev_var rfl) (ev_head (fl e1) hl1) rfl) fun H2 e2 => ?_
        have hl2 := ex_l e2 hl1
        refine q_asg (ev_sum_along (ev_var rfl) (fl (e1.trans e2)) (ev_var rfl) (ev_var rfl) (hS1.mono e2) hl2) fun H3 e3 => ?_
        refine s_ret (ev_lessZ rfl) fun H4 e4 => ?_
        have kk := q H4 (((e1.trans e2).trans e3).trans e4)
        rw [ring_val] at kk
        rw [hs] at kk
        exact kk
theorem pure__law_ring (h : sp__law_ring K vs H Q E) : t__law_ring K (Bd Q) (L2.start ["_law_sayings_here", "_law_chain", "_law_total"] vs) H := by
  obtain ⟨z, ⟨a, l, ss, c, rfl, hS, hl, rfl⟩, q⟩ := h
  have isl : ∀ {b : Bool} {tt : TT}, (EvT tt [some (V.ref a), some (V.ref l), none] H b) → EvT (tOr (tNot (tB (tCB (rIsi K) (tCons (tVar 1) (tCons ((tC (.ty "list"))) (tNil)))))) tt) [some (V.ref a), some (V.ref l), none] H b := fun {b tt} ht =>
    et_is (et_or (et_not (et_B (ev_isi (tn := "list") (ev_var rfl) (fun H1 e1 => ty_L (ex_l e1 hl)) kit_ll))) fun _ => ht) (by simp)
  cases c with
  | nil =>
    refine q_when (b := true) (isl (et_is (et_or (b := true) (et_test (ev_eqNil (ev_var rfl) hl)) fun z => nomatch z) rfl)) (fun _ H1 e1 => s_ret ev_c fun H2 e2 => q H2 (e1.trans e2)) (fun z => nomatch z)
  | cons y r =>
    refine q_when (b := (sayAt ss y).isNone) (isl (et_is (et_or (et_test (ev_eqNil (ev_var rfl) hl)) fun _ => et_not (et_test (ev_inRng (ev_head (ev_var rfl) hl) (ev_lenS hS (ev_var rfl))))) ?_)) (fun hb H1 e1 => ?_) fun hb H1 e1 => ?_
    · show (false || !(decide ((0 : Int) ≤ y ∧ y < (ss.length : Int)))) = _
      rw [← sayAt_rng]
      cases sayAt ss y <;> rfl
    · refine s_ret ev_c fun H2 e2 => ?_
      have kk := q H2 (e1.trans e2)
      rw [ring_val] at kk
      cases hs : sayAt ss y with
      | none => rw [hs] at kk; exact kk
      | some s => rw [hs] at hb; cases hb
    · cases hs : sayAt ss y with
      | none => rw [hs] at hb; cases hb
      | some s =>
        obtain ⟨k, rfl, hk⟩ := sayAt_some hs
        have hS1 := hS.mono e1
        have hl1 := ex_l e1 hl
        have p : Ev (tOp (rIxT K) (tOp (rIxL K) (tVar 0) (tOp (rIxL K) (tVar 1) (tC (.int 0)))) (tC (.int 0))) [some (V.ref a), some (V.ref l), none] H1 (.int (s.1 : Int)) := ev_part hS1 hk (ev_var rfl) (ev_head (ev_var rfl) hl1) rfl
        refine q_asg (ev__law_sum (ev_var rfl) (ev_var rfl) p p hS1 hl1) fun H3 e3 => ?_
        refine s_ret (ev_lessZ rfl) fun H4 e4 => ?_
        have kk := q H4 ((e1.trans e3).trans e4)
        rw [ring_val] at kk
        rw [hs] at kk
        exact kk
theorem ring_ne {ss : List Say} {c : List Int} (h : isRing ss c = true) : c.isEmpty = false := by
  cases c with
  | nil => cases h
  | cons _ _ => rfl
theorem pure_heights (h : sp_heights K vs H Q E) : t_heights K (Bd Q) (L2.start ["count", "sayings", "found", "ring"] vs) H := by
  obtain ⟨n, a, ss, rfl, hS, ok, hn, hz, k1, k2⟩ := h
  refine q_drop (ev_check (ev_var rfl) (ev_var rfl) hn hS ok) fun H1 e1 => ?_
  refine raw_q_asgG (raw_call (ea2 (ev_var rfl) (ev_var rfl)) fun H2 e2 => ⟨n, a, ss, rfl, hS.mono (e1.trans e2), ok, hn, hz, fun hs t s r H3 ka h0 led hs' hr e3 ht hs3 hr3 => ?_, fun c t s r H3 hc hcl hs' hr e3 ht hr3 => ?_⟩)
  · refine unp2 (st_of ht) ?_
    have E3 := (e1.trans e2).trans e3
    refine q_when (b := false) (et_is (et_test (ev_neNil (hs := []) (ev_var rfl) (sq_of hr3))) rfl) (fun z => nomatch z) fun _ H4 e4 => ?_
    refine s_retP (ep_make1 (xs := iV hs) (ev_var rfl) (sq_of (e4 _ _ hs3))) fun v H5 e5 ⟨x, l, ev, ha, hx, hl, ne, h5⟩ => ?_
    subst ev
    exact k1 hs x l H5 ka (fresh_back (E3.trans e4) hx) (fresh_back (E3.trans e4) hl) ne ((E3.trans e4).trans e5) ha h5
  · refine unp2 (st_of ht) ?_
    have E3 := (e1.trans e2).trans e3
    refine q_when (b := true) (et_is (et_test (ev_neNil (hs := c) (ev_var rfl) (sq_of hr3))) (by rw [ring_ne hc]; rfl)) (fun _ H4 e4 => ?_) fun z => nomatch z
    refine s_retP (ep_make1 (xs := iV c) (ev_var rfl) (sq_of (e4 _ _ hr3))) fun v H5 e5 ⟨x, l, ev, ha, hx, hl, ne, h5⟩ => ?_
    subst ev
    exact k2 c x l H5 hc hcl (fresh_back (E3.trans e4) hx) (fresh_back (E3.trans e4) hl) ne ((E3.trans e4).trans e5) ha h5
end
end Am

/-! what the laws of answers share -/
namespace Am
open PySem L2 Evl
open He (ga ma)
theorem sum_app_bad {ss : List Say} {c : List Int} {x : Int} {p q : Nat} (h : sayAt ss x = none) : sumAlong ss (c ++ [x]) p q = none := by
  unfold sumAlong
  rw [run_append]
  cases run ss c p 0 with
  | none => rfl
  | some y =>
    obtain ⟨u, t⟩ := y
    show ends q (run ss [x] u t) = none
    rw [run_cons, h]
    rfl
theorem sayAt_len {ss : List Say} : sayAt ss (ss.length : Int) = none := by
  rw [sayAt_nat]
  exact List.getElem?_eq_none (Nat.le_refl _)
theorem ring_app {ss : List Say} {c : List Int} (h : isRing ss c = true) : isRing ss (c ++ [(ss.length : Int)]) = false := by
  cases c with
  | nil => cases h
  | cons a r =>
    rw [List.cons_append, ring_val]
    cases sayAt ss a with
    | none => rfl
    | some s =>
      show negO (sumAlong ss (a :: (r ++ [(ss.length : Int)])) s.1 s.1) = false
      rw [← List.cons_append, sum_app_bad sayAt_len]
      rfl
theorem keepAll_app {n : Nat} {ss : List Say} {hs : List Int} {x : Int} (h : keepAll n ss hs = true) : keepAll n ss (hs ++ [x]) = false := by
  have := keepAll_len h
  unfold keepAll
  rw [List.length_append, this]
  have : decide (n + [x].length = n) = false := decide_eq_false (by simp)
  rw [this]
  rfl
theorem keepAll_len_ne {n : Nat} {ss : List Say} {hs : List Int} (h : ¬ hs.length = n) : keepAll n ss hs = false := by
  unfold keepAll
  rw [decide_eq_false h]
  rfl
/-- a saying turned about -/
def about (s : Say) : Say := (s.2.1, s.1, -s.2.2)
theorem Ok.about {n : Nat} {ss : List Say} (h : Ok n ss) : Ok n (ss.map about) := fun s hs => by
  obtain ⟨t, ht, rfl⟩ := List.mem_map.mp hs
  exact ⟨(h t ht).2, (h t ht).1⟩
section
variable {K : PySem.W.Frag} {vs : List V} {H H' : Hp} {Q : VK} {E : XK} {σ : L2.St} {ta tb tc td te : TE} {tz tu : TS} {D : Ends} {ts : TA} {ks : List Kd} {k : Kd} {x l m : Addr} {f g : Str} {P : Hp → V → Hp → Prop}
/-- a tuple of these -/
def TupV (K : PySem.W.Frag) (H : Hp) (v : V) (ws : List V) : Prop := ∃ t, v = .ref t ∧ SqT K H t ws
theorem TupV.mono {v : V} {ws : List V} (e : Ex H H') (h : TupV K H v ws) : TupV K H' v ws := by obtain ⟨t, e1, e2⟩ := h; exact ⟨t, e1, ex_t e e2⟩
theorem TupV.upd {v : V} {ws ys : List V} {l : Addr} {o : HO} (h : TupV K H v ws) (hl : H l = some (.lst ys)) : TupV K (L2.upd H l o) v ws := by
  obtain ⟨t, rfl, hT⟩ := h
  exact ⟨t, rfl, sqT_upd hT hl⟩
theorem paired_map {α β γ : Type} {F : α → β → Prop} {G : α → γ → Prop} {u : β → γ} (i : ∀ x y, F x y → G x (u y)) : ∀ {xs : List α} {ys : List β}, Paired F xs ys → Paired G xs (ys.map u)
  | _, _, .nil => .nil
  | _, _, .cons r t => .cons (i _ _ r) (paired_map i t)
theorem paired_drop {α β : Type} {F : α → β → Prop} : ∀ {xs : List α} {ys : List β} (k : Nat), Paired F xs ys → Paired F (xs.drop k) (ys.drop k)
  | _, _, 0, h => h
  | _, _, _ + 1, .nil => .nil
  | _, _, k + 1, .cons r t => paired_drop k t
theorem paired_append {α β : Type} {F : α → β → Prop} : ∀ {xs xs' : List α} {ys ys' : List β}, Paired F xs ys → Paired F xs' ys' → Paired F (xs ++ xs') (ys ++ ys')
  | _, _, _, _, .nil, h => h
  | _, _, _, _, .cons r t, h => .cons r (paired_append t h)
theorem paired_rev {α β : Type} {F : α → β → Prop} : ∀ {xs : List α} {ys : List β}, Paired F xs ys → Paired F xs.reverse ys.reverse
  | _, _, .nil => .nil
  | _, _, .cons r t => by
    simp only [List.reverse_cons]
    exact paired_append (paired_rev t) (.cons r .nil)
theorem yes_ok {A B : Hp → Prop} (h : A H) : tYes σ H fun b H3 => if b = true then A H3 else B H3 := by
  show (if true = true then A H else B H)
  rw [if_pos rfl]
  exact h
/-- the comprehension that lays tuples: g is unpacking of the item -/
theorem ep_lcT {a : Addr} {xs : List V} {tl : TE} {g : TG} {js : List Nat} (w : Nat → List V) (h : Ev tl σ H (.ref a)) (hx : SqL K H a xs) (hz : xs.length ≤ 40000)
    (hs : ∀ i x H1, Ex H H1 → xs[i]? = some x → ∀ R : L2.St → Hp → Prop, (∀ σ', wipe σ' js = wipe σ js → (∀ H2, Ex H1 H2 → ∀ Q : VK, (∀ v H3, Ex H2 H3 → TupV K H3 v (w i) → Q v H3) → te σ' H2 Q) → R σ' H1) → g x (wipe σ js) H1 R) :
    EvP (tLc (iList K tl) g tYes te js) σ H fun H1 v H2 => ∃ p ys, v = .ref p ∧ H1 p = none ∧ H2 p = some (.lst ys) ∧ ys.length = xs.length ∧ ∀ i v, ys[i]? = some v → TupV K H2 v (w i) := fun H0 e Q q => h H0 e _ fun H1 e1 =>
  ⟨a, rfl, ⟨xs, ex_l (e.trans e1) hx⟩, fun Dl hD =>
    lc_list (xs := xs) (fun i H' => H1 Dl = none ∧ Ex H1 H' ∧ i ≤ xs.length ∧ ∃ ys, H' Dl = some (.lst ys) ∧ ys.length = i ∧ ∀ j v, ys[j]? = some v → TupV K H' v (w j)) ⟨hD, Ex.new hD, Nat.zero_le _, [], upd_same, rfl, fun j v z => by simp at z⟩ (fun i H' _ p => ex_l ((e.trans e1).trans p.2.1) hx)
      (fun i x H' hi ⟨p1, p2, p3, ys, p4, p5, p6⟩ => hs i x H' ((e.trans e1).trans p2) hi _ fun σ' hw he => ⟨hw, yes_ok (by
        refine he H' (Ex.refl H') _ fun v H3 e3 hv => ⟨ys, e3 _ _ p4, sz_lt (by have hlt := (List.getElem?_eq_some_iff.mp hi).1; omega), p1, Ex.mut (p2.trans e3) p1, by have hlt := (List.getElem?_eq_some_iff.mp hi).1; omega, ys ++ [v], upd_same, by rw [List.length_append, p5]; rfl, fun j u hj => ?_⟩
        by_cases hj2 : j < ys.length
        · rw [List.getElem?_append_left hj2] at hj
          exact ((p6 j u hj).mono e3).upd (e3 _ _ p4)
        · have : j = i := by
            have := (List.getElem?_eq_some_iff.mp hj).1
            rw [List.length_append] at this
            simp at this
            omega
          subst this
          rw [List.getElem?_append_right (by omega), p5, Nat.sub_self] at hj
          have : v = u := by simpa using hj
          subst this
          exact hv.upd (e3 _ _ p4))⟩)
      (fun H' ⟨p1, p2, _, ys, p4, p5, p6⟩ => q _ H' (e1.trans p2) ⟨Dl, ys, rfl, fresh_back e1 p1, p4, p5, p6⟩)⟩
theorem paired_of {α β : Type} {F : α → β → Prop} {d : β} : ∀ {xs : List α} {ys : List β}, xs.length = ys.length → (∀ i x, xs[i]? = some x → F x (ys.getD i d)) → Paired F xs ys
  | [], [], _, _ => .nil
  | _ :: _, [], many, _ => nomatch many
  | [], _ :: _, many, _ => nomatch many
  | x :: xs, y :: ys, h, g => .cons (g 0 x rfl) (paired_of (d := d) (by simpa using h) fun i z hz => by have := g (i + 1) z (by simpa using hz); simpa using this)
/-- over sayings, laying sayings -/
theorem ep_lcS {a : Addr} {ss : List Say} {tl : TE} {i j l : Nat} (w : Say → Say) (hS : Says K H a ss) (h : Ev tl σ H (.ref a))
    (hw : ∀ x y z, wipe ((((wipe σ [i, j, l]).set i (some x)).set j (some y)).set l (some z)) [i, j, l] = wipe σ [i, j, l])
    (he : ∀ s H1, Ex H H1 → s ∈ ss → EvU te ((((wipe σ [i, j, l]).set i (some (.int (s.1 : Int)))).set j (some (.int (s.2.1 : Int)))).set l (some (.int s.2.2))) H1 [.int ((w s).1 : Int), .int ((w s).2.1 : Int), .int (w s).2.2]) :
    EvP (tLc (iList K tl) (gTup K 3 (gCons (gName i) (gCons (gName j) (gCons (gName l) gNil)))) tYes te [i, j, l]) σ H fun H1 v H2 => ∃ p, v = .ref p ∧ H1 p = none ∧ SaysM K H2 p (ss.map w) := by
  obtain ⟨hz, xs, hx, hp⟩ := hS
  have hlen : xs.length = ss.length := Paired.length hp
  refine (ep_lcT (fun n => [.int ((w (ss.getD n z0)).1 : Int), .int ((w (ss.getD n z0)).2.1 : Int), .int (w (ss.getD n z0)).2.2]) h hx (by omega) (fun n x H1 e hi R r => ?_)).imp fun H1 v H2 e1 e2 ⟨p, ys, ev, hp1, hp2, hl, hy⟩ => ⟨p, ev, hp1, by rw [List.length_map]; exact hz, ys, hp2, ?_⟩
  · obtain ⟨s, hs, tp, rfl, hT⟩ := paired_get hp hi
    refine unp3 (ex_t e hT) (r _ (hw _ _ _) fun H2 e2 Q q => ?_)
    rw [getD_some hs] at q
    exact he s H2 (e.trans e2) (List.mem_of_getElem? hs) H2 (Ex.refl H2) Q fun p H3 hp e3 h3 => q _ H3 e3 ⟨p, rfl, st_of h3⟩
  · refine paired_of (d := z0) (by rw [List.length_map, hl, hlen]) fun n v hv => ?_
    obtain ⟨t, et, ht⟩ := hy n v hv
    have hn : n < ss.length := by have := (List.getElem?_eq_some_iff.mp hv).1; omega
    have e : (ss.map w).getD n z0 = w (ss.getD n z0) := by
      rw [List.getD_eq_getElem?_getD, List.getElem?_map, List.getD_eq_getElem?_getD, List.getElem?_eq_getElem hn]
      rfl
    rw [e]
    exact ⟨t, et, ht⟩
/-- a cut of sayings -/
theorem says_cut {xs : List V} {ss : List Say} (lo hi : Option Int) (h : Paired (TupAt K H) xs ss) : ∃ ss', Paired (TupAt K H) (cutV xs lo hi) ss' ∧ (∀ s ∈ ss', s ∈ ss) ∧ ss'.length ≤ ss.length :=
  ⟨_, paired_take _ (paired_drop _ h), fun s hs => List.mem_of_mem_drop (List.mem_of_mem_take hs), by rw [List.length_take, List.length_drop]; omega⟩

/-! ### methods -/
theorem ev_meth {R : List V → Hp → V → Prop} {C dx : Addr} {fs : List (Str × V)} {mth : Str} {ws : List V} {z : V} (ha : Ev ta σ H (.ref x)) (hx : H x = some (.ins C dx fs)) (hl : fs.lookup mth = none) (ht : EvA ts σ H ws) (hR : ∀ H1, Ex H H1 → R (.ref x :: ws) H1 z) : Ev (tMeth C mth (Pur R) [] E ta ts) σ H z := fun H1 e Q q =>
  ha H1 e _ fun H2 e2 => ⟨x, dx, fs, rfl, (e.trans e2) _ _ hx, hl, ht H2 (e.trans e2) _ fun H3 e3 => ⟨z, by rw [List.append_nil]; exact hR H3 ((e.trans e2).trans e3), fun H4 e4 => q H4 ((e2.trans e3).trans e4)⟩⟩
theorem An1.shows (h : An1 K H x k f l) (hf : f ∈ k.fs) : ∃ dx, H x = some (.ins (ga K k.nm) dx [(f, .ref l)]) ∧ ([(f, V.ref l)] : List (Str × V)).lookup ("shows" : Str) = none := by
  obtain ⟨dx, h⟩ := h
  refine ⟨dx, h, ?_⟩
  have ne : (("shows" : Str) == f) = false := by
    revert hf
    cases k <;> simp only [Kd.fs, List.mem_cons, List.not_mem_nil, or_false] <;> intro hf <;> first | (subst hf; decide +kernel) | (rcases hf with rfl | rfl <;> decide +kernel)
  simp [List.lookup, ne]
theorem ev_Heights_shows {t1 t2 : TE} {a : Addr} {n : Nat} {ss : List Say} {hs : List Int} (hx : An1 K H x .heights "heights" l) (hS : Says K H a ss) (ok : Ok n ss) (hl : SqL K H l (iV hs)) (ha : Ev ta σ H (.ref x)) (h1 : Ev t1 σ H (.int (n : Int))) (h2 : Ev t2 σ H (.ref a)) :
    Ev (tMeth (ga K "Heights") "shows" (sp_Heights_shows K) [] E ta (tCons t1 (tCons t2 tNil))) σ H (.bl (keepAll n ss hs)) := by
  obtain ⟨dx, hh, hn⟩ := hx.shows (by decide)
  exact ev_meth ha hh hn (ea2 h1 h2) fun H1 e => ⟨x, a, l, n, ss, hs, rfl, hx.mono e, hS.mono e, ok, ex_l e hl, rfl⟩
theorem ev_Ring_shows {t1 t2 : TE} {a : Addr} {n : V} {ss : List Say} {c : List Int} (hx : An1 K H x .ring "chain" l) (hS : Says K H a ss) (hl : SqL K H l (iV c)) (ha : Ev ta σ H (.ref x)) (h1 : Ev t1 σ H n) (h2 : Ev t2 σ H (.ref a)) :
    Ev (tMeth (ga K "Ring") "shows" (sp_Ring_shows K) [] E ta (tCons t1 (tCons t2 tNil))) σ H (.bl (isRing ss c)) := by
  obtain ⟨dx, hh, hn⟩ := hx.shows (by decide)
  exact ev_meth ha hh hn (ea2 h1 h2) fun H1 e => ⟨x, a, l, n, ss, c, rfl, hx.mono e, hS.mono e, ex_l e hl, rfl⟩
theorem ev__law_ring {a : Addr} {ss : List Say} {c : List Int} (h1 : Ev ta σ H (.ref a)) (h2 : Ev tb σ H (.ref l)) (hS : Says K H a ss) (hC : SqL K H l (iV c)) : Ev (tCall (sp__law_ring K) [] E0 (tCons ta (tCons tb tNil))) σ H (.bl (isRing ss c)) :=
  ev_pur (ea2 h1 h2) fun H1 e => ⟨a, l, ss, c, rfl, hS.mono e, ex_l e hC, rfl⟩
end
end Am

/-! what the walks leave: settled, from_one, chain_to, without_sum, spread, raised -/
namespace Am
open PySem L2 Evl
open He (ga ma)
/-- raise C(e, ..), C with an own __init__ -/
def tRaiseO (K : PySem.W.Frag) (C : Addr) (sp : Sp) (E : XK) (ta : TA) : TS := fun _ σ H => tMkO C sp [] ta σ H fun c d H1 => E c d H1
/-- what is told where no heights keep them: Broken, with a ring -/
def BrkE (K : PySem.W.Frag) (H : Hp) (ss : List Say) (E : XK) : Prop := ∀ (c : List Int) (d r : Addr) (H2 : Hp), isRing ss c = true → c.length ≤ 100 → H d = none → H r = none → Ex H H2 → H2 d = some (.xd [("ring", .ref r)]) → H2 r = some (.lst (iV c)) → E (.ref (ga K "Broken")) (some d) H2
def sp_Broken_init (K : PySem.W.Frag) : Sp := fun vs H Q _ => ∃ (a c : Addr) (xs : List V), vs = [.ref a, .ref c] ∧ H a = some (exo a (ga K "Broken") none) ∧ SqL K H c xs ∧
  ∀ (l dx : Addr) (H1 : Hp), H l = none → Ex H H1 → H1 l = some (.lst xs) → H1 dx = none → dx ≠ a → Q .non (upd (upd H1 dx (exd dx [("ring", .ref l)])) a (exo a (ga K "Broken") (some dx)))
def sp_settled (K : PySem.W.Frag) : Sp := fun vs H Q E => ∃ (n : Nat) (a : Addr) (ss : List Say), vs = [.int (n : Int), .ref a] ∧ Says K H a ss ∧ Ok n ss ∧ 0 < n ∧ n ≤ 100 ∧
  (∀ (hs : List Int) s H2, keepAll n ss hs = true → (∀ v, hs.getD v 0 ≤ 0) → (∀ v, v < n → Led ss hs v) → H s = none → Ex H H2 → H2 s = some (.lst (iV hs)) → Q (.ref s) H2) ∧ BrkE K H ss E
def sp_from_one (K : PySem.W.Frag) : Sp := fun vs H Q _ => ∃ (n : Nat) (a : Addr) (ss : List Say) (one : Nat), vs = [.int (n : Int), .ref a, .int (one : Int)] ∧ Says K H a ss ∧ Ok n ss ∧ one < n ∧ n ≤ 100 ∧ (∃ f, Kept ss f) ∧
  ∀ (S : Sums) (last : List Int) t s l H2, One n ss one S last → H s = none → H l = none → Ex H H2 → H2 t = some (.tup [.ref s, .ref l]) → H2 s = some (.lst (oVs S)) → H2 l = some (.lst (iV last)) → Q (.ref t) H2
def sp_chain_to (K : PySem.W.Frag) : Sp := fun vs H Q _ => ∃ (a l : Addr) (ss : List Say) (last : List Int) (v k : Nat), vs = [.ref a, .ref l, .int (v : Int)] ∧ Says K H a ss ∧ SqL K H l (iV last) ∧ Up ss last v k ∧ k ≤ 100 ∧
  ∀ (as : List Nat) (x : Nat) (W : Int) p H2, Walk ss last v as x W → last.getD x (-1) = -1 → as.length ≤ 100 → H p = none → Ex H H2 → H2 p = some (.lst (iV (as.reverse.map Int.ofNat))) → Q (.ref p) H2
def sp_without_sum (K : PySem.W.Frag) : Sp := PurL fun vs H xs => ∃ (s : Addr) (S : Sums), vs = [.ref s] ∧ SqL K H s (oVs S) ∧ S.length ≤ 1000 ∧ xs = iV ((without S.length S).map Int.ofNat)
def sp_raised (K : PySem.W.Frag) : Sp := PurL fun vs H xs => ∃ (f p : Addr) (hs : List Int) (ps : List Nat) (d : Int), vs = [.ref f, .ref p, .int d] ∧ SqL K H f (iV hs) ∧ SqL K H p (iV (ps.map Int.ofNat)) ∧ hs.length ≤ 1000 ∧ xs = iV (raisedOf hs ps d)
def sp_spread (K : PySem.W.Frag) : Sp := fun vs H Q _ => ∃ (n : Nat) (a s : Addr) (ss : List Say) (S : Sums), vs = [.int (n : Int), .ref a, .ref s] ∧ Says K H a ss ∧ Ok n ss ∧ 0 < n ∧ n ≤ 100 ∧ (∃ f, Kept ss f) ∧ SqL K H s (oVs S) ∧ S.length = n ∧
  ∀ (rest : List Int) (far : Int) p H2, keepAll n ss rest = true → Far ss rest S far → H p = none → Ex H H2 → H2 p = some (.lst (iV (spreadOf n rest S far))) → Q (.ref p) H2
def t_Broken_init (K : PySem.W.Frag) : TS := tOst K "ring" (tVar 0) (tCB (rListS K) (tCons (tVar 1) (tNil)))
def t_settled (K : PySem.W.Frag) (E : XK) : TS := tSeq (tAsg (tCall (sp_from_all K) [] E0 (tCons (tVar 0) (tCons (tVar 1) (tNil)))) (gTup K 2 (gCons (gName 2) (gCons (gName 3) (gNil))))) (tSeq (tIfS (tTest (tOp (rNeD K) (tVar 3) (tLst (tNil)))) (tRaiseO K (ga K "Broken") (sp_Broken_init K) E (tCons (tVar 3) (tNil))) (tNext)) (tRet (tVar 2)))
def t_from_one (K : PySem.W.Frag) : TS := tSeq (tAsg (tLc (iRng1 (tCons (tVar 0) (tNil))) (gName 5) (tYes) (tC .non) [5]) (gName 3)) (tSeq (tAsg (tLc (iRng1 (tCons (tVar 0) (tNil))) (gName 5) (tYes) (tUn rNegI (tC (.int 1))) [5]) (gName 4)) (tSeq (tAsg (tC (.int 0)) (gSub (tVar 3) (tVar 2) rSetL)) (tSeq (tDrop (tCall (sp_lessened K) [] E0 (tCons (tVar 1) (tCons (tVar 3) (tCons (tVar 4) (tNil)))))) (tRet (tTup (tCons (tVar 3) (tCons (tVar 4) (tNil))))))))
def t_chain_to (K : PySem.W.Frag) : TS := tSeq (tAsg (tLst (tNil)) (gName 3)) (tSeq (tWhile (tTest (tOp rGeI (tOp (rIxL K) (tVar 1) (tVar 2)) (tC (.int 0)))) (tSeq (tDrop (tBM K "list" rAppend (tVar 3) (tCons (tOp (rIxL K) (tVar 1) (tVar 2)) (tNil)))) (tAsg (tOp (rIxT K) (tOp (rIxL K) (tVar 0) (tOp (rIxL K) (tVar 1) (tVar 2))) (tC (.int 0))) (gName 2)))) (tRet (tRevL K (tVar 3))))
def t_without_sum (K : PySem.W.Frag) : TS := tRet (tLc (iEnum K (tCons (tVar 0) (tNil))) (gTup K 2 (gCons (gName 1) (gCons (gName 2) (gNil)))) (tTest (tOp rIsN0 (tVar 2) (tC .non))) (tVar 1) [1, 2])
def t_raised (K : PySem.W.Frag) : TS := tRet (tLc (iEnum K (tCons (tVar 0) (tNil))) (gTup K 2 (gCons (gName 3) (gCons (gName 4) (gNil)))) (tYes) (tIf (tTest (tOp (rIn K false) (tVar 3) (tVar 1))) (tOp rAddI (tVar 4) (tVar 2)) (tVar 4)) [3, 4])
def t_spread (K : PySem.W.Frag) : TS := tSeq (tAsg (tCall (sp_settled K) [] E0 (tCons (tVar 0) (tCons (tVar 1) (tNil)))) (gName 3)) (tSeq (tAsg (tC (.int 0)) (gName 4)) (tSeq (tFor (iList K (tVar 1)) (gTup K 3 (gCons (gName 5) (gCons (gName 6) (gCons (gName 7) (gNil))))) (tIfS (tAnd (tTest (tOp rIsN0 (tOp (rIxL K) (tVar 2) (tVar 5)) (tC .non))) (tTest (tOp rNotN0 (tOp (rIxL K) (tVar 2) (tVar 6)) (tC .non)))) (tAsg (tCB rMax2 (tCons (tVar 4) (tCons (tOp rSubI (tOp rSubI (tOp (rIxL K) (tVar 2) (tVar 6)) (tOp (rIxL K) (tVar 3) (tVar 5))) (tVar 7)) (tNil)))) (gName 4)) (tNext))) (tRet (tLc (iRng1 (tCons (tVar 0) (tNil))) (gName 8) (tYes) (tIf (tTest (tOp rIsN0 (tOp (rIxL K) (tVar 2) (tVar 8)) (tC .non))) (tOp rAddI (tOp (rIxL K) (tVar 3) (tVar 8)) (tVar 4)) (tOp (rIxL K) (tVar 2) (tVar 8))) [8]))))
section
variable {K : PySem.W.Frag} {vs : List V} {H H' : Hp} {Q : VK} {E : XK} {σ : L2.St} {ta tb tc td te : TE} {tt : TT} {tz tu : TS} {D : Ends} {ts : TA}
theorem BrkE.mono {ss : List Say} (h : BrkE K H ss E) (e : Ex H H') : BrkE K H' ss E := fun c d r H2 h1 h2 h3 h4 e2 h5 h6 => h c d r H2 h1 h2 (fresh_back e h3) (fresh_back e h4) (e.trans e2) h5 h6
/-- where heights keep them it is never told -/
theorem BrkE.kept {ss : List Say} {f : Nat → Int} (k : Kept ss f) : BrkE K H ss E := fun c d r H2 h1 _ _ _ _ _ _ => (ring_not_kept h1 k).elim
theorem raw_q_drop (h : te σ H fun _ H1 => tz D σ H1) : tSeq (tDrop te) tz D σ H := h
theorem pure_Broken_init (T : OexC K (ga K "Broken")) (hno : PySem.W.findIn K (.ref (ga K "Broken")) "ring" = some none) (h : sp_Broken_init K vs H Q E) : t_Broken_init K (Bd Q) (L2.start ["self", "ring"] vs) H := by
  obtain ⟨a, c, xs, rfl, ha, hc, k⟩ := h
  exact (el_list (ev_var rfl) hc) H (Ex.refl H) _ fun l H1 hl e1 h1 => (ev_var rfl : Ev (tVar 0) _ H1 (.ref a)) H1 (Ex.refl H1) _ fun H2 e2 =>
    ⟨a, ga K "Broken", rfl, T, hno, .inl ⟨(e1.trans e2) _ _ ha, fun dx hdx hne => k l dx H2 hl (e1.trans e2) (e2 _ _ h1) hdx hne⟩⟩
theorem raise_broken {ss : List Say} {c : List Int} {r : Addr} (hB : BrkE K H ss E) (hc : isRing ss c = true) (hl : c.length ≤ 100) (he : Ev te σ H (.ref r)) (hr : SqL K H r (iV c)) : tRaiseO K (ga K "Broken") (sp_Broken_init K) E (tCons te tNil) D σ H := by
  unfold tRaiseO tMkO
  exact (ea_cons he ea_nil) H (Ex.refl H) _ fun H1 e1 => ⟨by show 1 ≤ 1000; decide, fun a ha => ⟨a, r, iV c, rfl, upd_same, ex_l (e1.trans (Ex.new ha)) hr, fun l dx H2 hl2 e2 h2 hdx hne => by
    have H1dx : H1 dx = none := by
      have := fresh_back e2 hdx
      rwa [upd_ne hne] at this
    have hla : l ≠ a := fun z => by rw [z, upd_same] at hl2; cases hl2
    have H1l : H1 l = none := by rwa [upd_ne hla] at hl2
    have hdl : l ≠ dx := fun z => by rw [← z, h2] at hdx; cases hdx
    have E2 : Ex H1 H2 := (Ex.new ha).trans e2
    refine ⟨rfl, dx, [("ring", .ref l)], upd_same, by rw [upd_ne hne]; exact upd_same, H1dx, hB c dx l _ hc hl (fresh_back e1 H1dx) (fresh_back e1 H1l) (e1.trans fun b o hb => ?_) upd_same ?_⟩
    · have b1 : b ≠ dx := ne_of_none hb H1dx
      have b2 : b ≠ a := ne_of_none hb ha
      rw [upd_ne b1, del_ne b2, upd_ne b2, upd_ne b1]
      exact E2 _ _ hb
    · rw [upd_ne hdl, del_ne hla, upd_ne hla, upd_ne hdl]
      exact h2⟩⟩
theorem pure_settled (h : sp_settled K vs H Q E) : t_settled K E (Bd Q) (L2.start ["count", "sayings", "sums", "ring"] vs) H := by
  obtain ⟨n, a, ss, rfl, hS, ok, hn, hz, k1, k2⟩ := h
  refine raw_q_asgG (raw_call (ea2 (ev_var rfl) (ev_var rfl)) fun H2 e2 => ⟨n, a, ss, rfl, hS.mono e2, ok, hn, hz, fun hs t s r H3 ka h0 led hs' hr e3 ht hs3 hr3 => ?_, fun c t s r H3 hc hcl hs' hr e3 ht hr3 => ?_⟩)
  · refine unp2 (st_of ht) ?_
    refine q_when (b := false) (et_is (et_test (ev_neNil (hs := []) (ev_var rfl) (sq_of hr3))) rfl) (fun z => nomatch z) fun _ H4 e4 => ?_
    exact s_ret (ev_var rfl) fun H5 e5 => k1 hs s H5 ka h0 led (fresh_back e2 hs') (((e2.trans e3).trans e4).trans e5) (e5 _ _ (e4 _ _ hs3))
  · refine unp2 (st_of ht) ?_
    refine q_when (b := true) (et_is (et_test (ev_neNil (hs := c) (ev_var rfl) (sq_of hr3))) (by rw [ring_ne hc]; rfl)) (fun _ H4 e4 => ?_) fun z => nomatch z
    exact raise_broken (k2.mono ((e2.trans e3).trans e4)) hc hcl (ev_var rfl) (sq_of (e4 _ _ hr3))
theorem el_lcE {a : Addr} {xs : List V} {i j : Nat} (f : Nat → Bool) (v : Nat → V) (h : Ev ta σ H (.ref a)) (hx : SqL K H a xs) (hz : xs.length ≤ 40000) (hw : ∀ x y, wipe (((wipe σ [i, j]).set i (some x)).set j (some y)) [i, j] = wipe σ [i, j])
    (ht : ∀ (k : Nat) (x : V) H1, Ex H H1 → xs[k]? = some x → EvT tt (((wipe σ [i, j]).set i (some (.int (k : Int)))).set j (some x)) H1 (f k)) (he : ∀ (k : Nat) (x : V) H1, Ex H H1 → xs[k]? = some x → f k = true → Ev te (((wipe σ [i, j]).set i (some (.int (k : Int)))).set j (some x)) H1 (v k)) :
    EvL (tLc (iEnum K (tCons ta tNil)) (gTup K 2 (gCons (gName i) (gCons (gName j) gNil))) tt te [i, j]) σ H (given xs.length f v) := fun H0 e Q q => h H0 e _ fun H1 e1 => ⟨a, xs, rfl, ex_l (e.trans e1) hx, fun Dl hD =>
  lc_it walk_enum (Cw H1 f v Dl) ⟨hD, Ex.new hD, upd_same⟩ (fun k H' _ p => ex_l ((e.trans e1).trans p.2.1) hx) (fun k x H2 H3 hk p ⟨T, x1, x2, ex, hT, e3, e4, e5⟩ => by
    subst ex e3
    cases e4
    have p' : Cw H1 f v Dl k (upd H2 T (.tup [.int (k : Int), x2])) := ⟨p.1, p.2.1.trans (Ex.new hT), Ex.new hT _ _ p.2.2⟩
    exact unp2 (st_of upd_same) ⟨hw _ _, cw_turn p' (by omega) (ht k x2 H1 (e.trans e1) e5) fun hf => he k x2 H1 (e.trans e1) e5 hf⟩)
    (fun H' ⟨n1, n2, n3⟩ => q Dl H' (fresh_back e1 n1) (e1.trans n2) n3)⟩
theorem oV_at {S : Sums} {k : Nat} {x : V} (h : (oVs S)[k]? = some x) : k < S.length ∧ x = oV (S.getD k none) := by
  rw [List.getElem?_map] at h
  cases e : S[k]? with
  | none => rw [e] at h; exact nomatch h
  | some o =>
    rw [e] at h
    exact ⟨(List.getElem?_eq_some_iff.mp e).1, by rw [List.getD_eq_getElem?_getD, e]; exact (Option.some.inj h).symm⟩
theorem pure_without_sum (h : sp_without_sum K vs H Q E) : t_without_sum K (Bd Q) (L2.start ["sums", "place", "total"] vs) H := by
  obtain ⟨xs, ⟨s, S, rfl, hS, hz, rfl⟩, k⟩ := h
  refine s_retL (el_lcE (fun i => (S.getD i none).isNone) (fun i => .int (i : Int)) (ev_var rfl) hS (by rw [List.length_map]; omega) (fun _ _ => rfl) (fun i x H1 e1 hi => ?_) fun i x H1 e1 hi _ => ev_var rfl) fun p H1 hp e1 h1 => ?_
  · obtain ⟨_, rfl⟩ := oV_at hi
    exact et_is (et_test (ev_op (ev_var rfl) ev_c rv_isN)) oV_non
  · refine k p H1 hp e1 ?_
    rw [h1]
    unfold given without
    rw [List.length_map, iV_map]
    rfl
theorem inV_int (i : Int) (l : List Int) : inV (.int i) (iV l) = decide (i ∈ l) := by
  unfold inV
  rw [List.any_map]
  by_cases h : i ∈ l
  · rw [decide_eq_true h, List.any_eq_true]
    exact ⟨i, h, by simp [eqV]⟩
  · rw [decide_eq_false h, List.any_eq_false]
    intro x hx
    have : x ≠ i := fun z => h (z ▸ hx)
    simp [eqV, this]
theorem flat_iV (l : List Int) : (iV l).all flatV = true := by
  rw [List.all_map, List.all_eq_true]
  exact fun _ _ => rfl
theorem mem_ofNat {i : Nat} {l : List Nat} : decide ((i : Int) ∈ l.map Int.ofNat) = decide (i ∈ l) := by
  refine decide_eq_decide.mpr ⟨fun h => ?_, fun h => List.mem_map.mpr ⟨i, h, rfl⟩⟩
  obtain ⟨j, hj, e⟩ := List.mem_map.mp h
  have : j = i := Int.ofNat.inj e
  exact this ▸ hj
theorem pure_raised (h : sp_raised K vs H Q E) : t_raised K (Bd Q) (L2.start ["found", "places", "by", "place", "height"] vs) H := by
  obtain ⟨xs, ⟨f, p, hs, ps, d, rfl, hf, hp, hz, rfl⟩, k⟩ := h
  refine s_retL (el_lcE (fun _ => true) (fun i => .int (if i ∈ ps then hs.getD i 0 + d else hs.getD i 0)) (ev_var rfl) hf (by rw [List.length_map]; omega) (fun _ _ => rfl) (fun i x H1 e1 hi => et_yes) fun i x H1 e1 hi _ => ?_) fun q H1 hq e1 h1 => ?_
  · obtain ⟨y, hy, rfl⟩ := iV_at hi
    have ey := getD_some (d := 0) hy
    rw [ey]
    refine ev_if (b := decide (i ∈ ps)) (et_is (et_test (ev_op (ev_var rfl) (ev_var rfl) (rv_isL (ex_l e1 hp) rfl (flat_iV _)))) ?_) (fun hb => ?_) fun hb => ?_
    · rw [inV_int, mem_ofNat]
    · rw [if_pos (of_decide_eq_true hb)]
      exact ev_op (ev_var rfl) (ev_var rfl) rv_I0
    · rw [if_neg (of_decide_eq_false hb)]
      exact ev_var rfl
  · refine k q H1 hq e1 ?_
    rw [h1, given_all fun _ => rfl]
    unfold raisedOf
    rw [List.length_map, iV_map]
theorem pure_from_one (h : sp_from_one K vs H Q E) : t_from_one K (Bd Q) (L2.start ["count", "sayings", "one", "sums", "last", "place"] vs) H := by
  obtain ⟨n, a, ss, one, rfl, hS, ok, h1, hz, ⟨f, kf⟩, k⟩ := h
  have eS : ((List.range n).map fun _ => V.non) = oVs (List.replicate n none) := by
    show _ = (List.replicate n none).map oV
    rw [List.map_replicate, List.map_const', List.length_range]
    rfl
  have eL : ((List.range n).map fun _ => V.int (-1)) = iV (List.replicate n (-1)) := by
    show _ = (List.replicate n (-1)).map V.int
    rw [List.map_replicate, List.map_const', List.length_range]
  refine q_asgL (el_mapR (n := (n : Int)) (fun _ => .non) (ea_cons (ev_var rfl) ea_nil) (by omega) (fun _ => rfl) fun i H1 e1 hi => ev_c) fun s H1 hs' e1 hs1 => ?_
  have hs1' : H1 s = some (.lst (oVs (List.replicate n none))) := by rw [← eS]; exact hs1
  refine q_asgL (el_mapR (n := (n : Int)) (fun _ => .int (-1)) (ea_cons (ev_var rfl) ea_nil) (by omega) (fun _ => rfl) fun i H2 e2 hi => ev_un ev_c ru_neg) fun l H2 hl e2 hl2 => ?_
  have hl2' : H2 l = some (.lst (iV (List.replicate n (-1)))) := by rw [← eL]; exact hl2
  have hsl : s ≠ l := fun z => by rw [z, hl] at hs1'; cases hs1'
  have hl0 := fresh_back e1 hl
  refine q_setL (v := .int 0) (e2 _ _ hs1') ev_c (ev_var rfl) (ev_var rfl) (by rw [List.length_map, List.length_replicate]; exact h1) fun H3 e3 => ?_
  rw [oVs_set]
  have es : (List.replicate n none).set one (some 0) = sumsOf n one := rfl
  rw [es]
  have hl3 : (upd H3 s (.lst (oVs (sumsOf n one)))) l = some (.lst (iV (List.replicate n (-1)))) := by rw [upd_ne (Ne.symm hsl)]; exact e3 _ _ hl2'
  have hs3 : (upd H3 s (.lst (oVs (sumsOf n one)))) s = some (.lst (oVs (sumsOf n one))) := upd_same
  have E3 : Ex H (upd H3 s (.lst (oVs (sumsOf n one)))) := Ex.mut ((e1.trans e2).trans e3) hs'
  generalize upd H3 s (.lst (oVs (sumsOf n one))) = H4 at hl3 hs3 E3
  refine raw_q_drop (raw_call (ea3 (ev_var rfl) (ev_var rfl) (ev_var rfl)) fun H5 e5 => ?_)
  have EB : Ex H (less (less H5 s) l) := ex_less_old (ex_less_old (E3.trans e5) hs') hl0
  refine ⟨a, s, l, ss, sumsOf n one, n, rfl, hsl, hS.mono EB, ok, by unfold sumsOf; rw [List.length_set, List.length_replicate], hz, e5 _ _ hs3, e5 _ _ hl3, fun st H6 L e6 hs6 hl6 => ?_⟩
  have O := fromOne_ok ok h1 L kf
  exact s_retU (eu_tup (ea2 (ev_var rfl) (ev_var rfl)) (by show 2 ≤ 100000; decide)) fun t H7 _ e7 h7 => k st.sums st.last t s l H7 O hs' hl0 ((EB.trans e6).trans e7) h7 (e7 _ _ hs6) (e7 _ _ hl6)
theorem last_root {last : List Int} {v : Nat} (h1 : last.getD v (-1) = -1) (hv : v < last.length) : last.getD v 0 = -1 := by
  rw [List.getD_eq_getElem?_getD, List.getElem?_eq_getElem hv] at h1 ⊢
  exact h1
theorem pure_chain_to (h : sp_chain_to K vs H Q E) : t_chain_to K (Bd Q) (L2.start ["sayings", "last", "place", "found"] vs) H := by
  obtain ⟨a, l, ss, last, v, k0, rfl, hS, hL, up, hk, k⟩ := h
  refine q_asgL (el_lst ea_nil (by simp)) fun f H1 hf e1 hf1 => ?_
  have hB : Ex H (less H1 f) := ex_less_old e1 hf
  refine q_while (fun m σ' H3 => ∃ (as : List Nat) (u : Nat) (W : Int), σ' = [some (.ref a), some (.ref l), some (.int (u : Int)), some (.ref f)] ∧ Ex (less H1 f) H3 ∧ H3 f = some (.lst (iV (as.map Int.ofNat))) ∧ Walk ss last v as u W ∧ Up ss last u m ∧ as.length + m ≤ 100) k0
    ⟨[], v, 0, rfl, ex_less, hf1, .nil v, up, by simp; exact hk⟩ ?_
  rintro m σ' H3 ⟨as, u, W, rfl, e3, hf3, w, up', hm⟩
  have E3 := hB.trans e3
  have hL3 := ex_l E3 hL
  cases up' with
  | root g1 g2 =>
    refine ⟨false, et_is (et_test (ev_op (ev_op (ev_var rfl) (ev_var rfl) (rv_ixL hL3 (at_iV g2))) ev_c rv_I0)) (by rw [last_root g1 g2]; rfl), (fun z => nomatch z), fun _ H4 e4 => ?_⟩
    refine s_retL (el_rev (ev_var rfl) (sq_of (e4 _ _ hf3))) fun p H5 hp e5 h5 => ?_
    rw [rev_iV] at h5
    exact k as u W p H5 w g1 (by omega) (fresh_back (E3.trans e4) hp) ((E3.trans e4).trans e5) h5
  | @step _ y b m2 mm g1 g2 g3 up2 =>
    have lastAt : ∀ {H4 : Hp}, SqL K H4 l (iV last) → Ev (tOp (rIxL K) (tVar 1) (tVar 2)) [some (V.ref a), some (V.ref l), some (V.int (u : Int)), some (V.ref f)] H4 (.int (b : Int)) := fun q => ev_lastAt q (ev_var rfl) (ev_var rfl) g1 g3
    refine ⟨true, et_is (et_test (ev_op (lastAt hL3) ev_c rv_I0)) (decide_eq_true (Int.natCast_nonneg b)), fun _ H4 e4 => ?_, fun z => nomatch z⟩
    refine ⟨fun σ2 H5 => ∃ (as : List Nat) (u : Nat) (W : Int), σ2 = [some (.ref a), some (.ref l), some (.int (u : Int)), some (.ref f)] ∧ Ex (less H1 f) H5 ∧ H5 f = some (.lst (iV (as.map Int.ofNat))) ∧ Walk ss last v as u W ∧ Up ss last u m2 ∧ as.length + m2 ≤ 100,
      fun σ2 H5 q => ⟨m2, Nat.lt_succ_self _, q⟩, ?_⟩
    have E4 := E3.trans e4
    refine q_app (v := .int (b : Int)) (e4 _ _ hf3) (ev_var rfl) (lastAt (ex_l E4 hL)) (by rw [List.length_map, List.length_map]; omega) fun H5 e5 => ?_
    rw [app_iV]
    have EB : Ex (less H1 f) (upd H5 f (.lst (iV ((as ++ [b]).map Int.ofNat)))) := Ex.mut ((e3.trans e4).trans e5) less_at
    refine s_asg (ev_back (hS.mono (hB.trans EB)) (ex_l (hB.trans EB) hL) (ev_var rfl) (ev_var rfl) (ev_var rfl) g1 g3 g2) fun H6 e6 => ?_
    exact ⟨as ++ [b], y, _, rfl, EB.trans e6, e6 _ _ upd_same, w.app (.step g1 g2 (.nil y)), up2, by rw [List.length_append]; simp; omega⟩
theorem pure_spread (h : sp_spread K vs H Q E) : t_spread K (Bd Q) (L2.start ["count", "sayings", "sums", "rest", "far", "lower", "upper", "number", "place"] vs) H := by
  obtain ⟨n, a, s, ss, S, rfl, hS, ok, hn, hz, ⟨f, kf⟩, hs, hl, k⟩ := h
  refine raw_q_asg (raw_call (ea2 (ev_var rfl) (ev_var rfl)) fun H1 e1 => ⟨n, a, ss, rfl, hS.mono e1, ok, hn, hz, fun rest r H2 ka _ _ hr e2 hr2 => ?_, BrkE.kept kf⟩)
  have E2 := e1.trans e2
  have hrl := keepAll_len ka
  refine q_asg ev_c fun H3 e3 => ?_
  obtain ⟨hz1, xs, hx, hp⟩ := id hS
  have hxl : xs.length = ss.length := Paired.length hp
  have E3 := E2.trans e3
  refine q_forL (ev_var rfl) (ex_l E3 hx) (fun i σ' H' => ∃ (far : Int) (w5 w6 w7 : Option V), σ' = [some (.int (n : Int)), some (.ref a), some (.ref s), some (.ref r), some (.int far), w5, w6, w7, none] ∧ Ex H3 H' ∧ Far (ss.take i) rest S far)
    (fun H4 e4 => ⟨0, none, none, none, rfl, e4, fun s hs => nomatch hs⟩) (fun i σ' H' _ ⟨_, _, _, _, _, e', _⟩ => ex_l (E3.trans e') hx) ?_ ?_
  · rintro i x σ' H' hi ⟨far, w5, w6, w7, rfl, e', hfar⟩
    obtain ⟨y, hy, tp, rfl, hT⟩ := paired_get hp hi
    have E' := E3.trans e'
    have hyb := ok.get hy
    have hs' := ex_l E' hs
    have hr' : SqL K H' r (iV rest) := sq_of ((e3.trans e') _ _ hr2)
    refine unp3 (ex_t E' hT) ?_
    obtain ⟨yl, yu, ym⟩ := y
    simp only at hyb
    have tk : ss.take (i + 1) = ss.take i ++ [(yl, yu, ym)] := by rw [List.take_succ, hy]; rfl
    have L : ∀ {σ2 : L2.St}, σ2[2]? = some (some (V.ref s)) → σ2[5]? = some (some (V.int (yl : Int))) → Ev (tOp (rIxL K) (tVar 2) (tVar 5)) σ2 H' (oV (S.getD yl none)) := fun h2 h5 => ev_op (ev_var h2) (ev_var h5) (rv_ixL hs' (at_oV (by omega)))
    have U : ∀ {σ2 : L2.St}, σ2[2]? = some (some (V.ref s)) → σ2[6]? = some (some (V.int (yu : Int))) → Ev (tOp (rIxL K) (tVar 2) (tVar 6)) σ2 H' (oV (S.getD yu none)) := fun h2 h6 => ev_op (ev_var h2) (ev_var h6) (rv_ixL hs' (at_oV (by omega)))
    refine s_when (b := (S.getD yl none).isNone && (!(S.getD yu none).isNone)) (et_and (et_is (et_test (ev_op (L rfl rfl) ev_c rv_isN)) oV_non) fun _ => et_is (et_test (ev_op (U rfl rfl) ev_c rv_notN)) (by rw [oV_non])) (fun hb H4 e4 => ?_) fun hb H4 e4 => ?_
    · rw [Bool.and_eq_true] at hb
      obtain ⟨b1, b2⟩ := hb
      cases hu : S.getD yu none with
      | none => rw [hu] at b2; cases b2
      | some y0 =>
        have U' := U (σ2 := [some (.int (n : Int)), some (.ref a), some (.ref s), some (.ref r), some (.int far), some (.int (yl : Int)), some (.int (yu : Int)), some (.int ym), none]) rfl rfl
        rw [hu] at U'
        refine s_asg (ev_max2 (ev_var rfl) (ev_op (ev_op (U'.mono e4) (ev_op (ev_var rfl) (ev_var rfl) (rv_ixL (ex_l e4 hr') (at_iV (by omega)))) rv_I0) (ev_var rfl) rv_I0)) fun H5 e5 => ?_
        refine ⟨_, _, _, _, rfl, (e'.trans e4).trans e5, fun q hq hl' y1 hy1 => ?_⟩
        rw [tk] at hq
        rcases List.mem_append.mp hq with m | m
        · have := hfar q m hl' y1 hy1
          split <;> omega
        · have eq : q = (yl, yu, ym) := by simpa using m
          subst eq
          simp only at hl' hy1 ⊢
          rw [hu] at hy1
          cases hy1
          split <;> omega
    · refine ⟨far, _, _, _, rfl, e'.trans e4, fun q hq hl' y1 hy1 => ?_⟩
      rw [tk] at hq
      rcases List.mem_append.mp hq with m | m
      · exact hfar q m hl' y1 hy1
      · have eq : q = (yl, yu, ym) := by simpa using m
        subst eq
        simp only at hl' hy1
        rw [hl', hy1] at hb
        cases hb
  · rintro σ' H' ⟨far, w5, w6, w7, rfl, e', hfar⟩
    rw [hxl, List.take_length] at hfar
    have E' := E3.trans e'
    have hs' := ex_l E' hs
    have hr' : SqL K H' r (iV rest) := sq_of ((e3.trans e') _ _ hr2)
    refine s_retL (el_mapR (n := (n : Int)) (fun v => .int (match S.getD v none with | none => rest.getD v 0 + far | some y => y)) (ea_cons (ev_var rfl) ea_nil) (by omega) (fun _ => rfl) fun i H4 e4 hi => ?_) fun p H4 hp4 e4 h4 => ?_
    · have hs4 := ex_l e4 hs'
      have A : Ev (tOp (rIxL K) (tVar 2) (tVar 8)) [some (.int (n : Int)), some (.ref a), some (.ref s), some (.ref r), some (.int far), w5, w6, w7, some (.int (i : Int))] H4 (oV (S.getD i none)) := ev_op (ev_var rfl) (ev_var rfl) (rv_ixL hs4 (at_oV (by omega)))
      cases hi' : S.getD i none with
      | none =>
        rw [hi'] at A
        exact ev_if (b := true) (et_is (et_test (ev_op A ev_c rv_isN)) rfl) (fun _ => ev_op (ev_op (ev_var rfl) (ev_var rfl) (rv_ixL (ex_l e4 hr') (at_iV (by omega)))) (ev_var rfl) rv_I0) fun z => nomatch z
      | some y =>
        rw [hi'] at A
        exact ev_if (b := false) (et_is (et_test (ev_op A ev_c rv_isN)) rfl) (fun z => nomatch z) fun _ => ev_is A rfl
    · refine k rest far p H4 ka hfar (fresh_back E' hp4) (E'.trans e4) ?_
      rw [h4]
      unfold spreadOf
      rw [iV_map]
      rfl
end
end Am

/-! while an exception is handled: [k == y for k in range(n)], y a number that the def knows -/
namespace Am
open PySem PyProof.Rows L2
theorem nat_apart {b n m C : Nat} (hb : b < n) (hC : m ≤ C) (hn : n ≤ m) : b ≠ C := by omega
theorem nat_room {n : Nat} (h : n ≤ 1000) : n ≤ sizeLine := by rw [sizeLine_eq]; omega
section
variable {prog : Program} {w : World} {A : Around} {x1 : Addr} {ox : Obj} {fx : Array Value}
/-- range(n) gone through while the exception at x1 is handled -/
theorem walks_rangeH (hh : A.handled = some (.ref x1)) (dx : ox.data = .fields fx) (cx : fx[2]? = some .none) (it : Addr) (hne : x1 ≠ it) (n : Nat) :
    Walks prog w A it [it, x1] [it] n (fun i v => ∃ t, v = .int (i : Int) t) (fun i h => IsRangeIter h it (i : Int) ((n : Int) - (i : Int)) 1 ∧ h.get? x1 = some ox) := by
  have off : ∀ b, b ∉ [it] → b ≠ it := fun b hb e => hb (List.mem_singleton.mpr e)
  constructor
  case sub => exact fun b hb => List.mem_singleton.mp hb ▸ List.mem_cons_self
  case frame => exact fun i h h' st k => ⟨k it (by simp) _ st.1, k x1 (by simp) _ st.2⟩
  case self => exact fun i s' Q' E' st => wpAny_pyIter_rangeiter st.1
  case done => exact fun s' Q' E' st hQ => HotX.pyNext_range_end_hot ⟨hh, ox, fx, st.2, dx, cx⟩ st.1 (by omega) fun h up => hQ h s'.toks fun b o _ => up b o
  case item =>
    intro i s' Q' E' hi st hQ
    refine wpAny_pyNext_range_item st.1 (by omega) fun h nx same => hQ _ h _ ⟨_, rfl⟩ ⟨?_, same.extBut x1 ox hne st.2⟩ fun b o hb => same.extBut b o (off b hb)
    have e1 : ((i + 1 : Nat) : Int) = (i : Int) + 1 := by omega
    have e2 : (n : Int) - ((i + 1 : Nat) : Int) = (n : Int) - (i : Int) - 1 := by omega
    rw [e2, e1]
    exact nx
end
/-- the names of such a comprehension -/
abbrev names3 (k y : Str) : List (Str × NameKind) := [((".0" : Str), .local), (k, .local), (y, .free)]
section
variable {k y : Str} (k0 : (k == (".0" : Str)) = false) (y0 : (y == (".0" : Str)) = false) (yk : (y == k) = false)
include k0 in
theorem n3_k : (names3 k y).lookup k = some .local := by
  simp only [names3, List.lookup_cons, k0, beq_self_eq_true]
include k0 in
theorem n3_local : ∀ v ∈ names3 k y, v.2 = .local → (names3 k y).lookup v.1 = some .local := by
  intro v hv loc
  simp only [names3, List.mem_cons, List.not_mem_nil, or_false] at hv
  rcases hv with rfl | rfl | rfl
  · simp only [names3, List.lookup_cons, beq_self_eq_true]
  · exact n3_k k0
  · cases loc
theorem n3_cell : ∀ v ∈ names3 k y, v.2 ≠ .cell := by
  intro v hv
  simp only [names3, List.mem_cons, List.not_mem_nil, or_false] at hv
  rcases hv with rfl | rfl | rfl <;> exact fun e => by cases e
theorem n3_free : ∀ v ∈ names3 k y, v.2 = .free → v.1 = y := by
  intro v hv fr
  simp only [names3, List.mem_cons, List.not_mem_nil, or_false] at hv
  rcases hv with rfl | rfl | rfl
  · cases fr
  · cases fr
  · rfl
end
section
variable {X : Cx}
/-- the reading: whether each number from 0 on is the one in slot i -/
def tLcEq (n i : Nat) : TE := fun σ H Q => ∃ m : Int, σ[i]? = some (some (.int m)) ∧ ∀ D, H D = none → Q (.ref D) (upd H D (.lst ((List.range n).map fun (j : Nat) => V.bl ((j : Int) == m))))
theorem vals_next {m : Int} {i : Nat} {ys : List Value} (r : Vals ((List.range i).map fun (j : Nat) => V.bl ((j : Int) == m)) ys) : Vals ((List.range (i + 1)).map fun (j : Nat) => V.bl ((j : Int) == m)) (ys ++ [.bool ((i : Int) == m)]) := by
  rw [List.range_succ, List.map_append]
  exact r.append (.cons rfl .nil)
theorem pe_lcEqH {n i : Nat} {z : Int} {k y : Str} {scope : Scope} {c0 : Nat} {p1 p2 p3 p4 p5 p6 p7 pos : Pos} (hot : L2H.HotC X) (few : n ≤ 1000) (hi : X.N[i]? = some y) (hy : X.env.scope.names.lookup y = some .cell) (hg : Gl X "range") (hm : X.mg "range" = none)
    (sc : scope.names = names3 k y) (kind : scope.kind = .function) (k0 : (k == (".0" : Str)) = false) (y0 : (y == (".0" : Str)) = false) (yk : (y == k) = false) (uk : Usual k) (uy : Usual y) (hz : z = (n : Int) := by rfl)
    (one : NoStar X (.Constant (.int z) c0 p6) [] := by rfl) (none_ : NoneOn X [] p7 := by rfl) : PE X (.ListComp (.Compare (.Name k p1) [.Eq] [.Name y p2] p3) [⟨.Name k p4, .Call (.Name "range" p5) [.Constant (.int z) c0 p6] [] p7, [], 0⟩] scope pos) (tLcEq n i) := by
  constructor
  rintro pins s σ H Q I ⟨m, at_, want⟩
  subst hz
  obtain ⟨c, hc⟩ := I.ok.has y (.inl hy)
  have closed : closureFor scope X.env = pure [(y, c)] := by
    rw [closure_ok fun v hv fr => ⟨c, by rw [n3_free v (sc ▸ hv) fr]; exact hc⟩, sc]
    show pure [(y, (X.env.cells.lookup y).getD 0)] = pure [(y, c)]
    rw [hc, Option.getD_some]
  refine ListComp_goes closed (sc ▸ n3_cell) kind (by rw [sc]; exact n3_local k0) ?_ (fun _ => rfl)
  refine Call_ (ld_blt I hg hm boot_range (callWith_type1 (thn ((pa_cons (pe_int (X := X)) pa_nil one).run p7 pins s σ H (fun vs H1 => vs = [.int n] ∧ H1 = H) I ⟨rfl, rfl⟩) ?_) one none_))
  rintro us s1 ⟨_, H1, I1, rel, rfl, rfl⟩
  obtain ⟨t, rfl⟩ : ∃ t, us = [.int (n : Int) t] := by
    cases rel with
    | cons r1 r => exact r1.elim fun t e => by subst e; cases r; exact ⟨t, rfl⟩
  -- what stands: the handled exception, the cell of y
  obtain ⟨⟨x1, ox⟩, ⟨hh, fx, dx, cx⟩, here⟩ := hot
  have gx : s1.heap.get? x1 = some ox := (I1.pin _ (List.mem_append_left _ here)).1
  obtain ⟨_, -, knows⟩ := I1.loc
  obtain ⟨u, ⟨ty, rfl⟩, look⟩ := knows i y (.int m) hi at_ (.inr (.inl hy))
  have cell : s1.heap.IsCell c (some (.int m ty)) := by
    rcases look with ⟨e, -⟩ | ⟨-, c', e, k⟩
    · exact absurd (hy.symm.trans e) (fun z => by cases z)
    · rw [hc] at e; cases e; exact k
  refine call_range_1 (wpAny_pyIter_range (IsRange.new ..) (small_one (by decide) (by decide) (by omega) (by omega)) ?_)
  generalize hr : s1.heap.push _ = h2
  have up2 : ∀ b o, s1.heap.get? b = some o → h2.get? b = some o := fun b o e => hr ▸ Heap.get?_push_of_some _ e
  have size2 : h2.objs.size = s1.heap.objs.size + 1 := by rw [← hr, Heap.size_push]
  have size : Builtin.Range.rangeSize 0 (n : Int) 1 = (n : Int) := by rw [rangeSize_one]; split <;> omega
  rw [size]
  have start : IsRangeIter (h2.push { cls := .type "range_iterator", data := .fields #[rawInt 0, rawInt n, rawInt 1] }) h2.objs.size ((0 : Nat) : Int) ((n : Int) - ((0 : Nat) : Int)) 1 := by
    rw [Int.ofNat_zero, Int.sub_zero]
    exact Heap.get?_push_size h2 rfl
  show LcGoes _ _ _ _ _ _ _ _ _ _ _ _ _ { s1 with heap := h2.push { cls := .type "range_iterator", data := .fields #[rawInt 0, rawInt n, rawInt 1] }, toks := s1.toks + 1 + 1 }
  generalize hi3 : h2.push _ = h3 at start ⊢
  have up3 : ∀ b o, s1.heap.get? b = some o → h3.get? b = some o := fun b o e => hi3 ▸ Heap.get?_push_of_some _ (up2 b o e)
  have size3 : h3.objs.size = s1.heap.objs.size + 2 := by rw [← hi3, Heap.size_push, size2]
  have ltx := Heap.lt_size gx
  have nex : x1 ≠ h2.objs.size := size2 ▸ Nat.ne_of_lt (Nat.lt_succ_of_lt ltx)
  refine ⟨h2.objs.size, [h2.objs.size, x1], [h2.objs.size], n, _, _, rfl, Goes.ofWalks (walks_rangeH hh dx cx _ nex n) (fun j v s' Q' E' st => letGo_of_cls st.1 rfl rfl (by decide)), nat_room few, ⟨start, up3 x1 ox gx⟩, ?_, ?_⟩
  · intro b hb
    show b < h3.objs.size
    obtain rfl | hb := List.mem_cons.mp hb
    · exact Heap.lt_size start
    · exact List.mem_singleton.mp hb ▸ Heap.lt_size (up3 x1 ox gx)
  rintro D C s4 ⟨⟨h4, tk4, rfl⟩, old, newD, newC, ne, names⟩
  have below : ∀ {b : Addr} {o : Obj} {N : Addr}, s1.heap.get? b = some o → h3.objs.size ≤ N → b ≠ N := fun e hN => nat_apart (Heap.lt_size e) hN (size3 ▸ Nat.le_add_right _ 2)
  have inter : ∀ {b : Addr} {o : Obj}, s1.heap.get? b = some o → b ≠ h2.objs.size := fun e => size2 ▸ Nat.ne_of_lt (Nat.lt_succ_of_lt (Heap.lt_size e))
  have itC : h2.objs.size ≠ C := Nat.ne_of_lt (Nat.lt_of_lt_of_le (Heap.lt_size start) newC)
  have here_k : (compEnvC scope [(y, c)] C X.env).kindOf k = some .local := lookup_relabel_local (sc ▸ n3_k k0)
  have here_y : (compEnvC scope [(y, c)] C X.env).kindOf y = some .cell := by
    show (List.map _ scope.names).lookup y = _
    rw [sc]
    have here : (X.env.scope.kind == .function) = true := by rw [I1.ok.kind]; rfl
    have ours : X.env.kindOf y = some .cell := hy
    have n1 : (NameKind.local == NameKind.free) = false := rfl
    have n2 : (NameKind.free == NameKind.free) = true := rfl
    simp only [names3, List.map_cons, List.map_nil, n1, n2, here, ours, Bool.false_and, Bool.true_and, beq_self_eq_true, Bool.false_eq_true, if_true, if_false, List.lookup_cons, y0, yk]
  have plain : ((compEnvC scope [(y, c)] C X.env).scope.kind == .class || ((compEnvC scope [(y, c)] C X.env).scope.kind == .module && (compEnvC scope [(y, c)] C X.env).locals != (compEnvC scope [(y, c)] C X.env).globals)) = false := by
    show (scope.kind == .class || (scope.kind == .module && _)) = false
    rw [kind]; rfl
  refine ⟨fun j ys s' => ∃ h tk mC, s' = { s1 with heap := h, toks := tk } ∧ h.Ns C mC ∧ Vals ((List.range j).map fun (j : Nat) => V.bl ((j : Int) == m)) ys ∧ ∀ b o, s1.heap.get? b = some o → h.get? b = some o,
    ⟨h4, tk4, _, rfl, names, .nil, fun b o e => old b o (up3 b o e)⟩, ?_, ?_, ?_⟩
  · rintro j ys _ h' tk' ⟨h, tk, mC, rfl, nC, vals, kept⟩ same -
    have off : C ∉ D :: [h2.objs.size] := by
      simp only [List.mem_cons, List.not_mem_nil, or_false, not_or]
      exact ⟨Ne.symm ne, Ne.symm itC⟩
    refine ⟨h', tk', mC, rfl, nC.at' fun o e => same C o off e, vals, fun b o e => same b o ?_ (kept b o e)⟩
    simp only [List.mem_cons, List.not_mem_nil, or_false, not_or]
    exact ⟨below e newD, inter e⟩
  · rintro j _ ys _ hj ⟨tv, rfl⟩ ⟨st, gx'⟩ ⟨h, tk, mC, rfl, nC, vals, kept⟩ plainD
    refine wpAny_assign_Name (wpAny_storeName_local here_k nC (fun h' nC' same => ?_) plain)
    refine wpAny_tests_nil (wpAny_Compare1 (wpAny_Name (wpAny_loadName_local kind here_k nC' (v := .int j tv) (by simp) ?_) uk) rfl)
    · rcases cell with ⟨oc, gc, dc⟩
      have cell' : h'.IsCell c (some (.int m ty)) := ⟨oc, same.extBut c oc (below gc newC) (kept c oc gc), dc⟩
      refine wpAny_Name (wpAny_loadName_cell kind here_y (c := c) (by show [(y, c)].lookup y = some c; simp) cell' (eq_int ?_)) uy
      have stay : ∀ b o, b ≠ C → h.get? b = some o → h'.get? b = some o := fun b o => same.extBut b o
      exact ⟨⟨h', _, _, rfl, nC', vals_next vals, fun b o e => stay b o (below e newC) (kept b o e)⟩, ⟨stay _ _ itC st, stay _ _ (below gx newC) gx'⟩, plainD.at fun o => stay D o ne⟩
  · rintro ys _ ⟨h, tk, mC, rfl, nC, vals, kept⟩ ⟨e, top⟩
    refine ⟨mC, nC, fun h' same => ?_⟩
    have above : s1.heap.objs.size ≤ D := Nat.le_trans (size3 ▸ Nat.le_add_right _ 2) newD
    have room : ((List.range n).map fun (j : Nat) => V.bl ((j : Int) == m)).length ≤ sizeLine := by
      rw [List.length_map]
      rw [List.length_range]
      exact nat_room few
    exact ⟨.ref D, upd H1 D (.lst _), I1.laid (t' := tk) (fun b o g => same.extBut b o (below g newC) (kept b o g)) above ⟨room, ys, e, vals, same.extBut D _ ne top⟩, rfl, want D (I1.hok.fresh above)⟩
/-- what can never be come to -/
def tDead : TS := fun _ _ _ => False
theorem pss_dead {st : List Stmt} : PSs X st tDead := ⟨fun _ _ _ _ _ _ h => h.elim⟩
end
end Am

/-! unpacking while an exception is handled -/
namespace Am
open PySem PyProof.Rows L2
section
variable {prog : Program} {w : World} {A : Around} {E : Value → Shared → Prop} {s : Shared} {x1 : Addr}
/-- next of a tuple's iterator that has come to the end -/
theorem tup_end_hot {it t : Addr} {i : Nat} {items : Array Value} {Q : Option Value → Shared → Prop} (hot : HotX.HotAt A x1 s.heap) (hne : x1 ≠ it) (hit : IsTupIter s.heap it t i) (ht : IsTup s.heap t items) (hx : items[i]? = none)
    (hQ : ∀ h, Heap.ExtBut it s.heap h → Q none { s with heap := h }) : wpAny (model prog w) A (pyNext (.ref it)) Q E s := by
  have ty := hit.typeIs
  rcases hit with ⟨⟨ci, di, ai, si⟩, ho, hc, hd⟩
  rcases ht with ⟨⟨cq, dq, aq, sq⟩, hq, _, nq, eq⟩
  dsimp only at hc hd eq
  subst hc hd eq
  unfold pyNext
  refine wpAny_bind (wpAny_attempt (wpAny_callSpecial?_slot ty slot_tupleiter_next (wpAny_call_entry slot_tupleiter_next ty entry_tupleiter_next ?_ (args_tupleiter_next _))))
  unfold Builtin.«tuple_iterator.__next__»
  wp_walk
  rw [Int.toNat_natCast, hx]
  dsimp only
  refine tail_hot (A := A.in1) hot hne ho rfl (by simp) fun a h ext ⟨oe, ge, ce⟩ => wpAny_bind (wpAny_isInstance ⟨oe, ge, ce⟩ isSubtype_stop ?_)
  exact wpAny_pure (hQ h ext)
/-- the items of a tuple, just as many as are asked for -/
theorem unpackItems_hot {t : Addr} {items : Array Value} {Q : List Value → Shared → Prop} (hot : HotX.HotAt A x1 s.heap) (ht : IsTup s.heap t items) (hQ : ∀ h, Heap.ExtBut s.heap.objs.size s.heap h → Q items.toList { s with heap := h }) :
    wpAny (model prog w) A (unpackItems (.ref t) items.size none) Q E s := by
  have ty := ht.typeIs
  have lk := slot_tuple_iter.lookup
  unfold unpackItems notIterableAtAll
  wp_walk using iter_tuple ht
  have lt : t < s.heap.objs.size := ht.elim fun _ k => Heap.lt_size k.1
  have ltx : x1 < s.heap.objs.size := hot.2.elim fun _ ⟨_, k, _⟩ => Heap.lt_size k
  refine draw_tuple (Nat.ne_of_lt lt) items.size 0 _ _ ⟨_, Heap.get?_push_size _ rfl, rfl, rfl⟩ (ht.push _) (Nat.le_of_eq (Nat.zero_add _)) fun h nx same => ?_
  have all : (items.toList.drop 0).take items.size = items.toList := List.take_of_length_le (by simp)
  have kept : ∀ b, b < s.heap.objs.size → ∀ o, s.heap.get? b = some o → h.get? b = some o := fun b hb o e => same.extBut b o (Nat.ne_of_lt hb) (Heap.get?_push_of_some _ e)
  rw [all]
  refine wpAny_ite_false (by simp) ?_
  refine wpAny_bind (wpAny_holding (tup_end_hot (x1 := x1) ?_ (Nat.ne_of_lt ltx) nx (items := items) (ht.imp fun o k => ⟨kept t lt o k.1, k.2⟩) (by simp) fun h2 ext => ?_))
  · rcases hot with ⟨hh, ox, fx, gx, rest⟩
    exact ⟨hh, ox, fx, kept x1 ltx ox gx, rest⟩
  refine wpAny_ite_false (by simp) (wpAny_pure (hQ h2 fun b o hb e => ext b o hb (kept b (Heap.lt_size e) o e)))
end
section
variable {X : Cx}
theorem pg_tupH {es : List Expr} {k : Nat} {t : TGs} {n : Nat} {pos : Pos} (hc : L2H.HotC X) (h : PGs X es t) (hn : (assignEach es X.env).length = n := by rfl) (hst : (assignEach es X.env).findIdx? (·.1) = none := by rfl) : PG X (.Tuple es k pos) (gTup X.K n t) := by
  constructor
  rintro pins s σ H _ _ Q I rel ⟨a, xs, rfl, held, many, want⟩
  cases rel
  obtain ⟨x1, hot⟩ := hc.at I
  obtain ⟨items, vals, isT, -⟩ := I.tuple held
  have len : (assignEach es X.env).length = items.toArray.size := by rw [hn, List.size_toArray, ← vals.length, many]
  rw [assign_Tuple, unpack, hst, len]
  refine wpAny_bind (wpAny_standAt (wpAny_bind (wpAny_holding (unpackItems_hot hot isT fun h' ext => ?_))))
  have up : ∀ b o, s.heap.get? b = some o → h'.get? b = some o := fun b o e => ext b o (Nat.ne_of_lt (Heap.lt_size e)) e
  exact h.run pins _ σ H xs items Q (I.kept (t' := s.toks) up) (by simpa using vals) want
theorem vals_two {v w : V} {us : List Value} (r : Vals [v, w] us) : ∃ u1 u2, us = [u1, u2] ∧ RelV v u1 ∧ RelV w u2 := by
  cases r with
  | cons r1 r => cases r with
    | cons r2 r => cases r; exact ⟨_, _, rfl, r1, r2⟩
/-- the targets x, y and the values a, b of x, y = a, b -/
abbrev two (x y : Str) (px py pt : Pos) (k : Nat) : List Expr := [.Tuple [.Name x px, .Name y py] k pt]
abbrev pair (a b : Expr) (k : Nat) (p : Pos) : Expr := .Tuple [a, b] k p
theorem ps_parH {i j : Nat} {x y : Str} {a b : Expr} {ta : TA} {px py pt pos : Pos} {kt k2 pt2} (hc : L2H.HotC X) (hN : X.N.Nodup)
    (hi : X.N[i]? = some x) (hj : X.N[j]? = some y) (hij : i ≠ j) (hx : X.env.scope.names.lookup x = some .local)
    (hy : X.env.scope.names.lookup y = some .local) (ha : PA X [a, b] ta) (sw : swappedStores (two x y px py pt kt) (pair a b k2 pt2) X.env = pure (some [x, y]))
    (hs : swapsWithSole (two x y px py pt kt) (pair a b k2 pt2) pos.line X.env = pure false := by rfl) : PS X (.Assign (two x y px py pt kt) (pair a b k2 pt2) pos) (tPar i j ta) := by
  constructor
  intro pins s σ H D I ask
  rw [exec_Assign_arm]
  wp_walk
  refine thn (ha.run pt2 pins s σ H _ I ask) fun us s1 ⟨vs, H1, I1, rel, v, w, evs, want⟩ => ?_
  subst evs
  obtain ⟨u1, u2, rfl, r1, r2⟩ := vals_two rel
  refine wpAny_newObj_type (wpAny_bind (wpAny_of_eq sw ?_)) (by size_fits)
  have top : IsTup (s1.heap.push { cls := .type "tuple", data := .seq #[u1, u2] }) s1.heap.objs.size #[u1, u2] := IsTup.new s1.heap _
  have I2 : Inv X pins σ H1 { s1 with heap := s1.heap.push { cls := .type "tuple", data := .seq #[u1, u2] } } := I1.kept (t' := s1.toks) fun c o => Heap.get?_push_of_some _
  unfold assignStores
  dsimp only
  obtain ⟨x1, hot⟩ := hc.at I2
  refine wpAny_bind (wpAny_rule (wpAny_bind (m := unpackItems _ _ _) ?_))
  refine unpackItems_hot (items := #[u1, u2]) hot top fun h ext => wpAny_bind ?_
  have I3 := I2.kept (h' := h) (t' := s1.toks) fun c o e => ext c o (Nat.ne_of_lt (Heap.lt_size e)) e
  -- the second name takes the second value first, then the first name
  show wpAny _ _ (assignInOrder [bindName X.env y, bindName X.env x] [u2, u1]) _ _ _
  refine assignInOrder_cons (wpAny_bindName (store_ok I3 hN hj (.inl hy) r2 (fun s4 I4 => ?_) (.inr hy)))
  refine assignInOrder_cons (wpAny_bindName (store_ok I4 hN hi (.inl hx) r1 (fun s5 I5 => ?_) (.inr hx)))
  refine assignInOrder_nil (wpAny_pure ⟨_, H1, I5, ?_⟩)
  exact List.set_comm (some v) (some w) hij ▸ want
end
end Am

/-! law 8: what is refused, and by which class -/
namespace Am
namespace R8
open PySem L2 Evl
open He (ga ma)
/-! ### words -/
def exnm : Nat → Str
  | 0 => "BadCount"
  | 1 => "BadSayings"
  | 2 => "BadPlace"
  | 3 => "BadNumber"
  | _ => "Broken"
/-- the due-th class is raised, whatever the heap -/
def ErrE (K : PySem.W.Frag) (due : Nat) (H : Hp) (E : XK) : Prop := if due = 4 then ∀ dd fs H2, Ex H H2 → H2 dd = some (.xd fs) → E (.ref (ga K "Broken")) (some dd) H2 else ∀ H2, Ex H H2 → E (.ref (ga K (exnm due))) none H2
def cntBad : V → Bool
  | .int i => decide (i < 1)
  | _ => true
def SayVal (K : PySem.W.Frag) (H : Hp) (n : Int) (x : V) (b : Bool) : Prop := (∃ tn, TyX K H x (.type tn) ∧ tn ∈ kinds ∧ tn ≠ "tuple" ∧ b = false) ∨ ∃ t xs, x = .ref t ∧ SqT K H t xs ∧ (∀ y ∈ xs, Kn K H y) ∧ b = okTup n xs
def NoList (K : PySem.W.Frag) (H : Hp) (x : V) : Prop := ∃ tn, TyX K H x (.type tn) ∧ tn ∈ kinds ∧ tn ≠ "list"
def BadSays (K : PySem.W.Frag) (n : Int) (H : Hp) (v : V) : Prop := NoList K H v ∨ ∃ a xs bs, v = .ref a ∧ SqL K H a xs ∧ xs.length ≤ 1000 ∧ Paired (SayVal K H n) xs bs ∧ bs.all id = false
def BadHts (K : PySem.W.Frag) (n : Nat) (H : Hp) (h : V) : Prop := NoList K H h ∨ ∃ b xs, h = .ref b ∧ SqL K H b xs ∧ xs.length ≤ 1000 ∧ (∀ x ∈ xs, Kn K H x) ∧ (xs.length ≠ n ∨ xs.all isI = false)
def BadCh (K : PySem.W.Frag) (ss : List Say) (p q : Nat) (H : Hp) (ch : V) : Prop := NoList K H ch ∨ ∃ c xs, ch = .ref c ∧ SqL K H c xs ∧ xs.length ≤ 1000 ∧ (∀ x ∈ xs, Kn K H x) ∧ (xs.all (isB (ss.length : Int)) = false ∨ ∃ cs, xs = iV cs ∧ xs.all (isB (ss.length : Int)) = true ∧ sumAlong ss cs p q = none)
def GoodSay (K : PySem.W.Frag) (H : Hp) (cnt says : V) (n : Nat) (a : Addr) (ss : List Say) : Prop := cnt = .int (n : Int) ∧ says = .ref a ∧ 0 < n ∧ Says K H a ss ∧ Ok n ss
def RefSay (K : PySem.W.Frag) (H : Hp) (cnt says : V) (due : Nat) : Prop := (due = 0 ∧ Kn K H cnt ∧ cntBad cnt = true) ∨ (due = 1 ∧ ∃ n : Nat, cnt = .int (n : Int) ∧ 0 < n ∧ BadSays K (n : Int) H says)
def RefPl (K : PySem.W.Frag) (H : Hp) (n : Nat) (one other : V) : Prop := Kn K H one ∧ (isB (n : Int) one = false ∨ (Kn K H other ∧ isB (n : Int) other = false))
def RefKept (K : PySem.W.Frag) (H : Hp) (cnt says h : V) (due : Nat) : Prop := RefSay K H cnt says due ∨ (due = 3 ∧ ∃ n a ss, GoodSay K H cnt says n a ss ∧ BadHts K n H h)
def RefSum (K : PySem.W.Frag) (H : Hp) (cnt says ch one other : V) (due : Nat) : Prop := RefSay K H cnt says due ∨ (due = 2 ∧ ∃ n a ss, GoodSay K H cnt says n a ss ∧ RefPl K H n one other) ∨ (due = 3 ∧ ∃ (n : Nat) (a : Addr) (ss : List Say) (p q : Nat), GoodSay K H cnt says n a ss ∧ one = .int (p : Int) ∧ other = .int (q : Int) ∧ p < n ∧ q < n ∧ BadCh K ss p q H ch)
def RefPls (K : PySem.W.Frag) (H : Hp) (cnt says one other : V) (due : Nat) : Prop := RefSay K H cnt says due ∨ (due = 2 ∧ ∃ n a ss, GoodSay K H cnt says n a ss ∧ RefPl K H n one other) ∨ (due = 4 ∧ ∃ (n : Nat) (a : Addr) (ss : List Say) (p q : Nat) (c : List Int), GoodSay K H cnt says n a ss ∧ one = .int (p : Int) ∧ other = .int (q : Int) ∧ p < n ∧ q < n ∧ n ≤ 100 ∧ isRing ss c = true)
def RefNdl (K : PySem.W.Frag) (H : Hp) (cnt says at' : V) (due : Nat) : Prop := RefSay K H cnt says due ∨ (due = 3 ∧ ∃ n a ss, GoodSay K H cnt says n a ss ∧ Kn K H at' ∧ isB (ss.length : Int) at' = false) ∨ (due = 4 ∧ ∃ (n : Nat) (a : Addr) (ss : List Say) (i : Nat) (c : List Int), GoodSay K H cnt says n a ss ∧ at' = .int (i : Int) ∧ i < ss.length ∧ n ≤ 100 ∧ isRing ss c = true)
def RefEnd (K : PySem.W.Frag) (H : Hp) (cnt says top : V) (due : Nat) : Prop := RefSay K H cnt says due ∨ (due = 3 ∧ ∃ n a ss, GoodSay K H cnt says n a ss ∧ Kn K H top ∧ isI top = false) ∨ (due = 4 ∧ ∃ (n : Nat) (a : Addr) (ss : List Say) (t : Int) (c : List Int), GoodSay K H cnt says n a ss ∧ top = .int t ∧ n ≤ 100 ∧ isRing ss c = true)
def AskR (K : PySem.W.Frag) (H : Hp) (d : Nat) (cnt says one other : V) (due : Nat) : Prop := match d with
  | 0 => RefKept K H cnt says one due
  | 1 => RefSum K H cnt says other one (.int 0) due
  | 2 => RefSay K H cnt says due
  | 3 => RefPls K H cnt says one other due
  | 4 => RefPls K H cnt says one other due
  | 5 => RefNdl K H cnt says one due
  | 6 => RefEnd K H cnt says one due
  | 7 => RefEnd K H cnt says one due
  | 8 => RefSum K H cnt says other (.int 0) one due
  | _ => False
/-! ### promises -/
def sp_check_sayings (K : PySem.W.Frag) : Sp := fun vs H Q E => ∃ cnt says, vs = [cnt, says] ∧ ((∃ due, RefSay K H cnt says due ∧ ErrE K due H E) ∨ ((∃ n a ss, GoodSay K H cnt says n a ss) ∧ ∀ H2, Ex H H2 → Q .non H2))
def sp_check_places (K : PySem.W.Frag) : Sp := fun vs H Q E => ∃ (n : Nat) (one other : V), vs = [.int (n : Int), one, other] ∧ ((RefPl K H n one other ∧ ErrE K 2 H E) ∨ ((∃ p q : Nat, one = .int (p : Int) ∧ other = .int (q : Int) ∧ p < n ∧ q < n) ∧ ∀ H2, Ex H H2 → Q .non H2))
def sp_kept (K : PySem.W.Frag) : Sp := fun vs H Q E => ∃ cnt says h, vs = [cnt, says, h] ∧ ((∃ due, RefKept K H cnt says h due ∧ ErrE K due H E) ∨ ∃ (n : Nat) (a b : Addr) (ss : List Say) (hs : List Int), GoodSay K H cnt says n a ss ∧ h = .ref b ∧ SqL K H b (iV hs) ∧ hs.length = n ∧ n ≤ 1000 ∧ ∀ H2, Ex H H2 → Q (.bl (keepAll n ss hs)) H2)
def sp_sum_of (K : PySem.W.Frag) : Sp := fun vs H Q E => ∃ cnt says ch one other, vs = [cnt, says, ch, one, other] ∧ ((∃ due, RefSum K H cnt says ch one other due ∧ ErrE K due H E) ∨ ∃ (n : Nat) (a c : Addr) (ss : List Say) (cs : List Int) (p q : Nat) (W : Int), GoodSay K H cnt says n a ss ∧ ch = .ref c ∧ SqL K H c (iV cs) ∧ cs.length ≤ 1000 ∧ (∀ x ∈ cs, 0 ≤ x ∧ x < (ss.length : Int)) ∧ one = .int (p : Int) ∧ other = .int (q : Int) ∧ p < n ∧ q < n ∧ sumAlong ss cs p q = some W ∧ ∀ H2, Ex H H2 → Q (.int W) H2)
def sp_heights (K : PySem.W.Frag) : Sp := fun vs H Q E => ∃ cnt says due, vs = [cnt, says] ∧ RefSay K H cnt says due ∧ ErrE K due H E
def sp_follows (K : PySem.W.Frag) : Sp := fun vs H Q E => ∃ cnt says one other due, vs = [cnt, says, one, other] ∧ RefPls K H cnt says one other due ∧ ErrE K due H E
def sp_fixed (K : PySem.W.Frag) : Sp := sp_follows K
def sp_needless (K : PySem.W.Frag) : Sp := fun vs H Q E => ∃ cnt says one due, vs = [cnt, says, one] ∧ RefNdl K H cnt says one due ∧ ErrE K due H E
def sp_highest (K : PySem.W.Frag) : Sp := fun vs H Q E => ∃ cnt says one due, vs = [cnt, says, one] ∧ RefEnd K H cnt says one due ∧ ErrE K due H E
def sp_lowest (K : PySem.W.Frag) : Sp := sp_highest K
def sp__law_ask (K : PySem.W.Frag) : Sp := fun vs H Q E => ∃ (d : Nat) (cnt says one other : V) (due : Nat), vs = [.int (d : Int), cnt, says, one, other] ∧ d < 9 ∧ AskR K H d cnt says one other due ∧ ErrE K due H E
def sp__law_due (K : PySem.W.Frag) : Sp := Pur fun vs H z => ∃ (d : Nat) (cnt says one other : V) (due : Nat), vs = [.int (d : Int), cnt, says, one, other, .int (due : Int)] ∧ d < 9 ∧ due < 5 ∧ AskR K H d cnt says one other due ∧ z = .bl true
def t_check_sayings (K : PySem.W.Frag) (E : XK) : TS := tSeq (tIfS (tOr (tNot (tB (tCall (sp_is_number K) [] E0 (tCons (tVar 0) (tNil))))) (tTest (tOp rLtI (tVar 0) (tC (.int 1))))) (tRaiseC (ga K "BadCount") E) (tNext)) (tIfS (tOr (tNot (tB (tCB (rIsi K) (tCons (tVar 1) (tCons ((tC (.ty "list"))) (tNil)))))) (tNot (tB (tCB (rAll K) (tCons (tLc (iList K (tVar 1)) (gName 2) (tYes) (tCall (sp_is_saying K) [] E0 (tCons (tVar 2) (tCons (tVar 0) (tNil)))) [2]) (tNil)))))) (tRaiseC (ga K "BadSayings") E) (tNext))
def t_check_places (K : PySem.W.Frag) (E : XK) : TS := tIfS (tOr (tNot (tB (tCall (sp_is_below K) [] E0 (tCons (tVar 1) (tCons (tVar 0) (tNil)))))) (tNot (tB (tCall (sp_is_below K) [] E0 (tCons (tVar 2) (tCons (tVar 0) (tNil))))))) (tRaiseC (ga K "BadPlace") E) (tNext)
def t_kept (K : PySem.W.Frag) (E : XK) : TS := tSeq (tDrop (tCall (sp_check_sayings K) [] E (tCons (tVar 0) (tCons (tVar 1) (tNil))))) (tSeq (tIfS (tOr (tNot (tB (tCB (rIsi K) (tCons (tVar 2) (tCons ((tC (.ty "list"))) (tNil)))))) (tOr (tTest (tOp rNe (tCB (rLenS K) (tCons (tVar 2) (tNil))) (tVar 0))) (tNot (tB (tCB (rAll K) (tCons (tLc (iList K (tVar 2)) (gName 3) (tYes) (tCall (sp_is_number K) [] E0 (tCons (tVar 3) (tNil))) [3]) (tNil))))))) (tRaiseC (ga K "BadNumber") E) (tNext)) (tRet (tCall (sp_keep_all K) [] E0 (tCons (tVar 0) (tCons (tVar 1) (tCons (tVar 2) (tNil)))))))
def t_sum_of (K : PySem.W.Frag) (E : XK) : TS := tSeq (tDrop (tCall (sp_check_sayings K) [] E (tCons (tVar 0) (tCons (tVar 1) (tNil))))) (tSeq (tDrop (tCall (sp_check_places K) [] E (tCons (tVar 0) (tCons (tVar 3) (tCons (tVar 4) (tNil)))))) (tSeq (tIfS (tOr (tNot (tB (tCB (rIsi K) (tCons (tVar 2) (tCons ((tC (.ty "list"))) (tNil)))))) (tNot (tB (tCB (rAll K) (tCons (tLc (iList K (tVar 2)) (gName 6) (tYes) (tCall (sp_is_below K) [] E0 (tCons (tVar 6) (tCons (tCB (rLenS K) (tCons (tVar 1) (tNil))) (tNil)))) [6]) (tNil)))))) (tRaiseC (ga K "BadNumber") E) (tNext)) (tSeq (tAsg (tCall (sp_sum_along K) [] E0 (tCons (tVar 1) (tCons (tVar 2) (tCons (tVar 3) (tCons (tVar 4) (tNil)))))) (gName 5)) (tSeq (tIfS (tTest (tOp rIsN0 (tVar 5) (tC .non))) (tRaiseC (ga K "BadNumber") E) (tNext)) (tRet (tVar 5))))))
def t_heights (K : PySem.W.Frag) (E : XK) : TS := tSeq (tDrop (tCall (sp_check_sayings K) [] E (tCons (tVar 0) (tCons (tVar 1) (tNil))))) (tDead)
def t_follows (K : PySem.W.Frag) (E : XK) : TS := tSeq (tDrop (tCall (sp_check_sayings K) [] E (tCons (tVar 0) (tCons (tVar 1) (tNil))))) (tSeq (tDrop (tCall (sp_check_places K) [] E (tCons (tVar 0) (tCons (tVar 2) (tCons (tVar 3) (tNil)))))) (tSeq (tDrop (tCall (sp_settled K) [] E (tCons (tVar 0) (tCons (tVar 1) (tNil))))) (tDead)))
def t_fixed (K : PySem.W.Frag) (E : XK) : TS := tSeq (tDrop (tCall (sp_check_sayings K) [] E (tCons (tVar 0) (tCons (tVar 1) (tNil))))) (tSeq (tDrop (tCall (sp_check_places K) [] E (tCons (tVar 0) (tCons (tVar 2) (tCons (tVar 3) (tNil)))))) (tSeq (tAsg (tCall (sp_settled K) [] E (tCons (tVar 0) (tCons (tVar 1) (tNil)))) (gName 4)) (tDead)))
def t_needless (K : PySem.W.Frag) (E : XK) : TS := tSeq (tDrop (tCall (sp_check_sayings K) [] E (tCons (tVar 0) (tCons (tVar 1) (tNil))))) (tSeq (tIfS (tNot (tB (tCall (sp_is_below K) [] E0 (tCons (tVar 2) (tCons (tCB (rLenS K) (tCons (tVar 1) (tNil))) (tNil)))))) (tRaiseC (ga K "BadNumber") E) (tNext)) (tSeq (tDrop (tCall (sp_settled K) [] E (tCons (tVar 0) (tCons (tVar 1) (tNil))))) (tDead)))
def t_highest (K : PySem.W.Frag) (E : XK) : TS := tSeq (tDrop (tCall (sp_check_sayings K) [] E (tCons (tVar 0) (tCons (tVar 1) (tNil))))) (tSeq (tIfS (tNot (tB (tCall (sp_is_number K) [] E0 (tCons (tVar 2) (tNil))))) (tRaiseC (ga K "BadNumber") E) (tNext)) (tRet (tLc (iList K (tCall (sp_settled K) [] E (tCons (tVar 0) (tCons (tVar 1) (tNil))))) (gName 3) (tYes) (tOp rAddI (tVar 2) (tVar 3)) [3])))
def t_lowest (K : PySem.W.Frag) (E : XK) : TS := tSeq (tDrop (tCall (sp_check_sayings K) [] E (tCons (tVar 0) (tCons (tVar 1) (tNil))))) (tSeq (tIfS (tNot (tB (tCall (sp_is_number K) [] E0 (tCons (tVar 2) (tNil))))) (tRaiseC (ga K "BadNumber") E) (tNext)) (tSeq (tDrop (tCall (sp_settled K) [] E (tCons (tVar 0) (tCons (tVar 1) (tNil))))) (tDead)))
def t__law_ask (K : PySem.W.Frag) (E : XK) : TS := tSeq (tIfS (tTest (tOp rLtI (tVar 0) (tC (.int 2)))) (tRet (tIf (tTest (tOp rEq (tVar 0) (tC (.int 0)))) (tCall (sp_kept K) [] E (tCons (tVar 1) (tCons (tVar 2) (tCons (tVar 3) (tNil))))) (tCall (sp_sum_of K) [] E (tCons (tVar 1) (tCons (tVar 2) (tCons (tVar 4) (tCons (tVar 3) (tCons (tC (.int 0)) (tNil))))))))) (tNext)) (tSeq (tIfS (tTest (tOp rLtI (tVar 0) (tC (.int 4)))) (tRet (tIf (tTest (tOp rEq (tVar 0) (tC (.int 2)))) (tCall (sp_heights K) [] E (tCons (tVar 1) (tCons (tVar 2) (tNil)))) (tCall (sp_follows K) [] E (tCons (tVar 1) (tCons (tVar 2) (tCons (tVar 3) (tCons (tVar 4) (tNil)))))))) (tNext)) (tSeq (tIfS (tTest (tOp rLtI (tVar 0) (tC (.int 6)))) (tRet (tIf (tTest (tOp rEq (tVar 0) (tC (.int 4)))) (tCall (sp_fixed K) [] E (tCons (tVar 1) (tCons (tVar 2) (tCons (tVar 3) (tCons (tVar 4) (tNil)))))) (tCall (sp_needless K) [] E (tCons (tVar 1) (tCons (tVar 2) (tCons (tVar 3) (tNil))))))) (tNext)) (tSeq (tIfS (tTest (tOp rEq (tVar 0) (tC (.int 8)))) (tRet (tCall (sp_sum_of K) [] E (tCons (tVar 1) (tCons (tVar 2) (tCons (tVar 4) (tCons (tC (.int 0)) (tCons (tVar 3) (tNil)))))))) (tNext)) (tRet (tIf (tTest (tOp rEq (tVar 0) (tC (.int 6)))) (tCall (sp_highest K) [] E (tCons (tVar 1) (tCons (tVar 2) (tCons (tVar 3) (tNil))))) (tCall (sp_lowest K) [] E (tCons (tVar 1) (tCons (tVar 2) (tCons (tVar 3) (tNil))))))))))
def t__law_due (K : PySem.W.Frag) : TS := tSeq (tTry K "SayError" 6 (fun W => tDrop (tCallS (sp__law_ask K) (WE W) (tCons (tVar 0) (tCons (tVar 1) (tCons (tVar 2) (tCons (tVar 3) (tCons (tVar 4) (tNil)))))))) (fun a c d => tSeq (tAsg (tLst (tCons (tCB (rIsX K c d a) (tCons (tVar 6) (tCons ((tC (.ref (ga K "BadCount")))) (tNil)))) (tCons (tCB (rIsX K c d a) (tCons (tVar 6) (tCons ((tC (.ref (ga K "BadSayings")))) (tNil)))) (tCons (tCB (rIsX K c d a) (tCons (tVar 6) (tCons ((tC (.ref (ga K "BadPlace")))) (tNil)))) (tNil))))) (gName 7)) (tSeq (tAsg (tOp rCat (tVar 7) (tLst (tCons (tCB (rIsX K c d a) (tCons (tVar 6) (tCons ((tC (.ref (ga K "BadNumber")))) (tNil)))) (tCons (tCB (rIsX K c d a) (tCons (tVar 6) (tCons ((tC (.ref (ga K "Broken")))) (tNil)))) (tNil))))) (gName 7)) (tRet (tAndV (tOp (rEqD K) (tVar 7) (tLcEq 5 5)) (tCB (rIsX K c d a) (tCons (tVar 6) (tCons ((tC (.ty "ValueError"))) (tNil))))))))) (tRet (tC (.bl false)))
section
variable {K : PySem.W.Frag} {vs : List V} {H H' : Hp} {Q : VK} {E : XK} {σ : L2.St} {ta tb tc td te tl t1 t2 t3 t4 : TE} {tt : TT} {tz tu : TS} {D : Ends} {ts : TA} {x l m : Addr}
theorem ErrE.mono {due : Nat} (h : ErrE K due H E) (e : Ex H H') : ErrE K due H' E := by
  unfold ErrE at h ⊢
  split
  · rename_i hd
    rw [if_pos hd] at h
    exact fun dd fs H2 e2 h2 => h dd fs H2 (e.trans e2) h2
  · rename_i hd
    rw [if_neg hd] at h
    exact fun H2 e2 => h H2 (e.trans e2)
theorem ErrE.at0 (h : ErrE K 0 H E) : E (.ref (ga K "BadCount")) none H := h H (Ex.refl H)
theorem ErrE.at1 (h : ErrE K 1 H E) : E (.ref (ga K "BadSayings")) none H := h H (Ex.refl H)
theorem ErrE.at2 (h : ErrE K 2 H E) : E (.ref (ga K "BadPlace")) none H := h H (Ex.refl H)
theorem ErrE.at3 (h : ErrE K 3 H E) : E (.ref (ga K "BadNumber")) none H := h H (Ex.refl H)
theorem ErrE.brk {ss : List Say} (h : ErrE K 4 H E) : BrkE K H ss E := fun c d r H2 _ _ _ _ e hd _ => h d _ H2 e hd
theorem SayVal.mono {n : Int} {v : V} {b : Bool} (h : SayVal K H n v b) (e : Ex H H') : SayVal K H' n v b := by
  rcases h with ⟨tn, h1, h2⟩ | ⟨t, xs, h1, h2, h3, h4⟩
  · exact .inl ⟨tn, ty_mono e h1, h2⟩
  · exact .inr ⟨t, xs, h1, ex_t e h2, fun y hy => (h3 y hy).mono e, h4⟩
theorem NoList.mono {v : V} (h : NoList K H v) (e : Ex H H') : NoList K H' v := by
  obtain ⟨tn, h1, h2⟩ := h
  exact ⟨tn, ty_mono e h1, h2⟩
theorem BadSays.mono {n : Int} {v : V} (h : BadSays K n H v) (e : Ex H H') : BadSays K n H' v := by
  rcases h with h | ⟨a, xs, bs, h1, h2, h3, h4, h5⟩
  · exact .inl (h.mono e)
  · exact .inr ⟨a, xs, bs, h1, ex_l e h2, h3, L2.Paired.mapP h4 fun _ _ z => z.mono e, h5⟩
theorem BadHts.mono {n : Nat} {v : V} (h : BadHts K n H v) (e : Ex H H') : BadHts K n H' v := by
  rcases h with h | ⟨a, xs, h1, h2, h3, h4, h5⟩
  · exact .inl (h.mono e)
  · exact .inr ⟨a, xs, h1, ex_l e h2, h3, fun y hy => (h4 y hy).mono e, h5⟩
theorem BadCh.mono {ss : List Say} {p q : Nat} {v : V} (h : BadCh K ss p q H v) (e : Ex H H') : BadCh K ss p q H' v := by
  rcases h with h | ⟨a, xs, h1, h2, h3, h4, h5⟩
  · exact .inl (h.mono e)
  · exact .inr ⟨a, xs, h1, ex_l e h2, h3, fun y hy => (h4 y hy).mono e, h5⟩
theorem GoodSay.mono {cnt says : V} {n : Nat} {a : Addr} {ss : List Say} (h : GoodSay K H cnt says n a ss) (e : Ex H H') : GoodSay K H' cnt says n a ss := ⟨h.1, h.2.1, h.2.2.1, h.2.2.2.1.mono e, h.2.2.2.2⟩
theorem RefSay.mono {cnt says : V} {due : Nat} (h : RefSay K H cnt says due) (e : Ex H H') : RefSay K H' cnt says due := by
  rcases h with ⟨h1, h2, h3⟩ | ⟨h1, n, h2, h3, h4⟩
  · exact .inl ⟨h1, h2.mono e, h3⟩
  · exact .inr ⟨h1, n, h2, h3, h4.mono e⟩
theorem RefPl.mono {n : Nat} {one other : V} (h : RefPl K H n one other) (e : Ex H H') : RefPl K H' n one other := ⟨h.1.mono e, h.2.imp id fun z => ⟨z.1.mono e, z.2⟩⟩
theorem RefKept.mono {cnt says h : V} {due : Nat} (r : RefKept K H cnt says h due) (e : Ex H H') : RefKept K H' cnt says h due := by
  rcases r with r | ⟨h1, n, a, ss, h2, h3⟩
  · exact .inl (r.mono e)
  · exact .inr ⟨h1, n, a, ss, h2.mono e, h3.mono e⟩
theorem RefSum.mono {cnt says ch one other : V} {due : Nat} (r : RefSum K H cnt says ch one other due) (e : Ex H H') : RefSum K H' cnt says ch one other due := by
  rcases r with r | ⟨h1, n, a, ss, h2, h3⟩ | ⟨h1, n, a, ss, p, q, h2, h3, h4, h5, h6, h7⟩
  · exact .inl (r.mono e)
  · exact .inr (.inl ⟨h1, n, a, ss, h2.mono e, h3.mono e⟩)
  · exact .inr (.inr ⟨h1, n, a, ss, p, q, h2.mono e, h3, h4, h5, h6, h7.mono e⟩)
theorem RefPls.mono {cnt says one other : V} {due : Nat} (r : RefPls K H cnt says one other due) (e : Ex H H') : RefPls K H' cnt says one other due := by
  rcases r with r | ⟨h1, n, a, ss, h2, h3⟩ | ⟨h1, n, a, ss, p, q, c, h2, h3⟩
  · exact .inl (r.mono e)
  · exact .inr (.inl ⟨h1, n, a, ss, h2.mono e, h3.mono e⟩)
  · exact .inr (.inr ⟨h1, n, a, ss, p, q, c, h2.mono e, h3⟩)
theorem RefNdl.mono {cnt says at' : V} {due : Nat} (r : RefNdl K H cnt says at' due) (e : Ex H H') : RefNdl K H' cnt says at' due := by
  rcases r with r | ⟨h1, n, a, ss, h2, h3, h4⟩ | ⟨h1, n, a, ss, i, c, h2, h3⟩
  · exact .inl (r.mono e)
  · exact .inr (.inl ⟨h1, n, a, ss, h2.mono e, h3.mono e, h4⟩)
  · exact .inr (.inr ⟨h1, n, a, ss, i, c, h2.mono e, h3⟩)
theorem RefEnd.mono {cnt says top : V} {due : Nat} (r : RefEnd K H cnt says top due) (e : Ex H H') : RefEnd K H' cnt says top due := by
  rcases r with r | ⟨h1, n, a, ss, h2, h3, h4⟩ | ⟨h1, n, a, ss, t, c, h2, h3⟩
  · exact .inl (r.mono e)
  · exact .inr (.inl ⟨h1, n, a, ss, h2.mono e, h3.mono e, h4⟩)
  · exact .inr (.inr ⟨h1, n, a, ss, t, c, h2.mono e, h3⟩)
theorem AskR.mono {d : Nat} {cnt says one other : V} {due : Nat} (hd : d < 9) (r : AskR K H d cnt says one other due) (e : Ex H H') : AskR K H' d cnt says one other due := by
  have : d = 0 ∨ d = 1 ∨ d = 2 ∨ d = 3 ∨ d = 4 ∨ d = 5 ∨ d = 6 ∨ d = 7 ∨ d = 8 := by omega
  rcases this with rfl | rfl | rfl | rfl | rfl | rfl | rfl | rfl | rfl
  · exact RefKept.mono r e
  · exact RefSum.mono r e
  · exact RefSay.mono r e
  · exact RefPls.mono r e
  · exact RefPls.mono r e
  · exact RefNdl.mono r e
  · exact RefEnd.mono r e
  · exact RefEnd.mono r e
  · exact RefSum.mono r e
/-! ### the readings -/
theorem noList {v : V} {y : TE} (h : NoList K H v) (hy : Ev y σ H v) : Ev (tCB (rIsi K) (tCons y (tCons (tC (.ty "list")) tNil))) σ H (.bl false) := by
  obtain ⟨tn, ty, mem, ne⟩ := h
  refine ev_isi hy (fun H1 e => ty_mono e ty) ?_
  simp only [kinds, List.mem_cons, List.not_mem_nil, or_false] at mem
  rcases mem with rfl | rfl | rfl | rfl | rfl | rfl | rfl <;> first | decide +kernel | exact absurd rfl ne
theorem ev_sayV {n : Int} {v : V} {b : Bool} (ha : Ev ta σ H v) (hb : Ev tb σ H (.int n)) (h : SayVal K H n v b) : Ev (tCall (sp_is_saying K) [] E0 (tCons ta (tCons tb tNil))) σ H (.bl b) :=
  ev_pur (ea2 ha hb) fun H1 e => ⟨v, n, rfl, by
    rcases h.mono e with ⟨tn, h1, h2, h3, rfl⟩ | ⟨t, xs, h1, h2, h3, rfl⟩
    · exact .inl ⟨tn, h1, h2, h3, rfl⟩
    · exact .inr ⟨t, xs, h1, h2, h3, rfl⟩⟩
theorem pure_check_sayings (h : sp_check_sayings K vs H Q E) : t_check_sayings K E (Bd Q) (L2.start ["count", "sayings", "saying"] vs) H := by
  obtain ⟨cnt, says, rfl, h⟩ := h
  rcases h with ⟨due, ⟨rfl, kn, bad⟩ | ⟨rfl, n, rfl, hn, bs⟩, hE⟩ | ⟨⟨n, a, ss, rfl, rfl, hn, hS, ok⟩, q⟩
  · refine q_when (b := true) (et_is (et_or (a := !isI cnt) (b := true) (et_not (et_B (ev_num (ev_var rfl) kn))) fun hi => ?_) (by simp)) (fun _ H1 e1 => (hE.mono e1).at0) fun z => nomatch z
    cases cnt with
    | int i => exact et_is (et_test (ev_op (ev_var rfl) ev_c rv_I0)) bad
    | _ => cases hi
  · refine q_when (b := false) (et_is (et_or (et_not (et_B (ev_num (ev_var rfl) (kn_int _)))) fun _ => et_test (ev_op (ev_var rfl) ev_c rv_I0)) ?_) (fun e => nomatch e) fun _ H1 e1 => ?_
    · show (!true || decide ((n : Int) < 1)) = false
      simp
      omega
    rcases bs.mono e1 with nl | ⟨a, xs, bl, rfl, hL, hz, hp, hb⟩
    · exact s_when (b := true) (et_is (et_or (a := true) (b := true) (et_not (et_B (noList nl (ev_var rfl)))) fun z => nomatch z) rfl) (fun _ H2 e2 => (hE.mono (e1.trans e2)).at1) fun z => nomatch z
    · have hlen : xs.length = bl.length := Paired.length hp
      refine s_when (b := true) (et_is (et_or (a := false) (et_not (et_B (ev_isi (tn := "list") (ev_var rfl) (fun H2 e2 => ty_L (ex_l e2 hL)) kit_ll))) fun _ => et_not (et_B (ev_all (bs := bl) (el_is (el_map (fun i => .bl (bl.getD i true)) (ev_var rfl) hL (by omega) (fun _ => rfl) fun i x H2 e2 hi => ?_) ?_)))) (by rw [hb]; rfl)) (fun _ H2 e2 => (hE.mono (e1.trans e2)).at1) fun z => nomatch z
      · obtain ⟨b, hb', hv⟩ := paired_get hp hi
        rw [getD_some hb']
        exact ev_sayV (ev_var rfl) (ev_var rfl) (hv.mono e2)
      · rw [hlen]
        exact map_range (f := V.bl)
  · refine q_when (b := false) (et_is (et_or (et_not (et_B (ev_num (ev_var rfl) (kn_int _)))) fun _ => et_test (ev_op (ev_var rfl) ev_c rv_I0)) ?_) (fun e => nomatch e) fun _ H1 e1 => ?_
    · show (!true || decide ((n : Int) < 1)) = false
      simp
      omega
    obtain ⟨hz, xs, hL, hp⟩ := hS
    have hlen : xs.length = ss.length := Paired.length hp
    have hL1 := ex_l e1 hL
    refine s_when (b := false) (et_is (et_or (et_not (et_B (ev_isi (tn := "list") (ev_var rfl) (fun H2 e2 => ty_L (ex_l e2 hL1)) kit_ll))) fun _ => et_not (et_B (ev_all (bs := (List.range xs.length).map fun _ => true) (el_is (el_map (fun _ => .bl true) (ev_var rfl) hL1 (by omega) (fun _ => rfl) fun i x H2 e2 hi => ?_) (by rw [List.map_map] <;> rfl))))) ?_) (fun e => nomatch e) fun _ H2 e2 => q H2 (e1.trans e2)
    · obtain ⟨s, hs, ht⟩ := paired_get hp hi
      exact ev_saying (ev_var rfl) (ev_var rfl) (ht.mono (e1.trans e2)) (ok.get hs)
    · rw [all_true fun _ _ => rfl]
      rfl
theorem pure_check_places (h : sp_check_places K vs H Q E) : t_check_places K E (Bd Q) (L2.start ["count", "one", "other"] vs) H := by
  obtain ⟨n, one, other, rfl, h⟩ := h
  rcases h with ⟨⟨kn, h⟩, hE⟩ | ⟨⟨p, q, rfl, rfl, hp, hq⟩, k⟩
  · refine s_when (b := true) (et_is (et_or (a := !isB (n : Int) one) (b := true) (et_not (et_B (ev_below (ev_var rfl) (ev_var rfl) kn))) fun hi => ?_) (by simp)) (fun _ H1 e1 => (hE.mono e1).at2) fun z => nomatch z
    rcases h with h | ⟨kn2, h⟩
    · rw [h] at hi; cases hi
    · exact et_is (et_not (et_B (ev_below (ev_var rfl) (ev_var rfl) kn2))) (by rw [h]; rfl)
  · refine s_when (b := false) (et_is (et_or (et_not (et_B (ev_below (ev_var rfl) (ev_var rfl) (kn_int _)))) fun _ => et_not (et_B (ev_below (ev_var rfl) (ev_var rfl) (kn_int _)))) ?_) (fun e => nomatch e) fun _ H2 e2 => k H2 e2
    rw [isB_nat hp, isB_nat hq]
    rfl
/-- the check refuses; it does not -/
theorem q_chkNo {cnt says : V} {due : Nat} (h1 : Ev ta σ H cnt) (h2 : Ev tb σ H says) (r : RefSay K H cnt says due) (hE : ErrE K due H E) : tSeq (tDrop (tCall (sp_check_sayings K) [] E (tCons ta (tCons tb tNil)))) tz D σ H :=
  raw_q_drop (raw_call (ea2 h1 h2) fun H1 e1 => ⟨_, _, rfl, .inl ⟨due, r.mono e1, hE.mono e1⟩⟩)
theorem q_chk {cnt says : V} {n : Nat} {a : Addr} {ss : List Say} (h1 : Ev ta σ H cnt) (h2 : Ev tb σ H says) (r : GoodSay K H cnt says n a ss) (k : ∀ H1, Ex H H1 → tz D σ H1) : tSeq (tDrop (tCall (sp_check_sayings K) [] E (tCons ta (tCons tb tNil)))) tz D σ H :=
  raw_q_drop (raw_call (ea2 h1 h2) fun H1 e1 => ⟨_, _, rfl, .inr ⟨⟨n, a, ss, r.mono e1⟩, fun H2 e2 => k H2 (e1.trans e2)⟩⟩)
theorem q_plNo {n : Nat} {one other : V} (h1 : Ev ta σ H (.int (n : Int))) (h2 : Ev tb σ H one) (h3 : Ev tc σ H other) (r : RefPl K H n one other) (hE : ErrE K 2 H E) : tSeq (tDrop (tCall (sp_check_places K) [] E (tCons ta (tCons tb (tCons tc tNil))))) tz D σ H :=
  raw_q_drop (raw_call (ea3 h1 h2 h3) fun H1 e1 => ⟨n, _, _, rfl, .inl ⟨r.mono e1, hE.mono e1⟩⟩)
theorem q_pl {n p q : Nat} (h1 : Ev ta σ H (.int (n : Int))) (h2 : Ev tb σ H (.int (p : Int))) (h3 : Ev tc σ H (.int (q : Int))) (hp : p < n) (hq : q < n) (k : ∀ H1, Ex H H1 → tz D σ H1) : tSeq (tDrop (tCall (sp_check_places K) [] E (tCons ta (tCons tb (tCons tc tNil))))) tz D σ H :=
  raw_q_drop (raw_call (ea3 h1 h2 h3) fun H1 e1 => ⟨n, _, _, rfl, .inr ⟨⟨p, q, rfl, rfl, hp, hq⟩, fun H2 e2 => k H2 (e1.trans e2)⟩⟩)
/-- where there is a ring settled refuses -/
theorem raw_brk {n : Nat} {a : Addr} {ss : List Say} {c : List Int} {R : VK} (h1 : Ev ta σ H (.int (n : Int))) (h2 : Ev tb σ H (.ref a)) (hn : 0 < n) (hz : n ≤ 100) (hS : Says K H a ss) (ok : Ok n ss) (hc : isRing ss c = true) (hE : ErrE K 4 H E) : tCall (sp_settled K) [] E (tCons ta (tCons tb tNil)) σ H R :=
  raw_call (ea2 h1 h2) fun H1 e1 => ⟨n, a, ss, rfl, hS.mono e1, ok, hn, hz, fun hs s H2 ka _ _ _ _ _ => (ring_not_kept hc (keepAll_kept ka)).elim, (hE.mono e1).brk⟩
theorem pure_kept (h : sp_kept K vs H Q E) : t_kept K E (Bd Q) (L2.start ["count", "sayings", "heights", "one"] vs) H := by
  obtain ⟨cnt, says, hh, rfl, h⟩ := h
  rcases h with ⟨due, r | ⟨rfl, n, a, ss, ⟨rfl, rfl, hn, hS, ok⟩, bad⟩, hE⟩ | ⟨n, a, b, ss, hs, ⟨rfl, rfl, hn, hS, ok⟩, rfl, hB, hl, hz, q⟩
  · exact q_chkNo (ev_var rfl) (ev_var rfl) r hE
  · refine q_chk (ev_var rfl) (ev_var rfl) ⟨rfl, rfl, hn, hS, ok⟩ fun H1 e1 => ?_
    rcases bad.mono e1 with nl | ⟨b, xs, rfl, hL, hz, kn, hb⟩
    · exact q_when (b := true) (et_is (et_or (a := true) (b := true) (et_not (et_B (noList nl (ev_var rfl)))) fun z => nomatch z) rfl) (fun _ H2 e2 => (hE.mono (e1.trans e2)).at3) fun z => nomatch z
    · refine q_when (b := true) (et_is (et_or (a := false) (et_not (et_B (ev_isi (tn := "list") (ev_var rfl) (fun H2 e2 => ty_L (ex_l e2 hL)) kit_ll))) fun _ => et_or (et_is (et_test (ev_op (ev_len (ev_var rfl) hL) (ev_var rfl) (rv_ne rfl))) (by rw [dec_len])) fun _ => et_not (et_B (ev_is (ev_all (bs := xs.map isI) (el_is (el_map (fun i => .bl (isI (xs.getD i .non))) (ev_var rfl) hL (by omega) (fun _ => rfl) fun i x H2 e2 hi => ?_) ?_)) (by rw [all_map_id])))) ?_) (fun _ H2 e2 => (hE.mono (e1.trans e2)).at3) fun z => nomatch z
      · rw [getD_some hi]
        exact ev_num (ev_var rfl) ((kn x (List.mem_of_getElem? hi)).mono e2)
      · rw [map_range (f := fun x => V.bl (isI x)), List.map_map]
        rfl
      · rcases hb with hb | hb
        · rw [decide_eq_false hb]
          rfl
        · rw [hb]
          simp
  · refine q_chk (ev_var rfl) (ev_var rfl) ⟨rfl, rfl, hn, hS, ok⟩ fun H1 e1 => ?_
    have hB1 := ex_l e1 hB
    refine q_when (b := false) (et_is (et_or (et_not (et_B (ev_isi (tn := "list") (ev_var rfl) (fun H2 e2 => ty_L (ex_l e2 hB1)) kit_ll))) fun _ => et_or (et_test (ev_op (ev_len (ev_var rfl) hB1) (ev_var rfl) (rv_ne rfl))) fun _ => et_not (et_B (ev_all (bs := (List.range (iV hs).length).map fun _ => true) (el_is (el_map (fun _ => .bl true) (ev_var rfl) hB1 (by rw [List.length_map]; omega) (fun _ => rfl) fun i x H2 e2 hi => ?_) (by rw [List.map_map] <;> rfl))))) ?_) (fun e => nomatch e) fun _ H2 e2 => ?_
    · obtain ⟨y, _, rfl⟩ := iV_at hi
      exact ev_num (ev_var rfl) (kn_int _)
    · rw [all_true fun _ _ => rfl, List.length_map, hl, dec_len]
      simp
    · exact s_ret (ev_keep_all (ev_var rfl) (ev_var rfl) (ev_var rfl) (hS.mono (e1.trans e2)) ok (ex_l e2 hB1)) fun H3 e3 => q H3 ((e1.trans e2).trans e3)
theorem pure_sum_of (h : sp_sum_of K vs H Q E) : t_sum_of K E (Bd Q) (L2.start ["count", "sayings", "chain", "one", "other", "total", "at"] vs) H := by
  obtain ⟨cnt, says, ch, one, other, rfl, h⟩ := h
  -- the test of a chain whose items are of some kinds
  have tst : ∀ {H2 : Hp} {n p q : Nat} {a c : Addr} {ss : List Say} {xs : List V} {w5 w6 : Option V}, Says K H2 a ss → SqL K H2 c xs → xs.length ≤ 1000 → (∀ x ∈ xs, Kn K H2 x) →
      EvT (tOr (tNot (tB (tCB (rIsi K) (tCons (tVar 2) (tCons ((tC (.ty "list"))) (tNil)))))) (tNot (tB (tCB (rAll K) (tCons (tLc (iList K (tVar 2)) (gName 6) (tYes) (tCall (sp_is_below K) [] E0 (tCons (tVar 6) (tCons (tCB (rLenS K) (tCons (tVar 1) (tNil))) (tNil)))) [6]) (tNil)))))) [some (.int (n : Int)), some (.ref a), some (.ref c), some (.int (p : Int)), some (.int (q : Int)), w5, none] H2 (!xs.all (isB (ss.length : Int))) := fun {H2 n p q a c ss xs w5 w6} hS hL hz kn => by
    refine et_is (et_or (a := false) (et_not (et_B (ev_isi (tn := "list") (ev_var rfl) (fun H3 e3 => ty_L (ex_l e3 hL)) kit_ll))) fun _ => et_not (et_B (ev_is (ev_all (bs := xs.map (isB (ss.length : Int))) (el_is (el_map (fun i => .bl (isB (ss.length : Int) (xs.getD i .non))) (ev_var rfl) hL (by omega) (fun _ => rfl) fun i x H3 e3 hi => ?_) ?_)) (by rw [all_map_id])))) (Bool.false_or _)
    · rw [getD_some hi]
      exact ev_below (ev_var rfl) (ev_lenS (hS.mono e3) (ev_var rfl)) ((kn x (List.mem_of_getElem? hi)).mono e3)
    · rw [map_range (f := fun x => V.bl (isB (ss.length : Int) x)), List.map_map]
      rfl
  rcases h with ⟨due, r | ⟨rfl, n, a, ss, ⟨rfl, rfl, hn, hS, ok⟩, bad⟩ | ⟨rfl, n, a, ss, p, q, ⟨rfl, rfl, hn, hS, ok⟩, rfl, rfl, hp, hq, bad⟩, hE⟩ | ⟨n, a, c, ss, cs, p, q, W, ⟨rfl, rfl, hn, hS, ok⟩, rfl, hC, hz, hv, rfl, rfl, hp, hq, hW, k⟩
  · exact q_chkNo (ev_var rfl) (ev_var rfl) r hE
  · exact q_chk (ev_var rfl) (ev_var rfl) ⟨rfl, rfl, hn, hS, ok⟩ fun H1 e1 => q_plNo (ev_var rfl) (ev_var rfl) (ev_var rfl) (bad.mono e1) (hE.mono e1)
  · refine q_chk (ev_var rfl) (ev_var rfl) ⟨rfl, rfl, hn, hS, ok⟩ fun H1 e1 => q_pl (ev_var rfl) (ev_var rfl) (ev_var rfl) hp hq fun H2 e2 => ?_
    have E2 := e1.trans e2
    rcases bad.mono E2 with nl | ⟨c, xs, rfl, hL, hz, kn, hb⟩
    · exact q_when (b := true) (et_is (et_or (a := true) (b := true) (et_not (et_B (noList nl (ev_var rfl)))) fun z => nomatch z) rfl) (fun _ H3 e3 => (hE.mono (E2.trans e3)).at3) fun z => nomatch z
    · rcases hb with hb | ⟨cs, rfl, hb, hs⟩
      · exact q_when (b := true) (et_is (tst (w6 := none) (hS.mono E2) hL hz kn) (by rw [hb]; rfl)) (fun _ H3 e3 => (hE.mono (E2.trans e3)).at3) fun z => nomatch z
      · refine q_when (b := false) (et_is (tst (w6 := none) (hS.mono E2) hL hz kn) (by rw [hb]; rfl)) (fun z => nomatch z) fun _ H3 e3 => ?_
        have E3 := E2.trans e3
        refine q_asg (ev_sum_along (ev_var rfl) (ev_var rfl) (ev_var rfl) (ev_var rfl) (hS.mono E3) (ex_l e3 hL)) fun H4 e4 => ?_
        exact q_when (b := true) (et_is (et_test (ev_op (ev_var rfl) ev_c rv_isN)) (by rw [hs]; rfl)) (fun _ H5 e5 => (hE.mono ((E3.trans e4).trans e5)).at3) fun z => nomatch z
  · refine q_chk (ev_var rfl) (ev_var rfl) ⟨rfl, rfl, hn, hS, ok⟩ fun H1 e1 => q_pl (ev_var rfl) (ev_var rfl) (ev_var rfl) hp hq fun H2 e2 => ?_
    have E2 := e1.trans e2
    have al : (iV cs).all (isB (ss.length : Int)) = true := by
      rw [List.all_eq_true]
      intro x hx
      rcases List.mem_map.mp hx with ⟨y, hy, rfl⟩
      have := hv y hy
      show (decide (0 ≤ y) && decide (y < (ss.length : Int))) = true
      simp only [Bool.and_eq_true_iff, decide_eq_true_eq]
      exact this
    refine q_when (b := false) (et_is (tst (w6 := none) (hS.mono E2) (ex_l E2 hC) (by rw [List.length_map]; exact hz) fun x hx => ?_) (by rw [al]; rfl)) (fun z => nomatch z) fun _ H3 e3 => ?_
    · obtain ⟨y, _, rfl⟩ := List.mem_map.mp hx
      exact kn_int _
    have E3 := E2.trans e3
    refine q_asg (ev_sum_along (ev_var rfl) (ev_var rfl) (ev_var rfl) (ev_var rfl) (hS.mono E3) (ex_l E3 hC)) fun H4 e4 => ?_
    rw [hW]
    refine q_when (b := false) (et_is (et_test (ev_op (ev_is (ev_var rfl) rfl) ev_c rv_isN)) rfl) (fun z => nomatch z) fun _ H5 e5 => ?_
    exact s_ret (v := .int W) (ev_is (ev_var rfl) rfl) fun H6 e6 => k H6 (((E3.trans e4).trans e5).trans e6)
theorem pure_heights (h : sp_heights K vs H Q E) : t_heights K E (Bd Q) (L2.start ["count", "sayings", "found", "ring"] vs) H := by
  obtain ⟨cnt, says, due, rfl, r, hE⟩ := h
  exact q_chkNo (ev_var rfl) (ev_var rfl) r hE
theorem pure_follows (h : sp_follows K vs H Q E) : t_follows K E (Bd Q) (L2.start ["count", "sayings", "one", "other", "sums", "last"] vs) H := by
  obtain ⟨cnt, says, one, other, due, rfl, h, hE⟩ := h
  rcases h with r | ⟨rfl, n, a, ss, ⟨rfl, rfl, hn, hS, ok⟩, bad⟩ | ⟨rfl, n, a, ss, p, q, c, ⟨rfl, rfl, hn, hS, ok⟩, rfl, rfl, hp, hq, hz, hc⟩
  · exact q_chkNo (ev_var rfl) (ev_var rfl) r hE
  · exact q_chk (ev_var rfl) (ev_var rfl) ⟨rfl, rfl, hn, hS, ok⟩ fun H1 e1 => q_plNo (ev_var rfl) (ev_var rfl) (ev_var rfl) (bad.mono e1) (hE.mono e1)
  · exact q_chk (ev_var rfl) (ev_var rfl) ⟨rfl, rfl, hn, hS, ok⟩ fun H1 e1 => q_pl (ev_var rfl) (ev_var rfl) (ev_var rfl) hp hq fun H2 e2 => raw_q_drop (raw_brk (ev_var rfl) (ev_var rfl) hn hz (hS.mono (e1.trans e2)) ok hc (hE.mono (e1.trans e2)))
theorem pure_fixed (h : sp_fixed K vs H Q E) : t_fixed K E (Bd Q) (L2.start ["count", "sayings", "one", "other", "base", "there", "there_last", "back", "back_last"] vs) H := by
  obtain ⟨cnt, says, one, other, due, rfl, h, hE⟩ := h
  rcases h with r | ⟨rfl, n, a, ss, ⟨rfl, rfl, hn, hS, ok⟩, bad⟩ | ⟨rfl, n, a, ss, p, q, c, ⟨rfl, rfl, hn, hS, ok⟩, rfl, rfl, hp, hq, hz, hc⟩
  · exact q_chkNo (ev_var rfl) (ev_var rfl) r hE
  · exact q_chk (ev_var rfl) (ev_var rfl) ⟨rfl, rfl, hn, hS, ok⟩ fun H1 e1 => q_plNo (ev_var rfl) (ev_var rfl) (ev_var rfl) (bad.mono e1) (hE.mono e1)
  · exact q_chk (ev_var rfl) (ev_var rfl) ⟨rfl, rfl, hn, hS, ok⟩ fun H1 e1 => q_pl (ev_var rfl) (ev_var rfl) (ev_var rfl) hp hq fun H2 e2 => raw_q_asg (raw_brk (ev_var rfl) (ev_var rfl) hn hz (hS.mono (e1.trans e2)) ok hc (hE.mono (e1.trans e2)))
theorem pure_needless (h : sp_needless K vs H Q E) : t_needless K E (Bd Q) (L2.start ["count", "sayings", "at", "lower", "upper", "number", "others", "sums", "last", "found", "far", "step"] vs) H := by
  obtain ⟨cnt, says, one, due, rfl, h, hE⟩ := h
  rcases h with r | ⟨rfl, n, a, ss, ⟨rfl, rfl, hn, hS, ok⟩, kn, bad⟩ | ⟨rfl, n, a, ss, i, c, ⟨rfl, rfl, hn, hS, ok⟩, rfl, hi, hz, hc⟩
  · exact q_chkNo (ev_var rfl) (ev_var rfl) r hE
  · refine q_chk (ev_var rfl) (ev_var rfl) ⟨rfl, rfl, hn, hS, ok⟩ fun H1 e1 => ?_
    exact q_when (b := true) (et_is (et_not (et_B (ev_below (ev_var rfl) (ev_lenS (hS.mono e1) (ev_var rfl)) (kn.mono e1)))) (by rw [bad]; rfl)) (fun _ H2 e2 => (hE.mono (e1.trans e2)).at3) fun z => nomatch z
  · refine q_chk (ev_var rfl) (ev_var rfl) ⟨rfl, rfl, hn, hS, ok⟩ fun H1 e1 => ?_
    refine q_when (b := false) (et_is (et_not (et_B (ev_below (ev_var rfl) (ev_lenS (hS.mono e1) (ev_var rfl)) (kn_int _)))) (by rw [isB_nat hi]; rfl)) (fun z => nomatch z) fun _ H2 e2 => ?_
    exact raw_q_drop (raw_brk (ev_var rfl) (ev_var rfl) hn hz (hS.mono (e1.trans e2)) ok hc (hE.mono (e1.trans e2)))
theorem raw_lcI {g : TG} {js : List Nat} (h : tl σ H fun x H1 => tLc (iList K (fun _ H Q => Q x H)) g tt te js σ H1 Q) : tLc (iList K tl) g tt te js σ H Q := h
theorem pure_highest (h : sp_highest K vs H Q E) : t_highest K E (Bd Q) (L2.start ["count", "sayings", "top", "height"] vs) H := by
  obtain ⟨cnt, says, one, due, rfl, h, hE⟩ := h
  rcases h with r | ⟨rfl, n, a, ss, ⟨rfl, rfl, hn, hS, ok⟩, kn, bad⟩ | ⟨rfl, n, a, ss, t, c, ⟨rfl, rfl, hn, hS, ok⟩, rfl, hz, hc⟩
  · exact q_chkNo (ev_var rfl) (ev_var rfl) r hE
  · refine q_chk (ev_var rfl) (ev_var rfl) ⟨rfl, rfl, hn, hS, ok⟩ fun H1 e1 => ?_
    exact q_when (b := true) (et_is (et_not (et_B (ev_num (ev_var rfl) (kn.mono e1)))) (by rw [bad]; rfl)) (fun _ H2 e2 => (hE.mono (e1.trans e2)).at3) fun z => nomatch z
  · refine q_chk (ev_var rfl) (ev_var rfl) ⟨rfl, rfl, hn, hS, ok⟩ fun H1 e1 => ?_
    refine q_when (b := false) (et_is (et_not (et_B (ev_num (ev_var rfl) (kn_int _)))) rfl) (fun z => nomatch z) fun _ H2 e2 => ?_
    exact raw_lcI (raw_brk (ev_var rfl) (ev_var rfl) hn hz (hS.mono (e1.trans e2)) ok hc (hE.mono (e1.trans e2)))
theorem pure_lowest (h : sp_lowest K vs H Q E) : t_lowest K E (Bd Q) (L2.start ["count", "sayings", "bottom", "turned", "lower", "upper", "number", "height"] vs) H := by
  obtain ⟨cnt, says, one, due, rfl, h, hE⟩ := h
  rcases h with r | ⟨rfl, n, a, ss, ⟨rfl, rfl, hn, hS, ok⟩, kn, bad⟩ | ⟨rfl, n, a, ss, t, c, ⟨rfl, rfl, hn, hS, ok⟩, rfl, hz, hc⟩
  · exact q_chkNo (ev_var rfl) (ev_var rfl) r hE
  · refine q_chk (ev_var rfl) (ev_var rfl) ⟨rfl, rfl, hn, hS, ok⟩ fun H1 e1 => ?_
    exact q_when (b := true) (et_is (et_not (et_B (ev_num (ev_var rfl) (kn.mono e1)))) (by rw [bad]; rfl)) (fun _ H2 e2 => (hE.mono (e1.trans e2)).at3) fun z => nomatch z
  · refine q_chk (ev_var rfl) (ev_var rfl) ⟨rfl, rfl, hn, hS, ok⟩ fun H1 e1 => ?_
    refine q_when (b := false) (et_is (et_not (et_B (ev_num (ev_var rfl) (kn_int _)))) rfl) (fun z => nomatch z) fun _ H2 e2 => ?_
    exact raw_q_drop (raw_brk (ev_var rfl) (ev_var rfl) hn hz (hS.mono (e1.trans e2)) ok hc (hE.mono (e1.trans e2)))
/-! ### the nine doors -/
theorem raw_ifT {t : TT} (h : EvT t σ H true) (k : ∀ H1, Ex H H1 → ta σ H1 Q) : tIf t ta tb σ H Q := h H (Ex.refl H) _ fun H1 e1 => by
  show ta σ H1 Q
  exact k H1 e1
theorem raw_ifF {t : TT} (h : EvT t σ H false) (k : ∀ H1, Ex H H1 → tb σ H1 Q) : tIf t ta tb σ H Q := h H (Ex.refl H) _ fun H1 e1 => by
  show tb σ H1 Q
  exact k H1 e1
theorem s_retRaw (h : te σ H D.rt) : tRet te D σ H := h
theorem pure__law_ask (h : sp__law_ask K vs H Q E) : t__law_ask K E (Bd Q) (L2.start ["_law_door", "_law_count", "_law_sayings", "_law_one", "_law_other"] vs) H := by
  obtain ⟨d, cnt, says, one, other, due, rfl, hd, r, hE⟩ := h
  have lt : ∀ {H' : Hp} (k : Int) (b : Bool), decide ((d : Int) < k) = b → EvT (tTest (tOp rLtI (tVar 0) (tC (.int k)))) [some (.int (d : Int)), some cnt, some says, some one, some other] H' b := fun k b e => et_is (et_test (ev_op (ev_var rfl) ev_c rv_I0)) e
  have eq : ∀ {H' : Hp} (k : Int) (b : Bool), decide ((d : Int) = k) = b → EvT (tTest (tOp rEq (tVar 0) (tC (.int k)))) [some (.int (d : Int)), some cnt, some says, some one, some other] H' b := fun k b e => et_is (et_test (ev_op (ev_var rfl) ev_c (rv_eq rfl))) (by
    rw [← e]
    by_cases g : (d : Int) = k
    · rw [g]; simp
    · rw [decide_eq_false g, decide_eq_false fun z => g (by injection z)])
  have : d = 0 ∨ d = 1 ∨ d = 2 ∨ d = 3 ∨ d = 4 ∨ d = 5 ∨ d = 6 ∨ d = 7 ∨ d = 8 := by omega
  rcases this with rfl | rfl | rfl | rfl | rfl | rfl | rfl | rfl | rfl
  · exact q_when (lt 2 true (by decide)) (fun _ H1 e1 => s_retRaw (raw_ifT (eq 0 true (by decide)) fun H2 e2 => raw_call (ea3 (ev_var rfl) (ev_var rfl) (ev_var rfl)) fun H3 e3 => ⟨_, _, _, rfl, .inl ⟨due, RefKept.mono r ((e1.trans e2).trans e3), hE.mono ((e1.trans e2).trans e3)⟩⟩)) fun z => nomatch z
  · exact q_when (lt 2 true (by decide)) (fun _ H1 e1 => s_retRaw (raw_ifF (eq 0 false (by decide)) fun H2 e2 => raw_call (ea_cons (ev_var rfl) (ea_cons (ev_var rfl) (ea3 (ev_var rfl) (ev_var rfl) ev_c))) fun H3 e3 => ⟨_, _, _, _, _, rfl, .inl ⟨due, RefSum.mono r ((e1.trans e2).trans e3), hE.mono ((e1.trans e2).trans e3)⟩⟩)) fun z => nomatch z
  · refine q_when (lt 2 false (by decide)) (fun z => nomatch z) fun _ H1 e1 => ?_
    exact q_when (lt 4 true (by decide)) (fun _ H2 e2 => s_retRaw (raw_ifT (eq 2 true (by decide)) fun H3 e3 => raw_call (ea2 (ev_var rfl) (ev_var rfl)) fun H4 e4 => ⟨_, _, due, rfl, RefSay.mono r (((e1.trans e2).trans e3).trans e4), hE.mono (((e1.trans e2).trans e3).trans e4)⟩)) fun z => nomatch z
  · refine q_when (lt 2 false (by decide)) (fun z => nomatch z) fun _ H1 e1 => ?_
    exact q_when (lt 4 true (by decide)) (fun _ H2 e2 => s_retRaw (raw_ifF (eq 2 false (by decide)) fun H3 e3 => raw_call (ea_cons (ev_var rfl) (ea3 (ev_var rfl) (ev_var rfl) (ev_var rfl))) fun H4 e4 => ⟨_, _, _, _, due, rfl, RefPls.mono r (((e1.trans e2).trans e3).trans e4), hE.mono (((e1.trans e2).trans e3).trans e4)⟩)) fun z => nomatch z
  · refine q_when (lt 2 false (by decide)) (fun z => nomatch z) fun _ H1 e1 => q_when (lt 4 false (by decide)) (fun z => nomatch z) fun _ H2 e2 => ?_
    exact q_when (lt 6 true (by decide)) (fun _ H3 e3 => s_retRaw (raw_ifT (eq 4 true (by decide)) fun H4 e4 => raw_call (ea_cons (ev_var rfl) (ea3 (ev_var rfl) (ev_var rfl) (ev_var rfl))) fun H5 e5 => ⟨_, _, _, _, due, rfl, RefPls.mono r ((((e1.trans e2).trans e3).trans e4).trans e5), hE.mono ((((e1.trans e2).trans e3).trans e4).trans e5)⟩)) fun z => nomatch z
  · refine q_when (lt 2 false (by decide)) (fun z => nomatch z) fun _ H1 e1 => q_when (lt 4 false (by decide)) (fun z => nomatch z) fun _ H2 e2 => ?_
    exact q_when (lt 6 true (by decide)) (fun _ H3 e3 => s_retRaw (raw_ifF (eq 4 false (by decide)) fun H4 e4 => raw_call (ea3 (ev_var rfl) (ev_var rfl) (ev_var rfl)) fun H5 e5 => ⟨_, _, _, due, rfl, RefNdl.mono r ((((e1.trans e2).trans e3).trans e4).trans e5), hE.mono ((((e1.trans e2).trans e3).trans e4).trans e5)⟩)) fun z => nomatch z
  · refine q_when (lt 2 false (by decide)) (fun z => nomatch z) fun _ H1 e1 => q_when (lt 4 false (by decide)) (fun z => nomatch z) fun _ H2 e2 => q_when (lt 6 false (by decide)) (fun z => nomatch z) fun _ H3 e3 => q_when (eq 8 false (by decide)) (fun z => nomatch z) fun _ H4 e4 => ?_
    have E4 := ((e1.trans e2).trans e3).trans e4
    exact s_retRaw (raw_ifT (eq 6 true (by decide)) fun H5 e5 => raw_call (ea3 (ev_var rfl) (ev_var rfl) (ev_var rfl)) fun H6 e6 => ⟨_, _, _, due, rfl, RefEnd.mono r ((E4.trans e5).trans e6), hE.mono ((E4.trans e5).trans e6)⟩)
  · refine q_when (lt 2 false (by decide)) (fun z => nomatch z) fun _ H1 e1 => q_when (lt 4 false (by decide)) (fun z => nomatch z) fun _ H2 e2 => q_when (lt 6 false (by decide)) (fun z => nomatch z) fun _ H3 e3 => q_when (eq 8 false (by decide)) (fun z => nomatch z) fun _ H4 e4 => ?_
    have E4 := ((e1.trans e2).trans e3).trans e4
    exact s_retRaw (raw_ifF (eq 6 false (by decide)) fun H5 e5 => raw_call (ea3 (ev_var rfl) (ev_var rfl) (ev_var rfl)) fun H6 e6 => ⟨_, _, _, due, rfl, RefEnd.mono r ((E4.trans e5).trans e6), hE.mono ((E4.trans e5).trans e6)⟩)
  · refine q_when (lt 2 false (by decide)) (fun z => nomatch z) fun _ H1 e1 => q_when (lt 4 false (by decide)) (fun z => nomatch z) fun _ H2 e2 => q_when (lt 6 false (by decide)) (fun z => nomatch z) fun _ H3 e3 => ?_
    have E3 := (e1.trans e2).trans e3
    exact q_when (eq 8 true (by decide)) (fun _ H4 e4 => s_retRaw (raw_call (ea_cons (ev_var rfl) (ea_cons (ev_var rfl) (ea3 (ev_var rfl) ev_c (ev_var rfl)))) fun H5 e5 => ⟨_, _, _, _, _, rfl, .inl ⟨due, RefSum.mono r ((E3.trans e4).trans e5), hE.mono ((E3.trans e4).trans e5)⟩⟩)) fun z => nomatch z
end
end R8
end Am

/-! the other answers: their making, what they show -/
namespace Am
open PySem L2 Evl
open He (ga ma)
/-! ### the plain law of each -/
def rising (n : Int) : Int → List Int → Bool
  | _, [] => true
  | b, x :: r => decide (b < x) && decide (x < n) && rising n x r
def freeOk (n : Nat) (ss : List Say) (p q : Nat) (ps : List Int) : Bool :=
  rising (n : Int) (-1) ps && ((decide ((q : Int) ∈ ps) && !decide ((p : Int) ∈ ps)) && ss.all fun s => !(decide ((s.2.1 : Int) ∈ ps) && !decide ((s.1 : Int) ∈ ps)))
def hasSum (o : Option Int) (P : Int → Bool) : Bool := match o with
  | some t => P t
  | none => false
def apart (hs : List Int) (p q : Nat) : Int := hs.getD q 0 - hs.getD p 0
def followsOk (n : Nat) (ss : List Say) (p q : Nat) (c hs : List Int) : Bool := hasSum (sumAlong ss c p q) fun t => keepAll n ss hs && decide (apart hs p q = t)
def fixedOk (ss : List Say) (p q : Nat) (c d : List Int) : Bool := hasSum (sumAlong ss c p q) fun t => hasSum (sumAlong ss d q p) fun u => decide (t + u = 0)
def looseOk (n : Nat) (ss : List Say) (p q : Nat) (hs gs : List Int) : Bool := keepAll n ss hs && (keepAll n ss gs && !decide (apart hs p q = apart gs p q))
def needlessOk (ss : List Say) (i : Nat) (s : Say) (c : List Int) : Bool := hasSum (sumAlong ss c s.1 s.2.1) fun t => !decide ((i : Int) ∈ c) && decide (t ≤ s.2.2)
def neededOk (n : Nat) (ss : List Say) (i : Nat) (s : Say) (hs : List Int) : Bool := keepAll n (less1 ss i) hs && !keeps hs s

def sp_Follows_init (K : PySem.W.Frag) : Sp := sp_init2 K .follows "chain" "heights"
def sp_Free_init (K : PySem.W.Frag) : Sp := sp_init1 K .free "places"
def sp_Fixed_init (K : PySem.W.Frag) : Sp := sp_init2 K .fixed "there" "back"
def sp_Loose_init (K : PySem.W.Frag) : Sp := sp_init2 K .loose "first" "second"
def sp_Needless_init (K : PySem.W.Frag) : Sp := sp_init1 K .needless "chain"
def sp_Needed_init (K : PySem.W.Frag) : Sp := sp_init1 K .needed "heights"
def t_Follows_init (K : PySem.W.Frag) : TS := tSeq (sFld K (tVar 0) (tCB (rListS K) (tCons (tVar 1) (tNil))) "chain") (sFld K (tVar 0) (tCB (rListS K) (tCons (tVar 2) (tNil))) "heights")
def t_Free_init (K : PySem.W.Frag) : TS := t_init1 K "places"
def t_Fixed_init (K : PySem.W.Frag) : TS := tSeq (sFld K (tVar 0) (tCB (rListS K) (tCons (tVar 1) (tNil))) "there") (sFld K (tVar 0) (tCB (rListS K) (tCons (tVar 2) (tNil))) "back")
def t_Loose_init (K : PySem.W.Frag) : TS := tSeq (sFld K (tVar 0) (tCB (rListS K) (tCons (tVar 1) (tNil))) "first") (sFld K (tVar 0) (tCB (rListS K) (tCons (tVar 2) (tNil))) "second")
def t_Needless_init (K : PySem.W.Frag) : TS := t_init1 K "chain"
def t_Needed_init (K : PySem.W.Frag) : TS := t_init1 K "heights"
def sp_Follows_shows (K : PySem.W.Frag) : Sp := Pur fun vs H z => ∃ (x a l m : Addr) (n p q : Nat) (ss : List Say) (c hs : List Int), vs = [.ref x, .int (n : Int), .ref a, .int (p : Int), .int (q : Int)] ∧ An2 K H x .follows "chain" "heights" l m ∧ Says K H a ss ∧ Ok n ss ∧ p < n ∧ q < n ∧ SqL K H l (iV c) ∧ SqL K H m (iV hs) ∧ z = .bl (followsOk n ss p q c hs)
def sp_Free_shows (K : PySem.W.Frag) : Sp := Pur fun vs H z => ∃ (x a l : Addr) (n p q : Nat) (ss : List Say) (ps : List Int), vs = [.ref x, .int (n : Int), .ref a, .int (p : Int), .int (q : Int)] ∧ An1 K H x .free "places" l ∧ Says K H a ss ∧ Ok n ss ∧ p < n ∧ q < n ∧ SqL K H l (iV ps) ∧ z = .bl (freeOk n ss p q ps)
def sp_Fixed_shows (K : PySem.W.Frag) : Sp := Pur fun vs H z => ∃ (x a l m : Addr) (n p q : Nat) (ss : List Say) (c d : List Int), vs = [.ref x, .int (n : Int), .ref a, .int (p : Int), .int (q : Int)] ∧ An2 K H x .fixed "there" "back" l m ∧ Says K H a ss ∧ Ok n ss ∧ p < n ∧ q < n ∧ SqL K H l (iV c) ∧ SqL K H m (iV d) ∧ z = .bl (fixedOk ss p q c d)
def sp_Loose_shows (K : PySem.W.Frag) : Sp := Pur fun vs H z => ∃ (x a l m : Addr) (n p q : Nat) (ss : List Say) (hs gs : List Int), vs = [.ref x, .int (n : Int), .ref a, .int (p : Int), .int (q : Int)] ∧ An2 K H x .loose "first" "second" l m ∧ Says K H a ss ∧ Ok n ss ∧ p < n ∧ q < n ∧ SqL K H l (iV hs) ∧ SqL K H m (iV gs) ∧ z = .bl (looseOk n ss p q hs gs)
def sp_Needless_shows (K : PySem.W.Frag) : Sp := Pur fun vs H z => ∃ (x a l : Addr) (n i : Nat) (ss : List Say) (s : Say) (c : List Int), vs = [.ref x, .int (n : Int), .ref a, .int (i : Int)] ∧ An1 K H x .needless "chain" l ∧ Says K H a ss ∧ Ok n ss ∧ ss[i]? = some s ∧ SqL K H l (iV c) ∧ z = .bl (needlessOk ss i s c)
def sp_Needed_shows (K : PySem.W.Frag) : Sp := Pur fun vs H z => ∃ (x a l : Addr) (n i : Nat) (ss : List Say) (s : Say) (hs : List Int), vs = [.ref x, .int (n : Int), .ref a, .int (i : Int)] ∧ An1 K H x .needed "heights" l ∧ Says K H a ss ∧ Ok n ss ∧ ss[i]? = some s ∧ SqL K H l (iV hs) ∧ z = .bl (neededOk n ss i s hs)
def t_Follows_shows (K : PySem.W.Frag) : TS := tSeq (tAsg (tCall (sp_sum_along K) [] E0 (tCons (tVar 2) (tCons (tFld K (tVar 0) "chain") (tCons (tVar 3) (tCons (tVar 4) (tNil)))))) (gName 5)) (tSeq (tIfS (tOr (tTest (tOp rIsN0 (tVar 5) (tC .non))) (tNot (tB (tCall (sp_keep_all K) [] E0 (tCons (tVar 1) (tCons (tVar 2) (tCons (tFld K (tVar 0) "heights") (tNil)))))))) (tRet (tC (.bl false))) (tNext)) (tRet (tOp rEq (tOp rSubI (tOp (rIxL K) (tFld K (tVar 0) "heights") (tVar 4)) (tOp (rIxL K) (tFld K (tVar 0) "heights") (tVar 3))) (tVar 5))))
def t_Free_shows (K : PySem.W.Frag) : TS := tSeq (tAsg (tUn rNegI (tC (.int 1))) (gName 5)) (tSeq (tFor (iList K (tFld K (tVar 0) "places")) (gName 6) (tSeq (tIfS (tNot (tTest (tChain rLtI rLtI (tVar 5) (tVar 6) (tVar 1)))) (tRet (tC (.bl false))) (tNext)) (tAsg (tVar 6) (gName 5)))) (tSeq (tIfS (tOr (tTest (tOp (rIn K true) (tVar 4) (tFld K (tVar 0) "places"))) (tTest (tOp (rIn K false) (tVar 3) (tFld K (tVar 0) "places")))) (tRet (tC (.bl false))) (tNext)) (tRet (tNotV (tCB (rAny K) (tCons (tLc (iList K (tVar 2)) (gTup K 3 (gCons (gName 7) (gCons (gName 8) (gCons (gName 9) (gNil))))) (tYes) (tAndV (tOp (rIn K false) (tVar 8) (tFld K (tVar 0) "places")) (tOp (rIn K true) (tVar 7) (tFld K (tVar 0) "places"))) [7, 8, 9]) (tNil)))))))
def t_Fixed_shows (K : PySem.W.Frag) : TS := tSeq (tAsg (tCall (sp_sum_along K) [] E0 (tCons (tVar 2) (tCons (tFld K (tVar 0) "there") (tCons (tVar 3) (tCons (tVar 4) (tNil)))))) (gName 5)) (tSeq (tAsg (tCall (sp_sum_along K) [] E0 (tCons (tVar 2) (tCons (tFld K (tVar 0) "back") (tCons (tVar 4) (tCons (tVar 3) (tNil)))))) (gName 6)) (tRet (tAndV (tOp rNotN0 (tVar 5) (tC .non)) (tAndV (tOp rNotN0 (tVar 6) (tC .non)) (tOp rEq (tOp rAddI (tVar 5) (tVar 6)) (tC (.int 0)))))))
def t_Loose_shows (K : PySem.W.Frag) : TS := tSeq (tIfS (tOr (tNot (tB (tCall (sp_keep_all K) [] E0 (tCons (tVar 1) (tCons (tVar 2) (tCons (tFld K (tVar 0) "first") (tNil))))))) (tNot (tB (tCall (sp_keep_all K) [] E0 (tCons (tVar 1) (tCons (tVar 2) (tCons (tFld K (tVar 0) "second") (tNil)))))))) (tRet (tC (.bl false))) (tNext)) (tRet (tOp rNe (tOp rSubI (tOp (rIxL K) (tFld K (tVar 0) "first") (tVar 4)) (tOp (rIxL K) (tFld K (tVar 0) "first") (tVar 3))) (tOp rSubI (tOp (rIxL K) (tFld K (tVar 0) "second") (tVar 4)) (tOp (rIxL K) (tFld K (tVar 0) "second") (tVar 3)))))
def t_Needless_shows (K : PySem.W.Frag) : TS := tSeq (tAsg (tOp (rIxL K) (tVar 2) (tVar 3)) (gTup K 3 (gCons (gName 4) (gCons (gName 5) (gCons (gName 6) (gNil)))))) (tSeq (tAsg (tCall (sp_sum_along K) [] E0 (tCons (tVar 2) (tCons (tFld K (tVar 0) "chain") (tCons (tVar 4) (tCons (tVar 5) (tNil)))))) (gName 7)) (tRet (tAndV (tOp rNotN0 (tVar 7) (tC .non)) (tAndV (tOp (rIn K true) (tVar 3) (tFld K (tVar 0) "chain")) (tOp rLeI (tVar 7) (tVar 6))))))
def t_Needed_shows (K : PySem.W.Frag) : TS := tSeq (tIfS (tNot (tB (tCall (sp_keep_all K) [] E0 (tCons (tVar 1) (tCons (tOp rCat (tSl (rSlL K) (tVar 2) tNoPart (tPart (tVar 3))) (tSl (rSlL K) (tVar 2) (tPart (tOp rAddI (tVar 3) (tC (.int 1)))) tNoPart)) (tCons (tFld K (tVar 0) "heights") (tNil))))))) (tRet (tC (.bl false))) (tNext)) (tRet (tNotV (tCall (sp_keep K) [] E0 (tCons (tOp (rIxL K) (tVar 2) (tVar 3)) (tCons (tFld K (tVar 0) "heights") (tNil))))))
section
variable {K : PySem.W.Frag} {vs : List V} {H H' : Hp} {Q : VK} {E : XK} {σ : L2.St} {ta tb tc td te t1 t2 t3 t4 : TE} {tt : TT} {tz tu : TS} {D : Ends} {ts : TA} {ks : List Kd} {k : Kd} {x l m : Addr} {f g : Str}
theorem lookup2 {a b : V} (h : (g == f) = false) : ([(f, a), (g, b)] : List (Str × V)).lookup g = some b := by simp [List.lookup, h]
theorem ev_f2a (F : KdF K ks k) (ha : Ev ta σ H (.ref x)) (h : An2 K H x k f g l m) (hf : f ∈ k.fs) : Ev (tFld K ta f) σ H (.ref l) := by
  obtain ⟨dx, h⟩ := h
  exact ev_fld ha h F.cl (F.na f hf) (by simp [List.lookup])
theorem ev_f2b (F : KdF K ks k) (ha : Ev ta σ H (.ref x)) (h : An2 K H x k f g l m) (hg : g ∈ k.fs) (hne : (g == f) = false) : Ev (tFld K ta g) σ H (.ref m) := by
  obtain ⟨dx, h⟩ := h
  exact ev_fld ha h F.cl (F.na g hg) (lookup2 hne)
theorem Dec_int {i j : Int} : decide (V.int i = V.int j) = decide (i = j) := by
  by_cases h : i = j
  · subst h; simp
  · rw [decide_eq_false h, decide_eq_false fun z => h (by injection z)]
theorem pure_Follows_shows (F : KdF K ks .follows) (h : sp_Follows_shows K vs H Q E) : t_Follows_shows K (Bd Q) (L2.start ["self", "count", "sayings", "one", "other", "total"] vs) H := by
  obtain ⟨z, ⟨x, a, l, m, n, p, q, ss, c, hs, rfl, hx, hS, ok, hp, hq, hl, hm, rfl⟩, k⟩ := h
  have fl : ∀ {H1 : Hp} {w5 : Option V}, Ex H H1 → Ev (tFld K (tVar 0) "heights") [some (V.ref x), some (V.int (n : Int)), some (V.ref a), some (V.int (p : Int)), some (V.int (q : Int)), w5] H1 (.ref m) := fun e => ev_f2b (l := l) (f := "chain") F (ev_var rfl) (hx.mono e) (by decide) (by decide +kernel)
  refine q_asg (ev_sum_along (ev_var rfl) (ev_f2a (m := m) (g := "heights") F (ev_var rfl) hx (by decide)) (ev_var rfl) (ev_var rfl) hS hl) fun H1 e1 => ?_
  have hS1 := hS.mono e1
  have hm1 := ex_l e1 hm
  have ks0 : followsOk n ss p q c hs = hasSum (sumAlong ss c p q) fun t => keepAll n ss hs && decide (apart hs p q = t) := rfl
  cases hs0 : sumAlong ss c p q with
  | none =>
    rw [hs0] at ks0
    refine q_when (b := true) (et_is (et_or (a := true) (b := true) (et_is (et_test (ev_op (ev_is (ev_var rfl) rfl) ev_c rv_isN)) (by rfl)) fun z => nomatch z) rfl) (fun _ H2 e2 => s_ret ev_c fun H3 e3 => ?_) fun z => nomatch z
    have kk := k H3 ((e1.trans e2).trans e3)
    rw [ks0] at kk
    exact kk
  | some t =>
    rw [hs0] at ks0
    refine q_when (b := !keepAll n ss hs) (et_is (et_or (a := false) (et_is (et_test (ev_op (ev_is (ev_var rfl) rfl) ev_c rv_isN)) (by rfl)) fun _ => et_not (et_B (ev_keep_all (ev_var rfl) (ev_var rfl) (fl e1) hS1 ok hm1))) (Bool.false_or _)) (fun hb H2 e2 => ?_) fun hb H2 e2 => ?_
    · refine s_ret ev_c fun H3 e3 => ?_
      have kk := k H3 ((e1.trans e2).trans e3)
      rw [ks0] at kk
      have hb' : keepAll n ss hs = false := by simpa using hb
      have kk2 : Q (.bl (keepAll n ss hs && decide (apart hs p q = t))) H3 := kk
      rw [hb'] at kk2
      exact kk2
    · have hb' : keepAll n ss hs = true := by simpa using hb
      have hlen := keepAll_len hb'
      have hm2 := ex_l e2 hm1
      refine s_ret (ev_op (ev_op (ev_op (fl (e1.trans e2)) (ev_var rfl) (rv_ixL hm2 (at_iV (by omega)))) (ev_op (fl (e1.trans e2)) (ev_var rfl) (rv_ixL hm2 (at_iV (by omega)))) rv_I0) (ev_is (ev_var rfl) rfl) (rv_eq rfl)) fun H3 e3 => ?_
      have kk := k H3 ((e1.trans e2).trans e3)
      rw [ks0] at kk
      have kk2 : Q (.bl (keepAll n ss hs && decide (apart hs p q = t))) H3 := kk
      rw [hb', Bool.true_and] at kk2
      have : decide (V.int (hs.getD q 0 - hs.getD p 0) = oV (some t)) = decide (apart hs p q = t) := Dec_int
      rw [this]
      exact kk2
theorem rising_snoc {n : Int} : ∀ {ps : List Int} {b x : Int}, rising n b (ps ++ [x]) = (rising n b ps && (decide ((ps.getLast?.getD b) < x) && decide (x < n)))
  | [], b, x => by
    show (decide (b < x) && decide (x < n) && true) = (true && (decide (b < x) && decide (x < n)))
    rw [Bool.and_true, Bool.true_and]
  | y :: r, b, x => by
    show (decide (b < y) && decide (y < n) && rising n y (r ++ [x])) = _
    rw [rising_snoc]
    have e : ((y :: r).getLast?.getD b) = (r.getLast?.getD y) := by
      cases r with
      | nil => rfl
      | cons z r' => rw [List.getLast?_cons_cons]; cases h : (z :: r').getLast? with
        | none => simp at h
        | some _ => rfl
    rw [e]
    show _ = (decide (b < y) && decide (y < n) && rising n y r && _)
    simp only [Bool.and_assoc]
theorem rising_pre {n : Int} : ∀ {ps qs : List Int} {b : Int}, rising n b ps = false → rising n b (ps ++ qs) = false
  | [], qs, b, h => by cases h
  | y :: r, qs, b, h => by
    show (decide (b < y) && decide (y < n) && rising n y (r ++ qs)) = false
    have h' : (decide (b < y) && decide (y < n) && rising n y r) = false := h
    cases h1 : (decide (b < y) && decide (y < n)) with
    | false => rfl
    | true =>
      rw [h1, Bool.true_and] at h'
      rw [Bool.true_and]
      exact rising_pre h'
theorem pure_Free_shows (F : KdF K ks .free) (h : sp_Free_shows K vs H Q E) : t_Free_shows K (Bd Q) (L2.start ["self", "count", "sayings", "one", "other", "last", "place", "lower", "upper", "number"] vs) H := by
  obtain ⟨z, ⟨x, a, l, n, p, q, ss, ps, rfl, hx, hS, ok, hp, hq, hl, rfl⟩, k⟩ := h
  have fl : ∀ {H1 : Hp} {σ : L2.St}, Ex H H1 → σ[0]? = some (some (V.ref x)) → Ev (tFld K (tVar 0) "places") σ H1 (.ref l) := fun e h0 => ev_f1 (v := .ref l) F (ev_var h0) (hx.mono e) (by decide)
  refine q_asg (ev_un ev_c ru_neg) fun H1 e1 => ?_
  refine q_forLn (fl e1 rfl) (ex_l e1 hl) (fun i σ' H' => ∃ (b : Int) (w6 : Option V), σ' = [some (.ref x), some (.int (n : Int)), some (.ref a), some (.int (p : Int)), some (.int (q : Int)), some (.int b), w6, none, none, none] ∧ Ex H H' ∧ b = ((ps.take i).getLast?.getD (-1)) ∧ rising (n : Int) (-1) (ps.take i) = true)
    (fun H2 e2 => ⟨-1, none, rfl, e1.trans e2, rfl, rfl⟩) (fun i σ' H' _ ⟨_, _, _, e', _⟩ => ex_l e' hl) ?_ ?_
  · rintro i y σ' H' hi ⟨b, w6, rfl, e', hb, hr⟩
    obtain ⟨y, hy, rfl⟩ := iV_at hi
    have tk : ps.take (i + 1) = ps.take i ++ [y] := by rw [List.take_succ, hy]; rfl
    have rs : rising (n : Int) (-1) (ps.take (i + 1)) = (decide (b < y) && decide (y < (n : Int))) := by rw [tk, rising_snoc, hr, ← hb, Bool.true_and]
    refine q_when (et_not (et_test (ev_chain (k := decide (b < y)) (ev_var rfl) (ev_var rfl) rv_I0 (fun _ => ev_var rfl) fun _ => rv_I0))) (fun hb2 H2 e2 => ?_) fun hb2 H2 e2 => ?_
    · refine s_ret ev_c fun H3 e3 => ?_
      have f0 : rising (n : Int) (-1) (ps.take (i + 1)) = false := by
        rw [rs]
        revert hb2
        cases (decide (b < y) && decide (y < (n : Int))) <;> simp
      have f1 : freeOk n ss p q ps = false := by
        unfold freeOk
        rw [← List.take_append_drop (i + 1) ps, rising_pre f0]
        rfl
      have kk := k H3 ((e'.trans e2).trans e3)
      rw [f1] at kk
      exact kk
    · have t0 : (decide (b < y) && decide (y < (n : Int))) = true := by
        revert hb2
        cases (decide (b < y) && decide (y < (n : Int))) <;> simp
      exact s_asg (ev_var rfl) fun H3 e3 => ⟨y, _, rfl, (e'.trans e2).trans e3, by rw [tk]; simp, by rw [rs]; exact t0⟩
  · rintro σ' H' ⟨b, w6, rfl, e', hb, hr⟩
    rw [List.length_map, List.take_length] at hr
    have fo : freeOk n ss p q ps = ((decide ((q : Int) ∈ ps) && !decide ((p : Int) ∈ ps)) && ss.all fun s => !(decide ((s.2.1 : Int) ∈ ps) && !decide ((s.1 : Int) ∈ ps))) := by
      unfold freeOk
      rw [hr, Bool.true_and]
    have hl' := ex_l e' hl
    refine q_when (b := !decide ((q : Int) ∈ ps) || decide ((p : Int) ∈ ps)) (et_or (et_is (et_test (ev_op (ev_var rfl) (fl e' rfl) (rv_niL hl' rfl (flat_iV _)))) (by rw [inV_int])) fun _ => et_is (et_test (ev_op (ev_var rfl) (fl e' rfl) (rv_isL hl' rfl (flat_iV _)))) (by rw [inV_int])) (fun hb2 H2 e2 => ?_) fun hb2 H2 e2 => ?_
    · refine s_ret ev_c fun H3 e3 => ?_
      have kk := k H3 ((e'.trans e2).trans e3)
      have f0 : (decide ((q : Int) ∈ ps) && !decide ((p : Int) ∈ ps)) = false := by
        cases h1 : decide ((q : Int) ∈ ps) <;> cases h2 : decide ((p : Int) ∈ ps) <;> rw [h1, h2] at hb2 <;> first | rfl | cases hb2
      rw [fo, f0] at kk
      exact kk
    · have f0 : (decide ((q : Int) ∈ ps) && !decide ((p : Int) ∈ ps)) = true := by
        cases h1 : decide ((q : Int) ∈ ps) <;> cases h2 : decide ((p : Int) ∈ ps) <;> rw [h1, h2] at hb2 <;> first | rfl | cases hb2
      have e2' := e'.trans e2
      refine s_ret (v := .bl (!(ss.map fun s => (decide ((s.2.1 : Int) ∈ ps) && !decide ((s.1 : Int) ∈ ps))).any id)) (ev_notV (ev_any (el_is (el_says (fun s => .bl (decide ((s.2.1 : Int) ∈ ps) && !decide ((s.1 : Int) ∈ ps))) (hS.mono e2') (ev_var rfl) (fun _ _ _ => rfl) fun s H3 e3 hs => ?_) (by rw [List.map_map]; rfl)))) fun H3 e3 => ?_
      · have hl3 := ex_l (e2'.trans e3) hl
        exact ev_andV (ev_is (ev_op (ev_var rfl) (fl (e2'.trans e3) rfl) (rv_isL hl3 rfl (flat_iV _))) (by rw [inV_int])) fun _ => ev_is (ev_op (ev_var rfl) (fl (e2'.trans e3) rfl) (rv_niL hl3 rfl (flat_iV _))) (by rw [inV_int])
      · have kk := k H3 (e2'.trans e3)
        rw [fo, f0, Bool.true_and] at kk
        have : (!(ss.map fun s => (decide ((s.2.1 : Int) ∈ ps) && !decide ((s.1 : Int) ∈ ps))).any id) = ss.all fun s => !(decide ((s.2.1 : Int) ∈ ps) && !decide ((s.1 : Int) ∈ ps)) := by
          rw [List.any_map, List.not_any_eq_all_not]
          rfl
        rw [this]
        exact kk
theorem pure_Fixed_shows (F : KdF K ks .fixed) (h : sp_Fixed_shows K vs H Q E) : t_Fixed_shows K (Bd Q) (L2.start ["self", "count", "sayings", "one", "other", "there", "back"] vs) H := by
  obtain ⟨z, ⟨x, a, l, m, n, p, q, ss, c, d, rfl, hx, hS, ok, hp, hq, hl, hm, rfl⟩, k⟩ := h
  refine q_asg (ev_sum_along (ev_var rfl) (ev_f2a (m := m) (g := "back") F (ev_var rfl) hx (by decide)) (ev_var rfl) (ev_var rfl) hS hl) fun H1 e1 => ?_
  refine q_asg (ev_sum_along (ev_var rfl) (ev_f2b (l := l) (f := "there") F (ev_var rfl) (hx.mono e1) (by decide) (by decide +kernel)) (ev_var rfl) (ev_var rfl) (hS.mono e1) (ex_l e1 hm)) fun H2 e2 => ?_
  refine s_ret (v := .bl (fixedOk ss p q c d)) ?_ fun H3 e3 => k H3 ((e1.trans e2).trans e3)
  unfold fixedOk
  cases h1 : sumAlong ss c p q with
  | none => exact ev_andV (a := false) (b := false) (ev_is (ev_op (ev_is (ev_var rfl) rfl) ev_c rv_notN) rfl) fun z => nomatch z
  | some t =>
    refine ev_is (ev_andV (a := true) (ev_is (ev_op (ev_is (ev_var rfl) rfl) ev_c rv_notN) rfl) fun _ => ?_) (by rw [Bool.true_and])
    cases h2 : sumAlong ss d q p with
    | none => exact ev_andV (a := false) (b := false) (ev_is (ev_op (ev_is (ev_var rfl) rfl) ev_c rv_notN) rfl) fun z => nomatch z
    | some u =>
      refine ev_is (ev_andV (a := true) (ev_is (ev_op (ev_is (ev_var rfl) rfl) ev_c rv_notN) rfl) fun _ => ev_op (ev_op (ev_is (ev_var rfl) rfl) (ev_is (ev_var rfl) rfl) rv_I0) ev_c (rv_eq rfl)) ?_
      rw [Bool.true_and, Dec_int]
      rfl
theorem pure_Loose_shows (F : KdF K ks .loose) (h : sp_Loose_shows K vs H Q E) : t_Loose_shows K (Bd Q) (L2.start ["self", "count", "sayings", "one", "other"] vs) H := by
  obtain ⟨z, ⟨x, a, l, m, n, p, q, ss, hs, gs, rfl, hx, hS, ok, hp, hq, hl, hm, rfl⟩, k⟩ := h
  have f1 : ∀ {H1 : Hp}, Ex H H1 → Ev (tFld K (tVar 0) "first") [some (V.ref x), some (V.int (n : Int)), some (V.ref a), some (V.int (p : Int)), some (V.int (q : Int))] H1 (.ref l) := fun e => ev_f2a (m := m) (g := "second") F (ev_var rfl) (hx.mono e) (by decide)
  have f2 : ∀ {H1 : Hp}, Ex H H1 → Ev (tFld K (tVar 0) "second") [some (V.ref x), some (V.int (n : Int)), some (V.ref a), some (V.int (p : Int)), some (V.int (q : Int))] H1 (.ref m) := fun e => ev_f2b (l := l) (f := "first") F (ev_var rfl) (hx.mono e) (by decide) (by decide +kernel)
  refine q_when (b := !keepAll n ss hs || !keepAll n ss gs) (et_or (et_not (et_B (ev_keep_all (ev_var rfl) (ev_var rfl) (f1 (Ex.refl H)) hS ok hl))) fun _ => et_not (et_B (ev_keep_all (ev_var rfl) (ev_var rfl) (f2 (Ex.refl H)) hS ok hm))) (fun hb H1 e1 => ?_) fun hb H1 e1 => ?_
  · refine s_ret ev_c fun H2 e2 => ?_
    have kk := k H2 (e1.trans e2)
    have f0 : looseOk n ss p q hs gs = false := by
      unfold looseOk
      cases h1 : keepAll n ss hs <;> cases h2 : keepAll n ss gs <;> rw [h1, h2] at hb <;> first | rfl | cases hb
    rw [f0] at kk
    exact kk
  · have both : keepAll n ss hs = true ∧ keepAll n ss gs = true := by
      cases h1 : keepAll n ss hs <;> cases h2 : keepAll n ss gs <;> rw [h1, h2] at hb <;> first | exact ⟨rfl, rfl⟩ | cases hb
    have n1 := keepAll_len both.1
    have n2 := keepAll_len both.2
    have hl1 := ex_l e1 hl
    have hm1 := ex_l e1 hm
    refine s_ret (ev_op (ev_op (ev_op (f1 e1) (ev_var rfl) (rv_ixL hl1 (at_iV (by omega)))) (ev_op (f1 e1) (ev_var rfl) (rv_ixL hl1 (at_iV (by omega)))) rv_I0) (ev_op (ev_op (f2 e1) (ev_var rfl) (rv_ixL hm1 (at_iV (by omega)))) (ev_op (f2 e1) (ev_var rfl) (rv_ixL hm1 (at_iV (by omega)))) rv_I0) (rv_ne rfl)) fun H2 e2 => ?_
    have kk := k H2 (e1.trans e2)
    unfold looseOk at kk
    rw [both.1, both.2, Bool.true_and, Bool.true_and] at kk
    rw [Dec_int]
    exact kk
theorem pure_Needless_shows (F : KdF K ks .needless) (h : sp_Needless_shows K vs H Q E) : t_Needless_shows K (Bd Q) (L2.start ["self", "count", "sayings", "at", "lower", "upper", "number", "total"] vs) H := by
  obtain ⟨z, ⟨x, a, l, n, i, ss, s, c, rfl, hx, hS, ok, hi, hl, rfl⟩, k⟩ := h
  refine q_unpS hS hi (ev_var rfl) (ev_var rfl) fun H1 e1 => ?_
  refine q_asg (ev_sum_along (ev_var rfl) (ev_f1 (v := .ref l) F (ev_var rfl) (hx.mono e1) (by decide)) (ev_var rfl) (ev_var rfl) (hS.mono e1) (ex_l e1 hl)) fun H2 e2 => ?_
  refine s_ret (v := .bl (needlessOk ss i s c)) ?_ fun H3 e3 => k H3 ((e1.trans e2).trans e3)
  unfold needlessOk
  cases h1 : sumAlong ss c s.1 s.2.1 with
  | none => exact ev_andV (a := false) (b := false) (ev_is (ev_op (ev_is (ev_var rfl) rfl) ev_c rv_notN) rfl) fun z => nomatch z
  | some t =>
    exact ev_is (ev_andV (a := true) (ev_is (ev_op (ev_is (ev_var rfl) rfl) ev_c rv_notN) rfl) fun _ => ev_andV (ev_is (ev_op (ev_var rfl) (ev_f1 (v := .ref l) F (ev_var rfl) (hx.mono (e1.trans e2)) (by decide)) (rv_niL (ex_l (e1.trans e2) hl) rfl (flat_iV _))) (by rw [inV_int])) fun _ => ev_op (ev_is (ev_var rfl) rfl) (ev_var rfl) rv_I0) (by rw [Bool.true_and]; rfl)
theorem el_cat {xs ys : List V} (h1 : EvL ta σ H xs) (h2 : EvL tb σ H ys) (hz : xs.length + ys.length ≤ 100000) : EvL (tOp rCat ta tb) σ H (xs ++ ys) := fun H1 e Q q =>
  h1 H1 e _ fun p H2 hp e2 h2' => h2 H2 (e.trans e2) _ fun r H3 hr e3 h3 => ⟨p, r, xs, ys, rfl, rfl, e3 _ _ h2', h3, sz_of hz, fun o ho => q o _ (fresh_back (e2.trans e3) ho) ((e2.trans e3).trans (Ex.new ho)) upd_same⟩
theorem cut_dropN {xs : List V} {i : Nat} : cutV xs (some (i : Int)) none = xs.drop i := by
  unfold cutV
  rw [HT.sIx_nat, HT.sIx_none]
  by_cases h : i ≤ xs.length
  · rw [Nat.min_eq_left h, List.take_of_length_le (by rw [List.length_drop]; omega)]
  · rw [Nat.min_eq_right (by omega), List.drop_length, List.drop_of_length_le (by omega), List.take_nil]
/-- a call whose second argument is a new list -/
theorem ev_call3L {sp : Sp} {w y z : V} {xs : List V} (h1 : Ev ta σ H y) (h2 : EvL tb σ H xs) (h3 : Ev tc σ H z) (k : ∀ p H1, Ex H H1 → H1 p = some (.lst xs) → ∀ Q : VK, (∀ H2, Ex H1 H2 → Q w H2) → sp [y, .ref p, z] H1 Q E) : Ev (tCall sp [] E (tCons ta (tCons tb (tCons tc tNil)))) σ H w := fun H1 e1 Q q => by
  show ta σ H1 _
  refine h1 H1 e1 _ fun H2 e2 => ?_
  show tb σ H2 _
  refine h2 H2 (e1.trans e2) _ fun p H3 _ e3 hp => ?_
  show tc σ H3 _
  exact h3 H3 ((e1.trans e2).trans e3) _ fun H4 e4 => k p H4 (((e1.trans e2).trans e3).trans e4) (e4 _ _ hp) Q fun H5 e5 => q H5 (((e2.trans e3).trans e4).trans e5)
/-- sayings[:at] + sayings[at + 1:] -/
theorem el_less1 {a : Addr} {i : Nat} {xs : List V} (hx : SqL K H a xs) (hz : xs.length ≤ 1000) (ha : Ev ta σ H (.ref a)) (hi : Ev tb σ H (.int (i : Int))) :
    EvL (tOp rCat (tSl (rSlL K) ta tNoPart (tPart tb)) (tSl (rSlL K) ta (tPart (tOp rAddI tb (tC (.int 1)))) tNoPart)) σ H (xs.take i ++ xs.drop (i + 1)) := by
  refine el_cat (el_is (el_sl (lo := none) (hi := some (i : Int)) ha eo_none (eo_some hi) hx) ?_) (el_is (el_sl (lo := some ((i + 1 : Nat) : Int)) (hi := none) ha (eo_some (ev_is (ev_op hi ev_c rv_I0) rfl)) eo_none hx) cut_dropN) ?_
  · rw [cut_take (Int.natCast_nonneg i)]
    rfl
  · rw [List.length_take, List.length_drop]
    omega
theorem paired_less1 {xs : List V} {ss : List Say} {i : Nat} (h : Paired (TupAt K H) xs ss) : Paired (TupAt K H) (xs.take i ++ xs.drop (i + 1)) (less1 ss i) := paired_append (paired_take i h) (paired_drop (i + 1) h)
theorem less1_len {ss : List Say} {i : Nat} : (less1 ss i).length ≤ ss.length := by
  unfold less1
  rw [List.length_append, List.length_take, List.length_drop]
  omega
theorem pure_Needed_shows (F : KdF K ks .needed) (h : sp_Needed_shows K vs H Q E) : t_Needed_shows K (Bd Q) (L2.start ["self", "count", "sayings", "at"] vs) H := by
  obtain ⟨z, ⟨x, a, l, n, i, ss, s, hs, rfl, hx, hS, ok, hi, hl, rfl⟩, k⟩ := h
  obtain ⟨hz, xs, hxs, hp⟩ := id hS
  have hlen : xs.length = ss.length := Paired.length hp
  have fl : ∀ {H1 : Hp}, Ex H H1 → Ev (tFld K (tVar 0) "heights") [some (V.ref x), some (V.int (n : Int)), some (V.ref a), some (V.int (i : Int))] H1 (.ref l) := fun e => ev_f1 (v := .ref l) F (ev_var rfl) (hx.mono e) (by decide)
  have ka : Ev (tCall (sp_keep_all K) [] E0 (tCons (tVar 1) (tCons (tOp rCat (tSl (rSlL K) (tVar 2) tNoPart (tPart (tVar 3))) (tSl (rSlL K) (tVar 2) (tPart (tOp rAddI (tVar 3) (tC (.int 1)))) tNoPart)) (tCons (tFld K (tVar 0) "heights") tNil)))) [some (V.ref x), some (V.int (n : Int)), some (V.ref a), some (V.int (i : Int))] H (.bl (keepAll n (less1 ss i) hs)) :=
    ev_call3L (ev_var rfl) (el_less1 hxs (by omega) (ev_var rfl) (ev_var rfl)) (fl (Ex.refl H)) fun b H4 E4 h4 Q2 q2 => ⟨_, ⟨n, b, l, less1 ss i, hs, rfl, ⟨Nat.le_trans less1_len hz, _, sq_of h4, L2.Paired.mapP (paired_less1 hp) fun _ _ z => z.mono E4⟩, ok.less1 i, ex_l E4 hl, rfl⟩, q2⟩
  refine q_when (et_not (et_B ka)) (fun hb H1 e1 => ?_) fun hb H1 e1 => ?_
  · refine s_ret ev_c fun H2 e2 => ?_
    have kk := k H2 (e1.trans e2)
    have f0 : keepAll n (less1 ss i) hs = false := by simpa using hb
    unfold neededOk at kk
    rw [f0] at kk
    exact kk
  · have f0 : keepAll n (less1 ss i) hs = true := by simpa using hb
    have hlen2 := keepAll_len f0
    have hyb := ok.get hi
    obtain ⟨xs', v, hL, hx', hT⟩ := (hS.mono e1).at hi
    refine s_ret (ev_notV (ev_keep (ev_op (ev_var rfl) (ev_var rfl) (rv_ixL hL hx')) (fl e1) hT (ex_l e1 hl) (by omega) (by omega))) fun H2 e2 => ?_
    have kk := k H2 (e1.trans e2)
    unfold neededOk at kk
    rw [f0, Bool.true_and] at kk
    exact kk
end
end Am

/-! follows, fixed, needless, highest, lowest -/
namespace Am
open PySem L2 Evl
open He (ga ma)
/-- a new list of numbers of which P is known -/
def EvI (te : TE) (σ : L2.St) (H : Hp) (P : List Int → Prop) : Prop := ∀ H1, Ex H H1 → ∀ Q : VK, (∀ p c H2, P c → H1 p = none → Ex H1 H2 → H2 p = some (.lst (iV c)) → Q (.ref p) H2) → te σ H1 Q
/-- an answer, newly made, of one list, of two -/
def New1 (K : PySem.W.Frag) (k : Kd) (f : Str) (P : List Int → Prop) (H1 : Hp) (v : V) (H2 : Hp) : Prop := ∃ x l c, P c ∧ v = .ref x ∧ An1 K H2 x k f l ∧ H1 x = none ∧ H1 l = none ∧ l ≠ x ∧ H2 l = some (.lst (iV c))
def New2 (K : PySem.W.Frag) (k : Kd) (f g : Str) (P : List Int → List Int → Prop) (H1 : Hp) (v : V) (H2 : Hp) : Prop := ∃ x l m c d, P c d ∧ v = .ref x ∧ An2 K H2 x k f g l m ∧ H1 x = none ∧ H1 l = none ∧ H1 m = none ∧ l ≠ x ∧ m ≠ x ∧ l ≠ m ∧ H2 l = some (.lst (iV c)) ∧ H2 m = some (.lst (iV d))
section
variable {K : PySem.W.Frag} {vs : List V} {H H' : Hp} {Q : VK} {E : XK} {σ : L2.St} {ta tb tc td te tl : TE} {tt : TT} {tz tu : TS} {D : Ends} {ts : TA} {ks : List Kd} {k : Kd} {x l m : Addr} {f g : Str} {P R : List Int → Prop}
theorem New1.from {H0 H1 H2 : Hp} {v : V} (e : Ex H0 H1) (h : New1 K k f P H1 v H2) : New1 K k f P H0 v H2 := by
  obtain ⟨x, l, c, h1, h2, h3, h4, h5, h6⟩ := h
  exact ⟨x, l, c, h1, h2, h3, fresh_back e h4, fresh_back e h5, h6⟩
theorem New2.from {J : List Int → List Int → Prop} {H0 H1 H2 : Hp} {v : V} (e : Ex H0 H1) (h : New2 K k f g J H1 v H2) : New2 K k f g J H0 v H2 := by
  obtain ⟨x, l, m, c, d, h1, h2, h3, h4, h5, h6, h7⟩ := h
  exact ⟨x, l, m, c, d, h1, h2, h3, fresh_back e h4, fresh_back e h5, fresh_back e h6, h7⟩
theorem New1.imp {P' : List Int → Prop} {H1 H2 : Hp} {v : V} (h : New1 K k f P H1 v H2) (i : ∀ c, P c → P' c) : New1 K k f P' H1 v H2 := by
  obtain ⟨x, l, c, h1, h2⟩ := h
  exact ⟨x, l, c, i c h1, h2⟩
theorem New2.imp {J J' : List Int → List Int → Prop} {H1 H2 : Hp} {v : V} (h : New2 K k f g J H1 v H2) (i : ∀ c d, J c d → J' c d) : New2 K k f g J' H1 v H2 := by
  obtain ⟨x, l, m, c, d, h1, h2⟩ := h
  exact ⟨x, l, m, c, d, i c d h1, h2⟩
theorem EvL.i {c : List Int} (h : EvL te σ H (iV c)) : EvI te σ H (· = c) := fun H1 e Q q => h H1 e Q fun p H2 hp e2 h2 => q p c H2 rfl hp e2 h2
theorem EvI.mono (e : Ex H H') (h : EvI te σ H P) : EvI te σ H' P := fun H1 e1 Q q => h H1 (e.trans e1) Q q
theorem ep_make1I (ha : EvI ta σ H P) : EvP (tMake (ga K k.nm) (sp_init1 K k f) [] E (tCons ta tNil)) σ H (New1 K k f P) := fun H1 e Q q =>
  ha H1 e _ fun p c H1' hP hp e1 hp1 => (ep_make1 (ta := fun _ H Q => Q (.ref p) H) (c := p) (xs := iV c) (E := E) (σ := σ) (H := H1') (fun H2 e2 Q q => q H2 (Ex.refl H2)) (sq_of hp1)) H1' (Ex.refl H1') Q fun v H2 e2 ⟨x, l, ev, ha, hx, hl, r⟩ => q v H2 (e1.trans e2) ⟨x, l, c, hP, ev, ha, fresh_back e1 hx, fresh_back e1 hl, r⟩
theorem ep_make2I (ha : EvI ta σ H P) (hb : EvI tb σ H R) : EvP (tMake (ga K k.nm) (sp_init2 K k f g) [] E (tCons ta (tCons tb tNil))) σ H (New2 K k f g fun c d => P c ∧ R d) := fun H1 e Q q =>
  ha H1 e _ fun p c H2 hP hp e2 hp2 => hb H2 (e.trans e2) _ fun r d H3 hR hr e3 hr3 =>
    (ep_make2 (ta := fun _ H Q => Q (.ref p) H) (tb := fun _ H Q => Q (.ref r) H) (c := p) (d := r) (xs := iV c) (ys := iV d) (E := E) (σ := σ) (H := H3) (fun H2 e2 Q q => q H2 (Ex.refl H2)) (sq_of (e3 _ _ hp2)) (fun H2 e2 Q q => q H2 (Ex.refl H2)) (sq_of hr3)) H3 (Ex.refl H3) Q fun v H4 e4 ⟨x, l, m, ev, ha, hx, hl, hm, rest⟩ =>
      q v H4 ((e2.trans e3).trans e4) ⟨x, l, m, c, d, ⟨hP, hR⟩, ev, ha, fresh_back (e2.trans e3) hx, fresh_back (e2.trans e3) hl, fresh_back (e2.trans e3) hm, rest⟩
/-- the first of the lists stands already -/
theorem ep_make2S {p : Addr} {c : List Int} (ha : Ev ta σ H (.ref p)) (hx : SqL K H p (iV c)) (hb : EvI tb σ H R) : EvP (tMake (ga K k.nm) (sp_init2 K k f g) [] E (tCons ta (tCons tb tNil))) σ H (New2 K k f g fun c' d => c' = c ∧ R d) := fun H1 e Q q =>
  ha H1 e _ fun H2 e2 => hb H2 (e.trans e2) _ fun r d H3 hR hr e3 hr3 =>
    (ep_make2 (ta := fun _ H Q => Q (.ref p) H) (tb := fun _ H Q => Q (.ref r) H) (c := p) (d := r) (xs := iV c) (ys := iV d) (E := E) (σ := σ) (H := H3) (fun H2 e2 Q q => q H2 (Ex.refl H2)) (ex_l ((e.trans e2).trans e3) hx) (fun H2 e2 Q q => q H2 (Ex.refl H2)) (sq_of hr3)) H3 (Ex.refl H3) Q fun v H4 e4 ⟨x, l, m, ev, ha, hx, hl, hm, rest⟩ =>
      q v H4 ((e2.trans e3).trans e4) ⟨x, l, m, c, d, ⟨rfl, hR⟩, ev, ha, fresh_back (e2.trans e3) hx, fresh_back (e2.trans e3) hl, fresh_back (e2.trans e3) hm, rest⟩
theorem raw_lcT {g : TG} {js : List Nat} (h : tl σ H fun x H1 => tLc (iList K (fun _ H Q => Q x H)) g tt te js σ H1 Q) : tLc (iList K tl) g tt te js σ H Q := h
theorem el_mapI {a : Addr} {hs : List Int} {j : Nat} {js : List Nat} (u : Int → Int) (h : Ev tl σ H (.ref a)) (hx : SqL K H a (iV hs)) (hz : hs.length ≤ 1000) (hw : ∀ x, wipe ((wipe σ js).set j (some x)) js = wipe σ js) (he : ∀ (y : Int) H1, Ex H H1 → Ev te ((wipe σ js).set j (some (.int y))) H1 (.int (u y))) :
    EvL (tLc (iList K tl) (gName j) tYes te js) σ H (iV (hs.map u)) := by
  refine el_is (el_map (fun i => .int (u (hs.getD i 0))) h hx (by rw [List.length_map]; omega) hw fun i x H1 e1 hi => ?_) ?_
  · obtain ⟨y, hy, rfl⟩ := iV_at hi
    rw [getD_some hy]
    exact he y H1 e1
  · rw [List.length_map, iV_map]
    exact map_range (f := fun y => V.int (u y))
/-! ### the plain law -/
theorem rising_of {n : Nat} : ∀ {l : List Nat} {b : Int}, l.Pairwise (· < ·) → (∀ x ∈ l, b < (x : Int) ∧ x < n) → rising (n : Int) b (l.map Int.ofNat) = true
  | [], _, _, _ => rfl
  | y :: r, b, hp, hb => by
    show (decide (b < Int.ofNat y) && decide (Int.ofNat y < (n : Int)) && rising (n : Int) (Int.ofNat y) (r.map Int.ofNat)) = true
    rcases List.pairwise_cons.mp hp with ⟨h1, h2⟩
    obtain ⟨b1, b2⟩ := hb y List.mem_cons_self
    have e1 : decide (b < Int.ofNat y) = true := decide_eq_true b1
    have e2 : decide (Int.ofNat y < (n : Int)) = true := decide_eq_true (by show (y : Int) < n; omega)
    rw [e1, e2, rising_of h2 fun x hx => ⟨by have := h1 x hx; show (y : Int) < x; omega, (hb x (List.mem_cons_of_mem _ hx)).2⟩]
    rfl
theorem mem_ofN {i : Nat} {l : List Nat} : (i : Int) ∈ l.map Int.ofNat ↔ i ∈ l := by
  have := mem_ofNat (i := i) (l := l)
  exact decide_eq_decide.mp this
theorem free_without {n : Nat} {ss : List Say} {S : Sums} {p q : Nat} (ok : Ok n ss) (rel : ∀ s ∈ ss, slack S s = false) (hq : q < n) (hp : S.getD p none = some 0) (hqn : S.getD q none = none) : freeOk n ss p q ((without n S).map Int.ofNat) = true := by
  unfold freeOk
  have r : rising (n : Int) (-1) ((without n S).map Int.ofNat) = true := by
    refine rising_of ?_ fun x hx => ⟨by omega, (mem_without.mp hx).1⟩
    unfold without
    exact (List.pairwise_lt_range (n := n)).filter _
  have a : decide ((q : Int) ∈ (without n S).map Int.ofNat) = true := decide_eq_true (mem_ofN.mpr (mem_without.mpr ⟨hq, hqn⟩))
  have b : decide ((p : Int) ∈ (without n S).map Int.ofNat) = false := decide_eq_false fun h => by
    have := (mem_without.mp (mem_ofN.mp h)).2
    rw [hp] at this
    cases this
  rw [r, a, b]
  show ss.all _ = true
  rw [List.all_eq_true]
  intro s hs
  obtain ⟨lo, up, mm⟩ := s
  have hb := ok _ hs
  simp only at hb ⊢
  cases h1 : decide ((up : Int) ∈ (without n S).map Int.ofNat) with
  | false => rfl
  | true =>
    have u0 := (mem_without.mp (mem_ofN.mp (of_decide_eq_true h1))).2
    have l0 : decide ((lo : Int) ∈ (without n S).map Int.ofNat) = true := by
      refine decide_eq_true (mem_ofN.mpr (mem_without.mpr ⟨hb.1, ?_⟩))
      cases hl : S.getD lo none with
      | none => rfl
      | some y =>
        obtain ⟨z, hz, _⟩ := slack_false (rel _ hs) hl
        rw [u0] at hz
        cases hz
    rw [l0]
    rfl
theorem without_len {n : Nat} {S : Sums} : (without n S).length ≤ n := by
  unfold without
  have := List.length_filter_le (fun v => (S.getD v none).isNone) (List.range n)
  rwa [List.length_range] at this
theorem raised_apart {n : Nat} {hs : List Int} {S : Sums} {d : Int} {p q : Nat} (hl : hs.length = n) (hp : p < n) (hq : q < n) (h1 : S.getD q none = none) (h2 : ∃ y, S.getD p none = some y) : apart (raisedOf hs (without n S) d) p q = apart hs p q + d := by
  unfold apart
  rw [raised_at (by omega), raised_at (by omega), if_pos (mem_without.mpr ⟨hq, h1⟩), if_neg fun h => ?_]
  · omega
  · obtain ⟨y, hy⟩ := h2
    rw [(mem_without.mp h).2] at hy
    cases hy
theorem raised_apart' {n : Nat} {hs : List Int} {S : Sums} {d : Int} {p q : Nat} (hl : hs.length = n) (hp : p < n) (hq : q < n) (h1 : S.getD p none = none) (h2 : ∃ y, S.getD q none = some y) : apart (raisedOf hs (without n S) d) p q = apart hs p q - d := by
  have := raised_apart (n := n) (d := d) hl hq hp h1 h2
  unfold apart at this ⊢
  omega
theorem loose_of {n : Nat} {ss : List Say} {p q : Nat} {hs gs : List Int} (h1 : keepAll n ss hs = true) (h2 : keepAll n ss gs = true) (h : apart hs p q ≠ apart gs p q) : looseOk n ss p q hs gs = true := by
  unfold looseOk
  rw [h1, h2, decide_eq_false h]
  rfl
/-- a saying's places exchanged -/
def flip (s : Say) : Say := (s.2.1, s.1, s.2.2)
theorem Ok.flip {n : Nat} {ss : List Say} (h : Ok n ss) : Ok n (ss.map Am.flip) := fun s hs => by
  obtain ⟨t, ht, rfl⟩ := List.mem_map.mp hs
  exact ⟨(h t ht).2, (h t ht).1⟩
theorem Kept.flip {ss : List Say} {h : Nat → Int} (k : Kept ss h) : Kept (ss.map Am.flip) fun v => -h v := fun s hs => by
  obtain ⟨t, ht, rfl⟩ := List.mem_map.mp hs
  have := k t ht
  simp only [Am.flip]
  omega

/-! ### what a walk's parts give -/
theorem ei_chain {a l : Addr} {n one v : Nat} {y : Int} {ss : List Say} {S : Sums} {last : List Int} (O : One n ss one S last) (hn : n ≤ 100) (hy : S.getD v none = some y) (hS : Says K H a ss) (hL : SqL K H l (iV last)) (h1 : Ev ta σ H (.ref a)) (h2 : Ev tb σ H (.ref l)) (h3 : Ev tc σ H (.int (v : Int))) :
    EvI (tCall (sp_chain_to K) [] E (tCons ta (tCons tb (tCons tc tNil)))) σ H fun c => sumAlong ss c one v = some y ∧ c.length ≤ 100 ∧ ∀ z ∈ c, 0 ≤ z := fun H1 e Q q =>
  (ea3 h1 h2 h3) H1 e _ fun H2 e2 => by
    rw [List.append_nil]
    obtain ⟨hv, ⟨K0, hK, up⟩, hw⟩ := O.way v y hy
    refine ⟨a, l, ss, last, v, K0, rfl, hS.mono (e.trans e2), ex_l (e.trans e2) hL, up, by omega, fun as x W p H3 w hr hl hp e3 h3 => q p _ H3 ?_ (fresh_back e2 hp) (e2.trans e3) h3⟩
    obtain ⟨rfl, rfl⟩ := hw as x W w hr
    exact ⟨w.sum, by rw [List.length_map, List.length_reverse]; exact hl, chain_nonneg as⟩
theorem ei_spread {a s : Addr} {n one : Nat} {ss : List Say} {S : Sums} {last : List Int} {f : Nat → Int} (O : One n ss one S last) (ok : Ok n ss) (hn : 0 < n) (hz : n ≤ 100) (kf : Kept ss f) (hS : Says K H a ss) (hs : SqL K H s (oVs S)) (h1 : Ev ta σ H (.int (n : Int))) (h2 : Ev tb σ H (.ref a)) (h3 : Ev tc σ H (.ref s)) :
    EvI (tCall (sp_spread K) [] E (tCons ta (tCons tb (tCons tc tNil)))) σ H fun hs => keepAll n ss hs = true ∧ ∀ v y, S.getD v none = some y → hs.getD v 0 = y := fun H1 e Q q =>
  (ea3 h1 h2 h3) H1 e _ fun H2 e2 => by
    rw [List.append_nil]
    exact ⟨n, a, s, ss, S, rfl, hS.mono (e.trans e2), ok, hn, hz, ⟨f, kf⟩, ex_l (e.trans e2) hs, O.len, fun rest far p H3 ka hf hp e3 h3 => q p _ H3 ⟨spread_ok ok ka O.rel hf, fun v y hy => spread_at (O.way v y hy).1 hy⟩ (fresh_back e2 hp) (e2.trans e3) h3⟩
theorem el_without {s : Addr} {S : Sums} (hs : SqL K H s (oVs S)) (hz : S.length ≤ 1000) (h : Ev ta σ H (.ref s)) : EvL (tCall (sp_without_sum K) [] E (tCons ta tNil)) σ H (iV ((without S.length S).map Int.ofNat)) :=
  el_pur (ea_cons h ea_nil) fun H1 e1 => ⟨s, S, rfl, ex_l e1 hs, hz, rfl⟩
theorem el_raised {p s : Addr} {hs : List Int} {S : Sums} {d : Int} (hp : SqL K H p (iV hs)) (hS : SqL K H s (oVs S)) (hz : S.length ≤ 1000) (hz2 : hs.length ≤ 1000) (h1 : Ev ta σ H (.ref p)) (h2 : Ev tb σ H (.ref s)) (h3 : Ev tc σ H (.int d)) :
    EvL (tCall (sp_raised K) [] E (tCons ta (tCons (tCall (sp_without_sum K) [] E0 (tCons tb tNil)) (tCons tc tNil)))) σ H (iV (raisedOf hs (without S.length S) d)) := fun H1 e1 Q q => by
  show ta σ H1 _
  refine h1 H1 e1 _ fun H2 e2 => ?_
  refine (el_without hS hz h2) H2 (e1.trans e2) _ fun r H3 _ e3 hr => ?_
  show tc σ H3 _
  refine h3 H3 ((e1.trans e2).trans e3) _ fun H4 e4 => ?_
  have E4 := ((e1.trans e2).trans e3).trans e4
  exact ⟨_, ⟨p, r, hs, without S.length S, d, rfl, ex_l E4 hp, sq_of (e4 _ _ hr), hz2, rfl⟩, fun o H5 ho e5 h5 => q o H5 (fresh_back ((e2.trans e3).trans e4) ho) (((e2.trans e3).trans e4).trans e5) h5⟩
end

/-! ### promises -/
def Le (m : Nat) (c : List Int) : Prop := c.length ≤ m
def sp_follows (K : PySem.W.Frag) : Sp := fun vs H Q E => ∃ (n : Nat) (a : Addr) (ss : List Say) (p q : Nat), vs = [.int (n : Int), .ref a, .int (p : Int), .int (q : Int)] ∧ Says K H a ss ∧ Ok n ss ∧ 0 < n ∧ n ≤ 100 ∧ p < n ∧ q < n ∧
  (∀ v H2, (∃ f, Kept ss f) → Ex H H2 → New2 K .follows "chain" "heights" (fun c hs => followsOk n ss p q c hs = true ∧ Le 100 c ∧ Le 100 hs) H v H2 → Q v H2) ∧
  (∀ v H2, (∃ f, Kept ss f) → Ex H H2 → New1 K .free "places" (fun ps => freeOk n ss p q ps = true ∧ Le 100 ps) H v H2 → Q v H2) ∧ BrkE K H ss E
def sp_fixed (K : PySem.W.Frag) : Sp := fun vs H Q E => ∃ (n : Nat) (a : Addr) (ss : List Say) (p q : Nat), vs = [.int (n : Int), .ref a, .int (p : Int), .int (q : Int)] ∧ Says K H a ss ∧ Ok n ss ∧ 0 < n ∧ n ≤ 100 ∧ p < n ∧ q < n ∧
  (∀ v H2, (∃ f, Kept ss f) → Ex H H2 → New2 K .fixed "there" "back" (fun c d => fixedOk ss p q c d = true ∧ Le 100 c ∧ Le 100 d) H v H2 → Q v H2) ∧
  (∀ v H2, (∃ f, Kept ss f) → Ex H H2 → New2 K .loose "first" "second" (fun hs gs => looseOk n ss p q hs gs = true ∧ Le 100 hs ∧ Le 100 gs) H v H2 → Q v H2) ∧ BrkE K H ss E
def sp_needless (K : PySem.W.Frag) : Sp := fun vs H Q E => ∃ (n : Nat) (a : Addr) (ss : List Say) (i : Nat) (s : Say), vs = [.int (n : Int), .ref a, .int (i : Int)] ∧ Says K H a ss ∧ Ok n ss ∧ 0 < n ∧ n ≤ 100 ∧ ss[i]? = some s ∧
  (∀ v H2, (∃ f, Kept ss f) → Ex H H2 → New1 K .needless "chain" (fun c => needlessOk ss i s c = true ∧ Le 100 c) H v H2 → Q v H2) ∧
  (∀ v H2, (∃ f, Kept ss f) → Ex H H2 → New1 K .needed "heights" (fun hs => neededOk n ss i s hs = true ∧ Le 100 hs) H v H2 → Q v H2) ∧ BrkE K H ss E
def sp_highest (K : PySem.W.Frag) : Sp := fun vs H Q E => ∃ (n : Nat) (a : Addr) (ss : List Say) (t : Int), vs = [.int (n : Int), .ref a, .int t] ∧ Says K H a ss ∧ Ok n ss ∧ 0 < n ∧ n ≤ 100 ∧
  (∀ (hs : List Int) p H2, keepAll n ss hs = true → (∀ v, hs.getD v 0 ≤ 0) → (∀ v, v < n → Led ss hs v) → H p = none → Ex H H2 → H2 p = some (.lst (iV (hs.map fun h => t + h))) → Q (.ref p) H2) ∧ BrkE K H ss E
def sp_lowest (K : PySem.W.Frag) : Sp := fun vs H Q E => ∃ (n : Nat) (a : Addr) (ss : List Say) (t : Int), vs = [.int (n : Int), .ref a, .int t] ∧ Says K H a ss ∧ Ok n ss ∧ 0 < n ∧ n ≤ 100 ∧
  (∀ (hs : List Int) p H2, keepAll n (ss.map flip) hs = true → (∀ v, hs.getD v 0 ≤ 0) → (∀ v, v < n → Led (ss.map flip) hs v) → H p = none → Ex H H2 → H2 p = some (.lst (iV (hs.map fun h => t - h))) → Q (.ref p) H2) ∧ BrkE K H ss E
end Am

/-! law 8: what catches; what is refused, told by the law -/
namespace Am
namespace R8
open PySem L2 Evl
open He (ga ma)
/-- what is asked of Broken's making -/
def XfF (K : PySem.W.Frag) : Prop := PySem.W.findIn K (.ref (ga K "Broken")) "ring" = some none
def xfFB (K : PySem.W.Frag) : Bool := decide (PySem.W.findIn K (.ref (ga K "Broken")) "ring" = some none)
theorem xfFB_ok {K : PySem.W.Frag} (h : xfFB K = true) : XfF K := by
  unfold xfFB at h
  have g := of_decide_eq_true h
  exact g
def OxF (K : PySem.W.Frag) : Prop := OexC K (ga K "Broken") ∧ PySem.W.findIn K (.ref (ga K "Broken")) "__init__" = some (some (.ref (ma K (ga K "Broken") "__init__"))) ∧ PySem.W.typeIn K (.ref (ma K (ga K "Broken") "__init__")) = some (.type "function")
def oxFB (K : PySem.W.Frag) : Bool := oexB K (ga K "Broken") && (decide (PySem.W.findIn K (.ref (ga K "Broken")) "__init__" = some (some (.ref (ma K (ga K "Broken") "__init__")))) && decide (PySem.W.typeIn K (.ref (ma K (ga K "Broken") "__init__")) = some (.type "function")))
theorem oxFB_ok {K : PySem.W.Frag} (h : oxFB K = true) : OxF K := by
  unfold oxFB at h
  simp only [decide_eq_true_eq, Bool.and_eq_true] at h
  exact ⟨oexB_ok h.1, h.2.1, h.2.2⟩
/-- what is asked of the five classes -/
structure E8 (K : PySem.W.Frag) : Prop where
  c : ∀ i, i < 5 → ExcC K (ga K (exnm i))
  m : ∀ i, i < 5 → PySem.W.exmOne K (.ref (ga K (exnm i))) (.ref (ga K "SayError")) = some true
  i : ∀ i, i < 5 → ∀ j, j < 5 → PySem.W.kitOne K (.ref (ga K (exnm i))) (.ref (ga K (exnm j))) = some (decide (i = j))
  v : ∀ i, i < 5 → PySem.W.kitOne K (.ref (ga K (exnm i))) (.type "ValueError") = some true
def e8B (K : PySem.W.Frag) : Bool := (List.range 5).all fun i => excCB K (ga K (exnm i)) && (decide (PySem.W.exmOne K (.ref (ga K (exnm i))) (.ref (ga K "SayError")) = some true) && (((List.range 5).all fun j => decide (PySem.W.kitOne K (.ref (ga K (exnm i))) (.ref (ga K (exnm j))) = some (decide (i = j)))) && decide (PySem.W.kitOne K (.ref (ga K (exnm i))) (.type "ValueError") = some true)))
theorem e8B_ok {K : PySem.W.Frag} (h : e8B K = true) : E8 K := by
  unfold e8B at h
  rw [List.all_eq_true] at h
  have g : ∀ i, i < 5 → _ := fun i hi => h i (List.mem_range.mpr hi)
  simp only [Bool.and_eq_true, decide_eq_true_eq, List.all_eq_true] at g
  exact ⟨fun i hi => excCB_ok (g i hi).1, fun i hi => (g i hi).2.1, fun i hi j hj => (g i hi).2.2.1 j (List.mem_range.mpr hj), fun i hi => (g i hi).2.2.2⟩
/-! ### promises of what lists what is refused -/
def PurX (P : Hp → V → Prop) : Sp := fun vs H Q _ => ∃ c : Int, vs = [.int c] ∧ ∀ xs p H2, xs.length ≤ 100 → (∀ x ∈ xs, P H2 x) → H p = none → Ex H H2 → H2 p = some (.lst xs) → Q (.ref p) H2
def PCnt (K : PySem.W.Frag) (H : Hp) (v : V) : Prop := Kn K H v ∧ cntBad v = true
def PPl (K : PySem.W.Frag) (H : Hp) (v : V) : Prop := Kn K H v ∧ isB 2 v = false
def PNum (K : PySem.W.Frag) (H : Hp) (v : V) : Prop := Kn K H v ∧ isI v = false
abbrev gd : List Say := [(0, 1, 4)]
abbrev rg : List Say := [(0, 1, 4), (1, 0, -5)]
def sp__law_counts (K : PySem.W.Frag) : Sp := PurX (PCnt K)
def sp__law_bad_sayings (K : PySem.W.Frag) : Sp := PurX (BadSays K 2)
def sp__law_bad_places (K : PySem.W.Frag) : Sp := PurX (PPl K)
def sp__law_bad_numbers (K : PySem.W.Frag) : Sp := PurX (PNum K)
def sp__law_bad_heights (K : PySem.W.Frag) : Sp := PurX (BadHts K 2)
def sp__law_bad_chains (K : PySem.W.Frag) : Sp := PurX (BadCh K gd 0 0)
def t__law_counts (K : PySem.W.Frag) : TS := tRet (tLst (tCons (tC .non) (tCons (tC (.int 0)) (tCons (tUn rNegI (tC (.int 1))) (tCons (tOp rSubI (tUn rNegI (tC (.int 1))) (tOp rModI (tVar 0) (tC (.int 9)))) (tCons (tC (.bl true)) (tCons (tC (.str "2")) (tCons (tLst (tCons (tC (.int 2)) (tNil))) (tCons (tTup (tCons (tC (.int 2)) (tNil))) (tNil))))))))))
def t__law_bad_sayings (K : PySem.W.Frag) : TS := tSeq (tAsg (tLst (tCons (tC .non) (tCons (tTup (tCons (tTup (tCons (tC (.int 0)) (tCons (tC (.int 1)) (tCons (tC (.int 2)) (tNil))))) (tNil))) (tCons (tC (.str "012")) (tCons (tDNewK) (tCons (tLst (tCons (tC .non) (tNil))) (tCons (tLst (tCons (tTup (tCons (tC (.int 0)) (tCons (tC (.int 1)) (tNil)))) (tNil))) (tCons (tLst (tCons (tTup (tCons (tC (.int 0)) (tCons (tC (.int 1)) (tCons (tC (.int 2)) (tCons (tC (.int 3)) (tNil)))))) (tNil))) (tCons (tLst (tCons (tLst (tCons (tC (.int 0)) (tCons (tC (.int 1)) (tCons (tC (.int 2)) (tNil))))) (tNil))) (tCons (tLst (tCons (tTup (tCons (tC (.int 0)) (tCons (tC (.int 2)) (tCons (tC (.int 1)) (tNil))))) (tNil))) (tCons (tLst (tCons (tTup (tCons (tUn rNegI (tC (.int 1))) (tCons (tC (.int 0)) (tCons (tC (.int 1)) (tNil))))) (tNil))) (tNil)))))))))))) (gName 1)) (tSeq (tAsg (tOp rCat (tVar 1) (tLst (tCons (tLst (tCons (tTup (tCons (tC (.bl true)) (tCons (tC (.int 0)) (tCons (tC (.int 1)) (tNil))))) (tNil))) (tCons (tLst (tCons (tTup (tCons (tC (.int 0)) (tCons (tC (.int 1)) (tCons (tC .non) (tNil))))) (tNil))) (tCons (tLst (tCons (tTup (tCons (tC (.int 0)) (tCons (tC (.int 1)) (tCons (tC (.str "1")) (tNil))))) (tNil))) (tCons (tLst (tCons (tTup (tCons (tC (.int 0)) (tCons (tC (.int 1)) (tCons (tC (.bl true)) (tNil))))) (tNil))) (tCons (tLst (tCons (tTup (tCons (tC (.int 0)) (tCons (tC (.int 1)) (tCons (tC (.int 1)) (tNil))))) (tCons (tTup (tCons (tOp rAddI (tC (.int 2)) (tOp rModI (tVar 0) (tC (.int 9)))) (tCons (tC (.int 0)) (tCons (tVar 0) (tNil))))) (tNil)))) (tNil)))))))) (gName 1)) (tRet (tOp rCat (tVar 1) (tLst (tCons (tVar 0) (tCons (tC (.int 5)) (tCons (tLst (tCons (tTup (tCons (tC (.int 0)) (tCons (tC (.int 1)) (tCons (tVar 0) (tNil))))) (tCons (tC .non) (tNil)))) (tCons (tLst (tCons (tTup (tCons (tC (.int 0)) (tCons (tOp rSubI (tUn rNegI (tC (.int 1))) (tOp rModI (tVar 0) (tC (.int 9)))) (tCons (tC (.int 1)) (tNil))))) (tNil))) (tCons (tLst (tCons (tTup (tCons (tC (.str "0")) (tCons (tC (.int 1)) (tCons (tC (.int 1)) (tNil))))) (tNil))) (tNil))))))))))
def t__law_bad_places (K : PySem.W.Frag) : TS := tRet (tLst (tCons (tC .non) (tCons (tUn rNegI (tC (.int 1))) (tCons (tC (.int 2)) (tCons (tOp rAddI (tC (.int 2)) (tOp rModI (tVar 0) (tC (.int 9)))) (tCons (tOp rSubI (tUn rNegI (tC (.int 1))) (tOp rModI (tVar 0) (tC (.int 9)))) (tCons (tC (.bl true)) (tCons (tC (.str "0")) (tCons (tLst (tCons (tC (.int 0)) (tNil))) (tNil))))))))))
def t__law_bad_numbers (K : PySem.W.Frag) : TS := tRet (tLst (tCons (tC .non) (tCons (tC (.str "1")) (tCons (tC (.bl true)) (tCons (tLst (tCons (tC (.int 1)) (tNil))) (tCons (tTup (tCons (tC (.int 1)) (tNil))) (tCons (tDNewK) (tNil))))))))
def t__law_bad_heights (K : PySem.W.Frag) : TS := tRet (tLst (tCons (tC .non) (tCons (tTup (tCons (tC (.int 1)) (tCons (tC (.int 2)) (tNil)))) (tCons (tC (.str "12")) (tCons (tDNewK) (tCons (tLst (tCons (tC (.int 1)) (tNil))) (tCons (tLst (tCons (tC (.int 1)) (tCons (tC (.int 2)) (tCons (tC (.int 3)) (tNil))))) (tCons (tLst (tCons (tC (.int 1)) (tCons (tC .non) (tNil)))) (tCons (tLst (tCons (tC (.int 1)) (tCons (tC (.bl true)) (tNil)))) (tCons (tLst (tCons (tC (.str "1")) (tCons (tC (.int 2)) (tNil)))) (tCons (tLst (tCons (tLst (tCons (tC (.int 1)) (tNil))) (tCons (tC (.int 2)) (tNil)))) (tCons (tLst (tNil)) (tCons (tVar 0) (tCons (tLst (tCons (tVar 0) (tNil))) (tNil)))))))))))))))
def t__law_bad_chains (K : PySem.W.Frag) : TS := tRet (tLst (tCons (tC .non) (tCons (tTup (tCons (tC (.int 0)) (tNil))) (tCons (tC (.str "0")) (tCons (tDNewK) (tCons (tLst (tCons (tC (.int 1)) (tNil))) (tCons (tLst (tCons (tUn rNegI (tC (.int 1))) (tNil))) (tCons (tLst (tCons (tC (.bl true)) (tNil))) (tCons (tLst (tCons (tC (.str "0")) (tNil))) (tCons (tLst (tCons (tC .non) (tNil))) (tCons (tLst (tCons (tC (.int 0)) (tCons (tC (.int 0)) (tNil)))) (tCons (tLst (tCons (tOp rAddI (tC (.int 1)) (tOp rModI (tVar 0) (tC (.int 9)))) (tNil))) (tCons (tVar 0) (tCons (tLst (tCons (tC (.int 0)) (tNil))) (tNil)))))))))))))))
def t_due_suite (K : PySem.W.Frag) (a : Addr) (c : Value) (d : Option Addr) : TS := tSeq (tAsg (tLst (tCons (tCB (rIsX K c d a) (tCons (tVar 6) (tCons ((tC (.ref (ga K "BadCount")))) (tNil)))) (tCons (tCB (rIsX K c d a) (tCons (tVar 6) (tCons ((tC (.ref (ga K "BadSayings")))) (tNil)))) (tCons (tCB (rIsX K c d a) (tCons (tVar 6) (tCons ((tC (.ref (ga K "BadPlace")))) (tNil)))) (tNil))))) (gName 7)) (tSeq (tAsg (tOp rCat (tVar 7) (tLst (tCons (tCB (rIsX K c d a) (tCons (tVar 6) (tCons ((tC (.ref (ga K "BadNumber")))) (tNil)))) (tCons (tCB (rIsX K c d a) (tCons (tVar 6) (tCons ((tC (.ref (ga K "Broken")))) (tNil)))) (tNil))))) (gName 7)) (tRet (tAndV (tOp (rEqD K) (tVar 7) (tLcEq 5 5)) (tCB (rIsX K c d a) (tCons (tVar 6) (tCons ((tC (.ty "ValueError"))) (tNil)))))))
section
variable {K : PySem.W.Frag} {vs : List V} {H H' : Hp} {Q : VK} {E : XK} {σ : L2.St} {ta tb tc td te tl t1 t2 t3 t4 t5 t6 : TE} {tt : TT} {tz tu : TS} {D : Ends} {ts : TA} {x l m : Addr} {P : Hp → V → Prop} {n N : Nat}
/-! ### what catches -/
def dB (bs : List Bool) : PyData := .list (bs.map .bool)
theorem dp_bools : ∀ bs : List Bool, DpAll K H (bs.map V.bl) (bs.map .bool)
  | [] => .nil
  | h :: r => .cons (.bl h) (dp_bools r)
theorem lay_bools : ∀ bs : List Bool, PyData.canLayAll0 (bs.map .bool) = true
  | [] => by unfold PyData.canLayAll0; rfl
  | h :: r => by rw [List.map_cons, PyData.canLayAll0, lay_bools r]; simp [PyData.canLay0]
theorem dep_bools : ∀ bs : List Bool, PyData.depthAll (bs.map .bool) = 0
  | [] => by unfold PyData.depthAll; rfl
  | h :: r => by rw [List.map_cons, PyData.depthAll, dep_bools r]; simp [PyData.depth]
theorem sh_B (bs : List Bool) : SeqAt.shaped (dB bs) = true := by
  unfold SeqAt.shaped dB
  rw [PyData.canLay0, lay_bools, PyData.depth, dep_bools]
  rfl
theorem ev_isX8 {a Dc : Addr} {d : Option Addr} {t : V} {tv : Value} {b : Bool} (T : ExcC K Dc) (hd : d = none ∨ ∃ x fs, d = some x ∧ H x = some (.xd fs)) (ha : Ev ta σ H (.ref a)) (ht : ∀ u, RelV t u → u = tv) (h : PySem.W.kitOne K (.ref Dc) tv = some b) : Ev (tCB (rIsX K (.ref Dc) d a) (tCons ta (tCons (tC t) tNil))) σ H (.bl b) :=
  ev_cb (ea2 ha ev_c) fun H1 e1 Q q => ⟨Dc, t, tv, b, rfl, T, hd.imp id fun ⟨x, fs, h1, h2⟩ => ⟨x, fs, h1, e1 _ _ h2⟩, rfl, ht, h, q H1 (Ex.refl H1)⟩
theorem el_cat2 {xs ys : List V} (h1 : Ev ta σ H (.ref l)) (hl : H l = some (.lst xs)) (h2 : EvL tb σ H ys) (hz : xs.length + ys.length ≤ 100000) : EvL (tOp rCat ta tb) σ H (xs ++ ys) := fun H1 e Q q =>
  h1 H1 e _ fun H2 e2 => h2 H2 (e.trans e2) _ fun r H3 hr e3 h3 => ⟨l, r, xs, ys, rfl, rfl, ((e.trans e2).trans e3) _ _ hl, h3, sz_of hz, fun o ho => q o _ (fresh_back (e2.trans e3) ho) ((e2.trans e3).trans (Ex.new ho)) upd_same⟩
theorem el_lcEq {n i : Nat} {m : Int} (h : σ[i]? = some (some (.int m))) : EvL (tLcEq n i) σ H ((List.range n).map fun (j : Nat) => V.bl ((j : Int) == m)) := fun H1 e Q q => ⟨m, h, fun D hD => q D _ hD (Ex.new hD) upd_same⟩
theorem due_suite (F : E8 K) {d : Nat} {cnt says one other : V} {due : Nat} (hdue : due < 5) {o : Addr} {dd : Option Addr} (hd : dd = none ∨ ∃ x fs, dd = some x ∧ H x = some (.xd fs)) (k : ∀ H2, Ex H H2 → D.rt (.bl true) H2) :
    t_due_suite K o (.ref (ga K (exnm due))) dd D [some (.int (d : Int)), some cnt, some says, some one, some other, some (.int (due : Int)), some (.ref o), none, none] H := by
  unfold t_due_suite
  have hx : ∀ {H' : Hp}, Ex H H' → dd = none ∨ ∃ x fs, dd = some x ∧ H' x = some (.xd fs) := fun e => hd.imp id fun ⟨x, fs, h1, h2⟩ => ⟨x, fs, h1, e _ _ h2⟩
  have is : ∀ {H' : Hp} {w7 : Option V} (j : Nat) (nm : Str), exnm j = nm → Ex H H' → j < 5 → Ev (tCB (rIsX K (.ref (ga K (exnm due))) dd o) (tCons (tVar 6) (tCons (tC (.ref (ga K nm))) tNil))) [some (.int (d : Int)), some cnt, some says, some one, some other, some (.int (due : Int)), some (.ref o), w7, none] H' (.bl (decide (due = j))) := fun j nm en e hj => by
    subst en
    exact ev_isX8 (F.c due hdue) (hx e) (ev_var rfl) (fun _ r => r) (F.i due hdue j hj)
  refine q_asgL (xs := [.bl (decide (due = 0)), .bl (decide (due = 1)), .bl (decide (due = 2))]) (el_lst (ea3 (is 0 "BadCount" rfl (Ex.refl H) (by decide)) (is 1 "BadSayings" rfl (Ex.refl H) (by decide)) (is 2 "BadPlace" rfl (Ex.refl H) (by decide))) (by show 3 ≤ 100000; decide)) fun p H1 _ e1 hp => ?_
  have i3 := is (w7 := some (V.ref p)) 3 "BadNumber" rfl e1 (by decide)
  have i4 := is (w7 := some (V.ref p)) 4 "Broken" rfl e1 (by decide)
  have cat := el_cat2 (σ := [some (.int (d : Int)), some cnt, some says, some one, some other, some (.int (due : Int)), some (.ref o), some (V.ref p), none]) (ta := tVar 7) (ev_var rfl) hp (el_lst (ea2 i3 i4) (by show 2 ≤ 100000; decide)) (by show 3 + 2 ≤ 100000; decide)
  refine q_asgL cat fun p2 H2 _ e2 hp2 => ?_
  have e12 := e1.trans e2
  let b1 : List Bool := [decide (due = 0), decide (due = 1), decide (due = 2), decide (due = 3), decide (due = 4)]
  have eb : b1 = (List.range 5).map fun i => decide (i = due) := by
    have : due = 0 ∨ due = 1 ∨ due = 2 ∨ due = 3 ∨ due = 4 := by omega
    rcases this with rfl | rfl | rfl | rfl | rfl <;> decide
  have those : (List.range 5).map (fun (j : Nat) => V.bl ((j : Int) == (due : Int))) = b1.map V.bl := by
    rw [eb, List.map_map]
    refine List.map_congr_left fun j _ => ?_
    have z : ((j : Int) == (due : Int)) = decide (j = due) := by rw [Bool.eq_iff_iff, beq_iff_eq, decide_eq_true_iff]; omega
    show V.bl ((j : Int) == (due : Int)) = V.bl (decide (j = due))
    rw [z]
  have asked := el_lcEq (n := 5) (i := 5) (m := (due : Int)) (σ := [some (.int (d : Int)), some cnt, some says, some one, some other, some (.int (due : Int)), some (.ref o), some (V.ref p2), none]) (H := H2) rfl
  rw [those] at asked
  have kept : H2 p2 = some (.lst (b1.map V.bl)) := hp2
  clear_value b1
  refine s_ret (v := .bl true) (ev_is (ev_andV (a := true) (b := true) (ev_opL (xs := b1.map V.bl) (ev_var rfl) asked fun q H3 hq e3 => rv_eqD (d := dB b1) (e := dB b1) (fun _ e => .lst (sq_of (e _ _ (e3 _ _ kept))) (dp_bools b1)) (fun _ e => .lst (sq_of (e _ _ hq)) (dp_bools b1)) (sh_B b1) (sh_B b1) (eqv_self (sh_B b1)))
    fun _ => ev_isX8 (F.c due hdue) (hx e12) (ev_var rfl) (fun _ r => r) (F.v due hdue)) rfl) fun H3 e3 => k H3 (e12.trans e3)
theorem pure__law_due (F : E8 K) (h : sp__law_due K vs H Q E) : t__law_due K (Bd Q) (L2.start ["_law_door", "_law_count", "_law_sayings", "_law_one", "_law_other", "_law_due_here", "error", "_law_found", "_law_k"] vs) H := by
  obtain ⟨z, ⟨d, cnt, says, one, other, due, rfl, hd, hdue, r, rfl⟩, k⟩ := h
  refine raw_q_tryDrop (raw_callS (ea_cons (ev_var rfl) (ea_cons (ev_var rfl) (ea3 (ev_var rfl) (ev_var rfl) (ev_var rfl)))) fun H1 e1 => ⟨d, cnt, says, one, other, due, rfl, hd, r.mono hd e1, ?_⟩)
  unfold ErrE
  split
  · rename_i h4
    subst h4
    exact fun dd fs H2 e2 h2 => ⟨true, F.m 4 (by decide), fun _ o _ => due_suite F (due := 4) (by decide) (.inr ⟨dd, fs, rfl, h2⟩) fun H3 e3 => k H3 ((e1.trans e2).trans e3), fun z => nomatch z⟩
  · exact fun H2 e2 => ⟨true, F.m due hdue, fun _ o _ => due_suite F hdue (.inl rfl) fun H3 e3 => k H3 ((e1.trans e2).trans e3), fun z => nomatch z⟩
/-! ### values of some kind -/
def Mono (P : Hp → V → Prop) : Prop := ∀ (H H' : Hp) (v : V), Ex H H' → P H v → P H' v
def EvX (te : TE) (σ : L2.St) (H : Hp) (P : Hp → V → Prop) : Prop := ∀ H1, Ex H H1 → ∀ Q : VK, (∀ v H2, Ex H1 H2 → P H2 v → Q v H2) → te σ H1 Q
def EvXs (ta : TA) (σ : L2.St) (H : Hp) (P : Hp → V → Prop) (n : Nat) : Prop := ∀ H1, Ex H H1 → ∀ Q : List V → Hp → Prop, (∀ xs H2, xs.length = n → (∀ x ∈ xs, P H2 x) → Ex H1 H2 → Q xs H2) → ta σ H1 Q
def EvXL (tl : TE) (σ : L2.St) (H : Hp) (P : Hp → V → Prop) (N : Nat) : Prop := ∀ H1, Ex H H1 → ∀ Q : VK, (∀ p xs H2, xs.length ≤ N → H1 p = none → Ex H1 H2 → H2 p = some (.lst xs) → (∀ x ∈ xs, P H2 x) → Q (.ref p) H2) → tl σ H1 Q
theorem xs_nil : EvXs tNil σ H P 0 := fun H1 _ Q q => q [] H1 rfl (fun x hx => nomatch hx) (Ex.refl H1)
theorem xs_cons {tr : TA} (hm : Mono P) (h : EvX te σ H P) (r : EvXs tr σ H P n) : EvXs (tCons te tr) σ H P (n + 1) := fun H1 e Q q =>
  h H1 e _ fun v H2 e2 hv => r H2 (e.trans e2) _ fun xs H3 hl hA e3 => q (v :: xs) H3 (by rw [List.length_cons, hl]) (fun x hx => by
    rcases List.mem_cons.mp hx with rfl | g
    · exact hm _ _ _ e3 hv
    · exact hA x g) (e2.trans e3)
theorem xl_lst (hm : Mono P) (h : EvXs ts σ H P n) (hn : n ≤ 100) : EvXL (tLst ts) σ H P n := fun H1 e Q q =>
  h H1 e _ fun xs H2 hl hA e2 => ⟨sz_of (by omega), fun p hp => q p xs _ (by omega) (fresh_back e2 hp) (e2.trans (Ex.new hp)) upd_same fun x hx => hm _ _ _ (Ex.new hp) (hA x hx)⟩
theorem xl_cat {xs : List V} (hm : Mono P) (h1 : Ev ta σ H (.ref l)) (hl : H l = some (.lst xs)) (hz : xs.length ≤ N) (hp : ∀ x ∈ xs, P H x) (h2 : EvXs ts σ H P n) (hn : N + n ≤ 100) : EvXL (tOp rCat ta (tLst ts)) σ H P (N + n) := fun H1 e Q q =>
  h1 H1 e _ fun H2 e2 => h2 H2 (e.trans e2) _ fun ys H3 hy hA e3 => ⟨sz_of (by omega), fun o ho => by
    have eo := Ex.new (o := .lst ys) ho
    refine ⟨l, o, xs, ys, rfl, rfl, eo _ _ (((e.trans e2).trans e3) _ _ hl), upd_same, sz_of (by omega), fun r hr => ?_⟩
    have er := Ex.new (o := .lst (xs ++ ys)) hr
    refine q r (xs ++ ys) _ (by rw [List.length_append]; omega) (fresh_back ((e2.trans e3).trans eo) hr) (((e2.trans e3).trans eo).trans er) upd_same fun x hx => ?_
    rcases List.mem_append.mp hx with g | g
    · exact hm _ _ _ ((((e.trans e2).trans e3).trans eo).trans er) (hp x g)
    · exact hm _ _ _ (eo.trans er) (hA x g)⟩
theorem xl_call {c : Int} (h : Ev ta σ H (.int c)) : EvXL (tCall (PurX P) [] E0 (tCons ta tNil)) σ H P 100 := fun H1 e Q q =>
  (ea_cons h ea_nil) H1 e _ fun H2 e2 => ⟨c, rfl, fun xs p H3 hl hA hp e3 h3 => q p xs H3 (by omega) (fresh_back e2 hp) (e2.trans e3) h3 hA⟩
theorem xl_sl {tlo thi : TO} {lo hi : Option Int} (hm : Mono P) (h : EvXL te σ H P N) (h1 : ∀ H1, Ex H H1 → EvO tlo σ H1 lo) (h2 : ∀ H1, Ex H H1 → EvO thi σ H1 hi) : EvXL (tSl (rSlL K) te tlo thi) σ H P N := fun H1 e Q q =>
  h H1 e _ fun p xs H2 hl hp e2 h2' hA => (h1 H2 (e.trans e2)) H2 (Ex.refl H2) _ fun H3 e3 => (h2 H3 ((e.trans e2).trans e3)) H3 (Ex.refl H3) _ fun H4 e4 => ⟨p, xs, rfl, sq_of ((e3.trans e4) _ _ h2'), fun o ho =>
    q o _ _ (Nat.le_trans (cutV_length xs lo hi) hl) (fresh_back ((e2.trans e3).trans e4) ho) (((e2.trans e3).trans e4).trans (Ex.new ho)) upd_same fun x hx => hm _ _ _ ((e3.trans e4).trans (Ex.new ho)) (hA x (by unfold cutV at hx; exact List.mem_of_mem_drop (List.mem_of_mem_take hx)))⟩
theorem ex_c {v : V} (h : ∀ H', P H' v) : EvX (tC v) σ H P := fun H1 _ Q q => q v H1 (Ex.refl H1) (h H1)
theorem ex_ev {v : V} (h : Ev te σ H v) (hp : ∀ H', P H' v) : EvX te σ H P := fun H1 e Q q => h H1 e Q fun H2 e2 => q v H2 e2 (hp H2)
theorem ex_lstA {vs : List V} (h : EvA ts σ H vs) (hl : vs.length ≤ 100) (f : ∀ p H', H' p = some (.lst vs) → P H' (.ref p)) : EvX (tLst ts) σ H P := fun H1 e Q q =>
  h H1 e _ fun H2 e2 => ⟨sz_of (by omega), fun p hp => q _ _ (e2.trans (Ex.new hp)) (f p _ upd_same)⟩
theorem ex_tupA {vs : List V} (h : EvA ts σ H vs) (hl : vs.length ≤ 100) (f : ∀ p H', H' p = some (.tup vs) → P H' (.ref p)) : EvX (tTup ts) σ H P := fun H1 e Q q =>
  h H1 e _ fun H2 e2 => ⟨sz_of (by omega), fun p hp => q _ _ (e2.trans (Ex.new hp)) (f p _ upd_same)⟩
theorem ex_lstX {R : Hp → V → Prop} (hm : Mono R) (h : EvXs ts σ H R n) (hn : n ≤ 100) (f : ∀ p xs H', H' p = some (.lst xs) → xs.length = n → (∀ x ∈ xs, R H' x) → P H' (.ref p)) : EvX (tLst ts) σ H P := fun H1 e Q q =>
  h H1 e _ fun xs H2 hl hA e2 => ⟨sz_of (by omega), fun p hp => q _ _ (e2.trans (Ex.new hp)) (f p xs _ upd_same hl fun x hx => hm _ _ _ (Ex.new hp) (hA x hx))⟩
theorem ex_tupX {R : Hp → V → Prop} (hm : Mono R) (h : EvXs ts σ H R n) (hn : n ≤ 100) (f : ∀ p xs H', H' p = some (.tup xs) → P H' (.ref p)) : EvX (tTup ts) σ H P := fun H1 e Q q =>
  h H1 e _ fun xs H2 hl hA e2 => ⟨sz_of (by omega), fun p hp => q _ _ (e2.trans (Ex.new hp)) (f p xs _ upd_same)⟩
theorem ex_dict (f : ∀ p H', H' p = some (.dK []) → P H' (.ref p)) : EvX tDNewK σ H P := fun H1 e Q q p hp => q _ _ (Ex.new hp) (f p _ upd_same)
/-- two items, each of its own sort -/
theorem ex_lst2 {R S : Hp → V → Prop} (hm : Mono R) (hs : Mono S) (h1 : EvX t1 σ H R) (h2 : EvX t2 σ H S) (f : ∀ p x y H', H' p = some (.lst [x, y]) → R H' x → S H' y → P H' (.ref p)) : EvX (tLst (tCons t1 (tCons t2 tNil))) σ H P := fun H1 e Q q =>
  h1 H1 e _ fun v H2 e2 hv => h2 H2 (e.trans e2) _ fun w H3 e3 hw => ⟨by show 2 ≤ sizeLine; decide, fun p hp => q _ _ ((e2.trans e3).trans (Ex.new hp)) (f p v w _ upd_same (hm _ _ _ (e3.trans (Ex.new hp)) hv) (hs _ _ _ (Ex.new hp) hw))⟩
theorem ex_lst1 {R : Hp → V → Prop} (hm : Mono R) (h1 : EvX t1 σ H R) (f : ∀ p x H', H' p = some (.lst [x]) → R H' x → P H' (.ref p)) : EvX (tLst (tCons t1 tNil)) σ H P := fun H1 e Q q =>
  h1 H1 e _ fun v H2 e2 hv => ⟨by show 1 ≤ sizeLine; decide, fun p hp => q _ _ (e2.trans (Ex.new hp)) (f p v _ upd_same (hm _ _ _ (Ex.new hp) hv))⟩
/-! kinds -/
theorem kn_flat {v : V} (h : flatV v = true) : Kn K H v := by
  cases v with
  | non => exact ⟨"NoneType", .base .non, by decide, by show false = _; decide⟩
  | bl b => exact ⟨"bool", ty_bl, by decide, by show false = _; decide⟩
  | int i => exact kn_int i
  | str z => exact ⟨"str", .base (.str z), by decide, by show false = _; decide⟩
  | _ => cases h
theorem kn_L {p : Addr} {xs : List V} (h : H p = some (.lst xs)) : Kn K H (.ref p) := ⟨"list", ty_L (sq_of h), by decide, by show false = _; decide⟩
theorem kn_T {p : Addr} {xs : List V} (h : H p = some (.tup xs)) : Kn K H (.ref p) := ⟨"tuple", ty_T (st_of h), by decide, by show false = _; decide⟩
theorem kn_D {p : Addr} (h : H p = some (.dK [])) : Kn K H (.ref p) := ⟨"dict", .base (.dK h), by decide, by show false = _; decide⟩
theorem nl_flat {v : V} (h : flatV v = true) : NoList K H v := by
  cases v with
  | non => exact ⟨"NoneType", .base .non, by decide, by decide⟩
  | bl b => exact ⟨"bool", ty_bl, by decide, by decide⟩
  | int i => exact ⟨"int", ty_int, by decide, by decide⟩
  | str z => exact ⟨"str", .base (.str z), by decide, by decide⟩
  | _ => cases h
theorem nl_T {p : Addr} {xs : List V} (h : H p = some (.tup xs)) : NoList K H (.ref p) := ⟨"tuple", ty_T (st_of h), by decide, by decide⟩
theorem nl_D {p : Addr} (h : H p = some (.dK [])) : NoList K H (.ref p) := ⟨"dict", .base (.dK h), by decide, by decide⟩
theorem mCnt : Mono (PCnt K) := fun _ _ _ e h => ⟨h.1.mono e, h.2⟩
theorem mPl : Mono (PPl K) := fun _ _ _ e h => ⟨h.1.mono e, h.2⟩
theorem mNum : Mono (PNum K) := fun _ _ _ e h => ⟨h.1.mono e, h.2⟩
theorem mSays {n : Int} : Mono (BadSays K n) := fun _ _ _ e h => h.mono e
theorem mHts {n : Nat} : Mono (BadHts K n) := fun _ _ _ e h => h.mono e
theorem mCh {ss : List Say} {p q : Nat} : Mono (BadCh K ss p q) := fun _ _ _ e h => h.mono e
theorem mKn : Mono (Kn K) := fun _ _ _ e h => h.mono e
theorem mT : Mono (fun _ _ => True) := fun _ _ _ _ _ => trivial
theorem ex_any (h : Ev te σ H (.int 0) ∨ True) {v : V} (hv : Ev te σ H v) : EvX te σ H fun _ _ => True := ex_ev hv fun _ => trivial
theorem cntLe (c : Int) : cntBad (.int (-1 - c % 9)) = true := decide_eq_true (by omega)
theorem isB_hi (c : Int) : isB 2 (.int (2 + c % 9)) = false := by
  show (decide (0 ≤ 2 + c % 9) && decide (2 + c % 9 < 2)) = false
  rw [decide_eq_false (show ¬ 2 + c % 9 < 2 by omega), Bool.and_false]
theorem isB_lo (c : Int) : isB 2 (.int (-1 - c % 9)) = false := by
  show (decide (0 ≤ -1 - c % 9) && decide (-1 - c % 9 < 2)) = false
  rw [decide_eq_false (show ¬ 0 ≤ -1 - c % 9 by omega), Bool.false_and]
theorem isB1 (c : Int) : isB 1 (.int (1 + c % 9)) = false := by
  show (decide (0 ≤ 1 + c % 9) && decide (1 + c % 9 < 1)) = false
  rw [decide_eq_false (show ¬ 1 + c % 9 < 1 by omega), Bool.and_false]
theorem ev_m1 : Ev (tUn rNegI (tC (.int 1))) σ H (.int (-1)) := ev_un ev_c ru_neg
theorem ev_hi {c : Int} {i : Nat} (hi : σ[i]? = some (some (.int c))) : Ev (tOp rAddI (tC (.int 2)) (tOp rModI (tVar i) (tC (.int 9)))) σ H (.int (2 + c % 9)) := ev_op ev_c (ev_op (ev_var hi) ev_c (md (by decide))) rv_I0
theorem ev_lo {c : Int} {i : Nat} (hi : σ[i]? = some (some (.int c))) : Ev (tOp rSubI (tUn rNegI (tC (.int 1))) (tOp rModI (tVar i) (tC (.int 9)))) σ H (.int (-1 - c % 9)) := ev_op ev_m1 (ev_op (ev_var hi) ev_c (md (by decide))) rv_I0
theorem retX (h : EvXL te σ H P N) (k : ∀ xs p H2, xs.length ≤ N → (∀ x ∈ xs, P H2 x) → H p = none → Ex H H2 → H2 p = some (.lst xs) → D.rt (.ref p) H2) : tRet te D σ H := h H (Ex.refl H) _ fun p xs H2 hl hp e h2 hA => k xs p H2 hl hA hp e h2
theorem pure__law_counts (h : sp__law_counts K vs H Q E) : t__law_counts K (Bd Q) (L2.start ["_law_cell"] vs) H := by
  obtain ⟨c, rfl, k⟩ := h
  unfold t__law_counts
  have fl : ∀ (v : V), flatV v = true → cntBad v = true → ∀ H', PCnt K H' v := fun v h1 h2 H' => ⟨kn_flat h1, h2⟩
  refine s_retRaw (xs_cons mCnt (ex_c (fl _ rfl rfl)) (xs_cons mCnt (ex_c (fl _ rfl rfl)) (xs_cons mCnt (ex_ev ev_m1 (fl _ rfl rfl)) (xs_cons mCnt (ex_ev (ev_lo rfl) (fl _ rfl (cntLe c))) (xs_cons mCnt (ex_c (fl _ rfl rfl)) (xs_cons mCnt (ex_c (fl _ rfl rfl)) (xs_cons mCnt (ex_lstA (vs := [.int 2]) (ea_cons ev_c ea_nil) (by decide) fun p H' h => ⟨kn_L h, rfl⟩) (xs_cons mCnt (ex_tupA (vs := [.int 2]) (ea_cons ev_c ea_nil) (by decide) fun p H' h => ⟨kn_T h, rfl⟩) xs_nil))))))) H (Ex.refl H) _ fun xs H2 hl hA e2 => ⟨sz_of (by omega), fun p hp => k xs p _ (by omega) (fun x hx => mCnt _ _ _ (Ex.new hp) (hA x hx)) (fresh_back e2 hp) (e2.trans (Ex.new hp)) upd_same⟩)
theorem pure__law_bad_places (h : sp__law_bad_places K vs H Q E) : t__law_bad_places K (Bd Q) (L2.start ["_law_cell"] vs) H := by
  obtain ⟨c, rfl, k⟩ := h
  unfold t__law_bad_places
  have fl : ∀ (v : V), flatV v = true → isB 2 v = false → ∀ H', PPl K H' v := fun v h1 h2 H' => ⟨kn_flat h1, h2⟩
  refine s_retRaw (xs_cons mPl (ex_c (fl _ rfl rfl)) (xs_cons mPl (ex_ev ev_m1 (fl _ rfl (by decide))) (xs_cons mPl (ex_c (fl _ rfl (by decide))) (xs_cons mPl (ex_ev (ev_hi rfl) (fl _ rfl (isB_hi c))) (xs_cons mPl (ex_ev (ev_lo rfl) (fl _ rfl (isB_lo c))) (xs_cons mPl (ex_c (fl _ rfl rfl)) (xs_cons mPl (ex_c (fl _ rfl rfl)) (xs_cons mPl (ex_lstA (vs := [.int 0]) (ea_cons ev_c ea_nil) (by decide) fun p H' h => ⟨kn_L h, rfl⟩) xs_nil))))))) H (Ex.refl H) _ fun xs H2 hl hA e2 => ⟨sz_of (by omega), fun p hp => k xs p _ (by omega) (fun x hx => mPl _ _ _ (Ex.new hp) (hA x hx)) (fresh_back e2 hp) (e2.trans (Ex.new hp)) upd_same⟩)
theorem pure__law_bad_numbers (h : sp__law_bad_numbers K vs H Q E) : t__law_bad_numbers K (Bd Q) (L2.start ["_law_cell"] vs) H := by
  obtain ⟨c, rfl, k⟩ := h
  unfold t__law_bad_numbers
  have fl : ∀ (v : V), flatV v = true → isI v = false → ∀ H', PNum K H' v := fun v h1 h2 H' => ⟨kn_flat h1, h2⟩
  refine s_retRaw (xs_cons mNum (ex_c (fl _ rfl rfl)) (xs_cons mNum (ex_c (fl _ rfl rfl)) (xs_cons mNum (ex_c (fl _ rfl rfl)) (xs_cons mNum (ex_lstA (vs := [.int 1]) (ea_cons ev_c ea_nil) (by decide) fun p H' h => ⟨kn_L h, rfl⟩) (xs_cons mNum (ex_tupA (vs := [.int 1]) (ea_cons ev_c ea_nil) (by decide) fun p H' h => ⟨kn_T h, rfl⟩) (xs_cons mNum (ex_dict fun p H' h => ⟨kn_D h, rfl⟩) xs_nil))))) H (Ex.refl H) _ fun xs H2 hl hA e2 => ⟨sz_of (by omega), fun p hp => k xs p _ (by omega) (fun x hx => mNum _ _ _ (Ex.new hp) (hA x hx)) (fresh_back e2 hp) (e2.trans (Ex.new hp)) upd_same⟩)
/-- lists of flat things -/
theorem hts_A {vs : List V} (h : EvA ts σ H vs) (hl : vs.length ≤ 100) (hf : ∀ x ∈ vs, flatV x = true) (hb : vs.length ≠ 2 ∨ vs.all isI = false) : EvX (tLst ts) σ H (BadHts K 2) := ex_lstA h hl fun p H' h => .inr ⟨p, vs, rfl, sq_of h, by omega, fun x hx => kn_flat (hf x hx), hb⟩
theorem ch_A {vs : List V} (h : EvA ts σ H vs) (hl : vs.length ≤ 100) (hf : ∀ x ∈ vs, flatV x = true) (hb : vs.all (isB 1) = false) : EvX (tLst ts) σ H (BadCh K gd 0 0) := ex_lstA h hl fun p H' h => .inr ⟨p, vs, rfl, sq_of h, by omega, fun x hx => kn_flat (hf x hx), .inl hb⟩
theorem ch_S {cs : List Int} (h : EvA ts σ H (iV cs)) (hl : (iV cs).length ≤ 100) (h1 : (iV cs).all (isB 1) = true) (h2 : sumAlong gd cs 0 0 = none) : EvX (tLst ts) σ H (BadCh K gd 0 0) := ex_lstA h hl fun p H' h => .inr ⟨p, iV cs, rfl, sq_of h, by omega, fun x hx => by
  obtain ⟨y, _, rfl⟩ := List.mem_map.mp hx
  exact kn_int y, .inr ⟨cs, rfl, h1, h2⟩⟩
theorem pure__law_bad_heights (h : sp__law_bad_heights K vs H Q E) : t__law_bad_heights K (Bd Q) (L2.start ["_law_cell"] vs) H := by
  obtain ⟨c, rfl, k⟩ := h
  unfold t__law_bad_heights
  have fl : ∀ (v : V), flatV v = true → ∀ H', BadHts K 2 H' v := fun v h1 H' => .inl (nl_flat h1)
  refine s_retRaw (xs_cons mHts (ex_c (fl _ rfl)) (xs_cons mHts (ex_tupA (vs := [.int 1, .int 2]) (ea2 ev_c ev_c) (by decide) fun p H' h => .inl (nl_T h)) (xs_cons mHts (ex_c (fl _ rfl)) (xs_cons mHts (ex_dict fun p H' h => .inl (nl_D h))
    (xs_cons mHts (hts_A (vs := [.int 1]) (ea_cons ev_c ea_nil) (by decide) (by decide) (.inl (by decide))) (xs_cons mHts (hts_A (vs := [.int 1, .int 2, .int 3]) (ea3 ev_c ev_c ev_c) (by decide) (by decide) (.inl (by decide))) (xs_cons mHts (hts_A (vs := [.int 1, .non]) (ea2 ev_c ev_c) (by decide) (by decide) (.inr rfl)) (xs_cons mHts (hts_A (vs := [.int 1, .bl true]) (ea2 ev_c ev_c) (by decide) (by decide) (.inr rfl)) (xs_cons mHts (hts_A (vs := [.str "1", .int 2]) (ea2 ev_c ev_c) (by decide) (by decide) (.inr rfl))
    (xs_cons mHts (ex_lst2 (R := PNum K) (S := Kn K) mNum mKn (ex_lstA (vs := [.int 1]) (ea_cons ev_c ea_nil) (by decide) fun p H' h => ⟨kn_L h, rfl⟩) (ex_c fun _ => kn_int 2) fun p x y H' h hx hy => .inr ⟨p, [x, y], rfl, sq_of h, by show 2 ≤ 1000; decide, fun z hz => by
      simp only [List.mem_cons, List.not_mem_nil, or_false] at hz
      rcases hz with rfl | rfl
      · exact hx.1
      · exact hy, .inr (by show (isI x && (isI y && true)) = false; rw [hx.2]; rfl)⟩)
    (xs_cons mHts (hts_A (vs := []) ea_nil (by decide) (by decide) (.inl (by decide))) (xs_cons mHts (ex_ev (ev_var rfl) (fl (.int c) rfl)) (xs_cons mHts (hts_A (vs := [.int c]) (ea_cons (ev_var rfl) ea_nil) (by show 1 ≤ 100; decide) (fun x hx => by simp at hx; subst hx; rfl) (.inl (by show 1 ≠ 2; decide))) xs_nil)))))))))))) H (Ex.refl H) _ fun xs H2 hl hA e2 => ⟨sz_of (by omega), fun p hp => k xs p _ (by omega) (fun x hx => mHts _ _ _ (Ex.new hp) (hA x hx)) (fresh_back e2 hp) (e2.trans (Ex.new hp)) upd_same⟩)
theorem pure__law_bad_chains (h : sp__law_bad_chains K vs H Q E) : t__law_bad_chains K (Bd Q) (L2.start ["_law_cell"] vs) H := by
  obtain ⟨c, rfl, k⟩ := h
  unfold t__law_bad_chains
  have fl : ∀ (v : V), flatV v = true → ∀ H', BadCh K gd 0 0 H' v := fun v h1 H' => .inl (nl_flat h1)
  refine s_retRaw (xs_cons mCh (ex_c (fl _ rfl)) (xs_cons mCh (ex_tupA (vs := [.int 0]) (ea_cons ev_c ea_nil) (by decide) fun p H' h => .inl (nl_T h)) (xs_cons mCh (ex_c (fl _ rfl)) (xs_cons mCh (ex_dict fun p H' h => .inl (nl_D h))
    (xs_cons mCh (ch_A (vs := [.int 1]) (ea_cons ev_c ea_nil) (by decide) (by decide) (by decide)) (xs_cons mCh (ch_A (vs := [.int (-1)]) (ea_cons ev_m1 ea_nil) (by decide) (by decide) (by decide)) (xs_cons mCh (ch_A (vs := [.bl true]) (ea_cons ev_c ea_nil) (by decide) (by decide) rfl) (xs_cons mCh (ch_A (vs := [.str "0"]) (ea_cons ev_c ea_nil) (by decide) (by decide) rfl) (xs_cons mCh (ch_A (vs := [.non]) (ea_cons ev_c ea_nil) (by decide) (by decide) rfl)
    (xs_cons mCh (ch_S (cs := [0, 0]) (ea2 ev_c ev_c) (by decide) (by decide) (by decide)) (xs_cons mCh (ch_A (vs := [.int (1 + c % 9)]) (ea_cons (ev_op ev_c (ev_op (ev_var rfl) ev_c (md (by decide))) rv_I0) ea_nil) (by show 1 ≤ 100; decide) (fun x hx => by simp at hx; subst hx; rfl) (by show (isB 1 (.int (1 + c % 9)) && true) = false; rw [isB1]; rfl)) (xs_cons mCh (ex_ev (ev_var rfl) (fl (.int c) rfl)) (xs_cons mCh (ch_S (cs := [0]) (ea_cons ev_c ea_nil) (by decide) (by decide) (by decide)) xs_nil)))))))))))) H (Ex.refl H) _ fun xs H2 hl hA e2 => ⟨sz_of (by omega), fun p hp => k xs p _ (by omega) (fun x hx => mCh _ _ _ (Ex.new hp) (hA x hx)) (fresh_back e2 hp) (e2.trans (Ex.new hp)) upd_same⟩)
/-- sayings that are none -/
def SayNo (K : PySem.W.Frag) (H : Hp) (v : V) : Prop := SayVal K H 2 v false
def SayAny (K : PySem.W.Frag) (H : Hp) (v : V) : Prop := ∃ b, SayVal K H 2 v b
theorem mNo : Mono (SayNo K) := fun _ _ _ e h => SayVal.mono h e
theorem mAny : Mono (SayAny K) := fun _ _ _ e ⟨b, h⟩ => ⟨b, h.mono e⟩
theorem no_flat {v : V} (h : flatV v = true) : SayNo K H v := by
  cases v with
  | non => exact .inl ⟨"NoneType", .base .non, by decide, by decide, rfl⟩
  | bl b => exact .inl ⟨"bool", ty_bl, by decide, by decide, rfl⟩
  | int i => exact .inl ⟨"int", ty_int, by decide, by decide, rfl⟩
  | str z => exact .inl ⟨"str", .base (.str z), by decide, by decide, rfl⟩
  | _ => cases h
theorem ex_no {vs : List V} (h : EvA ts σ H vs) (hl : vs.length ≤ 100) (hf : ∀ x ∈ vs, flatV x = true) (hb : okTup 2 vs = false) : EvX (tTup ts) σ H (SayNo K) := ex_tupA h hl fun p H' h => .inr ⟨p, vs, rfl, st_of h, fun x hx => kn_flat (hf x hx), hb.symm⟩
theorem ex_sa {vs : List V} (h : EvA ts σ H vs) (hl : vs.length ≤ 100) (hf : ∀ x ∈ vs, flatV x = true) : EvX (tTup ts) σ H (SayAny K) := ex_tupA h hl fun p H' h => ⟨_, .inr ⟨p, vs, rfl, st_of h, fun x hx => kn_flat (hf x hx), rfl⟩⟩
theorem bs_1 (h : EvX te σ H (SayNo K)) : EvX (tLst (tCons te tNil)) σ H (BadSays K 2) := ex_lst1 mNo h fun p x H' hp hx => .inr ⟨p, [x], [false], rfl, sq_of hp, by show 1 ≤ 1000; decide, .cons hx .nil, rfl⟩
theorem bs_2 (h1 : EvX t1 σ H (SayAny K)) (h2 : EvX t2 σ H (SayNo K)) : EvX (tLst (tCons t1 (tCons t2 tNil))) σ H (BadSays K 2) := ex_lst2 mAny mNo h1 h2 fun p x y H' hp ⟨b, hx⟩ hy => .inr ⟨p, [x, y], [b, false], rfl, sq_of hp, by show 2 ≤ 1000; decide, .cons hx (.cons hy .nil), by cases b <;> rfl⟩
theorem fl3 {a b c : V} (h1 : flatV a = true) (h2 : flatV b = true) (h3 : flatV c = true) : ∀ x ∈ [a, b, c], flatV x = true := fun x hx => by
  simp only [or_false, List.mem_cons, List.not_mem_nil] at hx
  rcases hx with rfl | rfl | rfl
  · exact h1
  · exact h2
  · exact h3
theorem pure__law_bad_sayings (h : sp__law_bad_sayings K vs H Q E) : t__law_bad_sayings K (Bd Q) (L2.start ["_law_cell", "_law_some"] vs) H := by
  obtain ⟨c, rfl, k⟩ := h
  unfold t__law_bad_sayings
  have fl : ∀ (v : V), flatV v = true → ∀ H', BadSays K 2 H' v := fun v h1 H' => .inl (nl_flat h1)
  have X1 : EvXL (tLst (tCons (tC .non) (tCons (tTup (tCons (tTup (tCons (tC (.int 0)) (tCons (tC (.int 1)) (tCons (tC (.int 2)) (tNil))))) (tNil))) (tCons (tC (.str "012")) (tCons (tDNewK) (tCons (tLst (tCons (tC .non) (tNil))) (tCons (tLst (tCons (tTup (tCons (tC (.int 0)) (tCons (tC (.int 1)) (tNil)))) (tNil))) (tCons (tLst (tCons (tTup (tCons (tC (.int 0)) (tCons (tC (.int 1)) (tCons (tC (.int 2)) (tCons (tC (.int 3)) (tNil)))))) (tNil))) (tCons (tLst (tCons (tLst (tCons (tC (.int 0)) (tCons (tC (.int 1)) (tCons (tC (.int 2)) (tNil))))) (tNil))) (tCons (tLst (tCons (tTup (tCons (tC (.int 0)) (tCons (tC (.int 2)) (tCons (tC (.int 1)) (tNil))))) (tNil))) (tCons (tLst (tCons (tTup (tCons (tUn rNegI (tC (.int 1))) (tCons (tC (.int 0)) (tCons (tC (.int 1)) (tNil))))) (tNil))) (tNil))))))))))))
      [some (.int c), none] H (BadSays K 2) 10 :=
    xl_lst mSays (xs_cons mSays (ex_c (fl _ rfl)) (xs_cons mSays (ex_tupX mT (xs_cons mT (ex_tupA (vs := [.int 0, .int 1, .int 2]) (ea3 ev_c ev_c ev_c) (by decide) fun _ _ _ => trivial) xs_nil) (by decide) fun p xs H' h => .inl (nl_T h)) (xs_cons mSays (ex_c (fl _ rfl)) (xs_cons mSays (ex_dict fun p H' h => .inl (nl_D h)) (xs_cons mSays (bs_1 (ex_c fun _ => no_flat rfl))
      (xs_cons mSays (bs_1 (ex_no (vs := [.int 0, .int 1]) (ea2 ev_c ev_c) (by decide) (by decide) rfl)) (xs_cons mSays (bs_1 (ex_no (vs := [.int 0, .int 1, .int 2, .int 3]) (ea_cons ev_c (ea3 ev_c ev_c ev_c)) (by decide) (by decide) rfl)) (xs_cons mSays (bs_1 (ex_lstA (vs := [.int 0, .int 1, .int 2]) (ea3 ev_c ev_c ev_c) (by decide) fun p H' h => .inl ⟨"list", ty_L (sq_of h), by decide, by decide, rfl⟩))
      (xs_cons mSays (bs_1 (ex_no (vs := [.int 0, .int 2, .int 1]) (ea3 ev_c ev_c ev_c) (by decide) (by decide) (by decide))) (xs_cons mSays (bs_1 (ex_no (vs := [.int (-1), .int 0, .int 1]) (ea3 ev_m1 ev_c ev_c) (by decide) (by decide) (by decide))) xs_nil)))))))))) (by decide)
  refine raw_q_asg (X1 H (Ex.refl H) _ fun p xs H1 hxs hp e1 h1 hA => ?_)
  refine raw_q_asg ((xl_cat mSays (ev_var rfl) h1 hxs hA (xs_cons mSays (bs_1 (ex_no (vs := [.bl true, .int 0, .int 1]) (ea3 ev_c ev_c ev_c) (by decide) (by decide) rfl)) (xs_cons mSays (bs_1 (ex_no (vs := [.int 0, .int 1, .non]) (ea3 ev_c ev_c ev_c) (by decide) (by decide) (by decide))) (xs_cons mSays (bs_1 (ex_no (vs := [.int 0, .int 1, .str "1"]) (ea3 ev_c ev_c ev_c) (by decide) (by decide) (by decide))) (xs_cons mSays (bs_1 (ex_no (vs := [.int 0, .int 1, .bl true]) (ea3 ev_c ev_c ev_c) (by decide) (by decide) (by decide)))
    (xs_cons mSays (bs_2 (ex_sa (vs := [.int 0, .int 1, .int 1]) (ea3 ev_c ev_c ev_c) (by decide) (by decide)) (ex_no (vs := [.int (2 + c % 9), .int 0, .int c]) (ea3 (ev_hi rfl) ev_c (ev_var rfl)) (by show 3 ≤ 100; decide) (fl3 rfl rfl rfl) (by show (isB 2 (.int (2 + c % 9)) && _) = false; rw [isB_hi]; rfl))) xs_nil))))) (by decide)) H1 (Ex.refl H1) _ fun p2 xs2 H2 hxs2 hp2 e2 h2 hA2 => ?_)
  have e12 := e1.trans e2
  refine retX (xl_cat mSays (ev_var rfl) h2 hxs2 hA2 (xs_cons mSays (ex_ev (ev_var rfl) (fl (.int c) rfl)) (xs_cons mSays (ex_c (fl _ rfl)) (xs_cons mSays (bs_2 (ex_sa (vs := [.int 0, .int 1, .int c]) (ea3 ev_c ev_c (ev_var rfl)) (by show 3 ≤ 100; decide) (fl3 rfl rfl rfl)) (ex_c fun _ => no_flat rfl)) (xs_cons mSays (bs_1 (ex_no (vs := [.int 0, .int (-1 - c % 9), .int 1]) (ea3 ev_c (ev_lo rfl) ev_c) (by show 3 ≤ 100; decide) (fl3 rfl rfl rfl) (by show (isB 2 (.int 0) && (isB 2 (.int (-1 - c % 9)) && _)) = false; rw [isB_lo]; simp)))
    (xs_cons mSays (bs_1 (ex_no (vs := [.str "0", .int 1, .int 1]) (ea3 ev_c ev_c ev_c) (by decide) (by decide) rfl)) xs_nil))))) (by decide)) fun xs3 p3 H3 hx3 hA3 hp3 e3 h3 => k xs3 p3 H3 (by omega) hA3 (fresh_back e12 hp3) (e12.trans e3) h3
end
end R8
end Am

/-! law 8 -/
namespace Am
namespace R8
open PySem L2 Evl
open He (ga ma)
def t_law_2 (K : PySem.W.Frag) : TS := tSeq (tIfS (tNot (tB (tCB (rAll K) (tCons (tLc (iRng2 (tCons (tC (.int 3)) (tCons (tC (.int 8)) (tNil)))) (gName 5) (tYes) (tCall (sp__law_due K) [] E0 (tCons (tVar 5) (tCons (tC (.int 2)) (tCons (tVar 2) (tCons (tC (.int 0)) (tCons (tC (.int 1)) (tCons (tC (.int 4)) (tNil)))))))) [5]) (tNil))))) (tRet (tC (.bl false))) (tNext)) (tRet (tAndV (tOp rEq (tCall (sp_sum_of K) [] E0 (tCons (tC (.int 2)) (tCons (tVar 1) (tCons (tLst (tCons (tC (.int 0)) (tNil))) (tCons (tC (.int 0)) (tCons (tC (.int 1)) (tNil))))))) (tC (.int 4))) (tAndV (tOp rIsB (tCall (sp_kept K) [] E0 (tCons (tC (.int 2)) (tCons (tVar 1) (tCons (tLst (tCons (tC (.int 0)) (tCons (tC (.int 4)) (tNil)))) (tNil))))) (tC (.bl true))) (tOp rIsB (tCall (sp_kept K) [] E0 (tCons (tC (.int 2)) (tCons (tVar 1) (tCons (tLst (tCons (tC (.int 0)) (tCons (tC (.int 5)) (tNil)))) (tNil))))) (tC (.bl false))))))
def t_body (K : PySem.W.Frag) : TS := tSeq (tAsg (tOp rModI (tVar 3) (tC (.int 7))) (gName 4)) (tSeq (tFor (iRng1 (tCons (tC (.int 9)) (tNil))) (gName 5) (tSeq (tIfS (tNot (tB (tCB (rAll K) (tCons (tLc (iList K (tSl (rSlL K) (tCall (sp__law_counts K) [] E0 (tCons (tVar 3) (tNil))) (tPart (tVar 4)) (tPart (tOp rAddI (tVar 4) (tC (.int 3)))))) (gName 6) (tYes) (tCall (sp__law_due K) [] E0 (tCons (tVar 5) (tCons (tVar 6) (tCons (tC .non) (tCons (tC .non) (tCons (tC .non) (tCons (tC (.int 0)) (tNil)))))))) [6]) (tNil))))) (tRet (tC (.bl false))) (tNext)) (tIfS (tNot (tB (tCB (rAll K) (tCons (tLc (iList K (tSl (rSlL K) (tCall (sp__law_bad_sayings K) [] E0 (tCons (tVar 3) (tNil))) (tPart (tOp rMulI (tC (.int 3)) (tVar 4))) (tPart (tOp rAddI (tOp rMulI (tC (.int 3)) (tVar 4)) (tC (.int 3)))))) (gName 6) (tYes) (tCall (sp__law_due K) [] E0 (tCons (tVar 5) (tCons (tC (.int 2)) (tCons (tVar 6) (tCons (tC .non) (tCons (tC .non) (tCons (tC (.int 1)) (tNil)))))))) [6]) (tNil))))) (tRet (tC (.bl false))) (tNext)))) (tSeq (tFor (iList K (tCall (sp__law_bad_places K) [] E0 (tCons (tVar 3) (tNil)))) (gName 6) (tSeq (tIfS (tNot (tB (tCB (rAll K) (tCons (tLc (iList K (tLst (tCons (tC (.int 1)) (tCons (tC (.int 3)) (tCons (tC (.int 4)) (tCons (tC (.int 8)) (tNil))))))) (gName 5) (tYes) (tCall (sp__law_due K) [] E0 (tCons (tVar 5) (tCons (tC (.int 2)) (tCons (tVar 2) (tCons (tVar 6) (tCons (tC .non) (tCons (tC (.int 2)) (tNil)))))))) [5]) (tNil))))) (tRet (tC (.bl false))) (tNext)) (tIfS (tNot (tB (tCB (rAll K) (tCons (tLc (iList K (tLst (tCons (tC (.int 3)) (tCons (tC (.int 4)) (tNil))))) (gName 5) (tYes) (tCall (sp__law_due K) [] E0 (tCons (tVar 5) (tCons (tC (.int 2)) (tCons (tVar 2) (tCons (tC (.int 0)) (tCons (tVar 6) (tCons (tC (.int 2)) (tNil)))))))) [5]) (tNil))))) (tRet (tC (.bl false))) (tNext)))) (tSeq (tFor (iList K (tCall (sp__law_bad_numbers K) [] E0 (tCons (tVar 3) (tNil)))) (gName 6) (tIfS (tNot (tB (tCB (rAll K) (tCons (tLc (iList K (tLst (tCons (tC (.int 6)) (tCons (tC (.int 7)) (tNil))))) (gName 5) (tYes) (tCall (sp__law_due K) [] E0 (tCons (tVar 5) (tCons (tC (.int 2)) (tCons (tVar 2) (tCons (tVar 6) (tCons (tC .non) (tCons (tC (.int 3)) (tNil)))))))) [5]) (tNil))))) (tRet (tC (.bl false))) (tNext))) (tSeq (tIfS (tNot (tB (tCB (rAll K) (tCons (tLc (iList K (tCall (sp__law_bad_heights K) [] E0 (tCons (tVar 3) (tNil)))) (gName 6) (tYes) (tCall (sp__law_due K) [] E0 (tCons (tC (.int 0)) (tCons (tC (.int 2)) (tCons (tVar 1) (tCons (tVar 6) (tCons (tC .non) (tCons (tC (.int 3)) (tNil)))))))) [6]) (tNil))))) (tRet (tC (.bl false))) (tNext)) (tSeq (tIfS (tNot (tB (tCB (rAll K) (tCons (tLc (iList K (tCall (sp__law_bad_chains K) [] E0 (tCons (tVar 3) (tNil)))) (gName 6) (tYes) (tCall (sp__law_due K) [] E0 (tCons (tC (.int 1)) (tCons (tC (.int 2)) (tCons (tVar 1) (tCons (tC (.int 0)) (tCons (tVar 6) (tCons (tC (.int 3)) (tNil)))))))) [6]) (tNil))))) (tRet (tC (.bl false))) (tNext)) (tIfS (tNot (tB (tCB (rAll K) (tCons (tLc (iList K (tLst (tCons (tC .non) (tCons (tUn rNegI (tC (.int 1))) (tCons (tC (.int 2)) (tCons (tOp rAddI (tC (.int 2)) (tOp rModI (tVar 3) (tC (.int 9)))) (tCons (tC (.bl true)) (tCons (tC (.str "0")) (tCons (tLst (tCons (tC (.int 0)) (tNil))) (tNil)))))))))) (gName 6) (tYes) (tCall (sp__law_due K) [] E0 (tCons (tC (.int 5)) (tCons (tC (.int 2)) (tCons (tVar 2) (tCons (tVar 6) (tCons (tC .non) (tCons (tC (.int 3)) (tNil)))))))) [6]) (tNil))))) (tRet (tC (.bl false))) (tNext)))))))
def t_law_1 (K : PySem.W.Frag) : TS := tSeq (tFor (iList K (tOp rCat (tLst (tCons (tCB (rLenS K) (tCons (tVar 0) (tNil))) (tNil))) (tLc (iList K (tVar 0)) (gName 3) (tYes) (tOp rModI (tVar 3) (tOp rPowI (tC (.int 10)) (tC (.int 60)))) [3]))) (gName 3) (t_body K)) (t_law_2 K)
def t_law (K : PySem.W.Frag) : TS := tSeq (tAsg (tTup (tCons (tLst (tCons (tTup (tCons (tC (.int 0)) (tCons (tC (.int 1)) (tCons (tC (.int 4)) (tNil))))) (tNil))) (tCons (tLst (tCons (tTup (tCons (tC (.int 0)) (tCons (tC (.int 1)) (tCons (tC (.int 4)) (tNil))))) (tCons (tTup (tCons (tC (.int 1)) (tCons (tC (.int 0)) (tCons (tUn rNegI (tC (.int 5))) (tNil))))) (tNil)))) (tNil)))) (gTup K 2 (gCons (gName 1) (gCons (gName 2) (gNil))))) (t_law_1 K)
section
variable {K : PySem.W.Frag} {vs : List V} {H H' : Hp} {Q : VK} {E : XK} {σ : L2.St} {ta tb tc td te tl t1 t2 t3 t4 t5 t6 : TE} {tt : TT} {tz tu : TS} {D : Ends} {ts : TA} {x l m : Addr} {P : Hp → V → Prop} {n N : Nat}
/-! ### good sayings, sayings that none keep -/
def EvZ (K : PySem.W.Frag) (te : TE) (σ : L2.St) (H : Hp) (ss : List Say) : Prop := ∀ H1, Ex H H1 → ∀ Q : VK, (∀ p H2, H1 p = none → Ex H1 H2 → Says K H2 p ss → Q (.ref p) H2) → te σ H1 Q
theorem eu_say {x y z : Int} : EvU (tTup (tCons (tC (.int x)) (tCons (tC (.int y)) (tCons (tC (.int z)) tNil)))) σ H [.int x, .int y, .int z] := eu_tup (ea3 ev_c ev_c ev_c) (by show 3 ≤ 100000; decide)
theorem eu_sayN {x y z : Int} : EvU (tTup (tCons (tC (.int x)) (tCons (tC (.int y)) (tCons (tUn rNegI (tC (.int z))) tNil)))) σ H [.int x, .int y, .int (-z)] := eu_tup (ea3 ev_c ev_c (ev_un ev_c ru_neg)) (by show 3 ≤ 100000; decide)
theorem ez_2 {s1 s2 : Say} (h1 : EvU t1 σ H [.int (s1.1 : Int), .int (s1.2.1 : Int), .int s1.2.2]) (h2 : EvU t2 σ H [.int (s2.1 : Int), .int (s2.2.1 : Int), .int s2.2.2]) : EvZ K (tLst (tCons t1 (tCons t2 tNil))) σ H [s1, s2] := fun H1 e Q q =>
  h1 H1 e _ fun p1 H2 _ e2 g1 => h2 H2 (e.trans e2) _ fun p2 H3 _ e3 g2 => ⟨by show 2 ≤ sizeLine; decide, fun o ho => by
    have eo := Ex.new (o := .lst [.ref p1, .ref p2]) ho
    exact q o _ (fresh_back (e2.trans e3) ho) ((e2.trans e3).trans eo) ⟨by show 2 ≤ 1000; decide, _, sq_of upd_same, .cons ⟨p1, rfl, st_of (eo _ _ (e3 _ _ g1))⟩ (.cons ⟨p2, rfl, st_of (eo _ _ g2)⟩ .nil)⟩⟩
theorem ez_1 {s1 : Say} (h1 : EvU t1 σ H [.int (s1.1 : Int), .int (s1.2.1 : Int), .int s1.2.2]) : EvZ K (tLst (tCons t1 tNil)) σ H [s1] := fun H1 e Q q =>
  h1 H1 e _ fun p1 H2 _ e2 g1 => ⟨by show 1 ≤ sizeLine; decide, fun o ho => by
    have eo := Ex.new (o := .lst [.ref p1]) ho
    exact q o _ (fresh_back e2 ho) (e2.trans eo) ⟨by show 1 ≤ 1000; decide, _, sq_of upd_same, .cons ⟨p1, rfl, st_of (eo _ _ g1)⟩ .nil⟩⟩
theorem q_tupZZ {ss rs : List Say} {i j : Nat} (h1 : EvZ K t1 σ H ss) (h2 : EvZ K t2 σ H rs) (k : ∀ p q H1, Ex H H1 → Says K H1 p ss → Says K H1 q rs → tz D ((σ.set i (some (.ref p))).set j (some (.ref q))) H1) :
    tSeq (tAsg (tTup (tCons t1 (tCons t2 tNil))) (gTup K 2 (gCons (gName i) (gCons (gName j) gNil)))) tz D σ H :=
  raw_q_asgG (h1 H (Ex.refl H) _ fun p H1 _ e1 g1 => h2 H1 e1 _ fun q H2 _ e2 g2 => ⟨by show 2 ≤ sizeLine; decide, fun r hr => by
    have er := Ex.new (o := .tup [.ref p, .ref q]) hr
    exact unp2 (st_of upd_same) (k p q _ ((e1.trans e2).trans er) (g1.mono (e2.trans er)) (g2.mono er))⟩)
/-! ### all of these are refused -/
theorem raw_all {g : TG} {js : List Nat} (h : tl σ H fun x H1 => (tCB (rAll K) (tCons (tLc (iList K (fun _ H Q => Q x H)) g tt te js) tNil)) σ H1 Q) : tCB (rAll K) (tCons (tLc (iList K tl) g tt te js) tNil) σ H Q := h
theorem all_due {j : Nat} (hm : Mono P) (hl : EvXL tl σ H P N) (hN : N ≤ 1000) (hw : ∀ x, wipe ((wipe σ [j]).set j (some x)) [j] = wipe σ [j]) (he : ∀ x H1, Ex H H1 → P H1 x → Ev te ((wipe σ [j]).set j (some x)) H1 (.bl true)) :
    Ev (tCB (rAll K) (tCons (tLc (iList K tl) (gName j) tYes te [j]) tNil)) σ H (.bl true) := fun H0 e Q q =>
  raw_all (hl H0 e _ fun p xs H1 hz hp e1 h1 hA =>
    (ev_is (ev_all (bs := (List.range xs.length).map fun _ => true) (el_is (el_map (fun _ => .bl true) (fun H2 _ Q q => q H2 (Ex.refl H2)) (sq_of h1) (by omega) hw fun i x H2 e2 hi => he x H2 ((e.trans e1).trans e2) (hm _ _ _ e2 (hA x (List.mem_of_getElem? hi)))) (by rw [List.map_map] <;> rfl))) (by rw [all_true fun _ _ => rfl]) : Ev (tCB (rAll K) (tCons (tLc (iList K fun _ H Q => Q (V.ref p) H) (gName j) tYes te [j]) tNil)) σ H1 (.bl true)) H1 (Ex.refl H1) Q fun H2 e2 => q H2 (e1.trans e2))
theorem el_lcR2 {ta : TA} {j : Nat} {vs : List Nat} {lo m : Int} (v : Nat → V) (h : EvA ta σ H [.int lo, .int m]) (hb : 0 ≤ lo ∧ lo ≤ 10 ∧ 0 ≤ m ∧ m ≤ 10000) (hw : ∀ x, wipe ((wipe σ vs).set j (some x)) vs = wipe σ vs)
    (he : ∀ (i : Nat) H1, Ex H H1 → lo + (i : Int) < m → Ev te ((wipe σ vs).set j (some (.int (lo + (i : Int))))) H1 (v i)) : EvL (tLc (iRng2 ta) (gName j) tYes te vs) σ H ((List.range (m - lo).toNat).map v) := fun H0 e Q q => h H0 e _ fun H1 e1 => ⟨lo, m, rfl, ⟨by omega, by omega, by omega, by omega⟩, fun Dl hD =>
  lc_range (lo := lo) (n := (m - lo).toNat) (Cw H1 (fun _ => true) v Dl) ⟨hD, Ex.new hD, upd_same⟩ (fun i H' hi p => ⟨hw _, cw_turn p (by omega) et_yes fun _ => he i H1 (e.trans e1) (by omega)⟩) (fun H' p => q Dl H' (fresh_back e1 p.1) (e1.trans p.2.1) (by rw [p.2.2, given_all fun _ => rfl]))⟩
theorem ev_due {d due : Nat} {cnt says one other : V} (hd : d < 9) (hu : due < 5) (h1 : Ev t1 σ H (.int (d : Int))) (h2 : Ev t2 σ H cnt) (h3 : Ev t3 σ H says) (h4 : Ev t4 σ H one) (h5 : Ev t5 σ H other) (h6 : Ev t6 σ H (.int (due : Int))) (r : AskR K H d cnt says one other due) :
    Ev (tCall (sp__law_due K) [] E0 (tCons t1 (tCons t2 (tCons t3 (tCons t4 (tCons t5 (tCons t6 tNil))))))) σ H (.bl true) :=
  ev_pur (ea_cons h1 (ea_cons h2 (ea_cons h3 (ea3 h4 h5 h6)))) fun H1 e => ⟨d, cnt, says, one, other, due, rfl, hd, hu, r.mono hd e, rfl⟩
theorem ev_call3N {sp : Sp} {w y z : V} {xs : List V} (h1 : Ev ta σ H y) (h2 : Ev tb σ H z) (h3 : EvL tc σ H xs) (k : ∀ p H1, Ex H H1 → H1 p = some (.lst xs) → ∀ Q : VK, (∀ H2, Ex H1 H2 → Q w H2) → sp [y, z, .ref p] H1 Q E) : Ev (tCall sp [] E (tCons ta (tCons tb (tCons tc tNil)))) σ H w := fun H1 e1 Q q => by
  show ta σ H1 _
  refine h1 H1 e1 _ fun H2 e2 => ?_
  show tb σ H2 _
  refine h2 H2 (e1.trans e2) _ fun H3 e3 => ?_
  show tc σ H3 _
  exact h3 H3 ((e1.trans e2).trans e3) _ fun p H4 _ e4 hp => k p H4 (((e1.trans e2).trans e3).trans e4) hp Q fun H5 e5 => q H5 (((e2.trans e3).trans e4).trans e5)
theorem ev_call5N {sp : Sp} {w y z u v : V} {xs : List V} (h1 : Ev ta σ H y) (h2 : Ev tb σ H z) (h3 : EvL tc σ H xs) (h4 : Ev td σ H u) (h5 : Ev te σ H v) (k : ∀ p H1, Ex H H1 → H1 p = some (.lst xs) → ∀ Q : VK, (∀ H2, Ex H1 H2 → Q w H2) → sp [y, z, .ref p, u, v] H1 Q E) : Ev (tCall sp [] E (tCons ta (tCons tb (tCons tc (tCons td (tCons te tNil)))))) σ H w := fun H1 e1 Q q => by
  show ta σ H1 _
  refine h1 H1 e1 _ fun H2 e2 => ?_
  show tb σ H2 _
  refine h2 H2 (e1.trans e2) _ fun H3 e3 => ?_
  show tc σ H3 _
  refine h3 H3 ((e1.trans e2).trans e3) _ fun p H4 _ e4 hp => ?_
  have E4 := ((e1.trans e2).trans e3).trans e4
  show td σ H4 _
  refine h4 H4 E4 _ fun H5 e5 => ?_
  show te σ H5 _
  exact h5 H5 (E4.trans e5) _ fun H6 e6 => k p H6 ((E4.trans e5).trans e6) (e6 _ _ (e5 _ _ hp)) Q fun H7 e7 => q H7 (((((e2.trans e3).trans e4).trans e5).trans e6).trans e7)
/-- at every door -/
theorem ask_say {d : Nat} {cnt says one other : V} {due : Nat} (hd : d < 9) (r : RefSay K H cnt says due) : AskR K H d cnt says one other due := by
  have : d = 0 ∨ d = 1 ∨ d = 2 ∨ d = 3 ∨ d = 4 ∨ d = 5 ∨ d = 6 ∨ d = 7 ∨ d = 8 := by omega
  rcases this with rfl | rfl | rfl | rfl | rfl | rfl | rfl | rfl | rfl
  · exact .inl r
  · exact .inl r
  · exact r
  · exact .inl r
  · exact .inl r
  · exact .inl r
  · exact .inl r
  · exact .inl r
  · exact .inl r
theorem q_forX {j : Nat} (hm : Mono P) (hl : EvXL tl σ H P N) (S : L2.St → Prop) (h0 : S σ)
    (hs : ∀ H1, Ex H H1 → ∀ x σ' H', P H' x → S σ' → Ex H1 H' → tu { D with nx := fun σ2 H2 => S σ2 ∧ Ex H1 H2, ct := fun σ2 H2 => S σ2 ∧ Ex H1 H2, bk := tz D } (σ'.set j (some x)) H')
    (hd : ∀ H1, Ex H H1 → ∀ σ' H', S σ' → Ex H1 H' → tz D σ' H') : tSeq (tFor (iList K tl) (gName j) tu) tz D σ H :=
  hl H (Ex.refl H) _ fun p xs H1 _ _ e1 hp hA => ⟨p, rfl, ⟨xs, sq_of hp⟩, for_list (D := { D with nx := tz D }) (xs := xs) (fun k σ' H' => S σ' ∧ Ex H1 H') ⟨h0, Ex.refl H1⟩ (fun k σ' H' _ p => sq_of (p.2 _ _ hp)) (fun k x σ' H' hk p => hs H1 e1 x σ' H' (hm _ _ _ p.2 (hA x (List.mem_of_getElem? hk))) p.1 p.2) (fun σ' H' p => hd H1 e1 σ' H' p.1 p.2)⟩
/-- doors -/
def PDr (ds : List Nat) (_ : Hp) (v : V) : Prop := ∃ d : Nat, v = .int (d : Int) ∧ d ∈ ds
theorem mDr {ds : List Nat} : Mono (PDr ds) := fun _ _ _ _ h => h
theorem okG : Ok 2 gd := by unfold Ok; decide
theorem okR : Ok 2 rg := by unfold Ok; decide
theorem ringR : isRing rg [0, 1] = true := by decide
theorem body8 {a g r : Addr} {c : Int} {ns : List Int} {w4 w5 w6 : Option V} {D : Ends} (hG : Says K H g gd) (hR : Says K H r rg) (kk : ∀ w4 w5 w6 H', Ex H H' → D.nx [some (.ref a), some (.ref g), some (.ref r), some (.int c), w4, w5, w6] H') :
    t_body K D [some (.ref a), some (.ref g), some (.ref r), some (.int c), w4, w5, w6] H := by
  unfold t_body
  have gR : ∀ {H' : Hp}, Ex H H' → GoodSay K H' (.int 2) (.ref r) 2 r rg := fun e => ⟨rfl, rfl, by decide, hR.mono e, okR⟩
  have gG : ∀ {H' : Hp}, Ex H H' → GoodSay K H' (.int 2) (.ref g) 2 g gd := fun e => ⟨rfl, rfl, by decide, hG.mono e, okG⟩
  refine q_asg (ev_op (ev_var rfl) ev_c (md (by decide))) fun H1 e1 => ?_
  generalize c % 7 = at'
  -- counts, sayings
  refine q_forR1 (n := 9) (ea_cons ev_c ea_nil) (by decide) (fun i σ' H' => ∃ w5 w6, σ' = [some (.ref a), some (.ref g), some (.ref r), some (.int c), some (.int at'), w5, w6] ∧ Ex H1 H') (fun H2 e2 => ⟨_, _, rfl, e2⟩) ?_ ?_
  · rintro d σ' H2 hd ⟨w5, w6, rfl, e2⟩
    have hd9 : d < 9 := by omega
    refine q_when (b := false) (et_is (et_not (et_B (all_due (P := PCnt K) mCnt (xl_sl mCnt (xl_call (ev_var rfl)) (fun _ _ => eo_some (ev_var rfl)) fun _ _ => eo_some (ev_op (ev_var rfl) ev_c rv_I0)) (by decide) (fun _ => rfl) fun x H3 e3 hx => ev_due (due := 0) hd9 (by decide) (ev_var rfl) (ev_var rfl) ev_c ev_c ev_c ev_c (ask_say hd9 (.inl ⟨rfl, hx⟩))))) rfl) (fun z => nomatch z) fun _ H3 e3 => ?_
    refine s_when (b := false) (et_is (et_not (et_B (all_due (P := BadSays K 2) mSays (xl_sl mSays (xl_call (ev_var rfl)) (fun _ _ => eo_some (ev_op ev_c (ev_var rfl) (rv_rI (.inl (by decide))))) fun _ _ => eo_some (ev_op (ev_op ev_c (ev_var rfl) (rv_rI (.inl (by decide)))) ev_c rv_I0)) (by decide) (fun _ => rfl) fun x H4 e4 hx => ev_due (due := 1) hd9 (by decide) (ev_var rfl) ev_c (ev_var rfl) ev_c ev_c ev_c (ask_say hd9 (.inr ⟨rfl, 2, rfl, by decide, hx⟩))))) rfl) (fun z => nomatch z) fun _ H4 e4 => ⟨_, _, rfl, (e2.trans e3).trans e4⟩
  rintro σ' H2 ⟨w5, w6, rfl, e2⟩
  have E2 := e1.trans e2
  -- places
  refine q_forX mPl (xl_call (ev_var rfl)) (fun σ' => ∃ w5 w6, σ' = [some (.ref a), some (.ref g), some (.ref r), some (.int c), some (.int at'), w5, w6]) ⟨_, _, rfl⟩ ?_ ?_
  · rintro H3 e3 x σ' H4 hx ⟨w5, w6, rfl⟩ e4
    have E4 := (E2.trans e3).trans e4
    refine q_when (b := false) (et_is (et_not (et_B (all_due (P := PDr [1, 3, 4, 8]) mDr (xl_lst mDr (xs_cons mDr (ex_c fun _ => ⟨1, rfl, by decide⟩) (xs_cons mDr (ex_c fun _ => ⟨3, rfl, by decide⟩) (xs_cons mDr (ex_c fun _ => ⟨4, rfl, by decide⟩) (xs_cons mDr (ex_c fun _ => ⟨8, rfl, by decide⟩) xs_nil)))) (by decide)) (by decide) (fun _ => rfl) fun y H5 e5 hy => ?_))) rfl) (fun z => nomatch z) fun _ H5 e5 => ?_
    · obtain ⟨d, rfl, hd⟩ := hy
      have hx5 := mPl _ _ _ e5 hx
      have rp : RefPl K H5 2 x .non := ⟨hx5.1, .inl hx5.2⟩
      have rq : RefPl K H5 2 (.int 0) x := ⟨kn_int 0, .inr hx5⟩
      have rz : RefPl K H5 2 x (.int 0) := ⟨hx5.1, .inl hx5.2⟩
      simp only [List.mem_cons, List.not_mem_nil, or_false] at hd
      have g5 := gR (E4.trans e5)
      refine ev_due (d := d) (due := 2) (by omega) (by decide) (ev_var rfl) ev_c (ev_var rfl) (ev_var rfl) ev_c ev_c ?_
      rcases hd with rfl | rfl | rfl | rfl
      · exact .inr (.inl ⟨rfl, 2, r, rg, g5, rz⟩)
      · exact .inr (.inl ⟨rfl, 2, r, rg, g5, rp⟩)
      · exact .inr (.inl ⟨rfl, 2, r, rg, g5, rp⟩)
      · exact .inr (.inl ⟨rfl, 2, r, rg, g5, rq⟩)
    · refine s_when (b := false) (et_is (et_not (et_B (all_due (P := PDr [3, 4]) mDr (xl_lst mDr (xs_cons mDr (ex_c fun _ => ⟨3, rfl, by decide⟩) (xs_cons mDr (ex_c fun _ => ⟨4, rfl, by decide⟩) xs_nil)) (by decide)) (by decide) (fun _ => rfl) fun y H6 e6 hy => ?_))) rfl) (fun z => nomatch z) fun _ H6 e6 => ⟨⟨_, _, rfl⟩, (e4.trans e5).trans e6⟩
      obtain ⟨d, rfl, hd⟩ := hy
      have hx6 := mPl _ _ _ (e5.trans e6) hx
      have rq : RefPl K H6 2 (.int 0) x := ⟨kn_int 0, .inr hx6⟩
      simp only [List.mem_cons, List.not_mem_nil, or_false] at hd
      have g6 := gR ((E4.trans e5).trans e6)
      refine ev_due (d := d) (due := 2) (by omega) (by decide) (ev_var rfl) ev_c (ev_var rfl) ev_c (ev_var rfl) ev_c ?_
      rcases hd with rfl | rfl
      · exact .inr (.inl ⟨rfl, 2, r, rg, g6, rq⟩)
      · exact .inr (.inl ⟨rfl, 2, r, rg, g6, rq⟩)
  rintro H3 e3 σ' H4 ⟨w5, w6, rfl⟩ e4
  have E4 := (E2.trans e3).trans e4
  -- numbers
  refine q_forX mNum (xl_call (ev_var rfl)) (fun σ' => ∃ w5 w6, σ' = [some (.ref a), some (.ref g), some (.ref r), some (.int c), some (.int at'), w5, w6]) ⟨_, _, rfl⟩ ?_ ?_
  · rintro H5 e5 x σ' H6 hx ⟨w5, w6, rfl⟩ e6
    have E6 := (E4.trans e5).trans e6
    refine s_when (b := false) (et_is (et_not (et_B (all_due (P := PDr [6, 7]) mDr (xl_lst mDr (xs_cons mDr (ex_c fun _ => ⟨6, rfl, by decide⟩) (xs_cons mDr (ex_c fun _ => ⟨7, rfl, by decide⟩) xs_nil)) (by decide)) (by decide) (fun _ => rfl) fun y H7 e7 hy => ?_))) rfl) (fun z => nomatch z) fun _ H7 e7 => ⟨⟨_, _, rfl⟩, e6.trans e7⟩
    obtain ⟨d, rfl, hd⟩ := hy
    have hx7 := mNum _ _ _ e7 hx
    simp only [List.mem_cons, List.not_mem_nil, or_false] at hd
    have g7 := gR (E6.trans e7)
    refine ev_due (d := d) (due := 3) (by omega) (by decide) (ev_var rfl) ev_c (ev_var rfl) (ev_var rfl) ev_c ev_c ?_
    rcases hd with rfl | rfl
    · exact .inr (.inl ⟨rfl, 2, r, rg, g7, hx7⟩)
    · exact .inr (.inl ⟨rfl, 2, r, rg, g7, hx7⟩)
  rintro H5 e5 σ' H6 ⟨w5, w6, rfl⟩ e6
  have E6 := (E4.trans e5).trans e6
  -- heights, chains, counts of sayings
  refine q_when (b := false) (et_is (et_not (et_B (all_due (P := BadHts K 2) mHts (xl_call (ev_var rfl)) (by decide) (fun _ => rfl) fun x H7 e7 hx => ev_due (d := 0) (due := 3) (by decide) (by decide) ev_c ev_c (ev_var rfl) (ev_var rfl) ev_c ev_c (.inr ⟨rfl, 2, g, gd, gG (E6.trans e7), hx⟩)))) rfl) (fun z => nomatch z) fun _ H7 e7 => ?_
  have E7 := E6.trans e7
  refine q_when (b := false) (et_is (et_not (et_B (all_due (P := BadCh K gd 0 0) mCh (xl_call (ev_var rfl)) (by decide) (fun _ => rfl) fun x H8 e8 hx => ev_due (d := 1) (due := 3) (by decide) (by decide) ev_c ev_c (ev_var rfl) ev_c (ev_var rfl) ev_c (.inr (.inr ⟨rfl, 2, g, gd, 0, 0, gG (E7.trans e8), rfl, rfl, by decide, by decide, hx⟩))))) rfl) (fun z => nomatch z) fun _ H8 e8 => ?_
  have E8 := E7.trans e8
  have fl : ∀ (v : V), flatV v = true → isB 2 v = false → ∀ H', PPl K H' v := fun v h1 h2 H' => ⟨kn_flat h1, h2⟩
  refine s_when (b := false) (et_is (et_not (et_B (all_due (P := PPl K) mPl (xl_lst mPl (xs_cons mPl (ex_c (fl _ rfl rfl)) (xs_cons mPl (ex_ev ev_m1 (fl _ rfl (by decide))) (xs_cons mPl (ex_c (fl _ rfl (by decide))) (xs_cons mPl (ex_ev (ev_hi rfl) (fl _ rfl (isB_hi c))) (xs_cons mPl (ex_c (fl _ rfl rfl)) (xs_cons mPl (ex_c (fl _ rfl rfl)) (xs_cons mPl (ex_lstA (vs := [.int 0]) (ea_cons ev_c ea_nil) (by decide) fun p H' h => ⟨kn_L h, rfl⟩) xs_nil))))))) (by decide)) (by decide) (fun _ => rfl) fun x H9 e9 hx => ev_due (d := 5) (due := 3) (by decide) (by decide) ev_c ev_c (ev_var rfl) (ev_var rfl) ev_c ev_c (.inr (.inl ⟨rfl, 2, r, rg, gR (E8.trans e9), hx⟩))))) rfl) (fun z => nomatch z) fun _ H9 e9 => kk _ _ _ H9 (E8.trans e9)
theorem pure_law8 (h : sp_law K vs H Q E) : t_law K (Bd Q) (L2.start ["_law_script", "_law_good", "_law_ring", "_law_cell", "_law_at", "_law_door", "_law_bad"] vs) H := by
  obtain ⟨a, ns, rfl, hL, hz, k⟩ := h
  refine q_tupZZ (ss := gd) (rs := rg) (ez_1 (s1 := (0, 1, 4)) eu_say) (ez_2 (s1 := (0, 1, 4)) (s2 := (1, 0, -5)) eu_say eu_sayN) fun g r H1 e1 hG hR => ?_
  have hL1 := ex_l e1 hL
  unfold t_law_1
  refine q_forNLn (xs := iV ((ns.length : Int) :: ns.map fun y => y % 10 ^ (60 : Int).toNat)) (el_is (el_cat (el_lst (vs := [.int (ns.length : Int)]) (ea_cons (ev_is (ev_len (ev_var rfl) hL1) (by rw [List.length_map])) ea_nil) (by show 1 ≤ 100000; decide)) (el_mapI (fun y => y % 10 ^ (60 : Int).toNat) (ev_var rfl) hL1 (by omega) (fun _ => rfl) fun y H2 e2 => ev_op (ev_var rfl) (ev_op ev_c ev_c (rv_rI ⟨by decide, by decide, by decide⟩)) (md (by decide))) (by rw [List.length_map, List.length_map]; show 1 + _ ≤ _; omega)) rfl)
    (fun p i σ' H' => ∃ w3 w4 w5 w6, σ' = [some (.ref a), some (.ref g), some (.ref r), w3, w4, w5, w6] ∧ Ex H1 H' ∧ H' p = some (.lst (iV ((ns.length : Int) :: ns.map fun y => y % 10 ^ (60 : Int).toNat)))) (fun p H2 hp e2 h2 => ⟨none, none, none, none, rfl, e2, h2⟩) (fun p i σ' H' _ ⟨_, _, _, _, _, _, h⟩ => sq_of h) ?_ ?_
  · rintro p i x σ' H2 hx ⟨w3, w4, w5, w6, rfl, e2, hp⟩
    obtain ⟨c, _, rfl⟩ := iV_at hx
    exact body8 (ns := ns) (hG.mono e2) (hR.mono e2) fun w4 w5 w6 H' e' => ⟨_, _, _, _, rfl, e2.trans e', e' _ _ hp⟩
  · rintro p σ' H2 ⟨w3, w4, w5, w6, rfl, e2, hp⟩
    have hG2 := hG.mono e2
    have hR2 := hR.mono e2
    have gR : ∀ {H' : Hp}, Ex H2 H' → GoodSay K H' (.int 2) (.ref r) 2 r rg := fun e => ⟨rfl, rfl, by decide, hR2.mono e, okR⟩
    have gG : ∀ {H' : Hp}, Ex H2 H' → GoodSay K H' (.int 2) (.ref g) 2 g gd := fun e => ⟨rfl, rfl, by decide, hG2.mono e, okG⟩
    unfold t_law_2
    refine q_when (b := false) (et_is (et_not (et_B (ev_all (bs := (List.range (8 - 3 : Int).toNat).map fun _ => true) (el_is (el_lcR2 (lo := 3) (m := 8) (fun _ => .bl true) (ea2 ev_c ev_c) (by decide) (fun _ => rfl) fun i H3 e3 hi => ?_) (by rw [List.map_map] <;> rfl))))) (by rw [all_true fun _ _ => rfl]; rfl)) (fun z => nomatch z) fun _ H3 e3 => ?_
    · have hi5 : i < 5 := by omega
      have e0 : (3 : Int) + (i : Int) = ((i + 3 : Nat) : Int) := by omega
      rw [e0]
      have g3 := gR e3
      refine ev_due (d := i + 3) (due := 4) (by omega) (by decide) (ev_var rfl) ev_c (ev_var rfl) ev_c ev_c ev_c ?_
      have : i = 0 ∨ i = 1 ∨ i = 2 ∨ i = 3 ∨ i = 4 := by omega
      rcases this with rfl | rfl | rfl | rfl | rfl
      · exact .inr (.inr ⟨rfl, 2, r, rg, 0, 1, [0, 1], g3, rfl, rfl, by decide, by decide, by decide, ringR⟩)
      · exact .inr (.inr ⟨rfl, 2, r, rg, 0, 1, [0, 1], g3, rfl, rfl, by decide, by decide, by decide, ringR⟩)
      · exact .inr (.inr ⟨rfl, 2, r, rg, 0, [0, 1], g3, rfl, by decide, by decide, ringR⟩)
      · exact .inr (.inr ⟨rfl, 2, r, rg, 0, [0, 1], g3, rfl, by decide, ringR⟩)
      · exact .inr (.inr ⟨rfl, 2, r, rg, 0, [0, 1], g3, rfl, by decide, ringR⟩)
    · have kp : ∀ {H' : Hp} (y : Int) (b : Bool), Ex H2 H' → keepAll 2 gd [0, y] = b → Ev (tCall (sp_kept K) [] E0 (tCons (tC (.int 2)) (tCons (tVar 1) (tCons (tLst (tCons (tC (.int 0)) (tCons (tC (.int y)) (tNil)))) (tNil))))) [some (.ref a), some (.ref g), some (.ref r), w3, w4, w5, w6] H' (.bl b) := fun {H'} y b e he =>
        ev_call3N (xs := iV [0, y]) ev_c (ev_var rfl) (el_lst (ea2 ev_c ev_c) (by show 2 ≤ 100000; decide)) fun b' H6 e6 h6 Q2 q2 => ⟨_, _, _, rfl, .inr ⟨2, g, b', gd, [0, y], gG (e.trans e6), rfl, sq_of h6, rfl, by decide, fun H7 e7 => by
          rw [he]
          exact q2 H7 e7⟩⟩
      have sm : ∀ {H' : Hp}, Ex H2 H' → Ev (tCall (sp_sum_of K) [] E0 (tCons (tC (.int 2)) (tCons (tVar 1) (tCons (tLst (tCons (tC (.int 0)) (tNil))) (tCons (tC (.int 0)) (tCons (tC (.int 1)) (tNil))))))) [some (.ref a), some (.ref g), some (.ref r), w3, w4, w5, w6] H' (.int 4) := fun {H'} e =>
        ev_call5N (xs := iV [0]) ev_c (ev_var rfl) (el_lst (ea_cons ev_c ea_nil) (by show 1 ≤ 100000; decide)) ev_c ev_c fun b' H6 e6 h6 Q2 q2 => ⟨_, _, _, _, _, rfl, .inr ⟨2, g, b', gd, [0], 0, 1, 4, gG (e.trans e6), rfl, sq_of h6, by decide, by decide, rfl, rfl, by decide, by decide, by decide, q2⟩⟩
      refine s_ret (v := .bl true) (ev_is (ev_andV (a := true) (b := true) (ev_is (ev_op (sm e3) ev_c (rv_eq rfl)) rfl) fun _ => ev_is (ev_andV (a := true) (b := true) (ev_is (ev_op (kp 4 true e3 (by decide)) ev_c rv_isB) rfl) fun _ => ev_is (ev_op (kp 5 false e3 (by decide)) ev_c rv_isB) rfl) rfl) rfl) fun H4 e4 => k H4
end
end R8
end Am

namespace Am
namespace R8
open PySem L2 Evl
open He (ga ma)
/-! ### the text -/
def top (i : Nat) : Stmt := PySem.Challenge.pw_atmost_k08_refused.main.body.getD i (.Pass ⟨0, 0, 0, 0⟩)
abbrev s__law_bad_chains : Stmt := top 54
abbrev N__law_bad_chains : List Str := ["_law_cell"]
theorem sc__law_bad_chains : FnScope N__law_bad_chains ["_law_cell"] (defScope s__law_bad_chains) := ⟨rfl, rfl, rfl, by decide +kernel, rfl, by decide +kernel, by decide +kernel⟩
abbrev s__law_bad_heights : Stmt := top 53
abbrev N__law_bad_heights : List Str := ["_law_cell"]
theorem sc__law_bad_heights : FnScope N__law_bad_heights ["_law_cell"] (defScope s__law_bad_heights) := ⟨rfl, rfl, rfl, by decide +kernel, rfl, by decide +kernel, by decide +kernel⟩
abbrev s__law_bad_numbers : Stmt := top 52
abbrev N__law_bad_numbers : List Str := ["_law_cell"]
theorem sc__law_bad_numbers : FnScope N__law_bad_numbers ["_law_cell"] (defScope s__law_bad_numbers) := ⟨rfl, rfl, rfl, by decide +kernel, rfl, by decide +kernel, by decide +kernel⟩
abbrev s__law_bad_places : Stmt := top 51
abbrev N__law_bad_places : List Str := ["_law_cell"]
theorem sc__law_bad_places : FnScope N__law_bad_places ["_law_cell"] (defScope s__law_bad_places) := ⟨rfl, rfl, rfl, by decide +kernel, rfl, by decide +kernel, by decide +kernel⟩
abbrev s__law_bad_sayings : Stmt := top 50
abbrev N__law_bad_sayings : List Str := ["_law_cell", "_law_some"]
theorem sc__law_bad_sayings : FnScope N__law_bad_sayings ["_law_cell"] (defScope s__law_bad_sayings) := ⟨rfl, rfl, rfl, by decide +kernel, rfl, by decide +kernel, by decide +kernel⟩
abbrev s__law_counts : Stmt := top 49
abbrev N__law_counts : List Str := ["_law_cell"]
theorem sc__law_counts : FnScope N__law_counts ["_law_cell"] (defScope s__law_counts) := ⟨rfl, rfl, rfl, by decide +kernel, rfl, by decide +kernel, by decide +kernel⟩
abbrev s_is_number : Stmt := top 8
abbrev N_is_number : List Str := ["thing"]
theorem sc_is_number : FnScope N_is_number ["thing"] (defScope s_is_number) := ⟨rfl, rfl, rfl, by decide +kernel, rfl, by decide +kernel, by decide +kernel⟩
abbrev s_is_below : Stmt := top 9
abbrev N_is_below : List Str := ["thing", "count"]
theorem sc_is_below : FnScope N_is_below ["thing", "count"] (defScope s_is_below) := ⟨rfl, rfl, rfl, by decide +kernel, rfl, by decide +kernel, by decide +kernel⟩
abbrev s_check_places : Stmt := top 12
abbrev N_check_places : List Str := ["count", "one", "other"]
theorem sc_check_places : FnScope N_check_places ["count", "one", "other"] (defScope s_check_places) := ⟨rfl, rfl, rfl, by decide +kernel, rfl, by decide +kernel, by decide +kernel⟩
abbrev s_is_saying : Stmt := top 10
abbrev N_is_saying : List Str := ["thing", "count"]
theorem sc_is_saying : FnScope N_is_saying ["thing", "count"] (defScope s_is_saying) := ⟨rfl, rfl, rfl, by decide +kernel, rfl, by decide +kernel, by decide +kernel⟩
abbrev s_check_sayings : Stmt := top 11
abbrev N_check_sayings : List Str := ["count", "sayings", "saying"]
theorem sc_check_sayings : FnScope N_check_sayings ["count", "sayings"] (defScope s_check_sayings) := ⟨rfl, rfl, rfl, by decide +kernel, rfl, by decide +kernel, by decide +kernel⟩
abbrev s_Broken_init : Stmt := inClass (top 6) 0
abbrev N_Broken_init : List Str := ["self", "ring"]
theorem sc_Broken_init : FnScope N_Broken_init ["self", "ring"] (defScope s_Broken_init) := ⟨rfl, rfl, rfl, by decide +kernel, rfl, by decide +kernel, by decide +kernel⟩
abbrev s_lessened : Stmt := top 19
abbrev N_lessened : List Str := ["sayings", "sums", "last", "turn", "changed", "at", "saying", "lower", "upper", "number"]
theorem sc_lessened : FnScope N_lessened ["sayings", "sums", "last"] (defScope s_lessened) := ⟨rfl, rfl, rfl, by decide +kernel, rfl, by decide +kernel, by decide +kernel⟩
abbrev s_ring_behind : Stmt := top 20
abbrev N_ring_behind : List Str := ["sayings", "last", "place", "turn", "found", "now"]
theorem sc_ring_behind : FnScope N_ring_behind ["sayings", "last", "place"] (defScope s_ring_behind) := ⟨rfl, rfl, rfl, by decide +kernel, rfl, by decide +kernel, by decide +kernel⟩
abbrev s_from_all : Stmt := top 21
abbrev N_from_all : List Str := ["count", "sayings", "sums", "last", "place"]
theorem sc_from_all : FnScope N_from_all ["count", "sayings"] (defScope s_from_all) := ⟨rfl, rfl, rfl, by decide +kernel, rfl, by decide +kernel, by decide +kernel⟩
abbrev s_settled : Stmt := top 22
abbrev N_settled : List Str := ["count", "sayings", "sums", "ring"]
theorem sc_settled : FnScope N_settled ["count", "sayings"] (defScope s_settled) := ⟨rfl, rfl, rfl, by decide +kernel, rfl, by decide +kernel, by decide +kernel⟩
abbrev s_fixed : Stmt := top 45
abbrev N_fixed : List Str := ["count", "sayings", "one", "other", "base", "there", "there_last", "back", "back_last"]
theorem sc_fixed : FnScope N_fixed ["count", "sayings", "one", "other"] (defScope s_fixed) := ⟨rfl, rfl, rfl, by decide +kernel, rfl, by decide +kernel, by decide +kernel⟩
abbrev s_follows : Stmt := top 42
abbrev N_follows : List Str := ["count", "sayings", "one", "other", "sums", "last"]
theorem sc_follows : FnScope N_follows ["count", "sayings", "one", "other"] (defScope s_follows) := ⟨rfl, rfl, rfl, by decide +kernel, rfl, by decide +kernel, by decide +kernel⟩
abbrev s_heights : Stmt := top 40
abbrev N_heights : List Str := ["count", "sayings", "found", "ring"]
theorem sc_heights : FnScope N_heights ["count", "sayings"] (defScope s_heights) := ⟨rfl, rfl, rfl, by decide +kernel, rfl, by decide +kernel, by decide +kernel⟩
abbrev s_highest : Stmt := top 27
abbrev N_highest : List Str := ["count", "sayings", "top", "height"]
theorem sc_highest : FnScope N_highest ["count", "sayings", "top"] (defScope s_highest) := ⟨rfl, rfl, rfl, by decide +kernel, rfl, by decide +kernel, by decide +kernel⟩
abbrev s_keep : Stmt := top 13
abbrev N_keep : List Str := ["saying", "heights"]
theorem sc_keep : FnScope N_keep ["saying", "heights"] (defScope s_keep) := ⟨rfl, rfl, rfl, by decide +kernel, rfl, by decide +kernel, by decide +kernel⟩
abbrev s_keep_all : Stmt := top 14
abbrev N_keep_all : List Str := ["count", "sayings", "heights", "saying"]
theorem sc_keep_all : FnScope N_keep_all ["count", "sayings", "heights"] (defScope s_keep_all) := ⟨rfl, rfl, rfl, by decide +kernel, rfl, by decide +kernel, by decide +kernel⟩
abbrev s_kept : Stmt := top 16
abbrev N_kept : List Str := ["count", "sayings", "heights", "one"]
theorem sc_kept : FnScope N_kept ["count", "sayings", "heights"] (defScope s_kept) := ⟨rfl, rfl, rfl, by decide +kernel, rfl, by decide +kernel, by decide +kernel⟩
abbrev s_lowest : Stmt := top 28
abbrev N_lowest : List Str := ["count", "sayings", "bottom", "turned", "lower", "upper", "number", "height"]
theorem sc_lowest : FnScope N_lowest ["count", "sayings", "bottom"] (defScope s_lowest) := ⟨rfl, rfl, rfl, by decide +kernel, rfl, by decide +kernel, by decide +kernel⟩
abbrev s_needless : Stmt := top 44
abbrev N_needless : List Str := ["count", "sayings", "at", "lower", "upper", "number", "others", "sums", "last", "found", "far", "step"]
theorem sc_needless : FnScope N_needless ["count", "sayings", "at"] (defScope s_needless) := ⟨rfl, rfl, rfl, by decide +kernel, rfl, by decide +kernel, by decide +kernel⟩
abbrev s_sum_along : Stmt := top 15
abbrev N_sum_along : List Str := ["sayings", "chain", "one", "other", "total", "place", "at"]
theorem sc_sum_along : FnScope N_sum_along ["sayings", "chain", "one", "other"] (defScope s_sum_along) := ⟨rfl, rfl, rfl, by decide +kernel, rfl, by decide +kernel, by decide +kernel⟩
abbrev s_sum_of : Stmt := top 17
abbrev N_sum_of : List Str := ["count", "sayings", "chain", "one", "other", "total", "at"]
theorem sc_sum_of : FnScope N_sum_of ["count", "sayings", "chain", "one", "other"] (defScope s_sum_of) := ⟨rfl, rfl, rfl, by decide +kernel, rfl, by decide +kernel, by decide +kernel⟩
abbrev s__law_ask : Stmt := top 47
abbrev N__law_ask : List Str := ["_law_door", "_law_count", "_law_sayings", "_law_one", "_law_other"]
theorem sc__law_ask : FnScope N__law_ask ["_law_door", "_law_count", "_law_sayings", "_law_one", "_law_other"] (defScope s__law_ask) := ⟨rfl, rfl, rfl, by decide +kernel, rfl, by decide +kernel, by decide +kernel⟩
abbrev s__law_due : Stmt := top 48
abbrev N__law_due : List Str := ["_law_door", "_law_count", "_law_sayings", "_law_one", "_law_other", "_law_due_here", "error", "_law_found", "_law_k"]
theorem sc__law_due : FnScope N__law_due ["_law_door", "_law_count", "_law_sayings", "_law_one", "_law_other", "_law_due_here"] (defScope s__law_due) := ⟨rfl, rfl, rfl, by decide +kernel, rfl, by decide +kernel, by decide +kernel⟩
abbrev s_law : Stmt := top 55
abbrev N_law : List Str := ["_law_script", "_law_good", "_law_ring", "_law_cell", "_law_at", "_law_door", "_law_bad"]
theorem sc_law : FnScope N_law ["_law_script"] (defScope s_law) := ⟨rfl, rfl, rfl, by decide +kernel, rfl, by decide +kernel, by decide +kernel⟩
structure Txt (K : PySem.W.Frag) (mg : Str → Option Value) where
  fd__law_bad_chains : FuncData
  F__law_bad_chains : FunD K "_law_bad_chains" "_law_bad_chains" (defArgs s__law_bad_chains) (defBody s__law_bad_chains) (defScope s__law_bad_chains) [] [] (ga K "_law_bad_chains") fd__law_bad_chains
  b__law_bad_chains : Binds K fd__law_bad_chains ["_law_cell"] []
  fd__law_bad_heights : FuncData
  F__law_bad_heights : FunD K "_law_bad_heights" "_law_bad_heights" (defArgs s__law_bad_heights) (defBody s__law_bad_heights) (defScope s__law_bad_heights) [] [] (ga K "_law_bad_heights") fd__law_bad_heights
  b__law_bad_heights : Binds K fd__law_bad_heights ["_law_cell"] []
  fd__law_bad_numbers : FuncData
  F__law_bad_numbers : FunD K "_law_bad_numbers" "_law_bad_numbers" (defArgs s__law_bad_numbers) (defBody s__law_bad_numbers) (defScope s__law_bad_numbers) [] [] (ga K "_law_bad_numbers") fd__law_bad_numbers
  b__law_bad_numbers : Binds K fd__law_bad_numbers ["_law_cell"] []
  fd__law_bad_places : FuncData
  F__law_bad_places : FunD K "_law_bad_places" "_law_bad_places" (defArgs s__law_bad_places) (defBody s__law_bad_places) (defScope s__law_bad_places) [] [] (ga K "_law_bad_places") fd__law_bad_places
  b__law_bad_places : Binds K fd__law_bad_places ["_law_cell"] []
  fd__law_bad_sayings : FuncData
  F__law_bad_sayings : FunD K "_law_bad_sayings" "_law_bad_sayings" (defArgs s__law_bad_sayings) (defBody s__law_bad_sayings) (defScope s__law_bad_sayings) [] [] (ga K "_law_bad_sayings") fd__law_bad_sayings
  b__law_bad_sayings : Binds K fd__law_bad_sayings ["_law_cell"] []
  fd__law_counts : FuncData
  F__law_counts : FunD K "_law_counts" "_law_counts" (defArgs s__law_counts) (defBody s__law_counts) (defScope s__law_counts) [] [] (ga K "_law_counts") fd__law_counts
  b__law_counts : Binds K fd__law_counts ["_law_cell"] []
  fd_is_number : FuncData
  F_is_number : FunD K "is_number" "is_number" (defArgs s_is_number) (defBody s_is_number) (defScope s_is_number) [] [] (ga K "is_number") fd_is_number
  b_is_number : Binds K fd_is_number ["thing"] []
  fd_is_below : FuncData
  F_is_below : FunD K "is_below" "is_below" (defArgs s_is_below) (defBody s_is_below) (defScope s_is_below) [] [] (ga K "is_below") fd_is_below
  b_is_below : Binds K fd_is_below ["thing", "count"] []
  fd_check_places : FuncData
  F_check_places : FunD K "check_places" "check_places" (defArgs s_check_places) (defBody s_check_places) (defScope s_check_places) [] [] (ga K "check_places") fd_check_places
  b_check_places : Binds K fd_check_places ["count", "one", "other"] []
  fd_is_saying : FuncData
  F_is_saying : FunD K "is_saying" "is_saying" (defArgs s_is_saying) (defBody s_is_saying) (defScope s_is_saying) [] [] (ga K "is_saying") fd_is_saying
  b_is_saying : Binds K fd_is_saying ["thing", "count"] []
  fd_check_sayings : FuncData
  F_check_sayings : FunD K "check_sayings" "check_sayings" (defArgs s_check_sayings) (defBody s_check_sayings) (defScope s_check_sayings) [] [] (ga K "check_sayings") fd_check_sayings
  b_check_sayings : Binds K fd_check_sayings ["count", "sayings"] []
  fd_Broken_init : FuncData
  F_Broken_init : FunD K "__init__" "Broken.__init__" (defArgs s_Broken_init) (defBody s_Broken_init) (defScope s_Broken_init) [] [] (ma K (ga K "Broken") "__init__") fd_Broken_init
  b_Broken_init : Binds K fd_Broken_init ["self", "ring"] []
  fd_lessened : FuncData
  F_lessened : FunD K "lessened" "lessened" (defArgs s_lessened) (defBody s_lessened) (defScope s_lessened) [] [] (ga K "lessened") fd_lessened
  b_lessened : Binds K fd_lessened ["sayings", "sums", "last"] []
  fd_ring_behind : FuncData
  F_ring_behind : FunD K "ring_behind" "ring_behind" (defArgs s_ring_behind) (defBody s_ring_behind) (defScope s_ring_behind) [] [] (ga K "ring_behind") fd_ring_behind
  b_ring_behind : Binds K fd_ring_behind ["sayings", "last", "place"] []
  fd_from_all : FuncData
  F_from_all : FunD K "from_all" "from_all" (defArgs s_from_all) (defBody s_from_all) (defScope s_from_all) [] [] (ga K "from_all") fd_from_all
  b_from_all : Binds K fd_from_all ["count", "sayings"] []
  fd_settled : FuncData
  F_settled : FunD K "settled" "settled" (defArgs s_settled) (defBody s_settled) (defScope s_settled) [] [] (ga K "settled") fd_settled
  b_settled : Binds K fd_settled ["count", "sayings"] []
  fd_fixed : FuncData
  F_fixed : FunD K "fixed" "fixed" (defArgs s_fixed) (defBody s_fixed) (defScope s_fixed) [] [] (ga K "fixed") fd_fixed
  b_fixed : Binds K fd_fixed ["count", "sayings", "one", "other"] []
  fd_follows : FuncData
  F_follows : FunD K "follows" "follows" (defArgs s_follows) (defBody s_follows) (defScope s_follows) [] [] (ga K "follows") fd_follows
  b_follows : Binds K fd_follows ["count", "sayings", "one", "other"] []
  fd_heights : FuncData
  F_heights : FunD K "heights" "heights" (defArgs s_heights) (defBody s_heights) (defScope s_heights) [] [] (ga K "heights") fd_heights
  b_heights : Binds K fd_heights ["count", "sayings"] []
  fd_highest : FuncData
  F_highest : FunD K "highest" "highest" (defArgs s_highest) (defBody s_highest) (defScope s_highest) [] [] (ga K "highest") fd_highest
  b_highest : Binds K fd_highest ["count", "sayings", "top"] []
  fd_keep : FuncData
  F_keep : FunD K "keep" "keep" (defArgs s_keep) (defBody s_keep) (defScope s_keep) [] [] (ga K "keep") fd_keep
  b_keep : Binds K fd_keep ["saying", "heights"] []
  fd_keep_all : FuncData
  F_keep_all : FunD K "keep_all" "keep_all" (defArgs s_keep_all) (defBody s_keep_all) (defScope s_keep_all) [] [] (ga K "keep_all") fd_keep_all
  b_keep_all : Binds K fd_keep_all ["count", "sayings", "heights"] []
  fd_kept : FuncData
  F_kept : FunD K "kept" "kept" (defArgs s_kept) (defBody s_kept) (defScope s_kept) [] [] (ga K "kept") fd_kept
  b_kept : Binds K fd_kept ["count", "sayings", "heights"] []
  fd_lowest : FuncData
  F_lowest : FunD K "lowest" "lowest" (defArgs s_lowest) (defBody s_lowest) (defScope s_lowest) [] [] (ga K "lowest") fd_lowest
  b_lowest : Binds K fd_lowest ["count", "sayings", "bottom"] []
  fd_needless : FuncData
  F_needless : FunD K "needless" "needless" (defArgs s_needless) (defBody s_needless) (defScope s_needless) [] [] (ga K "needless") fd_needless
  b_needless : Binds K fd_needless ["count", "sayings", "at"] []
  fd_sum_along : FuncData
  F_sum_along : FunD K "sum_along" "sum_along" (defArgs s_sum_along) (defBody s_sum_along) (defScope s_sum_along) [] [] (ga K "sum_along") fd_sum_along
  b_sum_along : Binds K fd_sum_along ["sayings", "chain", "one", "other"] []
  fd_sum_of : FuncData
  F_sum_of : FunD K "sum_of" "sum_of" (defArgs s_sum_of) (defBody s_sum_of) (defScope s_sum_of) [] [] (ga K "sum_of") fd_sum_of
  b_sum_of : Binds K fd_sum_of ["count", "sayings", "chain", "one", "other"] []
  fd__law_ask : FuncData
  F__law_ask : FunD K "_law_ask" "_law_ask" (defArgs s__law_ask) (defBody s__law_ask) (defScope s__law_ask) [] [] (ga K "_law_ask") fd__law_ask
  b__law_ask : Binds K fd__law_ask ["_law_door", "_law_count", "_law_sayings", "_law_one", "_law_other"] []
  fd__law_due : FuncData
  F__law_due : FunD K "_law_due" "_law_due" (defArgs s__law_due) (defBody s__law_due) (defScope s__law_due) [] [] (ga K "_law_due") fd__law_due
  b__law_due : Binds K fd__law_due ["_law_door", "_law_count", "_law_sayings", "_law_one", "_law_other", "_law_due_here"] []
  fd_law : FuncData
  F_law : FunD K "law" "law" (defArgs s_law) (defBody s_law) (defScope s_law) [] [] (ga K "law") fd_law
  b_law : Binds K fd_law ["_law_script"] []
  g_BadCount : mg "BadCount" = some (.ref (ga K "BadCount"))
  g_BadNumber : mg "BadNumber" = some (.ref (ga K "BadNumber"))
  g_BadPlace : mg "BadPlace" = some (.ref (ga K "BadPlace"))
  g_BadSayings : mg "BadSayings" = some (.ref (ga K "BadSayings"))
  g_Broken : mg "Broken" = some (.ref (ga K "Broken"))
  g_SayError : mg "SayError" = some (.ref (ga K "SayError"))
  g__law_ask : mg "_law_ask" = some (.ref (ga K "_law_ask"))
  g__law_bad_chains : mg "_law_bad_chains" = some (.ref (ga K "_law_bad_chains"))
  g__law_bad_heights : mg "_law_bad_heights" = some (.ref (ga K "_law_bad_heights"))
  g__law_bad_numbers : mg "_law_bad_numbers" = some (.ref (ga K "_law_bad_numbers"))
  g__law_bad_places : mg "_law_bad_places" = some (.ref (ga K "_law_bad_places"))
  g__law_bad_sayings : mg "_law_bad_sayings" = some (.ref (ga K "_law_bad_sayings"))
  g__law_counts : mg "_law_counts" = some (.ref (ga K "_law_counts"))
  g__law_due : mg "_law_due" = some (.ref (ga K "_law_due"))
  g_check_places : mg "check_places" = some (.ref (ga K "check_places"))
  g_check_sayings : mg "check_sayings" = some (.ref (ga K "check_sayings"))
  g_fixed : mg "fixed" = some (.ref (ga K "fixed"))
  g_follows : mg "follows" = some (.ref (ga K "follows"))
  g_from_all : mg "from_all" = some (.ref (ga K "from_all"))
  g_heights : mg "heights" = some (.ref (ga K "heights"))
  g_highest : mg "highest" = some (.ref (ga K "highest"))
  g_is_below : mg "is_below" = some (.ref (ga K "is_below"))
  g_is_number : mg "is_number" = some (.ref (ga K "is_number"))
  g_is_saying : mg "is_saying" = some (.ref (ga K "is_saying"))
  g_keep : mg "keep" = some (.ref (ga K "keep"))
  g_keep_all : mg "keep_all" = some (.ref (ga K "keep_all"))
  g_kept : mg "kept" = some (.ref (ga K "kept"))
  g_law : mg "law" = some (.ref (ga K "law"))
  g_lessened : mg "lessened" = some (.ref (ga K "lessened"))
  g_lowest : mg "lowest" = some (.ref (ga K "lowest"))
  g_needless : mg "needless" = some (.ref (ga K "needless"))
  g_ring_behind : mg "ring_behind" = some (.ref (ga K "ring_behind"))
  g_settled : mg "settled" = some (.ref (ga K "settled"))
  g_sum_along : mg "sum_along" = some (.ref (ga K "sum_along"))
  g_sum_of : mg "sum_of" = some (.ref (ga K "sum_of"))
  n_ValueError : mg "ValueError" = none
  n_all : mg "all" = none
  n_bool : mg "bool" = none
  n_enumerate : mg "enumerate" = none
  n_int : mg "int" = none
  n_isinstance : mg "isinstance" = none
  n_len : mg "len" = none
  n_list : mg "list" = none
  n_range : mg "range" = none
  n_tuple : mg "tuple" = none
  x_BadCount : PySem.W.excIn K (ga K "BadCount") He.veBase "ValueError.__new__" = true ∧ PySem.W.keepIn K (.ref (ga K "BadCount")) = true ∧ PySem.W.subIn K (.ref (ga K "BadCount")) (.type "BaseException") = some true ∧ PySem.W.typeIn K (.ref (ga K "BadCount")) = some (.type "type")
  x_BadNumber : PySem.W.excIn K (ga K "BadNumber") He.veBase "ValueError.__new__" = true ∧ PySem.W.keepIn K (.ref (ga K "BadNumber")) = true ∧ PySem.W.subIn K (.ref (ga K "BadNumber")) (.type "BaseException") = some true ∧ PySem.W.typeIn K (.ref (ga K "BadNumber")) = some (.type "type")
  x_BadPlace : PySem.W.excIn K (ga K "BadPlace") He.veBase "ValueError.__new__" = true ∧ PySem.W.keepIn K (.ref (ga K "BadPlace")) = true ∧ PySem.W.subIn K (.ref (ga K "BadPlace")) (.type "BaseException") = some true ∧ PySem.W.typeIn K (.ref (ga K "BadPlace")) = some (.type "type")
  x_BadSayings : PySem.W.excIn K (ga K "BadSayings") He.veBase "ValueError.__new__" = true ∧ PySem.W.keepIn K (.ref (ga K "BadSayings")) = true ∧ PySem.W.subIn K (.ref (ga K "BadSayings")) (.type "BaseException") = some true ∧ PySem.W.typeIn K (.ref (ga K "BadSayings")) = some (.type "type")
  e8 : E8 K
  xfF : XfF K
  o_Broken : OxF K
section
variable {P : Program} {w : World} {K : PySem.W.Frag} {mg : Str → Option Value} {base : Heap}
theorem ok__law_bad_chains (T : Txt K mg) : FnOk P w K mg base CX0 1 (ga K "_law_bad_chains") T.fd__law_bad_chains ["_law_cell"] (sp__law_bad_chains K) := by
  refine T.F__law_bad_chains.ok sc__law_bad_chains (fun vs H Q E h => ?_) (fun cdv A outer s H vs Q E hr h => ⟨t__law_bad_chains K, PSs.nox ?_, pure__law_bad_chains h⟩)
  · first | (obtain ⟨_, ⟨_, rfl, _⟩, _⟩ := h; rfl) | (obtain ⟨_, ⟨_, _, rfl, _⟩, _⟩ := h; rfl) | (obtain ⟨_, ⟨_, _, _, rfl, _⟩, _⟩ := h; rfl) | (obtain ⟨_, ⟨_, _, _, _, rfl, _⟩, _⟩ := h; rfl) | (obtain ⟨_, ⟨_, _, _, _, _, rfl, _⟩, _⟩ := h; rfl) | (obtain ⟨_, ⟨_, _, _, _, _, _, rfl, _⟩, _⟩ := h; rfl) | (obtain ⟨_, ⟨_, _, _, _, _, _, _, rfl, _⟩, _⟩ := h; rfl) | (obtain ⟨_, ⟨_, _, _, _, _, _, _, _, rfl, _⟩, _⟩ := h; rfl) | (obtain ⟨_, ⟨_, _, _, _, _, _, _, _, _, rfl, _⟩, _⟩ := h; rfl) | (obtain ⟨_, ⟨_, _, _, _, _, _, _, _, _, _, rfl, _⟩, _⟩ := h; rfl) | (obtain ⟨_, ⟨_, _, _, _, _, _, _, _, _, _, _, rfl, _⟩, _⟩ := h; rfl) | (obtain ⟨_, ⟨_, _, _, _, _, _, _, _, _, _, _, _, rfl, _⟩, _⟩ := h; rfl) | (obtain ⟨_, rfl, _⟩ := h; rfl) | (obtain ⟨_, _, rfl, _⟩ := h; rfl) | (obtain ⟨_, _, _, rfl, _⟩ := h; rfl) | (obtain ⟨_, _, _, _, rfl, _⟩ := h; rfl) | (obtain ⟨_, _, _, _, _, rfl, _⟩ := h; rfl) | (obtain ⟨_, _, _, _, _, _, rfl, _⟩ := h; rfl) | (obtain ⟨_, _, _, _, _, _, _, rfl, _⟩ := h; rfl) | (obtain ⟨_, _, _, _, _, _, _, _, rfl, _⟩ := h; rfl) | (obtain ⟨_, _, _, _, _, _, _, _, _, rfl, _⟩ := h; rfl) | (obtain ⟨_, _, _, _, _, _, _, _, _, _, rfl, _⟩ := h; rfl) | (obtain ⟨_, _, _, _, _, _, _, _, _, _, _, rfl, _⟩ := h; rfl) | (obtain ⟨_, _, _, _, _, _, _, _, _, _, _, _, rfl, _⟩ := h; rfl)
  · exact pss_one (ps_ret (pe_lst (pa_cons (pe_non) (pa_cons (pe_tup (pa_cons (pe_int) (pa_nil))) (pa_cons (pe_str) (pa_cons (pe_dnewK) (pa_cons (pe_lst (pa_cons (pe_int) (pa_nil))) (pa_cons (pe_lst (pa_cons (pe_un un_neg (pe_int)) (pa_nil))) (pa_cons (pe_lst (pa_cons (pe_bl) (pa_nil))) (pa_cons (pe_lst (pa_cons (pe_str) (pa_nil))) (pa_cons (pe_lst (pa_cons (pe_non) (pa_nil))) (pa_cons (pe_lst (pa_cons (pe_int) (pa_cons (pe_int) (pa_nil)))) (pa_cons (pe_lst (pa_cons (pe_op op_add (pe_int) (pe_op op_mod (pv 0) (pe_int))) (pa_nil))) (pa_cons (pv 0) (pa_cons (pe_lst (pa_cons (pe_int) (pa_nil))) (pa_nil))))))))))))))))
theorem ok__law_bad_heights (T : Txt K mg) : FnOk P w K mg base CX0 1 (ga K "_law_bad_heights") T.fd__law_bad_heights ["_law_cell"] (sp__law_bad_heights K) := by
  refine T.F__law_bad_heights.ok sc__law_bad_heights (fun vs H Q E h => ?_) (fun cdv A outer s H vs Q E hr h => ⟨t__law_bad_heights K, PSs.nox ?_, pure__law_bad_heights h⟩)
  · first | (obtain ⟨_, ⟨_, rfl, _⟩, _⟩ := h; rfl) | (obtain ⟨_, ⟨_, _, rfl, _⟩, _⟩ := h; rfl) | (obtain ⟨_, ⟨_, _, _, rfl, _⟩, _⟩ := h; rfl) | (obtain ⟨_, ⟨_, _, _, _, rfl, _⟩, _⟩ := h; rfl) | (obtain ⟨_, ⟨_, _, _, _, _, rfl, _⟩, _⟩ := h; rfl) | (obtain ⟨_, ⟨_, _, _, _, _, _, rfl, _⟩, _⟩ := h; rfl) | (obtain ⟨_, ⟨_, _, _, _, _, _, _, rfl, _⟩, _⟩ := h; rfl) | (obtain ⟨_, ⟨_, _, _, _, _, _, _, _, rfl, _⟩, _⟩ := h; rfl) | (obtain ⟨_, ⟨_, _, _, _, _, _, _, _, _, rfl, _⟩, _⟩ := h; rfl) | (obtain ⟨_, ⟨_, _, _, _, _, _, _, _, _, _, rfl, _⟩, _⟩ := h; rfl) | (obtain ⟨_, ⟨_, _, _, _, _, _, _, _, _, _, _, rfl, _⟩, _⟩ := h; rfl) | (obtain ⟨_, ⟨_, _, _, _, _, _, _, _, _, _, _, _, rfl, _⟩, _⟩ := h; rfl) | (obtain ⟨_, rfl, _⟩ := h; rfl) | (obtain ⟨_, _, rfl, _⟩ := h; rfl) | (obtain ⟨_, _, _, rfl, _⟩ := h; rfl) | (obtain ⟨_, _, _, _, rfl, _⟩ := h; rfl) | (obtain ⟨_, _, _, _, _, rfl, _⟩ := h; rfl) | (obtain ⟨_, _, _, _, _, _, rfl, _⟩ := h; rfl) | (obtain ⟨_, _, _, _, _, _, _, rfl, _⟩ := h; rfl) | (obtain ⟨_, _, _, _, _, _, _, _, rfl, _⟩ := h; rfl) | (obtain ⟨_, _, _, _, _, _, _, _, _, rfl, _⟩ := h; rfl) | (obtain ⟨_, _, _, _, _, _, _, _, _, _, rfl, _⟩ := h; rfl) | (obtain ⟨_, _, _, _, _, _, _, _, _, _, _, rfl, _⟩ := h; rfl) | (obtain ⟨_, _, _, _, _, _, _, _, _, _, _, _, rfl, _⟩ := h; rfl)
  · exact pss_one (ps_ret (pe_lst (pa_cons (pe_non) (pa_cons (pe_tup (pa_cons (pe_int) (pa_cons (pe_int) (pa_nil)))) (pa_cons (pe_str) (pa_cons (pe_dnewK) (pa_cons (pe_lst (pa_cons (pe_int) (pa_nil))) (pa_cons (pe_lst (pa_cons (pe_int) (pa_cons (pe_int) (pa_cons (pe_int) (pa_nil))))) (pa_cons (pe_lst (pa_cons (pe_int) (pa_cons (pe_non) (pa_nil)))) (pa_cons (pe_lst (pa_cons (pe_int) (pa_cons (pe_bl) (pa_nil)))) (pa_cons (pe_lst (pa_cons (pe_str) (pa_cons (pe_int) (pa_nil)))) (pa_cons (pe_lst (pa_cons (pe_lst (pa_cons (pe_int) (pa_nil))) (pa_cons (pe_int) (pa_nil)))) (pa_cons (pe_lst (pa_nil)) (pa_cons (pv 0) (pa_cons (pe_lst (pa_cons (pv 0) (pa_nil))) (pa_nil))))))))))))))))
theorem ok__law_bad_numbers (T : Txt K mg) : FnOk P w K mg base CX0 1 (ga K "_law_bad_numbers") T.fd__law_bad_numbers ["_law_cell"] (sp__law_bad_numbers K) := by
  refine T.F__law_bad_numbers.ok sc__law_bad_numbers (fun vs H Q E h => ?_) (fun cdv A outer s H vs Q E hr h => ⟨t__law_bad_numbers K, PSs.nox ?_, pure__law_bad_numbers h⟩)
  · first | (obtain ⟨_, ⟨_, rfl, _⟩, _⟩ := h; rfl) | (obtain ⟨_, ⟨_, _, rfl, _⟩, _⟩ := h; rfl) | (obtain ⟨_, ⟨_, _, _, rfl, _⟩, _⟩ := h; rfl) | (obtain ⟨_, ⟨_, _, _, _, rfl, _⟩, _⟩ := h; rfl) | (obtain ⟨_, ⟨_, _, _, _, _, rfl, _⟩, _⟩ := h; rfl) | (obtain ⟨_, ⟨_, _, _, _, _, _, rfl, _⟩, _⟩ := h; rfl) | (obtain ⟨_, ⟨_, _, _, _, _, _, _, rfl, _⟩, _⟩ := h; rfl) | (obtain ⟨_, ⟨_, _, _, _, _, _, _, _, rfl, _⟩, _⟩ := h; rfl) | (obtain ⟨_, ⟨_, _, _, _, _, _, _, _, _, rfl, _⟩, _⟩ := h; rfl) | (obtain ⟨_, ⟨_, _, _, _, _, _, _, _, _, _, rfl, _⟩, _⟩ := h; rfl) | (obtain ⟨_, ⟨_, _, _, _, _, _, _, _, _, _, _, rfl, _⟩, _⟩ := h; rfl) | (obtain ⟨_, ⟨_, _, _, _, _, _, _, _, _, _, _, _, rfl, _⟩, _⟩ := h; rfl) | (obtain ⟨_, rfl, _⟩ := h; rfl) | (obtain ⟨_, _, rfl, _⟩ := h; rfl) | (obtain ⟨_, _, _, rfl, _⟩ := h; rfl) | (obtain ⟨_, _, _, _, rfl, _⟩ := h; rfl) | (obtain ⟨_, _, _, _, _, rfl, _⟩ := h; rfl) | (obtain ⟨_, _, _, _, _, _, rfl, _⟩ := h; rfl) | (obtain ⟨_, _, _, _, _, _, _, rfl, _⟩ := h; rfl) | (obtain ⟨_, _, _, _, _, _, _, _, rfl, _⟩ := h; rfl) | (obtain ⟨_, _, _, _, _, _, _, _, _, rfl, _⟩ := h; rfl) | (obtain ⟨_, _, _, _, _, _, _, _, _, _, rfl, _⟩ := h; rfl) | (obtain ⟨_, _, _, _, _, _, _, _, _, _, _, rfl, _⟩ := h; rfl) | (obtain ⟨_, _, _, _, _, _, _, _, _, _, _, _, rfl, _⟩ := h; rfl)
  · exact pss_one (ps_ret (pe_lst (pa_cons (pe_non) (pa_cons (pe_str) (pa_cons (pe_bl) (pa_cons (pe_lst (pa_cons (pe_int) (pa_nil))) (pa_cons (pe_tup (pa_cons (pe_int) (pa_nil))) (pa_cons (pe_dnewK) (pa_nil)))))))))
theorem ok__law_bad_places (T : Txt K mg) : FnOk P w K mg base CX0 1 (ga K "_law_bad_places") T.fd__law_bad_places ["_law_cell"] (sp__law_bad_places K) := by
  refine T.F__law_bad_places.ok sc__law_bad_places (fun vs H Q E h => ?_) (fun cdv A outer s H vs Q E hr h => ⟨t__law_bad_places K, PSs.nox ?_, pure__law_bad_places h⟩)
  · first | (obtain ⟨_, ⟨_, rfl, _⟩, _⟩ := h; rfl) | (obtain ⟨_, ⟨_, _, rfl, _⟩, _⟩ := h; rfl) | (obtain ⟨_, ⟨_, _, _, rfl, _⟩, _⟩ := h; rfl) | (obtain ⟨_, ⟨_, _, _, _, rfl, _⟩, _⟩ := h; rfl) | (obtain ⟨_, ⟨_, _, _, _, _, rfl, _⟩, _⟩ := h; rfl) | (obtain ⟨_, ⟨_, _, _, _, _, _, rfl, _⟩, _⟩ := h; rfl) | (obtain ⟨_, ⟨_, _, _, _, _, _, _, rfl, _⟩, _⟩ := h; rfl) | (obtain ⟨_, ⟨_, _, _, _, _, _, _, _, rfl, _⟩, _⟩ := h; rfl) | (obtain ⟨_, ⟨_, _, _, _, _, _, _, _, _, rfl, _⟩, _⟩ := h; rfl) | (obtain ⟨_, ⟨_, _, _, _, _, _, _, _, _, _, rfl, _⟩, _⟩ := h; rfl) | (obtain ⟨_, ⟨_, _, _, _, _, _, _, _, _, _, _, rfl, _⟩, _⟩ := h; rfl) | (obtain ⟨_, ⟨_, _, _, _, _, _, _, _, _, _, _, _, rfl, _⟩, _⟩ := h; rfl) | (obtain ⟨_, rfl, _⟩ := h; rfl) | (obtain ⟨_, _, rfl, _⟩ := h; rfl) | (obtain ⟨_, _, _, rfl, _⟩ := h; rfl) | (obtain ⟨_, _, _, _, rfl, _⟩ := h; rfl) | (obtain ⟨_, _, _, _, _, rfl, _⟩ := h; rfl) | (obtain ⟨_, _, _, _, _, _, rfl, _⟩ := h; rfl) | (obtain ⟨_, _, _, _, _, _, _, rfl, _⟩ := h; rfl) | (obtain ⟨_, _, _, _, _, _, _, _, rfl, _⟩ := h; rfl) | (obtain ⟨_, _, _, _, _, _, _, _, _, rfl, _⟩ := h; rfl) | (obtain ⟨_, _, _, _, _, _, _, _, _, _, rfl, _⟩ := h; rfl) | (obtain ⟨_, _, _, _, _, _, _, _, _, _, _, rfl, _⟩ := h; rfl) | (obtain ⟨_, _, _, _, _, _, _, _, _, _, _, _, rfl, _⟩ := h; rfl)
  · exact pss_one (ps_ret (pe_lst (pa_cons (pe_non) (pa_cons (pe_un un_neg (pe_int)) (pa_cons (pe_int) (pa_cons (pe_op op_add (pe_int) (pe_op op_mod (pv 0) (pe_int))) (pa_cons (pe_op op_sub (pe_un un_neg (pe_int)) (pe_op op_mod (pv 0) (pe_int))) (pa_cons (pe_bl) (pa_cons (pe_str) (pa_cons (pe_lst (pa_cons (pe_int) (pa_nil))) (pa_nil)))))))))))
theorem ok__law_bad_sayings (T : Txt K mg) : FnOk P w K mg base CX0 1 (ga K "_law_bad_sayings") T.fd__law_bad_sayings ["_law_cell"] (sp__law_bad_sayings K) := by
  refine T.F__law_bad_sayings.ok sc__law_bad_sayings (fun vs H Q E h => ?_) (fun cdv A outer s H vs Q E hr h => ⟨t__law_bad_sayings K, PSs.nox ?_, pure__law_bad_sayings h⟩)
  · first | (obtain ⟨_, ⟨_, rfl, _⟩, _⟩ := h; rfl) | (obtain ⟨_, ⟨_, _, rfl, _⟩, _⟩ := h; rfl) | (obtain ⟨_, ⟨_, _, _, rfl, _⟩, _⟩ := h; rfl) | (obtain ⟨_, ⟨_, _, _, _, rfl, _⟩, _⟩ := h; rfl) | (obtain ⟨_, ⟨_, _, _, _, _, rfl, _⟩, _⟩ := h; rfl) | (obtain ⟨_, ⟨_, _, _, _, _, _, rfl, _⟩, _⟩ := h; rfl) | (obtain ⟨_, ⟨_, _, _, _, _, _, _, rfl, _⟩, _⟩ := h; rfl) | (obtain ⟨_, ⟨_, _, _, _, _, _, _, _, rfl, _⟩, _⟩ := h; rfl) | (obtain ⟨_, ⟨_, _, _, _, _, _, _, _, _, rfl, _⟩, _⟩ := h; rfl) | (obtain ⟨_, ⟨_, _, _, _, _, _, _, _, _, _, rfl, _⟩, _⟩ := h; rfl) | (obtain ⟨_, ⟨_, _, _, _, _, _, _, _, _, _, _, rfl, _⟩, _⟩ := h; rfl) | (obtain ⟨_, ⟨_, _, _, _, _, _, _, _, _, _, _, _, rfl, _⟩, _⟩ := h; rfl) | (obtain ⟨_, rfl, _⟩ := h; rfl) | (obtain ⟨_, _, rfl, _⟩ := h; rfl) | (obtain ⟨_, _, _, rfl, _⟩ := h; rfl) | (obtain ⟨_, _, _, _, rfl, _⟩ := h; rfl) | (obtain ⟨_, _, _, _, _, rfl, _⟩ := h; rfl) | (obtain ⟨_, _, _, _, _, _, rfl, _⟩ := h; rfl) | (obtain ⟨_, _, _, _, _, _, _, rfl, _⟩ := h; rfl) | (obtain ⟨_, _, _, _, _, _, _, _, rfl, _⟩ := h; rfl) | (obtain ⟨_, _, _, _, _, _, _, _, _, rfl, _⟩ := h; rfl) | (obtain ⟨_, _, _, _, _, _, _, _, _, _, rfl, _⟩ := h; rfl) | (obtain ⟨_, _, _, _, _, _, _, _, _, _, _, rfl, _⟩ := h; rfl) | (obtain ⟨_, _, _, _, _, _, _, _, _, _, _, _, rfl, _⟩ := h; rfl)
  · exact pss_cons (ps_set (i := 1) sc__law_bad_sayings.nd rfl (Or.inl rfl) (pe_lst (pa_cons (pe_non) (pa_cons (pe_tup (pa_cons (pe_tup (pa_cons (pe_int) (pa_cons (pe_int) (pa_cons (pe_int) (pa_nil))))) (pa_nil))) (pa_cons (pe_str) (pa_cons (pe_dnewK) (pa_cons (pe_lst (pa_cons (pe_non) (pa_nil))) (pa_cons (pe_lst (pa_cons (pe_tup (pa_cons (pe_int) (pa_cons (pe_int) (pa_nil)))) (pa_nil))) (pa_cons (pe_lst (pa_cons (pe_tup (pa_cons (pe_int) (pa_cons (pe_int) (pa_cons (pe_int) (pa_cons (pe_int) (pa_nil)))))) (pa_nil))) (pa_cons (pe_lst (pa_cons (pe_lst (pa_cons (pe_int) (pa_cons (pe_int) (pa_cons (pe_int) (pa_nil))))) (pa_nil))) (pa_cons (pe_lst (pa_cons (pe_tup (pa_cons (pe_int) (pa_cons (pe_int) (pa_cons (pe_int) (pa_nil))))) (pa_nil))) (pa_cons (pe_lst (pa_cons (pe_tup (pa_cons (pe_un un_neg (pe_int)) (pa_cons (pe_int) (pa_cons (pe_int) (pa_nil))))) (pa_nil))) (pa_nil))))))))))))) (pss_cons (ps_set (i := 1) sc__law_bad_sayings.nd rfl (Or.inl rfl) (pe_op op_cat (pv 1) (pe_lst (pa_cons (pe_lst (pa_cons (pe_tup (pa_cons (pe_bl) (pa_cons (pe_int) (pa_cons (pe_int) (pa_nil))))) (pa_nil))) (pa_cons (pe_lst (pa_cons (pe_tup (pa_cons (pe_int) (pa_cons (pe_int) (pa_cons (pe_non) (pa_nil))))) (pa_nil))) (pa_cons (pe_lst (pa_cons (pe_tup (pa_cons (pe_int) (pa_cons (pe_int) (pa_cons (pe_str) (pa_nil))))) (pa_nil))) (pa_cons (pe_lst (pa_cons (pe_tup (pa_cons (pe_int) (pa_cons (pe_int) (pa_cons (pe_bl) (pa_nil))))) (pa_nil))) (pa_cons (pe_lst (pa_cons (pe_tup (pa_cons (pe_int) (pa_cons (pe_int) (pa_cons (pe_int) (pa_nil))))) (pa_cons (pe_tup (pa_cons (pe_op op_add (pe_int) (pe_op op_mod (pv 0) (pe_int))) (pa_cons (pe_int) (pa_cons (pv 0) (pa_nil))))) (pa_nil)))) (pa_nil))))))))) (pss_one (ps_ret (pe_op op_cat (pv 1) (pe_lst (pa_cons (pv 0) (pa_cons (pe_int) (pa_cons (pe_lst (pa_cons (pe_tup (pa_cons (pe_int) (pa_cons (pe_int) (pa_cons (pv 0) (pa_nil))))) (pa_cons (pe_non) (pa_nil)))) (pa_cons (pe_lst (pa_cons (pe_tup (pa_cons (pe_int) (pa_cons (pe_op op_sub (pe_un un_neg (pe_int)) (pe_op op_mod (pv 0) (pe_int))) (pa_cons (pe_int) (pa_nil))))) (pa_nil))) (pa_cons (pe_lst (pa_cons (pe_tup (pa_cons (pe_str) (pa_cons (pe_int) (pa_cons (pe_int) (pa_nil))))) (pa_nil))) (pa_nil)))))))))))
theorem ok__law_counts (T : Txt K mg) : FnOk P w K mg base CX0 1 (ga K "_law_counts") T.fd__law_counts ["_law_cell"] (sp__law_counts K) := by
  refine T.F__law_counts.ok sc__law_counts (fun vs H Q E h => ?_) (fun cdv A outer s H vs Q E hr h => ⟨t__law_counts K, PSs.nox ?_, pure__law_counts h⟩)
  · first | (obtain ⟨_, ⟨_, rfl, _⟩, _⟩ := h; rfl) | (obtain ⟨_, ⟨_, _, rfl, _⟩, _⟩ := h; rfl) | (obtain ⟨_, ⟨_, _, _, rfl, _⟩, _⟩ := h; rfl) | (obtain ⟨_, ⟨_, _, _, _, rfl, _⟩, _⟩ := h; rfl) | (obtain ⟨_, ⟨_, _, _, _, _, rfl, _⟩, _⟩ := h; rfl) | (obtain ⟨_, ⟨_, _, _, _, _, _, rfl, _⟩, _⟩ := h; rfl) | (obtain ⟨_, ⟨_, _, _, _, _, _, _, rfl, _⟩, _⟩ := h; rfl) | (obtain ⟨_, ⟨_, _, _, _, _, _, _, _, rfl, _⟩, _⟩ := h; rfl) | (obtain ⟨_, ⟨_, _, _, _, _, _, _, _, _, rfl, _⟩, _⟩ := h; rfl) | (obtain ⟨_, ⟨_, _, _, _, _, _, _, _, _, _, rfl, _⟩, _⟩ := h; rfl) | (obtain ⟨_, ⟨_, _, _, _, _, _, _, _, _, _, _, rfl, _⟩, _⟩ := h; rfl) | (obtain ⟨_, ⟨_, _, _, _, _, _, _, _, _, _, _, _, rfl, _⟩, _⟩ := h; rfl) | (obtain ⟨_, rfl, _⟩ := h; rfl) | (obtain ⟨_, _, rfl, _⟩ := h; rfl) | (obtain ⟨_, _, _, rfl, _⟩ := h; rfl) | (obtain ⟨_, _, _, _, rfl, _⟩ := h; rfl) | (obtain ⟨_, _, _, _, _, rfl, _⟩ := h; rfl) | (obtain ⟨_, _, _, _, _, _, rfl, _⟩ := h; rfl) | (obtain ⟨_, _, _, _, _, _, _, rfl, _⟩ := h; rfl) | (obtain ⟨_, _, _, _, _, _, _, _, rfl, _⟩ := h; rfl) | (obtain ⟨_, _, _, _, _, _, _, _, _, rfl, _⟩ := h; rfl) | (obtain ⟨_, _, _, _, _, _, _, _, _, _, rfl, _⟩ := h; rfl) | (obtain ⟨_, _, _, _, _, _, _, _, _, _, _, rfl, _⟩ := h; rfl) | (obtain ⟨_, _, _, _, _, _, _, _, _, _, _, _, rfl, _⟩ := h; rfl)
  · exact pss_one (ps_ret (pe_lst (pa_cons (pe_non) (pa_cons (pe_int) (pa_cons (pe_un un_neg (pe_int)) (pa_cons (pe_op op_sub (pe_un un_neg (pe_int)) (pe_op op_mod (pv 0) (pe_int))) (pa_cons (pe_bl) (pa_cons (pe_str) (pa_cons (pe_lst (pa_cons (pe_int) (pa_nil))) (pa_cons (pe_tup (pa_cons (pe_int) (pa_nil))) (pa_nil)))))))))))
theorem ok_is_number (T : Txt K mg) : FnOk P w K mg base CX0 1 (ga K "is_number") T.fd_is_number ["thing"] (sp_is_number K) := by
  refine T.F_is_number.ok sc_is_number (fun vs H Q E h => ?_) (fun cdv A outer s H vs Q E hr h => ⟨t_is_number K, PSs.nox ?_, pure_is_number h⟩)
  · first | (obtain ⟨_, ⟨_, rfl, _⟩, _⟩ := h; rfl) | (obtain ⟨_, ⟨_, _, rfl, _⟩, _⟩ := h; rfl) | (obtain ⟨_, ⟨_, _, _, rfl, _⟩, _⟩ := h; rfl) | (obtain ⟨_, ⟨_, _, _, _, rfl, _⟩, _⟩ := h; rfl) | (obtain ⟨_, ⟨_, _, _, _, _, rfl, _⟩, _⟩ := h; rfl) | (obtain ⟨_, ⟨_, _, _, _, _, _, rfl, _⟩, _⟩ := h; rfl) | (obtain ⟨_, ⟨_, _, _, _, _, _, _, rfl, _⟩, _⟩ := h; rfl) | (obtain ⟨_, ⟨_, _, _, _, _, _, _, _, rfl, _⟩, _⟩ := h; rfl) | (obtain ⟨_, ⟨_, _, _, _, _, _, _, _, _, rfl, _⟩, _⟩ := h; rfl) | (obtain ⟨_, ⟨_, _, _, _, _, _, _, _, _, _, rfl, _⟩, _⟩ := h; rfl) | (obtain ⟨_, ⟨_, _, _, _, _, _, _, _, _, _, _, rfl, _⟩, _⟩ := h; rfl) | (obtain ⟨_, ⟨_, _, _, _, _, _, _, _, _, _, _, _, rfl, _⟩, _⟩ := h; rfl) | (obtain ⟨_, rfl, _⟩ := h; rfl) | (obtain ⟨_, _, rfl, _⟩ := h; rfl) | (obtain ⟨_, _, _, rfl, _⟩ := h; rfl) | (obtain ⟨_, _, _, _, rfl, _⟩ := h; rfl) | (obtain ⟨_, _, _, _, _, rfl, _⟩ := h; rfl) | (obtain ⟨_, _, _, _, _, _, rfl, _⟩ := h; rfl) | (obtain ⟨_, _, _, _, _, _, _, rfl, _⟩ := h; rfl) | (obtain ⟨_, _, _, _, _, _, _, _, rfl, _⟩ := h; rfl) | (obtain ⟨_, _, _, _, _, _, _, _, _, rfl, _⟩ := h; rfl) | (obtain ⟨_, _, _, _, _, _, _, _, _, _, rfl, _⟩ := h; rfl) | (obtain ⟨_, _, _, _, _, _, _, _, _, _, _, rfl, _⟩ := h; rfl) | (obtain ⟨_, _, _, _, _, _, _, _, _, _, _, _, rfl, _⟩ := h; rfl)
  · exact pss_one (ps_ret (pe_and (pe_callB call_isi (by rfl) T.n_isinstance (by decide +kernel) (pa_cons (pv 0) (pa_cons ((pe_bltn (v := .ty "int") (by rfl) T.n_int (by decide +kernel) rfl)) (pa_nil)))) (pe_one (pe_not (pe_callB call_isi (by rfl) T.n_isinstance (by decide +kernel) (pa_cons (pv 0) (pa_cons ((pe_bltn (v := .ty "bool") (by rfl) T.n_bool (by decide +kernel) rfl)) (pa_nil))))))))
theorem ok_is_below (T : Txt K mg) : FnOk P w K mg base CX0 2 (ga K "is_below") T.fd_is_below ["thing", "count"] (sp_is_below K) := by
  refine T.F_is_below.ok sc_is_below (fun vs H Q E h => ?_) (fun cdv A outer s H vs Q E hr h => ⟨t_is_below K, PSs.nox ?_, pure_is_below h⟩)
  · first | (obtain ⟨_, ⟨_, rfl, _⟩, _⟩ := h; rfl) | (obtain ⟨_, ⟨_, _, rfl, _⟩, _⟩ := h; rfl) | (obtain ⟨_, ⟨_, _, _, rfl, _⟩, _⟩ := h; rfl) | (obtain ⟨_, ⟨_, _, _, _, rfl, _⟩, _⟩ := h; rfl) | (obtain ⟨_, ⟨_, _, _, _, _, rfl, _⟩, _⟩ := h; rfl) | (obtain ⟨_, ⟨_, _, _, _, _, _, rfl, _⟩, _⟩ := h; rfl) | (obtain ⟨_, ⟨_, _, _, _, _, _, _, rfl, _⟩, _⟩ := h; rfl) | (obtain ⟨_, ⟨_, _, _, _, _, _, _, _, rfl, _⟩, _⟩ := h; rfl) | (obtain ⟨_, ⟨_, _, _, _, _, _, _, _, _, rfl, _⟩, _⟩ := h; rfl) | (obtain ⟨_, ⟨_, _, _, _, _, _, _, _, _, _, rfl, _⟩, _⟩ := h; rfl) | (obtain ⟨_, ⟨_, _, _, _, _, _, _, _, _, _, _, rfl, _⟩, _⟩ := h; rfl) | (obtain ⟨_, ⟨_, _, _, _, _, _, _, _, _, _, _, _, rfl, _⟩, _⟩ := h; rfl) | (obtain ⟨_, rfl, _⟩ := h; rfl) | (obtain ⟨_, _, rfl, _⟩ := h; rfl) | (obtain ⟨_, _, _, rfl, _⟩ := h; rfl) | (obtain ⟨_, _, _, _, rfl, _⟩ := h; rfl) | (obtain ⟨_, _, _, _, _, rfl, _⟩ := h; rfl) | (obtain ⟨_, _, _, _, _, _, rfl, _⟩ := h; rfl) | (obtain ⟨_, _, _, _, _, _, _, rfl, _⟩ := h; rfl) | (obtain ⟨_, _, _, _, _, _, _, _, rfl, _⟩ := h; rfl) | (obtain ⟨_, _, _, _, _, _, _, _, _, rfl, _⟩ := h; rfl) | (obtain ⟨_, _, _, _, _, _, _, _, _, _, rfl, _⟩ := h; rfl) | (obtain ⟨_, _, _, _, _, _, _, _, _, _, _, rfl, _⟩ := h; rfl) | (obtain ⟨_, _, _, _, _, _, _, _, _, _, _, _, rfl, _⟩ := h; rfl)
  · exact pss_one (ps_ret (pe_and (pe_call (ok_is_number T) (hr.mono (by decide)) (by rfl) T.g_is_number T.F_is_number.kp T.b_is_number .nil pass0 (pa_cons (pv 0) (pa_nil))) (pe_one (pe_chain op_le op_lt (pe_int) (pv 0) (pv 1)))))
theorem ok_check_places (T : Txt K mg) : FnOk P w K mg base (L2N.CX P w) 3 (ga K "check_places") T.fd_check_places ["count", "one", "other"] (sp_check_places K) := by
  refine T.F_check_places.ok sc_check_places (fun vs H Q E h => ?_) (fun cdv A outer s H vs Q E hr h => ⟨t_check_places K E, ?_, pure_check_places h⟩)
  · first | (obtain ⟨_, ⟨_, rfl, _⟩, _⟩ := h; rfl) | (obtain ⟨_, ⟨_, _, rfl, _⟩, _⟩ := h; rfl) | (obtain ⟨_, ⟨_, _, _, rfl, _⟩, _⟩ := h; rfl) | (obtain ⟨_, ⟨_, _, _, _, rfl, _⟩, _⟩ := h; rfl) | (obtain ⟨_, ⟨_, _, _, _, _, rfl, _⟩, _⟩ := h; rfl) | (obtain ⟨_, ⟨_, _, _, _, _, _, rfl, _⟩, _⟩ := h; rfl) | (obtain ⟨_, ⟨_, _, _, _, _, _, _, rfl, _⟩, _⟩ := h; rfl) | (obtain ⟨_, ⟨_, _, _, _, _, _, _, _, rfl, _⟩, _⟩ := h; rfl) | (obtain ⟨_, ⟨_, _, _, _, _, _, _, _, _, rfl, _⟩, _⟩ := h; rfl) | (obtain ⟨_, ⟨_, _, _, _, _, _, _, _, _, _, rfl, _⟩, _⟩ := h; rfl) | (obtain ⟨_, ⟨_, _, _, _, _, _, _, _, _, _, _, rfl, _⟩, _⟩ := h; rfl) | (obtain ⟨_, ⟨_, _, _, _, _, _, _, _, _, _, _, _, rfl, _⟩, _⟩ := h; rfl) | (obtain ⟨_, rfl, _⟩ := h; rfl) | (obtain ⟨_, _, rfl, _⟩ := h; rfl) | (obtain ⟨_, _, _, rfl, _⟩ := h; rfl) | (obtain ⟨_, _, _, _, rfl, _⟩ := h; rfl) | (obtain ⟨_, _, _, _, _, rfl, _⟩ := h; rfl) | (obtain ⟨_, _, _, _, _, _, rfl, _⟩ := h; rfl) | (obtain ⟨_, _, _, _, _, _, _, rfl, _⟩ := h; rfl) | (obtain ⟨_, _, _, _, _, _, _, _, rfl, _⟩ := h; rfl) | (obtain ⟨_, _, _, _, _, _, _, _, _, rfl, _⟩ := h; rfl) | (obtain ⟨_, _, _, _, _, _, _, _, _, _, rfl, _⟩ := h; rfl) | (obtain ⟨_, _, _, _, _, _, _, _, _, _, _, rfl, _⟩ := h; rfl) | (obtain ⟨_, _, _, _, _, _, _, _, _, _, _, _, rfl, _⟩ := h; rfl)
  · exact pss_one (ps_if (PW.pt (pw_or (pt_not (pt_val (pe_call (ok_is_below T) (hr.mono (by decide)) (by rfl) T.g_is_below T.F_is_below.kp T.b_is_below .nil pass0 (pa_cons (pv 1) (pa_cons (pv 0) (pa_nil)))))) (pw_or1 (pt_not (pt_val (pe_call (ok_is_below T) (hr.mono (by decide)) (by rfl) T.g_is_below T.F_is_below.kp T.b_is_below .nil pass0 (pa_cons (pv 2) (pa_cons (pv 0) (pa_nil))))))))) (pss_one (L2N.ps_raise rfl (L2N.takes_of rfl rfl rfl rfl) (L2N.pmk_own PySem.F.excBase_ValueError T.x_BadPlace.1 T.g_BadPlace T.x_BadPlace.2.1 (raises_own T.x_BadPlace.2.2.1 T.x_BadPlace.2.2.2) (by exact rfl)))) (pss_nil))
theorem ok_is_saying (T : Txt K mg) : FnOk P w K mg base CX0 3 (ga K "is_saying") T.fd_is_saying ["thing", "count"] (sp_is_saying K) := by
  refine T.F_is_saying.ok sc_is_saying (fun vs H Q E h => ?_) (fun cdv A outer s H vs Q E hr h => ⟨t_is_saying K, PSs.nox ?_, pure_is_saying h⟩)
  · first | (obtain ⟨_, ⟨_, rfl, _⟩, _⟩ := h; rfl) | (obtain ⟨_, ⟨_, _, rfl, _⟩, _⟩ := h; rfl) | (obtain ⟨_, ⟨_, _, _, rfl, _⟩, _⟩ := h; rfl) | (obtain ⟨_, ⟨_, _, _, _, rfl, _⟩, _⟩ := h; rfl) | (obtain ⟨_, ⟨_, _, _, _, _, rfl, _⟩, _⟩ := h; rfl) | (obtain ⟨_, ⟨_, _, _, _, _, _, rfl, _⟩, _⟩ := h; rfl) | (obtain ⟨_, ⟨_, _, _, _, _, _, _, rfl, _⟩, _⟩ := h; rfl) | (obtain ⟨_, ⟨_, _, _, _, _, _, _, _, rfl, _⟩, _⟩ := h; rfl) | (obtain ⟨_, ⟨_, _, _, _, _, _, _, _, _, rfl, _⟩, _⟩ := h; rfl) | (obtain ⟨_, ⟨_, _, _, _, _, _, _, _, _, _, rfl, _⟩, _⟩ := h; rfl) | (obtain ⟨_, ⟨_, _, _, _, _, _, _, _, _, _, _, rfl, _⟩, _⟩ := h; rfl) | (obtain ⟨_, ⟨_, _, _, _, _, _, _, _, _, _, _, _, rfl, _⟩, _⟩ := h; rfl) | (obtain ⟨_, rfl, _⟩ := h; rfl) | (obtain ⟨_, _, rfl, _⟩ := h; rfl) | (obtain ⟨_, _, _, rfl, _⟩ := h; rfl) | (obtain ⟨_, _, _, _, rfl, _⟩ := h; rfl) | (obtain ⟨_, _, _, _, _, rfl, _⟩ := h; rfl) | (obtain ⟨_, _, _, _, _, _, rfl, _⟩ := h; rfl) | (obtain ⟨_, _, _, _, _, _, _, rfl, _⟩ := h; rfl) | (obtain ⟨_, _, _, _, _, _, _, _, rfl, _⟩ := h; rfl) | (obtain ⟨_, _, _, _, _, _, _, _, _, rfl, _⟩ := h; rfl) | (obtain ⟨_, _, _, _, _, _, _, _, _, _, rfl, _⟩ := h; rfl) | (obtain ⟨_, _, _, _, _, _, _, _, _, _, _, rfl, _⟩ := h; rfl) | (obtain ⟨_, _, _, _, _, _, _, _, _, _, _, _, rfl, _⟩ := h; rfl)
  · exact pss_cons (ps_if (PW.pt (pw_or (pt_not (pt_val (pe_callB call_isi (by rfl) T.n_isinstance (by decide +kernel) (pa_cons (pv 0) (pa_cons ((pe_bltn (v := .ty "tuple") (by rfl) T.n_tuple (by decide +kernel) rfl)) (pa_nil)))))) (pw_or1 (pt_cmpR op_ne (pe_callB call_len_seq (by rfl) T.n_len (by decide +kernel) (pa_cons (pv 0) (pa_nil))) (pe_int) (nomark _))))) (pss_one (ps_ret (pe_bl))) (pss_nil)) (pss_one (ps_ret (pe_and (pe_call (ok_is_below T) (hr.mono (by decide)) (by rfl) T.g_is_below T.F_is_below.kp T.b_is_below .nil pass0 (pa_cons (pe_ix ix_tup (pv 0) (pe_int) (fun _ _ => rfl)) (pa_cons (pv 1) (pa_nil)))) (pe_and (pe_call (ok_is_below T) (hr.mono (by decide)) (by rfl) T.g_is_below T.F_is_below.kp T.b_is_below .nil pass0 (pa_cons (pe_ix ix_tup (pv 0) (pe_int) (fun _ _ => rfl)) (pa_cons (pv 1) (pa_nil)))) (pe_one (pe_call (ok_is_number T) (hr.mono (by decide)) (by rfl) T.g_is_number T.F_is_number.kp T.b_is_number .nil pass0 (pa_cons (pe_ix ix_tup (pv 0) (pe_int) (fun _ _ => rfl)) (pa_nil))))))))
theorem ok_check_sayings (T : Txt K mg) : FnOk P w K mg base (L2N.CX P w) 4 (ga K "check_sayings") T.fd_check_sayings ["count", "sayings"] (sp_check_sayings K) := by
  refine T.F_check_sayings.ok sc_check_sayings (fun vs H Q E h => ?_) (fun cdv A outer s H vs Q E hr h => ⟨t_check_sayings K E, ?_, pure_check_sayings h⟩)
  · first | (obtain ⟨_, ⟨_, rfl, _⟩, _⟩ := h; rfl) | (obtain ⟨_, ⟨_, _, rfl, _⟩, _⟩ := h; rfl) | (obtain ⟨_, ⟨_, _, _, rfl, _⟩, _⟩ := h; rfl) | (obtain ⟨_, ⟨_, _, _, _, rfl, _⟩, _⟩ := h; rfl) | (obtain ⟨_, ⟨_, _, _, _, _, rfl, _⟩, _⟩ := h; rfl) | (obtain ⟨_, ⟨_, _, _, _, _, _, rfl, _⟩, _⟩ := h; rfl) | (obtain ⟨_, ⟨_, _, _, _, _, _, _, rfl, _⟩, _⟩ := h; rfl) | (obtain ⟨_, ⟨_, _, _, _, _, _, _, _, rfl, _⟩, _⟩ := h; rfl) | (obtain ⟨_, ⟨_, _, _, _, _, _, _, _, _, rfl, _⟩, _⟩ := h; rfl) | (obtain ⟨_, ⟨_, _, _, _, _, _, _, _, _, _, rfl, _⟩, _⟩ := h; rfl) | (obtain ⟨_, ⟨_, _, _, _, _, _, _, _, _, _, _, rfl, _⟩, _⟩ := h; rfl) | (obtain ⟨_, ⟨_, _, _, _, _, _, _, _, _, _, _, _, rfl, _⟩, _⟩ := h; rfl) | (obtain ⟨_, rfl, _⟩ := h; rfl) | (obtain ⟨_, _, rfl, _⟩ := h; rfl) | (obtain ⟨_, _, _, rfl, _⟩ := h; rfl) | (obtain ⟨_, _, _, _, rfl, _⟩ := h; rfl) | (obtain ⟨_, _, _, _, _, rfl, _⟩ := h; rfl) | (obtain ⟨_, _, _, _, _, _, rfl, _⟩ := h; rfl) | (obtain ⟨_, _, _, _, _, _, _, rfl, _⟩ := h; rfl) | (obtain ⟨_, _, _, _, _, _, _, _, rfl, _⟩ := h; rfl) | (obtain ⟨_, _, _, _, _, _, _, _, _, rfl, _⟩ := h; rfl) | (obtain ⟨_, _, _, _, _, _, _, _, _, _, rfl, _⟩ := h; rfl) | (obtain ⟨_, _, _, _, _, _, _, _, _, _, _, rfl, _⟩ := h; rfl) | (obtain ⟨_, _, _, _, _, _, _, _, _, _, _, _, rfl, _⟩ := h; rfl)
  · exact pss_cons (ps_if (PW.pt (pw_or (pt_not (pt_val (pe_call (ok_is_number T) (hr.mono (by decide)) (by rfl) T.g_is_number T.F_is_number.kp T.b_is_number .nil pass0 (pa_cons (pv 0) (pa_nil))))) (pw_or1 (pt_cmpR op_lt (pv 0) (pe_int) (nomark _))))) (pss_one (L2N.ps_raise rfl (L2N.takes_of rfl rfl rfl rfl) (L2N.pmk_own PySem.F.excBase_ValueError T.x_BadCount.1 T.g_BadCount T.x_BadCount.2.1 (raises_own T.x_BadCount.2.2.1 T.x_BadCount.2.2.2) (by exact rfl)))) (pss_nil)) (pss_one (ps_if (PW.pt (pw_or (pt_not (pt_val (pe_callB call_isi (by rfl) T.n_isinstance (by decide +kernel) (pa_cons (pv 1) (pa_cons ((pe_bltn (v := .ty "list") (by rfl) T.n_list (by decide +kernel) rfl)) (pa_nil)))))) (pw_or1 (pt_not (pt_val (pe_callB (cr_all rfl) (by rfl) T.n_all (by decide +kernel) (pa_cons (pe_lc (own := [("saying", 2)]) (by rfl) sc_check_sayings.nd (pi_list (pv 1)) (blkOk_by (own := [("saying", 2)]) (N := N_check_sayings) (sc := defScope s_check_sayings) (by decide +kernel)) (fun _ _ _ _ _ => pg_name (i := 2) sc_check_sayings.nd rfl (Or.inl rfl)) (fun _ _ _ _ _ => pts_nil) (fun _ _ _ _ _ => pe_call (ok_is_saying T) (hr.mono (by decide)) (by rfl) T.g_is_saying T.F_is_saying.kp T.b_is_saying .nil pass0 (pa_cons (pv 2) (pa_cons (pv 0) (pa_nil))))) (pa_nil)))))))) (pss_one (L2N.ps_raise rfl (L2N.takes_of rfl rfl rfl rfl) (L2N.pmk_own PySem.F.excBase_ValueError T.x_BadSayings.1 T.g_BadSayings T.x_BadSayings.2.1 (raises_own T.x_BadSayings.2.2.1 T.x_BadSayings.2.2.2) (by exact rfl)))) (pss_nil)))
theorem ok_Broken_init (T : Txt K mg) : FnOk P w K mg base CX0 1 (ma K (ga K "Broken") "__init__") T.fd_Broken_init ["self", "ring"] (sp_Broken_init K) := by
  refine T.F_Broken_init.ok sc_Broken_init (fun vs H Q E h => ?_) (fun cdv A outer s H vs Q E hr h => ⟨t_Broken_init K, PSs.nox ?_, pure_Broken_init T.o_Broken.1 T.xfF h⟩)
  · first | (obtain ⟨_, ⟨_, rfl, _⟩, _⟩ := h; rfl) | (obtain ⟨_, ⟨_, _, rfl, _⟩, _⟩ := h; rfl) | (obtain ⟨_, ⟨_, _, _, rfl, _⟩, _⟩ := h; rfl) | (obtain ⟨_, ⟨_, _, _, _, rfl, _⟩, _⟩ := h; rfl) | (obtain ⟨_, ⟨_, _, _, _, _, rfl, _⟩, _⟩ := h; rfl) | (obtain ⟨_, ⟨_, _, _, _, _, _, rfl, _⟩, _⟩ := h; rfl) | (obtain ⟨_, ⟨_, _, _, _, _, _, _, rfl, _⟩, _⟩ := h; rfl) | (obtain ⟨_, ⟨_, _, _, _, _, _, _, _, rfl, _⟩, _⟩ := h; rfl) | (obtain ⟨_, ⟨_, _, _, _, _, _, _, _, _, rfl, _⟩, _⟩ := h; rfl) | (obtain ⟨_, ⟨_, _, _, _, _, _, _, _, _, _, rfl, _⟩, _⟩ := h; rfl) | (obtain ⟨_, ⟨_, _, _, _, _, _, _, _, _, _, _, rfl, _⟩, _⟩ := h; rfl) | (obtain ⟨_, ⟨_, _, _, _, _, _, _, _, _, _, _, _, rfl, _⟩, _⟩ := h; rfl) | (obtain ⟨_, rfl, _⟩ := h; rfl) | (obtain ⟨_, _, rfl, _⟩ := h; rfl) | (obtain ⟨_, _, _, rfl, _⟩ := h; rfl) | (obtain ⟨_, _, _, _, rfl, _⟩ := h; rfl) | (obtain ⟨_, _, _, _, _, rfl, _⟩ := h; rfl) | (obtain ⟨_, _, _, _, _, _, rfl, _⟩ := h; rfl) | (obtain ⟨_, _, _, _, _, _, _, rfl, _⟩ := h; rfl) | (obtain ⟨_, _, _, _, _, _, _, _, rfl, _⟩ := h; rfl) | (obtain ⟨_, _, _, _, _, _, _, _, _, rfl, _⟩ := h; rfl) | (obtain ⟨_, _, _, _, _, _, _, _, _, _, rfl, _⟩ := h; rfl) | (obtain ⟨_, _, _, _, _, _, _, _, _, _, _, rfl, _⟩ := h; rfl) | (obtain ⟨_, _, _, _, _, _, _, _, _, _, _, _, rfl, _⟩ := h; rfl)
  · exact pss_one (ps_ost (pv 0) (pe_callTy call_list_of (by rfl) T.n_list (by decide +kernel) (pa_cons (pv 1) (pa_nil))))
theorem ok_lessened (T : Txt K mg) : FnOk P w K mg base CX0 1 (ga K "lessened") T.fd_lessened ["sayings", "sums", "last"] (sp_lessened K) := by
  refine T.F_lessened.ok sc_lessened (fun vs H Q E h => ?_) (fun cdv A outer s H vs Q E hr h => ⟨t_lessened K, PSs.nox ?_, pure_lessened h⟩)
  · first | (obtain ⟨_, ⟨_, rfl, _⟩, _⟩ := h; rfl) | (obtain ⟨_, ⟨_, _, rfl, _⟩, _⟩ := h; rfl) | (obtain ⟨_, ⟨_, _, _, rfl, _⟩, _⟩ := h; rfl) | (obtain ⟨_, ⟨_, _, _, _, rfl, _⟩, _⟩ := h; rfl) | (obtain ⟨_, ⟨_, _, _, _, _, rfl, _⟩, _⟩ := h; rfl) | (obtain ⟨_, ⟨_, _, _, _, _, _, rfl, _⟩, _⟩ := h; rfl) | (obtain ⟨_, ⟨_, _, _, _, _, _, _, rfl, _⟩, _⟩ := h; rfl) | (obtain ⟨_, ⟨_, _, _, _, _, _, _, _, rfl, _⟩, _⟩ := h; rfl) | (obtain ⟨_, ⟨_, _, _, _, _, _, _, _, _, rfl, _⟩, _⟩ := h; rfl) | (obtain ⟨_, ⟨_, _, _, _, _, _, _, _, _, _, rfl, _⟩, _⟩ := h; rfl) | (obtain ⟨_, ⟨_, _, _, _, _, _, _, _, _, _, _, rfl, _⟩, _⟩ := h; rfl) | (obtain ⟨_, ⟨_, _, _, _, _, _, _, _, _, _, _, _, rfl, _⟩, _⟩ := h; rfl) | (obtain ⟨_, rfl, _⟩ := h; rfl) | (obtain ⟨_, _, rfl, _⟩ := h; rfl) | (obtain ⟨_, _, _, rfl, _⟩ := h; rfl) | (obtain ⟨_, _, _, _, rfl, _⟩ := h; rfl) | (obtain ⟨_, _, _, _, _, rfl, _⟩ := h; rfl) | (obtain ⟨_, _, _, _, _, _, rfl, _⟩ := h; rfl) | (obtain ⟨_, _, _, _, _, _, _, rfl, _⟩ := h; rfl) | (obtain ⟨_, _, _, _, _, _, _, _, rfl, _⟩ := h; rfl) | (obtain ⟨_, _, _, _, _, _, _, _, _, rfl, _⟩ := h; rfl) | (obtain ⟨_, _, _, _, _, _, _, _, _, _, rfl, _⟩ := h; rfl) | (obtain ⟨_, _, _, _, _, _, _, _, _, _, _, rfl, _⟩ := h; rfl) | (obtain ⟨_, _, _, _, _, _, _, _, _, _, _, _, rfl, _⟩ := h; rfl)
  · exact pss_cons (ps_for PassesOwn.never rfl (pi_range1 (by rfl) T.n_range (pa_cons (pe_op op_add (pe_callB call_len_seq (by rfl) T.n_len (by decide +kernel) (pa_cons (pv 1) (pa_nil))) (pe_int)) (pa_nil))) (pg_name (i := 3) sc_lessened.nd rfl (Or.inl rfl)) (pss_cons (ps_set (i := 4) sc_lessened.nd rfl (Or.inl rfl) (pe_un un_neg (pe_int))) (pss_cons (ps_for PassesOwn.never rfl (pi_enum (by rfl) T.n_enumerate (pa_cons (pv 0) (pa_nil))) (pg_tup (by rfl) (pgs_cons (pg_name (i := 5) sc_lessened.nd rfl (Or.inl rfl)) (pgs_cons (pg_name (i := 6) sc_lessened.nd rfl (Or.inl rfl)) (pgs_nil)))) (pss_cons (ps_asg (pv 6) (pg_tup (by rfl) (pgs_cons (pg_name (i := 7) sc_lessened.nd rfl (Or.inl rfl)) (pgs_cons (pg_name (i := 8) sc_lessened.nd rfl (Or.inl rfl)) (pgs_cons (pg_name (i := 9) sc_lessened.nd rfl (Or.inl rfl)) (pgs_nil)))))) (pss_one (ps_if (PW.pt (pw_and (pt_cmpR op_notN (pe_ix ix_list (pv 1) (pv 7) (fun _ _ => rfl)) (pe_non) (nomark _)) (pw_and1 (PW.pt (pw_or (pt_cmpR op_isN (pe_ix ix_list (pv 1) (pv 8) (fun _ _ => rfl)) (pe_non) (nomark _)) (pw_or1 (pt_cmpR op_gt (pe_ix ix_list (pv 1) (pv 8) (fun _ _ => rfl)) (pe_op op_add (pe_ix ix_list (pv 1) (pv 7) (fun _ _ => rfl)) (pv 9)) (nomark _)))))))) (pss_cons (ps_asg (pe_op op_add (pe_ix ix_list (pv 1) (pv 7) (fun _ _ => rfl)) (pv 9)) (pg_sub (pv 1) (pv 8) set_list)) (pss_cons (ps_asg (pv 5) (pg_sub (pv 2) (pv 8) set_list)) (pss_one (ps_set (i := 4) sc_lessened.nd rfl (Or.inl rfl) (pv 8))))) (pss_nil))))) (pss_one (ps_if (pt_cmpR op_lt (pv 4) (pe_int) (nomark _)) (pss_one (ps_ret (pe_un un_neg (pe_int)))) (pss_nil)))))) (pss_one (ps_ret (pv 4)))
theorem ok_ring_behind (T : Txt K mg) : FnOk P w K mg base CX0 1 (ga K "ring_behind") T.fd_ring_behind ["sayings", "last", "place"] (sp_ring_behind K) := by
  refine T.F_ring_behind.ok sc_ring_behind (fun vs H Q E h => ?_) (fun cdv A outer s H vs Q E hr h => ⟨t_ring_behind K, PSs.nox ?_, pure_ring_behind h⟩)
  · first | (obtain ⟨_, ⟨_, rfl, _⟩, _⟩ := h; rfl) | (obtain ⟨_, ⟨_, _, rfl, _⟩, _⟩ := h; rfl) | (obtain ⟨_, ⟨_, _, _, rfl, _⟩, _⟩ := h; rfl) | (obtain ⟨_, ⟨_, _, _, _, rfl, _⟩, _⟩ := h; rfl) | (obtain ⟨_, ⟨_, _, _, _, _, rfl, _⟩, _⟩ := h; rfl) | (obtain ⟨_, ⟨_, _, _, _, _, _, rfl, _⟩, _⟩ := h; rfl) | (obtain ⟨_, ⟨_, _, _, _, _, _, _, rfl, _⟩, _⟩ := h; rfl) | (obtain ⟨_, ⟨_, _, _, _, _, _, _, _, rfl, _⟩, _⟩ := h; rfl) | (obtain ⟨_, ⟨_, _, _, _, _, _, _, _, _, rfl, _⟩, _⟩ := h; rfl) | (obtain ⟨_, ⟨_, _, _, _, _, _, _, _, _, _, rfl, _⟩, _⟩ := h; rfl) | (obtain ⟨_, ⟨_, _, _, _, _, _, _, _, _, _, _, rfl, _⟩, _⟩ := h; rfl) | (obtain ⟨_, ⟨_, _, _, _, _, _, _, _, _, _, _, _, rfl, _⟩, _⟩ := h; rfl) | (obtain ⟨_, rfl, _⟩ := h; rfl) | (obtain ⟨_, _, rfl, _⟩ := h; rfl) | (obtain ⟨_, _, _, rfl, _⟩ := h; rfl) | (obtain ⟨_, _, _, _, rfl, _⟩ := h; rfl) | (obtain ⟨_, _, _, _, _, rfl, _⟩ := h; rfl) | (obtain ⟨_, _, _, _, _, _, rfl, _⟩ := h; rfl) | (obtain ⟨_, _, _, _, _, _, _, rfl, _⟩ := h; rfl) | (obtain ⟨_, _, _, _, _, _, _, _, rfl, _⟩ := h; rfl) | (obtain ⟨_, _, _, _, _, _, _, _, _, rfl, _⟩ := h; rfl) | (obtain ⟨_, _, _, _, _, _, _, _, _, _, rfl, _⟩ := h; rfl) | (obtain ⟨_, _, _, _, _, _, _, _, _, _, _, rfl, _⟩ := h; rfl) | (obtain ⟨_, _, _, _, _, _, _, _, _, _, _, _, rfl, _⟩ := h; rfl)
  · exact pss_cons (ps_for PassesOwn.never rfl (pi_range1 (by rfl) T.n_range (pa_cons (pe_callB call_len_seq (by rfl) T.n_len (by decide +kernel) (pa_cons (pv 1) (pa_nil))) (pa_nil))) (pg_name (i := 3) sc_ring_behind.nd rfl (Or.inl rfl)) (pss_one (ps_set (i := 2) sc_ring_behind.nd rfl (Or.inl rfl) (pe_ix ix_tup (pe_ix ix_list (pv 0) (pe_ix ix_list (pv 1) (pv 2) (fun _ _ => rfl)) (fun _ _ => rfl)) (pe_int) (fun _ _ => rfl))))) (pss_cons (ps_set (i := 4) sc_ring_behind.nd rfl (Or.inl rfl) (pe_lst (pa_cons (pe_ix ix_list (pv 1) (pv 2) (fun _ _ => rfl)) (pa_nil)))) (pss_cons (ps_set (i := 5) sc_ring_behind.nd rfl (Or.inl rfl) (pe_ix ix_tup (pe_ix ix_list (pv 0) (pe_ix ix_list (pv 1) (pv 2) (fun _ _ => rfl)) (fun _ _ => rfl)) (pe_int) (fun _ _ => rfl))) (pss_cons (ps_while PassesOwn.never (pt_cmpR op_ne (pv 5) (pv 2) (nomark _)) (pss_cons (ps_expr (pe_bm PySem.F.plainAttrs_list PySem.F.slot_list_append PySem.F.type_list_append mt_append (pv 4) (pa_cons (pe_ix ix_list (pv 1) (pv 5) (fun _ _ => rfl)) (pa_nil)))) (pss_one (ps_set (i := 5) sc_ring_behind.nd rfl (Or.inl rfl) (pe_ix ix_tup (pe_ix ix_list (pv 0) (pe_ix ix_list (pv 1) (pv 5) (fun _ _ => rfl)) (fun _ _ => rfl)) (pe_int) (fun _ _ => rfl)))))) (pss_one (ps_ret (pe_revL (pv 4)))))))
theorem ok_from_all (T : Txt K mg) : FnOk P w K mg base CX0 2 (ga K "from_all") T.fd_from_all ["count", "sayings"] (sp_from_all K) := by
  refine T.F_from_all.ok sc_from_all (fun vs H Q E h => ?_) (fun cdv A outer s H vs Q E hr h => ⟨t_from_all K, PSs.nox ?_, pure_from_all h⟩)
  · first | (obtain ⟨_, ⟨_, rfl, _⟩, _⟩ := h; rfl) | (obtain ⟨_, ⟨_, _, rfl, _⟩, _⟩ := h; rfl) | (obtain ⟨_, ⟨_, _, _, rfl, _⟩, _⟩ := h; rfl) | (obtain ⟨_, ⟨_, _, _, _, rfl, _⟩, _⟩ := h; rfl) | (obtain ⟨_, ⟨_, _, _, _, _, rfl, _⟩, _⟩ := h; rfl) | (obtain ⟨_, ⟨_, _, _, _, _, _, rfl, _⟩, _⟩ := h; rfl) | (obtain ⟨_, ⟨_, _, _, _, _, _, _, rfl, _⟩, _⟩ := h; rfl) | (obtain ⟨_, ⟨_, _, _, _, _, _, _, _, rfl, _⟩, _⟩ := h; rfl) | (obtain ⟨_, ⟨_, _, _, _, _, _, _, _, _, rfl, _⟩, _⟩ := h; rfl) | (obtain ⟨_, ⟨_, _, _, _, _, _, _, _, _, _, rfl, _⟩, _⟩ := h; rfl) | (obtain ⟨_, ⟨_, _, _, _, _, _, _, _, _, _, _, rfl, _⟩, _⟩ := h; rfl) | (obtain ⟨_, ⟨_, _, _, _, _, _, _, _, _, _, _, _, rfl, _⟩, _⟩ := h; rfl) | (obtain ⟨_, rfl, _⟩ := h; rfl) | (obtain ⟨_, _, rfl, _⟩ := h; rfl) | (obtain ⟨_, _, _, rfl, _⟩ := h; rfl) | (obtain ⟨_, _, _, _, rfl, _⟩ := h; rfl) | (obtain ⟨_, _, _, _, _, rfl, _⟩ := h; rfl) | (obtain ⟨_, _, _, _, _, _, rfl, _⟩ := h; rfl) | (obtain ⟨_, _, _, _, _, _, _, rfl, _⟩ := h; rfl) | (obtain ⟨_, _, _, _, _, _, _, _, rfl, _⟩ := h; rfl) | (obtain ⟨_, _, _, _, _, _, _, _, _, rfl, _⟩ := h; rfl) | (obtain ⟨_, _, _, _, _, _, _, _, _, _, rfl, _⟩ := h; rfl) | (obtain ⟨_, _, _, _, _, _, _, _, _, _, _, rfl, _⟩ := h; rfl) | (obtain ⟨_, _, _, _, _, _, _, _, _, _, _, _, rfl, _⟩ := h; rfl)
  · exact pss_cons (ps_setLc (i := 2) (own := [("place", 4)]) (by rfl) sc_from_all.nd rfl rfl (sw_true rfl rfl rfl (by decide +kernel)) (pi_range1 (by rfl) T.n_range (pa_cons (pv 0) (pa_nil))) (blkOk_by (own := [("place", 4)]) (N := N_from_all) (sc := defScope s_from_all) (by decide +kernel)) (fun _ _ _ _ _ => pg_name (i := 4) sc_from_all.nd rfl (Or.inl rfl)) (fun _ _ _ _ _ => pts_nil) (fun _ _ _ _ _ => pe_int)) (pss_cons (ps_setLc (i := 3) (own := [("place", 4)]) (by rfl) sc_from_all.nd rfl rfl (sw_true rfl rfl rfl (by decide +kernel)) (pi_range1 (by rfl) T.n_range (pa_cons (pv 0) (pa_nil))) (blkOk_by (own := [("place", 4)]) (N := N_from_all) (sc := defScope s_from_all) (by decide +kernel)) (fun _ _ _ _ _ => pg_name (i := 4) sc_from_all.nd rfl (Or.inl rfl)) (fun _ _ _ _ _ => pts_nil) (fun _ _ _ _ _ => pe_un un_neg (pe_int))) (pss_cons (ps_set (i := 4) sc_from_all.nd rfl (Or.inl rfl) (pe_call (ok_lessened T) (hr.mono (by decide)) (by rfl) T.g_lessened T.F_lessened.kp T.b_lessened .nil pass0 (pa_cons (pv 1) (pa_cons (pv 2) (pa_cons (pv 3) (pa_nil)))))) (pss_cons (ps_if (pt_cmpR op_lt (pv 4) (pe_int) (nomark _)) (pss_one (ps_ret (pe_tup (pa_cons (pv 2) (pa_cons (pe_lst (pa_nil)) (pa_nil)))))) (pss_nil)) (pss_one (ps_ret (pe_tup (pa_cons (pv 2) (pa_cons (pe_call (ok_ring_behind T) (hr.mono (by decide)) (by rfl) T.g_ring_behind T.F_ring_behind.kp T.b_ring_behind .nil pass0 (pa_cons (pv 1) (pa_cons (pv 3) (pa_cons (pv 4) (pa_nil))))) (pa_nil)))))))))
theorem ok_settled (T : Txt K mg) : FnOk P w K mg base (L2N.CX P w) 3 (ga K "settled") T.fd_settled ["count", "sayings"] (sp_settled K) := by
  refine T.F_settled.ok sc_settled (fun vs H Q E h => ?_) (fun cdv A outer s H vs Q E hr h => ⟨t_settled K E, ?_, pure_settled h⟩)
  · first | (obtain ⟨_, ⟨_, rfl, _⟩, _⟩ := h; rfl) | (obtain ⟨_, ⟨_, _, rfl, _⟩, _⟩ := h; rfl) | (obtain ⟨_, ⟨_, _, _, rfl, _⟩, _⟩ := h; rfl) | (obtain ⟨_, ⟨_, _, _, _, rfl, _⟩, _⟩ := h; rfl) | (obtain ⟨_, ⟨_, _, _, _, _, rfl, _⟩, _⟩ := h; rfl) | (obtain ⟨_, ⟨_, _, _, _, _, _, rfl, _⟩, _⟩ := h; rfl) | (obtain ⟨_, ⟨_, _, _, _, _, _, _, rfl, _⟩, _⟩ := h; rfl) | (obtain ⟨_, ⟨_, _, _, _, _, _, _, _, rfl, _⟩, _⟩ := h; rfl) | (obtain ⟨_, ⟨_, _, _, _, _, _, _, _, _, rfl, _⟩, _⟩ := h; rfl) | (obtain ⟨_, ⟨_, _, _, _, _, _, _, _, _, _, rfl, _⟩, _⟩ := h; rfl) | (obtain ⟨_, ⟨_, _, _, _, _, _, _, _, _, _, _, rfl, _⟩, _⟩ := h; rfl) | (obtain ⟨_, ⟨_, _, _, _, _, _, _, _, _, _, _, _, rfl, _⟩, _⟩ := h; rfl) | (obtain ⟨_, rfl, _⟩ := h; rfl) | (obtain ⟨_, _, rfl, _⟩ := h; rfl) | (obtain ⟨_, _, _, rfl, _⟩ := h; rfl) | (obtain ⟨_, _, _, _, rfl, _⟩ := h; rfl) | (obtain ⟨_, _, _, _, _, rfl, _⟩ := h; rfl) | (obtain ⟨_, _, _, _, _, _, rfl, _⟩ := h; rfl) | (obtain ⟨_, _, _, _, _, _, _, rfl, _⟩ := h; rfl) | (obtain ⟨_, _, _, _, _, _, _, _, rfl, _⟩ := h; rfl) | (obtain ⟨_, _, _, _, _, _, _, _, _, rfl, _⟩ := h; rfl) | (obtain ⟨_, _, _, _, _, _, _, _, _, _, rfl, _⟩ := h; rfl) | (obtain ⟨_, _, _, _, _, _, _, _, _, _, _, rfl, _⟩ := h; rfl) | (obtain ⟨_, _, _, _, _, _, _, _, _, _, _, _, rfl, _⟩ := h; rfl)
  · exact pss_cons (ps_asg (pe_call (ok_from_all T) (hr.mono (by decide)) (by rfl) T.g_from_all T.F_from_all.kp T.b_from_all .nil pass0 (pa_cons (pv 0) (pa_cons (pv 1) (pa_nil)))) (pg_tup (by rfl) (pgs_cons (pg_name (i := 2) sc_settled.nd rfl (Or.inl rfl)) (pgs_cons (pg_name (i := 3) sc_settled.nd rfl (Or.inl rfl)) (pgs_nil))))) (pss_cons (ps_if (pt_cmpR (op_neD hr.units) (pv 3) (pe_lst (pa_nil)) (nomark _)) (pss_one (L2N.ps_raise rfl (L2N.takes_of rfl rfl rfl rfl) (pmk_oexN T.o_Broken.1 T.o_Broken.2.1 T.o_Broken.2.2 (ok_Broken_init T) (hr.mono (by decide)) T.b_Broken_init pass0 (by rfl) T.g_Broken (pa_cons (pv 3) (pa_nil))))) (pss_nil)) (pss_one (ps_ret (pv 2))))
theorem ok_fixed (T : Txt K mg) : FnOk P w K mg base (L2N.CX P w) 5 (ga K "fixed") T.fd_fixed ["count", "sayings", "one", "other"] (sp_fixed K) := by
  refine T.F_fixed.ok sc_fixed (fun vs H Q E h => ?_) (fun cdv A outer s H vs Q E hr h => ⟨t_fixed K E, ?_, pure_fixed h⟩)
  · first | (obtain ⟨_, ⟨_, rfl, _⟩, _⟩ := h; rfl) | (obtain ⟨_, ⟨_, _, rfl, _⟩, _⟩ := h; rfl) | (obtain ⟨_, ⟨_, _, _, rfl, _⟩, _⟩ := h; rfl) | (obtain ⟨_, ⟨_, _, _, _, rfl, _⟩, _⟩ := h; rfl) | (obtain ⟨_, ⟨_, _, _, _, _, rfl, _⟩, _⟩ := h; rfl) | (obtain ⟨_, ⟨_, _, _, _, _, _, rfl, _⟩, _⟩ := h; rfl) | (obtain ⟨_, ⟨_, _, _, _, _, _, _, rfl, _⟩, _⟩ := h; rfl) | (obtain ⟨_, ⟨_, _, _, _, _, _, _, _, rfl, _⟩, _⟩ := h; rfl) | (obtain ⟨_, ⟨_, _, _, _, _, _, _, _, _, rfl, _⟩, _⟩ := h; rfl) | (obtain ⟨_, ⟨_, _, _, _, _, _, _, _, _, _, rfl, _⟩, _⟩ := h; rfl) | (obtain ⟨_, ⟨_, _, _, _, _, _, _, _, _, _, _, rfl, _⟩, _⟩ := h; rfl) | (obtain ⟨_, ⟨_, _, _, _, _, _, _, _, _, _, _, _, rfl, _⟩, _⟩ := h; rfl) | (obtain ⟨_, rfl, _⟩ := h; rfl) | (obtain ⟨_, _, rfl, _⟩ := h; rfl) | (obtain ⟨_, _, _, rfl, _⟩ := h; rfl) | (obtain ⟨_, _, _, _, rfl, _⟩ := h; rfl) | (obtain ⟨_, _, _, _, _, rfl, _⟩ := h; rfl) | (obtain ⟨_, _, _, _, _, _, rfl, _⟩ := h; rfl) | (obtain ⟨_, _, _, _, _, _, _, rfl, _⟩ := h; rfl) | (obtain ⟨_, _, _, _, _, _, _, _, rfl, _⟩ := h; rfl) | (obtain ⟨_, _, _, _, _, _, _, _, _, rfl, _⟩ := h; rfl) | (obtain ⟨_, _, _, _, _, _, _, _, _, _, rfl, _⟩ := h; rfl) | (obtain ⟨_, _, _, _, _, _, _, _, _, _, _, rfl, _⟩ := h; rfl) | (obtain ⟨_, _, _, _, _, _, _, _, _, _, _, _, rfl, _⟩ := h; rfl)
  · exact pss_cons (ps_expr (pe_call (ok_check_sayings T) (hr.mono (by decide)) (by rfl) T.g_check_sayings T.F_check_sayings.kp T.b_check_sayings .nil (L2N.passes_call (L2N.takes_of rfl rfl rfl rfl) (fun _ _ _ _ h => h)) (pa_cons (pv 0) (pa_cons (pv 1) (pa_nil))))) (pss_cons (ps_expr (pe_call (ok_check_places T) (hr.mono (by decide)) (by rfl) T.g_check_places T.F_check_places.kp T.b_check_places .nil (L2N.passes_call (L2N.takes_of rfl rfl rfl rfl) (fun _ _ _ _ h => h)) (pa_cons (pv 0) (pa_cons (pv 2) (pa_cons (pv 3) (pa_nil)))))) (pss_cons (ps_set (i := 4) sc_fixed.nd rfl (Or.inl rfl) (pe_call (ok_settled T) (hr.mono (by decide)) (by rfl) T.g_settled T.F_settled.kp T.b_settled .nil (L2N.passes_call (L2N.takes_of rfl rfl rfl rfl) (fun _ _ _ _ h => h)) (pa_cons (pv 0) (pa_cons (pv 1) (pa_nil))))) (pss_dead)))
theorem ok_follows (T : Txt K mg) : FnOk P w K mg base (L2N.CX P w) 5 (ga K "follows") T.fd_follows ["count", "sayings", "one", "other"] (sp_follows K) := by
  refine T.F_follows.ok sc_follows (fun vs H Q E h => ?_) (fun cdv A outer s H vs Q E hr h => ⟨t_follows K E, ?_, pure_follows h⟩)
  · first | (obtain ⟨_, ⟨_, rfl, _⟩, _⟩ := h; rfl) | (obtain ⟨_, ⟨_, _, rfl, _⟩, _⟩ := h; rfl) | (obtain ⟨_, ⟨_, _, _, rfl, _⟩, _⟩ := h; rfl) | (obtain ⟨_, ⟨_, _, _, _, rfl, _⟩, _⟩ := h; rfl) | (obtain ⟨_, ⟨_, _, _, _, _, rfl, _⟩, _⟩ := h; rfl) | (obtain ⟨_, ⟨_, _, _, _, _, _, rfl, _⟩, _⟩ := h; rfl) | (obtain ⟨_, ⟨_, _, _, _, _, _, _, rfl, _⟩, _⟩ := h; rfl) | (obtain ⟨_, ⟨_, _, _, _, _, _, _, _, rfl, _⟩, _⟩ := h; rfl) | (obtain ⟨_, ⟨_, _, _, _, _, _, _, _, _, rfl, _⟩, _⟩ := h; rfl) | (obtain ⟨_, ⟨_, _, _, _, _, _, _, _, _, _, rfl, _⟩, _⟩ := h; rfl) | (obtain ⟨_, ⟨_, _, _, _, _, _, _, _, _, _, _, rfl, _⟩, _⟩ := h; rfl) | (obtain ⟨_, ⟨_, _, _, _, _, _, _, _, _, _, _, _, rfl, _⟩, _⟩ := h; rfl) | (obtain ⟨_, rfl, _⟩ := h; rfl) | (obtain ⟨_, _, rfl, _⟩ := h; rfl) | (obtain ⟨_, _, _, rfl, _⟩ := h; rfl) | (obtain ⟨_, _, _, _, rfl, _⟩ := h; rfl) | (obtain ⟨_, _, _, _, _, rfl, _⟩ := h; rfl) | (obtain ⟨_, _, _, _, _, _, rfl, _⟩ := h; rfl) | (obtain ⟨_, _, _, _, _, _, _, rfl, _⟩ := h; rfl) | (obtain ⟨_, _, _, _, _, _, _, _, rfl, _⟩ := h; rfl) | (obtain ⟨_, _, _, _, _, _, _, _, _, rfl, _⟩ := h; rfl) | (obtain ⟨_, _, _, _, _, _, _, _, _, _, rfl, _⟩ := h; rfl) | (obtain ⟨_, _, _, _, _, _, _, _, _, _, _, rfl, _⟩ := h; rfl) | (obtain ⟨_, _, _, _, _, _, _, _, _, _, _, _, rfl, _⟩ := h; rfl)
  · exact pss_cons (ps_expr (pe_call (ok_check_sayings T) (hr.mono (by decide)) (by rfl) T.g_check_sayings T.F_check_sayings.kp T.b_check_sayings .nil (L2N.passes_call (L2N.takes_of rfl rfl rfl rfl) (fun _ _ _ _ h => h)) (pa_cons (pv 0) (pa_cons (pv 1) (pa_nil))))) (pss_cons (ps_expr (pe_call (ok_check_places T) (hr.mono (by decide)) (by rfl) T.g_check_places T.F_check_places.kp T.b_check_places .nil (L2N.passes_call (L2N.takes_of rfl rfl rfl rfl) (fun _ _ _ _ h => h)) (pa_cons (pv 0) (pa_cons (pv 2) (pa_cons (pv 3) (pa_nil)))))) (pss_cons (ps_expr (pe_call (ok_settled T) (hr.mono (by decide)) (by rfl) T.g_settled T.F_settled.kp T.b_settled .nil (L2N.passes_call (L2N.takes_of rfl rfl rfl rfl) (fun _ _ _ _ h => h)) (pa_cons (pv 0) (pa_cons (pv 1) (pa_nil))))) (pss_dead)))
theorem ok_heights (T : Txt K mg) : FnOk P w K mg base (L2N.CX P w) 5 (ga K "heights") T.fd_heights ["count", "sayings"] (sp_heights K) := by
  refine T.F_heights.ok sc_heights (fun vs H Q E h => ?_) (fun cdv A outer s H vs Q E hr h => ⟨t_heights K E, ?_, pure_heights h⟩)
  · first | (obtain ⟨_, ⟨_, rfl, _⟩, _⟩ := h; rfl) | (obtain ⟨_, ⟨_, _, rfl, _⟩, _⟩ := h; rfl) | (obtain ⟨_, ⟨_, _, _, rfl, _⟩, _⟩ := h; rfl) | (obtain ⟨_, ⟨_, _, _, _, rfl, _⟩, _⟩ := h; rfl) | (obtain ⟨_, ⟨_, _, _, _, _, rfl, _⟩, _⟩ := h; rfl) | (obtain ⟨_, ⟨_, _, _, _, _, _, rfl, _⟩, _⟩ := h; rfl) | (obtain ⟨_, ⟨_, _, _, _, _, _, _, rfl, _⟩, _⟩ := h; rfl) | (obtain ⟨_, ⟨_, _, _, _, _, _, _, _, rfl, _⟩, _⟩ := h; rfl) | (obtain ⟨_, ⟨_, _, _, _, _, _, _, _, _, rfl, _⟩, _⟩ := h; rfl) | (obtain ⟨_, ⟨_, _, _, _, _, _, _, _, _, _, rfl, _⟩, _⟩ := h; rfl) | (obtain ⟨_, ⟨_, _, _, _, _, _, _, _, _, _, _, rfl, _⟩, _⟩ := h; rfl) | (obtain ⟨_, ⟨_, _, _, _, _, _, _, _, _, _, _, _, rfl, _⟩, _⟩ := h; rfl) | (obtain ⟨_, rfl, _⟩ := h; rfl) | (obtain ⟨_, _, rfl, _⟩ := h; rfl) | (obtain ⟨_, _, _, rfl, _⟩ := h; rfl) | (obtain ⟨_, _, _, _, rfl, _⟩ := h; rfl) | (obtain ⟨_, _, _, _, _, rfl, _⟩ := h; rfl) | (obtain ⟨_, _, _, _, _, _, rfl, _⟩ := h; rfl) | (obtain ⟨_, _, _, _, _, _, _, rfl, _⟩ := h; rfl) | (obtain ⟨_, _, _, _, _, _, _, _, rfl, _⟩ := h; rfl) | (obtain ⟨_, _, _, _, _, _, _, _, _, rfl, _⟩ := h; rfl) | (obtain ⟨_, _, _, _, _, _, _, _, _, _, rfl, _⟩ := h; rfl) | (obtain ⟨_, _, _, _, _, _, _, _, _, _, _, rfl, _⟩ := h; rfl) | (obtain ⟨_, _, _, _, _, _, _, _, _, _, _, _, rfl, _⟩ := h; rfl)
  · exact pss_cons (ps_expr (pe_call (ok_check_sayings T) (hr.mono (by decide)) (by rfl) T.g_check_sayings T.F_check_sayings.kp T.b_check_sayings .nil (L2N.passes_call (L2N.takes_of rfl rfl rfl rfl) (fun _ _ _ _ h => h)) (pa_cons (pv 0) (pa_cons (pv 1) (pa_nil))))) (pss_dead)
theorem ok_highest (T : Txt K mg) : FnOk P w K mg base (L2N.CX P w) 5 (ga K "highest") T.fd_highest ["count", "sayings", "top"] (sp_highest K) := by
  refine T.F_highest.ok sc_highest (fun vs H Q E h => ?_) (fun cdv A outer s H vs Q E hr h => ⟨t_highest K E, ?_, pure_highest h⟩)
  · first | (obtain ⟨_, ⟨_, rfl, _⟩, _⟩ := h; rfl) | (obtain ⟨_, ⟨_, _, rfl, _⟩, _⟩ := h; rfl) | (obtain ⟨_, ⟨_, _, _, rfl, _⟩, _⟩ := h; rfl) | (obtain ⟨_, ⟨_, _, _, _, rfl, _⟩, _⟩ := h; rfl) | (obtain ⟨_, ⟨_, _, _, _, _, rfl, _⟩, _⟩ := h; rfl) | (obtain ⟨_, ⟨_, _, _, _, _, _, rfl, _⟩, _⟩ := h; rfl) | (obtain ⟨_, ⟨_, _, _, _, _, _, _, rfl, _⟩, _⟩ := h; rfl) | (obtain ⟨_, ⟨_, _, _, _, _, _, _, _, rfl, _⟩, _⟩ := h; rfl) | (obtain ⟨_, ⟨_, _, _, _, _, _, _, _, _, rfl, _⟩, _⟩ := h; rfl) | (obtain ⟨_, ⟨_, _, _, _, _, _, _, _, _, _, rfl, _⟩, _⟩ := h; rfl) | (obtain ⟨_, ⟨_, _, _, _, _, _, _, _, _, _, _, rfl, _⟩, _⟩ := h; rfl) | (obtain ⟨_, ⟨_, _, _, _, _, _, _, _, _, _, _, _, rfl, _⟩, _⟩ := h; rfl) | (obtain ⟨_, rfl, _⟩ := h; rfl) | (obtain ⟨_, _, rfl, _⟩ := h; rfl) | (obtain ⟨_, _, _, rfl, _⟩ := h; rfl) | (obtain ⟨_, _, _, _, rfl, _⟩ := h; rfl) | (obtain ⟨_, _, _, _, _, rfl, _⟩ := h; rfl) | (obtain ⟨_, _, _, _, _, _, rfl, _⟩ := h; rfl) | (obtain ⟨_, _, _, _, _, _, _, rfl, _⟩ := h; rfl) | (obtain ⟨_, _, _, _, _, _, _, _, rfl, _⟩ := h; rfl) | (obtain ⟨_, _, _, _, _, _, _, _, _, rfl, _⟩ := h; rfl) | (obtain ⟨_, _, _, _, _, _, _, _, _, _, rfl, _⟩ := h; rfl) | (obtain ⟨_, _, _, _, _, _, _, _, _, _, _, rfl, _⟩ := h; rfl) | (obtain ⟨_, _, _, _, _, _, _, _, _, _, _, _, rfl, _⟩ := h; rfl)
  · exact pss_cons (ps_expr (pe_call (ok_check_sayings T) (hr.mono (by decide)) (by rfl) T.g_check_sayings T.F_check_sayings.kp T.b_check_sayings .nil (L2N.passes_call (L2N.takes_of rfl rfl rfl rfl) (fun _ _ _ _ h => h)) (pa_cons (pv 0) (pa_cons (pv 1) (pa_nil))))) (pss_cons (ps_if (pt_not (pt_val (pe_call (ok_is_number T) (hr.mono (by decide)) (by rfl) T.g_is_number T.F_is_number.kp T.b_is_number .nil pass0 (pa_cons (pv 2) (pa_nil))))) (pss_one (L2N.ps_raise rfl (L2N.takes_of rfl rfl rfl rfl) (L2N.pmk_own PySem.F.excBase_ValueError T.x_BadNumber.1 T.g_BadNumber T.x_BadNumber.2.1 (raises_own T.x_BadNumber.2.2.1 T.x_BadNumber.2.2.2) (by exact rfl)))) (pss_nil)) (pss_one (ps_ret (pe_lc (own := [("height", 3)]) (by rfl) sc_highest.nd (pi_list (pe_call (ok_settled T) (hr.mono (by decide)) (by rfl) T.g_settled T.F_settled.kp T.b_settled .nil (L2N.passes_call (L2N.takes_of rfl rfl rfl rfl) (fun _ _ _ _ h => h)) (pa_cons (pv 0) (pa_cons (pv 1) (pa_nil))))) (blkOk_by (own := [("height", 3)]) (N := N_highest) (sc := defScope s_highest) (by decide +kernel)) (fun _ _ _ _ _ => pg_name (i := 3) sc_highest.nd rfl (Or.inl rfl)) (fun _ _ _ _ _ => pts_nil) (fun _ _ _ _ _ => pe_op op_add (pv 2) (pv 3))))))
theorem ok_keep (T : Txt K mg) : FnOk P w K mg base CX0 1 (ga K "keep") T.fd_keep ["saying", "heights"] (sp_keep K) := by
  refine T.F_keep.ok sc_keep (fun vs H Q E h => ?_) (fun cdv A outer s H vs Q E hr h => ⟨t_keep K, PSs.nox ?_, pure_keep h⟩)
  · first | (obtain ⟨_, ⟨_, rfl, _⟩, _⟩ := h; rfl) | (obtain ⟨_, ⟨_, _, rfl, _⟩, _⟩ := h; rfl) | (obtain ⟨_, ⟨_, _, _, rfl, _⟩, _⟩ := h; rfl) | (obtain ⟨_, ⟨_, _, _, _, rfl, _⟩, _⟩ := h; rfl) | (obtain ⟨_, ⟨_, _, _, _, _, rfl, _⟩, _⟩ := h; rfl) | (obtain ⟨_, ⟨_, _, _, _, _, _, rfl, _⟩, _⟩ := h; rfl) | (obtain ⟨_, ⟨_, _, _, _, _, _, _, rfl, _⟩, _⟩ := h; rfl) | (obtain ⟨_, ⟨_, _, _, _, _, _, _, _, rfl, _⟩, _⟩ := h; rfl) | (obtain ⟨_, ⟨_, _, _, _, _, _, _, _, _, rfl, _⟩, _⟩ := h; rfl) | (obtain ⟨_, ⟨_, _, _, _, _, _, _, _, _, _, rfl, _⟩, _⟩ := h; rfl) | (obtain ⟨_, ⟨_, _, _, _, _, _, _, _, _, _, _, rfl, _⟩, _⟩ := h; rfl) | (obtain ⟨_, ⟨_, _, _, _, _, _, _, _, _, _, _, _, rfl, _⟩, _⟩ := h; rfl) | (obtain ⟨_, rfl, _⟩ := h; rfl) | (obtain ⟨_, _, rfl, _⟩ := h; rfl) | (obtain ⟨_, _, _, rfl, _⟩ := h; rfl) | (obtain ⟨_, _, _, _, rfl, _⟩ := h; rfl) | (obtain ⟨_, _, _, _, _, rfl, _⟩ := h; rfl) | (obtain ⟨_, _, _, _, _, _, rfl, _⟩ := h; rfl) | (obtain ⟨_, _, _, _, _, _, _, rfl, _⟩ := h; rfl) | (obtain ⟨_, _, _, _, _, _, _, _, rfl, _⟩ := h; rfl) | (obtain ⟨_, _, _, _, _, _, _, _, _, rfl, _⟩ := h; rfl) | (obtain ⟨_, _, _, _, _, _, _, _, _, _, rfl, _⟩ := h; rfl) | (obtain ⟨_, _, _, _, _, _, _, _, _, _, _, rfl, _⟩ := h; rfl) | (obtain ⟨_, _, _, _, _, _, _, _, _, _, _, _, rfl, _⟩ := h; rfl)
  · exact pss_one (ps_ret (pe_cmpR op_le (pe_op op_sub (pe_ix ix_list (pv 1) (pe_ix ix_tup (pv 0) (pe_int) (fun _ _ => rfl)) (fun _ _ => rfl)) (pe_ix ix_list (pv 1) (pe_ix ix_tup (pv 0) (pe_int) (fun _ _ => rfl)) (fun _ _ => rfl))) (pe_ix ix_tup (pv 0) (pe_int) (fun _ _ => rfl)) (nomark _)))
theorem ok_keep_all (T : Txt K mg) : FnOk P w K mg base CX0 2 (ga K "keep_all") T.fd_keep_all ["count", "sayings", "heights"] (sp_keep_all K) := by
  refine T.F_keep_all.ok sc_keep_all (fun vs H Q E h => ?_) (fun cdv A outer s H vs Q E hr h => ⟨t_keep_all K, PSs.nox ?_, pure_keep_all h⟩)
  · first | (obtain ⟨_, ⟨_, rfl, _⟩, _⟩ := h; rfl) | (obtain ⟨_, ⟨_, _, rfl, _⟩, _⟩ := h; rfl) | (obtain ⟨_, ⟨_, _, _, rfl, _⟩, _⟩ := h; rfl) | (obtain ⟨_, ⟨_, _, _, _, rfl, _⟩, _⟩ := h; rfl) | (obtain ⟨_, ⟨_, _, _, _, _, rfl, _⟩, _⟩ := h; rfl) | (obtain ⟨_, ⟨_, _, _, _, _, _, rfl, _⟩, _⟩ := h; rfl) | (obtain ⟨_, ⟨_, _, _, _, _, _, _, rfl, _⟩, _⟩ := h; rfl) | (obtain ⟨_, ⟨_, _, _, _, _, _, _, _, rfl, _⟩, _⟩ := h; rfl) | (obtain ⟨_, ⟨_, _, _, _, _, _, _, _, _, rfl, _⟩, _⟩ := h; rfl) | (obtain ⟨_, ⟨_, _, _, _, _, _, _, _, _, _, rfl, _⟩, _⟩ := h; rfl) | (obtain ⟨_, ⟨_, _, _, _, _, _, _, _, _, _, _, rfl, _⟩, _⟩ := h; rfl) | (obtain ⟨_, ⟨_, _, _, _, _, _, _, _, _, _, _, _, rfl, _⟩, _⟩ := h; rfl) | (obtain ⟨_, rfl, _⟩ := h; rfl) | (obtain ⟨_, _, rfl, _⟩ := h; rfl) | (obtain ⟨_, _, _, rfl, _⟩ := h; rfl) | (obtain ⟨_, _, _, _, rfl, _⟩ := h; rfl) | (obtain ⟨_, _, _, _, _, rfl, _⟩ := h; rfl) | (obtain ⟨_, _, _, _, _, _, rfl, _⟩ := h; rfl) | (obtain ⟨_, _, _, _, _, _, _, rfl, _⟩ := h; rfl) | (obtain ⟨_, _, _, _, _, _, _, _, rfl, _⟩ := h; rfl) | (obtain ⟨_, _, _, _, _, _, _, _, _, rfl, _⟩ := h; rfl) | (obtain ⟨_, _, _, _, _, _, _, _, _, _, rfl, _⟩ := h; rfl) | (obtain ⟨_, _, _, _, _, _, _, _, _, _, _, rfl, _⟩ := h; rfl) | (obtain ⟨_, _, _, _, _, _, _, _, _, _, _, _, rfl, _⟩ := h; rfl)
  · exact pss_one (ps_ret (pe_and (pe_cmpR op_eq (pe_callB call_len_seq (by rfl) T.n_len (by decide +kernel) (pa_cons (pv 2) (pa_nil))) (pv 0) (nomark _)) (pe_one (pe_callB (cr_all rfl) (by rfl) T.n_all (by decide +kernel) (pa_cons (pe_lc (own := [("saying", 3)]) (by rfl) sc_keep_all.nd (pi_list (pv 1)) (blkOk_by (own := [("saying", 3)]) (N := N_keep_all) (sc := defScope s_keep_all) (by decide +kernel)) (fun _ _ _ _ _ => pg_name (i := 3) sc_keep_all.nd rfl (Or.inl rfl)) (fun _ _ _ _ _ => pts_nil) (fun _ _ _ _ _ => pe_call (ok_keep T) (hr.mono (by decide)) (by rfl) T.g_keep T.F_keep.kp T.b_keep .nil pass0 (pa_cons (pv 3) (pa_cons (pv 2) (pa_nil))))) (pa_nil))))))
theorem ok_kept (T : Txt K mg) : FnOk P w K mg base (L2N.CX P w) 5 (ga K "kept") T.fd_kept ["count", "sayings", "heights"] (sp_kept K) := by
  refine T.F_kept.ok sc_kept (fun vs H Q E h => ?_) (fun cdv A outer s H vs Q E hr h => ⟨t_kept K E, ?_, pure_kept h⟩)
  · first | (obtain ⟨_, ⟨_, rfl, _⟩, _⟩ := h; rfl) | (obtain ⟨_, ⟨_, _, rfl, _⟩, _⟩ := h; rfl) | (obtain ⟨_, ⟨_, _, _, rfl, _⟩, _⟩ := h; rfl) | (obtain ⟨_, ⟨_, _, _, _, rfl, _⟩, _⟩ := h; rfl) | (obtain ⟨_, ⟨_, _, _, _, _, rfl, _⟩, _⟩ := h; rfl) | (obtain ⟨_, ⟨_, _, _, _, _, _, rfl, _⟩, _⟩ := h; rfl) | (obtain ⟨_, ⟨_, _, _, _, _, _, _, rfl, _⟩, _⟩ := h; rfl) | (obtain ⟨_, ⟨_, _, _, _, _, _, _, _, rfl, _⟩, _⟩ := h; rfl) | (obtain ⟨_, ⟨_, _, _, _, _, _, _, _, _, rfl, _⟩, _⟩ := h; rfl) | (obtain ⟨_, ⟨_, _, _, _, _, _, _, _, _, _, rfl, _⟩, _⟩ := h; rfl) | (obtain ⟨_, ⟨_, _, _, _, _, _, _, _, _, _, _, rfl, _⟩, _⟩ := h; rfl) | (obtain ⟨_, ⟨_, _, _, _, _, _, _, _, _, _, _, _, rfl, _⟩, _⟩ := h; rfl) | (obtain ⟨_, rfl, _⟩ := h; rfl) | (obtain ⟨_, _, rfl, _⟩ := h; rfl) | (obtain ⟨_, _, _, rfl, _⟩ := h; rfl) | (obtain ⟨_, _, _, _, rfl, _⟩ := h; rfl) | (obtain ⟨_, _, _, _, _, rfl, _⟩ := h; rfl) | (obtain ⟨_, _, _, _, _, _, rfl, _⟩ := h; rfl) | (obtain ⟨_, _, _, _, _, _, _, rfl, _⟩ := h; rfl) | (obtain ⟨_, _, _, _, _, _, _, _, rfl, _⟩ := h; rfl) | (obtain ⟨_, _, _, _, _, _, _, _, _, rfl, _⟩ := h; rfl) | (obtain ⟨_, _, _, _, _, _, _, _, _, _, rfl, _⟩ := h; rfl) | (obtain ⟨_, _, _, _, _, _, _, _, _, _, _, rfl, _⟩ := h; rfl) | (obtain ⟨_, _, _, _, _, _, _, _, _, _, _, _, rfl, _⟩ := h; rfl)
  · exact pss_cons (ps_expr (pe_call (ok_check_sayings T) (hr.mono (by decide)) (by rfl) T.g_check_sayings T.F_check_sayings.kp T.b_check_sayings .nil (L2N.passes_call (L2N.takes_of rfl rfl rfl rfl) (fun _ _ _ _ h => h)) (pa_cons (pv 0) (pa_cons (pv 1) (pa_nil))))) (pss_cons (ps_if (PW.pt (pw_or (pt_not (pt_val (pe_callB call_isi (by rfl) T.n_isinstance (by decide +kernel) (pa_cons (pv 2) (pa_cons ((pe_bltn (v := .ty "list") (by rfl) T.n_list (by decide +kernel) rfl)) (pa_nil)))))) (pw_or (pt_cmpR op_ne (pe_callB call_len_seq (by rfl) T.n_len (by decide +kernel) (pa_cons (pv 2) (pa_nil))) (pv 0) (nomark _)) (pw_or1 (pt_not (pt_val (pe_callB (cr_all rfl) (by rfl) T.n_all (by decide +kernel) (pa_cons (pe_lc (own := [("one", 3)]) (by rfl) sc_kept.nd (pi_list (pv 2)) (blkOk_by (own := [("one", 3)]) (N := N_kept) (sc := defScope s_kept) (by decide +kernel)) (fun _ _ _ _ _ => pg_name (i := 3) sc_kept.nd rfl (Or.inl rfl)) (fun _ _ _ _ _ => pts_nil) (fun _ _ _ _ _ => pe_call (ok_is_number T) (hr.mono (by decide)) (by rfl) T.g_is_number T.F_is_number.kp T.b_is_number .nil pass0 (pa_cons (pv 3) (pa_nil)))) (pa_nil))))))))) (pss_one (L2N.ps_raise rfl (L2N.takes_of rfl rfl rfl rfl) (L2N.pmk_own PySem.F.excBase_ValueError T.x_BadNumber.1 T.g_BadNumber T.x_BadNumber.2.1 (raises_own T.x_BadNumber.2.2.1 T.x_BadNumber.2.2.2) (by exact rfl)))) (pss_nil)) (pss_one (ps_ret (pe_call (ok_keep_all T) (hr.mono (by decide)) (by rfl) T.g_keep_all T.F_keep_all.kp T.b_keep_all .nil pass0 (pa_cons (pv 0) (pa_cons (pv 1) (pa_cons (pv 2) (pa_nil))))))))
theorem ok_lowest (T : Txt K mg) : FnOk P w K mg base (L2N.CX P w) 5 (ga K "lowest") T.fd_lowest ["count", "sayings", "bottom"] (sp_lowest K) := by
  refine T.F_lowest.ok sc_lowest (fun vs H Q E h => ?_) (fun cdv A outer s H vs Q E hr h => ⟨t_lowest K E, ?_, pure_lowest h⟩)
  · first | (obtain ⟨_, ⟨_, rfl, _⟩, _⟩ := h; rfl) | (obtain ⟨_, ⟨_, _, rfl, _⟩, _⟩ := h; rfl) | (obtain ⟨_, ⟨_, _, _, rfl, _⟩, _⟩ := h; rfl) | (obtain ⟨_, ⟨_, _, _, _, rfl, _⟩, _⟩ := h; rfl) | (obtain ⟨_, ⟨_, _, _, _, _, rfl, _⟩, _⟩ := h; rfl) | (obtain ⟨_, ⟨_, _, _, _, _, _, rfl, _⟩, _⟩ := h; rfl) | (obtain ⟨_, ⟨_, _, _, _, _, _, _, rfl, _⟩, _⟩ := h; rfl) | (obtain ⟨_, ⟨_, _, _, _, _, _, _, _, rfl, _⟩, _⟩ := h; rfl) | (obtain ⟨_, ⟨_, _, _, _, _, _, _, _, _, rfl, _⟩, _⟩ := h; rfl) | (obtain ⟨_, ⟨_, _, _, _, _, _, _, _, _, _, rfl, _⟩, _⟩ := h; rfl) | (obtain ⟨_, ⟨_, _, _, _, _, _, _, _, _, _, _, rfl, _⟩, _⟩ := h; rfl) | (obtain ⟨_, ⟨_, _, _, _, _, _, _, _, _, _, _, _, rfl, _⟩, _⟩ := h; rfl) | (obtain ⟨_, rfl, _⟩ := h; rfl) | (obtain ⟨_, _, rfl, _⟩ := h; rfl) | (obtain ⟨_, _, _, rfl, _⟩ := h; rfl) | (obtain ⟨_, _, _, _, rfl, _⟩ := h; rfl) | (obtain ⟨_, _, _, _, _, rfl, _⟩ := h; rfl) | (obtain ⟨_, _, _, _, _, _, rfl, _⟩ := h; rfl) | (obtain ⟨_, _, _, _, _, _, _, rfl, _⟩ := h; rfl) | (obtain ⟨_, _, _, _, _, _, _, _, rfl, _⟩ := h; rfl) | (obtain ⟨_, _, _, _, _, _, _, _, _, rfl, _⟩ := h; rfl) | (obtain ⟨_, _, _, _, _, _, _, _, _, _, rfl, _⟩ := h; rfl) | (obtain ⟨_, _, _, _, _, _, _, _, _, _, _, rfl, _⟩ := h; rfl) | (obtain ⟨_, _, _, _, _, _, _, _, _, _, _, _, rfl, _⟩ := h; rfl)
  · exact pss_cons (ps_expr (pe_call (ok_check_sayings T) (hr.mono (by decide)) (by rfl) T.g_check_sayings T.F_check_sayings.kp T.b_check_sayings .nil (L2N.passes_call (L2N.takes_of rfl rfl rfl rfl) (fun _ _ _ _ h => h)) (pa_cons (pv 0) (pa_cons (pv 1) (pa_nil))))) (pss_cons (ps_if (pt_not (pt_val (pe_call (ok_is_number T) (hr.mono (by decide)) (by rfl) T.g_is_number T.F_is_number.kp T.b_is_number .nil pass0 (pa_cons (pv 2) (pa_nil))))) (pss_one (L2N.ps_raise rfl (L2N.takes_of rfl rfl rfl rfl) (L2N.pmk_own PySem.F.excBase_ValueError T.x_BadNumber.1 T.g_BadNumber T.x_BadNumber.2.1 (raises_own T.x_BadNumber.2.2.1 T.x_BadNumber.2.2.2) (by exact rfl)))) (pss_nil)) (pss_cons (ps_expr (pe_call (ok_settled T) (hr.mono (by decide)) (by rfl) T.g_settled T.F_settled.kp T.b_settled .nil (L2N.passes_call (L2N.takes_of rfl rfl rfl rfl) (fun _ _ _ _ h => h)) (pa_cons (pv 0) (pa_cons (pv 1) (pa_nil))))) (pss_dead)))
theorem ok_needless (T : Txt K mg) : FnOk P w K mg base (L2N.CX P w) 5 (ga K "needless") T.fd_needless ["count", "sayings", "at"] (sp_needless K) := by
  refine T.F_needless.ok sc_needless (fun vs H Q E h => ?_) (fun cdv A outer s H vs Q E hr h => ⟨t_needless K E, ?_, pure_needless h⟩)
  · first | (obtain ⟨_, ⟨_, rfl, _⟩, _⟩ := h; rfl) | (obtain ⟨_, ⟨_, _, rfl, _⟩, _⟩ := h; rfl) | (obtain ⟨_, ⟨_, _, _, rfl, _⟩, _⟩ := h; rfl) | (obtain ⟨_, ⟨_, _, _, _, rfl, _⟩, _⟩ := h; rfl) | (obtain ⟨_, ⟨_, _, _, _, _, rfl, _⟩, _⟩ := h; rfl) | (obtain ⟨_, ⟨_, _, _, _, _, _, rfl, _⟩, _⟩ := h; rfl) | (obtain ⟨_, ⟨_, _, _, _, _, _, _, rfl, _⟩, _⟩ := h; rfl) | (obtain ⟨_, ⟨_, _, _, _, _, _, _, _, rfl, _⟩, _⟩ := h; rfl) | (obtain ⟨_, ⟨_, _, _, _, _, _, _, _, _, rfl, _⟩, _⟩ := h; rfl) | (obtain ⟨_, ⟨_, _, _, _, _, _, _, _, _, _, rfl, _⟩, _⟩ := h; rfl) | (obtain ⟨_, ⟨_, _, _, _, _, _, _, _, _, _, _, rfl, _⟩, _⟩ := h; rfl) | (obtain ⟨_, ⟨_, _, _, _, _, _, _, _, _, _, _, _, rfl, _⟩, _⟩ := h; rfl) | (obtain ⟨_, rfl, _⟩ := h; rfl) | (obtain ⟨_, _, rfl, _⟩ := h; rfl) | (obtain ⟨_, _, _, rfl, _⟩ := h; rfl) | (obtain ⟨_, _, _, _, rfl, _⟩ := h; rfl) | (obtain ⟨_, _, _, _, _, rfl, _⟩ := h; rfl) | (obtain ⟨_, _, _, _, _, _, rfl, _⟩ := h; rfl) | (obtain ⟨_, _, _, _, _, _, _, rfl, _⟩ := h; rfl) | (obtain ⟨_, _, _, _, _, _, _, _, rfl, _⟩ := h; rfl) | (obtain ⟨_, _, _, _, _, _, _, _, _, rfl, _⟩ := h; rfl) | (obtain ⟨_, _, _, _, _, _, _, _, _, _, rfl, _⟩ := h; rfl) | (obtain ⟨_, _, _, _, _, _, _, _, _, _, _, rfl, _⟩ := h; rfl) | (obtain ⟨_, _, _, _, _, _, _, _, _, _, _, _, rfl, _⟩ := h; rfl)
  · exact pss_cons (ps_expr (pe_call (ok_check_sayings T) (hr.mono (by decide)) (by rfl) T.g_check_sayings T.F_check_sayings.kp T.b_check_sayings .nil (L2N.passes_call (L2N.takes_of rfl rfl rfl rfl) (fun _ _ _ _ h => h)) (pa_cons (pv 0) (pa_cons (pv 1) (pa_nil))))) (pss_cons (ps_if (pt_not (pt_val (pe_call (ok_is_below T) (hr.mono (by decide)) (by rfl) T.g_is_below T.F_is_below.kp T.b_is_below .nil pass0 (pa_cons (pv 2) (pa_cons (pe_callB call_len_seq (by rfl) T.n_len (by decide +kernel) (pa_cons (pv 1) (pa_nil))) (pa_nil)))))) (pss_one (L2N.ps_raise rfl (L2N.takes_of rfl rfl rfl rfl) (L2N.pmk_own PySem.F.excBase_ValueError T.x_BadNumber.1 T.g_BadNumber T.x_BadNumber.2.1 (raises_own T.x_BadNumber.2.2.1 T.x_BadNumber.2.2.2) (by exact rfl)))) (pss_nil)) (pss_cons (ps_expr (pe_call (ok_settled T) (hr.mono (by decide)) (by rfl) T.g_settled T.F_settled.kp T.b_settled .nil (L2N.passes_call (L2N.takes_of rfl rfl rfl rfl) (fun _ _ _ _ h => h)) (pa_cons (pv 0) (pa_cons (pv 1) (pa_nil))))) (pss_dead)))
theorem ok_sum_along (T : Txt K mg) : FnOk P w K mg base CX0 1 (ga K "sum_along") T.fd_sum_along ["sayings", "chain", "one", "other"] (sp_sum_along K) := by
  refine T.F_sum_along.ok sc_sum_along (fun vs H Q E h => ?_) (fun cdv A outer s H vs Q E hr h => ⟨t_sum_along K, PSs.nox ?_, pure_sum_along h⟩)
  · first | (obtain ⟨_, ⟨_, rfl, _⟩, _⟩ := h; rfl) | (obtain ⟨_, ⟨_, _, rfl, _⟩, _⟩ := h; rfl) | (obtain ⟨_, ⟨_, _, _, rfl, _⟩, _⟩ := h; rfl) | (obtain ⟨_, ⟨_, _, _, _, rfl, _⟩, _⟩ := h; rfl) | (obtain ⟨_, ⟨_, _, _, _, _, rfl, _⟩, _⟩ := h; rfl) | (obtain ⟨_, ⟨_, _, _, _, _, _, rfl, _⟩, _⟩ := h; rfl) | (obtain ⟨_, ⟨_, _, _, _, _, _, _, rfl, _⟩, _⟩ := h; rfl) | (obtain ⟨_, ⟨_, _, _, _, _, _, _, _, rfl, _⟩, _⟩ := h; rfl) | (obtain ⟨_, ⟨_, _, _, _, _, _, _, _, _, rfl, _⟩, _⟩ := h; rfl) | (obtain ⟨_, ⟨_, _, _, _, _, _, _, _, _, _, rfl, _⟩, _⟩ := h; rfl) | (obtain ⟨_, ⟨_, _, _, _, _, _, _, _, _, _, _, rfl, _⟩, _⟩ := h; rfl) | (obtain ⟨_, ⟨_, _, _, _, _, _, _, _, _, _, _, _, rfl, _⟩, _⟩ := h; rfl) | (obtain ⟨_, rfl, _⟩ := h; rfl) | (obtain ⟨_, _, rfl, _⟩ := h; rfl) | (obtain ⟨_, _, _, rfl, _⟩ := h; rfl) | (obtain ⟨_, _, _, _, rfl, _⟩ := h; rfl) | (obtain ⟨_, _, _, _, _, rfl, _⟩ := h; rfl) | (obtain ⟨_, _, _, _, _, _, rfl, _⟩ := h; rfl) | (obtain ⟨_, _, _, _, _, _, _, rfl, _⟩ := h; rfl) | (obtain ⟨_, _, _, _, _, _, _, _, rfl, _⟩ := h; rfl) | (obtain ⟨_, _, _, _, _, _, _, _, _, rfl, _⟩ := h; rfl) | (obtain ⟨_, _, _, _, _, _, _, _, _, _, rfl, _⟩ := h; rfl) | (obtain ⟨_, _, _, _, _, _, _, _, _, _, _, rfl, _⟩ := h; rfl) | (obtain ⟨_, _, _, _, _, _, _, _, _, _, _, _, rfl, _⟩ := h; rfl)
  · exact pss_cons (ps_set (i := 4) sc_sum_along.nd rfl (Or.inl rfl) (pe_int)) (pss_cons (ps_set (i := 5) sc_sum_along.nd rfl (Or.inl rfl) (pv 2)) (pss_cons (ps_for PassesOwn.never rfl (pi_list (pv 1)) (pg_name (i := 6) sc_sum_along.nd rfl (Or.inl rfl)) (pss_cons (ps_if (PW.pt (pw_or (pt_not (pt_chain op_le op_lt (pe_int) (pv 6) (pe_callB call_len_seq (by rfl) T.n_len (by decide +kernel) (pa_cons (pv 0) (pa_nil))))) (pw_or1 (pt_cmpR op_ne (pe_ix ix_tup (pe_ix ix_list (pv 0) (pv 6) (fun _ _ => rfl)) (pe_int) (fun _ _ => rfl)) (pv 5) (nomark _))))) (pss_one (ps_ret (pe_non))) (pss_nil)) (pss_cons (ps_set (i := 5) sc_sum_along.nd rfl (Or.inl rfl) (pe_ix ix_tup (pe_ix ix_list (pv 0) (pv 6) (fun _ _ => rfl)) (pe_int) (fun _ _ => rfl))) (pss_one (ps_set (i := 4) sc_sum_along.nd rfl (Or.inl rfl) (pe_op op_add (pv 4) (pe_ix ix_tup (pe_ix ix_list (pv 0) (pv 6) (fun _ _ => rfl)) (pe_int) (fun _ _ => rfl)))))))) (pss_cons (ps_if (pt_cmpR op_ne (pv 5) (pv 3) (nomark _)) (pss_one (ps_ret (pe_non))) (pss_nil)) (pss_one (ps_ret (pv 4))))))
theorem ok_sum_of (T : Txt K mg) : FnOk P w K mg base (L2N.CX P w) 5 (ga K "sum_of") T.fd_sum_of ["count", "sayings", "chain", "one", "other"] (sp_sum_of K) := by
  refine T.F_sum_of.ok sc_sum_of (fun vs H Q E h => ?_) (fun cdv A outer s H vs Q E hr h => ⟨t_sum_of K E, ?_, pure_sum_of h⟩)
  · first | (obtain ⟨_, ⟨_, rfl, _⟩, _⟩ := h; rfl) | (obtain ⟨_, ⟨_, _, rfl, _⟩, _⟩ := h; rfl) | (obtain ⟨_, ⟨_, _, _, rfl, _⟩, _⟩ := h; rfl) | (obtain ⟨_, ⟨_, _, _, _, rfl, _⟩, _⟩ := h; rfl) | (obtain ⟨_, ⟨_, _, _, _, _, rfl, _⟩, _⟩ := h; rfl) | (obtain ⟨_, ⟨_, _, _, _, _, _, rfl, _⟩, _⟩ := h; rfl) | (obtain ⟨_, ⟨_, _, _, _, _, _, _, rfl, _⟩, _⟩ := h; rfl) | (obtain ⟨_, ⟨_, _, _, _, _, _, _, _, rfl, _⟩, _⟩ := h; rfl) | (obtain ⟨_, ⟨_, _, _, _, _, _, _, _, _, rfl, _⟩, _⟩ := h; rfl) | (obtain ⟨_, ⟨_, _, _, _, _, _, _, _, _, _, rfl, _⟩, _⟩ := h; rfl) | (obtain ⟨_, ⟨_, _, _, _, _, _, _, _, _, _, _, rfl, _⟩, _⟩ := h; rfl) | (obtain ⟨_, ⟨_, _, _, _, _, _, _, _, _, _, _, _, rfl, _⟩, _⟩ := h; rfl) | (obtain ⟨_, rfl, _⟩ := h; rfl) | (obtain ⟨_, _, rfl, _⟩ := h; rfl) | (obtain ⟨_, _, _, rfl, _⟩ := h; rfl) | (obtain ⟨_, _, _, _, rfl, _⟩ := h; rfl) | (obtain ⟨_, _, _, _, _, rfl, _⟩ := h; rfl) | (obtain ⟨_, _, _, _, _, _, rfl, _⟩ := h; rfl) | (obtain ⟨_, _, _, _, _, _, _, rfl, _⟩ := h; rfl) | (obtain ⟨_, _, _, _, _, _, _, _, rfl, _⟩ := h; rfl) | (obtain ⟨_, _, _, _, _, _, _, _, _, rfl, _⟩ := h; rfl) | (obtain ⟨_, _, _, _, _, _, _, _, _, _, rfl, _⟩ := h; rfl) | (obtain ⟨_, _, _, _, _, _, _, _, _, _, _, rfl, _⟩ := h; rfl) | (obtain ⟨_, _, _, _, _, _, _, _, _, _, _, _, rfl, _⟩ := h; rfl)
  · exact pss_cons (ps_expr (pe_call (ok_check_sayings T) (hr.mono (by decide)) (by rfl) T.g_check_sayings T.F_check_sayings.kp T.b_check_sayings .nil (L2N.passes_call (L2N.takes_of rfl rfl rfl rfl) (fun _ _ _ _ h => h)) (pa_cons (pv 0) (pa_cons (pv 1) (pa_nil))))) (pss_cons (ps_expr (pe_call (ok_check_places T) (hr.mono (by decide)) (by rfl) T.g_check_places T.F_check_places.kp T.b_check_places .nil (L2N.passes_call (L2N.takes_of rfl rfl rfl rfl) (fun _ _ _ _ h => h)) (pa_cons (pv 0) (pa_cons (pv 3) (pa_cons (pv 4) (pa_nil)))))) (pss_cons (ps_if (PW.pt (pw_or (pt_not (pt_val (pe_callB call_isi (by rfl) T.n_isinstance (by decide +kernel) (pa_cons (pv 2) (pa_cons ((pe_bltn (v := .ty "list") (by rfl) T.n_list (by decide +kernel) rfl)) (pa_nil)))))) (pw_or1 (pt_not (pt_val (pe_callB (cr_all rfl) (by rfl) T.n_all (by decide +kernel) (pa_cons (pe_lc (own := [("at", 6)]) (by rfl) sc_sum_of.nd (pi_list (pv 2)) (blkOk_by (own := [("at", 6)]) (N := N_sum_of) (sc := defScope s_sum_of) (by decide +kernel)) (fun _ _ _ _ _ => pg_name (i := 6) sc_sum_of.nd rfl (Or.inl rfl)) (fun _ _ _ _ _ => pts_nil) (fun _ _ _ _ _ => pe_call (ok_is_below T) (hr.mono (by decide)) (by rfl) T.g_is_below T.F_is_below.kp T.b_is_below .nil pass0 (pa_cons (pv 6) (pa_cons (pe_callB call_len_seq (by rfl) T.n_len (by decide +kernel) (pa_cons (pv 1) (pa_nil))) (pa_nil))))) (pa_nil)))))))) (pss_one (L2N.ps_raise rfl (L2N.takes_of rfl rfl rfl rfl) (L2N.pmk_own PySem.F.excBase_ValueError T.x_BadNumber.1 T.g_BadNumber T.x_BadNumber.2.1 (raises_own T.x_BadNumber.2.2.1 T.x_BadNumber.2.2.2) (by exact rfl)))) (pss_nil)) (pss_cons (ps_set (i := 5) sc_sum_of.nd rfl (Or.inl rfl) (pe_call (ok_sum_along T) (hr.mono (by decide)) (by rfl) T.g_sum_along T.F_sum_along.kp T.b_sum_along .nil pass0 (pa_cons (pv 1) (pa_cons (pv 2) (pa_cons (pv 3) (pa_cons (pv 4) (pa_nil))))))) (pss_cons (ps_if (pt_cmpR op_isN (pv 5) (pe_non) (nomark _)) (pss_one (L2N.ps_raise rfl (L2N.takes_of rfl rfl rfl rfl) (L2N.pmk_own PySem.F.excBase_ValueError T.x_BadNumber.1 T.g_BadNumber T.x_BadNumber.2.1 (raises_own T.x_BadNumber.2.2.1 T.x_BadNumber.2.2.2) (by exact rfl)))) (pss_nil)) (pss_one (ps_ret (pv 5)))))))
theorem ok__law_ask (T : Txt K mg) : FnOk P w K mg base (L2N.CX P w) 6 (ga K "_law_ask") T.fd__law_ask ["_law_door", "_law_count", "_law_sayings", "_law_one", "_law_other"] (sp__law_ask K) := by
  refine T.F__law_ask.ok sc__law_ask (fun vs H Q E h => ?_) (fun cdv A outer s H vs Q E hr h => ⟨t__law_ask K E, ?_, pure__law_ask h⟩)
  · first | (obtain ⟨_, ⟨_, rfl, _⟩, _⟩ := h; rfl) | (obtain ⟨_, ⟨_, _, rfl, _⟩, _⟩ := h; rfl) | (obtain ⟨_, ⟨_, _, _, rfl, _⟩, _⟩ := h; rfl) | (obtain ⟨_, ⟨_, _, _, _, rfl, _⟩, _⟩ := h; rfl) | (obtain ⟨_, ⟨_, _, _, _, _, rfl, _⟩, _⟩ := h; rfl) | (obtain ⟨_, ⟨_, _, _, _, _, _, rfl, _⟩, _⟩ := h; rfl) | (obtain ⟨_, ⟨_, _, _, _, _, _, _, rfl, _⟩, _⟩ := h; rfl) | (obtain ⟨_, ⟨_, _, _, _, _, _, _, _, rfl, _⟩, _⟩ := h; rfl) | (obtain ⟨_, ⟨_, _, _, _, _, _, _, _, _, rfl, _⟩, _⟩ := h; rfl) | (obtain ⟨_, ⟨_, _, _, _, _, _, _, _, _, _, rfl, _⟩, _⟩ := h; rfl) | (obtain ⟨_, ⟨_, _, _, _, _, _, _, _, _, _, _, rfl, _⟩, _⟩ := h; rfl) | (obtain ⟨_, ⟨_, _, _, _, _, _, _, _, _, _, _, _, rfl, _⟩, _⟩ := h; rfl) | (obtain ⟨_, rfl, _⟩ := h; rfl) | (obtain ⟨_, _, rfl, _⟩ := h; rfl) | (obtain ⟨_, _, _, rfl, _⟩ := h; rfl) | (obtain ⟨_, _, _, _, rfl, _⟩ := h; rfl) | (obtain ⟨_, _, _, _, _, rfl, _⟩ := h; rfl) | (obtain ⟨_, _, _, _, _, _, rfl, _⟩ := h; rfl) | (obtain ⟨_, _, _, _, _, _, _, rfl, _⟩ := h; rfl) | (obtain ⟨_, _, _, _, _, _, _, _, rfl, _⟩ := h; rfl) | (obtain ⟨_, _, _, _, _, _, _, _, _, rfl, _⟩ := h; rfl) | (obtain ⟨_, _, _, _, _, _, _, _, _, _, rfl, _⟩ := h; rfl) | (obtain ⟨_, _, _, _, _, _, _, _, _, _, _, rfl, _⟩ := h; rfl) | (obtain ⟨_, _, _, _, _, _, _, _, _, _, _, _, rfl, _⟩ := h; rfl)
  · exact pss_cons (ps_if (pt_cmpR op_lt (pv 0) (pe_int) (nomark _)) (pss_one (ps_ret (pe_ifExp (pt_cmpR op_eq (pv 0) (pe_int) (nomark _)) (pe_call (ok_kept T) (hr.mono (by decide)) (by rfl) T.g_kept T.F_kept.kp T.b_kept .nil (L2N.passes_call (L2N.takes_of rfl rfl rfl rfl) (fun _ _ _ _ h => h)) (pa_cons (pv 1) (pa_cons (pv 2) (pa_cons (pv 3) (pa_nil))))) (pe_call (ok_sum_of T) (hr.mono (by decide)) (by rfl) T.g_sum_of T.F_sum_of.kp T.b_sum_of .nil (L2N.passes_call (L2N.takes_of rfl rfl rfl rfl) (fun _ _ _ _ h => h)) (pa_cons (pv 1) (pa_cons (pv 2) (pa_cons (pv 4) (pa_cons (pv 3) (pa_cons (pe_int) (pa_nil)))))))))) (pss_nil)) (pss_cons (ps_if (pt_cmpR op_lt (pv 0) (pe_int) (nomark _)) (pss_one (ps_ret (pe_ifExp (pt_cmpR op_eq (pv 0) (pe_int) (nomark _)) (pe_call (ok_heights T) (hr.mono (by decide)) (by rfl) T.g_heights T.F_heights.kp T.b_heights .nil (L2N.passes_call (L2N.takes_of rfl rfl rfl rfl) (fun _ _ _ _ h => h)) (pa_cons (pv 1) (pa_cons (pv 2) (pa_nil)))) (pe_call (ok_follows T) (hr.mono (by decide)) (by rfl) T.g_follows T.F_follows.kp T.b_follows .nil (L2N.passes_call (L2N.takes_of rfl rfl rfl rfl) (fun _ _ _ _ h => h)) (pa_cons (pv 1) (pa_cons (pv 2) (pa_cons (pv 3) (pa_cons (pv 4) (pa_nil))))))))) (pss_nil)) (pss_cons (ps_if (pt_cmpR op_lt (pv 0) (pe_int) (nomark _)) (pss_one (ps_ret (pe_ifExp (pt_cmpR op_eq (pv 0) (pe_int) (nomark _)) (pe_call (ok_fixed T) (hr.mono (by decide)) (by rfl) T.g_fixed T.F_fixed.kp T.b_fixed .nil (L2N.passes_call (L2N.takes_of rfl rfl rfl rfl) (fun _ _ _ _ h => h)) (pa_cons (pv 1) (pa_cons (pv 2) (pa_cons (pv 3) (pa_cons (pv 4) (pa_nil)))))) (pe_call (ok_needless T) (hr.mono (by decide)) (by rfl) T.g_needless T.F_needless.kp T.b_needless .nil (L2N.passes_call (L2N.takes_of rfl rfl rfl rfl) (fun _ _ _ _ h => h)) (pa_cons (pv 1) (pa_cons (pv 2) (pa_cons (pv 3) (pa_nil)))))))) (pss_nil)) (pss_cons (ps_if (pt_cmpR op_eq (pv 0) (pe_int) (nomark _)) (pss_one (ps_ret (pe_call (ok_sum_of T) (hr.mono (by decide)) (by rfl) T.g_sum_of T.F_sum_of.kp T.b_sum_of .nil (L2N.passes_call (L2N.takes_of rfl rfl rfl rfl) (fun _ _ _ _ h => h)) (pa_cons (pv 1) (pa_cons (pv 2) (pa_cons (pv 4) (pa_cons (pe_int) (pa_cons (pv 3) (pa_nil))))))))) (pss_nil)) (pss_one (ps_ret (pe_ifExp (pt_cmpR op_eq (pv 0) (pe_int) (nomark _)) (pe_call (ok_highest T) (hr.mono (by decide)) (by rfl) T.g_highest T.F_highest.kp T.b_highest .nil (L2N.passes_call (L2N.takes_of rfl rfl rfl rfl) (fun _ _ _ _ h => h)) (pa_cons (pv 1) (pa_cons (pv 2) (pa_cons (pv 3) (pa_nil))))) (pe_call (ok_lowest T) (hr.mono (by decide)) (by rfl) T.g_lowest T.F_lowest.kp T.b_lowest .nil (L2N.passes_call (L2N.takes_of rfl rfl rfl rfl) (fun _ _ _ _ h => h)) (pa_cons (pv 1) (pa_cons (pv 2) (pa_cons (pv 3) (pa_nil)))))))))))
theorem ok__law_due (T : Txt K mg) : FnOk P w K mg base CX0 7 (ga K "_law_due") T.fd__law_due ["_law_door", "_law_count", "_law_sayings", "_law_one", "_law_other", "_law_due_here"] (sp__law_due K) := by
  refine T.F__law_due.ok sc__law_due (fun vs H Q E h => ?_) (fun cdv A outer s H vs Q E hr h => ⟨t__law_due K, PSs.nox ?_, pure__law_due T.e8 h⟩)
  · first | (obtain ⟨_, ⟨_, rfl, _⟩, _⟩ := h; rfl) | (obtain ⟨_, ⟨_, _, rfl, _⟩, _⟩ := h; rfl) | (obtain ⟨_, ⟨_, _, _, rfl, _⟩, _⟩ := h; rfl) | (obtain ⟨_, ⟨_, _, _, _, rfl, _⟩, _⟩ := h; rfl) | (obtain ⟨_, ⟨_, _, _, _, _, rfl, _⟩, _⟩ := h; rfl) | (obtain ⟨_, ⟨_, _, _, _, _, _, rfl, _⟩, _⟩ := h; rfl) | (obtain ⟨_, ⟨_, _, _, _, _, _, _, rfl, _⟩, _⟩ := h; rfl) | (obtain ⟨_, ⟨_, _, _, _, _, _, _, _, rfl, _⟩, _⟩ := h; rfl) | (obtain ⟨_, ⟨_, _, _, _, _, _, _, _, _, rfl, _⟩, _⟩ := h; rfl) | (obtain ⟨_, ⟨_, _, _, _, _, _, _, _, _, _, rfl, _⟩, _⟩ := h; rfl) | (obtain ⟨_, ⟨_, _, _, _, _, _, _, _, _, _, _, rfl, _⟩, _⟩ := h; rfl) | (obtain ⟨_, ⟨_, _, _, _, _, _, _, _, _, _, _, _, rfl, _⟩, _⟩ := h; rfl) | (obtain ⟨_, rfl, _⟩ := h; rfl) | (obtain ⟨_, _, rfl, _⟩ := h; rfl) | (obtain ⟨_, _, _, rfl, _⟩ := h; rfl) | (obtain ⟨_, _, _, _, rfl, _⟩ := h; rfl) | (obtain ⟨_, _, _, _, _, rfl, _⟩ := h; rfl) | (obtain ⟨_, _, _, _, _, _, rfl, _⟩ := h; rfl) | (obtain ⟨_, _, _, _, _, _, _, rfl, _⟩ := h; rfl) | (obtain ⟨_, _, _, _, _, _, _, _, rfl, _⟩ := h; rfl) | (obtain ⟨_, _, _, _, _, _, _, _, _, rfl, _⟩ := h; rfl) | (obtain ⟨_, _, _, _, _, _, _, _, _, _, rfl, _⟩ := h; rfl) | (obtain ⟨_, _, _, _, _, _, _, _, _, _, _, rfl, _⟩ := h; rfl) | (obtain ⟨_, _, _, _, _, _, _, _, _, _, _, _, rfl, _⟩ := h; rfl)
  · exact pss_cons (L2N.ps_try_as (i := 6) (tb := fun W => tDrop (tCallS (sp__law_ask K) (WE W) (tCons (tVar 0) (tCons (tVar 1) (tCons (tVar 2) (tCons (tVar 3) (tCons (tVar 4) (tNil)))))))) (ts := fun a c d => tSeq (tAsg (tLst (tCons (tCB (rIsX K c d a) (tCons (tVar 6) (tCons ((tC (.ref (ga K "BadCount")))) (tNil)))) (tCons (tCB (rIsX K c d a) (tCons (tVar 6) (tCons ((tC (.ref (ga K "BadSayings")))) (tNil)))) (tCons (tCB (rIsX K c d a) (tCons (tVar 6) (tCons ((tC (.ref (ga K "BadPlace")))) (tNil)))) (tNil))))) (gName 7)) (tSeq (tAsg (tOp rCat (tVar 7) (tLst (tCons (tCB (rIsX K c d a) (tCons (tVar 6) (tCons ((tC (.ref (ga K "BadNumber")))) (tNil)))) (tCons (tCB (rIsX K c d a) (tCons (tVar 6) (tCons ((tC (.ref (ga K "Broken")))) (tNil)))) (tNil))))) (gName 7)) (tRet (tAndV (tOp (rEqD K) (tVar 7) (tLcEq 5 5)) (tCB (rIsX K c d a) (tCons (tVar 6) (tCons ((tC (.ty "ValueError"))) (tNil)))))))) (Wout := fun _ _ _ _ => False) rfl rfl sc__law_due.nd rfl rfl ⟨rfl, by decide, Or.inl T.g_SayError⟩ takesN0 (fun W pn xe tk _ => pss_one (ps_expr (pe_callS (ok__law_ask T) (hr.mono (by decide)) (by rfl) T.g__law_ask T.F__law_ask.kp T.b__law_ask (fun s0 => L2N.passAt tk s0) (pa_cons (pv 0) (pa_cons (pv 1) (pa_cons (pv 2) (pa_cons (pv 3) (pa_cons (pv 4) (pa_nil))))))))) (fun a oe c d pn hz hf => pss_cons (ps_set (i := 7) sc__law_due.nd rfl (Or.inl rfl) (pe_lst (pa_cons (pe_callB (call_isX (hotz_suite hz hf)) (by rfl) T.n_isinstance (by decide +kernel) (pa_cons (pv 6) (pa_cons ((pe_glob (v := .ref (ga K "BadCount")) (by rfl) T.g_BadCount rfl)) (pa_nil)))) (pa_cons (pe_callB (call_isX (hotz_suite hz hf)) (by rfl) T.n_isinstance (by decide +kernel) (pa_cons (pv 6) (pa_cons ((pe_glob (v := .ref (ga K "BadSayings")) (by rfl) T.g_BadSayings rfl)) (pa_nil)))) (pa_cons (pe_callB (call_isX (hotz_suite hz hf)) (by rfl) T.n_isinstance (by decide +kernel) (pa_cons (pv 6) (pa_cons ((pe_glob (v := .ref (ga K "BadPlace")) (by rfl) T.g_BadPlace rfl)) (pa_nil)))) (pa_nil)))))) (pss_cons (ps_set (i := 7) sc__law_due.nd rfl (Or.inl rfl) (pe_op op_cat (pv 7) (pe_lst (pa_cons (pe_callB (call_isX (hotz_suite hz hf)) (by rfl) T.n_isinstance (by decide +kernel) (pa_cons (pv 6) (pa_cons ((pe_glob (v := .ref (ga K "BadNumber")) (by rfl) T.g_BadNumber rfl)) (pa_nil)))) (pa_cons (pe_callB (call_isX (hotz_suite hz hf)) (by rfl) T.n_isinstance (by decide +kernel) (pa_cons (pv 6) (pa_cons ((pe_glob (v := .ref (ga K "Broken")) (by rfl) T.g_Broken rfl)) (pa_nil)))) (pa_nil)))))) (pss_one (ps_ret (pe_and (pe_cmpR (op_eqD hr.units) (pv 7) (pe_lcEqH (n := 5) (i := 5) (k := "_law_k") (y := "_law_due_here") (hotz_suite hz hf).hc (by decide) rfl rfl (by rfl) T.n_range rfl rfl (by decide +kernel) (by decide +kernel) (by decide +kernel) (by decide +kernel) (by decide +kernel)) (nomark _)) (pe_one (pe_callB (call_isX (hotz_suite hz hf)) (by rfl) T.n_isinstance (by decide +kernel) (pa_cons (pv 6) (pa_cons ((pe_bltn (v := .ty "ValueError") (by rfl) T.n_ValueError (by decide +kernel) rfl)) (pa_nil))))))))))) (pss_one (ps_ret (pe_bl)))
theorem ok_law (T : Txt K mg) : FnOk P w K mg base CX0 8 (ga K "law") T.fd_law ["_law_script"] (sp_law K) := by
  refine T.F_law.ok sc_law (fun vs H Q E h => ?_) (fun cdv A outer s H vs Q E hr h => ⟨t_law K, PSs.nox ?_, pure_law8 h⟩)
  · first | (obtain ⟨_, ⟨_, rfl, _⟩, _⟩ := h; rfl) | (obtain ⟨_, ⟨_, _, rfl, _⟩, _⟩ := h; rfl) | (obtain ⟨_, ⟨_, _, _, rfl, _⟩, _⟩ := h; rfl) | (obtain ⟨_, ⟨_, _, _, _, rfl, _⟩, _⟩ := h; rfl) | (obtain ⟨_, ⟨_, _, _, _, _, rfl, _⟩, _⟩ := h; rfl) | (obtain ⟨_, ⟨_, _, _, _, _, _, rfl, _⟩, _⟩ := h; rfl) | (obtain ⟨_, ⟨_, _, _, _, _, _, _, rfl, _⟩, _⟩ := h; rfl) | (obtain ⟨_, ⟨_, _, _, _, _, _, _, _, rfl, _⟩, _⟩ := h; rfl) | (obtain ⟨_, ⟨_, _, _, _, _, _, _, _, _, rfl, _⟩, _⟩ := h; rfl) | (obtain ⟨_, ⟨_, _, _, _, _, _, _, _, _, _, rfl, _⟩, _⟩ := h; rfl) | (obtain ⟨_, ⟨_, _, _, _, _, _, _, _, _, _, _, rfl, _⟩, _⟩ := h; rfl) | (obtain ⟨_, ⟨_, _, _, _, _, _, _, _, _, _, _, _, rfl, _⟩, _⟩ := h; rfl) | (obtain ⟨_, rfl, _⟩ := h; rfl) | (obtain ⟨_, _, rfl, _⟩ := h; rfl) | (obtain ⟨_, _, _, rfl, _⟩ := h; rfl) | (obtain ⟨_, _, _, _, rfl, _⟩ := h; rfl) | (obtain ⟨_, _, _, _, _, rfl, _⟩ := h; rfl) | (obtain ⟨_, _, _, _, _, _, rfl, _⟩ := h; rfl) | (obtain ⟨_, _, _, _, _, _, _, rfl, _⟩ := h; rfl) | (obtain ⟨_, _, _, _, _, _, _, _, rfl, _⟩ := h; rfl) | (obtain ⟨_, _, _, _, _, _, _, _, _, rfl, _⟩ := h; rfl) | (obtain ⟨_, _, _, _, _, _, _, _, _, _, rfl, _⟩ := h; rfl) | (obtain ⟨_, _, _, _, _, _, _, _, _, _, _, rfl, _⟩ := h; rfl) | (obtain ⟨_, _, _, _, _, _, _, _, _, _, _, _, rfl, _⟩ := h; rfl)
  · exact pss_cons (ps_asg (pe_tup (pa_cons (pe_lst (pa_cons (pe_tup (pa_cons (pe_int) (pa_cons (pe_int) (pa_cons (pe_int) (pa_nil))))) (pa_nil))) (pa_cons (pe_lst (pa_cons (pe_tup (pa_cons (pe_int) (pa_cons (pe_int) (pa_cons (pe_int) (pa_nil))))) (pa_cons (pe_tup (pa_cons (pe_int) (pa_cons (pe_int) (pa_cons (pe_un un_neg (pe_int)) (pa_nil))))) (pa_nil)))) (pa_nil)))) (pg_tup (by rfl) (pgs_cons (pg_name (i := 1) sc_law.nd rfl (Or.inr rfl)) (pgs_cons (pg_name (i := 2) sc_law.nd rfl (Or.inr rfl)) (pgs_nil))))) (pss_cons (ps_for PassesOwn.never rfl (pi_list (pe_op op_cat (pe_lst (pa_cons (pe_callB call_len_seq (by rfl) T.n_len (by decide +kernel) (pa_cons (pv 0) (pa_nil))) (pa_nil))) (pe_lc (own := [("_law_cell", 3)]) (by rfl) sc_law.nd (pi_list (pv 0)) (blkOk_by (own := [("_law_cell", 3)]) (N := N_law) (sc := defScope s_law) (by decide +kernel)) (fun _ _ _ _ _ => pg_name (i := 3) sc_law.nd rfl (Or.inl rfl)) (fun _ _ _ _ _ => pts_nil) (fun _ _ _ _ _ => pe_op op_mod (pv 3) (pe_op op_pow (pe_int) (pe_int)))))) (pg_name (i := 3) sc_law.nd rfl (Or.inl rfl)) (pss_cons (ps_set (i := 4) sc_law.nd rfl (Or.inl rfl) (pe_op op_mod (pv 3) (pe_int))) (pss_cons (ps_for PassesOwn.never rfl (pi_range1 (by rfl) T.n_range (pa_cons (pe_int) (pa_nil))) (pg_name (i := 5) sc_law.nd rfl (Or.inr rfl)) (pss_cons (ps_if (pt_not (pt_val (pe_callB (cr_all rfl) (by rfl) T.n_all (by decide +kernel) (pa_cons (pe_lc (own := [("_law_bad", 6)]) (by rfl) sc_law.nd (pi_list (pe_slice sl_list (pe_call (ok__law_counts T) (hr.mono (by decide)) (by rfl) T.g__law_counts T.F__law_counts.kp T.b__law_counts .nil pass0 (pa_cons (pv 3) (pa_nil))) (po_some (pv 4)) (po_some (pe_op op_add (pv 4) (pe_int))))) (blkOk_by (own := [("_law_bad", 6)]) (N := N_law) (sc := defScope s_law) (by decide +kernel)) (fun _ _ _ _ _ => pg_name (i := 6) sc_law.nd rfl (Or.inl rfl)) (fun _ _ _ _ _ => pts_nil) (fun _ _ _ _ _ => pe_call (ok__law_due T) (hr.mono (by decide)) (by rfl) T.g__law_due T.F__law_due.kp T.b__law_due .nil pass0 (pa_cons (pv 5) (pa_cons (pv 6) (pa_cons (pe_non) (pa_cons (pe_non) (pa_cons (pe_non) (pa_cons (pe_int) (pa_nil))))))))) (pa_nil))))) (pss_one (ps_ret (pe_bl))) (pss_nil)) (pss_one (ps_if (pt_not (pt_val (pe_callB (cr_all rfl) (by rfl) T.n_all (by decide +kernel) (pa_cons (pe_lc (own := [("_law_bad", 6)]) (by rfl) sc_law.nd (pi_list (pe_slice sl_list (pe_call (ok__law_bad_sayings T) (hr.mono (by decide)) (by rfl) T.g__law_bad_sayings T.F__law_bad_sayings.kp T.b__law_bad_sayings .nil pass0 (pa_cons (pv 3) (pa_nil))) (po_some (pe_op op_mul (pe_int) (pv 4))) (po_some (pe_op op_add (pe_op op_mul (pe_int) (pv 4)) (pe_int))))) (blkOk_by (own := [("_law_bad", 6)]) (N := N_law) (sc := defScope s_law) (by decide +kernel)) (fun _ _ _ _ _ => pg_name (i := 6) sc_law.nd rfl (Or.inl rfl)) (fun _ _ _ _ _ => pts_nil) (fun _ _ _ _ _ => pe_call (ok__law_due T) (hr.mono (by decide)) (by rfl) T.g__law_due T.F__law_due.kp T.b__law_due .nil pass0 (pa_cons (pv 5) (pa_cons (pe_int) (pa_cons (pv 6) (pa_cons (pe_non) (pa_cons (pe_non) (pa_cons (pe_int) (pa_nil))))))))) (pa_nil))))) (pss_one (ps_ret (pe_bl))) (pss_nil))))) (pss_cons (ps_for PassesOwn.never rfl (pi_list (pe_call (ok__law_bad_places T) (hr.mono (by decide)) (by rfl) T.g__law_bad_places T.F__law_bad_places.kp T.b__law_bad_places .nil pass0 (pa_cons (pv 3) (pa_nil)))) (pg_name (i := 6) sc_law.nd rfl (Or.inr rfl)) (pss_cons (ps_if (pt_not (pt_val (pe_callB (cr_all rfl) (by rfl) T.n_all (by decide +kernel) (pa_cons (pe_lc (own := [("_law_door", 5)]) (by rfl) sc_law.nd (pi_list (pe_lst (pa_cons (pe_int) (pa_cons (pe_int) (pa_cons (pe_int) (pa_cons (pe_int) (pa_nil))))))) (blkOk_by (own := [("_law_door", 5)]) (N := N_law) (sc := defScope s_law) (by decide +kernel)) (fun _ _ _ _ _ => pg_name (i := 5) sc_law.nd rfl (Or.inl rfl)) (fun _ _ _ _ _ => pts_nil) (fun _ _ _ _ _ => pe_call (ok__law_due T) (hr.mono (by decide)) (by rfl) T.g__law_due T.F__law_due.kp T.b__law_due .nil pass0 (pa_cons (pv 5) (pa_cons (pe_int) (pa_cons (pv 2) (pa_cons (pv 6) (pa_cons (pe_non) (pa_cons (pe_int) (pa_nil))))))))) (pa_nil))))) (pss_one (ps_ret (pe_bl))) (pss_nil)) (pss_one (ps_if (pt_not (pt_val (pe_callB (cr_all rfl) (by rfl) T.n_all (by decide +kernel) (pa_cons (pe_lc (own := [("_law_door", 5)]) (by rfl) sc_law.nd (pi_list (pe_lst (pa_cons (pe_int) (pa_cons (pe_int) (pa_nil))))) (blkOk_by (own := [("_law_door", 5)]) (N := N_law) (sc := defScope s_law) (by decide +kernel)) (fun _ _ _ _ _ => pg_name (i := 5) sc_law.nd rfl (Or.inl rfl)) (fun _ _ _ _ _ => pts_nil) (fun _ _ _ _ _ => pe_call (ok__law_due T) (hr.mono (by decide)) (by rfl) T.g__law_due T.F__law_due.kp T.b__law_due .nil pass0 (pa_cons (pv 5) (pa_cons (pe_int) (pa_cons (pv 2) (pa_cons (pe_int) (pa_cons (pv 6) (pa_cons (pe_int) (pa_nil))))))))) (pa_nil))))) (pss_one (ps_ret (pe_bl))) (pss_nil))))) (pss_cons (ps_for PassesOwn.never rfl (pi_list (pe_call (ok__law_bad_numbers T) (hr.mono (by decide)) (by rfl) T.g__law_bad_numbers T.F__law_bad_numbers.kp T.b__law_bad_numbers .nil pass0 (pa_cons (pv 3) (pa_nil)))) (pg_name (i := 6) sc_law.nd rfl (Or.inr rfl)) (pss_one (ps_if (pt_not (pt_val (pe_callB (cr_all rfl) (by rfl) T.n_all (by decide +kernel) (pa_cons (pe_lc (own := [("_law_door", 5)]) (by rfl) sc_law.nd (pi_list (pe_lst (pa_cons (pe_int) (pa_cons (pe_int) (pa_nil))))) (blkOk_by (own := [("_law_door", 5)]) (N := N_law) (sc := defScope s_law) (by decide +kernel)) (fun _ _ _ _ _ => pg_name (i := 5) sc_law.nd rfl (Or.inl rfl)) (fun _ _ _ _ _ => pts_nil) (fun _ _ _ _ _ => pe_call (ok__law_due T) (hr.mono (by decide)) (by rfl) T.g__law_due T.F__law_due.kp T.b__law_due .nil pass0 (pa_cons (pv 5) (pa_cons (pe_int) (pa_cons (pv 2) (pa_cons (pv 6) (pa_cons (pe_non) (pa_cons (pe_int) (pa_nil))))))))) (pa_nil))))) (pss_one (ps_ret (pe_bl))) (pss_nil)))) (pss_cons (ps_if (pt_not (pt_val (pe_callB (cr_all rfl) (by rfl) T.n_all (by decide +kernel) (pa_cons (pe_lc (own := [("_law_bad", 6)]) (by rfl) sc_law.nd (pi_list (pe_call (ok__law_bad_heights T) (hr.mono (by decide)) (by rfl) T.g__law_bad_heights T.F__law_bad_heights.kp T.b__law_bad_heights .nil pass0 (pa_cons (pv 3) (pa_nil)))) (blkOk_by (own := [("_law_bad", 6)]) (N := N_law) (sc := defScope s_law) (by decide +kernel)) (fun _ _ _ _ _ => pg_name (i := 6) sc_law.nd rfl (Or.inl rfl)) (fun _ _ _ _ _ => pts_nil) (fun _ _ _ _ _ => pe_call (ok__law_due T) (hr.mono (by decide)) (by rfl) T.g__law_due T.F__law_due.kp T.b__law_due .nil pass0 (pa_cons (pe_int) (pa_cons (pe_int) (pa_cons (pv 1) (pa_cons (pv 6) (pa_cons (pe_non) (pa_cons (pe_int) (pa_nil))))))))) (pa_nil))))) (pss_one (ps_ret (pe_bl))) (pss_nil)) (pss_cons (ps_if (pt_not (pt_val (pe_callB (cr_all rfl) (by rfl) T.n_all (by decide +kernel) (pa_cons (pe_lc (own := [("_law_bad", 6)]) (by rfl) sc_law.nd (pi_list (pe_call (ok__law_bad_chains T) (hr.mono (by decide)) (by rfl) T.g__law_bad_chains T.F__law_bad_chains.kp T.b__law_bad_chains .nil pass0 (pa_cons (pv 3) (pa_nil)))) (blkOk_by (own := [("_law_bad", 6)]) (N := N_law) (sc := defScope s_law) (by decide +kernel)) (fun _ _ _ _ _ => pg_name (i := 6) sc_law.nd rfl (Or.inl rfl)) (fun _ _ _ _ _ => pts_nil) (fun _ _ _ _ _ => pe_call (ok__law_due T) (hr.mono (by decide)) (by rfl) T.g__law_due T.F__law_due.kp T.b__law_due .nil pass0 (pa_cons (pe_int) (pa_cons (pe_int) (pa_cons (pv 1) (pa_cons (pe_int) (pa_cons (pv 6) (pa_cons (pe_int) (pa_nil))))))))) (pa_nil))))) (pss_one (ps_ret (pe_bl))) (pss_nil)) (pss_one (ps_if (pt_not (pt_val (pe_callB (cr_all rfl) (by rfl) T.n_all (by decide +kernel) (pa_cons (pe_lc (own := [("_law_bad", 6)]) (by rfl) sc_law.nd (pi_list (pe_lst (pa_cons (pe_non) (pa_cons (pe_un un_neg (pe_int)) (pa_cons (pe_int) (pa_cons (pe_op op_add (pe_int) (pe_op op_mod (pv 3) (pe_int))) (pa_cons (pe_bl) (pa_cons (pe_str) (pa_cons (pe_lst (pa_cons (pe_int) (pa_nil))) (pa_nil)))))))))) (blkOk_by (own := [("_law_bad", 6)]) (N := N_law) (sc := defScope s_law) (by decide +kernel)) (fun _ _ _ _ _ => pg_name (i := 6) sc_law.nd rfl (Or.inl rfl)) (fun _ _ _ _ _ => pts_nil) (fun _ _ _ _ _ => pe_call (ok__law_due T) (hr.mono (by decide)) (by rfl) T.g__law_due T.F__law_due.kp T.b__law_due .nil pass0 (pa_cons (pe_int) (pa_cons (pe_int) (pa_cons (pv 2) (pa_cons (pv 6) (pa_cons (pe_non) (pa_cons (pe_int) (pa_nil))))))))) (pa_nil))))) (pss_one (ps_ret (pe_bl))) (pss_nil)))))))))) (pss_cons (ps_if (pt_not (pt_val (pe_callB (cr_all rfl) (by rfl) T.n_all (by decide +kernel) (pa_cons (pe_lc (own := [("_law_door", 5)]) (by rfl) sc_law.nd (pi_range2 (by rfl) T.n_range (pa_cons (pe_int) (pa_cons (pe_int) (pa_nil)))) (blkOk_by (own := [("_law_door", 5)]) (N := N_law) (sc := defScope s_law) (by decide +kernel)) (fun _ _ _ _ _ => pg_name (i := 5) sc_law.nd rfl (Or.inl rfl)) (fun _ _ _ _ _ => pts_nil) (fun _ _ _ _ _ => pe_call (ok__law_due T) (hr.mono (by decide)) (by rfl) T.g__law_due T.F__law_due.kp T.b__law_due .nil pass0 (pa_cons (pv 5) (pa_cons (pe_int) (pa_cons (pv 2) (pa_cons (pe_int) (pa_cons (pe_int) (pa_cons (pe_int) (pa_nil))))))))) (pa_nil))))) (pss_one (ps_ret (pe_bl))) (pss_nil)) (pss_one (ps_ret (pe_and (pe_cmpR op_eq (pe_call (ok_sum_of T) (hr.mono (by decide)) (by rfl) T.g_sum_of T.F_sum_of.kp T.b_sum_of .nil passN (pa_cons (pe_int) (pa_cons (pv 1) (pa_cons (pe_lst (pa_cons (pe_int) (pa_nil))) (pa_cons (pe_int) (pa_cons (pe_int) (pa_nil))))))) (pe_int) (nomark _)) (pe_and (pe_cmpR op_isBl (pe_call (ok_kept T) (hr.mono (by decide)) (by rfl) T.g_kept T.F_kept.kp T.b_kept .nil passN (pa_cons (pe_int) (pa_cons (pv 1) (pa_cons (pe_lst (pa_cons (pe_int) (pa_cons (pe_int) (pa_nil)))) (pa_nil))))) (pe_bl) (nomark _)) (pe_one (pe_cmpR op_isBl (pe_call (ok_kept T) (hr.mono (by decide)) (by rfl) T.g_kept T.F_kept.kp T.b_kept .nil passN (pa_cons (pe_int) (pa_cons (pv 1) (pa_cons (pe_lst (pa_cons (pe_int) (pa_cons (pe_int) (pa_nil)))) (pa_nil))))) (pe_bl) (nomark _)))))))))
end
/-! ### the head -/
def d__law_bad_chains : He.DefD := ⟨("_law_bad_chains", none), "_law_bad_chains", "_law_bad_chains", defArgs s__law_bad_chains, defBody s__law_bad_chains, defScope s__law_bad_chains, [], []⟩
def d__law_bad_heights : He.DefD := ⟨("_law_bad_heights", none), "_law_bad_heights", "_law_bad_heights", defArgs s__law_bad_heights, defBody s__law_bad_heights, defScope s__law_bad_heights, [], []⟩
def d__law_bad_numbers : He.DefD := ⟨("_law_bad_numbers", none), "_law_bad_numbers", "_law_bad_numbers", defArgs s__law_bad_numbers, defBody s__law_bad_numbers, defScope s__law_bad_numbers, [], []⟩
def d__law_bad_places : He.DefD := ⟨("_law_bad_places", none), "_law_bad_places", "_law_bad_places", defArgs s__law_bad_places, defBody s__law_bad_places, defScope s__law_bad_places, [], []⟩
def d__law_bad_sayings : He.DefD := ⟨("_law_bad_sayings", none), "_law_bad_sayings", "_law_bad_sayings", defArgs s__law_bad_sayings, defBody s__law_bad_sayings, defScope s__law_bad_sayings, [], []⟩
def d__law_counts : He.DefD := ⟨("_law_counts", none), "_law_counts", "_law_counts", defArgs s__law_counts, defBody s__law_counts, defScope s__law_counts, [], []⟩
def d_is_number : He.DefD := ⟨("is_number", none), "is_number", "is_number", defArgs s_is_number, defBody s_is_number, defScope s_is_number, [], []⟩
def d_is_below : He.DefD := ⟨("is_below", none), "is_below", "is_below", defArgs s_is_below, defBody s_is_below, defScope s_is_below, [], []⟩
def d_check_places : He.DefD := ⟨("check_places", none), "check_places", "check_places", defArgs s_check_places, defBody s_check_places, defScope s_check_places, [], []⟩
def d_is_saying : He.DefD := ⟨("is_saying", none), "is_saying", "is_saying", defArgs s_is_saying, defBody s_is_saying, defScope s_is_saying, [], []⟩
def d_check_sayings : He.DefD := ⟨("check_sayings", none), "check_sayings", "check_sayings", defArgs s_check_sayings, defBody s_check_sayings, defScope s_check_sayings, [], []⟩
def d_Broken_init : He.DefD := ⟨("Broken", some "__init__"), "__init__", "Broken.__init__", defArgs s_Broken_init, defBody s_Broken_init, defScope s_Broken_init, [], []⟩
def d_lessened : He.DefD := ⟨("lessened", none), "lessened", "lessened", defArgs s_lessened, defBody s_lessened, defScope s_lessened, [], []⟩
def d_ring_behind : He.DefD := ⟨("ring_behind", none), "ring_behind", "ring_behind", defArgs s_ring_behind, defBody s_ring_behind, defScope s_ring_behind, [], []⟩
def d_from_all : He.DefD := ⟨("from_all", none), "from_all", "from_all", defArgs s_from_all, defBody s_from_all, defScope s_from_all, [], []⟩
def d_settled : He.DefD := ⟨("settled", none), "settled", "settled", defArgs s_settled, defBody s_settled, defScope s_settled, [], []⟩
def d_fixed : He.DefD := ⟨("fixed", none), "fixed", "fixed", defArgs s_fixed, defBody s_fixed, defScope s_fixed, [], []⟩
def d_follows : He.DefD := ⟨("follows", none), "follows", "follows", defArgs s_follows, defBody s_follows, defScope s_follows, [], []⟩
def d_heights : He.DefD := ⟨("heights", none), "heights", "heights", defArgs s_heights, defBody s_heights, defScope s_heights, [], []⟩
def d_highest : He.DefD := ⟨("highest", none), "highest", "highest", defArgs s_highest, defBody s_highest, defScope s_highest, [], []⟩
def d_keep : He.DefD := ⟨("keep", none), "keep", "keep", defArgs s_keep, defBody s_keep, defScope s_keep, [], []⟩
def d_keep_all : He.DefD := ⟨("keep_all", none), "keep_all", "keep_all", defArgs s_keep_all, defBody s_keep_all, defScope s_keep_all, [], []⟩
def d_kept : He.DefD := ⟨("kept", none), "kept", "kept", defArgs s_kept, defBody s_kept, defScope s_kept, [], []⟩
def d_lowest : He.DefD := ⟨("lowest", none), "lowest", "lowest", defArgs s_lowest, defBody s_lowest, defScope s_lowest, [], []⟩
def d_needless : He.DefD := ⟨("needless", none), "needless", "needless", defArgs s_needless, defBody s_needless, defScope s_needless, [], []⟩
def d_sum_along : He.DefD := ⟨("sum_along", none), "sum_along", "sum_along", defArgs s_sum_along, defBody s_sum_along, defScope s_sum_along, [], []⟩
def d_sum_of : He.DefD := ⟨("sum_of", none), "sum_of", "sum_of", defArgs s_sum_of, defBody s_sum_of, defScope s_sum_of, [], []⟩
def d__law_ask : He.DefD := ⟨("_law_ask", none), "_law_ask", "_law_ask", defArgs s__law_ask, defBody s__law_ask, defScope s__law_ask, [], []⟩
def d__law_due : He.DefD := ⟨("_law_due", none), "_law_due", "_law_due", defArgs s__law_due, defBody s__law_due, defScope s__law_due, [], []⟩
def d_law : He.DefD := ⟨("law", none), "law", "law", defArgs s_law, defBody s_law, defScope s_law, [], []⟩
def fn : List He.DefD := [d__law_bad_chains, d__law_bad_heights, d__law_bad_numbers, d__law_bad_places, d__law_bad_sayings, d__law_counts, d_is_number, d_is_below, d_check_places, d_is_saying, d_check_sayings, d_Broken_init, d_lessened, d_ring_behind, d_from_all, d_settled, d_fixed, d_follows, d_heights, d_highest, d_keep, d_keep_all, d_kept, d_lowest, d_needless, d_sum_along, d_sum_of, d__law_ask, d__law_due, d_law]
def fa : List He.Fa := ([.glo "BadCount", .glo "BadNumber", .glo "BadPlace", .glo "BadSayings", .glo "Broken", .glo "SayError", .glo "_law_ask", .glo "_law_bad_chains", .glo "_law_bad_heights", .glo "_law_bad_numbers", .glo "_law_bad_places", .glo "_law_bad_sayings", .glo "_law_counts", .glo "_law_due", .glo "check_places", .glo "check_sayings", .glo "fixed", .glo "follows", .glo "from_all", .glo "heights", .glo "highest", .glo "is_below", .glo "is_number", .glo "is_saying", .glo "keep", .glo "keep_all", .glo "kept", .glo "law", .glo "lessened", .glo "lowest"] : List He.Fa) ++ ([.glo "needless", .glo "ring_behind", .glo "settled", .glo "sum_along", .glo "sum_of", .free "ValueError", .free "all", .free "bool", .free "enumerate", .free "int", .free "isinstance", .free "len", .free "list", .free "range", .free "tuple", .exc "BadCount", .exc "BadNumber", .exc "BadPlace", .exc "BadSayings"] : List He.Fa)
def ck : List (PySem.W.Frag → Bool) := [e8B, xfFB, oxFB]
abbrev Rw : PySem.W.OpenRow := PySem.W.OpenLaw.row PySem.Challenge.rw_atmost_k08_refused
abbrev hk : PySem.W.Hook := hookX 7 ck fa fn
def ob (s : PySem.W.SharedT) : He.AlD := obsXG 7 ck fa fn (HandSHeadRun.getT s)
theorem ob_eq (s : PySem.W.SharedT) : ob s = hk.obs s.abs := obsXG_eq (HandSHeadRun.getT_eq s)
def loose : List PySem.Str := (["SayError", "BadCount", "BadSayings", "BadPlace", "BadNumber", "Broken", "is_number", "is_below", "is_saying", "check_sayings", "check_places", "keep", "keep_all", "sum_along", "kept", "sum_of", "lessened", "ring_behind", "from_all", "settled", "from_one", "chain_to", "spread", "highest", "lowest", "Answer", "Heights", "Ring", "Follows", "Free"] : List PySem.Str) ++ (["Fixed", "Loose", "Needless", "Needed", "heights", "without_sum", "follows", "raised", "needless", "fixed", "_law_ask", "_law_due", "_law_counts", "_law_bad_sayings", "_law_bad_places", "_law_bad_numbers", "_law_bad_heights", "_law_bad_chains"] : List PySem.Str)
theorem run_top (w : World) : HandSHeadRun.RunEq Rw (PySem.W.view Rw.prog [55]) hk ob 6000 loose w := by
  intro os
  kernel_rfl
theorem facts {P : Program} {w : World} {K : PySem.W.Frag} {h : Heap} {mg : Str → Option Value} {f : Addr} (X : K.In h) (G : h.Ns mainGlobals mg) (hfa : mg ("law" : Str) = some (.ref f)) (c : SaysX ck fa fn K) :
    ∃ fd : FuncData, (∀ (s : Shared) (v : Value), BindsTo s fd ⟨[v], []⟩ [("_law_script", v)]) ∧ ∀ base : Heap, K.In base → base.Ns mainGlobals mg → FnOk P w K mg base CX0 8 f fd ["_law_script"] (sp_law K) := by
  have cd := c.d
  obtain ⟨fd__law_bad_chains, F__law_bad_chains⟩ := cd.def_ 0 (d := d__law_bad_chains) rfl
  obtain ⟨fd__law_bad_heights, F__law_bad_heights⟩ := cd.def_ 1 (d := d__law_bad_heights) rfl
  obtain ⟨fd__law_bad_numbers, F__law_bad_numbers⟩ := cd.def_ 2 (d := d__law_bad_numbers) rfl
  obtain ⟨fd__law_bad_places, F__law_bad_places⟩ := cd.def_ 3 (d := d__law_bad_places) rfl
  obtain ⟨fd__law_bad_sayings, F__law_bad_sayings⟩ := cd.def_ 4 (d := d__law_bad_sayings) rfl
  obtain ⟨fd__law_counts, F__law_counts⟩ := cd.def_ 5 (d := d__law_counts) rfl
  obtain ⟨fd_is_number, F_is_number⟩ := cd.def_ 6 (d := d_is_number) rfl
  obtain ⟨fd_is_below, F_is_below⟩ := cd.def_ 7 (d := d_is_below) rfl
  obtain ⟨fd_check_places, F_check_places⟩ := cd.def_ 8 (d := d_check_places) rfl
  obtain ⟨fd_is_saying, F_is_saying⟩ := cd.def_ 9 (d := d_is_saying) rfl
  obtain ⟨fd_check_sayings, F_check_sayings⟩ := cd.def_ 10 (d := d_check_sayings) rfl
  obtain ⟨fd_Broken_init, F_Broken_init⟩ := cd.def_ 11 (d := d_Broken_init) rfl
  obtain ⟨fd_lessened, F_lessened⟩ := cd.def_ 12 (d := d_lessened) rfl
  obtain ⟨fd_ring_behind, F_ring_behind⟩ := cd.def_ 13 (d := d_ring_behind) rfl
  obtain ⟨fd_from_all, F_from_all⟩ := cd.def_ 14 (d := d_from_all) rfl
  obtain ⟨fd_settled, F_settled⟩ := cd.def_ 15 (d := d_settled) rfl
  obtain ⟨fd_fixed, F_fixed⟩ := cd.def_ 16 (d := d_fixed) rfl
  obtain ⟨fd_follows, F_follows⟩ := cd.def_ 17 (d := d_follows) rfl
  obtain ⟨fd_heights, F_heights⟩ := cd.def_ 18 (d := d_heights) rfl
  obtain ⟨fd_highest, F_highest⟩ := cd.def_ 19 (d := d_highest) rfl
  obtain ⟨fd_keep, F_keep⟩ := cd.def_ 20 (d := d_keep) rfl
  obtain ⟨fd_keep_all, F_keep_all⟩ := cd.def_ 21 (d := d_keep_all) rfl
  obtain ⟨fd_kept, F_kept⟩ := cd.def_ 22 (d := d_kept) rfl
  obtain ⟨fd_lowest, F_lowest⟩ := cd.def_ 23 (d := d_lowest) rfl
  obtain ⟨fd_needless, F_needless⟩ := cd.def_ 24 (d := d_needless) rfl
  obtain ⟨fd_sum_along, F_sum_along⟩ := cd.def_ 25 (d := d_sum_along) rfl
  obtain ⟨fd_sum_of, F_sum_of⟩ := cd.def_ 26 (d := d_sum_of) rfl
  obtain ⟨fd__law_ask, F__law_ask⟩ := cd.def_ 27 (d := d__law_ask) rfl
  obtain ⟨fd__law_due, F__law_due⟩ := cd.def_ 28 (d := d__law_due) rfl
  obtain ⟨fd_law, F_law⟩ := cd.def_ 29 (d := d_law) rfl
  have T : Txt K mg := {
    fd__law_bad_chains := fd__law_bad_chains, F__law_bad_chains := F__law_bad_chains, b__law_bad_chains := F__law_bad_chains.bindsN fun _ _ _ _ _ _ us hl => match us, hl with | [_], _ => rfl
    fd__law_bad_heights := fd__law_bad_heights, F__law_bad_heights := F__law_bad_heights, b__law_bad_heights := F__law_bad_heights.bindsN fun _ _ _ _ _ _ us hl => match us, hl with | [_], _ => rfl
    fd__law_bad_numbers := fd__law_bad_numbers, F__law_bad_numbers := F__law_bad_numbers, b__law_bad_numbers := F__law_bad_numbers.bindsN fun _ _ _ _ _ _ us hl => match us, hl with | [_], _ => rfl
    fd__law_bad_places := fd__law_bad_places, F__law_bad_places := F__law_bad_places, b__law_bad_places := F__law_bad_places.bindsN fun _ _ _ _ _ _ us hl => match us, hl with | [_], _ => rfl
    fd__law_bad_sayings := fd__law_bad_sayings, F__law_bad_sayings := F__law_bad_sayings, b__law_bad_sayings := F__law_bad_sayings.bindsN fun _ _ _ _ _ _ us hl => match us, hl with | [_], _ => rfl
    fd__law_counts := fd__law_counts, F__law_counts := F__law_counts, b__law_counts := F__law_counts.bindsN fun _ _ _ _ _ _ us hl => match us, hl with | [_], _ => rfl
    fd_is_number := fd_is_number, F_is_number := F_is_number, b_is_number := F_is_number.bindsN fun _ _ _ _ _ _ us hl => match us, hl with | [_], _ => rfl
    fd_is_below := fd_is_below, F_is_below := F_is_below, b_is_below := F_is_below.bindsN fun _ _ _ _ _ _ us hl => match us, hl with | [_, _], _ => rfl
    fd_check_places := fd_check_places, F_check_places := F_check_places, b_check_places := F_check_places.bindsN fun _ _ _ _ _ _ us hl => match us, hl with | [_, _, _], _ => rfl
    fd_is_saying := fd_is_saying, F_is_saying := F_is_saying, b_is_saying := F_is_saying.bindsN fun _ _ _ _ _ _ us hl => match us, hl with | [_, _], _ => rfl
    fd_check_sayings := fd_check_sayings, F_check_sayings := F_check_sayings, b_check_sayings := F_check_sayings.bindsN fun _ _ _ _ _ _ us hl => match us, hl with | [_, _], _ => rfl
    fd_Broken_init := fd_Broken_init, F_Broken_init := F_Broken_init, b_Broken_init := F_Broken_init.bindsN fun _ _ _ _ _ _ us hl => match us, hl with | [_, _], _ => rfl
    fd_lessened := fd_lessened, F_lessened := F_lessened, b_lessened := F_lessened.bindsN fun _ _ _ _ _ _ us hl => match us, hl with | [_, _, _], _ => rfl
    fd_ring_behind := fd_ring_behind, F_ring_behind := F_ring_behind, b_ring_behind := F_ring_behind.bindsN fun _ _ _ _ _ _ us hl => match us, hl with | [_, _, _], _ => rfl
    fd_from_all := fd_from_all, F_from_all := F_from_all, b_from_all := F_from_all.bindsN fun _ _ _ _ _ _ us hl => match us, hl with | [_, _], _ => rfl
    fd_settled := fd_settled, F_settled := F_settled, b_settled := F_settled.bindsN fun _ _ _ _ _ _ us hl => match us, hl with | [_, _], _ => rfl
    fd_fixed := fd_fixed, F_fixed := F_fixed, b_fixed := F_fixed.bindsN fun _ _ _ _ _ _ us hl => match us, hl with | [_, _, _, _], _ => rfl
    fd_follows := fd_follows, F_follows := F_follows, b_follows := F_follows.bindsN fun _ _ _ _ _ _ us hl => match us, hl with | [_, _, _, _], _ => rfl
    fd_heights := fd_heights, F_heights := F_heights, b_heights := F_heights.bindsN fun _ _ _ _ _ _ us hl => match us, hl with | [_, _], _ => rfl
    fd_highest := fd_highest, F_highest := F_highest, b_highest := F_highest.bindsN fun _ _ _ _ _ _ us hl => match us, hl with | [_, _, _], _ => rfl
    fd_keep := fd_keep, F_keep := F_keep, b_keep := F_keep.bindsN fun _ _ _ _ _ _ us hl => match us, hl with | [_, _], _ => rfl
    fd_keep_all := fd_keep_all, F_keep_all := F_keep_all, b_keep_all := F_keep_all.bindsN fun _ _ _ _ _ _ us hl => match us, hl with | [_, _, _], _ => rfl
    fd_kept := fd_kept, F_kept := F_kept, b_kept := F_kept.bindsN fun _ _ _ _ _ _ us hl => match us, hl with | [_, _, _], _ => rfl
    fd_lowest := fd_lowest, F_lowest := F_lowest, b_lowest := F_lowest.bindsN fun _ _ _ _ _ _ us hl => match us, hl with | [_, _, _], _ => rfl
    fd_needless := fd_needless, F_needless := F_needless, b_needless := F_needless.bindsN fun _ _ _ _ _ _ us hl => match us, hl with | [_, _, _], _ => rfl
    fd_sum_along := fd_sum_along, F_sum_along := F_sum_along, b_sum_along := F_sum_along.bindsN fun _ _ _ _ _ _ us hl => match us, hl with | [_, _, _, _], _ => rfl
    fd_sum_of := fd_sum_of, F_sum_of := F_sum_of, b_sum_of := F_sum_of.bindsN fun _ _ _ _ _ _ us hl => match us, hl with | [_, _, _, _, _], _ => rfl
    fd__law_ask := fd__law_ask, F__law_ask := F__law_ask, b__law_ask := F__law_ask.bindsN fun _ _ _ _ _ _ us hl => match us, hl with | [_, _, _, _, _], _ => rfl
    fd__law_due := fd__law_due, F__law_due := F__law_due, b__law_due := F__law_due.bindsN fun _ _ _ _ _ _ us hl => match us, hl with | [_, _, _, _, _, _], _ => rfl
    fd_law := fd_law, F_law := F_law, b_law := F_law.bindsN fun _ _ _ _ _ _ us hl => match us, hl with | [_], _ => rfl
    g_BadCount := He.glo_ok X G (cd.fact 0 (f := .glo "BadCount") rfl)
    g_BadNumber := He.glo_ok X G (cd.fact 1 (f := .glo "BadNumber") rfl)
    g_BadPlace := He.glo_ok X G (cd.fact 2 (f := .glo "BadPlace") rfl)
    g_BadSayings := He.glo_ok X G (cd.fact 3 (f := .glo "BadSayings") rfl)
    g_Broken := He.glo_ok X G (cd.fact 4 (f := .glo "Broken") rfl)
    g_SayError := He.glo_ok X G (cd.fact 5 (f := .glo "SayError") rfl)
    g__law_ask := He.glo_ok X G (cd.fact 6 (f := .glo "_law_ask") rfl)
    g__law_bad_chains := He.glo_ok X G (cd.fact 7 (f := .glo "_law_bad_chains") rfl)
    g__law_bad_heights := He.glo_ok X G (cd.fact 8 (f := .glo "_law_bad_heights") rfl)
    g__law_bad_numbers := He.glo_ok X G (cd.fact 9 (f := .glo "_law_bad_numbers") rfl)
    g__law_bad_places := He.glo_ok X G (cd.fact 10 (f := .glo "_law_bad_places") rfl)
    g__law_bad_sayings := He.glo_ok X G (cd.fact 11 (f := .glo "_law_bad_sayings") rfl)
    g__law_counts := He.glo_ok X G (cd.fact 12 (f := .glo "_law_counts") rfl)
    g__law_due := He.glo_ok X G (cd.fact 13 (f := .glo "_law_due") rfl)
    g_check_places := He.glo_ok X G (cd.fact 14 (f := .glo "check_places") rfl)
    g_check_sayings := He.glo_ok X G (cd.fact 15 (f := .glo "check_sayings") rfl)
    g_fixed := He.glo_ok X G (cd.fact 16 (f := .glo "fixed") rfl)
    g_follows := He.glo_ok X G (cd.fact 17 (f := .glo "follows") rfl)
    g_from_all := He.glo_ok X G (cd.fact 18 (f := .glo "from_all") rfl)
    g_heights := He.glo_ok X G (cd.fact 19 (f := .glo "heights") rfl)
    g_highest := He.glo_ok X G (cd.fact 20 (f := .glo "highest") rfl)
    g_is_below := He.glo_ok X G (cd.fact 21 (f := .glo "is_below") rfl)
    g_is_number := He.glo_ok X G (cd.fact 22 (f := .glo "is_number") rfl)
    g_is_saying := He.glo_ok X G (cd.fact 23 (f := .glo "is_saying") rfl)
    g_keep := He.glo_ok X G (cd.fact 24 (f := .glo "keep") rfl)
    g_keep_all := He.glo_ok X G (cd.fact 25 (f := .glo "keep_all") rfl)
    g_kept := He.glo_ok X G (cd.fact 26 (f := .glo "kept") rfl)
    g_law := He.glo_ok X G (cd.fact 27 (f := .glo "law") rfl)
    g_lessened := He.glo_ok X G (cd.fact 28 (f := .glo "lessened") rfl)
    g_lowest := He.glo_ok X G (cd.fact 29 (f := .glo "lowest") rfl)
    g_needless := He.glo_ok X G (cd.fact 30 (f := .glo "needless") rfl)
    g_ring_behind := He.glo_ok X G (cd.fact 31 (f := .glo "ring_behind") rfl)
    g_settled := He.glo_ok X G (cd.fact 32 (f := .glo "settled") rfl)
    g_sum_along := He.glo_ok X G (cd.fact 33 (f := .glo "sum_along") rfl)
    g_sum_of := He.glo_ok X G (cd.fact 34 (f := .glo "sum_of") rfl)
    n_ValueError := He.free_ok X G (cd.fact 35 (f := .free "ValueError") rfl)
    n_all := He.free_ok X G (cd.fact 36 (f := .free "all") rfl)
    n_bool := He.free_ok X G (cd.fact 37 (f := .free "bool") rfl)
    n_enumerate := He.free_ok X G (cd.fact 38 (f := .free "enumerate") rfl)
    n_int := He.free_ok X G (cd.fact 39 (f := .free "int") rfl)
    n_isinstance := He.free_ok X G (cd.fact 40 (f := .free "isinstance") rfl)
    n_len := He.free_ok X G (cd.fact 41 (f := .free "len") rfl)
    n_list := He.free_ok X G (cd.fact 42 (f := .free "list") rfl)
    n_range := He.free_ok X G (cd.fact 43 (f := .free "range") rfl)
    n_tuple := He.free_ok X G (cd.fact 44 (f := .free "tuple") rfl)
    x_BadCount := He.exc_ok (cd.fact 45 (f := .exc "BadCount") rfl)
    x_BadNumber := He.exc_ok (cd.fact 46 (f := .exc "BadNumber") rfl)
    x_BadPlace := He.exc_ok (cd.fact 47 (f := .exc "BadPlace") rfl)
    x_BadSayings := He.exc_ok (cd.fact 48 (f := .exc "BadSayings") rfl)
    e8 := e8B_ok (c.ck 0 (f := e8B) rfl)
    xfF := xfFB_ok (c.ck 1 (f := xfFB) rfl)
    o_Broken := oxFB_ok (c.ck 2 (f := oxFB) rfl)
  }
  have e := hfa.symm.trans T.g_law
  cases e
  have b := FunD.bindsA (ps := ["_law_script"]) T.F_law fun _ _ _ _ _ _ us hl => match us, hl with | [_], _ => rfl
  exact ⟨T.fd_law, fun s v => b s [v] rfl, fun base _ _ => ok_law T⟩
end R8
end Am
open PySem PySem.W PySem.Calls PyProof.Rows
theorem PySem.Challenge.cw_atmost_k08_refused_holds : PySem.Challenge.rw_atmost_k08_refused.Holds := by
  w_on; o_law
  refine HandSHeadRun.head_any (r := Am.R8.Rw) (q := view Am.R8.Rw.prog [55]) (H := Am.R8.hk) (ob := Am.R8.ob) (M := 6000) (loose := Am.R8.loose) (d := HandSHeadRun.topDef Am.R8.Rw.prog 55) (kwd := []) Am.R8.ob_eq
    (by kernel_rfl) (fun s => by kernel_rfl) Am.R8.run_top (by kernel_rfl) (by kernel_rfl) (by kernel_rfl) (by rfl) (by first | assumption | decide +kernel) (by decide +kernel) ⟨rfl, rfl, rfl, rfl, rfl, by decide +kernel⟩ ?hw ?hc
  case hw => w_witness2
  case hc =>
    refine L2.walk_ofE (l := PySem.Challenge.rw_atmost_k08_refused) (n := 63) (k := 8) (x := "_law_script") (CX := L2.CX0) rfl (by decide) (by kernel_rfl) ⟨rfl, by decide, by decide⟩ ?F (fun _ _ _ _ z => z)
    intro w mg fa h Y G hmg0
    obtain ⟨K, KX, c⟩ := Y
    have hmg : mg ("law" : PySem.Str) = some (.ref fa) := by
      have e : (HandSHeadRun.topDef Am.R8.Rw.prog 55).name = ("law" : PySem.Str) := by kernel_rfl
      rw [← e]
      exact hmg0
    obtain ⟨fd, hb, hF⟩ := Am.R8.facts (P := (PySem.Challenge.rw_atmost_k08_refused).prog) (w := w) KX G hmg c
    exact ⟨K, fd, Am.sp_law K, KX, hb, fun H a ns hl _ hS => ⟨a, ns, rfl, hS, hl, fun _ => rfl⟩, hF⟩
#print axioms PySem.Challenge.cw_atmost_k08_refused_holds

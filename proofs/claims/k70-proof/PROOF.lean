import PyProof.Rows.All
import HandS.ForMost
import HandS.ForExc
import HandS.Deep
import HandS.TupAny
import HandS.TupMul
import HandS.Wide
import HandS.WordsList
import HandS.Conv
import HandS.IsInst
import HandS.Style
import HandS.Evl
import HandS.RaiseMore
import PyProof.ReprRoads
import HandS.SortInts
import HandS.Ends
import PySem.Challenge.RW_sameribbons_k70_whole_one_ribbon_less
import PyProof.ReprBulk
set_option Elab.async false
set_option linter.all false
set_option maxRecDepth 100000
/-! M70: rows of letters with nothing that goes out again, loops (plain Lean). -/
namespace G70
/-- a letter put on the heap st (its top stands first) -/
def push (x : Int) (st : List Int) : List Int := match st with
  | y :: t => if y = -x then t else x :: y :: t
  | [] => [x]
def A (st w : List Int) : List Int := w.foldl (fun st x => push x st) st
def red (w : List Int) : List Int := (A [] w).reverse
def bk (w : List Int) : List Int := w.reverse.map fun x => -x
def Rd : List Int → Prop
  | x :: y :: t => y ≠ -x ∧ Rd (y :: t)
  | _ => True
theorem A_nil (st : List Int) : A st [] = st := rfl
theorem A_cons (st : List Int) (x : Int) (w : List Int) : A st (x :: w) = A (push x st) w := rfl
theorem A_app (st u v : List Int) : A st (u ++ v) = A (A st u) v := by unfold A; rw [List.foldl_append]
theorem Rd.tl {x : Int} {t : List Int} (h : Rd (x :: t)) : Rd t := by
  cases t with
  | nil => trivial
  | cons y t => exact h.2
theorem push_rd {x : Int} {st : List Int} (h : Rd st) : Rd (push x st) := by
  cases st with
  | nil => trivial
  | cons y t =>
    unfold push
    by_cases e : y = -x
    · simp only [e, if_true]; exact h.tl
    · simp only [e, if_false]; exact ⟨e, h⟩
theorem push_inv {x : Int} {st : List Int} (h : Rd st) : push (-x) (push x st) = st := by
  cases st with
  | nil => simp [push]
  | cons y t =>
    by_cases e : y = -x
    · subst e
      cases t with
      | nil => simp [push]
      | cons z t =>
        have h1 : z ≠ - -x := h.1
        simp only [push, if_true]
        rw [if_neg h1]
    · simp [push, e]
theorem A_rd : ∀ {w st : List Int}, Rd st → Rd (A st w)
  | [], _, h => h
  | x :: w, st, h => A_rd (w := w) (push_rd h)
theorem A_red : ∀ (w : List Int) {st : List Int}, Rd st → A st (red w) = A st w := by
  intro w
  -- from the end
  have key : ∀ (n : Nat) (w : List Int), w.length = n → ∀ {st : List Int}, Rd st → A st (A [] w).reverse = A st w := by
    intro n
    induction n with
    | zero =>
      intro w h st hs
      have : w = [] := List.length_eq_zero_iff.mp h
      subst this
      rfl
    | succ n ih =>
      intro w h st hs
      have hne : w ≠ [] := fun e => by subst e; simp at h
      obtain ⟨v, x, rfl⟩ : ∃ v x, w = v ++ [x] := ⟨w.dropLast, w.getLast hne, (List.dropLast_concat_getLast hne).symm⟩
      have hv : v.length = n := by simpa using h
      have e := ih v hv hs
      rw [A_app [] v [x], A_app st v [x]]
      show A st (push x (A [] v)).reverse = push x (A st v)
      cases hT : A [] v with
      | nil =>
        rw [hT] at e
        rw [← e]
        rfl
      | cons y t =>
        rw [hT] at e
        rw [List.reverse_cons, A_app] at e
        by_cases hy : y = -x
        · subst hy
          have : push x (-x :: t) = t := by simp [push]
          rw [this, ← e]
          have h2 := push_inv (x := -x) (A_rd (w := t.reverse) hs)
          rw [Int.neg_neg] at h2
          exact h2.symm
        · have : push x (y :: t) = x :: y :: t := by simp [push, hy]
          rw [this, List.reverse_cons, List.reverse_cons, A_app, A_app, ← e]
          rfl
  intro st hs
  exact key w.length w rfl hs
/-- alike rows of letters -/
def Eqv (u v : List Int) : Prop := ∀ st, Rd st → A st u = A st v
theorem Eqv.refl (u : List Int) : Eqv u u := fun _ _ => rfl
theorem Eqv.symm {u v : List Int} (h : Eqv u v) : Eqv v u := fun st hs => (h st hs).symm
theorem Eqv.trans {u v w : List Int} (h : Eqv u v) (h' : Eqv v w) : Eqv u w := fun st hs => (h st hs).trans (h' st hs)
theorem Eqv.app {u v u' v' : List Int} (h : Eqv u v) (h' : Eqv u' v') : Eqv (u ++ u') (v ++ v') := fun st hs => by
  rw [A_app, A_app, h st hs]
  exact h' _ (A_rd hs)
theorem red_eqv (u : List Int) : Eqv (red u) u := fun st hs => A_red u hs
theorem red_of {u v : List Int} (h : Eqv u v) : red u = red v := by unfold red; rw [h [] trivial]
theorem eqv_of {u v : List Int} (h : red u = red v) : Eqv u v := (red_eqv u).symm.trans (h ▸ red_eqv v)
theorem eqv_pair (x : Int) : Eqv [x, -x] [] := fun st hs => by
  show push (-x) (push x st) = st
  exact push_inv hs
theorem bk_app (u v : List Int) : bk (u ++ v) = bk v ++ bk u := by simp [bk]
theorem bk_bk (u : List Int) : bk (bk u) = u := by
  unfold bk
  rw [← List.map_reverse, List.reverse_reverse, List.map_map]
  conv => rhs; rw [← List.map_id u]
  exact List.map_congr_left fun x _ => by simp
theorem eqv_bk : ∀ u : List Int, Eqv (u ++ bk u) []
  | [] => .refl _
  | x :: u => by
    have e : (x :: u) ++ bk (x :: u) = [x] ++ ((u ++ bk u) ++ [-x]) := by simp [bk]
    rw [e]
    refine ((Eqv.refl [x]).app ((eqv_bk u).app (.refl [-x]))).trans ?_
    exact eqv_pair x
theorem eqv_bk' (u : List Int) : Eqv (bk u ++ u) [] := by
  have := eqv_bk (bk u)
  rwa [bk_bk] at this
theorem Eqv.bk {u v : List Int} (h : Eqv u v) : Eqv (bk u) (bk v) := by
  -- u⁻¹ ~ u⁻¹ v v⁻¹ ~ u⁻¹ u v⁻¹ ~ v⁻¹
  have h1 : Eqv (G70.bk u) (G70.bk u ++ (v ++ G70.bk v)) := by
    have := (Eqv.refl (G70.bk u)).app (eqv_bk v).symm
    simpa using this
  have h2 : Eqv (G70.bk u ++ (v ++ G70.bk v)) (G70.bk u ++ (u ++ G70.bk v)) := (Eqv.refl _).app (h.symm.app (.refl _))
  have h3 : Eqv (G70.bk u ++ (u ++ G70.bk v)) (G70.bk v) := by
    have := (eqv_bk' u).app (Eqv.refl (G70.bk v))
    simpa [List.append_assoc] using this
  exact h1.trans (h2.trans h3)
theorem red_red (u : List Int) : red (red u) = red u := red_of (red_eqv u)
theorem A_len : ∀ (w st : List Int), (A st w).length ≤ st.length + w.length
  | [], st => by simp [A_nil]
  | x :: w, st => by
    have := A_len w (push x st)
    have h2 : (push x st).length ≤ st.length + 1 := by
      cases st with
      | nil => simp [push]
      | cons y t => unfold push; simp only; split <;> simp <;> omega
    rw [A_cons, List.length_cons]
    omega
theorem len_red (w : List Int) : (red w).length ≤ w.length := by
  have := A_len w []
  simpa [red] using this
end G70

/-! M70b: loops, and that known moves keep them. -/
namespace G70
abbrev Lp := List (List Int)
def redL (L : Lp) : Prop := ∀ l ∈ L, red l = l
/-- the two loops behind a passing -/
def actP (p : Int) (l r : List Int) : List Int × List Int := if 0 < p then (red (l ++ r ++ bk l), l) else (r, red (bk r ++ l ++ r))
def step (L : Lp) (p : Int) : Lp := let k := p.natAbs - 1
  (L.set k (actP p (L.getD k []) (L.getD (k + 1) [])).1).set (k + 1) (actP p (L.getD k []) (L.getD (k + 1) [])).2
def loops (L : Lp) (w : List Int) : Lp := w.foldl step L
theorem loops_app (L : Lp) (u v : List Int) : loops L (u ++ v) = loops (loops L u) v := by unfold loops; rw [List.foldl_append]
theorem step_at {p : Int} (pre : Lp) (l r : List Int) (post : Lp) (h : p.natAbs = pre.length + 1) : step (pre ++ l :: r :: post) p = pre ++ (actP p l r).1 :: (actP p l r).2 :: post := by
  unfold step
  have hk : p.natAbs - 1 = pre.length := by omega
  simp only [hk]
  have g1 : (pre ++ l :: r :: post).getD pre.length [] = l := by simp [List.getD]
  have g2 : (pre ++ l :: r :: post).getD (pre.length + 1) [] = r := by
    simp [List.getD, List.getElem?_append_right]
  rw [g1, g2, List.set_append_right _ _ (Nat.le_refl _), Nat.sub_self, List.set_append_right _ _ (by omega), show pre.length + 1 - pre.length = 1 by omega]
  rfl
theorem len_step (L : Lp) (p : Int) : (step L p).length = L.length := by simp [step]
theorem split2 {α : Type} {L : List α} {k : Nat} (h : k + 1 < L.length) : ∃ pre l r post, L = pre ++ l :: r :: post ∧ pre.length = k := by
  refine ⟨L.take k, L[k], L[k + 1], L.drop (k + 2), ?_, by rw [List.length_take]; omega⟩
  rw [← List.drop_eq_getElem_cons, ← List.drop_eq_getElem_cons, List.take_append_drop]
theorem split3 {α : Type} {L : List α} {k : Nat} (h : k + 2 < L.length) : ∃ pre a b c post, L = pre ++ a :: b :: c :: post ∧ pre.length = k := by
  refine ⟨L.take k, L[k], L[k + 1], L[k + 2], L.drop (k + 3), ?_, by rw [List.length_take]; omega⟩
  rw [← List.drop_eq_getElem_cons, ← List.drop_eq_getElem_cons, ← List.drop_eq_getElem_cons, List.take_append_drop]
theorem split4 {α : Type} {L : List α} {k j : Nat} (hkj : k + 2 ≤ j) (h : j + 1 < L.length) : ∃ pre a b mid c d post, L = pre ++ a :: b :: (mid ++ c :: d :: post) ∧ pre.length = k ∧ pre.length + 2 + mid.length = j := by
  obtain ⟨pre, a, b, rest, rfl, hp⟩ := split2 (L := L) (k := k) (by omega)
  simp only [List.length_append, List.length_cons] at h
  obtain ⟨mid, c, d, post, e, hm⟩ := split2 (L := rest) (k := j - (k + 2)) (by omega)
  exact ⟨pre, a, b, mid, c, d, post, by rw [e], hp, by omega⟩
theorem redL.step {L : Lp} (h : redL L) {p : Int} (hp : p.natAbs + 1 ≤ L.length) (h0 : p ≠ 0) : redL (step L p) := by
  obtain ⟨pre, l, r, post, rfl, hk⟩ := split2 (L := L) (k := p.natAbs - 1) (by omega)
  rw [step_at pre l r post (by omega)]
  have hl : red l = l := h l (by simp)
  have hr : red r = r := h r (by simp)
  intro x hx
  simp only [List.mem_append, List.mem_cons] at hx
  rcases hx with z | z | z | z
  · exact h x (by simp [z])
  · subst z
    unfold actP
    split
    · exact red_red _
    · exact hr
  · subst z
    unfold actP
    split
    · exact hl
    · exact red_red _
  · exact h x (by simp [z])
/-! ### the moves -/
theorem act_inv {p : Int} (h0 : p ≠ 0) {l r : List Int} (hl : red l = l) (hr : red r = r) : actP (-p) (actP p l r).1 (actP p l r).2 = (l, r) := by
  by_cases hp : 0 < p
  · have hn : ¬ 0 < -p := by omega
    simp only [actP, hp, hn, if_true, if_false]
    congr 1
    conv => rhs; rw [← hr]
    refine red_of ?_
    -- l⁻¹ (l r l⁻¹) l ~ r
    have e1 : Eqv (bk l ++ red (l ++ r ++ bk l) ++ l) (bk l ++ (l ++ r ++ bk l) ++ l) := ((Eqv.refl _).app (red_eqv _)).app (.refl _)
    have e2 : Eqv (bk l ++ (l ++ r ++ bk l) ++ l) r := by
      have := ((eqv_bk' l).app (Eqv.refl r)).app (eqv_bk' l)
      simpa [List.append_assoc] using this
    exact e1.trans e2
  · have hn : 0 < -p := by omega
    simp only [actP, hp, hn, if_true, if_false]
    congr 1
    conv => rhs; rw [← hl]
    refine red_of ?_
    have e1 : Eqv (r ++ red (bk r ++ l ++ r) ++ bk r) (r ++ (bk r ++ l ++ r) ++ bk r) := ((Eqv.refl _).app (red_eqv _)).app (.refl _)
    have e2 : Eqv (r ++ (bk r ++ l ++ r) ++ bk r) l := by
      have := ((eqv_bk r).app (Eqv.refl l)).app (eqv_bk r)
      simpa [List.append_assoc] using this
    exact e1.trans e2
theorem mv_free {L : Lp} (h : redL L) {p : Int} (hp : p.natAbs + 1 ≤ L.length) (h0 : p ≠ 0) : loops L [p, -p] = L := by
  obtain ⟨pre, l, r, post, rfl, hk⟩ := split2 (L := L) (k := p.natAbs - 1) (by omega)
  show step (step _ p) (-p) = _
  rw [step_at pre l r post (by omega), step_at pre _ _ post (by omega), act_inv h0 (h l (by simp)) (h r (by simp))]
theorem mv_far1 {L : Lp} {p q : Int} (hpq : p.natAbs + 1 < q.natAbs) (hq : q.natAbs + 1 ≤ L.length) (hp0 : p ≠ 0) : loops L [p, q] = loops L [q, p] := by
  obtain ⟨pre, a, b, mid, c, d, post, rfl, h1, h2⟩ := split4 (L := L) (k := p.natAbs - 1) (j := q.natAbs - 1) (by omega) (by omega)
  show step (step _ p) q = step (step _ q) p
  have r1 : ∀ (a b : List Int), pre ++ a :: b :: (mid ++ c :: d :: post) = (pre ++ a :: b :: mid) ++ c :: d :: post := fun a b => by simp
  have r2 : ∀ (a b c d : List Int), (pre ++ a :: b :: mid) ++ c :: d :: post = pre ++ a :: b :: (mid ++ c :: d :: post) := fun a b c d => by simp
  rw [step_at pre a b _ (by omega), r1, step_at _ c d post (by simp; omega), r1 a b, step_at _ c d post (by simp; omega), r2, r2, step_at pre a b _ (by omega)]
theorem mv_far {L : Lp} {p q : Int} (h : p.natAbs + 1 < q.natAbs ∨ q.natAbs + 1 < p.natAbs) (hp : p.natAbs + 1 ≤ L.length) (hq : q.natAbs + 1 ≤ L.length) (hp0 : p ≠ 0) (hq0 : q ≠ 0) : loops L [p, q] = loops L [q, p] := by
  rcases h with h | h
  · exact mv_far1 h hq hp0
  · exact (mv_far1 h hp hq0).symm
theorem cj (u v : List Int) : Eqv (red (u ++ v ++ bk u)) (u ++ v ++ bk u) := red_eqv _
theorem cj' (u v : List Int) : Eqv (red (bk u ++ v ++ u)) (bk u ++ v ++ u) := red_eqv _
/-- three dancers, two neighbouring passings of one sign -/
theorem mv_braid1 {L : Lp} {p q : Int} (hq : q.natAbs = p.natAbs + 1) (hs : (0 < p ∧ 0 < q) ∨ (p < 0 ∧ q < 0)) (hl : q.natAbs + 1 ≤ L.length) : loops L [p, q, p] = loops L [q, p, q] := by
  obtain ⟨pre, a, b, c, post, rfl, hk⟩ := split3 (L := L) (k := p.natAbs - 1) (by omega)
  show step (step (step _ p) q) p = step (step (step _ q) p) q
  have s1 : ∀ x y z : List Int, step (pre ++ x :: y :: z :: post) p = pre ++ (actP p x y).1 :: (actP p x y).2 :: z :: post := fun x y z => step_at pre x y _ (by omega)
  have s2 : ∀ x y z : List Int, step (pre ++ x :: y :: z :: post) q = pre ++ x :: (actP q y z).1 :: (actP q y z).2 :: post := fun x y z => by
    have := step_at (p := q) (pre ++ [x]) y z post (by simp; omega)
    simpa using this
  rw [s1, s2, s1, s2, s1, s2]
  rcases hs with ⟨h1, h2⟩ | ⟨h1, h2⟩
  · simp only [actP, h1, h2, if_true]
    congr 2
    · refine red_of ?_
      -- (a b a')(a c a')(a b a')' ~ a (b c b') a'
      have e1 : Eqv (red (a ++ b ++ bk a) ++ red (a ++ c ++ bk a) ++ bk (red (a ++ b ++ bk a))) ((a ++ b ++ bk a) ++ (a ++ c ++ bk a) ++ bk (a ++ b ++ bk a)) := ((cj a b).app (cj a c)).app (cj a b).bk
      have e2 : Eqv (a ++ red (b ++ c ++ bk b) ++ bk a) (a ++ (b ++ c ++ bk b) ++ bk a) := ((Eqv.refl _).app (cj b c)).app (.refl _)
      refine e1.trans (Eqv.trans ?_ e2.symm)
      have m1 : Eqv ((a ++ b) ++ (bk a ++ a) ++ (c ++ ((bk a ++ a) ++ (bk b ++ bk a)))) ((a ++ b) ++ [] ++ (c ++ ([] ++ (bk b ++ bk a)))) :=
        ((Eqv.refl _).app (eqv_bk' a)).app ((Eqv.refl _).app ((eqv_bk' a).app (.refl _)))
      simpa [bk_app, bk_bk, List.append_assoc] using m1
  · have h1' : ¬ 0 < p := by omega
    have h2' : ¬ 0 < q := by omega
    simp only [actP, h1', h2', if_false]
    congr 4
    refine red_of ?_
    -- c'(b' a b)c ~ (c' b c)' (c' a c) (c' b c)
    have e1 : Eqv (bk c ++ red (bk b ++ a ++ b) ++ c) (bk c ++ (bk b ++ a ++ b) ++ c) := ((Eqv.refl _).app (cj' b a)).app (.refl _)
    have e2 : Eqv (bk (red (bk c ++ b ++ c)) ++ red (bk c ++ a ++ c) ++ red (bk c ++ b ++ c)) (bk (bk c ++ b ++ c) ++ (bk c ++ a ++ c) ++ (bk c ++ b ++ c)) := ((cj' c b).bk.app (cj' c a)).app (cj' c b)
    refine e1.trans (Eqv.trans ?_ e2.symm)
    have m1 : Eqv ((bk c ++ bk b) ++ (c ++ bk c) ++ (a ++ ((c ++ bk c) ++ (b ++ c)))) ((bk c ++ bk b) ++ [] ++ (a ++ ([] ++ (b ++ c)))) :=
      ((Eqv.refl _).app (eqv_bk c)).app ((Eqv.refl _).app ((eqv_bk c).app (.refl _)))
    refine Eqv.symm ?_
    simpa [bk_app, bk_bk, List.append_assoc] using m1
end G70

/-! M70c: one ribbon less, and known moves. -/
namespace G70
def sw (k : Nat) (row : List Int) : List Int := (row.set k (row.getD (k + 1) 0)).set (k + 1) (row.getD k 0)
def ls (p : Int) (b : Bool) : Int := if 0 < p then (p.natAbs : Int) - (if b then 1 else 0) else -((p.natAbs : Int) - (if b then 1 else 0))
def lo (d : Int) : List Int → List Int → List Int
  | _, [] => []
  | row, p :: w => let k := p.natAbs - 1
    if d = row.getD k 0 ∨ d = row.getD (k + 1) 0 then lo d (sw k row) w else ls p (decide (d ∈ row.take k)) :: lo d (sw k row) w
theorem len_sw (k : Nat) (row : List Int) : (sw k row).length = row.length := by simp [sw]
structure Row (n : Nat) (row : List Int) : Prop where
  len : row.length = n
  nd : row.Nodup
theorem sw_at (pre : List Int) (a b : Int) (post : List Int) : sw pre.length (pre ++ a :: b :: post) = pre ++ b :: a :: post := by
  unfold sw
  have g1 : (pre ++ a :: b :: post).getD pre.length 0 = a := by simp [List.getD]
  have g2 : (pre ++ a :: b :: post).getD (pre.length + 1) 0 = b := by simp [List.getD, List.getElem?_append_right]
  rw [g1, g2, List.set_append_right _ _ (Nat.le_refl _), Nat.sub_self, List.set_append_right _ _ (by omega), show pre.length + 1 - pre.length = 1 by omega]
  rfl
theorem lo_at {d p : Int} {pre : List Int} {a b : Int} {post w : List Int} (h : p.natAbs = pre.length + 1) :
    lo d (pre ++ a :: b :: post) (p :: w) = if d = a ∨ d = b then lo d (pre ++ b :: a :: post) w else ls p (decide (d ∈ pre)) :: lo d (pre ++ b :: a :: post) w := by
  have hk : p.natAbs - 1 = pre.length := by omega
  have g1 : (pre ++ a :: b :: post).getD pre.length 0 = a := by simp [List.getD]
  have g2 : (pre ++ a :: b :: post).getD (pre.length + 1) 0 = b := by simp [List.getD, List.getElem?_append_right]
  have g3 : (pre ++ a :: b :: post).take pre.length = pre := by simp
  simp only [lo, hk, g1, g2, g3, sw_at]
/-- the row behind w -/
def ra (row w : List Int) : List Int := w.foldl (fun row p => sw (p.natAbs - 1) row) row
theorem ra_app (row u v : List Int) : ra row (u ++ v) = ra (ra row u) v := by unfold ra; rw [List.foldl_append]
theorem lo_app (d : Int) : ∀ (u row v : List Int), lo d row (u ++ v) = lo d row u ++ lo d (ra row u) v
  | [], row, v => rfl
  | p :: u, row, v => by
    have := lo_app d u (sw (p.natAbs - 1) row) v
    simp only [List.cons_append, lo]
    have e : ra row (p :: u) = ra (sw (p.natAbs - 1) row) u := rfl
    rw [e]
    split <;> simp [this]
theorem ra_at {p : Int} {pre : List Int} {a b : Int} {post w : List Int} (h : p.natAbs = pre.length + 1) : ra (pre ++ a :: b :: post) (p :: w) = ra (pre ++ b :: a :: post) w := by
  have hk : p.natAbs - 1 = pre.length := by omega
  show ra (sw (p.natAbs - 1) _) w = _
  rw [hk, sw_at]
theorem ls_abs {p : Int} {b : Bool} (h : b = true → 2 ≤ p.natAbs) : (ls p b).natAbs = p.natAbs - (if b then 1 else 0) := by
  unfold ls
  cases b with
  | true => have := h rfl; simp only [if_true]; split <;> omega
  | false => simp only [Bool.false_eq_true, if_false]; split <;> omega
theorem ls_pos {p : Int} {b : Bool} (h : b = true → 2 ≤ p.natAbs) (h0 : p ≠ 0) : 0 < ls p b ↔ 0 < p := by
  unfold ls
  cases b with
  | true => have := h rfl; simp only [if_true]; split <;> omega
  | false => simp only [Bool.false_eq_true, if_false]; split <;> omega
theorem ls_neg {p : Int} {b : Bool} (h0 : p ≠ 0) : ls (-p) b = -(ls p b) := by
  unfold ls
  by_cases h : 0 < p
  · have h' : ¬ 0 < -p := by omega
    simp only [h, h', if_true, if_false, Int.natAbs_neg]
  · have h' : 0 < -p := by omega
    simp only [h, h', if_true, if_false, Int.natAbs_neg]
    omega
/-- u may stand for v, among n dancers -/
structure Al (n : Nat) (u v : List Int) : Prop where
  row : ∀ row, Row n row → ra row u = ra row v
  lps : ∀ row d L, Row n row → d ∈ row → redL L → L.length + 1 = n → loops L (lo d row u) = loops L (lo d row v)
theorem Al.refl (n : Nat) (u : List Int) : Al n u u := ⟨fun _ _ => rfl, fun _ _ _ _ _ _ _ => rfl⟩
theorem Al.symm {n : Nat} {u v : List Int} (h : Al n u v) : Al n v u := ⟨fun r hr => (h.row r hr).symm, fun r d L a b c e => (h.lps r d L a b c e).symm⟩
theorem Al.trans {n : Nat} {u v w : List Int} (h : Al n u v) (h' : Al n v w) : Al n u w := ⟨fun r hr => (h.row r hr).trans (h'.row r hr), fun r d L a b c e => (h.lps r d L a b c e).trans (h'.lps r d L a b c e)⟩
/-- a word of n dancers -/
def Wn (n : Nat) (w : List Int) : Prop := ∀ p ∈ w, p ≠ 0 ∧ p.natAbs < n
theorem Wn.tl {n : Nat} {p : Int} {w : List Int} (h : Wn n (p :: w)) : Wn n w := fun q hq => h q (by simp [hq])
theorem Wn.app {n : Nat} {u v : List Int} (h : Wn n u) (h' : Wn n v) : Wn n (u ++ v) := fun q hq => (List.mem_append.mp hq).elim (h q) (h' q)
theorem Wn.left {n : Nat} {u v : List Int} (h : Wn n (u ++ v)) : Wn n u := fun q hq => h q (by simp [hq])
theorem Wn.right {n : Nat} {u v : List Int} (h : Wn n (u ++ v)) : Wn n v := fun q hq => h q (by simp [hq])
theorem ra_ok {n : Nat} : ∀ {w row : List Int}, Wn n w → Row n row → Row n (ra row w) ∧ ∀ d, d ∈ row ↔ d ∈ ra row w
  | [], row, _, h => ⟨h, fun _ => Iff.rfl⟩
  | p :: w, row, hw, h => by
    have hp := hw p (by simp)
    obtain ⟨pre, a, b, post, rfl, hk⟩ := split2 (L := row) (k := p.natAbs - 1) (by rw [h.len]; omega)
    rw [ra_at (by omega)]
    have pm : (pre ++ b :: a :: post).Perm (pre ++ a :: b :: post) := List.Perm.append_left pre (List.Perm.swap a b post)
    obtain ⟨h1, h2⟩ := ra_ok (w := w) (row := pre ++ b :: a :: post) hw.tl ⟨by rw [pm.length_eq, h.len], pm.nodup_iff.mpr h.nd⟩
    exact ⟨h1, fun d => pm.mem_iff.symm.trans (h2 d)⟩
theorem redL_loops : ∀ {w : List Int} {L : Lp}, redL L → (∀ p ∈ w, p ≠ 0 ∧ p.natAbs + 1 ≤ L.length) → redL (loops L w) ∧ (loops L w).length = L.length
  | [], L, h, _ => ⟨h, rfl⟩
  | p :: w, L, h, hw => by
    have hp := hw p (by simp)
    obtain ⟨h1, h2⟩ := redL_loops (w := w) (L := step L p) (h.step hp.2 hp.1) (fun q hq => by rw [len_step]; exact hw q (by simp [hq]))
    exact ⟨h1, (show (loops (step L p) w).length = L.length by rw [h2, len_step])⟩
/-- what is left is a word of one dancer fewer -/
theorem lo_word {n : Nat} {d : Int} : ∀ {w row : List Int}, Wn n w → Row n row → d ∈ row → ∀ q ∈ lo d row w, q ≠ 0 ∧ q.natAbs + 1 < n
  | [], row, _, _, _, q, hq => by simp [lo] at hq
  | p :: w, row, hw, h, hd, q, hq => by
    have hp := hw p (by simp)
    obtain ⟨pre, a, b, post, rfl, hk⟩ := split2 (L := row) (k := p.natAbs - 1) (by rw [h.len]; omega)
    have pm : (pre ++ b :: a :: post).Perm (pre ++ a :: b :: post) := List.Perm.append_left pre (List.Perm.swap a b post)
    have h' : Row n (pre ++ b :: a :: post) := ⟨by rw [pm.length_eq, h.len], pm.nodup_iff.mpr h.nd⟩
    have ih := lo_word (d := d) (w := w) hw.tl h' (pm.mem_iff.mpr hd)
    rw [lo_at (by omega)] at hq
    have hl := h.len
    simp only [List.length_append, List.length_cons] at hl
    by_cases hc : d = a ∨ d = b
    · rw [if_pos hc] at hq
      exact ih q hq
    · rw [if_neg hc] at hq
      rcases List.mem_cons.mp hq with z | z
      · subst z
        have hc1 : d ≠ a := fun e => hc (.inl e)
        have hc2 : d ≠ b := fun e => hc (.inr e)
        have hd2 : d ∈ pre ∨ d ∈ post := by simpa [hc1, hc2] using hd
        by_cases hpre : d ∈ pre
        · have hpl := List.length_pos_of_mem hpre
          have e := ls_abs (p := p) (b := decide (d ∈ pre)) (fun _ => by omega)
          simp only [hpre, decide_true, if_true] at e ⊢
          exact ⟨fun z => by rw [z] at e; simp at e; omega, by omega⟩
        · have hpo : d ∈ post := hd2.resolve_left hpre
          have hpl := List.length_pos_of_mem hpo
          have e := ls_abs (p := p) (b := decide (d ∈ pre)) (fun z => absurd (of_decide_eq_true z) hpre)
          simp only [hpre, decide_false, Bool.false_eq_true, if_false] at e ⊢
          exact ⟨fun z => by rw [z] at e; simp at e; omega, by omega⟩
      · exact ih q z
theorem Al.app {n : Nat} {u v x y : List Int} (h : Al n u v) (hu : Wn n u) (hv : Wn n v) (hx : Wn n x) (hy : Wn n y) : Al n (x ++ (u ++ y)) (x ++ (v ++ y)) := by
  refine ⟨fun row hr => ?_, fun row d L hr hd hL hl => ?_⟩
  · rw [ra_app, ra_app, ra_app, ra_app, h.row _ (ra_ok hx hr).1]
  · have hr2 := ra_ok hx hr
    have hd2 := (hr2.2 d).mp hd
    rw [lo_app, lo_app, lo_app, lo_app, loops_app, loops_app, loops_app, loops_app, h.row _ hr2.1]
    have hw := lo_word hx hr hd
    have hL2 := redL_loops hL (w := lo d row x) (fun p hp => ⟨(hw p hp).1, by have := (hw p hp).2; omega⟩)
    rw [h.lps _ d _ hr2.1 hd2 hL2.1 (by rw [hL2.2]; exact hl)]
end G70

/-! M70d: known moves keep what is left of a word. -/
namespace G70
theorem val_of {n : Nat} {d p : Int} {row : List Int} (hp : p ≠ 0 ∧ p.natAbs < n) (h : Row n row) (hd : d ∈ row) {q : Int} (e : lo d row [p] = [q]) : q ≠ 0 ∧ q.natAbs + 1 < n :=
  lo_word (w := [p]) (fun x hx => by simp at hx; subst hx; exact hp) h hd q (by rw [e]; simp)
theorem al_free {n : Nat} {p : Int} (hp : p ≠ 0 ∧ p.natAbs < n) : Al n [p, -p] [] := by
  refine ⟨fun row h => ?_, fun row d L h hd hL hl => ?_⟩
  · obtain ⟨pre, a, b, post, rfl, hk⟩ := split2 (L := row) (k := p.natAbs - 1) (by rw [h.len]; omega)
    rw [ra_at (by omega), ra_at (by omega)]
  · obtain ⟨pre, a, b, post, rfl, hk⟩ := split2 (L := row) (k := p.natAbs - 1) (by rw [h.len]; omega)
    have e1 := lo_at (d := d) (p := p) (a := a) (b := b) (pre := pre) (post := post) (w := []) (by omega)
    rw [lo_at (by omega), lo_at (by omega)]
    by_cases hc : d = a ∨ d = b
    · rw [if_pos hc, if_pos hc.symm]
    · rw [if_neg hc] at e1
      have hq := val_of hp h hd e1
      rw [if_neg hc, if_neg (fun z => hc z.symm), ls_neg hp.1]
      exact mv_free hL (by omega) hq.1
theorem al_far1 {n : Nat} {p q : Int} (hp : p ≠ 0) (hq : q ≠ 0 ∧ q.natAbs < n) (hpq : p.natAbs + 1 < q.natAbs) : Al n [p, q] [q, p] := by
  have sp : ∀ row : List Int, Row n row → ∃ pre a b mid c e post, row = pre ++ a :: b :: (mid ++ c :: e :: post) ∧ p.natAbs = pre.length + 1 ∧ q.natAbs = pre.length + 2 + mid.length + 1 := by
    intro row h
    have hp0 : 0 < p.natAbs := by omega
    obtain ⟨pre, a, b, mid, c, e, post, h1, h2, h3⟩ := split4 (L := row) (k := p.natAbs - 1) (j := q.natAbs - 1) (by omega) (by rw [h.len]; omega)
    exact ⟨pre, a, b, mid, c, e, post, h1, by omega, by omega⟩
  have r1 : ∀ (pre mid post : List Int) (a b c e : Int), pre ++ a :: b :: (mid ++ c :: e :: post) = (pre ++ a :: b :: mid) ++ c :: e :: post := fun pre mid post a b c e => by simp
  refine ⟨fun row h => ?_, fun row d L h hd hL hl => ?_⟩
  · obtain ⟨pre, a, b, mid, c, e, post, rfl, h1, h2⟩ := sp row h
    rw [ra_at h1, r1, ra_at (by simp; omega), r1, ra_at (w := [p]) (by simp; omega), ← r1, ← r1, ra_at h1]
  · obtain ⟨pre, a, b, mid, c, e, post, rfl, h1, h2⟩ := sp row h
    rw [lo_at h1, r1 pre mid post b a, r1 pre mid post a b, lo_at (w := []) (by simp; omega), lo_at (w := [p]) (by simp; omega), ← r1 pre mid post a b e c, lo_at (w := []) h1]
    have hm : (d ∈ pre ++ b :: a :: mid) = (d ∈ pre ++ a :: b :: mid) := by
      simp only [List.mem_append, List.mem_cons, eq_iff_iff]
      constructor
      · rintro (z | z | z | z) <;> simp [z]
      · rintro (z | z | z | z) <;> simp [z]
    simp only [hm]
    have nl : ∀ r s, lo d (r : List Int) ([] : List Int) = s ↔ s = [] := fun r s => by simp only [lo]; exact ⟨fun z => z.symm, fun z => z.symm⟩
    simp only [lo]
    by_cases hab : d = a ∨ d = b
    · simp only [hab, if_true]
    · by_cases hce : d = c ∨ d = e
      · simp only [hce, if_true]
      · simp only [hab, hce, if_false]
        have hab1 : d ≠ a := fun z => hab (.inl z)
        have hab2 : d ≠ b := fun z => hab (.inr z)
        have hce1 : d ≠ c := fun z => hce (.inl z)
        have hce2 : d ≠ e := fun z => hce (.inr z)
        have hd' : d ∈ pre ∨ d ∈ mid ∨ d ∈ post := by simpa [hab1, hab2, hce1, hce2] using hd
        have e1 := lo_at (d := d) (p := p) (a := a) (b := b) (pre := pre) (post := mid ++ c :: e :: post) (w := []) h1
        rw [if_neg hab] at e1
        have e2 := lo_at (d := d) (p := q) (a := c) (b := e) (pre := pre ++ a :: b :: mid) (post := post) (w := []) (by simp; omega)
        rw [if_neg hce, ← r1] at e2
        have hln := h.len
        simp only [List.length_append, List.length_cons] at hln
        have v1 := val_of (p := p) ⟨hp, by omega⟩ h hd e1
        have v2 := val_of (p := q) hq h hd e2
        have m1 : (d ∈ pre ++ a :: b :: mid) = (d ∈ pre ∨ d ∈ mid) := by simp [hab1, hab2]
        simp only [m1] at v2 ⊢
        refine mv_far (.inl ?_) (by omega) (by omega) v1.1 v2.1
        have a1 := ls_abs (p := p) (b := decide (d ∈ pre)) (fun z => by have := List.length_pos_of_mem (of_decide_eq_true z); omega)
        have a2 := ls_abs (p := q) (b := decide (d ∈ pre ∨ d ∈ mid)) (fun z => by omega)
        rw [a1, a2]
        by_cases x1 : d ∈ pre
        · simp only [x1, true_or, decide_true, if_true]; omega
        · by_cases x2 : d ∈ mid
          · have := List.length_pos_of_mem x2
            simp only [x1, x2, or_true, decide_true, decide_false, if_true, Bool.false_eq_true, if_false]; omega
          · simp only [x1, x2, or_self, decide_false, Bool.false_eq_true, if_false]; omega
theorem al_far {n : Nat} {p q : Int} (hp : p ≠ 0 ∧ p.natAbs < n) (hq : q ≠ 0 ∧ q.natAbs < n) (hpq : p.natAbs + 1 < q.natAbs ∨ q.natAbs + 1 < p.natAbs) : Al n [p, q] [q, p] := by
  rcases hpq with h | h
  · exact al_far1 hp.1 hq h
  · exact (al_far1 hq.1 hp h).symm
theorem al_braid1 {n : Nat} {p q : Int} (hp : p ≠ 0) (hq : q ≠ 0 ∧ q.natAbs < n) (hpq : q.natAbs = p.natAbs + 1) (hs : (0 < p ∧ 0 < q) ∨ (p < 0 ∧ q < 0)) : Al n [p, q, p] [q, p, q] := by
  have sp : ∀ row : List Int, Row n row → ∃ pre a b c post, row = pre ++ a :: b :: c :: post ∧ p.natAbs = pre.length + 1 := by
    intro row h
    have hp0 : 0 < p.natAbs := by omega
    obtain ⟨pre, a, b, c, post, h1, h2⟩ := split3 (L := row) (k := p.natAbs - 1) (by rw [h.len]; omega)
    exact ⟨pre, a, b, c, post, h1, by omega⟩
  have r1 : ∀ (pre post : List Int) (a b c : Int), pre ++ a :: b :: c :: post = (pre ++ [a]) ++ b :: c :: post := fun pre post a b c => by simp
  refine ⟨fun row h => ?_, fun row d L h hd hL hl => ?_⟩
  · obtain ⟨pre, a, b, c, post, rfl, h1⟩ := sp row h
    have sP : ∀ (x y z : Int) (w : List Int), ra (pre ++ x :: y :: z :: post) (p :: w) = ra (pre ++ y :: x :: z :: post) w := fun x y z w => ra_at h1
    have sQ : ∀ (x y z : Int) (w : List Int), ra (pre ++ x :: y :: z :: post) (q :: w) = ra (pre ++ x :: z :: y :: post) w := fun x y z w => by
      rw [r1, ra_at (by simp; omega), ← r1]
    rw [sP, sQ, sP, sQ, sP, sQ]
  · obtain ⟨pre, a, b, c, post, rfl, h1⟩ := sp row h
    have sP : ∀ (x y z : Int) (w : List Int), lo d (pre ++ x :: y :: z :: post) (p :: w) = if d = x ∨ d = y then lo d (pre ++ y :: x :: z :: post) w else ls p (decide (d ∈ pre)) :: lo d (pre ++ y :: x :: z :: post) w := fun x y z w => lo_at h1
    have sQ : ∀ (x y z : Int) (w : List Int), lo d (pre ++ x :: y :: z :: post) (q :: w) = if d = y ∨ d = z then lo d (pre ++ x :: z :: y :: post) w else ls q (decide (d ∈ pre ++ [x])) :: lo d (pre ++ x :: z :: y :: post) w := fun x y z w => by
      rw [r1, lo_at (by simp; omega), ← r1]
    have nl : ∀ r : List Int, lo d r [] = [] := fun r => rfl
    rw [sP, sQ, sP, sQ, sP, sQ]
    simp only [nl]
    have hnd := h.nd
    have pm := List.nodup_append.mp hnd
    have pn := List.nodup_cons.mp pm.2.1
    have pn2 := List.nodup_cons.mp pn.2
    simp only [List.mem_cons, not_or] at pn pn2
    have npre : ∀ x ∈ [a, b, c], x ∉ pre := fun x hx hy => pm.2.2 x hy x (by simp at hx ⊢; rcases hx with z | z | z <;> simp [z]) rfl
    have key : ls q true = ls p false := by
      unfold ls
      rcases hs with ⟨s1, s2⟩ | ⟨s1, s2⟩
      · simp only [s1, s2, if_true, Bool.false_eq_true, if_false]; omega
      · have s1' : ¬ 0 < p := by omega
        have s2' : ¬ 0 < q := by omega
        simp only [s1', s2', if_true, Bool.false_eq_true, if_false]; omega
    by_cases da : d = a
    · subst da
      have n1 : d ∉ pre := npre d (by simp)
      have n2 : d ≠ b := pn.1.1
      have n3 : d ≠ c := pn.1.2.1
      simp [n1, n2, n3, key]
    · by_cases db : d = b
      · subst db
        have n1 : d ∉ pre := npre d (by simp)
        have n3 : d ≠ c := pn2.1.1
        simp [n1, n3, da, key]
      · by_cases dc : d = c
        · subst dc
          have n1 : d ∉ pre := npre d (by simp)
          simp [n1, da, db, key]
        · have e1 := sP a b c []
          have e2 := sQ a b c []
          simp only [da, db, dc, or_self, if_false, nl] at e1 e2
          have hln := h.len
          simp only [List.length_append, List.length_cons] at hln
          have v1 := val_of (p := p) ⟨hp, by omega⟩ h hd e1
          have v2 := val_of (p := q) hq h hd e2
          have m1 : ∀ x : Int, d ≠ x → ((d ∈ pre ++ [x]) = (d ∈ pre)) := fun x hx => by simp [hx]
          simp only [m1 a da] at v2
          simp only [da, db, dc, or_self, if_false, m1 a da, m1 b db, m1 c dc]
          have hb : decide (d ∈ pre) = true → 2 ≤ p.natAbs := fun z => by have := List.length_pos_of_mem (of_decide_eq_true z); omega
          have hb2 : decide (d ∈ pre) = true → 2 ≤ q.natAbs := fun z => by have := hb z; omega
          have a1 := ls_abs hb
          have a2 := ls_abs hb2
          have p1 := ls_pos hb hp
          have p2 := ls_pos hb2 hq.1
          refine mv_braid1 ?_ ?_ (by omega)
          · rw [a1, a2]
            by_cases x1 : d ∈ pre
            · have := hb (decide_eq_true x1)
              simp only [x1, decide_true, if_true]; omega
            · simp only [x1, decide_false, Bool.false_eq_true, if_false]; omega
          · omega
theorem al_braid {n : Nat} {p q : Int} (hp : p ≠ 0 ∧ p.natAbs < n) (hq : q ≠ 0 ∧ q.natAbs < n) (hpq : q.natAbs = p.natAbs + 1 ∨ p.natAbs = q.natAbs + 1) (hs : (0 < p ∧ 0 < q) ∨ (p < 0 ∧ q < 0)) : Al n [p, q, p] [q, p, q] := by
  rcases hpq with h | h
  · exact al_braid1 hp.1 hq h hs
  · exact (al_braid1 hq.1 hp h (by omega)).symm
end G70

/-! M70e: words moved; lengths. -/
namespace G70
/-- one known move -/
inductive Mv (n : Nat) : List Int → List Int → Prop
  | ins (u v : List Int) (p : Int) (hp : p ≠ 0 ∧ p.natAbs < n) : Mv n (u ++ v) (u ++ ([p, -p] ++ v))
  | out (u v : List Int) (p : Int) : Mv n (u ++ ([p, -p] ++ v)) (u ++ v)
  | far (u v : List Int) (p q : Int) (h : p.natAbs + 1 < q.natAbs ∨ q.natAbs + 1 < p.natAbs) : Mv n (u ++ ([p, q] ++ v)) (u ++ ([q, p] ++ v))
  | braid (u v : List Int) (p q : Int) (h : q.natAbs = p.natAbs + 1 ∨ p.natAbs = q.natAbs + 1) (hs : (0 < p ∧ 0 < q) ∨ (p < 0 ∧ q < 0)) : Mv n (u ++ ([p, q, p] ++ v)) (u ++ ([q, p, q] ++ v))
  | none (u : List Int) : Mv n u u
theorem Mv.word {n : Nat} {u v : List Int} (h : Mv n u v) (hu : Wn n u) : Wn n v := by
  cases h with
  | ins u v p hp =>
    intro x hx
    simp only [List.mem_append, List.mem_cons, List.not_mem_nil, or_false] at hx
    rcases hx with z | (z | z) | z
    · exact hu x (by simp [z])
    · subst z; exact hp
    · subst z; exact ⟨by omega, by omega⟩
    · exact hu x (by simp [z])
  | out u v p => intro x hx; simp only [List.mem_append] at hx; exact hu x (by rcases hx with z | z <;> simp [z])
  | far u v p q h => intro x hx; simp only [List.mem_append, List.mem_cons, List.not_mem_nil, or_false] at hx; exact hu x (by rcases hx with z | (z | z) | z <;> simp [z])
  | braid u v p q h hs => intro x hx; simp only [List.mem_append, List.mem_cons, List.not_mem_nil, or_false] at hx; exact hu x (by rcases hx with z | (z | z | z) | z <;> simp [z])
  | none => exact hu
theorem wn2 {n : Nat} {p q : Int} (hp : p ≠ 0 ∧ p.natAbs < n) (hq : q ≠ 0 ∧ q.natAbs < n) : Wn n [p, q] := fun x hx => by
  simp only [List.mem_cons, List.not_mem_nil, or_false] at hx
  rcases hx with z | z <;> subst z <;> assumption
theorem wn3 {n : Nat} {p q r : Int} (hp : p ≠ 0 ∧ p.natAbs < n) (hq : q ≠ 0 ∧ q.natAbs < n) (hr : r ≠ 0 ∧ r.natAbs < n) : Wn n [p, q, r] := fun x hx => by
  simp only [List.mem_cons, List.not_mem_nil, or_false] at hx
  rcases hx with z | z | z <;> subst z <;> assumption
theorem wn0 {n : Nat} : Wn n [] := fun x hx => by simp at hx
theorem neg_ok {n : Nat} {p : Int} (hp : p ≠ 0 ∧ p.natAbs < n) : -p ≠ 0 ∧ (-p).natAbs < n := ⟨by omega, by omega⟩
theorem Mv.al {n : Nat} {u v : List Int} (h : Mv n u v) (hu : Wn n u) : Al n u v := by
  cases h with
  | ins u v p hp =>
    have := (al_free hp).symm.app (x := u) (y := v) wn0 (wn2 hp (neg_ok hp)) hu.left hu.right
    simpa using this
  | out u v p =>
    have hp := hu p (by simp)
    have := (al_free hp).app (x := u) (y := v) (wn2 hp (neg_ok hp)) wn0 hu.left hu.right.right
    simpa using this
  | far u v p q h =>
    have hp := hu p (by simp)
    have hq := hu q (by simp)
    exact (al_far hp hq h).app (wn2 hp hq) (wn2 hq hp) hu.left hu.right.right
  | braid u v p q h hs =>
    have hp := hu p (by simp)
    have hq := hu q (by simp)
    exact (al_braid hp hq h hs).app (wn3 hp hq hp) (wn3 hq hp hq) hu.left hu.right.right
  | none => exact .refl n _
/-- each beginning of w may be said in K passings -/
def Short (n K : Nat) (w : List Int) : Prop := ∀ u v, w = u ++ v → ∃ u', Wn n u' ∧ u'.length ≤ K ∧ Al n u u'
theorem Short.of_len {n : Nat} {w : List Int} (hw : Wn n w) : Short n w.length w := fun u v e => ⟨u, fun x hx => hw x (by rw [e]; simp [hx]), by rw [e, List.length_append]; omega, .refl n u⟩
theorem Short.more {n K J : Nat} {w : List Int} (h : Short n K w) (hj : K ≤ J) : Short n J w := fun u v e => by
  obtain ⟨u', h1, h2, h3⟩ := h u v e
  exact ⟨u', h1, by omega, h3⟩
/-- a beginning, one passing more -/
theorem Short.one {n K : Nat} {x u' : List Int} {p : Int} (hx : Wn n x) (hp : p ≠ 0 ∧ p.natAbs < n) (h1 : Wn n u') (h2 : u'.length ≤ K) (h3 : Al n x u') : ∃ v, Wn n v ∧ v.length ≤ K + 1 ∧ Al n (x ++ [p]) v := by
  refine ⟨u' ++ [p], h1.app (fun y hy => by simp at hy; subst hy; exact hp), by simp; omega, ?_⟩
  have := h3.app (x := []) (y := [p]) hx h1 wn0 (fun y hy => by simp at hy; subst hy; exact hp)
  simpa using this
/-- where a beginning of u ++ (s ++ v) ends -/
theorem cut3 {α : Type} {u s v x y : List α} (h : u ++ (s ++ v) = x ++ y) : (∃ r, u = x ++ r) ∨ (∃ s1 s2, s = s1 ++ s2 ∧ x = u ++ s1) ∨ ∃ r, x = u ++ (s ++ r) ∧ v = r ++ y := by
  rcases List.append_eq_append_iff.mp h with ⟨a, h1, h2⟩ | ⟨a, h1, h2⟩
  · rcases List.append_eq_append_iff.mp h2 with ⟨b, h3, h4⟩ | ⟨b, h3, h4⟩
    · exact .inr (.inr ⟨b, by rw [h1, h3], h4⟩)
    · exact .inr (.inl ⟨a, b, h3, h1⟩)
  · exact .inl ⟨a, h1⟩
/-- the beginnings of a moved word -/
theorem short_mid {n K : Nat} {u s t v : List Int} (h : Short n K (u ++ (s ++ v))) (hw : Wn n (u ++ (s ++ v))) (ht : Wn n t) (ha : Al n s t)
    (hm : ∀ t1 t2, t = t1 ++ t2 → t1 ≠ [] → t2 ≠ [] → ∃ u', Wn n u' ∧ u'.length ≤ K + 1 ∧ Al n (u ++ t1) u') : Short n (K + 1) (u ++ (t ++ v)) := by
  intro x y e
  rcases cut3 e with ⟨r, h1⟩ | ⟨t1, t2, h1, h2⟩ | ⟨r, h1, h2⟩
  · obtain ⟨u', a, b, c⟩ := h x (r ++ (s ++ v)) (by rw [h1, List.append_assoc])
    exact ⟨u', a, by omega, c⟩
  · by_cases e1 : t1 = []
    · subst e1
      obtain ⟨u', a, b, c⟩ := h u (s ++ v) rfl
      exact ⟨u', a, by omega, by rw [h2, List.append_nil]; exact c⟩
    · by_cases e2 : t2 = []
      · subst e2
        rw [List.append_nil] at h1
        subst h1
        obtain ⟨u', a, b, c⟩ := h (u ++ s) v (by rw [List.append_assoc])
        refine ⟨u', a, by omega, ?_⟩
        rw [h2]
        have := ha.symm.app (x := u) (y := []) ht hw.right.left hw.left wn0
        simp only [List.append_nil] at this
        exact this.trans c
      · obtain ⟨u', a, b, c⟩ := hm t1 t2 h1 e1 e2
        exact ⟨u', a, b, by rw [h2]; exact c⟩
  · obtain ⟨u', a, b, c⟩ := h (u ++ (s ++ r)) y (by rw [h2]; simp)
    refine ⟨u', a, by omega, ?_⟩
    rw [h1]
    have hr : Wn n r := fun z hz => hw z (by rw [h2]; simp [hz])
    exact (ha.symm.app (x := u) (y := r) ht hw.right.left hw.left hr).trans c
theorem Mv.short {n K : Nat} {w w' : List Int} (h : Mv n w w') (hw : Wn n w) (hs : Short n K w) : Short n (K + 1) w' := by
  cases h with
  | ins u v p hp =>
    refine short_mid (s := []) (t := [p, -p]) (by simpa using hs) (by simpa using hw) (wn2 hp (neg_ok hp)) (al_free hp).symm fun t1 t2 e h1 h2 => ?_
    have : t1 = [p] := by
      match t1, h1, e with
      | [a], _, e => simp at e; simp [e.1]
      | [a, b], _, e => simp at e; exact absurd e.2.2 h2
      | a :: b :: c :: r, _, e => simp at e
    subst this
    obtain ⟨u', a, b, c⟩ := hs u v rfl
    exact Short.one hw.left hp a b c
  | out u v p =>
    have hp := hw p (by simp)
    have := short_mid (s := [p, -p]) (t := []) hs hw wn0 (al_free hp) fun t1 t2 e h1 h2 => by
      simp at e; exact absurd e.1 h1
    simpa using this
  | far u v p q h =>
    have hp := hw p (by simp)
    have hq := hw q (by simp)
    refine short_mid hs hw (wn2 hq hp) (al_far hp hq h) fun t1 t2 e h1 h2 => ?_
    have : t1 = [q] := by
      match t1, h1, e with
      | [a], _, e => simp at e; simp [e.1]
      | [a, b], _, e => simp at e; exact absurd e.2.2 h2
      | a :: b :: c :: r, _, e => simp at e
    subst this
    obtain ⟨u', a, b, c⟩ := hs u ([p, q] ++ v) rfl
    exact Short.one hw.left hq a b c
  | braid u v p q h hs' =>
    have hp := hw p (by simp)
    have hq := hw q (by simp)
    have hab := al_braid hp hq h hs'
    refine short_mid hs hw (wn3 hq hp hq) hab fun t1 t2 e h1 h2 => ?_
    have : t1 = [q] ∨ t1 = [q, p] := by
      match t1, h1, e with
      | [a], _, e => simp at e; simp [e.1]
      | [a, b], _, e => simp at e; simp [e.1, e.2.1]
      | [a, b, c], _, e => simp at e; exact absurd e.2.2.2 h2
      | a :: b :: c :: d :: r, _, e => simp at e
    rcases this with rfl | rfl
    · obtain ⟨u', a, b, c⟩ := hs u ([p, q, p] ++ v) rfl
      exact Short.one hw.left hq a b c
    · -- u q p ~ (u p q p) (-q)
      obtain ⟨u', a, b, c⟩ := hs (u ++ [p, q, p]) v (by simp)
      have hx : Wn n (u ++ [p, q, p]) := hw.left.app (wn3 hp hq hp)
      obtain ⟨v', a2, b2, c2⟩ := Short.one hx (neg_ok hq) a b c
      refine ⟨v', a2, b2, Al.trans ?_ c2⟩
      -- u q p ~ u q p q -q ~ u p q p -q
      have e1 : Al n (u ++ [q, p]) (u ++ ([q, p] ++ [q, -q])) := by
        have := (al_free hq).symm.app (x := u ++ [q, p]) (y := []) wn0 (wn2 hq (neg_ok hq)) (hw.left.app (wn2 hq hp)) wn0
        simpa using this
      have e2 : Al n (u ++ ([q, p, q] ++ [-q])) (u ++ ([p, q, p] ++ [-q])) := hab.symm.app (wn3 hq hp hq) (wn3 hp hq hp) hw.left (fun z hz => by simp at hz; subst hz; exact neg_ok hq)
      have e2' : Al n (u ++ ([q, p] ++ [q, -q])) (u ++ [p, q, p] ++ [-q]) := by simpa using e2
      exact e1.trans e2'
  | none => exact hs.more (Nat.le_succ K)
end G70

/-! M70f: how long loops grow. -/
namespace G70
/-- the loops as parts of the rows P -/
structure Pp (L : Lp) (P : Nat → List Int) : Prop where
  eqv : ∀ (i : Nat) (l : List Int), L[i]? = some l → Eqv (P (i + 1)) (P i ++ l)
structure Bnd (a b c : Nat) (P : Nat → List Int) : Prop where
  one : ∀ i, (P i).length ≤ a
  two : ∀ i j, i ≠ j → (P i).length + (P j).length ≤ a + b
  three : ∀ i j k, i ≠ j → i ≠ k → j ≠ k → (P i).length + (P j).length + (P k).length ≤ a + b + c
def put (P : Nat → List Int) (j : Nat) (u : List Int) : Nat → List Int := fun i => if i = j then u else P i
theorem Bnd.put {a b c : Nat} {P : Nat → List Int} (h : Bnd a b c P) {j : Nat} {u : List Int} (hu : u.length ≤ a + b + c) : Bnd (a + b + c) a b (put P j u) := by
  have g : ∀ i, (G70.put P j u i).length = if i = j then u.length else (P i).length := fun i => by unfold G70.put; split <;> rfl
  refine ⟨fun i => ?_, fun i k hik => ?_, fun i k l h1 h2 h3 => ?_⟩
  · rw [g]; have := h.one i; split <;> omega
  · rw [g, g]
    have h1 := h.one i
    have h2 := h.one k
    have h3 := h.two i k hik
    split <;> split <;> omega
  · rw [g, g, g]
    have a1 := h.one i
    have a2 := h.one k
    have a3 := h.one l
    have b1 := h.two i k h1
    have b2 := h.two i l h2
    have b3 := h.two k l h3
    have c1 := h.three i k l h1 h2 h3
    by_cases e1 : i = j
    · by_cases e2 : k = j
      · exact absurd (e1.trans e2.symm) h1
      · by_cases e3 : l = j
        · exact absurd (e1.trans e3.symm) h2
        · simp only [e1, e2, e3, if_true, if_false]; omega
    · by_cases e2 : k = j
      · by_cases e3 : l = j
        · exact absurd (e2.trans e3.symm) h3
        · simp only [e1, e2, e3, if_true, if_false]; omega
      · by_cases e3 : l = j
        · simp only [e1, e2, e3, if_true, if_false]; omega
        · simp only [e1, e2, e3, if_false]; omega
theorem Pp.len {L : Lp} {P : Nat → List Int} (h : Pp L P) {i : Nat} {l : List Int} (e : L[i]? = some l) (hr : red l = l) : l.length ≤ (P i).length + (P (i + 1)).length := by
  have h1 : Eqv l (bk (P i) ++ P (i + 1)) := by
    have h2 := (Eqv.refl (bk (P i))).app (h.eqv i l e)
    have h3 := (eqv_bk' (P i)).app (Eqv.refl l)
    have h4 : Eqv (bk (P i) ++ (P i ++ l)) l := by simpa [List.append_assoc] using h3
    exact (h2.trans h4).symm
  have h5 := red_of h1
  rw [hr] at h5
  rw [h5]
  refine Nat.le_trans (len_red _) ?_
  simp [bk]
theorem Pp.step {L : Lp} {P : Nat → List Int} (h : Pp L P) {p : Int} (hp : p ≠ 0 ∧ p.natAbs + 1 ≤ L.length) : ∃ u, u.length ≤ (P (p.natAbs - 1)).length + (P (p.natAbs - 1 + 1)).length + (P (p.natAbs - 1 + 2)).length ∧ Pp (step L p) (put P (p.natAbs - 1 + 1) u) := by
  obtain ⟨pre, l, r, post, rfl, hk⟩ := split2 (L := L) (k := p.natAbs - 1) (by omega)
  rw [← hk]
  have el : (pre ++ l :: r :: post)[pre.length]? = some l := by simp
  have er : (pre ++ l :: r :: post)[pre.length + 1]? = some r := by simp [List.getElem?_append_right]
  have h1 := h.eqv _ _ el
  have h2 := h.eqv _ _ er
  rw [step_at pre l r post (by omega)]
  -- the new row
  have main : ∀ u x y, Eqv u (P pre.length ++ x) → Eqv (P (pre.length + 2)) (u ++ y) → Pp (pre ++ x :: y :: post) (put P (pre.length + 1) u) := by
    intro u x y hx hy
    refine ⟨fun i z e => ?_⟩
    unfold put
    rcases Nat.lt_trichotomy i pre.length with c | c | c
    · have e' : (pre ++ l :: r :: post)[i]? = some z := by
        rw [List.getElem?_append_left c] at e ⊢
        exact e
      have := h.eqv i z e'
      rw [if_neg (by omega), if_neg (by omega)]
      exact this
    · subst c
      have e : x = z := by simpa using e
      subst e
      rw [if_pos rfl, if_neg (by omega)]
      exact hx
    · by_cases c2 : i = pre.length + 1
      · subst c2
        have e : y = z := by simpa [List.getElem?_append_right] using e
        subst e
        rw [if_neg (by omega), if_pos rfl]
        exact hy
      · have e' : (pre ++ l :: r :: post)[i]? = some z := by
          rw [List.getElem?_append_right (by omega)] at e ⊢
          obtain ⟨j, hj⟩ : ∃ j, i - pre.length = j + 2 := ⟨i - pre.length - 2, by omega⟩
          rw [hj] at e ⊢
          simpa using e
        have := h.eqv i z e'
        rw [if_neg (by omega), if_neg (by omega)]
        exact this
  by_cases hpos : 0 < p
  · refine ⟨red (P (pre.length + 2) ++ bk (P (pre.length + 1)) ++ P pre.length), ?_, ?_⟩
    · refine Nat.le_trans (len_red _) ?_
      simp [bk]; omega
    · simp only [actP, hpos, if_true]
      -- P l r l' ~ P2 l' , l' ~ P1' P
      have a1 : Eqv (P pre.length ++ (l ++ r ++ bk l)) (P (pre.length + 2) ++ bk l) := by
        have := (h2.symm.trans (.refl _))
        have b1 : Eqv ((P pre.length ++ l) ++ r) (P (pre.length + 2)) := (h1.symm.app (.refl r)).trans h2.symm
        have b2 := b1.app (Eqv.refl (bk l))
        simpa [List.append_assoc] using b2
      have a2 : Eqv (bk l) (bk (P (pre.length + 1)) ++ P pre.length) := by
        have b1 := h1.bk
        rw [bk_app] at b1
        -- P1' ~ l' P', so P1' P ~ l'
        have b2 := (b1.app (Eqv.refl (P pre.length))).symm
        have b3 := (Eqv.refl (bk l)).app (eqv_bk' (P pre.length))
        have b4 : Eqv (bk l ++ bk (P pre.length) ++ P pre.length) (bk l) := by simpa [List.append_assoc] using b3
        exact b4.symm.trans b2
      have a3 : Eqv (P (pre.length + 2) ++ bk l) (P (pre.length + 2) ++ bk (P (pre.length + 1)) ++ P pre.length) := by
        have := (Eqv.refl (P (pre.length + 2))).app a2
        simpa [List.append_assoc] using this
      refine main _ _ _ ?_ ?_
      · have c1 := (Eqv.refl (P pre.length)).app (red_eqv (l ++ r ++ bk l))
        exact (red_eqv _).trans ((c1.trans (a1.trans a3)).symm)
      · have c1 := ((red_eqv (P (pre.length + 2) ++ bk (P (pre.length + 1)) ++ P pre.length)).trans a3.symm).app (Eqv.refl l)
        have c2 := (Eqv.refl (P (pre.length + 2))).app (eqv_bk' l)
        have c3 : Eqv (P (pre.length + 2) ++ bk l ++ l) (P (pre.length + 2)) := by simpa [List.append_assoc] using c2
        exact (c1.trans c3).symm
  · refine ⟨red (P pre.length ++ bk (P (pre.length + 1)) ++ P (pre.length + 2)), ?_, ?_⟩
    · refine Nat.le_trans (len_red _) ?_
      simp [bk]; omega
    · simp only [actP, hpos, if_false]
      -- r ~ P1' P2
      have a2 : Eqv r (bk (P (pre.length + 1)) ++ P (pre.length + 2)) := by
        have b1 := (Eqv.refl (bk (P (pre.length + 1)))).app h2
        have b2 := (eqv_bk' (P (pre.length + 1))).app (Eqv.refl r)
        have b3 : Eqv (bk (P (pre.length + 1)) ++ (P (pre.length + 1) ++ r)) r := by simpa [List.append_assoc] using b2
        exact (b1.trans b3).symm
      have a3 : Eqv (red (P pre.length ++ bk (P (pre.length + 1)) ++ P (pre.length + 2))) (P pre.length ++ r) := by
        have := (Eqv.refl (P pre.length)).app a2.symm
        refine (red_eqv _).trans ?_
        simpa [List.append_assoc] using this
      refine main _ _ _ a3 ?_
      have c1 := a3.app (red_eqv (bk r ++ l ++ r))
      have c2 : Eqv (P pre.length ++ r ++ (bk r ++ l ++ r)) ((P pre.length ++ l) ++ r) := by
        have := (Eqv.refl (P pre.length)).app ((eqv_bk r).app (Eqv.refl (l ++ r)))
        simpa [List.append_assoc] using this
      have c3 : Eqv ((P pre.length ++ l) ++ r) (P (pre.length + 2)) := (h1.symm.app (.refl r)).trans h2.symm
      exact (c1.trans (c2.trans c3)).symm
/-- the three bounds behind k passings -/
def trib : Nat → Nat × Nat × Nat
  | 0 => (4, 4, 4)
  | k + 1 => let t := trib k; (t.1 + t.2.1 + t.2.2, t.1, t.2.1)
theorem loops_bnd {L : Lp} {P : Nat → List Int} : ∀ {w : List Int} {a b c : Nat}, Pp L P → Bnd a b c P → (∀ p ∈ w, p ≠ 0 ∧ p.natAbs + 1 ≤ L.length) →
    ∃ P', Pp (loops L w) P' ∧ Bnd (w.foldl (fun (t : Nat × Nat × Nat) _ => (t.1 + t.2.1 + t.2.2, t.1, t.2.1)) (a, b, c)).1 (w.foldl (fun (t : Nat × Nat × Nat) _ => (t.1 + t.2.1 + t.2.2, t.1, t.2.1)) (a, b, c)).2.1 (w.foldl (fun (t : Nat × Nat × Nat) _ => (t.1 + t.2.1 + t.2.2, t.1, t.2.1)) (a, b, c)).2.2 P' := by
  intro w
  induction w generalizing L P with
  | nil => exact fun {a b c} h1 h2 _ => ⟨P, h1, h2⟩
  | cons p w ih =>
    intro a b c h1 h2 hw
    have hp := hw p (by simp)
    obtain ⟨u, hu, h3⟩ := h1.step hp
    have h4 := h2.put (j := p.natAbs - 1 + 1) (u := u) (Nat.le_trans hu (h2.three _ _ _ (by omega) (by omega) (by omega)))
    exact ih h3 h4 fun q hq => by rw [len_step]; exact hw q (by simp [hq])
theorem fold_trib : ∀ (w : List Int) (k : Nat), w.foldl (fun (t : Nat × Nat × Nat) _ => (t.1 + t.2.1 + t.2.2, t.1, t.2.1)) (trib k) = trib (k + w.length)
  | [], k => rfl
  | _ :: w, k => by
    have := fold_trib w (k + 1)
    simp only [List.foldl_cons, List.length_cons]
    rw [show k + (w.length + 1) = k + 1 + w.length by omega, ← this]
    rfl
/-- the loops at first -/
def lp0 (m : Nat) : Lp := (List.range m).map fun (k : Nat) => [(k : Int) + 1]
theorem red_one (x : Int) : red [x] = [x] := rfl
theorem lp0_red (m : Nat) : redL (lp0 m) := by
  intro l hl
  obtain ⟨k, _, rfl⟩ := List.mem_map.mp hl
  exact red_one _
theorem lp0_len (m : Nat) : (lp0 m).length = m := by simp [lp0]
theorem len_loops {m : Nat} (hm : m ≤ 4) {w : List Int} (hw : ∀ p ∈ w, p ≠ 0 ∧ p.natAbs + 1 ≤ m) (hl : w.length ≤ 19) : ∀ l ∈ loops (lp0 m) w, l.length ≤ 1400000 := by
  let P : Nat → List Int := fun i => (List.range (min i m)).map fun (k : Nat) => (k : Int) + 1
  have hP : Pp (lp0 m) P := by
    refine ⟨fun i l e => ?_⟩
    unfold lp0 at e
    rw [List.getElem?_map] at e
    have hi : i < m := by
      by_cases h : i < m
      · exact h
      · rw [List.getElem?_eq_none (by simp; omega)] at e; cases e
    rw [List.getElem?_range hi] at e
    have e : [(i : Int) + 1] = l := by simpa using e
    subst e
    show Eqv ((List.range (min (i + 1) m)).map fun (k : Nat) => (k : Int) + 1) ((List.range (min i m)).map (fun (k : Nat) => (k : Int) + 1) ++ [(i : Int) + 1])
    rw [show min (i + 1) m = i + 1 by omega, show min i m = i by omega, List.range_succ, List.map_append]
    exact .refl _
  have hlen : ∀ i, (P i).length ≤ 4 := fun i => by show ((List.range (min i m)).map _).length ≤ 4; simp; omega
  have hB : Bnd 4 4 4 P := ⟨hlen, fun i j _ => by have := hlen i; have := hlen j; omega, fun i j k _ _ _ => by have := hlen i; have := hlen j; have := hlen k; omega⟩
  obtain ⟨P', h1, h2⟩ := loops_bnd (w := w) hP hB (fun p hp => by rw [lp0_len]; exact hw p hp)
  have e := fold_trib w 0
  have e0 : trib 0 = (4, 4, 4) := rfl
  rw [e0, Nat.zero_add] at e
  rw [e] at h2
  have hr := (redL_loops (w := w) (lp0_red m) (fun p hp => by rw [lp0_len]; exact hw p hp)).1
  have ht : ∀ i : Fin 20, (trib i.val).1 ≤ 700000 := by decide
  have ht : (trib w.length).1 ≤ 700000 := ht ⟨w.length, by omega⟩
  intro l hl
  obtain ⟨i, hi, ei⟩ := List.mem_iff_getElem.mp hl
  have := h1.len (i := i) (l := l) (by rw [List.getElem?_eq_getElem hi, ei]) (hr l hl)
  have a1 := h2.one i
  have a2 := h2.one (i + 1)
  omega
end G70

/-! M70g: two ribbons left out, in either sequence. -/
namespace G70
def rel (d x : Int) : Int := x - (if d < x then 1 else 0)
def del (d : Int) (row : List Int) : List Int := (row.filter fun x => decide (x ≠ d)).map (rel d)
theorem rel_inj {d x y : Int} (hx : x ≠ d) (hy : y ≠ d) : rel d x = rel d y ↔ x = y := by
  unfold rel
  constructor
  · intro h; split at h <;> split at h <;> omega
  · intro h; rw [h]
theorem del_app (d : Int) (u v : List Int) : del d (u ++ v) = del d u ++ del d v := by simp [del]
theorem del_cons {d x : Int} (h : x ≠ d) (u : List Int) : del d (x :: u) = rel d x :: del d u := by simp [del, h]
theorem del_self (d : Int) (u : List Int) : del d (d :: u) = del d u := by simp [del]
theorem mem_del {d e : Int} (h : e ≠ d) {u : List Int} : rel d e ∈ del d u ↔ e ∈ u := by
  unfold del
  rw [List.mem_map]
  constructor
  · rintro ⟨x, hx, ex⟩
    rw [List.mem_filter] at hx
    have hx2 : x ≠ d := by simpa using hx.2
    rw [← (rel_inj hx2 h).mp ex]
    exact hx.1
  · intro he
    exact ⟨e, List.mem_filter.mpr ⟨he, by simpa using h⟩, rfl⟩
theorem len_del {d : Int} : ∀ {u : List Int}, u.Nodup → (del d u).length + (if decide (d ∈ u) = true then 1 else 0) = u.length
  | [], _ => by simp [del]
  | x :: u, h => by
    have h2 := List.nodup_cons.mp h
    have ih := len_del (d := d) h2.2
    by_cases e : x = d
    · subst e
      simp only [h2.1, decide_false, Bool.false_eq_true, if_false] at ih
      rw [del_self]
      simp only [List.mem_cons, true_or, decide_true, if_true, List.length_cons]
      omega
    · have e' : d ≠ x := fun z => e z.symm
      rw [del_cons e]
      simp only [List.mem_cons, e', false_or, List.length_cons]
      omega
/-- two left out at once -/
def lo2 (d e : Int) : List Int → List Int → List Int
  | _, [] => []
  | row, p :: w => let k := p.natAbs - 1
    let a := row.getD k 0
    let b := row.getD (k + 1) 0
    if (d = a ∨ d = b) ∨ (e = a ∨ e = b) then lo2 d e (sw k row) w else ls (ls p (decide (d ∈ row.take k))) (decide (e ∈ row.take k)) :: lo2 d e (sw k row) w
theorem lo2_at {d e p : Int} {pre : List Int} {a b : Int} {post w : List Int} (h : p.natAbs = pre.length + 1) :
    lo2 d e (pre ++ a :: b :: post) (p :: w) = if (d = a ∨ d = b) ∨ (e = a ∨ e = b) then lo2 d e (pre ++ b :: a :: post) w else ls (ls p (decide (d ∈ pre))) (decide (e ∈ pre)) :: lo2 d e (pre ++ b :: a :: post) w := by
  have hk : p.natAbs - 1 = pre.length := by omega
  have g1 : (pre ++ a :: b :: post).getD pre.length 0 = a := by simp [List.getD]
  have g2 : (pre ++ a :: b :: post).getD (pre.length + 1) 0 = b := by simp [List.getD, List.getElem?_append_right]
  have g3 : (pre ++ a :: b :: post).take pre.length = pre := by simp
  simp only [lo2, hk, g1, g2, g3, sw_at]
theorem ls_ls {p : Int} (x y : Bool) (hp : p ≠ 0) (h : (if x then 1 else 0) + (if y then 1 else 0) < p.natAbs) : ls (ls p x) y = ls (ls p y) x := by
  cases x <;> cases y <;> first | rfl | skip
  all_goals
    simp only [Bool.false_eq_true, if_false, if_true] at h
    unfold ls
    simp only [Bool.false_eq_true, if_false, if_true, Int.sub_zero]
    by_cases h0 : 0 < p
    · simp only [h0, if_true]
      rw [if_pos (by omega), if_pos (by omega)]
      omega
    · simp only [h0, if_false]
      rw [if_neg (by omega), if_neg (by omega)]
      omega
theorem two_in {d e : Int} (h : d ≠ e) {u : List Int} : (if decide (d ∈ u) = true then 1 else 0) + (if decide (e ∈ u) = true then 1 else 0) ≤ u.length := by
  by_cases h1 : d ∈ u
  · by_cases h2 : e ∈ u
    · obtain ⟨s, t, rfl⟩ := List.append_of_mem h1
      have h3 : e ∈ s ++ t := by
        simp only [List.mem_append, List.mem_cons] at h2 ⊢
        rcases h2 with z | z | z
        · exact .inl z
        · exact absurd z.symm h
        · exact .inr z
      have := List.length_pos_of_mem h3
      simp only [List.length_append, List.length_cons] at this ⊢
      split <;> split <;> omega
    · have := List.length_pos_of_mem h1
      simp only [h1, h2, decide_true, decide_false, Bool.false_eq_true, if_true, if_false]; omega
  · by_cases h2 : e ∈ u
    · have := List.length_pos_of_mem h2
      simp only [h1, h2, decide_true, decide_false, Bool.false_eq_true, if_true, if_false]; omega
    · simp [h1, h2]
theorem lo2_comm {n : Nat} {d e : Int} (hde : d ≠ e) : ∀ {w row : List Int}, Wn n w → Row n row → lo2 d e row w = lo2 e d row w
  | [], row, _, _ => rfl
  | p :: w, row, hw, h => by
    have hp := hw p (by simp)
    obtain ⟨pre, a, b, post, rfl, hk⟩ := split2 (L := row) (k := p.natAbs - 1) (by rw [h.len]; omega)
    have pm : (pre ++ b :: a :: post).Perm (pre ++ a :: b :: post) := List.Perm.append_left pre (List.Perm.swap a b post)
    have ih := lo2_comm hde (w := w) (row := pre ++ b :: a :: post) hw.tl ⟨by rw [pm.length_eq, h.len], pm.nodup_iff.mpr h.nd⟩
    rw [lo2_at (by omega), lo2_at (by omega), ih]
    have hor : ((d = a ∨ d = b) ∨ (e = a ∨ e = b)) ↔ ((e = a ∨ e = b) ∨ (d = a ∨ d = b)) := Or.comm
    have ht := two_in hde (u := pre)
    have hp0 : 0 < p.natAbs := by omega
    rw [ls_ls (p := p) (decide (d ∈ pre)) (decide (e ∈ pre)) hp.1 (by omega)]
    by_cases hc : (d = a ∨ d = b) ∨ (e = a ∨ e = b)
    · rw [if_pos hc, if_pos (hor.mp hc)]
    · rw [if_neg hc, if_neg (fun z => hc (hor.mpr z))]
theorem lo_lo {n : Nat} {d e : Int} (hde : e ≠ d) : ∀ {w row : List Int}, Wn n w → Row n row → d ∈ row → lo (rel d e) (del d row) (lo d row w) = lo2 d e row w
  | [], row, _, _, _ => rfl
  | p :: w, row, hw, h, hd => by
    have hp := hw p (by simp)
    obtain ⟨pre, a, b, post, rfl, hk⟩ := split2 (L := row) (k := p.natAbs - 1) (by rw [h.len]; omega)
    have pm : (pre ++ b :: a :: post).Perm (pre ++ a :: b :: post) := List.Perm.append_left pre (List.Perm.swap a b post)
    have ih := lo_lo hde (w := w) (row := pre ++ b :: a :: post) hw.tl ⟨by rw [pm.length_eq, h.len], pm.nodup_iff.mpr h.nd⟩ (pm.mem_iff.mpr hd)
    have hp0 : 0 < p.natAbs := by omega
    have hk1 : p.natAbs = pre.length + 1 := by omega
    rw [lo_at hk1, lo2_at hk1]
    by_cases hc : d = a ∨ d = b
    · rw [if_pos hc, if_pos (.inl hc)]
      have hab : a ≠ b := by
        have h1 := (List.nodup_append.mp h.nd).2.1
        have h2 := (List.nodup_cons.mp h1).1
        intro z
        exact h2 (by simp [z])
      have e1 : del d (pre ++ a :: b :: post) = del d (pre ++ b :: a :: post) := by
        rw [del_app, del_app]
        rcases hc with z | z
        · subst z
          rw [del_self, del_cons (fun z => hab z.symm), del_cons (fun z => hab z.symm), del_self]
        · subst z
          rw [del_cons hab, del_self, del_self, del_cons hab]
      rw [e1]
      exact ih
    · rw [if_neg hc]
      have ha : a ≠ d := fun z => hc (.inl z.symm)
      have hb : b ≠ d := fun z => hc (.inr z.symm)
      have npre := (List.nodup_append.mp h.nd).1
      have hl := len_del (d := d) npre
      have hd2 : decide (d ∈ pre) = true → 2 ≤ p.natAbs := fun z => by have := List.length_pos_of_mem (of_decide_eq_true z); omega
      have habs := ls_abs hd2
      have e1 : del d (pre ++ a :: b :: post) = del d pre ++ rel d a :: rel d b :: del d post := by rw [del_app, del_cons ha, del_cons hb]
      have e2 : del d (pre ++ b :: a :: post) = del d pre ++ rel d b :: rel d a :: del d post := by rw [del_app, del_cons hb, del_cons ha]
      rw [e2] at ih
      rw [e1, lo_at (by rw [habs]; omega), ih]
      have hm : (rel d e ∈ del d pre) = (e ∈ pre) := propext (mem_del hde)
      have hor : (rel d e = rel d a ∨ rel d e = rel d b) ↔ (e = a ∨ e = b) := by rw [rel_inj hde ha, rel_inj hde hb]
      simp only [hm]
      by_cases hc2 : e = a ∨ e = b
      · rw [if_pos (hor.mpr hc2), if_pos (.inr hc2)]
      · rw [if_neg (fun z => hc2 (hor.mp z)), if_neg (fun z => z.elim hc hc2)]
theorem both_ways {n : Nat} {d e : Int} (hde : d ≠ e) {w row : List Int} (hw : Wn n w) (h : Row n row) (hd : d ∈ row) (he : e ∈ row) : lo (rel d e) (del d row) (lo d row w) = lo (rel e d) (del e row) (lo e row w) := by
  rw [lo_lo (fun z => hde z.symm) hw h hd, lo_lo hde hw h he]
  exact lo2_comm hde hw h
end G70

/-! L3a: values as plain data (tuples and lists by what they hold), who owns a list, the relation to the layer's heap. -/
namespace L3
open PySem PySem.Spec PyProof.Rows L2

abbrev St := L2.St
/-- a value as data; own: this list may still be changed by whoever holds it here -/
inductive Vl where
  | non | bl (b : Bool) | int (i : Int) | str (s : Str) | raw (v : V)
  | tup (xs : List Vl) | lst (own : Bool) (xs : List Vl)
  | sc (ns : List Int)
  | hole

/-- a list of the module, as it stands in the written part -/
def KL (K : PySem.W.Frag) (a : Addr) (xs : List V) : Prop :=
  ∃ (o : Obj) (its : Array Value) (n : Nat), K.lookup a = some o ∧ o.cls = .type "list" ∧ o.dict = none ∧ o.data = .seq its n ∧ its.size ≤ sizeLine ∧ Vals xs its.toList
def KT (K : PySem.W.Frag) (a : Addr) (xs : List V) : Prop :=
  ∃ (o : Obj) (its : Array Value) (n : Nat), K.lookup a = some o ∧ o.cls = .type "tuple" ∧ o.data = .seq its n ∧ its.size ≤ sizeLine ∧ Vals xs its.toList
/-- a list, a tuple that nobody changes any more -/
def FzL (B : Addr → Prop) (H : Hp) (a : Addr) (us : List V) : Prop := H a = some (.lst us) ∧ ¬ B a
/-- a list from outside, read alone -/
def FzS (K : PySem.W.Frag) (B : Addr → Prop) (H : Hp) (a : Addr) (us : List V) : Prop := (Rd H a (.lst us) ∧ ¬ B a) ∨ KL K a us
def FzT (K : PySem.W.Frag) (B : Addr → Prop) (H : Hp) (a : Addr) (us : List V) : Prop := (Rd H a (.tup us) ∧ ¬ B a) ∨ KT K a us
theorem FzL.sq {K : PySem.W.Frag} {B : Addr → Prop} {H : Hp} {a : Addr} {us : List V} (h : FzL B H a us) : SqL K H a us := .of h.1
theorem FzS.sq {K : PySem.W.Frag} {B : Addr → Prop} {H : Hp} {a : Addr} {us : List V} (h : FzS K B H a us) : SqL K H a us := by
  rcases h with ⟨h, _⟩ | h
  · exact .inl h
  · exact .inr h
theorem FzT.sq {K : PySem.W.Frag} {B : Addr → Prop} {H : Hp} {a : Addr} {us : List V} (h : FzT K B H a us) : SqT K H a us := by
  rcases h with ⟨h, _⟩ | h
  · exact .inl h
  · exact .inr h

mutual
/-- v stands for x; fp: the lists in it that may be changed -/
def Rep (K : PySem.W.Frag) (B : Addr → Prop) (H : Hp) : Vl → V → List Addr → Prop
  | .non, u, fp => u = .non ∧ fp = []
  | .bl b, u, fp => u = .bl b ∧ fp = []
  | .int i, u, fp => u = .int i ∧ fp = []
  | .str s, u, fp => u = .str s ∧ fp = []
  | .raw v, u, fp => u = v ∧ fp = []
  | .tup xs, u, fp => fp = [] ∧ ∃ a us, u = .ref a ∧ FzT K B H a us ∧ RepL K B H xs us []
  | .lst false xs, u, fp => fp = [] ∧ ∃ a us, u = .ref a ∧ FzL B H a us ∧ RepL K B H xs us []
  | .lst true xs, u, fp => ∃ a us g, u = .ref a ∧ fp = a :: g ∧ H a = some (.lst us) ∧ RepL K B H xs us g
  | .sc ns, u, fp => fp = [] ∧ ∃ a, u = .ref a ∧ FzS K B H a (ns.map V.int)
  | .hole, _, fp => fp = []
def RepL (K : PySem.W.Frag) (B : Addr → Prop) (H : Hp) : List Vl → List V → List Addr → Prop
  | [], us, fp => us = [] ∧ fp = []
  | x :: xs, us, fp => ∃ u ur f g, us = u :: ur ∧ fp = f ++ g ∧ Rep K B H x u f ∧ RepL K B H xs ur g
end

/-- the rest of the world is kept: all but fp -/
structure Stp (fp : List Addr) (H : Hp) (B : Addr → Prop) (H' : Hp) (B' : Addr → Prop) : Prop where
  keep : ∀ a, a ∉ fp → H a ≠ none → H' a = H a ∧ (B' a ↔ B a)
  there : ∀ a, H a ≠ none → H' a ≠ none
def Fresh (fp : List Addr) (H : Hp) (fp' : List Addr) : Prop := ∀ a ∈ fp', a ∈ fp ∨ H a = none

section
variable {K : PySem.W.Frag} {B B1 B2 : Addr → Prop} {H H1 H2 : Hp} {fp fp1 fp2 f g : List Addr}
theorem Stp.refl : Stp fp H B H B := ⟨fun _ _ _ => ⟨rfl, Iff.rfl⟩, fun _ h => h⟩
theorem Fresh.refl : Fresh fp H fp := fun _ h => .inl h
theorem Fresh.nil : Fresh fp H [] := fun _ h => absurd h (by simp)
theorem Fresh.app (h1 : Fresh fp H f) (h2 : Fresh fp H g) : Fresh fp H (f ++ g) := fun a h => (List.mem_append.mp h).elim (h1 a) (h2 a)
theorem Stp.trans (s1 : Stp fp H B H1 B1) (n1 : Fresh fp H fp1) (s2 : Stp fp1 H1 B1 H2 B2) : Stp fp H B H2 B2 := by
  refine ⟨fun a ha hn => ?_, fun a hn => s2.there a (s1.there a hn)⟩
  obtain ⟨e1, b1⟩ := s1.keep a ha hn
  have h1 : a ∉ fp1 := fun z => (n1 a z).elim ha hn
  obtain ⟨e2, b2⟩ := s2.keep a h1 (by rw [e1]; exact hn)
  exact ⟨e2.trans e1, b2.trans b1⟩
theorem Fresh.trans (s1 : Stp fp H B H1 B1) (n1 : Fresh fp H fp1) (n2 : Fresh fp1 H1 fp2) : Fresh fp H fp2 := fun a ha => by
  rcases n2 a ha with z | z
  · exact n1 a z
  · refine .inr ?_
    cases e : H a with
    | none => rfl
    | some o => exact absurd z (s1.there a (by rw [e]; simp))
theorem Stp.mono (s : Stp fp H B H1 B1) (h : ∀ a ∈ fp, a ∈ fp1) : Stp fp1 H B H1 B1 := ⟨fun a ha hn => s.keep a (fun z => ha (h a z)) hn, s.there⟩
theorem Fresh.mono (n : Fresh fp H f) (h : ∀ a ∈ fp, a ∈ fp1) : Fresh fp1 H f := fun a ha => (n a ha).elim (fun z => .inl (h a z)) .inr

theorem FzL.frame {a : Addr} {us : List V} (s : Stp fp H B H1 B1) (hb : ∀ b ∈ fp, B b) (h : FzL B H a us) : FzL B1 H1 a us := by
  obtain ⟨h, n⟩ := h
  obtain ⟨e, b⟩ := s.keep a (fun z => n (hb a z)) (by rw [h]; simp)
  exact ⟨e.trans h, fun z => n (b.mp z)⟩
theorem FzS.frame {a : Addr} {us : List V} (s : Stp fp H B H1 B1) (hb : ∀ b ∈ fp, B b) (h : FzS K B H a us) : FzS K B1 H1 a us := by
  rcases h with ⟨h, n⟩ | h
  · have hn : H a ≠ none := by rcases h with h | ⟨o, h⟩ <;> rw [h] <;> simp
    obtain ⟨e, b⟩ := s.keep a (fun z => n (hb a z)) hn
    refine .inl ⟨?_, fun z => n (b.mp z)⟩
    rcases h with h | ⟨o, h⟩
    · exact .inl (e.trans h)
    · exact .inr ⟨o, e.trans h⟩
  · exact .inr h
theorem FzT.frame {a : Addr} {us : List V} (s : Stp fp H B H1 B1) (hb : ∀ b ∈ fp, B b) (h : FzT K B H a us) : FzT K B1 H1 a us := by
  rcases h with ⟨h, n⟩ | h
  · have hn : H a ≠ none := by rcases h with h | ⟨o, h⟩ <;> rw [h] <;> simp
    obtain ⟨e, b⟩ := s.keep a (fun z => n (hb a z)) hn
    refine .inl ⟨?_, fun z => n (b.mp z)⟩
    rcases h with h | ⟨o, h⟩
    · exact .inl (e.trans h)
    · exact .inr ⟨o, e.trans h⟩
  · exact .inr h
mutual
theorem Rep.frame (s : Stp fp H B H1 B1) (hb : ∀ b ∈ fp, B b) : ∀ {x : Vl} {u : V} {f : List Addr}, (∀ b ∈ f, b ∉ fp) → Rep K B H x u f → Rep K B1 H1 x u f
  | .non, _, _, _, h => by simpa only [Rep] using h
  | .bl _, _, _, _, h => by simpa only [Rep] using h
  | .int _, _, _, _, h => by simpa only [Rep] using h
  | .str _, _, _, _, h => by simpa only [Rep] using h
  | .raw _, _, _, _, h => by simpa only [Rep] using h
  | .hole, _, _, _, h => by simpa only [Rep] using h
  | .tup xs, _, _, hd, h => by
    simp only [Rep] at h ⊢
    obtain ⟨rfl, a, us, rfl, q, r⟩ := h
    exact ⟨rfl, a, us, rfl, q.frame s hb, RepL.frame s hb (by simp) r⟩
  | .lst false xs, _, _, hd, h => by
    simp only [Rep] at h ⊢
    obtain ⟨rfl, a, us, rfl, q, r⟩ := h
    exact ⟨rfl, a, us, rfl, q.frame s hb, RepL.frame s hb (by simp) r⟩
  | .sc ns, _, _, hd, h => by
    simp only [Rep] at h ⊢
    obtain ⟨rfl, a, rfl, q⟩ := h
    exact ⟨rfl, a, rfl, q.frame s hb⟩
  | .lst true xs, _, _, hd, h => by
    simp only [Rep] at h ⊢
    obtain ⟨a, us, g, rfl, rfl, e, r⟩ := h
    exact ⟨a, us, g, rfl, rfl, ((s.keep a (hd a (by simp)) (by rw [e]; simp)).1).trans e, RepL.frame s hb (fun b hb' => hd b (by simp [hb'])) r⟩
theorem RepL.frame (s : Stp fp H B H1 B1) (hb : ∀ b ∈ fp, B b) : ∀ {xs : List Vl} {us : List V} {f : List Addr}, (∀ b ∈ f, b ∉ fp) → RepL K B H xs us f → RepL K B1 H1 xs us f
  | [], _, _, _, h => by simpa only [RepL] using h
  | x :: xs, _, _, hd, h => by
    simp only [RepL] at h ⊢
    obtain ⟨u, ur, f, g, rfl, rfl, r1, r2⟩ := h
    exact ⟨u, ur, f, g, rfl, rfl, r1.frame s hb (fun b z => hd b (by simp [z])), RepL.frame s hb (fun b z => hd b (by simp [z])) r2⟩
end
end

/-! ### nothing in it may be changed -/
mutual
@[simp] def Pur : Vl → Bool
  | .tup _ => true
  | .lst false _ => true
  | .lst true _ => false
  | .hole => false
  | _ => true
end
theorem Rep.pur {K : PySem.W.Frag} {B : Addr → Prop} {H : Hp} : ∀ {x : Vl} {u : V} {f : List Addr}, Pur x = true → Rep K B H x u f → f = []
  | .non, _, _, _, h => by simp only [Rep] at h; exact h.2
  | .bl _, _, _, _, h => by simp only [Rep] at h; exact h.2
  | .int _, _, _, _, h => by simp only [Rep] at h; exact h.2
  | .str _, _, _, _, h => by simp only [Rep] at h; exact h.2
  | .raw _, _, _, _, h => by simp only [Rep] at h; exact h.2
  | .hole, _, _, p, _ => by simp [Pur] at p
  | .tup xs, _, _, _, h => by simp only [Rep] at h; exact h.1
  | .lst false xs, _, _, _, h => by simp only [Rep] at h; exact h.1
  | .sc ns, _, _, _, h => by simp only [Rep] at h; exact h.1
  | .lst true xs, _, _, p, _ => by simp [Pur] at p

mutual
/-- from now on nobody changes it -/
@[simp] def fz : Vl → Vl
  | .lst _ xs => .lst false (fzL xs)
  | .tup xs => .tup xs
  | x => x
@[simp] def fzL : List Vl → List Vl
  | [] => []
  | x :: xs => fz x :: fzL xs
end
section
variable {K : PySem.W.Frag} {B : Addr → Prop} {H : Hp}
/-- the lists at fp are given up -/
def less (B : Addr → Prop) (fp : List Addr) : Addr → Prop := fun a => B a ∧ a ∉ fp
theorem Stp.less {fp : List Addr} : Stp fp H B H (less B fp) := ⟨fun a ha _ => ⟨rfl, ⟨fun z => z.1, fun z => ⟨z, ha⟩⟩⟩, fun _ h => h⟩
mutual
theorem Rep.less (fp : List Addr) : ∀ {x : Vl} {u : V} {f : List Addr}, (∀ a ∈ f, a ∈ fp) → Rep K B H x u f → Rep K (less B fp) H (fz x) u []
  | .non, _, _, _, h => by simp only [Rep, fz] at h ⊢; exact ⟨h.1, trivial⟩
  | .bl _, _, _, _, h => by simp only [Rep, fz] at h ⊢; exact ⟨h.1, trivial⟩
  | .int _, _, _, _, h => by simp only [Rep, fz] at h ⊢; exact ⟨h.1, trivial⟩
  | .str _, _, _, _, h => by simp only [Rep, fz] at h ⊢; exact ⟨h.1, trivial⟩
  | .raw _, _, _, _, h => by simp only [Rep, fz] at h ⊢; exact ⟨h.1, trivial⟩
  | .hole, _, _, _, h => by simp only [Rep, fz]
  | .tup xs, _, _, hf, h => by
    simp only [Rep, fz] at h ⊢
    obtain ⟨rfl, a, us, rfl, q, r⟩ := h
    refine ⟨trivial, a, us, rfl, ?_, ?_⟩
    · rcases q with ⟨q, n⟩ | q
      · exact .inl ⟨q, fun z => n z.1⟩
      · exact .inr q
    · exact RepL.dim fp (by simp) r
  | .lst false xs, _, _, hf, h => by
    simp only [Rep, fz] at h ⊢
    obtain ⟨rfl, a, us, rfl, q, r⟩ := h
    exact ⟨trivial, a, us, rfl, ⟨q.1, fun z => q.2 z.1⟩, RepL.less fp (by simp) r⟩
  | .sc ns, _, _, hf, h => by
    simp only [Rep, fz] at h ⊢
    obtain ⟨rfl, a, rfl, q⟩ := h
    refine ⟨trivial, a, rfl, ?_⟩
    rcases q with ⟨q, n⟩ | q
    · exact .inl ⟨q, fun z => n z.1⟩
    · exact .inr q
  | .lst true xs, _, _, hf, h => by
    simp only [Rep, fz] at h ⊢
    obtain ⟨a, us, g, rfl, rfl, e, r⟩ := h
    exact ⟨trivial, a, us, rfl, ⟨e, fun z => z.2 (hf a (by simp))⟩, RepL.less fp (fun b hb => hf b (by simp [hb])) r⟩
theorem RepL.less (fp : List Addr) : ∀ {xs : List Vl} {us : List V} {f : List Addr}, (∀ a ∈ f, a ∈ fp) → RepL K B H xs us f → RepL K (less B fp) H (fzL xs) us []
  | [], _, _, _, h => by simp only [RepL, fzL] at h ⊢; exact ⟨h.1, trivial⟩
  | x :: xs, _, _, hf, h => by
    simp only [RepL, fzL] at h ⊢
    obtain ⟨u, ur, f, g, rfl, rfl, r1, r2⟩ := h
    exact ⟨u, ur, [], [], rfl, rfl, Rep.less fp (fun a z => hf a (by simp [z])) r1, RepL.less fp (fun a z => hf a (by simp [z])) r2⟩
/-- what holds nothing of fp stays as it is -/
theorem Rep.dim (fp : List Addr) : ∀ {x : Vl} {u : V} {f : List Addr}, (∀ a ∈ f, a ∉ fp) → Rep K B H x u f → Rep K (less B fp) H x u f
  | .non, _, _, _, h => by simpa only [Rep] using h
  | .bl _, _, _, _, h => by simpa only [Rep] using h
  | .int _, _, _, _, h => by simpa only [Rep] using h
  | .str _, _, _, _, h => by simpa only [Rep] using h
  | .raw _, _, _, _, h => by simpa only [Rep] using h
  | .hole, _, _, _, h => by simpa only [Rep] using h
  | .tup xs, _, _, hf, h => by
    simp only [Rep] at h ⊢
    obtain ⟨rfl, a, us, rfl, q, r⟩ := h
    refine ⟨rfl, a, us, rfl, ?_, RepL.dim fp (by simp) r⟩
    rcases q with ⟨q, n⟩ | q
    · exact .inl ⟨q, fun z => n z.1⟩
    · exact .inr q
  | .lst false xs, _, _, hf, h => by
    simp only [Rep] at h ⊢
    obtain ⟨rfl, a, us, rfl, q, r⟩ := h
    exact ⟨rfl, a, us, rfl, ⟨q.1, fun z => q.2 z.1⟩, RepL.dim fp (by simp) r⟩
  | .sc ns, _, _, hf, h => by
    simp only [Rep] at h ⊢
    obtain ⟨rfl, a, rfl, q⟩ := h
    refine ⟨rfl, a, rfl, ?_⟩
    rcases q with ⟨q, n⟩ | q
    · exact .inl ⟨q, fun z => n z.1⟩
    · exact .inr q
  | .lst true xs, _, _, hf, h => by
    simp only [Rep] at h ⊢
    obtain ⟨a, us, g, rfl, rfl, e, r⟩ := h
    exact ⟨a, us, g, rfl, rfl, e, RepL.dim fp (fun b hb => hf b (by simp [hb])) r⟩
theorem RepL.dim (fp : List Addr) : ∀ {xs : List Vl} {us : List V} {f : List Addr}, (∀ a ∈ f, a ∉ fp) → RepL K B H xs us f → RepL K (less B fp) H xs us f
  | [], _, _, _, h => by simpa only [RepL] using h
  | x :: xs, _, _, hf, h => by
    simp only [RepL] at h ⊢
    obtain ⟨u, ur, f, g, rfl, rfl, r1, r2⟩ := h
    exact ⟨u, ur, f, g, rfl, rfl, Rep.dim fp (fun a z => hf a (by simp [z])) r1, RepL.dim fp (fun a z => hf a (by simp [z])) r2⟩
end
theorem RepL.length : ∀ {xs : List Vl} {us : List V} {f : List Addr}, RepL K B H xs us f → xs.length = us.length
  | [], _, _, h => by simp only [RepL] at h; rw [h.1]; rfl
  | x :: xs, _, _, h => by
    simp only [RepL] at h
    obtain ⟨u, ur, f, g, rfl, rfl, r1, r2⟩ := h
    simp [RepL.length r2]
/-- the i-th one, and what may stand in its place -/
theorem RepL.at : ∀ {xs : List Vl} {us : List V} {fp : List Addr} {i : Nat} {x : Vl}, RepL K B H xs us fp → xs[i]? = some x →
    ∃ u p f q, us[i]? = some u ∧ fp = p ++ f ++ q ∧ Rep K B H x u f ∧ ∀ y w g, Rep K B H y w g → RepL K B H (xs.set i y) (us.set i w) (p ++ g ++ q)
  | [], _, _, _, _, _, e => by simp at e
  | x :: xs, _, _, 0, y, h, e => by
    simp only [RepL] at h
    obtain ⟨u, ur, f, g, rfl, rfl, r1, r2⟩ := h
    simp only [List.getElem?_cons_zero, Option.some.injEq] at e
    subst e
    refine ⟨u, [], f, g, by simp, by simp, r1, fun z w g' r => ?_⟩
    simp only [List.set_cons_zero, List.nil_append, RepL]
    exact ⟨w, ur, g', g, rfl, rfl, r, r2⟩
  | x :: xs, _, _, i + 1, y, h, e => by
    simp only [RepL] at h
    obtain ⟨u, ur, f, g, rfl, rfl, r1, r2⟩ := h
    obtain ⟨u', p, f', q, e1, e2, r, st⟩ := RepL.at (i := i) r2 (by simpa using e)
    refine ⟨u', f ++ p, f', q, by simpa using e1, by simp [e2], r, fun z w g' r' => ?_⟩
    simp only [List.set_cons_succ, RepL]
    exact ⟨u, _, f, p ++ g' ++ q, rfl, by simp, r1, st z w g' r'⟩
theorem RepL.append : ∀ {xs : List Vl} {us : List V} {f : List Addr} {ys : List Vl} {ws : List V} {g : List Addr}, RepL K B H xs us f → RepL K B H ys ws g → RepL K B H (xs ++ ys) (us ++ ws) (f ++ g)
  | [], _, _, _, _, _, h, h' => by
    simp only [RepL] at h
    rw [h.1, h.2]
    exact h'
  | x :: xs, _, _, _, _, _, h, h' => by
    simp only [RepL] at h
    obtain ⟨u, ur, f, g, rfl, rfl, r1, r2⟩ := h
    simp only [List.cons_append, RepL]
    exact ⟨u, _, f, _, rfl, by simp, r1, RepL.append r2 h'⟩
end
/-! ### all of them bare -/
def PurL (xs : List Vl) : Bool := xs.all Pur
section
variable {K : PySem.W.Frag} {B : Addr → Prop} {H : Hp}
theorem RepL.pur : ∀ {xs : List Vl} {us : List V} {f : List Addr}, PurL xs = true → RepL K B H xs us f → f = []
  | [], _, _, _, h => by simp only [RepL] at h; exact h.2
  | x :: xs, _, _, p, h => by
    simp only [RepL] at h
    obtain ⟨u, ur, f, g, rfl, rfl, r1, r2⟩ := h
    simp only [PurL, List.all_cons, Bool.and_eq_true] at p
    rw [r1.pur p.1, RepL.pur (xs := xs) p.2 r2]; rfl
theorem RepL.take (n : Nat) : ∀ {n : Nat} {xs : List Vl} {us : List V}, RepL K B H xs us [] → RepL K B H (xs.take n) (us.take n) []
  | 0, _, _, _ => by simp [RepL]
  | n + 1, [], _, h => by
    simp only [RepL] at h
    simp [h.1, RepL]
  | n + 1, x :: xs, _, h => by
    simp only [RepL] at h
    obtain ⟨u, ur, f, g, rfl, e, r1, r2⟩ := h
    obtain ⟨rfl, rfl⟩ : f = [] ∧ g = [] := by simpa using e.symm
    simp only [List.take_succ_cons, RepL]
    exact ⟨u, _, [], [], rfl, rfl, r1, RepL.take n r2⟩
theorem RepL.drop : ∀ {n : Nat} {xs : List Vl} {us : List V}, RepL K B H xs us [] → RepL K B H (xs.drop n) (us.drop n) []
  | 0, _, _, h => by simpa using h
  | n + 1, [], _, h => by
    simp only [RepL] at h
    simp [h.1, RepL]
  | n + 1, x :: xs, _, h => by
    simp only [RepL] at h
    obtain ⟨u, ur, f, g, rfl, e, r1, r2⟩ := h
    obtain ⟨rfl, rfl⟩ : f = [] ∧ g = [] := by simpa using e.symm
    simpa using RepL.drop (n := n) r2
theorem RepL.reverse : ∀ {xs : List Vl} {us : List V}, RepL K B H xs us [] → RepL K B H xs.reverse us.reverse []
  | [], _, h => by
    simp only [RepL] at h
    simp [h.1, RepL]
  | x :: xs, _, h => by
    simp only [RepL] at h
    obtain ⟨u, ur, f, g, rfl, e, r1, r2⟩ := h
    obtain ⟨rfl, rfl⟩ : f = [] ∧ g = [] := by simpa using e.symm
    simp only [List.reverse_cons]
    exact RepL.append (f := []) (g := []) (RepL.reverse r2) (by simp only [RepL]; exact ⟨u, [], [], [], rfl, rfl, r1, rfl, rfl⟩)
end
end L3

/-! L3b: the state of a body, outcomes, what an expression comes to; the first rules. -/
namespace L3
open PySem PySem.Spec PyProof.Rows L2

/-- an argument: a value just made, or what stands in slot i (looked at as late as can be) -/
inductive Ag where
  | v (x : Vl) | at (i : Nat)
abbrev S := List Vl
/-- an end: as wished, an exception (its class's name, its value), or none that is spoken of -/
inductive Out (α : Type) where
  | ok (a : α) (s : S) | er (k : Str) (x : Vl) (s : S) | no
def Out.bind {α β : Type} (o : Out α) (f : α → S → Out β) : Out β := match o with
  | .ok a s => f a s
  | .er k x s => .er k x s
  | .no => .no
@[simp] theorem bind_ok {α β : Type} (a : α) (s : S) (f : α → S → Out β) : (Out.ok a s).bind f = f a s := rfl
@[simp] theorem bind_er {α β : Type} (k : Str) (x : Vl) (s : S) (f : α → S → Out β) : (Out.er k x s : Out α).bind f = .er k x s := rfl
@[simp] theorem bind_no {α β : Type} (f : α → S → Out β) : (Out.no : Out α).bind f = .no := rfl
/-- what an argument holds -/
@[simp] def res (s : S) : Ag → Vl
  | .v x => x
  | .at i => s.getD i .hole

section
variable (K : PySem.W.Frag) (B : Addr → Prop) (H : Hp)
def SlR (x : Vl) (o : Option V) (f : List Addr) : Prop := (x = .hole ∧ f = []) ∨ ∃ u, o = some u ∧ Rep K B H x u f
def RS : S → St → List Addr → Prop
  | [], σ, fp => σ = [] ∧ fp = []
  | x :: xs, σ, fp => ∃ o r f g, σ = o :: r ∧ fp = f ++ g ∧ SlR K B H x o f ∧ RS xs r g
def A1 (σ : St) (a : Ag) (u : V) (g : List Addr) : Prop := match a with
  | .v x => Rep K B H x u g
  | .at i => σ[i]? = some (some u) ∧ g = []
def AR (σ : St) : List Ag → List V → List Addr → Prop
  | [], us, g => us = [] ∧ g = []
  | a :: as, us, g => ∃ u ur g1 g2, us = u :: ur ∧ g = g1 ++ g2 ∧ A1 K B H σ a u g1 ∧ AR σ as ur g2
end
/-- the surroundings: slots that are never stored anew (parameters), what is wished of exceptions -/
structure Q3 where
  fx : List (Nat × V)
  W : WX
structure GT (K : PySem.W.Frag) (c : Q3) (B : Addr → Prop) (H : Hp) (s : S) (σ : St) (as : List Ag) (us : List V) (fp g : List Addr) : Prop where
  rs : RS K B H s σ fp
  ar : AR K B H σ as us g
  nd : (fp ++ g).Nodup
  own : ∀ a ∈ fp ++ g, B a
  dom : ∀ a, B a → H a ≠ none
  fix : ∀ p ∈ c.fx, σ[p.1]? = some (some p.2)

section
variable {K : PySem.W.Frag} {c : Q3} {B B1 B2 : Addr → Prop} {H H1 H2 : Hp} {s s1 s2 : S} {σ : St} {as as1 as2 : List Ag} {us us1 us2 : List V} {fp fp1 fp2 g g1 g2 : List Addr}
theorem SlR.frame {x : Vl} {o : Option V} {f : List Addr} (st : Stp fp H B H1 B1) (hb : ∀ b ∈ fp, B b) (hd : ∀ b ∈ f, b ∉ fp) (h : SlR K B H x o f) : SlR K B1 H1 x o f := by
  rcases h with h | ⟨u, e, h⟩
  · exact .inl h
  · exact .inr ⟨u, e, h.frame st hb hd⟩
theorem RS.frame (st : Stp fp H B H1 B1) (hb : ∀ b ∈ fp, B b) : ∀ {s : S} {σ : St} {f : List Addr}, (∀ b ∈ f, b ∉ fp) → RS K B H s σ f → RS K B1 H1 s σ f
  | [], _, _, _, h => by simpa only [RS] using h
  | x :: xs, _, _, hd, h => by
    simp only [RS] at h ⊢
    obtain ⟨o, r, f, g, rfl, rfl, r1, r2⟩ := h
    exact ⟨o, r, f, g, rfl, rfl, r1.frame st hb (fun b z => hd b (by simp [z])), RS.frame st hb (fun b z => hd b (by simp [z])) r2⟩
theorem A1.frame {a : Ag} {u : V} {f : List Addr} (st : Stp fp H B H1 B1) (hb : ∀ b ∈ fp, B b) (hd : ∀ b ∈ f, b ∉ fp) (h : A1 K B H σ a u f) : A1 K B1 H1 σ a u f := by
  cases a with
  | v x => exact Rep.frame st hb hd h
  | «at» i => exact h
theorem AR.frame (st : Stp fp H B H1 B1) (hb : ∀ b ∈ fp, B b) : ∀ {as : List Ag} {us : List V} {f : List Addr}, (∀ b ∈ f, b ∉ fp) → AR K B H σ as us f → AR K B1 H1 σ as us f
  | [], _, _, _, h => by simpa only [AR] using h
  | a :: as, _, _, hd, h => by
    simp only [AR] at h ⊢
    obtain ⟨u, ur, f, g, rfl, rfl, r1, r2⟩ := h
    exact ⟨u, ur, f, g, rfl, rfl, r1.frame st hb (fun b z => hd b (by simp [z])), AR.frame st hb (fun b z => hd b (by simp [z])) r2⟩
theorem AR.app : ∀ {as1 as2 : List Ag} {us1 us2 : List V} {g1 g2 : List Addr}, AR K B H σ as1 us1 g1 → AR K B H σ as2 us2 g2 → AR K B H σ (as1 ++ as2) (us1 ++ us2) (g1 ++ g2)
  | [], _, _, _, _, _, h, h' => by
    simp only [AR] at h
    rw [h.1, h.2]; exact h'
  | a :: as, _, _, _, _, _, h, h' => by
    simp only [AR] at h
    obtain ⟨u, ur, f, g, rfl, rfl, r1, r2⟩ := h
    simp only [List.cons_append, AR]
    exact ⟨u, _, f, _, rfl, by simp, r1, AR.app r2 h'⟩
theorem AR.one {a : Ag} {u : V} (h : A1 K B H σ a u g) : AR K B H σ [a] [u] g := by
  simp only [AR]
  exact ⟨u, [], g, [], rfl, by simp, h, rfl, rfl⟩
theorem AR.one_inv {a : Ag} (h : AR K B H σ [a] us g) : ∃ u, us = [u] ∧ A1 K B H σ a u g := by
  simp only [AR] at h
  obtain ⟨u, ur, g1, g2, e1, e2, h, e3, e4⟩ := h
  subst e3; subst e4; subst e1; subst e2
  exact ⟨u, rfl, by simpa using h⟩
theorem GT.drop (G : GT K c B H s σ as us fp g) : GT K c B H s σ [] [] fp [] :=
  ⟨G.rs, by simp [AR], by simpa using (List.nodup_append.mp G.nd).1, fun a h => G.own a (by simp only [List.append_nil] at h; simp [h]), G.dom, G.fix⟩
theorem GT.dj (G : GT K c B H s σ as us fp g) : ∀ a ∈ g, a ∉ fp := fun a h1 h2 => (List.nodup_append.mp G.nd).2.2 a h2 a h1 rfl
theorem GT.ownF (G : GT K c B H s σ as us fp g) : ∀ a ∈ fp, B a := fun a h => G.own a (List.mem_append_left _ h)
/-- one thing behind another: the first one's values stand -/
theorem GT.seq (G1 : GT K c B1 H1 s1 σ as1 us1 fp1 g1) (st : Stp fp1 H1 B1 H2 B2) (fr : Fresh fp1 H1 (fp2 ++ g2)) (G2 : GT K c B2 H2 s2 σ as2 us2 fp2 g2) :
    GT K c B2 H2 s2 σ (as1 ++ as2) (us1 ++ us2) fp2 (g1 ++ g2) := by
  have dj : ∀ b ∈ g1, b ∉ fp2 ++ g2 := fun b h1 h2 => by
    rcases fr b h2 with z | z
    · exact G1.dj b h1 z
    · exact G1.dom b (G1.own b (List.mem_append_right _ h1)) z
  refine ⟨G2.rs, (G1.ar.frame st G1.ownF G1.dj).app G2.ar, ?_, fun a h => ?_, G2.dom, G2.fix⟩
  · have n1 := (List.nodup_append.mp G1.nd).2.1
    have n2 := List.nodup_append.mp G2.nd
    refine List.nodup_append.mpr ⟨n2.1, List.nodup_append.mpr ⟨n1, n2.2.1, fun a h1 b h2 e => dj a h1 (by rw [e]; simp [h2])⟩, fun a h1 b h2 e => ?_⟩
    rcases List.mem_append.mp h2 with z | z
    · exact dj b z (by rw [← e]; simp [h1])
    · exact n2.2.2 a h1 b z e
  · have h' : a ∈ fp2 ++ g2 ∨ a ∈ g1 := by
      rcases List.mem_append.mp h with z | z
      · exact .inl (by simp [z])
      · rcases List.mem_append.mp z with z | z
        · exact .inr z
        · exact .inl (by simp [z])
    rcases h' with z | z
    · exact G2.own a z
    · have hb := G1.own a (List.mem_append_right _ z)
      exact ((st.keep a (G1.dj a z) (G1.dom a hb)).2).mpr hb
theorem Fresh.seq (G1 : GT K c B1 H1 s1 σ as1 us1 fp1 g1) (st0 : Stp fp H B H1 B1) (fr0 : Fresh fp H (fp1 ++ g1)) (fr : Fresh fp1 H1 (fp2 ++ g2)) : Fresh fp H (fp2 ++ (g1 ++ g2)) := by
  have f1 : Fresh fp H fp1 := fun a h => fr0 a (by simp [h])
  have f2 := Fresh.trans st0 f1 fr
  intro a h
  rcases List.mem_append.mp h with z | z
  · exact f2 a (by simp [z])
  · rcases List.mem_append.mp z with z | z
    · exact fr0 a (by simp [z])
    · exact f2 a (by simp [z])

/-- what stands in a slot -/
theorem RS.get : ∀ {s : S} {σ : St} {fp : List Addr} {i : Nat} {x : Vl}, RS K B H s σ fp → s[i]? = some x →
    ∃ o p f q, σ[i]? = some o ∧ fp = p ++ f ++ q ∧ SlR K B H x o f ∧ ∀ y o' g, SlR K B H y o' g → RS K B H (s.set i y) (σ.set i o') (p ++ g ++ q)
  | [], _, _, _, _, _, e => by simp at e
  | x :: xs, _, _, 0, y, h, e => by
    simp only [RS] at h
    obtain ⟨u, ur, f, g, rfl, rfl, r1, r2⟩ := h
    simp only [List.getElem?_cons_zero, Option.some.injEq] at e
    subst e
    refine ⟨u, [], f, g, by simp, by simp, r1, fun z w g' r => ?_⟩
    simp only [List.set_cons_zero, List.nil_append, RS]
    exact ⟨w, ur, g', g, rfl, rfl, r, r2⟩
  | x :: xs, _, _, i + 1, y, h, e => by
    simp only [RS] at h
    obtain ⟨u, ur, f, g, rfl, rfl, r1, r2⟩ := h
    obtain ⟨u', p, f', q, e1, e2, r, st⟩ := RS.get (i := i) r2 (by simpa using e)
    refine ⟨u', f ++ p, f', q, by simpa using e1, by simp [e2], r, fun z w g' r' => ?_⟩
    simp only [List.set_cons_succ, RS]
    exact ⟨u, _, f, p ++ g' ++ q, rfl, by simp, r1, st z w g' r'⟩
theorem RS.len : ∀ {s : S} {σ : St} {fp : List Addr}, RS K B H s σ fp → s.length = σ.length
  | [], _, _, h => by simp only [RS] at h; rw [h.1]; rfl
  | x :: xs, _, _, h => by
    simp only [RS] at h
    obtain ⟨u, ur, f, g, rfl, rfl, r1, r2⟩ := h
    simp [RS.len r2]
/-- an argument's value, whatever holds it -/
theorem A1.res (hs : RS K B H s σ fp) {a : Ag} {u : V} (h : A1 K B H σ a u g) : ∃ f, Rep K B H (res s a) u f := by
  cases a with
  | v x => exact ⟨g, h⟩
  | «at» i =>
    obtain ⟨h, _⟩ := h
    show ∃ f, Rep K B H (s.getD i .hole) u f
    cases e : s[i]? with
    | none => exact ⟨[], by simp [List.getD, e, Rep]⟩
    | some x =>
      obtain ⟨o, p, f, q, e1, e2, r, _⟩ := hs.get e
      rw [h] at e1
      cases e1
      rcases r with ⟨rfl, _⟩ | ⟨w, e3, r⟩
      · exact ⟨[], by simp [List.getD, e, Rep]⟩
      · cases e3
        exact ⟨f, by simpa [List.getD, e] using r⟩
end
/-- values that are looked at -/
def RepP (K : PySem.W.Frag) (B : Addr → Prop) (H : Hp) : List Vl → List V → Prop
  | [], us => us = []
  | x :: xs, us => ∃ u ur f, us = u :: ur ∧ Rep K B H x u f ∧ RepP K B H xs ur
theorem AR.res {K : PySem.W.Frag} {B : Addr → Prop} {H : Hp} {s : S} {σ : St} {fp : List Addr} (hs : RS K B H s σ fp) : ∀ {as : List Ag} {us : List V} {g : List Addr}, AR K B H σ as us g → RepP K B H (as.map (res s)) us
  | [], _, _, h => by simp only [AR] at h; simp [RepP, h.1]
  | a :: as, _, _, h => by
    simp only [AR] at h
    obtain ⟨u, ur, g1, g2, rfl, rfl, r1, r2⟩ := h
    obtain ⟨f, r⟩ := r1.res hs
    simp only [List.map_cons, RepP]
    exact ⟨u, ur, f, rfl, r, AR.res hs r2⟩

/-! ### what is asked ahead of an expression -/
section
variable (X : Cx) (c : Q3)
/-- an exception leaves: the state, the exception's own dict -/
def ErK (B : Addr → Prop) (H : Hp) (fp : List Addr) (k : Str) (x : Vl) (s' : S) : Prop :=
  ∀ σ C d w H' B' fp', Stp fp H B H' B' → Fresh fp H fp' → GT X.K c B' H' s' σ [] [] fp' [] → X.mg k = some (.ref C) → H' d = some (.xd [(("value" : Str), w)]) → ¬ B' d → Rep X.K B' H' x w [] → c.W (.ref C) (some d) σ H'
def FinG {α : Type} (B : Addr → Prop) (H : Hp) (fp : List Addr) (σ : St) (P : α → S → Prop) : Out α → Prop
  | .ok a s' => P a s'
  | .er k x s' => ErK X c B H fp k x s'
  | .no => False
abbrev FinE (B : Addr → Prop) (H : Hp) (fp : List Addr) (σ : St) (o : Out Ag) (Q : VK) : Prop :=
  FinG X c B H fp σ (fun a s' => ∀ u H' B' fp' g, Stp fp H B H' B' → Fresh fp H (fp' ++ g) → GT X.K c B' H' s' σ [a] [u] fp' g → Q u H') o
def tE (ev : S → Out Ag) : TE := fun σ H Q => ∃ B s fp, GT X.K c B H s σ [] [] fp [] ∧ FinE X c B H fp σ (ev s) Q
abbrev FinA (B : Addr → Prop) (H : Hp) (fp : List Addr) (σ : St) (o : Out (List Ag)) (Q : List V → Hp → Prop) : Prop :=
  FinG X c B H fp σ (fun as s' => ∀ us H' B' fp' g, Stp fp H B H' B' → Fresh fp H (fp' ++ g) → GT X.K c B' H' s' σ as us fp' g → Q us H') o
def tA3 (ev : S → Out (List Ag)) : TA := fun σ H Q => ∃ B s fp, GT X.K c B H s σ [] [] fp [] ∧ FinA X c B H fp σ (ev s) Q
abbrev FinT (B : Addr → Prop) (H : Hp) (fp : List Addr) (σ : St) (o : Out Bool) (Q : Bool → Hp → Prop) : Prop :=
  FinG X c B H fp σ (fun b s' => ∀ H' B' fp', Stp fp H B H' B' → Fresh fp H fp' → GT X.K c B' H' s' σ [] [] fp' [] → Q b H') o
def tT (ev : S → Out Bool) : TT := fun σ H Q => ∃ B s fp, GT X.K c B H s σ [] [] fp [] ∧ FinT X c B H fp σ (ev s) Q
/-- an expression comes to ev -/
def ME (e : Expr) (ev : S → Out Ag) : Prop := PE X e (tE X c ev)
def MA (es : List Expr) (ev : S → Out (List Ag)) : Prop := PA X es (tA3 X c ev)
def MT (e : Expr) (ev : S → Out Bool) : Prop := PT X e (tT X c ev)
def MW (e : Expr) (ev : S → Out Bool) : Prop := PW X e (tT X c ev)
end
section
variable {X : Cx} {c : Q3}
theorem PE.weak {e : Expr} {t t' : TE} (h : PE X e t) (w : ∀ σ H Q, t' σ H Q → t σ H Q) : PE X e t' := ⟨fun pins s σ H Q I q => h.run pins s σ H Q I (w σ H Q q)⟩
theorem PA.weak {es : List Expr} {t t' : TA} (h : PA X es t) (w : ∀ σ H Q, t' σ H Q → t σ H Q) : PA X es t' := ⟨fun pos pins s σ H Q I q => h.run pos pins s σ H Q I (w σ H Q q)⟩
theorem PT.weak {e : Expr} {t t' : TT} (h : PT X e t) (w : ∀ σ H Q, t' σ H Q → t σ H Q) : PT X e t' := ⟨fun pins s σ H Q I q => h.run pins s σ H Q I (w σ H Q q)⟩
theorem PW.weak {e : Expr} {t t' : TT} (h : PW X e t) (w : ∀ σ H Q, t' σ H Q → t σ H Q) : PW X e t' := ⟨fun wh pins s σ H Q I q => h.run wh pins s σ H Q I (w σ H Q q)⟩
theorem ErK.trans {B B1 : Addr → Prop} {H H1 : Hp} {fp fp1 : List Addr} {k : Str} {x : Vl} {s' : S} (st : Stp fp H B H1 B1) (fr : Fresh fp H fp1) (h : ErK X c B H fp k x s') : ErK X c B1 H1 fp1 k x s' :=
  fun σ C d w H' B' fp' st' fr' G m e n r => h σ C d w H' B' fp' (st.trans fr st') (Fresh.trans st fr fr') G m e n r

theorem FinG.trans {α : Type} {B B1 : Addr → Prop} {H H1 : Hp} {fp fp1 : List Addr} {σ : St} {P P' : α → S → Prop} {o : Out α} (st : Stp fp H B H1 B1) (fr : Fresh fp H fp1) (hP : ∀ a s, P a s → P' a s) (h : FinG X c B H fp σ P o) : FinG X c B1 H1 fp1 σ P' o := by
  cases o with
  | ok a s => exact hP a s h
  | er k x s => exact ErK.trans st fr h
  | no => exact h
theorem Fresh.left {fp fp1 g : List Addr} {H : Hp} (h : Fresh fp H (fp1 ++ g)) : Fresh fp H fp1 := fun b z => h b (by simp [z])

/-! ### sequencing -/
/-- an expression, then more -/
theorem tE_one {α : Type} {ea : S → Out Ag} {k : Ag → S → Out α} {B : Addr → Prop} {H : Hp} {s : S} {σ : St} {fp : List Addr} {P : α → S → Prop} {R : V → Hp → Prop}
    (G : GT X.K c B H s σ [] [] fp []) (q : FinG X c B H fp σ P ((ea s).bind k))
    (hk : ∀ a s1 u H1 B1 fp1 g1, Stp fp H B H1 B1 → Fresh fp H (fp1 ++ g1) → GT X.K c B1 H1 s1 σ [a] [u] fp1 g1 → FinG X c B H fp σ P (k a s1) → R u H1) : tE X c ea σ H R := by
  refine ⟨B, s, fp, G, ?_⟩
  cases e : ea s with
  | ok a s1 => rw [e] at q; exact fun u H1 B1 fp1 g1 st fr G1 => hk a s1 u H1 B1 fp1 g1 st fr G1 q
  | er k x s' => rw [e] at q; exact q
  | no => rw [e] at q; exact q.elim
theorem tT_one {α : Type} {ea : S → Out Bool} {k : Bool → S → Out α} {B : Addr → Prop} {H : Hp} {s : S} {σ : St} {fp : List Addr} {P : α → S → Prop} {R : Bool → Hp → Prop}
    (G : GT X.K c B H s σ [] [] fp []) (q : FinG X c B H fp σ P ((ea s).bind k))
    (hk : ∀ a s1 H1 B1 fp1, Stp fp H B H1 B1 → Fresh fp H fp1 → GT X.K c B1 H1 s1 σ [] [] fp1 [] → FinG X c B H fp σ P (k a s1) → R a H1) : tT X c ea σ H R := by
  refine ⟨B, s, fp, G, ?_⟩
  cases e : ea s with
  | ok a s1 => rw [e] at q; exact fun H1 B1 fp1 st fr G1 => hk a s1 H1 B1 fp1 st fr G1 q
  | er k x s' => rw [e] at q; exact q
  | no => rw [e] at q; exact q.elim
theorem tA_one {α : Type} {ea : S → Out (List Ag)} {k : List Ag → S → Out α} {B : Addr → Prop} {H : Hp} {s : S} {σ : St} {fp : List Addr} {P : α → S → Prop} {R : List V → Hp → Prop}
    (G : GT X.K c B H s σ [] [] fp []) (q : FinG X c B H fp σ P ((ea s).bind k))
    (hk : ∀ as s1 us H1 B1 fp1 g1, Stp fp H B H1 B1 → Fresh fp H (fp1 ++ g1) → GT X.K c B1 H1 s1 σ as us fp1 g1 → FinG X c B H fp σ P (k as s1) → R us H1) : tA3 X c ea σ H R := by
  refine ⟨B, s, fp, G, ?_⟩
  cases e : ea s with
  | ok a s1 => rw [e] at q; exact fun u H1 B1 fp1 g1 st fr G1 => hk a s1 u H1 B1 fp1 g1 st fr G1 q
  | er k x s' => rw [e] at q; exact q
  | no => rw [e] at q; exact q.elim
/-- two expressions, then more -/
theorem tE_two {α : Type} {ea eb : S → Out Ag} {k : Ag → Ag → S → Out α} {B : Addr → Prop} {H : Hp} {s : S} {σ : St} {fp : List Addr} {P : α → S → Prop} {R : V → V → Hp → Prop}
    (G : GT X.K c B H s σ [] [] fp []) (q : FinG X c B H fp σ P ((ea s).bind fun a s1 => (eb s1).bind fun b s2 => k a b s2))
    (hk : ∀ a b s2 u w H2 B2 fp2 g2, Stp fp H B H2 B2 → Fresh fp H (fp2 ++ g2) → GT X.K c B2 H2 s2 σ [a, b] [u, w] fp2 g2 → FinG X c B H fp σ P (k a b s2) → R u w H2) :
    tE X c ea σ H fun u H1 => tE X c eb σ H1 fun w H2 => R u w H2 := by
  refine tE_one G q fun a s1 u H1 B1 fp1 g1 st fr G1 q => ?_
  refine ⟨B1, s1, fp1, G1.drop, ?_⟩
  cases e : eb s1 with
  | no => rw [e] at q; exact q.elim
  | er k x s' => rw [e] at q; exact ErK.trans st fr.left q
  | ok b s2 =>
    rw [e] at q
    exact fun w H2 B2 fp2 g2 st2 fr2 G2 => hk a b s2 u w H2 B2 fp2 (g1 ++ g2) (st.trans fr.left st2) (Fresh.seq G1 st fr fr2) (G1.seq st2 fr2 G2) q
theorem me_of {e : Expr} {ev ev' : S → Out Ag} (h : ME X c e ev) (q : ∀ s, ev s = ev' s) : ME X c e ev' := by
  have : ev = ev' := funext q
  rw [← this]; exact h

/-! ### names, constants -/
def eK (x : Vl) : S → Out Ag := fun s => .ok (.v x) s
def eN (i : Nat) : S → Out Ag := fun s => match s[i]? with
  | some .hole => .no
  | some _ => .ok (.at i) s
  | none => .no
theorem GT.val {K : PySem.W.Frag} {B : Addr → Prop} {H : Hp} {s : S} {σ : St} {fp : List Addr} {x : Vl} {u : V} (G : GT K c B H s σ [] [] fp []) (r : Rep K B H x u []) : GT K c B H s σ [.v x] [u] fp [] :=
  ⟨G.rs, .one r, G.nd, G.own, G.dom, G.fix⟩
theorem me_k {e : Expr} {v : V} {x : Vl} (h : PE X e (tC v)) (r : ∀ B H, Rep X.K B H x v []) : ME X c e (eK x) := by
  refine PE.weak h fun σ H Q q => ?_
  obtain ⟨B, s, fp, G, q⟩ := q
  exact q v H B fp [] .refl (by simpa using Fresh.refl) (G.val (r B H))
theorem me_int {i : Int} {j pos} : ME X c (.Constant (.int i) j pos) (eK (.int i)) := me_k pe_int fun _ _ => by simp [Rep]
theorem me_bl {b : Bool} {j pos} : ME X c (.Constant (.bool b) j pos) (eK (.bl b)) := me_k pe_bl fun _ _ => by simp [Rep]
theorem me_non {j pos} : ME X c (.Constant .none j pos) (eK .non) := me_k pe_non fun _ _ => by simp [Rep]
theorem me_str {x : Str} {j pos} : ME X c (.Constant (.str x) j pos) (eK (.str x)) := me_k pe_str fun _ _ => by simp [Rep]
theorem me_nm (i : Nat) {x : Str} {pos : Pos} (hN : X.N[i]? = some x := by rfl) (hv : Vis X.env.scope x := by first | exact Or.inl rfl | exact Or.inr (Or.inl rfl) | exact Or.inr (Or.inr rfl)) (hd : (x == ("__debug__" : Str)) = false := by decide)
    (hcd : (x == ("__classdict__" : Str)) = false := by decide) : ME X c (.Name x pos) (eN i) := by
  refine PE.weak (pe_var hN hv hd hcd) fun σ H Q q => ?_
  obtain ⟨B, s, fp, G, q⟩ := q
  unfold eN at q
  cases e : s[i]? with
  | none => rw [e] at q; exact q.elim
  | some x =>
    rw [e] at q
    obtain ⟨o, p, f, r', e1, e2, r, _⟩ := G.rs.get e
    rcases r with ⟨rfl, _⟩ | ⟨u, rfl, r⟩
    · exact q.elim
    · refine ⟨u, e1, ?_⟩
      have q' : FinE X c B H fp σ (.ok (.at i) s) Q := by
        cases x <;> first | exact q | exact q.elim
      exact q' u H B fp [] .refl (by simpa using Fresh.refl) ⟨G.rs, .one ⟨e1, rfl⟩, G.nd, G.own, G.dom, G.fix⟩

/-! ### argument lists -/
def aNil : S → Out (List Ag) := fun s => .ok [] s
def aCons (ea : S → Out Ag) (er : S → Out (List Ag)) : S → Out (List Ag) := fun s => (ea s).bind fun a s1 => (er s1).bind fun as s2 => .ok (a :: as) s2
theorem ma_nil : MA X c [] aNil := by
  refine PA.weak pa_nil fun σ H Q q => ?_
  obtain ⟨B, s, fp, G, q⟩ := q
  exact q [] H B fp [] .refl (by simpa using Fresh.refl) G
theorem ma_cons {e : Expr} {es : List Expr} {ea : S → Out Ag} {er : S → Out (List Ag)} (h1 : ME X c e ea) (h2 : MA X c es er) (hs : starEach (e :: es) X.env = (false, eval e X.env) :: starEach es X.env := by rfl) : MA X c (e :: es) (aCons ea er) := by
  refine PA.weak (pa_cons h1 h2 hs) fun σ H Q q => ?_
  obtain ⟨B, s, fp, G, q⟩ := q
  refine tE_one G q fun a s1 u H1 B1 fp1 g1 st fr G1 q => ?_
  refine ⟨B1, s1, fp1, G1.drop, ?_⟩
  cases e2 : er s1 with
  | no => rw [e2] at q; exact q.elim
  | er k x s' => rw [e2] at q; exact ErK.trans st fr.left q
  | ok as s2 =>
    rw [e2] at q
    intro us H2 B2 fp2 g2 st2 fr2 G2
    exact q (u :: us) H2 B2 fp2 (g1 ++ g2) (st.trans fr.left st2) (Fresh.seq G1 st fr fr2) (G1.seq st2 fr2 G2)
end
end L3

/-! L3c: operators by values, comparisons, tests. -/
namespace L3
open PySem PySem.Spec PyProof.Rows L2

/-! ### plain data -/
mutual
def dt : Vl → Option PyData
  | .non => some .none
  | .bl b => some (.bool b)
  | .int i => some (.int i)
  | .str s => some (.str s)
  | .tup xs => match dtL xs with | some ds => some (.tuple ds) | none => none
  | .lst _ xs => match dtL xs with | some ds => some (.list ds) | none => none
  | .raw _ => none
  | .sc _ => none
  | .hole => none
def dtL : List Vl → Option (List PyData)
  | [] => some []
  | x :: xs => match dt x, dtL xs with | some d, some ds => some (d :: ds) | _, _ => none
end
mutual
/-- data of depth n at most -/
def okD : Nat → Vl → Bool
  | _, .non => true
  | _, .bl _ => true
  | _, .int _ => true
  | _, .str x => PyData.strOk x
  | n + 1, .tup xs => okL n xs
  | n + 1, .lst _ xs => okL n xs
  | _, _ => false
def okL : Nat → List Vl → Bool
  | _, [] => true
  | n, x :: xs => okD n x && okL n xs
end
mutual
/-- == of data -/
def vEq : Vl → Vl → Bool
  | .non, .non => true
  | .bl a, .bl b => a == b
  | .bl a, .int j => (if a then 1 else 0) == j
  | .int i, .bl b => i == (if b then 1 else 0)
  | .int i, .int j => i == j
  | .str x, .str y => x == y
  | .tup xs, .tup ys => vEqL xs ys
  | .lst _ xs, .lst _ ys => vEqL xs ys
  | _, _ => false
def vEqL : List Vl → List Vl → Bool
  | [], [] => true
  | x :: xs, y :: ys => vEq x y && vEqL xs ys
  | _, _ => false
end
mutual
theorem okD.dt : ∀ {n : Nat} {x : Vl}, okD n x = true → ∃ d, dt x = some d ∧ d.depth ≤ n ∧ d.canLay0 = true ∧ d.hasDict = false
  | n, .non, _ => ⟨_, rfl, by simp [PyData.depth], rfl, rfl⟩
  | n, .bl b, _ => ⟨_, rfl, by simp [PyData.depth], rfl, rfl⟩
  | n, .int i, _ => ⟨_, rfl, by simp [PyData.depth], rfl, rfl⟩
  | n, .str i, h => ⟨_, rfl, by simp [PyData.depth], by cases n <;> exact h, rfl⟩
  | 0, .tup xs, h => by simp [okD] at h
  | 0, .lst _ xs, h => by simp [okD] at h
  | n + 1, .tup xs, h => by
    simp only [okD] at h
    obtain ⟨ds, e, h1, h2, h3⟩ := okL.dt h
    exact ⟨.tuple ds, by simp [L3.dt, e], by simp [PyData.depth]; omega, by simpa [PyData.canLay0] using h2, by simpa [PyData.hasDict] using h3⟩
  | n + 1, .lst _ xs, h => by
    simp only [okD] at h
    obtain ⟨ds, e, h1, h2, h3⟩ := okL.dt h
    exact ⟨.list ds, by simp [L3.dt, e], by simp [PyData.depth]; omega, by simpa [PyData.canLay0] using h2, by simpa [PyData.hasDict] using h3⟩
  | n, .raw v, h => by cases n <;> simp [okD] at h
  | n, .sc v, h => by cases n <;> simp [okD] at h
  | n, .hole, h => by cases n <;> simp [okD] at h
theorem okL.dt : ∀ {n : Nat} {xs : List Vl}, okL n xs = true → ∃ ds, dtL xs = some ds ∧ PyData.depthAll ds ≤ n ∧ PyData.canLayAll0 ds = true ∧ PyData.hasDictAll ds = false
  | n, [], _ => ⟨[], rfl, by simp [PyData.depthAll], rfl, rfl⟩
  | n, x :: xs, h => by
    simp only [okL, Bool.and_eq_true] at h
    obtain ⟨d, e1, a1, a2, a3⟩ := okD.dt h.1
    obtain ⟨ds, e2, b1, b2, b3⟩ := okL.dt h.2
    exact ⟨d :: ds, by simp [dtL, e1, e2], by simp [PyData.depthAll]; omega, by simp [PyData.canLayAll0, a2, b2], by simp [PyData.hasDictAll, a3, b3]⟩
end
mutual
theorem vEq.dt : ∀ (x y : Vl) (d e : PyData), dt x = some d → dt y = some e → PyData.eqv d e = vEq x y := by
  intro x y d e h1 h2
  cases x with
  | tup xs =>
    cases h : dtL xs with
    | none => simp [L3.dt, h] at h1
    | some ds =>
      simp only [L3.dt, h, Option.some.injEq] at h1
      subst h1
      cases y with
      | tup ys =>
        cases h' : dtL ys with
        | none => simp [L3.dt, h'] at h2
        | some es =>
          simp only [L3.dt, h', Option.some.injEq] at h2
          subst h2
          simp only [PyData.eqv, vEq]
          exact vEqL.dt xs ys ds es h h'
      | lst o ys =>
        cases h' : dtL ys with
        | none => simp [L3.dt, h'] at h2
        | some es =>
          simp only [L3.dt, h', Option.some.injEq] at h2
          subst h2
          rfl
      | raw v => simp [L3.dt] at h2
      | sc v => simp [L3.dt] at h2
      | hole => simp [L3.dt] at h2
      | non => simp [L3.dt] at h2; subst h2; rfl
      | bl b => simp [L3.dt] at h2; subst h2; rfl
      | int b => simp [L3.dt] at h2; subst h2; rfl
      | str b => simp [L3.dt] at h2; subst h2; rfl
  | lst o xs =>
    cases h : dtL xs with
    | none => simp [L3.dt, h] at h1
    | some ds =>
      simp only [L3.dt, h, Option.some.injEq] at h1
      subst h1
      cases y with
      | lst o' ys =>
        cases h' : dtL ys with
        | none => simp [L3.dt, h'] at h2
        | some es =>
          simp only [L3.dt, h', Option.some.injEq] at h2
          subst h2
          simp only [PyData.eqv, vEq]
          exact vEqL.dt xs ys ds es h h'
      | tup ys =>
        cases h' : dtL ys with
        | none => simp [L3.dt, h'] at h2
        | some es =>
          simp only [L3.dt, h', Option.some.injEq] at h2
          subst h2
          rfl
      | raw v => simp [L3.dt] at h2
      | sc v => simp [L3.dt] at h2
      | hole => simp [L3.dt] at h2
      | non => simp [L3.dt] at h2; subst h2; rfl
      | bl b => simp [L3.dt] at h2; subst h2; rfl
      | int b => simp [L3.dt] at h2; subst h2; rfl
      | str b => simp [L3.dt] at h2; subst h2; rfl
  | raw v => simp [L3.dt] at h1
  | sc v => simp [L3.dt] at h1
  | hole => simp [L3.dt] at h1
  | non => simp [L3.dt] at h1; subst h1; cases y <;> first | (simp [L3.dt] at h2; done) | (simp [L3.dt] at h2; subst h2; rfl) | (rename_i ys; cases h' : dtL ys <;> simp [L3.dt, h'] at h2; subst h2; rfl)
  | bl b => simp [L3.dt] at h1; subst h1; cases y <;> first | (simp [L3.dt] at h2; done) | (simp [L3.dt] at h2; subst h2; rfl) | (rename_i ys; cases h' : dtL ys <;> simp [L3.dt, h'] at h2; subst h2; rfl)
  | int b => simp [L3.dt] at h1; subst h1; cases y <;> first | (simp [L3.dt] at h2; done) | (simp [L3.dt] at h2; subst h2; rfl) | (rename_i ys; cases h' : dtL ys <;> simp [L3.dt, h'] at h2; subst h2; rfl)
  | str b => simp [L3.dt] at h1; subst h1; cases y <;> first | (simp [L3.dt] at h2; done) | (simp [L3.dt] at h2; subst h2; rfl) | (rename_i ys; cases h' : dtL ys <;> simp [L3.dt, h'] at h2; subst h2; rfl)
theorem vEqL.dt : ∀ (xs ys : List Vl) (ds es : List PyData), dtL xs = some ds → dtL ys = some es → PyData.eqvAll ds es = vEqL xs ys
  | [], [], ds, es, h1, h2 => by simp only [dtL, Option.some.injEq] at h1 h2; subst h1; subst h2; rfl
  | [], y :: ys, ds, es, h1, h2 => by
    simp only [dtL, Option.some.injEq] at h1; subst h1
    cases e1 : L3.dt y with
    | none => simp [dtL, e1] at h2
    | some d => cases e2 : dtL ys with
      | none => simp [dtL, e1, e2] at h2
      | some ds => simp only [dtL, e1, e2, Option.some.injEq] at h2; subst h2; rfl
  | x :: xs, [], ds, es, h1, h2 => by
    simp only [dtL, Option.some.injEq] at h2; subst h2
    cases e1 : L3.dt x with
    | none => simp [dtL, e1] at h1
    | some d => cases e2 : dtL xs with
      | none => simp [dtL, e1, e2] at h1
      | some ds => simp only [dtL, e1, e2, Option.some.injEq] at h1; subst h1; rfl
  | x :: xs, y :: ys, ds, es, h1, h2 => by
    cases e1 : L3.dt x with
    | none => simp [dtL, e1] at h1
    | some d => cases e2 : dtL xs with
      | none => simp [dtL, e1, e2] at h1
      | some ds' =>
        simp only [dtL, e1, e2, Option.some.injEq] at h1; subst h1
        cases f1 : L3.dt y with
        | none => simp [dtL, f1] at h2
        | some e => cases f2 : dtL ys with
          | none => simp [dtL, f1, f2] at h2
          | some es' =>
            simp only [dtL, f1, f2, Option.some.injEq] at h2; subst h2
            simp only [PyData.eqvAll, vEqL]
            rw [vEq.dt x y d e e1 f1, vEqL.dt xs ys ds' es' e2 f2]
end
section
variable {K : PySem.W.Frag} {B : Addr → Prop} {H : Hp}
mutual
theorem Rep.dp : ∀ {x : Vl} {u : V} {f : List Addr} {d : PyData}, dt x = some d → Rep K B H x u f → Dp K H u d
  | .non, _, _, _, e, h => by simp only [dt, Option.some.injEq] at e; simp only [Rep] at h; rw [← e, h.1]; exact .non
  | .bl b, _, _, _, e, h => by simp only [dt, Option.some.injEq] at e; simp only [Rep] at h; rw [← e, h.1]; exact .bl b
  | .int i, _, _, _, e, h => by simp only [dt, Option.some.injEq] at e; simp only [Rep] at h; rw [← e, h.1]; exact .int i
  | .str s, _, _, _, e, h => by simp only [dt, Option.some.injEq] at e; simp only [Rep] at h; rw [← e, h.1]; exact .str s
  | .raw _, _, _, _, e, h => by simp [dt] at e
  | .sc _, _, _, _, e, h => by simp [dt] at e
  | .hole, _, _, _, e, h => by simp [dt] at e
  | .tup xs, _, _, _, e, h => by
    cases hd : dtL xs with
    | none => simp [dt, hd] at e
    | some ds =>
      simp only [dt, hd, Option.some.injEq] at e; subst e
      simp only [Rep] at h
      obtain ⟨_, a, us, rfl, q, r⟩ := h
      exact .tup q.sq (RepL.dp hd r)
  | .lst false xs, _, _, _, e, h => by
    cases hd : dtL xs with
    | none => simp [dt, hd] at e
    | some ds =>
      simp only [dt, hd, Option.some.injEq] at e; subst e
      simp only [Rep] at h
      obtain ⟨_, a, us, rfl, q, r⟩ := h
      exact .lst q.sq (RepL.dp hd r)
  | .lst true xs, _, _, _, e, h => by
    cases hd : dtL xs with
    | none => simp [dt, hd] at e
    | some ds =>
      simp only [dt, hd, Option.some.injEq] at e; subst e
      simp only [Rep] at h
      obtain ⟨a, us, g, rfl, _, q, r⟩ := h
      exact .lst (.of q) (RepL.dp hd r)
theorem RepL.dp : ∀ {xs : List Vl} {us : List V} {f : List Addr} {ds : List PyData}, dtL xs = some ds → RepL K B H xs us f → DpAll K H us ds
  | [], _, _, _, e, h => by simp only [dtL, Option.some.injEq] at e; simp only [RepL] at h; rw [← e, h.1]; exact .nil
  | x :: xs, _, _, _, e, h => by
    cases e1 : dt x with
    | none => simp [dtL, e1] at e
    | some d => cases e2 : dtL xs with
      | none => simp [dtL, e1, e2] at e
      | some ds' =>
        simp only [dtL, e1, e2, Option.some.injEq] at e; subst e
        simp only [RepL] at h
        obtain ⟨u, ur, f, g, rfl, rfl, r1, r2⟩ := h
        exact .cons (r1.dp e1) (RepL.dp e2 r2)
end
/-- a list's or tuple's items, to be read -/
theorem Rep.lstU {o : Bool} {xs : List Vl} {u : V} {f : List Addr} (h : Rep K B H (.lst o xs) u f) : ∃ a us, u = .ref a ∧ SqL K H a us ∧ RepL K B H xs us (if o then f.tail else []) := by
  cases o with
  | false =>
    simp only [Rep] at h
    obtain ⟨rfl, a, us, rfl, q, r⟩ := h
    exact ⟨a, us, rfl, q.sq, r⟩
  | true =>
    simp only [Rep] at h
    obtain ⟨a, us, g, rfl, rfl, q, r⟩ := h
    exact ⟨a, us, rfl, .of q, by simpa using r⟩
theorem Rep.tupU {xs : List Vl} {u : V} {f : List Addr} (h : Rep K B H (.tup xs) u f) : ∃ a us, u = .ref a ∧ SqT K H a us ∧ RepL K B H xs us [] := by
  simp only [Rep] at h
  obtain ⟨rfl, a, us, rfl, q, r⟩ := h
  exact ⟨a, us, rfl, q.sq, r⟩
end

/-! ### what an operation by values does -/
/-- what follows a value just made -/
def Aft (K : PySem.W.Frag) (B : Addr → Prop) (H : Hp) (z : Vl) (Q : VK) : Prop :=
  ∀ w H' B' g, Stp [] H B H' B' → g.Nodup → (∀ b ∈ g, B' b ∧ H b = none) → (∀ b, B' b → H' b ≠ none) → Rep K B' H' z w g → Q w H'
/-- two values that are looked at -/
def Pk2 (K : PySem.W.Frag) (r : R2) (f : Vl → Vl → Option Vl) : Prop :=
  ∀ B H x y u w fx fy Q z, (∀ b, B b → H b ≠ none) → Rep K B H x u fx → Rep K B H y w fy → f x y = some z → Aft K B H z Q → r u w H Q
def Pk1 (K : PySem.W.Frag) (r : V → Hp → VK → Prop) (f : Vl → Option Vl) : Prop :=
  ∀ B H x u fx Q z, (∀ b, B b → H b ≠ none) → Rep K B H x u fx → f x = some z → Aft K B H z Q → r u H Q
def PkL (K : PySem.W.Frag) (r : List V → Hp → VK → Prop) (f : List Vl → Option Vl) : Prop :=
  ∀ B H xs us Q z, (∀ b, B b → H b ≠ none) → RepP K B H xs us → f xs = some z → Aft K B H z Q → r us H Q
section
variable {K : PySem.W.Frag} {B : Addr → Prop} {H : Hp} {Q : VK}
theorem Aft.pure {z : Vl} {w : V} (h : Aft K B H z Q) (dom : ∀ b, B b → H b ≠ none) (r : Rep K B H z w []) : Q w H := h w H B [] .refl .nil (fun _ h => absurd h (by simp)) dom r
theorem Aft.int {i : Int} (h : Aft K B H (.int i) Q) (dom : ∀ b, B b → H b ≠ none) : Q (.int i) H := h.pure dom (by simp [Rep])
theorem Aft.bl {i : Bool} (h : Aft K B H (.bl i) Q) (dom : ∀ b, B b → H b ≠ none) : Q (.bl i) H := h.pure dom (by simp [Rep])
theorem Aft.str {i : Str} (h : Aft K B H (.str i) Q) (dom : ∀ b, B b → H b ≠ none) : Q (.str i) H := h.pure dom (by simp [Rep])
theorem Stp.new {fp : List Addr} {p : Addr} {o : HO} (hp : H p = none) : Stp fp H B (upd H p o) B :=
  ⟨fun a _ hn => ⟨upd_ne (fun e => hn (by rw [e]; exact hp)), Iff.rfl⟩, fun a hn => by
    by_cases e : a = p
    · rw [e, upd_same]; simp
    · rw [upd_ne e]; exact hn⟩
def more (B : Addr → Prop) (p : Addr) : Addr → Prop := fun a => B a ∨ a = p
theorem Stp.newO {fp : List Addr} {p : Addr} {o : HO} (hp : H p = none) : Stp fp H B (upd H p o) (more B p) :=
  ⟨fun a _ hn => ⟨upd_ne (fun e => hn (by rw [e]; exact hp)), ⟨fun z => z.elim id fun e => absurd hp (e ▸ hn), .inl⟩⟩, fun a hn => by
    by_cases e : a = p
    · rw [e, upd_same]; simp
    · rw [upd_ne e]; exact hn⟩
theorem dom_new {p : Addr} {o : HO} (dom : ∀ b, B b → H b ≠ none) : ∀ b, B b → upd H p o b ≠ none := fun b hb => by
  by_cases e : b = p
  · rw [e, upd_same]; simp
  · rw [upd_ne e]; exact dom b hb
theorem dom_newO {p : Addr} {o : HO} (dom : ∀ b, B b → H b ≠ none) : ∀ b, more B p b → upd H p o b ≠ none := fun b hb => by
  by_cases e : b = p
  · rw [e, upd_same]; simp
  · rw [upd_ne e]; exact dom b (hb.elim id fun q => absurd q e)
/-- a new tuple -/
theorem Aft.tup {xs : List Vl} {us : List V} {p : Addr} (h : Aft K B H (.tup xs) Q) (dom : ∀ b, B b → H b ≠ none) (r : RepL K B H xs us []) (hp : H p = none) : Q (.ref p) (upd H p (.tup us)) := by
  refine h _ _ B [] (.new hp) .nil (fun _ h => absurd h (by simp)) (dom_new dom) ?_
  simp only [Rep]
  exact ⟨trivial, p, us, rfl, .inl ⟨.inl upd_same, fun z => dom p z hp⟩, RepL.frame (fp := []) (.new hp) (by simp) (by simp) r⟩
/-- a new list -/
theorem Aft.lst {xs : List Vl} {us : List V} {p : Addr} (h : Aft K B H (.lst true xs) Q) (dom : ∀ b, B b → H b ≠ none) (r : RepL K B H xs us []) (hp : H p = none) : Q (.ref p) (upd H p (.lst us)) := by
  refine h _ _ (more B p) [p] (.newO hp) (by simp) (fun b hb => ?_) (dom_newO dom) ?_
  · have e : b = p := by simpa using hb
    subst e
    exact ⟨.inr rfl, hp⟩
  · simp only [Rep]
    exact ⟨p, us, [], rfl, rfl, upd_same, RepL.frame (fp := []) (.newO hp) (by simp) (by simp) r⟩
end

/-! ### the rules -/
def e2 (f : Vl → Vl → Option Vl) (ea eb : S → Out Ag) : S → Out Ag := fun s => (ea s).bind fun a s1 => (eb s1).bind fun b s2 => match f (res s2 a) (res s2 b) with | some z => .ok (.v z) s2 | none => .no
def e1 (f : Vl → Option Vl) (ea : S → Out Ag) : S → Out Ag := fun s => (ea s).bind fun a s1 => match f (res s1 a) with | some z => .ok (.v z) s1 | none => .no
def eL (f : List Vl → Option Vl) (ea : S → Out (List Ag)) : S → Out Ag := fun s => (ea s).bind fun as s1 => match f (as.map (res s1)) with | some z => .ok (.v z) s1 | none => .no
section
variable {X : Cx} {c : Q3} {a b : Expr} {ea eb : S → Out Ag} {pos : Pos}
/-- a value just made is the outcome -/
theorem Aft.of {B B1 : Addr → Prop} {H H1 : Hp} {s1 : S} {σ : St} {fp fp1 g1 : List Addr} {as : List Ag} {us : List V} {z : Vl} {Q : VK} (st : Stp fp H B H1 B1) (fr : Fresh fp H (fp1 ++ g1)) (G1 : GT X.K c B1 H1 s1 σ as us fp1 g1)
    (q : FinE X c B H fp σ (.ok (.v z) s1) Q) : Aft X.K B1 H1 z Q := by
  intro w H' B' g s2 nd own dom r
  have st2 : Stp fp1 H1 B1 H' B' := s2.mono (by simp)
  refine q w H' B' fp1 g (st.trans fr.left st2) (Fresh.app fr.left fun b hb => ?_) ⟨?_, .one r, ?_, fun b hb => ?_, dom, G1.fix⟩
  · refine .inr ?_
    cases e : H b with
    | none => rfl
    | some o => exact absurd (own b hb).2 (st.there b (by rw [e]; simp))
  · exact G1.rs.frame s2 (by simp) (by simp)
  · refine List.nodup_append.mpr ⟨(List.nodup_append.mp G1.nd).1, nd, fun x hx y hy e => ?_⟩
    subst e
    exact G1.dom x (G1.ownF x hx) (own x hy).2
  · rcases List.mem_append.mp hb with z | z
    · exact ((s2.keep b (by simp) (G1.dom b (G1.ownF b z))).2).mpr (G1.ownF b z)
    · exact (own b z).1
theorem two_res {K : PySem.W.Frag} {B : Addr → Prop} {H : Hp} {s : S} {σ : St} {fp g : List Addr} {a b : Ag} {u w : V} (G : GT K c B H s σ [a, b] [u, w] fp g) : ∃ f g, Rep K B H (res s a) u f ∧ Rep K B H (res s b) w g := by
  have := AR.res G.rs G.ar
  simp only [List.map_cons, List.map_nil, RepP] at this
  obtain ⟨u1, ur, f1, h1, r1, u2, ur2, f2, h2, r2, h3⟩ := this
  simp only [List.cons.injEq] at h1 h2
  obtain ⟨rfl, rfl⟩ := h1
  simp only [List.cons.injEq] at h2
  obtain ⟨rfl, rfl⟩ := h2
  exact ⟨f1, f2, r1, r2⟩
theorem one_res {K : PySem.W.Frag} {B : Addr → Prop} {H : Hp} {s : S} {σ : St} {fp g : List Addr} {a : Ag} {u : V} (G : GT K c B H s σ [a] [u] fp g) : ∃ f, Rep K B H (res s a) u f := by
  have := AR.res G.rs G.ar
  simp only [List.map_cons, List.map_nil, RepP] at this
  obtain ⟨u1, ur, f1, h1, r1, _⟩ := this
  simp only [List.cons.injEq] at h1
  obtain ⟨rfl, _⟩ := h1
  exact ⟨f1, r1⟩
/-- two expressions and a rule by values -/
theorem me_two {e : Expr} {r : R2} {f : Vl → Vl → Option Vl} (h : PE X e (tOp r (tE X c ea) (tE X c eb))) (pk : Pk2 X.K r f) : ME X c e (e2 f ea eb) := by
  refine PE.weak h fun σ H Q q => ?_
  obtain ⟨B, s, fp, G, q⟩ := q
  refine tE_two G q fun a b s2 u w H2 B2 fp2 g2 st fr G2 q => ?_
  obtain ⟨f1, f2, r1, r2⟩ := two_res G2
  cases hz : f (res s2 a) (res s2 b) with
  | none => simp only [hz] at q; exact q.elim
  | some z =>
    simp only [hz] at q
    exact pk B2 H2 _ _ u w f1 f2 Q z G2.dom r1 r2 hz (Aft.of st fr G2 q)
theorem me_one {e : Expr} {r : V → Hp → VK → Prop} {f : Vl → Option Vl} (h : PE X e (tUn r (tE X c ea))) (pk : Pk1 X.K r f) : ME X c e (e1 f ea) := by
  refine PE.weak h fun σ H Q q => ?_
  obtain ⟨B, s, fp, G, q⟩ := q
  refine tE_one G q fun a s2 u H2 B2 fp2 g2 st fr G2 q => ?_
  obtain ⟨f1, r1⟩ := one_res G2
  cases hz : f (res s2 a) with
  | none => simp only [hz] at q; exact q.elim
  | some z =>
    simp only [hz] at q
    exact pk B2 H2 _ u f1 Q z G2.dom r1 hz (Aft.of st fr G2 q)
theorem me_lst {e : Expr} {r : List V → Hp → VK → Prop} {f : List Vl → Option Vl} {ea : S → Out (List Ag)} (h : PE X e (fun σ H Q => tA3 X c ea σ H fun us H1 => r us H1 Q)) (pk : PkL X.K r f) : ME X c e (eL f ea) := by
  refine PE.weak h fun σ H Q q => ?_
  obtain ⟨B, s, fp, G, q⟩ := q
  refine tA_one G q fun as s2 us H2 B2 fp2 g2 st fr G2 q => ?_
  cases hz : f (as.map (res s2)) with
  | none => simp only [hz] at q; exact q.elim
  | some z =>
    simp only [hz] at q
    exact pk B2 H2 _ us Q z G2.dom (AR.res G2.rs G2.ar) hz (Aft.of st fr G2 q)
theorem me_bin {op : Operator} {r : R2} {f : Vl → Vl → Option Vl} (ho : OpR X (binaryOp op) r) (pk : Pk2 X.K r f) (ha : ME X c a ea) (hb : ME X c b eb) : ME X c (.BinOp a op b pos) (e2 f ea eb) := me_two (pe_op ho ha hb) pk
theorem me_un {op : UnaryOp} {r : V → Hp → VK → Prop} {f : Vl → Option Vl} (ho : UnR X (unaryOp op) r) (pk : Pk1 X.K r f) (ha : ME X c a ea) : ME X c (.UnaryOp op a pos) (e1 f ea) := me_one (pe_un ho ha) pk
theorem me_cmp {op : CmpOp} {r : R2} {f : Vl → Vl → Option Vl} (ho : OpR X (compareOp op) r) (pk : Pk2 X.K r f) (ha : ME X c a ea) (hb : ME X c b eb) (hm : behindInMarks op b = false := by first | exact nomark _ | rfl) : ME X c (.Compare a [op] [b] pos) (e2 f ea eb) := me_two (pe_cmpR ho ha hb hm) pk
/-- any of two rules -/
theorem OpR.or {f : Value → Value → Sem Value} {r r' : R2} (h : OpR X f r) (h' : OpR X f r') : OpR X f (fun x y H Q => r x y H Q ∨ r' x y H Q) := fun pins s σ H x y v u Q I rx ry q => q.elim (h pins s σ H x y v u Q I rx ry) (h' pins s σ H x y v u Q I rx ry)
end
end L3

/-! L3d: +, -, *, %, //, **, comparisons, in, subscripts, displays, tests. -/
namespace L3
open PySem PySem.Spec PyProof.Rows L2

/-! ### arithmetic and joining -/
@[simp] def addV (x y : Vl) : Option Vl := match x, y with
  | .int i, .int j => some (.int (i + j))
  | .str a, .str b => if a.length + b.length ≤ sizeLine then some (.str (a ++ b)) else none
  | .tup xs, .tup ys => if xs.length + ys.length ≤ sizeLine then some (.tup (xs ++ ys)) else none
  | .lst _ xs, .lst _ ys => if PurL xs = true ∧ PurL ys = true ∧ xs.length + ys.length ≤ sizeLine then some (.lst true (xs ++ ys)) else none
  | _, _ => none
@[simp] def subV (x y : Vl) : Option Vl := match x, y with
  | .int i, .int j => some (.int (i - j))
  | _, _ => none
@[simp] def mulV (x y : Vl) : Option Vl := match x, y with
  | .int i, .int j => if i.natAbs.log2 + j.natAbs.log2 < 1000000 then some (.int (i * j)) else none
  | .lst _ xs, .int k => if PurL xs = true ∧ 0 ≤ k ∧ k < 2 ^ 40 ∧ xs.length * k.toNat ≤ sizeLine then some (.lst true (List.replicate k.toNat xs).flatten) else none
  | .tup xs, .int k => if xs ≠ [] ∧ 2 ≤ k ∧ k ≤ 1000 ∧ xs.length ≤ 1000 then some (.tup (List.replicate k.toNat xs).flatten) else none
  | _, _ => none
@[simp] def modV (x y : Vl) : Option Vl := match x, y with
  | .int i, .int j => if 0 < j then some (.int (i % j)) else none
  | _, _ => none
@[simp] def fdivV (x y : Vl) : Option Vl := match x, y with
  | .int i, .int j => if 0 < j ∧ j.natAbs.log2 < 9000 then some (.int (i / j)) else none
  | _, _ => none
def powV (x y : Vl) : Option Vl := match x, y with
  | .int i, .int j => if 0 ≤ j ∧ (Builtin.Int.intBits i : Int) * j ≤ 2 ^ 27 then some (.int (i ^ j.toNat)) else none
  | _, _ => none
@[simp] def negV (x : Vl) : Option Vl := match x with
  | .int i => some (.int (-i))
  | _ => none
@[simp] def cmpV (p : Int → Int → Bool) (x y : Vl) : Option Vl := match x, y with
  | .int i, .int j => some (.bl (p i j))
  | _, _ => none
def isS (x : Vl) : Bool := match x with | .str _ => true | _ => false
def eqV3 (x y : Vl) : Option Vl := if (isS x = true ∧ isS y = true) ∨ (okD 50 x = true ∧ okD 50 y = true) then some (.bl (vEq x y)) else none
def neV3 (x y : Vl) : Option Vl := if (isS x = true ∧ isS y = true) ∨ (okD 50 x = true ∧ okD 50 y = true) then some (.bl (!vEq x y)) else none
def flatL (x : Vl) : Bool := match x with
  | .non => true | .bl _ => true | .int _ => true | .str _ => true
  | _ => false
def inB (x y : Vl) : Option Bool := match y with
  | .lst _ ys => if okD 50 x = true ∧ okL 49 ys = true then some (ys.any fun z => vEq z x) else none
  | .tup ys => if flatL x = true ∧ ys.all flatL = true then some (ys.any fun z => vEq z x) else none
  | _ => none
def inV3 (x y : Vl) : Option Vl := (inB x y).map Vl.bl
def notInV3 (x y : Vl) : Option Vl := (inB x y).map fun b => Vl.bl (!b)
def ixV (x y : Vl) : Option Vl := match x, y with
  | .lst _ xs, .int i => match atI xs i with
    | some v => if Pur v = true then some v else none
    | none => none
  | .sc ns, .int i => (atI ns i).map Vl.int
  | .tup xs, .int i => match atI xs i with
    | some v => if Pur v = true then some v else none
    | none => none
  | .str z, .int i => if z.length ≤ sizeLine then (atI z.cps.toList i).map fun c => .str ⟨#[c]⟩ else none
  | _, _ => none

section
variable {K : PySem.W.Frag}
theorem int_of {B : Addr → Prop} {H : Hp} {i : Int} {u : V} {f : List Addr} (h : Rep K B H (.int i) u f) : u = .int i := by simp only [Rep] at h; exact h.1
theorem str_of {B : Addr → Prop} {H : Hp} {i : Str} {u : V} {f : List Addr} (h : Rep K B H (.str i) u f) : u = .str i := by simp only [Rep] at h; exact h.1
theorem bl_of {B : Addr → Prop} {H : Hp} {i : Bool} {u : V} {f : List Addr} (h : Rep K B H (.bl i) u f) : u = .bl i := by simp only [Rep] at h; exact h.1
theorem Rep.lstP {B : Addr → Prop} {H : Hp} {o : Bool} {xs : List Vl} {u : V} {f : List Addr} (h : Rep K B H (.lst o xs) u f) (p : PurL xs = true) : ∃ a us, u = .ref a ∧ H a = some (.lst us) ∧ RepL K B H xs us [] := by
  cases o with
  | false =>
    simp only [Rep] at h
    obtain ⟨rfl, a, us, rfl, q, r⟩ := h
    exact ⟨a, us, rfl, q.1, r⟩
  | true =>
    simp only [Rep] at h
    obtain ⟨a, us, g, rfl, rfl, q, r⟩ := h
    have := r.pur p
    subst this
    exact ⟨a, us, rfl, q, r⟩
theorem pk_add : Pk2 K (fun x y H Q => rI0 (fun i j => .int (i + j)) x y H Q ∨ ((∃ i j, x = .str i ∧ y = .str j ∧ i.length + j.length ≤ sizeLine ∧ Q (.str (i ++ j)) H) ∨ (rCatA K x y H Q ∨ rCat x y H Q))) addV := by
  intro B H x y u w fx fy Q z dom r1 r2 hz aft
  unfold addV at hz
  split at hz
  · cases hz
    rw [int_of r1, int_of r2]
    exact .inl ⟨_, _, rfl, rfl, aft.int dom⟩
  · split at hz
    · cases hz
      rename_i hl
      rw [str_of r1, str_of r2]
      exact .inr (.inl ⟨_, _, rfl, rfl, hl, aft.str dom⟩)
    · cases hz
  · rename_i xs ys
    split at hz
    · rename_i hl
      cases hz
      obtain ⟨a, us, rfl, q1, t1⟩ := r1.tupU
      obtain ⟨b, ws, rfl, q2, t2⟩ := r2.tupU
      have e1 := t1.length
      have e2 := t2.length
      refine .inr (.inr (.inl ⟨a, b, us, ws, rfl, rfl, q1, q2, by omega, fun e => ?_, fun n e => ?_, fun n n' p hp => ?_⟩))
      · subst e
        have : xs = [] := List.length_eq_zero_iff.mp (by simpa using e1)
        subst this
        exact aft.pure dom (by have r2' := r2; simp only [Rep] at r2' ⊢; exact ⟨trivial, r2'.2⟩)
      · subst e
        have : ys = [] := List.length_eq_zero_iff.mp (by simpa using e2)
        subst this
        exact aft.pure dom (by have r1' := r1; simp only [Rep] at r1' ⊢; rw [List.append_nil]; exact ⟨trivial, r1'.2⟩)
      · exact aft.tup dom (t1.append t2) hp
    · cases hz
  · rename_i o xs o' ys
    split at hz
    · rename_i hl
      cases hz
      obtain ⟨a, us, rfl, q1, t1⟩ := r1.lstP hl.1
      obtain ⟨b, ws, rfl, q2, t2⟩ := r2.lstP hl.2.1
      have e1 := t1.length
      have e2 := t2.length
      exact .inr (.inr (.inr ⟨a, b, us, ws, rfl, rfl, q1, q2, by omega, fun p hp => aft.lst dom (t1.append t2) hp⟩))
    · cases hz
  · cases hz
theorem pk_sub : Pk2 K (rI0 fun i j => .int (i - j)) subV := by
  intro B H x y u w fx fy Q z dom r1 r2 hz aft
  unfold subV at hz
  split at hz
  · cases hz
    rw [int_of r1, int_of r2]
    exact ⟨_, _, rfl, rfl, aft.int dom⟩
  · cases hz
theorem pk_cmp {p : Int → Int → Bool} : Pk2 K (rI0 fun i j => .bl (p i j)) (cmpV p) := by
  intro B H x y u w fx fy Q z dom r1 r2 hz aft
  unfold cmpV at hz
  split at hz
  · cases hz
    rw [int_of r1, int_of r2]
    exact ⟨_, _, rfl, rfl, aft.bl dom⟩
  · cases hz
theorem pk_mod : Pk2 K (rI (fun _ j => 0 < j) fun i j => .int (i % j)) modV := by
  intro B H x y u w fx fy Q z dom r1 r2 hz aft
  unfold modV at hz
  split at hz
  · split at hz
    · rename_i h
      cases hz
      rw [int_of r1, int_of r2]
      exact ⟨_, _, rfl, rfl, h, aft.int dom⟩
    · cases hz
  · cases hz
theorem pk_fdiv : Pk2 K (rI CDivW fun i j => .int (i / j)) fdivV := by
  intro B H x y u w fx fy Q z dom r1 r2 hz aft
  unfold fdivV at hz
  split at hz
  · split at hz
    · rename_i h
      cases hz
      rw [int_of r1, int_of r2]
      exact ⟨_, _, rfl, rfl, h, aft.int dom⟩
    · cases hz
  · cases hz
def CPowB (i j : Int) : Prop := 0 ≤ j ∧ (Builtin.Int.intBits i : Int) * j ≤ 2 ^ 27
theorem op_powB {X : Cx} : OpR X (binaryOp .Pow) (rI CPowB fun i j => .int (i ^ j.toNat)) := opI fun _ _ _ _ _ _ _ hc q => pow_int hc.1 hc.2 q
theorem pk_pow : Pk2 K (rI CPowB fun i j => .int (i ^ j.toNat)) powV := by
  intro B H x y u w fx fy Q z dom r1 r2 hz aft
  unfold powV at hz
  split at hz
  · split at hz
    · rename_i h
      cases hz
      rw [int_of r1, int_of r2]
      exact ⟨_, _, rfl, rfl, h, aft.int dom⟩
    · cases hz
  · cases hz
theorem pk_neg : Pk1 K (rU fun i => .int (-i)) negV := by
  intro B H x u fx Q z dom r1 hz aft
  unfold negV at hz
  split at hz
  · cases hz
    rw [int_of r1]
    exact ⟨_, rfl, aft.int dom⟩
  · cases hz
theorem RepL.rep {B : Addr → Prop} {H : Hp} {xs : List Vl} {us : List V} (r : RepL K B H xs us []) : ∀ k : Nat, RepL K B H (List.replicate k xs).flatten (List.replicate k us).flatten []
  | 0 => by simp [RepL]
  | k + 1 => by
    rw [List.replicate_succ, List.replicate_succ, List.flatten_cons, List.flatten_cons]
    exact RepL.append (f := []) (g := []) r (RepL.rep r k)
theorem pk_mul : Pk2 K (fun x y H Q => rI CMulW (fun i j => .int (i * j)) x y H Q ∨ (rRep x y H Q ∨ rRepT K x y H Q)) mulV := by
  intro B H x y u w fx fy Q z dom r1 r2 hz aft
  unfold mulV at hz
  split at hz
  · split at hz
    · rename_i h
      cases hz
      rw [int_of r1, int_of r2]
      exact .inl ⟨_, _, rfl, rfl, h, aft.int dom⟩
    · cases hz
  · split at hz
    · rename_i h
      cases hz
      rw [int_of r2]
      obtain ⟨a, us, rfl, q1, t1⟩ := r1.lstP h.1
      have e1 := t1.length
      refine .inr (.inl ⟨a, _, us, rfl, rfl, q1, by omega, by omega, by rw [← e1]; exact h.2.2.2, fun p hp => aft.lst dom (t1.rep _) hp⟩)
    · cases hz
  · split at hz
    · rename_i h
      cases hz
      rw [int_of r2]
      obtain ⟨a, us, rfl, q1, t1⟩ := r1.tupU
      have e1 := t1.length
      refine .inr (.inr ⟨a, _, us, rfl, rfl, q1, fun e => ?_, h.2.1, h.2.2.1, by rw [← e1]; exact h.2.2.2, fun p hp => aft.tup dom (t1.rep _) hp⟩)
      subst e
      exact h.1 (List.length_eq_zero_iff.mp (by simpa using e1))
    · cases hz
  · cases hz

/-! ### == and in -/
theorem shaped_of {d : PyData} (h1 : d.depth ≤ 50) (h2 : d.canLay0 = true) : SeqAt.shaped d = true := by
  unfold SeqAt.shaped
  rw [h2, Bool.true_and, decide_eq_true_eq]
  omega
theorem two_str {B : Addr → Prop} {H : Hp} {x y : Vl} {u w : V} {f g : List Addr} (h : isS x = true ∧ isS y = true) (r1 : Rep K B H x u f) (r2 : Rep K B H y w g) : ∃ a b, u = .str a ∧ w = .str b ∧ vEq x y = decide (V.str a = V.str b) := by
  cases x <;> simp only [isS] at h <;> first | (cases h.1; done) | skip
  cases y <;> simp only [isS] at h <;> first | (cases h.2; done) | skip
  exact ⟨_, _, str_of r1, str_of r2, by rw [dec_str]; rfl⟩
theorem pk_eq : Pk2 K (fun x y H Q => rEq x y H Q ∨ rEqD K x y H Q) eqV3 := by
  intro B H x y u w fx fy Q z dom r1 r2 hz aft
  unfold eqV3 at hz
  split at hz
  · rename_i h
    cases hz
    rcases h with h | h
    · obtain ⟨a, b, rfl, rfl, e⟩ := two_str h r1 r2
      rw [e] at aft
      exact .inl ⟨rfl, aft.bl dom⟩
    · obtain ⟨d, e1, a1, a2, _⟩ := okD.dt h.1
      obtain ⟨e, e2, b1, b2, _⟩ := okD.dt h.2
      refine .inr ⟨d, e, r1.dp e1, r2.dp e2, shaped_of a1 a2, shaped_of b1 b2, ?_⟩
      rw [vEq.dt _ _ _ _ e1 e2]
      exact aft.bl dom
  · cases hz
theorem pk_ne : Pk2 K (fun x y H Q => rNe x y H Q ∨ rNeD K x y H Q) neV3 := by
  intro B H x y u w fx fy Q z dom r1 r2 hz aft
  unfold neV3 at hz
  split at hz
  · rename_i h
    cases hz
    rcases h with h | h
    · obtain ⟨a, b, rfl, rfl, e⟩ := two_str h r1 r2
      rw [e] at aft
      exact .inl ⟨rfl, aft.bl dom⟩
    · obtain ⟨d, e1, a1, a2, _⟩ := okD.dt h.1
      obtain ⟨e, e2, b1, b2, _⟩ := okD.dt h.2
      refine .inr ⟨d, e, r1.dp e1, r2.dp e2, shaped_of a1 a2, shaped_of b1 b2, ?_⟩
      rw [vEq.dt _ _ _ _ e1 e2]
      exact aft.bl dom
  · cases hz
theorem any_dt {x : Vl} {d : PyData} (hx : dt x = some d) : ∀ {ys : List Vl} {ds : List PyData}, dtL ys = some ds → (ds.any fun z => PyData.eqv z d) = ys.any fun z => vEq z x
  | [], ds, e => by simp only [dtL, Option.some.injEq] at e; subst e; rfl
  | y :: ys, ds, e => by
    cases e1 : dt y with
    | none => simp [dtL, e1] at e
    | some d' => cases e2 : dtL ys with
      | none => simp [dtL, e1, e2] at e
      | some ds' =>
        simp only [dtL, e1, e2, Option.some.injEq] at e; subst e
        simp only [List.any_cons]
        rw [any_dt hx e2, vEq.dt _ _ _ _ e1 hx]
theorem flat_rep {B : Addr → Prop} {H : Hp} {x : Vl} {u : V} {f : List Addr} (h : flatL x = true) (r : Rep K B H x u f) : flatV u = true := by
  cases x <;> simp only [flatL] at h <;> first | (cases h; done) | (simp only [Rep] at r; rw [r.1]; rfl)
theorem flat_eq {B : Addr → Prop} {H : Hp} {x y : Vl} {u w : V} {f g : List Addr} (h : flatL x = true) (h' : flatL y = true) (r : Rep K B H x u f) (r' : Rep K B H y w g) : eqV u w = vEq x y := by
  cases x <;> simp only [flatL] at h <;> first | (cases h; done) | skip
  all_goals (cases y <;> simp only [flatL] at h' <;> first | (cases h'; done) | skip)
  all_goals (simp only [Rep] at r r'; rw [r.1, r'.1]; first | rfl | simp [eqV, vEq])
theorem any_flat {B : Addr → Prop} {H : Hp} {x : Vl} {u : V} {f : List Addr} (h : flatL x = true) (r : Rep K B H x u f) : ∀ {ys : List Vl} {us : List V} {g : List Addr}, ys.all flatL = true → RepL K B H ys us g → us.all flatV = true ∧ inV u us = ys.any fun z => vEq z x
  | [], _, _, _, hr => by simp only [RepL] at hr; rw [hr.1]; exact ⟨rfl, rfl⟩
  | y :: ys, _, _, hp, hr => by
    simp only [RepL] at hr
    obtain ⟨w, ur, f1, g1, rfl, rfl, r1, r2⟩ := hr
    simp only [List.all_cons, Bool.and_eq_true] at hp
    obtain ⟨i1, i2⟩ := any_flat h r hp.2 r2
    refine ⟨by simp [flat_rep hp.1 r1, i1], ?_⟩
    unfold inV at i2 ⊢
    simp only [List.any_cons]
    rw [i2, flat_eq hp.1 h r1 r]
theorem okD_lst {n : Nat} {o : Bool} {ys : List Vl} (h : okL n ys = true) : okD (n + 1) (.lst o ys) = true := by simpa [okD] using h
theorem pk_inB (neg : Bool) : Pk2 K (fun x y H Q => (if neg then rNotInD K x y H Q else rInD K x y H Q) ∨ rIn K neg x y H Q) (fun x y => (inB x y).map fun b => Vl.bl (if neg then !b else b)) := by
  intro B H x y u w fx fy Q z dom r1 r2 hz aft
  have hz : (inB x y).map (fun b => Vl.bl (if neg then !b else b)) = some z := hz
  cases hb : inB x y with
  | none => rw [hb] at hz; cases hz
  | some bb =>
    rw [hb] at hz
    simp only [Option.map_some, Option.some.injEq] at hz
    subst hz
    unfold inB at hb
    split at hb
    · rename_i o ys
      split at hb
      · rename_i h
        simp only [Option.some.injEq] at hb
        obtain ⟨d, e1, a1, a2, _⟩ := okD.dt h.1
        obtain ⟨ds, e2, b1, b2, _⟩ := okL.dt h.2
        have e3 : dt (.lst o ys) = some (.list ds) := by simp [dt, e2]
        left
        have sh : SeqAt.shaped (.list ds) = true := shaped_of (by simp [PyData.depth]; omega) (by simpa [PyData.canLay0] using b2)
        cases neg with
        | true =>
          refine ⟨d, ds, r1.dp e1, r2.dp e3, shaped_of a1 a2, sh, ?_⟩
          rw [any_dt e1 e2, hb]
          exact aft.bl dom
        | false =>
          refine ⟨d, ds, r1.dp e1, r2.dp e3, shaped_of a1 a2, sh, ?_⟩
          rw [any_dt e1 e2, hb]
          exact aft.bl dom
      · cases hb
    · rename_i ys
      split at hb
      · rename_i h
        simp only [Option.some.injEq] at hb
        obtain ⟨b, ws, rfl, q2, t2⟩ := r2.tupU
        obtain ⟨i1, i2⟩ := any_flat h.1 r1 h.2 t2
        right
        refine ⟨b, ws, rfl, .inr q2, flat_rep h.1 r1, i1, ?_⟩
        rw [i2, hb]
        exact aft.bl dom
      · cases hb
    · cases hb
theorem pk_in : Pk2 K (fun x y H Q => rInD K x y H Q ∨ rIn K false x y H Q) inV3 := pk_inB false
theorem pk_notIn : Pk2 K (fun x y H Q => rNotInD K x y H Q ∨ rIn K true x y H Q) notInV3 := pk_inB true

/-! ### subscripts -/
theorem RepL.atI {B : Addr → Prop} {H : Hp} {xs : List Vl} {us : List V} {f : List Addr} {i : Int} {v : Vl} (r : RepL K B H xs us f) (h : L2.atI xs i = some v) (p : Pur v = true) : ∃ u, L2.atI us i = some u ∧ Rep K B H v u [] := by
  unfold L2.atI at h ⊢
  rw [r.length] at h
  cases e : ixN us.length i with
  | none => rw [e] at h; cases h
  | some j =>
    rw [e] at h
    obtain ⟨u, _, f', _, e1, _, r1, _⟩ := r.at (i := j) (x := v) (by simpa using h)
    have := r1.pur p
    subst this
    exact ⟨u, by simpa using e1, r1⟩
theorem pk_ix : Pk2 K (rIx K) ixV := by
  intro B H x y u w fx fy Q z dom r1 r2 hz aft
  unfold ixV at hz
  split at hz
  · rename_i o xs i
    split at hz
    · rename_i v hv
      split at hz
      · rename_i hp
        cases hz
        obtain ⟨a, us, rfl, q, t⟩ := r1.lstU
        obtain ⟨u', e, ru⟩ := t.atI hv hp
        rw [int_of r2]
        exact .inl ⟨a, us, i, u', rfl, rfl, q, e, aft.pure dom ru⟩
      · cases hz
    · cases hz
  · rename_i ns i
    rw [int_of r2]
    cases e : atI ns i with
    | none => rw [e] at hz; cases hz
    | some n =>
      rw [e] at hz
      cases hz
      simp only [Rep] at r1
      obtain ⟨rfl, a, rfl, q⟩ := r1
      refine .inl ⟨a, _, i, .int n, rfl, rfl, q.sq, ?_, aft.int dom⟩
      unfold atI at e ⊢
      rw [List.length_map]
      cases e' : ixN ns.length i with
      | none => rw [e'] at e; cases e
      | some j => rw [e'] at e; simp only [Option.bind_some] at e ⊢; rw [List.getElem?_map, e]; rfl
  · rename_i xs i
    split at hz
    · rename_i v hv
      split at hz
      · rename_i hp
        cases hz
        obtain ⟨a, us, rfl, q, t⟩ := r1.tupU
        obtain ⟨u', e, ru⟩ := t.atI hv hp
        rw [int_of r2]
        exact .inr (.inl ⟨a, us, i, u', rfl, rfl, q, e, aft.pure dom ru⟩)
      · cases hz
    · cases hz
  · rename_i zz i
    split at hz
    · rename_i hl
      rw [int_of r2, str_of r1]
      cases e : atI zz.cps.toList i with
      | none => rw [e] at hz; cases hz
      | some cc =>
        rw [e] at hz
        cases hz
        exact .inr (.inr ⟨zz, i, cc, rfl, rfl, hl, e, aft.str dom⟩)
    · cases hz
  · cases hz
end

section
variable {X : Cx} {c : Q3} {a b : Expr} {ea eb : S → Out Ag} {pos : Pos}
theorem me_add (ha : ME X c a ea) (hb : ME X c b eb) : ME X c (.BinOp a .Add b pos) (e2 addV ea eb) := me_bin (OpR.or op_add (OpR.or op_add_str (OpR.or op_catA op_cat))) pk_add ha hb
theorem me_sub (ha : ME X c a ea) (hb : ME X c b eb) : ME X c (.BinOp a .Sub b pos) (e2 subV ea eb) := me_bin op_sub pk_sub ha hb
theorem me_mul (ha : ME X c a ea) (hb : ME X c b eb) : ME X c (.BinOp a .Mult b pos) (e2 mulV ea eb) := me_bin (OpR.or op_mulW (OpR.or op_rep op_repT)) pk_mul ha hb
theorem me_mod (ha : ME X c a ea) (hb : ME X c b eb) : ME X c (.BinOp a .Mod b pos) (e2 modV ea eb) := me_bin op_mod pk_mod ha hb
theorem me_fdiv (ha : ME X c a ea) (hb : ME X c b eb) : ME X c (.BinOp a .FloorDiv b pos) (e2 fdivV ea eb) := me_bin op_fdivW pk_fdiv ha hb
theorem me_pow (ha : ME X c a ea) (hb : ME X c b eb) : ME X c (.BinOp a .Pow b pos) (e2 powV ea eb) := me_bin op_powB pk_pow ha hb
theorem me_neg (ha : ME X c a ea) : ME X c (.UnaryOp .USub a pos) (e1 negV ea) := me_un un_neg pk_neg ha
theorem me_lt (ha : ME X c a ea) (hb : ME X c b eb) : ME X c (.Compare a [.Lt] [b] pos) (e2 (cmpV fun i j => decide (i < j)) ea eb) := me_cmp op_lt pk_cmp ha hb
theorem me_le (ha : ME X c a ea) (hb : ME X c b eb) : ME X c (.Compare a [.LtE] [b] pos) (e2 (cmpV fun i j => decide (i ≤ j)) ea eb) := me_cmp op_le pk_cmp ha hb
theorem me_gt (ha : ME X c a ea) (hb : ME X c b eb) : ME X c (.Compare a [.Gt] [b] pos) (e2 (cmpV fun i j => decide (j < i)) ea eb) := me_cmp op_gt pk_cmp ha hb
theorem me_ge (ha : ME X c a ea) (hb : ME X c b eb) : ME X c (.Compare a [.GtE] [b] pos) (e2 (cmpV fun i j => decide (j ≤ i)) ea eb) := me_cmp op_ge pk_cmp ha hb
theorem me_eq (hu : X.A.units + 66 < cLine) (ha : ME X c a ea) (hb : ME X c b eb) : ME X c (.Compare a [.Eq] [b] pos) (e2 eqV3 ea eb) := me_cmp (OpR.or op_eq (op_eqD (by omega))) pk_eq ha hb
theorem me_ne (hu : X.A.units + 66 < cLine) (ha : ME X c a ea) (hb : ME X c b eb) : ME X c (.Compare a [.NotEq] [b] pos) (e2 neV3 ea eb) := me_cmp (OpR.or op_ne (op_neD (by omega))) pk_ne ha hb
theorem me_in (hu : X.A.units + 66 < cLine) (ha : ME X c a ea) (hb : ME X c b eb) (hm : behindInMarks .In b = false := by rfl) : ME X c (.Compare a [.In] [b] pos) (e2 inV3 ea eb) := me_cmp (OpR.or (op_inD (by omega)) op_in_seq) pk_in ha hb hm
theorem me_notIn (hu : X.A.units + 66 < cLine) (ha : ME X c a ea) (hb : ME X c b eb) (hm : behindInMarks .NotIn b = false := by rfl) : ME X c (.Compare a [.NotIn] [b] pos) (e2 notInV3 ea eb) := me_cmp (OpR.or (op_notInD (by omega)) op_notIn_seq) pk_notIn ha hb hm
theorem me_ix (ha : ME X c a ea) (hb : ME X c b eb) (hs : PlainIx b := by exact fun _ _ => rfl) : ME X c (.Subscript a b pos) (e2 ixV ea eb) := me_two (pe_ix ix_seq ha hb hs) pk_ix
end
end L3

/-! L3e: values handed on, displays, statements, loops. -/
namespace L3
open PySem PySem.Spec PyProof.Rows L2

/-! ### slots taken and filled -/
section
variable {K : PySem.W.Frag} {c : Q3} {B B1 : Addr → Prop} {H H1 : Hp} {s : S} {σ : St} {fp g : List Addr}
theorem RS.put {i : Nat} {x : Vl} {o : Option V} (h : RS K B H s σ fp) (e : s[i]? = some x) (eo : σ[i]? = some o) : ∃ p f q, fp = p ++ f ++ q ∧ SlR K B H x o f ∧ ∀ y g, SlR K B H y o g → RS K B H (s.set i y) σ (p ++ g ++ q) := by
  obtain ⟨o', p, f, q, e1, e2, r, st⟩ := h.get e
  rw [eo] at e1
  cases e1
  refine ⟨p, f, q, e2, r, fun y g hy => ?_⟩
  have := st y o g hy
  rwa [List.set_getElem?_self eo] at this
where
  List.set_getElem?_self {α : Type} {l : List α} {i : Nat} {a : α} (h : l[i]? = some a) : l.set i a = l := by
    obtain ⟨hi, e⟩ := List.getElem?_eq_some_iff.mp h
    rw [← e]; exact List.set_getElem_self hi
theorem nodup_put {p f q g : List Addr} (h : (p ++ f ++ q).Nodup) (hg : g.Nodup) (d : ∀ a ∈ g, a ∉ p ∧ a ∉ q) : (p ++ g ++ q).Nodup := by
  rw [List.append_assoc] at h ⊢
  obtain ⟨h1, h2, h3⟩ := List.nodup_append.mp h
  obtain ⟨_, h4, _⟩ := List.nodup_append.mp h2
  refine List.nodup_append.mpr ⟨h1, List.nodup_append.mpr ⟨hg, h4, fun a ha b hb e => (d a ha).2 (e ▸ hb)⟩, fun a ha b hb e => ?_⟩
  rcases List.mem_append.mp hb with z | z
  · exact (d b z).1 (e ▸ ha)
  · exact h3 a ha b (by simp [z]) e
/-- a slot's value taken out: the slot is empty -/
theorem GT.take {i : Nat} {x : Vl} (G : GT K c B H s σ [] [] fp []) (e : s[i]? = some x) (hx : x ≠ .hole) :
    ∃ u fp' f, σ[i]? = some (some u) ∧ GT K c B H (s.set i .hole) σ [.v x] [u] fp' f ∧ (∀ a, a ∈ fp' ++ f ↔ a ∈ fp) ∧ (s.set i .hole)[i]? = some .hole := by
  obtain ⟨o, p, f, q, e1, e2, r, _⟩ := G.rs.get e
  obtain ⟨p', f', q', e2', r', st⟩ := G.rs.put e e1
  have hi : i < s.length := (List.getElem?_eq_some_iff.mp e).1
  have nd := G.nd
  have ow := G.own
  rcases r' with ⟨z, _⟩ | ⟨u, rfl, r'⟩
  · exact absurd z hx
  · subst e2'
    refine ⟨u, p' ++ [] ++ q', f', e1, ⟨st .hole [] (.inl ⟨rfl, rfl⟩), .one r', ?_, fun a ha => ow a ?_, G.dom, G.fix⟩, fun a => ?_, by rw [List.getElem?_set_self hi]⟩
    · simp only [List.append_nil, List.nodup_append, List.mem_append] at nd ⊢
      grind
    · simp only [List.append_nil, List.mem_append] at ha ⊢
      grind
    · simp only [List.append_nil, List.mem_append]
      grind
/-- an empty slot filled with what stands in its place -/
theorem GT.fill {i : Nat} {x : Vl} {u : V} {as : List Ag} {us : List V} (G : GT K c B H s σ (.v x :: as) (u :: us) fp g) (e : s[i]? = some .hole) (eu : σ[i]? = some (some u)) :
    ∃ fp' g', GT K c B H (s.set i x) σ as us fp' g' ∧ ∀ a, a ∈ fp' ++ g' ↔ a ∈ fp ++ g := by
  have ar := G.ar
  simp only [AR] at ar
  obtain ⟨u', ur, g1, g2, h1, h2, h3, h4⟩ := ar
  simp only [List.cons.injEq] at h1
  obtain ⟨rfl, rfl⟩ := h1
  obtain ⟨p, f, q, e2, r, st⟩ := G.rs.put e eu
  have hf : f = [] := by
    rcases r with ⟨_, z⟩ | ⟨w, _, z⟩
    · exact z
    · simpa [Rep] using z
  have nd := G.nd
  have ow := G.own
  subst hf e2 h2
  refine ⟨p ++ g1 ++ q, g2, ⟨st x g1 (.inr ⟨u, rfl, h3⟩), h4, ?_, fun a ha => ow a ?_, G.dom, G.fix⟩, fun a => ?_⟩
  · simp only [List.append_nil, List.nodup_append, List.mem_append] at nd ⊢
    grind
  · simp only [List.append_nil, List.mem_append] at ha ⊢
    grind
  · simp only [List.append_nil, List.mem_append]
    grind
/-- nobody changes what stands in this argument any more -/
theorem GT.frz {x : Vl} {u : V} {as : List Ag} {us : List V} (G : GT K c B H s σ (.v x :: as) (u :: us) fp g) :
    ∃ B' g', Stp (fp ++ g) H B H B' ∧ GT K c B' H s σ (.v (fz x) :: as) (u :: us) fp g' ∧ (∀ a ∈ g', a ∈ g) ∧ Rep K B' H (fz x) u [] := by
  have ar := G.ar
  simp only [AR] at ar
  obtain ⟨u', ur, g1, g2, h1, h2, h3, h4⟩ := ar
  simp only [List.cons.injEq] at h1
  obtain ⟨rfl, rfl⟩ := h1
  subst h2
  have nd := G.nd
  have ow := G.own
  have st : Stp g1 H B H (less B g1) := Stp.less
  have hb : ∀ b ∈ g1, B b := fun b hb => ow b (by simp [hb])
  refine ⟨less B g1, g2, st.mono (by simp +contextual), ⟨G.rs.frame st hb ?_, ?_, ?_, fun a ha => ?_, fun a ha => G.dom a ha.1, G.fix⟩, fun a ha => by simp [ha], Rep.less g1 (fun _ z => z) h3⟩
  · simp only [List.nodup_append, List.mem_append] at nd
    grind
  · simp only [AR]
    refine ⟨u, us, [], g2, rfl, rfl, Rep.less g1 (fun _ z => z) h3, h4.frame st hb ?_⟩
    simp only [List.nodup_append, List.mem_append] at nd
    grind
  · simp only [List.nodup_append, List.mem_append] at nd ⊢
    grind
  · refine ⟨ow a ?_, ?_⟩
    · simp only [List.mem_append] at ha ⊢
      grind
    · simp only [List.nodup_append, List.mem_append] at nd ha
      grind
end

/-- an argument's value, to be kept: what stands in a slot is from now on changed by nobody -/
@[simp] def toV (s : S) : Ag → Option (Vl × S)
  | .v x => some (x, s)
  | .at i => match s[i]? with
    | some .hole => none
    | some x => some (fz x, s.set i (fz x))
    | none => none
section
variable {K : PySem.W.Frag} {c : Q3} {B B1 : Addr → Prop} {H H1 : Hp} {s s' : S} {σ : St} {fp g : List Addr}
theorem GT.toV {a : Ag} {u : V} {x : Vl} (G : GT K c B H s σ [a] [u] fp g) (e : toV s a = some (x, s')) :
    ∃ B' fp' g', Stp (fp ++ g) H B H B' ∧ (∀ b ∈ fp' ++ g', b ∈ fp ++ g) ∧ GT K c B' H s' σ [.v x] [u] fp' g' := by
  cases a with
  | v y =>
    simp only [L3.toV, Option.some.injEq, Prod.mk.injEq] at e
    obtain ⟨rfl, rfl⟩ := e
    exact ⟨B, fp, g, .refl, fun _ h => h, G⟩
  | «at» i =>
    have ar := G.ar
    simp only [AR, A1] at ar
    obtain ⟨u', ur, g1, g2, h1, h2, ⟨h3, h5⟩, h4, h6⟩ := ar
    subst h4 h5 h6
    simp only [List.cons.injEq, and_true] at h1
    subst h1
    simp only [List.append_nil] at h2
    subst h2
    simp only [L3.toV] at e
    cases es : s[i]? with
    | none => rw [es] at e; cases e
    | some y =>
      rw [es] at e
      have hy : y ≠ .hole := fun z => by subst z; cases e
      have e' : x = fz y ∧ s' = s.set i (fz y) := by
        cases y <;> first | exact absurd rfl hy | (simp only [Option.some.injEq, Prod.mk.injEq] at e; exact ⟨e.1.symm, e.2.symm⟩)
      obtain ⟨rfl, rfl⟩ := e'
      obtain ⟨w, fp1, f1, e1, G1, m1, eh⟩ := G.drop.take es hy
      rw [h3] at e1
      cases e1
      obtain ⟨B', g', st, G2, m2, r2⟩ := G1.frz
      obtain ⟨fp3, g3, G3, m3⟩ := G2.fill eh h3
      rw [List.set_set] at G3
      have z3 : g3 = [] := by have := G3.ar; simp only [AR] at this; exact this.2
      subst z3
      refine ⟨B', fp3, [], st.mono (fun a ha => by rw [List.append_nil]; exact (m1 a).mp ha), fun b hb => ?_, G3.val r2⟩
      have h1 := (m3 b).mp hb
      rw [List.append_nil]
      refine (m1 b).mp ?_
      simp only [List.mem_append] at h1 ⊢
      rcases h1 with z | z
      · exact .inl z
      · exact .inr (m2 b z)
/-- a name is stored -/
theorem GT.store {i : Nat} {x y : Vl} {u : V} (G : GT K c B H s σ [.v x] [u] fp g) (e : s[i]? = some y) (hi : i ∉ c.fx.map (·.1)) :
    ∃ fp', GT K c B H (s.set i x) (σ.set i (some u)) [] [] fp' [] ∧ ∀ a ∈ fp', a ∈ fp ++ g := by
  obtain ⟨o, p, f, q, e1, e2, r, st⟩ := G.rs.get e
  obtain ⟨u', h1, r'⟩ := G.ar.one_inv
  simp only [List.cons.injEq, and_true] at h1
  subst h1
  have nd := G.nd
  have ow := G.own
  subst e2
  refine ⟨p ++ g ++ q, ⟨st x (some u) g (.inr ⟨u, rfl, r'⟩), by simp [AR], ?_, fun a ha => ow a ?_, G.dom, fun z hz => ?_⟩, fun a ha => ?_⟩
  · simp only [List.append_nil, List.nodup_append, List.mem_append] at nd ⊢
    grind
  · simp only [List.append_nil, List.mem_append] at ha ⊢
    grind
  · have : i ≠ z.1 := fun q => hi (q ▸ List.mem_map_of_mem hz)
    rw [List.getElem?_set_ne this]
    exact G.fix z hz
  · simp only [List.mem_append] at ha ⊢
    grind
end

/-! ### statements -/
inductive Fl where
  | nx | rt (v : Vl)
section
variable (X : Cx) (c : Q3)
abbrev PSt (B : Addr → Prop) (H : Hp) (fp : List Addr) (D : Ends) : Fl → S → Prop
  | .nx, s' => ∀ σ' H' B' fp', Stp fp H B H' B' → Fresh fp H fp' → GT X.K c B' H' s' σ' [] [] fp' [] → D.nx σ' H'
  | .rt v, s' => ∀ σ' u H' B' fp' g, Stp fp H B H' B' → Fresh fp H (fp' ++ g) → GT X.K c B' H' s' σ' [.v v] [u] fp' g → D.rt u H'
abbrev FinS (B : Addr → Prop) (H : Hp) (fp : List Addr) (σ : St) (o : Out Fl) (D : Ends) : Prop := FinG X c B H fp σ (PSt X c B H fp D) o
def tS3 (ev : S → Out Fl) : TS := fun D σ H => ∃ B s fp, GT X.K c B H s σ [] [] fp [] ∧ FinS X c B H fp σ (ev s) D
def MS (st : Stmt) (ev : S → Out Fl) : Prop := PS X st (tS3 X c ev)
def MSs (st : List Stmt) (ev : S → Out Fl) : Prop := PSs X st (tS3 X c ev)
end
def sNil : S → Out Fl := fun s => .ok .nx s
def sCons (e1 e2 : S → Out Fl) : S → Out Fl := fun s => (e1 s).bind fun fl s1 => match fl with | .nx => e2 s1 | .rt v => .ok (.rt v) s1
def sSet (i : Nat) (e : S → Out Ag) : S → Out Fl := fun s => (e s).bind fun a s1 => match toV s1 a with
  | some (x, s2) => match s2[i]? with | some _ => .ok .nx (s2.set i x) | none => .no
  | none => .no
def sDrop (e : S → Out Ag) : S → Out Fl := fun s => (e s).bind fun _ s1 => .ok .nx s1
/-- what is handed back: a local list is handed over as it is -/
@[simp] def toR (fx : List Nat) (s : S) : Ag → Option (Vl × S)
  | .v x => some (x, s)
  | .at i => match s[i]? with
    | some .hole => none
    | some x => if i ∈ fx then some (fz x, s.set i (fz x)) else some (x, s.set i .hole)
    | none => none
def sRet (fx : List Nat) (e : S → Out Ag) : S → Out Fl := fun s => (e s).bind fun a s1 => match toR fx s1 a with
  | some (x, s2) => .ok (.rt x) s2
  | none => .no
def sIf (t : S → Out Bool) (e1 e2 : S → Out Fl) : S → Out Fl := fun s => (t s).bind fun b s1 => if b = true then e1 s1 else e2 s1
section
variable {X : Cx} {c : Q3}
theorem PS.weak {st : Stmt} {t t' : TS} (h : PS X st t) (w : ∀ D σ H, t' D σ H → t D σ H) : PS X st t' := ⟨fun pins s σ H D I q => h.run pins s σ H D I (w D σ H q)⟩
theorem PSs.weak {st : List Stmt} {t t' : TS} (h : PSs X st t) (w : ∀ D σ H, t' D σ H → t D σ H) : PSs X st t' := ⟨fun pins s σ H D I q => h.run pins s σ H D I (w D σ H q)⟩
/-- from a later state -/
theorem PSt.trans {B B1 : Addr → Prop} {H H1 : Hp} {fp fp1 : List Addr} {D : Ends} {fl : Fl} {s : S} (st : Stp fp H B H1 B1) (fr : Fresh fp H fp1) (h : PSt X c B H fp D fl s) : PSt X c B1 H1 fp1 D fl s := by
  cases fl with
  | nx => exact fun σ' H' B' fp' st' fr' G => h σ' H' B' fp' (st.trans fr st') (Fresh.trans st fr fr') G
  | rt v => exact fun σ' u H' B' fp' g st' fr' G => h σ' u H' B' fp' g (st.trans fr st') (Fresh.trans st fr fr') G
theorem FinS.trans {B B1 : Addr → Prop} {H H1 : Hp} {fp fp1 : List Addr} {σ σ' : St} {D : Ends} {o : Out Fl} (st : Stp fp H B H1 B1) (fr : Fresh fp H fp1) (h : FinS X c B H fp σ o D) : FinS X c B1 H1 fp1 σ' o D := by
  cases o with
  | ok a s => exact PSt.trans st fr h
  | er k x s => exact ErK.trans st fr h
  | no => exact h
theorem mss_nil : MSs X c [] sNil := by
  refine PSs.weak pss_nil fun D σ H q => ?_
  obtain ⟨B, s, fp, G, q⟩ := q
  exact q σ H B fp .refl .refl G
theorem mss_cons {st : Stmt} {rest : List Stmt} {e1 e2 : S → Out Fl} (h1 : MS X c st e1) (h2 : MSs X c rest e2) : MSs X c (st :: rest) (sCons e1 e2) := by
  refine PSs.weak (pss_cons h1 h2) fun D σ H q => ?_
  obtain ⟨B, s, fp, G, q⟩ := q
  refine ⟨B, s, fp, G, ?_⟩
  unfold sCons at q
  cases e : e1 s with
  | no => rw [e] at q; exact q.elim
  | er k x s' => rw [e] at q; exact q
  | ok fl s1 =>
    rw [e] at q
    cases fl with
    | nx => exact fun σ' H' B' fp' st fr G' => ⟨B', s1, fp', G', FinS.trans (σ' := σ') st fr q⟩
    | rt v => exact q
theorem mss_one {st : Stmt} {e1 : S → Out Fl} (h1 : MS X c st e1) : MSs X c [st] e1 := pss_one h1
theorem set_tree {i : Nat} {ev : S → Out Ag} (hf0 : i ∉ c.fx.map (·.1)) (D : Ends) (σ : St) (H : Hp) (q : tS3 X c (sSet i ev) D σ H) : tAsg (tE X c ev) (gName i) D σ H := by
  obtain ⟨B, s, fp, G, q⟩ := q
  refine tE_one G q fun a s1 u H1 B1 fp1 g1 st fr G1 q => ?_
  cases et : toV s1 a with
  | none => rw [et] at q; exact q.elim
  | some p =>
    obtain ⟨y, s2⟩ := p
    rw [et] at q
    obtain ⟨B', fp', g', st2, m2, G2⟩ := G1.toV et
    cases es : s2[i]? with
    | none => simp only [es] at q; exact q.elim
    | some z =>
      simp only [es] at q
      obtain ⟨fp3, G3, m3⟩ := G2.store es hf0
      exact q _ H1 B' fp3 (st.trans fr st2) (fun b hb => fr b (m2 b (m3 b hb))) G3
theorem ms_set {i : Nat} {x : Str} {e : Expr} {ev : S → Out Ag} {pos pos' : Pos} (hN : X.N.Nodup) (he : ME X c e ev) (hf0 : i ∉ c.fx.map (·.1)) (hi : X.N[i]? = some x := by rfl) (hx : Loc X.env.scope x := by first | exact Or.inl rfl | exact Or.inr rfl) (hs : swapsWith e (some (.Name x pos')) pos.line X.env = pure false := by rfl) (hf : X.fn x = true ∨ X.env.scope.names.lookup x = some .local := by first | exact .inl rfl | exact .inr rfl | assumption) :
    MS X c (.Assign [.Name x pos'] e pos) (sSet i ev) := PS.weak (ps_set hN hi hx he hs hf) (set_tree hf0)
theorem ms_expr {e : Expr} {ev : S → Out Ag} {pos : Pos} (he : ME X c e ev) (hs : swapsWith e none pos.line X.env = pure false := by rfl) : MS X c (.Expr e pos) (sDrop ev) := by
  refine PS.weak (ps_expr he hs) fun D σ H q => ?_
  obtain ⟨B, s, fp, G, q⟩ := q
  refine tE_one G q fun a s1 u H1 B1 fp1 g1 st fr G1 q => ?_
  exact q σ H1 B1 fp1 st fr.left G1.drop
theorem ms_doc {x : Str} {j pos pos'} : MS X c (.Expr (.Constant (.str x) j pos) pos') sNil := by
  refine PS.weak ps_doc fun D σ H q => ?_
  obtain ⟨B, s, fp, G, q⟩ := q
  exact q σ H B fp .refl .refl G
theorem ms_ret {e : Expr} {ev : S → Out Ag} {pos : Pos} (he : ME X c e ev) : MS X c (.Return (some e) pos) (sRet (c.fx.map (·.1)) ev) := by
  refine PS.weak (ps_ret he) fun D σ H q => ?_
  obtain ⟨B, s, fp, G, q⟩ := q
  refine tE_one G q fun a s1 u H1 B1 fp1 g1 st fr G1 q => ?_
  cases a with
  | v x =>
    simp only [toR] at q
    exact q σ u H1 B1 fp1 g1 st fr G1
  | «at» i =>
    simp only [toR] at q
    have ar := G1.ar
    simp only [AR, A1] at ar
    obtain ⟨u', ur, g2, g3, h1, h2, ⟨h3, h5⟩, h4, h6⟩ := ar
    subst h4 h5 h6
    simp only [List.cons.injEq, and_true] at h1
    subst h1
    simp only [List.append_nil] at h2
    subst h2
    cases es : s1[i]? with
    | none => rw [es] at q; exact q.elim
    | some y =>
      rw [es] at q
      have hy : y ≠ .hole := fun z => by subst z; exact q.elim
      by_cases hm : i ∈ c.fx.map (·.1)
      · have et : toV s1 (.at i) = some (fz y, s1.set i (fz y)) := by
          simp only [toV, es]
        obtain ⟨B', fp', g', st2, m2, G2⟩ := G1.toV et
        have q : FinS X c B H fp σ (.ok (.rt (fz y)) (s1.set i (fz y))) D := by
          cases y <;> first | exact absurd rfl hy | (simp only [hm, if_true] at q; exact q)
        exact q σ u H1 B' fp' g' (st.trans fr st2) (fun b hb => fr b (m2 b hb)) G2
      · have q : FinS X c B H fp σ (.ok (.rt y) (s1.set i .hole)) D := by
          cases y <;> first | exact absurd rfl hy | (simp only [hm, if_false] at q; exact q)
        obtain ⟨w, fp', f, e1, G2, m2, _⟩ := G1.drop.take es hy
        rw [h3] at e1
        cases e1
        exact q σ u H1 B1 fp' f st (fun b hb => fr.left b ((m2 b).mp hb)) G2
theorem ms_if {t : Expr} {a b : List Stmt} {et : S → Out Bool} {e1 e2 : S → Out Fl} {pos : Pos} (ht : MT X c t et) (ha : MSs X c a e1) (hb : MSs X c b e2) : MS X c (.If t a b pos) (sIf et e1 e2) := by
  refine PS.weak (ps_if ht ha hb) fun D σ H q => ?_
  obtain ⟨B, s, fp, G, q⟩ := q
  refine tT_one G q fun b s1 H1 B1 fp1 st fr G1 q => ?_
  cases b with
  | true =>
    rw [if_pos rfl] at q
    rw [if_pos rfl]
    exact ⟨B1, s1, fp1, G1, FinS.trans (σ' := σ) st fr q⟩
  | false =>
    rw [if_neg (by decide)] at q
    rw [if_neg (by decide)]
    exact ⟨B1, s1, fp1, G1, FinS.trans (σ' := σ) st fr q⟩
/-- a statement that is never reached -/
def sNo : S → Out Fl := fun _ => .no
theorem ms_no {st : Stmt} : MS X c st sNo := PS.weak ps_never fun D σ H q => by
  obtain ⟨B, s, fp, G, q⟩ := q
  exact q
theorem ms_pass {pos : Pos} : MS X c (.Pass pos) sNil := by
  refine PS.weak ps_pass fun D σ H q => ?_
  obtain ⟨B, s, fp, G, q⟩ := q
  exact q σ H B fp .refl .refl G
end

/-! ### tests -/
section
variable {X : Cx} {c : Q3}
@[simp] def truV : Vl → Option Bool
  | .bl b => some b
  | .int i => some (i != 0)
  | .non => some false
  | _ => none
def tVal (e : S → Out Ag) : S → Out Bool := fun s => (e s).bind fun a s1 => match truV (res s1 a) with | some b => .ok b s1 | none => .no
theorem mt_val {e : Expr} {ev : S → Out Ag} (he : ME X c e ev) (hp : ∀ whole, isTrue e X.env whole = (do let v ← whole; standAt e.pos; holding [v] (truthy v)) := by intro _; rfl) : MT X c e (tVal ev) := by
  refine PT.weak (pt_truth he hp) fun σ H Q q => ?_
  obtain ⟨B, s, fp, G, q⟩ := q
  refine tE_one G q fun a s1 u H1 B1 fp1 g1 st fr G1 q => ?_
  obtain ⟨f, r⟩ := one_res G1
  cases ht : truV (res s1 a) with
  | none => rw [ht] at q; exact q.elim
  | some b =>
    rw [ht] at q
    have fin : Q b H1 := q H1 B1 fp1 st fr.left G1.drop
    cases hx : res s1 a with
    | bl b' =>
      rw [hx] at r ht; rw [bl_of r]
      simp only [truV, Option.some.injEq] at ht; subst ht
      exact ⟨_, rfl, fin⟩
    | int i =>
      rw [hx] at r ht; rw [int_of r]
      simp only [truV, Option.some.injEq] at ht; subst ht
      exact ⟨_, rfl, fin⟩
    | non =>
      rw [hx] at r ht
      simp only [Rep] at r
      rw [r.1]
      simp only [truV, Option.some.injEq] at ht; subst ht
      exact ⟨_, rfl, fin⟩
    | _ => rw [hx] at ht; simp [truV] at ht
def t2 (f : Vl → Vl → Option Vl) (ea eb : S → Out Ag) : S → Out Bool := fun s => (ea s).bind fun a s1 => (eb s1).bind fun b s2 => match f (res s2 a) (res s2 b) with | some (.bl k) => .ok k s2 | _ => .no
theorem mt_cmp {op : CmpOp} {r : R2} {f : Vl → Vl → Option Vl} {a b : Expr} {ea eb : S → Out Ag} {pos : Pos} (ho : OpR X (compareOp op) r) (pk : Pk2 X.K r f) (ha : ME X c a ea) (hb : ME X c b eb) (hm : behindInMarks op b = false := by first | exact nomark _ | rfl) :
    MT X c (.Compare a [op] [b] pos) (t2 f ea eb) := by
  refine PT.weak (pt_cmpR ho ha hb hm) fun σ H Q q => ?_
  obtain ⟨B, s, fp, G, q⟩ := q
  refine tE_two G q fun a b s2 u w H2 B2 fp2 g2 st fr G2 q => ?_
  obtain ⟨f1, f2, r1, r2⟩ := two_res G2
  cases hz : f (res s2 a) (res s2 b) with
  | none => rw [hz] at q; exact q.elim
  | some z =>
    rw [hz] at q
    cases z with
    | bl k =>
      refine pk B2 H2 _ _ u w f1 f2 _ (.bl k) G2.dom r1 r2 hz fun v H' B' g s3 nd own dom rz => ?_
      have := rz.pur rfl
      subst this
      rw [bl_of rz]
      have st3 : Stp fp2 H2 B2 H' B' := s3.mono (by simp)
      refine ⟨k, rfl, q H' B' fp2 (st.trans fr.left st3) fr.left ⟨G2.rs.frame s3 (by simp) (by simp), by simp [AR], by simpa using (List.nodup_append.mp G2.nd).1, fun b hb => ?_, dom, G2.fix⟩⟩
      have hb' := G2.ownF b (by simpa using hb)
      exact ((s3.keep b (by simp) (G2.dom b hb')).2).mpr hb'
    | _ => exact q.elim
def tNotB (e : S → Out Bool) : S → Out Bool := fun s => (e s).bind fun b s1 => .ok (!b) s1
theorem mt_not {a : Expr} {ea : S → Out Bool} {pos : Pos} (h : MT X c a ea) : MT X c (.UnaryOp .Not a pos) (tNotB ea) := by
  refine PT.weak (pt_not h) fun σ H Q q => ?_
  obtain ⟨B, s, fp, G, q⟩ := q
  exact tT_one G q fun b s1 H1 B1 fp1 st fr G1 q => q H1 B1 fp1 st fr G1
def tAndB (e1 e2 : S → Out Bool) : S → Out Bool := fun s => (e1 s).bind fun b s1 => if b = true then e2 s1 else .ok false s1
def tOrB (e1 e2 : S → Out Bool) : S → Out Bool := fun s => (e1 s).bind fun b s1 => if b = true then .ok true s1 else e2 s1
theorem FinT.trans {B B1 : Addr → Prop} {H H1 : Hp} {fp fp1 : List Addr} {σ : St} {Q : Bool → Hp → Prop} {o : Out Bool} (st : Stp fp H B H1 B1) (fr : Fresh fp H fp1) (h : FinT X c B H fp σ o Q) : FinT X c B1 H1 fp1 σ o Q := by
  cases o with
  | ok a s => exact fun H' B' fp' st' fr' G => h H' B' fp' (st.trans fr st') (Fresh.trans st fr fr') G
  | er k x s => exact ErK.trans st fr h
  | no => exact h
theorem mw_and1 {a : Expr} {ea : S → Out Bool} {pos : Pos} (h : MT X c a ea) : MW X c (.BoolOp .And [a] pos) ea := pw_and1 h
theorem mw_or1 {a : Expr} {ea : S → Out Bool} {pos : Pos} (h : MT X c a ea) : MW X c (.BoolOp .Or [a] pos) ea := pw_or1 h
theorem mw_and {a b : Expr} {rest : List Expr} {ea eb : S → Out Bool} {pos : Pos} (h : MT X c a ea) (h2 : MW X c (.BoolOp .And (b :: rest) pos) eb) : MW X c (.BoolOp .And (a :: b :: rest) pos) (tAndB ea eb) := by
  refine PW.weak (pw_and h h2) fun σ H Q q => ?_
  obtain ⟨B, s, fp, G, q⟩ := q
  refine tT_one G q fun b s1 H1 B1 fp1 st fr G1 q => ?_
  cases b with
  | true => rw [if_pos rfl] at q; rw [if_pos rfl]; exact ⟨B1, s1, fp1, G1, FinT.trans st fr q⟩
  | false => rw [if_neg (by decide)] at q; rw [if_neg (by decide)]; exact q H1 B1 fp1 st fr G1
theorem mw_or {a b : Expr} {rest : List Expr} {ea eb : S → Out Bool} {pos : Pos} (h : MT X c a ea) (h2 : MW X c (.BoolOp .Or (b :: rest) pos) eb) : MW X c (.BoolOp .Or (a :: b :: rest) pos) (tOrB ea eb) := by
  refine PW.weak (pw_or h h2) fun σ H Q q => ?_
  obtain ⟨B, s, fp, G, q⟩ := q
  refine tT_one G q fun b s1 H1 B1 fp1 st fr G1 q => ?_
  cases b with
  | true => rw [if_pos rfl] at q; rw [if_pos rfl]; exact q H1 B1 fp1 st fr G1
  | false => rw [if_neg (by decide)] at q; rw [if_neg (by decide)]; exact ⟨B1, s1, fp1, G1, FinT.trans st fr q⟩
theorem mt_of {e : Expr} {ev : S → Out Bool} (h : MW X c e ev) : MT X c e ev := PW.pt h
/-- x if t else y -/
def eIf (t : S → Out Bool) (e1 e2 : S → Out Ag) : S → Out Ag := fun s => (t s).bind fun b s1 => if b = true then e1 s1 else e2 s1
theorem FinE.trans {B B1 : Addr → Prop} {H H1 : Hp} {fp fp1 : List Addr} {σ : St} {Q : VK} {o : Out Ag} (st : Stp fp H B H1 B1) (fr : Fresh fp H fp1) (h : FinE X c B H fp σ o Q) : FinE X c B1 H1 fp1 σ o Q := by
  cases o with
  | ok a s => exact fun u H' B' fp' g st' fr' G => h u H' B' fp' g (st.trans fr st') (Fresh.trans st fr fr') G
  | er k x s => exact ErK.trans st fr h
  | no => exact h
theorem me_if {t a b : Expr} {et : S → Out Bool} {e1 e2 : S → Out Ag} {pos : Pos} (ht : MT X c t et) (ha : ME X c a e1) (hb : ME X c b e2) : ME X c (.IfExp t a b pos) (eIf et e1 e2) := by
  refine PE.weak (pe_ifExp ht ha hb) fun σ H Q q => ?_
  obtain ⟨B, s, fp, G, q⟩ := q
  refine tT_one G q fun b s1 H1 B1 fp1 st fr G1 q => ?_
  cases b with
  | true => rw [if_pos rfl] at q; rw [if_pos rfl]; exact ⟨B1, s1, fp1, G1, FinE.trans st fr q⟩
  | false => rw [if_neg (by decide)] at q; rw [if_neg (by decide)]; exact ⟨B1, s1, fp1, G1, FinE.trans st fr q⟩
/-- and, or as values: True or False -/
@[simp] def asB (x : Vl) : Option Bool := match x with | .bl b => some b | _ => none
def eAnd (e1 e2 : S → Out Ag) : S → Out Ag := fun s => (e1 s).bind fun a s1 => match asB (res s1 a) with | some b => if b = true then e2 s1 else .ok (.v (.bl false)) s1 | none => .no
def eOr (e1 e2 : S → Out Ag) : S → Out Ag := fun s => (e1 s).bind fun a s1 => match asB (res s1 a) with | some b => if b = true then .ok (.v (.bl true)) s1 else e2 s1 | none => .no
def eNot (e1 : S → Out Ag) : S → Out Ag := fun s => (e1 s).bind fun a s1 => match res s1 a with | .bl b => .ok (.v (.bl (!b))) s1 | _ => .no
theorem me_one1 {a : Expr} {op : BoolOp} {ea : S → Out Ag} {pos : Pos} (h : ME X c a ea) : ME X c (.BoolOp op [a] pos) ea := pe_one h
theorem me_and {a b : Expr} {rest : List Expr} {ea eb : S → Out Ag} {pos : Pos} (ha : ME X c a ea) (hb : ME X c (.BoolOp .And (b :: rest) pos) eb) : ME X c (.BoolOp .And (a :: b :: rest) pos) (eAnd ea eb) := by
  refine PE.weak (pe_and ha hb) fun σ H Q q => ?_
  obtain ⟨B, s, fp, G, q⟩ := q
  refine tE_one G q fun a s1 u H1 B1 fp1 g1 st fr G1 q => ?_
  obtain ⟨f, r⟩ := one_res G1
  cases hx : res s1 a with
  | bl k =>
    rw [hx] at q r
    rw [bl_of r]
    refine ⟨k, rfl, ?_⟩
    simp only [asB] at q
    cases k with
    | true => rw [if_pos rfl] at q; rw [if_pos rfl]; exact ⟨B1, s1, fp1, G1.drop, FinE.trans st fr.left q⟩
    | false => rw [if_neg (by decide)] at q; rw [if_neg (by decide)]; exact q _ H1 B1 fp1 [] st (by simpa using fr.left) (G1.drop.val (by simp [Rep]))
  | _ => rw [hx] at q; exact q.elim
theorem me_or {a b : Expr} {rest : List Expr} {ea eb : S → Out Ag} {pos : Pos} (ha : ME X c a ea) (hb : ME X c (.BoolOp .Or (b :: rest) pos) eb) : ME X c (.BoolOp .Or (a :: b :: rest) pos) (eOr ea eb) := by
  refine PE.weak (pe_or ha hb) fun σ H Q q => ?_
  obtain ⟨B, s, fp, G, q⟩ := q
  refine tE_one G q fun a s1 u H1 B1 fp1 g1 st fr G1 q => ?_
  obtain ⟨f, r⟩ := one_res G1
  cases hx : res s1 a with
  | bl k =>
    rw [hx] at q r
    rw [bl_of r]
    refine ⟨k, rfl, ?_⟩
    simp only [asB] at q
    cases k with
    | true => rw [if_pos rfl] at q; rw [if_pos rfl]; exact q _ H1 B1 fp1 [] st (by simpa using fr.left) (G1.drop.val (by simp [Rep]))
    | false => rw [if_neg (by decide)] at q; rw [if_neg (by decide)]; exact ⟨B1, s1, fp1, G1.drop, FinE.trans st fr.left q⟩
  | _ => rw [hx] at q; exact q.elim
theorem me_not {a : Expr} {ea : S → Out Ag} {pos : Pos} (ha : ME X c a ea) : ME X c (.UnaryOp .Not a pos) (eNot ea) := by
  refine PE.weak (pe_not ha) fun σ H Q q => ?_
  obtain ⟨B, s, fp, G, q⟩ := q
  refine tE_one G q fun a s1 u H1 B1 fp1 g1 st fr G1 q => ?_
  obtain ⟨f, r⟩ := one_res G1
  cases hx : res s1 a with
  | bl k =>
    rw [hx] at q r
    rw [bl_of r]
    exact ⟨k, rfl, q _ H1 B1 fp1 [] st (by simpa using fr.left) (G1.drop.val (by simp [Rep]))⟩
  | _ => rw [hx] at q; exact q.elim
end
end L3

/-! L3f: calls of defs: what a def comes to is a function of its arguments' data. -/
namespace L3
open PySem PySem.Spec PyProof.Rows L2

/-- a def's end: its value (or exception), and what its arguments are then -/
inductive FO where
  | ok (r : Vl) (outs : List Vl) | er (k : Str) (x : Vl) (outs : List Vl) | no
/-- the def at f comes to F -/
def spOf (K : PySem.W.Frag) (mg : Str → Option Value) (n : Nat) (F : List Vl → FO) : Sp := fun us H Q E =>
  us.length = n ∧ ∃ B xs fp, RepL K B H xs us fp ∧ fp.Nodup ∧ (∀ a ∈ fp, B a) ∧ (∀ a, B a → H a ≠ none) ∧
    match F xs with
    | .ok r outs => ∀ w H' B' g fo, Stp fp H B H' B' → Fresh fp H (g ++ fo) → (g ++ fo).Nodup → (∀ a ∈ g ++ fo, B' a) → (∀ a, B' a → H' a ≠ none) → Rep K B' H' r w g → RepL K B' H' outs us fo → Q w H'
    | .er k x outs => ∀ C d w H' B' fo, Stp fp H B H' B' → Fresh fp H fo → fo.Nodup → (∀ a ∈ fo, B' a) → (∀ a, B' a → H' a ≠ none) → RepL K B' H' outs us fo →
        mg k = some (.ref C) → H' d = some (.xd [(("value" : Str), w)]) → ¬ B' d → Rep K B' H' x w [] → E (.ref C) (some d) H'
    | .no => False
/-- as the layer's FnOk, where no repr is under way -/
structure FnOk3 (P : Program) (w : World) (K : PySem.W.Frag) (mg : Str → Option Value) (base : Heap) (k : Nat) (f : Addr) (fd : FuncData) (ps : List Str) (sp : Sp) : Prop where
  len : ∀ vs H Q E, sp vs H Q E → vs.length = ps.length
  run : ∀ (A : Around) (outer : List Env) (s : Shared) (H : Hp) (args : Args) (us : List Value) (vs : List V) (Q : VK) (E : XK),
    Room k A → A.guards = some [] → Env0 P w K mg base A outer s H → BindsTo s fd args (ps.zip us) → Vals vs us → sp vs H Q E →
    codeAny (model P w) A (.call (.ref f) args) (CR (L2.CX P w) outer P w H s Q E) s

/-! ### arguments lent -/
@[simp] def lend : S → List Ag → Option (List Vl × S)
  | s, [] => some ([], s)
  | s, .v x :: as => match lend s as with | some (xs, s') => some (x :: xs, s') | none => none
  | s, .at i :: as => match s[i]? with
    | none => none
    | some x => if Pur x = true then (match lend s as with | some (xs, s') => some (x :: xs, s') | none => none)
      else match x with
        | .hole => none
        | _ => match lend (s.set i .hole) as with | some (xs, s') => some (x :: xs, s') | none => none
@[simp] def back : S → List Ag → List Vl → List Vl → S
  | s, .at i :: as, x :: xs, y :: ys => back (if Pur x = true then s else s.set i y) as xs ys
  | s, .v _ :: as, _ :: xs, _ :: ys => back s as xs ys
  | s, _, _, _ => s
def eCall (n : Nat) (F : List Vl → FO) (ea : S → Out (List Ag)) : S → Out Ag := fun s => (ea s).bind fun as s1 => match lend s1 as with
  | none => .no
  | some (xs, s2) => if xs.length = n then (match F xs with
    | .ok r outs => .ok (.v r) (back s2 as xs outs)
    | .er k x outs => .er k x (back s2 as xs outs)
    | .no => .no) else .no
/-- what is lent stands empty -/
def Lent (s : S) (σ : St) : List Ag → List Vl → List V → Prop
  | .at i :: as, x :: xs, u :: us => σ[i]? = some (some u) ∧ (Pur x = false → s[i]? = some .hole) ∧ (Pur x = false → ∀ j ∈ as.zip xs, j.1 = .at i → Pur j.2 = true) ∧ Lent s σ as xs us
  | .v _ :: as, _ :: xs, _ :: us => Lent s σ as xs us
  | [], [], [] => True
  | _, _, _ => False
section
variable {K : PySem.W.Frag} {c : Q3} {B B1 : Addr → Prop} {H H1 : Hp} {s s' : S} {σ : St} {fp g : List Addr}
theorem GT.uncons {a : Ag} {as : List Ag} {us : List V} (G : GT K c B H s σ (a :: as) us fp g) : ∃ u ur g1 g2, us = u :: ur ∧ g = g1 ++ g2 ∧ A1 K B H σ a u g1 ∧ GT K c B H s σ as ur fp g2 ∧ (∀ b ∈ g1, b ∉ fp ++ g2) ∧ g1.Nodup ∧ (∀ b ∈ g1, B b) := by
  have ar := G.ar
  simp only [AR] at ar
  obtain ⟨u, ur, g1, g2, h1, h2, h3, h4⟩ := ar
  have nd := G.nd
  have ow := G.own
  subst h2
  refine ⟨u, ur, g1, g2, h1, rfl, h3, ⟨G.rs, h4, ?_, fun a ha => ow a ?_, G.dom, G.fix⟩, ?_, ?_, fun b hb => ow b (by simp [hb])⟩
  · simp only [List.nodup_append, List.mem_append] at nd ⊢
    grind
  · simp only [List.mem_append] at ha ⊢
    grind
  · simp only [List.nodup_append, List.mem_append] at nd ⊢
    grind
  · simp only [List.nodup_append, List.mem_append] at nd ⊢
    grind
theorem lend_hole : ∀ {as : List Ag} {s s' : S} {xs : List Vl} {i : Nat}, lend s as = some (xs, s') → s[i]? = some .hole → s'[i]? = some .hole ∧ ∀ j ∈ as.zip xs, j.1 = .at i → Pur j.2 = true
  | [], s, s', xs, i, h, e => by simp only [lend, Option.some.injEq, Prod.mk.injEq] at h; rw [← h.2]; exact ⟨e, by simp⟩
  | .v x :: as, s, s', xs, i, h, e => by
    simp only [lend] at h
    cases hl : lend s as with
    | none => rw [hl] at h; cases h
    | some p =>
      obtain ⟨ys, s2⟩ := p
      rw [hl] at h
      simp only [Option.some.injEq, Prod.mk.injEq] at h
      obtain ⟨rfl, rfl⟩ := h
      obtain ⟨h1, h2⟩ := lend_hole hl e
      refine ⟨h1, fun j hj ej => ?_⟩
      rw [List.zip_cons_cons] at hj
      rcases List.mem_cons.mp hj with z | z
      · subst z; cases ej
      · exact h2 j z ej
  | .at k :: as, s, s', xs, i, h, e => by
    simp only [lend] at h
    cases hk : s[k]? with
    | none => rw [hk] at h; cases h
    | some x =>
      rw [hk] at h
      simp only at h
      by_cases hp : Pur x = true
      · rw [if_pos hp] at h
        cases hl : lend s as with
        | none => rw [hl] at h; cases h
        | some p =>
          obtain ⟨ys, s2⟩ := p
          rw [hl] at h
          simp only [Option.some.injEq, Prod.mk.injEq] at h
          obtain ⟨rfl, rfl⟩ := h
          obtain ⟨h1, h2⟩ := lend_hole hl e
          refine ⟨h1, fun j hj ej => ?_⟩
          rw [List.zip_cons_cons] at hj
          rcases List.mem_cons.mp hj with z | z
          · subst z; exact hp
          · exact h2 j z ej
      · rw [if_neg hp] at h
        have hx : x ≠ .hole := fun z => by subst z; cases h
        have h : (match lend (s.set k .hole) as with | some (xs, s') => some (x :: xs, s') | none => none) = some (xs, s') := by
          cases x <;> first | exact absurd rfl hx | exact h
        cases hl : lend (s.set k .hole) as with
        | none => rw [hl] at h; cases h
        | some p =>
          obtain ⟨ys, s2⟩ := p
          rw [hl] at h
          simp only [Option.some.injEq, Prod.mk.injEq] at h
          obtain ⟨rfl, rfl⟩ := h
          have hki : k ≠ i := fun z => by
            subst z
            rw [e] at hk
            exact hx (Option.some.inj hk).symm
          obtain ⟨h1, h2⟩ := lend_hole hl (i := i) (by rw [List.getElem?_set_ne hki]; exact e)
          refine ⟨h1, fun j hj ej => ?_⟩
          rw [List.zip_cons_cons] at hj
          rcases List.mem_cons.mp hj with z | z
          · subst z
            simp only [Ag.at.injEq] at ej
            exact absurd ej hki
          · exact h2 j z ej
theorem lend_ok : ∀ {as : List Ag} {us : List V} {s s' : S} {xs : List Vl} {fp g : List Addr}, GT K c B H s σ as us fp g → lend s as = some (xs, s') →
    ∃ fp' gl, GT K c B H s' σ [] [] fp' [] ∧ RepL K B H xs us gl ∧ (fp' ++ gl).Nodup ∧ (∀ a ∈ fp' ++ gl, a ∈ fp ++ g) ∧ Lent s' σ as xs us
  | [], us, s, s', xs, fp, g, G, h => by
    simp only [lend, Option.some.injEq, Prod.mk.injEq] at h
    obtain ⟨rfl, rfl⟩ := h
    have ar := G.ar
    simp only [AR] at ar
    obtain ⟨rfl, rfl⟩ := ar
    exact ⟨fp, [], G, by simp [RepL], by simpa using G.nd, fun a h => h, trivial⟩
  | .v x :: as, us, s, s', xs, fp, g, G, h => by
    obtain ⟨u, ur, g1, g2, rfl, rfl, h3, G2, dj, n1, ow⟩ := G.uncons
    simp only [lend] at h
    cases hl : lend s as with
    | none => rw [hl] at h; cases h
    | some p =>
      obtain ⟨ys, s2⟩ := p
      rw [hl] at h
      simp only [Option.some.injEq, Prod.mk.injEq] at h
      obtain ⟨rfl, rfl⟩ := h
      obtain ⟨fp', gl, G3, r3, n3, m3, l3⟩ := lend_ok G2 hl
      refine ⟨fp', g1 ++ gl, G3, by simp only [RepL]; exact ⟨u, ur, g1, gl, rfl, rfl, h3, r3⟩, ?_, fun a ha => ?_, l3⟩
      · simp only [List.nodup_append, List.mem_append] at n3 m3 dj ⊢
        grind
      · simp only [List.mem_append] at ha m3 ⊢
        grind
  | .at i :: as, us, s, s', xs, fp, g, G, h => by
    obtain ⟨u, ur, g1, g2, rfl, rfl, ⟨h3, h5⟩, G2, dj, n1, ow⟩ := G.uncons
    subst h5
    simp only [lend] at h
    cases hk : s[i]? with
    | none => rw [hk] at h; cases h
    | some x =>
      rw [hk] at h
      simp only at h
      by_cases hp : Pur x = true
      · rw [if_pos hp] at h
        cases hl : lend s as with
        | none => rw [hl] at h; cases h
        | some p =>
          obtain ⟨ys, s2⟩ := p
          rw [hl] at h
          simp only [Option.some.injEq, Prod.mk.injEq] at h
          obtain ⟨rfl, rfl⟩ := h
          obtain ⟨fp', gl, G3, r3, n3, m3, l3⟩ := lend_ok G2 hl
          obtain ⟨o, p, f, q, e1, e2, r, _⟩ := G.rs.get hk
          rw [h3] at e1
          cases e1
          have r1 : Rep K B H x u [] := by
            rcases r with ⟨z, _⟩ | ⟨w, e, r⟩
            · subst z; simp [Pur] at hp
            · cases e
              have := r.pur hp
              subst this
              exact r
          refine ⟨fp', gl, G3, by simp only [RepL]; exact ⟨u, ur, [], gl, rfl, rfl, r1, r3⟩, n3, fun a ha => by simpa using m3 a ha, h3, fun z => ?_, fun z => ?_, l3⟩
          · rw [hp] at z; cases z
          · rw [hp] at z; cases z
      · rw [if_neg hp] at h
        have hx : x ≠ .hole := fun z => by subst z; cases h
        have h : (match lend (s.set i .hole) as with | some (xs, s') => some (x :: xs, s') | none => none) = some (xs, s') := by
          cases x <;> first | exact absurd rfl hx | exact h
        cases hl : lend (s.set i .hole) as with
        | none => rw [hl] at h; cases h
        | some p =>
          obtain ⟨ys, s2⟩ := p
          rw [hl] at h
          simp only [Option.some.injEq, Prod.mk.injEq] at h
          obtain ⟨rfl, rfl⟩ := h
          -- the slot's list goes over to the arguments
          obtain ⟨o, p', f, q, e1, e2, r, _⟩ := G2.rs.get hk
          obtain ⟨p1, f1, q1, e2', r', stt⟩ := G2.rs.put hk e1
          rw [h3] at e1
          cases e1
          rcases r' with ⟨z, _⟩ | ⟨w, e, r'⟩
          · exact absurd z hx
          · cases e
            have nd := G2.nd
            have ow2 := G2.own
            subst e2'
            have G4 : GT K c B H (s.set i .hole) σ as ur (p1 ++ [] ++ q1) g2 := by
              refine ⟨stt .hole [] (.inl ⟨rfl, rfl⟩), G2.ar, ?_, fun a ha => ow2 a ?_, G2.dom, G2.fix⟩
              · simp only [List.append_nil, List.nodup_append, List.mem_append] at nd ⊢
                grind
              · simp only [List.append_nil, List.mem_append] at ha ⊢
                grind
            obtain ⟨fp', gl, G3, r3, n3, m3, l3⟩ := lend_ok G4 hl
            obtain ⟨hh, hz⟩ := lend_hole hl (i := i) (by rw [List.getElem?_set_self (List.getElem?_eq_some_iff.mp hk).1])
            refine ⟨fp', f1 ++ gl, G3, by simp only [RepL]; exact ⟨u, ur, f1, gl, rfl, rfl, r', r3⟩, ?_, fun a ha => ?_, h3, fun _ => hh, fun _ => hz, l3⟩
            · simp only [List.append_nil, List.nodup_append, List.mem_append] at nd n3 m3 ⊢
              grind
            · simp only [List.append_nil, List.nil_append, List.mem_append] at ha m3 ⊢
              grind
theorem lent_set {s : S} {σ : St} {i : Nat} {z : Vl} : ∀ {as : List Ag} {xs : List Vl} {us : List V}, Lent s σ as xs us → (∀ j ∈ as.zip xs, j.1 = .at i → Pur j.2 = true) → Lent (s.set i z) σ as xs us
  | [], [], [], _, _ => trivial
  | [], [], _ :: _, h, _ => by simp [Lent] at h
  | [], _ :: _, _, h, _ => by simp [Lent] at h
  | .v y :: as, [], _, h, _ => by simp [Lent] at h
  | .v y :: as, _ :: _, [], h, _ => by simp [Lent] at h
  | .v y :: as, x :: xs, u :: us, h, hz => by
    simp only [Lent] at h ⊢
    exact lent_set h fun j hj => hz j (by rw [List.zip_cons_cons]; exact List.mem_cons_of_mem _ hj)
  | .at k :: as, [], _, h, _ => by simp [Lent] at h
  | .at k :: as, _ :: _, [], h, _ => by simp [Lent] at h
  | .at k :: as, x :: xs, u :: us, h, hz => by
    simp only [Lent] at h ⊢
    obtain ⟨h1, h2, h3, h4⟩ := h
    refine ⟨h1, fun p => ?_, h3, lent_set h4 fun j hj => hz j (by rw [List.zip_cons_cons]; exact List.mem_cons_of_mem _ hj)⟩
    have hk : i ≠ k := fun e => by
      subst e
      have := hz (.at i, x) (by rw [List.zip_cons_cons]; exact List.mem_cons_self) rfl
      simp only at this
      rw [p] at this; cases this
    rw [List.getElem?_set_ne hk]
    exact h2 p
theorem back_ok : ∀ {as : List Ag} {xs outs : List Vl} {us : List V} {s : S} {fp fo : List Addr}, Lent s σ as xs us → GT K c B H s σ [] [] fp [] → RepL K B H outs us fo → (fp ++ fo).Nodup → (∀ a ∈ fo, B a) →
    ∃ fp', GT K c B H (back s as xs outs) σ [] [] fp' [] ∧ ∀ a ∈ fp', a ∈ fp ++ fo
  | [], xs, outs, us, s, fp, fo, L, G, r, n, ow => by
    have e : back s [] xs outs = s := by cases xs <;> cases outs <;> rfl
    rw [e]
    exact ⟨fp, G, fun a h => by simp [h]⟩
  | a :: as, [], outs, us, s, fp, fo, L, G, r, n, ow => by cases a <;> cases us <;> simp [Lent] at L
  | a :: as, x :: xs, outs, [], s, fp, fo, L, G, r, n, ow => by cases a <;> simp [Lent] at L
  | .v y :: as, x :: xs, outs, u :: us, s, fp, fo, L, G, r, n, ow => by
    cases outs with
    | nil => simp [RepL] at r
    | cons z zs =>
      simp only [RepL] at r
      obtain ⟨u', ur, f, g, e1, e2, r1, r2⟩ := r
      simp only [List.cons.injEq] at e1
      obtain ⟨rfl, rfl⟩ := e1
      subst e2
      simp only [Lent] at L
      simp only [back]
      obtain ⟨fp', G', m⟩ := back_ok L G r2 (by simp only [List.nodup_append, List.mem_append] at n ⊢; grind) (fun a h => ow a (by simp [h]))
      exact ⟨fp', G', fun a h => by have := m a h; simp only [List.mem_append] at this ⊢; grind⟩
  | .at i :: as, x :: xs, outs, u :: us, s, fp, fo, L, G, r, n, ow => by
    cases outs with
    | nil => simp [RepL] at r
    | cons z zs =>
      simp only [RepL] at r
      obtain ⟨u', ur, f, g, e1, e2, r1, r2⟩ := r
      simp only [List.cons.injEq] at e1
      obtain ⟨rfl, rfl⟩ := e1
      subst e2
      simp only [Lent] at L
      obtain ⟨l1, l2, l3, l4⟩ := L
      simp only [back]
      by_cases hp : Pur x = true
      · rw [if_pos hp]
        obtain ⟨fp', G', m⟩ := back_ok l4 G r2 (by simp only [List.nodup_append, List.mem_append] at n ⊢; grind) (fun a h => ow a (by simp [h]))
        exact ⟨fp', G', fun a h => by have := m a h; simp only [List.mem_append] at this ⊢; grind⟩
      · rw [if_neg hp]
        have hp' : Pur x = false := by simpa using hp
        have G1 : GT K c B H s σ [.v z] [u] fp f := ⟨G.rs, .one r1, by simp only [List.nodup_append, List.mem_append] at n ⊢; grind, fun a h => by
          rcases List.mem_append.mp h with q | q
          · exact G.ownF a q
          · exact ow a (by simp [q]), G.dom, G.fix⟩
        obtain ⟨fp2, g2, G2, m2⟩ := G1.fill (l2 hp') l1
        have g2e : g2 = [] := by have := G2.ar; simp only [AR] at this; exact this.2
        subst g2e
        have l5 : Lent (s.set i z) σ as xs us := lent_set l4 (l3 hp')
        obtain ⟨fp', G', m⟩ := back_ok l5 G2 r2 (by
          simp only [List.append_nil, List.nodup_append, List.mem_append] at n m2 ⊢
          have := (List.nodup_append.mp G2.nd).1
          grind) (fun a h => ow a (by simp [h]))
        exact ⟨fp', G', fun a h => by have := m a h; simp only [List.append_nil, List.mem_append] at this m2 ⊢; grind⟩
end

/-! ### the call -/
section
variable {X : Cx} {c : Q3}
theorem me_call {F : List Vl → FO} {k n : Nat} {f : Addr} {fd : FuncData} {ps : List Str} {x : Str} {p pos : Pos} {a : Expr} {es : List Expr} {ea : S → Out (List Ag)}
    (tk : Takes X c.W) (hgd : X.A.guards = some []) (hr : Room k X.A)
    (D : FnOk3 X.prog X.w X.K X.mg X.base k f fd ps (spOf X.K X.mg n F)) (hm : X.mg x = some (.ref f)) (hk : PySem.W.keepIn X.K (.ref f) = true) (hb : Binds X.K fd ps [])
    (ha : MA X c (a :: es) ea) (hn : ps.length = n := by rfl) (hg : Gl X x := by rfl) (hdb : (x == ("__debug__" : Str)) = false := by decide)
    (he : starEach (a :: es) X.env = (false, eval a X.env) :: starEach es X.env := by rfl) (hpl : (backTo pos (starEach es X.env)).any (·.1) = false := by rfl) :
    ME X c (.Call (.Name x p) (a :: es) [] pos) (eCall n F ea) := by
  refine ⟨fun pins s0 σ H Q I h => ?_⟩
  obtain ⟨B, s, fp, G, q⟩ := h
  refine wpAny_Call_Name_kw (ld_glob I hg hm ?_ hdb)
  refine PySem.W.callWith_K (h₀ := X.base) I.ok.mod.kin hk ?_ he hpl
  -- the arguments
  have hA : tA3 X c ea σ H (fun us H1 => ∃ B1 s1 fp1 g1 as, ea s = .ok as s1 ∧ Stp fp H B H1 B1 ∧ Fresh fp H (fp1 ++ g1) ∧ GT X.K c B1 H1 s1 σ as us fp1 g1) := by
    refine ⟨B, s, fp, G, ?_⟩
    unfold eCall at q
    cases e : ea s with
    | no => rw [e] at q; exact q.elim
    | er k x s' => rw [e] at q; exact q
    | ok as s1 => exact fun us H1 B1 fp1 g1 st fr G1 => ⟨B1, s1, fp1, g1, as, rfl, st, fr, G1⟩
  refine thn (ha.run pos pins s0 σ H _ I hA) fun us sh1 hq => ?_
  obtain ⟨vs, H1, I1, rv, B1, s1, fp1, g1, as, e, st, fr, G1⟩ := hq
  refine ⟨I1.kIn, ?_⟩
  unfold eCall at q
  rw [e] at q
  simp only [bind_ok] at q
  cases hl : lend s1 as with
  | none => rw [hl] at q; exact q.elim
  | some pr =>
    obtain ⟨xs, s2⟩ := pr
    rw [hl] at q
    simp only at q
    obtain ⟨fp', gl, G2, r2, n2, m2, l2⟩ := lend_ok G1 hl
    have hlx := r2.length
    by_cases hln : xs.length = n
    · rw [if_pos hln] at q
      have hl2 : (us ++ ([] : List Value)).length = ps.length := by rw [List.append_nil, ← rv.length, ← hlx, hln, hn]
      have sub : ∀ b ∈ gl, b ∈ fp1 ++ g1 := fun b hb => m2 b (by simp [hb])
      have st12 : Fresh fp H (fp' ++ gl) := fun b hb => fr b (m2 b hb)
      have key : spOf X.K X.mg n F vs H1 Q (fun cls d H' => c.W cls d σ H') := by
        refine ⟨by rw [← hlx, hln], B1, xs, gl, r2, (List.nodup_append.mp n2).2.1, fun b hb => G1.own b (sub b hb), G1.dom, ?_⟩
        have stay : ∀ {H' : Hp} {B' : Addr → Prop} {fo : List Addr} {outs : List Vl}, Stp gl H1 B1 H' B' → Fresh gl H1 fo → fo.Nodup → (∀ b ∈ fo, B' b) → (∀ b, B' b → H' b ≠ none) → RepL X.K B' H' outs vs fo →
            ∃ fp3, GT X.K c B' H' (back s2 as xs outs) σ [] [] fp3 [] ∧ ∀ b ∈ fp3, b ∈ fp' ++ fo := by
          intro H' B' fo outs s5 f5 nf of dm r5
          have dj : ∀ b ∈ fp', b ∉ gl := fun b h1 h2 => (List.nodup_append.mp n2).2.2 b h1 b h2 rfl
          have ob : ∀ b ∈ gl, B1 b := fun b hb => G1.own b (sub b hb)
          have G3 : GT X.K c B' H' s2 σ [] [] fp' [] := ⟨G2.rs.frame s5 ob dj, by simp [AR], by simpa using (List.nodup_append.mp n2).1, fun b hb => by
            have hb : b ∈ fp' := by simpa using hb
            have h1 := G2.ownF b hb
            exact ((s5.keep b (dj b hb) (G2.dom b h1)).2).mpr h1, dm, G2.fix⟩
          refine back_ok l2 G3 r5 (List.nodup_append.mpr ⟨(List.nodup_append.mp n2).1, nf, fun b h1 b' h2 ee => ?_⟩) of
          subst ee
          rcases f5 b h2 with z | z
          · exact dj b h1 z
          · exact G2.dom b (G2.ownF b h1) z
        cases hF : F xs with
        | no => rw [hF] at q; exact q.elim
        | ok r outs =>
          rw [hF] at q
          intro w H' B' g fo s5 f5 n5 o5 d5 rr r5
          obtain ⟨fp3, G3, m3⟩ := stay s5 (fun b hb => f5 b (by simp [hb])) (List.nodup_append.mp n5).2.1 (fun b hb => o5 b (by simp [hb])) d5 r5
          have s6 : Stp (fp1 ++ g1) H1 B1 H' B' := s5.mono sub
          have djf : ∀ b ∈ fp3, b ∉ g := fun b h1 h2 => by
            rcases List.mem_append.mp (m3 b h1) with z | z
            · rcases f5 b (by simp [h2]) with y | y
              · exact (List.nodup_append.mp n2).2.2 b z b y rfl
              · exact G2.dom b (G2.ownF b z) y
            · exact (List.nodup_append.mp n5).2.2 b h2 b z rfl
          refine q w H' B' fp3 g (st.trans fr s6) (fun b hb => ?_) ⟨G3.rs, .one rr, List.nodup_append.mpr ⟨by simpa using G3.nd, (List.nodup_append.mp n5).1, fun b h1 b' h2 ee => djf b h1 (ee ▸ h2)⟩, fun b hb => ?_, d5, G3.fix⟩
          · rcases List.mem_append.mp hb with z | z
            · rcases List.mem_append.mp (m3 b z) with y | y
              · exact st12 b (by simp [y])
              · exact Fresh.trans st fr (Fresh.mono f5 sub) b (by simp [y])
            · exact Fresh.trans st fr (Fresh.mono f5 sub) b (by simp [z])
          · rcases List.mem_append.mp hb with z | z
            · exact G3.ownF b z
            · exact o5 b (by simp [z])
        | er kk xx outs =>
          rw [hF] at q
          intro C d w H' B' fo s5 f5 n5 o5 d5 r5 e1 e2 e3 e4
          obtain ⟨fp3, G3, m3⟩ := stay s5 f5 n5 o5 d5 r5
          have s6 : Stp (fp1 ++ g1) H1 B1 H' B' := s5.mono sub
          refine q σ C d w H' B' fp3 (st.trans fr s6) (fun b hb => ?_) G3 e1 e2 e3 e4
          rcases List.mem_append.mp (m3 b hb) with y | y
          · exact st12 b (by simp [y])
          · exact Fresh.trans st fr (Fresh.mono f5 sub) b y
      refine wpAny_call (codeAny_mono (D.run X.A X.stack sh1 H1 ⟨us, []⟩ (us ++ []) vs Q _ hr hgd I1.env0 (hb sh1 us I1.kIn hl2) (by simpa using rv) key) fun r s' hq => ?_)
      cases r with
      | error ex => exact tk ex s' (XE.of_call I1 (fun _ _ _ z => z) hq)
      | ok fl =>
        cases fl with
        | ret u => exact I1.after hq
        | next => exact False.elim hq
        | brk => exact False.elim hq
        | cont => exact False.elim hq
    · rw [if_neg hln] at q
      exact q.elim
end
end L3

/-! L3g: the rule for a def. -/
namespace L3
open PySem PySem.Spec PyProof.Rows L2

/-- what the parameters hold at the end (those that are stored anew hold nothing of the caller's) -/
@[simp] def outsF (fxi : List Nat) : Nat → Nat → S → List Vl
  | _, 0, _ => []
  | j, m + 1, x :: s => (if j ∈ fxi then x else .hole) :: outsF fxi (j + 1) m s
  | j, m + 1, [] => .hole :: outsF fxi (j + 1) m []
def runF (N n : Nat) (fxi : List Nat) (ev : S → Out Fl) (xs : List Vl) : FO := match ev (xs ++ List.replicate (N - n) .hole) with
  | .ok .nx s => if n ≤ s.length then .ok .non (outsF fxi 0 n s) else .no
  | .ok (.rt v) s => if n ≤ s.length then .ok v (outsF fxi 0 n s) else .no
  | .er k x s => if n ≤ s.length then .er k x (outsF fxi 0 n s) else .no
  | .no => .no
section
variable {K : PySem.W.Frag} {B : Addr → Prop} {H : Hp}
theorem outs_ok {fxi : List Nat} : ∀ {m j : Nat} {s : S} {σ : St} {fp : List Addr} {us : List V}, RS K B H s σ fp → us.length = m → m ≤ s.length → (∀ i u, j + i ∈ fxi → us[i]? = some u → σ[i]? = some (some u)) →
    ∃ fo, RepL K B H (outsF fxi j m s) us fo ∧ fo.Sublist fp
  | 0, j, s, σ, fp, us, h, e, _, _ => by
    have : us = [] := List.length_eq_zero_iff.mp e
    subst this
    exact ⟨[], by simp [outsF, RepL], List.nil_sublist _⟩
  | m + 1, j, [], σ, fp, us, h, e, l, _ => by simp at l
  | m + 1, j, x :: s, σ, fp, [], h, e, l, _ => by simp at e
  | m + 1, j, x :: s, σ, fp, u :: us, h, e, l, hf => by
    simp only [RS] at h
    obtain ⟨o, r, f, g, rfl, rfl, h1, h2⟩ := h
    obtain ⟨fo, r2, sb⟩ := outs_ok (m := m) (j := j + 1) h2 (by simpa using e) (by simpa using l) (fun i v hi hv => by
      have := hf (i + 1) v (by rw [show j + (i + 1) = j + 1 + i by omega]; exact hi) (by simpa using hv)
      simpa using this)
    by_cases hj : j ∈ fxi
    · have ho : o = some u := by
        have := hf 0 u (by simpa using hj) rfl
        simpa using this
      subst ho
      have r1 : ∃ f1, Rep K B H x u f1 ∧ f1.Sublist f := by
        rcases h1 with ⟨rfl, rfl⟩ | ⟨w, e1, r1⟩
        · exact ⟨[], by simp [Rep], List.nil_sublist _⟩
        · cases e1
          exact ⟨f, r1, List.Sublist.refl _⟩
      obtain ⟨f1, r1, s1⟩ := r1
      refine ⟨f1 ++ fo, ?_, s1.append sb⟩
      simp only [outsF, hj, if_true, RepL]
      exact ⟨u, us, f1, fo, rfl, rfl, r1, r2⟩
    · refine ⟨fo, ?_, sb.trans (List.sublist_append_right _ _)⟩
      simp only [outsF, hj, if_false, RepL]
      exact ⟨u, us, [], fo, rfl, by simp, by simp [Rep], r2⟩
theorem rs_start : ∀ {xs : List Vl} {us : List V} {fp : List Addr} (m : Nat), RepL K B H xs us fp → RS K B H (xs ++ List.replicate m .hole) (us.map some ++ List.replicate m none) fp
  | [], us, fp, m, h => by
    simp only [RepL] at h
    obtain ⟨rfl, rfl⟩ := h
    simp only [List.nil_append, List.map_nil]
    induction m with
    | zero => simp [RS]
    | succ m ih =>
      rw [List.replicate_succ, List.replicate_succ]
      simp only [RS]
      exact ⟨none, _, [], [], rfl, rfl, .inl ⟨rfl, rfl⟩, ih⟩
  | x :: xs, us, fp, m, h => by
    simp only [RepL] at h
    obtain ⟨u, ur, f, g, rfl, rfl, r1, r2⟩ := h
    simp only [List.cons_append, List.map_cons, RS]
    exact ⟨some u, _, f, g, rfl, rfl, .inr ⟨u, rfl, r1⟩, rs_start m r2⟩
end

section
variable {P : Program} {w : World} {K : PySem.W.Frag} {mg : Str → Option Value} {base : Heap}
theorem fn3 {x qual : Str} {st : Stmt} {f : Addr} {fd : FuncData} {N ps : List Str} {k n : Nat} {fxi : List Nat} {ev : S → Out Fl} (F : Fun K x qual st f fd) (Sc : FnScope N ps (defScope st)) (hn : ps.length = n) (hN : n ≤ N.length) (hfx : ∀ j ∈ fxi, j < n)
    (body : ∀ (cdv : Value) (A : Around) (outer : List Env) (s : Shared) (H : Hp) (E : XK) (c : Q3),
      Room k (cxOf (L2.CX P w) P w K mg base N qual (defScope st) f cdv A outer s H E).A → A.guards = some [] → c.fx.map (·.1) = fxi → Takes (cxOf (L2.CX P w) P w K mg base N qual (defScope st) f cdv A outer s H E) c.W →
      MSs (cxOf (L2.CX P w) P w K mg base N qual (defScope st) f cdv A outer s H E) c (defBody st) ev) :
    FnOk3 P w K mg base (k + 1) f fd ps (spOf K mg n (runF N.length n fxi ev)) := by
  obtain ⟨oc, od, kV, doc, pm, an, cdv, ct, osl, rfl, lk, hcd⟩ := F.ex
  refine ⟨fun vs H Q E h => h.1.trans hn.symm, ?_⟩
  intro A outer s H args us vs Q E hr hgd e0 hb r hsp
  have hl : vs.length = ps.length := hsp.1.trans hn.symm
  have keep0 : ∀ b o, base.get? b = some o → s.heap.get? b = some o := fun b o e => (e0.bs b o e).1
  have KX := e0.mod.kin.keeps keep0
  have hkind : ∀ y ∈ ps.zip us, (defScope st).names.lookup y.1 = some .local ∨
      ((defScope st).names.lookup y.1 = some .cell ∧ ((cellsFrom (s.heap.objs.size + 1) (defScope st).names []).lookup y.1).isSome = true) := by
    rintro ⟨m, v⟩ hy
    exact (Sc.par m (List.of_mem_zip hy).1).imp id fun q => ⟨q, PySem.W.cellsFrom_some _ _ _ (.inl q)⟩
  refine codeAny_call_function hr.depth (KX _ _ lk) rfl
    Sc.co Sc.gen rfl (PySem.W.codeRec_of KX hcd) (hb _ _ _ _ ?_)
  refine wpAny_newFunctionEnv_cells Sc.kind hkind
    fun env he s1 xin => ?_
  subst he
  refine ⟨(e0.mod.nolimit.keeps keep0).keeps xin.toInCall.keep,
    codeAny_func ?_⟩
  obtain ⟨h0, B, xs, fp, rx, nd, ow, dm, hF⟩ := hsp
  have I := inv_start (CX := L2.CX P w) (E := E) Sc hr.hd e0 hl r xin
  let c : Q3 := ⟨fxi.map fun j => (j, vs.getD j .non), fun cls d _ H' => E cls d H'⟩
  have hcf : c.fx.map (·.1) = fxi := by
    show (fxi.map fun j => (j, vs.getD j .non)).map (·.1) = fxi
    rw [List.map_map]
    exact (List.map_congr_left fun _ _ => rfl).trans (List.map_id _)
  have G : GT K c B H (xs ++ List.replicate (N.length - n) .hole) (L2.start N vs) [] [] fp [] := by
    refine ⟨?_, by simp [AR], by simpa using nd, fun a ha => ow a (by simpa using ha), dm, fun p hp => ?_⟩
    · have := rs_start (N.length - n) rx
      unfold L2.start
      rw [hl, hn]
      exact this
    · obtain ⟨j, hj, rfl⟩ := List.mem_map.mp hp
      have hj' := hfx j hj
      show (L2.start N vs)[j]? = some (some (vs.getD j .non))
      unfold L2.start
      rw [List.getElem?_append_left (by rw [List.length_map, hl, hn]; exact hj'), List.getElem?_map]
      have hjv : j < vs.length := by rw [hl, hn]; exact hj'
      rw [List.getElem?_eq_getElem hjv]
      simp [List.getD, List.getElem?_eq_getElem hjv]
  have tk : Takes (cxOf (L2.CX P w) P w K mg base N qual (defScope st) f cdv A outer s H E) c.W := takes_of rfl rfl rfl rfl
  have hbody := body cdv A outer s H E c (hr.deeper _) hgd hcf tk
  have outs : ∀ {s' : S} {σ' : St} {H' : Hp} {B' : Addr → Prop} {fp' : List Addr}, GT K c B' H' s' σ' [] [] fp' [] → n ≤ s'.length → ∃ fo, RepL K B' H' (outsF fxi 0 n s') vs fo ∧ fo.Sublist fp' := by
    intro s' σ' H' B' fp' G' hlen
    refine outs_ok (j := 0) G'.rs (hl.trans hn) hlen fun i u hi hu => ?_
    have := G'.fix (i, vs.getD i .non) (List.mem_map.mpr ⟨i, by simpa using hi, rfl⟩)
    rw [this]
    simp [List.getD, hu]
  let D : Ends := { nx := fun _ H' => Q .non H', rt := Q }
  have q : tS3 (cxOf (L2.CX P w) P w K mg base N qual (defScope st) f cdv A outer s H E) c ev D (L2.start N vs) H := by
    refine ⟨B, _, fp, G, ?_⟩
    unfold runF at hF
    cases e : ev (xs ++ List.replicate (N.length - n) .hole) with
    | no => rw [e] at hF; exact hF.elim
    | er kk xx s' =>
      rw [e] at hF
      simp only at hF
      by_cases hlen : n ≤ s'.length
      · rw [if_pos hlen] at hF
        intro σ' C d v H' B' fp' st' fr' G' e1 e2 e3 e4
        obtain ⟨fo, ro, so⟩ := outs G' hlen
        exact hF C d v H' B' fo st' (fun b hb => fr' b (so.subset hb)) (so.nodup (by simpa using G'.nd)) (fun b hb => G'.ownF b (so.subset hb)) G'.dom ro e1 e2 e3 e4
      · rw [if_neg hlen] at hF; exact hF.elim
    | ok fl s' =>
      rw [e] at hF
      cases fl with
      | nx =>
        simp only at hF
        by_cases hlen : n ≤ s'.length
        · rw [if_pos hlen] at hF
          intro σ' H' B' fp' st' fr' G'
          obtain ⟨fo, ro, so⟩ := outs G' hlen
          exact hF .non H' B' [] fo st' (fun b hb => fr' b (so.subset (by simpa using hb))) (by simpa using so.nodup (by simpa using G'.nd)) (fun b hb => G'.ownF b (so.subset (by simpa using hb))) G'.dom (by simp [Rep]) ro
        · rw [if_neg hlen] at hF; exact hF.elim
      | rt v =>
        simp only at hF
        by_cases hlen : n ≤ s'.length
        · rw [if_pos hlen] at hF
          intro σ' u H' B' fp' g st' fr' G'
          obtain ⟨fo, ro, so⟩ := outs G'.drop hlen
          obtain ⟨u', h1, rv⟩ := G'.ar.one_inv
          simp only [List.cons.injEq, and_true] at h1
          subst h1
          have nd' := G'.nd
          refine hF u H' B' g fo st' (fun b hb => fr' b ?_) ?_ (fun b hb => G'.own b ?_) G'.dom rv ro
          · have := so.subset (a := b)
            simp only [List.mem_append] at hb ⊢
            grind
          · have h2 := List.nodup_append.mp nd'
            refine List.nodup_append.mpr ⟨h2.2.1, so.nodup h2.1, fun a ha b hb ee => h2.2.2 b (so.subset hb) a ha ee.symm⟩
          · have := so.subset (a := b)
            simp only [List.mem_append] at hb ⊢
            grind
        · rw [if_neg hlen] at hF; exact hF.elim
  refine wpAny_mono (hbody.run [] s1 (L2.start N vs) H D I q)
    (fun fl s' hs => ?_) fun _ _ hs => hs
  have fin : ∀ {σ' : St} {H' : Hp} {v : V} {u : Value}, Inv (cxOf (L2.CX P w) P w K mg base N qual (defScope st) f cdv A outer s H E) [] σ' H' s' → RelV v u → Q v H' → CE outer P w H s Q u s' :=
    fun {σ' H' v u} J rv q => ⟨v, H', J.os, J.bare, J.base, J.hok, rv, q⟩
  match fl, hs with
  | .ret u, hs =>
    obtain ⟨v, σ', H', J, rv, q⟩ := hs
    exact fin J rv q
  | .next, hs =>
    obtain ⟨σ', H', J, q⟩ := hs
    exact fin (v := V.non) (u := Value.none) J rfl q
  | .brk, hs =>
    obtain ⟨_, _, _, q⟩ := hs
    exact q.elim
  | .cont, hs =>
    obtain ⟨_, _, _, q⟩ := hs
    exact q.elim
end
end L3

/-! L3h: while, for. -/
namespace L3
open PySem PySem.Spec PyProof.Rows L2

def whileF (t : S → Out Bool) (b : S → Out Fl) : Nat → S → Out Fl
  | 0, _ => .no
  | n + 1, s => (t s).bind fun k s1 => if k = true then ((b s1).bind fun fl s2 => match fl with | .nx => whileF t b n s2 | .rt v => .ok (.rt v) s2) else .ok .nx s1
def sWhile (fuel : S → Nat) (t : S → Out Bool) (b : S → Out Fl) : S → Out Fl := fun s => whileF t b (fuel s) s
section
variable {X : Cx} {c : Q3}
theorem ms_while {t : Expr} {body : List Stmt} {et : S → Out Bool} {eb : S → Out Fl} {pos : Pos} (fuel : S → Nat) (hp : PassesOwn (model X.prog X.w) X.A X.env X.xe) (ht : MT X c t et) (hb : MSs X c body eb) : MS X c (.While t body [] pos) (sWhile fuel et eb) := by
  refine PS.weak (ps_while hp ht hb) fun D σ H q => ?_
  obtain ⟨B, s, fp, G, q⟩ := q
  refine ⟨fun m σ H => ∃ B s fp, GT X.K c B H s σ [] [] fp [] ∧ FinS X c B H fp σ (whileF et eb m s) D, ⟨fuel s, B, s, fp, G, q⟩, ?_⟩
  rintro m σ H ⟨B, s, fp, G, q⟩
  cases m with
  | zero => exact q.elim
  | succ n =>
    refine tT_one G q fun k s1 H1 B1 fp1 st fr G1 q => ?_
    cases k with
    | false =>
      rw [if_neg (by decide)] at q
      rw [if_neg (by decide)]
      exact q σ H1 B1 fp1 st fr G1
    | true =>
      rw [if_pos rfl] at q
      rw [if_pos rfl]
      refine ⟨fun σ' H' => ∃ B s fp, GT X.K c B H' s σ' [] [] fp [] ∧ FinS X c B H' fp σ' (whileF et eb n s) D, fun σ' H' h => ⟨n, Nat.lt_succ_self n, h⟩, B1, s1, fp1, G1, ?_⟩
      cases e : eb s1 with
      | no => rw [e] at q; exact q.elim
      | er kk x s' => rw [e] at q; exact ErK.trans st fr q
      | ok fl s2 =>
        rw [e] at q
        cases fl with
        | nx => exact fun σ' H' B' fp' st' fr' G' => ⟨B', s2, fp', G', FinS.trans (σ' := σ') (st.trans fr st') (Fresh.trans st fr fr') q⟩
        | rt v => exact PSt.trans (fl := .rt v) st fr q
end

/-! ### targets -/
section
variable (X : Cx) (c : Q3)
def tG3 (is : List Nat) (as : Vl → S → Option S) : TG := fun v σ H Q => ∃ B s fp x f, GT X.K c B H s σ [.v x] [v] fp f ∧ match as x s with
  | some s' => ∀ σ' H' B' fp', (∀ j, j ∉ is → σ'[j]? = σ[j]?) → σ'.length = σ.length → Stp (fp ++ f) H B H' B' → Fresh (fp ++ f) H fp' → GT X.K c B' H' s' σ' [] [] fp' [] → Q σ' H'
  | none => False
def MG (is : List Nat) (tg : Expr) (as : Vl → S → Option S) : Prop := PG X tg (tG3 X c is as)
end
def gNm (i : Nat) : Vl → S → Option S := fun x s => match s[i]? with | some _ => some (s.set i x) | none => none
section
variable {X : Cx} {c : Q3}
theorem PG.weak {e : Expr} {t t' : TG} (h : PG X e t) (w : ∀ v σ H Q, t' v σ H Q → t v σ H Q) : PG X e t' := ⟨fun pins s σ H v u Q I r q => h.run pins s σ H v u Q I r (w v σ H Q q)⟩
theorem mg_name {i : Nat} {x : Str} {pos : Pos} (hN : X.N.Nodup) (hf0 : i ∉ c.fx.map (·.1)) (hi : X.N[i]? = some x := by rfl) (hx : Loc X.env.scope x := by first | exact Or.inl rfl | exact Or.inr rfl) (hf : X.fn x = true ∨ X.env.scope.names.lookup x = some .local := by first | exact .inl rfl | exact .inr rfl | assumption) :
    MG X c [i] (.Name x pos) (gNm i) := by
  refine PG.weak (pg_name hN hi hx hf) fun v σ H Q q => ?_
  obtain ⟨B, s, fp, x, f, G, q⟩ := q
  unfold gNm at q
  cases es : s[i]? with
  | none => simp only [es] at q
  | some y =>
    simp only [es] at q
    obtain ⟨fp', G', m⟩ := G.store es hf0
    exact q _ H B fp' (fun j hj => List.getElem?_set_ne (fun e => hj (by simp [e]))) (by simp) .refl (fun b hb => .inl (m b hb)) G'
end
/-- several targets, one after another -/
def gNilF : List Vl → S → Option S := fun xs s => match xs with | [] => some s | _ => none
def gConsF (a : Vl → S → Option S) (r : List Vl → S → Option S) : List Vl → S → Option S := fun xs s => match xs with
  | x :: xs => match a x s with | some s' => r xs s' | none => none
  | [] => none
section
variable (X : Cx) (c : Q3)
def tGs3 (is : List Nat) (as : List Vl → S → Option S) : TGs := fun vs σ H Q => ∃ B s fp xs, GT X.K c B H s σ [] [] fp [] ∧ RepL X.K B H xs vs [] ∧ match as xs s with
  | some s' => ∀ σ' H' B' fp', (∀ j, j ∉ is → σ'[j]? = σ[j]?) → σ'.length = σ.length → Stp fp H B H' B' → Fresh fp H fp' → GT X.K c B' H' s' σ' [] [] fp' [] → Q σ' H'
  | none => False
def MGs (is : List Nat) (tgs : List Expr) (as : List Vl → S → Option S) : Prop := PGs X tgs (tGs3 X c is as)
end
def gTupF (n : Nat) (as : List Vl → S → Option S) : Vl → S → Option S := fun x s => match x with
  | .tup xs => if xs.length = n then as xs s else none
  | _ => none
section
variable {X : Cx} {c : Q3}
theorem PGs.weak {es : List Expr} {t t' : TGs} (h : PGs X es t) (w : ∀ v σ H Q, t' v σ H Q → t v σ H Q) : PGs X es t' := ⟨fun pins s σ H v u Q I r q => h.run pins s σ H v u Q I r (w v σ H Q q)⟩
theorem mgs_nil : MGs X c [] [] gNilF := by
  refine PGs.weak pgs_nil fun vs σ H Q q => ?_
  obtain ⟨B, s, fp, xs, G, r, q⟩ := q
  cases xs with
  | nil =>
    simp only [RepL] at r
    exact ⟨r.1, q σ H B fp (fun _ _ => rfl) rfl .refl .refl G⟩
  | cons x xs => exact q.elim
theorem mgs_cons {e : Expr} {es : List Expr} {is js : List Nat} {a : Vl → S → Option S} {r : List Vl → S → Option S} (h1 : MG X c is e a) (h2 : MGs X c js es r) (hs : (assignEach (e :: es) X.env).map (·.2) = assign e X.env :: (assignEach es X.env).map (·.2) := by rfl) : MGs X c (is ++ js) (e :: es) (gConsF a r) := by
  refine PGs.weak (pgs_cons h1 h2 hs) fun vs σ H Q q => ?_
  obtain ⟨B, s, fp, xs, G, rr, q⟩ := q
  cases xs with
  | nil => exact q.elim
  | cons x xs =>
    simp only [RepL] at rr
    obtain ⟨u, ur, f, g, rfl, e2, r1, r2⟩ := rr
    obtain ⟨rfl, rfl⟩ : f = [] ∧ g = [] := by simpa using e2.symm
    simp only [gConsF] at q
    refine ⟨u, ur, rfl, B, s, fp, x, [], G.val r1, ?_⟩
    cases ea : a x s with
    | none => rw [ea] at q; exact q.elim
    | some s' =>
      rw [ea] at q
      intro σ' H' B' fp' k1 l1 st fr G'
      rw [List.append_nil] at st fr
      refine ⟨B', s', fp', xs, G', RepL.frame st G.ownF (by simp) r2, ?_⟩
      cases eb : r xs s' with
      | none => simp only [eb] at q
      | some s2 =>
        simp only [eb] at q
        exact fun σ2 H2 B2 fp2 k2 l2 st2 fr2 G2 => q σ2 H2 B2 fp2 (fun j hj => (k2 j (fun z => hj (List.mem_append_right _ z))).trans (k1 j (fun z => hj (List.mem_append_left _ z)))) (l2.trans l1) (st.trans fr st2) (Fresh.trans st fr fr2) G2
theorem mg_tup {es : List Expr} {is : List Nat} {k : Nat} {pos : Pos} {as : List Vl → S → Option S} {n : Nat} (hc : X.calm = true) (h : MGs X c is es as) (hn : (assignEach es X.env).length = n := by rfl) (hst : (assignEach es X.env).findIdx? (·.1) = none := by rfl) : MG X c is (.Tuple es k pos) (gTupF n as) := by
  refine PG.weak (pg_tup (n := n) hc h hn hst) fun v σ H Q q => ?_
  obtain ⟨B, s, fp, x, f, G, q⟩ := q
  cases x with
  | tup xs =>
    simp only [gTupF] at q
    by_cases hl : xs.length = n
    · rw [if_pos hl] at q
      obtain ⟨u, h1, rv⟩ := G.ar.one_inv
      simp only [List.cons.injEq, and_true] at h1
      subst h1
      have hf : f = [] := rv.pur rfl
      subst hf
      obtain ⟨a, us, rfl, hq, r⟩ := rv.tupU
      refine ⟨a, us, rfl, hq, r.length.symm.trans hl, B, s, fp, xs, G.drop, r, ?_⟩
      cases ea : as xs s with
      | none => simp only [ea] at q
      | some s' =>
        simp only [ea, List.append_nil] at q
        exact q
    · rw [if_neg hl] at q; exact q.elim
  | _ => exact q.elim
end

/-! ### what is walked -/
/-- J walks n things; Kp: how the walked thing stands at the i-th turn, what it holds -/
structure Wlk (K : PySem.W.Frag) (J : It) (n : Nat) (it : Nat → Vl) (Kp : Nat → (Addr → Prop) → Hp → List Addr → Prop) : Prop where
  keep : ∀ i B H g fp H' B', Kp i B H g → Stp fp H B H' B' → (∀ b ∈ fp, B b) → (∀ b ∈ g, b ∉ fp) → Kp i B' H' g
  step : ∀ i B H g, i < n → Kp i B H g → (∀ b, B b → H b ≠ none) → J.go i H ∧ ∀ x H', J.yld i H x H' → ∃ B' f g', Stp [] H B H' B' ∧ (∀ b, B' b → H' b ≠ none) ∧ g = f ++ g' ∧ Rep K B' H' (it i) x f ∧ Kp (i + 1) B' H' g'
  stop : ∀ B H g, Kp n B H g → J.stop n H
section
variable (X : Cx) (c : Q3)
/-- the walked things, each as it comes -/
def tI3 (ev : S → Out (List Vl)) : TI := fun σ H R => ∃ B s fp, GT X.K c B H s σ [] [] fp [] ∧
  FinG X c B H fp σ (fun xs s1 => ∀ H1 B1 fp1 g J Kp, Stp fp H B H1 B1 → Fresh fp H (fp1 ++ g) → GT X.K c B1 H1 s1 σ [] [] fp1 [] → (fp1 ++ g).Nodup → (∀ b ∈ g, B1 b) → Wlk X.K J xs.length (fun i => xs.getD i .hole) Kp → Kp 0 B1 H1 g → R J H1) (ev s)
def MI (tg iter : Expr) (ev : S → Out (List Vl)) : Prop := PI X tg iter (tI3 X c ev)
end
def forF (as : Vl → S → Option S) (b : S → Out Fl) : List Vl → S → Out Fl
  | [], s => .ok .nx s
  | x :: xs, s => match as x s with
    | none => .no
    | some s1 => (b s1).bind fun fl s2 => match fl with | .nx => forF as b xs s2 | .rt v => .ok (.rt v) s2
def sFor (ei : S → Out (List Vl)) (as : Vl → S → Option S) (b : S → Out Fl) : S → Out Fl := fun s => (ei s).bind fun xs s1 => forF as b xs s1
section
variable {X : Cx} {c : Q3}
theorem ms_for {is : List Nat} {tg iter : Expr} {body : List Stmt} {ei : S → Out (List Vl)} {as : Vl → S → Option S} {eb : S → Out Fl} {pos : Pos} (hp : PassesOwn (model X.prog X.w) X.A X.env X.xe) (hc : X.calm = true)
    (hi : MI X c tg iter ei) (hg : MG X c is tg as) (hb : MSs X c body eb) (hs : ∀ x, foldedSetIterable iter X.env x = pure x := by intro _; rfl) : MS X c (.For tg iter body [] pos) (sFor ei as eb) := by
  refine PS.weak (ps_for hp hc hi hg hb hs) fun D σ H q => ?_
  obtain ⟨B, s, fp, G, q⟩ := q
  refine ⟨B, s, fp, G, ?_⟩
  unfold sFor at q
  cases e : ei s with
  | no => rw [e] at q; exact q.elim
  | er kk x s' => rw [e] at q; exact q
  | ok xs s1 =>
    rw [e] at q
    intro H1 B1 fp1 g J Kp st fr G1 nd1 ow1 Wk k0
    have q0 : FinS X c B1 H1 (fp1 ++ g) σ (forF as eb xs s1) D := FinS.trans (σ' := σ) st fr q
    refine ⟨fun i m σ H => m = xs.length - i ∧ i ≤ xs.length ∧ ∃ B s fp g, GT X.K c B H s σ [] [] fp [] ∧ (fp ++ g).Nodup ∧ (∀ b ∈ g, B b) ∧ Kp i B H g ∧ FinS X c B H (fp ++ g) σ (forF as eb (xs.drop i) s) D,
      ⟨xs.length, by simp, Nat.zero_le _, B1, s1, fp1, g, G1, nd1, ow1, k0, q0⟩, ?_⟩
    rintro i m σ H ⟨rfl, hi, B, s, fp, g, G, nd, ow, kp, q⟩
    by_cases hlt : i < xs.length
    · right
      obtain ⟨go, yl⟩ := Wk.step i B H g hlt kp G.dom
      refine ⟨go, fun σ' H' => ∃ B s fp g, GT X.K c B H' s σ' [] [] fp [] ∧ (fp ++ g).Nodup ∧ (∀ b ∈ g, B b) ∧ Kp (i + 1) B H' g ∧ FinS X c B H' (fp ++ g) σ' (forF as eb (xs.drop (i + 1)) s) D,
        fun σ' H' h => ⟨xs.length - (i + 1), by omega, rfl, hlt, h⟩, fun x H' y => ?_⟩
      obtain ⟨B', f, g', s2, dm2, rfl, rx, kp2⟩ := yl x H' y
      have hx : xs.getD i .hole = xs[i] := by simp [List.getD, List.getElem?_eq_getElem hlt]
      simp only [hx] at rx
      rw [List.drop_eq_getElem_cons hlt] at q
      simp only [forF] at q
      have s2' : Stp fp H B H' B' := s2.mono (by simp)
      have bb : ∀ b, B b → B' b := fun b hb => ((s2.keep b (by simp) (G.dom b hb)).2).mpr hb
      have G2 : GT X.K c B' H' s σ [.v xs[i]] [x] fp f := ⟨G.rs.frame s2 (by simp) (by simp), .one rx, by
        simp only [List.nodup_append, List.mem_append] at nd ⊢
        grind, fun b hb => bb b (by
          rcases List.mem_append.mp hb with z | z
          · exact G.ownF b z
          · exact ow b (by simp [z])), dm2, G.fix⟩
      refine ⟨B', s, fp, xs[i], f, G2, ?_⟩
      cases ea : as xs[i] s with
      | none => rw [ea] at q; exact q.elim
      | some s3 =>
        rw [ea] at q
        simp only at q
        intro σ3 H3 B3 fp3 _ _ st3 fr3 G3
        have dj3 : ∀ b ∈ g', b ∉ fp ++ f := by
          simp only [List.nodup_append, List.mem_append] at nd ⊢
          grind
        have own2 : ∀ b ∈ fp ++ f, B' b := G2.own
        have kp3 := Wk.keep _ _ _ _ _ _ _ kp2 st3 own2 dj3
        have ow3 : ∀ b ∈ g', B3 b := fun b hb => ((st3.keep b (dj3 b hb) (dm2 b (bb b (ow b (by simp [hb]))))).2).mpr (bb b (ow b (by simp [hb])))
        have nd3 : (fp3 ++ g').Nodup := by
          refine List.nodup_append.mpr ⟨by simpa using G3.nd, by simp only [List.nodup_append, List.mem_append] at nd; grind, fun a ha b hb ee => ?_⟩
          subst ee
          rcases fr3 a ha with z | z
          · exact dj3 a hb z
          · exact dm2 a (bb a (ow a (by simp [hb]))) z
        have A : Stp (fp ++ (f ++ g')) H B H' B' := s2.mono (by simp)
        have Bs : Stp (fp ++ (f ++ g')) H' B' H3 B3 := st3.mono (by simp only [List.mem_append]; grind)
        have Fr : Fresh (fp ++ (f ++ g')) H' (fp3 ++ g') := fun b hb => by
          rcases List.mem_append.mp hb with z | z
          · exact (fr3 b z).imp (fun y => by simp only [List.mem_append] at y ⊢; grind) id
          · exact .inl (by simp [z])
        have q3 := FinS.trans (σ' := σ3) (A.trans Fresh.refl Bs) (Fresh.trans A Fresh.refl Fr) q
        refine ⟨B3, s3, fp3, G3, ?_⟩
        have up : ∀ {H4 : Hp} {B4 : Addr → Prop}, Stp fp3 H3 B3 H4 B4 → Stp (fp3 ++ g') H3 B3 H4 B4 := fun h => h.mono (by simp +contextual)
        cases eq : eb s3 with
        | no => rw [eq] at q3; exact q3.elim
        | er kk xx s' =>
          rw [eq] at q3
          exact fun σ' C d w H4 B4 fp4 st4 fr4 G4 => q3 σ' C d w H4 B4 fp4 (up st4) (fr4.mono (by simp +contextual)) G4
        | ok fl s4 =>
          rw [eq] at q3
          cases fl with
          | rt v => exact fun σ' u H4 B4 fp4 g4 st4 fr4 G4 => q3 σ' u H4 B4 fp4 g4 (up st4) (fr4.mono (by simp +contextual)) G4
          | nx =>
            intro σ4 H4 B4 fp4 st4 fr4 G4
            have dj4 : ∀ b ∈ g', b ∉ fp3 := fun b h1 h2 => (List.nodup_append.mp nd3).2.2 b h2 b h1 rfl
            have ow4 : ∀ b ∈ g', B4 b := fun b hb => ((st4.keep b (dj4 b hb) (G3.dom b (ow3 b hb))).2).mpr (ow3 b hb)
            refine ⟨B4, s4, fp4, g', G4, List.nodup_append.mpr ⟨by simpa using G4.nd, (List.nodup_append.mp nd3).2.1, fun a ha b hb ee => ?_⟩, ow4, Wk.keep _ _ _ _ _ _ _ kp3 st4 G3.ownF dj4, ?_⟩
            · subst ee
              rcases fr4 a ha with z | z
              · exact dj4 a hb z
              · exact G3.dom a (ow3 a hb) z
            · exact FinS.trans (σ' := σ4) (up st4) (fun b hb => by
                rcases List.mem_append.mp hb with z | z
                · exact (fr4 b z).imp (fun y => by simp [y]) id
                · exact .inl (by simp [z])) q3
    · left
      have e : i = xs.length := by omega
      subst e
      rw [List.drop_length] at q
      exact ⟨Wk.stop B H g kp, q σ H B fp .refl (fun b hb => .inl (by simp [hb])) G⟩
end
end L3

/-! L3i: what is walked, comprehensions. -/
namespace L3
open PySem PySem.Spec PyProof.Rows L2

section
variable {K : PySem.W.Frag} {B : Addr → Prop} {H : Hp}
theorem RepL.getP {xs : List Vl} {us : List V} {i : Nat} (r : RepL K B H xs us []) (h : i < xs.length) : ∃ u, us[i]? = some u ∧ Rep K B H (xs.getD i .hole) u [] := by
  obtain ⟨u, p, f, q, e1, e2, r1, _⟩ := r.at (i := i) (x := xs[i]) (by simp [h])
  obtain ⟨rfl, rfl, rfl⟩ : p = [] ∧ f = [] ∧ q = [] := by
    simp only [List.nil_eq, List.append_eq_nil_iff] at e2
    exact ⟨e2.1.1, e2.1.2, e2.2⟩
  exact ⟨u, e1, by simpa [List.getD, List.getElem?_eq_getElem h] using r1⟩
theorem wlk_tup (a : Addr) (xs : List Vl) : Wlk K (Itt K a) xs.length (fun i => xs.getD i .hole) (fun _ B H g => g = [] ∧ ∃ us, FzT K B H a us ∧ RepL K B H xs us []) where
  keep := by
    rintro i B H g fp H' B' ⟨rfl, us, q, r⟩ st hb _
    exact ⟨rfl, us, q.frame st hb, RepL.frame st hb (by simp) r⟩
  step := by
    rintro i B H g hi ⟨rfl, us, q, r⟩ dom
    obtain ⟨u, e, ru⟩ := r.getP hi
    refine ⟨⟨us, u, q.sq, e⟩, fun x H' y => ?_⟩
    obtain ⟨rfl, y⟩ := y
    have := y us q.sq
    rw [e] at this
    cases this
    exact ⟨B, [], [], .refl, dom, rfl, ru, rfl, us, q, r⟩
  stop := by
    rintro B H g ⟨rfl, us, q, r⟩
    exact ⟨us, q.sq, by rw [r.length]; exact Nat.le_refl _⟩
theorem wlk_lst (a : Addr) (xs : List Vl) : Wlk K (Itl K a) xs.length (fun i => xs.getD i .hole) (fun _ B H g => g = [] ∧ ∃ us, FzL B H a us ∧ RepL K B H xs us []) where
  keep := by
    rintro i B H g fp H' B' ⟨rfl, us, q, r⟩ st hb _
    exact ⟨rfl, us, q.frame st hb, RepL.frame st hb (by simp) r⟩
  step := by
    rintro i B H g hi ⟨rfl, us, q, r⟩ dom
    obtain ⟨u, e, ru⟩ := r.getP hi
    refine ⟨⟨us, u, q.sq, e⟩, fun x H' y => ?_⟩
    obtain ⟨rfl, y⟩ := y
    have := y us q.sq
    rw [e] at this
    cases this
    exact ⟨B, [], [], .refl, dom, rfl, ru, rfl, us, q, r⟩
  stop := by
    rintro B H g ⟨rfl, us, q, r⟩
    exact ⟨us, q.sq, by rw [r.length]; exact Nat.le_refl _⟩
theorem wlk_sc (a : Addr) (ns : List Int) : Wlk K (Itl K a) (ns.map Vl.int).length (fun i => (ns.map Vl.int).getD i .hole) (fun _ B H g => g = [] ∧ FzS K B H a (ns.map V.int)) where
  keep := by
    rintro i B H g fp H' B' ⟨rfl, q⟩ st hb _
    exact ⟨rfl, q.frame st hb⟩
  step := by
    rintro i B H g hi ⟨rfl, q⟩ dom
    have hi' : i < ns.length := by simpa using hi
    refine ⟨⟨_, .int ns[i], q.sq, by simp [hi']⟩, fun x H' y => ?_⟩
    obtain ⟨rfl, y⟩ := y
    have := y _ q.sq
    simp only [List.getElem?_map, List.getElem?_eq_getElem hi', Option.map_some, Option.some.injEq] at this
    subst this
    exact ⟨B, [], [], .refl, dom, rfl, by simp [List.getD, hi', Rep], rfl, q⟩
  stop := by
    rintro B H g ⟨rfl, q⟩
    exact ⟨_, q.sq, by simp⟩
theorem wlk_rng (lo : Int) (n : Nat) (xs : List Vl) (hx : xs = (List.range n).map fun k => Vl.int (lo + (k : Nat))) : Wlk K (Itr lo n) xs.length (fun i => xs.getD i .hole) (fun _ _ _ g => g = []) where
  keep := fun i B H g fp H' B' h _ _ _ => h
  step := by
    rintro i B H g hi rfl dom
    subst hx
    have hi' : i < n := by simpa using hi
    refine ⟨hi', fun x H' y => ?_⟩
    obtain ⟨rfl, rfl⟩ := y
    exact ⟨B, [], [], .refl, dom, rfl, by simp [List.getD, hi', Rep], rfl⟩
  stop := by
    rintro B H g rfl
    subst hx
    show n ≤ _
    simp
end
/-- the items of a tuple, a list (from now on changed by nobody) -/
@[simp] def itemsV : Vl → Option (List Vl)
  | .tup xs => some xs
  | .lst _ xs => some (fzL xs)
  | .sc ns => some (ns.map Vl.int)
  | _ => none
def iVal (ev : S → Out Ag) : S → Out (List Vl) := fun s => (ev s).bind fun a s1 => match toV s1 a with
  | some (x, s2) => match itemsV x with | some xs => .ok xs s2 | none => .no
  | none => .no
def rngL (lo hi : Int) : List Vl := (List.range (hi - lo).toNat).map fun k => Vl.int (lo + (k : Nat))
def iRng1 (ea : S → Out (List Ag)) : S → Out (List Vl) := fun s => (ea s).bind fun as s1 => match as.map (res s1) with
  | [.int j] => if -(2 ^ 62) ≤ j ∧ j < 2 ^ 62 then .ok (rngL 0 j) s1 else .no
  | _ => .no
def iRng2 (ea : S → Out (List Ag)) : S → Out (List Vl) := fun s => (ea s).bind fun as s1 => match as.map (res s1) with
  | [.int i, .int j] => if -(2 ^ 62) ≤ i ∧ i < 2 ^ 62 ∧ -(2 ^ 62) ≤ j ∧ j < 2 ^ 62 then .ok (rngL i j) s1 else .no
  | _ => .no
section
variable {X : Cx} {c : Q3} {tg : Expr}
theorem PI.weak {tg e : Expr} {t t' : TI} (h : PI X tg e t) (w : ∀ σ H R, t' σ H R → t σ H R) : PI X tg e t' := ⟨fun pins s σ H R I q => h.run pins s σ H R I (w σ H R q)⟩
theorem mi_val {iter : Expr} {ev : S → Out Ag} (he : ME X c iter ev) : MI X c tg iter (iVal ev) := by
  refine ⟨fun pins s0 σ H R I q => ?_⟩
  obtain ⟨B, s, fp, G, q⟩ := q
  unfold iVal at q
  -- by what it comes to
  have main : ∀ (K2 : V → Hp → Prop), (∀ a s1 x s2, ev s = .ok a s1 → toV s1 a = some (x, s2) → ∀ u H1 B1 fp1 g1, Stp fp H B H1 B1 → Fresh fp H (fp1 ++ g1) → GT X.K c B1 H1 s2 σ [.v x] [u] fp1 g1 → K2 u H1) → tE X c ev σ H K2 := by
    intro K2 hk
    refine ⟨B, s, fp, G, ?_⟩
    cases e : ev s with
    | no => rw [e] at q; exact q.elim
    | er k x s' => rw [e] at q; exact q
    | ok a s1 =>
      rw [e] at q
      simp only [bind_ok] at q
      intro u H1 B1 fp1 g1 st fr G1
      cases et : toV s1 a with
      | none => rw [et] at q; exact q.elim
      | some p =>
        obtain ⟨x, s2⟩ := p
        obtain ⟨B', fp', g', st2, m2, G2⟩ := G1.toV et
        exact hk a s1 x s2 e et u H1 B' fp' g' (st.trans fr st2) (fun b hb => fr b (m2 b hb)) G2
  cases e : ev s with
  | no => rw [e] at q; exact q.elim
  | er k x s' =>
    exact (pi_list he).run pins s0 σ H R I (by
      refine ⟨B, s, fp, G, ?_⟩
      rw [e] at q ⊢
      exact q)
  | ok a s1 =>
    rw [e] at q
    simp only [bind_ok] at q
    cases et : toV s1 a with
    | none => rw [et] at q; exact q.elim
    | some p =>
      obtain ⟨x, s2⟩ := p
      rw [et] at q
      simp only at q
      have take : ∀ {u : V} {H1 : Hp} {B1 : Addr → Prop} {fp1 g1 : List Addr}, GT X.K c B1 H1 s2 σ [.v x] [u] fp1 g1 → Rep X.K B1 H1 x u g1 := by
        intro u H1 B1 fp1 g1 G1
        obtain ⟨u', h1, r⟩ := G1.ar.one_inv
        simp only [List.cons.injEq, and_true] at h1
        subst h1
        exact r
      have one : ∀ {a' : Ag} {s1' : S} {x' : Vl} {s2' : S}, ev s = .ok a' s1' → toV s1' a' = some (x', s2') → x' = x ∧ s2' = s2 := by
        intro a' s1' x' s2' h1 h2
        rw [e] at h1
        cases h1
        rw [et] at h2
        cases h2
        exact ⟨rfl, rfl⟩
      cases x with
      | tup xs =>
        simp only [itemsV] at q
        refine (pi_tup he).run pins s0 σ H R I (main _ fun a' s1' x' s2' h1 h2 u H1 B1 fp1 g1 st fr G1 => ?_)
        obtain ⟨rfl, rfl⟩ := one h1 h2
        have r := take G1
        simp only [Rep] at r
        obtain ⟨rfl, ad, us, rfl, qf, rl⟩ := r
        exact ⟨ad, rfl, ⟨us, qf.sq⟩, q H1 B1 fp1 [] _ _ st fr G1.drop G1.nd (by simp) (wlk_tup ad xs) ⟨rfl, us, qf, rl⟩⟩
      | lst o xs =>
        simp only [itemsV] at q
        refine (pi_list he).run pins s0 σ H R I (main _ fun a' s1' x' s2' h1 h2 u H1 B1 fp1 g1 st fr G1 => ?_)
        obtain ⟨rfl, rfl⟩ := one h1 h2
        obtain ⟨B2, g2, st2, G2, m2, r⟩ := G1.frz
        simp only [fz, Rep] at r
        obtain ⟨_, ad, us, rfl, qf, rl⟩ := r
        have g2e : g2 = [] := by
          obtain ⟨u', h1, r⟩ := G2.ar.one_inv
          exact r.pur (by simp [fz, Pur])
        subst g2e
        exact ⟨ad, rfl, ⟨us, qf.sq⟩, q H1 B2 fp1 [] _ _ (st.trans fr st2) (by simpa using fr.left) G2.drop G2.nd (by simp) (wlk_lst ad (fzL xs)) ⟨rfl, us, qf, rl⟩⟩
      | sc ns =>
        simp only [itemsV] at q
        refine (pi_list he).run pins s0 σ H R I (main _ fun a' s1' x' s2' h1 h2 u H1 B1 fp1 g1 st fr G1 => ?_)
        obtain ⟨rfl, rfl⟩ := one h1 h2
        have r := take G1
        simp only [Rep] at r
        obtain ⟨rfl, ad, rfl, qf⟩ := r
        exact ⟨ad, rfl, ⟨_, qf.sq⟩, q H1 B1 fp1 [] _ _ st fr G1.drop G1.nd (by simp) (wlk_sc ad ns) ⟨rfl, qf⟩⟩
      | _ => exact q.elim
theorem RepP.one {K : PySem.W.Frag} {B : Addr → Prop} {H : Hp} {x : Vl} {us : List V} (h : RepP K B H [x] us) : ∃ u f, us = [u] ∧ Rep K B H x u f := by
  simp only [RepP] at h
  obtain ⟨u, ur, f, e, r, e2⟩ := h
  subst e2
  exact ⟨u, f, e, r⟩
theorem RepP.two {K : PySem.W.Frag} {B : Addr → Prop} {H : Hp} {x y : Vl} {us : List V} (h : RepP K B H [x, y] us) : ∃ u w f g, us = [u, w] ∧ Rep K B H x u f ∧ Rep K B H y w g := by
  simp only [RepP] at h
  obtain ⟨u, ur, f, e, r, w, ur2, g, e2, r2, e3⟩ := h
  subst e3 e2
  exact ⟨u, w, f, g, e, r, r2⟩
theorem mi_rng1 {a : Expr} {ea : S → Out (List Ag)} {p pos : Pos} (hm : X.mg "range" = none) (ha : MA X c [a] ea) (hg : Gl X "range" := by rfl) (hs : starEach [a] X.env = [(false, eval a X.env)] := by rfl) : MI X c tg (.Call (.Name "range" p) [a] [] pos) (iRng1 ea) := by
  refine PI.weak (pi_range1 hg hm ha hs) fun σ H R q => ?_
  obtain ⟨B, s, fp, G, q⟩ := q
  refine tA_one G q fun as s1 us H1 B1 fp1 g1 st fr G1 q => ?_
  have rp := AR.res G1.rs G1.ar
  split at q
  · rename_i j hj
    rw [hj] at rp
    obtain ⟨u, f, rfl, r⟩ := rp.one
    rw [int_of r]
    split at q
    · rename_i hb
      refine ⟨j, rfl, hb.1, hb.2, q H1 B1 fp1 [] _ _ st (by simpa using fr.left) G1.drop (by simpa using (List.nodup_append.mp G1.nd).1) (by simp) (wlk_rng 0 j.toNat (rngL 0 j) (by simp [rngL])) rfl⟩
    · exact q.elim
  · exact q.elim
theorem mi_rng2 {a b : Expr} {ea : S → Out (List Ag)} {p pos : Pos} (hm : X.mg "range" = none) (ha : MA X c [a, b] ea) (hg : Gl X "range" := by rfl) (hs : starEach [a, b] X.env = [(false, eval a X.env), (false, eval b X.env)] := by rfl) (hs2 : starEach [b] X.env = [(false, eval b X.env)] := by rfl) :
    MI X c tg (.Call (.Name "range" p) [a, b] [] pos) (iRng2 ea) := by
  refine PI.weak (pi_range2 hg hm ha hs hs2) fun σ H R q => ?_
  obtain ⟨B, s, fp, G, q⟩ := q
  refine tA_one G q fun as s1 us H1 B1 fp1 g1 st fr G1 q => ?_
  have rp := AR.res G1.rs G1.ar
  split at q
  · rename_i i j hj
    rw [hj] at rp
    obtain ⟨u, w, f, g, rfl, r, r2⟩ := rp.two
    rw [int_of r, int_of r2]
    split at q
    · rename_i hb
      exact ⟨i, j, rfl, hb, q H1 B1 fp1 [] _ _ st (by simpa using fr.left) G1.drop (by simpa using (List.nodup_append.mp G1.nd).1) (by simp) (wlk_rng i (j - i).toNat (rngL i j) rfl) rfl⟩
    · exact q.elim
  · exact q.elim

/-! ### comprehensions -/
/-- the slots of the block's own names are empty -/
@[simp] def wipeS (s : S) : List Nat → S
  | [] => s
  | v :: vs => (wipeS s vs).set v .hole
/-- a turn's ways: the element, or left out -/
def lcF (vs : List Nat) (as : Vl → S → Option S) (et : S → Out Bool) (ee : S → Out Ag) : List Vl → S → List Vl → Out (List Vl)
  | [], s, acc => .ok acc s
  | x :: xs, s, acc => match as x s with
    | none => .no
    | some s1 => match et s1 with
      | .ok b s2 => if b = true then (match ee s2 with
          | .ok a s3 => (match toV s3 a with
            | some (y, s4) => lcF vs as et ee xs (wipeS s4 vs) (acc ++ [y])
            | none => .no)
          | _ => .no) else lcF vs as et ee xs (wipeS s2 vs) acc
      | _ => .no
def eLc (vs : List Nat) (ei : S → Out (List Vl)) (as : Vl → S → Option S) (et : S → Out Bool) (ee : S → Out Ag) : S → Out Ag := fun s => (ei s).bind fun xs s1 =>
  if xs.length < sizeLine then (lcF vs as et ee xs (wipeS s1 vs) []).bind fun ys s2 => .ok (.v (.lst true ys)) s2 else .no
end
section
variable {K : PySem.W.Frag} {B B' : Addr → Prop} {H H' : Hp} {fp fp' F : List Addr}
/-- what the surroundings hold stays -/
theorem carry (dm : ∀ b, B b → H b ≠ none) (nd : (fp ++ F).Nodup) (ow : ∀ b ∈ F, B b) (st : Stp fp H B H' B') (fr : Fresh fp H fp') (nd' : fp'.Nodup) :
    (fp' ++ F).Nodup ∧ (∀ b ∈ F, B' b) ∧ (∀ b ∈ F, H' b = H b) ∧ (∀ b ∈ F, b ∉ fp) := by
  have dj : ∀ b ∈ F, b ∉ fp := fun b h1 h2 => (List.nodup_append.mp nd).2.2 b h2 b h1 rfl
  refine ⟨List.nodup_append.mpr ⟨nd', (List.nodup_append.mp nd).2.1, fun a ha b hb ee => ?_⟩, fun b hb => ((st.keep b (dj b hb) (dm b (ow b hb))).2).mpr (ow b hb), fun b hb => (st.keep b (dj b hb) (dm b (ow b hb))).1, dj⟩
  subst ee
  rcases fr a ha with z | z
  · exact dj a hb z
  · exact dm a (ow a hb) z
theorem wipe_get (σ : St) (j : Nat) : ∀ vs : List Nat, (wipe σ vs)[j]? = if j ∈ vs then (if j < σ.length then some none else none) else σ[j]?
  | [] => by simp [wipe]
  | v :: vs => by
    unfold wipe
    by_cases hv : v = j
    · subst hv
      simp only [List.mem_cons, true_or, if_true]
      by_cases hl : v < σ.length
      · rw [if_pos hl, List.getElem?_set_self (by rw [wipe_length]; exact hl)]
      · rw [if_neg hl, List.getElem?_eq_none (by rw [List.length_set, wipe_length]; omega)]
    · rw [List.getElem?_set_ne hv, wipe_get σ j vs]
      have : (j ∈ v :: vs) = (j ∈ vs) := by simp [Ne.symm hv]
      simp only [this]
theorem wipeS_get (s : S) (j : Nat) : ∀ vs : List Nat, (wipeS s vs)[j]? = if j ∈ vs then (if j < s.length then some .hole else none) else s[j]?
  | [] => by simp [wipeS]
  | v :: vs => by
    have len : ∀ ws : List Nat, (wipeS s ws).length = s.length := by
      intro ws
      induction ws with
      | nil => rfl
      | cons w ws ih => unfold wipeS; rw [List.length_set, ih]
    unfold wipeS
    by_cases hv : v = j
    · subst hv
      simp only [List.mem_cons, true_or, if_true]
      by_cases hl : v < s.length
      · rw [if_pos hl, List.getElem?_set_self (by rw [len]; exact hl)]
      · rw [if_neg hl, List.getElem?_eq_none (by rw [List.length_set, len]; omega)]
    · rw [List.getElem?_set_ne hv, wipeS_get s j vs]
      have : (j ∈ v :: vs) = (j ∈ vs) := by simp [Ne.symm hv]
      simp only [this]
theorem rs_wipe {s : S} {σ : St} : ∀ {vs : List Nat} {fp : List Addr}, RS K B H s σ fp → ∃ fp', RS K B H (wipeS s vs) (wipe σ vs) fp' ∧ fp'.Sublist fp
  | [], fp, h => ⟨fp, h, List.Sublist.refl _⟩
  | v :: vs, fp, h => by
    obtain ⟨fp1, h1, s1⟩ := rs_wipe (vs := vs) h
    unfold wipeS wipe
    cases e : (wipeS s vs)[v]? with
    | none =>
      have l1 := List.getElem?_eq_none_iff.mp e
      have l2 := h1.len
      rw [List.set_eq_of_length_le (by omega), List.set_eq_of_length_le (by omega)]
      exact ⟨fp1, h1, s1⟩
    | some x =>
      obtain ⟨o, p, f, q, e1, e2, r, st⟩ := h1.get e
      refine ⟨p ++ [] ++ q, st .hole none [] (.inl ⟨rfl, rfl⟩), List.Sublist.trans ?_ s1⟩
      rw [e2]
      simp
/-- empty slots may hold anything -/
theorem RS.change : ∀ {s : S} {σ σ' : St} {fp : List Addr}, RS K B H s σ fp → σ'.length = σ.length → (∀ (i : Nat) (x : Vl), s[i]? = some x → x ≠ Vl.hole → σ'[i]? = σ[i]?) → RS K B H s σ' fp
  | [], σ, σ', fp, h, l, _ => by
    simp only [RS] at h ⊢
    obtain ⟨rfl, rfl⟩ := h
    exact ⟨List.length_eq_zero_iff.mp (by simpa using l), rfl⟩
  | x :: xs, σ, [], fp, h, l, _ => by
    simp only [RS] at h
    obtain ⟨o, r, f, g, rfl, rfl, _, _⟩ := h
    simp at l
  | x :: xs, σ, o' :: σ', fp, h, l, hc => by
    simp only [RS] at h ⊢
    obtain ⟨o, r, f, g, rfl, rfl, h1, h2⟩ := h
    refine ⟨o', σ', f, g, rfl, rfl, ?_, RS.change h2 (by simpa using l) fun i y hy hn => by simpa using hc (i + 1) y (by simpa using hy) hn⟩
    by_cases hx : x = .hole
    · rcases h1 with h1 | ⟨u, _, h1⟩
      · exact .inl h1
      · subst hx
        simp only [Rep] at h1
        exact .inl ⟨rfl, h1⟩
    · have := hc 0 x rfl hx
      simp only [List.getElem?_cons_zero, Option.some.injEq] at this
      rw [this]; exact h1
end
theorem nd_grow {a a' b c d : List Addr} {D : Addr} (h : ((a ++ b) ++ (c ++ (D :: d))).Nodup) (s : a'.Sublist a) : (a' ++ (c ++ (D :: (d ++ b)))).Nodup := by
  have n1 : (a ++ (c ++ (D :: (d ++ b)))).Nodup := by
    refine List.Perm.nodup ?_ h
    rw [List.append_assoc]
    refine List.Perm.append_left a ?_
    refine (List.perm_append_comm (l₁ := b)).trans ?_
    rw [List.append_assoc, List.cons_append]
  exact (List.Sublist.append s (List.Sublist.refl _)).nodup n1
theorem nd_not {a b c d : List Addr} {D : Addr} (h : ((a ++ b) ++ (c ++ (D :: d))).Nodup) (x : Addr) (hx : x ∈ a ∨ x ∈ b ∨ x ∈ c ∨ x ∈ d) : x ∉ [D] := by
  intro z
  have e : x = D := by simpa using z
  subst e
  have h1 := List.nodup_append.mp h
  have h2 := List.nodup_append.mp h1.2.1
  rcases hx with z | z | z | z
  · exact h1.2.2 x (by simp [z]) x (by simp) rfl
  · exact h1.2.2 x (by simp [z]) x (by simp) rfl
  · exact h2.2.2 x z x (by simp) rfl
  · exact (List.nodup_cons.mp h2.2.1).1 z
/-- nothing is wished of exceptions in a block -/
abbrev c0 : Q3 := ⟨[], fun _ _ _ _ => False⟩
def MPT (X : Cx) (c : Q3) (ifs : List Expr) (et : S → Out Bool) : Prop := PTs X ifs (tT X c et)
def tTrue : S → Out Bool := fun s => .ok true s
theorem PTs.weak {X : Cx} {e : List Expr} {t t' : TT} (h : PTs X e t) (w : ∀ σ H Q, t' σ H Q → t σ H Q) : PTs X e t' := ⟨fun pins s σ H Q I q => h.run pins s σ H Q I (w σ H Q q)⟩
theorem mpt_nil {X : Cx} {c : Q3} : MPT X c [] tTrue := by
  refine PTs.weak pts_nil fun σ H Q q => ?_
  obtain ⟨B, s, fp, G, q⟩ := q
  exact q H B fp .refl .refl G
theorem mpt_one {X : Cx} {c : Q3} {e : Expr} {et : S → Out Bool} (h : MT X c e et) : MPT X c [e] et := pts_one h
section
variable {X : Cx} {c : Q3}
theorem lc_tree {is vs : List Nat} {ei : S → Out (List Vl)} {as : Vl → S → Option S} {et : S → Out Bool} {ee : S → Out Ag} (his : ∀ i ∈ is, i ∈ vs) (σ : St) (H : Hp) (Q : VK) (q : tE X c (eLc vs ei as et ee) σ H Q) :
    tLc (tI3 X c ei) (tG3 X c0 is as) (tT X c0 et) (tE X c0 ee) vs σ H Q := by
  obtain ⟨B, s, fp, G, q⟩ := q
  refine ⟨B, s, fp, G, ?_⟩
  unfold eLc at q
  cases e : ei s with
  | no => rw [e] at q; exact q.elim
  | er k x s' => rw [e] at q; exact q
  | ok xs s1 =>
    rw [e] at q
    simp only [bind_ok] at q
    intro H1 B1 fp1 g1 J Kp st fr G1 nd1 ow1 Wk k0
    have hlen : xs.length < sizeLine := by
      by_cases h : xs.length < sizeLine
      · exact h
      · rw [if_neg h] at q; exact q.elim
    rw [if_pos hlen] at q
    intro D hD
    refine ⟨fun i m Hh => m = xs.length - i ∧ i ≤ xs.length ∧ ∃ Bh s fp2 g gy us ys, GT X.K c0 Bh Hh s (wipe σ vs) [] [] fp2 [] ∧ (fp2 ++ (g ++ (D :: gy))).Nodup ∧ (∀ b ∈ g ++ (D :: gy), Bh b) ∧ Kp i Bh Hh g ∧ Hh D = some (.lst us) ∧
        RepL X.K Bh Hh ys us gy ∧ us.length ≤ i ∧ (∀ v ∈ vs, ∀ x : Vl, s[v]? = some x → x = .hole) ∧ Stp fp H B Hh Bh ∧ Fresh fp H (fp2 ++ (g ++ (D :: gy))) ∧
        FinE X c B H fp σ ((lcF vs as et ee (xs.drop i) s ys).bind fun ys s2 => .ok (.v (.lst true ys)) s2) Q, ?_, ?_⟩
    · -- the start
      obtain ⟨fpw, rw', sw⟩ := rs_wipe (vs := vs) G1.rs
      have stD : Stp [] H1 B1 (upd H1 D (.lst [])) (more B1 D) := Stp.newO hD
      have hDf : D ∉ fp1 ++ g1 := fun z => by
        rcases List.mem_append.mp z with y | y
        · exact G1.dom D (G1.ownF D y) hD
        · exact G1.dom D (ow1 D y) hD
      refine ⟨xs.length, by simp, Nat.zero_le _, more B1 D, wipeS s1 vs, fpw, g1, [], [], [], ⟨rw'.frame stD (by simp) (by simp), by simp [AR], ?_, fun b hb => ?_, dom_newO G1.dom, by simp⟩, ?_, fun b hb => ?_, Wk.keep _ _ _ _ _ _ _ k0 stD (by simp) (by simp), upd_same, by simp [RepL], Nat.le_refl _, fun v hv x hx => ?_, st.trans (fr.left) (stD.mono (by simp)), fun b hb => ?_, q⟩
      · rw [List.append_nil]
        exact sw.nodup (List.nodup_append.mp nd1).1
      · rw [List.append_nil] at hb
        exact .inl (G1.ownF b (sw.subset hb))
      · have := sw.nodup (List.nodup_append.mp nd1).1
        have s2 := fun b => sw.subset (a := b)
        simp only [List.nodup_append, List.mem_append, List.mem_cons, List.nodup_cons] at nd1 hDf ⊢
        grind
      · rcases List.mem_append.mp hb with z | z
        · exact .inl (ow1 b z)
        · exact .inr (by simpa using z)
      · rw [wipeS_get, if_pos hv] at hx
        split at hx
        · exact (Option.some.inj hx).symm
        · cases hx
      · rcases List.mem_append.mp hb with z | z
        · exact fr b (by simp [sw.subset z])
        · rcases List.mem_append.mp z with y | y
          · exact fr b (by simp [y])
          · have : b = D := by simpa using y
            subst this
            refine .inr ?_
            cases eH : H b with
            | none => rfl
            | some o => exact absurd hD (st.there b (by rw [eH]; simp))
    · rintro i m Hh ⟨rfl, hi', Bh, s2, fp2, g, gy, us, ys, G2, nd2, ow2, kp, eD, ry, ly, hv, stH, frH, q⟩
      by_cases hlt : i < xs.length
      · right
        obtain ⟨go, yl⟩ := Wk.step i Bh Hh g hlt kp G2.dom
        refine ⟨go, fun H' => ∃ Bh s fp2 g gy us ys, GT X.K c0 Bh H' s (wipe σ vs) [] [] fp2 [] ∧ (fp2 ++ (g ++ (D :: gy))).Nodup ∧ (∀ b ∈ g ++ (D :: gy), Bh b) ∧ Kp (i + 1) Bh H' g ∧ H' D = some (.lst us) ∧
          RepL X.K Bh H' ys us gy ∧ us.length ≤ i + 1 ∧ (∀ v ∈ vs, ∀ x : Vl, s[v]? = some x → x = .hole) ∧ Stp fp H B H' Bh ∧ Fresh fp H (fp2 ++ (g ++ (D :: gy))) ∧
          FinE X c B H fp σ ((lcF vs as et ee (xs.drop (i + 1)) s ys).bind fun ys s2 => .ok (.v (.lst true ys)) s2) Q,
          fun H' h => ⟨xs.length - (i + 1), by omega, rfl, hlt, h⟩, fun x H' y => ?_⟩
        obtain ⟨B', f, g', st2, dm2, rfl, rx, kp2⟩ := yl x H' y
        have hx : xs.getD i .hole = xs[i] := by simp [List.getD, List.getElem?_eq_getElem hlt]
        simp only [hx] at rx
        rw [List.drop_eq_getElem_cons hlt] at q
        simp only [lcF] at q
        have bb : ∀ b, Bh b → B' b := fun b hb => ((st2.keep b (by simp) (G2.dom b hb)).2).mpr hb
        have hh : ∀ b, Bh b → H' b = Hh b := fun b hb => (st2.keep b (by simp) (G2.dom b hb)).1
        have G3 : GT X.K c0 B' H' s2 (wipe σ vs) [.v xs[i]] [x] fp2 f := ⟨G2.rs.frame st2 (by simp) (by simp), .one rx, by
          simp only [List.nodup_append, List.mem_append] at nd2 ⊢
          grind, fun b hb => bb b (by
            rcases List.mem_append.mp hb with z | z
            · exact G2.ownF b z
            · exact ow2 b (by simp [z])), dm2, by simp⟩
        -- what the surroundings hold
        have ndF : ((fp2 ++ f) ++ (g' ++ (D :: gy))).Nodup := by
          simp only [List.nodup_append, List.mem_append] at nd2 ⊢
          grind
        have owF : ∀ b ∈ g' ++ (D :: gy), B' b := fun b hb => bb b (ow2 b (by
          simp only [List.mem_append] at hb ⊢
          grind))
        have ry2 : RepL X.K B' H' ys us gy := RepL.frame st2 (by simp) (by simp) ry
        have eD2 : H' D = some (.lst us) := (hh D (ow2 D (by simp))).trans eD
        have stH2 : Stp fp H B H' B' := stH.trans frH (st2.mono (by simp))
        have frH2 : Fresh fp H ((fp2 ++ f) ++ (g' ++ (D :: gy))) := fun b hb => frH b (by
          simp only [List.mem_append] at hb ⊢
          grind)
        refine ⟨B', s2, fp2, xs[i], f, G3, ?_⟩
        cases ea : as xs[i] s2 with
        | none => rw [ea] at q; exact q.elim
        | some s3 =>
          rw [ea] at q
          simp only at q
          intro σ3 H3 B3 fp3 k3 l3 st3 fr3 G4
          have hw : wipe σ3 vs = wipe σ vs := by
            refine List.ext_getElem? fun j => ?_
            rw [wipe_get, wipe_get, l3, wipe_length]
            by_cases hj : j ∈ vs
            · rw [if_pos hj, if_pos hj]
            · rw [if_neg hj, if_neg hj, k3 j (fun z => hj (his j z)), wipe_get, if_neg hj]
          refine ⟨hw, ?_⟩
          obtain ⟨nd3, ow3, hh3, dj3⟩ := carry dm2 ndF owF st3 fr3 (by simpa using G4.nd)
          have kp3 := Wk.keep _ _ _ _ _ _ _ kp2 st3 G3.own (fun b hb => dj3 b (by simp [hb]))
          have ry3 : RepL X.K B3 H3 ys us gy := RepL.frame st3 G3.own (fun b hb => dj3 b (by simp [hb])) ry2
          have eD3 : H3 D = some (.lst us) := (hh3 D (by simp)).trans eD2
          have stH3 : Stp fp H B H3 B3 := stH2.trans (fun b hb => frH2 b (List.mem_append_left _ hb)) st3
          have frH3 : Fresh fp H (fp3 ++ (g' ++ (D :: gy))) := fun b hb => by
            rcases List.mem_append.mp hb with z | z
            · exact Fresh.trans stH2 (fun b hb => frH2 b (List.mem_append_left _ hb)) fr3 b z
            · exact frH2 b (List.mem_append_right _ z)
          refine ⟨B3, s3, fp3, G4, ?_⟩
          cases eb : et s3 with
          | no => rw [eb] at q; exact q.elim
          | er kk xx s' => rw [eb] at q; exact q.elim
          | ok b s4 =>
            rw [eb] at q
            simp only at q
            intro H4 B4 fp4 st4 fr4 G5
            obtain ⟨nd4, ow4, hh4, dj4⟩ := carry G4.dom nd3 ow3 st4 fr4 (by simpa using G5.nd)
            have kp4 := Wk.keep _ _ _ _ _ _ _ kp3 st4 G4.ownF (fun b hb => dj4 b (by simp [hb]))
            have ry4 : RepL X.K B4 H4 ys us gy := RepL.frame st4 G4.ownF (fun b hb => dj4 b (by simp [hb])) ry3
            have eD4 : H4 D = some (.lst us) := (hh4 D (by simp)).trans eD3
            have stH4 : Stp fp H B H4 B4 := stH3.trans (fun b hb => frH3 b (List.mem_append_left _ hb)) st4
            have frH4 : Fresh fp H (fp4 ++ (g' ++ (D :: gy))) := fun b hb => by
              rcases List.mem_append.mp hb with z | z
              · exact Fresh.trans stH3 (fun b hb => frH3 b (List.mem_append_left _ hb)) fr4 b z
              · exact frH3 b (List.mem_append_right _ z)
            cases b with
            | false =>
              rw [if_neg (by decide)] at q ⊢
              obtain ⟨fp5, r5, s5⟩ := rs_wipe (vs := vs) G5.rs
              rw [hw] at r5
              refine ⟨B4, wipeS s4 vs, fp5, g', gy, us, ys, ⟨r5, by simp [AR], by simpa using s5.nodup (by simpa using G5.nd), fun b hb => G5.ownF b (s5.subset (by simpa using hb)), G5.dom, by simp⟩, ?_, ow4, kp4, eD4, ry4, by omega, fun v hv x hx => ?_, stH4, fun b hb => ?_, q⟩
              · exact (List.Sublist.append s5 (List.Sublist.refl _)).nodup nd4
              · rw [wipeS_get, if_pos hv] at hx
                split at hx
                · exact (Option.some.inj hx).symm
                · cases hx
              · rcases List.mem_append.mp hb with z | z
                · exact frH4 b (List.mem_append_left _ (s5.subset z))
                · exact frH4 b (List.mem_append_right _ z)
            | true =>
              rw [if_pos rfl] at q ⊢
              refine ⟨B4, s4, fp4, G5, ?_⟩
              cases ec : ee s4 with
              | no => rw [ec] at q; exact q.elim
              | er kk xx s' => rw [ec] at q; exact q.elim
              | ok a s5 =>
                rw [ec] at q
                simp only at q
                intro u H5 B5 fp5 g5 st5 fr5 G6
                cases ev : toV s5 a with
                | none => rw [ev] at q; exact q.elim
                | some pr =>
                  obtain ⟨yv, s6⟩ := pr
                  rw [ev] at q
                  simp only at q
                  obtain ⟨B6, fp6, g6, st6, m6, G7⟩ := G6.toV ev
                  have fr6 : Fresh fp4 H4 (fp6 ++ g6) := fun b hb => fr5 b (m6 b hb)
                  have st46 : Stp fp4 H4 B4 H5 B6 := st5.trans fr5 st6
                  obtain ⟨nd6, ow6, hh6, dj6⟩ := carry G5.dom nd4 ow4 st46 fr6 G7.nd
                  have kp6 := Wk.keep _ _ _ _ _ _ _ kp4 st46 G5.ownF (fun b hb => dj6 b (by simp [hb]))
                  have ry6 : RepL X.K B6 H5 ys us gy := RepL.frame st46 G5.ownF (fun b hb => dj6 b (by simp [hb])) ry4
                  have eD6 : H5 D = some (.lst us) := (hh6 D (by simp)).trans eD4
                  have stH6 : Stp fp H B H5 B6 := stH4.trans (fun b hb => frH4 b (List.mem_append_left _ hb)) st46
                  have frH6 : Fresh fp H ((fp6 ++ g6) ++ (g' ++ (D :: gy))) := fun b hb => by
                    rcases List.mem_append.mp hb with z | z
                    · exact Fresh.trans stH4 (fun b hb => frH4 b (List.mem_append_left _ hb)) fr6 b z
                    · exact frH4 b (List.mem_append_right _ z)
                  refine ⟨us, eD6, Nat.lt_of_le_of_lt ly (Nat.lt_trans hlt hlen), ?_⟩
                  -- the list grows
                  have stD : Stp [D] H5 B6 (upd H5 D (.lst (us ++ [u]))) B6 := ⟨fun b hb hn => ⟨upd_ne (by simpa using hb), Iff.rfl⟩, fun b hn => by
                    by_cases eb : b = D
                    · rw [eb, upd_same]; simp
                    · rw [upd_ne eb]; exact hn⟩
                  have oD : ∀ b ∈ [D], B6 b := fun b hb => by
                    have : b = D := by simpa using hb
                    subst this
                    exact ow6 b (by simp)
                  have ndD : ∀ b, b ∈ fp6 ∨ b ∈ g6 ∨ b ∈ g' ∨ b ∈ gy → b ∉ [D] := nd_not nd6
                  obtain ⟨u', h1, ru⟩ := G7.ar.one_inv
                  simp only [List.cons.injEq, and_true] at h1
                  subst h1
                  obtain ⟨fp8, r8, s8⟩ := rs_wipe (vs := vs) G7.rs
                  rw [hw] at r8
                  have r8' := r8.frame stD oD (fun b hb => ndD b (.inl (s8.subset hb)))
                  refine ⟨B6, wipeS s6 vs, fp8, g', gy ++ g6, us ++ [u], ys ++ [yv], ⟨r8', by simp [AR], by simpa using s8.nodup (List.nodup_append.mp G7.nd).1, fun b hb => G7.ownF b (s8.subset (by simpa using hb)), fun b hb => stD.there b (G7.dom b hb), by simp⟩, ?_, fun b hb => ?_, Wk.keep _ _ _ _ _ _ _ kp6 stD oD (fun b hb => ndD b (.inr (.inr (.inl hb)))), upd_same, ?_, by rw [List.length_append, List.length_singleton]; omega, fun v hv x hx => ?_, stH6.trans frH6 (stD.mono (by simp)), fun b hb => ?_, q⟩
                  · exact nd_grow nd6 s8
                  · have hb' : b ∈ g' ++ (D :: gy) ∨ b ∈ g6 := by
                      simp only [List.mem_append, List.mem_cons] at hb ⊢
                      rcases hb with z | z | z | z
                      · exact .inl (.inl z)
                      · exact .inl (.inr (.inl z))
                      · exact .inl (.inr (.inr z))
                      · exact .inr z
                    rcases hb' with z | z
                    · exact ow6 b z
                    · exact G7.own b (List.mem_append_right _ z)
                  · refine RepL.append (RepL.frame stD oD (fun b hb => ndD b (.inr (.inr (.inr hb)))) ry6) ?_
                    simp only [RepL]
                    exact ⟨u, [], g6, [], rfl, by simp, Rep.frame stD oD (fun b hb => ndD b (.inr (.inl hb))) ru, rfl, rfl⟩
                  · rw [wipeS_get, if_pos hv] at hx
                    split at hx
                    · exact (Option.some.inj hx).symm
                    · cases hx
                  · refine frH6 b ?_
                    simp only [List.mem_append, List.mem_cons] at hb ⊢
                    rcases hb with z | z | z | z | z
                    · exact .inl (.inl (s8.subset z))
                    · exact .inr (.inl z)
                    · exact .inr (.inr (.inl z))
                    · exact .inr (.inr (.inr z))
                    · exact .inl (.inr z)
      · left
        have ei : i = xs.length := by omega
        subst ei
        rw [List.drop_length] at q
        refine ⟨Wk.stop Bh Hh g kp, ?_⟩
        have rs' : RS X.K Bh Hh s2 σ fp2 := G2.rs.change (wipe_length σ vs).symm fun j x hx hn => by
          rw [wipe_get, if_neg (fun z => hn (hv j z x hx))]
        refine q (.ref D) Hh Bh fp2 (D :: gy) stH (fun b hb => frH b (by simp only [List.mem_append] at hb ⊢; grind)) ⟨rs', .one ?_, ?_, fun b hb => ?_, G2.dom, G.fix⟩
        · show Rep X.K Bh Hh (.lst true ys) (.ref D) (D :: gy)
          simp only [Rep]
          exact ⟨D, us, gy, rfl, rfl, eD, ry⟩
        · simp only [List.nodup_append, List.mem_append] at nd2 ⊢
          grind
        · rcases List.mem_append.mp hb with z | z
          · exact G2.ownF b z
          · exact ow2 b (by simp only [List.mem_append]; exact .inr z)
theorem me_lc {elt tg iter : Expr} {ifs : List Expr} {scope : Scope} {own : List (Str × Nat)} {is : List Nat} {pos : Pos} {ei : S → Out (List Vl)} {as : Vl → S → Option S} {et : S → Out Bool} {ee : S → Out Ag}
    (hc : X.calm = true) (hN : X.N.Nodup) (ok : BlkOk X.N X.env.scope scope own) (hi : MI X c tg iter ei)
    (hg : ∀ (s : Shared) (H : Hp) (C : Addr) (cl : List (Str × Addr)) (fp : List Addr), MG (X.blk s H scope (compEnvC scope cl C X.env) fp) c0 is tg as) (his : ∀ i ∈ is, i ∈ own.map (·.2))
    (ht : ∀ (s : Shared) (H : Hp) (C : Addr) (cl : List (Str × Addr)) (fp : List Addr), MPT (X.blk s H scope (compEnvC scope cl C X.env) fp) c0 ifs et)
    (he : ∀ (s : Shared) (H : Hp) (C : Addr) (cl : List (Str × Addr)) (fp : List Addr), ME (X.blk s H scope (compEnvC scope cl C X.env) fp) c0 elt ee)
    (hs : ∀ x, foldedSetIterable iter X.env x = pure x := by intro _; rfl) : ME X c (.ListComp elt [⟨tg, iter, ifs, 0⟩] scope pos) (eLc (own.map (·.2)) ei as et ee) :=
  PE.weak (t := tLc (tI3 X c ei) (tG3 X c0 is as) (tT X c0 et) (tE X c0 ee) (own.map (·.2))) (pe_lc (g := tG3 X c0 is as) (tt := tT X c0 et) (te := tE X c0 ee) hc hN hi ok hg ht he hs) (lc_tree his)
theorem ms_setLc {i : Nat} {y : Str} {py : Pos} {elt tg iter : Expr} {ifs : List Expr} {scope : Scope} {own : List (Str × Nat)} {is : List Nat} {pos spos : Pos} {ei : S → Out (List Vl)} {as : Vl → S → Option S} {et : S → Out Bool} {ee : S → Out Ag} {fxi : List Nat} (hfx : c.fx.map (·.1) = fxi)
    (hc : X.calm = true) (hN : X.N.Nodup) (hsw : swapsWith (.ListComp elt [⟨tg, iter, ifs, 0⟩] scope pos) (some (.Name y py)) spos.line X.env = pure true) (ok : BlkOk X.N X.env.scope scope own) (hi : MI X c tg iter ei)
    (hg : ∀ (s : Shared) (H : Hp) (C : Addr) (cl : List (Str × Addr)) (fp : List Addr), MG (X.blk s H scope (compEnvC scope cl C X.env) fp) c0 is tg as) (his : ∀ i ∈ is, i ∈ own.map (·.2))
    (ht : ∀ (s : Shared) (H : Hp) (C : Addr) (cl : List (Str × Addr)) (fp : List Addr), MPT (X.blk s H scope (compEnvC scope cl C X.env) fp) c0 ifs et)
    (he : ∀ (s : Shared) (H : Hp) (C : Addr) (cl : List (Str × Addr)) (fp : List Addr), ME (X.blk s H scope (compEnvC scope cl C X.env) fp) c0 elt ee)
    (hf0 : i ∉ fxi := by decide) (hy : X.N[i]? = some y := by rfl) (hyl : X.env.scope.names.lookup y = some .local := by rfl)
    (hs : ∀ x, foldedSetIterable iter X.env x = pure x := by intro _; rfl) : MS X c (.Assign [.Name y py] (.ListComp elt [⟨tg, iter, ifs, 0⟩] scope pos) spos) (sSet i (eLc (own.map (·.2)) ei as et ee)) :=
  PS.weak (ps_setLc (g := tG3 X c0 is as) (tt := tT X c0 et) (te := tE X c0 ee) hc hN hy hyl hsw hi ok hg ht he hs) fun D σ H q => lc_tree his σ H _ (set_tree (by rw [hfx]; exact hf0) D σ H q)
end
end L3

/-! L3j: displays, several stores at once, stores into lists, list methods. -/
namespace L3
open PySem PySem.Spec PyProof.Rows L2

section
variable {K : PySem.W.Frag} {c : Q3} {B B1 : Addr → Prop} {H H1 : Hp} {s s' : S} {σ : St} {as : List Ag} {us : List V} {fp g : List Addr}
/-- a slot's value taken out, beside other arguments -/
theorem GT.takeG {i : Nat} {x : Vl} (G : GT K c B H s σ as us fp g) (e : s[i]? = some x) (hx : x ≠ .hole) :
    ∃ u fp' f, σ[i]? = some (some u) ∧ GT K c B H (s.set i .hole) σ (.v x :: as) (u :: us) fp' (f ++ g) ∧ (∀ a, a ∈ fp' ++ (f ++ g) ↔ a ∈ fp ++ g) ∧ (s.set i .hole)[i]? = some .hole := by
  obtain ⟨o, p, f, q, e1, e2, r, _⟩ := G.rs.get e
  obtain ⟨p', f', q', e2', r', st⟩ := G.rs.put e e1
  have hi : i < s.length := (List.getElem?_eq_some_iff.mp e).1
  have nd := G.nd
  have ow := G.own
  have ar := G.ar
  rcases r' with ⟨z, _⟩ | ⟨u, rfl, r'⟩
  · exact absurd z hx
  · subst e2'
    refine ⟨u, p' ++ [] ++ q', f', e1, ⟨st .hole [] (.inl ⟨rfl, rfl⟩), ?_, ?_, fun a ha => ow a ?_, G.dom, G.fix⟩, fun a => ?_, by rw [List.getElem?_set_self hi]⟩
    · simp only [AR]
      exact ⟨u, us, f', g, rfl, rfl, r', ar⟩
    · clear ar
      simp only [List.append_nil, List.nodup_append, List.mem_append] at nd ⊢
      grind
    · simp only [List.append_nil, List.mem_append] at ha ⊢
      grind
    · simp only [List.append_nil, List.mem_append]
      grind
/-- a name is stored, beside what is held -/
theorem GT.storeR {i : Nat} {x y : Vl} {u : V} {f : List Addr} (G : GT K c B H s σ [] [] fp []) (r : Rep K B H x u f) (nd : (fp ++ f).Nodup) (ow : ∀ a ∈ f, B a) (e : s[i]? = some y) (hi : i ∉ c.fx.map (·.1)) :
    ∃ fp', GT K c B H (s.set i x) (σ.set i (some u)) [] [] fp' [] ∧ ∀ a ∈ fp', a ∈ fp ++ f :=
  GT.store (g := f) ⟨G.rs, .one r, nd, fun a h => (List.mem_append.mp h).elim (G.ownF a) (ow a), G.dom, G.fix⟩ e hi
end

/-- all of them, as they are kept; z: from now on changed by nobody -/
@[simp] def valAll (z : Bool) : S → List Ag → Option (List Vl × S)
  | s, [] => some ([], s)
  | s, a :: as => match toV s a with
    | some (x, s1) => match valAll z s1 as with
      | some (xs, s2) => some ((if z then fz x else x) :: xs, s2)
      | none => none
    | none => none
section
variable {K : PySem.W.Frag} {c : Q3} {B B1 : Addr → Prop} {H H1 : Hp} {s s' : S} {σ : St} {fp g : List Addr}
theorem valAll_ok {z : Bool} : ∀ {as : List Ag} {us : List V} {s s' : S} {xs : List Vl} {B : Addr → Prop} {fp g : List Addr}, GT K c B H s σ as us fp g → valAll z s as = some (xs, s') →
    ∃ B' fp' g', Stp (fp ++ g) H B H B' ∧ (∀ b ∈ fp' ++ g', b ∈ fp ++ g) ∧ GT K c B' H s' σ [] [] fp' [] ∧ RepL K B' H xs us g' ∧ (fp' ++ g').Nodup ∧ (∀ b ∈ g', B' b) ∧ (z = true → g' = [])
  | [], us, s, s', xs, B, fp, g, G, h => by
    simp only [valAll, Option.some.injEq, Prod.mk.injEq] at h
    obtain ⟨rfl, rfl⟩ := h
    have ar := G.ar
    simp only [AR] at ar
    obtain ⟨rfl, rfl⟩ := ar
    exact ⟨B, fp, [], .refl, fun _ h => h, G, by simp [RepL], G.nd, by simp, fun _ => rfl⟩
  | a :: as, us, s, s', xs, B, fp, g, G, h => by
    simp only [valAll] at h
    cases et : toV s a with
    | none => rw [et] at h; cases h
    | some p =>
      obtain ⟨x, s1⟩ := p
      rw [et] at h
      simp only at h
      cases ev : valAll z s1 as with
      | none => rw [ev] at h; cases h
      | some p =>
        obtain ⟨ys, s2⟩ := p
        rw [ev] at h
        simp only [Option.some.injEq, Prod.mk.injEq] at h
        obtain ⟨rfl, rfl⟩ := h
        -- the first one as a value
        have first : ∃ B1 fp1 g1 u ur, us = u :: ur ∧ Stp (fp ++ g) H B H B1 ∧ (∀ b ∈ fp1 ++ g1, b ∈ fp ++ g) ∧ GT K c B1 H s1 σ (.v x :: as) (u :: ur) fp1 g1 := by
          cases a with
          | v y =>
            simp only [toV, Option.some.injEq, Prod.mk.injEq] at et
            obtain ⟨rfl, rfl⟩ := et
            obtain ⟨u, ur, g1, g2, rfl, rfl, _⟩ := G.uncons
            exact ⟨B, fp, g1 ++ g2, u, ur, rfl, .refl, fun _ h => h, G⟩
          | «at» i =>
            obtain ⟨u, ur, g1, g2, rfl, rfl, ⟨h3, h5⟩, G2, _⟩ := G.uncons
            subst h5
            simp only [toV] at et
            cases es : s[i]? with
            | none => rw [es] at et; cases et
            | some y =>
              rw [es] at et
              have hy : y ≠ .hole := fun q => by subst q; cases et
              have e' : x = fz y ∧ s1 = s.set i (fz y) := by
                cases y <;> first | exact absurd rfl hy | (simp only [Option.some.injEq, Prod.mk.injEq] at et; exact ⟨et.1.symm, et.2.symm⟩)
              obtain ⟨rfl, rfl⟩ := e'
              obtain ⟨w, fp1, f1, e1, G3, m1, eh⟩ := G2.takeG es hy
              rw [h3] at e1
              cases e1
              obtain ⟨B', g', st, G4, m2, r2⟩ := G3.frz
              obtain ⟨fp3, g3, G5, m3⟩ := G4.fill eh h3
              rw [List.set_set] at G5
              have st' : Stp (fp ++ ([] ++ g2)) H B H B' := st.mono (fun a ha => by
                rw [List.nil_append]
                exact (m1 a).mp ha)
              refine ⟨B', fp3, [] ++ g3, u, ur, rfl, st', fun b hb => ?_, ⟨G5.rs, by simp only [AR]; exact ⟨u, ur, [], g3, rfl, rfl, r2, G5.ar⟩, by simpa using G5.nd, fun b hb => G5.own b (by simpa using hb), G5.dom, G5.fix⟩⟩
              rw [List.nil_append] at hb ⊢
              have h1 := (m3 b).mp hb
              refine (m1 b).mp ?_
              simp only [List.mem_append] at h1 ⊢
              rcases h1 with q | q
              · exact .inl q
              · have := m2 b q
                simp only [List.mem_append] at this
                exact .inr this
        obtain ⟨B1, fp1, g1, u, ur, rfl, st1, m1, G1⟩ := first
        -- kept as it is, or given up
        have second : ∃ B2 g2 gx, Stp (fp1 ++ g1) H B1 H B2 ∧ (∀ b ∈ gx ++ g2, b ∈ g1) ∧ GT K c B2 H s1 σ as ur fp1 g2 ∧ Rep K B2 H (if z then fz x else x) u gx ∧ gx.Nodup ∧ (∀ b ∈ gx, b ∉ fp1 ++ g2) ∧ (∀ b ∈ gx, B2 b) ∧ (z = true → gx = []) := by
          cases z with
          | true =>
            obtain ⟨B2, g2, st2, G2, m2, r2⟩ := G1.frz
            obtain ⟨u', ur', h1, h2, e1, e2, _, G3, _⟩ := G2.uncons
            simp only [List.cons.injEq] at e1
            obtain ⟨rfl, rfl⟩ := e1
            subst e2
            exact ⟨B2, h2, [], st2, fun b hb => m2 b (by simp at hb ⊢; exact .inr hb), G3, r2, by simp, by simp, by simp, fun _ => rfl⟩
          | false =>
            obtain ⟨u', ur', h1, h2, e1, e2, h3, G3, dj, nd, ow⟩ := G1.uncons
            simp only [List.cons.injEq] at e1
            obtain ⟨rfl, rfl⟩ := e1
            subst e2
            exact ⟨B1, h2, h1, .refl, fun b hb => hb, G3, h3, nd, dj, ow, fun q => by cases q⟩
        obtain ⟨B2, g2, gx, st2, m2, G2, rx, ndx, djx, owx, zx⟩ := second
        obtain ⟨B3, fp3, g3, st3, m3, G3, r3, nd3, ow3, z3⟩ := valAll_ok G2 ev
        have fr1 : Fresh (fp ++ g) H (fp1 ++ g1) := fun b hb => .inl (m1 b hb)
        have fr2 : Fresh (fp1 ++ g1) H (fp1 ++ g2) := fun b hb => .inl (by
          rcases List.mem_append.mp hb with q | q
          · simp [q]
          · simp [m2 b (by simp [q])])
        have djx' : ∀ b ∈ gx, b ∉ fp1 ++ g2 := djx
        refine ⟨B3, fp3, gx ++ g3, (st1.trans fr1 st2).trans (Fresh.trans st1 fr1 fr2) st3, fun b hb => ?_, G3, ?_, ?_, fun b hb => ?_, fun q => by rw [zx q, z3 q]; rfl⟩
        · have : b ∈ fp1 ++ g1 := by
            rcases List.mem_append.mp hb with q | q
            · have := m3 b (by simp [q])
              rcases List.mem_append.mp this with y | y
              · simp [y]
              · simp [m2 b (by simp [y])]
            · rcases List.mem_append.mp q with y | y
              · simp [m2 b (by simp [y])]
              · have := m3 b (by simp [y])
                rcases List.mem_append.mp this with w | w
                · simp [w]
                · simp [m2 b (by simp [w])]
          exact m1 b this
        · simp only [RepL]
          exact ⟨u, ur, gx, g3, rfl, rfl, rx.frame st3 G2.own djx', r3⟩
        · have h1 := List.nodup_append.mp nd3
          refine List.nodup_append.mpr ⟨h1.1, List.nodup_append.mpr ⟨ndx, h1.2.1, fun a ha b hb ee => ?_⟩, fun a ha b hb ee => ?_⟩
          · subst ee
            exact djx a ha (m3 a (by simp [hb]))
          · subst ee
            rcases List.mem_append.mp hb with q | q
            · exact djx a q (m3 a (by simp [ha]))
            · exact h1.2.2 a ha a q rfl
        · rcases List.mem_append.mp hb with q | q
          · exact ((st3.keep b (djx b q) (G2.dom b (owx b q))).2).mpr (owx b q)
          · exact ow3 b q
end
def eTup (ea : S → Out (List Ag)) : S → Out Ag := fun s => (ea s).bind fun as s1 => match valAll true s1 as with
  | some (xs, s2) => if xs.length ≤ sizeLine then .ok (.v (.tup xs)) s2 else .no
  | none => .no
def eLst (ea : S → Out (List Ag)) : S → Out Ag := fun s => (ea s).bind fun as s1 => match valAll true s1 as with
  | some (xs, s2) => if xs.length ≤ sizeLine then .ok (.v (.lst true xs)) s2 else .no
  | none => .no
section
variable {X : Cx} {c : Q3}
theorem me_tup {es : List Expr} {k : Nat} {pos : Pos} {ea : S → Out (List Ag)} (h : MA X c es ea) : ME X c (.Tuple es k pos) (eTup ea) := by
  refine PE.weak (pe_tup h) fun σ H Q q => ?_
  obtain ⟨B, s, fp, G, q⟩ := q
  refine tA_one G q fun as s1 us H1 B1 fp1 g1 st fr G1 q => ?_
  cases ev : valAll true s1 as with
  | none => rw [ev] at q; exact q.elim
  | some p =>
    obtain ⟨xs, s2⟩ := p
    rw [ev] at q
    obtain ⟨B2, fp2, g2, st2, m2, G2, r2, nd2, ow2, z2⟩ := valAll_ok G1 ev
    have := z2 rfl
    subst this
    simp only at q
    by_cases hl : xs.length ≤ sizeLine
    · rw [if_pos hl] at q
      refine ⟨by rw [← r2.length]; exact hl, fun p hp => ?_⟩
      have fr2 : Fresh fp H (fp2 ++ []) := fun b hb => fr b (m2 b hb)
      exact Aft.tup (Aft.of (st.trans fr st2) fr2 G2 q) G2.dom r2 hp
    · rw [if_neg hl] at q; exact q.elim
theorem me_list {es : List Expr} {pos : Pos} {ea : S → Out (List Ag)} (h : MA X c es ea) : ME X c (.List es pos) (eLst ea) := by
  refine PE.weak (pe_lst h) fun σ H Q q => ?_
  obtain ⟨B, s, fp, G, q⟩ := q
  refine tA_one G q fun as s1 us H1 B1 fp1 g1 st fr G1 q => ?_
  cases ev : valAll true s1 as with
  | none => rw [ev] at q; exact q.elim
  | some p =>
    obtain ⟨xs, s2⟩ := p
    rw [ev] at q
    obtain ⟨B2, fp2, g2, st2, m2, G2, r2, nd2, ow2, z2⟩ := valAll_ok G1 ev
    have := z2 rfl
    subst this
    simp only at q
    by_cases hl : xs.length ≤ sizeLine
    · rw [if_pos hl] at q
      refine ⟨by rw [← r2.length]; exact hl, fun p hp => ?_⟩
      have fr2 : Fresh fp H (fp2 ++ []) := fun b hb => fr b (m2 b hb)
      exact Aft.lst (Aft.of (st.trans fr st2) fr2 G2 q) G2.dom r2 hp
    · rw [if_neg hl] at q; exact q.elim
end

/-! ### a, b = x, y -/
def sPar (i j : Nat) (ea : S → Out (List Ag)) : S → Out Fl := fun s => (ea s).bind fun as s1 => match valAll false s1 as with
  | some ([x, y], s2) => if i < s2.length ∧ j < s2.length then .ok .nx ((s2.set i x).set j y) else .no
  | _ => .no
section
variable {X : Cx} {c : Q3}
theorem ms_par {i j : Nat} {x y : Str} {a b : Expr} {ea : S → Out (List Ag)} {px py pt pos : Pos} {kt k2 pt2} (hc : X.calm = true) (hN : X.N.Nodup) (hij : i ≠ j) (hfi : i ∉ c.fx.map (·.1)) (hfj : j ∉ c.fx.map (·.1)) (ha : MA X c [a, b] ea)
    (hw : swappedStores [.Tuple [.Name x px, .Name y py] kt pt] (.Tuple [a, b] k2 pt2) X.env = pure (some [x, y])) (hi : X.N[i]? = some x := by rfl) (hj : X.N[j]? = some y := by rfl)
    (hx : X.env.scope.names.lookup x = some .local := by rfl) (hy : X.env.scope.names.lookup y = some .local := by rfl)
    (hs : swapsWithSole [.Tuple [.Name x px, .Name y py] kt pt] (.Tuple [a, b] k2 pt2) pos.line X.env = pure false := by rfl) :
    MS X c (.Assign [.Tuple [.Name x px, .Name y py] kt pt] (.Tuple [a, b] k2 pt2) pos) (sPar i j ea) := by
  refine PS.weak (ps_par hc hN hi hj hij hx hy ha hw hs) fun D σ H q => ?_
  obtain ⟨B, s, fp, G, q⟩ := q
  refine tA_one G q fun as s1 us H1 B1 fp1 g1 st fr G1 q => ?_
  cases ev : valAll false s1 as with
  | none => rw [ev] at q; exact q.elim
  | some p =>
    obtain ⟨xs, s2⟩ := p
    rw [ev] at q
    obtain ⟨B2, fp2, g2, st2, m2, G2, r2, nd2, ow2, _⟩ := valAll_ok G1 ev
    match xs, q, r2 with
    | [], q, _ => exact q.elim
    | [_], q, _ => exact q.elim
    | _ :: _ :: _ :: _, q, _ => exact q.elim
    | [v1, v2], q, r2 =>
      simp only at q
      by_cases hl : i < s2.length ∧ j < s2.length
      · rw [if_pos hl] at q
        simp only [RepL] at r2
        obtain ⟨u1, ur, f1, h1, e1, e2, r1, u2, ur2, f2, h2, e3, e4, rr2, e5, e6⟩ := r2
        subst e5 e6 e3 e1 e4 e2
        refine ⟨u1, u2, rfl, ?_⟩
        rw [List.append_nil] at nd2 ow2 m2
        obtain ⟨y1, hy1⟩ : ∃ y1, s2[i]? = some y1 := ⟨_, List.getElem?_eq_getElem hl.1⟩
        obtain ⟨fp3, G3, m3⟩ := G2.storeR r1 (by
          simp only [List.nodup_append, List.mem_append] at nd2 ⊢
          grind) (fun b hb => ow2 b (by simp [hb])) hy1 hfi
        obtain ⟨y2, hy2⟩ : ∃ y2, (s2.set i v1)[j]? = some y2 := ⟨_, List.getElem?_eq_getElem (by simpa using hl.2)⟩
        have nf := List.nodup_append.mp nd2
        have nf2 := List.nodup_append.mp nf.2.1
        obtain ⟨fp4, G4, m4⟩ := G3.storeR rr2 (List.nodup_append.mpr ⟨by simpa using G3.nd, by simpa using nf2.2.1, fun a ha b hb ee => by
          subst ee
          rcases List.mem_append.mp (m3 a ha) with z | z
          · exact nf.2.2 a z a (by simp [hb]) rfl
          · exact nf2.2.2 a z a (by simp [hb]) rfl⟩) (fun b hb => ow2 b (by simp [hb])) hy2 hfj
        refine q _ H1 B2 fp4 (st.trans fr st2) (fun b hb => fr b (m2 b ?_)) G4
        have h4 := m4 b hb
        simp only [List.mem_append] at h4 m3 ⊢
        rcases h4 with z | z
        · rcases m3 b z with y | y
          · exact .inl y
          · exact .inr (.inl y)
        · exact .inr (.inr z)
      · rw [if_neg hl] at q; exact q.elim
end

/-! ### a list in a slot changes -/
section
variable {K : PySem.W.Frag} {c : Q3} {B : Addr → Prop} {H : Hp} {s : S} {σ : St} {fp : List Addr}
theorem GT.chg {i : Nat} {xs : List Vl} (G : GT K c B H s σ [] [] fp []) (e : s[i]? = some (.lst true xs)) :
    ∃ a us g, σ[i]? = some (some (.ref a)) ∧ H a = some (.lst us) ∧ RepL K B H xs us g ∧ a ∉ g ∧ a ∈ fp ∧ (∀ b ∈ g, b ∈ fp) ∧
      ∀ xs' us' g', RepL K B H xs' us' g' → g'.Sublist g → ∃ fp', GT K c B (upd H a (.lst us')) (s.set i (.lst true xs')) σ [] [] fp' [] ∧ (∀ b ∈ fp', b ∈ fp) ∧ Stp fp H B (upd H a (.lst us')) B := by
  obtain ⟨o, p, f, q, e1, e2, r, _⟩ := G.rs.get e
  obtain ⟨p', f', q', e2', r', st⟩ := G.rs.put e e1
  have nd := G.nd
  have ow := G.own
  rcases r' with ⟨z, _⟩ | ⟨u, rfl, r'⟩
  · cases z
  · simp only [Rep] at r'
    obtain ⟨a, us, g, rfl, rfl, hH, rl⟩ := r'
    subst e2'
    have ha : a ∉ g ∧ a ∉ p' ∧ a ∉ q' := by
      simp only [List.append_nil, List.nodup_append, List.mem_append, List.nodup_cons, List.mem_cons] at nd
      grind
    refine ⟨a, us, g, e1, hH, rl, ha.1, by simp, fun b hb => by simp [hb], fun xs' us' g' r2 sb => ?_⟩
    have stD : Stp [a] H B (upd H a (.lst us')) B := ⟨fun b hb hn => ⟨upd_ne (by simpa using hb), Iff.rfl⟩, fun b hn => by
      by_cases eb : b = a
      · rw [eb, upd_same]; simp
      · rw [upd_ne eb]; exact hn⟩
    have oD : ∀ b ∈ [a], B b := fun b hb => by
      have : b = a := by simpa using hb
      subst this
      exact ow b (by simp)
    have mem1 : ∀ b ∈ p' ++ [] ++ q', b ∉ [a] := fun b hb => by
      simp only [List.append_nil, List.mem_append, List.mem_singleton] at hb ⊢
      intro z
      subst z
      rcases hb with z | z
      · exact ha.2.1 z
      · exact ha.2.2 z
    have rs1 := (st .hole [] (.inl ⟨rfl, rfl⟩)).frame stD oD mem1
    have hi : i < s.length := (List.getElem?_eq_some_iff.mp e).1
    obtain ⟨p2, f2, q2, e3, r3, st3⟩ := rs1.put (i := i) (x := .hole) (by rw [List.getElem?_set_self hi]) e1
    have hf2 : f2 = [] := by
      rcases r3 with ⟨_, z⟩ | ⟨w, _, z⟩
      · exact z
      · simpa [Rep] using z
    subst hf2
    have r4 : Rep K B (upd H a (.lst us')) (.lst true xs') (.ref a) (a :: g') := by
      simp only [Rep]
      refine ⟨a, us', g', rfl, rfl, upd_same, RepL.frame stD oD (fun b hb => ?_) r2⟩
      simp only [List.mem_singleton]
      intro z
      subst z
      exact ha.1 (sb.subset hb)
    have rs2 := st3 (.lst true xs') (a :: g') (.inr ⟨_, rfl, r4⟩)
    rw [List.set_set] at rs2
    have perm : ∀ b, b ∈ p2 ++ q2 ↔ b ∈ p' ++ q' := fun b => by
      have := congrArg (b ∈ ·) e3
      simp only [List.append_nil, List.mem_append, eq_iff_iff] at this ⊢
      exact this.symm
    have nd2 : (p2 ++ q2).Nodup := by
      have h1 : (p' ++ q').Nodup := by
        simp only [List.append_nil, List.nodup_append, List.mem_append, List.nodup_cons, List.mem_cons] at nd ⊢
        grind
      have h2 : p' ++ q' = p2 ++ q2 := by simpa using e3
      rw [← h2]; exact h1
    have ndg : (a :: g').Nodup := by
      have h1 : (a :: g).Nodup := by
        simp only [List.append_nil, List.nodup_append, List.mem_append, List.nodup_cons, List.mem_cons] at nd ⊢
        grind
      exact (sb.cons_cons a).nodup h1
    have dj : ∀ b ∈ a :: g', b ∉ p2 ++ q2 := fun b hb z => by
      have z' := (perm b).mp z
      have hb' : b ∈ a :: g := (sb.cons_cons a).subset hb
      simp only [List.append_nil, List.nodup_append, List.mem_append, List.nodup_cons, List.mem_cons] at nd hb' z'
      grind
    have sub : ∀ b, b ∈ p2 ++ (a :: g') ++ q2 → b ∈ p' ++ (a :: g) ++ q' := fun b hb => by
      have h1 := perm b
      simp only [List.mem_append] at hb h1 ⊢
      rcases hb with (z | z) | z
      · rcases h1.mp (.inl z) with y | y
        · exact .inl (.inl y)
        · exact .inr y
      · exact .inl (.inr ((sb.cons_cons a).subset z))
      · rcases h1.mp (.inr z) with y | y
        · exact .inl (.inl y)
        · exact .inr y
    refine ⟨p2 ++ (a :: g') ++ q2, ⟨rs2, by simp [AR], ?_, fun b hb => ow b ?_, fun b hb => stD.there b (G.dom b hb), G.fix⟩, fun b hb => ?_, stD.mono (by simp)⟩
    · rw [List.append_nil]
      refine nodup_put (f := []) (by simpa using nd2) ndg fun b hb => ?_
      have := dj b hb
      simp only [List.mem_append, not_or] at this
      exact this
    · have := sub b (by simpa only [List.append_nil] using hb)
      simpa only [List.append_nil] using this
    · exact sub b hb
end
end L3

/-! L3k: slices, chains, built-in functions. -/
namespace L3
open PySem PySem.Spec PyProof.Rows L2

/-! ### t[::-1] -/
section
variable {prog : Program} {w : World} {A : Around} {E : Value → Shared → Prop} {s : Shared}
theorem places_rev (n : Nat) : Builtin.Slice.slicePlaces ((n : Int) - 1) (-1) (-1) = n := by
  unfold Builtin.Slice.slicePlaces
  have h1 : ¬ ((-1 : Int) > 0) := by decide
  simp only [h1, if_false]
  by_cases h : (n : Int) - 1 > -1
  · rw [if_pos h, show (- -1 : Int) = 1 by decide, Int.ediv_one]
    omega
  · rw [if_neg h]
    omega
theorem sliceApplied_rev {sl : Addr} {vl vu vs : Value} {n : Nat} {Q : Int × Int × Nat → Shared → Prop} (hs : s.heap.IsSliceOf sl vl vu vs) (pl : IsPart vl none) (pu : IsPart vu none) (pk : IsPart vs (some (-1)))
    (h : Q ((n : Int) - 1, -1, n) s) : wpAny (model prog w) A (Builtin.Slice.sliceApplied (.ref sl) (pure (n : Int))) Q E s := by
  obtain ⟨os, hos, hcs, hds⟩ := id hs
  unfold Builtin.Slice.sliceApplied Builtin.Slice.sliceFields
  refine wpAny_bind (wpAny_bind (wpAny_field hos hds (x := vl) rfl (wpAny_bind (wpAny_field hos hds (x := vu) rfl (wpAny_bind (wpAny_field hos hds (x := vs) rfl (wpAny_pure ?_)))))))
  refine wpAny_bind (HT.slicePart_ pk ?_)
  show wpAny _ _ (if ((-1 : Int) == 0) = true then _ else _) _ _ s
  rw [if_neg (by decide)]
  refine wpAny_bind (HT.slicePart_ pl (wpAny_bind (HT.slicePart_ pu (wpAny_bind (wpAny_pure ?_)))))
  show wpAny _ _ (match Builtin.Slice.sliceAdjust none none (-1) (n : Int) with | (lo, hi) => pure (lo, (-1 : Int), Builtin.Slice.slicePlaces lo hi (-1))) _ _ s
  rw [show Builtin.Slice.sliceAdjust none none (-1) (n : Int) = ((n : Int) - 1, -1) from rfl]
  show wpAny _ _ (pure ((n : Int) - 1, (-1 : Int), Builtin.Slice.slicePlaces ((n : Int) - 1) (-1) (-1))) _ _ s
  rw [places_rev]
  exact wpAny_pure h
theorem filterMap_same {α β : Type} {f g : α → Option β} : ∀ {l : List α}, (∀ a ∈ l, f a = g a) → l.filterMap f = l.filterMap g
  | [], _ => rfl
  | a :: l, h => by
    rw [List.filterMap_cons, List.filterMap_cons, h a (by simp), filterMap_same (fun b hb => h b (by simp [hb]))]
theorem pick_rev (xs : Array Value) : ((List.range xs.size).filterMap fun (m : Nat) => xs[(((xs.size : Int) - 1) + (m : Int) * (-1)).toNat]?).toArray = xs.toList.reverse.toArray := by
  have e : (List.range xs.size).filterMap (fun (m : Nat) => xs[(((xs.size : Int) - 1) + (m : Int) * (-1)).toNat]?) = ((List.range xs.size).map fun k => xs.size - 1 - k).filterMap (xs[·]?) := by
    rw [List.filterMap_map]
    refine filterMap_same fun m hm => ?_
    have := List.mem_range.mp hm
    have : (((xs.size : Int) - 1) + (m : Int) * (-1)).toNat = xs.size - 1 - m := by omega
    show _ = xs[xs.size - 1 - m]?
    rw [this]
  rw [e, PySem.W.krv_range, List.filterMap_reverse, PySem.W.krv_all]
theorem getItem_tuple_rev {t sl : Addr} {items : Array Value} {vl vu vs : Value} {Q : Value → Shared → Prop} (ht : IsTup s.heap t items) (hs : s.heap.IsSliceOf sl vl vu vs) (pl : IsPart vl none) (pu : IsPart vu none) (pk : IsPart vs (some (-1)))
    (h : Q (.ref s.heap.objs.size) { s with heap := s.heap.push { cls := .type "tuple", data := .seq items.toList.reverse.toArray } })
    (hsz : items.size ≤ sizeLine) : wpAny (model prog w) A (getItem (.ref t) (.ref sl)) Q E s := by
  have htake : sizeOk (.seq items.toList.reverse.toArray) := by
    show items.toList.reverse.toArray.size ≤ sizeLine
    rw [List.size_toArray, List.length_reverse, Array.length_toList]
    exact hsz
  obtain ⟨os, hos, hcs, hds⟩ := id hs
  have hTs : s.TypeIs (.ref sl) "slice" := ⟨os, hos, hcs⟩
  unfold getItem
  try with_reducible refine wpAny_holding ?_
  first | refine wpAny_bind (wpAny_pure ?_) | skip
  refine wpAny_bind (wpAny_sequenceKey ht.typeIs (by decide) ?_)
  refine wpAny_bind (wpAny_callSpecial?_slot (name := Str.ofString "__getitem__") ht.typeIs PyProof.Rows.slot_tuple_getitem
    (wpAny_call_entry PyProof.Rows.slot_tuple_getitem ht.typeIs entry_tuple_getitem ?_ (args_tuple_getitem _ _)))
  show wpAny _ _ (Builtin.Tuple.tupleItemsOf (.ref t) >>= _) _ _ s
  refine wpAny_bind (tupleItemsOf_ ht ?_)
  refine wpAny_bind (wpAny_typeOf hTs ?_)
  rw [if_pos (by decide)]
  refine wpAny_bind (sliceApplied_rev hs pl pu pk ?_)
  have hno : ¬ (((((items.size : Int) - 1) == 0 && (-1 : Int) == 1) && items.size == items.size) = true) := by
    rw [show ((-1 : Int) == 1) = false by decide, Bool.and_false, Bool.false_and]
    exact Bool.false_ne_true
  show wpAny _ _ (if ((((items.size : Int) - 1) == 0 && (-1 : Int) == 1) && items.size == items.size) = true then _ else _) _ _ s
  rw [if_neg hno, pick_rev]
  first
    | exact wpAny_bind (m := Builtin.Tuple.tupleExact _) (wpAny_newObj_type (wpAny_pure ⟨_, rfl, wpAny_pure h⟩) htake)
    | exact wpAny_bind (m := Builtin.Tuple.tupleExact _) (wpAny_newObj_type (wpAny_bind (wpAny_pure (wpAny_pure ⟨_, rfl, wpAny_pure h⟩))) htake)
    | exact wpAny_bind (wpAny_bind (m := Builtin.Tuple.tupleExact _) (wpAny_newObj_type (wpAny_pure (wpAny_pure ⟨_, rfl, wpAny_pure h⟩)) htake))
    | exact wpAny_bind (wpAny_bind (m := Builtin.Tuple.tupleExact _) (wpAny_newObj_type (wpAny_pure ⟨_, rfl, wpAny_pure h⟩) htake))
end
/-- x[::-1] of a list or a tuple -/
def rRev (K : PySem.W.Frag) : V → Hp → VK → Prop := fun x H1 Q => ∃ a xs, x = .ref a ∧ ((SqL K H1 a xs ∧ ∀ p, H1 p = none → Q (.ref p) (upd H1 p (.lst xs.reverse))) ∨ (SqT K H1 a xs ∧ ∀ p, H1 p = none → Q (.ref p) (upd H1 p (.tup xs.reverse))))
section
variable {X : Cx}
theorem pe_revA {e : Expr} {te : TE} {k : Nat} {p1 p2 p3 pos : Pos} (he : PE X e te) : PE X (.Subscript e (.Slice none none (some (.UnaryOp .USub (.Constant (.int 1) k p1) p2)) p3) pos) (tUn (rRev X.K) te) := by
  refine ⟨fun pins s σ H Q I h => ?_⟩
  refine Subscript_ (thn (he.run pins s σ H _ I h) fun v s1 ⟨x, H1, I1, r1, q1⟩ => ?_)
  obtain ⟨a, xs, ex, q⟩ := q1
  subst ex
  cases r1
  have hst : PO X (some (.UnaryOp .USub (.Constant (.int 1) k p1) p2)) (tPart (tUn (rU fun i => .int (-i)) (tC (.int 1)))) := po_some (pe_un un_neg pe_int)
  refine wpAny_Slice (thn (po_none.run pins s1 σ H1 (fun o H2 => o = none ∧ H2 = H1) I1 ⟨rfl, rfl⟩) fun vl s2 ⟨l, H2, I2, pl, el, e2⟩ => ?_)
  subst el e2
  refine thn (po_none.run pins s2 σ H2 (fun o H3 => o = none ∧ H3 = H2) I2 ⟨rfl, rfl⟩) fun vu s3 ⟨u, H3, I3, pu, eu, e3⟩ => ?_
  subst eu e3
  refine thn (hst.run pins s3 σ H3 (fun o H4 => o = some (-1) ∧ H4 = H3) I3 ⟨1, rfl, -1, rfl, rfl, rfl⟩) fun vs s4 ⟨o, H4, I4, ps, eo, e4⟩ => ?_
  subst eo e4
  have I5 : Inv X pins σ H4 { s4 with heap := s4.heap.push { cls := .type "slice", data := .fields #[vl, vu, vs] } } := I4.kept (t' := s4.toks) fun b ob q => Heap.get?_push_of_some _ q
  show wpAny (model X.prog X.w) X.A (subscriptTail e (.Slice none none (some (.UnaryOp .USub (.Constant (.int 1) k p1) p2)) p3) (.ref a) (.ref s4.heap.objs.size)) (EP X pins σ Q) X.xe { s4 with heap := s4.heap.push { cls := .type "slice", data := .fields #[vl, vu, vs] } }
  rcases q with ⟨hx, q⟩ | ⟨hx, q⟩
  · obtain ⟨its, r, ht, hz⟩ := I5.list hx
    have hlen := r.length
    refine tail_any (ops := [.ref a, .ref s4.heap.objs.size]) ht.isList.typeIs (PySem.slot_list_getitem.lookup) ?_ (by with_unfolding_all rfl)
    refine wpAny_getItem_list_slice ht.isList (Heap.IsSliceOf.new _ vl vu vs) pl pu ps (by decide) ?_ (by rw [List.size_toArray]; omega)
    rw [PySem.W.krv_pick]
    refine ⟨.ref _, _, I5.laid (t' := s4.toks) (o := .lst xs.reverse) (fun b ob q => Heap.get?_push_of_some _ q) (Nat.le_refl _) ?_, rfl, q _ (I5.hok.fresh (Nat.le_refl _))⟩
    exact ⟨by rw [List.length_reverse]; exact hz, _, 0, r.reverse, Heap.get?_push_size _ rfl⟩
  · obtain ⟨its, r, ht, hz⟩ := I5.tuple hx
    have hlen := r.length
    refine tail_any (ops := [.ref a, .ref s4.heap.objs.size]) ht.typeIs (PyProof.Rows.slot_tuple_getitem.lookup) ?_ (by with_unfolding_all rfl)
    refine getItem_tuple_rev ht (Heap.IsSliceOf.new _ vl vu vs) pl pu ps ?_ (by rw [List.size_toArray]; omega)
    refine ⟨.ref _, _, I5.laid (t' := s4.toks) (o := .tup xs.reverse) (fun b ob q => Heap.get?_push_of_some _ q) (Nat.le_refl _) ?_, rfl, q _ (I5.hok.fresh (Nat.le_refl _))⟩
    exact ⟨by rw [List.length_reverse]; exact hz, _, r.reverse, IsTup.new _ _⟩
end
@[simp] def revV (x : Vl) : Option Vl := match x with
  | .lst _ xs => if PurL xs = true then some (.lst true xs.reverse) else none
  | .tup xs => some (.tup xs.reverse)
  | .sc ns => some (.lst true (ns.reverse.map Vl.int))
  | _ => none
section
variable {K : PySem.W.Frag} {B : Addr → Prop} {H : Hp}
theorem RepL.ints : ∀ (ns : List Int), RepL K B H (ns.map Vl.int) (ns.map V.int) []
  | [] => by simp [RepL]
  | n :: ns => by
    simp only [List.map_cons, RepL]
    exact ⟨_, _, [], [], rfl, rfl, by simp [Rep], RepL.ints ns⟩
theorem Rep.scU {ns : List Int} {u : V} {f : List Addr} (h : Rep K B H (.sc ns) u f) : ∃ a, u = .ref a ∧ SqL K H a (ns.map V.int) := by
  simp only [Rep] at h
  obtain ⟨rfl, a, rfl, q⟩ := h
  exact ⟨a, rfl, q.sq⟩
theorem Rep.lstQ {o : Bool} {xs : List Vl} {u : V} {f : List Addr} (h : Rep K B H (.lst o xs) u f) (p : PurL xs = true) : ∃ a us, u = .ref a ∧ SqL K H a us ∧ RepL K B H xs us [] := by
  obtain ⟨a, us, e, h, r⟩ := h.lstP p
  exact ⟨a, us, e, .of h, r⟩
theorem pk_rev : Pk1 K (rRev K) revV := by
  intro B H x u fx Q z dom r1 hz aft
  unfold revV at hz
  split at hz
  · split at hz
    · rename_i hp
      cases hz
      obtain ⟨a, us, rfl, q, r⟩ := r1.lstQ hp
      exact ⟨a, us, rfl, .inl ⟨q, fun p hn => aft.lst dom r.reverse hn⟩⟩
    · cases hz
  · cases hz
    obtain ⟨a, us, rfl, q, r⟩ := r1.tupU
    exact ⟨a, us, rfl, .inr ⟨q, fun p hn => aft.tup dom r.reverse hn⟩⟩
  · rename_i ns
    cases hz
    obtain ⟨a, rfl, q⟩ := r1.scU
    refine ⟨a, _, rfl, .inl ⟨q, fun p hn => ?_⟩⟩
    rw [← List.map_reverse]
    exact aft.lst dom (RepL.ints _) hn
  · cases hz
end
theorem me_rev {X : Cx} {c : Q3} {e : Expr} {ea : S → Out Ag} {k : Nat} {p1 p2 p3 pos : Pos} (he : ME X c e ea) : ME X c (.Subscript e (.Slice none none (some (.UnaryOp .USub (.Constant (.int 1) k p1) p2)) p3) pos) (e1 revV ea) := me_one (pe_revA he) pk_rev

/-! ### x[a:b] -/
def cutG {α : Type} (xs : List α) (lo hi : Option Int) : List α := (xs.drop (HT.sIx xs.length 0 lo)).take (HT.sIx xs.length xs.length hi - HT.sIx xs.length 0 lo)
abbrev OI := S → Out (Option Int)
section
variable (X : Cx) (c : Q3)
abbrev FinO (B : Addr → Prop) (H : Hp) (fp : List Addr) (σ : St) (o : Out (Option Int)) (Q : Option Int → Hp → Prop) : Prop :=
  FinG X c B H fp σ (fun b s' => ∀ H' B' fp', Stp fp H B H' B' → Fresh fp H fp' → GT X.K c B' H' s' σ [] [] fp' [] → Q b H') o
def tO3 (ev : OI) : TO := fun σ H Q => ∃ B s fp, GT X.K c B H s σ [] [] fp [] ∧ FinO X c B H fp σ (ev s) Q
def MO (e : Option Expr) (ev : OI) : Prop := PO X e (tO3 X c ev)
end
def oNone : OI := fun s => .ok none s
def oSome (ea : S → Out Ag) : OI := fun s => (ea s).bind fun a s1 => match res s1 a with | .int i => .ok (some i) s1 | _ => .no
@[simp] def slV (l h : Option Int) (x : Vl) : Option Vl := match x with
  | .lst _ xs => if PurL xs = true then some (.lst true (cutG xs l h)) else none
  | .tup xs => some (.tup (cutG xs l h))
  | .sc ns => some (.lst true ((cutG ns l h).map Vl.int))
  | _ => none
def eSl (ea : S → Out Ag) (lo hi : OI) : S → Out Ag := fun s => (ea s).bind fun a s1 => (lo s1).bind fun l s2 => (hi s2).bind fun h s3 => match slV l h (res s3 a) with | some z => .ok (.v z) s3 | none => .no
section
variable {X : Cx} {c : Q3}
theorem PO.weak {e : Option Expr} {t t' : TO} (h : PO X e t) (w : ∀ σ H Q, t' σ H Q → t σ H Q) : PO X e t' := ⟨fun pins s σ H Q I q => h.run pins s σ H Q I (w σ H Q q)⟩
theorem mo_none : MO X c none oNone := by
  refine PO.weak po_none fun σ H Q q => ?_
  obtain ⟨B, s, fp, G, q⟩ := q
  exact q H B fp .refl .refl G
theorem mo_some {e : Expr} {ea : S → Out Ag} (he : ME X c e ea) : MO X c (some e) (oSome ea) := by
  refine PO.weak (po_some he) fun σ H Q q => ?_
  obtain ⟨B, s, fp, G, q⟩ := q
  refine tE_one G q fun a s1 u H1 B1 fp1 g1 st fr G1 q => ?_
  obtain ⟨f, r⟩ := one_res G1
  split at q
  · rename_i i hi
    rw [hi] at r
    exact ⟨i, int_of r, q H1 B1 fp1 st fr.left G1.drop⟩
  · exact q.elim
theorem cut_nil {K : PySem.W.Frag} {B : Addr → Prop} {H : Hp} {xs : List Vl} {us : List V} (r : RepL K B H xs us []) (l h : Option Int) : RepL K B H (cutG xs l h) (cutV us l h) [] := by
  unfold cutG cutV
  rw [r.length]
  exact RepL.take 0 (RepL.drop r)
theorem cut_ints (ns : List Int) (l h : Option Int) : cutV (ns.map V.int) l h = (cutG ns l h).map V.int := by
  unfold cutV cutG
  rw [List.length_map, List.map_take, List.map_drop]
theorem cut_all {xs : List Vl} {l h : Option Int} (w : HT.sIx xs.length 0 l = 0 ∧ HT.sIx xs.length xs.length h = xs.length) : cutG xs l h = xs := by
  unfold cutG
  rw [w.1, w.2, List.drop_zero, Nat.sub_zero, List.take_length]
/-- two values and a third -/
theorem GT.seq0 {K : PySem.W.Frag} {B1 B2 : Addr → Prop} {H1 H2 : Hp} {s1 s2 : S} {σ : St} {fp1 g1 fp2 : List Addr} {as : List Ag} {us : List V} (G1 : GT K c B1 H1 s1 σ as us fp1 g1) (st : Stp fp1 H1 B1 H2 B2) (fr : Fresh fp1 H1 fp2) (G2 : GT K c B2 H2 s2 σ [] [] fp2 []) :
    GT K c B2 H2 s2 σ as us fp2 g1 := by
  have := G1.seq st (fp2 := fp2) (g2 := []) (by simpa using fr) G2
  simpa using this
theorem Fresh.seq0 {K : PySem.W.Frag} {B B1 : Addr → Prop} {H H1 : Hp} {s1 : S} {σ : St} {fp fp1 g1 fp2 : List Addr} {as : List Ag} {us : List V} (G1 : GT K c B1 H1 s1 σ as us fp1 g1) (st0 : Stp fp H B H1 B1) (fr0 : Fresh fp H (fp1 ++ g1)) (fr : Fresh fp1 H1 fp2) : Fresh fp H (fp2 ++ g1) := by
  have := Fresh.seq (fp2 := fp2) (g2 := []) G1 st0 fr0 (by simpa using fr)
  simpa using this
theorem me_slice {e : Expr} {lo hi : Option Expr} {ea : S → Out Ag} {el eh : OI} {pos p2 : Pos} (he : ME X c e ea) (hl : MO X c lo el) (hh : MO X c hi eh) : ME X c (.Subscript e (.Slice lo hi none p2) pos) (eSl ea el eh) := by
  refine PE.weak (pe_slice (SlR.or sl_list sl_tupA) he hl hh) fun σ H Q q => ?_
  obtain ⟨B, s, fp, G, q⟩ := q
  refine tE_one G q fun a s1 u H1 B1 fp1 g1 st fr G1 q => ?_
  refine ⟨B1, s1, fp1, G1.drop, ?_⟩
  cases e1 : el s1 with
  | no => rw [e1] at q; exact q.elim
  | er k x s' => rw [e1] at q; exact ErK.trans st fr.left q
  | ok l s2 =>
    rw [e1] at q
    intro H2 B2 fp2 st2 fr2 G2
    refine ⟨B2, s2, fp2, G2, ?_⟩
    have st12 := st.trans fr.left st2
    have fr12 := Fresh.seq0 G1 st fr fr2
    cases e2 : eh s2 with
    | no => simp only [bind_ok, e2] at q; exact q.elim
    | er k x s' => simp only [bind_ok, e2] at q; exact ErK.trans st12 fr12.left q
    | ok h s3 =>
      simp only [bind_ok, e2] at q
      intro H3 B3 fp3 st3 fr3 G3
      have G13 := (G1.seq0 st2 fr2 G2).seq0 st3 fr3 G3
      obtain ⟨f, r⟩ := one_res G13
      have st13 := st12.trans fr12.left st3
      have fr13 := Fresh.seq0 (G1.seq0 st2 fr2 G2) st12 fr12 fr3
      cases hz : slV l h (res s3 a) with
      | none => rw [hz] at q; exact q.elim
      | some z =>
        rw [hz] at q
        have aft := Aft.of st13 fr13 G13 q
        have dom := G3.dom
        unfold slV at hz
        split at hz
        · rename_i o xs hx
          rw [hx] at r
          split at hz
          · rename_i hp
            cases hz
            obtain ⟨ad, us, rfl, q, r⟩ := r.lstQ hp
            exact .inl ⟨ad, us, rfl, q, fun p hn => aft.lst dom (cut_nil r l h) hn⟩
          · cases hz
        · rename_i xs hx
          rw [hx] at r
          cases hz
          obtain ⟨ad, us, rfl, q, r'⟩ := r.tupU
          refine .inr ⟨ad, us, rfl, q, fun w => ?_, fun w p hn => aft.tup dom (cut_nil r' l h) hn⟩
          rw [← r'.length] at w
          rw [cut_all w] at aft
          have := r.pur rfl
          subst this
          exact aft.pure dom r
        · rename_i ns hx
          rw [hx] at r
          cases hz
          obtain ⟨ad, rfl, q⟩ := r.scU
          refine .inl ⟨ad, _, rfl, q, fun p hn => ?_⟩
          rw [cut_ints]
          exact aft.lst dom (RepL.ints _) hn
        · cases hz
end

/-! ### a op1 b op2 c -/
def eChain (f g : Vl → Vl → Option Vl) (ea eb ec : S → Out Ag) : S → Out Ag := fun s => (ea s).bind fun a s1 => (eb s1).bind fun b s2 => match f (res s2 a) (res s2 b) with
  | some x => (match asB x with
    | some k => if k = true then (ec s2).bind fun d s3 => match g (res s3 b) (res s3 d) with | some z => .ok (.v z) s3 | none => .no else .ok (.v (.bl false)) s2
    | none => .no)
  | none => .no
section
variable {X : Cx} {c : Q3}
/-- nothing of it is touched -/
theorem GT.fr0 {K : PySem.W.Frag} {B B' : Addr → Prop} {H H' : Hp} {s : S} {σ : St} {as : List Ag} {us : List V} {fp g : List Addr} (G : GT K c B H s σ as us fp g) (st : Stp [] H B H' B') (dom : ∀ b, B' b → H' b ≠ none) : GT K c B' H' s σ as us fp g :=
  ⟨G.rs.frame st (by simp) (by simp), G.ar.frame st (by simp) (by simp), G.nd, fun b hb => ((st.keep b (by simp) (G.dom b (G.own b hb))).2).mpr (G.own b hb), dom, G.fix⟩
theorem chain_of {r r' : R2} {f g : Vl → Vl → Option Vl} {ea eb ec : S → Out Ag} (pk : Pk2 X.K r f) (pk' : Pk2 X.K r' g) (σ : St) (H : Hp) (Q : VK) (q : tE X c (eChain f g ea eb ec) σ H Q) : tChain r r' (tE X c ea) (tE X c eb) (tE X c ec) σ H Q := by
  obtain ⟨B, s, fp, G, q⟩ := q
  refine tE_two G q fun a b s2 u w H2 B2 fp2 g2 st fr G2 q => ?_
  obtain ⟨f1, f2, r1, r2⟩ := two_res G2
  cases hz : f (res s2 a) (res s2 b) with
  | none => rw [hz] at q; exact q.elim
  | some z =>
    rw [hz] at q
    cases z with
    | bl k =>
      refine pk B2 H2 _ _ u w f1 f2 _ (.bl k) G2.dom r1 r2 hz fun v H' B' gg s3 nd own dom rz => ?_
      have := rz.pur rfl
      subst this
      rw [bl_of rz]
      have G3 := G2.fr0 s3 dom
      have st3 : Stp fp2 H2 B2 H' B' := s3.mono (by simp)
      have st03 := st.trans fr.left st3
      refine ⟨k, rfl, ?_⟩
      cases k with
      | false =>
        simp only [asB, Bool.false_eq_true, if_false] at q
        rw [if_neg (by decide)]
        have r3 : Rep X.K B' H' (.bl false) (.bl false) [] := by simp [Rep]
        exact q (.bl false) H' B' fp2 [] st03 (by simpa using fr.left) (G3.drop.val r3)
      | true =>
        simp only [asB, if_true] at q
        rw [if_pos rfl]
        refine ⟨B', s2, fp2, G3.drop, ?_⟩
        cases e3 : ec s2 with
        | no => rw [e3] at q; exact q.elim
        | er k x s' => rw [e3] at q; exact ErK.trans st03 fr.left q
        | ok d s4 =>
          rw [e3] at q
          simp only [bind_ok] at q
          intro w' H4 B4 fp4 g4 st4 fr4 G4
          have G5 := G3.seq st4 fr4 G4
          have fr5 := Fresh.seq G3 st03 fr fr4
          cases hz' : g (res s4 b) (res s4 d) with
          | none => rw [hz'] at q; exact q.elim
          | some z =>
            rw [hz'] at q
            have rp := AR.res G5.rs G5.ar
            simp only [List.cons_append, List.nil_append, List.map_cons, List.map_nil, RepP] at rp
            obtain ⟨u1, ur1, h1, e1, _, u2, ur2, h2, e2, rb, u3, ur3, h3, e3', rd, e4⟩ := rp
            subst e4 e3' e2
            simp only [List.cons.injEq, and_true] at e1
            obtain ⟨rfl, rfl, rfl⟩ := e1
            exact pk' B4 H4 _ _ _ _ _ _ Q z G4.dom rb rd hz' (Aft.of (st03.trans fr.left st4) fr5 G5 q)
    | _ => exact q.elim
theorem me_chain {op op' : CmpOp} {r r' : R2} {f g : Vl → Vl → Option Vl} {x y z : Expr} {ea eb ec : S → Out Ag} {pos : Pos} (ho : OpR X (compareOp op) r) (pk : Pk2 X.K r f) (ho' : OpR X (compareOp op') r') (pk' : Pk2 X.K r' g) (ha : ME X c x ea) (hb : ME X c y eb) (hc : ME X c z ec)
    (hm : lastMarks [op, op'] [y, z] = false := by with_unfolding_all rfl) : ME X c (.Compare x [op, op'] [y, z] pos) (eChain f g ea eb ec) := PE.weak (pe_chain ho ho' ha hb hc hm) (chain_of pk pk')
/-- a test by a bool -/
def tBl (e : S → Out Ag) : S → Out Bool := fun s => (e s).bind fun a s1 => match a with | .v (.bl b) => .ok b s1 | _ => .no
theorem test_of {T : TE} {ev : S → Out Ag} (h : ∀ σ H Q, tE X c ev σ H Q → T σ H Q) (σ : St) (H : Hp) (Q : Bool → Hp → Prop) (q : tT X c (tBl ev) σ H Q) : tTest T σ H Q := by
  refine h σ H _ ?_
  obtain ⟨B, s, fp, G, q⟩ := q
  refine tE_one G q fun a s1 u H1 B1 fp1 g1 st fr G1 q => ?_
  cases a with
  | «at» i => exact q.elim
  | v x =>
    cases x with
    | bl b =>
      obtain ⟨f, r⟩ := one_res G1
      exact ⟨b, bl_of r, q H1 B1 fp1 st fr.left G1.drop⟩
    | _ => exact q.elim
theorem mt_chain {op op' : CmpOp} {r r' : R2} {f g : Vl → Vl → Option Vl} {x y z : Expr} {ea eb ec : S → Out Ag} {pos : Pos} (ho : OpR X (compareOp op) r) (pk : Pk2 X.K r f) (ho' : OpR X (compareOp op') r') (pk' : Pk2 X.K r' g) (ha : ME X c x ea) (hb : ME X c y eb) (hc : ME X c z ec)
    (hm : lastMarks [op, op'] [y, z] = false := by with_unfolding_all rfl) : MT X c (.Compare x [op, op'] [y, z] pos) (tBl (eChain f g ea eb ec)) := PT.weak (pt_chain ho ho' ha hb hc hm) (test_of (chain_of pk pk'))
end
end L3

/-! L3l: built-in functions. -/
namespace L3
open PySem PySem.Spec PyProof.Rows L2

theorem CallR.or {X : Cx} {f : Value} {r r' : List V → Hp → VK → Prop} (h : CallR X f r) (h' : CallR X f r') : CallR X f (fun xs H Q => r xs H Q ∨ r' xs H Q) := fun pins s σ H xs us Q I rx q => q.elim (h pins s σ H xs us Q I rx) (h' pins s σ H xs us Q I rx)
section
variable {X : Cx} {c : Q3} {x : Str} {p pos : Pos} {e : Expr} {es : List Expr} {ea : S → Out (List Ag)} {id T : String} {r : List V → Hp → VK → Prop} {f : List Vl → Option Vl}
theorem me_blt (hc : CallR X (.builtin id) r) (pk : PkL X.K r f) (hm : X.mg x = none) (hv : bootBuiltins x = some (.builtin id)) (ha : MA X c (e :: es) ea) (hg : Gl X x := by rfl) (hn : x ≠ "__name__" := by decide) (hdb : (x == ("__debug__" : Str)) = false := by decide)
    (he : starEach (e :: es) X.env = (false, eval e X.env) :: starEach es X.env := by rfl) (hpl : (backTo pos (starEach es X.env)).any (·.1) = false := by rfl) : ME X c (.Call (.Name x p) (e :: es) [] pos) (eL f ea) :=
  me_lst (pe_callB hc hg hm hv ha hn hdb he hpl) pk
theorem me_bty (hc : CallR X (.type T) r) (pk : PkL X.K r f) (hm : X.mg x = none) (hv : bootBuiltins x = some (.type T)) (ha : MA X c (e :: es) ea) (hg : Gl X x := by rfl) (hn : x ≠ "__name__" := by decide) (hdb : (x == ("__debug__" : Str)) = false := by decide)
    (he : starEach (e :: es) X.env = (false, eval e X.env) :: starEach es X.env := by rfl) (hpl : (backTo pos (starEach es X.env)).any (·.1) = false := by rfl) : ME X c (.Call (.Name x p) (e :: es) [] pos) (eL f ea) :=
  me_lst (pe_callTy hc hg hm hv ha hn hdb he hpl) pk
/-- a built-in type's name -/
theorem me_ty (hm : X.mg x = none) (hv : bootBuiltins x = some (.type T)) (hg : Gl X x := by rfl) (hn : x ≠ "__name__" := by decide) (hdb : (x == ("__debug__" : Str)) = false := by decide) : ME X c (.Name x p) (eK (.raw (.ty T))) :=
  me_k (pe_bltn (v := .ty T) hg hm hv rfl hn hdb) fun _ _ => by simp [Rep]
end

def intsOf : List Vl → Option (List Int)
  | [] => some []
  | .int i :: xs => (intsOf xs).map (i :: ·)
  | _ => none
def blsOf : List Vl → Option (List Bool)
  | [] => some []
  | .bl i :: xs => (blsOf xs).map (i :: ·)
  | _ => none
theorem intsOf_eq : ∀ {xs : List Vl} {ns : List Int}, intsOf xs = some ns → xs = ns.map Vl.int
  | [], ns, h => by simp only [intsOf, Option.some.injEq] at h; subst h; rfl
  | x :: xs, ns, h => by
    cases x with
    | int i =>
      simp only [intsOf] at h
      cases e : intsOf xs with
      | none => rw [e] at h; cases h
      | some ms =>
        rw [e] at h
        simp only [Option.map_some, Option.some.injEq] at h
        subst h
        rw [intsOf_eq e]; rfl
    | _ => simp [intsOf] at h
theorem blsOf_eq : ∀ {xs : List Vl} {ns : List Bool}, blsOf xs = some ns → xs = ns.map Vl.bl
  | [], ns, h => by simp only [blsOf, Option.some.injEq] at h; subst h; rfl
  | x :: xs, ns, h => by
    cases x with
    | bl i =>
      simp only [blsOf] at h
      cases e : blsOf xs with
      | none => rw [e] at h; cases h
      | some ms =>
        rw [e] at h
        simp only [Option.map_some, Option.some.injEq] at h
        subst h
        rw [blsOf_eq e]; rfl
    | _ => simp [blsOf] at h
theorem intsOf_map : ∀ (ns : List Int), intsOf (ns.map Vl.int) = some ns
  | [] => rfl
  | n :: ns => by simp only [List.map_cons, intsOf, intsOf_map ns, Option.map_some]
theorem blsOf_map : ∀ (ns : List Bool), blsOf (ns.map Vl.bl) = some ns
  | [] => rfl
  | n :: ns => by simp only [List.map_cons, blsOf, blsOf_map ns, Option.map_some]
theorem purL_ints (ns : List Int) : PurL (ns.map Vl.int) = true := by simp [PurL, Pur]
theorem purL_bls (ns : List Bool) : PurL (ns.map Vl.bl) = true := by simp [PurL, Pur]
/-- a list of ints -/
def intsV : Vl → Option (List Int)
  | .lst _ xs => intsOf xs
  | .sc ns => some ns
  | _ => none
@[simp] def lenV : List Vl → Option Vl
  | [.lst _ xs] => some (.int xs.length)
  | [.tup xs] => some (.int xs.length)
  | [.sc ns] => some (.int ns.length)
  | [.str z] => if z.length ≤ sizeLine then some (.int z.length) else none
  | _ => none
@[simp] def absV : List Vl → Option Vl
  | [.int i] => some (.int (if i < 0 then -i else i))
  | _ => none
@[simp] def max2V : List Vl → Option Vl
  | [.int i, .int j] => some (.int (if j > i then j else i))
  | _ => none
@[simp] def min2V : List Vl → Option Vl
  | [.int i, .int j] => some (.int (if j < i then j else i))
  | _ => none
@[simp] def int1V : List Vl → Option Vl
  | [.int i] => some (.int i)
  | [.bl k] => some (.int (if k then 1 else 0))
  | _ => none
def sumV : List Vl → Option Vl
  | [x] => (intsV x).map fun ns => .int ns.sum
  | _ => none
@[simp] def allV : List Vl → Option Vl
  | [.lst _ xs] => (blsOf xs).map fun bs => .bl (bs.all id)
  | _ => none
def anyV : List Vl → Option Vl
  | [.lst _ xs] => (blsOf xs).map fun bs => .bl (bs.any id)
  | _ => none
@[simp] def tupV : List Vl → Option Vl
  | [.lst _ xs] => if PurL xs = true then some (.tup xs) else none
  | [.tup xs] => some (.tup xs)
  | [.sc ns] => some (.tup (ns.map Vl.int))
  | _ => none
@[simp] def listV : List Vl → Option Vl
  | [.lst _ xs] => if PurL xs = true then some (.lst true xs) else none
  | [.tup xs] => some (.lst true xs)
  | [.sc ns] => some (.lst true (ns.map Vl.int))
  | _ => none
@[simp] def tyN : Vl → Option String
  | .non => some "NoneType"
  | .bl _ => some "bool"
  | .int _ => some "int"
  | .str _ => some "str"
  | .tup _ => some "tuple"
  | .lst _ _ => some "list"
  | .sc _ => some "list"
  | _ => none
@[simp] def isV : List Vl → Option Vl
  | [x, .raw (.ty T)] => match tyN x with | some t => (kitB t T).map Vl.bl | none => none
  | _ => none
def reprV : List Vl → Option Vl
  | [.tup xs] => if okD 50 (.tup xs) = true then (match dt (.tup xs) with | some d => if d.showable = true ∧ d.shown.length ≤ sizeLine then some (.str d.shown) else none | none => none) else none
  | [.lst o xs] => if okD 50 (.lst o xs) = true then (match dt (.lst o xs) with | some d => if d.showable = true ∧ d.shown.length ≤ sizeLine then some (.str d.shown) else none | none => none) else none
  | _ => none
/-- the ints sorted -/
def insI (x : Int) : List Int → List Int
  | [] => [x]
  | y :: ys => if x ≤ y then x :: y :: ys else y :: insI x ys
def sortI : List Int → List Int
  | [] => []
  | x :: xs => insI x (sortI xs)
theorem insI_perm (x : Int) : ∀ xs, (insI x xs).Perm (x :: xs)
  | [] => List.Perm.refl _
  | y :: ys => by
    unfold insI
    split
    · exact List.Perm.refl _
    · exact (List.Perm.cons y (insI_perm x ys)).trans (List.Perm.swap x y ys)
theorem sortI_perm : ∀ xs, (sortI xs).Perm xs
  | [] => List.Perm.refl _
  | x :: xs => (insI_perm x _).trans (List.Perm.cons x (sortI_perm xs))
theorem insI_sorted (x : Int) : ∀ {xs}, xs.Pairwise (· ≤ ·) → (insI x xs).Pairwise (· ≤ ·)
  | [], _ => by simp [insI]
  | y :: ys, h => by
    unfold insI
    have h2 := List.pairwise_cons.mp h
    split
    · rename_i hx
      refine List.pairwise_cons.mpr ⟨fun z hz => ?_, h⟩
      rcases List.mem_cons.mp hz with e | e
      · subst e; exact hx
      · exact Int.le_trans hx (h2.1 z e)
    · rename_i hx
      refine List.pairwise_cons.mpr ⟨fun z hz => ?_, insI_sorted x h2.2⟩
      have := (insI_perm x ys).mem_iff.mp hz
      rcases List.mem_cons.mp this with e | e
      · subst e; omega
      · exact h2.1 z e
theorem sortI_sorted : ∀ xs, (sortI xs).Pairwise (· ≤ ·)
  | [] => List.Pairwise.nil
  | x :: xs => insI_sorted x (sortI_sorted xs)
theorem sorted_unique : ∀ {xs ys : List Int}, xs.Perm ys → xs.Pairwise (· ≤ ·) → ys.Pairwise (· ≤ ·) → xs = ys
  | [], ys, p, _, _ => (List.nil_perm.mp p).symm ▸ rfl
  | x :: xs, [], p, _, _ => by have := p.length_eq; simp at this
  | x :: xs, y :: ys, p, h1, h2 => by
    have a1 := List.pairwise_cons.mp h1
    have a2 := List.pairwise_cons.mp h2
    have e : x = y := by
      have m1 : x ∈ y :: ys := p.mem_iff.mp (by simp)
      have m2 : y ∈ x :: xs := p.mem_iff.mpr (by simp)
      rcases List.mem_cons.mp m1 with z | z
      · exact z
      · rcases List.mem_cons.mp m2 with w | w
        · exact w.symm
        · exact Int.le_antisymm (a1.1 y w) (a2.1 x z)
    subst e
    rw [sorted_unique ((List.perm_cons x).mp p) a1.2 a2.2]
def sortedV : List Vl → Option Vl
  | [x] => (intsV x).map fun ns => .lst true ((sortI ns).map Vl.int)
  | _ => none

section
variable {K : PySem.W.Frag} {B : Addr → Prop} {H : Hp}
theorem RepL.ints_inv : ∀ {ns : List Int} {us : List V} {f : List Addr}, RepL K B H (ns.map Vl.int) us f → us = ns.map V.int
  | [], us, f, h => by simp only [List.map_nil, RepL] at h; exact h.1
  | n :: ns, us, f, h => by
    simp only [List.map_cons, RepL] at h
    obtain ⟨u, ur, f, g, rfl, rfl, r1, r2⟩ := h
    rw [int_of r1, RepL.ints_inv r2]; rfl
theorem RepL.bls_inv : ∀ {ns : List Bool} {us : List V} {f : List Addr}, RepL K B H (ns.map Vl.bl) us f → us = ns.map V.bl
  | [], us, f, h => by simp only [List.map_nil, RepL] at h; exact h.1
  | n :: ns, us, f, h => by
    simp only [List.map_cons, RepL] at h
    obtain ⟨u, ur, f, g, rfl, rfl, r1, r2⟩ := h
    rw [bl_of r1, RepL.bls_inv r2]; rfl
theorem Rep.intsV {x : Vl} {u : V} {f : List Addr} {ns : List Int} (r : Rep K B H x u f) (e : L3.intsV x = some ns) : ∃ a, u = .ref a ∧ SqL K H a (ns.map V.int) := by
  cases x with
  | lst o xs =>
    have e := intsOf_eq (by simpa [L3.intsV] using e)
    subst e
    obtain ⟨a, us, rfl, q, r⟩ := r.lstQ (purL_ints ns)
    rw [RepL.ints_inv r] at q
    exact ⟨a, rfl, q⟩
  | sc ms =>
    simp only [L3.intsV, Option.some.injEq] at e
    subst e
    exact r.scU
  | _ => simp [L3.intsV] at e
theorem tyx_of {x : Vl} {u : V} {f : List Addr} {t : String} (r : Rep K B H x u f) (e : tyN x = some t) : TyX K H u (.type t) := by
  have ql : ∀ {a : Addr} {us : List V}, (Rd H a (.lst us) ∨ KL K a us) → TyX K H (.ref a) (.type "list") := by
    rintro a us ((h | ⟨o, h⟩) | ⟨o, its, n, h, hc, _⟩)
    · exact .base (.lst h)
    · exact .base (.frz h)
    · exact .kList h hc
  cases x with
  | non => simp only [tyN, Option.some.injEq] at e; subst e; simp only [Rep] at r; rw [r.1]; exact .base .non
  | bl b => simp only [tyN, Option.some.injEq] at e; subst e; simp only [Rep] at r; rw [r.1]; exact .base (.bl b)
  | int b => simp only [tyN, Option.some.injEq] at e; subst e; simp only [Rep] at r; rw [r.1]; exact .base (.int b)
  | str b => simp only [tyN, Option.some.injEq] at e; subst e; simp only [Rep] at r; rw [r.1]; exact .base (.str b)
  | tup xs =>
    simp only [tyN, Option.some.injEq] at e; subst e
    simp only [Rep] at r
    obtain ⟨_, a, us, rfl, q, _⟩ := r
    rcases q with ⟨h | ⟨o, h⟩, _⟩ | ⟨o, its, n, h, hc, _⟩
    · exact .base (.tup h)
    · exact .fTuple h
    · exact .kTuple h hc
  | lst o xs =>
    simp only [tyN, Option.some.injEq] at e; subst e
    cases o with
    | false =>
      simp only [Rep] at r
      obtain ⟨_, a, us, rfl, q, _⟩ := r
      exact ql (.inl (.inl q.1))
    | true =>
      simp only [Rep] at r
      obtain ⟨a, us, g, rfl, _, q, _⟩ := r
      exact ql (.inl (.inl q))
  | sc ns =>
    simp only [tyN, Option.some.injEq] at e; subst e
    simp only [Rep] at r
    obtain ⟨_, a, rfl, q⟩ := r
    rcases q with ⟨q, _⟩ | q
    · exact ql (.inl q)
    · exact ql (.inr q)
  | _ => simp [tyN] at e
end

section
variable {K : PySem.W.Frag}
theorem pk_len : PkL K (fun xs H Q => (∃ p ys, xs = [.ref p] ∧ (SqL K H p ys ∨ SqT K H p ys) ∧ Q (.int ys.length) H) ∨ ∃ z, xs = [.str z] ∧ z.length ≤ sizeLine ∧ Q (.int z.length) H) lenV := by
  intro B H xs us Q z dom r hz aft
  unfold lenV at hz
  split at hz
  · cases hz
    have r' := r.one; clear r; obtain ⟨u, f, rfl, r⟩ := r'
    obtain ⟨a, ws, rfl, q, r⟩ := r.lstU
    rw [r.length] at aft
    exact .inl ⟨a, ws, rfl, .inl q, aft.int dom⟩
  · cases hz
    have r' := r.one; clear r; obtain ⟨u, f, rfl, r⟩ := r'
    obtain ⟨a, ws, rfl, q, r⟩ := r.tupU
    rw [r.length] at aft
    exact .inl ⟨a, ws, rfl, .inr q, aft.int dom⟩
  · cases hz
    have r' := r.one; clear r; obtain ⟨u, f, rfl, r⟩ := r'
    obtain ⟨a, rfl, q⟩ := r.scU
    refine .inl ⟨a, _, rfl, .inl q, ?_⟩
    rw [List.length_map]
    exact aft.int dom
  · split at hz
    · rename_i z' hl
      cases hz
      have r' := r.one; clear r; obtain ⟨u, f, rfl, r⟩ := r'
      exact .inr ⟨z', by rw [str_of r], hl, aft.int dom⟩
    · cases hz
  · cases hz
theorem pk_abs : PkL K (fun xs H Q => ∃ i, xs = [.int i] ∧ Q (.int (if i < 0 then -i else i)) H) absV := by
  intro B H xs us Q z dom r hz aft
  unfold absV at hz
  split at hz
  · cases hz
    have r' := r.one; clear r; obtain ⟨u, f, rfl, r⟩ := r'
    exact ⟨_, by rw [int_of r], aft.int dom⟩
  · cases hz
theorem pk_max2 : PkL K (fun xs H Q => ∃ i j, xs = [.int i, .int j] ∧ Q (.int (if j > i then j else i)) H) max2V := by
  intro B H xs us Q z dom r hz aft
  unfold max2V at hz
  split at hz
  · cases hz
    have r' := r.two; clear r; obtain ⟨u, w, f, g, rfl, r, r2⟩ := r'
    exact ⟨_, _, by rw [int_of r, int_of r2], aft.int dom⟩
  · cases hz
theorem pk_min2 : PkL K (fun xs H Q => ∃ i j, xs = [.int i, .int j] ∧ Q (.int (if j < i then j else i)) H) min2V := by
  intro B H xs us Q z dom r hz aft
  unfold min2V at hz
  split at hz
  · cases hz
    have r' := r.two; clear r; obtain ⟨u, w, f, g, rfl, r, r2⟩ := r'
    exact ⟨_, _, by rw [int_of r, int_of r2], aft.int dom⟩
  · cases hz
theorem pk_int1 : PkL K (fun xs H Q => (∃ i, xs = [.int i] ∧ Q (.int i) H) ∨ ∃ k, xs = [.bl k] ∧ Q (.int (if k then 1 else 0)) H) int1V := by
  intro B H xs us Q z dom r hz aft
  unfold int1V at hz
  split at hz
  · cases hz
    have r' := r.one; clear r; obtain ⟨u, f, rfl, r⟩ := r'
    exact .inl ⟨_, by rw [int_of r], aft.int dom⟩
  · cases hz
    have r' := r.one; clear r; obtain ⟨u, f, rfl, r⟩ := r'
    exact .inr ⟨_, by rw [bl_of r], aft.int dom⟩
  · cases hz
theorem pk_sum : PkL K (rSum K) sumV := by
  intro B H xs us Q z dom r hz aft
  unfold sumV at hz
  split at hz
  · rename_i x
    cases e : intsV x with
    | none => rw [e] at hz; cases hz
    | some ns =>
      rw [e] at hz; cases hz
      have r' := r.one; clear r; obtain ⟨u, f, rfl, r⟩ := r'
      obtain ⟨a, rfl, q⟩ := r.intsV e
      exact ⟨a, ns, rfl, q, aft.int dom⟩
  · cases hz
theorem pk_sorted : PkL K (rSortedI K) sortedV := by
  intro B H xs us Q z dom r hz aft
  unfold sortedV at hz
  split at hz
  · rename_i x
    cases e : intsV x with
    | none => rw [e] at hz; cases hz
    | some ns =>
      rw [e] at hz; cases hz
      have r' := r.one; clear r; obtain ⟨u, f, rfl, r⟩ := r'
      obtain ⟨a, rfl, q⟩ := r.intsV e
      refine ⟨a, ns, rfl, q, fun ns' p pe so hn => ?_⟩
      have : ns' = sortI ns := sorted_unique (pe.trans (sortI_perm ns).symm) so (sortI_sorted ns)
      subst this
      exact aft.lst dom (RepL.ints _) hn
  · cases hz
theorem pk_all : PkL K (rAll K) allV := by
  intro B H xs us Q z dom r hz aft
  unfold allV at hz
  split at hz
  · rename_i o x
    cases e : blsOf x with
    | none => rw [e] at hz; cases hz
    | some ns =>
      rw [e] at hz; cases hz
      have r' := r.one; clear r; obtain ⟨u, f, rfl, r⟩ := r'
      have e := blsOf_eq e
      subst e
      obtain ⟨a, us, rfl, q, r⟩ := r.lstQ (purL_bls ns)
      rw [RepL.bls_inv r] at q
      exact ⟨a, ns, rfl, q, aft.bl dom⟩
  · cases hz
theorem pk_any : PkL K (rAny K) anyV := by
  intro B H xs us Q z dom r hz aft
  unfold anyV at hz
  split at hz
  · rename_i o x
    cases e : blsOf x with
    | none => rw [e] at hz; cases hz
    | some ns =>
      rw [e] at hz; cases hz
      have r' := r.one; clear r; obtain ⟨u, f, rfl, r⟩ := r'
      have e := blsOf_eq e
      subst e
      obtain ⟨a, us, rfl, q, r⟩ := r.lstQ (purL_bls ns)
      rw [RepL.bls_inv r] at q
      exact ⟨a, ns, rfl, q, aft.bl dom⟩
  · cases hz
theorem pk_tup : PkL K (fun xs H Q => ∃ p ys, xs = [.ref p] ∧ ((SqL K H p ys ∧ ∀ l, H l = none → Q (.ref l) (upd H l (.tup ys))) ∨ (SqT K H p ys ∧ Q (.ref p) H))) tupV := by
  intro B H xs us Q z dom r hz aft
  unfold tupV at hz
  split at hz
  · split at hz
    · rename_i hp
      cases hz
      have r' := r.one; clear r; obtain ⟨u, f, rfl, r⟩ := r'
      obtain ⟨a, us, rfl, q, r⟩ := r.lstQ hp
      exact ⟨a, us, rfl, .inl ⟨q, fun l hn => aft.tup dom r hn⟩⟩
    · cases hz
  · cases hz
    have r' := r.one; clear r; obtain ⟨u, f, rfl, r⟩ := r'
    have := r.pur rfl
    subst this
    obtain ⟨a, us, rfl, q, _⟩ := r.tupU
    exact ⟨a, us, rfl, .inr ⟨q, aft.pure dom r⟩⟩
  · cases hz
    have r' := r.one; clear r; obtain ⟨u, f, rfl, r⟩ := r'
    obtain ⟨a, rfl, q⟩ := r.scU
    exact ⟨a, _, rfl, .inl ⟨q, fun l hn => aft.tup dom (RepL.ints _) hn⟩⟩
  · cases hz
theorem pk_list : PkL K (fun xs H Q => ∃ p ys, xs = [.ref p] ∧ (SqL K H p ys ∨ SqT K H p ys) ∧ ∀ l, H l = none → Q (.ref l) (upd H l (.lst ys))) listV := by
  intro B H xs us Q z dom r hz aft
  unfold listV at hz
  split at hz
  · split at hz
    · rename_i hp
      cases hz
      have r' := r.one; clear r; obtain ⟨u, f, rfl, r⟩ := r'
      obtain ⟨a, us, rfl, q, r⟩ := r.lstQ hp
      exact ⟨a, us, rfl, .inl q, fun l hn => aft.lst dom r hn⟩
    · cases hz
  · cases hz
    have r' := r.one; clear r; obtain ⟨u, f, rfl, r⟩ := r'
    obtain ⟨a, us, rfl, q, r⟩ := r.tupU
    exact ⟨a, us, rfl, .inr q, fun l hn => aft.lst dom r hn⟩
  · cases hz
    have r' := r.one; clear r; obtain ⟨u, f, rfl, r⟩ := r'
    obtain ⟨a, rfl, q⟩ := r.scU
    exact ⟨a, _, rfl, .inl q, fun l hn => aft.lst dom (RepL.ints _) hn⟩
  · cases hz
theorem pk_isi : PkL K (rIsi K) isV := by
  intro B H xs us Q z dom r hz aft
  unfold isV at hz
  split at hz
  · rename_i x T
    cases e : tyN x with
    | none => rw [e] at hz; cases hz
    | some t =>
      rw [e] at hz
      simp only at hz
      cases e2 : kitB t T with
      | none => rw [e2] at hz; cases hz
      | some b =>
        rw [e2] at hz; cases hz
        have r' := r.two; clear r; obtain ⟨u, w, f, g, rfl, r, r2⟩ := r'
        simp only [Rep] at r2
        rw [r2.1]
        exact ⟨u, .ty T, .type t, .type T, b, rfl, .ty T, tyx_of r e, kit_ty e2, aft.bl dom⟩
  · cases hz
/-- repr(x) -/
def rRepr (K : PySem.W.Frag) : List V → Hp → VK → Prop := fun xs H Q => ∃ a d, xs = [.ref a] ∧ Dp K H (.ref a) d ∧ d.showable = true ∧ d.hasDict = false ∧ d.depth ≤ 50 ∧ d.shown.length ≤ sizeLine ∧ Q (.str d.shown) H
theorem cr_repr {X : Cx} (hgd : X.A.guards = some []) (hu : X.A.units + 66 < cLine) : CallR X (.builtin "repr") (rRepr X.K) := by
  intro pins s σ H xs us Q I r h
  obtain ⟨a, d, rfl, hd, h1, h2, h3, h4, q⟩ := h
  rw [Vals.ref1 r]
  obtain ⟨as, rd⟩ := Dp.reads I d (.ref a) (.ref a) hd rfl
  refine repr_of_reads' rd h1 (fun z => by rw [h2] at z; cases z) hgd (by omega) (fun _ _ e => e) (fun h' u tk hk => ?_) h4
  exact ⟨.str d.shown, H, I.kept hk, ⟨u, rfl⟩, q⟩
theorem pk_repr : PkL K (rRepr K) reprV := by
  intro B H xs us Q z dom r hz aft
  have key : ∀ x, okD 50 x = true → (match dt x with | some d => if d.showable = true ∧ d.shown.length ≤ sizeLine then some (Vl.str d.shown) else none | none => none) = some z → RepP K B H [x] us → (∀ u f, Rep K B H x u f → ∃ a, u = .ref a) → rRepr K us H Q := by
    clear r
    intro x ho hz r hr
    obtain ⟨d, e, h1, h2, h3⟩ := okD.dt ho
    rw [e] at hz
    simp only at hz
    split at hz
    · rename_i hs
      cases hz
      have r' := r.one; clear r; obtain ⟨u, f, rfl, r⟩ := r'
      obtain ⟨a, rfl⟩ := hr u f r
      exact ⟨a, d, rfl, r.dp e, hs.1, h3, h1, hs.2, aft.str dom⟩
    · cases hz
  unfold reprV at hz
  split at hz
  · rename_i xs
    split at hz
    · rename_i ho
      exact key _ ho hz r fun u f r => by obtain ⟨a, _, e, _⟩ := r.tupU; exact ⟨a, e⟩
    · cases hz
  · rename_i o xs
    split at hz
    · rename_i ho
      exact key _ ho hz r fun u f r => by obtain ⟨a, _, e, _⟩ := r.lstU; exact ⟨a, e⟩
    · cases hz
  · cases hz
end

section
variable {X : Cx} {c : Q3} {p pos : Pos} {e a b : Expr} {es : List Expr} {ea eb : S → Out Ag} {el : S → Out (List Ag)}
theorem me_len (hm : X.mg "len" = none) (ha : MA X c [e] el) (hg : Gl X "len" := by rfl) (he : starEach [e] X.env = (false, eval e X.env) :: starEach [] X.env := by rfl) : ME X c (.Call (.Name "len" p) [e] [] pos) (eL lenV el) := me_blt (CallR.or call_len_seq call_len_str) pk_len hm boot_len ha hg (by decide) (by decide) he
theorem me_abs (hm : X.mg "abs" = none) (ha : MA X c [e] el) (hg : Gl X "abs" := by rfl) (he : starEach [e] X.env = (false, eval e X.env) :: starEach [] X.env := by rfl) : ME X c (.Call (.Name "abs" p) [e] [] pos) (eL absV el) := me_blt call_abs pk_abs hm (by decide +kernel) ha hg (by decide) (by decide) he
theorem me_max2 (hc : X.calm = true) (hm : X.mg "max" = none) (ha : MA X c [a, b] el) (hg : Gl X "max" := by rfl) (he : starEach [a, b] X.env = (false, eval a X.env) :: starEach [b] X.env := by rfl) (hpl : (backTo pos (starEach [b] X.env)).any (·.1) = false := by rfl) : ME X c (.Call (.Name "max" p) [a, b] [] pos) (eL max2V el) := me_blt (call_max2 hc) pk_max2 hm (by decide +kernel) ha hg (by decide) (by decide) he hpl
theorem me_min2 (hc : X.calm = true) (hm : X.mg "min" = none) (ha : MA X c [a, b] el) (hg : Gl X "min" := by rfl) (he : starEach [a, b] X.env = (false, eval a X.env) :: starEach [b] X.env := by rfl) (hpl : (backTo pos (starEach [b] X.env)).any (·.1) = false := by rfl) : ME X c (.Call (.Name "min" p) [a, b] [] pos) (eL min2V el) := me_blt (call_min2 hc) pk_min2 hm (by decide +kernel) ha hg (by decide) (by decide) he hpl
theorem me_int1 (hm : X.mg "int" = none) (ha : MA X c [e] el) (hg : Gl X "int" := by rfl) (he : starEach [e] X.env = (false, eval e X.env) :: starEach [] X.env := by rfl) : ME X c (.Call (.Name "int" p) [e] [] pos) (eL int1V el) := me_bty call_int1 pk_int1 hm (by decide +kernel) ha hg (by decide) (by decide) he
theorem me_sum (hc : X.calm = true) (hm : X.mg "sum" = none) (ha : MA X c [e] el) (hg : Gl X "sum" := by rfl) (he : starEach [e] X.env = (false, eval e X.env) :: starEach [] X.env := by rfl) : ME X c (.Call (.Name "sum" p) [e] [] pos) (eL sumV el) := me_blt (cr_sum hc) pk_sum hm (by decide +kernel) ha hg (by decide) (by decide) he
theorem me_sorted (hm : X.mg "sorted" = none) (ha : MA X c [e] el) (hg : Gl X "sorted" := by rfl) (he : starEach [e] X.env = (false, eval e X.env) :: starEach [] X.env := by rfl) : ME X c (.Call (.Name "sorted" p) [e] [] pos) (eL sortedV el) := me_blt cr_sortedI pk_sorted hm (by decide +kernel) ha hg (by decide) (by decide) he
theorem me_all (hc : X.calm = true) (hm : X.mg "all" = none) (ha : MA X c [e] el) (hg : Gl X "all" := by rfl) (he : starEach [e] X.env = (false, eval e X.env) :: starEach [] X.env := by rfl) : ME X c (.Call (.Name "all" p) [e] [] pos) (eL allV el) := me_blt (cr_all hc) pk_all hm (by decide +kernel) ha hg (by decide) (by decide) he
theorem me_any (hc : X.calm = true) (hm : X.mg "any" = none) (ha : MA X c [e] el) (hg : Gl X "any" := by rfl) (he : starEach [e] X.env = (false, eval e X.env) :: starEach [] X.env := by rfl) : ME X c (.Call (.Name "any" p) [e] [] pos) (eL anyV el) := me_blt (cr_any hc) pk_any hm (by decide +kernel) ha hg (by decide) (by decide) he
theorem me_tupleOf (hm : X.mg "tuple" = none) (ha : MA X c [e] el) (hg : Gl X "tuple" := by rfl) (he : starEach [e] X.env = (false, eval e X.env) :: starEach [] X.env := by rfl) : ME X c (.Call (.Name "tuple" p) [e] [] pos) (eL tupV el) := me_bty call_tuple_of pk_tup hm (by decide +kernel) ha hg (by decide) (by decide) he
theorem me_listOf (hm : X.mg "list" = none) (ha : MA X c [e] el) (hg : Gl X "list" := by rfl) (he : starEach [e] X.env = (false, eval e X.env) :: starEach [] X.env := by rfl) : ME X c (.Call (.Name "list" p) [e] [] pos) (eL listV el) := me_bty call_list_of pk_list hm (by decide +kernel) ha hg (by decide) (by decide) he
theorem me_isi (hm : X.mg "isinstance" = none) (ha : MA X c [a, b] el) (hg : Gl X "isinstance" := by rfl) (he : starEach [a, b] X.env = (false, eval a X.env) :: starEach [b] X.env := by rfl) (hpl : (backTo pos (starEach [b] X.env)).any (·.1) = false := by rfl) : ME X c (.Call (.Name "isinstance" p) [a, b] [] pos) (eL isV el) := me_blt call_isi pk_isi hm (by decide +kernel) ha hg (by decide) (by decide) he hpl
theorem me_repr (hgd : X.A.guards = some []) (hu : X.A.units + 66 < cLine) (hm : X.mg "repr" = none) (ha : MA X c [e] el) (hg : Gl X "repr" := by rfl) (he : starEach [e] X.env = (false, eval e X.env) :: starEach [] X.env := by rfl) : ME X c (.Call (.Name "repr" p) [e] [] pos) (eL reprV el) := me_blt (cr_repr hgd hu) pk_repr hm (by decide +kernel) ha hg (by decide) (by decide) he
/-! ### list(range(..)), tuple(range(..)) -/
def rgC (a b : Int) : Prop := -(2 ^ 62) ≤ a ∧ a < 2 ^ 62 ∧ -(2 ^ 62) ≤ b ∧ b < 2 ^ 62 ∧ (b - a).toNat ≤ 16777216
instance {a b : Int} : Decidable (rgC a b) := by unfold rgC; infer_instance
theorem rgC.ok {a b : Int} (h : rgC a b) : RgOk a b := h
@[simp] def lrg1 (x : Vl) : Option Vl := match x with | .int n => if rgC 0 n then some (.lst true (rngL 0 n)) else none | _ => none
@[simp] def lrg2 (x y : Vl) : Option Vl := match x, y with | .int n, .int m => if rgC n m then some (.lst true (rngL n m)) else none | _, _ => none
@[simp] def trg1 (x : Vl) : Option Vl := match x with | .int n => if rgC 0 n then some (.tup (rngL 0 n)) else none | _ => none
def trg2 (x y : Vl) : Option Vl := match x, y with | .int n, .int m => if rgC n m then some (.tup (rngL n m)) else none | _, _ => none
theorem rng_rep {K : PySem.W.Frag} {B : Addr → Prop} {H : Hp} (a b : Int) : RepL K B H (rngL a b) (rgV a b) [] := by
  have e1 : rngL a b = ((List.range (b - a).toNat).map fun k => a + (k : Nat)).map Vl.int := by simp [rngL]
  have e2 : rgV a b = ((List.range (b - a).toNat).map fun k => a + (k : Nat)).map V.int := by simp [rgV]
  rw [e1, e2]
  exact RepL.ints _
theorem me_lrg1 {p2 pos2 : Pos} (hc : X.calm = true) (hm : X.mg "list" = none) (hm2 : X.mg "range" = none) (ha : ME X c a ea) (hg : Gl X "list" := by rfl) (hg2 : Gl X "range" := by rfl) (na : starEach [a] X.env = (false, eval a X.env) :: starEach [] X.env := by rfl)
    (nb : starEach [.Call (.Name "range" p2) [a] [] pos2] X.env = (false, eval (.Call (.Name "range" p2) [a] [] pos2) X.env) :: starEach [] X.env := by rfl) : ME X c (.Call (.Name "list" p) [.Call (.Name "range" p2) [a] [] pos2] [] pos) (e1 lrg1 ea) := by
  refine me_one (r := fun x H Q => ∃ n, x = .int n ∧ (RgOk 0 n ∧ ∀ q, H q = none → Q (.ref q) (upd H q (.lst (rgV 0 n))))) (pe_listRg hc hg hm (prg_1 hg2 hm2 ha na) nb) ?_
  intro B H x u fx Q z dom r1 hz aft
  unfold lrg1 at hz
  split at hz
  · split at hz
    · rename_i h
      cases hz
      exact ⟨_, int_of r1, h.ok, fun q hn => aft.lst dom (rng_rep _ _) hn⟩
    · cases hz
  · cases hz
theorem me_trg1 {p2 pos2 : Pos} (hc : X.calm = true) (hm : X.mg "tuple" = none) (hm2 : X.mg "range" = none) (ha : ME X c a ea) (hg : Gl X "tuple" := by rfl) (hg2 : Gl X "range" := by rfl) (na : starEach [a] X.env = (false, eval a X.env) :: starEach [] X.env := by rfl)
    (nb : starEach [.Call (.Name "range" p2) [a] [] pos2] X.env = (false, eval (.Call (.Name "range" p2) [a] [] pos2) X.env) :: starEach [] X.env := by rfl) : ME X c (.Call (.Name "tuple" p) [.Call (.Name "range" p2) [a] [] pos2] [] pos) (e1 trg1 ea) := by
  refine me_one (r := fun x H Q => ∃ n, x = .int n ∧ (RgOk 0 n ∧ ∀ q, H q = none → Q (.ref q) (upd H q (.tup (rgV 0 n))))) (pe_tupRg hc hg hm (prg_1 hg2 hm2 ha na) nb) ?_
  intro B H x u fx Q z dom r1 hz aft
  unfold trg1 at hz
  split at hz
  · split at hz
    · rename_i h
      cases hz
      exact ⟨_, int_of r1, h.ok, fun q hn => aft.tup dom (rng_rep _ _) hn⟩
    · cases hz
  · cases hz
theorem me_lrg2 {p2 pos2 : Pos} (hc : X.calm = true) (hm : X.mg "list" = none) (hm2 : X.mg "range" = none) (ha : ME X c a ea) (hb : ME X c b eb) (hg : Gl X "list" := by rfl) (hg2 : Gl X "range" := by rfl) (na : starEach [a, b] X.env = (false, eval a X.env) :: starEach [b] X.env := by rfl)
    (nb : starEach [b] X.env = (false, eval b X.env) :: starEach [] X.env := by rfl) (hp : (backTo pos2 (starEach [b] X.env)).any (·.1) = false := by rfl)
    (nc : starEach [.Call (.Name "range" p2) [a, b] [] pos2] X.env = (false, eval (.Call (.Name "range" p2) [a, b] [] pos2) X.env) :: starEach [] X.env := by rfl) : ME X c (.Call (.Name "list" p) [.Call (.Name "range" p2) [a, b] [] pos2] [] pos) (e2 lrg2 ea eb) := by
  refine me_two (r := fun x y H Q => ∃ i j, x = .int i ∧ y = .int j ∧ (RgOk i j ∧ ∀ q, H q = none → Q (.ref q) (upd H q (.lst (rgV i j))))) (pe_listRg hc hg hm (prg_2 hg2 hm2 ha hb na nb hp) nc) ?_
  intro B H x y u w fx fy Q z dom r1 r2 hz aft
  unfold lrg2 at hz
  split at hz
  · split at hz
    · rename_i h
      cases hz
      exact ⟨_, _, int_of r1, int_of r2, h.ok, fun q hn => aft.lst dom (rng_rep _ _) hn⟩
    · cases hz
  · cases hz
end
end L3

/-! L3m: list methods, stores into lists. -/
namespace L3
open PySem PySem.Spec PyProof.Rows L2

/-! ### methods that change the list of a name -/
/-- the list xs with arguments ys becomes xs', the call's value z -/
def Mut1 (K : PySem.W.Frag) (r : V → List V → Hp → VK → Prop) (f : List Vl → List Vl → Option (List Vl × Vl)) : Prop :=
  ∀ B H a us g ws xs ys xs' z Q, H a = some (.lst us) → RepL K B H xs us g → RepL K B H ys ws [] → f xs ys = some (xs', z) →
    (∀ us' g' w, RepL K B H xs' us' g' → g'.Sublist g → Rep K B H z w [] → Q w (upd H a (.lst us'))) → r (.ref a) ws H Q
def eMut (i : Nat) (f : List Vl → List Vl → Option (List Vl × Vl)) (ea : S → Out (List Ag)) : S → Out Ag := fun s => match s[i]? with
  | some (.lst true _) => (ea s).bind fun as s1 => match valAll true s1 as with
    | some (ys, s2) => (match s2[i]? with
      | some (.lst true xs) => (match f xs ys with | some (xs', z) => .ok (.v z) (s2.set i (.lst true xs')) | none => .no)
      | _ => .no)
    | none => .no
  | _ => .no
def eMut0 (i : Nat) (f : List Vl → List Vl → Option (List Vl × Vl)) : S → Out Ag := fun s => match s[i]? with
  | some (.lst true xs) => (match f xs [] with | some (xs', z) => .ok (.v z) (s.set i (.lst true xs')) | none => .no)
  | _ => .no
section
variable {X : Cx} {c : Q3}
/-- the name's list is at hand -/
theorem GT.atL {K : PySem.W.Frag} {B : Addr → Prop} {H : Hp} {s : S} {σ : St} {fp g : List Addr} {i : Nat} {xs : List Vl} {u : V} (G : GT K c B H s σ [.at i] [u] fp g) (e : s[i]? = some (.lst true xs)) : ∃ a us, u = .ref a ∧ σ[i]? = some (some (.ref a)) ∧ H a = some (.lst us) := by
  obtain ⟨a, us, g', e1, e2, _⟩ := G.drop.chg e
  have ar := G.ar
  simp only [AR, A1] at ar
  obtain ⟨u', ur, _, _, h1, _, ⟨h3, _⟩, _⟩ := ar
  simp only [List.cons.injEq] at h1
  obtain ⟨rfl, _⟩ := h1
  rw [e1] at h3
  simp only [Option.some.injEq] at h3
  exact ⟨a, us, h3.symm, e1, e2⟩
/-- the list of a name changes: the end -/
theorem mut_end {K : PySem.W.Frag} {r : V → List V → Hp → VK → Prop} {f : List Vl → List Vl → Option (List Vl × Vl)} (pk : Mut1 X.K r f) {B B1 : Addr → Prop} {H H1 : Hp} {s2 : S} {σ : St} {fp fp1 : List Addr} {i : Nat} {a : Addr} {xs ys xs' : List Vl} {ws : List V} {z : Vl} {Q : VK}
    (st : Stp fp H B H1 B1) (fr : Fresh fp H fp1) (G : GT X.K c B1 H1 s2 σ [] [] fp1 []) (ry : RepL X.K B1 H1 ys ws []) (e : s2[i]? = some (.lst true xs)) (ea : σ[i]? = some (some (.ref a))) (hf : f xs ys = some (xs', z))
    (q : FinE X c B H fp σ (.ok (.v z) (s2.set i (.lst true xs'))) Q) : r (.ref a) ws H1 Q := by
  obtain ⟨a', us, g, e1, e2, rx, na, ma, mg, cg⟩ := G.chg e
  rw [ea] at e1
  simp only [Option.some.injEq, V.ref.injEq] at e1
  subst e1
  refine pk B1 H1 a us g ws xs ys xs' z Q e2 rx ry hf fun us' g' w r1 sb rz => ?_
  obtain ⟨fp', G', m', st'⟩ := cg xs' us' g' r1 sb
  have rz' := rz.frame st' G.ownF (by simp)
  exact q w _ B1 fp' [] (st.trans fr st') (fun b hb => fr b (m' b (by simpa using hb))) (G'.val rz')
theorem me_mut {i : Nat} {name : Str} {id : String} {x : Str} {r : V → List V → Hp → VK → Prop} {f : List Vl → List Vl → Option (List Vl × Vl)} {e : Expr} {es : List Expr} {ea : S → Out (List Ag)} {p apos cpos : Pos}
    (slot : Slot "list" name id) (hty : typeOf (.builtin id) = pure (.type "method_descriptor")) (hr : MtR X id r) (pk : Mut1 X.K r f) (pa : PlainAttrs "list") (ho : ME X c (.Name x p) (eN i)) (ha : MA X c (e :: es) ea)
    (hbase : attributeBase (.Name x p) name X.env (eval (.Name x p) X.env) = eval (.Name x p) X.env := by rfl)
    (hfew : ((backTo cpos (starEach (e :: es) X.env)).all (fun x => !x.1) && (backToKw cpos (keywordEach [] X.env)).all (fun x => x.1.isSome)
      && decide ((e :: es).length + ([] : List Keyword).length + (if ([] : List Keyword).isEmpty then 0 else 1) < 30)) = true := by rfl)
    (hline : (apos.endLine == cpos.line) = true := by rfl) (hs : starEach (e :: es) X.env = (false, eval e X.env) :: starEach es X.env := by rfl) (hplain : (backTo cpos (starEach es X.env)).any (·.1) = false := by rfl) :
    ME X c (.Call (.Attribute (.Name x p) name apos) (e :: es) [] cpos) (eMut i f ea) := by
  refine PE.weak (pe_bm pa slot hty hr ho ha hbase hfew hline hs hplain) fun σ H Q q => ?_
  obtain ⟨B, s, fp, G, q⟩ := q
  refine ⟨B, s, fp, G, ?_⟩
  unfold eMut at q
  show FinE X c B H fp σ (eN i s) _
  unfold eN
  cases e0 : s[i]? with
  | none => rw [e0] at q; exact q.elim
  | some x0 =>
    rw [e0] at q
    cases x0 with
    | lst o xs0 =>
      cases o with
      | false => exact q.elim
      | true =>
        simp only at q
        intro u H1 B1 fp1 g1 st fr G1
        obtain ⟨a, us0, rfl, ea0, eh⟩ := G1.atL e0
        refine ⟨.inl ⟨rfl, us0, .of eh⟩, B1, s, fp1, G1.drop, ?_⟩
        cases e1 : ea s with
        | no => rw [e1] at q; exact q.elim
        | er k x s' => rw [e1] at q; exact ErK.trans st fr.left q
        | ok as s1 =>
          rw [e1] at q
          simp only [bind_ok] at q
          intro ws H2 B2 fp2 g2 st2 fr2 G2
          cases ev : valAll true s1 as with
          | none => rw [ev] at q; exact q.elim
          | some pr =>
            obtain ⟨ys, s2⟩ := pr
            rw [ev] at q
            simp only at q
            obtain ⟨B3, fp3, g3, st3, m3, G3, r3, nd3, ow3, z3⟩ := valAll_ok G2 ev
            have := z3 rfl
            subst this
            cases e2 : s2[i]? with
            | none => rw [e2] at q; exact q.elim
            | some x2 =>
              rw [e2] at q
              cases x2 with
              | lst o xs =>
                cases o with
                | false => exact q.elim
                | true =>
                  simp only at q
                  cases hf : f xs ys with
                  | none => rw [hf] at q; exact q.elim
                  | some pr =>
                    obtain ⟨xs', z⟩ := pr
                    rw [hf] at q
                    have st12 := st.trans fr.left st2
                    have fr12 : Fresh fp H (fp2 ++ g2) := Fresh.trans st fr.left fr2
                    exact mut_end (K := X.K) pk (st12.trans fr12 st3) (fun b hb => fr12 b (m3 b (by simp [hb]))) G3 r3 e2 ea0 hf q
              | _ => exact q.elim
    | _ => exact q.elim
theorem me_mut0 {i : Nat} {name : Str} {id : String} {x : Str} {r : V → List V → Hp → VK → Prop} {f : List Vl → List Vl → Option (List Vl × Vl)} {p apos cpos : Pos}
    (slot : Slot "list" name id) (hty : typeOf (.builtin id) = pure (.type "method_descriptor")) (hr : MtR X id r) (pk : Mut1 X.K r f) (pa : PlainAttrs "list") (ho : ME X c (.Name x p) (eN i))
    (hbase : attributeBase (.Name x p) name X.env (eval (.Name x p) X.env) = eval (.Name x p) X.env := by rfl)
    (hline : (apos.endLine == cpos.line) = true := by rfl) :
    ME X c (.Call (.Attribute (.Name x p) name apos) [] [] cpos) (eMut0 i f) := by
  refine PE.weak (pe_bm0 pa slot hty hr ho hbase hline) fun σ H Q q => ?_
  obtain ⟨B, s, fp, G, q⟩ := q
  refine ⟨B, s, fp, G, ?_⟩
  unfold eMut0 at q
  show FinE X c B H fp σ (eN i s) _
  unfold eN
  cases e0 : s[i]? with
  | none => rw [e0] at q; exact q.elim
  | some x0 =>
    rw [e0] at q
    cases x0 with
    | lst o xs =>
      cases o with
      | false => exact q.elim
      | true =>
        simp only at q
        intro u H1 B1 fp1 g1 st fr G1
        obtain ⟨a, us0, rfl, ea0, eh⟩ := G1.atL e0
        refine ⟨.inl ⟨rfl, us0, .of eh⟩, ?_⟩
        cases hf : f xs [] with
        | none => rw [hf] at q; exact q.elim
        | some pr =>
          obtain ⟨xs', z⟩ := pr
          rw [hf] at q
          exact mut_end (K := X.K) pk st fr.left G1.drop (by simp [RepL]) e0 ea0 hf q
    | _ => exact q.elim
end
def appF (xs ys : List Vl) : Option (List Vl × Vl) := match ys with | [y] => if xs.length < sizeLine then some (xs ++ [y], .non) else none | _ => none
def extF (xs ys : List Vl) : Option (List Vl × Vl) := match ys with | [.lst false zs] => if xs.length + zs.length ≤ sizeLine then some (xs ++ zs, .non) else none | _ => none
def popF (xs ys : List Vl) : Option (List Vl × Vl) := match ys with | [] => (match xs.getLast? with | some z => if Pur z = true then some (xs.dropLast, z) else none | none => none) | _ => none
def popAtF (xs ys : List Vl) : Option (List Vl × Vl) := match ys with
  | [.int i] => (match ixN xs.length i with | some k => (match xs[k]? with | some z => if Pur z = true ∧ -(2 ^ 63) ≤ i ∧ i < 2 ^ 63 then some (xs.eraseIdx k, z) else none | none => none) | none => none)
  | _ => none
section
variable {K : PySem.W.Frag}
theorem RepL.nil_f {B : Addr → Prop} {H : Hp} {xs : List Vl} {us : List V} {y : Vl} {u : V} {g : List Addr} (r : RepL K B H xs us g) (ry : Rep K B H y u []) : RepL K B H (xs ++ [y]) (us ++ [u]) g := by
  have := RepL.append (g := []) r (ys := [y]) (ws := [u]) (by simp only [RepL]; exact ⟨u, [], [], [], rfl, rfl, ry, rfl, rfl⟩)
  simpa using this
theorem RepL.one_inv {B : Addr → Prop} {H : Hp} {y : Vl} {ws : List V} (r : RepL K B H [y] ws []) : ∃ u, ws = [u] ∧ Rep K B H y u [] := by
  simp only [RepL] at r
  obtain ⟨u, ur, f, g, rfl, e, r1, rfl, rfl⟩ := r
  have : f = [] := by simpa using e.symm
  subst this
  exact ⟨u, rfl, r1⟩
theorem pk_app : Mut1 K rAppend appF := by
  intro B H a us g ws xs ys xs' z Q ha rx ry hf k
  unfold appF at hf
  split at hf
  · rename_i y
    split at hf
    · rename_i hl
      cases hf
      obtain ⟨u, rfl, r1⟩ := ry.one_inv
      exact ⟨a, us, u, rfl, rfl, ha, by rw [← rx.length]; exact hl, k _ g .non (rx.nil_f r1) (List.Sublist.refl _) (by simp [Rep])⟩
    · cases hf
  · cases hf
theorem pk_ext : Mut1 K rExtend extF := by
  intro B H a us g ws xs ys xs' z Q ha rx ry hf k
  unfold extF at hf
  split at hf
  · rename_i zs
    split at hf
    · rename_i hl
      cases hf
      obtain ⟨u, rfl, r1⟩ := ry.one_inv
      simp only [Rep] at r1
      obtain ⟨_, b, vs, rfl, q, rz⟩ := r1
      have h2 := RepL.append (g := []) rx rz
      rw [List.append_nil] at h2
      exact ⟨a, b, us, vs, rfl, rfl, ha, q.1, by rw [← rx.length, ← rz.length]; exact hl, k _ g .non h2 (List.Sublist.refl _) (by simp [Rep])⟩
    · cases hf
  · cases hf
theorem RepL.split {B : Addr → Prop} {H : Hp} : ∀ {xs ys : List Vl} {us : List V} {g : List Addr}, RepL K B H (xs ++ ys) us g → ∃ u1 u2 g1 g2, us = u1 ++ u2 ∧ g = g1 ++ g2 ∧ RepL K B H xs u1 g1 ∧ RepL K B H ys u2 g2
  | [], ys, us, g, h => ⟨[], us, [], g, rfl, rfl, by simp [RepL], h⟩
  | x :: xs, ys, us, g, h => by
    simp only [List.cons_append, RepL] at h
    obtain ⟨u, ur, f, g', rfl, rfl, r1, r2⟩ := h
    obtain ⟨u1, u2, g1, g2, rfl, rfl, h1, h2⟩ := RepL.split r2
    exact ⟨u :: u1, u2, f ++ g1, g2, rfl, by simp, by simp only [RepL]; exact ⟨u, u1, f, g1, rfl, rfl, r1, h1⟩, h2⟩
theorem pk_pop : Mut1 K rPop popF := by
  intro B H a us g ws xs ys xs' z Q ha rx ry hf k
  unfold popF at hf
  split at hf
  · cases e : xs.getLast? with
    | none => rw [e] at hf; cases hf
    | some y =>
      rw [e] at hf
      simp only at hf
      split at hf
      · rename_i hp
        cases hf
        simp only [RepL] at ry
        obtain ⟨rfl, _⟩ := ry
        obtain ⟨xs0, rfl⟩ : ∃ xs0, xs = xs0 ++ [z] := List.getLast?_eq_some_iff.mp e
        obtain ⟨u1, u2, g1, g2, rfl, rfl, h1, h2⟩ := RepL.split rx
        simp only [RepL] at h2
        obtain ⟨w, ur, f, g3, rfl, rfl, rz, rfl, rfl⟩ := h2
        have := rz.pur hp
        subst this
        refine ⟨a, _, w, rfl, rfl, ha, ?_, ?_⟩
        · rw [List.length_append, List.length_singleton, Nat.add_sub_cancel, List.getElem?_append_right (Nat.le_refl _), Nat.sub_self]; rfl
        · rw [List.dropLast_concat]
          have := k u1 g1 w
          rw [List.dropLast_concat] at this
          exact this h1 (by simp) rz
      · cases hf
  · cases hf
theorem RepL.erase {B : Addr → Prop} {H : Hp} : ∀ {xs : List Vl} {us : List V} {g : List Addr} {k : Nat} {z : Vl}, RepL K B H xs us g → xs[k]? = some z → Pur z = true → ∃ w, us[k]? = some w ∧ Rep K B H z w [] ∧ RepL K B H (xs.eraseIdx k) (us.eraseIdx k) g
  | [], _, _, _, _, _, e, _ => by simp at e
  | x :: xs, us, g, 0, z, h, e, p => by
    simp only [List.getElem?_cons_zero, Option.some.injEq] at e
    subst e
    simp only [RepL] at h
    obtain ⟨u, ur, f, g', rfl, rfl, r1, r2⟩ := h
    have := r1.pur p
    subst this
    exact ⟨u, rfl, r1, by simpa using r2⟩
  | x :: xs, us, g, k + 1, z, h, e, p => by
    simp only [RepL] at h
    obtain ⟨u, ur, f, g', rfl, rfl, r1, r2⟩ := h
    obtain ⟨w, e1, rz, r3⟩ := RepL.erase (k := k) r2 (by simpa using e) p
    refine ⟨w, by simpa using e1, rz, ?_⟩
    simp only [List.eraseIdx_cons_succ, RepL]
    exact ⟨u, _, f, g', rfl, rfl, r1, r3⟩
theorem pk_popAt : Mut1 K rPopAt popAtF := by
  intro B H a us g ws xs ys xs' z Q ha rx ry hf k
  unfold popAtF at hf
  split at hf
  · rename_i i
    cases e : ixN xs.length i with
    | none => rw [e] at hf; cases hf
    | some j =>
      rw [e] at hf
      simp only at hf
      cases ej : xs[j]? with
      | none => rw [ej] at hf; cases hf
      | some y =>
        rw [ej] at hf
        simp only at hf
        split at hf
        · rename_i hp
          cases hf
          obtain ⟨u, rfl, r1⟩ := ry.one_inv
          rw [int_of r1]
          obtain ⟨w, e1, rz, r3⟩ := RepL.erase rx ej hp.1
          have e2 := (ixN_seq e).1
          rw [rx.length] at e2
          exact ⟨a, us, i, j, w, rfl, rfl, ha, hp.2.1, hp.2.2, e2, e1, k _ g w r3 (List.Sublist.refl _) rz⟩
        · cases hf
  · cases hf
end

section
variable {X : Cx} {c : Q3} {i : Nat} {x : Str} {e : Expr} {ea : S → Out (List Ag)} {p apos cpos : Pos}
theorem me_append (ho : ME X c (.Name x p) (eN i)) (ha : MA X c [e] ea) (hbase : attributeBase (.Name x p) "append" X.env (eval (.Name x p) X.env) = eval (.Name x p) X.env := by rfl) (hline : (apos.endLine == cpos.line) = true := by rfl) (hs : starEach [e] X.env = (false, eval e X.env) :: starEach [] X.env := by rfl)
    (hfew : ((backTo cpos (starEach [e] X.env)).all (fun x => !x.1) && (backToKw cpos (keywordEach [] X.env)).all (fun x => x.1.isSome) && decide ([e].length + ([] : List Keyword).length + (if ([] : List Keyword).isEmpty then 0 else 1) < 30)) = true := by rfl) :
    ME X c (.Call (.Attribute (.Name x p) "append" apos) [e] [] cpos) (eMut i appF ea) := me_mut F.slot_list_append rfl mt_append pk_app F.plainAttrs_list ho ha hbase hfew hline hs
theorem me_extend (ho : ME X c (.Name x p) (eN i)) (ha : MA X c [e] ea) (hbase : attributeBase (.Name x p) "extend" X.env (eval (.Name x p) X.env) = eval (.Name x p) X.env := by rfl) (hline : (apos.endLine == cpos.line) = true := by rfl) (hs : starEach [e] X.env = (false, eval e X.env) :: starEach [] X.env := by rfl)
    (hfew : ((backTo cpos (starEach [e] X.env)).all (fun x => !x.1) && (backToKw cpos (keywordEach [] X.env)).all (fun x => x.1.isSome) && decide ([e].length + ([] : List Keyword).length + (if ([] : List Keyword).isEmpty then 0 else 1) < 30)) = true := by rfl) :
    ME X c (.Call (.Attribute (.Name x p) "extend" apos) [e] [] cpos) (eMut i extF ea) := me_mut F.slot_list_extend rfl mt_extend pk_ext F.plainAttrs_list ho ha hbase hfew hline hs
theorem me_popAt (ho : ME X c (.Name x p) (eN i)) (ha : MA X c [e] ea) (hbase : attributeBase (.Name x p) "pop" X.env (eval (.Name x p) X.env) = eval (.Name x p) X.env := by rfl) (hline : (apos.endLine == cpos.line) = true := by rfl) (hs : starEach [e] X.env = (false, eval e X.env) :: starEach [] X.env := by rfl)
    (hfew : ((backTo cpos (starEach [e] X.env)).all (fun x => !x.1) && (backToKw cpos (keywordEach [] X.env)).all (fun x => x.1.isSome) && decide ([e].length + ([] : List Keyword).length + (if ([] : List Keyword).isEmpty then 0 else 1) < 30)) = true := by rfl) :
    ME X c (.Call (.Attribute (.Name x p) "pop" apos) [e] [] cpos) (eMut i popAtF ea) := me_mut F.slot_list_pop rfl mt_popAt pk_popAt F.plainAttrs_list ho ha hbase hfew hline hs
theorem me_pop (ho : ME X c (.Name x p) (eN i)) (hbase : attributeBase (.Name x p) "pop" X.env (eval (.Name x p) X.env) = eval (.Name x p) X.env := by rfl) (hline : (apos.endLine == cpos.line) = true := by rfl) :
    ME X c (.Call (.Attribute (.Name x p) "pop" apos) [] [] cpos) (eMut0 i popF) := me_mut0 F.slot_list_pop rfl mt_pop pk_pop F.plainAttrs_list ho hbase hline
end

/-! ### methods that look -/
/-- a method by values -/
def PkM (K : PySem.W.Frag) (r : V → List V → Hp → VK → Prop) (f : Vl → List Vl → Option Vl) : Prop :=
  ∀ B H x u fx ys ws Q z, (∀ b, B b → H b ≠ none) → Rep K B H x u fx → RepP K B H ys ws → f x ys = some z → Aft K B H z Q → r u ws H Q
/-- of that built-in type -/
def tyK (T : String) : Vl → Bool
  | .lst _ _ => T == "list"
  | .sc _ => T == "list"
  | .str _ => T == "str"
  | _ => false
def eMth (T : String) (f : Vl → List Vl → Option Vl) (eo : S → Out Ag) (ea : S → Out (List Ag)) : S → Out Ag := fun s => (eo s).bind fun a s1 => if tyK T (res s1 a) = true then (ea s1).bind fun as s2 => match f (res s2 a) (as.map (res s2)) with | some z => .ok (.v z) s2 | none => .no else .no
theorem tyK_ok {K : PySem.W.Frag} {B : Addr → Prop} {H : Hp} {T : String} {x : Vl} {u : V} {f : List Addr} (r : Rep K B H x u f) (h : tyK T x = true) : tyV K T u H := by
  cases x with
  | lst o xs =>
    obtain ⟨a, us, rfl, q, _⟩ := r.lstU
    exact .inl ⟨by simpa [tyK] using h, us, q⟩
  | sc ns =>
    obtain ⟨a, rfl, q⟩ := r.scU
    exact .inl ⟨by simpa [tyK] using h, _, q⟩
  | str z =>
    rw [str_of r]
    show T = "str"
    simpa [tyK] using h
  | _ => simp [tyK] at h
section
variable {X : Cx} {c : Q3}
theorem me_mth {T : String} {name : Str} {id : String} {r : V → List V → Hp → VK → Prop} {f : Vl → List Vl → Option Vl} {o e : Expr} {es : List Expr} {eo : S → Out Ag} {ea : S → Out (List Ag)} {apos cpos : Pos}
    (slot : Slot T name id) (hty : typeOf (.builtin id) = pure (.type "method_descriptor")) (hr : MtR X id r) (pk : PkM X.K r f) (pa : PlainAttrs T) (ho : ME X c o eo) (ha : MA X c (e :: es) ea)
    (hbase : attributeBase o name X.env (eval o X.env) = eval o X.env := by rfl)
    (hfew : ((backTo cpos (starEach (e :: es) X.env)).all (fun x => !x.1) && (backToKw cpos (keywordEach [] X.env)).all (fun x => x.1.isSome)
      && decide ((e :: es).length + ([] : List Keyword).length + (if ([] : List Keyword).isEmpty then 0 else 1) < 30)) = true := by rfl)
    (hline : (apos.endLine == cpos.line) = true := by rfl) (hs : starEach (e :: es) X.env = (false, eval e X.env) :: starEach es X.env := by rfl) (hplain : (backTo cpos (starEach es X.env)).any (·.1) = false := by rfl) :
    ME X c (.Call (.Attribute o name apos) (e :: es) [] cpos) (eMth T f eo ea) := by
  refine PE.weak (pe_bm pa slot hty hr ho ha hbase hfew hline hs hplain) fun σ H Q q => ?_
  obtain ⟨B, s, fp, G, q⟩ := q
  refine tE_one G q fun a s1 u H1 B1 fp1 g1 st fr G1 q => ?_
  obtain ⟨f1, r1⟩ := one_res G1
  by_cases ht : tyK T (res s1 a) = true
  · rw [if_pos ht] at q
    refine ⟨tyK_ok r1 ht, B1, s1, fp1, G1.drop, ?_⟩
    cases e1 : ea s1 with
    | no => rw [e1] at q; exact q.elim
    | er k x s' => rw [e1] at q; exact ErK.trans st fr.left q
    | ok as s2 =>
      rw [e1] at q
      simp only [bind_ok] at q
      intro ws H2 B2 fp2 g2 st2 fr2 G2
      have G3 := G1.seq st2 fr2 G2
      have rp := AR.res G3.rs G3.ar
      simp only [List.cons_append, List.nil_append, List.map_cons, RepP] at rp
      obtain ⟨u', ur, f2, h1, ra, rb⟩ := rp
      simp only [List.cons.injEq] at h1
      obtain ⟨rfl, rfl⟩ := h1
      cases hf : f (res s2 a) (as.map (res s2)) with
      | none => rw [hf] at q; exact q.elim
      | some z =>
        rw [hf] at q
        exact pk B2 H2 _ _ _ _ _ Q z G3.dom ra rb hf (Aft.of (st.trans fr.left st2) (Fresh.seq G1 st fr fr2) G3 q)
  · rw [if_neg ht] at q; exact q.elim
end
/-- the first place of an equal one -/
def idxL (y : Vl) : List Vl → Option Nat
  | [] => none
  | x :: xs => if vEq x y = true then some 0 else (idxL y xs).map (· + 1)
def idxF (x : Vl) (ys : List Vl) : Option Vl := match x, ys with
  | .lst _ xs, [y] => if okL 49 xs = true ∧ okD 50 y = true then (idxL y xs).map fun j => .int (j : Nat) else none
  | _, _ => none
theorem idxL_spec {y : Vl} {d : PyData} (hy : dt y = some d) : ∀ {xs : List Vl} {ds : List PyData} {j : Nat}, dtL xs = some ds → idxL y xs = some j → ∃ z, ds[j]? = some z ∧ PyData.eqv z d = true ∧ ∀ (m : Nat) (z' : PyData), m < j → ds[m]? = some z' → PyData.eqv z' d = false
  | [], ds, j, h, e => by simp [idxL] at e
  | x :: xs, ds, j, h, e => by
    cases e1 : dt x with
    | none => simp [dtL, e1] at h
    | some d1 => cases e2 : dtL xs with
      | none => simp [dtL, e1, e2] at h
      | some ds' =>
        simp only [dtL, e1, e2, Option.some.injEq] at h; subst h
        unfold idxL at e
        by_cases hx : vEq x y = true
        · rw [if_pos hx] at e
          simp only [Option.some.injEq] at e
          subst e
          exact ⟨d1, rfl, by rw [vEq.dt _ _ _ _ e1 hy]; exact hx, fun m z' hm _ => absurd hm (Nat.not_lt_zero m)⟩
        · rw [if_neg hx] at e
          cases e3 : idxL y xs with
          | none => rw [e3] at e; cases e
          | some k =>
            rw [e3] at e
            simp only [Option.map_some, Option.some.injEq] at e
            subst e
            obtain ⟨z, h1, h2, h3⟩ := idxL_spec hy e2 e3
            refine ⟨z, by simpa using h1, h2, fun m z' hm hz => ?_⟩
            cases m with
            | zero =>
              simp only [List.getElem?_cons_zero, Option.some.injEq] at hz
              subst hz
              rw [vEq.dt _ _ _ _ e1 hy]
              simpa using hx
            | succ m => exact h3 m z' (by omega) (by simpa using hz)
theorem pk_idx {K : PySem.W.Frag} : PkM K (rIndexD K) idxF := by
  intro B H x u fx ys ws Q z dom rx ry hf aft
  unfold idxF at hf
  split at hf
  · rename_i o xs y
    split at hf
    · rename_i h
      obtain ⟨w, f, rfl, r2⟩ := ry.one
      obtain ⟨d, e1, a1, a2, _⟩ := okD.dt h.2
      obtain ⟨ds, e2, b1, b2, _⟩ := okL.dt h.1
      have e3 : dt (.lst o xs) = some (.list ds) := by simp [dt, e2]
      cases hj : idxL y xs with
      | none => rw [hj] at hf; cases hf
      | some j =>
        rw [hj] at hf
        simp only [Option.map_some, Option.some.injEq] at hf
        subst hf
        obtain ⟨z, h1, h2, h3⟩ := idxL_spec e1 e2 hj
        have hd := rx.dp e3
        obtain ⟨a, us, rfl, _, _⟩ := rx.lstU
        exact ⟨a, w, d, ds, j, z, rfl, rfl, hd, r2.dp e1, shaped_of (by simp [PyData.depth]; omega) (by simpa [PyData.canLay0] using b2), shaped_of a1 a2, h1, h2, h3, aft.int dom⟩
    · cases hf
  · cases hf
section
variable {X : Cx} {c : Q3} {o e : Expr} {eo : S → Out Ag} {ea : S → Out (List Ag)} {apos cpos : Pos}
theorem me_index (hu : X.A.units + 66 < cLine) (ho : ME X c o eo) (ha : MA X c [e] ea) (hbase : attributeBase o "index" X.env (eval o X.env) = eval o X.env := by rfl) (hline : (apos.endLine == cpos.line) = true := by rfl) (hs : starEach [e] X.env = (false, eval e X.env) :: starEach [] X.env := by rfl)
    (hfew : ((backTo cpos (starEach [e] X.env)).all (fun x => !x.1) && (backToKw cpos (keywordEach [] X.env)).all (fun x => x.1.isSome) && decide ([e].length + ([] : List Keyword).length + (if ([] : List Keyword).isEmpty then 0 else 1) < 30)) = true := by rfl) :
    ME X c (.Call (.Attribute o "index" apos) [e] [] cpos) (eMth "list" idxF eo ea) := me_mth F.slot_list_index rfl (mt_indexD (by omega)) pk_idx F.plainAttrs_list ho ha hbase hfew hline hs
end

/-! ### stores into lists -/
def gSub (i : Nat) (ei : S → Out Ag) : Vl → S → Option S := fun x s => match s[i]? with
  | some (.lst true _) => (match ei s with
    | .ok a s1 => (match res s1 a, s1[i]? with
      | .int k, some (.lst true xs) => (match ixN xs.length k with | some j => some (s1.set i (.lst true (xs.set j (fz x)))) | none => none)
      | _, _ => none)
    | _ => none)
  | _ => none
section
variable {X : Cx} {c : Q3}
theorem mg_sub {i : Nat} {x : Str} {b : Expr} {ei : S → Out Ag} {p pos : Pos} (ho : ME X c (.Name x p) (eN i)) (hi : ME X c b ei)
    (ha : ∀ v, assign (.Subscript (.Name x p) b pos) X.env v = (do
      let ov ← holding [v] (eval (.Name x p) X.env)
      let iv ← holding [v, ov] (eval b X.env)
      standAt pos
      holding [v, ov, iv] (setItem ov iv v)
      release [v, ov, iv] []) := by intro _; rfl) : MG X c [] (.Subscript (.Name x p) b pos) (gSub i ei) := by
  refine PG.weak (pg_sub ho hi set_list ha) fun v σ H Q q => ?_
  obtain ⟨B, s, fp, x, f, G, q⟩ := q
  unfold gSub at q
  cases e0 : s[i]? with
  | none => rw [e0] at q; exact q.elim
  | some x0 =>
    rw [e0] at q
    cases x0 with
    | lst o xs0 =>
      cases o with
      | false => exact q.elim
      | true =>
        simp only at q
        refine ⟨B, s, fp, G.drop, ?_⟩
        show FinE X c B H fp σ (eN i s) _
        unfold eN
        rw [e0]
        intro u H1 B1 fp1 g1 st fr G1
        obtain ⟨a, us0, rfl, ea0, eh⟩ := G1.atL e0
        have G1x := G.seq st fr G1
        refine ⟨B1, s, fp1, G1.drop, ?_⟩
        cases e1 : ei s with
        | no => rw [e1] at q; exact q.elim
        | er k y s' => rw [e1] at q; exact q.elim
        | ok b s1 =>
          rw [e1] at q
          simp only at q
          intro w H2 B2 fp2 g2 st2 fr2 G2
          obtain ⟨f1, r1⟩ := one_res G2
          have hh : ∃ k xs, res s1 b = .int k ∧ s1[i]? = some (.lst true xs) := by
            cases hk : res s1 b with
            | int k =>
              cases hx : s1[i]? with
              | none => rw [hk, hx] at q; exact q.elim
              | some x2 =>
                cases x2 with
                | lst o xs =>
                  cases o with
                  | true => exact ⟨k, xs, rfl, rfl⟩
                  | false => rw [hk, hx] at q; exact q.elim
                | _ => rw [hk, hx] at q; exact q.elim
            | _ => rw [hk] at q; exact q.elim
          obtain ⟨k, xs, hk, hx⟩ := hh
          rw [hk, hx] at q
          rw [hk] at r1
          simp only at q
          cases hj : ixN xs.length k with
          | none => rw [hj] at q; exact q.elim
          | some j =>
            rw [hj] at q
            simp only at q
            -- the value, given up
            have g1e : g1 = [] := by
              have ar := G1.ar
              simp only [AR, A1] at ar
              obtain ⟨_, _, _, _, _, h2, ⟨_, h4⟩, _, h6⟩ := ar
              rw [h2, h4, h6]; rfl
            subst g1e
            have frx : Fresh fp1 H1 fp2 := fr2.left
            have Gx : GT X.K c B1 H1 s σ [.v x] [v] fp1 f := by
              have := G.seq0 st fr.left G1.drop
              exact this
            have Gy := Gx.seq0 st2 frx G2.drop
            obtain ⟨B3, g3, st3, G3, m3, r3⟩ := Gy.frz
            obtain ⟨a', us, g', ex, eh2, rx, na, ma, mg, cg⟩ := G3.drop.chg hx
            rw [ea0] at ex
            simp only [Option.some.injEq, V.ref.injEq] at ex
            subst ex
            have hl := rx.length
            have hjl : j < xs.length := (ixN_seq hj).2.1
            obtain ⟨w', p', f', q', _, eg, _, stt⟩ := rx.at (i := j) (x := xs[j]) (by simp [hjl])
            have rn := stt (fz x) v [] r3
            obtain ⟨fp', G', m', st'⟩ := cg _ _ _ rn (by rw [eg]; simp)
            refine ⟨a, us, k, j, rfl, int_of r1, eh2, by rw [← hl]; exact hj, ?_⟩
            have s0 : Stp (fp ++ f) H B H1 B1 := st.mono (by simp +contextual)
            have f0 : Fresh (fp ++ f) H (fp1 ++ f) := fun b hb => by
              rcases List.mem_append.mp hb with z | z
              · exact (fr.left b z).imp (fun y => by simp [y]) id
              · exact .inl (by simp [z])
            have s1' : Stp (fp1 ++ f) H1 B1 H2 B2 := st2.mono (by simp +contextual)
            have f1' : Fresh (fp1 ++ f) H1 (fp2 ++ f) := fun b hb => by
              rcases List.mem_append.mp hb with z | z
              · exact (frx b z).imp (fun y => by simp [y]) id
              · exact .inl (by simp [z])
            have s2' := (s0.trans f0 s1').trans (Fresh.trans s0 f0 f1') st3
            have f2' : Fresh (fp ++ f) H fp2 := fun b hb => Fresh.trans s0 f0 f1' b (by simp [hb])
            exact q σ _ B3 fp' (fun _ _ => rfl) rfl (s2'.trans f2' st') (fun b hb => f2' b (m' b hb)) G'
    | _ => exact q.elim
def sAsg (ev : S → Out Ag) (as : Vl → S → Option S) : S → Out Fl := fun s => (ev s).bind fun a s1 => match toV s1 a with
  | some (x, s2) => (match as x s2 with | some s3 => .ok .nx s3 | none => .no)
  | none => .no
theorem ms_asg {tg e : Expr} {is : List Nat} {ev : S → Out Ag} {as : Vl → S → Option S} {pos : Pos} (he : ME X c e ev) (hg : MG X c is tg as) (hs : swapsWithSole [tg] e pos.line X.env = pure false := by rfl) (hw : swappedStores [tg] e X.env = pure none := by rfl)
    (h1 : (assignEach [tg] X.env).map (·.2) = [assign tg X.env] := by rfl) : MS X c (.Assign [tg] e pos) (sAsg ev as) := by
  refine PS.weak (ps_asg he hg hs hw h1) fun D σ H q => ?_
  obtain ⟨B, s, fp, G, q⟩ := q
  refine tE_one G q fun a s1 u H1 B1 fp1 g1 st fr G1 q => ?_
  cases et : toV s1 a with
  | none => rw [et] at q; exact q.elim
  | some p =>
    obtain ⟨y, s2⟩ := p
    rw [et] at q
    obtain ⟨B', fp', g', st2, m2, G2⟩ := G1.toV et
    simp only at q
    refine ⟨B', s2, fp', y, g', G2, ?_⟩
    cases e3 : as y s2 with
    | none => simp only [e3] at q; exact q.elim
    | some s3 =>
      simp only [e3] at q
      intro σ' H' B2 fp3 _ _ st3 fr3 G3
      have f2 : Fresh fp H (fp' ++ g') := fun b hb => fr b (m2 b hb)
      have s2 := st.trans fr st2
      exact q σ' H' B2 fp3 (s2.trans f2 st3) (Fresh.trans s2 f2 fr3) G3
end
end L3

/-! L3n: rules as a printer of derivations needs them; the end of a law. -/
namespace L3
open PySem PySem.Spec PyProof.Rows L2

section
variable {X : Cx} {c : Q3} {fxi : List Nat}
theorem hu64 {n m : Nat} (h : n + 66 < m) : n + 64 < m := by omega
theorem hu65 {n m : Nat} (h : n + 66 < m) : n + 65 < m := by omega
theorem takes0 {X : Cx} : Takes X c0.W := fun u s' ⟨_, _, _, _, _, _, _, _, _, _, _, _, _, _, _, _, w⟩ => False.elim w
theorem ms_setF {i : Nat} {x : Str} {e : Expr} {ev : S → Out Ag} {pos pos' : Pos} (hfx : c.fx.map (·.1) = fxi) (hN : X.N.Nodup) (he : ME X c e ev) (hf0 : i ∉ fxi := by decide) (hi : X.N[i]? = some x := by rfl) (hx : Loc X.env.scope x := by first | exact Or.inl rfl | exact Or.inr rfl) (hs : swapsWith e (some (.Name x pos')) pos.line X.env = pure false := by rfl) (hf : X.fn x = true ∨ X.env.scope.names.lookup x = some .local := by first | exact .inl rfl | exact .inr rfl | assumption) :
    MS X c (.Assign [.Name x pos'] e pos) (sSet i ev) := ms_set hN he (by rw [hfx]; exact hf0) hi hx hs hf
theorem ms_retF {e : Expr} {ev : S → Out Ag} {pos : Pos} (hfx : c.fx.map (·.1) = fxi) (he : ME X c e ev) : MS X c (.Return (some e) pos) (sRet fxi ev) := hfx ▸ ms_ret he
theorem mg_nameF {i : Nat} {x : Str} {pos : Pos} (hfx : c.fx.map (·.1) = fxi) (hN : X.N.Nodup) (hf0 : i ∉ fxi := by decide) (hi : X.N[i]? = some x := by rfl) (hx : Loc X.env.scope x := by first | exact Or.inl rfl | exact Or.inr rfl) (hf : X.fn x = true ∨ X.env.scope.names.lookup x = some .local := by first | exact .inl rfl | exact .inr rfl | assumption) :
    MG X c [i] (.Name x pos) (gNm i) := mg_name hN (by rw [hfx]; exact hf0) hi hx hf
theorem ms_parF {i j : Nat} {x y : Str} {a b : Expr} {ea : S → Out (List Ag)} {px py pt pos : Pos} {kt k2 pt2} (hfx : c.fx.map (·.1) = fxi) (hc : X.calm = true) (hN : X.N.Nodup) (ha : MA X c [a, b] ea) (hij : i ≠ j := by decide) (hfi : i ∉ fxi := by decide) (hfj : j ∉ fxi := by decide)
    (hw : swappedStores [.Tuple [.Name x px, .Name y py] kt pt] (.Tuple [a, b] k2 pt2) X.env = pure (some [x, y]) := by rfl) (hi : X.N[i]? = some x := by rfl) (hj : X.N[j]? = some y := by rfl)
    (hx : X.env.scope.names.lookup x = some .local := by rfl) (hy : X.env.scope.names.lookup y = some .local := by rfl)
    (hs : swapsWithSole [.Tuple [.Name x px, .Name y py] kt pt] (.Tuple [a, b] k2 pt2) pos.line X.env = pure false := by rfl) :
    MS X c (.Assign [.Tuple [.Name x px, .Name y py] kt pt] (.Tuple [a, b] k2 pt2) pos) (sPar i j ea) := ms_par hc hN hij (by rw [hfx]; exact hfi) (by rw [hfx]; exact hfj) ha hw hi hj hx hy hs
/-- a constant of the module that is an int -/
theorem me_gint {i : Int} {x : Str} {p : Pos} (hm : ∃ t, X.mg x = some (.int i t)) (hg : Gl X x := by rfl) (hd : (x == ("__debug__" : Str)) = false := by decide) : ME X c (.Name x p) (eK (.int i)) := by
  obtain ⟨t, hm⟩ := hm
  exact me_k (pe_glob (v := .int i) hg hm ⟨t, rfl⟩ hd) fun _ _ => by simp [Rep]
end

/-! ### the law's end -/
section
variable {P : Program} {w : World} {K : PySem.W.Frag} {mg mb : Str → Option Value} {k : Nat} {fa a : Addr} {fd : FuncData} {x : Str} {F : List Vl → FO} {s₁ : Shared} {vs : List Value} {ns : List Int}
theorem law3 (KX : K.In s₁.heap) (hns : s₁.heap.Ns mainGlobals mg) (hb : s₁.heap.Ns builtinsNs mb) (hbb : ∀ x : Str, x ≠ "__name__" → mb x = bootBuiltins x) (hlim : s₁.heap.NoLimit) (hg : s₁.gens = #[])
    (ha : s₁.heap.get? a = some { cls := .type "list", data := .seq vs.toArray }) (hi : IntsAre vs ns) (hl : ns.length ≤ sizeLine) (hr : Room k callerA)
    (D : ∀ base : Heap, K.In base → base.Ns mainGlobals mg → FnOk3 P w K mg base k fa fd [x] (spOf K mg 1 F)) (hbind : ∀ (s : Shared) (u : Value), BindsTo s fd ⟨[u], []⟩ [(x, u)])
    (hF : ∃ outs, F [.sc ns] = .ok (.bl true) outs) :
    codeAny (model P w) callerA (.call (.ref fa) ⟨[.ref a], []⟩) (fun r s' => r = .ok (.ret (.bool true)) ∧ OldK s₁.heap s'.heap ∧ s'.os = s₁.os ∧ AllBare s'.gens) s₁ := by
  obtain ⟨outs, hF⟩ := hF
  have rv := vals_ints hi
  have lv := hi.length
  -- H: at most the script stands in it
  have go : ∀ H : Hp, (∀ b u, H b = some u → b = a ∧ K.lookup a = none ∧ ∃ o ys, u = .frz o (.lst ys)) → (Rd H a (.lst (ns.map V.int)) ∨ KL K a (ns.map V.int)) → HOk P w H s₁.heap →
      codeAny (model P w) callerA (.call (.ref fa) ⟨[.ref a], []⟩) (fun r s' => r = .ok (.ret (.bool true)) ∧ OldK s₁.heap s'.heap ∧ s'.os = s₁.os ∧ AllBare s'.gens) s₁ := by
    intro H hH hS hok
    have away : ∀ {b : Addr} {o : Obj}, s₁.heap.get? b = some o → (b = a → K.lookup a = none → False) → (hidT s₁.heap H).get? b = some o := by
      intro b o e z
      refine hidT_get e ?_
      cases q : H b with
      | none => rfl
      | some u => exact (z (hH b u q).1 (hH b u q).2.1).elim
    have spaces : ∀ {b : Addr} {m : Str → Option Value}, s₁.heap.Ns b m → (hidT s₁.heap H).Ns b m := by
      rintro b m ⟨o, es, ep, e, d, rest⟩
      refine ⟨o, es, ep, away e fun z _ => ?_, d, rest⟩
      subst z
      rw [ha] at e
      cases e
      exact nomatch d
    have kin : K.In (hidT s₁.heap H) := fun b o e => away (KX b o e) fun z n => by
      subst z
      rw [n] at e
      exact nomatch e
    have md : Mod K mg (hidT s₁.heap H) := ⟨kin, spaces hns, ⟨mb, spaces hb, hbb⟩, let ⟨mc, q1, q2⟩ := hlim; ⟨mc, spaces q1, q2⟩⟩
    have env : Env0 P w K mg (hidT s₁.heap H) callerA [] s₁ H := ⟨rfl, md, fun b o e => of_hidT e, Nat.le_of_eq (hidT_size _ _), trivial, fun b q => (List.not_mem_nil q).elim, hok, .of_eq hg⟩
    have told : spOf K mg 1 F [.ref a] H (fun v _ => v = .bl true) (fun _ _ _ => False) := by
      refine ⟨rfl, fun _ => False, [.sc ns], [], ?_, List.nodup_nil, fun _ q => (List.not_mem_nil q).elim, fun _ q => q.elim, ?_⟩
      · simp only [RepL, Rep, List.append_eq]
        exact ⟨.ref a, [], [], [], rfl, rfl, ⟨rfl, a, rfl, hS.imp (fun q => ⟨q, id⟩) id⟩, rfl, rfl⟩
      · rw [hF]
        intro v H' B' g fo _ _ _ _ _ rr _
        exact bl_of rr
    refine codeAny_mono ((D _ kin (spaces hns)).run callerA [] s₁ H ⟨[.ref a], []⟩ [.ref a] [.ref a] _ _ hr rfl env (hbind s₁ (.ref a)) (.cons rfl .nil) told) fun r s' q => ?_
    match r, q with
    | .error e, q =>
      obtain ⟨_, _, _, _, _, _, _, _, _, _, _, _, z⟩ := q
      exact z.elim
    | .ok .next, q => exact False.elim q
    | .ok .brk, q => exact False.elim q
    | .ok .cont, q => exact False.elim q
    | .ok (.ret u), q =>
      obtain ⟨v, H', os, bare, un, hok', rr, e⟩ := q
      have e : v = .bl true := e
      subst e
      have eu : u = Value.bool true := rr
      subst eu
      refine ⟨rfl, OldK.of_keep fun b o e => ?_, os, bare⟩
      cases z : H b with
      | none => exact un.keep b o e z (fun y => (List.not_mem_nil (a := b) y).elim) (by simp)
      | some u =>
        obtain ⟨_, _, ob, ys, eu⟩ := hH b u z
        subst eu
        have y1 := (hok b _ z).1
        have y2 := (hok' b _ (un.frzs b ob _ z)).1
        rw [e] at y1
        exact y2.trans y1.symm
  by_cases hk : K.lookup a = none
  · refine go (fun b => if b = a then some (.frz { cls := .type "list", data := .seq vs.toArray } (.lst (ns.map V.int))) else none) ?_ (.inl (.inr ⟨_, if_pos rfl⟩)) ?_
    · intro b u q
      by_cases e : b = a
      · simp only [e, if_true, Option.some.injEq] at q
        exact ⟨e, hk, _, _, q.symm⟩
      · simp only [e, if_false] at q
        exact nomatch q
    · intro b u q
      by_cases e : b = a
      · simp only [e, if_true, Option.some.injEq] at q
        rw [← q, e]
        exact ⟨ha, by simpa using hl, vs, _, rv, ha⟩
      · simp only [e, if_false] at q
        exact nomatch q
  · obtain ⟨o, ho⟩ := Option.ne_none_iff_exists'.mp hk
    have e := KX a o ho
    rw [ha] at e
    simp only [Option.some.injEq] at e
    subst e
    exact go (fun _ => none) (fun b u q => nomatch q) (.inr ⟨_, vs.toArray, _, ho, rfl, rfl, rfl, by rw [List.size_toArray, lv]; exact hl, by simpa using rv⟩) fun b u q => nomatch q
end
theorem walk3 {l : PySem.W.OpenLaw} {n k : Nat} {q : Program} {loose : List Str} {XP : (Str → Option Value) → Heap → Prop} {YP : World → Heap → Prop} {d : DefRec} {K : Params → PySem.W.Frag} {F : List Vl → FO} {x : Str}
    (hn : l.most = some n) (hn2 : n ≤ sizeLine) (hdf : d.params.defaults = []) (hr : Room k callerA) (hY : ∀ (w : World) (h : Heap), YP w h → (K w.params).In h)
    (D : ∀ (w : World) (mg : Str → Option Value) (fa : Addr) (h : Heap), (K w.params).In h → h.Ns mainGlobals mg → mg d.name = some (.ref fa) →
      ∃ fd : FuncData, (∀ (s : Shared) (u : Value), BindsTo s fd ⟨[u], []⟩ [(x, u)]) ∧ ∀ base : Heap, (K w.params).In base → base.Ns mainGlobals mg → FnOk3 l.prog w (K w.params) mg base k fa fd [x] (spOf (K w.params) mg 1 F))
    (hF : ∀ ns : List Int, ns.length ≤ n → ∃ outs, F [.sc ns] = .ok (.bl true) outs) : PySem.W.WalkO q loose XP YP l.row.toRowW d [] (fun f vs => PySem.call f vs) := by
  refine Att.attach_call hn hdf fun w s₀ s₁ mg mb fa o pm cd doc a vs ns G Y ho hd hcd hmg hobj hints hlen hg => ?_
  have KX := hY w _ Y
  obtain ⟨fd, hb, hD⟩ := D w mg fa _ KX G.T.g hmg
  exact law3 KX G.T.g G.T.b G.T.builtins G.T.nolimit hg hobj hints (Nat.le_trans hlen hn2) hr hD hb (hF ns hlen)
end L3

/-! L3s: what evaluators come to on rows of ints. -/
namespace L3
open PySem PySem.Spec PyProof.Rows L2

@[simp] theorem szle (n : Nat) : (n ≤ sizeLine) = (n ≤ 16777216) := by rw [sizeLine_eq]
@[simp] theorem szlt (n : Nat) : (n < sizeLine) = (n < 16777216) := by rw [sizeLine_eq]
theorem okL_ints (n : Nat) : ∀ ns : List Int, okL n (ns.map Vl.int) = true
  | [] => by simp [okL]
  | i :: ns => by
    have := okL_ints n ns
    cases n <;> simp [okL, okD, this]
@[simp] theorem okD_int (n : Nat) (i : Int) : okD n (.int i) = true := by cases n <;> simp [okD]
@[simp] theorem okD_bl (n : Nat) (i : Bool) : okD n (.bl i) = true := by cases n <;> simp [okD]
@[simp] theorem okD_tup (n : Nat) (xs : List Vl) : okD (n + 1) (.tup xs) = okL n xs := by simp [okD]
@[simp] theorem okD_lstS (n : Nat) (o : Bool) (xs : List Vl) : okD (n + 1) (.lst o xs) = okL n xs := by simp [okD]
@[simp] theorem okD_tup50 (xs : List Vl) : okD 50 (.tup xs) = okL 49 xs := by simp [okD]
@[simp] theorem okD_lst50 (o : Bool) (xs : List Vl) : okD 50 (.lst o xs) = okL 49 xs := by simp [okD]
@[simp] theorem okL_ints' (n : Nat) (ns : List Int) : okL n (ns.map Vl.int) = true := okL_ints n ns
@[simp] theorem okL_nil (n : Nat) : okL n [] = true := by simp [okL]
@[simp] theorem okL_cons (n : Nat) (x : Vl) (xs : List Vl) : okL n (x :: xs) = (okD n x && okL n xs) := by simp [okL]
@[simp] theorem vEq_int (i j : Int) : vEq (.int i) (.int j) = decide (i = j) := by
  simp only [vEq]
  by_cases h : i = j <;> simp [h]
@[simp] theorem vEqL_nil : vEqL [] [] = true := by simp [vEqL]
theorem vEqL_ints : ∀ a b : List Int, vEqL (a.map Vl.int) (b.map Vl.int) = decide (a = b)
  | [], [] => by simp [vEqL]
  | [], b :: bs => by simp [vEqL]
  | a :: as, [] => by simp [vEqL]
  | a :: as, b :: bs => by
    have := vEqL_ints as bs
    simp only [List.map_cons, vEqL, vEq_int, this]
    by_cases h : a = b <;> by_cases h2 : as = bs <;> simp [h, h2]
@[simp] theorem vEq_tup (a b : List Vl) : vEq (.tup a) (.tup b) = vEqL a b := by simp [vEq]
@[simp] theorem vEq_lst (o o' : Bool) (a b : List Vl) : vEq (.lst o a) (.lst o' b) = vEqL a b := by simp [vEq]
@[simp] theorem eqI (i j : Int) : eqV3 (.int i) (.int j) = some (.bl (decide (i = j))) := by simp [eqV3]
@[simp] theorem neI (i j : Int) : neV3 (.int i) (.int j) = some (.bl (!decide (i = j))) := by simp [neV3]
@[simp] theorem neL0 (o o' : Bool) (a : List Int) : neV3 (.lst o (a.map .int)) (.lst o' []) = some (.bl (decide (a ≠ []))) := by
  have := vEqL_ints a []
  simp only [List.map_nil] at this
  simp [neV3, this]
@[simp] theorem eqL0 (o o' : Bool) (a : List Int) : eqV3 (.lst o (a.map .int)) (.lst o' []) = some (.bl (decide (a = []))) := by
  have := vEqL_ints a []
  simp only [List.map_nil] at this
  simp [eqV3, this]
theorem any_ints (i : Int) : ∀ ns : List Int, ((ns.map Vl.int).any fun z => vEq z (.int i)) = decide (i ∈ ns)
  | [] => by simp
  | n :: ns => by
    have := any_ints i ns
    simp only [List.map_cons, List.any_cons, vEq_int, this]
    by_cases h : n = i
    · simp [h]
    · have h' : ¬ i = n := fun e => h e.symm
      simp [h, h']
@[simp] theorem inL (o : Bool) (i : Int) (ns : List Int) : inV3 (.int i) (.lst o (ns.map .int)) = some (.bl (decide (i ∈ ns))) := by
  simp only [inV3, inB, okD_int, okL_ints', and_self, if_true, any_ints, Option.map_some]
@[simp] theorem notInL (o : Bool) (i : Int) (ns : List Int) : notInV3 (.int i) (.lst o (ns.map .int)) = some (.bl (!decide (i ∈ ns))) := by
  simp only [notInV3, inB, okD_int, okL_ints', and_self, if_true, any_ints, Option.map_some]
theorem flat_ints (ns : List Int) : (ns.map Vl.int).all flatL = true := by simp [flatL]
@[simp] theorem inT (i : Int) (ns : List Int) : inV3 (.int i) (.tup (ns.map .int)) = some (.bl (decide (i ∈ ns))) := by
  simp only [inV3, inB, flat_ints, flatL, and_self, if_true, any_ints, Option.map_some]
@[simp] theorem notInT (i : Int) (ns : List Int) : notInV3 (.int i) (.tup (ns.map .int)) = some (.bl (!decide (i ∈ ns))) := by
  simp only [notInV3, inB, flat_ints, flatL, and_self, if_true, any_ints, Option.map_some]
@[simp] theorem notInT2 (i a b : Int) : notInV3 (.int i) (.tup [.int a, .int b]) = some (.bl (!decide (i = a ∨ i = b))) := by
  have := notInT i [a, b]
  simp only [List.map_cons, List.map_nil, List.mem_cons, List.not_mem_nil, or_false] at this
  rw [this]
@[simp] theorem intsOf_map' (ns : List Int) : intsOf (ns.map Vl.int) = some ns := intsOf_map ns
@[simp] theorem blsOf_map' (ns : List Bool) : blsOf (ns.map Vl.bl) = some ns := blsOf_map ns
@[simp] theorem purL_ints' (ns : List Int) : PurL (ns.map Vl.int) = true := purL_ints ns
@[simp] theorem purL_nil : PurL [] = true := rfl
@[simp] theorem purL_cons (x : Vl) (xs : List Vl) : PurL (x :: xs) = (Pur x && PurL xs) := rfl
theorem fzL_ints : ∀ ns : List Int, fzL (ns.map Vl.int) = ns.map Vl.int
  | [] => rfl
  | n :: ns => by simp [fzL_ints ns]
@[simp] theorem fzL_ints' (ns : List Int) : fzL (ns.map Vl.int) = ns.map Vl.int := fzL_ints ns
@[simp] theorem cutG_map {α β : Type} (f : α → β) (xs : List α) (l h : Option Int) : cutG (xs.map f) l h = (cutG xs l h).map f := by
  unfold cutG
  rw [List.length_map, List.map_take, List.map_drop]
theorem atI_map {α β : Type} (f : α → β) (xs : List α) (i : Int) : atI (xs.map f) i = (atI xs i).map f := by
  unfold atI
  rw [List.length_map]
  cases ixN xs.length i with
  | none => rfl
  | some j => simp
@[simp] theorem ixTup (xs : List Int) (i : Int) : ixV (.tup (xs.map .int)) (.int i) = (atI xs i).map Vl.int := by
  simp only [ixV, atI_map]
  cases atI xs i <;> simp
@[simp] theorem ixLst (o : Bool) (xs : List Int) (i : Int) : ixV (.lst o (xs.map .int)) (.int i) = (atI xs i).map Vl.int := by
  simp only [ixV, atI_map]
  cases atI xs i <;> simp
@[simp] theorem ixSc (xs : List Int) (i : Int) : ixV (.sc xs) (.int i) = (atI xs i).map Vl.int := by simp only [ixV]
theorem atI_pos {α : Type} {xs : List α} {i : Int} {k : Nat} (h : i = (k : Int)) (hk : k < xs.length) : atI xs i = xs[k]? := by
  subst h
  rw [List.getElem?_eq_getElem hk]
  exact atI_nat (List.getElem?_eq_getElem hk)
theorem ixN_pos {n k : Nat} {i : Int} (h : i = (k : Int)) (hk : k < n) : ixN n i = some k := by
  subst h
  unfold ixN
  rw [if_pos (by omega), if_pos (by omega)]; simp
theorem atI_last {α : Type} (xs : List α) (h : xs ≠ []) : atI xs (-1) = xs.getLast? := by
  have hl : 0 < xs.length := List.length_pos_iff.mpr h
  unfold atI ixN
  rw [if_neg (by omega), if_pos (by omega)]
  simp only [Option.bind_some]
  rw [List.getLast?_eq_getElem?]
  congr 1
  omega
theorem rngL_ints (lo hi : Int) : rngL lo hi = ((List.range (hi - lo).toNat).map fun k => lo + (k : Nat)).map Vl.int := by simp [rngL]
/-- the ints lo .. hi - 1 -/
def rgI (lo hi : Int) : List Int := (List.range (hi - lo).toNat).map fun k => lo + (k : Nat)
theorem rngL_rgI (lo hi : Int) : rngL lo hi = (rgI lo hi).map Vl.int := rngL_ints lo hi
theorem mem_rgI {lo hi i : Int} : i ∈ rgI lo hi ↔ lo ≤ i ∧ i < hi := by
  unfold rgI
  simp only [List.mem_map, List.mem_range]
  constructor
  · rintro ⟨k, hk, rfl⟩; omega
  · rintro ⟨h1, h2⟩; exact ⟨(i - lo).toNat, by omega, by omega⟩
theorem len_rgI (lo hi : Int) : (rgI lo hi).length = (hi - lo).toNat := by simp [rgI]

/-! ### steps of evaluators: what follows is looked at when its turn comes -/
section
variable {α : Type}
def oV : Option Vl → S → Out Ag | some z, s => .ok (.v z) s | none, _ => .no
@[simp] theorem oV_s (z : Vl) (s : S) : oV (some z) s = .ok (.v z) s := rfl
@[simp] theorem oV_n (s : S) : oV none s = .no := rfl
@[simp] theorem x_eK (x : Vl) (s : S) : eK x s = .ok (.v x) s := rfl
def nmO (i : Nat) (s : S) : Option Vl → Out Ag | some .hole => .no | some _ => .ok (.at i) s | none => .no
@[simp] theorem x_eN (i : Nat) (s : S) : eN i s = nmO i s s[i]? := by unfold eN nmO; rfl
@[simp] theorem nm_int (i : Nat) (s : S) (n : Int) : nmO i s (some (.int n)) = .ok (.at i) s := rfl
@[simp] theorem nm_bl (i : Nat) (s : S) (n : Bool) : nmO i s (some (.bl n)) = .ok (.at i) s := rfl
@[simp] theorem nm_tup (i : Nat) (s : S) (n : List Vl) : nmO i s (some (.tup n)) = .ok (.at i) s := rfl
@[simp] theorem nm_lst (i : Nat) (s : S) (o : Bool) (n : List Vl) : nmO i s (some (.lst o n)) = .ok (.at i) s := rfl
@[simp] theorem nm_sc (i : Nat) (s : S) (n : List Int) : nmO i s (some (.sc n)) = .ok (.at i) s := rfl
@[simp] theorem nm_str (i : Nat) (s : S) (n : Str) : nmO i s (some (.str n)) = .ok (.at i) s := rfl
@[simp] theorem nm_non (i : Nat) (s : S) : nmO i s (some .non) = .ok (.at i) s := rfl
@[simp] theorem nm_raw (i : Nat) (s : S) (v : V) : nmO i s (some (.raw v)) = .ok (.at i) s := rfl
def k2b (f : Vl → Vl → Option Vl) (a : Ag) (b : Ag) (s : S) : Out Ag := oV (f (res s a) (res s b)) s
def k2 (f : Vl → Vl → Option Vl) (eb : S → Out Ag) (a : Ag) (s : S) : Out Ag := (eb s).bind (k2b f a)
theorem bind_ext {α β : Type} {o : Out α} {f g : α → S → Out β} (h : ∀ a s, f a s = g a s) : o.bind f = o.bind g := by cases o <;> simp [Out.bind, h]
theorem oV_m (o : Option Vl) (s : S) : (match o with | some z => Out.ok (Ag.v z) s | none => .no) = oV o s := by cases o <;> rfl
@[simp] theorem x_e2 (f : Vl → Vl → Option Vl) (ea eb : S → Out Ag) (s : S) : e2 f ea eb s = (ea s).bind (k2 f eb) := bind_ext fun a s1 => bind_ext fun b s2 => oV_m _ _
@[simp] theorem x_k2 (f : Vl → Vl → Option Vl) (eb : S → Out Ag) (a : Ag) (s : S) : k2 f eb a s = (eb s).bind (k2b f a) := rfl
@[simp] theorem x_k2b (f : Vl → Vl → Option Vl) (a b : Ag) (s : S) : k2b f a b s = oV (f (res s a) (res s b)) s := rfl
def k1 (f : Vl → Option Vl) (a : Ag) (s : S) : Out Ag := oV (f (res s a)) s
@[simp] theorem x_e1 (f : Vl → Option Vl) (ea : S → Out Ag) (s : S) : e1 f ea s = (ea s).bind (k1 f) := bind_ext fun a s1 => oV_m _ _
@[simp] theorem x_k1 (f : Vl → Option Vl) (a : Ag) (s : S) : k1 f a s = oV (f (res s a)) s := rfl
def kL (f : List Vl → Option Vl) (as : List Ag) (s : S) : Out Ag := oV (f (as.map (res s))) s
@[simp] theorem x_eL (f : List Vl → Option Vl) (ea : S → Out (List Ag)) (s : S) : eL f ea s = (ea s).bind (kL f) := bind_ext fun a s1 => oV_m _ _
@[simp] theorem x_kL (f : List Vl → Option Vl) (as : List Ag) (s : S) : kL f as s = oV (f (as.map (res s))) s := rfl
@[simp] theorem x_aNil (s : S) : aNil s = .ok [] s := rfl
def kA2 (a : Ag) (as : List Ag) (s : S) : Out (List Ag) := .ok (a :: as) s
def kA (er : S → Out (List Ag)) (a : Ag) (s : S) : Out (List Ag) := (er s).bind (kA2 a)
@[simp] theorem x_aCons (ea : S → Out Ag) (er : S → Out (List Ag)) (s : S) : aCons ea er s = (ea s).bind (kA er) := rfl
@[simp] theorem x_kA (er : S → Out (List Ag)) (a : Ag) (s : S) : kA er a s = (er s).bind (kA2 a) := rfl
@[simp] theorem x_kA2 (a : Ag) (as : List Ag) (s : S) : kA2 a as s = .ok (a :: as) s := rfl
@[simp] theorem x_sNil (s : S) : sNil s = .ok .nx s := rfl
@[simp] theorem x_sNo (s : S) : sNo s = .no := rfl
def kCons (e2 : S → Out Fl) : Fl → S → Out Fl | .nx, s => e2 s | .rt v, s => .ok (.rt v) s
@[simp] theorem x_sCons (e1 e2 : S → Out Fl) (s : S) : sCons e1 e2 s = (e1 s).bind (kCons e2) := bind_ext fun a s1 => by cases a <;> rfl
@[simp] theorem x_kCons (e2 : S → Out Fl) (s : S) : kCons e2 .nx s = e2 s := rfl
@[simp] theorem x_kConsR (e2 : S → Out Fl) (v : Vl) (s : S) : kCons e2 (.rt v) s = .ok (.rt v) s := rfl
def sto (i : Nat) : Option (Vl × S) → Out Fl | some (x, s) => if i < s.length then .ok .nx (s.set i x) else .no | none => .no
def kSet (i : Nat) (a : Ag) (s : S) : Out Fl := sto i (toV s a)
@[simp] theorem x_sSet (i : Nat) (e : S → Out Ag) (s : S) : sSet i e s = (e s).bind (kSet i) := bind_ext fun a s1 => by
  unfold kSet
  cases toV s1 a with
  | none => rfl
  | some p =>
    obtain ⟨x, s2⟩ := p
    simp only [sto]
    by_cases h : i < s2.length
    · simp [h]
    · simp [h]
@[simp] theorem x_kSet (i : Nat) (a : Ag) (s : S) : kSet i a s = sto i (toV s a) := rfl
@[simp] theorem x_sto (i : Nat) (x : Vl) (s : S) : sto i (some (x, s)) = if i < s.length then .ok .nx (s.set i x) else .no := rfl
def kDrop (_ : Ag) (s : S) : Out Fl := .ok .nx s
@[simp] theorem x_sDrop (e : S → Out Ag) (s : S) : sDrop e s = (e s).bind kDrop := rfl
@[simp] theorem x_kDrop (a : Ag) (s : S) : kDrop a s = .ok .nx s := rfl
def rtO : Option (Vl × S) → Out Fl | some (x, s) => .ok (.rt x) s | none => .no
def kRet (fx : List Nat) (a : Ag) (s : S) : Out Fl := rtO (toR fx s a)
@[simp] theorem x_sRet (fx : List Nat) (e : S → Out Ag) (s : S) : sRet fx e s = (e s).bind (kRet fx) := bind_ext fun a s1 => by
  unfold kRet
  cases toR fx s1 a with
  | none => rfl
  | some p => rfl
@[simp] theorem x_kRet (fx : List Nat) (a : Ag) (s : S) : kRet fx a s = rtO (toR fx s a) := rfl
@[simp] theorem x_rtO (x : Vl) (s : S) : rtO (some (x, s)) = .ok (.rt x) s := rfl
def kIf (e1 e2 : S → Out α) : Bool → S → Out α | true, s => e1 s | false, s => e2 s
@[simp] theorem x_sIf (t : S → Out Bool) (e1 e2 : S → Out Fl) (s : S) : sIf t e1 e2 s = (t s).bind (kIf e1 e2) := bind_ext fun a s1 => by cases a <;> rfl
@[simp] theorem x_eIf (t : S → Out Bool) (e1 e2 : S → Out Ag) (s : S) : eIf t e1 e2 s = (t s).bind (kIf e1 e2) := bind_ext fun a s1 => by cases a <;> rfl
@[simp] theorem x_kIfT (e1 e2 : S → Out α) (s : S) : kIf e1 e2 true s = e1 s := rfl
@[simp] theorem x_kIfF (e1 e2 : S → Out α) (s : S) : kIf e1 e2 false s = e2 s := rfl
def kForT (as : Vl → S → Option S) (b : S → Out Fl) (xs : List Vl) : Fl → S → Out Fl | .nx, s => forF as b xs s | .rt v, s => .ok (.rt v) s
def forT (as : Vl → S → Option S) (b : S → Out Fl) (xs : List Vl) : Option S → Out Fl | some s => (b s).bind (kForT as b xs) | none => .no
@[simp] theorem x_for0 (as : Vl → S → Option S) (b : S → Out Fl) (s : S) : forF as b [] s = .ok .nx s := rfl
@[simp] theorem x_for1 (as : Vl → S → Option S) (b : S → Out Fl) (x : Vl) (xs : List Vl) (s : S) : forF as b (x :: xs) s = forT as b xs (as x s) := by
  simp only [forF]
  cases as x s with
  | none => rfl
  | some s1 => exact bind_ext fun a s => by cases a <;> rfl
@[simp] theorem x_forT (as : Vl → S → Option S) (b : S → Out Fl) (xs : List Vl) (s : S) : forT as b xs (some s) = (b s).bind (kForT as b xs) := rfl
@[simp] theorem x_kForT (as : Vl → S → Option S) (b : S → Out Fl) (xs : List Vl) (s : S) : kForT as b xs .nx s = forF as b xs s := rfl
@[simp] theorem x_kForR (as : Vl → S → Option S) (b : S → Out Fl) (xs : List Vl) (v : Vl) (s : S) : kForT as b xs (.rt v) s = .ok (.rt v) s := rfl
def kFor (as : Vl → S → Option S) (b : S → Out Fl) (xs : List Vl) (s : S) : Out Fl := forF as b xs s
@[simp] theorem x_sFor (ei : S → Out (List Vl)) (as : Vl → S → Option S) (b : S → Out Fl) (s : S) : sFor ei as b s = (ei s).bind (kFor as b) := rfl
@[simp] theorem x_kFor (as : Vl → S → Option S) (b : S → Out Fl) (xs : List Vl) (s : S) : kFor as b xs s = forF as b xs s := rfl
def finO : Option S → Out Fl | some s => .ok .nx s | none => .no
def asgO (as : Vl → S → Option S) : Option (Vl × S) → Out Fl | some (x, s) => finO (as x s) | none => .no
def kAsg (as : Vl → S → Option S) (a : Ag) (s : S) : Out Fl := asgO as (toV s a)
@[simp] theorem x_sAsg (ev : S → Out Ag) (as : Vl → S → Option S) (s : S) : sAsg ev as s = (ev s).bind (kAsg as) := bind_ext fun a s1 => by
  unfold kAsg
  cases toV s1 a with
  | none => rfl
  | some p =>
    obtain ⟨x, s2⟩ := p
    simp only [asgO]
    cases as x s2 <;> rfl
@[simp] theorem x_kAsg (as : Vl → S → Option S) (a : Ag) (s : S) : kAsg as a s = asgO as (toV s a) := rfl
@[simp] theorem x_asgO (as : Vl → S → Option S) (x : Vl) (s : S) : asgO as (some (x, s)) = finO (as x s) := rfl
@[simp] theorem x_finO (s : S) : finO (some s) = .ok .nx s := rfl
def parO (i j : Nat) : Option (List Vl × S) → Out Fl | some ([x, y], s) => if i < s.length ∧ j < s.length then .ok .nx ((s.set i x).set j y) else .no | _ => .no
def kPar (i j : Nat) (as : List Ag) (s : S) : Out Fl := parO i j (valAll false s as)
@[simp] theorem x_sPar (i j : Nat) (ea : S → Out (List Ag)) (s : S) : sPar i j ea s = (ea s).bind (kPar i j) := bind_ext fun a s1 => by
  unfold kPar parO
  rfl
@[simp] theorem x_kPar (i j : Nat) (as : List Ag) (s : S) : kPar i j as s = parO i j (valAll false s as) := rfl
@[simp] theorem x_parO (i j : Nat) (x y : Vl) (s : S) : parO i j (some ([x, y], s)) = if i < s.length ∧ j < s.length then .ok .nx ((s.set i x).set j y) else .no := rfl
def tvO : Option Bool → S → Out Bool | some b, s => .ok b s | none, _ => .no
def kTv (a : Ag) (s : S) : Out Bool := tvO (truV (res s a)) s
@[simp] theorem x_tVal (e : S → Out Ag) (s : S) : tVal e s = (e s).bind kTv := bind_ext fun a s1 => by unfold kTv; cases truV (res s1 a) <;> rfl
@[simp] theorem x_kTv (a : Ag) (s : S) : kTv a s = tvO (truV (res s a)) s := rfl
@[simp] theorem x_tvO (b : Bool) (s : S) : tvO (some b) s = .ok b s := rfl
def tbO : Option Vl → S → Out Bool | some (.bl k), s => .ok k s | _, _ => .no
def kt2b (f : Vl → Vl → Option Vl) (a b : Ag) (s : S) : Out Bool := tbO (f (res s a) (res s b)) s
def kt2 (f : Vl → Vl → Option Vl) (eb : S → Out Ag) (a : Ag) (s : S) : Out Bool := (eb s).bind (kt2b f a)
@[simp] theorem x_t2 (f : Vl → Vl → Option Vl) (ea eb : S → Out Ag) (s : S) : t2 f ea eb s = (ea s).bind (kt2 f eb) := bind_ext fun a s1 => bind_ext fun b s2 => by
  unfold kt2b
  cases f (res s2 a) (res s2 b) with
  | none => rfl
  | some z => cases z <;> rfl
@[simp] theorem x_kt2 (f : Vl → Vl → Option Vl) (eb : S → Out Ag) (a : Ag) (s : S) : kt2 f eb a s = (eb s).bind (kt2b f a) := rfl
@[simp] theorem x_kt2b (f : Vl → Vl → Option Vl) (a b : Ag) (s : S) : kt2b f a b s = tbO (f (res s a) (res s b)) s := rfl
@[simp] theorem x_tbO (b : Bool) (s : S) : tbO (some (.bl b)) s = .ok b s := rfl
def kTbl : Ag → S → Out Bool | .v (.bl b), s => .ok b s | _, _ => .no
@[simp] theorem x_tBl (e : S → Out Ag) (s : S) : tBl e s = (e s).bind kTbl := bind_ext fun a s1 => by
  cases a with
  | v x => cases x <;> rfl
  | «at» i => rfl
@[simp] theorem x_kTbl (b : Bool) (s : S) : kTbl (.v (.bl b)) s = .ok b s := rfl
def kNotB (b : Bool) (s : S) : Out Bool := .ok (!b) s
@[simp] theorem x_tNotB (e : S → Out Bool) (s : S) : tNotB e s = (e s).bind kNotB := rfl
@[simp] theorem x_kNotB (b : Bool) (s : S) : kNotB b s = .ok (!b) s := rfl
@[simp] theorem x_tTrue (s : S) : tTrue s = .ok true s := rfl
def kAndB (e2 : S → Out Bool) : Bool → S → Out Bool | true, s => e2 s | false, s => .ok false s
def kOrB (e2 : S → Out Bool) : Bool → S → Out Bool | true, s => .ok true s | false, s => e2 s
@[simp] theorem x_tAndB (e1 e2 : S → Out Bool) (s : S) : tAndB e1 e2 s = (e1 s).bind (kAndB e2) := bind_ext fun a s1 => by cases a <;> rfl
@[simp] theorem x_tOrB (e1 e2 : S → Out Bool) (s : S) : tOrB e1 e2 s = (e1 s).bind (kOrB e2) := bind_ext fun a s1 => by cases a <;> rfl
@[simp] theorem x_kAndT (e2 : S → Out Bool) (s : S) : kAndB e2 true s = e2 s := rfl
@[simp] theorem x_kAndF (e2 : S → Out Bool) (s : S) : kAndB e2 false s = .ok false s := rfl
@[simp] theorem x_kOrT (e2 : S → Out Bool) (s : S) : kOrB e2 true s = .ok true s := rfl
@[simp] theorem x_kOrF (e2 : S → Out Bool) (s : S) : kOrB e2 false s = e2 s := rfl
def and2 (e2 : S → Out Ag) : Option Bool → S → Out Ag | some true, s => e2 s | some false, s => .ok (.v (.bl false)) s | none, _ => .no
def or2 (e2 : S → Out Ag) : Option Bool → S → Out Ag | some true, s => .ok (.v (.bl true)) s | some false, s => e2 s | none, _ => .no
def kAnd (e2 : S → Out Ag) (a : Ag) (s : S) : Out Ag := and2 e2 (asB (res s a)) s
def kOr (e2 : S → Out Ag) (a : Ag) (s : S) : Out Ag := or2 e2 (asB (res s a)) s
@[simp] theorem x_eAnd (e1 e2 : S → Out Ag) (s : S) : eAnd e1 e2 s = (e1 s).bind (kAnd e2) := bind_ext fun a s1 => by
  unfold kAnd
  cases asB (res s1 a) with
  | none => rfl
  | some b => cases b <;> rfl
@[simp] theorem x_eOr (e1 e2 : S → Out Ag) (s : S) : eOr e1 e2 s = (e1 s).bind (kOr e2) := bind_ext fun a s1 => by
  unfold kOr
  cases asB (res s1 a) with
  | none => rfl
  | some b => cases b <;> rfl
@[simp] theorem x_kAnd (e2 : S → Out Ag) (a : Ag) (s : S) : kAnd e2 a s = and2 e2 (asB (res s a)) s := rfl
@[simp] theorem x_kOr (e2 : S → Out Ag) (a : Ag) (s : S) : kOr e2 a s = or2 e2 (asB (res s a)) s := rfl
@[simp] theorem x_and2T (e2 : S → Out Ag) (s : S) : and2 e2 (some true) s = e2 s := rfl
@[simp] theorem x_and2F (e2 : S → Out Ag) (s : S) : and2 e2 (some false) s = .ok (.v (.bl false)) s := rfl
@[simp] theorem x_or2T (e2 : S → Out Ag) (s : S) : or2 e2 (some true) s = .ok (.v (.bl true)) s := rfl
@[simp] theorem x_or2F (e2 : S → Out Ag) (s : S) : or2 e2 (some false) s = e2 s := rfl
def notO : Option Bool → S → Out Ag | some b, s => .ok (.v (.bl (!b))) s | none, _ => .no
def kNotE (a : Ag) (s : S) : Out Ag := notO (asB (res s a)) s
@[simp] theorem x_eNot (e : S → Out Ag) (s : S) : eNot e s = (e s).bind kNotE := bind_ext fun a s1 => by
  unfold kNotE
  cases res s1 a <;> rfl
@[simp] theorem x_kNotE (a : Ag) (s : S) : kNotE a s = notO (asB (res s a)) s := rfl
@[simp] theorem x_notO (b : Bool) (s : S) : notO (some b) s = .ok (.v (.bl (!b))) s := rfl
def kCh3 (g : Vl → Vl → Option Vl) (b d : Ag) (s : S) : Out Ag := oV (g (res s b) (res s d)) s
def chO (g : Vl → Vl → Option Vl) (ec : S → Out Ag) (b : Ag) (s : S) : Option Vl → Out Ag
  | some (.bl true) => (ec s).bind (kCh3 g b)
  | some (.bl false) => .ok (.v (.bl false)) s
  | _ => .no
def kCh2 (f g : Vl → Vl → Option Vl) (ec : S → Out Ag) (a b : Ag) (s : S) : Out Ag := chO g ec b s (f (res s a) (res s b))
def kCh (f g : Vl → Vl → Option Vl) (eb ec : S → Out Ag) (a : Ag) (s : S) : Out Ag := (eb s).bind (kCh2 f g ec a)
@[simp] theorem x_eChain (f g : Vl → Vl → Option Vl) (ea eb ec : S → Out Ag) (s : S) : eChain f g ea eb ec s = (ea s).bind (kCh f g eb ec) := bind_ext fun a s1 => bind_ext fun b s2 => by
  unfold kCh2
  cases f (res s2 a) (res s2 b) with
  | none => rfl
  | some z =>
    cases z with
    | bl k =>
      cases k with
      | true => exact bind_ext fun d s3 => oV_m _ _
      | false => rfl
    | _ => rfl
@[simp] theorem x_kCh (f g : Vl → Vl → Option Vl) (eb ec : S → Out Ag) (a : Ag) (s : S) : kCh f g eb ec a s = (eb s).bind (kCh2 f g ec a) := rfl
@[simp] theorem x_kCh2 (f g : Vl → Vl → Option Vl) (ec : S → Out Ag) (a b : Ag) (s : S) : kCh2 f g ec a b s = chO g ec b s (f (res s a) (res s b)) := rfl
@[simp] theorem x_chT (g : Vl → Vl → Option Vl) (ec : S → Out Ag) (b : Ag) (s : S) : chO g ec b s (some (.bl true)) = (ec s).bind (kCh3 g b) := rfl
@[simp] theorem x_chF (g : Vl → Vl → Option Vl) (ec : S → Out Ag) (b : Ag) (s : S) : chO g ec b s (some (.bl false)) = .ok (.v (.bl false)) s := rfl
@[simp] theorem x_kCh3 (g : Vl → Vl → Option Vl) (b d : Ag) (s : S) : kCh3 g b d s = oV (g (res s b) (res s d)) s := rfl
def kSl3 (a : Ag) (l h : Option Int) (s : S) : Out Ag := oV (slV l h (res s a)) s
def kSl2 (hi : OI) (a : Ag) (l : Option Int) (s : S) : Out Ag := (hi s).bind (kSl3 a l)
def kSl (lo hi : OI) (a : Ag) (s : S) : Out Ag := (lo s).bind (kSl2 hi a)
@[simp] theorem x_eSl (ea : S → Out Ag) (lo hi : OI) (s : S) : eSl ea lo hi s = (ea s).bind (kSl lo hi) := bind_ext fun a s1 => bind_ext fun l s2 => bind_ext fun h s3 => oV_m _ _
@[simp] theorem x_kSl (lo hi : OI) (a : Ag) (s : S) : kSl lo hi a s = (lo s).bind (kSl2 hi a) := rfl
@[simp] theorem x_kSl2 (hi : OI) (a : Ag) (l : Option Int) (s : S) : kSl2 hi a l s = (hi s).bind (kSl3 a l) := rfl
@[simp] theorem x_kSl3 (a : Ag) (l h : Option Int) (s : S) : kSl3 a l h s = oV (slV l h (res s a)) s := rfl
def koO : Vl → S → Out (Option Int) | .int i, s => .ok (some i) s | _, _ => .no
def kO (a : Ag) (s : S) : Out (Option Int) := koO (res s a) s
@[simp] theorem x_oNone (s : S) : oNone s = .ok none s := rfl
@[simp] theorem x_oSome (ea : S → Out Ag) (s : S) : oSome ea s = (ea s).bind kO := bind_ext fun a s1 => by unfold kO; cases res s1 a <;> rfl
@[simp] theorem x_kO (a : Ag) (s : S) : kO a s = koO (res s a) s := rfl
@[simp] theorem x_koO (i : Int) (s : S) : koO (.int i) s = .ok (some i) s := rfl
def tpO : Option (List Vl × S) → Out Ag | some (xs, s) => if xs.length ≤ sizeLine then .ok (.v (.tup xs)) s else .no | none => .no
def lsO : Option (List Vl × S) → Out Ag | some (xs, s) => if xs.length ≤ sizeLine then .ok (.v (.lst true xs)) s else .no | none => .no
def kTup (as : List Ag) (s : S) : Out Ag := tpO (valAll true s as)
def kLst (as : List Ag) (s : S) : Out Ag := lsO (valAll true s as)
@[simp] theorem x_eTup (ea : S → Out (List Ag)) (s : S) : eTup ea s = (ea s).bind kTup := bind_ext fun a s1 => by unfold kTup; cases valAll true s1 a <;> rfl
@[simp] theorem x_eLst (ea : S → Out (List Ag)) (s : S) : eLst ea s = (ea s).bind kLst := bind_ext fun a s1 => by unfold kLst; cases valAll true s1 a <;> rfl
@[simp] theorem x_kTup (as : List Ag) (s : S) : kTup as s = tpO (valAll true s as) := rfl
@[simp] theorem x_kLst (as : List Ag) (s : S) : kLst as s = lsO (valAll true s as) := rfl
@[simp] theorem x_tpO (xs : List Vl) (s : S) : tpO (some (xs, s)) = if xs.length ≤ sizeLine then .ok (.v (.tup xs)) s else .no := rfl
@[simp] theorem x_lsO (xs : List Vl) (s : S) : lsO (some (xs, s)) = if xs.length ≤ sizeLine then .ok (.v (.lst true xs)) s else .no := rfl
def kLc2 (ys : List Vl) (s : S) : Out Ag := .ok (.v (.lst true ys)) s
def kLc (vs : List Nat) (as : Vl → S → Option S) (et : S → Out Bool) (ee : S → Out Ag) (xs : List Vl) (s : S) : Out Ag := if xs.length < sizeLine then (lcF vs as et ee xs (wipeS s vs) []).bind kLc2 else .no
@[simp] theorem x_eLc (vs : List Nat) (ei : S → Out (List Vl)) (as : Vl → S → Option S) (et : S → Out Bool) (ee : S → Out Ag) (s : S) : eLc vs ei as et ee s = (ei s).bind (kLc vs as et ee) := rfl
@[simp] theorem x_kLc (vs : List Nat) (as : Vl → S → Option S) (et : S → Out Bool) (ee : S → Out Ag) (xs : List Vl) (s : S) : kLc vs as et ee xs s = if xs.length < sizeLine then (lcF vs as et ee xs (wipeS s vs) []).bind kLc2 else .no := rfl
@[simp] theorem x_kLc2 (ys : List Vl) (s : S) : kLc2 ys s = .ok (.v (.lst true ys)) s := rfl
@[simp] theorem x_lc0 (vs : List Nat) (as : Vl → S → Option S) (et : S → Out Bool) (ee : S → Out Ag) (s : S) (acc : List Vl) : lcF vs as et ee [] s acc = .ok acc s := rfl
def mutD (i : Nat) (s : S) : Option (List Vl × Vl) → Out Ag | some (xs, z) => .ok (.v z) (s.set i (.lst true xs)) | none => .no
def mutC (i : Nat) (f : List Vl → List Vl → Option (List Vl × Vl)) (ys : List Vl) (s : S) : Option Vl → Out Ag | some (.lst true xs) => mutD i s (f xs ys) | _ => .no
def mutB (i : Nat) (f : List Vl → List Vl → Option (List Vl × Vl)) : Option (List Vl × S) → Out Ag | some (ys, s) => mutC i f ys s s[i]? | none => .no
def kMut (i : Nat) (f : List Vl → List Vl → Option (List Vl × Vl)) (as : List Ag) (s : S) : Out Ag := mutB i f (valAll true s as)
def mutA (i : Nat) (f : List Vl → List Vl → Option (List Vl × Vl)) (ea : S → Out (List Ag)) (s : S) : Option Vl → Out Ag | some (.lst true _) => (ea s).bind (kMut i f) | _ => .no
theorem mutD_m (i : Nat) (s : S) (o : Option (List Vl × Vl)) : (match o with | some (xs', z) => Out.ok (Ag.v z) (s.set i (.lst true xs')) | none => .no) = mutD i s o := by
  cases o with
  | none => rfl
  | some p => rfl
@[simp] theorem x_eMut (i : Nat) (f : List Vl → List Vl → Option (List Vl × Vl)) (ea : S → Out (List Ag)) (s : S) : eMut i f ea s = mutA i f ea s s[i]? := by
  unfold eMut
  cases s[i]? with
  | none => rfl
  | some x =>
    cases x with
    | lst o xs =>
      cases o with
      | false => rfl
      | true =>
        refine bind_ext fun as s1 => ?_
        unfold kMut
        cases valAll true s1 as with
        | none => rfl
        | some p =>
          obtain ⟨ys, s2⟩ := p
          show (match s2[i]? with | some (.lst true xs) => _ | _ => _) = mutC i f ys s2 s2[i]?
          cases s2[i]? with
          | none => rfl
          | some x =>
            cases x with
            | lst o xs =>
              cases o with
              | false => rfl
              | true => exact mutD_m i s2 (f xs ys)
            | _ => rfl
    | _ => rfl
@[simp] theorem x_mutA (i : Nat) (f : List Vl → List Vl → Option (List Vl × Vl)) (ea : S → Out (List Ag)) (s : S) (xs : List Vl) : mutA i f ea s (some (.lst true xs)) = (ea s).bind (kMut i f) := rfl
@[simp] theorem x_kMut (i : Nat) (f : List Vl → List Vl → Option (List Vl × Vl)) (as : List Ag) (s : S) : kMut i f as s = mutB i f (valAll true s as) := rfl
@[simp] theorem x_mutB (i : Nat) (f : List Vl → List Vl → Option (List Vl × Vl)) (ys : List Vl) (s : S) : mutB i f (some (ys, s)) = mutC i f ys s s[i]? := rfl
@[simp] theorem x_mutC (i : Nat) (f : List Vl → List Vl → Option (List Vl × Vl)) (ys : List Vl) (s : S) (xs : List Vl) : mutC i f ys s (some (.lst true xs)) = mutD i s (f xs ys) := rfl
@[simp] theorem x_mutD (i : Nat) (s : S) (xs : List Vl) (z : Vl) : mutD i s (some (xs, z)) = .ok (.v z) (s.set i (.lst true xs)) := rfl
def mut0 (i : Nat) (f : List Vl → List Vl → Option (List Vl × Vl)) (s : S) : Option Vl → Out Ag | some (.lst true xs) => mutD i s (f xs []) | _ => .no
@[simp] theorem x_eMut0 (i : Nat) (f : List Vl → List Vl → Option (List Vl × Vl)) (s : S) : eMut0 i f s = mut0 i f s s[i]? := by
  unfold eMut0
  cases s[i]? with
  | none => rfl
  | some x =>
    cases x with
    | lst o xs =>
      cases o with
      | false => rfl
      | true => exact mutD_m i s (f xs [])
    | _ => rfl
@[simp] theorem x_mut0 (i : Nat) (f : List Vl → List Vl → Option (List Vl × Vl)) (s : S) (xs : List Vl) : mut0 i f s (some (.lst true xs)) = mutD i s (f xs []) := rfl
def kMth2 (f : Vl → List Vl → Option Vl) (a : Ag) (as : List Ag) (s : S) : Out Ag := oV (f (res s a) (as.map (res s))) s
def kMth (T : String) (f : Vl → List Vl → Option Vl) (ea : S → Out (List Ag)) (a : Ag) (s : S) : Out Ag := if tyK T (res s a) = true then (ea s).bind (kMth2 f a) else .no
@[simp] theorem x_eMth (T : String) (f : Vl → List Vl → Option Vl) (eo : S → Out Ag) (ea : S → Out (List Ag)) (s : S) : eMth T f eo ea s = (eo s).bind (kMth T f ea) := bind_ext fun a s1 => by
  unfold kMth
  by_cases h : tyK T (res s1 a) = true
  · rw [if_pos h, if_pos h]; exact bind_ext fun as s2 => oV_m _ _
  · rw [if_neg h, if_neg h]
@[simp] theorem x_kMth (T : String) (f : Vl → List Vl → Option Vl) (ea : S → Out (List Ag)) (a : Ag) (s : S) : kMth T f ea a s = if tyK T (res s a) = true then (ea s).bind (kMth2 f a) else .no := rfl
@[simp] theorem x_kMth2 (f : Vl → List Vl → Option Vl) (a : Ag) (as : List Ag) (s : S) : kMth2 f a as s = oV (f (res s a) (as.map (res s))) s := rfl
@[simp] theorem x_tyK (T : String) (o : Bool) (xs : List Vl) : tyK T (.lst o xs) = (T == "list") := rfl
def callR (as : List Ag) (xs : List Vl) (s : S) : FO → Out Ag | .ok r outs => .ok (.v r) (back s as xs outs) | .er k x outs => .er k x (back s as xs outs) | .no => .no
def callO (n : Nat) (F : List Vl → FO) (as : List Ag) : Option (List Vl × S) → Out Ag | some (xs, s) => if xs.length = n then callR as xs s (F xs) else .no | none => .no
def kCall (n : Nat) (F : List Vl → FO) (as : List Ag) (s : S) : Out Ag := callO n F as (lend s as)
@[simp] theorem x_eCall (n : Nat) (F : List Vl → FO) (ea : S → Out (List Ag)) (s : S) : eCall n F ea s = (ea s).bind (kCall n F) := bind_ext fun as s1 => by
  unfold kCall
  cases lend s1 as with
  | none => rfl
  | some p =>
    obtain ⟨xs, s2⟩ := p
    simp only [callO]
    by_cases h : xs.length = n
    · rw [if_pos h, if_pos h]; cases F xs <;> rfl
    · rw [if_neg h, if_neg h]
@[simp] theorem x_kCall (n : Nat) (F : List Vl → FO) (as : List Ag) (s : S) : kCall n F as s = callO n F as (lend s as) := rfl
@[simp] theorem x_callO (n : Nat) (F : List Vl → FO) (as : List Ag) (xs : List Vl) (s : S) : callO n F as (some (xs, s)) = if xs.length = n then callR as xs s (F xs) else .no := rfl
@[simp] theorem x_callOk (as : List Ag) (xs : List Vl) (s : S) (r : Vl) (outs : List Vl) : callR as xs s (.ok r outs) = .ok (.v r) (back s as xs outs) := rfl
@[simp] theorem x_callEr (as : List Ag) (xs : List Vl) (s : S) (k : Str) (x : Vl) (outs : List Vl) : callR as xs s (.er k x outs) = .er k x (back s as xs outs) := rfl
def iv2 : Option (List Vl) → S → Out (List Vl) | some xs, s => .ok xs s | none, _ => .no
def ivO : Option (Vl × S) → Out (List Vl) | some (x, s) => iv2 (itemsV x) s | none => .no
def kIv (a : Ag) (s : S) : Out (List Vl) := ivO (toV s a)
@[simp] theorem x_iVal (ev : S → Out Ag) (s : S) : iVal ev s = (ev s).bind kIv := bind_ext fun a s1 => by
  unfold kIv
  cases toV s1 a with
  | none => rfl
  | some p =>
    obtain ⟨x, s2⟩ := p
    simp only [ivO]
    cases itemsV x <;> rfl
@[simp] theorem x_kIv (a : Ag) (s : S) : kIv a s = ivO (toV s a) := rfl
@[simp] theorem x_ivO (x : Vl) (s : S) : ivO (some (x, s)) = iv2 (itemsV x) s := rfl
@[simp] theorem x_iv2 (xs : List Vl) (s : S) : iv2 (some xs) s = .ok xs s := rfl
def kR1 (as : List Ag) (s : S) : Out (List Vl) := match as.map (res s) with | [.int j] => if -(2 ^ 62) ≤ j ∧ j < 2 ^ 62 then .ok (rngL 0 j) s else .no | _ => .no
def kR2 (as : List Ag) (s : S) : Out (List Vl) := match as.map (res s) with | [.int i, .int j] => if -(2 ^ 62) ≤ i ∧ i < 2 ^ 62 ∧ -(2 ^ 62) ≤ j ∧ j < 2 ^ 62 then .ok (rngL i j) s else .no | _ => .no
@[simp] theorem x_iRng1 (ea : S → Out (List Ag)) (s : S) : iRng1 ea s = (ea s).bind kR1 := rfl
@[simp] theorem x_iRng2 (ea : S → Out (List Ag)) (s : S) : iRng2 ea s = (ea s).bind kR2 := rfl
@[simp] theorem x_kR1 (as : List Ag) (s : S) : kR1 as s = match as.map (res s) with | [.int j] => if -(2 ^ 62) ≤ j ∧ j < 2 ^ 62 then .ok (rngL 0 j) s else .no | _ => .no := rfl
@[simp] theorem x_kR2 (as : List Ag) (s : S) : kR2 as s = match as.map (res s) with | [.int i, .int j] => if -(2 ^ 62) ≤ i ∧ i < 2 ^ 62 ∧ -(2 ^ 62) ≤ j ∧ j < 2 ^ 62 then .ok (rngL i j) s else .no | _ => .no := rfl
def gs4 (i : Nat) (x : Vl) (s : S) (xs : List Vl) : Option Nat → Option S | some j => some (s.set i (.lst true (xs.set j (fz x)))) | none => none
def gs3 (i : Nat) (x : Vl) (s : S) : Vl → Option Vl → Option S | .int k, some (.lst true xs) => gs4 i x s xs (ixN xs.length k) | _, _ => none
def gs2 (i : Nat) (x : Vl) : Out Ag → Option S | .ok a s => gs3 i x s (res s a) s[i]? | _ => none
def gs1 (i : Nat) (ei : S → Out Ag) (x : Vl) (s : S) : Option Vl → Option S | some (.lst true _) => gs2 i x (ei s) | _ => none
@[simp] theorem x_gSub (i : Nat) (ei : S → Out Ag) (x : Vl) (s : S) : L3.gSub i ei x s = gs1 i ei x s s[i]? := by
  unfold L3.gSub
  cases s[i]? with
  | none => rfl
  | some y =>
    cases y with
    | lst o xs =>
      cases o with
      | false => rfl
      | true =>
        show _ = gs2 i x (ei s)
        cases ei s with
        | no => rfl
        | er k z s1 => rfl
        | ok a s1 =>
          show (match res s1 a, s1[i]? with
            | .int k, some (.lst true xs) => (match ixN xs.length k with | some j => some (s1.set i (.lst true (xs.set j (fz x)))) | none => none)
            | _, _ => none) = gs3 i x s1 (res s1 a) s1[i]?
          generalize res s1 a = u
          generalize s1[i]? = w
          cases u with
          | int k =>
            cases w with
            | none => rfl
            | some w =>
              cases w with
              | lst o ys =>
                cases o with
                | false => rfl
                | true =>
                  show (match ixN ys.length k with | some j => some (s1.set i (.lst true (ys.set j (fz x)))) | none => none) = gs4 i x s1 ys (ixN ys.length k)
                  cases ixN ys.length k <;> rfl
              | _ => rfl
          | _ => rfl
    | _ => rfl
@[simp] theorem x_gs1 (i : Nat) (ei : S → Out Ag) (x : Vl) (s : S) (xs : List Vl) : gs1 i ei x s (some (.lst true xs)) = gs2 i x (ei s) := rfl
@[simp] theorem x_gs2 (i : Nat) (x : Vl) (a : Ag) (s : S) : gs2 i x (.ok a s) = gs3 i x s (res s a) s[i]? := rfl
@[simp] theorem x_gs3 (i : Nat) (x : Vl) (s : S) (k : Int) (xs : List Vl) : gs3 i x s (.int k) (some (.lst true xs)) = gs4 i x s xs (ixN xs.length k) := rfl
@[simp] theorem x_gs4 (i : Nat) (x : Vl) (s : S) (xs : List Vl) (j : Nat) : gs4 i x s xs (some j) = some (s.set i (.lst true (xs.set j (fz x)))) := rfl
@[simp] theorem x_gNm (i : Nat) (x : Vl) (s : S) : gNm i x s = if i < s.length then some (s.set i x) else none := by
  unfold gNm
  by_cases h : i < s.length <;> simp [h]
@[simp] theorem x_gNil (s : S) : gNilF [] s = some s := rfl
def gcO (r : List Vl → S → Option S) (xs : List Vl) : Option S → Option S | some s => r xs s | none => none
@[simp] theorem x_gCons (a : Vl → S → Option S) (r : List Vl → S → Option S) (x : Vl) (xs : List Vl) (s : S) : gConsF a r (x :: xs) s = gcO r xs (a x s) := by
  simp only [gConsF]
  cases a x s <;> rfl
@[simp] theorem x_gcO (r : List Vl → S → Option S) (xs : List Vl) (s : S) : gcO r xs (some s) = r xs s := rfl
@[simp] theorem x_gTup (n : Nat) (as : List Vl → S → Option S) (xs : List Vl) (s : S) : gTupF n as (.tup xs) s = if xs.length = n then as xs s else none := rfl
def rfO (n : Nat) (fxi : List Nat) : Out Fl → FO
  | .ok .nx s => if n ≤ s.length then .ok .non (outsF fxi 0 n s) else .no
  | .ok (.rt v) s => if n ≤ s.length then .ok v (outsF fxi 0 n s) else .no
  | .er k x s => if n ≤ s.length then .er k x (outsF fxi 0 n s) else .no
  | .no => .no
@[simp] theorem x_runF (N n : Nat) (fxi : List Nat) (ev : S → Out Fl) (xs : List Vl) : runF N n fxi ev xs = rfO n fxi (ev (xs ++ List.replicate (N - n) .hole)) := by
  unfold runF
  cases ev (xs ++ List.replicate (N - n) .hole) with
  | no => rfl
  | er k x s => rfl
  | ok fl s => cases fl <;> rfl
@[simp] theorem x_rf1 (n : Nat) (fxi : List Nat) (s : S) : rfO n fxi (.ok .nx s) = if n ≤ s.length then .ok .non (outsF fxi 0 n s) else .no := rfl
@[simp] theorem x_rf2 (n : Nat) (fxi : List Nat) (v : Vl) (s : S) : rfO n fxi (.ok (.rt v) s) = if n ≤ s.length then .ok v (outsF fxi 0 n s) else .no := rfl
@[simp] theorem x_rf3 (n : Nat) (fxi : List Nat) (k : Str) (x : Vl) (s : S) : rfO n fxi (.er k x s) = if n ≤ s.length then .er k x (outsF fxi 0 n s) else .no := rfl
end
/-! ### comprehensions whose turns leave the slots as they were -/
/-- one turn -/
def l4 (vs : List Nat) : Option (Vl × S) → Option (Option Vl × S) | some (y, s) => some (some y, wipeS s vs) | none => none
def l3 (vs : List Nat) : Out Ag → Option (Option Vl × S) | .ok a s => l4 vs (toV s a) | _ => none
def l2 (vs : List Nat) (ee : S → Out Ag) : Out Bool → Option (Option Vl × S) | .ok true s => l3 vs (ee s) | .ok false s => some (none, wipeS s vs) | _ => none
def l1 (vs : List Nat) (et : S → Out Bool) (ee : S → Out Ag) : Option S → Option (Option Vl × S) | some s => l2 vs ee (et s) | none => none
def lc1 (vs : List Nat) (as : Vl → S → Option S) (et : S → Out Bool) (ee : S → Out Ag) (x : Vl) (s : S) : Option (Option Vl × S) := l1 vs et ee (as x s)
@[simp] theorem x_l1 (vs : List Nat) (et : S → Out Bool) (ee : S → Out Ag) (s : S) : l1 vs et ee (some s) = l2 vs ee (et s) := rfl
@[simp] theorem x_l2T (vs : List Nat) (ee : S → Out Ag) (s : S) : l2 vs ee (.ok true s) = l3 vs (ee s) := rfl
@[simp] theorem x_l2F (vs : List Nat) (ee : S → Out Ag) (s : S) : l2 vs ee (.ok false s) = some (none, wipeS s vs) := rfl
@[simp] theorem x_l3 (vs : List Nat) (a : Ag) (s : S) : l3 vs (.ok a s) = l4 vs (toV s a) := rfl
@[simp] theorem x_l4 (vs : List Nat) (y : Vl) (s : S) : l4 vs (some (y, s)) = some (some y, wipeS s vs) := rfl
theorem lcF_turn {vs : List Nat} {as : Vl → S → Option S} {et : S → Out Bool} {ee : S → Out Ag} {x : Vl} {xs : List Vl} {s : S} {acc : List Vl} {o : Option Vl} {s' : S} (h : lc1 vs as et ee x s = some (o, s')) :
    lcF vs as et ee (x :: xs) s acc = lcF vs as et ee xs s' (acc ++ o.toList) := by
  unfold lc1 l1 l2 l3 l4 at h
  conv => lhs; unfold lcF
  cases e1 : as x s with
  | none => rw [e1] at h; cases h
  | some s1 =>
    rw [e1] at h
    simp only at h ⊢
    cases e2 : et s1 with
    | no => rw [e2] at h; cases h
    | er k y z => rw [e2] at h; cases h
    | ok b s2 =>
      rw [e2] at h
      simp only at h ⊢
      cases b with
      | false =>
        simp only [Bool.false_eq_true, if_false, Option.some.injEq, Prod.mk.injEq] at h ⊢
        obtain ⟨rfl, rfl⟩ := h
        simp
      | true =>
        simp only [if_true] at h ⊢
        cases e3 : ee s2 with
        | no => rw [e3] at h; cases h
        | er k y z => rw [e3] at h; cases h
        | ok a s3 =>
          rw [e3] at h
          simp only at h ⊢
          cases e4 : toV s3 a with
          | none => rw [e4] at h; cases h
          | some p =>
            obtain ⟨y, s4⟩ := p
            rw [e4] at h
            simp only [Option.some.injEq, Prod.mk.injEq] at h
            obtain ⟨rfl, rfl⟩ := h
            simp
theorem lcF_same {vs : List Nat} {as : Vl → S → Option S} {et : S → Out Bool} {ee : S → Out Ag} {s : S} (f : Vl → Option Vl) : ∀ (xs : List Vl) (acc : List Vl), (∀ x ∈ xs, lc1 vs as et ee x s = some (f x, s)) → lcF vs as et ee xs s acc = .ok (acc ++ xs.filterMap f) s
  | [], acc, _ => by simp
  | x :: xs, acc, h => by
    rw [lcF_turn (h x (by simp)), lcF_same f xs _ fun y hy => h y (by simp [hy]), List.filterMap_cons]
    cases f x <;> simp
/-- over ints -/
theorem lcF_ints {vs : List Nat} {as : Vl → S → Option S} {et : S → Out Bool} {ee : S → Out Ag} {s : S} (f : Int → Option Vl) : ∀ (xs : List Int) (acc : List Vl), (∀ x ∈ xs, lc1 vs as et ee (.int x) s = some (f x, s)) → lcF vs as et ee (xs.map .int) s acc = .ok (acc ++ xs.filterMap f) s
  | [], acc, _ => by simp
  | x :: xs, acc, h => by
    rw [List.map_cons, lcF_turn (h x (by simp)), lcF_ints f xs _ fun y hy => h y (by simp [hy]), List.filterMap_cons]
    cases f x <;> simp
end L3

namespace G70
open PySem PySem.Spec PyProof.Rows L2 L3
def topS (i : Nat) : Stmt := PySem.Challenge.pw_sameribbons_k70_whole_one_ribbon_less.main.body.getD i (.Pass ⟨0, 0, 0, 0⟩)
/-- what the top has laid -/
structure Lay (K : PySem.W.Frag) (mg : Str → Option Value) where
  f_is_whole : Addr
  fd_is_whole : FuncData
  F_is_whole : Fun K "is_whole" "is_whole" (topS 6) f_is_whole fd_is_whole
  m_is_whole : mg "is_whole" = some (.ref f_is_whole)
  f_is_integer : Addr
  fd_is_integer : FuncData
  F_is_integer : Fun K "is_integer" "is_integer" (topS 7) f_is_integer fd_is_integer
  m_is_integer : mg "is_integer" = some (.ref f_is_integer)
  f_is_many : Addr
  fd_is_many : FuncData
  F_is_many : Fun K "is_many" "is_many" (topS 12) f_is_many fd_is_many
  m_is_many : mg "is_many" = some (.ref f_is_many)
  f_check_many : Addr
  fd_check_many : FuncData
  F_check_many : Fun K "check_many" "check_many" (topS 13) f_check_many fd_check_many
  m_check_many : mg "check_many" = some (.ref f_check_many)
  f_is_passing : Addr
  fd_is_passing : FuncData
  F_is_passing : Fun K "is_passing" "is_passing" (topS 14) f_is_passing fd_is_passing
  m_is_passing : mg "is_passing" = some (.ref f_is_passing)
  f_is_row : Addr
  fd_is_row : FuncData
  F_is_row : Fun K "is_row" "is_row" (topS 15) f_is_row fd_is_row
  m_is_row : mg "is_row" = some (.ref f_is_row)
  f_is_word : Addr
  fd_is_word : FuncData
  F_is_word : Fun K "is_word" "is_word" (topS 16) f_is_word fd_is_word
  m_is_word : mg "is_word" = some (.ref f_is_word)
  f_check_word : Addr
  fd_check_word : FuncData
  F_check_word : Fun K "check_word" "check_word" (topS 17) f_check_word fd_check_word
  m_check_word : mg "check_word" = some (.ref f_check_word)
  f_passed : Addr
  fd_passed : FuncData
  F_passed : Fun K "passed" "passed" (topS 20) f_passed fd_passed
  m_passed : mg "passed" = some (.ref f_passed)
  f_check_dancer : Addr
  fd_check_dancer : FuncData
  F_check_dancer : Fun K "check_dancer" "check_dancer" (topS 21) f_check_dancer fd_check_dancer
  m_check_dancer : mg "check_dancer" = some (.ref f_check_dancer)
  f_left_out : Addr
  fd_left_out : FuncData
  F_left_out : Fun K "left_out" "left_out" (topS 22) f_left_out fd_left_out
  m_left_out : mg "left_out" = some (.ref f_left_out)
  f__law_pot : Addr
  fd__law_pot : FuncData
  F__law_pot : Fun K "_law_pot" "_law_pot" (topS 24) f__law_pot fd__law_pot
  m__law_pot : mg "_law_pot" = some (.ref f__law_pot)
  f__law_take : Addr
  fd__law_take : FuncData
  F__law_take : Fun K "_law_take" "_law_take" (topS 25) f__law_take fd__law_take
  m__law_take : mg "_law_take" = some (.ref f__law_take)
  f__law_of : Addr
  fd__law_of : FuncData
  F__law_of : Fun K "_law_of" "_law_of" (topS 26) f__law_of fd__law_of
  m__law_of : mg "_law_of" = some (.ref f__law_of)
  f__law_places : Addr
  fd__law_places : FuncData
  F__law_places : Fun K "_law_places" "_law_places" (topS 27) f__law_places fd__law_places
  m__law_places : mg "_law_places" = some (.ref f__law_places)
  f__law_p_word : Addr
  fd__law_p_word : FuncData
  F__law_p_word : Fun K "_law_p_word" "_law_p_word" (topS 28) f__law_p_word fd__law_p_word
  m__law_p_word : mg "_law_p_word" = some (.ref f__law_p_word)
  f__law_p_back : Addr
  fd__law_p_back : FuncData
  F__law_p_back : Fun K "_law_p_back" "_law_p_back" (topS 29) f__law_p_back fd__law_p_back
  m__law_p_back : mg "_law_p_back" = some (.ref f__law_p_back)
  f__law_p_freed : Addr
  fd__law_p_freed : FuncData
  F__law_p_freed : Fun K "_law_p_freed" "_law_p_freed" (topS 30) f__law_p_freed fd__law_p_freed
  m__law_p_freed : mg "_law_p_freed" = some (.ref f__law_p_freed)
  f__law_p_loops : Addr
  fd__law_p_loops : FuncData
  F__law_p_loops : Fun K "_law_p_loops" "_law_p_loops" (topS 31) f__law_p_loops fd__law_p_loops
  m__law_p_loops : mg "_law_p_loops" = some (.ref f__law_p_loops)
  f__law_p_same : Addr
  fd__law_p_same : FuncData
  F__law_p_same : Fun K "_law_p_same" "_law_p_same" (topS 32) f__law_p_same fd__law_p_same
  m__law_p_same : mg "_law_p_same" = some (.ref f__law_p_same)
  f__law_p_moved : Addr
  fd__law_p_moved : FuncData
  F__law_p_moved : Fun K "_law_p_moved" "_law_p_moved" (topS 33) f__law_p_moved fd__law_p_moved
  m__law_p_moved : mg "_law_p_moved" = some (.ref f__law_p_moved)
  f__law_left_out : Addr
  fd__law_left_out : FuncData
  F__law_left_out : Fun K "_law_left_out" "_law_left_out" (topS 34) f__law_left_out fd__law_left_out
  m__law_left_out : mg "_law_left_out" = some (.ref f__law_left_out)
  f__law_right : Addr
  fd__law_right : FuncData
  F__law_right : Fun K "_law_right" "_law_right" (topS 35) f__law_right fd__law_right
  m__law_right : mg "_law_right" = some (.ref f__law_right)
  f_law : Addr
  fd_law : FuncData
  F_law : Fun K "law" "law" (topS 36) f_law fd_law
  m_law : mg "law" = some (.ref f_law)
  z_abs : mg "abs" = none
  z_all : mg "all" = none
  z_bool : mg "bool" = none
  z_int : mg "int" = none
  z_isinstance : mg "isinstance" = none
  z_len : mg "len" = none
  z_list : mg "list" = none
  z_max : mg "max" = none
  z_min : mg "min" = none
  z_range : mg "range" = none
  z_repr : mg "repr" = none
  z_sum : mg "sum" = none
  z_tuple : mg "tuple" = none
  g_LEAST_MANY_words : ∃ t, mg "LEAST_MANY_words" = some (.int 2 t)
  g_MOST_MANY : ∃ t, mg "MOST_MANY" = some (.int 6 t)
  g_MOST_WORD : ∃ t, mg "MOST_WORD" = some (.int 200 t)
  g_LEAST_MANY_dances : ∃ t, mg "LEAST_MANY_dances" = some (.int 2 t)
def ev_is_whole : S → Out Fl :=
  (sRet [0] (eAnd (eL isV (aCons (eN 0) (aCons (eK (.raw (.ty "int"))) aNil))) (eNot (eL isV (aCons (eN 0) (aCons (eK (.raw (.ty "bool"))) aNil))))))
def R_is_whole : List Vl → FO := runF 1 1 [0] ev_is_whole
def ev_is_integer : S → Out Fl :=
  (sRet [0, 1, 2] (eAnd (eCall 1 R_is_whole (aCons (eN 0) aNil)) (eChain (cmpV fun i j => decide (i ≤ j)) (cmpV fun i j => decide (i ≤ j)) (eN 1) (eN 0) (eN 2))))
def R_is_integer : List Vl → FO := runF 3 3 [0, 1, 2] ev_is_integer
def ev_is_many : S → Out Fl :=
  (sRet [0] (eCall 3 R_is_integer (aCons (eN 0) (aCons (eK (.int 2)) (aCons (eK (.int 6)) aNil)))))
def R_is_many : List Vl → FO := runF 1 1 [0] ev_is_many
def ev_check_many : S → Out Fl :=
  (sIf (tNotB (tVal (eCall 1 R_is_many (aCons (eN 0) aNil)))) sNo sNil)
def R_check_many : List Vl → FO := runF 1 1 [0] ev_check_many
def ev_is_passing : S → Out Fl :=
  (sRet [0, 1] (eAnd (eCall 3 R_is_integer (aCons (eN 1) (aCons (e2 subV (eK (.int 1)) (eN 0)) (aCons (e2 subV (eN 0) (eK (.int 1))) aNil)))) (e2 neV3 (eN 1) (eK (.int 0)))))
def R_is_passing : List Vl → FO := runF 2 2 [0, 1] ev_is_passing
def ce_is_row_1 : S → Out Ag :=
  (eCall 2 R_is_passing (aCons (eN 0) (aCons (eN 2) aNil)))
def ev_is_row : S → Out Fl :=
  (sRet [0, 1] (eAnd (eL isV (aCons (eN 1) (aCons (eK (.raw (.ty "tuple"))) aNil))) (eL allV (aCons (eLc [2] (iVal (eN 1)) (gNm 2) tTrue ce_is_row_1) aNil))))
def R_is_row : List Vl → FO := runF 3 2 [0, 1] ev_is_row
def ev_is_word : S → Out Fl :=
  (sCons (sDrop (eCall 1 R_check_many (aCons (eN 0) aNil)))
  (sRet [0, 1] (eAnd (eCall 2 R_is_row (aCons (eN 0) (aCons (eN 1) aNil))) (e2 (cmpV fun i j => decide (i ≤ j)) (eL lenV (aCons (eN 1) aNil)) (eK (.int 200))))))
def R_is_word : List Vl → FO := runF 2 2 [0, 1] ev_is_word
def ev_check_word : S → Out Fl :=
  (sIf (tNotB (tVal (eCall 2 R_is_word (aCons (eN 0) (aCons (eN 1) aNil))))) sNo sNil)
def R_check_word : List Vl → FO := runF 2 2 [0, 1] ev_check_word
def ev_passed : S → Out Fl :=
  (sCons (sSet 2 (eL absV (aCons (eN 1) aNil)))
  (sCons (sPar 3 4 (aCons (e2 ixV (eN 0) (e2 subV (eN 2) (eK (.int 1)))) (aCons (e2 ixV (eN 0) (eN 2)) aNil)))
  (sCons (sAsg (eTup (aCons (eN 4) (aCons (eN 3) aNil))) (gTupF 2 (gConsF (gSub 0 (e2 subV (eN 2) (eK (.int 1)))) (gConsF (gSub 0 (eN 2)) gNilF))))
  (sRet [0, 1] (eIf (t2 (cmpV fun i j => decide (j < i)) (eN 1) (eK (.int 0))) (eTup (aCons (eN 3) (aCons (eN 4) aNil))) (eTup (aCons (eN 4) (aCons (eN 3) aNil))))))))
def R_passed : List Vl → FO := runF 5 2 [0, 1] ev_passed
def ev_check_dancer : S → Out Fl :=
  (sIf (tNotB (tVal (eCall 3 R_is_integer (aCons (eN 1) (aCons (eK (.int 0)) (aCons (e2 subV (eN 0) (eK (.int 1))) aNil)))))) sNo sNil)
def R_check_dancer : List Vl → FO := runF 2 2 [0, 1] ev_check_dancer
def lp_left_out_1 : S → Out Fl :=
  (sCons (sPar 6 7 (aCons (eL absV (aCons (eN 5) aNil)) (aCons (eMth "list" idxF (eN 3) (aCons (eN 2) aNil)) aNil)))
  (sIf (t2 notInV3 (eN 2) (eCall 2 R_passed (aCons (eN 3) (aCons (eN 5) aNil)))) (sCons (sSet 8 (e2 subV (eN 6) (eL int1V (aCons (e2 (cmpV fun i j => decide (i < j)) (eN 7) (eN 6)) aNil))))
  (sDrop (eMut 4 appF (aCons (eIf (t2 (cmpV fun i j => decide (j < i)) (eN 5) (eK (.int 0))) (eN 8) (e1 negV (eN 8))) aNil)))) sNil))
def ev_left_out : S → Out Fl :=
  (sCons (sDrop (eCall 1 R_check_many (aCons (eN 0) aNil)))
  (sCons (sIf (t2 eqV3 (eN 0) (eK (.int 2))) sNo sNil)
  (sCons (sDrop (eCall 2 R_check_word (aCons (eN 0) (aCons (eN 1) aNil))))
  (sCons (sDrop (eCall 2 R_check_dancer (aCons (eN 0) (aCons (eN 2) aNil))))
  (sCons (sPar 3 4 (aCons (e1 lrg1 (eN 0)) (aCons (eLst aNil) aNil)))
  (sCons (sFor (iVal (eN 1)) (gNm 5) lp_left_out_1)
  (sRet [0, 1, 2] (eL tupV (aCons (eN 4) aNil)))))))))
def R_left_out : List Vl → FO := runF 9 3 [0, 1, 2] ev_left_out
def ev__law_pot : S → Out Fl :=
  (sCons (sSet 2 (eIf (t2 (cmpV fun i j => decide (i < j)) (eN 1) (eL lenV (aCons (eN 0) aNil))) (e2 ixV (eN 0) (eN 1)) (e2 addV (e2 addV (e2 modV (eL sumV (aCons (eSl (eN 0) oNone (oSome (eK (.int 1)))) aNil)) (eK (.int 1000003))) (e2 mulV (eK (.int 5077)) (eN 1))) (eK (.int 431)))))
  (sCons (sSet 3 (e2 mulV (e2 modV (eL int1V (aCons (eL absV (aCons (eN 2) aNil)) aNil)) (e2 powV (e2 powV (eK (.int 10)) (eK (.int 60))) (eK (.int 5)))) (eL int1V (aCons (e2 (cmpV fun i j => decide (j ≤ i)) (eL absV (aCons (eN 2) aNil)) (e2 powV (eK (.int 10)) (eK (.int 18)))) aNil))))
  (sCons (sSet 4 (e2 modV (eL int1V (aCons (eN 2) aNil)) (eK (.int 2305843009213693951))))
  (sRet [0, 1] (eLst (aCons (eN 3) (aCons (e2 modV (eL int1V (aCons (e2 addV (e2 addV (e2 mulV (eN 4) (eK (.int 93001))) (e2 mulV (e2 mulV (eK (.int 9547)) (eN 1)) (eN 1))) (eK (.int 838))) aNil)) (eK (.int 2305843009213693921))) (aCons (eK (.int 0)) aNil))))))))
def R_law_pot : List Vl → FO := runF 5 2 [0, 1] ev__law_pot
def ev__law_take : S → Out Fl :=
  (sCons (sIf (t2 (cmpV fun i j => decide (j < i)) (e2 ixV (eN 0) (eK (.int 0))) (eK (.int 0))) (sCons (sSet 2 (e2 modV (eL int1V (aCons (e2 ixV (eN 0) (eK (.int 0))) aNil)) (eN 1)))
  (sCons (sAsg (e2 fdivV (e2 ixV (eN 0) (eK (.int 0))) (eN 1)) (gSub 0 (eK (.int 0))))
  (sRet [0, 1] (eN 2)))) sNil)
  (sCons (sAsg (e2 addV (e2 ixV (eN 0) (eK (.int 2))) (eK (.int 1))) (gSub 0 (eK (.int 2))))
  (sCons (sSet 3 (e2 ixV (eLst (aCons (eK (.int 2147483647)) (aCons (eK (.int 2147483629)) (aCons (eK (.int 2147483587)) (aCons (eK (.int 2147483579)) (aCons (eK (.int 2147483563)) aNil)))))) (e2 modV (eL int1V (aCons (e2 ixV (eN 0) (eK (.int 2))) aNil)) (eK (.int 5)))))
  (sCons (sSet 4 (e2 modV (eL int1V (aCons (e2 powV (eL int1V (aCons (e2 addV (e2 addV (e2 ixV (eN 0) (eK (.int 1))) (e2 mulV (e2 mulV (eK (.int 89939)) (e2 ixV (eN 0) (eK (.int 2)))) (e2 ixV (eN 0) (eK (.int 2))))) (eK (.int 638))) aNil)) (eK (.int 3))) aNil)) (eN 3)))
  (sCons (sSet 4 (e2 modV (eL int1V (aCons (e2 mulV (eN 4) (e2 addV (e2 modV (eL int1V (aCons (eN 4) aNil)) (eK (.int 10259))) (e2 mulV (eK (.int 122)) (e2 ixV (eN 0) (eK (.int 2)))))) aNil)) (eK (.int 2305843009213693907))))
  (sRet [0, 1] (e2 modV (eL int1V (aCons (e2 fdivV (eN 4) (eK (.int 152))) aNil)) (eN 1))))))))
def R_law_take : List Vl → FO := runF 5 2 [0, 1] ev__law_take
def ev__law_of : S → Out Fl :=
  (sRet [0, 1] (e2 ixV (eN 1) (eCall 2 R_law_take (aCons (eN 0) (aCons (eL lenV (aCons (eN 1) aNil)) aNil)))))
def R_law_of : List Vl → FO := runF 2 2 [0, 1] ev__law_of
def ev__law_places : S → Out Fl :=
  (sRet [0, 1] (e1 lrg1 (eL max2V (aCons (eK (.int 1)) (aCons (eL min2V (aCons (eN 1) (aCons (eL lenV (aCons (eN 0) aNil)) aNil))) aNil)))))
def R_law_places : List Vl → FO := runF 2 2 [0, 1] ev__law_places
def ct__law_p_word_1 : S → Out Bool :=
  (t2 neV3 (eN 4) (eK (.int 0)))
def ce__law_p_word_2 : S → Out Ag :=
  (eL int1V (aCons (eN 4) aNil))
def ce__law_p_word_3 : S → Out Ag :=
  (eCall 2 R_law_of (aCons (eN 0) (aCons (eN 3) aNil)))
def ev__law_p_word : S → Out Fl :=
  (sCons (sSet 3 (eLc [4] (iRng2 (aCons (e2 subV (eK (.int 1)) (eN 1)) (aCons (eN 1) aNil))) (gNm 4) ct__law_p_word_1 ce__law_p_word_2))
  (sRet [0, 1, 2] (eL tupV (aCons (eLc [5] (iRng1 (aCons (eCall 2 R_law_take (aCons (eN 0) (aCons (e2 addV (eN 2) (eK (.int 1))) aNil))) aNil)) (gNm 5) tTrue ce__law_p_word_3) aNil))))
def R_law_p_word : List Vl → FO := runF 6 3 [0, 1, 2] ev__law_p_word
def ce__law_p_back_1 : S → Out Ag :=
  (e1 negV (eN 1))
def ev__law_p_back : S → Out Fl :=
  (sRet [0] (eL tupV (aCons (eLc [1] (iVal (e1 revV (eN 0))) (gNm 1) tTrue ce__law_p_back_1) aNil)))
def R_law_p_back : List Vl → FO := runF 2 1 [0] ev__law_p_back
def lp__law_p_freed_1 : S → Out Fl :=
  (sIf (tAndB (t2 neV3 (eN 1) (eLst aNil)) (t2 eqV3 (e2 ixV (eN 1) (e1 negV (eK (.int 1)))) (e1 negV (eN 2)))) (sDrop (eMut0 1 popF)) (sDrop (eMut 1 appF (aCons (eN 2) aNil))))
def ev__law_p_freed : S → Out Fl :=
  (sCons (sSet 1 (eLst aNil))
  (sCons (sFor (iVal (eN 0)) (gNm 2) lp__law_p_freed_1)
  (sRet [0] (eL tupV (aCons (eN 1) aNil)))))
def R_law_p_freed : List Vl → FO := runF 3 1 [0] ev__law_p_freed
def ce__law_p_loops_1 : S → Out Ag :=
  (eTup (aCons (eN 7) aNil))
def lp__law_p_loops_2 : S → Out Fl :=
  (sCons (sSet 4 (e2 subV (eL absV (aCons (eN 3) aNil)) (eK (.int 1))))
  (sCons (sPar 5 6 (aCons (e2 ixV (eN 2) (eN 4)) (aCons (e2 ixV (eN 2) (e2 addV (eN 4) (eK (.int 1)))) aNil)))
  (sIf (t2 (cmpV fun i j => decide (j < i)) (eN 3) (eK (.int 0))) (sAsg (eTup (aCons (eCall 1 R_law_p_freed (aCons (e2 addV (e2 addV (eN 5) (eN 6)) (eCall 1 R_law_p_back (aCons (eN 5) aNil))) aNil)) (aCons (eN 5) aNil))) (gTupF 2 (gConsF (gSub 2 (eN 4)) (gConsF (gSub 2 (e2 addV (eN 4) (eK (.int 1)))) gNilF)))) (sAsg (eTup (aCons (eN 6) (aCons (eCall 1 R_law_p_freed (aCons (e2 addV (e2 addV (eCall 1 R_law_p_back (aCons (eN 6) aNil)) (eN 5)) (eN 6)) aNil)) aNil))) (gTupF 2 (gConsF (gSub 2 (eN 4)) (gConsF (gSub 2 (e2 addV (eN 4) (eK (.int 1)))) gNilF)))))))
def ev__law_p_loops : S → Out Fl :=
  (sCons (sSet 2 (eLc [7] (iRng2 (aCons (eK (.int 1)) (aCons (e2 addV (eN 0) (eK (.int 1))) aNil))) (gNm 7) tTrue ce__law_p_loops_1))
  (sCons (sFor (iVal (eN 1)) (gNm 3) lp__law_p_loops_2)
  (sRet [0, 1] (eL tupV (aCons (eN 2) aNil)))))
def R_law_p_loops : List Vl → FO := runF 8 2 [0, 1] ev__law_p_loops
def ev__law_p_same : S → Out Fl :=
  (sRet [0, 1, 2] (e2 eqV3 (eCall 2 R_law_p_loops (aCons (eN 0) (aCons (eN 1) aNil))) (eCall 2 R_law_p_loops (aCons (eN 0) (aCons (eN 2) aNil)))))
def R_law_p_same : List Vl → FO := runF 3 3 [0, 1, 2] ev__law_p_same
def ct__law_p_moved_1 : S → Out Bool :=
  (t2 neV3 (eN 9) (eK (.int 0)))
def ce__law_p_moved_2 : S → Out Ag :=
  (eN 9)
def lp__law_p_moved_3 : S → Out Fl :=
  (sCons (sPar 5 6 (aCons (eCall 2 R_law_take (aCons (eN 0) (aCons (e2 addV (eL lenV (aCons (eN 2) aNil)) (eK (.int 1))) aNil))) (aCons (eCall 2 R_law_take (aCons (eN 0) (aCons (eK (.int 3)) aNil))) aNil)))
  (sCons (sSet 7 (eSl (eN 2) (oSome (eN 5)) (oSome (e2 addV (eN 5) (eK (.int 3))))))
  (sIf (tAndB (t2 eqV3 (eN 6) (eK (.int 0))) (t2 (cmpV fun i j => decide (i < j)) (eL lenV (aCons (eN 2) aNil)) (eK (.int 40)))) (sCons (sSet 8 (eCall 2 R_law_of (aCons (eN 0) (aCons (eLc [9] (iRng2 (aCons (e2 subV (eK (.int 1)) (eN 1)) (aCons (eN 1) aNil))) (gNm 9) ct__law_p_moved_1 ce__law_p_moved_2) aNil))))
  (sSet 2 (e2 addV (e2 addV (eSl (eN 2) oNone (oSome (eN 5))) (eTup (aCons (eN 8) (aCons (e1 negV (eN 8)) aNil)))) (eSl (eN 2) (oSome (eN 5)) oNone)))) (sIf (tAndB (t2 eqV3 (eL lenV (aCons (eN 7) aNil)) (eK (.int 3))) (tAndB (t2 eqV3 (e2 ixV (eN 7) (eK (.int 0))) (e2 ixV (eN 7) (eK (.int 2)))) (tAndB (t2 eqV3 (eL absV (aCons (e2 subV (eL absV (aCons (e2 ixV (eN 7) (eK (.int 0))) aNil)) (eL absV (aCons (e2 ixV (eN 7) (eK (.int 1))) aNil))) aNil)) (eK (.int 1))) (t2 (cmpV fun i j => decide (j < i)) (e2 mulV (e2 ixV (eN 7) (eK (.int 0))) (e2 ixV (eN 7) (eK (.int 1)))) (eK (.int 0)))))) (sSet 2 (e2 addV (e2 addV (eSl (eN 2) oNone (oSome (eN 5))) (eTup (aCons (e2 ixV (eN 7) (eK (.int 1))) (aCons (e2 ixV (eN 7) (eK (.int 0))) (aCons (e2 ixV (eN 7) (eK (.int 1))) aNil))))) (eSl (eN 2) (oSome (e2 addV (eN 5) (eK (.int 3)))) oNone))) (sIf (tAndB (t2 (cmpV fun i j => decide (j < i)) (eL lenV (aCons (eN 7) aNil)) (eK (.int 1))) (t2 (cmpV fun i j => decide (j < i)) (eL absV (aCons (e2 subV (eL absV (aCons (e2 ixV (eN 7) (eK (.int 0))) aNil)) (eL absV (aCons (e2 ixV (eN 7) (eK (.int 1))) aNil))) aNil)) (eK (.int 1)))) (sSet 2 (e2 addV (e2 addV (eSl (eN 2) oNone (oSome (eN 5))) (eTup (aCons (e2 ixV (eN 7) (eK (.int 1))) (aCons (e2 ixV (eN 7) (eK (.int 0))) aNil)))) (eSl (eN 2) (oSome (e2 addV (eN 5) (eK (.int 2)))) oNone))) (sIf (tAndB (t2 (cmpV fun i j => decide (j < i)) (eL lenV (aCons (eN 7) aNil)) (eK (.int 1))) (t2 eqV3 (e2 ixV (eN 7) (eK (.int 0))) (e1 negV (e2 ixV (eN 7) (eK (.int 1)))))) (sSet 2 (e2 addV (eSl (eN 2) oNone (oSome (eN 5))) (eSl (eN 2) (oSome (e2 addV (eN 5) (eK (.int 2)))) oNone))) sNil))))))
def ev__law_p_moved : S → Out Fl :=
  (sCons (sFor (iRng1 (aCons (eN 3) aNil)) (gNm 4) lp__law_p_moved_3)
  (sRet [0, 1, 3] (eN 2)))
def R_law_p_moved : List Vl → FO := runF 10 4 [0, 1, 3] ev__law_p_moved
def ct__law_left_out_1 : S → Out Bool :=
  (t2 eqV3 (eN 8) (eN 2))
def ce__law_left_out_2 : S → Out Ag :=
  (eN 8)
def lp__law_left_out_3 : S → Out Fl :=
  (sCons (sSet 6 (eL absV (aCons (eN 5) aNil)))
  (sCons (sIf (t2 notInV3 (eN 2) (eSl (eN 3) (oSome (e2 subV (eN 6) (eK (.int 1)))) (oSome (e2 addV (eN 6) (eK (.int 1)))))) (sCons (sSet 7 (e2 subV (eN 6) (eL lenV (aCons (eLc [8] (iVal (eSl (eN 3) oNone (oSome (e2 subV (eN 6) (eK (.int 1)))))) (gNm 8) ct__law_left_out_1 ce__law_left_out_2) aNil))))
  (sDrop (eMut 4 appF (aCons (eIf (t2 (cmpV fun i j => decide (j < i)) (eN 5) (eK (.int 0))) (eN 7) (e1 negV (eN 7))) aNil)))) sNil)
  (sAsg (eTup (aCons (e2 ixV (eN 3) (eN 6)) (aCons (e2 ixV (eN 3) (e2 subV (eN 6) (eK (.int 1)))) aNil))) (gTupF 2 (gConsF (gSub 3 (e2 subV (eN 6) (eK (.int 1)))) (gConsF (gSub 3 (eN 6)) gNilF))))))
def ev__law_left_out : S → Out Fl :=
  (sCons (sPar 3 4 (aCons (e1 lrg1 (eN 0)) (aCons (eLst aNil) aNil)))
  (sCons (sFor (iVal (eN 1)) (gNm 5) lp__law_left_out_3)
  (sRet [0, 1, 2] (eL tupV (aCons (eN 4) aNil)))))
def R_law_left_out : List Vl → FO := runF 9 3 [0, 1, 2] ev__law_left_out
def lp__law_right_1 : S → Out Fl :=
  (sIf (t2 neV3 (eL reprV (aCons (eCall 3 R_left_out (aCons (eN 1) (aCons (eN 2) (aCons (eN 5) aNil)))) aNil)) (eL reprV (aCons (eCall 3 R_law_left_out (aCons (eN 1) (aCons (eN 2) (aCons (eN 5) aNil)))) aNil))) (sRet [0] (eK (.bl false))) sNil)
def ct__law_right_2 : S → Out Bool :=
  (t2 neV3 (eN 5) (eN 4))
def ce__law_right_3 : S → Out Ag :=
  (eN 5)
def ev__law_right : S → Out Fl :=
  (sCons (sSet 1 (eL int1V (aCons (e2 addV (eK (.int 3)) (eCall 2 R_law_take (aCons (eN 0) (aCons (eK (.int 3)) aNil)))) aNil)))
  (sCons (sSet 2 (eCall 3 R_law_p_word (aCons (eN 0) (aCons (eN 1) (aCons (eK (.int 9)) aNil)))))
  (sCons (sAsg (eTup (aCons (eCall 4 R_law_p_moved (aCons (eN 0) (aCons (eN 1) (aCons (eN 2) (aCons (eK (.int 10)) aNil))))) (aCons (eL int1V (aCons (eCall 2 R_law_take (aCons (eN 0) (aCons (eN 1) aNil))) aNil)) aNil))) (gTupF 2 (gConsF (gNm 3) (gConsF (gNm 4) gNilF))))
  (sCons (sFor (iRng1 (aCons (eN 1) aNil)) (gNm 5) lp__law_right_1)
  (sCons (sPar 6 7 (aCons (eCall 3 R_left_out (aCons (eN 1) (aCons (eN 2) (aCons (eN 4) aNil)))) (aCons (eCall 3 R_left_out (aCons (eN 1) (aCons (eN 3) (aCons (eN 4) aNil)))) aNil)))
  (sCons (sIf (tNotB (tVal (eCall 3 R_law_p_same (aCons (e2 subV (eN 1) (eK (.int 1))) (aCons (eN 6) (aCons (eN 7) aNil)))))) (sRet [0] (eK (.bl false))) sNil)
  (sCons (sIf (t2 eqV3 (eN 1) (eK (.int 3))) (sRet [0] (eK (.bl true))) sNil)
  (sCons (sSet 8 (eCall 2 R_law_of (aCons (eN 0) (aCons (eLc [5] (iRng1 (aCons (eN 1) aNil)) (gNm 5) ct__law_right_2 ce__law_right_3) aNil))))
  (sCons (sSet 9 (eCall 3 R_left_out (aCons (e2 subV (eN 1) (eK (.int 1))) (aCons (eN 6) (aCons (e2 subV (eN 8) (eL int1V (aCons (e2 (cmpV fun i j => decide (j < i)) (eN 8) (eN 4)) aNil))) aNil)))))
  (sRet [0] (e2 eqV3 (eL reprV (aCons (eCall 3 R_left_out (aCons (e2 subV (eN 1) (eK (.int 1))) (aCons (eCall 3 R_left_out (aCons (eN 1) (aCons (eN 2) (aCons (eN 8) aNil)))) (aCons (e2 subV (eN 4) (eL int1V (aCons (e2 (cmpV fun i j => decide (j < i)) (eN 4) (eN 8)) aNil))) aNil)))) aNil)) (eL reprV (aCons (eN 9) aNil)))))))))))))
def R_law_right : List Vl → FO := runF 10 1 [0] ev__law_right
def ce_law_1 : S → Out Ag :=
  (eCall 1 R_law_right (aCons (eN 2) aNil))
def lp_law_2 : S → Out Fl :=
  (sCons (sSet 2 (eCall 2 R_law_pot (aCons (eN 0) (aCons (eN 1) aNil))))
  (sIf (tNotB (tVal (eL allV (aCons (eLc [3] (iRng1 (aCons (eK (.int 4)) aNil)) (gNm 3) tTrue ce_law_1) aNil)))) (sRet [0] (eK (.bl false))) sNil))
def ev_law : S → Out Fl :=
  (sCons (sFor (iVal (eCall 2 R_law_places (aCons (eN 0) (aCons (eK (.int 3)) aNil)))) (gNm 1) lp_law_2)
  (sRet [0] (eK (.bl true))))
def R_law : List Vl → FO := runF 4 1 [0] ev_law
section
variable {P : Program} {w : World} {K : PySem.W.Frag} {mg : Str → Option Value} {base : Heap}
theorem bd_is_whole (L : Lay K mg) : Binds K L.fd_is_whole [("value" : Str)] [] := L.F_is_whole.binds fun _ _ _ _ _ _ us hl => match us, hl with | [_], _ => rfl
theorem ok_is_whole (L : Lay K mg) : FnOk3 P w K mg base 1 L.f_is_whole L.fd_is_whole [("value" : Str)] (spOf K mg 1 R_is_whole) := by
  have nd : ([("value" : Str)] : List Str).Nodup := by decide +kernel
  refine fn3 L.F_is_whole (N := [("value" : Str)]) ⟨rfl, rfl, rfl, nd, rfl, by decide +kernel, by decide +kernel⟩ rfl (by decide) (by decide) fun cdv A outer s H E c hr hgd hfx tk => ?_
  have hu : (cxOf (L2.CX P w) P w K mg base [("value" : Str)] "is_whole" (defScope (topS 6)) L.f_is_whole cdv A outer s H E).A.units + 66 < cLine := by have := hr.un; omega
  exact (mss_one (ms_retF hfx (me_and (me_isi L.z_isinstance (ma_cons (me_nm 0) (ma_cons (me_ty L.z_int (by decide +kernel)) ma_nil))) (me_one1 (me_not (me_isi L.z_isinstance (ma_cons (me_nm 0) (ma_cons (me_ty L.z_bool (by decide +kernel)) ma_nil))))))))
theorem bd_is_integer (L : Lay K mg) : Binds K L.fd_is_integer [("value" : Str), ("low" : Str), ("high" : Str)] [] := L.F_is_integer.binds fun _ _ _ _ _ _ us hl => match us, hl with | [_, _, _], _ => rfl
theorem ok_is_integer (L : Lay K mg) : FnOk3 P w K mg base 2 L.f_is_integer L.fd_is_integer [("value" : Str), ("low" : Str), ("high" : Str)] (spOf K mg 3 R_is_integer) := by
  have nd : ([("value" : Str), ("low" : Str), ("high" : Str)] : List Str).Nodup := by decide +kernel
  refine fn3 L.F_is_integer (N := [("value" : Str), ("low" : Str), ("high" : Str)]) ⟨rfl, rfl, rfl, nd, rfl, by decide +kernel, by decide +kernel⟩ rfl (by decide) (by decide) fun cdv A outer s H E c hr hgd hfx tk => ?_
  have hu : (cxOf (L2.CX P w) P w K mg base [("value" : Str), ("low" : Str), ("high" : Str)] "is_integer" (defScope (topS 7)) L.f_is_integer cdv A outer s H E).A.units + 66 < cLine := by have := hr.un; omega
  exact (mss_one (ms_retF hfx (me_and (me_call tk hgd (hr.mono (by decide)) (ok_is_whole L) L.m_is_whole L.F_is_whole.kp (bd_is_whole L) (ma_cons (me_nm 0) ma_nil)) (me_one1 (me_chain op_le pk_cmp op_le pk_cmp (me_nm 1) (me_nm 0) (me_nm 2))))))
theorem bd_is_many (L : Lay K mg) : Binds K L.fd_is_many [("value" : Str)] [] := L.F_is_many.binds fun _ _ _ _ _ _ us hl => match us, hl with | [_], _ => rfl
theorem ok_is_many (L : Lay K mg) : FnOk3 P w K mg base 3 L.f_is_many L.fd_is_many [("value" : Str)] (spOf K mg 1 R_is_many) := by
  have nd : ([("value" : Str)] : List Str).Nodup := by decide +kernel
  refine fn3 L.F_is_many (N := [("value" : Str)]) ⟨rfl, rfl, rfl, nd, rfl, by decide +kernel, by decide +kernel⟩ rfl (by decide) (by decide) fun cdv A outer s H E c hr hgd hfx tk => ?_
  have hu : (cxOf (L2.CX P w) P w K mg base [("value" : Str)] "is_many" (defScope (topS 12)) L.f_is_many cdv A outer s H E).A.units + 66 < cLine := by have := hr.un; omega
  exact (mss_one (ms_retF hfx (me_call tk hgd (hr.mono (by decide)) (ok_is_integer L) L.m_is_integer L.F_is_integer.kp (bd_is_integer L) (ma_cons (me_nm 0) (ma_cons (me_gint L.g_LEAST_MANY_words) (ma_cons (me_gint L.g_MOST_MANY) ma_nil))))))
theorem bd_check_many (L : Lay K mg) : Binds K L.fd_check_many [("value" : Str)] [] := L.F_check_many.binds fun _ _ _ _ _ _ us hl => match us, hl with | [_], _ => rfl
theorem ok_check_many (L : Lay K mg) : FnOk3 P w K mg base 4 L.f_check_many L.fd_check_many [("value" : Str)] (spOf K mg 1 R_check_many) := by
  have nd : ([("value" : Str)] : List Str).Nodup := by decide +kernel
  refine fn3 L.F_check_many (N := [("value" : Str)]) ⟨rfl, rfl, rfl, nd, rfl, by decide +kernel, by decide +kernel⟩ rfl (by decide) (by decide) fun cdv A outer s H E c hr hgd hfx tk => ?_
  have hu : (cxOf (L2.CX P w) P w K mg base [("value" : Str)] "check_many" (defScope (topS 13)) L.f_check_many cdv A outer s H E).A.units + 66 < cLine := by have := hr.un; omega
  exact (mss_one (ms_if (mt_not (mt_val (me_call tk hgd (hr.mono (by decide)) (ok_is_many L) L.m_is_many L.F_is_many.kp (bd_is_many L) (ma_cons (me_nm 0) ma_nil)))) (mss_one ms_no) mss_nil))
theorem bd_is_passing (L : Lay K mg) : Binds K L.fd_is_passing [("many" : Str), ("value" : Str)] [] := L.F_is_passing.binds fun _ _ _ _ _ _ us hl => match us, hl with | [_, _], _ => rfl
theorem ok_is_passing (L : Lay K mg) : FnOk3 P w K mg base 3 L.f_is_passing L.fd_is_passing [("many" : Str), ("value" : Str)] (spOf K mg 2 R_is_passing) := by
  have nd : ([("many" : Str), ("value" : Str)] : List Str).Nodup := by decide +kernel
  refine fn3 L.F_is_passing (N := [("many" : Str), ("value" : Str)]) ⟨rfl, rfl, rfl, nd, rfl, by decide +kernel, by decide +kernel⟩ rfl (by decide) (by decide) fun cdv A outer s H E c hr hgd hfx tk => ?_
  have hu : (cxOf (L2.CX P w) P w K mg base [("many" : Str), ("value" : Str)] "is_passing" (defScope (topS 14)) L.f_is_passing cdv A outer s H E).A.units + 66 < cLine := by have := hr.un; omega
  exact (mss_one (ms_retF hfx (me_and (me_call tk hgd (hr.mono (by decide)) (ok_is_integer L) L.m_is_integer L.F_is_integer.kp (bd_is_integer L) (ma_cons (me_nm 1) (ma_cons (me_sub me_int (me_nm 0)) (ma_cons (me_sub (me_nm 0) me_int) ma_nil)))) (me_one1 (me_ne hu (me_nm 1) me_int)))))
theorem bd_is_row (L : Lay K mg) : Binds K L.fd_is_row [("many" : Str), ("value" : Str)] [] := L.F_is_row.binds fun _ _ _ _ _ _ us hl => match us, hl with | [_, _], _ => rfl
theorem ok_is_row (L : Lay K mg) : FnOk3 P w K mg base 4 L.f_is_row L.fd_is_row [("many" : Str), ("value" : Str)] (spOf K mg 2 R_is_row) := by
  have nd : ([("many" : Str), ("value" : Str), ("one" : Str)] : List Str).Nodup := by decide +kernel
  refine fn3 L.F_is_row (N := [("many" : Str), ("value" : Str), ("one" : Str)]) ⟨rfl, rfl, rfl, nd, rfl, by decide +kernel, by decide +kernel⟩ rfl (by decide) (by decide) fun cdv A outer s H E c hr hgd hfx tk => ?_
  have hu : (cxOf (L2.CX P w) P w K mg base [("many" : Str), ("value" : Str), ("one" : Str)] "is_row" (defScope (topS 15)) L.f_is_row cdv A outer s H E).A.units + 66 < cLine := by have := hr.un; omega
  exact (mss_one (ms_retF hfx (me_and (me_isi L.z_isinstance (ma_cons (me_nm 1) (ma_cons (me_ty L.z_tuple (by decide +kernel)) ma_nil))) (me_one1 (me_all rfl L.z_all (ma_cons (me_lc (own := [(("one" : Str), 2)]) rfl nd (blkOk_by (by rfl)) (mi_val (me_nm 1)) (fun _ _ _ _ _ => (mg_nameF rfl nd)) (by decide) (fun _ _ _ _ _ => mpt_nil) (fun _ _ _ _ _ => (me_call L3.takes0 hgd (hr.mono (by decide)) (ok_is_passing L) L.m_is_passing L.F_is_passing.kp (bd_is_passing L) (ma_cons (me_nm 0) (ma_cons (me_nm 2) ma_nil))))) ma_nil))))))
theorem bd_is_word (L : Lay K mg) : Binds K L.fd_is_word [("many" : Str), ("value" : Str)] [] := L.F_is_word.binds fun _ _ _ _ _ _ us hl => match us, hl with | [_, _], _ => rfl
theorem ok_is_word (L : Lay K mg) : FnOk3 P w K mg base 5 L.f_is_word L.fd_is_word [("many" : Str), ("value" : Str)] (spOf K mg 2 R_is_word) := by
  have nd : ([("many" : Str), ("value" : Str)] : List Str).Nodup := by decide +kernel
  refine fn3 L.F_is_word (N := [("many" : Str), ("value" : Str)]) ⟨rfl, rfl, rfl, nd, rfl, by decide +kernel, by decide +kernel⟩ rfl (by decide) (by decide) fun cdv A outer s H E c hr hgd hfx tk => ?_
  have hu : (cxOf (L2.CX P w) P w K mg base [("many" : Str), ("value" : Str)] "is_word" (defScope (topS 16)) L.f_is_word cdv A outer s H E).A.units + 66 < cLine := by have := hr.un; omega
  exact (mss_cons (ms_expr (me_call tk hgd (hr.mono (by decide)) (ok_check_many L) L.m_check_many L.F_check_many.kp (bd_check_many L) (ma_cons (me_nm 0) ma_nil)))
    (mss_one (ms_retF hfx (me_and (me_call tk hgd (hr.mono (by decide)) (ok_is_row L) L.m_is_row L.F_is_row.kp (bd_is_row L) (ma_cons (me_nm 0) (ma_cons (me_nm 1) ma_nil))) (me_one1 (me_le (me_len L.z_len (ma_cons (me_nm 1) ma_nil)) (me_gint L.g_MOST_WORD)))))))
theorem bd_check_word (L : Lay K mg) : Binds K L.fd_check_word [("many" : Str), ("value" : Str)] [] := L.F_check_word.binds fun _ _ _ _ _ _ us hl => match us, hl with | [_, _], _ => rfl
theorem ok_check_word (L : Lay K mg) : FnOk3 P w K mg base 6 L.f_check_word L.fd_check_word [("many" : Str), ("value" : Str)] (spOf K mg 2 R_check_word) := by
  have nd : ([("many" : Str), ("value" : Str)] : List Str).Nodup := by decide +kernel
  refine fn3 L.F_check_word (N := [("many" : Str), ("value" : Str)]) ⟨rfl, rfl, rfl, nd, rfl, by decide +kernel, by decide +kernel⟩ rfl (by decide) (by decide) fun cdv A outer s H E c hr hgd hfx tk => ?_
  have hu : (cxOf (L2.CX P w) P w K mg base [("many" : Str), ("value" : Str)] "check_word" (defScope (topS 17)) L.f_check_word cdv A outer s H E).A.units + 66 < cLine := by have := hr.un; omega
  exact (mss_one (ms_if (mt_not (mt_val (me_call tk hgd (hr.mono (by decide)) (ok_is_word L) L.m_is_word L.F_is_word.kp (bd_is_word L) (ma_cons (me_nm 0) (ma_cons (me_nm 1) ma_nil))))) (mss_one ms_no) mss_nil))
theorem bd_passed (L : Lay K mg) : Binds K L.fd_passed [("row" : Str), ("passing" : Str)] [] := L.F_passed.binds fun _ _ _ _ _ _ us hl => match us, hl with | [_, _], _ => rfl
theorem ok_passed (L : Lay K mg) : FnOk3 P w K mg base 1 L.f_passed L.fd_passed [("row" : Str), ("passing" : Str)] (spOf K mg 2 R_passed) := by
  have nd : ([("row" : Str), ("passing" : Str), ("at" : Str), ("left" : Str), ("right" : Str)] : List Str).Nodup := by decide +kernel
  refine fn3 L.F_passed (N := [("row" : Str), ("passing" : Str), ("at" : Str), ("left" : Str), ("right" : Str)]) ⟨rfl, rfl, rfl, nd, rfl, by decide +kernel, by decide +kernel⟩ rfl (by decide) (by decide) fun cdv A outer s H E c hr hgd hfx tk => ?_
  have hu : (cxOf (L2.CX P w) P w K mg base [("row" : Str), ("passing" : Str), ("at" : Str), ("left" : Str), ("right" : Str)] "passed" (defScope (topS 20)) L.f_passed cdv A outer s H E).A.units + 66 < cLine := by have := hr.un; omega
  exact (mss_cons (ms_setF hfx nd (me_abs L.z_abs (ma_cons (me_nm 1) ma_nil)))
    (mss_cons (ms_parF hfx rfl nd (ma_cons (me_ix (me_nm 0) (me_sub (me_nm 2) me_int)) (ma_cons (me_ix (me_nm 0) (me_nm 2)) ma_nil)))
    (mss_cons (ms_asg (me_tup (ma_cons (me_nm 4) (ma_cons (me_nm 3) ma_nil))) (mg_tup rfl (mgs_cons (mg_sub (me_nm 0) (me_sub (me_nm 2) me_int)) (mgs_cons (mg_sub (me_nm 0) (me_nm 2)) mgs_nil))))
    (mss_one (ms_retF hfx (me_if (mt_cmp op_gt pk_cmp (me_nm 1) me_int) (me_tup (ma_cons (me_nm 3) (ma_cons (me_nm 4) ma_nil))) (me_tup (ma_cons (me_nm 4) (ma_cons (me_nm 3) ma_nil)))))))))
theorem bd_check_dancer (L : Lay K mg) : Binds K L.fd_check_dancer [("many" : Str), ("value" : Str)] [] := L.F_check_dancer.binds fun _ _ _ _ _ _ us hl => match us, hl with | [_, _], _ => rfl
theorem ok_check_dancer (L : Lay K mg) : FnOk3 P w K mg base 3 L.f_check_dancer L.fd_check_dancer [("many" : Str), ("value" : Str)] (spOf K mg 2 R_check_dancer) := by
  have nd : ([("many" : Str), ("value" : Str)] : List Str).Nodup := by decide +kernel
  refine fn3 L.F_check_dancer (N := [("many" : Str), ("value" : Str)]) ⟨rfl, rfl, rfl, nd, rfl, by decide +kernel, by decide +kernel⟩ rfl (by decide) (by decide) fun cdv A outer s H E c hr hgd hfx tk => ?_
  have hu : (cxOf (L2.CX P w) P w K mg base [("many" : Str), ("value" : Str)] "check_dancer" (defScope (topS 21)) L.f_check_dancer cdv A outer s H E).A.units + 66 < cLine := by have := hr.un; omega
  exact (mss_one (ms_if (mt_not (mt_val (me_call tk hgd (hr.mono (by decide)) (ok_is_integer L) L.m_is_integer L.F_is_integer.kp (bd_is_integer L) (ma_cons (me_nm 1) (ma_cons me_int (ma_cons (me_sub (me_nm 0) me_int) ma_nil)))))) (mss_one ms_no) mss_nil))
theorem bd_left_out (L : Lay K mg) : Binds K L.fd_left_out [("many" : Str), ("word" : Str), ("dancer" : Str)] [] := L.F_left_out.binds fun _ _ _ _ _ _ us hl => match us, hl with | [_, _, _], _ => rfl
theorem ok_left_out (L : Lay K mg) : FnOk3 P w K mg base 7 L.f_left_out L.fd_left_out [("many" : Str), ("word" : Str), ("dancer" : Str)] (spOf K mg 3 R_left_out) := by
  have nd : ([("many" : Str), ("word" : Str), ("dancer" : Str), ("row" : Str), ("found" : Str), ("passing" : Str), ("at" : Str), ("where" : Str), ("less" : Str)] : List Str).Nodup := by decide +kernel
  refine fn3 L.F_left_out (N := [("many" : Str), ("word" : Str), ("dancer" : Str), ("row" : Str), ("found" : Str), ("passing" : Str), ("at" : Str), ("where" : Str), ("less" : Str)]) ⟨rfl, rfl, rfl, nd, rfl, by decide +kernel, by decide +kernel⟩ rfl (by decide) (by decide) fun cdv A outer s H E c hr hgd hfx tk => ?_
  have hu : (cxOf (L2.CX P w) P w K mg base [("many" : Str), ("word" : Str), ("dancer" : Str), ("row" : Str), ("found" : Str), ("passing" : Str), ("at" : Str), ("where" : Str), ("less" : Str)] "left_out" (defScope (topS 22)) L.f_left_out cdv A outer s H E).A.units + 66 < cLine := by have := hr.un; omega
  exact (mss_cons (ms_expr (me_call tk hgd (hr.mono (by decide)) (ok_check_many L) L.m_check_many L.F_check_many.kp (bd_check_many L) (ma_cons (me_nm 0) ma_nil)))
    (mss_cons (ms_if (mt_cmp (L3.OpR.or op_eq (op_eqD (hu64 hu))) pk_eq (me_nm 0) (me_gint L.g_LEAST_MANY_dances)) (mss_one ms_no) mss_nil)
    (mss_cons (ms_expr (me_call tk hgd (hr.mono (by decide)) (ok_check_word L) L.m_check_word L.F_check_word.kp (bd_check_word L) (ma_cons (me_nm 0) (ma_cons (me_nm 1) ma_nil))))
    (mss_cons (ms_expr (me_call tk hgd (hr.mono (by decide)) (ok_check_dancer L) L.m_check_dancer L.F_check_dancer.kp (bd_check_dancer L) (ma_cons (me_nm 0) (ma_cons (me_nm 2) ma_nil))))
    (mss_cons (ms_parF hfx rfl nd (ma_cons (me_lrg1 rfl L.z_list L.z_range (me_nm 0)) (ma_cons (me_list ma_nil) ma_nil)))
    (mss_cons (ms_for (passes_of rfl) rfl (mi_val (me_nm 1)) (mg_nameF hfx nd) (mss_cons (ms_parF hfx rfl nd (ma_cons (me_abs L.z_abs (ma_cons (me_nm 5) ma_nil)) (ma_cons (me_index hu (me_nm 3) (ma_cons (me_nm 2) ma_nil)) ma_nil)))
    (mss_one (ms_if (mt_cmp (L3.OpR.or (op_notInD (hu65 hu)) op_notIn_seq) pk_notIn (me_nm 2) (me_call tk hgd (hr.mono (by decide)) (ok_passed L) L.m_passed L.F_passed.kp (bd_passed L) (ma_cons (me_nm 3) (ma_cons (me_nm 5) ma_nil)))) (mss_cons (ms_setF hfx nd (me_sub (me_nm 6) (me_int1 L.z_int (ma_cons (me_lt (me_nm 7) (me_nm 6)) ma_nil))))
    (mss_one (ms_expr (me_append (me_nm 4) (ma_cons (me_if (mt_cmp op_gt pk_cmp (me_nm 5) me_int) (me_nm 8) (me_neg (me_nm 8))) ma_nil))))) mss_nil))))
    (mss_one (ms_retF hfx (me_tupleOf L.z_tuple (ma_cons (me_nm 4) ma_nil))))))))))
theorem bd__law_pot (L : Lay K mg) : Binds K L.fd__law_pot [("script" : Str), ("place" : Str)] [] := L.F__law_pot.binds fun _ _ _ _ _ _ us hl => match us, hl with | [_, _], _ => rfl
theorem ok__law_pot (L : Lay K mg) : FnOk3 P w K mg base 1 L.f__law_pot L.fd__law_pot [("script" : Str), ("place" : Str)] (spOf K mg 2 R_law_pot) := by
  have nd : ([("script" : Str), ("place" : Str), ("cell" : Str), ("own" : Str), ("small" : Str)] : List Str).Nodup := by decide +kernel
  refine fn3 L.F__law_pot (N := [("script" : Str), ("place" : Str), ("cell" : Str), ("own" : Str), ("small" : Str)]) ⟨rfl, rfl, rfl, nd, rfl, by decide +kernel, by decide +kernel⟩ rfl (by decide) (by decide) fun cdv A outer s H E c hr hgd hfx tk => ?_
  have hu : (cxOf (L2.CX P w) P w K mg base [("script" : Str), ("place" : Str), ("cell" : Str), ("own" : Str), ("small" : Str)] "_law_pot" (defScope (topS 24)) L.f__law_pot cdv A outer s H E).A.units + 66 < cLine := by have := hr.un; omega
  exact (mss_cons (ms_setF hfx nd (me_if (mt_cmp op_lt pk_cmp (me_nm 1) (me_len L.z_len (ma_cons (me_nm 0) ma_nil))) (me_ix (me_nm 0) (me_nm 1)) (me_add (me_add (me_mod (me_sum rfl L.z_sum (ma_cons (me_slice (me_nm 0) mo_none (mo_some me_int)) ma_nil)) me_int) (me_mul me_int (me_nm 1))) me_int)))
    (mss_cons (ms_setF hfx nd (me_mul (me_mod (me_int1 L.z_int (ma_cons (me_abs L.z_abs (ma_cons (me_nm 2) ma_nil)) ma_nil)) (me_pow (me_pow me_int me_int) me_int)) (me_int1 L.z_int (ma_cons (me_ge (me_abs L.z_abs (ma_cons (me_nm 2) ma_nil)) (me_pow me_int me_int)) ma_nil))))
    (mss_cons (ms_setF hfx nd (me_mod (me_int1 L.z_int (ma_cons (me_nm 2) ma_nil)) me_int))
    (mss_one (ms_retF hfx (me_list (ma_cons (me_nm 3) (ma_cons (me_mod (me_int1 L.z_int (ma_cons (me_add (me_add (me_mul (me_nm 4) me_int) (me_mul (me_mul me_int (me_nm 1)) (me_nm 1))) me_int) ma_nil)) me_int) (ma_cons me_int ma_nil)))))))))
theorem bd__law_take (L : Lay K mg) : Binds K L.fd__law_take [("pot" : Str), ("upto" : Str)] [] := L.F__law_take.binds fun _ _ _ _ _ _ us hl => match us, hl with | [_, _], _ => rfl
theorem ok__law_take (L : Lay K mg) : FnOk3 P w K mg base 1 L.f__law_take L.fd__law_take [("pot" : Str), ("upto" : Str)] (spOf K mg 2 R_law_take) := by
  have nd : ([("pot" : Str), ("upto" : Str), ("digit" : Str), ("prime" : Str), ("blend" : Str)] : List Str).Nodup := by decide +kernel
  refine fn3 L.F__law_take (N := [("pot" : Str), ("upto" : Str), ("digit" : Str), ("prime" : Str), ("blend" : Str)]) ⟨rfl, rfl, rfl, nd, rfl, by decide +kernel, by decide +kernel⟩ rfl (by decide) (by decide) fun cdv A outer s H E c hr hgd hfx tk => ?_
  have hu : (cxOf (L2.CX P w) P w K mg base [("pot" : Str), ("upto" : Str), ("digit" : Str), ("prime" : Str), ("blend" : Str)] "_law_take" (defScope (topS 25)) L.f__law_take cdv A outer s H E).A.units + 66 < cLine := by have := hr.un; omega
  exact (mss_cons (ms_if (mt_cmp op_gt pk_cmp (me_ix (me_nm 0) me_int) me_int) (mss_cons (ms_setF hfx nd (me_mod (me_int1 L.z_int (ma_cons (me_ix (me_nm 0) me_int) ma_nil)) (me_nm 1)))
    (mss_cons (ms_asg (me_fdiv (me_ix (me_nm 0) me_int) (me_nm 1)) (mg_sub (me_nm 0) me_int))
    (mss_one (ms_retF hfx (me_nm 2))))) mss_nil)
    (mss_cons (ms_asg (me_add (me_ix (me_nm 0) me_int) me_int) (mg_sub (me_nm 0) me_int))
    (mss_cons (ms_setF hfx nd (me_ix (me_list (ma_cons me_int (ma_cons me_int (ma_cons me_int (ma_cons me_int (ma_cons me_int ma_nil)))))) (me_mod (me_int1 L.z_int (ma_cons (me_ix (me_nm 0) me_int) ma_nil)) me_int)))
    (mss_cons (ms_setF hfx nd (me_mod (me_int1 L.z_int (ma_cons (me_pow (me_int1 L.z_int (ma_cons (me_add (me_add (me_ix (me_nm 0) me_int) (me_mul (me_mul me_int (me_ix (me_nm 0) me_int)) (me_ix (me_nm 0) me_int))) me_int) ma_nil)) me_int) ma_nil)) (me_nm 3)))
    (mss_cons (ms_setF hfx nd (me_mod (me_int1 L.z_int (ma_cons (me_mul (me_nm 4) (me_add (me_mod (me_int1 L.z_int (ma_cons (me_nm 4) ma_nil)) me_int) (me_mul me_int (me_ix (me_nm 0) me_int)))) ma_nil)) me_int))
    (mss_one (ms_retF hfx (me_mod (me_int1 L.z_int (ma_cons (me_fdiv (me_nm 4) me_int) ma_nil)) (me_nm 1)))))))))
theorem bd__law_of (L : Lay K mg) : Binds K L.fd__law_of [("pot" : Str), ("some" : Str)] [] := L.F__law_of.binds fun _ _ _ _ _ _ us hl => match us, hl with | [_, _], _ => rfl
theorem ok__law_of (L : Lay K mg) : FnOk3 P w K mg base 2 L.f__law_of L.fd__law_of [("pot" : Str), ("some" : Str)] (spOf K mg 2 R_law_of) := by
  have nd : ([("pot" : Str), ("some" : Str)] : List Str).Nodup := by decide +kernel
  refine fn3 L.F__law_of (N := [("pot" : Str), ("some" : Str)]) ⟨rfl, rfl, rfl, nd, rfl, by decide +kernel, by decide +kernel⟩ rfl (by decide) (by decide) fun cdv A outer s H E c hr hgd hfx tk => ?_
  have hu : (cxOf (L2.CX P w) P w K mg base [("pot" : Str), ("some" : Str)] "_law_of" (defScope (topS 26)) L.f__law_of cdv A outer s H E).A.units + 66 < cLine := by have := hr.un; omega
  exact (mss_one (ms_retF hfx (me_ix (me_nm 1) (me_call tk hgd (hr.mono (by decide)) (ok__law_take L) L.m__law_take L.F__law_take.kp (bd__law_take L) (ma_cons (me_nm 0) (ma_cons (me_len L.z_len (ma_cons (me_nm 1) ma_nil)) ma_nil))))))
theorem bd__law_places (L : Lay K mg) : Binds K L.fd__law_places [("script" : Str), ("most" : Str)] [] := L.F__law_places.binds fun _ _ _ _ _ _ us hl => match us, hl with | [_, _], _ => rfl
theorem ok__law_places (L : Lay K mg) : FnOk3 P w K mg base 1 L.f__law_places L.fd__law_places [("script" : Str), ("most" : Str)] (spOf K mg 2 R_law_places) := by
  have nd : ([("script" : Str), ("most" : Str)] : List Str).Nodup := by decide +kernel
  refine fn3 L.F__law_places (N := [("script" : Str), ("most" : Str)]) ⟨rfl, rfl, rfl, nd, rfl, by decide +kernel, by decide +kernel⟩ rfl (by decide) (by decide) fun cdv A outer s H E c hr hgd hfx tk => ?_
  have hu : (cxOf (L2.CX P w) P w K mg base [("script" : Str), ("most" : Str)] "_law_places" (defScope (topS 27)) L.f__law_places cdv A outer s H E).A.units + 66 < cLine := by have := hr.un; omega
  exact (mss_one (ms_retF hfx (me_lrg1 rfl L.z_list L.z_range (me_max2 rfl L.z_max (ma_cons me_int (ma_cons (me_min2 rfl L.z_min (ma_cons (me_nm 1) (ma_cons (me_len L.z_len (ma_cons (me_nm 0) ma_nil)) ma_nil))) ma_nil))))))
theorem bd__law_p_word (L : Lay K mg) : Binds K L.fd__law_p_word [("pot" : Str), ("many" : Str), ("most" : Str)] [] := L.F__law_p_word.binds fun _ _ _ _ _ _ us hl => match us, hl with | [_, _, _], _ => rfl
theorem ok__law_p_word (L : Lay K mg) : FnOk3 P w K mg base 3 L.f__law_p_word L.fd__law_p_word [("pot" : Str), ("many" : Str), ("most" : Str)] (spOf K mg 3 R_law_p_word) := by
  have nd : ([("pot" : Str), ("many" : Str), ("most" : Str), ("some" : Str), ("one" : Str), ("lap" : Str)] : List Str).Nodup := by decide +kernel
  refine fn3 L.F__law_p_word (N := [("pot" : Str), ("many" : Str), ("most" : Str), ("some" : Str), ("one" : Str), ("lap" : Str)]) ⟨rfl, rfl, rfl, nd, rfl, by decide +kernel, by decide +kernel⟩ rfl (by decide) (by decide) fun cdv A outer s H E c hr hgd hfx tk => ?_
  have hu : (cxOf (L2.CX P w) P w K mg base [("pot" : Str), ("many" : Str), ("most" : Str), ("some" : Str), ("one" : Str), ("lap" : Str)] "_law_p_word" (defScope (topS 28)) L.f__law_p_word cdv A outer s H E).A.units + 66 < cLine := by have := hr.un; omega
  exact (mss_cons (ms_setF hfx nd (me_lc (own := [(("one" : Str), 4)]) rfl nd (blkOk_by (by rfl)) (mi_rng2 L.z_range (ma_cons (me_sub me_int (me_nm 1)) (ma_cons (me_nm 1) ma_nil))) (fun _ _ _ _ _ => (mg_nameF rfl nd)) (by decide) (fun _ _ _ _ _ => (mpt_one (mt_cmp (L3.OpR.or op_ne (op_neD (hu64 hu))) pk_ne (me_nm 4) me_int))) (fun _ _ _ _ _ => (me_int1 L.z_int (ma_cons (me_nm 4) ma_nil)))))
    (mss_one (ms_retF hfx (me_tupleOf L.z_tuple (ma_cons (me_lc (own := [(("lap" : Str), 5)]) rfl nd (blkOk_by (by rfl)) (mi_rng1 L.z_range (ma_cons (me_call tk hgd (hr.mono (by decide)) (ok__law_take L) L.m__law_take L.F__law_take.kp (bd__law_take L) (ma_cons (me_nm 0) (ma_cons (me_add (me_nm 2) me_int) ma_nil))) ma_nil)) (fun _ _ _ _ _ => (mg_nameF rfl nd)) (by decide) (fun _ _ _ _ _ => mpt_nil) (fun _ _ _ _ _ => (me_call L3.takes0 hgd (hr.mono (by decide)) (ok__law_of L) L.m__law_of L.F__law_of.kp (bd__law_of L) (ma_cons (me_nm 0) (ma_cons (me_nm 3) ma_nil))))) ma_nil)))))
theorem bd__law_p_back (L : Lay K mg) : Binds K L.fd__law_p_back [("word" : Str)] [] := L.F__law_p_back.binds fun _ _ _ _ _ _ us hl => match us, hl with | [_], _ => rfl
theorem ok__law_p_back (L : Lay K mg) : FnOk3 P w K mg base 1 L.f__law_p_back L.fd__law_p_back [("word" : Str)] (spOf K mg 1 R_law_p_back) := by
  have nd : ([("word" : Str), ("one" : Str)] : List Str).Nodup := by decide +kernel
  refine fn3 L.F__law_p_back (N := [("word" : Str), ("one" : Str)]) ⟨rfl, rfl, rfl, nd, rfl, by decide +kernel, by decide +kernel⟩ rfl (by decide) (by decide) fun cdv A outer s H E c hr hgd hfx tk => ?_
  have hu : (cxOf (L2.CX P w) P w K mg base [("word" : Str), ("one" : Str)] "_law_p_back" (defScope (topS 29)) L.f__law_p_back cdv A outer s H E).A.units + 66 < cLine := by have := hr.un; omega
  exact (mss_one (ms_retF hfx (me_tupleOf L.z_tuple (ma_cons (me_lc (own := [(("one" : Str), 1)]) rfl nd (blkOk_by (by rfl)) (mi_val (me_rev (me_nm 0))) (fun _ _ _ _ _ => (mg_nameF rfl nd)) (by decide) (fun _ _ _ _ _ => mpt_nil) (fun _ _ _ _ _ => (me_neg (me_nm 1)))) ma_nil))))
theorem bd__law_p_freed (L : Lay K mg) : Binds K L.fd__law_p_freed [("row" : Str)] [] := L.F__law_p_freed.binds fun _ _ _ _ _ _ us hl => match us, hl with | [_], _ => rfl
theorem ok__law_p_freed (L : Lay K mg) : FnOk3 P w K mg base 1 L.f__law_p_freed L.fd__law_p_freed [("row" : Str)] (spOf K mg 1 R_law_p_freed) := by
  have nd : ([("row" : Str), ("found" : Str), ("one" : Str)] : List Str).Nodup := by decide +kernel
  refine fn3 L.F__law_p_freed (N := [("row" : Str), ("found" : Str), ("one" : Str)]) ⟨rfl, rfl, rfl, nd, rfl, by decide +kernel, by decide +kernel⟩ rfl (by decide) (by decide) fun cdv A outer s H E c hr hgd hfx tk => ?_
  have hu : (cxOf (L2.CX P w) P w K mg base [("row" : Str), ("found" : Str), ("one" : Str)] "_law_p_freed" (defScope (topS 30)) L.f__law_p_freed cdv A outer s H E).A.units + 66 < cLine := by have := hr.un; omega
  exact (mss_cons (ms_setF hfx nd (me_list ma_nil))
    (mss_cons (ms_for (passes_of rfl) rfl (mi_val (me_nm 0)) (mg_nameF hfx nd) (mss_one (ms_if (mt_of (mw_and (mt_cmp (L3.OpR.or op_ne (op_neD (hu64 hu))) pk_ne (me_nm 1) (me_list ma_nil)) (mw_and1 (mt_cmp (L3.OpR.or op_eq (op_eqD (hu64 hu))) pk_eq (me_ix (me_nm 1) (me_neg me_int)) (me_neg (me_nm 2)))))) (mss_one (ms_expr (me_pop (me_nm 1)))) (mss_one (ms_expr (me_append (me_nm 1) (ma_cons (me_nm 2) ma_nil)))))))
    (mss_one (ms_retF hfx (me_tupleOf L.z_tuple (ma_cons (me_nm 1) ma_nil))))))
theorem bd__law_p_loops (L : Lay K mg) : Binds K L.fd__law_p_loops [("many" : Str), ("word" : Str)] [] := L.F__law_p_loops.binds fun _ _ _ _ _ _ us hl => match us, hl with | [_, _], _ => rfl
theorem ok__law_p_loops (L : Lay K mg) : FnOk3 P w K mg base 2 L.f__law_p_loops L.fd__law_p_loops [("many" : Str), ("word" : Str)] (spOf K mg 2 R_law_p_loops) := by
  have nd : ([("many" : Str), ("word" : Str), ("loops" : Str), ("passing" : Str), ("at" : Str), ("left" : Str), ("right" : Str), ("one" : Str)] : List Str).Nodup := by decide +kernel
  refine fn3 L.F__law_p_loops (N := [("many" : Str), ("word" : Str), ("loops" : Str), ("passing" : Str), ("at" : Str), ("left" : Str), ("right" : Str), ("one" : Str)]) ⟨rfl, rfl, rfl, nd, rfl, by decide +kernel, by decide +kernel⟩ rfl (by decide) (by decide) fun cdv A outer s H E c hr hgd hfx tk => ?_
  have hu : (cxOf (L2.CX P w) P w K mg base [("many" : Str), ("word" : Str), ("loops" : Str), ("passing" : Str), ("at" : Str), ("left" : Str), ("right" : Str), ("one" : Str)] "_law_p_loops" (defScope (topS 31)) L.f__law_p_loops cdv A outer s H E).A.units + 66 < cLine := by have := hr.un; omega
  exact (mss_cons (ms_setLc (own := [(("one" : Str), 7)]) hfx rfl nd (by rfl) (blkOk_by (by rfl)) (mi_rng2 L.z_range (ma_cons me_int (ma_cons (me_add (me_nm 0) me_int) ma_nil))) (fun _ _ _ _ _ => (mg_nameF rfl nd)) (by decide) (fun _ _ _ _ _ => mpt_nil) (fun _ _ _ _ _ => (me_tup (ma_cons (me_nm 7) ma_nil))))
    (mss_cons (ms_for (passes_of rfl) rfl (mi_val (me_nm 1)) (mg_nameF hfx nd) (mss_cons (ms_setF hfx nd (me_sub (me_abs L.z_abs (ma_cons (me_nm 3) ma_nil)) me_int))
    (mss_cons (ms_parF hfx rfl nd (ma_cons (me_ix (me_nm 2) (me_nm 4)) (ma_cons (me_ix (me_nm 2) (me_add (me_nm 4) me_int)) ma_nil)))
    (mss_one (ms_if (mt_cmp op_gt pk_cmp (me_nm 3) me_int) (mss_one (ms_asg (me_tup (ma_cons (me_call tk hgd (hr.mono (by decide)) (ok__law_p_freed L) L.m__law_p_freed L.F__law_p_freed.kp (bd__law_p_freed L) (ma_cons (me_add (me_add (me_nm 5) (me_nm 6)) (me_call tk hgd (hr.mono (by decide)) (ok__law_p_back L) L.m__law_p_back L.F__law_p_back.kp (bd__law_p_back L) (ma_cons (me_nm 5) ma_nil))) ma_nil)) (ma_cons (me_nm 5) ma_nil))) (mg_tup rfl (mgs_cons (mg_sub (me_nm 2) (me_nm 4)) (mgs_cons (mg_sub (me_nm 2) (me_add (me_nm 4) me_int)) mgs_nil))))) (mss_one (ms_asg (me_tup (ma_cons (me_nm 6) (ma_cons (me_call tk hgd (hr.mono (by decide)) (ok__law_p_freed L) L.m__law_p_freed L.F__law_p_freed.kp (bd__law_p_freed L) (ma_cons (me_add (me_add (me_call tk hgd (hr.mono (by decide)) (ok__law_p_back L) L.m__law_p_back L.F__law_p_back.kp (bd__law_p_back L) (ma_cons (me_nm 6) ma_nil)) (me_nm 5)) (me_nm 6)) ma_nil)) ma_nil))) (mg_tup rfl (mgs_cons (mg_sub (me_nm 2) (me_nm 4)) (mgs_cons (mg_sub (me_nm 2) (me_add (me_nm 4) me_int)) mgs_nil))))))))))
    (mss_one (ms_retF hfx (me_tupleOf L.z_tuple (ma_cons (me_nm 2) ma_nil))))))
theorem bd__law_p_same (L : Lay K mg) : Binds K L.fd__law_p_same [("many" : Str), ("one" : Str), ("other" : Str)] [] := L.F__law_p_same.binds fun _ _ _ _ _ _ us hl => match us, hl with | [_, _, _], _ => rfl
theorem ok__law_p_same (L : Lay K mg) : FnOk3 P w K mg base 3 L.f__law_p_same L.fd__law_p_same [("many" : Str), ("one" : Str), ("other" : Str)] (spOf K mg 3 R_law_p_same) := by
  have nd : ([("many" : Str), ("one" : Str), ("other" : Str)] : List Str).Nodup := by decide +kernel
  refine fn3 L.F__law_p_same (N := [("many" : Str), ("one" : Str), ("other" : Str)]) ⟨rfl, rfl, rfl, nd, rfl, by decide +kernel, by decide +kernel⟩ rfl (by decide) (by decide) fun cdv A outer s H E c hr hgd hfx tk => ?_
  have hu : (cxOf (L2.CX P w) P w K mg base [("many" : Str), ("one" : Str), ("other" : Str)] "_law_p_same" (defScope (topS 32)) L.f__law_p_same cdv A outer s H E).A.units + 66 < cLine := by have := hr.un; omega
  exact (mss_one (ms_retF hfx (me_eq hu (me_call tk hgd (hr.mono (by decide)) (ok__law_p_loops L) L.m__law_p_loops L.F__law_p_loops.kp (bd__law_p_loops L) (ma_cons (me_nm 0) (ma_cons (me_nm 1) ma_nil))) (me_call tk hgd (hr.mono (by decide)) (ok__law_p_loops L) L.m__law_p_loops L.F__law_p_loops.kp (bd__law_p_loops L) (ma_cons (me_nm 0) (ma_cons (me_nm 2) ma_nil))))))
theorem bd__law_p_moved (L : Lay K mg) : Binds K L.fd__law_p_moved [("pot" : Str), ("many" : Str), ("word" : Str), ("laps" : Str)] [] := L.F__law_p_moved.binds fun _ _ _ _ _ _ us hl => match us, hl with | [_, _, _, _], _ => rfl
theorem ok__law_p_moved (L : Lay K mg) : FnOk3 P w K mg base 3 L.f__law_p_moved L.fd__law_p_moved [("pot" : Str), ("many" : Str), ("word" : Str), ("laps" : Str)] (spOf K mg 4 R_law_p_moved) := by
  have nd : ([("pot" : Str), ("many" : Str), ("word" : Str), ("laps" : Str), ("lap" : Str), ("at" : Str), ("way" : Str), ("some" : Str), ("passing" : Str), ("one" : Str)] : List Str).Nodup := by decide +kernel
  refine fn3 L.F__law_p_moved (N := [("pot" : Str), ("many" : Str), ("word" : Str), ("laps" : Str), ("lap" : Str), ("at" : Str), ("way" : Str), ("some" : Str), ("passing" : Str), ("one" : Str)]) ⟨rfl, rfl, rfl, nd, rfl, by decide +kernel, by decide +kernel⟩ rfl (by decide) (by decide) fun cdv A outer s H E c hr hgd hfx tk => ?_
  have hu : (cxOf (L2.CX P w) P w K mg base [("pot" : Str), ("many" : Str), ("word" : Str), ("laps" : Str), ("lap" : Str), ("at" : Str), ("way" : Str), ("some" : Str), ("passing" : Str), ("one" : Str)] "_law_p_moved" (defScope (topS 33)) L.f__law_p_moved cdv A outer s H E).A.units + 66 < cLine := by have := hr.un; omega
  exact (mss_cons (ms_for (passes_of rfl) rfl (mi_rng1 L.z_range (ma_cons (me_nm 3) ma_nil)) (mg_nameF hfx nd) (mss_cons (ms_parF hfx rfl nd (ma_cons (me_call tk hgd (hr.mono (by decide)) (ok__law_take L) L.m__law_take L.F__law_take.kp (bd__law_take L) (ma_cons (me_nm 0) (ma_cons (me_add (me_len L.z_len (ma_cons (me_nm 2) ma_nil)) me_int) ma_nil))) (ma_cons (me_call tk hgd (hr.mono (by decide)) (ok__law_take L) L.m__law_take L.F__law_take.kp (bd__law_take L) (ma_cons (me_nm 0) (ma_cons me_int ma_nil))) ma_nil)))
    (mss_cons (ms_setF hfx nd (me_slice (me_nm 2) (mo_some (me_nm 5)) (mo_some (me_add (me_nm 5) me_int))))
    (mss_one (ms_if (mt_of (mw_and (mt_cmp (L3.OpR.or op_eq (op_eqD (hu64 hu))) pk_eq (me_nm 6) me_int) (mw_and1 (mt_cmp op_lt pk_cmp (me_len L.z_len (ma_cons (me_nm 2) ma_nil)) me_int)))) (mss_cons (ms_setF hfx nd (me_call tk hgd (hr.mono (by decide)) (ok__law_of L) L.m__law_of L.F__law_of.kp (bd__law_of L) (ma_cons (me_nm 0) (ma_cons (me_lc (own := [(("one" : Str), 9)]) rfl nd (blkOk_by (by rfl)) (mi_rng2 L.z_range (ma_cons (me_sub me_int (me_nm 1)) (ma_cons (me_nm 1) ma_nil))) (fun _ _ _ _ _ => (mg_nameF rfl nd)) (by decide) (fun _ _ _ _ _ => (mpt_one (mt_cmp (L3.OpR.or op_ne (op_neD (hu64 hu))) pk_ne (me_nm 9) me_int))) (fun _ _ _ _ _ => (me_nm 9))) ma_nil))))
    (mss_one (ms_setF hfx nd (me_add (me_add (me_slice (me_nm 2) mo_none (mo_some (me_nm 5))) (me_tup (ma_cons (me_nm 8) (ma_cons (me_neg (me_nm 8)) ma_nil)))) (me_slice (me_nm 2) (mo_some (me_nm 5)) mo_none))))) (mss_one (ms_if (mt_of (mw_and (mt_cmp (L3.OpR.or op_eq (op_eqD (hu64 hu))) pk_eq (me_len L.z_len (ma_cons (me_nm 7) ma_nil)) me_int) (mw_and (mt_cmp (L3.OpR.or op_eq (op_eqD (hu64 hu))) pk_eq (me_ix (me_nm 7) me_int) (me_ix (me_nm 7) me_int)) (mw_and (mt_cmp (L3.OpR.or op_eq (op_eqD (hu64 hu))) pk_eq (me_abs L.z_abs (ma_cons (me_sub (me_abs L.z_abs (ma_cons (me_ix (me_nm 7) me_int) ma_nil)) (me_abs L.z_abs (ma_cons (me_ix (me_nm 7) me_int) ma_nil))) ma_nil)) me_int) (mw_and1 (mt_cmp op_gt pk_cmp (me_mul (me_ix (me_nm 7) me_int) (me_ix (me_nm 7) me_int)) me_int)))))) (mss_one (ms_setF hfx nd (me_add (me_add (me_slice (me_nm 2) mo_none (mo_some (me_nm 5))) (me_tup (ma_cons (me_ix (me_nm 7) me_int) (ma_cons (me_ix (me_nm 7) me_int) (ma_cons (me_ix (me_nm 7) me_int) ma_nil))))) (me_slice (me_nm 2) (mo_some (me_add (me_nm 5) me_int)) mo_none)))) (mss_one (ms_if (mt_of (mw_and (mt_cmp op_gt pk_cmp (me_len L.z_len (ma_cons (me_nm 7) ma_nil)) me_int) (mw_and1 (mt_cmp op_gt pk_cmp (me_abs L.z_abs (ma_cons (me_sub (me_abs L.z_abs (ma_cons (me_ix (me_nm 7) me_int) ma_nil)) (me_abs L.z_abs (ma_cons (me_ix (me_nm 7) me_int) ma_nil))) ma_nil)) me_int)))) (mss_one (ms_setF hfx nd (me_add (me_add (me_slice (me_nm 2) mo_none (mo_some (me_nm 5))) (me_tup (ma_cons (me_ix (me_nm 7) me_int) (ma_cons (me_ix (me_nm 7) me_int) ma_nil)))) (me_slice (me_nm 2) (mo_some (me_add (me_nm 5) me_int)) mo_none)))) (mss_one (ms_if (mt_of (mw_and (mt_cmp op_gt pk_cmp (me_len L.z_len (ma_cons (me_nm 7) ma_nil)) me_int) (mw_and1 (mt_cmp (L3.OpR.or op_eq (op_eqD (hu64 hu))) pk_eq (me_ix (me_nm 7) me_int) (me_neg (me_ix (me_nm 7) me_int)))))) (mss_one (ms_setF hfx nd (me_add (me_slice (me_nm 2) mo_none (mo_some (me_nm 5))) (me_slice (me_nm 2) (mo_some (me_add (me_nm 5) me_int)) mo_none)))) mss_nil)))))))))))
    (mss_one (ms_retF hfx (me_nm 2))))
theorem bd__law_left_out (L : Lay K mg) : Binds K L.fd__law_left_out [("many" : Str), ("word" : Str), ("dancer" : Str)] [] := L.F__law_left_out.binds fun _ _ _ _ _ _ us hl => match us, hl with | [_, _, _], _ => rfl
theorem ok__law_left_out (L : Lay K mg) : FnOk3 P w K mg base 1 L.f__law_left_out L.fd__law_left_out [("many" : Str), ("word" : Str), ("dancer" : Str)] (spOf K mg 3 R_law_left_out) := by
  have nd : ([("many" : Str), ("word" : Str), ("dancer" : Str), ("row" : Str), ("found" : Str), ("step" : Str), ("at" : Str), ("less" : Str), ("one" : Str)] : List Str).Nodup := by decide +kernel
  refine fn3 L.F__law_left_out (N := [("many" : Str), ("word" : Str), ("dancer" : Str), ("row" : Str), ("found" : Str), ("step" : Str), ("at" : Str), ("less" : Str), ("one" : Str)]) ⟨rfl, rfl, rfl, nd, rfl, by decide +kernel, by decide +kernel⟩ rfl (by decide) (by decide) fun cdv A outer s H E c hr hgd hfx tk => ?_
  have hu : (cxOf (L2.CX P w) P w K mg base [("many" : Str), ("word" : Str), ("dancer" : Str), ("row" : Str), ("found" : Str), ("step" : Str), ("at" : Str), ("less" : Str), ("one" : Str)] "_law_left_out" (defScope (topS 34)) L.f__law_left_out cdv A outer s H E).A.units + 66 < cLine := by have := hr.un; omega
  exact (mss_cons (ms_parF hfx rfl nd (ma_cons (me_lrg1 rfl L.z_list L.z_range (me_nm 0)) (ma_cons (me_list ma_nil) ma_nil)))
    (mss_cons (ms_for (passes_of rfl) rfl (mi_val (me_nm 1)) (mg_nameF hfx nd) (mss_cons (ms_setF hfx nd (me_abs L.z_abs (ma_cons (me_nm 5) ma_nil)))
    (mss_cons (ms_if (mt_cmp (L3.OpR.or (op_notInD (hu65 hu)) op_notIn_seq) pk_notIn (me_nm 2) (me_slice (me_nm 3) (mo_some (me_sub (me_nm 6) me_int)) (mo_some (me_add (me_nm 6) me_int)))) (mss_cons (ms_setF hfx nd (me_sub (me_nm 6) (me_len L.z_len (ma_cons (me_lc (own := [(("one" : Str), 8)]) rfl nd (blkOk_by (by rfl)) (mi_val (me_slice (me_nm 3) mo_none (mo_some (me_sub (me_nm 6) me_int)))) (fun _ _ _ _ _ => (mg_nameF rfl nd)) (by decide) (fun _ _ _ _ _ => (mpt_one (mt_cmp (L3.OpR.or op_eq (op_eqD (hu64 hu))) pk_eq (me_nm 8) (me_nm 2)))) (fun _ _ _ _ _ => (me_nm 8))) ma_nil))))
    (mss_one (ms_expr (me_append (me_nm 4) (ma_cons (me_if (mt_cmp op_gt pk_cmp (me_nm 5) me_int) (me_nm 7) (me_neg (me_nm 7))) ma_nil))))) mss_nil)
    (mss_one (ms_asg (me_tup (ma_cons (me_ix (me_nm 3) (me_nm 6)) (ma_cons (me_ix (me_nm 3) (me_sub (me_nm 6) me_int)) ma_nil))) (mg_tup rfl (mgs_cons (mg_sub (me_nm 3) (me_sub (me_nm 6) me_int)) (mgs_cons (mg_sub (me_nm 3) (me_nm 6)) mgs_nil))))))))
    (mss_one (ms_retF hfx (me_tupleOf L.z_tuple (ma_cons (me_nm 4) ma_nil))))))
theorem bd__law_right (L : Lay K mg) : Binds K L.fd__law_right [("pot" : Str)] [] := L.F__law_right.binds fun _ _ _ _ _ _ us hl => match us, hl with | [_], _ => rfl
theorem ok__law_right (L : Lay K mg) : FnOk3 P w K mg base 8 L.f__law_right L.fd__law_right [("pot" : Str)] (spOf K mg 1 R_law_right) := by
  have nd : ([("pot" : Str), ("many" : Str), ("word" : Str), ("alike" : Str), ("dancer" : Str), ("one" : Str), ("mine" : Str), ("its" : Str), ("other" : Str), ("first" : Str)] : List Str).Nodup := by decide +kernel
  refine fn3 L.F__law_right (N := [("pot" : Str), ("many" : Str), ("word" : Str), ("alike" : Str), ("dancer" : Str), ("one" : Str), ("mine" : Str), ("its" : Str), ("other" : Str), ("first" : Str)]) ⟨rfl, rfl, rfl, nd, rfl, by decide +kernel, by decide +kernel⟩ rfl (by decide) (by decide) fun cdv A outer s H E c hr hgd hfx tk => ?_
  have hu : (cxOf (L2.CX P w) P w K mg base [("pot" : Str), ("many" : Str), ("word" : Str), ("alike" : Str), ("dancer" : Str), ("one" : Str), ("mine" : Str), ("its" : Str), ("other" : Str), ("first" : Str)] "_law_right" (defScope (topS 35)) L.f__law_right cdv A outer s H E).A.units + 66 < cLine := by have := hr.un; omega
  exact (mss_cons (ms_setF hfx nd (me_int1 L.z_int (ma_cons (me_add me_int (me_call tk hgd (hr.mono (by decide)) (ok__law_take L) L.m__law_take L.F__law_take.kp (bd__law_take L) (ma_cons (me_nm 0) (ma_cons me_int ma_nil)))) ma_nil)))
    (mss_cons (ms_setF hfx nd (me_call tk hgd (hr.mono (by decide)) (ok__law_p_word L) L.m__law_p_word L.F__law_p_word.kp (bd__law_p_word L) (ma_cons (me_nm 0) (ma_cons (me_nm 1) (ma_cons me_int ma_nil)))))
    (mss_cons (ms_asg (me_tup (ma_cons (me_call tk hgd (hr.mono (by decide)) (ok__law_p_moved L) L.m__law_p_moved L.F__law_p_moved.kp (bd__law_p_moved L) (ma_cons (me_nm 0) (ma_cons (me_nm 1) (ma_cons (me_nm 2) (ma_cons me_int ma_nil))))) (ma_cons (me_int1 L.z_int (ma_cons (me_call tk hgd (hr.mono (by decide)) (ok__law_take L) L.m__law_take L.F__law_take.kp (bd__law_take L) (ma_cons (me_nm 0) (ma_cons (me_nm 1) ma_nil))) ma_nil)) ma_nil))) (mg_tup rfl (mgs_cons (mg_nameF hfx nd) (mgs_cons (mg_nameF hfx nd) mgs_nil))))
    (mss_cons (ms_for (passes_of rfl) rfl (mi_rng1 L.z_range (ma_cons (me_nm 1) ma_nil)) (mg_nameF hfx nd) (mss_one (ms_if (mt_cmp (L3.OpR.or op_ne (op_neD (hu64 hu))) pk_ne (me_repr hgd hu L.z_repr (ma_cons (me_call tk hgd (hr.mono (by decide)) (ok_left_out L) L.m_left_out L.F_left_out.kp (bd_left_out L) (ma_cons (me_nm 1) (ma_cons (me_nm 2) (ma_cons (me_nm 5) ma_nil)))) ma_nil)) (me_repr hgd hu L.z_repr (ma_cons (me_call tk hgd (hr.mono (by decide)) (ok__law_left_out L) L.m__law_left_out L.F__law_left_out.kp (bd__law_left_out L) (ma_cons (me_nm 1) (ma_cons (me_nm 2) (ma_cons (me_nm 5) ma_nil)))) ma_nil))) (mss_one (ms_retF hfx me_bl)) mss_nil)))
    (mss_cons (ms_parF hfx rfl nd (ma_cons (me_call tk hgd (hr.mono (by decide)) (ok_left_out L) L.m_left_out L.F_left_out.kp (bd_left_out L) (ma_cons (me_nm 1) (ma_cons (me_nm 2) (ma_cons (me_nm 4) ma_nil)))) (ma_cons (me_call tk hgd (hr.mono (by decide)) (ok_left_out L) L.m_left_out L.F_left_out.kp (bd_left_out L) (ma_cons (me_nm 1) (ma_cons (me_nm 3) (ma_cons (me_nm 4) ma_nil)))) ma_nil)))
    (mss_cons (ms_if (mt_not (mt_val (me_call tk hgd (hr.mono (by decide)) (ok__law_p_same L) L.m__law_p_same L.F__law_p_same.kp (bd__law_p_same L) (ma_cons (me_sub (me_nm 1) me_int) (ma_cons (me_nm 6) (ma_cons (me_nm 7) ma_nil)))))) (mss_one (ms_retF hfx me_bl)) mss_nil)
    (mss_cons (ms_if (mt_cmp (L3.OpR.or op_eq (op_eqD (hu64 hu))) pk_eq (me_nm 1) me_int) (mss_one (ms_retF hfx me_bl)) mss_nil)
    (mss_cons (ms_setF hfx nd (me_call tk hgd (hr.mono (by decide)) (ok__law_of L) L.m__law_of L.F__law_of.kp (bd__law_of L) (ma_cons (me_nm 0) (ma_cons (me_lc (own := [(("one" : Str), 5)]) rfl nd (blkOk_by (by rfl)) (mi_rng1 L.z_range (ma_cons (me_nm 1) ma_nil)) (fun _ _ _ _ _ => (mg_nameF rfl nd)) (by decide) (fun _ _ _ _ _ => (mpt_one (mt_cmp (L3.OpR.or op_ne (op_neD (hu64 hu))) pk_ne (me_nm 5) (me_nm 4)))) (fun _ _ _ _ _ => (me_nm 5))) ma_nil))))
    (mss_cons (ms_setF hfx nd (me_call tk hgd (hr.mono (by decide)) (ok_left_out L) L.m_left_out L.F_left_out.kp (bd_left_out L) (ma_cons (me_sub (me_nm 1) me_int) (ma_cons (me_nm 6) (ma_cons (me_sub (me_nm 8) (me_int1 L.z_int (ma_cons (me_gt (me_nm 8) (me_nm 4)) ma_nil))) ma_nil)))))
    (mss_one (ms_retF hfx (me_eq hu (me_repr hgd hu L.z_repr (ma_cons (me_call tk hgd (hr.mono (by decide)) (ok_left_out L) L.m_left_out L.F_left_out.kp (bd_left_out L) (ma_cons (me_sub (me_nm 1) me_int) (ma_cons (me_call tk hgd (hr.mono (by decide)) (ok_left_out L) L.m_left_out L.F_left_out.kp (bd_left_out L) (ma_cons (me_nm 1) (ma_cons (me_nm 2) (ma_cons (me_nm 8) ma_nil)))) (ma_cons (me_sub (me_nm 4) (me_int1 L.z_int (ma_cons (me_gt (me_nm 4) (me_nm 8)) ma_nil))) ma_nil)))) ma_nil)) (me_repr hgd hu L.z_repr (ma_cons (me_nm 9) ma_nil))))))))))))))
theorem bd_law (L : Lay K mg) : Binds K L.fd_law [("script" : Str)] [] := L.F_law.binds fun _ _ _ _ _ _ us hl => match us, hl with | [_], _ => rfl
theorem ok_law (L : Lay K mg) : FnOk3 P w K mg base 9 L.f_law L.fd_law [("script" : Str)] (spOf K mg 1 R_law) := by
  have nd : ([("script" : Str), ("place" : Str), ("pot" : Str), ("lap" : Str)] : List Str).Nodup := by decide +kernel
  refine fn3 L.F_law (N := [("script" : Str), ("place" : Str), ("pot" : Str), ("lap" : Str)]) ⟨rfl, rfl, rfl, nd, rfl, by decide +kernel, by decide +kernel⟩ rfl (by decide) (by decide) fun cdv A outer s H E c hr hgd hfx tk => ?_
  have hu : (cxOf (L2.CX P w) P w K mg base [("script" : Str), ("place" : Str), ("pot" : Str), ("lap" : Str)] "law" (defScope (topS 36)) L.f_law cdv A outer s H E).A.units + 66 < cLine := by have := hr.un; omega
  exact (mss_cons (ms_for (passes_of rfl) rfl (mi_val (me_call tk hgd (hr.mono (by decide)) (ok__law_places L) L.m__law_places L.F__law_places.kp (bd__law_places L) (ma_cons (me_nm 0) (ma_cons me_int ma_nil)))) (mg_nameF hfx nd) (mss_cons (ms_setF hfx nd (me_call tk hgd (hr.mono (by decide)) (ok__law_pot L) L.m__law_pot L.F__law_pot.kp (bd__law_pot L) (ma_cons (me_nm 0) (ma_cons (me_nm 1) ma_nil))))
    (mss_one (ms_if (mt_not (mt_val (me_all rfl L.z_all (ma_cons (me_lc (own := [(("lap" : Str), 3)]) rfl nd (blkOk_by (by rfl)) (mi_rng1 L.z_range (ma_cons me_int ma_nil)) (fun _ _ _ _ _ => (mg_nameF rfl nd)) (by decide) (fun _ _ _ _ _ => mpt_nil) (fun _ _ _ _ _ => (me_call L3.takes0 hgd (hr.mono (by decide)) (ok__law_right L) L.m__law_right L.F__law_right.kp (bd__law_right L) (ma_cons (me_nm 2) ma_nil)))) ma_nil)))) (mss_one (ms_retF hfx me_bl)) mss_nil))))
    (mss_one (ms_retF hfx me_bl)))
end
def lay {K : PySem.W.Frag} {h : Heap} {mg : Str → Option Value} (X : K.In h) (G : h.Ns mainGlobals mg)
  {f_is_whole : Addr} {od_is_whole an_is_whole : Option Addr} {sl_is_whole : Array (Option Value)} {oc_is_whole kV_is_whole dc_is_whole pm_is_whole cd_is_whole ct_is_whole : Value}
  (a_is_whole : PySem.W.nsIn K mainGlobals "is_whole" = some (some (.ref f_is_whole))) (l_is_whole : K.lookup f_is_whole = some ⟨oc_is_whole, od_is_whole, .func (PySem.W.fnOf "is_whole" "is_whole" (defArgs (topS 6)) (defBody (topS 6)) (defScope (topS 6)) .none kV_is_whole dc_is_whole pm_is_whole an_is_whole cd_is_whole ct_is_whole), sl_is_whole⟩) (c_is_whole : PySem.W.codeIn K cd_is_whole "is_whole" = true) (k_is_whole : PySem.W.keepIn K (.ref f_is_whole) = true)
  {f_is_integer : Addr} {od_is_integer an_is_integer : Option Addr} {sl_is_integer : Array (Option Value)} {oc_is_integer kV_is_integer dc_is_integer pm_is_integer cd_is_integer ct_is_integer : Value}
  (a_is_integer : PySem.W.nsIn K mainGlobals "is_integer" = some (some (.ref f_is_integer))) (l_is_integer : K.lookup f_is_integer = some ⟨oc_is_integer, od_is_integer, .func (PySem.W.fnOf "is_integer" "is_integer" (defArgs (topS 7)) (defBody (topS 7)) (defScope (topS 7)) .none kV_is_integer dc_is_integer pm_is_integer an_is_integer cd_is_integer ct_is_integer), sl_is_integer⟩) (c_is_integer : PySem.W.codeIn K cd_is_integer "is_integer" = true) (k_is_integer : PySem.W.keepIn K (.ref f_is_integer) = true)
  {f_is_many : Addr} {od_is_many an_is_many : Option Addr} {sl_is_many : Array (Option Value)} {oc_is_many kV_is_many dc_is_many pm_is_many cd_is_many ct_is_many : Value}
  (a_is_many : PySem.W.nsIn K mainGlobals "is_many" = some (some (.ref f_is_many))) (l_is_many : K.lookup f_is_many = some ⟨oc_is_many, od_is_many, .func (PySem.W.fnOf "is_many" "is_many" (defArgs (topS 12)) (defBody (topS 12)) (defScope (topS 12)) .none kV_is_many dc_is_many pm_is_many an_is_many cd_is_many ct_is_many), sl_is_many⟩) (c_is_many : PySem.W.codeIn K cd_is_many "is_many" = true) (k_is_many : PySem.W.keepIn K (.ref f_is_many) = true)
  {f_check_many : Addr} {od_check_many an_check_many : Option Addr} {sl_check_many : Array (Option Value)} {oc_check_many kV_check_many dc_check_many pm_check_many cd_check_many ct_check_many : Value}
  (a_check_many : PySem.W.nsIn K mainGlobals "check_many" = some (some (.ref f_check_many))) (l_check_many : K.lookup f_check_many = some ⟨oc_check_many, od_check_many, .func (PySem.W.fnOf "check_many" "check_many" (defArgs (topS 13)) (defBody (topS 13)) (defScope (topS 13)) .none kV_check_many dc_check_many pm_check_many an_check_many cd_check_many ct_check_many), sl_check_many⟩) (c_check_many : PySem.W.codeIn K cd_check_many "check_many" = true) (k_check_many : PySem.W.keepIn K (.ref f_check_many) = true)
  {f_is_passing : Addr} {od_is_passing an_is_passing : Option Addr} {sl_is_passing : Array (Option Value)} {oc_is_passing kV_is_passing dc_is_passing pm_is_passing cd_is_passing ct_is_passing : Value}
  (a_is_passing : PySem.W.nsIn K mainGlobals "is_passing" = some (some (.ref f_is_passing))) (l_is_passing : K.lookup f_is_passing = some ⟨oc_is_passing, od_is_passing, .func (PySem.W.fnOf "is_passing" "is_passing" (defArgs (topS 14)) (defBody (topS 14)) (defScope (topS 14)) .none kV_is_passing dc_is_passing pm_is_passing an_is_passing cd_is_passing ct_is_passing), sl_is_passing⟩) (c_is_passing : PySem.W.codeIn K cd_is_passing "is_passing" = true) (k_is_passing : PySem.W.keepIn K (.ref f_is_passing) = true)
  {f_is_row : Addr} {od_is_row an_is_row : Option Addr} {sl_is_row : Array (Option Value)} {oc_is_row kV_is_row dc_is_row pm_is_row cd_is_row ct_is_row : Value}
  (a_is_row : PySem.W.nsIn K mainGlobals "is_row" = some (some (.ref f_is_row))) (l_is_row : K.lookup f_is_row = some ⟨oc_is_row, od_is_row, .func (PySem.W.fnOf "is_row" "is_row" (defArgs (topS 15)) (defBody (topS 15)) (defScope (topS 15)) .none kV_is_row dc_is_row pm_is_row an_is_row cd_is_row ct_is_row), sl_is_row⟩) (c_is_row : PySem.W.codeIn K cd_is_row "is_row" = true) (k_is_row : PySem.W.keepIn K (.ref f_is_row) = true)
  {f_is_word : Addr} {od_is_word an_is_word : Option Addr} {sl_is_word : Array (Option Value)} {oc_is_word kV_is_word dc_is_word pm_is_word cd_is_word ct_is_word : Value}
  (a_is_word : PySem.W.nsIn K mainGlobals "is_word" = some (some (.ref f_is_word))) (l_is_word : K.lookup f_is_word = some ⟨oc_is_word, od_is_word, .func (PySem.W.fnOf "is_word" "is_word" (defArgs (topS 16)) (defBody (topS 16)) (defScope (topS 16)) .none kV_is_word dc_is_word pm_is_word an_is_word cd_is_word ct_is_word), sl_is_word⟩) (c_is_word : PySem.W.codeIn K cd_is_word "is_word" = true) (k_is_word : PySem.W.keepIn K (.ref f_is_word) = true)
  {f_check_word : Addr} {od_check_word an_check_word : Option Addr} {sl_check_word : Array (Option Value)} {oc_check_word kV_check_word dc_check_word pm_check_word cd_check_word ct_check_word : Value}
  (a_check_word : PySem.W.nsIn K mainGlobals "check_word" = some (some (.ref f_check_word))) (l_check_word : K.lookup f_check_word = some ⟨oc_check_word, od_check_word, .func (PySem.W.fnOf "check_word" "check_word" (defArgs (topS 17)) (defBody (topS 17)) (defScope (topS 17)) .none kV_check_word dc_check_word pm_check_word an_check_word cd_check_word ct_check_word), sl_check_word⟩) (c_check_word : PySem.W.codeIn K cd_check_word "check_word" = true) (k_check_word : PySem.W.keepIn K (.ref f_check_word) = true)
  {f_passed : Addr} {od_passed an_passed : Option Addr} {sl_passed : Array (Option Value)} {oc_passed kV_passed dc_passed pm_passed cd_passed ct_passed : Value}
  (a_passed : PySem.W.nsIn K mainGlobals "passed" = some (some (.ref f_passed))) (l_passed : K.lookup f_passed = some ⟨oc_passed, od_passed, .func (PySem.W.fnOf "passed" "passed" (defArgs (topS 20)) (defBody (topS 20)) (defScope (topS 20)) .none kV_passed dc_passed pm_passed an_passed cd_passed ct_passed), sl_passed⟩) (c_passed : PySem.W.codeIn K cd_passed "passed" = true) (k_passed : PySem.W.keepIn K (.ref f_passed) = true)
  {f_check_dancer : Addr} {od_check_dancer an_check_dancer : Option Addr} {sl_check_dancer : Array (Option Value)} {oc_check_dancer kV_check_dancer dc_check_dancer pm_check_dancer cd_check_dancer ct_check_dancer : Value}
  (a_check_dancer : PySem.W.nsIn K mainGlobals "check_dancer" = some (some (.ref f_check_dancer))) (l_check_dancer : K.lookup f_check_dancer = some ⟨oc_check_dancer, od_check_dancer, .func (PySem.W.fnOf "check_dancer" "check_dancer" (defArgs (topS 21)) (defBody (topS 21)) (defScope (topS 21)) .none kV_check_dancer dc_check_dancer pm_check_dancer an_check_dancer cd_check_dancer ct_check_dancer), sl_check_dancer⟩) (c_check_dancer : PySem.W.codeIn K cd_check_dancer "check_dancer" = true) (k_check_dancer : PySem.W.keepIn K (.ref f_check_dancer) = true)
  {f_left_out : Addr} {od_left_out an_left_out : Option Addr} {sl_left_out : Array (Option Value)} {oc_left_out kV_left_out dc_left_out pm_left_out cd_left_out ct_left_out : Value}
  (a_left_out : PySem.W.nsIn K mainGlobals "left_out" = some (some (.ref f_left_out))) (l_left_out : K.lookup f_left_out = some ⟨oc_left_out, od_left_out, .func (PySem.W.fnOf "left_out" "left_out" (defArgs (topS 22)) (defBody (topS 22)) (defScope (topS 22)) .none kV_left_out dc_left_out pm_left_out an_left_out cd_left_out ct_left_out), sl_left_out⟩) (c_left_out : PySem.W.codeIn K cd_left_out "left_out" = true) (k_left_out : PySem.W.keepIn K (.ref f_left_out) = true)
  {f__law_pot : Addr} {od__law_pot an__law_pot : Option Addr} {sl__law_pot : Array (Option Value)} {oc__law_pot kV__law_pot dc__law_pot pm__law_pot cd__law_pot ct__law_pot : Value}
  (a__law_pot : PySem.W.nsIn K mainGlobals "_law_pot" = some (some (.ref f__law_pot))) (l__law_pot : K.lookup f__law_pot = some ⟨oc__law_pot, od__law_pot, .func (PySem.W.fnOf "_law_pot" "_law_pot" (defArgs (topS 24)) (defBody (topS 24)) (defScope (topS 24)) .none kV__law_pot dc__law_pot pm__law_pot an__law_pot cd__law_pot ct__law_pot), sl__law_pot⟩) (c__law_pot : PySem.W.codeIn K cd__law_pot "_law_pot" = true) (k__law_pot : PySem.W.keepIn K (.ref f__law_pot) = true)
  {f__law_take : Addr} {od__law_take an__law_take : Option Addr} {sl__law_take : Array (Option Value)} {oc__law_take kV__law_take dc__law_take pm__law_take cd__law_take ct__law_take : Value}
  (a__law_take : PySem.W.nsIn K mainGlobals "_law_take" = some (some (.ref f__law_take))) (l__law_take : K.lookup f__law_take = some ⟨oc__law_take, od__law_take, .func (PySem.W.fnOf "_law_take" "_law_take" (defArgs (topS 25)) (defBody (topS 25)) (defScope (topS 25)) .none kV__law_take dc__law_take pm__law_take an__law_take cd__law_take ct__law_take), sl__law_take⟩) (c__law_take : PySem.W.codeIn K cd__law_take "_law_take" = true) (k__law_take : PySem.W.keepIn K (.ref f__law_take) = true)
  {f__law_of : Addr} {od__law_of an__law_of : Option Addr} {sl__law_of : Array (Option Value)} {oc__law_of kV__law_of dc__law_of pm__law_of cd__law_of ct__law_of : Value}
  (a__law_of : PySem.W.nsIn K mainGlobals "_law_of" = some (some (.ref f__law_of))) (l__law_of : K.lookup f__law_of = some ⟨oc__law_of, od__law_of, .func (PySem.W.fnOf "_law_of" "_law_of" (defArgs (topS 26)) (defBody (topS 26)) (defScope (topS 26)) .none kV__law_of dc__law_of pm__law_of an__law_of cd__law_of ct__law_of), sl__law_of⟩) (c__law_of : PySem.W.codeIn K cd__law_of "_law_of" = true) (k__law_of : PySem.W.keepIn K (.ref f__law_of) = true)
  {f__law_places : Addr} {od__law_places an__law_places : Option Addr} {sl__law_places : Array (Option Value)} {oc__law_places kV__law_places dc__law_places pm__law_places cd__law_places ct__law_places : Value}
  (a__law_places : PySem.W.nsIn K mainGlobals "_law_places" = some (some (.ref f__law_places))) (l__law_places : K.lookup f__law_places = some ⟨oc__law_places, od__law_places, .func (PySem.W.fnOf "_law_places" "_law_places" (defArgs (topS 27)) (defBody (topS 27)) (defScope (topS 27)) .none kV__law_places dc__law_places pm__law_places an__law_places cd__law_places ct__law_places), sl__law_places⟩) (c__law_places : PySem.W.codeIn K cd__law_places "_law_places" = true) (k__law_places : PySem.W.keepIn K (.ref f__law_places) = true)
  {f__law_p_word : Addr} {od__law_p_word an__law_p_word : Option Addr} {sl__law_p_word : Array (Option Value)} {oc__law_p_word kV__law_p_word dc__law_p_word pm__law_p_word cd__law_p_word ct__law_p_word : Value}
  (a__law_p_word : PySem.W.nsIn K mainGlobals "_law_p_word" = some (some (.ref f__law_p_word))) (l__law_p_word : K.lookup f__law_p_word = some ⟨oc__law_p_word, od__law_p_word, .func (PySem.W.fnOf "_law_p_word" "_law_p_word" (defArgs (topS 28)) (defBody (topS 28)) (defScope (topS 28)) .none kV__law_p_word dc__law_p_word pm__law_p_word an__law_p_word cd__law_p_word ct__law_p_word), sl__law_p_word⟩) (c__law_p_word : PySem.W.codeIn K cd__law_p_word "_law_p_word" = true) (k__law_p_word : PySem.W.keepIn K (.ref f__law_p_word) = true)
  {f__law_p_back : Addr} {od__law_p_back an__law_p_back : Option Addr} {sl__law_p_back : Array (Option Value)} {oc__law_p_back kV__law_p_back dc__law_p_back pm__law_p_back cd__law_p_back ct__law_p_back : Value}
  (a__law_p_back : PySem.W.nsIn K mainGlobals "_law_p_back" = some (some (.ref f__law_p_back))) (l__law_p_back : K.lookup f__law_p_back = some ⟨oc__law_p_back, od__law_p_back, .func (PySem.W.fnOf "_law_p_back" "_law_p_back" (defArgs (topS 29)) (defBody (topS 29)) (defScope (topS 29)) .none kV__law_p_back dc__law_p_back pm__law_p_back an__law_p_back cd__law_p_back ct__law_p_back), sl__law_p_back⟩) (c__law_p_back : PySem.W.codeIn K cd__law_p_back "_law_p_back" = true) (k__law_p_back : PySem.W.keepIn K (.ref f__law_p_back) = true)
  {f__law_p_freed : Addr} {od__law_p_freed an__law_p_freed : Option Addr} {sl__law_p_freed : Array (Option Value)} {oc__law_p_freed kV__law_p_freed dc__law_p_freed pm__law_p_freed cd__law_p_freed ct__law_p_freed : Value}
  (a__law_p_freed : PySem.W.nsIn K mainGlobals "_law_p_freed" = some (some (.ref f__law_p_freed))) (l__law_p_freed : K.lookup f__law_p_freed = some ⟨oc__law_p_freed, od__law_p_freed, .func (PySem.W.fnOf "_law_p_freed" "_law_p_freed" (defArgs (topS 30)) (defBody (topS 30)) (defScope (topS 30)) .none kV__law_p_freed dc__law_p_freed pm__law_p_freed an__law_p_freed cd__law_p_freed ct__law_p_freed), sl__law_p_freed⟩) (c__law_p_freed : PySem.W.codeIn K cd__law_p_freed "_law_p_freed" = true) (k__law_p_freed : PySem.W.keepIn K (.ref f__law_p_freed) = true)
  {f__law_p_loops : Addr} {od__law_p_loops an__law_p_loops : Option Addr} {sl__law_p_loops : Array (Option Value)} {oc__law_p_loops kV__law_p_loops dc__law_p_loops pm__law_p_loops cd__law_p_loops ct__law_p_loops : Value}
  (a__law_p_loops : PySem.W.nsIn K mainGlobals "_law_p_loops" = some (some (.ref f__law_p_loops))) (l__law_p_loops : K.lookup f__law_p_loops = some ⟨oc__law_p_loops, od__law_p_loops, .func (PySem.W.fnOf "_law_p_loops" "_law_p_loops" (defArgs (topS 31)) (defBody (topS 31)) (defScope (topS 31)) .none kV__law_p_loops dc__law_p_loops pm__law_p_loops an__law_p_loops cd__law_p_loops ct__law_p_loops), sl__law_p_loops⟩) (c__law_p_loops : PySem.W.codeIn K cd__law_p_loops "_law_p_loops" = true) (k__law_p_loops : PySem.W.keepIn K (.ref f__law_p_loops) = true)
  {f__law_p_same : Addr} {od__law_p_same an__law_p_same : Option Addr} {sl__law_p_same : Array (Option Value)} {oc__law_p_same kV__law_p_same dc__law_p_same pm__law_p_same cd__law_p_same ct__law_p_same : Value}
  (a__law_p_same : PySem.W.nsIn K mainGlobals "_law_p_same" = some (some (.ref f__law_p_same))) (l__law_p_same : K.lookup f__law_p_same = some ⟨oc__law_p_same, od__law_p_same, .func (PySem.W.fnOf "_law_p_same" "_law_p_same" (defArgs (topS 32)) (defBody (topS 32)) (defScope (topS 32)) .none kV__law_p_same dc__law_p_same pm__law_p_same an__law_p_same cd__law_p_same ct__law_p_same), sl__law_p_same⟩) (c__law_p_same : PySem.W.codeIn K cd__law_p_same "_law_p_same" = true) (k__law_p_same : PySem.W.keepIn K (.ref f__law_p_same) = true)
  {f__law_p_moved : Addr} {od__law_p_moved an__law_p_moved : Option Addr} {sl__law_p_moved : Array (Option Value)} {oc__law_p_moved kV__law_p_moved dc__law_p_moved pm__law_p_moved cd__law_p_moved ct__law_p_moved : Value}
  (a__law_p_moved : PySem.W.nsIn K mainGlobals "_law_p_moved" = some (some (.ref f__law_p_moved))) (l__law_p_moved : K.lookup f__law_p_moved = some ⟨oc__law_p_moved, od__law_p_moved, .func (PySem.W.fnOf "_law_p_moved" "_law_p_moved" (defArgs (topS 33)) (defBody (topS 33)) (defScope (topS 33)) .none kV__law_p_moved dc__law_p_moved pm__law_p_moved an__law_p_moved cd__law_p_moved ct__law_p_moved), sl__law_p_moved⟩) (c__law_p_moved : PySem.W.codeIn K cd__law_p_moved "_law_p_moved" = true) (k__law_p_moved : PySem.W.keepIn K (.ref f__law_p_moved) = true)
  {f__law_left_out : Addr} {od__law_left_out an__law_left_out : Option Addr} {sl__law_left_out : Array (Option Value)} {oc__law_left_out kV__law_left_out dc__law_left_out pm__law_left_out cd__law_left_out ct__law_left_out : Value}
  (a__law_left_out : PySem.W.nsIn K mainGlobals "_law_left_out" = some (some (.ref f__law_left_out))) (l__law_left_out : K.lookup f__law_left_out = some ⟨oc__law_left_out, od__law_left_out, .func (PySem.W.fnOf "_law_left_out" "_law_left_out" (defArgs (topS 34)) (defBody (topS 34)) (defScope (topS 34)) .none kV__law_left_out dc__law_left_out pm__law_left_out an__law_left_out cd__law_left_out ct__law_left_out), sl__law_left_out⟩) (c__law_left_out : PySem.W.codeIn K cd__law_left_out "_law_left_out" = true) (k__law_left_out : PySem.W.keepIn K (.ref f__law_left_out) = true)
  {f__law_right : Addr} {od__law_right an__law_right : Option Addr} {sl__law_right : Array (Option Value)} {oc__law_right kV__law_right dc__law_right pm__law_right cd__law_right ct__law_right : Value}
  (a__law_right : PySem.W.nsIn K mainGlobals "_law_right" = some (some (.ref f__law_right))) (l__law_right : K.lookup f__law_right = some ⟨oc__law_right, od__law_right, .func (PySem.W.fnOf "_law_right" "_law_right" (defArgs (topS 35)) (defBody (topS 35)) (defScope (topS 35)) .none kV__law_right dc__law_right pm__law_right an__law_right cd__law_right ct__law_right), sl__law_right⟩) (c__law_right : PySem.W.codeIn K cd__law_right "_law_right" = true) (k__law_right : PySem.W.keepIn K (.ref f__law_right) = true)
  {f_law : Addr} {od_law an_law : Option Addr} {sl_law : Array (Option Value)} {oc_law kV_law dc_law pm_law cd_law ct_law : Value}
  (a_law : PySem.W.nsIn K mainGlobals "law" = some (some (.ref f_law))) (l_law : K.lookup f_law = some ⟨oc_law, od_law, .func (PySem.W.fnOf "law" "law" (defArgs (topS 36)) (defBody (topS 36)) (defScope (topS 36)) .none kV_law dc_law pm_law an_law cd_law ct_law), sl_law⟩) (c_law : PySem.W.codeIn K cd_law "law" = true) (k_law : PySem.W.keepIn K (.ref f_law) = true)
  (z_abs : PySem.W.nsIn K mainGlobals "abs" = some none)
  (z_all : PySem.W.nsIn K mainGlobals "all" = some none)
  (z_bool : PySem.W.nsIn K mainGlobals "bool" = some none)
  (z_int : PySem.W.nsIn K mainGlobals "int" = some none)
  (z_isinstance : PySem.W.nsIn K mainGlobals "isinstance" = some none)
  (z_len : PySem.W.nsIn K mainGlobals "len" = some none)
  (z_list : PySem.W.nsIn K mainGlobals "list" = some none)
  (z_max : PySem.W.nsIn K mainGlobals "max" = some none)
  (z_min : PySem.W.nsIn K mainGlobals "min" = some none)
  (z_range : PySem.W.nsIn K mainGlobals "range" = some none)
  (z_repr : PySem.W.nsIn K mainGlobals "repr" = some none)
  (z_sum : PySem.W.nsIn K mainGlobals "sum" = some none)
  (z_tuple : PySem.W.nsIn K mainGlobals "tuple" = some none)
  {t_LEAST_MANY_words : Tok} (g_LEAST_MANY_words : PySem.W.nsIn K mainGlobals "LEAST_MANY_words" = some (some (.int 2 t_LEAST_MANY_words)))
  {t_MOST_MANY : Tok} (g_MOST_MANY : PySem.W.nsIn K mainGlobals "MOST_MANY" = some (some (.int 6 t_MOST_MANY)))
  {t_MOST_WORD : Tok} (g_MOST_WORD : PySem.W.nsIn K mainGlobals "MOST_WORD" = some (some (.int 200 t_MOST_WORD)))
  {t_LEAST_MANY_dances : Tok} (g_LEAST_MANY_dances : PySem.W.nsIn K mainGlobals "LEAST_MANY_dances" = some (some (.int 2 t_LEAST_MANY_dances))) : Lay K mg :=
  { f_is_whole := f_is_whole, fd_is_whole := (PySem.W.fnOf "is_whole" "is_whole" (defArgs (topS 6)) (defBody (topS 6)) (defScope (topS 6)) .none kV_is_whole dc_is_whole pm_is_whole an_is_whole cd_is_whole ct_is_whole), F_is_whole := fun_mk (st := topS 6) l_is_whole c_is_whole k_is_whole, m_is_whole := PySem.W.mg_of X G a_is_whole,
    f_is_integer := f_is_integer, fd_is_integer := (PySem.W.fnOf "is_integer" "is_integer" (defArgs (topS 7)) (defBody (topS 7)) (defScope (topS 7)) .none kV_is_integer dc_is_integer pm_is_integer an_is_integer cd_is_integer ct_is_integer), F_is_integer := fun_mk (st := topS 7) l_is_integer c_is_integer k_is_integer, m_is_integer := PySem.W.mg_of X G a_is_integer,
    f_is_many := f_is_many, fd_is_many := (PySem.W.fnOf "is_many" "is_many" (defArgs (topS 12)) (defBody (topS 12)) (defScope (topS 12)) .none kV_is_many dc_is_many pm_is_many an_is_many cd_is_many ct_is_many), F_is_many := fun_mk (st := topS 12) l_is_many c_is_many k_is_many, m_is_many := PySem.W.mg_of X G a_is_many,
    f_check_many := f_check_many, fd_check_many := (PySem.W.fnOf "check_many" "check_many" (defArgs (topS 13)) (defBody (topS 13)) (defScope (topS 13)) .none kV_check_many dc_check_many pm_check_many an_check_many cd_check_many ct_check_many), F_check_many := fun_mk (st := topS 13) l_check_many c_check_many k_check_many, m_check_many := PySem.W.mg_of X G a_check_many,
    f_is_passing := f_is_passing, fd_is_passing := (PySem.W.fnOf "is_passing" "is_passing" (defArgs (topS 14)) (defBody (topS 14)) (defScope (topS 14)) .none kV_is_passing dc_is_passing pm_is_passing an_is_passing cd_is_passing ct_is_passing), F_is_passing := fun_mk (st := topS 14) l_is_passing c_is_passing k_is_passing, m_is_passing := PySem.W.mg_of X G a_is_passing,
    f_is_row := f_is_row, fd_is_row := (PySem.W.fnOf "is_row" "is_row" (defArgs (topS 15)) (defBody (topS 15)) (defScope (topS 15)) .none kV_is_row dc_is_row pm_is_row an_is_row cd_is_row ct_is_row), F_is_row := fun_mk (st := topS 15) l_is_row c_is_row k_is_row, m_is_row := PySem.W.mg_of X G a_is_row,
    f_is_word := f_is_word, fd_is_word := (PySem.W.fnOf "is_word" "is_word" (defArgs (topS 16)) (defBody (topS 16)) (defScope (topS 16)) .none kV_is_word dc_is_word pm_is_word an_is_word cd_is_word ct_is_word), F_is_word := fun_mk (st := topS 16) l_is_word c_is_word k_is_word, m_is_word := PySem.W.mg_of X G a_is_word,
    f_check_word := f_check_word, fd_check_word := (PySem.W.fnOf "check_word" "check_word" (defArgs (topS 17)) (defBody (topS 17)) (defScope (topS 17)) .none kV_check_word dc_check_word pm_check_word an_check_word cd_check_word ct_check_word), F_check_word := fun_mk (st := topS 17) l_check_word c_check_word k_check_word, m_check_word := PySem.W.mg_of X G a_check_word,
    f_passed := f_passed, fd_passed := (PySem.W.fnOf "passed" "passed" (defArgs (topS 20)) (defBody (topS 20)) (defScope (topS 20)) .none kV_passed dc_passed pm_passed an_passed cd_passed ct_passed), F_passed := fun_mk (st := topS 20) l_passed c_passed k_passed, m_passed := PySem.W.mg_of X G a_passed,
    f_check_dancer := f_check_dancer, fd_check_dancer := (PySem.W.fnOf "check_dancer" "check_dancer" (defArgs (topS 21)) (defBody (topS 21)) (defScope (topS 21)) .none kV_check_dancer dc_check_dancer pm_check_dancer an_check_dancer cd_check_dancer ct_check_dancer), F_check_dancer := fun_mk (st := topS 21) l_check_dancer c_check_dancer k_check_dancer, m_check_dancer := PySem.W.mg_of X G a_check_dancer,
    f_left_out := f_left_out, fd_left_out := (PySem.W.fnOf "left_out" "left_out" (defArgs (topS 22)) (defBody (topS 22)) (defScope (topS 22)) .none kV_left_out dc_left_out pm_left_out an_left_out cd_left_out ct_left_out), F_left_out := fun_mk (st := topS 22) l_left_out c_left_out k_left_out, m_left_out := PySem.W.mg_of X G a_left_out,
    f__law_pot := f__law_pot, fd__law_pot := (PySem.W.fnOf "_law_pot" "_law_pot" (defArgs (topS 24)) (defBody (topS 24)) (defScope (topS 24)) .none kV__law_pot dc__law_pot pm__law_pot an__law_pot cd__law_pot ct__law_pot), F__law_pot := fun_mk (st := topS 24) l__law_pot c__law_pot k__law_pot, m__law_pot := PySem.W.mg_of X G a__law_pot,
    f__law_take := f__law_take, fd__law_take := (PySem.W.fnOf "_law_take" "_law_take" (defArgs (topS 25)) (defBody (topS 25)) (defScope (topS 25)) .none kV__law_take dc__law_take pm__law_take an__law_take cd__law_take ct__law_take), F__law_take := fun_mk (st := topS 25) l__law_take c__law_take k__law_take, m__law_take := PySem.W.mg_of X G a__law_take,
    f__law_of := f__law_of, fd__law_of := (PySem.W.fnOf "_law_of" "_law_of" (defArgs (topS 26)) (defBody (topS 26)) (defScope (topS 26)) .none kV__law_of dc__law_of pm__law_of an__law_of cd__law_of ct__law_of), F__law_of := fun_mk (st := topS 26) l__law_of c__law_of k__law_of, m__law_of := PySem.W.mg_of X G a__law_of,
    f__law_places := f__law_places, fd__law_places := (PySem.W.fnOf "_law_places" "_law_places" (defArgs (topS 27)) (defBody (topS 27)) (defScope (topS 27)) .none kV__law_places dc__law_places pm__law_places an__law_places cd__law_places ct__law_places), F__law_places := fun_mk (st := topS 27) l__law_places c__law_places k__law_places, m__law_places := PySem.W.mg_of X G a__law_places,
    f__law_p_word := f__law_p_word, fd__law_p_word := (PySem.W.fnOf "_law_p_word" "_law_p_word" (defArgs (topS 28)) (defBody (topS 28)) (defScope (topS 28)) .none kV__law_p_word dc__law_p_word pm__law_p_word an__law_p_word cd__law_p_word ct__law_p_word), F__law_p_word := fun_mk (st := topS 28) l__law_p_word c__law_p_word k__law_p_word, m__law_p_word := PySem.W.mg_of X G a__law_p_word,
    f__law_p_back := f__law_p_back, fd__law_p_back := (PySem.W.fnOf "_law_p_back" "_law_p_back" (defArgs (topS 29)) (defBody (topS 29)) (defScope (topS 29)) .none kV__law_p_back dc__law_p_back pm__law_p_back an__law_p_back cd__law_p_back ct__law_p_back), F__law_p_back := fun_mk (st := topS 29) l__law_p_back c__law_p_back k__law_p_back, m__law_p_back := PySem.W.mg_of X G a__law_p_back,
    f__law_p_freed := f__law_p_freed, fd__law_p_freed := (PySem.W.fnOf "_law_p_freed" "_law_p_freed" (defArgs (topS 30)) (defBody (topS 30)) (defScope (topS 30)) .none kV__law_p_freed dc__law_p_freed pm__law_p_freed an__law_p_freed cd__law_p_freed ct__law_p_freed), F__law_p_freed := fun_mk (st := topS 30) l__law_p_freed c__law_p_freed k__law_p_freed, m__law_p_freed := PySem.W.mg_of X G a__law_p_freed,
    f__law_p_loops := f__law_p_loops, fd__law_p_loops := (PySem.W.fnOf "_law_p_loops" "_law_p_loops" (defArgs (topS 31)) (defBody (topS 31)) (defScope (topS 31)) .none kV__law_p_loops dc__law_p_loops pm__law_p_loops an__law_p_loops cd__law_p_loops ct__law_p_loops), F__law_p_loops := fun_mk (st := topS 31) l__law_p_loops c__law_p_loops k__law_p_loops, m__law_p_loops := PySem.W.mg_of X G a__law_p_loops,
    f__law_p_same := f__law_p_same, fd__law_p_same := (PySem.W.fnOf "_law_p_same" "_law_p_same" (defArgs (topS 32)) (defBody (topS 32)) (defScope (topS 32)) .none kV__law_p_same dc__law_p_same pm__law_p_same an__law_p_same cd__law_p_same ct__law_p_same), F__law_p_same := fun_mk (st := topS 32) l__law_p_same c__law_p_same k__law_p_same, m__law_p_same := PySem.W.mg_of X G a__law_p_same,
    f__law_p_moved := f__law_p_moved, fd__law_p_moved := (PySem.W.fnOf "_law_p_moved" "_law_p_moved" (defArgs (topS 33)) (defBody (topS 33)) (defScope (topS 33)) .none kV__law_p_moved dc__law_p_moved pm__law_p_moved an__law_p_moved cd__law_p_moved ct__law_p_moved), F__law_p_moved := fun_mk (st := topS 33) l__law_p_moved c__law_p_moved k__law_p_moved, m__law_p_moved := PySem.W.mg_of X G a__law_p_moved,
    f__law_left_out := f__law_left_out, fd__law_left_out := (PySem.W.fnOf "_law_left_out" "_law_left_out" (defArgs (topS 34)) (defBody (topS 34)) (defScope (topS 34)) .none kV__law_left_out dc__law_left_out pm__law_left_out an__law_left_out cd__law_left_out ct__law_left_out), F__law_left_out := fun_mk (st := topS 34) l__law_left_out c__law_left_out k__law_left_out, m__law_left_out := PySem.W.mg_of X G a__law_left_out,
    f__law_right := f__law_right, fd__law_right := (PySem.W.fnOf "_law_right" "_law_right" (defArgs (topS 35)) (defBody (topS 35)) (defScope (topS 35)) .none kV__law_right dc__law_right pm__law_right an__law_right cd__law_right ct__law_right), F__law_right := fun_mk (st := topS 35) l__law_right c__law_right k__law_right, m__law_right := PySem.W.mg_of X G a__law_right,
    f_law := f_law, fd_law := (PySem.W.fnOf "law" "law" (defArgs (topS 36)) (defBody (topS 36)) (defScope (topS 36)) .none kV_law dc_law pm_law an_law cd_law ct_law), F_law := fun_mk (st := topS 36) l_law c_law k_law, m_law := PySem.W.mg_of X G a_law,
    z_abs := PySem.W.mg_none_of X G z_abs,
    z_all := PySem.W.mg_none_of X G z_all,
    z_bool := PySem.W.mg_none_of X G z_bool,
    z_int := PySem.W.mg_none_of X G z_int,
    z_isinstance := PySem.W.mg_none_of X G z_isinstance,
    z_len := PySem.W.mg_none_of X G z_len,
    z_list := PySem.W.mg_none_of X G z_list,
    z_max := PySem.W.mg_none_of X G z_max,
    z_min := PySem.W.mg_none_of X G z_min,
    z_range := PySem.W.mg_none_of X G z_range,
    z_repr := PySem.W.mg_none_of X G z_repr,
    z_sum := PySem.W.mg_none_of X G z_sum,
    z_tuple := PySem.W.mg_none_of X G z_tuple,
    g_LEAST_MANY_words := ⟨_, PySem.W.mg_of X G g_LEAST_MANY_words⟩,
    g_MOST_MANY := ⟨_, PySem.W.mg_of X G g_MOST_MANY⟩,
    g_MOST_WORD := ⟨_, PySem.W.mg_of X G g_MOST_WORD⟩,
    g_LEAST_MANY_dances := ⟨_, PySem.W.mg_of X G g_LEAST_MANY_dances⟩ }
theorem fin {P : Program} {w : World} {K : PySem.W.Frag} {mg : Str → Option Value} {fa : Addr} (L : Lay K mg) (hfa : mg "law" = some (.ref fa)) : ∃ fd : FuncData, (∀ (s : Shared) (u : Value), BindsTo s fd ⟨[u], []⟩ [("script", u)]) ∧ ∀ base : Heap, K.In base → base.Ns mainGlobals mg → FnOk3 P w K mg base 9 fa fd ["script"] (spOf K mg 1 R_law) := by
  have e : fa = L.f_law := by have := hfa.symm.trans L.m_law; simpa using this
  subst e
  refine ⟨L.fd_law, fun s u => ?_, fun base _ _ => ok_law L⟩
  obtain ⟨oc, od, kV, doc, pm, an, cdv, ct, osl, e, _, _⟩ := L.F_law.ex
  rw [e]
  exact .of_eq rfl
end G70

namespace G70
open PySem PySem.Spec PyProof.Rows L2 L3
@[simp] theorem kb_ii : kitB "int" "int" = some true := by decide +kernel
@[simp] theorem kb_ib : kitB "int" "bool" = some false := by decide +kernel
@[simp] theorem kb_tt : kitB "tuple" "tuple" = some true := by decide +kernel
abbrev I (w : List Int) : Vl := .tup (w.map .int)
abbrev Ls (w : List Int) : Vl := .lst true (w.map .int)
theorem r_is_whole (i : Int) : R_is_whole [.int i] = .ok (.bl true) [.int i] := by
  simp [R_is_whole, ev_is_whole]
theorem r_is_integer (i lo hi : Int) : R_is_integer [.int i, .int lo, .int hi] = .ok (.bl (decide (lo ≤ i ∧ i ≤ hi))) [.int i, .int lo, .int hi] := by
  by_cases h : lo ≤ i <;> simp [R_is_integer, ev_is_integer, r_is_whole, h]
theorem r_is_many (i : Int) : R_is_many [.int i] = .ok (.bl (decide (2 ≤ i ∧ i ≤ 6))) [.int i] := by
  simp [R_is_many, ev_is_many, r_is_integer]
theorem r_check_many (i : Int) (h : 2 ≤ i ∧ i ≤ 6) : R_check_many [.int i] = .ok .non [.int i] := by
  simp [R_check_many, ev_check_many, r_is_many, h]
theorem r_is_passing (m i : Int) : R_is_passing [.int m, .int i] = .ok (.bl (decide (1 - m ≤ i ∧ i ≤ m - 1 ∧ i ≠ 0))) [.int m, .int i] := by
  by_cases h : 1 - m ≤ i ∧ i ≤ m - 1 <;> simp [R_is_passing, ev_is_passing, r_is_integer, h]
  omega
/-- a word of m dancers -/
def W (m : Int) (w : List Int) : Prop := ∀ i ∈ w, 1 - m ≤ i ∧ i ≤ m - 1 ∧ i ≠ 0
theorem r_is_row (m : Int) (w : List Int) (h : W m w) (hl : w.length < 16777216) : R_is_row [.int m, I w] = .ok (.bl true) [.int m, I w] := by
  have e : lcF [2] (gNm 2) tTrue ce_is_row_1 (w.map .int) [.int m, I w, .hole] [] = .ok (w.filterMap fun _ => some (Vl.bl true)) [.int m, I w, .hole] := by
    rw [lcF_ints (fun _ => some (.bl true)) w []]
    · simp
    · intro x hx
      have := h x hx
      simp [lc1, ce_is_row_1, r_is_passing, this]
  have e2 : (w.filterMap fun _ => some (Vl.bl true)) = (w.map fun _ => true).map Vl.bl := by simp
  rw [e2] at e
  simp [R_is_row, ev_is_row, hl, -List.map_map]
  rw [e]
  simp [-List.map_map]
theorem r_is_word (m : Int) (w : List Int) (hm : 2 ≤ m ∧ m ≤ 6) (h : W m w) (hl : w.length ≤ 200) : R_is_word [.int m, I w] = .ok (.bl true) [.int m, I w] := by
  have : w.length < 16777216 := by omega
  simp [R_is_word, ev_is_word, r_check_many m hm, r_is_row m w h this]
  exact_mod_cast hl
theorem r_check_word (m : Int) (w : List Int) (hm : 2 ≤ m ∧ m ≤ 6) (h : W m w) (hl : w.length ≤ 200) : R_check_word [.int m, I w] = .ok .non [.int m, I w] := by
  simp [R_check_word, ev_check_word, r_is_word m w hm h hl]
theorem r_check_dancer (m d : Int) (h : 0 ≤ d ∧ d < m) : R_check_dancer [.int m, .int d] = .ok .non [.int m, .int d] := by
  have h2 : 0 ≤ d ∧ d ≤ m - 1 := by omega
  simp [R_check_dancer, ev_check_dancer, r_is_integer, h2]
/-! ### rows -/
theorem at_of {p : Int} {k : Nat} (hk : p.natAbs = k + 1) : (if p < 0 then -p else p) = (k : Int) + 1 := by split <;> omega
theorem get_of {row : List Int} {k : Nat} (h : k < row.length) : row[k]? = some (row.getD k 0) := by simp [List.getD, List.getElem?_eq_getElem h]
theorem r_passed (row : List Int) (p : Int) (k : Nat) (hk : p.natAbs = k + 1) (hl : k + 1 < row.length) :
    R_passed [Ls row, .int p] = .ok (if 0 < p then .tup [.int (row.getD k 0), .int (row.getD (k + 1) 0)] else .tup [.int (row.getD (k + 1) 0), .int (row.getD k 0)]) [Ls (sw k row), .int p] := by
  have ha := at_of hk
  have g1 := get_of (show k < row.length by omega)
  have g2 := get_of hl
  have i1 : atI row ((k : Int) + 1 - 1) = some (row.getD k 0) := (atI_pos (k := k) (by omega) (by omega)).trans g1
  have i2 : atI row ((k : Int) + 1) = some (row.getD (k + 1) 0) := (atI_pos (k := k + 1) (by omega) hl).trans g2
  have x1 : ixN row.length ((k : Int) + 1 - 1) = some k := ixN_pos (by omega) (by omega)
  have x2 : ixN row.length ((k : Int) + 1) = some (k + 1) := ixN_pos (by omega) hl
  have e5 : sw k row = (row.set k (row.getD (k + 1) 0)).set (k + 1) (row.getD k 0) := rfl
  generalize row.getD k 0 = l at *
  generalize row.getD (k + 1) 0 = r at *
  generalize (k : Int) + 1 = a at *
  rw [e5]
  by_cases hp : 0 < p <;> simp [R_passed, ev_passed, i1, i2, x1, x2, ha, hp]

theorem sw_perm {k : Nat} : ∀ {row : List Int}, k + 1 < row.length → (sw k row).Perm row := by
  induction k with
  | zero =>
    intro row h
    match row, h with
    | a :: b :: r, _ => simpa [sw] using List.Perm.swap a b r
  | succ k ih =>
    intro row h
    match row, h with
    | a :: r, h =>
      have h' : k + 1 < r.length := by simpa using h
      have : sw (k + 1) (a :: r) = a :: sw k r := by simp [sw]
      rw [this]
      exact List.Perm.cons a (ih h')
theorem Row.sw {n k : Nat} {row : List Int} (h : Row n row) (hk : k + 1 < n) : Row n (sw k row) := ⟨by rw [len_sw, h.len], (sw_perm (by rw [h.len]; exact hk)).nodup_iff.mpr h.nd⟩
/-- a word's passing of n dancers -/
theorem W.at {m : Int} {n : Nat} {p : Int} {w : List Int} (hm : m = n) (h : W m (p :: w)) : ∃ k, p.natAbs = k + 1 ∧ k + 1 < n ∧ p ≠ 0 := by
  have := h p (by simp)
  exact ⟨p.natAbs - 1, by omega, by omega, this.2.2⟩
theorem W.tl {m : Int} {p : Int} {w : List Int} (h : W m (p :: w)) : W m w := fun i hi => h i (by simp [hi])
theorem idx_ints (d : Int) : ∀ {row : List Int} {k : Nat}, d ∈ row → (idxL (.int d) (row.map .int)).isSome = true
  | [], _, h => by simp at h
  | r :: row, k, h => by
    simp only [List.map_cons, idxL, vEq_int]
    by_cases e : r = d
    · simp [e]
    · have : d ∈ row := by
        rcases List.mem_cons.mp h with z | z
        · exact absurd z.symm e
        · exact z
      simp [e, idx_ints d (k := k) this]
theorem idx_lt (d : Int) : ∀ {row : List Int} {j k : Nat}, idxL (.int d) (row.map .int) = some j → (j < k ↔ d ∈ row.take k)
  | [], j, k, h => by simp [idxL] at h
  | r :: row, j, k, h => by
    simp only [List.map_cons, idxL, vEq_int] at h
    by_cases e : r = d
    · simp only [e, decide_true, if_true, Option.some.injEq] at h
      subst h
      cases k with
      | zero => simp
      | succ k => simp [e]
    · simp only [e, decide_false, Bool.false_eq_true, if_false, Option.map_eq_some_iff] at h
      obtain ⟨i, hi, rfl⟩ := h
      have e' : ¬ d = r := fun z => e z.symm
      cases k with
      | zero => simp
      | succ k =>
        rw [List.take_succ_cons, List.mem_cons]
        have := idx_lt d (k := k) hi
        constructor
        · intro z; exact .inr (this.mp (by omega))
        · rintro (z | z)
          · exact absurd z e'
          · have := this.mpr z; omega
end G70

namespace G70
open PySem PySem.Spec PyProof.Rows L2 L3
theorem idx_some (d : Int) {row : List Int} (h : d ∈ row) : ∃ j, idxL (.int d) (row.map .int) = some j := Option.isSome_iff_exists.mp (idx_ints d (k := 0) h)
theorem idx_get {d : Int} : ∀ {row : List Int} {j : Nat}, idxL (.int d) (row.map .int) = some j → row[j]? = some d
  | [], j, h => by simp [idxL] at h
  | r :: row, j, h => by
    simp only [List.map_cons, idxL, vEq_int] at h
    by_cases e : r = d
    · simp only [e, decide_true, if_true, Option.some.injEq] at h
      subst h
      simp [e]
    · simp only [e, decide_false, Bool.false_eq_true, if_false, Option.map_eq_some_iff] at h
      obtain ⟨i, hi, rfl⟩ := h
      simpa using idx_get hi
/-- a slot that is stored anew at each turn -/
def Fre (x : Vl) : Prop := True
theorem left_turn (m d : Int) (w0 : Vl) (row found : List Int) (p : Int) (k : Nat) (x6 x7 x8 : Vl) (hk : p.natAbs = k + 1) (hl : k + 1 < row.length) (hd : d ∈ row) (hf : found.length < 16777216) :
    ∃ y6 y7 y8, lp_left_out_1 [.int m, w0, .int d, Ls row, Ls found, .int p, x6, x7, x8] =
      .ok .nx [.int m, w0, .int d, Ls (sw k row), Ls (if d = row.getD k 0 ∨ d = row.getD (k + 1) 0 then found else found ++ [ls p (decide (d ∈ row.take k))]), .int p, y6, y7, y8] := by
  obtain ⟨j, hj⟩ := idx_some d hd
  have ha := at_of hk
  have hlt := idx_lt d (k := k) hj
  have hr := r_passed row p k hk hl
  have g1 := get_of (show k < row.length by omega)
  have hlen : (row.length : Int) = row.length := rfl
  have hjk : row.getD k 0 ≠ d → ((j : Int) < (k : Int) + 1 ↔ j < k) := by
    intro hne
    have : j ≠ k := by
      intro e
      subst e
      have h2 := idx_get hj
      rw [g1] at h2
      exact hne (Option.some.inj h2)
    omega
  generalize sw k row = row' at *
  generalize row.getD k 0 = l at *
  generalize row.getD (k + 1) 0 = r at *
  by_cases hc : d = l ∨ d = r
  · have hc' : d = r ∨ d = l := hc.symm
    by_cases hp : 0 < p
    · exact ⟨_, _, _, by simp [lp_left_out_1, ha, idxF, hj, hr, hp, hc]; first | rfl | exact ⟨rfl, rfl, rfl⟩ | exact ⟨by omega, rfl, rfl, rfl⟩⟩
    · exact ⟨_, _, _, by simp [lp_left_out_1, ha, idxF, hj, hr, hp, hc, hc']; first | rfl | exact ⟨rfl, rfl, rfl⟩ | exact ⟨by omega, rfl, rfl, rfl⟩⟩
  · have hc' : ¬ (d = r ∨ d = l) := fun z => hc z.symm
    have hjk := hjk (fun e => hc (.inl e.symm))
    rw [hlt] at hjk
    by_cases ht : d ∈ row.take k
    · have h2 : (j : Int) < (k : Int) + 1 := hjk.mpr ht
      by_cases hp : 0 < p
      · exact ⟨_, _, _, by simp [lp_left_out_1, ha, idxF, hj, hr, hp, hc, hc', h2, ht, appF, hf, ls, hk]; first | rfl | exact ⟨rfl, rfl, rfl⟩ | exact ⟨by omega, rfl, rfl, rfl⟩⟩
      · exact ⟨_, _, _, by simp [lp_left_out_1, ha, idxF, hj, hr, hp, hc, hc', h2, ht, appF, hf, ls, hk]; first | rfl | exact ⟨rfl, rfl, rfl⟩ | exact ⟨by omega, rfl, rfl, rfl⟩⟩
    · have h2 : ¬ (j : Int) < (k : Int) + 1 := fun z => ht (hjk.mp z)
      by_cases hp : 0 < p
      · exact ⟨_, _, _, by simp [lp_left_out_1, ha, idxF, hj, hr, hp, hc, hc', h2, ht, appF, hf, ls, hk]; first | rfl | exact ⟨rfl, rfl, rfl⟩ | exact ⟨by omega, rfl, rfl, rfl⟩⟩
      · exact ⟨_, _, _, by simp [lp_left_out_1, ha, idxF, hj, hr, hp, hc, hc', h2, ht, appF, hf, ls, hk]; first | rfl | exact ⟨rfl, rfl, rfl⟩ | exact ⟨by omega, rfl, rfl, rfl⟩⟩
theorem left_loop (m d : Int) (n : Nat) (hm : m = n) (w0 : Vl) : ∀ (w row found : List Int) (x5 x6 x7 x8 : Vl), W m w → Row n row → d ∈ row → found.length + w.length < 16777216 →
    ∃ row' y5 y6 y7 y8, forF (gNm 5) lp_left_out_1 (w.map .int) [.int m, w0, .int d, Ls row, Ls found, x5, x6, x7, x8] = .ok .nx [.int m, w0, .int d, Ls row', Ls (found ++ lo d row w), y5, y6, y7, y8]
  | [], row, found, x5, x6, x7, x8, _, _, _, _ => ⟨row, x5, x6, x7, x8, by simp [lo]⟩
  | p :: w, row, found, x5, x6, x7, x8, hw, hr, hd, hl => by
    obtain ⟨k, hk, hkn, hp0⟩ := hw.at hm
    have hkl : k + 1 < row.length := by rw [hr.len]; exact hkn
    simp only [List.length_cons] at hl
    obtain ⟨y6, y7, y8, e⟩ := left_turn m d w0 row found p k x6 x7 x8 hk hkl hd (by omega)
    have hd' : d ∈ sw k row := (sw_perm hkl).mem_iff.mpr hd
    obtain ⟨row', z5, z6, z7, z8, e2⟩ := left_loop m d n hm w0 w (sw k row) (if d = row.getD k 0 ∨ d = row.getD (k + 1) 0 then found else found ++ [ls p (decide (d ∈ row.take k))]) (.int p) y6 y7 y8 hw.tl (hr.sw hkn) hd' (by split <;> first | omega | (simp; omega))
    refine ⟨row', z5, z6, z7, z8, ?_⟩
    have hk1 : p.natAbs - 1 = k := by omega
    have e3 : (if d = row.getD k 0 ∨ d = row.getD (k + 1) 0 then found else found ++ [ls p (decide (d ∈ row.take k))]) ++ lo d (sw k row) w = found ++ lo d row (p :: w) := by
      simp only [lo, hk1]
      split <;> simp
    rw [e3] at e2
    simp only [List.map_cons, x_for1, x_gNm, List.length_cons, List.length_nil, List.set_cons_succ, List.set_cons_zero]
    rw [if_pos (by omega), x_forT, e, bind_ok, x_kForT, e2]
theorem len_lo (d : Int) : ∀ (w row : List Int), (lo d row w).length ≤ w.length
  | [], row => by simp [lo]
  | p :: w, row => by
    have := len_lo d w (sw (p.natAbs - 1) row)
    simp only [lo]
    split <;> simp <;> omega
/-- the first row -/
def row0 (m : Int) : List Int := rgI 0 m
theorem row0_ok {m : Int} {n : Nat} (hm : m = n) : Row n (row0 m) := by
  subst hm
  refine ⟨by rw [row0, len_rgI]; omega, ?_⟩
  unfold row0 rgI
  refine List.pairwise_map.mpr (List.nodup_range.imp ?_)
  intro a b h e
  omega
theorem r_left_out (m d : Int) (n : Nat) (hm : m = n) (h3 : 3 ≤ m ∧ m ≤ 6) (w : List Int) (hw : W m w) (hl : w.length ≤ 200) (hd : 0 ≤ d ∧ d < m) : R_left_out [.int m, I w, .int d] = .ok (I (lo d (row0 m) w)) [.int m, I w, .int d] := by
  have hlen := len_lo d w (row0 m)
  obtain ⟨row', y5, y6, y7, y8, e⟩ := left_loop m d n hm (I w) w (row0 m) [] .hole .hole .hole .hole hw (row0_ok hm) (mem_rgI.mpr hd) (by simp; omega)
  have c1 := r_check_many m ⟨by omega, h3.2⟩
  have c2 := r_check_word m w ⟨by omega, h3.2⟩ hw hl
  have c3 := r_check_dancer m d hd
  have hm2 : m ≠ 2 := by omega
  have hrg : rgC 0 m := by unfold rgC; omega
  have hr0 : rngL 0 m = (row0 m).map .int := rngL_rgI 0 m
  simp only [Ls, I, List.map_nil, List.nil_append] at e
  have hl2 : (lo d (row0 m) w).length < 16777216 := by omega
  simp [R_left_out, ev_left_out, c1, c2, c3, hm2, lrg1, hrg, hr0, e]
@[simp] theorem notInL2 (o : Bool) (i a b : Int) : notInV3 (.int i) (.lst o [.int a, .int b]) = some (.bl (!decide (i = a ∨ i = b))) := by
  have := notInL o i [a, b]
  simp only [List.map_cons, List.map_nil, List.mem_cons, List.not_mem_nil, or_false] at this
  rw [this]
/-! ### the law's own -/
theorem len_filter {d : Int} : ∀ {row : List Int}, row.Nodup → ((row.filter fun x => decide (x = d)).length : Int) = if d ∈ row then 1 else 0
  | [], _ => by simp
  | r :: row, h => by
    have h2 := List.nodup_cons.mp h
    have ih := len_filter (d := d) h2.2
    by_cases e : r = d
    · subst e
      simp only [h2.1, if_false] at ih
      simp only [List.filter_cons, decide_true, if_true, List.length_cons, List.mem_cons, true_or]
      omega
    · have e' : ¬ d = r := fun z => e z.symm
      simp only [List.filter_cons, e, decide_false, Bool.false_eq_true, if_false, List.mem_cons, e', false_or]
      exact ih
theorem own_comp (m d : Int) (w0 : Vl) (row found l : List Int) (x5 x6 x7 x8 : Vl) : lcF [8] (gNm 8) ct__law_left_out_1 ce__law_left_out_2 (l.map .int) [.int m, w0, .int d, Ls row, Ls found, x5, x6, x7, .hole] [] =
    .ok ((l.filter fun x => decide (x = d)).map .int) [.int m, w0, .int d, Ls row, Ls found, x5, x6, x7, .hole] := by
  rw [lcF_ints (fun x => if x = d then some (.int x) else none) l []]
  · congr 1
    rw [List.nil_append, ← List.filterMap_eq_filter, List.map_filterMap]
    refine filterMap_same fun x _ => ?_
    by_cases e : x = d <;> simp [e, Option.guard]
  · intro x hx
    by_cases e : x = d <;> simp [lc1, ct__law_left_out_1, ce__law_left_out_2, e]
theorem own_turn (m d : Int) (w0 : Vl) (row found : List Int) (p : Int) (k : Nat) (x6 x7 x8 : Vl) (hk : p.natAbs = k + 1) (hl : k + 1 < row.length) (hnd : row.Nodup) (hrl : row.length ≤ 100) (hf : found.length < 16777216) :
    ∃ y6 y7 y8, lp__law_left_out_3 [.int m, w0, .int d, Ls row, Ls found, .int p, x6, x7, x8] =
      .ok .nx [.int m, w0, .int d, Ls (sw k row), Ls (if d = row.getD k 0 ∨ d = row.getD (k + 1) 0 then found else found ++ [ls p (decide (d ∈ row.take k))]), .int p, y6, y7, y8] := by
  have ha := at_of hk
  have g1 := get_of (show k < row.length by omega)
  have g2 := get_of hl
  have i1 : atI row ((k : Int) + 1 - 1) = some (row.getD k 0) := (atI_pos (k := k) (by omega) (by omega)).trans g1
  have i2 : atI row ((k : Int) + 1) = some (row.getD (k + 1) 0) := (atI_pos (k := k + 1) (by omega) hl).trans g2
  have x1 : ixN row.length ((k : Int) + 1 - 1) = some k := ixN_pos (by omega) (by omega)
  have x2 : ixN row.length ((k : Int) + 1) = some (k + 1) := ixN_pos (by omega) hl
  have c1 : cutG row none (some ((k : Int) + 1 - 1)) = row.take k := by
    have e : HT.sIx row.length row.length (some ((k : Int) + 1 - 1)) = k := by
      rw [show (k : Int) + 1 - 1 = ((k : Nat) : Int) by omega, HT.sIx_nat]; omega
    unfold cutG
    rw [e, HT.sIx_none, List.drop_zero, Nat.sub_zero]
  have c2 : cutG row (some ((k : Int) + 1 - 1)) (some ((k : Int) + 1 + 1)) = [row.getD k 0, row.getD (k + 1) 0] := by
    have e : HT.sIx row.length 0 (some ((k : Int) + 1 - 1)) = k := by
      rw [show (k : Int) + 1 - 1 = ((k : Nat) : Int) by omega, HT.sIx_nat]; omega
    have e' : HT.sIx row.length row.length (some ((k : Int) + 1 + 1)) = k + 2 := by
      rw [show (k : Int) + 1 + 1 = ((k + 2 : Nat) : Int) by omega, HT.sIx_nat]; omega
    unfold cutG
    rw [e, e', show k + 2 - k = 2 by omega]
    have h1 : row.drop k = row.getD k 0 :: row.getD (k + 1) 0 :: row.drop (k + 2) := by
      rw [List.drop_eq_getElem_cons (by omega), List.drop_eq_getElem_cons hl]
      simp [List.getD, List.getElem?_eq_getElem hl, List.getElem?_eq_getElem (show k < row.length by omega)]
    rw [h1]; rfl
  have hc := own_comp m d w0 row found (row.take k) (.int p) (.int ((k : Int) + 1)) x7 .hole
  have hn := len_filter (d := d) (hnd.sublist (List.take_sublist k row))
  have hnl : ((row.take k).filter fun x => decide (x = d)).length ≤ 100 := Nat.le_trans (List.length_filter_le _ _) (by rw [List.length_take]; omega)
  have hkl : min k row.length < 16777216 := by omega
  have e5 : sw k row = (row.set k (row.getD (k + 1) 0)).set (k + 1) (row.getD k 0) := rfl
  rw [e5]
  have hf2 : (row.take k).length < 16777216 := by rw [List.length_take]; omega
  simp only [Ls] at hc
  generalize row.take k = tk at *
  generalize (tk.filter fun x => decide (x = d)) = fl at *
  generalize row.getD k 0 = l at *
  generalize row.getD (k + 1) 0 = r at *
  obtain ⟨a, hak⟩ : ∃ a, a = (k : Int) + 1 := ⟨_, rfl⟩
  rw [← hak] at ha i1 i2 x1 x2 c1 c2 hc
  by_cases hcc : d = l ∨ d = r
  · exact ⟨_, _, _, by simp [lp__law_left_out_3, ha, i1, i2, x1, x2, c2, hcc]; first | rfl | exact ⟨rfl, rfl, rfl⟩ | exact ⟨by omega, rfl, rfl, rfl⟩⟩
  · by_cases ht : d ∈ tk
    · simp only [ht, if_true] at hn
      by_cases hp : 0 < p
      · exact ⟨_, _, _, by simp [lp__law_left_out_3, ha, i1, i2, x1, x2, c1, c2, hcc, hf2, hc, hn, hp, appF, hf, ls, hk, ht]; first | rfl | exact ⟨rfl, rfl, rfl⟩ | exact ⟨by omega, rfl, rfl, rfl⟩⟩
      · exact ⟨_, _, _, by simp [lp__law_left_out_3, ha, i1, i2, x1, x2, c1, c2, hcc, hf2, hc, hn, hp, appF, hf, ls, hk, ht]; first | rfl | exact ⟨rfl, rfl, rfl⟩ | exact ⟨by omega, rfl, rfl, rfl⟩⟩
    · simp only [ht, if_false] at hn
      by_cases hp : 0 < p
      · exact ⟨_, _, _, by simp [lp__law_left_out_3, ha, i1, i2, x1, x2, c1, c2, hcc, hf2, hc, hn, hp, appF, hf, ls, hk, ht]; first | rfl | exact ⟨rfl, rfl, rfl⟩ | exact ⟨by omega, rfl, rfl, rfl⟩⟩
      · exact ⟨_, _, _, by simp [lp__law_left_out_3, ha, i1, i2, x1, x2, c1, c2, hcc, hf2, hc, hn, hp, appF, hf, ls, hk, ht]; first | rfl | exact ⟨rfl, rfl, rfl⟩ | exact ⟨by omega, rfl, rfl, rfl⟩⟩
theorem own_loop (m d : Int) (n : Nat) (hm : m = n) (hn : n ≤ 100) (w0 : Vl) : ∀ (w row found : List Int) (x5 x6 x7 x8 : Vl), W m w → Row n row → found.length + w.length < 16777216 →
    ∃ row' y5 y6 y7 y8, forF (gNm 5) lp__law_left_out_3 (w.map .int) [.int m, w0, .int d, Ls row, Ls found, x5, x6, x7, x8] = .ok .nx [.int m, w0, .int d, Ls row', Ls (found ++ lo d row w), y5, y6, y7, y8]
  | [], row, found, x5, x6, x7, x8, _, _, _ => ⟨row, x5, x6, x7, x8, by simp [lo]⟩
  | p :: w, row, found, x5, x6, x7, x8, hw, hr, hl => by
    obtain ⟨k, hk, hkn, hp0⟩ := hw.at hm
    have hkl : k + 1 < row.length := by rw [hr.len]; exact hkn
    simp only [List.length_cons] at hl
    obtain ⟨y6, y7, y8, e⟩ := own_turn m d w0 row found p k x6 x7 x8 hk hkl hr.nd (by rw [hr.len]; exact hn) (by omega)
    obtain ⟨row', z5, z6, z7, z8, e2⟩ := own_loop m d n hm hn w0 w (sw k row) (if d = row.getD k 0 ∨ d = row.getD (k + 1) 0 then found else found ++ [ls p (decide (d ∈ row.take k))]) (.int p) y6 y7 y8 hw.tl (hr.sw hkn) (by split <;> first | omega | (simp; omega))
    refine ⟨row', z5, z6, z7, z8, ?_⟩
    have hk1 : p.natAbs - 1 = k := by omega
    have e3 : (if d = row.getD k 0 ∨ d = row.getD (k + 1) 0 then found else found ++ [ls p (decide (d ∈ row.take k))]) ++ lo d (sw k row) w = found ++ lo d row (p :: w) := by
      simp only [lo, hk1]
      split <;> simp
    rw [e3] at e2
    simp only [List.map_cons, x_for1, x_gNm, List.length_cons, List.length_nil, List.set_cons_succ, List.set_cons_zero]
    rw [if_pos (by omega), x_forT, e, bind_ok, x_kForT, e2]
theorem r_own (m d : Int) (n : Nat) (hm : m = n) (h3 : 2 ≤ m ∧ m ≤ 6) (w : List Int) (hw : W m w) (hl : w.length ≤ 200) : R_law_left_out [.int m, I w, .int d] = .ok (I (lo d (row0 m) w)) [.int m, I w, .int d] := by
  have hlen := len_lo d w (row0 m)
  obtain ⟨row', y5, y6, y7, y8, e⟩ := own_loop m d n hm (by omega) (I w) w (row0 m) [] .hole .hole .hole .hole hw (row0_ok hm) (by simp; omega)
  have hrg : rgC 0 m := by unfold rgC; omega
  have hr0 : rngL 0 m = (row0 m).map .int := rngL_rgI 0 m
  simp only [Ls, I, List.map_nil, List.nil_append] at e
  have hl2 : (lo d (row0 m) w).length < 16777216 := by omega
  simp [R_law_left_out, ev__law_left_out, lrg1, hrg, hr0, e]
end G70

namespace G70
open PySem PySem.Spec PyProof.Rows L2 L3
theorem log_lt {n k : Nat} (h : n < 2 ^ k) : n.log2 ≤ k := by
  by_cases h0 : n = 0
  · subst h0; simp
  · have := (Nat.log2_lt h0).mpr h
    omega
theorem mul_ok {i j : Int} (hi : i.natAbs < 2 ^ 2000) (hj : j.natAbs < 2 ^ 2000) : mulV (.int i) (.int j) = some (.int (i * j)) := by
  have h1 := log_lt hi
  have h2 := log_lt hj
  unfold mulV
  exact if_pos (by omega)
/-- what a pot holds after n draws at most -/
structure Pot (n : Nat) (a b c : Int) : Prop where
  a0 : 0 ≤ a
  b0 : 0 ≤ b
  b1 : b < 2 ^ 61
  c0 : 0 ≤ c
  c1 : c ≤ n
abbrev pt (a b c : Int) : Vl := .lst true [.int a, .int b, .int c]
theorem Pot.more {n k : Nat} {a b c : Int} (h : Pot n a b c) (hk : n ≤ k) : Pot k a b c := ⟨h.a0, h.b0, h.b1, h.c0, by have := h.c1; omega⟩
theorem ix5 (i : Int) (h : 0 ≤ i ∧ i < 5) : ∃ p : Int, 2 ^ 30 < p ∧ p < 2 ^ 31 ∧ ixV (.lst true [.int 2147483647, .int 2147483629, .int 2147483587, .int 2147483579, .int 2147483563]) (.int i) = some (.int p) := by
  have : i = 0 ∨ i = 1 ∨ i = 2 ∨ i = 3 ∨ i = 4 := by omega
  rcases this with rfl | rfl | rfl | rfl | rfl
  · exact ⟨2147483647, by decide, by decide, by simp [ixV, atI, ixN]⟩
  · exact ⟨2147483629, by decide, by decide, by simp [ixV, atI, ixN]⟩
  · exact ⟨2147483587, by decide, by decide, by simp [ixV, atI, ixN]⟩
  · exact ⟨2147483579, by decide, by decide, by simp [ixV, atI, ixN]⟩
  · exact ⟨2147483563, by decide, by decide, by simp [ixV, atI, ixN]⟩
theorem pow_ok {i : Int} (h0 : 0 ≤ i) (h : i < 2 ^ 200) : powV (.int i) (.int 3) = some (.int (i ^ 3)) := by
  have hn : i.natAbs < 2 ^ 200 := by omega
  have hb : Builtin.Int.intBits i ≤ 1000 := by
    have := log_lt hn
    unfold Builtin.Int.intBits
    split <;> omega
  unfold powV
  show (if _ then _ else _) = _
  rw [if_pos ⟨by omega, by omega⟩]
  rfl
theorem r_take (n : Nat) (hn : n ≤ 1000000) (a b c u : Int) (h : Pot n a b c) (hu : 0 < u ∧ u ≤ 1000) : ∃ d a' b' c', Pot (n + 1) a' b' c' ∧ 0 ≤ d ∧ d < u ∧ R_law_take [pt a b c, .int u] = .ok (.int d) [pt a' b' c', .int u] := by
  obtain ⟨ha0, hb0, hb1, hc0, hc1⟩ := h
  have hlu : u.natAbs.log2 < 9000 := Nat.lt_of_le_of_lt (log_lt (k := 10) (by omega)) (by omega)
  by_cases ha : 0 < a
  · refine ⟨a % u, a / u, b, c, ⟨Int.ediv_nonneg ha0 (by omega), hb0, hb1, hc0, by omega⟩, Int.emod_nonneg _ (by omega), Int.emod_lt_of_pos _ hu.1, ?_⟩
    simp [R_law_take, ev__law_take, ixV, atI, ixN, ha, hu.1, hlu]
  · have hc5 : 0 ≤ (c + 1) % 5 ∧ (c + 1) % 5 < 5 := ⟨Int.emod_nonneg _ (by decide), Int.emod_lt_of_pos _ (by decide)⟩
    obtain ⟨p, hp1, hp2, hp⟩ := ix5 _ hc5
    have hcc : c + 1 < 2 ^ 21 := by omega
    have m1 : mulV (.int 89939) (.int (c + 1)) = some (.int (89939 * (c + 1))) := mul_ok (by omega) (by omega)
    have m2 : mulV (.int (89939 * (c + 1))) (.int (c + 1)) = some (.int (89939 * (c + 1) * (c + 1))) := mul_ok (by omega) (by omega)
    have q1 : 0 ≤ 89939 * (c + 1) * (c + 1) := Int.mul_nonneg (by omega) (by omega)
    have q2 : 89939 * (c + 1) * (c + 1) ≤ 2 ^ 38 * 2 ^ 21 := Int.mul_le_mul (by omega) (by omega) (by omega) (by decide)
    have m3 : powV (.int (b + 89939 * (c + 1) * (c + 1) + 638)) (.int 3) = some (.int ((b + 89939 * (c + 1) * (c + 1) + 638) ^ 3)) := pow_ok (by omega) (by omega)
    generalize hX : (b + 89939 * (c + 1) * (c + 1) + 638) ^ 3 = X at *
    have e1 : 0 ≤ X % p ∧ X % p < p := ⟨Int.emod_nonneg _ (by omega), Int.emod_lt_of_pos _ (by omega)⟩
    have e2 : 0 ≤ X % p % 10259 ∧ X % p % 10259 < 10259 := ⟨Int.emod_nonneg _ (by decide), Int.emod_lt_of_pos _ (by decide)⟩
    have m4 : mulV (.int 122) (.int (c + 1)) = some (.int (122 * (c + 1))) := mul_ok (by omega) (by omega)
    have m5 : mulV (.int (X % p)) (.int (X % p % 10259 + 122 * (c + 1))) = some (.int (X % p * (X % p % 10259 + 122 * (c + 1)))) := mul_ok (by omega) (by omega)
    have hl2 : Nat.log2 152 < 9000 := by decide
    have hpp : 0 < p := by omega
    refine ⟨X % p * (X % p % 10259 + 122 * (c + 1)) % 2305843009213693907 / 152 % u, a, b, c + 1, ⟨ha0, hb0, hb1, by omega, by omega⟩, Int.emod_nonneg _ (by omega), Int.emod_lt_of_pos _ hu.1, ?_⟩
    have ix0 : ∀ x y z : Int, ixV (pt x y z) (.int 0) = some (.int x) := fun x y z => by simp [ixV, atI, ixN]
    have ix1 : ∀ x y z : Int, ixV (pt x y z) (.int 1) = some (.int y) := fun x y z => by simp [ixV, atI, ixN]
    have ix2 : ∀ x y z : Int, ixV (pt x y z) (.int 2) = some (.int z) := fun x y z => by simp [ixV, atI, ixN]
    have in2 : ixN 3 2 = some 2 := by decide
    simp [R_law_take, ev__law_take, -mulV, ix0, ix1, ix2, in2, ha, hu.1, hlu, m1, m2, m3, m4, m5, hp, hpp, hl2]
theorem atI_some {α : Type} {xs : List α} {i : Int} (h : 0 ≤ i ∧ i < xs.length) : ∃ v, v ∈ xs ∧ atI xs i = some v := by
  have hk : i.toNat < xs.length := by omega
  exact ⟨xs[i.toNat], List.getElem_mem hk, (atI_pos (k := i.toNat) (by omega) hk).trans (List.getElem?_eq_getElem hk)⟩
theorem r_of (n : Nat) (hn : n ≤ 1000000) (a b c : Int) (xs : List Int) (h : Pot n a b c) (hx : 0 < xs.length ∧ xs.length ≤ 1000) : ∃ v a' b' c', Pot (n + 1) a' b' c' ∧ v ∈ xs ∧ R_law_of [pt a b c, Ls xs] = .ok (.int v) [pt a' b' c', Ls xs] := by
  obtain ⟨d, a', b', c', hp, h1, h2, e⟩ := r_take n hn a b c xs.length h (by omega)
  obtain ⟨v, hv, ev⟩ := atI_some ⟨h1, h2⟩
  exact ⟨v, a', b', c', hp, hv, by simp [R_law_of, ev__law_of, e, ev]⟩
/-- the passings of m dancers -/
def psg (m : Int) : List Int := (rgI (1 - m) m).filter fun i => decide (i ≠ 0)
theorem mem_psg {m i : Int} : i ∈ psg m ↔ 1 - m ≤ i ∧ i ≤ m - 1 ∧ i ≠ 0 := by
  unfold psg
  rw [List.mem_filter, mem_rgI]
  simp
  omega
theorem len_psg {m : Int} (h : 2 ≤ m ∧ m ≤ 6) : 0 < (psg m).length ∧ (psg m).length ≤ 1000 := by
  have h1 : 1 ∈ psg m := mem_psg.mpr (by omega)
  refine ⟨List.length_pos_of_mem h1, Nat.le_trans (List.length_filter_le _ _) ?_⟩
  rw [len_rgI]; omega
theorem some_comp (m : Int) (s0 s2 s3 s5 : Vl) : lcF [4] (gNm 4) ct__law_p_word_1 ce__law_p_word_2 ((rgI (1 - m) m).map .int) [s0, .int m, s2, s3, .hole, s5] [] = .ok ((psg m).map .int) [s0, .int m, s2, s3, .hole, s5] := by
  rw [lcF_ints (fun x => if x = 0 then none else some (.int x)) _ []]
  · congr 1
    rw [List.nil_append, psg, ← List.filterMap_eq_filter, List.map_filterMap]
    refine filterMap_same fun x _ => ?_
    by_cases e : x = 0 <;> simp [e, Option.guard]
  · intro x hx
    by_cases e : x = 0 <;> simp [lc1, ct__law_p_word_1, ce__law_p_word_2, e]
theorem draw_comp (m most : Int) (hm : 2 ≤ m ∧ m ≤ 6) : ∀ (ks : List Int) (n : Nat) (a b c : Int) (acc : List Int), n + ks.length ≤ 1000000 → Pot n a b c → ∃ w a' b' c', Pot (n + ks.length) a' b' c' ∧ w.length = ks.length ∧ W m w ∧
    lcF [5] (gNm 5) tTrue ce__law_p_word_3 (ks.map .int) [pt a b c, .int m, .int most, Ls (psg m), .hole, .hole] (acc.map .int) = .ok ((acc ++ w).map .int) [pt a' b' c', .int m, .int most, Ls (psg m), .hole, .hole]
  | [], n, a, b, c, acc, _, h => ⟨[], a, b, c, h, rfl, by simp [W], by simp⟩
  | k :: ks, n, a, b, c, acc, hn, h => by
    simp only [List.length_cons] at hn
    obtain ⟨v, a1, b1, c1, h1, hv, e⟩ := r_of n (by omega) a b c (psg m) h (len_psg hm)
    obtain ⟨w, a', b', c', hp, hl, hw, e2⟩ := draw_comp m most hm ks (n + 1) a1 b1 c1 (acc ++ [v]) (by omega) h1
    refine ⟨v :: w, a', b', c', hp.more (by simp; omega), by simp [hl], ?_, ?_⟩
    · intro i hi
      rcases List.mem_cons.mp hi with z | z
      · subst z; exact mem_psg.mp hv
      · exact hw i z
    · rw [List.map_cons, lcF_turn (o := some (.int v)) (s' := [pt a1 b1 c1, .int m, .int most, Ls (psg m), .hole, .hole])]
      · simpa using e2
      · simp [lc1, ce__law_p_word_3, e]
end G70

namespace G70
open PySem PySem.Spec PyProof.Rows L2 L3
theorem r_p_word (n : Nat) (a b c m most : Int) (hm : 2 ≤ m ∧ m ≤ 6) (hmo : 0 ≤ most ∧ most ≤ 100) (hn : n + 200 ≤ 1000000) (h : Pot n a b c) :
    ∃ w a' b' c', Pot (n + 200) a' b' c' ∧ (w.length : Int) ≤ most ∧ W m w ∧ R_law_p_word [pt a b c, .int m, .int most] = .ok (I w) [pt a' b' c', .int m, .int most] := by
  obtain ⟨d, a1, b1, c1, h1, d0, d1, e1⟩ := r_take n (by omega) a b c (most + 1) h (by omega)
  have hks : (rgI 0 d).length = d.toNat := by rw [len_rgI]; omega
  obtain ⟨w, a', b', c', hp, hl, hw, e2⟩ := draw_comp m most hm (rgI 0 d) (n + 1) a1 b1 c1 [] (by omega) h1
  refine ⟨w, a', b', c', hp.more (by omega), by omega, hw, ?_⟩
  have hr1 : rngL (1 - m) m = (rgI (1 - m) m).map .int := rngL_rgI _ _
  have hr2 : rngL 0 d = (rgI 0 d).map .int := rngL_rgI _ _
  have hs := some_comp m (pt a b c) (.int most) .hole .hole
  have hb1 : -(2 ^ 62) ≤ 1 - m ∧ 1 - m < 2 ^ 62 ∧ -(2 ^ 62) ≤ m ∧ m < 2 ^ 62 := by omega
  have hb2 : -(2 ^ 62) ≤ d ∧ d < 2 ^ 62 := by omega
  have hl1 : (rgI (1 - m) m).length < 16777216 := by rw [len_rgI]; omega
  have hl2 : (rgI 0 d).length < 16777216 := by omega
  have hl3 : w.length < 16777216 := by omega
  simp only [List.map_nil, List.nil_append, Ls] at e2
  simp [R_law_p_word, ev__law_p_word, -Int.reducePow, -Int.reduceNeg, hb1, hb2, hr1, hr2, hs, hl1, hl2, e1, e2]
theorem pw1 : powV (.int 10) (.int 60) = some (.int (10 ^ 60)) := by
  unfold powV
  exact if_pos ⟨by decide, by decide +kernel⟩
theorem pw2 : powV (.int (10 ^ 60)) (.int 5) = some (.int ((10 ^ 60) ^ 5)) := by
  unfold powV
  exact if_pos ⟨by decide, by decide +kernel⟩
theorem pw3 : powV (.int 10) (.int 18) = some (.int (10 ^ 18)) := by
  unfold powV
  exact if_pos ⟨by decide, by decide +kernel⟩
theorem r_pot (ns : List Int) (place : Int) (hpl : 0 ≤ place ∧ place ≤ 100) : ∃ a b, Pot 0 a b 0 ∧ R_law_pot [.sc ns, .int place] = .ok (pt a b 0) [.sc ns, .int place] := by
  -- the cell
  have cell : ∃ cell : Int, (eIf (t2 (cmpV fun i j => decide (i < j)) (eN 1) (eL lenV (aCons (eN 0) aNil))) (e2 ixV (eN 0) (eN 1)) (e2 addV (e2 addV (e2 modV (eL sumV (aCons (eSl (eN 0) oNone (oSome (eK (.int 1)))) aNil)) (eK (.int 1000003))) (e2 mulV (eK (.int 5077)) (eN 1))) (eK (.int 431)))) [.sc ns, .int place, .hole, .hole, .hole] = .ok (.v (.int cell)) [.sc ns, .int place, .hole, .hole, .hole] := by
    by_cases h : place < ns.length
    · obtain ⟨v, _, e⟩ := atI_some (xs := ns) ⟨hpl.1, h⟩
      exact ⟨v, by simp [h, e]⟩
    · have m1 : mulV (.int 5077) (.int place) = some (.int (5077 * place)) := mul_ok (by omega) (by omega)
      exact ⟨_, by simp [-mulV, h, m1, sumV, intsV]; rfl⟩
  obtain ⟨cell, hc⟩ := cell
  generalize hab : (if cell < 0 then -cell else cell) = ab
  have h1 : 0 ≤ ab % (10 ^ 60) ^ 5 ∧ ab % (10 ^ 60) ^ 5 < (10 ^ 60) ^ 5 := ⟨Int.emod_nonneg _ (by decide), Int.emod_lt_of_pos _ (by decide)⟩
  have h2 : 0 ≤ cell % 2305843009213693951 ∧ cell % 2305843009213693951 < 2305843009213693951 := ⟨Int.emod_nonneg _ (by decide), Int.emod_lt_of_pos _ (by decide)⟩
  have h10 : (0 : Int) < (10 ^ 60) ^ 5 := by decide
  have m1 : ∀ k : Bool, mulV (.int (ab % (10 ^ 60) ^ 5)) (.int (if k = true then 1 else 0)) = some (.int (ab % (10 ^ 60) ^ 5 * (if k = true then 1 else 0))) := fun k => mul_ok (by omega) (by cases k <;> decide)
  have m2 : mulV (.int (cell % 2305843009213693951)) (.int 93001) = some (.int (cell % 2305843009213693951 * 93001)) := mul_ok (by omega) (by decide)
  have m3 : mulV (.int 9547) (.int place) = some (.int (9547 * place)) := mul_ok (by decide) (by omega)
  have m4 : mulV (.int (9547 * place)) (.int place) = some (.int (9547 * place * place)) := mul_ok (by omega) (by omega)
  generalize hX : cell % 2305843009213693951 * 93001 + 9547 * place * place + 838 = X
  have h3 : 0 ≤ X % 2305843009213693921 ∧ X % 2305843009213693921 < 2305843009213693921 := ⟨Int.emod_nonneg _ (by decide), Int.emod_lt_of_pos _ (by decide)⟩
  refine ⟨ab % (10 ^ 60) ^ 5 * (if decide (10 ^ 18 ≤ ab) = true then 1 else 0), X % 2305843009213693921, ⟨?_, h3.1, by omega, by decide, by decide⟩, ?_⟩
  · exact Int.mul_nonneg h1.1 (by split <;> decide)
  · have p1 := pw1
    have p2 := pw2
    have p3 := pw3
    generalize ((10 : Int) ^ 60) ^ 5 = big at *
    generalize (10 : Int) ^ 60 = t60 at *
    generalize (10 : Int) ^ 18 = t18 at *
    have hm1 := m1 (decide (t18 ≤ ab))
    simp only [decide_eq_true_eq] at hm1
    simp [R_law_pot, ev__law_pot, -mulV, -x_eIf, hc, hab, p1, p2, p3, h10, hm1, m2, m3, m4, hX]
end G70

namespace G70
open PySem PySem.Spec PyProof.Rows L2 L3
theorem r_back (w : List Int) (hl : w.length < 16777216) : R_law_p_back [I w] = .ok (I (bk w)) [I w] := by
  have e : lcF [1] (gNm 1) tTrue ce__law_p_back_1 (w.reverse.map .int) [I w, .hole] [] = .ok ((bk w).map .int) [I w, .hole] := by
    rw [lcF_ints (fun x => some (.int (-x))) _ []]
    · congr 1
      simp [bk]
    · intro x hx
      simp [lc1, ce__law_p_back_1]
  simp only [List.map_reverse] at e
  simp [R_law_p_back, ev__law_p_back, -List.map_reverse, ← List.map_reverse, hl]
  simp [e]
theorem freed_some (w0 : Vl) (found rest : List Int) (x y : Int) (hne : found ≠ []) (hy : atI found (-1) = some y) (hp : popF (found.map .int) [] = some (rest.map .int, .int y)) (hl : found.length < 16777216) :
    lp__law_p_freed_1 [w0, Ls found, .int x] = .ok .nx [w0, Ls (if y = -x then rest else found ++ [x]), .int x] := by
  by_cases e : y = -x
  · simp [lp__law_p_freed_1, hne, hy, hp, e]
  · simp [lp__law_p_freed_1, hne, hy, e, appF, hl]
theorem freed_turn (w0 : Vl) (st : List Int) (x : Int) (hl : st.length < 16777216) : lp__law_p_freed_1 [w0, Ls st.reverse, .int x] = .ok .nx [w0, Ls (push x st).reverse, .int x] := by
  cases st with
  | nil => simp [lp__law_p_freed_1, push, neV3, appF]
  | cons y t =>
    have e := freed_some w0 (y :: t).reverse t.reverse x y (by simp) (by rw [atI_last _ (by simp)]; simp) (by simp [popF]) (by simpa using hl)
    rw [e]
    by_cases h : y = -x
    · simp [push, h]
    · simp [push, h]
theorem freed_loop (w0 : Vl) : ∀ (w st : List Int) (x2 : Vl), st.length + w.length < 16777216 → ∃ y2, forF (gNm 2) lp__law_p_freed_1 (w.map .int) [w0, Ls st.reverse, x2] = .ok .nx [w0, Ls (A st w).reverse, y2]
  | [], st, x2, _ => ⟨x2, by simp [A]⟩
  | x :: w, st, x2, h => by
    simp only [List.length_cons] at h
    have hp : (push x st).length ≤ st.length + 1 := by
      have := A_len [x] st
      simpa [A] using this
    obtain ⟨y2, e⟩ := freed_loop w0 w (push x st) (.int x) (by omega)
    refine ⟨y2, ?_⟩
    have t := freed_turn w0 st x (by omega)
    simp only [List.map_cons, x_for1, x_gNm, List.length_cons, List.length_nil, List.set_cons_succ, List.set_cons_zero]
    rw [if_pos (by omega), x_forT, t, bind_ok, x_kForT, e]
    rfl
theorem r_freed (w : List Int) (hl : w.length < 16777216) : R_law_p_freed [I w] = .ok (I (red w)) [I w] := by
  obtain ⟨y2, e⟩ := freed_loop (I w) w [] .hole (by simpa using hl)
  have h2 : (red w).length < 16777216 := Nat.lt_of_le_of_lt (len_red w) hl
  have er : (A [] w).reverse = red w := rfl
  rw [er] at e
  simp only [Ls, I, List.reverse_nil, List.map_nil] at e
  simp [R_law_p_freed, ev__law_p_freed, e]
end G70

namespace G70
open PySem PySem.Spec PyProof.Rows L2 L3
abbrev Lv (L : Lp) : Vl := .lst true (L.map I)
theorem ixV_L (L : Lp) (i : Int) : ixV (.lst true (L.map I)) (.int i) = (atI L i).map I := by
  simp only [ixV, atI_map]
  cases atI L i <;> simp
theorem loop_turn (m : Int) (w0 x4 x5 x6 : Vl) (L : Lp) (p : Int) (hp : p ≠ 0 ∧ p.natAbs + 1 ≤ L.length) (hs : ∀ l ∈ L, l.length ≤ 5000000) :
    ∃ y4 y5 y6, lp__law_p_loops_2 [.int m, w0, Lv L, .int p, x4, x5, x6, .hole] = .ok .nx [.int m, w0, Lv (step L p), .int p, y4, y5, y6, .hole] := by
  obtain ⟨pre, l, r, post, rfl, hk⟩ := split2 (L := L) (k := p.natAbs - 1) (by omega)
  rw [step_at pre l r post (by omega)]
  have ha : (if p < 0 then -p else p) = (pre.length : Int) + 1 := by split <;> omega
  have hll := hs l (by simp)
  have hlr := hs r (by simp)
  have hbl : (bk l).length = l.length := by simp [bk]
  have hbr : (bk r).length = r.length := by simp [bk]
  have i1 : atI (pre ++ l :: r :: post) ((pre.length : Int) + 1 - 1) = some l := by
    rw [atI_pos (k := pre.length) (by omega) (by simp)]; simp
  have i2 : atI (pre ++ l :: r :: post) ((pre.length : Int) + 1) = some r := by
    rw [atI_pos (k := pre.length + 1) (by omega) (by simp)]; simp [List.getElem?_append_right]
  have ix1 := ixV_L (pre ++ l :: r :: post) ((pre.length : Int) + 1 - 1)
  have ix2 := ixV_L (pre ++ l :: r :: post) ((pre.length : Int) + 1)
  rw [i1] at ix1
  rw [i2] at ix2
  have x1 : ∀ n, n = (pre ++ l :: r :: post).length → ixN n ((pre.length : Int) + 1 - 1) = some pre.length := fun n e => ixN_pos (by omega) (by rw [e]; simp)
  have x2 : ∀ n, n = (pre ++ l :: r :: post).length → ixN n ((pre.length : Int) + 1) = some (pre.length + 1) := fun n e => ixN_pos (by omega) (by rw [e]; simp)
  have st : ∀ u v : Vl, (((pre ++ l :: r :: post).map I).set pre.length u).set (pre.length + 1) v = pre.map I ++ u :: v :: post.map I := fun u v => by
    rw [List.map_append, List.map_cons, List.map_cons, List.set_append_right _ _ (by simp), List.length_map, Nat.sub_self, List.set_append_right _ _ (by simp), List.length_map, show pre.length + 1 - pre.length = 1 by omega]
    rfl
  have fin : ∀ u v : List Int, (pre ++ u :: v :: post).map I = pre.map I ++ I u :: I v :: post.map I := fun u v => by simp
  have len : ((pre ++ l :: r :: post).map I).length = (pre ++ l :: r :: post).length := by rw [List.length_map]
  simp only [Lv]
  rw [fin (actP p l r).1 (actP p l r).2]
  clear fin
  generalize hLL : pre ++ l :: r :: post = LL at *
  generalize (pre.length : Int) + 1 = a at *
  generalize (LL.map I) = LM at *
  have y1 := x1 LM.length len
  have y2 := x2 LM.length len
  have b1 := r_back l (by omega)
  have b2 := r_back r (by omega)
  have f1 := r_freed (l ++ r ++ bk l) (by simp; omega)
  have f2 := r_freed (bk r ++ l ++ r) (by simp; omega)
  by_cases h0 : 0 < p
  · simp only [I, List.map_append, List.append_assoc] at f1 b1
    have s1 : l.length + r.length ≤ 16777216 := by omega
    have s2 : l.length + r.length + (bk l).length ≤ 16777216 := by omega
    exact ⟨_, _, _, by simp [lp__law_p_loops_2, ha, h0, ix1, ix2, b1, f1, s1, s2, y1, y2, st, actP]; exact ⟨rfl, rfl, rfl⟩⟩
  · simp only [I, List.map_append, List.append_assoc] at f2 b2
    have s1 : (bk r).length + l.length ≤ 16777216 := by omega
    have s2 : (bk r).length + l.length + r.length ≤ 16777216 := by omega
    exact ⟨_, _, _, by simp [lp__law_p_loops_2, ha, h0, ix1, ix2, b2, f2, s1, s2, y1, y2, st, actP]; exact ⟨rfl, rfl, rfl⟩⟩
theorem loop_loop (m : Int) (w0 : Vl) : ∀ (w : List Int) (L : Lp) (x3 x4 x5 x6 : Vl), (∀ p ∈ w, p ≠ 0 ∧ p.natAbs + 1 ≤ L.length) → (∀ u v, w = u ++ v → ∀ l ∈ loops L u, l.length ≤ 5000000) →
    ∃ y3 y4 y5 y6, forF (gNm 3) lp__law_p_loops_2 (w.map .int) [.int m, w0, Lv L, x3, x4, x5, x6, .hole] = .ok .nx [.int m, w0, Lv (loops L w), y3, y4, y5, y6, .hole]
  | [], L, x3, x4, x5, x6, _, _ => ⟨x3, x4, x5, x6, by simp [loops]⟩
  | p :: w, L, x3, x4, x5, x6, hw, hs => by
    obtain ⟨y4, y5, y6, e⟩ := loop_turn m w0 x4 x5 x6 L p (hw p (by simp)) (hs [] (p :: w) rfl)
    obtain ⟨z3, z4, z5, z6, e2⟩ := loop_loop m w0 w (step L p) (.int p) y4 y5 y6 (fun q hq => by rw [len_step]; exact hw q (by simp [hq])) (fun u v h => hs (p :: u) v (by rw [h]; rfl))
    refine ⟨z3, z4, z5, z6, ?_⟩
    simp only [List.map_cons, x_for1, x_gNm, List.length_cons, List.length_nil, List.set_cons_succ, List.set_cons_zero]
    rw [if_pos (by omega), x_forT, e, bind_ok, x_kForT, e2]
    rfl
theorem purL_I (L : Lp) : PurL (L.map I) = true := by simp [PurL, Pur]
theorem r_loops (m : Int) (n : Nat) (hm : m = n) (hn : n ≤ 100) (w : List Int) (hl : w.length < 16777216) (hw : ∀ p ∈ w, p ≠ 0 ∧ p.natAbs + 1 ≤ n) (hs : ∀ u v, w = u ++ v → ∀ l ∈ loops (lp0 n) u, l.length ≤ 5000000) :
    R_law_p_loops [.int m, I w] = .ok (.tup ((loops (lp0 n) w).map I)) [.int m, I w] := by
  have e0 : lcF [7] (gNm 7) tTrue ce__law_p_loops_1 ((rgI 1 (m + 1)).map .int) [.int m, I w, .hole, .hole, .hole, .hole, .hole, .hole] [] = .ok ((lp0 n).map I) [.int m, I w, .hole, .hole, .hole, .hole, .hole, .hole] := by
    rw [lcF_ints (fun x => some (I [x])) _ []]
    · congr 1
      subst hm
      rw [List.nil_append, List.filterMap_eq_map', rgI, lp0, List.map_map, List.map_map, show ((n : Int) + 1 - 1).toNat = n by omega]
      refine List.map_congr_left fun k _ => ?_
      simp; omega
    · intro x hx
      simp [lc1, ce__law_p_loops_1]
  obtain ⟨y3, y4, y5, y6, e⟩ := loop_loop m (I w) w (lp0 n) .hole .hole .hole .hole (fun p hp => by rw [lp0_len]; exact hw p hp) hs
  have hr : rngL 1 (m + 1) = (rgI 1 (m + 1)).map .int := rngL_rgI _ _
  have hb : -(2 ^ 62) ≤ m + 1 ∧ m + 1 < 2 ^ 62 := by omega
  have hb1 : -(2 ^ 62) ≤ (1 : Int) ∧ (1 : Int) < 2 ^ 62 := by decide
  have hlr : (rgI 1 (m + 1)).length < 16777216 := by rw [len_rgI]; omega
  have hp := purL_I (loops (lp0 n) w)
  simp only [Lv, I] at e e0 hp
  simp [R_law_p_loops, ev__law_p_loops, -Int.reducePow, -Int.reduceNeg, -List.map_map, hb, hb1, hr, hlr, e0, e, hp]
end G70

namespace G70
open PySem PySem.Spec PyProof.Rows L2 L3
theorem vEqL_refl : ∀ L : Lp, vEqL (L.map I) (L.map I) = true
  | [] => rfl
  | l :: L => by
    have h1 := vEqL_ints l l
    have h2 := vEqL_refl L
    simp only [List.map_cons, vEqL, h2, Bool.and_true]
    show vEq (.tup (l.map .int)) (.tup (l.map .int)) = true
    rw [vEq_tup, h1]
    simp
theorem okL_I (n : Nat) : ∀ L : Lp, okL (n + 1) (L.map I) = true
  | [] => by simp
  | l :: L => by
    have h2 := okL_I n L
    simp only [List.map_cons, okL_cons, h2, Bool.and_true]
    exact okL_ints n l
theorem r_same (m : Int) (n : Nat) (hm : m = n) (hn : n ≤ 100) (w w' : List Int) (hl : w.length < 16777216) (hl' : w'.length < 16777216) (hw : ∀ p ∈ w, p ≠ 0 ∧ p.natAbs + 1 ≤ n) (hw' : ∀ p ∈ w', p ≠ 0 ∧ p.natAbs + 1 ≤ n)
    (hs : ∀ u v, w = u ++ v → ∀ l ∈ loops (lp0 n) u, l.length ≤ 5000000) (hs' : ∀ u v, w' = u ++ v → ∀ l ∈ loops (lp0 n) u, l.length ≤ 5000000) (e : loops (lp0 n) w = loops (lp0 n) w') :
    R_law_p_same [.int m, I w, I w'] = .ok (.bl true) [.int m, I w, I w'] := by
  have h1 := r_loops m n hm hn w hl hw hs
  have h2 := r_loops m n hm hn w' hl' hw' hs'
  rw [← e] at h2
  have h3 := okL_I 48 (loops (lp0 n) w)
  have h4 := vEqL_refl (loops (lp0 n) w)
  simp [R_law_p_same, ev__law_p_same, h1, h2, eqV3, h3, h4]
/-! ### words moved -/
theorem cut_at {u s : List Int} {t : Int} (ht : t = u.length) (j : Nat) : cutG (u ++ s) (some t) (some (t + j)) = s.take j := by
  subst ht
  unfold cutG
  rw [HT.sIx_nat, show (u.length : Int) + j = ((u.length + j : Nat) : Int) by omega, HT.sIx_nat, show min u.length (u ++ s).length = u.length by simp, List.drop_left]
  by_cases h : j ≤ s.length
  · rw [show min (u.length + j) (u ++ s).length - u.length = j by simp; omega]
  · rw [show min (u.length + j) (u ++ s).length - u.length = s.length by simp; omega, List.take_of_length_le (Nat.le_refl _), List.take_of_length_le (by omega)]
theorem cut_to {u s : List Int} {t : Int} (ht : t = u.length) : cutG (u ++ s) none (some t) = u := by
  subst ht
  unfold cutG
  rw [HT.sIx_nat, HT.sIx_none, show min u.length (u ++ s).length = u.length by simp, List.drop_zero, Nat.sub_zero, List.take_left]
theorem cut_from {u s : List Int} {t : Int} (ht : t = u.length) (j : Nat) : cutG (u ++ s) (some (t + j)) none = s.drop j := by
  subst ht
  unfold cutG
  rw [show (u.length : Int) + j = ((u.length + j : Nat) : Int) by omega, HT.sIx_nat, HT.sIx_none]
  have : (u ++ s).drop (min (u.length + j) (u ++ s).length) = s.drop j := by
    by_cases h : j ≤ s.length
    · rw [show min (u.length + j) (u ++ s).length = u.length + j by simp; omega, List.drop_append]; simp
    · rw [show min (u.length + j) (u ++ s).length = (u ++ s).length by simp; omega, List.drop_length, List.drop_of_length_le (by omega)]
  rw [this, List.take_of_length_le]
  rw [List.length_drop, List.length_append]
  omega
theorem some_comp2 (m : Int) (s0 s2 s3 s4 s5 s6 s7 s8 : Vl) : lcF [9] (gNm 9) ct__law_p_moved_1 ce__law_p_moved_2 ((rgI (1 - m) m).map .int) [s0, .int m, s2, s3, s4, s5, s6, s7, s8, .hole] [] = .ok ((psg m).map .int) [s0, .int m, s2, s3, s4, s5, s6, s7, s8, .hole] := by
  rw [lcF_ints (fun x => if x = 0 then none else some (.int x)) _ []]
  · congr 1
    rw [List.nil_append, psg, ← List.filterMap_eq_filter, List.map_filterMap]
    refine filterMap_same fun x _ => ?_
    by_cases e : x = 0 <;> simp [e, Option.guard]
  · intro x hx
    by_cases e : x = 0 <;> simp [lc1, ct__law_p_moved_1, ce__law_p_moved_2, e]
theorem sign_of {a b : Int} (h : 0 < a * b) : (0 < a ∧ 0 < b) ∨ (a < 0 ∧ b < 0) := by
  rcases Int.lt_trichotomy a 0 with ha | ha | ha
  · refine .inr ⟨ha, ?_⟩
    rcases Int.lt_trichotomy b 0 with hb | hb | hb
    · exact hb
    · subst hb; simp at h
    · have := Int.mul_neg_of_neg_of_pos ha hb; omega
  · subst ha; simp at h
  · refine .inl ⟨ha, ?_⟩
    rcases Int.lt_trichotomy b 0 with hb | hb | hb
    · have := Int.mul_neg_of_pos_of_neg ha hb; omega
    · subst hb; simp at h
    · exact hb
end G70

namespace G70
open PySem PySem.Spec PyProof.Rows L2 L3
theorem moved_turn (k : Nat) (hk : k + 3 ≤ 1000000) (m : Int) (n : Nat) (hm : m = n) (h6 : 2 ≤ m ∧ m ≤ 6) (laps lap x5 x6 x7 x8 : Vl) (w : List Int) (hw : Wn n w) (hl : w.length ≤ 500) (a b c : Int) (hp : Pot k a b c) :
    ∃ w' a' b' c' y5 y6 y7 y8, Mv n w w' ∧ w'.length ≤ w.length + 2 ∧ Pot (k + 3) a' b' c' ∧
      lp__law_p_moved_3 [pt a b c, .int m, I w, laps, lap, x5, x6, x7, x8, .hole] = .ok .nx [pt a' b' c', .int m, I w', laps, lap, y5, y6, y7, y8, .hole] := by
  obtain ⟨t, a1, b1, c1, p1, t0, t1, T1⟩ := r_take k (by omega) a b c ((w.length : Int) + 1) hp (by omega)
  obtain ⟨way, a2, b2, c2, p2, w0, w1, T2⟩ := r_take (k + 1) (by omega) a1 b1 c1 3 p1 (by omega)
  obtain ⟨u, s, hus, htu⟩ : ∃ u s, w = u ++ s ∧ t = u.length := ⟨w.take t.toNat, w.drop t.toNat, (List.take_append_drop _ _).symm, by rw [List.length_take]; omega⟩
  have q1 : cutG w (some t) (some (t + 3)) = s.take 3 := by rw [hus]; exact cut_at htu 3
  have q2 : cutG w none (some t) = u := by rw [hus]; exact cut_to htu
  have q3 : cutG w (some t) none = s := by
    have := cut_from (s := s) htu 0
    rw [hus]; simpa using this
  have q4 : cutG w (some (t + 3)) none = s.drop 3 := by rw [hus]; exact cut_from htu 3
  have q5 : cutG w (some (t + 2)) none = s.drop 2 := by rw [hus]; exact cut_from htu 2
  have hlen : w.length = u.length + s.length := by rw [hus, List.length_append]
  by_cases hfree : way = 0 ∧ w.length < 40
  · obtain ⟨v, a3, b3, c3, p3, hv, T3⟩ := r_of (k + 2) (by omega) a2 b2 c2 (psg m) p2 (len_psg h6)
    have hv2 := mem_psg.mp hv
    have hr1 : rngL (1 - m) m = (rgI (1 - m) m).map .int := rngL_rgI _ _
    have hb1 : -(2 ^ 62) ≤ 1 - m ∧ 1 - m < 2 ^ 62 ∧ -(2 ^ 62) ≤ m ∧ m < 2 ^ 62 := by omega
    have hl1 : (rgI (1 - m) m).length < 16777216 := by rw [len_rgI]; omega
    refine ⟨u ++ ([v, -v] ++ s), a3, b3, c3, .int t, .int way, I (s.take 3), .int v, by rw [hus]; exact .ins u s v ⟨hv2.2.2, by omega⟩, by simp; omega, p3, ?_⟩
    have hw40 : (w.length : Int) < 40 := by omega
    have l1 : u.length + 2 ≤ 16777216 := by omega
    have l2 : u.length + 2 + s.length ≤ 16777216 := by omega
    simp only [Ls] at T3
    simp [lp__law_p_moved_3, -Int.reducePow, -Int.reduceNeg, T1, T2, q1, q2, q3, hfree.1, hw40, hr1, hb1, hl1, some_comp2 m, T3, l1, l2]
  · -- the others
    have cond : (way = 0 ∧ (w.length : Int) < 40) = False := by
      rw [eq_iff_iff, iff_false]
      rintro ⟨z1, z2⟩
      exact hfree ⟨z1, by omega⟩
    have none_case : ∀ y7 : Vl, ∃ w' a' b' c' z5 z6 z7 z8, Mv n w w' ∧ w'.length ≤ w.length + 2 ∧ Pot (k + 3) a' b' c' ∧
        (Out.ok Fl.nx [pt a2 b2 c2, Vl.int m, I w, laps, lap, Vl.int t, Vl.int way, y7, x8, Vl.hole] : Out Fl) = .ok .nx [pt a' b' c', .int m, I w', laps, lap, z5, z6, z7, z8, .hole] :=
      fun y7 => ⟨w, a2, b2, c2, _, _, _, _, .none w, by omega, p2.more (by omega), rfl⟩
    have hand : ∀ {e1 e2 : S → Out Bool} {st : S} {b1 b2 : Bool}, e1 st = .ok b1 st → (b1 = true → e2 st = .ok b2 st) → tAndB e1 e2 st = .ok (b1 && b2) st := by
      intro e1 e2 st b1 b2 h1 h2
      cases b1 with
      | false => simp [h1]
      | true => simp [h1, h2 rfl]
    have first : tAndB (t2 eqV3 (eN 6) (eK (.int 0))) (t2 (cmpV fun i j => decide (i < j)) (eL lenV (aCons (eN 2) aNil)) (eK (.int 40))) [pt a2 b2 c2, .int m, I w, laps, lap, .int t, .int way, I (s.take 3), x8, .hole] = .ok false [pt a2 b2 c2, .int m, I w, laps, lap, .int t, .int way, I (s.take 3), x8, .hole] := by
      by_cases z1 : way = 0
      · have z2 : ¬ (w.length : Int) < 40 := fun z => hfree ⟨z1, by omega⟩
        simp [z1, z2]
      · simp [z1]
    match s, hus with
    | [], hus =>
      obtain ⟨w', a', b', c', z5, z6, z7, z8, h1, h2, h3, h4⟩ := none_case (I [])
      refine ⟨w', a', b', c', z5, z6, z7, z8, h1, h2, h3, Eq.trans ?_ h4⟩
      simp only [List.take_nil, I, List.map_nil] at q1 first
      simp [lp__law_p_moved_3, -x_tAndB, T1, T2, q1]
      simp only [first]
      simp
    | [x], hus =>
      obtain ⟨w', a', b', c', z5, z6, z7, z8, h1, h2, h3, h4⟩ := none_case (I [x])
      refine ⟨w', a', b', c', z5, z6, z7, z8, h1, h2, h3, Eq.trans ?_ h4⟩
      simp only [List.take_succ_cons, List.take_nil, I, List.map_nil, List.map_cons] at q1 first
      simp [lp__law_p_moved_3, -x_tAndB, T1, T2, q1]
      simp only [first]
      simp
    | [x, y], hus =>
      have vx := hw x (by rw [hus]; simp)
      have vy := hw y (by rw [hus]; simp)
      obtain ⟨ax, hx⟩ : ∃ ax, (if x < 0 then -x else x) = ax := ⟨_, rfl⟩
      obtain ⟨ay, hy⟩ : ∃ ay, (if y < 0 then -y else y) = ay := ⟨_, rfl⟩
      obtain ⟨ad, hd⟩ : ∃ ad, (if ax < ay then -(ax - ay) else ax - ay) = ad := ⟨_, rfl⟩
      have nx : ax = x.natAbs := by rw [← hx]; split <;> omega
      have ny : ay = y.natAbs := by rw [← hy]; split <;> omega
      have hd2 : (if ax - ay < 0 then -(ax - ay) else ax - ay) = ad := by rw [← hd]; split <;> split <;> omega
      have hd3 : (if ax < ay then ay - ax else ax - ay) = ad := by rw [← hd]; split <;> omega
      have l1 : u.length + 2 ≤ 16777216 := by omega
      have l0 : u.length ≤ 16777216 := by omega
      have ix0 : ∀ p q : Int, ixV (.tup [.int p, .int q]) (.int 0) = some (.int p) := fun p q => by simp [ixV, atI, ixN]
      have ix1 : ∀ p q : Int, ixV (.tup [.int p, .int q]) (.int 1) = some (.int q) := fun p q => by simp [ixV, atI, ixN]
      simp only [List.take_succ_cons, List.take_nil, List.drop_succ_cons, List.drop_nil, List.drop_zero, I, List.map_nil, List.map_cons] at q1 q5 first
      by_cases c3 : 1 < ad
      · refine ⟨u ++ ([y, x] ++ []), a2, b2, c2, .int t, .int way, I [x, y], x8, by rw [hus]; exact Mv.far u [] x y (by rw [← hd] at c3; split at c3 <;> omega), by rw [hlen]; simp, p2.more (by omega), ?_⟩
        simp [lp__law_p_moved_3, -x_tAndB, T1, T2, q1]
        simp only [first]
        simp [ix0, ix1, hx, hy, hd, hd2, hd3, c3, q2, q5, l1, l0]
      · by_cases c4 : x = -y
        · refine ⟨u ++ [], a2, b2, c2, .int t, .int way, I [x, y], x8, by rw [hus, show y = -x by omega]; exact Mv.out u [] x, by rw [hlen]; simp <;> omega, p2.more (by omega), ?_⟩
          simp [lp__law_p_moved_3, -x_tAndB, T1, T2, q1]
          simp only [first]
          have e4 : eqV3 (.int x) (.int (-y)) = some (.bl true) := by simp [c4]
          have e23 : eqV3 (.int 2) (.int 3) = some (.bl false) := by simp
          simp [-eqI, e4, e23, ix0, ix1, hx, hy, hd, hd2, hd3, c3, q2, q5, l1, l0]
        · obtain ⟨w', a', b', c', z5, z6, z7, z8, h1, h2, h3, h4⟩ := none_case (I [x, y])
          refine ⟨w', a', b', c', z5, z6, z7, z8, h1, h2, h3, Eq.trans ?_ h4⟩
          simp [lp__law_p_moved_3, -x_tAndB, T1, T2, q1]
          simp only [first]
          simp [ix0, ix1, hx, hy, hd, hd2, hd3, c3, c4, q2, q5, l1, l0]
    | x :: y :: z :: r, hus =>
      have vx := hw x (by rw [hus]; simp)
      have vy := hw y (by rw [hus]; simp)
      obtain ⟨ax, hx⟩ : ∃ ax, (if x < 0 then -x else x) = ax := ⟨_, rfl⟩
      obtain ⟨ay, hy⟩ : ∃ ay, (if y < 0 then -y else y) = ay := ⟨_, rfl⟩
      obtain ⟨ad, hd⟩ : ∃ ad, (if ax < ay then -(ax - ay) else ax - ay) = ad := ⟨_, rfl⟩
      have nx : ax = x.natAbs := by rw [← hx]; split <;> omega
      have ny : ay = y.natAbs := by rw [← hy]; split <;> omega
      have hd2 : (if ax - ay < 0 then -(ax - ay) else ax - ay) = ad := by rw [← hd]; split <;> split <;> omega
      have hd3 : (if ax < ay then ay - ax else ax - ay) = ad := by rw [← hd]; split <;> omega
      simp only [List.length_cons] at hlen
      have l1 : u.length + 2 ≤ 16777216 := by omega
      have l2 : u.length + 3 ≤ 16777216 := by omega
      have l3 : u.length + 3 + r.length ≤ 16777216 := by omega
      have l4 : u.length + 2 + (r.length + 1) ≤ 16777216 := by omega
      have l5 : u.length + (r.length + 1) ≤ 16777216 := by omega
      have ix0 : ∀ p q v : Int, ixV (.tup [.int p, .int q, .int v]) (.int 0) = some (.int p) := fun p q v => by simp [ixV, atI, ixN]
      have ix1 : ∀ p q v : Int, ixV (.tup [.int p, .int q, .int v]) (.int 1) = some (.int q) := fun p q v => by simp [ixV, atI, ixN]
      have ix2 : ∀ p q v : Int, ixV (.tup [.int p, .int q, .int v]) (.int 2) = some (.int v) := fun p q v => by simp [ixV, atI, ixN]
      have mu : mulV (.int x) (.int y) = some (.int (x * y)) := mul_ok (by omega) (by omega)
      have e33 : eqV3 (.int 3) (.int 3) = some (.bl true) := by simp
      simp only [List.take_succ_cons, List.take_zero, List.drop_succ_cons, List.drop_zero, I, List.map_nil, List.map_cons] at q1 q4 q5 first
      have hun : lp__law_p_moved_3 [pt a b c, .int m, I w, laps, lap, x5, x6, x7, x8, .hole] = lp__law_p_moved_3 [pt a b c, .int m, I w, laps, lap, x5, x6, x7, x8, .hole] := rfl
      by_cases hb : x = z ∧ ad = 1 ∧ 0 < x * y
      · obtain ⟨cz, c1', cs⟩ := hb
        have ez : eqV3 (.int x) (.int z) = some (.bl true) := by simp [cz]
        have e1 : eqV3 (.int ad) (.int 1) = some (.bl true) := by simp [c1']
        refine ⟨u ++ ([y, x, y] ++ r), a2, b2, c2, .int t, .int way, I [x, y, z], x8, by rw [hus, ← cz]; exact Mv.braid u r x y (by rw [← hd] at c1'; split at c1' <;> omega) (sign_of cs), by rw [hlen]; simp <;> omega, p2.more (by omega), ?_⟩
        simp [lp__law_p_moved_3, -x_tAndB, T1, T2, q1]
        simp only [first]
        simp [-eqI, -mulV, e33, ez, e1, mu, cs, ix0, ix1, ix2, hx, hy, hd, hd2, hd3, q2, q4, l2, l3]
      · have sec : tAndB (t2 eqV3 (eL lenV (aCons (eN 7) aNil)) (eK (.int 3))) (tAndB (t2 eqV3 (e2 ixV (eN 7) (eK (.int 0))) (e2 ixV (eN 7) (eK (.int 2)))) (tAndB (t2 eqV3 (eL L3.absV (aCons (e2 subV (eL L3.absV (aCons (e2 ixV (eN 7) (eK (.int 0))) aNil)) (eL L3.absV (aCons (e2 ixV (eN 7) (eK (.int 1))) aNil))) aNil)) (eK (.int 1))) (t2 (cmpV fun i j => decide (j < i)) (e2 mulV (e2 ixV (eN 7) (eK (.int 0))) (e2 ixV (eN 7) (eK (.int 1)))) (eK (.int 0))))) [pt a2 b2 c2, .int m, I w, laps, lap, .int t, .int way, .tup [.int x, .int y, .int z], x8, .hole] = .ok false [pt a2 b2 c2, .int m, I w, laps, lap, .int t, .int way, .tup [.int x, .int y, .int z], x8, .hole] := by
          by_cases cz : x = z
          · have ez : eqV3 (.int x) (.int z) = some (.bl true) := by simp [cz]
            by_cases c1' : ad = 1
            · have e1 : eqV3 (.int ad) (.int 1) = some (.bl true) := by simp [c1']
              have cs : ¬ 0 < x * y := fun z => hb ⟨cz, c1', z⟩
              simp [-eqI, -mulV, e33, ez, e1, mu, cs, ix0, ix1, ix2, hx, hy, hd, hd2, hd3]
            · have e1 : eqV3 (.int ad) (.int 1) = some (.bl false) := by simp [c1']
              simp [-eqI, -mulV, e33, ez, e1, mu, ix0, ix1, ix2, hx, hy, hd, hd2, hd3]
          · have ez : eqV3 (.int x) (.int z) = some (.bl false) := by simp [cz]
            simp [-eqI, -mulV, e33, ez, mu, ix0, ix1, ix2, hx, hy, hd, hd2, hd3]
        simp only [I] at sec
        by_cases c3 : 1 < ad
        · refine ⟨u ++ ([y, x] ++ (z :: r)), a2, b2, c2, .int t, .int way, I [x, y, z], x8, by rw [hus]; exact Mv.far u (z :: r) x y (by rw [← hd] at c3; split at c3 <;> omega), by rw [hlen]; simp <;> omega, p2.more (by omega), ?_⟩
          simp [lp__law_p_moved_3, -x_tAndB, T1, T2, q1]
          simp only [first, bind_ok, x_kIfF, x_sIf, sec]
          simp [-eqI, -mulV, ix0, ix1, ix2, hx, hy, hd, hd2, hd3, c3, q2, q5, l1, l4]
        · by_cases c4 : x = -y
          · have e4 : eqV3 (.int x) (.int (-y)) = some (.bl true) := by simp [c4]
            refine ⟨u ++ (z :: r), a2, b2, c2, .int t, .int way, I [x, y, z], x8, by rw [hus, show y = -x by omega]; exact Mv.out u (z :: r) x, by rw [hlen]; simp <;> omega, p2.more (by omega), ?_⟩
            simp [lp__law_p_moved_3, -x_tAndB, T1, T2, q1]
            simp only [first, bind_ok, x_kIfF, x_sIf, sec]
            simp [-eqI, -mulV, e4, ix0, ix1, ix2, hx, hy, hd, hd2, hd3, c3, q2, q5, l1, l5]
          · have e4 : eqV3 (.int x) (.int (-y)) = some (.bl false) := by simp [c4]
            obtain ⟨w', a', b', c', z5, z6, z7, z8, h1, h2, h3, h4⟩ := none_case (I [x, y, z])
            refine ⟨w', a', b', c', z5, z6, z7, z8, h1, h2, h3, Eq.trans ?_ h4⟩
            simp [lp__law_p_moved_3, -x_tAndB, T1, T2, q1]
            simp only [first, bind_ok, x_kIfF, x_sIf, sec]
            simp [-eqI, -mulV, e4, ix0, ix1, ix2, hx, hy, hd, hd2, hd3, c3, q2, q5, l1, l5]
end G70

namespace G70
open PySem PySem.Spec PyProof.Rows L2 L3
theorem dtL_ints : ∀ w : List Int, dtL (w.map .int) = some (w.map PyData.int)
  | [] => rfl
  | i :: w => by simp [dtL, dt, dtL_ints w]
theorem shown_small {i : Int} (h : -6 ≤ i ∧ i ≤ 6) : (PyData.shown (.int i)).length ≤ 8 := by
  have : i = -6 ∨ i = -5 ∨ i = -4 ∨ i = -3 ∨ i = -2 ∨ i = -1 ∨ i = 0 ∨ i = 1 ∨ i = 2 ∨ i = 3 ∨ i = 4 ∨ i = 5 ∨ i = 6 := by omega
  rcases this with rfl | rfl | rfl | rfl | rfl | rfl | rfl | rfl | rfl | rfl | rfl | rfl | rfl <;> decide +kernel
theorem show_ints : ∀ w : List Int, (∀ i ∈ w, -6 ≤ i ∧ i ≤ 6) → PyData.showableAll (w.map PyData.int) = true ∧ PyData.leavesShortAll 8 (w.map PyData.int) = true ∧ PyData.bulkAll (w.map PyData.int) = w.length
  | [], _ => ⟨rfl, rfl, rfl⟩
  | i :: w, h => by
    obtain ⟨h1, h2, h3⟩ := show_ints w fun j hj => h j (by simp [hj])
    have hi := h i (by simp)
    have hs := shown_small hi
    have hlog : i.natAbs.log2 < 1920 := Nat.lt_of_le_of_lt (log_lt (k := 3) (by omega)) (by omega)
    refine ⟨?_, ?_, ?_⟩
    · simp only [List.map_cons, PyData.showableAll, PyData.showable, h1, Bool.and_true, decide_eq_true_eq]; exact hlog
    · simp only [List.map_cons, PyData.leavesShortAll, PyData.leavesShort, h2, Bool.and_true, decide_eq_true_eq]; exact hs
    · simp only [List.map_cons, PyData.bulkAll, PyData.bulk, h3, List.length_cons]; omega
theorem repr_I (w : List Int) (h : ∀ i ∈ w, -6 ≤ i ∧ i ≤ 6) (hl : w.length ≤ 1000) : ∃ s, reprV [I w] = some (.str s) := by
  obtain ⟨h1, h2, h3⟩ := show_ints w h
  have hd : dt (I w) = some (.tuple (w.map PyData.int)) := by simp [dt, dtL_ints]
  have hf : (PyData.tuple (w.map PyData.int)).shown.length ≤ sizeLine := PyData.shown_fits_bulk (B := 8) (by decide) (by decide) (by simpa [PyData.leavesShort] using h2) (by simp only [PyData.bulk, h3]; omega)
  refine ⟨(PyData.tuple (w.map PyData.int)).shown, ?_⟩
  have ho : okD 50 (I w) = true := by simp
  show (if okD 50 (I w) = true then _ else _) = _
  rw [if_pos ho]
  show (match dt (I w) with | some d => _ | none => _) = _
  rw [hd]
  exact if_pos ⟨by simpa [PyData.showable] using h1, hf⟩
@[simp] theorem neS (s : Str) : neV3 (.str s) (.str s) = some (.bl false) := by simp [neV3, isS, vEq]
@[simp] theorem eqS (s : Str) : eqV3 (.str s) (.str s) = some (.bl true) := by simp [eqV3, isS, vEq]
theorem moved_loop (m : Int) (n : Nat) (hm : m = n) (h6 : 2 ≤ m ∧ m ≤ 6) (laps : Vl) : ∀ (xs : List Int) (k K : Nat) (a b c : Int) (w : List Int) (x4 x5 x6 x7 x8 : Vl), k + 3 * xs.length ≤ 1000000 → Pot k a b c → Wn n w → Short n K w → w.length + 2 * xs.length ≤ 500 →
    ∃ w' a' b' c' y4 y5 y6 y7 y8, Wn n w' ∧ Short n (K + xs.length) w' ∧ Al n w w' ∧ w'.length ≤ w.length + 2 * xs.length ∧ Pot (k + 3 * xs.length) a' b' c' ∧
      forF (gNm 4) lp__law_p_moved_3 (xs.map .int) [pt a b c, .int m, I w, laps, x4, x5, x6, x7, x8, .hole] = .ok .nx [pt a' b' c', .int m, I w', laps, y4, y5, y6, y7, y8, .hole]
  | [], k, K, a, b, c, w, x4, x5, x6, x7, x8, _, hp, hw, hs, _ => ⟨w, a, b, c, x4, x5, x6, x7, x8, hw, hs, .refl n w, by omega, hp, by simp⟩
  | x :: xs, k, K, a, b, c, w, x4, x5, x6, x7, x8, hk, hp, hw, hs, hl => by
    simp only [List.length_cons] at hk hl
    obtain ⟨w1, a1, b1, c1, y5, y6, y7, y8, mv, l1, p1, e1⟩ := moved_turn k (by omega) m n hm h6 laps (.int x) x5 x6 x7 x8 w hw (by omega) a b c hp
    have hw1 := mv.word hw
    obtain ⟨w', a', b', c', z4, z5, z6, z7, z8, h1, h2, h3, h4, h5, e2⟩ := moved_loop m n hm h6 laps xs (k + 3) (K + 1) a1 b1 c1 w1 (.int x) y5 y6 y7 y8 (by omega) p1 hw1 (mv.short hw hs) (by omega)
    refine ⟨w', a', b', c', z4, z5, z6, z7, z8, h1, h2.more (by simp; omega), (mv.al hw).trans h3, by simp only [List.length_cons]; omega, h5.more (by simp only [List.length_cons]; omega), ?_⟩
    simp only [List.map_cons, x_for1, x_gNm, List.length_cons, List.length_nil, List.set_cons_succ, List.set_cons_zero]
    rw [if_pos (by omega), x_forT, e1, bind_ok, x_kForT, e2]
theorem r_moved (m : Int) (n : Nat) (hm : m = n) (h6 : 2 ≤ m ∧ m ≤ 6) (k : Nat) (hk : k + 30 ≤ 1000000) (a b c : Int) (w : List Int) (hp : Pot k a b c) (hw : Wn n w) (hl : w.length ≤ 9) :
    ∃ w' a' b' c', Wn n w' ∧ Short n 19 w' ∧ Al n w w' ∧ w'.length ≤ 29 ∧ Pot (k + 30) a' b' c' ∧ R_law_p_moved [pt a b c, .int m, I w, .int 10] = .ok (I w') [pt a' b' c', .int m, .hole, .int 10] := by
  have h10 : (rgI 0 10).length = 10 := by decide
  obtain ⟨w', a', b', c', y4, y5, y6, y7, y8, h1, h2, h3, h4, h5, e⟩ := moved_loop m n hm h6 (.int 10) (rgI 0 10) k 9 a b c w .hole .hole .hole .hole .hole (by omega) hp hw ((Short.of_len hw).more hl) (by omega)
  rw [h10] at h2 h4 h5
  refine ⟨w', a', b', c', h1, h2, h3, by omega, h5, ?_⟩
  have hr : rngL 0 10 = (rgI 0 10).map .int := rngL_rgI _ _
  have hb1 : -(2 ^ 62) ≤ (10 : Int) ∧ (10 : Int) < 2 ^ 62 := by decide
  simp [R_law_p_moved, ev__law_p_moved, -Int.reducePow, -Int.reduceNeg, hb1, hr, e]
end G70

namespace G70
open PySem PySem.Spec PyProof.Rows L2 L3
theorem W.wn {m : Int} {n : Nat} (hm : m = n) {w : List Int} (h : W m w) : Wn n w := fun p hp => by have := h p hp; exact ⟨this.2.2, by omega⟩
theorem Wn.w {m : Int} {n : Nat} (hm : m = n) {w : List Int} (h : Wn n w) : W m w := fun p hp => by have := h p hp; exact ⟨by omega, by omega, this.1⟩
theorem lo_pre (d : Int) : ∀ (w row u v : List Int), lo d row w = u ++ v → ∃ x y, w = x ++ y ∧ lo d row x = u
  | [], row, u, v, h => by
    have : u = [] := by simp only [lo] at h; exact (List.append_eq_nil_iff.mp h.symm).1
    subst this
    exact ⟨[], [], rfl, rfl⟩
  | p :: w, row, u, v, h => by
    simp only [lo] at h
    by_cases hc : d = row.getD (p.natAbs - 1) 0 ∨ d = row.getD (p.natAbs - 1 + 1) 0
    · rw [if_pos hc] at h
      obtain ⟨x, y, h1, h2⟩ := lo_pre d w _ u v h
      exact ⟨p :: x, y, by rw [h1]; rfl, by simp only [lo]; rw [if_pos hc]; exact h2⟩
    · rw [if_neg hc] at h
      cases u with
      | nil => exact ⟨[], p :: w, rfl, rfl⟩
      | cons q u =>
        simp only [List.cons_append, List.cons.injEq] at h
        obtain ⟨x, y, h1, h2⟩ := lo_pre d w _ u v h.2
        exact ⟨p :: x, y, by rw [h1]; rfl, by simp only [lo]; rw [if_neg hc, h2, h.1]⟩
theorem short_len {n K : Nat} (hn : 1 ≤ n ∧ n ≤ 5) (hK : K ≤ 19) {w row : List Int} {d : Int} (hw : Wn n w) (hs : Short n K w) (hr : Row n row) (hd : d ∈ row) :
    ∀ u v, lo d row w = u ++ v → ∀ l ∈ loops (lp0 (n - 1)) u, l.length ≤ 5000000 := by
  intro u v h l hl
  obtain ⟨x, y, e1, e2⟩ := lo_pre d w row u v h
  obtain ⟨x', a, b, c⟩ := hs x y e1
  have e := c.lps row d (lp0 (n - 1)) hr hd (lp0_red _) (by rw [lp0_len]; omega)
  rw [e2] at e
  rw [e] at hl
  have hv := lo_word a hr hd
  have h1 := len_lo d x' row
  have := len_loops (m := n - 1) (by omega) (w := lo d row x') (fun p hp => by have := hv p hp; exact ⟨this.1, by omega⟩) (by omega) l hl
  omega
theorem lo_same {m : Int} {n K K' : Nat} (hm : m = n) (hn : 3 ≤ n ∧ n ≤ 5) (hK : K ≤ 19) (hK' : K' ≤ 19) {w w' row : List Int} {d : Int} (hw : Wn n w) (hw' : Wn n w') (hs : Short n K w) (hs' : Short n K' w') (ha : Al n w w') (hl : w.length ≤ 200) (hl' : w'.length ≤ 200) (hr : Row n row) (hd : d ∈ row) :
    R_law_p_same [.int (m - 1), I (lo d row w), I (lo d row w')] = .ok (.bl true) [.int (m - 1), I (lo d row w), I (lo d row w')] := by
  have l1 := len_lo d w row
  have l2 := len_lo d w' row
  have v1 := lo_word hw hr hd
  have v2 := lo_word hw' hr hd
  refine r_same (m - 1) (n - 1) (by omega) (by omega) _ _ (by omega) (by omega) (fun p hp => by have := v1 p hp; exact ⟨this.1, by omega⟩) (fun p hp => by have := v2 p hp; exact ⟨this.1, by omega⟩)
    (short_len (by omega) hK hw hs hr hd) (short_len (by omega) hK' hw' hs' hr hd) (ha.lps row d _ hr hd (lp0_red _) (by rw [lp0_len]; omega))
theorem del_row0 {m d : Int} (hm : 3 ≤ m ∧ m ≤ 5) (hd : 0 ≤ d ∧ d < m) : del d (row0 m) = row0 (m - 1) := by
  have : m = 3 ∨ m = 4 ∨ m = 5 := by omega
  rcases this with rfl | rfl | rfl
  · have : d = 0 ∨ d = 1 ∨ d = 2 := by omega
    rcases this with rfl | rfl | rfl <;> decide
  · have : d = 0 ∨ d = 1 ∨ d = 2 ∨ d = 3 := by omega
    rcases this with rfl | rfl | rfl | rfl <;> decide
  · have : d = 0 ∨ d = 1 ∨ d = 2 ∨ d = 3 ∨ d = 4 := by omega
    rcases this with rfl | rfl | rfl | rfl | rfl <;> decide
theorem lo_small {m : Int} {n : Nat} (hm : m = n) (hn : n ≤ 6) {w row : List Int} {d : Int} (hw : Wn n w) (hr : Row n row) (hd : d ∈ row) : ∀ i ∈ lo d row w, -6 ≤ i ∧ i ≤ 6 := fun i hi => by
  have := lo_word hw hr hd i hi
  omega
theorem one_loop (m : Int) (n : Nat) (hm : m = n) (h3 : 3 ≤ m ∧ m ≤ 5) (w : List Int) (hw : Wn n w) (hl : w.length ≤ 100) (s0 s3 s4 s6 s7 s8 s9 : Vl) : ∀ (xs : List Int) (s5 : Vl), (∀ d ∈ xs, 0 ≤ d ∧ d < m) → ∃ y5, forF (gNm 5) lp__law_right_1 (xs.map .int) [s0, .int m, I w, s3, s4, s5, s6, s7, s8, s9] = .ok .nx [s0, .int m, I w, s3, s4, y5, s6, s7, s8, s9]
  | [], s5, _ => ⟨s5, by simp⟩
  | d :: xs, s5, h => by
    have hd := h d (by simp)
    obtain ⟨y5, e⟩ := one_loop m n hm h3 w hw hl s0 s3 s4 s6 s7 s8 s9 xs (.int d) fun x hx => h x (by simp [hx])
    have e1 := r_left_out m d n hm (by omega) w (hw.w hm) (by omega) hd
    have e2 := r_own m d n hm (by omega) w (hw.w hm) (by omega)
    obtain ⟨s, es⟩ := repr_I (lo d (row0 m) w) (lo_small hm (by omega) hw (row0_ok hm) (mem_rgI.mpr hd)) (by have := len_lo d w (row0 m); omega)
    refine ⟨y5, ?_⟩
    have t : lp__law_right_1 [s0, .int m, I w, s3, s4, .int d, s6, s7, s8, s9] = .ok .nx [s0, .int m, I w, s3, s4, .int d, s6, s7, s8, s9] := by
      simp [lp__law_right_1, e1, e2, es]
    simp only [List.map_cons, x_for1, x_gNm, List.length_cons, List.length_nil, List.set_cons_succ, List.set_cons_zero]
    rw [if_pos (by omega), x_forT, t, bind_ok, x_kForT, e]
theorem other_comp (m d : Int) (s0 s2 s3 s6 s7 s8 s9 : Vl) (xs : List Int) : lcF [5] (gNm 5) ct__law_right_2 ce__law_right_3 (xs.map .int) [s0, .int m, s2, s3, .int d, .hole, s6, s7, s8, s9] [] = .ok ((xs.filter fun x => decide (x ≠ d)).map .int) [s0, .int m, s2, s3, .int d, .hole, s6, s7, s8, s9] := by
  rw [lcF_ints (fun x => if x = d then none else some (.int x)) _ []]
  · congr 1
    rw [List.nil_append, ← List.filterMap_eq_filter, List.map_filterMap]
    refine filterMap_same fun x _ => ?_
    by_cases e : x = d <;> simp [e, Option.guard]
  · intro x hx
    by_cases e : x = d <;> simp [lc1, ct__law_right_2, ce__law_right_3, e]
end G70

namespace G70
open PySem PySem.Spec PyProof.Rows L2 L3
theorem r_right (k : Nat) (hk : k + 1000 ≤ 1000000) (a b c : Int) (hp : Pot k a b c) : ∃ a' b' c', Pot (k + 1000) a' b' c' ∧ R_law_right [pt a b c] = .ok (.bl true) [pt a' b' c'] := by
  obtain ⟨d3, a1, b1, c1, p1, t0, t1, T1⟩ := r_take k (by omega) a b c 3 hp (by omega)
  obtain ⟨m, hm3⟩ : ∃ m, m = 3 + d3 := ⟨_, rfl⟩
  obtain ⟨n, hm⟩ : ∃ n : Nat, m = n := ⟨m.toNat, by omega⟩
  have h35 : 3 ≤ m ∧ m ≤ 5 := by omega
  have h26 : 2 ≤ m ∧ m ≤ 6 := by omega
  obtain ⟨w, a2, b2, c2, p2, wl, wW, T2⟩ := r_p_word (k + 1) a1 b1 c1 m 9 h26 (by omega) (by omega) p1
  have hw := wW.wn hm
  have hwl : w.length ≤ 9 := by omega
  obtain ⟨w', a3, b3, c3, hw', hs', hal, hl', p3, T3⟩ := r_moved m n hm h26 (k + 1 + 200) (by omega) a2 b2 c2 w p2 hw hwl
  obtain ⟨d, a4, b4, c4, p4, d0, d1, T4⟩ := r_take (k + 1 + 200 + 30) (by omega) a3 b3 c3 m p3 (by omega)
  have hdm : 0 ≤ d ∧ d < m := ⟨d0, d1⟩
  have hr0 := row0_ok hm
  have hd : d ∈ row0 m := mem_rgI.mpr hdm
  have L1 := r_left_out m d n hm (by omega) w (hw.w hm) (by omega) hdm
  have L2' := r_left_out m d n hm (by omega) w' (hw'.w hm) (by omega) hdm
  have hsame := lo_same (d := d) hm (by omega) (by omega) (by omega) hw hw' (Short.of_len hw |>.more hwl) hs' hal (by omega) (by omega) hr0 hd
  have hr : rngL 0 m = (rgI 0 m).map .int := rngL_rgI _ _
  have hb1 : -(2 ^ 62) ≤ m ∧ m < 2 ^ 62 := by omega
  have hlr : (rgI 0 m).length < 16777216 := by rw [len_rgI]; omega
  obtain ⟨y5, E⟩ := one_loop m n hm h35 w hw (by omega) (pt a4 b4 c4) (I w') (.int d) .hole .hole .hole .hole (rgI 0 m) .hole (fun x hx => mem_rgI.mp hx)
  have hm3' := hm3.symm
  by_cases hq : m = 3
  · have e3 : eqV3 (.int m) (.int 3) = some (.bl true) := by simp [hq]
    refine ⟨a4, b4, c4, p4.more (by omega), ?_⟩
    simp [R_law_right, ev__law_right, -Int.reducePow, -Int.reduceNeg, -eqI, T1, hm3', T2, T3, T4, hb1, hr, hlr, E, L1, L2', hsame, e3]
  · have e3 : eqV3 (.int m) (.int 3) = some (.bl false) := by simp [hq]
    have hfl : ∀ x ∈ (rgI 0 m).filter fun x => decide (x ≠ d), 0 ≤ x ∧ x < m ∧ x ≠ d := fun x hx => by
      rw [List.mem_filter, mem_rgI] at hx
      exact ⟨hx.1.1, hx.1.2, by simpa using hx.2⟩
    have hfp : 0 < ((rgI 0 m).filter fun x => decide (x ≠ d)).length ∧ ((rgI 0 m).filter fun x => decide (x ≠ d)).length ≤ 1000 := by
      refine ⟨List.length_pos_of_mem (a := if d = 0 then 1 else 0) (List.mem_filter.mpr ⟨mem_rgI.mpr (by split <;> omega), by simp only [decide_eq_true_eq]; split <;> omega⟩), Nat.le_trans (List.length_filter_le _ _) ?_⟩
      rw [len_rgI]; omega
    obtain ⟨o, a5, b5, c5, p5, ho, T5⟩ := r_of (k + 1 + 200 + 30 + 1) (by omega) a4 b4 c4 _ p4 hfp
    obtain ⟨o0, o1, od⟩ := hfl o ho
    have hoc := other_comp m d
    have hor : o ∈ row0 m := mem_rgI.mpr ⟨o0, o1⟩
    have L3' := r_left_out m o n hm (by omega) w (hw.w hm) (by omega) ⟨o0, o1⟩
    have v1 := lo_word hw hr0 hd
    have v2 := lo_word hw hr0 hor
    have g1 := len_lo d w (row0 m)
    have g2 := len_lo o w (row0 m)
    have w1 : Wn (n - 1) (lo d (row0 m) w) := fun p hp => by have := v1 p hp; exact ⟨this.1, by omega⟩
    have w2 : Wn (n - 1) (lo o (row0 m) w) := fun p hp => by have := v2 p hp; exact ⟨this.1, by omega⟩
    have hm' : m - 1 = ((n - 1 : Nat) : Int) := by omega
    have rd : 0 ≤ rel d o ∧ rel d o < m - 1 := by unfold rel; split <;> omega
    have ro : 0 ≤ rel o d ∧ rel o d < m - 1 := by unfold rel; split <;> omega
    have M1 := r_left_out (m - 1) (rel d o) (n - 1) hm' (by omega) (lo d (row0 m) w) (w1.w hm') (by omega) rd
    have M2 := r_left_out (m - 1) (rel o d) (n - 1) hm' (by omega) (lo o (row0 m) w) (w2.w hm') (by omega) ro
    have hr1 := row0_ok hm'
    have key : lo (rel o d) (row0 (m - 1)) (lo o (row0 m) w) = lo (rel d o) (row0 (m - 1)) (lo d (row0 m) w) := by
      have := both_ways (fun z => od z) hw hr0 hor hd
      rw [del_row0 h35 hdm, del_row0 h35 ⟨o0, o1⟩] at this
      exact this
    rw [key] at M2
    obtain ⟨s, es⟩ := repr_I (lo (rel d o) (row0 (m - 1)) (lo d (row0 m) w)) (lo_small hm' (by omega) w1 hr1 (mem_rgI.mpr rd)) (by have := len_lo (rel d o) (lo d (row0 m) w) (row0 (m - 1)); omega)
    have q1 : rel d o = o - (if d < o then 1 else 0) := rfl
    have q2 : rel o d = d - (if o < d then 1 else 0) := rfl
    rw [q1] at M1 M2 es
    rw [q2] at M2
    refine ⟨a5, b5, c5, p5.more (by omega), ?_⟩
    simp only [ne_eq, decide_not, Ls] at T5
    simp [R_law_right, ev__law_right, -Int.reducePow, -Int.reduceNeg, -eqI, T1, hm3', T2, T3, T4, hb1, hr, hlr, E, L1, L2', hsame, e3, hoc, T5, M1, M2, L3', es]
end G70

namespace G70
open PySem PySem.Spec PyProof.Rows L2 L3
theorem all_comp (s0 s1 : Vl) : ∀ (xs : List Int) (k : Nat) (a b c : Int) (acc : List Bool), k + 1000 * xs.length ≤ 1000000 → Pot k a b c → ∃ a' b' c', lcF [3] (gNm 3) tTrue ce_law_1 (xs.map .int) [s0, s1, pt a b c, .hole] (acc.map .bl) = .ok ((acc ++ xs.map fun _ => true).map .bl) [s0, s1, pt a' b' c', .hole]
  | [], k, a, b, c, acc, _, _ => ⟨a, b, c, by simp⟩
  | x :: xs, k, a, b, c, acc, hk, h => by
    simp only [List.length_cons] at hk
    obtain ⟨a1, b1, c1, p1, e⟩ := r_right k (by omega) a b c h
    obtain ⟨a', b', c', e2⟩ := all_comp s0 s1 xs (k + 1000) a1 b1 c1 (acc ++ [true]) (by omega) p1
    refine ⟨a', b', c', ?_⟩
    rw [List.map_cons, lcF_turn (o := some (.bl true)) (s' := [s0, s1, pt a1 b1 c1, .hole])]
    · simpa using e2
    · simp [lc1, ce_law_1, e]
theorem law_turn (ns : List Int) (place : Int) (hpl : 0 ≤ place ∧ place ≤ 100) (x2 : Vl) : ∃ y2, lp_law_2 [.sc ns, .int place, x2, .hole] = .ok .nx [.sc ns, .int place, y2, .hole] := by
  obtain ⟨a, b, h, e⟩ := r_pot ns place hpl
  have h4 : (rgI 0 4).length = 4 := by decide
  obtain ⟨a', b', c', e2⟩ := all_comp (.sc ns) (.int place) (rgI 0 4) 0 a b 0 [] (by omega) h
  have hr : rngL 0 4 = (rgI 0 4).map .int := rngL_rgI _ _
  have hb1 : -(2 ^ 62) ≤ (4 : Int) ∧ (4 : Int) < 2 ^ 62 := by decide
  have hl : (rgI 0 4).length < 16777216 := by omega
  have hb : blsOf (((rgI 0 4).map fun _ => true).map Vl.bl) = some ((rgI 0 4).map fun _ => true) := blsOf_map _
  have ha : ((rgI 0 4).map fun _ => true).all id = true := by decide
  simp only [List.map_nil, List.nil_append] at e2
  generalize ((rgI 0 4).map fun _ => true) = bs at *
  exact ⟨_, by simp [lp_law_2, -Int.reducePow, -Int.reduceNeg, e, hb1, hr, hl, e2, hb, ha]; rfl⟩
theorem law_loop (ns : List Int) : ∀ (xs : List Int) (x1 x2 : Vl), (∀ x ∈ xs, 0 ≤ x ∧ x ≤ 100) → ∃ y1 y2, forF (gNm 1) lp_law_2 (xs.map .int) [.sc ns, x1, x2, .hole] = .ok .nx [.sc ns, y1, y2, .hole]
  | [], x1, x2, _ => ⟨x1, x2, by simp⟩
  | x :: xs, x1, x2, h => by
    obtain ⟨y2, e⟩ := law_turn ns x (h x (by simp)) x2
    obtain ⟨z1, z2, e2⟩ := law_loop ns xs (.int x) y2 fun y hy => h y (by simp [hy])
    refine ⟨z1, z2, ?_⟩
    simp only [List.map_cons, x_for1, x_gNm, List.length_cons, List.length_nil, List.set_cons_succ, List.set_cons_zero]
    rw [if_pos (by omega), x_forT, e, bind_ok, x_kForT, e2]
theorem r_law (ns : List Int) (hl : ns.length ≤ 63) : ∃ outs, R_law [.sc ns] = .ok (.bl true) outs := by
  obtain ⟨mn, hmn⟩ : ∃ mn : Int, mn = if (ns.length : Int) < 3 then (ns.length : Int) else 3 := ⟨_, rfl⟩
  obtain ⟨mx, hmx⟩ : ∃ mx : Int, mx = if 1 < mn then mn else 1 := ⟨_, rfl⟩
  have hb : 1 ≤ mx ∧ mx ≤ 3 := by
    have hn3 : mn ≤ 3 := by
      rw [hmn]
      split <;> omega
    rw [hmx]
    split <;> omega
  have hrg : rgC 0 mx := by unfold rgC; omega
  have hr : rngL 0 mx = (rgI 0 mx).map .int := rngL_rgI _ _
  have hp : R_law_places [.sc ns, .int 3] = .ok (.lst true ((rgI 0 mx).map .int)) [.sc ns, .int 3] := by
    simp [R_law_places, ev__law_places, ← hmn, ← hmx, lrg1, hrg, hr]
  obtain ⟨y1, y2, e⟩ := law_loop ns (rgI 0 mx) .hole .hole fun x hx => by have := mem_rgI.mp hx; omega
  exact ⟨_, by simp [R_law, ev_law, hp, e]; rfl⟩
end G70

open PySem PySem.W PyProof.Rows
set_option maxHeartbeats 0 in
theorem PySem.Challenge.cw_sameribbons_k70_whole_one_ribbon_less_holds : PySem.Challenge.rw_sameribbons_k70_whole_one_ribbon_less.Holds := by
  w_on; o_law; k_head; (case hw => w_witness2)
  k_fill
  refine L3.walk3 (l := PySem.Challenge.rw_sameribbons_k70_whole_one_ribbon_less) (n := 63) (k := 9) (x := "script") (F := G70.R_law) rfl (by decide) rfl ⟨rfl, by decide, by decide⟩ (fun w h Y => PySem.W.kIn_of Y) ?F (fun ns h => G70.r_law ns h)
  case F =>
    intro w mg fa h KX G hmg
    refine' G70.fin (G70.lay KX G ?a_is_whole ?l_is_whole ?c_is_whole ?k_is_whole ?a_is_integer ?l_is_integer ?c_is_integer ?k_is_integer ?a_is_many ?l_is_many ?c_is_many ?k_is_many ?a_check_many ?l_check_many ?c_check_many ?k_check_many ?a_is_passing ?l_is_passing ?c_is_passing ?k_is_passing ?a_is_row ?l_is_row ?c_is_row ?k_is_row ?a_is_word ?l_is_word ?c_is_word ?k_is_word ?a_check_word ?l_check_word ?c_check_word ?k_check_word ?a_passed ?l_passed ?c_passed ?k_passed ?a_check_dancer ?l_check_dancer ?c_check_dancer ?k_check_dancer ?a_left_out ?l_left_out ?c_left_out ?k_left_out ?a__law_pot ?l__law_pot ?c__law_pot ?k__law_pot ?a__law_take ?l__law_take ?c__law_take ?k__law_take ?a__law_of ?l__law_of ?c__law_of ?k__law_of ?a__law_places ?l__law_places ?c__law_places ?k__law_places ?a__law_p_word ?l__law_p_word ?c__law_p_word ?k__law_p_word ?a__law_p_back ?l__law_p_back ?c__law_p_back ?k__law_p_back ?a__law_p_freed ?l__law_p_freed ?c__law_p_freed ?k__law_p_freed ?a__law_p_loops ?l__law_p_loops ?c__law_p_loops ?k__law_p_loops ?a__law_p_same ?l__law_p_same ?c__law_p_same ?k__law_p_same ?a__law_p_moved ?l__law_p_moved ?c__law_p_moved ?k__law_p_moved ?a__law_left_out ?l__law_left_out ?c__law_left_out ?k__law_left_out ?a__law_right ?l__law_right ?c__law_right ?k__law_right ?a_law ?l_law ?c_law ?k_law ?z_abs ?z_all ?z_bool ?z_int ?z_isinstance ?z_len ?z_list ?z_max ?z_min ?z_range ?z_repr ?z_sum ?z_tuple ?g_LEAST_MANY_words ?g_MOST_MANY ?g_MOST_WORD ?g_LEAST_MANY_dances) hmg
    (case a_is_whole => k_is); (case l_is_whole => k_is); (case c_is_whole => k_is); (case k_is_whole => k_is); (case a_is_integer => k_is); (case l_is_integer => k_is); (case c_is_integer => k_is); (case k_is_integer => k_is); (case a_is_many => k_is); (case l_is_many => k_is); (case c_is_many => k_is); (case k_is_many => k_is); (case a_check_many => k_is); (case l_check_many => k_is); (case c_check_many => k_is); (case k_check_many => k_is); (case a_is_passing => k_is); (case l_is_passing => k_is); (case c_is_passing => k_is); (case k_is_passing => k_is); (case a_is_row => k_is); (case l_is_row => k_is); (case c_is_row => k_is); (case k_is_row => k_is); (case a_is_word => k_is); (case l_is_word => k_is); (case c_is_word => k_is); (case k_is_word => k_is); (case a_check_word => k_is); (case l_check_word => k_is); (case c_check_word => k_is); (case k_check_word => k_is); (case a_passed => k_is); (case l_passed => k_is); (case c_passed => k_is); (case k_passed => k_is); (case a_check_dancer => k_is); (case l_check_dancer => k_is); (case c_check_dancer => k_is); (case k_check_dancer => k_is); (case a_left_out => k_is); (case l_left_out => k_is); (case c_left_out => k_is); (case k_left_out => k_is); (case a__law_pot => k_is); (case l__law_pot => k_is); (case c__law_pot => k_is); (case k__law_pot => k_is); (case a__law_take => k_is); (case l__law_take => k_is); (case c__law_take => k_is); (case k__law_take => k_is); (case a__law_of => k_is); (case l__law_of => k_is); (case c__law_of => k_is); (case k__law_of => k_is); (case a__law_places => k_is); (case l__law_places => k_is); (case c__law_places => k_is); (case k__law_places => k_is); (case a__law_p_word => k_is); (case l__law_p_word => k_is); (case c__law_p_word => k_is); (case k__law_p_word => k_is); (case a__law_p_back => k_is); (case l__law_p_back => k_is); (case c__law_p_back => k_is); (case k__law_p_back => k_is); (case a__law_p_freed => k_is); (case l__law_p_freed => k_is); (case c__law_p_freed => k_is); (case k__law_p_freed => k_is); (case a__law_p_loops => k_is); (case l__law_p_loops => k_is); (case c__law_p_loops => k_is); (case k__law_p_loops => k_is); (case a__law_p_same => k_is); (case l__law_p_same => k_is); (case c__law_p_same => k_is); (case k__law_p_same => k_is); (case a__law_p_moved => k_is); (case l__law_p_moved => k_is); (case c__law_p_moved => k_is); (case k__law_p_moved => k_is); (case a__law_left_out => k_is); (case l__law_left_out => k_is); (case c__law_left_out => k_is); (case k__law_left_out => k_is); (case a__law_right => k_is); (case l__law_right => k_is); (case c__law_right => k_is); (case k__law_right => k_is); (case a_law => k_is); (case l_law => k_is); (case c_law => k_is); (case k_law => k_is); (case z_abs => k_is); (case z_all => k_is); (case z_bool => k_is); (case z_int => k_is); (case z_isinstance => k_is); (case z_len => k_is); (case z_list => k_is); (case z_max => k_is); (case z_min => k_is); (case z_range => k_is); (case z_repr => k_is); (case z_sum => k_is); (case z_tuple => k_is); (case g_LEAST_MANY_words => k_is); (case g_MOST_MANY => k_is); (case g_MOST_WORD => k_is); (case g_LEAST_MANY_dances => k_is)


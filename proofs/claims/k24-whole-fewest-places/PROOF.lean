import PyProof.Rows.All
import Wide.All
import OpenK.AllK
import Wide.FinOn
import KE.KStateDown
import KE.SortData
import KE.DataCmp
import KE.GoesMore
import Lean
import HandS.ForMost
import HandS.More
import HandS.Walk
import HandS.Conv
import HandS.TupAny
import HandS.TupLe
import HandS.IsInst
import HandS.Defaults
import PySem.Challenge.RW_littowers_k24_whole_fewest_places
import HandS.Head0
import HandS.Head1
import HandS.Head2
import HandS.HeadEnd
import HandS.HeadHook1
import HandS.HeadHook2
namespace Lk
/-! ### nets, walks, distances: plain Lean -/
abbrev Rod := Nat × Nat × Nat
inductive Wk (rods : List Rod) (i : Nat) : Nat → Nat → Prop
  | nil : Wk rods i i 0
  | fwd {a b l d : Nat} : Wk rods i a d → (a, b, l) ∈ rods → Wk rods i b (d + l)
  | bwd {a b l d : Nat} : Wk rods i b d → (a, b, l) ∈ rods → Wk rods i a (d + l)
structure NetOk (n : Nat) (rods : List Rod) : Prop where
  n1 : 1 ≤ n
  n8 : n ≤ 8
  rod : ∀ a b l, (a, b, l) ∈ rods → a < b ∧ b < n ∧ 1 ≤ l ∧ l ≤ 9
  tree : ∀ j, 1 ≤ j → j < n → ∃ i l, i < j ∧ (i, j, l) ∈ rods
  asc : rods.Pairwise fun p q => p.1 < q.1 ∨ (p.1 = q.1 ∧ p.2.1 < q.2.1)
  few : rods.length ≤ 28
section
variable {n : Nat} {rods : List Rod} {i j k d e : Nat}
theorem Wk.of (h : d = e) (x : Wk rods i j d) : Wk rods i j e := h ▸ x
theorem Wk.trans (x : Wk rods i j d) (y : Wk rods j k e) : Wk rods i k (d + e) := by
  induction y with
  | nil => exact x
  | fwd _ h ih => exact (Wk.fwd ih h).of (by omega)
  | bwd _ h ih => exact (Wk.bwd ih h).of (by omega)
theorem Wk.rev (x : Wk rods i j d) : Wk rods j i d := by
  induction x with
  | nil => exact .nil
  | fwd _ h ih => exact ((Wk.bwd Wk.nil h).trans ih).of (by omega)
  | bwd _ h ih => exact ((Wk.fwd Wk.nil h).trans ih).of (by omega)
theorem NetOk.lt (N : NetOk n rods) (hi : i < n) (x : Wk rods i j d) : j < n := by
  induction x with
  | nil => exact hi
  | fwd _ h _ => exact (N.rod _ _ _ h).2.1
  | bwd _ h _ =>
    have := N.rod _ _ _ h
    omega
theorem NetOk.root (N : NetOk n rods) : ∀ j, j < n → ∃ d, d ≤ 9 * j ∧ Wk rods 0 j d := by
  intro j
  induction j using Nat.strongRecOn with
  | _ j ih =>
    intro hj
    by_cases h : j = 0
    · subst h
      exact ⟨0, Nat.le_refl _, .nil⟩
    · obtain ⟨i, l, hi, hm⟩ := N.tree j (by omega) hj
      obtain ⟨d, hd, x⟩ := ih i hi (by omega)
      have := N.rod _ _ _ hm
      exact ⟨d + l, by omega, .fwd x hm⟩
theorem NetOk.conn (N : NetOk n rods) (hi : i < n) (hj : j < n) : ∃ d, d ≤ 126 ∧ Wk rods i j d := by
  obtain ⟨d, hd, x⟩ := N.root i hi
  obtain ⟨e, he, y⟩ := N.root j hj
  have := N.n8
  exact ⟨d + e, by omega, x.rev.trans y⟩

structure IsDist (n : Nat) (rods : List Rod) (T : Nat → Nat → Nat) : Prop where
  diag : ∀ i, i < n → T i i = 0
  rel : ∀ i a b l, i < n → (a, b, l) ∈ rods → T i b ≤ T i a + l ∧ T i a ≤ T i b + l
  wk : ∀ i j, i < n → j < n → Wk rods i j (T i j)
section
variable {T U : Nat → Nat → Nat}
theorem IsDist.le (I : IsDist n rods T) (hi : i < n) (x : Wk rods i j d) : T i j ≤ d := by
  induction x with
  | nil => rw [I.diag i hi]; exact Nat.le_refl _
  | fwd _ h ih =>
    have := (I.rel i _ _ _ hi h).1
    omega
  | bwd _ h ih =>
    have := (I.rel i _ _ _ hi h).2
    omega
theorem IsDist.uniq (I : IsDist n rods T) (J : IsDist n rods U) (hi : i < n) (hj : j < n) : T i j = U i j :=
  Nat.le_antisymm (I.le hi (J.wk i j hi hj)) (J.le hi (I.wk i j hi hj))
theorem IsDist.symm (I : IsDist n rods T) (hi : i < n) (hj : j < n) : T i j = T j i :=
  Nat.le_antisymm (I.le hi (I.wk j i hj hi).rev) (I.le hj (I.wk i j hi hj).rev)
theorem IsDist.small (I : IsDist n rods T) (N : NetOk n rods) (hi : i < n) (hj : j < n) : T i j ≤ 126 := by
  obtain ⟨d, hd, x⟩ := N.conn hi hj
  exact Nat.le_trans (I.le hi x) hd
theorem IsDist.pos (I : IsDist n rods T) (N : NetOk n rods) (hi : i < n) (hj : j < n) (h : i ≠ j) : 1 ≤ T i j := by
  have x := I.wk i j hi hj
  generalize T i j = e at x
  cases x with
  | nil => exact absurd rfl h
  | fwd _ m =>
    have := N.rod _ _ _ m
    omega
  | bwd _ m =>
    have := N.rod _ _ _ m
    omega
/-- the last rod of a shortest way -/
theorem IsDist.last (I : IsDist n rods T) (N : NetOk n rods) (hi : i < n) (hj : j < n) (h : i ≠ j) :
    ∃ y l, y < n ∧ 1 ≤ l ∧ T i j = T i y + l ∧ ((y, j, l) ∈ rods ∨ (j, y, l) ∈ rods) := by
  have x := I.wk i j hi hj
  generalize e : T i j = t at x
  cases x with
  | nil => exact absurd rfl h
  | @fwd a _ l d x m =>
    have ha := N.lt hi x
    have r := I.rel i _ _ _ hi m
    have q := I.le hi x
    have := N.rod _ _ _ m
    exact ⟨a, l, ha, by omega, by omega, .inl m⟩
  | @bwd _ b l d x m =>
    have ha := N.lt hi x
    have r := I.rel i _ _ _ hi m
    have q := I.le hi x
    have := N.rod _ _ _ m
    exact ⟨b, l, ha, by omega, by omega, .inr m⟩
end

/-! ### the package's table -/
def upd2 (T : Nat → Nat → Nat) (a b v : Nat) : Nat → Nat → Nat := fun i j => if i = a ∧ j = b then v else T i j
theorem upd2_at {T : Nat → Nat → Nat} {a b v : Nat} : upd2 T a b v a b = v := by simp [upd2]
theorem upd2_ne {T : Nat → Nat → Nat} {a b v i j : Nat} (h : ¬ (i = a ∧ j = b)) : upd2 T a b v i j = T i j := by simp [upd2, h]
def iniStep (T : Nat → Nat → Nat) (r : Rod) : Nat → Nat → Nat :=
  upd2 (upd2 T r.1 r.2.1 (min (T r.1 r.2.1) r.2.2)) r.2.1 r.1 (min (T r.1 r.2.1) r.2.2)
def ini0 : Nat → Nat → Nat := fun i j => if i = j then 0 else 9999
def ini (rods : List Rod) : Nat → Nat → Nat := rods.foldl iniStep ini0
def dk (rods : List Rod) : Nat → Nat → Nat → Nat
  | 0 => ini rods
  | k + 1 => fun i j => min (dk rods k i j) (dk rods k i k + dk rods k k j)
def dist (n : Nat) (rods : List Rod) : Nat → Nat → Nat := dk rods n
structure IniOk (rods ds : List Rod) (T : Nat → Nat → Nat) : Prop where
  diag : ∀ i, T i i = 0
  sym : ∀ i j, T i j = T j i
  wk : ∀ i j, 9999 ≤ T i j ∨ Wk rods i j (T i j)
  got : ∀ a b l, (a, b, l) ∈ ds → T a b ≤ l
theorem ini_start : IniOk rods [] ini0 := by
  refine ⟨fun i => by simp [ini0], fun i j => by simp [ini0, eq_comm], fun i j => ?_, fun _ _ _ h => nomatch h⟩
  by_cases h : i = j
  · subst h
    exact .inr (by simp only [ini0, if_true]; exact .nil)
  · exact .inl (by simp [ini0, h])
theorem ini_turn (N : NetOk n rods) {ds : List Rod} {T : Nat → Nat → Nat} (I : IniOk rods ds T) {r : Rod} (hr : r ∈ rods) : IniOk rods (ds ++ [r]) (iniStep T r) := by
  obtain ⟨a, b, l⟩ := r
  have q := N.rod a b l hr
  have key : ∀ i j, iniStep T (a, b, l) i j = if (i = a ∧ j = b) ∨ (i = b ∧ j = a) then min (T a b) l else T i j := by
    intro i j
    unfold iniStep upd2
    by_cases h1 : i = b ∧ j = a
    · simp [h1]
    · by_cases h2 : i = a ∧ j = b
      · obtain ⟨rfl, rfl⟩ := h2
        simp
      · simp [h1, h2]
  refine ⟨fun i => ?_, fun i j => ?_, fun i j => ?_, fun a' b' l' h => ?_⟩
  · rw [key, if_neg (by omega)]
    exact I.diag i
  · rw [key, key]
    by_cases h1 : (i = a ∧ j = b) ∨ (i = b ∧ j = a)
    · rw [if_pos h1, if_pos (by omega)]
    · rw [if_neg h1, if_neg (by omega)]
      exact I.sym i j
  · rw [key]
    by_cases h1 : (i = a ∧ j = b) ∨ (i = b ∧ j = a)
    · rw [if_pos h1]
      by_cases hle : T a b ≤ l
      · rw [Nat.min_eq_left hle]
        rcases h1 with ⟨rfl, rfl⟩ | ⟨rfl, rfl⟩
        · exact I.wk _ _
        · rw [I.sym]
          exact I.wk _ _
      · rw [Nat.min_eq_right (by omega)]
        right
        rcases h1 with ⟨rfl, rfl⟩ | ⟨rfl, rfl⟩
        · exact (Wk.fwd Wk.nil hr).of (by omega)
        · exact (Wk.bwd Wk.nil hr).of (by omega)
    · rw [if_neg h1]
      exact I.wk i j
  · rw [key]
    by_cases h1 : (a' = a ∧ b' = b) ∨ (a' = b ∧ b' = a)
    · rw [if_pos h1]
      rcases List.mem_append.mp h with h | h
      · have g := I.got _ _ _ h
        have s := I.sym a b
        rcases h1 with ⟨rfl, rfl⟩ | ⟨rfl, rfl⟩ <;> omega
      · have : (a', b', l') = (a, b, l) := by simpa using h
        simp only [Prod.mk.injEq] at this
        omega
    · rw [if_neg h1]
      rcases List.mem_append.mp h with h | h
      · exact I.got _ _ _ h
      · have : (a', b', l') = (a, b, l) := by simpa using h
        simp only [Prod.mk.injEq] at this
        omega
theorem ini_all (N : NetOk n rods) : ∀ (rs ds : List Rod) (T : Nat → Nat → Nat), (∀ r ∈ rs, r ∈ rods) → IniOk rods ds T → IniOk rods (ds ++ rs) (rs.foldl iniStep T)
  | [], ds, T, _, I => by simpa using I
  | r :: rs, ds, T, h, I => by
    have q := ini_all N rs (ds ++ [r]) (iniStep T r) (fun x hx => h x (List.mem_cons_of_mem _ hx)) (ini_turn N I (h r (List.mem_cons_self ..)))
    simpa using q
theorem ini_ok (N : NetOk n rods) : IniOk rods rods (ini rods) := by
  exact ini_all N rods [] ini0 (fun _ h => h) ini_start
theorem dk_diag (N : NetOk n rods) : ∀ k i, dk rods k i i = 0
  | 0, i => (ini_ok N).diag i
  | k + 1, i => by
    show min (dk rods k i i) _ = 0
    rw [dk_diag N k i]
    exact Nat.zero_min _
theorem dk_wk (N : NetOk n rods) : ∀ k i j, 9999 ≤ dk rods k i j ∨ Wk rods i j (dk rods k i j)
  | 0, i, j => (ini_ok N).wk i j
  | k + 1, i, j => by
    show 9999 ≤ min (dk rods k i j) (dk rods k i k + dk rods k k j) ∨ Wk rods i j (min (dk rods k i j) (dk rods k i k + dk rods k k j))
    by_cases h : dk rods k i j ≤ dk rods k i k + dk rods k k j
    · rw [Nat.min_eq_left h]
      exact dk_wk N k i j
    · rw [Nat.min_eq_right (by omega)]
      rcases dk_wk N k i k with h1 | h1
      · exact .inl (by omega)
      rcases dk_wk N k k j with h2 | h2
      · exact .inl (by omega)
      exact .inr (h1.trans h2)
theorem dk_le (k i j : Nat) : dk rods (k + 1) i j ≤ dk rods k i j := Nat.min_le_left _ _
theorem dk_le0 : ∀ k i j, dk rods k i j ≤ ini rods i j
  | 0, _, _ => Nat.le_refl _
  | k + 1, i, j => Nat.le_trans (dk_le k i j) (dk_le0 k i j)
theorem dk_row (k i : Nat) : dk rods (k + 1) i k = dk rods k i k := by
  show min (dk rods k i k) (dk rods k i k + dk rods k k k) = _
  omega
theorem dk_col (k j : Nat) : dk rods (k + 1) k j = dk rods k k j := by
  show min (dk rods k k j) (dk rods k k k + dk rods k k j) = _
  omega
theorem dk_tri (N : NetOk n rods) : ∀ k m, m < k → ∀ i j, dk rods k i j ≤ dk rods k i m + dk rods k m j
  | 0, _, h, _, _ => absurd h (Nat.not_lt_zero _)
  | k + 1, m, h, i, j => by
    by_cases e : m = k
    · subst e
      rw [dk_row, dk_col]
      exact Nat.min_le_right _ _
    · have ih := dk_tri N k m (by omega)
      have h1 := ih i j
      have h2 := ih i k
      have h3 := ih k j
      show min (dk rods k i j) (dk rods k i k + dk rods k k j) ≤ min (dk rods k i m) (dk rods k i k + dk rods k k m) + min (dk rods k m j) (dk rods k m k + dk rods k k j)
      omega
theorem dist_ok (N : NetOk n rods) : IsDist n rods (dist n rods) := by
  have tri : ∀ m, m < n → ∀ i j, dist n rods i j ≤ dist n rods i m + dist n rods m j := dk_tri N n
  have sym : ∀ i j, ini rods i j = ini rods j i := (ini_ok N).sym
  have rel : ∀ i a b l, i < n → (a, b, l) ∈ rods → dist n rods i b ≤ dist n rods i a + l ∧ dist n rods i a ≤ dist n rods i b + l := by
    intro i a b l hi h
    have q := N.rod a b l h
    have g := (ini_ok N).got a b l h
    have g1 : dist n rods a b ≤ ini rods a b := dk_le0 n a b
    have g2 : dist n rods b a ≤ ini rods b a := dk_le0 n b a
    have s := sym a b
    have t1 := tri a (by omega) i b
    have t2 := tri b (by omega) i a
    omega
  have diag : ∀ i, i < n → dist n rods i i = 0 := fun i _ => dk_diag N n i
  refine ⟨diag, rel, fun i j hi hj => ?_⟩
  rcases dk_wk N n i j with h | h
  · exfalso
    obtain ⟨d, hd, x⟩ := N.conn hi hj
    have le : ∀ j d, Wk rods i j d → dist n rods i j ≤ d := by
      intro j d x
      induction x with
      | nil => rw [diag i hi]; exact Nat.le_refl _
      | fwd _ h ih =>
        have := (rel i _ _ _ hi h).1
        omega
      | bwd _ h ih =>
        have := (rel i _ _ _ hi h).2
        omega
    have := le j d x
    have h' : 9999 ≤ dist n rods i j := h
    omega
  · exact h
end

/-! ### the law's table, by mending each rod again and again -/
theorem countP_lt {α : Type} {p q : α → Bool} : ∀ {l : List α}, (∀ x ∈ l, p x = true → q x = true) → (∃ x ∈ l, q x = true ∧ p x = false) → l.countP p < l.countP q
  | [], _, h => by
    obtain ⟨x, hx, _⟩ := h
    cases hx
  | y :: l, hpq, h => by
    have mono : l.countP p ≤ l.countP q := List.countP_mono_left fun x hx => hpq x (List.mem_cons_of_mem _ hx)
    rw [List.countP_cons, List.countP_cons]
    obtain ⟨x, hx, hq, hp⟩ := h
    rcases List.mem_cons.mp hx with rfl | hx
    · rw [if_pos hq, if_neg (by rw [hp]; exact Bool.false_ne_true)]
      omega
    · have ih := countP_lt (l := l) (fun z hz => hpq z (List.mem_cons_of_mem _ hz)) ⟨x, hx, hq, hp⟩
      by_cases c : p y = true
      · rw [if_pos c, if_pos (hpq y (List.mem_cons_self ..) c)]
        omega
      · rw [if_neg c]
        split <;> omega
def rank (n : Nat) (D : Nat → Nat → Nat) (p x : Nat) : Nat := (List.range n).countP fun y => decide (D p y < D p x)
section
variable {n : Nat} {rods : List Rod} {D T : Nat → Nat → Nat} {p x y : Nat}
theorem rank_lt (h : y < n) (hd : D p y < D p x) : rank n D p y < rank n D p x :=
  countP_lt (fun z _ hz => decide_eq_true (Nat.lt_trans (of_decide_eq_true hz) hd)) ⟨y, List.mem_range.mpr h, decide_eq_true hd, decide_eq_false (Nat.lt_irrefl _)⟩
theorem rank_n (h : x < n) : rank n D p x < n := by
  have := countP_lt (p := fun y => decide (D p y < D p x)) (q := fun _ => true) (l := List.range n) (fun _ _ _ => rfl) ⟨x, List.mem_range.mpr h, rfl, decide_eq_false (Nat.lt_irrefl _)⟩
  simpa [rank] using this
structure BfOk (rods : List Rod) (T : Nat → Nat → Nat) : Prop where
  diag : ∀ i, T i i = 0
  wk : ∀ i j, 999 ≤ T i j ∨ Wk rods i j (T i j)
def Prog (n : Nat) (D T : Nat → Nat → Nat) (r : Nat) : Prop := ∀ p x, p < n → x < n → rank n D p x ≤ r → T p x ≤ D p x
def RodDone (n : Nat) (D T : Nat → Nat → Nat) (r : Nat) (e : Rod) (p : Nat) : Prop :=
  (rank n D p e.2.1 ≤ r → T p e.1 ≤ D p e.2.1 + e.2.2) ∧ (rank n D p e.1 ≤ r → T p e.2.1 ≤ D p e.1 + e.2.2)
/-- in turn r: the rods of ds are done, e is done at the places below q -/
structure BfI (n : Nat) (rods : List Rod) (D T : Nat → Nat → Nat) (r : Nat) (ds : List Rod) (e : Rod) (q : Nat) : Prop where
  ok : BfOk rods T
  prog : Prog n D T r
  done : ∀ e' ∈ ds, ∀ p, p < n → RodDone n D T r e' p
  cur : ∀ p, p < q → RodDone n D T r e p
def bf0 : Nat → Nat → Nat := fun i j => if i = j then 0 else 999
def bfStep (T : Nat → Nat → Nat) (e : Rod) (p : Nat) : Nat → Nat → Nat :=
  let U := upd2 T p e.1 (min (T p e.1) (T p e.2.1 + e.2.2))
  upd2 U p e.2.1 (min (U p e.2.1) (U p e.1 + e.2.2))
theorem bf_start (N : NetOk n rods) (I : IsDist n rods D) : BfOk rods bf0 ∧ Prog n D bf0 0 := by
  refine ⟨⟨fun i => by simp [bf0], fun i j => ?_⟩, fun p x hp hx h => ?_⟩
  · by_cases h : i = j
    · subst h
      exact .inr (by simp only [bf0, if_true]; exact .nil)
    · exact .inl (by simp [bf0, h])
  · by_cases e : p = x
    · subst e
      simp [bf0]
    · have h1 := I.pos N hp hx e
      have h2 := I.diag p hp
      have := rank_lt (n := n) (D := D) (p := p) (x := x) hp (by omega)
      omega
theorem bf_key (e : Rod) (he : e.1 ≠ e.2.1) (q i j : Nat) : bfStep T e q i j =
    if i = q ∧ j = e.1 then min (T q e.1) (T q e.2.1 + e.2.2) else if i = q ∧ j = e.2.1 then min (T q e.2.1) (min (T q e.1) (T q e.2.1 + e.2.2) + e.2.2) else T i j := by
  have h1 : upd2 T q e.1 (min (T q e.1) (T q e.2.1 + e.2.2)) q e.2.1 = T q e.2.1 := upd2_ne (by omega)
  show upd2 (upd2 T q e.1 (min (T q e.1) (T q e.2.1 + e.2.2))) q e.2.1 (min (upd2 T q e.1 (min (T q e.1) (T q e.2.1 + e.2.2)) q e.2.1) (upd2 T q e.1 (min (T q e.1) (T q e.2.1 + e.2.2)) q e.1 + e.2.2)) i j = _
  rw [h1, upd2_at]
  unfold upd2
  by_cases c1 : i = q ∧ j = e.1
  · have : ¬ (i = q ∧ j = e.2.1) := by omega
    simp [c1, he]
  · by_cases c2 : i = q ∧ j = e.2.1
    · rw [if_pos c2, if_neg c1, if_pos c2]
    · simp [c1, c2]
theorem bf_le (e : Rod) (he : e.1 ≠ e.2.1) (q i j : Nat) : bfStep T e q i j ≤ T i j := by
  rw [bf_key e he]
  split
  · rename_i h
    rw [h.1, h.2]
    exact Nat.min_le_left _ _
  · split
    · rename_i h
      rw [h.1, h.2]
      exact Nat.min_le_left _ _
    · exact Nat.le_refl _
theorem RodDone.mono {T' : Nat → Nat → Nat} {r : Nat} {e : Rod} (h : RodDone n D T r e p) (le : ∀ i j, T' i j ≤ T i j) : RodDone n D T' r e p :=
  ⟨fun c => Nat.le_trans (le _ _) (h.1 c), fun c => Nat.le_trans (le _ _) (h.2 c)⟩
theorem bf_turn (N : NetOk n rods) {r : Nat} {ds : List Rod} {e : Rod} {q : Nat} (B : BfI n rods D T r ds e q) (he : e ∈ rods) (hq : q < n) : BfI n rods D (bfStep T e q) r ds e (q + 1) := by
  obtain ⟨a, b, l⟩ := e
  have g := N.rod a b l he
  have hab : ((a, b, l) : Rod).1 ≠ ((a, b, l) : Rod).2.1 := by
    show a ≠ b
    omega
  have le := bf_le (T := T) (a, b, l) hab q
  have key := bf_key (T := T) (a, b, l) hab q
  have wa : 999 ≤ min (T q a) (T q b + l) ∨ Wk rods q a (min (T q a) (T q b + l)) := by
    by_cases c : T q a ≤ T q b + l
    · rw [Nat.min_eq_left c]
      exact B.ok.wk q a
    · rw [Nat.min_eq_right (by omega)]
      rcases B.ok.wk q b with h | h
      · exact .inl (by omega)
      · exact .inr (.bwd h he)
  refine ⟨⟨fun i => ?_, fun i j => ?_⟩, fun p x hp hx h => Nat.le_trans (le _ _) (B.prog p x hp hx h), fun e' h' p hp => (B.done e' h' p hp).mono le, fun p hp => ?_⟩
  · have := le i i
    rw [B.ok.diag] at this
    omega
  · rw [key]
    split
    · rename_i h
      rw [h.1, h.2]
      exact wa
    · split
      · rename_i h
        rw [h.1, h.2]
        show 999 ≤ min (T q b) (min (T q a) (T q b + l) + l) ∨ Wk rods q b (min (T q b) (min (T q a) (T q b + l) + l))
        by_cases c : T q b ≤ min (T q a) (T q b + l) + l
        · rw [Nat.min_eq_left c]
          exact B.ok.wk q b
        · rw [Nat.min_eq_right (by omega)]
          rcases wa with h | h
          · exact .inl (by omega)
          · exact .inr (.fwd h he)
      · exact B.ok.wk i j
  · by_cases e1 : p = q
    · subst e1
      refine ⟨fun c => ?_, fun c => ?_⟩
      · have := B.prog p b hq (by omega) c
        show bfStep T (a, b, l) p p a ≤ D p b + l
        rw [key, if_pos ⟨rfl, rfl⟩]
        show min (T p a) (T p b + l) ≤ _
        omega
      · have := B.prog p a hq (by omega) c
        show bfStep T (a, b, l) p p b ≤ D p a + l
        rw [key, if_neg (by show ¬ (p = p ∧ b = a); omega), if_pos ⟨rfl, rfl⟩]
        show min (T p b) (min (T p a) (T p b + l) + l) ≤ _
        omega
    · exact (B.cur p (by omega)).mono le
theorem bf_next (I : IsDist n rods D) (N : NetOk n rods) {r : Nat} (ok : BfOk rods T) (pg : Prog n D T r) (dn : ∀ e' ∈ rods, ∀ p, p < n → RodDone n D T r e' p) : Prog n D T (r + 1) := by
  intro p x hp hx h
  by_cases e : p = x
  · subst e
    rw [ok.diag]
    exact Nat.zero_le _
  · obtain ⟨y, l, hy, hl, ed, m⟩ := I.last N hp hx e
    have rk := rank_lt (n := n) (D := D) (p := p) (y := y) (x := x) hy (by omega)
    rcases m with m | m
    · have := (dn _ m p hp).2 (by show rank n D p y ≤ r; omega)
      have h2 : T p x ≤ D p y + l := this
      omega
    · have := (dn _ m p hp).1 (by show rank n D p y ≤ r; omega)
      have h2 : T p x ≤ D p y + l := this
      omega
theorem bf_end (I : IsDist n rods D) (N : NetOk n rods) (ok : BfOk rods T) (pg : Prog n D T n) {i j : Nat} (hi : i < n) (hj : j < n) : T i j = D i j := by
  have h1 := pg i j hi hj (Nat.le_of_lt (rank_n hj))
  have h2 := I.small N hi hj
  rcases ok.wk i j with h | h
  · omega
  · exact Nat.le_antisymm h1 (I.le hi h)
end
end Lk

namespace Lk
/-! ### sets of places, bad pairs, covers -/
def subsN : Nat → List (List Nat)
  | 0 => [[]]
  | n + 1 => subsN n ++ (subsN n).map (· ++ [n])
theorem filter_mem_subsN (p : Nat → Bool) : ∀ n, (List.range n).filter p ∈ subsN n
  | 0 => by simp [subsN]
  | n + 1 => by
    have ih := filter_mem_subsN p n
    rw [List.range_succ, List.filter_append]
    by_cases h : p n = true
    · rw [List.filter_cons_of_pos h, List.filter_nil]
      exact List.mem_append_right _ (List.mem_map.mpr ⟨_, ih, rfl⟩)
    · rw [List.filter_cons_of_neg h, List.filter_nil, List.append_nil]
      exact List.mem_append_left _ ih
theorem subsN_lt : ∀ {n : Nat} {s : List Nat}, s ∈ subsN n → ∀ x ∈ s, x < n
  | 0, s, h, x, hx => by
    have : s = [] := by simpa [subsN] using h
    subst this
    cases hx
  | n + 1, s, h, x, hx => by
    rcases List.mem_append.mp h with h | h
    · have := subsN_lt h x hx
      omega
    · obtain ⟨t, ht, rfl⟩ := List.mem_map.mp h
      rcases List.mem_append.mp hx with hx | hx
      · have := subsN_lt ht x hx
        omega
      · have : x = n := by simpa using hx
        omega
theorem subsN_filter : ∀ {n : Nat} {s : List Nat}, s ∈ subsN n → (List.range n).filter (fun x => s.contains x) = s
  | 0, s, h => by
    have : s = [] := by simpa [subsN] using h
    subst this
    rfl
  | n + 1, s, h => by
    rw [List.range_succ, List.filter_append]
    rcases List.mem_append.mp h with h | h
    · have hn : ¬ (s.contains n = true) := fun c => by
        have := subsN_lt h n (by simpa using c)
        omega
      rw [List.filter_cons_of_neg hn, List.filter_nil, List.append_nil]
      exact subsN_filter h
    · obtain ⟨t, ht, rfl⟩ := List.mem_map.mp h
      rw [List.filter_cons_of_pos (by simp), List.filter_nil]
      have e : (List.range n).filter (fun x => (t ++ [n]).contains x) = (List.range n).filter (fun x => t.contains x) := by
        apply List.filter_congr
        intro x hx
        have hx' : x < n := List.mem_range.mp hx
        have : x ≠ n := by omega
        simp [this]
      rw [e, subsN_filter ht]
theorem subsN_len {n : Nat} {s : List Nat} (h : s ∈ subsN n) : s.length = (List.range n).countP (fun x => s.contains x) := by
  rw [List.countP_eq_length_filter, subsN_filter h]
theorem subsN_le {n : Nat} {s : List Nat} (h : s ∈ subsN n) : s.length ≤ n := by
  rw [subsN_len h]
  have := List.countP_le_length (p := fun x => s.contains x) (l := List.range n)
  simpa using this
theorem subsN_count : ∀ n, (subsN n).length = 2 ^ n
  | 0 => rfl
  | n + 1 => by
    show (subsN n ++ (subsN n).map _).length = _
    rw [List.length_append, List.length_map, subsN_count n]
    omega
theorem subsN_count8 {n : Nat} (h : n ≤ 8) : (subsN n).length ≤ 256 := by
  rw [subsN_count]
  exact Nat.pow_le_pow_right (n := 2) (by decide) h

def pairsN (n : Nat) : List (Nat × Nat) := (List.range n).flatMap fun i => (List.range' (i + 1) (n - (i + 1))).map fun j => (i, j)
theorem mem_pairsN {n : Nat} {p : Nat × Nat} : p ∈ pairsN n ↔ p.1 < p.2 ∧ p.2 < n := by
  unfold pairsN
  rw [List.mem_flatMap]
  constructor
  · rintro ⟨i, hi, h⟩
    obtain ⟨j, hj, rfl⟩ := List.mem_map.mp h
    rw [List.mem_range'_1] at hj
    have := List.mem_range.mp hi
    exact ⟨by show i < j; omega, by show j < n; omega⟩
  · rintro ⟨h1, h2⟩
    exact ⟨p.1, List.mem_range.mpr (by omega), List.mem_map.mpr ⟨p.2, List.mem_range'_1.mpr (by omega), rfl⟩⟩
theorem pairsN_count : ∀ n, n ≤ 8 → (pairsN n).length ≤ 28 := by decide
def gap (D : Nat → Nat → Nat) (h : Nat → Nat) (p : Nat × Nat) : Bool := decide (D p.1 p.2 < (h p.1 - h p.2) + (h p.2 - h p.1))
def bad (n : Nat) (D : Nat → Nat → Nat) (h : Nat → Nat) : List (Nat × Nat) := (pairsN n).filter (gap D h)
theorem bad_count {n : Nat} {D : Nat → Nat → Nat} {h : Nat → Nat} (h8 : n ≤ 8) : (bad n D h).length ≤ 28 := Nat.le_trans (List.length_filter_le _ _) (pairsN_count n h8)
theorem mem_bad {n : Nat} {D : Nat → Nat → Nat} {h : Nat → Nat} {p : Nat × Nat} (m : p ∈ bad n D h) : p.1 < p.2 ∧ p.2 < n := mem_pairsN.mp (List.mem_filter.mp m).1

/-- pairs of places below n -/
def PairsLt (n : Nat) (ps : List (Nat × Nat)) : Prop := ∀ p ∈ ps, p.1 < p.2 ∧ p.2 < n
theorem bad_lt {n : Nat} {D : Nat → Nat → Nat} {h : Nat → Nat} : PairsLt n (bad n D h) := fun _ m => mem_bad m
def cov (ps : List (Nat × Nat)) (s : List Nat) : Bool := ps.all fun p => s.contains p.1 || s.contains p.2
def good (n : Nat) (ps : List (Nat × Nat)) : List (List Nat) := (subsN n).filter (cov ps)
theorem mem_good {n : Nat} {ps : List (Nat × Nat)} {s : List Nat} : s ∈ good n ps ↔ s ∈ subsN n ∧ cov ps s = true := List.mem_filter
theorem good_count {n : Nat} {ps : List (Nat × Nat)} (h8 : n ≤ 8) : (good n ps).length ≤ 256 := Nat.le_trans (List.length_filter_le _ _) (subsN_count8 h8)
theorem good_full {n : Nat} {ps : List (Nat × Nat)} (h : PairsLt n ps) : List.range n ∈ good n ps := by
  rw [mem_good]
  refine ⟨?_, ?_⟩
  · have := filter_mem_subsN (fun _ => true) n
    rwa [List.filter_eq_self.mpr (fun _ _ => rfl)] at this
  · unfold cov
    rw [List.all_eq_true]
    intro p hp
    have := h p hp
    have : (List.range n).contains p.1 = true := by simp; omega
    rw [this, Bool.true_or]
theorem good_ne {n : Nat} {ps : List (Nat × Nat)} (h : PairsLt n ps) : good n ps ≠ [] := fun e => by
  have := good_full h
  rw [e] at this
  cases this
def restOf (n : Nat) (s : List Nat) : List Nat := (List.range n).filter fun x => !s.contains x
theorem restOf_has {n : Nat} {s : List Nat} {x : Nat} (h : x < n) : (restOf n s).contains x = !s.contains x := by
  unfold restOf
  cases c : s.contains x with
  | true =>
    have : ¬ x ∈ (List.range n).filter (fun x => !s.contains x) := fun m => by
      have := (List.mem_filter.mp m).2
      rw [c] at this
      cases this
    simpa using this
  | false =>
    have : x ∈ (List.range n).filter (fun x => !s.contains x) := List.mem_filter.mpr ⟨List.mem_range.mpr h, by rw [c]; rfl⟩
    simpa using this
/-- the law's test of a set: no bad pair within the rest -/
theorem cov_rest {n : Nat} {ps : List (Nat × Nat)} {s : List Nat} (h : PairsLt n ps) : (ps.filter fun p => (restOf n s).contains p.1 && (restOf n s).contains p.2).isEmpty = cov ps s := by
  rw [Bool.eq_iff_iff, List.isEmpty_iff, List.filter_eq_nil_iff]
  unfold cov
  rw [List.all_eq_true]
  constructor
  · intro q p hp
    have := q p hp
    have l := h p hp
    rw [restOf_has (by omega), restOf_has (by omega)] at this
    cases c1 : s.contains p.1 <;> cases c2 : s.contains p.2 <;> simp_all
  · intro q p hp
    have this := q p hp
    have l := h p hp
    rw [restOf_has (by omega), restOf_has (by omega)]
    cases c1 : s.contains p.1 <;> cases c2 : s.contains p.2 <;> rw [c1, c2] at this <;> first | exact Bool.false_ne_true | cases this

/-! ### the order of tuples of places -/
def castL (s : List Nat) : List Int := s.map fun x : Nat => (x : Int)
theorem castL_inj : ∀ {s t : List Nat}, castL s = castL t → s = t
  | [], [], _ => rfl
  | [], _ :: _, h => nomatch h
  | _ :: _, [], h => nomatch h
  | x :: s, y :: t, h => by
    injection h with h1 h2
    have e : x = y := Int.ofNat.inj h1
    rw [e, castL_inj h2]
theorem lex_tri : ∀ {s t : List Int}, ¬ s < t → ¬ t < s → s = t
  | [], [], _, _ => rfl
  | [], _ :: _, h, _ => absurd (List.nil_lt_cons _ _) h
  | _ :: _, [], _, h => absurd (List.nil_lt_cons _ _) h
  | x :: s, y :: t, h1, h2 => by
    rw [List.cons_lt_cons_iff] at h1 h2
    have e : x = y := by omega
    subst e
    rw [lex_tri (s := s) (t := t) (fun c => h1 (.inr ⟨rfl, c⟩)) (fun c => h2 (.inr ⟨rfl, c⟩))]
structure IsFew (n : Nat) (ps : List (Nat × Nat)) (s : List Nat) : Prop where
  good : s ∈ good n ps
  least : ∀ t ∈ Lk.good n ps, s.length ≤ t.length
  first : ∀ t ∈ Lk.good n ps, t.length = s.length → ¬ castL t < castL s
theorem IsFew.uniq {n : Nat} {ps : List (Nat × Nat)} {s t : List Nat} (a : IsFew n ps s) (b : IsFew n ps t) : s = t := by
  have e : s.length = t.length := Nat.le_antisymm (a.least t b.good) (b.least s a.good)
  exact castL_inj (lex_tri (b.first s a.good e) (a.first t b.good e.symm))

/-! ### disjoint pairs -/
def apart (p q : Nat × Nat) : Bool := !(q.1 == p.1 || q.2 == p.1) && !(q.1 == p.2 || q.2 == p.2)
def mt : List (Nat × Nat) → Nat
  | [] => 0
  | p :: r => max (mt r) (1 + mt (r.filter (apart p)))
termination_by l => l.length
decreasing_by
  · simp
  · simp only [List.length_cons, List.length_unattach]
    refine Nat.lt_succ_of_le (Nat.le_trans (List.length_filter_le _ _) ?_)
    rw [List.length_attach]
    exact Nat.le_refl _
theorem mt_nil : mt [] = 0 := by rw [mt]
theorem mt_cons (p : Nat × Nat) (r : List (Nat × Nat)) : mt (p :: r) = max (mt r) (1 + mt ((p :: r).filter (apart p))) := by
  rw [mt, List.filter_cons_of_neg (by simp [apart])]
theorem countP_drop1 {α : Type} [DecidableEq α] {c : α → Bool} {a : α} : ∀ {l : List α}, a ∈ l → c a = true → l.countP (fun x => c x && !decide (x = a)) + 1 ≤ l.countP c
  | [], h, _ => nomatch h
  | y :: l, h, hc => by
    rw [List.countP_cons, List.countP_cons]
    by_cases e : y = a
    · subst e
      have m : l.countP (fun x => c x && !decide (x = y)) ≤ l.countP c := List.countP_mono_left fun x _ hx => (Bool.and_eq_true_iff.mp hx).1
      simp [hc]
      omega
    · have hm : a ∈ l := by
        rcases List.mem_cons.mp h with h | h
        · exact absurd h.symm e
        · exact h
      have ih := countP_drop1 hm hc
      simp [e]
      omega
theorem mt_le_cov : ∀ (k n : Nat) (ps : List (Nat × Nat)) (c : Nat → Bool), ps.length ≤ k → PairsLt n ps → (∀ p ∈ ps, c p.1 = true ∨ c p.2 = true) → mt ps ≤ (List.range n).countP c
  | _, _, [], _, _, _, _ => by rw [mt_nil]; exact Nat.zero_le _
  | 0, _, _ :: _, _, h, _, _ => absurd h (by simp)
  | k + 1, n, p :: r, c, h, hl, hc => by
    have hr : r.length ≤ k := by simpa using h
    rw [mt]
    have h1 := mt_le_cov k n r c hr (fun q hq => hl q (List.mem_cons_of_mem _ hq)) (fun q hq => hc q (List.mem_cons_of_mem _ hq))
    have go : ∀ a, a < n → c a = true → (a = p.1 ∨ a = p.2) → 1 + mt (r.filter (apart p)) ≤ (List.range n).countP c := by
      intro a ha hca hap
      have h2 := mt_le_cov k n (r.filter (apart p)) (fun x => c x && !decide (x = a)) (Nat.le_trans (List.length_filter_le _ _) hr) (fun q hq => hl q (List.mem_cons_of_mem _ (List.mem_filter.mp hq).1))
        (fun q hq => by
          obtain ⟨hq1, hq2⟩ := List.mem_filter.mp hq
          have hq3 := hc q (List.mem_cons_of_mem _ hq1)
          simp [apart] at hq2
          have n1 : q.1 ≠ a := by rcases hap with rfl | rfl <;> omega
          have n2 : q.2 ≠ a := by rcases hap with rfl | rfl <;> omega
          simp [n1, n2, hq3])
      have h3 := countP_drop1 (c := c) (List.mem_range.mpr ha) hca
      omega
    have hp := hl p (List.mem_cons_self ..)
    rcases hc p (List.mem_cons_self ..) with q | q
    · have := go p.1 (by omega) q (.inl rfl)
      omega
    · have := go p.2 (by omega) q (.inr rfl)
      omega
theorem countP_add1 {c : Nat → Bool} {a : Nat} : ∀ {l : List Nat}, l.Nodup → l.countP (fun x => c x || decide (x = a)) ≤ l.countP c + 1
  | [], _ => by simp
  | y :: l, h => by
    rw [List.countP_cons, List.countP_cons]
    obtain ⟨h1, h2⟩ := List.nodup_cons.mp h
    by_cases e : y = a
    · subst e
      have m : l.countP (fun x => c x || decide (x = y)) ≤ l.countP c := List.countP_mono_left fun x hx hq => by
        have : x ≠ y := fun z => h1 (z ▸ hx)
        simpa [this] using hq
      simp
      omega
    · have ih := countP_add1 (c := c) (a := a) h2
      simp [e]
      omega
theorem cov_of_mt : ∀ (k n : Nat) (ps : List (Nat × Nat)), ps.length ≤ k → ∃ c : Nat → Bool, (∀ p ∈ ps, c p.1 = true ∨ c p.2 = true) ∧ (List.range n).countP c ≤ 2 * mt ps
  | _, _, [], _ => ⟨fun _ => false, fun _ h => (nomatch h), by simp⟩
  | 0, _, _ :: _, h => absurd h (by simp)
  | k + 1, n, p :: r, h => by
    have hr : r.length ≤ k := by simpa using h
    obtain ⟨c, h1, h2⟩ := cov_of_mt k n (r.filter (apart p)) (Nat.le_trans (List.length_filter_le _ _) hr)
    refine ⟨fun x => (c x || decide (x = p.1)) || decide (x = p.2), fun q hq => ?_, ?_⟩
    · rcases List.mem_cons.mp hq with rfl | hq
      · left
        simp
      · by_cases a : apart p q = true
        · rcases h1 q (List.mem_filter.mpr ⟨hq, a⟩) with z | z
          · left; simp [z]
          · right; simp [z]
        · simp [apart] at a
          by_cases e1 : q.1 = p.1
          · left; simp [e1]
          by_cases e2 : q.1 = p.2
          · left; simp [e2]
          by_cases e3 : q.2 = p.1
          · right; simp [e3]
          · right; simp [a e1 e3 e2]
    · have a1 := countP_add1 (c := fun x => c x || decide (x = p.1)) (a := p.2) (List.nodup_range (n := n))
      have a2 := countP_add1 (c := c) (a := p.1) (List.nodup_range (n := n))
      rw [mt]
      omega
theorem few_bounds {n : Nat} {ps : List (Nat × Nat)} {s : List Nat} (h : PairsLt n ps) (F : IsFew n ps s) : mt ps ≤ s.length ∧ s.length ≤ 2 * mt ps := by
  obtain ⟨hs, hc⟩ := mem_good.mp F.good
  constructor
  · rw [subsN_len hs]
    refine mt_le_cov _ n ps _ (Nat.le_refl _) h fun p hp => ?_
    have := List.all_eq_true.mp hc p hp
    simpa using this
  · obtain ⟨c, h1, h2⟩ := cov_of_mt ps.length n ps (Nat.le_refl _)
    have m : (List.range n).filter c ∈ good n ps := by
      rw [mem_good]
      refine ⟨filter_mem_subsN c n, List.all_eq_true.mpr fun p hp => ?_⟩
      have l := h p hp
      rcases h1 p hp with z | z
      · have : ((List.range n).filter c).contains p.1 = true := by
          simp only [List.contains_iff_mem, List.mem_filter, List.mem_range]
          exact ⟨by omega, z⟩
        rw [this]; rfl
      · have : ((List.range n).filter c).contains p.2 = true := by
          simp only [List.contains_iff_mem, List.mem_filter, List.mem_range]
          exact ⟨by omega, z⟩
        rw [this]; exact Bool.or_true _
    have := F.least _ m
    rw [← List.countP_eq_length_filter] at this
    omega

/-! ### the row mended -/
def mx (ns : List Int) : Int := ns.foldr max 0
theorem mx_nn : ∀ ns, 0 ≤ mx ns
  | [] => Int.le_refl 0
  | x :: r => by
    have := mx_nn r
    show 0 ≤ max x (mx r)
    omega
theorem mx_ge : ∀ {ns : List Int} {y : Int}, y ∈ ns → y ≤ mx ns
  | x :: r, y, h => by
    show y ≤ max x (mx r)
    rcases List.mem_cons.mp h with rfl | h
    · omega
    · have := mx_ge h
      omega
theorem mx_mem : ∀ ns, mx ns ∈ 0 :: ns
  | [] => by simp [mx]
  | x :: r => by
    show max x (mx r) ∈ _
    have := mx_mem r
    by_cases h : mx r ≤ x
    · rw [Int.max_eq_left h]
      simp
    · rw [Int.max_eq_right (by omega)]
      rcases List.mem_cons.mp this with e | e
      · rw [e]; simp
      · exact List.mem_cons_of_mem _ (List.mem_cons_of_mem _ e)
theorem mx_of {ns : List Int} {m : Int} (h1 : m ∈ 0 :: ns) (h2 : ∀ y, y ∈ 0 :: ns → y ≤ m) : m = mx ns := by
  have a := h2 _ (mx_mem ns)
  have b : m ≤ mx ns := by
    rcases List.mem_cons.mp h1 with rfl | h
    · exact mx_nn ns
    · exact mx_ge h
  omega
def mend (n : Nat) (D : Nat → Nat → Nat) (h : Nat → Nat) (s : List Nat) (j : Nat) : Int := mx ((restOf n s).map fun i => (h i : Int) - (D i j : Int))
theorem mend_keeps {n : Nat} {rods : List Rod} {D : Nat → Nat → Nat} {h : Nat → Nat} {s : List Nat} (I : IsDist n rods D) (c : cov (bad n D h) s = true) {j : Nat} (hj : j ∈ restOf n s) : mend n D h s j = (h j : Int) := by
  have hjn : j < n := List.mem_range.mp (List.mem_filter.mp hj).1
  have near : ∀ i ∈ restOf n s, (h i : Int) - (D i j : Int) ≤ (h j : Int) := by
    intro i hi
    have hin : i < n := List.mem_range.mp (List.mem_filter.mp hi).1
    have ni : s.contains i = false := by simpa using (List.mem_filter.mp hi).2
    have nj : s.contains j = false := by simpa using (List.mem_filter.mp hj).2
    have key : ∀ a b, a < b → b < n → s.contains a = false → s.contains b = false → (h a - h b) + (h b - h a) ≤ D a b := by
      intro a b ab bn ha hb
      by_cases g : gap D h (a, b) = true
      · have m : (a, b) ∈ bad n D h := List.mem_filter.mpr ⟨mem_pairsN.mpr ⟨ab, bn⟩, g⟩
        have := List.all_eq_true.mp c _ m
        rw [ha, hb] at this
        cases this
      · simp [gap] at g
        omega
    by_cases e : i = j
    · subst e
      omega
    · by_cases l : i < j
      · have := key i j l hjn ni nj
        omega
      · have := key j i (by omega) hin nj ni
        have := I.symm hin hjn
        omega
  refine (mx_of ?_ ?_).symm
  · refine List.mem_cons_of_mem _ (List.mem_map.mpr ⟨j, hj, ?_⟩)
    rw [I.diag j hjn]
    simp
  · intro y hy
    rcases List.mem_cons.mp hy with rfl | hy
    · omega
    · obtain ⟨i, hi, rfl⟩ := List.mem_map.mp hy
      exact near i hi
/-! ### a slope row drawn place by place -/
/-- the heights below p fit -/
structure Fit (D : Nat → Nat → Nat) (most : Nat) (h : Nat → Nat) (p : Nat) : Prop where
  top : ∀ i, i < p → h i ≤ most
  near : ∀ i j, i < p → j < p → h i ≤ h j + D i j
theorem fit_room {n : Nat} {rods : List Rod} {D : Nat → Nat → Nat} {most p : Nat} {h : Nat → Nat} (I : IsDist n rods D) (F : Fit D most h p) (hp : p < n) {a b : Int}
    (ha : a ∈ 0 :: (List.range p).map fun i => (h i : Int) - (D i p : Int)) (hb : b ∈ (most : Int) :: (List.range p).map fun i => (h i : Int) + (D i p : Int)) : a ≤ b := by
  rcases List.mem_cons.mp ha with rfl | ha <;> rcases List.mem_cons.mp hb with rfl | hb
  · omega
  · obtain ⟨i, hi, rfl⟩ := List.mem_map.mp hb
    omega
  · obtain ⟨i, hi, rfl⟩ := List.mem_map.mp ha
    have := F.top i (List.mem_range.mp hi)
    omega
  · obtain ⟨i, hi, rfl⟩ := List.mem_map.mp ha
    obtain ⟨j, hj, rfl⟩ := List.mem_map.mp hb
    have hi := List.mem_range.mp hi
    have hj := List.mem_range.mp hj
    have f := F.near i j hi hj
    have t : D i j ≤ D i p + D j p := I.le (by omega) ((I.wk i p (by omega) hp).trans (I.wk j p (by omega) hp).rev)
    omega
theorem fit_next {n : Nat} {rods : List Rod} {D : Nat → Nat → Nat} {most p : Nat} {h h' : Nat → Nat} (I : IsDist n rods D) (F : Fit D most h p) (hp : p < n) (same : ∀ i, i < p → h' i = h i)
    (lo : ∀ i, i < p → (h i : Int) - (D i p : Int) ≤ (h' p : Int)) (hi : ∀ i, i < p → (h' p : Int) ≤ (h i : Int) + (D i p : Int)) (hm : h' p ≤ most) : Fit D most h' (p + 1) := by
  refine ⟨fun i hi' => ?_, fun i j hi' hj' => ?_⟩
  · by_cases e : i = p
    · subst e; exact hm
    · rw [same i (by omega)]
      exact F.top i (by omega)
  · by_cases e : i = p <;> by_cases e2 : j = p
    · subst e; subst e2; omega
    · subst e
      rw [same j (by omega)]
      have := hi j (by omega)
      have := I.symm (i := j) (j := i) (by omega) hp
      omega
    · subst e2
      rw [same i (by omega)]
      have := lo i (by omega)
      omega
    · rw [same i (by omega), same j (by omega)]
      exact F.near i j (by omega) (by omega)
end Lk

set_option Elab.async false
set_option linter.all false
set_option maxRecDepth 100000
set_option maxHeartbeats 4000000
/-! Rules of my own over HandS: a chain of three comparisons, enumerate of a tuple, min of a list of data, sorted of data at any length, sorted of a dict with tuple keys. -/
namespace Lk
open PySem PySem.Spec PyProof.Rows L2
section
variable {X : Cx} {a b c d : Expr} {ta tb tc td : TE} {pos : Pos}
/-- a op1 b op2 c op3 d -/
def tChain3 (r r' r2 : R2) (ta tb tc td : TE) : TE := fun σ H Q => ta σ H fun x H1 => tb σ H1 fun y H2 => r x y H2 fun z H3 => ∃ k, z = .bl k ∧
  (if k = true then tc σ H3 fun y' H4 => r' y y' H4 fun z' H5 => ∃ k', z' = .bl k' ∧ (if k' = true then td σ H5 fun w' H6 => r2 y' w' H6 Q else Q (.bl false) H5) else Q (.bl false) H3)
theorem pe_chain3 {op op' op2 : CmpOp} {r r' r2 : R2} (ho : OpR X (compareOp op) r) (ho' : OpR X (compareOp op') r') (ho2 : OpR X (compareOp op2) r2) (ha : PE X a ta) (hb : PE X b tb) (hc : PE X c tc) (hd : PE X d td)
    (hm : lastMarks [op, op', op2] [b, c, d] = false := by with_unfolding_all rfl) : PE X (.Compare a [op, op', op2] [b, c, d] pos) (tChain3 r r' r2 ta tb tc td) := by
  refine ⟨fun pins s σ H Q I h => ?_⟩
  refine Compare_chain (thn (ha.run pins s σ H _ I h) fun v s1 ⟨x, H1, I1, r1, q1⟩ => chain_link (thn (hb.run pins s1 σ H1 _ I1 q1) fun u s2 ⟨y, H2, I2, r2, q2⟩ =>
    thn (ho pins s2 σ H2 x y v u _ I2 r1 r2 q2) fun d s3 ⟨z, H3, I3, r3, k, e, q3⟩ => ?_)) hm
  subst e
  cases r3
  refine wpAny_truthy_bool ?_
  cases k with
  | false => exact ite_ff ⟨.bl false, H3, I3, rfl, q3⟩
  | true =>
    refine ite_tt (chain_link (thn (hc.run pins s3 σ H3 _ I3 q3) fun u' s4 ⟨y', H4, I4, r4, q4⟩ =>
      thn (ho' pins s4 σ H4 y y' u u' _ I4 r2 r4 q4) fun d s5 ⟨z', H5, I5, r5, k', e', q5⟩ => ?_))
    subst e'
    cases r5
    refine wpAny_truthy_bool ?_
    cases k' with
    | false => exact ite_ff ⟨.bl false, H5, I5, rfl, q5⟩
    | true => exact ite_tt (chain_last (thn (hd.run pins s5 σ H5 _ I5 q5) fun w' s6 ⟨z2, H6, I6, r6, q6⟩ => ho2 pins s6 σ H6 y' z2 u' w' Q I6 r4 r6 q6))
end

/-! ### enumerate of a tuple -/
section
open AutoSeq1 (wpAny_loadPart')
theorem meets_enum_newT (l : Addr) (items : Array Value) (n : Nat) (dct : Option Addr) (sl : Array (Option Value)) :
    Meets (Builtin.«enumerate.__new__» ⟨[.type "enumerate", .ref l], []⟩) (fun _ R s => s.heap.get? l = some { cls := .type "tuple", dict := dct, data := .seq items n, slots := sl } ∧
      R (.ok (.ret (.ref (s.heap.push { cls := .type "tuple_iterator", data := .fields #[.ref l, .int 0 0] }).objs.size)))
        { s with heap := (s.heap.push { cls := .type "tuple_iterator", data := .fields #[.ref l, .int 0 0] }).push { cls := .type "enumerate", data := .fields #[.none, .bool false, .ref s.heap.objs.size, rawInt 0, .none, .none] } }) :=
  .of_wp fun prog w A R s h => by
    obtain ⟨hp, g, d, tk, os⟩ := s; obtain ⟨hl, h⟩ := h
    have hsub := sub_enumerate
    have hL : Heap.IsTuple (Shared.heap ⟨hp, g, d, tk, os⟩) l items := ⟨_, hl, rfl, n, rfl⟩
    wp_walk using wpAny_loadPart' hl
    refine wpAny_stack_any fun st => wpAny_pure ?_
    split
    · rename_i c _ _ _ _ _
      cases (c == Value.type "enumerate")
      · wp_walk using wpAny_loadPart' hl, wpAny_pyIter_tuple hL
        exact ⟨_, rfl, h⟩
      · wp_walk using wpAny_loadPart' hl, wpAny_pyIter_tuple hL
        exact ⟨_, rfl, h⟩
    · wp_walk using wpAny_loadPart' hl, wpAny_pyIter_tuple hL
      exact ⟨_, rfl, h⟩
variable {prog : Program} {w : World} {A : Around} {E : Value → Shared → Prop} {s : Shared}
theorem call_enum_tuple {l : Addr} {items : Array Value} {Q : Value → Shared → Prop} (hL : s.heap.IsTuple l items)
    (h : ∀ h', IsEnum h' (s.heap.objs.size + 1) s.heap.objs.size 0 .none → h'.IsTupleIter s.heap.objs.size l 0 → h'.objs.size = s.heap.objs.size + 2 →
      (∀ b o, s.heap.get? b = some o → h'.get? b = some o) → Q (.ref (s.heap.objs.size + 1)) { s with heap := h' }) :
    wpAny (model prog w) A (call (.type "enumerate") [.ref l]) Q E s := by
  obtain ⟨⟨c, dct, dt, sl⟩, hl, hc, n, hd⟩ := hL
  replace hc : c = .type "tuple" := hc
  replace hd : dt = .seq items n := hd
  subst hc hd
  refine callType_new F.called_enumerate (by decide) (F.typeCall_enumerate_1 _) (F.newCall_enumerate_1 _) (fun obj => F.args_object_init_2 obj _) F.entry_enumerate_new
    (meets_enum_newT l items n dct sl) ⟨hl, ?_⟩
  have hz : (s.heap.push { cls := .type "tuple_iterator", data := .fields #[.ref l, .int 0 0] }).objs.size = s.heap.objs.size + 1 := Heap.size_push ..
  show _ ∧ _
  rw [hz]
  have he : IsEnum ((s.heap.push { cls := .type "tuple_iterator", data := .fields #[.ref l, .int 0 0] }).push
      { cls := .type "enumerate", data := .fields #[.none, .bool false, .ref s.heap.objs.size, rawInt 0, .none, .none] }) (s.heap.objs.size + 1) s.heap.objs.size 0 .none := by
    have := Heap.get?_push_size (s.heap.push { cls := .type "tuple_iterator", data := .fields #[.ref l, .int 0 0] })
      (o := { cls := .type "enumerate", data := .fields #[.none, .bool false, .ref s.heap.objs.size, rawInt 0, .none, .none] }) rfl
    rw [hz] at this; exact this
  refine ⟨⟨_, he, rfl⟩, h _ he ⟨_, Heap.get?_push_of_some _ (Heap.get?_push_size _ rfl), rfl, rfl⟩ (by rw [Heap.size_push, hz]) fun b o x => Heap.get?_push_of_some _ (Heap.get?_push_of_some _ x)⟩
end
def IteT (K : PySem.W.Frag) (a : Addr) : It :=
  ⟨fun i H => ∃ (xs : List V) (x : V), SqT K H a xs ∧ xs[i]? = some x, fun i H v H' => ∃ T x, v = .ref T ∧ H T = none ∧ H' = upd H T (.tup [.int (i : Nat), x]) ∧ ∀ xs, SqT K H a xs → xs[i]? = some x, fun i H => ∃ xs : List V, SqT K H a xs ∧ xs.length ≤ i⟩
theorem turn_enumT {P : Program} {w : World} {K : PySem.W.Frag} {elts : List Expr} {kk : Nat} {tpos : Pos} (a e it : Addr) :
    Turn P w K (.Tuple elts kk tpos) (IteT K a) [e, it] e (fun i h => (∃ old, IsEnum h e it ((i : Nat) : Int) old) ∧ h.IsTupleIter it a i ∧ e ≠ it) where
  mem := by simp
  obj := fun i h st b hb => by
    obtain ⟨⟨old, he⟩, ⟨o, ho, hc, hd⟩, _⟩ := st
    have e' : b = e ∨ b = it := by simpa using hb
    rcases e' with z | z
    · rw [z]; exact ⟨_, he, fun v q => nomatch q⟩
    · rw [z]; exact ⟨o, ho, fun v q => by rw [hd] at q; cases q⟩
  keep := fun i h h' st k => let ⟨⟨old, he⟩, hi, hne⟩ := st; ⟨⟨old, k e (by simp) _ he⟩, hi.at fun o q => k it (by simp) o q, hne⟩
  item := by
    intro X hP hw hK hc i pins s σ H E I hf st hg
    subst hP hw hK
    obtain ⟨⟨old, he⟩, hit, hne⟩ := st
    obtain ⟨xs, x, hq, hx⟩ := hg
    obtain ⟨its, rv, p, hz⟩ := I.tuple hq
    obtain ⟨u, hu, ru⟩ := rv.get hx
    have hel : e < s.heap.objs.size := Heap.lt_size he
    have hil : it < s.heap.objs.size := by obtain ⟨_, q, _⟩ := hit; exact Heap.lt_size q
    have hal : a < s.heap.objs.size := by obtain ⟨_, q, _⟩ := id p; exact Heap.lt_size q
    have hae : a ≠ e := fun z => by
      obtain ⟨o, q1, q2, _⟩ := id p
      have he' : s.heap.get? e = some _ := he
      rw [z, he'] at q1
      cases q1
      injection q2 with q3
      exact absurd q3 (by decide)
    have hai : a ≠ it := fun z => by
      obtain ⟨o, q1, q2, _⟩ := id p
      obtain ⟨o', q1', q2', _⟩ := id hit
      rw [z, q1'] at q1
      cases q1
      rw [q2'] at q2
      injection q2 with q3
      exact absurd q3 (by decide)
    have lt : i < its.toArray.size := by
      have := (List.getElem?_eq_some_iff.mp hu).1
      simpa using this
    refine wpAny_pyNext_enum_itemD (Draws.tuple (A := X.A.in1) (I.ok.hd hc) it a hai its.toArray) he ⟨hit, show s.heap.IsTuple a its.toArray from p⟩ lt hne (by simp [hne, Ne.symm hae]) fun x1 h' tk hP ho hst hT hsz hk => ?_
    have ex : x1 = u := by
      have q : its[i]? = some x1 := by simpa using hP
      rw [hu] at q
      exact (Option.some.inj q).symm
    subst ex
    refine ⟨_, rfl, wpAny_letOwnedTupleGo_enum (s := { s with heap := h', toks := tk + 1 }) ho fun h'' he' sb => ?_⟩
    have hT2 : h''.get? s.heap.objs.size = some { cls := .type "tuple", data := .seq #[.int i tk, x1] } := (sb.2 _ (Nat.ne_of_gt hel)).trans hT
    have new : ObjOk X.prog X.w (upd H s.heap.objs.size (.tup [.int (i : Nat), x])) h'' s.heap.objs.size (.tup [.int (i : Nat), x]) :=
      ⟨by show 2 ≤ sizeLine; decide, [.int i tk, x1], .cons ⟨_, rfl⟩ (.cons ru .nil), ⟨_, hT2, rfl, _, rfl⟩⟩
    have I1 : Inv X pins σ (upd H s.heap.objs.size (.tup [.int (i : Nat), x])) { s with heap := h'', toks := tk + 1 } :=
      I.turnedNew (ch := [e, it]) (fun b ob hb q => (sb.2 b (fun z => hb (by simp [z]))).trans (hk b ob (fun z => hb (by simp [z])) (fun z => hb (by simp [z])) q)) hf (Nat.le_refl _) new
    refine ⟨.ref s.heap.objs.size, _, I1, rfl, ⟨_, x, rfl, I.hok.fresh (Nat.le_refl _), rfl, fun ys hy => by rw [I.tuple_inj hy hq]; exact hx⟩, ⟨⟨x1, ?_⟩, hst.1.at fun o q => (sb.2 it (Ne.symm hne)).trans q, hne⟩, fun b hb => ?_⟩
    · have e1 : ((i + 1 : Nat) : Int) = (i : Int) + 1 := by omega
      rw [e1]; exact he'
    · have hb' : b < s.heap.objs.size := by
        have e' : b = e ∨ b = it := by simpa using hb
        rcases e' with z | z
        · rw [z]; exact hel
        · rw [z]; exact hil
      rw [upd_ne (Nat.ne_of_lt hb')]
      exact (hf b hb).1
  done := by
    intro X hP hw hK hc i pins s σ H E I hf st hg
    subst hP hw hK
    obtain ⟨⟨old, he⟩, hit, hne⟩ := st
    obtain ⟨xs, hq, hx⟩ := hg
    obtain ⟨its, rv, p, hz⟩ := I.tuple hq
    obtain ⟨f0, f1, f2, f3, f4, f5⟩ := hf it (by simp)
    have hl := rv.length
    have hTe : s.TypeIs (.ref e) "enumerate" := ⟨_, he, rfl⟩
    unfold pyNext
    refine wpAny_bind (wpAny_attempt (wpAny_callSpecial?_slot (name := Str.ofString "__next__") hTe F.slot_enumerate_next
      (wpAny_call_entry F.slot_enumerate_next hTe F.entry_enumerate_next ?_ (F.args_enumerate_next_1 _))))
    show wpAny _ _ (field (.ref e) 2 >>= _) _ _ _
    refine wpAny_bind (wpAny_field he rfl (x := .ref it) rfl ?_)
    refine wpAny_bind (wpAny_nextOf_tuple_end (I.ok.hd hc) hit (show s.heap.IsTuple a its.toArray from p) (by simp; omega) fun h' x he' hx' => ?_)
    obtain ⟨o, ho, hc'⟩ := hx'
    refine wpAny_bind (wpAny_isInstance (T := "StopIteration") (b := true) ⟨o, ho, hc'⟩ isSubtype_stop ?_)
    exact wpAny_pure ⟨rfl, I.turned (t' := s.toks) (fun b o hb q => he' b o hb q) f0 f1 f3 f4 f5⟩
  self := fun A i s Q E st h => let ⟨⟨_, he⟩, _⟩ := st; wpAny_pyIter_enum he h
def iEnumT (K : PySem.W.Frag) (ta : TA) : TI := fun σ H R => ta σ H fun vs H1 => ∃ a xs, vs = [.ref a] ∧ SqT K H1 a xs ∧ R (IteT K a) H1
theorem pi_enumT {X : Cx} {e : Expr} {ta : TA} {p pos tpos : Pos} {elts : List Expr} {kk : Nat} (hg : Gl X "enumerate") (hm : X.mg "enumerate" = none) (ha : PA X [e] ta) (hs : starEach [e] X.env = [(false, eval e X.env)] := by rfl) :
    PI X (.Tuple elts kk tpos) (.Call (.Name "enumerate" p) [e] [] pos) (iEnumT X.K ta) := by
  refine ⟨fun pins s σ H R I h => ?_⟩
  refine Call_ (ld_blt I hg hm boot_enumerate (PyProof.Rows.callWith_type1 (thn (ha.run pos pins s σ H _ I h) fun us s1 ⟨vs, H1, I1, r1, q1⟩ => ?_) hs rfl))
  obtain ⟨a, xs, ex, hq, q⟩ := q1
  subst ex
  cases r1 with
  | cons r rr =>
    cases rr
    cases r
    obtain ⟨its, rv, p', hz⟩ := I1.tuple hq
    refine call_enum_tuple (show s1.heap.IsTuple a its.toArray from p') fun h' he hit hsz hk => wpAny_pyIter_enum he ?_
    have I2 : Inv X pins σ H1 { s1 with heap := h' } := I1.kept (t' := s1.toks) hk
    refine ⟨s1.heap.objs.size + 1, [s1.heap.objs.size + 1, s1.heap.objs.size], _, _, H1, rfl, I2, turn_enumT a (s1.heap.objs.size + 1) s1.heap.objs.size, ⟨⟨.none, he⟩, hit, Nat.succ_ne_self _⟩, fun b hb => ?_, q⟩
    have e' : b = s1.heap.objs.size + 1 ∨ b = s1.heap.objs.size := by simpa using hb
    have hle : s1.heap.objs.size ≤ b := by
      rcases e' with z | z
      · rw [z]; exact Nat.le_add_right _ _
      · rw [z]; exact Nat.le_refl _
    exact I1.fpOk hle (I1.hok.fresh hle)
theorem walk_enumT {K : PySem.W.Frag} {a : Addr} {xs : List V} : Walk (IteT K a) xs.length (fun H => SqT K H a xs) (YPair (fun i => some (.int (i : Nat))) (fun i => xs[i]?)) := by
  refine ⟨fun i _ hi q => ⟨xs, xs[i], q, by simp [hi]⟩, fun _ q => ⟨xs, q, Nat.le_refl _⟩, fun i H v H' _ q y => ?_⟩
  obtain ⟨T, x, h1, h2, h3, h4⟩ := y
  exact ⟨T, .int (i : Nat), x, h1, h2, h3, rfl, h4 xs q⟩
end Lk

set_option Elab.async false
set_option linter.all false
set_option maxRecDepth 100000
set_option maxHeartbeats 4000000
namespace Lk
open PySem PySem.Spec PyProof.Rows L2
/-! ### min of a list of data -/
def CmpOfH (prog : Program) (w : World) (A : Around) (h0 : Heap) (P : Nat → Value → Prop) (bt : Nat → Nat → Bool) : Prop :=
  ∀ i j vi vj (s : Shared) (Q : Value → Shared → Prop) (E : Value → Shared → Prop), (∀ b o, h0.get? b = some o → s.heap.get? b = some o) → P i vi → P j vj → Q (.bool (bt i j)) s → wpAny (model prog w) A (richCompare .Lt vi vj) Q E s
section
variable {prog : Program} {w : World} {A : Around} {R : Result → Shared → Prop} {I : Addr} {fp wr : List Addr} {n : Nat} {P : Nat → Value → Prop} {St : Nat → Heap → Prop} {h0 : Heap}
theorem min_loopH (W : Walks prog w A.in1 I fp wr n P St) (bt : Nat → Nat → Bool) (hcmp : CmpOfH prog w A.in1 h0 P bt) (S : Addr) (hSf : S ∉ fp) (hfr : ∀ b o, h0.get? b = some o → b ∉ wr ∧ b ≠ S) :
    ∀ (k j : Nat) (s : Shared) (vb : Value) (c : Nat), n - (j + 1) = k → j + 1 ≤ n → St (j + 1) s.heap → P (argBest bt j) vb → (∀ b o, h0.get? b = some o → s.heap.get? b = some o) →
    s.heap.get? S = some { cls := .type "list", dict := none, data := .seq #[vb, vb] c, slots := #[] } →
    (∀ v h' tk, P (argBest bt (n - 1)) v → (∀ b o, b ∉ wr → b ≠ S → s.heap.get? b = some o → h'.get? b = some o) → R (.ok (.ret v)) { s with heap := h', toks := tk }) →
    codeAny (model prog w) A (.builtin "min.loop" ⟨[.ref I, .none, .ref S], []⟩) R s := by
  have hSw : S ∉ wr := fun h => hSf (W.sub _ h)
  have hname : (toString "min" ++ toString ".loop" : String) = "min.loop" := by decide
  intro k
  induction k with
  | zero =>
    intro j s vb c hk hj hst hPb h0k hS hR
    have hin : j + 1 = n := by omega
    refine codeAny_builtin F.entry_min_loop ?_
    rw [Around.under_plainId F.plain_min_loop _]
    show wpAny _ A.in1 (seqItems? (.ref S) >>= _) _ _ s
    refine wpAny_bind (wpAny_seqItems hS rfl ?_)
    show wpAny _ A.in1 (tryCatch (pyNext (.ref I)) _ >>= _) _ _ s
    refine wpAny_bind (wpAny_tryCatch (W.done s _ _ (hin ▸ hst) fun h' tk hk' => ?_))
    have hS' := hk' S _ hSw hS
    show wpAny _ A.in1 (updateSeq S (fun _ => #[]) >>= _) _ _ _
    refine wpAny_bind ?_
    refine wpAny_updateSeq hS' rfl (wpAny_bind (wpAny_letGo (wpAny_pure ?_)))
    refine hR vb _ tk (by rw [← hin]; exact hPb) fun b o hbw hbS e => (Heap.get?_update_other _ _ (Ne.symm hbS)).trans (hk' b o hbw e)
  | succ k ih =>
    intro j s vb c hk hj hst hPb h0k hS hR
    have hlt : j + 1 < n := by omega
    refine codeAny_builtin F.entry_min_loop ?_
    rw [Around.under_plainId F.plain_min_loop _]
    show wpAny _ A.in1 (seqItems? (.ref S) >>= _) _ _ s
    refine wpAny_bind (wpAny_seqItems hS rfl ?_)
    show wpAny _ A.in1 (tryCatch (pyNext (.ref I)) _ >>= _) _ _ s
    refine wpAny_bind (wpAny_tryCatch (W.item (j + 1) s _ _ hlt hst fun v h' tk hP hst' hk' => ?_))
    have hS' := hk' S _ hSw hS
    have h0' : ∀ b o, h0.get? b = some o → h'.get? b = some o := fun b o e => hk' b o (hfr b o e).1 (h0k b o e)
    show wpAny _ A.in1 (tryCatch (holding [v, v] (richCompare .Lt v vb >>= _)) _ >>= _) _ _ _
    refine wpAny_bind (wpAny_tryCatch (wpAny_holding (wpAny_bind (hcmp (j + 1) (argBest bt j) v vb { s with heap := h', toks := tk } _ _ h0' hP hPb ?_))))
    refine wpAny_bind (wpAny_holding (wpAny_truthy_bool ?_))
    refine wpAny_bind (wpAny_letGo (wpAny_pure ?_))
    cases hb : bt (j + 1) (argBest bt j) with
    | true =>
      simp only [if_true]
      refine wpAny_bind ?_
      refine wpAny_updateSeq hS' rfl (wpAny_bind (wpAny_letGo ?_))
      rw [hname]
      refine wpAny_pure ⟨plainId_quiet F.plain_min_loop _, ih (j + 1) _ v _ (by omega) hlt (W.frame _ _ _ hst' fun b hbf o e => ?_) (by simp only [argBest, hb, if_true]; exact hP) (fun b o e => (Heap.get?_update_other _ _ (Ne.symm (hfr b o e).2)).trans (h0' b o e)) (Heap.get?_update_self _ hS' rfl)
        fun v' h'' tk'' hP' hk'' => ?_⟩
      · exact (Heap.get?_update_other _ _ (fun h : S = b => hSf (by rw [h]; exact hbf))).trans e
      · exact hR v' h'' tk'' hP' fun b o hbw hbS e => hk'' b o hbw hbS ((Heap.get?_update_other _ _ (Ne.symm hbS)).trans (hk' b o hbw e))
    | false =>
      simp only [Bool.false_eq_true, if_false]
      refine wpAny_bind (wpAny_letGo ?_)
      rw [hname]
      refine wpAny_pure ⟨plainId_quiet F.plain_min_loop _, ih (j + 1) _ vb c (by omega) hlt hst' (by simp only [argBest, hb, Bool.false_eq_true, if_false]; exact hPb) h0' hS' fun v' h'' tk'' hP' hk'' => ?_⟩
      exact hR v' h'' tk'' hP' fun b o hbw hbS e => hk'' b o hbw hbS (hk' b o hbw e)
theorem min_loopH_first (W : Walks prog w A.in1 I fp wr n P St) (bt : Nat → Nat → Bool) (hcmp : CmpOfH prog w A.in1 h0 P bt) (S : Addr) (hSf : S ∉ fp) (hfr : ∀ b o, h0.get? b = some o → b ∉ wr ∧ b ≠ S) (hn : 0 < n) {s : Shared} {c : Nat} (hst : St 0 s.heap)
    (h0k : ∀ b o, h0.get? b = some o → s.heap.get? b = some o)
    (hS : s.heap.get? S = some { cls := .type "list", dict := none, data := .seq #[] c, slots := #[] })
    (hR : ∀ v h' tk, P (argBest bt (n - 1)) v → (∀ b o, b ∉ wr → b ≠ S → s.heap.get? b = some o → h'.get? b = some o) → R (.ok (.ret v)) { s with heap := h', toks := tk }) :
    codeAny (model prog w) A (.builtin "min.loop" ⟨[.ref I, .none, .ref S], []⟩) R s := by
  have hSw : S ∉ wr := fun h => hSf (W.sub _ h)
  have hname : (toString "min" ++ toString ".loop" : String) = "min.loop" := by decide
  refine codeAny_builtin F.entry_min_loop ?_
  rw [Around.under_plainId F.plain_min_loop _]
  show wpAny _ A.in1 (seqItems? (.ref S) >>= _) _ _ s
  refine wpAny_bind (wpAny_seqItems hS rfl ?_)
  show wpAny _ A.in1 (tryCatch (pyNext (.ref I)) _ >>= _) _ _ s
  refine wpAny_bind (wpAny_tryCatch (W.item 0 s _ _ hn hst fun v h' tk hP hst' hk' => ?_))
  have hS' := hk' S _ hSw hS
  show wpAny _ A.in1 (updateSeq S (fun _ => #[v, v]) >>= _) _ _ _
  refine wpAny_bind ?_
  refine wpAny_updateSeq hS' rfl ?_
  rw [hname]
  refine wpAny_pure ⟨plainId_quiet F.plain_min_loop _, min_loopH W bt hcmp S hSf hfr _ 0 _ v _ rfl hn (W.frame _ _ _ hst' fun b hbf o e => ?_) hP
    (fun b o e => (Heap.get?_update_other _ _ (Ne.symm (hfr b o e).2)).trans (hk' b o (hfr b o e).1 (h0k b o e))) (Heap.get?_update_self _ hS' rfl) fun v' h'' tk'' hP' hk'' => ?_⟩
  · exact (Heap.get?_update_other _ _ (fun h : S = b => hSf (by rw [h]; exact hbf))).trans e
  · exact hR v' h'' tk'' hP' fun b o hbw hbS e => hk'' b o hbw hbS ((Heap.get?_update_other _ _ (Ne.symm hbS)).trans (hk' b o hbw e))
end
section
variable {prog : Program} {w : World} {A : Around} {E : Value → Shared → Prop} {s : Shared}
theorem call_min_listH {l : Addr} {items : Array Value} {bt : Nat → Nat → Bool} {Q : Value → Shared → Prop} (hh : A.handled = none) (hl : s.heap.IsList l items) (hne : 0 < items.size)
    (hcmp : CmpOfH prog w A.in1 s.heap (fun i v => items[i]? = some v) bt)
    (h : ∀ v h' tk, items[argBest bt (items.size - 1)]? = some v → (∀ b o, s.heap.get? b = some o → h'.get? b = some o) → Q v { s with heap := h', toks := tk }) :
    wpAny (model prog w) A (call (.builtin "min") [.ref l]) Q E s := by
  have hname : (toString "min" ++ toString ".loop" : String) = "min.loop" := by decide
  have hlt : l < s.heap.objs.size := by obtain ⟨_, e, _⟩ := hl; exact Heap.lt_size e
  refine call_function_tree F.kind_min F.plain_min F.entry_min (F.args_min1 _) ?_
  show wpAny _ A.in1 (Builtin.Builtins.bindParams "min" ["key", "default"] 0 ⟨[], []⟩ >>= _) _ _ s
  refine wpAny_bind (wpAny_of_eq (show Builtin.Builtins.bindParams "min" ["key", "default"] 0 ⟨[], []⟩ = pure [none, none] from rfl) ?_)
  refine wpAny_bind (wpAny_pure ?_)
  refine wpAny_bind (wpAny_pyIter_list hl ?_)
  refine wpAny_bind (wpAny_newObj_type ?_)
  rw [hname]
  have sz : (s.heap.push { cls := .type "list_iterator", data := .fields #[.ref l, .int 0 0] }).objs.size = s.heap.objs.size + 1 := Heap.size_push ..
  have hSf : (s.heap.push { cls := .type "list_iterator", data := .fields #[.ref l, .int 0 0] }).objs.size ∉ [s.heap.objs.size, l] := by
    rw [sz]
    intro hm
    rcases List.mem_cons.mp hm with e | hm
    · exact absurd e (Nat.succ_ne_self _)
    · have e := List.mem_singleton.mp hm
      exact absurd (e ▸ Nat.lt_succ_of_lt hlt) (Nat.lt_irrefl _)
  have W := Walks.list (prog := prog) (w := w) (A := A.in1) hh s.heap.objs.size l (Nat.ne_of_lt hlt) items
  have hfr : ∀ b o, s.heap.get? b = some o → b ∉ [s.heap.objs.size] ∧ b ≠ (s.heap.push { cls := .type "list_iterator", data := .fields #[.ref l, .int 0 0] }).objs.size := fun b o e => by
    have hb := Heap.lt_size e
    refine ⟨fun hm => ?_, fun e' => ?_⟩
    · have := List.mem_singleton.mp hm
      exact absurd (this ▸ hb) (Nat.lt_irrefl _)
    · rw [sz] at e'
      exact absurd (e' ▸ hb) (Nat.not_lt_of_lt (Nat.lt_succ_self _))
  have hst : ((s.heap.push { cls := .type "list_iterator", data := .fields #[.ref l, .int 0 0] }).push { cls := .type "list", data := .seq #[] 0 }).IsListIter s.heap.objs.size l 0 ∧ ((s.heap.push { cls := .type "list_iterator", data := .fields #[.ref l, .int 0 0] }).push { cls := .type "list", data := .seq #[] 0 }).IsList l items :=
    ⟨⟨_, Heap.get?_push_of_some _ (Heap.get?_push_size _ rfl), rfl, rfl⟩, (hl.push _).push _⟩
  refine wpAny_pure ⟨plainId_quiet F.plain_min_loop _, min_loopH_first W bt hcmp _ hSf hfr hne hst (fun b o e => Heap.get?_push_of_some _ (Heap.get?_push_of_some _ e)) (Heap.get?_push_size _ rfl) fun v h' tk hP hk => ?_⟩
  exact h v h' tk hP fun b o e => hk b o (hfr b o e).1 (hfr b o e).2 (Heap.get?_push_of_some _ (Heap.get?_push_of_some _ e))
end
section
variable {X : Cx}
def dAt (bs : List (V × PyData)) (i : Nat) : PyData := (bs.map Prod.snd).getD i .none
def bestD (bs : List (V × PyData)) : Nat := argBest (fun i j => PySem.W.dataLt (dAt bs i) (dAt bs j)) (bs.length - 1)
def rMinD (K : PySem.W.Frag) : List V → Hp → VK → Prop := fun vs H Q => ∃ (a : Addr) (bs : List (V × PyData)), vs = [V.ref a] ∧ SqL K H a (bs.map Prod.fst) ∧ 0 < bs.length ∧ (∀ b ∈ bs, Dp K H b.1 b.2) ∧
  (∀ b ∈ bs, ∀ b' ∈ bs, PySem.W.alike b.2 b'.2 = true) ∧ (∀ b ∈ bs, b.2 ≠ .none ∧ b.2.depth ≤ 8) ∧ ∀ b, bs[bestD bs]? = some b → Q b.1 H
theorem cr_minD (hc : X.calm = true) (hu : X.A.units + 20 < cLine) : CallR X (.builtin "min") (rMinD X.K) := by
  intro pins s σ H vs us Q I r h
  obtain ⟨a, bs, rfl, hs, hne, hd, hal, hn, q⟩ := h
  obtain ⟨its, rv, hl, _⟩ := I.list hs
  rw [Vals.ref1 r]
  have hlen : its.length = bs.length := by
    have := rv.length
    rw [List.length_map] at this
    exact this.symm
  have dat : ∀ i u, its.toArray[i]? = some u → ∃ b ∈ bs, bs[i]? = some b ∧ dAt bs i = b.2 ∧ RelV b.1 u := by
    intro i u hi
    have hi' : its[i]? = some u := by simpa using hi
    have lt : i < bs.length := by
      have := (List.getElem?_eq_some_iff.mp hi').1
      omega
    have e1 : (bs.map Prod.fst)[i]? = some bs[i].1 := by simp [lt]
    obtain ⟨u', hu', ru⟩ := rv.get e1
    rw [hi'] at hu'
    cases hu'
    exact ⟨bs[i], List.getElem_mem lt, by simp [lt], by simp [dAt, lt], ru⟩
  refine call_min_listH (I.ok.hd hc) hl.isList (by simpa [hlen] using hne) (bt := fun i j => PySem.W.dataLt (dAt bs i) (dAt bs j)) (fun i j vi vj s' Q' E' hk hi hj hq => ?_) fun v h' tk hv hk => ?_
  · obtain ⟨b1, m1, _, e1, r1⟩ := dat i vi hi
    obtain ⟨b2, m2, _, e2, r2⟩ := dat j vj hj
    have hq2 : Q' (.bool (PySem.W.dataLt b1.2 b2.2)) s' := by
      have hq1 : Q' (.bool (PySem.W.dataLt (dAt bs i) (dAt bs j))) s' := hq
      rw [e1, e2] at hq1
      exact hq1
    obtain ⟨as1, p1⟩ := Dp.reads I b1.2 b1.1 vi (hd _ m1) r1
    obtain ⟨as2, p2⟩ := Dp.reads I b2.2 b2.1 vj (hd _ m2) r2
    have dp := (hn _ m1).2
    refine PySem.W.rcLt_alike b1.2 b2.2 X.A.in1 s' vi vj as1 as2 (PyProof.Rows.Reads.keeps hk p1) (PyProof.Rows.Reads.keeps hk p2) (hal _ m1 _ m2) (hn _ m1).1 ?_ X.prog X.w E' Q' hq2
    have : X.A.in1.units = X.A.units + 1 := rfl
    omega
  · obtain ⟨b, m, e, _, rb⟩ := dat _ v hv
    have e' : bs[bestD bs]? = some b := by
      have z : its.toArray.size = bs.length := by simp [hlen]
      rw [z] at e
      exact e
    exact ⟨b.1, H, I.kept hk, rb, q b e'⟩
end

/-! ### sorted -/
section
open PySem.W
variable {X : Cx}
theorem eachRel {bs : List (V × PyData)} : ∀ {us : List Value}, Vals (bs.map Prod.fst) us → EachIs (fun u (b : V × PyData) => RelV b.1 u) us bs := by
  induction bs with
  | nil => intro us h; cases h; exact .nil
  | cons b bs ih =>
    intro us h
    cases h with
    | cons r t => exact .cons r (ih t)
theorem relEach {bs : List (V × PyData)} : ∀ {us : List Value}, EachIs (fun u (b : V × PyData) => RelV b.1 u) us bs → Vals (bs.map Prod.fst) us := by
  induction bs with
  | nil => intro us h; cases h; exact .nil
  | cons b bs ih =>
    intro us h
    cases h with
    | cons r t => exact .cons r (ih t)
theorem eachReads {pins : List (Addr × Obj)} {σ : L2.St} {H : Hp} {s : Shared} (I : Inv X pins σ H s) {bs : List (V × PyData)} : ∀ {us : List Value}, Vals (bs.map Prod.fst) us → (∀ b ∈ bs, Dp X.K H b.1 b.2) → EachIs (fun u (b : V × PyData) => ∃ as, Reads s.heap u b.2 as) us bs := by
  induction bs with
  | nil => intro us h _; cases h; exact .nil
  | cons b bs ih =>
    intro us h hd
    cases h with
    | cons r t => exact .cons (Dp.reads I b.2 b.1 _ (hd b (List.mem_cons_self ..)) r) (ih t fun x hx => hd x (List.mem_cons_of_mem _ hx))
/-- the empty tuple alone -/
theorem sortsAt_one {prog : Program} {w : World} {A : Around} {s : Shared} {vs : List Value} (e : EachIs (fun v d => ∃ as, Reads s.heap v d as) vs [PyData.tuple []]) (hu : A.units + 20 < cLine) : SortsAt prog w A s (dataKind s.heap [.tuple []]) vs := by
  have hal : AllAlike [PyData.tuple []] := by
    intro d hd d' hd'
    rw [List.mem_singleton.mp hd, List.mem_singleton.mp hd']
    simp [alike, alikeAll]
  refine ⟨fun v hv => ?_, tuples' true, ?_, fun h2 => ?_⟩
  · obtain ⟨d, hd, as, r⟩ := e.left v hv
    exact ⟨_, dataKind_some hal hd r⟩
  · intro E x y a b Q ha hb hq
    obtain ⟨d, as, hd, ra, rfl⟩ := dataKind_inv ha
    obtain ⟨d', as', hd', rb, rfl⟩ := dataKind_inv hb
    rw [List.mem_singleton.mp hd] at ra hq
    rw [List.mem_singleton.mp hd'] at rb hq
    have hq' : Q (dataLt (.tuple []) (.tuple [])) s := hq
    rw [dataLt_tuple] at hq'
    cases ra with
    | @tuple l o xs n _ _ h1 h2 h3 h4 =>
      cases rb with
      | @tuple l' o' xs' n' _ _ k1 k2 k3 k4 =>
        have n1 : xs.size = 0 := by simpa using SeqAt.ReadsAll.length _ _ _ h4
        have n2 : xs'.size = 0 := by simpa using SeqAt.ReadsAll.length _ _ _ k4
        exact kat_lt h1 h3 k1 k3 (katLex_alike [] [] 0 _ _ _ _ h4 k4 (by simp [alikeAll]) (by
          have : PyData.depthAll [] = 0 := by simp [PyData.depthAll]
          omega) (fun hb _ x r t ex => nomatch ex) (by rw [n1, n2]; rfl) hq')
  · cases e with
    | cons _ t =>
      cases t
      exact absurd h2 (by simp)
/-- they can be sorted -/
def Sbl (bs : List (V × PyData)) : Prop := (∀ b ∈ bs, ∃ x r, b.2 = .tuple (x :: r)) ∨ ∃ v, bs = [(v, .tuple [])]
theorem sortsAt_of {prog : Program} {w : World} {A : Around} {s : Shared} {vs : List Value} {bs : List (V × PyData)} (e : EachIs (fun v (b : V × PyData) => ∃ as, Reads s.heap v b.2 as) vs bs) (hal : ∀ b ∈ bs, ∀ b' ∈ bs, alike b.2 b'.2 = true) (hk : Sbl bs) (hd : ∀ b ∈ bs, b.2.depth ≤ 8) (hu : A.units + 20 < cLine) :
    SortsAt prog w A s (dataKind s.heap (bs.map Prod.snd)) vs := by
  have e' := each_map (R := fun v d => ∃ as, Reads s.heap v d as) (Prod.snd : V × PyData → PyData) e
  rcases hk with hk | ⟨v, rfl⟩
  · refine SortsAt.data e' (fun d hd d' hd' => ?_) (.inl fun d hd => ?_) fun d hm => ?_
    · obtain ⟨b, hb, rfl⟩ := List.mem_map.mp hd
      obtain ⟨b', hb', rfl⟩ := List.mem_map.mp hd'
      exact hal b hb b' hb'
    · obtain ⟨b, hb, rfl⟩ := List.mem_map.mp hd
      exact hk b hb
    · obtain ⟨b, hb, rfl⟩ := List.mem_map.mp hm
      have := hd b hb
      omega
  · exact sortsAt_one e' hu
def sortD (bs : List (V × PyData)) : List (V × PyData) := bs.mergeSort (dataLe false Prod.snd)
def rSortD (K : PySem.W.Frag) : List V → Hp → VK → Prop := fun vs H Q => ∃ (a : Addr) (bs : List (V × PyData)), vs = [V.ref a] ∧ SqL K H a (bs.map Prod.fst) ∧ (∀ b ∈ bs, Dp K H b.1 b.2) ∧
  (∀ b ∈ bs, ∀ b' ∈ bs, alike b.2 b'.2 = true) ∧ Sbl bs ∧ (∀ b ∈ bs, b.2.depth ≤ 8) ∧ ∀ p, H p = none → Q (.ref p) (upd H p (.lst ((sortD bs).map Prod.fst)))
theorem cr_sortD (hu : X.A.units + 30 < cLine) : CallR X (.builtin "sorted") (rSortD X.K) := by
  intro pins s σ H vs us Q I r h
  obtain ⟨a, bs, rfl, hs, hd, hal, hk, hdp, q⟩ := h
  obtain ⟨its, rv, hl, hz⟩ := I.list hs
  rw [Vals.ref1 r]
  have hz' : bs.length ≤ sizeLine := by simpa using hz
  have hlen : its.length = bs.length := by
    have := rv.length
    rw [List.length_map] at this
    exact this.symm
  have er : EachIs (fun v (b : V × PyData) => ∃ as, Reads (sortingHeap (copyHeap s.heap its) (s.heap.objs.size + 1) its) v b.2 as) its bs := (eachReads I rv hd).mono fun _ _ ⟨as, x⟩ => ⟨as, PyProof.Rows.Reads.keeps (fun _ _ => sorting_copy_old) x⟩
  have alk : AllAlike (bs.map Prod.snd) := by
    intro d hm d' hm'
    obtain ⟨b, hb, rfl⟩ := List.mem_map.mp hm
    obtain ⟨b', hb', rfl⟩ := List.mem_map.mp hm'
    exact hal b hb b' hb'
  have S := sortsAt_of (prog := X.prog) (w := X.w) (A := X.A.in1.in1) (s := { s with heap := sortingHeap (copyHeap s.heap its) (s.heap.objs.size + 1) its }) er hal hk hdp (by
    have : X.A.in1.in1.units = X.A.units + 1 + 1 := rfl
    omega)
  refine sorted_vals hl.isList S (by rw [hlen]; exact hz') ?_
  have sv := sortVals_data (R := fun u (b : V × PyData) => RelV b.1 u) (enc := Prod.snd) false (eachRel rv) er alk
  obtain ⟨ep, he'⟩ := PyProof.Rows.sortedAll_at s.heap its (sortVals (dataKind (sortingHeap (copyHeap s.heap its) (s.heap.objs.size + 1) its) (bs.map Prod.snd)) false its its).toArray
  have rv2 := relEach sv
  have hlen2 : ((sortD bs).map Prod.fst).length ≤ sizeLine := by
    unfold sortD
    rw [List.length_map, (List.mergeSort_perm _ _).length_eq]
    exact hz'
  exact ⟨.ref _, upd H (s.heap.objs.size + 1) (.lst ((sortD bs).map Prod.fst)), I.laid (t' := s.toks) (fun _ _ => PyProof.Rows.sortedAll_old) (Nat.le_succ _) ⟨hlen2, _, ep, rv2, he'⟩, rfl, q _ (I.hok.fresh (Nat.le_succ _))⟩
/-- sorted(d), the keys of d pairs of ints -/
def kvP (es : List ((Int × Int) × V)) : List (List Key × V) := es.map fun e => ([.inl e.1.1, .inl e.1.2], e.2)
def dP (es : List ((Int × Int) × V)) : List PyData := es.map fun e => .tuple [.int e.1.1, .int e.1.2]
def rSortT (K : PySem.W.Frag) : List V → Hp → VK → Prop := fun vs H Q => ∃ (d : Addr) (es : List ((Int × Int) × V)), vs = [V.ref d] ∧ Rd H d (.dT (kvP es)) ∧
  ∀ (bs : List (V × PyData)), bs.map Prod.snd = dP es → (∀ b ∈ bs, Dp K H b.1 b.2) → ∀ p, H p = none → Q (.ref p) (upd H p (.lst ((sortD bs).map Prod.fst)))
theorem keysD {K : PySem.W.Frag} {H : Hp} : ∀ {es : List ((Int × Int) × V)} {qs : List Addr}, IsKeys H (kvP es) qs → ∃ bs : List (V × PyData), bs.map Prod.fst = qs.map V.ref ∧ bs.map Prod.snd = dP es ∧ ∀ b ∈ bs, Dp K H b.1 b.2
  | [], _, h => by
    cases h
    exact ⟨[], rfl, rfl, fun b hb => nomatch hb⟩
  | e :: es, _, h => by
    cases h with
    | @cons _ q _ qs h1 t =>
      obtain ⟨bs, e1, e2, e3⟩ := keysD (K := K) (es := es) t
      refine ⟨(.ref q, .tuple [.int e.1.1, .int e.1.2]) :: bs, ?_, ?_, fun b hb => ?_⟩
      · rw [List.map_cons, List.map_cons, e1]
      · rw [List.map_cons, e2]; rfl
      · rcases List.mem_cons.mp hb with rfl | hb
        · exact .tup (xs := [.int e.1.1, .int e.1.2]) (SqT.of h1) (.cons (.int _) (.cons (.int _) .nil))
        · exact e3 b hb
theorem cr_sortT (hc : X.calm = true) (hu : X.A.units + 30 < cLine) : CallR X (.builtin "sorted") (rSortT X.K) := by
  intro pins s σ H xs us Q I r h
  obtain ⟨d, es, rfl, hd, q⟩ := h
  rw [Vals.ref1 r]
  obtain ⟨z, hs, ks, pr, o, ens, ep, ho, hx, hdt, he, hn⟩ := (show ObjOk X.prog X.w H s.heap d (.dT (kvP es)) from hd.ok I.hok)
  have l1 : ens.size = ks.length := size_of_entries he
  have l2 : (kvP es).length = ks.length := Paired.length pr
  obtain ⟨bs, b1, b2, b3⟩ := keysD (K := X.K) (isKeys_of pr)
  have hal : ∀ b ∈ bs, ∀ b' ∈ bs, alike b.2 b'.2 = true := by
    intro b hb b' hb'
    have m : b.2 ∈ dP es := b2 ▸ List.mem_map_of_mem hb
    have m' : b'.2 ∈ dP es := b2 ▸ List.mem_map_of_mem hb'
    obtain ⟨e, _, e1⟩ := List.mem_map.mp m
    obtain ⟨e', _, e2⟩ := List.mem_map.mp m'
    rw [← e1, ← e2]
    simp [alike, alikeAll]
  have hk : Sbl bs := .inl fun b hb => by
    have m : b.2 ∈ dP es := b2 ▸ List.mem_map_of_mem hb
    obtain ⟨e, _, e1⟩ := List.mem_map.mp m
    exact ⟨_, _, e1.symm⟩
  have hdp : ∀ b ∈ bs, b.2.depth ≤ 8 := fun b hb => by
    have m : b.2 ∈ dP es := b2 ▸ List.mem_map_of_mem hb
    obtain ⟨e, _, e1⟩ := List.mem_map.mp m
    rw [← e1]
    simp [PyData.depth, PyData.depthAll]
  refine Calls.call_function_entry PyProof.Rows.kind_sorted PyProof.Rows.plain_sorted PyProof.Rows.entry_sorted (PyProof.Rows.args_sorted1 _) ?_
  unfold Builtin.«sorted»
  refine wpAny_bind (m := checkCount "sorted" 1 1 _) (wpAny_pure ?_)
  refine wpAny_bind (PySem.W.kdu_collect (A := X.A.in1) (kdl_raw hs hx hdt) (I.ok.hd hc) ho (by omega) fun h' tk acc kp it => ?_)
  have ea : acc.toList = ks.map fun x => Value.ref x.2.1 := by
    have hl : acc.toList.length = ks.length := by rw [Array.length_toList, it.1]; exact l1
    apply List.ext_getElem?
    intro j
    rw [List.getElem?_map]
    cases hj : acc.toList[j]? with
    | none =>
      have h1 := List.getElem?_eq_none_iff.mp hj
      rw [List.getElem?_eq_none (by omega)]
      all_goals rfl
    | some v =>
      obtain ⟨en, hen, hv⟩ := it.2 j v (by rw [← Array.getElem?_toList]; exact hj)
      have qe := entry_at he j
      rw [hen] at qe
      cases hb : ks[j]? with
      | none =>
        rw [hb] at qe
        exact nomatch (show some en = none from qe)
      | some b =>
        rw [hb] at qe
        have e2 : en = entryOfKey (tupleKind (mixKind X.prog X.w)) b := Option.some.inj qe
        rw [hv, e2]
        all_goals rfl
  have eb : acc.toList = (ks.map fun x => x.2.1).map Value.ref := by rw [ea, List.map_map]; all_goals rfl
  have rv : Vals (bs.map Prod.fst) acc.toList := by rw [eb, b1]; exact L2.vals_refs _
  have I1 : Inv X pins σ H { s with heap := h', toks := tk } := I.kept kp
  have hal' : acc.toList.length = bs.length := by
    have := rv.length
    rw [List.length_map] at this
    exact this.symm
  have hz' : bs.length ≤ sizeLine := by
    have e1 := congrArg List.length b2
    rw [List.length_map] at e1
    have e2 : (dP es).length = (kvP es).length := by simp [dP, kvP]
    omega
  refine wpAny_bind (wpAny_newList ?_ (by rw [hal']; exact hz'))
  have hoL : (h'.push (seqObj "list" acc.toList.toArray 0)).get? h'.objs.size = some (seqObj "list" acc.toList.toArray 0) := Heap.get?_push_size _ rfl
  show wpAny _ _ _ _ _ { s with heap := h'.push (seqObj "list" acc.toList.toArray 0), toks := tk }
  have old : ∀ b o, h'.get? b = some o → (sortingHeap (h'.push (seqObj "list" acc.toList.toArray 0)) h'.objs.size acc.toList).get? b = some o := fun b o e =>
    sortingHeap_old (Nat.ne_of_lt (Heap.lt_size e)) (Heap.get?_push_of_some _ e)
  have er : EachIs (fun v (b : V × PyData) => ∃ as, Reads (sortingHeap (h'.push (seqObj "list" acc.toList.toArray 0)) h'.objs.size acc.toList) v b.2 as) acc.toList bs :=
    (eachReads I1 rv b3).mono fun _ _ ⟨as, x⟩ => ⟨as, PyProof.Rows.Reads.keeps old x⟩
  have alk : AllAlike (bs.map Prod.snd) := by
    intro d hm d' hm'
    obtain ⟨b, hb, rfl⟩ := List.mem_map.mp hm
    obtain ⟨b', hb', rfl⟩ := List.mem_map.mp hm'
    exact hal b hb b' hb'
  have S := sortsAt_of (prog := X.prog) (w := X.w) (A := X.A.in1.in1) (s := { s with heap := sortingHeap (h'.push (seqObj "list" acc.toList.toArray 0)) h'.objs.size acc.toList, toks := tk }) er hal hk hdp (by
    have : X.A.in1.in1.units = X.A.units + 1 + 1 := rfl
    omega)
  have sv := sortVals_data (R := fun u (b : V × PyData) => RelV b.1 u) (enc := Prod.snd) false (eachRel rv) er alk
  have rv2 := relEach sv
  have hlen2 : ((sortD bs).map Prod.fst).length ≤ sizeLine := by
    unfold sortD
    rw [List.length_map, (List.mergeSort_perm _ _).length_eq]
    exact hz'
  obtain ⟨e', he'⟩ := PyProof.Rows.sortedHeap_at (vs := acc.toList) (out := (sortVals (dataKind (sortingHeap (h'.push (seqObj "list" acc.toList.toArray 0)) h'.objs.size acc.toList) (bs.map Prod.snd)) false acc.toList acc.toList).toArray) hoL
  refine wpAny_bind (wpAny_holding (wpAny_call_entry PyProof.Rows.slot_list_sort ⟨_, hoL, rfl⟩ PyProof.Rows.entry_list_sort
    (list_sort_vals (s := { s with heap := h'.push (seqObj "list" acc.toList.toArray 0), toks := tk }) hoL S (by rw [hal']; exact hz') ⟨_, rfl, ?_⟩) (PyProof.Rows.args_list_sort _)))
  refine wpAny_pure ⟨_, rfl, .ref h'.objs.size, upd H h'.objs.size (.lst ((sortD bs).map Prod.fst)), I1.laid (t' := tk) (fun b u e => ?_) (Nat.le_refl _)
    (show ObjOk X.prog X.w _ _ _ (.lst ((sortD bs).map Prod.fst)) from ⟨hlen2, _, e', rv2, he'⟩), rfl, q bs b2 b3 _ (I1.hok.fresh (Nat.le_refl _))⟩
  have hb : b < h'.objs.size := Heap.lt_size e
  rw [PyProof.Rows.sortedHeap_old (Nat.ne_of_lt hb) (by rw [size_push']; exact Nat.lt_succ_of_lt hb)]
  exact Heap.get?_push_of_some _ e
end
end Lk

set_option Elab.async false
set_option linter.all false
set_option maxRecDepth 100000
set_option maxHeartbeats 4000000
namespace Lk
open PySem PySem.Spec PyProof.Rows L2
/-! ### data: inversion, keeping -/
section
variable {K : PySem.W.Frag} {H H' H1 H2 : Hp}
mutual
def lf : PyData → Bool
  | .list _ => false
  | .dict _ => false
  | .tuple xs => lfAll xs
  | _ => true
def lfAll : List PyData → Bool
  | [] => true
  | d :: ds => lf d && lfAll ds
end
theorem lf_int (i : Int) : lf (.int i) = true := by simp [lf]
theorem lf_none : lf .none = true := by simp [lf]
theorem lf_tup (ds : List PyData) : lf (.tuple ds) = lfAll ds := by simp [lf]
theorem lfAll_of : ∀ {ds : List PyData}, (∀ d ∈ ds, lf d = true) → lfAll ds = true
  | [], _ => by simp [lfAll]
  | d :: ds, h => by
    rw [lfAll, h d (List.mem_cons_self ..), lfAll_of fun x hx => h x (List.mem_cons_of_mem _ hx)]
    rfl
theorem lfAll_mem : ∀ {ds : List PyData}, lfAll ds = true → ∀ d ∈ ds, lf d = true
  | d :: ds, h, x, hx => by
    rw [lfAll, Bool.and_eq_true] at h
    rcases List.mem_cons.mp hx with rfl | hx
    · exact h.1
    · exact lfAll_mem h.2 x hx
/-- tuples that are read stay -/
def KeepT (K : PySem.W.Frag) (H H' : Hp) : Prop := ∀ a xs, SqT K H a xs → SqT K H' a xs
theorem KeepT.refl : KeepT K H H := fun _ _ h => h
theorem KeepT.trans (a : KeepT K H H1) (b : KeepT K H1 H2) : KeepT K H H2 := fun c xs h => b c xs (a c xs h)
theorem same_seqT {a : Addr} {xs : List V} (e : Same H H') (h : SqT K H a xs) : SqT K H' a xs := by
  rcases h with (h | ⟨o, h⟩) | h
  · exact .inl (.inl (e _ _ h))
  · exact .inl (.inr ⟨o, e _ _ h⟩)
  · exact .inr h
theorem same_keepT (e : Same H H') : KeepT K H H' := fun _ _ h => same_seqT e h
/-- another thing than a tuple or a locked thing is changed -/
theorem keepT_upd {D : Addr} {o u : HO} (h : H D = some u) (h1 : ∀ xs, u ≠ .tup xs) (h2 : ∀ ob v, u ≠ .frz ob v) : KeepT K H (upd H D o) := by
  intro a xs q
  rcases q with (q | ⟨ob, q⟩) | q
  · refine .inl (.inl ?_)
    rw [upd_ne fun e => ?_]
    · exact q
    · rw [e, h] at q
      exact h1 _ (Option.some.inj q)
  · refine .inl (.inr ⟨ob, ?_⟩)
    rw [upd_ne fun e => ?_]
    · exact q
    · rw [e, h] at q
      exact h2 _ _ (Option.some.inj q)
  · exact .inr q
theorem keepT_lst {D : Addr} {o : HO} {xs : List V} (h : H D = some (.lst xs)) : KeepT K H (upd H D o) := keepT_upd h (fun _ e => by cases e) (fun _ _ e => by cases e)
theorem same_new {p : Addr} {o : HO} (h : H p = none) : Same H (upd H p o) := fun b u q => by
  rw [upd_ne (ne_of_none q h)]
  exact q
theorem same_in {D : Addr} {o : HO} (s : Same H1 H) (h : H1 D = none) : Same H1 (upd H D o) := fun b u q => by
  rw [upd_ne (ne_of_none q h)]
  exact s _ _ q
mutual
theorem dp_keep (k : KeepT K H H') : ∀ (d : PyData) (v : V), lf d = true → Dp K H v d → Dp K H' v d
  | .none, _, _, h => by cases h; exact .non
  | .bool b, _, _, h => by cases h; exact .bl b
  | .int i, _, _, h => by cases h; exact .int i
  | .str x, _, _, h => by cases h; exact .str x
  | .list ds, _, l, h => by simp [lf] at l
  | .dict ds, _, l, h => by simp [lf] at l
  | .tuple ds, _, l, h => by
    cases h with
    | tup q a => exact .tup (k _ _ q) (dpa_keep k ds _ (by rwa [lf] at l) a)
theorem dpa_keep (k : KeepT K H H') : ∀ (ds : List PyData) (vs : List V), lfAll ds = true → DpAll K H vs ds → DpAll K H' vs ds
  | [], _, _, h => by cases h; exact .nil
  | d :: ds, _, l, h => by
    rw [lfAll, Bool.and_eq_true] at l
    cases h with
    | cons a b => exact .cons (dp_keep k d _ l.1 a) (dpa_keep k ds _ l.2 b)
end
mutual
theorem dp_same (e : Same H H') : ∀ (d : PyData) (v : V), Dp K H v d → Dp K H' v d
  | .none, _, h => by cases h; exact .non
  | .bool b, _, h => by cases h; exact .bl b
  | .int i, _, h => by cases h; exact .int i
  | .str x, _, h => by cases h; exact .str x
  | .list ds, _, h => by
    cases h with
    | lst q a => exact .lst (e.seq q) (dpa_same e ds _ a)
  | .dict ds, _, h => by cases h
  | .tuple ds, _, h => by
    cases h with
    | tup q a => exact .tup (same_seqT e q) (dpa_same e ds _ a)
theorem dpa_same (e : Same H H') : ∀ (ds : List PyData) (vs : List V), DpAll K H vs ds → DpAll K H' vs ds
  | [], _, h => by cases h; exact .nil
  | d :: ds, _, h => by
    cases h with
    | cons a b => exact .cons (dp_same e d _ a) (dpa_same e ds _ b)
end
theorem dp_int {v : V} {i : Int} (h : Dp K H v (.int i)) : v = .int i := by cases h; rfl
theorem dp_non {v : V} (h : Dp K H v .none) : v = .non := by cases h; rfl
theorem dp_tup {v : V} {ds : List PyData} (h : Dp K H v (.tuple ds)) : ∃ a xs, v = .ref a ∧ SqT K H a xs ∧ DpAll K H xs ds := by
  cases h with
  | tup q a => exact ⟨_, _, rfl, q, a⟩
theorem dp_lst {v : V} {ds : List PyData} (h : Dp K H v (.list ds)) : ∃ a xs, v = .ref a ∧ SqL K H a xs ∧ DpAll K H xs ds := by
  cases h with
  | lst q a => exact ⟨_, _, rfl, q, a⟩
theorem dpa_len : ∀ {vs : List V} {ds : List PyData}, DpAll K H vs ds → vs.length = ds.length
  | _, _, .nil => rfl
  | _, _, .cons _ t => congrArg Nat.succ (dpa_len t)
theorem dpa_get : ∀ {vs : List V} {ds : List PyData} {i : Nat} {d : PyData}, DpAll K H vs ds → ds[i]? = some d → ∃ v, vs[i]? = some v ∧ Dp K H v d
  | _, _, _, _, .nil, e => by simp at e
  | _, _, 0, _, .cons h _, e => ⟨_, rfl, by
    have := Option.some.inj e
    subst this
    exact h⟩
  | _, _, i + 1, _, .cons _ t, e => dpa_get (i := i) t (by simpa using e)
theorem dpa_getV : ∀ {vs : List V} {ds : List PyData} {i : Nat} {v : V}, DpAll K H vs ds → vs[i]? = some v → ∃ d, ds[i]? = some d ∧ Dp K H v d
  | _, _, _, _, .nil, e => by simp at e
  | _, _, 0, _, .cons h _, e => ⟨_, rfl, by
    have := Option.some.inj e
    subst this
    exact h⟩
  | _, _, i + 1, _, .cons _ t, e => dpa_getV (i := i) t (by simpa using e)
theorem dpa_app : ∀ {vs ws : List V} {ds es : List PyData}, DpAll K H vs ds → DpAll K H ws es → DpAll K H (vs ++ ws) (ds ++ es)
  | _, _, _, _, .nil, q => q
  | _, _, _, _, .cons h t, q => .cons h (dpa_app t q)
theorem dpa_one {v : V} {d : PyData} (h : Dp K H v d) : DpAll K H [v] [d] := .cons h .nil
theorem dpa_drop : ∀ (n : Nat) {vs : List V} {ds : List PyData}, DpAll K H vs ds → DpAll K H (vs.drop n) (ds.drop n)
  | 0, _, _, h => h
  | _ + 1, _, _, .nil => .nil
  | n + 1, _, _, .cons _ t => dpa_drop n t
theorem dpa_ints : ∀ {vs : List V} {ns : List Int}, DpAll K H vs (ns.map .int) → vs = ns.map V.int
  | _, [], h => by cases h; rfl
  | _, n :: ns, h => by
    cases h with
    | cons a b => rw [dp_int a, dpa_ints b]; rfl
theorem dpa_of_ints : ∀ (ns : List Int), DpAll K H (ns.map V.int) (ns.map .int)
  | [] => .nil
  | n :: ns => .cons (.int n) (dpa_of_ints ns)
/-- a list's items told by a list of one's own -/
theorem dpa_getM {ε : Type} {enc : ε → PyData} {vs : List V} {es : List ε} {i : Nat} {e : ε} (h : DpAll K H vs (es.map enc)) (q : es[i]? = some e) : ∃ v, vs[i]? = some v ∧ Dp K H v (enc e) := dpa_get h (by simp [q])
theorem dpa_getMV {ε : Type} {enc : ε → PyData} {vs : List V} {es : List ε} {i : Nat} {v : V} (h : DpAll K H vs (es.map enc)) (q : vs[i]? = some v) : ∃ e, es[i]? = some e ∧ Dp K H v (enc e) := by
  obtain ⟨d, e1, e2⟩ := dpa_getV h q
  rw [List.getElem?_map] at e1
  cases e3 : es[i]? with
  | none => rw [e3] at e1; cases e1
  | some e =>
    rw [e3] at e1
    have := Option.some.inj e1
    subst this
    exact ⟨e, rfl, e2⟩
end

/-! ### the encodings -/
abbrev nI (x : Nat) : PyData := .int (x : Int)
def encT (s : List Nat) : PyData := .tuple (s.map nI)
def encP (p : Nat × Nat) : PyData := .tuple [nI p.1, nI p.2]
def encR (r : Nat × Nat × Nat) : PyData := .tuple [nI r.1, nI r.2.1, nI r.2.2]
def encN (n : Nat) (rods : List (Nat × Nat × Nat)) : PyData := .tuple [nI n, .tuple (rods.map encR)]
def encRow (n : Nat) (h : Nat → Nat) : PyData := .tuple ((List.range n).map fun i => nI (h i))
theorem lf_encT (s : List Nat) : lf (encT s) = true := by
  rw [encT, lf_tup]
  refine lfAll_of fun d hd => ?_
  obtain ⟨x, _, rfl⟩ := List.mem_map.mp hd
  exact lf_int _
theorem lf_encP (p : Nat × Nat) : lf (encP p) = true := by simp [encP, lf, lfAll]
theorem lf_encR (r : Nat × Nat × Nat) : lf (encR r) = true := by simp [encR, lf, lfAll]
theorem lf_map {ε : Type} {enc : ε → PyData} (h : ∀ e, lf (enc e) = true) (es : List ε) : lfAll (es.map enc) = true := by
  refine lfAll_of fun d hd => ?_
  obtain ⟨x, _, rfl⟩ := List.mem_map.mp hd
  exact h x
theorem lf_encN (n : Nat) (rods : List (Nat × Nat × Nat)) : lf (encN n rods) = true := by
  rw [encN, lf_tup, lfAll, lf_int, lfAll, lf_tup, lf_map lf_encR]
  rfl
theorem lf_encRow (n : Nat) (h : Nat → Nat) : lf (encRow n h) = true := by
  rw [encRow, lf_tup]
  refine lfAll_of fun d hd => ?_
  obtain ⟨x, _, rfl⟩ := List.mem_map.mp hd
  exact lf_int _

/-! ### a comprehension whose items are data without lists -/
section
variable {K : PySem.W.Frag} {J : It} {G : Hp → Prop} {Y : Nat → Hp → V → Hp → Prop}
theorem lc_lf {ε : Type} (es : List ε) {n : Nat} (w : Walk J n G Y) (hn : n = es.length) (hz : es.length < sizeLine) {g : TG} {tt : TT} {te : TE} {vs : List Nat} {σ : L2.St} {H1 : Hp} {D : Addr} {Qd : Hp → Prop} (hD : H1 D = none) (f : ε → Option PyData)
    (hf : ∀ e d, f e = some d → lf d = true) (hG : ∀ H, Same H1 H → G H)
    (hs : ∀ i e x H H' (NY : VK) (NN : Hp → Prop), es[i]? = some e → Same H1 H → Y i H x H' → (∀ y H4 d, Same H H4 → f e = some d → Dp K H4 y d → NY y H4) → (∀ H3, Same H H3 → f e = none → NN H3) →
      g x (wipe σ vs) H' fun σ2 H2 => wipe σ2 vs = wipe σ vs ∧ tt σ2 H2 fun b H3 => if b = true then te σ2 H3 NY else NN H3)
    (hd : ∀ H vs, Same H1 H → H D = some (.lst vs) → DpAll K H vs (es.filterMap f) → Qd H) :
    ∃ W : Nat → Nat → Hp → Prop, (∃ m, W 0 m (upd H1 D (.lst []))) ∧ ∀ i m H, W i m H →
      (J.stop i H ∧ Qd H) ∨ (J.go i H ∧ ∃ Nx : Hp → Prop, (∀ H', Nx H' → ∃ m', m' < m ∧ W (i + 1) m' H') ∧ ∀ x H', J.yld i H x H' → g x (wipe σ vs) H' fun σ2 H2 => wipe σ2 vs = wipe σ vs ∧ tt σ2 H2 fun b H3 =>
        if b = true then te σ2 H3 fun y H4 => ∃ acc, H4 D = some (.lst acc) ∧ acc.length < sizeLine ∧ Nx (upd H4 D (.lst (acc ++ [y]))) else Nx H3) := by
  have lfm : ∀ l : List ε, lfAll (l.filterMap f) = true := fun l => lfAll_of fun d hd => by
    obtain ⟨e, _, he⟩ := List.mem_filterMap.mp hd
    exact hf e d he
  refine lc_it w (fun i H => Same H1 H ∧ ∃ acc, H D = some (.lst acc) ∧ DpAll K H acc ((es.take i).filterMap f) ∧ acc.length ≤ i) ⟨same_new hD, [], upd_same, by simpa using DpAll.nil, Nat.zero_le _⟩ (fun i H _ p => hG H p.1) (fun i x H H' hi p y => ?_) (fun H p => ?_)
  · obtain ⟨s1, acc, eD, eA, hl⟩ := p
    have hi' : i < es.length := hn ▸ hi
    have ei : es[i]? = some es[i] := List.getElem?_eq_getElem hi'
    have tk : es.take (i + 1) = es.take i ++ [es[i]] := by rw [List.take_add_one, ei]; rfl
    refine hs i es[i] x H H' _ _ ei s1 y (fun v H4 d s4 fd dd => ?_) (fun H3 s3 fn => ?_)
    · have e4 : H4 D = some (.lst acc) := s4 _ _ eD
      refine ⟨acc, e4, by omega, same_in (s1.trans s4) hD, acc ++ [v], upd_same, ?_, by rw [List.length_append, List.length_singleton]; omega⟩
      rw [tk, List.filterMap_append]
      have one : [es[i]].filterMap f = [d] := by simp [fd]
      rw [one]
      exact dpa_app (dpa_keep (keepT_lst e4) _ _ (lfm _) (dpa_same s4 _ _ eA)) (dpa_one (dp_keep (keepT_lst e4) _ _ (hf _ _ fd) dd))
    · refine ⟨s1.trans s3, acc, s3 _ _ eD, ?_, by omega⟩
      rw [tk, List.filterMap_append]
      have one : [es[i]].filterMap f = [] := by simp [fn]
      rw [one, List.append_nil]
      exact dpa_same s3 _ _ eA
  · obtain ⟨s1, acc, eD, eA, hl⟩ := p
    rw [hn, List.take_length] at eA
    exact hd H acc s1 eD eA
/-- the same where there is no test -/
theorem lc_lfY {ε : Type} (es : List ε) {n : Nat} (w : Walk J n G Y) (hn : n = es.length) (hz : es.length < sizeLine) {g : TG} {te : TE} {vs : List Nat} {σ : L2.St} {H1 : Hp} {D : Addr} {Qd : Hp → Prop} (hD : H1 D = none) (f : ε → PyData)
    (hf : ∀ e, lf (f e) = true) (hG : ∀ H, Same H1 H → G H)
    (hs : ∀ i e x H H' (NY : VK), es[i]? = some e → Same H1 H → Y i H x H' → (∀ y H4, Same H H4 → Dp K H4 y (f e) → NY y H4) → g x (wipe σ vs) H' fun σ2 H2 => wipe σ2 vs = wipe σ vs ∧ te σ2 H2 NY)
    (hd : ∀ H vs, Same H1 H → H D = some (.lst vs) → DpAll K H vs (es.map f) → Qd H)
    (hg : ∀ x σ' H (Q Q' : L2.St → Hp → Prop), (∀ a b, Q a b → Q' a b) → g x σ' H Q → g x σ' H Q') :
    ∃ W : Nat → Nat → Hp → Prop, (∃ m, W 0 m (upd H1 D (.lst []))) ∧ ∀ i m H, W i m H →
      (J.stop i H ∧ Qd H) ∨ (J.go i H ∧ ∃ Nx : Hp → Prop, (∀ H', Nx H' → ∃ m', m' < m ∧ W (i + 1) m' H') ∧ ∀ x H', J.yld i H x H' → g x (wipe σ vs) H' fun σ2 H2 => wipe σ2 vs = wipe σ vs ∧ tYes σ2 H2 fun b H3 =>
        if b = true then te σ2 H3 fun y H4 => ∃ acc, H4 D = some (.lst acc) ∧ acc.length < sizeLine ∧ Nx (upd H4 D (.lst (acc ++ [y]))) else Nx H3) := by
  refine lc_lf (K := K) es w hn hz hD (fun e => some (f e)) (fun e d h => by cases h; exact hf e) hG (fun i e x H H' NY NN he s1 y ky kn => ?_) (fun H vs s1 eD dA => hd H vs s1 eD (by
    have e : es.filterMap (fun e => some (f e)) = es.map f := List.filterMap_eq_map' (f := f) ▸ rfl
    rwa [e] at dA))
  refine hg _ _ _ _ _ (fun σ2 H2 q => ⟨q.1, ?_⟩) (hs i e x H H' NY he s1 y fun y H4 s4 d => ky y H4 _ s4 rfl d)
  show if true = true then te σ2 H2 NY else NN H2
  rw [if_pos rfl]
  exact q.2
theorem qT {c : Prop} [Decidable c] {Q : VK} {H : Hp} (h : c) (q : Q (.bl true) H) : Q (.bl (decide c)) H := by
  rw [decide_eq_true h]
  exact q
theorem qF {c : Prop} [Decidable c] {Q : VK} {H : Hp} (h : ¬ c) (q : Q (.bl false) H) : Q (.bl (decide c)) H := by
  rw [decide_eq_false h]
  exact q
theorem iteD {c A B : Prop} [Decidable c] (hc : c) (h : A) : if decide c = true then A else B := by
  rw [if_pos (decide_eq_true hc)]
  exact h
theorem iteN {c A B : Prop} [Decidable c] (hc : ¬ c) (h : B) : if decide c = true then A else B := by
  rw [if_neg (by simp [hc])]
  exact h
section
variable {X : Cx}
/-- the same rules with their reading told (within a comprehension) -/
theorem kOp {f : Value → Value → Sem Value} (r : R2) (h : OpR X f r) : OpR X f r := h
theorem kIx (r : R2) (h : IxR X r) : IxR X r := h
theorem kCall {f : Value} (r : List V → Hp → VK → Prop) (h : CallR X f r) : CallR X f r := h
theorem kPI {tg it : Expr} (wi : TI) (h : PI X tg it wi) : PI X tg it wi := h
theorem pg_tupK (K : PySem.W.Frag) (n : Nat) (hK : X.K = K) {es : List Expr} {k : Nat} {t : TGs} {pos : Pos} (hc : X.calm = true) (h : PGs X es t)
    (hn : (assignEach es X.env).length = n := by rfl) (hst : (assignEach es X.env).findIdx? (·.1) = none := by rfl) : PG X (.Tuple es k pos) (gTup K n t) := by
  subst hK
  exact pg_tup hc h hn hst
end
def rLenS (K : PySem.W.Frag) : List V → Hp → VK → Prop := fun xs H Q => ∃ p ys, xs = [.ref p] ∧ (SqL K H p ys ∨ SqT K H p ys) ∧ Q (.int ys.length) H
theorem small {n : Nat} (h : n ≤ 10000) : n < sizeLine := Nat.lt_of_le_of_lt h (by decide)
theorem rangeIs {α : Type} {n i : Nat} {f : Nat → α} {x : α} (h : ((List.range n).map f)[i]? = some x) (hi : i < n) : x = f i := by
  have : ((List.range n).map f)[i]? = some (f i) := by simp [hi]
  rw [this] at h
  exact (Option.some.inj h).symm
theorem mapIs {α β : Type} {xs : List α} {i : Nat} {f : α → β} {x : β} {e : α} (h : (xs.map f)[i]? = some x) (he : xs[i]? = some e) : x = f e := by
  rw [List.getElem?_map, he] at h
  exact (Option.some.inj h).symm
theorem lt_of_at {α : Type} {xs : List α} {i : Nat} {x : α} (h : xs[i]? = some x) : i < xs.length := (List.getElem?_eq_some_iff.mp h).1
theorem range_at {n i e : Nat} (h : (List.range n)[i]? = some e) : i < n ∧ e = i := by
  have l := lt_of_at h
  rw [List.length_range] at l
  have : (List.range n)[i]? = some i := by simp [l]
  rw [this] at h
  exact ⟨l, (Option.some.inj h).symm⟩
theorem g_name {i : Nat} : ∀ x σ' H (Q Q' : L2.St → Hp → Prop), (∀ a b, Q a b → Q' a b) → gName i x σ' H Q → gName i x σ' H Q' := fun _ _ _ _ _ h q => h _ _ q
theorem g_two {K : PySem.W.Frag} {i j : Nat} : ∀ x σ' H (Q Q' : L2.St → Hp → Prop), (∀ a b, Q a b → Q' a b) → gTup K 2 (gCons (gName i) (gCons (gName j) gNil)) x σ' H Q → gTup K 2 (gCons (gName i) (gCons (gName j) gNil)) x σ' H Q' := by
  intro x σ' H Q Q' h q
  obtain ⟨a, xs, rfl, hq, hl, v, r, rfl, v2, r2, rfl, e, q⟩ := q
  exact ⟨a, _, rfl, hq, hl, v, _, rfl, v2, _, rfl, e, h _ _ q⟩
theorem at0 {α : Type} {xs : List α} {i : Nat} {x : α} (h : xs[i]? = some x) : atI xs (i : Int) = some x := atI_nat h
end
end Lk

set_option Elab.async false
set_option linter.all false
set_option maxRecDepth 100000
set_option maxHeartbeats 4000000
namespace Lk
open PySem PySem.Spec PyProof.Rows L2
/-! ### the text -/
def topS (i : Nat) : Stmt := PySem.Challenge.pw_littowers_k24_whole_fewest_places.main.body.getD i (.Pass ⟨0, 0, 0, 0⟩)
abbrev st_whole : Stmt := topS 10
abbrev nm_whole : List Str := ["value"]
theorem sc_whole : FnScope ["value"] ["value"] (defScope st_whole) := ⟨rfl, rfl, rfl, by decide +kernel, rfl, by decide +kernel, by decide +kernel⟩
abbrev st_within : Stmt := topS 11
abbrev nm_within : List Str := ["value", "low", "high"]
theorem sc_within : FnScope ["value", "low", "high"] ["value", "low", "high"] (defScope st_within) := ⟨rfl, rfl, rfl, by decide +kernel, rfl, by decide +kernel, by decide +kernel⟩
abbrev st_tuple_of : Stmt := topS 12
abbrev nm_tuple_of : List Str := ["value", "low", "high"]
theorem sc_tuple_of : FnScope ["value", "low", "high"] ["value", "low", "high"] (defScope st_tuple_of) := ⟨rfl, rfl, rfl, by decide +kernel, rfl, by decide +kernel, by decide +kernel⟩
abbrev st_is_rod : Stmt := topS 13
abbrev nm_is_rod : List Str := ["many", "value", "told"]
theorem sc_is_rod : FnScope ["many", "value", "told"] ["many", "value"] (defScope st_is_rod) := ⟨rfl, rfl, rfl, by decide +kernel, rfl, by decide +kernel, by decide +kernel⟩
abbrev st_need_net : Stmt := topS 14
abbrev nm_need_net : List Str := ["value", "many", "rods", "index", "rod", "seen", "turn", "one", "other", "length"]
theorem sc_need_net : FnScope ["value", "many", "rods", "index", "rod", "seen", "turn", "one", "other", "length"] ["value"] (defScope st_need_net) := ⟨rfl, rfl, rfl, by decide +kernel, rfl, by decide +kernel, by decide +kernel⟩
abbrev st_need_row : Stmt := topS 15
abbrev nm_need_row : List Str := ["net", "row", "index", "height"]
theorem sc_need_row : FnScope ["net", "row", "index", "height"] ["net", "row"] (defScope st_need_row) := ⟨rfl, rfl, rfl, by decide +kernel, rfl, by decide +kernel, by decide +kernel⟩
abbrev st_need_prices : Stmt := topS 16
abbrev nm_need_prices : List Str := ["net", "prices", "price"]
theorem sc_need_prices : FnScope ["net", "prices", "price"] ["net", "prices"] (defScope st_need_prices) := ⟨rfl, rfl, rfl, by decide +kernel, rfl, by decide +kernel, by decide +kernel⟩
abbrev st_table_of : Stmt := topS 18
abbrev nm_table_of : List Str := ["net", "many", "rods", "one", "other", "found", "length", "middle"]
theorem sc_table_of : FnScope ["net", "many", "rods", "one", "other", "found", "length", "middle"] ["net"] (defScope st_table_of) := ⟨rfl, rfl, rfl, by decide +kernel, rfl, by decide +kernel, by decide +kernel⟩
abbrev st_spans : Stmt := topS 20
abbrev nm_spans : List Str := ["table", "told", "most", "found", "place", "known", "least", "one", "height", "far"]
theorem sc_spans : FnScope ["table", "told", "most", "found", "place", "known", "least", "one", "height", "far"] ["table", "told", "most"] (defScope st_spans) := ⟨rfl, rfl, rfl, by decide +kernel, rfl, by decide +kernel, by decide +kernel⟩
abbrev st_need_both : Stmt := topS 22
abbrev nm_need_both : List Str := ["net", "row"]
theorem sc_need_both : FnScope ["net", "row"] ["net", "row"] (defScope st_need_both) := ⟨rfl, rfl, rfl, by decide +kernel, rfl, by decide +kernel, by decide +kernel⟩
abbrev st_bad_pairs : Stmt := topS 23
abbrev nm_bad_pairs : List Str := ["net", "row", "table"]
theorem sc_bad_pairs : FnScope ["net", "row", "table"] ["net", "row"] (defScope st_bad_pairs) := ⟨rfl, rfl, rfl, by decide +kernel, rfl, by decide +kernel, by decide +kernel⟩
abbrev st_pairs_of : Stmt := topS 24
abbrev nm_pairs_of : List Str := ["table", "row", "found", "one", "other"]
theorem sc_pairs_of : FnScope ["table", "row", "found", "one", "other"] ["table", "row"] (defScope st_pairs_of) := ⟨rfl, rfl, rfl, by decide +kernel, rfl, by decide +kernel, by decide +kernel⟩
abbrev st_subsets : Stmt := topS 25
abbrev nm_subsets : List Str := ["many", "found", "place", "told"]
theorem sc_subsets : FnScope ["many", "found", "place", "told"] ["many"] (defScope st_subsets) := ⟨rfl, rfl, rfl, by decide +kernel, rfl, by decide +kernel, by decide +kernel⟩
abbrev st_covers : Stmt := topS 26
abbrev nm_covers : List Str := ["pairs", "places", "one", "other"]
theorem sc_covers : FnScope ["pairs", "places", "one", "other"] ["pairs", "places"] (defScope st_covers) := ⟨rfl, rfl, rfl, by decide +kernel, rfl, by decide +kernel, by decide +kernel⟩
abbrev st_fewest_places : Stmt := topS 27
abbrev nm_fewest_places : List Str := ["net", "row", "pairs", "told"]
theorem sc_fewest_places : FnScope ["net", "row", "pairs", "told"] ["net", "row"] (defScope st_fewest_places) := ⟨rfl, rfl, rfl, by decide +kernel, rfl, by decide +kernel, by decide +kernel⟩
abbrev st_cheapest_places : Stmt := topS 28
abbrev nm_cheapest_places : List Str := ["net", "prices", "row", "pairs", "some", "told", "place"]
theorem sc_cheapest_places : FnScope ["net", "prices", "row", "pairs", "some", "told", "place"] ["net", "prices", "row"] (defScope st_cheapest_places) := ⟨rfl, rfl, rfl, by decide +kernel, rfl, by decide +kernel, by decide +kernel⟩
abbrev st_mended : Stmt := topS 29
abbrev nm_mended : List Str := ["net", "row", "places", "told", "place", "height", "pair"]
theorem sc_mended : FnScope ["net", "row", "places", "told", "place", "height", "pair"] ["net", "row"] (defScope st_mended) := ⟨rfl, rfl, rfl, by decide +kernel, rfl, by decide +kernel, by decide +kernel⟩
abbrev st_number_of_fewest : Stmt := topS 30
abbrev nm_number_of_fewest : List Str := ["net", "row", "pairs", "size", "told"]
theorem sc_number_of_fewest : FnScope ["net", "row", "pairs", "size", "told"] ["net", "row"] (defScope st_number_of_fewest) := ⟨rfl, rfl, rfl, by decide +kernel, rfl, by decide +kernel, by decide +kernel⟩
abbrev st_disjoint_pairs : Stmt := topS 31
abbrev nm_disjoint_pairs : List Str := ["net", "row"]
theorem sc_disjoint_pairs : FnScope ["net", "row"] ["net", "row"] (defScope st_disjoint_pairs) := ⟨rfl, rfl, rfl, by decide +kernel, rfl, by decide +kernel, by decide +kernel⟩
abbrev st_matched : Stmt := topS 32
abbrev nm_matched : List Str := ["pairs", "one", "other", "rest", "pair"]
theorem sc_matched : FnScope ["pairs", "one", "other", "rest", "pair"] ["pairs"] (defScope st_matched) := ⟨rfl, rfl, rfl, by decide +kernel, rfl, by decide +kernel, by decide +kernel⟩
abbrev st_l_pairs : Stmt := topS 34
abbrev nm_l_pairs : List Str := ["_law_many", "_law_found", "_law_one", "_law_other"]
theorem sc_l_pairs : FnScope ["_law_many", "_law_found", "_law_one", "_law_other"] ["_law_many"] (defScope st_l_pairs) := ⟨rfl, rfl, rfl, by decide +kernel, rfl, by decide +kernel, by decide +kernel⟩
abbrev st_l_gaps : Stmt := topS 35
abbrev nm_l_gaps : List Str := ["_law_far_here", "_law_row", "_law_pair"]
theorem sc_l_gaps : FnScope ["_law_far_here", "_law_row", "_law_pair"] ["_law_far_here", "_law_row"] (defScope st_l_gaps) := ⟨rfl, rfl, rfl, by decide +kernel, rfl, by decide +kernel, by decide +kernel⟩
abbrev st_l_taken : Stmt := topS 36
abbrev nm_l_taken : List Str := ["_law_row", "_law_many", "_law_found", "_law_cell"]
theorem sc_l_taken : FnScope ["_law_row", "_law_many", "_law_found", "_law_cell"] ["_law_row", "_law_many"] (defScope st_l_taken) := ⟨rfl, rfl, rfl, by decide +kernel, rfl, by decide +kernel, by decide +kernel⟩
abbrev st_l_net : Stmt := topS 37
abbrev nm_l_net : List Str := ["_law_row", "_law_most", "_law_long", "_law_many", "_law_rods", "_law_place", "_law_turn", "_law_one", "_law_other"]
theorem sc_l_net : FnScope ["_law_row", "_law_most", "_law_long", "_law_many", "_law_rods", "_law_place", "_law_turn", "_law_one", "_law_other"] ["_law_row", "_law_most", "_law_long"] (defScope st_l_net) := ⟨rfl, rfl, rfl, by decide +kernel, rfl, by decide +kernel, by decide +kernel⟩
abbrev st_l_pick : Stmt := topS 38
abbrev nm_l_pick : List Str := ["_law_row", "_law_things"]
theorem sc_l_pick : FnScope ["_law_row", "_law_things"] ["_law_row", "_law_things"] (defScope st_l_pick) := ⟨rfl, rfl, rfl, by decide +kernel, rfl, by decide +kernel, by decide +kernel⟩
abbrev st_l_far : Stmt := topS 39
abbrev nm_l_far : List Str := ["_law_net_here", "_law_many", "_law_one", "_law_other", "_law_found", "_law_turn", "_law_length", "_law_place"]
theorem sc_l_far : FnScope ["_law_net_here", "_law_many", "_law_one", "_law_other", "_law_found", "_law_turn", "_law_length", "_law_place"] ["_law_net_here"] (defScope st_l_far) := ⟨rfl, rfl, rfl, by decide +kernel, rfl, by decide +kernel, by decide +kernel⟩
abbrev st_l_slope : Stmt := topS 40
abbrev nm_l_slope : List Str := ["_law_row", "_law_net_here", "_law_most", "_law_far_here", "_law_found", "_law_place", "_law_least", "_law_limit", "_law_one"]
theorem sc_l_slope : FnScope ["_law_row", "_law_net_here", "_law_most", "_law_far_here", "_law_found", "_law_place", "_law_least", "_law_limit", "_law_one"] ["_law_row", "_law_net_here", "_law_most"] (defScope st_l_slope) := ⟨rfl, rfl, rfl, by decide +kernel, rfl, by decide +kernel, by decide +kernel⟩
abbrev st_l_alike : Stmt := topS 41
abbrev nm_l_alike : List Str := ["_law_found", "_law_due", "_law_k"]
theorem sc_l_alike : FnScope ["_law_found", "_law_due", "_law_k"] ["_law_found", "_law_due"] (defScope st_l_alike) := ⟨rfl, rfl, rfl, by decide +kernel, rfl, by decide +kernel, by decide +kernel⟩
abbrev st_l_sets : Stmt := topS 42
abbrev nm_l_sets : List Str := ["_law_many", "_law_found", "_law_place", "_law_told"]
theorem sc_l_sets : FnScope ["_law_many", "_law_found", "_law_place", "_law_told"] ["_law_many"] (defScope st_l_sets) := ⟨rfl, rfl, rfl, by decide +kernel, rfl, by decide +kernel, by decide +kernel⟩
abbrev st_l_most_pairs : Stmt := topS 43
abbrev nm_l_most_pairs : List Str := ["_law_pairs_here", "_law_rest", "_law_pair"]
theorem sc_l_most_pairs : FnScope ["_law_pairs_here", "_law_rest", "_law_pair"] ["_law_pairs_here"] (defScope st_l_most_pairs) := ⟨rfl, rfl, rfl, by decide +kernel, rfl, by decide +kernel, by decide +kernel⟩
abbrev st_law : Stmt := topS 44
abbrev nm_law : List Str := ["_law_script", "_law_row", "_law_net_here", "_law_many", "_law_far_here", "_law_heights", "_law_turn", "_law_prices", "_law_pairs_here", "_law_good", "_law_told", "_law_rest", "_law_size", "_law_short", "_law_costs", "_law_kept", "_law_due", "_law_most", "_law_found", "_law_place", "_law_pair", "_law_one"]
theorem sc_law : FnScope ["_law_script", "_law_row", "_law_net_here", "_law_many", "_law_far_here", "_law_heights", "_law_turn", "_law_prices", "_law_pairs_here", "_law_good", "_law_told", "_law_rest", "_law_size", "_law_short", "_law_costs", "_law_kept", "_law_due", "_law_most", "_law_found", "_law_place", "_law_pair", "_law_one"] ["_law_script"] (defScope st_law) := ⟨rfl, rfl, rfl, by decide +kernel, rfl, by decide +kernel, by decide +kernel⟩
/-- a def that keeps a promise, as its callers use it -/
structure Has (P : Program) (w : World) (K : PySem.W.Frag) (mg : Str → Option Value) (base : Heap) (k : Nat) (x : Str) (ps : List Str) (sp : Sp) : Prop where
  fn : ∃ f fd, FnOk P w K mg base CX0 k f fd ps sp ∧ mg x = some (.ref f) ∧ PySem.W.keepIn K (.ref f) = true ∧ Binds K fd ps []
/-- a def as the head leaves it -/
def Std (K : PySem.W.Frag) (mg : Str → Option Value) (x : Str) (st : Stmt) : Prop := ∃ f fd, FunD K x x (defArgs st) (defBody st) (defScope st) [] [] f fd ∧ mg x = some (.ref f)
/-- the built-in names and the constants as the head leaves them -/
structure Bl (mg : Str → Option Value) : Prop where
  isi : mg "isinstance" = none
  int : mg "int" = none
  bool : mg "bool" = none
  tuple : mg "tuple" = none
  list : mg "list" = none
  str : mg "str" = none
  len : mg "len" = none
  all : mg "all" = none
  enum : mg "enumerate" = none
  range : mg "range" = none
  min : mg "min" = none
  max : mg "max" = none
  abs : mg "abs" = none
  sum : mg "sum" = none
  sorted : mg "sorted" = none
  places : ∃ t, mg "MOST_PLACES" = some (.int 8 t)
  length : ∃ t, mg "MOST_LENGTH" = some (.int 9 t)
  height : ∃ t, mg "MOST_HEIGHT" = some (.int 99 t)
  price : ∃ t, mg "MOST_PRICE" = some (.int 99 t)
section
variable {P : Program} {w : World} {K : PySem.W.Frag} {mg : Str → Option Value} {base : Heap}
theorem has_def {x : Str} {st : Stmt} {N ps : List Str} {k : Nat} {sp : Sp} (F : Std K mg x st) (S : FnScope N ps (defScope st))
    (hb : ∀ (kV doc pm : Value) (an : Option Addr) (cdv ct : Value) (us : List Value), us.length = ps.length → bindArgs (PySem.W.fnOf x x (defArgs st) (defBody st) (defScope st) .none kV doc pm an cdv ct) ⟨us, []⟩ = pure (ps.zip us))
    (len : ∀ vs H Q E, sp vs H Q E → vs.length = ps.length)
    (hbody : ∀ (f : Addr) (cdv : Value) (A : Around) (outer : List Env) (s : Shared) (H : Hp) (vs : List V) (Q : VK) (E : XK), Room k (A.deeper (envOfC x (defScope st) s.heap.objs.size f cdv)) → sp vs H Q E →
      ∃ t, PSs (cxOf CX0 P w K mg base N x (defScope st) f cdv A outer s H E).nox (defBody st) t ∧ t { nx := fun _ H' => Q .non H', rt := Q } (start N vs) H) : Has P w K mg base (k + 1) x ps sp := by
  obtain ⟨f, fd, F, m⟩ := F
  refine ⟨f, fd, F.ok S len fun cdv A outer s H vs Q E hr h => ?_, m, F.kp, F.bindsN hb⟩
  obtain ⟨t, h1, h2⟩ := hbody f cdv A outer s H vs Q E hr h
  exact ⟨t, PSs.nox h1, h2⟩
theorem Has.mono {x : Str} {ps : List Str} {j k : Nat} {sp : Sp} (c : Has P w K mg base j x ps sp) (h : j ≤ k) : Has P w K mg base k x ps sp := by
  obtain ⟨f, fd, F, m, kp, b⟩ := c.fn
  exact ⟨f, fd, F.mono h, m, kp, b⟩
theorem Has.imp {x : Str} {ps : List Str} {k : Nat} {sp sp' : Sp} (c : Has P w K mg base k x ps sp) (h : ∀ vs H Q E, sp' vs H Q E → sp vs H Q E) : Has P w K mg base k x ps sp' := by
  obtain ⟨f, fd, F, m, kp, b⟩ := c.fn
  exact ⟨f, fd, F.imp h, m, kp, b⟩
end
section
variable {X : Cx}
theorem pe_has {x : Str} {p pos : Pos} {e : Expr} {es : List Expr} {j k : Nat} {ps : List Str} {sp : Sp} {t : TA} (c : Has X.prog X.w X.K X.mg X.base k x ps sp) (hr : Room j X.A) (hk : k ≤ j) (hg : Gl X x) (ha : PA X (e :: es) t)
    (hdb : (x == ("__debug__" : Str)) = false := by decide) (he : starEach (e :: es) X.env = (false, eval e X.env) :: starEach es X.env := by rfl) (hpl : (backTo pos (starEach es X.env)).any (·.1) = false := by rfl) :
    PE X (.Call (.Name x p) (e :: es) [] pos) (tCall sp [] E0 t) := by
  obtain ⟨f, fd, F, m, kp, b⟩ := c.fn
  exact pe_call F (hr.mono hk) hg m kp b .nil pass0 ha hdb he hpl
theorem pe_con8 {x : Str} {i : Int} {pos : Pos} (hg : Gl X x) (hm : ∃ t, X.mg x = some (.int i t)) (hd : (x == ("__debug__" : Str)) = false := by decide) : PE X (.Name x pos) (tC (.int i)) := by
  obtain ⟨t, m⟩ := hm
  exact pe_glob hg m ⟨_, rfl⟩ hd
end
end Lk

set_option Elab.async false
set_option linter.all false
set_option maxRecDepth 100000
set_option maxHeartbeats 4000000
namespace Lk
open PySem PySem.Spec PyProof.Rows L2
section
variable {P : Program} {w : World} {K : PySem.W.Frag} {mg : Str → Option Value} {base : Heap}
theorem tyX_tup {H : Hp} {a : Addr} {xs : List V} (h : SqT K H a xs) : TyX K H (.ref a) (.type "tuple") := by
  rcases h with (h | ⟨o, h⟩) | ⟨o, its, n, h, hc, _⟩
  · exact .base (.tup h)
  · exact .fTuple h
  · exact .kTuple h hc
theorem tyX_lst {H : Hp} {a : Addr} {xs : List V} (h : SqL K H a xs) : TyX K H (.ref a) (.type "list") := by
  rcases h with (h | ⟨o, h⟩) | ⟨o, its, n, h, hc, _⟩
  · exact .base (.lst h)
  · exact .base (.frz h)
  · exact .kList h hc
def spWhole : Sp := fun vs H Q _ => ∃ i, vs = [.int i] ∧ Q (.bl true) H
theorem ok_whole (F : Std K mg "whole" st_whole) (B : Bl mg) : Has P w K mg base 1 "whole" ["value"] spWhole := by
  refine has_def F sc_whole (fun _ _ _ _ _ _ us hl => match us, hl with | [_], _ => rfl) (fun vs H Q E h => ?_) (fun f cdv A outer s H vs Q E hr h => ?_)
  · obtain ⟨i, rfl, _⟩ := h
    rfl
  · obtain ⟨i, rfl, q⟩ := h
    refine ⟨_, (pss_one (ps_ret (pe_and (pe_callB call_isi (by rfl) B.isi boot_isinstance (pa_cons (pv 0) (pa_cons (pe_bltn (v := .ty "int") (by rfl) B.int boot_int rfl) pa_nil))) (pe_one (pe_not (pe_callB call_isi (by rfl) B.isi boot_isinstance (pa_cons (pv 0) (pa_cons (pe_bltn (v := .ty "bool") (by rfl) B.bool boot_bool rfl) pa_nil)))))))), ?_⟩
    refine ⟨.int i, rfl, .int i, .ty "int", _, _, true, rfl, .ty "int", .base (.int i), kit_ty (by decide +kernel), true, rfl, iteT ?_⟩
    exact ⟨.int i, rfl, .int i, .ty "bool", _, _, false, rfl, .ty "bool", .base (.int i), kit_ty (by decide +kernel), false, rfl, q⟩
def spWithin : Sp := fun vs H Q _ => ∃ i l h : Int, vs = [.int i, .int l, .int h] ∧ (l ≤ i ∧ i ≤ h) ∧ Q (.bl true) H
theorem ok_within (F : Std K mg "within" st_within) (B : Bl mg) (c_whole : Has P w K mg base 1 "whole" ["value"] spWhole) : Has P w K mg base 2 "within" ["value", "low", "high"] spWithin := by
  refine has_def F sc_within (fun _ _ _ _ _ _ us hl => match us, hl with | [_, _, _], _ => rfl) (fun vs H Q E h => ?_) (fun f cdv A outer s H vs Q E hr h => ?_)
  · obtain ⟨i, l, h, rfl, _⟩ := h
    rfl
  · obtain ⟨i, l, h, rfl, ⟨h1, h2⟩, q⟩ := h
    refine ⟨_, (pss_one (ps_ret (pe_and (pe_has c_whole hr (by first | decide | exact Nat.le_refl _) (by rfl) (pa_cons (pv 0) pa_nil)) (pe_one (pe_chain op_le op_le (pv 1) (pv 0) (pv 2)))))), ?_⟩
    refine ⟨.int i, rfl, i, rfl, true, rfl, iteT ?_⟩
    refine ⟨.int l, rfl, .int i, rfl, _, _, rfl, rfl, _, rfl, ?_⟩
    refine iteD h1 ⟨.int h, rfl, _, _, rfl, rfl, ?_⟩
    exact qT h2 q
def spTupOf (K : PySem.W.Frag) : Sp := fun vs H Q _ => ∃ (a : Addr) (xs : List V) (l h : Int), vs = [.ref a, .int l, .int h] ∧ SqT K H a xs ∧ (l ≤ (xs.length : Int) ∧ (xs.length : Int) ≤ h) ∧ Q (.bl true) H
theorem ok_tuple_of (F : Std K mg "tuple_of" st_tuple_of) (B : Bl mg) : Has P w K mg base 1 "tuple_of" ["value", "low", "high"] (spTupOf K) := by
  refine has_def F sc_tuple_of (fun _ _ _ _ _ _ us hl => match us, hl with | [_, _, _], _ => rfl) (fun vs H Q E h => ?_) (fun f cdv A outer s H vs Q E hr h => ?_)
  · obtain ⟨a, xs, l, h, rfl, _⟩ := h
    rfl
  · obtain ⟨a, xs, l, h, rfl, hS, ⟨h1, h2⟩, q⟩ := h
    refine ⟨_, (pss_one (ps_ret (pe_and (pe_callB call_isi (by rfl) B.isi boot_isinstance (pa_cons (pv 0) (pa_cons (pe_bltn (v := .ty "tuple") (by rfl) B.tuple boot_tuple rfl) pa_nil))) (pe_one (pe_chain op_le op_le (pv 1) (pe_callB call_len_seq (by rfl) B.len PySem.boot_len (pa_cons (pv 0) pa_nil)) (pv 2)))))), ?_⟩
    refine ⟨.ref a, rfl, .ref a, .ty "tuple", _, _, true, rfl, .ty "tuple", tyX_tup hS, kit_ty (by decide +kernel), true, rfl, iteT ?_⟩
    refine ⟨.int l, rfl, .ref a, rfl, a, xs, rfl, .inr hS, _, _, rfl, rfl, _, rfl, ?_⟩
    refine iteD h1 ⟨.int h, rfl, _, _, rfl, rfl, ?_⟩
    exact qT h2 q
end
end Lk

set_option Elab.async false
set_option linter.all false
set_option maxRecDepth 100000
set_option maxHeartbeats 4000000
namespace Lk
open PySem PySem.Spec PyProof.Rows L2
/-! ### nats as values, the encodings read and made -/
abbrev vN (x : Nat) : V := .int (x : Int)
section
variable {K : PySem.W.Frag} {H : Hp}
theorem flat_nats : ∀ s : List Nat, (s.map vN).all flatV = true
  | [] => rfl
  | _ :: s => by
    rw [List.map_cons, List.all_cons, flat_nats s]
    rfl
theorem inV_nats (x : Nat) : ∀ s : List Nat, inV (vN x) (s.map vN) = s.contains x
  | [] => rfl
  | y :: s => by
    have ih := inV_nats x s
    unfold inV at *
    rw [List.map_cons, List.any_cons, ih, List.contains_cons]
    have : eqV (vN y) (vN x) = (x == y) := by
      show ((y : Int) == (x : Int)) = (x == y)
      rw [Bool.eq_iff_iff]
      simp only [beq_iff_eq]
      omega
    rw [this]
theorem dpa_nats {vs : List V} : ∀ {s : List Nat}, DpAll K H vs (s.map nI) → vs = s.map vN := fun {s} h => by
  have h2 : DpAll K H vs ((s.map fun x : Nat => (x : Int)).map .int) := by
    rw [List.map_map]
    exact h
  rw [dpa_ints h2, List.map_map]
  rfl
theorem dpa_of_nats (s : List Nat) : DpAll K H (s.map vN) (s.map nI) := by
  have := dpa_of_ints (K := K) (H := H) (s.map fun x : Nat => (x : Int))
  rw [List.map_map, List.map_map] at this
  exact this
theorem dp_encT {v : V} {s : List Nat} (h : Dp K H v (encT s)) : ∃ a, v = .ref a ∧ SqT K H a (s.map vN) := by
  obtain ⟨a, xs, rfl, q, d⟩ := dp_tup h
  rw [dpa_nats d] at q
  exact ⟨a, rfl, q⟩
theorem mk_encT {a : Addr} {s : List Nat} (h : SqT K H a (s.map vN)) : Dp K H (.ref a) (encT s) := .tup h (dpa_of_nats s)
theorem dp_encP {v : V} {p : Nat × Nat} (h : Dp K H v (encP p)) : ∃ a, v = .ref a ∧ SqT K H a [vN p.1, vN p.2] := dp_encT (s := [p.1, p.2]) h
theorem mk_encP {a : Addr} {p : Nat × Nat} (h : SqT K H a [vN p.1, vN p.2]) : Dp K H (.ref a) (encP p) := mk_encT (s := [p.1, p.2]) h
theorem dp_encR {v : V} {r : Nat × Nat × Nat} (h : Dp K H v (encR r)) : ∃ a, v = .ref a ∧ SqT K H a [vN r.1, vN r.2.1, vN r.2.2] := dp_encT (s := [r.1, r.2.1, r.2.2]) h
theorem mk_encR {a : Addr} {r : Nat × Nat × Nat} (h : SqT K H a [vN r.1, vN r.2.1, vN r.2.2]) : Dp K H (.ref a) (encR r) := mk_encT (s := [r.1, r.2.1, r.2.2]) h
theorem encRow_T (n : Nat) (h : Nat → Nat) : encRow n h = encT ((List.range n).map h) := by
  unfold encRow encT
  rw [List.map_map]
  rfl
theorem dp_encRow {v : V} {n : Nat} {h : Nat → Nat} (q : Dp K H v (encRow n h)) : ∃ a, v = .ref a ∧ SqT K H a ((List.range n).map fun i => vN (h i)) := by
  rw [encRow_T] at q
  obtain ⟨a, e, z⟩ := dp_encT q
  rw [List.map_map] at z
  exact ⟨a, e, z⟩
theorem mk_encRow {a : Addr} {n : Nat} {h : Nat → Nat} (q : SqT K H a ((List.range n).map fun i => vN (h i))) : Dp K H (.ref a) (encRow n h) := by
  rw [encRow_T]
  refine mk_encT ?_
  rw [List.map_map]
  exact q
theorem dp_encN {v : V} {n : Nat} {rods : List (Nat × Nat × Nat)} (h : Dp K H v (encN n rods)) : ∃ a b xs, v = .ref a ∧ SqT K H a [vN n, .ref b] ∧ SqT K H b xs ∧ DpAll K H xs (rods.map encR) := by
  obtain ⟨a, xs, rfl, q, d⟩ := dp_tup h
  cases d with
  | cons d1 d2 =>
    cases d2 with
    | cons d2 d3 =>
      cases d3
      rw [dp_int d1] at q
      obtain ⟨b, ys, rfl, q2, d4⟩ := dp_tup d2
      exact ⟨a, b, ys, rfl, q, q2, d4⟩
theorem mk_encN {a b : Addr} {xs : List V} {n : Nat} {rods : List (Nat × Nat × Nat)} (q : SqT K H a [vN n, .ref b]) (q2 : SqT K H b xs) (d : DpAll K H xs (rods.map encR)) : Dp K H (.ref a) (encN n rods) :=
  .tup q (.cons (.int _) (.cons (.tup q2 d) .nil))
theorem rangeAt {α : Type} {n i : Nat} (f : Nat → α) (h : i < n) : ((List.range n).map f)[i]? = some (f i) := by simp [h]
theorem lenRow {n : Nat} {f : Nat → V} : ((List.range n).map f).length = n := by simp
theorem full_len : ∀ (n : Nat) (l : List Nat), (∀ j, j < n → j ∈ l) → n ≤ l.length
  | 0, _, _ => Nat.zero_le _
  | n + 1, l, h => by
    have m : n ∈ l := h n (Nat.lt_succ_self n)
    have ih := full_len n (l.erase n) fun j hj => (List.mem_erase_of_ne (Nat.ne_of_lt hj)).mpr (h j (Nat.lt_succ_of_lt hj))
    have := List.length_erase_of_mem m
    have := List.length_pos_of_mem m
    omega
theorem lex2 (a b c d : Int) : Ob.lexAt (fun j => decide ([a, b].getD j 0 = [c, d].getD j 0)) (fun j => decide ([a, b].getD j 0 ≤ [c, d].getD j 0)) (decide ([a, b].length ≤ [c, d].length)) 0 (min [a, b].length [c, d].length) = decide (a < c ∨ (a = c ∧ b ≤ d)) := by
  show (if decide (a = c) = true then (if decide (b = d) = true then true else decide (b ≤ d)) else decide (a ≤ c)) = _
  rw [Bool.eq_iff_iff]
  by_cases h1 : a = c <;> by_cases h2 : b = d <;> simp [h1, h2] <;> omega
end
end Lk

set_option Elab.async false
set_option linter.all false
set_option maxRecDepth 100000
set_option maxHeartbeats 4000000
namespace Lk
open PySem PySem.Spec PyProof.Rows L2
section
variable {P : Program} {w : World} {K : PySem.W.Frag} {mg : Str → Option Value} {base : Heap}
/-- all(..) of a comprehension whose items are all true -/
theorem all_true {H : Hp} : ∀ {vs : List V} {n : Nat}, DpAll K H vs (List.replicate n (.bool true)) → ∃ bs : List Bool, vs = bs.map V.bl ∧ bs.all id = true
  | _, 0, h => by cases h; exact ⟨[], rfl, rfl⟩
  | _, n + 1, h => by
    cases h with
    | cons a b =>
      obtain ⟨bs, e1, e2⟩ := all_true (n := n) b
      cases a
      exact ⟨true :: bs, by rw [e1]; rfl, by rw [List.all_cons, e2]; rfl⟩
def spIsRod (K : PySem.W.Frag) : Sp := fun vs H Q _ => ∃ (n : Nat) (v : V) (r : Rod), vs = [vN n, v] ∧ Dp K H v (encR r) ∧ (r.1 < r.2.1 ∧ r.2.1 < n ∧ 1 ≤ r.2.2 ∧ r.2.2 ≤ 9) ∧ ∀ H', Same H H' → Q (.bl true) H'
theorem ok_is_rod (F : Std K mg "is_rod" st_is_rod) (B : Bl mg) (c_whole : Has P w K mg base 1 "whole" ["value"] spWhole) (c_tuple_of : Has P w K mg base 1 "tuple_of" ["value", "low", "high"] (spTupOf K)) :
    Has P w K mg base 2 "is_rod" ["many", "value"] (spIsRod K) := by
  refine has_def F sc_is_rod (fun _ _ _ _ _ _ us hl => match us, hl with | [_, _], _ => rfl) (fun vs H Q E h => ?_) (fun f cdv A outer s H vs Q E hr h => ?_)
  · obtain ⟨n, v, r, rfl, _⟩ := h
    rfl
  · obtain ⟨n, v, r, rfl, hv, ⟨h1, h2, h3, h4⟩, q⟩ := h
    obtain ⟨a, rfl, hS⟩ := dp_encR hv
    refine ⟨_, (pss_cons (ps_if (PW.pt (pw_or (pt_not (pt_val (pe_has c_tuple_of hr (by first | decide | exact Nat.le_refl _) (by rfl) (pa_cons (pv 1) (pa_cons pe_int (pa_cons pe_int pa_nil)))))) (pw_or1 (pt_not (pt_val (pe_callB (cr_all rfl) (by rfl) B.all boot_all (pa_cons (pe_lc (own := [("told", 2)]) (by rfl) sc_is_rod.nd (pi_tup (pv 1)) (blkOk_by (N := nm_is_rod) (own := [("told", 2)]) (sc := defScope st_is_rod) (by decide +kernel)) (fun _ _ _ _ _ => (pg_name (i := 2) sc_is_rod.nd rfl (by first | exact Or.inl rfl | exact Or.inr rfl))) (fun _ _ _ _ _ => pts_nil) (fun _ _ _ _ _ => (pe_has c_whole hr (by first | decide | exact Nat.le_refl _) (by rfl) (pa_cons (pv 2) pa_nil)))) pa_nil))))))) (pss_one (ps_ret pe_bl)) pss_nil)
    (pss_one (ps_ret (pe_and (pe_chain3 op_le op_lt op_lt pe_int (pe_ix ix_tup (pv 1) pe_int (fun _ _ => rfl)) (pe_ix ix_tup (pv 1) pe_int (fun _ _ => rfl)) (pv 0)) (pe_one (pe_chain op_le op_le pe_int (pe_ix ix_tup (pv 1) pe_int (fun _ _ => rfl)) (pe_con8 (by rfl) B.length))))))), ?_⟩
    refine ⟨_, rfl, a, _, 3, 3, rfl, hS, ⟨Int.le_refl _, Int.le_refl _⟩, true, rfl, iteF ?_⟩
    refine ⟨.ref a, rfl, a, rfl, ⟨_, hS⟩, fun D hD => ?_⟩
    refine lc_lfY (K := K) [r.1, r.2.1, r.2.2] walk_tup rfl (by show 3 < sizeLine; decide) hD (fun _ => .bool true) (fun _ => rfl) (fun H1 s1 => same_seqT s1 hS) (fun i e x H2 H3 NY he s2 y ky => ?_) (fun H2 vs s2 eD dA => ?_) g_name
    · obtain ⟨rfl, hx⟩ := y
      have ex : x = vN e := mapIs (xs := [r.1, r.2.1, r.2.2]) (f := vN) hx he
      subst ex
      exact ⟨rfl, _, rfl, _, rfl, ky _ _ (Same.refl _) (.bl true)⟩
    · obtain ⟨bs, e1, e2⟩ := all_true (n := 3) dA
      refine ⟨D, bs, rfl, .inl (.inl (by rw [← e1]; exact eD)), _, rfl, ?_⟩
      rw [e2]
      refine iteF ?_
      have hS2 := same_seqT s2 hS
      refine ⟨_, rfl, a, _, 0, vN r.1, rfl, rfl, hS2, rfl, _, _, rfl, rfl, _, rfl, iteD (by omega) ?_⟩
      refine ⟨_, rfl, a, _, 1, vN r.2.1, rfl, rfl, hS2, rfl, _, _, rfl, rfl, _, rfl, iteD (by omega) ?_⟩
      refine ⟨_, rfl, _, _, rfl, rfl, _, rfl, iteD (by omega) ?_⟩
      refine ⟨_, rfl, a, _, 2, vN r.2.2, rfl, rfl, hS2, rfl, _, _, rfl, rfl, _, rfl, iteD (by omega) ?_⟩
      exact ⟨_, _, rfl, rfl, qT (by omega) (q _ s2)⟩
def spNeedRow (K : PySem.W.Frag) : Sp := fun vs H Q _ => ∃ (n : Nat) (rods : List Rod) (v u : V) (h : Nat → Nat), vs = [v, u] ∧ Dp K H v (encN n rods) ∧ Dp K H u (encRow n h) ∧ (∀ i, i < n → h i ≤ 99) ∧ ∀ H', Same H H' → Q .non H'
theorem ok_need_row (F : Std K mg "need_row" st_need_row) (B : Bl mg) (c_within : Has P w K mg base 2 "within" ["value", "low", "high"] spWithin) (c_tuple_of : Has P w K mg base 1 "tuple_of" ["value", "low", "high"] (spTupOf K)) :
    Has P w K mg base 3 "need_row" ["net", "row"] (spNeedRow K) := by
  refine has_def F sc_need_row (fun _ _ _ _ _ _ us hl => match us, hl with | [_, _], _ => rfl) (fun vs H Q E h => ?_) (fun f cdv A outer s H vs Q E hr h => ?_)
  · obtain ⟨n, rods, v, u, h, rfl, _⟩ := h
    rfl
  · obtain ⟨n, rods, v, u, h, rfl, hv, hu, h99, q⟩ := h
    obtain ⟨a, b, xs, rfl, hA, _, _⟩ := dp_encN hv
    obtain ⟨c, rfl, hC⟩ := dp_encRow hu
    refine ⟨_, (pss_cons (ps_if (pt_not (pt_val (pe_has c_tuple_of hr (by first | decide | exact Nat.le_refl _) (by rfl) (pa_cons (pv 1) (pa_cons (pe_ix ix_tup (pv 0) pe_int (fun _ _ => rfl)) (pa_cons (pe_ix ix_tup (pv 0) pe_int (fun _ _ => rfl)) pa_nil)))))) pss_never pss_nil)
    (pss_one (ps_for PassesOwn.never rfl (pi_enumT (by rfl) B.enum (pa_cons (pv 1) pa_nil)) (pg_tup rfl (pgs_cons (pg_name (i := 2) sc_need_row.nd rfl (.inl rfl)) (pgs_cons (pg_name (i := 3) sc_need_row.nd rfl (.inl rfl)) pgs_nil)))
    (pss_one (ps_if (pt_not (pt_val (pe_has c_within hr (by first | decide | exact Nat.le_refl _) (by rfl) (pa_cons (pv 3) (pa_cons pe_int (pa_cons (pe_con8 (by rfl) B.height) pa_nil)))))) pss_never pss_nil))))), ?_⟩
    refine ⟨_, rfl, _, rfl, a, _, 0, vN n, rfl, rfl, hA, rfl, _, rfl, a, _, 0, vN n, rfl, rfl, hA, rfl, c, _, _, _, rfl, hC, ?_, true, rfl, iteF ?_⟩
    · rw [lenRow]
      exact ⟨Int.le_refl _, Int.le_refl _⟩
    · refine ⟨_, rfl, c, _, rfl, hC, for_it walk_enumT (fun i σ H1 => Same H H1 ∧ ∃ y2 y3, σ = [some (.ref a), some (.ref c), y2, y3]) ⟨Same.refl _, none, none, rfl⟩ (fun i σ H1 _ p => same_seqT p.1 hC) (fun i x σ H1 H2 hi p y => ?_) (fun σ H1 p => q H1 p.1)⟩
      obtain ⟨s1, y2, y3, rfl⟩ := p
      obtain ⟨T, x1, x2, rfl, nT, rfl, e1, e2⟩ := y
      rw [lenRow] at hi
      cases e1
      have ex : x2 = vN (h i) := rangeIs (f := fun i => vN (h i)) e2 hi
      subst ex
      have sT : Same H1 (upd H1 T (.tup [vN i, vN (h i)])) := same_new nT
      refine ⟨T, _, rfl, SqT.of upd_same, rfl, _, _, rfl, _, _, rfl, rfl, ?_⟩
      have := h99 i hi
      exact ⟨_, rfl, _, _, _, rfl, ⟨by omega, by omega⟩, true, rfl, iteF ⟨s1.trans sT, _, _, rfl⟩⟩
def spNeedPrices (K : PySem.W.Frag) : Sp := fun vs H Q _ => ∃ (n : Nat) (rods : List Rod) (v u : V) (h : Nat → Nat), vs = [v, u] ∧ Dp K H v (encN n rods) ∧ Dp K H u (encRow n h) ∧ n ≤ 8 ∧ (∀ i, i < n → h i ≤ 99) ∧ ∀ H', Same H H' → Q .non H'
theorem ok_need_prices (F : Std K mg "need_prices" st_need_prices) (B : Bl mg) (c_within : Has P w K mg base 2 "within" ["value", "low", "high"] spWithin) (c_tuple_of : Has P w K mg base 1 "tuple_of" ["value", "low", "high"] (spTupOf K)) :
    Has P w K mg base 3 "need_prices" ["net", "prices"] (spNeedPrices K) := by
  refine has_def F sc_need_prices (fun _ _ _ _ _ _ us hl => match us, hl with | [_, _], _ => rfl) (fun vs H Q E h => ?_) (fun f cdv A outer s H vs Q E hr h => ?_)
  · obtain ⟨n, rods, v, u, h, rfl, _⟩ := h
    rfl
  · obtain ⟨n, rods, v, u, h, rfl, hv, hu, h8, h99, q⟩ := h
    obtain ⟨a, b, xs, rfl, hA, _, _⟩ := dp_encN hv
    obtain ⟨c, rfl, hC⟩ := dp_encRow hu
    refine ⟨_, (pss_one (ps_if (PW.pt (pw_or (pt_not (pt_val (pe_has c_tuple_of hr (by first | decide | exact Nat.le_refl _) (by rfl) (pa_cons (pv 1) (pa_cons (pe_ix ix_tup (pv 0) pe_int (fun _ _ => rfl)) (pa_cons (pe_ix ix_tup (pv 0) pe_int (fun _ _ => rfl)) pa_nil)))))) (pw_or1 (pt_not (pt_val (pe_callB (cr_all rfl) (by rfl) B.all boot_all (pa_cons (pe_lc (own := [("price", 2)]) (by rfl) sc_need_prices.nd (pi_tup (pv 1)) (blkOk_by (N := nm_need_prices) (own := [("price", 2)]) (sc := defScope st_need_prices) (by decide +kernel)) (fun _ _ _ _ _ => (pg_name (i := 2) sc_need_prices.nd rfl (by first | exact Or.inl rfl | exact Or.inr rfl))) (fun _ _ _ _ _ => pts_nil) (fun _ _ _ _ _ => (pe_has c_within hr (by first | decide | exact Nat.le_refl _) (by rfl) (pa_cons (pv 2) (pa_cons pe_int (pa_cons (pe_con8 (by rfl) B.price) pa_nil)))))) pa_nil))))))) pss_never pss_nil)), ?_⟩
    refine ⟨_, rfl, _, rfl, a, _, 0, vN n, rfl, rfl, hA, rfl, _, rfl, a, _, 0, vN n, rfl, rfl, hA, rfl, c, _, _, _, rfl, hC, ?_, true, rfl, iteF ?_⟩
    · rw [lenRow]
      exact ⟨Int.le_refl _, Int.le_refl _⟩
    · refine ⟨.ref c, rfl, c, rfl, ⟨_, hC⟩, fun D hD => ?_⟩
      refine lc_lfY (K := K) (List.range n) walk_tup (by rw [lenRow, List.length_range]) (by rw [List.length_range]; exact small (by omega)) hD (fun _ => .bool true) (fun _ => rfl) (fun H1 s1 => same_seqT s1 hC) (fun i e x H2 H3 NY he s2 y ky => ?_) (fun H2 vs s2 eD dA => ?_) g_name
      · obtain ⟨rfl, hx⟩ := y
        obtain ⟨hi, rfl⟩ := range_at he
        have ex : x = vN (h e) := rangeIs (f := fun i => vN (h i)) hx hi
        subst ex
        have := h99 e hi
        exact ⟨rfl, _, rfl, _, _, _, rfl, ⟨by omega, by omega⟩, ky _ _ (Same.refl _) (.bl true)⟩
      · rw [List.map_const'] at dA
        obtain ⟨bs, e1, e2⟩ := all_true dA
        refine ⟨D, bs, rfl, .inl (.inl (by rw [← e1]; exact eD)), _, rfl, ?_⟩
        rw [e2]
        exact iteF (q _ s2)
end
end Lk

set_option Elab.async false
set_option linter.all false
set_option maxRecDepth 100000
set_option maxHeartbeats 4000000
namespace Lk
open PySem PySem.Spec PyProof.Rows L2
section
variable {P : Program} {w : World} {K : PySem.W.Frag} {mg : Str → Option Value} {base : Heap}
def spNeedNet (K : PySem.W.Frag) : Sp := fun vs H Q _ => ∃ (n : Nat) (rods : List Rod) (v : V), vs = [v] ∧ Dp K H v (encN n rods) ∧ NetOk n rods ∧ ∀ H', Same H H' → Q .non H'
theorem asc_at {rods : List Rod} (h : rods.Pairwise fun p q => p.1 < q.1 ∨ (p.1 = q.1 ∧ p.2.1 < q.2.1)) {i : Nat} {r r' : Rod} (h1 : rods[i]? = some r) (h2 : rods[i + 1]? = some r') : r.1 < r'.1 ∨ (r.1 = r'.1 ∧ r.2.1 < r'.2.1) := by
  have l := lt_of_at h2
  have e1 : r = rods[i] := by
    have : rods[i]? = some rods[i] := List.getElem?_eq_getElem (by omega)
    rw [this] at h1
    exact (Option.some.inj h1).symm
  have e2 : r' = rods[i + 1] := by
    have : rods[i + 1]? = some rods[i + 1] := List.getElem?_eq_getElem l
    rw [this] at h2
    exact (Option.some.inj h2).symm
  rw [e1, e2]
  exact List.pairwise_iff_getElem.mp h i (i + 1) (by omega) l (by omega)
theorem sl_ne3 : ¬ (HT.sIx 3 0 none = 0 ∧ HT.sIx 3 3 (some 2) = 3) := by decide
theorem scal_bl (a b : Bool) : scal (.bl a) (.bl b) = true := rfl
theorem ok_need_net (F : Std K mg "need_net" st_need_net) (B : Bl mg) (c_within : Has P w K mg base 2 "within" ["value", "low", "high"] spWithin) (c_tuple_of : Has P w K mg base 1 "tuple_of" ["value", "low", "high"] (spTupOf K)) (c_is_rod : Has P w K mg base 2 "is_rod" ["many", "value"] (spIsRod K)) :
    Has P w K mg base 3 "need_net" ["value"] (spNeedNet K) := by
  refine has_def F sc_need_net (fun _ _ _ _ _ _ us hl => match us, hl with | [_], _ => rfl) (fun vs H Q E h => ?_) (fun f cdv A outer s H vs Q E hr h => ?_)
  · obtain ⟨n, rods, v, rfl, _⟩ := h
    rfl
  · obtain ⟨n, rods, v, rfl, hv, N, q⟩ := h
    obtain ⟨a, b, xs, rfl, hA, hB, hX⟩ := dp_encN hv
    have hlen : xs.length = rods.length := by
      have := dpa_len hX
      rwa [List.length_map] at this
    have n1 := N.n1
    have n8 := N.n8
    have few := N.few
    refine ⟨_, (pss_cons (ps_if (PW.pt (pw_or (pt_not (pt_val (pe_has c_tuple_of hr (by first | decide | exact Nat.le_refl _) (by rfl) (pa_cons (pv 0) (pa_cons pe_int (pa_cons pe_int pa_nil)))))) (pw_or (pt_not (pt_val (pe_has c_within hr (by first | decide | exact Nat.le_refl _) (by rfl) (pa_cons (pe_ix ix_tup (pv 0) pe_int (fun _ _ => rfl)) (pa_cons pe_int (pa_cons (pe_con8 (by rfl) B.places) pa_nil)))))) (pw_or1 (pt_not (pt_val (pe_has c_tuple_of hr (by first | decide | exact Nat.le_refl _) (by rfl) (pa_cons (pe_ix ix_tup (pv 0) pe_int (fun _ _ => rfl)) (pa_cons pe_int (pa_cons pe_int pa_nil)))))))))) pss_never pss_nil)
    (pss_cons (ps_asg (pv 0) (pg_tup rfl (pgs_cons (pg_name (i := 1) sc_need_net.nd rfl (.inl rfl)) (pgs_cons (pg_name (i := 2) sc_need_net.nd rfl (.inl rfl)) pgs_nil))))
    (pss_cons (ps_for PassesOwn.never rfl (pi_enumT (by rfl) B.enum (pa_cons (pv 2) pa_nil)) (pg_tup rfl (pgs_cons (pg_name (i := 3) sc_need_net.nd rfl (.inl rfl)) (pgs_cons (pg_name (i := 4) sc_need_net.nd rfl (.inl rfl)) pgs_nil)))
    (pss_one (ps_if (PW.pt (pw_or (pt_not (pt_val (pe_has c_is_rod hr (by first | decide | exact Nat.le_refl _) (by rfl) (pa_cons (pv 1) (pa_cons (pv 4) pa_nil))))) (pw_or1 (PW.pt (pw_and (pt_cmpR op_gt (pv 3) pe_int (nomark _)) (pw_and1 (pt_cmpR (op_leT hr.units0) (pe_slice sl_tupA (pv 4) po_none (po_some pe_int)) (pe_slice sl_tupA (pe_ix ix_tup (pv 2) (pe_op op_sub (pv 3) pe_int) (fun _ _ => rfl)) po_none (po_some pe_int)) (nomark _)))))))) pss_never pss_nil)))
    (pss_cons (ps_set (i := 5) sc_need_net.nd rfl (.inl rfl) (pe_lst (pa_cons pe_int pa_nil)))
    (pss_cons (ps_for PassesOwn.never rfl (pi_range1 (by rfl) B.range (pa_cons (pv 1) pa_nil)) (pg_name (i := 6) sc_need_net.nd rfl (.inl rfl))
    (pss_one (ps_for PassesOwn.never rfl (pi_tup (pv 2)) (pg_tup rfl (pgs_cons (pg_name (i := 7) sc_need_net.nd rfl (.inl rfl)) (pgs_cons (pg_name (i := 8) sc_need_net.nd rfl (.inl rfl)) (pgs_cons (pg_name (i := 9) sc_need_net.nd rfl (.inl rfl)) pgs_nil))))
    (pss_one (ps_if (pt_cmpR op_ne (pe_cmpR op_in_seq (pv 7) (pv 5) rfl) (pe_cmpR op_in_seq (pv 8) (pv 5) rfl) (nomark _)) (pss_one (ps_expr (pe_bm PySem.F.plainAttrs_list PySem.F.slot_list_append PySem.F.type_list_append mt_append (pv 5) (pa_cons (pe_ifExp (pt_cmpR op_in_seq (pv 7) (pv 5) rfl) (pv 8) (pv 7)) pa_nil)))) pss_nil)))))
    (pss_one (ps_if (pt_cmpR op_lt (pe_callB call_len_seq (by rfl) B.len PySem.boot_len (pa_cons (pv 5) pa_nil)) (pv 1) (nomark _)) pss_never pss_nil))))))), ?_⟩
    -- the three tests of the form
    refine ⟨_, rfl, a, _, 2, 2, rfl, hA, ⟨Int.le_refl _, Int.le_refl _⟩, true, rfl, iteF ?_⟩
    refine ⟨_, rfl, a, _, 0, vN n, rfl, rfl, hA, rfl, n, 1, 8, rfl, ⟨by omega, by omega⟩, true, rfl, iteF ?_⟩
    refine ⟨_, rfl, a, _, 1, .ref b, rfl, rfl, hA, rfl, b, xs, 0, 28, rfl, hB, ⟨by omega, by omega⟩, true, rfl, iteF ?_⟩
    -- many, rods = value
    refine ⟨_, rfl, a, _, rfl, hA, rfl, _, _, rfl, _, _, rfl, rfl, ?_⟩
    -- the rods one by one
    refine ⟨_, rfl, b, _, rfl, hB, for_it walk_enumT (fun i σ H1 => Same H H1 ∧ ∃ y3 y4, σ = [some (.ref a), some (vN n), some (.ref b), y3, y4, none, none, none, none, none]) ⟨Same.refl _, none, none, rfl⟩ (fun i σ H1 _ p => same_seqT p.1 hB) (fun i x σ H1 H2 hi p y => ?_) (fun σ H1 p => ?_)⟩
    · obtain ⟨s1, y3, y4, rfl⟩ := p
      obtain ⟨T, x1, x2, rfl, nT, rfl, e1, e2⟩ := y
      cases e1
      have sT : Same H1 (upd H1 T (.tup [vN i, x2])) := same_new nT
      obtain ⟨r, er, dr⟩ := dpa_getMV hX e2
      have rk := N.rod r.1 r.2.1 r.2.2 (List.mem_of_getElem? er)
      have dr1 := dp_same (s1.trans sT) _ _ dr
      refine ⟨T, _, rfl, SqT.of upd_same, rfl, _, _, rfl, _, _, rfl, rfl, ?_⟩
      refine ⟨_, rfl, _, rfl, n, _, r, rfl, dr1, ⟨by omega, by omega, by omega, by omega⟩, fun H3 s3 => ⟨true, rfl, iteF ?_⟩⟩
      have s13 : Same H H3 := s1.trans (sT.trans s3)
      refine ⟨_, rfl, _, _, rfl, rfl, _, rfl, ite2 (fun c => ?_) (fun c => ?_)⟩
      · have hi0 : 0 < i := by
          have := of_decide_eq_true c
          omega
        obtain ⟨j, rfl⟩ : ∃ j, i = j + 1 := ⟨i - 1, by omega⟩
        have lj : j < xs.length := by omega
        have ej : xs[j]? = some xs[j] := List.getElem?_eq_getElem lj
        obtain ⟨r0, er0, dr0⟩ := dpa_getMV hX ej
        have asc := asc_at N.asc er0 er
        obtain ⟨c1, rfl, hR⟩ := dp_encR (dp_same (sT.trans s3) _ _ (dp_same s1 _ _ dr))
        obtain ⟨c0, e0, hR0⟩ := dp_encR (dp_same s13 _ _ dr0)
        have ia : atI xs ((j + 1 : Nat) - 1 : Int) = some xs[j] := by
          have : ((j + 1 : Nat) - 1 : Int) = ((j : Nat) : Int) := by omega
          rw [this]
          exact at0 ej
        refine ⟨_, rfl, 2, rfl, c1, _, rfl, hR, fun z => absurd z sl_ne3, fun _ p1 np1 => ?_⟩
        have sp1 : Same H3 (upd H3 p1 (.tup (cutV [vN r.1, vN r.2.1, vN r.2.2] none (some 2)))) := same_new np1
        refine ⟨_, rfl, _, rfl, _, _, rfl, rfl, b, xs, _, _, rfl, rfl, same_seqT (s13.trans sp1) hB, ia, 2, rfl, c0, _, e0, same_seqT sp1 hR0, fun z => absurd z sl_ne3, fun _ p0 np0 => ?_⟩
        have sp0 : Same (upd H3 p1 (.tup (cutV [vN r.1, vN r.2.1, vN r.2.2] none (some 2)))) _ := same_new (o := .tup (cutV [vN r0.1, vN r0.2.1, vN r0.2.2] none (some 2))) np0
        refine ⟨p1, p0, [(r.1 : Int), (r.2.1 : Int)], [(r0.1 : Int), (r0.2.1 : Int)], rfl, rfl, SqT.of (sp0 _ _ upd_same), SqT.of upd_same, _, rfl, ?_⟩
        rw [lex2]
        refine iteN (by omega) ⟨s13.trans (sp1.trans sp0), _, _, rfl⟩
      · exact iteF ⟨s13, _, _, rfl⟩
    · obtain ⟨s1, y3, y4, rfl⟩ := p
      -- seen = [0]
      refine ⟨by show 1 ≤ sizeLine; decide, fun sd nsd => ?_⟩
      have ss : Same H1 (upd H1 sd (.lst [vN 0])) := same_new nsd
      have nH : H sd = none := s1.free nsd
      refine ⟨_, rfl, _, rfl, by omega, by omega, for_range (n := n) (fun t σ H2 => Same H H2 ∧ (∃ seen : List Nat, H2 sd = some (.lst (seen.map vN)) ∧ seen.length ≤ 1 + t * 28 ∧ ∀ j, j ≤ t → j < n → j ∈ seen) ∧
          ∃ y6 y7 y8 y9, σ = [some (.ref a), some (vN n), some (.ref b), y3, y4, some (.ref sd), y6, y7, y8, y9])
        ⟨s1.trans ss, ⟨[0], upd_same, by decide, fun j h1 _ => by
          have : j = 0 := by omega
          simp [this]⟩, none, none, none, none, rfl⟩ (fun t σ H2 ht p => ?_) (fun σ H2 p => ?_)⟩
      · obtain ⟨s2, ⟨seen0, eS0, l0, m0⟩, y6, y7, y8, y9, rfl⟩ := p
        refine ⟨_, rfl, b, rfl, ⟨xs, same_seqT s2 hB⟩, for_it walk_tup (fun i σ H3 => Same H H3 ∧ (∃ seen : List Nat, H3 sd = some (.lst (seen.map vN)) ∧ seen.length ≤ 1 + t * 28 + i ∧ (∀ j, j ≤ t → j < n → j ∈ seen) ∧ ∀ r ∈ rods.take i, r.1 ≤ t → r.2.1 ∈ seen) ∧
            ∃ y6 y7 y8 y9, σ = [some (.ref a), some (vN n), some (.ref b), y3, y4, some (.ref sd), y6, y7, y8, y9])
          ⟨s2, ⟨seen0, eS0, by omega, m0, fun r hr => by simp at hr⟩, _, _, _, _, rfl⟩ (fun i σ H3 _ p => same_seqT p.1 hB) (fun i x σ H3 H4 hi p y => ?_) (fun σ H3 p => ?_)⟩
        · obtain ⟨s3, ⟨seen, eS, l3, m3, r3⟩, y6, y7, y8, y9, rfl⟩ := p
          obtain ⟨rfl, hx⟩ := y
          obtain ⟨r, er, dr⟩ := dpa_getMV hX hx
          have rk := N.rod r.1 r.2.1 r.2.2 (List.mem_of_getElem? er)
          obtain ⟨c, rfl, hR⟩ := dp_encR (dp_same s3 _ _ dr)
          have tk : rods.take (i + 1) = rods.take i ++ [r] := by rw [List.take_add_one, er]; rfl
          refine ⟨c, _, rfl, hR, rfl, _, _, rfl, _, _, rfl, _, _, rfl, rfl, ?_⟩
          have iq : ∀ z : Nat, inV (vN z) (seen.map vN) = seen.contains z := fun z => inV_nats z seen
          refine ⟨_, rfl, _, rfl, sd, _, rfl, .inl (.inl (.inl eS)), rfl, flat_nats seen, _, rfl, _, rfl, sd, _, rfl, .inl (.inl (.inl eS)), rfl, flat_nats seen, rfl, _, rfl, ?_⟩
          show if (!decide (V.bl (inV (vN r.1) (seen.map vN)) = V.bl (inV (vN r.2.1) (seen.map vN)))) = true then _ else _
          rw [iq, iq]
          have done : ∀ seen' : List Nat, (∀ j, j ∈ seen → j ∈ seen') → (r.1 ≤ t → r.2.1 ∈ seen') → ∀ r' ∈ rods.take (i + 1), r'.1 ≤ t → r'.2.1 ∈ seen' := by
            intro seen' sub last r' hr' hle
            rw [tk] at hr'
            rcases List.mem_append.mp hr' with h | h
            · exact sub _ (r3 r' h hle)
            · rw [List.mem_singleton.mp h] at hle ⊢
              exact last hle
          cases c1 : seen.contains r.1 with
          | true =>
            cases c2 : seen.contains r.2.1 with
            | true =>
              refine iteF ⟨s3, ⟨seen, eS, by omega, m3, done seen (fun _ h => h) fun _ => by simpa using c2⟩, _, _, _, _, rfl⟩
            | false =>
              refine iteT ⟨_, rfl, .inl ⟨rfl, _, .inl (.inl eS)⟩, ?_⟩
              refine ⟨_, rfl, _, rfl, sd, _, rfl, .inl (.inl (.inl eS)), rfl, flat_nats seen, _, rfl, ?_⟩
              show if inV (vN r.1) (seen.map vN) = true then _ else _
              rw [iq, c1]
              refine iteT ⟨_, rfl, sd, _, _, rfl, rfl, eS, small (by rw [List.length_map]; omega), ?_⟩
              refine ⟨same_in s3 nH, ⟨seen ++ [r.2.1], by rw [upd_same, List.map_append]; rfl, by rw [List.length_append, List.length_singleton]; omega, fun j h1 h2 => List.mem_append_left _ (m3 j h1 h2),
                done _ (fun _ h => List.mem_append_left _ h) fun _ => by simp⟩, _, _, _, _, rfl⟩
          | false =>
            cases c2 : seen.contains r.2.1 with
            | false =>
              refine iteF ⟨s3, ⟨seen, eS, by omega, m3, done seen (fun _ h => h) fun hle => ?_⟩, _, _, _, _, rfl⟩
              have := m3 r.1 hle (by omega)
              simp [this] at c1
            | true =>
              refine iteT ⟨_, rfl, .inl ⟨rfl, _, .inl (.inl eS)⟩, ?_⟩
              refine ⟨_, rfl, _, rfl, sd, _, rfl, .inl (.inl (.inl eS)), rfl, flat_nats seen, _, rfl, ?_⟩
              show if inV (vN r.1) (seen.map vN) = true then _ else _
              rw [iq, c1]
              refine iteF ⟨_, rfl, sd, _, _, rfl, rfl, eS, small (by rw [List.length_map]; omega), ?_⟩
              refine ⟨same_in s3 nH, ⟨seen ++ [r.1], by rw [upd_same, List.map_append]; rfl, by rw [List.length_append, List.length_singleton]; omega, fun j h1 h2 => List.mem_append_left _ (m3 j h1 h2),
                done _ (fun _ h => List.mem_append_left _ h) fun _ => List.mem_append_left _ (by simpa using c2)⟩, _, _, _, _, rfl⟩
        · obtain ⟨s3, ⟨seen, eS, l3, m3, r3⟩, y6, y7, y8, y9, rfl⟩ := p
          have hxl : xs.length = rods.length := hlen
          refine ⟨s3, ⟨seen, eS, by omega, fun j h1 h2 => ?_⟩, _, _, _, _, rfl⟩
          by_cases hj : j ≤ t
          · exact m3 j hj h2
          · obtain ⟨i, l, hi, hm⟩ := N.tree j (by omega) h2
            rw [hxl, List.take_length] at r3
            exact r3 (i, j, l) hm (by show i ≤ t; omega)
      · obtain ⟨s2, ⟨seen, eS, l2, m2⟩, y6, y7, y8, y9, rfl⟩ := p
        have fl := full_len n seen fun j hj => m2 j (by omega) hj
        refine ⟨_, rfl, sd, _, rfl, .inl (.inl (.inl eS)), _, rfl, _, _, rfl, rfl, _, rfl, iteN ?_ (q _ s2)⟩
        rw [List.length_map]
        omega
end
end Lk

set_option Elab.async false
set_option linter.all false
set_option maxRecDepth 100000
set_option maxHeartbeats 4000000
namespace Lk
open PySem PySem.Spec PyProof.Rows L2
/-! ### tables: a list of lists of ints -/
structure TabM (H : Hp) (p : Addr) (rs : List Addr) (n : Nat) (T : Nat → Nat → Nat) : Prop where
  top : H p = some (.lst (rs.map V.ref))
  len : rs.length = n
  nd : rs.Nodup
  ne : p ∉ rs
  row : ∀ i r, rs[i]? = some r → H r = some (.lst ((List.range n).map fun j => vN (T i j)))
/-- the table as its readers see it, made since H0 -/
def Tab (H0 H : Hp) (p : Addr) (n : Nat) (T : Nat → Nat → Nat) : Prop := ∃ rs, TabM H p rs n T ∧ H0 p = none ∧ ∀ r ∈ rs, H0 r = none
theorem ix_one {α : Type} {l : List α} (nd : l.Nodup) {i j : Nat} {x : α} (h1 : l[i]? = some x) (h2 : l[j]? = some x) : i = j := by
  have l1 := lt_of_at h1
  have l2 := lt_of_at h2
  rw [List.getElem?_eq_getElem l1] at h1
  rw [List.getElem?_eq_getElem l2] at h2
  have pw := List.pairwise_iff_getElem.mp nd
  have e := (Option.some.inj h1).trans (Option.some.inj h2).symm
  by_cases c : i = j
  · exact c
  · by_cases d : i < j
    · exact absurd e (pw i j l1 l2 d)
    · exact absurd e.symm (pw j i l2 l1 (by omega))
section
variable {H H' H0 : Hp} {p : Addr} {rs : List Addr} {n : Nat} {T U : Nat → Nat → Nat}
theorem TabM.same (t : TabM H p rs n T) (e : Same H H') : TabM H' p rs n T := ⟨e _ _ t.top, t.len, t.nd, t.ne, fun i r h => e _ _ (t.row i r h)⟩
theorem TabM.congr (t : TabM H p rs n T) (e : ∀ i j, i < n → j < n → T i j = U i j) : TabM H p rs n U := ⟨t.top, t.len, t.nd, t.ne, fun i r h => by
  rw [t.row i r h]
  have hi : i < n := t.len ▸ lt_of_at h
  have : ((List.range n).map fun j => vN (T i j)) = (List.range n).map fun j => vN (U i j) := List.map_congr_left fun j hj => by rw [e i j hi (List.mem_range.mp hj)]
  rw [this]⟩
theorem TabM.at_ (t : TabM H p rs n T) {i : Nat} (hi : i < n) : ∃ r, rs[i]? = some r ∧ (rs.map V.ref)[i]? = some (.ref r) ∧ H r = some (.lst ((List.range n).map fun j => vN (T i j))) := by
  have l : i < rs.length := t.len.symm ▸ hi
  exact ⟨rs[i], List.getElem?_eq_getElem l, by simp [l], t.row i _ (List.getElem?_eq_getElem l)⟩
theorem set_range {n j : Nat} {f : Nat → V} {v : V} (h : j < n) : ((List.range n).map f).set j v = (List.range n).map fun k => if k = j then v else f k := by
  apply List.ext_getElem?
  intro k
  by_cases hk : k < n
  · by_cases e : k = j
    · subst e
      rw [List.getElem?_set_self (by simpa using hk)]
      simp [hk]
    · rw [List.getElem?_set_ne (Ne.symm e)]
      simp [hk, e]
  · rw [List.getElem?_eq_none (by simpa using hk), List.getElem?_eq_none (by simpa using hk)]
theorem TabM.set (t : TabM H p rs n T) {i j v : Nat} {r : Addr} (hr : rs[i]? = some r) (hj : j < n) : TabM (upd H r (.lst (((List.range n).map fun k => vN (T i k)).set j (vN v)))) p rs n (upd2 T i j v) := by
  have mr : r ∈ rs := List.mem_of_getElem? hr
  refine ⟨?_, t.len, t.nd, t.ne, fun i' r' h' => ?_⟩
  · rw [upd_ne fun e => t.ne (by rw [e]; exact mr)]
    exact t.top
  · by_cases e : i' = i
    · subst e
      rw [hr] at h'
      cases h'
      rw [upd_same, set_range hj]
      have : ((List.range n).map fun k => if k = j then vN v else vN (T i' k)) = (List.range n).map fun k => vN (upd2 T i' j v i' k) := List.map_congr_left fun k _ => by
        unfold upd2
        by_cases e : k = j
        · simp [e]
        · simp [e]
      rw [this]
    · have ne : r' ≠ r := fun z => by
        subst z
        exact e (ix_one t.nd h' hr)
      rw [upd_ne ne, t.row i' r' h']
      have : ((List.range n).map fun k => vN (T i' k)) = (List.range n).map fun k => vN (upd2 T i j v i' k) := List.map_congr_left fun k _ => by rw [upd2_ne (by omega)]
      rw [this]
end
theorem z0 (i : Nat) : V.int (0 + (i : Int)) = vN i := by rw [Int.zero_add]
theorem walk_range0 {n : Nat} : Walk (Itr 0 n) n (fun _ => True) (fun i H x H' => H' = H ∧ x = vN i) :=
  ⟨fun _ _ hi _ => hi, fun _ _ => Nat.le_refl _, fun i H x H' _ _ y => ⟨y.1, y.2.trans (z0 i)⟩⟩
theorem ixN_at {n i : Nat} (h : i < n) : ixN n (i : Int) = some i := by
  unfold ixN
  rw [if_pos (by omega), if_pos (by omega)]
  rfl
theorem tYesI {Q : Bool → Hp → Prop} {σ : L2.St} {H : Hp} (h : Q true H) : tYes σ H Q := h
theorem minN (a b : Nat) : V.int (if (b : Int) < (a : Int) then (b : Int) else (a : Int)) = vN (min a b) := by
  by_cases h : (b : Int) < (a : Int)
  · rw [if_pos h, Nat.min_eq_right (by omega)]
  · rw [if_neg h, Nat.min_eq_left (by omega)]
theorem dpa_natsM {K : PySem.W.Frag} {H : Hp} {ε : Type} {vs : List V} {es : List ε} {g : ε → Nat} (h : DpAll K H vs (es.map fun e => nI (g e))) : vs = es.map fun e => vN (g e) := by
  have h2 : DpAll K H vs ((es.map g).map nI) := by
    rw [List.map_map]
    exact h
  rw [dpa_nats h2, List.map_map]
  rfl
/-- a turn of the display: one more row -/
structure TabGrow (H1 H : Hp) (D : Addr) (n c k : Nat) : Prop where
  same : Same H1 H
  ex : ∃ rs : List Addr, H D = some (.lst (rs.map V.ref)) ∧ rs.length = k ∧ rs.Nodup ∧ D ∉ rs ∧ (∀ r ∈ rs, H1 r = none) ∧ ∀ i r, rs[i]? = some r → H r = some (.lst ((List.range n).map fun j => vN (if i = j then 0 else c)))
theorem TabGrow.next {H1 H H4 : Hp} {D D2 : Addr} {n c k : Nat} (g : TabGrow H1 H D n c k) (nD : H1 D = none) (n2 : H D2 = none) (s : Same H H4) (e2 : H4 D2 = some (.lst ((List.range n).map fun j => vN (if k = j then 0 else c)))) :
    ∃ rs : List Addr, H4 D = some (.lst (rs.map V.ref)) ∧ rs.length = k ∧ TabGrow H1 (upd H4 D (.lst (rs.map V.ref ++ [.ref D2]))) D n c (k + 1) := by
  obtain ⟨rs, eD, l, nd, ne, nn, row⟩ := g.ex
  have e4 := s _ _ eD
  have d2 : D2 ≠ D := fun e => by
    rw [e, eD] at n2
    cases n2
  have d2rs : D2 ∉ rs := fun m => by
    obtain ⟨i, hi⟩ := List.mem_iff_getElem?.mp m
    rw [row i D2 hi] at n2
    cases n2
  refine ⟨rs, e4, l, same_in (g.same.trans s) nD, rs ++ [D2], by rw [upd_same, List.map_append]; rfl, by rw [List.length_append, List.length_singleton, l], ?_, ?_, ?_, ?_⟩
  · rw [List.nodup_append]
    refine ⟨nd, by simp, fun a ha b hb => ?_⟩
    rw [List.mem_singleton.mp hb]
    exact fun z => d2rs (z ▸ ha)
  · intro m
    rcases List.mem_append.mp m with m | m
    · exact ne m
    · exact d2 (List.mem_singleton.mp m).symm
  · intro r hr
    rcases List.mem_append.mp hr with m | m
    · exact nn r m
    · rw [List.mem_singleton.mp m]
      exact g.same.free n2
  · intro i r hi
    by_cases h : i < rs.length
    · rw [List.getElem?_append_left h] at hi
      have rd : r ≠ D := fun z => ne (z ▸ List.mem_of_getElem? hi)
      rw [upd_ne rd]
      exact s _ _ (row i r hi)
    · have e : i = rs.length := by
        have := lt_of_at hi
        rw [List.length_append, List.length_singleton] at this
        omega
      subst e
      have : r = D2 := by
        have z : (rs ++ [D2])[rs.length]? = some D2 := by simp
        rw [z] at hi
        exact (Option.some.inj hi).symm
      subst this
      rw [upd_ne d2, e2, l]
theorem TabGrow.tab {H1 H : Hp} {D : Addr} {n c : Nat} (g : TabGrow H1 H D n c n) (nD : H1 D = none) : ∃ rs, TabM H D rs n (fun i j => if i = j then 0 else c) ∧ ∀ r ∈ rs, H1 r = none := by
  obtain ⟨rs, eD, l, nd, ne, nn, row⟩ := g.ex
  exact ⟨rs, ⟨eD, l, nd, ne, row⟩, nn⟩
section
variable {P : Program} {w : World} {K : PySem.W.Frag} {mg : Str → Option Value} {base : Heap}
def spTable (K : PySem.W.Frag) : Sp := fun vs H Q _ => ∃ (n : Nat) (rods : List Rod) (v : V), vs = [v] ∧ Dp K H v (encN n rods) ∧ NetOk n rods ∧ ∀ p H', Same H H' → Tab H H' p n (dist n rods) → Q (.ref p) H'
theorem ok_table_of (F : Std K mg "table_of" st_table_of) (B : Bl mg) : Has P w K mg base 1 "table_of" ["net"] (spTable K) := by
  refine has_def F sc_table_of (fun _ _ _ _ _ _ us hl => match us, hl with | [_], _ => rfl) (fun vs H Q E h => ?_) (fun f cdv A outer s H vs Q E hr h => ?_)
  · obtain ⟨n, rods, v, rfl, _⟩ := h
    rfl
  · obtain ⟨n, rods, v, rfl, hv, N, q⟩ := h
    obtain ⟨a, b, xs, rfl, hA, hB, hX⟩ := dp_encN hv
    have hlen : xs.length = rods.length := by
      have := dpa_len hX
      rwa [List.length_map] at this
    have n1 := N.n1
    have n8 := N.n8
    refine ⟨_, (pss_cons (ps_asg (pv 0) (pg_tup rfl (pgs_cons (pg_name (i := 1) sc_table_of.nd rfl (.inr rfl)) (pgs_cons (pg_name (i := 2) sc_table_of.nd rfl (.inl rfl)) pgs_nil))))
    (pss_cons (ps_setLc (i := 5) (own := [("one", 3)]) (by rfl) sc_table_of.nd rfl rfl (sw_true rfl rfl rfl (by decide +kernel)) (pi_range1 (by rfl) B.range (pa_cons (pv 1) pa_nil)) (blkOk_by (N := nm_table_of) (own := [("one", 3)]) (sc := defScope st_table_of) (by decide +kernel)) (fun _ _ _ _ _ => (pg_name (i := 3) sc_table_of.nd rfl (by first | exact Or.inl rfl | exact Or.inr rfl))) (fun _ _ _ _ _ => pts_nil) (fun _ _ _ _ _ => (pe_lc (own := [("other", 4)]) (by rfl) sc_table_of.nd (pi_range1 (by rfl) B.range (pa_cons (pv 1) pa_nil)) (blkOk_by (by kernel_rfl)) (fun _ _ _ _ _ => (pg_name (i := 4) sc_table_of.nd rfl (by first | exact Or.inl rfl | exact Or.inr rfl))) (fun _ _ _ _ _ => pts_nil) (fun _ _ _ _ _ => (pe_ifExp (pt_cmpR op_eq (pv 3) (pv 4) (nomark _)) pe_int pe_int)))))
    (pss_cons (ps_for PassesOwn.never rfl (pi_tup (pv 2)) (pg_tup rfl (pgs_cons (pg_name (i := 3) sc_table_of.nd rfl (.inl rfl)) (pgs_cons (pg_name (i := 4) sc_table_of.nd rfl (.inl rfl)) (pgs_cons (pg_name (i := 6) sc_table_of.nd rfl (.inl rfl)) pgs_nil))))
    (pss_cons (ps_asg (pe_callB (call_min2 rfl) (by rfl) B.min boot_min (pa_cons (pe_ix ix_list (pe_ix ix_list (pv 5) (pv 3) (fun _ _ => rfl)) (pv 4) (fun _ _ => rfl)) (pa_cons (pv 6) pa_nil))) (pg_sub (pe_ix ix_list (pv 5) (pv 3) (fun _ _ => rfl)) (pv 4) set_list))
    (pss_one (ps_asg (pe_ix ix_list (pe_ix ix_list (pv 5) (pv 3) (fun _ _ => rfl)) (pv 4) (fun _ _ => rfl)) (pg_sub (pe_ix ix_list (pv 5) (pv 4) (fun _ _ => rfl)) (pv 3) set_list)))))
    (pss_cons (ps_for PassesOwn.never rfl (pi_range1 (by rfl) B.range (pa_cons (pv 1) pa_nil)) (pg_name (i := 7) sc_table_of.nd rfl (.inl rfl))
    (pss_one (ps_for PassesOwn.never rfl (pi_range1 (by rfl) B.range (pa_cons (pv 1) pa_nil)) (pg_name (i := 3) sc_table_of.nd rfl (.inl rfl))
    (pss_one (ps_for PassesOwn.never rfl (pi_range1 (by rfl) B.range (pa_cons (pv 1) pa_nil)) (pg_name (i := 4) sc_table_of.nd rfl (.inl rfl))
    (pss_one (ps_asg (pe_callB (call_min2 rfl) (by rfl) B.min boot_min (pa_cons (pe_ix ix_list (pe_ix ix_list (pv 5) (pv 3) (fun _ _ => rfl)) (pv 4) (fun _ _ => rfl)) (pa_cons (pe_op op_add (pe_ix ix_list (pe_ix ix_list (pv 5) (pv 3) (fun _ _ => rfl)) (pv 7) (fun _ _ => rfl)) (pe_ix ix_list (pe_ix ix_list (pv 5) (pv 7) (fun _ _ => rfl)) (pv 4) (fun _ _ => rfl))) pa_nil))) (pg_sub (pe_ix ix_list (pv 5) (pv 3) (fun _ _ => rfl)) (pv 4) set_list))))))))
    (pss_one (ps_ret (pv 5))))))), ?_⟩
    refine ⟨_, rfl, a, _, rfl, hA, rfl, _, _, rfl, _, _, rfl, rfl, ?_⟩
    -- found = [[..]]
    refine ⟨_, rfl, _, rfl, by omega, by omega, fun D nD => ?_⟩
    refine lc_it walk_range0 (fun i H1 => TabGrow H H1 D n 9999 i) ⟨same_new nD, [], upd_same, rfl, List.nodup_nil, by simp, fun r hr => by simp at hr, fun i r h => by simp at h⟩ (fun _ _ _ _ => trivial) (fun i x H1 H2 hi g y => ?_) (fun H1 g => ?_)
    · obtain ⟨rfl, ex⟩ := y
      subst ex
      refine ⟨rfl, tYesI (iteT ?_)⟩
      refine ⟨_, rfl, _, rfl, by omega, by omega, fun D2 nD2 => ?_⟩
      refine lc_lfY (K := K) (List.range n) walk_range0 (by rw [List.length_range]; rfl) (by rw [List.length_range]; exact small (by omega)) nD2 (fun j => nI (if i = j then 0 else 9999)) (fun _ => lf_int _) (fun _ _ => trivial) (fun j e x H3 H4 NY he s3 y ky => ?_) (fun H3 vs s3 eD dA => ?_) g_name
      · obtain ⟨rfl, ex⟩ := y
        subst ex
        obtain ⟨hj, rfl⟩ := range_at he
        refine ⟨rfl, _, rfl, _, rfl, rfl, _, rfl, ?_⟩
        by_cases c : i = e
        · subst c
          refine iteD rfl (ky _ _ (Same.refl _) ?_)
          rw [if_pos rfl]
          exact .int _
        · refine iteN (fun z => c (Int.ofNat.inj (V.int.inj z))) (ky _ _ (Same.refl _) ?_)
          rw [if_neg c]
          exact .int _
      · rw [dpa_natsM dA] at eD
        obtain ⟨rs, e1, l1, g2⟩ := g.next nD nD2 s3 eD
        exact ⟨_, e1, small (by rw [List.length_map]; omega), g2⟩
    · obtain ⟨rs, t0, fresh⟩ := g.tab nD
      have s1 := g.same
      -- the rods
      refine ⟨_, rfl, b, rfl, ⟨xs, same_seqT s1 hB⟩, for_it walk_tup (fun i σ H2 => Same H H2 ∧ TabM H2 D rs n ((rods.take i).foldl iniStep ini0) ∧
          ∃ y3 y4 y6 y7, σ = [some (.ref a), some (vN n), some (.ref b), y3, y4, some (.ref D), y6, y7])
        ⟨s1, t0, none, none, none, none, rfl⟩ (fun i σ H2 _ p => same_seqT p.1 hB) (fun i x σ H2 H3 hi p y => ?_) (fun σ H2 p => ?_)⟩
      · obtain ⟨s2, t2, y3, y4, y6, y7, rfl⟩ := p
        obtain ⟨rfl, hx⟩ := y
        obtain ⟨r, er, dr⟩ := dpa_getMV hX hx
        have rk := N.rod r.1 r.2.1 r.2.2 (List.mem_of_getElem? er)
        obtain ⟨c, rfl, hR⟩ := dp_encR (dp_same s2 _ _ dr)
        have tk : (rods.take (i + 1)).foldl iniStep ini0 = iniStep ((rods.take i).foldl iniStep ini0) r := by
          rw [List.take_add_one, er, List.foldl_append]
          rfl
        generalize (rods.take i).foldl iniStep ini0 = T at t2 tk
        obtain ⟨r1, e1, v1, w1⟩ := t2.at_ (i := r.1) (by omega)
        have f1 : H r1 = none := fresh _ (List.mem_of_getElem? e1)
        refine ⟨c, _, rfl, hR, rfl, _, _, rfl, _, _, rfl, _, _, rfl, rfl, ?_⟩
        refine ⟨_, rfl, _, rfl, D, _, _, _, rfl, rfl, .inl (.inl t2.top), at0 v1, _, rfl, r1, _, _, _, rfl, rfl, .inl (.inl w1), at0 (rangeAt _ (show r.2.1 < n by omega)), _, rfl, _, _, rfl, ?_⟩
        rw [minN]
        refine ⟨_, rfl, _, rfl, D, _, _, _, rfl, rfl, .inl (.inl t2.top), at0 v1, _, rfl, r1, _, _, r.2.1, rfl, rfl, w1, ?_, ?_⟩
        · rw [lenRow]
          exact ixN_at (by omega)
        have t3 := t2.set (v := min (T r.1 r.2.1) r.2.2) e1 (show r.2.1 < n by omega)
        have s3 : Same H _ := same_in (o := .lst (((List.range n).map fun k => vN (T r.1 k)).set r.2.1 (vN (min (T r.1 r.2.1) r.2.2)))) s2 f1
        obtain ⟨r1', e1', v1', w1'⟩ := t3.at_ (i := r.1) (by omega)
        obtain ⟨r2, e2, v2, w2⟩ := t3.at_ (i := r.2.1) (by omega)
        have f2 : H r2 = none := fresh _ (List.mem_of_getElem? e2)
        refine ⟨_, rfl, _, rfl, D, _, _, _, rfl, rfl, .inl (.inl t3.top), at0 v1', _, rfl, r1', _, _, _, rfl, rfl, .inl (.inl w1'), at0 (rangeAt _ (show r.2.1 < n by omega)), ?_⟩
        refine ⟨_, rfl, _, rfl, D, _, _, _, rfl, rfl, .inl (.inl t3.top), at0 v2, _, rfl, r2, _, _, r.1, rfl, rfl, w2, ?_, ?_⟩
        · rw [lenRow]
          exact ixN_at (by omega)
        rw [upd2_at]
        have t4 := t3.set (v := min (T r.1 r.2.1) r.2.2) e2 (show r.1 < n by omega)
        refine ⟨same_in s3 f2, ?_, _, _, _, _, rfl⟩
        rw [tk]
        exact t4
      · obtain ⟨s2, t2, y3, y4, y6, y7, rfl⟩ := p
        rw [hlen, List.take_length] at t2
        have t2 : TabM H2 D rs n (dk rods 0) := t2
        -- the middles
        refine ⟨_, rfl, _, rfl, by omega, by omega, for_it walk_range0 (fun k σ H3 => Same H H3 ∧ TabM H3 D rs n (dk rods k) ∧ ∃ y3 y4 y6 y7, σ = [some (.ref a), some (vN n), some (.ref b), y3, y4, some (.ref D), y6, y7])
          ⟨s2, t2, _, _, _, _, rfl⟩ (fun _ _ _ _ _ => trivial) (fun k x σ H3 H4 hk p y => ?_) (fun σ H3 p => ?_)⟩
        · obtain ⟨s3, t3, y3, y4, y6, y7, rfl⟩ := p
          obtain ⟨rfl, ex⟩ := y
          subst ex
          have hk : k < n := hk
          refine ⟨_, rfl, _, rfl, by omega, by omega, for_it walk_range0 (fun i σ H3 => Same H H3 ∧ TabM H3 D rs n (fun x y => if x < i then dk rods (k + 1) x y else dk rods k x y) ∧ ∃ y3 y4 y6, σ = [some (.ref a), some (vN n), some (.ref b), y3, y4, some (.ref D), y6, some (vN k)])
            ⟨s3, t3.congr fun x y _ _ => by simp, _, _, _, rfl⟩ (fun _ _ _ _ _ => trivial) (fun i x σ H3 H4 hi p y => ?_) (fun σ H3 p => ?_)⟩
          · obtain ⟨s4, t4, y3, y4, y6, rfl⟩ := p
            obtain ⟨rfl, ex⟩ := y
            subst ex
            have hi : i < n := hi
            refine ⟨_, rfl, _, rfl, by omega, by omega, for_it walk_range0 (fun j σ H3 => Same H H3 ∧ TabM H3 D rs n (fun x y => if x < i ∨ (x = i ∧ y < j) then dk rods (k + 1) x y else dk rods k x y) ∧ ∃ y4 y6, σ = [some (.ref a), some (vN n), some (.ref b), some (vN i), y4, some (.ref D), y6, some (vN k)])
              ⟨s4, t4.congr fun x y _ _ => by simp, _, _, rfl⟩ (fun _ _ _ _ _ => trivial) (fun j x σ H3 H4 hj p y => ?_) (fun σ H3 p => ?_)⟩
            · obtain ⟨s5, t5, y4, y6, rfl⟩ := p
              obtain ⟨rfl, ex⟩ := y
              subst ex
              have hj : j < n := hj
              obtain ⟨ri, e1, v1, w1⟩ := t5.at_ hi
              obtain ⟨rk, e2, v2, w2⟩ := t5.at_ hk
              have f1 : H ri = none := fresh _ (List.mem_of_getElem? e1)
              refine ⟨_, rfl, _, rfl, D, _, _, _, rfl, rfl, .inl (.inl t5.top), at0 v1, _, rfl, ri, _, _, _, rfl, rfl, .inl (.inl w1), at0 (rangeAt _ hj), ?_⟩
              refine ⟨_, rfl, _, rfl, D, _, _, _, rfl, rfl, .inl (.inl t5.top), at0 v1, _, rfl, ri, _, _, _, rfl, rfl, .inl (.inl w1), at0 (rangeAt _ hk), ?_⟩
              refine ⟨_, rfl, _, rfl, D, _, _, _, rfl, rfl, .inl (.inl t5.top), at0 v2, _, rfl, rk, _, _, _, rfl, rfl, .inl (.inl w2), at0 (rangeAt _ hj), _, _, rfl, rfl, ?_⟩
              have a1 : (if i < i ∨ (i = i ∧ j < j) then dk rods (k + 1) i j else dk rods k i j) = dk rods k i j := if_neg (by omega)
              have a2 : (if i < i ∨ (i = i ∧ k < j) then dk rods (k + 1) i k else dk rods k i k) = dk rods k i k := by rw [dk_row, ite_self]
              have a3 : (if k < i ∨ (k = i ∧ j < j) then dk rods (k + 1) k j else dk rods k k j) = dk rods k k j := by rw [dk_col, ite_self]
              rw [a1, a2, a3]
              refine ⟨_, _, rfl, ?_⟩
              rw [← Int.natCast_add, minN]
              refine ⟨_, rfl, _, rfl, D, _, _, _, rfl, rfl, .inl (.inl t5.top), at0 v1, _, rfl, ri, _, _, j, rfl, rfl, w1, ?_, ?_⟩
              · rw [lenRow]
                exact ixN_at hj
              · have t6 := t5.set (v := min (dk rods k i j) (dk rods k i k + dk rods k k j)) e1 hj
                refine ⟨same_in s5 f1, t6.congr fun x y _ _ => ?_, _, _, rfl⟩
                by_cases c : x = i ∧ y = j
                · rw [c.1, c.2, upd2_at, if_pos (by omega)]
                  rfl
                · rw [upd2_ne c]
                  by_cases d : x < i ∨ (x = i ∧ y < j)
                  · rw [if_pos d, if_pos (by omega)]
                  · rw [if_neg d, if_neg (by omega)]
            · obtain ⟨s5, t5, y4, y6, rfl⟩ := p
              have t5 : TabM H3 D rs n (fun x y => if x < i ∨ (x = i ∧ y < n) then dk rods (k + 1) x y else dk rods k x y) := t5
              refine ⟨s5, t5.congr fun x y _ hy => ?_, _, _, _, rfl⟩
              by_cases d : x < i ∨ (x = i ∧ y < n)
              · rw [if_pos d, if_pos (by omega)]
              · rw [if_neg d, if_neg (by omega)]
          · obtain ⟨s4, t4, y3, y4, y6, rfl⟩ := p
            exact ⟨s4, t4.congr fun x y hx _ => if_pos hx, _, _, _, _, rfl⟩
        · obtain ⟨s3, t3, y3, y4, y6, y7, rfl⟩ := p
          exact ⟨_, rfl, q D H3 s3 ⟨rs, t3, nD, fresh⟩⟩
end
end Lk

set_option Elab.async false
set_option linter.all false
set_option maxRecDepth 100000
set_option maxHeartbeats 4000000
namespace Lk
open PySem PySem.Spec PyProof.Rows L2
/-- a new list of data -/
def ListAt (K : PySem.W.Frag) (H0 H : Hp) (q : Addr) (ds : List PyData) : Prop := H0 q = none ∧ ∃ xs, H q = some (.lst xs) ∧ DpAll K H xs ds
/-- a table that is read -/
def TabR (H : Hp) (p : Addr) (n : Nat) (T : Nat → Nat → Nat) : Prop := ∃ rs, TabM H p rs n T
theorem Tab.r {H0 H : Hp} {p : Addr} {n : Nat} {T : Nat → Nat → Nat} (t : Tab H0 H p n T) : TabR H p n T := ⟨t.choose, t.choose_spec.1⟩
theorem TabR.same {H H' : Hp} {p : Addr} {n : Nat} {T : Nat → Nat → Nat} (t : TabR H p n T) (e : Same H H') : TabR H' p n T := ⟨t.choose, t.choose_spec.same e⟩
theorem TabR.at2 {H : Hp} {p : Addr} {n : Nat} {T : Nat → Nat → Nat} (t : TabR H p n T) {i : Nat} (hi : i < n) : ∃ xs r, H p = some (.lst xs) ∧ xs[i]? = some (.ref r) ∧ H r = some (.lst ((List.range n).map fun j => vN (T i j))) := by
  obtain ⟨rs, t⟩ := t
  obtain ⟨r, _, v, w⟩ := t.at_ hi
  exact ⟨_, r, t.top, v, w⟩
def encPs (ps : List (Nat × Nat)) : PyData := .tuple (ps.map encP)
theorem lf_encPs (ps : List (Nat × Nat)) : lf (encPs ps) = true := by rw [encPs, lf_tup, lf_map lf_encP]
/-! ### bad pairs, place by place -/
def rowP (n i : Nat) : List (Nat × Nat) := (List.range' (i + 1) (n - (i + 1))).map fun j => (i, j)
theorem bad_flat (n : Nat) (D : Nat → Nat → Nat) (h : Nat → Nat) : bad n D h = (List.range n).flatMap fun i => (rowP n i).filter (gap D h) := by
  unfold bad pairsN rowP
  rw [List.filter_flatMap]
def badTo (n : Nat) (D : Nat → Nat → Nat) (h : Nat → Nat) (i t : Nat) : List (Nat × Nat) := ((List.range i).flatMap fun i => (rowP n i).filter (gap D h)) ++ ((List.range' (i + 1) t).map fun j => (i, j)).filter (gap D h)
theorem badTo_zero (n : Nat) (D : Nat → Nat → Nat) (h : Nat → Nat) : badTo n D h 0 0 = [] := rfl
theorem badTo_n (n : Nat) (D : Nat → Nat → Nat) (h : Nat → Nat) : badTo n D h n 0 = bad n D h := by
  rw [bad_flat]
  unfold badTo
  simp
theorem badTo_next (n : Nat) (D : Nat → Nat → Nat) (h : Nat → Nat) (i : Nat) : badTo n D h i (n - (i + 1)) = badTo n D h (i + 1) 0 := by
  unfold badTo
  rw [List.range_succ, List.flatMap_append]
  simp [rowP]
theorem badTo_step (n : Nat) (D : Nat → Nat → Nat) (h : Nat → Nat) (i t : Nat) : badTo n D h i (t + 1) = badTo n D h i t ++ if gap D h (i, i + 1 + t) = true then [(i, i + 1 + t)] else [] := by
  unfold badTo
  rw [List.range'_1_concat, List.map_append, List.filter_append, List.append_assoc]
  congr 2
  by_cases g : gap D h (i, i + 1 + t) = true
  · simp [g]
  · simp [g]
theorem badTo_len (n : Nat) (D : Nat → Nat → Nat) (h : Nat → Nat) : ∀ i t, i ≤ 8 → t ≤ 8 → n ≤ 8 → (badTo n D h i t).length ≤ 8 * i + t := by
  intro i t _ _ hn
  unfold badTo
  rw [List.length_append]
  have h2 : (((List.range' (i + 1) t).map fun j => (i, j)).filter (gap D h)).length ≤ t := Nat.le_trans (List.length_filter_le _ _) (by simp)
  have h1 : ∀ i, ((List.range i).flatMap fun i => (rowP n i).filter (gap D h)).length ≤ 8 * i := by
    intro i
    induction i with
    | zero => simp
    | succ i ih =>
      rw [List.range_succ, List.flatMap_append, List.length_append]
      have : ([i].flatMap fun i => (rowP n i).filter (gap D h)).length ≤ 8 := by
        simp only [List.flatMap_cons, List.flatMap_nil, List.append_nil]
        refine Nat.le_trans (List.length_filter_le _ _) ?_
        simp [rowP]
        omega
      omega
  have := h1 i
  omega
theorem gapV (D : Nat → Nat → Nat) (h : Nat → Nat) (i j : Nat) : decide ((D i j : Int) < (if (h i : Int) - (h j : Int) < 0 then -((h i : Int) - (h j : Int)) else (h i : Int) - (h j : Int))) = gap D h (i, j) := by
  unfold gap
  rw [Bool.eq_iff_iff]
  simp only [decide_eq_true_eq]
  split <;> omega
theorem walk_range1 {l n : Nat} {lo : Int} (hl : lo = (l : Int)) : Walk (Itr lo n) n (fun _ => True) (fun i H x H' => H' = H ∧ x = vN (l + i)) :=
  ⟨fun _ _ hi _ => hi, fun _ _ => Nat.le_refl _, fun i H x H' _ _ y => ⟨y.1, y.2.trans (by rw [hl, ← Int.natCast_add])⟩⟩
section
variable {P : Program} {w : World} {K : PySem.W.Frag} {mg : Str → Option Value} {base : Heap}
def spNeedBoth (K : PySem.W.Frag) : Sp := fun vs H Q _ => ∃ (n : Nat) (rods : List Rod) (v u : V) (h : Nat → Nat), vs = [v, u] ∧ Dp K H v (encN n rods) ∧ Dp K H u (encRow n h) ∧ NetOk n rods ∧ (∀ i, i < n → h i ≤ 99) ∧ ∀ p H', Same H H' → Tab H H' p n (dist n rods) → Q (.ref p) H'
theorem ok_need_both (F : Std K mg "need_both" st_need_both) (B : Bl mg) (c_need_net : Has P w K mg base 3 "need_net" ["value"] (spNeedNet K)) (c_need_row : Has P w K mg base 3 "need_row" ["net", "row"] (spNeedRow K)) (c_table_of : Has P w K mg base 1 "table_of" ["net"] (spTable K)) :
    Has P w K mg base 4 "need_both" ["net", "row"] (spNeedBoth K) := by
  refine has_def F sc_need_both (fun _ _ _ _ _ _ us hl => match us, hl with | [_, _], _ => rfl) (fun vs H Q E h => ?_) (fun f cdv A outer s H vs Q E hr h => ?_)
  · obtain ⟨n, rods, v, u, h, rfl, _⟩ := h
    rfl
  · obtain ⟨n, rods, v, u, h, rfl, hv, hu, N, h99, q⟩ := h
    refine ⟨_, (pss_cons (ps_expr (pe_has c_need_net hr (by first | decide | exact Nat.le_refl _) (by rfl) (pa_cons (pv 0) pa_nil)))
    (pss_cons (ps_expr (pe_has c_need_row hr (by first | decide | exact Nat.le_refl _) (by rfl) (pa_cons (pv 0) (pa_cons (pv 1) pa_nil))))
    (pss_one (ps_ret (pe_has c_table_of hr (by first | decide | exact Nat.le_refl _) (by rfl) (pa_cons (pv 0) pa_nil)))))), ?_⟩
    refine ⟨_, rfl, n, rods, v, rfl, hv, N, fun H1 s1 => ?_⟩
    refine ⟨_, rfl, _, rfl, n, rods, v, u, h, rfl, dp_same s1 _ _ hv, dp_same s1 _ _ hu, h99, fun H2 s2 => ?_⟩
    have s12 := s1.trans s2
    refine ⟨_, rfl, n, rods, v, rfl, dp_same s12 _ _ hv, N, fun p H3 s3 t => q p H3 (s12.trans s3) ?_⟩
    obtain ⟨rs, t1, t2, t3⟩ := t
    exact ⟨rs, t1, s12.free t2, fun r hr => s12.free (t3 r hr)⟩
def spPairsOf (K : PySem.W.Frag) : Sp := fun vs H Q _ => ∃ (n : Nat) (D : Nat → Nat → Nat) (p : Addr) (u : V) (h : Nat → Nat), vs = [.ref p, u] ∧ TabR H p n D ∧ Dp K H u (encRow n h) ∧ n ≤ 8 ∧ ∀ q H', Same H H' → ListAt K H H' q ((bad n D h).map encP) → Q (.ref q) H'
theorem ok_pairs_of (F : Std K mg "pairs_of" st_pairs_of) (B : Bl mg) : Has P w K mg base 1 "pairs_of" ["table", "row"] (spPairsOf K) := by
  refine has_def F sc_pairs_of (fun _ _ _ _ _ _ us hl => match us, hl with | [_, _], _ => rfl) (fun vs H Q E h => ?_) (fun f cdv A outer s H vs Q E hr h => ?_)
  · obtain ⟨n, D, p, u, h, rfl, _⟩ := h
    rfl
  · obtain ⟨n, D, p, u, h, rfl, hT, hu, n8, q⟩ := h
    obtain ⟨c, rfl, hC⟩ := dp_encRow hu
    refine ⟨_, (pss_cons (ps_set (i := 2) sc_pairs_of.nd rfl (.inl rfl) (pe_lst pa_nil))
    (pss_cons (ps_for PassesOwn.never rfl (pi_range1 (by rfl) B.range (pa_cons (pe_callB call_len_seq (by rfl) B.len PySem.boot_len (pa_cons (pv 1) pa_nil)) pa_nil)) (pg_name (i := 3) sc_pairs_of.nd rfl (.inl rfl))
    (pss_one (ps_for PassesOwn.never rfl (pi_range2 (by rfl) B.range (pa_cons (pe_op op_add (pv 3) pe_int) (pa_cons (pe_callB call_len_seq (by rfl) B.len PySem.boot_len (pa_cons (pv 1) pa_nil)) pa_nil))) (pg_name (i := 4) sc_pairs_of.nd rfl (.inl rfl))
    (pss_one (ps_if (pt_cmpR op_gt (pe_callB call_abs (by rfl) B.abs boot_abs (pa_cons (pe_op op_sub (pe_ix ix_tup (pv 1) (pv 3) (fun _ _ => rfl)) (pe_ix ix_tup (pv 1) (pv 4) (fun _ _ => rfl))) pa_nil)) (pe_ix ix_list (pe_ix ix_list (pv 0) (pv 3) (fun _ _ => rfl)) (pv 4) (fun _ _ => rfl)) (nomark _)) (pss_one (ps_expr (pe_bm PySem.F.plainAttrs_list PySem.F.slot_list_append PySem.F.type_list_append mt_append (pv 2) (pa_cons (pe_tup (pa_cons (pv 3) (pa_cons (pv 4) pa_nil))) pa_nil)))) pss_nil)))))
    (pss_one (ps_ret (pv 2))))), ?_⟩
    refine ⟨Nat.zero_le _, fun fd nfd => ?_⟩
    have s0 : Same H (upd H fd (.lst [])) := same_new nfd
    refine ⟨_, rfl, c, _, rfl, .inr (same_seqT s0 hC), _, rfl, by rw [lenRow]; omega, by rw [lenRow]; omega, ?_⟩
    rw [lenRow]
    refine for_it walk_range0 (fun i σ H1 => Same H H1 ∧ (∃ xs, H1 fd = some (.lst xs) ∧ DpAll K H1 xs ((badTo n D h i 0).map encP)) ∧ ∃ y3 y4, σ = [some (.ref p), some (.ref c), some (.ref fd), y3, y4])
      ⟨s0, ⟨[], upd_same, .nil⟩, none, none, rfl⟩ (fun _ _ _ _ _ => trivial) (fun i x σ H1 H2 hi z y => ?_) (fun σ H1 z => ?_)
    · obtain ⟨s1, ⟨xs, eF, dF⟩, y3, y4, rfl⟩ := z
      obtain ⟨rfl, rfl⟩ := y
      have hi : i < n := hi
      refine ⟨_, rfl, _, _, rfl, rfl, _, rfl, c, _, rfl, .inr (same_seqT s1 hC), _, _, rfl, ⟨by omega, by omega, by rw [lenRow]; omega, by rw [lenRow]; omega⟩, ?_⟩
      rw [lenRow]
      have en : ((n : Int) - ((i : Int) + 1)).toNat = n - (i + 1) := by omega
      rw [en]
      refine for_it (walk_range1 (l := i + 1) (by omega)) (fun t σ H2 => Same H H2 ∧ (∃ xs, H2 fd = some (.lst xs) ∧ DpAll K H2 xs ((badTo n D h i t).map encP)) ∧ ∃ y4, σ = [some (.ref p), some (.ref c), some (.ref fd), some (vN i), y4])
        ⟨s1, ⟨xs, eF, dF⟩, y4, rfl⟩ (fun _ _ _ _ _ => trivial) (fun t x σ H2 H3 ht z y => ?_) (fun σ H2 z => ?_)
      · obtain ⟨s2, ⟨xs, eF, dF⟩, y4, rfl⟩ := z
        obtain ⟨rfl, rfl⟩ := y
        have hj : i + 1 + t < n := by omega
        have hC2 := same_seqT s2 hC
        obtain ⟨ts, r, eT, aT, eR⟩ := (hT.same s2).at2 hi
        refine ⟨_, rfl, _, rfl, c, _, _, _, rfl, rfl, hC2, at0 (rangeAt (fun i => vN (h i)) hi), _, rfl, _, rfl, c, _, _, _, rfl, rfl, hC2, at0 (rangeAt (fun i => vN (h i)) hj), _, _, rfl, rfl, _, rfl, ?_⟩
        refine ⟨_, rfl, _, rfl, p, _, _, _, rfl, rfl, .inl (.inl eT), at0 aT, _, rfl, r, _, _, _, rfl, rfl, .inl (.inl eR), at0 (rangeAt (fun j => vN (D i j)) hj), _, _, rfl, rfl, _, rfl, ?_⟩
        have gv := gapV D h i (i + 1 + t)
        rw [gv]
        have st := badTo_step n D h i t
        have ln := badTo_len n D h i t (by omega) (by omega) n8
        have lx : xs.length = (badTo n D h i t).length := by
          have := dpa_len dF
          rwa [List.length_map] at this
        refine ite2 (fun g => ?_) (fun g => ?_)
        · rw [if_pos g] at st
          refine ⟨_, rfl, .inl ⟨rfl, _, .inl (.inl eF)⟩, _, rfl, _, rfl, by show 2 ≤ sizeLine; decide, fun T nT => ?_⟩
          have sT := same_new (o := .tup [vN i, vN (i + 1 + t)]) nT
          have eF2 := sT _ _ eF
          refine ⟨fd, xs, _, rfl, rfl, eF2, small (by omega), same_in (s2.trans sT) nfd, ⟨_, upd_same, ?_⟩, _, rfl⟩
          rw [st, List.map_append]
          have kt := keepT_lst (K := K) (o := .lst (xs ++ [V.ref T])) eF2
          exact dpa_app (dpa_keep kt _ _ (lf_map lf_encP _) (dpa_same sT _ _ dF)) (dpa_one (dp_keep kt _ _ (lf_encP _) (mk_encP (p := (i, i + 1 + t)) (SqT.of upd_same))))
        · rw [if_neg g, List.append_nil] at st
          exact ⟨s2, ⟨xs, eF, by rw [st]; exact dF⟩, _, rfl⟩
      · obtain ⟨s2, ⟨xs, eF, dF⟩, y4, rfl⟩ := z
        rw [badTo_next] at dF
        exact ⟨s2, ⟨xs, eF, dF⟩, _, _, rfl⟩
    · obtain ⟨s1, ⟨xs, eF, dF⟩, y3, y4, rfl⟩ := z
      have dF : DpAll K H1 xs ((badTo n D h n 0).map encP) := dF
      rw [badTo_n] at dF
      exact ⟨_, rfl, q fd H1 s1 ⟨nfd, xs, eF, dF⟩⟩
def spBad (K : PySem.W.Frag) : Sp := fun vs H Q _ => ∃ (n : Nat) (rods : List Rod) (v u : V) (h : Nat → Nat), vs = [v, u] ∧ Dp K H v (encN n rods) ∧ Dp K H u (encRow n h) ∧ NetOk n rods ∧ (∀ i, i < n → h i ≤ 99) ∧
  ∀ x H', Same H H' → Dp K H' x (encPs (bad n (dist n rods) h)) → Q x H'
theorem ok_bad_pairs (F : Std K mg "bad_pairs" st_bad_pairs) (B : Bl mg) (c_need_both : Has P w K mg base 4 "need_both" ["net", "row"] (spNeedBoth K)) (c_pairs_of : Has P w K mg base 1 "pairs_of" ["table", "row"] (spPairsOf K)) :
    Has P w K mg base 5 "bad_pairs" ["net", "row"] (spBad K) := by
  refine has_def F sc_bad_pairs (fun _ _ _ _ _ _ us hl => match us, hl with | [_, _], _ => rfl) (fun vs H Q E h => ?_) (fun f cdv A outer s H vs Q E hr h => ?_)
  · obtain ⟨n, rods, v, u, h, rfl, _⟩ := h
    rfl
  · obtain ⟨n, rods, v, u, h, rfl, hv, hu, N, h99, q⟩ := h
    refine ⟨_, (pss_cons (ps_set (i := 2) sc_bad_pairs.nd rfl (.inl rfl) (pe_has c_need_both hr (by first | decide | exact Nat.le_refl _) (by rfl) (pa_cons (pv 0) (pa_cons (pv 1) pa_nil))))
    (pss_one (ps_ret (pe_callTy call_tuple_of (by rfl) B.tuple boot_tuple (pa_cons (pe_has c_pairs_of hr (by first | decide | exact Nat.le_refl _) (by rfl) (pa_cons (pv 2) (pa_cons (pv 1) pa_nil))) pa_nil))))), ?_⟩
    refine ⟨_, rfl, _, rfl, n, rods, v, u, h, rfl, hv, hu, N, h99, fun p H1 s1 t => ?_⟩
    refine ⟨_, rfl, _, rfl, n, dist n rods, p, u, h, rfl, t.r, dp_same s1 _ _ hu, N.n8, fun l H2 s2 ⟨nl, xs, eL, dL⟩ => ?_⟩
    refine ⟨l, xs, rfl, .inl ⟨.inl (.inl eL), fun T nT => ?_⟩⟩
    have sT : Same H2 (upd H2 T (.tup xs)) := same_new nT
    exact q _ _ (s1.trans (s2.trans sT)) (.tup (SqT.of upd_same) (dpa_same sT _ _ dL))
def spSubsets (K : PySem.W.Frag) : Sp := fun vs H Q _ => ∃ n : Nat, vs = [vN n] ∧ n ≤ 8 ∧ ∀ q H', Same H H' → ListAt K H H' q ((subsN n).map encT) → Q (.ref q) H'
theorem ok_subsets (F : Std K mg "subsets" st_subsets) (B : Bl mg) : Has P w K mg base 1 "subsets" ["many"] (spSubsets K) := by
  refine has_def F sc_subsets (fun _ _ _ _ _ _ us hl => match us, hl with | [_], _ => rfl) (fun vs H Q E h => ?_) (fun f cdv A outer s H vs Q E hr h => ?_)
  · obtain ⟨n, rfl, _⟩ := h
    rfl
  · obtain ⟨n, rfl, n8, q⟩ := h
    refine ⟨_, (pss_cons (ps_set (i := 1) sc_subsets.nd rfl (.inl rfl) (pe_lst (pa_cons (pe_tup pa_nil) pa_nil)))
    (pss_cons (ps_for PassesOwn.never rfl (pi_range1 (by rfl) B.range (pa_cons (pv 0) pa_nil)) (pg_name (i := 2) sc_subsets.nd rfl (.inr rfl))
    (pss_one (ps_set (i := 1) sc_subsets.nd rfl (.inl rfl) (pe_op op_cat (pv 1) (pe_lc (own := [("told", 3)]) (by rfl) sc_subsets.nd (pi_list (pv 1)) (blkOk_by (N := nm_subsets) (own := [("told", 3)]) (sc := defScope st_subsets) (by decide +kernel)) (fun _ _ _ _ _ => (pg_name (i := 3) sc_subsets.nd rfl (by first | exact Or.inl rfl | exact Or.inr rfl))) (fun _ _ _ _ _ => pts_nil) (fun _ _ _ _ _ => (pe_op (kOp (rCatA K) op_catA) (pv 3) (pe_tup (pa_cons (pv 2) pa_nil)))))))))
    (pss_one (ps_ret (pv 1))))), ?_⟩
    refine ⟨Nat.zero_le _, fun t0 nt0 => ⟨by show 1 ≤ sizeLine; decide, fun l0 nl0 => ?_⟩⟩
    have s0 : Same H (upd H t0 (.tup [])) := same_new nt0
    have s1 : Same (upd H t0 (.tup [])) _ := same_new (o := .lst [V.ref t0]) nl0
    refine ⟨_, rfl, _, rfl, by omega, by omega, for_it walk_range0 (fun k σ H1 => Same H H1 ∧ ∃ p y2, σ = [some (vN n), some (.ref p), y2, none] ∧ ListAt K H H1 p ((subsN k).map encT))
      ⟨s0.trans s1, l0, none, rfl, s0.free nl0, _, upd_same, dpa_one (mk_encT (s := []) (SqT.of (s1 _ _ upd_same)))⟩ (fun _ _ _ _ _ => trivial) (fun k x σ H1 H2 hk z y => ?_) (fun σ H1 z => ?_)⟩
    · obtain ⟨s2, p, y2, rfl, np, xs, eP, dP⟩ := z
      obtain ⟨rfl, rfl⟩ := y
      have hk : k < n := hk
      have cn := subsN_count8 (n := k) (by omega)
      have lx : xs.length = (subsN k).length := by
        have := dpa_len dP
        rwa [List.length_map] at this
      refine ⟨_, rfl, _, rfl, p, rfl, ⟨xs, .inl (.inl eP)⟩, fun D nD => ?_⟩
      refine lc_lfY (K := K) (subsN k) (walk_list (xs := xs)) lx (small (by omega)) nD (fun s => encT (s ++ [k])) (fun _ => lf_encT _) (fun H3 s3 => s3.seq (.inl (.inl eP))) (fun i e x H3 H4 NY he s3 y ky => ?_) (fun H3 vs s3 eD dA => ?_) g_name
      · obtain ⟨rfl, hx⟩ := y
        obtain ⟨e', he', de⟩ := dpa_getMV dP hx
        rw [he] at he'
        cases he'
        obtain ⟨a, rfl, hA⟩ := dp_encT (dp_same s3 _ _ de)
        refine ⟨rfl, _, rfl, _, rfl, by show 1 ≤ sizeLine; decide, fun T nT => ?_⟩
        have sT := same_new (o := .tup [vN k]) nT
        have em : (List.map vN e).length + ([vN k] : List V).length ≤ sizeLine := by
          have := subsN_le (List.mem_of_getElem? he)
          rw [List.length_map, List.length_singleton]
          exact Nat.le_of_lt (small (by omega))
        refine ⟨a, T, _, [vN k], rfl, rfl, same_seqT sT hA, SqT.of upd_same, em, fun e0 => ?_, (fun _ e1 => nomatch e1), fun _ _ R nR => ?_⟩
        · have : e = [] := by
            cases e with
            | nil => rfl
            | cons _ _ => cases e0
          subst this
          exact ky _ _ sT (mk_encT (s := [k]) (SqT.of upd_same))
        · have sR := same_new (o := .tup (List.map vN e ++ [vN k])) nR
          refine ky _ _ (sT.trans sR) (mk_encT ?_)
          rw [List.map_append]
          exact SqT.of upd_same
      · have lv : vs.length = (subsN k).length := by
          have := dpa_len dA
          rwa [List.length_map] at this
        refine ⟨p, D, xs, vs, rfl, rfl, s3 _ _ eP, eD, Nat.le_of_lt (small (by omega)), fun R nR => ?_⟩
        have sR := same_new (o := .lst (xs ++ vs)) nR
        refine ⟨s2.trans (s3.trans sR), R, _, rfl, s2.free (s3.free nR), _, upd_same, ?_⟩
        have : (subsN (k + 1)).map encT = (subsN k).map encT ++ (subsN k).map fun s => encT (s ++ [k]) := by
          show (subsN k ++ (subsN k).map (· ++ [k])).map encT = _
          rw [List.map_append, List.map_map]
          rfl
        rw [this]
        exact dpa_app (dpa_same (s3.trans sR) _ _ dP) (dpa_same sR _ _ dA)
    · obtain ⟨s2, p, y2, rfl, L⟩ := z
      exact ⟨_, rfl, q p H1 s2 L⟩
def spCovers (K : PySem.W.Frag) : Sp := fun vs H Q _ => ∃ (v u : V) (ps : List (Nat × Nat)) (s : List Nat), vs = [v, u] ∧ Dp K H v (encPs ps) ∧ Dp K H u (encT s) ∧ ps.length ≤ 1000 ∧ ∀ H', Same H H' → Q (.bl (cov ps s)) H'
/-- a list of truth values told by tests -/
theorem dpa_bools {H : Hp} {ε : Type} {g : ε → Bool} : ∀ {vs : List V} {es : List ε}, DpAll K H vs (es.map fun e => .bool (g e)) → vs = (es.map g).map V.bl
  | _, [], h => by cases h; rfl
  | _, e :: es, h => by
    cases h with
    | cons a b =>
      rw [dpa_bools b]
      cases a
      rfl
theorem ok_covers (F : Std K mg "covers" st_covers) (B : Bl mg) : Has P w K mg base 1 "covers" ["pairs", "places"] (spCovers K) := by
  refine has_def F sc_covers (fun _ _ _ _ _ _ us hl => match us, hl with | [_, _], _ => rfl) (fun vs H Q E h => ?_) (fun f cdv A outer s H vs Q E hr h => ?_)
  · obtain ⟨v, u, ps, t, rfl, _⟩ := h
    rfl
  · obtain ⟨v, u, ps, t, rfl, hv, hu, lp, q⟩ := h
    obtain ⟨a, xs, rfl, hA, dA⟩ := dp_tup hv
    obtain ⟨c, rfl, hC⟩ := dp_encT hu
    have lx : xs.length = ps.length := by
      have := dpa_len dA
      rwa [List.length_map] at this
    refine ⟨_, (pss_one (ps_ret (pe_callB (cr_all rfl) (by rfl) B.all boot_all (pa_cons (pe_lc (own := [("one", 2), ("other", 3)]) (by rfl) sc_covers.nd (pi_tup (pv 0)) (blkOk_by (N := nm_covers) (own := [("one", 2), ("other", 3)]) (sc := defScope st_covers) (by decide +kernel)) (fun _ _ _ _ _ => (pg_tupK K 2 rfl rfl (pgs_cons (pg_name (i := 2) sc_covers.nd rfl (by first | exact Or.inl rfl | exact Or.inr rfl)) (pgs_cons (pg_name (i := 3) sc_covers.nd rfl (by first | exact Or.inl rfl | exact Or.inr rfl)) pgs_nil)))) (fun _ _ _ _ _ => pts_nil) (fun _ _ _ _ _ => (pe_or (pe_cmpR (kOp (rIn K false) op_in_seq) (pv 2) (pv 1) rfl) (pe_one (pe_cmpR (kOp (rIn K false) op_in_seq) (pv 3) (pv 1) rfl))))) pa_nil)))), ?_⟩
    refine ⟨_, rfl, a, rfl, ⟨xs, hA⟩, fun D nD => ?_⟩
    refine lc_lfY (K := K) ps (walk_tup (xs := xs)) lx (small (by omega)) nD (fun p => .bool (t.contains p.1 || t.contains p.2)) (fun _ => rfl) (fun H1 s1 => same_seqT s1 hA) (fun i e x H1 H2 NY he s1 y ky => ?_) (fun H1 vs s1 eD dB => ?_) g_two
    · obtain ⟨rfl, hx⟩ := y
      obtain ⟨e', he', de⟩ := dpa_getMV dA hx
      rw [he] at he'
      cases he'
      obtain ⟨b, rfl, hB⟩ := dp_encP (dp_same s1 _ _ de)
      have hC1 := same_seqT s1 hC
      refine ⟨b, _, rfl, hB, rfl, _, _, rfl, _, _, rfl, rfl, rfl, ?_⟩
      refine ⟨_, rfl, _, rfl, c, _, rfl, .inr hC1, rfl, flat_nats t, _, rfl, ?_⟩
      show if inV (vN e.1) (t.map vN) = true then _ else _
      rw [inV_nats]
      cases c1 : t.contains e.1 with
      | true =>
        refine iteT (ky _ _ (Same.refl _) ?_)
        rw [c1, Bool.true_or]
        exact .bl true
      | false =>
        refine iteF ⟨_, rfl, _, rfl, c, _, rfl, .inr hC1, rfl, flat_nats t, ?_⟩
        show NY (.bl (inV (vN e.2) (t.map vN))) _
        rw [inV_nats]
        refine ky _ _ (Same.refl _) ?_
        rw [c1, Bool.false_or]
        exact .bl _
    · rw [dpa_bools dB] at eD
      refine ⟨D, _, rfl, .inl (.inl eD), ?_⟩
      have : (ps.map fun p => (t.contains p.1 || t.contains p.2)).all id = cov ps t := by
        rw [List.all_map]
        rfl
      rw [this]
      exact q H1 s1
end
end Lk

set_option Elab.async false
set_option linter.all false
set_option maxRecDepth 100000
set_option maxHeartbeats 4000000
namespace Lk
open PySem PySem.Spec PyProof.Rows L2
def toldD (h : Nat → Nat) (s : List Nat) (i : Nat) : PyData := if s.contains i then .none else nI (h i)
def encTold (n : Nat) (h : Nat → Nat) (s : List Nat) : PyData := .tuple ((List.range n).map (toldD h s))
theorem lf_toldD (h : Nat → Nat) (s : List Nat) (i : Nat) : lf (toldD h s i) = true := by
  unfold toldD
  split
  · exact lf_none
  · exact lf_int _
theorem filterMap_rest {δ : Type} (n : Nat) (s : List Nat) (g : Nat → δ) : (List.range n).filterMap (fun i => if s.contains i then none else some (g i)) = (restOf n s).map g := by
  unfold restOf
  induction List.range n with
  | nil => rfl
  | cons x l ih =>
    rw [List.filterMap_cons, List.filter_cons]
    cases c : s.contains x with
    | true =>
      simp only [if_true, Bool.not_true, Bool.false_eq_true, if_false]
      exact ih
    | false =>
      simp only [Bool.false_eq_true, if_false, Bool.not_false, if_true, List.map_cons]
      rw [ih]
theorem dpa_intsM {K : PySem.W.Frag} {H : Hp} {ε : Type} {vs : List V} {es : List ε} {g : ε → Int} (h : DpAll K H vs (es.map fun e => .int (g e))) : vs = (es.map g).map V.int := by
  have h2 : DpAll K H vs ((es.map g).map .int) := by
    rw [List.map_map]
    exact h
  exact dpa_ints h2
theorem restOf_le (n : Nat) (s : List Nat) : (restOf n s).length ≤ n := by
  have := List.length_filter_le (fun x => !s.contains x) (List.range n)
  rw [List.length_range] at this
  exact this
def enc2 (e : Int × Int) : PyData := .tuple [.int e.1, .int e.2]
theorem lf_enc2 (e : Int × Int) : lf (enc2 e) = true := by simp [enc2, lf, lfAll]
theorem dp_enc2 {K : PySem.W.Frag} {H : Hp} {v : V} {e : Int × Int} (h : Dp K H v (enc2 e)) : ∃ a, v = .ref a ∧ SqT K H a [.int e.1, .int e.2] := by
  obtain ⟨a, xs, rfl, q, d⟩ := dp_tup h
  rw [dpa_ints (ns := [e.1, e.2]) d] at q
  exact ⟨a, rfl, q⟩
theorem mk_enc2 {K : PySem.W.Frag} {H : Hp} {a : Addr} {e : Int × Int} (h : SqT K H a [.int e.1, .int e.2]) : Dp K H (.ref a) (enc2 e) := .tup h (.cons (.int _) (.cons (.int _) .nil))
section
variable {P : Program} {w : World} {K : PySem.W.Frag} {mg : Str → Option Value} {base : Heap}
def spSpans (K : PySem.W.Frag) : Sp := fun vs H Q _ => ∃ (n : Nat) (D : Nat → Nat → Nat) (p : Addr) (u : V) (h : Nat → Nat) (s : List Nat), vs = [.ref p, u, .int 99] ∧ TabR H p n D ∧ Dp K H u (encTold n h s) ∧ n ≤ 8 ∧
  ∀ q H' (es : List (Int × Int)), Same H H' → es.map Prod.fst = (List.range n).map (mend n D h s) → ListAt K H H' q (es.map enc2) → Q (.ref q) H'
theorem ok_spans (F : Std K mg "spans" st_spans) (B : Bl mg) : Has P w K mg base 1 "spans" ["table", "told", "most"] (spSpans K) := by
  refine has_def F sc_spans (fun _ _ _ _ _ _ us hl => match us, hl with | [_, _, _], _ => rfl) (fun vs H Q E h => ?_) (fun f cdv A outer s H vs Q E hr h => ?_)
  · obtain ⟨n, D, p, u, h, t, rfl, _⟩ := h
    rfl
  · obtain ⟨n, T, p, u, h, t, rfl, hT, hu, n8, q⟩ := h
    obtain ⟨c, us, rfl, hC, dC⟩ := dp_tup hu
    have lu : us.length = n := by
      have := dpa_len dC
      rwa [List.length_map, List.length_range] at this
    refine ⟨_, (pss_cons (ps_set (i := 3) sc_spans.nd rfl (.inl rfl) (pe_lst pa_nil))
    (pss_cons (ps_for PassesOwn.never rfl (pi_range1 (by rfl) B.range (pa_cons (pe_callB call_len_seq (by rfl) B.len PySem.boot_len (pa_cons (pv 1) pa_nil)) pa_nil)) (pg_name (i := 4) sc_spans.nd rfl (.inr rfl))
    (pss_cons (ps_setLc (i := 5) (own := [("one", 7), ("height", 8)]) (by rfl) sc_spans.nd rfl rfl (sw_true rfl rfl rfl (by decide +kernel)) (pi_enumT (by rfl) B.enum (pa_cons (pv 1) pa_nil)) (blkOk_by (N := nm_spans) (own := [("one", 7), ("height", 8)]) (sc := defScope st_spans) (by decide +kernel)) (fun _ _ _ _ _ => (pg_tupK K 2 rfl rfl (pgs_cons (pg_name (i := 7) sc_spans.nd rfl (by first | exact Or.inl rfl | exact Or.inr rfl)) (pgs_cons (pg_name (i := 8) sc_spans.nd rfl (by first | exact Or.inl rfl | exact Or.inr rfl)) pgs_nil)))) (fun _ _ _ _ _ => (pts_one (pt_cmpR op_notN (pv 8) pe_non (nomark _)))) (fun _ _ _ _ _ => (pe_tup (pa_cons (pv 8) (pa_cons (pe_ix (kIx (rIxL K) ix_list) (pe_ix (kIx (rIxL K) ix_list) (pv 0) (pv 7) (fun _ _ => rfl)) (pv 4) (fun _ _ => rfl)) pa_nil)))))
    (pss_cons (ps_set (i := 6) sc_spans.nd rfl (.inl rfl) (pe_callB (cr_max rfl) (by rfl) B.max boot_max (pa_cons (pe_op op_cat (pe_lst (pa_cons pe_int pa_nil)) (pe_lc (own := [("height", 8), ("far", 9)]) (by rfl) sc_spans.nd (pi_list (pv 5)) (blkOk_by (N := nm_spans) (own := [("height", 8), ("far", 9)]) (sc := defScope st_spans) (by decide +kernel)) (fun _ _ _ _ _ => (pg_tupK K 2 rfl rfl (pgs_cons (pg_name (i := 8) sc_spans.nd rfl (by first | exact Or.inl rfl | exact Or.inr rfl)) (pgs_cons (pg_name (i := 9) sc_spans.nd rfl (by first | exact Or.inl rfl | exact Or.inr rfl)) pgs_nil)))) (fun _ _ _ _ _ => pts_nil) (fun _ _ _ _ _ => (pe_op op_sub (pv 8) (pv 9))))) pa_nil)))
    (pss_one (ps_expr (pe_bm PySem.F.plainAttrs_list PySem.F.slot_list_append PySem.F.type_list_append mt_append (pv 3) (pa_cons (pe_tup (pa_cons (pv 6) (pa_cons (pe_callB (cr_min rfl) (by rfl) B.min boot_min (pa_cons (pe_op op_cat (pe_lst (pa_cons (pv 2) pa_nil)) (pe_lc (own := [("height", 8), ("far", 9)]) (by rfl) sc_spans.nd (pi_list (pv 5)) (blkOk_by (N := nm_spans) (own := [("height", 8), ("far", 9)]) (sc := defScope st_spans) (by decide +kernel)) (fun _ _ _ _ _ => (pg_tupK K 2 rfl rfl (pgs_cons (pg_name (i := 8) sc_spans.nd rfl (by first | exact Or.inl rfl | exact Or.inr rfl)) (pgs_cons (pg_name (i := 9) sc_spans.nd rfl (by first | exact Or.inl rfl | exact Or.inr rfl)) pgs_nil)))) (fun _ _ _ _ _ => pts_nil) (fun _ _ _ _ _ => (pe_op op_add (pv 8) (pv 9))))) pa_nil)) pa_nil))) pa_nil)))))))
    (pss_one (ps_ret (pv 3))))), ?_⟩
    refine ⟨Nat.zero_le _, fun fd nfd => ?_⟩
    have s0 : Same H (upd H fd (.lst [])) := same_new nfd
    refine ⟨_, rfl, c, _, rfl, .inr (same_seqT s0 hC), _, rfl, by omega, by omega, ?_⟩
    rw [lu]
    refine for_it walk_range0 (fun j σ H1 => Same H H1 ∧ (∃ (xs : List V) (es : List (Int × Int)), H1 fd = some (.lst xs) ∧ DpAll K H1 xs (es.map enc2) ∧ es.map Prod.fst = (List.range j).map (mend n T h t)) ∧
        ∃ y4 y5 y6, σ = [some (.ref p), some (.ref c), some (.int 99), some (.ref fd), y4, y5, y6, none, none, none])
      ⟨s0, ⟨[], [], upd_same, .nil, rfl⟩, none, none, none, rfl⟩ (fun _ _ _ _ _ => trivial) (fun j x σ H1 H2 hj z y => ?_) (fun σ H1 z => ?_)
    · obtain ⟨s1, ⟨xs, es, eF, dF, eM⟩, y4, y5, y6, rfl⟩ := z
      obtain ⟨rfl, rfl⟩ := y
      have hj : j < n := hj
      -- known
      refine ⟨_, rfl, c, _, rfl, same_seqT s1 hC, fun KD nKD => ?_⟩
      refine lc_lf (K := K) (List.range n) (walk_enumT (xs := us)) (by rw [lu, List.length_range]) (by rw [List.length_range]; exact small (by omega)) nKD (fun i => if t.contains i then none else some (encP (h i, T i j)))
        (fun e d hd => by
          split at hd
          · cases hd
          · cases hd
            exact lf_encP _) (fun H3 s3 => same_seqT (s1.trans s3) hC) (fun i e x H3 H4 NY NN he s3 y ky kn => ?_) (fun H3 vs s3 eD dA => ?_)
      · obtain ⟨W, x1, x2, rfl, nW, rfl, e1, e2⟩ := y
        obtain ⟨hi, rfl⟩ := range_at he
        cases e1
        obtain ⟨e', he', de⟩ := dpa_getMV dC e2
        obtain ⟨_, rfl⟩ := range_at he'
        have sW := same_new (o := .tup [vN e', x2]) nW
        refine ⟨W, _, rfl, SqT.of upd_same, rfl, _, _, rfl, _, _, rfl, rfl, rfl, ?_⟩
        unfold toldD at de
        cases ct : t.contains e' with
        | true =>
          rw [ct, if_pos rfl] at de
          have ex := dp_non de
          subst ex
          refine ⟨_, rfl, rfl, _, rfl, iteF (kn _ sW (by rw [ct]; rfl))⟩
        | false =>
          rw [ct, if_neg Bool.false_ne_true] at de
          have ex := dp_int de
          subst ex
          refine ⟨_, rfl, rfl, _, rfl, iteT ?_⟩
          obtain ⟨ts, r, eT, aT, eR⟩ := (hT.same (s1.trans (s3.trans sW))).at2 hi
          refine ⟨_, rfl, _, rfl, _, rfl, p, _, _, _, rfl, rfl, .inl (.inl eT), at0 aT, _, rfl, r, _, _, _, rfl, rfl, .inl (.inl eR), at0 (rangeAt (fun j => vN (T e' j)) hj), by show 2 ≤ sizeLine; decide, fun R nR => ?_⟩
          have sR := same_new (o := .tup [vN (h e'), vN (T e' j)]) nR
          exact ky _ _ _ (sW.trans sR) (by rw [ct]; rfl) (mk_encP (p := (h e', T e' j)) (SqT.of upd_same))
      · rw [filterMap_rest] at dA
        have lv : vs.length = (restOf n t).length := by
          have := dpa_len dA
          rwa [List.length_map] at this
        have rl := restOf_le n t
        -- least
        refine ⟨by show 1 ≤ sizeLine; decide, fun Z nZ => ⟨_, rfl, KD, rfl, ⟨vs, .inl (.inl (same_new nZ _ _ eD))⟩, fun D2 nD2 => ?_⟩⟩
        have sZ := same_new (o := .lst [V.int 0]) nZ
        refine lc_lfY (K := K) (restOf n t) (walk_list (xs := vs)) lv (small (by omega)) nD2 (fun i => .int ((h i : Int) - (T i j : Int))) (fun _ => lf_int _) (fun H4 s4 => s4.seq (.inl (.inl (sZ _ _ eD)))) (fun i e x H4 H5 NY he s4 y ky => ?_) (fun H4 ws s4 eD2 dA2 => ?_) g_two
        · obtain ⟨rfl, hx⟩ := y
          obtain ⟨e', he', de⟩ := dpa_getMV dA hx
          rw [he] at he'
          cases he'
          obtain ⟨b, rfl, hB⟩ := dp_encP (dp_same (sZ.trans s4) _ _ de)
          exact ⟨b, _, rfl, hB, rfl, _, _, rfl, _, _, rfl, rfl, rfl, _, rfl, _, rfl, _, _, rfl, rfl, ky _ _ (Same.refl _) (.int _)⟩
        · rw [dpa_intsM dA2] at eD2
          refine ⟨Z, D2, _, _, rfl, rfl, s4 _ _ upd_same, eD2, Nat.le_of_lt (small (by simp; omega)), fun S nS => ?_⟩
          have sS := same_new (o := .lst ([V.int 0] ++ ((restOf n t).map fun i => ((h i : Int) - (T i j : Int))).map V.int)) nS
          refine ⟨S, 0 :: (restOf n t).map fun i => ((h i : Int) - (T i j : Int)), rfl, .inl (.inl upd_same), Nat.succ_pos _, fun m hm1 hm2 => ?_⟩
          have em : m = mend n T h t j := mx_of hm1 hm2
          subst em
          have s5 := s3.trans (sZ.trans (s4.trans sS))
          have eF5 := s5 _ _ eF
          -- found.append((least, min(..)))
          refine ⟨_, rfl, .inl ⟨rfl, _, .inl (.inl eF5)⟩, _, rfl, _, rfl, by show 1 ≤ sizeLine; decide, fun Z2 nZ2 => ?_⟩
          have sZ2 := same_new (o := .lst [V.int 99]) nZ2
          have s6 := sZ.trans (s4.trans (sS.trans sZ2))
          refine ⟨_, rfl, KD, rfl, ⟨vs, .inl (.inl (s6 _ _ eD))⟩, fun D3 nD3 => ?_⟩
          refine lc_lfY (K := K) (restOf n t) (walk_list (xs := vs)) lv (small (by omega)) nD3 (fun i => .int ((h i : Int) + (T i j : Int))) (fun _ => lf_int _) (fun H4 s4 => s4.seq (.inl (.inl (s6 _ _ eD)))) (fun i e x H6 H7 NY he s7 y ky => ?_) (fun H6 ws2 s7 eD3 dA3 => ?_) g_two
          · obtain ⟨rfl, hx⟩ := y
            obtain ⟨e', he', de⟩ := dpa_getMV dA hx
            rw [he] at he'
            cases he'
            obtain ⟨b, rfl, hB⟩ := dp_encP (dp_same (s6.trans s7) _ _ de)
            exact ⟨b, _, rfl, hB, rfl, _, _, rfl, _, _, rfl, rfl, rfl, _, rfl, _, rfl, _, _, rfl, rfl, ky _ _ (Same.refl _) (.int _)⟩
          · rw [dpa_intsM dA3] at eD3
            refine ⟨Z2, D3, _, _, rfl, rfl, s7 _ _ upd_same, eD3, Nat.le_of_lt (small (by simp; omega)), fun S2 nS2 => ?_⟩
            have sS2 := same_new (o := .lst ([V.int 99] ++ ((restOf n t).map fun i => ((h i : Int) + (T i j : Int))).map V.int)) nS2
            refine ⟨S2, 99 :: (restOf n t).map fun i => ((h i : Int) + (T i j : Int)), rfl, .inl (.inl upd_same), Nat.succ_pos _, fun lim _ _ => ?_⟩
            refine ⟨by show 2 ≤ sizeLine; decide, fun R nR => ?_⟩
            have sR := same_new (o := .tup [V.int (mend n T h t j), V.int lim]) nR
            have s8 := s3.trans (s6.trans (s7.trans (sS2.trans sR)))
            have eF8 := s8 _ _ eF
            have lx : xs.length = j := by
              have a1 := dpa_len dF
              have a2 := congrArg List.length eM
              rw [List.length_map] at a1
              rw [List.length_map, List.length_map, List.length_range] at a2
              omega
            refine ⟨fd, xs, _, rfl, rfl, eF8, small (by omega), same_in (s1.trans s8) nfd, ⟨_, es ++ [(mend n T h t j, lim)], upd_same, ?_, ?_⟩, _, _, _, rfl⟩
            · rw [List.map_append]
              have kt := keepT_lst (K := K) (o := .lst (xs ++ [V.ref R])) eF8
              exact dpa_app (dpa_keep kt _ _ (lf_map lf_enc2 _) (dpa_same s8 _ _ dF)) (dpa_one (dp_keep kt _ _ (lf_enc2 _) (mk_enc2 (e := (mend n T h t j, lim)) (SqT.of upd_same))))
            · rw [List.map_append, eM, List.range_succ, List.map_append]
              rfl
    · obtain ⟨s1, ⟨xs, es, eF, dF, eM⟩, y4, y5, y6, rfl⟩ := z
      exact ⟨_, rfl, q fd H1 es s1 eM ⟨nfd, xs, eF, dF⟩⟩
end
end Lk

set_option Elab.async false
set_option linter.all false
set_option maxRecDepth 100000
set_option maxHeartbeats 4000000
/-! The order of data in plain words: the least of a list, a sorted list. -/
namespace Lk
open PySem PySem.Spec PyProof.Rows L2
/-! ### lists of ints in their order -/
theorem lx_irr : ∀ s : List Int, ¬ s < s
  | [], h => nomatch h
  | x :: s, h => by
    rw [List.cons_lt_cons_iff] at h
    rcases h with h | h
    · omega
    · exact lx_irr s h.2
theorem lx_asym : ∀ {s t : List Int}, s < t → ¬ t < s
  | [], [], h, _ => nomatch h
  | [], _ :: _, _, h => nomatch h
  | _ :: _, [], h, _ => nomatch h
  | x :: s, y :: t, h, h2 => by
    rw [List.cons_lt_cons_iff] at h h2
    rcases h with h | h <;> rcases h2 with h2 | h2
    · omega
    · omega
    · omega
    · exact lx_asym h.2 h2.2
theorem lx_ntr : ∀ {s t u : List Int}, ¬ s < t → ¬ t < u → ¬ s < u
  | [], [], u, _, h2, h => h2 h
  | [], _ :: _, _, h1, _, _ => h1 (List.nil_lt_cons _ _)
  | _ :: _, _, [], _, _, h => nomatch h
  | _ :: _, [], _ :: _, _, h2, _ => h2 (List.nil_lt_cons _ _)
  | x :: s, y :: t, z :: u, h1, h2, h => by
    rw [List.cons_lt_cons_iff] at h h1 h2
    by_cases e1 : x = y
    · by_cases e2 : y = z
      · rcases h with h | h
        · omega
        · exact lx_ntr (fun c => h1 (.inr ⟨e1, c⟩)) (fun c => h2 (.inr ⟨e2, c⟩)) h.2
      · rcases h with h | h <;> omega
    · rcases h with h | h <;> omega
theorem room20 {k : Nat} {A : Around} (r : Room k A) : A.units + 20 < cLine := by
  have := r.units
  omega
theorem room30 {k : Nat} {A : Around} (r : Room k A) : A.units + 30 < cLine := by
  have := r.units
  omega
/-! ### the least by argBest -/
theorem argBest_min {bt : Nat → Nat → Bool} (irr : ∀ i, bt i i = false) (asym : ∀ i j, bt i j = true → bt j i = false) (ntr : ∀ i j k, bt i j = false → bt j k = false → bt i k = false) : ∀ k, argBest bt k ≤ k ∧ ∀ i, i ≤ k → bt i (argBest bt k) = false
  | 0 => ⟨Nat.le_refl _, fun i hi => by
    have : i = 0 := by omega
    subst this
    exact irr 0⟩
  | k + 1 => by
    obtain ⟨h1, h2⟩ := argBest_min irr asym ntr k
    unfold argBest
    cases b : bt (k + 1) (argBest bt k) with
    | true =>
      rw [if_pos rfl]
      refine ⟨Nat.le_refl _, fun i hi => ?_⟩
      by_cases e : i = k + 1
      · subst e
        exact irr _
      · exact ntr _ _ _ (h2 i (by omega)) (asym _ _ b)
    | false =>
      rw [if_neg Bool.false_ne_true]
      refine ⟨by omega, fun i hi => ?_⟩
      by_cases e : i = k + 1
      · subst e
        exact b
      · exact h2 i (by omega)
/-! ### dataLt on the data of this law -/
open PySem.W in
theorem dlt_int (a b : Int) : dataLt (.int a) (.int b) = decide (a < b) := dataLt_int a b
open PySem.W in
theorem encT_cast (s : List Nat) : encT s = .tuple ((castL s).map .int) := by
  unfold encT castL
  rw [List.map_map]
  rfl
open PySem.W in
theorem dlt_T (s t : List Nat) : dataLt (encT s) (encT t) = decide (castL s < castL t) := by
  rw [encT_cast, encT_cast, dataLt_tuple]
  exact dataLt_ints _ _
open PySem.W in
theorem alike_T (s t : List Nat) : alike (encT s) (encT t) = true := by
  rw [encT_cast, encT_cast]
  simp [alike, alike_ints]
/-- (a number, a tuple of places) -/
def encC (a : Int) (s : List Nat) : PyData := .tuple [.int a, encT s]
theorem lf_encC (a : Int) (s : List Nat) : lf (encC a s) = true := by
  rw [encC, lf_tup, lfAll, lf_int, lfAll, lf_encT]
  rfl
open PySem.W in
theorem alike_C (a b : Int) (s t : List Nat) : alike (encC a s) (encC b t) = true := by
  have := alike_T s t
  simp [encC, alike, alikeAll, this]
open PySem.W in
theorem dlt_C (a b : Int) (s t : List Nat) : dataLt (encC a s) (encC b t) = decide (a < b ∨ (a = b ∧ castL s < castL t)) := by
  unfold encC
  rw [dataLt_pair (by simp [alike]) (alike_T s t), dlt_T]
  have e1 : PyData.eqv (.int a) (.int b) = decide (a = b) := by
    simp [PyData.eqv, Bool.beq_eq_decide_eq]
  rw [e1]
  by_cases h : a = b
  · rw [if_pos (decide_eq_true h)]
    subst h
    cases q : PyData.eqv (encT s) (encT t) with
    | true =>
      rw [if_pos rfl]
      have tk := (toks_eqv _ _ (alike_T s t)).1 q
      have : dataLt (encT s) (encT t) = false := by
        unfold dataLt
        rw [tk]
        exact PyProof.Rows.lex_irrefl _
      rw [dlt_T] at this
      have nl : ¬ castL s < castL t := of_decide_eq_false this
      exact (decide_eq_false (by simp [nl])).symm
    | false =>
      rw [if_neg Bool.false_ne_true]
      simp
  · rw [if_neg (by simp [h]), dlt_int]
    simp [h]
/-- the place of the least -/
def bestIx (ds : List PyData) : Nat := argBest (fun i j => PySem.W.dataLt (ds.getD i .none) (ds.getD j .none)) (ds.length - 1)
def bestOf (ds : List PyData) : PyData := ds.getD (bestIx ds) .none
theorem best_C {gs : List (Int × List Nat)} (hne : gs ≠ []) : ∃ g ∈ gs, bestOf (gs.map fun g => encC g.1 g.2) = encC g.1 g.2 ∧ ∀ t ∈ gs, ¬ (t.1 < g.1 ∨ (t.1 = g.1 ∧ castL t.2 < castL g.2)) := by
  have hp : 0 < gs.length := List.length_pos_iff.mpr hne
  have key : bestIx (gs.map fun g => encC g.1 g.2) = argBest (fun i j => decide ((gs.getD i (0, [])).1 < (gs.getD j (0, [])).1 ∨ ((gs.getD i (0, [])).1 = (gs.getD j (0, [])).1 ∧ castL (gs.getD i (0, [])).2 < castL (gs.getD j (0, [])).2))) (gs.length - 1) := by
    unfold bestIx
    rw [List.length_map]
    have cong : ∀ k, k < gs.length → argBest (fun i j => PySem.W.dataLt ((gs.map fun g => encC g.1 g.2).getD i .none) ((gs.map fun g => encC g.1 g.2).getD j .none)) k = argBest (fun i j => decide ((gs.getD i (0, [])).1 < (gs.getD j (0, [])).1 ∨ ((gs.getD i (0, [])).1 = (gs.getD j (0, [])).1 ∧ castL (gs.getD i (0, [])).2 < castL (gs.getD j (0, [])).2))) k ∧ argBest (fun i j => PySem.W.dataLt ((gs.map fun g => encC g.1 g.2).getD i .none) ((gs.map fun g => encC g.1 g.2).getD j .none)) k ≤ k := by
      intro k
      induction k with
      | zero => intro _; exact ⟨rfl, Nat.le_refl _⟩
      | succ k ih =>
        intro hk
        obtain ⟨e1, l1⟩ := ih (by omega)
        unfold argBest
        rw [← e1]
        have a1 : (gs.map fun g => encC g.1 g.2).getD (k + 1) .none = encC (gs.getD (k + 1) (0, [])).1 (gs.getD (k + 1) (0, [])).2 := by simp [List.getD_eq_getElem?_getD, hk]
        have hb : argBest (fun i j => PySem.W.dataLt ((gs.map fun g => encC g.1 g.2).getD i .none) ((gs.map fun g => encC g.1 g.2).getD j .none)) k < gs.length := by omega
        generalize argBest (fun i j => PySem.W.dataLt ((gs.map fun g => encC g.1 g.2).getD i .none) ((gs.map fun g => encC g.1 g.2).getD j .none)) k = b at *
        have a2 : (gs.map fun g => encC g.1 g.2).getD b .none = encC (gs.getD b (0, [])).1 (gs.getD b (0, [])).2 := by simp [List.getD_eq_getElem?_getD, hb]
        rw [a1, a2, dlt_C]
        constructor
        · rfl
        · split <;> omega
    exact (cong _ (by omega)).1
  obtain ⟨m1, m2⟩ := argBest_min (bt := fun i j => decide ((gs.getD i (0, [])).1 < (gs.getD j (0, [])).1 ∨ ((gs.getD i (0, [])).1 = (gs.getD j (0, [])).1 ∧ castL (gs.getD i (0, [])).2 < castL (gs.getD j (0, [])).2)))
    (fun i => decide_eq_false (fun h => by
      rcases h with h | h
      · omega
      · exact lx_irr _ h.2))
    (fun i j h => by
      have h := of_decide_eq_true h
      refine decide_eq_false fun h2 => ?_
      rcases h with h | h <;> rcases h2 with h2 | h2
      · omega
      · omega
      · omega
      · exact lx_asym h.2 h2.2)
    (fun i j k h1 h2 => by
      have h1 := of_decide_eq_false h1
      have h2 := of_decide_eq_false h2
      refine decide_eq_false fun h => ?_
      by_cases e1 : (gs.getD i (0, [])).1 = (gs.getD j (0, [])).1
      · by_cases e2 : (gs.getD j (0, [])).1 = (gs.getD k (0, [])).1
        · rcases h with h | h
          · omega
          · exact lx_ntr (fun c => h1 (.inr ⟨e1, c⟩)) (fun c => h2 (.inr ⟨e2, c⟩)) h.2
        · rcases h with h | h <;> omega
      · rcases h with h | h <;> omega) (gs.length - 1)
  rw [← key] at m1 m2
  have lb : bestIx (gs.map fun g => encC g.1 g.2) < gs.length := by omega
  refine ⟨gs[bestIx (gs.map fun g => encC g.1 g.2)], List.getElem_mem lb, by simp [bestOf, List.getD_eq_getElem?_getD, lb], fun t ht => ?_⟩
  obtain ⟨i, hi⟩ := List.mem_iff_getElem?.mp ht
  have li := lt_of_at hi
  have := of_decide_eq_false (m2 i (by omega))
  have e1 : gs.getD i (0, []) = t := by simp [List.getD_eq_getElem?_getD, hi]
  have e2 : gs.getD (bestIx (gs.map fun g => encC g.1 g.2)) (0, []) = gs[bestIx (gs.map fun g => encC g.1 g.2)] := by simp [List.getD_eq_getElem?_getD, lb]
  rw [e1, e2] at this
  exact this
/-- the fewest places: the least of (number, tuple) -/
theorem best_few {n : Nat} {ps : List (Nat × Nat)} (hl : PairsLt n ps) : ∃ s, IsFew n ps s ∧ bestOf ((good n ps).map fun s => encC (s.length : Int) s) = encC (s.length : Int) s := by
  have hne : ((good n ps).map fun s => ((s.length : Int), s)) ≠ [] := fun e => good_ne hl (List.map_eq_nil_iff.mp e)
  obtain ⟨g, hg, e, hm⟩ := best_C hne
  obtain ⟨s, hs, rfl⟩ := List.mem_map.mp hg
  rw [List.map_map] at e
  refine ⟨s, ⟨hs, fun t ht => ?_, fun t ht l => ?_⟩, e⟩
  · have := hm _ (List.mem_map_of_mem ht)
    by_cases c : (t.length : Int) < (s.length : Int)
    · exact absurd (Or.inl c) this
    · omega
  · have := hm _ (List.mem_map_of_mem ht)
    exact fun c => this (.inr ⟨by show (t.length : Int) = (s.length : Int); omega, c⟩)
/-! ### min of a list of data, in use -/
section
variable {K : PySem.W.Frag} {H : Hp}
theorem pair_up : ∀ {vs : List V} {ds : List PyData}, DpAll K H vs ds → ∃ bs : List (V × PyData), bs.map Prod.fst = vs ∧ bs.map Prod.snd = ds ∧ ∀ b ∈ bs, Dp K H b.1 b.2
  | _, _, .nil => ⟨[], rfl, rfl, fun b hb => nomatch hb⟩
  | v :: vs, d :: ds, .cons h t => by
    obtain ⟨bs, e1, e2, e3⟩ := pair_up t
    refine ⟨(v, d) :: bs, by rw [List.map_cons, e1], by rw [List.map_cons, e2], fun b hb => ?_⟩
    rcases List.mem_cons.mp hb with rfl | hb
    · exact h
    · exact e3 b hb
theorem bestD_eq (bs : List (V × PyData)) : bestD bs = bestIx (bs.map Prod.snd) := by
  unfold bestD bestIx dAt
  rw [List.length_map]
theorem use_min {a : Addr} {vs : List V} {ds : List PyData} {Q : VK} (eA : H a = some (.lst vs)) (dA : DpAll K H vs ds) (hne : ds ≠ []) (hal : ∀ d ∈ ds, ∀ d' ∈ ds, PySem.W.alike d d' = true) (hd : ∀ d ∈ ds, d ≠ .none ∧ d.depth ≤ 8)
    (hlt : bestIx ds < ds.length) (q : ∀ v, Dp K H v (bestOf ds) → Q v H) : rMinD K [.ref a] H Q := by
  obtain ⟨bs, e1, e2, e3⟩ := pair_up dA
  have mem : ∀ b ∈ bs, b.2 ∈ ds := fun b hb => e2 ▸ List.mem_map_of_mem hb
  have ln : bs.length = ds.length := by rw [← e2, List.length_map]
  refine ⟨a, bs, rfl, by rw [e1]; exact .inl (.inl eA), ?_, e3, fun b hb b' hb' => hal _ (mem b hb) _ (mem b' hb'), fun b hb => hd _ (mem b hb), fun b hb => ?_⟩
  · rw [ln]
    exact List.length_pos_iff.mpr hne
  · rw [bestD_eq, e2] at hb
    refine q b.1 ?_
    have : b.2 = bestOf ds := by
      have z : (bs.map Prod.snd)[bestIx ds]? = some b.2 := by rw [List.getElem?_map, hb]; rfl
      rw [e2] at z
      simp [bestOf, List.getD_eq_getElem?_getD, z]
    rw [← this]
    exact e3 b (List.mem_of_getElem? hb)
theorem argBest_le (bt : Nat → Nat → Bool) : ∀ k, argBest bt k ≤ k
  | 0 => Nat.le_refl _
  | k + 1 => by
    have := argBest_le bt k
    unfold argBest
    split <;> omega
theorem bestIx_lt {ds : List PyData} (h : ds ≠ []) : bestIx ds < ds.length := by
  have := List.length_pos_iff.mpr h
  have := argBest_le (fun i j => PySem.W.dataLt (ds.getD i .none) (ds.getD j .none)) (ds.length - 1)
  unfold bestIx
  omega
theorem depth_T (s : List Nat) : (encT s).depth = 1 := by
  rw [encT_cast]
  simp [PyData.depth, PySem.W.depth_ints]
theorem use_minC {a : Addr} {vs : List V} {gs : List (Int × List Nat)} {Q : VK} (eA : H a = some (.lst vs)) (dA : DpAll K H vs (gs.map fun g => encC g.1 g.2)) (hne : gs ≠ []) (q : ∀ v, Dp K H v (bestOf (gs.map fun g => encC g.1 g.2)) → Q v H) : rMinD K [.ref a] H Q := by
  have hne' : (gs.map fun g => encC g.1 g.2) ≠ [] := fun e => hne (List.map_eq_nil_iff.mp e)
  refine use_min eA dA hne' (fun d hd d' hd' => ?_) (fun d hd => ?_) (bestIx_lt hne') q
  · obtain ⟨g, _, rfl⟩ := List.mem_map.mp hd
    obtain ⟨g', _, rfl⟩ := List.mem_map.mp hd'
    exact alike_C _ _ _ _
  · obtain ⟨g, _, rfl⟩ := List.mem_map.mp hd
    refine ⟨(fun e => nomatch e), ?_⟩
    have := depth_T g.2
    simp [encC, PyData.depth, PyData.depthAll, this]
end
/-! ### sorted data, in use -/
theorem sortD_map {ε : Type} {bs : List (V × PyData)} {es : List ε} {enc : ε → PyData} {le : ε → ε → Bool} (e : bs.map Prod.snd = es.map enc) (h : ∀ a ∈ es, ∀ b ∈ es, (!PySem.W.dataLt (enc b) (enc a)) = le a b) : (sortD bs).map Prod.snd = (es.mergeSort le).map enc := by
  unfold sortD
  rw [PySem.W.dataLe_eq]
  have e1 : (bs.mergeSort fun a b => cond false (!PySem.W.dataLt a.2 b.2) (!PySem.W.dataLt b.2 a.2)).map Prod.snd = (bs.map Prod.snd).mergeSort fun x y => !PySem.W.dataLt y x := List.map_mergeSort fun a _ b _ => rfl
  have e2 : (es.mergeSort le).map enc = (es.map enc).mergeSort fun x y => !PySem.W.dataLt y x := List.map_mergeSort fun a ha b hb => (h a ha b hb).symm
  rw [e1, e2, e]
theorem sortD_mem {bs : List (V × PyData)} {b : V × PyData} : b ∈ sortD bs ↔ b ∈ bs := (List.mergeSort_perm _ _).mem_iff
theorem sortD_len (bs : List (V × PyData)) : (sortD bs).length = bs.length := (List.mergeSort_perm _ _).length_eq
theorem dpa_of_pairs {K : PySem.W.Frag} {H : Hp} : ∀ {bs : List (V × PyData)}, (∀ b ∈ bs, Dp K H b.1 b.2) → DpAll K H (bs.map Prod.fst) (bs.map Prod.snd)
  | [], _ => .nil
  | b :: bs, h => .cons (h b (List.mem_cons_self ..)) (dpa_of_pairs fun x hx => h x (List.mem_cons_of_mem _ hx))
end Lk

set_option Elab.async false
set_option linter.all false
set_option maxRecDepth 100000
set_option maxHeartbeats 4000000
namespace Lk
open PySem PySem.Spec PyProof.Rows L2
theorem filterMap_if {ε δ : Type} (p : ε → Bool) (g : ε → δ) : ∀ l : List ε, l.filterMap (fun x => if p x = true then some (g x) else none) = (l.filter p).map g
  | [] => rfl
  | x :: l => by
    rw [List.filterMap_cons, List.filter_cons]
    cases c : p x with
    | true => simp only [if_true, List.map_cons, filterMap_if p g l]
    | false =>
      simp only [Bool.false_eq_true, if_false]
      exact filterMap_if p g l
def encI (l : List Int) : PyData := .tuple (l.map .int)
theorem dp_encI {K : PySem.W.Frag} {H : Hp} {v : V} {l : List Int} (h : Dp K H v (encI l)) : ∃ a, v = .ref a ∧ SqT K H a (l.map V.int) := by
  obtain ⟨a, xs, rfl, q, d⟩ := dp_tup h
  rw [dpa_ints d] at q
  exact ⟨a, rfl, q⟩
theorem mk_encI {K : PySem.W.Frag} {H : Hp} {a : Addr} {l : List Int} (h : SqT K H a (l.map V.int)) : Dp K H (.ref a) (encI l) := .tup h (dpa_of_ints l)
theorem lf_encI (l : List Int) : lf (encI l) = true := by
  rw [encI, lf_tup]
  exact lf_map lf_int l
/-- the sum of prices of some places -/
def prS (c : Nat → Nat) (s : List Nat) : Int := (s.map fun i => (c i : Int)).sum
def cheapD (n : Nat) (ps : List (Nat × Nat)) (c : Nat → Nat) : PyData := bestOf ((good n ps).map fun s => encC (prS c s) s)
section
variable {P : Program} {w : World} {K : PySem.W.Frag} {mg : Str → Option Value} {base : Heap}
def spFew (K : PySem.W.Frag) : Sp := fun vs H Q _ => ∃ (n : Nat) (rods : List Rod) (v u : V) (h : Nat → Nat), vs = [v, u] ∧ Dp K H v (encN n rods) ∧ Dp K H u (encRow n h) ∧ NetOk n rods ∧ (∀ i, i < n → h i ≤ 99) ∧
  ∀ x H' s, Same H H' → IsFew n (bad n (dist n rods) h) s → Dp K H' x (encT s) → Q x H'
theorem ok_fewest_places (F : Std K mg "fewest_places" st_fewest_places) (B : Bl mg) (c_bad_pairs : Has P w K mg base 5 "bad_pairs" ["net", "row"] (spBad K)) (c_subsets : Has P w K mg base 1 "subsets" ["many"] (spSubsets K)) (c_covers : Has P w K mg base 1 "covers" ["pairs", "places"] (spCovers K)) :
    Has P w K mg base 6 "fewest_places" ["net", "row"] (spFew K) := by
  refine has_def F sc_fewest_places (fun _ _ _ _ _ _ us hl => match us, hl with | [_, _], _ => rfl) (fun vs H Q E h => ?_) (fun f cdv A outer s H vs Q E hr h => ?_)
  · obtain ⟨n, rods, v, u, h, rfl, _⟩ := h
    rfl
  · obtain ⟨n, rods, v, u, h, rfl, hv, hu, N, h99, q⟩ := h
    have n8 := N.n8
    have bl := bad_lt (n := n) (D := dist n rods) (h := h)
    have bc := bad_count (n := n) (D := dist n rods) (h := h) n8
    refine ⟨_, (pss_cons (ps_set (i := 2) sc_fewest_places.nd rfl (.inr rfl) (pe_has c_bad_pairs hr (by first | decide | exact Nat.le_refl _) (by rfl) (pa_cons (pv 0) (pa_cons (pv 1) pa_nil))))
    (pss_one (ps_ret (pe_ix ix_tup (pe_callB (cr_minD rfl (room20 hr)) (by rfl) B.min boot_min (pa_cons (pe_lc (own := [("told", 3)]) (by rfl) sc_fewest_places.nd (pi_list (pe_has c_subsets hr (by first | decide | exact Nat.le_refl _) (by rfl) (pa_cons (pe_ix ix_tup (pv 0) pe_int (fun _ _ => rfl)) pa_nil))) (blkOk_by (N := nm_fewest_places) (own := [("told", 3)]) (sc := defScope st_fewest_places) (by decide +kernel)) (fun _ _ _ _ _ => (pg_name (i := 3) sc_fewest_places.nd rfl (by first | exact Or.inl rfl | exact Or.inr rfl))) (fun _ _ _ _ _ => (pts_one (pt_val (pe_has c_covers hr (by first | decide | exact Nat.le_refl _) (by rfl) (pa_cons (pv 2) (pa_cons (pv 3) pa_nil)))))) (fun _ _ _ _ _ => (pe_tup (pa_cons (pe_callB (kCall (rLenS K) call_len_seq) (by rfl) B.len PySem.boot_len (pa_cons (pv 3) pa_nil)) (pa_cons (pv 3) pa_nil))))) pa_nil)) pe_int (fun _ _ => rfl))))), ?_⟩
    refine ⟨_, rfl, _, rfl, n, rods, v, u, h, rfl, hv, hu, N, h99, fun pv H1 s1 dP => ?_⟩
    generalize bad n (dist n rods) h = ps at bl bc dP q
    obtain ⟨a, b, xs, rfl, hA, _, _⟩ := dp_encN hv
    have cn := subsN_count8 n8
    refine ⟨_, rfl, a, _, 0, vN n, rfl, rfl, same_seqT s1 hA, rfl, n, rfl, n8, fun l H2 s2 ⟨nl, ss, eL, dL⟩ => ?_⟩
    have lx : ss.length = (subsN n).length := by
      have := dpa_len dL
      rwa [List.length_map] at this
    refine ⟨l, rfl, ⟨ss, .inl (.inl eL)⟩, fun D nD => ?_⟩
    refine lc_lf (K := K) (subsN n) (walk_list (xs := ss)) lx (small (by omega)) nD (fun s => if cov ps s = true then some (encC (s.length : Int) s) else none)
      (fun e d hd => by
        split at hd
        · cases hd
          exact lf_encC _ _
        · cases hd) (fun H3 s3 => s3.seq (.inl (.inl eL))) (fun i e x H3 H4 NY NN he s3 y ky kn => ?_) (fun H3 vs s3 eD dA => ?_)
    · obtain ⟨rfl, hx⟩ := y
      obtain ⟨e', he', de⟩ := dpa_getMV dL hx
      rw [he] at he'
      cases he'
      have de3 := dp_same s3 _ _ de
      refine ⟨rfl, _, rfl, _, rfl, pv, x, ps, e, rfl, dp_same (s2.trans s3) _ _ dP, de3, by omega, fun H5 s5 => ⟨_, rfl, ?_⟩⟩
      cases cv : cov ps e with
      | false => exact iteF (kn _ s5 (by rw [cv]; rfl))
      | true =>
        obtain ⟨t, rfl, hT⟩ := dp_encT (dp_same s5 _ _ de3)
        refine iteT ⟨_, rfl, t, _, rfl, .inr hT, _, rfl, by show 2 ≤ sizeLine; decide, fun R nR => ?_⟩
        have sR := same_new (o := .tup [V.int ((e.map vN).length : Int), V.ref t]) nR
        refine ky _ _ _ (s5.trans sR) (by rw [cv]; rfl) ?_
        refine .tup (SqT.of upd_same) (.cons ?_ (.cons (mk_encT (same_seqT sR hT)) .nil))
        rw [List.length_map]
        exact .int _
    · rw [filterMap_if] at dA
      have dA : DpAll K H3 vs ((good n ps).map fun s => encC (s.length : Int) s) := dA
      obtain ⟨s', F', e'⟩ := best_few bl
      have em : ((good n ps).map fun s => ((s.length : Int), s)).map (fun g : Int × List Nat => encC g.1 g.2) = (good n ps).map fun s => encC (s.length : Int) s := by
        rw [List.map_map]
        rfl
      rw [← em] at dA e'
      dsimp only [tNil]
      refine use_minC eD dA (fun e => good_ne bl (List.map_eq_nil_iff.mp e)) fun mv dM => ?_
      rw [e'] at dM
      obtain ⟨c, ys, rfl, hC, dC⟩ := dp_tup dM
      cases dC with
      | cons d1 d2 =>
        cases d2 with
        | cons d2 d3 =>
          cases d3
          exact ⟨c, _, 1, _, rfl, rfl, hC, rfl, q _ _ s' (s1.trans (s2.trans s3)) F' d2⟩
def spCheap (K : PySem.W.Frag) : Sp := fun vs H Q _ => ∃ (n : Nat) (rods : List Rod) (v u z : V) (h c : Nat → Nat), vs = [v, z, u] ∧ Dp K H v (encN n rods) ∧ Dp K H u (encRow n h) ∧ Dp K H z (encRow n c) ∧ NetOk n rods ∧ (∀ i, i < n → h i ≤ 99) ∧ (∀ i, i < n → c i ≤ 99) ∧
  ∀ x H', Same H H' → Dp K H' x (cheapD n (bad n (dist n rods) h) c) → Q x H'
theorem ok_cheapest (F : Std K mg "cheapest_places" st_cheapest_places) (B : Bl mg) (c_need_net : Has P w K mg base 3 "need_net" ["value"] (spNeedNet K)) (c_need_prices : Has P w K mg base 3 "need_prices" ["net", "prices"] (spNeedPrices K)) (c_bad_pairs : Has P w K mg base 5 "bad_pairs" ["net", "row"] (spBad K)) (c_subsets : Has P w K mg base 1 "subsets" ["many"] (spSubsets K)) (c_covers : Has P w K mg base 1 "covers" ["pairs", "places"] (spCovers K)) :
    Has P w K mg base 6 "cheapest_places" ["net", "prices", "row"] (spCheap K) := by
  refine has_def F sc_cheapest_places (fun _ _ _ _ _ _ us hl => match us, hl with | [_, _, _], _ => rfl) (fun vs H Q E h => ?_) (fun f cdv A outer s H vs Q E hr h => ?_)
  · obtain ⟨n, rods, v, u, z, h, c, rfl, _⟩ := h
    rfl
  · obtain ⟨n, rods, v, u, z, h, c, rfl, hv, hu, hz, N, h99, c99, q⟩ := h
    have n8 := N.n8
    have bl := bad_lt (n := n) (D := dist n rods) (h := h)
    have bc := bad_count (n := n) (D := dist n rods) (h := h) n8
    refine ⟨_, (pss_cons (ps_expr (pe_has c_need_net hr (by first | decide | exact Nat.le_refl _) (by rfl) (pa_cons (pv 0) pa_nil)))
    (pss_cons (ps_expr (pe_has c_need_prices hr (by first | decide | exact Nat.le_refl _) (by rfl) (pa_cons (pv 0) (pa_cons (pv 1) pa_nil))))
    (pss_cons (ps_set (i := 3) sc_cheapest_places.nd rfl (.inr rfl) (pe_has c_bad_pairs hr (by first | decide | exact Nat.le_refl _) (by rfl) (pa_cons (pv 0) (pa_cons (pv 2) pa_nil))))
    (pss_cons (ps_setLc (i := 4) (own := [("told", 5)]) (by rfl) sc_cheapest_places.nd rfl rfl (sw_true rfl rfl rfl (by decide +kernel)) (pi_list (pe_has c_subsets hr (by first | decide | exact Nat.le_refl _) (by rfl) (pa_cons (pe_ix ix_tup (pv 0) pe_int (fun _ _ => rfl)) pa_nil))) (blkOk_by (N := nm_cheapest_places) (own := [("told", 5)]) (sc := defScope st_cheapest_places) (by decide +kernel)) (fun _ _ _ _ _ => (pg_name (i := 5) sc_cheapest_places.nd rfl (by first | exact Or.inl rfl | exact Or.inr rfl))) (fun _ _ _ _ _ => (pts_one (pt_val (pe_has c_covers hr (by first | decide | exact Nat.le_refl _) (by rfl) (pa_cons (pv 3) (pa_cons (pv 5) pa_nil)))))) (fun _ _ _ _ _ => (pv 5)))
    (pss_one (ps_ret (pe_callB (cr_minD rfl (room20 hr)) (by rfl) B.min boot_min (pa_cons (pe_lc (own := [("told", 5)]) (by rfl) sc_cheapest_places.nd (pi_list (pv 4)) (blkOk_by (N := nm_cheapest_places) (own := [("told", 5)]) (sc := defScope st_cheapest_places) (by decide +kernel)) (fun _ _ _ _ _ => (pg_name (i := 5) sc_cheapest_places.nd rfl (by first | exact Or.inl rfl | exact Or.inr rfl))) (fun _ _ _ _ _ => pts_nil) (fun _ _ _ _ _ => (pe_tup (pa_cons (pe_callB (kCall (rSum K) (cr_sum rfl)) (by rfl) B.sum boot_sum (pa_cons (pe_lc (own := [("place", 6)]) (by rfl) sc_cheapest_places.nd (kPI (iTup K (tVar 5)) (pi_tup (pv 5))) (blkOk_by (by kernel_rfl)) (fun _ _ _ _ _ => (pg_name (i := 6) sc_cheapest_places.nd rfl (by first | exact Or.inl rfl | exact Or.inr rfl))) (fun _ _ _ _ _ => pts_nil) (fun _ _ _ _ _ => (pe_ix (kIx (rIxT K) ix_tup) (pv 1) (pv 6) (fun _ _ => rfl)))) pa_nil)) (pa_cons (pv 5) pa_nil))))) pa_nil)))))))), ?_⟩
    refine ⟨_, rfl, n, rods, v, rfl, hv, N, fun H0 s0 => ?_⟩
    refine ⟨_, rfl, _, rfl, n, rods, v, z, c, rfl, dp_same s0 _ _ hv, dp_same s0 _ _ hz, n8, c99, fun H0' s0' => ?_⟩
    have s00 := s0.trans s0'
    refine ⟨_, rfl, _, rfl, n, rods, v, u, h, rfl, dp_same s00 _ _ hv, dp_same s00 _ _ hu, N, h99, fun pv H1 s01 dP => ?_⟩
    have s1 := s00.trans s01
    generalize bad n (dist n rods) h = ps at bl bc dP q
    obtain ⟨a, b, xs, rfl, hA, _, _⟩ := dp_encN hv
    obtain ⟨pa, rfl, hPr⟩ := dp_encRow hz
    have cn := subsN_count8 n8
    -- some
    refine ⟨_, rfl, a, _, 0, vN n, rfl, rfl, same_seqT s1 hA, rfl, n, rfl, n8, fun l H2 s2 ⟨nl, ss, eL, dL⟩ => ?_⟩
    have lx : ss.length = (subsN n).length := by
      have := dpa_len dL
      rwa [List.length_map] at this
    refine ⟨l, rfl, ⟨ss, .inl (.inl eL)⟩, fun D nD => ?_⟩
    refine lc_lf (K := K) (subsN n) (walk_list (xs := ss)) lx (small (by omega)) nD (fun s => if cov ps s = true then some (encT s) else none)
      (fun e d hd => by
        split at hd
        · cases hd
          exact lf_encT _
        · cases hd) (fun H3 s3 => s3.seq (.inl (.inl eL))) (fun i e x H3 H4 NY NN he s3 y ky kn => ?_) (fun H3 vs s3 eD dA => ?_)
    · obtain ⟨rfl, hx⟩ := y
      obtain ⟨e', he', de⟩ := dpa_getMV dL hx
      rw [he] at he'
      cases he'
      have de3 := dp_same s3 _ _ de
      refine ⟨rfl, _, rfl, _, rfl, pv, x, ps, e, rfl, dp_same (s2.trans s3) _ _ dP, de3, by omega, fun H5 s5 => ⟨_, rfl, ?_⟩⟩
      cases cv : cov ps e with
      | false => exact iteF (kn _ s5 (by rw [cv]; rfl))
      | true => exact iteT ⟨_, rfl, ky _ _ _ s5 (by rw [cv]; rfl) (dp_same s5 _ _ de3)⟩
    · rw [filterMap_if] at dA
      have dA : DpAll K H3 vs ((good n ps).map encT) := dA
      have lv : vs.length = (good n ps).length := by
        have := dpa_len dA
        rwa [List.length_map] at this
      have gc := good_count (ps := ps) n8
      -- min over the sums
      refine ⟨_, rfl, D, rfl, ⟨vs, .inl (.inl eD)⟩, fun D2 nD2 => ?_⟩
      refine lc_lfY (K := K) (good n ps) (walk_list (xs := vs)) lv (small (by omega)) nD2 (fun s => encC (prS c s) s) (fun _ => lf_encC _ _) (fun H4 s4 => s4.seq (.inl (.inl eD))) (fun i e x H4 H5 NY he s4 y ky => ?_) (fun H4 ws s4 eD2 dA2 => ?_) g_name
      · obtain ⟨rfl, hx⟩ := y
        obtain ⟨e', he', de⟩ := dpa_getMV dA hx
        rw [he] at he'
        cases he'
        have me := mem_good.mp (List.mem_of_getElem? he)
        have le := subsN_le me.1
        obtain ⟨t, rfl, hT⟩ := dp_encT (dp_same s4 _ _ de)
        refine ⟨rfl, _, rfl, t, rfl, ⟨_, hT⟩, fun D3 nD3 => ?_⟩
        refine lc_lfY (K := K) e (walk_tup (xs := e.map vN)) (by rw [List.length_map]) (small (by omega)) nD3 (fun i => nI (c i)) (fun _ => lf_int _) (fun H6 s6 => same_seqT s6 hT) (fun j e2 x H6 H7 NY2 he2 s6 y ky2 => ?_) (fun H6 us s6 eD3 dA3 => ?_) g_name
        · obtain ⟨rfl, hx⟩ := y
          have ex : x = vN e2 := mapIs (f := vN) hx he2
          subst ex
          have l2 := subsN_lt me.1 e2 (List.mem_of_getElem? he2)
          exact ⟨rfl, _, rfl, _, rfl, pa, _, _, _, rfl, rfl, same_seqT (s1.trans (s2.trans (s3.trans (s4.trans s6)))) hPr, at0 (rangeAt (fun i => vN (c i)) l2), ky2 _ _ (Same.refl _) (.int _)⟩
        · have eI : us = (e.map fun i => (c i : Int)).map V.int := dpa_intsM (g := fun i => (c i : Int)) dA3
          rw [eI] at eD3
          refine ⟨D3, _, rfl, .inl (.inl eD3), _, rfl, by show 2 ≤ sizeLine; decide, fun R nR => ?_⟩
          have sR := same_new (o := .tup [V.int (e.map fun i => (c i : Int)).sum, V.ref t]) nR
          exact ky _ _ (s6.trans sR) (.tup (SqT.of upd_same) (.cons (.int _) (.cons (mk_encT (same_seqT (s6.trans sR) hT)) .nil)))
      · have em : ((good n ps).map fun s => (prS c s, s)).map (fun g : Int × List Nat => encC g.1 g.2) = (good n ps).map fun s => encC (prS c s) s := by
          rw [List.map_map]
          rfl
        rw [← em] at dA2
        dsimp only [tNil]
        refine use_minC eD2 dA2 (fun e => good_ne bl (List.map_eq_nil_iff.mp e)) fun mv dM => ?_
        rw [em] at dM
        exact q _ _ (s1.trans (s2.trans (s3.trans s4))) dM
def spMended (K : PySem.W.Frag) : Sp := fun vs H Q _ => ∃ (n : Nat) (rods : List Rod) (v u : V) (h : Nat → Nat), vs = [v, u] ∧ Dp K H v (encN n rods) ∧ Dp K H u (encRow n h) ∧ NetOk n rods ∧ (∀ i, i < n → h i ≤ 99) ∧
  ∀ x H' s, Same H H' → IsFew n (bad n (dist n rods) h) s → Dp K H' x (encI ((List.range n).map (mend n (dist n rods) h s))) → Q x H'
theorem ok_mended (F : Std K mg "mended" st_mended) (B : Bl mg) (c_fewest_places : Has P w K mg base 6 "fewest_places" ["net", "row"] (spFew K)) (c_spans : Has P w K mg base 1 "spans" ["table", "told", "most"] (spSpans K)) (c_table_of : Has P w K mg base 1 "table_of" ["net"] (spTable K)) :
    Has P w K mg base 7 "mended" ["net", "row"] (spMended K) := by
  refine has_def F sc_mended (fun _ _ _ _ _ _ us hl => match us, hl with | [_, _], _ => rfl) (fun vs H Q E h => ?_) (fun f cdv A outer s H vs Q E hr h => ?_)
  · obtain ⟨n, rods, v, u, h, rfl, _⟩ := h
    rfl
  · obtain ⟨n, rods, v, u, h, rfl, hv, hu, N, h99, q⟩ := h
    have n8 := N.n8
    refine ⟨_, (pss_cons (ps_set (i := 2) sc_mended.nd rfl (.inr rfl) (pe_has c_fewest_places hr (by first | decide | exact Nat.le_refl _) (by rfl) (pa_cons (pv 0) (pa_cons (pv 1) pa_nil))))
    (pss_cons (ps_set (i := 3) sc_mended.nd rfl (.inl rfl) (pe_callTy call_tuple_of (by rfl) B.tuple boot_tuple (pa_cons (pe_lc (own := [("place", 4), ("height", 5)]) (by rfl) sc_mended.nd (pi_enumT (by rfl) B.enum (pa_cons (pv 1) pa_nil)) (blkOk_by (N := nm_mended) (own := [("place", 4), ("height", 5)]) (sc := defScope st_mended) (by decide +kernel)) (fun _ _ _ _ _ => (pg_tupK K 2 rfl rfl (pgs_cons (pg_name (i := 4) sc_mended.nd rfl (by first | exact Or.inl rfl | exact Or.inr rfl)) (pgs_cons (pg_name (i := 5) sc_mended.nd rfl (by first | exact Or.inl rfl | exact Or.inr rfl)) pgs_nil)))) (fun _ _ _ _ _ => pts_nil) (fun _ _ _ _ _ => (pe_ifExp (pt_cmpR (kOp (rIn K false) op_in_seq) (pv 4) (pv 2) rfl) pe_non (pv 5)))) pa_nil)))
    (pss_one (ps_ret (pe_callTy call_tuple_of (by rfl) B.tuple boot_tuple (pa_cons (pe_lc (own := [("pair", 6)]) (by rfl) sc_mended.nd (pi_list (pe_has c_spans hr (by first | decide | exact Nat.le_refl _) (by rfl) (pa_cons (pe_has c_table_of hr (by first | decide | exact Nat.le_refl _) (by rfl) (pa_cons (pv 0) pa_nil)) (pa_cons (pv 3) (pa_cons pe_int pa_nil))))) (blkOk_by (N := nm_mended) (own := [("pair", 6)]) (sc := defScope st_mended) (by decide +kernel)) (fun _ _ _ _ _ => (pg_name (i := 6) sc_mended.nd rfl (by first | exact Or.inl rfl | exact Or.inr rfl))) (fun _ _ _ _ _ => pts_nil) (fun _ _ _ _ _ => (pe_ix (kIx (rIxT K) ix_tup) (pv 6) pe_int (fun _ _ => rfl)))) pa_nil)))))), ?_⟩
    refine ⟨_, rfl, _, rfl, n, rods, v, u, h, rfl, hv, hu, N, h99, fun pv H1 s' s1 F' dS => ?_⟩
    obtain ⟨b, rfl, hB⟩ := dp_encT dS
    obtain ⟨c, rfl, hC⟩ := dp_encRow hu
    refine ⟨_, rfl, c, _, rfl, same_seqT s1 hC, fun D nD => ?_⟩
    refine lc_lfY (K := K) (List.range n) (walk_enumT (xs := (List.range n).map fun i => vN (h i))) (by rw [lenRow, List.length_range]) (by rw [List.length_range]; exact small (by omega)) nD (toldD h s') (lf_toldD h s') (fun H3 s3 => same_seqT (s1.trans s3) hC) (fun i e x H3 H4 NY he s3 y ky => ?_) (fun H3 vs s3 eD dA => ?_) g_two
    · obtain ⟨W, x1, x2, rfl, nW, rfl, e1, e2⟩ := y
      obtain ⟨hi, rfl⟩ := range_at he
      cases e1
      have ex : x2 = vN (h e) := rangeIs (f := fun i => vN (h i)) e2 hi
      subst ex
      have sW := same_new (o := .tup [vN e, vN (h e)]) nW
      refine ⟨W, _, rfl, SqT.of upd_same, rfl, _, _, rfl, _, _, rfl, rfl, rfl, ?_⟩
      refine ⟨_, rfl, _, rfl, b, _, rfl, .inr (same_seqT (s3.trans sW) hB), rfl, flat_nats s', _, rfl, ?_⟩
      show if inV (vN e) (s'.map vN) = true then _ else _
      rw [inV_nats]
      cases ct : s'.contains e with
      | true =>
        refine iteT (ky _ _ sW ?_)
        rw [toldD, ct]
        exact .non
      | false =>
        refine iteF ⟨_, rfl, ky _ _ sW ?_⟩
        rw [toldD, ct]
        exact .int _
    · refine ⟨D, vs, rfl, .inl ⟨.inl (.inl eD), fun T nT => ?_⟩⟩
      have sT := same_new (o := .tup vs) nT
      have s4 := s1.trans (s3.trans sT)
      refine ⟨_, rfl, n, rods, v, rfl, dp_same s4 _ _ hv, N, fun p H5 s5 t => ?_⟩
      refine ⟨_, rfl, n, dist n rods, p, _, h, s', rfl, t.r, .tup (SqT.of (s5 _ _ upd_same)) (dpa_same (sT.trans s5) _ _ dA), n8, fun l H6 es s6 em ⟨nl, ys, eY, dY⟩ => ?_⟩
      have ly : ys.length = es.length := by
        have := dpa_len dY
        rwa [List.length_map] at this
      have le : es.length = n := by
        have := congrArg List.length em
        simpa using this
      refine ⟨l, rfl, ⟨ys, .inl (.inl eY)⟩, fun D2 nD2 => ?_⟩
      refine lc_lfY (K := K) es (walk_list (xs := ys)) ly (small (by omega)) nD2 (fun e => .int e.1) (fun _ => lf_int _) (fun H7 s7 => s7.seq (.inl (.inl eY))) (fun i e x H7 H8 NY he s7 y ky => ?_) (fun H7 ws s7 eD2 dA2 => ?_) g_name
      · obtain ⟨rfl, hx⟩ := y
        obtain ⟨e', he', de⟩ := dpa_getMV dY hx
        rw [he] at he'
        cases he'
        obtain ⟨t2, rfl, hT2⟩ := dp_enc2 (dp_same s7 _ _ de)
        exact ⟨rfl, _, rfl, t2, _, 0, _, rfl, rfl, hT2, rfl, ky _ _ (Same.refl _) (.int _)⟩
      · refine ⟨D2, ws, rfl, .inl ⟨.inl (.inl eD2), fun R nR => ?_⟩⟩
        have sR := same_new (o := .tup ws) nR
        refine q _ _ s' (s4.trans (s5.trans (s6.trans (s7.trans sR)))) F' (mk_encI ?_)
        have ew := dpa_intsM (g := Prod.fst) dA2
        rw [em] at ew
        rw [← ew]
        exact SqT.of upd_same
def spNumber (K : PySem.W.Frag) : Sp := fun vs H Q _ => ∃ (n : Nat) (rods : List Rod) (v u : V) (h : Nat → Nat), vs = [v, u] ∧ Dp K H v (encN n rods) ∧ Dp K H u (encRow n h) ∧ NetOk n rods ∧ (∀ i, i < n → h i ≤ 99) ∧
  ∀ H' s, Same H H' → IsFew n (bad n (dist n rods) h) s → Q (vN ((good n (bad n (dist n rods) h)).filter fun t => t.length == s.length).length) H'
theorem ok_number (F : Std K mg "number_of_fewest" st_number_of_fewest) (B : Bl mg) (c_bad_pairs : Has P w K mg base 5 "bad_pairs" ["net", "row"] (spBad K)) (c_fewest_places : Has P w K mg base 6 "fewest_places" ["net", "row"] (spFew K)) (c_subsets : Has P w K mg base 1 "subsets" ["many"] (spSubsets K)) (c_covers : Has P w K mg base 1 "covers" ["pairs", "places"] (spCovers K)) :
    Has P w K mg base 7 "number_of_fewest" ["net", "row"] (spNumber K) := by
  refine has_def F sc_number_of_fewest (fun _ _ _ _ _ _ us hl => match us, hl with | [_, _], _ => rfl) (fun vs H Q E h => ?_) (fun f cdv A outer s H vs Q E hr h => ?_)
  · obtain ⟨n, rods, v, u, h, rfl, _⟩ := h
    rfl
  · obtain ⟨n, rods, v, u, h, rfl, hv, hu, N, h99, q⟩ := h
    have n8 := N.n8
    have bc := bad_count (n := n) (D := dist n rods) (h := h) n8
    refine ⟨_, (pss_cons (ps_set (i := 2) sc_number_of_fewest.nd rfl (.inr rfl) (pe_has c_bad_pairs hr (by first | decide | exact Nat.le_refl _) (by rfl) (pa_cons (pv 0) (pa_cons (pv 1) pa_nil))))
    (pss_cons (ps_set (i := 3) sc_number_of_fewest.nd rfl (.inr rfl) (pe_callB call_len_seq (by rfl) B.len PySem.boot_len (pa_cons (pe_has c_fewest_places hr (by first | decide | exact Nat.le_refl _) (by rfl) (pa_cons (pv 0) (pa_cons (pv 1) pa_nil))) pa_nil)))
    (pss_one (ps_ret (pe_callB call_len_seq (by rfl) B.len PySem.boot_len (pa_cons (pe_lc (own := [("told", 4)]) (by rfl) sc_number_of_fewest.nd (pi_list (pe_has c_subsets hr (by first | decide | exact Nat.le_refl _) (by rfl) (pa_cons (pe_ix ix_tup (pv 0) pe_int (fun _ _ => rfl)) pa_nil))) (blkOk_by (N := nm_number_of_fewest) (own := [("told", 4)]) (sc := defScope st_number_of_fewest) (by decide +kernel)) (fun _ _ _ _ _ => (pg_name (i := 4) sc_number_of_fewest.nd rfl (by first | exact Or.inl rfl | exact Or.inr rfl))) (fun _ _ _ _ _ => (pts_one (PW.pt (pw_and (pt_cmpR op_eq (pe_callB (kCall (rLenS K) call_len_seq) (by rfl) B.len PySem.boot_len (pa_cons (pv 4) pa_nil)) (pv 3) (nomark _)) (pw_and1 (pt_val (pe_has c_covers hr (by first | decide | exact Nat.le_refl _) (by rfl) (pa_cons (pv 2) (pa_cons (pv 4) pa_nil))))))))) (fun _ _ _ _ _ => (pv 4))) pa_nil)))))), ?_⟩
    refine ⟨_, rfl, _, rfl, n, rods, v, u, h, rfl, hv, hu, N, h99, fun pv H1 s1 dP => ?_⟩
    refine ⟨_, rfl, _, rfl, n, rods, v, u, h, rfl, dp_same s1 _ _ hv, dp_same s1 _ _ hu, N, h99, fun fv H1' s' s1' F' dS => ?_⟩
    generalize bad n (dist n rods) h = ps at bc dP q F'
    obtain ⟨b, rfl, hB⟩ := dp_encT dS
    obtain ⟨a, b2, xs, rfl, hA, _, _⟩ := dp_encN hv
    have cn := subsN_count8 n8
    refine ⟨b, _, rfl, .inr hB, ?_⟩
    rw [List.length_map]
    refine ⟨_, rfl, a, _, 0, vN n, rfl, rfl, same_seqT (s1.trans s1') hA, rfl, n, rfl, n8, fun l H2 s2 ⟨nl, ss, eL, dL⟩ => ?_⟩
    have lx : ss.length = (subsN n).length := by
      have := dpa_len dL
      rwa [List.length_map] at this
    refine ⟨l, rfl, ⟨ss, .inl (.inl eL)⟩, fun D nD => ?_⟩
    refine lc_lf (K := K) (subsN n) (walk_list (xs := ss)) lx (small (by omega)) nD (fun t => if (t.length == s'.length && cov ps t) = true then some (encT t) else none)
      (fun e d hd => by
        split at hd
        · cases hd
          exact lf_encT _
        · cases hd) (fun H3 s3 => s3.seq (.inl (.inl eL))) (fun i e x H3 H4 NY NN he s3 y ky kn => ?_) (fun H3 vs s3 eD dA => ?_)
    · obtain ⟨rfl, hx⟩ := y
      obtain ⟨e', he', de⟩ := dpa_getMV dL hx
      rw [he] at he'
      cases he'
      have de3 := dp_same s3 _ _ de
      obtain ⟨t, rfl, hT⟩ := dp_encT de3
      refine ⟨rfl, _, rfl, t, _, rfl, .inr hT, _, rfl, rfl, _, rfl, ?_⟩
      rw [List.length_map]
      by_cases c1 : e.length = s'.length
      · refine iteD (by rw [c1]) ?_
        refine ⟨_, rfl, _, rfl, pv, _, ps, e, rfl, dp_same (s1'.trans (s2.trans s3)) _ _ dP, de3, by omega, fun H5 s5 => ⟨_, rfl, ?_⟩⟩
        cases cv : cov ps e with
        | false => exact iteF (kn _ s5 (by rw [cv, Bool.and_false]; rfl))
        | true => exact iteT ⟨_, rfl, ky _ _ _ s5 (by rw [cv, c1, beq_self_eq_true]; rfl) (dp_same s5 _ _ de3)⟩
      · refine iteN (fun z => c1 (Int.ofNat.inj (V.int.inj z))) (iteF (kn _ (Same.refl _) ?_))
        have : (e.length == s'.length) = false := beq_eq_false_iff_ne.mpr c1
        rw [this]
        rfl
    · rw [filterMap_if] at dA
      have lv : vs.length = ((good n ps).filter fun t => t.length == s'.length).length := by
        have := dpa_len dA
        rw [List.length_map] at this
        rw [this]
        unfold good
        rw [List.filter_filter]
      refine ⟨D, vs, rfl, .inl (.inl (.inl eD)), ?_⟩
      rw [lv]
      exact q _ s' (s1.trans (s1'.trans (s2.trans s3))) F'
end
end Lk

set_option Elab.async false
set_option linter.all false
set_option maxRecDepth 100000
set_option maxHeartbeats 4000000
namespace Lk
open PySem PySem.Spec PyProof.Rows L2
section
variable {P : Program} {w : World} {K : PySem.W.Frag} {mg : Str → Option Value} {base : Heap}
theorem has_zero {x : Str} {st : Stmt} {ps : List Str} {sp : Sp} (F : Std K mg x st)
    (hb : ∀ (kV doc pm : Value) (an : Option Addr) (cdv ct : Value) (us : List Value), us.length = ps.length → bindArgs (PySem.W.fnOf x x (defArgs st) (defBody st) (defScope st) .none kV doc pm an cdv ct) ⟨us, []⟩ = pure (ps.zip us))
    (no : ∀ vs H Q E, ¬ sp vs H Q E) : Has P w K mg base 0 x ps sp := by
  obtain ⟨f, fd, F, m⟩ := F
  exact ⟨f, fd, ⟨fun vs H Q E h => absurd h (no vs H Q E), fun A outer s H args us vs Q E _ _ _ _ h => absurd h (no vs H Q E)⟩, m, F.kp, F.bindsN hb⟩
/-- what is read off: shaped, equal to the empty one -/
theorem shaped_encPs (ps : List (Nat × Nat)) : SeqAt.shaped (encPs ps) = true := by
  have a : ∀ ps : List (Nat × Nat), PyData.canLayAll0 (ps.map encP) = true := by
    intro ps
    induction ps with
    | nil => simp [PyData.canLayAll0]
    | cons p ps ih =>
      rw [List.map_cons, PyData.canLayAll0, ih]
      simp [encP, PyData.canLay0, PyData.canLayAll0]
  have b : ∀ ps : List (Nat × Nat), PyData.depthAll (ps.map encP) ≤ 1 := by
    intro ps
    induction ps with
    | nil => simp [PyData.depthAll]
    | cons p ps ih =>
      rw [List.map_cons, PyData.depthAll]
      have : (encP p).depth = 1 := by simp [encP, PyData.depth, PyData.depthAll]
      rw [this]
      omega
  unfold SeqAt.shaped encPs
  refine Bool.and_eq_true_iff.mpr ⟨?_, decide_eq_true ?_⟩
  · rw [PyData.canLay0]
    exact a ps
  · rw [PyData.depth]
    have := b ps
    omega
theorem shaped_nilT : SeqAt.shaped (.tuple []) = true := by decide
theorem eqv_nilT (ps : List (Nat × Nat)) : PyData.eqv (encPs ps) (.tuple []) = ps.isEmpty := by
  cases ps with
  | nil => simp [encPs, PyData.eqv, PyData.eqvAll]
  | cons p ps => simp [encPs, PyData.eqv, PyData.eqvAll]
theorem cut1 (xs : List V) : cutV xs (some 1) none = xs.drop 1 := by
  unfold cutV
  rw [show HT.sIx xs.length 0 (some 1) = min 1 xs.length from HT.sIx_nat xs.length 0 1, HT.sIx_none]
  cases xs with
  | nil => rfl
  | cons x r =>
    rw [show min 1 (x :: r).length = 1 by rw [List.length_cons]; omega]
    show (List.take ((x :: r).length - 1) r) = r
    rw [List.length_cons, Nat.add_sub_cancel]
    exact List.take_length
theorem cut1_not {α : Type} {xs : List α} (h : 0 < xs.length) : ¬ (HT.sIx xs.length 0 (some 1) = 0 ∧ HT.sIx xs.length xs.length none = xs.length) := by
  rw [show HT.sIx xs.length 0 (some 1) = min 1 xs.length from HT.sIx_nat xs.length 0 1]
  omega
theorem maxN (a b : Nat) : V.int (if (b : Int) > (a : Int) then (b : Int) else (a : Int)) = vN (max a b) := by
  by_cases h : (b : Int) > (a : Int)
  · rw [if_pos h, Nat.max_eq_right (by omega)]
  · rw [if_neg h, Nat.max_eq_left (by omega)]
/-- one not in pair and other not in pair -/
theorem apart_eq (p q : Nat × Nat) : apart p q = (!([q.1, q.2].contains p.1) && !([q.1, q.2].contains p.2)) := by
  unfold apart
  have e : ∀ a : Nat, [q.1, q.2].contains a = (q.1 == a || q.2 == a) := fun a => by
    rw [Bool.eq_iff_iff]
    simp only [List.contains_cons, List.contains_nil, Bool.or_false, Bool.or_eq_true, beq_iff_eq]
    omega
  rw [e, e]
def spMatched (K : PySem.W.Frag) (m : Nat) : Sp := fun vs H Q _ => ∃ (v : V) (ps : List (Nat × Nat)), vs = [v] ∧ Dp K H v (encPs ps) ∧ ps.length < m ∧ ps.length ≤ 1000 ∧ ∀ H', Same H H' → Q (vN (mt ps)) H'
theorem ok_matched1 {m : Nat} (F : Std K mg "matched" st_matched) (B : Bl mg) (c_matched : Has P w K mg base m "matched" ["pairs"] (spMatched K m)) : Has P w K mg base (m + 1) "matched" ["pairs"] (spMatched K (m + 1)) := by
  refine has_def F sc_matched (fun _ _ _ _ _ _ us hl => match us, hl with | [_], _ => rfl) (fun vs H Q E h => ?_) (fun f cdv A outer s H vs Q E hr h => ?_)
  · obtain ⟨v, ps, rfl, _⟩ := h
    rfl
  · obtain ⟨v, ps, rfl, hv, lm, lk, q⟩ := h
    refine ⟨_, (pss_cons (ps_if (pt_cmpR (op_eqD hr.units) (pv 0) (pe_tup pa_nil) (nomark _)) (pss_one (ps_ret pe_int)) pss_nil)
    (pss_cons (ps_asg (pe_ix ix_tup (pv 0) pe_int (fun _ _ => rfl)) (pg_tup rfl (pgs_cons (pg_name (i := 1) sc_matched.nd rfl (.inr rfl)) (pgs_cons (pg_name (i := 2) sc_matched.nd rfl (.inr rfl)) pgs_nil))))
    (pss_cons (ps_set (i := 3) sc_matched.nd rfl (.inl rfl) (pe_callTy call_tuple_of (by rfl) B.tuple boot_tuple (pa_cons (pe_lc (own := [("pair", 4)]) (by rfl) sc_matched.nd (pi_tup (pv 0)) (blkOk_by (N := nm_matched) (own := [("pair", 4)]) (sc := defScope st_matched) (by decide +kernel)) (fun _ _ _ _ _ => (pg_name (i := 4) sc_matched.nd rfl (by first | exact Or.inl rfl | exact Or.inr rfl))) (fun _ _ _ _ _ => (pts_one (PW.pt (pw_and (pt_cmpR (kOp (rIn K true) op_notIn_seq) (pv 1) (pv 4) rfl) (pw_and1 (pt_cmpR (kOp (rIn K true) op_notIn_seq) (pv 2) (pv 4) rfl)))))) (fun _ _ _ _ _ => (pv 4))) pa_nil)))
    (pss_one (ps_ret (pe_callB (call_max2 rfl) (by rfl) B.max boot_max (pa_cons (pe_has c_matched hr (by first | decide | exact Nat.le_refl _) (by rfl) (pa_cons (pe_slice sl_tupA (pv 0) (po_some pe_int) po_none) pa_nil)) (pa_cons (pe_op op_add pe_int (pe_has c_matched hr (by first | decide | exact Nat.le_refl _) (by rfl) (pa_cons (pv 3) pa_nil))) pa_nil)))))))), ?_⟩
    refine ⟨_, rfl, Nat.zero_le _, fun T0 nT0 => ?_⟩
    have s0 := same_new (o := .tup []) nT0
    refine ⟨_, .tuple [], dp_same s0 _ _ hv, .tup (SqT.of upd_same) .nil, shaped_encPs ps, shaped_nilT, _, rfl, ?_⟩
    rw [eqv_nilT]
    cases ps with
    | nil =>
      refine iteT ?_
      have := q _ s0
      rw [mt_nil] at this
      exact this
    | cons p r =>
      refine iteF ?_
      obtain ⟨a, xs, rfl, hA, dA⟩ := dp_tup hv
      have lx : xs.length = r.length + 1 := by
        have := dpa_len dA
        rwa [List.length_map] at this
      obtain ⟨v0, e0, d0⟩ := dpa_getM dA (i := 0) (e := p) rfl
      obtain ⟨b, rfl, hB⟩ := dp_encP (dp_same s0 _ _ d0)
      have hA0 := same_seqT s0 hA
      refine ⟨_, rfl, a, _, 0, _, rfl, rfl, hA0, at0 e0, b, _, rfl, hB, rfl, _, _, rfl, _, _, rfl, rfl, ?_⟩
      -- rest
      refine ⟨_, rfl, a, rfl, ⟨xs, hA0⟩, fun D nD => ?_⟩
      refine lc_lf (K := K) (p :: r) (walk_tup (xs := xs)) lx (small (by simpa using (show r.length + 1 ≤ 10000 from Nat.le_trans lk (by decide)))) nD (fun z => if apart p z = true then some (encP z) else none)
        (fun e d hd => by
          split at hd
          · cases hd
            exact lf_encP _
          · cases hd) (fun H3 s3 => same_seqT s3 hA0) (fun i e x H3 H4 NY NN he s3 y ky kn => ?_) (fun H3 vs s3 eD dD => ?_)
      · obtain ⟨rfl, hx⟩ := y
        obtain ⟨e', he', de⟩ := dpa_getMV dA hx
        rw [he] at he'
        cases he'
        have de3 := dp_same (s0.trans s3) _ _ de
        obtain ⟨t, rfl, hT⟩ := dp_encP de3
        refine ⟨rfl, _, rfl, _, rfl, t, _, rfl, .inr hT, rfl, flat_nats [e.1, e.2], _, rfl, ?_⟩
        have i1 : inV (vN p.1) [vN e.1, vN e.2] = [e.1, e.2].contains p.1 := inV_nats p.1 [e.1, e.2]
        have i2 : inV (vN p.2) [vN e.1, vN e.2] = [e.1, e.2].contains p.2 := inV_nats p.2 [e.1, e.2]
        have ap := apart_eq p e
        show if (!inV (vN p.1) [vN e.1, vN e.2]) = true then _ else _
        rw [i1]
        cases c1 : [e.1, e.2].contains p.1 with
        | true =>
          rw [c1] at ap
          exact iteF (iteF (kn _ (Same.refl _) (by rw [ap]; rfl)))
        | false =>
          refine iteT ⟨_, rfl, _, rfl, t, _, rfl, .inr hT, rfl, flat_nats [e.1, e.2], _, rfl, ?_⟩
          show if (!inV (vN p.2) [vN e.1, vN e.2]) = true then _ else _
          rw [i2]
          cases c2 : [e.1, e.2].contains p.2 with
          | true =>
            rw [c1, c2] at ap
            exact iteF (kn _ (Same.refl _) (by rw [ap]; rfl))
          | false =>
            rw [c1, c2] at ap
            exact iteT ⟨_, rfl, ky _ _ _ (Same.refl _) (by rw [ap]; rfl) de3⟩
      · rw [filterMap_if] at dD
        have lf1 : ((p :: r).filter (apart p)).length ≤ r.length := by
          rw [List.filter_cons_of_neg (by simp [apart])]
          exact List.length_filter_le _ _
        refine ⟨D, vs, rfl, .inl ⟨.inl (.inl eD), fun R nR => ?_⟩⟩
        have sR := same_new (o := .tup vs) nR
        have s4 := s0.trans (s3.trans sR)
        have dR : Dp K (upd H3 R (.tup vs)) (.ref R) (encPs ((p :: r).filter (apart p))) := .tup (SqT.of upd_same) (dpa_same sR _ _ dD)
        have lm : r.length + 1 < m + 1 := lm
        have lk : r.length + 1 ≤ 1000 := lk
        -- max(matched(pairs[1:]), 1 + matched(rest))
        refine ⟨_, rfl, 1, rfl, a, xs, rfl, same_seqT s4 hA, fun z => absurd z (cut1_not (by omega)), fun _ C nC => ?_⟩
        rw [cut1]
        have sC := same_new (o := .tup (xs.drop 1)) nC
        have dC : Dp K (upd (upd H3 R (.tup vs)) C (.tup (xs.drop 1))) (.ref C) (encPs r) := .tup (SqT.of upd_same) (dpa_same (s4.trans sC) _ _ (by
          have := dpa_drop 1 dA
          exact this))
        refine ⟨_, r, rfl, dC, by omega, by omega, fun H5 s5 => ?_⟩
        refine ⟨_, rfl, _, _, rfl, dp_same (sC.trans s5) _ _ dR, by omega, by omega, fun H6 s6 => ⟨_, _, rfl, rfl, _, _, rfl, ?_⟩⟩
        have e1 : (1 : Int) + ((mt ((p :: r).filter (apart p)) : Nat) : Int) = ((1 + mt ((p :: r).filter (apart p)) : Nat) : Int) := by omega
        rw [e1, maxN, ← mt_cons]
        exact q _ (s4.trans (sC.trans (s5.trans s6)))
theorem ok_matched (F : Std K mg "matched" st_matched) (B : Bl mg) : ∀ m, Has P w K mg base m "matched" ["pairs"] (spMatched K m)
  | 0 => has_zero F (fun _ _ _ _ _ _ us hl => match us, hl with | [_], _ => rfl) fun vs H Q E h => by
    obtain ⟨v, ps, _, _, l, _⟩ := h
    exact absurd l (Nat.not_lt_zero _)
  | m + 1 => ok_matched1 F B (ok_matched F B m)
def spDisjoint (K : PySem.W.Frag) : Sp := fun vs H Q _ => ∃ (n : Nat) (rods : List Rod) (v u : V) (h : Nat → Nat), vs = [v, u] ∧ Dp K H v (encN n rods) ∧ Dp K H u (encRow n h) ∧ NetOk n rods ∧ (∀ i, i < n → h i ≤ 99) ∧
  ∀ H', Same H H' → Q (vN (mt (bad n (dist n rods) h))) H'
theorem ok_disjoint (F : Std K mg "disjoint_pairs" st_disjoint_pairs) (B : Bl mg) (c_bad_pairs : Has P w K mg base 5 "bad_pairs" ["net", "row"] (spBad K)) (c_matched : Has P w K mg base 30 "matched" ["pairs"] (spMatched K 30)) :
    Has P w K mg base 31 "disjoint_pairs" ["net", "row"] (spDisjoint K) := by
  refine has_def F sc_disjoint_pairs (fun _ _ _ _ _ _ us hl => match us, hl with | [_, _], _ => rfl) (fun vs H Q E h => ?_) (fun f cdv A outer s H vs Q E hr h => ?_)
  · obtain ⟨n, rods, v, u, h, rfl, _⟩ := h
    rfl
  · obtain ⟨n, rods, v, u, h, rfl, hv, hu, N, h99, q⟩ := h
    have bc := bad_count (n := n) (D := dist n rods) (h := h) N.n8
    refine ⟨_, (pss_one (ps_ret (pe_has c_matched hr (by first | decide | exact Nat.le_refl _) (by rfl) (pa_cons (pe_has c_bad_pairs hr (by first | decide | exact Nat.le_refl _) (by rfl) (pa_cons (pv 0) (pa_cons (pv 1) pa_nil))) pa_nil)))), ?_⟩
    refine ⟨_, rfl, _, rfl, n, rods, v, u, h, rfl, hv, hu, N, h99, fun pv H1 s1 dP => ?_⟩
    exact ⟨pv, _, rfl, dP, by omega, by omega, fun H2 s2 => q _ (s1.trans s2)⟩
end
end Lk

set_option Elab.async false
set_option linter.all false
set_option maxRecDepth 100000
set_option maxHeartbeats 4000000
namespace Lk
open PySem PySem.Spec PyProof.Rows L2
/-! ### the list of draws -/
def rowL (sc : Addr) (pos seed rest : Int) : HO := .lst [.ref sc, .int pos, .int seed, .int rest]
/-- the list of draws stands at a -/
def RowAt (K : PySem.W.Frag) (H : Hp) (a : Addr) : Prop := ∃ (sc : Addr) (ns : List Int) (pos seed rest : Int), H a = some (rowL sc pos seed rest) ∧ SqL K H sc (ns.map V.int) ∧ 0 ≤ pos ∧ 0 ≤ seed ∧ seed < 2147483647
/-- all but a stands as it stood -/
def Keep (a : Addr) (H H' : Hp) : Prop := ∀ b u, b ≠ a → H b = some u → H' b = some u
section
variable {K : PySem.W.Frag} {H H' H1 H2 : Hp} {a : Addr}
theorem Keep.refl : Keep a H H := fun _ _ _ h => h
theorem Keep.trans (x : Keep a H H1) (y : Keep a H1 H2) : Keep a H H2 := fun b u n h => y b u n (x b u n h)
theorem keep_same (s : Same H H') : Keep a H H' := fun b u _ h => s b u h
theorem keep_upd {o : HO} : Keep a H (upd H a o) := fun b u n h => by rw [upd_ne n]; exact h
theorem keep_in {d : Addr} {o : HO} (k : Keep a H H1) (h : H d = none) : Keep a H (upd H1 d o) := fun b u n e => by
  rw [upd_ne (ne_of_none e h)]
  exact k b u n e
theorem keep_free (k : Keep a H H1) {d : Addr} (n : d ≠ a) (h : H1 d = none) : H d = none := by
  cases q : H d with
  | none => rfl
  | some u =>
    rw [k d u n q] at h
    cases h
/-- a list of ints is not the list of draws -/
theorem seqL_row {sc b : Addr} {pos seed rest : Int} {ns : List Int} {o : HO} (h : H a = some (rowL sc pos seed rest)) (q : SqL K H b (ns.map V.int)) : SqL K (upd H a o) b (ns.map V.int) := by
  rcases q with (q | ⟨ob, q⟩) | q
  · refine .inl (.inl ?_)
    rw [upd_ne fun e => ?_]
    · exact q
    · rw [e, h] at q
      cases ns with
      | nil => cases q
      | cons x r => cases q
  · refine .inl (.inr ⟨ob, ?_⟩)
    rw [upd_ne fun e => ?_]
    · exact q
    · rw [e, h] at q
      cases q
  · exact .inr q
theorem keepT_row {sc : Addr} {pos seed rest : Int} (h : H a = some (rowL sc pos seed rest)) (k : Keep a H H') : KeepT K H H' := by
  intro c xs q
  rcases q with (q | ⟨ob, q⟩) | q
  · refine .inl (.inl (k _ _ (fun e => ?_) q))
    rw [e, h] at q
    cases q
  · refine .inl (.inr ⟨ob, k _ _ (fun e => ?_) q⟩)
    rw [e, h] at q
    cases q
  · exact .inr q
theorem RowAt.keepT (r : RowAt K H a) (k : Keep a H H') : KeepT K H H' := by
  obtain ⟨sc, ns, pos, seed, rest, h, _⟩ := r
  exact keepT_row h k
theorem RowAt.some_ (r : RowAt K H a) : ∃ u, H a = some u := by
  obtain ⟨sc, ns, pos, seed, rest, h, _⟩ := r
  exact ⟨_, h⟩
theorem RowAt.same (r : RowAt K H a) (s : Same H H') : RowAt K H' a := by
  obtain ⟨sc, ns, pos, seed, rest, h, q, r1⟩ := r
  exact ⟨sc, ns, pos, seed, rest, s _ _ h, s.seq q, r1⟩
theorem RowAt.ne_new (r : RowAt K H a) {p : Addr} (h : H p = none) : p ≠ a := fun e => by
  obtain ⟨u, q⟩ := r.some_
  rw [← e, h] at q
  cases q
theorem RowAt.dT (r : RowAt K H a) {d : Addr} {kvs : List (List Key × V)} {o : HO} (h : H d = some (.dT kvs)) : RowAt K (upd H d o) a ∧ d ≠ a := by
  obtain ⟨sc, ns, pos, seed, rest, e, q, r1⟩ := r
  have ne : a ≠ d := fun z => by
    rw [z, h] at e
    cases e
  refine ⟨⟨sc, ns, pos, seed, rest, by rw [upd_ne ne]; exact e, ?_, r1⟩, ne.symm⟩
  rcases q with (q | ⟨ob, q⟩) | q
  · refine .inl (.inl ?_)
    rw [upd_ne fun z => ?_]
    · exact q
    · rw [z, h] at q
      cases q
  · refine .inl (.inr ⟨ob, ?_⟩)
    rw [upd_ne fun z => ?_]
    · exact q
    · rw [z, h] at q
      cases q
  · exact .inr q
end
theorem cv {Q : VK} {x y : V} {H : Hp} (e : x = y) (h : Q y H) : Q x H := by
  rw [e]
  exact h
theorem fmodN (x : Int) {m : Nat} (h : 1 ≤ m) : ∃ r : Nat, r < m ∧ V.int (x.fmod (m : Int)) = vN r := by
  have e : x.fmod (m : Int) = x % (m : Int) := Int.fmod_eq_emod_of_nonneg _ (by omega)
  have h1 := Int.emod_nonneg x (show (m : Int) ≠ 0 by omega)
  have h2 := Int.emod_lt_of_pos x (show 0 < (m : Int) by omega)
  exact ⟨(x % (m : Int)).toNat, by omega, by rw [e]; exact congrArg V.int (by omega)⟩
theorem fmodB (x : Int) : ∃ sd : Int, V.int (x.fmod 2147483647) = V.int sd ∧ 0 ≤ sd ∧ sd < 2147483647 := by
  have e : x.fmod 2147483647 = x % 2147483647 := Int.fmod_eq_emod_of_nonneg _ (by decide)
  rw [e]
  exact ⟨_, rfl, Int.emod_nonneg _ (by decide), Int.emod_lt_of_pos _ (by decide)⟩
theorem seed_ne : (2147483647 : Int) ≠ 0 := by decide
section
variable {P : Program} {w : World} {K : PySem.W.Frag} {mg : Str → Option Value} {base : Heap}
def spTaken (K : PySem.W.Frag) : Sp := fun vs H Q _ => ∃ (a : Addr) (m : Nat), vs = [.ref a, vN m] ∧ 1 ≤ m ∧ m ≤ 1000 ∧ RowAt K H a ∧ ∀ o (r : Nat), r < m → RowAt K (upd H a o) a → Q (vN r) (upd H a o)
theorem ok_taken (F : Std K mg "_law_taken" st_l_taken) (B : Bl mg) : Has P w K mg base 1 "_law_taken" ["_law_row", "_law_many"] (spTaken K) := by
  refine has_def F sc_l_taken (fun _ _ _ _ _ _ us hl => match us, hl with | [_, _], _ => rfl) (fun vs H Q E h => ?_) (fun f cdv A outer s H vs Q E hr h => ?_)
  · obtain ⟨a, m, rfl, _⟩ := h
    rfl
  · obtain ⟨a, m, rfl, m1, m2, ⟨sc, ns, pos, seed, rest, hA, hS, p0, s0, s1⟩, q⟩ := h
    have md : (m : Int) ≠ 0 ∧ (m : Int).natAbs < 1073741824 := ⟨by omega, by omega⟩
    have lA : ∀ {H' : Hp} {sc : Addr} {pos seed rest : Int}, H' a = some (rowL sc pos seed rest) → SqL K H' a [.ref sc, .int pos, .int seed, .int rest] := fun h => .inl (.inl h)
    refine ⟨_, (pss_cons (ps_if (pt_cmpR op_gt (pe_ix ix_list (pv 0) pe_int (fun _ _ => rfl)) pe_int (nomark _)) (pss_cons (ps_set (i := 2) sc_l_taken.nd rfl (.inl rfl) (pe_op op_modN (pe_callTy call_int1 (by rfl) B.int boot_int (pa_cons (pe_ix ix_list (pv 0) pe_int (fun _ _ => rfl)) pa_nil)) (pv 1)))
    (pss_cons (ps_asg (pe_op op_fdivN (pe_ix ix_list (pv 0) pe_int (fun _ _ => rfl)) (pv 1)) (pg_sub (pv 0) pe_int set_list))
    (pss_one (ps_ret (pv 2))))) pss_nil)
    (pss_cons (ps_asg (pe_op op_add (pe_ix ix_list (pv 0) pe_int (fun _ _ => rfl)) pe_int) (pg_sub (pv 0) pe_int set_list))
    (pss_cons (ps_if (pt_cmpR op_gt (pe_ix ix_list (pv 0) pe_int (fun _ _ => rfl)) (pe_callB call_len_seq (by rfl) B.len PySem.boot_len (pa_cons (pe_ix ix_list (pv 0) pe_int (fun _ _ => rfl)) pa_nil)) (nomark _)) (pss_cons (ps_asg (pe_op op_modN (pe_callTy call_int1 (by rfl) B.int boot_int (pa_cons (pe_op op_add (pe_op op_mul (pe_ix ix_list (pv 0) pe_int (fun _ _ => rfl)) pe_int) pe_int) pa_nil)) pe_int) (pg_sub (pv 0) pe_int set_list))
    (pss_one (ps_ret (pe_op op_modN (pe_callTy call_int1 (by rfl) B.int boot_int (pa_cons (pe_op op_fdivN (pe_ix ix_list (pv 0) pe_int (fun _ _ => rfl)) pe_int) pa_nil)) (pv 1))))) pss_nil)
    (pss_cons (ps_set (i := 3) sc_l_taken.nd rfl (.inl rfl) (pe_ix ix_list (pe_ix ix_list (pv 0) pe_int (fun _ _ => rfl)) (pe_op op_sub (pe_ix ix_list (pv 0) pe_int (fun _ _ => rfl)) pe_int) (fun _ _ => rfl)))
    (pss_cons (ps_asg (pe_op op_modN (pe_callTy call_int1 (by rfl) B.int boot_int (pa_cons (pe_op op_add (pe_op op_add (pe_op op_mul (pe_ix ix_list (pv 0) pe_int (fun _ _ => rfl)) pe_int) (pv 3)) pe_int) pa_nil)) pe_int) (pg_sub (pv 0) pe_int set_list))
    (pss_cons (ps_if (pt_cmpR op_ge (pv 3) (pe_op op_pow pe_int pe_int) (nomark _)) (pss_one (ps_asg (pe_op op_fdivN (pv 3) (pv 1)) (pg_sub (pv 0) pe_int set_list))) pss_nil)
    (pss_one (ps_ret (pe_op op_modN (pe_callTy call_int1 (by rfl) B.int boot_int (pa_cons (pv 3) pa_nil)) (pv 1)))))))))), ?_⟩
    refine ⟨_, rfl, a, _, 3, _, rfl, rfl, lA hA, rfl, _, _, rfl, rfl, _, rfl, ite2 (fun c => ?_) (fun c => ?_)⟩
    · obtain ⟨r, hr1, hr2⟩ := fmodN rest m1
      refine ⟨_, rfl, a, _, 3, _, rfl, rfl, lA hA, rfl, .inl ⟨_, rfl, _, rfl, _, _, rfl, rfl, by omega, ?_⟩⟩
      dsimp only
      rw [hr2]
      refine ⟨_, rfl, a, _, 3, _, rfl, rfl, lA hA, rfl, _, rfl, _, _, rfl, rfl, md, _, rfl, a, _, 3, 3, rfl, rfl, hA, rfl, ?_⟩
      exact ⟨_, rfl, q _ r hr1 ⟨sc, ns, pos, seed, _, upd_same, seqL_row hA hS, p0, s0, s1⟩⟩
    · refine ⟨_, rfl, a, _, 1, _, rfl, rfl, lA hA, rfl, _, _, rfl, rfl, _, rfl, a, _, 1, 1, rfl, rfl, hA, rfl, ?_⟩
      show L2.tSeq _ _ _ _ (upd H a (rowL sc (pos + 1) seed rest))
      have h1 : upd H a (rowL sc (pos + 1) seed rest) a = some (rowL sc (pos + 1) seed rest) := upd_same
      have hS1 : SqL K (upd H a (rowL sc (pos + 1) seed rest)) sc (ns.map V.int) := seqL_row hA hS
      refine ⟨_, rfl, a, _, 1, _, rfl, rfl, lA h1, rfl, _, rfl, a, _, 0, _, rfl, rfl, lA h1, rfl, sc, _, rfl, .inl hS1, _, _, rfl, rfl, _, rfl, ite2 (fun c => ?_) (fun c => ?_)⟩
      · obtain ⟨sd, esd, b2⟩ := fmodB (seed * 48271 + 11)
        refine ⟨_, rfl, a, _, 2, _, rfl, rfl, lA h1, rfl, _, _, rfl, rfl, .inl ⟨by omega, by omega⟩, _, _, rfl, rfl, .inl ⟨_, rfl, _, _, rfl, rfl, seed_ne, ?_⟩⟩
        dsimp only
        rw [esd]
        refine ⟨_, rfl, a, _, 2, 2, rfl, rfl, h1, rfl, ?_⟩
        rw [upd_upd]
        show L2.tRet _ _ _ (upd H a (rowL sc (pos + 1) sd rest))
        have h2 : upd H a (rowL sc (pos + 1) sd rest) a = some (rowL sc (pos + 1) sd rest) := upd_same
        obtain ⟨r, hr1, hr2⟩ := fmodN (sd.fdiv 7) m1
        refine ⟨_, rfl, a, _, 2, _, rfl, rfl, lA h2, rfl, _, _, rfl, rfl, ⟨by decide, by decide⟩, .inl ⟨_, rfl, _, rfl, _, _, rfl, rfl, by omega, ?_⟩⟩
        dsimp only
        rw [hr2]
        exact q _ r hr1 ⟨sc, ns, _, _, _, upd_same, seqL_row hA hS, by omega, b2.1, b2.2⟩
      · have c := of_decide_eq_false (Bool.eq_false_iff.mpr c)
        rw [List.length_map] at c
        have li : pos.toNat < ns.length := by omega
        have ia : atI (ns.map V.int) (pos + 1 - 1) = some (.int ns[pos.toNat]) := by
          have e : pos + 1 - 1 = ((pos.toNat : Nat) : Int) := by omega
          rw [e]
          exact at0 (by simp [li])
        generalize ns[pos.toNat] = cell at ia
        refine ⟨_, rfl, a, _, 0, _, rfl, rfl, lA h1, rfl, _, rfl, a, _, 1, _, rfl, rfl, lA h1, rfl, _, _, rfl, rfl, sc, _, _, _, rfl, rfl, hS1, ia, ?_⟩
        obtain ⟨sd, esd, b2⟩ := fmodB (seed * 48271 + cell + 11)
        refine ⟨_, rfl, a, _, 2, _, rfl, rfl, lA h1, rfl, _, _, rfl, rfl, .inl ⟨by omega, by omega⟩, _, rfl, _, _, rfl, rfl, _, _, rfl, rfl, .inl ⟨_, rfl, _, _, rfl, rfl, seed_ne, ?_⟩⟩
        dsimp only
        rw [esd]
        refine ⟨_, rfl, a, _, 2, 2, rfl, rfl, h1, rfl, ?_⟩
        rw [upd_upd]
        show L2.tSeq _ _ _ _ (upd H a (rowL sc (pos + 1) sd rest))
        have h2 : upd H a (rowL sc (pos + 1) sd rest) a = some (rowL sc (pos + 1) sd rest) := upd_same
        obtain ⟨r, hr1, hr2⟩ := fmodN cell m1
        refine ⟨_, rfl, _, _, rfl, rfl, ⟨by decide, by decide, by decide⟩, _, _, rfl, rfl, _, rfl, ite2 (fun c => ?_) (fun c => ?_)⟩
        · refine ⟨_, rfl, _, rfl, _, _, rfl, rfl, md, _, rfl, a, _, 3, 3, rfl, rfl, h2, rfl, ?_⟩
          rw [upd_upd]
          refine ⟨_, rfl, .inl ⟨_, rfl, _, rfl, _, _, rfl, rfl, by omega, ?_⟩⟩
          dsimp only
          rw [hr2]
          exact q _ r hr1 ⟨sc, ns, _, _, _, upd_same, seqL_row hA hS, by omega, b2.1, b2.2⟩
        · refine ⟨_, rfl, .inl ⟨_, rfl, _, rfl, _, _, rfl, rfl, by omega, ?_⟩⟩
          dsimp only
          rw [hr2]
          exact q _ r hr1 ⟨sc, ns, _, _, _, upd_same, seqL_row hA hS, by omega, b2.1, b2.2⟩
def spPick (K : PySem.W.Frag) : Sp := fun vs H Q _ => ∃ (a l : Addr) (ns : List Nat), vs = [.ref a, .ref l] ∧ RowAt K H a ∧ SqL K H l (ns.map vN) ∧ 1 ≤ ns.length ∧ ns.length ≤ 1000 ∧ ∀ o x, x ∈ ns → RowAt K (upd H a o) a → Q (vN x) (upd H a o)
theorem ok_pick (F : Std K mg "_law_pick" st_l_pick) (B : Bl mg) (c_l_taken : Has P w K mg base 1 "_law_taken" ["_law_row", "_law_many"] (spTaken K)) : Has P w K mg base 2 "_law_pick" ["_law_row", "_law_things"] (spPick K) := by
  refine has_def F sc_l_pick (fun _ _ _ _ _ _ us hl => match us, hl with | [_, _], _ => rfl) (fun vs H Q E h => ?_) (fun f cdv A outer s H vs Q E hr h => ?_)
  · obtain ⟨a, l, ns, rfl, _⟩ := h
    rfl
  · obtain ⟨a, l, ns, rfl, hR, hL, l1, l2, q⟩ := h
    refine ⟨_, (pss_one (ps_ret (pe_ix ix_list (pv 1) (pe_has c_l_taken hr (by first | decide | exact Nat.le_refl _) (by rfl) (pa_cons (pv 0) (pa_cons (pe_callB call_len_seq (by rfl) B.len PySem.boot_len (pa_cons (pv 1) pa_nil)) pa_nil))) (fun _ _ => rfl)))), ?_⟩
    refine ⟨_, rfl, _, rfl, _, rfl, l, _, rfl, .inl hL, ?_⟩
    rw [List.length_map]
    refine ⟨a, ns.length, rfl, l1, l2, hR, fun o r hr1 hR1 => ?_⟩
    have hL1 : SqL K (upd H a o) l (ns.map vN) := by
      obtain ⟨sc, zs, pos, seed, rest, hA, _⟩ := hR
      have e : ns.map vN = (ns.map fun x : Nat => (x : Int)).map V.int := by rw [List.map_map]; rfl
      rw [e] at hL ⊢
      exact seqL_row hA hL
    have ia : (ns.map vN)[r]? = some (vN ns[r]) := by simp [hr1]
    exact ⟨l, _, _, _, rfl, rfl, hL1, at0 ia, q o _ (List.getElem_mem hr1) hR1⟩
end
end Lk

set_option Elab.async false
set_option linter.all false
set_option maxRecDepth 100000
set_option maxHeartbeats 4000000
/-! The dict of rods: its mathematics. -/
namespace Lk
open PySem PySem.Spec PyProof.Rows L2
def keyR (r : Rod) : Nat × Nat := (r.1, r.2.1)
def putR (es : List Rod) (x y l : Nat) : List Rod := if (es.any fun r => decide (r.1 = x ∧ r.2.1 = y)) = true then es.map (fun r => if r.1 = x ∧ r.2.1 = y then (x, y, l) else r) else es ++ [(x, y, l)]
def kvR (es : List Rod) : List (List Key × V) := es.map fun r => ([.inl (r.1 : Int), .inl (r.2.1 : Int)], vN r.2.2)
theorem kvR_P (es : List Rod) : kvR es = kvP (es.map fun r => (((r.1 : Int), (r.2.1 : Int)), vN r.2.2)) := by
  unfold kvR kvP
  rw [List.map_map]
  rfl
theorem key_eq (a b x y : Nat) : ([Sum.inl (a : Int), Sum.inl (b : Int)] : List Key) = [.inl (x : Int), .inl (y : Int)] ↔ a = x ∧ b = y := by
  constructor
  · intro h
    injection h with h1 h2
    injection h2 with h2 _
    injection h1 with h1
    injection h2 with h2
    exact ⟨by omega, by omega⟩
  · rintro ⟨rfl, rfl⟩
    rfl
theorem putK_R (es : List Rod) (x y l : Nat) : putK (kvR es) [.inl (x : Int), .inl (y : Int)] (vN l) = kvR (putR es x y l) := by
  have a : ((kvR es).any fun kv => decide (kv.1 = [Sum.inl (x : Int), Sum.inl (y : Int)])) = es.any fun r => decide (r.1 = x ∧ r.2.1 = y) := by
    unfold kvR
    rw [List.any_map]
    congr 1
    funext r
    exact decide_eq_decide.mpr (key_eq r.1 r.2.1 x y)
  unfold putK putR
  rw [a]
  by_cases h : (es.any fun r => decide (r.1 = x ∧ r.2.1 = y)) = true
  · rw [if_pos h, if_pos h]
    unfold kvR
    rw [List.map_map, List.map_map]
    apply List.map_congr_left
    intro r _
    show (if ([Sum.inl (r.1 : Int), Sum.inl (r.2.1 : Int)] : List Key) = [.inl (x : Int), .inl (y : Int)] then _ else _) = _
    by_cases c : r.1 = x ∧ r.2.1 = y
    · rw [if_pos ((key_eq _ _ _ _).mpr c)]
      simp only [Function.comp, if_pos c]
      rw [c.1, c.2]
    · rw [if_neg (fun z => c ((key_eq _ _ _ _).mp z))]
      simp only [Function.comp, if_neg c]
  · rw [if_neg h, if_neg h]
    unfold kvR
    rw [List.map_append]
    rfl
theorem valV_R : ∀ {es : List Rod} {r : Rod}, (es.map keyR).Nodup → r ∈ es → valV (kvR es) [.inl (r.1 : Int), .inl (r.2.1 : Int)] = some (vN r.2.2)
  | [], _, _, h => nomatch h
  | e :: es, r, nd, h => by
    rw [List.map_cons, List.nodup_cons] at nd
    show valV (([Sum.inl (e.1 : Int), Sum.inl (e.2.1 : Int)], vN e.2.2) :: kvR es) _ = _
    rcases List.mem_cons.mp h with rfl | h
    · exact valV_pos rfl
    · rw [valV_neg]
      · exact valV_R nd.2 h
      · intro z
        have := (key_eq _ _ _ _).mp z
        apply nd.1
        have e1 : keyR e = keyR r := by
          unfold keyR
          rw [this.1, this.2]
        rw [e1]
        exact List.mem_map_of_mem h
structure DictOk (n t b : Nat) (es : List Rod) : Prop where
  rod : ∀ r ∈ es, r.1 < r.2.1 ∧ r.2.1 < n ∧ 1 ≤ r.2.2 ∧ r.2.2 ≤ 9
  nd : (es.map keyR).Nodup
  few : es.length ≤ b
  tree : ∀ j, 1 ≤ j → j < t → ∃ r ∈ es, r.2.1 = j ∧ r.1 < j
theorem putR_keys (es : List Rod) (x y l : Nat) : ∀ r ∈ es, ∃ r' ∈ putR es x y l, keyR r' = keyR r := by
  intro r hr
  unfold putR
  by_cases h : (es.any fun r => decide (r.1 = x ∧ r.2.1 = y)) = true
  · rw [if_pos h]
    refine ⟨_, List.mem_map_of_mem hr, ?_⟩
    by_cases c : r.1 = x ∧ r.2.1 = y
    · rw [if_pos c]
      unfold keyR
      rw [c.1, c.2]
    · rw [if_neg c]
  · rw [if_neg h]
    exact ⟨r, List.mem_append_left _ hr, rfl⟩
theorem putR_has (es : List Rod) (x y l : Nat) : ∃ r' ∈ putR es x y l, keyR r' = (x, y) := by
  unfold putR
  by_cases h : (es.any fun r => decide (r.1 = x ∧ r.2.1 = y)) = true
  · rw [if_pos h]
    obtain ⟨r, hr, c⟩ := List.any_eq_true.mp h
    have c := of_decide_eq_true c
    exact ⟨_, List.mem_map_of_mem hr, by rw [if_pos c]; rfl⟩
  · rw [if_neg h]
    exact ⟨(x, y, l), by simp, rfl⟩
theorem DictOk.put {n t b x y l : Nat} {es : List Rod} (d : DictOk n t b es) (h1 : x < y) (h2 : y < n) (h3 : 1 ≤ l) (h4 : l ≤ 9) : DictOk n t (b + 1) (putR es x y l) := by
  refine ⟨fun r hr => ?_, ?_, ?_, fun j j1 j2 => ?_⟩
  · unfold putR at hr
    by_cases h : (es.any fun r => decide (r.1 = x ∧ r.2.1 = y)) = true
    · rw [if_pos h] at hr
      obtain ⟨r', hr', rfl⟩ := List.mem_map.mp hr
      by_cases c : r'.1 = x ∧ r'.2.1 = y
      · rw [if_pos c]
        exact ⟨h1, h2, h3, h4⟩
      · rw [if_neg c]
        exact d.rod r' hr'
    · rw [if_neg h] at hr
      rcases List.mem_append.mp hr with hr | hr
      · exact d.rod r hr
      · rw [List.mem_singleton.mp hr]
        exact ⟨h1, h2, h3, h4⟩
  · unfold putR
    by_cases h : (es.any fun r => decide (r.1 = x ∧ r.2.1 = y)) = true
    · rw [if_pos h, List.map_map]
      have : (es.map (keyR ∘ fun r => if r.1 = x ∧ r.2.1 = y then (x, y, l) else r)) = es.map keyR := List.map_congr_left fun r _ => by
        show keyR (if r.1 = x ∧ r.2.1 = y then (x, y, l) else r) = keyR r
        by_cases c : r.1 = x ∧ r.2.1 = y
        · rw [if_pos c]
          unfold keyR
          rw [c.1, c.2]
        · rw [if_neg c]
      rw [this]
      exact d.nd
    · rw [if_neg h, List.map_append, List.nodup_append]
      refine ⟨d.nd, by simp, fun a ha b hb e => h ?_⟩
      obtain ⟨r, hr, rfl⟩ := List.mem_map.mp ha
      have hb : b = (x, y) := by simpa [keyR] using hb
      rw [hb] at e
      unfold keyR at e
      injection e with e1 e2
      exact List.any_eq_true.mpr ⟨r, hr, decide_eq_true ⟨e1, e2⟩⟩
  · unfold putR
    have := d.few
    split
    · rw [List.length_map]
      omega
    · rw [List.length_append, List.length_singleton]
      omega
  · obtain ⟨r, hr, e1, e2⟩ := d.tree j j1 j2
    obtain ⟨r', hr', k⟩ := putR_keys es x y l r hr
    unfold keyR at k
    injection k with k1 k2
    exact ⟨r', hr', by omega, by omega⟩
theorem DictOk.putTree {n t b x l : Nat} {es : List Rod} (d : DictOk n t b es) (h1 : x < t) (h2 : t < n) (h3 : 1 ≤ l) (h4 : l ≤ 9) : DictOk n (t + 1) (b + 1) (putR es x t l) := by
  have p := d.put h1 h2 h3 h4
  refine ⟨p.rod, p.nd, p.few, fun j j1 j2 => ?_⟩
  by_cases e : j = t
  · subst e
    obtain ⟨r', hr', k⟩ := putR_has es x j l
    unfold keyR at k
    injection k with k1 k2
    exact ⟨r', hr', by omega, by omega⟩
  · exact p.tree j j1 (by omega)
/-- the order of the keys -/
def leR (a b : Rod) : Bool := decide (a.1 < b.1 ∨ (a.1 = b.1 ∧ a.2.1 ≤ b.2.1))
theorem dictOk_net {n b : Nat} {es : List Rod} (d : DictOk n n b es) (n1 : 1 ≤ n) (n8 : n ≤ 8) (hb : b ≤ 28) : NetOk n (es.mergeSort leR) := by
  have pm := List.mergeSort_perm es leR
  have mem : ∀ r, r ∈ es.mergeSort leR ↔ r ∈ es := fun r => pm.mem_iff
  refine ⟨n1, n8, fun a b l h => ?_, fun j j1 j2 => ?_, ?_, by rw [pm.length_eq]; exact Nat.le_trans d.few hb⟩
  · exact d.rod _ ((mem _).mp h)
  · obtain ⟨r, hr, e1, e2⟩ := d.tree j j1 j2
    refine ⟨r.1, r.2.2, e2, ?_⟩
    rw [← e1]
    exact (mem _).mpr hr
  · have p1 : (es.mergeSort leR).Pairwise fun a b => leR a b = true := List.pairwise_mergeSort (fun a b c h1 h2 => by
      have h1 := of_decide_eq_true h1
      have h2 := of_decide_eq_true h2
      exact decide_eq_true (by omega)) (fun a b => by
      unfold leR
      rw [Bool.or_eq_true, decide_eq_true_eq, decide_eq_true_eq]
      omega) es
    have p2 : ((es.mergeSort leR).map keyR).Nodup := (pm.map keyR).nodup_iff.mpr d.nd
    have p2 := List.pairwise_map.mp p2
    refine (p1.and p2).imp fun {a b} h => ?_
    have h1 := of_decide_eq_true h.1
    have h2 : ¬ (a.1 = b.1 ∧ a.2.1 = b.2.1) := fun z => h.2 (by
      unfold keyR
      rw [z.1, z.2])
    omega
open PySem.W in
theorem dlt_P (a b : Rod) : (!dataLt (encP (keyR b)) (encP (keyR a))) = leR a b := by
  have h : dataLt (encP (keyR b)) (encP (keyR a)) = decide ((b.1 : Int) < (a.1 : Int) ∨ ((b.1 : Int) = (a.1 : Int) ∧ (b.2.1 : Int) < (a.2.1 : Int))) := dataLt_ii _ _ _ _
  rw [h]
  unfold leR
  rw [Bool.eq_iff_iff]
  simp only [Bool.not_eq_true', decide_eq_false_iff_not, decide_eq_true_eq]
  omega
end Lk

set_option Elab.async false
set_option linter.all false
set_option maxRecDepth 100000
set_option maxHeartbeats 4000000
namespace Lk
open PySem PySem.Spec PyProof.Rows L2
theorem iteNN {c A B : Prop} [Decidable c] (hc : ¬ c) (h : A) : if (!decide c) = true then A else B := by
  rw [decide_eq_false hc]
  exact iteT h
theorem viaIf {t : TT} {ta tb : TE} {g : TG} {b r : TS} {D : Ends} {σ : L2.St} {H : Hp} (Pn : V → Hp → Prop) (k : ∀ v H', Pn v H' → tSeq (tFor (iRng1 (tCons (tC v) tNil)) g b) r D σ H')
    (f : (∀ v H', Pn v H' → tSeq (tFor (iRng1 (tCons (tC v) tNil)) g b) r D σ H') → tSeq (tFor (iRng1 (tCons (tIf t ta tb) tNil)) g b) r D σ H) : tSeq (tFor (iRng1 (tCons (tIf t ta tb) tNil)) g b) r D σ H := f k
theorem one_add (r : Nat) : V.int (1 + (r : Int)) = vN (1 + r) := congrArg V.int (by omega)
section
variable {P : Program} {w : World} {K : PySem.W.Frag} {mg : Str → Option Value} {base : Heap}
/-- what holds of the heap while the dict at d is filled -/
structure NetI (K : PySem.W.Frag) (H H1 : Hp) (a d : Addr) (n t b : Nat) : Prop where
  keep : Keep a H H1
  row : RowAt K H1 a
  dict : ∃ es, H1 d = some (.dT (kvR es)) ∧ DictOk n t b es
theorem NetI.draw {H H1 : Hp} {a d : Addr} {n t b : Nat} {o : HO} (x : NetI K H H1 a d n t b) (r : RowAt K (upd H1 a o) a) : NetI K H (upd H1 a o) a d n t b := by
  obtain ⟨es, e, q⟩ := x.dict
  have ne : d ≠ a := (x.row.dT (o := .dT []) e).2
  exact ⟨x.keep.trans keep_upd, r, es, by rw [upd_ne ne]; exact e, q⟩
theorem NetI.same {H H1 H2 : Hp} {a d : Addr} {n t b : Nat} (x : NetI K H H1 a d n t b) (s : Same H1 H2) : NetI K H H2 a d n t b := by
  obtain ⟨es, e, q⟩ := x.dict
  exact ⟨x.keep.trans (keep_same s), x.row.same s, es, s _ _ e, q⟩
theorem NetI.put {H H1 : Hp} {a d : Addr} {n t b t' b' : Nat} {es es' : List Rod} (x : NetI K H H1 a d n t b) (nd : H d = none) (e : H1 d = some (.dT (kvR es))) (q : DictOk n t' b' es') : NetI K H (upd H1 d (.dT (kvR es'))) a d n t' b' :=
  ⟨keep_in x.keep nd, (x.row.dT e).1, es', upd_same, q⟩
def spNet (K : PySem.W.Frag) : Sp := fun vs H Q _ => ∃ (a : Addr) (long : Nat), vs = [.ref a, .int 8, vN long] ∧ 1 ≤ long ∧ long ≤ 9 ∧ RowAt K H a ∧
  ∀ x H' n rods, Keep a H H' → RowAt K H' a → NetOk n rods → Dp K H' x (encN n rods) → Q x H'
theorem ok_net (F : Std K mg "_law_net" st_l_net) (B : Bl mg) (c_l_taken : Has P w K mg base 1 "_law_taken" ["_law_row", "_law_many"] (spTaken K)) :
    Has P w K mg base 2 "_law_net" ["_law_row", "_law_most", "_law_long"] (spNet K) := by
  refine has_def F sc_l_net (fun _ _ _ _ _ _ us hl => match us, hl with | [_, _, _], _ => rfl) (fun vs H Q E h => ?_) (fun f cdv A outer s H vs Q E hr h => ?_)
  · obtain ⟨a, long, rfl, _⟩ := h
    rfl
  · obtain ⟨a, long, rfl, l1, l9, hR, q⟩ := h
    refine ⟨_, (pss_cons (ps_asg (pe_tup (pa_cons (pe_op op_add pe_int (pe_has c_l_taken hr (by first | decide | exact Nat.le_refl _) (by rfl) (pa_cons (pv 0) (pa_cons (pv 1) pa_nil)))) (pa_cons pe_dnewT pa_nil))) (pg_tup rfl (pgs_cons (pg_name (i := 3) sc_l_net.nd rfl (.inl rfl)) (pgs_cons (pg_name (i := 4) sc_l_net.nd rfl (.inr rfl)) pgs_nil))))
    (pss_cons (ps_for PassesOwn.never rfl (pi_range2 (by rfl) B.range (pa_cons pe_int (pa_cons (pv 3) pa_nil))) (pg_name (i := 5) sc_l_net.nd rfl (.inl rfl))
    (pss_one (ps_dput (hu_of hr) (pv 4) (pe_tup (pa_cons (pe_has c_l_taken hr (by first | decide | exact Nat.le_refl _) (by rfl) (pa_cons (pv 0) (pa_cons (pv 5) pa_nil))) (pa_cons (pv 5) pa_nil))) (pe_op op_add pe_int (pe_has c_l_taken hr (by first | decide | exact Nat.le_refl _) (by rfl) (pa_cons (pv 0) (pa_cons (pv 2) pa_nil)))) rfl)))
    (pss_cons (ps_for PassesOwn.never rfl (pi_range1 (by rfl) B.range (pa_cons (pe_ifExp (pt_cmpR op_gt (pv 3) pe_int (nomark _)) (pe_has c_l_taken hr (by first | decide | exact Nat.le_refl _) (by rfl) (pa_cons (pv 0) (pa_cons pe_int pa_nil))) pe_int) pa_nil)) (pg_name (i := 6) sc_l_net.nd rfl (.inl rfl))
    (pss_cons (ps_par (i := 7) (j := 8) (by rfl) sc_l_net.nd rfl rfl (by decide) rfl rfl (pa_cons (pe_has c_l_taken hr (by first | decide | exact Nat.le_refl _) (by rfl) (pa_cons (pv 0) (pa_cons (pv 3) pa_nil))) (pa_cons (pe_has c_l_taken hr (by first | decide | exact Nat.le_refl _) (by rfl) (pa_cons (pv 0) (pa_cons (pv 3) pa_nil))) pa_nil)) (by rfl))
    (pss_one (ps_if (pt_cmpR op_ne (pv 7) (pv 8) (nomark _)) (pss_one (ps_dput (hu_of hr) (pv 4) (pe_tup (pa_cons (pe_callB (call_min2 rfl) (by rfl) B.min boot_min (pa_cons (pv 7) (pa_cons (pv 8) pa_nil))) (pa_cons (pe_callB (call_max2 rfl) (by rfl) B.max boot_max (pa_cons (pv 7) (pa_cons (pv 8) pa_nil))) pa_nil))) (pe_op op_add pe_int (pe_has c_l_taken hr (by first | decide | exact Nat.le_refl _) (by rfl) (pa_cons (pv 0) (pa_cons (pv 2) pa_nil)))) rfl)) pss_nil))))
    (pss_one (ps_ret (pe_tup (pa_cons (pv 3) (pa_cons (pe_callTy call_tuple_of (by rfl) B.tuple boot_tuple (pa_cons (pe_lc (own := [("_law_one", 7), ("_law_other", 8)]) (by rfl) sc_l_net.nd (pi_list (pe_callB (cr_sortT rfl (room30 hr)) (by rfl) B.sorted boot_sorted (pa_cons (pv 4) pa_nil))) (blkOk_by (N := nm_l_net) (own := [("_law_one", 7), ("_law_other", 8)]) (sc := defScope st_l_net) (by decide +kernel)) (fun _ _ _ _ _ => (pg_tupK K 2 rfl rfl (pgs_cons (pg_name (i := 7) sc_l_net.nd rfl (by first | exact Or.inl rfl | exact Or.inr rfl)) (pgs_cons (pg_name (i := 8) sc_l_net.nd rfl (by first | exact Or.inl rfl | exact Or.inr rfl)) pgs_nil)))) (fun _ _ _ _ _ => pts_nil) (fun _ _ _ _ _ => (pe_tup (pa_cons (pv 7) (pa_cons (pv 8) (pa_cons (pe_dget (hu_of hr) (pv 4) (pe_tup (pa_cons (pv 7) (pa_cons (pv 8) pa_nil))) (fun _ _ => rfl)) pa_nil)))))) pa_nil)) pa_nil)))))))), ?_⟩
    refine ⟨_, rfl, _, rfl, a, 8, rfl, by decide, by decide, hR, fun o0 r0 hr0 R0 => ⟨_, _, rfl, rfl, fun d nd0 => ?_⟩⟩
    dsimp only
    rw [one_add]
    have n1 : 1 ≤ 1 + r0 := by omega
    have n8 : 1 + r0 ≤ 8 := by omega
    generalize 1 + r0 = n at n1 n8
    have k0 : Keep a H (upd H a o0) := keep_upd
    have dna : d ≠ a := R0.ne_new nd0
    have nd : H d = none := keep_free k0 dna nd0
    have sd := same_new (o := .dT []) nd0
    refine ⟨by show 2 ≤ sizeLine; decide, fun t0 nt0 => ⟨t0, _, rfl, SqT.of upd_same, rfl, _, _, rfl, _, _, rfl, rfl, ?_⟩⟩
    have st0 := same_new (o := .tup [vN n, V.ref d]) nt0
    have I0 : NetI K H (upd (upd (upd H a o0) d (.dT [])) t0 (.tup [vN n, V.ref d])) a d n 1 0 :=
      ⟨k0.trans (keep_same (sd.trans st0)), R0.same (sd.trans st0), [], st0 _ _ upd_same, ⟨(fun r hr => nomatch hr), List.nodup_nil, Nat.le_refl _, fun j j1 j2 => by omega⟩⟩
    -- a rod to each place
    refine ⟨_, rfl, _, _, rfl, ⟨by decide, by decide, by omega, by omega⟩, for_it (walk_range1 (l := 1) rfl) (fun i σ H1 => NetI K H H1 a d n (1 + i) i ∧ ∃ y5 y6, σ = [some (.ref a), some (.int 8), some (vN long), some (vN n), some (.ref d), y5, y6, none, none])
      ⟨I0, none, none, rfl⟩ (fun _ _ _ _ _ => trivial) (fun i x σ H1 H2 hi p y => ?_) (fun σ H1 p => ?_)⟩
    · obtain ⟨I1, y5, y6, rfl⟩ := p
      obtain ⟨rfl, rfl⟩ := y
      have hi : 1 + i < n := by omega
      refine ⟨_, rfl, _, rfl, a, long, rfl, l1, by omega, I1.row, fun o1 r1 hr1 R1 => ⟨_, _, rfl, rfl, _, rfl, ?_⟩⟩
      have I2 := I1.draw R1
      refine ⟨_, rfl, _, rfl, a, 1 + i, rfl, by omega, by omega, R1, fun o2 r2 hr2 R2 => ⟨_, rfl, by show 2 ≤ sizeLine; decide, fun T nT => ?_⟩⟩
      have sT := same_new (o := .tup [vN r2, vN (1 + i)]) nT
      have I3 := (I2.draw R2).same sT
      obtain ⟨es, e3, d3⟩ := I3.dict
      have fw := d3.few
      refine ⟨d, _, rfl, DPut.t (k := [.inl (r2 : Int), .inl ((1 + i : Nat) : Int)]) e3 upd_same (small (by unfold kvR; rw [List.length_map]; omega)), ?_⟩
      dsimp only
      rw [one_add, putK_R]
      exact ⟨I3.put nd e3 (d3.putTree (x := r2) (l := 1 + r1) (by omega) hi (by omega) (by omega)), _, _, rfl⟩
    · obtain ⟨I1, y5, y6, rfl⟩ := p
      have I1 : NetI K H H1 a d n (1 + (n - 1)) (n - 1) := by
        have e : ((n : Int) - 1).toNat = n - 1 := by omega
        rw [e] at I1
        exact I1
      have I1 : NetI K H H1 a d n n 7 := by
        obtain ⟨es, e, q⟩ := I1.dict
        have e1 : 1 + (n - 1) = n := by omega
        rw [e1] at q
        exact ⟨I1.keep, I1.row, es, e, q.rod, q.nd, by have := q.few; omega, q.tree⟩
      -- some more
      dsimp only
      refine viaIf (fun v H2 => NetI K H H2 a d n n 7 ∧ ∃ m : Nat, m ≤ 3 ∧ v = vN m) (fun v H2 z => ?_) (fun key => ?_)
      · obtain ⟨I2, m, m3, rfl⟩ := z
        refine ⟨_, rfl, by omega, by omega, for_it walk_range0 (fun i σ H1 => NetI K H H1 a d n n (7 + i) ∧ ∃ y5 y6 y7 y8, σ = [some (.ref a), some (.int 8), some (vN long), some (vN n), some (.ref d), y5, y6, y7, y8])
          ⟨I2, _, _, none, none, rfl⟩ (fun _ _ _ _ _ => trivial) (fun i x σ H1 H2 hi p y => ?_) (fun σ H1 p => ?_)⟩
        · obtain ⟨I1, y5, y6, y7, y8, rfl⟩ := p
          obtain ⟨rfl, rfl⟩ := y
          have hi : i < m := hi
          refine ⟨_, rfl, _, rfl, a, n, rfl, n1, by omega, I1.row, fun o1 r1 hr1 R1 => ⟨_, rfl, _, rfl, a, n, rfl, n1, by omega, R1, fun o2 r2 hr2 R2 => ⟨_, _, rfl, ?_⟩⟩⟩
          have I2 := (I1.draw R1).draw R2
          refine ⟨_, rfl, _, rfl, rfl, _, rfl, ?_⟩
          show if (!decide (vN r1 = vN r2)) = true then _ else _
          by_cases e12 : r1 = r2
          · obtain ⟨es, e, q⟩ := I2.dict
            exact iteNS (congrArg vN e12) ⟨⟨I2.keep, I2.row, es, e, q.rod, q.nd, by have := q.few; omega, q.tree⟩, _, _, _, _, rfl⟩
          · refine iteNN (fun z => e12 (Int.ofNat.inj (V.int.inj z))) ⟨_, rfl, _, rfl, a, long, rfl, l1, by omega, R2, fun o3 r3 hr3 R3 => ⟨_, _, rfl, rfl, _, rfl, ?_⟩⟩
            have I3 := I2.draw R3
            refine ⟨_, rfl, _, rfl, _, _, rfl, _, rfl, _, rfl, _, _, rfl, by show 2 ≤ sizeLine; decide, fun T nT => ?_⟩
            rw [minN, maxN]
            have sT := same_new (o := .tup [vN (min r1 r2), vN (max r1 r2)]) nT
            have I4 := I3.same sT
            obtain ⟨es, e4, d4⟩ := I4.dict
            have fw := d4.few
            refine ⟨d, _, rfl, DPut.t (k := [.inl ((min r1 r2 : Nat) : Int), .inl ((max r1 r2 : Nat) : Int)]) e4 upd_same (small (by unfold kvR; rw [List.length_map]; omega)), ?_⟩
            dsimp only
            rw [one_add, putK_R]
            exact ⟨I4.put nd e4 (d4.put (l := 1 + r3) (by omega) (by omega) (by omega) (by omega)), _, _, _, _, rfl⟩
        · obtain ⟨I1, y5, y6, y7, y8, rfl⟩ := p
          have I1 : NetI K H H1 a d n n (7 + m) := I1
          obtain ⟨es, e1, d1⟩ := I1.dict
          have N := dictOk_net (b := 10) ⟨d1.rod, d1.nd, by have := d1.few; omega, d1.tree⟩ n1 n8 (by decide)
          refine ⟨_, rfl, _, rfl, d, es.map fun r => (((r.1 : Int), (r.2.1 : Int)), vN r.2.2), rfl, .inl (by rw [← kvR_P]; exact e1), fun bs b1 b2 p np => ?_⟩
          have sp := same_new (o := .lst ((sortD bs).map Prod.fst)) np
          have b1' : bs.map Prod.snd = es.map fun r => encP (keyR r) := by
            rw [b1]
            unfold dP
            rw [List.map_map]
            rfl
          have e3 := sortD_map (enc := fun r : Rod => encP (keyR r)) (le := leR) b1' fun a _ b _ => dlt_P a b
          have dA : DpAll K (upd H1 p (.lst ((sortD bs).map Prod.fst))) ((sortD bs).map Prod.fst) ((es.mergeSort leR).map fun r => encP (keyR r)) := by
            rw [← e3]
            exact dpa_same sp _ _ (dpa_of_pairs fun b hb => b2 b (sortD_mem.mp hb))
          have lx : ((sortD bs).map Prod.fst).length = (es.mergeSort leR).length := by
            have := dpa_len dA
            rwa [List.length_map (f := fun r => encP (keyR r))] at this
          have fw := N.few
          refine ⟨p, rfl, ⟨_, .inl (.inl upd_same)⟩, fun D nD => ?_⟩
          refine lc_lfY (K := K) (es.mergeSort leR) (walk_list (xs := (sortD bs).map Prod.fst)) lx (small (by omega)) nD encR lf_encR (fun H3 s3 => s3.seq (.inl (.inl upd_same))) (fun i e x H3 H4 NY he s3 y ky => ?_) (fun H3 vs s3 eD dB => ?_) g_two
          · obtain ⟨rfl, hx⟩ := y
            obtain ⟨e', he', de⟩ := dpa_getMV dA hx
            rw [he] at he'
            cases he'
            obtain ⟨c, rfl, hC⟩ := dp_encP (dp_same s3 _ _ de)
            refine ⟨c, _, rfl, hC, rfl, _, _, rfl, _, _, rfl, rfl, rfl, ?_⟩
            refine ⟨_, rfl, _, rfl, _, rfl, _, rfl, _, rfl, by show 2 ≤ sizeLine; decide, fun T nT => ?_⟩
            have sT := same_new (o := .tup [vN e.1, vN e.2.1]) nT
            have em : e ∈ es := (List.mergeSort_perm es leR).mem_iff.mp (List.mem_of_getElem? he)
            have dg := DGet.t (k := [.inl (e.1 : Int), .inl (e.2.1 : Int)]) ((sp.trans (s3.trans sT)) _ _ e1) (b := T) upd_same
            rw [valV_R d1.nd em] at dg
            refine ⟨d, _, rfl, dg, by show 3 ≤ sizeLine; decide, fun R nR => ?_⟩
            have sR := same_new (o := .tup [vN e.1, vN e.2.1, vN e.2.2]) nR
            exact ky _ _ (sT.trans sR) (mk_encR (SqT.of upd_same))
          · refine ⟨D, vs, rfl, .inl ⟨.inl (.inl eD), fun T nT => ⟨by show 2 ≤ sizeLine; decide, fun R nR => ?_⟩⟩⟩
            have sT := same_new (o := .tup vs) nT
            have sR := same_new (o := .tup [vN n, V.ref T]) nR
            have sA := sp.trans (s3.trans (sT.trans sR))
            exact q _ _ n _ (I1.keep.trans (keep_same sA)) (I1.row.same sA) N (mk_encN (SqT.of upd_same) (SqT.of (sR _ _ upd_same)) (dpa_same (sT.trans sR) _ _ dB))
      · refine ⟨_, rfl, _, _, rfl, rfl, _, rfl, ite2 (fun c => ?_) (fun c => ?_)⟩
        · exact ⟨_, rfl, a, 4, rfl, by decide, by decide, I1.row, fun o1 r1 hr1 R1 => key _ _ ⟨I1.draw R1, r1, by omega, rfl⟩⟩
        · exact key _ _ ⟨I1, 0, by omega, rfl⟩
end
end Lk

set_option Elab.async false
set_option linter.all false
set_option maxRecDepth 100000
set_option maxHeartbeats 4000000
namespace Lk
open PySem PySem.Spec PyProof.Rows L2
section
variable {P : Program} {w : World} {K : PySem.W.Frag} {mg : Str → Option Value} {base : Heap}
/-- the rods of ds are done in turn r -/
structure BfR (n : Nat) (rods : List Rod) (D T : Nat → Nat → Nat) (r : Nat) (ds : List Rod) : Prop where
  ok : BfOk rods T
  prog : Prog n D T r
  done : ∀ e' ∈ ds, ∀ p, p < n → RodDone n D T r e' p
theorem ok_far (F : Std K mg "_law_far" st_l_far) (B : Bl mg) : Has P w K mg base 1 "_law_far" ["_law_net_here"] (spTable K) := by
  refine has_def F sc_l_far (fun _ _ _ _ _ _ us hl => match us, hl with | [_], _ => rfl) (fun vs H Q E h => ?_) (fun f cdv A outer s H vs Q E hr h => ?_)
  · obtain ⟨n, rods, v, rfl, _⟩ := h
    rfl
  · obtain ⟨n, rods, v, rfl, hv, N, q⟩ := h
    obtain ⟨a, b, xs, rfl, hA, hB, hX⟩ := dp_encN hv
    have hlen : xs.length = rods.length := by
      have := dpa_len hX
      rwa [List.length_map] at this
    have n1 := N.n1
    have n8 := N.n8
    have I := dist_ok N
    refine ⟨_, (pss_cons (ps_set (i := 1) sc_l_far.nd rfl (.inr rfl) (pe_ix ix_tup (pv 0) pe_int (fun _ _ => rfl)))
    (pss_cons (ps_setLc (i := 4) (own := [("_law_one", 2)]) (by rfl) sc_l_far.nd rfl rfl (sw_true rfl rfl rfl (by decide +kernel)) (pi_range1 (by rfl) B.range (pa_cons (pv 1) pa_nil)) (blkOk_by (N := nm_l_far) (own := [("_law_one", 2)]) (sc := defScope st_l_far) (by decide +kernel)) (fun _ _ _ _ _ => (pg_name (i := 2) sc_l_far.nd rfl (by first | exact Or.inl rfl | exact Or.inr rfl))) (fun _ _ _ _ _ => pts_nil) (fun _ _ _ _ _ => (pe_lc (own := [("_law_other", 3)]) (by rfl) sc_l_far.nd (pi_range1 (by rfl) B.range (pa_cons (pv 1) pa_nil)) (blkOk_by (by kernel_rfl)) (fun _ _ _ _ _ => (pg_name (i := 3) sc_l_far.nd rfl (by first | exact Or.inl rfl | exact Or.inr rfl))) (fun _ _ _ _ _ => pts_nil) (fun _ _ _ _ _ => (pe_ifExp (pt_cmpR op_eq (pv 2) (pv 3) (nomark _)) pe_int pe_int)))))
    (pss_cons (ps_for PassesOwn.never rfl (pi_range1 (by rfl) B.range (pa_cons (pv 1) pa_nil)) (pg_name (i := 5) sc_l_far.nd rfl (.inl rfl))
    (pss_one (ps_for PassesOwn.never rfl (pi_tup (pe_ix ix_tup (pv 0) pe_int (fun _ _ => rfl))) (pg_tup rfl (pgs_cons (pg_name (i := 2) sc_l_far.nd rfl (.inl rfl)) (pgs_cons (pg_name (i := 3) sc_l_far.nd rfl (.inl rfl)) (pgs_cons (pg_name (i := 6) sc_l_far.nd rfl (.inl rfl)) pgs_nil))))
    (pss_one (ps_for PassesOwn.never rfl (pi_range1 (by rfl) B.range (pa_cons (pv 1) pa_nil)) (pg_name (i := 7) sc_l_far.nd rfl (.inl rfl))
    (pss_cons (ps_asg (pe_callB (call_min2 rfl) (by rfl) B.min boot_min (pa_cons (pe_ix ix_list (pe_ix ix_list (pv 4) (pv 7) (fun _ _ => rfl)) (pv 2) (fun _ _ => rfl)) (pa_cons (pe_op op_add (pe_ix ix_list (pe_ix ix_list (pv 4) (pv 7) (fun _ _ => rfl)) (pv 3) (fun _ _ => rfl)) (pv 6)) pa_nil))) (pg_sub (pe_ix ix_list (pv 4) (pv 7) (fun _ _ => rfl)) (pv 2) set_list))
    (pss_one (ps_asg (pe_callB (call_min2 rfl) (by rfl) B.min boot_min (pa_cons (pe_ix ix_list (pe_ix ix_list (pv 4) (pv 7) (fun _ _ => rfl)) (pv 3) (fun _ _ => rfl)) (pa_cons (pe_op op_add (pe_ix ix_list (pe_ix ix_list (pv 4) (pv 7) (fun _ _ => rfl)) (pv 2) (fun _ _ => rfl)) (pv 6)) pa_nil))) (pg_sub (pe_ix ix_list (pv 4) (pv 7) (fun _ _ => rfl)) (pv 3) set_list)))))))))
    (pss_one (ps_ret (pv 4)))))), ?_⟩
    refine ⟨_, rfl, a, _, 0, _, rfl, rfl, hA, rfl, ?_⟩
    -- found = [[..]]
    refine ⟨_, rfl, _, rfl, by omega, by omega, fun D nD => ?_⟩
    refine lc_it walk_range0 (fun i H1 => TabGrow H H1 D n 999 i) ⟨same_new nD, [], upd_same, rfl, List.nodup_nil, by simp, fun r hr => by simp at hr, fun i r h => by simp at h⟩ (fun _ _ _ _ => trivial) (fun i x H1 H2 hi g y => ?_) (fun H1 g => ?_)
    · obtain ⟨rfl, ex⟩ := y
      subst ex
      refine ⟨rfl, tYesI (iteT ?_)⟩
      refine ⟨_, rfl, _, rfl, by omega, by omega, fun D2 nD2 => ?_⟩
      refine lc_lfY (K := K) (List.range n) walk_range0 (by rw [List.length_range]; rfl) (by rw [List.length_range]; exact small (by omega)) nD2 (fun j => nI (if i = j then 0 else 999)) (fun _ => lf_int _) (fun _ _ => trivial) (fun j e x H3 H4 NY he s3 y ky => ?_) (fun H3 vs s3 eD dA => ?_) g_name
      · obtain ⟨rfl, ex⟩ := y
        subst ex
        obtain ⟨hj, rfl⟩ := range_at he
        refine ⟨rfl, _, rfl, _, rfl, rfl, _, rfl, ?_⟩
        by_cases c : i = e
        · subst c
          refine iteD rfl (ky _ _ (Same.refl _) ?_)
          rw [if_pos rfl]
          exact .int _
        · refine iteN (fun z => c (Int.ofNat.inj (V.int.inj z))) (ky _ _ (Same.refl _) ?_)
          rw [if_neg c]
          exact .int _
      · rw [dpa_natsM dA] at eD
        obtain ⟨rs, e1, l1, g2⟩ := g.next nD nD2 s3 eD
        exact ⟨_, e1, small (by rw [List.length_map]; omega), g2⟩
    · obtain ⟨rs, t0, fresh⟩ := g.tab nD
      have s1 := g.same
      have t0 : TabM H1 D rs n bf0 := t0
      obtain ⟨ok0, pr0⟩ := bf_start N I
      -- the turns
      refine ⟨_, rfl, _, rfl, by omega, by omega, for_it walk_range0 (fun k σ H2 => Same H H2 ∧ (∃ T, TabM H2 D rs n T ∧ BfOk rods T ∧ Prog n (dist n rods) T k) ∧ ∃ y2 y3 y5 y6 y7, σ = [some (.ref a), some (vN n), y2, y3, some (.ref D), y5, y6, y7])
        ⟨s1, ⟨_, t0, ok0, pr0⟩, none, none, none, none, none, rfl⟩ (fun _ _ _ _ _ => trivial) (fun k x σ H2 H3 hk p y => ?_) (fun σ H2 p => ?_)⟩
      · obtain ⟨s2, ⟨T, t2, ok2, pr2⟩, y2, y3, y5, y6, y7, rfl⟩ := p
        obtain ⟨rfl, ex⟩ := y
        subst ex
        have hk : k < n := hk
        -- the rods
        refine ⟨_, rfl, a, _, 1, _, rfl, rfl, same_seqT s2 hA, rfl, b, rfl, ⟨xs, same_seqT s2 hB⟩, for_it walk_tup (fun i σ H3 => Same H H3 ∧ (∃ T, TabM H3 D rs n T ∧ BfR n rods (dist n rods) T k (rods.take i)) ∧ ∃ y2 y3 y6 y7, σ = [some (.ref a), some (vN n), y2, y3, some (.ref D), some (vN k), y6, y7])
          ⟨s2, ⟨T, t2, ok2, pr2, fun e' h' => nomatch h'⟩, _, _, _, _, rfl⟩ (fun i σ H3 _ p => same_seqT p.1 hB) (fun i x σ H3 H4 hi p y => ?_) (fun σ H3 p => ?_)⟩
        · obtain ⟨s3, ⟨T, t3, R3⟩, y2, y3, y6, y7, rfl⟩ := p
          obtain ⟨rfl, hx⟩ := y
          obtain ⟨r, er, dr⟩ := dpa_getMV hX hx
          have mr := List.mem_of_getElem? er
          have rk := N.rod r.1 r.2.1 r.2.2 mr
          obtain ⟨c, rfl, hR⟩ := dp_encR (dp_same s3 _ _ dr)
          have tk : rods.take (i + 1) = rods.take i ++ [r] := by rw [List.take_add_one, er]; rfl
          rw [tk]
          generalize rods.take i = ds at R3
          refine ⟨c, _, rfl, hR, rfl, _, _, rfl, _, _, rfl, _, _, rfl, rfl, ?_⟩
          -- the places
          refine ⟨_, rfl, _, rfl, by omega, by omega, for_it walk_range0 (fun j σ H3 => Same H H3 ∧ (∃ T, TabM H3 D rs n T ∧ BfI n rods (dist n rods) T k ds r j) ∧ ∃ y7, σ = [some (.ref a), some (vN n), some (vN r.1), some (vN r.2.1), some (.ref D), some (vN k), some (vN r.2.2), y7])
            ⟨s3, ⟨T, t3, R3.ok, R3.prog, R3.done, fun p hp => absurd hp (Nat.not_lt_zero _)⟩, _, rfl⟩ (fun _ _ _ _ _ => trivial) (fun j x σ H3 H4 hj p y => ?_) (fun σ H3 p => ?_)⟩
          · obtain ⟨s4, ⟨T, t4, I4⟩, y7, rfl⟩ := p
            obtain ⟨rfl, ex⟩ := y
            subst ex
            have hj : j < n := hj
            have h1 : r.1 < n := by omega
            have h2 : r.2.1 < n := by omega
            obtain ⟨ri, e1, v1, w1⟩ := t4.at_ hj
            have f1 : H ri = none := fresh _ (List.mem_of_getElem? e1)
            refine ⟨_, rfl, _, rfl, D, _, _, _, rfl, rfl, .inl (.inl t4.top), at0 v1, _, rfl, ri, _, _, _, rfl, rfl, .inl (.inl w1), at0 (rangeAt _ h1), ?_⟩
            refine ⟨_, rfl, _, rfl, D, _, _, _, rfl, rfl, .inl (.inl t4.top), at0 v1, _, rfl, ri, _, _, _, rfl, rfl, .inl (.inl w1), at0 (rangeAt _ h2), _, rfl, _, _, rfl, rfl, ?_⟩
            refine ⟨_, _, rfl, ?_⟩
            rw [← Int.natCast_add, minN]
            refine ⟨_, rfl, _, rfl, D, _, _, _, rfl, rfl, .inl (.inl t4.top), at0 v1, _, rfl, ri, _, _, r.1, rfl, rfl, w1, ?_, ?_⟩
            · rw [lenRow]
              exact ixN_at h1
            have t5 := t4.set (v := min (T j r.1) (T j r.2.1 + r.2.2)) e1 h1
            have s5 := same_in (o := .lst (((List.range n).map fun k => vN (T j k)).set r.1 (vN (min (T j r.1) (T j r.2.1 + r.2.2))))) s4 f1
            obtain ⟨ri', e1', v1', w1'⟩ := t5.at_ hj
            have f1' : H ri' = none := fresh _ (List.mem_of_getElem? e1')
            refine ⟨_, rfl, _, rfl, D, _, _, _, rfl, rfl, .inl (.inl t5.top), at0 v1', _, rfl, ri', _, _, _, rfl, rfl, .inl (.inl w1'), at0 (rangeAt _ h2), ?_⟩
            refine ⟨_, rfl, _, rfl, D, _, _, _, rfl, rfl, .inl (.inl t5.top), at0 v1', _, rfl, ri', _, _, _, rfl, rfl, .inl (.inl w1'), at0 (rangeAt _ h1), _, rfl, _, _, rfl, rfl, ?_⟩
            refine ⟨_, _, rfl, ?_⟩
            rw [← Int.natCast_add, minN]
            refine ⟨_, rfl, _, rfl, D, _, _, _, rfl, rfl, .inl (.inl t5.top), at0 v1', _, rfl, ri', _, _, r.2.1, rfl, rfl, w1', ?_, ?_⟩
            · rw [lenRow]
              exact ixN_at h2
            exact ⟨same_in s5 f1', ⟨bfStep T r j, t5.set e1' h2, bf_turn N I4 mr hj⟩, _, rfl⟩
          · obtain ⟨s4, ⟨T, t4, I4⟩, y7, rfl⟩ := p
            have I4 : BfI n rods (dist n rods) T k ds r n := I4
            refine ⟨s4, ⟨T, t4, I4.ok, I4.prog, fun e' he' p hp => ?_⟩, _, _, _, _, rfl⟩
            rcases List.mem_append.mp he' with h | h
            · exact I4.done e' h p hp
            · rw [List.mem_singleton.mp h]
              exact I4.cur p hp
        · obtain ⟨s3, ⟨T, t3, R3⟩, y2, y3, y6, y7, rfl⟩ := p
          rw [hlen, List.take_length] at R3
          exact ⟨s3, ⟨T, t3, R3.ok, bf_next I N R3.ok R3.prog R3.done⟩, _, _, _, _, _, rfl⟩
      · obtain ⟨s2, ⟨T, t2, ok2, pr2⟩, y2, y3, y5, y6, y7, rfl⟩ := p
        have pr2 : Prog n (dist n rods) T n := pr2
        exact ⟨_, rfl, q D H2 s2 ⟨rs, t2.congr fun i j hi hj => bf_end I N ok2 pr2 hi hj, nD, fresh⟩⟩
end
end Lk

set_option Elab.async false
set_option linter.all false
set_option maxRecDepth 100000
set_option maxHeartbeats 4000000
namespace Lk
open PySem PySem.Spec PyProof.Rows L2
def pairsTo (n k : Nat) : List (Nat × Nat) := (List.range k).flatMap (rowP n)
theorem pairsTo_n (n : Nat) : pairsTo n n = pairsN n := rfl
theorem pairsTo_next (n k : Nat) : pairsTo n (k + 1) = pairsTo n k ++ rowP n k := by
  unfold pairsTo
  rw [List.range_succ, List.flatMap_append]
  simp
theorem pairsTo_len {n : Nat} (h : n ≤ 8) : ∀ k, (pairsTo n k).length ≤ 8 * k
  | 0 => Nat.zero_le _
  | k + 1 => by
    rw [pairsTo_next, List.length_append]
    have := pairsTo_len h k
    have : (rowP n k).length ≤ 8 := by
      simp [rowP]
      omega
    omega
theorem range1_at {l m i e : Nat} (h : (List.range' l m)[i]? = some e) : i < m ∧ e = l + i := by
  have q := lt_of_at h
  rw [List.length_range'] at q
  rw [List.getElem?_range' q] at h
  have := Option.some.inj h
  exact ⟨q, by omega⟩
section
variable {P : Program} {w : World} {K : PySem.W.Frag} {mg : Str → Option Value} {base : Heap}
def spLPairs (K : PySem.W.Frag) : Sp := fun vs H Q _ => ∃ n : Nat, vs = [vN n] ∧ n ≤ 8 ∧ ∀ q H', Same H H' → ListAt K H H' q ((pairsN n).map encP) → Q (.ref q) H'
theorem ok_l_pairs (F : Std K mg "_law_pairs" st_l_pairs) (B : Bl mg) : Has P w K mg base 1 "_law_pairs" ["_law_many"] (spLPairs K) := by
  refine has_def F sc_l_pairs (fun _ _ _ _ _ _ us hl => match us, hl with | [_], _ => rfl) (fun vs H Q E h => ?_) (fun f cdv A outer s H vs Q E hr h => ?_)
  · obtain ⟨n, rfl, _⟩ := h
    rfl
  · obtain ⟨n, rfl, n8, q⟩ := h
    refine ⟨_, (pss_cons (ps_set (i := 1) sc_l_pairs.nd rfl (.inl rfl) (pe_lst pa_nil))
    (pss_cons (ps_for PassesOwn.never rfl (pi_range1 (by rfl) B.range (pa_cons (pv 0) pa_nil)) (pg_name (i := 2) sc_l_pairs.nd rfl (.inr rfl))
    (pss_one (ps_set (i := 1) sc_l_pairs.nd rfl (.inl rfl) (pe_op op_cat (pv 1) (pe_lc (own := [("_law_other", 3)]) (by rfl) sc_l_pairs.nd (pi_range2 (by rfl) B.range (pa_cons (pe_op op_add (pv 2) pe_int) (pa_cons (pv 0) pa_nil))) (blkOk_by (N := nm_l_pairs) (own := [("_law_other", 3)]) (sc := defScope st_l_pairs) (by decide +kernel)) (fun _ _ _ _ _ => (pg_name (i := 3) sc_l_pairs.nd rfl (by first | exact Or.inl rfl | exact Or.inr rfl))) (fun _ _ _ _ _ => pts_nil) (fun _ _ _ _ _ => (pe_tup (pa_cons (pv 2) (pa_cons (pv 3) pa_nil)))))))))
    (pss_one (ps_ret (pv 1))))), ?_⟩
    refine ⟨Nat.zero_le _, fun l0 nl0 => ?_⟩
    have s1 : Same H _ := same_new (o := .lst []) nl0
    refine ⟨_, rfl, _, rfl, by omega, by omega, for_it walk_range0 (fun k σ H1 => Same H H1 ∧ ∃ p y2, σ = [some (vN n), some (.ref p), y2, none] ∧ ListAt K H H1 p ((pairsTo n k).map encP))
      ⟨s1, l0, none, rfl, nl0, _, upd_same, .nil⟩ (fun _ _ _ _ _ => trivial) (fun k x σ H1 H2 hk z y => ?_) (fun σ H1 z => ?_)⟩
    · obtain ⟨s2, p, y2, rfl, np, xs, eP, dP⟩ := z
      obtain ⟨rfl, rfl⟩ := y
      have hk : k < n := hk
      have lx : xs.length = (pairsTo n k).length := by
        have := dpa_len dP
        rwa [List.length_map] at this
      have ll := pairsTo_len n8 k
      refine ⟨_, rfl, _, rfl, _, _, rfl, rfl, _, rfl, _, _, rfl, ⟨by omega, by omega, by omega, by omega⟩, fun D nD => ?_⟩
      refine lc_lfY (K := K) (List.range' (k + 1) (n - (k + 1))) (walk_range1 (l := k + 1) (by omega)) (by rw [List.length_range']; omega) (by rw [List.length_range']; exact small (by omega)) nD (fun j => encP (k, j)) (fun _ => lf_encP _) (fun _ _ => trivial) (fun i e x H3 H4 NY he s3 y ky => ?_) (fun H3 vs s3 eD dA => ?_) g_name
      · obtain ⟨rfl, rfl⟩ := y
        obtain ⟨_, rfl⟩ := range1_at he
        refine ⟨rfl, _, rfl, _, rfl, by show 2 ≤ sizeLine; decide, fun T nT => ?_⟩
        have sT := same_new (o := .tup [vN k, vN (k + 1 + i)]) nT
        exact ky _ _ sT (mk_encP (p := (k, k + 1 + i)) (SqT.of upd_same))
      · have lv : vs.length = n - (k + 1) := by
          have := dpa_len dA
          rwa [List.length_map, List.length_range'] at this
        refine ⟨p, D, xs, vs, rfl, rfl, s3 _ _ eP, eD, Nat.le_of_lt (small (by omega)), fun R nR => ?_⟩
        have sR := same_new (o := .lst (xs ++ vs)) nR
        refine ⟨s2.trans (s3.trans sR), R, _, rfl, s2.free (s3.free nR), _, upd_same, ?_⟩
        have : (pairsTo n (k + 1)).map encP = (pairsTo n k).map encP ++ (List.range' (k + 1) (n - (k + 1))).map fun j => encP (k, j) := by
          rw [pairsTo_next, List.map_append]
          unfold rowP
          rw [List.map_map]
          rfl
        rw [this]
        exact dpa_app (dpa_same (s3.trans sR) _ _ dP) (dpa_same sR _ _ dA)
    · obtain ⟨s2, p, y2, rfl, L⟩ := z
      exact ⟨_, rfl, q p H1 s2 L⟩
def spGaps (K : PySem.W.Frag) : Sp := fun vs H Q _ => ∃ (n : Nat) (D : Nat → Nat → Nat) (p : Addr) (u : V) (h : Nat → Nat), vs = [.ref p, u] ∧ TabR H p n D ∧ Dp K H u (encRow n h) ∧ n ≤ 8 ∧ ∀ q H', Same H H' → ListAt K H H' q ((bad n D h).map encP) → Q (.ref q) H'
theorem ok_gaps (F : Std K mg "_law_gaps" st_l_gaps) (B : Bl mg) (c_l_pairs : Has P w K mg base 1 "_law_pairs" ["_law_many"] (spLPairs K)) : Has P w K mg base 2 "_law_gaps" ["_law_far_here", "_law_row"] (spGaps K) := by
  refine has_def F sc_l_gaps (fun _ _ _ _ _ _ us hl => match us, hl with | [_, _], _ => rfl) (fun vs H Q E h => ?_) (fun f cdv A outer s H vs Q E hr h => ?_)
  · obtain ⟨n, D, p, u, h, rfl, _⟩ := h
    rfl
  · obtain ⟨n, T, p, u, h, rfl, hT, hu, n8, q⟩ := h
    obtain ⟨c, rfl, hC⟩ := dp_encRow hu
    have pc := pairsN_count n n8
    refine ⟨_, (pss_one (ps_ret (pe_lc (own := [("_law_pair", 2)]) (by rfl) sc_l_gaps.nd (pi_list (pe_has c_l_pairs hr (by first | decide | exact Nat.le_refl _) (by rfl) (pa_cons (pe_callB call_len_seq (by rfl) B.len PySem.boot_len (pa_cons (pv 1) pa_nil)) pa_nil))) (blkOk_by (N := nm_l_gaps) (own := [("_law_pair", 2)]) (sc := defScope st_l_gaps) (by decide +kernel)) (fun _ _ _ _ _ => (pg_name (i := 2) sc_l_gaps.nd rfl (by first | exact Or.inl rfl | exact Or.inr rfl))) (fun _ _ _ _ _ => (pts_one (pt_cmpR op_gt (pe_callB call_abs (by rfl) B.abs boot_abs (pa_cons (pe_op op_sub (pe_ix (kIx (rIxT K) ix_tup) (pv 1) (pe_ix (kIx (rIxT K) ix_tup) (pv 2) pe_int (fun _ _ => rfl)) (fun _ _ => rfl)) (pe_ix (kIx (rIxT K) ix_tup) (pv 1) (pe_ix (kIx (rIxT K) ix_tup) (pv 2) pe_int (fun _ _ => rfl)) (fun _ _ => rfl))) pa_nil)) (pe_ix (kIx (rIxL K) ix_list) (pe_ix (kIx (rIxL K) ix_list) (pv 0) (pe_ix (kIx (rIxT K) ix_tup) (pv 2) pe_int (fun _ _ => rfl)) (fun _ _ => rfl)) (pe_ix (kIx (rIxT K) ix_tup) (pv 2) pe_int (fun _ _ => rfl)) (fun _ _ => rfl)) (nomark _)))) (fun _ _ _ _ _ => (pv 2))))), ?_⟩
    refine ⟨_, rfl, c, _, rfl, .inr hC, ?_⟩
    rw [lenRow]
    refine ⟨n, rfl, n8, fun l H1 s1 ⟨nl, ps, eL, dL⟩ => ?_⟩
    have lx : ps.length = (pairsN n).length := by
      have := dpa_len dL
      rwa [List.length_map] at this
    refine ⟨l, rfl, ⟨ps, .inl (.inl eL)⟩, fun D nD => ?_⟩
    refine lc_lf (K := K) (pairsN n) (walk_list (xs := ps)) lx (small (by omega)) nD (fun z => if gap T h z = true then some (encP z) else none)
      (fun e d hd => by
        split at hd
        · cases hd
          exact lf_encP _
        · cases hd) (fun H3 s3 => s3.seq (.inl (.inl eL))) (fun i e x H3 H4 NY NN he s3 y ky kn => ?_) (fun H3 vs s3 eD dA => ?_)
    · obtain ⟨rfl, hx⟩ := y
      obtain ⟨e', he', de⟩ := dpa_getMV dL hx
      rw [he] at he'
      cases he'
      have de3 := dp_same s3 _ _ de
      obtain ⟨t, rfl, hE⟩ := dp_encP de3
      have lt := mem_pairsN.mp (List.mem_of_getElem? he)
      have hC3 := same_seqT (s1.trans s3) hC
      have h1 : e.1 < n := by omega
      obtain ⟨ts, r, eT, aT, eR⟩ := (hT.same (s1.trans s3)).at2 h1
      refine ⟨rfl, _, rfl, _, rfl, t, _, 0, _, rfl, rfl, hE, rfl, c, _, _, _, rfl, rfl, hC3, at0 (rangeAt (fun i => vN (h i)) h1), ?_⟩
      refine ⟨_, rfl, _, rfl, t, _, 1, _, rfl, rfl, hE, rfl, c, _, _, _, rfl, rfl, hC3, at0 (rangeAt (fun i => vN (h i)) lt.2), _, _, rfl, rfl, _, rfl, ?_⟩
      refine ⟨_, rfl, _, rfl, t, _, 0, _, rfl, rfl, hE, rfl, p, _, _, _, rfl, rfl, .inl (.inl eT), at0 aT, ?_⟩
      refine ⟨_, rfl, t, _, 1, _, rfl, rfl, hE, rfl, r, _, _, _, rfl, rfl, .inl (.inl eR), at0 (rangeAt (fun j => vN (T e.1 j)) lt.2), _, _, rfl, rfl, _, rfl, ?_⟩
      have gv := gapV T h e.1 e.2
      rw [gv]
      cases g : gap T h (e.1, e.2) with
      | true => exact iteT ⟨_, rfl, ky _ _ _ (Same.refl _) (by rw [show gap T h e = true from g]; rfl) de3⟩
      | false => exact iteF (kn _ (Same.refl _) (by rw [show gap T h e = false from g]; rfl))
    · rw [filterMap_if] at dA
      exact q D H3 (s1.trans s3) ⟨s1.free nD, vs, eD, dA⟩
def spLSets (K : PySem.W.Frag) : Sp := spSubsets K
theorem ok_l_sets (F : Std K mg "_law_sets" st_l_sets) (B : Bl mg) : Has P w K mg base 1 "_law_sets" ["_law_many"] (spSubsets K) := by
  refine has_def F sc_l_sets (fun _ _ _ _ _ _ us hl => match us, hl with | [_], _ => rfl) (fun vs H Q E h => ?_) (fun f cdv A outer s H vs Q E hr h => ?_)
  · obtain ⟨n, rfl, _⟩ := h
    rfl
  · obtain ⟨n, rfl, n8, q⟩ := h
    refine ⟨_, (pss_cons (ps_set (i := 1) sc_l_sets.nd rfl (.inl rfl) (pe_lst (pa_cons (pe_tup pa_nil) pa_nil)))
    (pss_cons (ps_for PassesOwn.never rfl (pi_range1 (by rfl) B.range (pa_cons (pv 0) pa_nil)) (pg_name (i := 2) sc_l_sets.nd rfl (.inr rfl))
    (pss_one (ps_set (i := 1) sc_l_sets.nd rfl (.inl rfl) (pe_op op_cat (pv 1) (pe_lc (own := [("_law_told", 3)]) (by rfl) sc_l_sets.nd (pi_list (pv 1)) (blkOk_by (N := nm_l_sets) (own := [("_law_told", 3)]) (sc := defScope st_l_sets) (by decide +kernel)) (fun _ _ _ _ _ => (pg_name (i := 3) sc_l_sets.nd rfl (by first | exact Or.inl rfl | exact Or.inr rfl))) (fun _ _ _ _ _ => pts_nil) (fun _ _ _ _ _ => (pe_op (kOp (rCatA K) op_catA) (pv 3) (pe_tup (pa_cons (pv 2) pa_nil)))))))))
    (pss_one (ps_ret (pv 1))))), ?_⟩
    refine ⟨Nat.zero_le _, fun t0 nt0 => ⟨by show 1 ≤ sizeLine; decide, fun l0 nl0 => ?_⟩⟩
    have s0 : Same H (upd H t0 (.tup [])) := same_new nt0
    have s1 : Same (upd H t0 (.tup [])) _ := same_new (o := .lst [V.ref t0]) nl0
    refine ⟨_, rfl, _, rfl, by omega, by omega, for_it walk_range0 (fun k σ H1 => Same H H1 ∧ ∃ p y2, σ = [some (vN n), some (.ref p), y2, none] ∧ ListAt K H H1 p ((subsN k).map encT))
      ⟨s0.trans s1, l0, none, rfl, s0.free nl0, _, upd_same, dpa_one (mk_encT (s := []) (SqT.of (s1 _ _ upd_same)))⟩ (fun _ _ _ _ _ => trivial) (fun k x σ H1 H2 hk z y => ?_) (fun σ H1 z => ?_)⟩
    · obtain ⟨s2, p, y2, rfl, np, xs, eP, dP⟩ := z
      obtain ⟨rfl, rfl⟩ := y
      have hk : k < n := hk
      have cn := subsN_count8 (n := k) (by omega)
      have lx : xs.length = (subsN k).length := by
        have := dpa_len dP
        rwa [List.length_map] at this
      refine ⟨_, rfl, _, rfl, p, rfl, ⟨xs, .inl (.inl eP)⟩, fun D nD => ?_⟩
      refine lc_lfY (K := K) (subsN k) (walk_list (xs := xs)) lx (small (by omega)) nD (fun s => encT (s ++ [k])) (fun _ => lf_encT _) (fun H3 s3 => s3.seq (.inl (.inl eP))) (fun i e x H3 H4 NY he s3 y ky => ?_) (fun H3 vs s3 eD dA => ?_) g_name
      · obtain ⟨rfl, hx⟩ := y
        obtain ⟨e', he', de⟩ := dpa_getMV dP hx
        rw [he] at he'
        cases he'
        obtain ⟨a, rfl, hA⟩ := dp_encT (dp_same s3 _ _ de)
        refine ⟨rfl, _, rfl, _, rfl, by show 1 ≤ sizeLine; decide, fun T nT => ?_⟩
        have sT := same_new (o := .tup [vN k]) nT
        have em : (List.map vN e).length + ([vN k] : List V).length ≤ sizeLine := by
          have := subsN_le (List.mem_of_getElem? he)
          rw [List.length_map, List.length_singleton]
          exact Nat.le_of_lt (small (by omega))
        refine ⟨a, T, _, [vN k], rfl, rfl, same_seqT sT hA, SqT.of upd_same, em, fun e0 => ?_, (fun _ e1 => nomatch e1), fun _ _ R nR => ?_⟩
        · have : e = [] := by
            cases e with
            | nil => rfl
            | cons _ _ => cases e0
          subst this
          exact ky _ _ sT (mk_encT (s := [k]) (SqT.of upd_same))
        · have sR := same_new (o := .tup (List.map vN e ++ [vN k])) nR
          refine ky _ _ (sT.trans sR) (mk_encT ?_)
          rw [List.map_append]
          exact SqT.of upd_same
      · have lv : vs.length = (subsN k).length := by
          have := dpa_len dA
          rwa [List.length_map] at this
        refine ⟨p, D, xs, vs, rfl, rfl, s3 _ _ eP, eD, Nat.le_of_lt (small (by omega)), fun R nR => ?_⟩
        have sR := same_new (o := .lst (xs ++ vs)) nR
        refine ⟨s2.trans (s3.trans sR), R, _, rfl, s2.free (s3.free nR), _, upd_same, ?_⟩
        have : (subsN (k + 1)).map encT = (subsN k).map encT ++ (subsN k).map fun s => encT (s ++ [k]) := by
          show (subsN k ++ (subsN k).map (· ++ [k])).map encT = _
          rw [List.map_append, List.map_map]
          rfl
        rw [this]
        exact dpa_app (dpa_same (s3.trans sR) _ _ dP) (dpa_same sR _ _ dA)
    · obtain ⟨s2, p, y2, rfl, L⟩ := z
      exact ⟨_, rfl, q p H1 s2 L⟩
end
end Lk

set_option Elab.async false
set_option linter.all false
set_option maxRecDepth 100000
set_option maxHeartbeats 4000000
namespace Lk
open PySem PySem.Spec PyProof.Rows L2
/-- a table apart from a -/
def TabA (a : Addr) (H : Hp) (p : Addr) (n : Nat) (T : Nat → Nat → Nat) : Prop := ∃ rs, TabM H p rs n T ∧ p ≠ a ∧ a ∉ rs
theorem TabA.keep {a : Addr} {H H' : Hp} {p : Addr} {n : Nat} {T : Nat → Nat → Nat} (t : TabA a H p n T) (k : Keep a H H') : TabA a H' p n T := by
  obtain ⟨rs, m, h1, h2⟩ := t
  exact ⟨rs, ⟨k _ _ h1 m.top, m.len, m.nd, m.ne, fun i r hr => k _ _ (fun e => h2 (e ▸ List.mem_of_getElem? hr)) (m.row i r hr)⟩, h1, h2⟩
theorem TabA.r {a : Addr} {H : Hp} {p : Addr} {n : Nat} {T : Nat → Nat → Nat} (t : TabA a H p n T) : TabR H p n T := ⟨t.choose, t.choose_spec.1⟩
theorem Tab.a {K : PySem.W.Frag} {a : Addr} {H0 H : Hp} {p : Addr} {n : Nat} {T : Nat → Nat → Nat} (t : Tab H0 H p n T) (r : RowAt K H0 a) : TabA a H p n T := by
  obtain ⟨rs, m, h1, h2⟩ := t
  exact ⟨rs, m, r.ne_new h1, fun h => r.ne_new (h2 _ h) rfl⟩
/-- another list of ints is changed -/
theorem RowAt.ints {K : PySem.W.Frag} {H : Hp} {a d : Addr} {xs : List V} (r : RowAt K H a) (ne : d ≠ a) (h : H d = some (.lst xs)) (is : List Int) : RowAt K (upd H d (.lst (is.map V.int))) a := by
  obtain ⟨sc, ns, pos, seed, rest, e, q, r1⟩ := r
  have e' : upd H d (.lst (is.map V.int)) a = some (rowL sc pos seed rest) := by
    rw [upd_ne ne.symm]
    exact e
  by_cases c : sc = d
  · subst c
    exact ⟨sc, is, pos, seed, rest, e', .inl (.inl upd_same), r1⟩
  · refine ⟨sc, ns, pos, seed, rest, e', ?_, r1⟩
    rcases q with (q | ⟨ob, q⟩) | q
    · refine .inl (.inl ?_)
      rw [upd_ne c]
      exact q
    · refine .inl (.inr ⟨ob, ?_⟩)
      rw [upd_ne c]
      exact q
    · exact .inr q
section
variable {P : Program} {w : World} {K : PySem.W.Frag} {mg : Str → Option Value} {base : Heap}
def spSlope (K : PySem.W.Frag) : Sp := fun vs H Q _ => ∃ (a : Addr) (n : Nat) (rods : List Rod) (v : V) (most : Nat), vs = [.ref a, v, vN most] ∧ most ≤ 900 ∧ RowAt K H a ∧ Dp K H v (encN n rods) ∧ NetOk n rods ∧
  ∀ x H' h, Keep a H H' → RowAt K H' a → (∀ i, i < n → h i ≤ most) → Dp K H' x (encRow n h) → Q x H'
theorem ok_slope (F : Std K mg "_law_slope" st_l_slope) (B : Bl mg) (c_l_far : Has P w K mg base 1 "_law_far" ["_law_net_here"] (spTable K)) (c_l_taken : Has P w K mg base 1 "_law_taken" ["_law_row", "_law_many"] (spTaken K)) :
    Has P w K mg base 2 "_law_slope" ["_law_row", "_law_net_here", "_law_most"] (spSlope K) := by
  refine has_def F sc_l_slope (fun _ _ _ _ _ _ us hl => match us, hl with | [_, _, _], _ => rfl) (fun vs H Q E h => ?_) (fun f cdv A outer s H vs Q E hr h => ?_)
  · obtain ⟨a, n, rods, v, most, rfl, _⟩ := h
    rfl
  · obtain ⟨a, n, rods, v, most, rfl, m9, hR, hv, N, q⟩ := h
    have I := dist_ok N
    have n8 := N.n8
    refine ⟨_, (pss_cons (ps_asg (pe_tup (pa_cons (pe_has c_l_far hr (by first | decide | exact Nat.le_refl _) (by rfl) (pa_cons (pv 1) pa_nil)) (pa_cons (pe_lst pa_nil) pa_nil))) (pg_tup rfl (pgs_cons (pg_name (i := 3) sc_l_slope.nd rfl (.inr rfl)) (pgs_cons (pg_name (i := 4) sc_l_slope.nd rfl (.inr rfl)) pgs_nil))))
    (pss_cons (ps_for PassesOwn.never rfl (pi_range1 (by rfl) B.range (pa_cons (pe_ix ix_tup (pv 1) pe_int (fun _ _ => rfl)) pa_nil)) (pg_name (i := 5) sc_l_slope.nd rfl (.inr rfl))
    (pss_cons (ps_set (i := 6) sc_l_slope.nd rfl (.inl rfl) (pe_callB (cr_max rfl) (by rfl) B.max boot_max (pa_cons (pe_op op_cat (pe_lst (pa_cons pe_int pa_nil)) (pe_lc (own := [("_law_one", 8)]) (by rfl) sc_l_slope.nd (pi_range1 (by rfl) B.range (pa_cons (pv 5) pa_nil)) (blkOk_by (N := nm_l_slope) (own := [("_law_one", 8)]) (sc := defScope st_l_slope) (by decide +kernel)) (fun _ _ _ _ _ => (pg_name (i := 8) sc_l_slope.nd rfl (by first | exact Or.inl rfl | exact Or.inr rfl))) (fun _ _ _ _ _ => pts_nil) (fun _ _ _ _ _ => (pe_op op_sub (pe_ix (kIx (rIxL K) ix_list) (pv 4) (pv 8) (fun _ _ => rfl)) (pe_ix (kIx (rIxL K) ix_list) (pe_ix (kIx (rIxL K) ix_list) (pv 3) (pv 8) (fun _ _ => rfl)) (pv 5) (fun _ _ => rfl)))))) pa_nil)))
    (pss_cons (ps_set (i := 7) sc_l_slope.nd rfl (.inl rfl) (pe_callB (cr_min rfl) (by rfl) B.min boot_min (pa_cons (pe_op op_cat (pe_lst (pa_cons (pv 2) pa_nil)) (pe_lc (own := [("_law_one", 8)]) (by rfl) sc_l_slope.nd (pi_range1 (by rfl) B.range (pa_cons (pv 5) pa_nil)) (blkOk_by (N := nm_l_slope) (own := [("_law_one", 8)]) (sc := defScope st_l_slope) (by decide +kernel)) (fun _ _ _ _ _ => (pg_name (i := 8) sc_l_slope.nd rfl (by first | exact Or.inl rfl | exact Or.inr rfl))) (fun _ _ _ _ _ => pts_nil) (fun _ _ _ _ _ => (pe_op op_add (pe_ix (kIx (rIxL K) ix_list) (pv 4) (pv 8) (fun _ _ => rfl)) (pe_ix (kIx (rIxL K) ix_list) (pe_ix (kIx (rIxL K) ix_list) (pv 3) (pv 8) (fun _ _ => rfl)) (pv 5) (fun _ _ => rfl)))))) pa_nil)))
    (pss_one (ps_expr (pe_bm PySem.F.plainAttrs_list PySem.F.slot_list_append PySem.F.type_list_append mt_append (pv 4) (pa_cons (pe_op op_add (pv 6) (pe_has c_l_taken hr (by first | decide | exact Nat.le_refl _) (by rfl) (pa_cons (pv 0) (pa_cons (pe_op op_add (pe_op op_sub (pv 7) (pv 6)) pe_int) pa_nil)))) pa_nil)))))))
    (pss_one (ps_ret (pe_callTy call_tuple_of (by rfl) B.tuple boot_tuple (pa_cons (pv 4) pa_nil)))))), ?_⟩
    refine ⟨_, rfl, n, rods, v, rfl, hv, N, fun p H1 s1 t => ⟨Nat.zero_le _, fun fd nfd => ⟨by show 2 ≤ sizeLine; decide, fun T nT => ?_⟩⟩⟩
    have tA := t.a hR
    generalize dist n rods = D at I tA
    refine ⟨T, _, rfl, SqT.of upd_same, rfl, _, _, rfl, _, _, rfl, rfl, ?_⟩
    have sf := same_new (o := .lst []) nfd
    have sT := same_new (o := .tup [V.ref p, V.ref fd]) nT
    obtain ⟨b, b2, xs, rfl, hB, _, _⟩ := dp_encN hv
    have R1 := hR.same s1
    have fa : fd ≠ a := R1.ne_new nfd
    have kB : KeepT K H H1 := same_keepT s1
    refine ⟨_, rfl, b, _, 0, _, rfl, rfl, same_seqT (s1.trans (sf.trans sT)) hB, rfl, _, rfl, by omega, by omega, for_it walk_range0 (fun i σ H2 => Keep a H1 H2 ∧ RowAt K H2 a ∧ (∃ h, H2 fd = some (.lst ((List.range i).map fun j => vN (h j))) ∧ Fit D most h i) ∧ ∃ y5 y6 y7, σ = [some (.ref a), some (.ref b), some (vN most), some (.ref p), some (.ref fd), y5, y6, y7, none])
      ⟨keep_same (sf.trans sT), R1.same (sf.trans sT), ⟨fun _ => 0, sT _ _ upd_same, ⟨fun i hi => absurd hi (Nat.not_lt_zero _), fun i j hi => absurd hi (Nat.not_lt_zero _)⟩⟩, none, none, none, rfl⟩ (fun _ _ _ _ _ => trivial) (fun i x σ H2 H3 hi z y => ?_) (fun σ H2 z => ?_)⟩
    · obtain ⟨k2, R2, ⟨h, eF, F2⟩, y5, y6, y7, rfl⟩ := z
      obtain ⟨rfl, rfl⟩ := y
      have hi : i < n := hi
      have t2 := (tA.keep k2).r
      -- least
      refine ⟨by show 1 ≤ sizeLine; decide, fun Z nZ => ⟨_, rfl, _, rfl, by omega, by omega, fun D2 nD2 => ?_⟩⟩
      have sZ := same_new (o := .lst [V.int 0]) nZ
      refine lc_lfY (K := K) (List.range i) walk_range0 (by rw [List.length_range]; rfl) (by rw [List.length_range]; exact small (by omega)) nD2 (fun j => .int ((h j : Int) - (D j i : Int))) (fun _ => lf_int _) (fun _ _ => trivial) (fun j e x H4 H5 NY he s4 y ky => ?_) (fun H4 ws s4 eD2 dA2 => ?_) g_name
      · obtain ⟨rfl, rfl⟩ := y
        obtain ⟨hj, rfl⟩ := range_at he
        obtain ⟨ts, r, eT, aT, eR⟩ := (t2.same (sZ.trans s4)).at2 (i := e) (by omega)
        exact ⟨rfl, _, rfl, _, rfl, fd, _, _, _, rfl, rfl, .inl (.inl (s4 _ _ (sZ _ _ eF))), at0 (rangeAt (fun j => vN (h j)) hj), _, rfl, _, rfl, p, _, _, _, rfl, rfl, .inl (.inl eT), at0 aT, _, rfl, r, _, _, _, rfl, rfl, .inl (.inl eR), at0 (rangeAt (fun j => vN (D e j)) hi), _, _, rfl, rfl, ky _ _ (Same.refl _) (.int _)⟩
      · rw [dpa_intsM dA2] at eD2
        refine ⟨Z, D2, _, _, rfl, rfl, s4 _ _ upd_same, eD2, Nat.le_of_lt (small (by simp; omega)), fun S nS => ?_⟩
        have sS := same_new (o := .lst ([V.int 0] ++ ((List.range i).map fun j => ((h j : Int) - (D j i : Int))).map V.int)) nS
        refine ⟨S, 0 :: (List.range i).map fun j => ((h j : Int) - (D j i : Int)), rfl, .inl (.inl upd_same), Nat.succ_pos _, fun m hm1 hm2 => ?_⟩
        have s5 := sZ.trans (s4.trans sS)
        -- limit
        refine ⟨_, rfl, by show 1 ≤ sizeLine; decide, fun Z2 nZ2 => ⟨_, rfl, _, rfl, by omega, by omega, fun D3 nD3 => ?_⟩⟩
        have sZ2 := same_new (o := .lst [vN most]) nZ2
        have s6 := s5.trans sZ2
        refine lc_lfY (K := K) (List.range i) walk_range0 (by rw [List.length_range]; rfl) (by rw [List.length_range]; exact small (by omega)) nD3 (fun j => .int ((h j : Int) + (D j i : Int))) (fun _ => lf_int _) (fun _ _ => trivial) (fun j e x H6 H7 NY he s7 y ky => ?_) (fun H6 ws2 s7 eD3 dA3 => ?_) g_name
        · obtain ⟨rfl, rfl⟩ := y
          obtain ⟨hj, rfl⟩ := range_at he
          obtain ⟨ts, r, eT, aT, eR⟩ := (t2.same (s6.trans s7)).at2 (i := e) (by omega)
          exact ⟨rfl, _, rfl, _, rfl, fd, _, _, _, rfl, rfl, .inl (.inl (s7 _ _ (s6 _ _ eF))), at0 (rangeAt (fun j => vN (h j)) hj), _, rfl, _, rfl, p, _, _, _, rfl, rfl, .inl (.inl eT), at0 aT, _, rfl, r, _, _, _, rfl, rfl, .inl (.inl eR), at0 (rangeAt (fun j => vN (D e j)) hi), _, _, rfl, rfl, ky _ _ (Same.refl _) (.int _)⟩
        · rw [dpa_intsM dA3] at eD3
          refine ⟨Z2, D3, _, _, rfl, rfl, s7 _ _ upd_same, eD3, Nat.le_of_lt (small (by simp; omega)), fun S2 nS2 => ?_⟩
          have sS2 := same_new (o := .lst ([vN most] ++ ((List.range i).map fun j => ((h j : Int) + (D j i : Int))).map V.int)) nS2
          refine ⟨S2, (most : Int) :: (List.range i).map fun j => ((h j : Int) + (D j i : Int)), rfl, .inl (.inl upd_same), Nat.succ_pos _, fun lim hl1 hl2 => ?_⟩
          have s8 := s6.trans (s7.trans sS2)
          have room := fit_room I F2 hi hm1 hl1
          have m0 := hm2 0 (List.mem_cons_self ..)
          have lm := hl2 (most : Int) (List.mem_cons_self ..)
          have eF8 := s8 _ _ eF
          have em : (lim - m + 1 : Int) = ((lim - m + 1).toNat : Int) := by omega
          refine ⟨_, rfl, .inl ⟨rfl, _, .inl (.inl eF8)⟩, _, rfl, _, rfl, _, rfl, _, rfl, _, _, rfl, rfl, _, _, rfl, rfl, a, (lim - m + 1).toNat, congrArg (fun z : Int => [V.ref a, V.int z]) em, by omega, by omega, R2.same s8, fun o r hr R3 => ⟨_, _, rfl, rfl, ?_⟩⟩
          have k3 : Keep a H1 _ := k2.trans ((keep_same s8).trans (keep_upd (o := o)))
          have eF9 := keep_upd (o := o) fd _ fa eF8
          have hv9 : m + (r : Int) = ((m + r).toNat : Int) := by omega
          refine ⟨fd, _, _, rfl, rfl, eF9, small (by simp; omega), keep_in k3 nfd, ?_, ⟨fun j => if j = i then (m + r).toNat else h j, ?_, ?_⟩, _, _, _, rfl⟩
          · have R4 := R3.ints fa eF9 (((List.range i).map fun j => (h j : Int)) ++ [m + (r : Int)])
            have e4 : (((List.range i).map fun j => (h j : Int)) ++ [m + (r : Int)]).map V.int = ((List.range i).map fun j => vN (h j)) ++ [V.int (m + (r : Int))] := by
              rw [List.map_append, List.map_map]
              rfl
            rw [e4] at R4
            exact R4
          · rw [upd_same, List.range_succ, List.map_append]
            have e1 : ((List.range i).map fun j => vN (if j = i then (m + r).toNat else h j)) = (List.range i).map fun j => vN (h j) := List.map_congr_left fun j hj => by
              rw [if_neg (Nat.ne_of_lt (List.mem_range.mp hj))]
            rw [e1]
            show some (HO.lst (((List.range i).map fun j => vN (h j)) ++ [V.int (m + (r : Int))])) = some (HO.lst (((List.range i).map fun j => vN (h j)) ++ [vN (if i = i then (m + r).toNat else h i)]))
            rw [if_pos rfl, hv9]
            rfl
          · refine fit_next I F2 hi (fun j hj => if_neg (Nat.ne_of_lt hj)) (fun j hj => ?_) (fun j hj => ?_) ?_
            · have := hm2 _ (List.mem_cons_of_mem _ (List.mem_map.mpr ⟨j, List.mem_range.mpr hj, rfl⟩))
              show _ ≤ ((if i = i then (m + r).toNat else h i : Nat) : Int)
              rw [if_pos rfl]
              omega
            · have := hl2 _ (List.mem_cons_of_mem _ (List.mem_map.mpr ⟨j, List.mem_range.mpr hj, rfl⟩))
              show ((if i = i then (m + r).toNat else h i : Nat) : Int) ≤ _
              rw [if_pos rfl]
              omega
            · show (if i = i then (m + r).toNat else h i) ≤ _
              rw [if_pos rfl]
              omega
    · obtain ⟨k2, R2, ⟨h, eF, F2⟩, y5, y6, y7, rfl⟩ := z
      have eF : H2 fd = some (.lst ((List.range n).map fun j => vN (h j))) := eF
      have F2 : Fit D most h n := F2
      refine ⟨_, rfl, fd, _, rfl, .inl ⟨.inl (.inl eF), fun R nR => ?_⟩⟩
      have sR := same_new (o := .tup ((List.range n).map fun j => vN (h j))) nR
      exact q _ _ h ((keep_same s1).trans (k2.trans (keep_same sR))) (R2.same sR) F2.top (mk_encRow (SqT.of upd_same))
end
end Lk

set_option Elab.async false
set_option linter.all false
set_option maxRecDepth 100000
set_option maxHeartbeats 4000000
namespace Lk
open PySem PySem.Spec PyProof.Rows L2
theorem shapedL {ds : List PyData} (h : PyData.canLayAll0 ds = true) (h2 : PyData.depthAll ds ≤ 10) : SeqAt.shaped (.list ds) = true := by
  unfold SeqAt.shaped
  refine Bool.and_eq_true_iff.mpr ⟨?_, decide_eq_true ?_⟩
  · rw [PyData.canLay0]
    exact h
  · rw [PyData.depth]
    omega
theorem lay_P : ∀ ps : List (Nat × Nat), PyData.canLayAll0 (ps.map encP) = true
  | [] => by simp [PyData.canLayAll0]
  | p :: ps => by
    rw [List.map_cons, PyData.canLayAll0, lay_P ps]
    simp [encP, PyData.canLay0, PyData.canLayAll0]
theorem dep_P : ∀ ps : List (Nat × Nat), PyData.depthAll (ps.map encP) ≤ 1
  | [] => by simp [PyData.depthAll]
  | p :: ps => by
    have := dep_P ps
    rw [List.map_cons, PyData.depthAll]
    have : (encP p).depth = 1 := by simp [encP, PyData.depth, PyData.depthAll]
    omega
theorem lay_I : ∀ is : List Int, PyData.canLayAll0 (is.map .int) = true
  | [] => by simp [PyData.canLayAll0]
  | i :: is => by
    rw [List.map_cons, PyData.canLayAll0, lay_I is]
    simp [PyData.canLay0]
theorem dep_I : ∀ is : List Int, PyData.depthAll (is.map .int) ≤ 1
  | [] => by simp [PyData.depthAll]
  | i :: is => by
    have := dep_I is
    rw [List.map_cons, PyData.depthAll]
    have : (PyData.int i).depth = 0 := by simp [PyData.depth]
    omega
theorem shapedL_P (ps : List (Nat × Nat)) : SeqAt.shaped (.list (ps.map encP)) = true := shapedL (lay_P ps) (Nat.le_trans (dep_P ps) (by decide))
theorem shapedL_I (is : List Int) : SeqAt.shaped (.list (is.map .int)) = true := shapedL (lay_I is) (Nat.le_trans (dep_I is) (by decide))
theorem shapedL_nil : SeqAt.shaped (.list []) = true := by decide
theorem eqv_nilL (ds : List PyData) : PyData.eqv (.list ds) (.list []) = ds.isEmpty := by
  cases ds with
  | nil => simp [PyData.eqv, PyData.eqvAll]
  | cons p ps => simp [PyData.eqv, PyData.eqvAll]
theorem emp_map {α β : Type} (f : α → β) (l : List α) : (l.map f).isEmpty = l.isEmpty := by
  cases l <;> rfl
section
variable {P : Program} {w : World} {K : PySem.W.Frag} {mg : Str → Option Value} {base : Heap}
def spMost (K : PySem.W.Frag) (m : Nat) : Sp := fun vs H Q _ => ∃ (a : Addr) (xs : List V) (ps : List (Nat × Nat)), vs = [.ref a] ∧ H a = some (.lst xs) ∧ DpAll K H xs (ps.map encP) ∧ ps.length < m ∧ ps.length ≤ 1000 ∧ ∀ H', Same H H' → Q (vN (mt ps)) H'
theorem ok_most1 {m : Nat} (F : Std K mg "_law_most_pairs" st_l_most_pairs) (B : Bl mg) (c_l_most_pairs : Has P w K mg base m "_law_most_pairs" ["_law_pairs_here"] (spMost K m)) : Has P w K mg base (m + 1) "_law_most_pairs" ["_law_pairs_here"] (spMost K (m + 1)) := by
  refine has_def F sc_l_most_pairs (fun _ _ _ _ _ _ us hl => match us, hl with | [_], _ => rfl) (fun vs H Q E h => ?_) (fun f cdv A outer s H vs Q E hr h => ?_)
  · obtain ⟨a, xs, ps, rfl, _⟩ := h
    rfl
  · obtain ⟨a, xs, ps, rfl, eA, dA, lm, lk, q⟩ := h
    refine ⟨_, (pss_cons (ps_if (pt_cmpR (op_eqD hr.units) (pv 0) (pe_lst pa_nil) (nomark _)) (pss_one (ps_ret pe_int)) pss_nil)
    (pss_cons (ps_setLc (i := 1) (own := [("_law_pair", 2)]) (by rfl) sc_l_most_pairs.nd rfl rfl (sw_true rfl rfl rfl (by decide +kernel)) (pi_list (pv 0)) (blkOk_by (N := nm_l_most_pairs) (own := [("_law_pair", 2)]) (sc := defScope st_l_most_pairs) (by decide +kernel)) (fun _ _ _ _ _ => (pg_name (i := 2) sc_l_most_pairs.nd rfl (by first | exact Or.inl rfl | exact Or.inr rfl))) (fun _ _ _ _ _ => (pts_one (PW.pt (pw_and (pt_cmpR (kOp (rIn K true) op_notIn_seq) (pe_ix (kIx (rIxT K) ix_tup) (pe_ix (kIx (rIxL K) ix_list) (pv 0) pe_int (fun _ _ => rfl)) pe_int (fun _ _ => rfl)) (pv 2) rfl) (pw_and1 (pt_cmpR (kOp (rIn K true) op_notIn_seq) (pe_ix (kIx (rIxT K) ix_tup) (pe_ix (kIx (rIxL K) ix_list) (pv 0) pe_int (fun _ _ => rfl)) pe_int (fun _ _ => rfl)) (pv 2) rfl)))))) (fun _ _ _ _ _ => (pv 2)))
    (pss_one (ps_ret (pe_callB (call_max2 rfl) (by rfl) B.max boot_max (pa_cons (pe_has c_l_most_pairs hr (by first | decide | exact Nat.le_refl _) (by rfl) (pa_cons (pe_slice sl_list (pv 0) (po_some pe_int) po_none) pa_nil)) (pa_cons (pe_op op_add pe_int (pe_has c_l_most_pairs hr (by first | decide | exact Nat.le_refl _) (by rfl) (pa_cons (pv 1) pa_nil))) pa_nil))))))), ?_⟩
    refine ⟨_, rfl, Nat.zero_le _, fun T0 nT0 => ?_⟩
    have s0 := same_new (o := .lst []) nT0
    refine ⟨.list (ps.map encP), .list [], .lst (.inl (.inl (s0 _ _ eA))) (dpa_same s0 _ _ dA), .lst (.inl (.inl upd_same)) .nil, shapedL_P ps, shapedL_nil, _, rfl, ?_⟩
    rw [eqv_nilL, emp_map]
    cases ps with
    | nil =>
      refine iteT ?_
      have := q _ s0
      rw [mt_nil] at this
      exact this
    | cons p r =>
      refine iteF ?_
      have lx : xs.length = r.length + 1 := by
        have := dpa_len dA
        rwa [List.length_map] at this
      obtain ⟨v0, e0, d0⟩ := dpa_getM dA (i := 0) (e := p) rfl
      obtain ⟨b, rfl, hB⟩ := dp_encP (dp_same s0 _ _ d0)
      have eA0 := s0 _ _ eA
      -- rest
      refine ⟨_, rfl, a, rfl, ⟨xs, .inl (.inl eA0)⟩, fun D nD => ?_⟩
      refine lc_lf (K := K) (p :: r) (walk_list (xs := xs)) lx (small (by simpa using (show r.length + 1 ≤ 10000 from Nat.le_trans lk (by decide)))) nD (fun z => if apart p z = true then some (encP z) else none)
        (fun e d hd => by
          split at hd
          · cases hd
            exact lf_encP _
          · cases hd) (fun H3 s3 => .inl (.inl (s3 _ _ eA0))) (fun i e x H3 H4 NY NN he s3 y ky kn => ?_) (fun H3 vs s3 eD dD => ?_)
      · obtain ⟨rfl, hx⟩ := y
        obtain ⟨e', he', de⟩ := dpa_getMV dA hx
        rw [he] at he'
        cases he'
        have de3 := dp_same (s0.trans s3) _ _ de
        obtain ⟨t, rfl, hT⟩ := dp_encP de3
        have eA3 := (show SqL K _ a xs from .inl (.inl (s3 _ _ eA0)))
        have hB3 := same_seqT s3 hB
        refine ⟨rfl, _, rfl, a, _, 0, _, rfl, rfl, eA3, at0 e0, b, _, 0, _, rfl, rfl, hB3, rfl, _, rfl, t, _, rfl, .inr hT, rfl, flat_nats [e.1, e.2], _, rfl, ?_⟩
        have i1 : inV (vN p.1) [vN e.1, vN e.2] = [e.1, e.2].contains p.1 := inV_nats p.1 [e.1, e.2]
        have i2 : inV (vN p.2) [vN e.1, vN e.2] = [e.1, e.2].contains p.2 := inV_nats p.2 [e.1, e.2]
        have ap := apart_eq p e
        show if (!inV (vN p.1) [vN e.1, vN e.2]) = true then _ else _
        rw [i1]
        cases c1 : [e.1, e.2].contains p.1 with
        | true =>
          rw [c1] at ap
          exact iteF (iteF (kn _ (Same.refl _) (by rw [ap]; rfl)))
        | false =>
          refine iteT ⟨_, rfl, a, _, 0, _, rfl, rfl, eA3, at0 e0, b, _, 1, _, rfl, rfl, hB3, rfl, _, rfl, t, _, rfl, .inr hT, rfl, flat_nats [e.1, e.2], _, rfl, ?_⟩
          show if (!inV (vN p.2) [vN e.1, vN e.2]) = true then _ else _
          rw [i2]
          cases c2 : [e.1, e.2].contains p.2 with
          | true =>
            rw [c1, c2] at ap
            exact iteF (kn _ (Same.refl _) (by rw [ap]; rfl))
          | false =>
            rw [c1, c2] at ap
            exact iteT ⟨_, rfl, ky _ _ _ (Same.refl _) (by rw [ap]; rfl) de3⟩
      · rw [filterMap_if] at dD
        have lf1 : ((p :: r).filter (apart p)).length ≤ r.length := by
          rw [List.filter_cons_of_neg (by simp [apart])]
          exact List.length_filter_le _ _
        have lm : r.length + 1 < m + 1 := lm
        have lk : r.length + 1 ≤ 1000 := lk
        -- the greater of the two
        refine ⟨_, rfl, 1, rfl, a, xs, rfl, .inl (.inl (s3 _ _ eA0)), fun C nC => ?_⟩
        rw [cut1]
        have sC := same_new (o := .lst (xs.drop 1)) nC
        refine ⟨C, _, r, rfl, upd_same, dpa_same (s0.trans (s3.trans sC)) _ _ (by
          have := dpa_drop 1 dA
          exact this), by omega, by omega, fun H5 s5 => ?_⟩
        have s6 := sC.trans s5
        refine ⟨_, rfl, D, _, _, rfl, s6 _ _ eD, dpa_same s6 _ _ dD, by omega, by omega, fun H7 s7 => ⟨_, _, rfl, rfl, _, _, rfl, ?_⟩⟩
        have e1 : (1 : Int) + ((mt ((p :: r).filter (apart p)) : Nat) : Int) = ((1 + mt ((p :: r).filter (apart p)) : Nat) : Int) := by omega
        rw [e1, maxN, ← mt_cons]
        exact q _ (s0.trans (s3.trans (s6.trans s7)))
theorem ok_most (F : Std K mg "_law_most_pairs" st_l_most_pairs) (B : Bl mg) : ∀ m, Has P w K mg base m "_law_most_pairs" ["_law_pairs_here"] (spMost K m)
  | 0 => has_zero F (fun _ _ _ _ _ _ us hl => match us, hl with | [_], _ => rfl) fun vs H Q E h => by
    obtain ⟨a, xs, ps, _, _, _, l, _⟩ := h
    exact absurd l (Nat.not_lt_zero _)
  | m + 1 => ok_most1 F B (ok_most F B m)
end
end Lk

set_option Elab.async false
set_option linter.all false
set_option maxRecDepth 100000
set_option maxHeartbeats 4000000
namespace Lk
open PySem PySem.Spec PyProof.Rows L2
/-- data of ints, tuples and lists, below m deep -/
def AlOk : Nat → PyData → Prop
  | 0, _ => False
  | m + 1, d => (∃ i, d = .int i) ∨ ∃ ds, (d = .tuple ds ∨ d = .list ds) ∧ ds.length ≤ 1000 ∧ ∀ e ∈ ds, AlOk m e
structure SeqD (K : PySem.W.Frag) (H : Hp) (t : String) (a : Addr) (xs : List V) (ds : List PyData) : Prop where
  rd : SqL K H a xs ∨ SqT K H a xs
  ty : TyX K H (.ref a) (.type t)
  all : DpAll K H xs ds
structure KindT (K : PySem.W.Frag) (t : String) (b : Bool) : Prop where
  any : PySem.W.kitAny K (.type t) [.type "tuple", .type "list"] = some true
  one : PySem.W.kitOne K (.type t) (.type "list") = some b
theorem kind_tup (K : PySem.W.Frag) : KindT K "tuple" false := ⟨kitAny_cons (b := true) (kit_ty (by decide +kernel)) (fun e => nomatch e) fun _ => rfl, kit_ty (by decide +kernel)⟩
theorem kind_lst (K : PySem.W.Frag) : KindT K "list" true := ⟨kitAny_cons (b := false) (kit_ty (by decide +kernel)) (fun _ => kitAny_cons (b := true) (kit_ty (by decide +kernel)) (fun e => nomatch e) fun _ => rfl) (fun e => nomatch e), kit_ty (by decide +kernel)⟩
theorem kind_int (K : PySem.W.Frag) : PySem.W.kitAny K (.type "int") [.type "tuple", .type "list"] = some false := kitAny_cons (b := false) (kit_ty (by decide +kernel)) (fun _ => kitAny_cons (b := false) (kit_ty (by decide +kernel)) (fun _ => kitAny_nil) fun e => nomatch e) fun e => nomatch e
section
variable {P : Program} {w : World} {K : PySem.W.Frag} {mg : Str → Option Value} {base : Heap}
theorem dp_seq {H : Hp} {d : PyData} {ds : List PyData} (e : d = .tuple ds ∨ d = .list ds) : ∃ t b, KindT K t b ∧ ∀ v, Dp K H v d → ∃ a xs, v = .ref a ∧ ∀ H', Same H H' → SeqD K H' t a xs ds := by
  rcases e with rfl | rfl
  · refine ⟨_, _, kind_tup K, fun v h => ?_⟩
    obtain ⟨a, xs, rfl, q, dA⟩ := dp_tup h
    exact ⟨a, xs, rfl, fun H' s => ⟨.inr (same_seqT s q), tyX_tup (same_seqT s q), dpa_same s _ _ dA⟩⟩
  · refine ⟨_, _, kind_lst K, fun v h => ?_⟩
    obtain ⟨a, xs, rfl, q, dA⟩ := dp_lst h
    exact ⟨a, xs, rfl, fun H' s => ⟨.inl (s.seq q), tyX_lst (s.seq q), dpa_same s _ _ dA⟩⟩
theorem ix_of {H : Hp} {t : String} {a : Addr} {xs : List V} {ds : List PyData} {i : Nat} {x : V} {Q : VK} (h : SeqD K H t a xs ds) (e : xs[i]? = some x) (q : Q x H) : rIx K (.ref a) (vN i) H Q := by
  rcases h.rd with r | r
  · exact .inl ⟨a, _, _, _, rfl, rfl, r, at0 e, q⟩
  · exact .inr (.inl ⟨a, _, _, _, rfl, rfl, r, at0 e, q⟩)
def spAlike (K : PySem.W.Frag) (m : Nat) : Sp := fun vs H Q _ => ∃ (u v : V) (d : PyData), vs = [u, v] ∧ Dp K H u d ∧ Dp K H v d ∧ AlOk m d ∧ ∀ H', Same H H' → Q (.bl true) H'
theorem ok_alike1 {m : Nat} (F : Std K mg "_law_alike" st_l_alike) (B : Bl mg) (c_l_alike : Has P w K mg base m "_law_alike" ["_law_found", "_law_due"] (spAlike K m)) : Has P w K mg base (m + 1) "_law_alike" ["_law_found", "_law_due"] (spAlike K (m + 1)) := by
  refine has_def F sc_l_alike (fun _ _ _ _ _ _ us hl => match us, hl with | [_, _], _ => rfl) (fun vs H Q E h => ?_) (fun f cdv A outer s H vs Q E hr h => ?_)
  · obtain ⟨u, v, d, rfl, _⟩ := h
    rfl
  · obtain ⟨u, v, d, rfl, hu, hv, al, q⟩ := h
    refine ⟨_, (pss_cons (ps_if (pt_val (pe_callB call_isiT (by rfl) B.isi boot_isinstance (pa_cons (pv 1) (pa_cons (pe_tup (pa_cons (pe_bltn (v := .ty "tuple") (by rfl) B.tuple boot_tuple rfl) (pa_cons (pe_bltn (v := .ty "list") (by rfl) B.list boot_list rfl) pa_nil))) pa_nil)))) (pss_cons (ps_if (PW.pt (pw_or (pt_not (pt_val (pe_callB call_isiT (by rfl) B.isi boot_isinstance (pa_cons (pv 0) (pa_cons (pe_tup (pa_cons (pe_bltn (v := .ty "tuple") (by rfl) B.tuple boot_tuple rfl) (pa_cons (pe_bltn (v := .ty "list") (by rfl) B.list boot_list rfl) pa_nil))) pa_nil))))) (pw_or1 (pt_cmpR op_ne (pe_callB call_isi (by rfl) B.isi boot_isinstance (pa_cons (pv 0) (pa_cons (pe_bltn (v := .ty "list") (by rfl) B.list boot_list rfl) pa_nil))) (pe_callB call_isi (by rfl) B.isi boot_isinstance (pa_cons (pv 1) (pa_cons (pe_bltn (v := .ty "list") (by rfl) B.list boot_list rfl) pa_nil))) (nomark _))))) (pss_one (ps_ret pe_bl)) pss_nil)
    (pss_cons (ps_if (pt_cmpR op_ne (pe_callB call_len_seq (by rfl) B.len PySem.boot_len (pa_cons (pv 0) pa_nil)) (pe_callB call_len_seq (by rfl) B.len PySem.boot_len (pa_cons (pv 1) pa_nil)) (nomark _)) (pss_one (ps_ret pe_bl)) pss_nil)
    (pss_one (ps_ret (pe_cmpR (op_eqD hr.units) (pe_lc (own := [("_law_k", 2)]) (by rfl) sc_l_alike.nd (pi_range1 (by rfl) B.range (pa_cons (pe_callB call_len_seq (by rfl) B.len PySem.boot_len (pa_cons (pv 1) pa_nil)) pa_nil)) (blkOk_by (N := nm_l_alike) (own := [("_law_k", 2)]) (sc := defScope st_l_alike) (by decide +kernel)) (fun _ _ _ _ _ => (pg_name (i := 2) sc_l_alike.nd rfl (by first | exact Or.inl rfl | exact Or.inr rfl))) (fun _ _ _ _ _ => (pts_one (pt_not (pt_val (pe_has c_l_alike hr (by first | decide | exact Nat.le_refl _) (by rfl) (pa_cons (pe_ix (kIx (rIx K) ix_seq) (pv 0) (pv 2) (fun _ _ => rfl)) (pa_cons (pe_ix (kIx (rIx K) ix_seq) (pv 1) (pv 2) (fun _ _ => rfl)) pa_nil))))))) (fun _ _ _ _ _ => (pv 2))) (pe_lst pa_nil) (nomark _)))))) pss_nil)
    (pss_cons (ps_if (PW.pt (pw_or (pt_cmpR op_isN (pv 1) pe_non (nomark _)) (pw_or1 (pt_val (pe_callB call_isi (by rfl) B.isi boot_isinstance (pa_cons (pv 1) (pa_cons (pe_bltn (v := .ty "str") (by rfl) B.str boot_str rfl) pa_nil))))))) (pss_one (ps_ret (pe_and (pe_cmpR op_eq (pv 0) (pv 1) (nomark _)) (pe_one (pe_cmpR op_eq (pe_callB call_isi (by rfl) B.isi boot_isinstance (pa_cons (pv 0) (pa_cons (pe_bltn (v := .ty "str") (by rfl) B.str boot_str rfl) pa_nil))) (pe_callB call_isi (by rfl) B.isi boot_isinstance (pa_cons (pv 1) (pa_cons (pe_bltn (v := .ty "str") (by rfl) B.str boot_str rfl) pa_nil))) (nomark _)))))) pss_nil)
    (pss_one (ps_ret (pe_and (pe_callB call_isi (by rfl) B.isi boot_isinstance (pa_cons (pv 0) (pa_cons (pe_bltn (v := .ty "int") (by rfl) B.int boot_int rfl) pa_nil))) (pe_and (pe_cmpR op_eq (pe_callB call_isi (by rfl) B.isi boot_isinstance (pa_cons (pv 0) (pa_cons (pe_bltn (v := .ty "bool") (by rfl) B.bool boot_bool rfl) pa_nil))) (pe_callB call_isi (by rfl) B.isi boot_isinstance (pa_cons (pv 1) (pa_cons (pe_bltn (v := .ty "bool") (by rfl) B.bool boot_bool rfl) pa_nil))) (nomark _)) (pe_one (pe_cmpR op_eq (pv 0) (pv 1) (nomark _))))))))), ?_⟩
    rcases al with ⟨i, rfl⟩ | ⟨ds, e, ln, al⟩
    · have eu := dp_int hu
      have ev := dp_int hv
      subst eu
      subst ev
      refine ⟨_, rfl, by show 2 ≤ sizeLine; decide, fun T nT => ⟨_, T, _, .type "int", _, false, rfl, upd_same, .cons (.ty _) (.cons (.ty _) .nil), .base (.int i), kind_int K, false, rfl, iteF ?_⟩⟩
      have sT := same_new (o := .tup [V.ty "tuple", V.ty "list"]) nT
      refine ⟨_, rfl, rfl, _, rfl, iteF ?_⟩
      refine ⟨_, rfl, _, .ty "str", _, _, false, rfl, .ty "str", .base (.int i), kit_ty (by decide +kernel), false, rfl, iteF ?_⟩
      refine ⟨_, rfl, _, .ty "int", _, _, true, rfl, .ty "int", .base (.int i), kit_ty (by decide +kernel), true, rfl, iteT ?_⟩
      refine ⟨_, rfl, _, .ty "bool", _, _, false, rfl, .ty "bool", .base (.int i), kit_ty (by decide +kernel), ?_⟩
      refine ⟨_, rfl, _, .ty "bool", _, _, false, rfl, .ty "bool", .base (.int i), kit_ty (by decide +kernel), ?_⟩
      refine ⟨rfl, true, rfl, iteT ?_⟩
      refine ⟨_, rfl, _, rfl, rfl, qT rfl (q _ sT)⟩
    · obtain ⟨t, bl, kt, rd⟩ := dp_seq (K := K) (H := H) e
      obtain ⟨a, xs, rfl, hA⟩ := rd u hu
      obtain ⟨b, ys, rfl, hB⟩ := rd v hv
      have lx := dpa_len (hA H (Same.refl _)).all
      have ly := dpa_len (hB H (Same.refl _)).all
      refine ⟨_, rfl, by show 2 ≤ sizeLine; decide, fun T nT => ?_⟩
      have sT := same_new (o := .tup [V.ty "tuple", V.ty "list"]) nT
      refine ⟨_, T, _, .type t, _, true, rfl, upd_same, .cons (.ty _) (.cons (.ty _) .nil), (hB _ sT).ty, kt.any, true, rfl, iteT ?_⟩
      refine ⟨_, rfl, by show 2 ≤ sizeLine; decide, fun T2 nT2 => ?_⟩
      have sT2 := sT.trans (same_new (o := .tup [V.ty "tuple", V.ty "list"]) nT2)
      refine ⟨_, T2, _, .type t, _, true, rfl, upd_same, .cons (.ty _) (.cons (.ty _) .nil), (hA _ sT2).ty, kt.any, true, rfl, ?_⟩
      refine iteF ?_
      refine ⟨_, rfl, _, .ty "list", _, _, bl, rfl, .ty "list", (hA _ sT2).ty, kt.one, ?_⟩
      refine ⟨_, rfl, _, .ty "list", _, _, bl, rfl, .ty "list", (hB _ sT2).ty, kt.one, ?_⟩
      refine ⟨rfl, _, rfl, iteNS rfl ?_⟩
      refine ⟨_, rfl, a, xs, rfl, (hA _ sT2).rd, _, rfl, b, ys, rfl, (hB _ sT2).rd, rfl, _, rfl, iteNS (by rw [lx, ly]) ?_⟩
      refine ⟨_, rfl, b, ys, rfl, (hB _ sT2).rd, _, rfl, by omega, by omega, fun D nD => ?_⟩
      refine lc_lf (K := K) (List.range ds.length) walk_range0 (by rw [List.length_range, ← ly]; rfl) (by rw [List.length_range]; exact small (by omega)) nD (fun _ => none) (fun e d hd => nomatch hd) (fun _ _ => trivial) (fun i e x H3 H4 NY NN he s3 y ky kn => ?_) (fun H3 vs s3 eD dD => ?_)
      · obtain ⟨rfl, rfl⟩ := y
        obtain ⟨hj, rfl⟩ := range_at he
        have s4 := sT2.trans s3
        obtain ⟨d', ed⟩ : ∃ d', ds[e]? = some d' := ⟨_, List.getElem?_eq_getElem hj⟩
        obtain ⟨x1, e1, d1⟩ := dpa_get (hA _ s4).all ed
        obtain ⟨x2, e2, d2⟩ := dpa_get (hB _ s4).all ed
        refine ⟨rfl, _, rfl, _, rfl, ix_of (hA _ s4) e1 ?_⟩
        refine ⟨_, rfl, _, rfl, ix_of (hB _ s4) e2 ?_⟩
        refine ⟨x1, x2, d', rfl, d1, d2, al d' (List.mem_of_getElem? ed), fun H5 s5 => ⟨true, rfl, ?_⟩⟩
        exact iteF (kn _ s5 rfl)
      · have en : (List.range ds.length).filterMap (fun _ : Nat => (none : Option PyData)) = [] := by simp
        rw [en] at dD
        cases dD
        refine ⟨Nat.zero_le _, fun R nR => ?_⟩
        have sR := same_new (o := .lst []) nR
        refine ⟨.list [], .list [], .lst (.inl (.inl (sR _ _ eD))) .nil, .lst (.inl (.inl upd_same)) .nil, shapedL_nil, shapedL_nil, ?_⟩
        rw [eqv_nilL]
        exact q _ (sT2.trans (s3.trans sR))
theorem ok_alike (F : Std K mg "_law_alike" st_l_alike) (B : Bl mg) : ∀ m, Has P w K mg base m "_law_alike" ["_law_found", "_law_due"] (spAlike K m)
  | 0 => has_zero F (fun _ _ _ _ _ _ us hl => match us, hl with | [_, _], _ => rfl) fun vs H Q E h => by
    obtain ⟨_, _, _, _, _, _, al, _⟩ := h
    exact al
  | m + 1 => ok_alike1 F B (ok_alike F B m)
end
end Lk

set_option Elab.async false
set_option linter.all false
set_option maxRecDepth 100000
set_option maxHeartbeats 4000000
/-! What the law's own body needs in plain words. -/
namespace Lk
open PySem PySem.Spec PyProof.Rows L2
theorem al_int (m : Nat) (i : Int) : AlOk (m + 1) (.int i) := .inl ⟨i, rfl⟩
theorem al_I (m : Nat) {l : List Int} (h : l.length ≤ 1000) : AlOk (m + 2) (encI l) := .inr ⟨_, .inl rfl, by rw [List.length_map]; exact h, fun e he => by
  obtain ⟨i, _, rfl⟩ := List.mem_map.mp he
  exact al_int m i⟩
theorem al_T (m : Nat) {s : List Nat} (h : s.length ≤ 1000) : AlOk (m + 2) (encT s) := .inr ⟨_, .inl rfl, by rw [List.length_map]; exact h, fun e he => by
  obtain ⟨i, _, rfl⟩ := List.mem_map.mp he
  exact al_int m i⟩
theorem al_Ps (m : Nat) {ps : List (Nat × Nat)} (h : ps.length ≤ 1000) : AlOk (m + 3) (encPs ps) := .inr ⟨_, .inl rfl, by rw [List.length_map]; exact h, fun e he => by
  obtain ⟨p, _, rfl⟩ := List.mem_map.mp he
  exact al_T m (s := [p.1, p.2]) (by show 2 ≤ 1000; decide)⟩
theorem al_two (m : Nat) {d e : PyData} (hd : AlOk m d) (he : AlOk m e) (x : PyData) (h : x = .tuple [d, e] ∨ x = .list [d, e]) : AlOk (m + 1) x := .inr ⟨_, h, by show 2 ≤ 1000; decide, fun z hz => by
  rcases List.mem_cons.mp hz with rfl | hz
  · exact hd
  · rw [List.mem_singleton.mp hz]
    exact he⟩
theorem al_C (m : Nat) {a : Int} {s : List Nat} (h : s.length ≤ 1000) : AlOk (m + 3) (encC a s) := al_two (m + 2) (al_int (m + 1) a) (al_T m h) _ (.inl rfl)
theorem al_cheap (m : Nat) {n : Nat} {ps : List (Nat × Nat)} {c : Nat → Nat} (bl : PairsLt n ps) (n8 : n ≤ 8) : AlOk (m + 3) (cheapD n ps c) := by
  have hne : ((good n ps).map fun s => (prS c s, s)) ≠ [] := fun e => good_ne bl (List.map_eq_nil_iff.mp e)
  obtain ⟨g, hg, e, _⟩ := best_C hne
  obtain ⟨s, hs, rfl⟩ := List.mem_map.mp hg
  rw [List.map_map] at e
  have e : cheapD n ps c = encC (prS c s) s := e
  rw [e]
  have := subsN_le (mem_good.mp hs).1
  exact al_C m (by omega)
theorem few_size {n : Nat} {ps : List (Nat × Nat)} {s : List Nat} (F : IsFew n ps s) {m : Int} (h1 : m ∈ (good n ps).map fun t => (t.length : Int)) (h2 : ∀ y, y ∈ ((good n ps).map fun t => (t.length : Int)) → m ≤ y) : m = (s.length : Int) := by
  obtain ⟨t, ht, rfl⟩ := List.mem_map.mp h1
  have a := F.least t ht
  have b := h2 _ (List.mem_map_of_mem F.good)
  omega
/-! ### the sets with the fewest places, sorted -/
def shortOf (n : Nat) (ps : List (Nat × Nat)) (k : Nat) : List (List Nat) := (good n ps).filter fun t => t.length == k
theorem mem_short {n : Nat} {ps : List (Nat × Nat)} {k : Nat} {t : List Nat} : t ∈ shortOf n ps k ↔ t ∈ good n ps ∧ t.length = k := by
  unfold shortOf
  rw [List.mem_filter, beq_iff_eq]
def leT (s t : List Nat) : Bool := !decide (castL t < castL s)
theorem leT_iff {s t : List Nat} : leT s t = true ↔ ¬ castL t < castL s := by
  unfold leT
  rw [Bool.not_eq_true', decide_eq_false_iff_not]
theorem short_head {n : Nat} {ps : List (Nat × Nat)} {s : List Nat} (F : IsFew n ps s) : ∃ r, (shortOf n ps s.length).mergeSort leT = s :: r := by
  have pm := List.mergeSort_perm (shortOf n ps s.length) leT
  have ms : s ∈ (shortOf n ps s.length).mergeSort leT := pm.mem_iff.mpr (mem_short.mpr ⟨F.good, rfl⟩)
  have tr : ∀ a b c : List Nat, leT a b = true → leT b c = true → leT a c = true := fun a b c h1 h2 => leT_iff.mpr (lx_ntr (leT_iff.mp h2) (leT_iff.mp h1))
  have tot : ∀ a b : List Nat, (leT a b || leT b a) = true := fun a b => by
    rw [Bool.or_eq_true, leT_iff, leT_iff]
    by_cases h : castL b < castL a
    · exact .inr (lx_asym h)
    · exact .inl h
  have pw : ((shortOf n ps s.length).mergeSort leT).Pairwise fun a b => leT a b = true := List.pairwise_mergeSort tr tot _
  cases e : (shortOf n ps s.length).mergeSort leT with
  | nil =>
    rw [e] at ms
    cases ms
  | cons t r =>
    rw [e] at pw
    have mt := mem_short.mp (pm.mem_iff.mp (by rw [e]; exact List.mem_cons_self ..))
    have F2 : IsFew n ps t := ⟨mt.1, fun u hu => by rw [mt.2]; exact F.least u hu, fun u hu l => by
      have mu : u ∈ t :: r := by
        rw [← e]
        exact pm.mem_iff.mpr (mem_short.mpr ⟨hu, l.trans mt.2⟩)
      rcases List.mem_cons.mp mu with rfl | mu
      · exact lx_irr _
      · exact leT_iff.mp ((List.pairwise_cons.mp pw).1 u mu)⟩
    rw [F2.uniq F]
    exact ⟨r, rfl⟩
theorem subs_zero : ∀ n, (subsN n).filter (fun t => t.length == 0) = [[]]
  | 0 => rfl
  | n + 1 => by
    show (subsN n ++ (subsN n).map (· ++ [n])).filter _ = _
    rw [List.filter_append, subs_zero n]
    have : ((subsN n).map (· ++ [n])).filter (fun t => t.length == 0) = [] := by
      rw [List.filter_eq_nil_iff]
      intro t ht
      obtain ⟨u, _, rfl⟩ := List.mem_map.mp ht
      rw [List.length_append, List.length_singleton]
      simp
    rw [this]
    rfl
theorem short_zero {n : Nat} {ps : List (Nat × Nat)} {s : List Nat} (F : IsFew n ps s) (h : s.length = 0) : shortOf n ps 0 = [[]] := by
  have es : s = [] := List.eq_nil_of_length_eq_zero h
  have hc := (mem_good.mp F.good).2
  rw [es] at hc
  unfold shortOf good
  rw [List.filter_filter]
  have e : (fun t : List Nat => t.length == 0 && cov ps t) = fun t => cov ps t && (t.length == 0) := by
    funext t
    exact Bool.and_comm _ _
  rw [e, ← List.filter_filter, subs_zero, List.filter_cons_of_pos hc, List.filter_nil]
theorem sbl_short {n : Nat} {ps : List (Nat × Nat)} {s : List Nat} (F : IsFew n ps s) {bs : List (V × PyData)} (e : bs.map Prod.snd = (shortOf n ps s.length).map encT) : Sbl bs := by
  by_cases h : s.length = 0
  · rw [h, short_zero F h] at e
    match bs, e with
    | [(v, d)], e =>
      have : d = encT [] := List.head_eq_of_cons_eq e
      rw [this]
      exact .inr ⟨v, rfl⟩
  · refine .inl fun b hb => ?_
    have m := List.mem_map_of_mem (f := Prod.snd) hb
    rw [e] at m
    obtain ⟨t, ht, et⟩ := List.mem_map.mp m
    have l := (mem_short.mp ht).2
    cases t with
    | nil => exact absurd l.symm h
    | cons x r => exact ⟨_, _, et.symm⟩
/-! ### what stands while another list is changed -/
section
variable {K : PySem.W.Frag} {H H' : Hp} {a : Addr}
theorem keepT_list {xs : List V} (h : H a = some (.lst xs)) (k : Keep a H H') : KeepT K H H' := by
  intro c ys q
  rcases q with (q | ⟨ob, q⟩) | q
  · refine .inl (.inl (k _ _ (fun e => ?_) q))
    rw [e, h] at q
    cases q
  · refine .inl (.inr ⟨ob, k _ _ (fun e => ?_) q⟩)
    rw [e, h] at q
    cases q
  · exact .inr q
theorem RowAt.rng (r : RowAt K H a) {d : Addr} {xs : List V} (ne : d ≠ a) (h : H d = some (.lst xs)) (n : Nat) (f : Nat → Nat) : RowAt K (upd H d (.lst ((List.range n).map fun j => vN (f j)))) a := by
  have q := r.ints ne h ((List.range n).map fun j => (f j : Int))
  rw [List.map_map] at q
  exact q
end
theorem rng_next (f : Nat → Nat) (i v : Nat) : ((List.range i).map fun j => vN (f j)) ++ [vN v] = (List.range (i + 1)).map fun j => vN (if j = i then v else f j) := by
  rw [List.range_succ, List.map_append]
  have e1 : ((List.range i).map fun j => vN (if j = i then v else f j)) = (List.range i).map fun j => vN (f j) := List.map_congr_left fun j hj => by
    rw [if_neg (Nat.ne_of_lt (List.mem_range.mp hj))]
  rw [e1]
  show _ = _ ++ [vN (if i = i then v else f i)]
  rw [if_pos rfl]
theorem rng_set (f : Nat → Nat) {n j : Nat} (v : Nat) (hj : j < n) : ((List.range n).map fun k => vN (f k)).set j (vN v) = (List.range n).map fun k => vN (if k = j then v else f k) := by
  rw [set_range hj]
  refine List.map_congr_left fun k _ => ?_
  by_cases e : k = j
  · rw [if_pos e, if_pos e]
  · rw [if_neg e, if_neg e]
end Lk

set_option Elab.async false
set_option linter.all false
set_option maxRecDepth 100000
set_option maxHeartbeats 4000000
namespace Lk
open PySem PySem.Spec PyProof.Rows L2
section
variable {P : Program} {w : World} {K : PySem.W.Frag} {mg : Str → Option Value} {base : Heap}
def spLaw (K : PySem.W.Frag) : Sp := fun vs H Q _ => ∃ (sc : Addr) (ns : List Int), vs = [.ref sc] ∧ SqL K H sc (ns.map V.int) ∧ ∀ H', Q (.bl true) H'
structure Parts (P : Program) (w : World) (K : PySem.W.Frag) (mg : Str → Option Value) (base : Heap) : Prop where
  net : Has P w K mg base 2 "_law_net" ["_law_row", "_law_most", "_law_long"] (spNet K)
  pick : Has P w K mg base 2 "_law_pick" ["_law_row", "_law_things"] (spPick K)
  far : Has P w K mg base 1 "_law_far" ["_law_net_here"] (spTable K)
  slope : Has P w K mg base 2 "_law_slope" ["_law_row", "_law_net_here", "_law_most"] (spSlope K)
  taken : Has P w K mg base 1 "_law_taken" ["_law_row", "_law_many"] (spTaken K)
  gaps : Has P w K mg base 2 "_law_gaps" ["_law_far_here", "_law_row"] (spGaps K)
  alike : Has P w K mg base 30 "_law_alike" ["_law_found", "_law_due"] (spAlike K 30)
  bad : Has P w K mg base 5 "bad_pairs" ["net", "row"] (spBad K)
  sets : Has P w K mg base 1 "_law_sets" ["_law_many"] (spSubsets K)
  few : Has P w K mg base 6 "fewest_places" ["net", "row"] (spFew K)
  number : Has P w K mg base 7 "number_of_fewest" ["net", "row"] (spNumber K)
  cheap : Has P w K mg base 6 "cheapest_places" ["net", "prices", "row"] (spCheap K)
  mended : Has P w K mg base 7 "mended" ["net", "row"] (spMended K)
  most : Has P w K mg base 30 "_law_most_pairs" ["_law_pairs_here"] (spMost K 30)
  disjoint : Has P w K mg base 31 "disjoint_pairs" ["net", "row"] (spDisjoint K)
theorem fn_def {x : Str} {st : Stmt} {N ps : List Str} {k : Nat} {sp : Sp} {f : Addr} {fd : FuncData} (F : FunD K x x (defArgs st) (defBody st) (defScope st) [] [] f fd) (S : FnScope N ps (defScope st)) (len : ∀ vs H Q E, sp vs H Q E → vs.length = ps.length)
    (hbody : ∀ (f : Addr) (cdv : Value) (A : Around) (outer : List Env) (s : Shared) (H : Hp) (vs : List V) (Q : VK) (E : XK), Room k (A.deeper (envOfC x (defScope st) s.heap.objs.size f cdv)) → sp vs H Q E →
      ∃ t, PSs (cxOf CX0 P w K mg base N x (defScope st) f cdv A outer s H E).nox (defBody st) t ∧ t { nx := fun _ H' => Q .non H', rt := Q } (start N vs) H) : FnOk P w K mg base CX0 (k + 1) f fd ps sp := F.ok S len fun cdv A outer s H vs Q E hr h => by
  obtain ⟨t, h1, h2⟩ := hbody f cdv A outer s H vs Q E hr h
  exact ⟨t, PSs.nox h1, h2⟩
theorem ok_law {f : Addr} {fd : FuncData} (F : FunD K "law" "law" (defArgs st_law) (defBody st_law) (defScope st_law) [] [] f fd) (B : Bl mg) (C : Parts P w K mg base) : FnOk P w K mg base CX0 32 f fd ["_law_script"] (spLaw K) := by
  have c_l_net := C.net
  have c_l_pick := C.pick
  have c_l_far := C.far
  have c_l_slope := C.slope
  have c_l_taken := C.taken
  have c_l_gaps := C.gaps
  have c_l_alike := C.alike
  have c_bad_pairs := C.bad
  have c_l_sets := C.sets
  have c_fewest_places := C.few
  have c_number_of_fewest := C.number
  have c_cheapest_places := C.cheap
  have c_mended := C.mended
  have c_l_most_pairs := C.most
  have c_disjoint_pairs := C.disjoint
  refine fn_def F sc_law (fun vs H Q E h => ?_) (fun f cdv A outer s H vs Q E hr h => ?_)
  · obtain ⟨sc, ns, rfl, _⟩ := h
    rfl
  · obtain ⟨sc, ns, rfl, hS, q⟩ := h
    refine ⟨_, (pss_cons (ps_set (i := 1) sc_law.nd rfl (.inr rfl) (pe_lst (pa_cons (pv 0) (pa_cons pe_int (pa_cons pe_int (pa_cons pe_int pa_nil))))))
    (pss_cons (ps_set (i := 2) sc_law.nd rfl (.inl rfl) (pe_has c_l_net hr (by first | decide | exact Nat.le_refl _) (by rfl) (pa_cons (pv 1) (pa_cons pe_int (pa_cons (pe_has c_l_pick hr (by first | decide | exact Nat.le_refl _) (by rfl) (pa_cons (pv 1) (pa_cons (pe_lst (pa_cons pe_int (pa_cons pe_int (pa_cons pe_int pa_nil)))) pa_nil))) pa_nil)))))
    (pss_cons (ps_asg (pe_tup (pa_cons (pe_ix ix_tup (pv 2) pe_int (fun _ _ => rfl)) (pa_cons (pe_has c_l_far hr (by first | decide | exact Nat.le_refl _) (by rfl) (pa_cons (pv 2) pa_nil)) pa_nil))) (pg_tup rfl (pgs_cons (pg_name (i := 3) sc_law.nd rfl (.inl rfl)) (pgs_cons (pg_name (i := 4) sc_law.nd rfl (.inr rfl)) pgs_nil))))
    (pss_cons (ps_set (i := 5) sc_law.nd rfl (.inr rfl) (pe_callTy call_list_of (by rfl) B.list boot_list (pa_cons (pe_has c_l_slope hr (by first | decide | exact Nat.le_refl _) (by rfl) (pa_cons (pv 1) (pa_cons (pv 2) (pa_cons (pe_has c_l_pick hr (by first | decide | exact Nat.le_refl _) (by rfl) (pa_cons (pv 1) (pa_cons (pe_lst (pa_cons pe_int (pa_cons pe_int pa_nil))) pa_nil))) pa_nil)))) pa_nil)))
    (pss_cons (ps_for PassesOwn.never rfl (pi_range1 (by rfl) B.range (pa_cons (pe_has c_l_taken hr (by first | decide | exact Nat.le_refl _) (by rfl) (pa_cons (pv 1) (pa_cons pe_int pa_nil))) pa_nil)) (pg_name (i := 6) sc_law.nd rfl (.inl rfl))
    (pss_one (ps_asg (pe_has c_l_taken hr (by first | decide | exact Nat.le_refl _) (by rfl) (pa_cons (pv 1) (pa_cons (pe_has c_l_pick hr (by first | decide | exact Nat.le_refl _) (by rfl) (pa_cons (pv 1) (pa_cons (pe_lst (pa_cons pe_int (pa_cons pe_int (pa_cons pe_int pa_nil)))) pa_nil))) pa_nil))) (pg_sub (pv 5) (pe_has c_l_taken hr (by first | decide | exact Nat.le_refl _) (by rfl) (pa_cons (pv 1) (pa_cons (pv 3) pa_nil))) set_list))))
    (pss_cons (ps_set (i := 5) sc_law.nd rfl (.inr rfl) (pe_callTy call_tuple_of (by rfl) B.tuple boot_tuple (pa_cons (pv 5) pa_nil)))
    (pss_cons (ps_set (i := 7) sc_law.nd rfl (.inr rfl) (pe_callTy call_tuple_of (by rfl) B.tuple boot_tuple (pa_cons (pe_lc (own := [("_law_place", 19)]) (by rfl) sc_law.nd (pi_range1 (by rfl) B.range (pa_cons (pv 3) pa_nil)) (blkOk_by (N := nm_law) (own := [("_law_place", 19)]) (sc := defScope st_law) (by decide +kernel)) (fun _ _ _ _ _ => (pg_name (i := 19) sc_law.nd rfl (by first | exact Or.inl rfl | exact Or.inr rfl))) (fun _ _ _ _ _ => pts_nil) (fun _ _ _ _ _ => (pe_has c_l_taken hr (by first | decide | exact Nat.le_refl _) (by rfl) (pa_cons (pv 1) (pa_cons (pe_has c_l_pick hr (by first | decide | exact Nat.le_refl _) (by rfl) (pa_cons (pv 1) (pa_cons (pe_lst (pa_cons pe_int (pa_cons pe_int pa_nil))) pa_nil))) pa_nil))))) pa_nil)))
    (pss_cons (ps_set (i := 8) sc_law.nd rfl (.inl rfl) (pe_has c_l_gaps hr (by first | decide | exact Nat.le_refl _) (by rfl) (pa_cons (pv 4) (pa_cons (pv 5) pa_nil))))
    (pss_cons (ps_if (pt_not (pt_val (pe_has c_l_alike hr (by first | decide | exact Nat.le_refl _) (by rfl) (pa_cons (pe_has c_bad_pairs hr (by first | decide | exact Nat.le_refl _) (by rfl) (pa_cons (pv 2) (pa_cons (pv 5) pa_nil))) (pa_cons (pe_callTy call_tuple_of (by rfl) B.tuple boot_tuple (pa_cons (pv 8) pa_nil)) pa_nil))))) (pss_one (ps_ret pe_bl)) pss_nil)
    (pss_cons (ps_set (i := 9) sc_law.nd rfl (.inl rfl) (pe_lst pa_nil))
    (pss_cons (ps_for PassesOwn.never rfl (pi_list (pe_has c_l_sets hr (by first | decide | exact Nat.le_refl _) (by rfl) (pa_cons (pv 3) pa_nil))) (pg_name (i := 10) sc_law.nd rfl (.inr rfl))
    (pss_cons (ps_set (i := 11) sc_law.nd rfl (.inr rfl) (pe_lc (own := [("_law_place", 19)]) (by rfl) sc_law.nd (pi_range1 (by rfl) B.range (pa_cons (pv 3) pa_nil)) (blkOk_by (N := nm_law) (own := [("_law_place", 19)]) (sc := defScope st_law) (by decide +kernel)) (fun _ _ _ _ _ => (pg_name (i := 19) sc_law.nd rfl (by first | exact Or.inl rfl | exact Or.inr rfl))) (fun _ _ _ _ _ => (pts_one (pt_cmpR (kOp (rIn K true) op_notIn_seq) (pv 19) (pv 10) rfl))) (fun _ _ _ _ _ => (pv 19))))
    (pss_one (ps_if (pt_cmpR (op_eqD hr.units) (pe_lc (own := [("_law_pair", 20)]) (by rfl) sc_law.nd (pi_list (pv 8)) (blkOk_by (N := nm_law) (own := [("_law_pair", 20)]) (sc := defScope st_law) (by decide +kernel)) (fun _ _ _ _ _ => (pg_name (i := 20) sc_law.nd rfl (by first | exact Or.inl rfl | exact Or.inr rfl))) (fun _ _ _ _ _ => (pts_one (PW.pt (pw_and (pt_cmpR (kOp (rIn K false) op_in_seq) (pe_ix (kIx (rIxT K) ix_tup) (pv 20) pe_int (fun _ _ => rfl)) (pv 11) rfl) (pw_and1 (pt_cmpR (kOp (rIn K false) op_in_seq) (pe_ix (kIx (rIxT K) ix_tup) (pv 20) pe_int (fun _ _ => rfl)) (pv 11) rfl)))))) (fun _ _ _ _ _ => (pv 20))) (pe_lst pa_nil) (nomark _)) (pss_one (ps_expr (pe_bm PySem.F.plainAttrs_list PySem.F.slot_list_append PySem.F.type_list_append mt_append (pv 9) (pa_cons (pv 10) pa_nil)))) pss_nil))))
    (pss_cons (ps_set (i := 12) sc_law.nd rfl (.inr rfl) (pe_callB (cr_min rfl) (by rfl) B.min boot_min (pa_cons (pe_lc (own := [("_law_told", 10)]) (by rfl) sc_law.nd (pi_list (pv 9)) (blkOk_by (N := nm_law) (own := [("_law_told", 10)]) (sc := defScope st_law) (by decide +kernel)) (fun _ _ _ _ _ => (pg_name (i := 10) sc_law.nd rfl (by first | exact Or.inl rfl | exact Or.inr rfl))) (fun _ _ _ _ _ => pts_nil) (fun _ _ _ _ _ => (pe_callB (kCall (rLenS K) call_len_seq) (by rfl) B.len PySem.boot_len (pa_cons (pv 10) pa_nil)))) pa_nil)))
    (pss_cons (ps_set (i := 13) sc_law.nd rfl (.inr rfl) (pe_callB (cr_sortD (room30 hr)) (by rfl) B.sorted boot_sorted (pa_cons (pe_lc (own := [("_law_told", 10)]) (by rfl) sc_law.nd (pi_list (pv 9)) (blkOk_by (N := nm_law) (own := [("_law_told", 10)]) (sc := defScope st_law) (by decide +kernel)) (fun _ _ _ _ _ => (pg_name (i := 10) sc_law.nd rfl (by first | exact Or.inl rfl | exact Or.inr rfl))) (fun _ _ _ _ _ => (pts_one (pt_cmpR op_eq (pe_callB (kCall (rLenS K) call_len_seq) (by rfl) B.len PySem.boot_len (pa_cons (pv 10) pa_nil)) (pv 12) (nomark _)))) (fun _ _ _ _ _ => (pv 10))) pa_nil)))
    (pss_cons (ps_if (pt_not (pt_val (pe_has c_l_alike hr (by first | decide | exact Nat.le_refl _) (by rfl) (pa_cons (pe_lst (pa_cons (pe_has c_fewest_places hr (by first | decide | exact Nat.le_refl _) (by rfl) (pa_cons (pv 2) (pa_cons (pv 5) pa_nil))) (pa_cons (pe_has c_number_of_fewest hr (by first | decide | exact Nat.le_refl _) (by rfl) (pa_cons (pv 2) (pa_cons (pv 5) pa_nil))) pa_nil))) (pa_cons (pe_lst (pa_cons (pe_ix ix_list (pv 13) pe_int (fun _ _ => rfl)) (pa_cons (pe_callB call_len_seq (by rfl) B.len PySem.boot_len (pa_cons (pv 13) pa_nil)) pa_nil))) pa_nil))))) (pss_one (ps_ret pe_bl)) pss_nil)
    (pss_cons (ps_setLc (i := 14) (own := [("_law_told", 10)]) (by rfl) sc_law.nd rfl rfl (sw_true rfl rfl rfl (by decide +kernel)) (pi_list (pv 9)) (blkOk_by (N := nm_law) (own := [("_law_told", 10)]) (sc := defScope st_law) (by decide +kernel)) (fun _ _ _ _ _ => (pg_name (i := 10) sc_law.nd rfl (by first | exact Or.inl rfl | exact Or.inr rfl))) (fun _ _ _ _ _ => pts_nil) (fun _ _ _ _ _ => (pe_tup (pa_cons (pe_callB (kCall (rSum K) (cr_sum rfl)) (by rfl) B.sum boot_sum (pa_cons (pe_lc (own := [("_law_place", 19)]) (by rfl) sc_law.nd (kPI (iTup K (tVar 10)) (pi_tup (pv 10))) (blkOk_by (by kernel_rfl)) (fun _ _ _ _ _ => (pg_name (i := 19) sc_law.nd rfl (by first | exact Or.inl rfl | exact Or.inr rfl))) (fun _ _ _ _ _ => pts_nil) (fun _ _ _ _ _ => (pe_ix (kIx (rIxT K) ix_tup) (pv 7) (pv 19) (fun _ _ => rfl)))) pa_nil)) (pa_cons (pv 10) pa_nil)))))
    (pss_cons (ps_if (pt_not (pt_val (pe_has c_l_alike hr (by first | decide | exact Nat.le_refl _) (by rfl) (pa_cons (pe_has c_cheapest_places hr (by first | decide | exact Nat.le_refl _) (by rfl) (pa_cons (pv 2) (pa_cons (pv 7) (pa_cons (pv 5) pa_nil)))) (pa_cons (pe_callB (cr_minD rfl (room20 hr)) (by rfl) B.min boot_min (pa_cons (pv 14) pa_nil)) pa_nil))))) (pss_one (ps_ret pe_bl)) pss_nil)
    (pss_cons (ps_set (i := 15) sc_law.nd rfl (.inr rfl) (pe_lc (own := [("_law_place", 19)]) (by rfl) sc_law.nd (pi_range1 (by rfl) B.range (pa_cons (pv 3) pa_nil)) (blkOk_by (N := nm_law) (own := [("_law_place", 19)]) (sc := defScope st_law) (by decide +kernel)) (fun _ _ _ _ _ => (pg_name (i := 19) sc_law.nd rfl (by first | exact Or.inl rfl | exact Or.inr rfl))) (fun _ _ _ _ _ => (pts_one (pt_cmpR (kOp (rIn K true) op_notIn_seq) (pv 19) (pe_ix (kIx (rIxL K) ix_list) (pv 13) pe_int (fun _ _ => rfl)) rfl))) (fun _ _ _ _ _ => (pv 19))))
    (pss_cons (ps_set (i := 16) sc_law.nd rfl (.inr rfl) (pe_callTy call_tuple_of (by rfl) B.tuple boot_tuple (pa_cons (pe_lc (own := [("_law_place", 19)]) (by rfl) sc_law.nd (pi_range1 (by rfl) B.range (pa_cons (pv 3) pa_nil)) (blkOk_by (N := nm_law) (own := [("_law_place", 19)]) (sc := defScope st_law) (by decide +kernel)) (fun _ _ _ _ _ => (pg_name (i := 19) sc_law.nd rfl (by first | exact Or.inl rfl | exact Or.inr rfl))) (fun _ _ _ _ _ => pts_nil) (fun _ _ _ _ _ => (pe_callB (kCall (rMax K) (cr_max rfl)) (by rfl) B.max boot_max (pa_cons (pe_op op_cat (pe_lst (pa_cons pe_int pa_nil)) (pe_lc (own := [("_law_one", 21)]) (by rfl) sc_law.nd (kPI (iList K (tVar 15)) (pi_list (pv 15))) (blkOk_by (by kernel_rfl)) (fun _ _ _ _ _ => (pg_name (i := 21) sc_law.nd rfl (by first | exact Or.inl rfl | exact Or.inr rfl))) (fun _ _ _ _ _ => pts_nil) (fun _ _ _ _ _ => (pe_op op_sub (pe_ix (kIx (rIxT K) ix_tup) (pv 5) (pv 21) (fun _ _ => rfl)) (pe_ix (kIx (rIxL K) ix_list) (pe_ix (kIx (rIxL K) ix_list) (pv 4) (pv 21) (fun _ _ => rfl)) (pv 19) (fun _ _ => rfl)))))) pa_nil)))) pa_nil)))
    (pss_cons (ps_if (PW.pt (pw_or (pt_not (pt_val (pe_has c_l_alike hr (by first | decide | exact Nat.le_refl _) (by rfl) (pa_cons (pe_has c_mended hr (by first | decide | exact Nat.le_refl _) (by rfl) (pa_cons (pv 2) (pa_cons (pv 5) pa_nil))) (pa_cons (pv 16) pa_nil))))) (pw_or1 (pt_cmpR (op_neD hr.units) (pe_lc (own := [("_law_place", 19)]) (by rfl) sc_law.nd (pi_list (pv 15)) (blkOk_by (N := nm_law) (own := [("_law_place", 19)]) (sc := defScope st_law) (by decide +kernel)) (fun _ _ _ _ _ => (pg_name (i := 19) sc_law.nd rfl (by first | exact Or.inl rfl | exact Or.inr rfl))) (fun _ _ _ _ _ => (pts_one (pt_cmpR op_ne (pe_ix (kIx (rIxT K) ix_tup) (pv 16) (pv 19) (fun _ _ => rfl)) (pe_ix (kIx (rIxT K) ix_tup) (pv 5) (pv 19) (fun _ _ => rfl)) (nomark _)))) (fun _ _ _ _ _ => (pv 19))) (pe_lst pa_nil) (nomark _))))) (pss_one (ps_ret pe_bl)) pss_nil)
    (pss_cons (ps_set (i := 17) sc_law.nd rfl (.inl rfl) (pe_ifExp (pt_cmpR op_lt (pe_callB call_len_seq (by rfl) B.len PySem.boot_len (pa_cons (pv 8) pa_nil)) pe_int (nomark _)) (pe_has c_l_most_pairs hr (by first | decide | exact Nat.le_refl _) (by rfl) (pa_cons (pv 8) pa_nil)) pe_non))
    (pss_cons (ps_set (i := 18) sc_law.nd rfl (.inl rfl) (pe_has c_disjoint_pairs hr (by first | decide | exact Nat.le_refl _) (by rfl) (pa_cons (pv 2) (pa_cons (pv 5) pa_nil))))
    (pss_one (ps_ret (pe_and (pe_or (pe_cmpR op_isN (pv 17) pe_non (nomark _)) (pe_one (pe_has c_l_alike hr (by first | decide | exact Nat.le_refl _) (by rfl) (pa_cons (pv 18) (pa_cons (pv 17) pa_nil))))) (pe_one (pe_chain op_le op_le (pv 18) (pv 12) (pe_op op_mul pe_int (pv 18)))))))))))))))))))))))))))), ?_⟩
    clear c_l_net c_l_pick c_l_far c_l_slope c_l_taken c_l_gaps c_l_alike c_bad_pairs c_l_sets c_fewest_places c_number_of_fewest c_cheapest_places c_mended c_l_most_pairs c_disjoint_pairs C B
    -- the list of draws
    refine ⟨_, rfl, by show 4 ≤ sizeLine; decide, fun a na => ?_⟩
    have sa := same_new (o := rowL sc 0 6824 0) na
    have R0 : RowAt K (upd H a (rowL sc 0 6824 0)) a := ⟨sc, ns, 0, 6824, 0, upd_same, sa.seq hS, by decide, by decide, by decide⟩
    -- the net
    refine ⟨_, rfl, _, rfl, by show 3 ≤ sizeLine; decide, fun L nL => ?_⟩
    have sL := same_new (o := .lst [V.int 1, V.int 3, V.int 9]) nL
    refine ⟨a, L, [1, 3, 9], rfl, R0.same sL, .inl (.inl upd_same), by decide, by decide, fun o1 long hl R1 => ?_⟩
    have hl2 : 1 ≤ long ∧ long ≤ 9 := by
      simp at hl
      omega
    refine ⟨a, long, rfl, hl2.1, hl2.2, R1, fun x H2 n rods k2 R2 N dN => ?_⟩
    clear k2 R1 hl hl2 sL nL R0 sa hS na
    obtain ⟨b, b2, rs, rfl, hB, _, _⟩ := dp_encN dN
    have n1 := N.n1
    have n8 := N.n8
    -- many, far
    refine ⟨_, rfl, b, _, 0, _, rfl, rfl, hB, rfl, _, rfl, n, rods, _, rfl, dN, N, fun p H3 s3 t => ⟨by show 2 ≤ sizeLine; decide, fun T nT => ⟨T, _, rfl, SqT.of upd_same, rfl, _, _, rfl, _, _, rfl, rfl, ?_⟩⟩⟩
    have sT := same_new (o := .tup [vN n, V.ref p]) nT
    have tA := (t.a R2).keep (keep_same sT)
    have R3 := R2.same (s3.trans sT)
    have dN3 := dp_same (s3.trans sT) _ _ dN
    clear t nT R2
    generalize upd H3 T (HO.tup [vN n, V.ref p]) = H4 at sT tA R3 dN3
    -- heights
    refine ⟨_, rfl, _, rfl, _, rfl, by show 2 ≤ sizeLine; decide, fun L nL => ?_⟩
    have sL := same_new (o := .lst [V.int 9, V.int 40]) nL
    refine ⟨a, L, [9, 40], rfl, R3.same sL, .inl (.inl upd_same), by decide, by decide, fun o2 most hm R4 => ?_⟩
    have hm2 : most ≤ 40 := by
      simp at hm
      omega
    have k4 : Keep a H4 _ := (keep_same sL).trans (keep_upd (o := o2))
    have dN4 := dp_keep (R3.keepT k4) _ _ (lf_encN _ _) dN3
    refine ⟨a, n, rods, _, most, rfl, by omega, R4, dN4, N, fun xh H5 h0 k5 R5 hh0 dh0 => ?_⟩
    have kk5 := k4.trans k5
    have tA5 := tA.keep kk5
    have dN5 := dp_keep (R4.keepT k5) _ _ (lf_encN _ _) dN4
    clear k4 k5 kk5 dN4 R4 hm sL nL R3 dN3 tA dN s3 sT hB
    obtain ⟨hx, rfl, qH⟩ := dp_encRow dh0
    refine ⟨hx, _, rfl, .inr qH, fun ht nht => ?_⟩
    have hta : ht ≠ a := R5.ne_new nht
    have sh := same_new (o := .lst ((List.range n).map fun i => vN (h0 i))) nht
    -- some heights anew
    refine ⟨_, rfl, a, 5, rfl, by decide, by decide, R5.same sh, fun o3 turns hturns R6 => ⟨_, rfl, by omega, by omega, for_it walk_range0 (fun i σ H6 => Keep a H5 H6 ∧ RowAt K H6 a ∧ (∃ h : Nat → Nat, H6 ht = some (.lst ((List.range n).map fun i => vN (h i))) ∧ ∀ i, i < n → h i ≤ 99) ∧
        ∃ y6, σ = [some (.ref sc), some (.ref a), some (.ref b), some (vN n), some (.ref p), some (.ref ht), y6, none, none, none, none, none, none, none, none, none, none, none, none, none, none, none])
      ⟨(keep_same sh).trans (keep_upd (o := o3)), R6, ⟨h0, keep_upd (o := o3) ht _ hta upd_same, fun i hi => by have := hh0 i hi; omega⟩, none, rfl⟩ (fun _ _ _ _ _ => trivial) (fun i x σ H6 H7 hi z y => ?_) (fun σ H6 z => ?_)⟩⟩
    · obtain ⟨k6, R6, ⟨h, eH, hh⟩, y6, rfl⟩ := z
      obtain ⟨rfl, rfl⟩ := y
      refine ⟨_, rfl, _, rfl, by show 3 ≤ sizeLine; decide, fun L nL => ?_⟩
      have sL := same_new (o := .lst [V.int 10, V.int 60, V.int 100]) nL
      refine ⟨a, L, [10, 60, 100], rfl, R6.same sL, .inl (.inl upd_same), by decide, by decide, fun o4 m hm R7 => ?_⟩
      have hm2 : 1 ≤ m ∧ m ≤ 100 := by
        simp at hm
        omega
      refine ⟨a, m, rfl, hm2.1, by omega, R7, fun o5 v hv R8 => ?_⟩
      refine ⟨_, rfl, _, rfl, _, rfl, a, n, rfl, n1, by omega, R8, fun o6 j hj R9 => ?_⟩
      have k9 := (keep_same (a := a) sL).trans ((keep_upd (o := o4)).trans ((keep_upd (o := o5)).trans (keep_upd (o := o6))))
      have e9 := k9 ht _ hta eH
      refine ⟨ht, _, _, j, rfl, rfl, e9, by rw [lenRow]; exact ixN_at hj, ?_⟩
      rw [rng_set h v hj]
      refine ⟨keep_in (k6.trans k9) nht, R9.rng hta e9 n _, ⟨_, upd_same, fun i hi => ?_⟩, _, rfl⟩
      split
      · omega
      · exact hh i hi
    · obtain ⟨k6, R6, ⟨h, eH, hh⟩, y6, rfl⟩ := z
      have dN6 := dp_keep (R5.keepT k6) _ _ (lf_encN _ _) dN5
      have tA6 := tA5.keep k6
      clear k6 R5 tA5 dN5 dh0 qH hh0 nht hta sh
      refine ⟨_, rfl, ht, _, rfl, .inl ⟨.inl (.inl eH), fun th nth => ?_⟩⟩
      have sth := same_new (o := .tup ((List.range n).map fun i => vN (h i))) nth
      have dH6 := mk_encRow (K := K) (n := n) (h := h) (SqT.of (H := upd H6 th (.tup ((List.range n).map fun i => vN (h i)))) upd_same)
      have dN7 := dp_same sth _ _ dN6
      have tA7 := tA6.keep (keep_same sth)
      have R7 := R6.same sth
      clear dN6 tA6 R6 eH
      generalize upd H6 th (.tup ((List.range n).map fun i => vN (h i))) = H7 at dH6 dN7 tA7 R7
      -- prices
      refine ⟨_, rfl, _, rfl, by omega, by omega, fun D nD => ?_⟩
      have hDa : D ≠ a := R7.ne_new nD
      have sD := same_new (o := .lst []) nD
      refine lc_it walk_range0 (fun i H8 => Keep a H7 H8 ∧ RowAt K H8 a ∧ ∃ c : Nat → Nat, H8 D = some (.lst ((List.range i).map fun j => vN (c j))) ∧ ∀ j, j < i → c j ≤ 99) ⟨keep_same sD, R7.same sD, fun _ => 0, upd_same, fun j hj => absurd hj (Nat.not_lt_zero _)⟩ (fun _ _ _ _ => trivial) (fun i x H8 H9 hi z y => ?_) (fun H8 z => ?_)
      · obtain ⟨k8, R8, c, eD, hc⟩ := z
        obtain ⟨rfl, rfl⟩ := y
        refine ⟨rfl, tYesI (iteT ?_)⟩
        refine ⟨_, rfl, _, rfl, by show 2 ≤ sizeLine; decide, fun L nL => ?_⟩
        have sL := same_new (o := .lst [V.int 3, V.int 100]) nL
        refine ⟨a, L, [3, 100], rfl, R8.same sL, .inl (.inl upd_same), by decide, by decide, fun o4 m hm R9 => ?_⟩
        have hm2 : 1 ≤ m ∧ m ≤ 100 := by
          simp at hm
          omega
        refine ⟨a, m, rfl, hm2.1, by omega, R9, fun o5 v hv R10 => ?_⟩
        have k10 := (keep_same (a := a) sL).trans ((keep_upd (o := o4)).trans (keep_upd (o := o5)))
        have e10 := k10 D _ hDa eD
        refine ⟨_, e10, small (by rw [lenRow]; omega), ?_⟩
        rw [rng_next c i v]
        refine ⟨keep_in (k8.trans k10) nD, R10.rng hDa e10 _ _, _, upd_same, fun j hj => ?_⟩
        split
        · omega
        · exact hc j (by omega)
      · obtain ⟨k8, R8, c, eD, hc⟩ := z
        have eD : H8 D = some (.lst ((List.range n).map fun j => vN (c j))) := eD
        refine ⟨D, _, rfl, .inl ⟨.inl (.inl eD), fun pr npr => ?_⟩⟩
        have spr := same_new (o := .tup ((List.range n).map fun i => vN (c i))) npr
        have kpr := k8.trans (keep_same spr)
        have kt := R7.keepT kpr
        have dN := dp_keep kt _ _ (lf_encN _ _) dN7
        have dH := dp_keep kt _ _ (lf_encRow _ _) dH6
        have dC := mk_encRow (K := K) (n := n) (h := c) (SqT.of (H := upd H8 pr (.tup ((List.range n).map fun i => vN (c i)))) upd_same)
        have tR := (tA7.keep kpr).r
        have hc : ∀ i, i < n → c i ≤ 99 := hc
        clear kt kpr spr k8 R8 eD sD hDa nD dN7 dH6 tA7 R7 npr
        generalize upd H8 pr (.tup ((List.range n).map fun i => vN (c i))) = H9 at dN dH dC tR
        -- the bad pairs
        have I := dist_ok N
        have bl := bad_lt (n := n) (D := dist n rods) (h := h)
        have bc := bad_count (n := n) (D := dist n rods) (h := h) n8
        refine ⟨_, rfl, _, rfl, n, dist n rods, p, _, h, rfl, tR, dH, n8, fun q8 H10 s10 ⟨nq, x8, e8, d8⟩ => ?_⟩
        have s9 := s10
        refine ⟨_, rfl, _, rfl, n, rods, _, _, h, rfl, dp_same s10 _ _ dN, dp_same s10 _ _ dH, N, hh, fun x H11 s11 dx => ⟨_, rfl, q8, _, rfl, .inl ⟨.inl (.inl (s11 _ _ e8)), fun T nT => ?_⟩⟩⟩
        have sT := same_new (o := .tup x8) nT
        refine ⟨x, .ref T, _, rfl, dp_same sT _ _ dx, .tup (SqT.of upd_same) (dpa_same (s11.trans sT) _ _ d8), al_Ps 27 (by omega), fun H12 s12 => ⟨true, rfl, ?_⟩⟩
        refine iteF ?_
        have sx := s10.trans (s11.trans (sT.trans s12))
        have dN := dp_same sx _ _ dN
        have dH := dp_same sx _ _ dH
        have dC := dp_same sx _ _ dC
        have tR := tR.same sx
        have e8 := (s11.trans (sT.trans s12)) _ _ e8
        have d8 := dpa_same (s11.trans (sT.trans s12)) _ _ d8
        have l8 : x8.length = (bad n (dist n rods) h).length := by
          have := dpa_len d8
          rwa [List.length_map] at this
        clear sx s12 dx sT nT s11 s10 s9 nq
        -- the good sets
        refine ⟨Nat.zero_le _, fun gd ngd => ?_⟩
        have sg := same_new (o := .lst []) ngd
        have cn := subsN_count8 n8
        refine ⟨_, rfl, n, rfl, n8, fun l H13 s13 ⟨nl, ss, eL, dL⟩ => ⟨l, rfl, ⟨ss, .inl (.inl eL)⟩, ?_⟩⟩
        have lgd : l ≠ gd := fun e => by
          rw [e, upd_same] at nl
          cases nl
        have eg : H13 gd = some (.lst []) := s13 _ _ upd_same
        have lx : ss.length = (subsN n).length := by
          have := dpa_len dL
          rwa [List.length_map] at this
        refine for_it (walk_list (xs := ss)) (fun i σ H => Keep gd H13 H ∧ Same H12 H ∧ (∃ xs, H gd = some (.lst xs) ∧ DpAll K H xs ((((subsN n).take i).filter (cov (bad n (dist n rods) h))).map encT)) ∧
            ∃ y6 y10 y11, σ = [some (.ref sc), some (.ref a), some (.ref b), some (vN n), some (.ref p), some (.ref th), y6, some (.ref pr), some (.ref q8), some (.ref gd), y10, y11, none, none, none, none, none, none, none, none, none, none])
          ⟨Keep.refl, sg.trans s13, ⟨[], eg, .nil⟩, _, none, none, rfl⟩ (fun i σ H _ z => .inl (.inl (z.1 l _ lgd eL))) (fun i x σ H14 H15 hi z y => ?_) (fun σ H14 z => ?_)
        · obtain ⟨k14, s14, ⟨xs, eG, dG⟩, y6, y10, y11, rfl⟩ := z
          obtain ⟨rfl, hx⟩ := y
          obtain ⟨e, he, de⟩ := dpa_getMV dL hx
          have kt := keepT_list (K := K) eg k14
          have de := dp_keep kt _ _ (lf_encT _) de
          obtain ⟨t, rfl, hT⟩ := dp_encT de
          have tk : ((subsN n).take (i + 1)).filter (cov (bad n (dist n rods) h)) = ((subsN n).take i).filter (cov (bad n (dist n rods) h)) ++ if cov (bad n (dist n rods) h) e = true then [e] else [] := by
            rw [List.take_add_one, he, List.filter_append]
            cases c : cov (bad n (dist n rods) h) e with
            | true => simp [c]
            | false => simp [c]
          -- rest
          refine ⟨_, rfl, _, rfl, by omega, by omega, fun D nD => ?_⟩
          refine lc_lf (K := K) (List.range n) walk_range0 (by rw [List.length_range]; rfl) (by rw [List.length_range]; exact small (by omega)) nD (fun j => if e.contains j then none else some (nI j))
            (fun j d hd => by
              split at hd
              · cases hd
              · cases hd
                exact lf_int _) (fun _ _ => trivial) (fun j e' x H16 H17 NY NN he' s16 y ky kn => ?_) (fun H16 vs s16 eD dD => ?_)
          · obtain ⟨rfl, rfl⟩ := y
            obtain ⟨hj, rfl⟩ := range_at he'
            refine ⟨rfl, _, rfl, _, rfl, t, _, rfl, .inr (same_seqT s16 hT), rfl, flat_nats e, _, rfl, ?_⟩
            show if (!inV (vN e') (e.map vN)) = true then _ else _
            rw [inV_nats]
            cases ct : e.contains e' with
            | true => exact iteF (kn _ (Same.refl _) (by rw [ct]; rfl))
            | false => exact iteT ⟨_, rfl, ky _ _ _ (Same.refl _) (by rw [ct]; rfl) (.int _)⟩
          · rw [filterMap_rest] at dD
            have ev := dpa_nats dD
            subst ev
            have g8 : gd ≠ q8 := fun e => by
              rw [e, e8] at ngd
              cases ngd
            have e8' := (s14.trans s16) _ _ e8
            have d8' := dpa_same (s14.trans s16) _ _ d8
            -- no bad pair within it?
            refine ⟨_, rfl, q8, rfl, ⟨x8, .inl (.inl e8')⟩, fun D2 nD2 => ?_⟩
            refine lc_lf (K := K) (bad n (dist n rods) h) (walk_list (xs := x8)) l8 (small (by omega)) nD2 (fun z => if ((restOf n e).contains z.1 && (restOf n e).contains z.2) = true then some (encP z) else none)
              (fun e d hd => by
                split at hd
                · cases hd
                  exact lf_encP _
                · cases hd) (fun H18 s18 => .inl (.inl (s18 _ _ e8'))) (fun j e' x H18 H19 NY NN he' s18 y ky kn => ?_) (fun H18 ws s18 eD2 dD2 => ?_)
            · obtain ⟨rfl, hx'⟩ := y
              obtain ⟨e2, he2, de2⟩ := dpa_getMV d8' hx'
              rw [he'] at he2
              cases he2
              have de3 := dp_same s18 _ _ de2
              obtain ⟨t2, rfl, hT2⟩ := dp_encP de3
              have hD18 := (show SqL K _ D ((restOf n e).map vN) from .inl (.inl (s18 _ _ eD)))
              refine ⟨rfl, _, rfl, t2, _, 0, _, rfl, rfl, hT2, rfl, _, rfl, D, _, rfl, .inl hD18, rfl, flat_nats (restOf n e), _, rfl, ?_⟩
              show if inV (vN e'.1) ((restOf n e).map vN) = true then _ else _
              rw [inV_nats]
              cases c1 : (restOf n e).contains e'.1 with
              | false => exact iteF (iteF (kn _ (Same.refl _) (by rw [c1]; rfl)))
              | true =>
                refine iteT ⟨_, rfl, t2, _, 1, _, rfl, rfl, hT2, rfl, _, rfl, D, _, rfl, .inl hD18, rfl, flat_nats (restOf n e), _, rfl, ?_⟩
                show if inV (vN e'.2) ((restOf n e).map vN) = true then _ else _
                rw [inV_nats]
                cases c2 : (restOf n e).contains e'.2 with
                | false => exact iteF (kn _ (Same.refl _) (by rw [c1, c2]; rfl))
                | true => exact iteT ⟨_, rfl, ky _ _ _ (Same.refl _) (by rw [c1, c2]; rfl) de3⟩
            · rw [filterMap_if] at dD2
              refine ⟨Nat.zero_le _, fun R nR => ?_⟩
              have sR := same_new (o := .lst []) nR
              refine ⟨.list (((bad n (dist n rods) h).filter fun z : Nat × Nat => (restOf n e).contains z.1 && (restOf n e).contains z.2).map encP), .list [], .lst (.inl (.inl (sR _ _ eD2))) (dpa_same sR _ _ dD2), .lst (.inl (.inl upd_same)) .nil, shapedL_P _, shapedL_nil, _, rfl, ?_⟩
              rw [eqv_nilL, emp_map, cov_rest bl]
              have sl := s16.trans (s18.trans sR)
              have eG' := sl _ _ eG
              have lg : xs.length ≤ 256 := by
                have a1 := dpa_len dG
                rw [List.length_map] at a1
                have a2 := List.length_filter_le (cov (bad n (dist n rods) h)) ((subsN n).take i)
                have a3 := List.length_take_le' i (subsN n)
                omega
              refine ite2 (fun g => ?_) (fun g => ?_)
              · rw [if_pos g] at tk
                refine ⟨_, rfl, .inl ⟨rfl, _, .inl (.inl eG')⟩, _, rfl, gd, xs, _, rfl, rfl, eG', small (by omega), ?_⟩
                refine ⟨(k14.trans (keep_same sl)).trans keep_upd, same_in (s14.trans sl) ngd, ⟨_, upd_same, ?_⟩, _, _, _, rfl⟩
                rw [tk, List.map_append]
                have kt2 := keepT_lst (K := K) (o := .lst (xs ++ [V.ref t])) eG'
                exact dpa_app (dpa_keep kt2 _ _ (lf_map lf_encT _) (dpa_same sl _ _ dG)) (dpa_one (dp_keep kt2 _ _ (lf_encT _) (dp_same sl _ _ de)))
              · rw [if_neg g, List.append_nil] at tk
                refine ⟨k14.trans (keep_same sl), s14.trans sl, ⟨xs, eG', ?_⟩, _, _, _, rfl⟩
                rw [tk]
                exact dpa_same sl _ _ dG
        · obtain ⟨k14, s14, ⟨xs, eG, dG⟩, y6, y10, y11, rfl⟩ := z
          rw [lx, List.take_length] at dG
          have dG : DpAll K H14 xs ((good n (bad n (dist n rods) h)).map encT) := dG
          have dN := dp_same s14 _ _ dN
          have dH := dp_same s14 _ _ dH
          have dC := dp_same s14 _ _ dC
          have tR := tR.same s14
          have e8 := s14 _ _ e8
          have d8 := dpa_same s14 _ _ d8
          clear k14 s14 lx eg lgd eL dL nl ss s13 sg ngd
          have gc := good_count (ps := bad n (dist n rods) h) n8
          have lg : xs.length = (good n (bad n (dist n rods) h)).length := by
            have := dpa_len dG
            rwa [List.length_map] at this
          obtain ⟨s0, F0, _⟩ := best_few bl
          have s0l := subsN_le (mem_good.mp F0.good).1
          -- size
          refine ⟨_, rfl, gd, rfl, ⟨xs, .inl (.inl eG)⟩, fun D nD => ?_⟩
          refine lc_lfY (K := K) (good n (bad n (dist n rods) h)) (walk_list (xs := xs)) lg (small (by omega)) nD (fun t => .int (t.length : Int)) (fun _ => lf_int _) (fun H15 s15 => .inl (.inl (s15 _ _ eG))) (fun i e x H15 H16 NY he s15 y ky => ?_) (fun H15 ws s15 eD dD => ?_) g_name
          · obtain ⟨rfl, hx⟩ := y
            obtain ⟨e', he', de⟩ := dpa_getMV dG hx
            rw [he] at he'
            cases he'
            obtain ⟨t, rfl, hT⟩ := dp_encT (dp_same s15 _ _ de)
            refine ⟨rfl, _, rfl, t, _, rfl, .inr hT, ?_⟩
            rw [List.length_map]
            exact ky _ _ (Same.refl _) (.int _)
          · rw [dpa_intsM dD] at eD
            refine ⟨D, _, rfl, .inl (.inl eD), by rw [List.length_map]; exact List.length_pos_iff.mpr (good_ne bl), fun m hm1 hm2 => ?_⟩
            have em := few_size F0 hm1 hm2
            subst em
            -- short
            have eG := s15 _ _ eG
            have dG := dpa_same s15 _ _ dG
            refine ⟨_, rfl, gd, rfl, ⟨xs, .inl (.inl eG)⟩, fun D2 nD2 => ?_⟩
            refine lc_lf (K := K) (good n (bad n (dist n rods) h)) (walk_list (xs := xs)) lg (small (by omega)) nD2 (fun t => if (t.length == s0.length) = true then some (encT t) else none)
              (fun e d hd => by
                split at hd
                · cases hd
                  exact lf_encT _
                · cases hd) (fun H16 s16 => .inl (.inl (s16 _ _ eG))) (fun i e x H16 H17 NY NN he s16 y ky kn => ?_) (fun H16 ws2 s16 eD2 dD2 => ?_)
            · obtain ⟨rfl, hx⟩ := y
              obtain ⟨e', he', de⟩ := dpa_getMV dG hx
              rw [he] at he'
              cases he'
              have de3 := dp_same s16 _ _ de
              obtain ⟨t, rfl, hT⟩ := dp_encT de3
              refine ⟨rfl, _, rfl, t, _, rfl, .inr hT, _, rfl, rfl, _, rfl, ?_⟩
              rw [List.length_map]
              by_cases c1 : e.length = s0.length
              · exact iteD (by rw [c1]) ⟨_, rfl, ky _ _ _ (Same.refl _) (by rw [c1, beq_self_eq_true]; rfl) de3⟩
              · refine iteN (fun z => c1 (Int.ofNat.inj (V.int.inj z))) (kn _ (Same.refl _) ?_)
                have : (e.length == s0.length) = false := beq_eq_false_iff_ne.mpr c1
                rw [this]
                rfl
            · rw [filterMap_if] at dD2
              have dD2 : DpAll K H16 ws2 ((shortOf n (bad n (dist n rods) h) s0.length).map encT) := dD2
              obtain ⟨bs, b1, b2', b3⟩ := pair_up dD2
              have mb : ∀ z ∈ bs, ∃ t, z.2 = encT t := fun z hz => by
                have m := List.mem_map_of_mem (f := Prod.snd) hz
                rw [b2'] at m
                obtain ⟨t, _, et⟩ := List.mem_map.mp m
                exact ⟨t, et.symm⟩
              refine ⟨D2, bs, rfl, by rw [b1]; exact .inl (.inl eD2), b3, fun z hz z' hz' => ?_, sbl_short F0 b2', fun z hz => ?_, fun sh nsh => ?_⟩
              · obtain ⟨t, et⟩ := mb z hz
                obtain ⟨t', et'⟩ := mb z' hz'
                rw [et, et']
                exact alike_T t t'
              · obtain ⟨t, et⟩ := mb z hz
                rw [et, depth_T]
                decide
              have ssh := same_new (o := .lst ((sortD bs).map Prod.fst)) nsh
              have b4 := sortD_map (enc := encT) (le := leT) b2' (fun a _ b _ => by
                rw [dlt_T]
                rfl)
              obtain ⟨sr, hsr⟩ := short_head F0
              have lsh : (s0 :: sr).length = (shortOf n (bad n (dist n rods) h) s0.length).length := by
                rw [← hsr]
                exact (List.mergeSort_perm _ leT).length_eq
              rw [hsr] at b4
              have dS : DpAll K (upd H16 sh (.lst ((sortD bs).map Prod.fst))) ((sortD bs).map Prod.fst) ((s0 :: sr).map encT) := by
                rw [← b4]
                exact dpa_same ssh _ _ (dpa_of_pairs fun z hz => b3 z (sortD_mem.mp hz))
              have eS : upd H16 sh (.lst ((sortD bs).map Prod.fst)) sh = some (.lst ((sortD bs).map Prod.fst)) := upd_same
              have sx := s15.trans (s16.trans ssh)
              have dN := dp_same sx _ _ dN
              have dH := dp_same sx _ _ dH
              have dC := dp_same sx _ _ dC
              have tR := tR.same sx
              have e8 := sx _ _ e8
              have d8 := dpa_same sx _ _ d8
              have eG := (s16.trans ssh) _ _ eG
              have dG := dpa_same (s16.trans ssh) _ _ dG
              generalize upd H16 sh (.lst ((sortD bs).map Prod.fst)) = H17 at dS eS dN dH dC tR e8 d8 eG dG
              generalize (sortD bs).map Prod.fst = us at dS eS
              clear sx ssh nsh b4 b3 b2' b1 mb eD2 dD2 s16 s15 eD dD nD nD2 hm1 hm2
              -- the fewest places, their number
              obtain ⟨v0, ev0, dv0⟩ := dpa_getM dS (i := 0) (e := s0) rfl
              have lus : us.length = (shortOf n (bad n (dist n rods) h) s0.length).length := by
                have := dpa_len dS
                rw [List.length_map] at this
                omega
              refine ⟨_, rfl, _, rfl, n, rods, _, _, h, rfl, dN, dH, N, hh, fun x H18 s' s18 F' dx => ?_⟩
              rw [F'.uniq F0] at dx
              clear F' s'
              refine ⟨_, rfl, _, rfl, n, rods, _, _, h, rfl, dp_same s18 _ _ dN, dp_same s18 _ _ dH, N, hh, fun H19 s' s19 F' => ?_⟩
              rw [F'.uniq F0]
              clear F' s'
              refine ⟨by show 2 ≤ sizeLine; decide, fun L nL => ?_⟩
              have sL := same_new (o := .lst [x, vN ((good n (bad n (dist n rods) h)).filter fun t => t.length == s0.length).length]) nL
              have s20 := s18.trans (s19.trans sL)
              refine ⟨_, rfl, sh, _, 0, _, rfl, rfl, .inl (.inl (s20 _ _ eS)), at0 ev0, _, rfl, sh, _, rfl, .inl (.inl (.inl (s20 _ _ eS))), by show 2 ≤ sizeLine; decide, fun L2 nL2 => ?_⟩
              have sL2 := same_new (o := .lst [v0, .int (us.length : Int)]) nL2
              have s21 := s20.trans sL2
              refine ⟨.ref L, .ref L2, .list [encT s0, nI (shortOf n (bad n (dist n rods) h) s0.length).length], rfl, .lst (.inl (.inl (sL2 _ _ upd_same))) (.cons (dp_same (s19.trans (sL.trans sL2)) _ _ dx) (.cons (.int _) .nil)), ?_, al_two 29 (al_T 27 (by omega)) (al_int 28 _) _ (.inr rfl), fun H22 s22 => ⟨true, rfl, iteF ?_⟩⟩
              · rw [← lus]
                exact .lst (.inl (.inl upd_same)) (.cons (dp_same s21 _ _ dv0) (.cons (.int _) .nil))
              have sx := s21.trans s22
              have dN := dp_same sx _ _ dN
              have dH := dp_same sx _ _ dH
              have dC := dp_same sx _ _ dC
              have tR := tR.same sx
              have e8 := sx _ _ e8
              have d8 := dpa_same sx _ _ d8
              have eG := sx _ _ eG
              have dG := dpa_same sx _ _ dG
              have eS := sx _ _ eS
              have dv0 := dp_same sx _ _ dv0
              clear sx s22 s21 sL2 nL2 s20 sL nL s19 s18 dx lus dS
              -- costs
              obtain ⟨pr', epr, hPr⟩ := dp_encRow dC
              cases epr
              refine ⟨_, rfl, gd, rfl, ⟨xs, .inl (.inl eG)⟩, fun D nD => ?_⟩
              refine lc_lfY (K := K) (good n (bad n (dist n rods) h)) (walk_list (xs := xs)) lg (small (by omega)) nD (fun s => encC (prS c s) s) (fun _ => lf_encC _ _) (fun H4 s4 => .inl (.inl (s4 _ _ eG))) (fun i e x H4 H5 NY he s4 y ky => ?_) (fun H4 ws s4 eD dA => ?_) g_name
              · obtain ⟨rfl, hx⟩ := y
                obtain ⟨e', he', de⟩ := dpa_getMV dG hx
                rw [he] at he'
                cases he'
                have me := mem_good.mp (List.mem_of_getElem? he)
                have le := subsN_le me.1
                obtain ⟨t, rfl, hT⟩ := dp_encT (dp_same s4 _ _ de)
                refine ⟨rfl, _, rfl, t, rfl, ⟨_, hT⟩, fun D3 nD3 => ?_⟩
                refine lc_lfY (K := K) e (walk_tup (xs := e.map vN)) (by rw [List.length_map]) (small (by omega)) nD3 (fun i => nI (c i)) (fun _ => lf_int _) (fun H6 s6 => same_seqT s6 hT) (fun j e2 x H6 H7 NY2 he2 s6 y ky2 => ?_) (fun H6 us s6 eD3 dA3 => ?_) g_name
                · obtain ⟨rfl, hx⟩ := y
                  have ex : x = vN e2 := mapIs (f := vN) hx he2
                  subst ex
                  have l2 := subsN_lt me.1 e2 (List.mem_of_getElem? he2)
                  exact ⟨rfl, _, rfl, _, rfl, pr, _, _, _, rfl, rfl, same_seqT (s4.trans s6) hPr, at0 (rangeAt (fun i => vN (c i)) l2), ky2 _ _ (Same.refl _) (.int _)⟩
                · have eI : us = (e.map fun i => (c i : Int)).map V.int := dpa_intsM (g := fun i => (c i : Int)) dA3
                  rw [eI] at eD3
                  refine ⟨D3, _, rfl, .inl (.inl eD3), _, rfl, by show 2 ≤ sizeLine; decide, fun R nR => ?_⟩
                  have sR := same_new (o := .tup [V.int (e.map fun i => (c i : Int)).sum, V.ref t]) nR
                  exact ky _ _ (s6.trans sR) (.tup (SqT.of upd_same) (.cons (.int _) (.cons (mk_encT (same_seqT (s6.trans sR) hT)) .nil)))
              · have em : ((good n (bad n (dist n rods) h)).map fun s => (prS c s, s)).map (fun g : Int × List Nat => encC g.1 g.2) = (good n (bad n (dist n rods) h)).map fun s => encC (prS c s) s := by
                  rw [List.map_map]
                  rfl
                -- the cheapest
                refine ⟨_, rfl, _, rfl, _, rfl, n, rods, _, _, _, h, c, rfl, dp_same s4 _ _ dN, dp_same s4 _ _ dH, dp_same s4 _ _ dC, N, hh, hc, fun x H5 s5 dx => ⟨_, rfl, ?_⟩⟩
                have eD5 := s5 _ _ eD
                have dA5 := dpa_same s5 _ _ dA
                rw [← em] at dA5
                dsimp only [tNil]
                refine use_minC eD5 dA5 (fun e => good_ne bl (List.map_eq_nil_iff.mp e)) fun mv dM => ?_
                rw [em] at dM
                refine ⟨x, mv, cheapD n (bad n (dist n rods) h) c, rfl, dx, dM, al_cheap 27 bl n8, fun H6 s6 => ⟨true, rfl, iteF ?_⟩⟩
                have sx := s4.trans (s5.trans s6)
                have dN := dp_same sx _ _ dN
                have dH := dp_same sx _ _ dH
                have tR := tR.same sx
                have e8 := sx _ _ e8
                have d8 := dpa_same sx _ _ d8
                have eS := sx _ _ eS
                have dv0 := dp_same sx _ _ dv0
                clear sx s4 s5 s6 dM dA5 eD5 dx em dA eD hPr dC eG dG hc
                -- kept
                obtain ⟨t0, rfl, hT0⟩ := dp_encT dv0
                obtain ⟨th', eth, hH⟩ := dp_encRow dH
                cases eth
                refine ⟨_, rfl, _, rfl, by omega, by omega, fun D nD => ?_⟩
                refine lc_lf (K := K) (List.range n) walk_range0 (by rw [List.length_range]; rfl) (by rw [List.length_range]; exact small (by omega)) nD (fun j => if s0.contains j then none else some (nI j))
                  (fun j d hd => by
                    split at hd
                    · cases hd
                    · cases hd
                      exact lf_int _) (fun _ _ => trivial) (fun j e' x H7 H8 NY NN he' s7 y ky kn => ?_) (fun H7 ks s7 eK dK => ?_)
                · obtain ⟨rfl, rfl⟩ := y
                  obtain ⟨hj, rfl⟩ := range_at he'
                  refine ⟨rfl, _, rfl, _, rfl, sh, _, 0, _, rfl, rfl, .inl (.inl (s7 _ _ eS)), at0 ev0, t0, _, rfl, .inr (same_seqT s7 hT0), rfl, flat_nats s0, _, rfl, ?_⟩
                  show if (!inV (vN e') (s0.map vN)) = true then _ else _
                  rw [inV_nats]
                  cases ct : s0.contains e' with
                  | true => exact iteF (kn _ (Same.refl _) (by rw [ct]; rfl))
                  | false => exact iteT ⟨_, rfl, ky _ _ _ (Same.refl _) (by rw [ct]; rfl) (.int _)⟩
                · rw [filterMap_rest] at dK
                  have ev := dpa_nats dK
                  subst ev
                  have lr := restOf_le n s0
                  have lrm : ∀ {i e2 : Nat}, (restOf n s0)[i]? = some e2 → e2 < n := fun he => List.mem_range.mp (List.mem_filter.mp (List.mem_of_getElem? he)).1
                  -- due
                  refine ⟨_, rfl, _, rfl, by omega, by omega, fun D2 nD2 => ?_⟩
                  refine lc_lfY (K := K) (List.range n) walk_range0 (by rw [List.length_range]; rfl) (by rw [List.length_range]; exact small (by omega)) nD2 (fun j => .int (mend n (dist n rods) h s0 j)) (fun _ => lf_int _) (fun _ _ => trivial) (fun j e x H8 H9 NY he s8 y ky => ?_) (fun H8 ws s8 eD2 dA2 => ?_) g_name
                  · obtain ⟨rfl, rfl⟩ := y
                    obtain ⟨hj, rfl⟩ := range_at he
                    refine ⟨rfl, by show 1 ≤ sizeLine; decide, fun Z nZ => ?_⟩
                    have sZ := same_new (o := .lst [V.int 0]) nZ
                    refine ⟨_, rfl, D, rfl, ⟨_, .inl (.inl ((s8.trans sZ) _ _ eK))⟩, fun D3 nD3 => ?_⟩
                    refine lc_lfY (K := K) (restOf n s0) (walk_list (xs := (restOf n s0).map vN)) (by rw [List.length_map]) (small (by omega)) nD3 (fun i => .int ((h i : Int) - (dist n rods i e : Int))) (fun _ => lf_int _) (fun H6 s6 => .inl (.inl ((s8.trans (sZ.trans s6)) _ _ eK))) (fun i e2 x H6 H7 NY2 he2 s6 y ky2 => ?_) (fun H6 us s6 eD3 dA3 => ?_) g_name
                    · obtain ⟨rfl, hx⟩ := y
                      have ex : x = vN e2 := mapIs (f := vN) hx he2
                      subst ex
                      have l2 := lrm he2
                      have sy := s7.trans (s8.trans (sZ.trans s6))
                      obtain ⟨ts, r, eT, aT, eR⟩ := (tR.same sy).at2 (i := e2) l2
                      exact ⟨rfl, _, rfl, _, rfl, th, _, _, _, rfl, rfl, same_seqT sy hH, at0 (rangeAt (fun i => vN (h i)) l2), _, rfl, _, rfl, p, _, _, _, rfl, rfl, .inl (.inl eT), at0 aT, _, rfl, r, _, _, _, rfl, rfl, .inl (.inl eR), at0 (rangeAt (fun j => vN (dist n rods e2 j)) hj), _, _, rfl, rfl, ky2 _ _ (Same.refl _) (.int _)⟩
                    · rw [dpa_intsM dA3] at eD3
                      refine ⟨Z, D3, _, _, rfl, rfl, s6 _ _ upd_same, eD3, Nat.le_of_lt (small (by simp; omega)), fun S nS => ?_⟩
                      have sS := same_new (o := .lst ([V.int 0] ++ ((restOf n s0).map fun i => ((h i : Int) - (dist n rods i e : Int))).map V.int)) nS
                      refine ⟨S, 0 :: (restOf n s0).map fun i => ((h i : Int) - (dist n rods i e : Int)), rfl, .inl (.inl upd_same), Nat.succ_pos _, fun m hm1 hm2 => ?_⟩
                      have em : m = mend n (dist n rods) h s0 e := mx_of hm1 hm2
                      subst em
                      exact ky _ _ (sZ.trans (s6.trans sS)) (.int _)
                  · rw [dpa_intsM dA2] at eD2
                    refine ⟨D2, _, rfl, .inl ⟨.inl (.inl eD2), fun du ndu => ?_⟩⟩
                    have sdu := same_new (o := .tup (((List.range n).map fun j => mend n (dist n rods) h s0 j).map V.int)) ndu
                    have hDu : SqT K (upd H8 du (.tup (((List.range n).map fun j => mend n (dist n rods) h s0 j).map V.int))) du (((List.range n).map fun j => mend n (dist n rods) h s0 j).map V.int) := SqT.of upd_same
                    have sx := s7.trans (s8.trans sdu)
                    have dN := dp_same sx _ _ dN
                    have dH := dp_same sx _ _ dH
                    have hH := same_seqT sx hH
                    have e8 := sx _ _ e8
                    have d8 := dpa_same sx _ _ d8
                    have eK := (s8.trans sdu) _ _ eK
                    clear sx dA2 eD2 sdu ndu s8 nD2 dK nD eS hT0 ev0 tR s7
                    generalize upd H8 du (.tup (((List.range n).map fun j => mend n (dist n rods) h s0 j).map V.int)) = H9 at hDu dN dH hH e8 d8 eK
                    -- the row mended
                    refine ⟨_, rfl, _, rfl, n, rods, _, _, h, rfl, dN, dH, N, hh, fun x H10 s' s10 F' dx => ?_⟩
                    rw [F'.uniq F0] at dx
                    clear F' s'
                    refine ⟨_, rfl, x, .ref du, encI ((List.range n).map (mend n (dist n rods) h s0)), rfl, dx, mk_encI (same_seqT s10 hDu), al_I 28 (by rw [List.length_map, List.length_range]; omega), fun H11 s11 => ⟨true, rfl, iteF ?_⟩⟩
                    have sx := s10.trans s11
                    refine ⟨_, rfl, D, rfl, ⟨_, .inl (.inl (sx _ _ eK))⟩, fun D4 nD4 => ?_⟩
                    refine lc_lf (K := K) (restOf n s0) (walk_list (xs := (restOf n s0).map vN)) (by rw [List.length_map]) (small (by omega)) nD4 (fun _ => none) (fun e d hd => nomatch hd) (fun H6 s6 => .inl (.inl ((sx.trans s6) _ _ eK))) (fun i e2 x H6 H7 NY NN he2 s6 y ky kn => ?_) (fun H6 us s6 eD4 dA4 => ?_)
                    · obtain ⟨rfl, hx⟩ := y
                      have ex : x = vN e2 := mapIs (f := vN) hx he2
                      subst ex
                      have l2 := lrm he2
                      have mk := mend_keeps I (mem_good.mp F0.good).2 (List.mem_of_getElem? he2)
                      have at2 : (((List.range n).map fun j => mend n (dist n rods) h s0 j).map V.int)[e2]? = some (V.int (mend n (dist n rods) h s0 e2)) := by simp [l2]
                      refine ⟨rfl, _, rfl, _, rfl, du, _, _, _, rfl, rfl, same_seqT (sx.trans s6) hDu, at0 at2, _, rfl, _, rfl, th, _, _, _, rfl, rfl, same_seqT (sx.trans s6) hH, at0 (rangeAt (fun i => vN (h i)) l2), rfl, _, rfl, ?_⟩
                      exact iteNS (congrArg V.int mk) (kn _ (Same.refl _) rfl)
                    · have en : (restOf n s0).filterMap (fun _ : Nat => (none : Option PyData)) = [] := by simp
                      rw [en] at dA4
                      cases dA4
                      refine ⟨Nat.zero_le _, fun R nR => ?_⟩
                      have sR := same_new (o := .lst []) nR
                      refine ⟨.list [], .list [], .lst (.inl (.inl (sR _ _ eD4))) .nil, .lst (.inl (.inl upd_same)) .nil, shapedL_nil, shapedL_nil, _, rfl, ?_⟩
                      rw [eqv_nilL]
                      refine iteF ?_
                      have sx := sx.trans (s6.trans sR)
                      have dN := dp_same sx _ _ dN
                      have dH := dp_same sx _ _ dH
                      have e8 := sx _ _ e8
                      have d8 := dpa_same sx _ _ d8
                      have fb := few_bounds bl F0
                      clear sx sR nR s6 eD4 nD4 s10 s11 dx eK hH hDu
                      -- the greatest number of pairs apart
                      refine ⟨_, rfl, q8, x8, rfl, .inl (.inl (.inl e8)), _, _, rfl, rfl, _, rfl, ite2 (fun c13 => ?_) (fun c13 => ?_)⟩
                      · refine ⟨_, rfl, q8, x8, _, rfl, e8, d8, by omega, by omega, fun H12 s12 => ?_⟩
                        refine ⟨_, rfl, _, rfl, n, rods, _, _, h, rfl, dp_same s12 _ _ dN, dp_same s12 _ _ dH, N, hh, fun H13 s13 => ?_⟩
                        refine ⟨_, rfl, rfl, false, rfl, iteF ?_⟩
                        refine ⟨_, rfl, _, rfl, _, _, nI (mt (bad n (dist n rods) h)), rfl, .int _, .int _, al_int 29 _, fun H14 s14 => ⟨true, rfl, iteT ?_⟩⟩
                        refine ⟨_, rfl, _, rfl, _, _, rfl, rfl, _, rfl, ?_⟩
                        refine iteD (Int.ofNat_le.mpr fb.1) ⟨_, rfl, _, _, rfl, rfl, .inl ⟨by decide, by decide⟩, _, _, rfl, rfl, ?_⟩
                        exact qT (by omega) (q _)
                      · refine ⟨_, rfl, _, rfl, n, rods, _, _, h, rfl, dN, dH, N, hh, fun H13 s13 => ?_⟩
                        refine ⟨_, rfl, rfl, true, rfl, iteT ⟨true, rfl, iteT ?_⟩⟩
                        refine ⟨_, rfl, _, rfl, _, _, rfl, rfl, _, rfl, ?_⟩
                        refine iteD (Int.ofNat_le.mpr fb.1) ⟨_, rfl, _, _, rfl, rfl, .inl ⟨by decide, by decide⟩, _, _, rfl, rfl, ?_⟩
                        exact qT (by omega) (q _)
end
end Lk

set_option Elab.async false
set_option linter.all false
set_option maxRecDepth 100000
set_option maxHeartbeats 0
namespace Lk
open PySem PySem.Spec PyProof.Rows L2
/-! ### the head: facts by names, the run -/
def dd (x : Str) (st : Stmt) : He.DefD := ⟨(x, none), x, x, defArgs st, defBody st, defScope st, [], []⟩
def fnL : List He.DefD := [dd "whole" st_whole, dd "within" st_within, dd "tuple_of" st_tuple_of, dd "is_rod" st_is_rod, dd "need_net" st_need_net, dd "need_row" st_need_row, dd "need_prices" st_need_prices, dd "table_of" st_table_of, dd "spans" st_spans, dd "need_both" st_need_both, dd "bad_pairs" st_bad_pairs, dd "pairs_of" st_pairs_of, dd "subsets" st_subsets, dd "covers" st_covers, dd "fewest_places" st_fewest_places, dd "cheapest_places" st_cheapest_places, dd "mended" st_mended, dd "number_of_fewest" st_number_of_fewest, dd "disjoint_pairs" st_disjoint_pairs, dd "matched" st_matched, dd "_law_pairs" st_l_pairs, dd "_law_gaps" st_l_gaps, dd "_law_taken" st_l_taken, dd "_law_net" st_l_net, dd "_law_pick" st_l_pick, dd "_law_far" st_l_far, dd "_law_slope" st_l_slope, dd "_law_alike" st_l_alike, dd "_law_sets" st_l_sets, dd "_law_most_pairs" st_l_most_pairs, dd "law" st_law]
def faL : List He.Fa := [.glo "whole", .glo "within", .glo "tuple_of", .glo "is_rod", .glo "need_net", .glo "need_row", .glo "need_prices", .glo "table_of", .glo "spans", .glo "need_both", .glo "bad_pairs", .glo "pairs_of", .glo "subsets", .glo "covers", .glo "fewest_places", .glo "cheapest_places", .glo "mended", .glo "number_of_fewest", .glo "disjoint_pairs", .glo "matched", .glo "_law_pairs", .glo "_law_gaps", .glo "_law_taken", .glo "_law_net", .glo "_law_pick", .glo "_law_far", .glo "_law_slope", .glo "_law_alike", .glo "_law_sets", .glo "_law_most_pairs", .glo "law", .free "isinstance", .free "int", .free "bool", .free "tuple", .free "list", .free "str", .free "len", .free "all", .free "enumerate", .free "range", .free "min", .free "max", .free "abs", .free "sum", .free "sorted", .int "MOST_PLACES" 8, .int "MOST_LENGTH" 9, .int "MOST_HEIGHT" 99, .int "MOST_PRICE" 99]
def looseL : List PySem.Str := (["TowerError", "BadNet", "BadRow", "BadPrices", "MOST_PLACES", "MOST_LENGTH", "MOST_HEIGHT", "MOST_PRICE", "whole", "within", "tuple_of", "is_rod", "need_net"] : List PySem.Str) ++ (["need_row", "need_prices", "table_of", "spans", "need_both", "bad_pairs", "pairs_of", "subsets", "covers", "fewest_places", "cheapest_places", "mended", "number_of_fewest"] : List PySem.Str) ++ (["disjoint_pairs", "matched", "_law_pairs", "_law_gaps", "_law_taken", "_law_net", "_law_pick", "_law_far", "_law_slope", "_law_alike", "_law_sets", "_law_most_pairs"] : List PySem.Str)
abbrev Rw : PySem.W.OpenRow := PySem.W.OpenLaw.row PySem.Challenge.rw_littowers_k24_whole_fewest_places
abbrev hkL : PySem.W.Hook := He.hookD 3 faL fnL
def obL (s : PySem.W.SharedT) : He.AlD := He.obsDG 3 faL fnL (HandSHeadRun.getT s)
theorem obL_eq (s : PySem.W.SharedT) : obL s = hkL.obs s.abs := He.obsDG_eq (HandSHeadRun.getT_eq s)
theorem runL (w : World) : HandSHeadRun.RunEq Rw (PySem.W.view Rw.prog [44]) hkL obL 6000 looseL w := by
  intro os
  kernel_rfl
theorem std_of {K : PySem.W.Frag} {h : Heap} {mg : Str → Option Value} (X : K.In h) (G : h.Ns mainGlobals mg) (c : He.SaysD faL fnL K) (i : Nat) {x : Str} {st : Stmt} (hd : fnL[i]? = some (dd x st)) (hf : faL[i]? = some (.glo x)) : Std K mg x st := by
  obtain ⟨fd, F⟩ := c.def_ i hd
  exact ⟨_, fd, F, He.glo_ok X G (c.fact i hf)⟩
theorem bl_of {K : PySem.W.Frag} {h : Heap} {mg : Str → Option Value} (X : K.In h) (G : h.Ns mainGlobals mg) (c : He.SaysD faL fnL K) : Bl mg :=
  ⟨He.free_ok X G (c.fact 31 (f := .free "isinstance") rfl), He.free_ok X G (c.fact 32 (f := .free "int") rfl), He.free_ok X G (c.fact 33 (f := .free "bool") rfl), He.free_ok X G (c.fact 34 (f := .free "tuple") rfl), He.free_ok X G (c.fact 35 (f := .free "list") rfl), He.free_ok X G (c.fact 36 (f := .free "str") rfl), He.free_ok X G (c.fact 37 (f := .free "len") rfl), He.free_ok X G (c.fact 38 (f := .free "all") rfl), He.free_ok X G (c.fact 39 (f := .free "enumerate") rfl), He.free_ok X G (c.fact 40 (f := .free "range") rfl), He.free_ok X G (c.fact 41 (f := .free "min") rfl), He.free_ok X G (c.fact 42 (f := .free "max") rfl), He.free_ok X G (c.fact 43 (f := .free "abs") rfl), He.free_ok X G (c.fact 44 (f := .free "sum") rfl), He.free_ok X G (c.fact 45 (f := .free "sorted") rfl), He.int_ok X G (c.fact 46 (f := .int "MOST_PLACES" 8) rfl), He.int_ok X G (c.fact 47 (f := .int "MOST_LENGTH" 9) rfl), He.int_ok X G (c.fact 48 (f := .int "MOST_HEIGHT" 99) rfl), He.int_ok X G (c.fact 49 (f := .int "MOST_PRICE" 99) rfl)⟩
theorem parts_of {P : Program} {w : World} {K : PySem.W.Frag} {h : Heap} {mg : Str → Option Value} (X : K.In h) (G : h.Ns mainGlobals mg) (c : He.SaysD faL fnL K) (base : Heap) : Parts P w K mg base := by
  have B := bl_of X G c
  have S_whole : Std K mg "whole" st_whole := std_of X G c 0 rfl rfl
  have S_within : Std K mg "within" st_within := std_of X G c 1 rfl rfl
  have S_tuple_of : Std K mg "tuple_of" st_tuple_of := std_of X G c 2 rfl rfl
  have S_is_rod : Std K mg "is_rod" st_is_rod := std_of X G c 3 rfl rfl
  have S_need_net : Std K mg "need_net" st_need_net := std_of X G c 4 rfl rfl
  have S_need_row : Std K mg "need_row" st_need_row := std_of X G c 5 rfl rfl
  have S_need_prices : Std K mg "need_prices" st_need_prices := std_of X G c 6 rfl rfl
  have S_table_of : Std K mg "table_of" st_table_of := std_of X G c 7 rfl rfl
  have S_spans : Std K mg "spans" st_spans := std_of X G c 8 rfl rfl
  have S_need_both : Std K mg "need_both" st_need_both := std_of X G c 9 rfl rfl
  have S_bad_pairs : Std K mg "bad_pairs" st_bad_pairs := std_of X G c 10 rfl rfl
  have S_pairs_of : Std K mg "pairs_of" st_pairs_of := std_of X G c 11 rfl rfl
  have S_subsets : Std K mg "subsets" st_subsets := std_of X G c 12 rfl rfl
  have S_covers : Std K mg "covers" st_covers := std_of X G c 13 rfl rfl
  have S_fewest_places : Std K mg "fewest_places" st_fewest_places := std_of X G c 14 rfl rfl
  have S_cheapest_places : Std K mg "cheapest_places" st_cheapest_places := std_of X G c 15 rfl rfl
  have S_mended : Std K mg "mended" st_mended := std_of X G c 16 rfl rfl
  have S_number_of_fewest : Std K mg "number_of_fewest" st_number_of_fewest := std_of X G c 17 rfl rfl
  have S_disjoint_pairs : Std K mg "disjoint_pairs" st_disjoint_pairs := std_of X G c 18 rfl rfl
  have S_matched : Std K mg "matched" st_matched := std_of X G c 19 rfl rfl
  have S_l_pairs : Std K mg "_law_pairs" st_l_pairs := std_of X G c 20 rfl rfl
  have S_l_gaps : Std K mg "_law_gaps" st_l_gaps := std_of X G c 21 rfl rfl
  have S_l_taken : Std K mg "_law_taken" st_l_taken := std_of X G c 22 rfl rfl
  have S_l_net : Std K mg "_law_net" st_l_net := std_of X G c 23 rfl rfl
  have S_l_pick : Std K mg "_law_pick" st_l_pick := std_of X G c 24 rfl rfl
  have S_l_far : Std K mg "_law_far" st_l_far := std_of X G c 25 rfl rfl
  have S_l_slope : Std K mg "_law_slope" st_l_slope := std_of X G c 26 rfl rfl
  have S_l_alike : Std K mg "_law_alike" st_l_alike := std_of X G c 27 rfl rfl
  have S_l_sets : Std K mg "_law_sets" st_l_sets := std_of X G c 28 rfl rfl
  have S_l_most_pairs : Std K mg "_law_most_pairs" st_l_most_pairs := std_of X G c 29 rfl rfl
  have o_whole := ok_whole (P := P) (w := w) (base := base) S_whole B
  have o_within := ok_within S_within B o_whole
  have o_tuple_of := ok_tuple_of (P := P) (w := w) (base := base) S_tuple_of B
  have o_is_rod := ok_is_rod S_is_rod B o_whole o_tuple_of
  have o_need_row := ok_need_row S_need_row B o_within o_tuple_of
  have o_need_prices := ok_need_prices S_need_prices B o_within o_tuple_of
  have o_need_net := ok_need_net S_need_net B o_within o_tuple_of o_is_rod
  have o_table_of := ok_table_of (P := P) (w := w) (base := base) S_table_of B
  have o_spans := ok_spans (P := P) (w := w) (base := base) S_spans B
  have o_need_both := ok_need_both S_need_both B o_need_net o_need_row o_table_of
  have o_pairs_of := ok_pairs_of (P := P) (w := w) (base := base) S_pairs_of B
  have o_bad := ok_bad_pairs S_bad_pairs B o_need_both o_pairs_of
  have o_subsets := ok_subsets (P := P) (w := w) (base := base) S_subsets B
  have o_covers := ok_covers (P := P) (w := w) (base := base) S_covers B
  have o_few := ok_fewest_places S_fewest_places B o_bad o_subsets o_covers
  have o_cheap := ok_cheapest S_cheapest_places B o_need_net o_need_prices o_bad o_subsets o_covers
  have o_mended := ok_mended S_mended B o_few o_spans o_table_of
  have o_number := ok_number S_number_of_fewest B o_bad o_few o_subsets o_covers
  have o_matched := ok_matched (P := P) (w := w) (base := base) S_matched B 30
  have o_disjoint := ok_disjoint S_disjoint_pairs B o_bad o_matched
  have o_pairs := ok_l_pairs (P := P) (w := w) (base := base) S_l_pairs B
  have o_gaps := ok_gaps S_l_gaps B o_pairs
  have o_taken := ok_taken (P := P) (w := w) (base := base) S_l_taken B
  have o_net := ok_net S_l_net B o_taken
  have o_pick := ok_pick S_l_pick B o_taken
  have o_far := ok_far (P := P) (w := w) (base := base) S_l_far B
  have o_slope := ok_slope S_l_slope B o_far o_taken
  have o_alike := ok_alike (P := P) (w := w) (base := base) S_l_alike B 30
  have o_sets := ok_l_sets (P := P) (w := w) (base := base) S_l_sets B
  have o_most := ok_most (P := P) (w := w) (base := base) S_l_most_pairs B 30
  exact ⟨o_net, o_pick, o_far, o_slope, o_taken, o_gaps, o_alike, o_bad, o_sets, o_few, o_number, o_cheap, o_mended, o_most, o_disjoint⟩
theorem facts {P : Program} {w : World} {K : PySem.W.Frag} {h : Heap} {mg : Str → Option Value} {f : Addr} (X : K.In h) (G : h.Ns mainGlobals mg) (hfa : mg ("law" : Str) = some (.ref f)) (c : He.SaysD faL fnL K) :
    ∃ fd : FuncData, (∀ (s : Shared) (v : Value), BindsTo s fd ⟨[v], []⟩ [("_law_script", v)]) ∧ ∀ base : Heap, K.In base → base.Ns mainGlobals mg → FnOk P w K mg base CX0 32 f fd ["_law_script"] (spLaw K) := by
  obtain ⟨fd, F⟩ := c.def_ 30 (d := dd "law" st_law) rfl
  have e := hfa.symm.trans (He.glo_ok X G (c.fact 30 (f := .glo "law") rfl))
  cases e
  have b := FunD.bindsA (ps := ["_law_script"]) F fun _ _ _ _ _ _ us hl => match us, hl with | [_], _ => rfl
  exact ⟨fd, fun s v => b s [v] rfl, fun base _ _ => ok_law F (bl_of X G c) (parts_of X G c base)⟩
end Lk
open PySem PySem.W PySem.Calls PyProof.Rows
theorem PySem.Challenge.cw_littowers_k24_whole_fewest_places_holds : PySem.Challenge.rw_littowers_k24_whole_fewest_places.Holds := by
  w_on; o_law
  refine HandSHeadRun.head_any (r := OpenLaw.row PySem.Challenge.rw_littowers_k24_whole_fewest_places) (q := view (OpenLaw.row PySem.Challenge.rw_littowers_k24_whole_fewest_places).prog [44]) (H := Lk.hkL) (ob := Lk.obL) (M := 6000) (loose := Lk.looseL) (d := HandSHeadRun.topDef (OpenLaw.row PySem.Challenge.rw_littowers_k24_whole_fewest_places).prog 44) (kwd := []) Lk.obL_eq
    (by kernel_rfl) (fun s => by kernel_rfl) Lk.runL (by kernel_rfl) (by kernel_rfl) (by kernel_rfl) (by rfl) (by first | assumption | decide +kernel) (by decide +kernel) ⟨rfl, rfl, rfl, rfl, rfl, by decide +kernel⟩ ?hw ?hc
  case hw => w_witness2
  case hc =>
    refine L2.walk_ofE (l := PySem.Challenge.rw_littowers_k24_whole_fewest_places) (n := 63) (k := 32) (x := "_law_script") (CX := L2.CX0) rfl (by decide) (by kernel_rfl) ⟨rfl, by decide, by decide⟩ ?F (fun _ _ _ _ z => z)
    intro w mg fa h Y G hmg0
    obtain ⟨K, KX, c⟩ := Y
    have hmg : mg ("law" : PySem.Str) = some (.ref fa) := by
      have e : (HandSHeadRun.topDef (OpenLaw.row PySem.Challenge.rw_littowers_k24_whole_fewest_places).prog 44).name = ("law" : PySem.Str) := by kernel_rfl
      rw [← e]
      exact hmg0
    obtain ⟨fd, hb, hF⟩ := Lk.facts (P := (PySem.Challenge.rw_littowers_k24_whole_fewest_places).prog) (w := w) KX G hmg c
    exact ⟨K, fd, Lk.spLaw K, KX, hb, fun H a ns hl _ hS => ⟨a, ns, rfl, hS, fun _ => rfl⟩, hF⟩

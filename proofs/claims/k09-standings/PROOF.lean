import PyProof.Rows.All
import Wide.All
import OpenK.AllK
import Wide.FinOn
import HandS.ForMost
import HandS.Hot
import PyProof.RangeIter
import HandS.HotCalls
import HandS.ExcValue
import PyProof.EnumMake
import PyProof.Draws
import HandS.ExcInit
import HandS.ExcInitHot
import HandS.OwnEq
import HandS.OwnIter
import HandS.IterNext
import PyProof.CollectWalk
import PyProof.ListRange
import HandS.ExcField
import HandS.ExcIs
import HandS.ExcCtx
import HandS.IsInst
import HandS.Walk
import HandS.Codes
import PyProof.StrOps2
import HandS.Defaults
import HandS.Head2
import HandS.HeadEnd
import HandS.HeadHook1
import HandS.HeadHook2
import HandS.HeadHook4
import PySem.Challenge.RW_afterwise_k09_whole_standings
import HandS.Zip
import HandS.NoneIn
import HandS.TryOnly
import HandS.Text
import HandS.WordsExc
import HandS.Head0
import HandS.Head1
set_option Elab.async false
set_option linter.all false
set_option maxRecDepth 100000
/-! ## SMath -/
set_option maxHeartbeats 4000000
/-! the mathematics of standings: no program in sight -/
namespace SM

def less (b p : Int) : Int := if p < b then p else b
def minL : List Int → Int
  | [] => 0
  | x :: r => r.foldl less x

theorem less_le_l (b p : Int) : less b p ≤ b := by unfold less; split <;> omega
theorem less_le_r (b p : Int) : less b p ≤ p := by unfold less; split <;> omega
theorem less_or (b p : Int) : less b p = b ∨ less b p = p := by unfold less; split <;> simp

theorem fold_le : ∀ (r : List Int) (x : Int), r.foldl less x ≤ x ∧ ∀ y ∈ r, r.foldl less x ≤ y
  | [], x => ⟨Int.le_refl _, fun y h => by cases h⟩
  | a :: r, x => by
    have ih := fold_le r (less x a)
    rw [List.foldl_cons]
    refine ⟨Int.le_trans ih.1 (less_le_l _ _), fun y h => ?_⟩
    rcases List.mem_cons.mp h with h | h
    · subst h; exact Int.le_trans ih.1 (less_le_r _ _)
    · exact ih.2 y h
theorem fold_mem : ∀ (r : List Int) (x : Int), r.foldl less x = x ∨ r.foldl less x ∈ r
  | [], x => .inl rfl
  | a :: r, x => by
    rw [List.foldl_cons]
    rcases fold_mem r (less x a) with h | h
    · rcases less_or x a with g | g
      · rw [h, g]; exact .inl rfl
      · rw [h, g]; exact .inr List.mem_cons_self
    · exact .inr (List.mem_cons_of_mem _ h)
theorem minL_mem {l : List Int} (h : l ≠ []) : minL l ∈ l := by
  cases l with
  | nil => exact absurd rfl h
  | cons x r =>
    rcases fold_mem r x with e | e
    · show r.foldl less x ∈ _; rw [e]; exact List.mem_cons_self
    · exact List.mem_cons_of_mem _ e
theorem minL_le {l : List Int} {y : Int} (h : y ∈ l) : minL l ≤ y := by
  cases l with
  | nil => cases h
  | cons x r =>
    rcases List.mem_cons.mp h with e | e
    · subst e; exact (fold_le r _).1
    · exact (fold_le r x).2 y e
theorem minL_uniq {l : List Int} {m : Int} (h : m ∈ l) (hl : ∀ y ∈ l, m ≤ y) : m = minL l :=
  Int.le_antisymm (hl _ (minL_mem (fun e => by rw [e] at h; cases h))) (minL_le h)
theorem minL_shift {l : List Int} (c : Int) (h : l ≠ []) : minL (l.map (· + c)) = minL l + c := by
  refine (minL_uniq (List.mem_map.mpr ⟨minL l, minL_mem h, rfl⟩) fun y hy => ?_).symm
  obtain ⟨z, hz, rfl⟩ := List.mem_map.mp hy
  have := minL_le hz
  omega

/-- the work behind an ask with this table -/
def ledAt (w : List Int) (tb : List (List Int)) (t : Nat) : Int := minL ((List.range w.length).map fun s => w.getD s 0 + (tb.getD s []).getD t 0)
def led (w : List Int) (tb : List (List Int)) : List Int := (List.range w.length).map (ledAt w tb)
def low (w : List Int) : List Int := w.map (· - minL w)
theorem led_length (w : List Int) (tb : List (List Int)) : (led w tb).length = w.length := by simp [led]
theorem low_length (w : List Int) : (low w).length = w.length := by simp [low]
theorem ne_of_len {w : List Int} (h : 0 < w.length) : w ≠ [] := fun e => by rw [e] at h; exact absurd h (by decide)
theorem led_shift (w : List Int) (tb : List (List Int)) (c : Int) (h : 0 < w.length) : led (w.map (· + c)) tb = (led w tb).map (· + c) := by
  unfold led
  rw [List.length_map, List.map_map]
  refine List.map_congr_left fun t _ => ?_
  show ledAt (w.map (· + c)) tb t = ledAt w tb t + c
  unfold ledAt
  rw [List.length_map, ← minL_shift c (ne_of_len (by simpa using h)), List.map_map]
  congr 1
  refine List.map_congr_left fun s hs => ?_
  have hs : s < w.length := List.mem_range.mp hs
  show (w.map (· + c)).getD s 0 + _ = w.getD s 0 + _ + c
  have e1 : (w.map (· + c)).getD s 0 = w.getD s 0 + c := by
    rw [List.getD_eq_getElem?_getD, List.getD_eq_getElem?_getD, List.getElem?_map, List.getElem?_eq_getElem hs]
    rfl
  rw [e1]
  omega
theorem low_eq (w : List Int) : low w = w.map (· + (- minL w)) := by
  unfold low
  exact List.map_congr_left fun x _ => by omega
theorem low_shift (w : List Int) (c : Int) (h : 0 < w.length) : low (w.map (· + c)) = low w := by
  unfold low
  rw [minL_shift c (ne_of_len h), List.map_map]
  exact List.map_congr_left fun x _ => by show x + c - (minL w + c) = x - minL w; omega
theorem low_led (w : List Int) (tb : List (List Int)) (h : 0 < w.length) : low (led (low w) tb) = low (led w tb) := by
  rw [low_eq w, led_shift _ _ _ h, low_shift _ _ (by rw [led_length]; exact h)]
theorem min_led (w : List Int) (tb : List (List Int)) (h : 0 < w.length) : minL (led w tb) = minL w + minL (led (low w) tb) := by
  rw [low_eq w, led_shift _ _ _ h, minL_shift _ (ne_of_len (by rw [led_length]; exact h))]
  omega

/-! ### the search -/
theorem pre_get {A : Type} {l r : List A} (h : l <+: r) {i : Nat} {x : A} (e : l[i]? = some x) : r[i]? = some x := by
  obtain ⟨t, rfl⟩ := h
  rw [List.getElem?_append_left (List.getElem?_eq_some_iff.mp e).1]
  exact e
/-- m asks; the standing and the price behind the ask k; how a row grows -/
structure DD (R : Type) where
  m : Nat
  nxt : Nat → List Int → List Int
  add : Nat → List Int → Int
  ext : R → Nat → R
structure BS (R : Type) where
  lots : List (List Int)
  rows : List R
  steps : List (List (Nat × Int))
structure IS (R : Type) where
  lots : List (List Int)
  rows : List R
  items : List (Nat × Int)
section
variable {R : Type} (D : DD R)
def put (s : IS R) (a : List Int) (e : R) (c : Int) : IS R :=
  if a ∈ s.lots then { s with items := s.items ++ [(s.lots.idxOf a, c)] } else ⟨s.lots ++ [a], s.rows ++ [e], s.items ++ [(s.lots.length, c)]⟩
def inn (lot : List Int) (row : R) (s : BS R) : Nat → IS R
  | 0 => ⟨s.lots, s.rows, []⟩
  | k + 1 => put (inn lot row s k) (D.nxt k lot) (D.ext row k) (D.add k lot)
def turn (s : BS R) (i : Nat) : BS R := match s.lots[i]?, s.rows[i]? with
  | some lot, some row => ⟨(inn D lot row s D.m).lots, (inn D lot row s D.m).rows, s.steps ++ [(inn D lot row s D.m).items]⟩
  | _, _ => s
def st (b : BS R) : Nat → BS R
  | 0 => b
  | i + 1 => turn D (st b i) i

variable {D}
theorem put_pre (s : IS R) (a : List Int) (e : R) (c : Int) : s.lots <+: (put s a e c).lots ∧ s.rows <+: (put s a e c).rows := by
  unfold put; split
  · exact ⟨List.prefix_rfl, List.prefix_rfl⟩
  · exact ⟨List.prefix_append _ _, List.prefix_append _ _⟩
theorem put_items (s : IS R) (a : List Int) (e : R) (c : Int) : ∃ x, (put s a e c).items = s.items ++ [x] := by
  unfold put; split
  · exact ⟨_, rfl⟩
  · exact ⟨_, rfl⟩
/-- the item that put adds: the place of a, from then on -/
theorem put_item (s : IS R) (a : List Int) (e : R) (c : Int) : ∃ j, (put s a e c).items = s.items ++ [(j, c)] ∧ (put s a e c).lots[j]? = some a := by
  unfold put; split
  · rename_i h
    refine ⟨s.lots.idxOf a, rfl, ?_⟩
    rw [List.getElem?_eq_getElem (List.idxOf_lt_length_iff.mpr h), List.getElem_idxOf]
  · exact ⟨_, rfl, by simp⟩
theorem put_nodup {s : IS R} {a : List Int} {e : R} {c : Int} (h : s.lots.Nodup) : (put s a e c).lots.Nodup := by
  unfold put; split
  · exact h
  · rename_i hn
    refine List.nodup_append.mpr ⟨h, by simp, fun x hx y hy e => ?_⟩
    rw [List.mem_singleton] at hy
    rw [e, hy] at hx
    exact hn hx
theorem put_len {s : IS R} {a : List Int} {e : R} {c : Int} (h : s.rows.length = s.lots.length) : (put s a e c).rows.length = (put s a e c).lots.length := by
  unfold put; split
  · exact h
  · simp [h]
theorem put_all {P : List Int → Prop} {s : IS R} {a : List Int} {e : R} {c : Int} (h : ∀ x ∈ s.lots, P x) (ha : P a) : ∀ x ∈ (put s a e c).lots, P x := by
  unfold put; split
  · exact h
  · intro x hx
    rcases List.mem_append.mp hx with hx | hx
    · exact h x hx
    · rw [List.mem_singleton] at hx; rw [hx]; exact ha
theorem put_le (s : IS R) (a : List Int) (e : R) (c : Int) : (put s a e c).lots.length ≤ s.lots.length + 1 := by
  unfold put; split
  · exact Nat.le_succ _
  · simp
section
variable (lot : List Int) (row : R) (s : BS R)
theorem inn_pre : ∀ k, s.lots <+: (inn D lot row s k).lots ∧ s.rows <+: (inn D lot row s k).rows
  | 0 => ⟨List.prefix_rfl, List.prefix_rfl⟩
  | k + 1 => ⟨(inn_pre k).1.trans (put_pre _ _ _ _).1, (inn_pre k).2.trans (put_pre _ _ _ _).2⟩
theorem inn_mono {j k : Nat} (h : j ≤ k) : (inn D lot row s j).lots <+: (inn D lot row s k).lots := by
  induction h with
  | refl => exact List.prefix_rfl
  | step _ ih => exact ih.trans (put_pre _ _ _ _).1
theorem inn_nodup (h : s.lots.Nodup) : ∀ k, (inn D lot row s k).lots.Nodup
  | 0 => h
  | k + 1 => put_nodup (inn_nodup h k)
theorem inn_len (h : s.rows.length = s.lots.length) : ∀ k, (inn D lot row s k).rows.length = (inn D lot row s k).lots.length
  | 0 => h
  | k + 1 => put_len (inn_len h k)
theorem inn_all {P : List Int → Prop} (h : ∀ x ∈ s.lots, P x) (hn : ∀ k, P (D.nxt k lot)) : ∀ k, ∀ x ∈ (inn D lot row s k).lots, P x
  | 0 => h
  | k + 1 => put_all (inn_all h hn k) (hn k)
theorem inn_items : ∀ k, (inn D lot row s k).items.length = k ∧ ∀ i, i < k → ∃ j, (inn D lot row s k).items[i]? = some (j, D.add i lot) ∧ (inn D lot row s k).lots[j]? = some (D.nxt i lot)
  | 0 => ⟨rfl, fun i h => absurd h (Nat.not_lt_zero _)⟩
  | k + 1 => by
    obtain ⟨h1, h2⟩ := inn_items k
    obtain ⟨j, e1, e2⟩ := put_item (inn D lot row s k) (D.nxt k lot) (D.ext row k) (D.add k lot)
    have e1' : (inn D lot row s (k + 1)).items = (inn D lot row s k).items ++ [(j, D.add k lot)] := e1
    have e2' : (inn D lot row s (k + 1)).lots[j]? = some (D.nxt k lot) := e2
    refine ⟨by rw [e1', List.length_append, h1]; rfl, fun i hi => ?_⟩
    by_cases hk : i = k
    · subst hk
      refine ⟨j, ?_, e2'⟩
      rw [e1', List.getElem?_append_right (by omega), h1]
      simp
    · obtain ⟨j', a1, a2⟩ := h2 i (by omega)
      refine ⟨j', ?_, ?_⟩
      · rw [e1', List.getElem?_append_left (by omega)]; exact a1
      · exact pre_get (inn_mono lot row s (Nat.le_succ k)) a2
end
section
variable (b : BS R)
theorem st_rows (h : b.rows.length = b.lots.length) : ∀ i, (st D b i).rows.length = (st D b i).lots.length
  | 0 => h
  | i + 1 => by
    have ih := st_rows h i
    show (turn D (st D b i) i).rows.length = (turn D (st D b i) i).lots.length
    unfold turn
    split
    · exact inn_len _ _ _ ih _
    · exact ih
theorem turn_at {s : BS R} {i : Nat} {lot : List Int} {row : R} (h1 : s.lots[i]? = some lot) (h2 : s.rows[i]? = some row) : turn D s i = ⟨(inn D lot row s D.m).lots, (inn D lot row s D.m).rows, s.steps ++ [(inn D lot row s D.m).items]⟩ := by
  unfold turn
  rw [h1, h2]
theorem turn_pre (s : BS R) (i : Nat) : s.lots <+: (turn D s i).lots := by
  unfold turn
  split
  · exact (inn_pre _ _ _ _).1
  · exact List.prefix_rfl
theorem st_mono {i j : Nat} (h : i ≤ j) : (st D b i).lots <+: (st D b j).lots := by
  induction h with
  | refl => exact List.prefix_rfl
  | step _ ih => exact ih.trans (turn_pre _ _)
theorem st_le {i j : Nat} (h : i ≤ j) : (st D b i).lots.length ≤ (st D b j).lots.length := (st_mono b h).length_le
theorem st_nodup (h : b.lots.Nodup) : ∀ i, (st D b i).lots.Nodup
  | 0 => h
  | i + 1 => by
    show (turn D (st D b i) i).lots.Nodup
    unfold turn
    split
    · exact inn_nodup _ _ _ (st_nodup h i) _
    · exact st_nodup h i
theorem st_all {P : List Int → Prop} (h : ∀ x ∈ b.lots, P x) (hn : ∀ lot k, P lot → P (D.nxt k lot)) : ∀ i, ∀ x ∈ (st D b i).lots, P x
  | 0 => h
  | i + 1 => by
    have ih := st_all h hn i
    show ∀ x ∈ (turn D (st D b i) i).lots, P x
    unfold turn
    split
    · rename_i lot row e1 e2
      exact inn_all _ _ _ ih (fun k => hn lot k (ih _ (List.mem_of_getElem? e1))) _
    · exact ih
/-- behind the end nothing turns -/
theorem st_end {N i : Nat} (h : (st D b N).lots.length = N) (hi : N ≤ i) : st D b i = st D b N := by
  induction hi with
  | refl => rfl
  | @step i hi ih =>
    show turn D (st D b i) i = _
    rw [ih]
    unfold turn
    rw [List.getElem?_eq_none (by rw [h]; exact hi)]
theorem st_fin_uniq {N M : Nat} (hN : (st D b N).lots.length = N) (hl : ∀ j, j < N → j < (st D b j).lots.length) (hM : (st D b M).lots.length = M) (ml : ∀ j, j < M → j < (st D b j).lots.length) : N = M := by
  rcases Nat.lt_trichotomy N M with h | h | h
  · have := ml N h; omega
  · exact h
  · have := hl M h; omega
theorem st_bound {N : Nat} (h : (st D b N).lots.length = N) (i : Nat) : (st D b i).lots.length ≤ N := by
  by_cases hi : i ≤ N
  · exact Nat.le_trans (st_le b hi) (Nat.le_of_eq h)
  · rw [st_end b h (by omega), h]
    exact Nat.le_refl _
/-- the steps say where one comes -/
theorem st_steps (hr : b.rows.length = b.lots.length) (h0 : b.steps = []) : ∀ (N : Nat), (∀ j, j < N → j < (st D b j).lots.length) → (st D b N).steps.length = N ∧
    ∀ i, i < N → ∃ it lot, (st D b N).steps[i]? = some it ∧ (st D b N).lots[i]? = some lot ∧ it.length = D.m ∧ ∀ k, k < D.m → ∃ j, it[k]? = some (j, D.add k lot) ∧ (st D b N).lots[j]? = some (D.nxt k lot)
  | 0, _ => ⟨by show b.steps.length = 0; rw [h0]; rfl, fun i h => absurd h (Nat.not_lt_zero _)⟩
  | N + 1, hl => by
    obtain ⟨s1, s2⟩ := st_steps hr h0 N fun j hj => hl j (Nat.lt_succ_of_lt hj)
    have hN := hl N (Nat.lt_succ_self N)
    have e1 : (st D b N).lots[N]? = some (st D b N).lots[N] := List.getElem?_eq_getElem hN
    have hN2 : N < (st D b N).rows.length := by rw [st_rows b hr]; exact hN
    have e2 : (st D b N).rows[N]? = some (st D b N).rows[N] := List.getElem?_eq_getElem hN2
    have e := turn_at (D := D) e1 e2
    have pre := turn_pre (D := D) (st D b N) N
    refine ⟨?_, fun i hi => ?_⟩
    · show (turn D (st D b N) N).steps.length = N + 1
      rw [e]
      show (_ ++ [_]).length = _
      rw [List.length_append, s1]
      rfl
    · by_cases hk : i = N
      · subst hk
        obtain ⟨g1, g2⟩ := inn_items (D := D) (st D b i).lots[i] (st D b i).rows[i] (st D b i) D.m
        refine ⟨(inn D (st D b i).lots[i] (st D b i).rows[i] (st D b i) D.m).items, _, ?_, pre_get pre e1, g1, fun k hk => ?_⟩
        · show (turn D (st D b i) i).steps[i]? = _
          rw [e]
          show (_ ++ [_])[i]? = _
          rw [List.getElem?_append_right (by omega), s1]
          simp
        · obtain ⟨j, a1, a2⟩ := g2 k hk
          refine ⟨j, a1, ?_⟩
          show (turn D (st D b i) i).lots[j]? = _
          rw [e]
          exact a2
      · obtain ⟨it, lot, a1, a2, a3, a4⟩ := s2 i (by omega)
        refine ⟨it, lot, ?_, pre_get pre a2, a3, fun k hk => ?_⟩
        · show (turn D (st D b N) N).steps[i]? = _
          rw [e]
          show (_ ++ [_])[i]? = _
          rw [List.getElem?_append_left (by omega)]
          exact a1
        · obtain ⟨j, b1, b2⟩ := a4 k hk
          exact ⟨j, b1, pre_get pre b2⟩
end
/-! ### a row along the steps -/
/-- the work behind a row of asks -/
def work (tbs : Nat → List (List Int)) (w : List Int) : List Nat → List Int
  | [] => w
  | k :: r => work tbs (led w (tbs k)) r
theorem work_snoc (tbs : Nat → List (List Int)) : ∀ (ks : List Nat) (w : List Int) (k : Nat), work tbs w (ks ++ [k]) = led (work tbs w ks) (tbs k)
  | [], w, k => rfl
  | a :: ks, w, k => work_snoc tbs ks _ k
theorem work_length (tbs : Nat → List (List Int)) : ∀ (ks : List Nat) (w : List Int), (work tbs w ks).length = w.length
  | [], w => rfl
  | a :: ks, w => by show (work tbs (led w (tbs a)) ks).length = _; rw [work_length tbs ks, led_length]
def DL (R : Type) (m : Nat) (tbs : Nat → List (List Int)) (ext : R → Nat → R) : DD R := ⟨m, fun k w => low (led w (tbs k)), fun k w => minL (led w (tbs k)), ext⟩
/-- one step from the standing behind the row: the place it leads to, and the sum -/
theorem step_work {tbs : Nat → List (List Int)} {w lot : List Int} (h : 0 < w.length) (e : lot = low w) (k : Nat) : low (led lot (tbs k)) = low (led w (tbs k)) ∧ minL w + minL (led lot (tbs k)) = minL (led w (tbs k)) := by
  subst e
  exact ⟨low_led w _ h, (min_led w _ h).symm⟩
end
end SM

/-! ## SHot -/
set_option maxHeartbeats 4000000
/-! ends of iterators while an exception is handled -/
namespace SHt
open PySem PySem.Spec PyProof.Rows HotX
/-- nothing is handled, or an exception whose context is None -/
def MdA (A : Around) (h : Heap) : Prop := A.handled = none ∨ ∃ x1, HotAt A x1 h
theorem hot_keeps {A : Around} {x1 : Addr} {h h' : Heap} (t : HotAt A x1 h) (k : ∀ o, h.get? x1 = some o → h'.get? x1 = some o) : HotAt A x1 h' := by
  obtain ⟨hh, o, vs, e, d, c⟩ := t
  exact ⟨hh, o, vs, k o e, d, c⟩
section
variable {prog : Program} {w : World} {A : Around} {E : Value → Shared → Prop} {s : Shared}
/-- the raise of StopIteration at an iterator's end -/
theorem stopped {α : Type} {x1 it : Addr} {o : Obj} {vs : Array Value} {s0 : Heap} {Q : α → Shared → Prop} {hp : Heap} {g : Array GenState} {d : Drawn} {t : Nat} {os : OsState} (hot : HotAt A x1 s0) (hx : x1 ≠ it) (ho : s0.get? it = some o) (hd : o.data = .fields vs) (eh : hp = s0.update it (Obj.mapFields (·.setIfInBounds 0 .none)))
    (hE : ∀ h' e, Heap.ExtBut it s0 h' → (∃ o, h'.get? e = some o ∧ o.cls = .type "StopIteration") → E (.ref e) ⟨h', g, d, t, os⟩) :
    wpAny (model prog w) A (newExc (.type "StopIteration") []) (fun e s1 => wpAny (model prog w) A (raiseNew e : Sem α) Q E s1) E ⟨hp, g, d, t, os⟩ := by
  obtain ⟨hh, o1, vs1, h1, d1, c1⟩ := hot
  subst eh
  have h1' : (s0.update it (Obj.mapFields (·.setIfInBounds 0 .none))).get? x1 = some o1 := (Heap.get?_update_other _ _ (Ne.symm hx)).trans h1
  simp only [newExc, newTuple]
  refine wpAny_bind (wpAny_newObj_type ?_ (by size_fits))
  refine wpAny_bind (m := firstArgMember _ _) (wpAny_of_eq (a := Value.none) (by first | rfl | (simp only [firstArgMember]; rfl)) ?_)
  refine wpAny_newObj_type ?_ (by size_fits)
  refine raiseNew_hot ⟨hh, o1, vs1, Heap.get?_push_of_some _ (Heap.get?_push_of_some _ h1'), d1, c1⟩ (Nat.ne_of_lt (Heap.lt_size (Heap.get?_push_of_some _ h1'))) (Heap.get?_push_size _ rfl) rfl (by first | (simp; done) | (simp; omega) | (simp only [Array.size_append]; simp; omega)) ?_
  refine hE _ _ (fun b ob hb e => ?_) ⟨_, Heap.get?_update_self _ (Heap.get?_push_size _ rfl) rfl, rfl⟩
  have e2 : (s0.update it (Obj.mapFields (·.setIfInBounds 0 .none))).get? b = some ob := (Heap.get?_update_other _ _ (Ne.symm hb)).trans e
  rw [Heap.get?_update_other _ _ (Nat.ne_of_gt (Heap.lt_size (Heap.get?_push_of_some _ e2)))]
  exact Heap.get?_push_of_some _ (Heap.get?_push_of_some _ e2)
theorem list_end_hot {it l x1 : Addr} {i : Nat} {items} {Q : Option Value → Shared → Prop} (hot : HotAt A x1 s.heap) (hx1 : x1 ≠ it)
    (hit : s.heap.IsListIter it l i) (hl : s.heap.IsList l items) (hx : items[i]? = none)
    (hQ : ∀ h', Heap.ExtBut it s.heap h' → Q none { s with heap := h' }) : wpAny (model prog w) A (pyNext (.ref it)) Q E s := by
  obtain ⟨o, ho, hc, hd⟩ := id hit
  obtain ⟨ol, hol, _, nl, hdl⟩ := hl
  unfold pyNext
  refine wpAny_bind (wpAny_attempt (wpAny_callSpecial?_slot (name := Str.ofString "__next__") hit.typeIs slot_listiter_next
    (wpAny_call_entry slot_listiter_next hit.typeIs entry_listiter_next ?_ (args_listiter_next _))))
  show wpAny _ _ (field (.ref it) 0 >>= _) _ _ s
  refine wpAny_bind (wpAny_field ho hd (x := .ref l) rfl ?_)
  show wpAny _ _ (if (Value.ref l == Value.none) = true then _ else _) _ _ s
  rw [if_neg (show ¬ ((Value.ref l == Value.none) = true) from Bool.false_ne_true)]
  show wpAny _ _ (field (.ref it) 1 >>= _) _ _ s
  refine wpAny_bind (wpAny_field ho hd (x := .int i 0) rfl ?_)
  show wpAny _ _ (seqItems? (.ref l) >>= _) _ _ s
  refine wpAny_bind (wpAny_seqItems hol hdl ?_)
  simp only [Int.toNat_natCast, hx]
  refine wpAny_bind (wpAny_rule (wpAny_bind (wpAny_setField ho hd (by simp) ?_)))
  refine wpAny_bind ?_
  refine stopped (A := A.in1) ⟨hot.1, hot.2⟩ hx1 ho hd rfl fun h' e xb he => ?_
  obtain ⟨oe, e1, e2⟩ := he
  refine wpAny_bind (wpAny_isInstance (T := "StopIteration") (b := true) ⟨oe, e1, e2⟩ isSubtype_stop ?_)
  exact wpAny_pure (hQ _ xb)
theorem tuple_end_hot {it l x1 : Addr} {i : Nat} {items} {Q : Option Value → Shared → Prop} (hot : HotAt A x1 s.heap) (hx1 : x1 ≠ it)
    (hit : s.heap.IsTupleIter it l i) (hl : s.heap.IsTuple l items) (hx : items[i]? = none)
    (hQ : ∀ h', Heap.ExtBut it s.heap h' → Q none { s with heap := h' }) : wpAny (model prog w) A (pyNext (.ref it)) Q E s := by
  obtain ⟨o, ho, hc, hd⟩ := id hit
  obtain ⟨ol, hol, _, nl, hdl⟩ := hl
  unfold pyNext
  refine wpAny_bind (wpAny_attempt (wpAny_callSpecial?_slot (name := Str.ofString "__next__") hit.typeIs F.slot_tuple_iterator_next
    (wpAny_call_entry F.slot_tuple_iterator_next hit.typeIs F.entry_tuple_iterator_next ?_ (F.args_tuple_iterator_next_1 _))))
  show wpAny _ _ (field (.ref it) 0 >>= _) _ _ s
  refine wpAny_bind (wpAny_field ho hd (x := .ref l) rfl ?_)
  show wpAny _ _ (if (Value.ref l == Value.none) = true then _ else _) _ _ s
  rw [if_neg (show ¬ ((Value.ref l == Value.none) = true) from Bool.false_ne_true)]
  show wpAny _ _ (field (.ref it) 1 >>= _) _ _ s
  refine wpAny_bind (wpAny_field ho hd (x := .int i 0) rfl ?_)
  show wpAny _ _ (seqItems? (.ref l) >>= _) _ _ s
  refine wpAny_bind (wpAny_seqItems hol hdl ?_)
  simp only [Int.toNat_natCast, hx]
  refine wpAny_bind (wpAny_rule (wpAny_bind (wpAny_setField ho hd (by simp) ?_)))
  refine wpAny_bind ?_
  refine stopped (A := A.in1) ⟨hot.1, hot.2⟩ hx1 ho hd rfl fun h' e xb he => ?_
  obtain ⟨oe, e1, e2⟩ := he
  refine wpAny_bind (wpAny_isInstance (T := "StopIteration") (b := true) ⟨oe, e1, e2⟩ isSubtype_stop ?_)
  exact wpAny_pure (hQ _ xb)
theorem next_tuple_end_hot {it t x1 : Addr} {i : Nat} {items} {Q : Option Value → Shared → Prop} (hot : HotAt A x1 s.heap) (hx1 : x1 ≠ it)
    (hit : IsTupIter s.heap it t i) (ht : IsTup s.heap t items) (hx : items[i]? = none)
    (hQ : ∀ h', Heap.ExtBut it s.heap h' → Q none { s with heap := h' }) : wpAny (model prog w) A (pyNext (.ref it)) Q E s := by
  obtain ⟨o, ho, hc, hd⟩ := id hit
  obtain ⟨ol, hol, _, nl, hdl⟩ := ht
  unfold pyNext
  refine wpAny_bind (wpAny_attempt (wpAny_callSpecial?_slot (name := Str.ofString "__next__") hit.typeIs slot_tupleiter_next
    (wpAny_call_entry slot_tupleiter_next hit.typeIs entry_tupleiter_next ?_ (args_tupleiter_next _))))
  show wpAny _ _ (field (.ref it) 0 >>= _) _ _ s
  refine wpAny_bind (wpAny_field ho hd (x := .ref t) rfl ?_)
  show wpAny _ _ (if (Value.ref t == Value.none) = true then _ else _) _ _ s
  rw [if_neg (show ¬ ((Value.ref t == Value.none) = true) from Bool.false_ne_true)]
  show wpAny _ _ (field (.ref it) 1 >>= _) _ _ s
  refine wpAny_bind (wpAny_field ho hd (x := .int i 0) rfl ?_)
  show wpAny _ _ (seqItems? (.ref t) >>= _) _ _ s
  refine wpAny_bind (wpAny_seqItems hol hdl ?_)
  simp only [Int.toNat_natCast, hx]
  refine wpAny_bind (wpAny_rule (wpAny_bind (wpAny_setField ho hd (by simp) ?_)))
  refine wpAny_bind ?_
  refine stopped (A := A.in1) ⟨hot.1, hot.2⟩ hx1 ho hd rfl fun h' e xb he => ?_
  obtain ⟨oe, e1, e2⟩ := he
  refine wpAny_bind (wpAny_isInstance (T := "StopIteration") (b := true) ⟨oe, e1, e2⟩ isSubtype_stop ?_)
  exact wpAny_pure (hQ _ xb)
theorem unpackItems_hot {t x1 : Addr} {items : Array Value} {Q : List Value → Shared → Prop} (hot : HotAt A x1 s.heap) (ht : IsTup s.heap t items)
    (hQ : ∀ h', Heap.ExtBut s.heap.objs.size s.heap h' → Q items.toList { s with heap := h' }) : wpAny (model prog w) A (unpackItems (.ref t) items.size none) Q E s := by
  have hlt : t ≠ s.heap.objs.size := by obtain ⟨o, ho, _⟩ := ht; exact Nat.ne_of_lt (Heap.lt_size ho)
  have hx1 : x1 ≠ s.heap.objs.size := by obtain ⟨_, o, vs, e, _⟩ := hot; exact Nat.ne_of_lt (Heap.lt_size e)
  unfold unpackItems
  refine wpAny_bind ?_
  unfold notIterableAtAll
  refine wpAny_bind (wpAny_specialOf ht.typeIs slot_tuple_iter.lookup ?_)
  refine wpAny_pure ?_
  simp only [Bool.false_eq_true, if_false]
  refine wpAny_bind (wpAny_holding (iter_tuple ht ?_))
  refine wpAny_bind (wpAny_holding (draw_tuple hlt items.size 0 _ _ ⟨_, Heap.get?_push_size _ rfl, rfl, rfl⟩ (ht.push _) (by omega) fun h₁ hit₁ hs₁ => ?_))
  have hall : List.take items.size (List.drop 0 items.toList) = items.toList := by
    rw [List.drop_zero]; exact List.take_of_length_le (by simp)
  rw [hall]
  rw [if_neg (by simp)]
  have ht₁ : IsTup h₁ t items := (ht.push _).extBut hs₁.extBut hlt
  have hot1 : HotAt A x1 h₁ := hot_keeps hot fun o e => hs₁.extBut _ _ hx1 (Heap.get?_push_of_some _ e)
  refine wpAny_bind (wpAny_holding (next_tuple_end_hot hot1 hx1 hit₁ ht₁ (by simp) fun h₂ he₂ => ?_))
  simp only [Option.isSome_none, Bool.false_eq_true, if_false]
  refine wpAny_pure (hQ h₂ fun b o hb e => he₂ b o hb (hs₁.extBut b o hb (Heap.get?_push_of_some _ e)))
theorem assign_Tuple_hot {env : Env} {elts : List Expr} {k1} {pos : Pos} {t x1 : Addr} {items : Array Value} {Q : Unit → Shared → Prop} (hot : HotAt A x1 s.heap) (ht : IsTup s.heap t items)
    (hn : (assignEach elts env).length = items.size) (hstar : (assignEach elts env).findIdx? (·.1) = none)
    (h : ∀ h', Heap.ExtBut s.heap.objs.size s.heap h' → wpAny (model prog w) A (assignInOrder ((assignEach elts env).map (·.2)) items.toList) Q E { s with heap := h' }) :
    wpAny (model prog w) A (assign (.Tuple elts k1 pos) env (.ref t)) Q E s := by
  rw [assign_Tuple]
  refine wpAny_bind (wpAny_standAt ?_)
  unfold unpack
  rw [hn, hstar]
  exact wpAny_bind (wpAny_holding (unpackItems_hot hot ht h))
theorem nextOf_ascii_end_hot {it x1 : Addr} {x : Str} {t : Tok} {i : Nat} {Q : Value → Shared → Prop} (hot : HotAt A x1 s.heap) (hx1 : x1 ≠ it)
    (hit : s.heap.IsStrIter it "str_ascii_iterator" x t i) (hx : x.cps[i]? = none)
    (hE : ∀ h' e, Heap.ExtBut it s.heap h' → (∃ o, h'.get? e = some o ∧ o.cls = .type "StopIteration") → E (.ref e) { s with heap := h' }) :
    wpAny (model prog w) A (Builtin.SmallTypes.nextOf (.ref it)) Q E s := by
  obtain ⟨o, ho, hc, hd⟩ := id hit
  unfold Builtin.SmallTypes.nextOf
  refine wpAny_bind (wpAny_callSpecial?_slot (name := Str.ofString "__next__") hit.typeIs F.slot_str_ascii_iterator_next
    (wpAny_call_entry F.slot_str_ascii_iterator_next hit.typeIs F.entry_str_ascii_iterator_next ?_ (F.args_str_ascii_iterator_next_1 _)))
  show wpAny _ _ (field (.ref it) 0 >>= _) _ _ s
  refine wpAny_bind (wpAny_field ho hd (x := .str x t) rfl ?_)
  show wpAny _ _ (field (.ref it) 1 >>= _) _ _ s
  refine wpAny_bind (wpAny_field ho hd (x := .int i 0) rfl ?_)
  simp only [Int.toNat_natCast, hx]
  refine wpAny_bind (wpAny_rule (wpAny_bind (wpAny_setField ho hd (by simp) (wpAny_bind (wpAny_letGo ?_)))))
  refine wpAny_bind ?_
  exact stopped (A := A.in1) ⟨hot.1, hot.2⟩ hx1 ho hd rfl fun h' e xb he => hE h' e xb he
end
theorem draws_ascii_hot {prog : Program} {w : World} {A : Around} (it x1 : Addr) (hx1 : x1 ≠ it) (x : Str) (t : Tok) :
    Draws prog w A it [it, x1] x.cps.size (fun i v => ∃ c u, x.cps[i]? = some c ∧ v = .str ⟨#[c]⟩ u) (fun i h => h.IsStrIter it "str_ascii_iterator" x t i ∧ HotAt A x1 h) where
  live := fun _ _ st => let ⟨o, ho, _⟩ := st.1; ⟨o, ho⟩
  frame := fun _ _ _ st hk => ⟨let ⟨o, ho, r⟩ := st.1; ⟨o, hk it (by simp) o ho, r⟩, hot_keeps st.2 fun o e => hk x1 (by simp) o e⟩
  item := fun i s Q E hi st hQ => by
    refine wpAny_nextOf_ascii_item st.1 (c := x.cps[i]) (by simp [hi]) fun h' hit' hs' => ?_
    exact hQ _ h' (s.toks + 1) ⟨_, _, by simp [hi], rfl⟩ ⟨hit', hot_keeps st.2 fun o e => hs'.extBut _ _ hx1 e⟩ hs'
  done := fun s Q E st hE => nextOf_ascii_end_hot st.2 hx1 st.1 (by simp) hE
theorem walks_list_hot {prog : Program} {w : World} {A : Around} (I ax x1 : Addr) (hne : ax ≠ I) (hx1 : x1 ≠ I) (items : Array Value) :
    Walks prog w A I [I, ax, x1] [I] items.size (fun i v => items[i]? = some v) (fun i h => (h.IsListIter I ax i ∧ h.IsList ax items) ∧ HotAt A x1 h) where
  sub := fun b hb => by simp at hb; simp [hb]
  frame := fun _ _ _ st hk => ⟨⟨st.1.1.at fun o e => hk I (by simp) o e, st.1.2.at fun o e => hk ax (by simp) o e⟩, hot_keeps st.2 fun o e => hk x1 (by simp) o e⟩
  item := fun i s Q E hi st hQ => by
    refine wpAny_pyNext_list_item st.1.1 st.1.2 (x := items[i]) (by simp [hi]) fun h' hit' hs' => ?_
    exact hQ _ h' s.toks (by simp [hi]) ⟨⟨hit', st.1.2.extBut hs'.extBut hne⟩, hot_keeps st.2 fun o e => hs'.extBut _ _ hx1 e⟩ fun b o hb e => hs'.extBut b o (fun h => hb (by simp [h])) e
  done := fun s Q E st hQ => list_end_hot st.2 hx1 st.1.1 st.1.2 (by simp) fun h' he' => hQ h' s.toks fun b o hb e => he' b o (fun h => hb (by simp [h])) e
  self := fun _ _ _ _ st hQ => wpAny_pyIter_listiter st.1.1 hQ
theorem walks_tuple_hot {prog : Program} {w : World} {A : Around} (I ax x1 : Addr) (hne : ax ≠ I) (hx1 : x1 ≠ I) (items : Array Value) :
    Walks prog w A I [I, ax, x1] [I] items.size (fun i v => items[i]? = some v) (fun i h => (h.IsTupleIter I ax i ∧ h.IsTuple ax items) ∧ HotAt A x1 h) where
  sub := fun b hb => by simp at hb; simp [hb]
  frame := fun _ _ _ st hk => ⟨⟨st.1.1.at fun o e => hk I (by simp) o e, st.1.2.at fun o e => hk ax (by simp) o e⟩, hot_keeps st.2 fun o e => hk x1 (by simp) o e⟩
  item := fun i s Q E hi st hQ => by
    refine wpAny_pyNext_tuple_item st.1.1 st.1.2 (x := items[i]) (by simp [hi]) fun h' hit' hs' => ?_
    exact hQ _ h' s.toks (by simp [hi]) ⟨⟨hit', st.1.2.extBut hs'.extBut hne⟩, hot_keeps st.2 fun o e => hs'.extBut _ _ hx1 e⟩ fun b o hb e => hs'.extBut b o (fun h => hb (by simp [h])) e
  done := fun s Q E st hQ => tuple_end_hot st.2 hx1 st.1.1 st.1.2 (by simp) fun h' he' => hQ h' s.toks fun b o hb e => he' b o (fun h => hb (by simp [h])) e
  self := fun _ _ _ _ st hQ => wpAny_pyIter_tupleiter st.1.1 hQ
/-! ### min of ints, in any case -/
section
variable {prog : Program} {w : World} {A : Around} {E : Value → Shared → Prop} {s : Shared} {l : Addr} {xs : Array (Int × Tok)}
theorem min_listU {Q : Value → Shared → Prop} (hm : MdA A s.heap) (hl : s.heap.IsList l (intItems xs)) (hne : 0 < xs.size)
    (h : ∀ v h' tk, (intItems xs)[argBest (fun i j => decide (numAt xs i < numAt xs j)) (xs.size - 1)]? = some v → (∀ b o, s.heap.get? b = some o → h'.get? b = some o) → Q v { s with heap := h', toks := tk }) :
    wpAny (model prog w) A (call (.builtin "min") [.ref l]) Q E s := by
  rcases hm with hh | ⟨x1, hot⟩
  · exact min_intList hh hl hne h
  · have hx1 : x1 < s.heap.objs.size := by obtain ⟨_, o, vs, e, _⟩ := hot; exact Heap.lt_size e
    refine call_min_walk (iter_intList hl fun s₂ e st hfp hlI => ?_)
    subst e
    have hot2 : HotAt A.in1 x1 (s.heap.push { cls := .type "list_iterator", data := .fields #[.ref l, .int 0 0] }) := hot_keeps (h := s.heap) ⟨hot.1, hot.2⟩ fun o e => Heap.get?_push_of_some _ e
    refine ⟨_, _, _, _, _, _, _, rfl, walks_list_hot (A := A.in1) _ l x1 hlI (Nat.ne_of_lt hx1) (intItems xs), ⟨st, hot2⟩, fun b hb => ?_, by simpa [intItems] using hne, CmpOf.ints_lt (numAt xs) (fun _ _ => intItems_at), fun v h' tk hP hk => ?_⟩
    · rcases List.mem_cons.mp hb with e | hb
      · exact hfp b (by simp [e])
      · rcases List.mem_cons.mp hb with e | hb
        · exact hfp b (by simp [e])
        · rw [List.mem_singleton.mp hb]
          show x1 < (s.heap.push _).objs.size
          rw [Heap.size_push]
          exact Nat.lt_succ_of_lt hx1
    · exact h v h' tk (by simpa [intItems] using hP) (old_kept hk)
theorem min_tupleU {Q : Value → Shared → Prop} (hm : MdA A s.heap) (hl : s.heap.IsTuple l (intItems xs)) (hne : 0 < xs.size)
    (h : ∀ v h' tk, (intItems xs)[argBest (fun i j => decide (numAt xs i < numAt xs j)) (xs.size - 1)]? = some v → (∀ b o, s.heap.get? b = some o → h'.get? b = some o) → Q v { s with heap := h', toks := tk }) :
    wpAny (model prog w) A (call (.builtin "min") [.ref l]) Q E s := by
  have hlt : l < s.heap.objs.size := by obtain ⟨_, e, _⟩ := hl; exact Heap.lt_size e
  have kept : ∀ {h' : Heap}, (∀ b o, b ∉ [s.heap.objs.size] → (s.heap.push { cls := .type "tuple_iterator", data := .fields #[.ref l, .int 0 0] }).get? b = some o → h'.get? b = some o) → ∀ b o, s.heap.get? b = some o → h'.get? b = some o := fun hk b o e => by
    refine hk b o (fun hm => ?_) (Heap.get?_push_of_some _ e)
    have e1 := List.mem_singleton.mp hm
    exact absurd (e1 ▸ Heap.lt_size e) (Nat.lt_irrefl _)
  have sz : (s.heap.push { cls := .type "tuple_iterator", data := .fields #[.ref l, .int 0 0] }).objs.size = s.heap.objs.size + 1 := Heap.size_push ..
  refine call_min_walk (wpAny_pyIter_tuple hl ?_)
  rcases hm with hh | ⟨x1, hot⟩
  · refine ⟨_, _, _, _, _, _, _, rfl, Walks.tuple (A := A.in1) hh _ l (Nat.ne_of_lt hlt) (intItems xs), ⟨⟨_, Heap.get?_push_size _ rfl, rfl, rfl⟩, hl.push _⟩, fun b hb => ?_, by simpa [intItems] using hne, CmpOf.ints_lt (numAt xs) (fun _ _ => intItems_at), fun v h' tk hP hk => ?_⟩
    · show b < (s.heap.push _).objs.size
      rw [sz]
      rcases List.mem_cons.mp hb with e | hb
      · rw [e]; exact Nat.lt_succ_self _
      · rw [List.mem_singleton.mp hb]; exact Nat.lt_succ_of_lt hlt
    · exact h v h' tk (by simpa [intItems] using hP) (kept hk)
  · have hx1 : x1 < s.heap.objs.size := by obtain ⟨_, o, vs, e, _⟩ := hot; exact Heap.lt_size e
    have hot2 : HotAt A.in1 x1 (s.heap.push { cls := .type "tuple_iterator", data := .fields #[.ref l, .int 0 0] }) := hot_keeps (h := s.heap) ⟨hot.1, hot.2⟩ fun o e => Heap.get?_push_of_some _ e
    refine ⟨_, _, _, _, _, _, _, rfl, walks_tuple_hot (A := A.in1) _ l x1 (Nat.ne_of_lt hlt) (Nat.ne_of_lt hx1) (intItems xs), ⟨⟨⟨_, Heap.get?_push_size _ rfl, rfl, rfl⟩, hl.push _⟩, hot2⟩, fun b hb => ?_, by simpa [intItems] using hne, CmpOf.ints_lt (numAt xs) (fun _ _ => intItems_at), fun v h' tk hP hk => ?_⟩
    · show b < (s.heap.push _).objs.size
      rw [sz]
      rcases List.mem_cons.mp hb with e | hb
      · rw [e]; exact Nat.lt_succ_self _
      · rcases List.mem_cons.mp hb with e | hb
        · rw [e]; exact Nat.lt_succ_of_lt hlt
        · rw [List.mem_singleton.mp hb]; exact Nat.lt_succ_of_lt hx1
    · exact h v h' tk (by simpa [intItems] using hP) (kept hk)
end
end SHt

/-! ## SRules1 -/
set_option maxHeartbeats 4000000
namespace SR
open PySem PySem.Spec PyProof.Rows L2 HotX SHt
abbrev St := L2.St
/-- a context where nothing is handled, or an exception without a context -/
def MdX (X : Cx) : Prop := X.calm = true ∨ L2H.HotC X
theorem md_at {X : Cx} {pins : List (Addr × Obj)} {σ : St} {H : Hp} {s : Shared} (m : MdX X) (I : Inv X pins σ H s) : MdA X.A s.heap := by
  rcases m with hc | hc
  · exact .inl (I.ok.hd hc)
  · exact .inr (hc.at I)
/-! ### min of a list | a tuple of ints -/
def rMinA (K : PySem.W.Frag) : List V → Hp → VK → Prop := fun vs H Q => ∃ (a : Addr) (ns : List Int), vs = [V.ref a] ∧ (SqL K H a (ns.map V.int) ∨ SqT K H a (ns.map V.int)) ∧ 0 < ns.length ∧ ∀ m, m ∈ ns → (∀ y, y ∈ ns → m ≤ y) → Q (.int m) H
section
variable {prog : Program} {w : World} {A : Around} {E : Value → Shared → Prop} {s : Shared}
theorem best_is {xs : Array (Int × Tok)} {v : Value} (hsz : 0 < xs.size) (hv : (intItems xs)[argBest (fun i j => decide (numAt xs i < numAt xs j)) (xs.size - 1)]? = some v) :
    ∃ m t, v = .int m t ∧ m ∈ xs.toList.map (·.1) ∧ ∀ a ∈ xs.toList.map (·.1), m ≤ a := by
  obtain ⟨t, rfl⟩ := intItems_at hv
  obtain ⟨h1, h2⟩ := argBest_lt (numAt xs) (xs.size - 1)
  refine ⟨_, t, rfl, ?_, fun a ha => ?_⟩
  · rw [numAt_eq]
    exact PySem.getD_mem (by rw [List.length_map, Array.length_toList]; omega)
  · obtain ⟨j, hj, rfl⟩ := mem_getD ha
    rw [List.length_map, Array.length_toList] at hj
    rw [← numAt_eq]
    exact h2 j (by omega)
theorem ints_arr {its : List Value} {ns : List Int} (hi : IntsAre its ns) : ∃ xs : Array (Int × Tok), its.toArray = intItems xs ∧ xs.toList.map (·.1) = ns := by
  obtain ⟨xs, e⟩ := hi.allInts.items
  refine ⟨xs, e, ?_⟩
  have hn : numsOf (intItems xs).toList = ns := by rw [← e]; exact hi.numsOf
  rw [nums_intItems] at hn
  exact hn
end
theorem cr_minA {X : Cx} (hm : MdX X) : CallR X (.builtin "min") (rMinA X.K) := by
  intro pins s σ H vs us Q I r h
  obtain ⟨a, ns, rfl, hs, hne, q⟩ := h
  rw [Vals.ref1 r]
  rcases hs with hs | hs
  · obtain ⟨its, rv, hl, _⟩ := I.list hs
    obtain ⟨xs, e, en⟩ := ints_arr rv.ints
    have hsz : 0 < xs.size := by
      have z := congrArg List.length en
      rw [List.length_map, Array.length_toList] at z
      omega
    refine min_listU (md_at hm I) (by rw [← e]; exact hl.isList) hsz fun v h' tk hv hk => ?_
    obtain ⟨m, t, rfl, h1, h2⟩ := best_is hsz hv
    rw [en] at h1 h2
    exact ⟨.int m, H, I.kept hk, ⟨_, rfl⟩, q m h1 h2⟩
  · obtain ⟨its, rv, hl, _⟩ := I.tuple hs
    obtain ⟨xs, e, en⟩ := ints_arr rv.ints
    have hsz : 0 < xs.size := by
      have z := congrArg List.length en
      rw [List.length_map, Array.length_toList] at z
      omega
    have ht : s.heap.IsTuple a its.toArray := hl
    refine min_tupleU (md_at hm I) (by rw [← e]; exact ht) hsz fun v h' tk hv hk => ?_
    obtain ⟨m, t, rfl, h1, h2⟩ := best_is hsz hv
    rw [en] at h1 h2
    exact ⟨.int m, H, I.kept hk, ⟨_, rfl⟩, q m h1 h2⟩
/-! ### [number - least for number in work] -/
abbrev zLeast : Str := PySem.Str.ofString "least"
abbrev zNum : Str := PySem.Str.ofString "number"
def subScope : Scope := { kind := .function, names := [(PySem.Str.ofString ".0", .local), (zNum, .local), (zLeast, .free)], isGenerator := false, isCoroutine := false, more := [] }
def tSub (K : PySem.W.Frag) (ti : TE) (i : Nat) : TE := fun σ H Q => ti σ H fun v H1 => ∃ (a : Addr) (ns : List Int) (c : Int), v = .ref a ∧ (SqL K H1 a (ns.map V.int) ∨ SqT K H1 a (ns.map V.int)) ∧ σ[i]? = some (some (.int c)) ∧
  ∀ D, H1 D = none → Q (.ref D) (upd H1 D (.lst (ns.map fun n => V.int (n - c))))
theorem vals_at {xs : List V} {its : List Value} (r : Vals xs its) {j : Nat} {v : Value} (h : its[j]? = some v) : ∃ x, xs[j]? = some x ∧ RelV x v := by
  have hl := r.length
  have hj : j < xs.length := by
    have := (List.getElem?_eq_some_iff.mp h).1
    omega
  obtain ⟨u, hu, ru⟩ := r.get (List.getElem?_eq_getElem hj)
  rw [h] at hu
  cases hu
  exact ⟨_, List.getElem?_eq_getElem hj, ru⟩
section
variable {prog : Program} {w : World} {A : Around} {E : Value → Shared → Prop} {s : Shared} {env : Env}
theorem sub_kind (hf : env.scope.kind = .function) (hk : env.kindOf zLeast = some .cell) (cl : List (Str × Addr)) (C : Addr) : (compEnvC subScope cl C env).kindOf zLeast = some .cell ∧ (compEnvC subScope cl C env).kindOf zNum = some .local := by
  have e3 : ((NameKind.free == NameKind.free) && (env.scope.kind == ScopeKind.function) && (env.kindOf zLeast == some NameKind.cell)) = true := by rw [hf, hk]; rfl
  have e : (compEnvC subScope cl C env).scope.names = [(PySem.Str.ofString ".0", NameKind.local), (zNum, NameKind.local), (zLeast, NameKind.cell)] := by
    show [_, _, (if ((NameKind.free == NameKind.free) && (env.scope.kind == ScopeKind.function) && (env.kindOf zLeast == some NameKind.cell)) = true then (zLeast, NameKind.cell) else (zLeast, NameKind.free))] = _
    rw [if_pos e3]
    rfl
  have l1 : List.lookup zLeast (compEnvC subScope cl C env).scope.names = some NameKind.cell := by rw [e]; decide +kernel
  have l2 : List.lookup zNum (compEnvC subScope cl C env).scope.names = some NameKind.local := by rw [e]; decide +kernel
  exact ⟨l1, l2⟩
theorem sub_elt {C c : Addr} {i k : Int} {t u : Tok} {m : Str → Option Value} {p1 p2 p3 : Pos} (hf : env.scope.kind = .function) (hk : env.kindOf zLeast = some .cell) (hn : s.heap.Ns C m) (hv : m zNum = some (.int i t)) (hc : s.heap.IsCell c (some (.int k u))) :
    wpAny (model prog w) A (eval (.BinOp (.Name zNum p1) .Sub (.Name zLeast p2) p3) (compEnvC subScope [(zLeast, c)] C env)) (fun y s₄ => (∃ t', y = .int (i - k) t') ∧ Keeps s s₄) E s := by
  obtain ⟨k1, k2⟩ := sub_kind hf hk [(zLeast, c)] C
  have hcl : List.lookup zLeast (compEnvC subScope [(zLeast, c)] C env).cells = some c := by
    show List.lookup zLeast [(zLeast, c)] = some c
    simp [List.lookup]
  refine wpAny_BinOp (wpAny_Name (wpAny_loadName_local rfl k2 hn hv ?_) (by decide +kernel))
  refine wpAny_Name (wpAny_loadName_cell rfl k1 (c := c) hcl hc ?_) (by decide +kernel)
  exact sub_int ⟨⟨_, rfl⟩, _, _, rfl, fun _ _ e => e⟩
end
theorem pe_lcSub {X : Cx} (hm : MdX X) {iter : Expr} {ti : TE} {i : Nat} {p1 p2 p3 p4 pos : Pos} (hi : PE X iter ti) (hN : X.N[i]? = some zLeast) (hk : X.env.kindOf zLeast = some .cell)
    (hs : ∀ x, foldedSetIterable iter X.env x = pure x := by intro _; rfl) :
    PE X (.ListComp (.BinOp (.Name zNum p1) .Sub (.Name zLeast p2) p3) [⟨.Name zNum p4, iter, [], 0⟩] subScope pos) (tSub X.K ti i) := by
  refine ⟨fun pins s σ H Q I h => ?_⟩
  obtain ⟨c0, ec⟩ := I.ok.has zLeast (.inl hk)
  have hclos : closureFor subScope X.env = pure [(zLeast, c0)] := by
    rw [closure_ok fun y hy e => ?_]
    · have z : (List.lookup zLeast X.env.cells).getD 0 = c0 := by rw [ec]; rfl
      show pure [(zLeast, (List.lookup zLeast X.env.cells).getD 0)] = _
      rw [z]
    · have q : y = (PySem.Str.ofString ".0", NameKind.local) ∨ y = (zNum, NameKind.local) ∨ y = (zLeast, NameKind.free) := by simpa [subScope] using hy
      rcases q with q | q | q
      · rw [q] at e; cases e
      · rw [q] at e; cases e
      · rw [q]; exact ⟨c0, ec⟩
  refine wpAny_ListComp_free (fun _ => true) (fun v y => ∃ n t u c, v = .int n t ∧ σ[i]? = some (some (.int c)) ∧ y = .int (n - c) u) hclos (by decide) rfl (by decide +kernel) (by decide +kernel) (thn (hi.run pins s σ H _ I h) fun xv s1 hh => ?_) hs
  obtain ⟨v, H1, I1, r1, a, ns, c, ev, hq, hc, q⟩ := hh
  subst ev
  cases r1
  -- the cell holds least
  obtain ⟨mm, hn, hl⟩ := I1.loc
  obtain ⟨u, ru, lk⟩ := hl i zLeast _ hN hc (.inr (.inl hk))
  obtain ⟨tc, rfl⟩ := ru
  have hcell : s1.heap.IsCell c0 (some (.int c tc)) := by
    rcases lk with ⟨k2, _⟩ | ⟨_, c1, e1, hcell⟩
    · rw [hk] at k2; cases k2
    · rw [ec] at e1; cases e1; exact hcell
  -- what both walks give
  have ends : ∀ (its : List Value) (ob : Obj) (s2 : Shared), Vals (ns.map V.int) its → ns.length ≤ sizeLine → s2 = { s1 with heap := s1.heap.push ob } →
      QuietOnC X.prog X.w X.A X.env subScope [(zLeast, c0)] zNum [] (.BinOp (.Name zNum p1) .Sub (.Name zLeast p2) p3) [s1.heap.objs.size] (fun (j : Nat) v => its.toArray[j]? = some v) (fun _ => true) (fun v y => ∃ n t u c, v = .int n t ∧ σ[i]? = some (some (.int c)) ∧ y = .int (n - c) u) s2 ∧
      (∀ D h' tk ys (vs : List Value), s2.heap.get? D = none → h'.IsList D ys → h'.PlainList D ys → vs.length = its.toArray.size → (∀ (j : Nat) v, vs[j]? = some v → its.toArray[j]? = some v) → Paired (fun v y => ∃ n t u c, v = .int n t ∧ σ[i]? = some (some (.int c)) ∧ y = .int (n - c) u) (vs.filter fun _ => true) ys.toList →
        (∀ b o, b ∉ [s1.heap.objs.size] → s2.heap.get? b = some o → h'.get? b = some o) → EP X pins σ Q (.ref D) { s2 with heap := h', toks := tk }) := by
    intro its ob s2 rv hsz e2
    subst e2
    have k12 : ∀ b o, s1.heap.get? b = some o → (s1.heap.push ob).get? b = some o := fun b o e => Heap.get?_push_of_some _ e
    have nwr : ∀ {b : Addr} {o : Obj}, s1.heap.get? b = some o → b ∉ [s1.heap.objs.size] := fun {b o} e hb => by
      rw [List.mem_singleton.mp hb] at e
      exact absurd (Heap.lt_size e) (Nat.lt_irrefl _)
    refine ⟨⟨fun C j v s3 m3 E' _ _ _ _ _ _ => wpAny_tests_nil ⟨rfl, _, _, rfl, fun _ _ e => e⟩, fun C j v s3 m3 E' _ hP _ hn3 hv3 k3 _ => ?_⟩, fun D h' tk ys vs hD hl hpl hlen hP hF hk3 => ?_⟩
    · obtain ⟨y, hy, ry⟩ := vals_at rv (by simpa using hP)
      rw [List.getElem?_map] at hy
      obtain ⟨n, hn0, rfl⟩ := Option.map_eq_some_iff.mp hy
      obtain ⟨tv, rfl⟩ := ry
      have hcell3 : s3.heap.IsCell c0 (some (.int c tc)) := by
        obtain ⟨o, e, d⟩ := hcell
        exact ⟨o, k3 _ _ (nwr e) (k12 _ _ e), d⟩
      exact wpAny_mono (sub_elt I1.ok.kind hk hn3 hv3 hcell3) (fun y s4 ⟨⟨t', e⟩, kk⟩ => ⟨⟨n, tv, t', c, rfl, hc, e⟩, kk⟩) fun _ _ z => z
    · have hv : vs = its := by simpa using list_of_places hlen hP
      subst hv
      have hD1 : s1.heap.get? D = none := by
        cases e : s1.heap.get? D with
        | none => rfl
        | some o => rw [k12 _ _ e] at hD; cases hD
      have hDn : H1 D = none := I1.hok.gone hD1
      obtain ⟨n0, hg⟩ := hpl
      have hF2 : Vals (ns.map fun n => V.int (n - c)) ys.toList := by
        have ef : vs.filter (fun _ => true) = vs := List.filter_eq_self.mpr fun _ _ => rfl
        rw [ef] at hF
        have key : ∀ {ms : List Int} {us zs : List Value}, Vals (ms.map V.int) us → Paired (fun v y => ∃ n t u c, v = .int n t ∧ σ[i]? = some (some (.int c)) ∧ y = .int (n - c) u) us zs → Vals (ms.map fun n => V.int (n - c)) zs := by
          intro ms
          induction ms with
          | nil => intro us zs r p; cases r; cases p; exact .nil
          | cons m ms ih =>
            intro us zs r p
            cases r with
            | cons r0 rr =>
              cases p with
              | cons p0 pp =>
                obtain ⟨n, t, u, c', rfl, hc', rfl⟩ := p0
                obtain ⟨t', e⟩ := r0
                cases e
                rw [hc] at hc'
                cases hc'
                exact .cons ⟨_, rfl⟩ (ih rr pp)
        exact key rv hF
      have J := I1.laidN (t' := tk) (a := D) (o := .lst (ns.map fun n => V.int (n - c))) (h' := h') (fun b o e => hk3 b o (nwr e) (k12 _ _ e)) hD1 hDn ⟨by rw [List.length_map]; exact hsz, ys.toList, n0, hF2, by rw [Array.toArray_toList]; exact hg⟩
      exact ⟨.ref D, _, J, rfl, q D hDn⟩
  rcases hq with hq | hq
  · obtain ⟨its, rv, p, hz⟩ := I1.list hq
    rw [List.length_map] at hz
    have hlt : a < s1.heap.objs.size := by obtain ⟨_, _, e, _⟩ := p; exact Heap.lt_size e
    refine wpAny_pyIter_list p.isList ?_
    obtain ⟨e1, e2⟩ := ends its _ _ rv hz rfl
    rcases md_at hm I1 with hh | ⟨x1, hot⟩
    · refine ⟨_, _, _, _, _, _, rfl, Walks.list (A := X.A) hh _ a (Nat.ne_of_lt hlt) its.toArray, ?_, ⟨⟨_, Heap.get?_push_size _ rfl, rfl, rfl⟩, p.isList.push _⟩, fun b hb => ?_, e1, e2⟩
      · rw [List.size_toArray, ← rv.length, List.length_map]; exact hz
      · show b < (s1.heap.push _).objs.size
        rw [Heap.size_push]
        rcases List.mem_cons.mp hb with e | hb
        · rw [e]; exact Nat.lt_succ_self _
        · rw [List.mem_singleton.mp hb]; exact Nat.lt_succ_of_lt hlt
    · have hx1 : x1 < s1.heap.objs.size := by obtain ⟨_, o, vs, e, _⟩ := hot; exact Heap.lt_size e
      refine ⟨_, _, _, _, _, _, rfl, walks_list_hot (A := X.A) _ a x1 (Nat.ne_of_lt hlt) (Nat.ne_of_lt hx1) its.toArray, ?_, ⟨⟨⟨_, Heap.get?_push_size _ rfl, rfl, rfl⟩, p.isList.push _⟩, hot_keeps hot fun o e => Heap.get?_push_of_some _ e⟩, fun b hb => ?_, e1, e2⟩
      · rw [List.size_toArray, ← rv.length, List.length_map]; exact hz
      · show b < (s1.heap.push _).objs.size
        rw [Heap.size_push]
        rcases List.mem_cons.mp hb with e | hb
        · rw [e]; exact Nat.lt_succ_self _
        · rcases List.mem_cons.mp hb with e | hb
          · rw [e]; exact Nat.lt_succ_of_lt hlt
          · rw [List.mem_singleton.mp hb]; exact Nat.lt_succ_of_lt hx1
  · obtain ⟨its, rv, p, hz⟩ := I1.tuple hq
    rw [List.length_map] at hz
    have ht : s1.heap.IsTuple a its.toArray := p
    have hlt : a < s1.heap.objs.size := by obtain ⟨_, e, _⟩ := p; exact Heap.lt_size e
    refine wpAny_pyIter_tuple ht ?_
    obtain ⟨e1, e2⟩ := ends its _ _ rv hz rfl
    rcases md_at hm I1 with hh | ⟨x1, hot⟩
    · refine ⟨_, _, _, _, _, _, rfl, Walks.tuple (A := X.A) hh _ a (Nat.ne_of_lt hlt) its.toArray, ?_, ⟨⟨_, Heap.get?_push_size _ rfl, rfl, rfl⟩, ht.push _⟩, fun b hb => ?_, e1, e2⟩
      · rw [List.size_toArray, ← rv.length, List.length_map]; exact hz
      · show b < (s1.heap.push _).objs.size
        rw [Heap.size_push]
        rcases List.mem_cons.mp hb with e | hb
        · rw [e]; exact Nat.lt_succ_self _
        · rw [List.mem_singleton.mp hb]; exact Nat.lt_succ_of_lt hlt
    · have hx1 : x1 < s1.heap.objs.size := by obtain ⟨_, o, vs, e, _⟩ := hot; exact Heap.lt_size e
      refine ⟨_, _, _, _, _, _, rfl, walks_tuple_hot (A := X.A) _ a x1 (Nat.ne_of_lt hlt) (Nat.ne_of_lt hx1) its.toArray, ?_, ⟨⟨⟨_, Heap.get?_push_size _ rfl, rfl, rfl⟩, ht.push _⟩, hot_keeps hot fun o e => Heap.get?_push_of_some _ e⟩, fun b hb => ?_, e1, e2⟩
      · rw [List.size_toArray, ← rv.length, List.length_map]; exact hz
      · show b < (s1.heap.push _).objs.size
        rw [Heap.size_push]
        rcases List.mem_cons.mp hb with e | hb
        · rw [e]; exact Nat.lt_succ_self _
        · rcases List.mem_cons.mp hb with e | hb
          · rw [e]; exact Nat.lt_succ_of_lt hlt
          · rw [List.mem_singleton.mp hb]; exact Nat.lt_succ_of_lt hx1
end SR

/-! ## SRules2 -/
set_option maxHeartbeats 4000000
namespace SR
open PySem PySem.Spec PyProof.Rows L2 HotX SHt
/-! ### enumerate of a text of plain signs -/
section
variable {prog : Program} {w : World} {A : Around} {E : Value → Shared → Prop} {s : Shared}
theorem enumS_item {e it : Addr} {x : Str} {t : Tok} {i c : Nat} {old : Value} {Q : Option Value → Shared → Prop} (hm : MdA A s.heap) (he : IsEnum s.heap e it ((i : Nat) : Int) old) (hit : s.heap.IsStrIter it "str_ascii_iterator" x t i) (hx : x.cps[i]? = some c) (hne : e ≠ it)
    (hQ : ∀ h' tk u, IsEnumOut h' e it ((i : Int) + 1) (.str ⟨#[c]⟩ u) s.heap.objs.size → h'.IsStrIter it "str_ascii_iterator" x t (i + 1) → h'.get? s.heap.objs.size = some { cls := .type "tuple", data := .seq #[.int i tk, .str ⟨#[c]⟩ u] } → (∀ b o, b ≠ e → b ≠ it → s.heap.get? b = some o → h'.get? b = some o) → Q (some (.ref s.heap.objs.size)) { s with heap := h', toks := tk + 1 }) :
    wpAny (model prog w) A (pyNext (.ref e)) Q E s := by
  have hlt : i < x.cps.size := (Array.getElem?_eq_some_iff.mp hx).1
  rcases hm with hh | ⟨x1, hot⟩
  · refine wpAny_pyNext_enum_itemD (Draws.strAscii (A := A.in1) hh it x t) he hit hlt hne (by simp [hne]) fun v h' tk hP ho hs hT hz hk => ?_
    obtain ⟨c', u, hc', rfl⟩ := hP
    rw [hx] at hc'
    cases hc'
    exact hQ h' tk u ho hs hT hk
  · have hx1 : x1 ≠ it := fun z => by
      obtain ⟨_, o, vs, e1, d1, c1⟩ := hot
      obtain ⟨o2, e2, _, d2⟩ := hit
      rw [z, e2] at e1
      cases e1
      rw [d2] at d1
      cases d1
      cases c1
    have hxe : e ≠ x1 := fun z => by
      obtain ⟨_, o, vs, e1, d1, c1⟩ := hot
      have e2 : s.heap.get? e = _ := he
      rw [z, e1] at e2
      cases e2
      cases d1
      cases c1
    refine wpAny_pyNext_enum_itemD (draws_ascii_hot (A := A.in1) it x1 hx1 x t) he ⟨hit, hot.1, hot.2⟩ hlt hne (by simp [hne, hxe]) fun v h' tk hP ho hs hT hz hk => ?_
    obtain ⟨c', u, hc', rfl⟩ := hP
    rw [hx] at hc'
    cases hc'
    exact hQ h' tk u ho hs.1 hT hk
theorem enumS_end {e it : Addr} {x : Str} {t : Tok} {i : Nat} {j : Int} {old : Value} {Q : Option Value → Shared → Prop} (hm : MdA A s.heap) (he : IsEnum s.heap e it j old) (hit : s.heap.IsStrIter it "str_ascii_iterator" x t i) (hx : i = x.cps.size)
    (hQ : ∀ h', Heap.ExtBut it s.heap h' → Q none { s with heap := h' }) : wpAny (model prog w) A (pyNext (.ref e)) Q E s := by
  subst hx
  rcases hm with hh | ⟨x1, hot⟩
  · exact wpAny_pyNext_enum_endD (Draws.strAscii (A := A.in1) hh it x t) he hit hQ
  · have hx1 : x1 ≠ it := fun z => by
      obtain ⟨_, o, vs, e1, d1, c1⟩ := hot
      obtain ⟨o2, e2, _, d2⟩ := hit
      rw [z, e2] at e1
      cases e1
      rw [d2] at d1
      cases d1
      cases c1
    exact wpAny_pyNext_enum_endD (draws_ascii_hot (A := A.in1) it x1 hx1 x t) he ⟨hit, hot.1, hot.2⟩ hQ
end
/-- the text's signs, each in a new pair with its place -/
def Ites (x : Str) : It :=
  ⟨fun i _ => i < x.cps.size, fun i H v H' => ∃ T c, v = .ref T ∧ H T = none ∧ x.cps[i]? = some c ∧ H' = upd H T (.tup [.int (i : Nat), .str ⟨#[c]⟩]), fun i _ => i = x.cps.size⟩
def ItesSt (x : Str) (t : Tok) (e it : Addr) (i : Nat) (h : Heap) : Prop := (∃ old, IsEnum h e it ((i : Nat) : Int) old) ∧ h.IsStrIter it "str_ascii_iterator" x t i ∧ e ≠ it
section
variable {X : Cx} {x : Str} {t : Tok} {e it : Addr} {elts : List Expr} {kk : Nat} {tpos : Pos}
theorem ites_obj {i : Nat} {h : Heap} (st : ItesSt x t e it i h) : ∀ b ∈ [e, it], ∃ o, h.get? b = some o ∧ ∀ v, o.data ≠ .cell v := fun b hb => by
  obtain ⟨⟨old, he⟩, ⟨o, ho, hc, hd⟩, _⟩ := st
  have e' : b = e ∨ b = it := by simpa using hb
  rcases e' with z | z
  · rw [z]; exact ⟨_, he, fun v q => nomatch q⟩
  · rw [z]; exact ⟨o, ho, fun v q => by rw [hd] at q; cases q⟩
theorem ites_keep {i : Nat} {h h' : Heap} (st : ItesSt x t e it i h) (k : ∀ b ∈ [e, it], ∀ o, h.get? b = some o → h'.get? b = some o) : ItesSt x t e it i h' := by
  obtain ⟨⟨old, he⟩, ⟨o, ho, r⟩, hne⟩ := st
  exact ⟨⟨old, k e (by simp) _ he⟩, ⟨o, k it (by simp) _ ho, r⟩, hne⟩
theorem ites_item {i : Nat} {pins : List (Addr × Obj)} {s : Shared} {σ : St} {H : Hp} {E : Value → Shared → Prop} (hm : MdX X) (I : Inv X pins σ H s) (hf : ∀ b ∈ [e, it], FpOk X pins H b) (st : ItesSt x t e it i s.heap) (hg : (Ites x).go i H) :
    wpAny (model X.prog X.w) X.A (pyNext (.ref e)) (fun r s1 => ∃ u, r = some u ∧
      wpAny (model X.prog X.w) X.A (letOwnedTupleGo (.Tuple elts kk tpos) (.ref e) u) (fun _ s2 => ∃ v H', Inv X pins σ H' s2 ∧ RelV v u ∧ (Ites x).yld i H v H' ∧ ItesSt x t e it (i + 1) s2.heap ∧ ∀ b ∈ [e, it], H' b = none) E s1) E s := by
  obtain ⟨⟨old, he⟩, hit, hne⟩ := st
  have hg : i < x.cps.size := hg
  have hx : x.cps[i]? = some x.cps[i] := Array.getElem?_eq_getElem hg
  have hel : e < s.heap.objs.size := Heap.lt_size he
  have hil : it < s.heap.objs.size := by obtain ⟨_, q, _⟩ := hit; exact Heap.lt_size q
  refine enumS_item (md_at hm I) he hit hx hne fun h' tk u ho hit' hT hk => ?_
  refine ⟨_, rfl, wpAny_letOwnedTupleGo_enum (s := { s with heap := h', toks := tk + 1 }) ho fun h2 he2 sb => ?_⟩
  have hT2 : h2.get? s.heap.objs.size = some { cls := .type "tuple", data := .seq #[.int i tk, .str ⟨#[x.cps[i]]⟩ u] } := (sb.2 _ (Nat.ne_of_gt hel)).trans hT
  have nw : ObjOk X.prog X.w (upd H s.heap.objs.size (.tup [.int (i : Nat), .str ⟨#[x.cps[i]]⟩])) h2 s.heap.objs.size (.tup [.int (i : Nat), .str ⟨#[x.cps[i]]⟩]) :=
    ⟨by show 2 ≤ sizeLine; decide, [.int i tk, .str ⟨#[x.cps[i]]⟩ u], .cons ⟨_, rfl⟩ (.cons ⟨_, rfl⟩ .nil), ⟨_, hT2, rfl, _, rfl⟩⟩
  have I1 : Inv X pins σ (upd H s.heap.objs.size (.tup [.int (i : Nat), .str ⟨#[x.cps[i]]⟩])) { s with heap := h2, toks := tk + 1 } :=
    I.turnedNew (ch := [e, it]) (fun b ob hb q => (sb.2 b (fun z => hb (by simp [z]))).trans (hk b ob (fun z => hb (by simp [z])) (fun z => hb (by simp [z])) q)) hf (Nat.le_refl _) nw
  refine ⟨.ref s.heap.objs.size, _, I1, rfl, ⟨_, _, rfl, I.hok.fresh (Nat.le_refl _), hx, rfl⟩, ⟨⟨.str ⟨#[x.cps[i]]⟩ u, ?_⟩, ?_, hne⟩, fun b hb => ?_⟩
  · have e1 : ((i + 1 : Nat) : Int) = (i : Int) + 1 := by omega
    rw [e1]; exact he2
  · obtain ⟨o, q, r⟩ := hit'
    exact ⟨o, (sb.2 it (Ne.symm hne)).trans q, r⟩
  · have hb' : b < s.heap.objs.size := by
      have e' : b = e ∨ b = it := by simpa using hb
      rcases e' with z | z
      · rw [z]; exact hel
      · rw [z]; exact hil
    rw [upd_ne (Nat.ne_of_lt hb')]
    exact (hf b hb).1
theorem ites_done {i : Nat} {pins : List (Addr × Obj)} {s : Shared} {σ : St} {H : Hp} {E : Value → Shared → Prop} (hm : MdX X) (I : Inv X pins σ H s) (hf : ∀ b ∈ [e, it], FpOk X pins H b) (st : ItesSt x t e it i s.heap) (hg : (Ites x).stop i H) :
    wpAny (model X.prog X.w) X.A (pyNext (.ref e)) (fun r s1 => r = none ∧ Inv X pins σ H s1) E s := by
  obtain ⟨⟨old, he⟩, hit, hne⟩ := st
  obtain ⟨f0, f1, f2, f3, f4, f5⟩ := hf it (by simp)
  exact enumS_end (md_at hm I) he hit hg fun h' eb => ⟨rfl, I.turned (t' := s.toks) (fun b o hb q => eb b o hb q) f0 f1 f3 f4 f5⟩
end
theorem turn_enumS {P : Program} {w : World} {K : PySem.W.Frag} {elts : List Expr} {kk : Nat} {tpos : Pos} (x : Str) (t : Tok) (e it : Addr) : Turn P w K (.Tuple elts kk tpos) (Ites x) [e, it] e (ItesSt x t e it) where
  mem := by simp
  obj := fun i h st => ites_obj st
  keep := fun i h h' st k => ites_keep st k
  item := by
    intro X hP hw hK hc i pins s σ H E I hf st hg
    subst hP hw hK
    exact ites_item (.inl hc) I hf st hg
  done := by
    intro X hP hw hK hc i pins s σ H E I hf st hg
    subst hP hw hK
    exact ites_done (.inl hc) I hf st hg
  self := fun A i s Q E st h => let ⟨⟨_, he⟩, _⟩ := st; wpAny_pyIter_enum he h
theorem turn_enumSH {P : Program} {w : World} {K : PySem.W.Frag} {elts : List Expr} {kk : Nat} {tpos : Pos} (x : Str) (t : Tok) (e it : Addr) : L2H.TurnH P w K (.Tuple elts kk tpos) (Ites x) [e, it] e (ItesSt x t e it) where
  mem := by simp
  obj := fun i h st => ites_obj st
  keep := fun i h h' st k => ites_keep st k
  item := by
    intro X hP hw hK hc i pins s σ H E I hf st hg
    subst hP hw hK
    exact ites_item (.inr hc) I hf st hg
  done := by
    intro X hP hw hK hc i pins s σ H E I hf st hg
    subst hP hw hK
    exact ites_done (.inr hc) I hf st hg
  self := fun A i s Q E st h => let ⟨⟨_, he⟩, _⟩ := st; wpAny_pyIter_enum he h
def iEnumS (ta : TA) : TI := fun σ H R => ta σ H fun vs H1 => ∃ x : Str, vs = [.str x] ∧ x.cps.all (· < 128) = true ∧ R (Ites x) H1
section
variable {X : Cx} {e : Expr} {ta : TA} {p pos tpos : Pos} {elts : List Expr} {kk : Nat}
/-- the enumerate of a text stands -/
theorem enumS_made {pins : List (Addr × Obj)} {σ : St} {H : Hp} {s : Shared} {x : Str} {t : Tok} {Q : Value → Shared → Prop} {E : Value → Shared → Prop} (I : Inv X pins σ H s) (ha : x.cps.all (· < 128) = true)
    (hQ : ∀ s2 a b, Inv X pins σ H s2 → ItesSt x t a b 0 s2.heap → (∀ c ∈ [a, b], FpOk X pins H c) → wpAny (model X.prog X.w) X.A (pyIter (.ref a)) Q E s2) :
    wpAny (model X.prog X.w) X.A (call (.type "enumerate") [.str x t]) (fun v s2 => wpAny (model X.prog X.w) X.A (pyIter v) Q E s2) E s := by
  refine call_enumerate_str fun h' he hit hsz hk => ?_
  have hit2 : h'.IsStrIter s.heap.objs.size "str_ascii_iterator" x t 0 := by
    have z : strIterType x = "str_ascii_iterator" := by unfold strIterType; rw [ha]; rfl
    rw [← z]
    exact hit
  refine hQ _ (s.heap.objs.size + 1) s.heap.objs.size (I.kept (t' := s.toks) hk) ⟨⟨.none, he⟩, hit2, Nat.succ_ne_self _⟩ fun b hb => ?_
  have e' : b = s.heap.objs.size + 1 ∨ b = s.heap.objs.size := by simpa using hb
  have hle : s.heap.objs.size ≤ b := by
    rcases e' with z | z
    · rw [z]; exact Nat.le_add_right _ _
    · rw [z]; exact Nat.le_refl _
  exact I.fpOk hle (I.hok.fresh hle)
theorem pi_enumS (hg : Gl X "enumerate") (hm : X.mg "enumerate" = none) (he : PA X [e] ta) (hs : starEach [e] X.env = [(false, eval e X.env)] := by rfl) :
    PI X (.Tuple elts kk tpos) (.Call (.Name "enumerate" p) [e] [] pos) (iEnumS ta) := by
  refine ⟨fun pins s σ H R I h => ?_⟩
  refine Call_ (ld_blt I hg hm boot_enumerate (PyProof.Rows.callWith_type1 (thn (he.run pos pins s σ H _ I h) fun us s1 hh => ?_) hs rfl))
  obtain ⟨vs, H1, I1, r1, x, ex, ha, q⟩ := hh
  subst ex
  cases r1 with
  | cons r rr =>
    cases rr
    obtain ⟨t, rfl⟩ := r
    exact enumS_made I1 ha fun s2 a b I2 st hf => let ⟨⟨_, hn⟩, _⟩ := st; wpAny_pyIter_enum hn ⟨a, [a, b], _, _, H1, rfl, I2, turn_enumS x t a b, st, hf, q⟩
theorem pi_enumSH (hg : Gl X "enumerate") (hm : X.mg "enumerate" = none) (he : PA X [e] ta) (hs : starEach [e] X.env = [(false, eval e X.env)] := by rfl) :
    L2H.PIH X (.Tuple elts kk tpos) (.Call (.Name "enumerate" p) [e] [] pos) (iEnumS ta) := by
  refine ⟨fun pins s σ H R I h => ?_⟩
  refine Call_ (ld_blt I hg hm boot_enumerate (PyProof.Rows.callWith_type1 (thn (he.run pos pins s σ H _ I h) fun us s1 hh => ?_) hs rfl))
  obtain ⟨vs, H1, I1, r1, x, ex, ha, q⟩ := hh
  subst ex
  cases r1 with
  | cons r rr =>
    cases rr
    obtain ⟨t, rfl⟩ := r
    exact enumS_made I1 ha fun s2 a b I2 st hf => let ⟨⟨_, hn⟩, _⟩ := st; wpAny_pyIter_enum hn ⟨a, [a, b], _, _, H1, rfl, I2, turn_enumSH x t a b, st, hf, q⟩
end
/-! ### range(a, b) while an exception is handled -/
theorem pi_range2H {X : Cx} {tg a b : Expr} {ta : TA} {p pos : Pos} (hg : Gl X "range") (hm : X.mg "range" = none) (ha : PA X [a, b] ta) (hs : starEach [a, b] X.env = [(false, eval a X.env), (false, eval b X.env)] := by rfl) (hs2 : starEach [b] X.env = [(false, eval b X.env)] := by rfl) :
    L2H.PIH X tg (.Call (.Name "range" p) [a, b] [] pos) (iRng2 ta) := by
  refine ⟨fun pins s σ H R I h => ?_⟩
  refine Call_ (ld_blt I hg hm boot_range (PyProof.Rows.callWith_type1 (thn (ha.run pos pins s σ H _ I h) fun us s1 hh => ?_) (by rw [hs, hs2]) (by rw [hs2]; rfl)))
  obtain ⟨vs, H1, I1, r1, i, j, e, ⟨q1, q2, q3, q4⟩, q⟩ := hh
  subst e
  cases r1 with
  | cons r rr =>
    cases rr with
    | cons r' rr =>
      cases rr
      obtain ⟨t, rfl⟩ := r
      obtain ⟨t', rfl⟩ := r'
      exact call_range_2 (L2H.range_itH I1 q1 q2 q3 q4 q)
/-! ### a, b = a tuple, while an exception is handled -/
theorem pg_tupH {X : Cx} {es : List Expr} {k : Nat} {t : TGs} {n : Nat} {pos : Pos} (hc : L2H.HotC X) (h : PGs X es t)
    (hn : (assignEach es X.env).length = n := by rfl) (hst : (assignEach es X.env).findIdx? (·.1) = none := by rfl) : PG X (.Tuple es k pos) (gTup X.K n t) := by
  refine ⟨fun pins s σ H v u Q I r hw => ?_⟩
  obtain ⟨a, xs, e1, hq, hl, hw⟩ := hw
  subst e1
  cases r
  obtain ⟨its, rv, ht, hz⟩ := I.tuple hq
  obtain ⟨x1, hot⟩ := hc.at I
  refine assign_Tuple_hot hot ht (by simp [hn, ← hl, rv.length]) hst fun h' hx => ?_
  exact h.run pins _ σ H xs _ Q (I.kept (t' := s.toks) fun b o e => hx b o (Nat.ne_of_lt (Heap.lt_size e)) e) (by simpa using rv) hw
end SR

/-! ## SRules3 -/
set_option maxHeartbeats 4000000
namespace SR
open PySem PySem.Spec PyProof.Rows L2 HotX SHt
/-! ### {k: v}, the key a tuple -/
def disp1 (p : Addr) (Q : VK) : List (V × V) → Hp → Prop
  | [(x, y)], H2 => ∃ (b : Addr) (k : List Key), x = .ref b ∧ H2 b = some (.tup (k.map kV)) ∧ H2 p = some (.dT []) ∧ Q (.ref p) (upd H2 p (.dT [(k, y)]))
  | _, _ => False
def tDisp1 (tk tv : TE) : TE := fun σ H Q => ∀ p, H p = none → tPairs [(tk, tv)] σ (upd H p (.dT [])) (disp1 p Q)
theorem pe_disp1 {X : Cx} {pos : Pos} {k v : Expr} {tk tv : TE} (hu : X.A.units + 1 < cLine) (hk : PE X k tk) (hv : PE X v tv) : PE X (.Dict [some k] [v] pos) (tDisp1 tk tv) := by
  refine ⟨fun pins s σ H Q I q => ?_⟩
  have hn := I.hok.fresh (Nat.le_refl s.heap.objs.size)
  have I1 := I.laid (a := s.heap.objs.size) (o := .dT []) (h' := s.heap.push { cls := .type "dict", data := .dict #[] }) (t' := s.toks) (fun _ _ z => Heap.get?_push_of_some _ z) (Nat.le_refl _) (dt_empty s.heap I.big)
  have P : PPs X pos [some k] [v] [(tk, tv)] := pps_cons hk hv pps_nil
  have hl : (pairTrees [some k] [v] X.env pos).length = 1 := pairTrees_length [some k] [v] X.env pos rfl rfl
  rw [arm_eval_Dict, zip_pairTrees [some k] [v] X.env pos rfl rfl, dictDisplay_pairs (pairTrees [some k] [v] X.env pos) (fun e => by rw [e] at hl; cases hl) (by rw [hl]; decide)]
  refine wpAny_bind (wpAny_standAt (wpAny_bind ?_))
  unfold subDict
  refine wpAny_bind (wpAny_alloc (wpAny_bind (wpAny_holding ?_)))
  rw [if_pos (by rw [hl]; decide)]
  refine wpAny_bind (thn (P.run pins _ σ _ _ I1 (q _ hn)) fun ws s2 hh => ?_)
  obtain ⟨ps, H2, I2, rel, q2⟩ := hh
  cases rel with
  | nil => exact q2.elim
  | @cons p0 w0 pr wr r rr =>
    cases rr with
    | cons _ _ => exact q2.elim
    | nil =>
      obtain ⟨x0, y0⟩ := p0
      obtain ⟨u0, u1⟩ := w0
      obtain ⟨r1, r2⟩ := r
      obtain ⟨b, kk, ex, eb, ed, q3⟩ := q2
      subst ex
      cases (show u0 = Value.ref b from r1)
      refine wpAny_holding ?_
      rw [List.forIn_cons]
      obtain ⟨z, hd, xs, relk, dd⟩ := dt_of I2.hok ed
      cases relk
      refine wpAny_bind (wpAny_bind ?_)
      dsimp only
      refine wpAny_bind (wpAny_dictSet_heap (hsz := Nat.zero_le _) (show (tupleKind (mixKind X.prog X.w)).room X.A from (by show X.A.units < cLine; omega)) (key_of I2.hok eb) dd fun h' dd' hs => wpAny_pure ?_)
      dsimp only
      rw [List.forIn_nil]
      obtain ⟨o, es, ep, hq, h2, h3, h4, _, h5⟩ := dd'
      have J : Inv X pins σ (upd H2 s.heap.objs.size (.dT [(kk, y0)])) { s2 with heap := h', toks := s2.toks + (tupleKind (mixKind X.prog X.w)).draws kk } := by
        refine d_write I2 (by rw [ed]; exact True.intro) hs ⟨o, hq⟩ ⟨by show 1 ≤ sizeLine; decide, hd, _, ?_, o, es, ep, hq, h2, h3, h4, h5⟩
        refine .cons ⟨rfl, ?_, r2⟩ .nil
        rw [upd_ne (ne_of eb ed (fun z => nomatch z))]
        exact eb
      refine wpAny_pure (wpAny_pure (wpAny_pure (wpAny_pure ?_)))
      exact ⟨.ref s.heap.objs.size, _, J, rfl, q3⟩
end SR

/-! ## SRules4 -/
set_option maxHeartbeats 4000000
namespace SR
open PySem PySem.Spec PyProof.Rows L2 HotX SHt
/-! ### an own class with __len__ and an __iter__ that hands back a tuple's iterator -/
def ItT (t it : Addr) : HO := .ext fun h => h.IsTupleIter it t 0
theorem itT_ok {P : Program} {w : World} {H : Hp} {h : Heap} {t it : Addr} (e : h.IsTupleIter it t 0) : ObjOk P w H h it (ItT t it) :=
  ⟨e, let ⟨o, q, _⟩ := e; ⟨o, q⟩, fun h1 h2 z k => let ⟨o, q, r⟩ := z; ⟨o, k _ q, r⟩⟩
theorem itT_at {P : Program} {w : World} {H : Hp} {h : Heap} {t it : Addr} (hok : HOk P w H h) (e : H it = some (ItT t it)) : h.IsTupleIter it t 0 := by
  have x : ObjOk P w H h it (.ext fun h => h.IsTupleIter it t 0) := hok it _ e
  exact x.1
/-- iter(t), t a tuple -/
def rIterT (K : PySem.W.Frag) : List V → Hp → VK → Prop := fun xs H Q => ∃ (t : Addr) (zs : List V), xs = [.ref t] ∧ SqT K H t zs ∧ ∀ it, H it = none → Q (.ref it) (upd H it (ItT t it))
theorem call_iterT {X : Cx} : CallR X (.builtin "iter") (rIterT X.K) := by
  intro pins s σ H xs us Q I r h
  obtain ⟨t, zs, rfl, hq, q⟩ := h
  obtain rfl := Vals.ref1 r
  obtain ⟨its, rv, pl, hz⟩ := I.tuple hq
  have ht : s.heap.IsTuple t its.toArray := pl
  refine Calls.call_function_entry (by decide +kernel) (by decide +kernel) PySem.W.kdk_entry_iter (PySem.W.kdk_args_iter _) ?_
  unfold Builtin.«iter»
  refine wpAny_bind (m := someArgs "iter" 1 2 _) (wpAny_of_eq (a := [Value.ref t]) (by first | rfl | kernel_rfl!) ?_)
  show wpAny _ _ (pyIter (.ref t) >>= _) _ _ _
  refine wpAny_bind (wpAny_pyIter_tuple ht (wpAny_pure ⟨_, rfl, ?_⟩))
  exact ⟨.ref s.heap.objs.size, _, I.laid (t' := s.toks) (fun b u e => Heap.get?_push_of_some _ e) (Nat.le_refl _) (itT_ok ⟨_, Heap.get?_push_size _ rfl, rfl, rfl⟩), rfl, q _ (I.hok.fresh (Nat.le_refl _))⟩
/-- what __iter__ promises, what __len__ promises -/
def spIter (K : PySem.W.Frag) (C : Addr) : Sp := fun vs H Q _ => ∃ (a dx : Addr) (fs : List (Str × V)) (t : Addr) (xs : List V), vs = [.ref a] ∧ H a = some (.ins C dx fs) ∧ fs.lookup ("lots" : Str) = some (V.ref t) ∧ SqT K H t xs ∧ ∀ it, H it = none → Q (.ref it) (upd H it (ItT t it))
def spLen (K : PySem.W.Frag) (C : Addr) : Sp := fun vs H Q _ => ∃ (a dx : Addr) (fs : List (Str × V)) (t : Addr) (xs : List V), vs = [.ref a] ∧ H a = some (.ins C dx fs) ∧ fs.lookup ("lots" : Str) = some (V.ref t) ∧ SqT K H t xs ∧ Q (.int xs.length) H
structure LiC (K : PySem.W.Frag) (C fi fl : Addr) : Prop where
  it : PySem.W.findIn K (.ref C) "__iter__" = some (some (.ref fi))
  itF : PySem.W.isFn K (.ref fi) = true
  ln : PySem.W.findIn K (.ref C) "__len__" = some (some (.ref fl))
  lnF : PySem.W.isFn K (.ref fl) = true
section
variable {X : Cx} {pins : List (Addr × Obj)} {σ : St} {H : Hp} {s : Shared} {f C a fi fl : Addr} {fd fdI fdL : FuncData} {ps : List Str} {sp : Sp} {n : Nat} {A1 : Around} {Q : VK} {E : Value → Shared → Prop}
/-- such a def run from within a built-in -/
theorem own_run (sb : Sub X n A1) (F : FnOk X.prog X.w X.K X.mg X.base CX0 n f fd ps sp) (b : Binds X.K fd ps []) (I : Inv X pins σ H s) (h : sp [.ref a] H Q E0) :
    wpAny (model X.prog X.w) A1 (call (.ref f) [.ref a]) (EP X pins σ Q) E s := by
  have e0 : Env0 X.prog X.w X.K X.mg X.base A1 X.stack s H := by
    have e := I.env0
    exact ⟨by rw [sb.fr]; exact e.frames, e.mod, e.bs, e.bsz, e.funs, e.frf, e.hok, e.bare⟩
  have hl := F.len _ _ _ _ h
  have r2 : Vals [V.ref a] [Value.ref a] := .cons rfl .nil
  refine wpAny_call (codeAny_mono (F.run A1 X.stack s H ⟨[.ref a], []⟩ [.ref a] [.ref a] Q E0 sb.room e0 (by
    have z := b s [.ref a] I.kIn (by simpa using hl)
    simpa using z) r2 h) fun r s' hq => ?_)
  cases r with
  | error e => exact False.elim hq
  | ok fl =>
    cases fl with
    | ret u => exact I.after hq
    | next => exact False.elim hq
    | brk => exact False.elim hq
    | cont => exact False.elim hq
/-- len(o) -/
theorem own_len (sb : Sub X (n + 1) A1) (hc : LiC X.K C fi fl) (FL : FnOk X.prog X.w X.K X.mg X.base CX0 n fl fdL ps (spLen X.K C)) (bL : Binds X.K fdL ps []) {dx t : Addr} {fs : List (Str × V)} {xs : List V} (I : Inv X pins σ H s)
    (ha : H a = some (.ins C dx fs)) (hl : fs.lookup ("lots" : Str) = some (V.ref t)) (ht : SqT X.K H t xs) {R : Value → Shared → Prop} (h : ∀ s' u, Inv X pins σ H s' → R (.int xs.length u) s') :
    wpAny (model X.prog X.w) A1 (call (.builtin "len") [.ref a]) R E s := by
  obtain ⟨mA, J, _⟩ := ins_get I.hok ha
  obtain ⟨od, J, _⟩ := J.look
  obtain ⟨m, hF⟩ := I.fr
  have hz : xs.length ≤ sizeLine := let ⟨_, _, _, z⟩ := I.tuple ht; z
  rw [sizeLine_eq] at hz
  refine PySem.W.len_K hF I.ok.mod.kin J hc.ln hc.lnF ?_
  refine wpAny_mono (own_run (Q := fun v H' => v = .int xs.length ∧ H' = H) sb.in1 FL bL I ⟨a, dx, fs, t, xs, rfl, ha, hl, ht, rfl, rfl⟩) (fun u s' hu => ?_) fun _ _ z => z
  obtain ⟨v, H', I', rv, ev, eH⟩ := hu
  subst ev eH
  obtain ⟨t', rfl⟩ := rv
  exact ⟨⟨by omega, by omega⟩, h _ _ (I'.tok _)⟩
end
def rLenOwn (K : PySem.W.Frag) (C : Addr) : List V → Hp → VK → Prop := fun ys H Q => ∃ (a dx : Addr) (fs : List (Str × V)) (t : Addr) (xs : List V), ys = [.ref a] ∧ H a = some (.ins C dx fs) ∧ fs.lookup ("lots" : Str) = some (V.ref t) ∧ SqT K H t xs ∧ Q (.int xs.length) H
theorem call_lenOwn {X : Cx} {C fi fl : Addr} {fdL : FuncData} {ps : List Str} {n : Nat} (hc : LiC X.K C fi fl) (FL : FnOk X.prog X.w X.K X.mg X.base CX0 n fl fdL ps (spLen X.K C)) (bL : Binds X.K fdL ps []) (hr : Room (n + 1) X.A) : CallR X (.builtin "len") (rLenOwn X.K C) := by
  intro pins s σ H xs us Q I r h
  obtain ⟨a, dx, fs, t, zs, rfl, ha, hl, ht, q⟩ := h
  obtain rfl := Vals.ref1 r
  exact own_len ⟨hr, rfl⟩ hc FL bL I ha hl ht fun s' u I' => ⟨.int zs.length, H, I', ⟨u, rfl⟩, q⟩
/-! ### list(o) -/
def rListOwn (X : Cx) (C : Addr) : List V → Hp → VK → Prop := fun ys H Q => ∃ (a dx : Addr) (fs : List (Str × V)) (t : Addr) (xs : List V), ys = [.ref a] ∧ H a = some (.ins C dx fs) ∧ fs.lookup ("lots" : Str) = some (V.ref t) ∧ SqT X.K H t xs ∧ (∀ p, H p = none → X.H_0 p = none) ∧
  ∀ q, H q = none → Q (.ref q) (upd H q (.lst xs))
theorem own_special {X : Cx} {pins : List (Addr × Obj)} {σ : St} {H : Hp} {s : Shared} {A1 : Around} {E : Value → Shared → Prop} {a C fl : Addr} {dx : Addr} {fs : List (Str × V)} {Q : Option Value → Shared → Prop} (I : Inv X pins σ H s) (ha : H a = some (.ins C dx fs)) (hln : PySem.W.findIn X.K (.ref C) "__len__" = some (some (.ref fl)))
    (h : Q (some (.ref fl)) s) : wpAny (model X.prog X.w) A1 (specialOf (.ref a) "__len__") Q E s := by
  obtain ⟨mA, J, _⟩ := ins_get I.hok ha
  obtain ⟨od, J, _⟩ := J.look
  exact wpAny_bind (J.type.here ((PySem.W.looks_findIn I.kIn hln).here h))
theorem tupleiter_next {X : Cx} {A1 : Around} {E : Value → Shared → Prop} {s : Shared} {it t : Addr} {Q : Value → Shared → Prop} (h : s.heap.IsTupleIter it t 0) (hQ : Q (.ref it) s) : PySem.W.OwitIt (model X.prog X.w) A1 Q E (.ref it) s := by
  unfold PySem.W.OwitIt
  refine wpAny_specialOf (T := "tuple_iterator") ?_ PySem.F.slot_tuple_iterator_next.lookup hQ
  obtain ⟨o, e, c, d⟩ := h
  exact ⟨o, e, c⟩
theorem own_hintL {X : Cx} {pins : List (Addr × Obj)} {σ : St} {H : Hp} {s : Shared} {A1 : Around} {a C fi fl : Addr} {fdL : FuncData} {ps : List Str} {n : Nat} {dx t : Addr} {fs : List (Str × V)} {xs : List V} {E : Value → Shared → Prop} {R : Bool → Shared → Prop} (sb : Sub X (n + 1) A1) (hc : LiC X.K C fi fl)
    (FL : FnOk X.prog X.w X.K X.mg X.base CX0 n fl fdL ps (spLen X.K C)) (bL : Binds X.K fdL ps []) (I : Inv X pins σ H s) (ha : H a = some (.ins C dx fs)) (hl : fs.lookup ("lots" : Str) = some (V.ref t)) (ht : SqT X.K H t xs)
    (h : ∀ s' b, Inv X pins σ H s' → R b s') : wpAny (model X.prog X.w) A1 (Builtin.List.listLengthHint (.ref a)) R E s := by
  have hz : xs.length ≤ sizeLine := let ⟨_, _, _, z⟩ := I.tuple ht; z
  unfold Builtin.List.listLengthHint
  refine wpAny_bind (own_special I ha hc.ln ?_)
  refine wpAny_ite_split (fun hab => absurd hab Bool.false_ne_true) (fun _ => ?_)
  refine wpAny_ite_split (fun _ => ?_) (fun hab => absurd rfl hab)
  refine wpAny_bind (wpAny_rule ?_)
  refine wpAny_bind (wpAny_attempt (own_len sb hc FL bL I ha hl ht fun s' u I' => ?_))
  have htl : Builtin.List.listTooLong ((xs.length : Int).toNat) = false := by
    have e : (xs.length : Int).toNat = xs.length := Int.toNat_natCast _
    rw [e]
    exact notLongL hz
  refine wpAny_bind (m := asInt? _) (wpAny_pure ?_)
  exact wpAny_ite_split (fun hab => absurd hab (by rw [htl]; decide)) (fun _ => wpAny_pure (h _ _ I'))
section
variable {X : Cx} {pins : List (Addr × Obj)} {σ : St} {H : Hp} {s : Shared}
/-- the loop that fills the list at S from the tuple's iterator -/
theorem fill_list {A1 : Around} {Rs : Result → Shared → Prop} {S it t : Addr} {xs : List V} {Q : VK} (hh : A1.handled = none) (hex : X.ex = []) (I : Inv X pins σ (upd (upd H S (.lst [])) it (ItT t it)) s) (hS : H S = none) (hit : H it = none) (hne : it ≠ S) (ht : SqT X.K H t xs) (h0 : X.H_0 it = none)
    (q : Q (.ref S) (upd H S (.lst xs))) (hR : ∀ s', EP X pins σ Q (.ref S) s' → Rs (.ok (.ret .none)) s') : codeAny (model X.prog X.w) A1 (.builtin "list.extend.loop" ⟨[.ref S, .ref it, .none], []⟩) Rs s := by
  have hS2 : (upd (upd H S (.lst [])) it (ItT t it)) S = some (.lst []) := by rw [upd_ne hne.symm, upd_same]
  obtain ⟨_, its0, c0, r0, _, eS⟩ := I.lstM hS2
  cases r0
  have si : s.heap.IsTupleIter it t 0 := itT_at I.hok upd_same
  have ht2 : SqT X.K (upd (upd H S (.lst [])) it (ItT t it)) t xs := by
    rcases ht with z | z
    · refine .inl ?_
      rcases z with z | ⟨o, z⟩
      · exact .inl (by rw [upd_ne (ne_of_none z hit), upd_ne (ne_of_none z hS)]; exact z)
      · exact .inr ⟨o, by rw [upd_ne (ne_of_none z hit), upd_ne (ne_of_none z hS)]; exact z⟩
    · exact .inr z
  obtain ⟨its, rv, pl, hz⟩ := I.tuple ht2
  have tp : s.heap.IsTuple t its.toArray := pl
  have hti : t ≠ it := fun e => by
    obtain ⟨o, e1, c1, _⟩ := si
    obtain ⟨o2, e2, c2, _⟩ := tp
    rw [e, e1] at e2
    cases e2
    rw [c1] at c2
    exact absurd (Value.type.inj c2) (by decide)
  have hSf : S ∉ [it, t] := fun hm => by
    rcases List.mem_cons.mp hm with e | hm
    · exact hne e.symm
    · obtain ⟨o2, e2, c2, _⟩ := tp
      rw [← List.mem_singleton.mp hm, eS] at e2
      cases e2
      exact absurd (Value.type.inj c2) (by decide)
  have hn : its.toArray.size ≤ sizeLine := by rw [List.size_toArray, ← rv.length]; exact hz
  refine codeAny_extend_loopS (Walks.tuple (prog := X.prog) (w := X.w) (A := A1.in1) hh it t hti its.toArray).toS hn S hSf .none its.toArray.size 0 s #[] c0 rfl (Nat.zero_le _) ⟨si, tp⟩ eS (ItemsOf.nil _) fun s2 acc c2 hm hS3 hacc => hR s2 ?_
  rw [Moved.eq_with hm]
  obtain ⟨G, gs, ga, J⟩ := I.untrack (a := it) (φ := fun h => h.IsTupleIter it t 0) upd_same (fr0_none h0) hex
  have eacc : acc.toList = its := by
    have e := list_of_places (items := its.toArray) (vs := acc.toList) (by rw [Array.length_toList]; exact hacc.1) fun j v z => hacc.2 j v (by simpa using z)
    simpa using e
  have dS : delH (upd (upd H S (.lst [])) it (ItT t it)) it S = some (.lst []) := by
    unfold delH
    rw [if_neg hne.symm]
    exact hS2
  have J2 := J.write (x := S) (e := S) (o := .lst xs) (h' := s2.heap) (t' := s2.toks) (by rw [dS]; exact True.intro) (.inl rfl) (fun b u hb e => ?_) ⟨_, hS3⟩ ⟨hz, its, c2, rv, by rw [← eacc, Array.toArray_toList]; exact hS3⟩
  · have eH : upd (delH (upd (upd H S (.lst [])) it (ItT t it)) it) S (.lst xs) = upd H S (.lst xs) := by
      funext b
      by_cases hb : b = S
      · rw [hb, upd_same, upd_same]
      · rw [upd_ne hb, upd_ne hb]
        unfold delH
        by_cases hi : b = it
        · rw [if_pos hi, hi, hit]
        · rw [if_neg hi, upd_ne hi, upd_ne hb]
    rw [eH] at J2
    exact ⟨.ref S, _, J2, rfl, q⟩
  · refine hm.heap b u (fun hbm => ?_) (gs b u e)
    rcases List.mem_cons.mp hbm with z | hbm
    · exact hb z
    · rw [List.mem_singleton.mp hbm, ga] at e
      cases e
theorem call_listOwnT {C fi fl : Addr} {fdI fdL : FuncData} {psI psL : List Str} {n : Nat} (hcalm : X.calm = true) (hex : X.ex = []) (hc : LiC X.K C fi fl) (FI : FnOk X.prog X.w X.K X.mg X.base CX0 n fi fdI psI (spIter X.K C)) (bI : Binds X.K fdI psI [])
    (FL : FnOk X.prog X.w X.K X.mg X.base CX0 n fl fdL psL (spLen X.K C)) (bL : Binds X.K fdL psL []) (hr : Room (n + 3) X.A) : CallR X (.type "list") (rListOwn X C) := by
  intro pins s σ H ys us Q I rv h
  obtain ⟨a, dx, fs, t, xs, rfl, ha, hl, ht, h0, hq⟩ := h
  obtain rfl := Vals.ref1 rv
  have sb : Sub X (n + 1) X.A.in1.in1 := Sub.in1 (Sub.in1 (⟨hr, rfl⟩ : Sub X (n + 3) X.A))
  have hh : X.A.in1.handled = none := I.ok.hd hcalm
  generalize eS : s.heap.objs.size = S
  refine callType_codes (Q₁ := fun obj s1 => obj = .ref S ∧ s1 = { s with heap := s.heap.push { cls := .type "list", data := .seq #[] } }) PySem.F.called_list (PySem.F.typeCall_list_1 _) PySem.F.entry_list_init (code_list_new _ ⟨by rw [eS], rfl⟩) fun obj s1 h1 => ?_
  obtain ⟨rfl, rfl⟩ := h1
  have hS : (s.heap.push { cls := .type "list", data := .seq #[] }).get? S = some { cls := .type "list", data := .seq #[] } := by rw [← eS]; exact Heap.get?_push_size _ rfl
  refine ⟨⟨_, hS, rfl⟩, PySem.F.args_list_init_2 _ _, ?_⟩
  have fr : H S = none := by rw [← eS]; exact I.hok.fresh (Nat.le_refl _)
  have I1 : Inv X pins σ (upd H S (.lst [])) { s with heap := s.heap.push { cls := .type "list", data := .seq #[] } } := by rw [← eS]; exact I.lnew (its := []) (t' := s.toks) .nil (Nat.zero_le _)
  have q1 := hq S fr
  show wpAny _ _ (Builtin.List.listItems (.ref S) >>= fun old => Builtin.List.listUpdate (.ref S) (fun _ => #[]) >>= fun _ => letGo old.toList.reverse >>= fun _ => Builtin.List.listExtendWith (.ref S) (.ref a) .none) _ _ _
  refine wpAny_bind ?_
  unfold Builtin.List.listItems
  refine wpAny_bind (wpAny_seqItems hS rfl (wpAny_pure ?_))
  show wpAny _ _ (updateSeq S (fun _ => #[]) >>= fun _ => letGo (#[] : Array Value).toList.reverse >>= fun _ => Builtin.List.listExtendWith (.ref S) (.ref a) .none) _ _ _
  refine wpAny_bind (wpAny_updateSeq hS rfl ?_)
  have I2 := I1.lset (f := fun _ => #[]) (its := []) (its' := []) (ys := []) (t' := s.toks) upd_same hS rfl .nil (Nat.zero_le _)
  rw [upd_upd] at I2
  refine wpAny_bind (wpAny_letGo ?_)
  -- S.extend(a)
  have ha2 : upd H S (.lst []) a = some (.ins C dx fs) := by rw [upd_ne (ne_of_none ha fr)]; exact ha
  have ht2 : ∀ {H2 : Hp}, (∀ b o, H b = some o → H2 b = some o) → SqT X.K H2 t xs := fun {H2} k => by
    rcases ht with z | z
    · rcases z with z | ⟨o, z⟩
      · exact .inl (.inl (k _ _ z))
      · exact .inl (.inr ⟨o, k _ _ z⟩)
    · exact .inr z
  have kS : ∀ b o, H b = some o → upd H S (.lst []) b = some o := fun b o e => by rw [upd_ne (ne_of_none e fr)]; exact e
  have hSa : S ≠ a := fun e => by rw [← e, fr] at ha; cases ha
  generalize eu : ({ s with heap := (s.heap.push { cls := .type "list", data := .seq #[] }).update S (Obj.mapSeq fun _ => #[]) } : Shared) = s2
  have I2' : Inv X pins σ (upd H S (.lst [])) s2 := by rw [← eu]; exact I2
  show wpAny _ X.A.in1.in1 (Builtin.List.listExtendWith (.ref S) (.ref a) .none) _ _ s2
  obtain ⟨mA, J, _⟩ := ins_get I2'.hok ha2
  obtain ⟨od, J, _⟩ := J.look
  obtain ⟨m0, hF⟩ := I2'.fr
  unfold Builtin.List.listExtendWith
  refine wpAny_bind (J.type.here ?_)
  have h1 : Builtin.List.listSameRef (.ref S) (.ref a) = false := by simp [Builtin.List.listSameRef, hSa]
  have h2 : (Value.ref C == Value.type "list") = false := rfl
  have h3 : (Value.ref C == Value.type "tuple") = false := rfl
  simp only [h1, h2, h3, Bool.or_false, Bool.false_eq_true, if_false]
  refine wpAny_bind (PySem.W.owit_iter hF I2'.ok.mod.kin J hc.it hc.itF (wpAny_mono (own_run (Q := fun v H' => ∃ it, v = .ref it ∧ upd H S (.lst []) it = none ∧ H' = upd (upd H S (.lst [])) it (ItT t it)) (sb.mono (Nat.le_succ n)) FI bI I2' ⟨a, dx, fs, t, xs, rfl, ha2, hl, ht2 kS, fun it hit => ⟨it, rfl, hit, rfl⟩⟩) (fun u s3 hu => ?_) fun _ _ z => z))
  obtain ⟨v, H3, I3, ru, it, ev, hit, eH⟩ := hu
  subst ev
  cases ru
  rw [eH] at I3
  have hne : it ≠ S := fun e => by rw [e, upd_same] at hit; cases hit
  have hit0 : H it = none := by rw [upd_ne hne] at hit; exact hit
  have kI : ∀ b o, H b = some o → upd (upd H S (.lst [])) it (ItT t it) b = some o := fun b o e => by rw [upd_ne (ne_of_none e hit0)]; exact kS b o e
  refine tupleiter_next (itT_at I3.hok upd_same) ?_
  refine wpAny_bind (wpAny_holding (own_hintL sb hc FL bL I3 (kI _ _ ha) hl (ht2 kI) fun s4 b I4 => ?_))
  have fin : ∀ s5, Inv X pins σ (upd (upd H S (.lst [])) it (ItT t it)) s5 → codeAny (model X.prog X.w) X.A.in1 (.builtin "list.extend.loop" ⟨[.ref S, .ref it, .none], []⟩) (wants (fun r s6 => r = .none ∧ EP X pins σ Q (.ref S) s6) X.xe) s5 :=
    fun s5 I5 => fill_list hh hex I5 fr hit0 hne ht (h0 _ hit0) q1 fun s6 z => ⟨rfl, z⟩
  have hS4 : upd (upd H S (.lst [])) it (ItT t it) S = some (.lst []) := by rw [upd_ne hne.symm, upd_same]
  refine wpAny_ite_split (fun _ => ?_) (fun _ => wpAny_pure ⟨plainId_quiet PySem.F.plain_extend_loop _, fin s4 I4⟩)
  refine wpAny_bind (wpAny_rule ?_)
  refine wpAny_bind ?_
  show wpAny _ _ (updateSeq S (·.push .none) >>= fun _ => updateSeq S (·.pop)) _ _ _
  obtain ⟨z4, its4, k4, r4, hl4, e4⟩ := I4.lstM hS4
  cases r4
  refine wpAny_bind (wpAny_updateSeq e4 rfl ?_)
  have I5 := I4.lset (f := (·.push Value.none)) (its' := [Value.none]) (ys := [.non]) (t' := s4.toks) hS4 e4 (by simp) (.cons rfl .nil) (by rw [List.length_singleton, sizeLine_eq]; decide)
  obtain ⟨z5, its5, k5, r5, hl5, e5⟩ := I5.lstM upd_same
  obtain ⟨u5, rfl, ru5⟩ := r5.one
  refine wpAny_updateSeq e5 rfl ?_ (by show 1 ≤ sizeLine; rw [sizeLine_eq]; decide) (by show 0 ≤ sizeLine + 1; exact Nat.zero_le _)
  have I6 := I5.lset (f := (·.pop)) (its := [u5]) (its' := []) (ys := []) (t' := s4.toks) upd_same e5 (by rfl) .nil (Nat.zero_le _)
  rw [upd_upd] at I6
  have hH : upd (upd (upd H S (.lst [])) it (ItT t it)) S (.lst []) = upd (upd H S (.lst [])) it (ItT t it) := by
    funext b
    by_cases hb : b = S
    · rw [hb, upd_same, hS4]
    · rw [upd_ne hb]
  rw [hH] at I6
  exact wpAny_pure ⟨plainId_quiet PySem.F.plain_extend_loop _, fin _ I6⟩
end
end SR

/-! ## SRules5 -/
set_option maxHeartbeats 4000000
namespace SR
open PySem PySem.Spec PyProof.Rows L2 HotX SHt
/-! ### x is True, x is False, where x is no bool -/
theorem op_isF {X : Cx} : OpR X (compareOp .Is) (fun x y H Q => ((∃ n, x = .int n) ∨ ∃ z, x = .str z) ∧ (∃ b, y = .bl b) ∧ Q (.bl false) H) := by
  intro pins s σ H x y v u Q I rx ry h
  obtain ⟨hx, ⟨b, rfl⟩, q⟩ := h
  cases (show u = Value.bool b from ry)
  rcases hx with ⟨n, rfl⟩ | ⟨z, rfl⟩
  · obtain ⟨t, rfl⟩ := (show ∃ t, v = Value.int n t from rx)
    exact wpAny_is_other rfl (fun z => nomatch z) ⟨.bl false, H, I, rfl, q⟩
  · obtain ⟨t, rfl⟩ := (show ∃ t, v = Value.str z t from rx)
    exact wpAny_is_other rfl (fun z => nomatch z) ⟨.bl false, H, I, rfl, q⟩
/-! ### 'a' * n -/
def repA (n : Nat) : Str := ⟨(List.replicate n 97).toArray⟩
theorem repA_len (n : Nat) : (repA n).length = n := by
  show (List.replicate n 97).toArray.size = n
  simp
theorem fold_rep : ∀ (n : Nat) (b : Array Nat), (List.replicate n (#[97] : Array Nat)).foldl (· ++ ·) b = b ++ (List.replicate n 97).toArray
  | 0, b => by simp
  | n + 1, b => by
    rw [List.replicate_succ, List.foldl_cons, fold_rep n, List.replicate_succ]
    apply Array.ext'
    simp
theorem op_mulA {X : Cx} : OpR X (binaryOp .Mult) (fun x y H Q => ∃ (n : Nat), x = .str ⟨#[97]⟩ ∧ y = .int (n : Int) ∧ 1 < n ∧ n ≤ 1000 ∧ Q (.str (repA n)) H) := by
  intro pins s σ H x y v u Q I rx ry h
  obtain ⟨n, rfl, rfl, h1, h2, q⟩ := h
  obtain ⟨t, rfl⟩ := (show ∃ t, v = Value.str ⟨#[97]⟩ t from rx)
  obtain ⟨t', rfl⟩ := (show ∃ t, u = Value.int n t from ry)
  have hn : ¬ ((n : Int) < 1) := by omega
  have hz : ((n : Int) == 1 || (⟨#[97]⟩ : Str).length == 0) = false := by
    have e1 : ((n : Int) == 1) = false := by simpa using (by omega : ¬ (n : Int) = 1)
    rw [e1]; rfl
  have e : ((n : Int)).toNat = n := Int.toNat_natCast _
  have sl := sizeLine_eq
  refine PySem.P.mul_str ?_ (fun _ _ => ?_) (fun _ _ => ?_) ?_
  · rw [decide_eq_false (by omega), decide_eq_false (by omega)]; rfl
  · have : (2 ^ 63 - 1 : Int) / n ≥ 10 := by
      refine (Int.le_ediv_iff_mul_le (by omega)).mpr ?_
      omega
    show ¬ (((1 : Nat) : Int) > _)
    omega
  · rw [e]
    show decide (1 * n > sizeLine) = false
    exact decide_eq_false (by omega)
  · rw [if_neg hn, hz, if_neg Bool.false_ne_true, e]
    have ez : (⟨(List.replicate n (⟨#[97]⟩ : Str).cps).foldl (· ++ ·) #[]⟩ : Str) = repA n := by
      show (⟨(List.replicate n (#[97] : Array Nat)).foldl (· ++ ·) #[]⟩ : Str) = _
      rw [fold_rep]
      unfold repA
      simp
    rw [ez]
    refine ⟨by rw [repA_len]; omega, .str (repA n), H, I.tok _, ⟨_, rfl⟩, q⟩
/-! ### raise C(e) with an own __init__ that keeps a field, where nothing is handled -/
theorem pmkN_oex {X : Cx} {CX : CXT} {x : Str} {e : Expr} {es : List Expr} {ta : TA} {p pos : Pos} {C fI : Addr} {k : Nat} {fd : FuncData} {ps : List Str} {sp : Sp} (T : OexC X.K C) (iC : PySem.W.findIn X.K (.ref C) "__init__" = some (some (.ref fI))) (tI : PySem.W.typeIn X.K (.ref fI) = some (.type "function"))
    (FI : FnOk X.prog X.w X.K X.mg X.base CX k fI fd ps sp) (hr : Room (k + 1) X.A) (hb : Binds X.K fd ps []) (hx : Passes CX X (fun _ _ _ => False)) (hg : Gl X x) (hm : X.mg x = some (.ref C)) (ha : PA X (e :: es) ta)
    (hdb : (x == ("__debug__" : Str)) = false := by decide) (he : starEach (e :: es) X.env = (false, eval e X.env) :: starEach es X.env := by rfl) (hpl : (backTo pos (starEach es X.env)).any (·.1) = false := by rfl) :
    L2N.PMk X (.Call (.Name x p) (e :: es) [] pos) (tMkO C sp [] ta) := by
  intro pins s σ H Q I h
  obtain ⟨nm, q, N, bs, bm, sn, sub, ab, col, dd, k0, k1, k2, k3, k5, hC, hbm⟩ := T.cls
  refine wpAny_Call_Name_kw (ld_glob I hg hm ?_ hdb)
  refine PySem.W.callWith_K (h₀ := X.base) I.ok.mod.kin T.kC (thn (ha.run pos pins s σ H _ I h) fun us s1 hh => ?_) he hpl
  obtain ⟨vs, H1, I1, r1, hz, q1⟩ := hh
  refine ⟨I1.kIn, ?_⟩
  show wpAny _ _ (call (.ref C) us) _ _ _
  obtain ⟨hp, g, dr, tk, os⟩ := s1
  let T0 : Heap := (hp.push (PySem.W.kdv_tup us)).push (PySem.HandSPX.excO C hp.objs.size)
  have hsz : hp.objs.size ≤ hp.objs.size + 1 := Nat.le_succ _
  have hq := q1 (hp.objs.size + 1) (I1.hok.fresh hsz)
  rw [List.append_nil] at hq
  have kk : ∀ b o, hp.get? b = some o → T0.get? b = some o := fun b o e => Heap.get?_push_of_some _ (Heap.get?_push_of_some _ e)
  have hget : T0.get? (hp.objs.size + 1) = some (PySem.HandSPX.excO C hp.objs.size) := by
    show ((hp.push (PySem.W.kdv_tup us)).push (PySem.HandSPX.excO C hp.objs.size)).get? (hp.objs.size + 1) = _
    heap_get
  have I2 : Inv X pins σ (upd H1 (hp.objs.size + 1) (exo (hp.objs.size + 1) C none)) ⟨T0, g, dr, tk, os⟩ :=
    I1.laid (t' := tk) kk hsz (exo_ok hget)
  have r2 : Vals (V.ref (hp.objs.size + 1) :: vs) (Value.ref (hp.objs.size + 1) :: us) := .cons rfl r1
  have hl : (Value.ref (hp.objs.size + 1) :: us ++ []).length = ps.length := by
    rw [List.append_nil, ← FI.len _ _ _ _ hq]
    exact r2.length.symm
  have hus : us.length ≤ sizeLine := by
    have := r1.length
    rw [sizeLine_eq]
    omega
  have b2 := hb _ _ I2.kIn hl
  rw [List.append_nil] at b2
  refine wpAny_call (PySem.HandSPX.call_own F.excBase_ValueError (fun Y => PySem.HandSPX.refsVE_contains Y bm hbm) (I1.kIn _ _ hC) (PySem.W.looks_findIn I1.kIn iC) (fun self => PySem.W.bind_fn I1.kIn self tI) hus
    (codeAny_mono (FI.run _ X.stack _ _ ⟨Value.ref (hp.objs.size + 1) :: us, []⟩ _ _ _ (fun _ _ _ => False) (hr.make C us []) (I2.env0.make C us []) b2 r2 hq) fun r s' z => ?_))
  cases r with
  | error er => exact hx pins σ _ _ er s' I2 z
  | ok fl =>
    cases fl with
    | ret u =>
      obtain ⟨v, H2, os2, bare2, un2, hok2, rv, ev, d, fs, ea, ed, hd1, q2⟩ := z
      subst ev
      obtain ⟨h2, g2, d2, t2, os'⟩ := s'
      obtain ⟨t0, G, J, kG, ge, hoe, na⟩ := mk_end0 (d2 := d2) (t2 := t2) I1 hsz kk un2 hok2 os2 bare2 ea ed hd1
      exact ⟨rv, hp.objs.size + 1, _, _, ⟨G, g2, d2, t2, os'⟩, _, .ref C, some d, rfl, J, kG, ge, hoe, ⟨rfl, rfl, fun vs hv => by cases hv; rfl⟩, rfl, rfl, na, rfl, bare2, raises_own T.exC T.tyC, q2⟩
    | next => exact False.elim z
    | brk => exact False.elim z
    | cont => exact False.elim z
/-! ### isinstance(error, C), yes by the class of the exception -/
section
variable {prog : Program} {w : World} {A : Around} {E : Value → Shared → Prop} {s : Shared} {K : PySem.W.Frag}
theorem nested_yes {x c D : Value} {H : Heap → Prop} (ty : ∀ (M : Model) (h : Heap), H h → PySem.W.Looks M h (typeOf x) D) (ne : (D == c) = false) (e : PySem.W.kitCls K D c = some true)
    (it : ∀ (M : Model) (h : Heap), K.In h → PySem.W.Looks M h (isType D) true) : Answers (fun s => K.In s.heap ∧ H s.heap) x c true := by
  intro dep tk prog w A R s hs
  obtain ⟨h0, g, d, tt, os⟩ := s
  obtain ⟨⟨X, p⟩, hq⟩ := hs
  have LT := ty (model prog w) h0 p
  obtain ⟨hty, his, hsub⟩ := PySem.W.kit_cls (M := model prog w) X e
  have LI : PySem.W.Looks (model prog w) h0 (isInstance x c) true := LT.andThen hsub
  unfold Builtin.«isinstance.nested»
  refine wpAny_bind (LT.at ?_)
  rw [if_neg (by rw [ne]; exact Bool.false_ne_true)]
  refine wpAny_bind (hty.at ?_)
  rw [if_pos (by decide)]
  k_delta "plainIsInstance"
  refine wpAny_bind (wpAny_bind (his.at ?_))
  simp only [Bool.not_true, Bool.false_eq_true, if_false]
  refine wpAny_bind (LI.at ?_)
  first
    | exact wpAny_pure (wpAny_pure (hq tt))
    | (simp only [if_true]; first | exact wpAny_pure (wpAny_pure (hq tt)) | exact wpAny_pure (hq tt) | exact wpAny_bind (wpAny_pure (wpAny_pure (hq tt))))
end
/-- the class D is below the class C, both of one's own -/
structure IsaC (K : PySem.W.Frag) (D C : Addr) : Prop where
  ne : D ≠ C
  yes : PySem.W.kitCls K (.ref D) (.ref C) = some true
  cls : (PySem.W.clsIn K D).isSome = true
def rIsa (a C : Addr) : List V → Hp → VK → Prop := fun xs H Q => xs = [.ref a, .ref C] ∧ Q (.bl true) H
theorem call_isa {X : Cx} {a D C : Addr} {oe : Obj} {d : Option Addr} {pn : List (Addr × Obj)} (c : IsaC X.K D C) (hz : Zc (.ref D) d oe) : CallR (X.suite a ((a, oe) :: pn)) (.builtin "isinstance") (rIsa a C) := by
  intro pins s σ H xs us Q I r h
  obtain ⟨rfl, q⟩ := h
  cases r with
  | cons r1 rr =>
    cases rr with
    | cons r2 rr =>
      cases rr
      cases r1
      cases r2
      obtain ⟨hget, _⟩ := I.pin (a, oe) (List.mem_append.mpr (.inl List.mem_cons_self))
      refine call_isinstance (S := fun _ R s' => (X.K.In s'.heap ∧ s'.heap.get? a = some oe) ∧ ∀ tk, R (.ok (.ret (.bool true))) { s' with toks := tk })
        (fun prog w A R s' hs => isinstance_outer (nested_yes (H := fun h => h.get? a = some oe) (fun M h e => ?_) ?_ c.yes (fun M h K0 => ?_) 0 _ prog w A R s' hs) (fun z => nomatch z)) ⟨⟨I.kIn, hget⟩, fun tk => ⟨.bl true, H, I.tok tk, rfl, q⟩⟩
      · intro A1 Q1 E1 s1 k q1
        exact wpAny_typeOf_ref (k _ _ e) (by rw [hz.1]; exact q1)
      · exact beq_eq_false_iff_ne.mpr fun z => c.ne (Value.ref.inj z)
      · obtain ⟨cd, hc⟩ := Option.isSome_iff_exists.mp c.cls
        unfold PySem.W.clsIn at hc
        split at hc
        · rename_i c' d' cd' sl' ho
          intro A' Q' E' s' k q
          unfold isType loadHead
          exact wpAny_bind (wpAny_loadPart (k _ _ (K0 _ _ ho)) (wpAny_pure q))
        · cases hc
/-! ### a list or a tuple, walked -/
def Sq (K : PySem.W.Frag) (H : Hp) (a : Addr) (xs : List V) : Prop := SqL K H a xs ∨ SqT K H a xs
def iSeq (K : PySem.W.Frag) (tl : TE) : TI := fun σ H R => tl σ H fun x H1 => ∃ a, x = .ref a ∧ (((∃ xs, SqL K H1 a xs) ∧ R (Itl K a) H1) ∨ ((∃ xs, SqT K H1 a xs) ∧ R (Itt K a) H1))
theorem pi_seq {X : Cx} {tg l : Expr} {tl : TE} (hl : PE X l tl) : PI X tg l (iSeq X.K tl) := by
  refine ⟨fun pins s σ H R I h => ?_⟩
  refine thn (hl.run pins s σ H _ I h) fun v s1 hh => ?_
  obtain ⟨x, H1, I1, r1, a, e, q⟩ := hh
  subst e
  cases r1
  rcases q with ⟨hq, q⟩ | ⟨hq, q⟩
  · obtain ⟨its, rv, p, hz⟩ := I1.list hq.choose_spec
    refine wpAny_pyIter_list p.isList ?_
    refine ⟨s1.heap.objs.size, [s1.heap.objs.size], _, _, H1, rfl, I1.kept (t' := s1.toks) fun b o e => Heap.get?_push_of_some _ e, turn_list a _, ⟨_, Heap.get?_push_size _ rfl, rfl, rfl⟩, fun b hb => ?_, q⟩
    rw [List.mem_singleton.mp hb]
    exact I1.fpOk (Nat.le_refl _) (I1.hok.fresh (Nat.le_refl _))
  · obtain ⟨its, rv, p, hz⟩ := I1.tuple hq.choose_spec
    refine wpAny_pyIter_tuple (show s1.heap.IsTuple a its.toArray from p) ?_
    refine ⟨s1.heap.objs.size, [s1.heap.objs.size], _, _, H1, rfl, I1.kept (t' := s1.toks) fun b o e => Heap.get?_push_of_some _ e, turn_tuple a _, ⟨_, Heap.get?_push_size _ rfl, rfl, rfl⟩, fun b hb => ?_, q⟩
    rw [List.mem_singleton.mp hb]
    exact I1.fpOk (Nat.le_refl _) (I1.hok.fresh (Nat.le_refl _))
end SR

/-! ## SBase -/
set_option maxHeartbeats 4000000
namespace SD
open PySem PySem.Spec PyProof.Rows L2 SR
abbrev St := L2.St
/-! ### the text -/
abbrev PR : Program := PySem.Challenge.pw_afterwise_k09_whole_standings
def top (i : Nat) : Stmt := PR.main.body.getD i (.Pass ⟨0, 0, 0, 0⟩)
/-- a def of the top, as it stands behind the top -/
structure Fx (K : PySem.W.Frag) (mg : Str → Option Value) (x : Str) (st : Stmt) (ps : List Str) where
  f : Addr
  fd : FuncData
  F : FunD K x x (defArgs st) (defBody st) (defScope st) [] [] f fd
  g : mg x = some (.ref f)
  b : Binds K fd ps []
/-- a method -/
structure Mx (K : PySem.W.Frag) (C : Addr) (x q : Str) (st : Stmt) (ps : List Str) where
  f : Addr
  fd : FuncData
  F : FunD K x q (defArgs st) (defBody st) (defScope st) [] [] f fd
  m : PySem.W.findIn K (.ref C) x = some (some (.ref f))
  fn : PySem.W.isFn K (.ref f) = true
  b : Binds K fd ps []
section
variable {P : Program} {w : World} {K : PySem.W.Frag} {mg : Str → Option Value} {base : Heap} {x q : Str} {st : Stmt} {f : Addr} {fd : FuncData} {N ps : List Str} {k : Nat} {sp : Sp}
theorem okF (F : FunD K x q (defArgs st) (defBody st) (defScope st) [] [] f fd) (S : FnScope N ps (defScope st)) (len : ∀ vs H Q E, sp vs H Q E → vs.length = ps.length)
    (hb : ∀ (cdv : Value) (A : Around) (outer : List Env) (s : Shared) (H : Hp) (vs : List V) (Q : VK) (E : XK), Room k (A.deeper (envOfC q (defScope st) s.heap.objs.size f cdv)) → sp vs H Q E →
      ∃ t, PSs (cxOf CX0 P w K mg base N q (defScope st) f cdv A outer s H E).nox (defBody st) t ∧ t { nx := fun _ H' => Q .non H', rt := Q } (start N vs) H) : FnOk P w K mg base CX0 (k + 1) f fd ps sp :=
  F.ok S len fun cdv A outer s H vs Q E hr h => let ⟨t, a, b⟩ := hb cdv A outer s H vs Q E hr h; ⟨t, a.nox, b⟩
/-- the same where something is handled -/
theorem okH {CX : CXT} (F : FunD K x q (defArgs st) (defBody st) (defScope st) [] [] f fd) (S : FnScope N ps (defScope st)) (len : ∀ vs H Q E, sp vs H Q E → vs.length = ps.length)
    (hb : ∀ (cdv : Value) (A : Around) (outer : List Env) (s : Shared) (H : Hp) (vs : List V) (Q : VK) (E : XK) (p : Addr × Obj), L2H.Hot1 A p → L2H.RoomH k (A.deeper (envOfC q (defScope st) s.heap.objs.size f cdv)) → sp vs H Q E →
      ∃ t, PSs (L2H.cxH CX P w K mg base N q (defScope st) f cdv A outer s H E p) (defBody st) t ∧ t { nx := fun _ H' => Q .non H', rt := Q } (start N vs) H) : L2H.FnH P w K mg base CX (k + 1) f fd ps sp := by
  obtain ⟨oc, od, dV, kV, doc, pm, an, cdv, ct, osl, rfl, lk, hcd, _, _⟩ := F.ex
  exact L2H.fn_ofH lk hcd S len fun A outer s H vs Q E p h1 hr h => hb cdv A outer s H vs Q E p h1 hr h
end
section
variable {X : Cx} {x : Str} {p pos : Pos} {e : Expr} {es : List Expr} {t : TA} {st : Stmt} {ps : List Str} {k : Nat} {sp : Sp}
/-- f(..), f a def that lets nothing out -/
theorem pe_f (D : Fx X.K X.mg x st ps) (G : FnOk X.prog X.w X.K X.mg X.base CX0 k D.f D.fd ps sp) (hr : Room k X.A) (ha : PA X (e :: es) t) (hg : Gl X x := by rfl) (hdb : (x == ("__debug__" : Str)) = false := by decide)
    (he : starEach (e :: es) X.env = (false, eval e X.env) :: starEach es X.env := by rfl) (hpl : (backTo pos (starEach es X.env)).any (·.1) = false := by rfl) : PE X (.Call (.Name x p) (e :: es) [] pos) (tCall sp [] E0 t) :=
  pe_call G hr hg D.g D.F.kp D.b .nil pass0 ha hdb he hpl
end
/-! ### heaps -/
/-- what is new since O -/
def new (O H : Hp) : Hp := fun b => if O b = none then H b else none
theorem new_sub (O H : Hp) : Same (new O H) H := fun b o h => by
  unfold new at h
  split at h
  · exact h
  · cases h
/-- all that stands in A stands in B (as something) -/
def Dom (A B : Hp) : Prop := ∀ b, B b = none → A b = none
theorem Dom.refl (A : Hp) : Dom A A := fun _ h => h
theorem Dom.trans {A B C : Hp} (h : Dom A B) (k : Dom B C) : Dom A C := fun b e => h b (k b e)
theorem Dom.of {H H' : Hp} (h : Same H H') : Dom H H' := fun b e => Same.free h e
theorem dom_upd (H : Hp) (a : Addr) (o : HO) : Dom H (upd H a o) := fun b e => by
  by_cases hb : b = a
  · rw [hb, upd_same] at e; cases e
  · rwa [upd_ne hb] at e
theorem dom_updr {H G : Hp} {a : Addr} {o : HO} (h : Dom H G) : Dom H (upd G a o) := h.trans (dom_upd G a o)
theorem dom_updl {H G : Hp} {a : Addr} {o : HO} (h : Dom H G) (ha : ∃ u, G a = some u) : Dom (upd H a o) G := fun b e => by
  by_cases hb : b = a
  · obtain ⟨u, hu⟩ := ha
    rw [hb, hu] at e; cases e
  · rw [upd_ne hb]
    exact h b e
theorem same_upd {H : Hp} {a : Addr} {o : HO} (h : H a = none) : Same H (upd H a o) := fun b u e => by rw [upd_ne (ne_of_none e h)]; exact e
theorem same_updr {G H : Hp} {a : Addr} {o : HO} (k : Same G H) (h : G a = none) : Same G (upd H a o) := fun b u e => by rw [upd_ne (ne_of_none e h)]; exact k b u e
/-- but for the object at s -/
def SamX (s : Addr) (H H' : Hp) : Prop := ∀ b o, b ≠ s → H b = some o → H' b = some o
theorem samX_of {s : Addr} {H H' : Hp} (h : Same H H') : SamX s H H' := fun b o _ e => h b o e
theorem SamX.refl (s : Addr) (H : Hp) : SamX s H H := fun _ _ _ e => e
theorem SamX.trans {s : Addr} {A B C : Hp} (h : SamX s A B) (k : SamX s B C) : SamX s A C := fun b o n e => k b o n (h b o n e)
theorem SamX.upd {s : Addr} {H : Hp} {o : HO} : SamX s H (upd H s o) := fun b u n e => by rw [upd_ne n]; exact e
theorem SamX.at {s : Addr} {G H H' : Hp} (h : SamX s H H') (k : Same G H) (n : G s = none) : Same G H' := fun b o e => h b o (ne_of_none e n) (k b o e)
/-- what is new grows -/
theorem new_mono {O O' H H' : Hp} (d : Dom O' O) (h : ∀ b o, O b = none → H b = some o → H' b = some o) : Same (new O H) (new O' H') := fun b o e => by
  unfold new at e ⊢
  split at e
  · rename_i n
    rw [if_pos (d b n)]
    exact h b o n e
  · cases e
theorem new_same {O H H' : Hp} (h : Same H H') : Same (new O H) (new O H') := new_mono (Dom.refl O) fun b o _ e => h b o e
theorem new_samX {O H H' : Hp} {s : Addr} (h : SamX s H H') (n : ∃ u, O s = some u) : Same (new O H) (new O H') := new_mono (Dom.refl O) fun b o e q => h b o (fun z => by
  obtain ⟨u, hu⟩ := n
  rw [z, hu] at e; cases e) q
theorem new_dom {O O' H : Hp} (d : Dom O' O) : Same (new O H) (new O' H) := new_mono d fun _ _ _ e => e
theorem new_none {O H : Hp} {b : Addr} {u : HO} (h : O b = some u) : new O H b = none := by
  unfold new
  rw [if_neg (by rw [h]; exact fun z => nomatch z)]
theorem new_at {O H : Hp} {b : Addr} {u : HO} (n : O b = none) (h : H b = some u) : new O H b = some u := by
  unfold new
  rw [if_pos n]; exact h
/-- D is filled: what is new without D -/
theorem new_upd {O H : Hp} {D : Addr} {o u : HO} (hD : O D = some u) : new O (upd H D o) = new O H := by
  funext b
  unfold new
  by_cases hb : b = D
  · rw [hb, hD, if_neg (fun z => nomatch z), if_neg (fun z => nomatch z)]
  · rw [upd_ne hb]
/-! ### data -/
abbrev Rl (α : Type) : Type := Hp → V → α → Prop
def Mono {α : Type} (R : Rl α) : Prop := ∀ G G' v x, Same G G' → R G v x → R G' v x
def Ri : Rl Int := fun _ v n => v = .int n
theorem ri_mono : Mono Ri := fun _ _ _ _ _ h => h
def Ld {α : Type} (R : Rl α) : Rl (List α) := fun G v l => ∃ a vs, v = .ref a ∧ G a = some (.lst vs) ∧ Paired (R G) vs l
def Td {α : Type} (R : Rl α) : Rl (List α) := fun G v l => ∃ a vs, v = .ref a ∧ G a = some (.tup vs) ∧ Paired (R G) vs l
def Sd {α : Type} (R : Rl α) : Rl (List α) := fun G v l => ∃ a vs, v = .ref a ∧ (G a = some (.lst vs) ∨ G a = some (.tup vs)) ∧ Paired (R G) vs l
section
variable {α : Type} {R R' : Rl α}
theorem ld_mono (h : Mono R) : Mono (Ld R) := fun G G' v l k ⟨a, vs, e, g, p⟩ => ⟨a, vs, e, k _ _ g, L2.Paired.mapP p fun x y z => h _ _ x y k z⟩
theorem td_mono (h : Mono R) : Mono (Td R) := fun G G' v l k ⟨a, vs, e, g, p⟩ => ⟨a, vs, e, k _ _ g, L2.Paired.mapP p fun x y z => h _ _ x y k z⟩
theorem sd_mono (h : Mono R) : Mono (Sd R) := fun G G' v l k ⟨a, vs, e, g, p⟩ => ⟨a, vs, e, g.imp (k _ _) (k _ _), L2.Paired.mapP p fun x y z => h _ _ x y k z⟩
theorem ld_sd (h : ∀ G v x, R G v x → R' G v x) : ∀ G v l, Ld R G v l → Sd R' G v l := fun G v l ⟨a, vs, e, g, p⟩ => ⟨a, vs, e, .inl g, L2.Paired.mapP p fun x y z => h _ _ _ z⟩
theorem td_sd (h : ∀ G v x, R G v x → R' G v x) : ∀ G v l, Td R G v l → Sd R' G v l := fun G v l ⟨a, vs, e, g, p⟩ => ⟨a, vs, e, .inr g, L2.Paired.mapP p fun x y z => h _ _ _ z⟩
end
theorem paired_len {α β : Type} {F : α → β → Prop} {l : List α} {r : List β} (h : Paired F l r) : l.length = r.length := Paired.length h
theorem paired_at {α β : Type} {F : α → β → Prop} : ∀ {l : List α} {r : List β} {i : Nat} {x : α}, Paired F l r → l[i]? = some x → ∃ y, r[i]? = some y ∧ F x y
  | _, _, _, _, .nil, e => by simp at e
  | _, _, 0, _, .cons h _, e => by simp at e; subst e; exact ⟨_, rfl, h⟩
  | _, _, i + 1, x, .cons _ t, e => by
    obtain ⟨y, h1, h2⟩ := paired_at (i := i) t (by simpa using e)
    exact ⟨y, by simpa using h1, h2⟩
theorem paired_atr {α β : Type} {F : α → β → Prop} : ∀ {l : List α} {r : List β} {i : Nat} {y : β}, Paired F l r → r[i]? = some y → ∃ x, l[i]? = some x ∧ F x y
  | _, _, _, _, .nil, e => by simp at e
  | _, _, 0, _, .cons h _, e => by simp at e; subst e; exact ⟨_, rfl, h⟩
  | _, _, i + 1, x, .cons _ t, e => by
    obtain ⟨y, h1, h2⟩ := paired_atr (i := i) t (by simpa using e)
    exact ⟨y, by simpa using h1, h2⟩
theorem paired_snoc {α β : Type} {F : α → β → Prop} : ∀ {l : List α} {r : List β} {x : α} {y : β}, Paired F l r → F x y → Paired F (l ++ [x]) (r ++ [y])
  | _, _, _, _, .nil, h => .cons h .nil
  | _, _, _, _, .cons a t, h => .cons a (paired_snoc t h)
theorem ri_iff {G : Hp} {vs : List V} {ns : List Int} (h : Paired (Ri G) vs ns) : vs = ns.map V.int := by
  induction h with
  | nil => rfl
  | cons a _ ih => rw [show _ = _ from a, ih]; rfl
theorem ri_of {G : Hp} (ns : List Int) : Paired (Ri G) (ns.map V.int) ns := by
  induction ns with
  | nil => exact .nil
  | cons n r ih => exact .cons rfl ih
/-- a list, a tuple of ints -/
theorem ld_ints {G : Hp} {v : V} {ns : List Int} : Ld Ri G v ns ↔ ∃ a, v = .ref a ∧ G a = some (.lst (ns.map V.int)) :=
  ⟨fun ⟨a, vs, e, g, p⟩ => ⟨a, e, by rw [← ri_iff p]; exact g⟩, fun ⟨a, e, g⟩ => ⟨a, _, e, g, ri_of ns⟩⟩
theorem td_ints {G : Hp} {v : V} {ns : List Int} : Td Ri G v ns ↔ ∃ a, v = .ref a ∧ G a = some (.tup (ns.map V.int)) :=
  ⟨fun ⟨a, vs, e, g, p⟩ => ⟨a, e, by rw [← ri_iff p]; exact g⟩, fun ⟨a, e, g⟩ => ⟨a, _, e, g, ri_of ns⟩⟩
end SD

/-! ## STx -/
set_option maxHeartbeats 4000000
namespace SD
open PySem PySem.Spec PyProof.Rows L2 SR
/-- an own class: where it stands -/
structure Cx1 (K : PySem.W.Frag) (mg : Str → Option Value) (x : Str) where
  C : Addr
  g : mg x = some (.ref C)
/-- what the whole program says: builtins' names, the defs, the classes -/
structure Tx (K : PySem.W.Frag) (mg : Str → Option Value) where
  nlen : mg "len" = none
  nisi : mg "isinstance" = none
  nint : mg "int" = none
  nbool : mg "bool" = none
  nstr : mg "str" = none
  ntup : mg "tuple" = none
  nlist : mg "list" = none
  nmin : mg "min" = none
  nmax : mg "max" = none
  nabs : mg "abs" = none
  nsum : mg "sum" = none
  nrange : mg "range" = none
  nenum : mg "enumerate" = none
  nzip : mg "zip" = none
  niter : mg "iter" = none
  letters : ∃ t, mg "LETTERS" = some (.str "abcdefgh" t)
  mostStandings : ∃ t, mg "MOST_STANDINGS" = some (.int 1000 t)
  mostStates : ∃ t, mg "MOST_STATES" = some (.int 1000 t)
  led : Fx K mg "led" (top 14) ["work", "table"]
  lowered : Fx K mg "lowered" (top 16) ["work"]
  standings : Fx K mg "standings" (top 20) ["store"]
  isInteger : Fx K mg "is_integer" (top 24) ["thing"]
  isListed : Fx K mg "is_listed" (top 26) ["thing"]
  deep : Fx K mg "deep" (top 27) ["thing"]
  isAsks : Fx K mg "is_asks" (top 28) ["thing"]
  checkAsks : Fx K mg "check_asks" (top 29) ["thing"]
  integers : Fx K mg "integers" (top 34) ["thing", "many"]
  isTable : Fx K mg "is_table" (top 37) ["thing", "many"]
  areCosts : Fx K mg "are_costs" (top 38) ["thing", "asks", "many"]
  standingSteps : Fx K mg "standing_steps" (top 53) ["store"]
  leastMachine : Fx K mg "least_machine" (top 54) ["teller"]
  cell : Fx K mg "_law_cell" (top 56) ["_law_script", "_law_k"]
  source : Fx K mg "_law_source" (top 57) ["_law_script", "_law_k"]
  draw : Fx K mg "_law_draw" (top 58) ["_law_source_here", "_law_many"]
  isInt : Fx K mg "_law_is_int" (top 59) ["_law_thing"]
  exact_ : Fx K mg "_law_exact" (top 60) ["_law_told", "_law_due"]
  asks : Fx K mg "_law_asks" (top 61) ["_law_source_here"]
  prices : Fx K mg "_law_prices" (top 62) ["_law_source_here", "_law_many", "_law_most"]
  anyTable : Fx K mg "_law_any_table" (top 63) ["_law_source_here", "_law_many", "_law_most"]
  change : Fx K mg "_law_change" (top 64) ["_law_source_here", "_law_s", "_law_t", "_law_most"]
  changes : Fx K mg "_law_changes" (top 65) ["_law_source_here", "_law_many", "_law_most"]
  served : Fx K mg "_law_served" (top 66) ["_law_changes_here", "_law_serves"]
  world : Fx K mg "_law_world" (top 67) ["_law_source_here", "_law_many", "_law_asks_here", "_law_most"]
  raised : Fx K mg "_law_raised" (top 68) ["_law_world_here", "_law_more"]
  moved : Fx K mg "_law_moved" (top 69) ["_law_source_here", "_law_world_here"]
  scaled : Fx K mg "_law_scaled" (top 70) ["_law_world_here", "_law_times"]
  lists : Fx K mg "_law_lists" (top 71) ["_law_world_here"]
  lled : Fx K mg "_law_led" (top 72) ["_law_line", "_law_table"]
  work : Fx K mg "_law_work" (top 73) ["_law_world_here", "_law_row_here"]
  llow : Fx K mg "_law_low" (top 74) ["_law_line"]
  lots : Fx K mg "_law_lots" (top 75) ["_law_world_here", "_law_most"]
  stepsDue : Fx K mg "_law_steps_due" (top 76) ["_law_steps"]
  row : Fx K mg "_law_row" (top 77) ["_law_source_here", "_law_asks_here", "_law_longest"]
  noTeller : Fx K mg "_law_no_teller" (top 78) ["_law_store"]
  wide : Fx K mg "_law_wide" (top 79) ["_law_count"]
  law : Fx K mg "law" (top 80) ["_law_script"]
  cAE : Cx1 K mg "AfterError"
  cTM : Cx1 K mg "TooMany"
  cSg : Cx1 K mg "Standings"
  cSt : Cx1 K mg "Store"
  clSg : Cls K cSg.C
  mkSg : ∃ f, Mk K cSg.C f
  clSt : Cls K cSt.C
  kpSg : PySem.W.keepIn K (.ref cSg.C) = true
  kpSt : PySem.W.keepIn K (.ref cSt.C) = true
  maSg : PySem.W.makesIn K cSg.C = true
  maSt : PySem.W.makesIn K cSt.C = true
  iSg : Mx K cSg.C "__init__" "Standings.__init__" (inClass (top 19) 0) ["self", "lots", "rows", "steps"]
  lenSg : Mx K cSg.C "__len__" "Standings.__len__" (inClass (top 19) 1) ["self"]
  itSg : Mx K cSg.C "__iter__" "Standings.__iter__" (inClass (top 19) 2) ["self"]
  iSt : Mx K cSt.C "__init__" "Store.__init__" (inClass (top 39) 0) ["self", "asks", "begins", "costs", "ends"]
  iTM : Mx K cTM.C "__init__" "TooMany.__init__" (inClass (top 12) 0) ["self", "word"]
  naLots : NoAttr K cSg.C "lots"
  naRows : NoAttr K cSg.C "rows"
  naSteps : NoAttr K cSg.C "steps"
  naAsks : NoAttr K cSt.C "asks"
  naBegins : NoAttr K cSt.C "begins"
  naCosts : NoAttr K cSt.C "costs"
  naEnds : NoAttr K cSt.C "ends"
  oTM : OexC K cTM.C
  naWord : PySem.W.findIn K (.ref cTM.C) "word" = some none
  xfTM : XfC K cTM.C
  tyTM : PySem.W.typeIn K (.ref iTM.f) = some (.type "function")
  exm : PySem.W.exmOne K (.ref cTM.C) (.ref cTM.C) = some true
  isaTM : IsaC K cTM.C cAE.C
  insSt : C8.InsC K cSt.C
end SD

/-! ## SLc -/
set_option maxHeartbeats 4000000
namespace SD
open PySem PySem.Spec PyProof.Rows L2 SR
/-! ### draws' source -/
def Src (H : Hp) (s : Addr) : Prop := ∃ n m c : Int, 0 ≤ n ∧ 0 ≤ m ∧ m < 2147483647 ∧ H s = some (.lst [.int n, .int m, .int c])
/-- a step that turns the source at s, and makes new things -/
structure Stp (s : Addr) (H H' : Hp) : Prop where
  x : SamX s H H'
  s : Src H' s
theorem Src.some {H : Hp} {s : Addr} (h : Src H s) : ∃ u, H s = some u := let ⟨_, _, _, _, _, _, e⟩ := h; ⟨_, e⟩
theorem Stp.dom {s : Addr} {H H' : Hp} (h : Stp s H H') : Dom H H' := fun b e => by
  cases q : H b with
  | none => rfl
  | some o =>
    by_cases hb : b = s
    · obtain ⟨u, hu⟩ := h.s.some
      rw [hb, hu] at e; cases e
    · rw [h.x b o hb q] at e; cases e
theorem Stp.trans {s : Addr} {A B C : Hp} (h : Stp s A B) (k : Stp s B C) : Stp s A C := ⟨h.x.trans k.x, k.s⟩
theorem Stp.refl {s : Addr} {H : Hp} (h : Src H s) : Stp s H H := ⟨SamX.refl _ _, h⟩
theorem Src.same {H H' : Hp} {s : Addr} (h : Src H s) (k : Same H H') : Src H' s := by
  obtain ⟨n, m, c, h1, h2, h3, e⟩ := h
  exact ⟨n, m, c, h1, h2, h3, k _ _ e⟩
theorem Stp.of {s : Addr} {H H' : Hp} (h : Src H s) (k : Same H H') : Stp s H H' := ⟨samX_of k, h.same k⟩
theorem Src.ne {H : Hp} {s D : Addr} (h : Src H s) (hD : H D = none) : D ≠ s := fun z => by
  obtain ⟨u, hu⟩ := h.some
  rw [z, hu] at hD; cases hD
/-- what is new since O stays through a step -/
theorem Stp.new {s : Addr} {O H H' : Hp} (k : Stp s H H') (h : ∃ u, O s = some u) : Same (new O H) (new O H') := new_samX k.x h
/-! ### steps from H -/
structure StepK (S : Hp → Hp → Prop) (H : Hp) : Prop where
  refl : S H H
  trans : ∀ {A B C}, S A B → S B C → S A C
  dom : ∀ {A B}, S A B → Dom A B
  nw : ∀ {A B O}, Dom H O → S A B → Same (new O A) (new O B)
  lay : ∀ {A : Hp} {D : Addr} {o : HO}, H D = none → S H A → S H (upd A D o)
  keep : ∀ {A B : Hp} {D : Addr} {o : HO}, H D = none → S A B → A D = some o → B D = some o
theorem stepSame (H : Hp) : StepK Same H where
  refl := Same.refl H
  trans := fun h k => Same.trans h k
  dom := fun h => Dom.of h
  nw := fun _ h => new_same h
  lay := fun hD h => same_updr h hD
  keep := fun _ h e => h _ _ e
theorem stepStp {s : Addr} {H : Hp} (hs : Src H s) : StepK (Stp s) H where
  refl := Stp.refl hs
  trans := fun h k => h.trans k
  dom := fun h => h.dom
  nw := fun {A B O} d h => h.new (by
    cases q : O s with
    | some u => exact ⟨u, rfl⟩
    | none =>
      obtain ⟨u, hu⟩ := hs.some
      have z := d s q
      rw [hu] at z; cases z)
  lay := fun {A D o} hD h => ⟨fun b u n e => by rw [upd_ne (ne_of_none e hD)]; exact h.x b u n e, by
    obtain ⟨n, m, c, h1, h2, h3, e⟩ := h.s
    exact ⟨n, m, c, h1, h2, h3, by rw [upd_ne (hs.ne hD).symm]; exact e⟩⟩
  keep := fun hD h e => h.x _ _ (hs.ne hD) e
theorem yes {σ : St} {H : Hp} {te : TE} {Q : VK} {Z : Hp → Prop} (h : te σ H Q) : tYes σ H fun b H3 => if b = true then te σ H3 Q else Z H3 := by
  show (if true = true then te σ H Q else Z H)
  rw [if_pos rfl]
  exact h
/-! ### a list that is being filled -/
def Fill {α : Type} (R : Rl α) (S : Hp → Hp → Prop) (H : Hp) (D : Addr) (F : Nat → α → Prop) (i : Nat) (A : Hp) : Prop :=
  ∃ (ts : List α) (ys : List V), ts.length = i ∧ (∀ j z, ts[j]? = some z → F j z) ∧ A D = some (.lst ys) ∧ S H A ∧ Paired (R (new (upd H D (.lst [])) A)) ys ts
section
variable {α : Type} {R : Rl α} {S : Hp → Hp → Prop} {H : Hp} {D : Addr} {F : Nat → α → Prop} {i : Nat} {A B : Hp}
theorem fill_0 (sk : StepK S H) (hD : H D = none) : Fill R S H D F 0 (upd H D (.lst [])) := ⟨[], [], rfl, fun j z e => by simp at e, upd_same, sk.lay hD sk.refl, .nil⟩
theorem fill_S (h : Fill R S H D F i A) : S H A := let ⟨_, _, _, _, _, h, _⟩ := h; h
theorem fill_at (h : Fill R S H D F i A) : ∃ ys, A D = some (.lst ys) := let ⟨_, ys, _, _, h, _⟩ := h; ⟨ys, h⟩
theorem fill_more (hR : Mono R) (sk : StepK S H) (hD : H D = none) (h : Fill R S H D F i A) (sAB : S A B) : Fill R S H D F i B := by
  obtain ⟨ts, ys, e1, e2, e3, hS, pr⟩ := h
  exact ⟨ts, ys, e1, e2, sk.keep hD sAB e3, sk.trans hS sAB, L2.Paired.mapP pr fun a b q => hR _ _ a b (sk.nw (dom_upd _ _ _) sAB) q⟩
theorem fill_step (hR : Mono R) (sk : StepK S H) (hD : H D = none) (hi : i ≤ 1000) (h : Fill R S H D F i A) (sAB : S A B) {y : V} {z : α} (r : R (new A B) y z) (f : F i z) :
    ∃ acc, B D = some (.lst acc) ∧ acc.length < sizeLine ∧ Fill R S H D F (i + 1) (upd B D (.lst (acc ++ [y]))) := by
  obtain ⟨ts, ys, e1, e2, e3, hS, pr⟩ := h
  have dO : Dom H (upd H D (.lst [])) := dom_upd _ _ _
  have l1 : ys.length = i := by rw [paired_len pr, e1]
  refine ⟨ys, sk.keep hD sAB e3, small1000 (by omega), ts ++ [z], ys ++ [y], by simp [e1], fun j z' e => ?_, upd_same, sk.lay hD (sk.trans hS sAB), ?_⟩
  · by_cases hj : j < ts.length
    · rw [List.getElem?_append_left hj] at e
      exact e2 j z' e
    · rw [List.getElem?_append_right (by omega)] at e
      have hj2 : j - ts.length = 0 := by
        have := (List.getElem?_eq_some_iff.mp e).1
        simp at this
        omega
      rw [hj2] at e
      have ej : j = i := by omega
      subst ej
      simp at e
      subst e
      exact f
  · rw [new_upd upd_same]
    exact paired_snoc (L2.Paired.mapP pr fun a b q => hR _ _ a b (sk.nw dO sAB) q) (hR _ _ y z (new_dom (dom_updl (sk.dom hS) ⟨_, e3⟩)) r)
theorem fill_end (hR : Mono R) (hD : H D = none) (h : Fill R S H D F i A) : ∃ ts : List α, ts.length = i ∧ (∀ j z, ts[j]? = some z → F j z) ∧ S H A ∧ Ld R (new H A) (.ref D) ts := by
  obtain ⟨ts, ys, e1, e2, e3, hS, pr⟩ := h
  exact ⟨ts, e1, e2, hS, D, ys, rfl, new_at hD e3, L2.Paired.mapP pr fun a b q => hR _ _ a b (new_dom (dom_upd _ _ _)) q⟩
end
/-- a comprehension that makes a list of R's -/
theorem lc_gen {α : Type} {R : Rl α} (hR : Mono R) {S : Hp → Hp → Prop} {H : Hp} (sk : StepK S H) {J : It} {n : Nat} {G : Hp → Prop} {Y : Nat → Hp → V → Hp → Prop} (wk : Walk J n G Y) (hG : ∀ A, S H A → G A) (hn : n ≤ 1000)
    {g : TG} {te : TE} {vs : List Nat} {σ : St} {D : Addr} {Qd : Hp → Prop} (hD : H D = none) (F : Nat → α → Prop)
    (elt : ∀ (i : Nat) (x : V) (A A' : Hp) (Q' : VK) (Z : Hp → Prop), i < n → S H A → Y i A x A' → (∀ y z B, S A B → R (new A B) y z → F i z → Q' y B) → g x (wipe σ vs) A' fun σ2 H2 => wipe σ2 vs = wipe σ vs ∧ tYes σ2 H2 fun b H3 => if b = true then te σ2 H3 Q' else Z H3)
    (fin : ∀ H' (ts : List α), ts.length = n → (∀ i z, ts[i]? = some z → F i z) → S H H' → Ld R (new H H') (.ref D) ts → Qd H') :
    ∃ W : Nat → Nat → Hp → Prop, (∃ m, W 0 m (upd H D (.lst []))) ∧ ∀ i m A, W i m A →
      (J.stop i A ∧ Qd A) ∨ (J.go i A ∧ ∃ Nx : Hp → Prop, (∀ H', Nx H' → ∃ m', m' < m ∧ W (i + 1) m' H') ∧ ∀ x H', J.yld i A x H' → g x (wipe σ vs) H' fun σ2 H2 => wipe σ2 vs = wipe σ vs ∧ tYes σ2 H2 fun b H3 =>
        if b = true then te σ2 H3 fun y H4 => ∃ acc, H4 D = some (.lst acc) ∧ acc.length < sizeLine ∧ Nx (upd H4 D (.lst (acc ++ [y]))) else Nx H3) := by
  refine lc_it wk (Fill R S H D F) (fill_0 sk hD) (fun i A _ p => hG A (fill_S p)) (fun i x A A' hi p y => elt i x A A' _ _ hi (fill_S p) y fun y z B sAB r f => fill_step hR sk hD (by omega) p sAB r f) fun A p => ?_
  obtain ⟨ts, e1, e2, e3, e4⟩ := fill_end hR hD p
  exact fin A ts e1 e2 e3 e4
end SD

/-! ## SL1 -/
set_option maxHeartbeats 4000000
namespace SD
open PySem PySem.Spec PyProof.Rows L2 SR
variable {P : Program} {w : World} {K : PySem.W.Frag} {mg : Str → Option Value} {base : Heap}
/-! ### draws -/
def spDraw : Sp := fun vs H Q _ => ∃ (s : Addr) (many : Int), vs = [.ref s, .int many] ∧ Src H s ∧ 0 < many ∧ many < 1073741824 ∧ ∀ r H', 0 ≤ r → r < many → Stp s H H' → Q (.int r) H'
theorem scDraw : FnScope ["_law_source_here", "_law_many", "_law_digit", "_law_mixed"] ["_law_source_here", "_law_many"] (defScope (top 58)) := ⟨rfl, rfl, rfl, by decide +kernel, rfl, by decide +kernel, by decide +kernel⟩
theorem ok_draw (T : Tx K mg) : FnOk P w K mg base CX0 1 T.draw.f T.draw.fd ["_law_source_here", "_law_many"] spDraw := by
  refine okF T.draw.F scDraw (fun vs H Q E h => ?_) fun cdv A outer s H vs Q E hr h => ?_
  · obtain ⟨_, _, rfl, _⟩ := h
    rfl
  obtain ⟨s, many, rfl, ⟨n, m, c, h1, h2, h3, e⟩, hm, hm2, q⟩ := h
  have nd := scDraw.nd
  refine ⟨_, pss_cons (ps_if (pt_cmpR op_gt (pe_ix ix_list (pv 0) pe_int (fun _ _ => rfl)) pe_int (nomark _))
      (pss_cons (ps_set (i := 2) nd rfl (Or.inl rfl) (pe_op op_mod (pe_callTy call_int1 rfl T.nint boot_int (pa_cons (pe_ix ix_list (pv 0) pe_int (fun _ _ => rfl)) pa_nil)) (pv 1)))
      (pss_cons (ps_asg (pe_op op_fdiv (pe_ix ix_list (pv 0) pe_int (fun _ _ => rfl)) (pv 1)) (pg_sub (pv 0) pe_int set_list))
      (pss_one (ps_ret (pv 2))))) pss_nil)
    (pss_cons (ps_asg (pe_op op_add (pe_ix ix_list (pv 0) pe_int (fun _ _ => rfl)) pe_int) (pg_sub (pv 0) pe_int set_list))
    (pss_cons (ps_asg (pe_op op_mod (pe_callTy call_int1 rfl T.nint boot_int (pa_cons (pe_op op_add (pe_op op_add (pe_op op_mul (pe_ix ix_list (pv 0) pe_int (fun _ _ => rfl)) pe_int) (pe_op op_mul (pe_ix ix_list (pv 0) pe_int (fun _ _ => rfl)) pe_int)) pe_int) pa_nil)) pe_int) (pg_sub (pv 0) pe_int set_list))
    (pss_cons (ps_set (i := 3) nd rfl (Or.inl rfl) (pe_op op_mod (pe_callTy call_int1 rfl T.nint boot_int (pa_cons (pe_op op_add (pe_op op_mul (pe_ix ix_list (pv 0) pe_int (fun _ _ => rfl)) (pe_op op_add (pe_ix ix_list (pv 0) pe_int (fun _ _ => rfl)) pe_int)) (pe_op op_mul (pe_ix ix_list (pv 0) pe_int (fun _ _ => rfl)) pe_int)) pa_nil)) pe_int))
    (pss_one (ps_ret (pe_op op_mod (pe_callTy call_int1 rfl T.nint boot_int (pa_cons (pe_op op_fdiv (pv 3) pe_int) pa_nil)) (pv 1))))))), ?_⟩
  have r1 : ∀ {H' : Hp} (k : SamX s H H') {n m c : Int}, H' s = some (.lst [.int n, .int m, .int c]) → 0 ≤ n → 0 ≤ m → m < 2147483647 → Stp s H H' := fun k n m c e a b d => ⟨k, _, _, _, a, b, d, e⟩
  refine ⟨_, rfl, _, _, _, _, rfl, rfl, SqL.of e, rfl, _, _, rfl, rfl, _, rfl, ?_⟩
  by_cases hn : 0 < n
  · rw [decide_eq_true hn]
    refine iteT ⟨_, rfl, _, _, _, _, rfl, rfl, SqL.of e, rfl, .inl ⟨_, rfl, _, rfl, _, _, rfl, rfl, hm, ?_⟩⟩
    refine ⟨_, rfl, _, _, _, _, rfl, rfl, SqL.of e, rfl, _, rfl, _, _, rfl, rfl, ⟨hm, hm2⟩, _, rfl, _, _, _, _, rfl, rfl, e, rfl, _, rfl, ?_⟩
    exact q _ _ (Int.emod_nonneg _ (by omega)) (Int.emod_lt_of_pos _ hm) (r1 SamX.upd upd_same (Int.ediv_nonneg h1 (by omega)) h2 h3)
  · rw [decide_eq_false hn]
    refine iteF ?_
    refine ⟨_, rfl, _, _, _, _, rfl, rfl, SqL.of e, rfl, _, _, rfl, rfl, _, rfl, _, _, _, _, rfl, rfl, e, rfl, ?_⟩
    refine ⟨_, rfl, _, _, _, _, rfl, rfl, SqL.of upd_same, rfl, _, _, rfl, rfl, .inl ⟨by omega, by omega⟩, _, rfl, _, _, _, _, rfl, rfl, SqL.of upd_same, rfl, _, _, rfl, rfl, .inr ⟨by omega, by omega⟩,
      _, _, rfl, rfl, _, _, rfl, rfl, .inl ⟨_, rfl, _, _, rfl, rfl, (by show (0 : Int) < 2147483647; decide), _, rfl, _, _, _, _, rfl, rfl, upd_same, rfl, ?_⟩⟩
    have hM0 : 0 ≤ (m * 48271 + (c + 1) * 69621 + 11) % 2147483647 ∧ (m * 48271 + (c + 1) * 69621 + 11) % 2147483647 < 2147483647 := by omega
    refine ⟨_, rfl, _, _, _, _, rfl, rfl, SqL.of upd_same, rfl, _, rfl, _, _, _, _, rfl, rfl, SqL.of upd_same, rfl, _, _, rfl, rfl, _, _, rfl, rfl, .inl ⟨by omega, by omega⟩, _, rfl, _, _, _, _, rfl, rfl, SqL.of upd_same, rfl,
      _, _, rfl, rfl, .inr ⟨by omega, by omega⟩, _, _, rfl, rfl, .inl ⟨_, rfl, _, _, rfl, rfl, (by show (0 : Int) < 2147483629; decide), ?_⟩⟩
    refine ⟨_, rfl, _, _, rfl, rfl, ⟨by show (0 : Int) < 512; decide, by show (512 : Int) < 1073741824; decide⟩, .inl ⟨_, rfl, _, rfl, _, _, rfl, rfl, hm, ?_⟩⟩
    refine q _ _ (Int.emod_nonneg _ (by omega)) (Int.emod_lt_of_pos _ hm) ?_
    rw [upd_upd]
    exact r1 SamX.upd upd_same h1 hM0.1 hM0.2
/-! ### cells, sources -/
def spCell (K : PySem.W.Frag) : Sp := fun vs H Q _ => ∃ (a : Addr) (ns : List Int) (k : Nat), vs = [.ref a, .int (k : Int)] ∧ SqL K H a (ns.map V.int) ∧ k ≤ 3 ∧ ∀ r H', Same H H' → Q (.int r) H'
theorem scCell : FnScope ["_law_script", "_law_k"] ["_law_script", "_law_k"] (defScope (top 56)) := ⟨rfl, rfl, rfl, by decide +kernel, rfl, by decide +kernel, by decide +kernel⟩
theorem cut_map (ns : List Int) (lo hi : Option Int) : ∃ ms : List Int, cutV (ns.map V.int) lo hi = ms.map V.int := by
  unfold cutV
  rw [← List.map_drop, ← List.map_take]
  exact ⟨_, rfl⟩
theorem ok_cell (T : Tx K mg) : FnOk P w K mg base CX0 1 T.cell.f T.cell.fd ["_law_script", "_law_k"] (spCell K) := by
  refine okF T.cell.F scCell (fun vs H Q E h => ?_) fun cdv A outer s H vs Q E hr h => ?_
  · obtain ⟨_, _, _, rfl, _⟩ := h
    rfl
  obtain ⟨a, ns, k, rfl, hs, hk, q⟩ := h
  refine ⟨_, pss_cons (ps_if (pt_cmpR op_lt (pv 1) (pe_callB call_len_seq rfl T.nlen boot_len (pa_cons (pv 0) pa_nil)) (nomark _)) (pss_one (ps_ret (pe_ix ix_list (pv 0) (pv 1) (fun _ _ => rfl)))) pss_nil)
    (pss_one (ps_ret (pe_op op_add (pe_op op_mul pe_int (pe_op op_add (pv 1) pe_int)) (pe_op op_mul pe_int (pe_op op_mod (pe_callTy call_int1 rfl T.nint boot_int (pa_cons (pe_callB (cr_sum rfl) rfl T.nsum boot_sum (pa_cons (pe_slice sl_list (pv 0) po_none (po_some pe_int)) pa_nil)) pa_nil)) pe_int))))), ?_⟩
  refine ⟨_, rfl, _, rfl, _, _, rfl, .inl hs, _, _, rfl, rfl, _, rfl, ?_⟩
  by_cases hl : (k : Int) < ((ns.map V.int).length : Nat)
  · rw [decide_eq_true hl]
    have hl2 : k < (ns.map V.int).length := by omega
    have hl3 : k < ns.length := by simpa using hl2
    refine iteT ⟨_, rfl, _, rfl, _, _, _, V.int ns[k], rfl, rfl, hs, atI_nat (by simp [hl3]), q _ _ (Same.refl H)⟩
  · rw [decide_eq_false hl]
    refine iteF ?_
    refine ⟨_, rfl, _, _, rfl, rfl, _, _, rfl, rfl, .inl ⟨by decide, by decide⟩, _, rfl, _, rfl, _, _, rfl, hs, fun p hp => ?_⟩
    obtain ⟨ms, e⟩ := cut_map ns none (some 1)
    refine ⟨_, ms, rfl, by rw [← e]; exact SqL.of upd_same, .inl ⟨_, rfl, _, _, rfl, rfl, (by show (0 : Int) < 1000003; decide), _, _, rfl, rfl, .inl ⟨by show -(2 ^ 64) < (31 : Int); decide, by show (31 : Int) < 2 ^ 64; decide⟩, _, _, rfl, rfl, ?_⟩⟩
    exact q _ _ (same_upd hp)
def spSource (K : PySem.W.Frag) : Sp := fun vs H Q _ => ∃ (a : Addr) (ns : List Int) (k : Nat), vs = [.ref a, .int (k : Int)] ∧ SqL K H a (ns.map V.int) ∧ k ≤ 3 ∧ ∀ s H', Same H H' → H s = none → Src H' s → Q (.ref s) H'
theorem scSource : FnScope ["_law_script", "_law_k", "_law_cell_here", "_law_number", "_law_mixed"] ["_law_script", "_law_k"] (defScope (top 57)) := ⟨rfl, rfl, rfl, by decide +kernel, rfl, by decide +kernel, by decide +kernel⟩
theorem ok_source (T : Tx K mg) : FnOk P w K mg base CX0 2 T.source.f T.source.fd ["_law_script", "_law_k"] (spSource K) := by
  refine okF T.source.F scSource (fun vs H Q E h => ?_) fun cdv A outer s H vs Q E hr h => ?_
  · obtain ⟨_, _, _, rfl, _⟩ := h
    rfl
  obtain ⟨a, ns, k, rfl, hs, hk, q⟩ := h
  have nd := scSource.nd
  refine ⟨_, pss_cons (ps_set (i := 2) nd rfl (Or.inl rfl) (pe_f T.cell (ok_cell T) hr (pa_cons (pv 0) (pa_cons (pv 1) pa_nil))))
    (pss_cons (ps_set (i := 3) nd rfl (Or.inl rfl) (pe_callB call_abs rfl T.nabs boot_abs (pa_cons (pv 2) pa_nil)))
    (C8.pss_cut (ps_if (pt_cmpR op_ne (pe_op op_shr (pv 3) pe_int) pe_int (nomark _)) (pss_one (ps_set (i := 3) nd rfl (Or.inl rfl) (pe_op op_mod (pe_callTy call_int1 rfl T.nint boot_int (pa_cons (pv 3) pa_nil)) (pe_op op_pow pe_int pe_int)))) pss_nil)
    (pss_cons (ps_set (i := 4) nd rfl (Or.inl rfl) (pe_op op_mod (pe_callTy call_int1 rfl T.nint boot_int (pa_cons (pe_op op_add (pe_op op_add (pe_op op_add (pe_op op_mul (pe_op op_mod (pe_callTy call_int1 rfl T.nint boot_int (pa_cons (pv 3) pa_nil)) pe_int) pe_int) (pe_op op_mul pe_int (pv 1))) pe_int)
        (pe_callTy call_int1 rfl T.nint boot_int (pa_cons (pe_cmpR op_lt (pv 2) pe_int (nomark _)) pa_nil))) pa_nil)) pe_int))
    (pss_cons (ps_if (pt_cmpR op_ge (pv 3) (pe_op op_pow pe_int pe_int) (nomark _)) (pss_one (ps_ret (pe_lst (pa_cons (pv 3) (pa_cons (pv 4) (pa_cons pe_int pa_nil)))))) pss_nil)
    (pss_one (ps_ret (pe_lst (pa_cons pe_int (pa_cons (pv 4) (pa_cons pe_int pa_nil)))))))))), ?_⟩
  refine ⟨_, rfl, _, rfl, a, ns, k, rfl, hs, hk, fun r H1 s1 => ⟨_, rfl, _, rfl, ?_⟩⟩
  have h0 : 0 ≤ (if r < 0 then -r else r) := by split <;> omega
  generalize (if r < 0 then -r else r) = n at h0
  have tail : ∀ n : Int, 0 ≤ n → ∀ M : Int, 0 ≤ M → M < 2147483647 → ∀ p, H1 p = none → Q (.ref p) (upd H1 p (.lst [.int n, .int M, .int 0])) := fun n hn M h1 h2 p hp => q p _ (Same.trans s1 (same_upd hp)) (Same.free s1 hp) ⟨n, M, 0, hn, h1, h2, upd_same⟩
  refine ⟨fun σ' H' => H' = H1 ∧ ∃ n : Int, 0 ≤ n ∧ σ' = [some (.ref a), some (.int k), some (.int r), some (.int n), none], ?_, ?_⟩
  · refine ⟨_, rfl, _, _, rfl, rfl, (by show (0 : Int) ≤ 36000; decide), rfl, _, rfl, ite2 (fun hz => ?_) (fun hz => ⟨rfl, n, h0, rfl⟩)⟩
    refine ⟨_, rfl, .inl ⟨_, rfl, _, _, rfl, rfl, ⟨by decide, by decide, by decide⟩, _, _, rfl, rfl, (by show (0 : Int) < 10 ^ 60; decide), rfl, _, ?_, rfl⟩⟩
    exact Int.emod_nonneg _ (by decide)
  rintro σ' H' ⟨rfl, n, h0, rfl⟩
  refine ⟨_, rfl, .inl ⟨_, rfl, _, _, rfl, rfl, (by show (0 : Int) < 2147483629; decide), _, _, rfl, rfl, .inr ⟨by decide, by decide⟩, _, rfl, _, _, rfl, rfl, .inl ⟨by decide, by decide⟩, _, _, rfl, rfl, _, _, rfl, rfl,
    _, rfl, _, _, rfl, rfl, .inr ⟨_, rfl, _, _, rfl, rfl, .inl ⟨_, rfl, _, _, rfl, rfl, (by show (0 : Int) < 2147483647; decide), ?_⟩⟩⟩⟩
  refine ⟨_, rfl, _, _, rfl, rfl, ⟨by decide, by decide, by decide⟩, _, _, rfl, rfl, _, rfl, ite2 (fun _ => ?_) (fun _ => ?_)⟩
  · exact ⟨_, rfl, _, rfl, (by show 3 ≤ sizeLine; decide), tail n h0 _ (Int.emod_nonneg _ (by decide)) (Int.emod_lt_of_pos _ (by decide))⟩
  · exact ⟨_, rfl, (by show 3 ≤ sizeLine; decide), tail 0 (Int.le_refl 0) _ (Int.emod_nonneg _ (by decide)) (Int.emod_lt_of_pos _ (by decide))⟩
/-! ### asks -/
def asksL : List Str := ["ab", "ab", "bf", "acd", "ah", "a", "ab", "ce"]
def spAsks : Sp := fun vs H Q _ => ∃ (s : Addr), vs = [.ref s] ∧ Src H s ∧ ∀ x H', x ∈ asksL → Stp s H H' → Q (.str x) H'
theorem scAsks : FnScope ["_law_source_here"] ["_law_source_here"] (defScope (top 61)) := ⟨rfl, rfl, rfl, by decide +kernel, rfl, by decide +kernel, by decide +kernel⟩
theorem ok_asks (T : Tx K mg) : FnOk P w K mg base CX0 2 T.asks.f T.asks.fd ["_law_source_here"] spAsks := by
  refine okF T.asks.F scAsks (fun vs H Q E h => ?_) fun cdv A outer s H vs Q E hr h => ?_
  · obtain ⟨_, rfl, _⟩ := h
    rfl
  obtain ⟨s, rfl, hs, q⟩ := h
  refine ⟨_, pss_one (ps_ret (pe_ix ix_list (pe_lst (pa_cons pe_str (pa_cons pe_str (pa_cons pe_str (pa_cons pe_str (pa_cons pe_str (pa_cons pe_str (pa_cons pe_str (pa_cons pe_str pa_nil)))))))))
    (pe_f T.draw (ok_draw T) hr (pa_cons (pv 0) (pa_cons pe_int pa_nil))) (fun _ _ => rfl))), ?_⟩
  refine ⟨(by show 8 ≤ sizeLine; decide), fun p hp => ⟨_, rfl, s, 8, rfl, hs.same (same_upd hp), by decide, by decide, fun r H' h1 h2 k => ?_⟩⟩
  have hl : H' p = some (.lst (asksL.map V.str)) := k.x _ _ (hs.ne hp) upd_same
  have hr2 : r.toNat < asksL.length := by show r.toNat < 8; omega
  have er : r = (r.toNat : Int) := by omega
  refine ⟨_, _, _, V.str asksL[r.toNat], rfl, rfl, SqL.of hl, ?_, q _ _ (List.getElem_mem hr2) ((Stp.of hs (same_upd hp)).trans k)⟩
  have g : ∀ (m : Nat) (hm : m < asksL.length) (z : Int), z = (m : Int) → atI (List.map V.str asksL) z = some (V.str asksL[m]) := fun m hm z ez => by
    rw [ez]
    exact atI_nat (by rw [List.getElem?_map, List.getElem?_eq_getElem hm]; rfl)
  exact g _ hr2 _ er
/-! ### prices -/
def spPrices : Sp := fun vs H Q _ => ∃ (s : Addr) (n : Nat) (most : Int), vs = [.ref s, .int (n : Int), .int most] ∧ Src H s ∧ n ≤ 1000 ∧ 0 ≤ most ∧ most ≤ 1000 ∧ ∀ v t H', t.length = n → Stp s H H' → Ld Ri (new H H') v t → Q v H'
theorem scPrices : FnScope ["_law_source_here", "_law_many", "_law_most", "_law_k"] ["_law_source_here", "_law_many", "_law_most"] (defScope (top 62)) := ⟨rfl, rfl, rfl, by decide +kernel, rfl, by decide +kernel, by decide +kernel⟩
theorem ok_prices (T : Tx K mg) : FnOk P w K mg base CX0 2 T.prices.f T.prices.fd ["_law_source_here", "_law_many", "_law_most"] spPrices := by
  refine okF T.prices.F scPrices (fun vs H Q E h => ?_) fun cdv A outer s H vs Q E hr h => ?_
  · obtain ⟨_, _, _, rfl, _⟩ := h
    rfl
  obtain ⟨s, n, most, rfl, hs, hn, h1, h2, q⟩ := h
  have nd := scPrices.nd
  refine ⟨_, pss_one (ps_ret (pe_lc (own := [("_law_k", 3)]) (g := gName 3) (by rfl) nd (pi_range1 rfl T.nrange (pa_cons (pv 1) pa_nil)) (blkOk_by (own := [("_law_k", 3)]) (N := ["_law_source_here", "_law_many", "_law_most", "_law_k"]) (sc := defScope (top 62)) (by decide +kernel))
    (fun _ _ _ _ _ => pg_name (i := 3) nd rfl (Or.inl rfl)) (fun _ _ _ _ _ => pts_nil) (fun _ _ _ _ _ => pe_f T.draw (ok_draw T) hr (pa_cons (pv 0) (pa_cons (pe_op op_add (pv 2) pe_int) pa_nil))))), ?_⟩
  refine ⟨_, rfl, _, rfl, by omega, by omega, fun D hD => lc_gen ri_mono (stepStp hs) walk_range (fun _ _ => True.intro) (by omega) hD (fun _ _ => True) (fun i x A A' Q' Z hi hA hy k => ?_) fun H' ts e1 _ e3 e4 => q _ ts H' (by omega) e3 e4⟩
  obtain ⟨rfl, rfl⟩ := hy
  exact ⟨rfl, yes ⟨_, rfl, _, rfl, _, _, rfl, rfl, s, _, rfl, hA.s, by omega, by omega, fun r B r1 r2 kB => k _ _ B kB rfl True.intro⟩⟩
end SD

/-! ## SL2 -/
set_option maxHeartbeats 4000000
namespace SD
open PySem PySem.Spec PyProof.Rows L2 SR
variable {P : Program} {w : World} {K : PySem.W.Frag} {mg : Str → Option Value} {base : Heap}
theorem all_of {α : Type} {p : α → Prop} {l : List α} (h : ∀ (i : Nat) z, l[i]? = some z → p z) : ∀ z ∈ l, p z := fun z hz => by
  obtain ⟨i, hi⟩ := List.mem_iff_getElem?.mp hz
  exact h i z hi
/-- n rows of n -/
def Sqr (n : Nat) (t : List (List Int)) : Prop := t.length = n ∧ ∀ l ∈ t, l.length = n
abbrev R2i : Rl (List (List Int)) := Ld (Ld Ri)
theorem r2_mono : Mono R2i := ld_mono (ld_mono ri_mono)
def spTable : Sp := fun vs H Q _ => ∃ (s : Addr) (n : Nat) (most : Int), vs = [.ref s, .int (n : Int), .int most] ∧ Src H s ∧ n ≤ 1000 ∧ 1 ≤ most ∧ most ≤ 1000 ∧ ∀ v t H', Sqr n t → Stp s H H' → R2i (new H H') v t → Q v H'
theorem scAnyTable : FnScope ["_law_source_here", "_law_many", "_law_most", "_law_s"] ["_law_source_here", "_law_many", "_law_most"] (defScope (top 63)) := ⟨rfl, rfl, rfl, by decide +kernel, rfl, by decide +kernel, by decide +kernel⟩
theorem ok_anyTable (T : Tx K mg) : FnOk P w K mg base CX0 3 T.anyTable.f T.anyTable.fd ["_law_source_here", "_law_many", "_law_most"] spTable := by
  refine okF T.anyTable.F scAnyTable (fun vs H Q E h => ?_) fun cdv A outer s H vs Q E hr h => ?_
  · obtain ⟨_, _, _, rfl, _⟩ := h
    rfl
  obtain ⟨s, n, most, rfl, hs, hn, h1, h2, q⟩ := h
  have nd := scAnyTable.nd
  refine ⟨_, pss_one (ps_ret (pe_lc (own := [("_law_s", 3)]) (g := gName 3) (by rfl) nd (pi_range1 rfl T.nrange (pa_cons (pv 1) pa_nil)) (blkOk_by (own := [("_law_s", 3)]) (N := ["_law_source_here", "_law_many", "_law_most", "_law_s"]) (sc := defScope (top 63)) (by decide +kernel))
    (fun _ _ _ _ _ => pg_name (i := 3) nd rfl (Or.inl rfl)) (fun _ _ _ _ _ => pts_nil) (fun _ _ _ _ _ => pe_f T.prices (ok_prices T) hr (pa_cons (pv 0) (pa_cons (pv 1) (pa_cons (pv 2) pa_nil)))))), ?_⟩
  refine ⟨_, rfl, _, rfl, by omega, by omega, fun D hD => lc_gen (ld_mono ri_mono) (stepStp hs) walk_range (fun _ _ => True.intro) (by omega) hD (fun _ l => l.length = n) (fun i x A A' Q' Z hi hA hy k => ?_) fun H' ts e1 e2 e3 e4 => q _ ts H' ⟨by omega, all_of e2⟩ e3 e4⟩
  obtain ⟨rfl, rfl⟩ := hy
  exact ⟨rfl, yes ⟨_, rfl, _, rfl, _, rfl, s, n, most, rfl, hA.s, by omega, by omega, by omega, fun v t B l kB r => k v t B kB r l⟩⟩
/-! ### changes -/
def spChange : Sp := fun vs H Q _ => ∃ (s : Addr) (i j most : Int), vs = [.ref s, .int i, .int j, .int most] ∧ Src H s ∧ 1 ≤ most ∧ most ≤ 1000 ∧ ∀ r H', Stp s H H' → Q (.int r) H'
theorem scChange : FnScope ["_law_source_here", "_law_s", "_law_t", "_law_most"] ["_law_source_here", "_law_s", "_law_t", "_law_most"] (defScope (top 64)) := ⟨rfl, rfl, rfl, by decide +kernel, rfl, by decide +kernel, by decide +kernel⟩
theorem ok_change (T : Tx K mg) : FnOk P w K mg base CX0 2 T.change.f T.change.fd ["_law_source_here", "_law_s", "_law_t", "_law_most"] spChange := by
  refine okF T.change.F scChange (fun vs H Q E h => ?_) fun cdv A outer s H vs Q E hr h => ?_
  · obtain ⟨_, _, _, _, rfl, _⟩ := h
    rfl
  obtain ⟨s, i, j, most, rfl, hs, h1, h2, q⟩ := h
  refine ⟨_, pss_cons (ps_if (pt_cmpR op_eq (pv 1) (pv 2) (nomark _)) (pss_one (ps_ret pe_int)) pss_nil) (pss_one (ps_ret (pe_op op_add pe_int (pe_f T.draw (ok_draw T) hr (pa_cons (pv 0) (pa_cons (pv 3) pa_nil)))))), ?_⟩
  refine ⟨_, rfl, _, rfl, rfl, _, rfl, ite2 (fun _ => q _ _ (Stp.refl hs)) (fun _ => ?_)⟩
  exact ⟨_, rfl, _, rfl, s, most, rfl, hs, by omega, by omega, fun r H' _ _ k => ⟨_, _, rfl, rfl, q _ _ k⟩⟩
theorem scChanges : FnScope ["_law_source_here", "_law_many", "_law_most", "_law_found", "_law_s", "_law_t"] ["_law_source_here", "_law_many", "_law_most"] (defScope (top 65)) := ⟨rfl, rfl, rfl, by decide +kernel, rfl, by decide +kernel, by decide +kernel⟩
theorem ok_changes (T : Tx K mg) : FnOk P w K mg base CX0 3 T.changes.f T.changes.fd ["_law_source_here", "_law_many", "_law_most"] spTable := by
  refine okF T.changes.F scChanges (fun vs H Q E h => ?_) fun cdv A outer s H vs Q E hr h => ?_
  · obtain ⟨_, _, _, rfl, _⟩ := h
    rfl
  obtain ⟨s, n, most, rfl, hs, hn, h1, h2, q⟩ := h
  have nd := scChanges.nd
  refine ⟨_, pss_cons (ps_set (i := 3) nd rfl (Or.inl rfl) (pe_lst pa_nil))
    (pss_cons (ps_for PassesOwn.never rfl (pi_range1 rfl T.nrange (pa_cons (pv 1) pa_nil)) (pg_name (i := 4) nd rfl (Or.inr rfl))
      (pss_one (ps_expr (pe_bm PySem.F.plainAttrs_list PySem.F.slot_list_append PySem.F.type_list_append mt_append (pv 3) (pa_cons
        (pe_lc (own := [("_law_t", 5)]) (g := gName 5) (by rfl) nd (pi_range1 rfl T.nrange (pa_cons (pv 1) pa_nil)) (blkOk_by (own := [("_law_t", 5)]) (N := ["_law_source_here", "_law_many", "_law_most", "_law_found", "_law_s", "_law_t"]) (sc := defScope (top 65)) (by decide +kernel))
          (fun _ _ _ _ _ => pg_name (i := 5) nd rfl (Or.inl rfl)) (fun _ _ _ _ _ => pts_nil) (fun _ _ _ _ _ => pe_f T.change (ok_change T) hr (pa_cons (pv 0) (pa_cons (pv 4) (pa_cons (pv 5) (pa_cons (pv 2) pa_nil)))))) pa_nil)))))
    (pss_one (ps_ret (pv 3)))), ?_⟩
  refine ⟨(by show 0 ≤ sizeLine; decide), fun D hD => ?_⟩
  have sk := stepStp hs
  refine ⟨_, rfl, _, rfl, by omega, by omega, for_range (lo := 0) (n := (n : Int).toNat) (fun i σ A => ∃ v, σ = [some (.ref s), some (.int n), some (.int most), some (.ref D), v, none] ∧ Fill (Ld Ri) (Stp s) H D (fun _ l => l.length = n) i A) ⟨_, rfl, fill_0 sk hD⟩ (fun i σ A hi p => ?_) (fun σ A p => ?_)⟩
  · obtain ⟨v, rfl, p⟩ := p
    obtain ⟨ys, hys⟩ := fill_at p
    have hA := fill_S p
    refine ⟨_, rfl, .inl ⟨rfl, _, SqL.of hys⟩, _, rfl, _, rfl, by omega, by omega, fun D2 hD2 => lc_gen ri_mono (stepStp hA.s) walk_range (fun _ _ => True.intro) (by omega) hD2 (fun _ _ => True) (fun j x B B' Q' Z hj hB hy k => ?_) fun H' ts e1 e2 e3 e4 => ?_⟩
    · obtain ⟨rfl, rfl⟩ := hy
      exact ⟨rfl, yes ⟨_, rfl, _, rfl, _, rfl, _, rfl, s, _, _, most, rfl, hB.s, h1, h2, fun r C kC => k _ _ C kC rfl True.intro⟩⟩
    · obtain ⟨acc, a1, a2, a3⟩ := fill_step (ld_mono ri_mono) sk hD (by omega) p e3 e4 (by show ts.length = n; omega)
      exact ⟨_, _, _, rfl, rfl, a1, a2, _, rfl, a3⟩
  · obtain ⟨v, rfl, p⟩ := p
    obtain ⟨ts, e1, e2, e3, e4⟩ := fill_end (ld_mono ri_mono) hD p
    exact ⟨_, rfl, q _ ts A ⟨by omega, all_of e2⟩ e3 e4⟩
end SD

/-! ## SL3 -/
set_option maxHeartbeats 4000000
namespace SD
open PySem PySem.Spec PyProof.Rows L2 SR
variable {P : Program} {w : World} {K : PySem.W.Frag} {mg : Str → Option Value} {base : Heap}
/-! ### served -/
def spServed : Sp := fun vs H Q _ => ∃ (v v2 : V) (n : Nat) (t : List (List Int)) (l : List Int), vs = [v, v2] ∧ n ≤ 1000 ∧ Sqr n t ∧ l.length = n ∧ R2i H v t ∧ Ld Ri H v2 l ∧ ∀ v t H', Sqr n t → Same H H' → R2i (new H H') v t → Q v H'
theorem scServed : FnScope ["_law_changes_here", "_law_serves", "_law_line", "_law_price", "_law_serve"] ["_law_changes_here", "_law_serves"] (defScope (top 66)) := ⟨rfl, rfl, rfl, by decide +kernel, rfl, by decide +kernel, by decide +kernel⟩
theorem ok_served (T : Tx K mg) : FnOk P w K mg base CX0 1 T.served.f T.served.fd ["_law_changes_here", "_law_serves"] spServed := by
  refine okF T.served.F scServed (fun vs H Q E h => ?_) fun cdv A outer s H vs Q E hr h => ?_
  · obtain ⟨_, _, _, _, _, rfl, _⟩ := h
    rfl
  obtain ⟨v, v2, n, t, l, rfl, hn, ht, hl, hv, hv2, q⟩ := h
  have nd := scServed.nd
  refine ⟨_, pss_one (ps_ret (pe_lc (own := [("_law_line", 2)]) (g := gName 2) (te := tLc (iZip K (tCons (tVar 2) (tCons (tVar 1) tNil))) (gTup K 2 (gCons (gName 3) (gCons (gName 4) gNil))) tYes (tOp (rI0 fun i j => .int (i + j)) (tVar 3) (tVar 4)) [3, 4]) (by rfl) nd (pi_list (pv 0)) (blkOk_by (by kernel_rfl))
    (fun _ _ _ _ _ => pg_name (i := 2) nd rfl (Or.inl rfl)) (fun _ _ _ _ _ => pts_nil) (fun _ _ _ _ _ =>
      pe_lc (own := [("_law_price", 3), ("_law_serve", 4)]) (by rfl) nd (pi_zip rfl T.nzip (pa_cons (pv 2) (pa_cons (pv 1) pa_nil))) (blkOk_by (by kernel_rfl))
        (fun _ _ _ _ _ => pg_tup rfl (pgs_cons (pg_name (i := 3) nd rfl (Or.inl rfl)) (pgs_cons (pg_name (i := 4) nd rfl (Or.inl rfl)) pgs_nil))) (fun _ _ _ _ _ => pts_nil) (fun _ _ _ _ _ => pe_op op_add (pv 3) (pv 4))))), ?_⟩
  obtain ⟨a, xs, rfl, ha, pr⟩ := hv
  obtain ⟨b, rfl, hb⟩ := ld_ints.mp hv2
  have lx : xs.length = n := by rw [paired_len pr, ht.1]
  refine ⟨_, rfl, a, rfl, ⟨_, SqL.of ha⟩, fun D hD => lc_gen (ld_mono ri_mono) (stepSame H) walk_list (fun A hA => SqL.of (hA _ _ ha)) (by omega) hD (fun _ l => l.length = n) (fun i x A A' Q' Z hi hA hy k => ?_) fun H' ts e1 e2 e3 e4 => q _ ts H' ⟨by omega, all_of e2⟩ e3 e4⟩
  obtain ⟨rfl, ex⟩ := hy
  obtain ⟨li, el, hx⟩ := paired_at pr ex
  have hli := ht.2 li (List.mem_of_getElem? el)
  obtain ⟨c, rfl, hc⟩ := ld_ints.mp hx
  refine ⟨rfl, yes ⟨_, rfl, _, rfl, c, b, _, _, rfl, SqL.of (hA _ _ hc), SqL.of (hA _ _ hb), fun D2 hD2 => lc_gen ri_mono (stepSame A') (walk_zip (n := n) (by simp [hli, hl])) (fun B hB => ⟨SqL.of (hB _ _ (hA _ _ hc)), SqL.of (hB _ _ (hA _ _ hb))⟩) hn hD2 (fun _ _ => True) (fun j y B B' Q2 Z2 hj hB hy2 k2 => ?_) fun H' ts e1 e2 e3 e4 => k _ ts H' e3 e4 e1⟩⟩
  obtain ⟨T2, x1, y1, rfl, hT, rfl, f1, f2⟩ := hy2
  obtain ⟨p1, _, rfl⟩ := Option.map_eq_some_iff.mp (by rw [← List.getElem?_map]; exact f1)
  obtain ⟨p2, _, rfl⟩ := Option.map_eq_some_iff.mp (by rw [← List.getElem?_map]; exact f2)
  exact ⟨T2, _, rfl, SqT.of upd_same, rfl, _, _, rfl, _, _, rfl, rfl, rfl, yes ⟨_, rfl, _, rfl, _, _, rfl, rfl, k2 _ _ _ (same_upd hT) rfl True.intro⟩⟩
end SD

/-! ## SL4 -/
set_option maxHeartbeats 4000000
namespace SD
open PySem PySem.Spec PyProof.Rows L2 SR
variable {P : Program} {w : World} {K : PySem.W.Frag} {mg : Str → Option Value} {base : Heap}
/-- a world: the asks, what is paid at the begin, at the end, for each ask's steps -/
structure Wt where
  x : Str
  n : Nat
  b : List Int
  c : List (List (List Int))
  e : List Int
structure WdOk (W : Wt) : Prop where
  n1 : 1 ≤ W.n
  n3 : W.n ≤ 3
  x1 : 1 ≤ W.x.length
  x10 : W.x.length ≤ 10
  b : W.b.length = W.n
  e : W.e.length = W.n
  c : W.c.length = W.x.length
  cs : ∀ t ∈ W.c, Sqr W.n t
def Wd : Rl Wt := fun G v W => ∃ a vb vc ve, v = .ref a ∧ G a = some (.lst [.str W.x, vb, vc, ve]) ∧ Ld Ri G vb W.b ∧ Ld R2i G vc W.c ∧ Ld Ri G ve W.e
theorem wd_mono : Mono Wd := fun G G' v W k ⟨a, vb, vc, ve, e, g, h1, h2, h3⟩ => ⟨a, vb, vc, ve, e, k _ _ g, ld_mono ri_mono _ _ _ _ k h1, ld_mono r2_mono _ _ _ _ k h2, ld_mono ri_mono _ _ _ _ k h3⟩
theorem ixN_lt {n : Nat} {i : Int} (h0 : 0 ≤ i) (h1 : i < n) : ixN n i = some i.toNat := by
  unfold ixN
  rw [if_pos h0, if_pos h1]
theorem rep0 (n : Nat) : (List.replicate n [V.int 0]).flatten = (List.replicate n (0 : Int)).map V.int := by
  induction n with
  | zero => rfl
  | succ n ih => rw [List.replicate_succ, List.flatten_cons, ih, List.replicate_succ]; rfl
abbrev nWorld : List Str := ["_law_source_here", "_law_many", "_law_asks_here", "_law_most", "_law_manner", "_law_begins", "_law_ends", "_law_changes_here", "_law_costs", "_law_k", "_law_serves", "_law_price"]
def spWorld : Sp := fun vs H Q _ => ∃ (s : Addr) (n : Nat) (x : Str) (most : Int), vs = [.ref s, .int (n : Int), .str x, .int most] ∧ Src H s ∧ 1 ≤ n ∧ n ≤ 3 ∧ 1 ≤ x.length ∧ x.length ≤ 10 ∧ 1 ≤ most ∧ most ≤ 1000 ∧
  ∀ v W H', WdOk W → W.x = x → Stp s H H' → Wd (new H H') v W → Q v H'
theorem scWorld : FnScope nWorld ["_law_source_here", "_law_many", "_law_asks_here", "_law_most"] (defScope (top 67)) := ⟨rfl, rfl, rfl, by decide +kernel, rfl, by decide +kernel, by decide +kernel⟩
theorem ok_world (T : Tx K mg) : FnOk P w K mg base CX0 4 T.world.f T.world.fd ["_law_source_here", "_law_many", "_law_asks_here", "_law_most"] spWorld := by
  refine okF T.world.F scWorld (fun vs H Q E h => ?_) fun cdv A outer s H vs Q E hr h => ?_
  · obtain ⟨_, _, _, _, rfl, _⟩ := h
    rfl
  obtain ⟨s, n, x, most, rfl, hs, hn1, hn3, hx1, hx10, hm1, hm2, q⟩ := h
  have nd := scWorld.nd
  refine ⟨_, pss_cons (ps_set (i := 4) nd rfl (Or.inl rfl) (pe_f T.draw (ok_draw T) (hr.mono (by decide)) (pa_cons (pv 0) (pa_cons pe_int pa_nil))))
    (pss_cons (ps_set (i := 5) nd rfl (Or.inl rfl) (pe_f T.prices (ok_prices T) (hr.mono (by decide)) (pa_cons (pv 0) (pa_cons (pv 1) (pa_cons (pv 3) pa_nil)))))
    (pss_cons (ps_set (i := 6) nd rfl (Or.inl rfl) (pe_f T.prices (ok_prices T) (hr.mono (by decide)) (pa_cons (pv 0) (pa_cons (pv 1) (pa_cons (pv 3) pa_nil)))))
    (C8.pss_cut (ps_if (pt_cmpR op_eq (pe_f T.draw (ok_draw T) (hr.mono (by decide)) (pa_cons (pv 0) (pa_cons pe_int pa_nil))) pe_int (nomark _)) (pss_one (ps_set (i := 6) nd rfl (Or.inl rfl) (pe_op op_rep (pe_lst (pa_cons pe_int pa_nil)) (pv 1)))) pss_nil)
    (pss_cons (ps_set (i := 7) nd rfl (Or.inl rfl) (pe_f T.changes (ok_changes T) hr (pa_cons (pv 0) (pa_cons (pv 1) (pa_cons (pv 3) pa_nil)))))
    (pss_cons (ps_set (i := 8) nd rfl (Or.inl rfl) (pe_lst pa_nil))
    (pss_cons (ps_for PassesOwn.never rfl (pi_range1 rfl T.nrange (pa_cons (pe_callB call_len_str rfl T.nlen boot_len (pa_cons (pv 2) pa_nil)) pa_nil)) (pg_name (i := 9) nd rfl (Or.inl rfl))
      (pss_one (ps_if (pt_cmpR op_eq (pv 4) pe_int (nomark _))
        (pss_one (ps_expr (pe_bm PySem.F.plainAttrs_list PySem.F.slot_list_append PySem.F.type_list_append mt_append (pv 8) (pa_cons (pe_f T.anyTable (ok_anyTable T) hr (pa_cons (pv 0) (pa_cons (pv 1) (pa_cons (pv 3) pa_nil)))) pa_nil))))
        (pss_cons (ps_set (i := 10) nd rfl (Or.inl rfl) (pe_f T.prices (ok_prices T) (hr.mono (by decide)) (pa_cons (pv 0) (pa_cons (pv 1) (pa_cons (pv 3) pa_nil)))))
        (C8.pss_cut (ps_if (pt_cmpR op_gt (pv 4) pe_int (nomark _))
          (pss_cons (ps_setLc (i := 10) (own := [("_law_price", 11)]) (g := gName 11) (by rfl) nd rfl rfl (sw_true rfl rfl rfl (by decide +kernel)) (pi_list (pv 10)) (blkOk_by (own := [("_law_price", 11)]) (N := nWorld) (sc := defScope (top 67)) (by decide +kernel))
            (fun _ _ _ _ _ => pg_name (i := 11) nd rfl (Or.inl rfl)) (fun _ _ _ _ _ => pts_nil) (fun _ _ _ _ _ => pe_callB (call_max2 rfl) rfl T.nmax boot_max (pa_cons (pv 11) (pa_cons pe_int pa_nil))))
          (pss_one (ps_asg pe_int (pg_sub (pv 10) (pe_op op_mod (pe_callTy call_int1 rfl T.nint boot_int (pa_cons (pv 9) pa_nil)) (pv 1)) set_list)))) pss_nil)
        (pss_one (ps_expr (pe_bm PySem.F.plainAttrs_list PySem.F.slot_list_append PySem.F.type_list_append mt_append (pv 8) (pa_cons (pe_f T.served (ok_served T) (hr.mono (by decide)) (pa_cons (pv 7) (pa_cons (pv 10) pa_nil))) pa_nil)))))))))
    (pss_one (ps_ret (pe_lst (pa_cons (pv 2) (pa_cons (pv 5) (pa_cons (pv 8) (pa_cons (pv 6) pa_nil))))))))))))), ?_⟩
  have hsn : ∃ u, H s = some u := hs.some
  refine ⟨_, rfl, s, 7, rfl, hs, by decide, by decide, fun m H1 m1 m2 k1 => ?_⟩
  refine ⟨_, rfl, _, rfl, _, rfl, s, n, most, rfl, k1.s, by omega, by omega, by omega, fun vb b H2 lb k2 rb => ?_⟩
  refine ⟨_, rfl, _, rfl, _, rfl, s, n, most, rfl, k2.s, by omega, by omega, by omega, fun ve0 e0 H3 le0 k3 re0 => ?_⟩
  have lm : Mono (Ld Ri) := ld_mono ri_mono
  have S2 : Stp s H H2 := k1.trans k2
  have S3 : Stp s H H3 := S2.trans k3
  have rb3 : Ld Ri (new H H3) vb b := lm _ _ _ _ (k3.new hsn) (lm _ _ _ _ (new_dom k1.dom) rb)
  have re3 : Ld Ri (new H H3) ve0 e0 := lm _ _ _ _ (new_dom S2.dom) re0
  refine ⟨fun σ' H' => ∃ ve e, σ' = [some (.ref s), some (.int n), some (.str x), some (.int most), some (.int m), some vb, some ve, none, none, none, none, none] ∧ e.length = n ∧ Stp s H H' ∧ Ld Ri (new H H') vb b ∧ Ld Ri (new H H') ve e, ?_, ?_⟩
  · refine ⟨_, rfl, s, 2, rfl, k3.s, by decide, by decide, fun r H4 _ _ k4 => ⟨rfl, _, rfl, ite2 (fun _ => ?_) (fun _ => ?_)⟩⟩
    · refine ⟨(by show 1 ≤ sizeLine; decide), fun p hp => ⟨_, rfl, p, _, _, rfl, rfl, upd_same, by omega, by omega, ?_, fun p2 hp2 => ?_⟩⟩
      · rw [Int.toNat_natCast, sizeLine_eq]
        show 1 * n ≤ _
        omega
      · have hp2' : H4 p2 = none := dom_upd _ _ _ _ hp2
        have S4 := S3.trans k4
        have hs0 := stepStp hs
        refine ⟨.ref p2, List.replicate n 0, rfl, by simp, hs0.lay (S4.dom _ hp2') (hs0.lay (S4.dom _ hp) S4), lm _ _ _ _ (Same.trans (k4.new hsn) (new_same (Same.trans (same_upd hp) (same_upd hp2)))) rb3, ld_ints.mpr ⟨p2, rfl, new_at (S4.dom _ hp2') ?_⟩⟩
        rw [upd_same, Int.toNat_natCast, rep0]
    · exact ⟨ve0, e0, rfl, le0, S3.trans k4, lm _ _ _ _ (k4.new hsn) rb3, lm _ _ _ _ (k4.new hsn) re3⟩
  rintro σ' H4 ⟨ve, e, rfl, le, S4, rb4, re4⟩
  refine ⟨_, rfl, _, rfl, _, rfl, s, n, most, rfl, S4.s, by omega, by omega, by omega, fun vc t H5 ht k5 rt => ⟨(by show 0 ≤ sizeLine; decide), fun D hD => ?_⟩⟩
  have S5 : Stp s H H5 := S4.trans k5
  have sk := stepStp S5.s
  refine ⟨_, rfl, x, rfl, by rw [sizeLine_eq]; omega, _, rfl, by omega, by omega, for_range (lo := 0) (n := ((x.length : Nat) : Int).toNat) (fun i σ A => ∃ v v2, σ = [some (.ref s), some (.int n), some (.str x), some (.int most), some (.int m), some vb, some ve, some vc, some (.ref D), v, v2, none] ∧ Fill R2i (Stp s) H5 D (fun _ t => Sqr n t) i A)
    ⟨_, _, rfl, fill_0 sk hD⟩ (fun i σ A hi p => ?_) (fun σ A p => ?_)⟩
  · obtain ⟨v, v2, rfl, p⟩ := p
    obtain ⟨ys, hys⟩ := fill_at p
    have hA := fill_S p
    have hvc : ∀ {B}, Stp s A B → R2i B vc t := fun {B} k => r2_mono _ _ _ _ (new_sub H4 B) (r2_mono _ _ _ _ ((hA.trans k).new S4.s.some) rt)
    refine ⟨_, rfl, rfl, _, rfl, ite2 (fun _ => ?_) (fun _ => ?_)⟩
    · refine ⟨_, rfl, .inl ⟨rfl, _, SqL.of hys⟩, _, rfl, _, rfl, _, rfl, s, n, most, rfl, hA.s, by omega, by omega, by omega, fun v t B ht kB r => ?_⟩
      obtain ⟨acc, a1, a2, a3⟩ := fill_step r2_mono sk hD (by omega) p kB r ht
      exact ⟨_, _, _, rfl, rfl, a1, a2, _, _, rfl, a3⟩
    refine ⟨_, rfl, _, rfl, _, rfl, s, n, most, rfl, hA.s, by omega, by omega, by omega, fun vs l B ll kB rl => ?_⟩
    refine ⟨fun σ' H' => ∃ vs l, σ' = [some (.ref s), some (.int n), some (.str x), some (.int most), some (.int m), some vb, some ve, some vc, some (.ref D), some (.int (0 + (i : Nat))), some vs, none] ∧ l.length = n ∧ Stp s A H' ∧ Ld Ri (new A H') vs l, ?_, ?_⟩
    · refine ⟨_, rfl, _, _, rfl, rfl, _, rfl, ite2 (fun _ => ?_) (fun _ => ⟨vs, l, rfl, ll, kB, rl⟩)⟩
      obtain ⟨a, rfl, ha⟩ := ld_ints.mp rl
      have haB : B a = some (.lst (l.map V.int)) := new_sub _ _ _ _ ha
      refine ⟨_, rfl, a, rfl, ⟨_, SqL.of haB⟩, fun D2 hD2 => lc_gen ri_mono (stepSame B) walk_list (fun C hC => SqL.of (hC _ _ haB)) (by rw [List.length_map]; omega) hD2 (fun _ _ => True) (fun j y C C' Q2 Z hj hC hy k2 => ?_) fun H' ts e1 _ e3 e4 => ?_⟩
      · obtain ⟨rfl, ey⟩ := hy
        obtain ⟨p1, _, rfl⟩ := Option.map_eq_some_iff.mp (by rw [← List.getElem?_map]; exact ey)
        exact ⟨rfl, yes ⟨_, rfl, _, _, rfl, k2 _ _ _ (Same.refl _) rfl True.intro⟩⟩
      · obtain ⟨a', ea, hD2'⟩ := ld_ints.mp e4
        cases ea
        have hH' : H' D2 = some (.lst (ts.map V.int)) := new_sub _ _ _ _ hD2'
        have lt : ts.length = n := by rw [e1, List.length_map, ll]
        have hAD : A D2 = none := kB.dom _ hD2
        have hm0 := Int.emod_nonneg (0 + (i : Int)) (show (n : Int) ≠ 0 by omega)
        have hm1 := Int.emod_lt_of_pos (0 + (i : Int)) (show (0 : Int) < n by omega)
        refine ⟨_, rfl, _, rfl, .inl ⟨_, rfl, _, rfl, _, _, rfl, rfl, (by omega), D2, _, _, _, rfl, rfl, hH', ixN_lt hm0 (by rw [List.length_map, lt]; exact hm1), ?_⟩⟩
        refine ⟨.ref D2, ts.set ((0 + (i : Int)) % (n : Int)).toNat 0, rfl, by rw [List.length_set]; exact lt, (stepStp hA.s).lay hAD (kB.trans (Stp.of kB.s e3)), ld_ints.mpr ⟨D2, rfl, new_at hAD ?_⟩⟩
        rw [upd_same, List.map_set]
        try rfl
    rintro σ' H' ⟨vs, l, rfl, ll, kB, rl⟩
    have hys' : H' D = some (.lst ys) := sk.keep hD kB hys
    refine ⟨_, rfl, .inl ⟨rfl, _, SqL.of hys'⟩, _, rfl, _, rfl, vc, vs, n, t, l, rfl, by omega, ht, ll, hvc kB, lm _ _ _ _ (new_sub _ _) rl, fun v t2 C ht2 kC r2 => ?_⟩
    obtain ⟨acc, a1, a2, a3⟩ := fill_step r2_mono sk hD (by omega) p (kB.trans (Stp.of kB.s kC)) (r2_mono _ _ _ _ (new_dom kB.dom) r2) ht2
    exact ⟨_, _, _, rfl, rfl, a1, a2, _, _, rfl, a3⟩
  · obtain ⟨v, v2, rfl, p⟩ := p
    obtain ⟨ts, e1, e2, e3, e4⟩ := fill_end r2_mono hD p
    have S6 := S5.trans e3
    refine ⟨_, rfl, _, rfl, _, rfl, _, rfl, (by show 4 ≤ sizeLine; decide), fun a ha => q _ ⟨x, n, b, ts, e⟩ _ ⟨hn1, hn3, hx1, hx10, lb, le, ?_, all_of e2⟩ rfl ((stepStp hs).lay (S6.dom _ ha) S6) ?_⟩
    · show ts.length = x.length
      omega
    · have up : Same (new H A) (new H (upd A a (.lst [.str x, vb, .ref D, ve]))) := new_same (same_upd ha)
      have k56 : Stp s H4 A := k5.trans e3
      exact ⟨a, vb, .ref D, ve, rfl, new_at (S6.dom _ ha) upd_same, lm _ _ _ _ (Same.trans (k56.new hsn) up) rb4, ld_mono r2_mono _ _ _ _ (Same.trans (new_dom S5.dom) up) e4, lm _ _ _ _ (Same.trans (k56.new hsn) up) re4⟩
end SD

/-! ## SL5 -/
set_option maxHeartbeats 4000000
namespace SD
open PySem PySem.Spec PyProof.Rows L2 SR
variable {P : Program} {w : World} {K : PySem.W.Frag} {mg : Str → Option Value} {base : Heap}
theorem lm1 : Mono (Ld Ri) := ld_mono ri_mono
abbrev R3i : Rl (List (List (List Int))) := Ld R2i
theorem r3_mono : Mono R3i := ld_mono r2_mono
theorem atI_lt {α : Type} {xs : List α} {i : Int} (h1 : -(xs.length : Int) ≤ i) (h2 : i < xs.length) : ∃ (j : Nat) (h : j < xs.length), atI xs i = some xs[j] := by
  unfold atI ixN
  by_cases h0 : 0 ≤ i
  · rw [if_pos h0, if_pos h2]
    exact ⟨i.toNat, by omega, by simp⟩
  · rw [if_neg h0, if_pos h1]
    exact ⟨(i + xs.length).toNat, by omega, by simp⟩
theorem atI_ints {ms : List Int} {i : Int} (h1 : -(ms.length : Int) ≤ i) (h2 : i < ms.length) : ∃ m : Int, atI (ms.map V.int) i = some (V.int m) := by
  obtain ⟨j, hj, e⟩ := atI_lt (xs := ms.map V.int) (i := i) (by simpa using h1) (by simpa using h2)
  exact ⟨ms[j]'(by simpa using hj), by rw [e]; simp⟩
abbrev nRaised : List Str := ["_law_world_here", "_law_more", "_law_asks_here", "_law_begins", "_law_costs", "_law_ends", "_law_found", "_law_k", "_law_line", "_law_price"]
def spRaised : Sp := fun vs H Q _ => ∃ (v v2 : V) (W : Wt) (ms : List Int), vs = [v, v2] ∧ WdOk W ∧ Wd H v W ∧ Ld Ri H v2 ms ∧ ms.length = W.x.length + 2 ∧ ∀ v' W' H', WdOk W' → W'.x = W.x → Same H H' → Wd (new H H') v' W' → Q v' H'
theorem scRaised : FnScope nRaised ["_law_world_here", "_law_more"] (defScope (top 68)) := ⟨rfl, rfl, rfl, by decide +kernel, rfl, by decide +kernel, by decide +kernel⟩
theorem ok_raised (T : Tx K mg) : FnOk P w K mg base CX0 1 T.raised.f T.raised.fd ["_law_world_here", "_law_more"] spRaised := by
  refine okF T.raised.F scRaised (fun vs H Q E h => ?_) fun cdv A outer s H vs Q E hr h => ?_
  · obtain ⟨_, _, _, _, rfl, _⟩ := h
    rfl
  obtain ⟨v, v2, W, ms, rfl, ok, hW, hm, lm, q⟩ := h
  have nd := scRaised.nd
  refine ⟨_, (pss_cons (ps_asg (pv 0) (pg_unl rfl (pgs_cons (pg_name (i := 2) nd rfl (Or.inl rfl)) (pgs_cons (pg_name (i := 3) nd rfl (Or.inl rfl)) (pgs_cons (pg_name (i := 4) nd rfl (Or.inl rfl)) (pgs_cons (pg_name (i := 5) nd rfl (Or.inl rfl)) pgs_nil))))))
    (pss_cons (ps_set (i := 6) nd rfl (Or.inl rfl) (pe_lst pa_nil))
    (pss_cons (ps_for PassesOwn.never rfl (pi_range1 rfl T.nrange (pa_cons (pe_callB call_len_str rfl T.nlen boot_len (pa_cons (pv 2) pa_nil)) pa_nil)) (pg_name (i := 7) nd rfl (Or.inr rfl))
      (pss_one (ps_expr (pe_bm PySem.F.plainAttrs_list PySem.F.slot_list_append PySem.F.type_list_append mt_append (pv 6) (pa_cons (pe_lc (own := [("_law_line", 8)]) (g := (gName 8)) (te := (tLc (iList K (tVar 8)) (gName 9) tYes (tOp (rI0 fun i j => .int (i + j)) (tVar 9) (tOp (rIxL K) (tVar 1) (tVar 7))) [9])) (by rfl) nd (pi_list (pe_ix ix_list (pv 4) (pv 7) (fun _ _ => rfl))) (blkOk_by (by kernel_rfl)) (fun _ _ _ _ _ => (pg_name (i := 8) nd rfl (Or.inl rfl))) (fun _ _ _ _ _ => pts_nil) (fun _ _ _ _ _ => (pe_lc (own := [("_law_price", 9)]) (g := (gName 9)) (te := (tOp (rI0 fun i j => .int (i + j)) (tVar 9) (tOp (rIxL K) (tVar 1) (tVar 7)))) (by rfl) nd (pi_list (pv 8)) (blkOk_by (by kernel_rfl)) (fun _ _ _ _ _ => (pg_name (i := 9) nd rfl (Or.inl rfl))) (fun _ _ _ _ _ => pts_nil) (fun _ _ _ _ _ => (pe_op op_add (pv 9) (pe_ix ix_list (pv 1) (pv 7) (fun _ _ => rfl))))))) pa_nil)))))
    (pss_one (ps_ret (pe_lst (pa_cons (pv 2) (pa_cons (pe_lc (own := [("_law_price", 9)]) (g := (gName 9)) (te := (tOp (rI0 fun i j => .int (i + j)) (tVar 9) (tOp (rIxL K) (tVar 1) (tUn (rU fun i => .int (-i)) (tC (.int 1)))))) (by rfl) nd (pi_list (pv 3)) (blkOk_by (by kernel_rfl)) (fun _ _ _ _ _ => (pg_name (i := 9) nd rfl (Or.inl rfl))) (fun _ _ _ _ _ => pts_nil) (fun _ _ _ _ _ => (pe_op op_add (pv 9) (pe_ix ix_list (pv 1) (pe_un un_neg pe_int) (fun _ _ => rfl))))) (pa_cons (pv 6) (pa_cons (pe_lc (own := [("_law_price", 9)]) (g := (gName 9)) (te := (tOp (rI0 fun i j => .int (i - j)) (tVar 9) (tOp (rIxL K) (tVar 1) (tUn (rU fun i => .int (-i)) (tC (.int 2)))))) (by rfl) nd (pi_list (pv 5)) (blkOk_by (by kernel_rfl)) (fun _ _ _ _ _ => (pg_name (i := 9) nd rfl (Or.inl rfl))) (fun _ _ _ _ _ => pts_nil) (fun _ _ _ _ _ => (pe_op op_sub (pv 9) (pe_ix ix_list (pv 1) (pe_un un_neg pe_int) (fun _ _ => rfl))))) pa_nil)))))))))), ?_⟩
  obtain ⟨a, vb, vc, ve, rfl, ha, hb, hc, he⟩ := hW
  obtain ⟨b, rfl, hms⟩ := ld_ints.mp hm
  obtain ⟨n1, n3, x1, x10, lb, le, lc, cs⟩ := ok
  refine ⟨_, rfl, a, _, rfl, SqL.of ha, rfl, _, _, rfl, _, _, rfl, _, _, rfl, _, _, rfl, rfl, (by show 0 ≤ sizeLine; decide), fun D hD => ?_⟩
  have sk := stepSame H
  obtain ⟨pc, cvs, rfl, hcc, pr⟩ := hc
  have lcv : cvs.length = W.x.length := by rw [paired_len pr, lc]
  refine ⟨_, rfl, W.x, rfl, by rw [sizeLine_eq]; omega, _, rfl, by omega, by omega, for_range (lo := 0) (n := ((W.x.length : Nat) : Int).toNat) (fun i σ A => ∃ v, σ = [some (.ref a), some (.ref b), some (.str W.x), some vb, some (.ref pc), some ve, some (.ref D), v, none, none] ∧ Fill R2i Same H D (fun _ t => Sqr W.n t) i A)
    ⟨_, rfl, fill_0 sk hD⟩ (fun i σ A hi p => ?_) (fun σ A p => ?_)⟩
  · obtain ⟨v, rfl, p⟩ := p
    obtain ⟨ys, hys⟩ := fill_at p
    have hA := fill_S p
    have hi2 : i < W.x.length := by omega
    have ecv : cvs[i]? = some (cvs[i]'(by omega)) := List.getElem?_eq_getElem (by omega)
    obtain ⟨t, et, rt⟩ := paired_at pr ecv
    have ht : Sqr W.n t := cs t (List.mem_of_getElem? et)
    obtain ⟨pt, tvs, ept, hpt, prt⟩ := rt
    have ltv : tvs.length = W.n := by rw [paired_len prt, ht.1]
    refine ⟨_, rfl, .inl ⟨rfl, _, SqL.of hys⟩, _, rfl, _, rfl, pc, _, _, _, rfl, rfl, SqL.of (hA _ _ hcc), (by rw [show (0 : Int) + (i : Int) = ((i : Nat) : Int) by omega]; exact atI_nat ecv), pt, ept, ⟨_, SqL.of (hA _ _ hpt)⟩, fun D2 hD2 => lc_gen lm1 (stepSame A) walk_list (fun B hB => SqL.of (hB _ _ (hA _ _ hpt))) (by omega) hD2 (fun _ l => l.length = W.n) (fun j x B B' Q2 Z hj hB hy k2 => ?_) fun H' ts e1 e2 e3 e4 => ?_⟩
    · obtain ⟨rfl, ex⟩ := hy
      obtain ⟨l, el, rl⟩ := paired_at prt ex
      have ll := ht.2 l (List.mem_of_getElem? el)
      obtain ⟨c, rfl, hcl⟩ := ld_ints.mp rl
      have hcl2 := hB _ _ (hA _ _ hcl)
      refine ⟨rfl, yes ⟨_, rfl, c, rfl, ⟨_, SqL.of hcl2⟩, fun D3 hD3 => lc_gen ri_mono (stepSame B') walk_list (fun C hC => SqL.of (hC _ _ hcl2)) (by rw [List.length_map]; omega) hD3 (fun _ _ => True) (fun j2 y C C' Q3 Z3 hj2 hC hy3 k3 => ?_) fun H' ts e1 e2 e3 e4 => k2 _ ts H' e3 e4 (by rw [e1, List.length_map]; exact ll)⟩⟩
      obtain ⟨rfl, ey⟩ := hy3
      obtain ⟨p1, _, rfl⟩ := Option.map_eq_some_iff.mp (by rw [← List.getElem?_map]; exact ey)
      obtain ⟨m, em⟩ := atI_ints (ms := ms) (i := 0 + (i : Int)) (by omega) (by omega)
      exact ⟨rfl, yes ⟨_, rfl, _, rfl, _, rfl, b, _, _, _, rfl, rfl, SqL.of (hC _ _ (hB _ _ (hA _ _ hms))), em, _, _, rfl, rfl, k3 _ _ _ (Same.refl _) rfl True.intro⟩⟩
    · obtain ⟨acc, a1, a2, a3⟩ := fill_step r2_mono sk hD (by omega) p e3 e4 ⟨by show ts.length = W.n; omega, all_of e2⟩
      exact ⟨_, _, _, rfl, rfl, a1, a2, _, rfl, a3⟩
  · obtain ⟨v, rfl, p⟩ := p
    obtain ⟨cs', c1, c2, c3, c4⟩ := fill_end r2_mono hD p
    obtain ⟨pb, rfl, hpb⟩ := ld_ints.mp hb
    obtain ⟨pe, rfl, hpe⟩ := ld_ints.mp he
    refine ⟨_, rfl, _, rfl, pb, rfl, ⟨_, SqL.of (c3 _ _ hpb)⟩, fun D2 hD2 => lc_gen ri_mono (stepSame A) walk_list (fun C hC => SqL.of (hC _ _ (c3 _ _ hpb))) (by rw [List.length_map]; omega) hD2 (fun _ _ => True) (fun j2 y C C' Q3 Z3 hj2 hC hy3 k3 => ?_) fun A2 bs b1 b2 b3 b4 => ?_⟩
    · obtain ⟨rfl, ey⟩ := hy3
      obtain ⟨p1, _, rfl⟩ := Option.map_eq_some_iff.mp (by rw [← List.getElem?_map]; exact ey)
      obtain ⟨m, em⟩ := atI_ints (ms := ms) (i := -1) (by omega) (by omega)
      exact ⟨rfl, yes ⟨_, rfl, _, rfl, _, rfl, b, _, _, _, rfl, rfl, SqL.of (hC _ _ (c3 _ _ hms)), em, _, _, rfl, rfl, k3 _ _ _ (Same.refl _) rfl True.intro⟩⟩
    refine ⟨_, rfl, _, rfl, pe, rfl, ⟨_, SqL.of (b3 _ _ (c3 _ _ hpe))⟩, fun D3 hD3 => lc_gen ri_mono (stepSame A2) walk_list (fun C hC => SqL.of (hC _ _ (b3 _ _ (c3 _ _ hpe)))) (by rw [List.length_map]; omega) hD3 (fun _ _ => True) (fun j2 y C C' Q3 Z3 hj2 hC hy3 k3 => ?_) fun A3 es d1 d2 d3 d4 => ?_⟩
    · obtain ⟨rfl, ey⟩ := hy3
      obtain ⟨p1, _, rfl⟩ := Option.map_eq_some_iff.mp (by rw [← List.getElem?_map]; exact ey)
      obtain ⟨m, em⟩ := atI_ints (ms := ms) (i := -2) (by omega) (by omega)
      exact ⟨rfl, yes ⟨_, rfl, _, rfl, _, rfl, b, _, _, _, rfl, rfl, SqL.of (hC _ _ (b3 _ _ (c3 _ _ hms))), em, _, _, rfl, rfl, k3 _ _ _ (Same.refl _) rfl True.intro⟩⟩
    refine ⟨(by show 4 ≤ sizeLine; decide), fun r hr => ?_⟩
    have s3 : Same H A3 := Same.trans c3 (Same.trans b3 d3)
    have s4 : Same A3 (upd A3 r (.lst [.str W.x, .ref D2, .ref D, .ref D3])) := same_upd hr
    refine q _ ⟨W.x, W.n, bs, cs', es⟩ _ ⟨n1, n3, x1, x10, ?_, ?_, ?_, all_of c2⟩ rfl (Same.trans s3 s4) ⟨r, .ref D2, .ref D, .ref D3, rfl, new_at (Dom.of s3 _ hr) upd_same, ?_, ?_, ?_⟩
    · show bs.length = W.n
      rw [b1, List.length_map, lb]
    · show es.length = W.n
      rw [d1, List.length_map, le]
    · show cs'.length = W.x.length
      omega
    · exact lm1 _ _ _ _ (Same.trans (new_dom (Dom.of c3)) (new_same (Same.trans d3 s4))) b4
    · exact r3_mono _ _ _ _ (new_same (Same.trans b3 (Same.trans d3 s4))) c4
    · exact lm1 _ _ _ _ (Same.trans (new_dom (Dom.of (Same.trans c3 b3))) (new_same s4)) d4
end SD

/-! ## SL6 -/
set_option maxHeartbeats 4000000
namespace SD
open PySem PySem.Spec PyProof.Rows L2 SR
variable {P : Program} {w : World} {K : PySem.W.Frag} {mg : Str → Option Value} {base : Heap}
def spMoved : Sp := fun vs H Q _ => ∃ (s : Addr) (v : V) (W : Wt) (G : Hp), vs = [.ref s, v] ∧ Src H s ∧ WdOk W ∧ Same G H ∧ G s = none ∧ Wd G v W ∧
  ∀ v' W' H' G', WdOk W' → W'.x = W.x → Stp s H H' → Same G' H' → (∀ b u, H b = some u → G b = none → G' b = none) → Wd G' v' W' → Q v' H'
theorem scMoved : FnScope ["_law_source_here", "_law_world_here", "_law_more", "_law_k", "_law_number"] ["_law_source_here", "_law_world_here"] (defScope (top 69)) := ⟨rfl, rfl, rfl, by decide +kernel, rfl, by decide +kernel, by decide +kernel⟩
theorem ok_moved (T : Tx K mg) : FnOk P w K mg base CX0 2 T.moved.f T.moved.fd ["_law_source_here", "_law_world_here"] spMoved := by
  refine okF T.moved.F scMoved (fun vs H Q E h => ?_) fun cdv A outer s H vs Q E hr h => ?_
  · obtain ⟨_, _, _, _, rfl, _⟩ := h
    rfl
  obtain ⟨s, v, W, G, rfl, hs, ok, sG, nG, hW, q⟩ := h
  have nd := scMoved.nd
  refine ⟨_, (pss_cons (ps_if (pt_cmpR op_eq (pe_f T.draw (ok_draw T) (hr.mono (by decide)) (pa_cons (pv 0) (pa_cons pe_int pa_nil))) pe_int (nomark _)) (pss_one (ps_ret (pv 1))) pss_nil)
    (pss_cons (ps_setLc (i := 2) (own := [("_law_k", 3)]) (g := (gName 3)) (te := (tOp (rI0 fun i j => .int (i - j)) (tCall spDraw [] E0 (tCons (tVar 0) (tCons (tC (.int 9)) tNil))) (tC (.int 4)))) (by rfl) nd rfl rfl (sw_true rfl rfl rfl (by decide +kernel)) (pi_range1 rfl T.nrange (pa_cons (pe_op op_add (pe_callB call_len_str rfl T.nlen boot_len (pa_cons (pe_ix ix_list (pv 1) pe_int (fun _ _ => rfl)) pa_nil)) pe_int) pa_nil)) (blkOk_by (by kernel_rfl)) (fun _ _ _ _ _ => (pg_name (i := 3) nd rfl (Or.inl rfl))) (fun _ _ _ _ _ => pts_nil) (fun _ _ _ _ _ => (pe_op op_sub (pe_f T.draw (ok_draw T) (hr.mono (by decide)) (pa_cons (pv 0) (pa_cons pe_int pa_nil))) pe_int)))
    (C8.pss_cut (ps_if (pt_cmpR op_eq (pe_f T.draw (ok_draw T) (hr.mono (by decide)) (pa_cons (pv 0) (pa_cons pe_int pa_nil))) pe_int (nomark _)) (pss_one (ps_setLc (i := 2) (own := [("_law_number", 4)]) (g := (gName 4)) (te := (tOp (rI CMul fun i j => .int (i * j)) (tVar 4) (tOp (rI CPow fun i j => .int (i ^ j.toNat)) (tC (.int 10)) (tC (.int 15))))) (by rfl) nd rfl rfl (sw_true rfl rfl rfl (by decide +kernel)) (pi_list (pv 2)) (blkOk_by (by kernel_rfl)) (fun _ _ _ _ _ => (pg_name (i := 4) nd rfl (Or.inl rfl))) (fun _ _ _ _ _ => pts_nil) (fun _ _ _ _ _ => (pe_op op_mul (pv 4) (pe_op op_pow pe_int pe_int))))) pss_nil)
    (pss_one (ps_ret (pe_f T.raised (ok_raised T) (hr.mono (by decide)) (pa_cons (pv 1) (pa_cons (pv 2) pa_nil)))))))), ?_⟩
  refine ⟨_, rfl, s, 3, rfl, hs, by decide, by decide, fun r H1 _ _ k1 => ⟨rfl, _, rfl, ite2 (fun _ => ?_) (fun _ => ?_)⟩⟩
  · exact ⟨_, rfl, q v W H1 G ok rfl k1 (k1.x.at sG nG) (fun b u _ e => e) hW⟩
  obtain ⟨a, vb, vc, ve, rfl, ha, hrest⟩ := id hW
  have hx10 := ok.x10
  have hG1 : ∀ {A}, Stp s H A → Same G A := fun k => k.x.at sG nG
  refine ⟨_, rfl, a, _, _, _, rfl, rfl, SqL.of (hG1 k1 _ _ ha), rfl, W.x, rfl, by rw [sizeLine_eq]; omega, _, _, rfl, rfl, _, rfl, by omega, by omega, fun D hD => lc_gen ri_mono (stepStp k1.s) walk_range (fun _ _ => True.intro) (by omega) hD (fun _ _ => True) (fun i x A A' Q' Z hi hA hy k => ?_) fun H2 ms e1 _ e3 e4 => ?_⟩
  · obtain ⟨rfl, rfl⟩ := hy
    exact ⟨rfl, yes ⟨_, rfl, s, 9, rfl, hA.s, by decide, by decide, fun r B r1 r2 kB => ⟨_, _, rfl, rfl, k _ _ B kB rfl True.intro⟩⟩⟩
  refine ⟨fun σ' A => ∃ vm ms, σ' = [some (.ref s), some (.ref a), some vm, none, none] ∧ ms.length = W.x.length + 2 ∧ Stp s H A ∧ Ld Ri (new H A) vm ms, ?_, ?_⟩
  · have lm : ms.length = W.x.length + 2 := by omega
    have rm : Ld Ri (new H H2) (.ref D) ms := lm1 _ _ _ _ (new_dom k1.dom) e4
    refine ⟨_, rfl, s, 8, rfl, e3.s, by decide, by decide, fun r H3 _ _ k3 => ⟨rfl, _, rfl, ite2 (fun _ => ?_) (fun _ => ⟨_, ms, rfl, lm, k1.trans (e3.trans k3), lm1 _ _ _ _ (k3.new hs.some) rm⟩)⟩⟩
    obtain ⟨a', ea, hDm⟩ := ld_ints.mp (lm1 _ _ _ _ (Same.trans (k3.new hs.some) (new_sub H H3)) rm)
    cases ea
    refine ⟨_, rfl, D, rfl, ⟨_, SqL.of hDm⟩, fun D2 hD2 => lc_gen ri_mono (stepSame H3) walk_list (fun C hC => SqL.of (hC _ _ hDm)) (by rw [List.length_map]; omega) hD2 (fun _ _ => True) (fun j2 y C C' Q3 Z3 hj2 hC hy3 k3 => ?_) fun A2 bs b1 b2 b3 b4 => ?_⟩
    · obtain ⟨rfl, ey⟩ := hy3
      obtain ⟨p1, _, rfl⟩ := Option.map_eq_some_iff.mp (by rw [← List.getElem?_map]; exact ey)
      exact ⟨rfl, yes ⟨_, rfl, _, _, rfl, rfl, ⟨by decide, by decide, by decide⟩, _, _, rfl, rfl, .inr ⟨by decide, by decide⟩, k3 _ _ _ (Same.refl _) rfl True.intro⟩⟩
    · have S3 : Stp s H H3 := k1.trans (e3.trans k3)
      exact ⟨_, bs, rfl, by rw [b1, List.length_map]; exact lm, S3.trans (Stp.of S3.s b3), lm1 _ _ _ _ (new_dom S3.dom) b4⟩
  · rintro σ' A ⟨vm, ms, rfl, lm, k, rm⟩
    refine ⟨_, rfl, _, rfl, _, _, W, ms, rfl, ok, wd_mono _ _ _ _ (hG1 k) hW, lm1 _ _ _ _ (new_sub _ _) rm, lm, fun v' W' H' ok' ex k' hW' => q v' W' H' (new A H') ok' ex (k.trans (Stp.of k.s k')) (new_sub _ _) (fun b u hb _ => ?_) hW'⟩
    cases hA : A b with
    | some o => exact new_none hA
    | none =>
      have z := k.dom b hA
      rw [hb] at z; cases z
/-! ### scaled -/
theorem ints_at {ns : List Int} {i : Nat} {y : V} (h : (ns.map V.int)[i]? = some y) : ∃ n : Int, ns[i]? = some n ∧ y = .int n := by
  rw [List.getElem?_map] at h
  obtain ⟨n, e, rfl⟩ := Option.map_eq_some_iff.mp h
  exact ⟨n, e, rfl⟩
def spScaled : Sp := fun vs H Q _ => ∃ (v : V) (W : Wt), vs = [v, .int 7] ∧ WdOk W ∧ Wd H v W ∧ ∀ v' W' H', WdOk W' → W'.x = W.x → Same H H' → Wd (new H H') v' W' → Q v' H'
abbrev nScaled : List Str := ["_law_world_here", "_law_times", "_law_asks_here", "_law_begins", "_law_costs", "_law_ends", "_law_found", "_law_table", "_law_line", "_law_price"]
theorem scScaled : FnScope nScaled ["_law_world_here", "_law_times"] (defScope (top 70)) := ⟨rfl, rfl, rfl, by decide +kernel, rfl, by decide +kernel, by decide +kernel⟩
theorem ok_scaled (T : Tx K mg) : FnOk P w K mg base CX0 1 T.scaled.f T.scaled.fd ["_law_world_here", "_law_times"] spScaled := by
  refine okF T.scaled.F scScaled (fun vs H Q E h => ?_) fun cdv A outer s H vs Q E hr h => ?_
  · obtain ⟨_, _, rfl, _⟩ := h
    rfl
  obtain ⟨v, W, rfl, ok, hW, q⟩ := h
  have nd := scScaled.nd
  refine ⟨_, (pss_cons (ps_asg (pv 0) (pg_unl rfl (pgs_cons (pg_name (i := 2) nd rfl (Or.inl rfl)) (pgs_cons (pg_name (i := 3) nd rfl (Or.inl rfl)) (pgs_cons (pg_name (i := 4) nd rfl (Or.inl rfl)) (pgs_cons (pg_name (i := 5) nd rfl (Or.inl rfl)) pgs_nil))))))
    (pss_cons (ps_setLc (i := 6) (own := [("_law_table", 7)]) (g := (gName 7)) (te := (tLc (iList K (tVar 7)) (gName 8) tYes (tLc (iList K (tVar 8)) (gName 9) tYes (tOp (rI CMul fun i j => .int (i * j)) (tVar 1) (tVar 9)) [9]) [8])) (by rfl) nd rfl rfl (sw_true rfl rfl rfl (by decide +kernel)) (pi_list (pv 4)) (blkOk_by (by kernel_rfl)) (fun _ _ _ _ _ => (pg_name (i := 7) nd rfl (Or.inl rfl))) (fun _ _ _ _ _ => pts_nil) (fun _ _ _ _ _ => (pe_lc (own := [("_law_line", 8)]) (g := (gName 8)) (te := (tLc (iList K (tVar 8)) (gName 9) tYes (tOp (rI CMul fun i j => .int (i * j)) (tVar 1) (tVar 9)) [9])) (by rfl) nd (pi_list (pv 7)) (blkOk_by (by kernel_rfl)) (fun _ _ _ _ _ => (pg_name (i := 8) nd rfl (Or.inl rfl))) (fun _ _ _ _ _ => pts_nil) (fun _ _ _ _ _ => (pe_lc (own := [("_law_price", 9)]) (g := (gName 9)) (te := (tOp (rI CMul fun i j => .int (i * j)) (tVar 1) (tVar 9))) (by rfl) nd (pi_list (pv 8)) (blkOk_by (by kernel_rfl)) (fun _ _ _ _ _ => (pg_name (i := 9) nd rfl (Or.inl rfl))) (fun _ _ _ _ _ => pts_nil) (fun _ _ _ _ _ => (pe_op op_mul (pv 1) (pv 9))))))))
    (pss_one (ps_ret (pe_lst (pa_cons (pv 2) (pa_cons (pe_lc (own := [("_law_price", 9)]) (g := (gName 9)) (te := (tOp (rI CMul fun i j => .int (i * j)) (tVar 1) (tVar 9))) (by rfl) nd (pi_list (pv 3)) (blkOk_by (by kernel_rfl)) (fun _ _ _ _ _ => (pg_name (i := 9) nd rfl (Or.inl rfl))) (fun _ _ _ _ _ => pts_nil) (fun _ _ _ _ _ => (pe_op op_mul (pv 1) (pv 9)))) (pa_cons (pv 6) (pa_cons (pe_lc (own := [("_law_price", 9)]) (g := (gName 9)) (te := (tOp (rI CMul fun i j => .int (i * j)) (tVar 1) (tVar 9))) (by rfl) nd (pi_list (pv 5)) (blkOk_by (by kernel_rfl)) (fun _ _ _ _ _ => (pg_name (i := 9) nd rfl (Or.inl rfl))) (fun _ _ _ _ _ => pts_nil) (fun _ _ _ _ _ => (pe_op op_mul (pv 1) (pv 9)))) pa_nil))))))))), ?_⟩
  obtain ⟨a, vb, vc, ve, rfl, ha, hb, hc, he⟩ := hW
  obtain ⟨n1, n3, x1, x10, lb, le, lc, cs⟩ := ok
  obtain ⟨pc, cvs, rfl, hcc, pr⟩ := hc
  obtain ⟨pb, rfl, hpb⟩ := ld_ints.mp hb
  obtain ⟨pe, rfl, hpe⟩ := ld_ints.mp he
  have lcv : cvs.length = W.x.length := by rw [paired_len pr, lc]
  have seven : CMul 7 0 := .inl ⟨by decide, by decide⟩
  refine ⟨_, rfl, a, _, rfl, SqL.of ha, rfl, _, _, rfl, _, _, rfl, _, _, rfl, _, _, rfl, rfl, _, rfl, pc, rfl, ⟨_, SqL.of hcc⟩, fun D hD => lc_gen r2_mono (stepSame H) walk_list (fun B hB => SqL.of (hB _ _ hcc)) (by omega) hD (fun _ t => Sqr W.n t) (fun i x A A' Q1 Z1 hi hA hy k1 => ?_) fun A c' e1 e2 e3 e4 => ?_⟩
  · obtain ⟨rfl, ex⟩ := hy
    obtain ⟨t, et, rt⟩ := paired_at pr ex
    have ht : Sqr W.n t := cs t (List.mem_of_getElem? et)
    obtain ⟨pt, tvs, rfl, hpt, prt⟩ := rt
    have ltv : tvs.length = W.n := by rw [paired_len prt, ht.1]
    have hpt2 := hA _ _ hpt
    refine ⟨rfl, yes ⟨_, rfl, pt, rfl, ⟨_, SqL.of hpt2⟩, fun D2 hD2 => lc_gen lm1 (stepSame A') walk_list (fun B hB => SqL.of (hB _ _ hpt2)) (by omega) hD2 (fun _ l => l.length = W.n) (fun j x B B' Q2 Z hj hB hy k2 => ?_) fun H' ts e1 e2 e3 e4 => k1 _ ts H' e3 e4 ⟨by omega, all_of e2⟩⟩⟩
    obtain ⟨rfl, ex⟩ := hy
    obtain ⟨l, el, rl⟩ := paired_at prt ex
    have ll := ht.2 l (List.mem_of_getElem? el)
    obtain ⟨c, rfl, hcl⟩ := ld_ints.mp rl
    have hcl2 := hB _ _ (hA _ _ hcl)
    refine ⟨rfl, yes ⟨_, rfl, c, rfl, ⟨_, SqL.of hcl2⟩, fun D3 hD3 => lc_gen ri_mono (stepSame B') walk_list (fun C hC => SqL.of (hC _ _ hcl2)) (by rw [List.length_map]; omega) hD3 (fun _ _ => True) (fun j2 y C C' Q3 Z3 hj2 hC hy3 k3 => ?_) fun H' ts e1 e2 e3 e4 => k2 _ ts H' e3 e4 (by rw [e1, List.length_map]; exact ll)⟩⟩
    obtain ⟨rfl, ey⟩ := hy3
    obtain ⟨p1, _, rfl⟩ := ints_at ey
    exact ⟨rfl, yes ⟨_, rfl, _, rfl, _, _, rfl, rfl, .inl ⟨by decide, by decide⟩, k3 _ _ _ (Same.refl _) rfl True.intro⟩⟩
  · refine ⟨_, rfl, _, rfl, pb, rfl, ⟨_, SqL.of (e3 _ _ hpb)⟩, fun D2 hD2 => lc_gen ri_mono (stepSame A) walk_list (fun C hC => SqL.of (hC _ _ (e3 _ _ hpb))) (by rw [List.length_map]; omega) hD2 (fun _ _ => True) (fun j2 y C C' Q3 Z3 hj2 hC hy3 k3 => ?_) fun A2 bs b1 b2 b3 b4 => ?_⟩
    · obtain ⟨rfl, ey⟩ := hy3
      obtain ⟨p1, _, rfl⟩ := ints_at ey
      exact ⟨rfl, yes ⟨_, rfl, _, rfl, _, _, rfl, rfl, .inl ⟨by decide, by decide⟩, k3 _ _ _ (Same.refl _) rfl True.intro⟩⟩
    refine ⟨_, rfl, _, rfl, pe, rfl, ⟨_, SqL.of (b3 _ _ (e3 _ _ hpe))⟩, fun D3 hD3 => lc_gen ri_mono (stepSame A2) walk_list (fun C hC => SqL.of (hC _ _ (b3 _ _ (e3 _ _ hpe)))) (by rw [List.length_map]; omega) hD3 (fun _ _ => True) (fun j2 y C C' Q3 Z3 hj2 hC hy3 k3 => ?_) fun A3 es d1 d2 d3 d4 => ?_⟩
    · obtain ⟨rfl, ey⟩ := hy3
      obtain ⟨p1, _, rfl⟩ := ints_at ey
      exact ⟨rfl, yes ⟨_, rfl, _, rfl, _, _, rfl, rfl, .inl ⟨by decide, by decide⟩, k3 _ _ _ (Same.refl _) rfl True.intro⟩⟩
    refine ⟨(by show 4 ≤ sizeLine; decide), fun r hr => ?_⟩
    have s3 : Same H A3 := Same.trans e3 (Same.trans b3 d3)
    have s4 : Same A3 (upd A3 r (.lst [.str W.x, .ref D2, .ref D, .ref D3])) := same_upd hr
    refine q _ ⟨W.x, W.n, bs, c', es⟩ _ ⟨n1, n3, x1, x10, ?_, ?_, ?_, all_of e2⟩ rfl (Same.trans s3 s4) ⟨r, .ref D2, .ref D, .ref D3, rfl, new_at (Dom.of s3 _ hr) upd_same, ?_, ?_, ?_⟩
    · show bs.length = W.n
      rw [b1, List.length_map, lb]
    · show es.length = W.n
      rw [d1, List.length_map, le]
    · show c'.length = W.x.length
      omega
    · exact lm1 _ _ _ _ (Same.trans (new_dom (Dom.of e3)) (new_same (Same.trans d3 s4))) b4
    · exact r3_mono _ _ _ _ (new_same (Same.trans b3 (Same.trans d3 s4))) e4
    · exact lm1 _ _ _ _ (Same.trans (new_dom (Dom.of (Same.trans e3 b3))) (new_same s4)) d4
/-! ### lists -/
theorem ext_of {α : Type} {ts l : List α} (h : ts.length = l.length) (k : ∀ (i : Nat) z, ts[i]? = some z → l[i]? = some z) : ts = l := by
  apply List.ext_getElem? fun i => ?_
  cases e : ts[i]? with
  | some z => exact (k i z e).symm
  | none =>
    have := List.getElem?_eq_none_iff.mp e
    exact (List.getElem?_eq_none_iff.mpr (by omega)).symm
def spLists : Sp := fun vs H Q _ => ∃ (v : V) (W : Wt), vs = [v] ∧ WdOk W ∧ Wd H v W ∧ ∀ v' H', Same H H' → Wd (new H H') v' W → Q v' H'
theorem scLists : FnScope ["_law_world_here", "_law_costs", "_law_table", "_law_line"] ["_law_world_here"] (defScope (top 71)) := ⟨rfl, rfl, rfl, by decide +kernel, rfl, by decide +kernel, by decide +kernel⟩
def rListOf (K : PySem.W.Frag) : List V → Hp → VK → Prop := fun xs H Q => ∃ p ys, xs = [.ref p] ∧ (SqL K H p ys ∨ SqT K H p ys) ∧ ∀ l, H l = none → Q (.ref l) (upd H l (.lst ys))
theorem ok_lists (T : Tx K mg) : FnOk P w K mg base CX0 1 T.lists.f T.lists.fd ["_law_world_here"] spLists := by
  refine okF T.lists.F scLists (fun vs H Q E h => ?_) fun cdv A outer s H vs Q E hr h => ?_
  · obtain ⟨_, _, rfl, _⟩ := h
    rfl
  obtain ⟨v, W, rfl, ok, hW, q⟩ := h
  have nd := scLists.nd
  refine ⟨_, (pss_cons (ps_setLc (i := 1) (own := [("_law_table", 2)]) (g := (gName 2)) (te := (tLc (iList K (tVar 2)) (gName 3) tYes (tCB (rListOf K) (tCons (tVar 3) tNil)) [3])) (by rfl) nd rfl rfl (sw_true rfl rfl rfl (by decide +kernel)) (pi_list (pe_ix ix_list (pv 0) pe_int (fun _ _ => rfl))) (blkOk_by (by kernel_rfl)) (fun _ _ _ _ _ => (pg_name (i := 2) nd rfl (Or.inl rfl))) (fun _ _ _ _ _ => pts_nil) (fun _ _ _ _ _ => (pe_lc (own := [("_law_line", 3)]) (g := (gName 3)) (te := (tCB (rListOf K) (tCons (tVar 3) tNil))) (by rfl) nd (pi_list (pv 2)) (blkOk_by (by kernel_rfl)) (fun _ _ _ _ _ => (pg_name (i := 3) nd rfl (Or.inl rfl))) (fun _ _ _ _ _ => pts_nil) (fun _ _ _ _ _ => (pe_callTy call_list_of rfl T.nlist boot_list (pa_cons (pv 3) pa_nil))))))
    (pss_one (ps_ret (pe_lst (pa_cons (pe_ix ix_list (pv 0) pe_int (fun _ _ => rfl)) (pa_cons (pe_callTy call_list_of rfl T.nlist boot_list (pa_cons (pe_ix ix_list (pv 0) pe_int (fun _ _ => rfl)) pa_nil)) (pa_cons (pv 1) (pa_cons (pe_callTy call_list_of rfl T.nlist boot_list (pa_cons (pe_ix ix_list (pv 0) pe_int (fun _ _ => rfl)) pa_nil)) pa_nil)))))))), ?_⟩
  obtain ⟨a, vb, vc, ve, rfl, ha, hb, hc, he⟩ := hW
  obtain ⟨n1, n3, x1, x10, lb, le, lc, cs⟩ := ok
  obtain ⟨pc, cvs, rfl, hcc, pr⟩ := hc
  obtain ⟨pb, rfl, hpb⟩ := ld_ints.mp hb
  obtain ⟨pe, rfl, hpe⟩ := ld_ints.mp he
  have lcv : cvs.length = W.c.length := paired_len pr
  refine ⟨_, rfl, a, _, _, _, rfl, rfl, SqL.of ha, rfl, pc, rfl, ⟨_, SqL.of hcc⟩, fun D hD => lc_gen r2_mono (stepSame H) walk_list (fun B hB => SqL.of (hB _ _ hcc)) (by omega) hD (fun i t => W.c[i]? = some t) (fun i x A A' Q1 Z1 hi hA hy k1 => ?_) fun A c' e1 e2 e3 e4 => ?_⟩
  · obtain ⟨rfl, ex⟩ := hy
    obtain ⟨t, et, rt⟩ := paired_at pr ex
    have ht : Sqr W.n t := cs t (List.mem_of_getElem? et)
    obtain ⟨pt, tvs, rfl, hpt, prt⟩ := rt
    have ltv : tvs.length = W.n := by rw [paired_len prt, ht.1]
    have hpt2 := hA _ _ hpt
    refine ⟨rfl, yes ⟨_, rfl, pt, rfl, ⟨_, SqL.of hpt2⟩, fun D2 hD2 => lc_gen lm1 (stepSame A') walk_list (fun B hB => SqL.of (hB _ _ hpt2)) (by omega) hD2 (fun j l => t[j]? = some l) (fun j x B B' Q2 Z hj hB hy k2 => ?_) fun H' ts e1 e2 e3 e4 => k1 _ ts H' e3 e4 (by rw [ext_of (l := t) (by rw [e1, ltv, ht.1]) e2]; exact et)⟩⟩
    obtain ⟨rfl, ex⟩ := hy
    obtain ⟨l, el, rl⟩ := paired_at prt ex
    obtain ⟨c, rfl, hcl⟩ := ld_ints.mp rl
    exact ⟨rfl, yes ⟨_, rfl, c, _, rfl, .inl (SqL.of (hB _ _ (hA _ _ hcl))), fun p hp => k2 _ l _ (same_upd hp) (ld_ints.mpr ⟨p, rfl, new_at hp upd_same⟩) el⟩⟩
  · have ec : c' = W.c := ext_of (by rw [e1, lcv]) e2
    subst ec
    refine ⟨_, rfl, a, _, _, _, rfl, rfl, SqL.of (e3 _ _ ha), rfl, _, rfl, a, _, _, _, rfl, rfl, SqL.of (e3 _ _ ha), rfl, pb, _, rfl, .inl (SqL.of (e3 _ _ hpb)), fun p hp => ?_⟩
    have s1 : Same A (upd A p (.lst (W.b.map V.int))) := same_upd hp
    refine ⟨_, rfl, _, rfl, a, _, _, _, rfl, rfl, SqL.of (s1 _ _ (e3 _ _ ha)), rfl, pe, _, rfl, .inl (SqL.of (s1 _ _ (e3 _ _ hpe))), fun p2 hp2 => ⟨(by show 4 ≤ sizeLine; decide), fun r hr => ?_⟩⟩
    have s2 := same_upd (o := .lst (W.e.map V.int)) hp2
    have s3 := same_upd (o := .lst [.str W.x, .ref p, .ref D, .ref p2]) hr
    have s23 := Same.trans s2 s3
    refine q _ _ (Same.trans e3 (Same.trans s1 s23)) ⟨r, .ref p, .ref D, .ref p2, rfl, new_at (Dom.of (Same.trans e3 (Same.trans s1 s2)) _ hr) upd_same, ld_ints.mpr ⟨p, rfl, new_at (Dom.of e3 _ hp) (s23 _ _ upd_same)⟩, ?_, ld_ints.mpr ⟨p2, rfl, new_at (Dom.of (Same.trans e3 s1) _ hp2) (s3 _ _ upd_same)⟩⟩
    exact r3_mono _ _ _ _ (new_same (Same.trans s1 s23)) e4
end SD

/-! ## SL7 -/
set_option maxHeartbeats 4000000
namespace SD
open PySem PySem.Spec PyProof.Rows L2 SR
variable {P : Program} {w : World} {K : PySem.W.Frag} {mg : Str → Option Value} {base : Heap}
/-! ### led, low -/
theorem map_at (w : List Int) {i : Nat} (h : i < w.length) : atI (w.map V.int) (0 + (i : Int)) = some (.int (w.getD i 0)) := by
  rw [show (0 : Int) + (i : Int) = ((i : Nat) : Int) by omega]
  refine atI_nat ?_
  rw [List.getElem?_map, List.getElem?_eq_getElem h, List.getD_eq_getElem?_getD, List.getElem?_eq_getElem h]
  rfl
theorem getD_at {α : Type} {l : List α} {d z : α} {i : Nat} (h : l[i]? = some z) : l.getD i d = z := by
  rw [List.getD_eq_getElem?_getD, h]; rfl
theorem range_ext {α : Type} {ts : List α} {n : Nat} {f : Nat → α} (h : ts.length = n) (k : ∀ (i : Nat) z, ts[i]? = some z → z = f i) : ts = (List.range n).map f := by
  refine ext_of (by simp [h]) fun i z e => ?_
  have hi := (List.getElem?_eq_some_iff.mp e).1
  rw [List.getElem?_map, List.getElem?_range (by omega), k i z e]
  rfl
def spLled : Sp := fun vs H Q _ => ∃ (v v2 : V) (w : List Int) (tb : List (List Int)), vs = [v, v2] ∧ 1 ≤ w.length ∧ w.length ≤ 1000 ∧ Sqr w.length tb ∧ Sd Ri H v w ∧ R2i H v2 tb ∧ ∀ v' H', Same H H' → Ld Ri (new H H') v' (SM.led w tb) → Q v' H'
abbrev nLled : List Str := ["_law_line", "_law_table", "_law_many", "_law_t", "_law_s"]
theorem scLled : FnScope nLled ["_law_line", "_law_table"] (defScope (top 72)) := ⟨rfl, rfl, rfl, by decide +kernel, rfl, by decide +kernel, by decide +kernel⟩
theorem ok_lled (T : Tx K mg) : FnOk P w K mg base CX0 1 T.lled.f T.lled.fd ["_law_line", "_law_table"] spLled := by
  refine okF T.lled.F scLled (fun vs H Q E h => ?_) fun cdv A outer s H vs Q E hr h => ?_
  · obtain ⟨_, _, _, _, rfl, _⟩ := h
    rfl
  obtain ⟨v, v2, w, tb, rfl, h1, h2, hq, hv, hv2, q⟩ := h
  have nd := scLled.nd
  refine ⟨_, (pss_cons (ps_set (i := 2) nd rfl (Or.inr rfl) (pe_callB call_len_seq rfl T.nlen boot_len (pa_cons (pv 0) pa_nil)))
    (pss_one (ps_ret (pe_lc (own := [("_law_t", 3)]) (g := (gName 3)) (te := (tCB (rMinA K) (tCons (tLc (iRng1 (tCons (tVar 2) tNil)) (gName 4) tYes (tOp (rI0 fun i j => .int (i + j)) (tOp (rIx K) (tVar 0) (tVar 4)) (tOp (rIxL K) (tOp (rIxL K) (tVar 1) (tVar 4)) (tVar 3))) [4]) tNil))) (by rfl) nd (pi_range1 rfl T.nrange (pa_cons (pv 2) pa_nil)) (blkOk_by (by kernel_rfl)) (fun _ _ _ _ _ => (pg_name (i := 3) nd rfl (Or.inr rfl))) (fun _ _ _ _ _ => pts_nil) (fun _ _ _ _ _ => (pe_callB (cr_minA (.inl rfl)) rfl T.nmin boot_min (pa_cons (pe_lc (own := [("_law_s", 4)]) (g := (gName 4)) (te := (tOp (rI0 fun i j => .int (i + j)) (tOp (rIx K) (tVar 0) (tVar 4)) (tOp (rIxL K) (tOp (rIxL K) (tVar 1) (tVar 4)) (tVar 3)))) (by rfl) nd (pi_range1 rfl T.nrange (pa_cons (pv 2) pa_nil)) (blkOk_by (by kernel_rfl)) (fun _ _ _ _ _ => (pg_name (i := 4) nd rfl (Or.inl rfl))) (fun _ _ _ _ _ => pts_nil) (fun _ _ _ _ _ => (pe_op op_add (pe_ix ix_seq (pv 0) (pv 4) (fun _ _ => rfl)) (pe_ix ix_list (pe_ix ix_list (pv 1) (pv 4) (fun _ _ => rfl)) (pv 3) (fun _ _ => rfl))))) pa_nil))))))), ?_⟩
  obtain ⟨a, vs, rfl, ha, pr⟩ := hv
  rw [ri_iff pr] at ha
  obtain ⟨b, tvs, rfl, hb, prt⟩ := hv2
  have seq : ∀ {A : Hp}, Same H A → SqL K A a (w.map V.int) ∨ SqT K A a (w.map V.int) := fun k => ha.imp (fun e => SqL.of (k _ _ e)) (fun e => SqT.of (k _ _ e))
  refine ⟨_, rfl, a, _, rfl, seq (Same.refl H), _, rfl, _, rfl, by rw [List.length_map]; omega, by rw [List.length_map]; omega, fun D hD => lc_gen ri_mono (stepSame H) walk_range (fun _ _ => True.intro) (by rw [List.length_map]; omega) hD (fun t z => z = SM.ledAt w tb t) (fun t x A A' Q1 Z1 ht hA hy k1 => ?_) fun H' ts e1 e2 e3 e4 => ?_⟩
  · obtain ⟨rfl, rfl⟩ := hy
    rw [List.length_map] at ht
    have ht2 : t < w.length := by omega
    refine ⟨rfl, yes ⟨_, rfl, _, rfl, by rw [List.length_map]; omega, by rw [List.length_map]; omega, fun D2 hD2 => lc_gen ri_mono (stepSame A') walk_range (fun _ _ => True.intro) (by rw [List.length_map]; omega) hD2 (fun j z => z = w.getD j 0 + (tb.getD j []).getD t 0) (fun j x B B' Q2 Z2 hj hB hy k2 => ?_) fun H' ts e1 e2 e3 e4 => ?_⟩⟩
    · obtain ⟨rfl, rfl⟩ := hy
      rw [List.length_map] at hj
      have hj2 : j < w.length := by omega
      have etv : tvs[j]? = some (tvs[j]'(by rw [paired_len prt, hq.1]; exact hj2)) := List.getElem?_eq_getElem _
      obtain ⟨l, el, rl⟩ := paired_at prt etv
      have ll := hq.2 l (List.mem_of_getElem? el)
      obtain ⟨c, ec, hc⟩ := ld_ints.mp rl
      have hAB : Same H B' := Same.trans hA hB
      have i1 : rIx K (.ref a) (.int (0 + (j : Int))) B' fun z H2 => z = .int (w.getD j 0) ∧ H2 = B' := by
        rcases seq hAB with h | h
        · exact .inl ⟨a, _, _, _, rfl, rfl, h, map_at w hj2, rfl, rfl⟩
        · exact .inr (.inl ⟨a, _, _, _, rfl, rfl, h, map_at w hj2, rfl, rfl⟩)
      have fin : tOp (rIxL K) (tOp (rIxL K) (tVar 1) (tVar 4)) (tVar 3) [some (.ref a), some (.ref b), some (.int ((w.map V.int).length : Nat)), some (.int (0 + (t : Int))), some (.int (0 + (j : Int)))] B' fun z H2 => z = .int ((tb.getD j []).getD t 0) ∧ H2 = B' := by
        refine ⟨_, rfl, _, rfl, b, _, _, _, rfl, rfl, SqL.of (hAB _ _ hb), ?_, _, rfl, c, _, _, _, ec, rfl, SqL.of (hAB _ _ hc), map_at l (by omega), ?_, rfl⟩
        · rw [show (0 : Int) + (j : Int) = ((j : Nat) : Int) by omega]
          exact atI_nat etv
        · rw [getD_at (d := []) el]
      refine ⟨rfl, yes ⟨_, rfl, _, rfl, ?_⟩⟩
      have go : ∀ z1 H1, z1 = V.int (w.getD j 0) ∧ H1 = B' → tOp (rIxL K) (tOp (rIxL K) (tVar 1) (tVar 4)) (tVar 3) [some (.ref a), some (.ref b), some (.int ((w.map V.int).length : Nat)), some (.int (0 + (t : Int))), some (.int (0 + (j : Int)))] H1 fun y H2 => rI0 (fun i j => .int (i + j)) z1 y H2 Q2 := by
        rintro z1 H1 ⟨rfl, rfl⟩
        obtain ⟨_, z1, _, z2, p1, x1, y1, u1, z3, z4, z5, z6, _, z7, p2, x2, y2, u2, z8, z9, z10, z11, z12, z13⟩ := fin
        exact ⟨_, z1, _, z2, p1, x1, y1, u1, z3, z4, z5, z6, _, z7, p2, x2, y2, u2, z8, z9, z10, z11, _, _, rfl, z12, k2 _ _ _ (by rw [z13]; exact Same.refl _) rfl rfl⟩
      rcases i1 with ⟨p, xs, i, z, e1, e2, e3, e4, e5⟩ | ⟨p, xs, i, z, e1, e2, e3, e4, e5⟩ | ⟨_, _, _, e1, _⟩
      · exact .inl ⟨p, xs, i, z, e1, e2, e3, e4, go z _ e5⟩
      · exact .inr (.inl ⟨p, xs, i, z, e1, e2, e3, e4, go z _ e5⟩)
      · cases e1
    · obtain ⟨p, ep, hp⟩ := ld_ints.mp e4
      have lt : ts.length = w.length := by rw [e1, List.length_map]; omega
      have et : ts = (List.range w.length).map fun s => w.getD s 0 + (tb.getD s []).getD t 0 := range_ext lt e2
      refine ⟨p, ts, by rw [ep], .inl (SqL.of (new_sub _ _ _ _ hp)), by omega, fun m hm hle => k1 _ m _ e3 rfl ?_⟩
      rw [SM.minL_uniq hm hle, et]
      rfl
  · have et : ts = SM.led w tb := range_ext (by rw [e1, List.length_map]; omega) e2
    rw [et] at e4
    exact q _ _ e3 e4
def spLlow : Sp := fun vs H Q _ => ∃ (v : V) (w : List Int), vs = [v] ∧ 1 ≤ w.length ∧ w.length ≤ 1000 ∧ Ld Ri H v w ∧ ∀ v' H', Same H H' → Td Ri (new H H') v' (SM.low w) → Q v' H'
theorem scLlow : FnScope ["_law_line", "_law_low_here", "_law_x"] ["_law_line"] (defScope (top 74)) := ⟨rfl, rfl, rfl, by decide +kernel, rfl, by decide +kernel, by decide +kernel⟩
theorem ok_llow (T : Tx K mg) : FnOk P w K mg base CX0 1 T.llow.f T.llow.fd ["_law_line"] spLlow := by
  refine okF T.llow.F scLlow (fun vs H Q E h => ?_) fun cdv A outer s H vs Q E hr h => ?_
  · obtain ⟨_, _, rfl, _⟩ := h
    rfl
  obtain ⟨v, w, rfl, h1, h2, hv, q⟩ := h
  have nd := scLlow.nd
  refine ⟨_, (pss_cons (ps_set (i := 1) nd rfl (Or.inr rfl) (pe_callB (cr_minA (.inl rfl)) rfl T.nmin boot_min (pa_cons (pv 0) pa_nil)))
    (pss_one (ps_ret (pe_callTy call_tuple_of rfl T.ntup boot_tuple (pa_cons (pe_lc (own := [("_law_x", 2)]) (g := (gName 2)) (te := (tOp (rI0 fun i j => .int (i - j)) (tVar 2) (tVar 1))) (by rfl) nd (pi_list (pv 0)) (blkOk_by (by kernel_rfl)) (fun _ _ _ _ _ => (pg_name (i := 2) nd rfl (Or.inl rfl))) (fun _ _ _ _ _ => pts_nil) (fun _ _ _ _ _ => (pe_op op_sub (pv 2) (pv 1)))) pa_nil))))), ?_⟩
  obtain ⟨a, rfl, ha⟩ := ld_ints.mp hv
  refine ⟨_, rfl, a, w, rfl, .inl (SqL.of ha), by omega, fun m hm hle => ⟨_, rfl, a, rfl, ⟨_, SqL.of ha⟩, fun D hD => lc_gen ri_mono (stepSame H) walk_list (fun A k => SqL.of (k _ _ ha)) (by rw [List.length_map]; omega) hD (fun i z => (SM.low w)[i]? = some z) (fun i x A A' Q1 Z1 ht hA hy k1 => ?_) fun H' ts e1 e2 e3 e4 => ?_⟩⟩
  · obtain ⟨rfl, ex⟩ := hy
    obtain ⟨n, en, rfl⟩ := ints_at ex
    refine ⟨rfl, yes ⟨_, rfl, _, rfl, _, _, rfl, rfl, k1 _ _ _ (Same.refl _) rfl ?_⟩⟩
    unfold SM.low
    rw [List.getElem?_map, en, ← SM.minL_uniq hm hle]
    rfl
  · have et : ts = SM.low w := ext_of (by rw [e1, SM.low_length, List.length_map]) e2
    obtain ⟨p, ep, hp⟩ := ld_ints.mp e4
    refine ⟨p, _, by rw [ep], .inl ⟨SqL.of (new_sub _ _ _ _ hp), fun l hl => q _ _ (Same.trans e3 (same_upd hl)) (td_ints.mpr ⟨l, rfl, ?_⟩)⟩⟩
    rw [← et]
    exact new_at (Dom.of e3 _ hl) upd_same
/-! ### a row's letters, the work behind a row -/
def Lets (x r : Str) (ks : List Nat) : Prop := (∀ k ∈ ks, k < x.length) ∧ r.cps = (ks.map fun k => x.cps.getD k 0).toArray
theorem ask_find : ∀ x ∈ asksL, ∀ k, k < x.length → Txt.find x ⟨#[x.cps.getD k 0]⟩ = (k : Int) := by decide +kernel
theorem ask_len : ∀ x ∈ asksL, 1 ≤ x.length ∧ x.length ≤ 10 := by decide +kernel
theorem Lets.at {x r : Str} {ks : List Nat} (h : Lets x r ks) {i c : Nat} (e : r.cps[i]? = some c) : ∃ k, ks[i]? = some k ∧ k < x.length ∧ c = x.cps.getD k 0 := by
  rw [h.2] at e
  have e2 : (ks.map fun k => x.cps.getD k 0)[i]? = some c := by simpa using e
  rw [List.getElem?_map] at e2
  obtain ⟨k, ek, rfl⟩ := Option.map_eq_some_iff.mp e2
  exact ⟨k, ek, h.1 k (List.mem_of_getElem? ek), rfl⟩
theorem Lets.size {x r : Str} {ks : List Nat} (h : Lets x r ks) : r.cps.size = ks.length := by rw [h.2]; simp
/-- the table behind the ask k -/
def tbs (W : Wt) (k : Nat) : List (List Int) := W.c.getD k []
theorem WdOk.tb {W : Wt} (h : WdOk W) {k : Nat} (hk : k < W.x.length) : Sqr W.n (tbs W k) := by
  have e : W.c[k]? = some (W.c[k]'(by rw [h.c]; exact hk)) := List.getElem?_eq_getElem _
  unfold tbs
  rw [getD_at e]
  exact h.cs _ (List.mem_of_getElem? e)
def spWork : Sp := fun vs H Q _ => ∃ (v : V) (W : Wt) (r : Str) (ks : List Nat), vs = [v, .str r] ∧ WdOk W ∧ W.x ∈ asksL ∧ Wd H v W ∧ Lets W.x r ks ∧ ∀ v' H', Same H H' → Ld Ri (new H H') v' (SM.work (tbs W) W.b ks) → Q v' H'
theorem scWork : FnScope ["_law_world_here", "_law_row_here", "_law_line", "_law_letter"] ["_law_world_here", "_law_row_here"] (defScope (top 73)) := ⟨rfl, rfl, rfl, by decide +kernel, rfl, by decide +kernel, by decide +kernel⟩
theorem take_snoc {α : Type} {l : List α} {i : Nat} {x : α} (h : l[i]? = some x) : l.take (i + 1) = l.take i ++ [x] := by
  rw [List.take_succ, h]; rfl
theorem ok_work (T : Tx K mg) : FnOk P w K mg base CX0 2 T.work.f T.work.fd ["_law_world_here", "_law_row_here"] spWork := by
  refine okF T.work.F scWork (fun vs H Q E h => ?_) fun cdv A outer s H vs Q E hr h => ?_
  · obtain ⟨_, _, _, _, rfl, _⟩ := h
    rfl
  obtain ⟨v, W, r, ks, rfl, ok, hx, hW, hl, q⟩ := h
  have nd := scWork.nd
  refine ⟨_, (pss_cons (ps_set (i := 2) nd rfl (Or.inl rfl) (pe_callTy call_list_of rfl T.nlist boot_list (pa_cons (pe_ix ix_list (pv 0) pe_int (fun _ _ => rfl)) pa_nil)))
    (pss_cons (ps_for PassesOwn.never rfl (pi_str (pv 1)) (pg_name (i := 3) nd rfl (Or.inl rfl))
      (pss_one (ps_set (i := 2) nd rfl (Or.inl rfl) (pe_f T.lled (ok_lled T) (hr.mono (by decide)) (pa_cons (pv 2) (pa_cons (pe_ix ix_list (pe_ix ix_list (pv 0) pe_int (fun _ _ => rfl)) (pe_m1 PySem.F.slot_str_find PySem.F.type_str_find mt_find (pe_ix ix_list (pv 0) pe_int (fun _ _ => rfl)) (pv 3)) (fun _ _ => rfl)) pa_nil))))))
    (pss_one (ps_ret (pv 2))))), ?_⟩
  obtain ⟨a, vb, vc, ve, rfl, ha, hb, hc, he⟩ := hW
  obtain ⟨pb, rfl, hpb⟩ := ld_ints.mp hb
  obtain ⟨pc, cvs, rfl, hpc, prc⟩ := hc
  refine ⟨_, rfl, a, _, _, _, rfl, rfl, SqL.of ha, rfl, pb, _, rfl, .inl (SqL.of hpb), fun D hD => ?_⟩
  refine ⟨_, rfl, r, rfl, for_it walk_str (fun i σ A => ∃ vl v3, σ = [some (.ref a), some (.str r), some vl, v3] ∧ Same H A ∧ Ld Ri (new H A) vl (SM.work (tbs W) W.b (ks.take i)))
    ⟨_, _, rfl, same_upd hD, ld_ints.mpr ⟨D, rfl, new_at hD upd_same⟩⟩ (fun _ _ _ _ _ => True.intro) (fun i x σ A A' hi p y => ?_) (fun σ A p => ?_)⟩
  · obtain ⟨vl, v3, rfl, sA, rl⟩ := p
    obtain ⟨rfl, c, ec, rfl⟩ := y
    obtain ⟨k, ek, hk, rfl⟩ := hl.at ec
    have hcv : cvs[k]? = some (cvs[k]'(by rw [paired_len prc, ok.c]; exact hk)) := List.getElem?_eq_getElem _
    obtain ⟨t, et, rt⟩ := paired_at prc hcv
    have etb : tbs W k = t := getD_at et
    have lw : (SM.work (tbs W) W.b (ks.take i)).length = W.n := by rw [SM.work_length, ok.b]
    have n1 := ok.n1
    have n3 := ok.n3
    refine ⟨_, rfl, _, rfl, a, _, _, _, rfl, rfl, SqL.of (sA _ _ ha), rfl, _, rfl, a, _, _, _, rfl, rfl, SqL.of (sA _ _ ha), rfl, ⟨_, rfl⟩, _, rfl, _, _, rfl, rfl, pc, cvs, _, cvs[k]'(by rw [paired_len prc, ok.c]; exact hk), rfl, rfl, SqL.of (sA _ _ hpc), ?_, vl, _, SM.work (tbs W) W.b (ks.take i), t, rfl, by rw [lw]; omega, by rw [lw]; omega, ?_, ?_, r2_mono _ _ _ _ sA rt, fun v' A2 s2 r2 => ⟨_, _, rfl, Same.trans sA s2, ?_⟩⟩
    · rw [ask_find _ hx k hk]
      exact atI_nat hcv
    · rw [lw, ← etb]
      exact ok.tb hk
    · exact ld_sd (R := Ri) (fun _ _ _ h => h) _ _ _ (lm1 _ _ _ _ (new_sub _ _) rl)
    · rw [take_snoc ek, SM.work_snoc, etb]
      exact lm1 _ _ _ _ (new_dom (Dom.of sA)) r2
  · obtain ⟨vl, v3, rfl, sA, rl⟩ := p
    rw [hl.size, List.take_length] at rl
    exact ⟨_, rfl, q _ _ sA rl⟩
end SD

/-! ## SV -/
set_option maxHeartbeats 4000000
namespace SD
open PySem PySem.Spec PyProof.Rows L2 SR
/-! ### what stands but for the objects of M -/
def hid (M : List Addr) (A : Hp) : Hp := fun b => if b ∈ M then none else A b
/-- M's may change -/
def StM (M : List Addr) (A B : Hp) : Prop := ∀ b o, b ∉ M → A b = some o → B b = some o
section
variable {M : List Addr} {A B C H : Hp} {I : Addr} {o : HO}
theorem stm_of (h : Same A B) : StM M A B := fun b o _ e => h b o e
theorem StM.trans (h : StM M A B) (k : StM M B C) : StM M A C := fun b o n e => k b o n (h b o n e)
theorem stm_upd (h : I ∈ M) : StM M A (upd A I o) := fun b u n e => by rw [upd_ne (fun z => n (by rw [z]; exact h))]; exact e
theorem hid_sub (M : List Addr) (A : Hp) : Same (hid M A) A := fun b o e => by
  unfold hid at e
  split at e
  · cases e
  · exact e
theorem hid_at {b : Addr} (h : b ∉ M) (e : A b = some o) : hid M A b = some o := by
  unfold hid
  rw [if_neg h]; exact e
theorem hid_step (h : StM M A B) : Same (hid M (new H A)) (hid M (new H B)) := fun b o e => by
  unfold hid new at e ⊢
  split at e
  · cases e
  · rename_i n
    rw [if_neg n]
    split at e
    · rename_i n2
      rw [if_pos n2]
      exact h b o n e
    · cases e
theorem hid_more (hI : A I = none) : Same (hid M (new H A)) (hid (I :: M) (new H A)) := fun b o e => by
  unfold hid new at e ⊢
  split at e
  · cases e
  · rename_i n
    split at e
    · rename_i n2
      rw [if_neg (fun z => by
        rcases List.mem_cons.mp z with z | z
        · rw [z, hI] at e; cases e
        · exact n z), if_pos n2]
      exact e
    · cases e
theorem hid_less : Same (hid (I :: M) A) (hid M A) := fun b o e => by
  unfold hid at e ⊢
  split at e
  · cases e
  · rename_i n
    rw [if_neg (fun z => n (List.mem_cons_of_mem _ z))]
    exact e
/-- what a callee made -/
theorem hid_new (hd : Dom H A) (hM : ∀ b ∈ M, ∃ u, A b = some u) : Same (new A B) (hid M (new H B)) := fun b o e => by
  unfold new at e
  split at e
  · rename_i n
    unfold hid new
    rw [if_neg (fun z => by obtain ⟨u, hu⟩ := hM b z; rw [n] at hu; cases hu), if_pos (hd b n)]
    exact e
  · cases e
theorem stm_at (hM : ∀ b ∈ M, ∃ u, A b = some u) (h : StM M A B) (hB : ∀ b ∈ M, ∃ u, B b = some u) : Dom A B := fun b e => by
  cases q : A b with
  | none => rfl
  | some o =>
    by_cases hb : b ∈ M
    · obtain ⟨u, hu⟩ := hB b hb
      rw [e] at hu; cases hu
    · rw [h b o hb q] at e; cases e
end
/-! ### the dict of places -/
def Dic (A : Hp) (d : Addr) (lots : List (List Int)) : Prop :=
  ∃ kvs : List (List Key × V), A d = some (.dT kvs) ∧ kvs.length = lots.length ∧ ∀ k : List Int, valV kvs (k.map Sum.inl) = if k ∈ lots then some (.int (lots.idxOf k : Nat)) else none
theorem inl_inj {k l : List Int} (h : k.map (Sum.inl : Int → Key) = l.map Sum.inl) : k = l := by
  have := congrArg (List.map fun z : Key => match z with | .inl i => i | .inr _ => 0) h
  simpa [List.map_map, Function.comp_def] using this
theorem inl_kV (k : List Int) : (k.map (Sum.inl : Int → Key)).map kV = k.map V.int := by
  rw [List.map_map]; rfl
theorem idx_snoc {lots : List (List Int)} {a : List Int} (h : a ∉ lots) : (lots ++ [a]).idxOf a = lots.length := by
  rw [List.idxOf_append, if_neg h]
  simp
theorem idx_old {lots : List (List Int)} {a k : List Int} (h : k ∈ lots) : (lots ++ [a]).idxOf k = lots.idxOf k := by
  rw [List.idxOf_append, if_pos h]
theorem dic_put {kvs : List (List Key × V)} {lots : List (List Int)} {a : List Int} (hl : kvs.length = lots.length) (hk : ∀ k : List Int, valV kvs (k.map Sum.inl) = if k ∈ lots then some (.int (lots.idxOf k : Nat)) else none) (ha : a ∉ lots) :
    (putK kvs (a.map Sum.inl) (.int (lots.length : Nat))).length = (lots ++ [a]).length ∧ ∀ k : List Int, valV (putK kvs (a.map Sum.inl) (.int (lots.length : Nat))) (k.map Sum.inl) = if k ∈ lots ++ [a] then some (.int ((lots ++ [a]).idxOf k : Nat)) else none := by
  constructor
  · have hn : (kvs.any fun kv => decide (kv.1 = a.map Sum.inl)) = false := by
      rw [valV_any, hk a, if_neg ha]; rfl
    unfold putK
    rw [hn, if_neg Bool.false_ne_true, List.length_append, List.length_append, hl]
    rfl
  · intro k
    rw [valV_put]
    by_cases e : k = a
    · subst e
      rw [if_pos rfl, if_pos (by simp), idx_snoc ha]
    · rw [if_neg (fun z => e (inl_inj z)), hk k]
      by_cases m : k ∈ lots
      · rw [if_pos m, if_pos (List.mem_append_left _ m), idx_old m]
      · rw [if_neg m, if_neg (by simp [m, e])]
theorem dic_1 {A : Hp} {d : Addr} {a : List Int} (e : A d = some (.dT (putK [] (a.map Sum.inl) (.int 0)))) : Dic A d [a] := by
  have h := dic_put (kvs := []) (lots := []) (a := a) rfl (fun k => by rw [valV_nil]; simp) (by simp)
  exact ⟨_, e, h.1, h.2⟩
theorem put_idx {R : Type} (s : SM.IS R) (a : List Int) (e : R) (c : Int) : (SM.put s a e c).items = s.items ++ [((SM.put s a e c).lots.idxOf a, c)] ∧ a ∈ (SM.put s a e c).lots := by
  unfold SM.put
  split
  · rename_i h
    exact ⟨rfl, h⟩
  · rename_i h
    refine ⟨?_, by simp⟩
    show _ = s.items ++ [((s.lots ++ [a]).idxOf a, c)]
    rw [idx_snoc h]
/-! ### the search as it lies in the heap -/
def Rs : Rl Str := fun _ v x => v = .str x
theorem rs_mono : Mono Rs := fun _ _ _ _ _ h => h
def Rp : Rl (Nat × Int) := fun G v p => ∃ t, v = .ref t ∧ G t = some (.tup [.int (p.1 : Nat), .int p.2])
theorem rp_mono : Mono Rp := fun _ _ _ _ k ⟨t, e, g⟩ => ⟨t, e, k _ _ g⟩
theorem rs_iff {G : Hp} {vs : List V} {ns : List Str} (h : Paired (Rs G) vs ns) : vs = ns.map V.str := by
  induction h with
  | nil => rfl
  | cons a _ ih => rw [show _ = _ from a, ih]; rfl
theorem rs_of {G : Hp} (ns : List Str) : Paired (Rs G) (ns.map V.str) ns := by
  induction ns with
  | nil => exact .nil
  | cons n r ih => exact .cons rfl ih
abbrev Rt : Rl (List Int) := Td Ri
theorem rt_mono : Mono Rt := td_mono ri_mono
/-- lots at L, rows at R, places at d; the lots' tuples in the view G -/
structure Hs (G A : Hp) (L R d : Addr) (lots : List (List Int)) (rows : List Str) : Prop where
  l : ∃ lvs, A L = some (.lst lvs) ∧ Paired (Rt G) lvs lots
  r : A R = some (.lst (rows.map V.str))
  d : Dic A d lots
theorem Hs.step {G G' A B : Hp} {L R d : Addr} {lots : List (List Int)} {rows : List Str} (h : Hs G A L R d lots rows) (g : Same G G') (k : Same A B) : Hs G' B L R d lots rows := by
  obtain ⟨⟨lvs, e1, p⟩, e2, kvs, e3, e4, e5⟩ := h
  exact ⟨⟨lvs, k _ _ e1, L2.Paired.mapP p fun a b q => rt_mono _ _ a b g q⟩, k _ _ e2, kvs, k _ _ e3, e4, e5⟩
theorem Hs.mv {G G' A B : Hp} {L R d : Addr} {lots : List (List Int)} {rows : List Str} (h : Hs G A L R d lots rows) (g : Same G G') (hL : B L = A L) (hR : B R = A R) (hd : B d = A d) : Hs G' B L R d lots rows := by
  obtain ⟨⟨lvs, e1, p⟩, e2, kvs, e3, e4, e5⟩ := h
  exact ⟨⟨lvs, by rw [hL]; exact e1, L2.Paired.mapP p fun a b q => rt_mono _ _ a b g q⟩, by rw [hR]; exact e2, kvs, by rw [hd]; exact e3, e4, e5⟩
end SD

/-! ## SL8 -/
set_option maxHeartbeats 4000000
namespace SD
open PySem PySem.Spec PyProof.Rows L2 SR
variable {P : Program} {w : World} {K : PySem.W.Frag} {mg : Str → Option Value} {base : Heap}
def extS (x : Str) (row : Str) (k : Nat) : Str := row ++ ⟨#[x.cps.getD k 0]⟩
def DW (W : Wt) : SM.DD Str := SM.DL Str W.x.length (tbs W) (extS W.x)
def b0 (W : Wt) : SM.BS Str := ⟨[SM.low W.b], [""], []⟩
def stW (W : Wt) (i : Nat) : SM.BS Str := SM.st (DW W) (b0 W) i
theorem app_len (a b : Str) : (a ++ b).length = a.length + b.length := by
  show (a.cps ++ b.cps).size = _
  exact Array.size_append
theorem ext_len (x row : Str) (k : Nat) : (extS x row k).length = row.length + 1 := by
  unfold extS
  rw [app_len]; rfl
section
variable {W : Wt}
theorem stW_len (i : Nat) : (stW W i).rows.length = (stW W i).lots.length := SM.st_rows (b0 W) rfl i
theorem stW_n (ok : WdOk W) (i : Nat) : ∀ lot ∈ (stW W i).lots, lot.length = W.n :=
  SM.st_all (P := fun l => l.length = W.n) (b0 W) (fun l hl => by rw [List.mem_singleton.mp hl, SM.low_length, ok.b]) (fun lot k h => by show (SM.low (SM.led lot (tbs W k))).length = W.n; rw [SM.low_length, SM.led_length, h]) i
theorem inn_rows {D : SM.DD Str} {lot : List Int} {row : Str} {s : SM.BS Str} : ∀ k, ∀ r ∈ (SM.inn D lot row s k).rows, r ∈ s.rows ∨ ∃ j, r = D.ext row j
  | 0, r, h => .inl h
  | k + 1, r, h => by
    have h : r ∈ (SM.put (SM.inn D lot row s k) (D.nxt k lot) (D.ext row k) (D.add k lot)).rows := h
    unfold SM.put at h
    split at h
    · exact inn_rows k r h
    · rcases List.mem_append.mp h with h | h
      · exact inn_rows k r h
      · exact .inr ⟨k, List.mem_singleton.mp h⟩
theorem stW_row : ∀ (i : Nat), ∀ r ∈ (stW W i).rows, r.length ≤ i
  | 0, r, h => by
    have h : r ∈ ([""] : List Str) := h
    rw [List.mem_singleton.mp h]
    exact Nat.zero_le _
  | i + 1, r, h => by
    have h : r ∈ (SM.turn (DW W) (stW W i) i).rows := h
    unfold SM.turn at h
    split at h
    · rename_i lot row e1 e2
      rcases inn_rows _ r h with h | ⟨j, rfl⟩
      · have := stW_row i r h; omega
      · have := stW_row i row (List.mem_of_getElem? e2)
        show (extS W.x row j).length ≤ _
        rw [ext_len]; omega
    · have := stW_row i r h; omega
/-- as long as it goes on, there are as many as turns -/
theorem stW_le {i : Nat} (h : ∀ j, j < i → j < (stW W j).lots.length) : i ≤ (stW W i).lots.length := by
  cases i with
  | zero => exact Nat.zero_le _
  | succ j => exact Nat.le_trans (h j (Nat.lt_succ_self j)) (SM.st_le (b0 W) (Nat.le_succ j))
theorem inn_le {D : SM.DD Str} {lot : List Int} {row : Str} {s : SM.BS Str} : ∀ k, (SM.inn D lot row s k).lots.length ≤ s.lots.length + k
  | 0 => Nat.le_refl _
  | k + 1 => Nat.le_trans (SM.put_le _ _ _ _) (by have := @inn_le D lot row s k; omega)
theorem stW_max (ok : WdOk W) : ∀ i, (stW W i).lots.length ≤ 1 + 10 * i
  | 0 => Nat.le_refl _
  | i + 1 => by
    have ih := stW_max ok i
    show (SM.turn (DW W) (stW W i) i).lots.length ≤ _
    unfold SM.turn
    split
    · rename_i lot row _ _
      have := @inn_le (DW W) lot row (stW W i) (DW W).m
      have h10 : (DW W).m ≤ 10 := ok.x10
      show (SM.inn (DW W) lot row (stW W i) (DW W).m).lots.length ≤ _
      omega
    · omega
end
/-- what the law's table tells -/
def Dues : Rl (SM.BS Str) := fun G v s => ∃ a v1 v2 v3, v = .ref a ∧ G a = some (.lst [v1, v2, v3]) ∧ Ld Rt G v1 s.lots ∧ Ld Rs G v2 s.rows ∧ Ld (Ld Rp) G v3 s.steps
theorem dues_mono : Mono Dues := fun G G' v s k ⟨a, v1, v2, v3, e, g, h1, h2, h3⟩ => ⟨a, v1, v2, v3, e, k _ _ g, ld_mono rt_mono _ _ _ _ k h1, ld_mono rs_mono _ _ _ _ k h2, ld_mono (ld_mono rp_mono) _ _ _ _ k h3⟩
def Fin (W : Wt) (N : Nat) : Prop := (∀ j, j < N → j < (stW W j).lots.length) ∧ (stW W N).lots.length = N
def spLots : Sp := fun vs H Q _ => ∃ (v : V) (W : Wt), vs = [v, .int 300] ∧ WdOk W ∧ Wd H v W ∧ (∀ H', Same H H' → Q .non H') ∧ ∀ v' H' N, N ≤ 300 → Fin W N → Same H H' → Dues (new H H') v' (stW W N) → Q v' H'
abbrev nLots : List Str := ["_law_world_here", "_law_most", "_law_asks_here", "_law_lots_here", "_law_rows", "_law_places", "_law_steps", "_law_place", "_law_items", "_law_k", "_law_after", "_law_lot"]
theorem scLots : FnScope nLots ["_law_world_here", "_law_most"] (defScope (top 75)) := ⟨rfl, rfl, rfl, by decide +kernel, rfl, by decide +kernel, by decide +kernel⟩
theorem ok_lots (T : Tx K mg) : FnOk P w K mg base CX0 2 T.lots.f T.lots.fd ["_law_world_here", "_law_most"] spLots := by
  refine okF T.lots.F scLots (fun vs H Q E h => ?_) fun cdv A outer s H vs Q E hr h => ?_
  · obtain ⟨_, _, rfl, _⟩ := h
    rfl
  obtain ⟨v, W, rfl, ok, hW, q0, q⟩ := h
  have nd := scLots.nd
  refine ⟨_, (pss_cons (ps_set (i := 2) nd rfl (Or.inl rfl) (pe_ix ix_list (pv 0) pe_int (fun _ _ => rfl)))
    (pss_cons (ps_set (i := 3) nd rfl (Or.inl rfl) (pe_lst (pa_cons (pe_f T.llow (ok_llow T) (hr.mono (by decide)) (pa_cons (pe_ix ix_list (pv 0) pe_int (fun _ _ => rfl)) pa_nil)) pa_nil)))
    (pss_cons (ps_set (i := 4) nd rfl (Or.inl rfl) (pe_lst (pa_cons pe_str pa_nil)))
    (pss_cons (ps_set (i := 5) nd rfl (Or.inl rfl) pe_dnewT)
    (pss_cons (ps_dput (hu_of hr) (pv 5) (pe_ix ix_list (pv 3) pe_int (fun _ _ => rfl)) pe_int rfl)
    (pss_cons (ps_set (i := 6) nd rfl (Or.inl rfl) (pe_lst pa_nil))
    (pss_cons (ps_for PassesOwn.never rfl (pi_range1 rfl T.nrange (pa_cons (pe_op op_add (pv 1) pe_int) pa_nil)) (pg_name (i := 7) nd rfl (Or.inl rfl))
      (pss_cons (ps_if (pt_cmpR op_eq (pv 7) (pe_callB call_len_seq rfl T.nlen boot_len (pa_cons (pv 3) pa_nil)) (nomark _)) (pss_one (ps_ret (pe_lst (pa_cons (pv 3) (pa_cons (pv 4) (pa_cons (pv 6) pa_nil)))))) pss_nil)
      (pss_cons (ps_set (i := 8) nd rfl (Or.inl rfl) (pe_lst pa_nil))
      (pss_cons (ps_for PassesOwn.never rfl (pi_range1 rfl T.nrange (pa_cons (pe_callB call_len_str rfl T.nlen boot_len (pa_cons (pv 2) pa_nil)) pa_nil)) (pg_name (i := 9) nd rfl (Or.inl rfl))
      (pss_cons (ps_set (i := 10) nd rfl (Or.inl rfl) (pe_f T.lled (ok_lled T) (hr.mono (by decide)) (pa_cons (pe_ix ix_list (pv 3) (pv 7) (fun _ _ => rfl)) (pa_cons (pe_ix ix_list (pe_ix ix_list (pv 0) pe_int (fun _ _ => rfl)) (pv 9) (fun _ _ => rfl)) pa_nil))))
      (pss_cons (ps_set (i := 11) nd rfl (Or.inl rfl) (pe_f T.llow (ok_llow T) (hr.mono (by decide)) (pa_cons (pv 10) pa_nil)))
      (C8.pss_cut (ps_if (pt_cmp (pc_dnotin (hu_of hr) (pv 11) (pv 5))) (pss_cons (ps_dput (hu_of hr) (pv 5) (pv 11) (pe_callB call_len_seq rfl T.nlen boot_len (pa_cons (pv 3) pa_nil)) rfl)
    (pss_cons (ps_expr (pe_bm PySem.F.plainAttrs_list PySem.F.slot_list_append PySem.F.type_list_append mt_append (pv 3) (pa_cons (pv 11) pa_nil)))
    (pss_one (ps_expr (pe_bm PySem.F.plainAttrs_list PySem.F.slot_list_append PySem.F.type_list_append mt_append (pv 4) (pa_cons (pe_op op_add_str (pe_ix ix_list (pv 4) (pv 7) (fun _ _ => rfl)) (pe_ix ix_str (pv 2) (pv 9) (fun _ _ => rfl))) pa_nil)))))) pss_nil)
      (pss_one (ps_expr (pe_bm PySem.F.plainAttrs_list PySem.F.slot_list_append PySem.F.type_list_append mt_append (pv 8) (pa_cons (pe_tup (pa_cons (pe_dget (hu_of hr) (pv 5) (pv 11) (fun _ _ => rfl)) (pa_cons (pe_callB (cr_minA (.inl rfl)) rfl T.nmin boot_min (pa_cons (pv 10) pa_nil)) pa_nil))) pa_nil))))))))
      (pss_one (ps_expr (pe_bm PySem.F.plainAttrs_list PySem.F.slot_list_append PySem.F.type_list_append mt_append (pv 6) (pa_cons (pv 8) pa_nil))))))))
    (pss_one (ps_ret pe_non))))))))), ?_⟩
  obtain ⟨a, vb, vc, ve, rfl, ha, hb, hc, he⟩ := hW
  have n1 := ok.n1
  have n3 := ok.n3
  have x10 := ok.x10
  refine ⟨_, rfl, a, _, _, _, rfl, rfl, SqL.of ha, rfl, ?_⟩
  refine ⟨_, rfl, a, _, _, _, rfl, rfl, SqL.of ha, rfl, _, W.b, rfl, by rw [ok.b]; omega, by rw [ok.b]; omega, hb, fun vl H1 s1 r1 => ⟨(by show 1 ≤ sizeLine; decide), fun L hL => ⟨(by show 1 ≤ sizeLine; decide), fun R hR => ?_⟩⟩⟩
  obtain ⟨p, rfl, hp0⟩ := td_ints.mp r1
  have hp : H1 p = some (.tup ((SM.low W.b).map V.int)) := new_sub _ _ _ _ hp0
  have sH2 := same_upd (o := .lst [V.ref p]) hL
  have sH3 := same_upd (o := .lst [V.str ""]) hR
  intro PD hPD
  have sH4 := same_upd (o := .dT []) hPD
  have hL3 : upd (upd (upd H1 L (.lst [V.ref p])) R (.lst [V.str ""])) PD (.dT []) L = some (.lst [V.ref p]) := sH4 _ _ (sH3 _ _ upd_same)
  have hR3 : upd (upd (upd H1 L (.lst [V.ref p])) R (.lst [V.str ""])) PD (.dT []) R = some (.lst [V.str ""]) := sH4 _ _ upd_same
  have hp3 : upd (upd (upd H1 L (.lst [V.ref p])) R (.lst [V.str ""])) PD (.dT []) p = some (.tup ((SM.low W.b).map V.int)) := sH4 _ _ (sH3 _ _ (sH2 _ _ hp))
  refine ⟨_, rfl, _, rfl, L, _, _, _, rfl, rfl, SqL.of hL3, rfl, PD, _, rfl, DPut.t (k := (SM.low W.b).map Sum.inl) upd_same (by rw [inl_kV]; exact hp3) (by rw [sizeLine_eq]; decide), (by show 0 ≤ sizeLine; decide), fun S hS => ?_⟩
  generalize eA4 : upd (upd (upd (upd H1 L (.lst [V.ref p])) R (.lst [V.str ""])) PD (.dT [])) PD (.dT (putK [] ((SM.low W.b).map Sum.inl) (V.int 0))) = A4 at hS ⊢
  have nLR : L ≠ R := fun z => by rw [← z, upd_same] at hR; cases hR
  have nPL : PD ≠ L := fun z => by
    have := sH3 _ _ (upd_same (H := H1) (a := L) (o := .lst [V.ref p]))
    rw [z, this] at hPD; cases hPD
  have nPR : PD ≠ R := fun z => by rw [z, upd_same] at hPD; cases hPD
  have A4L : A4 L = some (.lst [V.ref p]) := by rw [← eA4, upd_ne nPL.symm]; exact hL3
  have A4R : A4 R = some (.lst [V.str ""]) := by rw [← eA4, upd_ne nPR.symm]; exact hR3
  have A4D : A4 PD = some (.dT (putK [] ((SM.low W.b).map Sum.inl) (V.int 0))) := by rw [← eA4]; exact upd_same
  have HL : H L = none := Dom.of s1 _ hL
  have HR : H R = none := Dom.of (Same.trans s1 sH2) _ hR
  have HP : H PD = none := Dom.of (Same.trans s1 (Same.trans sH2 sH3)) _ hPD
  have sA4 : Same H A4 := by
    rw [← eA4]
    exact same_updr (Same.trans s1 (Same.trans sH2 (Same.trans sH3 sH4))) HP
  have A4p : A4 p = some (.tup ((SM.low W.b).map V.int)) := by
    rw [← eA4, upd_ne (ne_of hp3 upd_same (fun z => nomatch z))]
    exact hp3
  have HS : H S = none := Dom.of sA4 _ hS
  have nSL : S ≠ L := fun z => by rw [z, A4L] at hS; cases hS
  have nSR : S ≠ R := fun z => by rw [z, A4R] at hS; cases hS
  have nSP : S ≠ PD := fun z => by rw [z, A4D] at hS; cases hS
  have nSp : S ≠ p := fun z => by rw [z, A4p] at hS; cases hS
  have npL : p ≠ L := ne_of A4p A4L (fun z => nomatch z)
  have npR : p ≠ R := ne_of A4p A4R (fun z => nomatch z)
  have npP : p ≠ PD := ne_of A4p A4D (fun z => nomatch z)
  have Hp0 : H p = none := by
    cases q : H p with
    | none => rfl
    | some u => rw [new_none q] at hp0; cases hp0
  have lw : (SM.low W.b).length = W.n := by rw [SM.low_length, ok.b]
  obtain ⟨pc, cvs, rfl, hpc, prc⟩ := hc
  clear hL hR hPD
  have sS := same_upd (o := .lst []) hS
  generalize hM : [L, R, PD, S] = M
  have mL : L ∈ M := by rw [← hM]; simp
  have mR : R ∈ M := by rw [← hM]; simp
  have mP : PD ∈ M := by rw [← hM]; simp
  have mS : S ∈ M := by rw [← hM]; simp
  have mp : p ∉ M := by rw [← hM]; simp [npL, npR, npP, nSp.symm]
  have memM : ∀ b, b ∈ M → b = L ∨ b = R ∨ b = PD ∨ b = S := fun b hb => by rw [← hM] at hb; simpa using hb
  refine ⟨_, rfl, _, _, rfl, rfl, _, rfl, by decide, by decide, for_range (lo := 0) (n := ((300 : Int) + 1).toNat) (fun i σ A => (∃ v7 v8 v9 v10 v11, σ = [some (.ref a), some (.int 300), some (.str W.x), some (.ref L), some (.ref R), some (.ref PD), some (.ref S), v7, v8, v9, v10, v11]) ∧ (∀ j, j < i → j < (stW W j).lots.length) ∧ Same H A ∧
      Hs (hid M (new H A)) A L R PD (stW W i).lots (stW W i).rows ∧ ∃ svs, A S = some (.lst svs) ∧ Paired (Ld Rp (hid M (new H A))) svs (stW W i).steps)
    ⟨⟨_, _, _, _, _, rfl⟩, fun j hj => absurd hj (Nat.not_lt_zero _), Same.trans sA4 sS, ⟨⟨_, sS _ _ A4L, .cons (td_ints.mpr ⟨p, rfl, hid_at mp (new_at Hp0 (sS _ _ A4p))⟩) .nil⟩, sS _ _ A4R, dic_1 (sS _ _ A4D)⟩, _, upd_same, .nil⟩ (fun i σ A hi pv_ => ?_) (fun σ A pv_ => ?_)⟩
  · obtain ⟨⟨v7, v8, v9, v10, v11, rfl⟩, hj, sA, hs, svs, eS, ps⟩ := pv_
    obtain ⟨⟨lvs, eL, pl⟩, eR, hd⟩ := id hs
    have llv : lvs.length = (stW W i).lots.length := paired_len pl
    have hi301 : i < 301 := hi
    have hmax := stW_max ok i
    have hle := stW_le hj
    refine ⟨_, rfl, _, rfl, L, _, rfl, .inl (SqL.of eL), rfl, _, rfl, ite2 (fun hz => ?_) (fun hz => ?_)⟩
    · have ei : (stW W i).lots.length = i := by
        have z := V.int.inj (of_decide_eq_true hz)
        omega
      refine ⟨_, rfl, _, rfl, _, rfl, (by show 3 ≤ sizeLine; decide), fun r hr => ?_⟩
      have up := same_upd (o := .lst [V.ref L, .ref R, .ref S]) hr
      refine q _ _ i (by
        by_cases h : i ≤ 300
        · exact h
        · omega) ⟨hj, ei⟩ (Same.trans sA up) ?_
      have g : Same (hid M (new H A)) (new H (upd A r (.lst [V.ref L, .ref R, .ref S]))) := Same.trans (hid_sub _ _) (new_same up)
      exact ⟨r, _, _, _, rfl, new_at (Dom.of sA _ hr) upd_same, ⟨L, lvs, rfl, new_at HL (up _ _ eL), L2.Paired.mapP pl fun x y z => rt_mono _ _ x y g z⟩, ⟨R, _, rfl, new_at HR (up _ _ eR), rs_of _⟩, S, svs, rfl, new_at HS (up _ _ eS), L2.Paired.mapP ps fun x y z => ld_mono rp_mono _ _ x y g z⟩
    have hlt : i < (stW W i).lots.length := by
      have : ¬ (i = (stW W i).lots.length) := fun z => hz (decide_eq_true (by rw [show (0 : Int) + (i : Int) = ((i : Nat) : Int) by omega, llv, ← z]))
      omega
    obtain ⟨lot, e1⟩ : ∃ lot, (stW W i).lots[i]? = some lot := ⟨_, List.getElem?_eq_getElem hlt⟩
    obtain ⟨row, e2⟩ : ∃ row, (stW W i).rows[i]? = some row := ⟨_, List.getElem?_eq_getElem (by rw [stW_len]; exact hlt)⟩
    have llot : lot.length = W.n := stW_n ok i lot (List.mem_of_getElem? e1)
    have lrow := stW_row i row (List.mem_of_getElem? e2)
    refine ⟨(by show 0 ≤ sizeLine; decide), fun I hI => ?_⟩
    have HI : H I = none := Dom.of sA _ hI
    have nIL : I ≠ L := fun z => by rw [z, eL] at hI; cases hI
    have nIR : I ≠ R := fun z => by rw [z, eR] at hI; cases hI
    have nIP : I ≠ PD := fun z => by
      obtain ⟨kvs, e, _⟩ := hd
      rw [z, e] at hI; cases hI
    have nIS : I ≠ S := fun z => by rw [z, eS] at hI; cases hI
    have sI := same_upd (o := .lst []) hI
    generalize hM2 : I :: M = M2
    have vI : Same (hid M (new H A)) (hid M2 (new H (upd A I (.lst [])))) := by
      rw [← hM2]
      exact Same.trans (hid_more hI) (hid_step (stm_of sI))
    have mI2 : I ∈ M2 := by rw [← hM2]; simp
    have mL2 : L ∈ M2 := by rw [← hM2]; simp [mL]
    have mR2 : R ∈ M2 := by rw [← hM2]; simp [mR]
    have mP2 : PD ∈ M2 := by rw [← hM2]; simp [mP]
    have memM2 : ∀ b, b ∈ M2 → b = I ∨ b = L ∨ b = R ∨ b = PD ∨ b = S := fun b hb => by
      rw [← hM2] at hb
      rcases List.mem_cons.mp hb with h | h
      · exact .inl h
      · exact .inr (memM b h)
    refine ⟨_, rfl, W.x, rfl, by rw [sizeLine_eq]; omega, _, rfl, by omega, by omega, for_range (lo := 0) (n := ((W.x.length : Nat) : Int).toNat) (fun k σ B => (∃ v9 v10 v11, σ = [some (.ref a), some (.int 300), some (.str W.x), some (.ref L), some (.ref R), some (.ref PD), some (.ref S), some (.int (0 + (i : Nat))), some (.ref I), v9, v10, v11]) ∧ Same H B ∧
        Hs (hid M2 (new H B)) B L R PD (SM.inn (DW W) lot row (stW W i) k).lots (SM.inn (DW W) lot row (stW W i) k).rows ∧ (∃ svs, B S = some (.lst svs) ∧ Paired (Ld Rp (hid M2 (new H B))) svs (stW W i).steps) ∧ ∃ ivs, B I = some (.lst ivs) ∧ Paired (Rp (hid M2 (new H B))) ivs (SM.inn (DW W) lot row (stW W i) k).items)
      ⟨⟨_, _, _, rfl⟩, Same.trans sA sI, hs.step vI sI, ⟨svs, sI _ _ eS, L2.Paired.mapP ps fun x y z => ld_mono rp_mono _ _ x y vI z⟩, _, upd_same, .nil⟩ (fun k σ B hk pk => ?_) (fun σ B pk => ?_)⟩
    · clear hs hd eL pl eR llv eS ps
      obtain ⟨⟨v9, v10, v11, rfl⟩, sB, hs, ⟨svs, eS, ps⟩, ivs, eI, pi⟩ := pk
      obtain ⟨⟨lvs, eL, pl⟩, eR, kvs, eD, ekl, ekv⟩ := id hs
      have hk2 : k < W.x.length := by omega
      generalize hJ : SM.inn (DW W) lot row (stW W i) k = J at hs pl eR ekl ekv pi
      have hJl : J.lots.length ≤ 3100 := by
        have := inn_le (D := DW W) (lot := lot) (row := row) (s := stW W i) k
        rw [hJ] at this
        omega
      have hJr : J.rows.length = J.lots.length := by rw [← hJ]; exact SM.inn_len _ _ _ (stW_len i) k
      have llv : lvs.length = J.lots.length := paired_len pl
      have e1J : J.lots[i]? = some lot := by rw [← hJ]; exact SM.pre_get (SM.inn_pre (D := DW W) lot row (stW W i) k).1 e1
      have e2J : J.rows[i]? = some row := by rw [← hJ]; exact SM.pre_get (SM.inn_pre (D := DW W) lot row (stW W i) k).2 e2
      obtain ⟨lv, elv, rlv⟩ := paired_atr pl e1J
      have ecv : cvs[k]? = some (cvs[k]'(by rw [paired_len prc, ok.c]; exact hk2)) := List.getElem?_eq_getElem _
      obtain ⟨t, et, rt⟩ := paired_at prc ecv
      have etb : tbs W k = t := getD_at et
      have htb := ok.tb hk2
      rw [etb] at htb
      have ek0 : (0 : Int) + (k : Int) = ((k : Nat) : Int) := by omega
      have ei0 : (0 : Int) + (i : Int) = ((i : Nat) : Int) := by omega
      refine ⟨_, rfl, _, rfl, L, lvs, _, lv, rfl, rfl, SqL.of eL, (by rw [ei0]; exact atI_nat elv), _, rfl, a, _, _, _, rfl, rfl, SqL.of (sB _ _ ha), rfl, _, rfl, pc, cvs, _, _, rfl, rfl, SqL.of (sB _ _ hpc), (by rw [ek0]; exact atI_nat ecv),
        lv, _, lot, t, rfl, by omega, by omega, by rw [llot]; exact htb, td_sd (R := Ri) (fun _ _ _ h => h) _ _ _ (rt_mono _ _ _ _ (hid_sub _ _) (rt_mono _ _ _ _ (Same.refl _) rlv) |> rt_mono _ _ _ _ (new_sub _ _)), r2_mono _ _ _ _ sB rt, fun va B1 s1 rva => ?_⟩
      have lled : (SM.led lot t).length = W.n := by rw [SM.led_length, llot]
      refine ⟨_, rfl, va, SM.led lot t, rfl, by omega, by omega, lm1 _ _ _ _ (new_sub _ _) rva, fun vlot B2 s2 rvl => ?_⟩
      obtain ⟨pl2, rfl, hpl0⟩ := td_ints.mp rvl
      have hpl : B2 pl2 = some (.tup ((SM.low (SM.led lot t)).map V.int)) := new_sub _ _ _ _ hpl0
      have s12 := Same.trans s1 s2
      have aL := s12 _ _ eL
      have aR := s12 _ _ eR
      have aD := s12 _ _ eD
      have aS := s12 _ _ eS
      have aI := s12 _ _ eI
      have domM : ∀ b ∈ M2, ∃ u, B1 b = some u := fun b hb => by
        rcases memM2 b hb with z | z | z | z | z <;> subst z
        · exact ⟨_, s1 _ _ eI⟩
        · exact ⟨_, s1 _ _ eL⟩
        · exact ⟨_, s1 _ _ eR⟩
        · exact ⟨_, s1 _ _ eD⟩
        · exact ⟨_, s1 _ _ eS⟩
      have rvl2 : Rt (hid M2 (new H B2)) (.ref pl2) (SM.low (SM.led lot t)) := rt_mono _ _ _ _ (hid_new (Dom.of (Same.trans sB s1)) domM) rvl
      have v02 : Same (hid M2 (new H B)) (hid M2 (new H B2)) := hid_step (stm_of s12)
      have hs2 := hs.step v02 s12
      have rva2 : Ld Ri B2 va (SM.led lot t) := lm1 _ _ _ _ (Same.trans (new_sub _ _) s2) rva
      have ext0 : extS W.x row k = row ++ ⟨#[W.x.cps.getD k 0]⟩ := rfl
      refine ⟨fun σ' C => σ' = [some (.ref a), some (.int 300), some (.str W.x), some (.ref L), some (.ref R), some (.ref PD), some (.ref S), some (.int (0 + (i : Nat))), some (.ref I), some (.int (0 + (k : Nat))), some va, some (.ref pl2)] ∧ Same H C ∧ Same (hid M2 (new H B2)) (hid M2 (new H C)) ∧
        Hs (hid M2 (new H C)) C L R PD (SM.put J (SM.low (SM.led lot t)) (extS W.x row k) (SM.minL (SM.led lot t))).lots (SM.put J (SM.low (SM.led lot t)) (extS W.x row k) (SM.minL (SM.led lot t))).rows ∧ C S = some (.lst svs) ∧ C I = some (.lst ivs) ∧ Ld Ri C va (SM.led lot t) ∧ C pl2 = some (.tup ((SM.low (SM.led lot t)).map V.int)), ?_, ?_⟩
      · have eb : B2 pl2 = some (.tup (((SM.low (SM.led lot t)).map (Sum.inl : Int → Key)).map kV)) := by rw [inl_kV]; exact hpl
        refine ⟨_, rfl, _, rfl, PD, _, rfl, DGet.t aD eb, _, rfl, ?_⟩
        rw [ekv]
        by_cases m : SM.low (SM.led lot t) ∈ J.lots
        · rw [if_pos m]
          refine iteF ⟨rfl, Same.trans sB s12, Same.refl _, ?_, aS, aI, rva2, hpl⟩
          have ep : SM.put J (SM.low (SM.led lot t)) (extS W.x row k) (SM.minL (SM.led lot t)) = { J with items := J.items ++ [(J.lots.idxOf (SM.low (SM.led lot t)), SM.minL (SM.led lot t))] } := by
            unfold SM.put
            rw [if_pos m]
          rw [ep]
          exact hs2
        · rw [if_neg m]
          have npD : pl2 ≠ PD := ne_of hpl aD (fun z => nomatch z)
          have npL : pl2 ≠ L := ne_of hpl aL (fun z => nomatch z)
          have npR : pl2 ≠ R := ne_of hpl aR (fun z => nomatch z)
          refine iteT ⟨_, rfl, L, _, rfl, .inl (SqL.of aL), _, rfl, _, rfl, PD, _, rfl, DPut.t aD eb (by rw [ekl, sizeLine_eq]; omega), ?_⟩
          have bL : upd B2 PD (.dT (putK kvs ((SM.low (SM.led lot t)).map Sum.inl) (.int (lvs.length : Nat)))) L = some (.lst lvs) := by rw [upd_ne nPL.symm]; exact aL
          refine ⟨_, rfl, .inl ⟨rfl, _, SqL.of bL⟩, _, rfl, L, _, _, rfl, rfl, bL, by rw [llv, sizeLine_eq]; omega, ?_⟩
          have bR : upd (upd B2 PD (.dT (putK kvs ((SM.low (SM.led lot t)).map Sum.inl) (.int (lvs.length : Nat))))) L (.lst (lvs ++ [.ref pl2])) R = some (.lst (J.rows.map V.str)) := by rw [upd_ne nLR.symm, upd_ne nPR.symm]; exact aR
          have ecx : atI W.x.cps.toList (0 + (k : Int)) = some (W.x.cps.getD k 0) := by
            rw [ek0]
            refine atI_nat ?_
            have hk3 : k < W.x.cps.size := hk2
            simp [hk3]
          refine ⟨_, rfl, .inl ⟨rfl, _, SqL.of bR⟩, _, rfl, _, rfl, R, _, _, V.str row, rfl, rfl, SqL.of bR, (by rw [ei0]; exact atI_nat (by rw [List.getElem?_map, e2J]; rfl)), _, rfl, _, rfl, W.x, _, _, rfl, rfl, by rw [sizeLine_eq]; omega, ecx, _, _, rfl, rfl, by rw [sizeLine_eq]; show row.length + 1 ≤ _; omega,
            R, _, _, rfl, rfl, bR, by rw [List.length_map, hJr, sizeLine_eq]; omega, ?_⟩
          generalize eC : upd (upd (upd B2 PD (.dT (putK kvs ((SM.low (SM.led lot t)).map Sum.inl) (.int (lvs.length : Nat))))) L (.lst (lvs ++ [.ref pl2]))) R (.lst (J.rows.map V.str ++ [.str (row ++ ⟨#[W.x.cps.getD k 0]⟩)])) = C
          have st : StM M2 B2 C := by
            rw [← eC]
            exact (stm_upd mP2).trans ((stm_upd mL2).trans (stm_upd mR2))
          have oth : ∀ {b : Addr}, b ≠ PD → b ≠ L → b ≠ R → C b = B2 b := fun {b} h1 h2 h3 => by rw [← eC, upd_ne h3, upd_ne h2, upd_ne h1]
          have vC : Same (hid M2 (new H B2)) (hid M2 (new H C)) := hid_step st
          have sC : Same H C := by
            rw [← eC]
            exact same_updr (same_updr (same_updr (Same.trans sB s12) HP) HL) HR
          have ep : SM.put J (SM.low (SM.led lot t)) (extS W.x row k) (SM.minL (SM.led lot t)) = ⟨J.lots ++ [SM.low (SM.led lot t)], J.rows ++ [extS W.x row k], J.items ++ [(J.lots.length, SM.minL (SM.led lot t))]⟩ := by
            unfold SM.put
            rw [if_neg m]
          have dp := dic_put ekl ekv m
          refine ⟨rfl, sC, vC, ?_, by rw [oth nSP nSL nSR]; exact aS, by rw [oth nIP nIL nIR]; exact aI, ?_, by rw [oth npD npL npR]; exact hpl⟩
          · rw [ep]
            refine ⟨⟨lvs ++ [.ref pl2], by rw [← eC, upd_ne nLR, upd_same], paired_snoc (L2.Paired.mapP pl fun x y z => rt_mono _ _ x y (Same.trans v02 vC) z) (rt_mono _ _ _ _ vC rvl2)⟩, ?_, _, ?_, dp.1, dp.2⟩
            · rw [← eC, upd_same, List.map_append]
              rfl
            · rw [← eC, upd_ne nPR, upd_ne nPL, upd_same, llv]
          · obtain ⟨pa, epa, hpa⟩ := ld_ints.mp rva
            have nx : ∀ {b u}, B1 b = some u → pa ≠ b → True := fun _ _ => True.intro
            have hB1 : B pa = none := by
              cases q9 : B pa with
              | none => rfl
              | some u => rw [new_none q9] at hpa; cases hpa
            have d1 : pa ≠ PD := fun z => by rw [z, eD] at hB1; cases hB1
            have d2 : pa ≠ L := fun z => by rw [z, eL] at hB1; cases hB1
            have d3 : pa ≠ R := fun z => by rw [z, eR] at hB1; cases hB1
            exact ld_ints.mpr ⟨pa, epa, by rw [oth d1 d2 d3]; exact s2 _ _ (new_sub _ _ _ _ hpa)⟩
      · rintro σ' C ⟨rfl, sC, vC, hsC, cS, cI, rvC, hplC⟩
        obtain ⟨pidx, pmem⟩ := put_idx J (SM.low (SM.led lot t)) (extS W.x row k) (SM.minL (SM.led lot t))
        obtain ⟨_, _, kvC, eDC, eklC, ekvC⟩ := id hsC
        have gk := DGet.t (k := (SM.low (SM.led lot t)).map Sum.inl) eDC (by rw [inl_kV]; exact hplC)
        rw [ekvC, if_pos pmem] at gk
        obtain ⟨pa, rfl, hpa⟩ := ld_ints.mp rvC
        refine ⟨_, rfl, .inl ⟨rfl, _, SqL.of cI⟩, _, rfl, _, rfl, PD, _, rfl, gk, _, rfl, pa, _, rfl, .inl (SqL.of hpa), by omega, fun mm hm hmle => ⟨(by show 2 ≤ sizeLine; decide), fun tt htt => ?_⟩⟩
        have emm := SM.minL_uniq hm hmle
        have st := same_upd (o := .tup [.int ((SM.put J (SM.low (SM.led lot t)) (extS W.x row k) (SM.minL (SM.led lot t))).lots.idxOf (SM.low (SM.led lot t)) : Nat), .int mm]) htt
        have livs : ivs.length = k := by
          rw [paired_len pi, ← hJ]
          exact (SM.inn_items (D := DW W) lot row (stW W i) k).1
        refine ⟨I, _, _, rfl, rfl, st _ _ cI, by rw [livs, sizeLine_eq]; omega, ⟨_, _, _, rfl⟩, ?_, ?_, ?_, ?_⟩
        all_goals generalize eCC : upd (upd C tt (.tup [.int ((SM.put J (SM.low (SM.led lot t)) (extS W.x row k) (SM.minL (SM.led lot t))).lots.idxOf (SM.low (SM.led lot t)) : Nat), .int mm])) I (.lst (ivs ++ [.ref tt])) = CC
        all_goals have eIn : SM.inn (DW W) lot row (stW W i) (k + 1) = SM.put J (SM.low (SM.led lot t)) (extS W.x row k) (SM.minL (SM.led lot t)) := (by rw [← hJ, ← etb]; rfl)
        all_goals have vCC : Same (hid M2 (new H C)) (hid M2 (new H CC)) := (by rw [← eCC]; exact hid_step ((stm_of st).trans (stm_upd mI2)))
        all_goals have keep : ∀ {b : Addr} {u : HO}, C b = some u → b ≠ I → CC b = some u := fun {b u} e n => (by rw [← eCC, upd_ne n]; exact st _ _ e)
        all_goals have vB : Same (hid M2 (new H B)) (hid M2 (new H CC)) := Same.trans v02 (Same.trans vC vCC)
        · rw [← eCC]
          exact same_updr (Same.trans sC st) HI
        · rw [eIn]
          obtain ⟨⟨lvC, eLC, plC⟩, eRC, _⟩ := id hsC
          exact hsC.mv vCC (by rw [keep eLC nIL.symm, eLC]) (by rw [keep eRC nIR.symm, eRC]) (by rw [keep eDC nIP.symm, eDC])
        · exact ⟨svs, keep cS nIS.symm, L2.Paired.mapP ps fun x y z => ld_mono rp_mono _ _ x y vB z⟩
        · refine ⟨_, by rw [← eCC, upd_same], ?_⟩
          rw [eIn, pidx]
          have htI : tt ≠ I := fun z => by rw [z, cI] at htt; cases htt
          refine paired_snoc (L2.Paired.mapP pi fun x y z => rp_mono _ _ x y vB z) ⟨tt, rfl, hid_at (fun z => ?_) (new_at (Dom.of sC _ htt) ?_)⟩
          · obtain ⟨⟨lvC, eLC, plC⟩, eRC, _⟩ := id hsC
            rcases memM2 tt z with y | y | y | y | y <;> subst y
            · exact htI rfl
            · rw [eLC] at htt; cases htt
            · rw [eRC] at htt; cases htt
            · rw [eDC] at htt; cases htt
            · rw [cS] at htt; cases htt
          · rw [← eCC, upd_ne htI, upd_same, emm]
    · obtain ⟨⟨v9, v10, v11, rfl⟩, sB, hsB, ⟨svs2, eS2, ps2⟩, ivs, eI, pi⟩ := pk
      have et : stW W (i + 1) = ⟨(SM.inn (DW W) lot row (stW W i) W.x.length).lots, (SM.inn (DW W) lot row (stW W i) W.x.length).rows, (stW W i).steps ++ [(SM.inn (DW W) lot row (stW W i) W.x.length).items]⟩ := SM.turn_at (D := DW W) e1 e2
      have lsv : svs2.length = i := by rw [paired_len ps2]; exact (SM.st_steps (D := DW W) (b0 W) rfl rfl i hj).1
      rw [Int.toNat_natCast] at hsB pi
      obtain ⟨⟨lvB, eLB, plB⟩, eRB, kvB, eDB, _⟩ := id hsB
      refine ⟨_, rfl, .inl ⟨rfl, _, SqL.of eS2⟩, _, rfl, S, _, _, rfl, rfl, eS2, by rw [lsv, sizeLine_eq]; omega, ⟨_, _, _, _, _, rfl⟩, fun j hj2 => ?_, same_updr sB HS, ?_, ?_⟩
      · by_cases h : j = i
        · rw [h]; exact hlt
        · exact hj j (by omega)
      all_goals have v1 : Same (hid M2 (new H B)) (hid M (new H (upd B S (.lst (svs2 ++ [.ref I]))))) := Same.trans (by rw [← hM2]; exact hid_less) (hid_step (stm_upd mS))
      · rw [et]
        exact hsB.mv v1 (upd_ne nSL.symm) (upd_ne nSR.symm) (upd_ne nSP.symm)
      · refine ⟨_, upd_same, ?_⟩
        rw [et]
        refine paired_snoc (L2.Paired.mapP ps2 fun x y z => ld_mono rp_mono _ _ x y v1 z) ⟨I, ivs, rfl, hid_at (fun z => ?_) (new_at HI (by rw [upd_ne nIS]; exact eI)), L2.Paired.mapP pi fun x y z => rp_mono _ _ x y v1 z⟩
        rcases memM I z with y | y | y | y
        · exact nIL y
        · exact nIR y
        · exact nIP y
        · exact nIS y
  · obtain ⟨⟨v7, v8, v9, v10, v11, rfl⟩, hj, sA, _⟩ := pv_
    exact q0 _ sA
end SD

/-! ## SL9 -/
set_option maxHeartbeats 4000000
namespace SD
open PySem PySem.Spec PyProof.Rows L2 SR
variable {P : Program} {w : World} {K : PySem.W.Frag} {mg : Str → Option Value} {base : Heap}
/-! ### the steps that are due -/
def rTupOf (K : PySem.W.Frag) : List V → Hp → VK → Prop := fun xs H Q => ∃ p ys, xs = [.ref p] ∧ ((SqL K H p ys ∧ ∀ l, H l = none → Q (.ref l) (upd H l (.tup ys))) ∨ (SqT K H p ys ∧ Q (.ref p) H))
theorem tup_of {α : Type} {R : Rl α} (hR : Mono R) {H A : Hp} {D : Addr} {ts : List α} (s : Same H A) (h : Ld R (new H A) (.ref D) ts) : ∃ ys, A D = some (.lst ys) ∧ ∀ l, A l = none → Same H (upd A l (.tup ys)) ∧ Td R (new H (upd A l (.tup ys))) (.ref l) ts := by
  obtain ⟨a, ys, e, g, p⟩ := h
  cases e
  refine ⟨ys, new_sub _ _ _ _ g, fun l hl => ?_⟩
  have up := same_upd (o := .tup ys) hl
  exact ⟨Same.trans s up, l, ys, rfl, new_at (Dom.of s _ hl) upd_same, L2.Paired.mapP p fun x y z => hR _ _ x y (new_same up) z⟩
abbrev R2p : Rl (List (List (Nat × Int))) := Td (Td Rp)
def spStepsDue : Sp := fun vs H Q _ => ∃ (v : V) (S : List (List (Nat × Int))), vs = [v] ∧ S.length ≤ 1000 ∧ (∀ it ∈ S, it.length ≤ 1000) ∧ Ld (Ld Rp) H v S ∧ ∀ v' H', Same H H' → R2p (new H H') v' S → Q v' H'
theorem scStepsDue : FnScope ["_law_steps", "_law_item", "_law_step"] ["_law_steps"] (defScope (top 76)) := ⟨rfl, rfl, rfl, by decide +kernel, rfl, by decide +kernel, by decide +kernel⟩
theorem ok_stepsDue (T : Tx K mg) : FnOk P w K mg base CX0 1 T.stepsDue.f T.stepsDue.fd ["_law_steps"] spStepsDue := by
  refine okF T.stepsDue.F scStepsDue (fun vs H Q E h => ?_) fun cdv A outer s H vs Q E hr h => ?_
  · obtain ⟨_, _, rfl, _⟩ := h
    rfl
  obtain ⟨v, S, rfl, l1, l2, hv, q⟩ := h
  have nd := scStepsDue.nd
  refine ⟨_, (pss_one (ps_ret (pe_callTy call_tuple_of rfl T.ntup boot_tuple (pa_cons (pe_lc (own := [("_law_item", 1)]) (g := (gName 1)) (te := (tCB (rTupOf K) (tCons (tLc (iList K (tVar 1)) (gName 2) tYes (tTup (tCons (tOp (rIxT K) (tVar 2) (tC (.int 0))) (tCons (tOp (rIxT K) (tVar 2) (tC (.int 1))) tNil))) [2]) tNil))) (by rfl) nd (pi_list (pv 0)) (blkOk_by (by kernel_rfl)) (fun _ _ _ _ _ => (pg_name (i := 1) nd rfl (Or.inl rfl))) (fun _ _ _ _ _ => pts_nil) (fun _ _ _ _ _ => (pe_callTy call_tuple_of rfl T.ntup boot_tuple (pa_cons (pe_lc (own := [("_law_step", 2)]) (g := (gName 2)) (te := (tTup (tCons (tOp (rIxT K) (tVar 2) (tC (.int 0))) (tCons (tOp (rIxT K) (tVar 2) (tC (.int 1))) tNil)))) (by rfl) nd (pi_list (pv 1)) (blkOk_by (by kernel_rfl)) (fun _ _ _ _ _ => (pg_name (i := 2) nd rfl (Or.inl rfl))) (fun _ _ _ _ _ => pts_nil) (fun _ _ _ _ _ => (pe_tup (pa_cons (pe_ix ix_tup (pv 2) pe_int (fun _ _ => rfl)) (pa_cons (pe_ix ix_tup (pv 2) pe_int (fun _ _ => rfl)) pa_nil))))) pa_nil)))) pa_nil)))), ?_⟩
  obtain ⟨a, vs, rfl, ha, pr⟩ := hv
  refine ⟨_, rfl, a, rfl, ⟨_, SqL.of ha⟩, fun D hD => lc_gen (R := Td Rp) (td_mono rp_mono) (stepSame H) walk_list (fun B hB => SqL.of (hB _ _ ha)) (by rw [paired_len pr]; exact l1) hD (fun i it => S[i]? = some it) (fun i x A A' Q1 Z1 hi hA hy k1 => ?_) fun A ts e1 e2 e3 e4 => ?_⟩
  · obtain ⟨rfl, ex⟩ := hy
    obtain ⟨it, eit, rit⟩ := paired_at pr ex
    obtain ⟨b, ivs, rfl, hb, pi⟩ := rit
    have hb2 := hA _ _ hb
    refine ⟨rfl, yes ⟨_, rfl, b, rfl, ⟨_, SqL.of hb2⟩, fun D2 hD2 => lc_gen (R := Rp) rp_mono (stepSame A') walk_list (fun B hB => SqL.of (hB _ _ hb2)) (by rw [paired_len pi]; exact l2 it (List.mem_of_getElem? eit)) hD2 (fun j p => it[j]? = some p) (fun j x B B' Q2 Z hj hB hy k2 => ?_) fun H' ts e1 e2 e3 e4 => ?_⟩⟩
    · obtain ⟨rfl, ex⟩ := hy
      obtain ⟨p, ep, t, rfl, ht⟩ := paired_at pi ex
      have ht2 := hB _ _ (hA _ _ ht)
      exact ⟨rfl, yes ⟨_, rfl, t, _, _, _, rfl, rfl, SqT.of ht2, rfl, _, rfl, t, _, _, _, rfl, rfl, SqT.of ht2, rfl, (by show 2 ≤ sizeLine; decide), fun l hl => k2 _ p _ (same_upd hl) ⟨l, rfl, new_at hl upd_same⟩ ep⟩⟩
    · have ets : ts = it := ext_of (by rw [e1, paired_len pi]) e2
      obtain ⟨ys, hys, g⟩ := tup_of rp_mono e3 e4
      refine ⟨D2, ys, rfl, .inl ⟨SqL.of hys, fun l hl => ?_⟩⟩
      obtain ⟨g1, g2⟩ := g l hl
      exact k1 _ _ _ g1 g2 (by rw [ets]; exact eit)
  · have ets : ts = S := ext_of (by rw [e1, paired_len pr]) e2
    obtain ⟨ys, hys, g⟩ := tup_of (td_mono rp_mono) e3 e4
    refine ⟨D, ys, rfl, .inl ⟨SqL.of hys, fun l hl => ?_⟩⟩
    obtain ⟨g1, g2⟩ := g l hl
    exact q _ _ g1 (by rw [← ets]; exact g2)
/-! ### a row -/
theorem ks_of {x : Str} : ∀ {ts : List Str}, (∀ z ∈ ts, ∃ k, k < x.length ∧ z = ⟨#[x.cps.getD k 0]⟩) → ∃ ks : List Nat, (∀ k ∈ ks, k < x.length) ∧ ts = ks.map fun k => ⟨#[x.cps.getD k 0]⟩
  | [], _ => ⟨[], fun _ h => by simp at h, rfl⟩
  | z :: r, h => by
    obtain ⟨k, hk, rfl⟩ := h z (by simp)
    obtain ⟨ks, h1, h2⟩ := ks_of (ts := r) fun y hy => h y (by simp [hy])
    refine ⟨k :: ks, fun j hj => ?_, by rw [h2]; rfl⟩
    rcases List.mem_cons.mp hj with e | hj
    · rw [e]; exact hk
    · exact h1 j hj
theorem join_ones (x : Str) : ∀ ks : List Nat, (Str.join "" (ks.map fun k => (⟨#[x.cps.getD k 0]⟩ : Str))).cps = (ks.map fun k => x.cps.getD k 0).toArray
  | [] => rfl
  | [k] => rfl
  | k :: j :: r => by
    have ih := join_ones x (j :: r)
    show (((⟨#[x.cps.getD k 0]⟩ : Str) ++ "" ++ Str.join "" ((j :: r).map fun k => (⟨#[x.cps.getD k 0]⟩ : Str))) : Str).cps = _
    show (#[x.cps.getD k 0] ++ #[]) ++ (Str.join "" ((j :: r).map fun k => (⟨#[x.cps.getD k 0]⟩ : Str))).cps = _
    rw [ih]
    apply Array.ext'
    simp
theorem lets_join {x : Str} {ks : List Nat} (h : ∀ k ∈ ks, k < x.length) : Lets x (Txt.join "" (ks.map fun k => (⟨#[x.cps.getD k 0]⟩ : Str))) ks := by
  refine ⟨h, ?_⟩
  have e : Txt.join "" (ks.map fun k => (⟨#[x.cps.getD k 0]⟩ : Str)) = Str.join "" (ks.map fun k => (⟨#[x.cps.getD k 0]⟩ : Str)) := StrLaws.glued_eq_join _ _
  rw [e, join_ones]
theorem sum_ones {α : Type} (f : α → Str) (h : ∀ a, (f a).length = 1) : ∀ l : List α, ((l.map f).map (·.length)).sum = l.length
  | [] => rfl
  | a :: r => by
    rw [List.map_cons, List.map_cons, List.sum_cons, sum_ones f h r, h, List.length_cons]
    omega
def spRow : Sp := fun vs H Q _ => ∃ (s : Addr) (x : Str), vs = [.ref s, .str x, .int 60] ∧ Src H s ∧ 1 ≤ x.length ∧ x.length ≤ 10 ∧ ∀ r ks H', Lets x r ks → Stp s H H' → Q (.str r) H'
theorem scRow : FnScope ["_law_source_here", "_law_asks_here", "_law_longest", "_law_size", "_law_k"] ["_law_source_here", "_law_asks_here", "_law_longest"] (defScope (top 77)) := ⟨rfl, rfl, rfl, by decide +kernel, rfl, by decide +kernel, by decide +kernel⟩
theorem ok_row (T : Tx K mg) : FnOk P w K mg base CX0 2 T.row.f T.row.fd ["_law_source_here", "_law_asks_here", "_law_longest"] spRow := by
  refine okF T.row.F scRow (fun vs H Q E h => ?_) fun cdv A outer s H vs Q E hr h => ?_
  · obtain ⟨_, _, rfl, _⟩ := h
    rfl
  obtain ⟨s, x, rfl, hs, x1, x10, q⟩ := h
  have nd := scRow.nd
  refine ⟨_, (pss_cons (ps_set (i := 3) nd rfl (Or.inl rfl) (pe_f T.draw (ok_draw T) (hr.mono (by omega)) (pa_cons (pv 0) (pa_cons (pe_op op_add (pv 2) pe_int) pa_nil))))
    (pss_one (ps_ret (pe_join pe_str (pe_lc (own := [("_law_k", 4)]) (g := (gName 4)) (by rfl) nd (pi_range1 rfl T.nrange (pa_cons (pv 3) pa_nil)) (blkOk_by (by kernel_rfl)) (fun _ _ _ _ _ => (pg_name (i := 4) nd rfl (Or.inl rfl))) (fun _ _ _ _ _ => pts_nil) (fun _ _ _ _ _ => (pe_ix ix_str (pv 1) (pe_f T.draw (ok_draw T) (hr.mono (by omega)) (pa_cons (pv 0) (pa_cons (pe_callB call_len_str rfl T.nlen boot_len (pa_cons (pv 1) pa_nil)) pa_nil))) (fun _ _ => rfl)))))))), ?_⟩
  refine ⟨_, rfl, _, rfl, _, _, rfl, rfl, s, _, rfl, hs, by decide, by decide, fun n H1 n0 n1 k1 => ?_⟩
  have n61 : n < 61 := n1
  refine ⟨⟨_, rfl⟩, _, rfl, _, rfl, by omega, by omega, fun D hD => lc_gen (R := Rs) rs_mono (stepStp k1.s) walk_range (fun _ _ => True.intro) (by omega) hD (fun _ z => ∃ k, k < x.length ∧ z = ⟨#[x.cps.getD k 0]⟩) (fun i y A A' Q' Z hi hA hy k => ?_) fun H2 ts e1 e2 e3 e4 => ?_⟩
  · obtain ⟨rfl, rfl⟩ := hy
    refine ⟨rfl, yes ⟨_, rfl, _, rfl, _, rfl, x, rfl, by rw [sizeLine_eq]; omega, s, _, rfl, hA.s, by omega, by omega, fun r B r1 r2 kB => ?_⟩⟩
    have hr3 : r.toNat < x.length := by omega
    refine ⟨x, r, x.cps.getD r.toNat 0, rfl, rfl, by rw [sizeLine_eq]; omega, ?_, k _ ⟨#[x.cps.getD r.toNat 0]⟩ _ kB rfl ⟨r.toNat, hr3, rfl⟩⟩
    have er : r = ((r.toNat : Nat) : Int) := by omega
    have g : ∀ (m : Nat) (z : Int), z = (m : Int) → m < x.length → atI x.cps.toList z = some (x.cps.getD m 0) := fun m z ez hm => by
      rw [ez]
      refine atI_nat ?_
      have hm2 : m < x.cps.size := hm
      simp [hm2]
    exact g _ _ er hr3
  · obtain ⟨a, ys, ea, g, pr⟩ := e4
    cases ea
    rw [rs_iff pr] at g
    obtain ⟨ks, hk, ets⟩ := ks_of (all_of e2)
    subst ets
    have lk : ks.length = n.toNat := by simpa using e1
    refine ⟨"", D, _, rfl, rfl, .inl (SqL.of (new_sub _ _ _ _ g)), ?_, q _ ks _ (lets_join hk) (k1.trans e3)⟩
    rw [sum_ones _ (fun _ => rfl), List.length_map, lk]
    show n.toNat + n.toNat * 0 ≤ _
    omega
/-! ### exact -/
def spIsInt : Sp := fun vs H Q _ => ∃ n : Int, vs = [.int n] ∧ Q (.bl true) H
theorem scIsInt : FnScope ["_law_thing"] ["_law_thing"] (defScope (top 59)) := ⟨rfl, rfl, rfl, by decide +kernel, rfl, by decide +kernel, by decide +kernel⟩
theorem ok_isInt (T : Tx K mg) : FnOk P w K mg base CX0 1 T.isInt.f T.isInt.fd ["_law_thing"] spIsInt := by
  refine okF T.isInt.F scIsInt (fun vs H Q E h => ?_) fun cdv A outer s H vs Q E hr h => ?_
  · obtain ⟨_, rfl, _⟩ := h
    rfl
  obtain ⟨n, rfl, q⟩ := h
  refine ⟨_, (pss_one (ps_ret (pe_and (pe_callB call_isi rfl T.nisi boot_isinstance (pa_cons (pv 0) (pa_cons (pe_bltn (v := .ty "int") rfl T.nint boot_int rfl) pa_nil))) (pe_one (pe_not (pe_callB call_isi rfl T.nisi boot_isinstance (pa_cons (pv 0) (pa_cons (pe_bltn (v := .ty "bool") rfl T.nbool boot_bool rfl) pa_nil)))))))), ?_⟩
  exact ⟨_, rfl, ⟨_, _, _, _, true, rfl, .ty _, .base (.int n), kit_ty (by decide +kernel), true, rfl, iteT ⟨_, rfl, ⟨_, _, _, _, false, rfl, .ty _, .base (.int n), kit_ty (by decide +kernel), false, rfl, q⟩⟩⟩⟩
/-- the same data: ints and texts, tuples of such -/
def Eqv : Nat → Hp → V → V → Prop
  | 0, _, v, v' => v' = v ∧ ((∃ n, v = .int n) ∨ ∃ z, v = .str z)
  | n + 1, H, v, v' => ∃ a b xs ys, v = .ref a ∧ v' = .ref b ∧ H a = some (.tup xs) ∧ H b = some (.tup ys) ∧ Paired (Eqv n H) xs ys
theorem eqv_mono : ∀ {n : Nat} {G H : Hp} {v v' : V}, Same G H → Eqv n G v v' → Eqv n H v v'
  | 0, _, _, _, _, _, h => h
  | n + 1, _, _, _, _, k, ⟨a, b, xs, ys, e1, e2, g1, g2, p⟩ => ⟨a, b, xs, ys, e1, e2, k _ _ g1, k _ _ g2, L2.Paired.mapP p fun x y z => eqv_mono k z⟩
def spExact (n : Nat) : Sp := fun vs H Q _ => ∃ v v', vs = [v, v'] ∧ Eqv n H v v' ∧ ∀ H', Same H H' → Q (.bl true) H'
theorem scExact : FnScope ["_law_told", "_law_due", "_law_one", "_law_other"] ["_law_told", "_law_due"] (defScope (top 60)) := ⟨rfl, rfl, rfl, by decide +kernel, rfl, by decide +kernel, by decide +kernel⟩
theorem ok_exact0 (T : Tx K mg) : FnOk P w K mg base CX0 2 T.exact_.f T.exact_.fd ["_law_told", "_law_due"] (spExact 0) := by
  refine okF T.exact_.F scExact (fun vs H Q E h => ?_) fun cdv A outer s H vs Q E hr h => ?_
  · obtain ⟨_, _, rfl, _⟩ := h
    rfl
  obtain ⟨v, v', rfl, ⟨e, hv⟩, q⟩ := h
  subst e
  have nd := scExact.nd
  refine ⟨_, (pss_cons (ps_if (pt_val (pe_callB call_isi rfl T.nisi boot_isinstance (pa_cons (pv 1) (pa_cons (pe_bltn (v := .ty "tuple") rfl T.ntup boot_tuple rfl) pa_nil)))) (pss_cons (ps_if (PW.pt (pw_or (pt_not (pt_val (pe_callB call_isi rfl T.nisi boot_isinstance (pa_cons (pv 0) (pa_cons (pe_bltn (v := .ty "tuple") rfl T.ntup boot_tuple rfl) pa_nil))))) (pw_or1 (pt_cmpR op_ne (pe_callB call_len_seq rfl T.nlen boot_len (pa_cons (pv 0) pa_nil)) (pe_callB call_len_seq rfl T.nlen boot_len (pa_cons (pv 1) pa_nil)) (nomark _))))) (pss_one (ps_ret pe_bl)) pss_nil)
    (pss_cons ps_never
    (pss_one (ps_ret pe_bl)))) pss_nil)
    (pss_cons (ps_if (pt_cmpR op_isN (pv 1) pe_non (nomark _)) (pss_one (ps_ret (pe_cmpR op_isN (pv 0) pe_non (nomark _)))) pss_nil)
    (pss_cons (ps_if (pt_cmpR op_isF (pv 1) pe_bl (nomark _)) (pss_one (ps_ret (pe_cmpR op_isF (pv 0) pe_bl (nomark _)))) pss_nil)
    (pss_cons (ps_if (pt_cmpR op_isF (pv 1) pe_bl (nomark _)) (pss_one (ps_ret (pe_cmpR op_isF (pv 0) pe_bl (nomark _)))) pss_nil)
    (pss_cons (ps_if (pt_val (pe_callB call_isi rfl T.nisi boot_isinstance (pa_cons (pv 1) (pa_cons (pe_bltn (v := .ty "str") rfl T.nstr boot_str rfl) pa_nil)))) (pss_one (ps_ret (pe_and (pe_callB call_isi rfl T.nisi boot_isinstance (pa_cons (pv 0) (pa_cons (pe_bltn (v := .ty "str") rfl T.nstr boot_str rfl) pa_nil))) (pe_one (pe_cmpR op_eq (pv 0) (pv 1) (nomark _)))))) pss_nil)
    (pss_one (ps_ret (pe_and (pe_f T.isInt (ok_isInt T) (hr.mono (by omega)) (pa_cons (pv 0) pa_nil)) (pe_one (pe_cmpR op_eq (pv 0) (pv 1) (nomark _))))))))))), ?_⟩
  rcases hv with ⟨n, rfl⟩ | ⟨z, rfl⟩
  · refine ⟨_, rfl, ⟨_, _, _, _, false, rfl, .ty _, .base (.int n), kit_ty (by decide +kernel), false, rfl, iteF ?_⟩⟩
    refine ⟨_, rfl, rfl, _, rfl, iteF ?_⟩
    refine ⟨_, rfl, .inl ⟨n, rfl⟩, ⟨true, rfl⟩, _, rfl, iteF ?_⟩
    refine ⟨_, rfl, .inl ⟨n, rfl⟩, ⟨false, rfl⟩, _, rfl, iteF ?_⟩
    refine ⟨_, rfl, ⟨_, _, _, _, false, rfl, .ty _, .base (.int n), kit_ty (by decide +kernel), false, rfl, iteF ?_⟩⟩
    refine ⟨_, rfl, n, rfl, true, rfl, iteT ⟨_, rfl, _, rfl, rfl, ?_⟩⟩
    rw [decide_eq_true rfl]
    exact q _ (Same.refl _)
  · refine ⟨_, rfl, ⟨_, _, _, _, false, rfl, .ty _, .base (.str z), kit_ty (by decide +kernel), false, rfl, iteF ?_⟩⟩
    refine ⟨_, rfl, rfl, _, rfl, iteF ?_⟩
    refine ⟨_, rfl, .inr ⟨z, rfl⟩, ⟨true, rfl⟩, _, rfl, iteF ?_⟩
    refine ⟨_, rfl, .inr ⟨z, rfl⟩, ⟨false, rfl⟩, _, rfl, iteF ?_⟩
    refine ⟨_, rfl, ⟨_, _, _, _, true, rfl, .ty _, .base (.str z), kit_ty (by decide +kernel), true, rfl, iteT ?_⟩⟩
    refine ⟨_, rfl, ⟨_, _, _, _, true, rfl, .ty _, .base (.str z), kit_ty (by decide +kernel), true, rfl, iteT ⟨_, rfl, _, rfl, rfl, ?_⟩⟩⟩
    rw [decide_eq_true rfl]
    exact q _ (Same.refl _)
theorem ok_exact : ∀ (n : Nat) (T : Tx K mg), FnOk P w K mg base CX0 (n + 2) T.exact_.f T.exact_.fd ["_law_told", "_law_due"] (spExact n)
  | 0, T => ok_exact0 T
  | n + 1, T => by
    refine okF T.exact_.F scExact (fun vs H Q E h => ?_) fun cdv A outer s H vs Q E hr h => ?_
    · obtain ⟨_, _, rfl, _⟩ := h
      rfl
    obtain ⟨v, v', rfl, ⟨a, b, xs, ys, rfl, rfl, ha, hb, pr⟩, q⟩ := h
    have nd := scExact.nd
    refine ⟨_, (pss_cons (ps_if (pt_val (pe_callB call_isi rfl T.nisi boot_isinstance (pa_cons (pv 1) (pa_cons (pe_bltn (v := .ty "tuple") rfl T.ntup boot_tuple rfl) pa_nil)))) (pss_cons (ps_if (PW.pt (pw_or (pt_not (pt_val (pe_callB call_isi rfl T.nisi boot_isinstance (pa_cons (pv 0) (pa_cons (pe_bltn (v := .ty "tuple") rfl T.ntup boot_tuple rfl) pa_nil))))) (pw_or1 (pt_cmpR op_ne (pe_callB call_len_seq rfl T.nlen boot_len (pa_cons (pv 0) pa_nil)) (pe_callB call_len_seq rfl T.nlen boot_len (pa_cons (pv 1) pa_nil)) (nomark _))))) (pss_one (ps_ret pe_bl)) pss_nil)
    (pss_cons (ps_for PassesOwn.never rfl (RZ.pi_zipA rfl T.nzip (pa_cons (pv 0) (pa_cons (pv 1) pa_nil))) (pg_tup rfl (pgs_cons (pg_name (i := 2) nd rfl (Or.inl rfl)) (pgs_cons (pg_name (i := 3) nd rfl (Or.inl rfl)) pgs_nil)))
      (pss_one (ps_if (pt_not (pt_val (pe_f T.exact_ (ok_exact n T) hr (pa_cons (pv 2) (pa_cons (pv 3) pa_nil))))) (pss_one (ps_ret pe_bl)) pss_nil)))
    (pss_one (ps_ret pe_bl)))) pss_nil)
    (pss_cons (ps_if (pt_cmpR op_isN (pv 1) pe_non (nomark _)) (pss_one (ps_ret (pe_cmpR op_isN (pv 0) pe_non (nomark _)))) pss_nil)
    (pss_cons (ps_if (pt_cmpR op_isF (pv 1) pe_bl (nomark _)) (pss_one (ps_ret (pe_cmpR op_isF (pv 0) pe_bl (nomark _)))) pss_nil)
    (pss_cons (ps_if (pt_cmpR op_isF (pv 1) pe_bl (nomark _)) (pss_one (ps_ret (pe_cmpR op_isF (pv 0) pe_bl (nomark _)))) pss_nil)
    (pss_cons (ps_if (pt_val (pe_callB call_isi rfl T.nisi boot_isinstance (pa_cons (pv 1) (pa_cons (pe_bltn (v := .ty "str") rfl T.nstr boot_str rfl) pa_nil)))) (pss_one (ps_ret (pe_and (pe_callB call_isi rfl T.nisi boot_isinstance (pa_cons (pv 0) (pa_cons (pe_bltn (v := .ty "str") rfl T.nstr boot_str rfl) pa_nil))) (pe_one (pe_cmpR op_eq (pv 0) (pv 1) (nomark _)))))) pss_nil)
    (pss_one (ps_ret (pe_and (pe_f T.isInt (ok_isInt T) (hr.mono (by omega)) (pa_cons (pv 0) pa_nil)) (pe_one (pe_cmpR op_eq (pv 0) (pv 1) (nomark _))))))))))), ?_⟩
    have le : xs.length = ys.length := paired_len pr
    refine ⟨_, rfl, ⟨_, _, _, _, true, rfl, .ty _, .base (.tup hb), kit_ty (by decide +kernel), true, rfl, iteT ?_⟩⟩
    refine ⟨_, rfl, ⟨_, _, _, _, true, rfl, .ty _, .base (.tup ha), kit_ty (by decide +kernel), true, rfl, ?_⟩⟩
    refine iteF ⟨_, rfl, a, xs, rfl, .inr (SqT.of ha), _, rfl, b, ys, rfl, .inr (SqT.of hb), rfl, _, rfl, ?_⟩
    rw [le, decide_eq_true rfl]
    refine iteF ⟨_, rfl, _, rfl, a, b, xs, ys, rfl, .inr ⟨SqT.of ha, SqT.of hb, ?_⟩⟩
    refine RZ.for_zipT le (fun i σ A => Same H A ∧ ∃ v2 v3, σ = [some (.ref a), some (.ref b), v2, v3]) ⟨Same.refl _, _, _, rfl⟩ (fun i σ A p => ⟨SqT.of (p.1 _ _ ha), SqT.of (p.1 _ _ hb)⟩) (fun i x y T2 σ A hx hy p hT => ?_) (fun σ A p => q _ p.1)
    obtain ⟨sA, v2, v3, rfl⟩ := p
    have sT := same_upd (o := .tup [x, y]) hT
    obtain ⟨y', ey, rxy⟩ := paired_at pr hx
    rw [hy] at ey
    cases ey
    refine ⟨T2, _, rfl, SqT.of upd_same, rfl, _, _, rfl, _, _, rfl, rfl, ?_⟩
    refine ⟨_, rfl, _, rfl, x, y, rfl, eqv_mono (Same.trans sA sT) rxy, fun C sC => ⟨true, rfl, iteF ⟨Same.trans sA (Same.trans sT sC), _, _, rfl⟩⟩⟩
end SD

/-! ## SP1 -/
set_option maxHeartbeats 4000000
namespace SD
open PySem PySem.Spec PyProof.Rows L2 SR
variable {P : Program} {w : World} {K : PySem.W.Frag} {mg : Str → Option Value} {base : Heap}
/-! ### what is a number, what is listed -/
theorem scIsInteger : FnScope ["thing"] ["thing"] (defScope (top 24)) := ⟨rfl, rfl, rfl, by decide +kernel, rfl, by decide +kernel, by decide +kernel⟩
theorem ok_isInteger (T : Tx K mg) : FnOk P w K mg base CX0 1 T.isInteger.f T.isInteger.fd ["thing"] spIsInt := by
  refine okF T.isInteger.F scIsInteger (fun vs H Q E h => ?_) fun cdv A outer s H vs Q E hr h => ?_
  · obtain ⟨_, rfl, _⟩ := h
    rfl
  obtain ⟨n, rfl, q⟩ := h
  refine ⟨_, (pss_one (ps_ret (pe_and (pe_callB call_isi rfl T.nisi boot_isinstance (pa_cons (pv 0) (pa_cons (pe_bltn (v := .ty "int") rfl T.nint boot_int rfl) pa_nil))) (pe_one (pe_not (pe_callB call_isi rfl T.nisi boot_isinstance (pa_cons (pv 0) (pa_cons (pe_bltn (v := .ty "bool") rfl T.nbool boot_bool rfl) pa_nil)))))))), ?_⟩
  exact ⟨_, rfl, ⟨_, _, _, _, true, rfl, .ty _, .base (.int n), kit_ty (by decide +kernel), true, rfl, iteT ⟨_, rfl, ⟨_, _, _, _, false, rfl, .ty _, .base (.int n), kit_ty (by decide +kernel), false, rfl, q⟩⟩⟩⟩
def Seq (H : Hp) (a : Addr) (xs : List V) : Prop := H a = some (.lst xs) ∨ H a = some (.tup xs)
theorem Seq.same {G H : Hp} {a : Addr} {xs : List V} (h : Seq G a xs) (k : Same G H) : Seq H a xs := h.imp (k _ _) (k _ _)
theorem Seq.sq {K : PySem.W.Frag} {H : Hp} {a : Addr} {xs : List V} (h : Seq H a xs) : SqL K H a xs ∨ SqT K H a xs := h.imp SqL.of SqT.of
def spListed : Sp := fun vs H Q _ => ∃ v, vs = [v] ∧ ((∃ a xs, v = .ref a ∧ Seq H a xs ∧ ∀ H', Same H H' → Q (.bl true) H') ∨ ((∃ n, v = .int n) ∧ ∀ H', Same H H' → Q (.bl false) H'))
theorem scIsListed : FnScope ["thing"] ["thing"] (defScope (top 26)) := ⟨rfl, rfl, rfl, by decide +kernel, rfl, by decide +kernel, by decide +kernel⟩
theorem kitTL {K : PySem.W.Frag} : PySem.W.kitAny K (.type "tuple") [.type "tuple", .type "list"] = some true ∧ PySem.W.kitAny K (.type "list") [.type "tuple", .type "list"] = some true ∧ PySem.W.kitAny K (.type "int") [.type "tuple", .type "list"] = some false :=
  ⟨kitAny_cons (b := true) (kit_ty (by decide +kernel)) (fun h => (nomatch h)) (fun _ => rfl),
   kitAny_cons (b := false) (kit_ty (by decide +kernel)) (fun _ => kitAny_cons (b := true) (kit_ty (by decide +kernel)) (fun h => (nomatch h)) (fun _ => rfl)) (fun h => (nomatch h)),
   kitAny_cons (b := false) (kit_ty (by decide +kernel)) (fun _ => kitAny_cons (b := false) (kit_ty (by decide +kernel)) (fun _ => kitAny_nil) (fun h => (nomatch h))) (fun h => (nomatch h))⟩
theorem ok_isListed (T : Tx K mg) : FnOk P w K mg base CX0 1 T.isListed.f T.isListed.fd ["thing"] spListed := by
  refine okF T.isListed.F scIsListed (fun vs H Q E h => ?_) fun cdv A outer s H vs Q E hr h => ?_
  · obtain ⟨_, rfl, _⟩ := h
    rfl
  obtain ⟨v, rfl, q⟩ := h
  refine ⟨_, pss_one (ps_ret (pe_callB call_isiT rfl T.nisi boot_isinstance (pa_cons (pv 0) (pa_cons (pe_tup (pa_cons (pe_bltn (v := .ty "tuple") rfl T.ntup boot_tuple rfl) (pa_cons (pe_bltn (v := .ty "list") rfl T.nlist boot_list rfl) pa_nil))) pa_nil)))), ?_⟩
  refine ⟨_, rfl, (by show 2 ≤ sizeLine; decide), fun p hp => ?_⟩
  have up := same_upd (o := .tup [.ty "tuple", .ty "list"]) hp
  rcases q with ⟨a, xs, rfl, h | h, q⟩ | ⟨⟨n, rfl⟩, q⟩
  · exact ⟨_, p, _, _, _, true, rfl, upd_same, .cons (.ty _) (.cons (.ty _) .nil), .base (.lst (up _ _ h)), kitTL.2.1, q _ up⟩
  · exact ⟨_, p, _, _, _, true, rfl, upd_same, .cons (.ty _) (.cons (.ty _) .nil), .base (.tup (up _ _ h)), kitTL.1, q _ up⟩
  · exact ⟨_, p, _, _, _, false, rfl, upd_same, .cons (.ty _) (.cons (.ty _) .nil), .base (.int n), kitTL.2.2, q _ up⟩
/-- a for over what is a list or a tuple and stays -/
theorem seq_for {K : PySem.W.Frag} {a : Addr} {xs : List V} {g : TG} {tb : TS} {D : Ends} {σ : St} {H : Hp} (hq : Seq H a xs) (Pv : Nat → St → Hp → Prop) (h0 : Pv 0 σ H) (hl : ∀ i σ A, Pv i σ A → Same H A)
    (hs : ∀ i x σ A, xs[i]? = some x → Pv i σ A → g x σ A fun σ2 H2 => tb { D with nx := Pv (i + 1), ct := Pv (i + 1), bk := D.nx } σ2 H2) (hd : ∀ σ A, Pv xs.length σ A → D.nx σ A) :
    ((∃ xs, SqL K H a xs) ∧ ∃ W : Nat → Nat → St → Hp → Prop, (∃ m, W 0 m σ H) ∧ ∀ i m σ A, W i m σ A →
      ((Itl K a).stop i A ∧ D.nx σ A) ∨ ((Itl K a).go i A ∧ ∃ N : St → Hp → Prop, (∀ σ' H', N σ' H' → ∃ m', m' < m ∧ W (i + 1) m' σ' H') ∧ ∀ x H', (Itl K a).yld i A x H' → g x σ H' fun σ2 H2 => tb { D with nx := N, ct := N, bk := D.nx } σ2 H2)) ∨
    ((∃ xs, SqT K H a xs) ∧ ∃ W : Nat → Nat → St → Hp → Prop, (∃ m, W 0 m σ H) ∧ ∀ i m σ A, W i m σ A →
      ((Itt K a).stop i A ∧ D.nx σ A) ∨ ((Itt K a).go i A ∧ ∃ N : St → Hp → Prop, (∀ σ' H', N σ' H' → ∃ m', m' < m ∧ W (i + 1) m' σ' H') ∧ ∀ x H', (Itt K a).yld i A x H' → g x σ H' fun σ2 H2 => tb { D with nx := N, ct := N, bk := D.nx } σ2 H2)) := by
  rcases hq with h | h
  · exact .inl ⟨⟨_, SqL.of h⟩, for_list (xs := xs) Pv h0 (fun i σ A _ p => SqL.of (hl i σ A p _ _ h)) hs hd⟩
  · exact .inr ⟨⟨_, SqT.of h⟩, for_tup (xs := xs) Pv h0 (fun i σ A _ p => SqT.of (hl i σ A p _ _ h)) hs hd⟩
/-- as lc_gen, over what is a list or a tuple -/
theorem lc_seq {α : Type} {R : Rl α} (hR : Mono R) {K : PySem.W.Frag} {H : Hp} {a : Addr} {xs : List V} (hq : Seq H a xs) (hn : xs.length ≤ 1000) {g : TG} {te : TE} {vs : List Nat} {σ : St} {Qd : Addr → Hp → Prop} (F : Nat → α → Prop)
    (elt : ∀ (i : Nat) (x : V) (A : Hp) (Q' : VK) (Z : Hp → Prop), xs[i]? = some x → Same H A → (∀ y z B, Same A B → R (new A B) y z → F i z → Q' y B) → g x (wipe σ vs) A fun σ2 H2 => wipe σ2 vs = wipe σ vs ∧ tYes σ2 H2 fun b H3 => if b = true then te σ2 H3 Q' else Z H3)
    (fin : ∀ D H' (ts : List α), ts.length = xs.length → (∀ i z, ts[i]? = some z → F i z) → Same H H' → Ld R (new H H') (.ref D) ts → Qd D H') :
    ((∃ xs, SqL K H a xs) ∧ ∀ D, H D = none → ∃ W : Nat → Nat → Hp → Prop, (∃ m, W 0 m (upd H D (.lst []))) ∧ ∀ i m A, W i m A →
      ((Itl K a).stop i A ∧ Qd D A) ∨ ((Itl K a).go i A ∧ ∃ Nx : Hp → Prop, (∀ H', Nx H' → ∃ m', m' < m ∧ W (i + 1) m' H') ∧ ∀ x H', (Itl K a).yld i A x H' → g x (wipe σ vs) H' fun σ2 H2 => wipe σ2 vs = wipe σ vs ∧ tYes σ2 H2 fun b H3 =>
        if b = true then te σ2 H3 fun y H4 => ∃ acc, H4 D = some (.lst acc) ∧ acc.length < sizeLine ∧ Nx (upd H4 D (.lst (acc ++ [y]))) else Nx H3)) ∨
    ((∃ xs, SqT K H a xs) ∧ ∀ D, H D = none → ∃ W : Nat → Nat → Hp → Prop, (∃ m, W 0 m (upd H D (.lst []))) ∧ ∀ i m A, W i m A →
      ((Itt K a).stop i A ∧ Qd D A) ∨ ((Itt K a).go i A ∧ ∃ Nx : Hp → Prop, (∀ H', Nx H' → ∃ m', m' < m ∧ W (i + 1) m' H') ∧ ∀ x H', (Itt K a).yld i A x H' → g x (wipe σ vs) H' fun σ2 H2 => wipe σ2 vs = wipe σ vs ∧ tYes σ2 H2 fun b H3 =>
        if b = true then te σ2 H3 fun y H4 => ∃ acc, H4 D = some (.lst acc) ∧ acc.length < sizeLine ∧ Nx (upd H4 D (.lst (acc ++ [y]))) else Nx H3)) := by
  rcases hq with h | h
  · refine .inl ⟨⟨_, SqL.of h⟩, fun D hD => lc_gen hR (stepSame _) walk_list (fun A k => SqL.of (k _ _ h)) hn hD F (fun i x A A' Q' Z hi hA hy k => ?_) fun H' ts e1 e2 e3 e4 => fin D H' ts e1 e2 e3 e4⟩
    obtain ⟨rfl, ex⟩ := hy
    exact elt i x A' Q' Z ex hA k
  · refine .inr ⟨⟨_, SqT.of h⟩, fun D hD => lc_gen hR (stepSame _) walk_tup (fun A k => SqT.of (k _ _ h)) hn hD F (fun i x A A' Q' Z hi hA hy k => ?_) fun H' ts e1 e2 e3 e4 => fin D H' ts e1 e2 e3 e4⟩
    obtain ⟨rfl, ex⟩ := hy
    exact elt i x A' Q' Z ex hA k
/-! ### integers, tables, costs -/
def spSized {α : Type} (R : Rl α) (ok : Nat → List α → Prop) : Sp := fun vs H Q _ => ∃ (v : V) (m : Nat) (l : List α), vs = [v, .int (m : Nat)] ∧ Sd R H v l ∧ l.length = m ∧ ok m l ∧ ∀ H', Same H H' → Q (.bl true) H'
theorem scIntegers : FnScope ["thing", "many", "part"] ["thing", "many"] (defScope (top 34)) := ⟨rfl, rfl, rfl, by decide +kernel, rfl, by decide +kernel, by decide +kernel⟩
theorem ok_integers (T : Tx K mg) : FnOk P w K mg base CX0 2 T.integers.f T.integers.fd ["thing", "many"] (spSized Ri fun _ _ => True) := by
  refine okF T.integers.F scIntegers (fun vs H Q E h => ?_) fun cdv A outer s H vs Q E hr h => ?_
  · obtain ⟨_, _, _, rfl, _⟩ := h
    rfl
  obtain ⟨v, m, l, rfl, ⟨a, xs, rfl, ha, pr⟩, lm, _, q⟩ := h
  have ha : Seq H a xs := ha
  have nd := scIntegers.nd
  refine ⟨_, (pss_cons (ps_if (PW.pt (pw_or (pt_not (pt_val (pe_f T.isListed (ok_isListed T) (hr.mono (by omega)) (pa_cons (pv 0) pa_nil)))) (pw_or1 (pt_cmpR op_ne (pe_callB call_len_seq rfl T.nlen boot_len (pa_cons (pv 0) pa_nil)) (pv 1) (nomark _))))) (pss_one (ps_ret pe_bl)) pss_nil)
    (pss_cons (ps_for PassesOwn.never rfl (pi_seq (pv 0)) (pg_name (i := 2) nd rfl (Or.inl rfl))
      (pss_one (ps_if (pt_not (pt_val (pe_f T.isInteger (ok_isInteger T) (hr.mono (by omega)) (pa_cons (pv 2) pa_nil)))) (pss_one (ps_ret pe_bl)) pss_nil)))
    (pss_one (ps_ret pe_bl)))), ?_⟩
  refine ⟨_, rfl, _, rfl, .inl ⟨a, xs, rfl, ha, fun H1 s1 => ⟨true, rfl, iteF ⟨_, rfl, a, xs, rfl, (ha.same s1).sq, _, rfl, rfl, _, rfl, ?_⟩⟩⟩⟩
  rw [paired_len pr, lm, decide_eq_true rfl]
  refine iteF ⟨_, rfl, a, rfl, seq_for (ha.same s1) (fun i σ A => Same H1 A ∧ ∃ v2, σ = [some (.ref a), some (.int (m : Nat)), v2]) ⟨Same.refl _, _, rfl⟩ (fun i σ A p => p.1) (fun i x σ A hx p => ?_) (fun σ A p => q _ (Same.trans s1 p.1))⟩
  obtain ⟨sA, v2, rfl⟩ := p
  obtain ⟨n, _, rx⟩ := paired_at pr hx
  cases rx
  exact ⟨_, rfl, n, rfl, true, rfl, iteF ⟨sA, _, rfl⟩⟩
theorem scIsTable : FnScope ["thing", "many", "line"] ["thing", "many"] (defScope (top 37)) := ⟨rfl, rfl, rfl, by decide +kernel, rfl, by decide +kernel, by decide +kernel⟩
theorem ok_isTable (T : Tx K mg) : FnOk P w K mg base CX0 3 T.isTable.f T.isTable.fd ["thing", "many"] (spSized (Sd Ri) fun m t => ∀ l ∈ t, l.length = m) := by
  refine okF T.isTable.F scIsTable (fun vs H Q E h => ?_) fun cdv A outer s H vs Q E hr h => ?_
  · obtain ⟨_, _, _, rfl, _⟩ := h
    rfl
  obtain ⟨v, m, l, rfl, ⟨a, xs, rfl, ha, pr⟩, lm, hl, q⟩ := h
  have ha : Seq H a xs := ha
  have nd := scIsTable.nd
  refine ⟨_, (pss_cons (ps_if (PW.pt (pw_or (pt_not (pt_val (pe_f T.isListed (ok_isListed T) (hr.mono (by omega)) (pa_cons (pv 0) pa_nil)))) (pw_or1 (pt_cmpR op_ne (pe_callB call_len_seq rfl T.nlen boot_len (pa_cons (pv 0) pa_nil)) (pv 1) (nomark _))))) (pss_one (ps_ret pe_bl)) pss_nil)
    (pss_cons (ps_for PassesOwn.never rfl (pi_seq (pv 0)) (pg_name (i := 2) nd rfl (Or.inl rfl))
      (pss_one (ps_if (pt_not (pt_val (pe_f T.integers (ok_integers T) (hr.mono (by omega)) (pa_cons (pv 2) (pa_cons (pv 1) pa_nil))))) (pss_one (ps_ret pe_bl)) pss_nil)))
    (pss_one (ps_ret pe_bl)))), ?_⟩
  refine ⟨_, rfl, _, rfl, .inl ⟨a, xs, rfl, ha, fun H1 s1 => ⟨true, rfl, iteF ⟨_, rfl, a, xs, rfl, (ha.same s1).sq, _, rfl, rfl, _, rfl, ?_⟩⟩⟩⟩
  rw [paired_len pr, lm, decide_eq_true rfl]
  refine iteF ⟨_, rfl, a, rfl, seq_for (ha.same s1) (fun i σ A => Same H1 A ∧ ∃ v2, σ = [some (.ref a), some (.int (m : Nat)), v2]) ⟨Same.refl _, _, rfl⟩ (fun i σ A p => p.1) (fun i x σ A hx p => ?_) (fun σ A p => q _ (Same.trans s1 p.1))⟩
  obtain ⟨sA, v2, rfl⟩ := p
  obtain ⟨n, en, rx⟩ := paired_at pr hx
  exact ⟨_, rfl, _, rfl, x, m, n, rfl, sd_mono ri_mono _ _ _ _ (Same.trans s1 sA) rx, hl n (List.mem_of_getElem? en), True.intro, fun C sC => ⟨true, rfl, iteF ⟨Same.trans sA sC, _, rfl⟩⟩⟩
def spCosts : Sp := fun vs H Q _ => ∃ (v : V) (x : Str) (m : Nat) (c : List (List (List Int))), vs = [v, .str x, .int (m : Nat)] ∧ x.length ≤ 10 ∧ Sd (Sd (Sd Ri)) H v c ∧ c.length = x.length ∧ (∀ t ∈ c, Sqr m t) ∧ ∀ H', Same H H' → Q (.bl true) H'
theorem scAreCosts : FnScope ["thing", "asks", "many", "table"] ["thing", "asks", "many"] (defScope (top 38)) := ⟨rfl, rfl, rfl, by decide +kernel, rfl, by decide +kernel, by decide +kernel⟩
theorem ok_areCosts (T : Tx K mg) : FnOk P w K mg base CX0 4 T.areCosts.f T.areCosts.fd ["thing", "asks", "many"] spCosts := by
  refine okF T.areCosts.F scAreCosts (fun vs H Q E h => ?_) fun cdv A outer s H vs Q E hr h => ?_
  · obtain ⟨_, _, _, _, rfl, _⟩ := h
    rfl
  obtain ⟨v, x0, m, c, rfl, x10, ⟨a, xs, rfl, ha, pr⟩, lm, hl, q⟩ := h
  have ha : Seq H a xs := ha
  have nd := scAreCosts.nd
  refine ⟨_, (pss_cons (ps_if (PW.pt (pw_or (pt_not (pt_val (pe_f T.isListed (ok_isListed T) (hr.mono (by omega)) (pa_cons (pv 0) pa_nil)))) (pw_or1 (pt_cmpR op_ne (pe_callB call_len_seq rfl T.nlen boot_len (pa_cons (pv 0) pa_nil)) (pe_callB call_len_str rfl T.nlen boot_len (pa_cons (pv 1) pa_nil)) (nomark _))))) (pss_one (ps_ret pe_bl)) pss_nil)
    (pss_cons (ps_for PassesOwn.never rfl (pi_seq (pv 0)) (pg_name (i := 3) nd rfl (Or.inl rfl))
      (pss_one (ps_if (pt_not (pt_val (pe_f T.isTable (ok_isTable T) (hr.mono (by omega)) (pa_cons (pv 3) (pa_cons (pv 2) pa_nil))))) (pss_one (ps_ret pe_bl)) pss_nil)))
    (pss_one (ps_ret pe_bl)))), ?_⟩
  refine ⟨_, rfl, _, rfl, .inl ⟨a, xs, rfl, ha, fun H1 s1 => ⟨true, rfl, iteF ⟨_, rfl, a, xs, rfl, (ha.same s1).sq, _, rfl, x0, rfl, by rw [sizeLine_eq]; omega, rfl, _, rfl, ?_⟩⟩⟩⟩
  rw [paired_len pr, lm, decide_eq_true rfl]
  refine iteF ⟨_, rfl, a, rfl, seq_for (ha.same s1) (fun i σ A => Same H1 A ∧ ∃ v2, σ = [some (.ref a), some (.str x0), some (.int (m : Nat)), v2]) ⟨Same.refl _, _, rfl⟩ (fun i σ A p => p.1) (fun i x σ A hx p => ?_) (fun σ A p => q _ (Same.trans s1 p.1))⟩
  obtain ⟨sA, v2, rfl⟩ := p
  obtain ⟨t, et, rx⟩ := paired_at pr hx
  have ht := hl t (List.mem_of_getElem? et)
  exact ⟨_, rfl, _, rfl, x, m, t, rfl, sd_mono (sd_mono ri_mono) _ _ _ _ (Same.trans s1 sA) rx, ht.1, ht.2, fun C sC => ⟨true, rfl, iteF ⟨Same.trans sA sC, _, rfl⟩⟩⟩
/-! ### deep -/
def spDeep {α : Type} (R R' : Rl α) (ok : α → Prop) : Sp := fun vs H Q _ => ∃ (v : V) (x : α), vs = [v] ∧ R H v x ∧ ok x ∧ ∀ v' H', Same H H' → R' (new H H') v' x → Q v' H'
theorem scDeep : FnScope ["thing", "part"] ["thing"] (defScope (top 27)) := ⟨rfl, rfl, rfl, by decide +kernel, rfl, by decide +kernel, by decide +kernel⟩
theorem ok_deep0 (T : Tx K mg) : FnOk P w K mg base CX0 2 T.deep.f T.deep.fd ["thing"] (spDeep Ri Ri fun _ => True) := by
  refine okF T.deep.F scDeep (fun vs H Q E h => ?_) fun cdv A outer s H vs Q E hr h => ?_
  · obtain ⟨_, _, rfl, _⟩ := h
    rfl
  obtain ⟨v, n, rfl, rfl, _, q⟩ := h
  have nd := scDeep.nd
  refine ⟨_, (pss_cons (ps_if (pt_val (pe_f T.isListed (ok_isListed T) (hr.mono (by omega)) (pa_cons (pv 0) pa_nil))) (pss_one ps_never) pss_nil)
    (pss_one (ps_ret (pv 0)))), ?_⟩
  exact ⟨_, rfl, _, rfl, .inr ⟨⟨n, rfl⟩, fun H1 s1 => ⟨false, rfl, iteF ⟨_, rfl, q _ _ s1 rfl⟩⟩⟩⟩
theorem ok_deepS {α : Type} {R R' : Rl α} {ok : α → Prop} (hR : Mono R) (hR' : Mono R') {k : Nat} (hk : 1 ≤ k) (T : Tx K mg) (G : FnOk P w K mg base CX0 k T.deep.f T.deep.fd ["thing"] (spDeep R R' ok)) :
    FnOk P w K mg base CX0 (k + 1) T.deep.f T.deep.fd ["thing"] (spDeep (Sd R) (Td R') fun l => l.length ≤ 1000 ∧ ∀ x ∈ l, ok x) := by
  refine okF T.deep.F scDeep (fun vs H Q E h => ?_) fun cdv A outer s H vs Q E hr h => ?_
  · obtain ⟨_, _, rfl, _⟩ := h
    rfl
  obtain ⟨v, l, rfl, ⟨a, xs, rfl, ha, pr⟩, ⟨l1, l2⟩, q⟩ := h
  have ha : Seq H a xs := ha
  have nd := scDeep.nd
  refine ⟨_, (pss_cons (ps_if (pt_val (pe_f T.isListed (ok_isListed T) (hr.mono (by omega)) (pa_cons (pv 0) pa_nil))) (pss_one (ps_ret (pe_callTy call_tuple_of rfl T.ntup boot_tuple (pa_cons (pe_lc (own := [("part", 1)]) (g := (gName 1)) (te := (tCall (spDeep R R' ok) [] E0 (tCons (tVar 1) tNil))) (by rfl) nd (pi_seq (pv 0)) (blkOk_by (by kernel_rfl)) (fun _ _ _ _ _ => (pg_name (i := 1) nd rfl (Or.inl rfl))) (fun _ _ _ _ _ => pts_nil) (fun _ _ _ _ _ => (pe_f T.deep G hr (pa_cons (pv 1) pa_nil)))) pa_nil)))) pss_nil)
    (pss_one (ps_ret (pv 0)))), ?_⟩
  refine ⟨_, rfl, _, rfl, .inl ⟨a, xs, rfl, ha, fun H1 s1 => ⟨true, rfl, iteT ?_⟩⟩⟩
  have lx : xs.length = l.length := paired_len pr
  refine ⟨_, rfl, a, rfl, lc_seq hR' (ha.same s1) (by omega) (fun i z => l[i]? = some z) (fun i x A Q' Z hx sA k => ?_) (fun D H' ts e1 e2 e3 e4 => ?_)⟩
  · obtain ⟨z, ez, rz⟩ := paired_at pr hx
    exact ⟨rfl, yes ⟨_, rfl, x, z, rfl, hR _ _ _ _ (Same.trans s1 sA) rz, l2 z (List.mem_of_getElem? ez), fun v' B sB rB => k _ z _ sB rB ez⟩⟩
  · have ets : ts = l := ext_of (by rw [e1, lx]) e2
    obtain ⟨ys, hys, g⟩ := tup_of hR' e3 e4
    refine ⟨D, ys, rfl, .inl ⟨SqL.of hys, fun r hr => ?_⟩⟩
    obtain ⟨g1, g2⟩ := g r hr
    rw [← ets] at q
    exact q _ _ (Same.trans s1 g1) (td_mono hR' _ _ _ _ (new_dom (Dom.of s1)) g2)
end SD

/-! ## SP2 -/
set_option maxHeartbeats 4000000
namespace SD
open PySem PySem.Spec PyProof.Rows L2 SR
variable {P : Program} {w : World} {K : PySem.W.Frag} {mg : Str → Option Value} {base : Heap}
/-! ### asks -/
def plc (x : Str) : Nat → Int
  | 0 => -1
  | k + 1 => Txt.find "abcdefgh" ⟨#[x.cps.getD k 0]⟩
theorem plc_up : ∀ x ∈ asksL, ∀ k, k < x.length → plc x k < plc x (k + 1) := by decide +kernel
theorem ask_len4 : ∀ x ∈ asksL, 1 ≤ x.length ∧ x.length ≤ 4 := by decide +kernel
def spIsAsks : Sp := fun vs H Q _ => ∃ x : Str, vs = [.str x] ∧ x ∈ asksL ∧ Q (.bl true) H
theorem scIsAsks : FnScope ["thing", "last", "letter", "place"] ["thing"] (defScope (top 28)) := ⟨rfl, rfl, rfl, by decide +kernel, rfl, by decide +kernel, by decide +kernel⟩
theorem ok_isAsks (T : Tx K mg) : FnOk P w K mg base CX0 1 T.isAsks.f T.isAsks.fd ["thing"] spIsAsks := by
  refine okF T.isAsks.F scIsAsks (fun vs H Q E h => ?_) fun cdv A outer s H vs Q E hr h => ?_
  · obtain ⟨_, rfl, _⟩ := h
    rfl
  obtain ⟨x, rfl, hx, q⟩ := h
  have nd := scIsAsks.nd
  obtain ⟨tL, hL⟩ := T.letters
  refine ⟨_, (pss_cons (ps_if (PW.pt (pw_or (pt_not (pt_val (pe_callB call_isi rfl T.nisi boot_isinstance (pa_cons (pv 0) (pa_cons (pe_bltn (v := .ty "str") rfl T.nstr boot_str rfl) pa_nil))))) (pw_or1 (pt_not (pt_chain op_le op_le pe_int (pe_callB call_len_str rfl T.nlen boot_len (pa_cons (pv 0) pa_nil)) pe_int))))) (pss_one (ps_ret pe_bl)) pss_nil)
    (pss_cons (ps_set (i := 1) nd rfl (Or.inl rfl) (pe_un un_neg pe_int))
    (pss_cons (ps_for PassesOwn.never rfl (pi_str (pv 0)) (pg_name (i := 2) nd rfl (Or.inl rfl))
      (pss_cons (ps_set (i := 3) nd rfl (Or.inl rfl) (pe_m1 PySem.F.slot_str_find PySem.F.type_str_find mt_find (pe_glob (v := .str "abcdefgh") rfl hL ⟨_, rfl⟩) (pv 2)))
      (pss_cons (ps_if (pt_cmpR op_le (pv 3) (pv 1) (nomark _)) (pss_one (ps_ret pe_bl)) pss_nil)
      (pss_one (ps_set (i := 1) nd rfl (Or.inl rfl) (pv 3))))))
    (pss_one (ps_ret pe_bl))))), ?_⟩
  obtain ⟨l1, l4⟩ := ask_len4 x hx
  refine ⟨_, rfl, ⟨_, _, _, _, true, rfl, .ty _, .base (.str x), kit_ty (by decide +kernel), true, rfl, ?_⟩⟩
  refine iteF ⟨_, rfl, x, rfl, by rw [sizeLine_eq]; omega, _, _, rfl, rfl, true, ?_, iteT ⟨_, _, rfl, rfl, true, ?_, iteF ?_⟩⟩
  · show V.bl _ = V.bl true
    rw [decide_eq_true (by omega)]
  · show V.bl _ = V.bl true
    rw [decide_eq_true (by omega)]
  refine ⟨_, rfl, _, rfl, x, rfl, for_it walk_str (fun i σ A => A = H ∧ ∃ v2 v3, σ = [some (.str x), some (.int (plc x i)), v2, v3]) ⟨rfl, _, _, rfl⟩ (fun _ _ _ _ _ => True.intro) (fun i y σ A A' hi p hy => ?_) (fun σ A p => ?_)⟩
  · obtain ⟨rfl, v2, v3, rfl⟩ := p
    obtain ⟨rfl, c, ec, rfl⟩ := hy
    have ec2 : x.cps.getD i 0 = c := by
      have hi2 : i < x.cps.size := hi
      rw [Array.getElem?_eq_getElem hi2] at ec
      cases ec
      simp [Array.getD, hi2]
    refine ⟨⟨_, rfl⟩, _, rfl, _, _, rfl, rfl, _, rfl, _, rfl, _, _, rfl, rfl, _, rfl, ?_⟩
    have up := plc_up x hx i hi
    have e : plc x (i + 1) = Txt.find "abcdefgh" ⟨#[c]⟩ := by rw [← ec2]; rfl
    rw [← e, decide_eq_false (by omega)]
    exact iteF ⟨_, rfl, rfl, _, _, rfl⟩
  · rw [p.1]
    exact q
def spCheckAsks : Sp := fun vs H Q _ => ∃ x : Str, vs = [.str x] ∧ x ∈ asksL ∧ Q .non H
theorem scCheckAsks : FnScope ["thing"] ["thing"] (defScope (top 29)) := ⟨rfl, rfl, rfl, by decide +kernel, rfl, by decide +kernel, by decide +kernel⟩
theorem ok_checkAsks (T : Tx K mg) : FnOk P w K mg base CX0 2 T.checkAsks.f T.checkAsks.fd ["thing"] spCheckAsks := by
  refine okF T.checkAsks.F scCheckAsks (fun vs H Q E h => ?_) fun cdv A outer s H vs Q E hr h => ?_
  · obtain ⟨_, rfl, _⟩ := h
    rfl
  obtain ⟨x, rfl, hx, q⟩ := h
  refine ⟨_, (pss_one (ps_if (pt_not (pt_val (pe_f T.isAsks (ok_isAsks T) (hr.mono (by omega)) (pa_cons (pv 0) pa_nil)))) (pss_one ps_never) pss_nil)), ?_⟩
  exact ⟨_, rfl, x, rfl, hx, true, rfl, iteF q⟩
/-! ### a store -/
def fSt (x : Str) (vb vc ve : V) : List (Str × V) := [("asks", .str x), ("begins", vb), ("costs", vc), ("ends", ve)]
abbrev T1i : Rl (List Int) := Td Ri
abbrev T3i : Rl (List (List (List Int))) := Td (Td (Td Ri))
theorem t1_mono : Mono T1i := td_mono ri_mono
theorem t3_mono : Mono T3i := td_mono (td_mono (td_mono ri_mono))
/-- a store at p: the world it holds -/
structure StAt (C : Addr) (G H : Hp) (p : Addr) (W : Wt) : Prop where
  at_ : ∃ dx vb vc ve, H p = some (.ins C dx (fSt W.x vb vc ve)) ∧ T1i G vb W.b ∧ T3i G vc W.c ∧ T1i G ve W.e
/-- what is made of a store: numbers to any size, at most ten asks -/
structure WsOk (W : Wt) : Prop where
  x : W.x ∈ asksL
  n1 : 1 ≤ W.n
  n3 : W.n ≤ 3
  b : W.b.length = W.n
  e : W.e.length = W.n
  c : W.c.length = W.x.length
  cs : ∀ t ∈ W.c, Sqr W.n t
theorem WsOk.wd {W : Wt} (h : WsOk W) : WdOk W := ⟨h.n1, h.n3, (ask_len _ h.x).1, (ask_len _ h.x).2, h.b, h.e, h.c, h.cs⟩
theorem lk_here {k : Str} {v : V} {r : List (Str × V)} : List.lookup k ((k, v) :: r) = some v := by
  have e : (k == k) = true := beq_self_eq_true k
  simp only [List.lookup, e]
theorem lk_past {k g : Str} {v : V} {r : List (Str × V)} (h : (k == g) = false) : List.lookup k ((g, v) :: r) = List.lookup k r := by
  simp only [List.lookup, h]
theorem put_past {f g : Str} {v x : V} {r : List (Str × V)} (h : ¬ g = f) : putF f v ((g, x) :: r) = (g, x) :: putF f v r := if_neg h
theorem fSt_put (x : Str) (vb vc ve : V) : putF "ends" ve (putF "costs" vc (putF "begins" vb (putF "asks" (.str x) []))) = fSt x vb vc ve := by
  have e1 : putF "asks" (.str x) [] = ([("asks", V.str x)] : List (Str × V)) := rfl
  have e2 : putF "begins" vb ([("asks", V.str x)] : List (Str × V)) = ([("asks", V.str x), ("begins", vb)] : List (Str × V)) := put_past (by decide +kernel)
  have e3 : putF "costs" vc ([("asks", V.str x), ("begins", vb)] : List (Str × V)) = ([("asks", V.str x), ("begins", vb), ("costs", vc)] : List (Str × V)) := (put_past (by decide +kernel)).trans (congrArg _ (put_past (by decide +kernel)))
  rw [e1, e2, e3]
  exact (put_past (by decide +kernel)).trans (congrArg _ ((put_past (by decide +kernel)).trans (congrArg _ (put_past (by decide +kernel)))))
theorem fSt_asks (x : Str) (vb vc ve : V) : (fSt x vb vc ve).lookup ("asks" : Str) = some (.str x) := lk_here
theorem fSt_begins (x : Str) (vb vc ve : V) : (fSt x vb vc ve).lookup ("begins" : Str) = some vb := (lk_past (by decide +kernel)).trans lk_here
theorem fSt_costs (x : Str) (vb vc ve : V) : (fSt x vb vc ve).lookup ("costs" : Str) = some vc := (lk_past (by decide +kernel)).trans ((lk_past (by decide +kernel)).trans lk_here)
def spStInit (C : Addr) : Sp := fun vs H Q _ => ∃ (p dx : Addr) (vb vc ve : V) (W : Wt), vs = [.ref p, .str W.x, vb, vc, ve] ∧ H p = some (.ins C dx []) ∧ WsOk W ∧ Sd Ri (hid [p] H) vb W.b ∧ Sd (Sd (Sd Ri)) (hid [p] H) vc W.c ∧ Sd Ri (hid [p] H) ve W.e ∧
  ∀ H', (∀ b o, b ≠ p → H b = some o → H' b = some o) → StAt C (new H H') H' p W → Q .non H'
theorem scStInit : FnScope ["self", "asks", "begins", "costs", "ends"] ["self", "asks", "begins", "costs", "ends"] (defScope (inClass (top 39) 0)) := ⟨rfl, rfl, rfl, by decide +kernel, rfl, by decide +kernel, by decide +kernel⟩
def okD1 (l : List Int) : Prop := l.length ≤ 1000 ∧ ∀ x ∈ l, True
def okD2 (l : List (List Int)) : Prop := l.length ≤ 1000 ∧ ∀ x ∈ l, okD1 x
theorem ok_deep1 (T : Tx K mg) : FnOk P w K mg base CX0 3 T.deep.f T.deep.fd ["thing"] (spDeep (Sd Ri) T1i okD1) := ok_deepS ri_mono ri_mono (by decide) T (ok_deep0 T)
theorem ok_deep3 (T : Tx K mg) : FnOk P w K mg base CX0 5 T.deep.f T.deep.fd ["thing"] (spDeep (Sd (Sd (Sd Ri))) T3i fun l => l.length ≤ 1000 ∧ ∀ x ∈ l, okD2 x) :=
  ok_deepS (sd_mono (sd_mono ri_mono)) (td_mono (td_mono ri_mono)) (by decide) T (ok_deepS (sd_mono ri_mono) t1_mono (by decide) T (ok_deep1 T))
theorem ok_stInit (T : Tx K mg) : FnOk P w K mg base CX0 6 T.iSt.f T.iSt.fd ["self", "asks", "begins", "costs", "ends"] (spStInit T.cSt.C) := by
  refine okF T.iSt.F scStInit (fun vs H Q E h => ?_) fun cdv A outer s H vs Q E hr h => ?_
  · obtain ⟨_, _, _, _, _, _, rfl, _⟩ := h
    rfl
  obtain ⟨p, dx, vb, vc, ve, W, rfl, hp, ok, hb, hc, he, q⟩ := h
  have nd := scStInit.nd
  obtain ⟨tM, hM⟩ := T.mostStates
  refine ⟨_, (pss_cons (ps_expr (pe_f T.checkAsks (ok_checkAsks T) (hr.mono (by omega)) (pa_cons (pv 1) pa_nil)))
    (pss_cons (ps_if (PW.pt (pw_or (pt_not (pt_val (pe_f T.isListed (ok_isListed T) (hr.mono (by omega)) (pa_cons (pv 2) pa_nil)))) (pw_or (pt_not (pt_chain op_le op_le pe_int (pe_callB call_len_seq rfl T.nlen boot_len (pa_cons (pv 2) pa_nil)) (pe_glob (v := .int 1000) rfl hM ⟨_, rfl⟩))) (pw_or1 (pt_not (pt_val (pe_f T.integers (ok_integers T) (hr.mono (by omega)) (pa_cons (pv 2) (pa_cons (pe_callB call_len_seq rfl T.nlen boot_len (pa_cons (pv 2) pa_nil)) pa_nil))))))))) (pss_one ps_never) pss_nil)
    (pss_cons (ps_if (pt_not (pt_val (pe_f T.areCosts (ok_areCosts T) (hr.mono (by omega)) (pa_cons (pv 3) (pa_cons (pv 1) (pa_cons (pe_callB call_len_seq rfl T.nlen boot_len (pa_cons (pv 2) pa_nil)) pa_nil)))))) (pss_one ps_never) pss_nil)
    (pss_cons (ps_if (pt_not (pt_val (pe_f T.integers (ok_integers T) (hr.mono (by omega)) (pa_cons (pv 4) (pa_cons (pe_callB call_len_seq rfl T.nlen boot_len (pa_cons (pv 2) pa_nil)) pa_nil))))) (pss_one ps_never) pss_nil)
    (pss_cons (ps_fld (pv 0) (pv 1) rfl)
    (pss_cons (ps_fld (pv 0) (pe_f T.deep (ok_deep1 T) (hr.mono (by omega)) (pa_cons (pv 2) pa_nil)) rfl)
    (pss_cons (ps_fld (pv 0) (pe_f T.deep (ok_deep3 T) (hr.mono (by omega)) (pa_cons (pv 3) pa_nil)) rfl)
    (pss_one (ps_fld (pv 0) (pe_f T.deep (ok_deep1 T) (hr.mono (by omega)) (pa_cons (pv 4) pa_nil)) rfl))))))))), ?_⟩
  have n1 := ok.n1
  have n3 := ok.n3
  have x10 := (ask_len _ ok.x).2
  have hG := hid_sub [p] H
  have m1 : Mono (Sd Ri) := sd_mono ri_mono
  have m3 : Mono (Sd (Sd (Sd Ri))) := sd_mono (sd_mono (sd_mono ri_mono))
  obtain ⟨a, xs, rfl, ha0, pr⟩ := id hb
  have ha0 : Seq (hid [p] H) a xs := ha0
  have ha : Seq H a xs := ha0.same hG
  have lx : xs.length = W.n := by rw [paired_len pr, ok.b]
  refine ⟨_, rfl, W.x, rfl, ok.x, ?_⟩
  refine ⟨_, rfl, _, rfl, .inl ⟨a, xs, rfl, ha, fun H1 s1 => ⟨true, rfl, ?_⟩⟩⟩
  refine iteF ⟨_, rfl, a, xs, rfl, (ha.same s1).sq, _, _, rfl, rfl, true, ?_, iteT ⟨_, _, rfl, rfl, true, ?_, ?_⟩⟩
  · show V.bl _ = V.bl true
    rw [decide_eq_true (by omega)]
  · show V.bl _ = V.bl true
    rw [decide_eq_true (by omega)]
  refine iteF ⟨_, rfl, _, rfl, a, xs, rfl, (ha.same s1).sq, _, xs.length, W.b, rfl, m1 _ _ _ _ (Same.trans hG s1) hb, by rw [lx, ok.b], True.intro, fun H2 s2 => ⟨true, rfl, iteF ?_⟩⟩
  have s12 := Same.trans s1 s2
  refine ⟨_, rfl, _, rfl, _, rfl, a, xs, rfl, (ha.same s12).sq, vc, W.x, xs.length, W.c, rfl, x10, m3 _ _ _ _ (Same.trans hG s12) hc, ok.c, by rw [lx]; exact ok.cs, fun H3 s3 => ⟨true, rfl, iteF ?_⟩⟩
  have s13 := Same.trans s12 s3
  refine ⟨_, rfl, _, rfl, a, xs, rfl, (ha.same s13).sq, ve, xs.length, W.e, rfl, m1 _ _ _ _ (Same.trans hG s13) he, by rw [lx, ok.e], True.intro, fun H4 s4 => ⟨true, rfl, iteF ?_⟩⟩
  have s14 := Same.trans s13 s4
  refine ⟨_, rfl, _, rfl, p, _, dx, _, rfl, s14 _ _ hp, T.clSt, T.naAsks, by decide, ?_⟩
  have g5 : ∀ o, Same (hid [p] H) (upd H4 p o) := fun o => same_updr (Same.trans hG s14) (by unfold hid; rw [if_pos (by simp)])
  have small : ∀ l : List Int, l.length = W.n → okD1 l := fun l hl => ⟨by omega, fun _ _ => True.intro⟩
  refine ⟨_, rfl, _, W.b, rfl, m1 _ _ _ _ (g5 _) hb, small _ ok.b, fun vb' H6 s6 rb => ⟨_, rfl, p, _, dx, _, rfl, s6 _ _ upd_same, T.clSt, T.naBegins, by show 1 < 1000; decide, ?_⟩⟩
  have g7 : ∀ o, Same (hid [p] H) (upd H6 p o) := fun o => same_updr (Same.trans (g5 _) s6) (by unfold hid; rw [if_pos (by simp)])
  refine ⟨_, rfl, _, W.c, rfl, m3 _ _ _ _ (g7 _) hc, ⟨by rw [ok.c]; omega, fun t ht => ⟨by rw [(ok.cs t ht).1]; omega, fun l hl => small l ((ok.cs t ht).2 l hl)⟩⟩, fun vc' H8 s8 rc => ⟨_, rfl, p, _, dx, _, rfl, s8 _ _ upd_same, T.clSt, T.naCosts, by show 2 < 1000; decide, ?_⟩⟩
  have g9 : ∀ o, Same (hid [p] H) (upd H8 p o) := fun o => same_updr (Same.trans (g7 _) s8) (by unfold hid; rw [if_pos (by simp)])
  refine ⟨_, rfl, _, W.e, rfl, m1 _ _ _ _ (g9 _) he, small _ ok.e, fun ve' H10 s10 re => ⟨_, rfl, p, _, dx, _, rfl, s10 _ _ upd_same, T.clSt, T.naEnds, by show 3 < 1000; decide, ?_⟩⟩
  have S6 : SamX p H H6 := fun b o n e => s6 _ _ (by rw [upd_ne n]; exact s14 _ _ e)
  have S8 : SamX p H H8 := fun b o n e => s8 _ _ (by rw [upd_ne n]; exact S6 b o n e)
  have S10 : SamX p H H10 := fun b o n e => s10 _ _ (by rw [upd_ne n]; exact S8 b o n e)
  have dm : ∀ {A : Hp} {o : HO}, SamX p H A → Dom H (upd A p o) := fun {A o} k b e => by
    by_cases hb : b = p
    · rw [hb, upd_same] at e; cases e
    · rw [upd_ne hb] at e
      cases q9 : H b with
      | none => rfl
      | some u => rw [k b u hb q9] at e; cases e
  have nx : ∀ {A B : Hp} {o : HO}, SamX p A B → Same (new H A) (new H (upd B p o)) := fun {A B o} k => by
    rw [new_upd hp]
    exact new_samX k ⟨_, hp⟩
  have e1 : ∀ {A B : Hp} {o : HO}, Same (upd A p o) B → SamX p A B := fun {A B o} k b u n e => k _ _ (by rw [upd_ne n]; exact e)
  have S4 : SamX p H H4 := samX_of s14
  refine q _ (fun b o n e => by rw [upd_ne n]; exact S10 b o n e) ⟨dx, vb', vc', ve', by rw [upd_same, fSt_put], ?_, ?_, ?_⟩
  · exact t1_mono _ _ _ _ (Same.trans (new_dom (dm S4)) (nx ((e1 s8).trans (e1 s10)))) rb
  · exact t3_mono _ _ _ _ (Same.trans (new_dom (dm S6)) (nx (e1 s10))) rc
  · exact t1_mono _ _ _ _ (Same.trans (new_dom (dm S8)) (nx (SamX.refl p _))) re
end SD

/-! ## SMode -/
set_option maxHeartbeats 4000000
namespace SD
open PySem PySem.Spec PyProof.Rows L2 SR
/-! ### defs that run both where nothing is handled and within an except suite -/
def MdR (k : Nat) (X : Cx) : Prop := (X.calm = true ∧ Room k X.A) ∨ (L2H.HotC X ∧ L2H.RoomH k X.A)
theorem MdR.md {k : Nat} {X : Cx} (h : MdR k X) : MdX X := h.imp (·.1) (·.1)
theorem MdR.mono {j k : Nat} {X : Cx} (h : MdR k X) (l : j ≤ k) : MdR j X := h.imp (fun z => ⟨z.1, z.2.mono l⟩) (fun z => ⟨z.1, z.2.mono l⟩)
theorem MdR.hu {k : Nat} {X : Cx} (h : MdR k X) : X.A.units + 1 < cLine := by
  rcases h with ⟨_, r⟩ | ⟨_, r⟩
  · exact hu_of r
  · have := r.un; omega
abbrev cxM (CX : CXT) (P : Program) (w : World) (K : PySem.W.Frag) (mg : Str → Option Value) (base : Heap) (N : List Str) (q : Str) (sc : Scope) (f : Addr) (cdv : Value) (A : Around) (outer : List Env) (s : Shared) (H : Hp) (E : XK) (c : Bool) (pn : List (Addr × Obj)) : Cx :=
  { cxOf CX P w K mg base N q sc f cdv A outer s H E with calm := c, pn := pn }
structure Fn2 (P : Program) (w : World) (K : PySem.W.Frag) (mg : Str → Option Value) (base : Heap) (k : Nat) (f : Addr) (fd : FuncData) (ps : List Str) (sp : Sp) : Prop where
  ok : FnOk P w K mg base CX0 k f fd ps sp
  hot : L2H.FnH P w K mg base CX0 k f fd ps sp
section
variable {P : Program} {w : World} {K : PySem.W.Frag} {mg : Str → Option Value} {base : Heap} {x q : Str} {st : Stmt} {f : Addr} {fd : FuncData} {N ps : List Str} {k : Nat} {sp : Sp}
/-- a def that lets nothing out, for both -/
theorem ok2 (F : FunD K x q (defArgs st) (defBody st) (defScope st) [] [] f fd) (S : FnScope N ps (defScope st)) (len : ∀ vs H Q E, sp vs H Q E → vs.length = ps.length)
    (hb : ∀ (cdv : Value) (A : Around) (outer : List Env) (s : Shared) (H : Hp) (vs : List V) (Q : VK) (E : XK) (c : Bool) (pn : List (Addr × Obj)), MdR k (cxM CX0 P w K mg base N q (defScope st) f cdv A outer s H E c pn).nox → sp vs H Q E →
      ∃ t, PSs (cxM CX0 P w K mg base N q (defScope st) f cdv A outer s H E c pn).nox (defBody st) t ∧ t { nx := fun _ H' => Q .non H', rt := Q } (start N vs) H) : Fn2 P w K mg base (k + 1) f fd ps sp where
  ok := okF F S len fun cdv A outer s H vs Q E hr h => hb cdv A outer s H vs Q E true [] (.inl ⟨rfl, hr⟩) h
  hot := okH F S len fun cdv A outer s H vs Q E p hh hr h => let ⟨t, a, b⟩ := hb cdv A outer s H vs Q E false [p] (.inr ⟨⟨p, hh, List.mem_singleton.mpr rfl⟩, hr⟩) h; ⟨t, a.nox, b⟩
end
section
variable {X : Cx} {x : Str} {p pos : Pos} {e : Expr} {es : List Expr} {t : TA} {st : Stmt} {ps : List Str} {k : Nat} {sp : Sp}
theorem pe_fM (D : Fx X.K X.mg x st ps) (G : Fn2 X.prog X.w X.K X.mg X.base k D.f D.fd ps sp) (hm : MdR k X) (ha : PA X (e :: es) t) (hg : Gl X x := by rfl) (hdb : (x == ("__debug__" : Str)) = false := by decide)
    (he : starEach (e :: es) X.env = (false, eval e X.env) :: starEach es X.env := by rfl) (hpl : (backTo pos (starEach es X.env)).any (·.1) = false := by rfl) : PE X (.Call (.Name x p) (e :: es) [] pos) (tCallS sp (fun _ => E0) t) := by
  rcases hm with ⟨_, hr⟩ | ⟨hc, hr⟩
  · exact pe_callS G.ok hr hg D.g D.F.kp D.b (fun _ _ _ _ _ _ _ z => z.elim) ha hdb he hpl
  · exact L2H.pe_callH G.hot hr hc hg D.g D.F.kp D.b (fun _ _ _ _ _ _ _ z => z.elim) ha hdb he hpl
end
/-! ### walks -/
def PIM (X : Cx) (tg iter : Expr) (wi : TI) : Prop := (X.calm = true → PI X tg iter wi) ∧ (L2H.HotC X → L2H.PIH X tg iter wi)
section
variable {X : Cx} {tg iter : Expr} {wi : TI}
theorem ps_forM {body : List Stmt} {g : TG} {tb : TS} {pos : Pos} (hp : PassesOwn (model X.prog X.w) X.A X.env X.xe) (hm : MdX X) (hi : PIM X tg iter wi) (hg : PG X tg g) (hb : PSs X body tb)
    (hs : ∀ x, foldedSetIterable iter X.env x = pure x := by intro _; rfl) : PS X (.For tg iter body [] pos) (tFor wi g tb) := by
  rcases hm with h | h
  · exact ps_for hp h (hi.1 h) hg hb hs
  · exact L2H.ps_forH hp h (hi.2 h) hg hb hs
theorem pim_range1 {a : Expr} {ta : TA} {p pos : Pos} (hg : Gl X "range") (hm : X.mg "range" = none) (ha : PA X [a] ta) (hs : starEach [a] X.env = [(false, eval a X.env)] := by rfl) : PIM X tg (.Call (.Name "range" p) [a] [] pos) (iRng1 ta) :=
  ⟨fun _ => pi_range1 hg hm ha hs, fun _ => L2H.pi_range1H hg hm ha hs⟩
theorem pim_range2 {a b : Expr} {ta : TA} {p pos : Pos} (hg : Gl X "range") (hm : X.mg "range" = none) (ha : PA X [a, b] ta) (hs : starEach [a, b] X.env = [(false, eval a X.env), (false, eval b X.env)] := by rfl) (hs2 : starEach [b] X.env = [(false, eval b X.env)] := by rfl) :
    PIM X tg (.Call (.Name "range" p) [a, b] [] pos) (iRng2 ta) := ⟨fun _ => pi_range2 hg hm ha hs hs2, fun _ => pi_range2H hg hm ha hs hs2⟩
theorem pim_enumS {e : Expr} {ta : TA} {p pos tpos : Pos} {elts : List Expr} {kk : Nat} (hg : Gl X "enumerate") (hm : X.mg "enumerate" = none) (he : PA X [e] ta) (hs : starEach [e] X.env = [(false, eval e X.env)] := by rfl) :
    PIM X (.Tuple elts kk tpos) (.Call (.Name "enumerate" p) [e] [] pos) (iEnumS ta) := ⟨fun _ => pi_enumS hg hm he hs, fun _ => pi_enumSH hg hm he hs⟩
theorem pg_tupM {es : List Expr} {k : Nat} {t : TGs} {n : Nat} {pos : Pos} (hm : MdX X) (h : PGs X es t) (hn : (assignEach es X.env).length = n := by rfl) (hst : (assignEach es X.env).findIdx? (·.1) = none := by rfl) : PG X (.Tuple es k pos) (gTup X.K n t) := by
  rcases hm with hc | hc
  · exact pg_tup hc h hn hst
  · exact pg_tupH hc h hn hst
end
end SD

/-! ## SP3 -/
set_option maxHeartbeats 4000000
namespace SD
open PySem PySem.Spec PyProof.Rows L2 SR
variable {P : Program} {w : World} {K : PySem.W.Frag} {mg : Str → Option Value} {base : Heap}
/-! ### led -/
abbrev T2i : Rl (List (List Int)) := Td (Td Ri)
theorem t2_mono : Mono T2i := td_mono t1_mono
def vAt (w : List Int) (tb : List (List Int)) (t s : Nat) : Int := w.getD s 0 + (tb.getD s []).getD t 0
theorem minL_snoc {l : List Int} {x : Int} (h : l ≠ []) : SM.minL (l ++ [x]) = SM.less (SM.minL l) x := by
  cases l with
  | nil => exact absurd rfl h
  | cons a r =>
    show (r ++ [x]).foldl SM.less a = _
    rw [List.foldl_append]
    rfl
theorem min_up (w : List Int) (tb : List (List Int)) (t : Nat) {j : Nat} (h : 0 < j) : SM.minL ((List.range (j + 1)).map (vAt w tb t)) = SM.less (SM.minL ((List.range j).map (vAt w tb t))) (vAt w tb t j) := by
  rw [List.range_succ, List.map_append]
  exact minL_snoc (fun e => by
    have := congrArg List.length e
    simp at this
    omega)
theorem map_at0 (w : List Int) {i : Nat} {z : Int} (h : i < w.length) (e : z = (i : Int)) : atI (w.map V.int) z = some (.int (w.getD i 0)) := by
  rw [e, ← show (0 : Int) + (i : Int) = ((i : Nat) : Int) by omega]
  exact map_at w h
def spLed : Sp := fun vs H Q _ => ∃ (v v2 : V) (w : List Int) (tb : List (List Int)), vs = [v, v2] ∧ 1 ≤ w.length ∧ w.length ≤ 1000 ∧ Sqr w.length tb ∧ T1i H v w ∧ T2i H v2 tb ∧ ∀ v' H', Same H H' → Ld Ri (new H H') v' (SM.led w tb) → Q v' H'
abbrev nLed : List Str := ["work", "table", "many", "found", "t", "best", "s", "price"]
theorem scLed : FnScope nLed ["work", "table"] (defScope (top 14)) := ⟨rfl, rfl, rfl, by decide +kernel, rfl, by decide +kernel, by decide +kernel⟩
theorem ok_led (T : Tx K mg) : Fn2 P w K mg base 1 T.led.f T.led.fd ["work", "table"] spLed := by
  refine ok2 T.led.F scLed (fun vs H Q E h => ?_) fun cdv A outer s H vs Q E c pn hm h => ?_
  · obtain ⟨_, _, _, _, rfl, _⟩ := h
    rfl
  obtain ⟨v, v2, w, tb, rfl, h1, h2, hq, hv, hv2, q⟩ := h
  have nd := scLed.nd
  refine ⟨_, (pss_cons (ps_set (i := 2) nd rfl (Or.inl rfl) (pe_callB call_len_seq rfl T.nlen boot_len (pa_cons (pv 0) pa_nil)))
    (pss_cons (ps_set (i := 3) nd rfl (Or.inl rfl) (pe_lst pa_nil))
    (pss_cons (ps_forM PassesOwn.never hm.md (pim_range1 rfl T.nrange (pa_cons (pv 2) pa_nil)) (pg_name (i := 4) nd rfl (Or.inl rfl))
      (pss_cons (ps_set (i := 5) nd rfl (Or.inl rfl) (pe_op op_add (pe_ix ix_tup (pv 0) pe_int (fun _ _ => rfl)) (pe_ix ix_tup (pe_ix ix_tup (pv 1) pe_int (fun _ _ => rfl)) (pv 4) (fun _ _ => rfl))))
      (pss_cons (ps_forM PassesOwn.never hm.md (pim_range2 rfl T.nrange (pa_cons pe_int (pa_cons (pv 2) pa_nil))) (pg_name (i := 6) nd rfl (Or.inl rfl))
      (pss_cons (ps_set (i := 7) nd rfl (Or.inl rfl) (pe_op op_add (pe_ix ix_tup (pv 0) (pv 6) (fun _ _ => rfl)) (pe_ix ix_tup (pe_ix ix_tup (pv 1) (pv 6) (fun _ _ => rfl)) (pv 4) (fun _ _ => rfl))))
      (pss_one (ps_if (pt_cmpR op_lt (pv 7) (pv 5) (nomark _)) (pss_one (ps_set (i := 5) nd rfl (Or.inl rfl) (pv 7))) pss_nil))))
      (pss_one (ps_expr (pe_bm PySem.F.plainAttrs_list PySem.F.slot_list_append PySem.F.type_list_append mt_append (pv 3) (pa_cons (pv 5) pa_nil)))))))
    (pss_one (ps_ret (pv 3)))))), ?_⟩
  obtain ⟨a, rfl, ha⟩ := td_ints.mp hv
  obtain ⟨b, tvs, rfl, hb, prt⟩ := hv2
  have lt : tvs.length = w.length := by rw [paired_len prt, hq.1]
  have row : ∀ {A : Hp} {s : Nat} {z : Int}, Same H A → s < w.length → z = (s : Int) → ∃ c, atI tvs z = some (.ref c) ∧ A c = some (.tup ((tb.getD s []).map V.int)) ∧ (tb.getD s []).length = w.length := fun {A s z} k hs ez => by
    have e : tvs[s]? = some (tvs[s]'(by omega)) := List.getElem?_eq_getElem _
    obtain ⟨l, el, rl⟩ := paired_at prt e
    obtain ⟨c, ec, hc⟩ := td_ints.mp rl
    refine ⟨c, by rw [ez, ← ec]; exact atI_nat e, ?_, ?_⟩
    · rw [getD_at (d := []) el]; exact k _ _ hc
    · rw [getD_at (d := []) el]; exact hq.2 l (List.mem_of_getElem? el)
  have sk := stepSame H
  refine ⟨_, rfl, a, _, rfl, .inr (SqT.of ha), (by show 0 ≤ sizeLine; decide), fun D hD => ?_⟩
  refine ⟨_, rfl, _, rfl, by rw [List.length_map]; omega, by rw [List.length_map]; omega, for_range (lo := 0) (n := (((w.map V.int).length : Nat) : Int).toNat) (fun i σ A => (∃ v4 v5 v6 v7, σ = [some (.ref a), some (.ref b), some (.int ((w.map V.int).length : Nat)), some (.ref D), v4, v5, v6, v7]) ∧ Fill Ri Same H D (fun t z => z = SM.ledAt w tb t) i A)
    ⟨⟨_, _, _, _, rfl⟩, fill_0 sk hD⟩ (fun t σ A ht p => ?_) (fun σ A p => ?_)⟩
  · obtain ⟨⟨v4, v5, v6, v7, rfl⟩, p⟩ := p
    have sA := fill_S p
    have ht2 : t < w.length := by
      rw [List.length_map] at ht
      omega
    obtain ⟨c0, r1, r2, r3⟩ := row (s := 0) (z := 0) sA (by omega) rfl
    refine ⟨_, rfl, a, _, _, _, rfl, rfl, SqT.of (sA _ _ ha), map_at0 w (i := 0) (by omega) rfl, _, rfl, b, _, _, _, rfl, rfl, SqT.of (sA _ _ hb), r1, _, rfl, c0, _, _, _, rfl, rfl, SqT.of r2, map_at0 _ (i := t) (by omega) (by omega), _, _, rfl, rfl, ?_⟩
    refine ⟨_, rfl, _, _, rfl, ⟨by decide, by decide, by rw [List.length_map]; omega, by rw [List.length_map]; omega⟩, for_range (lo := 1) (n := ((((w.map V.int).length : Nat) : Int) - 1).toNat) (fun j σ B => B = A ∧ ∃ v6 v7, σ = [some (.ref a), some (.ref b), some (.int ((w.map V.int).length : Nat)), some (.ref D), some (.int (0 + (t : Nat))), some (.int (SM.minL ((List.range (j + 1)).map (vAt w tb t)))), v6, v7])
      ⟨rfl, _, _, rfl⟩ (fun j σ B hj pB => ?_) (fun σ B pB => ?_)⟩
    · obtain ⟨rfl, v6, v7, rfl⟩ := pB
      have hj2 : j + 1 < w.length := by
        rw [List.length_map] at hj
        omega
      obtain ⟨c1, r1, r2, r3⟩ := row (s := j + 1) (z := 1 + (j : Int)) sA hj2 (by omega)
      refine ⟨_, rfl, _, rfl, a, _, _, _, rfl, rfl, SqT.of (sA _ _ ha), map_at0 w hj2 (by omega), _, rfl, _, rfl, b, _, _, _, rfl, rfl, SqT.of (sA _ _ hb), r1, _, rfl, c1, _, _, _, rfl, rfl, SqT.of r2, map_at0 _ (i := t) (by omega) (by omega), _, _, rfl, rfl, ?_⟩
      refine ⟨_, rfl, _, rfl, _, _, rfl, rfl, _, rfl, ?_⟩
      have e := min_up w tb t (j := j + 1) (by omega)
      have ev : w.getD (j + 1) 0 + (tb.getD (j + 1) []).getD t 0 = vAt w tb t (j + 1) := rfl
      rw [ev]
      refine ite2 (fun hz => ⟨_, rfl, rfl, some (.int (1 + (j : Nat))), some (.int (vAt w tb t (j + 1))), ?_⟩) (fun hz => ⟨rfl, some (.int (1 + (j : Nat))), some (.int (vAt w tb t (j + 1))), ?_⟩)
      · rw [e]
        unfold SM.less
        rw [if_pos (of_decide_eq_true hz)]
        rfl
      · rw [e]
        unfold SM.less
        rw [if_neg (fun z => hz (decide_eq_true z))]
        rfl
    · obtain ⟨rfl, v6, v7, rfl⟩ := pB
      obtain ⟨ys, hys⟩ := fill_at p
      have en : ((((w.map V.int).length : Nat) : Int) - 1).toNat + 1 = w.length := by
        rw [List.length_map]
        omega
      rw [en]
      obtain ⟨acc, a1, a2, a3⟩ := fill_step ri_mono sk hD (by omega) p (Same.refl _) (y := .int (SM.minL ((List.range w.length).map (vAt w tb t)))) (z := SM.minL ((List.range w.length).map (vAt w tb t))) rfl rfl
      exact ⟨_, rfl, .inl ⟨rfl, _, SqL.of hys⟩, _, rfl, _, _, _, rfl, rfl, a1, a2, ⟨_, _, _, _, rfl⟩, a3⟩
  · obtain ⟨⟨v4, v5, v6, v7, rfl⟩, p⟩ := p
    obtain ⟨ts, e1, e2, e3, e4⟩ := fill_end ri_mono hD p
    have et : ts = SM.led w tb := range_ext (by rw [e1, List.length_map]; omega) e2
    rw [et] at e4
    exact ⟨_, rfl, q _ _ e3 e4⟩
/-! ### lowered -/
def spLowered : Sp := fun vs H Q _ => ∃ (v : V) (w : List Int), vs = [v] ∧ 1 ≤ w.length ∧ w.length ≤ 1000 ∧ Sd Ri H v w ∧ ∀ l p H', Same H H' → new H H' p = some (.tup [.ref l, .int (SM.minL w)]) → Rt (new H H') (.ref l) (SM.low w) → Q (.ref p) H'
theorem scLowered : FnScope ["work", "least"] ["work"] (defScope (top 16)) := ⟨rfl, rfl, rfl, by decide +kernel, rfl, by decide +kernel, by decide +kernel⟩
theorem ok_lowered (T : Tx K mg) : Fn2 P w K mg base 1 T.lowered.f T.lowered.fd ["work"] spLowered := by
  refine ok2 T.lowered.F scLowered (fun vs H Q E h => ?_) fun cdv A outer s H vs Q E c pn hm h => ?_
  · obtain ⟨_, _, rfl, _⟩ := h
    rfl
  obtain ⟨v, w, rfl, h1, h2, ⟨a, vs, rfl, ha, pr⟩, q⟩ := h
  have nd := scLowered.nd
  refine ⟨_, pss_cons (ps_set (i := 1) nd rfl (Or.inr rfl) (pe_callB (cr_minA hm.md) rfl T.nmin boot_min (pa_cons (pv 0) pa_nil)))
    (pss_one (ps_ret (pe_tup (pa_cons (pe_callTy call_tuple_of rfl T.ntup boot_tuple (pa_cons (pe_lcSub (i := 1) hm.md (pv 0) rfl rfl) pa_nil)) (pa_cons (pv 1) pa_nil))))), ?_⟩
  rw [ri_iff pr] at ha
  have hsq : SqL K H a (w.map V.int) ∨ SqT K H a (w.map V.int) := ha.imp SqL.of SqT.of
  refine ⟨_, rfl, a, w, rfl, hsq, by omega, fun m hmm hle => ?_⟩
  have em := SM.minL_uniq hmm hle
  subst em
  refine ⟨_, rfl, a, w, _, rfl, hsq, rfl, fun D hD => ⟨D, _, rfl, .inl ⟨SqL.of upd_same, fun l hl => ⟨_, rfl, (by show 2 ≤ sizeLine; decide), fun p hp => ?_⟩⟩⟩⟩
  have s1 := same_upd (o := .lst (w.map fun n => V.int (n - SM.minL w))) hD
  have s2 := same_upd (o := .tup (w.map fun n => V.int (n - SM.minL w))) hl
  have s3 := same_upd (o := .tup [.ref l, .int (SM.minL w)]) hp
  have s12 := Same.trans s1 s2
  refine q l p _ (Same.trans s12 s3) (new_at (Dom.of s12 _ hp) upd_same) (td_ints.mpr ⟨l, rfl, new_at (Dom.of s1 _ hl) (s3 _ _ ?_)⟩)
  rw [upd_same]
  unfold SM.low
  rw [List.map_map]
  rfl
/-! ### the error -/
def spTM (C : Addr) : Sp := fun vs H Q _ => ∃ (a : Addr) (z : Str), vs = [.ref a, .str z] ∧ H a = some (exo a C none) ∧ ∀ dx, H dx = none → dx ≠ a → Q .non (upd (upd H dx (exd dx [("word", .str z)])) a (exo a C (some dx)))
theorem scTM : FnScope ["self", "word"] ["self", "word"] (defScope (inClass (top 12) 0)) := ⟨rfl, rfl, rfl, by decide +kernel, rfl, by decide +kernel, by decide +kernel⟩
theorem ok_tm (T : Tx K mg) : Fn2 P w K mg base 1 T.iTM.f T.iTM.fd ["self", "word"] (spTM T.cTM.C) := by
  refine ok2 T.iTM.F scTM (fun vs H Q E h => ?_) fun cdv A outer s H vs Q E c pn hm h => ?_
  · obtain ⟨_, _, rfl, _⟩ := h
    rfl
  obtain ⟨a, z, rfl, ha, q⟩ := h
  refine ⟨_, pss_one (ps_ost (pv 0) (pv 1)), ?_⟩
  exact ⟨_, rfl, _, rfl, a, T.cTM.C, rfl, T.oTM, T.naWord, .inl ⟨ha, fun dx hn hne => q dx hn hne⟩⟩
/-! ### Standings -/
def fSg (v1 v2 v3 : V) : List (Str × V) := [("lots", v1), ("rows", v2), ("steps", v3)]
theorem fSg_put (v1 v2 v3 : V) : putF "steps" v3 (putF "rows" v2 (putF "lots" v1 [])) = fSg v1 v2 v3 := by
  have e1 : putF "lots" v1 [] = ([("lots", v1)] : List (Str × V)) := rfl
  have e2 : putF "rows" v2 ([("lots", v1)] : List (Str × V)) = ([("lots", v1), ("rows", v2)] : List (Str × V)) := put_past (by decide +kernel)
  rw [e1, e2]
  exact (put_past (by decide +kernel)).trans (congrArg _ (put_past (by decide +kernel)))
theorem fSg_lots (v1 v2 v3 : V) : (fSg v1 v2 v3).lookup ("lots" : Str) = some v1 := lk_here
theorem fSg_rows (v1 v2 v3 : V) : (fSg v1 v2 v3).lookup ("rows" : Str) = some v2 := (lk_past (by decide +kernel)).trans lk_here
theorem fSg_steps (v1 v2 v3 : V) : (fSg v1 v2 v3).lookup ("steps" : Str) = some v3 := (lk_past (by decide +kernel)).trans ((lk_past (by decide +kernel)).trans lk_here)
def spSgInit (C : Addr) : Sp := fun vs H Q _ => ∃ (p dx : Addr) (v1 v2 v3 : V), vs = [.ref p, v1, v2, v3] ∧ H p = some (.ins C dx []) ∧ Q .non (upd H p (.ins C dx (fSg v1 v2 v3)))
theorem scSgInit : FnScope ["self", "lots", "rows", "steps"] ["self", "lots", "rows", "steps"] (defScope (inClass (top 19) 0)) := ⟨rfl, rfl, rfl, by decide +kernel, rfl, by decide +kernel, by decide +kernel⟩
theorem ok_sgInit (T : Tx K mg) : FnOk P w K mg base CX0 1 T.iSg.f T.iSg.fd ["self", "lots", "rows", "steps"] (spSgInit T.cSg.C) := by
  refine okF T.iSg.F scSgInit (fun vs H Q E h => ?_) fun cdv A outer s H vs Q E hr h => ?_
  · obtain ⟨_, _, _, _, _, rfl, _⟩ := h
    rfl
  obtain ⟨p, dx, v1, v2, v3, rfl, hp, q⟩ := h
  refine ⟨_, (pss_cons (ps_fld (pv 0) (pv 1) rfl)
    (pss_cons (ps_fld (pv 0) (pv 2) rfl)
    (pss_one (ps_fld (pv 0) (pv 3) rfl)))), ?_⟩
  refine ⟨_, rfl, _, rfl, p, _, dx, _, rfl, hp, T.clSg, T.naLots, by decide, ?_⟩
  refine ⟨_, rfl, _, rfl, p, _, dx, _, rfl, upd_same, T.clSg, T.naRows, by show 1 < 1000; decide, ?_⟩
  refine ⟨_, rfl, _, rfl, p, _, dx, _, rfl, upd_same, T.clSg, T.naSteps, by show 2 < 1000; decide, ?_⟩
  rw [upd_upd, upd_upd, fSg_put]
  exact q
theorem scSgLen : FnScope ["self"] ["self"] (defScope (inClass (top 19) 1)) := ⟨rfl, rfl, rfl, by decide +kernel, rfl, by decide +kernel, by decide +kernel⟩
theorem ok_sgLen (T : Tx K mg) : FnOk P w K mg base CX0 1 T.lenSg.f T.lenSg.fd ["self"] (spLen K T.cSg.C) := by
  refine okF T.lenSg.F scSgLen (fun vs H Q E h => ?_) fun cdv A outer s H vs Q E hr h => ?_
  · obtain ⟨_, _, _, _, _, rfl, _⟩ := h
    rfl
  obtain ⟨a, dx, fs, t, xs, rfl, ha, hl, ht, q⟩ := h
  refine ⟨_, pss_one (ps_ret (pe_callB call_len_seq rfl T.nlen boot_len (pa_cons (pe_fld (pv 0) rfl) pa_nil))), ?_⟩
  exact ⟨_, rfl, a, _, dx, fs, _, rfl, ha, T.clSg, T.naLots, hl, t, xs, rfl, .inr ht, q⟩
theorem scSgIter : FnScope ["self"] ["self"] (defScope (inClass (top 19) 2)) := ⟨rfl, rfl, rfl, by decide +kernel, rfl, by decide +kernel, by decide +kernel⟩
theorem ok_sgIter (T : Tx K mg) : FnOk P w K mg base CX0 1 T.itSg.f T.itSg.fd ["self"] (spIter K T.cSg.C) := by
  refine okF T.itSg.F scSgIter (fun vs H Q E h => ?_) fun cdv A outer s H vs Q E hr h => ?_
  · obtain ⟨_, _, _, _, _, rfl, _⟩ := h
    rfl
  obtain ⟨a, dx, fs, t, xs, rfl, ha, hl, ht, q⟩ := h
  refine ⟨_, pss_one (ps_ret (pe_callB call_iterT rfl T.niter boot_iter (pa_cons (pe_fld (pv 0) rfl) pa_nil))), ?_⟩
  exact ⟨_, rfl, a, _, dx, fs, _, rfl, ha, T.clSg, T.naLots, hl, t, xs, rfl, ht, fun it hit => q it hit⟩
theorem liSg (T : Tx K mg) : LiC K T.cSg.C T.itSg.f T.lenSg.f := ⟨T.itSg.m, T.itSg.fn, T.lenSg.m, T.lenSg.fn⟩
end SD

/-! ## SP4 -/
set_option maxHeartbeats 4000000
namespace SD
open PySem PySem.Spec PyProof.Rows L2 SR
variable {P : Program} {w : World} {K : PySem.W.Frag} {mg : Str → Option Value} {base : Heap}
def kid (s : Stmt) (j : Nat) : Stmt := match s with
  | .While _ b _ _ => b.getD j (.Pass ⟨0, 0, 0, 0⟩)
  | .For _ _ b _ _ => b.getD j (.Pass ⟨0, 0, 0, 0⟩)
  | .If _ b _ _ => b.getD j (.Pass ⟨0, 0, 0, 0⟩)
  | _ => .Pass ⟨0, 0, 0, 0⟩
/-- raise TooMany('standing'), the last return -/
def stRaise : Stmt := kid (kid (kid (kid ((defBody (top 20)).getD 4 (.Pass ⟨0, 0, 0, 0⟩)) 3) 1) 0) 0
def stLast : Stmt := (defBody (top 20)).getD 5 (.Pass ⟨0, 0, 0, 0⟩)
theorem ask_ascii : ∀ x ∈ asksL, x.cps.all (· < 128) = true := by decide +kernel
theorem walk_enumS {x : Str} : Walk (Ites x) x.cps.size (fun _ => True) (fun i H v H' => ∃ T c, v = .ref T ∧ H T = none ∧ x.cps[i]? = some c ∧ H' = upd H T (.tup [.int (i : Nat), .str ⟨#[c]⟩])) :=
  ⟨fun _ _ hi _ => hi, fun _ _ => rfl, fun _ _ _ _ _ _ y => y⟩
/-- the search is done -/
structure FinSt (H A : Hp) (L R S : Addr) (s : SM.BS Str) : Prop where
  l : Ld Rt (new H A) (.ref L) s.lots
  r : Ld Rs (new H A) (.ref R) s.rows
  s : Ld (Td Rp) (new H A) (.ref S) s.steps
abbrev nStand : List Str := ["store", "lots", "rows", "places", "steps", "lot", "row", "items", "k", "ask", "after", "least"]
theorem scStand : FnScope nStand ["store"] (defScope (top 20)) := ⟨rfl, rfl, rfl, by decide +kernel, rfl, by decide +kernel, by decide +kernel⟩
abbrev tRaise (C : Addr) (E : XK) : TS := fun _ σ H => tMkO C (spTM C) [] (tCons (tC (.str "standing")) tNil) σ H fun cls d H' => E cls d H'
theorem body_standings (T : Tx K mg) {CX : CXT} {q : Str} {f : Addr} {cdv : Value} {A : Around} {outer : List Env} {s : Shared} {H : Hp} {E : XK} {c : Bool} {pn : List (Addr × Obj)} (hp : PassesOwn (model P w) (cxM CX P w K mg base nStand q (defScope (top 20)) f cdv A outer s H E c pn).A (cxM CX P w K mg base nStand q (defScope (top 20)) f cdv A outer s H E c pn).env (cxM CX P w K mg base nStand q (defScope (top 20)) f cdv A outer s H E c pn).xe)
    (hm : MdR 1 (cxM CX P w K mg base nStand q (defScope (top 20)) f cdv A outer s H E c pn)) {u : TS} (hraise : PS (cxM CX P w K mg base nStand q (defScope (top 20)) f cdv A outer s H E c pn) stRaise (tRaise T.cTM.C E)) (hlast : PS (cxM CX P w K mg base nStand q (defScope (top 20)) f cdv A outer s H E c pn) stLast u)
    {D : Ends} {p : Addr} {W : Wt} {G : Hp} (sG : Same G H) (hst : StAt T.cSt.C G H p W) (ok : WsOk W)
    (hE : ∀ i B d, 1000 < (stW W i).lots.length → Same H B → H d = none → B d = some (.xd [("word", .str "standing")]) → E (.ref T.cTM.C) (some d) B)
    (hu : ∀ N B L R PD S r, Fin W N → N ≤ 1000 → Same H B → FinSt H B L R S (stW W N) → u D ([some (.ref p), some (.ref L), some (.ref R), some (.ref PD), some (.ref S)] ++ r) B) :
    ∃ t, PSs (cxM CX P w K mg base nStand q (defScope (top 20)) f cdv A outer s H E c pn) (defBody (top 20)) t ∧ t D (start nStand [.ref p]) H := by
  have nd := scStand.nd
  obtain ⟨tM, hM⟩ := T.mostStandings
  refine ⟨_, (pss_cons (ps_set (i := 1) nd rfl (Or.inl rfl) (pe_lst (pa_cons (pe_ix ix_tup (pe_fM T.lowered (ok_lowered T) (hm.mono (by omega)) (pa_cons (pe_fld (pv 0) rfl) pa_nil)) pe_int (fun _ _ => rfl)) pa_nil)))
    (pss_cons (ps_set (i := 2) nd rfl (Or.inl rfl) (pe_lst (pa_cons pe_str pa_nil)))
    (pss_cons (ps_set (i := 3) nd rfl (Or.inl rfl) (pe_disp1 hm.hu (pe_ix ix_list (pv 1) pe_int (fun _ _ => rfl)) pe_int))
    (pss_cons (ps_set (i := 4) nd rfl (Or.inl rfl) (pe_lst pa_nil))
    (pss_cons (ps_while hp (pt_cmpR op_lt (pe_callB call_len_seq rfl T.nlen boot_len (pa_cons (pv 4) pa_nil)) (pe_callB call_len_seq rfl T.nlen boot_len (pa_cons (pv 1) pa_nil)) (nomark _))
      (pss_cons (ps_set (i := 5) nd rfl (Or.inl rfl) (pe_ix ix_list (pv 1) (pe_callB call_len_seq rfl T.nlen boot_len (pa_cons (pv 4) pa_nil)) (fun _ _ => rfl)))
      (pss_cons (ps_set (i := 6) nd rfl (Or.inl rfl) (pe_ix ix_list (pv 2) (pe_callB call_len_seq rfl T.nlen boot_len (pa_cons (pv 4) pa_nil)) (fun _ _ => rfl)))
      (pss_cons (ps_set (i := 7) nd rfl (Or.inl rfl) (pe_lst pa_nil))
      (pss_cons (ps_forM hp hm.md (pim_enumS rfl T.nenum (pa_cons (pe_fld (pv 0) rfl) pa_nil)) (pg_tupM hm.md (pgs_cons (pg_name (i := 8) nd rfl (Or.inl rfl)) (pgs_cons (pg_name (i := 9) nd rfl (Or.inl rfl)) pgs_nil)))
      (pss_cons (ps_asg (pe_fM T.lowered (ok_lowered T) (hm.mono (by omega)) (pa_cons (pe_fM T.led (ok_led T) (hm.mono (by omega)) (pa_cons (pv 5) (pa_cons (pe_ix ix_tup (pe_fld (pv 0) rfl) (pv 8) (fun _ _ => rfl)) pa_nil))) pa_nil)) (pg_tupM hm.md (pgs_cons (pg_name (i := 10) nd rfl (Or.inl rfl)) (pgs_cons (pg_name (i := 11) nd rfl (Or.inl rfl)) pgs_nil))))
      (C8.pss_cut (ps_if (pt_cmp (pc_dnotin hm.hu (pv 10) (pv 3))) (pss_cons (ps_if (pt_cmpR op_eq (pe_callB call_len_seq rfl T.nlen boot_len (pa_cons (pv 1) pa_nil)) (pe_glob (v := .int 1000) rfl hM ⟨_, rfl⟩) (nomark _)) (pss_one hraise) pss_nil)
    (pss_cons (ps_dput hm.hu (pv 3) (pv 10) (pe_callB call_len_seq rfl T.nlen boot_len (pa_cons (pv 1) pa_nil)) rfl)
    (pss_cons (ps_expr (pe_bm PySem.F.plainAttrs_list PySem.F.slot_list_append PySem.F.type_list_append mt_append (pv 1) (pa_cons (pv 10) pa_nil)))
    (pss_one (ps_expr (pe_bm PySem.F.plainAttrs_list PySem.F.slot_list_append PySem.F.type_list_append mt_append (pv 2) (pa_cons (pe_op op_add_str (pv 6) (pv 9)) pa_nil))))))) pss_nil)
      (pss_one (ps_expr (pe_bm PySem.F.plainAttrs_list PySem.F.slot_list_append PySem.F.type_list_append mt_append (pv 7) (pa_cons (pe_tup (pa_cons (pe_dget hm.hu (pv 3) (pv 10) (fun _ _ => rfl)) (pa_cons (pv 11) pa_nil))) pa_nil)))))))
      (pss_one (ps_expr (pe_bm PySem.F.plainAttrs_list PySem.F.slot_list_append PySem.F.type_list_append mt_append (pv 4) (pa_cons (pe_callTy call_tuple_of rfl T.ntup boot_tuple (pa_cons (pv 7) pa_nil)) pa_nil)))))))))
    (pss_one hlast)))))), ?_⟩
  obtain ⟨dx, vb, vc, ve, hpAt, hb, hc, _⟩ := hst.at_
  obtain ⟨pb, rfl, hpb0⟩ := td_ints.mp hb
  obtain ⟨pc, cvs, rfl, hpc0, prc0⟩ := hc
  have hpb := sG _ _ hpb0
  have hpc := sG _ _ hpc0
  have prc : Paired (T2i H) cvs W.c := L2.Paired.mapP prc0 fun x y z => t2_mono _ _ x y sG z
  have n1 := ok.n1
  have n3 := ok.n3
  have x10 := (ask_len _ ok.x).2
  refine ⟨_, rfl, p, _, dx, _, _, rfl, hpAt, T.clSt, T.naBegins, fSt_begins _ _ _ _, _, W.b, rfl, by rw [ok.b]; omega, by rw [ok.b]; omega, ⟨pb, _, rfl, .inr hpb, ri_of _⟩, fun l q H1 s1 hq0 hl0 => ⟨q, _, _, _, rfl, rfl, SqT.of (new_sub _ _ _ _ hq0), rfl, (by show 1 ≤ sizeLine; decide), fun L hL => ⟨(by show 1 ≤ sizeLine; decide), fun R hR => ?_⟩⟩⟩
  obtain ⟨l', el', hl1⟩ := td_ints.mp hl0
  cases el'
  have hl : H1 l = some (.tup ((SM.low W.b).map V.int)) := new_sub _ _ _ _ hl1
  have sH2 := same_upd (o := .lst [V.ref l]) hL
  have sH3 := same_upd (o := .lst [V.str ""]) hR
  intro PD hPD
  have sH4 := same_upd (o := .dT []) hPD
  have hL3 : upd (upd (upd H1 L (.lst [V.ref l])) R (.lst [V.str ""])) PD (.dT []) L = some (.lst [V.ref l]) := sH4 _ _ (sH3 _ _ upd_same)
  have hR3 : upd (upd (upd H1 L (.lst [V.ref l])) R (.lst [V.str ""])) PD (.dT []) R = some (.lst [V.str ""]) := sH4 _ _ upd_same
  have hl3 : upd (upd (upd H1 L (.lst [V.ref l])) R (.lst [V.str ""])) PD (.dT []) l = some (.tup ((SM.low W.b).map V.int)) := sH4 _ _ (sH3 _ _ (sH2 _ _ hl))
  refine ⟨_, rfl, L, _, _, _, rfl, rfl, SqL.of hL3, rfl, l, (SM.low W.b).map Sum.inl, rfl, by rw [inl_kV]; exact hl3, upd_same, (by show 0 ≤ sizeLine; decide), fun S hS => ?_⟩
  have eput : ([((SM.low W.b).map (Sum.inl : Int → Key), V.int 0)] : List (List Key × V)) = putK [] ((SM.low W.b).map Sum.inl) (V.int 0) := rfl
  rw [eput] at hS
  show tSeq _ _ D _ (upd (upd _ PD (.dT (putK [] ((SM.low W.b).map Sum.inl) (V.int 0)))) S (.lst []))
  generalize eA4 : upd (upd (upd (upd H1 L (.lst [V.ref l])) R (.lst [V.str ""])) PD (.dT [])) PD (.dT (putK [] ((SM.low W.b).map Sum.inl) (V.int 0))) = A4 at hS ⊢
  have nLR : L ≠ R := fun z => by rw [← z, upd_same] at hR; cases hR
  have nPL : PD ≠ L := fun z => by
    have := sH3 _ _ (upd_same (H := H1) (a := L) (o := .lst [V.ref l]))
    rw [z, this] at hPD; cases hPD
  have nPR : PD ≠ R := fun z => by rw [z, upd_same] at hPD; cases hPD
  have A4L : A4 L = some (.lst [V.ref l]) := by rw [← eA4, upd_ne nPL.symm]; exact hL3
  have A4R : A4 R = some (.lst [V.str ""]) := by rw [← eA4, upd_ne nPR.symm]; exact hR3
  have A4D : A4 PD = some (.dT (putK [] ((SM.low W.b).map Sum.inl) (V.int 0))) := by rw [← eA4]; exact upd_same
  have HL : H L = none := Dom.of s1 _ hL
  have HR : H R = none := Dom.of (Same.trans s1 sH2) _ hR
  have HP : H PD = none := Dom.of (Same.trans s1 (Same.trans sH2 sH3)) _ hPD
  have sA4 : Same H A4 := by
    rw [← eA4]
    exact same_updr (Same.trans s1 (Same.trans sH2 (Same.trans sH3 sH4))) HP
  have A4l : A4 l = some (.tup ((SM.low W.b).map V.int)) := by
    rw [← eA4, upd_ne (ne_of hl3 upd_same (fun z => nomatch z))]
    exact hl3
  have HS : H S = none := Dom.of sA4 _ hS
  have nSL : S ≠ L := fun z => by rw [z, A4L] at hS; cases hS
  have nSR : S ≠ R := fun z => by rw [z, A4R] at hS; cases hS
  have nSP : S ≠ PD := fun z => by rw [z, A4D] at hS; cases hS
  have nSl : S ≠ l := fun z => by rw [z, A4l] at hS; cases hS
  have nlL : l ≠ L := ne_of A4l A4L (fun z => nomatch z)
  have nlR : l ≠ R := ne_of A4l A4R (fun z => nomatch z)
  have nlP : l ≠ PD := ne_of A4l A4D (fun z => nomatch z)
  have Hl0 : H l = none := by
    cases q9 : H l with
    | none => rfl
    | some u => rw [new_none q9] at hl1; cases hl1
  clear hL hR hPD
  have sS := same_upd (o := .lst []) hS
  generalize hM0 : [L, R, PD, S] = M
  have mL : L ∈ M := by rw [← hM0]; simp
  have mR : R ∈ M := by rw [← hM0]; simp
  have mP : PD ∈ M := by rw [← hM0]; simp
  have mS : S ∈ M := by rw [← hM0]; simp
  have ml : l ∉ M := by rw [← hM0]; simp [nlL, nlR, nlP, nSl.symm]
  have memM : ∀ b, b ∈ M → b = L ∨ b = R ∨ b = PD ∨ b = S := fun b hb => by rw [← hM0] at hb; simpa using hb
  refine ⟨fun m σ A => ∃ i, m = 1000 - i ∧ (∃ v5 v6 v7 v8 v9 v10 v11, σ = [some (.ref p), some (.ref L), some (.ref R), some (.ref PD), some (.ref S), v5, v6, v7, v8, v9, v10, v11]) ∧ (∀ j, j < i → j < (stW W j).lots.length) ∧ Same H A ∧
      Hs (hid M (new H A)) A L R PD (stW W i).lots (stW W i).rows ∧ (∃ svs, A S = some (.lst svs) ∧ Paired (Td Rp (hid M (new H A))) svs (stW W i).steps) ∧ (stW W i).lots.length ≤ 1000,
    ⟨_, 0, rfl, ⟨_, _, _, _, _, _, _, rfl⟩, fun j hj => absurd hj (Nat.not_lt_zero _), Same.trans sA4 sS, ⟨⟨_, sS _ _ A4L, .cons (td_ints.mpr ⟨l, rfl, hid_at ml (new_at Hl0 (sS _ _ A4l))⟩) .nil⟩, sS _ _ A4R, dic_1 (sS _ _ A4D)⟩, ⟨_, upd_same, .nil⟩, (by show 1 ≤ 1000; decide)⟩, ?_⟩
  rintro m σ A ⟨i, rfl, ⟨v5, v6, v7, v8, v9, v10, v11, rfl⟩, hj, sA, hs, ⟨svs, eS, ps⟩, h1000⟩
  obtain ⟨⟨lvs, eL, pl⟩, eR, hd⟩ := id hs
  have llv : lvs.length = (stW W i).lots.length := paired_len pl
  have lsv : svs.length = i := by rw [paired_len ps]; exact (SM.st_steps (D := DW W) (b0 W) rfl rfl i hj).1
  have hle := stW_le hj
  refine ⟨_, rfl, S, svs, rfl, .inl (SqL.of eS), _, rfl, L, lvs, rfl, .inl (SqL.of eL), _, _, rfl, rfl, _, rfl, ite2 (fun hz => ?_) (fun hz => ?_)⟩
  rotate_left
  · have hge : ¬ ((svs.length : Int) < (lvs.length : Int)) := fun z => hz (decide_eq_true z)
    have ei : (stW W i).lots.length = i := by omega
    have g : Same (hid M (new H A)) (new H A) := hid_sub _ _
    exact hu i A L R PD S _ ⟨hj, ei⟩ (by omega) sA ⟨⟨L, lvs, rfl, new_at HL eL, L2.Paired.mapP pl fun x y z => rt_mono _ _ x y g z⟩, ⟨R, _, rfl, new_at HR eR, rs_of _⟩, S, svs, rfl, new_at HS eS, L2.Paired.mapP ps fun x y z => td_mono rp_mono _ _ x y g z⟩
  have hlt0 : (svs.length : Int) < (lvs.length : Int) := of_decide_eq_true hz
  have hlt : i < (stW W i).lots.length := by omega
  obtain ⟨lot, e1⟩ : ∃ lot, (stW W i).lots[i]? = some lot := ⟨_, List.getElem?_eq_getElem hlt⟩
  obtain ⟨row, e2⟩ : ∃ row, (stW W i).rows[i]? = some row := ⟨_, List.getElem?_eq_getElem (by rw [stW_len]; exact hlt)⟩
  have llot : lot.length = W.n := stW_n ok.wd i lot (List.mem_of_getElem? e1)
  have lrow := stW_row i row (List.mem_of_getElem? e2)
  obtain ⟨lv, elv, rlv⟩ := paired_atr pl e1
  obtain ⟨lot', elot, hlot0⟩ := td_ints.mp rlv
  subst elot
  refine ⟨fun σ A => (∃ v5 v6 v7 v8 v9 v10 v11, σ = [some (.ref p), some (.ref L), some (.ref R), some (.ref PD), some (.ref S), v5, v6, v7, v8, v9, v10, v11]) ∧ (∀ j, j < i + 1 → j < (stW W j).lots.length) ∧ Same H A ∧
      Hs (hid M (new H A)) A L R PD (stW W (i + 1)).lots (stW W (i + 1)).rows ∧ (∃ svs, A S = some (.lst svs) ∧ Paired (Td Rp (hid M (new H A))) svs (stW W (i + 1)).steps) ∧ (stW W (i + 1)).lots.length ≤ 1000,
    fun σ' H' h => ⟨1000 - (i + 1), by omega, i + 1, rfl, h⟩, ?_⟩
  refine ⟨_, rfl, _, rfl, S, svs, rfl, .inl (SqL.of eS), L, lvs, _, _, rfl, rfl, SqL.of eL, (by rw [lsv]; exact atI_nat elv), ?_⟩
  refine ⟨_, rfl, _, rfl, S, svs, rfl, .inl (SqL.of eS), R, _, _, V.str row, rfl, rfl, SqL.of eR, (by rw [lsv]; exact atI_nat (by rw [List.getElem?_map, e2]; rfl)), ?_⟩
  refine ⟨(by show 0 ≤ sizeLine; decide), fun I hI => ?_⟩
  have HI : H I = none := Dom.of sA _ hI
  have nIL : I ≠ L := fun z => by rw [z, eL] at hI; cases hI
  have nIR : I ≠ R := fun z => by rw [z, eR] at hI; cases hI
  have nIP : I ≠ PD := fun z => by
    obtain ⟨kvs, e, _⟩ := hd
    rw [z, e] at hI; cases hI
  have nIS : I ≠ S := fun z => by rw [z, eS] at hI; cases hI
  have sI := same_upd (o := .lst []) hI
  generalize hM2 : I :: M = M2
  have vI : Same (hid M (new H A)) (hid M2 (new H (upd A I (.lst [])))) := by
    rw [← hM2]
    exact Same.trans (hid_more hI) (hid_step (stm_of sI))
  have mI2 : I ∈ M2 := by rw [← hM2]; simp
  have mL2 : L ∈ M2 := by rw [← hM2]; simp [mL]
  have mR2 : R ∈ M2 := by rw [← hM2]; simp [mR]
  have mP2 : PD ∈ M2 := by rw [← hM2]; simp [mP]
  have memM2 : ∀ b, b ∈ M2 → b = I ∨ b = L ∨ b = R ∨ b = PD ∨ b = S := fun b hb => by
    rw [← hM2] at hb
    rcases List.mem_cons.mp hb with h | h
    · exact .inl h
    · exact .inr (memM b h)
  refine ⟨_, rfl, p, _, dx, _, _, rfl, sI _ _ (sA _ _ hpAt), T.clSt, T.naAsks, fSt_asks _ _ _ _, W.x, rfl, ask_ascii _ ok.x, for_it walk_enumS (fun k σ B => (∃ v8 v9 v10 v11, σ = [some (.ref p), some (.ref L), some (.ref R), some (.ref PD), some (.ref S), some (.ref lot'), some (.str row), some (.ref I), v8, v9, v10, v11]) ∧ Same H B ∧
      Hs (hid M2 (new H B)) B L R PD (SM.inn (DW W) lot row (stW W i) k).lots (SM.inn (DW W) lot row (stW W i) k).rows ∧ (∃ svs, B S = some (.lst svs) ∧ Paired (Td Rp (hid M2 (new H B))) svs (stW W i).steps) ∧ (∃ ivs, B I = some (.lst ivs) ∧ Paired (Rp (hid M2 (new H B))) ivs (SM.inn (DW W) lot row (stW W i) k).items) ∧
      (SM.inn (DW W) lot row (stW W i) k).lots.length ≤ 1000 ∧ B lot' = some (.tup (lot.map V.int)))
    ⟨⟨_, _, _, _, rfl⟩, Same.trans sA sI, hs.step vI sI, ⟨svs, sI _ _ eS, L2.Paired.mapP ps fun x y z => td_mono rp_mono _ _ x y vI z⟩, ⟨_, upd_same, .nil⟩, h1000, sI _ _ (new_sub _ _ _ _ (hid_sub _ _ _ _ hlot0))⟩ (fun _ _ _ _ _ => True.intro) (fun k y σ B B0 hk pk hy => ?_) (fun σ B pk => ?_)⟩
  · clear hs hd eL pl eR llv eS ps lsv hlot0 elv rlv hz hlt0
    obtain ⟨⟨v8, v9, v10, v11, rfl⟩, sB, hs, ⟨svs, eS, ps⟩, ⟨ivs, eI, pi⟩, hJ1000, elot⟩ := pk
    obtain ⟨T2, ch, rfl, hT2, ech, rfl⟩ := hy
    have hk2 : k < W.x.length := hk
    have ech2 : ch = W.x.cps.getD k 0 := by
      have hk3 : k < W.x.cps.size := hk
      rw [Array.getElem?_eq_getElem hk3] at ech
      cases ech
      simp [Array.getD, hk3]
    have sT2 := same_upd (o := .tup [.int (k : Nat), .str ⟨#[ch]⟩]) hT2
    refine ⟨T2, _, rfl, SqT.of upd_same, rfl, _, _, rfl, _, _, rfl, rfl, ?_⟩
    generalize eB0 : upd B T2 (.tup [.int (k : Nat), .str ⟨#[ch]⟩]) = B0 at sT2
    obtain ⟨⟨lvs, eL, pl⟩, eR, kvs, eD, ekl, ekv⟩ := id hs
    generalize hJ : SM.inn (DW W) lot row (stW W i) k = J at hs pl eR ekl ekv pi hJ1000
    have hJr : J.rows.length = J.lots.length := by rw [← hJ]; exact SM.inn_len _ _ _ (stW_len i) k
    have llv : lvs.length = J.lots.length := paired_len pl
    have ecv : cvs[k]? = some (cvs[k]'(by rw [paired_len prc, ok.c]; exact hk2)) := List.getElem?_eq_getElem _
    obtain ⟨t, et, rt⟩ := paired_at prc ecv
    have etb : tbs W k = t := getD_at et
    have htb := ok.wd.tb hk2
    rw [etb] at htb
    have sB0 := Same.trans sB sT2
    refine ⟨_, rfl, _, rfl, p, _, dx, _, _, rfl, sB0 _ _ hpAt, T.clSt, T.naCosts, fSt_costs _ _ _ _, _, rfl, pc, cvs, _, _, rfl, rfl, SqT.of (sB0 _ _ hpc), atI_nat ecv,
      _, _, lot, t, rfl, by omega, by omega, by rw [llot]; exact htb, td_ints.mpr ⟨lot', rfl, sT2 _ _ elot⟩, t2_mono _ _ _ _ sB0 rt, fun va B1 s1' rva => ?_⟩
    have lled : (SM.led lot t).length = W.n := by rw [SM.led_length, llot]
    refine ⟨va, SM.led lot t, rfl, by omega, by omega, ld_sd (R := Ri) (fun _ _ _ h => h) _ _ _ (lm1 _ _ _ _ (new_sub _ _) rva), fun pl2 q2 B2 s2 hq2 rvl => ?_⟩
    refine ⟨q2, _, rfl, SqT.of (new_sub _ _ _ _ hq2), rfl, _, _, rfl, _, _, rfl, rfl, ?_⟩
    obtain ⟨pl3, epl3, hpl0⟩ := td_ints.mp rvl
    cases epl3
    have hpl : B2 pl2 = some (.tup ((SM.low (SM.led lot t)).map V.int)) := new_sub _ _ _ _ hpl0
    have s01 := Same.trans sT2 s1'
    have s12 := Same.trans s01 s2
    have aL := s12 _ _ eL
    have aR := s12 _ _ eR
    have aD := s12 _ _ eD
    have aS := s12 _ _ eS
    have aI := s12 _ _ eI
    have aLot := s12 _ _ elot
    have domM : ∀ b ∈ M2, ∃ u, B1 b = some u := fun b hb => by
      rcases memM2 b hb with z | z | z | z | z <;> subst z
      · exact ⟨_, s01 _ _ eI⟩
      · exact ⟨_, s01 _ _ eL⟩
      · exact ⟨_, s01 _ _ eR⟩
      · exact ⟨_, s01 _ _ eD⟩
      · exact ⟨_, s01 _ _ eS⟩
    have rvl2 : Rt (hid M2 (new H B2)) (.ref pl2) (SM.low (SM.led lot t)) := rt_mono _ _ _ _ (hid_new (Dom.of (Same.trans sB s01)) domM) rvl
    have v02 : Same (hid M2 (new H B)) (hid M2 (new H B2)) := hid_step (stm_of s12)
    have hs2 := hs.step v02 s12
    have ext0 : extS W.x row k = row ++ ⟨#[ch]⟩ := by rw [ech2]; rfl
    refine ⟨fun σ' C => σ' = [some (.ref p), some (.ref L), some (.ref R), some (.ref PD), some (.ref S), some (.ref lot'), some (.str row), some (.ref I), some (.int (k : Nat)), some (.str ⟨#[ch]⟩), some (.ref pl2), some (.int (SM.minL (SM.led lot t)))] ∧ Same H C ∧ Same (hid M2 (new H B2)) (hid M2 (new H C)) ∧
      Hs (hid M2 (new H C)) C L R PD (SM.put J (SM.low (SM.led lot t)) (extS W.x row k) (SM.minL (SM.led lot t))).lots (SM.put J (SM.low (SM.led lot t)) (extS W.x row k) (SM.minL (SM.led lot t))).rows ∧ C S = some (.lst svs) ∧ C I = some (.lst ivs) ∧ C pl2 = some (.tup ((SM.low (SM.led lot t)).map V.int)) ∧
      (SM.put J (SM.low (SM.led lot t)) (extS W.x row k) (SM.minL (SM.led lot t))).lots.length ≤ 1000 ∧ C lot' = some (.tup (lot.map V.int)), ?_, ?_⟩
    · have eb : B2 pl2 = some (.tup (((SM.low (SM.led lot t)).map (Sum.inl : Int → Key)).map kV)) := by rw [inl_kV]; exact hpl
      refine ⟨_, rfl, _, rfl, PD, _, rfl, DGet.t aD eb, _, rfl, ?_⟩
      rw [ekv]
      by_cases m : SM.low (SM.led lot t) ∈ J.lots
      · rw [if_pos m]
        have ep : SM.put J (SM.low (SM.led lot t)) (extS W.x row k) (SM.minL (SM.led lot t)) = { J with items := J.items ++ [(J.lots.idxOf (SM.low (SM.led lot t)), SM.minL (SM.led lot t))] } := by
          unfold SM.put
          rw [if_pos m]
        rw [ep]
        exact iteF ⟨rfl, Same.trans sB s12, Same.refl _, hs2, aS, aI, hpl, hJ1000, aLot⟩
      · rw [if_neg m]
        have ep : SM.put J (SM.low (SM.led lot t)) (extS W.x row k) (SM.minL (SM.led lot t)) = ⟨J.lots ++ [SM.low (SM.led lot t)], J.rows ++ [extS W.x row k], J.items ++ [(J.lots.length, SM.minL (SM.led lot t))]⟩ := by
          unfold SM.put
          rw [if_neg m]
        have npD : pl2 ≠ PD := ne_of hpl aD (fun z => nomatch z)
        have npL : pl2 ≠ L := ne_of hpl aL (fun z => nomatch z)
        have npR : pl2 ≠ R := ne_of hpl aR (fun z => nomatch z)
        have nlD : lot' ≠ PD := ne_of aLot aD (fun z => nomatch z)
        have nlL : lot' ≠ L := ne_of aLot aL (fun z => nomatch z)
        have nlR : lot' ≠ R := ne_of aLot aR (fun z => nomatch z)
        refine iteT ⟨_, rfl, L, _, rfl, .inl (SqL.of aL), rfl, _, rfl, ite2 (fun hz => ?_) (fun hz => ?_)⟩
        · have e1000 : J.lots.length = 1000 := by
            have z := V.int.inj (of_decide_eq_true hz)
            omega
          have big : 1000 < (stW W (i + 1)).lots.length := by
            have et : stW W (i + 1) = ⟨(SM.inn (DW W) lot row (stW W i) W.x.length).lots, (SM.inn (DW W) lot row (stW W i) W.x.length).rows, (stW W i).steps ++ [(SM.inn (DW W) lot row (stW W i) W.x.length).items]⟩ := SM.turn_at (D := DW W) e1 e2
            have mo : (SM.inn (DW W) lot row (stW W i) (k + 1)).lots <+: (SM.inn (DW W) lot row (stW W i) W.x.length).lots := SM.inn_mono (D := DW W) lot row (stW W i) hk2
            have eIn : SM.inn (DW W) lot row (stW W i) (k + 1) = SM.put J (SM.low (SM.led lot t)) (extS W.x row k) (SM.minL (SM.led lot t)) := by rw [← hJ, ← etb]; rfl
            have l9 := mo.length_le
            rw [eIn, ep] at l9
            rw [et]
            simp at l9
            show 1000 < (SM.inn (DW W) lot row (stW W i) W.x.length).lots.length
            omega
          refine ⟨(by show 1 ≤ 1000; decide), fun a ha => ⟨a, "standing", rfl, upd_same, fun d hd hne => ⟨rfl, d, _, upd_same, by rw [upd_ne hne, upd_same], ?_, ?_⟩⟩⟩
          · rw [upd_ne hne] at hd
            exact hd
          · have sC := Same.trans sB s12
            rw [upd_ne hne] at hd
            refine hE (i + 1) _ d big (fun b o e => ?_) (Dom.of sC _ hd) upd_same
            have nbd : b ≠ d := ne_of_none (sC _ _ e) hd
            have nba : b ≠ a := ne_of_none (sC _ _ e) ha
            rw [upd_ne nbd, del_ne nba, upd_ne nba, upd_ne nbd, upd_ne nba]
            exact sC _ _ e
        · have n1000 : J.lots.length ≠ 1000 := fun z => hz (decide_eq_true (by rw [llv, z]; rfl))
          refine ⟨_, rfl, L, _, rfl, .inl (SqL.of aL), _, rfl, _, rfl, PD, _, rfl, DPut.t aD eb (by rw [ekl, sizeLine_eq]; omega), ?_⟩
          have bL : upd B2 PD (.dT (putK kvs ((SM.low (SM.led lot t)).map Sum.inl) (.int (lvs.length : Nat)))) L = some (.lst lvs) := by rw [upd_ne nPL.symm]; exact aL
          refine ⟨_, rfl, .inl ⟨rfl, _, SqL.of bL⟩, _, rfl, L, _, _, rfl, rfl, bL, by rw [llv, sizeLine_eq]; omega, ?_⟩
          have bR : upd (upd B2 PD (.dT (putK kvs ((SM.low (SM.led lot t)).map Sum.inl) (.int (lvs.length : Nat))))) L (.lst (lvs ++ [.ref pl2])) R = some (.lst (J.rows.map V.str)) := by rw [upd_ne nLR.symm, upd_ne nPR.symm]; exact aR
          refine ⟨_, rfl, .inl ⟨rfl, _, SqL.of bR⟩, _, rfl, _, rfl, _, _, rfl, rfl, by rw [sizeLine_eq]; show row.length + 1 ≤ _; omega, R, _, _, rfl, rfl, bR, by rw [List.length_map, hJr, sizeLine_eq]; omega, ?_⟩
          generalize eC : upd (upd (upd B2 PD (.dT (putK kvs ((SM.low (SM.led lot t)).map Sum.inl) (.int (lvs.length : Nat))))) L (.lst (lvs ++ [.ref pl2]))) R (.lst (J.rows.map V.str ++ [.str (row ++ ⟨#[ch]⟩)])) = C
          have st : StM M2 B2 C := by
            rw [← eC]
            exact (stm_upd mP2).trans ((stm_upd mL2).trans (stm_upd mR2))
          have oth : ∀ {b : Addr}, b ≠ PD → b ≠ L → b ≠ R → C b = B2 b := fun {b} h1 h2 h3 => by rw [← eC, upd_ne h3, upd_ne h2, upd_ne h1]
          have vC : Same (hid M2 (new H B2)) (hid M2 (new H C)) := hid_step st
          have sC : Same H C := by
            rw [← eC]
            exact same_updr (same_updr (same_updr (Same.trans sB s12) HP) HL) HR
          have dp := dic_put ekl ekv m
          refine ⟨rfl, sC, vC, ?_, by rw [oth nSP nSL nSR]; exact aS, by rw [oth nIP nIL nIR]; exact aI, by rw [oth npD npL npR]; exact hpl, ?_, by rw [oth nlD nlL nlR]; exact aLot⟩
          · rw [ep]
            refine ⟨⟨lvs ++ [.ref pl2], by rw [← eC, upd_ne nLR, upd_same], paired_snoc (L2.Paired.mapP pl fun x y z => rt_mono _ _ x y (Same.trans v02 vC) z) (rt_mono _ _ _ _ vC rvl2)⟩, ?_, _, ?_, dp.1, dp.2⟩
            · rw [← eC, upd_same, List.map_append, ext0]
              rfl
            · rw [← eC, upd_ne nPR, upd_ne nPL, upd_same, llv]
          · rw [ep]
            show (J.lots ++ [SM.low (SM.led lot t)]).length ≤ 1000
            rw [List.length_append]
            show J.lots.length + 1 ≤ 1000
            omega
    · rintro σ' C ⟨rfl, sC, vC, hsC, cS, cI, hplC, hC1000, cLot⟩
      obtain ⟨pidx, pmem⟩ := put_idx J (SM.low (SM.led lot t)) (extS W.x row k) (SM.minL (SM.led lot t))
      obtain ⟨_, _, kvC, eDC, eklC, ekvC⟩ := id hsC
      have gk := DGet.t (k := (SM.low (SM.led lot t)).map Sum.inl) eDC (by rw [inl_kV]; exact hplC)
      rw [ekvC, if_pos pmem] at gk
      refine ⟨_, rfl, .inl ⟨rfl, _, SqL.of cI⟩, _, rfl, _, rfl, PD, _, rfl, gk, _, rfl, (by show 2 ≤ sizeLine; decide), fun tt htt => ?_⟩
      have st := same_upd (o := .tup [.int ((SM.put J (SM.low (SM.led lot t)) (extS W.x row k) (SM.minL (SM.led lot t))).lots.idxOf (SM.low (SM.led lot t)) : Nat), .int (SM.minL (SM.led lot t))]) htt
      have livs : ivs.length = k := by
        rw [paired_len pi, ← hJ]
        exact (SM.inn_items (D := DW W) lot row (stW W i) k).1
      have ntI : lot' ≠ I := ne_of cLot cI (fun z => nomatch z)
      have eIn : SM.inn (DW W) lot row (stW W i) (k + 1) = SM.put J (SM.low (SM.led lot t)) (extS W.x row k) (SM.minL (SM.led lot t)) := by rw [← hJ, ← etb]; rfl
      refine ⟨I, _, _, rfl, rfl, st _ _ cI, by rw [livs, sizeLine_eq]; omega, ⟨_, _, _, _, rfl⟩, ?_⟩
      generalize eCC : upd (upd C tt (.tup [.int ((SM.put J (SM.low (SM.led lot t)) (extS W.x row k) (SM.minL (SM.led lot t))).lots.idxOf (SM.low (SM.led lot t)) : Nat), .int (SM.minL (SM.led lot t))])) I (.lst (ivs ++ [.ref tt])) = CC
      have vCC : Same (hid M2 (new H C)) (hid M2 (new H CC)) := by
        rw [← eCC]
        exact hid_step ((stm_of st).trans (stm_upd mI2))
      have keep : ∀ {b : Addr} {u : HO}, C b = some u → b ≠ I → CC b = some u := fun {b u} e n => by
        rw [← eCC, upd_ne n]
        exact st _ _ e
      have vB : Same (hid M2 (new H B)) (hid M2 (new H CC)) := Same.trans v02 (Same.trans vC vCC)
      obtain ⟨⟨lvC, eLC, plC⟩, eRC, _⟩ := id hsC
      refine ⟨?_, ?_, ⟨svs, keep cS nIS.symm, L2.Paired.mapP ps fun x y z => td_mono rp_mono _ _ x y vB z⟩, ⟨_, by rw [← eCC, upd_same], ?_⟩, by rw [eIn]; exact hC1000, keep cLot ntI⟩
      · rw [← eCC]
        exact same_updr (Same.trans sC st) HI
      · rw [eIn]
        exact hsC.mv vCC (by rw [keep eLC nIL.symm, eLC]) (by rw [keep eRC nIR.symm, eRC]) (by rw [keep eDC nIP.symm, eDC])
      · rw [eIn, pidx]
        have htI : tt ≠ I := fun z => by rw [z, cI] at htt; cases htt
        refine paired_snoc (L2.Paired.mapP pi fun x y z => rp_mono _ _ x y vB z) ⟨tt, rfl, hid_at (fun z => ?_) (new_at (Dom.of sC _ htt) ?_)⟩
        · rcases memM2 tt z with y | y | y | y | y <;> subst y
          · exact htI rfl
          · rw [eLC] at htt; cases htt
          · rw [eRC] at htt; cases htt
          · rw [eDC] at htt; cases htt
          · rw [cS] at htt; cases htt
        · rw [← eCC, upd_ne htI, upd_same]
  · obtain ⟨⟨v8, v9, v10, v11, rfl⟩, sB, hsB, ⟨svs2, eS2, ps2⟩, ⟨ivs, eI, pi⟩, hB1000, _⟩ := pk
    have et : stW W (i + 1) = ⟨(SM.inn (DW W) lot row (stW W i) W.x.length).lots, (SM.inn (DW W) lot row (stW W i) W.x.length).rows, (stW W i).steps ++ [(SM.inn (DW W) lot row (stW W i) W.x.length).items]⟩ := SM.turn_at (D := DW W) e1 e2
    have lsv2 : svs2.length = i := by rw [paired_len ps2]; exact (SM.st_steps (D := DW W) (b0 W) rfl rfl i hj).1
    obtain ⟨⟨lvB, eLB, plB⟩, eRB, kvB, eDB, _⟩ := id hsB
    refine ⟨_, rfl, .inl ⟨rfl, _, SqL.of eS2⟩, _, rfl, I, ivs, rfl, .inl ⟨SqL.of eI, fun l2 hl2 => ?_⟩⟩
    have st := same_upd (o := .tup ivs) hl2
    have nl2 : ∀ {b : Addr} {u : HO}, B b = some u → l2 ≠ b := fun {b u} e z => by rw [z, e] at hl2; cases hl2
    refine ⟨S, _, _, rfl, rfl, st _ _ eS2, by rw [lsv2, sizeLine_eq]; omega, ⟨_, _, _, _, _, _, _, rfl⟩, fun j hj2 => ?_, same_updr (Same.trans sB st) HS, ?_, ⟨_, upd_same, ?_⟩, by rw [et]; exact hB1000⟩
    · by_cases h : j = i
      · rw [h]; exact hlt
      · exact hj j (by omega)
    · rw [et]
      have v1 : Same (hid M2 (new H B)) (hid M (new H (upd (upd B l2 (.tup ivs)) S (.lst (svs2 ++ [.ref l2]))))) := Same.trans (by rw [← hM2]; exact hid_less) (hid_step ((stm_of st).trans (stm_upd mS)))
      exact hsB.mv v1 (by rw [upd_ne nSL.symm, upd_ne (nl2 eLB).symm]) (by rw [upd_ne nSR.symm, upd_ne (nl2 eRB).symm]) (by rw [upd_ne nSP.symm, upd_ne (nl2 eDB).symm])
    · rw [et]
      have v1 : Same (hid M2 (new H B)) (hid M (new H (upd (upd B l2 (.tup ivs)) S (.lst (svs2 ++ [.ref l2]))))) := Same.trans (by rw [← hM2]; exact hid_less) (hid_step ((stm_of st).trans (stm_upd mS)))
      refine paired_snoc (L2.Paired.mapP ps2 fun x y z => td_mono rp_mono _ _ x y v1 z) ⟨l2, ivs, rfl, hid_at (fun z => ?_) (new_at (Dom.of sB _ hl2) (by rw [upd_ne (nl2 eS2), upd_same])), L2.Paired.mapP pi fun x y z => rp_mono _ _ x y v1 z⟩
      rcases memM l2 z with y | y | y | y
      · exact nl2 eLB y
      · exact nl2 eRB y
      · exact nl2 eDB y
      · exact nl2 eS2 y
end SD

/-! ## SP5 -/
set_option maxHeartbeats 4000000
namespace SD
open PySem PySem.Spec PyProof.Rows L2 SR
variable {P : Program} {w : World} {K : PySem.W.Frag} {mg : Str → Option Value} {base : Heap}
/-! ### standings -/
structure SgAt (C : Addr) (G : Hp) (v : V) (s : SM.BS Str) : Prop where
  at_ : ∃ o dx v1 v2 v3, v = .ref o ∧ G o = some (.ins C dx (fSg v1 v2 v3)) ∧ Td Rt G v1 s.lots ∧ Td Rs G v2 s.rows ∧ Td (Td Rp) G v3 s.steps
abbrev xdWord : HO := .xd [("word", .str "standing")]
def spStandings (CS CG CT : Addr) : Sp := fun vs H Q E => ∃ (p : Addr) (W : Wt) (G : Hp), vs = [.ref p] ∧ Same G H ∧ StAt CS G H p W ∧ WsOk W ∧ (∀ i B d, 1000 < (stW W i).lots.length → Same H B → H d = none → B d = some xdWord → E (.ref CT) (some d) B) ∧
  ∀ N v' B, Fin W N → N ≤ 1000 → Same H B → SgAt CG (new H B) v' (stW W N) → Q v' B
/-- where it raises -/
def spStandR (CS CT : Addr) : Sp := fun vs H _ E => ∃ (p : Addr) (W : Wt) (G : Hp), vs = [.ref p] ∧ Same G H ∧ StAt CS G H p W ∧ WsOk W ∧ (∀ N, Fin W N → 1000 < N) ∧ ∀ B d, Same H B → H d = none → B d = some xdWord → E (.ref CT) (some d) B
theorem tup_at {α : Type} {R : Rl α} (hR : Mono R) {H A B : Hp} {D : Addr} {ts : List α} (k : Same A B) (s : Same H B) (h : Ld R (new H A) (.ref D) ts) : ∃ ys, B D = some (.lst ys) ∧ ∀ l, B l = none → Same H (upd B l (.tup ys)) ∧ Td R (new H (upd B l (.tup ys))) (.ref l) ts :=
  tup_of hR s (ld_mono hR _ _ _ _ (new_same k) h)
theorem ok_standings (T : Tx K mg) : FnOk P w K mg base (L2N.CX P w) 4 T.standings.f T.standings.fd ["store"] (spStandings T.cSt.C T.cSg.C T.cTM.C) := by
  refine T.standings.F.ok scStand (fun vs H Q E h => ?_) fun cdv A outer s H vs Q E hr h => ?_
  · obtain ⟨_, _, _, rfl, _⟩ := h
    rfl
  obtain ⟨p, W, G, rfl, sG, hst, ok, hE, q⟩ := h
  have mk : Mk K T.cSg.C T.iSg.f := ⟨T.maSg, T.iSg.m, T.iSg.fn, T.kpSg⟩
  refine body_standings (c := true) (pn := []) T (L2.passes_of rfl) (.inl ⟨rfl, hr.mono (by decide)⟩)
    (L2N.ps_raise rfl (L2N.takes_of rfl rfl rfl rfl) (pmkN_oex T.oTM T.iTM.m T.tyTM (ok_tm T).ok (hr.mono (by decide)) T.iTM.b (fun _ _ _ _ _ _ _ z => z.elim) rfl T.cTM.g (pa_cons pe_str pa_nil)))
    (ps_ret (pe_make mk (ok_sgInit T) (hr.mono (by decide)) rfl T.cSg.g T.iSg.b .nil pass0
      (pa_cons (pe_callTy call_tuple_of rfl T.ntup boot_tuple (pa_cons (pv 1) pa_nil)) (pa_cons (pe_callTy call_tuple_of rfl T.ntup boot_tuple (pa_cons (pv 2) pa_nil)) (pa_cons (pe_callTy call_tuple_of rfl T.ntup boot_tuple (pa_cons (pv 4) pa_nil)) pa_nil)))))
    sG hst ok hE (fun N B L R PD S r hF hN sB hf => ?_)
  obtain ⟨y1, g1, f1⟩ := tup_at rt_mono (Same.refl B) sB hf.l
  refine ⟨_, rfl, L, y1, rfl, .inl ⟨SqL.of g1, fun l1 hl1 => ?_⟩⟩
  obtain ⟨s1, t1⟩ := f1 l1 hl1
  have u1 := same_upd (o := .tup y1) hl1
  obtain ⟨y2, g2, f2⟩ := tup_at rs_mono u1 s1 hf.r
  refine ⟨_, rfl, R, y2, rfl, .inl ⟨SqL.of g2, fun l2 hl2 => ?_⟩⟩
  obtain ⟨s2, t2⟩ := f2 l2 hl2
  have u2 := same_upd (o := .tup y2) hl2
  obtain ⟨y3, g3, f3⟩ := tup_at (td_mono rp_mono) (Same.trans u1 u2) s2 hf.s
  refine ⟨_, rfl, S, y3, rfl, .inl ⟨SqL.of g3, fun l3 hl3 => ?_⟩⟩
  obtain ⟨s3, t3⟩ := f3 l3 hl3
  have u3 := same_upd (o := .tup y3) hl3
  intro x dx hx hdx hne
  have ux := same_upd (o := .own x) hdx
  have hx2 : upd (upd (upd (upd B l1 (.tup y1)) l2 (.tup y2)) l3 (.tup y3)) dx (.own x) x = none := by rw [upd_ne hne.symm]; exact hx
  have uy := same_upd (o := .ins T.cSg.C dx (fSg (.ref l1) (.ref l2) (.ref l3))) hx2
  refine ⟨x, dx, _, _, _, rfl, upd_same, rfl, ?_⟩
  rw [upd_upd]
  have u4 := Same.trans ux uy
  refine q N _ _ hF hN (Same.trans s3 u4) ⟨x, dx, .ref l1, .ref l2, .ref l3, rfl, new_at (Dom.of s3 _ hx) upd_same, ?_, ?_, ?_⟩
  · exact td_mono rt_mono _ _ _ _ (new_same (Same.trans u2 (Same.trans u3 u4))) t1
  · exact td_mono rs_mono _ _ _ _ (new_same (Same.trans u3 u4)) t2
  · exact td_mono (td_mono rp_mono) _ _ _ _ (new_same u4) t3
/-- within an except suite: it raises -/
theorem hot_standings (T : Tx K mg) : L2H.FnH P w K mg base (L2.CX P w) 4 T.standings.f T.standings.fd ["store"] (spStandR T.cSt.C T.cTM.C) := by
  refine okH T.standings.F scStand (fun vs H Q E h => ?_) fun cdv A outer s H vs Q E pp hh hr h => ?_
  · obtain ⟨_, _, _, rfl, _⟩ := h
    rfl
  obtain ⟨p, W, G, rfl, sG, hst, ok, hN, hE⟩ := h
  have hc : L2H.HotC (L2H.cxH (L2.CX P w) P w K mg base nStand "standings" (defScope (top 20)) T.standings.f cdv A outer s H E pp) := ⟨pp, hh, List.mem_singleton.mpr rfl⟩
  exact body_standings (c := false) (pn := [pp]) T (L2.passes_of rfl) (.inr ⟨hc, hr.mono (by decide)⟩)
    (L2H.ps_raiseH hc (L2.takes_of rfl rfl rfl rfl) (L2H.PMk5.pmk (L2H.pmk5_oexH T.oTM T.iTM.m T.tyTM (ok_tm T).hot (hr.mono (by decide)) hc T.iTM.b (fun _ _ _ _ _ _ _ z => z.elim) rfl T.cTM.g (pa_cons pe_str pa_nil))))
    ps_never sG hst ok (fun i B d _ sB hd e => hE B d sB hd e) (fun N B L R PD S r hF hN2 sB hf => by have := hN N hF; omega)
/-! ### the store as a teller, within an except suite -/
theorem scSteps : FnScope ["store", "told", "closes", "items", "k", "item"] ["store"] (defScope (top 53)) := ⟨rfl, rfl, rfl, by decide +kernel, rfl, by decide +kernel, by decide +kernel⟩
theorem hot_steps (T : Tx K mg) : L2H.FnH P w K mg base (L2.CX P w) 5 T.standingSteps.f T.standingSteps.fd ["store"] (spStandR T.cSt.C T.cTM.C) := by
  refine okH T.standingSteps.F scSteps (fun vs H Q E h => ?_) fun cdv A outer s H vs Q E pp hh hr h => ?_
  · obtain ⟨_, _, _, rfl, _⟩ := h
    rfl
  obtain ⟨p, W, G, rfl, h⟩ := h
  have nd := scSteps.nd
  have hc : L2H.HotC (L2H.cxH (L2.CX P w) P w K mg base ["store", "told", "closes", "items", "k", "item"] "standing_steps" (defScope (top 53)) T.standingSteps.f cdv A outer s H E pp) := ⟨pp, hh, List.mem_singleton.mpr rfl⟩
  refine ⟨_, pss_cons (ps_set (i := 1) nd rfl (Or.inl rfl) (L2H.pe_callH (hot_standings T) hr hc rfl T.standings.g T.standings.F.kp T.standings.b (fun σ => L2.passAt (L2.takes_of rfl rfl rfl rfl) σ) (pa_cons (pv 0) pa_nil))) pss_never, ?_⟩
  exact ⟨_, rfl, p, W, G, rfl, h⟩
theorem scTeller : FnScope ["teller", "first", "items"] ["teller"] (defScope (top 54)) := ⟨rfl, rfl, rfl, by decide +kernel, rfl, by decide +kernel, by decide +kernel⟩
theorem hot_teller (T : Tx K mg) : L2H.FnH P w K mg base (L2.CX P w) 6 T.leastMachine.f T.leastMachine.fd ["teller"] (spStandR T.cSt.C T.cTM.C) := by
  refine okH T.leastMachine.F scTeller (fun vs H Q E h => ?_) fun cdv A outer s H vs Q E pp hh hr h => ?_
  · obtain ⟨_, _, _, rfl, _⟩ := h
    rfl
  obtain ⟨p, W, G, rfl, sG, hst, h⟩ := h
  have nd := scTeller.nd
  have hc : L2H.HotC (L2H.cxH (L2.CX P w) P w K mg base ["teller", "first", "items"] "least_machine" (defScope (top 54)) T.leastMachine.f cdv A outer s H E pp) := ⟨pp, hh, List.mem_singleton.mpr rfl⟩
  refine ⟨_, pss_cons (ps_if (pt_val (pe_callB (C8.call_isC T.insSt) rfl T.nisi boot_isinstance (pa_cons (pv 0) (pa_cons (pe_glob (v := .ref T.cSt.C) rfl T.cSt.g rfl) pa_nil))))
    (pss_cons (ps_asg (L2H.pe_callH (hot_steps T) hr hc rfl T.standingSteps.g T.standingSteps.F.kp T.standingSteps.b (fun σ => L2.passAt (L2.takes_of rfl rfl rfl rfl) σ) (pa_cons (pv 0) pa_nil)) (pg_tupH hc (pgs_cons (pg_name (i := 1) nd rfl (Or.inl rfl)) (pgs_cons (pg_name (i := 2) nd rfl (Or.inl rfl)) pgs_nil)))) pss_never) pss_nil) pss_never, ?_⟩
  obtain ⟨dx, vb, vc, ve, hp, _⟩ := id hst.at_
  exact ⟨_, rfl, p, dx, _, rfl, hp, true, rfl, iteT ⟨_, rfl, p, W, G, rfl, sG, hst, h⟩⟩
/-! ### no teller -/
def spNoTeller (CS : Addr) : Sp := fun vs H Q _ => ∃ (p : Addr) (W : Wt) (G : Hp), vs = [.ref p] ∧ Same G H ∧ StAt CS G H p W ∧ WsOk W ∧ (∀ N, Fin W N → 1000 < N) ∧ ∀ B, Q (.bl true) B
theorem scNoTeller : FnScope ["_law_store", "error"] ["_law_store"] (defScope (top 78)) := ⟨rfl, rfl, rfl, by decide +kernel, rfl, by decide +kernel, by decide +kernel⟩
theorem hot_noTeller (T : Tx K mg) : L2H.FnH P w K mg base CX0 7 T.noTeller.f T.noTeller.fd ["_law_store"] (spNoTeller T.cSt.C) := by
  refine okH T.noTeller.F scNoTeller (fun vs H Q E h => ?_) fun cdv A outer s H vs Q E pp hh hr h => ?_
  · obtain ⟨_, _, _, rfl, _⟩ := h
    rfl
  obtain ⟨p, W, G, rfl, sG, hst, ok, hN, q⟩ := h
  have nd := scNoTeller.nd
  refine ⟨_, pss_cons (L2H.ps_try_asH (i := 1) rfl rfl nd rfl rfl ⟨rfl, by decide, .inl T.cTM.g⟩ takes0
    (fun W0 pn xe hpn tk hpo => pss_one (ps_expr (L2H.pe_callH (hot_teller T) hr ⟨pp, hh, hpn pp (List.mem_singleton.mpr rfl)⟩ rfl T.leastMachine.g T.leastMachine.F.kp T.leastMachine.b (fun σ => L2.passAt tk σ) (pa_cons (pv 0) pa_nil))))
    (fun a oe cls d pn hz hf => pss_one (ps_ret (pe_cmpR op_eq (pe_xf T.xfTM T.naWord hz hf (pv 1)) pe_str (nomark _))))) (pss_one (ps_ret pe_bl)), ?_⟩
  refine ⟨_, rfl, p, W, G, rfl, sG, hst, ok, hN, fun B d sB hd e => ⟨true, T.exm, fun _ a ha => ?_, fun z => Bool.noConfusion z⟩⟩
  exact ⟨_, rfl, rfl, rfl, d, _, _, rfl, e, lk_here, rfl, q B⟩
end SD

/-! ## SP6 -/
set_option maxHeartbeats 4000000
namespace SD
open PySem PySem.Spec PyProof.Rows L2 SR
variable {P : Program} {w : World} {K : PySem.W.Frag} {mg : Str → Option Value} {base : Heap}
/-! ### the wide store: its search -/
def WW (p : Nat) : Wt := ⟨"a", 2, [0, 0], [[[0, (p : Int)], [(p : Int), 1]]], [0, 0]⟩
theorem ww_ok (p : Nat) : WsOk (WW p) := ⟨by show ("a" : Str) ∈ asksL; decide +kernel, by show 1 ≤ 2; decide, by show 2 ≤ 3; decide, rfl, rfl, rfl, fun t ht => by
  rw [show t = [[0, (p : Int)], [(p : Int), 1]] from List.mem_singleton.mp ht]
  exact ⟨rfl, fun l hl => by
    rcases List.mem_cons.mp hl with e | hl
    · rw [e]; rfl
    · rw [List.mem_singleton.mp hl]; rfl⟩⟩
def lotK (k : Nat) : List Int := [0, (k : Int)]
theorem led2 (a b p q r s : Int) : SM.led [a, b] [[p, q], [r, s]] = [SM.less (a + p) (b + r), SM.less (a + q) (b + s)] := rfl
theorem low2 (a b : Int) : SM.low [a, b] = [a - SM.less a b, b - SM.less a b] := rfl
theorem nxtK {p k : Nat} (hk : k ≤ p) : SM.low (SM.led (lotK k) (tbs (WW p) 0)) = lotK (if k < p then k + 1 else p) := by
  show SM.low (SM.led [0, (k : Int)] [[0, (p : Int)], [(p : Int), 1]]) = _
  rw [led2, low2]
  unfold lotK SM.less
  by_cases h : k < p
  · rw [if_pos h]
    have e1 : ¬ ((k : Int) + p < 0 + 0) := by omega
    have e2 : ¬ ((0 : Int) + p < (k : Int) + 1) ∨ True := .inr True.intro
    rw [if_neg e1]
    by_cases h2 : (k : Int) + 1 < 0 + p
    · rw [if_pos h2, if_neg (by omega)]
      simp
    · rw [if_neg h2, if_neg (by omega)]
      have : (p : Int) = k + 1 := by omega
      simp [this]
  · rw [if_neg h]
    have hp : k = p := by omega
    subst hp
    rw [if_neg (by omega), if_neg (by omega), if_neg (by omega)]
    simp
theorem repA_up (k : Nat) : extS "a" (repA k) 0 = repA (k + 1) := by
  unfold extS repA
  show (⟨(List.replicate k 97).toArray ++ #[97]⟩ : Str) = _
  rw [List.replicate_succ']
  congr 1
  apply Array.ext'
  simp
theorem ww_at {p : Nat} : ∀ i, i ≤ p → (stW (WW p) i).lots = (List.range (i + 1)).map lotK ∧ (stW (WW p) i).rows = (List.range (i + 1)).map repA
  | 0, _ => ⟨rfl, rfl⟩
  | i + 1, h => by
    obtain ⟨e1, e2⟩ := ww_at (p := p) i (by omega)
    have g1 : (stW (WW p) i).lots[i]? = some (lotK i) := by
      rw [e1, List.getElem?_map, List.getElem?_range (show i < i + 1 by omega)]; rfl
    have g2 : (stW (WW p) i).rows[i]? = some (repA i) := by
      rw [e2, List.getElem?_map, List.getElem?_range (show i < i + 1 by omega)]; rfl
    have et : stW (WW p) (i + 1) = ⟨(SM.inn (DW (WW p)) (lotK i) (repA i) (stW (WW p) i) 1).lots, (SM.inn (DW (WW p)) (lotK i) (repA i) (stW (WW p) i) 1).rows, (stW (WW p) i).steps ++ [(SM.inn (DW (WW p)) (lotK i) (repA i) (stW (WW p) i) 1).items]⟩ := SM.turn_at (D := DW (WW p)) g1 g2
    have hn := nxtK (p := p) (k := i) (by omega)
    rw [if_pos (show i < p by omega)] at hn
    have nin : lotK (i + 1) ∉ (stW (WW p) i).lots := by
      rw [e1]
      intro z
      obtain ⟨k, hk, e⟩ := List.mem_map.mp z
      have := List.mem_range.mp hk
      have e3 : (k : Int) = ((i + 1 : Nat) : Int) := by
        unfold lotK at e
        simpa using e
      omega
    have ei : SM.inn (DW (WW p)) (lotK i) (repA i) (stW (WW p) i) 1 = ⟨(stW (WW p) i).lots ++ [lotK (i + 1)], (stW (WW p) i).rows ++ [repA (i + 1)], [((stW (WW p) i).lots.length, SM.minL (SM.led (lotK i) (tbs (WW p) 0)))]⟩ := by
      show SM.put ⟨(stW (WW p) i).lots, (stW (WW p) i).rows, []⟩ (SM.low (SM.led (lotK i) (tbs (WW p) 0))) (extS "a" (repA i) 0) _ = _
      rw [hn, repA_up]
      unfold SM.put
      rw [if_neg nin]
      rfl
    rw [et, ei]
    refine ⟨?_, ?_⟩
    · show (stW (WW p) i).lots ++ [lotK (i + 1)] = _
      rw [e1, List.range_succ (n := i + 1), List.map_append]
      rfl
    · show (stW (WW p) i).rows ++ [repA (i + 1)] = _
      rw [e2, List.range_succ (n := i + 1), List.map_append]
      rfl
theorem ww_end (p : Nat) : (stW (WW p) (p + 1)).lots = (List.range (p + 1)).map lotK ∧ (stW (WW p) (p + 1)).rows = (List.range (p + 1)).map repA := by
  obtain ⟨e1, e2⟩ := ww_at (p := p) p (Nat.le_refl p)
  have g1 : (stW (WW p) p).lots[p]? = some (lotK p) := by
    rw [e1, List.getElem?_map, List.getElem?_range (show p < p + 1 by omega)]; rfl
  have g2 : (stW (WW p) p).rows[p]? = some (repA p) := by
    rw [e2, List.getElem?_map, List.getElem?_range (show p < p + 1 by omega)]; rfl
  have et : stW (WW p) (p + 1) = ⟨(SM.inn (DW (WW p)) (lotK p) (repA p) (stW (WW p) p) 1).lots, (SM.inn (DW (WW p)) (lotK p) (repA p) (stW (WW p) p) 1).rows, (stW (WW p) p).steps ++ [(SM.inn (DW (WW p)) (lotK p) (repA p) (stW (WW p) p) 1).items]⟩ := SM.turn_at (D := DW (WW p)) g1 g2
  have hn := nxtK (p := p) (k := p) (Nat.le_refl p)
  rw [if_neg (show ¬ p < p by omega)] at hn
  have ins : lotK p ∈ (stW (WW p) p).lots := List.mem_of_getElem? g1
  have ei : (SM.inn (DW (WW p)) (lotK p) (repA p) (stW (WW p) p) 1).lots = (stW (WW p) p).lots ∧ (SM.inn (DW (WW p)) (lotK p) (repA p) (stW (WW p) p) 1).rows = (stW (WW p) p).rows := by
    show (SM.put ⟨(stW (WW p) p).lots, (stW (WW p) p).rows, []⟩ (SM.low (SM.led (lotK p) (tbs (WW p) 0))) (extS "a" (repA p) 0) _).lots = _ ∧ (SM.put ⟨(stW (WW p) p).lots, (stW (WW p) p).rows, []⟩ (SM.low (SM.led (lotK p) (tbs (WW p) 0))) (extS "a" (repA p) 0) _).rows = _
    rw [hn]
    unfold SM.put
    rw [if_pos ins]
    exact ⟨rfl, rfl⟩
  rw [et]
  exact ⟨by rw [← e1]; exact ei.1, by rw [← e2]; exact ei.2⟩
theorem ww_fin (p : Nat) : Fin (WW p) (p + 1) := ⟨fun j hj => by
  rw [(ww_at (p := p) j (by omega)).1]
  simp, by rw [(ww_end p).1]; simp⟩
theorem fin_uniq {W : Wt} {N M : Nat} (h : Fin W N) (k : Fin W M) : N = M := SM.st_fin_uniq (D := DW W) (b0 W) h.2 h.1 k.2 k.1
theorem fin_bound {W : Wt} {N : Nat} (h : Fin W N) (i : Nat) : (stW W i).lots.length ≤ N := SM.st_bound (D := DW W) (b0 W) h.2 i
/-! ### the same data, told twice -/
theorem paired_two {β : Type} {F : V → β → Prop} {E : V → V → Prop} (h : ∀ x y z, F x z → F y z → E x y) : ∀ {xs ys : List V} {l : List β}, Paired F xs l → Paired F ys l → Paired E xs ys
  | _, _, _, .nil, .nil => .nil
  | _, _, _, .cons a r, .cons b s => .cons (h _ _ _ a b) (paired_two h r s)
theorem eqv_td {α : Type} {R : Rl α} {n : Nat} {G : Hp} (h : ∀ v v' x, R G v x → R G v' x → Eqv n G v v') {v v' : V} {l : List α} (a : Td R G v l) (b : Td R G v' l) : Eqv (n + 1) G v v' := by
  obtain ⟨p, xs, e1, g1, r1⟩ := a
  obtain ⟨q, ys, e2, g2, r2⟩ := b
  exact ⟨p, q, xs, ys, e1, e2, g1, g2, paired_two h r1 r2⟩
theorem eqv_ri {G : Hp} : ∀ v v' x, Ri G v x → Ri G v' x → Eqv 0 G v v' := fun v v' x a b => ⟨b.trans (Eq.symm a), .inl ⟨x, a⟩⟩
theorem eqv_rs {G : Hp} : ∀ v v' x, Rs G v x → Rs G v' x → Eqv 0 G v v' := fun v v' x a b => ⟨b.trans (Eq.symm a), .inr ⟨x, a⟩⟩
theorem eqv_rt {G : Hp} : ∀ v v' x, Rt G v x → Rt G v' x → Eqv 1 G v v' := fun _ _ _ a b => eqv_td eqv_ri a b
theorem eqv_rp {G : Hp} : ∀ v v' x, Rp G v x → Rp G v' x → Eqv 1 G v v' := fun v v' x a b => by
  obtain ⟨p, e1, g1⟩ := a
  obtain ⟨q, e2, g2⟩ := b
  exact ⟨p, q, _, _, e1, e2, g1, g2, .cons ⟨rfl, .inl ⟨_, rfl⟩⟩ (.cons ⟨rfl, .inl ⟨_, rfl⟩⟩ .nil)⟩
/-! ### .. and its def -/
theorem call_isaC {X : Cx} {a D C : Addr} {cls : Value} {oe : Obj} {d : Option Addr} {pn : List (Addr × Obj)} (c : IsaC X.K D C) (hz : Zc cls d oe) : CallR (X.suite a ((a, oe) :: pn)) (.builtin "isinstance") (fun xs H Q => cls = .ref D ∧ rIsa a C xs H Q) := by
  intro pins s σ H xs us Q I r h
  obtain ⟨rfl, h⟩ := h
  exact call_isa c hz pins s σ H xs us Q I r h
theorem takesN0 {X : Cx} : L2N.Takes X (fun _ _ _ _ => False) := fun _ _ x => by
  obtain ⟨_, _, _, _, _, _, _, _, _, _, _, _, _, _, _, _, z⟩ := x
  exact z.elim
theorem hot_suite {X : Cx} {a : Addr} {oe : Obj} {cls : Value} {d : Option Addr} {pn : List (Addr × Obj)} (hz : L2N.Zn cls d oe) (hf : ∃ vs, oe.data = .fields vs) : L2H.HotC (X.suite a ((a, oe) :: pn)) := by
  obtain ⟨vs, hv⟩ := hf
  exact ⟨(a, oe), ⟨rfl, vs, hv, hz.2.2 vs hv⟩, List.mem_cons_self⟩
def spWide : Sp := fun vs H Q _ => ∃ p : Nat, vs = [.int ((p + 1 : Nat) : Int)] ∧ (p = 999 ∨ p = 1000) ∧ ∀ H', Q (.bl true) H'
abbrev nWide : List Str := ["_law_count", "_law_price", "_law_store", "_law_told", "error", "_law_k"]
theorem scWide : FnScope nWide ["_law_count"] (defScope (top 79)) := ⟨rfl, rfl, rfl, by decide +kernel, rfl, by decide +kernel, by decide +kernel⟩
theorem ok_wide (T : Tx K mg) : FnOk P w K mg base CX0 9 T.wide.f T.wide.fd ["_law_count"] spWide := by
  refine okF T.wide.F scWide (fun vs H Q E h => ?_) fun cdv A outer s H vs Q E hr h => ?_
  · obtain ⟨_, rfl, _⟩ := h
    rfl
  obtain ⟨p, rfl, hp, q⟩ := h
  have nd := scWide.nd
  have mk : Mk K T.cSt.C T.iSt.f := ⟨T.maSt, T.iSt.m, T.iSt.fn, T.kpSt⟩
  refine ⟨_, (pss_cons (ps_set (i := 1) nd rfl (Or.inl rfl) (pe_op op_sub (pv 0) pe_int))
    (pss_cons (ps_set (i := 2) nd rfl (Or.inl rfl) (pe_make mk (ok_stInit T) (hr.mono (by omega)) rfl T.cSt.g T.iSt.b .nil pass0 (pa_cons pe_str (pa_cons (pe_tup (pa_cons pe_int (pa_cons pe_int pa_nil))) (pa_cons (pe_tup (pa_cons (pe_tup (pa_cons (pe_tup (pa_cons pe_int (pa_cons (pv 1) pa_nil))) (pa_cons (pe_tup (pa_cons (pv 1) (pa_cons pe_int pa_nil))) pa_nil))) pa_nil)) (pa_cons (pe_tup (pa_cons pe_int (pa_cons pe_int pa_nil))) pa_nil))))))
    (pss_cons (L2N.ps_try_as (i := 4) rfl rfl nd rfl rfl ⟨rfl, by decide, .inl T.cTM.g⟩ takesN0
      (fun W0 pn xe tk hpo => (pss_one (ps_set (i := 3) nd rfl (Or.inl rfl) (pe_callS (ok_standings T) (hr.mono (by omega)) rfl T.standings.g T.standings.F.kp T.standings.b (fun σ => L2N.passAt tk σ) (pa_cons (pv 2) pa_nil)))))
      (fun a oe cls d pn hz hf => (pss_one (ps_ret (pe_and (pe_cmpR op_eq (pv 0) pe_int (nomark _)) (pe_and (pe_cmpR op_eq (pe_xf T.xfTM T.naWord hz.zc hf (pv 4)) pe_str (nomark _)) (pe_and
        (pe_callB (call_isaC T.isaTM hz.zc) rfl T.nisi boot_isinstance (pa_cons (pv 4) (pa_cons (pe_glob (v := .ref T.cAE.C) rfl T.cAE.g rfl) pa_nil)))
        (pe_one (L2H.pe_callH (E := fun _ => E0) (hot_noTeller T) (L2H.roomH_mark (hr.mono (by omega)) _) (hot_suite hz hf) rfl T.noTeller.g T.noTeller.F.kp T.noTeller.b (fun _ _ _ _ _ _ _ z => False.elim z) (pa_cons (pv 2) pa_nil))))))))))
    (pss_cons (ps_if (PW.pt (pw_or (pt_cmpR op_ne (pv 0) pe_int (nomark _)) (pw_or1 (pt_cmpR op_ne (pe_callB (call_lenOwn (liSg T) (ok_sgLen T) T.lenSg.b (hr.mono (by omega))) rfl T.nlen boot_len (pa_cons (pv 3) pa_nil)) pe_int (nomark _))))) (pss_one (ps_ret pe_bl)) pss_nil)
    (pss_one (ps_ret (pe_and (pe_f T.exact_ (ok_exact 2 T) (hr.mono (by omega)) (pa_cons (pe_fld (pv 3) rfl) (pa_cons (pe_callTy call_tuple_of rfl T.ntup boot_tuple (pa_cons (pe_lc (own := [("_law_k", 5)]) (g := (gName 5)) (te := (tTup (tCons (tC (.int 0)) (tCons (tVar 5) tNil)))) (by rfl) nd (pi_range1 rfl T.nrange (pa_cons pe_int pa_nil)) (blkOk_by (by kernel_rfl)) (fun _ _ _ _ _ => (pg_name (i := 5) nd rfl (Or.inl rfl))) (fun _ _ _ _ _ => pts_nil) (fun _ _ _ _ _ => (pe_tup (pa_cons pe_int (pa_cons (pv 5) pa_nil))))) pa_nil)) pa_nil))) (pe_one (pe_cmpR op_eq (pe_ix ix_tup (pe_fld (pv 3) rfl) (pe_un un_neg pe_int) (fun _ _ => rfl)) (pe_op op_mulA pe_str pe_int) (nomark _)))))))))), ?_⟩
  have ewp : (((p + 1 : Nat) : Int) - 1) = (p : Int) := by omega
  refine ⟨_, rfl, _, _, rfl, rfl, ?_⟩
  refine ⟨(by show 2 ≤ sizeLine; decide), fun p1 hp1 => ⟨_, rfl, (by show 2 ≤ sizeLine; decide), fun p2 hp2 => ⟨_, rfl, (by show 2 ≤ sizeLine; decide), fun p3 hp3 => ⟨(by show 2 ≤ sizeLine; decide), fun p4 hp4 => ⟨(by show 1 ≤ sizeLine; decide), fun p5 hp5 => ⟨(by show 2 ≤ sizeLine; decide), fun p6 hp6 => ?_⟩⟩⟩⟩⟩⟩
  have s1 := same_upd (o := .tup [.int 0, .int 0]) hp1
  have s2 := same_upd (o := .tup [.int 0, .int (((p + 1 : Nat) : Int) - 1)]) hp2
  have s3 := same_upd (o := .tup [.int (((p + 1 : Nat) : Int) - 1), .int 1]) hp3
  have s4 := same_upd (o := .tup [.ref p2, .ref p3]) hp4
  have s5 := same_upd (o := .tup [.ref p4]) hp5
  have s6 := same_upd (o := .tup [.int 0, .int 0]) hp6
  intro x dx hx hdx hne
  generalize eH6 : upd (upd (upd (upd (upd (upd H p1 (.tup [.int 0, .int 0])) p2 (.tup [.int 0, .int (((p + 1 : Nat) : Int) - 1)])) p3 (.tup [.int (((p + 1 : Nat) : Int) - 1), .int 1])) p4 (.tup [.ref p2, .ref p3])) p5 (.tup [.ref p4])) p6 (.tup [.int 0, .int 0]) = H6 at hx hdx s6 ⊢
  have g6 : H6 p6 = some (.tup [.int 0, .int 0]) := by rw [← eH6, upd_same]
  have g5 : H6 p5 = some (.tup [.ref p4]) := s6 _ _ upd_same
  have g4 : H6 p4 = some (.tup [.ref p2, .ref p3]) := s6 _ _ (s5 _ _ upd_same)
  have g3 : H6 p3 = some (.tup [.int (p : Int), .int 1]) := by rw [← ewp]; exact s6 _ _ (s5 _ _ (s4 _ _ upd_same))
  have g2 : H6 p2 = some (.tup [.int 0, .int (p : Int)]) := by rw [← ewp]; exact s6 _ _ (s5 _ _ (s4 _ _ (s3 _ _ upd_same)))
  have g1 : H6 p1 = some (.tup [.int 0, .int 0]) := s6 _ _ (s5 _ _ (s4 _ _ (s3 _ _ (s2 _ _ upd_same))))
  have ux := same_upd (o := .own x) hdx
  have hx2 : upd H6 dx (.own x) x = none := by rw [upd_ne hne.symm]; exact hx
  have uy := same_upd (o := .ins T.cSt.C dx []) hx2
  have hh : Same H6 (hid [x] (upd (upd H6 dx (.own x)) x (.ins T.cSt.C dx []))) := fun b o e => hid_at (by
    intro z
    rw [List.mem_singleton.mp z, hx] at e
    cases e) (uy _ _ (ux _ _ e))
  have rb : ∀ {a : Addr}, H6 a = some (.tup [.int 0, .int 0]) → Sd Ri (hid [x] (upd (upd H6 dx (.own x)) x (.ins T.cSt.C dx []))) (.ref a) [0, 0] := fun e => ⟨_, _, rfl, .inr (hh _ _ e), .cons rfl (.cons rfl .nil)⟩
  refine ⟨x, dx, .ref p1, .ref p5, .ref p6, WW p, rfl, upd_same, ww_ok p, rb g1, ?_, rb g6, fun H' hX hst => ⟨rfl, ?_⟩⟩
  · refine ⟨_, _, rfl, .inr (hh _ _ g5), .cons ⟨_, _, rfl, .inr (hh _ _ g4), .cons ⟨_, _, rfl, .inr (hh _ _ g2), .cons rfl (.cons rfl .nil)⟩ (.cons ⟨_, _, rfl, .inr (hh _ _ g3), .cons rfl (.cons rfl .nil)⟩ .nil)⟩ .nil⟩
  have hF := ww_fin p
  refine ⟨_, rfl, x, WW p, _, rfl, new_sub _ _, hst, ww_ok p, fun i B d hbig sB hd e => ⟨true, T.exm, fun _ a ha => ?_, fun z => Bool.noConfusion z⟩, fun N v' B hN hN2 sB hsg => ?_⟩
  · have hp1000 : p = 1000 := by
      have := fin_bound hF i
      omega
    subst hp1000
    have v1 : V.bl (decide (V.int ((1000 + 1 : Nat) : Int) = V.int 1001)) = V.bl true := by decide
    refine ⟨_, rfl, rfl, true, v1, iteT ⟨_, rfl, rfl, rfl, d, _, _, rfl, e, lk_here, rfl, true, ?_, iteT ⟨_, rfl, rfl, rfl, true, rfl, iteT ⟨_, rfl, x, WW 1000, new (upd (upd H6 dx (.own x)) x (.ins T.cSt.C dx [])) H', rfl, Same.trans (new_sub _ _) sB, ⟨?_⟩, ww_ok 1000, fun N hN => ?_, fun B => q B⟩⟩⟩⟩
    · rw [decide_eq_true rfl]
    · obtain ⟨dx', a1, a2, a3, b1, b2, b3, b4⟩ := hst.at_
      exact ⟨dx', a1, a2, a3, sB _ _ b1, b2, b3, b4⟩
    · rw [fin_uniq hN hF]
      omega
  · have eN : N = p + 1 := fin_uniq hN hF
    have hp999 : p = 999 := by omega
    subst hp999
    subst eN
    obtain ⟨o, dx2, v1, v2, v3, rfl, ho, hl, hr2, _⟩ := hsg.at_
    obtain ⟨t1, lvs, rfl, ht1, pl⟩ := hl
    obtain ⟨t2, rvs, rfl, ht2, pr⟩ := hr2
    have hoB := new_sub _ _ _ _ ho
    have ht1B := new_sub _ _ _ _ ht1
    have ht2B := new_sub _ _ _ _ ht2
    obtain ⟨el, er⟩ := ww_end 999
    have llv : lvs.length = 1000 := by rw [paired_len pl, el]; simp
    refine ⟨_, rfl, rfl, _, rfl, ?_⟩
    have z1 : (!decide (V.int ((999 + 1 : Nat) : Int) = V.int 1000)) = false := by decide
    rw [z1]
    refine iteF ⟨_, rfl, o, dx2, _, t1, lvs, rfl, hoB, fSg_lots _ _ _, SqT.of ht1B, rfl, _, rfl, ?_⟩
    rw [llv]
    have z2 : (!decide (V.int ((1000 : Nat) : Int) = V.int 1000)) = false := by decide
    rw [z2]
    refine iteF ?_
    refine ⟨_, rfl, o, _, dx2, _, _, rfl, hoB, T.clSg, T.naLots, fSg_lots _ _ _, 1000, rfl, by decide, by decide, fun D hD => lc_gen (R := Rt) rt_mono (stepSame B) walk_range (fun _ _ => True.intro) (by decide) hD (fun i z => z = lotK i) (fun i y A A' Q' Z hi hA hy k => ?_) fun A ts e1 e2 e3 e4 => ?_⟩
    · obtain ⟨rfl, rfl⟩ := hy
      exact ⟨rfl, yes ⟨_, rfl, (by show 2 ≤ sizeLine; decide), fun l hl => k _ (lotK i) _ (same_upd hl) (td_ints.mpr ⟨l, rfl, by
        rw [new_at hl upd_same]
        show some (HO.tup [V.int 0, V.int (0 + (i : Int))]) = some (HO.tup [V.int 0, V.int (i : Int)])
        rw [Int.zero_add]⟩) rfl⟩⟩
    · obtain ⟨ys, hys, g⟩ := tup_of rt_mono e3 e4
      refine ⟨D, ys, rfl, .inl ⟨SqL.of hys, fun r hr => ?_⟩⟩
      obtain ⟨gs, gt⟩ := g r hr
      have ets : ts = (stW (WW 999) (999 + 1)).lots := by
        rw [el]
        exact range_ext (by rw [e1]; rfl) e2
      rw [ets] at gt
      have eqv : Eqv 2 (upd A r (.tup ys)) (.ref t1) (.ref r) := eqv_td eqv_rt (td_mono rt_mono _ _ _ _ (Same.trans (new_sub _ _) gs) ⟨t1, lvs, rfl, ht1, pl⟩) (td_mono rt_mono _ _ _ _ (new_sub _ _) gt)
      refine ⟨_, _, rfl, eqv, fun C sC => ⟨true, rfl, iteT ?_⟩⟩
      have sBC := Same.trans gs sC
      have erv : rvs = (List.range 999).map (fun k => V.str (repA k)) ++ [V.str (repA 999)] := by
        rw [rs_iff pr, er, List.range_succ, List.map_append, List.map_append, List.map_map]
        rfl
      refine ⟨_, rfl, o, _, dx2, _, _, rfl, sBC _ _ hoB, T.clSg, T.naRows, fSg_rows _ _ _, _, rfl, t2, rvs, _, _, rfl, rfl, SqT.of (sBC _ _ ht2B), by rw [erv]; exact atI_last _ _, 999, rfl, rfl, by decide, by decide, rfl, ?_⟩
      rw [decide_eq_true rfl]
      exact q C
end SD

/-! ## SP7 -/
set_option maxHeartbeats 4000000
namespace SD
open PySem PySem.Spec PyProof.Rows L2 SR
variable {P : Program} {w : World} {K : PySem.W.Frag} {mg : Str → Option Value} {base : Heap}
theorem passN0 {X : Cx} (σ : St) : PassesAt (L2N.CX X.prog X.w) X σ E0 := fun _ _ _ _ _ _ h => by
  obtain ⟨_, _, _, _, _, _, _, _, _, _, _, _, z⟩ := h
  exact z.elim
def spLaw (K : PySem.W.Frag) : Sp := fun vs H Q _ => ∃ (a : Addr) (ns : List Int), vs = [.ref a] ∧ SqL K H a (ns.map V.int) ∧ ∀ H', Q (.bl true) H'
abbrev nLaw : List Str := ["_law_script", "_law_source_here", "_law_asks_here", "_law_many", "_law_world_here", "_law_due", "_law_lists_here", "_law_store", "_law_told", "_law_row_here", "_law_number", "_law_total", "_law_letter", "_law_step", "_law_line"]
theorem scLaw : FnScope nLaw ["_law_script"] (defScope (top 80)) := ⟨rfl, rfl, rfl, by decide +kernel, rfl, by decide +kernel, by decide +kernel⟩
theorem dp_ints {K : PySem.W.Frag} {H : Hp} : ∀ ns : List Int, DpAll K H (ns.map V.int) (ns.map PyData.int)
  | [] => .nil
  | n :: r => .cons (.int n) (dp_ints r)
theorem ints_lay : ∀ ns : List Int, PyData.canLayAll0 (ns.map PyData.int) = true
  | [] => rfl
  | n :: r => by
    show (PyData.canLay0 (.int n) && PyData.canLayAll0 (r.map PyData.int)) = true
    rw [ints_lay r]
    rfl
theorem ints_deep : ∀ ns : List Int, PyData.depthAll (ns.map PyData.int) = 0
  | [] => rfl
  | n :: r => by
    show max (PyData.depth (.int n)) (PyData.depthAll (r.map PyData.int)) = 0
    rw [ints_deep r]
    rfl
theorem ints_shaped (ns : List Int) : SeqAt.shaped (.tuple (ns.map PyData.int)) = true := by
  unfold SeqAt.shaped
  have e1 : PyData.canLay0 (.tuple (ns.map PyData.int)) = true := ints_lay ns
  have e2 : PyData.depth (.tuple (ns.map PyData.int)) = 1 := by
    show PyData.depthAll (ns.map PyData.int) + 1 = 1
    rw [ints_deep]
  rw [e1, e2]
  decide
/-- tuple(d), d a list that stands -/
theorem tup_here {α : Type} {R : Rl α} (hR : Mono R) {B : Hp} {d : V} {l : List α} (h : Ld R B d l) : ∃ a ys, d = .ref a ∧ B a = some (.lst ys) ∧ ys.length = l.length ∧ ∀ t, B t = none → Same B (upd B t (.tup ys)) ∧ Td R (upd B t (.tup ys)) (.ref t) l := by
  obtain ⟨a, ys, e, g, p⟩ := h
  refine ⟨a, ys, e, g, paired_len p, fun t ht => ?_⟩
  have up := same_upd (o := .tup ys) ht
  exact ⟨up, t, ys, rfl, upd_same, L2.Paired.mapP p fun x y z => hR _ _ x y up z⟩
theorem stp_src {s t : Addr} {H H' : Hp} (h : Src H s) (k : Stp t H H') (n : s ≠ t) : Src H' s := by
  obtain ⟨a, b, c, h1, h2, h3, e⟩ := h
  exact ⟨a, b, c, h1, h2, h3, k.x _ _ n e⟩
theorem ok_law (T : Tx K mg) : FnOk P w K mg base CX0 10 T.law.f T.law.fd ["_law_script"] (spLaw K) := by
  refine okF T.law.F scLaw (fun vs H Q E h => ?_) fun cdv A outer s H vs Q E hr h => ?_
  · obtain ⟨_, _, rfl, _⟩ := h
    rfl
  obtain ⟨a, ns, rfl, hS, q⟩ := h
  have nd := scLaw.nd
  have mk : Mk K T.cSt.C T.iSt.f := ⟨T.maSt, T.iSt.m, T.iSt.fn, T.kpSt⟩
  refine ⟨_, (pss_cons (ps_set (i := 1) nd rfl (Or.inl rfl) (pe_f T.source (ok_source T) (hr.mono (by omega)) (pa_cons (pv 0) (pa_cons pe_int pa_nil))))
    (pss_cons (ps_set (i := 2) nd rfl (Or.inl rfl) (pe_f T.asks (ok_asks T) (hr.mono (by omega)) (pa_cons (pv 1) pa_nil)))
    (pss_cons (ps_set (i := 3) nd rfl (Or.inl rfl) (pe_op op_add pe_int (pe_f T.draw (ok_draw T) (hr.mono (by omega)) (pa_cons (pv 1) (pa_cons pe_int pa_nil)))))
    (pss_cons (ps_set (i := 4) nd rfl (Or.inl rfl) (pe_f T.world (ok_world T) (hr.mono (by omega)) (pa_cons (pe_f T.source (ok_source T) (hr.mono (by omega)) (pa_cons (pv 0) (pa_cons pe_int pa_nil))) (pa_cons (pv 3) (pa_cons (pv 2) (pa_cons pe_int pa_nil))))))
    (C8.pss_cut (ps_if (pt_cmpR op_eq (pe_f T.draw (ok_draw T) (hr.mono (by omega)) (pa_cons (pv 1) (pa_cons pe_int pa_nil))) pe_int (nomark _)) (pss_one (ps_set (i := 4) nd rfl (Or.inl rfl) (pe_f T.scaled (ok_scaled T) (hr.mono (by omega)) (pa_cons (pv 4) (pa_cons pe_int pa_nil))))) pss_nil)
    (pss_cons (ps_set (i := 4) nd rfl (Or.inl rfl) (pe_f T.moved (ok_moved T) (hr.mono (by omega)) (pa_cons (pe_f T.source (ok_source T) (hr.mono (by omega)) (pa_cons (pv 0) (pa_cons pe_int pa_nil))) (pa_cons (pv 4) pa_nil))))
    (pss_cons (ps_set (i := 5) nd rfl (Or.inl rfl) (pe_f T.lots (ok_lots T) (hr.mono (by omega)) (pa_cons (pv 4) (pa_cons pe_int pa_nil))))
    (pss_cons (ps_if (pt_cmpR op_isN (pv 5) pe_non (nomark _)) (pss_one (ps_ret pe_bl)) pss_nil)
    (pss_cons (ps_set (i := 6) nd rfl (Or.inl rfl) (pe_f T.lists (ok_lists T) (hr.mono (by omega)) (pa_cons (pv 4) pa_nil)))
    (pss_cons (ps_set (i := 7) nd rfl (Or.inl rfl) (pe_make mk (ok_stInit T) (hr.mono (by omega)) rfl T.cSt.g T.iSt.b .nil pass0 (pa_cons (pe_ix ix_list (pv 6) pe_int (fun _ _ => rfl)) (pa_cons (pe_ix ix_list (pv 6) pe_int (fun _ _ => rfl)) (pa_cons (pe_ix ix_list (pv 6) pe_int (fun _ _ => rfl)) (pa_cons (pe_ix ix_list (pv 6) pe_int (fun _ _ => rfl)) pa_nil))))))
    (pss_cons (ps_set (i := 8) nd rfl (Or.inl rfl) (pe_callS (E := fun _ => E0) (ok_standings T) (hr.mono (by omega)) rfl T.standings.g T.standings.F.kp T.standings.b (fun σ => passN0 σ) (pa_cons (pv 7) pa_nil)))
    (pss_cons (ps_if (PW.pt (pw_or (pt_not (pt_val (pe_f T.exact_ (ok_exact 2 T) (hr.mono (by omega)) (pa_cons (pe_fld (pv 8) rfl) (pa_cons (pe_callTy call_tuple_of rfl T.ntup boot_tuple (pa_cons (pe_ix ix_list (pv 5) pe_int (fun _ _ => rfl)) pa_nil)) pa_nil))))) (pw_or1 (pt_not (pt_val (pe_f T.exact_ (ok_exact 1 T) (hr.mono (by omega)) (pa_cons (pe_fld (pv 8) rfl) (pa_cons (pe_callTy call_tuple_of rfl T.ntup boot_tuple (pa_cons (pe_ix ix_list (pv 5) pe_int (fun _ _ => rfl)) pa_nil)) pa_nil)))))))) (pss_one (ps_ret pe_bl)) pss_nil)
    (pss_cons (ps_if (pt_not (pt_val (pe_f T.exact_ (ok_exact 3 T) (hr.mono (by omega)) (pa_cons (pe_fld (pv 8) rfl) (pa_cons (pe_f T.stepsDue (ok_stepsDue T) (hr.mono (by omega)) (pa_cons (pe_ix ix_list (pv 5) pe_int (fun _ _ => rfl)) pa_nil)) pa_nil))))) (pss_one (ps_ret pe_bl)) pss_nil)
    (pss_cons (ps_if (PW.pt (pw_or (pt_cmpR op_ne (pe_callB (call_lenOwn (liSg T) (ok_sgLen T) T.lenSg.b (hr.mono (by omega))) rfl T.nlen boot_len (pa_cons (pv 8) pa_nil)) (pe_callB call_len_seq rfl T.nlen boot_len (pa_cons (pe_ix ix_list (pv 5) pe_int (fun _ _ => rfl)) pa_nil)) (nomark _)) (pw_or1 (pt_not (pt_val (pe_f T.exact_ (ok_exact 2 T) (hr.mono (by omega)) (pa_cons (pe_callTy call_tuple_of rfl T.ntup boot_tuple (pa_cons (pe_callTy (call_listOwnT rfl rfl (liSg T) (ok_sgIter T) T.itSg.b (ok_sgLen T) T.lenSg.b (hr.mono (by omega))) rfl T.nlist boot_list (pa_cons (pv 8) pa_nil)) pa_nil)) (pa_cons (pe_callTy call_tuple_of rfl T.ntup boot_tuple (pa_cons (pe_ix ix_list (pv 5) pe_int (fun _ _ => rfl)) pa_nil)) pa_nil)))))))) (pss_one (ps_ret pe_bl)) pss_nil)
    (pss_cons (ps_set (i := 9) nd rfl (Or.inl rfl) (pe_f T.row (ok_row T) (hr.mono (by omega)) (pa_cons (pe_f T.source (ok_source T) (hr.mono (by omega)) (pa_cons (pv 0) (pa_cons pe_int pa_nil))) (pa_cons (pv 2) (pa_cons pe_int pa_nil)))))
    (pss_cons (ps_set (i := 10) nd rfl (Or.inl rfl) pe_int)
    (pss_cons (ps_set (i := 11) nd rfl (Or.inl rfl) (pe_callB (cr_minA (.inl rfl)) rfl T.nmin boot_min (pa_cons (pe_ix ix_list (pv 4) pe_int (fun _ _ => rfl)) pa_nil)))
    (pss_cons (ps_for PassesOwn.never rfl (pi_str (pv 9)) (pg_name (i := 12) nd rfl (Or.inl rfl))
      (pss_cons (ps_set (i := 13) nd rfl (Or.inl rfl) (pe_ix ix_tup (pe_ix ix_tup (pe_fld (pv 8) rfl) (pv 10) (fun _ _ => rfl)) (pe_m1 PySem.F.slot_str_find PySem.F.type_str_find mt_find (pv 2) (pv 12)) (fun _ _ => rfl)))
      (pss_cons (ps_set (i := 10) nd rfl (Or.inl rfl) (pe_ix ix_tup (pv 13) pe_int (fun _ _ => rfl)))
      (pss_one (ps_set (i := 11) nd rfl (Or.inl rfl) (pe_op op_add (pv 11) (pe_ix ix_tup (pv 13) pe_int (fun _ _ => rfl))))))))
    (pss_cons (ps_set (i := 14) nd rfl (Or.inl rfl) (pe_f T.work (ok_work T) (hr.mono (by omega)) (pa_cons (pv 4) (pa_cons (pv 9) pa_nil))))
    (pss_cons (ps_if (PW.pt (pw_or (pt_cmpR op_ne (pv 11) (pe_callB (cr_minA (.inl rfl)) rfl T.nmin boot_min (pa_cons (pv 14) pa_nil)) (nomark _)) (pw_or1 (pt_cmpR (op_neD hr.units) (pe_ix ix_tup (pe_fld (pv 8) rfl) (pv 10) (fun _ _ => rfl)) (pe_f T.llow (ok_llow T) (hr.mono (by omega)) (pa_cons (pv 14) pa_nil)) (nomark _))))) (pss_one (ps_ret pe_bl)) pss_nil)
    (pss_cons (ps_if (pt_cmpR op_eq (pe_f T.draw (ok_draw T) (hr.mono (by omega)) (pa_cons (pv 1) (pa_cons pe_int pa_nil))) pe_int (nomark _)) (pss_one (ps_ret (pe_f T.wide (ok_wide T) (hr.mono (by omega)) (pa_cons (pe_op op_add pe_int (pe_f T.draw (ok_draw T) (hr.mono (by omega)) (pa_cons (pv 1) (pa_cons pe_int pa_nil)))) pa_nil)))) pss_nil)
    (pss_one (ps_ret pe_bl))))))))))))))))))))))), ?_⟩
  have sqOf : ∀ {B : Hp}, Same H B → SqL K B a (ns.map V.int) := fun k => Same.seq k hS
  refine ⟨_, rfl, a, ns, 0, rfl, hS, by decide, fun sA H1 s1 nA srcA => ?_⟩
  have n0 : ∀ {b : Addr} {u : HO}, H b = some u → b ≠ sA := fun e => ne_of_none e nA
  have k0 : ∀ {A B : Hp}, Stp sA A B → Same H A → Same H B := fun k h => k.x.at h nA
  refine ⟨_, rfl, sA, rfl, srcA, fun x H2 hx k2 => ?_⟩
  refine ⟨_, rfl, sA, 3, rfl, k2.s, by decide, by decide, fun r H3 r0 r1 k3 => ⟨_, _, rfl, rfl, ?_⟩⟩
  have s3 : Same H H3 := k0 k3 (k0 k2 s1)
  obtain ⟨n, hn⟩ : ∃ n : Nat, (1 + r) = (n : Int) := ⟨(1 + r).toNat, by omega⟩
  have hn1 : 1 ≤ n := by omega
  have hn3 : n ≤ 3 := by omega
  have hx10 := (ask_len x hx).2
  have hx1 := (ask_len x hx).1
  refine ⟨_, rfl, a, ns, 2, rfl, sqOf s3, by decide, fun s2 H4 s4 n2 src2 => ⟨_, rfl, _, rfl, s2, n, x, 5, by rw [← hn]; rfl, src2, hn1, hn3, hx1, hx10, by decide, by decide, fun v0 W0 H5 ok0 ex0 k5 hW0 => ?_⟩⟩
  have nA2 : sA ≠ s2 := fun z => by
    obtain ⟨u, hu⟩ := k3.s.some
    rw [z, n2] at hu
    cases hu
  have srcA4 : Src H4 sA := k3.s.same s4
  have srcA5 : Src H5 sA := stp_src srcA4 k5 nA2
  have H2none : H s2 = none := Same.free s3 n2
  have s5 : Same H H5 := k5.x.at (Same.trans s3 s4) H2none
  have gA : new H4 H5 sA = none := by
    obtain ⟨u, hu⟩ := srcA4.some
    exact new_none hu
  refine ⟨fun σ' A => ∃ v W G, σ' = [some (.ref a), some (.ref sA), some (.str x), some (.int (1 + r)), some v, none, none, none, none, none, none, none, none, none, none] ∧ WdOk W ∧ W.x = x ∧ Same G A ∧ G sA = none ∧ Wd G v W ∧ Src A sA ∧ Same H A, ?_, ?_⟩
  · refine ⟨_, rfl, sA, 4, rfl, srcA5, by decide, by decide, fun r6 H6 _ _ k6 => ⟨rfl, _, rfl, ite2 (fun _ => ?_) (fun _ => ?_)⟩⟩
    · refine ⟨_, rfl, v0, W0, rfl, ok0, wd_mono _ _ _ _ (k6.x.at (new_sub _ _) gA) hW0, fun v W H7 ok7 ex7 s7 hW7 => ⟨v, W, new H6 H7, rfl, ok7, ex7.trans ex0, new_sub _ _, ?_, hW7, k6.s.same s7, Same.trans (k0 k6 s5) s7⟩⟩
      obtain ⟨u, hu⟩ := k6.s.some
      exact new_none hu
    · exact ⟨v0, W0, new H4 H5, rfl, ok0, ex0, k6.x.at (new_sub _ _) gA, gA, hW0, k6.s, k0 k6 s5⟩
  rintro σ' A ⟨v, W, G, rfl, okW, eW, sG, gA', hW, srcAA, sA0⟩
  clear hW0 k5 srcA4 srcA5 s5 gA H2none s4 src2 n2
  subst eW
  refine ⟨_, rfl, a, ns, 1, rfl, sqOf sA0, by decide, fun s1' B1 sB1 n1' src1 => ⟨_, rfl, s1', v, W, G, rfl, src1, okW, Same.trans sG sB1, Same.free sG n1', hW, fun v' W' B2 G' ok' ex' kB2 sG' gN hW' => ?_⟩⟩
  have nA1 : sA ≠ s1' := fun z => by
    obtain ⟨u, hu⟩ := srcAA.some
    rw [z, n1'] at hu
    cases hu
  have srcB2 : Src B2 sA := stp_src (srcAA.same sB1) kB2 nA1
  have sHB2 : Same H B2 := kB2.x.at (Same.trans sA0 sB1) (Same.free sA0 n1')
  have gA2 : G' sA = none := by
    obtain ⟨u, hu⟩ := (srcAA.same sB1).some
    exact gN sA u hu gA'
  have hxW : W'.x ∈ asksL := by rw [ex']; exact hx
  have wsok : WsOk W' := ⟨hxW, ok'.n1, ok'.n3, ok'.b, ok'.e, ok'.c, ok'.cs⟩
  refine ⟨_, rfl, v', W', rfl, ok', wd_mono _ _ _ _ sG' hW', fun B3 s3 => ⟨_, rfl, rfl, _, rfl, ite2 (fun _ => q _) (fun z => absurd (decide_eq_true rfl) z)⟩, fun v5 B3 N hN hF s3 hD => ?_⟩
  obtain ⟨pd, d1, d2, d3, rfl, hpd0, hd10, hd20, hd30⟩ := hD
  refine ⟨_, rfl, rfl, _, rfl, ite2 (fun z => absurd (of_decide_eq_true z) (fun y => nomatch y)) (fun _ => ?_)⟩
  refine ⟨_, rfl, v', W', rfl, ok', wd_mono _ _ _ _ (Same.trans sG' s3) hW', fun v6 B4 s4 hW6 => ?_⟩
  obtain ⟨pl, vb, vc, ve, rfl, hpl0, hb0, hc0, he0⟩ := hW6
  have hpl4 := new_sub _ _ _ _ hpl0
  refine ⟨_, rfl, pl, _, _, _, rfl, rfl, SqL.of hpl4, rfl, _, rfl, pl, _, _, _, rfl, rfl, SqL.of hpl4, rfl, _, rfl, pl, _, _, _, rfl, rfl, SqL.of hpl4, rfl, _, rfl, pl, _, _, _, rfl, rfl, SqL.of hpl4, rfl, ?_⟩
  intro x0 dx hx0 hdx hne
  have ux := same_upd (o := .own x0) hdx
  have hx02 : upd B4 dx (.own x0) x0 = none := by rw [upd_ne hne.symm]; exact hx0
  have uy := same_upd (o := .ins T.cSt.C dx []) hx02
  have hh : Same B4 (hid [x0] (upd (upd B4 dx (.own x0)) x0 (.ins T.cSt.C dx []))) := fun b o e => hid_at (by
    intro z
    rw [List.mem_singleton.mp z, hx0] at e
    cases e) (uy _ _ (ux _ _ e))
  have hh4 := Same.trans (new_sub B3 B4) hh
  have id1 : ∀ (G : Hp) (v : V) (x : Int), Ri G v x → Ri G v x := fun _ _ _ h => h
  have sd1 : ∀ {v : V} {l : List Int}, Ld Ri (new B3 B4) v l → Sd Ri (hid [x0] (upd (upd B4 dx (.own x0)) x0 (.ins T.cSt.C dx []))) v l := fun h => ld_sd id1 _ _ _ (lm1 _ _ _ _ hh4 h)
  refine ⟨x0, dx, vb, vc, ve, W', rfl, upd_same, wsok, sd1 hb0, ld_sd (ld_sd (ld_sd id1)) _ _ _ (r3_mono _ _ _ _ hh4 hc0), sd1 he0, fun B5 hX hst => ⟨rfl, ?_⟩⟩
  have s45 : Same B4 B5 := fun b o e => hX b o (ne_of_none e hx0) (uy _ _ (ux _ _ e))
  refine ⟨_, rfl, x0, W', _, rfl, new_sub _ _, hst, wsok, fun i B d hbig _ _ _ => ?_, fun N' v8 B6 hN' hN2 s6 hsg => ?_⟩
  · have := fin_bound hF i
    omega
  have eN : N' = N := fin_uniq hN' hF
  subst eN
  obtain ⟨o, dxo, v1, v2, v3, rfl, ho0, hl0, hr0, ht0⟩ := hsg.at_
  have s36 : Same B3 B6 := Same.trans s4 (Same.trans s45 s6)
  have hpd := s36 _ _ (new_sub _ _ _ _ hpd0)
  have due := Same.trans (new_sub B2 B3) s36
  have hd1 := ld_mono rt_mono _ _ _ _ due hd10
  have hd2 := ld_mono rs_mono _ _ _ _ due hd20
  have hd3 := ld_mono (ld_mono rp_mono) _ _ _ _ due hd30
  have told := new_sub B5 B6
  have ho := told _ _ ho0
  have hl := td_mono rt_mono _ _ _ _ told hl0
  have hrw := td_mono rs_mono _ _ _ _ told hr0
  have hts := td_mono (td_mono rp_mono) _ _ _ _ told ht0
  have sH6 : Same H B6 := Same.trans sHB2 (Same.trans s3 s36)
  have sG6 : Same G' B6 := Same.trans sG' (Same.trans s3 s36)
  have src6 : Src B6 sA := (((srcB2.same s3).same s4).same s45).same s6
  clear hd10 hd20 hd30 hpd0 hl0 hr0 ht0 ho0 hst hsg hb0 hc0 he0 hpl0 hpl4 hh hh4 sd1
  obtain ⟨w1, w2⟩ := SM.st_steps (D := DW W') (b0 W') rfl rfl N' hF.1
  obtain ⟨a1, ys1, rfl, ha1, ly1, t1f⟩ := tup_here rt_mono hd1
  -- the lots
  refine ⟨_, rfl, o, _, dxo, _, _, rfl, ho, T.clSg, T.naLots, fSg_lots _ _ _, _, rfl, pd, _, _, _, rfl, rfl, SqL.of hpd, rfl, a1, ys1, rfl, .inl ⟨SqL.of ha1, fun t1 ht1 => ?_⟩⟩
  obtain ⟨u1, td1⟩ := t1f t1 ht1
  refine ⟨_, _, rfl, eqv_td eqv_rt (td_mono rt_mono _ _ _ _ u1 hl) td1, fun C1 sC1 => ⟨true, rfl, iteF ?_⟩⟩
  have c1 : Same B6 C1 := Same.trans u1 sC1
  -- the rows
  obtain ⟨a2, ys2, rfl, ha2, ly2, t2f⟩ := tup_here rs_mono (ld_mono rs_mono _ _ _ _ c1 hd2)
  refine ⟨_, rfl, o, _, dxo, _, _, rfl, c1 _ _ ho, T.clSg, T.naRows, fSg_rows _ _ _, _, rfl, pd, _, _, _, rfl, rfl, SqL.of (c1 _ _ hpd), rfl, a2, ys2, rfl, .inl ⟨SqL.of ha2, fun t2 ht2 => ?_⟩⟩
  obtain ⟨u2, td2⟩ := t2f t2 ht2
  refine ⟨_, _, rfl, eqv_td eqv_rs (td_mono rs_mono _ _ _ _ (Same.trans c1 u2) hrw) td2, fun C2 sC2 => ⟨true, rfl, iteF ?_⟩⟩
  have c2 : Same B6 C2 := Same.trans c1 (Same.trans u2 sC2)
  -- the steps
  refine ⟨_, rfl, o, _, dxo, _, _, rfl, c2 _ _ ho, T.clSg, T.naSteps, fSg_steps _ _ _, _, rfl, pd, _, _, _, rfl, rfl, SqL.of (c2 _ _ hpd), rfl, d3, (stW W' N').steps, rfl, ?_, ?_, ld_mono (ld_mono rp_mono) _ _ _ _ c2 hd3, fun v9 C3 s3' hs3 => ?_⟩
  · have : (stW W' N').steps.length = N' := w1
    omega
  · intro it hit
    obtain ⟨i, hi⟩ := List.mem_iff_getElem?.mp hit
    have hiN : i < N' := by
      have h1 : i < (stW W' N').steps.length := (List.getElem?_eq_some_iff.mp hi).1
      have h2 : (stW W' N').steps.length = N' := w1
      omega
    obtain ⟨it', lot, f1, f2, f3, f4⟩ := w2 i hiN
    have f1' : (stW W' N').steps[i]? = some it' := f1
    rw [hi] at f1'
    cases f1'
    have h10 := ok'.x10
    rw [f3]
    show W'.x.length ≤ 1000
    omega
  refine ⟨_, _, rfl, eqv_td (fun _ _ _ a b => eqv_td eqv_rp a b) (td_mono (td_mono rp_mono) _ _ _ _ (Same.trans c2 s3') hts) (td_mono (td_mono rp_mono) _ _ _ _ (new_sub _ _) hs3), fun C4 sC4 => ⟨true, rfl, iteF ?_⟩⟩
  have c4 : Same B6 C4 := Same.trans c2 (Same.trans s3' sC4)
  -- len, list
  obtain ⟨t1, lvs, rfl, ht1, prl⟩ := hl
  have llv : lvs.length = (stW W' N').lots.length := paired_len prl
  refine ⟨_, rfl, o, dxo, _, t1, lvs, rfl, c4 _ _ ho, fSg_lots _ _ _, SqT.of (c4 _ _ ht1), _, rfl, pd, _, _, _, rfl, rfl, SqL.of (c4 _ _ hpd), rfl, a1, ys1, rfl, .inl (SqL.of (c4 _ _ ha1)), rfl, _, rfl, ?_⟩
  rw [llv, ly1, decide_eq_true rfl]
  refine iteF ⟨_, rfl, o, dxo, _, t1, lvs, rfl, c4 _ _ ho, fSg_lots _ _ _, SqT.of (c4 _ _ ht1), fun b hb => Dom.of (Same.trans sH6 c4) b hb, fun q1 hq1 => ⟨q1, _, rfl, .inl ⟨SqL.of upd_same, fun t4 ht4 => ?_⟩⟩⟩
  have e1 := same_upd (o := .lst lvs) hq1
  have e2 := same_upd (o := .tup lvs) ht4
  have c5 : Same B6 (upd (upd C4 q1 (.lst lvs)) t4 (.tup lvs)) := Same.trans c4 (Same.trans e1 e2)
  refine ⟨_, rfl, pd, _, _, _, rfl, rfl, SqL.of (c5 _ _ hpd), rfl, a1, ys1, rfl, .inl ⟨SqL.of (c5 _ _ ha1), fun t5 ht5 => ?_⟩⟩
  have e3 := same_upd (o := .tup ys1) ht5
  have c6 := Same.trans c5 e3
  have prd : Paired (Rt B6) ys1 (stW W' N').lots := by
    obtain ⟨a1', ys1', ea, ga, pa⟩ := hd1
    cases ea
    rw [ha1] at ga
    cases ga
    exact pa
  refine ⟨_, _, rfl, eqv_td eqv_rt (l := (stW W' N').lots) ⟨t4, lvs, rfl, e3 _ _ upd_same, L2.Paired.mapP prl fun x y z => rt_mono _ _ x y c6 z⟩ ⟨t5, ys1, rfl, upd_same, L2.Paired.mapP prd fun x y z => rt_mono _ _ x y c6 z⟩, fun C7 sC7 => ⟨true, rfl, iteF ?_⟩⟩
  have c7 : Same B6 C7 := Same.trans c6 sC7
  -- the row
  have sH7 := Same.trans sH6 c7
  refine ⟨_, rfl, a, ns, 3, rfl, sqOf sH7, by decide, fun s3q D1 sD1 n3 src3 => ⟨_, rfl, s3q, W.x, rfl, src3, hx1, hx10, fun row ks D2 hlets kD2 => ?_⟩⟩
  have d12 : Same B6 D2 := kD2.x.at (Same.trans c7 sD1) (Same.free c7 n3)
  have nA3 : sA ≠ s3q := fun z => by
    obtain ⟨u, hu⟩ := (src6.same c7).some
    rw [z, n3] at hu
    cases hu
  have srcD2 : Src D2 sA := stp_src ((src6.same c7).same sD1) kD2 nA3
  have sGD : Same G' D2 := Same.trans sG6 d12
  rw [← ex'] at hlets
  obtain ⟨pw, wb, wc, we, rfl, hpw, hwb, hwc, hwe⟩ := id hW'
  obtain ⟨pb, rfl, hpb⟩ := ld_ints.mp hwb
  have n1 := ok'.n1
  have n3' := ok'.n3
  have lb := ok'.b
  refine ⟨_, rfl, pw, _, _, _, rfl, rfl, SqL.of (sGD _ _ hpw), rfl, pb, W'.b, rfl, .inl (SqL.of (sGD _ _ hpb)), by omega, fun mm hm hle => ?_⟩
  have emm := SM.minL_uniq hm hle
  subst emm
  obtain ⟨t3, svs, rfl, ht3, prs⟩ := hts
  have lk : ∀ i, (SM.work (tbs W') W'.b (ks.take i)).length = W'.n := fun i => by rw [SM.work_length, lb]
  refine ⟨_, rfl, row, rfl, for_it walk_str (fun i σ C => C = D2 ∧ ∃ (j : Nat) (v12 v13 : Option V), σ = [some (.ref a), some (.ref sA), some (.str W.x), some (.int (1 + r)), some (.ref pw), some (.ref pd), some (.ref pl), some (.ref x0), some (.ref o), some (.str row), some (.int (j : Nat)), some (.int (SM.minL (SM.work (tbs W') W'.b (ks.take i)))), v12, v13, none] ∧
      (stW W' N').lots[j]? = some (SM.low (SM.work (tbs W') W'.b (ks.take i))))
    ⟨rfl, 0, _, _, rfl, SM.pre_get (SM.st_mono (D := DW W') (b0 W') (Nat.zero_le N')) rfl⟩ (fun _ _ _ _ _ => True.intro) (fun i y σ C C' hi p hy => ?_) (fun σ C p => ?_)⟩
  · obtain ⟨rfl, j, v12, v13, rfl, ej⟩ := p
    obtain ⟨rfl, ch, ec, rfl⟩ := hy
    obtain ⟨k, ek, hk, rfl⟩ := hlets.at ec
    have hjN : j < N' := by
      have h1 := (List.getElem?_eq_some_iff.mp ej).1
      have h2 : (stW W' N').lots.length = N' := hF.2
      omega
    obtain ⟨it, lot, f1, f2, f3, f4⟩ := w2 j hjN
    have f2' : (stW W' N').lots[j]? = some lot := f2
    rw [ej] at f2'
    cases f2'
    obtain ⟨j2, g1, g2⟩ := f4 k hk
    obtain ⟨sv, esv, rsv⟩ := paired_atr prs (show (stW W' N').steps[j]? = some it from f1)
    obtain ⟨ti, ivs, rfl, hti, pri⟩ := rsv
    obtain ⟨iv, eiv, tv, rfl, htv⟩ := paired_atr pri g1
    have hw0 : 0 < (SM.work (tbs W') W'.b (ks.take i)).length := by rw [lk]; omega
    obtain ⟨z1, z2⟩ := SM.step_work (tbs := tbs W') hw0 rfl k
    have hfind : Txt.find W.x ⟨#[W'.x.cps.getD k 0]⟩ = (k : Int) := by
      rw [ex']
      rw [ex'] at hk
      exact ask_find _ hx k hk
    refine ⟨_, rfl, o, _, dxo, _, _, rfl, d12 _ _ ho, T.clSg, T.naSteps, fSg_steps _ _ _, _, rfl, t3, svs, _, _, rfl, rfl, SqT.of (d12 _ _ ht3), atI_nat esv, _, rfl, ⟨_, rfl⟩, _, rfl, _, _, rfl, rfl, ti, ivs, _, _, rfl, rfl, SqT.of (d12 _ _ hti), by rw [hfind]; exact atI_nat eiv, ?_⟩
    have htv2 := d12 _ _ htv
    refine ⟨_, rfl, tv, _, _, _, rfl, rfl, SqT.of htv2, rfl, ?_⟩
    refine ⟨_, rfl, _, rfl, tv, _, _, _, rfl, rfl, SqT.of htv2, rfl, _, _, rfl, rfl, rfl, j2, some (.str ⟨#[W'.x.cps.getD k 0]⟩), some (.ref tv), ?_, ?_⟩
    · rw [take_snoc ek, SM.work_snoc, ← z2]
      rfl
    · rw [take_snoc ek, SM.work_snoc, ← z1]
      exact g2
  · obtain ⟨rfl, j, v12, v13, rfl, ej⟩ := p
    rw [hlets.size, List.take_length] at ej ⊢
    refine ⟨_, rfl, _, rfl, .ref pw, W', row, ks, rfl, ok', hxW, wd_mono _ _ _ _ sGD hW', hlets, fun v14 D3 sD3 h14 => ?_⟩
    have lw : (SM.work (tbs W') W'.b ks).length = W'.n := by rw [SM.work_length, lb]
    obtain ⟨p14, rfl, hp14⟩ := ld_ints.mp h14
    have hp14' := new_sub _ _ _ _ hp14
    refine ⟨_, rfl, _, rfl, p14, _, rfl, .inl (SqL.of hp14'), by omega, fun mm hm hle => ⟨rfl, _, rfl, ?_⟩⟩
    have emm := SM.minL_uniq hm hle
    subst emm
    rw [decide_eq_true rfl]
    have d13 := Same.trans d12 sD3
    obtain ⟨lv, elv, rlv⟩ := paired_atr prl ej
    refine iteF ⟨_, rfl, o, _, dxo, _, _, rfl, d13 _ _ ho, T.clSg, T.naLots, fSg_lots _ _ _, _, rfl, t1, lvs, _, lv, rfl, rfl, SqT.of (d13 _ _ ht1), atI_nat elv, _, rfl, .ref p14, _, rfl, by omega, by omega, ld_ints.mpr ⟨p14, rfl, hp14'⟩, fun v15 D4 sD4 h15 => ?_⟩
    obtain ⟨q15, rfl, hq15⟩ := td_ints.mp h15
    obtain ⟨ql, rfl, hql⟩ := td_ints.mp rlv
    have d14 := Same.trans d13 sD4
    refine ⟨.tuple ((SM.low (SM.work (tbs W') W'.b ks)).map PyData.int), .tuple ((SM.low (SM.work (tbs W') W'.b ks)).map PyData.int), .tup (SqT.of (d14 _ _ hql)) (dp_ints _), .tup (SqT.of (new_sub _ _ _ _ hq15)) (dp_ints _), ints_shaped _, ints_shaped _, _, rfl, ?_⟩
    rw [SeqAt.eqv_refl _ (SeqAt.canLay_of_shaped (ints_shaped _))]
    refine iteF ?_
    have src4 : Src D4 sA := (srcD2.same sD3).same sD4
    refine ⟨_, rfl, sA, 10, rfl, src4, by decide, by decide, fun r5 D5 _ _ k5 => ⟨rfl, _, rfl, ite2 (fun _ => ?_) (fun _ => q _)⟩⟩
    refine ⟨_, rfl, sA, 2, rfl, k5.s, by decide, by decide, fun r6 D6 h60 h61 k6 => ⟨_, _, rfl, rfl, 999 + r6.toNat, ?_, ?_, fun B => q B⟩⟩
    · show [V.int (1000 + r6)] = [V.int ((999 + r6.toNat + 1 : Nat) : Int)]
      have e : (1000 : Int) + r6 = ((999 + r6.toNat + 1 : Nat) : Int) := by omega
      rw [e]
    · omega
end SD

/-! ## SHead0 -/
set_option maxHeartbeats 0
namespace SD
open PySem PySem.Spec PyProof.Rows L2 SR
/-! ### the head: facts by names -/
abbrev Rw : PySem.W.OpenRow := PySem.W.OpenLaw.row PySem.Challenge.rw_afterwise_k09_whole_standings
def dF (x : Str) (i : Nat) : He.DefD := ⟨(x, none), x, x, defArgs (top i), defBody (top i), defScope (top i), [], []⟩
def dM (c m q : Str) (i j : Nat) : He.DefD := ⟨(c, some m), m, q, defArgs (inClass (top i) j), defBody (inClass (top i) j), defScope (inClass (top i) j), [], []⟩
def fnL : List He.DefD := [dF "led" 14, dF "lowered" 16, dF "standings" 20, dF "is_integer" 24, dF "is_listed" 26, dF "deep" 27, dF "is_asks" 28, dF "check_asks" 29, dF "integers" 34, dF "is_table" 37, dF "are_costs" 38, dF "standing_steps" 53, dF "least_machine" 54, dF "_law_cell" 56, dF "_law_source" 57, dF "_law_draw" 58, dF "_law_is_int" 59, dF "_law_exact" 60, dF "_law_asks" 61, dF "_law_prices" 62, dF "_law_any_table" 63, dF "_law_change" 64, dF "_law_changes" 65, dF "_law_served" 66, dF "_law_world" 67, dF "_law_raised" 68, dF "_law_moved" 69, dF "_law_scaled" 70, dF "_law_lists" 71, dF "_law_led" 72, dF "_law_work" 73, dF "_law_low" 74, dF "_law_lots" 75, dF "_law_steps_due" 76, dF "_law_row" 77, dF "_law_no_teller" 78, dF "_law_wide" 79, dF "law" 80, dM "Standings" "__init__" "Standings.__init__" 19 0, dM "Standings" "__len__" "Standings.__len__" 19 1, dM "Standings" "__iter__" "Standings.__iter__" 19 2, dM "Store" "__init__" "Store.__init__" 39 0, dM "TooMany" "__init__" "TooMany.__init__" 12 0]
def fa0 : List He.Fa := [.glo "led", .glo "lowered", .glo "standings", .glo "is_integer", .glo "is_listed", .glo "deep", .glo "is_asks", .glo "check_asks", .glo "integers", .glo "is_table", .glo "are_costs", .glo "standing_steps", .glo "least_machine", .glo "_law_cell", .glo "_law_source", .glo "_law_draw", .glo "_law_is_int", .glo "_law_exact", .glo "_law_asks", .glo "_law_prices", .glo "_law_any_table", .glo "_law_change", .glo "_law_changes", .glo "_law_served", .glo "_law_world", .glo "_law_raised", .glo "_law_moved", .glo "_law_scaled", .glo "_law_lists", .glo "_law_led"]
def fa1 : List He.Fa := [.glo "_law_work", .glo "_law_low", .glo "_law_lots", .glo "_law_steps_due", .glo "_law_row", .glo "_law_no_teller", .glo "_law_wide", .glo "law", .glo "AfterError", .glo "TooMany", .glo "Standings", .glo "Store", .free "len", .free "isinstance", .free "int", .free "bool", .free "str", .free "tuple", .free "list", .free "min", .free "max", .free "abs", .free "sum", .free "range", .free "enumerate", .free "zip", .free "iter", .str "LETTERS" "abcdefgh", .int "MOST_STANDINGS" 1000, .int "MOST_STATES" 1000]
def fa2 : List He.Fa := [.cls "Standings", .cls "Store", .keep "Standings", .keep "Store", .keep "TooMany", .noat "Standings" "lots", .noat "Standings" "rows", .noat "Standings" "steps", .noat "Store" "asks", .noat "Store" "begins", .noat "Store" "costs", .noat "Store" "ends", .noat "TooMany" "word", .exm "TooMany" "TooMany" true, .meth "Standings" "__init__", .meth "Standings" "__len__", .meth "Standings" "__iter__", .meth "Store" "__init__"]
def faL : List He.Fa := fa0 ++ fa1 ++ fa2
def loose0 : List PySem.Str := ["_wall", "AfterError", "WrongThing", "WrongItem", "BadAsks", "BadRow", "BadAsk", "BadState", "BadMachine", "BadStore", "Unlike", "TooMany", "led", "added", "lowered", "MOST_STANDINGS", "Standings", "standings", "LETTERS", "LONGEST", "is_integer", "is_count", "is_listed", "deep", "is_asks", "check_asks", "row_over", "check_row", "check_ask", "numbers_of"]
def loose1 : List PySem.Str := ["integers", "MOST_STATES", "is_table", "are_costs", "Store", "check_state", "pair_sums", "sum_store", "turned_store", "MOST_KINDS", "is_item", "least_rows", "Machine", "went", "classes_of", "shrunk", "shrunk_steps", "standing_steps", "least_machine", "_law_cell", "_law_source", "_law_draw", "_law_is_int", "_law_exact", "_law_asks", "_law_prices", "_law_any_table", "_law_change", "_law_changes", "_law_served"]
def loose2 : List PySem.Str := ["_law_world", "_law_raised", "_law_moved", "_law_scaled", "_law_lists", "_law_led", "_law_work", "_law_low", "_law_lots", "_law_steps_due", "_law_row", "_law_no_teller", "_law_wide"]
def looseL : List PySem.Str := loose0 ++ loose1 ++ loose2
/-! ### what the classes say besides -/
def oexB (K : PySem.W.Frag) (C : Addr) : Bool := match K.lookup C with
  | some ⟨.type "type", _, .cls cd, sl⟩ => (match cd.mro, sl.toList with
    | .ref C' :: bm, [_, _, _, _, some (.builtin n), _] => C' == C && (n == "ValueError.__new__" && (!cd.hasDel && (cd.hasDict && PySem.HandSPX.refsVE bm)))
    | _, _ => false)
  | _ => false
theorem oexB_ok {K : PySem.W.Frag} {C : Addr} (q : oexB K C = true) : ∃ nm q N bs bm sn sub ab col dd k0 k1 k2 k3 k5, K.lookup C = some (excClassObj nm q C N bs bm true sn sub ab col dd k0 k1 k2 k3 k5 "ValueError.__new__") ∧ PySem.HandSPX.refsVE bm = true := by
  unfold oexB at q
  split at q
  · rename_i dd cd sl ho
    split at q
    · rename_i C' bm k0 k1 k2 k3 n k5 hmro hs
      obtain ⟨q1, q⟩ := Bool.and_eq_true_iff.mp q
      obtain ⟨q2, q⟩ := Bool.and_eq_true_iff.mp q
      obtain ⟨q3, q⟩ := Bool.and_eq_true_iff.mp q
      obtain ⟨q4, q5⟩ := Bool.and_eq_true_iff.mp q
      have e1 := beq_iff_eq.mp q1
      have e2 := beq_iff_eq.mp q2
      have e3 : cd.hasDel = false := by simpa using q3
      subst e1 e2
      obtain ⟨nm, bs, mro, ns, qn, hd, sn, sub, ab, col, del⟩ := cd
      dsimp only at hmro e3 q4
      subst hmro e3 q4
      have hsl : sl = #[k0, k1, k2, k3, some (.builtin "ValueError.__new__"), k5] := by
        rw [← hs]
      subst hsl
      exact ⟨nm, qn, ns, bs, bm, sn, sub, ab, col, dd, k0, k1, k2, k3, k5, ho, q5⟩
    · cases q
  · cases q
def moreB (K : PySem.W.Frag) : Bool :=
  oexB K (He.ga K "TooMany") && (decide (PySem.W.findIn K (.ref (He.ga K "TooMany")) "__setattr__" = some (some (.builtin "object.__setattr__"))) && (decide (PySem.W.subIn K (.ref (He.ga K "TooMany")) (.type "BaseException") = some true) &&
  (decide (PySem.W.typeIn K (.ref (He.ga K "TooMany")) = some (.type "type")) && (xfB K (He.ga K "TooMany") && (decide (PySem.W.typeIn K (.ref (He.ma K (He.ga K "TooMany") "__init__")) = some (.type "function")) &&
  (decide (PySem.W.findIn K (.ref (He.ga K "TooMany")) "__init__" = some (some (.ref (He.ma K (He.ga K "TooMany") "__init__")))) && (PySem.W.isFn K (.ref (He.ma K (He.ga K "TooMany") "__init__")) &&
  (decide (He.ga K "TooMany" ≠ He.ga K "AfterError") && (decide (PySem.W.kitCls K (.ref (He.ga K "TooMany")) (.ref (He.ga K "AfterError")) = some true) && ((PySem.W.clsIn K (He.ga K "TooMany")).isSome &&
  (decide (PySem.W.findIn K (.ref (He.ga K "Store")) "__class__" = some (some (.builtin "object.__class__"))) && (decide (PySem.W.specialIn K (.builtin "object.__class__") "__get__" = some (some (.builtin "getset_descriptor.__get__"))) &&
  (decide (PySem.W.takesIn K (.builtin "object.__class__") = some true) && (decide (PySem.W.mroIn K (He.ga K "Store") (.type "object") = some true) && (decide (PySem.W.kitOne K (.ref (He.ga K "Store")) (.ref (He.ga K "Store")) = some true) &&
  (PySem.W.makesIn K (He.ga K "Standings") && PySem.W.makesIn K (He.ga K "Store")))))))))))))))))
theorem tx {K : PySem.W.Frag} {h : Heap} {mg : Str → Option Value} (X : K.In h) (G : h.Ns mainGlobals mg) (c : He.SaysD faL fnL K) (m : moreB K = true) : ∃ T : Tx K mg, T.law.f = He.ga K "law" := by
  unfold moreB at m
  obtain ⟨m1, m⟩ := Bool.and_eq_true_iff.mp m
  obtain ⟨m2, m⟩ := Bool.and_eq_true_iff.mp m
  obtain ⟨m3, m⟩ := Bool.and_eq_true_iff.mp m
  obtain ⟨m4, m⟩ := Bool.and_eq_true_iff.mp m
  obtain ⟨m5, m⟩ := Bool.and_eq_true_iff.mp m
  obtain ⟨m6, m⟩ := Bool.and_eq_true_iff.mp m
  obtain ⟨m7, m⟩ := Bool.and_eq_true_iff.mp m
  obtain ⟨m8, m⟩ := Bool.and_eq_true_iff.mp m
  obtain ⟨m9, m⟩ := Bool.and_eq_true_iff.mp m
  obtain ⟨m10, m⟩ := Bool.and_eq_true_iff.mp m
  obtain ⟨m11, m⟩ := Bool.and_eq_true_iff.mp m
  obtain ⟨m12, m⟩ := Bool.and_eq_true_iff.mp m
  obtain ⟨m13, m⟩ := Bool.and_eq_true_iff.mp m
  obtain ⟨m14, m⟩ := Bool.and_eq_true_iff.mp m
  obtain ⟨m15, m⟩ := Bool.and_eq_true_iff.mp m
  obtain ⟨m16, m⟩ := Bool.and_eq_true_iff.mp m
  obtain ⟨m17, m18⟩ := Bool.and_eq_true_iff.mp m
  obtain ⟨fd0, F0⟩ : ∃ fd, FunD K "led" "led" (defArgs (top 14)) (defBody (top 14)) (defScope (top 14)) [] [] (He.ga K "led") fd := c.def_ 0 (d := dF "led" 14) rfl
  obtain ⟨fd1, F1⟩ : ∃ fd, FunD K "lowered" "lowered" (defArgs (top 16)) (defBody (top 16)) (defScope (top 16)) [] [] (He.ga K "lowered") fd := c.def_ 1 (d := dF "lowered" 16) rfl
  obtain ⟨fd2, F2⟩ : ∃ fd, FunD K "standings" "standings" (defArgs (top 20)) (defBody (top 20)) (defScope (top 20)) [] [] (He.ga K "standings") fd := c.def_ 2 (d := dF "standings" 20) rfl
  obtain ⟨fd3, F3⟩ : ∃ fd, FunD K "is_integer" "is_integer" (defArgs (top 24)) (defBody (top 24)) (defScope (top 24)) [] [] (He.ga K "is_integer") fd := c.def_ 3 (d := dF "is_integer" 24) rfl
  obtain ⟨fd4, F4⟩ : ∃ fd, FunD K "is_listed" "is_listed" (defArgs (top 26)) (defBody (top 26)) (defScope (top 26)) [] [] (He.ga K "is_listed") fd := c.def_ 4 (d := dF "is_listed" 26) rfl
  obtain ⟨fd5, F5⟩ : ∃ fd, FunD K "deep" "deep" (defArgs (top 27)) (defBody (top 27)) (defScope (top 27)) [] [] (He.ga K "deep") fd := c.def_ 5 (d := dF "deep" 27) rfl
  obtain ⟨fd6, F6⟩ : ∃ fd, FunD K "is_asks" "is_asks" (defArgs (top 28)) (defBody (top 28)) (defScope (top 28)) [] [] (He.ga K "is_asks") fd := c.def_ 6 (d := dF "is_asks" 28) rfl
  obtain ⟨fd7, F7⟩ : ∃ fd, FunD K "check_asks" "check_asks" (defArgs (top 29)) (defBody (top 29)) (defScope (top 29)) [] [] (He.ga K "check_asks") fd := c.def_ 7 (d := dF "check_asks" 29) rfl
  obtain ⟨fd8, F8⟩ : ∃ fd, FunD K "integers" "integers" (defArgs (top 34)) (defBody (top 34)) (defScope (top 34)) [] [] (He.ga K "integers") fd := c.def_ 8 (d := dF "integers" 34) rfl
  obtain ⟨fd9, F9⟩ : ∃ fd, FunD K "is_table" "is_table" (defArgs (top 37)) (defBody (top 37)) (defScope (top 37)) [] [] (He.ga K "is_table") fd := c.def_ 9 (d := dF "is_table" 37) rfl
  obtain ⟨fd10, F10⟩ : ∃ fd, FunD K "are_costs" "are_costs" (defArgs (top 38)) (defBody (top 38)) (defScope (top 38)) [] [] (He.ga K "are_costs") fd := c.def_ 10 (d := dF "are_costs" 38) rfl
  obtain ⟨fd11, F11⟩ : ∃ fd, FunD K "standing_steps" "standing_steps" (defArgs (top 53)) (defBody (top 53)) (defScope (top 53)) [] [] (He.ga K "standing_steps") fd := c.def_ 11 (d := dF "standing_steps" 53) rfl
  obtain ⟨fd12, F12⟩ : ∃ fd, FunD K "least_machine" "least_machine" (defArgs (top 54)) (defBody (top 54)) (defScope (top 54)) [] [] (He.ga K "least_machine") fd := c.def_ 12 (d := dF "least_machine" 54) rfl
  obtain ⟨fd13, F13⟩ : ∃ fd, FunD K "_law_cell" "_law_cell" (defArgs (top 56)) (defBody (top 56)) (defScope (top 56)) [] [] (He.ga K "_law_cell") fd := c.def_ 13 (d := dF "_law_cell" 56) rfl
  obtain ⟨fd14, F14⟩ : ∃ fd, FunD K "_law_source" "_law_source" (defArgs (top 57)) (defBody (top 57)) (defScope (top 57)) [] [] (He.ga K "_law_source") fd := c.def_ 14 (d := dF "_law_source" 57) rfl
  obtain ⟨fd15, F15⟩ : ∃ fd, FunD K "_law_draw" "_law_draw" (defArgs (top 58)) (defBody (top 58)) (defScope (top 58)) [] [] (He.ga K "_law_draw") fd := c.def_ 15 (d := dF "_law_draw" 58) rfl
  obtain ⟨fd16, F16⟩ : ∃ fd, FunD K "_law_is_int" "_law_is_int" (defArgs (top 59)) (defBody (top 59)) (defScope (top 59)) [] [] (He.ga K "_law_is_int") fd := c.def_ 16 (d := dF "_law_is_int" 59) rfl
  obtain ⟨fd17, F17⟩ : ∃ fd, FunD K "_law_exact" "_law_exact" (defArgs (top 60)) (defBody (top 60)) (defScope (top 60)) [] [] (He.ga K "_law_exact") fd := c.def_ 17 (d := dF "_law_exact" 60) rfl
  obtain ⟨fd18, F18⟩ : ∃ fd, FunD K "_law_asks" "_law_asks" (defArgs (top 61)) (defBody (top 61)) (defScope (top 61)) [] [] (He.ga K "_law_asks") fd := c.def_ 18 (d := dF "_law_asks" 61) rfl
  obtain ⟨fd19, F19⟩ : ∃ fd, FunD K "_law_prices" "_law_prices" (defArgs (top 62)) (defBody (top 62)) (defScope (top 62)) [] [] (He.ga K "_law_prices") fd := c.def_ 19 (d := dF "_law_prices" 62) rfl
  obtain ⟨fd20, F20⟩ : ∃ fd, FunD K "_law_any_table" "_law_any_table" (defArgs (top 63)) (defBody (top 63)) (defScope (top 63)) [] [] (He.ga K "_law_any_table") fd := c.def_ 20 (d := dF "_law_any_table" 63) rfl
  obtain ⟨fd21, F21⟩ : ∃ fd, FunD K "_law_change" "_law_change" (defArgs (top 64)) (defBody (top 64)) (defScope (top 64)) [] [] (He.ga K "_law_change") fd := c.def_ 21 (d := dF "_law_change" 64) rfl
  obtain ⟨fd22, F22⟩ : ∃ fd, FunD K "_law_changes" "_law_changes" (defArgs (top 65)) (defBody (top 65)) (defScope (top 65)) [] [] (He.ga K "_law_changes") fd := c.def_ 22 (d := dF "_law_changes" 65) rfl
  obtain ⟨fd23, F23⟩ : ∃ fd, FunD K "_law_served" "_law_served" (defArgs (top 66)) (defBody (top 66)) (defScope (top 66)) [] [] (He.ga K "_law_served") fd := c.def_ 23 (d := dF "_law_served" 66) rfl
  obtain ⟨fd24, F24⟩ : ∃ fd, FunD K "_law_world" "_law_world" (defArgs (top 67)) (defBody (top 67)) (defScope (top 67)) [] [] (He.ga K "_law_world") fd := c.def_ 24 (d := dF "_law_world" 67) rfl
  obtain ⟨fd25, F25⟩ : ∃ fd, FunD K "_law_raised" "_law_raised" (defArgs (top 68)) (defBody (top 68)) (defScope (top 68)) [] [] (He.ga K "_law_raised") fd := c.def_ 25 (d := dF "_law_raised" 68) rfl
  obtain ⟨fd26, F26⟩ : ∃ fd, FunD K "_law_moved" "_law_moved" (defArgs (top 69)) (defBody (top 69)) (defScope (top 69)) [] [] (He.ga K "_law_moved") fd := c.def_ 26 (d := dF "_law_moved" 69) rfl
  obtain ⟨fd27, F27⟩ : ∃ fd, FunD K "_law_scaled" "_law_scaled" (defArgs (top 70)) (defBody (top 70)) (defScope (top 70)) [] [] (He.ga K "_law_scaled") fd := c.def_ 27 (d := dF "_law_scaled" 70) rfl
  obtain ⟨fd28, F28⟩ : ∃ fd, FunD K "_law_lists" "_law_lists" (defArgs (top 71)) (defBody (top 71)) (defScope (top 71)) [] [] (He.ga K "_law_lists") fd := c.def_ 28 (d := dF "_law_lists" 71) rfl
  obtain ⟨fd29, F29⟩ : ∃ fd, FunD K "_law_led" "_law_led" (defArgs (top 72)) (defBody (top 72)) (defScope (top 72)) [] [] (He.ga K "_law_led") fd := c.def_ 29 (d := dF "_law_led" 72) rfl
  obtain ⟨fd30, F30⟩ : ∃ fd, FunD K "_law_work" "_law_work" (defArgs (top 73)) (defBody (top 73)) (defScope (top 73)) [] [] (He.ga K "_law_work") fd := c.def_ 30 (d := dF "_law_work" 73) rfl
  obtain ⟨fd31, F31⟩ : ∃ fd, FunD K "_law_low" "_law_low" (defArgs (top 74)) (defBody (top 74)) (defScope (top 74)) [] [] (He.ga K "_law_low") fd := c.def_ 31 (d := dF "_law_low" 74) rfl
  obtain ⟨fd32, F32⟩ : ∃ fd, FunD K "_law_lots" "_law_lots" (defArgs (top 75)) (defBody (top 75)) (defScope (top 75)) [] [] (He.ga K "_law_lots") fd := c.def_ 32 (d := dF "_law_lots" 75) rfl
  obtain ⟨fd33, F33⟩ : ∃ fd, FunD K "_law_steps_due" "_law_steps_due" (defArgs (top 76)) (defBody (top 76)) (defScope (top 76)) [] [] (He.ga K "_law_steps_due") fd := c.def_ 33 (d := dF "_law_steps_due" 76) rfl
  obtain ⟨fd34, F34⟩ : ∃ fd, FunD K "_law_row" "_law_row" (defArgs (top 77)) (defBody (top 77)) (defScope (top 77)) [] [] (He.ga K "_law_row") fd := c.def_ 34 (d := dF "_law_row" 77) rfl
  obtain ⟨fd35, F35⟩ : ∃ fd, FunD K "_law_no_teller" "_law_no_teller" (defArgs (top 78)) (defBody (top 78)) (defScope (top 78)) [] [] (He.ga K "_law_no_teller") fd := c.def_ 35 (d := dF "_law_no_teller" 78) rfl
  obtain ⟨fd36, F36⟩ : ∃ fd, FunD K "_law_wide" "_law_wide" (defArgs (top 79)) (defBody (top 79)) (defScope (top 79)) [] [] (He.ga K "_law_wide") fd := c.def_ 36 (d := dF "_law_wide" 79) rfl
  obtain ⟨fd37, F37⟩ : ∃ fd, FunD K "law" "law" (defArgs (top 80)) (defBody (top 80)) (defScope (top 80)) [] [] (He.ga K "law") fd := c.def_ 37 (d := dF "law" 80) rfl
  obtain ⟨fd38, F38⟩ : ∃ fd, FunD K "__init__" "Standings.__init__" (defArgs (inClass (top 19) 0)) (defBody (inClass (top 19) 0)) (defScope (inClass (top 19) 0)) [] [] (He.ma K (He.ga K "Standings") "__init__") fd := c.def_ 38 (d := dM "Standings" "__init__" "Standings.__init__" 19 0) rfl
  obtain ⟨fd39, F39⟩ : ∃ fd, FunD K "__len__" "Standings.__len__" (defArgs (inClass (top 19) 1)) (defBody (inClass (top 19) 1)) (defScope (inClass (top 19) 1)) [] [] (He.ma K (He.ga K "Standings") "__len__") fd := c.def_ 39 (d := dM "Standings" "__len__" "Standings.__len__" 19 1) rfl
  obtain ⟨fd40, F40⟩ : ∃ fd, FunD K "__iter__" "Standings.__iter__" (defArgs (inClass (top 19) 2)) (defBody (inClass (top 19) 2)) (defScope (inClass (top 19) 2)) [] [] (He.ma K (He.ga K "Standings") "__iter__") fd := c.def_ 40 (d := dM "Standings" "__iter__" "Standings.__iter__" 19 2) rfl
  obtain ⟨fd41, F41⟩ : ∃ fd, FunD K "__init__" "Store.__init__" (defArgs (inClass (top 39) 0)) (defBody (inClass (top 39) 0)) (defScope (inClass (top 39) 0)) [] [] (He.ma K (He.ga K "Store") "__init__") fd := c.def_ 41 (d := dM "Store" "__init__" "Store.__init__" 39 0) rfl
  obtain ⟨fd42, F42⟩ : ∃ fd, FunD K "__init__" "TooMany.__init__" (defArgs (inClass (top 12) 0)) (defBody (inClass (top 12) 0)) (defScope (inClass (top 12) 0)) [] [] (He.ma K (He.ga K "TooMany") "__init__") fd := c.def_ 42 (d := dM "TooMany" "__init__" "TooMany.__init__" 12 0) rfl
  exact ⟨{
    led := ⟨He.ga K "led", fd0, F0, He.glo_ok X G (c.fact 0 (f := .glo "led") rfl), F0.bindsN fun _ _ _ _ _ _ us hl => match us, hl with | [_, _], _ => rfl⟩,
    lowered := ⟨He.ga K "lowered", fd1, F1, He.glo_ok X G (c.fact 1 (f := .glo "lowered") rfl), F1.bindsN fun _ _ _ _ _ _ us hl => match us, hl with | [_], _ => rfl⟩,
    standings := ⟨He.ga K "standings", fd2, F2, He.glo_ok X G (c.fact 2 (f := .glo "standings") rfl), F2.bindsN fun _ _ _ _ _ _ us hl => match us, hl with | [_], _ => rfl⟩,
    isInteger := ⟨He.ga K "is_integer", fd3, F3, He.glo_ok X G (c.fact 3 (f := .glo "is_integer") rfl), F3.bindsN fun _ _ _ _ _ _ us hl => match us, hl with | [_], _ => rfl⟩,
    isListed := ⟨He.ga K "is_listed", fd4, F4, He.glo_ok X G (c.fact 4 (f := .glo "is_listed") rfl), F4.bindsN fun _ _ _ _ _ _ us hl => match us, hl with | [_], _ => rfl⟩,
    deep := ⟨He.ga K "deep", fd5, F5, He.glo_ok X G (c.fact 5 (f := .glo "deep") rfl), F5.bindsN fun _ _ _ _ _ _ us hl => match us, hl with | [_], _ => rfl⟩,
    isAsks := ⟨He.ga K "is_asks", fd6, F6, He.glo_ok X G (c.fact 6 (f := .glo "is_asks") rfl), F6.bindsN fun _ _ _ _ _ _ us hl => match us, hl with | [_], _ => rfl⟩,
    checkAsks := ⟨He.ga K "check_asks", fd7, F7, He.glo_ok X G (c.fact 7 (f := .glo "check_asks") rfl), F7.bindsN fun _ _ _ _ _ _ us hl => match us, hl with | [_], _ => rfl⟩,
    integers := ⟨He.ga K "integers", fd8, F8, He.glo_ok X G (c.fact 8 (f := .glo "integers") rfl), F8.bindsN fun _ _ _ _ _ _ us hl => match us, hl with | [_, _], _ => rfl⟩,
    isTable := ⟨He.ga K "is_table", fd9, F9, He.glo_ok X G (c.fact 9 (f := .glo "is_table") rfl), F9.bindsN fun _ _ _ _ _ _ us hl => match us, hl with | [_, _], _ => rfl⟩,
    areCosts := ⟨He.ga K "are_costs", fd10, F10, He.glo_ok X G (c.fact 10 (f := .glo "are_costs") rfl), F10.bindsN fun _ _ _ _ _ _ us hl => match us, hl with | [_, _, _], _ => rfl⟩,
    standingSteps := ⟨He.ga K "standing_steps", fd11, F11, He.glo_ok X G (c.fact 11 (f := .glo "standing_steps") rfl), F11.bindsN fun _ _ _ _ _ _ us hl => match us, hl with | [_], _ => rfl⟩,
    leastMachine := ⟨He.ga K "least_machine", fd12, F12, He.glo_ok X G (c.fact 12 (f := .glo "least_machine") rfl), F12.bindsN fun _ _ _ _ _ _ us hl => match us, hl with | [_], _ => rfl⟩,
    cell := ⟨He.ga K "_law_cell", fd13, F13, He.glo_ok X G (c.fact 13 (f := .glo "_law_cell") rfl), F13.bindsN fun _ _ _ _ _ _ us hl => match us, hl with | [_, _], _ => rfl⟩,
    source := ⟨He.ga K "_law_source", fd14, F14, He.glo_ok X G (c.fact 14 (f := .glo "_law_source") rfl), F14.bindsN fun _ _ _ _ _ _ us hl => match us, hl with | [_, _], _ => rfl⟩,
    draw := ⟨He.ga K "_law_draw", fd15, F15, He.glo_ok X G (c.fact 15 (f := .glo "_law_draw") rfl), F15.bindsN fun _ _ _ _ _ _ us hl => match us, hl with | [_, _], _ => rfl⟩,
    isInt := ⟨He.ga K "_law_is_int", fd16, F16, He.glo_ok X G (c.fact 16 (f := .glo "_law_is_int") rfl), F16.bindsN fun _ _ _ _ _ _ us hl => match us, hl with | [_], _ => rfl⟩,
    exact_ := ⟨He.ga K "_law_exact", fd17, F17, He.glo_ok X G (c.fact 17 (f := .glo "_law_exact") rfl), F17.bindsN fun _ _ _ _ _ _ us hl => match us, hl with | [_, _], _ => rfl⟩,
    asks := ⟨He.ga K "_law_asks", fd18, F18, He.glo_ok X G (c.fact 18 (f := .glo "_law_asks") rfl), F18.bindsN fun _ _ _ _ _ _ us hl => match us, hl with | [_], _ => rfl⟩,
    prices := ⟨He.ga K "_law_prices", fd19, F19, He.glo_ok X G (c.fact 19 (f := .glo "_law_prices") rfl), F19.bindsN fun _ _ _ _ _ _ us hl => match us, hl with | [_, _, _], _ => rfl⟩,
    anyTable := ⟨He.ga K "_law_any_table", fd20, F20, He.glo_ok X G (c.fact 20 (f := .glo "_law_any_table") rfl), F20.bindsN fun _ _ _ _ _ _ us hl => match us, hl with | [_, _, _], _ => rfl⟩,
    change := ⟨He.ga K "_law_change", fd21, F21, He.glo_ok X G (c.fact 21 (f := .glo "_law_change") rfl), F21.bindsN fun _ _ _ _ _ _ us hl => match us, hl with | [_, _, _, _], _ => rfl⟩,
    changes := ⟨He.ga K "_law_changes", fd22, F22, He.glo_ok X G (c.fact 22 (f := .glo "_law_changes") rfl), F22.bindsN fun _ _ _ _ _ _ us hl => match us, hl with | [_, _, _], _ => rfl⟩,
    served := ⟨He.ga K "_law_served", fd23, F23, He.glo_ok X G (c.fact 23 (f := .glo "_law_served") rfl), F23.bindsN fun _ _ _ _ _ _ us hl => match us, hl with | [_, _], _ => rfl⟩,
    world := ⟨He.ga K "_law_world", fd24, F24, He.glo_ok X G (c.fact 24 (f := .glo "_law_world") rfl), F24.bindsN fun _ _ _ _ _ _ us hl => match us, hl with | [_, _, _, _], _ => rfl⟩,
    raised := ⟨He.ga K "_law_raised", fd25, F25, He.glo_ok X G (c.fact 25 (f := .glo "_law_raised") rfl), F25.bindsN fun _ _ _ _ _ _ us hl => match us, hl with | [_, _], _ => rfl⟩,
    moved := ⟨He.ga K "_law_moved", fd26, F26, He.glo_ok X G (c.fact 26 (f := .glo "_law_moved") rfl), F26.bindsN fun _ _ _ _ _ _ us hl => match us, hl with | [_, _], _ => rfl⟩,
    scaled := ⟨He.ga K "_law_scaled", fd27, F27, He.glo_ok X G (c.fact 27 (f := .glo "_law_scaled") rfl), F27.bindsN fun _ _ _ _ _ _ us hl => match us, hl with | [_, _], _ => rfl⟩,
    lists := ⟨He.ga K "_law_lists", fd28, F28, He.glo_ok X G (c.fact 28 (f := .glo "_law_lists") rfl), F28.bindsN fun _ _ _ _ _ _ us hl => match us, hl with | [_], _ => rfl⟩,
    lled := ⟨He.ga K "_law_led", fd29, F29, He.glo_ok X G (c.fact 29 (f := .glo "_law_led") rfl), F29.bindsN fun _ _ _ _ _ _ us hl => match us, hl with | [_, _], _ => rfl⟩,
    work := ⟨He.ga K "_law_work", fd30, F30, He.glo_ok X G (c.fact 30 (f := .glo "_law_work") rfl), F30.bindsN fun _ _ _ _ _ _ us hl => match us, hl with | [_, _], _ => rfl⟩,
    llow := ⟨He.ga K "_law_low", fd31, F31, He.glo_ok X G (c.fact 31 (f := .glo "_law_low") rfl), F31.bindsN fun _ _ _ _ _ _ us hl => match us, hl with | [_], _ => rfl⟩,
    lots := ⟨He.ga K "_law_lots", fd32, F32, He.glo_ok X G (c.fact 32 (f := .glo "_law_lots") rfl), F32.bindsN fun _ _ _ _ _ _ us hl => match us, hl with | [_, _], _ => rfl⟩,
    stepsDue := ⟨He.ga K "_law_steps_due", fd33, F33, He.glo_ok X G (c.fact 33 (f := .glo "_law_steps_due") rfl), F33.bindsN fun _ _ _ _ _ _ us hl => match us, hl with | [_], _ => rfl⟩,
    row := ⟨He.ga K "_law_row", fd34, F34, He.glo_ok X G (c.fact 34 (f := .glo "_law_row") rfl), F34.bindsN fun _ _ _ _ _ _ us hl => match us, hl with | [_, _, _], _ => rfl⟩,
    noTeller := ⟨He.ga K "_law_no_teller", fd35, F35, He.glo_ok X G (c.fact 35 (f := .glo "_law_no_teller") rfl), F35.bindsN fun _ _ _ _ _ _ us hl => match us, hl with | [_], _ => rfl⟩,
    wide := ⟨He.ga K "_law_wide", fd36, F36, He.glo_ok X G (c.fact 36 (f := .glo "_law_wide") rfl), F36.bindsN fun _ _ _ _ _ _ us hl => match us, hl with | [_], _ => rfl⟩,
    law := ⟨He.ga K "law", fd37, F37, He.glo_ok X G (c.fact 37 (f := .glo "law") rfl), F37.bindsN fun _ _ _ _ _ _ us hl => match us, hl with | [_], _ => rfl⟩,
    iSg := ⟨He.ma K (He.ga K "Standings") "__init__", fd38, F38, (He.meth_ok (c.fact 74 (f := .meth "Standings" "__init__") rfl)).at_, (He.meth_ok (c.fact 74 (f := .meth "Standings" "__init__") rfl)).fn, F38.bindsN fun _ _ _ _ _ _ us hl => match us, hl with | [_, _, _, _], _ => rfl⟩,
    lenSg := ⟨He.ma K (He.ga K "Standings") "__len__", fd39, F39, (He.meth_ok (c.fact 75 (f := .meth "Standings" "__len__") rfl)).at_, (He.meth_ok (c.fact 75 (f := .meth "Standings" "__len__") rfl)).fn, F39.bindsN fun _ _ _ _ _ _ us hl => match us, hl with | [_], _ => rfl⟩,
    itSg := ⟨He.ma K (He.ga K "Standings") "__iter__", fd40, F40, (He.meth_ok (c.fact 76 (f := .meth "Standings" "__iter__") rfl)).at_, (He.meth_ok (c.fact 76 (f := .meth "Standings" "__iter__") rfl)).fn, F40.bindsN fun _ _ _ _ _ _ us hl => match us, hl with | [_], _ => rfl⟩,
    iSt := ⟨He.ma K (He.ga K "Store") "__init__", fd41, F41, (He.meth_ok (c.fact 77 (f := .meth "Store" "__init__") rfl)).at_, (He.meth_ok (c.fact 77 (f := .meth "Store" "__init__") rfl)).fn, F41.bindsN fun _ _ _ _ _ _ us hl => match us, hl with | [_, _, _, _, _], _ => rfl⟩,
    iTM := ⟨He.ma K (He.ga K "TooMany") "__init__", fd42, F42, of_decide_eq_true m7, m8, F42.bindsN fun _ _ _ _ _ _ us hl => match us, hl with | [_, _], _ => rfl⟩,
    nlen := He.free_ok X G (c.fact 42 (f := .free "len") rfl),
    nisi := He.free_ok X G (c.fact 43 (f := .free "isinstance") rfl),
    nint := He.free_ok X G (c.fact 44 (f := .free "int") rfl),
    nbool := He.free_ok X G (c.fact 45 (f := .free "bool") rfl),
    nstr := He.free_ok X G (c.fact 46 (f := .free "str") rfl),
    ntup := He.free_ok X G (c.fact 47 (f := .free "tuple") rfl),
    nlist := He.free_ok X G (c.fact 48 (f := .free "list") rfl),
    nmin := He.free_ok X G (c.fact 49 (f := .free "min") rfl),
    nmax := He.free_ok X G (c.fact 50 (f := .free "max") rfl),
    nabs := He.free_ok X G (c.fact 51 (f := .free "abs") rfl),
    nsum := He.free_ok X G (c.fact 52 (f := .free "sum") rfl),
    nrange := He.free_ok X G (c.fact 53 (f := .free "range") rfl),
    nenum := He.free_ok X G (c.fact 54 (f := .free "enumerate") rfl),
    nzip := He.free_ok X G (c.fact 55 (f := .free "zip") rfl),
    niter := He.free_ok X G (c.fact 56 (f := .free "iter") rfl),
    cAE := ⟨He.ga K "AfterError", He.glo_ok X G (c.fact 38 (f := .glo "AfterError") rfl)⟩,
    cTM := ⟨He.ga K "TooMany", He.glo_ok X G (c.fact 39 (f := .glo "TooMany") rfl)⟩,
    cSg := ⟨He.ga K "Standings", He.glo_ok X G (c.fact 40 (f := .glo "Standings") rfl)⟩,
    cSt := ⟨He.ga K "Store", He.glo_ok X G (c.fact 41 (f := .glo "Store") rfl)⟩,
    letters := He.str_ok X G (c.fact 57 (f := .str "LETTERS" "abcdefgh") rfl),
    mostStandings := He.int_ok X G (c.fact 58 (f := .int "MOST_STANDINGS" 1000) rfl),
    mostStates := He.int_ok X G (c.fact 59 (f := .int "MOST_STATES" 1000) rfl),
    clSg := He.cls_ok (c.fact 60 (f := .cls "Standings") rfl),
    clSt := He.cls_ok (c.fact 61 (f := .cls "Store") rfl),
    mkSg := ⟨He.ma K (He.ga K "Standings") "__init__", m17, (He.meth_ok (c.fact 74 (f := .meth "Standings" "__init__") rfl)).at_, (He.meth_ok (c.fact 74 (f := .meth "Standings" "__init__") rfl)).fn, He.keep_ok (c.fact 62 (f := .keep "Standings") rfl)⟩,
    kpSg := He.keep_ok (c.fact 62 (f := .keep "Standings") rfl),
    kpSt := He.keep_ok (c.fact 63 (f := .keep "Store") rfl),
    maSg := m17,
    maSt := m18,
    naLots := He.noat_ok (c.fact 65 (f := .noat "Standings" "lots") rfl),
    naRows := He.noat_ok (c.fact 66 (f := .noat "Standings" "rows") rfl),
    naSteps := He.noat_ok (c.fact 67 (f := .noat "Standings" "steps") rfl),
    naAsks := He.noat_ok (c.fact 68 (f := .noat "Store" "asks") rfl),
    naBegins := He.noat_ok (c.fact 69 (f := .noat "Store" "begins") rfl),
    naCosts := He.noat_ok (c.fact 70 (f := .noat "Store" "costs") rfl),
    naEnds := He.noat_ok (c.fact 71 (f := .noat "Store" "ends") rfl),
    naWord := He.noat_ok (c.fact 72 (f := .noat "TooMany" "word") rfl),
    oTM := ⟨oexB_ok m1, of_decide_eq_true m2, of_decide_eq_true m3, of_decide_eq_true m4, He.keep_ok (c.fact 64 (f := .keep "TooMany") rfl)⟩,
    xfTM := xfB_ok m5,
    tyTM := of_decide_eq_true m6,
    exm := He.exm_ok (c.fact 73 (f := .exm "TooMany" "TooMany" true) rfl),
    isaTM := ⟨of_decide_eq_true m9, of_decide_eq_true m10, m11⟩,
    insSt := ⟨He.cls_ok (c.fact 61 (f := .cls "Store") rfl), of_decide_eq_true m12, of_decide_eq_true m13, of_decide_eq_true m14, of_decide_eq_true m15, of_decide_eq_true m16⟩
  }, rfl⟩
end SD

/-! ## SHead1 -/
set_option maxHeartbeats 0
namespace SD
open PySem PySem.Spec PyProof.Rows L2 SR
/-! ### what the head looks at: the module's names, the defs' code, the classes' own dicts, the methods, their code -/
def dictVals (o : Obj) : List Addr := match o.data with
  | .dict es _ => es.toList.flatMap fun e => He.refV e.val
  | _ => []
def codeOrNs (o : Obj) : List Addr := match o.data with
  | .func fd => He.refV fd.code
  | .cls cd => [cd.ns]
  | _ => []
def down (g : Addr → Option Obj) (f : Obj → List Addr) (as : List Addr) : List Addr := as.flatMap fun a => match g a with
  | some o => f o
  | none => []
def lev1 (g : Addr → Option Obj) : List Addr := down g dictVals [mainGlobals]
def lev2 (g : Addr → Option Obj) : List Addr := down g codeOrNs (lev1 g)
def lev3 (g : Addr → Option Obj) : List Addr := down g dictVals (lev2 g)
def lev4 (g : Addr → Option Obj) : List Addr := down g codeOrNs (lev3 g)
def seenS (g : Addr → Option Obj) : List Addr := mainGlobals :: (lev1 g ++ (lev2 g ++ (lev3 g ++ lev4 g)))
abbrev AlS : Type := He.AlD × Bool
def obsS (g : Addr → Option Obj) : AlS := (He.obsD faL fnL (He.frG g (seenS g)), moreB (He.frG g (seenS g)))
def hk : PySem.W.Hook where
  α := AlS
  obs := fun s => obsS s.heap.get?
  val := fun _ => (He.valD fnL, true)
  says := fun _ h => ∃ K : PySem.W.Frag, K.In h ∧ He.SaysD faL fnL K ∧ moreB K = true
  of := fun _ _ e => ⟨_, He.frG_in, congrArg Prod.fst e, congrArg Prod.snd e⟩
  keeps := fun _ _ _ ⟨K, hK, c⟩ k => ⟨K, PySem.W.Frag.In.keeps hK k, c⟩
def ob (s : PySem.W.SharedT) : AlS := obsS (HandSHeadRun.getT s)
theorem ob_eq (s : PySem.W.SharedT) : ob s = hk.obs s.abs := by
  have e : HandSHeadRun.getT s = s.abs.heap.get? := funext (HandSHeadRun.getT_eq s)
  unfold ob
  rw [e]
  rfl
theorem run (w : World) : HandSHeadRun.RunEq Rw (PySem.W.view Rw.prog [80]) hk ob 6000 looseL w := by
  intro os
  kernel_rfl
end SD

/-! ## SEnd -/
set_option maxHeartbeats 0
open PySem PySem.W PySem.Calls PyProof.Rows
theorem PySem.Challenge.cw_afterwise_k09_whole_standings_holds : PySem.Challenge.rw_afterwise_k09_whole_standings.Holds := by
  w_on; o_law
  refine HandSHeadRun.head_any (r := OpenLaw.row PySem.Challenge.rw_afterwise_k09_whole_standings) (q := view (OpenLaw.row PySem.Challenge.rw_afterwise_k09_whole_standings).prog [80]) (H := SD.hk) (ob := SD.ob) (M := 6000) (loose := SD.looseL) (d := HandSHeadRun.topDef (OpenLaw.row PySem.Challenge.rw_afterwise_k09_whole_standings).prog 80) (kwd := []) SD.ob_eq
    (by kernel_rfl) (fun s => by kernel_rfl) SD.run (by kernel_rfl) (by kernel_rfl) (by kernel_rfl) (by rfl) (by first | assumption | decide +kernel) (by decide +kernel) ⟨rfl, rfl, rfl, rfl, rfl, by decide +kernel⟩ ?hw ?hc
  case hw => w_witness2
  case hc =>
    refine L2.walk_ofE (l := PySem.Challenge.rw_afterwise_k09_whole_standings) (n := 63) (k := 10) (x := "_law_script") (CX := L2.CX0) rfl (by decide) (by kernel_rfl) ⟨rfl, by decide, by decide⟩ ?F (fun _ _ _ _ z => z)
    intro w mg fa h Y G hmg0
    obtain ⟨K, KX, c, m⟩ := Y
    have hmg : mg ("law" : PySem.Str) = some (.ref fa) := by
      have e : (HandSHeadRun.topDef (OpenLaw.row PySem.Challenge.rw_afterwise_k09_whole_standings).prog 80).name = ("law" : PySem.Str) := by kernel_rfl
      rw [← e]
      exact hmg0
    obtain ⟨T, hT⟩ := SD.tx KX G c m
    have ef : T.law.f = fa := by
      have z := T.law.g.symm.trans hmg
      cases z
      rfl
    subst ef
    refine ⟨K, T.law.fd, SD.spLaw K, KX, fun s v => ?_, fun H a ns hl _ hS => ⟨a, ns, rfl, hS, fun _ => rfl⟩, fun base _ _ => SD.ok_law T⟩
    have b := L2.FunD.bindsA (ps := ["_law_script"]) T.law.F fun _ _ _ _ _ _ us hl => match us, hl with | [_], _ => rfl
    exact b s [v] rfl
#print axioms PySem.Challenge.cw_afterwise_k09_whole_standings_holds

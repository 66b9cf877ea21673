import PyProof.Rows.All
import Wide.All
import OpenK.AllK
import Wide.FinOn
import HandS.ForMost
import HandS.SetFor
import HandS.Conv
import HandS.AnyAll
import HandS.IsInst
import HandS.ReplaceLit
import HandS.WordsExc
import HandS.TryOnly
import HandS.ExcOwn
import HandS.Defaults
import HandS.HeadHook4
import HandS.HeadWalk
import HandS.Head0
import HandS.Head1
import HandS.Head2
import KE.DataMinMax
import KE.SortData
import PyProof.Rows.SortShellAny
import PyProof.StrBlock2
import KE.OsSortAny
import Lean
import PySem.Challenge.RW_relaybanks_k14_whole_spheres
set_option Elab.async false
set_option linter.all false
set_option maxRecDepth 100000
set_option maxHeartbeats 8000000
/-! ## K14A -/
namespace K14
open PySem PySem.Spec PyProof.Rows L2
/-! ### the mirrors: memories as lists of truth values -/
abbrev M := List Bool
def stepM (u : Bool) : M → M
  | [] => []
  | b :: r => if r.contains (!u) then b :: stepM u r else if b == (!u) then u :: r else b :: r
def wfa (s : Bool) : M → Nat
  | [] => 0
  | b :: r => if b == s then wfa s r else (r.length + 1) + wfa b r
def wl : M → M → Nat
  | a :: x, b :: y => if a == b then wl x y else (a :: x).count a + wfa b y
  | _, _ => 0
def allM : Nat → List M
  | 0 => [[]]
  | n + 1 => (allM n).flatMap fun m => [m ++ [false], m ++ [true]]
def look : List (M × Nat) → M → Option Nat
  | [], _ => none
  | (k, v) :: r, m => if k == m then some v else look r m
abbrev KR := List (M × Nat) × List M
def visit (st : KR) (here : M) (u : Bool) : KR :=
  match look st.1 (stepM u here) with
  | some _ => st
  | none => (st.1 ++ [(stepM u here, (look st.1 here).getD 0 + 1)], st.2 ++ [stepM u here])
def turn (st : KR) (here : M) : KR := visit (visit st here false) here true
def level (st : KR) : KR := st.2.foldl turn (st.1, [])
def iter : Nat → KR → KR
  | 0, st => st
  | n + 1, st => level (iter n st)
@[irreducible] def bfs (m : M) : List (M × Nat) := (iter 23 ([(m, 0)], [m])).1
/-! ### texts -/
def sg (b : Bool) : Nat := if b then 49 else 48
def tx (m : M) : Str := ⟨(m.map sg).toArray⟩
def upTo : Nat → List M
  | 0 => [[]]
  | n + 1 => [] :: (upTo n).flatMap fun m => [false :: m, true :: m]
theorem mem_upTo : ∀ (n : Nat) (m : M), m.length ≤ n → m ∈ upTo n
  | 0, [], _ => List.mem_cons_self
  | 0, b :: r, h => absurd h (by simp)
  | n + 1, [], _ => List.mem_cons_self
  | n + 1, b :: r, h => by
    have ih := mem_upTo n r (by simpa using h)
    refine List.mem_cons_of_mem _ (List.mem_flatMap.mpr ⟨r, ih, ?_⟩)
    cases b <;> simp
theorem tx_list (m : M) : (tx m).cps.toList = m.map sg := rfl
theorem tx_len (m : M) : (tx m).length = m.length := by
  show ((m.map sg).toArray).size = m.length
  rw [List.size_toArray, List.length_map]
theorem tx_app (a b : M) : tx a ++ tx b = tx (a ++ b) := by
  show (⟨(a.map sg).toArray ++ (b.map sg).toArray⟩ : Str) = ⟨((a ++ b).map sg).toArray⟩
  rw [List.map_append, List.append_toArray]
theorem sg_inj {a b : Bool} (h : sg a = sg b) : a = b := by
  cases a <;> cases b <;> first | rfl | (exact absurd h (by decide))
theorem tx_inj {a b : M} (h : tx a = tx b) : a = b := by
  have h1 : (tx a).cps.toList = (tx b).cps.toList := by rw [h]
  rw [tx_list, tx_list] at h1
  exact (List.map_inj_right fun _ _ e => sg_inj e).mp h1
theorem tx_dec (a b : M) : decide (tx a = tx b) = decide (a = b) := by
  by_cases h : a = b
  · rw [h, decide_eq_true rfl, decide_eq_true rfl]
  · rw [decide_eq_false h, decide_eq_false fun e => h (tx_inj e)]
theorem lit0 : ("0" : Str) = tx [false] := by decide +kernel
theorem lit1 : ("1" : Str) = tx [true] := by decide +kernel
theorem lit01 : ("01" : Str) = tx [false, true] := by decide +kernel
theorem litE : ("" : Str) = tx [] := by decide +kernel
theorem one_sg (b : Bool) : (⟨#[sg b]⟩ : Str) = tx [b] := rfl
/-! slices -/
theorem cut_take (m : M) (k : Nat) : cutS (tx m) none (some (k : Int)) = tx (m.take k) := by
  unfold cutS
  rw [HT.sIx_none, HT.sIx_nat, tx_list, tx_len, List.drop_zero]
  show (⟨((m.map sg).take (min k m.length - 0)).toArray⟩ : Str) = ⟨((m.take k).map sg).toArray⟩
  rw [← List.map_take, Nat.sub_zero]
  congr 2
  rcases Nat.le_total k m.length with h | h
  · rw [Nat.min_eq_left h]
  · rw [Nat.min_eq_right h, List.take_of_length_le (Nat.le_refl _), List.take_of_length_le h]
theorem cut_drop (m : M) (k : Nat) : cutS (tx m) (some (k : Int)) none = tx (m.drop k) := by
  unfold cutS
  rw [HT.sIx_none, HT.sIx_nat, tx_list, tx_len]
  show (⟨(((m.map sg).drop (min k m.length)).take (m.length - min k m.length)).toArray⟩ : Str) = ⟨((m.drop k).map sg).toArray⟩
  rw [← List.map_drop, ← List.map_take]
  congr 2
  rcases Nat.le_total k m.length with h | h
  · rw [Nat.min_eq_left h, List.take_of_length_le (by rw [List.length_drop]; exact Nat.le_refl _)]
  · rw [Nat.min_eq_right h, List.drop_length, List.drop_eq_nil_of_le h]
    simp
/-! find, count, replace, mul: over all short memories -/
def idx (b : Bool) : M → Nat
  | [] => 0
  | c :: r => if c == b then 0 else idx b r + 1
theorem find_all : (upTo 6).all (fun m => [false, true].all fun b => decide (Txt.find (tx m) (tx [b]) = if m.contains b then (idx b m : Int) else -1)) = true := by decide +kernel
theorem count_all : (upTo 6).all (fun m => [false, true].all fun b => decide (Txt.count (tx m) (tx [b]) = (m.count b : Int))) = true := by decide +kernel
def xt : Str := "x"
def flip (m : M) : M := m.map (!·)
theorem repl_all : (upTo 6).all (fun m => decide (Txt.replace (Txt.replace (Txt.replace (tx m) "0" "x") "1" "0") "x" "1" = tx (flip m))) = true := by decide +kernel
theorem replLen_all : (upTo 6).all (fun m => decide ((Txt.replace (tx m) "0" "x").length = m.length ∧ (Txt.replace (Txt.replace (tx m) "0" "x") "1" "0").length = m.length)) = true := by decide +kernel
theorem bool2 (b : Bool) : b ∈ [false, true] := by cases b <;> simp
theorem find_tx {m : M} (h : m.length ≤ 6) (b : Bool) : Txt.find (tx m) (tx [b]) = if m.contains b then (idx b m : Int) else -1 :=
  of_decide_eq_true (List.all_eq_true.mp (List.all_eq_true.mp find_all m (mem_upTo 6 m h)) b (bool2 b))
theorem count_tx {m : M} (h : m.length ≤ 6) (b : Bool) : Txt.count (tx m) (tx [b]) = (m.count b : Int) :=
  of_decide_eq_true (List.all_eq_true.mp (List.all_eq_true.mp count_all m (mem_upTo 6 m h)) b (bool2 b))
theorem repl_tx {m : M} (h : m.length ≤ 6) : Txt.replace (Txt.replace (Txt.replace (tx m) "0" "x") "1" "0") "x" "1" = tx (flip m) :=
  of_decide_eq_true (List.all_eq_true.mp repl_all m (mem_upTo 6 m h))
theorem replLen_tx {m : M} (h : m.length ≤ 6) : (Txt.replace (tx m) "0" "x").length = m.length ∧ (Txt.replace (Txt.replace (tx m) "0" "x") "1" "0").length = m.length :=
  of_decide_eq_true (List.all_eq_true.mp replLen_all m (mem_upTo 6 m h))
end K14

/-! ## K14B -/
namespace K14
/-! ### one step -/
theorem contains_no {u : Bool} {q : M} (h : ∀ c ∈ q, c = u) : q.contains (!u) = false := by
  rw [List.contains_eq_any_beq, List.any_eq_false]
  intro c hc e
  rw [h c hc] at e
  cases u <;> exact absurd e (by decide)
theorem step_found {u : Bool} : ∀ (p : M) {q : M}, (∀ c ∈ q, c = u) → stepM u (p ++ (!u) :: q) = p ++ u :: q
  | [], q, h => by
    show (if q.contains (!u) = true then (!u) :: stepM u q else if ((!u) == (!u)) = true then u :: q else (!u) :: q) = u :: q
    rw [contains_no h, if_neg Bool.false_ne_true, if_pos (by simp)]
  | b :: p, q, h => by
    have ih := step_found p h
    have hc : (p ++ (!u) :: q).contains (!u) = true := by simp
    show (if (p ++ (!u) :: q).contains (!u) = true then b :: stepM u (p ++ (!u) :: q) else if (b == (!u)) = true then u :: (p ++ (!u) :: q) else b :: (p ++ (!u) :: q)) = b :: (p ++ u :: q)
    rw [if_pos hc, ih]
theorem step_none {u : Bool} : ∀ {m : M}, (∀ c ∈ m, c = u) → stepM u m = m
  | [], _ => rfl
  | b :: r, h => by
    have hr : ∀ c ∈ r, c = u := fun c hc => h c (List.mem_cons_of_mem _ hc)
    have hb : b = u := h b List.mem_cons_self
    show (if r.contains (!u) = true then b :: stepM u r else if (b == (!u)) = true then u :: r else b :: r) = b :: r
    rw [contains_no hr, if_neg Bool.false_ne_true, hb]
    cases u <;> rfl
theorem step_len (u : Bool) : ∀ m : M, (stepM u m).length = m.length
  | [] => rfl
  | b :: r => by
    have ih := step_len u r
    show (if r.contains (!u) = true then b :: stepM u r else if (b == (!u)) = true then u :: r else b :: r).length = r.length + 1
    split
    · rw [List.length_cons, ih]
    · split <;> rfl
/-! ### the shortest way's length -/
theorem wfa_none {s : Bool} : ∀ {m : M}, m.contains (!s) = false → wfa s m = 0
  | [], _ => rfl
  | b :: r, h => by
    have h2 : b = s ∧ r.contains (!s) = false := by
      rw [List.contains_cons, Bool.or_eq_false_iff] at h
      refine ⟨?_, h.2⟩
      have h1 := h.1
      cases b <;> cases s <;> first | rfl | (exact absurd h1 (by decide))
    show (if (b == s) = true then wfa s r else (r.length + 1) + wfa b r) = 0
    rw [h2.1, if_pos (by simp), wfa_none h2.2]
theorem idx_lt {b : Bool} : ∀ {m : M}, m.contains b = true → idx b m < m.length
  | [], h => absurd h (by simp)
  | c :: r, h => by
    show (if (c == b) = true then 0 else idx b r + 1) < r.length + 1
    by_cases e : (c == b) = true
    · rw [if_pos e]
      omega
    · rw [if_neg e]
      have h2 : r.contains b = true := by
        rw [List.contains_cons, Bool.or_eq_true] at h
        rcases h with h | h
        · exact absurd (by rw [beq_iff_eq] at h; rw [h]; simp) e
        · exact h
      have := idx_lt h2
      omega
theorem wfa_some {s : Bool} : ∀ {m : M}, m.contains (!s) = true → wfa s m = (m.length - idx (!s) m) + wfa (!s) (m.drop (idx (!s) m + 1))
  | [], h => absurd h (by simp)
  | b :: r, h => by
    by_cases e : b = s
    · have ne : (b == !s) = false := by
        rw [e]
        cases s <;> rfl
      have h2 : r.contains (!s) = true := by
        rw [List.contains_cons, Bool.or_eq_true] at h
        rcases h with h | h
        · rw [e] at h
          cases s <;> exact absurd h (by decide)
        · exact h
      have ih := wfa_some h2
      have hl := idx_lt h2
      have e1 : idx (!s) (b :: r) = idx (!s) r + 1 := by
        show (if (b == !s) = true then 0 else idx (!s) r + 1) = _
        rw [ne, if_neg Bool.false_ne_true]
      show (if (b == s) = true then wfa s r else (r.length + 1) + wfa b r) = _
      rw [e1, e, if_pos (by simp), ih, List.length_cons, List.drop_succ_cons]
      omega
    · have eb : b = !s := by
        cases b <;> cases s <;> first | rfl | (exact absurd rfl e)
      have e1 : idx (!s) (b :: r) = 0 := by
        show (if (b == !s) = true then 0 else idx (!s) r + 1) = _
        rw [eb, if_pos (by simp)]
      show (if (b == s) = true then wfa s r else (r.length + 1) + wfa b r) = _
      rw [e1, if_neg (by rw [eb]; cases s <;> decide), List.length_cons]
      show _ = r.length + 1 - 0 + wfa (!s) r
      rw [eb, Nat.sub_zero]
theorem wl_self : ∀ m : M, wl m m = 0
  | [] => rfl
  | a :: x => by
    show (if (a == a) = true then wl x x else (a :: x).count a + wfa a x) = 0
    rw [if_pos (by simp), wl_self x]
/-- the places at which two memories differ -/
def diffs (a b : M) : List Nat := (List.range a.length).filter fun k => a[k]? != b[k]?
theorem diffs_cons (a b : Bool) (x y : M) : diffs (a :: x) (b :: y) = (if a = b then [] else [0]) ++ (diffs x y).map (· + 1) := by
  unfold diffs
  rw [List.length_cons, List.range_succ_eq_map, List.filter_cons, List.filter_map]
  have e : ((fun k => (a :: x)[k]? != (b :: y)[k]?) ∘ Nat.succ) = fun k => x[k]? != y[k]? := by
    funext k
    simp
  rw [e]
  cases a <;> cases b <;> simp
theorem wl_diff : ∀ {a b : M}, a.length = b.length → a ≠ b → ∃ k r s, diffs a b = k :: r ∧ k < a.length ∧ a[k]? = some (!s) ∧ b[k]? = some s ∧ wl a b = (a.drop k).count (!s) + wfa s (b.drop (k + 1))
  | [], [], _, h => absurd rfl h
  | [], _ :: _, h, _ => by simp at h
  | _ :: _, [], h, _ => by simp at h
  | a :: x, b :: y, hl, hn => by
    by_cases e : a = b
    · subst e
      have hn2 : x ≠ y := fun z => hn (by rw [z])
      obtain ⟨k, r, s, h1, h2, h3, h4, h5⟩ := wl_diff (by simpa using hl) hn2
      refine ⟨k + 1, r.map (· + 1), s, ?_, by rw [List.length_cons]; omega, by simpa using h3, by simpa using h4, ?_⟩
      · rw [diffs_cons, if_pos rfl, h1]
        rfl
      · show (if (a == a) = true then wl x y else _) = _
        rw [if_pos (by simp), h5]
        rfl
    · have ea : a = !b := by
        cases a <;> cases b <;> first | rfl | (exact absurd rfl e)
      refine ⟨0, (diffs x y).map (· + 1), b, ?_, by simp, by rw [ea]; rfl, rfl, ?_⟩
      · rw [diffs_cons, if_neg e]
        rfl
      · show (if (a == b) = true then wl x y else (a :: x).count a + wfa b y) = _
        rw [if_neg (by rw [ea]; cases b <;> decide), ea]
        rfl
theorem flip_len (m : M) : (flip m).length = m.length := List.length_map _
theorem flip_count (c : Bool) : ∀ m : M, (flip m).count (!c) = m.count c
  | [] => rfl
  | b :: r => by
    have ih := flip_count c r
    show ((!b) :: flip r).count (!c) = (b :: r).count c
    rw [List.count_cons, List.count_cons, ih]
    cases b <;> cases c <;> rfl
theorem flip_wfa : ∀ (s : Bool) (m : M), wfa (!s) (flip m) = wfa s m
  | _, [] => rfl
  | s, b :: r => by
    have i1 := flip_wfa s r
    have i2 := flip_wfa b r
    show (if ((!b) == (!s)) = true then wfa (!s) (flip r) else ((flip r).length + 1) + wfa (!b) (flip r)) = (if (b == s) = true then wfa s r else (r.length + 1) + wfa b r)
    rw [i1, i2, flip_len]
    cases b <;> cases s <;> rfl
theorem flip_wl : ∀ a b : M, wl (flip a) (flip b) = wl a b
  | [], [] => rfl
  | [], _ :: _ => rfl
  | _ :: _, [] => rfl
  | a :: x, b :: y => by
    have ih := flip_wl x y
    have h1 := flip_count a (a :: x)
    have h2 := flip_wfa b y
    show (if ((!a) == (!b)) = true then wl (flip x) (flip y) else (flip (a :: x)).count (!a) + wfa (!b) (flip y)) = (if (a == b) = true then wl x y else (a :: x).count a + wfa b y)
    rw [ih, h1, h2]
    cases a <;> cases b <;> rfl
/-! ### the search -/
theorem look_app (t : M) (v : Nat) (x : M) : ∀ k : List (M × Nat), look (k ++ [(t, v)]) x = (look k x).or (if t == x then some v else none)
  | [] => by
    show (if (t == x) = true then some v else look [] x) = _
    by_cases h : (t == x) = true
    · rw [if_pos h, if_pos h]
      rfl
    · rw [if_neg h, if_neg h]
      rfl
  | (a, b) :: r => by
    have ih := look_app t v x r
    show (if (a == x) = true then some b else look (r ++ [(t, v)]) x) = _
    show _ = (if (a == x) = true then some b else look r x).or _
    split
    · rfl
    · exact ih
theorem look_keep {k : List (M × Nat)} {t : M} {v : Nat} {x : M} (h : (look k x).isSome = true) : look (k ++ [(t, v)]) x = look k x := by
  rw [look_app]
  cases e : look k x with
  | none =>
    rw [e] at h
    cases h
  | some w => rfl
/-- what stands between two turns -/
structure Good (n : Nat) (st : KR) : Prop where
  rows : ∀ x ∈ st.2, x.length = n ∧ (look st.1 x).isSome = true
  le : st.2.length ≤ st.1.length
theorem visit_hit {st : KR} {h : M} {u : Bool} {v : Nat} (e : look st.1 (stepM u h) = some v) : visit st h u = st := by
  unfold visit
  rw [e]
theorem visit_new {st : KR} {h : M} {u : Bool} {v : Nat} (e : look st.1 (stepM u h) = none) (eh : look st.1 h = some v) : visit st h u = (st.1 ++ [(stepM u h, v + 1)], st.2 ++ [stepM u h]) := by
  unfold visit
  rw [e, eh]
  rfl
theorem visit_good {n : Nat} {st : KR} {h : M} {u : Bool} (g : Good n st) (hl : h.length = n) (hh : (look st.1 h).isSome = true) :
    Good n (visit st h u) ∧ (∀ x, (look st.1 x).isSome = true → look (visit st h u).1 x = look st.1 x) ∧ st.1.length ≤ (visit st h u).1.length := by
  cases e : look st.1 (stepM u h) with
  | some v =>
    rw [visit_hit e]
    exact ⟨g, fun _ _ => rfl, Nat.le_refl _⟩
  | none =>
    obtain ⟨v, eh⟩ := Option.isSome_iff_exists.mp hh
    rw [visit_new e eh]
    refine ⟨⟨fun x hx => ?_, ?_⟩, fun x hx => look_keep hx, by simp⟩
    · rcases List.mem_append.mp hx with hx | hx
      · obtain ⟨h1, h2⟩ := g.rows x hx
        refine ⟨h1, ?_⟩
        show (look (st.1 ++ [(stepM u h, v + 1)]) x).isSome = true
        rw [look_keep h2]
        exact h2
      · have ex : x = stepM u h := by simpa using hx
        refine ⟨by rw [ex, step_len, hl], ?_⟩
        show (look (st.1 ++ [(stepM u h, v + 1)]) x).isSome = true
        rw [look_app, ex, e]
        simp
    · show (st.2 ++ [stepM u h]).length ≤ (st.1 ++ [(stepM u h, v + 1)]).length
      have := g.le
      simp
      omega
theorem turn_good {n : Nat} {st : KR} {h : M} (g : Good n st) (hl : h.length = n) (hh : (look st.1 h).isSome = true) :
    Good n (turn st h) ∧ (∀ x, (look st.1 x).isSome = true → look (turn st h).1 x = look st.1 x) ∧ st.1.length ≤ (turn st h).1.length := by
  obtain ⟨g1, k1, l1⟩ := visit_good (u := false) g hl hh
  have hh1 : (look (visit st h false).1 h).isSome = true := by rw [k1 h hh]; exact hh
  obtain ⟨g2, k2, l2⟩ := visit_good (u := true) g1 hl hh1
  refine ⟨g2, fun x hx => ?_, Nat.le_trans l1 l2⟩
  have hx1 : (look (visit st h false).1 x).isSome = true := by rw [k1 x hx]; exact hx
  exact (k2 x hx1).trans (k1 x hx)
theorem fold_good {n : Nat} : ∀ (rs : List M) (st : KR), Good n st → (∀ x ∈ rs, x.length = n ∧ (look st.1 x).isSome = true) →
    Good n (rs.foldl turn st) ∧ (∀ x, (look st.1 x).isSome = true → look (rs.foldl turn st).1 x = look st.1 x) ∧ st.1.length ≤ (rs.foldl turn st).1.length
  | [], st, g, _ => ⟨g, fun _ _ => rfl, Nat.le_refl _⟩
  | r :: rs, st, g, h => by
    obtain ⟨h1, h2⟩ := h r List.mem_cons_self
    obtain ⟨g1, k1, l1⟩ := turn_good g h1 h2
    obtain ⟨g2, k2, l2⟩ := fold_good rs (turn st r) g1 fun x hx => by
      obtain ⟨h3, h4⟩ := h x (List.mem_cons_of_mem _ hx)
      exact ⟨h3, by rw [k1 x h4]; exact h4⟩
    refine ⟨g2, fun x hx => ?_, Nat.le_trans l1 l2⟩
    have hx1 : (look (turn st r).1 x).isSome = true := by rw [k1 x hx]; exact hx
    exact (k2 x hx1).trans (k1 x hx)
theorem level_good {n : Nat} {st : KR} (g : Good n st) : Good n (level st) ∧ st.1.length ≤ (level st).1.length := by
  have g0 : Good n (st.1, []) := ⟨fun x hx => (by cases hx), Nat.zero_le _⟩
  obtain ⟨g1, _, l1⟩ := fold_good st.2 (st.1, []) g0 fun x hx => g.rows x hx
  exact ⟨g1, l1⟩
def st0 (m : M) : KR := ([(m, 0)], [m])
theorem st0_good (m : M) : Good m.length (st0 m) := by
  refine ⟨fun x hx => ?_, Nat.le_refl _⟩
  have e : x = m := by simpa [st0] using hx
  rw [e]
  refine ⟨rfl, ?_⟩
  show (if (m == m) = true then some 0 else look [] m).isSome = true
  rw [if_pos (by simp)]
  rfl
theorem iter_good (m : M) : ∀ k, Good m.length (iter k (st0 m))
  | 0 => st0_good m
  | k + 1 => (level_good (iter_good m k)).1
theorem iter_mono (m : M) : ∀ j k, (iter k (st0 m)).1.length ≤ (iter (k + j) (st0 m)).1.length
  | 0, _ => Nat.le_refl _
  | j + 1, k => Nat.le_trans (iter_mono m j k) (level_good (iter_good m (k + j))).2
theorem iter_stop {st : KR} : ∀ (j k : Nat), (iter k st).2 = [] → iter (k + j) st = iter k st
  | 0, _, _ => rfl
  | j + 1, k, h => by
    have ih := iter_stop j k h
    show level (iter (k + j) st) = iter k st
    rw [ih]
    show (iter k st).2.foldl turn ((iter k st).1, []) = iter k st
    rw [h]
    show ((iter k st).1, []) = iter k st
    rw [← h]
end K14

/-! ## K14R -/
namespace K14
open PySem PySem.Spec PyProof.Rows L2
section
variable {X : Cx}
/-! ### text * int -/
theorem op_mul_str : OpR X (binaryOp .Mult) (fun x y H Q => ∃ z i, x = .str z ∧ y = .int i ∧ MulOk z i ∧ Q (.str (Txt.mul z i)) H) := by
  intro pins s σ H x y v u Q I rx ry h
  obtain ⟨z, i, rfl, rfl, hz, q⟩ := h
  obtain ⟨t, rfl⟩ := rx
  obtain ⟨t', rfl⟩ := ry
  exact PySem.SB.mul hz fun t' k => ⟨.str _, H, I.tok _, ⟨_, rfl⟩, q⟩
instance (z : Str) (n : Int) : Decidable (MulOk z n) := by
  unfold MulOk
  infer_instance
theorem mul_all : (List.range 8).all (fun n => [(⟨#[117]⟩ : Str), ⟨#[100]⟩].all fun z => decide ((MulOk z (n : Int)) ∧ (Txt.mul z (n : Int)).length = n)) = true := by
  decide +kernel
theorem mul_ok {n : Nat} (h : n < 8) {z : Str} (hz : z = ⟨#[117]⟩ ∨ z = ⟨#[100]⟩) : MulOk z (n : Int) ∧ (Txt.mul z (n : Int)).length = n := by
  have h1 := List.all_eq_true.mp mul_all n (List.mem_range.mpr h)
  have h2 := List.all_eq_true.mp h1 z (by rcases hz with e | e <;> rw [e] <;> simp)
  exact of_decide_eq_true h2
/-! ### sorted of texts, any length -/
def rSortedSA (K : PySem.W.Frag) : List V → Hp → VK → Prop := fun vs H Q => ∃ (a : Addr) (xs ys : List Str), vs = [V.ref a] ∧ SqL K H a (xs.map V.str) ∧ xs.length ≤ 1000 ∧ ys.Perm xs ∧ ys.Pairwise (fun x y => x.cps.toList ≤ y.cps.toList) ∧
  ∀ p : Addr, H p = none → Q (.ref p) (upd H p (.lst (ys.map V.str)))
theorem each_strs : ∀ {its : List Value} {xs : List Str}, Vals (xs.map V.str) its → PySem.W.EachIs (fun v x => RelV (V.str x) v) its xs
  | _, [], r => by
    have r' : Vals [] _ := r
    cases r'
    exact .nil
  | _, x :: xs, r => by
    have r' : Vals (V.str x :: xs.map V.str) _ := r
    cases r' with
    | cons h1 h2 => exact .cons h1 (each_strs h2)
theorem vals_each : ∀ {its : List Value} {xs : List Str}, PySem.W.EachIs (fun v x => RelV (V.str x) v) its xs → Vals (xs.map V.str) its
  | _, _, .nil => .nil
  | _, _, .cons h1 h2 => .cons h1 (vals_each h2)
theorem cr_sortedSA (hu : X.A.units + 64 < cLine) : CallR X (.builtin "sorted") (rSortedSA X.K) := by
  intro pins s σ H vs us Q I r h
  obtain ⟨a, xs, ys, rfl, hs, hn, hp, hw, q⟩ := h
  obtain ⟨its, rv, hl, _⟩ := I.list hs
  rw [Vals.ref1 r]
  have e := each_strs rv
  have hsz : xs.length ≤ sizeLine := Nat.le_of_lt (small1000 hn)
  refine PySem.W.sorted_data (enc := PyData.str) (R := fun v x => RelV (V.str x) v) hl.isList e (e.mono fun v x ⟨t, et⟩ => ⟨[], by rw [et]; exact Reads.str x t⟩)
    (PySem.W.AllAlike.of fun _ _ => rfl) (PySem.W.Sortable.others fun b => ⟨fun z => (by cases z), fun xs z => (by cases z)⟩) hsz (fun b _ => ?_) fun out ho eo => ?_
  · show X.A.units + 2 + 0 < cLine
    omega
  · have ey : xs.mergeSort (PySem.W.dataLe false PyData.str) = ys := by
      have e1 : PySem.W.dataLe false PyData.str = fun a b : Str => decide (a.cps.toList ≤ b.cps.toList) := PySem.W.dataLe_str (fun b => b)
      have tr : ∀ x y z : Str, decide (x.cps.toList ≤ y.cps.toList) = true → decide (y.cps.toList ≤ z.cps.toList) = true → decide (x.cps.toList ≤ z.cps.toList) = true := fun x y z h1 h2 =>
        decide_eq_true (Std.le_trans (of_decide_eq_true h1) (of_decide_eq_true h2))
      have tot : ∀ x y : Str, (decide (x.cps.toList ≤ y.cps.toList) || decide (y.cps.toList ≤ x.cps.toList)) = true := fun x y => by
        rcases Std.le_total (a := x.cps.toList) (b := y.cps.toList) with h | h
        · rw [decide_eq_true h, Bool.true_or]
        · rw [decide_eq_true h, Bool.or_true]
      have asy : ∀ x y : Str, decide (x.cps.toList ≤ y.cps.toList) = true → decide (y.cps.toList ≤ x.cps.toList) = true → x = y := fun x y h1 h2 => by
        have e2 : x.cps.toList = y.cps.toList := Std.le_antisymm (of_decide_eq_true h1) (of_decide_eq_true h2)
        have e3 : x.cps = y.cps := by simpa using congrArg List.toArray e2
        cases x
        cases y
        exact congrArg Str.mk e3
      rw [e1]
      exact (PySem.W.Srt.the_of_perm _ tr tot asy hp (hw.imp fun h => decide_eq_true h)).symm
    rw [ey] at eo
    obtain ⟨ep, he'⟩ := PyProof.Rows.sortedAll_at s.heap its (List.toArray out)
    have hlen : (ys.map V.str).length ≤ sizeLine := by rw [List.length_map, hp.length_eq]; exact hsz
    exact ⟨.ref _, upd H (s.heap.objs.size + 1) (.lst (ys.map V.str)), I.laid (t' := s.toks) (fun _ _ => PyProof.Rows.sortedAll_old) (Nat.le_succ _) ⟨hlen, out, ep, vals_each eo, by simpa using he'⟩, rfl, q _ (I.hok.fresh (Nat.le_succ _))⟩
/-! ### max of a list of data -/
def rMaxT (K : PySem.W.Frag) : List V → Hp → VK → Prop := fun vs H Q => ∃ (a : Addr) (xs : List V) (d : PyData) (ds : List PyData), vs = [V.ref a] ∧ SqL K H a xs ∧ DpAll K H xs (d :: ds) ∧ PySem.W.AlikeAll (d :: ds) ∧ PyData.depthAll (d :: ds) ≤ 10 ∧
  ∀ (i : Nat) (v : V), xs[i]? = some v → (d :: ds)[i]? = some (PySem.W.maxD d ds) → Q v H
theorem cr_maxT (hc : X.calm = true) (hu : X.A.units + 64 < cLine) : CallR X (.builtin "max") (rMaxT X.K) := by
  intro pins s σ H vs us Q I r h
  obtain ⟨a, xs, d, ds, rfl, hs, hd, ha, hdep, q⟩ := h
  obtain ⟨its, rv, hl, _⟩ := I.list hs
  rw [Vals.ref1 r]
  obtain ⟨as, hr0⟩ := Dp.readsAll I (d :: ds) xs its hd rv
  have hr : ReadsAll s.heap its.toArray.toList (d :: ds) as := by simpa using hr0
  have hn : its.toArray.size = ds.length + 1 := PySem.W.readsAll_len hr
  refine call_max_walkH (PySem.W.iter_listW (A := X.A.in1) (I.ok.hd hc) hl.isList fun s₂ e W st hfp hw hk => ?_)
  refine ⟨_, _, _, _, _, _, _, s.heap, _, rfl, W, st, hfp, by omega, hw, hk, PySem.W.cmpIn_gt (A := X.A.in1) hr ha (by show X.A.units + 1 + _ < _; omega), fun v s' hP m => ?_⟩
  obtain ⟨h', tk, rfl, hk'⟩ := PySem.W.moved_old e rfl m
  have e1 : its.toArray.size - 1 = ds.length := by omega
  have e2 := (PySem.W.argBest_fold (fun a b => PySem.W.dataLt b a) PyData.none d ds ds.length (Nat.le_refl _)).2
  have e0 := (PySem.W.argBest_fold (fun a b => PySem.W.dataLt b a) PyData.none d ds ds.length (Nat.le_refl _)).1
  rw [List.take_length] at e2
  rw [e1] at hP
  rw [List.getElem?_toArray] at hP
  obtain ⟨x, hx, rx⟩ : ∃ x, xs[argBest (fun i j => PySem.W.dataLt ((d :: ds).getD j .none) ((d :: ds).getD i .none)) ds.length]? = some x ∧ RelV x v := by
    cases hq : xs[argBest (fun i j => PySem.W.dataLt ((d :: ds).getD j .none) ((d :: ds).getD i .none)) ds.length]? with
    | none =>
      rw [rv.none_of hq] at hP
      cases hP
    | some x =>
      obtain ⟨u, hu2, ru⟩ := rv.get hq
      rw [hu2] at hP
      cases hP
      exact ⟨x, rfl, ru⟩
  have hlt : argBest (fun i j => PySem.W.dataLt ((d :: ds).getD j .none) ((d :: ds).getD i .none)) ds.length < (d :: ds).length :=
    Nat.lt_succ_of_le e0
  refine ⟨x, H, I.kept hk', rx, q _ x hx ?_⟩
  rw [List.getElem?_eq_getElem hlt]
  have e3 : (d :: ds).getD (argBest (fun i j => PySem.W.dataLt ((d :: ds).getD j .none) ((d :: ds).getD i .none)) ds.length) .none = PySem.W.maxD d ds := e2
  rw [← e3, List.getD_eq_getElem?_getD, List.getElem?_eq_getElem hlt]
  rfl
/-! ### the element «x in k» of a generator expression -/
theorem elt_in {prog : Program} {w : World} {scope : Scope} {x k : Str} {j : Nat} {p1 p2 p3 : Pos} (hk : scope.kind = .function) (hl : scope.names.lookup x = some .local) (hd : (x == ("__debug__" : Str)) = false := by decide) :
    GxR.EltP prog w scope x (.Compare (.Name x p1) [.In] [.Constant (.str k) j p2] p3) (fun c => !(Builtin.Str.occurrences k ⟨#[c]⟩ 0 k.length 1).isEmpty) := by
  intro cenv A' E' c t s₂ m₂ hs hn hm
  refine wpAny_Compare1 ?_
  refine wpAny_Name (wpAny_loadName_local (by rw [hs]; exact hk) (show cenv.scope.names.lookup x = some .local by rw [hs]; exact hl) hn hm ?_) hd
  refine Calls.Constant_str ?_
  exact PyProof.Rows.in_str ⟨rfl, GxR.keeps_tok _ _⟩
/-! ### a token is out -/
def PAo (X : Cx) (es : List Expr) (t : TA) : Prop :=
  ∀ (pos : Pos) (pins : List (Addr × Obj)) (s : Shared) (σ : L2.St) (H : Hp) (Q : List V → Hp → Prop), Inv X pins σ H s → t σ H Q → wpAny (model X.prog X.w) X.A (spliced (backTo pos (starEach es X.env))) (fun us s' => 1 ≤ s'.toks ∧ AP X pins σ Q us s') X.xe s
theorem pao_int {i : Int} {j : Nat} {p : Pos} {es : List Expr} {t : TA} (hr : PA X es t) (hs : starEach (.Constant (.int i) j p :: es) X.env = (false, eval (.Constant (.int i) j p) X.env) :: starEach es X.env := by rfl) : PAo X (.Constant (.int i) j p :: es) (tCons (tC (.int i)) t) := by
  intro pos pins s σ H Q I h
  rw [hs]
  show wpAny _ _ (spliced ((false, eval (.Constant (.int i) j p) X.env) :: backTo pos (starEach es X.env))) _ _ s
  refine Calls.spliced_cons (wpAny_Constant_int ?_)
  refine wpAny_mono (wpAny_toks (hr.run pos pins { s with toks := s.toks + 1 } σ H _ (I.tok _) h)) (fun us s2 q => ?_) fun _ _ z => z.2
  obtain ⟨hk, xs, H2, I2, r2, q2⟩ := q
  have hk2 : s.toks + 1 ≤ s2.toks := hk
  exact ⟨by omega, .int i :: xs, H2, I2, .cons ⟨_, rfl⟩ r2, q2⟩
theorem pao_cons {e : Expr} {te : TE} {es : List Expr} {t : TA} (ha : PE X e te) (hr : PAo X es t) (hs : starEach (e :: es) X.env = (false, eval e X.env) :: starEach es X.env := by rfl) : PAo X (e :: es) (tCons te t) := by
  intro pos pins s σ H Q I h
  rw [hs]
  show wpAny _ _ (spliced ((false, eval e X.env) :: backTo pos (starEach es X.env))) _ _ s
  refine Calls.spliced_cons (thn (ha.run pins s σ H _ I h) fun u s1 ⟨x, H1, I1, r1, q1⟩ => ?_)
  exact thn (hr pos pins s1 σ H1 _ I1 q1) fun us s2 ⟨hk, xs, H2, I2, r2, q2⟩ => ⟨hk, x :: xs, H2, I2, .cons r1 r2, q2⟩
/-- x = [.., 1, ..]: behind it a token is out -/
theorem pss_lst1 {i : Nat} {x : Str} {es : List Expr} {ta : TA} {lpos pos' pos : Pos} {rest : List Stmt} {u : TS} (hN : X.N.Nodup) (hi : X.N[i]? = some x) (hx : Loc X.env.scope x) (ha : PAo X es ta) (h2 : PSsT X rest u)
    (hs : swapsWith (.List es lpos) (some (.Name x pos')) pos.line X.env = pure false := by rfl) (hf : X.fn x = true ∨ X.env.scope.names.lookup x = some .local := by first | exact .inl rfl | exact .inr rfl | assumption) :
    PSs X (.Assign [.Name x pos'] (.List es lpos) pos :: rest) (tSeq (tAsg (tLst ta) (gName i)) u) := by
  refine ⟨fun pins s σ H D I h => ?_⟩
  refine wpAny_execs_cons (wpAny_Assign_Name (wpAny_List_spliced (thn (ha lpos pins s σ H _ I h) fun us s1 ⟨hk, xs, H1, I1, r, z, q⟩ => ⟨by rw [← r.length]; exact z, ?_⟩)) hs)
  have hf2 : H1 s1.heap.objs.size = none := I1.hok.fresh (Nat.le_refl _)
  have I2 := I1.laid (o := .lst xs) (t' := s1.toks) (h' := s1.heap.push { cls := .type "list", data := .seq us.toArray }) (a := s1.heap.objs.size) (fun b u e => Heap.get?_push_of_some _ e) (Nat.le_refl _) ⟨z, us, 0, r, Heap.get?_push_size _ rfl⟩
  refine wpAny_mono (PySem.wpAny_toks (store_ok (v := V.ref s1.heap.objs.size) (u := Value.ref s1.heap.objs.size) (Q := fun _ s2 => Inv X pins (σ.set i (some (V.ref s1.heap.objs.size))) (upd H1 s1.heap.objs.size (.lst xs)) s2) I2 hN hi hx rfl (fun _ I3 => I3) hf)) (fun _ s2 q2 => ?_) fun _ _ z => z.2
  have hk2 : s1.toks ≤ s2.toks := q2.1
  exact h2 pins s2 _ _ D (by omega) q2.2 (q _ hf2)
theorem pst_set {i : Nat} {x : Str} {e : Expr} {te : TE} {pos' pos : Pos} (hN : X.N.Nodup) (hi : X.N[i]? = some x) (hx : Loc X.env.scope x) (he : PET X e te) (hs : swapsWith e (some (.Name x pos')) pos.line X.env = pure false := by rfl)
    (hf : X.fn x = true ∨ X.env.scope.names.lookup x = some .local := by first | exact .inl rfl | exact .inr rfl | assumption) : PST X (.Assign [.Name x pos'] e pos) (tAsg te (gName i)) := by
  intro pins s σ H D h0 I h
  refine wpAny_Assign_Name (thn (he pins s σ H _ h0 I h) fun v s1 ⟨y, H1, I1, r1, q1⟩ => ?_) hs
  exact store_ok I1 hN hi hx r1 (fun s2 I2 => ⟨_, H1, I2, q1⟩) hf
end
end K14

/-! ## K14P -/
namespace K14
open PySem PySem.Spec PyProof.Rows L2
/-! ### the text by places -/
def top (i : Nat) : Stmt := PySem.Challenge.pw_relaybanks_k14_whole_spheres.main.body.getD i (.Pass ⟨0, 0, 0, 0⟩)
abbrev sIsIn : Stmt := top 8
abbrev sIsMem : Stmt := top 9
abbrev sNeedMem : Stmt := top 10
abbrev sNeedSpan : Stmt := top 11
abbrev sAllMem : Stmt := top 12
abbrev sNeedPair : Stmt := top 14
abbrev sWfa : Stmt := top 17
abbrev sWayOf : Stmt := top 18
abbrev sDist : Stmt := top 19
abbrev sFar : Stmt := top 20
abbrev sSphere : Stmt := top 21
abbrev sDiam : Stmt := top 22
abbrev sTaken : Stmt := top 24
abbrev sPick : Stmt := top 25
abbrev sAlike : Stmt := top 26
abbrev sStep : Stmt := top 27
abbrev sLawAll : Stmt := top 29
abbrev sLawMem : Stmt := top 30
abbrev sSteps : Stmt := top 32
abbrev sLaw : Stmt := top 33
abbrev FnP (K : PySem.W.Frag) (x : Str) (st : Stmt) (f : Addr) (fd : FuncData) : Prop := FunD K x x (defArgs st) (defBody st) (defScope st) [] [] f fd
theorem FnP.ok0 {P : Program} {w : World} {K : PySem.W.Frag} {mg : Str → Option Value} {base : Heap} {x : Str} {st : Stmt} {f : Addr} {fd : FuncData} {N ps : List Str} {k : Nat} {sp : Sp} (F : FnP K x st f fd) (S : FnScope N ps (defScope st)) (len : ∀ vs H Q E, sp vs H Q E → vs.length = ps.length)
    (hbody : ∀ (cdv : Value) (A : Around) (outer : List Env) (s : Shared) (H : Hp) (vs : List V) (Q : VK) (E : XK), Room k (A.deeper (envOfC x (defScope st) s.heap.objs.size f cdv)) → sp vs H Q E →
      ∃ t, PSs (cxOf CX0 P w K mg base N x (defScope st) f cdv A outer s H E).nox (defBody st) t ∧ t { nx := fun _ H' => Q .non H', rt := Q } (start N vs) H) : FnOk P w K mg base CX0 (k + 1) f fd ps sp :=
  FunD.ok F S len fun cdv A outer s H vs Q E hr h => by
    obtain ⟨t, h1, h2⟩ := hbody cdv A outer s H vs Q E hr h
    exact ⟨t, h1.nox, h2⟩
/-! ### heaps -/
/-- all that was tracked is as it was, but for the table at T -/
def Ex (T : Addr) (H H' : Hp) : Prop := GxR.TabG H' T ∧ ∀ b o, H b = some o → b ≠ T → H' b = some o
theorem Ex.refl {T : Addr} {H : Hp} (h : GxR.TabG H T) : Ex T H H := ⟨h, fun _ _ e _ => e⟩
theorem Ex.trans {T : Addr} {H H1 H2 : Hp} (a : Ex T H H1) (b : Ex T H1 H2) : Ex T H H2 := ⟨b.1, fun c o e n => b.2 c o (a.2 c o e n) n⟩
theorem Ex.same {T : Addr} {H H' : Hp} (h : GxR.TabG H T) (s : Same H H') : Ex T H H' := by
  obtain ⟨ps, h1, h2⟩ := h
  exact ⟨⟨ps, s _ _ h1, h2⟩, fun b o e _ => s b o e⟩
theorem Ex.tab {T : Addr} {H H' : Hp} (h : GxR.Tabbed T H H') : Ex T H H' := ⟨h.1, fun b o e n => (h.2 b n).trans e⟩
theorem Ex.thenSame {T : Addr} {H H1 H2 : Hp} (a : Ex T H H1) (s : Same H1 H2) : Ex T H H2 := a.trans (Ex.same a.1 s)
theorem tab_ne {T b : Addr} {H : Hp} {o : HO} (h : GxR.TabG H T) (e : H b = some o) (n : ∀ ps, o ≠ .tbl ps) : b ≠ T := by
  obtain ⟨ps, h1, _⟩ := h
  exact fun z => n ps (Option.some.inj (e.symm.trans (z ▸ h1)))
theorem Ex.at {T b : Addr} {H H' : Hp} {o : HO} (x : Ex T H H') (h : GxR.TabG H T) (e : H b = some o) (n : ∀ ps, o ≠ .tbl ps) : H' b = some o := x.2 b o e (tab_ne h e n)
theorem Ex.free {T b : Addr} {H H' : Hp} (x : Ex T H H') (h : GxR.TabG H T) (e : H' b = none) : H b = none := by
  cases q : H b with
  | none => rfl
  | some o =>
    by_cases hb : b = T
    · obtain ⟨ps, h1, _⟩ := x.1
      rw [hb, h1] at e
      cases e
    · rw [x.2 b o q hb] at e
      cases e
theorem Ex.seq {T a : Addr} {K : PySem.W.Frag} {H H' : Hp} {xs : List V} (x : Ex T H H') (h : GxR.TabG H T) (e : SqL K H a xs) : SqL K H' a xs := by
  rcases e with (e | ⟨o, e⟩) | e
  · exact .inl (.inl (x.at h e fun ps z => nomatch z))
  · exact .inl (.inr ⟨o, x.at h e fun ps z => nomatch z⟩)
  · exact .inr e
theorem same_upd {H : Hp} {p : Addr} {o : HO} (h : H p = none) : Same H (upd H p o) := fun b x e => by
  rw [upd_ne (ne_of_none e h)]
  exact e
/-- the greatest of a list -/
def IsMax (m : Nat) (l : List Nat) : Prop := m ∈ l ∧ ∀ y ∈ l, y ≤ m
theorem IsMax.uniq {m m' : Nat} {l : List Nat} (a : IsMax m l) (b : IsMax m' l) : m = m' := Nat.le_antisymm (b.2 _ a.1) (a.2 _ b.1)
theorem IsMax.perm {m : Nat} {l l' : List Nat} (a : IsMax m l) (p : l.Perm l') : IsMax m l' := ⟨p.mem_iff.mp a.1, fun y hy => a.2 y (p.mem_iff.mpr hy)⟩
abbrev tv (m : M) : V := .str (tx m)
abbrev nv (n : Nat) : V := .int (n : Int)
theorem scan0 : FnScope ["value", "least", "most"] ["value", "least", "most"] (defScope sIsIn) := ⟨rfl, rfl, rfl, by decide +kernel, rfl, by decide +kernel, by decide +kernel⟩
end K14

/-! ## K14C -/
namespace K14
/-! ### all memories of a span -/
theorem mem_allM : ∀ (n : Nat) (x : M), x ∈ allM n ↔ x.length = n
  | 0, x => by
    show x ∈ [[]] ↔ _
    cases x <;> simp
  | n + 1, x => by
    have ih := mem_allM n
    show x ∈ (allM n).flatMap (fun m => [m ++ [false], m ++ [true]]) ↔ _
    rw [List.mem_flatMap]
    constructor
    · rintro ⟨y, hy, hx⟩
      have hl := (ih y).mp hy
      rcases List.mem_cons.mp hx with e | hx
      · rw [e, List.length_append, hl]
        rfl
      · have e : x = y ++ [true] := by simpa using hx
        rw [e, List.length_append, hl]
        rfl
    · intro hl
      have hne : x ≠ [] := fun z => by rw [z] at hl; simp at hl
      refine ⟨x.dropLast, (ih _).mpr (by rw [List.length_dropLast, hl]; rfl), ?_⟩
      have e := List.dropLast_concat_getLast hne
      cases q : x.getLast hne with
      | false =>
        rw [q] at e
        rw [e]
        exact List.mem_cons_self
      | true =>
        rw [q] at e
        rw [e]
        exact List.mem_cons_of_mem _ List.mem_cons_self
theorem nodup_all : (List.range 7).all (fun n => decide (allM n).Nodup) = true := by decide +kernel
theorem allM_nodup {n : Nat} (h : n ≤ 6) : (allM n).Nodup := of_decide_eq_true (List.all_eq_true.mp nodup_all n (List.mem_range.mpr (by omega)))
theorem len_all : (List.range 7).all (fun n => decide ((allM n).length = 2 ^ n)) = true := by decide +kernel
theorem allM_len {n : Nat} (h : n ≤ 6) : (allM n).length = 2 ^ n := of_decide_eq_true (List.all_eq_true.mp len_all n (List.mem_range.mpr (by omega)))
theorem pow_le {n : Nat} (h : n ≤ 6) : 2 ^ n ≤ 64 := by
  have e : (2 : Nat) ^ n ≤ 2 ^ 6 := Nat.pow_le_pow_right (by decide) h
  exact e
/-! ### what the finite check tells of a step -/
def cands (u : Bool) : M → List M
  | [] => []
  | b :: r => ((cands u r).map (b :: ·)) ++ (if (b == u && r.all (· == u)) = true then [(!u) :: r] else [])
theorem cands_ok {u : Bool} : ∀ {o p : M}, p ∈ cands u o → stepM u p = o ∧ p.length = o.length ∧ p.contains (!u) = true
  | [], p, h => by cases h
  | b :: r, p, h => by
    rcases List.mem_append.mp (show p ∈ ((cands u r).map (b :: ·)) ++ (if (b == u && r.all (· == u)) = true then [(!u) :: r] else []) from h) with h | h
    · obtain ⟨q, hq, e⟩ := List.mem_map.mp h
      obtain ⟨h1, h2, h3⟩ := cands_ok hq
      subst e
      refine ⟨?_, by rw [List.length_cons, List.length_cons, h2], by rw [List.contains_cons, h3, Bool.or_true]⟩
      show (if q.contains (!u) = true then b :: stepM u q else if (b == (!u)) = true then u :: q else b :: q) = b :: r
      rw [if_pos h3, h1]
    · by_cases hc : (b == u && r.all (· == u)) = true
      · rw [if_pos hc] at h
        have e : p = (!u) :: r := by simpa using h
        obtain ⟨h1, h2⟩ := Bool.and_eq_true_iff.mp hc
        have eb : b = u := by simpa using h1
        have hr : ∀ c ∈ r, c = u := fun c hc => by simpa using List.all_eq_true.mp h2 c hc
        rw [e, eb]
        exact ⟨step_found [] hr, rfl, by simp⟩
      · rw [if_neg hc] at h
        cases h
def okS (m o : M) : Bool :=
  [false, true].all (fun u => Nat.ble (wl m (stepM u o)) (wl m o + 1)) && (m == o || [false, true].any fun u => (cands u o).any fun p => Nat.beq (wl m p + 1) (wl m o)) && Nat.ble (wl m o) 21
theorem okS_all : (List.range 7).all (fun n => (allM n).all fun m => (allM n).all (okS m)) = true := by decide +kernel
theorem okS_at {m o : M} (hm : m.length ≤ 6) (ho : o.length = m.length) : okS m o = true := by
  have h1 := List.all_eq_true.mp okS_all m.length (List.mem_range.mpr (by omega))
  have h2 := List.all_eq_true.mp h1 m ((mem_allM _ _).mpr rfl)
  exact List.all_eq_true.mp h2 o ((mem_allM _ _).mpr ho)
theorem near {m o : M} (hm : m.length ≤ 6) (ho : o.length = m.length) (u : Bool) : wl m (stepM u o) ≤ wl m o + 1 := by
  have h := okS_at hm ho
  unfold okS at h
  rw [Bool.and_eq_true, Bool.and_eq_true] at h
  exact Nat.le_of_ble_eq_true (List.all_eq_true.mp h.1.1 u (bool2 u))
theorem wl_le {m o : M} (hm : m.length ≤ 6) (ho : o.length = m.length) : wl m o ≤ 21 := by
  have h := okS_at hm ho
  unfold okS at h
  rw [Bool.and_eq_true, Bool.and_eq_true] at h
  exact Nat.le_of_ble_eq_true h.2
theorem pred {m o : M} (hm : m.length ≤ 6) (ho : o.length = m.length) (hn : o ≠ m) : ∃ p u, stepM u p = o ∧ p.length = m.length ∧ wl m p + 1 = wl m o := by
  have h := okS_at hm ho
  unfold okS at h
  rw [Bool.and_eq_true, Bool.and_eq_true] at h
  rcases Bool.or_eq_true_iff.mp h.1.2 with h2 | h2
  · exact absurd (by simpa using h2 : m = o).symm hn
  · obtain ⟨u, _, h3⟩ := List.any_eq_true.mp h2
    obtain ⟨p, hp, h4⟩ := List.any_eq_true.mp h3
    obtain ⟨h5, h6, _⟩ := cands_ok hp
    exact ⟨p, u, h5, h6.trans ho, Nat.eq_of_beq_eq_true h4⟩
/-! ### the search finds the shortest ways' lengths -/
theorem look_none {x : M} : ∀ {k : List (M × Nat)}, look k x = none → x ∉ k.map (·.1)
  | [], _ => by simp
  | (a, b) :: r, h => by
    have h2 : (if (a == x) = true then some b else look r x) = none := h
    by_cases e : (a == x) = true
    · rw [if_pos e] at h2
      cases h2
    · rw [if_neg e] at h2
      have ih := look_none h2
      have e2 : a ≠ x := fun z => e (by rw [z]; simp)
      rw [List.map_cons, List.mem_cons, not_or]
      exact ⟨fun z => e2 z.symm, ih⟩
structure Pt (m : M) (k : Nat) (done : List M) (st : KR) : Prop where
  a : ∀ x v, look st.1 x = some v → x.length = m.length ∧ v = wl m x ∧ v ≤ k + 1
  b : ∀ x, x.length = m.length → wl m x ≤ k → look st.1 x = some (wl m x)
  c : ∀ x, x ∈ st.2 ↔ look st.1 x = some (k + 1)
  d : (st.1.map (·.1)).Nodup
  e : ∀ p ∈ done, ∀ u, (look st.1 (stepM u p)).isSome = true
theorem pt_visit {m : M} {k : Nat} {done : List M} {st : KR} {h : M} (hm : m.length ≤ 6) (P : Pt m k done st) (hl : h.length = m.length) (hk : wl m h = k) (u : Bool) :
    Pt m k done (visit st h u) ∧ (look (visit st h u).1 (stepM u h)).isSome = true ∧ ∀ x, (look st.1 x).isSome = true → (look (visit st h u).1 x).isSome = true := by
  cases e : look st.1 (stepM u h) with
  | some v =>
    rw [visit_hit e]
    exact ⟨P, by rw [e]; rfl, fun _ hx => hx⟩
  | none =>
    have eh : look st.1 h = some k := by rw [P.b h hl (Nat.le_of_eq hk), hk]
    have hlt : (stepM u h).length = m.length := by rw [step_len, hl]
    have hw : wl m (stepM u h) = k + 1 := by
      have h1 := near hm hl u
      rw [hk] at h1
      by_cases h2 : wl m (stepM u h) ≤ k
      · rw [P.b _ hlt h2] at e
        cases e
      · omega
    rw [visit_new e eh]
    have hat : look (st.1 ++ [(stepM u h, k + 1)]) (stepM u h) = some (k + 1) := by
      rw [look_app, e]
      simp
    have keep : ∀ x, (look st.1 x).isSome = true → look (st.1 ++ [(stepM u h, k + 1)]) x = look st.1 x := fun x hx => look_keep hx
    have new : ∀ x v, look st.1 x = none → look (st.1 ++ [(stepM u h, k + 1)]) x = some v → x = stepM u h ∧ v = k + 1 := fun x v h1 h2 => by
      rw [look_app, h1] at h2
      by_cases h3 : (stepM u h == x) = true
      · rw [if_pos h3] at h2
        exact ⟨(by simpa using h3 : stepM u h = x).symm, (Option.some.inj h2).symm⟩
      · rw [if_neg h3] at h2
        cases h2
    refine ⟨⟨fun x v hx => ?_, fun x h1 h2 => ?_, fun x => ?_, ?_, fun p hp u' => ?_⟩, by show (look (st.1 ++ [(stepM u h, k + 1)]) (stepM u h)).isSome = true; rw [hat]; rfl, fun x hx => by show (look (st.1 ++ [(stepM u h, k + 1)]) x).isSome = true; rw [keep x hx]; exact hx⟩
    · cases q : look st.1 x with
      | some w =>
        have hx2 : look (st.1 ++ [(stepM u h, k + 1)]) x = some v := hx
        rw [keep x (by rw [q]; rfl), q] at hx2
        have e2 : w = v := Option.some.inj hx2
        rw [← e2]
        exact P.a x w q
      | none =>
        obtain ⟨e1, e2⟩ := new x v q hx
        rw [e1, e2]
        exact ⟨hlt, hw.symm, Nat.le_refl _⟩
    · have q := P.b x h1 h2
      show look (st.1 ++ [(stepM u h, k + 1)]) x = _
      rw [keep x (by rw [q]; rfl)]
      exact q
    · show x ∈ st.2 ++ [stepM u h] ↔ look (st.1 ++ [(stepM u h, k + 1)]) x = some (k + 1)
      constructor
      · intro hx
        rcases List.mem_append.mp hx with hx | hx
        · have q := (P.c x).mp hx
          rw [keep x (by rw [q]; rfl)]
          exact q
        · have e2 : x = stepM u h := by simpa using hx
          rw [e2]
          exact hat
      · intro hx
        cases q : look st.1 x with
        | some w =>
          rw [keep x (by rw [q]; rfl)] at hx
          exact List.mem_append_left _ ((P.c x).mpr hx)
        | none =>
          obtain ⟨e1, _⟩ := new x _ q hx
          rw [e1]
          exact List.mem_append_right _ List.mem_cons_self
    · show ((st.1 ++ [(stepM u h, k + 1)]).map (·.1)).Nodup
      rw [List.map_append, List.nodup_append]
      refine ⟨P.d, by simp, fun x hx y hy z => ?_⟩
      have ey : y = stepM u h := by simpa using hy
      rw [z, ey] at hx
      exact look_none e hx
    · show (look (st.1 ++ [(stepM u h, k + 1)]) (stepM u' p)).isSome = true
      rw [keep _ (P.e p hp u')]
      exact P.e p hp u'
theorem pt_turn {m : M} {k : Nat} {done : List M} {st : KR} {h : M} (hm : m.length ≤ 6) (P : Pt m k done st) (hl : h.length = m.length) (hk : wl m h = k) : Pt m k (done ++ [h]) (turn st h) := by
  obtain ⟨P1, s1, k1⟩ := pt_visit hm P hl hk false
  obtain ⟨P2, s2, k2⟩ := pt_visit hm P1 hl hk true
  refine ⟨P2.a, P2.b, P2.c, P2.d, fun p hp u => ?_⟩
  rcases List.mem_append.mp hp with hp | hp
  · exact P2.e p hp u
  · have e : p = h := by simpa using hp
    rw [e]
    cases u with
    | false => exact k2 _ s1
    | true => exact s2
theorem pt_fold {m : M} {k : Nat} (hm : m.length ≤ 6) : ∀ (rs done : List M) (st : KR), Pt m k done st → (∀ x ∈ rs, x.length = m.length ∧ wl m x = k) → Pt m k (done ++ rs) (rs.foldl turn st)
  | [], done, st, P, _ => by
    rw [List.append_nil]
    exact P
  | r :: rs, done, st, P, h => by
    obtain ⟨h1, h2⟩ := h r List.mem_cons_self
    have P1 := pt_turn hm P h1 h2
    have ih := pt_fold hm rs (done ++ [r]) (turn st r) P1 fun x hx => h x (List.mem_cons_of_mem _ hx)
    rw [List.append_assoc] at ih
    exact ih
structure Lv (m : M) (k : Nat) (st : KR) : Prop where
  a : ∀ x v, look st.1 x = some v → x.length = m.length ∧ v = wl m x ∧ v ≤ k
  b : ∀ x, x.length = m.length → wl m x ≤ k → look st.1 x = some (wl m x)
  c : ∀ x, x ∈ st.2 ↔ (x.length = m.length ∧ wl m x = k)
  d : (st.1.map (·.1)).Nodup
theorem lv_level {m : M} {k : Nat} {st : KR} (hm : m.length ≤ 6) (L : Lv m k st) : Lv m (k + 1) (level st) := by
  have P0 : Pt m k [] (st.1, []) := by
    refine ⟨fun x v h => ?_, L.b, fun x => ?_, L.d, fun p hp => by cases hp⟩
    · obtain ⟨h1, h2, h3⟩ := L.a x v h
      exact ⟨h1, h2, Nat.le_succ_of_le h3⟩
    · constructor
      · intro h
        cases h
      · intro h
        have h1 := (L.a x _ h).2.2
        omega
  have P := pt_fold hm st.2 [] (st.1, []) P0 fun x hx => (L.c x).mp hx
  rw [List.nil_append] at P
  have full : ∀ x, x.length = m.length → wl m x ≤ k + 1 → look (level st).1 x = some (wl m x) := fun x h1 h2 => by
    by_cases h3 : wl m x ≤ k
    · exact P.b x h1 h3
    · have hn : x ≠ m := fun z => by
        rw [z, wl_self] at h3
        omega
      obtain ⟨p, u, e1, e2, e3⟩ := pred hm h1 hn
      have hp : p ∈ st.2 := (L.c p).mpr ⟨e2, by omega⟩
      have h4 := P.e p hp u
      rw [e1] at h4
      obtain ⟨v, ev⟩ := Option.isSome_iff_exists.mp h4
      have h5 := (P.a x v ev).2.1
      rw [← h5]
      exact ev
  refine ⟨P.a, full, fun x => ?_, P.d⟩
  constructor
  · intro hx
    have h1 := (P.c x).mp hx
    have h2 := P.a x _ h1
    exact ⟨h2.1, h2.2.1.symm⟩
  · rintro ⟨h1, h2⟩
    refine (P.c x).mpr ?_
    have h3 := full x h1 (Nat.le_of_eq h2)
    rw [h2] at h3
    exact h3
theorem lv0 {m : M} (hm : m.length ≤ 6) : Lv m 0 (st0 m) := by
  have at0 : ∀ x, look (st0 m).1 x = if (m == x) = true then some 0 else none := fun x => rfl
  have z0 : ∀ x, x.length = m.length → wl m x = 0 → x = m := fun x h1 h2 => by
    by_cases h : x = m
    · exact h
    · obtain ⟨p, u, _, _, e⟩ := pred hm h1 h
      omega
  refine ⟨fun x v h => ?_, fun x h1 h2 => ?_, fun x => ?_, by simp [st0]⟩
  · rw [at0] at h
    by_cases e : (m == x) = true
    · rw [if_pos e] at h
      have e1 : m = x := by simpa using e
      have e2 : 0 = v := Option.some.inj h
      rw [← e1, ← e2, wl_self]
      exact ⟨rfl, rfl, Nat.le_refl _⟩
    · rw [if_neg e] at h
      cases h
  · have e := z0 x h1 (by omega)
    rw [at0, e, if_pos (by simp), wl_self]
  · show x ∈ [m] ↔ _
    constructor
    · intro h
      have e : x = m := by simpa using h
      rw [e, wl_self]
      exact ⟨rfl, rfl⟩
    · rintro ⟨h1, h2⟩
      rw [z0 x h1 h2]
      exact List.mem_cons_self
theorem lv_iter {m : M} (hm : m.length ≤ 6) : ∀ k, Lv m k (iter k (st0 m))
  | 0 => lv0 hm
  | k + 1 => lv_level hm (lv_iter hm k)
theorem bfs_done {m : M} (hm : m.length ≤ 6) : (iter 23 (st0 m)).2 = [] := by
  refine List.eq_nil_iff_forall_not_mem.mpr fun x hx => ?_
  obtain ⟨h1, h2⟩ := ((lv_iter hm 23).c x).mp hx
  have := wl_le hm h1
  omega
theorem bfs_eq (m : M) : bfs m = (iter 23 (st0 m)).1 := by
  unfold bfs
  rfl
theorem bfs_look {m o : M} (hm : m.length ≤ 6) (ho : o.length = m.length) : look (bfs m) o = some (wl m o) := by
  rw [bfs_eq]
  exact (lv_iter hm 23).b o ho (by have := wl_le hm ho; omega)
theorem bfs_keys {m : M} (hm : m.length ≤ 6) : ((bfs m).map (·.1)).Perm (allM m.length) := by
  have L := lv_iter hm 23
  rw [bfs_eq]
  refine (List.perm_ext_iff_of_nodup L.d (allM_nodup hm)).mpr fun x => ?_
  rw [mem_allM]
  constructor
  · intro hx
    cases q : look (iter 23 (st0 m)).1 x with
    | none => exact absurd hx (look_none q)
    | some v => exact (L.a x v q).1
  · intro hx
    have h := L.b x hx (by have := wl_le hm hx; omega)
    by_cases hc : x ∈ (iter 23 (st0 m)).1.map (·.1)
    · exact hc
    · exfalso
      have no : ∀ {k : List (M × Nat)}, x ∉ k.map (·.1) → look k x = none := fun {k} => by
        induction k with
        | nil => intro _; rfl
        | cons p r ih =>
          intro hn
          rw [List.map_cons, List.mem_cons, not_or] at hn
          show (if (p.1 == x) = true then some p.2 else look r x) = none
          rw [if_neg (fun z => hn.1 (by simpa using z : p.1 = x).symm), ih hn.2]
      rw [no hc] at h
      cases h
theorem bfs_len {m : M} (hm : m.length ≤ 6) : (bfs m).length ≤ 64 := by
  have h := (bfs_keys hm).length_eq
  rw [List.length_map, allM_len hm] at h
  rw [h]
  exact pow_le hm
def vals (k : List (M × Nat)) : List Nat := k.map fun p => (look k p.1).getD 0
theorem vals_eq (k : List (M × Nat)) : vals k = (k.map (·.1)).map fun x => (look k x).getD 0 := by
  rw [List.map_map]
  rfl
theorem bfs_vals {m : M} (hm : m.length ≤ 6) : (vals (bfs m)).Perm ((allM m.length).map (wl m)) := by
  rw [vals_eq]
  refine ((bfs_keys hm).map _).trans (.of_eq ?_)
  refine List.map_congr_left fun x hx => ?_
  rw [bfs_look hm ((mem_allM _ _).mp hx)]
  rfl
theorem bfs_key_len {m : M} (hm : m.length ≤ 6) {p : M × Nat} (hp : p ∈ bfs m) : p.1.length = m.length := by
  have h := (bfs_keys hm).mem_iff.mp (List.mem_map.mpr ⟨p, hp, rfl⟩)
  exact (mem_allM _ _).mp h
/-! ### the law's own order of all memories -/
def lawAllM : Nat → List M
  | 0 => [[]]
  | n + 1 => (lawAllM n).map (· ++ [false]) ++ (lawAllM n).map (· ++ [true])
theorem lawAll_all : (List.range 7).all (fun n => (allM n).isPerm (lawAllM n)) = true := by decide +kernel
theorem lawAll_perm {n : Nat} (h : n ≤ 6) : (allM n).Perm (lawAllM n) := List.isPerm_iff.mp (List.all_eq_true.mp lawAll_all n (List.mem_range.mpr (by omega)))
def leM : M → M → Bool
  | [], _ => true
  | _ :: _, [] => false
  | a :: x, b :: y => if a == b then leM x y else b
theorem leM_le : ∀ {x y : M}, leM x y = true → x.map sg ≤ y.map sg
  | [], _, _ => List.nil_le _
  | _ :: _, [], h => by cases h
  | a :: x, b :: y, h => by
    have h2 : (if (a == b) = true then leM x y else b) = true := h
    rw [List.map_cons, List.map_cons, List.cons_le_cons_iff]
    by_cases e : (a == b) = true
    · rw [if_pos e] at h2
      have e2 : a = b := by simpa using e
      exact .inr ⟨by rw [e2], leM_le h2⟩
    · rw [if_neg e] at h2
      have e2 : a = false := by
        rw [h2] at e
        cases a
        · rfl
        · exact absurd rfl e
      rw [h2, e2]
      exact .inl (by decide)
def rising : List M → Bool
  | [] => true
  | x :: r => r.all (leM x) && rising r
theorem rising_pw : ∀ {l : List M}, rising l = true → l.Pairwise fun x y => leM x y = true
  | [], _ => .nil
  | x :: r, h => by
    obtain ⟨h1, h2⟩ := Bool.and_eq_true_iff.mp (show (r.all (leM x) && rising r) = true from h)
    exact .cons (fun y hy => List.all_eq_true.mp h1 y hy) (rising_pw h2)
theorem rising_all : (List.range 7).all (fun n => rising (allM n)) = true := by decide +kernel
theorem allM_rising {n : Nat} (h : n ≤ 6) : ((allM n).map tx).Pairwise fun x y => x.cps.toList ≤ y.cps.toList := by
  rw [List.pairwise_map]
  exact (rising_pw (List.all_eq_true.mp rising_all n (List.mem_range.mpr (by omega)))).imp fun h => leM_le h
end K14

/-! ## K14E -/
namespace K14
open PySem PySem.Spec PyProof.Rows L2
/-! ### what is walked: a known list of values -/
structure Over (J : It) (xs : List V) (Pv : Nat → Hp → Prop) : Prop where
  go : ∀ i H, Pv i H → i < xs.length → J.go i H
  yld : ∀ i H x H', Pv i H → i < xs.length → J.yld i H x H' → H' = H ∧ xs[i]? = some x
  stop : ∀ H, Pv xs.length H → J.stop xs.length H
theorem over_gen {J : It} {xs : List V} {H0 : Hp} {End : Hp → Prop} {Body : V → Hp → (Hp → Prop) → Prop} (Pv : Nat → Hp → Prop) (ho : Over J xs Pv) (h0 : Pv 0 H0) (hs : ∀ i x H, xs[i]? = some x → Pv i H → Body x H (Pv (i + 1))) (hd : ∀ H, Pv xs.length H → End H) :
    ∃ W : Nat → Nat → Hp → Prop, (∃ m, W 0 m H0) ∧ ∀ i m H, W i m H →
      (J.stop i H ∧ End H) ∨ (J.go i H ∧ ∃ Nx : Hp → Prop, (∀ H', Nx H' → ∃ m', m' < m ∧ W (i + 1) m' H') ∧ ∀ x H', J.yld i H x H' → Body x H' Nx) := by
  refine ⟨fun i m H => m = xs.length - i ∧ i ≤ xs.length ∧ Pv i H, ⟨xs.length, by simp, Nat.zero_le _, h0⟩, ?_⟩
  rintro i m H ⟨rfl, hi, p⟩
  by_cases hlt : i < xs.length
  · refine .inr ⟨ho.go i H p hlt, Pv (i + 1), fun H' p' => ⟨xs.length - (i + 1), by omega, rfl, hlt, p'⟩, fun x H' y => ?_⟩
    obtain ⟨e, y⟩ := ho.yld i H x H' p hlt y
    rw [e]
    exact hs i x H y p
  · have e : i = xs.length := by omega
    subst e
    exact .inl ⟨ho.stop H p, hd H p⟩
theorem over_for {J : It} {xs : List V} {σ0 : L2.St} {H0 : Hp} {End : L2.St → Hp → Prop} {Body : V → L2.St → Hp → (L2.St → Hp → Prop) → Prop} (Pv : Nat → L2.St → Hp → Prop) (ho : Over J xs fun i H => ∃ σ, Pv i σ H) (h0 : Pv 0 σ0 H0)
    (hs : ∀ i x σ H, xs[i]? = some x → Pv i σ H → Body x σ H (Pv (i + 1))) (hd : ∀ σ H, Pv xs.length σ H → End σ H) :
    ∃ W : Nat → Nat → L2.St → Hp → Prop, (∃ m, W 0 m σ0 H0) ∧ ∀ i m σ H, W i m σ H →
      (J.stop i H ∧ End σ H) ∨ (J.go i H ∧ ∃ N : L2.St → Hp → Prop, (∀ σ' H', N σ' H' → ∃ m', m' < m ∧ W (i + 1) m' σ' H') ∧ ∀ x H', J.yld i H x H' → Body x σ H' N) := by
  refine ⟨fun i m σ H => m = xs.length - i ∧ i ≤ xs.length ∧ Pv i σ H, ⟨xs.length, by simp, Nat.zero_le _, h0⟩, ?_⟩
  rintro i m σ H ⟨rfl, hi, p⟩
  by_cases hlt : i < xs.length
  · refine .inr ⟨ho.go i H ⟨σ, p⟩ hlt, Pv (i + 1), fun σ' H' p' => ⟨xs.length - (i + 1), by omega, rfl, hlt, p'⟩, fun x H' y => ?_⟩
    obtain ⟨e, y⟩ := ho.yld i H x H' ⟨σ, p⟩ hlt y
    rw [e]
    exact hs i x σ H y p
  · have e : i = xs.length := by omega
    subst e
    exact .inl ⟨ho.stop H ⟨σ, p⟩, hd σ H p⟩
theorem over_list {K : PySem.W.Frag} {a : Addr} {xs : List V} {Pv : Nat → Hp → Prop} (h : ∀ i H, Pv i H → SqL K H a xs) : Over (Itl K a) xs Pv where
  go i H p hi := ⟨xs, xs[i], h i H p, List.getElem?_eq_getElem hi⟩
  yld i H x H' p hi y := ⟨y.1, y.2 xs (h i H p)⟩
  stop H p := ⟨xs, h _ H p, Nat.le_refl _⟩
theorem over_tup {K : PySem.W.Frag} {a : Addr} {xs : List V} {Pv : Nat → Hp → Prop} (h : ∀ i H, Pv i H → SqT K H a xs) : Over (Itt K a) xs Pv where
  go i H p hi := ⟨xs, xs[i], h i H p, List.getElem?_eq_getElem hi⟩
  yld i H x H' p hi y := ⟨y.1, y.2 xs (h i H p)⟩
  stop H p := ⟨xs, h _ H p, Nat.le_refl _⟩
theorem over_str {z : Str} {xs : List V} {Pv : Nat → Hp → Prop} (h : xs = z.cps.toList.map fun c => V.str ⟨#[c]⟩) : Over (Its z) xs Pv where
  go i H p hi := by
    rw [h, List.length_map, Array.length_toList] at hi
    exact hi
  yld i H x H' p hi y := by
    obtain ⟨e, c, hc, rfl⟩ := y
    refine ⟨e, ?_⟩
    rw [h, List.getElem?_map, Array.getElem?_toList, hc]
    rfl
  stop H p := by
    show z.cps.size ≤ xs.length
    rw [h, List.length_map, Array.length_toList]
    exact Nat.le_refl _
theorem over_keys {d : Addr} {o : Obj} {kvs : List (Key × V)} {Pv : Nat → Hp → Prop} (h : ∀ i H, Pv i H → H d = some (.frz o (.dK kvs))) : Over (Itk d o kvs) (kvs.map fun p => kV p.1) Pv where
  go i H p hi := ⟨h i H p, by rw [List.length_map] at hi; exact hi⟩
  yld i H x H' p hi y := by
    obtain ⟨e, k, v, hk, rfl⟩ := y
    refine ⟨e, ?_⟩
    rw [List.getElem?_map, hk]
    rfl
  stop H p := ⟨h _ H p, by rw [List.length_map]; exact Nat.le_refl _⟩
theorem tnil_ok {σ : L2.St} {H : Hp} {Q : List V → Hp → Prop} (h : Q [] H) : tNil σ H Q := h
theorem yesT {σ : L2.St} {H : Hp} {A B : Hp → Prop} (h : A H) : tYes σ H fun b H3 => if b = true then A H3 else B H3 := by
  show (if true = true then A H else B H)
  rw [if_pos rfl]
  exact h
/-! ### lists by their beginnings -/
theorem take_snoc {α β : Type} {xs : List α} {f : α → β} {i : Nat} {x : α} (h : xs[i]? = some x) : (xs.take (i + 1)).map f = (xs.take i).map f ++ [f x] := by
  rw [List.take_add_one, h, List.map_append]
  rfl
theorem map_at {α β : Type} {xs : List α} {f : α → β} {i : Nat} {y : β} (h : (xs.map f)[i]? = some y) : ∃ x, xs[i]? = some x ∧ y = f x := by
  rw [List.getElem?_map] at h
  cases e : xs[i]? with
  | none =>
    rw [e] at h
    cases h
  | some x =>
    rw [e] at h
    exact ⟨x, rfl, (Option.some.inj h).symm⟩
theorem flat_take {α β : Type} {xs : List α} {f : α → List β} {i : Nat} {x : α} (h : xs[i]? = some x) : (xs.take (i + 1)).flatMap f = (xs.take i).flatMap f ++ f x := by
  rw [List.take_add_one, h, List.flatMap_append]
  simp
theorem filter_take {α β : Type} {xs : List α} {p : α → Bool} {f : α → β} {i : Nat} {x : α} (h : xs[i]? = some x) : ((xs.take (i + 1)).filter p).map f = ((xs.take i).filter p).map f ++ (if p x = true then [f x] else []) := by
  rw [List.take_add_one, h, List.filter_append, List.map_append]
  congr 1
  show (([x] : List α).filter p).map f = _
  by_cases e : p x = true
  · rw [List.filter_cons_of_pos e, if_pos e]
    rfl
  · rw [List.filter_cons_of_neg e, if_neg e]
    rfl
theorem at_lt {α : Type} {xs : List α} {i : Nat} {x : α} (h : xs[i]? = some x) : i < xs.length := (List.getElem?_eq_some_iff.mp h).1
theorem tk_len {α β : Type} {xs : List α} {f : α → β} {i : Nat} : ((xs.take i).map f).length ≤ xs.length := by
  rw [List.length_map, List.length_take]
  exact Nat.min_le_right _ _
theorem same_upd2 {H H1 : Hp} {D : Addr} {o : HO} (nD : H D = none) (sm : Same H H1) : Same H (upd H1 D o) := fun b x e => by
  rw [upd_ne (ne_of_none e nD)]
  exact sm b x e
theorem upd_self_ne {H : Hp} {p q : Addr} {o o' : HO} (h : H p = some o) (hq : H q = none) : upd H q o' p = some o := by
  rw [upd_ne (ne_of_none h hq)]
  exact h
end K14

/-! ## K14D1 -/
namespace K14
open PySem PySem.Spec PyProof.Rows L2
/-- the built-in names are still the built-ins, the module's constants -/
structure Nm (mg : Str → Option Value) : Prop where
  isi : mg "isinstance" = none
  int : mg "int" = none
  bool : mg "bool" = none
  str : mg "str" = none
  len : mg "len" = none
  all : mg "all" = none
  range : mg "range" = none
  max : mg "max" = none
  tuple : mg "tuple" = none
  list : mg "list" = none
  sorted : mg "sorted" = none
  ms : ∃ t, mg "MOST_SPAN" = some (.int 9 t)
  md : ∃ t, mg "MOST_DIAMETER" = some (.int 6 t)
theorem kit_ii (K : PySem.W.Frag) : PySem.W.kitOne K (.type "int") (.type "int") = some true := kit_ty (by decide +kernel)
theorem kit_ib (K : PySem.W.Frag) : PySem.W.kitOne K (.type "int") (.type "bool") = some false := kit_ty (by decide +kernel)
theorem kit_ss (K : PySem.W.Frag) : PySem.W.kitOne K (.type "str") (.type "str") = some true := kit_ty (by decide +kernel)
theorem boot_isi : bootBuiltins "isinstance" = some (.builtin "isinstance") := by decide +kernel
theorem boot_Int : bootBuiltins "int" = some (.type "int") := by decide +kernel
theorem boot_Bool : bootBuiltins "bool" = some (.type "bool") := by decide +kernel
theorem boot_Str : bootBuiltins "str" = some (.type "str") := by decide +kernel
theorem boot_All : bootBuiltins "all" = some (.builtin "all") := by decide +kernel
section
variable {P : Program} {w : World} {K : PySem.W.Frag} {mg : Str → Option Value} {base : Heap}
/-! ### is_in, need_span -/
def spIsIn : Sp := fun vs H Q _ => ∃ v a b : Int, vs = [.int v, .int a, .int b] ∧ a ≤ v ∧ v ≤ b ∧ Q (.bl true) H
theorem ok_isIn {f : Addr} {fd : FuncData} {k : Nat} (F : FnP K "is_in" sIsIn f fd) (n : Nm mg) : FnOk P w K mg base CX0 (k + 1) f fd ["value", "least", "most"] spIsIn := by
  refine F.ok0 scan0 (fun vs H Q E h => ?_) (fun cdv A outer s H vs Q E hr h => ?_)
  · obtain ⟨v, a, b, rfl, _⟩ := h
    rfl
  · obtain ⟨v, a, b, rfl, h1, h2, q⟩ := h
    refine ⟨_, pss_one (ps_ret (pe_and (pe_callB call_isi (by rfl) n.isi boot_isi (pa_cons (pv 0) (pa_cons (pe_bltn (v := .ty "int") (by rfl) n.int boot_Int rfl) pa_nil)))
      (pe_and (pe_not (pe_callB call_isi (by rfl) n.isi boot_isi (pa_cons (pv 0) (pa_cons (pe_bltn (v := .ty "bool") (by rfl) n.bool boot_Bool rfl) pa_nil))))
      (pe_one (pe_chain op_le op_le (pv 1) (pv 0) (pv 2)))))), ?_⟩
    refine ⟨_, rfl, _, _, _, _, _, rfl, .ty _, .base (.int v), kit_ii K, true, rfl, iteT ?_⟩
    refine ⟨_, rfl, _, _, _, _, _, rfl, .ty _, .base (.int v), kit_ib K, false, rfl, true, rfl, iteT ?_⟩
    refine ⟨_, rfl, _, rfl, a, v, rfl, rfl, _, rfl, ?_⟩
    rw [decide_eq_true h1]
    refine iteT ⟨_, rfl, v, b, rfl, rfl, ?_⟩
    show Q (.bl (decide (v ≤ b))) H
    rw [decide_eq_true h2]
    exact q
/-- what the memory asks of a call's place -/
def spNeedSpan : Sp := fun vs H Q _ => ∃ n : Nat, vs = [nv n] ∧ 1 ≤ n ∧ n ≤ 9 ∧ Q .non H
theorem scNS : FnScope ["span"] ["span"] (defScope sNeedSpan) := ⟨rfl, rfl, rfl, by decide +kernel, rfl, by decide +kernel, by decide +kernel⟩
theorem ok_needSpan {f fI : Addr} {fd fdI : FuncData} (F : FnP K "need_span" sNeedSpan f fd) (n : Nm mg) (FI : FnP K "is_in" sIsIn fI fdI) (gI : mg "is_in" = some (.ref fI)) : FnOk P w K mg base CX0 2 f fd ["span"] spNeedSpan := by
  have GI : FnOk P w K mg base CX0 1 fI fdI ["value", "least", "most"] spIsIn := ok_isIn FI n
  have bI : Binds K fdI ["value", "least", "most"] [] := FI.bindsN fun _ _ _ _ _ _ us hl => match us, hl with | [_, _, _], _ => rfl
  refine F.ok0 scNS (fun vs H Q E h => ?_) (fun cdv A outer s H vs Q E hr h => ?_)
  · obtain ⟨v, rfl, _⟩ := h
    rfl
  · obtain ⟨v, rfl, h1, h2, q⟩ := h
    obtain ⟨t, ms⟩ := n.ms
    refine ⟨_, pss_one (ps_if (pt_not (pt_val (pe_call GI hr (by rfl) gI FI.kp bI .nil pass0 (pa_cons (pv 0) (pa_cons pe_int (pa_cons (pe_glob (v := .int 9) (by rfl) ms ⟨t, rfl⟩) pa_nil)))))) (pss_one ps_never) pss_nil), ?_⟩
    refine ⟨_, rfl, _, _, _, rfl, by omega, by omega, true, rfl, iteF ?_⟩
    exact q
/-! ### is_memory, need_memory, need_pair -/
def spIsMem (T : Addr) : Sp := fun vs H Q _ => ∃ m : M, vs = [tv m] ∧ 1 ≤ m.length ∧ m.length ≤ 9 ∧ GxR.TabG H T ∧ ∀ H', GxR.Tabbed T H H' → Q (.bl true) H'
theorem scIM : FnScope ["value"] ["value"] (defScope sIsMem) := ⟨rfl, rfl, rfl, by decide +kernel, rfl, by decide +kernel, by decide +kernel⟩
theorem signs_ok (m : M) : (tx m).cps.toList.all (fun c => !(Builtin.Str.occurrences "01" ⟨#[c]⟩ 0 ("01" : Str).length 1).isEmpty) = true := by
  have h0 : (!(Builtin.Str.occurrences "01" ⟨#[48]⟩ 0 ("01" : Str).length 1).isEmpty) = true := by decide +kernel
  have h1 : (!(Builtin.Str.occurrences "01" ⟨#[49]⟩ 0 ("01" : Str).length 1).isEmpty) = true := by decide +kernel
  rw [tx_list, List.all_eq_true]
  intro c hc
  obtain ⟨b, _, e⟩ := List.mem_map.mp hc
  cases b with
  | false =>
    rw [← e]
    exact h0
  | true =>
    rw [← e]
    exact h1
theorem no_free {cells : List (Str × Addr)} (y : Str × NameKind) (hy : y ∈ [(Str.ofString ".0", NameKind.local), (Str.ofString "sign", NameKind.local)]) (e : y.2 = .free) : ∃ c, cells.lookup y.1 = some c := by
  rcases List.mem_cons.mp hy with h | h
  · rw [h] at e
    cases e
  · have h2 : y = (Str.ofString "sign", NameKind.local) := by simpa using h
    rw [h2] at e
    cases e
theorem ok_isMem {f c T : Addr} {fd : FuncData} {k : Nat} (F : FnP K "is_memory" sIsMem f fd) (hc : ∀ oc od osl, K.lookup f = some ⟨oc, od, .func fd, osl⟩ → fd.code = .ref c) (TB : GxR.TabB base mg c T) (n : Nm mg) : FnOk P w K mg base CX0 (k + 1) f fd ["value"] (spIsMem T) := by
  obtain ⟨oc, od, dV, kV, doc, pm, an, cdv, ct, osl, rfl, lk, hcd, _, _⟩ := F.ex
  have ecd : cdv = .ref c := hc oc od osl lk
  subst ecd
  refine fn_of lk hcd scIM (fun vs H Q E h => ?_) (fun A outer s H vs Q E hr h => ?_)
  · obtain ⟨m, rfl, _⟩ := h
    rfl
  · obtain ⟨m, rfl, h1, h2, hT, q⟩ := h
    obtain ⟨t, ms⟩ := n.ms
    refine ⟨_, pss_cons (ps_if (PW.pt (pw_or (pt_not (pt_val (pe_callB call_isi (by rfl) n.isi boot_isi (pa_cons (pv 0) (pa_cons (pe_bltn (v := .ty "str") (by rfl) n.str boot_Str rfl) pa_nil)))))
        (pw_or1 (pt_not (pt_chain op_le op_le pe_int (pe_callB call_len (by rfl) n.len boot_len (pa_cons (pv 0) pa_nil)) (pe_glob (v := .int 9) (by rfl) ms ⟨t, rfl⟩)))))) (pss_one (ps_ret pe_bl)) pss_nil)
      (pss_one (ps_ret (GxR.pe_allS hr (by rfl) n.all boot_All TB rfl ⟨rfl, rfl, by decide +kernel, by decide +kernel, by decide +kernel, no_free⟩ (pv 0) (elt_in rfl (by decide +kernel)) (fun _ => rfl)))), ?_⟩
    refine ⟨_, rfl, _, _, _, _, _, rfl, .ty _, .base (.str _), kit_ss K, true, rfl, ?_⟩
    refine iteF ⟨_, rfl, _, m.length, rfl, ⟨?_, (tx_len m).symm⟩, _, _, rfl, rfl, _, rfl, ?_⟩
    · rw [tx_len]
      exact Nat.le_of_lt (small1000 (by omega))
    · rw [decide_eq_true (show (1 : Int) ≤ (m.length : Int) by omega)]
      refine iteT ⟨_, _, rfl, rfl, _, rfl, ?_⟩
      rw [decide_eq_true (show (m.length : Int) ≤ 9 by omega)]
      refine iteF ⟨_, rfl, tx m, rfl, hT, fun H2 hH => ?_⟩
      rw [signs_ok m]
      exact q H2 hH
def spNeedMem (T : Addr) : Sp := fun vs H Q _ => ∃ m : M, vs = [tv m] ∧ 1 ≤ m.length ∧ m.length ≤ 9 ∧ GxR.TabG H T ∧ ∀ H', GxR.Tabbed T H H' → Q .non H'
theorem scNM : FnScope ["memory"] ["memory"] (defScope sNeedMem) := ⟨rfl, rfl, rfl, by decide +kernel, rfl, by decide +kernel, by decide +kernel⟩
/-- is_memory keeps its promise, with the binding of its name -/
structure HasMem (P : Program) (w : World) (K : PySem.W.Frag) (mg : Str → Option Value) (base : Heap) (T fM : Addr) (fdM : FuncData) : Prop where
  ok : FnOk P w K mg base CX0 1 fM fdM ["value"] (spIsMem T)
  g : mg "is_memory" = some (.ref fM)
  kp : PySem.W.keepIn K (.ref fM) = true
  b : Binds K fdM ["value"] []
theorem ok_needMem {f fM T : Addr} {fd fdM : FuncData} (F : FnP K "need_memory" sNeedMem f fd) (M0 : HasMem P w K mg base T fM fdM) : FnOk P w K mg base CX0 2 f fd ["memory"] (spNeedMem T) := by
  refine F.ok0 scNM (fun vs H Q E h => ?_) (fun cdv A outer s H vs Q E hr h => ?_)
  · obtain ⟨m, rfl, _⟩ := h
    rfl
  · obtain ⟨m, rfl, h1, h2, hT, q⟩ := h
    refine ⟨_, pss_one (ps_if (pt_not (pt_val (pe_call M0.ok hr (by rfl) M0.g M0.kp M0.b .nil pass0 (pa_cons (pv 0) pa_nil)))) (pss_one ps_never) pss_nil), ?_⟩
    refine ⟨_, rfl, m, rfl, h1, h2, hT, fun H' hH => ⟨true, rfl, iteF ?_⟩⟩
    exact q H' hH
def spNeedPair (T : Addr) : Sp := fun vs H Q _ => ∃ a b : M, vs = [tv a, tv b] ∧ 1 ≤ a.length ∧ a.length ≤ 9 ∧ b.length = a.length ∧ GxR.TabG H T ∧ ∀ H', GxR.Tabbed T H H' → Q .non H'
theorem scNP : FnScope ["one", "other"] ["one", "other"] (defScope sNeedPair) := ⟨rfl, rfl, rfl, by decide +kernel, rfl, by decide +kernel, by decide +kernel⟩
theorem Tabbed.trans {T : Addr} {H H1 H2 : Hp} (a : GxR.Tabbed T H H1) (b : GxR.Tabbed T H1 H2) : GxR.Tabbed T H H2 := ⟨b.1, fun c n => (b.2 c n).trans (a.2 c n)⟩
structure HasNM (P : Program) (w : World) (K : PySem.W.Frag) (mg : Str → Option Value) (base : Heap) (T fM : Addr) (fdM : FuncData) : Prop where
  ok : FnOk P w K mg base CX0 2 fM fdM ["memory"] (spNeedMem T)
  g : mg "need_memory" = some (.ref fM)
  kp : PySem.W.keepIn K (.ref fM) = true
  b : Binds K fdM ["memory"] []
theorem ok_needPair {f fM T : Addr} {fd fdM : FuncData} (F : FnP K "need_pair" sNeedPair f fd) (n : Nm mg) (M0 : HasNM P w K mg base T fM fdM) : FnOk P w K mg base CX0 3 f fd ["one", "other"] (spNeedPair T) := by
  refine F.ok0 scNP (fun vs H Q E h => ?_) (fun cdv A outer s H vs Q E hr h => ?_)
  · obtain ⟨a, b, rfl, _⟩ := h
    rfl
  · obtain ⟨a, b, rfl, h1, h2, h3, hT, q⟩ := h
    refine ⟨_, pss_cons (ps_expr (pe_call M0.ok hr (by rfl) M0.g M0.kp M0.b .nil pass0 (pa_cons (pv 0) pa_nil)))
      (pss_cons (ps_expr (pe_call M0.ok hr (by rfl) M0.g M0.kp M0.b .nil pass0 (pa_cons (pv 1) pa_nil)))
      (pss_one (ps_if (pt_cmpR op_ne (pe_callB call_len (by rfl) n.len boot_len (pa_cons (pv 1) pa_nil)) (pe_callB call_len (by rfl) n.len boot_len (pa_cons (pv 0) pa_nil)) (nomark _)) (pss_one ps_never) pss_nil))), ?_⟩
    refine ⟨_, rfl, a, rfl, h1, h2, hT, fun H1 hH1 => ?_⟩
    refine ⟨_, rfl, b, rfl, by omega, by omega, hH1.1, fun H2 hH2 => ?_⟩
    refine ⟨_, rfl, _, b.length, rfl, ⟨?_, (tx_len b).symm⟩, _, rfl, _, a.length, rfl, ⟨?_, (tx_len a).symm⟩, rfl, _, rfl, ?_⟩
    · rw [tx_len]
      exact Nat.le_of_lt (small1000 (by omega))
    · rw [tx_len]
      exact Nat.le_of_lt (small1000 (by omega))
    · rw [h3]
      exact iteNS rfl (q H2 (Tabbed.trans hH1 hH2))
end
end K14

/-! ## K14D2 -/
namespace K14
open PySem PySem.Spec PyProof.Rows L2
section
variable {P : Program} {w : World} {K : PySem.W.Frag} {mg : Str → Option Value} {base : Heap}
/-! ### all_memories -/
def spAllMem : Sp := fun vs H Q _ => ∃ n : Nat, vs = [nv n] ∧ n ≤ 6 ∧ ∀ L H', Same H H' → H L = none → H' L = some (.lst ((allM n).map tv)) → Q (.ref L) H'
theorem scAM : FnScope ["span", "found", "turn", "memory", "sign"] ["span"] (defScope sAllMem) := ⟨rfl, rfl, rfl, by decide +kernel, rfl, by decide +kernel, by decide +kernel⟩
theorem signs01 : [tv [false], tv [true]] = ("01" : Str).cps.toList.map fun c => V.str ⟨#[c]⟩ := by
  have e : ("01" : Str).cps.toList = [48, 49] := by decide +kernel
  rw [e]
  rfl
theorem small64' {n : Nat} (h : n ≤ 64) : n < sizeLine := small1000 (by omega)
theorem len2 {α β : Type} {f g : α → β} : ∀ l : List α, (l.flatMap fun m => [f m, g m]).length = 2 * l.length
  | [] => rfl
  | a :: r => by
    have ih := len2 (f := f) (g := g) r
    rw [List.flatMap_cons, List.length_append, ih]
    show 2 + 2 * r.length = 2 * (r.length + 1)
    omega
theorem ok_allMem {f : Addr} {fd : FuncData} {k : Nat} (F : FnP K "all_memories" sAllMem f fd) (n : Nm mg) : FnOk P w K mg base CX0 (k + 1) f fd ["span"] spAllMem := by
  refine F.ok0 scAM (fun vs H Q E h => ?_) (fun cdv A outer s H vs Q E hr h => ?_)
  · obtain ⟨v, rfl, _⟩ := h
    rfl
  · obtain ⟨v, rfl, h1, q⟩ := h
    have nd := scAM.nd
    refine ⟨_, pss_cons (ps_set (i := 1) nd rfl (.inl rfl) (pe_lst (pa_cons pe_str pa_nil)))
      (pss_cons (ps_for PassesOwn.never rfl (pi_range1 (by rfl) n.range (pa_cons (pv 0) pa_nil)) (pg_name (i := 2) nd rfl (.inl rfl))
        (pss_one (ps_setLc2 (i := 1) (own := [("memory", 3), ("sign", 4)]) (vs1 := [4]) (g := gName 3) (g1 := gName 4) (tt := tYes) (tt1 := tYes) rfl nd rfl rfl (sw_true rfl rfl rfl (by decide +kernel)) (pi_list (pv 1)) (blkOk_by (N := ["span", "found", "turn", "memory", "sign"]) (sc := defScope sAllMem) (by decide +kernel)) (by decide)
          (fun _ _ _ _ _ => pg_name (i := 3) nd rfl (.inl rfl)) (fun _ _ _ _ _ => pts_nil) (fun _ _ _ _ _ => pi_str pe_str) (fun _ _ _ _ _ => pg_name (i := 4) nd rfl (.inl rfl)) (fun _ _ _ _ _ => pts_nil)
          (fun _ _ _ _ _ => pe_op op_add_str (pv 3) (pv 4)))))
      (pss_one (ps_ret (pv 1)))), ?_⟩
    refine ⟨by show 1 ≤ sizeLine; decide, fun L0 n0 => ?_⟩
    refine ⟨_, rfl, (v : Int), rfl, by omega, by omega, for_range (lo := 0) (n := v) (fun i σ H' => ∃ L v2 v3 v4, σ = [some (nv v), some (.ref L), v2, v3, v4] ∧ Same H H' ∧ H L = none ∧ H' L = some (.lst ((allM i).map tv)))
      ⟨L0, none, none, none, rfl, same_upd n0, n0, upd_same⟩ (fun i σ H' hi hP => ?_) (fun σ H' hP => ?_)⟩
    · obtain ⟨L, v2, v3, v4, rfl, sm, nL, eL⟩ := hP
      refine ⟨.ref L, rfl, L, rfl, ⟨_, .inl (.inl eL)⟩, fun D nD => ?_⟩
      have nDL : L ≠ D := ne_of_none eL nD
      refine over_gen (xs := (allM i).map tv) (fun j H2 => Same H' H2 ∧ H2 D = some (.lst (((allM i).take j).flatMap fun m => [tv (m ++ [false]), tv (m ++ [true])]))) (over_list fun j H2 p => .inl (.inl (p.1 _ _ eL))) ⟨same_upd nD, upd_same⟩ (fun j x H2 hx p => ?_) (fun H2 p => ?_)
      · obtain ⟨m, hm, rfl⟩ := map_at hx
        obtain ⟨sm2, eD⟩ := p
        have hml : m.length = i := (mem_allM i m).mp (List.mem_of_getElem? hm)
        refine ⟨rfl, yesT ⟨("01" : Str), rfl, ?_⟩⟩
        refine over_gen (xs := [tv [false], tv [true]]) (fun c H3 => Same H' H3 ∧ H3 D = some (.lst ((((allM i).take j).flatMap fun m => [tv (m ++ [false]), tv (m ++ [true])]) ++ ([tv (m ++ [false]), tv (m ++ [true])].take c)))) (over_str signs01) ⟨sm2, by rw [List.take_zero, List.append_nil]; exact eD⟩ (fun c y H3 hy p3 => ?_) (fun H3 p3 => ?_)
        · obtain ⟨b, eb, hb⟩ : ∃ b : Bool, y = tv [b] ∧ [tv (m ++ [false]), tv (m ++ [true])][c]? = some (tv (m ++ [b])) := by
            match c, hy with
            | 0, hy => exact ⟨false, (Option.some.inj hy).symm, rfl⟩
            | 1, hy => exact ⟨true, (Option.some.inj hy).symm, rfl⟩
          obtain ⟨sm3, eD3⟩ := p3
          subst eb
          refine ⟨rfl, yesT ⟨_, rfl, _, rfl, tx m, tx [b], rfl, rfl, ?_, _, eD3, ?_, same_upd2 nD sm3, ?_⟩⟩
          · rw [tx_len, tx_len, hml]
            exact Nat.le_of_lt (small64' (by simp; omega))
          · rw [List.length_append, len2, List.length_take, List.length_take]
            have := pow_le (show i ≤ 6 by omega)
            rw [← allM_len (show i ≤ 6 by omega)] at this
            exact small1000 (by simp; omega)
          · rw [upd_same, tx_app, List.take_add_one, hb, List.append_assoc]
            rfl
        · obtain ⟨sm3, eD3⟩ := p3
          exact ⟨sm3, by rw [eD3, flat_take hm]; rfl⟩
      · obtain ⟨sm2, eD⟩ := p
        refine ⟨D, _, _, _, rfl, sm.trans sm2, sm.free nD, ?_⟩
        rw [eD, List.length_map, List.take_length]
        show _ = some (HO.lst (((allM i).flatMap fun m => [m ++ [false], m ++ [true]]).map tv))
        rw [List.map_flatMap]
        rfl
    · obtain ⟨L, v2, v3, v4, rfl, sm, nL, eL⟩ := hP
      exact ⟨.ref L, rfl, q L H' sm nL eL⟩
end
end K14

/-! ## K14D3 -/
namespace K14
open PySem PySem.Spec PyProof.Rows L2
section
variable {P : Program} {w : World} {K : PySem.W.Frag} {mg : Str → Option Value} {base : Heap}
theorem str_app_len (a b : Str) : (a ++ b).length = a.length + b.length := by
  show (a.cps ++ b.cps).size = a.cps.size + b.cps.size
  rw [Array.size_append]
theorem nat_lt {n : Nat} (h : n ≤ 1000) : n ≤ sizeLine := Nat.le_of_lt (small1000 h)
/-! ### way_from_all -/
def spWfa (d : Nat) : Sp := fun vs H Q _ => ∃ (s : Bool) (m : M), vs = [tv [s], tv m] ∧ m.length ≤ d ∧ m.length ≤ 6 ∧ ∀ z : Str, z.length = wfa s m → Q (.str z) H
theorem wfa_le : ∀ (s : Bool) (m : M), m.length ≤ 6 → wfa s m ≤ 30 := fun s m h => by
  have h1 : (upTo 6).all (fun m => [false, true].all fun s => Nat.ble (wfa s m) 30) = true := by decide +kernel
  exact Nat.le_of_ble_eq_true (List.all_eq_true.mp (List.all_eq_true.mp h1 m (mem_upTo 6 m h)) s (bool2 s))
theorem scWfa : FnScope ["sign", "memory", "letter", "other", "at"] ["sign", "memory"] (defScope sWfa) := ⟨rfl, rfl, rfl, by decide +kernel, rfl, by decide +kernel, by decide +kernel⟩
def ltr (s : Bool) : Str := if s then "d" else "u"
theorem ltr_ok (s : Bool) : ltr s = ⟨#[117]⟩ ∨ ltr s = ⟨#[100]⟩ := by
  cases s
  · left
    decide +kernel
  · right
    decide +kernel
theorem eq1 (s : Bool) : decide (tv [s] = V.str "1") = s := by cases s <;> decide +kernel
theorem ltr_if (s : Bool) : (if s = true then V.str "d" else V.str "u") = V.str (ltr s) := by cases s <;> rfl
theorem oth_if (s : Bool) : (if s = true then V.str "0" else V.str "1") = tv [!s] := by cases s <;> decide +kernel
theorem ifQ {s : Bool} {a b : V} {σ : L2.St} {H : Hp} {Q : V → Hp → Prop} (h : Q (if s = true then a else b) H) : if s = true then tC a σ H Q else tC b σ H Q := by
  cases s
  · exact iteF h
  · exact iteT h
theorem ok_wfa {f : Addr} {fd : FuncData} (F : FnP K "way_from_all" sWfa f fd) (n : Nm mg) (g : mg "way_from_all" = some (.ref f)) : ∀ d, FnOk P w K mg base CX0 (d + 1) f fd ["sign", "memory"] (spWfa d)
  | 0 => by
    refine F.ok0 scWfa (fun vs H Q E h => ?_) (fun cdv A outer s0 H vs Q E hr h => ?_)
    · obtain ⟨s, m, rfl, _⟩ := h
      rfl
    · obtain ⟨s, m, rfl, h1, h2, q⟩ := h
      have nd := scWfa.nd
      refine ⟨_, pss_cons (ps_set (i := 2) nd rfl (.inl rfl) (pe_ifExp (pt_cmpR op_eq (pv 0) pe_str (nomark _)) pe_str pe_str))
        (pss_cons (ps_set (i := 3) nd rfl (.inl rfl) (pe_ifExp (pt_cmpR op_eq (pv 0) pe_str (nomark _)) pe_str pe_str))
        (pss_cons (ps_set (i := 4) nd rfl (.inl rfl) (pe_m1 PySem.F.slot_str_find PySem.F.type_str_find mt_find (pv 1) (pv 3)))
        (pss_cons (ps_if (pt_cmpR op_lt (pv 4) pe_int (nomark _)) (pss_one (ps_ret pe_str)) pss_nil)
        (pss_one ps_never)))), ?_⟩
      have em : m = [] := List.eq_nil_of_length_eq_zero (by omega)
      subst em
      refine ⟨_, rfl, rfl, _, rfl, ?_⟩
      rw [eq1]
      refine ifQ ?_
      rw [ltr_if]
      refine ⟨_, rfl, rfl, _, rfl, ?_⟩
      rw [eq1]
      refine ifQ ?_
      rw [oth_if]
      refine ⟨_, rfl, ⟨_, rfl⟩, _, rfl, tx [], tx [!s], rfl, rfl, ?_⟩
      rw [find_tx (Nat.zero_le _)]
      refine ⟨_, rfl, _, _, rfl, rfl, _, rfl, iteT ?_⟩
      refine q _ ?_
      show ("" : Str).length = 0
      decide +kernel
  | d + 1 => by
    have IH := ok_wfa F n g d
    have b : Binds K fd ["sign", "memory"] [] := F.bindsN fun _ _ _ _ _ _ us hl => match us, hl with | [_, _], _ => rfl
    refine F.ok0 scWfa (fun vs H Q E h => ?_) (fun cdv A outer s0 H vs Q E hr h => ?_)
    · obtain ⟨s, m, rfl, _⟩ := h
      rfl
    · obtain ⟨s, m, rfl, h1, h2, q⟩ := h
      have nd := scWfa.nd
      refine ⟨_, pss_cons (ps_set (i := 2) nd rfl (.inl rfl) (pe_ifExp (pt_cmpR op_eq (pv 0) pe_str (nomark _)) pe_str pe_str))
        (pss_cons (ps_set (i := 3) nd rfl (.inl rfl) (pe_ifExp (pt_cmpR op_eq (pv 0) pe_str (nomark _)) pe_str pe_str))
        (pss_cons (ps_set (i := 4) nd rfl (.inl rfl) (pe_m1 PySem.F.slot_str_find PySem.F.type_str_find mt_find (pv 1) (pv 3)))
        (pss_cons (ps_if (pt_cmpR op_lt (pv 4) pe_int (nomark _)) (pss_one (ps_ret pe_str)) pss_nil)
        (pss_one (ps_ret (pe_op op_add_str (pe_op op_mul_str (pv 2) (pe_op op_sub (pe_callB call_len (by rfl) n.len boot_len (pa_cons (pv 1) pa_nil)) (pv 4)))
          (pe_call IH hr (by rfl) g F.kp b .nil pass0 (pa_cons (pv 3) (pa_cons (pe_slice sl_str (pv 1) (po_some (pe_op op_add (pv 4) pe_int)) po_none) pa_nil))))))))), ?_⟩
      refine ⟨_, rfl, rfl, _, rfl, ?_⟩
      rw [eq1]
      refine ifQ ?_
      rw [ltr_if]
      refine ⟨_, rfl, rfl, _, rfl, ?_⟩
      rw [eq1]
      refine ifQ ?_
      rw [oth_if]
      refine ⟨_, rfl, ⟨_, rfl⟩, _, rfl, tx m, tx [!s], rfl, rfl, ?_⟩
      rw [find_tx h2]
      by_cases hc : m.contains (!s) = true
      · rw [if_pos hc]
        have hi := idx_lt hc
        have hw := wfa_some hc
        refine ⟨_, rfl, _, _, rfl, rfl, _, rfl, ?_⟩
        rw [decide_eq_false (show ¬ ((idx (!s) m : Int) < 0) by omega)]
        refine iteF ?_
        have ez : (m.length : Int) - (idx (!s) m : Int) = ((m.length - idx (!s) m : Nat) : Int) := by omega
        have hmul := mul_ok (n := m.length - idx (!s) m) (by omega) (ltr_ok s)
        refine ⟨_, rfl, _, rfl, _, m.length, rfl, ⟨by rw [tx_len]; exact nat_lt (by omega), (tx_len m).symm⟩, _, rfl, _, _, rfl, rfl, ltr s, _, rfl, rfl, ?_, ?_⟩
        · rw [ez]
          exact hmul.1
        · rw [ez]
          refine ⟨_, rfl, _, rfl, _, rfl, _, 1, rfl, rfl, _, rfl, tx m, rfl, by rw [tx_len]; exact nat_lt (by omega), ?_⟩
          rw [show (idx (!s) m : Int) + 1 = ((idx (!s) m + 1 : Nat) : Int) by omega, cut_drop]
          refine ⟨!s, m.drop (idx (!s) m + 1), rfl, by rw [List.length_drop]; omega, by rw [List.length_drop]; omega, fun z hz => ?_⟩
          have hz2 := wfa_le (!s) (m.drop (idx (!s) m + 1)) (by rw [List.length_drop]; omega)
          refine ⟨_, _, rfl, rfl, by rw [hmul.2, hz]; exact nat_lt (by omega), q _ ?_⟩
          rw [str_app_len, hmul.2, hz, hw]
      · rw [if_neg hc]
        refine ⟨_, rfl, _, _, rfl, rfl, _, rfl, iteT ?_⟩
        refine q _ ?_
        rw [wfa_none (by simpa using hc)]
        decide +kernel
/-! ### way_of -/
def spWayOf : Sp := fun vs H Q _ => ∃ a b : M, vs = [tv a, tv b] ∧ b.length = a.length ∧ a.length ≤ 6 ∧ ∀ (z : Str) H', z.length = wl a b → Same H H' → Q (.str z) H'
theorem scWO : FnScope ["one", "other", "at", "sign", "letter", "old", "k"] ["one", "other"] (defScope sWayOf) := ⟨rfl, rfl, rfl, by decide +kernel, rfl, by decide +kernel, by decide +kernel⟩
theorem wl_bound : ∀ (a b : M), a.length ≤ 6 → b.length = a.length → wl a b ≤ 21 := fun a b h1 h2 => wl_le h1 h2
theorem atI_tx {m : M} {i : Nat} {b : Bool} (h : m[i]? = some b) : atI (tx m).cps.toList (i : Int) = some (sg b) := by
  refine atI_nat ?_
  rw [tx_list, List.getElem?_map, h]
  rfl
theorem atI_tx0 {m : M} {i : Nat} {b : Bool} (h : m[i]? = some b) : atI (tx m).cps.toList (0 + (i : Int)) = some (sg b) := by
  rw [Int.zero_add]
  exact atI_tx h
theorem tv_dec (a b : M) : decide (tv a = tv b) = decide (a = b) := by
  by_cases h : a = b
  · rw [h, decide_eq_true rfl, decide_eq_true rfl]
  · rw [decide_eq_false h, decide_eq_false fun e => h (tx_inj (V.str.inj e))]
theorem tupIf {s : Bool} {v1 v2 w1 w2 : V} {σ : L2.St} {H : Hp} {Q : V → Hp → Prop} (h : ∀ p, H p = none → Q (.ref p) (upd H p (.tup [if s = true then v1 else w1, if s = true then v2 else w2]))) :
    if s = true then tTup (tCons (tC v1) (tCons (tC v2) tNil)) σ H Q else tTup (tCons (tC w1) (tCons (tC w2) tNil)) σ H Q := by
  cases s
  · exact iteF ⟨by show 2 ≤ sizeLine; decide, h⟩
  · exact iteT ⟨by show 2 ≤ sizeLine; decide, h⟩
theorem lt_if (s : Bool) : (if s = true then V.str "u" else V.str "d") = V.str (ltr (!s)) := by cases s <;> rfl
theorem old_if (s : Bool) : (if s = true then V.str "0" else V.str "1") = tv [!s] := oth_if s
theorem ok_wayOf {f fW : Addr} {fd fdW : FuncData} (F : FnP K "way_of" sWayOf f fd) (n : Nm mg) (GW : FnOk P w K mg base CX0 7 fW fdW ["sign", "memory"] (spWfa 6)) (gW : mg "way_from_all" = some (.ref fW)) (kW : PySem.W.keepIn K (.ref fW) = true) (bW : Binds K fdW ["sign", "memory"] []) :
    FnOk P w K mg base CX0 8 f fd ["one", "other"] spWayOf := by
  refine F.ok0 scWO (fun vs H Q E h => ?_) (fun cdv A outer s0 H vs Q E hr h => ?_)
  · obtain ⟨a, b, rfl, _⟩ := h
    rfl
  · obtain ⟨a, b, rfl, hl, h6, q⟩ := h
    have nd := scWO.nd
    refine ⟨_, pss_cons (ps_if (pt_cmpR op_eq (pv 0) (pv 1) (nomark _)) (pss_one (ps_ret pe_str)) pss_nil)
      (pss_cons (ps_set (i := 2) nd rfl (.inl rfl) (pe_ix ix_list (pe_lc (own := [("k", 6)]) (g := gName 6) rfl nd (pi_range1 (by rfl) n.range (pa_cons (pe_callB call_len (by rfl) n.len boot_len (pa_cons (pv 0) pa_nil)) pa_nil))
          (blkOk_by (N := ["one", "other", "at", "sign", "letter", "old", "k"]) (sc := defScope sWayOf) (by decide +kernel)) (fun _ _ _ _ _ => pg_name (i := 6) nd rfl (.inl rfl))
          (fun _ _ _ _ _ => pts_one (pt_cmpR op_ne (pe_ix ix_str (pv 0) (pv 6) (fun _ _ => rfl)) (pe_ix ix_str (pv 1) (pv 6) (fun _ _ => rfl)) (nomark _))) (fun _ _ _ _ _ => pv 6)) pe_int (fun _ _ => rfl)))
      (pss_cons (ps_set (i := 3) nd rfl (.inl rfl) (pe_ix ix_str (pv 1) (pv 2) (fun _ _ => rfl)))
      (pss_cons (ps_asg (pe_ifExp (pt_cmpR op_eq (pv 3) pe_str (nomark _)) (pe_tup (pa_cons pe_str (pa_cons pe_str pa_nil))) (pe_tup (pa_cons pe_str (pa_cons pe_str pa_nil))))
        (pg_tup (by rfl) (pgs_cons (pg_name (i := 4) nd rfl (.inl rfl)) (pgs_cons (pg_name (i := 5) nd rfl (.inl rfl)) pgs_nil))))
      (pss_one (ps_ret (pe_op op_add_str (pe_op op_mul_str (pv 4) (pe_m1 PySem.F.slot_str_count PySem.F.type_str_count mt_count (pe_slice sl_str (pv 0) (po_some (pv 2)) po_none) (pv 5)))
        (pe_call GW hr (by rfl) gW kW bW .nil pass0 (pa_cons (pv 3) (pa_cons (pe_slice sl_str (pv 1) (po_some (pe_op op_add (pv 2) pe_int)) po_none) pa_nil))))))))), ?_⟩
    refine ⟨_, rfl, _, rfl, rfl, _, rfl, ?_⟩
    rw [tv_dec]
    by_cases hab : a = b
    · rw [decide_eq_true hab]
      refine iteT (q _ _ ?_ (Same.refl H))
      rw [hab, wl_self]
      decide +kernel
    · rw [decide_eq_false hab]
      refine iteF ?_
      obtain ⟨k, r, s, e1, e2, e3, e4, e5⟩ := wl_diff hl.symm hab
      refine ⟨_, rfl, _, a.length, rfl, ⟨by rw [tx_len]; exact nat_lt (by omega), (tx_len a).symm⟩, (a.length : Int), rfl, by omega, by omega, fun D nD => ?_⟩
      refine lc_range (lo := 0) (n := a.length) (fun i H' => Same H H' ∧ H' D = some (.lst (((List.range i).filter fun k => a[k]? != b[k]?).map nv))) ⟨same_upd nD, upd_same⟩ (fun i H' hi p => ?_) (fun H' p => ?_)
      · obtain ⟨sm, eD⟩ := p
        have ha : a[i]? = some a[i] := List.getElem?_eq_getElem hi
        have hb : b[i]? = some (b[i]'(by omega)) := List.getElem?_eq_getElem (by omega)
        have hd : (!decide ((V.str ⟨#[sg a[i]]⟩ : V) = V.str ⟨#[sg (b[i]'(by omega))]⟩)) = (a[i]? != b[i]?) := by
          rw [ha, hb]
          show (!decide (tv [a[i]] = tv [b[i]'(by omega)])) = _
          rw [tv_dec]
          cases a[i] <;> cases (b[i]'(by omega)) <;> decide
        refine ⟨rfl, _, rfl, _, rfl, tx a, _, _, rfl, rfl, by rw [tx_len]; exact nat_lt (by omega), atI_tx0 ha, _, rfl, _, rfl, tx b, _, _, rfl, rfl, by rw [tx_len]; exact nat_lt (by omega), atI_tx0 hb, rfl, _, rfl, ?_⟩
        rw [hd]
        by_cases hne : (a[i]? != b[i]?) = true
        · rw [hne]
          refine iteT ⟨_, rfl, _, eD, ?_, same_upd2 nD sm, ?_⟩
          · refine small1000 ?_
            rw [List.length_map]
            refine Nat.le_trans (List.length_filter_le _ _) ?_
            rw [List.length_range]
            omega
          · rw [upd_same, List.range_succ, List.filter_append, List.map_append, List.filter_cons_of_pos (p := fun k => a[k]? != b[k]?) hne, Int.zero_add]
            rfl
        · rw [Bool.not_eq_true] at hne
          rw [hne]
          refine iteF ⟨sm, ?_⟩
          rw [eD, List.range_succ, List.filter_append, List.filter_cons_of_neg (p := fun k => a[k]? != b[k]?) (by rw [hne]; exact Bool.false_ne_true)]
          simp
      · obtain ⟨sm, eD⟩ := p
        have eD2 : H' D = some (.lst ((diffs a b).map nv)) := eD
        rw [e1] at eD2
        refine ⟨D, _, 0, nv k, rfl, rfl, .inl (.inl eD2), atI_nat (j := 0) rfl, ?_⟩
        refine ⟨_, rfl, _, rfl, tx b, _, _, rfl, rfl, by rw [tx_len]; exact nat_lt (by omega), atI_tx e4, ?_⟩
        refine ⟨_, rfl, rfl, _, rfl, ?_⟩
        rw [show (V.str (⟨#[sg s]⟩ : Str)) = tv [s] from rfl, eq1]
        have hz2 := wfa_le s (b.drop (k + 1)) (by rw [List.length_drop]; omega)
        have hcl : (a.drop k).count (!s) ≤ 6 := Nat.le_trans List.count_le_length (by rw [List.length_drop]; omega)
        refine tupIf fun p np => ?_
        rw [lt_if, old_if]
        refine ⟨p, _, rfl, .inl (.inl upd_same), rfl, _, _, rfl, _, _, rfl, rfl, ?_⟩
        have hcl2 : (a.drop k).length ≤ 6 := by rw [List.length_drop]; omega
        have hmul := mul_ok (n := (a.drop k).count (!s)) (by omega) (ltr_ok (!s))
        refine ⟨_, rfl, _, rfl, _, rfl, _, rfl, tx a, rfl, by rw [tx_len]; exact nat_lt (by omega), ?_⟩
        rw [cut_drop]
        refine ⟨⟨_, rfl⟩, _, rfl, tx (a.drop k), tx [!s], rfl, rfl, ?_⟩
        rw [count_tx hcl2]
        refine ⟨ltr (!s), _, rfl, rfl, hmul.1, ?_⟩
        refine ⟨_, rfl, _, rfl, _, rfl, _, 1, rfl, rfl, _, rfl, tx b, rfl, by rw [tx_len]; exact nat_lt (by omega), ?_⟩
        rw [show (k : Int) + 1 = ((k + 1 : Nat) : Int) by omega, cut_drop]
        refine ⟨s, b.drop (k + 1), rfl, by rw [List.length_drop]; omega, by rw [List.length_drop]; omega, fun z hz => ?_⟩
        refine ⟨_, _, rfl, rfl, by rw [hmul.2, hz]; exact nat_lt (by omega), q _ _ ?_ (same_upd2 (sm.free np) sm)⟩
        rw [str_app_len, hmul.2, hz, e5]
end
end K14

/-! ## K14F -/
namespace K14
open PySem PySem.Spec PyProof.Rows L2
/-! ### rows: tuples of a number and memories -/
abbrev Row := Nat × List M
def rowV (r : Row) : List V := nv r.1 :: r.2.map tv
def rowD (r : Row) : PyData := .tuple (.int (r.1 : Int) :: r.2.map fun m => .str (tx m))
abbrev TupsG (φ : Row → List V) (H : Hp) (xs : List V) (rs : List Row) : Prop := Paired (fun (x : V) (r : Row) => ∃ t, x = .ref t ∧ H t = some (.tup (φ r))) xs rs
abbrev TupsAt (H : Hp) (xs : List V) (rs : List Row) : Prop := TupsG rowV H xs rs
theorem TupsAt.same {φ : Row → List V} {H H' : Hp} (s : Same H H') : ∀ {xs : List V} {rs : List Row}, TupsG φ H xs rs → TupsG φ H' xs rs
  | _, _, .nil => .nil
  | _, _, .cons ⟨t, e, h⟩ r => .cons ⟨t, e, s _ _ h⟩ (TupsAt.same s r)
theorem TupsAt.at {φ : Row → List V} {H : Hp} : ∀ {xs : List V} {rs : List Row} {i : Nat} {x : V}, TupsG φ H xs rs → xs[i]? = some x → ∃ t r, x = .ref t ∧ rs[i]? = some r ∧ H t = some (.tup (φ r))
  | _, _, i, _, .nil, h => by simp at h
  | _, _, 0, _, .cons ⟨t, e, h1⟩ r, h => by
    have e2 := Option.some.inj h
    exact ⟨t, _, e2 ▸ e, rfl, h1⟩
  | _, _, i + 1, _, .cons _ r, h => by
    obtain ⟨t, r', e, e2, h2⟩ := TupsAt.at (i := i) r h
    exact ⟨t, r', e, e2, h2⟩
theorem TupsAt.put {φ : Row → List V} {H : Hp} {D : Addr} {ys zs : List V} (hD : H D = some (.lst ys)) : ∀ {xs : List V} {rs : List Row}, TupsG φ H xs rs → TupsG φ (upd H D (.lst zs)) xs rs
  | _, _, .nil => .nil
  | _, _, .cons ⟨t, e, h⟩ r => .cons ⟨t, e, by rw [upd_ne (ne_of h hD (fun z => nomatch z))]; exact h⟩ (TupsAt.put hD r)
theorem TupsAt.len {φ : Row → List V} {H : Hp} {xs : List V} {rs : List Row} (h : TupsG φ H xs rs) : xs.length = rs.length := Paired.length h
/-- one more row -/
theorem TupsAt.push {φ : Row → List V} {H : Hp} {D t : Addr} {xs : List V} {rs : List Row} {r : Row} (hD : H D = some (.lst xs)) (nt : H t = none) (h : TupsG φ H xs rs) : TupsG φ (upd (upd H t (.tup (φ r))) D (.lst (xs ++ [.ref t]))) (xs ++ [.ref t]) (rs ++ [r]) := by
  have nDt : D ≠ t := ne_of_none hD nt
  have h1 : TupsG φ (upd H t (.tup (φ r))) xs rs := TupsAt.same (same_upd nt) h
  have hD1 : (upd H t (.tup (φ r))) D = some (.lst xs) := by
    rw [upd_ne nDt]
    exact hD
  have h2 : TupsG φ (upd (upd H t (.tup (φ r))) D (.lst (xs ++ [.ref t]))) xs rs := TupsAt.put hD1 h1
  exact Paired.snoc h2 ⟨t, rfl, by rw [upd_ne nDt.symm, upd_same]⟩
theorem flat_len {α β γ : Type} {g : α → β → γ} {ys : List β} : ∀ xs : List α, (xs.flatMap fun a => ys.map (g a)).length = xs.length * ys.length
  | [] => by simp
  | a :: r => by
    have ih := flat_len (g := g) (ys := ys) r
    rw [List.flatMap_cons, List.length_append, ih, List.length_map, List.length_cons, Nat.succ_mul, Nat.add_comm]
theorem nv_dec (a b : Nat) : decide (nv a = nv b) = (a == b) := by
  by_cases h : a = b
  · rw [h]
    simp
  · have h2 : ¬ nv a = nv b := fun e => h (Int.ofNat.inj (V.int.inj e))
    rw [decide_eq_false h2]
    exact (beq_eq_false_iff_ne.mpr h).symm
theorem dp_strs {K : PySem.W.Frag} {H : Hp} : ∀ ms : List M, DpAll K H (ms.map tv) (ms.map fun m => PyData.str (tx m))
  | [] => .nil
  | m :: r => .cons (.str _) (dp_strs r)
theorem dp_rows {K : PySem.W.Frag} {H : Hp} : ∀ {xs : List V} {rs : List Row}, TupsAt H xs rs → DpAll K H xs (rs.map rowD)
  | _, _, .nil => .nil
  | _, _, .cons ⟨t, e, h⟩ r => by
    subst e
    exact .cons (.tup (.inl (.inl h)) (.cons (.int _) (dp_strs _))) (dp_rows r)
theorem alike_strs : ∀ xs ys : List M, PySem.W.alikeAll (xs.map fun m => PyData.str (tx m)) (ys.map fun m => PyData.str (tx m)) = true
  | [], _ => by simp [PySem.W.alikeAll]
  | _ :: _, [] => by simp [PySem.W.alikeAll]
  | x :: xs, y :: ys => by
    have ih := alike_strs xs ys
    show PySem.W.alikeAll (PyData.str (tx x) :: xs.map fun m => PyData.str (tx m)) (PyData.str (tx y) :: ys.map fun m => PyData.str (tx m)) = true
    rw [PySem.W.alikeAll, ih]
    simp [PySem.W.alike]
theorem alike_row (r s : Row) : PySem.W.alike (rowD r) (rowD s) = true := by
  unfold rowD
  rw [PySem.W.alike, PySem.W.alikeAll, alike_strs]
  simp [PySem.W.alike]
theorem depth_strs : ∀ ms : List M, PyData.depthAll (ms.map fun m => PyData.str (tx m)) = 0
  | [] => by simp [PyData.depthAll]
  | m :: r => by
    have ih := depth_strs r
    show PyData.depthAll (PyData.str (tx m) :: r.map fun m => PyData.str (tx m)) = 0
    rw [PyData.depthAll, ih]
    simp [PyData.depth]
theorem depth_rows : ∀ rs : List Row, PyData.depthAll (rs.map rowD) ≤ 1
  | [] => by simp [PyData.depthAll]
  | r :: rs => by
    have ih := depth_rows rs
    show PyData.depthAll (rowD r :: rs.map rowD) ≤ 1
    rw [PyData.depthAll]
    have e : (rowD r).depth = 1 := by
      unfold rowD
      rw [PyData.depth, PyData.depthAll, depth_strs]
      simp [PyData.depth]
    rw [e]
    exact Nat.max_le.mpr ⟨Nat.le_refl _, ih⟩
theorem lt_row (r s : Row) : (PySem.W.dataLt (rowD r) (rowD s) = true → r.1 ≤ s.1) ∧ (PySem.W.dataLt (rowD r) (rowD s) = false → s.1 ≤ r.1) := by
  have e : PySem.W.dataLt (rowD r) (rowD s) = if PyData.eqv (.int (r.1 : Int)) (.int (s.1 : Int)) = true then PySem.W.rowLt (r.2.map fun m => PyData.str (tx m)) (s.2.map fun m => PyData.str (tx m)) else PySem.W.dataLt (.int (r.1 : Int)) (.int (s.1 : Int)) := by
    unfold rowD
    rw [PySem.W.dataLt_tuple, PySem.W.dataLt_cons (by simp [PySem.W.alike])]
    rfl
  rw [e, PySem.W.dataLt_int]
  simp only [PyData.eqv, beq_iff_eq]
  by_cases h : (r.1 : Int) = (s.1 : Int)
  · constructor <;> intro _ <;> omega
  · rw [if_neg h]
    constructor
    · intro h2
      have := of_decide_eq_true h2
      omega
    · intro h2
      have := of_decide_eq_false h2
      omega
theorem max_row : ∀ (rs : List Row) (r0 : Row), ∃ r ∈ r0 :: rs, PySem.W.maxD (rowD r0) (rs.map rowD) = rowD r ∧ ∀ y ∈ r0 :: rs, y.1 ≤ r.1
  | [], r0 => ⟨r0, List.mem_cons_self, rfl, fun y hy => by
    have e : y = r0 := by simpa using hy
    rw [e]
    exact Nat.le_refl _⟩
  | s :: rs, r0 => by
    have e : PySem.W.maxD (rowD r0) ((s :: rs).map rowD) = PySem.W.maxD (if PySem.W.dataLt (rowD r0) (rowD s) = true then rowD s else rowD r0) (rs.map rowD) := rfl
    rw [e]
    by_cases h : PySem.W.dataLt (rowD r0) (rowD s) = true
    · rw [if_pos h]
      obtain ⟨r, hr, e2, h2⟩ := max_row rs s
      refine ⟨r, List.mem_cons_of_mem _ hr, e2, fun y hy => ?_⟩
      rcases List.mem_cons.mp hy with z | z
      · rw [z]
        exact Nat.le_trans ((lt_row r0 s).1 h) (h2 s List.mem_cons_self)
      · exact h2 y z
    · rw [if_neg h]
      obtain ⟨r, hr, e2, h2⟩ := max_row rs r0
      refine ⟨r, ?_, e2, fun y hy => ?_⟩
      · rcases List.mem_cons.mp hr with z | z
        · rw [z]
          exact List.mem_cons_self
        · exact List.mem_cons_of_mem _ (List.mem_cons_of_mem _ z)
      · rcases List.mem_cons.mp hy with z | z
        · rw [z]
          exact h2 r0 List.mem_cons_self
        · rcases List.mem_cons.mp z with z | z
          · rw [z]
            exact Nat.le_trans ((lt_row r0 s).2 (by simpa using h)) (h2 r0 List.mem_cons_self)
          · exact h2 y (List.mem_cons_of_mem _ z)
/-- max of a list of rows -/
theorem max_rows {K : PySem.W.Frag} {H : Hp} {a : Addr} {xs : List V} {rs : List Row} {Q : VK} (hs : SqL K H a xs) (ht : TupsAt H xs rs) (hne : rs ≠ []) (h : ∀ t r, r ∈ rs → IsMax r.1 (rs.map (·.1)) → H t = some (.tup (rowV r)) → Q (.ref t) H) : rMaxT K [.ref a] H Q := by
  cases rs with
  | nil => exact absurd rfl hne
  | cons r0 rs =>
    refine ⟨a, xs, rowD r0, rs.map rowD, rfl, hs, dp_rows ht, ⟨fun x hx y hy => ?_, fun x hx => ?_⟩, Nat.le_trans (depth_rows (r0 :: rs)) (by decide), fun i v hv he => ?_⟩
    · obtain ⟨r, _, e1⟩ := List.mem_map.mp (show x ∈ (r0 :: rs).map rowD from hx)
      obtain ⟨s, _, e2⟩ := List.mem_map.mp (show y ∈ (r0 :: rs).map rowD from hy)
      rw [← e1, ← e2]
      exact alike_row r s
    · obtain ⟨r, _, e1⟩ := List.mem_map.mp (show x ∈ (r0 :: rs).map rowD from hx)
      rw [← e1]
      exact fun z => by cases z
    · obtain ⟨r, hr, e2, hmax⟩ := max_row rs r0
      obtain ⟨t, s, e3, e4, e5⟩ := TupsAt.at ht hv
      have he2 : ((r0 :: rs).map rowD)[i]? = some (rowD r) := by
        rw [← e2]
        exact he
      rw [List.getElem?_map, e4] at he2
      have e6 : rowD s = rowD r := Option.some.inj he2
      have e7 : s.1 = r.1 := by
        unfold rowD at e6
        injection e6 with e6
        injection e6 with e6 _
        injection e6 with e6
        exact Int.ofNat.inj e6
      have hs2 : s ∈ r0 :: rs := List.mem_of_getElem? e4
      rw [e3]
      refine h t s hs2 ⟨List.mem_map.mpr ⟨s, hs2, rfl⟩, fun y hy => ?_⟩ e5
      obtain ⟨z, hz, ez⟩ := List.mem_map.mp hy
      rw [← ez, e7]
      exact hmax z hz
/-- max of a list of numbers -/
theorem max_nats {K : PySem.W.Frag} {H : Hp} {a : Addr} {ns : List Nat} {Q : VK} (hs : SqL K H a (ns.map nv)) (hne : ns ≠ []) (h : ∀ m, IsMax m ns → Q (nv m) H) : rMax K [.ref a] H Q := by
  have e : ns.map nv = (ns.map fun n : Nat => (n : Int)).map V.int := by
    rw [List.map_map]
    rfl
  rw [e] at hs
  refine ⟨a, _, rfl, hs, ?_, fun m hm hall => ?_⟩
  · rw [List.length_map]
    exact List.length_pos_iff.mpr hne
  · obtain ⟨n, hn, en⟩ := List.mem_map.mp hm
    rw [← en]
    refine h n ⟨hn, fun y hy => ?_⟩
    have h2 := hall (y : Int) (List.mem_map.mpr ⟨y, hy, rfl⟩)
    rw [← en] at h2
    omega
end K14

/-! ## K14D4 -/
namespace K14
open PySem PySem.Spec PyProof.Rows L2
/-- a def by its name: it keeps a promise -/
structure Has (P : Program) (w : World) (K : PySem.W.Frag) (mg : Str → Option Value) (base : Heap) (x : Str) (k : Nat) (ps : List Str) (sp : Sp) : Prop where
  ex : ∃ f fd, FnOk P w K mg base CX0 k f fd ps sp ∧ mg x = some (.ref f) ∧ PySem.W.keepIn K (.ref f) = true ∧ Binds K fd ps []
def rLn (K : PySem.W.Frag) : List V → Hp → VK → Prop := fun xs H Q => ∃ x n, xs = [x] ∧ LenV K x H n ∧ Q (.int n) H
theorem call_ln {X : Cx} : CallR X (.builtin "len") (rLn X.K) := call_len
theorem boot_Max : bootBuiltins "max" = some (.builtin "max") := by decide +kernel
theorem boot_Tuple : bootBuiltins "tuple" = some (.type "tuple") := by decide +kernel
section
variable {P : Program} {w : World} {K : PySem.W.Frag} {mg : Str → Option Value} {base : Heap} {T : Addr}
/-! ### distance -/
def spDist (T : Addr) : Sp := fun vs H Q _ => ∃ a b : M, vs = [tv a, tv b] ∧ 1 ≤ a.length ∧ a.length ≤ 6 ∧ b.length = a.length ∧ GxR.TabG H T ∧ ∀ H', Ex T H H' → Q (nv (wl a b)) H'
theorem scDist : FnScope ["one", "other"] ["one", "other"] (defScope sDist) := ⟨rfl, rfl, rfl, by decide +kernel, rfl, by decide +kernel, by decide +kernel⟩
theorem ok_dist {f : Addr} {fd : FuncData} (F : FnP K "distance" sDist f fd) (n : Nm mg) (NP : Has P w K mg base "need_pair" 3 ["one", "other"] (spNeedPair T)) (WO : Has P w K mg base "way_of" 8 ["one", "other"] spWayOf) : FnOk P w K mg base CX0 9 f fd ["one", "other"] (spDist T) := by
  obtain ⟨f1, fd1, G1, g1, k1, b1⟩ := NP.ex
  obtain ⟨f2, fd2, G2, g2, k2, b2⟩ := WO.ex
  refine F.ok0 scDist (fun vs H Q E h => ?_) (fun cdv A outer s0 H vs Q E hr h => ?_)
  · obtain ⟨a, b, rfl, _⟩ := h
    rfl
  · obtain ⟨a, b, rfl, h1, h6, hl, hT, q⟩ := h
    refine ⟨_, pss_cons (ps_expr (pe_call G1 (hr.mono (by decide)) (by rfl) g1 k1 b1 .nil pass0 (pa_cons (pv 0) (pa_cons (pv 1) pa_nil))))
      (pss_one (ps_ret (pe_callB call_len (by rfl) n.len boot_len (pa_cons (pe_call G2 hr (by rfl) g2 k2 b2 .nil pass0 (pa_cons (pv 0) (pa_cons (pv 1) pa_nil))) pa_nil)))), ?_⟩
    refine ⟨_, rfl, _, rfl, a, b, rfl, h1, by omega, hl, hT, fun H1 x1 => ?_⟩
    refine ⟨_, rfl, _, rfl, a, b, rfl, hl, h6, fun z H2 hz s2 => ?_⟩
    refine ⟨_, wl a b, rfl, ⟨by rw [hz]; exact nat_lt (by have := wl_bound a b h6 hl; omega), hz.symm⟩, ?_⟩
    exact q H2 ((Ex.tab x1).thenSame s2)
/-! ### farthest -/
def dsOf (m : M) : List Nat := (allM m.length).map (wl m)
def spFar (T : Addr) : Sp := fun vs H Q _ => ∃ m : M, vs = [tv m] ∧ 1 ≤ m.length ∧ m.length ≤ 6 ∧ GxR.TabG H T ∧ ∀ p q most H', Ex T H H' → IsMax most (dsOf m) → H' p = some (.tup [nv most, .ref q]) → H' q = some (.tup (((allM m.length).filter fun o => wl m o == most).map tv)) → Q (.ref p) H'
theorem scFar : FnScope ["memory", "some", "most", "other", "steps"] ["memory"] (defScope sFar) := ⟨rfl, rfl, rfl, by decide +kernel, rfl, by decide +kernel, by decide +kernel⟩
theorem allM_ne {n : Nat} (h : n ≤ 6) : allM n ≠ [] := fun z => by
  have := allM_len h
  rw [z] at this
  have h2 : 0 < 2 ^ n := Nat.pow_pos (by decide)
  simp at this
  omega
theorem len_at {m : M} {j : Nat} {n : Nat} (h : (allM n)[j]? = some m) : m.length = n := (mem_allM n m).mp (List.mem_of_getElem? h)
theorem ok_far {f : Addr} {fd : FuncData} (F : FnP K "farthest" sFar f fd) (n : Nm mg) (NM : Has P w K mg base "need_memory" 2 ["memory"] (spNeedMem T)) (AM : Has P w K mg base "all_memories" 1 ["span"] spAllMem) (WO : Has P w K mg base "way_of" 8 ["one", "other"] spWayOf) :
    FnOk P w K mg base CX0 9 f fd ["memory"] (spFar T) := by
  obtain ⟨f1, fd1, G1, g1, k1, b1⟩ := NM.ex
  obtain ⟨f2, fd2, G2, g2, k2, b2⟩ := WO.ex
  obtain ⟨f3, fd3, G3, g3, k3, b3⟩ := AM.ex
  refine F.ok0 scFar (fun vs H Q E h => ?_) (fun cdv A outer s0 H vs Q E hr h => ?_)
  · obtain ⟨m, rfl, _⟩ := h
    rfl
  · obtain ⟨m, rfl, h1, h6, hT, q⟩ := h
    have nd := scFar.nd
    have hu := hr.units
    refine ⟨_, pss_cons (ps_expr (pe_call G1 (hr.mono (by decide)) (by rfl) g1 k1 b1 .nil pass0 (pa_cons (pv 0) pa_nil)))
      (pss_cons (ps_setLc (i := 1) (own := [("other", 3)]) (g := gName 3) (tt := tYes) (te := tTup (tCons (tCB (rLn K) (tCons (tCall spWayOf [] E0 (tCons (tVar 0) (tCons (tVar 3) tNil))) tNil)) (tCons (tVar 3) tNil))) rfl nd rfl rfl (sw_true rfl rfl rfl (by decide +kernel)) (pi_list (pe_call G3 (hr.mono (by decide)) (by rfl) g3 k3 b3 .nil pass0 (pa_cons (pe_callB call_len (by rfl) n.len boot_len (pa_cons (pv 0) pa_nil)) pa_nil)))
          (blkOk_by (N := ["memory", "some", "most", "other", "steps"]) (sc := defScope sFar) (by decide +kernel)) (fun _ _ _ _ _ => pg_name (i := 3) nd rfl (.inl rfl)) (fun _ _ _ _ _ => pts_nil)
          (fun _ _ _ _ _ => pe_tup (pa_cons (pe_callB call_ln (by rfl) n.len boot_len (pa_cons (pe_call G2 hr (by rfl) g2 k2 b2 .nil pass0 (pa_cons (pv 0) (pa_cons (pv 3) pa_nil))) pa_nil)) (pa_cons (pv 3) pa_nil))))
      (pss_cons (ps_set (i := 2) nd rfl (.inr rfl) (pe_ix ix_tup (pe_callB (cr_maxT rfl hu) (by rfl) n.max boot_Max (pa_cons (pv 1) pa_nil)) pe_int (fun _ _ => rfl)))
      (pss_one (ps_ret (pe_tup (pa_cons (pv 2) (pa_cons (pe_callTy call_tuple_of (by rfl) n.tuple boot_Tuple (pa_cons
          (pe_lc (own := [("steps", 4), ("other", 3)]) (g := gTup K 2 (gCons (gName 4) (gCons (gName 3) gNil))) rfl nd (pi_list (pv 1)) (blkOk_by (N := ["memory", "some", "most", "other", "steps"]) (sc := defScope sFar) (by decide +kernel))
            (fun _ _ _ _ _ => pg_tup (by rfl) (pgs_cons (pg_name (i := 4) nd rfl (.inl rfl)) (pgs_cons (pg_name (i := 3) nd rfl (.inl rfl)) pgs_nil)))
            (fun _ _ _ _ _ => pts_one (pt_cmpR op_eq (pv 4) (pv 2) (nomark _))) (fun _ _ _ _ _ => pv 3)) pa_nil)) pa_nil))))))), ?_⟩
    refine ⟨_, rfl, m, rfl, h1, by omega, hT, fun H1 x1 => ?_⟩
    refine ⟨_, rfl, _, m.length, rfl, ⟨by rw [tx_len]; exact nat_lt (by omega), (tx_len m).symm⟩, m.length, rfl, h6, fun L H2 s2 nL eL => ?_⟩
    refine ⟨L, rfl, ⟨_, .inl (.inl eL)⟩, fun D nD => ?_⟩
    have nDL : L ≠ D := ne_of_none eL nD
    refine over_gen (xs := (allM m.length).map tv) (fun j H3 => Same H2 H3 ∧ ∃ xs, H3 D = some (.lst xs) ∧ TupsAt H3 xs (((allM m.length).take j).map fun o => (wl m o, [o]))) (over_list fun j H3 p => .inl (.inl (p.1 _ _ eL))) ⟨same_upd nD, [], upd_same, .nil⟩ (fun j x H3 hx p => ?_) (fun H3 p => ?_)
    · obtain ⟨o, ho, rfl⟩ := map_at hx
      obtain ⟨s3, xs, eD, ht⟩ := p
      have hol := len_at ho
      refine ⟨rfl, yesT ⟨_, rfl, _, rfl, m, o, rfl, hol, h6, fun z H4 hz s4 => ?_⟩⟩
      refine ⟨_, wl m o, rfl, ⟨by rw [hz]; exact nat_lt (by have := wl_bound m o h6 hol; omega), hz.symm⟩, _, rfl, by show 2 ≤ sizeLine; decide, fun t nt => ?_⟩
      have eD4 : H4 D = some (.lst xs) := s4 _ _ eD
      have ntD : D ≠ t := ne_of_none eD4 nt
      refine ⟨xs, by rw [upd_ne ntD]; exact eD4, ?_, same_upd2 nD (same_upd2 (s3.trans s4 |>.free nt) (s3.trans s4)), _, upd_same, ?_⟩
      · rw [TupsAt.len ht]
        exact small64' (Nat.le_trans tk_len (Nat.le_trans (Nat.le_of_eq (allM_len h6)) (pow_le h6)))
      · rw [take_snoc ho]
        exact TupsAt.push (φ := rowV) (r := (wl m o, [o])) eD4 nt (TupsAt.same s4 ht)
    · obtain ⟨s3, xs, eD, ht⟩ := p
      rw [List.length_map, List.take_length] at ht
      have efst : ((allM m.length).map fun o => (wl m o, [o])).map (·.1) = dsOf m := by
        rw [List.map_map]
        rfl
      refine ⟨_, rfl, tnil_ok ?_⟩
      refine max_rows (K := K) (.inl (.inl eD)) ht (fun z => allM_ne h6 (List.map_eq_nil_iff.mp z)) fun t r hr hm et => ?_
      rw [efst] at hm
      refine ⟨t, rowV r, 0, nv r.1, rfl, rfl, .inl (.inl et), atI_nat (j := 0) rfl, ?_⟩
      refine ⟨_, rfl, _, rfl, D, rfl, ⟨_, .inl (.inl eD)⟩, fun D2 nD2 => ?_⟩
      refine over_gen (xs := xs) (fun j H5 => Same H3 H5 ∧ H5 D2 = some (.lst ((((allM m.length).take j).filter fun o => wl m o == r.1).map tv))) (over_list fun j H5 p => .inl (.inl (p.1 _ _ eD))) ⟨same_upd nD2, upd_same⟩ (fun j x H5 hx p => ?_) (fun H5 p => ?_)
      · obtain ⟨s5, eD2⟩ := p
        obtain ⟨t', r', rfl, hr', et'⟩ := TupsAt.at ht hx
        obtain ⟨o, ho, rfl⟩ := map_at hr'
        refine ⟨t', _, rfl, .inl (.inl (s5 _ _ et')), rfl, _, _, rfl, _, _, rfl, rfl, rfl, ?_⟩
        refine ⟨_, rfl, _, rfl, rfl, _, rfl, ?_⟩
        rw [nv_dec]
        by_cases he : (wl m o == r.1) = true
        · rw [he]
          refine iteT ⟨_, rfl, _, eD2, ?_, same_upd2 nD2 s5, ?_⟩
          · refine small64' (Nat.le_trans ?_ (Nat.le_trans (Nat.le_of_eq (allM_len h6)) (pow_le h6)))
            rw [List.length_map]
            refine Nat.le_trans (List.length_filter_le _ _) ?_
            rw [List.length_take]
            exact Nat.min_le_right _ _
          · rw [upd_same, filter_take ho, if_pos he]
        · rw [Bool.not_eq_true] at he
          rw [he]
          refine iteF ⟨s5, ?_⟩
          rw [eD2, filter_take ho, if_neg (by rw [he]; exact Bool.false_ne_true), List.append_nil]
      · obtain ⟨s5, eD2⟩ := p
        have hxl : xs.length = (allM m.length).length := by rw [TupsAt.len ht, List.length_map]
        rw [hxl, List.take_length] at eD2
        refine ⟨D2, _, rfl, .inl ⟨.inl (.inl eD2), fun l nl => ⟨by show 2 ≤ sizeLine; decide, fun p np => ?_⟩⟩⟩
        have sAll : Same H1 H5 := s2.trans (s3.trans s5)
        have nlp : l ≠ p := ne_of_none upd_same np
        have sl : Same H5 (upd (upd H5 l (.tup (((allM m.length).filter fun o => wl m o == r.1).map tv))) p (.tup [nv r.1, .ref l])) := same_upd2 ((same_upd nl).free np) (same_upd nl)
        refine q p l r.1 _ ((Ex.tab x1).thenSame (sAll.trans sl)) hm upd_same ?_
        rw [upd_ne nlp, upd_same]
/-! ### sphere_counts -/
def spSphere (T : Addr) : Sp := fun vs H Q _ => ∃ m : M, vs = [tv m] ∧ 1 ≤ m.length ∧ m.length ≤ 6 ∧ GxR.TabG H T ∧ ∀ p most H', Ex T H H' → IsMax most (dsOf m) → H' p = some (.tup ((List.range (most + 1)).map fun k => nv ((dsOf m).count k))) → Q (.ref p) H'
theorem scSph : FnScope ["memory", "some", "other", "steps"] ["memory"] (defScope sSphere) := ⟨rfl, rfl, rfl, by decide +kernel, rfl, by decide +kernel, by decide +kernel⟩
theorem boot_Range : bootBuiltins "range" = some (.type "range") := by decide +kernel
theorem max_le {m : M} {most : Nat} (h6 : m.length ≤ 6) (h : IsMax most (dsOf m)) : most ≤ 21 := by
  obtain ⟨o, ho, e⟩ := List.mem_map.mp h.1
  rw [← e]
  exact wl_le h6 ((mem_allM _ _).mp ho)
theorem count_nv (l : List Nat) (k : Nat) : (l.map fun n : Nat => (n : Int)).count (k : Int) = l.count k := by
  induction l with
  | nil => rfl
  | cons a r ih =>
    rw [List.map_cons, List.count_cons, List.count_cons, ih]
    congr 1
    by_cases h : a = k
    · rw [h]
      simp
    · have h2 : ¬ (a : Int) = (k : Int) := fun z => h (Int.ofNat.inj z)
      rw [if_neg (by simpa using h2), if_neg (by simpa using h)]
theorem ok_sphere {f : Addr} {fd : FuncData} (F : FnP K "sphere_counts" sSphere f fd) (n : Nm mg) (NM : Has P w K mg base "need_memory" 2 ["memory"] (spNeedMem T)) (AM : Has P w K mg base "all_memories" 1 ["span"] spAllMem) (WO : Has P w K mg base "way_of" 8 ["one", "other"] spWayOf) :
    FnOk P w K mg base CX0 9 f fd ["memory"] (spSphere T) := by
  obtain ⟨f1, fd1, G1, g1, k1, b1⟩ := NM.ex
  obtain ⟨f2, fd2, G2, g2, k2, b2⟩ := WO.ex
  obtain ⟨f3, fd3, G3, g3, k3, b3⟩ := AM.ex
  refine F.ok0 scSph (fun vs H Q E h => ?_) (fun cdv A outer s0 H vs Q E hr h => ?_)
  · obtain ⟨m, rfl, _⟩ := h
    rfl
  · obtain ⟨m, rfl, h1, h6, hT, q⟩ := h
    have nd := scSph.nd
    have hu := hr.units
    refine ⟨_, pss_cons (ps_expr (pe_call G1 (hr.mono (by decide)) (by rfl) g1 k1 b1 .nil pass0 (pa_cons (pv 0) pa_nil)))
      (pss_cons (ps_set (i := 1) nd rfl (.inr rfl) (pe_lc (own := [("other", 2)]) (g := gName 2) (tt := tYes) (te := tCB (rLn K) (tCons (tCall spWayOf [] E0 (tCons (tVar 0) (tCons (tVar 2) tNil))) tNil)) rfl nd
          (pi_list (pe_call G3 (hr.mono (by decide)) (by rfl) g3 k3 b3 .nil pass0 (pa_cons (pe_callB call_len (by rfl) n.len boot_len (pa_cons (pv 0) pa_nil)) pa_nil)))
          (blkOk_by (N := ["memory", "some", "other", "steps"]) (sc := defScope sSphere) (by decide +kernel)) (fun _ _ _ _ _ => pg_name (i := 2) nd rfl (.inl rfl)) (fun _ _ _ _ _ => pts_nil)
          (fun _ _ _ _ _ => pe_callB call_ln (by rfl) n.len boot_len (pa_cons (pe_call G2 hr (by rfl) g2 k2 b2 .nil pass0 (pa_cons (pv 0) (pa_cons (pv 2) pa_nil))) pa_nil))))
      (pss_one (ps_ret (pe_callTy call_tuple_of (by rfl) n.tuple boot_Tuple (pa_cons
          (pe_lc (own := [("steps", 3)]) (g := gName 3) (tt := tYes) (te := tBM K "list" (rCntI K) (tVar 1) (tCons (tVar 3) tNil)) rfl nd (pi_range1 (by rfl) n.range (pa_cons (pe_op op_add (pe_callB (cr_max rfl) (by rfl) n.max boot_Max (pa_cons (pv 1) pa_nil)) pe_int) pa_nil))
            (blkOk_by (N := ["memory", "some", "other", "steps"]) (sc := defScope sSphere) (by decide +kernel)) (fun _ _ _ _ _ => pg_name (i := 3) nd rfl (.inl rfl)) (fun _ _ _ _ _ => pts_nil)
            (fun _ _ _ _ _ => pe_bm PySem.F.plainAttrs_list PySem.F.slot_list_count PySem.F.type_list_count mt_lcount (pv 1) (pa_cons (pv 3) pa_nil))) pa_nil))))), ?_⟩
    refine ⟨_, rfl, m, rfl, h1, by omega, hT, fun H1 x1 => ?_⟩
    refine ⟨_, rfl, _, m.length, rfl, ⟨by rw [tx_len]; exact nat_lt (by omega), (tx_len m).symm⟩, m.length, rfl, h6, fun L H2 s2 nL eL => ?_⟩
    refine ⟨L, rfl, ⟨_, .inl (.inl eL)⟩, fun D nD => ?_⟩
    have nDL : L ≠ D := ne_of_none eL nD
    refine over_gen (xs := (allM m.length).map tv) (fun j H3 => Same H2 H3 ∧ H3 D = some (.lst (((allM m.length).take j).map fun o => nv (wl m o)))) (over_list fun j H3 p => .inl (.inl (p.1 _ _ eL))) ⟨same_upd nD, upd_same⟩ (fun j x H3 hx p => ?_) (fun H3 p => ?_)
    · obtain ⟨o, ho, rfl⟩ := map_at hx
      obtain ⟨s3, eD⟩ := p
      have hol := len_at ho
      refine ⟨rfl, yesT ⟨_, rfl, _, rfl, m, o, rfl, hol, h6, fun z H4 hz s4 => ?_⟩⟩
      refine ⟨_, wl m o, rfl, ⟨by rw [hz]; exact nat_lt (by have := wl_bound m o h6 hol; omega), hz.symm⟩, _, s4 _ _ eD, ?_, same_upd2 nD (s3.trans s4), ?_⟩
      · exact small64' (Nat.le_trans tk_len (Nat.le_trans (Nat.le_of_eq (allM_len h6)) (pow_le h6)))
      · rw [take_snoc ho, upd_same]
    · obtain ⟨s3, eD⟩ := p
      rw [List.length_map, List.take_length] at eD
      have eD1 : H3 D = some (.lst ((dsOf m).map nv)) := by
        rw [eD]
        unfold dsOf
        rw [List.map_map]
        rfl
      refine ⟨_, rfl, tnil_ok ?_⟩
      refine max_nats (K := K) (.inl (.inl eD1)) (fun z => allM_ne h6 (List.map_eq_nil_iff.mp z)) fun most hm => ?_
      have hml := max_le h6 hm
      refine ⟨_, _, rfl, rfl, _, rfl, by omega, by omega, fun D2 nD2 => ?_⟩
      refine lc_range (lo := 0) (n := most + 1) (fun i H5 => Same H3 H5 ∧ H5 D2 = some (.lst ((List.range i).map fun k => nv ((dsOf m).count k)))) ⟨same_upd nD2, upd_same⟩ (fun i H5 hi p => ?_) (fun H5 p => ?_)
      · obtain ⟨s5, eD2⟩ := p
        have eD5 : SqL K H5 D (((dsOf m).map fun n : Nat => (n : Int)).map V.int) := by
          rw [List.map_map]
          exact .inl (.inl (s5 _ _ eD1))
        refine ⟨rfl, yesT ⟨_, rfl, .inl ⟨rfl, _, eD5⟩, _, rfl, D, _, _, rfl, rfl, eD5, _, eD2, ?_, same_upd2 nD2 s5, ?_⟩⟩
        · rw [List.length_map, List.length_range]
          exact small1000 (by omega)
        · rw [upd_same, List.range_succ, List.map_append, Int.zero_add, count_nv]
          rfl
      · obtain ⟨s5, eD2⟩ := p
        refine ⟨D2, _, rfl, .inl ⟨.inl (.inl eD2), fun l nl => ?_⟩⟩
        have sAll : Same H1 H5 := s2.trans (s3.trans s5)
        exact q l most _ ((Ex.tab x1).thenSame (sAll.trans (same_upd nl))) hm upd_same
/-! ### diameter -/
def rowsOf (n : Nat) : List Row := (allM n).flatMap fun a => (allM n).map fun b => (wl a b, [a, b])
def spDiam : Sp := fun vs H Q _ => ∃ n : Nat, vs = [nv n] ∧ 1 ≤ n ∧ n ≤ 4 ∧ ∀ p q most H' (xs : List V), Same H H' → IsMax most ((rowsOf n).map (·.1)) → H' p = some (.tup [nv most, .ref q]) → H' q = some (.tup xs) →
  Paired (fun (x : V) (r : Row) => ∃ t, x = .ref t ∧ H' t = some (.tup (r.2.map tv))) xs ((rowsOf n).filter fun r => r.1 == most) → Q (.ref p) H'
theorem scDiam : FnScope ["span", "some", "found", "most", "one", "other", "steps"] ["span"] (defScope sDiam) := ⟨rfl, rfl, rfl, by decide +kernel, rfl, by decide +kernel, by decide +kernel⟩
theorem rows_ne {n : Nat} (h : n ≤ 6) : rowsOf n ≠ [] := fun z => by
  have h1 : (rowsOf n).length = (allM n).length * (allM n).length := flat_len _
  have h2 : 0 < (allM n).length := List.length_pos_iff.mpr (allM_ne h)
  have h3 := Nat.mul_pos h2 h2
  rw [z] at h1
  rw [← h1] at h3
  exact absurd h3 (by simp)
theorem rows_len {n : Nat} (h : n ≤ 4) : (rowsOf n).length ≤ 256 := by
  have h1 : (List.range 5).all (fun n => Nat.ble (rowsOf n).length 256) = true := by decide +kernel
  exact Nat.le_of_ble_eq_true (List.all_eq_true.mp h1 n (List.mem_range.mpr (by omega)))
theorem ok_diam {f : Addr} {fd : FuncData} (F : FnP K "diameter" sDiam f fd) (n : Nm mg) (NS : Has P w K mg base "need_span" 2 ["span"] spNeedSpan) (AM : Has P w K mg base "all_memories" 1 ["span"] spAllMem) (WO : Has P w K mg base "way_of" 8 ["one", "other"] spWayOf) :
    FnOk P w K mg base CX0 9 f fd ["span"] spDiam := by
  obtain ⟨f1, fd1, G1, g1, k1, b1⟩ := NS.ex
  obtain ⟨f2, fd2, G2, g2, k2, b2⟩ := WO.ex
  obtain ⟨f3, fd3, G3, g3, k3, b3⟩ := AM.ex
  refine F.ok0 scDiam (fun vs H Q E h => ?_) (fun cdv A outer s0 H vs Q E hr h => ?_)
  · obtain ⟨m, rfl, _⟩ := h
    rfl
  · obtain ⟨v, rfl, h1, h4, q⟩ := h
    have nd := scDiam.nd
    have hu := hr.units
    obtain ⟨t, md⟩ := n.md
    refine ⟨_, pss_cons (ps_expr (pe_call G1 (hr.mono (by decide)) (by rfl) g1 k1 b1 .nil pass0 (pa_cons (pv 0) pa_nil)))
      (pss_cons (ps_if (pt_cmpR op_gt (pv 0) (pe_glob (v := .int 6) (by rfl) md ⟨t, rfl⟩) (nomark _)) (pss_one ps_never) pss_nil)
      (pss_cons (ps_set (i := 1) nd rfl (.inr rfl) (pe_call G3 (hr.mono (by decide)) (by rfl) g3 k3 b3 .nil pass0 (pa_cons (pv 0) pa_nil)))
      (pss_cons (ps_setLc2 (i := 2) (own := [("one", 4), ("other", 5)]) (vs1 := [5]) (g := gName 4) (g1 := gName 5) (tt := tYes) (tt1 := tYes) (wi1 := iList K (tVar 1))
          (te := tTup (tCons (tCB (rLn K) (tCons (tCall spWayOf [] E0 (tCons (tVar 4) (tCons (tVar 5) tNil))) tNil)) (tCons (tVar 4) (tCons (tVar 5) tNil)))) rfl nd rfl rfl (sw_true rfl rfl rfl (by decide +kernel)) (pi_list (pv 1))
          (blkOk_by (N := ["span", "some", "found", "most", "one", "other", "steps"]) (sc := defScope sDiam) (by decide +kernel)) (by decide)
          (fun _ _ _ _ _ => pg_name (i := 4) nd rfl (.inl rfl)) (fun _ _ _ _ _ => pts_nil) (fun _ _ _ _ _ => pi_list (pv 1)) (fun _ _ _ _ _ => pg_name (i := 5) nd rfl (.inl rfl)) (fun _ _ _ _ _ => pts_nil)
          (fun _ _ _ _ _ => pe_tup (pa_cons (pe_callB call_ln (by rfl) n.len boot_len (pa_cons (pe_call G2 hr (by rfl) g2 k2 b2 .nil pass0 (pa_cons (pv 4) (pa_cons (pv 5) pa_nil))) pa_nil)) (pa_cons (pv 4) (pa_cons (pv 5) pa_nil)))))
      (pss_cons (ps_set (i := 3) nd rfl (.inr rfl) (pe_ix ix_tup (pe_callB (cr_maxT rfl hu) (by rfl) n.max boot_Max (pa_cons (pv 2) pa_nil)) pe_int (fun _ _ => rfl)))
      (pss_one (ps_ret (pe_tup (pa_cons (pv 3) (pa_cons (pe_callTy call_tuple_of (by rfl) n.tuple boot_Tuple (pa_cons
          (pe_lc (own := [("steps", 6), ("one", 4), ("other", 5)]) (g := gTup K 3 (gCons (gName 6) (gCons (gName 4) (gCons (gName 5) gNil)))) rfl nd (pi_list (pv 2)) (blkOk_by (N := ["span", "some", "found", "most", "one", "other", "steps"]) (sc := defScope sDiam) (by decide +kernel))
            (fun _ _ _ _ _ => pg_tup (by rfl) (pgs_cons (pg_name (i := 6) nd rfl (.inl rfl)) (pgs_cons (pg_name (i := 4) nd rfl (.inl rfl)) (pgs_cons (pg_name (i := 5) nd rfl (.inl rfl)) pgs_nil))))
            (fun _ _ _ _ _ => pts_one (pt_cmpR op_eq (pv 6) (pv 3) (nomark _))) (fun _ _ _ _ _ => pe_tup (pa_cons (pv 4) (pa_cons (pv 5) pa_nil)))) pa_nil)) pa_nil))))))))), ?_⟩
    refine ⟨_, rfl, v, rfl, h1, by omega, ?_⟩
    refine ⟨_, rfl, v, 6, rfl, rfl, _, rfl, ?_⟩
    rw [decide_eq_false (show ¬ ((6 : Int) < (v : Int)) by omega)]
    refine iteF ?_
    refine ⟨_, rfl, v, rfl, by omega, fun L H1 s1 nL eL => ?_⟩
    refine ⟨_, rfl, L, rfl, ⟨_, .inl (.inl eL)⟩, fun D nD => ?_⟩
    have h16 : (allM v).length ≤ 16 := by
      rw [allM_len (by omega)]
      exact Nat.pow_le_pow_right (by decide) h4
    refine over_gen (xs := (allM v).map tv) (fun j H2 => Same H1 H2 ∧ ∃ xs, H2 D = some (.lst xs) ∧ TupsAt H2 xs (((allM v).take j).flatMap fun a => (allM v).map fun b => (wl a b, [a, b]))) (over_list fun j H2 p => .inl (.inl (p.1 _ _ eL))) ⟨same_upd nD, [], upd_same, .nil⟩ (fun j x H2 hx p => ?_) (fun H2 p => ?_)
    · obtain ⟨a, ha, rfl⟩ := map_at hx
      obtain ⟨s2, xs, eD, ht⟩ := p
      have hal := len_at ha
      refine ⟨rfl, yesT ⟨_, rfl, L, rfl, ⟨_, .inl (.inl (s2 _ _ eL))⟩, ?_⟩⟩
      refine over_gen (xs := (allM v).map tv) (fun c H3 => Same H1 H3 ∧ ∃ xs, H3 D = some (.lst xs) ∧ TupsAt H3 xs ((((allM v).take j).flatMap fun a => (allM v).map fun b => (wl a b, [a, b])) ++ ((allM v).take c).map fun b => (wl a b, [a, b]))) (over_list fun j H3 p => .inl (.inl (p.1 _ _ eL)))
        ⟨s2, xs, eD, by rw [List.take_zero, List.map_nil, List.append_nil]; exact ht⟩ (fun c y H3 hy p3 => ?_) (fun H3 p3 => ?_)
      · obtain ⟨b, hb, rfl⟩ := map_at hy
        obtain ⟨s3, ys, eD3, ht3⟩ := p3
        have hbl := len_at hb
        refine ⟨rfl, yesT ⟨_, rfl, _, rfl, a, b, rfl, by rw [hal, hbl], by omega, fun z H4 hz s4 => ?_⟩⟩
        refine ⟨_, wl a b, rfl, ⟨by rw [hz]; exact nat_lt (by have := wl_bound a b (by omega) (by rw [hal, hbl]); omega), hz.symm⟩, _, rfl, _, rfl, by show 3 ≤ sizeLine; decide, fun t nt => ?_⟩
        have eD4 : H4 D = some (.lst ys) := s4 _ _ eD3
        have ntD : D ≠ t := ne_of_none eD4 nt
        refine ⟨ys, by rw [upd_ne ntD]; exact eD4, ?_, same_upd2 nD (same_upd2 ((s3.trans s4).free nt) (s3.trans s4)), _, upd_same, ?_⟩
        · rw [TupsAt.len ht3, List.length_append, flat_len, List.length_map, List.length_take, List.length_take]
          refine small1000 ?_
          have e1 : min j (allM v).length * (allM v).length ≤ 16 * 16 := Nat.mul_le_mul (Nat.le_trans (Nat.min_le_right _ _) h16) h16
          have e2 : min c (allM v).length ≤ 16 := Nat.le_trans (Nat.min_le_right _ _) h16
          omega
        · rw [take_snoc hb, ← List.append_assoc]
          exact TupsAt.push (φ := rowV) (r := (wl a b, [a, b])) eD4 nt (TupsAt.same s4 ht3)
      · obtain ⟨s3, ys, eD3, ht3⟩ := p3
        rw [List.length_map, List.take_length] at ht3
        exact ⟨s3, ys, eD3, by rw [flat_take ha]; exact ht3⟩
    · obtain ⟨s2, xs, eD, ht⟩ := p
      rw [List.length_map, List.take_length] at ht
      have hne := rows_ne (show v ≤ 6 by omega)
      refine ⟨_, rfl, tnil_ok ?_⟩
      refine max_rows (K := K) (rs := rowsOf v) (.inl (.inl eD)) ht hne fun t r hr hm et => ?_
      refine ⟨t, rowV r, 0, nv r.1, rfl, rfl, .inl (.inl et), atI_nat (j := 0) rfl, ?_⟩
      refine ⟨_, rfl, _, rfl, D, rfl, ⟨_, .inl (.inl eD)⟩, fun D2 nD2 => ?_⟩
      refine over_gen (xs := xs) (fun j H5 => Same H2 H5 ∧ ∃ ys, H5 D2 = some (.lst ys) ∧ TupsG (fun r => r.2.map tv) H5 ys (((rowsOf v).take j).filter fun s => s.1 == r.1)) (over_list fun j H5 p => .inl (.inl (p.1 _ _ eD))) ⟨same_upd nD2, [], upd_same, .nil⟩ (fun j x H5 hx p => ?_) (fun H5 p => ?_)
      · obtain ⟨s5, ys, eD2, ht2⟩ := p
        obtain ⟨t', r', rfl, hr', et'⟩ := TupsAt.at ht hx
        obtain ⟨a, ha, hr2⟩ := List.mem_flatMap.mp (List.mem_of_getElem? hr')
        obtain ⟨b, hb, rfl⟩ := List.mem_map.mp hr2
        refine ⟨t', _, rfl, .inl (.inl (s5 _ _ et')), rfl, _, _, rfl, _, _, rfl, _, _, rfl, rfl, rfl, ?_⟩
        refine ⟨_, rfl, _, rfl, rfl, _, rfl, ?_⟩
        rw [nv_dec]
        have hsn : (rowsOf v).take (j + 1) = (rowsOf v).take j ++ [(wl a b, [a, b])] := by
          have h := take_snoc (f := fun x : Row => x) hr'
          rw [List.map_id', List.map_id'] at h
          exact h
        by_cases he : (wl a b == r.1) = true
        · rw [he]
          refine iteT ⟨_, rfl, _, rfl, by show 2 ≤ sizeLine; decide, fun t2 nt2 => ?_⟩
          have ntD : D2 ≠ t2 := ne_of_none eD2 nt2
          refine ⟨ys, by rw [upd_ne ntD]; exact eD2, ?_, same_upd2 nD2 (same_upd2 (s5.free nt2) s5), _, upd_same, ?_⟩
          · rw [TupsAt.len ht2]
            refine small1000 (Nat.le_trans (List.length_filter_le _ _) ?_)
            rw [List.length_take]
            exact Nat.le_trans (Nat.min_le_right _ _) (Nat.le_trans (rows_len h4) (by decide))
          · rw [hsn, List.filter_append, List.filter_cons_of_pos (p := fun s : Row => s.1 == r.1) he]
            exact TupsAt.push (φ := fun r => r.2.map tv) (r := (wl a b, [a, b])) eD2 nt2 ht2
        · rw [Bool.not_eq_true] at he
          rw [he]
          refine iteF ⟨s5, ys, eD2, ?_⟩
          rw [hsn, List.filter_append, List.filter_cons_of_neg (p := fun s : Row => s.1 == r.1) (by show ¬ (wl a b == r.1) = true; rw [he]; exact Bool.false_ne_true), List.filter_nil, List.append_nil]
          exact ht2
      · obtain ⟨s5, ys, eD2, ht2⟩ := p
        have hxl : xs.length = (rowsOf v).length := TupsAt.len ht
        rw [hxl, List.take_length] at ht2
        refine ⟨D2, _, rfl, .inl ⟨.inl (.inl eD2), fun l nl => ⟨by show 2 ≤ sizeLine; decide, fun p np => ?_⟩⟩⟩
        have sAll : Same H H5 := s1.trans (s2.trans s5)
        have nlp : l ≠ p := ne_of_none upd_same np
        have sl : Same H5 (upd (upd H5 l (.tup ys)) p (.tup [nv r.1, .ref l])) := same_upd2 ((same_upd nl).free np) (same_upd nl)
        refine q p l r.1 _ ys (sAll.trans sl) hm upd_same ?_ (TupsAt.same sl ht2)
        rw [upd_ne nlp, upd_same]
end
end K14

/-! ## K14L1 -/
namespace K14
open PySem PySem.Spec PyProof.Rows L2
/-- the law's row of draws -/
def RowOk (H : Hp) (r a : Addr) : Prop := ∃ i s c : Int, H r = some (.lst [.ref a, .int i, .int s, .int c]) ∧ 0 ≤ i ∧ 0 ≤ s ∧ s < 2147483647
def Off (r : Addr) (H H' : Hp) : Prop := ∀ b, b ≠ r → H' b = H b
theorem Off.refl (r : Addr) (H : Hp) : Off r H H := fun _ _ => rfl
theorem Off.upd {r : Addr} {H H' : Hp} {o : HO} (h : Off r H H') : Off r H (upd H' r o) := fun b hb => by
  rw [upd_ne hb]
  exact h b hb
theorem Off.trans {r : Addr} {H H1 H2 : Hp} (a : Off r H H1) (b : Off r H1 H2) : Off r H H2 := fun c n => (b c n).trans (a c n)
theorem Off.seq {K : PySem.W.Frag} {r a : Addr} {H H' : Hp} {xs : List V} (h : Off r H H') (hn : a ≠ r) (e : SqL K H a xs) : SqL K H' a xs := by
  rcases e with (e | ⟨o, e⟩) | e
  · exact .inl (.inl ((h a hn).trans e))
  · exact .inl (.inr ⟨o, (h a hn).trans e⟩)
  · exact .inr e
/-- all but r stays -/
def Keep (r : Addr) (H H' : Hp) : Prop := ∀ b o, b ≠ r → H b = some o → H' b = some o
theorem Off.keep {r : Addr} {H H' : Hp} (h : Off r H H') : Keep r H H' := fun b o hb e => (h b hb).trans e
theorem Keep.trans {r : Addr} {H H1 H2 : Hp} (a : Keep r H H1) (b : Keep r H1 H2) : Keep r H H2 := fun c o n e => b c o n (a c o n e)
theorem keepS {r : Addr} {H H' : Hp} (h : Same H H') : Keep r H H' := fun b o _ e => h b o e
theorem Keep.seq {K : PySem.W.Frag} {r a : Addr} {H H' : Hp} {xs : List V} (h : Keep r H H') (hn : a ≠ r) (e : SqL K H a xs) : SqL K H' a xs := by
  rcases e with (e | ⟨o, e⟩) | e
  · exact .inl (.inl (h _ _ hn e))
  · exact .inl (.inr ⟨o, h _ _ hn e⟩)
  · exact .inr e
theorem Keep.put {r D : Addr} {H H1 H2 : Hp} {o : HO} (a : Keep r H H1) (nD : H1 D = none) (b : Keep r H1 H2) : Keep r H (upd H2 D o) := fun c u n e => by
  rw [upd_ne (ne_of_none (a c u n e) nD)]
  exact b c u n (a c u n e)
theorem RowOk.upd {r a D : Addr} {H : Hp} {o : HO} (h : RowOk H r a) (hD : D ≠ r) : RowOk (upd H D o) r a := by
  obtain ⟨i, s, c, e, h1⟩ := h
  exact ⟨i, s, c, by rw [upd_ne hD.symm]; exact e, h1⟩
theorem RowOk.same {r a : Addr} {H H' : Hp} (h : RowOk H r a) (s : Same H H') : RowOk H' r a := by
  obtain ⟨i, s', c, e, h1⟩ := h
  exact ⟨i, s', c, s _ _ e, h1⟩
theorem RowOk.ne {r a D : Addr} {H : Hp} (h : RowOk H r a) (nD : H D = none) : D ≠ r := by
  obtain ⟨i, s, c, e, _⟩ := h
  exact (ne_of_none e nD).symm
/-- the script's list, which no store at r touches -/
def Scr (K : PySem.W.Frag) (H : Hp) (r a : Addr) (xs : List V) : Prop := (a ≠ r ∧ Rd H a (.lst xs)) ∨ ∀ H', SqL K H' a xs
theorem Scr.sql {K : PySem.W.Frag} {H : Hp} {r a : Addr} {xs : List V} (h : Scr K H r a xs) : SqL K H a xs := by
  rcases h with ⟨_, h⟩ | h
  · exact .inl h
  · exact h H
theorem Scr.keep {K : PySem.W.Frag} {H H' : Hp} {r a : Addr} {xs : List V} (h : Scr K H r a xs) (k : Keep r H H') : Scr K H' r a xs := by
  rcases h with ⟨hn, h | ⟨o, h⟩⟩ | h
  · exact .inl ⟨hn, .inl (k _ _ hn h)⟩
  · exact .inl ⟨hn, .inr ⟨o, k _ _ hn h⟩⟩
  · exact .inr h
theorem Scr.of {K : PySem.W.Frag} {H : Hp} {r a : Addr} {xs : List V} (h : SqL K H a xs) (nr : H r = none) : Scr K H r a xs := by
  rcases h with (h | ⟨o, h⟩) | h
  · exact .inl ⟨ne_of_none h nr, .inl h⟩
  · exact .inl ⟨ne_of_none h nr, .inr ⟨o, h⟩⟩
  · exact .inr fun _ => .inr h
section
variable {P : Program} {w : World} {K : PySem.W.Frag} {mg : Str → Option Value} {base : Heap} {T : Addr}
/-! ### _law_taken -/
def spTaken (K : PySem.W.Frag) : Sp := fun vs H Q _ => ∃ (r a : Addr) (many : Nat) (ns : List Int), vs = [.ref r, nv many] ∧ 1 ≤ many ∧ many ≤ 1000 ∧ RowOk H r a ∧ Scr K H r a (ns.map V.int) ∧ ns.length ≤ 63 ∧
  ∀ (v : Nat) H', v < many → RowOk H' r a → Off r H H' → Q (nv v) H'
theorem scTk : FnScope ["_law_row", "_law_many", "_law_found", "_law_cell"] ["_law_row", "_law_many"] (defScope sTaken) := ⟨rfl, rfl, rfl, by decide +kernel, rfl, by decide +kernel, by decide +kernel⟩
theorem mod_nat {x : Int} {many : Nat} (h : 1 ≤ many) : ∃ v : Nat, v < many ∧ x % (many : Int) = (v : Int) := by
  have h1 : 0 ≤ x % (many : Int) := Int.emod_nonneg _ (by omega)
  have h2 : x % (many : Int) < many := Int.emod_lt_of_pos _ (by omega)
  exact ⟨(x % (many : Int)).toNat, by omega, by omega⟩
theorem ok_taken {f : Addr} {fd : FuncData} {k : Nat} (F : FnP K "_law_taken" sTaken f fd) (n : Nm mg) : FnOk P w K mg base CX0 (k + 1) f fd ["_law_row", "_law_many"] (spTaken K) := by
  refine F.ok0 scTk (fun vs H Q E h => ?_) (fun cdv A outer s0 H vs Q E hr h => ?_)
  · obtain ⟨r, a, many, ns, rfl, _⟩ := h
    rfl
  · obtain ⟨r, a, many, ns, rfl, h1, h2, ⟨i, s, c, er, hi, hs0, hs1⟩, hS, hlen, q⟩ := h
    have nd := scTk.nd
    refine ⟨_, pss_cons (ps_if (pt_cmpR op_gt (pe_ix ix_list (pv 0) pe_int (fun _ _ => rfl)) pe_int (nomark _))
        (pss_cons (ps_set (i := 2) nd rfl (.inl rfl) (pe_op op_mod (pe_callTy call_int1 (by rfl) n.int boot_Int (pa_cons (pe_ix ix_list (pv 0) pe_int (fun _ _ => rfl)) pa_nil)) (pv 1)))
        (pss_cons (ps_asg (pe_op op_fdiv (pe_ix ix_list (pv 0) pe_int (fun _ _ => rfl)) (pv 1)) (pg_sub (pv 0) pe_int set_list))
        (pss_one (ps_ret (pv 2))))) pss_nil)
      (pss_cons (ps_asg (pe_op op_add (pe_ix ix_list (pv 0) pe_int (fun _ _ => rfl)) pe_int) (pg_sub (pv 0) pe_int set_list))
      (pss_cons (ps_if (pt_cmpR op_gt (pe_ix ix_list (pv 0) pe_int (fun _ _ => rfl)) (pe_callB call_len (by rfl) n.len boot_len (pa_cons (pe_ix ix_list (pv 0) pe_int (fun _ _ => rfl)) pa_nil)) (nomark _))
        (pss_cons (ps_asg (pe_op op_mod (pe_callTy call_int1 (by rfl) n.int boot_Int (pa_cons (pe_op op_add (pe_op op_mul (pe_ix ix_list (pv 0) pe_int (fun _ _ => rfl)) pe_int) pe_int) pa_nil)) pe_int) (pg_sub (pv 0) pe_int set_list))
        (pss_one (ps_ret (pe_op op_mod (pe_callTy call_int1 (by rfl) n.int boot_Int (pa_cons (pe_op op_fdiv (pe_ix ix_list (pv 0) pe_int (fun _ _ => rfl)) pe_int) pa_nil)) (pv 1))))) pss_nil)
      (pss_cons (ps_set (i := 3) nd rfl (.inl rfl) (pe_ix ix_list (pe_ix ix_list (pv 0) pe_int (fun _ _ => rfl)) (pe_op op_sub (pe_ix ix_list (pv 0) pe_int (fun _ _ => rfl)) pe_int) (fun _ _ => rfl)))
      (pss_cons (ps_asg (pe_op op_mod (pe_callTy call_int1 (by rfl) n.int boot_Int (pa_cons (pe_op op_add (pe_op op_add (pe_op op_mul (pe_ix ix_list (pv 0) pe_int (fun _ _ => rfl)) pe_int) (pv 3)) pe_int) pa_nil)) pe_int) (pg_sub (pv 0) pe_int set_list))
      (pss_cons (ps_if (pt_cmpR op_ge (pv 3) (pe_op op_pow pe_int pe_int) (nomark _)) (pss_one (ps_asg (pe_op op_fdiv (pv 3) (pv 1)) (pg_sub (pv 0) pe_int set_list))) pss_nil)
      (pss_one (ps_ret (pe_op op_mod (pe_callTy call_int1 (by rfl) n.int boot_Int (pa_cons (pv 3) pa_nil)) (pv 1))))))))), ?_⟩
    have hp : (0 : Int) < (many : Int) := by omega
    have hd : CDiv c (many : Int) := ⟨hp, by omega⟩
    refine ⟨_, rfl, r, _, 3, _, rfl, rfl, .inl (.inl er), atI_nat (j := 3) rfl, c, 0, rfl, rfl, _, rfl, ite2 (fun hc => ?_) (fun hc => ?_)⟩
    · -- the digits of a great cell
      obtain ⟨v, hv, ev⟩ := mod_nat (x := c) h1
      refine ⟨_, rfl, r, _, 3, _, rfl, rfl, .inl (.inl er), atI_nat (j := 3) rfl, .inl ⟨_, rfl, _, rfl, _, _, rfl, rfl, hp, ?_⟩⟩
      refine ⟨_, rfl, r, _, 3, _, rfl, rfl, .inl (.inl er), atI_nat (j := 3) rfl, _, rfl, _, _, rfl, rfl, ⟨hp, by omega⟩, _, rfl, r, _, 3, 3, rfl, rfl, er, rfl, ?_⟩
      refine ⟨_, rfl, ?_⟩
      show Q (.int (c % (many : Int))) _
      rw [ev]
      exact q v _ hv ⟨i, s, _, upd_same, hi, hs0, hs1⟩ (Off.refl r H).upd
    · -- the next place
      refine ⟨_, rfl, r, _, 1, _, rfl, rfl, .inl (.inl er), atI_nat (j := 1) rfl, i, 1, rfl, rfl, _, rfl, r, _, 1, 1, rfl, rfl, er, rfl, ?_⟩
      have er1 : (upd H r (.lst [.ref a, .int (i + 1), .int s, .int c])) r = some (.lst [.ref a, .int (i + 1), .int s, .int c]) := upd_same
      have off1 : Off r H (upd H r (.lst [.ref a, .int (i + 1), .int s, .int c])) := (Off.refl r H).upd
      have hS1 : SqL K (upd H r (.lst [.ref a, .int (i + 1), .int s, .int c])) a (ns.map V.int) := (hS.keep off1.keep).sql
      refine ⟨_, rfl, r, _, 1, _, rfl, rfl, .inl (.inl er1), atI_nat (j := 1) rfl, _, rfl, r, _, 0, _, rfl, rfl, .inl (.inl er1), atI_nat (j := 0) rfl, _, ns.length, rfl, Or.inl ⟨_, hS1, (List.length_map _).symm⟩, _, _, rfl, rfl, _, rfl, ite2 (fun hb => ?_) (fun hb => ?_)⟩
      · -- behind the script's end
        have m0 : (0 : Int) < 2147483647 := by decide
        refine ⟨_, rfl, r, _, 2, _, rfl, rfl, .inl (.inl er1), atI_nat (j := 2) rfl, _, _, rfl, rfl, .inl ⟨by omega, by omega⟩, _, _, rfl, rfl, .inl ⟨_, rfl, _, _, rfl, rfl, m0, _, rfl, r, _, 2, 2, rfl, rfl, er1, rfl, ?_⟩⟩
        obtain ⟨v, hv, ev⟩ := mod_nat (x := (s * 48271 + 11) % 2147483647 / 7) h1
        have c7 : CDiv ((s * 48271 + 11) % 2147483647) 7 := ⟨by decide, by decide⟩
        refine ⟨_, rfl, r, _, 2, _, rfl, rfl, .inl (.inl upd_same), atI_nat (j := 2) rfl, _, _, rfl, rfl, c7, .inl ⟨_, rfl, _, rfl, _, _, rfl, rfl, hp, ?_⟩⟩
        show Q (.int ((s * 48271 + 11) % 2147483647 / 7 % (many : Int))) _
        rw [ev]
        exact q v _ hv ⟨i + 1, (s * 48271 + 11) % 2147483647, c, upd_same, by omega, by omega, by omega⟩ off1.upd
      · have hb2 : ¬ ((ns.length : Int) < i + 1) := fun z => hb (decide_eq_true z)
        have hj : i.toNat < ns.length := by omega
        have ei : i + 1 - 1 = ((i.toNat : Nat) : Int) := by omega
        have hat : (ns.map V.int)[i.toNat]? = some (.int ns[i.toNat]) := by
          rw [List.getElem?_map, List.getElem?_eq_getElem hj]
          rfl
        refine ⟨_, rfl, r, _, 0, _, rfl, rfl, .inl (.inl er1), atI_nat (j := 0) rfl, _, rfl, r, _, 1, _, rfl, rfl, .inl (.inl er1), atI_nat (j := 1) rfl, _, _, rfl, rfl, a, _, _, .int ns[i.toNat], rfl, rfl, hS1, by rw [ei]; exact atI_nat hat, ?_⟩
        generalize ns[i.toNat] = x
        have m0 : (0 : Int) < 2147483647 := by decide
        refine ⟨_, rfl, r, _, 2, _, rfl, rfl, .inl (.inl er1), atI_nat (j := 2) rfl, _, _, rfl, rfl, .inl ⟨by omega, by omega⟩, _, rfl, _, _, rfl, rfl, _, _, rfl, rfl, .inl ⟨_, rfl, _, _, rfl, rfl, m0, _, rfl, r, _, 2, 2, rfl, rfl, er1, rfl, ?_⟩⟩
        have er2 : (upd (upd H r (.lst [.ref a, .int (i + 1), .int s, .int c])) r (.lst [.ref a, .int (i + 1), .int ((s * 48271 + x + 11) % 2147483647), .int c])) r = some (.lst [.ref a, .int (i + 1), .int ((s * 48271 + x + 11) % 2147483647), .int c]) := upd_same
        have off2 : Off r H (upd (upd H r (.lst [.ref a, .int (i + 1), .int s, .int c])) r (.lst [.ref a, .int (i + 1), .int ((s * 48271 + x + 11) % 2147483647), .int c])) := off1.upd
        obtain ⟨v, hv, ev⟩ := mod_nat (x := x) h1
        have cp : CPow 10 18 := ⟨by decide, by decide, by decide⟩
        refine ⟨_, rfl, _, _, rfl, rfl, cp, _, _, rfl, rfl, _, rfl, ite2 (fun hg => ?_) (fun hg => ?_)⟩
        · refine ⟨_, rfl, _, rfl, _, _, rfl, rfl, ⟨hp, by omega⟩, _, rfl, r, _, 3, 3, rfl, rfl, er2, rfl, ?_⟩
          refine ⟨_, rfl, .inl ⟨_, rfl, _, rfl, _, _, rfl, rfl, hp, ?_⟩⟩
          show Q (.int (x % (many : Int))) _
          rw [ev]
          exact q v _ hv ⟨i + 1, _, _, upd_same, by omega, by omega, by omega⟩ off2.upd
        · refine ⟨_, rfl, .inl ⟨_, rfl, _, rfl, _, _, rfl, rfl, hp, ?_⟩⟩
          show Q (.int (x % (many : Int))) _
          rw [ev]
          exact q v _ hv ⟨i + 1, _, c, er2, by omega, by omega, by omega⟩ off2
end
end K14

/-! ## K14L2 -/
namespace K14
open PySem PySem.Spec PyProof.Rows L2
section
variable {P : Program} {w : World} {K : PySem.W.Frag} {mg : Str → Option Value} {base : Heap} {T : Addr}
/-! ### _law_pick -/
def spPick (K : PySem.W.Frag) : Sp := fun vs H Q _ => ∃ (r a : Addr) (ns : List Int), RowOk H r a ∧ Scr K H r a (ns.map V.int) ∧ ns.length ≤ 63 ∧
  ((vs = [.ref r, tv [false, true]] ∧ ∀ b H', RowOk H' r a → Off r H H' → Q (tv [b]) H') ∨
   (∃ (L : Addr) (xs : List V), vs = [.ref r, .ref L] ∧ SqL K H L xs ∧ L ≠ r ∧ 1 ≤ xs.length ∧ xs.length ≤ 1000 ∧ ∀ x H', x ∈ xs → RowOk H' r a → Off r H H' → Q x H'))
theorem scPk : FnScope ["_law_row", "_law_things"] ["_law_row", "_law_things"] (defScope sPick) := ⟨rfl, rfl, rfl, by decide +kernel, rfl, by decide +kernel, by decide +kernel⟩
theorem ok_pick {f : Addr} {fd : FuncData} (F : FnP K "_law_pick" sPick f fd) (n : Nm mg) (TK : Has P w K mg base "_law_taken" 1 ["_law_row", "_law_many"] (spTaken K)) : FnOk P w K mg base CX0 2 f fd ["_law_row", "_law_things"] (spPick K) := by
  obtain ⟨f1, fd1, G1, g1, k1, b1⟩ := TK.ex
  refine F.ok0 scPk (fun vs H Q E h => ?_) (fun cdv A outer s0 H vs Q E hr h => ?_)
  · obtain ⟨r, a, ns, _, _, _, ⟨rfl, _⟩ | ⟨L, xs, rfl, _⟩⟩ := h
    · rfl
    · rfl
  · obtain ⟨r, a, ns, hR, hS, hlen, h⟩ := h
    refine ⟨_, pss_one (ps_ret (pe_ix ix_seq (pv 1) (pe_call G1 hr (by rfl) g1 k1 b1 .nil pass0 (pa_cons (pv 0) (pa_cons (pe_callB call_len (by rfl) n.len boot_len (pa_cons (pv 1) pa_nil)) pa_nil))) (fun _ _ => rfl))), ?_⟩
    rcases h with ⟨rfl, q⟩ | ⟨L, xs, rfl, hL, hLr, h1, h2, q⟩
    · refine ⟨_, rfl, _, rfl, _, rfl, _, 2, rfl, ⟨by rw [tx_len]; exact nat_lt (by decide), (tx_len [false, true]).symm⟩, r, a, 2, ns, rfl, by decide, by decide, hR, hS, hlen, fun v H' hv hR' hO => ?_⟩
      obtain ⟨b, hb⟩ : ∃ b, ([false, true] : M)[v]? = some b := ⟨([false, true] : M)[v]'hv, List.getElem?_eq_getElem hv⟩
      refine .inr (.inr ⟨tx [false, true], _, _, rfl, rfl, by rw [tx_len]; exact nat_lt (by decide), atI_tx hb, ?_⟩)
      exact q b H' hR' hO
    · refine ⟨_, rfl, _, rfl, _, rfl, _, xs.length, rfl, Or.inl ⟨xs, hL, rfl⟩, r, a, xs.length, ns, rfl, h1, h2, hR, hS, hlen, fun v H' hv hR' hO => ?_⟩
      refine .inl ⟨L, xs, _, xs[v], rfl, rfl, hO.seq hLr hL, atI_nat (List.getElem?_eq_getElem hv), ?_⟩
      exact q xs[v] H' (List.getElem_mem hv) hR' hO
/-! ### _law_memory -/
def spLawMem (K : PySem.W.Frag) : Sp := fun vs H Q _ => ∃ (r a : Addr) (ns : List Int), vs = [.ref r, .int 6] ∧ RowOk H r a ∧ Scr K H r a (ns.map V.int) ∧ ns.length ≤ 63 ∧
  ∀ (m : M) H', 1 ≤ m.length → m.length ≤ 6 → RowOk H' r a → (∀ b o, b ≠ r → H b = some o → H' b = some o) → Q (tv m) H'
theorem scLM : FnScope ["_law_row", "_law_most", "_law_k"] ["_law_row", "_law_most"] (defScope sLawMem) := ⟨rfl, rfl, rfl, by decide +kernel, rfl, by decide +kernel, by decide +kernel⟩
theorem join_all : (upTo 6).all (fun m => decide (Txt.join "" (m.map fun b => tx [b]) = tx m)) = true := by decide +kernel
theorem join_signs {m : M} (h : m.length ≤ 6) : Txt.join "" (m.map fun b => tx [b]) = tx m := of_decide_eq_true (List.all_eq_true.mp join_all m (mem_upTo 6 m h))
theorem ones_sum : ∀ m : M, (((m.map fun b => tx [b]).map (·.length)).sum : Nat) = m.length
  | [] => rfl
  | b :: r => by
    have ih := ones_sum r
    rw [List.map_cons, List.map_cons, List.sum_cons, ih, tx_len, List.length_cons]
    show 1 + r.length = r.length + 1
    omega
theorem ok_lawMem {f : Addr} {fd : FuncData} (F : FnP K "_law_memory" sLawMem f fd) (n : Nm mg) (TK : Has P w K mg base "_law_taken" 1 ["_law_row", "_law_many"] (spTaken K)) (PK : Has P w K mg base "_law_pick" 2 ["_law_row", "_law_things"] (spPick K)) :
    FnOk P w K mg base CX0 3 f fd ["_law_row", "_law_most"] (spLawMem K) := by
  obtain ⟨f1, fd1, G1, g1, k1, b1⟩ := TK.ex
  obtain ⟨f2, fd2, G2, g2, k2, b2⟩ := PK.ex
  refine F.ok0 scLM (fun vs H Q E h => ?_) (fun cdv A outer s0 H vs Q E hr h => ?_)
  · obtain ⟨r, a, ns, rfl, _⟩ := h
    rfl
  · obtain ⟨r, a, ns, rfl, hR, hS, hlen, q⟩ := h
    have nd := scLM.nd
    refine ⟨_, pss_one (ps_ret (pe_join pe_str (pe_lc (own := [("_law_k", 2)]) (g := gName 2) (tt := tYes) (te := tCall (spPick K) [] E0 (tCons (tVar 0) (tCons (tC (.str "01")) tNil))) rfl nd
        (pi_range1 (by rfl) n.range (pa_cons (pe_op op_add pe_int (pe_call G1 (hr.mono (by decide)) (by rfl) g1 k1 b1 .nil pass0 (pa_cons (pv 0) (pa_cons (pv 1) pa_nil)))) pa_nil))
        (blkOk_by (N := ["_law_row", "_law_most", "_law_k"]) (sc := defScope sLawMem) (by decide +kernel)) (fun _ _ _ _ _ => pg_name (i := 2) nd rfl (.inl rfl)) (fun _ _ _ _ _ => pts_nil)
        (fun _ _ _ _ _ => pe_call G2 hr (by rfl) g2 k2 b2 .nil pass0 (pa_cons (pv 0) (pa_cons pe_str pa_nil)))))), ?_⟩
    have hu := hr.units
    refine ⟨⟨_, rfl⟩, _, rfl, _, rfl, r, a, 6, ns, rfl, by decide, by decide, hR, hS, hlen, fun v H1 hv hR1 hO1 => ?_⟩
    refine ⟨1, v, rfl, rfl, _, rfl, by omega, by omega, fun D nD => ?_⟩
    have nDr : D ≠ r := hR1.ne nD
    refine lc_range (lo := 0) (n := 1 + v) (fun i H2 => ∃ m : M, m.length = i ∧ RowOk H2 r a ∧ Keep r H1 H2 ∧ H2 D = some (.lst (m.map fun b => tv [b]))) ⟨[], rfl, hR1.upd nDr, keepS (same_upd nD), upd_same⟩ (fun i H2 hi p => ?_) (fun H2 p => ?_)
    · obtain ⟨m, hm, hR2, kp, eD⟩ := p
      refine ⟨rfl, yesT ⟨_, rfl, r, a, ns, hR2, hS.keep (hO1.keep.trans kp), hlen, .inl ⟨congrArg (fun z => [V.ref r, V.str z]) lit01, fun b H3 hR3 hO3 => ?_⟩⟩⟩
      have eD3 : H3 D = some (.lst (m.map fun b => tv [b])) := (hO3 D nDr).trans eD
      refine ⟨_, eD3, ?_, m ++ [b], ?_, hR3.upd nDr, ?_, ?_⟩
      · rw [List.length_map]
        exact small1000 (by omega)
      · rw [List.length_append, hm]
        rfl
      · exact fun c o n e => by
          rw [upd_ne (ne_of_none e nD)]
          exact hO3.keep c o n (kp c o n e)
      · rw [upd_same, List.map_append]
        rfl
    · obtain ⟨m, hm, hR2, kp, eD⟩ := p
      have eD2 : H2 D = some (.lst ((m.map fun b => tx [b]).map V.str)) := by
        rw [eD, List.map_map]
        rfl
      refine ⟨"", D, m.map fun b => tx [b], rfl, rfl, .inl (.inl (.inl eD2)), ?_, ?_⟩
      · have e0 : ("" : Str).length = 0 := by decide +kernel
        rw [ones_sum, e0, Nat.mul_zero]
        omega
      · rw [join_signs (by omega)]
        exact q m H2 (by omega) (by omega) hR2 (hO1.keep.trans kp)
end
end K14

/-! ## K14L3 -/
namespace K14
open PySem PySem.Spec PyProof.Rows L2
section
variable {P : Program} {w : World} {K : PySem.W.Frag} {mg : Str → Option Value} {base : Heap} {T : Addr}
/-! ### _law_step -/
def lt2 (u : Bool) : Str := if u then "u" else "d"
def spStep : Sp := fun vs H Q _ => ∃ (m : M) (u : Bool), vs = [tv m, .str (lt2 u)] ∧ m.length ≤ 9 ∧ ∀ H', Same H H' → Q (tv (stepM u m)) H'
theorem scSt : FnScope ["_law_memory_here", "_law_letter", "_law_old", "_law_new", "_law_at"] ["_law_memory_here", "_law_letter"] (defScope sStep) := ⟨rfl, rfl, rfl, by decide +kernel, rfl, by decide +kernel, by decide +kernel⟩
theorem eqU (u : Bool) : decide (V.str (lt2 u) = V.str "u") = u := by cases u <;> decide +kernel
theorem old2_if (u : Bool) : (if u = true then V.str "0" else V.str "1") = tv [!u] := oth_if u
theorem new2_if (u : Bool) : (if u = true then V.str "1" else V.str "0") = tv [u] := by cases u <;> decide +kernel
theorem split_at {m : M} {k : Nat} {b : Bool} (h : m[k]? = some b) : m = m.take k ++ b :: m.drop (k + 1) := by
  obtain ⟨hk, e⟩ := List.getElem?_eq_some_iff.mp h
  have h1 : m.drop k = m[k] :: m.drop (k + 1) := List.drop_eq_getElem_cons hk
  rw [← e, ← h1, List.take_append_drop]
theorem one_dec (b c : Bool) : decide (tv [b] = tv [c]) = (b == c) := by
  rw [tv_dec]
  cases b <;> cases c <;> decide
theorem ok_step {f : Addr} {fd : FuncData} {k : Nat} (F : FnP K "_law_step" sStep f fd) (n : Nm mg) : FnOk P w K mg base CX0 (k + 1) f fd ["_law_memory_here", "_law_letter"] spStep := by
  refine F.ok0 scSt (fun vs H Q E h => ?_) (fun cdv A outer s0 H vs Q E hr h => ?_)
  · obtain ⟨m, u, rfl, _⟩ := h
    rfl
  · obtain ⟨m, u, rfl, h9, q⟩ := h
    have nd := scSt.nd
    refine ⟨_, pss_cons (ps_asg (pe_ifExp (pt_cmpR op_eq (pv 1) pe_str (nomark _)) (pe_tup (pa_cons pe_str (pa_cons pe_str pa_nil))) (pe_tup (pa_cons pe_str (pa_cons pe_str pa_nil))))
        (pg_tup (by rfl) (pgs_cons (pg_name (i := 2) nd rfl (.inl rfl)) (pgs_cons (pg_name (i := 3) nd rfl (.inl rfl)) pgs_nil))))
      (pss_cons (ps_for PassesOwn.never rfl (pi_range3 (by rfl) n.range (pa_cons (pe_op op_sub (pe_callB call_len (by rfl) n.len boot_len (pa_cons (pv 0) pa_nil)) pe_int) (pa_cons (pe_un un_neg pe_int) (pa_cons (pe_un un_neg pe_int) pa_nil)))) (pg_name (i := 4) nd rfl (.inl rfl))
        (pss_one (ps_if (pt_cmpR op_eq (pe_ix ix_str (pv 0) (pv 4) (fun _ _ => rfl)) (pv 2) (nomark _))
          (pss_one (ps_ret (pe_op op_add_str (pe_op op_add_str (pe_slice sl_str (pv 0) po_none (po_some (pv 4))) (pv 3)) (pe_slice sl_str (pv 0) (po_some (pe_op op_add (pv 4) pe_int)) po_none)))) pss_nil)))
      (pss_one (ps_ret (pv 0)))), ?_⟩
    refine ⟨_, rfl, rfl, _, rfl, ?_⟩
    rw [eqU]
    refine tupIf fun p np => ?_
    rw [old2_if, new2_if]
    refine ⟨p, _, rfl, .inl (.inl upd_same), rfl, _, _, rfl, _, _, rfl, rfl, ?_⟩
    have sm := same_upd (H := H) (o := .tup [tv [!u], tv [u]]) np
    generalize upd H p (.tup [tv [!u], tv [u]]) = H1 at sm ⊢
    refine ⟨_, rfl, _, m.length, rfl, ⟨by rw [tx_len]; exact nat_lt (by omega), (tx_len m).symm⟩, _, 1, rfl, rfl, 1, rfl, 1, rfl, (m.length : Int) - 1, -1, -1, m.length, rfl, ?_, ?_⟩
    · have h := RgC.neg (i := (m.length : Int) - 1) (j := -1) (by omega) (by omega) (by omega) (by omega)
      rw [show ((m.length : Int) - 1 - -1).toNat = m.length by omega] at h
      exact h
    · refine for_rangeC (lo := (m.length : Int) - 1) (c := -1) (n := m.length) (fun i σ H' => ∃ v4, σ = [some (tv m), some (.str (lt2 u)), some (tv [!u]), some (tv [u]), v4] ∧ H' = H1 ∧ ∀ c ∈ m.drop (m.length - i), c = u) ⟨none, rfl, rfl, ?_⟩ (fun i σ H' hi hP => ?_) (fun σ H' hP => ?_)
      · intro c hc
        rw [Nat.sub_zero, List.drop_length] at hc
        cases hc
      · obtain ⟨v4, rfl, rfl, hall⟩ := hP
        have e1 : (m.length : Int) - 1 + (i : Int) * -1 = ((m.length - 1 - i : Nat) : Int) := by omega
        rw [e1]
        have hk : m.length - 1 - i < m.length := by omega
        have hb : m[m.length - 1 - i]? = some m[m.length - 1 - i] := List.getElem?_eq_getElem hk
        have hsp := split_at hb
        have hdr : m.drop (m.length - 1 - i + 1) = m.drop (m.length - i) := by
          congr 1
          omega
        generalize m[m.length - 1 - i] = b at hb hsp
        refine ⟨_, rfl, _, rfl, tx m, _, _, rfl, rfl, by rw [tx_len]; exact nat_lt (by omega), atI_tx hb, _, rfl, rfl, _, rfl, ?_⟩
        rw [show decide ((V.str (⟨#[sg b]⟩ : Str)) = tv [!u]) = (b == !u) from one_dec b (!u)]
        by_cases hbu : (b == !u) = true
        · rw [hbu]
          have eb : b = !u := by simpa using hbu
          refine iteT ?_
          refine ⟨_, rfl, _, rfl, _, rfl, tx m, rfl, by rw [tx_len]; exact nat_lt (by omega), ?_⟩
          rw [cut_take]
          refine ⟨_, rfl, _, _, rfl, rfl, ?_, ?_⟩
          · rw [tx_len, tx_len, List.length_take]
            exact nat_lt (by simp; omega)
          · rw [tx_app]
            refine ⟨_, rfl, _, rfl, _, 1, rfl, rfl, _, rfl, tx m, rfl, by rw [tx_len]; exact nat_lt (by omega), ?_⟩
            rw [show ((m.length - 1 - i : Nat) : Int) + 1 = ((m.length - 1 - i + 1 : Nat) : Int) by omega, cut_drop]
            refine ⟨_, _, rfl, rfl, ?_, ?_⟩
            · rw [tx_len, tx_len, List.length_append, List.length_take, List.length_drop]
              exact nat_lt (by simp; omega)
            · show Q (.str (tx (m.take (m.length - 1 - i) ++ [u]) ++ tx (m.drop (m.length - 1 - i + 1)))) H'
              rw [tx_app]
              have hst : stepM u m = m.take (m.length - 1 - i) ++ [u] ++ m.drop (m.length - 1 - i + 1) := by
                have h1 := step_found (u := u) (m.take (m.length - 1 - i)) (q := m.drop (m.length - 1 - i + 1)) (by rw [hdr]; exact hall)
                rw [← eb, ← hsp] at h1
                rw [h1, List.append_assoc]
                rfl
              rw [← hst]
              exact q H' sm
        · rw [Bool.not_eq_true] at hbu
          rw [hbu]
          refine iteF ⟨_, rfl, rfl, ?_⟩
          intro c hc
          have hd2 : m.drop (m.length - (i + 1)) = b :: m.drop (m.length - i) := by
            have h1 : m.drop (m.length - 1 - i) = m[m.length - 1 - i] :: m.drop (m.length - 1 - i + 1) := List.drop_eq_getElem_cons hk
            have h2 : m[m.length - 1 - i] = b := (List.getElem?_eq_some_iff.mp hb).2
            rw [h2, hdr] at h1
            rw [← h1]
            congr 1
            omega
          rw [hd2] at hc
          rcases List.mem_cons.mp hc with e | e
          · rw [e]
            cases b <;> cases u <;> first | rfl | (exact absurd hbu (by decide))
          · exact hall c e
      · obtain ⟨v4, rfl, rfl, hall⟩ := hP
        refine ⟨_, rfl, ?_⟩
        rw [Nat.sub_self, List.drop_zero] at hall
        have h := q H' sm
        rw [step_none hall] at h
        exact h
/-! ### _law_all -/
def spLawAll : Sp := fun vs H Q _ => ∃ n : Nat, vs = [nv n] ∧ n ≤ 6 ∧ ∀ L H', Same H H' → H L = none → H' L = some (.lst ((allM n).map tv)) → Q (.ref L) H'
theorem scLA : FnScope ["_law_span", "_law_found", "_law_turn", "_law_memory_here"] ["_law_span"] (defScope sLawAll) := ⟨rfl, rfl, rfl, by decide +kernel, rfl, by decide +kernel, by decide +kernel⟩
theorem boot_Sorted : bootBuiltins "sorted" = some (.builtin "sorted") := by decide +kernel
theorem lawAll_len {n : Nat} (h : n ≤ 6) : (lawAllM n).length ≤ 64 := by
  rw [← (lawAll_perm h).length_eq, allM_len h]
  exact pow_le h
theorem mem_lawAll : ∀ (n : Nat) (x : M), x ∈ lawAllM n → x.length = n
  | 0, x, h => by
    have e : x = [] := by simpa [lawAllM] using h
    rw [e]
    rfl
  | n + 1, x, h => by
    rcases List.mem_append.mp (show x ∈ (lawAllM n).map (· ++ [false]) ++ (lawAllM n).map (· ++ [true]) from h) with h | h
    · obtain ⟨y, hy, e⟩ := List.mem_map.mp h
      rw [← e, List.length_append, mem_lawAll n y hy]
      rfl
    · obtain ⟨y, hy, e⟩ := List.mem_map.mp h
      rw [← e, List.length_append, mem_lawAll n y hy]
      rfl
theorem ok_lawAll {f : Addr} {fd : FuncData} {k : Nat} (F : FnP K "_law_all" sLawAll f fd) (n : Nm mg) : FnOk P w K mg base CX0 (k + 1) f fd ["_law_span"] spLawAll := by
  refine F.ok0 scLA (fun vs H Q E h => ?_) (fun cdv A outer s0 H vs Q E hr h => ?_)
  · obtain ⟨v, rfl, _⟩ := h
    rfl
  · obtain ⟨v, rfl, h6, q⟩ := h
    have nd := scLA.nd
    have hu := hr.units
    refine ⟨_, pss_cons (ps_set (i := 1) nd rfl (.inl rfl) (pe_lst (pa_cons pe_str pa_nil)))
      (pss_cons (ps_for PassesOwn.never rfl (pi_range1 (by rfl) n.range (pa_cons (pv 0) pa_nil)) (pg_name (i := 2) nd rfl (.inl rfl))
        (pss_one (ps_set (i := 1) nd rfl (.inl rfl) (pe_op op_cat
          (pe_lc (own := [("_law_memory_here", 3)]) (g := gName 3) (tt := tYes) rfl nd (pi_list (pv 1)) (blkOk_by (N := ["_law_span", "_law_found", "_law_turn", "_law_memory_here"]) (sc := defScope sLawAll) (by decide +kernel)) (fun _ _ _ _ _ => pg_name (i := 3) nd rfl (.inl rfl)) (fun _ _ _ _ _ => pts_nil) (fun _ _ _ _ _ => pe_op op_add_str (pv 3) pe_str))
          (pe_lc (own := [("_law_memory_here", 3)]) (g := gName 3) (tt := tYes) rfl nd (pi_list (pv 1)) (blkOk_by (N := ["_law_span", "_law_found", "_law_turn", "_law_memory_here"]) (sc := defScope sLawAll) (by decide +kernel)) (fun _ _ _ _ _ => pg_name (i := 3) nd rfl (.inl rfl)) (fun _ _ _ _ _ => pts_nil) (fun _ _ _ _ _ => pe_op op_add_str (pv 3) pe_str))))))
      (pss_one (ps_ret (pe_callB (cr_sortedSA hu) (by rfl) n.sorted boot_Sorted (pa_cons (pv 1) pa_nil))))), ?_⟩
    refine ⟨by show 1 ≤ sizeLine; decide, fun L0 n0 => ?_⟩
    refine ⟨_, rfl, (v : Int), rfl, by omega, by omega, for_range (lo := 0) (n := v) (fun i σ H' => ∃ L v2 v3, σ = [some (nv v), some (.ref L), v2, v3] ∧ Same H H' ∧ H' L = some (.lst ((lawAllM i).map tv)))
      ⟨L0, none, none, rfl, same_upd n0, upd_same⟩ (fun i σ H' hi hP => ?_) (fun σ H' hP => ?_)⟩
    · obtain ⟨L, v2, v3, rfl, sm, eL⟩ := hP
      refine ⟨.ref L, rfl, L, rfl, ⟨_, .inl (.inl eL)⟩, fun D nD => ?_⟩
      refine over_gen (xs := (lawAllM i).map tv) (fun j H2 => Same H' H2 ∧ H2 D = some (.lst (((lawAllM i).take j).map fun m => tv (m ++ [false])))) (over_list fun j H2 p => .inl (.inl (p.1 _ _ eL))) ⟨same_upd nD, upd_same⟩ (fun j x H2 hx p => ?_) (fun H2 p => ?_)
      · obtain ⟨m, hm, rfl⟩ := map_at hx
        obtain ⟨s2, eD⟩ := p
        have hml := mem_lawAll i m (List.mem_of_getElem? hm)
        refine ⟨rfl, yesT ⟨_, rfl, tx m, _, rfl, rfl, ?_, _, eD, ?_, same_upd2 nD s2, ?_⟩⟩
        · rw [lit0, tx_len, tx_len, hml]
          exact nat_lt (by simp; omega)
        · exact small64' (Nat.le_trans tk_len (lawAll_len (by omega)))
        · rw [upd_same, take_snoc hm, lit0, tx_app]
      · obtain ⟨s2, eD⟩ := p
        rw [List.length_map, List.take_length] at eD
        refine ⟨.ref L, rfl, L, rfl, ⟨_, .inl (.inl (s2 _ _ eL))⟩, fun D2 nD2 => ?_⟩
        refine over_gen (xs := (lawAllM i).map tv) (fun j H3 => Same H2 H3 ∧ H3 D2 = some (.lst (((lawAllM i).take j).map fun m => tv (m ++ [true])))) (over_list fun j H3 p => .inl (.inl (p.1 _ _ (s2 _ _ eL)))) ⟨same_upd nD2, upd_same⟩ (fun j x H3 hx p => ?_) (fun H3 p => ?_)
        · obtain ⟨m, hm, rfl⟩ := map_at hx
          obtain ⟨s3, eD3⟩ := p
          have hml := mem_lawAll i m (List.mem_of_getElem? hm)
          refine ⟨rfl, yesT ⟨_, rfl, tx m, _, rfl, rfl, ?_, _, eD3, ?_, same_upd2 nD2 s3, ?_⟩⟩
          · rw [lit1, tx_len, tx_len, hml]
            exact nat_lt (by simp; omega)
          · exact small64' (Nat.le_trans tk_len (lawAll_len (by omega)))
          · rw [upd_same, take_snoc hm, lit1, tx_app]
        · obtain ⟨s3, eD3⟩ := p
          rw [List.length_map, List.take_length] at eD3
          refine ⟨D, D2, _, _, rfl, rfl, s3 _ _ eD, eD3, ?_, fun p np => ⟨p, _, _, rfl, sm.trans (s2.trans (s3.trans (same_upd np))), ?_⟩⟩
          · rw [List.length_map, List.length_map]
            have := lawAll_len (show i ≤ 6 by omega)
            exact nat_lt (by omega)
          · rw [upd_same]
            show _ = some (HO.lst (((lawAllM i).map (· ++ [false]) ++ (lawAllM i).map (· ++ [true])).map tv))
            rw [List.map_append, List.map_map, List.map_map]
            rfl
    · obtain ⟨L, v2, v3, rfl, sm, eL⟩ := hP
      have e1 : ((lawAllM v).map tx).map V.str = (lawAllM v).map tv := by
        rw [List.map_map]
        rfl
      have e2 : ((allM v).map tx).map V.str = (allM v).map tv := by
        rw [List.map_map]
        rfl
      refine ⟨_, rfl, L, (lawAllM v).map tx, (allM v).map tx, rfl, .inl (.inl (by rw [e1]; exact eL)), ?_, (lawAll_perm h6).map tx, allM_rising h6, fun p np => ?_⟩
      · rw [List.length_map]
        have := lawAll_len h6
        omega
      · refine q p _ (same_upd2 (sm.free np) sm) (sm.free np) ?_
        rw [upd_same, e2]
end
end K14

/-! ## K14L4 -/
namespace K14
open PySem PySem.Spec PyProof.Rows L2
/-! ### the search's dict -/
abbrev KVs (k : List (M × Nat)) : List (Key × V) := k.map fun p => ((Sum.inr (tx p.1) : Key), nv p.2)
theorem valV_look (t : M) : ∀ k : List (M × Nat), valV (KVs k) (Sum.inr (tx t) : Key) = (look k t).map nv
  | [] => rfl
  | (a, b) :: r => by
    have ih := valV_look t r
    show valV (((Sum.inr (tx a) : Key), nv b) :: KVs r) _ = (if (a == t) = true then some b else look r t).map nv
    by_cases h : a = t
    · rw [valV_pos (p := ((Sum.inr (tx a) : Key), nv b)) (by rw [h]), if_pos (by simpa using h)]
      rfl
    · rw [if_neg (by simpa using h), ← ih]
      have hne : ¬ ((Sum.inr (tx a) : Key) = Sum.inr (tx t)) := fun e => h (tx_inj (Sum.inr.inj e))
      unfold valV
      rw [List.find?_cons]
      rw [show decide ((((Sum.inr (tx a) : Key), nv b) : Key × V).1 = (Sum.inr (tx t) : Key)) = false from decide_eq_false hne]
theorem putK_look {k : List (M × Nat)} {t : M} (v : Nat) (h : look k t = none) : putK (KVs k) (Sum.inr (tx t) : Key) (nv v) = KVs (k ++ [(t, v)]) := by
  rw [putK_new (nv v) (by rw [valV_look, h]; rfl)]
  show KVs k ++ [((Sum.inr (tx t) : Key), nv v)] = (k ++ [(t, v)]).map fun p => ((Sum.inr (tx p.1) : Key), nv p.2)
  rw [List.map_append]
  rfl
def vis (st : KR) (h : M) (c : Nat) : KR := (([false, true] : List Bool).take c).foldl (fun s u => visit s h u) st
theorem vis0 (st : KR) (h : M) : vis st h 0 = st := rfl
theorem vis_succ {st : KR} {h : M} {c : Nat} {u : Bool} (e : ([false, true] : List Bool)[c]? = some u) : vis st h (c + 1) = visit (vis st h c) h u := by
  unfold vis
  rw [List.take_add_one, e, List.foldl_append]
  rfl
theorem vis2 (st : KR) (h : M) : vis st h 2 = turn st h := rfl
def part (st : KR) (i : Nat) : KR := (st.2.take i).foldl turn (st.1, [])
theorem part0 (st : KR) : part st 0 = (st.1, []) := rfl
theorem part_succ {st : KR} {i : Nat} {h : M} (e : st.2[i]? = some h) : part st (i + 1) = turn (part st i) h := by
  unfold part
  rw [List.take_add_one, e, List.foldl_append]
  rfl
theorem part_all (st : KR) : part st st.2.length = level st := by
  unfold part level
  rw [List.take_length]
theorem part_good {n : Nat} {st : KR} (g : Good n st) (i : Nat) : Good n (part st i) ∧ (∀ x, (look st.1 x).isSome = true → look (part st i).1 x = look st.1 x) ∧ (part st i).1.length ≤ (level st).1.length := by
  have g0 : Good n (st.1, []) := ⟨fun x hx => (by cases hx), Nat.zero_le _⟩
  obtain ⟨g1, k1, l1⟩ := fold_good (st.2.take i) (st.1, []) g0 fun x hx => g.rows x (List.mem_of_mem_take hx)
  refine ⟨g1, k1, ?_⟩
  have e : level st = (st.2.drop i).foldl turn (part st i) := by
    unfold level part
    rw [← List.foldl_append, List.take_append_drop]
  obtain ⟨_, _, l2⟩ := fold_good (st.2.drop i) (part st i) g1 fun x hx => by
    obtain ⟨h1, h2⟩ := g.rows x (List.mem_of_mem_drop hx)
    exact ⟨h1, by
      have h3 := k1 x h2
      show (look (part st i).1 x).isSome = true
      unfold part
      rw [h3]
      exact h2⟩
  rw [e]
  exact l2
theorem level_len {m : M} (h6 : m.length ≤ 6) {k : Nat} (hk : k ≤ 22) : (level (iter k (st0 m))).1.length ≤ 64 := by
  have h := iter_mono m (22 - k) (k + 1)
  rw [show k + 1 + (22 - k) = 23 by omega] at h
  have e : bfs m = (iter 23 (st0 m)).1 := bfs_eq m
  rw [← e] at h
  exact Nat.le_trans h (bfs_len h6)
/-! the rows as data -/
theorem strOk_all : (upTo 6).all (fun m => (PyData.str (tx m)).canLay0) = true := by decide +kernel
theorem canLay_rows : ∀ {rs : List M}, (∀ x ∈ rs, x.length ≤ 6) → PyData.canLayAll0 (rs.map fun x => PyData.str (tx x)) = true
  | [], _ => by simp [PyData.canLayAll0]
  | r :: rs, h => by
    have ih := canLay_rows fun x hx => h x (List.mem_cons_of_mem _ hx)
    have h1 := List.all_eq_true.mp strOk_all r (mem_upTo 6 r (h r List.mem_cons_self))
    show PyData.canLayAll0 (PyData.str (tx r) :: rs.map fun x => PyData.str (tx x)) = true
    rw [PyData.canLayAll0, ih, h1]
    rfl
theorem shaped_rows {rs : List M} (h : ∀ x ∈ rs, x.length ≤ 6) : SeqAt.shaped (.list (rs.map fun x => PyData.str (tx x))) = true := by
  unfold SeqAt.shaped
  rw [Bool.and_eq_true]
  refine ⟨?_, decide_eq_true ?_⟩
  · rw [PyData.canLay0]
    exact canLay_rows h
  · rw [PyData.depth, depth_strs]
    decide
theorem shaped_nil : SeqAt.shaped (.list []) = true := by decide +kernel
theorem eqv_nil (rs : List M) : PyData.eqv (.list (rs.map fun x => PyData.str (tx x))) (.list []) = rs.isEmpty := by
  cases rs with
  | nil =>
    rw [PyData.eqv]
    simp [PyData.eqvAll]
  | cons r rs =>
    rw [PyData.eqv]
    simp [PyData.eqvAll]
section
variable {P : Program} {w : World} {K : PySem.W.Frag} {mg : Str → Option Value} {base : Heap} {T : Addr}
def spSteps : Sp := fun vs H Q _ => ∃ m : M, vs = [tv m] ∧ m.length ≤ 6 ∧ ∀ d H', Same H H' → H d = none → H' d = some (.dK (KVs (bfs m))) → Q (.ref d) H'
theorem scSf : FnScope ["_law_one", "_law_rows", "_law_known", "_law_more", "_law_here", "_law_letter", "_law_there"] ["_law_one"] (defScope sSteps) := ⟨rfl, rfl, rfl, by decide +kernel, rfl, by decide +kernel, by decide +kernel⟩
theorem signsDU : [V.str (lt2 false), V.str (lt2 true)] = ("du" : Str).cps.toList.map fun c => V.str ⟨#[c]⟩ := by decide +kernel
theorem ok_steps {f : Addr} {fd : FuncData} (F : FnP K "_law_steps_from" sSteps f fd) (n : Nm mg) (ST : Has P w K mg base "_law_step" 1 ["_law_memory_here", "_law_letter"] spStep) : FnOk P w K mg base CX0 2 f fd ["_law_one"] spSteps := by
  obtain ⟨f1, fd1, G1, g1, k1, b1⟩ := ST.ex
  refine F.ok0 scSf (fun vs H Q E h => ?_) (fun cdv A outer s0 H vs Q E hr h => ?_)
  · obtain ⟨m, rfl, _⟩ := h
    rfl
  · obtain ⟨m, rfl, h6, q⟩ := h
    have nd := scSf.nd
    have hu := hr.units
    have hu1 := hu_of hr
    refine ⟨_, pss_cons (ps_par (i := 1) (j := 2) rfl nd rfl rfl (by decide) rfl rfl (pa_cons (pe_lst (pa_cons (pv 0) pa_nil)) (pa_cons (pe_disp (pps_cons (pv 0) pe_int pps_nil) rfl rfl (by simp) (by simp)) pa_nil)) (by rfl))
      (pss_cons (ps_while PassesOwn.never (pt_cmpR (op_neD hu) (pv 1) (pe_lst pa_nil) (nomark _))
        (pss_cons (ps_set (i := 3) nd rfl (.inl rfl) (pe_lst pa_nil))
        (pss_cons (ps_for PassesOwn.never rfl (pi_list (pv 1)) (pg_name (i := 4) nd rfl (.inl rfl))
          (pss_one (ps_for PassesOwn.never rfl (pi_str pe_str) (pg_name (i := 5) nd rfl (.inl rfl))
            (pss_cons (ps_set (i := 6) nd rfl (.inl rfl) (pe_call G1 hr (by rfl) g1 k1 b1 .nil pass0 (pa_cons (pv 4) (pa_cons (pv 5) pa_nil))))
            (pss_one (ps_if (pt_cmp (pc_dnotin hu1 (pv 6) (pv 2)))
              (pss_cons (ps_dput hu1 (pv 2) (pv 6) (pe_op op_add (pe_dget hu1 (pv 2) (pv 4) (fun _ _ => rfl)) pe_int) rfl)
              (pss_one (ps_expr (pe_bm PySem.F.plainAttrs_list PySem.F.slot_list_append PySem.F.type_list_append mt_append (pv 3) (pa_cons (pv 6) pa_nil))))) pss_nil))))))
        (pss_one (ps_set (i := 1) nd rfl (.inl rfl) (pv 3))))))
      (pss_one (ps_ret (pv 2)))), ?_⟩
    refine ⟨_, rfl, by show 1 ≤ sizeLine; decide, fun R nR => ?_⟩
    intro d nd1
    have nRd : R ≠ d := ne_of_none upd_same nd1
    have nd0 : H d = none := (same_upd nR).free nd1
    refine ⟨_, rfl, upd_same, [(Sum.inr (tx m), nv 0)], rfl, (by show 1 ≤ 15; decide), _, _, rfl, ?_⟩
    rw [show mergeK [] [((Sum.inr (tx m) : Key), nv 0)] = KVs (iter 0 (st0 m)).1 from rfl]
    refine ⟨fun mm σ H' => ∃ k R v3 v4 v5 v6, mm = 23 - k ∧ k ≤ 23 ∧ σ = [some (tv m), some (.ref R), some (.ref d), v3, v4, v5, v6] ∧ Same H H' ∧ H' R = some (.lst ((iter k (st0 m)).2.map tv)) ∧ H' d = some (.dK (KVs (iter k (st0 m)).1)),
      ⟨23, 0, R, none, none, none, none, rfl, by decide, rfl, same_upd2 nd0 (same_upd2 nd0 (same_upd nR)), ?_, upd_same⟩, ?_⟩
    · rw [upd_ne nRd, upd_ne nRd, upd_same]
      rfl
    rintro mm σ H1 ⟨k, R, v3, v4, v5, v6, rfl, hk, rfl, sm, eR, ed⟩
    have G := iter_good m k
    have hrl : ∀ x ∈ (iter k (st0 m)).2, x.length ≤ 6 := fun x hx => by
      rw [(G.rows x hx).1]
      exact h6
    refine ⟨_, rfl, Nat.zero_le _, fun p np => ⟨_, _, .lst (.inl (.inl (same_upd np _ _ eR))) (dp_strs _), .lst (.inl (.inl upd_same)) .nil, shaped_rows hrl, shaped_nil, _, rfl, ?_⟩⟩
    rw [eqv_nil]
    have sp : Same H1 (upd H1 p (.lst [])) := same_upd np
    cases hE : (iter k (st0 m)).2.isEmpty with
    | true =>
      have e0 : (iter k (st0 m)).2 = [] := List.isEmpty_iff.mp hE
      have e1 := iter_stop (23 - k) k e0
      rw [show k + (23 - k) = 23 by omega] at e1
      refine iteF ⟨_, rfl, q d _ (sm.trans sp) nd0 ?_⟩
      rw [sp _ _ ed, bfs_eq, e1]
    | false =>
      have hk2 : k ≤ 22 := by
        rcases Nat.lt_or_ge k 23 with h | h
        · omega
        · have e23 : k = 23 := by omega
          rw [e23, bfs_done h6] at hE
          cases hE
      have hlev := level_len h6 hk2
      refine iteT ⟨fun σ' H' => ∃ R v3 v4 v5 v6, σ' = [some (tv m), some (.ref R), some (.ref d), v3, v4, v5, v6] ∧ Same H H' ∧ H' R = some (.lst ((iter (k + 1) (st0 m)).2.map tv)) ∧ H' d = some (.dK (KVs (iter (k + 1) (st0 m)).1)), ?_, ?_⟩
      · rintro σ' H' ⟨R', w3, w4, w5, w6, e1, e2, e3, e4⟩
        exact ⟨23 - (k + 1), by omega, k + 1, R', w3, w4, w5, w6, rfl, by omega, e1, e2, e3, e4⟩
      · refine ⟨Nat.zero_le _, fun Mo nMo => ?_⟩
        have sMo : Same H1 (upd (upd H1 p (.lst [])) Mo (.lst [])) := sp.trans (same_upd nMo)
        have nMo0 : H Mo = none := (sm.trans sp).free nMo
        have nRMo : R ≠ Mo := ne_of_none (sp _ _ eR) nMo
        have ndMo : d ≠ Mo := ne_of_none (sp _ _ ed) nMo
        have eMo : (upd (upd H1 p (.lst [])) Mo (.lst [])) Mo = some (.lst []) := upd_same
        have eR1 := sMo _ _ eR
        have ed1 := sMo _ _ ed
        have sH := sm.trans sMo
        generalize upd (upd H1 p (.lst [])) Mo (.lst []) = H2 at eMo eR1 ed1 sH ⊢
        generalize hst : iter k (st0 m) = st at *
        have hnext : iter (k + 1) (st0 m) = level st := by
          show level (iter k (st0 m)) = level st
          rw [hst]
        rw [hnext]
        refine ⟨_, rfl, R, rfl, ⟨_, .inl (.inl eR1)⟩, ?_⟩
        refine over_for (xs := st.2.map tv) (fun i σ H3 => ∃ v4 v5 v6, σ = [some (tv m), some (.ref R), some (.ref d), some (.ref Mo), v4, v5, v6] ∧ Same H H3 ∧ H3 R = some (.lst (st.2.map tv)) ∧ H3 d = some (.dK (KVs (part st i).1)) ∧ H3 Mo = some (.lst ((part st i).2.map tv)))
          (over_list fun i H3 ⟨σ, v4, v5, v6, _, _, e, _⟩ => .inl (.inl e)) ⟨v4, v5, v6, rfl, sH, eR1, ed1, eMo⟩ (fun i x σ H3 hx hP => ?_) (fun σ H3 hP => ?_)
        · obtain ⟨w4, w5, w6, rfl, s3, eR3, ed3, eMo3⟩ := hP
          obtain ⟨hh, hhe, rfl⟩ := map_at hx
          obtain ⟨hhl, hhs⟩ := G.rows hh (List.mem_of_getElem? hhe)
          obtain ⟨Gp, kp, lp⟩ := part_good G i
          have hhp : (look (part st i).1 hh).isSome = true := by
            rw [kp hh hhs]
            exact hhs
          refine ⟨("du" : Str), rfl, ?_⟩
          refine over_for (xs := [V.str (lt2 false), V.str (lt2 true)]) (fun c σ H4 => ∃ v5 v6, σ = [some (tv m), some (.ref R), some (.ref d), some (.ref Mo), some (tv hh), v5, v6] ∧ Same H H4 ∧ H4 R = some (.lst (st.2.map tv)) ∧ H4 d = some (.dK (KVs (vis (part st i) hh c).1)) ∧ H4 Mo = some (.lst ((vis (part st i) hh c).2.map tv)) ∧ Good m.length (vis (part st i) hh c) ∧ (look (vis (part st i) hh c).1 hh).isSome = true ∧ (vis (part st i) hh c).1.length ≤ 64 + c)
            (over_str signsDU) ⟨w5, w6, rfl, s3, eR3, ed3, eMo3, Gp, hhp, Nat.le_trans lp hlev⟩ (fun c y σ H4 hy hP4 => ?_) (fun σ H4 hP4 => ?_)
          · obtain ⟨u, rfl, hu2⟩ : ∃ u : Bool, y = V.str (lt2 u) ∧ ([false, true] : List Bool)[c]? = some u := by
              match c, hy with
              | 0, hy => exact ⟨false, (Option.some.inj hy).symm, rfl⟩
              | 1, hy => exact ⟨true, (Option.some.inj hy).symm, rfl⟩
            have hc2 : c < 2 := at_lt hu2
            obtain ⟨x5, x6, rfl, s4, eR4, ed4, eMo4, G4, hs4, l4⟩ := hP4
            have hvs := vis_succ (st := part st i) (h := hh) hu2
            refine ⟨_, rfl, _, rfl, hh, u, rfl, by omega, fun H5 s5 => ?_⟩
            have ed5 := s5 _ _ ed4
            have eMo5 := s5 _ _ eMo4
            have eR5 := s5 _ _ eR4
            refine ⟨_, rfl, _, rfl, d, _, rfl, DGet.k (k := Sum.inr (tx (stepM u hh))) ed5, _, rfl, ?_⟩
            obtain ⟨G6, k6, l6⟩ := visit_good (u := u) G4 hhl hs4
            have hs6 : (look (visit (vis (part st i) hh c) hh u).1 hh).isSome = true := by
              rw [k6 hh hs4]
              exact hs4
            cases e : look (vis (part st i) hh c).1 (stepM u hh) with
            | some v =>
              rw [valV_look, e]
              refine iteF ⟨_, _, rfl, s4.trans s5, eR5, ?_⟩
              rw [hvs, visit_hit e]
              exact ⟨ed5, eMo5, G4, hs4, by omega⟩
            | none =>
              rw [valV_look, e]
              obtain ⟨v0, eh⟩ := Option.isSome_iff_exists.mp hs4
              have dg : DGet H5 d (tv hh) (some (nv v0)) := by
                have h1 := DGet.k (k := Sum.inr (tx hh)) ed5
                rw [valV_look, eh] at h1
                exact h1
              have hvn := visit_new e eh
              refine iteT ⟨_, rfl, _, rfl, d, _, rfl, dg, _, _, rfl, rfl, _, rfl, _, rfl, d, _, rfl, DPut.k (k := Sum.inr (tx (stepM u hh))) ed5 ?_, ?_⟩
              · rw [List.length_map]
                exact small1000 (by omega)
              · have edM : d ≠ Mo := ndMo
                have eMo6 : (upd H5 d (.dK (putK (KVs (vis (part st i) hh c).1) (Sum.inr (tx (stepM u hh))) (nv (v0 + 1))))) Mo = some (.lst ((vis (part st i) hh c).2.map tv)) := by
                  rw [upd_ne edM.symm]
                  exact eMo5
                refine ⟨_, rfl, .inl ⟨rfl, _, .inl (.inl eMo6)⟩, _, rfl, Mo, _, _, rfl, rfl, eMo6, ?_, ?_⟩
                · rw [List.length_map]
                  have := G4.le
                  exact small1000 (by omega)
                · refine ⟨_, _, rfl, same_upd2 nMo0 (same_upd2 nd0 (s4.trans s5)), ?_, ?_, ?_, ?_⟩
                  · rw [upd_ne nRMo, upd_ne (ne_of eR5 ed5 (fun z => nomatch z))]
                    exact eR5
                  · rw [upd_ne edM, upd_same, hvs, hvn]
                    exact congrArg (fun z => some (HO.dK z)) (putK_look (v0 + 1) e)
                  · rw [upd_same, hvs, hvn, List.map_append]
                    rfl
                  · rw [hvs]
                    refine ⟨G6, hs6, ?_⟩
                    rw [hvn, List.length_append]
                    show _ + 1 ≤ _
                    omega
          · obtain ⟨x5, x6, rfl, s4, eR4, ed4, eMo4, G4, hs4, l4⟩ := hP4
            refine ⟨_, _, _, rfl, s4, eR4, ?_⟩
            rw [part_succ hhe, ← vis2]
            exact ⟨ed4, eMo4⟩
        · obtain ⟨w4, w5, w6, rfl, s3, eR3, ed3, eMo3⟩ := hP
          rw [List.length_map, part_all] at ed3 eMo3
          exact ⟨_, rfl, Mo, _, _, _, _, rfl, s3, eMo3, ed3⟩
end
end K14

/-! ## K14L5 -/
namespace K14
open PySem PySem.Spec PyProof.Rows L2
/-! ### _law_alike: of two values with the same structure and the same content -/
def AlN (H : Hp) : Nat → V → V → Prop
  | 0, _, _ => False
  | n + 1, x, y => (∃ i : Int, x = .int i ∧ y = .int i) ∨ (∃ z : Str, x = .str z ∧ y = .str z) ∨
    (∃ (a b : Addr) (xs ys : List V), x = .ref a ∧ y = .ref b ∧ H a = some (.tup xs) ∧ H b = some (.tup ys) ∧ xs.length = ys.length ∧ ys.length ≤ 1000 ∧ ∀ (i : Nat) (x y : V), xs[i]? = some x → ys[i]? = some y → AlN H n x y)
theorem AlN.same {H H' : Hp} (s : Same H H') : ∀ {n : Nat} {x y : V}, AlN H n x y → AlN H' n x y
  | 0, _, _, h => h
  | n + 1, _, _, .inl h => .inl h
  | n + 1, _, _, .inr (.inl h) => .inr (.inl h)
  | n + 1, _, _, .inr (.inr ⟨a, b, xs, ys, h1, h2, h3, h4, h5, h6, h7⟩) => .inr (.inr ⟨a, b, xs, ys, h1, h2, s _ _ h3, s _ _ h4, h5, h6, fun i x y hx hy => AlN.same s (h7 i x y hx hy)⟩)
def spAl (n : Nat) : Sp := fun vs H Q _ => ∃ x y, vs = [x, y] ∧ AlN H n x y ∧ ∀ H', Same H H' → Q (.bl true) H'
theorem scAl : FnScope ["_law_found", "_law_due", "_law_k"] ["_law_found", "_law_due"] (defScope sAlike) := ⟨rfl, rfl, rfl, by decide +kernel, rfl, by decide +kernel, by decide +kernel⟩
theorem kit_t {K : PySem.W.Frag} {a b : String} {r : Bool} (h : kitB a b = some r) : PySem.W.kitOne K (.type a) (.type b) = some r := kit_ty h
theorem any_int (K : PySem.W.Frag) : PySem.W.kitAny K (.type "int") [.type "tuple", .type "list"] = some false := kitAny_cons (kit_t (b := "tuple") (r := false) (by decide +kernel)) (fun _ => kitAny_cons (kit_t (b := "list") (r := false) (by decide +kernel)) (fun _ => kitAny_nil) (fun h => by cases h)) (fun h => by cases h)
theorem any_str (K : PySem.W.Frag) : PySem.W.kitAny K (.type "str") [.type "tuple", .type "list"] = some false := kitAny_cons (kit_t (b := "tuple") (r := false) (by decide +kernel)) (fun _ => kitAny_cons (kit_t (b := "list") (r := false) (by decide +kernel)) (fun _ => kitAny_nil) (fun h => by cases h)) (fun h => by cases h)
theorem any_tup (K : PySem.W.Frag) : PySem.W.kitAny K (.type "tuple") [.type "tuple", .type "list"] = some true := kitAny_cons (b := true) (kit_t (b := "tuple") (r := true) (by decide +kernel)) (fun h => by cases h) (fun _ => rfl)
theorem kit_tl (K : PySem.W.Frag) : PySem.W.kitOne K (.type "tuple") (.type "list") = some false := kit_t (by decide +kernel)
theorem kit_is (K : PySem.W.Frag) : PySem.W.kitOne K (.type "int") (.type "str") = some false := kit_t (by decide +kernel)
theorem boot_List : bootBuiltins "list" = some (.type "list") := by decide +kernel
section
variable {P : Program} {w : World} {K : PySem.W.Frag} {mg : Str → Option Value} {base : Heap} {T : Addr}
theorem ok_alike {f : Addr} {fd : FuncData} (F : FnP K "_law_alike" sAlike f fd) (n : Nm mg) (g : mg "_law_alike" = some (.ref f)) : ∀ d, FnOk P w K mg base CX0 (d + 1) f fd ["_law_found", "_law_due"] (spAl d)
  | 0 => by
    refine F.ok0 scAl (fun vs H Q E h => ?_) (fun cdv A outer s0 H vs Q E hr h => ?_)
    · obtain ⟨x, y, rfl, _⟩ := h
      rfl
    · obtain ⟨x, y, _, h, _⟩ := h
      exact h.elim
  | d + 1 => by
    have IH := ok_alike F n g d
    have b : Binds K fd ["_law_found", "_law_due"] [] := F.bindsN fun _ _ _ _ _ _ us hl => match us, hl with | [_, _], _ => rfl
    refine F.ok0 scAl (fun vs H Q E h => ?_) (fun cdv A outer s0 H vs Q E hr h => ?_)
    · obtain ⟨x, y, rfl, _⟩ := h
      rfl
    · obtain ⟨x, y, rfl, hal, q⟩ := h
      have nd := scAl.nd
      have hu := hr.units
      refine ⟨_, pss_cons (ps_if (pt_val (pe_callB call_isiT (by rfl) n.isi boot_isi (pa_cons (pv 1) (pa_cons (pe_tup (pa_cons (pe_bltn (v := .ty "tuple") (by rfl) n.tuple boot_Tuple rfl) (pa_cons (pe_bltn (v := .ty "list") (by rfl) n.list boot_List rfl) pa_nil))) pa_nil))))
          (pss_cons (ps_if (PW.pt (pw_or (pt_not (pt_val (pe_callB call_isiT (by rfl) n.isi boot_isi (pa_cons (pv 0) (pa_cons (pe_tup (pa_cons (pe_bltn (v := .ty "tuple") (by rfl) n.tuple boot_Tuple rfl) (pa_cons (pe_bltn (v := .ty "list") (by rfl) n.list boot_List rfl) pa_nil))) pa_nil)))))
              (pw_or1 (pt_cmpR op_ne (pe_callB call_isi (by rfl) n.isi boot_isi (pa_cons (pv 0) (pa_cons (pe_bltn (v := .ty "list") (by rfl) n.list boot_List rfl) pa_nil))) (pe_callB call_isi (by rfl) n.isi boot_isi (pa_cons (pv 1) (pa_cons (pe_bltn (v := .ty "list") (by rfl) n.list boot_List rfl) pa_nil))) (nomark _)))))
            (pss_one (ps_ret pe_bl)) pss_nil)
          (pss_cons (ps_if (pt_cmpR op_ne (pe_callB call_len (by rfl) n.len boot_len (pa_cons (pv 0) pa_nil)) (pe_callB call_len (by rfl) n.len boot_len (pa_cons (pv 1) pa_nil)) (nomark _)) (pss_one (ps_ret pe_bl)) pss_nil)
          (pss_one (ps_ret (pe_cmpR (op_eqD hu)
            (pe_lc (own := [("_law_k", 2)]) (g := gName 2) (tt := tNot (tB (tCall (spAl d) [] E0 (tCons (tOp (rIxT K) (tVar 0) (tVar 2)) (tCons (tOp (rIxT K) (tVar 1) (tVar 2)) tNil))))) (te := tVar 2) rfl nd
              (pi_range1 (by rfl) n.range (pa_cons (pe_callB call_len (by rfl) n.len boot_len (pa_cons (pv 1) pa_nil)) pa_nil)) (blkOk_by (N := ["_law_found", "_law_due", "_law_k"]) (sc := defScope sAlike) (by decide +kernel)) (fun _ _ _ _ _ => pg_name (i := 2) nd rfl (.inl rfl))
              (fun _ _ _ _ _ => pts_one (pt_not (pt_val (pe_call IH hr (by rfl) g F.kp b .nil pass0 (pa_cons (pe_ix ix_tup (pv 0) (pv 2) (fun _ _ => rfl)) (pa_cons (pe_ix ix_tup (pv 1) (pv 2) (fun _ _ => rfl)) pa_nil)))))) (fun _ _ _ _ _ => pv 2))
            (pe_lst pa_nil) (nomark _)))))) pss_nil)
        (pss_cons (ps_if (PW.pt (pw_or (pt_cmp (pc_isN (pv 1))) (pw_or1 (pt_val (pe_callB call_isi (by rfl) n.isi boot_isi (pa_cons (pv 1) (pa_cons (pe_bltn (v := .ty "str") (by rfl) n.str boot_Str rfl) pa_nil)))))))
          (pss_one (ps_ret (pe_and (pe_cmpR op_eq (pv 0) (pv 1) (nomark _)) (pe_one (pe_cmpR op_eq (pe_callB call_isi (by rfl) n.isi boot_isi (pa_cons (pv 0) (pa_cons (pe_bltn (v := .ty "str") (by rfl) n.str boot_Str rfl) pa_nil))) (pe_callB call_isi (by rfl) n.isi boot_isi (pa_cons (pv 1) (pa_cons (pe_bltn (v := .ty "str") (by rfl) n.str boot_Str rfl) pa_nil))) (nomark _)))))) pss_nil)
        (pss_one (ps_ret (pe_and (pe_callB call_isi (by rfl) n.isi boot_isi (pa_cons (pv 0) (pa_cons (pe_bltn (v := .ty "int") (by rfl) n.int boot_Int rfl) pa_nil)))
          (pe_and (pe_cmpR op_eq (pe_callB call_isi (by rfl) n.isi boot_isi (pa_cons (pv 0) (pa_cons (pe_bltn (v := .ty "bool") (by rfl) n.bool boot_Bool rfl) pa_nil))) (pe_callB call_isi (by rfl) n.isi boot_isi (pa_cons (pv 1) (pa_cons (pe_bltn (v := .ty "bool") (by rfl) n.bool boot_Bool rfl) pa_nil))) (nomark _))
          (pe_one (pe_cmpR op_eq (pv 0) (pv 1) (nomark _)))))))), ?_⟩
      rcases hal with ⟨i, rfl, rfl⟩ | ⟨z, rfl, rfl⟩ | ⟨a, c, xs, ys, rfl, rfl, ha, hc, hlen, h1000, hall⟩
      · -- two ints
        refine ⟨_, rfl, by show 2 ≤ sizeLine; decide, fun p np => ?_⟩
        refine ⟨_, p, _, _, _, _, rfl, upd_same, .cons (.ty _) (.cons (.ty _) .nil), .base (.int i), any_int K, false, rfl, iteF ?_⟩
        refine ⟨_, rfl, _, rfl, iteF ?_⟩
        refine ⟨_, rfl, _, _, _, _, _, rfl, .ty _, .base (.int i), kit_is K, false, rfl, iteF ?_⟩
        refine ⟨_, rfl, _, _, _, _, _, rfl, .ty _, .base (.int i), kit_ii K, true, rfl, iteT ?_⟩
        refine ⟨_, rfl, _, _, _, _, _, rfl, .ty _, .base (.int i), kit_ib K, _, rfl, _, _, _, _, _, rfl, .ty _, .base (.int i), kit_ib K, rfl, _, rfl, iteT ?_⟩
        refine ⟨_, rfl, _, rfl, rfl, ?_⟩
        show Q (.bl (decide (V.int i = V.int i))) _
        rw [decide_eq_true rfl]
        exact q _ (same_upd np)
      · -- two texts
        refine ⟨_, rfl, by show 2 ≤ sizeLine; decide, fun p np => ?_⟩
        refine ⟨_, p, _, _, _, _, rfl, upd_same, .cons (.ty _) (.cons (.ty _) .nil), .base (.str z), any_str K, false, rfl, iteF ?_⟩
        refine ⟨_, rfl, _, rfl, iteF ?_⟩
        refine ⟨_, rfl, _, _, _, _, _, rfl, .ty _, .base (.str z), kit_ss K, true, rfl, iteT ?_⟩
        refine ⟨_, rfl, _, rfl, rfl, _, rfl, ?_⟩
        rw [decide_eq_true (rfl : V.str z = V.str z)]
        refine iteT ⟨_, rfl, _, _, _, _, _, rfl, .ty _, .base (.str z), kit_ss K, _, rfl, _, _, _, _, _, rfl, .ty _, .base (.str z), kit_ss K, rfl, ?_⟩
        exact q _ (same_upd np)
      · -- two tuples
        refine ⟨_, rfl, by show 2 ≤ sizeLine; decide, fun p np => ?_⟩
        refine ⟨_, p, _, _, _, _, rfl, upd_same, .cons (.ty _) (.cons (.ty _) .nil), .base (.tup (same_upd np _ _ hc)), any_tup K, true, rfl, iteT ?_⟩
        have s1 : Same H (upd H p (.tup [.ty "tuple", .ty "list"])) := same_upd np
        refine ⟨_, rfl, by show 2 ≤ sizeLine; decide, fun p2 np2 => ?_⟩
        have s2 := s1.trans (same_upd (o := .tup [.ty "tuple", .ty "list"]) np2)
        refine ⟨_, p2, _, _, _, _, rfl, upd_same, .cons (.ty _) (.cons (.ty _) .nil), .base (.tup (s2 _ _ ha)), any_tup K, true, rfl, iteF ?_⟩
        refine ⟨_, rfl, _, _, _, _, _, rfl, .ty _, .base (.tup (s2 _ _ ha)), kit_tl K, _, rfl, _, _, _, _, _, rfl, .ty _, .base (.tup (s2 _ _ hc)), kit_tl K, rfl, _, rfl, iteNS rfl ?_⟩
        refine ⟨_, rfl, _, xs.length, rfl, Or.inr ⟨xs, .inl (.inl (s2 _ _ ha)), rfl⟩, _, rfl, _, ys.length, rfl, Or.inr ⟨ys, .inl (.inl (s2 _ _ hc)), rfl⟩, rfl, _, rfl, ?_⟩
        rw [hlen]
        refine iteNS rfl ?_
        refine ⟨_, rfl, _, ys.length, rfl, Or.inr ⟨ys, .inl (.inl (s2 _ _ hc)), rfl⟩, _, rfl, by omega, by omega, fun D nD => ?_⟩
        refine lc_range (lo := 0) (n := ys.length) (fun i H' => Same H H' ∧ H' D = some (.lst [])) ⟨s2.trans (same_upd nD), upd_same⟩ (fun i H' hi hP => ?_) (fun H' hP => ?_)
        · obtain ⟨s3, eD⟩ := hP
          have hx : xs[i]? = some (xs[i]'(by omega)) := List.getElem?_eq_getElem (by omega)
          have hy : ys[i]? = some ys[i] := List.getElem?_eq_getElem hi
          refine ⟨rfl, _, rfl, _, rfl, a, xs, _, _, rfl, rfl, .inl (.inl (s3 _ _ ha)), by rw [Int.zero_add]; exact atI_nat hx, _, rfl, _, rfl, c, ys, _, _, rfl, rfl, .inl (.inl (s3 _ _ hc)), by rw [Int.zero_add]; exact atI_nat hy, ?_⟩
          refine ⟨_, _, rfl, (hall i _ _ hx hy).same s3, fun H4 s4 => ⟨true, rfl, iteF ⟨s3.trans s4, s4 _ _ eD⟩⟩⟩
        · obtain ⟨s3, eD⟩ := hP
          refine ⟨Nat.zero_le _, fun p4 np4 => ?_⟩
          have sp4 := same_upd (H := H') (o := .lst []) np4
          refine ⟨.list [], .list [], .lst (.inl (.inl (sp4 _ _ eD))) .nil, .lst (.inl (.inl upd_same)) .nil, shaped_nil, shaped_nil, ?_⟩
          have e : PyData.eqv (.list []) (.list []) = true := by decide +kernel
          rw [e]
          exact q _ (s3.trans sp4)
end
end K14

/-! ## K14L6 -/
namespace K14
open PySem PySem.Spec PyProof.Rows L2
section
variable {P : Program} {w : World} {K : PySem.W.Frag} {mg : Str → Option Value} {base : Heap} {T : Addr}
abbrev NL : List Str := ["_law_script", "_law_row", "_law_memory_here", "_law_span", "_law_known", "_law_other", "_law_most", "_law_far", "_law_counts", "_law_pairs", "_law_one", "_law_table", "_law_top", "_law_flip", "_law_turned", "_law_k", "_law_steps_here"]
theorem scL : FnScope NL ["_law_script"] (defScope sLaw) := ⟨rfl, rfl, rfl, by decide +kernel, rfl, by decide +kernel, by decide +kernel⟩
def lcScope : Expr → Scope
  | .ListComp _ _ sc _ => sc
  | _ => { kind := .function, names := [], isGenerator := false, isCoroutine := false }
def asgVal : Stmt → Expr
  | .Assign _ e _ => e
  | _ => .Constant .none 0 ⟨0, 0, 0, 0⟩
def scCounts : Scope := lcScope (asgVal ((defBody sLaw).getD 6 (.Pass ⟨0, 0, 0, 0⟩)))
def spLaw (K : PySem.W.Frag) (T : Addr) : Sp := fun vs H Q _ => ∃ (a : Addr) (ns : List Int), vs = [.ref a] ∧ SqL K H a (ns.map V.int) ∧ ns.length ≤ 63 ∧ GxR.TabG H T ∧ ∀ H', Q (.bl true) H'
abbrev tVals : TE := tLockE (tLc (iKeys (tVar 4)) (gName 5) tYes (tDGet (tVar 4) (tVar 5)) [5])
/-! ### small readings -/
theorem vals_read {σ : L2.St} {H : Hp} {d : Addr} {k : List (M × Nat)} {Q : VK} (hσ : σ[4]? = some (some (.ref d))) (hl : 5 < σ.length) (hd : H d = some (.dK (KVs k))) (hk : k.length ≤ 64) (hall : ∀ p ∈ k, (look k p.1).isSome = true)
    (h : ∀ D H', Same H H' → H D = none → H' D = some (.lst ((vals k).map nv)) → Q (.ref D) H') : tVals σ H Q := by
  refine ⟨d, _, hd, trivial, fun od => ⟨.ref d, hσ, d, od, rfl, .inl ⟨KVs k, upd_same, fun D nD => ?_⟩⟩⟩
  have nDd : D ≠ d := fun e => by
    rw [e, upd_same] at nD
    cases nD
  have nDH : H D = none := by
    rw [upd_ne nDd] at nD
    exact nD
  have hw : wipe σ [5] = σ.set 5 none := rfl
  refine over_gen (xs := (KVs k).map fun p => kV p.1) (fun j H' => Same (upd H d (.frz od (.dK (KVs k)))) H' ∧ H' D = some (.lst ((k.take j).map fun p => nv ((look k p.1).getD 0)))) (over_keys fun j H' p => p.1 _ _ upd_same) ⟨same_upd nD, upd_same⟩ (fun j x H' hx p => ?_) (fun H' p => ?_)
  · obtain ⟨s1, eD⟩ := p
    obtain ⟨q, hq, rfl⟩ := map_at hx
    obtain ⟨p, hp, rfl⟩ := map_at hq
    obtain ⟨v, ev⟩ := Option.isSome_iff_exists.mp (hall p (List.mem_of_getElem? hp))
    have hjl := at_lt hp
    rw [hw]
    refine ⟨by show ((σ.set 5 none).set 5 (some (tv p.1))).set 5 none = σ.set 5 none; rw [List.set_set, List.set_set], yesT ⟨.ref d, ?_, tv p.1, ?_, d, nv v, rfl, .inl ⟨KVs k, Sum.inr (tx p.1), .inr ⟨od, s1 _ _ upd_same⟩, rfl, ?_⟩, _, eD, ?_, same_upd2 nD s1, ?_⟩⟩
    · rw [List.getElem?_set_ne (by decide), List.getElem?_set_ne (by decide)]
      exact hσ
    · rw [List.getElem?_set_self (by rw [List.length_set]; exact hl)]
      rfl
    · rw [valV_look, ev]
      rfl
    · rw [List.length_map, List.length_take]
      exact small1000 (by omega)
    · rw [upd_same, take_snoc hp, ev]
      rfl
  · obtain ⟨s1, eD⟩ := p
    rw [List.length_map, List.length_map, List.take_length] at eD
    refine ⟨s1 _ _ upd_same, h D _ (fun b o e => ?_) nDH ?_⟩
    · by_cases hb : b = d
      · rw [hb] at e ⊢
        rw [upd_same, ← hd]
        exact e
      · rw [upd_ne hb]
        exact s1 b o (by rw [upd_ne hb]; exact e)
    · rw [upd_ne nDd, eD]
      unfold vals
      rw [List.map_map]
      rfl
theorem al_text {H : Hp} {n : Nat} {z : Str} : AlN H (n + 1) (.str z) (.str z) := .inr (.inl ⟨z, rfl, rfl⟩)
theorem al_int {H : Hp} {n : Nat} {i : Int} : AlN H (n + 1) (.int i) (.int i) := .inl ⟨i, rfl, rfl⟩
theorem al_same {H : Hp} {n : Nat} {a b : Addr} {xs : List V} (ha : H a = some (.tup xs)) (hb : H b = some (.tup xs)) (hl : xs.length ≤ 1000) (h : ∀ x ∈ xs, AlN H n x x) : AlN H (n + 1) (.ref a) (.ref b) :=
  .inr (.inr ⟨a, b, xs, xs, rfl, rfl, ha, hb, rfl, hl, fun i x y hx hy => by
    rw [hx] at hy
    cases hy
    exact h x (List.mem_of_getElem? hx)⟩)
theorem al_pair {H : Hp} {n : Nat} {a b : Addr} {x y x' y' : V} (ha : H a = some (.tup [x, y])) (hb : H b = some (.tup [x', y'])) (h1 : AlN H n x x') (h2 : AlN H n y y') : AlN H (n + 1) (.ref a) (.ref b) :=
  .inr (.inr ⟨a, b, _, _, rfl, rfl, ha, hb, rfl, by show 2 ≤ 1000; decide, fun i z w hz hw => by
    match i, hz, hw with
    | 0, hz, hw =>
      cases hz
      cases hw
      exact h1
    | 1, hz, hw =>
      cases hz
      cases hw
      exact h2⟩)
/-- what the law holds between two statements -/
structure Fx (K : PySem.W.Frag) (T r a d : Addr) (m : M) (ns : List Int) (H : Hp) : Prop where
  tab : GxR.TabG H T
  row : RowOk H r a
  scr : Scr K H r a (ns.map V.int)
  dict : H d = some (.dK (KVs (bfs m)))
theorem Fx.ex {K : PySem.W.Frag} {T r a d : Addr} {m : M} {ns : List Int} {H H' : Hp} (f : Fx K T r a d m ns H) (x : Ex T H H') : Fx K T r a d m ns H' := by
  refine ⟨x.1, ?_, ?_, x.at f.tab f.dict fun ps z => nomatch z⟩
  · obtain ⟨i, s, c, e, h⟩ := f.row
    exact ⟨i, s, c, x.at f.tab e (fun ps z => nomatch z), h⟩
  · rcases f.scr with ⟨hn, h | ⟨o, h⟩⟩ | h
    · exact .inl ⟨hn, .inl (x.at f.tab h fun ps z => nomatch z)⟩
    · exact .inl ⟨hn, .inr ⟨o, x.at f.tab h fun ps z => nomatch z⟩⟩
    · exact .inr h
theorem Fx.same {K : PySem.W.Frag} {T r a d : Addr} {m : M} {ns : List Int} {H H' : Hp} (f : Fx K T r a d m ns H) (s : Same H H') : Fx K T r a d m ns H' := f.ex (Ex.same f.tab s)
theorem tab_keep {T r a : Addr} {H H' : Hp} (h : GxR.TabG H T) (hr : RowOk H r a) (k : Keep r H H') : GxR.TabG H' T := by
  obtain ⟨ps, h1, h2⟩ := h
  obtain ⟨i, s, c, e, _⟩ := hr
  exact ⟨ps, k _ _ (fun z => by rw [z, e] at h1; cases h1) h1, h2⟩
theorem bfs_some {m : M} (h6 : m.length ≤ 6) : ∀ p ∈ bfs m, (look (bfs m) p.1).isSome = true := fun p hp => by
  rw [bfs_look h6 (bfs_key_len h6 hp)]
  rfl
theorem vals_ne {m : M} (h6 : m.length ≤ 6) : vals (bfs m) ≠ [] := fun z => by
  have h := (bfs_vals h6).length_eq
  rw [z, List.length_map] at h
  exact allM_ne h6 (List.eq_nil_of_length_eq_zero h.symm)
theorem tbm_ok {K : PySem.W.Frag} {T : String} {r : V → List V → Hp → VK → Prop} {to : TE} {t : TA} {σ : L2.St} {H : Hp} {Q : VK} (h : to σ H fun x H1 => tyV K T x H1 ∧ t σ H1 fun xs H2 => r x xs H2 Q) : tBM K T r to t σ H Q := h
theorem next_ok {D : Ends} {σ : L2.St} {H : Hp} (h : D.nx σ H) : tNext D σ H := h
theorem seq_gen {t u : TS} {D : Ends} {σ : L2.St} {H : Hp} (I : L2.St → Hp → Prop) (h1 : ∀ X : L2.St → Hp → Prop, (∀ σ' H', I σ' H' → X σ' H') → t { D with nx := X } σ H) (h2 : ∀ σ' H', I σ' H' → u D σ' H') : tSeq t u D σ H := h1 (u D) h2
theorem TupsAt.app {φ : Row → List V} {H : Hp} {ys : List V} {ss : List Row} (h2 : TupsG φ H ys ss) : ∀ {xs : List V} {rs : List Row}, TupsG φ H xs rs → TupsG φ H (xs ++ ys) (rs ++ ss)
  | _, _, .nil => h2
  | _, _, .cons h r => .cons h (TupsAt.app h2 r)
theorem tups_al {φ : Row → List V} {H : Hp} {n : Nat} {rs : List Row} (hφ : ∀ r ∈ rs, (φ r).length ≤ 1000 ∧ ∀ x ∈ φ r, AlN H n x x) {xs ys : List V} (h1 : TupsG φ H xs rs) (h2 : TupsG φ H ys rs) (i : Nat) (x y : V) (hx : xs[i]? = some x) (hy : ys[i]? = some y) : AlN H (n + 1) x y := by
  obtain ⟨t, r, rfl, hr, ht⟩ := TupsAt.at h1 hx
  obtain ⟨t', r', rfl, hr', ht'⟩ := TupsAt.at h2 hy
  rw [hr] at hr'
  cases hr'
  obtain ⟨h3, h4⟩ := hφ r (List.mem_of_getElem? hr)
  exact al_same ht ht' h3 h4
/-- the callees -/
structure Calls (P : Program) (w : World) (K : PySem.W.Frag) (mg : Str → Option Value) (base : Heap) (T : Addr) : Prop where
  mem : Has P w K mg base "_law_memory" 3 ["_law_row", "_law_most"] (spLawMem K)
  steps : Has P w K mg base "_law_steps_from" 2 ["_law_one"] spSteps
  all : Has P w K mg base "_law_all" 1 ["_law_span"] spLawAll
  pick : Has P w K mg base "_law_pick" 2 ["_law_row", "_law_things"] (spPick K)
  alike : Has P w K mg base "_law_alike" 5 ["_law_found", "_law_due"] (spAl 4)
  far : Has P w K mg base "farthest" 9 ["memory"] (spFar T)
  sphere : Has P w K mg base "sphere_counts" 9 ["memory"] (spSphere T)
  diam : Has P w K mg base "diameter" 9 ["span"] spDiam
  dist : Has P w K mg base "distance" 9 ["one", "other"] (spDist T)
theorem ok_law {f : Addr} {fd : FuncData} (F : FnP K "law" sLaw f fd) (n : Nm mg) (C : Calls P w K mg base T) : FnOk P w K mg base CX0 10 f fd ["_law_script"] (spLaw K T) := by
  obtain ⟨f1, fd1, G1, g1, k1, b1⟩ := C.mem.ex
  obtain ⟨f2, fd2, G2, g2, k2, b2⟩ := C.steps.ex
  obtain ⟨f3, fd3, G3, g3, k3, b3⟩ := C.all.ex
  obtain ⟨f4, fd4, G4, g4, k4, b4⟩ := C.pick.ex
  obtain ⟨f5, fd5, G5, g5, k5, b5⟩ := C.alike.ex
  obtain ⟨f6, fd6, G6, g6, k6, b6⟩ := C.far.ex
  obtain ⟨f7, fd7, G7, g7, k7, b7⟩ := C.sphere.ex
  obtain ⟨f8, fd8, G8, g8, k8, b8⟩ := C.diam.ex
  obtain ⟨f9, fd9, G9, g9, k9, b9⟩ := C.dist.ex
  refine F.ok0 scL (fun vs H Q E h => ?_) (fun cdv A outer s0 H vs Q E hr h => ?_)
  · obtain ⟨a, ns, rfl, _⟩ := h
    rfl
  · obtain ⟨a, ns, rfl, hS, hlen, hT, q⟩ := h
    have nd := scL.nd
    have hu := hr.units
    have hu1 := hu_of hr
    refine ⟨_, pss_lst1 (i := 1) nd rfl (.inl rfl) (pao_cons (pv 0) (pao_int (pa_cons pe_int (pa_cons pe_int pa_nil))))
      (psst_cons (PST.of (ps_set (i := 2) nd rfl (.inl rfl) (pe_call G1 (hr.mono (by decide)) (by rfl) g1 k1 b1 .nil pass0 (pa_cons (pv 1) (pa_cons pe_int pa_nil)))))
      (psst_cons (PST.of (ps_asg (pe_tup (pa_cons (pe_callB call_len (by rfl) n.len boot_len (pa_cons (pv 2) pa_nil)) (pa_cons (pe_call G2 (hr.mono (by decide)) (by rfl) g2 k2 b2 .nil pass0 (pa_cons (pv 2) pa_nil)) pa_nil)))
        (pg_tup (by rfl) (pgs_cons (pg_name (i := 3) nd rfl (.inl rfl)) (pgs_cons (pg_name (i := 4) nd rfl (.inr rfl)) pgs_nil)))))
      (psst_cons (PST.of (ps_set (i := 6) nd rfl (.inr rfl) (pe_callB (cr_max rfl) (by rfl) n.max boot_Max (pa_cons
          (pe_lock (pe_lc (own := [("_law_other", 5)]) (g := gName 5) (tt := tYes) (te := tDGet (tVar 4) (tVar 5)) rfl nd (pi_keys (pv 4)) (blkOk_by (N := NL) (sc := defScope sLaw) (by decide +kernel)) (fun _ _ _ _ _ => pg_name (i := 5) nd rfl (.inl rfl)) (fun _ _ _ _ _ => pts_nil)
            (fun _ _ _ _ _ => pe_dget hu1 (pv 4) (pv 5) (fun _ _ => rfl)))) pa_nil))))
      (psst_cons (PST.of (ps_set (i := 7) nd rfl (.inl rfl) (pe_callTy call_tuple_of (by rfl) n.tuple boot_Tuple (pa_cons
          (pe_lc (own := [("_law_other", 5)]) (g := gName 5) (tt := tTest (tOp rEq (tDGet (tVar 4) (tVar 5)) (tVar 6))) (te := tVar 5) rfl nd (pi_list (pe_call G3 (hr.mono (by decide)) (by rfl) g3 k3 b3 .nil pass0 (pa_cons (pv 3) pa_nil))) (blkOk_by (N := NL) (sc := defScope sLaw) (by decide +kernel)) (fun _ _ _ _ _ => pg_name (i := 5) nd rfl (.inl rfl))
            (fun _ _ _ _ _ => pts_one (pt_cmpR op_eq (pe_dget hu1 (pv 4) (pv 5) (fun _ _ => rfl)) (pv 6) (nomark _))) (fun _ _ _ _ _ => pv 5)) pa_nil))))
      (psst_cons (PST.of (ps_if (pt_not (pt_val (pe_call G5 (hr.mono (by decide)) (by rfl) g5 k5 b5 .nil pass0 (pa_cons (pe_call G6 hr (by rfl) g6 k6 b6 .nil pass0 (pa_cons (pv 2) pa_nil)) (pa_cons (pe_tup (pa_cons (pv 6) (pa_cons (pv 7) pa_nil))) pa_nil))))) (pss_one (ps_ret pe_bl)) pss_nil))
      (psst_cons (PST.of (ps_setLc (i := 8) (own := [("_law_k", 15)]) (g := gName 15) (tt := tYes) (te := tBM K "list" (rCntI K) tVals (tCons (tVar 15) tNil)) rfl nd rfl rfl (sw_true rfl rfl rfl (by decide +kernel)) (pi_range1 (by rfl) n.range (pa_cons (pe_op op_add (pv 6) pe_int) pa_nil))
          (blkOk_by (N := NL) (sc := defScope sLaw) (by decide +kernel)) (fun _ _ _ _ _ => pg_name (i := 15) nd rfl (.inl rfl)) (fun _ _ _ _ _ => pts_nil)
          (fun _ _ _ _ _ => pe_bm PySem.F.plainAttrs_list PySem.F.slot_list_count PySem.F.type_list_count mt_lcount
            (pe_lock (pe_lc (own := [("_law_other", 5)]) (g := gName 5) (tt := tYes) (te := tDGet (tVar 4) (tVar 5)) rfl nd (pi_keys (pv 4)) (blkOk_by (N := NL) (sc := relS scCounts (defScope sLaw)) (by decide +kernel)) (fun _ _ _ _ _ => pg_name (i := 5) nd rfl (.inl rfl)) (fun _ _ _ _ _ => pts_nil)
              (fun _ _ _ _ _ => pe_dget hu1 (pv 4) (pv 5) (fun _ _ => rfl)))) (pa_cons (pv 15) pa_nil))))
      (psst_cons (PST.of (ps_if (pt_not (pt_val (pe_call G5 (hr.mono (by decide)) (by rfl) g5 k5 b5 .nil pass0 (pa_cons (pe_call G7 hr (by rfl) g7 k7 b7 .nil pass0 (pa_cons (pv 2) pa_nil)) (pa_cons (pe_callTy call_tuple_of (by rfl) n.tuple boot_Tuple (pa_cons (pv 8) pa_nil)) pa_nil))))) (pss_one (ps_ret pe_bl)) pss_nil))
      (psst_cons (PST.of (ps_if (pt_cmpR op_le (pv 3) pe_int (nomark _))
        (pss_cons (ps_set (i := 9) nd rfl (.inl rfl) (pe_lst pa_nil))
        (pss_cons (ps_for PassesOwn.never rfl (pi_list (pe_call G3 (hr.mono (by decide)) (by rfl) g3 k3 b3 .nil pass0 (pa_cons (pv 3) pa_nil))) (pg_name (i := 10) nd rfl (.inr rfl))
          (pss_cons (ps_set (i := 11) nd rfl (.inr rfl) (pe_call G2 (hr.mono (by decide)) (by rfl) g2 k2 b2 .nil pass0 (pa_cons (pv 10) pa_nil)))
          (pss_one (ps_set (i := 9) nd rfl (.inl rfl) (pe_op op_cat (pv 9)
            (pe_lc (own := [("_law_other", 5)]) (g := gName 5) (tt := tYes) (te := tTup (tCons (tDGet (tVar 11) (tVar 5)) (tCons (tVar 10) (tCons (tVar 5) tNil)))) rfl nd (pi_list (pe_call G3 (hr.mono (by decide)) (by rfl) g3 k3 b3 .nil pass0 (pa_cons (pv 3) pa_nil))) (blkOk_by (N := NL) (sc := defScope sLaw) (by decide +kernel)) (fun _ _ _ _ _ => pg_name (i := 5) nd rfl (.inl rfl)) (fun _ _ _ _ _ => pts_nil)
              (fun _ _ _ _ _ => pe_tup (pa_cons (pe_dget hu1 (pv 11) (pv 5) (fun _ _ => rfl)) (pa_cons (pv 10) (pa_cons (pv 5) pa_nil))))))))))
        (pss_cons (ps_set (i := 12) nd rfl (.inr rfl) (pe_ix ix_tup (pe_callB (cr_maxT rfl hu) (by rfl) n.max boot_Max (pa_cons (pv 9) pa_nil)) pe_int (fun _ _ => rfl)))
        (pss_one (ps_if (pt_not (pt_val (pe_call G5 (hr.mono (by decide)) (by rfl) g5 k5 b5 .nil pass0 (pa_cons (pe_call G8 hr (by rfl) g8 k8 b8 .nil pass0 (pa_cons (pv 3) pa_nil)) (pa_cons (pe_tup (pa_cons (pv 12) (pa_cons (pe_callTy call_tuple_of (by rfl) n.tuple boot_Tuple (pa_cons
            (pe_lc (own := [("_law_steps_here", 16), ("_law_one", 10), ("_law_other", 5)]) (g := gTup K 3 (gCons (gName 16) (gCons (gName 10) (gCons (gName 5) gNil)))) (tt := tTest (tOp rEq (tVar 16) (tVar 12))) (te := tTup (tCons (tVar 10) (tCons (tVar 5) tNil))) rfl nd (pi_list (pv 9)) (blkOk_by (N := NL) (sc := defScope sLaw) (by decide +kernel))
              (fun _ _ _ _ _ => pg_tup (by rfl) (pgs_cons (pg_name (i := 16) nd rfl (.inl rfl)) (pgs_cons (pg_name (i := 10) nd rfl (.inl rfl)) (pgs_cons (pg_name (i := 5) nd rfl (.inl rfl)) pgs_nil))))
              (fun _ _ _ _ _ => pts_one (pt_cmpR op_eq (pv 16) (pv 12) (nomark _))) (fun _ _ _ _ _ => pe_tup (pa_cons (pv 10) (pa_cons (pv 5) pa_nil)))) pa_nil)) pa_nil))) pa_nil))))) (pss_one (ps_ret pe_bl)) pss_nil))))) pss_nil))
      (psst_cons (PST.of (ps_set (i := 5) nd rfl (.inl rfl) (pe_call G4 (hr.mono (by decide)) (by rfl) g4 k4 b4 .nil pass0 (pa_cons (pv 1) (pa_cons (pe_call G3 (hr.mono (by decide)) (by rfl) g3 k3 b3 .nil pass0 (pa_cons (pv 3) pa_nil)) pa_nil)))))
      (psst_cons (pst_set (i := 13) nd rfl (.inl rfl) (CwR.pet_replT (CwR.pet_replT (CwR.pet_replC (pv 2)))))
      (psst_cons (pst_set (i := 14) nd rfl (.inl rfl) (CwR.pet_replT (CwR.pet_replT (CwR.pet_replC (pv 5)))))
      (CwR.psst_one (PST.of (ps_ret (pe_cmpR op_eq (pe_call G9 hr (by rfl) g9 k9 b9 .nil pass0 (pa_cons (pv 13) (pa_cons (pv 14) pa_nil))) (pe_call G9 hr (by rfl) g9 k9 b9 .nil pass0 (pa_cons (pv 2) (pa_cons (pv 5) pa_nil))) (nomark _)))))))))))))))), ?_⟩
    -- the row of draws
    refine ⟨_, rfl, by show 4 ≤ sizeLine; decide, fun r nr => ?_⟩
    have sr : Same H (upd H r (.lst [.ref a, .int 0, .int 5514, .int 0])) := same_upd nr
    have hT1 := (Ex.same hT sr).1
    have row1 : RowOk (upd H r (.lst [.ref a, .int 0, .int 5514, .int 0])) r a := ⟨0, 5514, 0, upd_same, by decide, by decide, by decide⟩
    have scr1 := (Scr.of hS nr).keep (keepS sr)
    generalize upd H r (.lst [.ref a, .int 0, .int 5514, .int 0]) = H1 at hT1 row1 scr1 ⊢
    -- the memory
    refine ⟨_, rfl, r, a, ns, rfl, row1, scr1, hlen, fun m H2 h1 h6 row2 kp2 => ?_⟩
    have hT2 := tab_keep hT1 row1 kp2
    have scr2 := scr1.keep kp2
    -- the span, the search
    refine ⟨_, rfl, _, m.length, rfl, ⟨by rw [tx_len]; exact nat_lt (by omega), (tx_len m).symm⟩, _, rfl, m, rfl, h6, fun d H3 s3 nd3 ed3 => ⟨by show 2 ≤ sizeLine; decide, fun p np => ?_⟩⟩
    refine ⟨p, _, rfl, .inl (.inl upd_same), rfl, _, _, rfl, _, _, rfl, rfl, ?_⟩
    have fx : Fx K T r a d m ns (upd H3 p (.tup [nv m.length, .ref d])) := (show Fx K T r a d m ns H3 from ⟨(Ex.same hT2 s3).1, row2.same s3, scr2.keep (keepS s3), ed3⟩).same (same_upd np)
    generalize upd H3 p (.tup [nv m.length, .ref d]) = H4 at fx ⊢
    -- the greatest number of steps
    refine vals_read (k := bfs m) rfl (by show 5 < 17; decide) fx.dict (bfs_len h6) (bfs_some h6) fun D5 H5 s5 _ e5 => ?_
    refine max_nats (K := K) (.inl (.inl e5)) ?_ fun most hm0 => ?_
    · exact vals_ne h6
    have hm : IsMax most (dsOf m) := hm0.perm (bfs_vals h6)
    have fx5 := fx.same s5
    have hml := max_le h6 hm
    have hml6 : (allM m.length).length ≤ 64 := Nat.le_trans (Nat.le_of_eq (allM_len h6)) (pow_le h6)
    -- the farthest ones
    refine ⟨_, rfl, m.length, rfl, h6, fun L6 H6 s6 nL6 e6 => ⟨L6, rfl, ⟨_, .inl (.inl e6)⟩, fun D7 nD7 => ?_⟩⟩
    have fx6 := fx5.same s6
    refine over_gen (xs := (allM m.length).map tv) (fun j H' => Same H6 H' ∧ H' D7 = some (.lst ((((allM m.length).take j).filter fun o => wl m o == most).map tv))) (over_list fun j H' p => .inl (.inl (p.1 _ _ e6))) ⟨same_upd nD7, upd_same⟩ (fun j x H' hx hp => ?_) (fun H7 hp => ?_)
    · obtain ⟨o, ho, rfl⟩ := map_at hx
      obtain ⟨s7, eD⟩ := hp
      have dg : DGet H' d (tv o) (some (nv (wl m o))) := by
        have h := DGet.k (k := Sum.inr (tx o)) (s7 _ _ fx6.dict)
        rw [valV_look, bfs_look h6 (len_at ho)] at h
        exact h
      refine ⟨rfl, _, rfl, _, rfl, d, _, rfl, dg, _, rfl, rfl, _, rfl, ?_⟩
      rw [nv_dec]
      by_cases he : (wl m o == most) = true
      · rw [he]
        refine iteT ⟨_, rfl, _, eD, ?_, same_upd2 nD7 s7, ?_⟩
        · refine small64' (Nat.le_trans ?_ hml6)
          rw [List.length_map]
          refine Nat.le_trans (List.length_filter_le _ _) ?_
          rw [List.length_take]
          exact Nat.min_le_right _ _
        · rw [upd_same, filter_take ho, if_pos he]
      · rw [Bool.not_eq_true] at he
        rw [he]
        refine iteF ⟨s7, ?_⟩
        rw [eD, filter_take ho, if_neg (by rw [he]; exact Bool.false_ne_true), List.append_nil]
    obtain ⟨s7, e7⟩ := hp
    rw [List.length_map, List.take_length] at e7
    refine ⟨D7, _, rfl, .inl ⟨.inl (.inl e7), fun l8 nl8 => ?_⟩⟩
    have fx8 := (fx6.same s7).same (same_upd (o := .tup (((allM m.length).filter fun o => wl m o == most).map tv)) nl8)
    have e8 : (upd H7 l8 (.tup (((allM m.length).filter fun o => wl m o == most).map tv))) l8 = some (.tup (((allM m.length).filter fun o => wl m o == most).map tv)) := upd_same
    generalize upd H7 l8 (.tup (((allM m.length).filter fun o => wl m o == most).map tv)) = H8 at fx8 e8 ⊢
    -- farthest
    refine ⟨_, rfl, m, rfl, h1, h6, fx8.tab, fun p9 q9 most9 H9 x9 hm9 ep9 eq9 => ?_⟩
    have emost : most9 = most := hm9.uniq hm
    subst emost
    refine ⟨_, rfl, _, rfl, by show 2 ≤ sizeLine; decide, fun t10 nt10 => ?_⟩
    have s10 := same_upd (H := H9) (o := .tup [nv most9, .ref l8]) nt10
    have hfl : (((allM m.length).filter fun o => wl m o == most9).map tv).length ≤ 1000 := by
      rw [List.length_map]
      exact Nat.le_trans (List.length_filter_le _ _) (by omega)
    refine ⟨_, _, rfl, al_pair (s10 _ _ ep9) upd_same al_int (al_same (s10 _ _ eq9) (s10 _ _ (x9.at fx8.tab e8 fun ps z => nomatch z)) hfl fun x hx => ?_), fun H11 s11 => ⟨true, rfl, iteF ?_⟩⟩
    · obtain ⟨o, _, rfl⟩ := List.mem_map.mp hx
      exact al_text
    have fx11 := ((fx8.ex x9).same s10).same s11
    -- the counts
    refine ⟨_, rfl, _, _, rfl, rfl, _, rfl, by omega, by omega, fun D12 nD12 => ?_⟩
    refine lc_range (lo := 0) (n := most9 + 1) (fun i H' => Same H11 H' ∧ H' D12 = some (.lst ((List.range i).map fun k => nv ((dsOf m).count k)))) ⟨same_upd nD12, upd_same⟩ (fun i H' hi hp => ?_) (fun H12 hp => ?_)
    · obtain ⟨s12, eD⟩ := hp
      refine ⟨rfl, yesT (tbm_ok ?_)⟩
      refine vals_read (k := bfs m) rfl (by show 5 < 17; decide) (s12 _ _ fx11.dict) (bfs_len h6) (bfs_some h6) fun D13 H13 s13 nD13 e13 => ?_
      have e13' : SqL K H13 D13 (((vals (bfs m)).map fun n : Nat => (n : Int)).map V.int) := by
        rw [List.map_map]
        exact .inl (.inl e13)
      refine ⟨.inl ⟨rfl, _, e13'⟩, _, rfl, D13, _, _, rfl, rfl, e13', _, s13 _ _ eD, ?_, same_upd2 nD12 (s12.trans s13), ?_⟩
      · rw [List.length_map, List.length_range]
        exact small1000 (by omega)
      · rw [upd_same, List.range_succ, List.map_append, Int.zero_add, count_nv, (bfs_vals h6).count_eq]
        rfl
    obtain ⟨s12, e12⟩ := hp
    have fx12 := fx11.same s12
    -- sphere_counts
    refine ⟨_, rfl, m, rfl, h1, h6, fx12.tab, fun p15 most15 H15 x15 hm15 e15 => ?_⟩
    have emost2 : most15 = most9 := hm15.uniq hm
    subst emost2
    refine ⟨_, rfl, D12, _, rfl, .inl ⟨.inl (.inl (x15.at fx12.tab e12 fun ps z => nomatch z)), fun l16 nl16 => ?_⟩⟩
    have s16 := same_upd (H := H15) (o := .tup ((List.range (most15 + 1)).map fun k => nv ((dsOf m).count k))) nl16
    refine ⟨_, _, rfl, al_same (s16 _ _ e15) upd_same ?_ (fun x hx => ?_), fun H17 s17 => ⟨true, rfl, iteF ?_⟩⟩
    · rw [List.length_map, List.length_range]
      omega
    · obtain ⟨o, _, rfl⟩ := List.mem_map.mp hx
      exact al_int
    have fx17 := ((fx12.ex x15).same s16).same s17
    refine next_ok ?_
    let I9 : L2.St → Hp → Prop := fun σ' H' => ∃ v5 v9 v10 v11 v12, σ' = [some (.ref a), some (.ref r), some (tv m), some (nv m.length), some (.ref d), v5, some (nv most15), some (.ref l8), some (.ref D12), v9, v10, v11, v12, none, none, none, none] ∧ Fx K T r a d m ns H'
    with_reducible refine seq_gen I9 ?_ ?_
    · intro X hX
      refine ⟨_, rfl, _, _, rfl, rfl, _, rfl, ite2 (fun h4 => ?_) (fun _ => ?_)⟩
      · have h4' : m.length ≤ 4 := by
          have := of_decide_eq_true h4
          omega
        have h16 : (allM m.length).length ≤ 16 := by
          rw [allM_len h6]
          exact Nat.pow_le_pow_right (by decide) h4'
        refine ⟨Nat.zero_le _, fun P0 nP0 => ?_⟩
        have fx18 := fx17.same (same_upd (o := .lst []) nP0)
        have e18 : (upd H17 P0 (.lst [])) P0 = some (.lst []) := upd_same
        generalize upd H17 P0 (.lst []) = H18 at fx18 e18 ⊢
        refine ⟨_, rfl, m.length, rfl, h6, fun L20 H20 s20 nL20 e20 => ⟨L20, rfl, ⟨_, .inl (.inl e20)⟩, ?_⟩⟩
        have fx20 := fx18.same s20
        refine over_for (xs := (allM m.length).map tv) (fun i σ H' => ∃ v5 Pp v10 v11 xs, σ = [some (.ref a), some (.ref r), some (tv m), some (nv m.length), some (.ref d), v5, some (nv most15), some (.ref l8), some (.ref D12), some (.ref Pp), v10, v11, none, none, none, none, none] ∧ Same H20 H' ∧ H' Pp = some (.lst xs) ∧ TupsAt H' xs (((allM m.length).take i).flatMap fun b => (allM m.length).map fun c => (wl b c, [b, c])))
          (over_list fun i H' ⟨σ, v5, Pp, v10, v11, xs, _, s, _⟩ => .inl (.inl (s _ _ e20))) ⟨_, P0, _, _, [], rfl, Same.refl _, s20 _ _ e18, .nil⟩ (fun i x σ H' hx hP => ?_) (fun σ H21 hP => ?_)
        · obtain ⟨v5, Pp, v10, v11, xs, rfl, s21, ePp, ht⟩ := hP
          obtain ⟨b, hb, rfl⟩ := map_at hx
          have hbl := len_at hb
          have hb6 : b.length ≤ 6 := by omega
          refine ⟨_, rfl, b, rfl, hb6, fun d' H22 s22 _ ed' => ?_⟩
          refine ⟨_, rfl, _, rfl, m.length, rfl, h6, fun L23 H23 s23 nL23 e23 => ⟨L23, rfl, ⟨_, .inl (.inl e23)⟩, fun D24 nD24 => ?_⟩⟩
          refine over_gen (xs := (allM m.length).map tv) (fun j H' => Same H23 H' ∧ ∃ ys, H' D24 = some (.lst ys) ∧ TupsAt H' ys (((allM m.length).take j).map fun c => (wl b c, [b, c]))) (over_list fun j H' p => .inl (.inl (p.1 _ _ e23))) ⟨same_upd nD24, [], upd_same, .nil⟩ (fun j x H' hx hp => ?_) (fun H25 hp => ?_)
          · obtain ⟨c, hc, rfl⟩ := map_at hx
            obtain ⟨s24, ys, eD, ht2⟩ := hp
            have dg : DGet H' d' (tv c) (some (nv (wl b c))) := by
              have h := DGet.k (k := Sum.inr (tx c)) (s24 _ _ (s23 _ _ ed'))
              rw [valV_look, bfs_look hb6 ((len_at hc).trans hbl.symm)] at h
              exact h
            refine ⟨rfl, yesT ⟨_, rfl, _, rfl, d', _, rfl, dg, _, rfl, _, rfl, by show 3 ≤ sizeLine; decide, fun t nt => ?_⟩⟩
            have ntD : D24 ≠ t := ne_of_none eD nt
            refine ⟨ys, by rw [upd_ne ntD]; exact eD, ?_, same_upd2 nD24 (same_upd2 (s24.free nt) s24), _, upd_same, ?_⟩
            · rw [TupsAt.len ht2]
              exact small64' (Nat.le_trans tk_len hml6)
            · rw [take_snoc hc]
              exact TupsAt.push (φ := rowV) (r := (wl b c, [b, c])) eD nt ht2
          · obtain ⟨s24, ys, eD, ht2⟩ := hp
            rw [List.length_map, List.take_length] at ht2
            have s25 : Same H' H25 := s22.trans (s23.trans s24)
            have ht1 := TupsAt.same s25 ht
            refine ⟨Pp, D24, xs, ys, rfl, rfl, s25 _ _ ePp, eD, ?_, fun p np => ?_⟩
            · rw [TupsAt.len ht, TupsAt.len ht2, flat_len, List.length_map, List.length_take]
              have e1 : min i (allM m.length).length * (allM m.length).length ≤ 16 * 16 := Nat.mul_le_mul (Nat.le_trans (Nat.min_le_right _ _) h16) h16
              exact nat_lt (by omega)
            · refine ⟨_, p, _, _, xs ++ ys, rfl, (s21.trans s25).trans (same_upd np), upd_same, ?_⟩
              rw [flat_take hb]
              exact TupsAt.same (same_upd np) (TupsAt.app ht2 ht1)
        · obtain ⟨v5, Pp, v10, v11, xs, rfl, s21, ePp, ht⟩ := hP
          rw [List.length_map, List.take_length] at ht
          have fx21 := fx20.same s21
          refine ⟨_, rfl, tnil_ok ?_⟩
          refine max_rows (K := K) (rs := rowsOf m.length) (.inl (.inl ePp)) ht (rows_ne h6) fun t rw0 hr0 hmx et => ?_
          refine ⟨t, rowV rw0, 0, nv rw0.1, rfl, rfl, .inl (.inl et), atI_nat (j := 0) rfl, ?_⟩
          refine ⟨_, rfl, m.length, rfl, h1, h4', fun p26 q26 most26 H26 xs26 s26 hm26 ep26 eq26 ht26 => ?_⟩
          have em26 : most26 = rw0.1 := hm26.uniq hmx
          subst em26
          refine ⟨_, rfl, _, rfl, Pp, rfl, ⟨_, .inl (.inl (s26 _ _ ePp))⟩, fun D27 nD27 => ?_⟩
          refine over_gen (xs := xs) (fun j H' => Same H26 H' ∧ ∃ ys, H' D27 = some (.lst ys) ∧ TupsG (fun r => r.2.map tv) H' ys (((rowsOf m.length).take j).filter fun s => s.1 == rw0.1)) (over_list fun j H' p => .inl (.inl (p.1 _ _ (s26 _ _ ePp)))) ⟨same_upd nD27, [], upd_same, .nil⟩ (fun j x H' hx hp => ?_) (fun H28 hp => ?_)
          · obtain ⟨s27, ys, eD, ht2⟩ := hp
            obtain ⟨t', r', rfl, hr', et'⟩ := TupsAt.at ht hx
            obtain ⟨b, hb, hr2⟩ := List.mem_flatMap.mp (List.mem_of_getElem? hr')
            obtain ⟨c, hc, rfl⟩ := List.mem_map.mp hr2
            refine ⟨t', _, rfl, .inl (.inl (s27 _ _ (s26 _ _ et'))), rfl, _, _, rfl, _, _, rfl, _, _, rfl, rfl, rfl, ?_⟩
            refine ⟨_, rfl, _, rfl, rfl, _, rfl, ?_⟩
            rw [nv_dec]
            have hsn : (rowsOf m.length).take (j + 1) = (rowsOf m.length).take j ++ [(wl b c, [b, c])] := by
              have h := take_snoc (f := fun x : Row => x) hr'
              rw [List.map_id', List.map_id'] at h
              exact h
            by_cases he : (wl b c == rw0.1) = true
            · rw [he]
              refine iteT ⟨_, rfl, _, rfl, by show 2 ≤ sizeLine; decide, fun t2 nt2 => ?_⟩
              have ntD : D27 ≠ t2 := ne_of_none eD nt2
              refine ⟨ys, by rw [upd_ne ntD]; exact eD, ?_, same_upd2 nD27 (same_upd2 (s27.free nt2) s27), _, upd_same, ?_⟩
              · rw [TupsAt.len ht2]
                refine small1000 (Nat.le_trans (List.length_filter_le _ _) ?_)
                rw [List.length_take]
                exact Nat.le_trans (Nat.min_le_right _ _) (Nat.le_trans (rows_len h4') (by decide))
              · rw [hsn, List.filter_append, List.filter_cons_of_pos (p := fun s : Row => s.1 == rw0.1) he]
                exact TupsAt.push (φ := fun r => r.2.map tv) (r := (wl b c, [b, c])) eD nt2 ht2
            · rw [Bool.not_eq_true] at he
              rw [he]
              refine iteF ⟨s27, ys, eD, ?_⟩
              rw [hsn, List.filter_append, List.filter_cons_of_neg (p := fun s : Row => s.1 == rw0.1) (by show ¬ (wl b c == rw0.1) = true; rw [he]; exact Bool.false_ne_true), List.filter_nil, List.append_nil]
              exact ht2
          · obtain ⟨s27, ys, eD, ht2⟩ := hp
            have hxl : xs.length = (rowsOf m.length).length := TupsAt.len ht
            rw [hxl, List.take_length] at ht2
            refine ⟨D27, _, rfl, .inl ⟨.inl (.inl eD), fun l29 nl29 => ⟨by show 2 ≤ sizeLine; decide, fun p30 np30 => ?_⟩⟩⟩
            have s29 : Same H28 (upd H28 l29 (.tup ys)) := same_upd nl29
            have s30 : Same (upd H28 l29 (.tup ys)) (upd (upd H28 l29 (.tup ys)) p30 (.tup [nv rw0.1, .ref l29])) := same_upd np30
            have s28 : Same H26 (upd (upd H28 l29 (.tup ys)) p30 (.tup [nv rw0.1, .ref l29])) := s27.trans (s29.trans s30)
            have hlen26 : xs26.length = ys.length := by rw [TupsAt.len ht26, TupsAt.len ht2]
            have hlen27 : ys.length ≤ 1000 := by
              rw [TupsAt.len ht2]
              exact Nat.le_trans (List.length_filter_le _ _) (Nat.le_trans (rows_len h4') (by decide))
            have alq : AlN (upd (upd H28 l29 (.tup ys)) p30 (.tup [nv rw0.1, .ref l29])) 3 (.ref q26) (.ref l29) := by
              refine .inr (.inr ⟨q26, l29, xs26, ys, rfl, rfl, s28 _ _ eq26, s30 _ _ upd_same, hlen26, hlen27, ?_⟩)
              refine tups_al (φ := fun r => r.2.map tv) (rs := (rowsOf m.length).filter fun s => s.1 == rw0.1) (n := 1) (fun r hr => ?_) (TupsAt.same s28 ht26) (TupsAt.same (s29.trans s30) ht2)
              obtain ⟨b, hb, hr2⟩ := List.mem_flatMap.mp (List.mem_filter.mp hr).1
              obtain ⟨c, hc, rfl⟩ := List.mem_map.mp hr2
              refine ⟨by show 2 ≤ 1000; decide, fun x hx => ?_⟩
              obtain ⟨o, _, rfl⟩ := List.mem_map.mp hx
              exact al_text
            refine ⟨_, _, rfl, al_pair (s28 _ _ ep26) upd_same al_int alq, fun H31 s31 => ⟨true, rfl, iteF ?_⟩⟩
            exact hX _ _ ⟨_, _, _, _, _, rfl, ((fx21.same s26).same s28).same s31⟩
      · exact hX _ _ ⟨_, _, _, _, _, rfl, fx17⟩
    · rintro σ' H18 ⟨v5, v9, v10, v11, v12, rfl, fx18⟩
      -- another memory
      refine ⟨_, rfl, _, rfl, m.length, rfl, h6, fun L19 H19 s19 nL19 e19 => ?_⟩
      have fx19 := fx18.same s19
      refine ⟨r, a, ns, fx19.row, fx19.scr, hlen, .inr ⟨L19, _, rfl, .inl (.inl e19), fx18.row.ne nL19, ?_, ?_, fun x H20 hx row20 off20 => ?_⟩⟩
      · rw [List.length_map]
        exact List.length_pos_iff.mpr (allM_ne h6)
      · rw [List.length_map]
        omega
      obtain ⟨o, ho, rfl⟩ := List.mem_map.mp hx
      have hol : o.length = m.length := (mem_allM _ _).mp ho
      have tab20 := tab_keep fx19.tab fx19.row off20.keep
      have hx1 : ("x" : Str).length = 1 := by decide +kernel
      have hx0 : ("0" : Str).length = 1 := by decide +kernel
      have hx2 : ("1" : Str).length = 1 := by decide +kernel
      -- turned round
      refine ⟨_, rfl, tx m, rfl, ?_, _, rfl, ?_, _, rfl, ?_, ?_⟩
      · rw [tx_len, hx1]
        omega
      · rw [(replLen_tx h6).1, hx0]
        omega
      · rw [(replLen_tx h6).2, hx2]
        omega
      rw [repl_tx h6]
      refine ⟨_, rfl, tx o, rfl, ?_, _, rfl, ?_, _, rfl, ?_, ?_⟩
      · rw [tx_len, hx1]
        omega
      · rw [(replLen_tx (by omega)).1, hx0]
        omega
      · rw [(replLen_tx (by omega)).2, hx2]
        omega
      rw [repl_tx (show o.length ≤ 6 by omega)]
      refine ⟨_, rfl, _, rfl, flip m, flip o, rfl, by rw [flip_len]; exact h1, by rw [flip_len]; exact h6, by rw [flip_len, flip_len]; exact hol, tab20, fun H21 x21 => ?_⟩
      refine ⟨_, rfl, _, rfl, m, o, rfl, h1, h6, hol, x21.1, fun H22 x22 => ⟨rfl, ?_⟩⟩
      show Q (.bl (decide (nv (wl (flip m) (flip o)) = nv (wl m o)))) H22
      rw [flip_wl, decide_eq_true rfl]
      exact q H22
end
end K14

/-! ## K14Z -/
set_option maxHeartbeats 0
namespace K14
open PySem PySem.Spec PyProof.Rows L2
/-! ### the head: facts by names -/
def df (x : Str) (i : Nat) : He.DefD := ⟨(x, none), x, x, defArgs (top i), defBody (top i), defScope (top i), [], []⟩
def fn : List He.DefD := [df "is_in" 8, df "is_memory" 9, df "need_memory" 10, df "need_span" 11, df "all_memories" 12, df "need_pair" 14, df "way_from_all" 17, df "way_of" 18, df "distance" 19, df "farthest" 20, df "sphere_counts" 21, df "diameter" 22,
  df "_law_taken" 24, df "_law_pick" 25, df "_law_alike" 26, df "_law_step" 27, df "_law_all" 29, df "_law_memory" 30, df "_law_steps_from" 32, df "law" 33]
def fa : List He.Fa := [.glo "is_in", .glo "is_memory", .glo "need_memory", .glo "need_span", .glo "all_memories", .glo "need_pair", .glo "way_from_all", .glo "way_of", .glo "distance", .glo "farthest", .glo "sphere_counts", .glo "diameter",
  .glo "_law_taken", .glo "_law_pick", .glo "_law_alike", .glo "_law_step", .glo "_law_all", .glo "_law_memory", .glo "_law_steps_from", .glo "law",
  .free "isinstance", .free "int", .free "bool", .free "str", .free "len", .free "all", .free "range", .free "max", .free "tuple", .free "list", .free "sorted", .int "MOST_SPAN" 9, .int "MOST_DIAMETER" 6]
def tf : List He.Defn := [("is_memory", none)]
def ex0 : PySem.W.Frag → Bool := fun _ => true
abbrev R : PySem.W.OpenRow := PySem.W.OpenLaw.row PySem.Challenge.rw_relaybanks_k14_whole_spheres
abbrev hk : PySem.W.Hook := He.hookX 2 fa fn [] tf ex0
def ob (s : PySem.W.SharedT) : He.AlX := He.obsX 2 fa fn [] tf ex0 (HandSHeadRun.getT s)
theorem ob_eq (s : PySem.W.SharedT) : ob s = hk.obs s.abs := He.obsX_eq (HandSHeadRun.getT_eq s)
def names : List Str := ["RelayError", "BadMemory", "BadSpan", "BadPair", "TooMany", "MOST_SPAN", "is_in", "is_memory", "need_memory", "need_span", "all_memories", "need_pair", "MOST_DIAMETER", "way_from_all", "way_of", "distance", "farthest", "sphere_counts", "diameter", "_law_taken", "_law_pick", "_law_alike", "_law_step", "_law_behind", "_law_all", "_law_memory", "_law_steps", "_law_steps_from"]
theorem run (w : World) : HandSHeadRun.RunEq R (PySem.W.view R.prog [33]) hk ob 4000 names w := by
  intro os
  kernel_rfl
theorem hasOf {P : Program} {w : World} {K : PySem.W.Frag} {mg : Str → Option Value} {base : Heap} {x : Str} {st : Stmt} {f : Addr} {fd : FuncData} {k : Nat} {ps : List Str} {sp : Sp} (F : FnP K x st f fd) (G : FnOk P w K mg base CX0 k f fd ps sp) (g : mg x = some (.ref f)) (b : Binds K fd ps []) : Has P w K mg base x k ps sp := ⟨f, fd, G, g, F.kp, b⟩
theorem code_of {K : PySem.W.Frag} {fd : FuncData} (F : FnP K "is_memory" sIsMem (He.fAd K ("is_memory", none)) fd) : ∀ oc od osl, K.lookup (He.fAd K ("is_memory", none)) = some ⟨oc, od, .func fd, osl⟩ → fd.code = .ref (He.cT K ("is_memory", none)).1 := by
  intro oc od osl lk
  obtain ⟨oc1, od1, dV, kV, doc, pm, an, cdv, ct, osl1, rfl, lk1, hcd, _, _⟩ := F.ex
  obtain ⟨c, ec⟩ := He.codeIn_ref hcd
  have e2 : (PySem.W.fnOf "is_memory" "is_memory" (defArgs sIsMem) (defBody sIsMem) (defScope sIsMem) dV kV doc pm an cdv ct).code = .ref c := ec
  have e3 : He.codeOf K ("is_memory", none) = c := He.codeOf_eq lk e2
  rw [e2]
  show Value.ref c = Value.ref (He.codeOf K ("is_memory", none))
  rw [e3]
theorem facts {P : Program} {w : World} {K : PySem.W.Frag} {h : Heap} {mg : Str → Option Value} {f : Addr} (X : K.In h) (G : h.Ns mainGlobals mg) (hfa : mg ("law" : Str) = some (.ref f)) (c : He.SaysD fa fn K) :
    ∃ fd : FuncData, (∀ (s : Shared) (v : Value), BindsTo s fd ⟨[v], []⟩ [("_law_script", v)]) ∧ ∀ base : Heap, K.In base → base.Ns mainGlobals mg → GxR.TabB base mg (He.cT K ("is_memory", none)).1 (He.cT K ("is_memory", none)).2 →
      FnOk P w K mg base CX0 10 f fd ["_law_script"] (spLaw K (He.cT K ("is_memory", none)).2) := by
  obtain ⟨d0, F0⟩ := c.def_ 0 (d := df "is_in" 8) rfl
  have F0 : FnP K "is_in" sIsIn (He.fAd K ("is_in", none)) d0 := F0
  obtain ⟨d1, F1⟩ := c.def_ 1 (d := df "is_memory" 9) rfl
  have F1 : FnP K "is_memory" sIsMem (He.fAd K ("is_memory", none)) d1 := F1
  obtain ⟨d2, F2⟩ := c.def_ 2 (d := df "need_memory" 10) rfl
  have F2 : FnP K "need_memory" sNeedMem (He.fAd K ("need_memory", none)) d2 := F2
  obtain ⟨d3, F3⟩ := c.def_ 3 (d := df "need_span" 11) rfl
  have F3 : FnP K "need_span" sNeedSpan (He.fAd K ("need_span", none)) d3 := F3
  obtain ⟨d4, F4⟩ := c.def_ 4 (d := df "all_memories" 12) rfl
  have F4 : FnP K "all_memories" sAllMem (He.fAd K ("all_memories", none)) d4 := F4
  obtain ⟨d5, F5⟩ := c.def_ 5 (d := df "need_pair" 14) rfl
  have F5 : FnP K "need_pair" sNeedPair (He.fAd K ("need_pair", none)) d5 := F5
  obtain ⟨d6, F6⟩ := c.def_ 6 (d := df "way_from_all" 17) rfl
  have F6 : FnP K "way_from_all" sWfa (He.fAd K ("way_from_all", none)) d6 := F6
  obtain ⟨d7, F7⟩ := c.def_ 7 (d := df "way_of" 18) rfl
  have F7 : FnP K "way_of" sWayOf (He.fAd K ("way_of", none)) d7 := F7
  obtain ⟨d8, F8⟩ := c.def_ 8 (d := df "distance" 19) rfl
  have F8 : FnP K "distance" sDist (He.fAd K ("distance", none)) d8 := F8
  obtain ⟨d9, F9⟩ := c.def_ 9 (d := df "farthest" 20) rfl
  have F9 : FnP K "farthest" sFar (He.fAd K ("farthest", none)) d9 := F9
  obtain ⟨d10, F10⟩ := c.def_ 10 (d := df "sphere_counts" 21) rfl
  have F10 : FnP K "sphere_counts" sSphere (He.fAd K ("sphere_counts", none)) d10 := F10
  obtain ⟨d11, F11⟩ := c.def_ 11 (d := df "diameter" 22) rfl
  have F11 : FnP K "diameter" sDiam (He.fAd K ("diameter", none)) d11 := F11
  obtain ⟨d12, F12⟩ := c.def_ 12 (d := df "_law_taken" 24) rfl
  have F12 : FnP K "_law_taken" sTaken (He.fAd K ("_law_taken", none)) d12 := F12
  obtain ⟨d13, F13⟩ := c.def_ 13 (d := df "_law_pick" 25) rfl
  have F13 : FnP K "_law_pick" sPick (He.fAd K ("_law_pick", none)) d13 := F13
  obtain ⟨d14, F14⟩ := c.def_ 14 (d := df "_law_alike" 26) rfl
  have F14 : FnP K "_law_alike" sAlike (He.fAd K ("_law_alike", none)) d14 := F14
  obtain ⟨d15, F15⟩ := c.def_ 15 (d := df "_law_step" 27) rfl
  have F15 : FnP K "_law_step" sStep (He.fAd K ("_law_step", none)) d15 := F15
  obtain ⟨d16, F16⟩ := c.def_ 16 (d := df "_law_all" 29) rfl
  have F16 : FnP K "_law_all" sLawAll (He.fAd K ("_law_all", none)) d16 := F16
  obtain ⟨d17, F17⟩ := c.def_ 17 (d := df "_law_memory" 30) rfl
  have F17 : FnP K "_law_memory" sLawMem (He.fAd K ("_law_memory", none)) d17 := F17
  obtain ⟨d18, F18⟩ := c.def_ 18 (d := df "_law_steps_from" 32) rfl
  have F18 : FnP K "_law_steps_from" sSteps (He.fAd K ("_law_steps_from", none)) d18 := F18
  obtain ⟨d19, F19⟩ := c.def_ 19 (d := df "law" 33) rfl
  have F19 : FnP K "law" sLaw (He.fAd K ("law", none)) d19 := F19
  have e := hfa.symm.trans (He.glo_ok X G (c.fact 19 (f := .glo "law") rfl))
  cases e
  have g0 := He.glo_ok X G (c.fact 0 (f := .glo "is_in") rfl)
  have g1 := He.glo_ok X G (c.fact 1 (f := .glo "is_memory") rfl)
  have g2 := He.glo_ok X G (c.fact 2 (f := .glo "need_memory") rfl)
  have g3 := He.glo_ok X G (c.fact 3 (f := .glo "need_span") rfl)
  have g4 := He.glo_ok X G (c.fact 4 (f := .glo "all_memories") rfl)
  have g5 := He.glo_ok X G (c.fact 5 (f := .glo "need_pair") rfl)
  have g6 := He.glo_ok X G (c.fact 6 (f := .glo "way_from_all") rfl)
  have g7 := He.glo_ok X G (c.fact 7 (f := .glo "way_of") rfl)
  have g8 := He.glo_ok X G (c.fact 8 (f := .glo "distance") rfl)
  have g9 := He.glo_ok X G (c.fact 9 (f := .glo "farthest") rfl)
  have g10 := He.glo_ok X G (c.fact 10 (f := .glo "sphere_counts") rfl)
  have g11 := He.glo_ok X G (c.fact 11 (f := .glo "diameter") rfl)
  have g12 := He.glo_ok X G (c.fact 12 (f := .glo "_law_taken") rfl)
  have g13 := He.glo_ok X G (c.fact 13 (f := .glo "_law_pick") rfl)
  have g14 := He.glo_ok X G (c.fact 14 (f := .glo "_law_alike") rfl)
  have g15 := He.glo_ok X G (c.fact 15 (f := .glo "_law_step") rfl)
  have g16 := He.glo_ok X G (c.fact 16 (f := .glo "_law_all") rfl)
  have g17 := He.glo_ok X G (c.fact 17 (f := .glo "_law_memory") rfl)
  have g18 := He.glo_ok X G (c.fact 18 (f := .glo "_law_steps_from") rfl)
  have nm : Nm mg := ⟨He.free_ok X G (c.fact 20 (f := .free "isinstance") rfl), He.free_ok X G (c.fact 21 (f := .free "int") rfl), He.free_ok X G (c.fact 22 (f := .free "bool") rfl), He.free_ok X G (c.fact 23 (f := .free "str") rfl),
    He.free_ok X G (c.fact 24 (f := .free "len") rfl), He.free_ok X G (c.fact 25 (f := .free "all") rfl), He.free_ok X G (c.fact 26 (f := .free "range") rfl), He.free_ok X G (c.fact 27 (f := .free "max") rfl), He.free_ok X G (c.fact 28 (f := .free "tuple") rfl),
    He.free_ok X G (c.fact 29 (f := .free "list") rfl), He.free_ok X G (c.fact 30 (f := .free "sorted") rfl), He.int_ok X G (c.fact 31 (f := .int "MOST_SPAN" 9) rfl), He.int_ok X G (c.fact 32 (f := .int "MOST_DIAMETER" 6) rfl)⟩
  have bl := FunD.bindsA (ps := ["_law_script"]) F19 fun _ _ _ _ _ _ us hl => match us, hl with | [_], _ => rfl
  refine ⟨d19, fun s v => bl s [v] rfl, fun base hK hns tb => ?_⟩
  have M1 : HasMem P w K mg base (He.cT K ("is_memory", none)).2 _ d1 := ⟨ok_isMem F1 (code_of F1) tb nm, g1, F1.kp, FunD.bindsN (ps := ["value"]) F1 fun _ _ _ _ _ _ us hl => match us, hl with | [_], _ => rfl⟩
  have M2 : HasNM P w K mg base (He.cT K ("is_memory", none)).2 _ d2 := ⟨ok_needMem F2 M1, g2, F2.kp, FunD.bindsN (ps := ["memory"]) F2 fun _ _ _ _ _ _ us hl => match us, hl with | [_], _ => rfl⟩
  have NM : Has P w K mg base "need_memory" 2 ["memory"] (spNeedMem (He.cT K ("is_memory", none)).2) := ⟨_, _, M2.ok, M2.g, M2.kp, M2.b⟩
  have NP := hasOf (ps := ["one", "other"]) F5 (ok_needPair F5 nm M2) g5 (FunD.bindsN F5 fun _ _ _ _ _ _ us hl => match us, hl with | [_, _], _ => rfl)
  have NS := hasOf (ps := ["span"]) F3 (ok_needSpan (P := P) (w := w) (base := base) F3 nm F0 g0) g3 (FunD.bindsN F3 fun _ _ _ _ _ _ us hl => match us, hl with | [_], _ => rfl)
  have AM := hasOf (ps := ["span"]) F4 (ok_allMem (P := P) (w := w) (base := base) (k := 0) F4 nm) g4 (FunD.bindsN F4 fun _ _ _ _ _ _ us hl => match us, hl with | [_], _ => rfl)
  have WO := hasOf (ps := ["one", "other"]) F7 (ok_wayOf F7 nm (ok_wfa (P := P) (w := w) (base := base) F6 nm g6 6) g6 F6.kp (FunD.bindsN F6 fun _ _ _ _ _ _ us hl => match us, hl with | [_, _], _ => rfl)) g7 (FunD.bindsN F7 fun _ _ _ _ _ _ us hl => match us, hl with | [_, _], _ => rfl)
  have TK := hasOf (ps := ["_law_row", "_law_many"]) F12 (ok_taken (P := P) (w := w) (base := base) (k := 0) F12 nm) g12 (FunD.bindsN F12 fun _ _ _ _ _ _ us hl => match us, hl with | [_, _], _ => rfl)
  have PK := hasOf (ps := ["_law_row", "_law_things"]) F13 (ok_pick F13 nm TK) g13 (FunD.bindsN F13 fun _ _ _ _ _ _ us hl => match us, hl with | [_, _], _ => rfl)
  have ST := hasOf (ps := ["_law_memory_here", "_law_letter"]) F15 (ok_step (P := P) (w := w) (base := base) (k := 0) F15 nm) g15 (FunD.bindsN F15 fun _ _ _ _ _ _ us hl => match us, hl with | [_, _], _ => rfl)
  refine ok_law F19 nm ⟨?_, ?_, ?_, PK, ?_, ?_, ?_, ?_, ?_⟩
  · exact hasOf F17 (ok_lawMem F17 nm TK PK) g17 (FunD.bindsN F17 fun _ _ _ _ _ _ us hl => match us, hl with | [_, _], _ => rfl)
  · exact hasOf F18 (ok_steps F18 nm ST) g18 (FunD.bindsN F18 fun _ _ _ _ _ _ us hl => match us, hl with | [_], _ => rfl)
  · exact hasOf F16 (ok_lawAll (k := 0) F16 nm) g16 (FunD.bindsN F16 fun _ _ _ _ _ _ us hl => match us, hl with | [_], _ => rfl)
  · exact hasOf F14 (ok_alike F14 nm g14 4) g14 (FunD.bindsN F14 fun _ _ _ _ _ _ us hl => match us, hl with | [_, _], _ => rfl)
  · exact hasOf F9 (ok_far F9 nm NM AM WO) g9 (FunD.bindsN F9 fun _ _ _ _ _ _ us hl => match us, hl with | [_], _ => rfl)
  · exact hasOf F10 (ok_sphere F10 nm NM AM WO) g10 (FunD.bindsN F10 fun _ _ _ _ _ _ us hl => match us, hl with | [_], _ => rfl)
  · exact hasOf F11 (ok_diam F11 nm NS AM WO) g11 (FunD.bindsN F11 fun _ _ _ _ _ _ us hl => match us, hl with | [_], _ => rfl)
  · exact hasOf F8 (ok_dist F8 nm NP WO) g8 (FunD.bindsN F8 fun _ _ _ _ _ _ us hl => match us, hl with | [_, _], _ => rfl)
end K14
open PySem PySem.W PySem.Calls PyProof.Rows
theorem PySem.Challenge.cw_relaybanks_k14_whole_spheres_holds : PySem.Challenge.rw_relaybanks_k14_whole_spheres.Holds := by
  w_on; o_law
  refine HandSHeadRun.head_any (r := OpenLaw.row PySem.Challenge.rw_relaybanks_k14_whole_spheres) (q := view (OpenLaw.row PySem.Challenge.rw_relaybanks_k14_whole_spheres).prog [33]) (H := K14.hk) (ob := K14.ob) (M := 4000) (loose := K14.names) (d := HandSHeadRun.topDef (OpenLaw.row PySem.Challenge.rw_relaybanks_k14_whole_spheres).prog 33) (kwd := []) K14.ob_eq
    (by kernel_rfl) (fun s => by kernel_rfl) K14.run (by kernel_rfl) (by kernel_rfl) (by kernel_rfl) (by rfl) (by first | assumption | decide +kernel) (by decide +kernel) ⟨rfl, rfl, rfl, rfl, rfl, by decide +kernel⟩ ?hw ?hc
  case hw => w_witness2
  case hc =>
    refine LamX.walk_ofTsE (l := PySem.Challenge.rw_relaybanks_k14_whole_spheres) (n := 63) (k := 10) (x := "_law_script") (CX := fun _ => L2.CX0) rfl (by decide) (by kernel_rfl) ⟨rfl, by decide, by decide⟩ ?F (fun _ _ _ _ _ z => z)
    intro w mg fa h Y G hmg0
    obtain ⟨K, KX, c⟩ := Y
    have hmg : mg ("law" : PySem.Str) = some (.ref fa) := by
      have e : (HandSHeadRun.topDef (OpenLaw.row PySem.Challenge.rw_relaybanks_k14_whole_spheres).prog 33).name = ("law" : PySem.Str) := by kernel_rfl
      rw [← e]
      exact hmg0
    obtain ⟨fd, hb, hF⟩ := K14.facts (P := (PySem.Challenge.rw_relaybanks_k14_whole_spheres).prog) (w := w) KX G hmg c.t.d
    refine ⟨K, KX, fd, [He.cT K ("is_memory", none)], K14.spLaw K (He.cT K ("is_memory", none)).2, fun p hp => ?_, fun p hp => ?_, fun p hp => ?_, hb, fun H a ns hl _ hT hS => ?_, fun base hK hns htb => ?_⟩
    · have e : p = He.cT K ("is_memory", none) := by simpa using hp
      rw [e]
      exact c.empty ("is_memory", none) List.mem_cons_self
    · have e : p = He.cT K ("is_memory", none) := by simpa using hp
      rw [e]
      exact c.out ("is_memory", none) List.mem_cons_self
    · have e : p = He.cT K ("is_memory", none) := by simpa using hp
      rw [e]
      exact PySem.W.codeHd_of_K KX (c.hd ("is_memory", none) List.mem_cons_self)
    · exact ⟨a, ns, rfl, hS, hl, ⟨#[], hT _ List.mem_cons_self, True.intro⟩, fun _ => rfl⟩
    · have t := htb _ List.mem_cons_self
      exact hF base hK hns ⟨t.code, t.bm, t.gP⟩

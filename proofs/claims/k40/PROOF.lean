import PyProof.Rows.All
import Wide.All
import OpenK.AllK
import Wide.FinOn
import HandS.ForMost
import KE.KDictZip
import HandS.IsInst
import HandS.WideBits
import HandS.NoneIn
import HandS.Zip
import HandS.Evl
import PySem.Challenge.RW_halvewright_k40_whole_where_a_map_rests
set_option Elab.async false
set_option linter.all false
set_option maxRecDepth 100000
set_option maxHeartbeats 4000000
namespace Hw
/-! ### trees of cuts, their leaves' depths -/
inductive T where
  | lf
  | nd (l r : T)
def T.leaves : T → Nat
  | .lf => 1
  | .nd l r => l.leaves + r.leaves
def T.deps : T → Nat → List Nat
  | .lf, d => [d]
  | .nd l r, d => l.deps (d + 1) ++ r.deps (d + 1)
def T.ht : T → Nat
  | .lf => 0
  | .nd l r => max l.ht r.ht + 1
theorem deps_len : ∀ (t : T) (d : Nat), (t.deps d).length = t.leaves
  | .lf, _ => rfl
  | .nd l r, d => by
    show (l.deps (d + 1) ++ r.deps (d + 1)).length = l.leaves + r.leaves
    rw [List.length_append, deps_len l, deps_len r]
theorem leaves_pos : ∀ t : T, 0 < t.leaves
  | .lf => Nat.one_pos
  | .nd l r => by
    have h := leaves_pos l
    show 0 < l.leaves + r.leaves
    omega
theorem ht_le : ∀ (t : T) (d M : Nat), (∀ e, e ∈ t.deps d → e ≤ M) → d + t.ht ≤ M
  | .lf, d, M, h => h d (List.mem_singleton.mpr rfl)
  | .nd l r, d, M, h => by
    have h1 := ht_le l (d + 1) M fun e he => h e (List.mem_append_left _ he)
    have h2 := ht_le r (d + 1) M fun e he => h e (List.mem_append_right _ he)
    show d + (max l.ht r.ht + 1) ≤ M
    omega
theorem deps_ge : ∀ (t : T) (d e : Nat), e ∈ t.deps d → d ≤ e
  | .lf, d, e, h => Nat.le_of_eq (List.mem_singleton.mp h).symm
  | .nd l r, d, e, h => by
    rcases List.mem_append.mp h with h | h
    · have := deps_ge l (d + 1) e h
      omega
    · have := deps_ge r (d + 1) e h
      omega
theorem deps_add : ∀ (t : T) (x y : Nat), t.deps (x + y) = (t.deps y).map (x + ·)
  | .lf, x, y => rfl
  | .nd l r, x, y => by
    show l.deps (x + y + 1) ++ r.deps (x + y + 1) = (l.deps (y + 1) ++ r.deps (y + 1)).map (x + ·)
    rw [List.map_append, ← deps_add l x (y + 1), ← deps_add r x (y + 1)]
    rfl
/-- a leaf exchanged for a tree -/
theorem put_leaf (u : T) : ∀ (t : T) (d k : Nat) (x : Nat), (t.deps d)[k]? = some x → ∃ t' : T, t'.deps d = (t.deps d).take k ++ u.deps x ++ (t.deps d).drop (k + 1)
  | .lf, d, k, x, h => by
    cases k with
    | zero =>
      have e : d = x := Option.some.inj h
      subst e
      refine ⟨u, ?_⟩
      show u.deps d = [] ++ u.deps d ++ []
      rw [List.nil_append, List.append_nil]
    | succ k => exact nomatch (show (none : Option Nat) = some x from h)
  | .nd l r, d, k, x, h => by
    have h' : (l.deps (d + 1) ++ r.deps (d + 1))[k]? = some x := h
    by_cases c : k < (l.deps (d + 1)).length
    · rw [List.getElem?_append_left c] at h'
      obtain ⟨l', e⟩ := put_leaf u l (d + 1) k x h'
      refine ⟨.nd l' r, ?_⟩
      show l'.deps (d + 1) ++ r.deps (d + 1) = (l.deps (d + 1) ++ r.deps (d + 1)).take k ++ u.deps x ++ (l.deps (d + 1) ++ r.deps (d + 1)).drop (k + 1)
      rw [e, List.take_append_of_le_length (Nat.le_of_lt c), List.drop_append_of_le_length c]
      simp only [List.append_assoc]
    · rw [List.getElem?_append_right (Nat.le_of_not_lt c)] at h'
      obtain ⟨r', e⟩ := put_leaf u r (d + 1) _ x h'
      refine ⟨.nd l r', ?_⟩
      show l.deps (d + 1) ++ r'.deps (d + 1) = (l.deps (d + 1) ++ r.deps (d + 1)).take k ++ u.deps x ++ (l.deps (d + 1) ++ r.deps (d + 1)).drop (k + 1)
      have e1 : (l.deps (d + 1) ++ r.deps (d + 1)).take k = l.deps (d + 1) ++ (r.deps (d + 1)).take (k - (l.deps (d + 1)).length) := by
        rw [List.take_append, List.take_of_length_le (Nat.le_of_not_lt c)]
      have e2 : (l.deps (d + 1) ++ r.deps (d + 1)).drop (k + 1) = (r.deps (d + 1)).drop (k - (l.deps (d + 1)).length + 1) := by
        rw [List.drop_append, List.drop_eq_nil_of_le (by omega), List.nil_append]
        congr 1
        omega
      rw [e, e1, e2]
      simp only [List.append_assoc]
/-- many leaves where all are deep -/
theorem deep_many (h : Nat) : ∀ (t : T) (d : Nat), (∀ e, e ∈ t.deps d → h ≤ e) → 2 ^ (h - d) ≤ t.leaves
  | .lf, d, q => by
    have := q d (List.mem_singleton.mpr rfl)
    rw [show h - d = 0 by omega]
    exact Nat.le_refl _
  | .nd l r, d, q => by
    have h1 := deep_many h l (d + 1) fun e he => q e (List.mem_append_left _ he)
    have h2 := deep_many h r (d + 1) fun e he => q e (List.mem_append_right _ he)
    show 2 ^ (h - d) ≤ l.leaves + r.leaves
    by_cases c : h ≤ d
    · rw [show h - d = 0 by omega]
      have := leaves_pos l
      show 1 ≤ _
      omega
    · have e : h - d = (h - (d + 1)) + 1 := by omega
      rw [e, Nat.pow_succ]
      omega
/-- a list of depths as the law makes them -/
structure Good (ds : List Nat) : Prop where
  tree : ∃ t : T, ds = t.deps 0
  deep : ∀ e, e ∈ ds → e ≤ 40
  size : ds.length ≤ 60
theorem Good.pos {ds : List Nat} (g : Good ds) : 0 < ds.length := by
  obtain ⟨t, rfl⟩ := g.tree
  rw [deps_len]
  exact leaves_pos t
theorem Good.shallow {ds : List Nat} (g : Good ds) : ∃ (j : Nat) (x : Nat), ds[j]? = some x ∧ x ≤ 39 := by
  obtain ⟨t, rfl⟩ := g.tree
  apply Classical.byContradiction
  intro no
  have q : ∀ e, e ∈ t.deps 0 → 40 ≤ e := fun e he => by
    obtain ⟨j, hj⟩ := List.getElem?_of_mem he
    apply Classical.byContradiction
    intro c
    exact no ⟨j, e, hj, by omega⟩
  have h := deep_many 40 t 0 q
  have s := g.size
  rw [deps_len] at s
  have e : 2 ^ (40 - 0) = 1099511627776 := by decide
  omega
theorem good_one : Good [0] := ⟨⟨.lf, rfl⟩, fun e he => by
  have := List.mem_singleton.mp he
  omega, by decide⟩
theorem mem_take_drop {ds : List Nat} {u : List Nat} {k e : Nat} (h : e ∈ ds.take k ++ u ++ ds.drop (k + 1)) : e ∈ ds ∨ e ∈ u := by
  rcases List.mem_append.mp h with h | h
  · rcases List.mem_append.mp h with h | h
    · exact .inl (List.mem_of_mem_take h)
    · exact .inr h
  · exact .inl (List.mem_of_mem_drop h)
theorem len_put {ds u : List Nat} {k : Nat} (h : k < ds.length) : (ds.take k ++ u ++ ds.drop (k + 1)).length + 1 = ds.length + u.length := by
  rw [List.length_append, List.length_append, List.length_take, List.length_drop]
  omega
/-- one leaf split -/
theorem Good.split {ds : List Nat} {k x : Nat} (g : Good ds) (h : ds[k]? = some x) (hx : x ≤ 39) (hl : ds.length ≤ 59) : Good (ds.take k ++ [x + 1, x + 1] ++ ds.drop (k + 1)) := by
  have hk : k < ds.length := (List.getElem?_eq_some_iff.mp h).1
  obtain ⟨t, ht⟩ := g.tree
  rw [ht] at h
  obtain ⟨t', e⟩ := put_leaf (.nd .lf .lf) t 0 k x h
  refine ⟨⟨t', ?_⟩, fun e he => ?_, ?_⟩
  · rw [e, ht]
    rfl
  · rcases mem_take_drop he with q | q
    · exact g.deep e q
    · simp only [List.mem_cons, List.not_mem_nil, or_false, or_self] at q
      omega
  · have := len_put (u := [x + 1, x + 1]) hk
    simp only [List.length_cons, List.length_nil] at this
    omega
/-- a leaf exchanged for a tree whose leaves lie not too deep -/
theorem Good.put {ds us : List Nat} {k x m : Nat} (g : Good ds) (gu : Good us) (h : ds[k]? = some x) (hu : ∀ e, e ∈ us → e ≤ m) (hx : x + m ≤ 40) (hl : ds.length + us.length ≤ 61) : Good (ds.take k ++ us.map (x + ·) ++ ds.drop (k + 1)) := by
  have hk : k < ds.length := (List.getElem?_eq_some_iff.mp h).1
  obtain ⟨t, ht⟩ := g.tree
  obtain ⟨u, hut⟩ := gu.tree
  rw [ht] at h
  obtain ⟨t', e⟩ := put_leaf u t 0 k x h
  have ex : u.deps x = us.map (x + ·) := by
    rw [hut, ← deps_add u x 0]
    rfl
  refine ⟨⟨t', ?_⟩, fun e he => ?_, ?_⟩
  · rw [e, ht, ex]
  · rcases mem_take_drop he with q | q
    · exact g.deep e q
    · obtain ⟨y, hy, rfl⟩ := List.mem_map.mp q
      have := hu y hy
      omega
  · have := len_put (u := us.map (x + ·)) hk
    rw [List.length_map] at this
    omega
/-! ### the walk round to a shallow leaf -/
def far (n j k : Nat) : Nat := if k ≤ j then j - k else j + n - k
theorem far_less {n j k : Nat} (hj : j < n) (hk : k < n) (ne : k ≠ j) : far n j ((k + 1) % n) < far n j k := by
  unfold far
  by_cases c : k + 1 = n
  · rw [c, Nat.mod_self, if_pos (Nat.zero_le _), if_neg (by omega)]
    omega
  · rw [Nat.mod_eq_of_lt (by omega)]
    by_cases d : k ≤ j
    · rw [if_pos (by omega), if_pos d]
      omega
    · rw [if_neg (by omega), if_neg d]
      omega
/-! ### the stack of trees -/
def mrg : List (Int × T) → List (Int × T)
  | a :: b :: s => if b.1 = a.1 then mrg ((a.1 - 1, .nd b.2 a.2) :: s) else a :: b :: s
  | [a] => [a]
  | [] => []
termination_by s => s.length
def run : List Nat → List (Int × T) → List (Int × T)
  | [], s => s
  | d :: ds, s => run ds (mrg (((d : Int), .lf) :: s))
theorem mrg_two (a b : Int × T) (s : List (Int × T)) : mrg (a :: b :: s) = if b.1 = a.1 then mrg ((a.1 - 1, .nd b.2 a.2) :: s) else a :: b :: s := by
  rw [mrg]
theorem mrg_one (a : Int × T) : mrg [a] = [a] := by rw [mrg]
theorem mrg_stay {a : Int × T} {s : List (Int × T)} (h : ∀ b, b ∈ s.head? → b.1 ≠ a.1) : mrg (a :: s) = a :: s := by
  cases s with
  | nil => exact mrg_one a
  | cons b s =>
    rw [mrg_two, if_neg (h b rfl)]
theorem run_deps : ∀ (t : T) (d : Nat) (s : List (Int × T)) (r : List Nat), (∀ b, b ∈ s.head? → b.1 ≤ (d : Int)) → run (t.deps d ++ r) s = run r (mrg (((d : Int), t) :: s))
  | .lf, d, s, r, _ => rfl
  | .nd l u, d, s, r, h => by
    show run (l.deps (d + 1) ++ u.deps (d + 1) ++ r) s = _
    have e1 : mrg ((((d + 1 : Nat) : Int), l) :: s) = (((d + 1 : Nat) : Int), l) :: s := mrg_stay fun b hb => by
      have := h b hb
      show b.1 ≠ ((d + 1 : Nat) : Int)
      omega
    rw [List.append_assoc, run_deps l (d + 1) s _ fun b hb => by
      have := h b hb
      omega, e1, run_deps u (d + 1) _ r fun b hb => by
      have e : (((d + 1 : Nat) : Int), l) = b := Option.some.inj hb
      rw [← e]
      exact Int.le_refl _, mrg_two, if_pos rfl]
    have e2 : ((d + 1 : Nat) : Int) - 1 = (d : Int) := by omega
    show run r (mrg ((((d + 1 : Nat) : Int) - 1, T.nd l u) :: s)) = _
    rw [e2]
theorem run_tree (t : T) : run (t.deps 0) [] = [(0, t)] := by
  have h := run_deps t 0 [] [] (fun b hb => nomatch hb)
  rw [List.append_nil] at h
  rw [h]
  show mrg [(((0 : Nat) : Int), t)] = _
  rw [mrg_one]
  rfl
theorem run_snoc : ∀ (ds : List Nat) (d : Nat) (s : List (Int × T)), run (ds ++ [d]) s = mrg (((d : Int), .lf) :: run ds s)
  | [], d, s => rfl
  | e :: ds, d, s => run_snoc ds d _
theorem run_take {ds : List Nat} {i d : Nat} (h : ds[i]? = some d) : run (ds.take (i + 1)) [] = mrg (((d : Int), .lf) :: run (ds.take i) []) := by
  obtain ⟨hi, e⟩ := List.getElem?_eq_some_iff.mp h
  rw [← e, ← List.take_append_getElem hi]
  exact run_snoc _ _ _
theorem mrg_len (s : List (Int × T)) : (mrg s).length ≤ s.length := by
  fun_induction mrg s with
  | case1 a b s h ih =>
    simp only [List.length_cons] at ih ⊢
    omega
  | case2 => exact Nat.le_refl _
  | case3 => exact Nat.le_refl _
  | case4 => exact Nat.le_refl _
theorem run_len : ∀ (ds : List Nat) (s : List (Int × T)), (run ds s).length ≤ ds.length + s.length
  | [], s => by
    show s.length ≤ 0 + s.length
    omega
  | d :: ds, s => by
    have h := run_len ds (mrg (((d : Int), .lf) :: s))
    have h2 := mrg_len (((d : Int), .lf) :: s)
    show (run ds (mrg (((d : Int), .lf) :: s))).length ≤ ds.length + 1 + s.length
    simp only [List.length_cons] at h2
    omega
end Hw
namespace Hw
abbrev P := Nat × Nat
/-- the point n / 2 ^ d by its least depth -/
def pt : Nat → Nat → P
  | n, 0 => (n, 0)
  | n, d + 1 => if n % 2 = 0 then pt (n / 2) d else (n, d + 1)
theorem pt_succ (n d : Nat) : pt n (d + 1) = if n % 2 = 0 then pt (n / 2) d else (n, d + 1) := rfl
theorem pt_dbl (n d : Nat) : pt (2 * n) (d + 1) = pt n d := by
  rw [pt_succ, if_pos (by omega)]
  congr 1
  omega
theorem pt_shift (n d : Nat) : ∀ k : Nat, pt (n * 2 ^ k) (d + k) = pt n d
  | 0 => by
    rw [Nat.pow_zero, Nat.mul_one]
    rfl
  | k + 1 => by
    have e : n * 2 ^ (k + 1) = 2 * (n * 2 ^ k) := by
      rw [Nat.pow_succ, ← Nat.mul_assoc, Nat.mul_comm]
    rw [e]
    show pt (2 * (n * 2 ^ k)) (d + k + 1) = _
    rw [pt_dbl, pt_shift n d k]
theorem pt_back : ∀ (d n : Nat), (pt n d).2 ≤ d ∧ (pt n d).1 * 2 ^ (d - (pt n d).2) = n
  | 0, n => ⟨Nat.le_refl _, Nat.mul_one _⟩
  | d + 1, n => by
    rw [pt_succ]
    by_cases c : n % 2 = 0
    · rw [if_pos c]
      obtain ⟨h1, h2⟩ := pt_back d (n / 2)
      refine ⟨by omega, ?_⟩
      rw [show d + 1 - (pt (n / 2) d).2 = (d - (pt (n / 2) d).2) + 1 by omega, Nat.pow_succ, ← Nat.mul_assoc, h2]
      omega
    · rw [if_neg c]
      refine ⟨Nat.le_refl _, ?_⟩
      show n * 2 ^ (d + 1 - (d + 1)) = n
      rw [Nat.sub_self, Nat.pow_zero, Nat.mul_one]
theorem pt_inj {x y d : Nat} (h : pt x d = pt y d) : x = y := by
  have h1 := (pt_back d x).2
  have h2 := (pt_back d y).2
  rw [h] at h1
  exact h1.symm.trans h2
theorem pt_le (n d : Nat) : (pt n d).1 ≤ n := by
  have h := (pt_back d n).2
  have p : 1 ≤ 2 ^ (d - (pt n d).2) := Nat.one_le_two_pow
  calc (pt n d).1 = (pt n d).1 * 1 := (Nat.mul_one _).symm
    _ ≤ (pt n d).1 * 2 ^ (d - (pt n d).2) := Nat.mul_le_mul_left _ p
    _ = n := h
theorem pt_odd {o v D : Nat} (ho : o % 2 = 1) (hv : v ≤ D) : pt (o * 2 ^ v) D = (o, D - v) := by
  have e : D = (D - v) + v := by omega
  rw [e, pt_shift]
  cases h : D - v with
  | zero =>
    show (o, 0) = _
    congr 1
    omega
  | succ k =>
    rw [pt_succ, if_neg (by omega)]
    congr 1
    omega
theorem pt_zero : ∀ D : Nat, pt 0 D = (0, 0)
  | 0 => rfl
  | D + 1 => by
    rw [pt_succ, if_pos rfl]
    exact pt_zero D
/-- next behind a stretch: the point where it ends -/
def nxt (p : P) (d : Nat) : P := pt (p.1 * 2 ^ (d - p.2) + 1) d
theorem nxt_pt (n d : Nat) : nxt (pt n d) d = pt (n + 1) d := by
  unfold nxt
  rw [(pt_back d n).2]
/-! ### stretches of leaves -/
def T.raw : T → Nat → Nat → List (Nat × Nat)
  | .lf, n, d => [(n, d)]
  | .nd l r, n, d => l.raw (2 * n) (d + 1) ++ r.raw (2 * n + 1) (d + 1)
def T.strs : T → Nat → Nat → List (P × Nat)
  | .lf, n, d => [(pt n d, d)]
  | .nd l r, n, d => l.strs (2 * n) (d + 1) ++ r.strs (2 * n + 1) (d + 1)
theorem strs_raw : ∀ (t : T) (n d : Nat), t.strs n d = (t.raw n d).map fun a => (pt a.1 a.2, a.2)
  | .lf, n, d => rfl
  | .nd l r, n, d => by
    show l.strs _ _ ++ r.strs _ _ = (l.raw _ _ ++ r.raw _ _).map _
    rw [List.map_append, strs_raw l, strs_raw r]
theorem raw_len : ∀ (t : T) (n d : Nat), (t.raw n d).length = t.leaves
  | .lf, _, _ => rfl
  | .nd l r, n, d => by
    show (l.raw _ _ ++ r.raw _ _).length = l.leaves + r.leaves
    rw [List.length_append, raw_len l, raw_len r]
theorem strs_len (t : T) (n d : Nat) : (t.strs n d).length = t.leaves := by
  rw [strs_raw, List.length_map, raw_len]
/-- what rests needs to know of an entry: a point of at most its depth, not too great -/
theorem raw_fits : ∀ (t : T) (n d M : Nat), d + t.ht ≤ M → n < 2 ^ d → ∀ a, a ∈ t.raw n d → a.2 ≤ M ∧ a.1 < 2 ^ a.2
  | .lf, n, d, M, h, hn, a, ha => by
    have e := List.mem_singleton.mp ha
    rw [e]
    exact ⟨h, hn⟩
  | .nd l r, n, d, M, h, hn, a, ha => by
    have h' : d + (max l.ht r.ht + 1) ≤ M := h
    have e : 2 ^ (d + 1) = 2 * 2 ^ d := by rw [Nat.pow_succ, Nat.mul_comm]
    rcases List.mem_append.mp ha with q | q
    · exact raw_fits l (2 * n) (d + 1) M (by omega) (by omega) a q
    · exact raw_fits r (2 * n + 1) (d + 1) M (by omega) (by omega) a q
/-! ### sums of lengths -/
def U (d : Nat) : Nat := 2 ^ (400 - d)
theorem U_half {d : Nat} (h : d < 400) : U d = 2 * U (d + 1) := by
  unfold U
  rw [show 400 - d = (400 - (d + 1)) + 1 by omega, Nat.pow_succ, Nat.mul_comm]
def endD : Nat → List Nat → Nat
  | x, [] => x
  | x, d :: r => endD (x + U d) r
def cumD : Nat → List Nat → List (Nat × Nat)
  | _, [] => []
  | x, d :: r => (x, d) :: cumD (x + U d) r
theorem endD_app : ∀ (a b : List Nat) (x : Nat), endD x (a ++ b) = endD (endD x a) b
  | [], b, x => rfl
  | d :: a, b, x => endD_app a b _
theorem cumD_app : ∀ (a b : List Nat) (x : Nat), cumD x (a ++ b) = cumD x a ++ cumD (endD x a) b
  | [], b, x => rfl
  | d :: a, b, x => congrArg ((x, d) :: ·) (cumD_app a b _)
theorem tree_sum : ∀ (t : T) (n d : Nat), d + t.ht ≤ 400 → endD (n * U d) (t.deps d) = (n + 1) * U d ∧ cumD (n * U d) (t.deps d) = (t.raw n d).map fun a => (a.1 * U a.2, a.2)
  | .lf, n, d, _ => ⟨by
    show n * U d + U d = _
    rw [Nat.add_mul, Nat.one_mul], rfl⟩
  | .nd l r, n, d, h => by
    have h' : d + (max l.ht r.ht + 1) ≤ 400 := h
    have e := U_half (d := d) (by omega)
    have el : n * U d = (2 * n) * U (d + 1) := by rw [e, ← Nat.mul_assoc, Nat.mul_comm n 2]
    have er : (2 * n + 1 + 1) * U (d + 1) = (n + 1) * U d := by
      rw [e, ← Nat.mul_assoc]
      congr 1
      omega
    obtain ⟨l1, l2⟩ := tree_sum l (2 * n) (d + 1) (by omega)
    obtain ⟨r1, r2⟩ := tree_sum r (2 * n + 1) (d + 1) (by omega)
    show endD (n * U d) (l.deps (d + 1) ++ r.deps (d + 1)) = _ ∧ cumD (n * U d) (l.deps (d + 1) ++ r.deps (d + 1)) = (l.raw (2 * n) (d + 1) ++ r.raw (2 * n + 1) (d + 1)).map _
    rw [endD_app, cumD_app, List.map_append, el, l1, l2, r1, r2]
    exact ⟨er, rfl⟩
theorem tree_end {ds : List Nat} (g : Good ds) : endD 0 ds = 2 ^ 400 := by
  obtain ⟨t, e⟩ := g.tree
  have h := ht_le t 0 40 fun x hx => g.deep x (by rw [e]; exact hx)
  have q := (tree_sum t 0 0 (by omega)).1
  rw [Nat.zero_mul] at q
  rw [e, q, Nat.zero_add, Nat.one_mul]
  unfold U
  rw [Nat.sub_zero]
/-! ### what rests does -/
def rput : List (P × P) → P → P → List (P × P)
  | a :: f, p, z => if a.2 = p then (a.1, z) :: f else (p, z) :: a :: f
  | [], p, z => [(p, z)]
def rstep (f : List (P × P)) (a b : P × Nat) : List (P × P) := if a.1 = b.1 ∧ a.2 = b.2 then rput f a.1 (nxt a.1 a.2) else f
def rst : List (P × P) → List (P × Nat) → List (P × Nat) → List (P × P)
  | f, a :: s, b :: r => rst (rstep f a b) s r
  | f, _, _ => f
theorem rstep_swap (f : List (P × P)) (a b : P × Nat) : rstep f a b = rstep f b a := by
  unfold rstep
  by_cases c : a.1 = b.1 ∧ a.2 = b.2
  · rw [if_pos c, if_pos ⟨c.1.symm, c.2.symm⟩, c.1, c.2]
  · rw [if_neg c, if_neg fun d => c ⟨d.1.symm, d.2.symm⟩]
theorem rst_swap : ∀ (s r : List (P × Nat)) (f : List (P × P)), rst f s r = rst f r s
  | [], [], f => rfl
  | [], _ :: _, f => rfl
  | _ :: _, [], f => rfl
  | a :: s, b :: r, f => by
    show rst (rstep f a b) s r = rst (rstep f b a) r s
    rw [rst_swap s r, rstep_swap]
/-! ### what due does -/
def dputP : List (Nat × Nat) → Nat → Nat → List (Nat × Nat)
  | a :: f, x, z => if a.2 = x then (a.1, z) :: f else (x, z) :: a :: f
  | [], x, z => [(x, z)]
def dstep (f : List (Nat × Nat)) (x y d e : Nat) : List (Nat × Nat) := if x = y ∧ d = e then dputP f x (x + U d) else f
def dueL : List (Nat × Nat) → Nat → Nat → List Nat → List Nat → List (Nat × Nat)
  | f, x, y, d :: ds, e :: es => dueL (dstep f x y d e) (x + U d) (y + U e) ds es
  | f, _, _, _, _ => f
def lp (x : Nat) : P := pt x 400
def lp2 (a : Nat × Nat) : P × P := (lp a.1, lp a.2)
theorem lp_U {n d : Nat} (h : d ≤ 400) : lp (n * U d) = pt n d := by
  unfold lp U
  have := pt_shift n d (400 - d)
  rw [show d + (400 - d) = 400 by omega] at this
  exact this
theorem rput_lp (f : List (Nat × Nat)) (x z : Nat) : rput (f.map lp2) (lp x) (lp z) = (dputP f x z).map lp2 := by
  cases f with
  | nil => rfl
  | cons a f =>
    show (if lp a.2 = lp x then _ else _) = (if a.2 = x then _ else _ : List (Nat × Nat)).map lp2
    by_cases c : a.2 = x
    · rw [if_pos c, if_pos (by rw [c])]
      rfl
    · rw [if_neg c, if_neg (fun q : lp a.2 = lp x => c (pt_inj q))]
      rfl
/-- both folds over what the trees say -/
theorem agree : ∀ (A B : List (Nat × Nat)) (x y : Nat) (ds es : List Nat) (f : List (Nat × Nat)), (∀ a, a ∈ A → a.2 ≤ 400) → (∀ b, b ∈ B → b.2 ≤ 400) →
    cumD x ds = A.map (fun a => (a.1 * U a.2, a.2)) → cumD y es = B.map (fun a => (a.1 * U a.2, a.2)) →
    rst (f.map lp2) (A.map fun a => (pt a.1 a.2, a.2)) (B.map fun a => (pt a.1 a.2, a.2)) = (dueL f x y ds es).map lp2
  | [], B, x, y, ds, es, f, hA, hB, h1, h2 => by
    cases ds with
    | nil => rfl
    | cons d ds => exact nomatch h1
  | a :: A, [], x, y, ds, es, f, hA, hB, h1, h2 => by
    cases es with
    | nil =>
      cases ds with
      | nil => rfl
      | cons d ds => rfl
    | cons d ds => exact nomatch h2
  | a :: A, b :: B, x, y, ds, es, f, hA, hB, h1, h2 => by
    cases ds with
    | nil => exact nomatch h1
    | cons d ds =>
      cases es with
      | nil => exact nomatch h2
      | cons e es =>
        obtain ⟨a1, a2⟩ := a
        obtain ⟨b1, b2⟩ := b
        have q1 := (List.cons.inj h1).1
        have q2 := (List.cons.inj h2).1
        have ex : x = a1 * U a2 := congrArg Prod.fst q1
        have ed : d = a2 := congrArg Prod.snd q1
        have ey : y = b1 * U b2 := congrArg Prod.fst q2
        have ee : e = b2 := congrArg Prod.snd q2
        have g1 := hA _ List.mem_cons_self
        have g2 := hB _ List.mem_cons_self
        have ih := agree A B (x + U d) (y + U e) ds es (dstep f x y d e) (fun c hc => hA c (List.mem_cons_of_mem _ hc)) (fun c hc => hB c (List.mem_cons_of_mem _ hc)) (List.cons.inj h1).2 (List.cons.inj h2).2
        show rst (rstep (f.map lp2) (pt a1 a2, a2) (pt b1 b2, b2)) _ _ = (dueL (dstep f x y d e) (x + U d) (y + U e) ds es).map lp2
        rw [← ih]
        congr 1
        unfold rstep dstep
        have p1 : pt a1 a2 = lp x := by rw [ex, lp_U g1]
        have p2 : pt b1 b2 = lp y := by rw [ey, lp_U g2]
        have p3 : nxt (pt a1 a2) a2 = lp (x + U d) := by
          rw [nxt_pt, ex, ed, ← lp_U g1]
          congr 1
          rw [Nat.add_mul, Nat.one_mul]
        by_cases c : x = y ∧ d = e
        · rw [if_pos c, if_pos ⟨by rw [p1, p2, c.1], by rw [← ed, ← ee, c.2]⟩]
          show rput (f.map lp2) (pt a1 a2) (nxt (pt a1 a2) a2) = _
          rw [p3, p1]
          exact rput_lp f x _
        · rw [if_neg c, if_neg fun q => c ⟨?_, ?_⟩]
          · have q1 : pt a1 a2 = pt b1 b2 := q.1
            rw [p1, p2] at q1
            exact pt_inj q1
          · rw [ed, ee]
            exact q.2
theorem map_rests {t u : T} (ht : t.ht ≤ 40) (hu : u.ht ≤ 40) : rst [] (t.strs 0 0) (u.strs 0 0) = (dueL [] 0 0 (t.deps 0) (u.deps 0)).map lp2 := by
  have h1 := (tree_sum t 0 0 (by omega)).2
  have h2 := (tree_sum u 0 0 (by omega)).2
  rw [Nat.zero_mul] at h1 h2
  have q := agree (t.raw 0 0) (u.raw 0 0) 0 0 (t.deps 0) (u.deps 0) [] (fun a ha => Nat.le_trans (raw_fits t 0 0 40 (by omega) (by decide) a ha).1 (by decide)) (fun a ha => Nat.le_trans (raw_fits u 0 0 40 (by omega) (by decide) a ha).1 (by decide)) h1 h2
  rw [strs_raw, strs_raw, ← q]
  rfl
/-! ### sizes -/
theorem rput_len (f : List (P × P)) (p z : P) : (rput f p z).length ≤ f.length + 1 := by
  cases f with
  | nil => exact Nat.le_refl _
  | cons a f =>
    show (if a.2 = p then (a.1, z) :: f else (p, z) :: a :: f).length ≤ _
    split <;> simp only [List.length_cons] <;> omega
theorem rstep_len (f : List (P × P)) (a b : P × Nat) : (rstep f a b).length ≤ f.length + 1 := by
  unfold rstep
  split
  · exact rput_len _ _ _
  · omega
theorem dputP_len (f : List (Nat × Nat)) (x z : Nat) : (dputP f x z).length ≤ f.length + 1 := by
  cases f with
  | nil => exact Nat.le_refl _
  | cons a f =>
    show (if a.2 = x then (a.1, z) :: f else (x, z) :: a :: f).length ≤ _
    split <;> simp only [List.length_cons] <;> omega
/-! ### marks -/
def flat : List (Nat × Nat) → List Nat
  | [] => []
  | a :: f => a.2 :: a.1 :: flat f
def flatO : List (Nat × Nat) → List Nat
  | [] => []
  | a :: f => a.1 :: a.2 :: flatO f
theorem flatO_app : ∀ (a b : List (Nat × Nat)), flatO (a ++ b) = flatO a ++ flatO b
  | [], b => rfl
  | x :: a, b => congrArg (fun l => x.1 :: x.2 :: l) (flatO_app a b)
theorem flat_rev : ∀ f : List (Nat × Nat), (flat f).reverse = flatO f.reverse
  | [] => rfl
  | a :: f => by
    show (a.2 :: a.1 :: flat f).reverse = flatO ((a :: f).reverse)
    rw [List.reverse_cons, List.reverse_cons, List.reverse_cons, flatO_app, flat_rev f, List.append_assoc]
    rfl
theorem flatO_len : ∀ f : List (Nat × Nat), (flatO f).length = 2 * f.length
  | [] => rfl
  | a :: f => by
    show (flatO f).length + 1 + 1 = 2 * (f.length + 1)
    rw [flatO_len f]
    omega
theorem flatO_even : ∀ (f : List (Nat × Nat)) (i : Nat), (flatO f)[2 * i]? = (f[i]?).map (·.1)
  | [], i => by simp [flatO]
  | a :: f, 0 => rfl
  | a :: f, i + 1 => by
    have := flatO_even f i
    show (a.1 :: a.2 :: flatO f)[2 * i + 1 + 1]? = _
    rw [List.getElem?_cons_succ, List.getElem?_cons_succ, List.getElem?_cons_succ]
    exact this
theorem flatO_odd : ∀ (f : List (Nat × Nat)) (i : Nat), (flatO f)[2 * i + 1]? = (f[i]?).map (·.2)
  | [], i => by simp [flatO]
  | a :: f, 0 => rfl
  | a :: f, i + 1 => by
    have := flatO_odd f i
    show (a.1 :: a.2 :: flatO f)[2 * i + 1 + 1 + 1]? = _
    rw [List.getElem?_cons_succ, List.getElem?_cons_succ, List.getElem?_cons_succ]
    exact this
/-! ### the lowest bit -/
theorem odd_part : ∀ (n x : Nat), x ≤ n → 0 < x → ∃ o v : Nat, x = o * 2 ^ v ∧ o % 2 = 1
  | 0, x, h, h0 => by omega
  | n + 1, x, h, h0 => by
    by_cases c : x % 2 = 1
    · exact ⟨x, 0, by rw [Nat.pow_zero, Nat.mul_one], c⟩
    · obtain ⟨o, v, e, ho⟩ := odd_part n (x / 2) (by omega) (by omega)
      refine ⟨o, v + 1, ?_, ho⟩
      rw [Nat.pow_succ, ← Nat.mul_assoc, ← e]
      omega
theorem land_split (a b : Nat) : a &&& b = 2 * (a / 2 &&& b / 2) + (a % 2) * (b % 2) := by
  have h1 : (a &&& b) / 2 = a / 2 &&& b / 2 := Nat.and_div_two
  have h2 : (a &&& b) % 2 = (a % 2) * (b % 2) := by
    have q : (a &&& b) % 2 = (a % 2) &&& (b % 2) := Nat.and_mod_two_pow (n := 1)
    rw [q]
    have c1 : a % 2 = 0 ∨ a % 2 = 1 := by omega
    have c2 : b % 2 = 0 ∨ b % 2 = 1 := by omega
    rcases c1 with c1 | c1 <;> rcases c2 with c2 | c2 <;> rw [c1, c2] <;> rfl
  have h3 := Nat.div_add_mod (a &&& b) 2
  rw [h1, h2] at h3
  exact h3.symm
theorem land_self (a : Nat) : a &&& a = a := Nat.and_self a
theorem land_pred {o : Nat} (ho : o % 2 = 1) : ∀ v : Nat, (o * 2 ^ v) &&& (o * 2 ^ v - 1) = (o - 1) * 2 ^ v
  | 0 => by
    rw [Nat.pow_zero, Nat.mul_one, Nat.mul_one, land_split, show (o - 1) / 2 = o / 2 by omega, land_self, show (o - 1) % 2 = 0 by omega]
    omega
  | v + 1 => by
    have ih := land_pred ho v
    have p : 0 < o * 2 ^ v := Nat.mul_pos (by omega) (Nat.two_pow_pos v)
    have e : o * 2 ^ (v + 1) = 2 * (o * 2 ^ v) := by rw [Nat.pow_succ, ← Nat.mul_assoc, Nat.mul_comm]
    have e2 : (o - 1) * 2 ^ (v + 1) = 2 * ((o - 1) * 2 ^ v) := by rw [Nat.pow_succ, ← Nat.mul_assoc, Nat.mul_comm]
    rw [e, e2, land_split, show 2 * (o * 2 ^ v) / 2 = o * 2 ^ v by omega, show (2 * (o * 2 ^ v) - 1) / 2 = o * 2 ^ v - 1 by omega, ih, show 2 * (o * 2 ^ v) % 2 = 0 by omega]
    omega
theorem low_bit {o v : Nat} (ho : o % 2 = 1) : o * 2 ^ v - ((o * 2 ^ v) &&& (o * 2 ^ v - 1)) = 2 ^ v := by
  rw [land_pred ho, ← Nat.sub_mul, show o - (o - 1) = 1 by omega, Nat.one_mul]
end Hw
/-! zip as the inner iterator of enumerate and as what list(..) takes: its tuple that was given out first stays with it -/
namespace Hw
open PySem PySem.Spec PyProof.Rows L2
/-- a zip, its first two fields open -/
abbrev ZF (h : Heap) (z TI TO : Addr) (a b : Value) : Prop :=
  h.get? z = some { cls := .type "zip", dict := none, data := .fields #[a, b, .bool false, .ref TI, .ref TO], slots := #[] }
/-- a zip between two draws: its tuple is free, or T was given out -/
def ZSt (h : Heap) (z TI TO : Addr) : Prop := ZF h z TI TO .none (.bool false) ∨ ∃ (T : Addr) (f : Bool), ZF h z TI TO (rawInt T) (.bool f)
section
variable {prog : Program} {w : World} {A : Around} {E : Value → Shared → Prop} {s : Shared}
theorem gone {a : Addr} {Q : Option Obj → Shared → Prop} (ho : s.heap.get? a = none) (h : Q none s) : wpAny (model prog w) A (loadIfAlive a) Q E s := by
  have q : Q (s.heap.get? a) s := ho ▸ h
  exact fun _ _ _ => q
theorem free_dead {z TI TO T : Addr} {f : Bool} {Q : Bool → Shared → Prop} (hz : ZF s.heap z TI TO (rawInt T) (.bool f)) (hT : s.heap.get? T = none) (h : Q true s) :
    wpAny (model prog w) A (Builtin.SmallTypes.ownedTupleIsFree (.ref z)) Q E s := by
  unfold Builtin.SmallTypes.ownedTupleIsFree
  refine wpAny_bind (wpAny_field hz rfl (x := rawInt T) rfl ?_)
  show wpAny _ _ (loadIfAlive (Int.toNat (T : Int)) >>= fun o => _) _ _ _
  rw [Int.toNat_natCast]
  refine wpAny_bind (gone hT ?_)
  simp only [Option.isNone_none, if_true]
  exact wpAny_pure h
variable {z TI TO i1 i2 l1 l2 T : Addr} {f : Bool} {k1 k2 : Nat} {xs ys : Array Value} {x y a b : Value}
/-- the draw that takes its own tuple again, the one given out being gone -/
theorem zip_item_dead {Q : Value → Shared → Prop} (D : ZipApart z TI TO i1 i2 l1 l2) (hz : ZF s.heap z TI TO (rawInt T) (.bool f)) (hT : s.heap.get? T = none)
    (hTI : IsPair s.heap TI (.ref i1) (.ref i2)) (hTO : IsPair s.heap TO a b) (h1 : s.heap.IsListIter i1 l1 k1) (h2 : s.heap.IsListIter i2 l2 k2)
    (hl1 : s.heap.IsList l1 xs) (hl2 : s.heap.IsList l2 ys) (hx : xs[k1]? = some x) (hy : ys[k2]? = some y)
    (hQ : ∀ h', ZF h' z TI TO (rawInt s.heap.objs.size) (.bool false) → IsPair h' TO x y → h'.IsListIter i1 l1 (k1 + 1) → h'.IsListIter i2 l2 (k2 + 1) → IsPair h' s.heap.objs.size x y →
      h'.objs.size = s.heap.objs.size + 1 → (∀ c o, c ≠ z → c ≠ TO → c ≠ i1 → c ≠ i2 → s.heap.get? c = some o → h'.get? c = some o) → Q (.ref s.heap.objs.size) { s with heap := h' }) :
    wpAny (model prog w) A (Builtin.«zip.__next__» ⟨[.ref z], []⟩) (fun fin s' => ∃ v, fin = .done (.ret v) ∧ Q v s') E s := by
  show wpAny _ _ (field (.ref z) 2 >>= fun v => _) _ _ _
  refine wpAny_bind (wpAny_field hz rfl (x := .bool false) rfl ?_)
  show wpAny _ _ (field (.ref z) 3 >>= fun v => _) _ _ _
  refine wpAny_bind (wpAny_field hz rfl (x := .ref TI) rfl (wpAny_bind (wpAny_seqItems hTI rfl ?_)))
  show wpAny _ _ (Builtin.SmallTypes.ownedTupleIsFree (.ref z) >>= fun v => _) _ _ _
  refine wpAny_bind (free_dead hz hT ?_)
  simp only [if_true]
  refine wpAny_bind (wpAny_rule (wpAny_bind (wpAny_field hz rfl (x := .ref TO) rfl (wpAny_bind (wpAny_setField_rec hz (by simp) fun ha ka sa => ?_)))))
  replace ka : ZF ha z TI TO .ellipsis (.bool f) := ka
  simp only [List.zipIdx_cons, List.zipIdx_nil, List.forIn_cons, List.forIn_nil]
  -- the first item
  refine wpAny_bind (wpAny_bind (wpAny_bind (wpAny_onRaise ?_)))
  show wpAny _ _ (Builtin.SmallTypes.nextOf (.ref i1) >>= fun v => _) _ _ _
  refine wpAny_bind (wpAny_nextOf_list_item (h1.extBut sa.extBut D.i1z) (hl1.extBut sa.extBut D.l1z) hx fun hb ib sb => wpAny_pure ?_)
  have tb : IsPair hb TO a b := sb.extBut _ _ D.TOi1 (sa.extBut _ _ D.TOz hTO)
  refine wpAny_bind (wpAny_seqItems tb rfl (wpAny_bind (wpAny_updateSeq_pair tb fun hc tc sc => wpAny_bind (wpAny_letGo (wpAny_pure ?_)))))
  replace tc : IsPair hc TO x b := tc
  -- the second item
  refine wpAny_bind (wpAny_bind (wpAny_onRaise ?_))
  show wpAny _ _ (Builtin.SmallTypes.nextOf (.ref i2) >>= fun v => _) _ _ _
  have jc := ((h2.extBut sa.extBut D.i2z).extBut sb.extBut D.i12.symm).extBut sc.extBut D.TOi2.symm
  have lc := ((hl2.extBut sa.extBut D.l2z).extBut sb.extBut D.l2i1).extBut sc.extBut D.l2TO
  refine wpAny_bind (wpAny_nextOf_list_item jc lc hy fun hd id sd => wpAny_pure ?_)
  have td : IsPair hd TO x b := sd.extBut _ _ D.TOi2 tc
  refine wpAny_bind (wpAny_seqItems td rfl (wpAny_bind (wpAny_updateSeq_pair td fun he te se => wpAny_bind (wpAny_letGo (wpAny_pure (wpAny_pure ?_))))))
  replace te : IsPair he TO x y := te
  -- the tuple that is given out
  refine wpAny_bind (wpAny_seqItems te rfl (wpAny_bind (wpAny_newTuple ?_)))
  have size : he.objs.size = s.heap.objs.size := by rw [se.1, sd.1, sc.1, sb.1, sa.1]
  have ke : ZF he z TI TO .ellipsis (.bool f) := se.extBut _ _ D.TOz.symm (sd.extBut _ _ D.i2z.symm (sc.extBut _ _ D.TOz.symm (sb.extBut _ _ D.i1z.symm ka)))
  have all : ∀ c o, c ≠ z → c ≠ TO → c ≠ i1 → c ≠ i2 → s.heap.get? c = some o → he.get? c = some o := fun c o c1 c2 c3 c4 e =>
    se.extBut _ _ c2 (sd.extBut _ _ c4 (sc.extBut _ _ c2 (sb.extBut _ _ c3 (sa.extBut _ _ c1 e))))
  have ie : he.IsListIter i1 l1 (k1 + 1) := ((ib.extBut sc.extBut D.TOi1.symm).extBut sd.extBut D.i12).extBut se.extBut D.TOi1.symm
  have je : he.IsListIter i2 l2 (k2 + 1) := id.extBut se.extBut D.TOi2.symm
  have zl : z < he.objs.size := Heap.lt_size ke
  show wpAny _ _ (Builtin.SmallTypes.ownedTupleHandOut (.ref z) (.ref he.objs.size) >>= fun v => _) _ _ _
  refine wpAny_bind ?_
  unfold Builtin.SmallTypes.ownedTupleHandOut
  have kf : ZF (he.push { cls := .type "tuple", data := .seq #[x, y] }) z TI TO .ellipsis (.bool f) := Heap.get?_push_of_some _ ke
  refine wpAny_bind (wpAny_setField_rec kf (by simp) fun hg kg sg => ?_)
  replace kg : ZF hg z TI TO (rawInt he.objs.size) (.bool f) := kg
  refine wpAny_setField_rec kg (by simp) fun hh kh sh => ?_
  replace kh : ZF hh z TI TO (rawInt he.objs.size) (.bool false) := kh
  have up : ∀ c o, c ≠ z → he.get? c = some o → hh.get? c = some o := fun c o c1 e => sh.extBut _ _ c1 (sg.extBut _ _ c1 (Heap.get?_push_of_some _ e))
  have new : IsPair hh he.objs.size x y := sh.extBut _ _ (Nat.ne_of_gt zl) (sg.extBut _ _ (Nat.ne_of_gt zl) (Heap.get?_push_size _ rfl))
  have size2 : hh.objs.size = he.objs.size + 1 := by rw [sh.1, sg.1, Heap.size_push]
  rw [size] at kh new size2
  refine wpAny_pure ⟨_, rfl, ?_⟩
  show Q (.ref he.objs.size) _
  rw [size]
  exact hQ hh kh (up _ _ D.TOz te) (ie.at fun o e => up _ o D.i1z e) (je.at fun o e => up _ o D.i2z e) new size2 fun c o c1 c2 c3 c4 e => up c o c1 (all c o c1 c2 c3 c4 e)
/-- its end -/
theorem zip_end_dead {Q : Fin → Shared → Prop} (nh : A.handled = none) (D : ZipApart z TI TO i1 i2 l1 l2) (hz : ZF s.heap z TI TO (rawInt T) (.bool f)) (hT : s.heap.get? T = none)
    (hTI : IsPair s.heap TI (.ref i1) (.ref i2)) (hTO : IsPair s.heap TO a b) (h1 : s.heap.IsListIter i1 l1 k1) (h2 : s.heap.IsListIter i2 l2 k2)
    (hl1 : s.heap.IsList l1 xs) (hl2 : s.heap.IsList l2 ys) (hend : xs[k1]? = none ∨ ys[k2]? = none)
    (hE : ∀ h' e, (∀ c o, c ≠ z → c ≠ TO → c ≠ i1 → c ≠ i2 → s.heap.get? c = some o → h'.get? c = some o) → (∃ o, h'.get? e = some o ∧ o.cls = .type "StopIteration") → E (.ref e) { s with heap := h' }) :
    wpAny (model prog w) A (Builtin.«zip.__next__» ⟨[.ref z], []⟩) Q E s := by
  show wpAny _ _ (field (.ref z) 2 >>= fun v => _) _ _ _
  refine wpAny_bind (wpAny_field hz rfl (x := .bool false) rfl ?_)
  show wpAny _ _ (field (.ref z) 3 >>= fun v => _) _ _ _
  refine wpAny_bind (wpAny_field hz rfl (x := .ref TI) rfl (wpAny_bind (wpAny_seqItems hTI rfl ?_)))
  show wpAny _ _ (Builtin.SmallTypes.ownedTupleIsFree (.ref z) >>= fun v => _) _ _ _
  refine wpAny_bind (free_dead hz hT ?_)
  simp only [if_true]
  refine wpAny_bind (wpAny_rule (wpAny_bind (wpAny_field hz rfl (x := .ref TO) rfl (wpAny_bind (wpAny_setField_rec hz (by simp) fun ha ka sa => ?_)))))
  replace ka : ZF ha z TI TO .ellipsis (.bool f) := ka
  simp only [List.zipIdx_cons, List.zipIdx_nil, List.forIn_cons, List.forIn_nil]
  refine wpAny_bind (wpAny_bind (wpAny_bind (wpAny_onRaise ?_)))
  show wpAny _ _ (Builtin.SmallTypes.nextOf (.ref i1) >>= fun v => _) _ _ _
  have ia := h1.extBut sa.extBut D.i1z
  have la := hl1.extBut sa.extBut D.l1z
  cases hx : xs[k1]? with
  | none =>
    refine wpAny_bind (wpAny_nextOf_list_end nh ia la hx fun hb e sb ⟨oe, he, ce⟩ => ?_)
    have kb : ZF hb z TI TO .ellipsis (.bool f) := sb _ _ D.i1z.symm ka
    have ez : e ≠ z := fun q => by
      rw [q, kb] at he
      cases he
      simp at ce
    exact wpAny_setField_rec kb (by simp) fun hc _ sc => hE hc e (fun c o c1 _ c3 _ q => sc.extBut _ _ c1 (sb _ _ c3 (sa.extBut _ _ c1 q))) ⟨oe, sc.extBut _ _ ez he, ce⟩
  | some x =>
    have hy : ys[k2]? = none := hend.resolve_left fun q => by
      rw [hx] at q
      cases q
    refine wpAny_bind (wpAny_nextOf_list_item ia la hx fun hb ib sb => wpAny_pure ?_)
    have tb : IsPair hb TO a b := sb.extBut _ _ D.TOi1 (sa.extBut _ _ D.TOz hTO)
    refine wpAny_bind (wpAny_seqItems tb rfl (wpAny_bind (wpAny_updateSeq_pair tb fun hc tc sc => wpAny_bind (wpAny_letGo (wpAny_pure ?_)))))
    refine wpAny_bind (wpAny_bind (wpAny_onRaise ?_))
    show wpAny _ _ (Builtin.SmallTypes.nextOf (.ref i2) >>= fun v => _) _ _ _
    have jc := ((h2.extBut sa.extBut D.i2z).extBut sb.extBut D.i12.symm).extBut sc.extBut D.TOi2.symm
    have lc := ((hl2.extBut sa.extBut D.l2z).extBut sb.extBut D.l2i1).extBut sc.extBut D.l2TO
    refine wpAny_bind (wpAny_nextOf_list_end nh jc lc hy fun hd e sd ⟨oe, he, ce⟩ => ?_)
    have kd : ZF hd z TI TO .ellipsis (.bool f) := sd _ _ D.i2z.symm (sc.extBut _ _ D.TOz.symm (sb.extBut _ _ D.i1z.symm ka))
    have ez : e ≠ z := fun q => by
      rw [q, kd] at he
      cases he
      simp at ce
    exact wpAny_setField_rec kd (by simp) fun hg _ sg => hE hg e (fun c o c1 c2 c3 c4 q => sg.extBut _ _ c1 (sd _ _ c4 (sc.extBut _ _ c2 (sb.extBut _ _ c3 (sa.extBut _ _ c1 q))))) ⟨oe, sg.extBut _ _ ez he, ce⟩
/-- a draw, whatever became of the tuple that was given out -/
theorem zip_item {Q : Value → Shared → Prop} (D : ZipApart z TI TO i1 i2 l1 l2) (hz : ZSt s.heap z TI TO)
    (hTI : IsPair s.heap TI (.ref i1) (.ref i2)) (hTO : IsPair s.heap TO a b) (h1 : s.heap.IsListIter i1 l1 k1) (h2 : s.heap.IsListIter i2 l2 k2)
    (hl1 : s.heap.IsList l1 xs) (hl2 : s.heap.IsList l2 ys) (hx : xs[k1]? = some x) (hy : ys[k2]? = some y)
    (hQ : ∀ h', ZSt h' z TI TO → (∃ c d, IsPair h' TO c d) → h'.IsListIter i1 l1 (k1 + 1) → h'.IsListIter i2 l2 (k2 + 1) → IsPair h' s.heap.objs.size x y →
      h'.objs.size = s.heap.objs.size + 1 → (∀ c o, c ≠ z → c ≠ TO → c ≠ i1 → c ≠ i2 → s.heap.get? c = some o → h'.get? c = some o) → Q (.ref s.heap.objs.size) { s with heap := h' }) :
    wpAny (model prog w) A (Builtin.«zip.__next__» ⟨[.ref z], []⟩) (fun fin s' => ∃ v, fin = .done (.ret v) ∧ Q v s') E s := by
  rcases hz with hz | ⟨T, f, hz⟩
  · exact zip_next_item D hz hTI hTO h1 h2 hl1 hl2 hx hy fun h' z1 z2 z3 z4 z5 z6 z7 => hQ h' (.inr ⟨_, _, z1⟩) ⟨_, _, z2⟩ z3 z4 z5 z6 z7
  · cases hT : s.heap.get? T with
    | some oT => exact zip_next_item_held D hz hT hTI h1 h2 hl1 hl2 hx hy fun h' z1 z3 z4 z5 z6 z7 => hQ h' (.inr ⟨_, _, z1⟩) ⟨_, _, z7 _ _ D.TOz D.TOi1 D.TOi2 hTO⟩ z3 z4 z5 z6 fun c o c1 _ c3 c4 e => z7 c o c1 c3 c4 e
    | none => exact zip_item_dead D hz hT hTI hTO h1 h2 hl1 hl2 hx hy fun h' z1 z2 z3 z4 z5 z6 z7 => hQ h' (.inr ⟨_, _, z1⟩) ⟨_, _, z2⟩ z3 z4 z5 z6 z7
theorem zip_end {Q : Fin → Shared → Prop} (nh : A.handled = none) (D : ZipApart z TI TO i1 i2 l1 l2) (hz : ZSt s.heap z TI TO)
    (hTI : IsPair s.heap TI (.ref i1) (.ref i2)) (hTO : IsPair s.heap TO a b) (h1 : s.heap.IsListIter i1 l1 k1) (h2 : s.heap.IsListIter i2 l2 k2)
    (hl1 : s.heap.IsList l1 xs) (hl2 : s.heap.IsList l2 ys) (hend : xs[k1]? = none ∨ ys[k2]? = none)
    (hE : ∀ h' e, (∀ c o, c ≠ z → c ≠ TO → c ≠ i1 → c ≠ i2 → s.heap.get? c = some o → h'.get? c = some o) → (∃ o, h'.get? e = some o ∧ o.cls = .type "StopIteration") → E (.ref e) { s with heap := h' }) :
    wpAny (model prog w) A (Builtin.«zip.__next__» ⟨[.ref z], []⟩) Q E s := by
  rcases hz with hz | ⟨T, f, hz⟩
  · exact zip_next_end nh D hz hTI hTO h1 h2 hl1 hl2 hend hE
  · cases hT : s.heap.get? T with
    | some oT => exact zip_next_end_held nh D hz hT hTI h1 h2 hl1 hl2 hend fun h' e k q => hE h' e (fun c o c1 _ c3 c4 r => k c o c1 c3 c4 r) q
    | none => exact zip_end_dead nh D hz hT hTI hTO h1 h2 hl1 hl2 hend hE
end
end Hw
/-! for k, (d, e) in enumerate(zip(xs, ys)) -/
namespace Hw
open PySem PySem.Spec PyProof.Rows L2
section
variable {prog : Program} {w : World} {A : Around} {E : Value → Shared → Prop} {s : Shared}
variable {e z TI TO i1 i2 l1 l2 : Addr} {k : Nat} {xs ys : Array Value} {x y a b old : Value}
/-- what a draw of the zip leaves: h1, behind s -/
structure Drawn (h h1 : Heap) (z TI TO i1 i2 l1 l2 : Addr) (k : Nat) (x y : Value) : Prop where
  zip : ZSt h1 z TI TO
  own : ∃ c d, IsPair h1 TO c d
  it1 : h1.IsListIter i1 l1 (k + 1)
  it2 : h1.IsListIter i2 l2 (k + 1)
  new : IsPair h1 h.objs.size x y
  size : h1.objs.size = h.objs.size + 1
  keep : ∀ c o, c ≠ z → c ≠ TO → c ≠ i1 → c ≠ i2 → h.get? c = some o → h1.get? c = some o
theorem next_zip {Q : Value → Shared → Prop} (D : ZipApart z TI TO i1 i2 l1 l2) (hz : ZSt s.heap z TI TO)
    (hTI : IsPair s.heap TI (.ref i1) (.ref i2)) (hTO : IsPair s.heap TO a b) (h1 : s.heap.IsListIter i1 l1 k) (h2 : s.heap.IsListIter i2 l2 k)
    (hl1 : s.heap.IsList l1 xs) (hl2 : s.heap.IsList l2 ys) (hx : xs[k]? = some x) (hy : ys[k]? = some y)
    (hQ : ∀ h', Drawn s.heap h' z TI TO i1 i2 l1 l2 k x y → Q (.ref s.heap.objs.size) { s with heap := h' }) :
    wpAny (model prog w) A (Builtin.SmallTypes.nextOf (.ref z)) Q E s := by
  have hT : s.TypeIs (.ref z) "zip" := by
    rcases hz with q | ⟨_, _, q⟩
    · exact ⟨_, q, rfl⟩
    · exact ⟨_, q, rfl⟩
  unfold Builtin.SmallTypes.nextOf
  refine wpAny_bind (wpAny_callSpecial?_slot (name := Str.ofString "__next__") hT F.slot_zip_next (wpAny_call_entry F.slot_zip_next hT F.entry_zip_next ?_ (F.args_zip_next_1 _)))
  exact zip_item D hz hTI hTO h1 h2 hl1 hl2 hx hy fun h' q1 q2 q3 q4 q5 q6 q7 => wpAny_pure (hQ h' ⟨q1, q2, q3, q4, q5, q6, q7⟩)
theorem next_zip_end {Q : Value → Shared → Prop} (nh : A.handled = none) (D : ZipApart z TI TO i1 i2 l1 l2) (hz : ZSt s.heap z TI TO)
    (hTI : IsPair s.heap TI (.ref i1) (.ref i2)) (hTO : IsPair s.heap TO a b) (h1 : s.heap.IsListIter i1 l1 k) (h2 : s.heap.IsListIter i2 l2 k)
    (hl1 : s.heap.IsList l1 xs) (hl2 : s.heap.IsList l2 ys) (hend : xs[k]? = none ∨ ys[k]? = none)
    (hE : ∀ h' e, (∀ c o, c ≠ z → c ≠ TO → c ≠ i1 → c ≠ i2 → s.heap.get? c = some o → h'.get? c = some o) → (∃ o, h'.get? e = some o ∧ o.cls = .type "StopIteration") → E (.ref e) { s with heap := h' }) :
    wpAny (model prog w) A (Builtin.SmallTypes.nextOf (.ref z)) Q E s := by
  have hT : s.TypeIs (.ref z) "zip" := by
    rcases hz with q | ⟨_, _, q⟩
    · exact ⟨_, q, rfl⟩
    · exact ⟨_, q, rfl⟩
  unfold Builtin.SmallTypes.nextOf
  refine wpAny_bind (wpAny_callSpecial?_slot (name := Str.ofString "__next__") hT F.slot_zip_next (wpAny_call_entry F.slot_zip_next hT F.entry_zip_next ?_ (F.args_zip_next_1 _)))
  exact zip_end nh D hz hTI hTO h1 h2 hl1 hl2 hend hE
/-- a turn of enumerate over such a zip: h1 behind the zip's draw, h' behind all -/
theorem ez_item {Q : Option Value → Shared → Prop} (D : ZipApart z TI TO i1 i2 l1 l2) (he : IsEnum s.heap e z ((k : Nat) : Int) old) (ez : e ≠ z) (eO : e ≠ TO) (e1 : e ≠ i1) (e2 : e ≠ i2) (hz : ZSt s.heap z TI TO)
    (hTI : IsPair s.heap TI (.ref i1) (.ref i2)) (hTO : IsPair s.heap TO a b) (h1 : s.heap.IsListIter i1 l1 k) (h2 : s.heap.IsListIter i2 l2 k)
    (hl1 : s.heap.IsList l1 xs) (hl2 : s.heap.IsList l2 ys) (hx : xs[k]? = some x) (hy : ys[k]? = some y)
    (hQ : ∀ h1 h', Drawn s.heap h1 z TI TO i1 i2 l1 l2 k x y → IsEnumOut h' e z (((k + 1 : Nat)) : Int) (.ref s.heap.objs.size) (s.heap.objs.size + 1) →
      h'.get? (s.heap.objs.size + 1) = some { cls := .type "tuple", data := .seq #[.int ((k : Nat) : Int) s.toks, .ref s.heap.objs.size] } → h'.objs.size = s.heap.objs.size + 2 →
      (∀ c o, c ≠ e → h1.get? c = some o → h'.get? c = some o) → Q (some (.ref (s.heap.objs.size + 1))) { s with heap := h', toks := s.toks + 1 }) :
    wpAny (model prog w) A (pyNext (.ref e)) Q E s := by
  have hT : s.TypeIs (.ref e) "enumerate" := ⟨_, he, rfl⟩
  have ek : ((k : Nat) : Int) + 1 = ((k + 1 : Nat) : Int) := by omega
  unfold pyNext
  refine wpAny_bind (wpAny_attempt (wpAny_callSpecial?_slot (name := Str.ofString "__next__") hT F.slot_enumerate_next (wpAny_call_entry F.slot_enumerate_next hT F.entry_enumerate_next ?_ (F.args_enumerate_next_1 _))))
  obtain ⟨hp, g, d, tk, os⟩ := s
  show wpAny _ _ (field (.ref e) 2 >>= fun v => _) _ _ _
  refine wpAny_bind (wpAny_field he rfl (x := .ref z) rfl (wpAny_bind (next_zip D hz hTI hTO h1 h2 hl1 hl2 hx hy fun ha W => ?_)))
  replace W : Drawn hp ha z TI TO i1 i2 l1 l2 k x y := W
  have fa : IsEnum ha e z ((k : Nat) : Int) old := W.keep _ _ ez eO e1 e2 he
  show wpAny _ _ (field (.ref e) 3 >>= fun v => _) _ _ ⟨ha, g, d, tk, os⟩
  refine wpAny_bind (wpAny_field fa rfl (x := rawInt ((k : Nat) : Int)) rfl ?_)
  show wpAny _ _ (field (.ref e) 4 >>= fun v => _) _ _ ⟨ha, g, d, tk, os⟩
  refine wpAny_bind (wpAny_field fa rfl (x := .none) rfl ?_)
  show wpAny _ _ (mkInt ((k : Nat) : Int) >>= fun v => _) _ _ ⟨ha, g, d, tk, os⟩
  refine wpAny_bind (wpAny_mkInt ?_)
  show wpAny _ _ (setField (.ref e) 3 (rawInt (((k : Nat) : Int) + 1)) >>= fun v => _) _ _ ⟨ha, g, d, tk + 1, os⟩
  refine wpAny_bind (wpAny_setField_rec fa (by simp) fun hb fb sb => ?_)
  replace fb : IsEnum hb e z (((k : Nat) : Int) + 1) old := fb
  replace sb : Heap.SameBut e ha hb := sb
  show wpAny _ _ (setField (.ref e) 4 .none >>= fun v => _) _ _ ⟨hb, g, d, tk + 1, os⟩
  refine wpAny_bind (wpAny_setField_rec fb (by simp) fun hc fc sc => ?_)
  replace fc : IsEnum hc e z (((k : Nat) : Int) + 1) old := fc
  replace sc : Heap.SameBut e hb hc := sc
  show wpAny _ _ (newTuple [.int ((k : Nat) : Int) tk, .ref hp.objs.size] >>= fun v => _) _ _ ⟨hc, g, d, tk + 1, os⟩
  refine wpAny_bind (wpAny_newTuple ?_)
  have size : hc.objs.size = hp.objs.size + 1 := by rw [sc.1, sb.1, W.size]
  have fd : IsEnum (hc.push { cls := .type "tuple", data := .seq #[.int ((k : Nat) : Int) tk, .ref hp.objs.size] }) e z (((k : Nat) : Int) + 1) old := Heap.get?_push_of_some _ fc
  have td : (hc.push { cls := .type "tuple", data := .seq #[.int ((k : Nat) : Int) tk, .ref hp.objs.size] }).get? hc.objs.size = some { cls := .type "tuple", data := .seq #[.int ((k : Nat) : Int) tk, .ref hp.objs.size] } := Heap.get?_push_size _ rfl
  have zd : (hc.push { cls := .type "tuple", data := .seq #[.int ((k : Nat) : Int) tk, .ref hp.objs.size] }).objs.size = hc.objs.size + 1 := Heap.size_push ..
  have kd : ∀ c o, c ≠ e → ha.get? c = some o → (hc.push { cls := .type "tuple", data := .seq #[.int ((k : Nat) : Int) tk, .ref hp.objs.size] }).get? c = some o := fun c o ce q =>
    Heap.get?_push_of_some _ (sc.extBut c o ce (sb.extBut c o ce q))
  have el : e < hc.objs.size := Heap.lt_size fc
  show wpAny _ _ (Builtin.SmallTypes.ownedTupleIsFree (.ref e) >>= fun v => _) _ _ ⟨_, g, d, tk + 1, os⟩
  generalize hc.push { cls := .type "tuple", data := .seq #[.int ((k : Nat) : Int) tk, .ref hp.objs.size] } = hd at fd td zd kd ⊢
  refine wpAny_bind ?_
  unfold Builtin.SmallTypes.ownedTupleIsFree
  refine wpAny_bind (wpAny_field fd rfl (x := .none) rfl (wpAny_pure ?_))
  simp only [if_true]
  refine wpAny_bind (wpAny_rule (wpAny_bind (wpAny_field fd rfl (x := old) rfl (wpAny_bind (wpAny_setField_rec fd (by simp) fun hg fg sg => ?_)))))
  replace fg : IsEnum hg e z (((k : Nat) : Int) + 1) (.ref hp.objs.size) := fg
  replace sg : Heap.SameBut e hd hg := sg
  show wpAny _ _ (Builtin.SmallTypes.ownedTupleHandOut (.ref e) (.ref hc.objs.size) >>= fun v => _) _ _ ⟨hg, g, d, tk + 1, os⟩
  refine wpAny_bind ?_
  unfold Builtin.SmallTypes.ownedTupleHandOut
  refine wpAny_bind (wpAny_setField_rec fg (by simp) fun hi fi si => ?_)
  replace fi : IsEnumOut hi e z (((k : Nat) : Int) + 1) (.ref hp.objs.size) hc.objs.size := fi
  replace si : Heap.SameBut e hg hi := si
  refine wpAny_setField_rec fi (by simp) fun hj fj sj => ?_
  replace fj : IsEnumOut hj e z (((k : Nat) : Int) + 1) (.ref hp.objs.size) hc.objs.size := fj
  replace sj : Heap.SameBut e hi hj := sj
  have up : ∀ c o, c ≠ e → hd.get? c = some o → hj.get? c = some o := fun c o ce q => sj.extBut c o ce (si.extBut c o ce (sg.extBut c o ce q))
  have tj := up _ _ (Nat.ne_of_gt el) td
  have zj : hj.objs.size = hc.objs.size + 1 := by rw [sj.1, si.1, sg.1, zd]
  rw [size] at fj tj zj
  rw [ek] at fj
  refine wpAny_bind (wpAny_letGo (wpAny_pure ⟨_, rfl, ?_⟩))
  rw [size]
  exact wpAny_pure (hQ ha hj W fj tj zj fun c o ce q => up c o ce (kd c o ce q))
theorem ez_end {Q : Option Value → Shared → Prop} (nh : A.handled = none) (D : ZipApart z TI TO i1 i2 l1 l2) (he : IsEnum s.heap e z ((k : Nat) : Int) old) (hz : ZSt s.heap z TI TO)
    (hTI : IsPair s.heap TI (.ref i1) (.ref i2)) (hTO : IsPair s.heap TO a b) (h1 : s.heap.IsListIter i1 l1 k) (h2 : s.heap.IsListIter i2 l2 k)
    (hl1 : s.heap.IsList l1 xs) (hl2 : s.heap.IsList l2 ys) (hend : xs[k]? = none ∨ ys[k]? = none)
    (hQ : ∀ h', (∀ c o, c ≠ z → c ≠ TO → c ≠ i1 → c ≠ i2 → s.heap.get? c = some o → h'.get? c = some o) → Q none { s with heap := h' }) :
    wpAny (model prog w) A (pyNext (.ref e)) Q E s := by
  have hT : s.TypeIs (.ref e) "enumerate" := ⟨_, he, rfl⟩
  unfold pyNext
  refine wpAny_bind (wpAny_attempt (wpAny_callSpecial?_slot (name := Str.ofString "__next__") hT F.slot_enumerate_next (wpAny_call_entry F.slot_enumerate_next hT F.entry_enumerate_next ?_ (F.args_enumerate_next_1 _))))
  show wpAny _ _ (field (.ref e) 2 >>= fun v => _) _ _ _
  refine wpAny_bind (wpAny_field he rfl (x := .ref z) rfl (wpAny_bind (next_zip_end nh D hz hTI hTO h1 h2 hl1 hl2 hend fun h' r kk ⟨o, ho, hc⟩ => ?_)))
  exact wpAny_bind (wpAny_isInstance (T := "StopIteration") (b := true) ⟨o, ho, hc⟩ isSubtype_stop (wpAny_pure (hQ h' kk)))
set_option maxHeartbeats 4000000 in
theorem meets_enum_zip (z TI TO : Addr) :
    Meets (Builtin.«enumerate.__new__» ⟨[.type "enumerate", .ref z], []⟩) (fun _ R s => IsZip s.heap z TI TO .none ∧
      R (.ok (.ret (.ref s.heap.objs.size))) { s with heap := s.heap.push { cls := .type "enumerate", data := .fields #[.none, .bool false, .ref z, rawInt 0, .none, .none] } }) :=
  .of_wp fun prog w A R s h => by
    obtain ⟨hp, g, d, tk, os⟩ := s
    obtain ⟨hz, h⟩ := h
    have hsub := sub_enumerate
    have q1 : ∀ {A' : Around} {E : Value → Shared → Prop} {Q : Value → Shared → Prop}, Q (.ref z) ⟨hp, g, d, tk, os⟩ → wpAny (model prog w) A' (pyIter (.ref z)) Q E ⟨hp, g, d, tk, os⟩ := fun q => wpAny_pyIter_zip hz q
    have hL : Heap.get? (Shared.heap ⟨hp, g, d, tk, os⟩) z = _ := hz
    wp_walk using q1
    refine wpAny_stack_any fun st => wpAny_pure ?_
    split
    · rename_i c _ _ _ _ _
      cases (c == Value.type "enumerate")
      · wp_walk using q1
        exact ⟨_, rfl, h⟩
      · wp_walk using q1
        exact ⟨_, rfl, h⟩
    · wp_walk using q1
      exact ⟨_, rfl, h⟩
theorem call_enum_zip {Q : Value → Shared → Prop} (hz : IsZip s.heap z TI TO .none)
    (h : ∀ h', IsEnum h' s.heap.objs.size z 0 .none → h'.objs.size = s.heap.objs.size + 1 → (∀ c o, s.heap.get? c = some o → h'.get? c = some o) → Q (.ref s.heap.objs.size) { s with heap := h' }) :
    wpAny (model prog w) A (call (.type "enumerate") [.ref z]) Q E s := by
  refine callType_new F.called_enumerate (by decide) (F.typeCall_enumerate_1 _) (F.newCall_enumerate_1 _) (fun obj => F.args_object_init_2 obj _) F.entry_enumerate_new (meets_enum_zip z TI TO) ⟨hz, ?_⟩
  have he : IsEnum (s.heap.push { cls := .type "enumerate", data := .fields #[.none, .bool false, .ref z, rawInt 0, .none, .none] }) s.heap.objs.size z 0 .none := Heap.get?_push_size _ rfl
  exact ⟨⟨_, he, rfl⟩, h _ he (Heap.size_push ..) fun c o q => Heap.get?_push_of_some _ q⟩
end
end Hw
/-! rules of the layer's kind: enumerate(zip(xs, ys)), list(zip(xs, ys)), xs[i::2] -/
namespace Hw
open PySem PySem.Spec PyProof.Rows L2
/-- the five objects of zip(xs, ys), the lists at a and b, k items drawn -/
structure ZipAt (h : Heap) (z TI TO i1 i2 a b : Addr) (k : Nat) : Prop where
  zip : ZSt h z TI TO
  its : IsPair h TI (.ref i1) (.ref i2)
  own : ∃ c d, IsPair h TO c d
  it1 : h.IsListIter i1 a k
  it2 : h.IsListIter i2 b k
theorem ZSt.look {h : Heap} {z TI TO : Addr} (q : ZSt h z TI TO) : ∃ o, h.get? z = some o ∧ ∀ v, o.data ≠ .cell v := by
  rcases q with q | ⟨T, f, q⟩
  · exact ⟨_, q, fun v z => nomatch z⟩
  · exact ⟨_, q, fun v z => nomatch z⟩
theorem ZipAt.obj {h : Heap} {z TI TO i1 i2 a b : Addr} {k : Nat} (q : ZipAt h z TI TO i1 i2 a b k) {c : Addr} (hc : c ∈ [z, TI, TO, i1, i2]) : ∃ o, h.get? c = some o ∧ ∀ v, o.data ≠ .cell v := by
  have e : c = z ∨ c = TI ∨ c = TO ∨ c = i1 ∨ c = i2 := by simpa using hc
  rcases e with e | e | e | e | e
  · rw [e]; exact q.zip.look
  · rw [e]; exact ⟨_, q.its, fun v r => nomatch r⟩
  · rw [e]
    obtain ⟨_, _, w⟩ := q.own
    exact ⟨_, w, fun v r => nomatch r⟩
  · rw [e]
    obtain ⟨o, e1, _, d⟩ := q.it1
    exact ⟨o, e1, fun v r => by rw [d] at r; cases r⟩
  · rw [e]
    obtain ⟨o, e1, _, d⟩ := q.it2
    exact ⟨o, e1, fun v r => by rw [d] at r; cases r⟩
theorem ZipAt.at {h h' : Heap} {z TI TO i1 i2 a b : Addr} {k : Nat} (q : ZipAt h z TI TO i1 i2 a b k) (keep : ∀ c ∈ [z, TI, TO, i1, i2], ∀ o, h.get? c = some o → h'.get? c = some o) : ZipAt h' z TI TO i1 i2 a b k where
  zip := by
    rcases q.zip with r | ⟨T, f, r⟩
    · exact .inl (keep z (by simp) _ r)
    · exact .inr ⟨T, f, keep z (by simp) _ r⟩
  its := keep TI (by simp) _ q.its
  own := let ⟨c, d, w⟩ := q.own; ⟨c, d, keep TO (by simp) _ w⟩
  it1 := q.it1.at fun o e => keep i1 (by simp) o e
  it2 := q.it2.at fun o e => keep i2 (by simp) o e
theorem Drawn.zipAt {h h1 : Heap} {z TI TO i1 i2 a b : Addr} {k : Nat} {x y : Value} (D : ZipApart z TI TO i1 i2 a b) (q : ZipAt h z TI TO i1 i2 a b k) (W : Drawn h h1 z TI TO i1 i2 a b k x y) : ZipAt h1 z TI TO i1 i2 a b (k + 1) :=
  ⟨W.zip, W.keep _ _ D.TIz D.TITO D.TIi1 D.TIi2 q.its, W.own, W.it1, W.it2⟩
theorem five_lt {h : Heap} {z TI TO i1 i2 a b : Addr} {k : Nat} (q : ZipAt h z TI TO i1 i2 a b k) {c : Addr} (hc : c ∈ [z, TI, TO, i1, i2]) : c < h.objs.size := by
  obtain ⟨o, e, _⟩ := q.obj hc
  exact Heap.lt_size e
section
variable {X : Cx}
/-- zip(e, e2) evaluated: the five new objects -/
theorem ev_zip {pins : List (Addr × Obj)} {σ : L2.St} {H : Hp} {s : Shared} {e e2 : Expr} {ta : TA} {p pos : Pos} {R : Addr → Addr → List V → List V → Hp → Prop} {Q : Value → Shared → Prop}
    (hg : Gl X "zip") (hm : X.mg "zip" = none) (ha : PA X [e, e2] ta) (I : Inv X pins σ H s)
    (h : ta σ H fun vs H1 => ∃ a b xs ys, vs = [.ref a, .ref b] ∧ SqL X.K H1 a xs ∧ SqL X.K H1 b ys ∧ R a b xs ys H1)
    (hQ : ∀ (s1 s2 : Shared) (H1 : Hp) (a b : Addr) (xs ys : List V) (z TI TO i1 i2 : Addr), Inv X pins σ H1 s1 → Inv X pins σ H1 s2 → SqL X.K H1 a xs → SqL X.K H1 b ys → R a b xs ys H1 → ZipApart z TI TO i1 i2 a b → ZipAt s2.heap z TI TO i1 i2 a b 0 → IsZip s2.heap z TI TO .none →
      s1.heap.objs.size ≤ TI → (∀ c ∈ [z, TI, TO, i1, i2], s1.heap.objs.size ≤ c) → Q (.ref z) s2)
    (hs : starEach [e, e2] X.env = (false, eval e X.env) :: starEach [e2] X.env := by rfl) (hpl : (backTo pos (starEach [e2] X.env)).any (·.1) = false := by rfl) :
    wpAny (model X.prog X.w) X.A (eval (.Call (.Name "zip" p) [e, e2] [] pos) X.env) Q X.xe s := by
  refine Call_ (ld_blt I hg hm PyProof.Rows.boot_zip (PyProof.Rows.callWith_type1 (thn (ha.run pos pins s σ H _ I h) fun us s1 ⟨vs, H1, I1, r1, q1⟩ => ?_) hs hpl))
  obtain ⟨a, b, xs, ys, ex, qx, qy, q⟩ := q1
  subst ex
  obtain ⟨u1, u2, rfl, ra, rb⟩ := vals2 r1
  cases ra
  cases rb
  obtain ⟨its, rv, p1, _⟩ := I1.list qx
  obtain ⟨its2, rv2, p2, _⟩ := I1.list qy
  refine call_zip_2 p1.isList p2.isList fun h' hz hTI hTO h1 h2 hsz hk => ?_
  have I2 : Inv X pins σ H1 { s1 with heap := h' } := I1.kept (t' := s1.toks) hk
  refine hQ s1 _ H1 a b xs ys _ _ _ _ _ I1 I2 qx qy q (PySem.W.ktu_apart s1.heap.objs.size a b p1.lt p2.lt) ⟨.inl hz, hTI, ⟨_, _, hTO⟩, h1, h2⟩ hz (Nat.le_add_right _ _) fun c hc => ?_
  have e' : c = s1.heap.objs.size + 4 ∨ c = s1.heap.objs.size + 2 ∨ c = s1.heap.objs.size + 3 ∨ c = s1.heap.objs.size ∨ c = s1.heap.objs.size + 1 := by simpa using hc
  rcases e' with e' | e' | e' | e' | e' <;> rw [e'] <;> first | exact Nat.le_add_right _ _ | exact Nat.le_refl _
end
/-! ### enumerate(zip(xs, ys)) -/
/-- the lists at a and b as they stand at each turn, the items in new pairs, these in new pairs with the turn's number -/
def Itez (K : PySem.W.Frag) (a b : Addr) : It :=
  ⟨(Itz K a b).go,
    fun i H v H' => ∃ T T2 x y, v = .ref T ∧ H T2 = none ∧ upd H T2 (.tup [x, y]) T = none ∧ H' = upd (upd H T2 (.tup [x, y])) T (.tup [.int (i : Nat), .ref T2]) ∧ (∀ xs, SqL K H a xs → xs[i]? = some x) ∧ ∀ ys, SqL K H b ys → ys[i]? = some y,
    (Itz K a b).stop⟩
theorem turn_ez {P : Program} {w : World} {K : PySem.W.Frag} {elts : List Expr} {kk : Nat} {tpos : Pos} {a b e z TI TO i1 i2 : Addr} (D : ZipApart z TI TO i1 i2 a b) (ne : e ∉ [z, TI, TO, i1, i2]) :
    Turn P w K (.Tuple elts kk tpos) (Itez K a b) (e :: [z, TI, TO, i1, i2]) e (fun i h => (∃ old, IsEnum h e z ((i : Nat) : Int) old) ∧ ZipAt h z TI TO i1 i2 a b i) where
  mem := List.mem_cons_self
  obj := fun i h st c hc => by
    obtain ⟨⟨old, he⟩, hz⟩ := st
    rcases List.mem_cons.mp hc with q | q
    · rw [q]; exact ⟨_, he, fun v r => nomatch r⟩
    · exact hz.obj q
  keep := fun i h h' st k => let ⟨⟨old, he⟩, hz⟩ := st; ⟨⟨old, k e List.mem_cons_self _ he⟩, hz.at fun c hc o q => k c (List.mem_cons_of_mem _ hc) o q⟩
  item := by
    intro X hP hw hK hc i pins s σ H E I hf st hg
    subst hP hw hK
    obtain ⟨⟨old, he⟩, hz⟩ := st
    obtain ⟨xs, ys, x, y, qx, qy, hx, hy⟩ := hg
    obtain ⟨its, rv, p, _⟩ := I.list qx
    obtain ⟨its2, rv2, p2, _⟩ := I.list qy
    obtain ⟨u, hu, ru⟩ := rv.get hx
    obtain ⟨u2, hu2, ru2⟩ := rv2.get hy
    obtain ⟨c0, d0, own⟩ := hz.own
    have el : e < s.heap.objs.size := Heap.lt_size he
    simp only [List.mem_cons, List.not_mem_nil, or_false, not_or] at ne
    refine ez_item D he ne.1 ne.2.2.1 ne.2.2.2.1 ne.2.2.2.2 hz.zip hz.its own hz.it1 hz.it2 p.isList p2.isList (x := u) (y := u2) (by simpa using hu) (by simpa using hu2) fun h1 h' W fo tt sz kp => ?_
    refine ⟨_, rfl, wpAny_letOwnedTupleGo_enum (s := { s with heap := h', toks := s.toks + 1 }) fo fun h'' fe sb => ?_⟩
    replace sb : Heap.SameBut e h' h'' := sb
    have hf5 : ∀ c ∈ [z, TI, TO, i1, i2], FpOk X pins H c := fun c hc => hf c (List.mem_cons_of_mem _ hc)
    have I1 : Inv X pins σ (upd H s.heap.objs.size (.tup [x, y])) { s with heap := h1 } := by
      refine I.turnedNew (t' := s.toks) (ch := [z, TI, TO, i1, i2]) (fun c o hb q => ?_) hf5 (Nat.le_refl _) ⟨by show 2 ≤ sizeLine; decide, [u, u2], .cons ru (.cons ru2 .nil), ⟨_, W.new, rfl, _, rfl⟩⟩
      simp only [List.mem_cons, List.not_mem_nil, or_false, not_or] at hb
      exact W.keep c o hb.1 hb.2.2.1 hb.2.2.2.1 hb.2.2.2.2 q
    have fe1 : FpOk X pins (upd H s.heap.objs.size (.tup [x, y])) e := ⟨by rw [upd_ne (Nat.ne_of_lt el)]; exact (hf e List.mem_cons_self).1, (hf e List.mem_cons_self).2⟩
    have tt2 : h''.get? (s.heap.objs.size + 1) = some { cls := .type "tuple", data := .seq #[.int ((i : Nat) : Int) s.toks, .ref s.heap.objs.size] } := (sb.2 _ (Nat.ne_of_gt (Nat.lt_succ_of_lt el))).trans tt
    have I2 : Inv X pins σ (upd (upd H s.heap.objs.size (.tup [x, y])) (s.heap.objs.size + 1) (.tup [.int (i : Nat), .ref s.heap.objs.size])) { s with heap := h'', toks := s.toks + 1 } := by
      refine I1.turnedNew (t' := s.toks + 1) (ch := [e]) (fun c o hb q => ?_) (fun c hc => ?_) (by show h1.objs.size ≤ _; rw [W.size]; exact Nat.le_refl _) ⟨by show 2 ≤ sizeLine; decide, [.int ((i : Nat) : Int) s.toks, .ref s.heap.objs.size], .cons ⟨_, rfl⟩ (.cons rfl .nil), ⟨_, tt2, rfl, _, rfl⟩⟩
      · have ce : c ≠ e := fun r => hb (by simp [r])
        exact (sb.2 c ce).trans (kp c o ce q)
      · have r : c = e := by simpa using hc
        rw [r]
        exact fe1
    have n2 : upd H s.heap.objs.size (.tup [x, y]) (s.heap.objs.size + 1) = none := by
      rw [upd_ne (Nat.succ_ne_self _)]
      exact I.hok.fresh (Nat.le_succ _)
    refine ⟨.ref (s.heap.objs.size + 1), _, I2, rfl, ⟨_, _, x, y, rfl, I.hok.fresh (Nat.le_refl _), n2, rfl, fun l hl => by rw [I.list_inj hl qx]; exact hx, fun l hl => by rw [I.list_inj hl qy]; exact hy⟩, ⟨⟨_, fe⟩, ?_⟩, fun c hcm => ?_⟩
    · refine (W.zipAt D hz).at fun c hc o q => ?_
      have ce : c ≠ e := fun r => by
        rw [r] at hc
        simp only [List.mem_cons, List.not_mem_nil, or_false] at hc
        rcases hc with r | r | r | r | r
        · exact ne.1 r
        · exact ne.2.1 r
        · exact ne.2.2.1 r
        · exact ne.2.2.2.1 r
        · exact ne.2.2.2.2 r
      exact (sb.2 c ce).trans (kp c o ce q)
    · have lt : c < s.heap.objs.size := by
        rcases List.mem_cons.mp hcm with r | r
        · rw [r]; exact el
        · exact five_lt hz r
      rw [upd_ne (Nat.ne_of_lt (Nat.lt_succ_of_lt lt)), upd_ne (Nat.ne_of_lt lt)]
      exact (hf c hcm).1
  done := by
    intro X hP hw hK hc i pins s σ H E I hf st hg
    subst hP hw hK
    obtain ⟨⟨old, he⟩, hz⟩ := st
    obtain ⟨xs, ys, qx, qy, hend⟩ := hg
    obtain ⟨its, rv, p, _⟩ := I.list qx
    obtain ⟨its2, rv2, p2, _⟩ := I.list qy
    obtain ⟨c0, d0, own⟩ := hz.own
    have n1 := rv.length
    have n2 := rv2.length
    have hh : its.toArray[i]? = none ∨ its2.toArray[i]? = none := by
      rcases hend with q | q
      · exact .inl (by simp; omega)
      · exact .inr (by simp; omega)
    refine ez_end (I.ok.hd hc) D he hz.zip hz.its own hz.it1 hz.it2 p.isList p2.isList hh fun h' hk => ⟨rfl, I.turnedL (t' := s.toks) (ch := [z, TI, TO, i1, i2]) (fun c o hb q => ?_) fun c hc => hf c (List.mem_cons_of_mem _ hc)⟩
    simp only [List.mem_cons, List.not_mem_nil, or_false, not_or] at hb
    exact hk c o hb.1 hb.2.2.1 hb.2.2.2.1 hb.2.2.2.2 q
  self := fun A i s Q E st h => let ⟨⟨_, he⟩, _⟩ := st; wpAny_pyIter_enum he h
def iEZ (K : PySem.W.Frag) (ta : TA) : TI := fun σ H R => ta σ H fun vs H1 => ∃ a b xs ys, vs = [.ref a, .ref b] ∧ SqL K H1 a xs ∧ SqL K H1 b ys ∧ R (Itez K a b) H1
theorem pi_ez {X : Cx} {e e2 : Expr} {ta : TA} {p p2 pos pos2 tpos : Pos} {elts : List Expr} {kk : Nat} (hg : Gl X "enumerate") (hm : X.mg "enumerate" = none) (hg2 : Gl X "zip") (hm2 : X.mg "zip" = none) (ha : PA X [e, e2] ta)
    (hs0 : starEach [.Call (.Name "zip" p2) [e, e2] [] pos2] X.env = [(false, eval (.Call (.Name "zip" p2) [e, e2] [] pos2) X.env)] := by rfl)
    (hs : starEach [e, e2] X.env = (false, eval e X.env) :: starEach [e2] X.env := by rfl) (hpl : (backTo pos2 (starEach [e2] X.env)).any (·.1) = false := by rfl) :
    PI X (.Tuple elts kk tpos) (.Call (.Name "enumerate" p) [.Call (.Name "zip" p2) [e, e2] [] pos2] [] pos) (iEZ X.K ta) := by
  refine ⟨fun pins s σ H R I h => ?_⟩
  refine Call_ (ld_blt I hg hm boot_enumerate (PyProof.Rows.callWith_type1 ?_ hs0 rfl))
  rw [hs0]
  show wpAny _ _ (spliced ((false, eval (.Call (.Name "zip" p2) [e, e2] [] pos2) X.env) :: [])) _ _ s
  refine Calls.spliced_cons (ev_zip (R := fun a b xs ys H1 => R (Itez X.K a b) H1) hg2 hm2 ha I h (fun s1 s2 H1 a b xs ys z TI TO i1 i2 I1 I2 qx qy q D za hz lo los => ?_) hs hpl)
  refine args_nil (env := X.env) (pos := pos) ?_
  refine call_enum_zip hz fun h' he sz hk => wpAny_pyIter_enum he ?_
  have I3 : Inv X pins σ H1 { s2 with heap := h' } := I2.kept (t' := s2.toks) hk
  have ne : s2.heap.objs.size ∉ [z, TI, TO, i1, i2] := fun hc => absurd (five_lt za hc) (Nat.lt_irrefl _)
  refine ⟨s2.heap.objs.size, s2.heap.objs.size :: [z, TI, TO, i1, i2], _, _, H1, rfl, I3, turn_ez D ne, ⟨⟨.none, he⟩, za.at fun c _ o q => hk c o q⟩, fun c hc => ?_, q⟩
  rcases List.mem_cons.mp hc with r | r
  · rw [r]
    exact I2.fpOk (Nat.le_refl _) (I2.hok.fresh (Nat.le_refl _))
  · exact I1.fpOk (los c r) (I1.hok.fresh (los c r))
end Hw
/-! list(zip(xs, ys)); xs[::2], xs[1::2] -/
namespace Hw
open PySem PySem.Spec PyProof.Rows L2
namespace F2
theorem zip_len0 : typeLookup (.type "zip") "__len__" = pure none := am_miss_of_fast (by decide +kernel)
theorem zip_hint0 : typeLookup (.type "zip") "__length_hint__" = pure none := am_miss_of_fast (by decide +kernel)
end F2
section
variable {prog : Program} {w : World} {A : Around} {E : Value → Shared → Prop} {s : Shared}
variable {z TI TO i1 i2 l1 l2 : Addr} {k : Nat} {xs ys : Array Value} {x y : Value}
theorem ZSt.typ {h : Heap} (q : ZSt h z TI TO) (hs : s.heap = h) : s.TypeIs (.ref z) "zip" := by
  subst hs
  rcases q with q | ⟨_, _, q⟩
  · exact ⟨_, q, rfl⟩
  · exact ⟨_, q, rfl⟩
theorem py_zip {Q : Option Value → Shared → Prop} (D : ZipApart z TI TO i1 i2 l1 l2) (q : ZipAt s.heap z TI TO i1 i2 l1 l2 k)
    (hl1 : s.heap.IsList l1 xs) (hl2 : s.heap.IsList l2 ys) (hx : xs[k]? = some x) (hy : ys[k]? = some y)
    (hQ : ∀ h', Drawn s.heap h' z TI TO i1 i2 l1 l2 k x y → Q (some (.ref s.heap.objs.size)) { s with heap := h' }) : wpAny (model prog w) A (pyNext (.ref z)) Q E s := by
  have hT : s.TypeIs (.ref z) "zip" := q.zip.typ rfl
  obtain ⟨_, _, own⟩ := q.own
  unfold pyNext
  refine wpAny_bind (wpAny_attempt (wpAny_callSpecial?_slot (name := Str.ofString "__next__") hT F.slot_zip_next (wpAny_call_entry F.slot_zip_next hT F.entry_zip_next ?_ (F.args_zip_next_1 _))))
  exact zip_item D q.zip q.its own q.it1 q.it2 hl1 hl2 hx hy fun h' q1 q2 q3 q4 q5 q6 q7 => wpAny_pure (hQ h' ⟨q1, q2, q3, q4, q5, q6, q7⟩)
theorem py_zip_end {Q : Option Value → Shared → Prop} (nh : A.handled = none) (D : ZipApart z TI TO i1 i2 l1 l2) (q : ZipAt s.heap z TI TO i1 i2 l1 l2 k)
    (hl1 : s.heap.IsList l1 xs) (hl2 : s.heap.IsList l2 ys) (hend : xs[k]? = none ∨ ys[k]? = none)
    (hQ : ∀ h', (∀ c o, c ≠ z → c ≠ TO → c ≠ i1 → c ≠ i2 → s.heap.get? c = some o → h'.get? c = some o) → Q none { s with heap := h' }) : wpAny (model prog w) A (pyNext (.ref z)) Q E s := by
  have hT : s.TypeIs (.ref z) "zip" := q.zip.typ rfl
  obtain ⟨_, _, own⟩ := q.own
  unfold pyNext
  refine wpAny_bind (wpAny_attempt (wpAny_callSpecial?_slot (name := Str.ofString "__next__") hT F.slot_zip_next (wpAny_call_entry F.slot_zip_next hT F.entry_zip_next ?_ (F.args_zip_next_1 _))))
  refine zip_end nh D q.zip q.its own q.it1 q.it2 hl1 hl2 hend fun h' r kk ⟨o, ho, hc⟩ => ?_
  exact wpAny_bind (wpAny_isInstance (T := "StopIteration") (b := true) ⟨o, ho, hc⟩ isSubtype_stop (wpAny_pure (hQ h' kk)))
theorem hint_zip {Q : Bool → Shared → Prop} (hT : s.TypeIs (.ref z) "zip") (h : Q true s) : wpAny (model prog w) A (Builtin.List.listLengthHint (.ref z)) Q E s := by
  unfold Builtin.List.listLengthHint
  refine wpAny_bind (wpAny_specialOf hT F2.zip_len0 ?_)
  show wpAny _ _ (specialOf (Value.ref z) (Str.ofString "__length_hint__") >>= fun v => _) _ _ _
  exact wpAny_bind (wpAny_specialOf hT F2.zip_hint0 (wpAny_pure h))
end
section
variable {X : Cx} {pins : List (Addr × Obj)} {σ : L2.St}
/-- the pairs so far -/
def Pairs (H : Hp) (ts : List Addr) (xs ys : List V) : Prop := ∀ (j : Nat) T x y, ts[j]? = some T → xs[j]? = some x → ys[j]? = some y → H T = some (.tup [x, y])
/-- the list at S grows by the zip's pairs -/
theorem lz_loop {A1 : Around} {Rs : Result → Shared → Prop} {H0 : Hp} {S z TI TO i1 i2 a b : Addr} {xs ys : List V} (nh : A1.in1.handled = none) (D : ZipApart z TI TO i1 i2 a b) (hn : H0 S = none) (el : xs.length = ys.length) (hz : xs.length < sizeLine)
    (qx : SqL X.K H0 a xs) (qy : SqL X.K H0 b ys)
    (hdone : ∀ H' s' ts, Inv X pins σ H' s' → Same H0 H' → H' S = some (.lst (ts.map V.ref)) → ts.length = xs.length → Pairs H' ts xs ys → Rs (.ok (.ret .none)) s') :
    ∀ (m k : Nat) (H : Hp) (s : Shared) (ts : List Addr), k + m = xs.length → Inv X pins σ H s → (∀ c ∈ [z, TI, TO, i1, i2], FpOk X pins H c) → ZipAt s.heap z TI TO i1 i2 a b k → Same H0 H → H S = some (.lst (ts.map V.ref)) → ts.length = k → Pairs H ts xs ys →
      codeAny (model X.prog X.w) A1 (.builtin "list.extend.loop" ⟨[.ref S, .ref z, .none], []⟩) Rs s := by
  intro m
  induction m with
  | zero =>
    intro k H s ts hk I hf q sm hS hl hp
    obtain ⟨its, rv, p, _⟩ := I.list (sm.seq qx)
    obtain ⟨its2, rv2, p2, _⟩ := I.list (sm.seq qy)
    have n1 := rv.length
    refine codeAny_builtin PySem.F.entry_extend_loop ?_
    rw [Around.under_plainId PySem.F.plain_extend_loop _]
    show wpAny _ A1.in1 (pyNext (.ref z) >>= fun r => _) _ _ s
    refine wpAny_bind (py_zip_end nh D q p.isList p2.isList (.inl (by simp; omega)) fun h' kk => ?_)
    refine wpAny_pure (hdone H _ ts (I.turnedL (t' := s.toks) (ch := [z, TI, TO, i1, i2]) (fun c o hb r => ?_) hf) sm hS (by omega) hp)
    simp only [List.mem_cons, List.not_mem_nil, or_false, not_or] at hb
    exact kk c o hb.1 hb.2.2.1 hb.2.2.2.1 hb.2.2.2.2 r
  | succ m ih =>
    intro k H s ts hk I hf q sm hS hl hp
    obtain ⟨its, rv, p, _⟩ := I.list (sm.seq qx)
    obtain ⟨its2, rv2, p2, _⟩ := I.list (sm.seq qy)
    obtain ⟨x, hx⟩ : ∃ x, xs[k]? = some x := ⟨xs[k]'(by omega), List.getElem?_eq_getElem (by omega)⟩
    obtain ⟨y, hy⟩ : ∃ y, ys[k]? = some y := ⟨ys[k]'(by omega), List.getElem?_eq_getElem (by omega)⟩
    obtain ⟨u, hu, ru⟩ := rv.get hx
    obtain ⟨u2, hu2, ru2⟩ := rv2.get hy
    refine codeAny_builtin PySem.F.entry_extend_loop ?_
    rw [Around.under_plainId PySem.F.plain_extend_loop _]
    show wpAny _ A1.in1 (pyNext (.ref z) >>= fun r => _) _ _ s
    refine wpAny_bind (py_zip D q p.isList p2.isList (x := u) (y := u2) (by simpa using hu) (by simpa using hu2) fun h1 W => ?_)
    have nT : H s.heap.objs.size = none := I.hok.fresh (Nat.le_refl _)
    have I1 : Inv X pins σ (upd H s.heap.objs.size (.tup [x, y])) { s with heap := h1 } := by
      refine I.turnedNew (t' := s.toks) (ch := [z, TI, TO, i1, i2]) (fun c o hb r => ?_) hf (Nat.le_refl _) ⟨by show 2 ≤ sizeLine; decide, [u, u2], .cons ru (.cons ru2 .nil), ⟨_, W.new, rfl, _, rfl⟩⟩
      simp only [List.mem_cons, List.not_mem_nil, or_false, not_or] at hb
      exact W.keep c o hb.1 hb.2.2.1 hb.2.2.2.1 hb.2.2.2.2 r
    have ST : S ≠ s.heap.objs.size := ne_of_none hS nT
    have hS1 : upd H s.heap.objs.size (.tup [x, y]) S = some (.lst (ts.map V.ref)) := by
      rw [upd_ne ST]
      exact hS
    obtain ⟨zz, its3, n3, r3, l3, e3⟩ := I1.lstM hS1
    have n4 : its3.length = k := by rw [← l3, List.length_map, hl]
    show wpAny _ A1.in1 (updateSeq S (·.push (Value.ref s.heap.objs.size)) >>= fun r => _) _ _ _
    refine wpAny_bind (wpAny_updateSeq e3 rfl (wpAny_pure ⟨plainId_quiet PySem.F.plain_extend_loop _, ?_⟩) (by rw [List.size_toArray]; omega) (by show (its3.toArray.push (Value.ref s.heap.objs.size)).size ≤ sizeLine + 1; rw [Array.size_push, List.size_toArray]; omega))
    have I2 := I1.lset (ys := (ts ++ [s.heap.objs.size]).map V.ref) (its' := its3 ++ [Value.ref s.heap.objs.size]) (t' := s.toks) (f := (·.push (Value.ref s.heap.objs.size))) hS1 e3 (by simp) (by rw [List.map_append]; exact r3.append (.cons rfl .nil)) (by rw [List.length_map, List.length_append, List.length_singleton]; omega)
    have keepS : ∀ c o, c ≠ S → h1.get? c = some o → (h1.update S (Obj.mapSeq (·.push (Value.ref s.heap.objs.size)))).get? c = some o := fun c o cs r => (Heap.get?_update_other _ _ (Ne.symm cs)).trans r
    have cS : ∀ c ∈ [z, TI, TO, i1, i2], c ≠ S := fun c hc r => by
      have := (hf c hc).1
      rw [r, hS] at this
      cases this
    have cT : ∀ c ∈ [z, TI, TO, i1, i2], c ≠ s.heap.objs.size := fun c hc => Nat.ne_of_lt (five_lt q hc)
    refine ih (k + 1) _ _ (ts ++ [s.heap.objs.size]) (by omega) I2 (fun c hc => ⟨?_, (hf c hc).2⟩) ((W.zipAt D q).at fun c hc o r => keepS c o (cS c hc) r) (fun c o r => ?_) upd_same (by rw [List.length_append, hl]; rfl) (fun j T x' y' hT hx' hy' => ?_)
    · rw [upd_ne (cS c hc), upd_ne (cT c hc)]
      exact (hf c hc).1
    · have c1 : c ≠ S := ne_of_none r hn
      have r1 := sm c o r
      have c2 : c ≠ s.heap.objs.size := ne_of_none r1 nT
      rw [upd_ne c1, upd_ne c2]
      exact r1
    · rcases Nat.lt_trichotomy j ts.length with c | c | c
      · rw [List.getElem?_append_left c] at hT
        have g := hp j T x' y' hT hx' hy'
        have c1 : T ≠ S := ne_of g hS (fun r => nomatch r)
        have c2 : T ≠ s.heap.objs.size := ne_of_none g nT
        rw [upd_ne c1, upd_ne c2]
        exact g
      · have e : T = s.heap.objs.size := by
          rw [List.getElem?_append_right (by omega), c, Nat.sub_self] at hT
          exact (Option.some.inj hT).symm
        have ex : x' = x := by
          rw [c, hl, hx] at hx'
          exact (Option.some.inj hx').symm
        have ey : y' = y := by
          rw [c, hl, hy] at hy'
          exact (Option.some.inj hy').symm
        rw [e, ex, ey, upd_ne (Ne.symm ST), upd_same]
      · rw [List.getElem?_eq_none (by rw [List.length_append, List.length_singleton]; omega)] at hT
        cases hT
/-- list(zip(e, e2)) of two lists of one length: a new list of new pairs -/
def tLz (K : PySem.W.Frag) (ta : TA) : TE := fun σ H Q => ta σ H fun vs H1 => ∃ a b xs ys, vs = [.ref a, .ref b] ∧ SqL K H1 a xs ∧ SqL K H1 b ys ∧ (xs.length = ys.length ∧ xs.length < sizeLine ∧
  ∀ (p : Addr) (ts : List Addr) (H' : Hp), H1 p = none → Same H1 H' → H' p = some (.lst (ts.map V.ref)) → ts.length = xs.length → Pairs H' ts xs ys → Q (.ref p) H')
theorem pe_lz {e e2 : Expr} {ta : TA} {p p2 pos pos2 : Pos} (hc : X.calm = true) (hg : Gl X "list") (hm : X.mg "list" = none) (hg2 : Gl X "zip") (hm2 : X.mg "zip" = none) (ha : PA X [e, e2] ta)
    (hs0 : starEach [.Call (.Name "zip" p2) [e, e2] [] pos2] X.env = [(false, eval (.Call (.Name "zip" p2) [e, e2] [] pos2) X.env)] := by rfl)
    (hs : starEach [e, e2] X.env = (false, eval e X.env) :: starEach [e2] X.env := by rfl) (hpl : (backTo pos2 (starEach [e2] X.env)).any (·.1) = false := by rfl) :
    PE X (.Call (.Name "list" p) [.Call (.Name "zip" p2) [e, e2] [] pos2] [] pos) (tLz X.K ta) := by
  refine ⟨fun pins s σ H Q I h => ?_⟩
  refine wpAny_Call_Name_kw (ld_blt I hg hm (u := .type "list") (by decide +kernel) (PyProof.Rows.callWith_type1 ?_ hs0 rfl))
  rw [hs0]
  show wpAny _ _ (spliced ((false, eval (.Call (.Name "zip" p2) [e, e2] [] pos2) X.env) :: [])) _ _ s
  refine Calls.spliced_cons (ev_zip (R := fun a b xs ys H1 => xs.length = ys.length ∧ xs.length < sizeLine ∧ ∀ (p : Addr) (ts : List Addr) (H' : Hp), H1 p = none → Same H1 H' → H' p = some (.lst (ts.map V.ref)) → ts.length = xs.length → Pairs H' ts xs ys → Q (.ref p) H')
    hg2 hm2 ha I h (fun s1 s2 H1 a b xs ys z TI TO i1 i2 I1 I2 qx qy q D za hz lo los => ?_) hs hpl)
  obtain ⟨el, hzl, q⟩ := q
  refine Calls.spliced_nil ?_
  have nh : X.A.handled = none := I2.ok.hd hc
  refine callType_codes (Q₁ := fun obj s₁ => obj = .ref s2.heap.objs.size ∧ s₁ = { s2 with heap := s2.heap.push { cls := .type "list", data := .seq #[] } }) PySem.F.called_list (PySem.F.typeCall_list_1 _) PySem.F.entry_list_init
    (code_list_new _ ⟨rfl, rfl⟩) fun obj sa hsa => ?_
  obtain ⟨rfl, rfl⟩ := hsa
  have hS : (s2.heap.push { cls := .type "list", data := .seq #[] }).get? s2.heap.objs.size = some { cls := .type "list", data := .seq #[] } := Heap.get?_push_size _ rfl
  refine ⟨⟨_, hS, rfl⟩, PySem.F.args_list_init_2 _ _, ?_⟩
  have fr : H1 s2.heap.objs.size = none := I2.hok.fresh (Nat.le_refl _)
  have I3 : Inv X pins σ (upd H1 s2.heap.objs.size (.lst [])) { s2 with heap := s2.heap.push { cls := .type "list", data := .seq #[] } } := I2.lnew (its := []) (t' := s2.toks) .nil (Nat.zero_le _)
  show wpAny _ _ (do let old ← Builtin.List.listItems (.ref s2.heap.objs.size); Builtin.List.listUpdate (.ref s2.heap.objs.size) (fun _ => #[]); letGo old.toList.reverse; Builtin.List.listExtendWith (.ref s2.heap.objs.size) (.ref z) .none) _ _ _
  refine wpAny_bind ?_
  unfold Builtin.List.listItems
  refine wpAny_bind (wpAny_seqItems hS rfl (wpAny_pure ?_))
  show wpAny _ _ (updateSeq s2.heap.objs.size (fun _ => #[]) >>= fun _ => letGo (#[] : Array Value).toList.reverse >>= fun _ => Builtin.List.listExtendWith (.ref s2.heap.objs.size) (.ref z) .none) _ _ _
  refine wpAny_bind (wpAny_updateSeq hS rfl (wpAny_bind (wpAny_letGo ?_)))
  have I4 := I3.lset (f := fun _ => #[]) (its := []) (its' := []) (ys := []) (t' := s2.toks) upd_same hS rfl .nil (Nat.zero_le _)
  rw [upd_upd] at I4
  -- the five objects stand still while the list is made
  have ne5 : ∀ c ∈ [z, TI, TO, i1, i2], c ≠ s2.heap.objs.size := fun c hc => Nat.ne_of_lt (five_lt za hc)
  have zb : ZipAt ((s2.heap.push { cls := .type "list", data := .seq #[] }).update s2.heap.objs.size (Obj.mapSeq (fun _ => #[]))) z TI TO i1 i2 a b 0 := za.at fun c hc o r => (Heap.get?_update_other _ _ (Ne.symm (ne5 c hc))).trans (Heap.get?_push_of_some _ r)
  unfold Builtin.List.listExtendWith
  refine wpAny_bind (wpAny_typeOf (zb.zip.typ rfl) ?_)
  have h1 : Builtin.List.listSameRef (.ref s2.heap.objs.size) (.ref z) = false := by simp [Builtin.List.listSameRef, Ne.symm (ne5 z (by simp))]
  have h2 : (Value.type "zip" == Value.type "list") = false := by decide
  have h3 : (Value.type "zip" == Value.type "tuple") = false := by decide
  simp only [h1, h2, h3, Bool.or_false, Bool.false_eq_true, if_false]
  have zi : IsZip ((s2.heap.push { cls := .type "list", data := .seq #[] }).update s2.heap.objs.size (Obj.mapSeq (fun _ => #[]))) z TI TO .none := (Heap.get?_update_other _ _ (Ne.symm (ne5 z (by simp)))).trans (Heap.get?_push_of_some _ hz)
  refine wpAny_bind (wpAny_pyIter_zip zi (wpAny_bind (wpAny_holding (hint_zip (zb.zip.typ rfl) ?_))))
  have loop : ∀ (h' : Heap), ZipAt h' z TI TO i1 i2 a b 0 → Inv X pins σ (upd H1 s2.heap.objs.size (.lst [])) { s2 with heap := h' } →
      codeAny (model X.prog X.w) X.A.in1 (.builtin "list.extend.loop" ⟨[.ref s2.heap.objs.size, .ref z, .none], []⟩) (wants (fun r s₂ => r = .none ∧ EP X pins σ Q (.ref s2.heap.objs.size) s₂) X.xe) { s2 with heap := h' } := fun h' zc I5 => by
    refine lz_loop (A1 := X.A.in1) (Rs := wants (fun r s₂ => r = .none ∧ EP X pins σ Q (.ref s2.heap.objs.size) s₂) X.xe) (xs := xs) (ys := ys) nh D fr el hzl qx qy (fun H' s' ts I' sm hl' ln hp => ?_) xs.length 0 _ _ [] (by omega) I5 (fun c hc => ⟨?_, (I1.fpOk (los c hc) (I1.hok.fresh (los c hc))).2⟩) zc (fun c o r => ?_) upd_same rfl (fun j T x y hT => nomatch hT)
    · exact ⟨rfl, .ref s2.heap.objs.size, H', I', rfl, q _ ts H' fr sm hl' ln hp⟩
    · rw [upd_ne (ne5 c hc)]
      exact I1.hok.fresh (los c hc)
    · rw [upd_ne (ne_of_none r fr)]
      exact r
  refine wpAny_ite_split (fun _ => ?_) (fun _ => wpAny_pure ⟨plainId_quiet PySem.F.plain_extend_loop _, loop _ zb I4⟩)
  refine wpAny_bind (wpAny_rule (wpAny_bind ?_))
  obtain ⟨z5, its5, n5, r5, l5, e5⟩ := I4.lstM upd_same
  cases r5
  show wpAny _ _ (updateSeq s2.heap.objs.size (·.push .none) >>= fun _ => updateSeq s2.heap.objs.size (·.pop)) _ _ _
  refine wpAny_bind (wpAny_updateSeq e5 rfl ?_)
  have I6 := I4.lset (f := (·.push Value.none)) (its' := [Value.none]) (ys := [.non]) (t' := s2.toks) upd_same e5 (by simp) (.cons rfl .nil) (by rw [List.length_singleton, sizeLine_eq]; decide)
  rw [upd_upd] at I6
  obtain ⟨z7, its7, n7, r7, l7, e7⟩ := I6.lstM upd_same
  obtain ⟨u7, rfl, ru7⟩ := r7.one
  refine wpAny_updateSeq e7 rfl ?_ (by show 1 ≤ sizeLine; rw [sizeLine_eq]; decide) (by show 0 ≤ sizeLine + 1; exact Nat.zero_le _)
  have I8 := I6.lset (f := (·.pop)) (its := [u7]) (its' := []) (ys := []) (t' := s2.toks) upd_same e7 (by rfl) .nil (Nat.zero_le _)
  rw [upd_upd] at I8
  refine wpAny_pure ⟨plainId_quiet PySem.F.plain_extend_loop _, loop _ (zb.at fun c hc o r => ?_) I8⟩
  exact (Heap.get?_update_other _ _ (Ne.symm (ne5 c hc))).trans ((Heap.get?_update_other _ _ (Ne.symm (ne5 c hc))).trans r)
end
end Hw
/-! xs[::2], xs[1::2] -/
namespace Hw
open PySem PySem.Spec PyProof.Rows L2
theorem range_pick {α : Type} (f : Nat → Option α) : ∀ (c : Nat), (∀ k, k < c → ∃ x, f k = some x) → ((List.range c).filterMap f).length = c ∧ ∀ j, ((List.range c).filterMap f)[j]? = if j < c then f j else none
  | 0, _ => ⟨rfl, fun j => by rw [if_neg (by omega)]; rfl⟩
  | c + 1, h => by
    obtain ⟨h1, h2⟩ := range_pick f c fun k hk => h k (by omega)
    obtain ⟨x, hx⟩ := h c (by omega)
    have e : (List.range (c + 1)).filterMap f = (List.range c).filterMap f ++ [x] := by
      rw [List.range_succ, List.filterMap_append]
      simp [hx]
    rw [e]
    refine ⟨by rw [List.length_append, h1]; rfl, fun j => ?_⟩
    rcases Nat.lt_trichotomy j c with q | q | q
    · rw [List.getElem?_append_left (by omega), h2, if_pos q, if_pos (by omega)]
    · rw [List.getElem?_append_right (by omega), q, h1, Nat.sub_self, if_pos (by omega), hx]
      rfl
    · rw [if_neg (by omega), List.getElem?_eq_none (by rw [List.length_append, h1, List.length_singleton]; omega)]
/-- every other one from o on -/
def other (o n : Nat) : List Nat := (List.range ((n + 1 - o) / 2)).map fun k => o + 2 * k
theorem other_pick {α : Type} (xs : List α) (o : Nat) (ho : o ≤ 1) (j : Nat) : ((other o xs.length).filterMap fun i => xs[i]?)[j]? = xs[o + 2 * j]? := by
  unfold other
  rw [List.filterMap_map]
  obtain ⟨_, h2⟩ := range_pick ((fun i => xs[i]?) ∘ fun k => o + 2 * k) ((xs.length + 1 - o) / 2) fun k hk => ⟨xs[o + 2 * k]'(by omega), List.getElem?_eq_getElem (show o + 2 * k < xs.length by omega)⟩
  rw [h2 j]
  split
  · rfl
  · rw [List.getElem?_eq_none (show xs.length ≤ o + 2 * j by omega)]
theorem other_len {α : Type} (xs : List α) (o : Nat) : ((other o xs.length).filterMap fun i => xs[i]?).length ≤ xs.length + 1 := by
  refine Nat.le_trans (List.length_filterMap_le _ _) ?_
  unfold other
  rw [List.length_map, List.length_range]
  omega
theorem other_range (o n : Nat) (ho : o ≤ 1) : sliceRange ((min o n : Nat) : Int) (n : Int) 2 = other o n := by
  unfold sliceRange other
  have c : ((if (2 : Int) > 0 then (if ((min o n : Nat) : Int) < (n : Int) then ((n : Int) - ((min o n : Nat) : Int) + 2 - 1) / 2 else 0) else (if ((min o n : Nat) : Int) > (n : Int) then (((min o n : Nat) : Int) - (n : Int) - 2 - 1) / (-2) else 0)) : Int).toNat = (n + 1 - o) / 2 := by
    rw [if_pos (by decide)]
    split <;> omega
  simp only [c]
  apply List.map_congr_left
  intro k hk
  have := List.mem_range.mp hk
  omega
theorem vals_pick {xs : List V} {us : List Value} (r : Vals xs us) : ∀ l : List Nat, Vals (l.filterMap fun i => xs[i]?) (l.filterMap fun i => us[i]?)
  | [] => .nil
  | i :: l => by
    cases h : xs[i]? with
    | none =>
      rw [List.filterMap_cons_none h, List.filterMap_cons_none (r.none_of h)]
      exact vals_pick r l
    | some x =>
      obtain ⟨u, hu, ru⟩ := r.get h
      rw [List.filterMap_cons_some h, List.filterMap_cons_some hu]
      exact .cons ru (vals_pick r l)
theorem bounds0 (n : Nat) : sliceBounds none none (some 2) n = (((min 0 n : Nat) : Int), (n : Int), 2) := by
  simp [sliceBounds]
theorem bounds1 (n : Nat) : sliceBounds (some 1) none (some 2) n = (((min 1 n : Nat) : Int), (n : Int), 2) := by
  simp only [sliceBounds]
  refine Prod.ext ?_ (Prod.ext ?_ ?_) <;> simp <;> omega
/-- xs[lo::2] of a list: a new list -/
def tEo (K : PySem.W.Frag) (o : Nat) (te : TE) : TE := fun σ H Q => te σ H fun x H1 => ∃ a xs, x = .ref a ∧ SqL K H1 a xs ∧ xs.length < sizeLine ∧ ∀ p ys, H1 p = none → ys.length ≤ xs.length + 1 → (∀ j : Nat, ys[j]? = xs[o + 2 * j]?) → Q (.ref p) (upd H1 p (.lst ys))
section
variable {X : Cx}
theorem eo_core {e : Expr} {te : TE} {lo : Option Expr} {tl : TO} {k o : Nat} {li : Option Int} {p1 p3 pos : Pos} (he : PE X e te) (hl : PO X lo tl) (ho : o ≤ 1) (hlo : ∀ σ H Q, Q li H → tl σ H Q) (hb : ∀ n, sliceBounds li none (some 2) n = (((min o n : Nat) : Int), (n : Int), 2)) :
    PE X (.Subscript e (.Slice lo none (some (.Constant (.int 2) k p1)) p3) pos) (tEo X.K o te) := by
  refine ⟨fun pins s σ H Q I h => ?_⟩
  refine Subscript_ (thn (he.run pins s σ H _ I h) fun v s1 ⟨x, H1, I1, r1, a, xs, ex, hx, hz0, q⟩ => ?_)
  subst ex
  cases r1
  have hst : PO X (some (.Constant (.int 2) k p1)) (tPart (tC (.int 2))) := po_some pe_int
  refine wpAny_Slice (thn (hl.run pins s1 σ H1 (fun z H2 => z = li ∧ H2 = H1) I1 (hlo σ H1 _ ⟨rfl, rfl⟩)) fun vl s2 ⟨l, H2, I2, pl, el, e2⟩ => ?_)
  subst el e2
  refine thn (po_none.run pins s2 σ H2 (fun z H3 => z = none ∧ H3 = H2) I2 ⟨rfl, rfl⟩) fun vu s3 ⟨u, H3, I3, pu, eu, e3⟩ => ?_
  subst eu e3
  refine thn (hst.run pins s3 σ H3 (fun z H4 => z = some 2 ∧ H4 = H3) I3 ⟨2, rfl, rfl, rfl⟩) fun vs s4 ⟨w2, H4, I4, ps, eo, e4⟩ => ?_
  subst eo e4
  have I5 : Inv X pins σ H4 { s4 with heap := s4.heap.push { cls := .type "slice", data := .fields #[vl, vu, vs] } } := I4.kept (t' := s4.toks) fun b ob q => Heap.get?_push_of_some _ q
  obtain ⟨its, r, ht, hz⟩ := I5.list hx
  have hlen := r.length
  show wpAny (model X.prog X.w) X.A (subscriptTail e (.Slice lo none (some (.Constant (.int 2) k p1)) p3) (.ref a) (.ref s4.heap.objs.size)) (EP X pins σ Q) X.xe { s4 with heap := s4.heap.push { cls := .type "slice", data := .fields #[vl, vu, vs] } }
  refine tail_any (ops := [.ref a, .ref s4.heap.objs.size]) ht.isList.typeIs (PySem.slot_list_getitem.lookup) ?_ (by with_unfolding_all rfl)
  refine wpAny_getItem_list_slice ht.isList (Heap.IsSliceOf.new _ vl vu vs) pl pu ps (by decide) ?_ (by rw [List.size_toArray]; omega)
  have ep : slicePick its.toArray l none (some 2) = ((other o xs.length).filterMap fun i => its[i]?).toArray := by
    unfold slicePick
    rw [hb, List.size_toArray, ← hlen, other_range o xs.length ho]
    simp only [List.getElem?_toArray]
  rw [ep]
  have yl := other_len xs o
  refine ⟨.ref _, _, I5.laid (t' := s4.toks) (o := .lst ((other o xs.length).filterMap fun i => xs[i]?)) (fun b ob q => Heap.get?_push_of_some _ q) (Nat.le_refl _) ?_, rfl, q _ _ (I5.hok.fresh (Nat.le_refl _)) yl (other_pick xs o ho)⟩
  exact ⟨by omega, _, 0, vals_pick r _, Heap.get?_push_size _ rfl⟩
theorem pe_even {e : Expr} {te : TE} {k : Nat} {p1 p3 pos : Pos} (he : PE X e te) : PE X (.Subscript e (.Slice none none (some (.Constant (.int 2) k p1)) p3) pos) (tEo X.K 0 te) :=
  eo_core (li := none) he po_none (by decide) (fun _ _ _ q => q) bounds0
theorem pe_odd {e : Expr} {te : TE} {k k2 : Nat} {p1 p2 p3 pos : Pos} (he : PE X e te) : PE X (.Subscript e (.Slice (some (.Constant (.int 1) k2 p2)) none (some (.Constant (.int 2) k p1)) p3) pos) (tEo X.K 1 te) :=
  eo_core (li := some 1) he (po_some pe_int) (by decide) (fun _ _ _ q => ⟨1, rfl, q⟩) bounds1
end
end Hw
/-! the text by places; how data stand in the heap -/
namespace Hw
open PySem PySem.Spec PyProof.Rows L2
def topS (i : Nat) : Stmt := PySem.Challenge.pw_halvewright_k40_whole_where_a_map_rests.main.body.getD i (.Pass ⟨0, 0, 0, 0⟩)
abbrev sPoint : Stmt := topS 1
abbrev sStr : Stmt := topS 3
abbrev sBeg : Stmt := topS 4
abbrev sRests : Stmt := topS 6
abbrev sMixed : Stmt := topS 8
abbrev sDraws : Stmt := topS 9
abbrev sGrown : Stmt := topS 10
abbrev sTree : Stmt := topS 11
abbrev sLists : Stmt := topS 12
abbrev sBump : Stmt := topS 13
abbrev sPairs : Stmt := topS 14
abbrev sDrawn : Stmt := topS 15
abbrev sLpt : Stmt := topS 16
abbrev sDue : Stmt := topS 17
abbrev sWhole : Stmt := topS 18
abbrev sLaw : Stmt := topS 19
theorem scPoint : FnScope ["n", "d"] ["n", "d"] (defScope sPoint) := ⟨rfl, rfl, rfl, by decide +kernel, rfl, by decide +kernel, by decide +kernel⟩
theorem scStr : FnScope ["tree", "n", "d"] ["tree", "n", "d"] (defScope sStr) := ⟨rfl, rfl, rfl, by decide +kernel, rfl, by decide +kernel, by decide +kernel⟩
theorem scBeg : FnScope ["tree"] ["tree"] (defScope sBeg) := ⟨rfl, rfl, rfl, by decide +kernel, rfl, by decide +kernel, by decide +kernel⟩
theorem scRests : FnScope ["mapped", "found", "p", "d", "q", "e", "end"] ["mapped"] (defScope sRests) := ⟨rfl, rfl, rfl, by decide +kernel, rfl, by decide +kernel, by decide +kernel⟩
theorem scMixed : FnScope ["_law_script", "_law_at", "_law_k", "_law_number"] ["_law_script", "_law_at", "_law_k"] (defScope sMixed) := ⟨rfl, rfl, rfl, by decide +kernel, rfl, by decide +kernel, by decide +kernel⟩
theorem scDraws : FnScope ["_law_script", "_law_at", "_law_many", "_law_m", "_law_found", "_law_rest"] ["_law_script", "_law_at", "_law_many", "_law_m"] (defScope sDraws) := ⟨rfl, rfl, rfl, by decide +kernel, rfl, by decide +kernel, by decide +kernel⟩
theorem scGrown : FnScope ["_law_digits", "_law_shape", "_law_depths", "_law_last", "_law_d", "_law_k"] ["_law_digits", "_law_shape"] (defScope sGrown) := ⟨rfl, rfl, rfl, by decide +kernel, rfl, by decide +kernel, by decide +kernel⟩
theorem scTree : FnScope ["_law_depths", "_law_stack", "_law_d", "_law_deep", "_law_right", "_law_left"] ["_law_depths"] (defScope sTree) := ⟨rfl, rfl, rfl, by decide +kernel, rfl, by decide +kernel, by decide +kernel⟩
theorem scLists : FnScope ["_law_script", "_law_at", "_law_most", "_law_size", "_law_shape", "_law_many", "_law_rest"] ["_law_script", "_law_at", "_law_most"] (defScope sLists) := ⟨rfl, rfl, rfl, by decide +kernel, rfl, by decide +kernel, by decide +kernel⟩
theorem scBump : FnScope ["_law_lists_here", "_law_digits", "_law_one", "_law_other", "_law_k", "_law_size", "_law_base", "_law_top", "_law_d"] ["_law_lists_here", "_law_digits"] (defScope sBump) := ⟨rfl, rfl, rfl, by decide +kernel, rfl, by decide +kernel, by decide +kernel⟩
theorem scPairs : FnScope ["_law_lists_here", "_law_unit", "_law_pairs", "_law_d", "_law_e", "_law_x", "_law_y"] ["_law_lists_here"] (defScope sPairs) := ⟨rfl, rfl, rfl, by decide +kernel, rfl, by decide +kernel, by decide +kernel⟩
theorem scDrawn : FnScope ["_law_script", "_law_lists_here", "_law_way", "_law_k"] ["_law_script"] (defScope sDrawn) := ⟨rfl, rfl, rfl, by decide +kernel, rfl, by decide +kernel, by decide +kernel⟩
theorem scLpt : FnScope ["_law_x", "_law_least"] ["_law_x"] (defScope sLpt) := ⟨rfl, rfl, rfl, by decide +kernel, rfl, by decide +kernel, by decide +kernel⟩
theorem scDue : FnScope ["_law_lists_here", "_law_marks", "_law_pairs", "_law_k", "_law_d", "_law_e", "_law_x", "_law_y", "_law_points"] ["_law_lists_here"] (defScope sDue) := ⟨rfl, rfl, rfl, by decide +kernel, rfl, by decide +kernel, by decide +kernel⟩
theorem scWhole : FnScope ["_law_found", "_law_stretch", "_law_p", "_law_n"] ["_law_found"] (defScope sWhole) := ⟨rfl, rfl, rfl, by decide +kernel, rfl, by decide +kernel, by decide +kernel⟩
theorem scLaw : FnScope ["_law_script", "_law_lists_here", "_law_f", "_law_due_here", "_law_found", "_law_other"] ["_law_script"] (defScope sLaw) := ⟨rfl, rfl, rfl, by decide +kernel, rfl, by decide +kernel, by decide +kernel⟩
/-! ### heaps -/
theorem same_new {H : Hp} {p : Addr} {o : HO} (h : H p = none) : Same H (upd H p o) := fun b x e => by
  rw [upd_ne (ne_of_none e h)]
  exact e
theorem same_mut {H H' : Hp} {p : Addr} {o : HO} (e : Same H H') (h : H p = none) : Same H (upd H' p o) := fun a u ha => by
  rw [upd_ne (ne_of_none ha h)]
  exact e a u ha
theorem same_tup {K : PySem.W.Frag} {H H' : Hp} {a : Addr} {xs : List V} (e : Same H H') (h : SqT K H a xs) : SqT K H' a xs := by
  rcases h with (h | ⟨o, h⟩) | h
  · exact .inl (.inl (e _ _ h))
  · exact .inl (.inr ⟨o, e _ _ h⟩)
  · exact .inr h
theorem lst_of {K : PySem.W.Frag} {H : Hp} {a : Addr} {xs : List V} (h : H a = some (.lst xs)) : SqL K H a xs := .inl (.inl h)
theorem tup_of {K : PySem.W.Frag} {H : Hp} {a : Addr} {xs : List V} (h : H a = some (.tup xs)) : SqT K H a xs := .inl (.inl h)
theorem sl_of {n : Nat} (h : n ≤ 100000) : n ≤ sizeLine := Nat.le_trans h (by decide)
theorem sl_lt {n : Nat} (h : n < 100000) : n < sizeLine := Nat.lt_of_lt_of_le h (by decide)
/-- a natural as a value; a list of them -/
abbrev nv (n : Nat) : V := .int (n : Int)
theorem nvs_len (ns : List Nat) : (ns.map nv).length = ns.length := List.length_map _
theorem nvs_at {ns : List Nat} {j x : Nat} (h : ns[j]? = some x) : (ns.map nv)[j]? = some (nv x) := by
  rw [List.getElem?_map, h]
  rfl
theorem at_j {xs : List V} {z : Int} {j : Nat} {v : V} (e : z = (j : Int)) (h : xs[j]? = some v) : atI xs z = some v := by
  rw [e]
  exact atI_nat h
/-! ### data -/
section
variable {K : PySem.W.Frag} {H H' : Hp}
mutual
theorem dp_mono (e : Same H H') : ∀ {d : PyData} {v : V}, Dp K H v d → Dp K H' v d
  | _, _, .non => .non
  | _, _, .bl b => .bl b
  | _, _, .int i => .int i
  | _, _, .str x => .str x
  | _, _, .lst h a => .lst (e.seq h) (dps_mono e a)
  | _, _, .tup h a => .tup (same_tup e h) (dps_mono e a)
theorem dps_mono (e : Same H H') : ∀ {ds : List PyData} {vs : List V}, DpAll K H vs ds → DpAll K H' vs ds
  | _, _, .nil => .nil
  | _, _, .cons h t => .cons (dp_mono e h) (dps_mono e t)
end
theorem dp_int {v : V} {i : Int} (h : Dp K H v (.int i)) : v = .int i := by
  cases h
  rfl
theorem dp_tup {v : V} {ds : List PyData} (h : Dp K H v (.tuple ds)) : ∃ a xs, v = .ref a ∧ SqT K H a xs ∧ DpAll K H xs ds := by
  cases h with
  | tup h a => exact ⟨_, _, rfl, h, a⟩
theorem dp_lst {v : V} {ds : List PyData} (h : Dp K H v (.list ds)) : ∃ a xs, v = .ref a ∧ SqL K H a xs ∧ DpAll K H xs ds := by
  cases h with
  | lst h a => exact ⟨_, _, rfl, h, a⟩
theorem dp_two {v : V} {d1 d2 : PyData} (h : Dp K H v (.tuple [d1, d2])) : ∃ a v1 v2, v = .ref a ∧ SqT K H a [v1, v2] ∧ Dp K H v1 d1 ∧ Dp K H v2 d2 := by
  obtain ⟨a, xs, e, q, w⟩ := dp_tup h
  cases w with
  | cons h1 t =>
    cases t with
    | cons h2 t =>
      cases t
      exact ⟨a, _, _, e, q, h1, h2⟩
theorem dp_nil {v : V} (h : Dp K H v (.tuple [])) : ∃ a, v = .ref a ∧ SqT K H a [] := by
  obtain ⟨a, xs, e, q, w⟩ := dp_tup h
  cases w
  exact ⟨a, e, q⟩
theorem dp_mk2 {a : Addr} {v1 v2 : V} {d1 d2 : PyData} (q : SqT K H a [v1, v2]) (h1 : Dp K H v1 d1) (h2 : Dp K H v2 d2) : Dp K H (.ref a) (.tuple [d1, d2]) := .tup q (.cons h1 (.cons h2 .nil))
theorem dps_len : ∀ {ds : List PyData} {vs : List V}, DpAll K H vs ds → vs.length = ds.length
  | _, _, .nil => rfl
  | _, _, .cons _ t => congrArg (· + 1) (dps_len t)
theorem dps_app : ∀ {ds es : List PyData} {vs ws : List V}, DpAll K H vs ds → DpAll K H ws es → DpAll K H (vs ++ ws) (ds ++ es)
  | _, _, _, _, .nil, s => s
  | _, _, _, _, .cons h t, s => .cons h (dps_app t s)
theorem dps_get : ∀ {ds : List PyData} {vs : List V} {i : Nat} {d : PyData}, DpAll K H vs ds → ds[i]? = some d → ∃ v, vs[i]? = some v ∧ Dp K H v d
  | _, _, i, d, .nil, e => by simp at e
  | _, _, 0, d, .cons h t, e => ⟨_, rfl, by
    have e' := Option.some.inj e
    rw [← e']
    exact h⟩
  | _, _, i + 1, d, .cons h t, e => dps_get (i := i) t e
theorem dps_back : ∀ {ds : List PyData} {vs : List V} {i : Nat} {v : V}, DpAll K H vs ds → vs[i]? = some v → ∃ d, ds[i]? = some d ∧ Dp K H v d
  | _, _, i, v, .nil, e => by simp at e
  | _, _, 0, v, .cons h t, e => ⟨_, rfl, by
    have e' := Option.some.inj e
    rw [← e']
    exact h⟩
  | _, _, i + 1, v, .cons h t, e => dps_back (i := i) t e
end
def T.data : T → PyData
  | .lf => .tuple []
  | .nd l r => .tuple [l.data, r.data]
def pdat (p : P) : PyData := .tuple [.int (p.1 : Int), .int (p.2 : Int)]
def sdat (a : P × Nat) : PyData := .tuple [pdat a.1, .int (a.2 : Int)]
def rdat (a : P × P) : PyData := .tuple [pdat a.1, pdat a.2]
theorem data_lay : ∀ t : T, t.data.canLay0 = true
  | .lf => rfl
  | .nd l r => by
    show (l.data.canLay0 && (r.data.canLay0 && true)) = true
    rw [data_lay l, data_lay r]
    rfl
theorem data_depth : ∀ t : T, t.data.depth ≤ t.ht + 1
  | .lf => by
    simp [T.data, PyData.depth, PyData.depthAll, T.ht]
  | .nd l r => by
    have h1 := data_depth l
    have h2 := data_depth r
    simp only [T.data, PyData.depth, PyData.depthAll, T.ht]
    omega
theorem data_shaped {t : T} (h : t.ht ≤ 60) : SeqAt.shaped t.data = true := by
  unfold SeqAt.shaped
  rw [data_lay t]
  have := data_depth t
  simp
  omega
theorem eqv_leaf (t : T) : PyData.eqv t.data (.tuple []) = match t with | .lf => true | .nd _ _ => false := by
  cases t with
  | lf => rfl
  | nd l r => rfl
end Hw
/-! point, stretches, begins -/
namespace Hw
open PySem PySem.Spec PyProof.Rows L2
section
variable {P : Program} {w : World} {K : PySem.W.Frag} {mg : Str → Option Value} {base : Heap}
/-! ### point(n, d) -/
def spPoint (K : PySem.W.Frag) : Sp := fun vs H Q _ => ∃ n d : Nat, vs = [nv n, nv d] ∧ ∀ p, H p = none → Q (.ref p) (upd H p (.tup [nv (pt n d).1, nv (pt n d).2]))
theorem ok_point {f : Addr} {fd : FuncData} {k : Nat} (F : Fun K "point" "point" sPoint f fd) : FnOk P w K mg base CX0 (k + 1) f fd ["n", "d"] (spPoint K) := by
  refine F.ok scPoint (fun vs H Q E h => ?_) (fun cdv A outer s H vs Q E hr h => ?_)
  · obtain ⟨n, d, rfl, _⟩ := h
    rfl
  obtain ⟨n0, d0, rfl, q⟩ := h
  refine ⟨_, pss_cons (ps_while PassesOwn.never (PW.pt (pw_and (pt_cmpR op_gt (pv 1) pe_int (nomark _)) (pw_and1 (pt_cmpR op_eq (pe_op op_mod (pv 0) pe_int) pe_int (nomark _)))))
      (pss_cons (ps_set (i := 0) scPoint.nd rfl (.inl rfl) (pe_op op_fdiv (pv 0) pe_int)) (pss_one (ps_aug (i := 1) scPoint.nd rfl (.inl rfl) pe_int ip_sub))))
    (pss_one (ps_ret (pe_tup (pa_cons (pv 0) (pa_cons (pv 1) pa_nil))))), ?_⟩
  have fin : ∀ (n d : Nat), pt n d = (n, d) → pt n d = pt n0 d0 → tRet (tTup (tCons (tVar 0) (tCons (tVar 1) tNil))) { nx := fun _ H' => Q .non H', rt := Q } [some (nv n), some (nv d)] H := fun n d e1 e2 => by
    refine ⟨nv n, rfl, nv d, rfl, (by show 2 ≤ sizeLine; decide), fun p np => ?_⟩
    have e3 := q p np
    rw [← e2, e1] at e3
    exact e3
  refine ⟨fun m σ H1 => ∃ n d : Nat, σ = [some (nv n), some (nv d)] ∧ m = d ∧ pt n d = pt n0 d0 ∧ H1 = H, ⟨d0, n0, d0, rfl, rfl, rfl, rfl⟩, fun m σ H1 hW => ?_⟩
  obtain ⟨n, d, rfl, rfl, e, rfl⟩ := hW
  refine ⟨nv m, rfl, m, 0, rfl, rfl, _, rfl, ?_⟩
  by_cases c : (0 : Int) < (m : Int)
  · rw [decide_eq_true c]
    refine iteT ⟨nv n, rfl, n, 2, rfl, rfl, (show (0 : Int) < 2 by decide), rfl, _, rfl, ?_⟩
    obtain ⟨d, rfl⟩ : ∃ d, m = d + 1 := ⟨m - 1, by omega⟩
    by_cases c2 : n % 2 = 0
    · rw [show decide (V.int ((n : Int) % 2) = V.int 0) = true from decide_eq_true (congrArg V.int (by omega))]
      refine iteT ⟨fun σ' H' => σ' = [some (nv (n / 2)), some (nv d)] ∧ H' = H1, fun σ' H' hN => ?_, ?_⟩
      · obtain ⟨rfl, rfl⟩ := hN
        refine ⟨d, by omega, n / 2, d, rfl, rfl, ?_, rfl⟩
        rw [← e, pt_succ, if_pos c2]
      · refine ⟨nv n, rfl, n, 2, rfl, rfl, ⟨by decide, by decide⟩, nv (d + 1), rfl, _, _, rfl, rfl, ?_, rfl⟩
        have e1 : (n : Int) / 2 = ((n / 2 : Nat) : Int) := by omega
        have e2 : ((d + 1 : Nat) : Int) - 1 = (d : Int) := by omega
        show [some (V.int ((n : Int) / 2)), some (V.int (((d + 1 : Nat) : Int) - 1))] = _
        rw [e1, e2]
    · rw [show decide (V.int ((n : Int) % 2) = V.int 0) = false from decide_eq_false (fun z => c2 (by have z' := V.int.inj z; omega))]
      refine iteF (fin n (d + 1) ?_ e)
      rw [pt_succ, if_neg c2]
  · rw [decide_eq_false c]
    have z : m = 0 := by omega
    subst z
    exact iteF (iteF (fin n 0 rfl e))
/-! ### stretches(tree, n, d), begins(tree) -/
def spStr (K : PySem.W.Frag) (m : Nat) : Sp := fun vs H Q _ => ∃ (v : V) (t : T) (n d : Nat), vs = [v, nv n, nv d] ∧ Dp K H v t.data ∧ t.ht < m ∧ t.ht ≤ 60 ∧ t.leaves ≤ 1000 ∧
  ∀ p xs H', Same H H' → H p = none → H' p = some (.lst xs) → DpAll K H' xs ((t.strs n d).map sdat) → Q (.ref p) H'
theorem ok_str {f g : Addr} {fd gd : FuncData} {m : Nat} (F : Fun K "stretches" "stretches" sStr f fd) (bF : Binds K fd ["tree", "n", "d"] []) (mF : mg "stretches" = some (.ref f)) (GP : FnOk P w K mg base CX0 1 g gd ["n", "d"] (spPoint K)) (bP : Binds K gd ["n", "d"] [])
    (kP : PySem.W.keepIn K (.ref g) = true) (mP : mg "point" = some (.ref g)) (G : FnOk P w K mg base CX0 (m + 1) f fd ["tree", "n", "d"] (spStr K m)) : FnOk P w K mg base CX0 (m + 1 + 1) f fd ["tree", "n", "d"] (spStr K (m + 1)) := by
  refine F.ok scStr (fun vs H Q E h => ?_) (fun cdv A outer s H vs Q E hr h => ?_)
  · obtain ⟨v, t, n, d, rfl, _⟩ := h
    rfl
  obtain ⟨v, t, n, d, rfl, hv, hm, h60, hl, q⟩ := h
  refine ⟨_, pss_cons (ps_if (pt_cmpR (op_eqD hr.units) (pv 0) (pe_tup pa_nil) (nomark _))
      (pss_one (ps_ret (pe_lst (pa_cons (pe_tup (pa_cons (pe_call GP (hr.mono (by omega)) (by rfl) mP kP bP .nil pass0 (pa_cons (pv 1) (pa_cons (pv 2) pa_nil))) (pa_cons (pv 2) pa_nil))) pa_nil)))) pss_nil)
    (pss_one (ps_ret (pe_op op_cat
      (pe_call G hr (by rfl) mF F.kp bF .nil pass0 (pa_cons (pe_ix ix_tup (pv 0) pe_int (fun _ _ => rfl)) (pa_cons (pe_op op_mulN pe_int (pv 1)) (pa_cons (pe_op op_addN (pv 2) pe_int) pa_nil))))
      (pe_call G hr (by rfl) mF F.kp bF .nil pass0 (pa_cons (pe_ix ix_tup (pv 0) pe_int (fun _ _ => rfl)) (pa_cons (pe_op op_addN (pe_op op_mulN pe_int (pv 1)) pe_int) (pa_cons (pe_op op_addN (pv 2) pe_int) pa_nil))))))), ?_⟩
  refine ⟨v, rfl, Nat.zero_le _, fun e ne => ?_⟩
  have s1 : Same H (upd H e (.tup [])) := same_new ne
  refine ⟨t.data, .tuple [], dp_mono s1 hv, .tup (tup_of upd_same) .nil, data_shaped h60, rfl, _, rfl, ?_⟩
  rw [eqv_leaf]
  cases t with
  | lf =>
    refine iteT ⟨nv n, rfl, nv d, rfl, n, d, rfl, fun a na => ?_⟩
    have s2 : Same (upd H e (.tup [])) _ := same_new (o := .tup [nv (pt n d).1, nv (pt n d).2]) na
    refine ⟨nv d, rfl, (by show 2 ≤ sizeLine; decide), fun b nb => ?_⟩
    have s3 := same_new (o := .tup [.ref a, nv d]) nb
    refine ⟨(by show 1 ≤ sizeLine; decide), fun c nc => ?_⟩
    have s4 := same_new (o := .lst [.ref b]) nc
    have s14 := ((s1.trans s2).trans s3).trans s4
    refine q c [.ref b] _ s14 (((s1.trans s2).trans s3).free nc) upd_same (.cons ?_ .nil)
    refine dp_mono s4 (dp_mk2 (tup_of upd_same) (dp_mono s3 (dp_mk2 (tup_of upd_same) (.int _) (.int _))) (.int _))
  | nd l r =>
    obtain ⟨a, v1, v2, ev, qt, d1, d2⟩ := dp_two hv
    have hm' : max l.ht r.ht + 1 < m + 1 := hm
    have h60' : max l.ht r.ht + 1 ≤ 60 := h60
    have hl' : l.leaves + r.leaves ≤ 1000 := hl
    have e2 : V.int ((2 : Int)) = nv 2 := rfl
    refine iteF ⟨v, rfl, a, [v1, v2], 0, v1, ev, rfl, same_tup s1 qt, atI_nat (j := 0) rfl, nv n, rfl, 2, n, rfl, rfl, (by decide), nv d, rfl, d, 1, rfl, rfl, v1, l, 2 * n, d + 1, rfl, dp_mono s1 d1, by omega, by omega, by omega, fun p1 xs1 H1 t1 n1 o1 w1 => ?_⟩
    have s5 := s1.trans t1
    refine ⟨v, rfl, a, [v1, v2], 1, v2, ev, rfl, same_tup s5 qt, atI_nat (j := 1) rfl, nv n, rfl, 2, n, rfl, rfl, (by decide), 2 * n, 1, rfl, rfl, nv d, rfl, d, 1, rfl, rfl, v2, r, 2 * n + 1, d + 1, rfl, dp_mono s5 d2, by omega, by omega, by omega, fun p2 xs2 H2 t2 n2 o2 w2 => ?_⟩
    have l1 := dps_len w1
    have l2 := dps_len w2
    rw [List.length_map, strs_len] at l1 l2
    refine ⟨p1, p2, xs1, xs2, rfl, rfl, t2 _ _ o1, o2, sl_of (by omega), fun p np => ?_⟩
    have s6 := same_new (o := .lst (xs1 ++ xs2)) np
    refine q p _ _ ((s5.trans t2).trans s6) ((s5.trans t2).free np) upd_same ?_
    show DpAll K _ (xs1 ++ xs2) ((l.strs (2 * n) (d + 1) ++ r.strs (2 * n + 1) (d + 1)).map sdat)
    rw [List.map_append]
    exact dps_app (dps_mono (t2.trans s6) w1) (dps_mono s6 w2)
theorem str_none {f : Addr} {fd : FuncData} {k : Nat} : FnOk P w K mg base CX0 k f fd ["tree", "n", "d"] (spStr K 0) := by
  have no : ∀ vs H Q E, ¬ spStr K 0 vs H Q E := fun vs H Q E h => by
    obtain ⟨v, t, n, d, _, _, h, _⟩ := h
    omega
  exact ⟨fun vs H Q E h => absurd h (no vs H Q E), fun A outer s H args us vs Q E _ _ _ _ h => absurd h (no vs H Q E)⟩
theorem all_str {f g : Addr} {fd gd : FuncData} (F : Fun K "stretches" "stretches" sStr f fd) (bF : Binds K fd ["tree", "n", "d"] []) (mF : mg "stretches" = some (.ref f)) (GP : FnOk P w K mg base CX0 1 g gd ["n", "d"] (spPoint K)) (bP : Binds K gd ["n", "d"] [])
    (kP : PySem.W.keepIn K (.ref g) = true) (mP : mg "point" = some (.ref g)) : ∀ m, FnOk P w K mg base CX0 (m + 1) f fd ["tree", "n", "d"] (spStr K m)
  | 0 => str_none
  | m + 1 => ok_str F bF mF GP bP kP mP (all_str F bF mF GP bP kP mP m)
def spBeg (K : PySem.W.Frag) : Sp := fun vs H Q _ => ∃ (v : V) (t : T), vs = [v] ∧ Dp K H v t.data ∧ t.ht ≤ 40 ∧ t.leaves ≤ 1000 ∧
  ∀ p xs H', Same H H' → H p = none → H' p = some (.lst xs) → DpAll K H' xs ((t.strs 0 0).map sdat) → Q (.ref p) H'
theorem ok_beg {f g : Addr} {fd gd : FuncData} (F : Fun K "begins" "begins" sBeg f fd) (GS : FnOk P w K mg base CX0 42 g gd ["tree", "n", "d"] (spStr K 41)) (bS : Binds K gd ["tree", "n", "d"] [])
    (kS : PySem.W.keepIn K (.ref g) = true) (mS : mg "stretches" = some (.ref g)) : FnOk P w K mg base CX0 43 f fd ["tree"] (spBeg K) := by
  refine F.ok scBeg (fun vs H Q E h => ?_) (fun cdv A outer s H vs Q E hr h => ?_)
  · obtain ⟨v, t, rfl, _⟩ := h
    rfl
  obtain ⟨v, t, rfl, hv, h40, hl, q⟩ := h
  refine ⟨_, pss_one (ps_ret (pe_call GS hr (by rfl) mS kS bS .nil pass0 (pa_cons (pv 0) (pa_cons pe_int (pa_cons pe_int pa_nil))))), ?_⟩
  exact ⟨v, rfl, v, t, 0, 0, rfl, hv, by omega, by omega, hl, fun p xs H' a b c d => q p xs H' a b c d⟩
end
end Hw
/-! rests -/
namespace Hw
open PySem PySem.Spec PyProof.Rows L2
/-- all but the object at o is as it was -/
def But (o : Addr) (H H' : Hp) : Prop := ∀ b z, b ≠ o → H b = some z → H' b = some z
theorem But.refl {o : Addr} {H : Hp} : But o H H := fun _ _ _ h => h
theorem But.trans {o : Addr} {H H1 H2 : Hp} (a : But o H H1) (b : But o H1 H2) : But o H H2 := fun c z n h => b c z n (a c z n h)
theorem same_but {o : Addr} {H H' : Hp} (e : Same H H') : But o H H' := fun b z _ h => e b z h
theorem But.upd {o : Addr} {H H' : Hp} {x : HO} (e : But o H H') : But o H (upd H' o x) := fun b z n h => by
  rw [upd_ne n]
  exact e b z n h
theorem But.same {o : Addr} {H0 H H' : Hp} (s : Same H0 H) (n : H0 o = none) (e : But o H H') : Same H0 H' := fun b z h => e b z (ne_of_none h n) (s b z h)
mutual
def tupsOnly : PyData → Bool
  | .tuple ds => tupsAll ds
  | .list _ => false
  | .dict _ => false
  | .none => true
  | .bool _ => true
  | .int _ => true
  | .str _ => true
def tupsAll : List PyData → Bool
  | [] => true
  | d :: ds => tupsOnly d && tupsAll ds
end
section
variable {K : PySem.W.Frag} {H H' : Hp} {o : Addr} {ys : List V}
theorem but_tup {a : Addr} {xs : List V} (e : But o H H') (ho : H o = some (.lst ys)) (h : SqT K H a xs) : SqT K H' a xs := by
  rcases h with (h | ⟨z, h⟩) | h
  · exact .inl (.inl (e _ _ (ne_of h ho (fun r => nomatch r)) h))
  · exact .inl (.inr ⟨z, e _ _ (ne_of h ho (fun r => nomatch r)) h⟩)
  · exact .inr h
mutual
theorem dp_but (e : But o H H') (ho : H o = some (.lst ys)) : ∀ {d : PyData} {v : V}, tupsOnly d = true → Dp K H v d → Dp K H' v d
  | _, _, _, .non => .non
  | _, _, _, .bl b => .bl b
  | _, _, _, .int i => .int i
  | _, _, _, .str x => .str x
  | _, _, f, .lst h a => nomatch (show false = true from f)
  | _, _, f, .tup h a => .tup (but_tup e ho h) (dps_but e ho f a)
theorem dps_but (e : But o H H') (ho : H o = some (.lst ys)) : ∀ {ds : List PyData} {vs : List V}, tupsAll ds = true → DpAll K H vs ds → DpAll K H' vs ds
  | _, _, _, .nil => .nil
  | d :: ds, _, f, .cons h t => .cons (dp_but e ho (Bool.and_eq_true_iff.mp (show (tupsOnly d && tupsAll ds) = true from f)).1 h) (dps_but e ho (Bool.and_eq_true_iff.mp (show (tupsOnly d && tupsAll ds) = true from f)).2 t)
end
theorem dps_snoc : ∀ {ds : List PyData} {vs : List V} {d : PyData}, DpAll K H vs (ds ++ [d]) → ∃ ws v, vs = ws ++ [v] ∧ DpAll K H ws ds ∧ Dp K H v d
  | [], _, d, h => by
    cases h with
    | cons h t =>
      cases t
      exact ⟨[], _, rfl, .nil, h⟩
  | c :: ds, _, d, h => by
    cases h with
    | cons h t =>
      obtain ⟨ws, v, rfl, a, b⟩ := dps_snoc t
      exact ⟨_ :: ws, v, rfl, .cons h a, b⟩
end
theorem tups_map {α : Type} (f : α → PyData) (hf : ∀ a, tupsOnly (f a) = true) : ∀ l : List α, tupsAll (l.map f) = true
  | [] => rfl
  | a :: l => by
    show (tupsOnly (f a) && tupsAll (l.map f)) = true
    rw [hf, tups_map f hf l]
    rfl
theorem tups_r (l : List (P × P)) : tupsAll (l.map rdat) = true := tups_map rdat (fun _ => rfl) l
theorem tups_s (l : List (P × Nat)) : tupsAll (l.map sdat) = true := tups_map sdat (fun _ => rfl) l
theorem shaped_p (p : P) : SeqAt.shaped (pdat p) = true := rfl
theorem lay_map (l : List (P × P)) : PyData.canLayAll0 (l.map rdat) = true := by
  induction l with
  | nil => rfl
  | cons a l ih =>
    show ((rdat a).canLay0 && PyData.canLayAll0 (l.map rdat)) = true
    rw [ih]
    rfl
theorem depth_map (l : List (P × P)) : PyData.depthAll (l.map rdat) ≤ 3 := by
  induction l with
  | nil => simp [PyData.depthAll]
  | cons a l ih =>
    have e : (rdat a).depth ≤ 3 := by simp [rdat, pdat, PyData.depth, PyData.depthAll]
    simp only [List.map_cons, PyData.depthAll]
    omega
theorem shaped_l (l : List (P × P)) : SeqAt.shaped (.list (l.map rdat)) = true := by
  unfold SeqAt.shaped
  have h := depth_map l
  have e : (PyData.list (l.map rdat)).canLay0 = true := lay_map l
  rw [e]
  rw [Bool.true_and]
  refine decide_eq_true ?_
  simp only [PyData.depth]
  omega
theorem eqv_p (p q : P) : PyData.eqv (pdat p) (pdat q) = decide (p = q) := by
  obtain ⟨a, b⟩ := p
  obtain ⟨c, d⟩ := q
  show (((a : Int) == (c : Int)) && (((b : Int) == (d : Int)) && true)) = _
  rw [Bool.eq_iff_iff]
  simp
  omega
theorem eqv_nil (l : List (P × P)) : PyData.eqv (.list (l.map rdat)) (.list []) = decide (l = []) := by
  cases l with
  | nil => rfl
  | cons a l => rfl
theorem strs_fits {t : T} (h : t.ht ≤ 40) {a : P × Nat} (ha : a ∈ t.strs 0 0) : a.1.2 ≤ a.2 ∧ a.2 ≤ 40 ∧ a.1.1 < 2 ^ 40 := by
  rw [strs_raw] at ha
  obtain ⟨b, hb, rfl⟩ := List.mem_map.mp ha
  obtain ⟨h1, h2⟩ := raw_fits t 0 0 40 (by omega) (by decide) b hb
  refine ⟨(pt_back b.2 b.1).1, h1, Nat.lt_of_le_of_lt (pt_le _ _) (Nat.lt_of_lt_of_le h2 (Nat.pow_le_pow_right (by decide) h1))⟩
theorem shl_val {p1 p2 d : Nat} (h : p2 ≤ d) : V.int ((p1 : Int) * 2 ^ ((d : Int) - (p2 : Int)).toNat + 1) = nv (p1 * 2 ^ (d - p2) + 1) := by
  have e : ((d : Int) - (p2 : Int)).toNat = d - p2 := by omega
  rw [e]
  refine congrArg V.int ?_
  rw [Int.natCast_add, Int.natCast_mul, PySem.W.kbt_cast]
  rfl
theorem shl_ok40 {p1 p2 d : Nat} (h : p2 ≤ d) (hd : d ≤ 40) (h1 : p1 < 2 ^ 40) : CPow (p1 : Int) ((d : Int) - (p2 : Int)) := by
  have e : (2 : Nat) ^ 40 < 2 ^ 64 := by decide
  exact ⟨by omega, by omega, by omega⟩
theorem ix_last {n : Nat} (h : 0 < n) : ixN n (-1) = some (n - 1) := by
  unfold ixN
  rw [if_neg (by decide)]
  split
  · congr 1
    omega
  · omega
theorem set_last (ws : List V) (v z : V) : (ws ++ [v]).set ((ws ++ [v]).length - 1) z = ws ++ [z] := by
  rw [List.length_append, List.length_singleton, Nat.add_sub_cancel, List.set_append_right _ _ (Nat.le_refl _), Nat.sub_self]
  rfl
theorem rst_drop {S R : List (P × Nat)} {i : Nat} {a b : P × Nat} (f : List (P × P)) (ha : S[i]? = some a) (hb : R[i]? = some b) : rst f (S.drop i) (R.drop i) = rst (rstep f a b) (S.drop (i + 1)) (R.drop (i + 1)) := by
  obtain ⟨h1, e1⟩ := List.getElem?_eq_some_iff.mp ha
  obtain ⟨h2, e2⟩ := List.getElem?_eq_some_iff.mp hb
  rw [List.drop_eq_getElem_cons h1, List.drop_eq_getElem_cons h2, e1, e2]
  rfl
theorem mapped_at {ds : List (P × Nat)} {i : Nat} {d : PyData} (h : (ds.map sdat)[i]? = some d) : ∃ a, ds[i]? = some a ∧ d = sdat a := by
  rw [List.getElem?_map] at h
  cases e : ds[i]? with
  | none =>
    rw [e] at h
    cases h
  | some a =>
    rw [e] at h
    exact ⟨a, rfl, (Option.some.inj h).symm⟩
end Hw
namespace Hw
open PySem PySem.Spec PyProof.Rows L2
section
variable {PR : Program} {w : World} {K : PySem.W.Frag} {mg : Str → Option Value} {base : Heap}
def spRests (K : PySem.W.Frag) : Sp := fun vs H Q _ => ∃ (v : V) (t u : T), vs = [v] ∧ Dp K H v (.tuple [t.data, u.data]) ∧ t.ht ≤ 40 ∧ u.ht ≤ 40 ∧ t.leaves = u.leaves ∧ t.leaves ≤ 1000 ∧
  ∀ p xs H', Same H H' → H p = none → H' p = some (.lst xs) → DpAll K H' xs ((rst [] (t.strs 0 0) (u.strs 0 0)).reverse.map rdat) → Q (.ref p) H'
theorem ok_rests {f g gp : Addr} {fd gd pd : FuncData} (F : Fun K "rests" "rests" sRests f fd) (GB : FnOk PR w K mg base CX0 43 g gd ["tree"] (spBeg K)) (bB : Binds K gd ["tree"] [])
    (kB : PySem.W.keepIn K (.ref g) = true) (mB : mg "begins" = some (.ref g)) (GP : FnOk PR w K mg base CX0 1 gp pd ["n", "d"] (spPoint K)) (bP : Binds K pd ["n", "d"] [])
    (kP : PySem.W.keepIn K (.ref gp) = true) (mP : mg "point" = some (.ref gp)) (mz : mg "zip" = none) : FnOk PR w K mg base CX0 44 f fd ["mapped"] (spRests K) := by
  refine F.ok scRests (fun vs H Q E h => ?_) (fun cdv A outer s H vs Q E hr h => ?_)
  · obtain ⟨v, t, u, rfl, _⟩ := h
    rfl
  obtain ⟨v, t, u, rfl, hv, ht, hu, hlv, hl, q⟩ := h
  have nd := scRests.nd
  refine ⟨_, pss_cons (ps_set (i := 1) nd rfl (.inl rfl) (pe_lst pa_nil))
    (pss_cons (ps_for PassesOwn.never rfl (pi_zip (by rfl) mz
          (pa_cons (pe_call GB hr (by rfl) mB kB bB .nil pass0 (pa_cons (pe_ix ix_tup (pv 0) pe_int (fun _ _ => rfl)) pa_nil))
          (pa_cons (pe_call GB hr (by rfl) mB kB bB .nil pass0 (pa_cons (pe_ix ix_tup (pv 0) pe_int (fun _ _ => rfl)) pa_nil)) pa_nil)))
        (pg_tup rfl (pgs_cons (pg_tup rfl (pgs_cons (pg_name (i := 2) nd rfl (.inl rfl)) (pgs_cons (pg_name (i := 3) nd rfl (.inl rfl)) pgs_nil)))
          (pgs_cons (pg_tup rfl (pgs_cons (pg_name (i := 4) nd rfl (.inl rfl)) (pgs_cons (pg_name (i := 5) nd rfl (.inl rfl)) pgs_nil))) pgs_nil)))
      (pss_one (ps_if (PW.pt (pw_and (pt_cmpR (op_eqD hr.units) (pv 2) (pv 4) (nomark _)) (pw_and1 (pt_cmpR op_eq (pv 3) (pv 5) (nomark _)))))
        (pss_cons (ps_set (i := 6) nd rfl (.inl rfl) (pe_call GP (hr.mono (by decide)) (by rfl) mP kP bP .nil pass0
            (pa_cons (pe_op op_add (pe_op op_shl (pe_ix ix_tup (pv 2) pe_int (fun _ _ => rfl)) (pe_op op_sub (pv 3) (pe_ix ix_tup (pv 2) pe_int (fun _ _ => rfl)))) pe_int) (pa_cons (pv 3) pa_nil))))
          (pss_one (ps_if (PW.pt (pw_and (pt_cmpR (op_neD hr.units) (pv 1) (pe_lst pa_nil) (nomark _))
              (pw_and1 (pt_cmpR (op_eqD hr.units) (pe_ix ix_tup (pe_ix ix_list (pv 1) (pe_un un_neg pe_int) (fun _ _ => rfl)) pe_int (fun _ _ => rfl)) (pv 2) (nomark _)))))
            (pss_one (ps_asg (pe_tup (pa_cons (pe_ix ix_tup (pe_ix ix_list (pv 1) (pe_un un_neg pe_int) (fun _ _ => rfl)) pe_int (fun _ _ => rfl)) (pa_cons (pv 6) pa_nil))) (pg_sub (pv 1) (pe_un un_neg pe_int) set_list)))
            (pss_one (ps_expr (pe_bm PySem.F.plainAttrs_list PySem.F.slot_list_append PySem.F.type_list_append mt_append (pv 1) (pa_cons (pe_tup (pa_cons (pv 2) (pa_cons (pv 6) pa_nil))) pa_nil)))))))
        pss_nil)))
    (pss_one (ps_ret (pv 1)))), ?_⟩
  -- found = []
  refine ⟨Nat.zero_le _, fun o no => ?_⟩
  have s1 : Same H (upd H o (.lst [])) := same_new no
  obtain ⟨am, v1, v2, ev, qm, dt, du⟩ := dp_two hv
  -- begins(mapped[0]), begins(mapped[1])
  refine ⟨v, rfl, am, [v1, v2], 0, v1, ev, rfl, same_tup s1 qm, atI_nat (j := 0) rfl, v1, t, rfl, dp_mono s1 dt, ht, hl, fun a xs1 H1 t1 na oa wa => ?_⟩
  have s2 := s1.trans t1
  refine ⟨v, rfl, am, [v1, v2], 1, v2, ev, rfl, same_tup s2 qm, atI_nat (j := 1) rfl, v2, u, rfl, dp_mono s2 du, hu, by omega, fun b xs2 HB t2 nb ob wb => ?_⟩
  have l1 := dps_len wa
  have l2 := dps_len wb
  rw [List.length_map, strs_len] at l1 l2
  have oa2 := t2 _ _ oa
  have wa2 := dps_mono t2 wa
  have oo : HB o = some (.lst []) := t2 _ _ (t1 _ _ upd_same)
  have nao : a ≠ o := fun e => by
    rw [e, upd_same] at na
    cases na
  have nbo : b ≠ o := fun e => by
    rw [e, t1 _ _ upd_same] at nb
    cases nb
  refine ⟨a, b, xs1, xs2, rfl, lst_of oa2, lst_of ob, ?_⟩
  refine RZ.for_zipL (xs := xs1) (ys := xs2) (by omega) (fun i σ H1 => ∃ (y2 y3 y4 y5 y6 : Option V) (vs : List V) (f : List (P × P)), σ = [some v, some (.ref o), y2, y3, y4, y5, y6] ∧ But o HB H1 ∧ H1 o = some (.lst vs) ∧
      DpAll K H1 vs (f.reverse.map rdat) ∧ f.length ≤ i ∧ i ≤ 1000 ∧ rst f ((t.strs 0 0).drop i) ((u.strs 0 0).drop i) = rst [] (t.strs 0 0) (u.strs 0 0))
    ⟨none, none, none, none, none, [], [], rfl, But.refl, oo, .nil, Nat.le_refl _, by decide, rfl⟩ ?_ ?_ ?_
  · rintro i σ H1 ⟨_, _, _, _, _, vs, f, _, bt, _⟩
    exact ⟨lst_of (bt _ _ nao oa2), lst_of (bt _ _ nbo ob)⟩
  · rintro i x y T σ H1 hx hy ⟨y2, y3, y4, y5, y6, vs, f, rfl, bt, ho, hw, hfl, hi, hr1⟩ nT
    have hi2 : i < 1000 := by
      have := (List.getElem?_eq_some_iff.mp hx).1
      omega
    obtain ⟨dx, hdx, dpx⟩ := dps_back (dps_but bt oo (tups_s _) wa2) hx
    obtain ⟨dy, hdy, dpy⟩ := dps_back (dps_but bt oo (tups_s _) wb) hy
    obtain ⟨⟨p, d⟩, hp, rfl⟩ := mapped_at hdx
    obtain ⟨⟨p', d'⟩, hp', rfl⟩ := mapped_at hdy
    obtain ⟨f1, f2, f3⟩ := strs_fits ht (List.mem_of_getElem? hp)
    rw [rst_drop f hp hp'] at hr1
    have sT : Same H1 (upd H1 T (.tup [x, y])) := same_new nT
    obtain ⟨ax, vp, vd, ex, qx, dvp, dvd⟩ := dp_two (dp_mono sT dpx)
    obtain ⟨ay, vq, ve, ey, qy, dvq, dve⟩ := dp_two (dp_mono sT dpy)
    have evd := dp_int dvd
    have eve := dp_int dve
    subst evd eve
    have bT : But o HB (upd H1 T (.tup [x, y])) := bt.trans (same_but sT)
    have hoT := sT _ _ ho
    have hwT := dps_mono sT hw
    -- (p, d), (q, e) = the pair
    refine ⟨T, [x, y], rfl, tup_of upd_same, rfl, x, [y], rfl, ax, [vp, nv d], ex, qx, rfl, vp, [nv d], rfl, nv d, [], rfl, rfl, y, [], rfl, ay, [vq, nv d'], ey, qy, rfl, vq, [nv d'], rfl, nv d', [], rfl, rfl, rfl, ?_⟩
    -- if p == q and d == e
    refine ⟨vp, rfl, vq, rfl, pdat p, pdat p', dvp, dvq, shaped_p p, shaped_p p', _, rfl, ?_⟩
    rw [eqv_p]
    by_cases c1 : p = p'
    · rw [decide_eq_true c1]
      refine iteT ⟨nv d, rfl, nv d', rfl, rfl, _, rfl, ?_⟩
      by_cases c2 : d = d'
      · rw [show decide (nv d = nv d') = true from decide_eq_true (by rw [c2])]
        have est : rstep f (p, d) (p', d') = rput f p (nxt p d) := if_pos ⟨c1, c2⟩
        rw [est] at hr1
        -- end = point(..)
        obtain ⟨ap, w1, w2, ep, qp, dw1, dw2⟩ := dp_two dvp
        have ew1 := dp_int dw1
        have ew2 := dp_int dw2
        subst ew1 ew2
        refine iteT ⟨vp, rfl, ap, [nv p.1, nv p.2], 0, nv p.1, ep, rfl, qp, atI_nat (j := 0) rfl, nv d, rfl, vp, rfl, ap, [nv p.1, nv p.2], 1, nv p.2, ep, rfl, qp, atI_nat (j := 1) rfl, d, p.2, rfl, rfl, p.1, _, rfl, rfl, shl_ok40 f1 f2 f3, _, 1, rfl, rfl, nv d, rfl,
          p.1 * 2 ^ (d - p.2) + 1, d, ?_, fun z nz => ?_⟩
        · show [V.int ((p.1 : Int) * 2 ^ ((d : Int) - (p.2 : Int)).toNat + 1), nv d] = _
          rw [shl_val f1]
        have sz := same_new (o := .tup [nv (pt (p.1 * 2 ^ (d - p.2) + 1) d).1, nv (pt (p.1 * 2 ^ (d - p.2) + 1) d).2]) nz
        have dz : Dp K (upd (upd H1 T (.tup [x, y])) z (.tup [nv (pt (p.1 * 2 ^ (d - p.2) + 1) d).1, nv (pt (p.1 * 2 ^ (d - p.2) + 1) d).2])) (.ref z) (pdat (nxt p d)) := dp_mk2 (tup_of upd_same) (.int _) (.int _)
        generalize upd (upd H1 T (.tup [x, y])) z (.tup [nv (pt (p.1 * 2 ^ (d - p.2) + 1) d).1, nv (pt (p.1 * 2 ^ (d - p.2) + 1) d).2]) = H2 at sz dz ⊢
        have b2 : But o HB H2 := bT.trans (same_but sz)
        have ho2 := sz _ _ hoT
        have hw2 := dps_mono sz hwT
        have dvp2 := dp_mono sz dvp
        -- if found != []
        refine ⟨.ref o, rfl, Nat.zero_le _, fun e ne => ?_⟩
        have se := same_new (o := .lst []) ne
        refine ⟨.list (f.reverse.map rdat), .list [], .lst (lst_of (se _ _ ho2)) (dps_mono se hw2), .lst (lst_of upd_same) .nil, shaped_l _, rfl, _, rfl, ?_⟩
        rw [eqv_nil]
        generalize upd H2 e (.lst []) = H3 at se ⊢
        have b3 : But o HB H3 := b2.trans (same_but se)
        have ho3 := se _ _ ho2
        have hw3 := dps_mono se hw2
        have dz3 := dp_mono se dz
        have dvp3 := dp_mono se dvp2
        -- found.append((p, end))
        have app : rput f p (nxt p d) = (p, nxt p d) :: f → _ := fun ef => (show tDrop (tBM K "list" rAppend (tVar 1) (tCons (tTup (tCons (tVar 2) (tCons (tVar 6) tNil))) tNil))
            { nx := fun σ H1 => ∃ (y2 y3 y4 y5 y6 : Option V) (vs : List V) (f : List (P × P)), σ = [some v, some (.ref o), y2, y3, y4, y5, y6] ∧ But o HB H1 ∧ H1 o = some (.lst vs) ∧
              DpAll K H1 vs (f.reverse.map rdat) ∧ f.length ≤ i + 1 ∧ i + 1 ≤ 1000 ∧ rst f ((t.strs 0 0).drop (i + 1)) ((u.strs 0 0).drop (i + 1)) = rst [] (t.strs 0 0) (u.strs 0 0), rt := Q } [some v, some (.ref o), some vp, some (nv d), some vq, some (nv d'), some (.ref z)] H3 from by
          refine ⟨.ref o, rfl, .inl ⟨rfl, _, lst_of ho3⟩, vp, rfl, .ref z, rfl, (by show 2 ≤ sizeLine; decide), fun g ng => ?_⟩
          have sg := same_new (o := .tup [vp, .ref z]) ng
          have ln := dps_len hw3
          rw [List.length_map, List.length_reverse] at ln
          refine ⟨o, vs, .ref g, rfl, rfl, sg _ _ ho3, sl_lt (by omega), _, _, _, _, _, vs ++ [.ref g], (p, nxt p d) :: f, rfl, (b3.trans (same_but sg)).upd, upd_same, ?_, by simp only [List.length_cons]; omega, by omega, ?_⟩
          · rw [List.reverse_cons, List.map_append]
            have bg : But o (upd H3 g (.tup [vp, .ref z])) (upd (upd H3 g (.tup [vp, .ref z])) o (.lst (vs ++ [.ref g]))) := But.refl.upd
            refine dps_app (dps_but bg (sg _ _ ho3) (tups_r _) (dps_mono sg hw3)) (.cons (dp_but bg (sg _ _ ho3) rfl ?_) .nil)
            exact dp_mk2 (tup_of upd_same) (dp_mono sg dvp3) (dp_mono sg dz3)
          · rw [← ef]
            exact hr1)
        cases f with
        | nil =>
          exact iteF (iteF (app rfl))
        | cons l f =>
          rw [show decide ((l :: f).reverse = []) = false from decide_eq_false (by simp)]
          have hws := hw3
          rw [List.reverse_cons, List.map_append] at hws
          obtain ⟨ws, vl, rfl, aw, dl⟩ := dps_snoc hws
          obtain ⟨al, va, vb, el, ql, dva, dvb⟩ := dp_two dl
          refine iteT ⟨.ref o, rfl, 1, rfl, o, _, -1, vl, rfl, rfl, lst_of ho3, atI_last _ _, al, [va, vb], 1, vb, el, rfl, ql, atI_nat (j := 1) rfl, vp, rfl, pdat l.2, pdat p, dvb, dvp3, shaped_p _, shaped_p _, _, rfl, ?_⟩
          rw [eqv_p]
          by_cases c3 : l.2 = p
          · rw [decide_eq_true c3]
            have ef : rput (l :: f) p (nxt p d) = (l.1, nxt p d) :: f := if_pos c3
            rw [ef] at hr1
            refine iteT ⟨.ref o, rfl, 1, rfl, o, _, -1, vl, rfl, rfl, lst_of ho3, atI_last _ _, al, [va, vb], 0, va, el, rfl, ql, atI_nat (j := 0) rfl, .ref z, rfl, (by show 2 ≤ sizeLine; decide), fun g ng => ?_⟩
            have sg := same_new (o := .tup [va, .ref z]) ng
            refine ⟨.ref o, rfl, 1, rfl, o, _, -1, _, rfl, rfl, sg _ _ ho3, ix_last (by simp), ?_⟩
            rw [set_last]
            refine ⟨_, _, _, _, _, ws ++ [.ref g], (l.1, nxt p d) :: f, rfl, (b3.trans (same_but sg)).upd, upd_same, ?_, by simp only [List.length_cons] at hfl ⊢; omega, by omega, hr1⟩
            rw [List.reverse_cons, List.map_append]
            have bg : But o (upd H3 g (.tup [va, .ref z])) (upd (upd H3 g (.tup [va, .ref z])) o (.lst (ws ++ [.ref g]))) := But.refl.upd
            refine dps_app (dps_but bg (sg _ _ ho3) (tups_r _) (dps_mono sg aw)) (.cons (dp_but bg (sg _ _ ho3) rfl ?_) .nil)
            exact dp_mk2 (tup_of upd_same) (dp_mono sg dva) (dp_mono sg dz3)
          · rw [decide_eq_false c3]
            exact iteF (app (if_neg c3))
      · rw [show decide (nv d = nv d') = false from decide_eq_false (fun e => c2 (by have := V.int.inj e; omega))]
        have est : rstep f (p, d) (p', d') = f := if_neg fun e => c2 e.2
        rw [est] at hr1
        exact iteF ⟨_, _, _, _, _, vs, f, rfl, bT, hoT, hwT, by omega, by omega, hr1⟩
    · rw [decide_eq_false c1]
      have est : rstep f (p, d) (p', d') = f := if_neg fun e => c1 e.1
      rw [est] at hr1
      exact iteF (iteF ⟨_, _, _, _, _, vs, f, rfl, bT, hoT, hwT, by omega, by omega, hr1⟩)
  · rintro σ H1 ⟨y2, y3, y4, y5, y6, vs, f, rfl, bt, ho, hw, hfl, hi, hr1⟩
    have e1 : (t.strs 0 0).drop xs1.length = [] := List.drop_eq_nil_of_le (by rw [strs_len]; omega)
    rw [e1] at hr1
    have ef : f = rst [] (t.strs 0 0) (u.strs 0 0) := hr1
    refine ⟨.ref o, rfl, q o vs H1 (But.same (s2.trans t2) ?_ bt) no ho ?_⟩
    · exact no
    · rw [← ef]
      exact hw
end
end Hw
/-! the law's draws -/
namespace Hw
open PySem PySem.Spec PyProof.Rows L2
open Evl (pss_cut)
theorem snoc_nv {ds : List Nat} {x : Nat} {v : V} (e : v = nv x) : some (HO.lst (ds.map nv ++ [v])) = some (HO.lst ((ds ++ [x]).map nv)) := by
  rw [e, List.map_append]
  rfl
section
variable {PR : Program} {w : World} {K : PySem.W.Frag} {mg : Str → Option Value} {base : Heap}
/-! ### _law_mixed -/
def spMixed (K : PySem.W.Frag) : Sp := fun vs H Q _ => ∃ (a : Addr) (ns : List Int) (at_ k : Nat), vs = [.ref a, nv at_, nv k] ∧ SqL K H a (ns.map V.int) ∧ k ≤ 1000 ∧ ∀ r : Nat, Q (nv r) H
theorem ok_mixed {f : Addr} {fd : FuncData} {lv : Nat} (F : Fun K "_law_mixed" "_law_mixed" sMixed f fd) (ml : mg "len" = none) : FnOk PR w K mg base CX0 (lv + 1) f fd ["_law_script", "_law_at", "_law_k"] (spMixed K) := by
  refine F.ok scMixed (fun vs H Q E h => ?_) (fun cdv A outer s H vs Q E hr h => ?_)
  · obtain ⟨a, ns, at_, k, rfl, _⟩ := h
    rfl
  obtain ⟨a, ns, at_, k, rfl, hS, hk, q⟩ := h
  have nd := scMixed.nd
  refine ⟨_, pss_cons (ps_set (i := 3) nd rfl (.inl rfl) (pe_op op_add (pe_op op_add (pe_op op_mul pe_int (pv 2)) (pe_op op_mul pe_int (pv 1))) pe_int))
    (pss_cut (ps_if (pt_cmpR op_gt (pe_callB call_len_seq (by rfl) ml PySem.boot_len (pa_cons (pv 0) pa_nil)) pe_int (nomark _))
        (pss_one (ps_set (i := 3) nd rfl (.inl rfl) (pe_op op_add (pv 3) (pe_op op_mul (pe_ix ix_list (pv 0) (pe_op op_mod (pe_op op_add (pv 1) (pv 2)) (pe_callB call_len_seq (by rfl) ml PySem.boot_len (pa_cons (pv 0) pa_nil))) (fun _ _ => rfl)) pe_int)))) pss_nil)
    (pss_cons (ps_set (i := 3) nd rfl (.inl rfl) (pe_op op_mod (pv 3) pe_int))
    (pss_cons (ps_set (i := 3) nd rfl (.inl rfl) (pe_op op_add (pe_op op_mul (pe_op op_mod (pe_op op_mul (pv 3) (pv 3)) pe_int) pe_int) (pe_op op_mul pe_int (pv 2))))
    (pss_one (ps_ret (pe_op op_fdiv (pe_op op_mod (pe_op op_mul (pv 3) (pv 3)) pe_int) pe_int)))))), ?_⟩
  refine ⟨nv k, rfl, 7919, k, rfl, rfl, .inl ⟨by decide, by decide⟩, nv at_, rfl, 104729, at_, rfl, rfl, .inl ⟨by decide, by decide⟩, _, _, rfl, rfl, _, 5, rfl, rfl,
    fun σ' H' => ∃ x : Int, σ' = [some (.ref a), some (nv at_), some (nv k), some (.int x)] ∧ H' = H, ?_, ?_⟩
  · refine ⟨.ref a, rfl, a, _, rfl, .inl hS, _, 0, rfl, rfl, _, rfl, ite2 (fun c => ?_) (fun c => ⟨_, rfl, rfl⟩)⟩
    have c' : (0 : Int) < ((ns.map V.int).length : Nat) := of_decide_eq_true c
    have p1 := Int.emod_nonneg ((at_ : Int) + (k : Int)) (show (((ns.map V.int).length : Nat) : Int) ≠ 0 by omega)
    have p2 := Int.emod_lt_of_pos ((at_ : Int) + (k : Int)) c'
    rw [List.length_map] at c' p1 p2
    have lt : (((at_ : Int) + (k : Int)) % ((ns.length : Nat) : Int)).toNat < ns.length := by omega
    have g : (ns.map V.int)[(((at_ : Int) + (k : Int)) % ((ns.length : Nat) : Int)).toNat]? = some (.int (ns[(((at_ : Int) + (k : Int)) % ((ns.length : Nat) : Int)).toNat])) := by
      rw [List.getElem?_map, List.getElem?_eq_getElem lt]
      rfl
    refine ⟨_, rfl, .ref a, rfl, nv at_, rfl, nv k, rfl, at_, k, rfl, rfl, .ref a, rfl, a, _, rfl, .inl hS, _, _, rfl, rfl, ?_, a, _, _, _, rfl, rfl, hS, at_j ?_ g, _, 48271, rfl, rfl, .inr ⟨by decide, by decide⟩, _, _, rfl, rfl, _, rfl, rfl⟩
    · rw [List.length_map]
      exact c'
    · rw [List.length_map]
      omega
  · rintro σ' H' ⟨x, rfl, rfl⟩
    have y0 := Int.emod_nonneg x (show (2147483647 : Int) ≠ 0 by decide)
    have y1 := Int.emod_lt_of_pos x (show (0 : Int) < 2147483647 by decide)
    obtain ⟨y, ey⟩ : ∃ y, x % 2147483647 = y := ⟨_, rfl⟩
    rw [ey] at y0 y1
    refine ⟨_, rfl, x, 2147483647, rfl, rfl, (show (0 : Int) < 2147483647 by decide), ?_⟩
    have z0 := Int.emod_nonneg (y * y) (show (2147483629 : Int) ≠ 0 by decide)
    have z1 := Int.emod_lt_of_pos (y * y) (show (0 : Int) < 2147483629 by decide)
    obtain ⟨z, ez⟩ : ∃ z, y * y % 2147483629 = z := ⟨_, rfl⟩
    rw [ez] at z0 z1
    obtain ⟨n, en⟩ : ∃ n, z * 16807 + 31 * (k : Int) = n := ⟨_, rfl⟩
    have n0 : 0 ≤ n := by omega
    have n1 : n < 2 ^ 64 := by omega
    refine ⟨_, rfl, _, rfl, y, y, congrArg V.int ey, congrArg V.int ey, .inl ⟨by omega, by omega⟩, _, 2147483629, rfl, rfl, (show (0 : Int) < 2147483629 by decide), z, 16807, congrArg V.int ez, rfl, .inl ⟨by omega, by omega⟩, nv k, rfl, 31, k, rfl, rfl, .inl ⟨by decide, by decide⟩, _, _, rfl, rfl, ?_⟩
    have m0 := Int.emod_nonneg (n * n) (show (2147483587 : Int) ≠ 0 by decide)
    obtain ⟨m, em⟩ : ∃ m, n * n % 2147483587 = m := ⟨_, rfl⟩
    rw [em] at m0
    refine ⟨_, rfl, _, rfl, n, n, congrArg V.int en, congrArg V.int en, .inl ⟨by omega, n1⟩, _, 2147483587, rfl, rfl, (show (0 : Int) < 2147483587 by decide), m, 64, congrArg V.int em, rfl, ⟨by decide, by decide⟩, ?_⟩
    have e : V.int (m / 64) = nv (m / 64).toNat := congrArg V.int (by omega)
    show Q (.int (m / 64)) H'
    rw [e]
    exact q _
/-! ### _law_draws -/
def spDraws (K : PySem.W.Frag) : Sp := fun vs H Q _ => ∃ (a : Addr) (ns : List Int) (at_ many : Nat), vs = [.ref a, nv at_, nv many, nv 60] ∧ SqL K H a (ns.map V.int) ∧ many ≤ 1000 ∧
  ∀ p (ds : List Nat) H', Same H H' → H p = none → H' p = some (.lst (ds.map nv)) → ds.length = many → (∀ x, x ∈ ds → x < 60) → Q (.ref p) H'
theorem ok_draws {f g : Addr} {fd gd : FuncData} {lv : Nat} (F : Fun K "_law_draws" "_law_draws" sDraws f fd) (GM : FnOk PR w K mg base CX0 (lv + 1) g gd ["_law_script", "_law_at", "_law_k"] (spMixed K)) (bM : Binds K gd ["_law_script", "_law_at", "_law_k"] [])
    (kM : PySem.W.keepIn K (.ref g) = true) (mM : mg "_law_mixed" = some (.ref g)) (ml : mg "len" = none) (ma : mg "abs" = none) : FnOk PR w K mg base CX0 (lv + 1 + 1) f fd ["_law_script", "_law_at", "_law_many", "_law_m"] (spDraws K) := by
  refine F.ok scDraws (fun vs H Q E h => ?_) (fun cdv A outer s H vs Q E hr h => ?_)
  · obtain ⟨a, ns, at_, many, rfl, _⟩ := h
    rfl
  obtain ⟨a, ns, at_, many, rfl, hS, hm, q⟩ := h
  have nd := scDraws.nd
  refine ⟨_, pss_cons (ps_set (i := 4) nd rfl (.inl rfl) (pe_lst pa_nil))
    (pss_cons (ps_set (i := 5) nd rfl (.inl rfl) pe_int)
    (pss_cut (ps_if (PW.pt (pw_and (pt_cmpR op_lt (pv 1) (pe_callB call_len_seq (by rfl) ml PySem.boot_len (pa_cons (pv 0) pa_nil)) (nomark _))
          (pw_and1 (pt_cmpR op_ge (pe_callB call_abs (by rfl) ma (by decide +kernel) (pa_cons (pe_ix ix_list (pv 0) (pv 1) (fun _ _ => rfl)) pa_nil)) (pe_op op_pow pe_int pe_int) (nomark _)))))
        (pss_one (ps_set (i := 5) nd rfl (.inl rfl) (pe_callB call_abs (by rfl) ma (by decide +kernel) (pa_cons (pe_ix ix_list (pv 0) (pv 1) (fun _ _ => rfl)) pa_nil)))) pss_nil)
    (pss_cut (ps_while PassesOwn.never (PW.pt (pw_and (pt_cmpR op_lt (pe_callB call_len_seq (by rfl) ml PySem.boot_len (pa_cons (pv 4) pa_nil)) (pv 2) (nomark _)) (pw_and1 (pt_cmpR op_gt (pv 5) pe_int (nomark _)))))
        (pss_cons (ps_expr (pe_bm PySem.F.plainAttrs_list PySem.F.slot_list_append PySem.F.type_list_append mt_append (pv 4) (pa_cons (pe_op op_mod (pv 5) (pv 3)) pa_nil)))
          (pss_one (ps_set (i := 5) nd rfl (.inl rfl) (pe_op op_fdiv (pv 5) (pv 3))))))
    (pss_cons (ps_while PassesOwn.never (pt_cmpR op_lt (pe_callB call_len_seq (by rfl) ml PySem.boot_len (pa_cons (pv 4) pa_nil)) (pv 2) (nomark _))
        (pss_one (ps_expr (pe_bm PySem.F.plainAttrs_list PySem.F.slot_list_append PySem.F.type_list_append mt_append (pv 4)
          (pa_cons (pe_op op_mod (pe_call GM hr (by rfl) mM kM bM .nil pass0 (pa_cons (pv 0) (pa_cons (pv 1) (pa_cons (pe_callB call_len_seq (by rfl) ml PySem.boot_len (pa_cons (pv 4) pa_nil)) pa_nil)))) (pv 3)) pa_nil)))))
    (pss_one (ps_ret (pv 4))))))), ?_⟩
  refine ⟨Nat.zero_le _, fun o no => ?_⟩
  have s1 : Same H (upd H o (.lst [])) := same_new no
  have hS1 := s1.seq hS
  refine ⟨fun σ' H' => ∃ r : Int, σ' = [some (.ref a), some (nv at_), some (nv many), some (nv 60), some (.ref o), some (.int r)] ∧ H' = upd H o (.lst []), ?_, ?_⟩
  · refine ⟨nv at_, rfl, .ref a, rfl, a, _, rfl, .inl hS1, _, _, rfl, rfl, _, rfl, ?_⟩
    by_cases c : ((at_ : Int) < ((ns.map V.int).length : Nat))
    · rw [decide_eq_true c]
      rw [List.length_map] at c
      have lt : at_ < ns.length := by omega
      have g0 : (ns.map V.int)[at_]? = some (.int ns[at_]) := by
        rw [List.getElem?_map, List.getElem?_eq_getElem lt]
        rfl
      refine iteT ⟨.ref a, rfl, nv at_, rfl, a, _, _, _, rfl, rfl, hS1, atI_nat g0, _, rfl, _, _, rfl, rfl, ⟨by decide, by decide, by decide⟩, _, _, rfl, rfl, _, rfl, ite2 (fun _ => ?_) (fun _ => ⟨_, rfl, rfl⟩)⟩
      exact ⟨.ref a, rfl, nv at_, rfl, a, _, _, _, rfl, rfl, hS1, atI_nat g0, _, rfl, _, rfl, rfl⟩
    · rw [decide_eq_false c]
      exact iteF (iteF ⟨_, rfl, rfl⟩)
  rintro σ' H' ⟨r0, rfl, rfl⟩
  -- what holds of the list so far
  refine ⟨fun σ' H' => ∃ (r : Int) (ds : List Nat), σ' = [some (.ref a), some (nv at_), some (nv many), some (nv 60), some (.ref o), some (.int r)] ∧ Same H H' ∧ H' o = some (.lst (ds.map nv)) ∧ ds.length ≤ many ∧ ∀ x, x ∈ ds → x < 60, ?_, ?_⟩
  · refine ⟨fun m σ' H' => ∃ (r : Int) (ds : List Nat), σ' = [some (.ref a), some (nv at_), some (nv many), some (nv 60), some (.ref o), some (.int r)] ∧ Same H H' ∧ H' o = some (.lst (ds.map nv)) ∧ ds.length + m = many ∧ ∀ x, x ∈ ds → x < 60,
      ⟨many, r0, [], rfl, s1, upd_same, by simp, fun x hx => nomatch hx⟩, fun m σ' H' hW => ?_⟩
    obtain ⟨r, ds, rfl, sm, ho, hl, hb⟩ := hW
    refine ⟨.ref o, rfl, o, _, rfl, .inl (lst_of ho), nv many, rfl, _, _, rfl, rfl, _, rfl, ?_⟩
    have stop : ∃ (r' : Int) (ds' : List Nat), [some (V.ref a), some (nv at_), some (nv many), some (nv 60), some (.ref o), some (.int r)] = [some (V.ref a), some (nv at_), some (nv many), some (nv 60), some (.ref o), some (.int r')] ∧ Same H H' ∧ H' o = some (.lst (ds'.map nv)) ∧ ds'.length ≤ many ∧ ∀ x, x ∈ ds' → x < 60 :=
      ⟨r, ds, rfl, sm, ho, by omega, hb⟩
    by_cases c : ((((ds.map nv).length : Nat) : Int) < (many : Int))
    · rw [decide_eq_true c]
      rw [nvs_len] at c
      refine iteT ⟨_, rfl, r, 0, rfl, rfl, _, rfl, ?_⟩
      by_cases c2 : (0 : Int) < r
      · rw [decide_eq_true c2]
        have e : V.int (r % ((60 : Nat) : Int)) = nv (r % 60).toNat := congrArg V.int (by omega)
        refine iteT ⟨fun σ' H' => ∃ (r : Int) (ds : List Nat), σ' = [some (.ref a), some (nv at_), some (nv many), some (nv 60), some (.ref o), some (.int r)] ∧ Same H H' ∧ H' o = some (.lst (ds.map nv)) ∧ ds.length + (m - 1) = many ∧ ∀ x, x ∈ ds → x < 60, fun σ' H' hN => ⟨m - 1, by omega, hN⟩, ?_⟩
        refine ⟨.ref o, rfl, .inl ⟨rfl, _, lst_of ho⟩, _, rfl, _, rfl, r, _, rfl, rfl, (show (0 : Int) < ((60 : Nat) : Int) by decide), o, _, _, rfl, rfl, ho, sl_lt (by rw [nvs_len]; omega), _, rfl, _, rfl, r, _, rfl, rfl, ⟨by decide, by decide⟩, _, ds ++ [(r % 60).toNat], rfl, same_mut sm no, ?_, ?_, fun x hx => ?_⟩
        · rw [upd_same]
          exact snoc_nv e
        · rw [List.length_append, List.length_singleton]
          omega
        · rcases List.mem_append.mp hx with hx | hx
          · exact hb x hx
          · have := List.mem_singleton.mp hx
            omega
      · rw [decide_eq_false c2]
        exact iteF stop
    · rw [decide_eq_false c]
      exact iteF (iteF stop)
  · rintro σ' H' ⟨r, ds0, rfl, sm0, ho0, hl0, hb0⟩
    refine ⟨fun m σ' H' => ∃ (ds : List Nat), σ' = [some (.ref a), some (nv at_), some (nv many), some (nv 60), some (.ref o), some (.int r)] ∧ Same H H' ∧ H' o = some (.lst (ds.map nv)) ∧ ds.length + m = many ∧ ∀ x, x ∈ ds → x < 60,
      ⟨many - ds0.length, ds0, rfl, sm0, ho0, by omega, hb0⟩, fun m σ' H' hW => ?_⟩
    obtain ⟨ds, rfl, sm, ho, hl, hb⟩ := hW
    refine ⟨.ref o, rfl, o, _, rfl, .inl (lst_of ho), nv many, rfl, _, _, rfl, rfl, _, rfl, ite2 (fun c => ?_) (fun c => ?_)⟩
    · have c' : (((ds.map nv).length : Nat) : Int) < (many : Int) := of_decide_eq_true c
      rw [nvs_len] at c'
      refine ⟨fun σ' H' => ∃ (ds : List Nat), σ' = [some (.ref a), some (nv at_), some (nv many), some (nv 60), some (.ref o), some (.int r)] ∧ Same H H' ∧ H' o = some (.lst (ds.map nv)) ∧ ds.length + (m - 1) = many ∧ ∀ x, x ∈ ds → x < 60, fun σ' H' hN => ⟨m - 1, by omega, hN⟩, ?_⟩
      refine ⟨.ref o, rfl, .inl ⟨rfl, _, lst_of ho⟩, .ref a, rfl, nv at_, rfl, .ref o, rfl, o, _, rfl, .inl (lst_of ho), a, ns, at_, (ds.map nv).length, rfl, sm.seq hS, by rw [nvs_len]; omega, fun r1 => ?_⟩
      have e : V.int ((r1 : Int) % ((60 : Nat) : Int)) = nv (r1 % 60) := rfl
      refine ⟨_, rfl, _, _, rfl, rfl, (show (0 : Int) < ((60 : Nat) : Int) by decide), o, _, _, rfl, rfl, ho, sl_lt (by rw [nvs_len]; omega), ds ++ [r1 % 60], rfl, same_mut sm no, ?_, ?_, fun x hx => ?_⟩
      · rw [upd_same]
        exact snoc_nv e
      · rw [List.length_append, List.length_singleton]
        omega
      · rcases List.mem_append.mp hx with hx | hx
        · exact hb x hx
        · have := List.mem_singleton.mp hx
          omega
    · have c' : ¬ (((ds.map nv).length : Nat) : Int) < (many : Int) := of_decide_eq_false (Bool.eq_false_iff.mpr c)
      rw [nvs_len] at c'
      exact ⟨.ref o, rfl, q o ds H' sm no ho (by omega) hb⟩
end
end Hw
/-! _law_grown -/
namespace Hw
open PySem PySem.Spec PyProof.Rows L2
open Evl (pss_cut)
theorem cut_to (xs : List V) (k : Nat) : cutV xs none (some (k : Int)) = xs.take k := by
  unfold cutV
  rw [HT.sIx_nat xs.length xs.length k, HT.sIx_none, List.drop_zero, Nat.sub_zero]
  rcases Nat.le_total k xs.length with h | h
  · rw [Nat.min_eq_left h]
  · rw [Nat.min_eq_right h, List.take_of_length_le h, List.take_of_length_le (Nat.le_refl _)]
theorem cut_from (xs : List V) (k : Nat) : cutV xs (some (k : Int)) none = xs.drop k := by
  unfold cutV
  rw [HT.sIx_nat xs.length 0 k, HT.sIx_none]
  rcases Nat.le_total k xs.length with h | h
  · rw [Nat.min_eq_left h]
    exact List.take_of_length_le (by rw [List.length_drop]; exact Nat.le_refl _)
  · rw [Nat.min_eq_right h, Nat.sub_self, List.take_zero, List.drop_eq_nil_of_le h]
theorem cut_mid (xs : List V) {i j : Nat} (hij : i ≤ j) (hj : j ≤ xs.length) : cutV xs (some (i : Int)) (some (j : Int)) = (xs.drop i).take (j - i) := by
  unfold cutV
  rw [HT.sIx_nat xs.length 0 i, HT.sIx_nat xs.length xs.length j, Nat.min_eq_left hj, Nat.min_eq_left (Nat.le_trans hij hj)]
theorem nv_mod (x n : Nat) : V.int ((x : Int) % (n : Int)) = nv (x % n) := rfl
section
variable {PR : Program} {w : World} {K : PySem.W.Frag} {mg : Str → Option Value} {base : Heap}
def spGrown (K : PySem.W.Frag) : Sp := fun vs H Q _ => ∃ (a : Addr) (gs : List Nat) (sh : Nat), vs = [.ref a, nv sh] ∧ SqL K H a (gs.map nv) ∧ gs.length ≤ 59 ∧
  ∀ p (ds : List Nat) H', Same H H' → SqL K H' p (ds.map nv) → Good ds → ds.length = gs.length + 1 → (∀ e, e ∈ ds → e ≤ gs.length) → Q (.ref p) H'
theorem ok_grown {f : Addr} {fd : FuncData} {lv : Nat} (F : Fun K "_law_grown" "_law_grown" sGrown f fd) (ml : mg "len" = none) : FnOk PR w K mg base CX0 (lv + 1) f fd ["_law_digits", "_law_shape"] (spGrown K) := by
  refine F.ok scGrown (fun vs H Q E h => ?_) (fun cdv A outer s H vs Q E hr h => ?_)
  · obtain ⟨a, gs, sh, rfl, _⟩ := h
    rfl
  obtain ⟨a, gs, sh, rfl, hS, hg, q⟩ := h
  have nd := scGrown.nd
  refine ⟨_, pss_cons (ps_set (i := 2) nd rfl (.inl rfl) (pe_lst (pa_cons pe_int pa_nil)))
    (pss_cons (ps_set (i := 3) nd rfl (.inl rfl) pe_int)
    (pss_cons (ps_for PassesOwn.never rfl (pi_list (pv 0)) (pg_name (i := 4) nd rfl (.inl rfl))
      (pss_cons (ps_set (i := 5) nd rfl (.inl rfl) (pe_op op_mod (pv 4) (pe_callB call_len_seq (by rfl) ml PySem.boot_len (pa_cons (pv 2) pa_nil))))
      (pss_cut (ps_if (pt_cmpR op_eq (pv 1) pe_int (nomark _))
          (pss_one (ps_set (i := 5) nd rfl (.inl rfl) (pe_op op_mod (pe_op op_add (pv 3) (pe_op op_mod (pv 4) pe_int)) (pe_callB call_len_seq (by rfl) ml PySem.boot_len (pa_cons (pv 2) pa_nil)))))
          (pss_one (ps_if (pt_cmpR op_eq (pv 1) pe_int (nomark _))
            (pss_one (ps_set (i := 5) nd rfl (.inl rfl) (pe_op op_sub (pe_callB call_len_seq (by rfl) ml PySem.boot_len (pa_cons (pv 2) pa_nil)) pe_int)))
            (pss_one (ps_if (pt_cmpR op_eq (pv 1) pe_int (nomark _)) (pss_one (ps_set (i := 5) nd rfl (.inl rfl) pe_int)) pss_nil)))))
      (pss_cut (ps_while PassesOwn.never (pt_cmpR op_gt (pe_ix ix_list (pv 2) (pv 5) (fun _ _ => rfl)) pe_int (nomark _))
          (pss_one (ps_set (i := 5) nd rfl (.inl rfl) (pe_op op_mod (pe_op op_add (pv 5) pe_int) (pe_callB call_len_seq (by rfl) ml PySem.boot_len (pa_cons (pv 2) pa_nil))))))
      (pss_cons (ps_set (i := 2) nd rfl (.inl rfl) (pe_op op_cat (pe_op op_cat (pe_slice sl_list (pv 2) po_none (po_some (pv 5)))
            (pe_lst (pa_cons (pe_op op_add (pe_ix ix_list (pv 2) (pv 5) (fun _ _ => rfl)) pe_int) (pa_cons (pe_op op_add (pe_ix ix_list (pv 2) (pv 5) (fun _ _ => rfl)) pe_int) pa_nil))))
          (pe_slice sl_list (pv 2) (po_some (pe_op op_add (pv 5) pe_int)) po_none)))
      (pss_one (ps_set (i := 3) nd rfl (.inl rfl) (pv 5))))))))
    (pss_one (ps_ret (pv 2))))), ?_⟩
  refine ⟨(by show 1 ≤ sizeLine; decide), fun p0 np0 => ?_⟩
  have s1 := same_new (o := .lst [.int 0]) np0
  refine ⟨.ref a, rfl, a, rfl, ⟨_, s1.seq hS⟩, for_list (xs := gs.map nv) (fun i σ H1 => ∃ (p : Addr) (ds : List Nat) (lk : Nat) (y4 y5 : Option V), σ = [some (.ref a), some (nv sh), some (.ref p), some (nv lk), y4, y5] ∧ Same H H1 ∧
      SqL K H1 p (ds.map nv) ∧ Good ds ∧ ds.length = i + 1 ∧ ∀ e, e ∈ ds → e ≤ i) ⟨p0, [0], 0, none, none, rfl, s1, lst_of upd_same, good_one, rfl, fun e he => by
        have := List.mem_singleton.mp he
        omega⟩ (fun i σ H1 _ ⟨_, _, _, _, _, _, sm, _⟩ => sm.seq hS) ?_ ?_⟩
  · rintro i v σ H1 hv ⟨p, ds, lk, y4, y5, rfl, sm, hp, gd, hl, hb⟩
    obtain ⟨hi, ev⟩ := List.getElem?_eq_some_iff.mp hv
    rw [List.length_map] at hi
    obtain ⟨x, ex⟩ : ∃ x, v = nv x := ⟨gs[i], by rw [← ev, List.getElem_map]⟩
    subst ex
    have n0 : 0 < ds.length := gd.pos
    have il : (0 : Int) < (((ds.map nv).length : Nat) : Int) := by
      rw [nvs_len]
      omega
    -- k = d % len(depths)
    refine ⟨nv x, rfl, .ref p, rfl, p, _, rfl, .inl hp, x, _, rfl, rfl, il, ?_⟩
    refine ⟨fun σ' H' => ∃ k : Nat, σ' = [some (.ref a), some (nv sh), some (.ref p), some (nv lk), some (nv x), some (nv k)] ∧ H' = H1 ∧ k < ds.length, ?_, ?_⟩
    · refine ⟨nv sh, rfl, rfl, _, rfl, ite2 (fun _ => ?_) (fun _ => ?_)⟩
      · refine ⟨nv lk, rfl, nv x, rfl, x, 2, rfl, rfl, (show (0 : Int) < 2 by decide), lk, _, rfl, rfl, .ref p, rfl, p, _, rfl, .inl hp, _, _, rfl, rfl, il, (lk + x % 2) % ds.length, ?_, rfl, Nat.mod_lt _ n0⟩
        show [some (V.ref a), some (nv sh), some (.ref p), some (nv lk), some (nv x), some (V.int (((lk : Int) + (x : Int) % 2) % (((ds.map nv).length : Nat) : Int)))] = _
        rw [nvs_len]
        rfl
      · refine ⟨nv sh, rfl, rfl, _, rfl, ite2 (fun _ => ?_) (fun _ => ?_)⟩
        · refine ⟨.ref p, rfl, p, _, rfl, .inl hp, _, 1, rfl, rfl, ds.length - 1, ?_, rfl, by omega⟩
          show [some (V.ref a), some (nv sh), some (.ref p), some (nv lk), some (nv x), some (V.int ((((ds.map nv).length : Nat) : Int) - 1))] = _
          rw [nvs_len]
          have e : ((ds.length : Nat) : Int) - 1 = ((ds.length - 1 : Nat) : Int) := by omega
          rw [e]
        · refine ⟨nv sh, rfl, rfl, _, rfl, ite2 (fun _ => ⟨0, rfl, rfl, n0⟩) (fun _ => ⟨x % ds.length, ?_, rfl, Nat.mod_lt _ n0⟩)⟩
          show [some (V.ref a), some (nv sh), some (.ref p), some (nv lk), some (nv x), some (V.int ((x : Int) % (((ds.map nv).length : Nat) : Int)))] = _
          rw [nvs_len]
          rfl
    rintro σ' H' ⟨k0, rfl, rfl, hk0⟩
    -- while depths[k] > 39
    refine ⟨fun σ' H2 => ∃ k z : Nat, σ' = [some (.ref a), some (nv sh), some (.ref p), some (nv lk), some (nv x), some (nv k)] ∧ H2 = H' ∧ ds[k]? = some z ∧ z ≤ 39, ?_, ?_⟩
    · obtain ⟨j, zj, hj, hz⟩ := gd.shallow
      have jl : j < ds.length := (List.getElem?_eq_some_iff.mp hj).1
      refine ⟨fun m σ' H2 => ∃ k : Nat, σ' = [some (.ref a), some (nv sh), some (.ref p), some (nv lk), some (nv x), some (nv k)] ∧ H2 = H' ∧ k < ds.length ∧ m = far ds.length j k, ⟨_, k0, rfl, rfl, hk0, rfl⟩, fun m σ' H2 hW => ?_⟩
      obtain ⟨k, rfl, rfl, hk, rfl⟩ := hW
      have gk : ds[k]? = some ds[k] := List.getElem?_eq_getElem hk
      refine ⟨.ref p, rfl, nv k, rfl, p, _, _, _, rfl, rfl, hp, atI_nat (nvs_at gk), _, 39, rfl, rfl, _, rfl, ite2 (fun c => ?_) (fun c => ?_)⟩
      · have c' : (39 : Int) < (ds[k] : Int) := of_decide_eq_true c
        have ne : k ≠ j := fun e => by
          subst e
          rw [gk] at hj
          have := Option.some.inj hj
          omega
        refine ⟨fun σ' H3 => ∃ k' : Nat, σ' = [some (.ref a), some (nv sh), some (.ref p), some (nv lk), some (nv x), some (nv k')] ∧ H3 = H2 ∧ k' < ds.length ∧ far ds.length j k' < far ds.length j k, fun σ' H3 ⟨k', e1, e2, e3, e4⟩ => ⟨_, e4, k', e1, e2, e3, rfl⟩, ?_⟩
        refine ⟨nv k, rfl, k, 1, rfl, rfl, .ref p, rfl, p, _, rfl, .inl hp, _, _, rfl, rfl, il, (k + 1) % ds.length, ?_, rfl, Nat.mod_lt _ n0, far_less jl hk ne⟩
        show [some (V.ref a), some (nv sh), some (.ref p), some (nv lk), some (nv x), some (V.int (((k : Int) + 1) % (((ds.map nv).length : Nat) : Int)))] = _
        rw [nvs_len]
        rfl
      · have c' : ¬ (39 : Int) < (ds[k] : Int) := of_decide_eq_false (Bool.eq_false_iff.mpr c)
        exact ⟨k, ds[k], rfl, rfl, gk, by omega⟩
    rintro σ' H2 ⟨k, z, rfl, rfl, hk, hz⟩
    have kl : k < ds.length := (List.getElem?_eq_some_iff.mp hk).1
    have ek : ((k : Int) + 1) = ((k + 1 : Nat) : Int) := by omega
    have ez : V.int ((z : Int) + 1) = nv (z + 1) := rfl
    -- depths = ..
    refine ⟨.ref p, rfl, nv k, rfl, k, rfl, p, _, rfl, hp, fun a1 n1 => ?_⟩
    rw [cut_to]
    have t1 := same_new (o := .lst ((ds.map nv).take k)) n1
    have hp1 := t1.seq hp
    refine ⟨.ref p, rfl, nv k, rfl, p, _, _, _, rfl, rfl, hp1, atI_nat (nvs_at hk), z, 1, rfl, rfl, .ref p, rfl, nv k, rfl, p, _, _, _, rfl, rfl, hp1, atI_nat (nvs_at hk), z, 1, rfl, rfl, (by show 2 ≤ sizeLine; decide), fun a2 n2 => ?_⟩
    have t2 := same_new (o := .lst [V.int ((z : Int) + 1), V.int ((z : Int) + 1)]) n2
    refine ⟨a1, a2, _, _, rfl, rfl, t2 _ _ upd_same, upd_same, sl_of (by simp only [List.length_take, List.length_map, List.length_cons, List.length_nil]; omega), fun a3 n3 => ?_⟩
    have t3 := same_new (o := .lst ((ds.map nv).take k ++ [V.int ((z : Int) + 1), V.int ((z : Int) + 1)])) n3
    have t123 := (t1.trans t2).trans t3
    refine ⟨.ref p, rfl, nv k, rfl, k, 1, rfl, rfl, (k : Int) + 1, rfl, p, _, rfl, t123.seq hp, fun a4 n4 => ?_⟩
    rw [ek, cut_from]
    have t4 := same_new (o := .lst ((ds.map nv).drop (k + 1))) n4
    refine ⟨a3, a4, _, _, rfl, rfl, t4 _ _ upd_same, upd_same, sl_of (by simp only [List.length_append, List.length_take, List.length_drop, List.length_map, List.length_cons, List.length_nil]; omega), fun a5 n5 => ?_⟩
    have t5 := same_new (o := .lst ((ds.map nv).take k ++ [V.int ((z : Int) + 1), V.int ((z : Int) + 1)] ++ (ds.map nv).drop (k + 1))) n5
    have eL : (ds.map nv).take k ++ [V.int ((z : Int) + 1), V.int ((z : Int) + 1)] ++ (ds.map nv).drop (k + 1) = (ds.take k ++ [z + 1, z + 1] ++ ds.drop (k + 1)).map nv := by
      rw [List.map_append, List.map_append, List.map_take, List.map_drop]
      rfl
    refine ⟨nv k, rfl, a5, ds.take k ++ [z + 1, z + 1] ++ ds.drop (k + 1), k, _, _, rfl, (((sm.trans t123).trans t4).trans t5), lst_of ?_, gd.split hk hz (by omega), ?_, fun e he => ?_⟩
    · rw [upd_same, eL]
    · have := len_put (u := [z + 1, z + 1]) kl
      simp only [List.length_cons, List.length_nil] at this
      omega
    · rcases mem_take_drop he with r | r
      · have := hb e r
        omega
      · have := hb z (List.mem_of_getElem? hk)
        simp only [List.mem_cons, List.not_mem_nil, or_false, or_self] at r
        omega
  · rintro σ H1 ⟨p, ds, lk, y4, y5, rfl, sm, hp, gd, hl, hb⟩
    rw [nvs_len] at hl hb
    exact ⟨.ref p, rfl, q p ds H1 sm hp gd hl hb⟩
end
end Hw
/-! _law_tree -/
namespace Hw
open PySem PySem.Spec PyProof.Rows L2
open Evl (pss_cut)
def edat (a : Int × T) : PyData := .tuple [.int a.1, a.2.data]
theorem data_tups : ∀ t : T, tupsOnly t.data = true
  | .lf => rfl
  | .nd l r => by
    show (tupsOnly l.data && (tupsOnly r.data && true)) = true
    rw [data_tups l, data_tups r]
    rfl
theorem edat_tups (a : Int × T) : tupsOnly (edat a) = true := by
  show (true && (tupsOnly a.2.data && true)) = true
  rw [data_tups]
  rfl
theorem tups_e (l : List (Int × T)) : tupsAll (l.map edat) = true := tups_map edat edat_tups l
theorem at_two (ws : List V) (x y : V) : atI (ws ++ [x] ++ [y]) (-2) = some x := by
  have e : ixN (ws ++ [x] ++ [y]).length (-2) = some ws.length := by
    unfold ixN
    rw [List.length_append, List.length_append, List.length_singleton, List.length_singleton, if_neg (by decide)]
    split
    · congr 1
      omega
    · omega
  show (ixN (ws ++ [x] ++ [y]).length (-2)).bind (fun j => (ws ++ [x] ++ [y])[j]?) = some x
  rw [e]
  show (ws ++ [x] ++ [y])[ws.length]? = some x
  rw [List.append_assoc, List.getElem?_append_right (Nat.le_refl _), Nat.sub_self]
  rfl
theorem last_get (ws : List V) (y : V) : (ws ++ [y])[(ws ++ [y]).length - 1]? = some y := by
  rw [List.length_append, List.length_singleton, Nat.add_sub_cancel, List.getElem?_append_right (Nat.le_refl _), Nat.sub_self]
  rfl
section
variable {PR : Program} {w : World} {K : PySem.W.Frag} {mg : Str → Option Value} {base : Heap}
def spTree (K : PySem.W.Frag) : Sp := fun vs H Q _ => ∃ (a : Addr) (t : T), vs = [.ref a] ∧ SqL K H a ((t.deps 0).map nv) ∧ t.leaves ≤ 1000 ∧ ∀ v H', Same H H' → Dp K H' v t.data → Q v H'
/-- the stack as it stands -/
def Stk (K : PySem.W.Frag) (H : Hp) (o : Addr) (H' : Hp) (s : List (Int × T)) : Prop := ∃ vs, Same H H' ∧ H' o = some (.lst vs) ∧ DpAll K H' vs (s.reverse.map edat)
theorem ok_tree {f : Addr} {fd : FuncData} {lv : Nat} (F : Fun K "_law_tree" "_law_tree" sTree f fd) (ml : mg "len" = none) : FnOk PR w K mg base CX0 (lv + 1) f fd ["_law_depths"] (spTree K) := by
  refine F.ok scTree (fun vs H Q E h => ?_) (fun cdv A outer s H vs Q E hr h => ?_)
  · obtain ⟨a, t, rfl, _⟩ := h
    rfl
  obtain ⟨a, t, rfl, hS, hl, q⟩ := h
  have nd := scTree.nd
  have nl : (t.deps 0).length ≤ 1000 := by
    rw [deps_len]
    exact hl
  refine ⟨_, pss_cons (ps_set (i := 1) nd rfl (.inl rfl) (pe_lst pa_nil))
    (pss_cons (ps_for PassesOwn.never rfl (pi_list (pv 0)) (pg_name (i := 2) nd rfl (.inl rfl))
      (pss_cons (ps_expr (pe_bm PySem.F.plainAttrs_list PySem.F.slot_list_append PySem.F.type_list_append mt_append (pv 1) (pa_cons (pe_tup (pa_cons (pv 2) (pa_cons (pe_tup pa_nil) pa_nil))) pa_nil)))
      (pss_one (ps_while PassesOwn.never (PW.pt (pw_and (pt_cmpR op_gt (pe_callB call_len_seq (by rfl) ml PySem.boot_len (pa_cons (pv 1) pa_nil)) pe_int (nomark _))
            (pw_and1 (pt_cmpR op_eq (pe_ix ix_tup (pe_ix ix_list (pv 1) (pe_un un_neg pe_int) (fun _ _ => rfl)) pe_int (fun _ _ => rfl)) (pe_ix ix_tup (pe_ix ix_list (pv 1) (pe_un un_neg pe_int) (fun _ _ => rfl)) pe_int (fun _ _ => rfl)) (nomark _)))))
          (pss_cons (ps_asg (pe_bm0 PySem.F.plainAttrs_list PySem.F.slot_list_pop PySem.F.type_list_pop mt_pop (pv 1)) (pg_tup rfl (pgs_cons (pg_name (i := 3) nd rfl (.inl rfl)) (pgs_cons (pg_name (i := 4) nd rfl (.inl rfl)) pgs_nil))))
          (pss_cons (ps_asg (pe_bm0 PySem.F.plainAttrs_list PySem.F.slot_list_pop PySem.F.type_list_pop mt_pop (pv 1)) (pg_tup rfl (pgs_cons (pg_name (i := 3) nd rfl (.inl rfl)) (pgs_cons (pg_name (i := 5) nd rfl (.inl rfl)) pgs_nil))))
          (pss_one (ps_expr (pe_bm PySem.F.plainAttrs_list PySem.F.slot_list_append PySem.F.type_list_append mt_append (pv 1)
            (pa_cons (pe_tup (pa_cons (pe_op op_sub (pv 3) pe_int) (pa_cons (pe_tup (pa_cons (pv 5) (pa_cons (pv 4) pa_nil))) pa_nil))) pa_nil))))))))))
    (pss_one (ps_ret (pe_ix ix_tup (pe_ix ix_list (pv 1) pe_int (fun _ _ => rfl)) pe_int (fun _ _ => rfl))))), ?_⟩
  refine ⟨Nat.zero_le _, fun o no => ?_⟩
  have s1 : Same H (upd H o (.lst [])) := same_new no
  refine ⟨.ref a, rfl, a, rfl, ⟨_, s1.seq hS⟩, for_list (xs := (t.deps 0).map nv) (fun i σ H1 => ∃ (y2 y3 y4 y5 : Option V), σ = [some (.ref a), some (.ref o), y2, y3, y4, y5] ∧ Stk K H o H1 (run ((t.deps 0).take i) []))
      ⟨none, none, none, none, rfl, [], s1, upd_same, .nil⟩ (fun i σ H1 _ ⟨_, _, _, _, _, _, sm, _⟩ => sm.seq hS) ?_ ?_⟩
  · rintro i v σ H1 hv ⟨y2, y3, y4, y5, rfl, vs, sm, ho, hw⟩
    obtain ⟨hi, ev⟩ := List.getElem?_eq_some_iff.mp hv
    rw [List.length_map] at hi
    obtain ⟨d, hd, ex⟩ : ∃ d, (t.deps 0)[i]? = some d ∧ v = nv d := ⟨(t.deps 0)[i], List.getElem?_eq_getElem hi, by rw [← ev, List.getElem_map]⟩
    subst ex
    have ln := dps_len hw
    rw [List.length_map, List.length_reverse] at ln
    have rl := run_len ((t.deps 0).take i) []
    rw [List.length_take] at rl
    have rl' : (run ((t.deps 0).take i) []).length ≤ i := by
      have : ([] : List (Int × T)).length = 0 := rfl
      omega
    -- stack.append((d, ()))
    refine ⟨.ref o, rfl, .inl ⟨rfl, _, lst_of ho⟩, nv d, rfl, Nat.zero_le _, fun e ne => ?_⟩
    have se := same_new (o := .tup []) ne
    refine ⟨(by show 2 ≤ sizeLine; decide), fun g ng => ?_⟩
    have sg := same_new (o := .tup [nv d, .ref e]) ng
    have seg := se.trans sg
    refine ⟨o, vs, .ref g, rfl, rfl, seg _ _ ho, sl_lt (by omega), ?_⟩
    -- the stack behind it
    have st0 : Stk K H o (upd (upd (upd H1 e (.tup [])) g (.tup [nv d, .ref e])) o (.lst (vs ++ [.ref g]))) (((d : Int), .lf) :: run ((t.deps 0).take i) []) := by
      refine ⟨vs ++ [.ref g], same_mut (sm.trans seg) no, upd_same, ?_⟩
      rw [List.reverse_cons, List.map_append]
      have bg : But o (upd (upd H1 e (.tup [])) g (.tup [nv d, .ref e])) (upd (upd (upd H1 e (.tup [])) g (.tup [nv d, .ref e])) o (.lst (vs ++ [.ref g]))) := But.refl.upd
      refine dps_app (dps_but bg (seg _ _ ho) (tups_e _) (dps_mono seg hw)) (.cons (dp_but bg (seg _ _ ho) (edat_tups _) ?_) .nil)
      exact dp_mk2 (tup_of upd_same) (.int _) (dp_mono sg (.tup (tup_of upd_same) .nil))
    refine ⟨fun m σ' H' => ∃ (y3 y4 y5 : Option V) (S : List (Int × T)), σ' = [some (.ref a), some (.ref o), some (nv d), y3, y4, y5] ∧ Stk K H o H' S ∧ mrg S = run ((t.deps 0).take (i + 1)) [] ∧ m = S.length ∧ S.length ≤ 1001,
      ⟨_, y3, y4, y5, _, rfl, st0, (run_take hd).symm, rfl, by simp only [List.length_cons]; omega⟩, fun m σ' H' hW => ?_⟩
    obtain ⟨z3, z4, z5, S, rfl, ⟨vs', sm', ho', hw'⟩, em, rfl, hS'⟩ := hW
    have ln' := dps_len hw'
    rw [List.length_map, List.length_reverse] at ln'
    refine ⟨.ref o, rfl, o, _, rfl, .inl (lst_of ho'), _, 1, rfl, rfl, _, rfl, ?_⟩
    have stop : mrg S = S → ∃ (y2 y3 y4 y5 : Option V), [some (V.ref a), some (.ref o), some (nv d), z3, z4, z5] = [some (V.ref a), some (.ref o), y2, y3, y4, y5] ∧ Stk K H o H' (run ((t.deps 0).take (i + 1)) []) := fun e => by
      refine ⟨_, _, _, _, rfl, vs', sm', ho', ?_⟩
      rw [← em, e]
      exact hw'
    match S, hw', em, hS', ln', stop with
    | [], hw', em, hS', ln', stop =>
      rw [show decide ((1 : Int) < ((vs'.length : Nat) : Int)) = false from decide_eq_false (by rw [ln']; decide)]
      exact iteF (iteF (stop (by rw [mrg])))
    | [x], hw', em, hS', ln', stop =>
      rw [show decide ((1 : Int) < ((vs'.length : Nat) : Int)) = false from decide_eq_false (by rw [ln']; simp)]
      exact iteF (iteF (stop (by rw [mrg])))
    | x :: y :: S, hw', em, hS', ln', stop =>
      rw [show decide ((1 : Int) < ((vs'.length : Nat) : Int)) = true from decide_eq_true (by rw [ln']; simp only [List.length_cons]; omega)]
      have hc := hw'
      rw [List.reverse_cons, List.map_append] at hc
      obtain ⟨us, vx, rfl, aw, dx⟩ := dps_snoc hc
      rw [List.reverse_cons, List.map_append] at aw
      obtain ⟨ws, vy, rfl, aw2, dy⟩ := dps_snoc aw
      obtain ⟨ax, ix, tx, ex, qx, dix, dtx⟩ := dp_two dx
      obtain ⟨ay, iy, ty, ey, qy, diy, dty⟩ := dp_two dy
      have eix := dp_int dix
      have eiy := dp_int diy
      subst eix eiy ex ey
      refine iteT ⟨.ref o, rfl, 2, rfl, o, _, -2, .ref ay, rfl, rfl, lst_of ho', at_two _ _ _, ay, _, 0, _, rfl, rfl, qy, atI_nat (j := 0) rfl, .ref o, rfl, 1, rfl, o, _, -1, .ref ax, rfl, rfl, lst_of ho', atI_last _ _, ax, _, 0, _, rfl, rfl, qx, atI_nat (j := 0) rfl, rfl, _, rfl, ?_⟩
      by_cases c : y.1 = x.1
      · rw [show decide (V.int y.1 = V.int x.1) = true from decide_eq_true (congrArg V.int c)]
        refine iteT ⟨fun σ' H' => ∃ (y3 y4 y5 : Option V) (S' : List (Int × T)), σ' = [some (.ref a), some (.ref o), some (nv d), y3, y4, y5] ∧ Stk K H o H' S' ∧ mrg S' = run ((t.deps 0).take (i + 1)) [] ∧ S'.length < (x :: y :: S).length ∧ S'.length ≤ 1001,
          fun σ' H' ⟨y3, y4, y5, S', e1, e2, e3, e4, e5⟩ => ⟨_, e4, y3, y4, y5, S', e1, e2, e3, rfl, e5⟩, ?_⟩
        -- deep, right = stack.pop(); deep, left = stack.pop()
        have b1 : But o H' (upd H' o (.lst (ws ++ [.ref ay]))) := But.refl.upd
        have ho1 : upd H' o (.lst (ws ++ [V.ref ay])) o = some (.lst (ws ++ [.ref ay])) := upd_same
        refine ⟨.ref o, rfl, .inl ⟨rfl, _, lst_of ho'⟩, o, _, .ref ax, rfl, rfl, ho', last_get _ _, ?_⟩
        rw [List.dropLast_concat]
        refine ⟨ax, _, rfl, but_tup b1 ho' qx, rfl, _, _, rfl, _, [], rfl, rfl, ?_⟩
        have b2 : But o H' (upd (upd H' o (.lst (ws ++ [.ref ay]))) o (.lst ws)) := b1.upd
        refine ⟨.ref o, rfl, .inl ⟨rfl, _, lst_of ho1⟩, o, _, .ref ay, rfl, rfl, ho1, last_get _ _, ?_⟩
        rw [List.dropLast_concat]
        refine ⟨ay, _, rfl, but_tup b2 ho' qy, rfl, _, _, rfl, _, [], rfl, rfl, ?_⟩
        have sm2 : Same H (upd (upd H' o (.lst (ws ++ [.ref ay]))) o (.lst ws)) := same_mut (same_mut sm' no) no
        have ho2 : upd (upd H' o (.lst (ws ++ [V.ref ay]))) o (.lst ws) o = some (.lst ws) := upd_same
        have dtx2 := dp_but b2 ho' (data_tups _) dtx
        have dty2 := dp_but b2 ho' (data_tups _) dty
        have aw3 := dps_but b2 ho' (tups_e _) aw2
        generalize upd (upd H' o (.lst (ws ++ [V.ref ay]))) o (.lst ws) = H2 at sm2 ho2 dtx2 dty2 aw3 ⊢
        -- stack.append((deep - 1, (left, right)))
        refine ⟨.ref o, rfl, .inl ⟨rfl, _, lst_of ho2⟩, V.int y.1, rfl, y.1, 1, rfl, rfl, ty, rfl, tx, rfl, (by show 2 ≤ sizeLine; decide), fun e' ne' => ?_⟩
        have se' := same_new (o := .tup [ty, tx]) ne'
        refine ⟨(by show 2 ≤ sizeLine; decide), fun g' ng' => ?_⟩
        have sg' := same_new (o := .tup [V.int (y.1 - 1), .ref e']) ng'
        have seg' := se'.trans sg'
        have lw := dps_len aw2
        rw [List.length_map, List.length_reverse] at lw
        refine ⟨o, ws, .ref g', rfl, rfl, seg' _ _ ho2, sl_lt (by simp only [List.length_cons] at hS'; omega), _, _, _, (x.1 - 1, .nd y.2 x.2) :: S, rfl, ⟨ws ++ [.ref g'], same_mut (sm2.trans seg') no, upd_same, ?_⟩, ?_, by simp only [List.length_cons]; omega, by simp only [List.length_cons] at hS' ⊢; omega⟩
        · rw [List.reverse_cons, List.map_append]
          have bg : But o (upd (upd H2 e' (.tup [ty, tx])) g' (.tup [V.int (y.1 - 1), .ref e'])) (upd (upd (upd H2 e' (.tup [ty, tx])) g' (.tup [V.int (y.1 - 1), .ref e'])) o (.lst (ws ++ [.ref g']))) := But.refl.upd
          refine dps_app (dps_but bg (seg' _ _ ho2) (tups_e _) (dps_mono seg' aw3)) (.cons (dp_but bg (seg' _ _ ho2) (edat_tups _) ?_) .nil)
          refine dp_mk2 (v1 := V.int (y.1 - 1)) (v2 := .ref e') (tup_of upd_same) ?_ (dp_mono sg' (dp_mk2 (tup_of upd_same) (dp_mono se' dty2) (dp_mono se' dtx2)))
          rw [c]
          exact .int _
        · rw [← em, mrg_two, if_pos c]
      · rw [show decide (V.int y.1 = V.int x.1) = false from decide_eq_false (fun e => c (V.int.inj e))]
        exact iteF (stop (by rw [mrg_two, if_neg c]))
  · rintro σ H1 ⟨y2, y3, y4, y5, rfl, vs, sm, ho, hw⟩
    rw [nvs_len, List.take_of_length_le (Nat.le_refl _), run_tree] at hw
    obtain ⟨v0, rfl⟩ : ∃ v0, vs = [v0] := by
      have ln := dps_len hw
      match vs, ln with
      | [v0], _ => exact ⟨v0, rfl⟩
    cases hw with
    | cons h0 _ =>
      obtain ⟨a0, i0, t0, e0, q0, di, dt⟩ := dp_two h0
      exact ⟨.ref o, rfl, o, _, 0, v0, rfl, rfl, lst_of ho, atI_nat (j := 0) rfl, a0, _, 1, t0, e0, rfl, q0, atI_nat (j := 1) rfl, q t0 H1 sm dt⟩
end
end Hw
/-! _law_lists, _law_bumped, _law_drawn -/
namespace Hw
open PySem PySem.Spec PyProof.Rows L2
open Evl (pss_cut)
/-- a tuple of two lists of depths, each of a tree, as many -/
structure Two (K : PySem.W.Frag) (H : Hp) (v : V) (ds es : List Nat) : Prop where
  at_ : ∃ p a b, v = .ref p ∧ SqT K H p [.ref a, .ref b] ∧ SqL K H a (ds.map nv) ∧ SqL K H b (es.map nv)
  one : Good ds
  other : Good es
  same : ds.length = es.length
theorem Two.mono {K : PySem.W.Frag} {H H' : Hp} {v : V} {ds es : List Nat} (e : Same H H') (t : Two K H v ds es) : Two K H' v ds es :=
  ⟨let ⟨p, a, b, h1, h2, h3, h4⟩ := t.at_; ⟨p, a, b, h1, same_tup e h2, e.seq h3, e.seq h4⟩, t.one, t.other, t.same⟩
theorem cut_nv_to (ds : List Nat) (k : Nat) : cutV (ds.map nv) none (some (k : Int)) = (ds.take k).map nv := by rw [cut_to, List.map_take]
theorem cut_nv_from (ds : List Nat) (k : Nat) : cutV (ds.map nv) (some (k : Int)) none = (ds.drop k).map nv := by rw [cut_from, List.map_drop]
theorem cut_nv_mid (ds : List Nat) {i j : Nat} (hij : i ≤ j) (hj : j ≤ ds.length) : cutV (ds.map nv) (some (i : Int)) (some (j : Int)) = ((ds.drop i).take (j - i)).map nv := by
  rw [cut_mid _ hij (by rw [nvs_len]; exact hj), List.map_take, List.map_drop]
section
variable {PR : Program} {w : World} {K : PySem.W.Frag} {mg : Str → Option Value} {base : Heap}
def spLists (K : PySem.W.Frag) : Sp := fun vs H Q _ => ∃ (a : Addr) (ns : List Int) (at_ : Nat), vs = [.ref a, nv at_, nv 59] ∧ SqL K H a (ns.map V.int) ∧ ∀ v ds es H', Same H H' → Two K H' v ds es → Q v H'
theorem ok_lists {f g d : Addr} {fd gd dd : FuncData} {lv : Nat} (F : Fun K "_law_lists" "_law_lists" sLists f fd)
    (GD : FnOk PR w K mg base CX0 (lv + 1) d dd ["_law_script", "_law_at", "_law_many", "_law_m"] (spDraws K)) (bD : Binds K dd ["_law_script", "_law_at", "_law_many", "_law_m"] []) (kD : PySem.W.keepIn K (.ref d) = true) (mD : mg "_law_draws" = some (.ref d))
    (GG : FnOk PR w K mg base CX0 (lv + 1) g gd ["_law_digits", "_law_shape"] (spGrown K)) (bG : Binds K gd ["_law_digits", "_law_shape"] []) (kG : PySem.W.keepIn K (.ref g) = true) (mG : mg "_law_grown" = some (.ref g))
    (mm : mg "min" = none) : FnOk PR w K mg base CX0 (lv + 1 + 1) f fd ["_law_script", "_law_at", "_law_most"] (spLists K) := by
  refine F.ok scLists (fun vs H Q E h => ?_) (fun cdv A outer s H vs Q E hr h => ?_)
  · obtain ⟨a, ns, at_, rfl, _⟩ := h
    rfl
  obtain ⟨a, ns, at_, rfl, hS, q⟩ := h
  have nd := scLists.nd
  refine ⟨_, pss_cons (ps_asg (pe_call GD hr (by rfl) mD kD bD .nil pass0 (pa_cons (pv 0) (pa_cons (pv 1) (pa_cons pe_int (pa_cons pe_int pa_nil))))) (pg_unl rfl (pgs_cons (pg_name (i := 3) nd rfl (.inl rfl)) (pgs_cons (pg_name (i := 4) nd rfl (.inl rfl)) pgs_nil))))
    (pss_cons (ps_set (i := 5) nd rfl (.inl rfl) (pe_callB (call_min2 rfl) (by rfl) mm (by decide +kernel) (pa_cons (pe_op op_mod (pv 3) pe_int) (pa_cons (pv 2) pa_nil))))
    (pss_cut (ps_if (pt_cmpR op_eq (pe_op op_mod (pv 4) pe_int) pe_int (nomark _)) (pss_one (ps_set (i := 5) nd rfl (.inl rfl) (pe_op op_mod (pv 3) (pe_op op_add (pv 2) pe_int)))) pss_nil)
    (pss_cons (ps_set (i := 6) nd rfl (.inl rfl) (pe_slice sl_list (pe_call GD hr (by rfl) mD kD bD .nil pass0 (pa_cons (pv 0) (pa_cons (pv 1) (pa_cons (pe_op op_addN pe_int (pe_op op_mulN pe_int (pv 5))) (pa_cons pe_int pa_nil))))) (po_some pe_int) po_none))
    (pss_one (ps_ret (pe_tup (pa_cons (pe_call GG hr (by rfl) mG kG bG .nil pass0 (pa_cons (pe_slice sl_list (pv 6) po_none (po_some (pv 5))) (pa_cons (pe_op op_fdivNN (pv 4) pe_int) pa_nil)))
      (pa_cons (pe_call GG hr (by rfl) mG kG bG .nil pass0 (pa_cons (pe_slice sl_list (pv 6) (po_some (pv 5)) po_none) (pa_cons (pe_op op_mod (pe_op op_mulN (pe_op op_fdivNN (pv 4) pe_int) pe_int) pe_int) pa_nil))) pa_nil)))))))), ?_⟩
  -- size, shape
  refine ⟨.ref a, rfl, nv at_, rfl, a, ns, at_, 2, rfl, hS, by decide, fun p ds H1 sm np hp hl hb => ?_⟩
  obtain ⟨x, y, rfl⟩ : ∃ x y, ds = [x, y] := by
    match ds, hl with
    | [x, y], _ => exact ⟨x, y, rfl⟩
  have hx := hb x (by simp)
  have hy := hb y (by simp)
  refine ⟨p, [nv x, nv y], rfl, lst_of hp, rfl, nv x, [nv y], rfl, nv y, [], rfl, rfl, ?_⟩
  -- many
  refine ⟨nv x, rfl, x, 12, rfl, rfl, (show (0 : Int) < 12 by decide), nv 59, rfl, _, _, rfl, ?_⟩
  refine ⟨fun σ' H' => ∃ many : Nat, σ' = [some (.ref a), some (nv at_), some (nv 59), some (nv x), some (nv y), some (nv many), none] ∧ H' = H1 ∧ many ≤ 59, ?_, ?_⟩
  · refine ⟨nv y, rfl, y, 8, rfl, rfl, (show (0 : Int) < 8 by decide), rfl, _, rfl, ite2 (fun _ => ?_) (fun _ => ?_)⟩
    · exact ⟨nv x, rfl, nv 59, rfl, _, 1, rfl, rfl, x, _, rfl, rfl, (show (0 : Int) < ((59 : Nat) : Int) + 1 by decide), x % 60, rfl, rfl, by omega⟩
    · refine ⟨x % 12, ?_, rfl, by omega⟩
      show [some (V.ref a), some (nv at_), some (nv 59), some (nv x), some (nv y), some (V.int (if ((59 : Nat) : Int) < (x : Int) % 12 then ((59 : Nat) : Int) else (x : Int) % 12)), none] = _
      rw [if_neg (by omega)]
      rfl
  rintro σ' H' ⟨many, rfl, rfl, hm⟩
  -- rest
  refine ⟨.ref a, rfl, nv at_, rfl, nv many, rfl, 2, many, rfl, rfl, by decide, 2, 2 * many, rfl, rfl, a, ns, at_, 2 + 2 * many, rfl, sm.seq hS, by omega, fun p2 rs H2 sm2 np2 hp2 hl2 hb2 => ?_⟩
  refine ⟨2, rfl, p2, _, rfl, lst_of hp2, fun p3 np3 => ?_⟩
  have e2 : cutV (rs.map nv) (some 2) none = (rs.drop 2).map nv := cut_nv_from rs 2
  rw [e2]
  have t3 := same_new (o := .lst ((rs.drop 2).map nv)) np3
  have hp3 : upd H2 p3 (HO.lst ((rs.drop 2).map nv)) p3 = some (.lst ((rs.drop 2).map nv)) := upd_same
  have sm3 := (sm.trans sm2).trans t3
  have hl3 : (rs.drop 2).length = 2 * many := by
    rw [List.length_drop]
    omega
  generalize upd H2 p3 (HO.lst ((rs.drop 2).map nv)) = H3 at hp3 sm3 ⊢
  generalize rs.drop 2 = qs at hp3 hl3 ⊢
  refine ⟨.ref p3, rfl, nv many, rfl, many, rfl, p3, _, rfl, lst_of hp3, fun p4 np4 => ?_⟩
  rw [cut_nv_to]
  have t4 := same_new (o := .lst ((qs.take many).map nv)) np4
  refine ⟨nv y, rfl, y, 8, rfl, rfl, by decide, p4, qs.take many, y / 8, rfl, lst_of upd_same, by rw [List.length_take]; omega, fun a1 d1 H4 u1 l1 g1 n1 _ => ?_⟩
  have t34 := t4.trans u1
  refine ⟨.ref p3, rfl, nv many, rfl, many, rfl, p3, _, rfl, lst_of (t34 _ _ hp3), fun p5 np5 => ?_⟩
  rw [cut_nv_from]
  have t5 := same_new (o := .lst ((qs.drop many).map nv)) np5
  refine ⟨nv y, rfl, y, 8, rfl, rfl, by decide, y / 8, 3, rfl, rfl, by omega, _, 8, rfl, rfl, (show (0 : Int) < 8 by decide), p5, qs.drop many, y / 8 * 3 % 8, rfl, lst_of upd_same, by rw [List.length_drop]; omega, fun a2 d2 H5 u2 l2 g2 n2 _ => ?_⟩
  refine ⟨(by show 2 ≤ sizeLine; decide), fun p6 np6 => ?_⟩
  have t6 := same_new (o := .tup [.ref a1, .ref a2]) np6
  refine q (.ref p6) d1 d2 _ ((((sm3.trans t34).trans t5).trans u2).trans t6) ⟨⟨p6, a1, a2, rfl, tup_of upd_same, ((t5.trans u2).trans t6).seq l1, t6.seq l2⟩, g1, g2, ?_⟩
  rw [n1, n2, List.length_take, List.length_drop]
  omega
end
end Hw
/-! _law_bumped, _law_drawn -/
namespace Hw
open PySem PySem.Spec PyProof.Rows L2
open Evl (pss_cut)
theorem ix_lk {X : Cx} {K : PySem.W.Frag} (h : X.K = K) : IxR X (rIxL K) := by
  subst h
  exact ix_list
section
variable {PR : Program} {w : World} {K : PySem.W.Frag} {mg : Str → Option Value} {base : Heap}
def spBump (K : PySem.W.Frag) : Sp := fun vs H Q _ => ∃ (v : V) (b : Addr) (ds es gs : List Nat), vs = [v, .ref b] ∧ Two K H v ds es ∧ SqL K H b (gs.map nv) ∧ gs.length = 12 ∧ ∀ v' ds' es' H', Same H H' → Two K H' v' ds' es' → Q v' H'
theorem ok_bump {f g : Addr} {fd gd : FuncData} {lv : Nat} (F : Fun K "_law_bumped" "_law_bumped" sBump f fd)
    (GG : FnOk PR w K mg base CX0 (lv + 1) g gd ["_law_digits", "_law_shape"] (spGrown K)) (bG : Binds K gd ["_law_digits", "_law_shape"] []) (kG : PySem.W.keepIn K (.ref g) = true) (mG : mg "_law_grown" = some (.ref g))
    (ml : mg "len" = none) (mx : mg "max" = none) : FnOk PR w K mg base CX0 (lv + 1 + 1) f fd ["_law_lists_here", "_law_digits"] (spBump K) := by
  refine F.ok scBump (fun vs H Q E h => ?_) (fun cdv A outer s H vs Q E hr h => ?_)
  · obtain ⟨v, b, ds, es, gs, rfl, _⟩ := h
    rfl
  obtain ⟨v, b, ds, es, gs, rfl, two, hB, h12, q⟩ := h
  have nd := scBump.nd
  refine ⟨_, pss_cons (ps_asg (pv 0) (pg_tup rfl (pgs_cons (pg_name (i := 2) nd rfl (.inr rfl)) (pgs_cons (pg_name (i := 3) nd rfl (.inr rfl)) pgs_nil))))
    (pss_cut (ps_set (i := 4) nd rfl (.inr rfl) (pe_op op_mod (pe_ix ix_list (pv 1) pe_int (fun _ _ => rfl)) (pe_callB call_len_seq (by rfl) ml PySem.boot_len (pa_cons (pv 2) pa_nil))))
    (pss_cut (ps_set (i := 5) nd rfl (.inl rfl) (pe_op op_add pe_int (pe_op op_mod (pe_ix ix_list (pv 1) pe_int (fun _ _ => rfl)) pe_int)))
    (pss_cons (ps_if (PW.pt (pw_or (pt_cmpR op_gt (pe_op op_add (pe_callB call_len_seq (by rfl) ml PySem.boot_len (pa_cons (pv 2) pa_nil)) (pv 5)) pe_int (nomark _))
          (pw_or1 (pt_cmpR op_gt (pe_op op_add (pe_callB (call_max2 rfl) (by rfl) mx (by decide +kernel) (pa_cons (pe_ix ix_list (pv 2) (pv 4) (fun _ _ => rfl)) (pa_cons (pe_ix ix_list (pv 3) (pv 4) (fun _ _ => rfl)) pa_nil))) (pv 5)) pe_int (nomark _)))))
        (pss_one (ps_ret (pv 0))) pss_nil)
    (pss_cons (ps_setLc (i := 6) (own := [("_law_d", 8)]) (g := gName 8) (tt := tYes) rfl nd rfl rfl (sw_true rfl rfl rfl (by decide +kernel))
        (pi_list (pe_call GG hr (by rfl) mG kG bG .nil pass0 (pa_cons (pe_slice sl_list (pv 1) (po_some pe_int) (po_some (pe_op op_add pe_int (pv 5)))) (pa_cons pe_int pa_nil))))
        (blkOk_by (N := ["_law_lists_here", "_law_digits", "_law_one", "_law_other", "_law_k", "_law_size", "_law_base", "_law_top", "_law_d"]) (sc := defScope sBump) (by decide +kernel))
        (fun _ _ _ _ _ => pg_name (i := 8) nd rfl (Or.inl rfl)) (fun _ _ _ _ _ => pts_nil) (fun _ _ _ _ _ => pe_op op_addN (pe_ix (ix_lk (K := K) rfl) (pv 2) (pv 4) (fun _ _ => rfl)) (pv 8)))
    (pss_cons (ps_setLc (i := 7) (own := [("_law_d", 8)]) (g := gName 8) (tt := tYes) rfl nd rfl rfl (sw_true rfl rfl rfl (by decide +kernel))
        (pi_list (pe_call GG hr (by rfl) mG kG bG .nil pass0 (pa_cons (pe_slice sl_list (pv 1) (po_some pe_int) (po_some (pe_op op_add pe_int (pv 5)))) (pa_cons pe_int pa_nil))))
        (blkOk_by (N := ["_law_lists_here", "_law_digits", "_law_one", "_law_other", "_law_k", "_law_size", "_law_base", "_law_top", "_law_d"]) (sc := defScope sBump) (by decide +kernel))
        (fun _ _ _ _ _ => pg_name (i := 8) nd rfl (Or.inl rfl)) (fun _ _ _ _ _ => pts_nil) (fun _ _ _ _ _ => pe_op op_addN (pe_ix (ix_lk (K := K) rfl) (pv 3) (pv 4) (fun _ _ => rfl)) (pv 8)))
    (pss_one (ps_ret (pe_tup (pa_cons (pe_op op_cat (pe_op op_cat (pe_slice sl_list (pv 2) po_none (po_some (pv 4))) (pv 6)) (pe_slice sl_list (pv 2) (po_some (pe_op op_add (pv 4) pe_int)) po_none))
      (pa_cons (pe_op op_cat (pe_op op_cat (pe_slice sl_list (pv 3) po_none (po_some (pv 4))) (pv 7)) (pe_slice sl_list (pv 3) (po_some (pe_op op_add (pv 4) pe_int)) po_none)) pa_nil)))))))))), ?_⟩
  obtain ⟨p, a1, a2, rfl, qp, q1, q2⟩ := two.at_
  obtain ⟨g0, hg0⟩ : ∃ g0, gs[0]? = some g0 := ⟨gs[0], List.getElem?_eq_getElem (by omega)⟩
  obtain ⟨g1, hg1⟩ : ∃ g1, gs[1]? = some g1 := ⟨gs[1], List.getElem?_eq_getElem (by omega)⟩
  have n0 : 0 < ds.length := two.one.pos
  have il : (0 : Int) < (((ds.map nv).length : Nat) : Int) := by
    rw [nvs_len]
    omega
  obtain ⟨k, ek⟩ : ∃ k, g0 % ds.length = k := ⟨_, rfl⟩
  have hk : k < ds.length := by
    rw [← ek]
    exact Nat.mod_lt _ n0
  have hke : k < es.length := by
    rw [← two.same]
    exact hk
  obtain ⟨x, hx⟩ : ∃ x, ds[k]? = some x := ⟨ds[k], List.getElem?_eq_getElem hk⟩
  obtain ⟨y, hy⟩ : ∃ y, es[k]? = some y := ⟨es[k], List.getElem?_eq_getElem hke⟩
  obtain ⟨sz, hsz⟩ : ∃ sz, 1 + g1 % 5 = sz := ⟨_, rfl⟩
  have ekv : V.int ((g0 : Int) % (((ds.map nv).length : Nat) : Int)) = nv k := by
    rw [nvs_len, ← ek]
    rfl
  have esv : V.int (1 + (g1 : Int) % 5) = nv sz := by
    rw [← hsz]
    exact congrArg V.int (by omega)
  -- one, other; k; size
  refine ⟨.ref p, rfl, p, _, rfl, qp, rfl, _, _, rfl, _, [], rfl, rfl, ?_⟩
  refine ⟨fun σ' H' => σ' = [some (.ref p), some (.ref b), some (.ref a1), some (.ref a2), some (nv k), none, none, none, none] ∧ H' = H,
    ⟨.ref b, rfl, b, _, 0, nv g0, rfl, rfl, hB, atI_nat (j := 0) (nvs_at hg0), .ref a1, rfl, a1, _, rfl, .inl q1, g0, _, rfl, rfl, il, by
      rw [← ekv]
      rfl, rfl⟩, ?_⟩
  rintro σ' H' ⟨rfl, rfl⟩
  refine ⟨fun σ' H2 => σ' = [some (.ref p), some (.ref b), some (.ref a1), some (.ref a2), some (nv k), some (nv sz), none, none, none] ∧ H2 = H',
    ⟨.ref b, rfl, b, _, 1, nv g1, rfl, rfl, hB, atI_nat (j := 1) (nvs_at hg1), g1, 5, rfl, rfl, (show (0 : Int) < 5 by decide), 1, _, rfl, rfl, by
      rw [← esv]
      rfl, rfl⟩, ?_⟩
  rintro σ' H ⟨rfl, rfl⟩
  -- if ..: return
  have back : Q (.ref p) H := q (.ref p) ds es H (Same.refl H) two
  refine ⟨.ref a1, rfl, a1, _, rfl, .inl q1, nv sz, rfl, _, _, rfl, rfl, _, 60, rfl, rfl, _, rfl, ?_⟩
  by_cases c1 : (60 : Int) < (((ds.map nv).length : Nat) : Int) + (sz : Int)
  · rw [decide_eq_true c1]
    exact iteT (iteT ⟨.ref p, rfl, back⟩)
  rw [decide_eq_false c1]
  rw [nvs_len] at c1
  refine iteF ⟨.ref a1, rfl, nv k, rfl, a1, _, _, _, rfl, rfl, q1, atI_nat (nvs_at hx), .ref a2, rfl, nv k, rfl, a2, _, _, _, rfl, rfl, q2, atI_nat (nvs_at hy), _, _, rfl, nv sz, rfl, _, _, rfl, rfl, _, 40, rfl, rfl, _, rfl, ite2 (fun _ => ⟨.ref p, rfl, back⟩) (fun c2 => ?_)⟩
  have c3 : ¬ (40 : Int) < (if (y : Int) > (x : Int) then (y : Int) else (x : Int)) + (sz : Int) := of_decide_eq_false (Bool.eq_false_iff.mpr c2)
  have hxs : x + sz ≤ 40 := by
    split at c3 <;> omega
  have hys : y + sz ≤ 40 := by
    split at c3 <;> omega
  have s5 : sz ≤ 5 := by omega
  -- base
  have e2s : V.int (2 + (sz : Int)) = nv (2 + sz) := rfl
  have e7s : V.int (7 + (sz : Int)) = nv (7 + sz) := rfl
  refine ⟨.ref b, rfl, 2, rfl, nv sz, rfl, 2, sz, rfl, rfl, _, rfl, b, _, rfl, hB, fun p1 np1 => ?_⟩
  have ec1 : cutV (gs.map nv) (some 2) (some (2 + (sz : Int))) = ((gs.drop 2).take (2 + sz - 2)).map nv := cut_nv_mid gs (i := 2) (j := 2 + sz) (by omega) (by omega)
  rw [ec1]
  have t1 := same_new (o := .lst (((gs.drop 2).take (2 + sz - 2)).map nv)) np1
  refine ⟨p1, (gs.drop 2).take (2 + sz - 2), 0, rfl, lst_of upd_same, by rw [List.length_take, List.length_drop]; omega, fun a3 us H3 u3 l3 gu nu bu => ?_⟩
  have lus : us.length = sz + 1 := by
    rw [nu, List.length_take, List.length_drop]
    omega
  have bus : ∀ e, e ∈ us → e ≤ sz := fun e he => by
    have := bu e he
    rw [List.length_take, List.length_drop] at this
    omega
  have t13 := t1.trans u3
  refine ⟨a3, rfl, ⟨_, l3⟩, fun D1 nD1 => lc_list (xs := us.map nv) (fun i H' => Same H3 H' ∧ H' D1 = some (.lst ((us.take i).map fun e => nv (x + e)))) ⟨same_new nD1, upd_same⟩ (fun i H' _ hp => hp.1.seq l3) ?_ ?_⟩
  · rintro i v0 H' hv ⟨sm, hD⟩
    obtain ⟨hi, ev⟩ := List.getElem?_eq_some_iff.mp hv
    rw [List.length_map] at hi
    have ev' : v0 = nv us[i] := by rw [← ev, List.getElem_map]
    subst ev'
    refine ⟨rfl, .ref a1, rfl, nv k, rfl, a1, _, _, _, rfl, rfl, sm.seq (t13.seq q1), atI_nat (nvs_at hx), nv us[i], rfl, x, us[i], rfl, rfl, _, hD, sl_lt (by rw [List.length_map, List.length_take]; omega), same_mut sm nD1, ?_⟩
    rw [upd_same, ← List.take_append_getElem hi, List.map_append]
    rfl
  rintro H4 ⟨sm4, hD1⟩
  rw [nvs_len, List.take_of_length_le (Nat.le_refl _)] at hD1
  have t14 := t13.trans sm4
  -- top
  refine ⟨.ref b, rfl, 7, rfl, nv sz, rfl, 7, sz, rfl, rfl, _, rfl, b, _, rfl, t14.seq hB, fun p5 np5 => ?_⟩
  have ec5 : cutV (gs.map nv) (some 7) (some (7 + (sz : Int))) = ((gs.drop 7).take (7 + sz - 7)).map nv := cut_nv_mid gs (i := 7) (j := 7 + sz) (by omega) (by omega)
  rw [ec5]
  have t5 := same_new (o := .lst (((gs.drop 7).take (7 + sz - 7)).map nv)) np5
  refine ⟨p5, (gs.drop 7).take (7 + sz - 7), 0, rfl, lst_of upd_same, by rw [List.length_take, List.length_drop]; omega, fun a6 ws H6 u6 l6 gw nw bw => ?_⟩
  have lws : ws.length = sz + 1 := by
    rw [nw, List.length_take, List.length_drop]
    omega
  have bws : ∀ e, e ∈ ws → e ≤ sz := fun e he => by
    have := bw e he
    rw [List.length_take, List.length_drop] at this
    omega
  have t56 := t5.trans u6
  have t16 := t14.trans t56
  refine ⟨a6, rfl, ⟨_, l6⟩, fun D2 nD2 => lc_list (xs := ws.map nv) (fun i H' => Same H6 H' ∧ H' D2 = some (.lst ((ws.take i).map fun e => nv (y + e)))) ⟨same_new nD2, upd_same⟩ (fun i H' _ hp => hp.1.seq l6) ?_ ?_⟩
  · rintro i v0 H' hv ⟨sm, hD⟩
    obtain ⟨hi, ev⟩ := List.getElem?_eq_some_iff.mp hv
    rw [List.length_map] at hi
    have ev' : v0 = nv ws[i] := by rw [← ev, List.getElem_map]
    subst ev'
    refine ⟨rfl, .ref a2, rfl, nv k, rfl, a2, _, _, _, rfl, rfl, sm.seq (t16.seq q2), atI_nat (nvs_at hy), nv ws[i], rfl, y, ws[i], rfl, rfl, _, hD, sl_lt (by rw [List.length_map, List.length_take]; omega), same_mut sm nD2, ?_⟩
    rw [upd_same, ← List.take_append_getElem hi, List.map_append]
    rfl
  rintro H7 ⟨sm7, hD2⟩
  rw [nvs_len, List.take_of_length_le (Nat.le_refl _)] at hD2
  have t17 := t16.trans sm7
  have hD17 : H7 D1 = some (.lst (us.map fun e => nv (x + e))) := (t56.trans sm7) _ _ hD1
  have r1 := t17.seq q1
  have r2 := t17.seq q2
  -- the two new lists
  have ek1 : ((k : Int) + 1) = ((k + 1 : Nat) : Int) := by omega
  have eA : (ds.take k).map nv ++ us.map (fun e => nv (x + e)) ++ (ds.drop (k + 1)).map nv = (ds.take k ++ us.map (x + ·) ++ ds.drop (k + 1)).map nv := by
    rw [List.map_append, List.map_append, List.map_map]
    rfl
  have eB : (es.take k).map nv ++ ws.map (fun e => nv (y + e)) ++ (es.drop (k + 1)).map nv = (es.take k ++ ws.map (y + ·) ++ es.drop (k + 1)).map nv := by
    rw [List.map_append, List.map_append, List.map_map]
    rfl
  have sd := two.one.size
  have se := two.other.size
  refine ⟨.ref a1, rfl, nv k, rfl, k, rfl, a1, _, rfl, r1, fun b1 nb1 => ?_⟩
  rw [cut_nv_to]
  have v1 := same_new (o := .lst ((ds.take k).map nv)) nb1
  refine ⟨.ref D1, rfl, b1, D1, _, _, rfl, rfl, upd_same, v1 _ _ hD17, sl_of (by simp only [List.length_map, List.length_take]; omega), fun b2 nb2 => ?_⟩
  have v2 := same_new (o := .lst ((ds.take k).map nv ++ us.map (fun e => nv (x + e)))) nb2
  refine ⟨.ref a1, rfl, nv k, rfl, k, 1, rfl, rfl, (k : Int) + 1, rfl, a1, _, rfl, (v1.trans v2).seq r1, fun b3 nb3 => ?_⟩
  rw [ek1, cut_nv_from]
  have v3 := same_new (o := .lst ((ds.drop (k + 1)).map nv)) nb3
  refine ⟨b2, b3, _, _, rfl, rfl, v3 _ _ upd_same, upd_same, sl_of (by simp only [List.length_append, List.length_map, List.length_take, List.length_drop]; omega), fun b4 nb4 => ?_⟩
  rw [eA]
  have v4 := same_new (o := .lst ((ds.take k ++ us.map (x + ·) ++ ds.drop (k + 1)).map nv)) nb4
  have v14 := ((v1.trans v2).trans v3).trans v4
  refine ⟨.ref a2, rfl, nv k, rfl, k, rfl, a2, _, rfl, v14.seq r2, fun b5 nb5 => ?_⟩
  rw [cut_nv_to]
  have v5 := same_new (o := .lst ((es.take k).map nv)) nb5
  refine ⟨.ref D2, rfl, b5, D2, _, _, rfl, rfl, upd_same, (v14.trans v5) _ _ hD2, sl_of (by simp only [List.length_map, List.length_take]; omega), fun b6 nb6 => ?_⟩
  have v6 := same_new (o := .lst ((es.take k).map nv ++ ws.map (fun e => nv (y + e)))) nb6
  refine ⟨.ref a2, rfl, nv k, rfl, k, 1, rfl, rfl, (k : Int) + 1, rfl, a2, _, rfl, ((v14.trans v5).trans v6).seq r2, fun b7 nb7 => ?_⟩
  rw [ek1, cut_nv_from]
  have v7 := same_new (o := .lst ((es.drop (k + 1)).map nv)) nb7
  refine ⟨b6, b7, _, _, rfl, rfl, v7 _ _ upd_same, upd_same, sl_of (by simp only [List.length_append, List.length_map, List.length_take, List.length_drop]; omega), fun b8 nb8 => ?_⟩
  rw [eB]
  have v8 := same_new (o := .lst ((es.take k ++ ws.map (y + ·) ++ es.drop (k + 1)).map nv)) nb8
  refine ⟨(by show 2 ≤ sizeLine; decide), fun b9 nb9 => ?_⟩
  have v9 := same_new (o := .tup [.ref b4, .ref b8]) nb9
  have m1 := len_put (u := us.map (x + ·)) hk
  have m2 := len_put (u := ws.map (y + ·)) hke
  rw [List.length_map] at m1 m2
  have v58 := ((v5.trans v6).trans v7).trans v8
  have eq := two.same
  refine q (.ref b9) _ _ _ (((t17.trans v14).trans v58).trans v9) ⟨⟨b9, b4, b8, rfl, tup_of upd_same, (v58.trans v9).seq (lst_of upd_same), v9.seq (lst_of upd_same)⟩, two.one.put gu hx bus hxs (by omega), two.other.put gw hy bws hys (by omega), by omega⟩
/-! ### _law_drawn -/
def spDrawn (K : PySem.W.Frag) : Sp := fun vs H Q _ => ∃ (a : Addr) (ns : List Int), vs = [.ref a] ∧ SqL K H a (ns.map V.int) ∧ ∀ v ds es H', Same H H' → Two K H' v ds es → Q v H'
theorem ok_drawn {f l d b : Addr} {fd ld dd bd : FuncData} {lv : Nat} (F : Fun K "_law_drawn" "_law_drawn" sDrawn f fd)
    (GL : FnOk PR w K mg base CX0 (lv + 1) l ld ["_law_script", "_law_at", "_law_most"] (spLists K)) (bL : Binds K ld ["_law_script", "_law_at", "_law_most"] []) (kL : PySem.W.keepIn K (.ref l) = true) (mL : mg "_law_lists" = some (.ref l))
    (GD : FnOk PR w K mg base CX0 (lv + 1) d dd ["_law_script", "_law_at", "_law_many", "_law_m"] (spDraws K)) (bD : Binds K dd ["_law_script", "_law_at", "_law_many", "_law_m"] []) (kD : PySem.W.keepIn K (.ref d) = true) (mD : mg "_law_draws" = some (.ref d))
    (GB : FnOk PR w K mg base CX0 (lv + 1) b bd ["_law_lists_here", "_law_digits"] (spBump K)) (bB : Binds K bd ["_law_lists_here", "_law_digits"] []) (kB : PySem.W.keepIn K (.ref b) = true) (mB : mg "_law_bumped" = some (.ref b))
    (mr : mg "range" = none) : FnOk PR w K mg base CX0 (lv + 1 + 1) f fd ["_law_script"] (spDrawn K) := by
  refine F.ok scDrawn (fun vs H Q E h => ?_) (fun cdv A outer s H vs Q E hr h => ?_)
  · obtain ⟨a, ns, rfl, _⟩ := h
    rfl
  obtain ⟨a, ns, rfl, hS, q⟩ := h
  have nd := scDrawn.nd
  refine ⟨_, pss_cons (ps_set (i := 1) nd rfl (.inl rfl) (pe_call GL hr (by rfl) mL kL bL .nil pass0 (pa_cons (pv 0) (pa_cons pe_int (pa_cons pe_int pa_nil)))))
    (pss_cons (ps_set (i := 2) nd rfl (.inl rfl) (pe_call GD hr (by rfl) mD kD bD .nil pass0 (pa_cons (pv 0) (pa_cons pe_int (pa_cons pe_int (pa_cons pe_int pa_nil))))))
    (pss_cons (ps_if (pt_cmpR op_eq (pe_op op_mod (pe_ix ix_list (pv 2) pe_int (fun _ _ => rfl)) pe_int) pe_int (nomark _)) (pss_one (ps_ret (pv 1))) pss_nil)
    (pss_cons (ps_set (i := 1) nd rfl (.inl rfl) (pe_tup (pa_cons (pe_ix ix_tup (pv 1) pe_int (fun _ _ => rfl)) (pa_cons (pe_ix ix_tup (pv 1) pe_int (fun _ _ => rfl)) pa_nil))))
    (pss_cons (ps_for PassesOwn.never rfl (pi_range1 (by rfl) mr (pa_cons (pe_op op_mod (pe_ix ix_list (pv 2) pe_int (fun _ _ => rfl)) pe_int) pa_nil)) (pg_name (i := 3) nd rfl (.inl rfl))
        (pss_one (ps_set (i := 1) nd rfl (.inl rfl) (pe_call GB hr (by rfl) mB kB bB .nil pass0 (pa_cons (pv 1) (pa_cons (pe_slice sl_list (pv 2) (po_some (pe_op op_addN pe_int (pe_op op_mulN pe_int (pv 3)))) (po_some (pe_op op_addN pe_int (pe_op op_mulN pe_int (pv 3))))) pa_nil))))))
    (pss_one (ps_ret (pv 1))))))), ?_⟩
  refine ⟨.ref a, rfl, a, ns, 0, rfl, hS, fun v ds es H1 t1 two => ?_⟩
  refine ⟨.ref a, rfl, a, ns, 1, 50, rfl, t1.seq hS, by decide, fun p ws H2 t2 np hp hl hb => ?_⟩
  have two2 := two.mono t2
  have hw := lst_of (K := K) hp
  obtain ⟨w0, hw0⟩ : ∃ w0, ws[0]? = some w0 := ⟨ws[0], List.getElem?_eq_getElem (by omega)⟩
  obtain ⟨w1, hw1⟩ : ∃ w1, ws[1]? = some w1 := ⟨ws[1], List.getElem?_eq_getElem (by omega)⟩
  refine ⟨.ref p, rfl, p, _, 0, nv w0, rfl, rfl, hw, atI_nat (j := 0) (nvs_at hw0), w0, 2, rfl, rfl, (show (0 : Int) < 2 by decide), rfl, _, rfl, ite2 (fun _ => ⟨v, rfl, q v ds es H2 (t1.trans t2) two2⟩) (fun _ => ?_)⟩
  obtain ⟨pt, a1, a2, ev, qt, l1, l2⟩ := two2.at_
  subst ev
  refine ⟨.ref pt, rfl, pt, _, 0, _, rfl, rfl, qt, atI_nat (j := 0) rfl, .ref pt, rfl, pt, _, 0, _, rfl, rfl, qt, atI_nat (j := 0) rfl, (by show 2 ≤ sizeLine; decide), fun p3 np3 => ?_⟩
  have t3 := same_new (o := .tup [.ref a1, .ref a1]) np3
  have two3 : Two K (upd H2 p3 (.tup [.ref a1, .ref a1])) (.ref p3) ds ds := ⟨⟨p3, a1, a1, rfl, tup_of upd_same, t3.seq l1, t3.seq l1⟩, two2.one, two2.one, rfl⟩
  have j0 : (w1 : Int) % 5 = ((w1 % 5 : Nat) : Int) := rfl
  refine ⟨.ref p, rfl, p, _, 1, nv w1, rfl, rfl, t3.seq hw, atI_nat (j := 1) (nvs_at hw1), w1, 5, rfl, rfl, (show (0 : Int) < 5 by decide), (w1 : Int) % 5, rfl, by omega, by omega, ?_⟩
  refine for_range (lo := 0) (n := ((w1 : Int) % 5).toNat) (fun i σ H' => ∃ (v : V) (ds es : List Nat) (y3 : Option V), σ = [some (.ref a), some v, some (.ref p), y3] ∧ Same H2 H' ∧ Two K H' v ds es) ⟨_, ds, ds, none, rfl, t3, two3⟩ ?_ ?_
  · rintro i σ H' hi ⟨v', ds', es', y3, rfl, sm, two'⟩
    have hi4 : i ≤ 3 := by omega
    refine ⟨v', rfl, .ref p, rfl, V.int (0 + (i : Int)), rfl, 12, 0 + i, rfl, rfl, by decide, 2, 12 * (0 + i), rfl, rfl, _, rfl, V.int (0 + (i : Int)), rfl, 12, 0 + i, rfl, rfl, by decide, 14, 12 * (0 + i), rfl, rfl, _, rfl, p, _, rfl, sm.seq hw, fun p4 np4 => ?_⟩
    rw [cut_nv_mid ws (i := 2 + 12 * (0 + i)) (j := 14 + 12 * (0 + i)) (by omega) (by omega)]
    have t4 := same_new (o := .lst (((ws.drop (2 + 12 * (0 + i))).take (14 + 12 * (0 + i) - (2 + 12 * (0 + i)))).map nv)) np4
    refine ⟨v', p4, ds', es', _, rfl, two'.mono t4, lst_of upd_same, by rw [List.length_take, List.length_drop]; omega, fun v5 d5 e5 H5 t5 two5 => ?_⟩
    exact ⟨v5, d5, e5, _, rfl, (sm.trans t4).trans t5, two5⟩
  · rintro σ H' ⟨v', ds', es', y3, rfl, sm, two'⟩
    exact ⟨v', rfl, q v' ds' es' H' ((t1.trans t2).trans sm) two'⟩
end
end Hw
/-! _law_pairs_of, _law_point -/
namespace Hw
open PySem PySem.Spec PyProof.Rows L2
open Evl (pss_cut)
/-- where leaf i begins -/
def cat (ds : List Nat) (i : Nat) : Nat := endD 0 (ds.take i)
theorem cat_succ {ds : List Nat} {i d : Nat} (h : ds[i]? = some d) : cat ds (i + 1) = cat ds i + U d := by
  obtain ⟨hi, e⟩ := List.getElem?_eq_some_iff.mp h
  unfold cat
  rw [← List.take_append_getElem hi, endD_app, e]
  rfl
theorem endD_ge : ∀ (ds : List Nat) (x : Nat), x ≤ endD x ds
  | [], x => Nat.le_refl _
  | d :: ds, x => Nat.le_trans (Nat.le_add_right _ _) (endD_ge ds (x + U d))
theorem cat_le {ds : List Nat} (g : Good ds) (i : Nat) : cat ds i ≤ 2 ^ 400 := by
  rw [← tree_end g]
  have e : endD 0 ds = endD (cat ds i) (ds.drop i) := by
    unfold cat
    rw [← endD_app, List.take_append_drop]
  rw [e]
  exact endD_ge _ _
theorem pow_cut {N d : Nat} (h : d ≤ N) : (2 : Int) ^ N / 2 ^ d = ((2 ^ (N - d) : Nat) : Int) := by
  rw [← PySem.W.kbt_cast N, ← PySem.W.kbt_cast d, ← Int.natCast_ediv, Nat.pow_div h (by decide)]
theorem add_U {x d N : Nat} (h : d ≤ N) : V.int ((x : Int) + (2 : Int) ^ N / 2 ^ d) = nv (x + 2 ^ (N - d)) := by
  rw [pow_cut h, ← Int.natCast_add]
section
variable {PR : Program} {w : World} {K : PySem.W.Frag} {mg : Str → Option Value} {base : Heap}
def spPairs (K : PySem.W.Frag) : Sp := fun vs H Q _ => ∃ (v : V) (ds es : List Nat), vs = [v] ∧ Two K H v ds es ∧
  ∀ p xs H', Same H H' → H' p = some (.lst xs) → (∀ j, j ≤ ds.length → ∃ v, xs[j]? = some v ∧ Dp K H' v (pdat (cat ds j, cat es j))) → Q (.ref p) H'
theorem ok_pairs {f : Addr} {fd : FuncData} {lv : Nat} (F : Fun K "_law_pairs_of" "_law_pairs_of" sPairs f fd) (mz : mg "zip" = none) : FnOk PR w K mg base CX0 (lv + 1) f fd ["_law_lists_here"] (spPairs K) := by
  refine F.ok scPairs (fun vs H Q E h => ?_) (fun cdv A outer s H vs Q E hr h => ?_)
  · obtain ⟨v, ds, es, rfl, _⟩ := h
    rfl
  obtain ⟨v, ds, es, rfl, two, q⟩ := h
  have nd := scPairs.nd
  refine ⟨_, pss_cons (ps_set (i := 1) nd rfl (.inl rfl) (pe_op op_oneShl pe_int pe_int))
    (pss_cons (ps_set (i := 2) nd rfl (.inl rfl) (pe_lst (pa_cons (pe_tup (pa_cons pe_int (pa_cons pe_int pa_nil))) pa_nil)))
    (pss_cons (ps_for PassesOwn.never rfl (pi_zip (by rfl) mz (pa_cons (pe_ix ix_tup (pv 0) pe_int (fun _ _ => rfl)) (pa_cons (pe_ix ix_tup (pv 0) pe_int (fun _ _ => rfl)) pa_nil)))
        (pg_tup rfl (pgs_cons (pg_name (i := 3) nd rfl (.inl rfl)) (pgs_cons (pg_name (i := 4) nd rfl (.inl rfl)) pgs_nil)))
      (pss_cons (ps_asg (pe_ix ix_list (pv 2) (pe_un un_neg pe_int) (fun _ _ => rfl)) (pg_tup rfl (pgs_cons (pg_name (i := 5) nd rfl (.inl rfl)) (pgs_cons (pg_name (i := 6) nd rfl (.inl rfl)) pgs_nil))))
      (pss_one (ps_expr (pe_bm PySem.F.plainAttrs_list PySem.F.slot_list_append PySem.F.type_list_append mt_append (pv 2)
        (pa_cons (pe_tup (pa_cons (pe_op op_add (pv 5) (pe_op op_shrN (pv 1) (pv 3))) (pa_cons (pe_op op_add (pv 6) (pe_op op_shrN (pv 1) (pv 4))) pa_nil))) pa_nil))))))
    (pss_one (ps_ret (pv 2))))), ?_⟩
  obtain ⟨p, a1, a2, rfl, qp, q1, q2⟩ := two.at_
  refine ⟨400, rfl, rfl, by decide, ?_⟩
  refine ⟨(by show 2 ≤ sizeLine; decide), fun e ne => ?_⟩
  have se := same_new (o := .tup [V.int 0, V.int 0]) ne
  refine ⟨(by show 1 ≤ sizeLine; decide), fun o no => ?_⟩
  have so := same_new (o := .lst [V.ref e]) no
  have s1 := se.trans so
  have no0 : H o = none := se.free no
  have he : upd (upd H e (.tup [V.int 0, V.int 0])) o (.lst [V.ref e]) e = some (.tup [V.int 0, V.int 0]) := so _ _ upd_same
  refine ⟨.ref p, rfl, p, _, 0, _, rfl, rfl, same_tup s1 qp, atI_nat (j := 0) rfl, .ref p, rfl, p, _, 1, _, rfl, rfl, same_tup s1 qp, atI_nat (j := 1) rfl, a1, a2, _, _, rfl, s1.seq q1, s1.seq q2, ?_⟩
  refine RZ.for_zipL (xs := ds.map nv) (ys := es.map nv) (by rw [nvs_len, nvs_len]; exact two.same)
    (fun i σ H1 => ∃ (y3 y4 y5 y6 : Option V) (vs : List V), σ = [some (.ref p), some (.int (2 ^ 400)), some (.ref o), y3, y4, y5, y6] ∧ Same H H1 ∧ H1 o = some (.lst vs) ∧ vs.length = i + 1 ∧
      ∀ j, j ≤ i → ∃ v, vs[j]? = some v ∧ Dp K H1 v (pdat (cat ds j, cat es j)))
    ⟨none, none, none, none, [V.ref e], rfl, s1, upd_same, rfl, fun j hj => ?_⟩ (fun i σ H1 ⟨_, _, _, _, _, _, sm, _⟩ => ⟨sm.seq q1, sm.seq q2⟩) ?_ ?_
  · obtain rfl : j = 0 := by omega
    exact ⟨_, rfl, dp_mk2 (tup_of he) (.int _) (.int _)⟩
  · rintro i x y T σ H1 hx hy ⟨y3, y4, y5, y6, vs, rfl, sm, ho, hl, hw⟩ nT
    obtain ⟨hi, ex⟩ := List.getElem?_eq_some_iff.mp hx
    obtain ⟨hi2, ey⟩ := List.getElem?_eq_some_iff.mp hy
    rw [nvs_len] at hi hi2
    rw [List.getElem_map] at ex ey
    have gd : ds[i]? = some ds[i] := List.getElem?_eq_getElem hi
    have ge : es[i]? = some es[i] := List.getElem?_eq_getElem hi2
    have dd : ds[i] ≤ 400 := Nat.le_trans (two.one.deep _ (List.getElem_mem hi)) (by decide)
    have de : es[i] ≤ 400 := Nat.le_trans (two.other.deep _ (List.getElem_mem hi2)) (by decide)
    have sT : Same H1 (upd H1 T (.tup [x, y])) := same_new nT
    obtain ⟨vl, hvl, dvl⟩ := hw i (Nat.le_refl _)
    obtain ⟨al, vx, vy, el, ql, dx, dy⟩ := dp_two (dp_mono sT dvl)
    have evx := dp_int dx
    have evy := dp_int dy
    subst evx evy el ex ey
    have lst1 : vs = vs.dropLast ++ [V.ref al] := by
      obtain ⟨hj, e2⟩ := List.getElem?_eq_some_iff.mp hvl
      have ne' : vs ≠ [] := fun z => by
        rw [z] at hl
        exact nomatch hl
      have e3 : vs.getLast ne' = V.ref al := by
        rw [List.getLast_eq_getElem]
        have e4 : vs.length - 1 = i := by omega
        simp only [e4]
        exact e2
      rw [← e3, List.dropLast_concat_getLast]
    have atl : atI vs (-1) = some (V.ref al) := by
      rw [lst1]
      exact atI_last _ _
    refine ⟨T, _, rfl, tup_of upd_same, rfl, _, _, rfl, _, [], rfl, rfl, ?_⟩
    refine ⟨.ref o, rfl, 1, rfl, o, vs, -1, .ref al, rfl, rfl, lst_of (sT _ _ ho), atl, al, _, rfl, ql, rfl, _, _, rfl, _, [], rfl, rfl, ?_⟩
    refine ⟨.ref o, rfl, .inl ⟨rfl, _, lst_of (sT _ _ ho)⟩, _, rfl, _, rfl, nv ds[i], rfl, _, ds[i], rfl, rfl, _, _, rfl, rfl, _, rfl, _, rfl, nv es[i], rfl, _, es[i], rfl, rfl, _, _, rfl, rfl, (by show 2 ≤ sizeLine; decide), fun g ng => ?_⟩
    have e1 : V.int ((cat ds i : Int) + (2 : Int) ^ 400 / 2 ^ ds[i]) = nv (cat ds (i + 1)) := by
      rw [cat_succ gd]
      exact add_U dd
    have e2 : V.int ((cat es i : Int) + (2 : Int) ^ 400 / 2 ^ es[i]) = nv (cat es (i + 1)) := by
      rw [cat_succ ge]
      exact add_U de
    have eT : (HO.tup [V.int ((cat ds i : Int) + (2 : Int) ^ 400 / 2 ^ ds[i]), V.int ((cat es i : Int) + (2 : Int) ^ 400 / 2 ^ es[i])]) = .tup [nv (cat ds (i + 1)), nv (cat es (i + 1))] := by rw [e1, e2]
    have sg := same_new (o := .tup [V.int ((cat ds i : Int) + (2 : Int) ^ 400 / 2 ^ ds[i]), V.int ((cat es i : Int) + (2 : Int) ^ 400 / 2 ^ es[i])]) ng
    have s2 := sT.trans sg
    have ho2 := s2 _ _ ho
    have sz := two.one.size
    refine ⟨o, vs, .ref g, rfl, rfl, ho2, sl_lt (by omega), _, _, _, _, vs ++ [.ref g], rfl, same_mut (sm.trans s2) no0, upd_same, by rw [List.length_append, hl]; rfl, fun j hj => ?_⟩
    have bg : But o (upd (upd H1 T (.tup [nv ds[i], nv es[i]])) g (.tup [V.int ((cat ds i : Int) + (2 : Int) ^ 400 / 2 ^ ds[i]), V.int ((cat es i : Int) + (2 : Int) ^ 400 / 2 ^ es[i])]))
        (upd (upd (upd H1 T (.tup [nv ds[i], nv es[i]])) g (.tup [V.int ((cat ds i : Int) + (2 : Int) ^ 400 / 2 ^ ds[i]), V.int ((cat es i : Int) + (2 : Int) ^ 400 / 2 ^ es[i])])) o (.lst (vs ++ [.ref g]))) := But.refl.upd
    by_cases c : j ≤ i
    · obtain ⟨vj, hvj, dvj⟩ := hw j c
      exact ⟨vj, by rw [List.getElem?_append_left (by omega)]; exact hvj, dp_but bg ho2 rfl (dp_mono s2 dvj)⟩
    · have ej : j = i + 1 := by omega
      subst ej
      refine ⟨.ref g, by rw [List.getElem?_append_right (by omega), hl, Nat.sub_self]; rfl, dp_but bg ho2 rfl ?_⟩
      refine dp_mk2 (v1 := nv (cat ds (i + 1))) (v2 := nv (cat es (i + 1))) (tup_of ?_) (.int _) (.int _)
      rw [upd_same, eT]
  · rintro σ H1 ⟨y3, y4, y5, y6, vs, rfl, sm, ho, hl, hw⟩
    rw [nvs_len] at hw
    exact ⟨.ref o, rfl, q o vs H1 sm ho hw⟩
/-! ### _law_point -/
def spLpt (K : PySem.W.Frag) : Sp := fun vs H Q _ => ∃ x : Nat, vs = [nv x] ∧ x ≤ 2 ^ 400 ∧ ∀ p, H p = none → Q (.ref p) (upd H p (.tup [nv (lp x).1, nv (lp x).2]))
theorem band_low {o v : Nat} (ho : o % 2 = 1) : Builtin.bitAnd ((o * 2 ^ v : Nat) : Int) (-((o * 2 ^ v : Nat) : Int)) = ((2 ^ v : Nat) : Int) := by
  have p : 0 < o * 2 ^ v := Nat.mul_pos (by omega) (Nat.two_pow_pos v)
  rw [bitAnd_pn (by omega) (by omega)]
  have e : (Builtin.bitNot (-((o * 2 ^ v : Nat) : Int))).toNat = o * 2 ^ v - 1 := by
    show (-(-((o * 2 ^ v : Nat) : Int)) - 1).toNat = _
    omega
  rw [e, Int.toNat_natCast]
  have h := low_bit (o := o) (v := v) ho
  have le : (o * 2 ^ v) &&& (o * 2 ^ v - 1) ≤ o * 2 ^ v := Nat.and_le_left
  omega
theorem bits_pow (v : Nat) : Builtin.Int.intBits ((2 ^ v : Nat) : Int) = v + 1 := by
  have p := Nat.two_pow_pos v
  unfold Builtin.Int.intBits
  rw [if_neg (fun e => absurd (Int.natCast_eq_zero.mp (eq_of_beq e)) (Nat.ne_of_gt p)), Int.natAbs_natCast, Nat.log2_two_pow]
theorem pow_le_iff {v N : Nat} (h : 2 ^ v ≤ 2 ^ N) : v ≤ N := (Nat.pow_le_pow_iff_right (by decide)).mp h
theorem ok_lpt {f : Addr} {fd : FuncData} {lv : Nat} (F : Fun K "_law_point" "_law_point" sLpt f fd) : FnOk PR w K mg base CX0 (lv + 1) f fd ["_law_x"] (spLpt K) := by
  refine F.ok scLpt (fun vs H Q E h => ?_) (fun cdv A outer s H vs Q E hr h => ?_)
  · obtain ⟨x, rfl, _⟩ := h
    rfl
  obtain ⟨x, rfl, hx, q⟩ := h
  have nd := scLpt.nd
  refine ⟨_, pss_cons (ps_if (pt_cmpR op_eq (pv 0) pe_int (nomark _)) (pss_one (ps_ret (pe_tup (pa_cons pe_int (pa_cons pe_int pa_nil))))) pss_nil)
    (pss_cut (ps_set (i := 1) nd rfl (.inl rfl) (pe_op op_and (pv 0) (pe_un un_neg (pv 0))))
    (pss_one (ps_ret (pe_tup (pa_cons (pe_op op_fdivW (pv 0) (pv 1)) (pa_cons (pe_op op_sub pe_int (pe_bits (pv 1))) pa_nil)))))), ?_⟩
  refine ⟨nv x, rfl, rfl, _, rfl, ite2 (fun c => ?_) (fun c => ?_)⟩
  · have z : x = 0 := by
      have := V.int.inj (of_decide_eq_true c)
      omega
    subst z
    refine ⟨(by show 2 ≤ sizeLine; decide), fun p np => ?_⟩
    have e := q p np
    have el : lp 0 = (0, 0) := pt_zero 400
    rw [el] at e
    exact e
  · have c' : ¬ nv x = V.int 0 := of_decide_eq_false (Bool.eq_false_iff.mpr c)
    have x0 : 0 < x := Nat.pos_of_ne_zero fun z => c' (by rw [z]; rfl)
    obtain ⟨o, v, ev, ho⟩ := odd_part x x (Nat.le_refl _) x0
    have v4 : v ≤ 400 := by
      refine pow_le_iff (Nat.le_trans ?_ hx)
      rw [ev]
      exact Nat.le_mul_of_pos_left _ (by omega)
    have el : lp x = (o, 400 - v) := by
      unfold lp
      rw [ev, pt_odd ho v4]
    refine ⟨fun σ' H' => σ' = [some (nv x), some (nv (2 ^ v))] ∧ H' = H, ⟨nv x, rfl, nv x, rfl, x, rfl, x, _, rfl, rfl, ?_, rfl⟩, ?_⟩
    · show [some (nv x), some (V.int (Builtin.bitAnd (x : Int) (-(x : Int))))] = _
      rw [ev, band_low ho]
    rintro σ' H' ⟨rfl, rfl⟩
    have p2 := Nat.two_pow_pos v
    refine ⟨nv x, rfl, nv (2 ^ v), rfl, x, ((2 ^ v : Nat) : Int), rfl, rfl, ⟨Int.natCast_pos.mpr p2, by rw [Int.natAbs_natCast, Nat.log2_two_pow]; omega⟩, nv (2 ^ v), rfl, _, rfl, 401, _, rfl, rfl, (by show 2 ≤ sizeLine; decide), fun p np => ?_⟩
    have e1 : V.int ((x : Int) / ((2 ^ v : Nat) : Int)) = nv o := by
      rw [← Int.natCast_ediv, ev, Nat.mul_div_cancel _ p2]
    have e2 : V.int (401 - ((Builtin.Int.intBits ((2 ^ v : Nat) : Int) : Nat) : Int)) = nv (400 - v) := by
      rw [bits_pow]
      exact congrArg V.int (by omega)
    have e := q p np
    rw [el] at e
    show Q (.ref p) (upd H' p (.tup [V.int ((x : Int) / ((2 ^ v : Nat) : Int)), V.int (401 - ((Builtin.Int.intBits ((2 ^ v : Nat) : Int) : Nat) : Int))]))
    rw [e1, e2]
    exact e
end
end Hw
/-! _law_due -/
namespace Hw
open PySem PySem.Spec PyProof.Rows L2
open Evl (pss_cut)
/-- a loop over enumerate(zip(xs, ys)), two lists of one length -/
theorem for_ez {K : PySem.W.Frag} {a b : Addr} {xs ys : List V} {g : TG} {tb : TS} {D : Ends} {σ : L2.St} {H : Hp} (hl : xs.length = ys.length) (Pv : Nat → L2.St → Hp → Prop) (h0 : Pv 0 σ H) (hq : ∀ i σ H, Pv i σ H → SqL K H a xs ∧ SqL K H b ys)
    (hs : ∀ (i : Nat) (x y : V) (T T2 : Addr) (σ : L2.St) (H : Hp), xs[i]? = some x → ys[i]? = some y → Pv i σ H → H T2 = none → upd H T2 (.tup [x, y]) T = none →
      g (.ref T) σ (upd (upd H T2 (.tup [x, y])) T (.tup [.int (i : Nat), .ref T2])) fun σ2 H2 => tb { D with nx := Pv (i + 1), ct := Pv (i + 1), bk := D.nx } σ2 H2) (hd : ∀ σ H, Pv xs.length σ H → D.nx σ H) :
    ∃ W : Nat → Nat → L2.St → Hp → Prop, (∃ m, W 0 m σ H) ∧ ∀ i m σ H, W i m σ H →
      ((Itez K a b).stop i H ∧ D.nx σ H) ∨ ((Itez K a b).go i H ∧ ∃ N : L2.St → Hp → Prop, (∀ σ' H', N σ' H' → ∃ m', m' < m ∧ W (i + 1) m' σ' H') ∧ ∀ v H', (Itez K a b).yld i H v H' → g v σ H' fun σ2 H2 => tb { D with nx := N, ct := N, bk := D.nx } σ2 H2) := by
  refine ⟨fun i m σ H => i + m = xs.length ∧ Pv i σ H, ⟨xs.length, Nat.zero_add _, h0⟩, fun i m σ H hW => ?_⟩
  obtain ⟨em, p⟩ := hW
  obtain ⟨qx, qy⟩ := hq i σ H p
  by_cases c : i < xs.length
  · have hx : xs[i]? = some xs[i] := List.getElem?_eq_getElem c
    have hy : ys[i]? = some (ys[i]'(by omega)) := List.getElem?_eq_getElem (by omega)
    refine .inr ⟨⟨xs, ys, _, _, qx, qy, hx, hy⟩, Pv (i + 1), fun σ' H' p' => ⟨m - 1, by omega, by omega, p'⟩, fun v H' hy' => ?_⟩
    obtain ⟨T, T2, x', y', rfl, n2, n1, rfl, f1, f2⟩ := hy'
    exact hs i x' y' T T2 σ H (f1 xs qx) (f2 ys qy) p n2 n1
  · have e : i = xs.length := by omega
    rw [e] at p
    exact .inl ⟨⟨xs, ys, qx, qy, .inl (by omega)⟩, hd σ H p⟩
theorem dps_of {K : PySem.W.Frag} {H : Hp} : ∀ {ds : List PyData} {vs : List V}, vs.length = ds.length → (∀ (i : Nat) v d, vs[i]? = some v → ds[i]? = some d → Dp K H v d) → DpAll K H vs ds
  | [], [], _, _ => .nil
  | d :: ds, v :: vs, hl, h => .cons (h 0 v d rfl rfl) (dps_of (Nat.succ.inj hl) fun i v' d' h1 h2 => h (i + 1) v' d' h1 h2)
theorem dueL_drop {ds es : List Nat} {i d e : Nat} (f : List (Nat × Nat)) (x y : Nat) (hd : ds[i]? = some d) (he : es[i]? = some e) : dueL f x y (ds.drop i) (es.drop i) = dueL (dstep f x y d e) (x + U d) (y + U e) (ds.drop (i + 1)) (es.drop (i + 1)) := by
  obtain ⟨h1, e1⟩ := List.getElem?_eq_some_iff.mp hd
  obtain ⟨h2, e2⟩ := List.getElem?_eq_some_iff.mp he
  rw [List.drop_eq_getElem_cons h1, List.drop_eq_getElem_cons h2, e1, e2]
  rfl
theorem flat_len : ∀ f : List (Nat × Nat), (flat f).length = 2 * f.length
  | [] => rfl
  | a :: f => by
    show (flat f).length + 1 + 1 = 2 * (f.length + 1)
    rw [flat_len f]
    omega
theorem mem_flatO : ∀ {f : List (Nat × Nat)} {m : Nat}, m ∈ flatO f → ∃ a, a ∈ f ∧ (m = a.1 ∨ m = a.2)
  | a :: f, m, h => by
    rcases List.mem_cons.mp h with h | h
    · exact ⟨a, List.mem_cons_self, .inl h⟩
    · rcases List.mem_cons.mp h with h | h
      · exact ⟨a, List.mem_cons_self, .inr h⟩
      · obtain ⟨b, hb, e⟩ := mem_flatO h
        exact ⟨b, List.mem_cons_of_mem _ hb, e⟩
def Lo (f : List (Nat × Nat)) : Prop := ∀ a, a ∈ f → a.1 ≤ 2 ^ 400 ∧ a.2 ≤ 2 ^ 400
theorem Lo.put {f : List (Nat × Nat)} {x z : Nat} (h : Lo f) (hx : x ≤ 2 ^ 400) (hz : z ≤ 2 ^ 400) : Lo (dputP f x z) := by
  cases f with
  | nil =>
    intro a ha
    rw [List.mem_singleton.mp ha]
    exact ⟨hx, hz⟩
  | cons b f =>
    intro a ha
    have hb := h b List.mem_cons_self
    have ha' : a ∈ (if b.2 = x then (b.1, z) :: f else (x, z) :: b :: f) := ha
    split at ha'
    · rcases List.mem_cons.mp ha' with r | r
      · rw [r]
        exact ⟨hb.1, hz⟩
      · exact h a (List.mem_cons_of_mem _ r)
    · rcases List.mem_cons.mp ha' with r | r
      · rw [r]
        exact ⟨hx, hz⟩
      · exact h a r
section
variable {PR : Program} {w : World} {K : PySem.W.Frag} {mg : Str → Option Value} {base : Heap}
def spDue (K : PySem.W.Frag) : Sp := fun vs H Q _ => ∃ (v : V) (ds es : List Nat), vs = [v] ∧ Two K H v ds es ∧
  ∀ p xs H', Same H H' → H' p = some (.lst xs) → DpAll K H' xs (((dueL [] 0 0 ds es).reverse.map lp2).map rdat) → Q (.ref p) H'
theorem ok_due {f g l : Addr} {fd gd ld : FuncData} {lv : Nat} (F : Fun K "_law_due" "_law_due" sDue f fd)
    (GP : FnOk PR w K mg base CX0 (lv + 1) g gd ["_law_lists_here"] (spPairs K)) (bP : Binds K gd ["_law_lists_here"] []) (kP : PySem.W.keepIn K (.ref g) = true) (mP : mg "_law_pairs_of" = some (.ref g))
    (GL : FnOk PR w K mg base CX0 (lv + 1) l ld ["_law_x"] (spLpt K)) (bL : Binds K ld ["_law_x"] []) (kL : PySem.W.keepIn K (.ref l) = true) (mL : mg "_law_point" = some (.ref l))
    (me : mg "enumerate" = none) (mz : mg "zip" = none) (ml : mg "len" = none) (mt : mg "list" = none) : FnOk PR w K mg base CX0 (lv + 1 + 1) f fd ["_law_lists_here"] (spDue K) := by
  refine F.ok scDue (fun vs H Q E h => ?_) (fun cdv A outer s H vs Q E hr h => ?_)
  · obtain ⟨v, ds, es, rfl, _⟩ := h
    rfl
  obtain ⟨v, ds, es, rfl, two, q⟩ := h
  have nd := scDue.nd
  refine ⟨_, pss_cons (ps_set (i := 1) nd rfl (.inl rfl) (pe_lst pa_nil))
    (pss_cons (ps_set (i := 2) nd rfl (.inl rfl) (pe_call GP hr (by rfl) mP kP bP .nil pass0 (pa_cons (pv 0) pa_nil)))
    (pss_cons (ps_for PassesOwn.never rfl (pi_ez (by rfl) me (by rfl) mz (pa_cons (pe_ix ix_tup (pv 0) pe_int (fun _ _ => rfl)) (pa_cons (pe_ix ix_tup (pv 0) pe_int (fun _ _ => rfl)) pa_nil)))
        (pg_tup rfl (pgs_cons (pg_name (i := 3) nd rfl (.inl rfl)) (pgs_cons (pg_tup rfl (pgs_cons (pg_name (i := 4) nd rfl (.inl rfl)) (pgs_cons (pg_name (i := 5) nd rfl (.inl rfl)) pgs_nil))) pgs_nil)))
      (pss_cons (ps_asg (pe_ix ix_list (pv 2) (pv 3) (fun _ _ => rfl)) (pg_tup rfl (pgs_cons (pg_name (i := 6) nd rfl (.inl rfl)) (pgs_cons (pg_name (i := 7) nd rfl (.inl rfl)) pgs_nil))))
      (pss_one (ps_if (PW.pt (pw_and (pt_cmpR op_eq (pv 6) (pv 7) (nomark _)) (pw_and1 (pt_cmpR op_eq (pv 4) (pv 5) (nomark _)))))
        (pss_cut (ps_if (PW.pt (pw_and (pt_cmpR op_gt (pe_callB call_len_seq (by rfl) ml PySem.boot_len (pa_cons (pv 1) pa_nil)) pe_int (nomark _)) (pw_and1 (pt_cmpR op_eq (pe_ix ix_list (pv 1) (pe_un un_neg pe_int) (fun _ _ => rfl)) (pv 6) (nomark _)))))
            (pss_one (ps_expr (pe_bm0 PySem.F.plainAttrs_list PySem.F.slot_list_pop PySem.F.type_list_pop mt_pop (pv 1))))
            (pss_one (ps_expr (pe_bm PySem.F.plainAttrs_list PySem.F.slot_list_append PySem.F.type_list_append mt_append (pv 1) (pa_cons (pv 6) pa_nil)))))
          (pss_one (ps_expr (pe_bm PySem.F.plainAttrs_list PySem.F.slot_list_append PySem.F.type_list_append mt_append (pv 1)
            (pa_cons (pe_ix ix_tup (pe_ix ix_list (pv 2) (pe_op op_add (pv 3) pe_int) (fun _ _ => rfl)) pe_int (fun _ _ => rfl)) pa_nil)))))
        pss_nil))))
    (pss_cons (ps_setLc (i := 8) (own := [("_law_x", 6)]) (g := gName 6) (tt := tYes) rfl nd rfl rfl (sw_true rfl rfl rfl (by decide +kernel)) (pi_list (pv 1))
        (blkOk_by (N := ["_law_lists_here", "_law_marks", "_law_pairs", "_law_k", "_law_d", "_law_e", "_law_x", "_law_y", "_law_points"]) (sc := defScope sDue) (by decide +kernel))
        (fun _ _ _ _ _ => pg_name (i := 6) nd rfl (Or.inl rfl)) (fun _ _ _ _ _ => pts_nil) (fun _ _ _ _ _ => pe_call GL hr (by rfl) mL kL bL .nil pass0 (pa_cons (pv 6) pa_nil)))
    (pss_one (ps_ret (pe_lz rfl (by rfl) mt (by rfl) mz (pa_cons (pe_even (pv 8)) (pa_cons (pe_odd (pv 8)) pa_nil)))))))), ?_⟩
  obtain ⟨p, a1, a2, rfl, qp, q1, q2⟩ := two.at_
  have sz := two.one.size
  have sam := two.same
  -- marks, pairs
  refine ⟨Nat.zero_le _, fun o no => ?_⟩
  have s0 := same_new (o := .lst []) no
  refine ⟨.ref p, rfl, .ref p, ds, es, rfl, two.mono s0, fun b ps H1 t1 hb hps => ?_⟩
  have s1 := s0.trans t1
  have ho1 : H1 o = some (.lst []) := t1 _ _ upd_same
  have nob : b ≠ o → True := fun _ => trivial
  have hb0 : ps.length ≠ 0 := fun z => by
    obtain ⟨v0, h0, _⟩ := hps 0 (Nat.zero_le _)
    have := (List.getElem?_eq_some_iff.mp h0).1
    omega
  have bo : b ≠ o := fun e => by
    rw [e, ho1] at hb
    cases hb
    exact hb0 rfl
  refine ⟨.ref p, rfl, p, _, 0, _, rfl, rfl, same_tup s1 qp, atI_nat (j := 0) rfl, .ref p, rfl, p, _, 1, _, rfl, rfl, same_tup s1 qp, atI_nat (j := 1) rfl, a1, a2, _, _, rfl, s1.seq q1, s1.seq q2, ?_⟩
  refine for_ez (xs := ds.map nv) (ys := es.map nv) (by rw [nvs_len, nvs_len]; exact sam)
    (fun i σ H2 => ∃ (y3 y4 y5 y6 y7 : Option V) (f : List (Nat × Nat)), σ = [some (.ref p), some (.ref o), some (.ref b), y3, y4, y5, y6, y7, none] ∧ But o H1 H2 ∧ H2 o = some (.lst ((flat f).reverse.map nv)) ∧
      f.length ≤ i ∧ i ≤ 60 ∧ Lo f ∧ dueL f (cat ds i) (cat es i) (ds.drop i) (es.drop i) = dueL [] 0 0 ds es)
    ⟨none, none, none, none, none, [], rfl, But.refl, ho1, Nat.le_refl _, by decide, (fun a ha => nomatch ha), rfl⟩
    (fun i σ H2 ⟨_, _, _, _, _, _, _, bt, _⟩ => ⟨(But.same s1 no bt).seq q1, (But.same s1 no bt).seq q2⟩) ?_ ?_
  · rintro i x0 y0 T T2 σ H2 hx hy ⟨y3, y4, y5, y6, y7, f, rfl, bt, ho, hfl, hi60, hlo, hr1⟩ n2 n1
    obtain ⟨hi, ex⟩ := List.getElem?_eq_some_iff.mp hx
    obtain ⟨hi2, ey⟩ := List.getElem?_eq_some_iff.mp hy
    rw [nvs_len] at hi hi2
    rw [List.getElem_map] at ex ey
    subst ex ey
    have gd : ds[i]? = some ds[i] := List.getElem?_eq_getElem hi
    have ge : es[i]? = some es[i] := List.getElem?_eq_getElem hi2
    rw [dueL_drop f _ _ gd ge, ← cat_succ gd, ← cat_succ ge] at hr1
    have t2 := same_new (o := .tup [nv ds[i], nv es[i]]) n2
    have t3 := same_new (o := .tup [V.int (i : Nat), V.ref T2]) n1
    have t23 := t2.trans t3
    have hT2 : upd (upd H2 T2 (.tup [nv ds[i], nv es[i]])) T (.tup [V.int (i : Nat), V.ref T2]) T2 = some (.tup [nv ds[i], nv es[i]]) := t3 _ _ upd_same
    have hT : upd (upd H2 T2 (.tup [nv ds[i], nv es[i]])) T (.tup [V.int (i : Nat), V.ref T2]) T = some (.tup [V.int (i : Nat), V.ref T2]) := upd_same
    have bt3 : But o H1 (upd (upd H2 T2 (.tup [nv ds[i], nv es[i]])) T (.tup [V.int (i : Nat), V.ref T2])) := bt.trans (same_but t23)
    have ho3 := t23 _ _ ho
    generalize upd (upd H2 T2 (.tup [nv ds[i], nv es[i]])) T (.tup [V.int (i : Nat), V.ref T2]) = H3 at hT2 hT bt3 ho3 ⊢
    have hb3 := bt3 _ _ bo hb
    obtain ⟨v1, hv1, dv1⟩ := hps i (by omega)
    obtain ⟨c1, u1, u2, ec1, qc1, du1, du2⟩ := dp_two (dp_but bt3 ho1 rfl dv1)
    have eu1 := dp_int du1
    have eu2 := dp_int du2
    subst eu1 eu2 ec1
    obtain ⟨v2, hv2, dv2⟩ := hps (i + 1) (by omega)
    obtain ⟨c2, w1, w2, ec2, qc2, dw1, dw2⟩ := dp_two (dp_but bt3 ho1 rfl dv2)
    have ew1 := dp_int dw1
    have ew2 := dp_int dw2
    subst ew1 ew2 ec2
    -- k, (d, e) = ..; x, y = pairs[k]
    refine ⟨T, _, rfl, tup_of hT, rfl, _, _, rfl, _, [], rfl, ⟨T2, _, rfl, tup_of hT2, rfl, _, _, rfl, _, [], rfl, rfl, rfl, ?_⟩⟩
    refine ⟨.ref b, rfl, nv i, rfl, b, ps, _, _, rfl, rfl, lst_of hb3, atI_nat hv1, c1, _, rfl, qc1, rfl, _, _, rfl, _, [], rfl, rfl, ?_⟩
    -- if x == y and d == e
    have skip : dstep f (cat ds i) (cat es i) ds[i] es[i] = f → ∃ (y3 y4 y5 y6 y7 : Option V) (f : List (Nat × Nat)), [some (V.ref p), some (.ref o), some (.ref b), some (nv i), some (nv ds[i]), some (nv es[i]), some (nv (cat ds i)), some (nv (cat es i)), none] = [some (V.ref p), some (.ref o), some (.ref b), y3, y4, y5, y6, y7, none] ∧ But o H1 H3 ∧ H3 o = some (.lst ((flat f).reverse.map nv)) ∧
      f.length ≤ i + 1 ∧ i + 1 ≤ 60 ∧ Lo f ∧ dueL f (cat ds (i + 1)) (cat es (i + 1)) (ds.drop (i + 1)) (es.drop (i + 1)) = dueL [] 0 0 ds es := fun e => by
      rw [e] at hr1
      exact ⟨_, _, _, _, _, f, rfl, bt3, ho3, by omega, by omega, hlo, hr1⟩
    refine ⟨nv (cat ds i), rfl, nv (cat es i), rfl, rfl, _, rfl, ?_⟩
    by_cases e1 : cat ds i = cat es i
    · rw [show decide (nv (cat ds i) = nv (cat es i)) = true from decide_eq_true (by rw [e1])]
      refine iteT ⟨nv ds[i], rfl, nv es[i], rfl, rfl, _, rfl, ?_⟩
      by_cases e2 : ds[i] = es[i]
      · rw [show decide (nv ds[i] = nv es[i]) = true from decide_eq_true (by rw [e2])]
        have est : dstep f (cat ds i) (cat es i) ds[i] es[i] = dputP f (cat ds i) (cat ds (i + 1)) := by
          rw [cat_succ gd]
          exact if_pos ⟨e1, e2⟩
        rw [est] at hr1
        have lop := hlo.put (cat_le two.one i) (cat_le two.one (i + 1))
        have lnp := dputP_len f (cat ds i) (cat ds (i + 1))
        have fl : (flat f).length ≤ 120 := by
          rw [flat_len]
          omega
        -- what stands ahead of the last append
        refine iteT ⟨fun σ' H' => ∃ M : List Nat, σ' = [some (.ref p), some (.ref o), some (.ref b), some (nv i), some (nv ds[i]), some (nv es[i]), some (nv (cat ds i)), some (nv (cat es i)), none] ∧ But o H3 H' ∧ H' o = some (.lst (M.map nv)) ∧ M.length ≤ 130 ∧
          M ++ [cat ds (i + 1)] = (flat (dputP f (cat ds i) (cat ds (i + 1)))).reverse, ?_, ?_⟩
        · have app : dputP f (cat ds i) (cat ds (i + 1)) = (cat ds i, cat ds (i + 1)) :: f → tDrop (tBM K "list" rAppend (tVar 1) (tCons (tVar 6) tNil))
              { nx := fun σ' H' => ∃ M : List Nat, σ' = [some (.ref p), some (.ref o), some (.ref b), some (nv i), some (nv ds[i]), some (nv es[i]), some (nv (cat ds i)), some (nv (cat es i)), none] ∧ But o H3 H' ∧ H' o = some (.lst (M.map nv)) ∧ M.length ≤ 130 ∧
                M ++ [cat ds (i + 1)] = (flat (dputP f (cat ds i) (cat ds (i + 1)))).reverse, rt := Q } [some (.ref p), some (.ref o), some (.ref b), some (nv i), some (nv ds[i]), some (nv es[i]), some (nv (cat ds i)), some (nv (cat es i)), none] H3 := fun ef => by
            refine ⟨.ref o, rfl, .inl ⟨rfl, _, lst_of ho3⟩, nv (cat ds i), rfl, o, _, _, rfl, rfl, ho3, sl_lt (by rw [nvs_len, List.length_reverse]; omega), (flat f).reverse ++ [cat ds i], rfl, But.refl.upd, ?_, by rw [List.length_append, List.length_reverse, List.length_singleton]; omega, ?_⟩
            · rw [upd_same]
              exact snoc_nv rfl
            · rw [ef]
              show _ = (cat ds (i + 1) :: cat ds i :: flat f).reverse
              rw [List.reverse_cons, List.reverse_cons]
          refine ⟨.ref o, rfl, o, _, rfl, .inl (lst_of ho3), _, 0, rfl, rfl, _, rfl, ?_⟩
          cases f with
          | nil => exact iteF (iteF (app rfl))
          | cons a f =>
            have em : (flat (a :: f)).reverse = (flat f).reverse ++ [a.1] ++ [a.2] := by
              show (a.2 :: a.1 :: flat f).reverse = _
              rw [List.reverse_cons, List.reverse_cons]
            have ho4 := ho3
            rw [em, List.map_append] at ho4
            have pos : (0 : Int) < (((((flat (a :: f)).reverse.map nv).length : Nat)) : Int) := by
              rw [nvs_len, em, List.length_append, List.length_singleton]
              omega
            rw [decide_eq_true pos]
            refine iteT ⟨.ref o, rfl, 1, rfl, o, _, -1, nv a.2, rfl, rfl, lst_of ho4, atI_last _ _, nv (cat ds i), rfl, rfl, _, rfl, ?_⟩
            by_cases e3 : a.2 = cat ds i
            · rw [show decide (nv a.2 = nv (cat ds i)) = true from decide_eq_true (by rw [e3])]
              refine iteT ⟨.ref o, rfl, .inl ⟨rfl, _, lst_of ho4⟩, o, _, nv a.2, rfl, rfl, ho4, ?_, (flat f).reverse ++ [a.1], rfl, But.refl.upd, ?_, by rw [flat_len] at fl; simp only [List.length_cons] at fl; rw [List.length_append, List.length_reverse, List.length_singleton, flat_len]; omega, ?_⟩
              · rw [List.length_append]
                show (((flat f).reverse ++ [a.1]).map nv ++ [nv a.2])[(((flat f).reverse ++ [a.1]).map nv).length + 1 - 1]? = _
                rw [Nat.add_sub_cancel, List.getElem?_append_right (Nat.le_refl _), Nat.sub_self]
                rfl
              · rw [upd_same]
                show some (HO.lst ((((flat f).reverse ++ [a.1]).map nv ++ [nv a.2]).dropLast)) = _
                rw [List.dropLast_concat]
              · have ef : dputP (a :: f) (cat ds i) (cat ds (i + 1)) = (a.1, cat ds (i + 1)) :: f := if_pos e3
                rw [ef]
                show _ = (cat ds (i + 1) :: a.1 :: flat f).reverse
                rw [List.reverse_cons, List.reverse_cons]
            · rw [show decide (nv a.2 = nv (cat ds i)) = false from decide_eq_false (fun z => e3 (by have := V.int.inj z; omega))]
              exact iteF (app (if_neg e3))
        · rintro σ' H' ⟨M, rfl, bM, hM, lM, eM⟩
          have bt4 : But o H1 H' := bt3.trans bM
          have hb4 := bt4 _ _ bo hb
          refine ⟨.ref o, rfl, .inl ⟨rfl, _, lst_of hM⟩, .ref b, rfl, nv i, rfl, i, 1, rfl, rfl, b, ps, _, _, rfl, rfl, lst_of hb4, atI_nat (j := i + 1) hv2, c2, _, 0, _, rfl, rfl, but_tup bM ho3 qc2, atI_nat (j := 0) rfl, o, _, _, rfl, rfl, hM, sl_lt (by rw [nvs_len]; omega), ?_⟩
          refine ⟨_, _, _, _, _, dputP f (cat ds i) (cat ds (i + 1)), rfl, bt4.upd, ?_, by omega, by omega, lop, hr1⟩
          rw [upd_same, ← eM]
          exact snoc_nv rfl
      · rw [show decide (nv ds[i] = nv es[i]) = false from decide_eq_false (fun z => e2 (by have := V.int.inj z; omega))]
        exact iteF (skip (if_neg fun z => e2 z.2))
    · rw [show decide (nv (cat ds i) = nv (cat es i)) = false from decide_eq_false (fun z => e1 (by have := V.int.inj z; omega))]
      exact iteF (iteF (skip (if_neg fun z => e1 z.1)))
  · rintro σ H2 ⟨y3, y4, y5, y6, y7, f, rfl, bt, ho, hfl, hi60, hlo, hr1⟩
    rw [nvs_len] at hfl hr1
    have ef : f = dueL [] 0 0 ds es := by
      rw [List.drop_eq_nil_of_le (Nat.le_refl _)] at hr1
      exact hr1
    have s2 : Same H H2 := But.same s1 no bt
    rw [flat_rev] at ho
    have fl : (flatO f.reverse).length = 2 * f.length := by rw [flatO_len, List.length_reverse]
    have hM : ∀ m, m ∈ flatO f.reverse → m ≤ 2 ^ 400 := fun m hm => by
      obtain ⟨a, ha, e⟩ := mem_flatO hm
      have := hlo a (List.mem_reverse.mp ha)
      rcases e with e | e <;> rw [e]
      · exact this.1
      · exact this.2
    have ek : (flatO f.reverse).length ≤ 130 := by omega
    have ev := flatO_even f.reverse
    have od := flatO_odd f.reverse
    generalize flatO f.reverse = M at ho fl hM ek ev od
    -- points
    refine ⟨.ref o, rfl, o, rfl, ⟨_, lst_of ho⟩, fun D nD => lc_list (xs := M.map nv) (fun i H' => Same H2 H' ∧ ∃ vs, H' D = some (.lst vs) ∧ DpAll K H' vs ((M.take i).map fun m => pdat (lp m))) ⟨same_new nD, [], upd_same, .nil⟩ (fun i H' _ hp => lst_of (hp.1 _ _ ho)) ?_ ?_⟩
    · rintro i v0 H' hv ⟨sm, vs, hD, hw⟩
      obtain ⟨hi, ev0⟩ := List.getElem?_eq_some_iff.mp hv
      rw [nvs_len] at hi
      have ev' : v0 = nv M[i] := by rw [← ev0, List.getElem_map]
      subst ev'
      have ln := dps_len hw
      rw [List.length_map, List.length_take] at ln
      refine ⟨rfl, nv M[i], rfl, M[i], rfl, hM _ (List.getElem_mem hi), fun c nc => ?_⟩
      have sc := same_new (o := .tup [nv (lp M[i]).1, nv (lp M[i]).2]) nc
      have hD2 := sc _ _ hD
      refine ⟨vs, hD2, sl_lt (by omega), same_mut (sm.trans sc) nD, vs ++ [.ref c], upd_same, ?_⟩
      rw [← List.take_append_getElem hi, List.map_append]
      have bg : But D (upd H' c (.tup [nv (lp M[i]).1, nv (lp M[i]).2])) (upd (upd H' c (.tup [nv (lp M[i]).1, nv (lp M[i]).2])) D (.lst (vs ++ [.ref c]))) := But.refl.upd
      refine dps_app (dps_but bg hD2 (tups_map _ (fun _ => rfl) _) (dps_mono sc hw)) (.cons (dp_but bg hD2 rfl (dp_mk2 (tup_of upd_same) (.int _) (.int _))) .nil)
    rintro H3 ⟨sm3, vs, hD, hw⟩
    rw [nvs_len, List.take_of_length_le (Nat.le_refl _)] at hw
    have ln := dps_len hw
    rw [List.length_map] at ln
    -- list(zip(points[::2], points[1::2]))
    refine ⟨.ref D, rfl, D, vs, rfl, lst_of hD, sl_lt (by omega), fun b1 ys1 nb1 ly1 gy1 => ?_⟩
    have v1 := same_new (o := .lst ys1) nb1
    refine ⟨.ref D, rfl, D, vs, rfl, lst_of (v1 _ _ hD), sl_lt (by omega), fun b2 ys2 nb2 ly2 gy2 => ?_⟩
    have v2 := same_new (o := .lst ys2) nb2
    have v12 := v1.trans v2
    have len_of : ∀ (ys : List V) (r : Nat), r ≤ 1 → (∀ j : Nat, ys[j]? = vs[r + 2 * j]?) → ys.length = f.length := fun ys r hr g => by
      rcases Nat.lt_trichotomy ys.length f.length with c | c | c
      · have h1 := g ys.length
        rw [List.getElem?_eq_none (Nat.le_refl _), List.getElem?_eq_getElem (by omega)] at h1
        cases h1
      · exact c
      · have h1 := g f.length
        rw [List.getElem?_eq_getElem c, List.getElem?_eq_none (by omega)] at h1
        cases h1
    have n1 := len_of ys1 0 (by decide) gy1
    have n2 := len_of ys2 1 (by decide) gy2
    refine ⟨b1, b2, ys1, ys2, rfl, lst_of (v2 _ _ upd_same), lst_of upd_same, by omega, sl_lt (by omega), fun r ts H4 nr t4 hr lt pr => ?_⟩
    have v24 := v12.trans t4
    refine q r _ H4 ((s2.trans sm3).trans v24) hr ?_
    refine dps_of (by simp only [List.length_map, List.length_reverse, lt, n1, ef]) fun j vj dj hvj hdj => ?_
    rw [List.getElem?_map] at hvj hdj
    obtain ⟨Tj, hTj, eTj⟩ : ∃ Tj, ts[j]? = some Tj ∧ vj = .ref Tj := by
      cases e : ts[j]? with
      | none =>
        rw [e] at hvj
        cases hvj
      | some Tj =>
        rw [e] at hvj
        exact ⟨Tj, rfl, (Option.some.inj hvj).symm⟩
    subst eTj
    have jl : j < f.length := by
      have := (List.getElem?_eq_some_iff.mp hTj).1
      omega
    have gj : f.reverse[j]? = some (f.reverse[j]'(by rw [List.length_reverse]; exact jl)) := List.getElem?_eq_getElem _
    generalize f.reverse[j]'(by rw [List.length_reverse]; exact jl) = aj at gj
    have e1 := ev j
    have e2 := od j
    rw [gj] at e1 e2
    obtain ⟨xj, hxj, dxj⟩ := dps_get (i := 2 * j) hw (by rw [List.getElem?_map, e1]; rfl)
    obtain ⟨yj, hyj, dyj⟩ := dps_get (i := 2 * j + 1) hw (by rw [List.getElem?_map, e2]; rfl)
    have hT := pr j Tj xj yj hTj (by rw [gy1, Nat.zero_add]; exact hxj) (by rw [gy2, Nat.add_comm]; exact hyj)
    have ed : dj = rdat (lp2 aj) := by
      rw [List.getElem?_map, ← ef, gj] at hdj
      exact (Option.some.inj hdj).symm
    rw [ed]
    exact dp_mk2 (tup_of hT) (dp_mono v24 dxj) (dp_mono v24 dyj)
end
end Hw
/-! _law_whole, law -/
namespace Hw
open PySem PySem.Spec PyProof.Rows L2
open Evl (pss_cut)
theorem tyx_tup {K : PySem.W.Frag} {H : Hp} {a : Addr} {xs : List V} (h : SqT K H a xs) : TyX K H (.ref a) (.type "tuple") := by
  rcases h with (h | ⟨o, h⟩) | h
  · exact .base (.tup h)
  · exact .fTuple h
  · obtain ⟨o, its, n, hk, hc, _⟩ := h
    exact .kTuple hk hc
section
variable {PR : Program} {w : World} {K : PySem.W.Frag} {mg : Str → Option Value} {base : Heap}
def spWhole (K : PySem.W.Frag) : Sp := fun vs H Q _ => ∃ (a : Addr) (xs : List V) (L : List (P × P)), vs = [.ref a] ∧ SqL K H a xs ∧ DpAll K H xs (L.map rdat) ∧ Q (.bl true) H
theorem ok_whole {f : Addr} {fd : FuncData} {lv : Nat} (F : Fun K "_law_whole" "_law_whole" sWhole f fd) (mi : mg "isinstance" = none) (mt : mg "tuple" = none) (ml : mg "len" = none) (mn : mg "int" = none) (mb : mg "bool" = none) :
    FnOk PR w K mg base CX0 (lv + 1) f fd ["_law_found"] (spWhole K) := by
  refine F.ok scWhole (fun vs H Q E h => ?_) (fun cdv A outer s H vs Q E hr h => ?_)
  · obtain ⟨a, xs, L, rfl, _⟩ := h
    rfl
  obtain ⟨a, xs, L, rfl, hS, hw, q⟩ := h
  have nd := scWhole.nd
  refine ⟨_, pss_cons (ps_for PassesOwn.never rfl (pi_list (pv 0)) (pg_name (i := 1) nd rfl (.inl rfl))
      (pss_cons (ps_if (PW.pt (pw_or (pt_not (pt_val (pe_callB call_isi (by rfl) mi (by decide +kernel) (pa_cons (pv 1) (pa_cons (pe_bltn (v := .ty "tuple") (by rfl) mt (by decide +kernel) rfl) pa_nil)))))
            (pw_or1 (pt_cmpR op_ne (pe_callB call_len_seq (by rfl) ml PySem.boot_len (pa_cons (pv 1) pa_nil)) pe_int (nomark _)))))
          (pss_one (ps_ret pe_bl)) pss_nil)
      (pss_one (ps_for PassesOwn.never rfl (pi_tup (pv 1)) (pg_name (i := 2) nd rfl (.inl rfl))
        (pss_cons (ps_if (PW.pt (pw_or (pt_not (pt_val (pe_callB call_isi (by rfl) mi (by decide +kernel) (pa_cons (pv 2) (pa_cons (pe_bltn (v := .ty "tuple") (by rfl) mt (by decide +kernel) rfl) pa_nil)))))
              (pw_or1 (pt_cmpR op_ne (pe_callB call_len_seq (by rfl) ml PySem.boot_len (pa_cons (pv 2) pa_nil)) pe_int (nomark _)))))
            (pss_one (ps_ret pe_bl)) pss_nil)
        (pss_one (ps_for PassesOwn.never rfl (pi_tup (pv 2)) (pg_name (i := 3) nd rfl (.inl rfl))
          (pss_one (ps_if (PW.pt (pw_or (pt_not (pt_val (pe_callB call_isi (by rfl) mi (by decide +kernel) (pa_cons (pv 3) (pa_cons (pe_bltn (v := .ty "int") (by rfl) mn (by decide +kernel) rfl) pa_nil)))))
                (pw_or1 (pt_val (pe_callB call_isi (by rfl) mi (by decide +kernel) (pa_cons (pv 3) (pa_cons (pe_bltn (v := .ty "bool") (by rfl) mb (by decide +kernel) rfl) pa_nil)))))))
              (pss_one (ps_ret pe_bl)) pss_nil)))))))))
    (pss_one (ps_ret pe_bl)), ?_⟩
  refine ⟨.ref a, rfl, a, rfl, ⟨_, hS⟩, for_list (xs := xs) (fun i σ H' => ∃ y1 y2 y3 : Option V, σ = [some (.ref a), y1, y2, y3] ∧ H' = H) ⟨none, none, none, rfl, rfl⟩ (fun i σ H' _ ⟨_, _, _, _, e⟩ => by
    rw [e]
    exact hS) ?_ ?_⟩
  · rintro i v σ H' hv ⟨y1, y2, y3, rfl, rfl⟩
    obtain ⟨d, hd, dv⟩ := dps_back hw hv
    rw [List.getElem?_map] at hd
    obtain ⟨c, rfl⟩ : ∃ c, d = rdat c := by
      cases e : L[i]? with
      | none =>
        rw [e] at hd
        cases hd
      | some c =>
        rw [e] at hd
        exact ⟨c, (Option.some.inj hd).symm⟩
    obtain ⟨b, v1, v2, rfl, qb, d1, d2⟩ := dp_two dv
    refine ⟨.ref b, rfl, .ref b, .ty "tuple", _, _, true, rfl, .ty _, tyx_tup qb, kit_ty (by decide +kernel), true, rfl, iteF ⟨.ref b, rfl, b, _, rfl, .inr qb, rfl, _, rfl, iteF ?_⟩⟩
    refine ⟨.ref b, rfl, b, rfl, ⟨_, qb⟩, for_tup (xs := [v1, v2]) (fun j σ H2 => ∃ y2 y3 : Option V, σ = [some (.ref a), some (.ref b), y2, y3] ∧ H2 = H') ⟨_, _, rfl, rfl⟩ (fun j σ H2 _ ⟨_, _, _, e⟩ => by
      rw [e]
      exact qb) ?_ (fun σ H2 ⟨_, _, e1, e2⟩ => ⟨_, _, _, e1, e2⟩)⟩
    rintro j v' σ H2 hv' ⟨y2, y3, rfl, rfl⟩
    obtain ⟨z, dz⟩ : ∃ z, Dp K H2 v' (pdat z) := by
      match j, hv' with
      | 0, hv' => exact ⟨_, Option.some.inj hv' ▸ d1⟩
      | 1, hv' => exact ⟨_, Option.some.inj hv' ▸ d2⟩
    obtain ⟨g, n1, n2, rfl, qg, e1, e2⟩ := dp_two dz
    refine ⟨.ref g, rfl, .ref g, .ty "tuple", _, _, true, rfl, .ty _, tyx_tup qg, kit_ty (by decide +kernel), true, rfl, iteF ⟨.ref g, rfl, g, _, rfl, .inr qg, rfl, _, rfl, iteF ?_⟩⟩
    refine ⟨.ref g, rfl, g, rfl, ⟨_, qg⟩, for_tup (xs := [n1, n2]) (fun k σ H3 => ∃ y3 : Option V, σ = [some (.ref a), some (.ref b), some (.ref g), y3] ∧ H3 = H2) ⟨_, rfl, rfl⟩ (fun k σ H3 _ ⟨_, _, e⟩ => by
      rw [e]
      exact qg) ?_ (fun σ H3 ⟨_, e1, e2⟩ => ⟨_, _, e1, e2⟩)⟩
    rintro k v'' σ H3 hv'' ⟨y3, rfl, rfl⟩
    obtain ⟨m, rfl⟩ : ∃ m, v'' = V.int m := by
      match k, hv'' with
      | 0, hv'' => exact ⟨_, (Option.some.inj hv'').symm.trans (dp_int e1)⟩
      | 1, hv'' => exact ⟨_, (Option.some.inj hv'').symm.trans (dp_int e2)⟩
    exact ⟨_, rfl, _, .ty "int", _, _, true, rfl, .ty _, .base (.int m), kit_ty (by decide +kernel), true, rfl, iteF ⟨_, rfl, _, .ty "bool", _, _, false, rfl, .ty _, .base (.int m), kit_ty (by decide +kernel), false, rfl, iteF ⟨_, rfl, rfl⟩⟩⟩
  · rintro σ H' ⟨y1, y2, y3, rfl, rfl⟩
    exact q
/-! ### law -/
theorem shaped_r (l : List (P × P)) : SeqAt.shaped (.list (l.map rdat)) = true := shaped_l l
theorem eqv_self (l : List (P × P)) : PyData.eqv (.list (l.map rdat)) (.list (l.map rdat)) = true := SeqAt.eqv_refl _ (SeqAt.canLay_of_shaped (shaped_l l))
def spLaw (K : PySem.W.Frag) : Sp := fun vs H Q _ => ∃ (a : Addr) (ns : List Int), vs = [.ref a] ∧ SqL K H a (ns.map V.int) ∧ ∀ H', Q (.bl true) H'
theorem ok_law {f d t u r wh : Addr} {fd dd td ud rd wd : FuncData} (F : Fun K "law" "law" sLaw f fd)
    (GD : FnOk PR w K mg base CX0 44 d dd ["_law_script"] (spDrawn K)) (bD : Binds K dd ["_law_script"] []) (kD : PySem.W.keepIn K (.ref d) = true) (mD : mg "_law_drawn" = some (.ref d))
    (GT : FnOk PR w K mg base CX0 44 t td ["_law_depths"] (spTree K)) (bT : Binds K td ["_law_depths"] []) (kT : PySem.W.keepIn K (.ref t) = true) (mT : mg "_law_tree" = some (.ref t))
    (GU : FnOk PR w K mg base CX0 44 u ud ["_law_lists_here"] (spDue K)) (bU : Binds K ud ["_law_lists_here"] []) (kU : PySem.W.keepIn K (.ref u) = true) (mU : mg "_law_due" = some (.ref u))
    (GR : FnOk PR w K mg base CX0 44 r rd ["mapped"] (spRests K)) (bR : Binds K rd ["mapped"] []) (kR : PySem.W.keepIn K (.ref r) = true) (mR : mg "rests" = some (.ref r))
    (GW : FnOk PR w K mg base CX0 44 wh wd ["_law_found"] (spWhole K)) (bW : Binds K wd ["_law_found"] []) (kW : PySem.W.keepIn K (.ref wh) = true) (mW : mg "_law_whole" = some (.ref wh))
    (mi : mg "isinstance" = none) (ml : mg "list" = none) : FnOk PR w K mg base CX0 45 f fd ["_law_script"] (spLaw K) := by
  refine F.ok scLaw (fun vs H Q E h => ?_) (fun cdv A outer s H vs Q E hr h => ?_)
  · obtain ⟨a, ns, rfl, _⟩ := h
    rfl
  obtain ⟨a, ns, rfl, hS, q⟩ := h
  have nd := scLaw.nd
  refine ⟨_, pss_cons (ps_set (i := 1) nd rfl (.inl rfl) (pe_call GD hr (by rfl) mD kD bD .nil pass0 (pa_cons (pv 0) pa_nil)))
    (pss_cons (ps_set (i := 2) nd rfl (.inl rfl) (pe_tup (pa_cons (pe_call GT hr (by rfl) mT kT bT .nil pass0 (pa_cons (pe_ix ix_tup (pv 1) pe_int (fun _ _ => rfl)) pa_nil)) (pa_cons (pe_call GT hr (by rfl) mT kT bT .nil pass0 (pa_cons (pe_ix ix_tup (pv 1) pe_int (fun _ _ => rfl)) pa_nil)) pa_nil))))
    (pss_cons (ps_set (i := 3) nd rfl (.inl rfl) (pe_call GU hr (by rfl) mU kU bU .nil pass0 (pa_cons (pv 1) pa_nil)))
    (pss_cons (ps_set (i := 4) nd rfl (.inl rfl) (pe_call GR hr (by rfl) mR kR bR .nil pass0 (pa_cons (pv 2) pa_nil)))
    (pss_cons (ps_if (PW.pt (pw_or (pt_not (pt_val (pe_callB call_isi (by rfl) mi (by decide +kernel) (pa_cons (pv 4) (pa_cons (pe_bltn (v := .ty "list") (by rfl) ml (by decide +kernel) rfl) pa_nil)))))
          (pw_or (pt_cmpR (op_neD hr.units) (pv 4) (pv 3) (nomark _)) (pw_or1 (pt_not (pt_val (pe_call GW hr (by rfl) mW kW bW .nil pass0 (pa_cons (pv 4) pa_nil))))))))
        (pss_one (ps_ret pe_bl)) pss_nil)
    (pss_cons (ps_expr (pe_bm PySem.F.plainAttrs_list PySem.F.slot_list_append PySem.F.type_list_append mt_append (pv 4)
        (pa_cons (pe_tup (pa_cons (pe_tup (pa_cons pe_int (pa_cons pe_int pa_nil))) (pa_cons (pe_tup (pa_cons pe_int (pa_cons pe_int pa_nil))) pa_nil))) pa_nil)))
    (pss_cons (ps_expr (pe_bm0 PySem.F.plainAttrs_list PySem.F.slot_list_reverse PySem.F.type_list_reverse mt_reverse (pv 4)))
    (pss_cons (ps_set (i := 5) nd rfl (.inl rfl) (pe_call GR hr (by rfl) mR kR bR .nil pass0 (pa_cons (pe_tup (pa_cons (pe_ix ix_tup (pv 2) pe_int (fun _ _ => rfl)) (pa_cons (pe_ix ix_tup (pv 2) pe_int (fun _ _ => rfl)) pa_nil))) pa_nil)))
    (pss_one (ps_ret (pe_and (pe_cmpR (op_eqD hr.units) (pe_call GR hr (by rfl) mR kR bR .nil pass0 (pa_cons (pv 2) pa_nil)) (pv 3) (nomark _))
      (pe_one (pe_cmpR (op_eqD hr.units) (pv 5) (pv 3) (nomark _))))))))))))), ?_⟩
  -- the lists
  refine ⟨.ref a, rfl, a, ns, rfl, hS, fun v ds es H1 t1 two => ?_⟩
  obtain ⟨p, a1, a2, rfl, qp, q1, q2⟩ := two.at_
  obtain ⟨tr, etr⟩ := two.one.tree
  obtain ⟨ur, eur⟩ := two.other.tree
  have htr : tr.ht ≤ 40 := by
    have := ht_le tr 0 40 fun e he => two.one.deep e (by rw [etr]; exact he)
    omega
  have hur : ur.ht ≤ 40 := by
    have := ht_le ur 0 40 fun e he => two.other.deep e (by rw [eur]; exact he)
    omega
  have l1 : tr.leaves ≤ 1000 := by
    have := two.one.size
    rw [etr, deps_len] at this
    omega
  have l2 : ur.leaves ≤ 1000 := by
    have := two.other.size
    rw [eur, deps_len] at this
    omega
  have l12 : tr.leaves = ur.leaves := by
    have := two.same
    rw [etr, eur, deps_len, deps_len] at this
    exact this
  -- the trees
  refine ⟨.ref p, rfl, p, _, 0, _, rfl, rfl, qp, atI_nat (j := 0) rfl, a1, tr, rfl, by rw [← etr]; exact q1, l1, fun v1 H2 t2 d1 => ?_⟩
  refine ⟨.ref p, rfl, p, _, 1, _, rfl, rfl, same_tup t2 qp, atI_nat (j := 1) rfl, a2, ur, rfl, by rw [← eur]; exact t2.seq q2, l2, fun v2 H3 t3 d2 => ?_⟩
  refine ⟨(by show 2 ≤ sizeLine; decide), fun m nm => ?_⟩
  have t4 := same_new (o := .tup [v1, v2]) nm
  have t14 := (t2.trans t3).trans t4
  have hm : upd H3 m (.tup [v1, v2]) m = some (.tup [v1, v2]) := upd_same
  have d1' := dp_mono (t3.trans t4) d1
  have d2' := dp_mono t4 d2
  generalize upd H3 m (.tup [v1, v2]) = H4 at t14 hm d1' d2' ⊢
  -- due
  refine ⟨.ref p, rfl, .ref p, ds, es, rfl, two.mono t14, fun u1 xs1 H5 t5 hu1 wu1 => ?_⟩
  have dm5 : Dp K H5 (.ref m) (.tuple [tr.data, ur.data]) := dp_mk2 (tup_of (t5 _ _ hm)) (dp_mono t5 d1') (dp_mono t5 d2')
  obtain ⟨R, eR⟩ : ∃ R : List (P × P), (dueL [] 0 0 ds es).reverse.map lp2 = R := ⟨_, rfl⟩
  rw [eR] at wu1
  have er1 : (rst [] (tr.strs 0 0) (ur.strs 0 0)).reverse = R := by
    rw [map_rests htr hur, ← etr, ← eur, ← eR, List.map_reverse]
  have er2 : (rst [] (ur.strs 0 0) (tr.strs 0 0)).reverse = R := by
    rw [rst_swap]
    exact er1
  -- found
  refine ⟨.ref m, rfl, .ref m, tr, ur, rfl, dm5, htr, hur, l12, l1, fun o xs2 H6 t6 no ho wo => ?_⟩
  rw [er1] at wo
  have hu6 := t6 _ _ hu1
  have wu6 := dps_mono t6 wu1
  refine ⟨.ref o, rfl, .ref o, .ty "list", _, _, true, rfl, .ty _, .base (.lst ho), kit_ty (by decide +kernel), true, rfl, ?_⟩
  refine iteF ⟨.ref o, rfl, .ref u1, rfl, .list (R.map rdat), .list (R.map rdat), .lst (lst_of ho) wo, .lst (lst_of hu6) wu6, shaped_l R, shaped_l R, _, rfl, ?_⟩
  rw [eqv_self]
  refine iteF ⟨.ref o, rfl, o, xs2, R, rfl, lst_of ho, wo, true, rfl, iteF ?_⟩
  -- found.append(..), found.reverse()
  refine ⟨.ref o, rfl, .inl ⟨rfl, _, lst_of ho⟩, (by show 2 ≤ sizeLine; decide), fun e1 n1 => ?_⟩
  have w1 := same_new (o := .tup [V.int 0, V.int 0]) n1
  refine ⟨(by show 2 ≤ sizeLine; decide), fun e2 n2 => ?_⟩
  have w2 := same_new (o := .tup [V.int 1, V.int 0]) n2
  refine ⟨(by show 2 ≤ sizeLine; decide), fun e3 n3 => ?_⟩
  have w3 := same_new (o := .tup [V.ref e1, V.ref e2]) n3
  have w13 := (w1.trans w2).trans w3
  have ln := dps_len wo
  have lR : R.length ≤ 100 := by
    have h : ∀ (ds es : List Nat) (f : List (Nat × Nat)) (x y : Nat), (dueL f x y ds es).length ≤ f.length + ds.length := by
      intro ds
      induction ds with
      | nil =>
        intro es f x y
        show (dueL f x y [] es).length ≤ _
        cases es <;> exact Nat.le_refl _
      | cons d ds ih =>
        intro es f x y
        cases es with
        | nil => exact Nat.le_add_right _ _
        | cons e es =>
          have h1 := ih es (dstep f x y d e) (x + U d) (y + U e)
          have h2 : (dstep f x y d e).length ≤ f.length + 1 := by
            unfold dstep
            split
            · exact dputP_len _ _ _
            · omega
          show (dueL (dstep f x y d e) (x + U d) (y + U e) ds es).length ≤ f.length + (ds.length + 1)
          omega
    have h3 := h ds es [] 0 0
    have h4 := two.one.size
    rw [← eR, List.length_map, List.length_reverse]
    have h5 : ([] : List (Nat × Nat)).length = 0 := rfl
    omega
  rw [List.length_map] at ln
  refine ⟨o, xs2, .ref e3, rfl, rfl, w13 _ _ ho, sl_lt (by omega), ?_⟩
  refine ⟨.ref o, rfl, .inl ⟨rfl, _, lst_of upd_same⟩, o, _, rfl, rfl, upd_same, ?_⟩
  have t7 : Same H5 (upd (upd (upd (upd (upd H6 e1 (.tup [V.int 0, V.int 0])) e2 (.tup [V.int 1, V.int 0])) e3 (.tup [V.ref e1, V.ref e2])) o (.lst (xs2 ++ [V.ref e3]))) o (.lst (xs2 ++ [V.ref e3]).reverse)) := same_mut (same_mut (t6.trans w13) no) no
  generalize upd (upd (upd (upd (upd H6 e1 (.tup [V.int 0, V.int 0])) e2 (.tup [V.int 1, V.int 0])) e3 (.tup [V.ref e1, V.ref e2])) o (.lst (xs2 ++ [V.ref e3]))) o (.lst (xs2 ++ [V.ref e3]).reverse) = H7 at t7 ⊢
  have hm7 := (t5.trans t7) _ _ hm
  have d17 := dp_mono (t5.trans t7) d1'
  have d27 := dp_mono (t5.trans t7) d2'
  -- the back
  refine ⟨.ref m, rfl, m, _, 1, _, rfl, rfl, tup_of hm7, atI_nat (j := 1) rfl, .ref m, rfl, m, _, 0, _, rfl, rfl, tup_of hm7, atI_nat (j := 0) rfl, (by show 2 ≤ sizeLine; decide), fun b nb => ?_⟩
  have t8 := same_new (o := .tup [v2, v1]) nb
  refine ⟨.ref b, ur, tr, rfl, dp_mk2 (tup_of upd_same) (dp_mono t8 d27) (dp_mono t8 d17), hur, htr, l12.symm, l2, fun o2 xs3 H8 t9 no2 ho2 wo2 => ?_⟩
  rw [er2] at wo2
  have t59 := (t7.trans t8).trans t9
  -- return
  refine ⟨.ref m, rfl, .ref m, tr, ur, rfl, dp_mono t59 dm5, htr, hur, l12, l1, fun o3 xs4 H9 t10 no3 ho3 wo3 => ?_⟩
  rw [er1] at wo3
  have t510 := t59.trans t10
  have hu9 := t510 _ _ hu1
  have wu9 := dps_mono t510 wu1
  refine ⟨.ref u1, rfl, .list (R.map rdat), .list (R.map rdat), .lst (lst_of ho3) wo3, .lst (lst_of hu9) wu9, shaped_l R, shaped_l R, _, rfl, ?_⟩
  rw [eqv_self]
  refine iteT ⟨.ref o2, rfl, .ref u1, rfl, .list (R.map rdat), .list (R.map rdat), .lst (lst_of (t10 _ _ ho2)) (dps_mono t10 wo2), .lst (lst_of hu9) wu9, shaped_l R, shaped_l R, ?_⟩
  rw [eqv_self]
  exact q _
end
end Hw
namespace Hw
open PySem PySem.Spec PyProof.Rows L2
theorem all_mk {l : PySem.W.OpenLaw} {w : World} {K : PySem.W.Frag} {h : Heap} {mg : Str → Option Value} {fa f1 f2 f3 f4 f5 f6 f7 f8 f9 f10 f11 f12 f13 f14 f15 f16 : Addr} (X : K.In h) (G : h.Ns mainGlobals mg) (hfa : mg "law" = some (.ref fa))
    {od1 an1 od2 an2 od3 an3 od4 an4 od5 an5 od6 an6 od7 an7 od8 an8 od9 an9 od10 an10 od11 an11 od12 an12 od13 an13 od14 an14 od15 an15 od16 an16 : Option Addr} {sl1 sl2 sl3 sl4 sl5 sl6 sl7 sl8 sl9 sl10 sl11 sl12 sl13 sl14 sl15 sl16 : Array (Option Value)} {oc1 kV1 dc1 pm1 cd1 ct1 oc2 kV2 dc2 pm2 cd2 ct2 oc3 kV3 dc3 pm3 cd3 ct3 oc4 kV4 dc4 pm4 cd4 ct4 oc5 kV5 dc5 pm5 cd5 ct5 oc6 kV6 dc6 pm6 cd6 ct6 oc7 kV7 dc7 pm7 cd7 ct7 oc8 kV8 dc8 pm8 cd8 ct8 oc9 kV9 dc9 pm9 cd9 ct9 oc10 kV10 dc10 pm10 cd10 ct10 oc11 kV11 dc11 pm11 cd11 ct11 oc12 kV12 dc12 pm12 cd12 ct12 oc13 kV13 dc13 pm13 cd13 ct13 oc14 kV14 dc14 pm14 cd14 ct14 oc15 kV15 dc15 pm15 cd15 ct15 oc16 kV16 dc16 pm16 cd16 ct16 : Value}
    (a1 : PySem.W.nsIn K mainGlobals "point" = some (some (.ref f1))) (l1 : K.lookup f1 = some ⟨oc1, od1, .func (PySem.W.fnOf "point" "point" (defArgs sPoint) (defBody sPoint) (defScope sPoint) .none kV1 dc1 pm1 an1 cd1 ct1), sl1⟩) (c1 : PySem.W.codeIn K cd1 "point" = true) (k1 : PySem.W.keepIn K (.ref f1) = true)
    (a2 : PySem.W.nsIn K mainGlobals "stretches" = some (some (.ref f2))) (l2 : K.lookup f2 = some ⟨oc2, od2, .func (PySem.W.fnOf "stretches" "stretches" (defArgs sStr) (defBody sStr) (defScope sStr) .none kV2 dc2 pm2 an2 cd2 ct2), sl2⟩) (c2 : PySem.W.codeIn K cd2 "stretches" = true) (k2 : PySem.W.keepIn K (.ref f2) = true)
    (a3 : PySem.W.nsIn K mainGlobals "begins" = some (some (.ref f3))) (l3 : K.lookup f3 = some ⟨oc3, od3, .func (PySem.W.fnOf "begins" "begins" (defArgs sBeg) (defBody sBeg) (defScope sBeg) .none kV3 dc3 pm3 an3 cd3 ct3), sl3⟩) (c3 : PySem.W.codeIn K cd3 "begins" = true) (k3 : PySem.W.keepIn K (.ref f3) = true)
    (a4 : PySem.W.nsIn K mainGlobals "rests" = some (some (.ref f4))) (l4 : K.lookup f4 = some ⟨oc4, od4, .func (PySem.W.fnOf "rests" "rests" (defArgs sRests) (defBody sRests) (defScope sRests) .none kV4 dc4 pm4 an4 cd4 ct4), sl4⟩) (c4 : PySem.W.codeIn K cd4 "rests" = true) (k4 : PySem.W.keepIn K (.ref f4) = true)
    (a5 : PySem.W.nsIn K mainGlobals "_law_mixed" = some (some (.ref f5))) (l5 : K.lookup f5 = some ⟨oc5, od5, .func (PySem.W.fnOf "_law_mixed" "_law_mixed" (defArgs sMixed) (defBody sMixed) (defScope sMixed) .none kV5 dc5 pm5 an5 cd5 ct5), sl5⟩) (c5 : PySem.W.codeIn K cd5 "_law_mixed" = true) (k5 : PySem.W.keepIn K (.ref f5) = true)
    (a6 : PySem.W.nsIn K mainGlobals "_law_draws" = some (some (.ref f6))) (l6 : K.lookup f6 = some ⟨oc6, od6, .func (PySem.W.fnOf "_law_draws" "_law_draws" (defArgs sDraws) (defBody sDraws) (defScope sDraws) .none kV6 dc6 pm6 an6 cd6 ct6), sl6⟩) (c6 : PySem.W.codeIn K cd6 "_law_draws" = true) (k6 : PySem.W.keepIn K (.ref f6) = true)
    (a7 : PySem.W.nsIn K mainGlobals "_law_grown" = some (some (.ref f7))) (l7 : K.lookup f7 = some ⟨oc7, od7, .func (PySem.W.fnOf "_law_grown" "_law_grown" (defArgs sGrown) (defBody sGrown) (defScope sGrown) .none kV7 dc7 pm7 an7 cd7 ct7), sl7⟩) (c7 : PySem.W.codeIn K cd7 "_law_grown" = true) (k7 : PySem.W.keepIn K (.ref f7) = true)
    (a8 : PySem.W.nsIn K mainGlobals "_law_tree" = some (some (.ref f8))) (l8 : K.lookup f8 = some ⟨oc8, od8, .func (PySem.W.fnOf "_law_tree" "_law_tree" (defArgs sTree) (defBody sTree) (defScope sTree) .none kV8 dc8 pm8 an8 cd8 ct8), sl8⟩) (c8 : PySem.W.codeIn K cd8 "_law_tree" = true) (k8 : PySem.W.keepIn K (.ref f8) = true)
    (a9 : PySem.W.nsIn K mainGlobals "_law_lists" = some (some (.ref f9))) (l9 : K.lookup f9 = some ⟨oc9, od9, .func (PySem.W.fnOf "_law_lists" "_law_lists" (defArgs sLists) (defBody sLists) (defScope sLists) .none kV9 dc9 pm9 an9 cd9 ct9), sl9⟩) (c9 : PySem.W.codeIn K cd9 "_law_lists" = true) (k9 : PySem.W.keepIn K (.ref f9) = true)
    (a10 : PySem.W.nsIn K mainGlobals "_law_bumped" = some (some (.ref f10))) (l10 : K.lookup f10 = some ⟨oc10, od10, .func (PySem.W.fnOf "_law_bumped" "_law_bumped" (defArgs sBump) (defBody sBump) (defScope sBump) .none kV10 dc10 pm10 an10 cd10 ct10), sl10⟩) (c10 : PySem.W.codeIn K cd10 "_law_bumped" = true) (k10 : PySem.W.keepIn K (.ref f10) = true)
    (a11 : PySem.W.nsIn K mainGlobals "_law_pairs_of" = some (some (.ref f11))) (l11 : K.lookup f11 = some ⟨oc11, od11, .func (PySem.W.fnOf "_law_pairs_of" "_law_pairs_of" (defArgs sPairs) (defBody sPairs) (defScope sPairs) .none kV11 dc11 pm11 an11 cd11 ct11), sl11⟩) (c11 : PySem.W.codeIn K cd11 "_law_pairs_of" = true) (k11 : PySem.W.keepIn K (.ref f11) = true)
    (a12 : PySem.W.nsIn K mainGlobals "_law_drawn" = some (some (.ref f12))) (l12 : K.lookup f12 = some ⟨oc12, od12, .func (PySem.W.fnOf "_law_drawn" "_law_drawn" (defArgs sDrawn) (defBody sDrawn) (defScope sDrawn) .none kV12 dc12 pm12 an12 cd12 ct12), sl12⟩) (c12 : PySem.W.codeIn K cd12 "_law_drawn" = true) (k12 : PySem.W.keepIn K (.ref f12) = true)
    (a13 : PySem.W.nsIn K mainGlobals "_law_point" = some (some (.ref f13))) (l13 : K.lookup f13 = some ⟨oc13, od13, .func (PySem.W.fnOf "_law_point" "_law_point" (defArgs sLpt) (defBody sLpt) (defScope sLpt) .none kV13 dc13 pm13 an13 cd13 ct13), sl13⟩) (c13 : PySem.W.codeIn K cd13 "_law_point" = true) (k13 : PySem.W.keepIn K (.ref f13) = true)
    (a14 : PySem.W.nsIn K mainGlobals "_law_due" = some (some (.ref f14))) (l14 : K.lookup f14 = some ⟨oc14, od14, .func (PySem.W.fnOf "_law_due" "_law_due" (defArgs sDue) (defBody sDue) (defScope sDue) .none kV14 dc14 pm14 an14 cd14 ct14), sl14⟩) (c14 : PySem.W.codeIn K cd14 "_law_due" = true) (k14 : PySem.W.keepIn K (.ref f14) = true)
    (a15 : PySem.W.nsIn K mainGlobals "_law_whole" = some (some (.ref f15))) (l15 : K.lookup f15 = some ⟨oc15, od15, .func (PySem.W.fnOf "_law_whole" "_law_whole" (defArgs sWhole) (defBody sWhole) (defScope sWhole) .none kV15 dc15 pm15 an15 cd15 ct15), sl15⟩) (c15 : PySem.W.codeIn K cd15 "_law_whole" = true) (k15 : PySem.W.keepIn K (.ref f15) = true)
    (a16 : PySem.W.nsIn K mainGlobals "law" = some (some (.ref f16))) (l16 : K.lookup f16 = some ⟨oc16, od16, .func (PySem.W.fnOf "law" "law" (defArgs sLaw) (defBody sLaw) (defScope sLaw) .none kV16 dc16 pm16 an16 cd16 ct16), sl16⟩) (c16 : PySem.W.codeIn K cd16 "law" = true) (k16 : PySem.W.keepIn K (.ref f16) = true)
    (z1 : PySem.W.nsIn K mainGlobals "zip" = some none)
    (z2 : PySem.W.nsIn K mainGlobals "len" = some none)
    (z3 : PySem.W.nsIn K mainGlobals "abs" = some none)
    (z4 : PySem.W.nsIn K mainGlobals "min" = some none)
    (z5 : PySem.W.nsIn K mainGlobals "max" = some none)
    (z6 : PySem.W.nsIn K mainGlobals "range" = some none)
    (z7 : PySem.W.nsIn K mainGlobals "enumerate" = some none)
    (z8 : PySem.W.nsIn K mainGlobals "list" = some none)
    (z9 : PySem.W.nsIn K mainGlobals "isinstance" = some none)
    (z10 : PySem.W.nsIn K mainGlobals "tuple" = some none)
    (z11 : PySem.W.nsIn K mainGlobals "int" = some none)
    (z12 : PySem.W.nsIn K mainGlobals "bool" = some none) :
    ∃ fd : FuncData, (∀ (s : Shared) (v : Value), BindsTo s fd ⟨[v], []⟩ [("_law_script", v)]) ∧ ∀ base : Heap, K.In base → base.Ns mainGlobals mg → FnOk l.prog w K mg base CX0 45 fa fd ["_law_script"] (spLaw K) := by
  have e := hfa.symm.trans (PySem.W.mg_of X G a16)
  cases e
  have F1 := fun_mk (st := sPoint) l1 c1 k1
  have F2 := fun_mk (st := sStr) l2 c2 k2
  have F3 := fun_mk (st := sBeg) l3 c3 k3
  have F4 := fun_mk (st := sRests) l4 c4 k4
  have F5 := fun_mk (st := sMixed) l5 c5 k5
  have F6 := fun_mk (st := sDraws) l6 c6 k6
  have F7 := fun_mk (st := sGrown) l7 c7 k7
  have F8 := fun_mk (st := sTree) l8 c8 k8
  have F9 := fun_mk (st := sLists) l9 c9 k9
  have F10 := fun_mk (st := sBump) l10 c10 k10
  have F11 := fun_mk (st := sPairs) l11 c11 k11
  have F12 := fun_mk (st := sDrawn) l12 c12 k12
  have F13 := fun_mk (st := sLpt) l13 c13 k13
  have F14 := fun_mk (st := sDue) l14 c14 k14
  have F15 := fun_mk (st := sWhole) l15 c15 k15
  have F16 := fun_mk (st := sLaw) l16 c16 k16
  have b1 := F1.binds (ps := ["n", "d"]) fun _ _ _ _ _ _ us hl => match us, hl with | [_, _], _ => rfl
  have m1 := PySem.W.mg_of X G a1
  have b2 := F2.binds (ps := ["tree", "n", "d"]) fun _ _ _ _ _ _ us hl => match us, hl with | [_, _, _], _ => rfl
  have m2 := PySem.W.mg_of X G a2
  have b3 := F3.binds (ps := ["tree"]) fun _ _ _ _ _ _ us hl => match us, hl with | [_], _ => rfl
  have m3 := PySem.W.mg_of X G a3
  have b4 := F4.binds (ps := ["mapped"]) fun _ _ _ _ _ _ us hl => match us, hl with | [_], _ => rfl
  have m4 := PySem.W.mg_of X G a4
  have b5 := F5.binds (ps := ["_law_script", "_law_at", "_law_k"]) fun _ _ _ _ _ _ us hl => match us, hl with | [_, _, _], _ => rfl
  have m5 := PySem.W.mg_of X G a5
  have b6 := F6.binds (ps := ["_law_script", "_law_at", "_law_many", "_law_m"]) fun _ _ _ _ _ _ us hl => match us, hl with | [_, _, _, _], _ => rfl
  have m6 := PySem.W.mg_of X G a6
  have b7 := F7.binds (ps := ["_law_digits", "_law_shape"]) fun _ _ _ _ _ _ us hl => match us, hl with | [_, _], _ => rfl
  have m7 := PySem.W.mg_of X G a7
  have b8 := F8.binds (ps := ["_law_depths"]) fun _ _ _ _ _ _ us hl => match us, hl with | [_], _ => rfl
  have m8 := PySem.W.mg_of X G a8
  have b9 := F9.binds (ps := ["_law_script", "_law_at", "_law_most"]) fun _ _ _ _ _ _ us hl => match us, hl with | [_, _, _], _ => rfl
  have m9 := PySem.W.mg_of X G a9
  have b10 := F10.binds (ps := ["_law_lists_here", "_law_digits"]) fun _ _ _ _ _ _ us hl => match us, hl with | [_, _], _ => rfl
  have m10 := PySem.W.mg_of X G a10
  have b11 := F11.binds (ps := ["_law_lists_here"]) fun _ _ _ _ _ _ us hl => match us, hl with | [_], _ => rfl
  have m11 := PySem.W.mg_of X G a11
  have b12 := F12.binds (ps := ["_law_script"]) fun _ _ _ _ _ _ us hl => match us, hl with | [_], _ => rfl
  have m12 := PySem.W.mg_of X G a12
  have b13 := F13.binds (ps := ["_law_x"]) fun _ _ _ _ _ _ us hl => match us, hl with | [_], _ => rfl
  have m13 := PySem.W.mg_of X G a13
  have b14 := F14.binds (ps := ["_law_lists_here"]) fun _ _ _ _ _ _ us hl => match us, hl with | [_], _ => rfl
  have m14 := PySem.W.mg_of X G a14
  have b15 := F15.binds (ps := ["_law_found"]) fun _ _ _ _ _ _ us hl => match us, hl with | [_], _ => rfl
  have m15 := PySem.W.mg_of X G a15
  have n_zip := PySem.W.mg_none_of X G z1
  have n_len := PySem.W.mg_none_of X G z2
  have n_abs := PySem.W.mg_none_of X G z3
  have n_min := PySem.W.mg_none_of X G z4
  have n_max := PySem.W.mg_none_of X G z5
  have n_range := PySem.W.mg_none_of X G z6
  have n_enumerate := PySem.W.mg_none_of X G z7
  have n_list := PySem.W.mg_none_of X G z8
  have n_isinstance := PySem.W.mg_none_of X G z9
  have n_tuple := PySem.W.mg_none_of X G z10
  have n_int := PySem.W.mg_none_of X G z11
  have n_bool := PySem.W.mg_none_of X G z12
  refine ⟨PySem.W.fnOf "law" "law" (defArgs sLaw) (defBody sLaw) (defScope sLaw) .none kV16 dc16 pm16 an16 cd16 ct16, fun s v => .of_eq rfl, fun base _ _ => ?_⟩
  have gP : FnOk l.prog w K mg base CX0 1 f1 (PySem.W.fnOf "point" "point" (defArgs sPoint) (defBody sPoint) (defScope sPoint) .none kV1 dc1 pm1 an1 cd1 ct1) ["n", "d"] (spPoint K) := ok_point F1
  have gS : FnOk l.prog w K mg base CX0 42 f2 (PySem.W.fnOf "stretches" "stretches" (defArgs sStr) (defBody sStr) (defScope sStr) .none kV2 dc2 pm2 an2 cd2 ct2) ["tree", "n", "d"] (spStr K 41) := all_str F2 b2 m2 gP b1 k1 m1 41
  have gB : FnOk l.prog w K mg base CX0 43 f3 (PySem.W.fnOf "begins" "begins" (defArgs sBeg) (defBody sBeg) (defScope sBeg) .none kV3 dc3 pm3 an3 cd3 ct3) ["tree"] (spBeg K) := ok_beg F3 gS b2 k2 m2
  have gR : FnOk l.prog w K mg base CX0 44 f4 (PySem.W.fnOf "rests" "rests" (defArgs sRests) (defBody sRests) (defScope sRests) .none kV4 dc4 pm4 an4 cd4 ct4) ["mapped"] (spRests K) := ok_rests F4 gB b3 k3 m3 gP b1 k1 m1 n_zip
  have gM41 : FnOk l.prog w K mg base CX0 41 f5 (PySem.W.fnOf "_law_mixed" "_law_mixed" (defArgs sMixed) (defBody sMixed) (defScope sMixed) .none kV5 dc5 pm5 an5 cd5 ct5) ["_law_script", "_law_at", "_law_k"] (spMixed K) := ok_mixed (lv := 40) F5 n_len
  have gD42 : FnOk l.prog w K mg base CX0 42 f6 (PySem.W.fnOf "_law_draws" "_law_draws" (defArgs sDraws) (defBody sDraws) (defScope sDraws) .none kV6 dc6 pm6 an6 cd6 ct6) ["_law_script", "_law_at", "_law_many", "_law_m"] (spDraws K) := ok_draws (lv := 40) F6 gM41 b5 k5 m5 n_len n_abs
  have gM42 : FnOk l.prog w K mg base CX0 42 f5 (PySem.W.fnOf "_law_mixed" "_law_mixed" (defArgs sMixed) (defBody sMixed) (defScope sMixed) .none kV5 dc5 pm5 an5 cd5 ct5) ["_law_script", "_law_at", "_law_k"] (spMixed K) := ok_mixed (lv := 41) F5 n_len
  have gD43 : FnOk l.prog w K mg base CX0 43 f6 (PySem.W.fnOf "_law_draws" "_law_draws" (defArgs sDraws) (defBody sDraws) (defScope sDraws) .none kV6 dc6 pm6 an6 cd6 ct6) ["_law_script", "_law_at", "_law_many", "_law_m"] (spDraws K) := ok_draws (lv := 41) F6 gM42 b5 k5 m5 n_len n_abs
  have gG : FnOk l.prog w K mg base CX0 42 f7 (PySem.W.fnOf "_law_grown" "_law_grown" (defArgs sGrown) (defBody sGrown) (defScope sGrown) .none kV7 dc7 pm7 an7 cd7 ct7) ["_law_digits", "_law_shape"] (spGrown K) := ok_grown (lv := 41) F7 n_len
  have gL : FnOk l.prog w K mg base CX0 43 f9 (PySem.W.fnOf "_law_lists" "_law_lists" (defArgs sLists) (defBody sLists) (defScope sLists) .none kV9 dc9 pm9 an9 cd9 ct9) ["_law_script", "_law_at", "_law_most"] (spLists K) := ok_lists (lv := 41) F9 gD42 b6 k6 m6 gG b7 k7 m7 n_min
  have gU : FnOk l.prog w K mg base CX0 43 f10 (PySem.W.fnOf "_law_bumped" "_law_bumped" (defArgs sBump) (defBody sBump) (defScope sBump) .none kV10 dc10 pm10 an10 cd10 ct10) ["_law_lists_here", "_law_digits"] (spBump K) := ok_bump (lv := 41) F10 gG b7 k7 m7 n_len n_max
  have gW : FnOk l.prog w K mg base CX0 44 f12 (PySem.W.fnOf "_law_drawn" "_law_drawn" (defArgs sDrawn) (defBody sDrawn) (defScope sDrawn) .none kV12 dc12 pm12 an12 cd12 ct12) ["_law_script"] (spDrawn K) := ok_drawn (lv := 42) F12 gL b9 k9 m9 gD43 b6 k6 m6 gU b10 k10 m10 n_range
  have gT : FnOk l.prog w K mg base CX0 44 f8 (PySem.W.fnOf "_law_tree" "_law_tree" (defArgs sTree) (defBody sTree) (defScope sTree) .none kV8 dc8 pm8 an8 cd8 ct8) ["_law_depths"] (spTree K) := ok_tree (lv := 43) F8 n_len
  have gQ : FnOk l.prog w K mg base CX0 43 f11 (PySem.W.fnOf "_law_pairs_of" "_law_pairs_of" (defArgs sPairs) (defBody sPairs) (defScope sPairs) .none kV11 dc11 pm11 an11 cd11 ct11) ["_law_lists_here"] (spPairs K) := ok_pairs (lv := 42) F11 n_zip
  have gX : FnOk l.prog w K mg base CX0 43 f13 (PySem.W.fnOf "_law_point" "_law_point" (defArgs sLpt) (defBody sLpt) (defScope sLpt) .none kV13 dc13 pm13 an13 cd13 ct13) ["_law_x"] (spLpt K) := ok_lpt (lv := 42) F13
  have gE : FnOk l.prog w K mg base CX0 44 f14 (PySem.W.fnOf "_law_due" "_law_due" (defArgs sDue) (defBody sDue) (defScope sDue) .none kV14 dc14 pm14 an14 cd14 ct14) ["_law_lists_here"] (spDue K) := ok_due (lv := 42) F14 gQ b11 k11 m11 gX b13 k13 m13 n_enumerate n_zip n_len n_list
  have gH : FnOk l.prog w K mg base CX0 44 f15 (PySem.W.fnOf "_law_whole" "_law_whole" (defArgs sWhole) (defBody sWhole) (defScope sWhole) .none kV15 dc15 pm15 an15 cd15 ct15) ["_law_found"] (spWhole K) := ok_whole (lv := 43) F15 n_isinstance n_tuple n_len n_int n_bool
  exact ok_law F16 gW b12 k12 m12 gT b8 k8 m8 gE b14 k14 m14 gR b4 k4 m4 gH b15 k15 m15 n_isinstance n_list
theorem walk {l : PySem.W.OpenLaw} {q : Program} {loose : List Str} {XP : (Str → Option Value) → Heap → Prop} {YP : World → Heap → Prop} {d : DefRec} {K : Params → PySem.W.Frag} (hn : l.most = some 63) (hdf : d.params.defaults = [])
    (hY : ∀ (w : World) (h : Heap), YP w h → (K w.params).In h)
    (F : ∀ (w : World) (mg : Str → Option Value) (fa : Addr) (h : Heap), (K w.params).In h → h.Ns mainGlobals mg → mg d.name = some (.ref fa) →
      ∃ fd : FuncData, (∀ (s : Shared) (u : Value), BindsTo s fd ⟨[u], []⟩ [("_law_script", u)]) ∧ ∀ base : Heap, (K w.params).In base → base.Ns mainGlobals mg → FnOk l.prog w (K w.params) mg base CX0 45 fa fd ["_law_script"] (spLaw (K w.params))) :
    PySem.W.WalkO q loose XP YP l.row.toRowW d [] (fun f vs => PySem.call f vs) :=
  L2.walk_of (n := 63) (k := 45) (x := "_law_script") (CX := fun _ => CX0) (sp := fun w => spLaw (K w.params)) hn (by decide) hdf ⟨rfl, by decide, by decide⟩ hY F (fun _ _ a ns _ _ hS => ⟨a, ns, rfl, hS, fun _ => rfl⟩) fun _ _ _ _ _ z => z
end Hw
open PySem PySem.W PyProof.Rows
set_option maxRecDepth 100000 in
set_option maxHeartbeats 0 in
theorem PySem.Challenge.cw_halvewright_k40_whole_where_a_map_rests_holds : PySem.Challenge.rw_halvewright_k40_whole_where_a_map_rests.Holds := by
  w_on; o_law; k_head; (case hw => w_witness2)
  k_fill
  refine Hw.walk (l := PySem.Challenge.rw_halvewright_k40_whole_where_a_map_rests) rfl rfl (fun w h Y => PySem.W.kIn_of Y) ?F
  case F =>
    intro w mg fa h KX G hmg
    refine' Hw.all_mk KX G hmg ?a1 ?l1 ?c1 ?k1 ?a2 ?l2 ?c2 ?k2 ?a3 ?l3 ?c3 ?k3 ?a4 ?l4 ?c4 ?k4 ?a5 ?l5 ?c5 ?k5 ?a6 ?l6 ?c6 ?k6 ?a7 ?l7 ?c7 ?k7 ?a8 ?l8 ?c8 ?k8 ?a9 ?l9 ?c9 ?k9 ?a10 ?l10 ?c10 ?k10 ?a11 ?l11 ?c11 ?k11 ?a12 ?l12 ?c12 ?k12 ?a13 ?l13 ?c13 ?k13 ?a14 ?l14 ?c14 ?k14 ?a15 ?l15 ?c15 ?k15 ?a16 ?l16 ?c16 ?k16 ?z1 ?z2 ?z3 ?z4 ?z5 ?z6 ?z7 ?z8 ?z9 ?z10 ?z11 ?z12
    (case a1 => k_is); (case l1 => k_is); (case c1 => k_is); (case k1 => k_is)
    (case a2 => k_is); (case l2 => k_is); (case c2 => k_is); (case k2 => k_is)
    (case a3 => k_is); (case l3 => k_is); (case c3 => k_is); (case k3 => k_is)
    (case a4 => k_is); (case l4 => k_is); (case c4 => k_is); (case k4 => k_is)
    (case a5 => k_is); (case l5 => k_is); (case c5 => k_is); (case k5 => k_is)
    (case a6 => k_is); (case l6 => k_is); (case c6 => k_is); (case k6 => k_is)
    (case a7 => k_is); (case l7 => k_is); (case c7 => k_is); (case k7 => k_is)
    (case a8 => k_is); (case l8 => k_is); (case c8 => k_is); (case k8 => k_is)
    (case a9 => k_is); (case l9 => k_is); (case c9 => k_is); (case k9 => k_is)
    (case a10 => k_is); (case l10 => k_is); (case c10 => k_is); (case k10 => k_is)
    (case a11 => k_is); (case l11 => k_is); (case c11 => k_is); (case k11 => k_is)
    (case a12 => k_is); (case l12 => k_is); (case c12 => k_is); (case k12 => k_is)
    (case a13 => k_is); (case l13 => k_is); (case c13 => k_is); (case k13 => k_is)
    (case a14 => k_is); (case l14 => k_is); (case c14 => k_is); (case k14 => k_is)
    (case a15 => k_is); (case l15 => k_is); (case c15 => k_is); (case k15 => k_is)
    (case a16 => k_is); (case l16 => k_is); (case c16 => k_is); (case k16 => k_is)
    (case z1 => k_is)
    (case z2 => k_is)
    (case z3 => k_is)
    (case z4 => k_is)
    (case z5 => k_is)
    (case z6 => k_is)
    (case z7 => k_is)
    (case z8 => k_is)
    (case z9 => k_is)
    (case z10 => k_is)
    (case z11 => k_is)
    (case z12 => k_is)
#print axioms PySem.Challenge.cw_halvewright_k40_whole_where_a_map_rests_holds

import PyProof.Rows.All
import Wide.All
import OpenK.AllK
import Wide.FinOn
import HandS.ForMost
import HandS.Defaults
import PySem.Challenge.RW_bymiddles_k73_whole_regret_against_all_r
import HandS.Head0
import HandS.Head1
import HandS.Head2
import HandS.HeadEnd
import HandS.HeadHook1
import HandS.HeadHook2
import HandS.HeadHook3
import HandS.HeadHook4
import HandS.EndTab
import HandS.HeadWalk
import HandS.IsInst
import HandS.Conv
import HandS.TupAny
import HandS.DictComp
import HandS.Wide
import HandS.TupSets
import HandS.More
import PyProof.EnumMake
import PyProof.Draws
import KE.GoesMore
import HandS.Iter
import KE.KDictDisplayH
import KE.SortKeyHeap
import PyProof.TupleOfSeq
import HandS.Nested
import HandS.WordsDict
import HandS.DictSub
import HandS.DictSubView
/-! The mathematics of the law: rows, their lateness, least ends, the regret. No Python here. -/
set_option linter.all false
namespace K73
/-! ### lists -/
theorem sum_perm {l l' : List Int} (h : l.Perm l') : l.sum = l'.sum := by
  induction h with
  | nil => rfl
  | cons x _ ih => rw [List.sum_cons, List.sum_cons, ih]
  | swap x y l => simp only [List.sum_cons]; omega
  | trans _ _ h1 h2 => exact h1.trans h2
theorem sub_perm : ∀ (s s' : List Nat), s.Nodup → (∀ x ∈ s, x ∈ s') → ∃ t, s'.Perm (s ++ t)
  | [], s', _, _ => ⟨s', List.Perm.refl _⟩
  | x :: s, s', hn, hs => by
    have hx : x ∈ s' := hs x List.mem_cons_self
    have hp : s'.Perm (x :: s'.erase x) := List.perm_cons_erase hx
    obtain ⟨hx1, hn1⟩ := List.nodup_cons.mp hn
    obtain ⟨t, ht⟩ := sub_perm s (s'.erase x) hn1 fun y hy => by
      have h1 : y ∈ s' := hs y (List.mem_cons_of_mem _ hy)
      have h2 : y ≠ x := fun e => hx1 (e ▸ hy)
      exact (List.mem_erase_of_ne h2).mpr h1
    exact ⟨t, hp.trans (ht.cons x)⟩
theorem perm_of_len {s s' : List Nat} (hn : s.Nodup) (hs : ∀ x ∈ s, x ∈ s') (hl : s'.length ≤ s.length) : s.Perm s' := by
  obtain ⟨t, ht⟩ := sub_perm s s' hn hs
  have e := ht.length_eq
  rw [List.length_append] at e
  have : t = [] := List.length_eq_zero_iff.mp (by omega)
  subst this
  rw [List.append_nil] at ht
  exact ht.symm
theorem perm_of_mem {s s' : List Nat} (hn : s.Nodup) (hn' : s'.Nodup) (h : ∀ x, x ∈ s ↔ x ∈ s') : s.Perm s' := by
  obtain ⟨t, ht⟩ := sub_perm s s' hn fun x hx => (h x).mp hx
  obtain ⟨t', ht'⟩ := sub_perm s' s hn' fun x hx => (h x).mpr hx
  have e := ht.length_eq
  have e' := ht'.length_eq
  rw [List.length_append] at e e'
  exact perm_of_len hn (fun x hx => (h x).mp hx) (by omega)
theorem sum_nn (d : Nat → Int) (hd : ∀ k, 0 ≤ d k) : ∀ t : List Nat, 0 ≤ (t.map d).sum
  | [] => by simp
  | k :: t => by
    have := sum_nn d hd t
    have := hd k
    rw [List.map_cons, List.sum_cons]
    omega
theorem sum_sub (d : Nat → Int) (hd : ∀ k, 0 ≤ d k) {s s' : List Nat} (hn : s.Nodup) (hs : ∀ x ∈ s, x ∈ s') : (s.map d).sum ≤ (s'.map d).sum := by
  obtain ⟨t, ht⟩ := sub_perm s s' hn hs
  rw [sum_perm (ht.map d), List.map_append, List.sum_append]
  have := sum_nn d hd t
  omega
/-- the last of two ends -/
theorem split_last (p : Nat → Bool) : ∀ r : List Nat, (∃ x ∈ r, p x = true) → ∃ u z b, r = u ++ z :: b ∧ p z = true ∧ ∀ x ∈ b, p x = false
  | [], h => by obtain ⟨_, h, _⟩ := h; cases h
  | y :: r, h => by
    by_cases hr : ∃ x ∈ r, p x = true
    · obtain ⟨u, z, b, e, h1, h2⟩ := split_last p r hr
      exact ⟨y :: u, z, b, by rw [e]; rfl, h1, h2⟩
    · have hb : ∀ x ∈ r, p x = false := fun x hx => by
        cases q : p x with
        | false => rfl
        | true => exact (hr ⟨x, hx, q⟩).elim
      obtain ⟨x, hx, hp⟩ := h
      rcases List.mem_cons.mp hx with e | e
      · exact ⟨[], y, r, rfl, e ▸ hp, hb⟩
      · exact (hr ⟨x, e, hp⟩).elim
/-- the stretch from the first to the last of those that p tells -/
theorem split_both (p : Nat → Bool) : ∀ r : List Nat, (∃ x ∈ r, p x = true) → ∃ a s b y z, r = a ++ s ++ b ∧ s.head? = some y ∧ s.getLast? = some z ∧ p y = true ∧ p z = true ∧ ∀ x ∈ r, p x = true → x ∈ s
  | [], h => by obtain ⟨_, h, _⟩ := h; cases h
  | y :: r, h => by
    cases hy : p y with
    | true =>
      by_cases hr : ∃ x ∈ r, p x = true
      · obtain ⟨u, z, b, e, h1, h2⟩ := split_last p r hr
        refine ⟨[], y :: (u ++ [z]), b, y, z, by rw [e]; simp, rfl, by simp [List.getLast?_cons], hy, h1, fun x hx hp => ?_⟩
        rcases List.mem_cons.mp hx with e1 | e1
        · rw [e1]; exact List.mem_cons_self
        · rw [e] at e1
          rcases List.mem_append.mp e1 with q | q
          · exact List.mem_cons_of_mem _ (List.mem_append_left _ q)
          · rcases List.mem_cons.mp q with q | q
            · rw [q]; exact List.mem_cons_of_mem _ (List.mem_append_right _ List.mem_cons_self)
            · rw [h2 x q] at hp; cases hp
      · refine ⟨[], [y], r, y, y, rfl, rfl, rfl, hy, hy, fun x hx hp => ?_⟩
        rcases List.mem_cons.mp hx with e1 | e1
        · rw [e1]; exact List.mem_cons_self
        · exact (hr ⟨x, e1, hp⟩).elim
    | false =>
      have hr : ∃ x ∈ r, p x = true := by
        obtain ⟨x, hx, hp⟩ := h
        rcases List.mem_cons.mp hx with e | e
        · rw [e, hy] at hp; cases hp
        · exact ⟨x, e, hp⟩
      obtain ⟨a, s, b, y', z, e, h1, h2, h3, h4, h5⟩ := split_both p r hr
      refine ⟨y :: a, s, b, y', z, by rw [e]; rfl, h1, h2, h3, h4, fun x hx hp => ?_⟩
      rcases List.mem_cons.mp hx with e1 | e1
      · rw [e1, hy] at hp; cases hp
      · exact h5 x e1 hp
theorem nodup_ends {s : List Nat} {y : Nat} (hn : s.Nodup) (h1 : s.head? = some y) (h2 : s.getLast? = some y) : s = [y] := by
  cases s with
  | nil => cases h1
  | cons a r =>
    cases h1
    cases r with
    | nil => rfl
    | cons b r =>
      have h3 : (b :: r).getLast? = some y := by rw [List.getLast?_cons_cons] at h2; exact h2
      have : y ∈ b :: r := List.mem_of_getLast? h3
      exact ((List.nodup_cons.mp hn).1 this).elim

/-! ### rows of works: f the first hours, l the last ones, d the lengths, q who is there -/
section
variable (f l d : Nat → Int) (q : Nat → Bool)
/-- the clock behind a row -/
def clk : Int → List Nat → Int
  | c, [] => c
  | c, k :: r => if q k = true then clk (max c (f k) + d k) r else clk c r
/-- how late each one is -/
def lts : Int → List Nat → List Int
  | _, [] => []
  | c, k :: r => if q k = true then (max c (f k) + d k - l k) :: lts (max c (f k) + d k) r else lts c r
/-- a stretch's first hour and load less its last hour -/
def val (s : List Nat) (y z : Nat) : Int := f y + (s.map d).sum - l z
variable {f l d q}
/-- each lateness is that of a stretch, or of the clock at the start -/
theorem lts_is (h0 : ∀ k, q k = false → d k = 0) : ∀ (r : List Nat) (c x : Int), x ∈ lts f l d q c r →
    (∃ t b z, r = t ++ b ∧ t.getLast? = some z ∧ q z = true ∧ x = c + (t.map d).sum - l z) ∨
    ∃ a t b y z, r = a ++ t ++ b ∧ t.head? = some y ∧ t.getLast? = some z ∧ q y = true ∧ q z = true ∧ x = val f l d t y z
  | [], c, x, h => by cases h
  | k :: r, c, x, h => by
    unfold lts at h
    cases hk : q k with
    | false =>
      rw [hk, if_neg (by decide)] at h
      rcases lts_is h0 r c x h with ⟨t, b, z, e, h1, h2, h3⟩ | ⟨a, t, b, y, z, e, h1, h2, h3, h4, h5⟩
      · refine .inl ⟨k :: t, b, z, by rw [e]; rfl, ?_, h2, ?_⟩
        · cases t with
          | nil => cases h1
          | cons t0 t => rw [List.getLast?_cons_cons]; exact h1
        · rw [List.map_cons, List.sum_cons, h0 k hk, h3]; omega
      · exact .inr ⟨k :: a, t, b, y, z, by rw [e]; rfl, h1, h2, h3, h4, h5⟩
    | true =>
      rw [hk, if_pos rfl] at h
      -- the stretch that begins with k at the clock c, or at its first hour
      have start : ∀ (t : List Nat) (b : List Nat) (z : Nat), k :: r = (k :: t) ++ b → (k :: t).getLast? = some z → q z = true → x = max c (f k) + ((k :: t).map d).sum - l z →
          (∃ t b z, k :: r = t ++ b ∧ t.getLast? = some z ∧ q z = true ∧ x = c + (t.map d).sum - l z) ∨
          ∃ a t b y z, k :: r = a ++ t ++ b ∧ t.head? = some y ∧ t.getLast? = some z ∧ q y = true ∧ q z = true ∧ x = val f l d t y z := by
        intro t b z e h1 h2 h3
        by_cases hc : f k ≤ c
        · exact .inl ⟨k :: t, b, z, e, h1, h2, by rw [h3, Int.max_eq_left hc]⟩
        · exact .inr ⟨[], k :: t, b, k, z, e, rfl, h1, hk, h2, by unfold val; rw [h3, Int.max_eq_right (by omega)]⟩
      rcases List.mem_cons.mp h with e | h
      · exact start [] r k rfl rfl hk (by rw [e]; simp)
      · rcases lts_is h0 r _ x h with ⟨t, b, z, e, h1, h2, h3⟩ | ⟨a, t, b, y, z, e, h1, h2, h3, h4, h5⟩
        · refine start t b z (by rw [e]; rfl) ?_ h2 ?_
          · cases t with
            | nil => cases h1
            | cons t0 t => rw [List.getLast?_cons_cons]; exact h1
          · rw [List.map_cons, List.sum_cons, h3]; omega
        · exact .inr ⟨k :: a, t, b, y, z, by rw [e]; rfl, h1, h2, h3, h4, h5⟩
/-- no stretch is worth more than the lateness (all there) -/
theorem lts_from : ∀ (t b : List Nat) (c : Int) (z : Nat), (∀ k ∈ t, q k = true) → t.getLast? = some z → ∃ x ∈ lts f l d q c (t ++ b), c + (t.map d).sum - l z ≤ x
  | [], b, c, z, _, h => by cases h
  | [k], b, c, z, ha, h => by
    obtain rfl : k = z := Option.some.inj h
    have hk := ha k List.mem_cons_self
    refine ⟨max c (f k) + d k - l k, ?_, ?_⟩
    · show _ ∈ lts f l d q c (k :: b)
      unfold lts
      rw [if_pos hk]
      exact List.mem_cons_self
    · have := Int.le_max_left c (f k)
      simp only [List.map_cons, List.map_nil, List.sum_cons, List.sum_nil]
      omega
  | k :: k' :: t, b, c, z, ha, h => by
    have hk := ha k List.mem_cons_self
    rw [List.getLast?_cons_cons] at h
    obtain ⟨x, hx, hle⟩ := lts_from (k' :: t) b (max c (f k) + d k) z (fun y hy => ha y (List.mem_cons_of_mem _ hy)) h
    refine ⟨x, ?_, ?_⟩
    · show x ∈ lts f l d q c (k :: (k' :: t ++ b))
      rw [lts, if_pos hk]
      exact List.mem_cons_of_mem _ hx
    · have := Int.le_max_left c (f k)
      rw [List.map_cons, List.sum_cons]
      omega
theorem lts_ge : ∀ (a s b : List Nat) (c : Int) (y z : Nat), (∀ k ∈ a ++ s ++ b, q k = true) → s.head? = some y → s.getLast? = some z → ∃ x ∈ lts f l d q c (a ++ s ++ b), val f l d s y z ≤ x
  | [], s, b, c, y, z, ha, h1, h2 => by
    cases s with
    | nil => cases h1
    | cons k t =>
      cases h1
      have hy := ha y (by simp)
      cases t with
      | nil =>
        obtain rfl : y = z := Option.some.inj h2
        refine ⟨max c (f y) + d y - l y, ?_, ?_⟩
        · show _ ∈ lts f l d q c (y :: b)
          rw [lts, if_pos hy]
          exact List.mem_cons_self
        · have := Int.le_max_right c (f y)
          unfold val
          simp only [List.map_cons, List.map_nil, List.sum_cons, List.sum_nil]
          omega
      | cons k' t =>
        rw [List.getLast?_cons_cons] at h2
        obtain ⟨x, hx, hle⟩ := lts_from (f := f) (l := l) (d := d) (q := q) (k' :: t) b (max c (f y) + d y) z (fun k hk => ha k (by
          simp only [List.nil_append]
          exact List.mem_append_left _ (List.mem_cons_of_mem _ hk))) h2
        refine ⟨x, ?_, ?_⟩
        · show x ∈ lts f l d q c (y :: (k' :: t ++ b))
          rw [lts, if_pos hy]
          exact List.mem_cons_of_mem _ hx
        · have := Int.le_max_right c (f y)
          unfold val
          rw [List.map_cons, List.sum_cons]
          omega
  | k :: a, s, b, c, y, z, ha, h1, h2 => by
    have hk := ha k (by simp)
    obtain ⟨x, hx, hle⟩ := lts_ge a s b (max c (f k) + d k) y z (fun k' hk' => ha k' (by
      show k' ∈ k :: (a ++ s ++ b)
      exact List.mem_cons_of_mem _ hk')) h1 h2
    refine ⟨x, ?_, hle⟩
    show x ∈ lts f l d q c (k :: (a ++ s ++ b))
    rw [lts, if_pos hk]
    exact List.mem_cons_of_mem _ hx
/-- with a clock that no first hour is below, each lateness is that of a stretch -/
theorem lts_is0 (h0 : ∀ k, q k = false → d k = 0) {c x : Int} (hc : ∀ k, c ≤ f k) : ∀ (r : List Nat), x ∈ lts f l d q c r →
    ∃ a t b y z, r = a ++ t ++ b ∧ t.head? = some y ∧ t.getLast? = some z ∧ q y = true ∧ q z = true ∧ x = val f l d t y z
  | [], h => by cases h
  | k :: r, h => by
    unfold lts at h
    cases hk : q k with
    | false =>
      rw [hk, if_neg (by decide)] at h
      obtain ⟨a, t, b, y, z, e, h1, h2, h3, h4, h5⟩ := lts_is0 h0 hc r h
      exact ⟨k :: a, t, b, y, z, by rw [e]; rfl, h1, h2, h3, h4, h5⟩
    | true =>
      rw [hk, if_pos rfl, Int.max_eq_right (hc k)] at h
      rcases List.mem_cons.mp h with e | h
      · exact ⟨[], [k], r, k, k, rfl, rfl, rfl, hk, hk, by unfold val; rw [e]; simp⟩
      · rcases lts_is h0 r _ x h with ⟨t, b, z, e, h1, h2, h3⟩ | ⟨a, t, b, y, z, e, h1, h2, h3, h4, h5⟩
        · refine ⟨[], k :: t, b, k, z, by rw [e]; rfl, rfl, ?_, hk, h2, ?_⟩
          · cases t with
            | nil => cases h1
            | cons t0 t => rw [List.getLast?_cons_cons]; exact h1
          · unfold val
            rw [List.map_cons, List.sum_cons, h3]; omega
        · exact ⟨k :: a, t, b, y, z, by rw [e]; rfl, h1, h2, h3, h4, h5⟩
/-- what the regret z of an order must keep -/
def RegOk (f l : Nat → Int) (o : List Nat) (z : Int) : Prop := 0 ≤ z ∧ ∀ (a s b : List Nat) (i j u v : Nat), o = a ++ s ++ b → s.head? = some i → s.getLast? = some j → u ∈ s → v ∈ s → u ≠ v → f i - f u + l v - l j ≤ z
/-- the lengths of those that are not there are nothing -/
theorem sum_there (h0 : ∀ k, q k = false → d k = 0) : ∀ t : List Nat, (t.map d).sum = ((t.filter q).map d).sum
  | [] => rfl
  | k :: t => by
    have ih := sum_there h0 t
    cases hk : q k with
    | false => rw [List.filter_cons_of_neg (by simp [hk]), List.map_cons, List.sum_cons, h0 k hk, ih]; omega
    | true => rw [List.filter_cons_of_pos hk, List.map_cons, List.sum_cons, List.map_cons, List.sum_cons, ih]
/-- THE SEVENTH FACT, one half: each lateness of the order is at most by the regret greater than some lateness of any row of just those that are there -/
theorem regret_fact {o r : List Nat} {z x : Int} (hf : ∀ k, 0 ≤ f k) (hd : ∀ k, 0 ≤ d k) (h0 : ∀ k, q k = false → d k = 0) (ho : o.Nodup) (hr : r.Nodup) (hq : ∀ k ∈ r, q k = true) (hs : ∀ k ∈ o, q k = true → k ∈ r)
    (R : RegOk f l o z) (hx : x ∈ lts f l d q 0 o) : ∃ x' ∈ lts f l d q 0 r, x - x' ≤ z := by
  obtain ⟨a, t, b, i, j, e, h1, h2, h3, h4, h5⟩ := lts_is0 h0 hf o hx
  have it : i ∈ t := List.mem_of_head? h1
  have jt : j ∈ t := List.mem_of_getLast? h2
  have tn : t.Nodup := by
    rw [e] at ho
    exact (List.nodup_append.mp (List.nodup_append.mp ho).1).2.1
  have to : ∀ k ∈ t, k ∈ o := fun k hk => by rw [e]; exact List.mem_append_left _ (List.mem_append_right _ hk)
  -- those of the stretch that are there, in the other row
  obtain ⟨a', s', b', u, v, e', g1, g2, g3, g4, g5⟩ := split_both (fun k => decide (k ∈ t.filter q)) r ⟨i, hs i (to i it) h3, decide_eq_true (List.mem_filter.mpr ⟨it, h3⟩)⟩
  have g3 := of_decide_eq_true g3
  have g4 := of_decide_eq_true g4
  obtain ⟨x', hx', hv⟩ := lts_ge (f := f) (l := l) (d := d) (q := q) a' s' b' 0 u v (fun k hk => hq k (e' ▸ hk)) g1 g2
  rw [← e'] at hx'
  refine ⟨x', hx', ?_⟩
  have sub : ∀ k ∈ t.filter q, k ∈ s' := fun k hk => g5 k (by
    obtain ⟨k1, k2⟩ := List.mem_filter.mp hk
    exact hs k (to k k1) k2) (decide_eq_true hk)
  have sn : s'.Nodup := by
    rw [e'] at hr
    exact (List.nodup_append.mp (List.nodup_append.mp hr).1).2.1
  have hsum : (t.map d).sum ≤ (s'.map d).sum := by
    rw [sum_there h0 t]
    exact sum_sub d hd (tn.sublist List.filter_sublist) sub
  unfold val at h5 hv
  by_cases huv : u = v
  · subst huv
    have es := nodup_ends sn g1 g2
    have iu : i = u := by
      have := sub i (List.mem_filter.mpr ⟨it, h3⟩)
      rw [es] at this
      exact List.mem_singleton.mp this
    have ju : j = u := by
      have := sub j (List.mem_filter.mpr ⟨jt, h4⟩)
      rw [es] at this
      exact List.mem_singleton.mp this
    have := R.1
    rw [iu, ju] at h5
    omega
  · have := R.2 a t b i j u v e h1 h2 (List.mem_filter.mp g3).1 (List.mem_filter.mp g4).1 huv
    omega
end
end K73
set_option Elab.async false
set_option linter.all false
set_option maxRecDepth 100000
set_option maxHeartbeats 4000000
/-! The text by places. -/
namespace K73
open PySem PySem.Spec PyProof.Rows L2
def top (i : Nat) : Stmt := PySem.Challenge.pw_bymiddles_k73_whole_regret_against_all_r.main.body.getD i (.Pass ⟨0, 0, 0, 0⟩)
abbrev FnP (K : PySem.W.Frag) (x : Str) (st : Stmt) (f : Addr) (fd : FuncData) : Prop := FunD K x x (defArgs st) (defBody st) (defScope st) [] [] f fd
abbrev s_is_integer : Stmt := top 8
abbrev s_is_within : Stmt := top 9
abbrev s_is_from : Stmt := top 10
abbrev s_is_pair : Stmt := top 11
abbrev s_check_many : Stmt := top 12
abbrev s_is_window : Stmt := top 16
abbrev s_many_of : Stmt := top 18
abbrev s_first_of : Stmt := top 19
abbrev s_last_of : Stmt := top 20
abbrev s_is_work : Stmt := top 21
abbrev s_is_row : Stmt := top 22
abbrev s_is_order : Stmt := top 23
abbrev s_is_lot : Stmt := top 24
abbrev s_check_row : Stmt := top 25
abbrev s_check_order : Stmt := top 26
abbrev s_check_lot : Stmt := top 27
abbrev s_works_there : Stmt := top 28
abbrev s_groups_of : Stmt := top 29
abbrev s_check_run : Stmt := top 31
abbrev s_ran : Stmt := top 32
abbrev s_late_of : Stmt := top 33
abbrev s_lateness : Stmt := top 34
abbrev s_check_few : Stmt := top 37
abbrev s_lengths_of : Stmt := top 38
abbrev s_less_one : Stmt := top 39
abbrev s_end_behind : Stmt := top 40
abbrev s_late_ends : Stmt := top 41
abbrev s_least_late : Stmt := top 42
abbrev s_widest_of : Stmt := top 44
abbrev s_worst_behind : Stmt := top 45
abbrev s_regret_in : Stmt := top 46
abbrev s_regret : Stmt := top 47
abbrev s_w_pool : Stmt := top 49
abbrev s_w_draw : Stmt := top 50
abbrev s_w_windows : Stmt := top 51
abbrev s_w_row : Stmt := top 52
abbrev s_w_lot : Stmt := top 53
abbrev s_w_some : Stmt := top 54
abbrev s_w_run : Stmt := top 55
abbrev s_w_lateness : Stmt := top 56
abbrev s_w_is_int : Stmt := top 57
abbrev s_w_perms : Stmt := top 58
abbrev s_w_long : Stmt := top 59
abbrev s_law : Stmt := top 60
abbrev s_init : Stmt := inClass (top 17) 0
end K73
set_option Elab.async false
set_option linter.all false
set_option maxRecDepth 100000
set_option maxHeartbeats 0
namespace K73
open PySem PySem.Spec PyProof.Rows L2
def d_is_integer : He.DefD := ⟨("is_integer", none), "is_integer", "is_integer", defArgs s_is_integer, defBody s_is_integer, defScope s_is_integer, [], []⟩
def d_is_within : He.DefD := ⟨("is_within", none), "is_within", "is_within", defArgs s_is_within, defBody s_is_within, defScope s_is_within, [], []⟩
def d_is_from : He.DefD := ⟨("is_from", none), "is_from", "is_from", defArgs s_is_from, defBody s_is_from, defScope s_is_from, [], []⟩
def d_is_pair : He.DefD := ⟨("is_pair", none), "is_pair", "is_pair", defArgs s_is_pair, defBody s_is_pair, defScope s_is_pair, [], []⟩
def d_check_many : He.DefD := ⟨("check_many", none), "check_many", "check_many", defArgs s_check_many, defBody s_check_many, defScope s_check_many, [], []⟩
def d_is_window : He.DefD := ⟨("is_window", none), "is_window", "is_window", defArgs s_is_window, defBody s_is_window, defScope s_is_window, [], []⟩
def d_many_of : He.DefD := ⟨("many_of", none), "many_of", "many_of", defArgs s_many_of, defBody s_many_of, defScope s_many_of, [], []⟩
def d_first_of : He.DefD := ⟨("first_of", none), "first_of", "first_of", defArgs s_first_of, defBody s_first_of, defScope s_first_of, [], []⟩
def d_last_of : He.DefD := ⟨("last_of", none), "last_of", "last_of", defArgs s_last_of, defBody s_last_of, defScope s_last_of, [], []⟩
def d_is_work : He.DefD := ⟨("is_work", none), "is_work", "is_work", defArgs s_is_work, defBody s_is_work, defScope s_is_work, [], []⟩
def d_is_row : He.DefD := ⟨("is_row", none), "is_row", "is_row", defArgs s_is_row, defBody s_is_row, defScope s_is_row, [], []⟩
def d_is_order : He.DefD := ⟨("is_order", none), "is_order", "is_order", defArgs s_is_order, defBody s_is_order, defScope s_is_order, [], []⟩
def d_is_lot : He.DefD := ⟨("is_lot", none), "is_lot", "is_lot", defArgs s_is_lot, defBody s_is_lot, defScope s_is_lot, [], []⟩
def d_check_row : He.DefD := ⟨("check_row", none), "check_row", "check_row", defArgs s_check_row, defBody s_check_row, defScope s_check_row, [], []⟩
def d_check_order : He.DefD := ⟨("check_order", none), "check_order", "check_order", defArgs s_check_order, defBody s_check_order, defScope s_check_order, [], []⟩
def d_check_lot : He.DefD := ⟨("check_lot", none), "check_lot", "check_lot", defArgs s_check_lot, defBody s_check_lot, defScope s_check_lot, [], []⟩
def d_works_there : He.DefD := ⟨("works_there", none), "works_there", "works_there", defArgs s_works_there, defBody s_works_there, defScope s_works_there, [], []⟩
def d_groups_of : He.DefD := ⟨("groups_of", none), "groups_of", "groups_of", defArgs s_groups_of, defBody s_groups_of, defScope s_groups_of, [], []⟩
def d_check_run : He.DefD := ⟨("check_run", none), "check_run", "check_run", defArgs s_check_run, defBody s_check_run, defScope s_check_run, [], []⟩
def d_ran : He.DefD := ⟨("ran", none), "ran", "ran", defArgs s_ran, defBody s_ran, defScope s_ran, [], []⟩
def d_late_of : He.DefD := ⟨("late_of", none), "late_of", "late_of", defArgs s_late_of, defBody s_late_of, defScope s_late_of, [], []⟩
def d_lateness : He.DefD := ⟨("lateness", none), "lateness", "lateness", defArgs s_lateness, defBody s_lateness, defScope s_lateness, [], []⟩
def d_check_few : He.DefD := ⟨("check_few", none), "check_few", "check_few", defArgs s_check_few, defBody s_check_few, defScope s_check_few, [], []⟩
def d_lengths_of : He.DefD := ⟨("lengths_of", none), "lengths_of", "lengths_of", defArgs s_lengths_of, defBody s_lengths_of, defScope s_lengths_of, [], []⟩
def d_less_one : He.DefD := ⟨("less_one", none), "less_one", "less_one", defArgs s_less_one, defBody s_less_one, defScope s_less_one, [], []⟩
def d_end_behind : He.DefD := ⟨("end_behind", none), "end_behind", "end_behind", defArgs s_end_behind, defBody s_end_behind, defScope s_end_behind, [], []⟩
def d_late_ends : He.DefD := ⟨("late_ends", none), "late_ends", "late_ends", defArgs s_late_ends, defBody s_late_ends, defScope s_late_ends, [], []⟩
def d_least_late : He.DefD := ⟨("least_late", none), "least_late", "least_late", defArgs s_least_late, defBody s_least_late, defScope s_least_late, [], []⟩
def d_widest_of : He.DefD := ⟨("widest_of", none), "widest_of", "widest_of", defArgs s_widest_of, defBody s_widest_of, defScope s_widest_of, [], []⟩
def d_worst_behind : He.DefD := ⟨("worst_behind", none), "worst_behind", "worst_behind", defArgs s_worst_behind, defBody s_worst_behind, defScope s_worst_behind, [], []⟩
def d_regret_in : He.DefD := ⟨("regret_in", none), "regret_in", "regret_in", defArgs s_regret_in, defBody s_regret_in, defScope s_regret_in, [], []⟩
def d_regret : He.DefD := ⟨("regret", none), "regret", "regret", defArgs s_regret, defBody s_regret, defScope s_regret, [], []⟩
def d_w_pool : He.DefD := ⟨("_law_pool", none), "_law_pool", "_law_pool", defArgs s_w_pool, defBody s_w_pool, defScope s_w_pool, [], []⟩
def d_w_draw : He.DefD := ⟨("_law_draw", none), "_law_draw", "_law_draw", defArgs s_w_draw, defBody s_w_draw, defScope s_w_draw, [], []⟩
def d_w_windows : He.DefD := ⟨("_law_windows", none), "_law_windows", "_law_windows", defArgs s_w_windows, defBody s_w_windows, defScope s_w_windows, [], []⟩
def d_w_row : He.DefD := ⟨("_law_row", none), "_law_row", "_law_row", defArgs s_w_row, defBody s_w_row, defScope s_w_row, [], []⟩
def d_w_lot : He.DefD := ⟨("_law_lot", none), "_law_lot", "_law_lot", defArgs s_w_lot, defBody s_w_lot, defScope s_w_lot, [], []⟩
def d_w_some : He.DefD := ⟨("_law_some", none), "_law_some", "_law_some", defArgs s_w_some, defBody s_w_some, defScope s_w_some, [], []⟩
def d_w_run : He.DefD := ⟨("_law_run", none), "_law_run", "_law_run", defArgs s_w_run, defBody s_w_run, defScope s_w_run, [], []⟩
def d_w_lateness : He.DefD := ⟨("_law_lateness", none), "_law_lateness", "_law_lateness", defArgs s_w_lateness, defBody s_w_lateness, defScope s_w_lateness, [], []⟩
def d_w_is_int : He.DefD := ⟨("_law_is_int", none), "_law_is_int", "_law_is_int", defArgs s_w_is_int, defBody s_w_is_int, defScope s_w_is_int, [], []⟩
def d_w_perms : He.DefD := ⟨("_law_perms", none), "_law_perms", "_law_perms", defArgs s_w_perms, defBody s_w_perms, defScope s_w_perms, [], []⟩
def d_w_long : He.DefD := ⟨("_law_long", none), "_law_long", "_law_long", defArgs s_w_long, defBody s_w_long, defScope s_w_long, [], []⟩
def d_law : He.DefD := ⟨("law", none), "law", "law", defArgs s_law, defBody s_law, defScope s_law, [], []⟩
def d_init : He.DefD := ⟨("Book", some "__init__"), "__init__", "Book.__init__", defArgs s_init, defBody s_init, defScope s_init, [], []⟩
def fn : List He.DefD := ([d_is_integer, d_is_within, d_is_from, d_is_pair, d_check_many, d_is_window, d_many_of, d_first_of, d_last_of, d_is_work, d_is_row, d_is_order, d_is_lot, d_check_row, d_check_order, d_check_lot, d_works_there, d_groups_of, d_check_run, d_ran] : List He.DefD) ++ ([d_late_of, d_lateness, d_check_few, d_lengths_of, d_less_one, d_end_behind, d_late_ends, d_least_late, d_widest_of, d_worst_behind, d_regret_in, d_regret, d_w_pool, d_w_draw, d_w_windows, d_w_row, d_w_lot, d_w_some, d_w_run, d_w_lateness] : List He.DefD) ++ ([d_w_is_int, d_w_perms, d_w_long, d_law, d_init] : List He.DefD)
def fa : List He.Fa := ([.glo "is_integer", .glo "is_within", .glo "is_from", .glo "is_pair", .glo "check_many", .glo "is_window", .glo "many_of", .glo "first_of", .glo "last_of", .glo "is_work", .glo "is_row", .glo "is_order", .glo "is_lot", .glo "check_row", .glo "check_order", .glo "check_lot", .glo "works_there", .glo "groups_of", .glo "check_run", .glo "ran"] : List He.Fa) ++ ([.glo "late_of", .glo "lateness", .glo "check_few", .glo "lengths_of", .glo "less_one", .glo "end_behind", .glo "late_ends", .glo "least_late", .glo "widest_of", .glo "worst_behind", .glo "regret_in", .glo "regret", .glo "_law_pool", .glo "_law_draw", .glo "_law_windows", .glo "_law_row", .glo "_law_lot", .glo "_law_some", .glo "_law_run", .glo "_law_lateness"] : List He.Fa) ++ ([.glo "_law_is_int", .glo "_law_perms", .glo "_law_long", .glo "law", .glo "Book", .free "isinstance", .free "tuple", .free "int", .free "bool", .free "len", .free "all", .free "any", .free "set", .free "list", .free "sorted", .free "enumerate", .free "max", .free "min", .free "range", .free "sum"] : List He.Fa) ++ ([.free "abs", .int "MOST_HOUR" 1000000, .int "MOST_WORKS" 40, .int "MOST_THERE" 10, .cls "Book", .noat "Book" "windows", .noat "Book" "kept_windows", .mkr "Book"] : List He.Fa)
def loose : List Str := (["__name__", "MiddleError", "BadBook", "NoLot", "NoRow", "TooMany", "NoOrder", "is_integer", "is_within", "is_from", "is_pair", "check_many", "MOST_WORKS", "MOST_HOUR", "is_window", "Book", "many_of", "first_of", "last_of", "is_work"] : List Str) ++ (["is_row", "is_order", "is_lot", "check_row", "check_order", "check_lot", "works_there", "groups_of", "check_run", "ran", "late_of", "lateness", "MOST_THERE", "check_few", "lengths_of", "less_one", "end_behind", "late_ends", "least_late", "widest_of"] : List Str) ++ (["worst_behind", "regret_in", "regret", "_law_pool", "_law_draw", "_law_windows", "_law_row", "_law_lot", "_law_some", "_law_run", "_law_lateness", "_law_is_int", "_law_perms", "_law_long"] : List Str)
def tf : List He.Defn := [("groups_of", none), ("widest_of", none)]
/-- the two tables are unlike -/
def exB (K : PySem.W.Frag) : Bool := !((He.cT K ("groups_of", none)).2 == (He.cT K ("widest_of", none)).2)
abbrev R : PySem.W.OpenRow := PySem.W.OpenLaw.row PySem.Challenge.rw_bymiddles_k73_whole_regret_against_all_r
abbrev hk : PySem.W.Hook := He.hookX 5 fa fn [] tf exB
def ob (s : PySem.W.SharedT) : He.AlX := He.obsX 5 fa fn [] tf exB (HandSHeadRun.getT s)
theorem ob_eq (s : PySem.W.SharedT) : ob s = hk.obs s.abs := He.obsX_eq (HandSHeadRun.getT_eq s)
theorem run (w : World) : HandSHeadRun.RunEq R (PySem.W.view R.prog [60]) hk ob 4000 loose w := by
  intro os
  kernel_rfl
end K73
set_option Elab.async false
set_option linter.all false
set_option maxRecDepth 100000
set_option maxHeartbeats 4000000
/-! What the top has left, one field a fact (printed by gen_tx.py). -/
namespace K73
open PySem PySem.Spec PyProof.Rows L2
structure Tx (K : PySem.W.Frag) (mg : Str → Option Value) : Prop where
  g_is_integer : mg "is_integer" = some (.ref (He.ga K "is_integer"))
  F_is_integer : ∃ fd, FnP K "is_integer" s_is_integer (He.ga K "is_integer") fd
  g_is_within : mg "is_within" = some (.ref (He.ga K "is_within"))
  F_is_within : ∃ fd, FnP K "is_within" s_is_within (He.ga K "is_within") fd
  g_is_from : mg "is_from" = some (.ref (He.ga K "is_from"))
  F_is_from : ∃ fd, FnP K "is_from" s_is_from (He.ga K "is_from") fd
  g_is_pair : mg "is_pair" = some (.ref (He.ga K "is_pair"))
  F_is_pair : ∃ fd, FnP K "is_pair" s_is_pair (He.ga K "is_pair") fd
  g_check_many : mg "check_many" = some (.ref (He.ga K "check_many"))
  F_check_many : ∃ fd, FnP K "check_many" s_check_many (He.ga K "check_many") fd
  g_is_window : mg "is_window" = some (.ref (He.ga K "is_window"))
  F_is_window : ∃ fd, FnP K "is_window" s_is_window (He.ga K "is_window") fd
  g_many_of : mg "many_of" = some (.ref (He.ga K "many_of"))
  F_many_of : ∃ fd, FnP K "many_of" s_many_of (He.ga K "many_of") fd
  g_first_of : mg "first_of" = some (.ref (He.ga K "first_of"))
  F_first_of : ∃ fd, FnP K "first_of" s_first_of (He.ga K "first_of") fd
  g_last_of : mg "last_of" = some (.ref (He.ga K "last_of"))
  F_last_of : ∃ fd, FnP K "last_of" s_last_of (He.ga K "last_of") fd
  g_is_work : mg "is_work" = some (.ref (He.ga K "is_work"))
  F_is_work : ∃ fd, FnP K "is_work" s_is_work (He.ga K "is_work") fd
  g_is_row : mg "is_row" = some (.ref (He.ga K "is_row"))
  F_is_row : ∃ fd, FnP K "is_row" s_is_row (He.ga K "is_row") fd
  g_is_order : mg "is_order" = some (.ref (He.ga K "is_order"))
  F_is_order : ∃ fd, FnP K "is_order" s_is_order (He.ga K "is_order") fd
  g_is_lot : mg "is_lot" = some (.ref (He.ga K "is_lot"))
  F_is_lot : ∃ fd, FnP K "is_lot" s_is_lot (He.ga K "is_lot") fd
  g_check_row : mg "check_row" = some (.ref (He.ga K "check_row"))
  F_check_row : ∃ fd, FnP K "check_row" s_check_row (He.ga K "check_row") fd
  g_check_order : mg "check_order" = some (.ref (He.ga K "check_order"))
  F_check_order : ∃ fd, FnP K "check_order" s_check_order (He.ga K "check_order") fd
  g_check_lot : mg "check_lot" = some (.ref (He.ga K "check_lot"))
  F_check_lot : ∃ fd, FnP K "check_lot" s_check_lot (He.ga K "check_lot") fd
  g_works_there : mg "works_there" = some (.ref (He.ga K "works_there"))
  F_works_there : ∃ fd, FnP K "works_there" s_works_there (He.ga K "works_there") fd
  g_groups_of : mg "groups_of" = some (.ref (He.ga K "groups_of"))
  F_groups_of : ∃ fd, FnP K "groups_of" s_groups_of (He.ga K "groups_of") fd
  g_check_run : mg "check_run" = some (.ref (He.ga K "check_run"))
  F_check_run : ∃ fd, FnP K "check_run" s_check_run (He.ga K "check_run") fd
  g_ran : mg "ran" = some (.ref (He.ga K "ran"))
  F_ran : ∃ fd, FnP K "ran" s_ran (He.ga K "ran") fd
  g_late_of : mg "late_of" = some (.ref (He.ga K "late_of"))
  F_late_of : ∃ fd, FnP K "late_of" s_late_of (He.ga K "late_of") fd
  g_lateness : mg "lateness" = some (.ref (He.ga K "lateness"))
  F_lateness : ∃ fd, FnP K "lateness" s_lateness (He.ga K "lateness") fd
  g_check_few : mg "check_few" = some (.ref (He.ga K "check_few"))
  F_check_few : ∃ fd, FnP K "check_few" s_check_few (He.ga K "check_few") fd
  g_lengths_of : mg "lengths_of" = some (.ref (He.ga K "lengths_of"))
  F_lengths_of : ∃ fd, FnP K "lengths_of" s_lengths_of (He.ga K "lengths_of") fd
  g_less_one : mg "less_one" = some (.ref (He.ga K "less_one"))
  F_less_one : ∃ fd, FnP K "less_one" s_less_one (He.ga K "less_one") fd
  g_end_behind : mg "end_behind" = some (.ref (He.ga K "end_behind"))
  F_end_behind : ∃ fd, FnP K "end_behind" s_end_behind (He.ga K "end_behind") fd
  g_late_ends : mg "late_ends" = some (.ref (He.ga K "late_ends"))
  F_late_ends : ∃ fd, FnP K "late_ends" s_late_ends (He.ga K "late_ends") fd
  g_least_late : mg "least_late" = some (.ref (He.ga K "least_late"))
  F_least_late : ∃ fd, FnP K "least_late" s_least_late (He.ga K "least_late") fd
  g_widest_of : mg "widest_of" = some (.ref (He.ga K "widest_of"))
  F_widest_of : ∃ fd, FnP K "widest_of" s_widest_of (He.ga K "widest_of") fd
  g_worst_behind : mg "worst_behind" = some (.ref (He.ga K "worst_behind"))
  F_worst_behind : ∃ fd, FnP K "worst_behind" s_worst_behind (He.ga K "worst_behind") fd
  g_regret_in : mg "regret_in" = some (.ref (He.ga K "regret_in"))
  F_regret_in : ∃ fd, FnP K "regret_in" s_regret_in (He.ga K "regret_in") fd
  g_regret : mg "regret" = some (.ref (He.ga K "regret"))
  F_regret : ∃ fd, FnP K "regret" s_regret (He.ga K "regret") fd
  g_w_pool : mg "_law_pool" = some (.ref (He.ga K "_law_pool"))
  F_w_pool : ∃ fd, FnP K "_law_pool" s_w_pool (He.ga K "_law_pool") fd
  g_w_draw : mg "_law_draw" = some (.ref (He.ga K "_law_draw"))
  F_w_draw : ∃ fd, FnP K "_law_draw" s_w_draw (He.ga K "_law_draw") fd
  g_w_windows : mg "_law_windows" = some (.ref (He.ga K "_law_windows"))
  F_w_windows : ∃ fd, FnP K "_law_windows" s_w_windows (He.ga K "_law_windows") fd
  g_w_row : mg "_law_row" = some (.ref (He.ga K "_law_row"))
  F_w_row : ∃ fd, FnP K "_law_row" s_w_row (He.ga K "_law_row") fd
  g_w_lot : mg "_law_lot" = some (.ref (He.ga K "_law_lot"))
  F_w_lot : ∃ fd, FnP K "_law_lot" s_w_lot (He.ga K "_law_lot") fd
  g_w_some : mg "_law_some" = some (.ref (He.ga K "_law_some"))
  F_w_some : ∃ fd, FnP K "_law_some" s_w_some (He.ga K "_law_some") fd
  g_w_run : mg "_law_run" = some (.ref (He.ga K "_law_run"))
  F_w_run : ∃ fd, FnP K "_law_run" s_w_run (He.ga K "_law_run") fd
  g_w_lateness : mg "_law_lateness" = some (.ref (He.ga K "_law_lateness"))
  F_w_lateness : ∃ fd, FnP K "_law_lateness" s_w_lateness (He.ga K "_law_lateness") fd
  g_w_is_int : mg "_law_is_int" = some (.ref (He.ga K "_law_is_int"))
  F_w_is_int : ∃ fd, FnP K "_law_is_int" s_w_is_int (He.ga K "_law_is_int") fd
  g_w_perms : mg "_law_perms" = some (.ref (He.ga K "_law_perms"))
  F_w_perms : ∃ fd, FnP K "_law_perms" s_w_perms (He.ga K "_law_perms") fd
  g_w_long : mg "_law_long" = some (.ref (He.ga K "_law_long"))
  F_w_long : ∃ fd, FnP K "_law_long" s_w_long (He.ga K "_law_long") fd
  g_law : mg "law" = some (.ref (He.ga K "law"))
  F_law : ∃ fd, FnP K "law" s_law (He.ga K "law") fd
  n_isinstance : mg "isinstance" = none
  n_tuple : mg "tuple" = none
  n_int : mg "int" = none
  n_bool : mg "bool" = none
  n_len : mg "len" = none
  n_all : mg "all" = none
  n_any : mg "any" = none
  n_set : mg "set" = none
  n_list : mg "list" = none
  n_sorted : mg "sorted" = none
  n_enumerate : mg "enumerate" = none
  n_max : mg "max" = none
  n_min : mg "min" = none
  n_range : mg "range" = none
  n_sum : mg "sum" = none
  n_abs : mg "abs" = none
  i_hour : ∃ t, mg "MOST_HOUR" = some (.int 1000000 t)
  i_works : ∃ t, mg "MOST_WORKS" = some (.int 40 t)
  i_there : ∃ t, mg "MOST_THERE" = some (.int 10 t)
  gB : mg "Book" = some (.ref (He.ga K "Book"))
  cB : Cls K (He.ga K "Book")
  aW : NoAttr K (He.ga K "Book") "windows"
  aK : NoAttr K (He.ga K "Book") "kept_windows"
  mkB : Mk K (He.ga K "Book") (He.ma K (He.ga K "Book") "__init__")
  F_init : ∃ fd, FunD K "__init__" "Book.__init__" (defArgs s_init) (defBody s_init) (defScope s_init) [] [] (He.ma K (He.ga K "Book") "__init__") fd
/-- a def keeps its promise, and may be called -/
def Ok (P : Program) (w : World) (K : PySem.W.Frag) (mg : Str → Option Value) (base : Heap) (k : Nat) (x : Str) (ps : List Str) (sp : Sp) : Prop :=
  ∃ fd, FnOk P w K mg base CX0 k (He.ga K x) fd ps sp ∧ PySem.W.keepIn K (.ref (He.ga K x)) = true ∧ Binds K fd ps []
theorem pe_globI {X : Cx} {x : Str} {i : Int} {pos : Pos} (hg : Gl X x) (hm : ∃ t, X.mg x = some (.int i t)) (hd : (x == ("__debug__" : Str)) = false := by decide) : PE X (.Name x pos) (tC (.int i)) := by
  obtain ⟨t, e⟩ := hm
  exact pe_glob hg e ⟨t, rfl⟩ hd
section
variable {P : Program} {w : World} {K : PySem.W.Frag} {mg : Str → Option Value} {base : Heap}
/-- THE RULE for a def of the top -/
theorem ok_of {x : Str} {st : Stmt} {N ps : List Str} {k : Nat} {sp : Sp} (F : ∃ fd, FnP K x st (He.ga K x) fd) (S : FnScope N ps (defScope st)) (len : ∀ vs H Q E, sp vs H Q E → vs.length = ps.length)
    (hb : ∀ (kV doc pm : Value) (an : Option Addr) (cdv ct : Value) (us : List Value), us.length = ps.length → bindArgs (PySem.W.fnOf x x (defArgs st) (defBody st) (defScope st) .none kV doc pm an cdv ct) ⟨us, []⟩ = pure (ps.zip us))
    (hbody : ∀ (cdv : Value) (A : Around) (outer : List Env) (s : Shared) (H : Hp) (vs : List V) (Q : VK) (E : XK), Room k (A.deeper (envOfC x (defScope st) s.heap.objs.size (He.ga K x) cdv)) → sp vs H Q E →
      ∃ t, PSs (cxOf CX0 P w K mg base N x (defScope st) (He.ga K x) cdv A outer s H E).nox (defBody st) t ∧ t { nx := fun _ H' => Q .non H', rt := Q } (start N vs) H) : Ok P w K mg base (k + 1) x ps sp := by
  obtain ⟨fd, F⟩ := F
  refine ⟨fd, F.ok S len fun cdv A outer s H vs Q E hr h => ?_, F.kp, F.bindsN hb⟩
  obtain ⟨t, h1, h2⟩ := hbody cdv A outer s H vs Q E hr h
  exact ⟨t, h1.nox, h2⟩
end
end K73
set_option Elab.async false
set_option linter.all false
set_option maxRecDepth 100000
set_option maxHeartbeats 4000000
/-! What stands in the heap, and the forms of comprehensions that only grow it. -/
namespace K73
open PySem PySem.Spec PyProof.Rows L2
/-! ### answers that are known -/
theorem q_t {p : Prop} [Decidable p] {Q : VK} {H : Hp} (h : p) (k : Q (.bl true) H) : Q (.bl (decide p)) H := by
  rw [decide_eq_true h]
  exact k
theorem q_f {p : Prop} [Decidable p] {Q : VK} {H : Hp} (h : ¬ p) (k : Q (.bl false) H) : Q (.bl (decide p)) H := by
  rw [decide_eq_false h]
  exact k
theorem bl_t {p : Prop} [Decidable p] (h : p) : V.bl (decide p) = V.bl true := by rw [decide_eq_true h]
theorem bl_f {p : Prop} [Decidable p] (h : ¬ p) : V.bl (decide p) = V.bl false := by rw [decide_eq_false h]
theorem if_t {p A B : Prop} [Decidable p] (h : p) (k : A) : if decide p = true then A else B := by
  rw [decide_eq_true h]
  exact iteT k
theorem if_f {p A B : Prop} [Decidable p] (h : ¬ p) (k : B) : if decide p = true then A else B := by
  rw [decide_eq_false h]
  exact iteF k
theorem if_b {p A B : Prop} [Decidable p] (h1 : p → A) (h2 : ¬ p → B) : if decide p = true then A else B := by
  by_cases h : p
  · exact if_t h (h1 h)
  · exact if_f h (h2 h)
/-! ### data -/
abbrev Lot := List (Option Int)
def rowV (r : List Nat) : List V := r.map fun (k : Nat) => V.int (k : Int)
def oV : Option Int → V
  | none => .non
  | some n => .int n
def lotV (l : Lot) : List V := l.map oV
/-- the k-th item of a lot -/
def itm (l : Lot) (k : Nat) : Option Int := l.getD k none
def lenO (l : Lot) (k : Nat) : Int := (itm l k).getD 0
def isT (l : Lot) (k : Nat) : Bool := (itm l k).isSome
/-- those that are there -/
def pres (l : Lot) : List Nat := (List.range l.length).filter (isT l)
def fiR (ws : List (Int × Int)) (k : Nat) : Int := (ws.getD k (0, 0)).1
def laS (ws : List (Int × Int)) (k : Nat) : Int := (ws.getD k (0, 0)).2
theorem rowV_len (r : List Nat) : (rowV r).length = r.length := by unfold rowV; rw [List.length_map]
theorem rowV_get {r : List Nat} {i k : Nat} (h : r[i]? = some k) : (rowV r)[i]? = some (.int (k : Int)) := by
  unfold rowV
  rw [List.getElem?_map, h] <;> rfl
theorem lotV_get {l : Lot} {k : Nat} (h : k < l.length) : (lotV l)[k]? = some (oV (itm l k)) := by
  unfold lotV itm
  rw [List.getElem?_map, List.getElem?_eq_getElem h, List.getD_eq_getElem?_getD, List.getElem?_eq_getElem h] <;> rfl
theorem fiR_of {ws : List (Int × Int)} {k : Nat} {x : Int × Int} (h : ws[k]? = some x) : fiR ws k = x.1 := by
  unfold fiR
  rw [List.getD_eq_getElem?_getD, h] <;> rfl
theorem laS_of {ws : List (Int × Int)} {k : Nat} {x : Int × Int} (h : ws[k]? = some x) : laS ws k = x.2 := by
  unfold laS
  rw [List.getD_eq_getElem?_getD, h] <;> rfl
/-! ### what never changes -/
def Im : HO → Prop
  | .tup _ => True
  | .ins _ _ _ => True
  | _ => False
/-- what never changes is kept -/
def Kp (H H' : Hp) : Prop := ∀ b o, H b = some o → Im o → H' b = some o
theorem Kp.refl (H : Hp) : Kp H H := fun _ _ h _ => h
theorem Kp.trans {H H1 H2 : Hp} (a : Kp H H1) (b : Kp H1 H2) : Kp H H2 := fun c o h i => b c o (a c o h i) i
theorem kp_same {H H' : Hp} (s : Same H H') : Kp H H' := fun b o h _ => s b o h
theorem same_upd {H : Hp} {p : Addr} {o : HO} (h : H p = none) : Same H (upd H p o) := fun b u e => by
  rw [upd_ne (ne_of_none e h)]
  exact e
/-- a list that H does not know is written -/
theorem same_wr {H H' : Hp} {p : Addr} {o : HO} (s : Same H H') (h : H p = none) : Same H (upd H' p o) := fun b u e => by
  rw [upd_ne (ne_of_none e h)]
  exact s b u e
theorem Kp.tup {H H' : Hp} (s : Kp H H') {a : Addr} {xs : List V} (h : H a = some (.tup xs)) : H' a = some (.tup xs) := s a _ h trivial
/-- the windows at t -/
structure WinsAt (H : Hp) (t : Addr) (ws : List (Int × Int)) : Prop where
  ex : ∃ ps : List Addr, H t = some (.tup (ps.map V.ref)) ∧ ps.length = ws.length ∧ ∀ (i : Nat) (x : Int × Int), ws[i]? = some x → ∃ a, ps[i]? = some a ∧ H a = some (.tup [.int x.1, .int x.2])
theorem WinsAt.kp {H H' : Hp} {t : Addr} {ws : List (Int × Int)} (h : WinsAt H t ws) (s : Kp H H') : WinsAt H' t ws := by
  obtain ⟨ps, h1, h2, h3⟩ := h.ex
  refine ⟨ps, s.tup h1, h2, fun i x hx => ?_⟩
  obtain ⟨a, e1, e2⟩ := h3 i x hx
  exact ⟨a, e1, s.tup e2⟩
theorem WinsAt.at {H : Hp} {t : Addr} {ws : List (Int × Int)} (h : WinsAt H t ws) {k : Nat} {x : Int × Int} (hx : ws[k]? = some x) : ∃ vs a, H t = some (.tup vs) ∧ vs[k]? = some (.ref a) ∧ H a = some (.tup [.int x.1, .int x.2]) := by
  obtain ⟨ps, h1, h2, h3⟩ := h.ex
  obtain ⟨a, e1, e2⟩ := h3 k x hx
  exact ⟨_, a, h1, by rw [List.getElem?_map, e1] <;> rfl, e2⟩
theorem WinsAt.len {H : Hp} {t : Addr} {ws : List (Int × Int)} (h : WinsAt H t ws) : ∃ vs, H t = some (.tup vs) ∧ vs.length = ws.length := by
  obtain ⟨ps, h1, h2, h3⟩ := h.ex
  exact ⟨_, h1, by rw [List.length_map]; exact h2⟩
def bFs (t : Addr) : List (Str × V) := putF "kept_windows" (.ref t) (putF "windows" (.ref t) [])
theorem bFs_k (t : Addr) : (bFs t).lookup ("kept_windows" : Str) = some (.ref t) := by
  unfold bFs
  rw [lookup_putF, if_pos rfl]
/-- a book at b -/
structure BookAt (C : Addr) (H : Hp) (b : Addr) (ws : List (Int × Int)) : Prop where
  ex : ∃ dx t, H b = some (.ins C dx (bFs t)) ∧ WinsAt H t ws
theorem BookAt.kp {C : Addr} {H H' : Hp} {b : Addr} {ws : List (Int × Int)} (h : BookAt C H b ws) (s : Kp H H') : BookAt C H' b ws := by
  obtain ⟨dx, t, h1, h2⟩ := h.ex
  exact ⟨dx, t, s b _ h1 trivial, h2.kp s⟩
/-! ### comprehensions that only grow the heap -/
/-- what a list comprehension asks behind its source, the list being made at D -/
def LcR (J : It) (g : TG) (tt : TT) (te : TE) (vs : List Nat) (σ : L2.St) (H : Hp) (D : Addr) (Qd : Hp → Prop) : Prop :=
  ∃ W : Nat → Nat → Hp → Prop,
    (∃ m, W 0 m (upd H D (.lst []))) ∧
    ∀ i m H, W i m H → (J.stop i H ∧ Qd H) ∨
      (J.go i H ∧ ∃ Nx : Hp → Prop,
        (∀ H', Nx H' → ∃ m', m' < m ∧ W (i + 1) m' H') ∧
        ∀ x H', J.yld i H x H' →
          g x (wipe σ vs) H' fun σ2 H2 =>
            wipe σ2 vs = wipe σ vs ∧ tt σ2 H2 fun b H3 =>
              if b = true then te σ2 H3 fun y H4 => ∃ acc, H4 D = some (.lst acc) ∧
                acc.length < sizeLine ∧ Nx (upd H4 D (.lst (acc ++ [y]))) else Nx H3)
/-- one turn: the item x becomes f x, or nothing -/
def Turn1 (g : TG) (tt : TT) (te : TE) (vs : List Nat) (σ : L2.St) (H : Hp) (x : V) (f : Option V) : Prop :=
  ∀ H1, Same H H1 → ∀ (Qy : V → Hp → Prop) (Qn : Hp → Prop), (∀ H2, Same H1 H2 → ∀ y, f = some y → Qy y H2) → (∀ H2, Same H1 H2 → f = none → Qn H2) →
    g x (wipe σ vs) H1 fun σ2 H2 =>
      wipe σ2 vs = wipe σ vs ∧ tt σ2 H2 fun b H3 =>
        if b = true then te σ2 H3 Qy else Qn H3
theorem take_succ {α : Type} {xs : List α} {i : Nat} {x : α} (h : xs[i]? = some x) : xs.take (i + 1) = xs.take i ++ [x] := by
  rw [List.take_add_one, h] <;> rfl
section
variable {K : PySem.W.Frag} {g : TG} {tt : TT} {te : TE} {vs : List Nat} {σ : L2.St} {H : Hp} {Q : VK} {a : Addr} {xs : List V}
theorem lcr_turn {D : Addr} {f : V → Option V} {i : Nat} {x : V} {H1 : Hp} (hz : xs.length ≤ 100000) (hx : xs[i]? = some x) (hD : H D = none) (ht : Turn1 g tt te vs σ H x (f x))
    (p : Same H H1 ∧ H1 D = some (.lst ((xs.take i).filterMap f))) :
    g x (wipe σ vs) H1 fun σ2 H2 =>
      wipe σ2 vs = wipe σ vs ∧ tt σ2 H2 fun b H3 =>
        if b = true then te σ2 H3 fun y H4 => ∃ acc, H4 D = some (.lst acc) ∧
          acc.length < sizeLine ∧ (Same H (upd H4 D (.lst (acc ++ [y]))) ∧ upd H4 D (.lst (acc ++ [y])) D = some (.lst ((xs.take (i + 1)).filterMap f))) else (Same H H3 ∧ H3 D = some (.lst ((xs.take (i + 1)).filterMap f))) := by
  obtain ⟨p1, p2⟩ := p
  refine ht H1 p1 _ _ (fun H2 s y hy => ⟨_, s _ _ p2, ?_, same_wr (p1.trans s) hD, ?_⟩) fun H2 s hn => ⟨p1.trans s, ?_⟩
  · have h1 : ((xs.take i).filterMap f).length ≤ (xs.take i).length := List.length_filterMap_le _ _
    have h2 : (xs.take i).length ≤ xs.length := by rw [List.length_take]; omega
    exact Nat.lt_of_le_of_lt (Nat.le_trans h1 (Nat.le_trans h2 hz)) (by decide)
  · rw [upd_same, take_succ hx, List.filterMap_append, List.filterMap_cons, hy] <;> rfl
  · rw [s _ _ p2, take_succ hx, List.filterMap_append, List.filterMap_cons, hn, List.filterMap_nil, List.append_nil]
/-- a turn with one name, no test -/
theorem turnN {j : Nat} {x y : V} (hw : wipe ((wipe σ vs).set j (some x)) vs = wipe σ vs) (h : ∀ H1, Same H H1 → ∀ Qy : VK, (∀ H2, Same H1 H2 → Qy y H2) → te ((wipe σ vs).set j (some x)) H1 Qy) :
    Turn1 (gName j) tYes te vs σ H x (some y) := fun H1 s Qy Qn ky _ => by
  refine ⟨hw, ?_⟩
  show if true = true then te ((wipe σ vs).set j (some x)) H1 Qy else Qn H1
  exact iteT (h H1 s Qy fun H2 s2 => ky H2 s2 y rfl)
/-- a turn with one name and a test whose answer is b -/
theorem turnT {j : Nat} {x y : V} {b : Bool} (hw : wipe ((wipe σ vs).set j (some x)) vs = wipe σ vs) (ht : ∀ H1, Same H H1 → ∀ Qb : Bool → Hp → Prop, (∀ H2, Same H1 H2 → Qb b H2) → tt ((wipe σ vs).set j (some x)) H1 Qb)
    (h : b = true → ∀ H1, Same H H1 → ∀ Qy : VK, (∀ H2, Same H1 H2 → Qy y H2) → te ((wipe σ vs).set j (some x)) H1 Qy) :
    Turn1 (gName j) tt te vs σ H x (if b = true then some y else none) := fun H1 s Qy Qn ky kn => by
  refine ⟨hw, ht H1 s _ fun H2 s2 => ?_⟩
  cases b with
  | true => exact iteT (h rfl H2 (s.trans s2) Qy fun H3 s3 => ky H3 (s2.trans s3) y rfl)
  | false => exact iteF (kn H2 s2 rfl)
theorem lcr_tup {D : Addr} {Qd : Hp → Prop} (f : V → Option V) (hx : SqT K H a xs) (hD : H D = none) (hz : xs.length ≤ 100000) (ht : ∀ x ∈ xs, Turn1 g tt te vs σ H x (f x))
    (k : ∀ H1, Same H H1 → H1 D = some (.lst (xs.filterMap f)) → Qd H1) : LcR (Itt K a) g tt te vs σ H D Qd := by
  refine lc_tup (K := K) (xs := xs) (Pv := fun i H1 => Same H H1 ∧ H1 D = some (.lst ((xs.take i).filterMap f))) ⟨same_upd hD, upd_same⟩ (fun i H1 _ p => ?_) (fun i x H1 hi p => lcr_turn hz hi hD (ht x (List.mem_of_getElem? hi)) p) fun H1 p => ?_
  · rcases hx with (h | ⟨o, h⟩) | h
    · exact .inl (.inl (p.1 _ _ h))
    · exact .inl (.inr ⟨o, p.1 _ _ h⟩)
    · exact .inr h
  · rw [List.take_length] at p
    exact k H1 p.1 p.2
theorem lcr_list {D : Addr} {Qd : Hp → Prop} (f : V → Option V) (hx : SqL K H a xs) (hD : H D = none) (hz : xs.length ≤ 100000) (ht : ∀ x ∈ xs, Turn1 g tt te vs σ H x (f x))
    (k : ∀ H1, Same H H1 → H1 D = some (.lst (xs.filterMap f)) → Qd H1) : LcR (Itl K a) g tt te vs σ H D Qd := by
  refine lc_list (K := K) (xs := xs) (Pv := fun i H1 => Same H H1 ∧ H1 D = some (.lst ((xs.take i).filterMap f))) ⟨same_upd hD, upd_same⟩ (fun i H1 _ p => p.1.seq hx) (fun i x H1 hi p => lcr_turn hz hi hD (ht x (List.mem_of_getElem? hi)) p) fun H1 p => ?_
  rw [List.take_length] at p
  exact k H1 p.1 p.2
end
/-! ### lists of one answer -/
theorem fm_true : ∀ us : List V, us.filterMap (fun _ => some (V.bl true)) = (us.map fun _ => true).map V.bl
  | [] => rfl
  | u :: us => by rw [List.filterMap_cons, fm_true us] <;> rfl
theorem all_true (us : List V) : (us.map fun _ => true).all id = true := by simp
theorem fm_false : ∀ us : List V, us.filterMap (fun _ => some (V.bl false)) = (us.map fun _ => false).map V.bl
  | [] => rfl
  | u :: us => by rw [List.filterMap_cons, fm_false us] <;> rfl
theorem any_false (us : List V) : (us.map fun _ => false).any id = false := by
  induction us with
  | nil => rfl
  | cons u us ih => rw [List.map_cons, List.any_cons, ih] <;> rfl
theorem rowV_int (r : List Nat) : rowV r = (r.map fun (k : Nat) => (k : Int)).map V.int := by
  unfold rowV
  rw [List.map_map] <;> rfl
theorem nodup_int {r : List Nat} (h : r.Nodup) : (r.map fun (k : Nat) => (k : Int)).Nodup := by
  induction r with
  | nil => exact List.nodup_nil
  | cons k r ih =>
    obtain ⟨h1, h2⟩ := List.nodup_cons.mp h
    refine List.nodup_cons.mpr ⟨fun z => h1 ?_, ih h2⟩
    obtain ⟨j, hj, e⟩ := List.mem_map.mp z
    have e' : (j : Int) = (k : Int) := e
    have : j = k := by omega
    exact this ▸ hj
/-- a row of the works of a book -/
structure RowOk (n : Nat) (r : List Nat) : Prop where
  nd : r.Nodup
  lt : ∀ k ∈ r, k < n
  few : r.length ≤ 40
/-- a lot of it -/
structure LotOk (n : Nat) (l : Lot) : Prop where
  len : l.length = n
  nn : ∀ x, some x ∈ l → 0 ≤ x
  few : l.length ≤ 40
theorem mem_rowV {r : List Nat} {y : V} (h : y ∈ rowV r) : ∃ k ∈ r, y = .int (k : Int) := by
  obtain ⟨k, hk, e⟩ := List.mem_map.mp h
  exact ⟨k, hk, e.symm⟩
theorem mem_lotV {l : Lot} {y : V} (h : y ∈ lotV l) : ∃ o ∈ l, y = oV o := by
  obtain ⟨o, ho, e⟩ := List.mem_map.mp h
  exact ⟨o, ho, e.symm⟩
theorem lotV_len (l : Lot) : (lotV l).length = l.length := by unfold lotV; rw [List.length_map]
theorem len_int (r : List Nat) : (r.map fun (k : Nat) => (k : Int)).length = r.length := List.length_map ..
end K73
set_option Elab.async false
set_option linter.all false
set_option maxRecDepth 100000
set_option maxHeartbeats 4000000
/-! enumerate(t), t a tuple. -/
namespace PySem
open Sem (wp)
open AutoSeq1 (wpAny_loadPart')
/-- the maker of enumerate over a tuple -/
theorem k73_enum_new (t : Addr) (its : Array Value) (n : Nat) (dc : Option Addr) (sl : Array (Option Value)) :
    Meets (Builtin.«enumerate.__new__» ⟨[.type "enumerate", .ref t], []⟩) (fun _ R s =>
      s.heap.get? t = some ⟨.type "tuple", dc, .seq its n, sl⟩ ∧
      R (.ok (.ret (.ref (s.heap.push { cls := .type "tuple_iterator", data := .fields #[.ref t, .int 0 0] }).objs.size)))
        { s with heap := (s.heap.push { cls := .type "tuple_iterator", data := .fields #[.ref t, .int 0 0] }).push { cls := .type "enumerate", data := .fields #[.none, .bool false, .ref s.heap.objs.size, rawInt 0, .none, .none] } }) :=
  .of_wp fun prog w A R s h => by
    obtain ⟨hp, g, d, tk, os⟩ := s
    obtain ⟨ht, h⟩ := h
    have sub := sub_enumerate
    have hT : (Shared.heap ⟨hp, g, d, tk, os⟩).IsTuple t its := ⟨_, ht, rfl, n, rfl⟩
    wp_walk using wpAny_loadPart' ht
    refine wpAny_stack_any fun st => wpAny_pure ?_
    split
    · rename_i c _ _ _ _ _
      cases (c == Value.type "enumerate") <;>
        (wp_walk using wpAny_loadPart' ht, wpAny_pyIter_tuple hT
         exact ⟨_, rfl, h⟩)
    · wp_walk using wpAny_loadPart' ht, wpAny_pyIter_tuple hT
      exact ⟨_, rfl, h⟩
section
variable {prog : Program} {w : World} {A : Around} {E : Value → Shared → Prop} {s : Shared}
theorem k73_enum_call {t : Addr} {its : Array Value} {Q : Value → Shared → Prop} (hT : s.heap.IsTuple t its)
    (h : ∀ h', IsEnum h' (s.heap.objs.size + 1) s.heap.objs.size 0 .none → h'.IsTupleIter s.heap.objs.size t 0 →
      (∀ b o, s.heap.get? b = some o → h'.get? b = some o) → Q (.ref (s.heap.objs.size + 1)) { s with heap := h' }) :
    wpAny (model prog w) A (call (.type "enumerate") [.ref t]) Q E s := by
  obtain ⟨⟨c, dc, dt, sl⟩, ht, hc, n, hd⟩ := hT
  obtain rfl : c = .type "tuple" := hc
  obtain rfl : dt = .seq its n := hd
  refine callType_new F.called_enumerate (by decide) (F.typeCall_enumerate_1 _)
    (F.newCall_enumerate_1 _) (fun ob => F.args_object_init_2 ob _) F.entry_enumerate_new (k73_enum_new t its n dc sl) ⟨ht, ?_⟩
  have hz : (s.heap.push { cls := .type "tuple_iterator", data := .fields #[.ref t, .int 0 0] }).objs.size = s.heap.objs.size + 1 :=
    Heap.size_push ..
  show _ ∧ _
  rw [hz]
  have he := Heap.get?_push_size (s.heap.push { cls := .type "tuple_iterator", data := .fields #[.ref t, .int 0 0] })
    (o := { cls := .type "enumerate",
            data := .fields #[.none, .bool false, .ref s.heap.objs.size, rawInt 0, .none, .none] }) rfl
  rw [hz] at he
  have hi := Heap.get?_push_of_some { cls := .type "enumerate", data := .fields #[.none, .bool false, .ref s.heap.objs.size, rawInt 0, .none, .none] }
    (Heap.get?_push_size s.heap (o := { cls := .type "tuple_iterator", data := .fields #[.ref t, .int 0 0] }) rfl)
  exact ⟨⟨_, he, rfl⟩, h _ he ⟨_, hi, rfl, rfl⟩ fun b o e => Heap.get?_push_of_some _ (Heap.get?_push_of_some _ e)⟩
end
end PySem
namespace K73
open PySem PySem.Spec PyProof.Rows L2
/-- the tuple at a, each item in a new pair with its place -/
def ItE (K : PySem.W.Frag) (a : Addr) : It where
  go := fun i H => ∃ (xs : List V) (x : V), SqT K H a xs ∧ xs[i]? = some x
  yld := fun i H v H' => ∃ T x, v = .ref T ∧ H T = none ∧
    H' = upd H T (.tup [.int (i : Nat), x]) ∧ ∀ xs, SqT K H a xs → xs[i]? = some x
  stop := fun i H => ∃ xs : List V, SqT K H a xs ∧ xs.length = i
theorem tup_ne_iter {h : Heap} {a it : Addr} {its : Array Value} {i : Nat} (p : h.IsTuple a its) (q : h.IsTupleIter it a i) : a ≠ it := by
  rintro rfl
  obtain ⟨o, e, c, _⟩ := p
  obtain ⟨o', e', c', _⟩ := q
  rw [e] at e'
  cases e'
  rw [c] at c'
  injection c' with c'
  exact absurd c' (by decide)
theorem turn_enumT {P : Program} {w : World} {K : PySem.W.Frag} {elts : List Expr} {kk : Nat} {tpos : Pos} (a e it : Addr) :
    Turn P w K (.Tuple elts kk tpos) (ItE K a) [e, it] e
      (fun i h => (∃ old, IsEnum h e it ((i : Nat) : Int) old) ∧ h.IsTupleIter it a i ∧ e ≠ it ∧ e ≠ a) where
  mem := by simp
  obj := fun i h st b hb => by
    obtain ⟨⟨old, he⟩, ⟨o, ho, hc, hd⟩, _⟩ := st
    rcases (show b = e ∨ b = it by simpa using hb) with z | z
    · subst z; exact ⟨_, he, fun v q => nomatch q⟩
    · subst z; exact ⟨o, ho, fun v q => by rw [hd] at q; cases q⟩
  keep := fun i h h' st k => by
    obtain ⟨⟨old, he⟩, hi, hne⟩ := st
    exact ⟨⟨old, k e (by simp) _ he⟩, hi.at fun o q => k it (by simp) o q, hne⟩
  item := by
    intro X hP hw hK hc i pins s σ H E I hf st hg
    subst hP hw hK
    obtain ⟨⟨old, he⟩, hit, hne, hea⟩ := st
    obtain ⟨xs, x, hq, hx⟩ := hg
    obtain ⟨its, rv, p, hz⟩ := I.tuple hq
    obtain ⟨u, hu, ru⟩ := rv.get hx
    have p' : s.heap.IsTuple a its.toArray := p
    have hai := tup_ne_iter p' hit
    have hel : e < s.heap.objs.size := Heap.lt_size he
    have hil : it < s.heap.objs.size := by obtain ⟨_, q, _⟩ := hit; exact Heap.lt_size q
    have hlt : i < its.toArray.size := by
      have := (List.getElem?_eq_some_iff.mp hu).1
      simpa using this
    refine wpAny_pyNext_enum_itemD (Draws.tuple (prog := X.prog) (w := X.w) (A := X.A.in1) (I.ok.hd hc) it a hai its.toArray) he ⟨hit, p'⟩ hlt hne (by simp [hne, hea]) fun y h' tk hy ho st' hT hsz hk => ?_
    obtain rfl : u = y := by
      have e1 : its[i]? = some y := by simpa using hy
      rw [hu] at e1
      exact Option.some.inj e1
    refine ⟨_, rfl, wpAny_letOwnedTupleGo_enum (s := { s with heap := h', toks := tk + 1 }) ho fun h'' he' sb => ?_⟩
    have hT2 := (sb.2 _ (Nat.ne_of_gt hel)).trans hT
    have new : ObjOk X.prog X.w (upd H s.heap.objs.size (.tup [.int (i : Nat), x])) h'' s.heap.objs.size (.tup [.int (i : Nat), x]) :=
      ⟨by show 2 ≤ sizeLine; decide, [.int i tk, u], .cons ⟨_, rfl⟩ (.cons ru .nil), ⟨_, hT2, rfl, _, rfl⟩⟩
    have I1 : Inv X pins σ (upd H s.heap.objs.size (.tup [.int (i : Nat), x])) { s with heap := h'', toks := tk + 1 } := by
      refine I.turnedNew (ch := [e, it]) (fun b ob hb q => ?_) hf (Nat.le_refl _) new
      have b1 : b ≠ e := fun z => hb (by simp [z])
      have b2 : b ≠ it := fun z => hb (by simp [z])
      exact (sb.2 b b1).trans (hk b ob b1 b2 q)
    refine ⟨.ref s.heap.objs.size, _, I1, rfl, ⟨_, x, rfl, I.hok.fresh (Nat.le_refl _), rfl, fun ys hy => ?_⟩, ⟨⟨u, ?_⟩, st'.1.at fun o q => (sb.2 it (Ne.symm hne)).trans q, hne, hea⟩, fun b hb => ?_⟩
    · rw [I.tuple_inj hy hq]
      exact hx
    · have e1 : ((i + 1 : Nat) : Int) = (i : Int) + 1 := by omega
      rw [e1]
      exact he'
    · have hb' : b < s.heap.objs.size := by
        rcases (show b = e ∨ b = it by simpa using hb) with z | z
        · subst z; exact hel
        · subst z; exact hil
      rw [upd_ne (Nat.ne_of_lt hb')]
      exact (hf b hb).1
  done := by
    intro X hP hw hK hc i pins s σ H E I hf st hg
    subst hP hw hK
    obtain ⟨⟨old, he⟩, hit, hne, hea⟩ := st
    obtain ⟨xs, hq, hx⟩ := hg
    obtain ⟨its, rv, p, hz⟩ := I.tuple hq
    obtain ⟨f0, f1, f2, f3, f4, f5⟩ := hf it (by simp)
    have p' : s.heap.IsTuple a its.toArray := p
    have hai := tup_ne_iter p' hit
    have hl : its.toArray.size = i := by
      have := rv.length
      simp only [List.size_toArray]
      omega
    have D := Draws.tuple (prog := X.prog) (w := X.w) (A := X.A.in1) (I.ok.hd hc) it a hai its.toArray
    rw [hl] at D
    exact wpAny_pyNext_enum_endD D he ⟨hit, p'⟩ fun h' eb =>
      ⟨rfl, I.turned (t' := s.toks) (fun b o hb q => eb b o hb q) f0 f1 f3 f4 f5⟩
  self := fun A i s Q E st h => let ⟨⟨_, he⟩, _⟩ := st; wpAny_pyIter_enum he h
def iEnumT (K : PySem.W.Frag) (ta : TA) : TI := fun σ H R =>
  ta σ H fun vs H1 => ∃ a xs, vs = [.ref a] ∧ SqT K H1 a xs ∧ R (ItE K a) H1
theorem pi_enumT {X : Cx} {e : Expr} {ta : TA} {p pos tpos : Pos} {elts : List Expr} {kk : Nat} (hg : Gl X "enumerate") (hm : X.mg "enumerate" = none) (ha : PA X [e] ta)
    (hs : starEach [e] X.env = [(false, eval e X.env)] := by rfl) : PI X (.Tuple elts kk tpos) (.Call (.Name "enumerate" p) [e] [] pos) (iEnumT X.K ta) := by
  refine ⟨fun pins s σ H R I h => ?_⟩
  refine Call_ (ld_blt I hg hm boot_enumerate (PyProof.Rows.callWith_type1
    (thn (ha.run pos pins s σ H _ I h) fun us s1 ⟨vs, H1, I1, r1, q1⟩ => ?_) hs rfl))
  obtain ⟨a, xs, ex, hq, q⟩ := q1
  subst ex
  cases r1 with
  | cons r rr =>
    cases rr
    cases r
    obtain ⟨its, rv, p', hz⟩ := I1.tuple hq
    have pT : s1.heap.IsTuple a its.toArray := p'
    have hal : a < s1.heap.objs.size := by obtain ⟨_, q, _⟩ := pT; exact Heap.lt_size q
    refine k73_enum_call pT fun h' he hit hk => wpAny_pyIter_enum he ?_
    have I2 : Inv X pins σ H1 { s1 with heap := h' } := I1.kept (t' := s1.toks) hk
    refine ⟨s1.heap.objs.size + 1, [s1.heap.objs.size + 1, s1.heap.objs.size], _, _, H1, rfl, I2,
      turn_enumT a (s1.heap.objs.size + 1) s1.heap.objs.size, ⟨⟨.none, he⟩, hit, Nat.succ_ne_self _, Nat.ne_of_gt (Nat.lt_succ_of_lt hal)⟩, fun b hb => ?_, q⟩
    have hle : s1.heap.objs.size ≤ b := by
      rcases (show b = s1.heap.objs.size + 1 ∨ b = s1.heap.objs.size by simpa using hb) with z | z
      · subst z; exact Nat.le_add_right _ _
      · subst z; exact Nat.le_refl _
    exact I1.fpOk hle (I1.hok.fresh hle)
end K73
set_option Elab.async false
set_option linter.all false
set_option maxRecDepth 100000
set_option maxHeartbeats 4000000
/-! {k: v} with one tuple for a key. -/
namespace K73
open PySem PySem.Spec PyProof.Rows L2
def tDisp1T (tk tv : TE) : TE := fun σ H Q =>
  ∀ p, H p = none → tk σ (upd H p (.dT [])) fun x H1 => tv σ H1 fun y H2 =>
    ∃ (b : Addr) (kk : List Key), x = .ref b ∧ H2 p = some (.dT []) ∧ H2 b = some (.tup (kk.map kV)) ∧
      Q (.ref p) (upd H2 p (.dT [(kk, y)]))
theorem pe_disp1T {X : Cx} {pos : Pos} {k v : Expr} {tk tv : TE} (hu : X.A.units + 1 < cLine) (hk : PE X k tk) (hv : PE X v tv) :
    PE X (.Dict [some k] [v] pos) (tDisp1T tk tv) := by
  refine ⟨fun pins s σ H Q I q => ?_⟩
  have hn := I.hok.fresh (Nat.le_refl s.heap.objs.size)
  have I1 := I.laid (a := s.heap.objs.size) (o := .dT []) (h' := s.heap.push { cls := .type "dict", data := .dict #[] }) (t' := s.toks)
    (fun _ _ q => Heap.get?_push_of_some _ q) (Nat.le_refl _) (dt_empty s.heap I.big)
  have q1 := q _ hn
  rw [arm_eval_Dict, zip_pairTrees [some k] [v] X.env pos rfl rfl, dictDisplay_pairs _ (by intro z; cases z) (by show 1 < 17; decide)]
  refine wpAny_bind (wpAny_standAt (wpAny_bind (wpAny_subDictH (knd := tupleKind (mixKind X.prog X.w)) (Q := fun d s' => wpAny (model X.prog X.w) X.A (pure (Value.ref d)) (EP X pins σ Q) X.xe s') (Nat.lt_of_succ_lt hu) (by show 1 ≤ 15; decide) ?_)))
  refine pairTrees_cons_walk (thn (hk.run pins _ σ _ _ I1 q1) fun u s1 ⟨x, H1, J1, rx, q2⟩ => thn (hv.run pins s1 σ H1 _ J1 q2) fun w2 s2 ⟨y, H2, J2, ry, q3⟩ => pairTrees_nil_walk ?_)
  obtain ⟨b, kk, rfl, e1, e2, q4⟩ := q3
  obtain rfl : u = Value.ref b := rx
  obtain ⟨z, hd, xs, rel, dd⟩ := dt_of J2.hok e1
  cases rel
  refine ⟨[(kk, b, w2)], ⟨rfl, rfl, key_of J2.hok e2, trivial⟩, dd, fun h' tk' dd' hs => wpAny_pure ⟨.ref s.heap.objs.size, _, ?_, rfl, q4⟩⟩
  obtain ⟨o, es, ep, ho, h2, h3, h4, _, h5⟩ := dd'
  refine d_write J2 (by rw [e1]; exact True.intro) hs ⟨o, ho⟩ ⟨by show 1 ≤ sizeLine; decide, hd, [(kk, b, w2)], .cons ⟨rfl, ?_, ry⟩ .nil, o, es, ep, ho, h2, h3, h4, h5⟩
  rw [upd_ne (ne_of e2 e1 (fun z => nomatch z))]
  exact e2
end K73
set_option Elab.async false
set_option linter.all false
set_option maxRecDepth 100000
set_option maxHeartbeats 4000000
/-! sorted(xs, key=f) where f's calls may be any that keep the layer's invariant: xs a list or a tuple, the keys data without lists. -/
namespace K73S
open PySem PySem.Calls PyProof.Rows PySem.W
section
variable {prog : Program} {w : World} {A : Around} {E : Value → Shared → Prop} {s : Shared}
/-- sorted(..) is list.sort(..) on a new list of the items, of a list or a tuple -/
theorem sorted_seq {l : Addr} {T : String} {o : Obj} {vs : List Value} {n : Nat} {kw : List (Str × Value)} {Q : Value → Shared → Prop} (hT : T = "list" ∨ T = "tuple") (ho : s.heap.get? l = some o) (hc : o.cls = .type T) (hd : o.data = .seq vs.toArray n)
    (hL : vs.length ≤ sizeLine) (ha1 : argsOk "sorted" ⟨[.ref l], kw⟩) (ha2 : ∀ x, argsOk "list.sort" ⟨[.ref x], kw⟩)
    (body : ∀ (E' : Value → Shared → Prop) (h' : Heap), (∀ b u, s.heap.get? b = some u → h'.get? b = some u) →
      wpAny (model prog w) A.in1.in1 (Builtin.«list.sort» ⟨[.ref h'.objs.size], kw⟩) (fun f s' => f = .done (.ret .none) ∧ Q (.ref h'.objs.size) s') E' { s with heap := h'.push (seqObj "list" vs.toArray 0) }) :
    wpAny (model prog w) A (call (.builtin "sorted") [.ref l] kw) Q E s := by
  refine call_function_entry_kw kind_sorted plain_sorted entry_sorted ha1 ?_
  unfold Builtin.«sorted»
  refine wpAny_bind (m := checkCount "sorted" 1 1 _) (wpAny_pure ?_)
  refine wpAny_bind (wpAny_collect_seq (hsz := by rw [List.size_toArray]; exact hL) l hT ho hc hd fun h' kp => ?_)
  refine wpAny_bind (wpAny_newList ?_ hL)
  refine wpAny_bind (wpAny_holding (wpAny_call_entry_kw slot_list_sort ⟨_, Heap.get?_push_size h' (o := seqObj "list" vs.toArray 0) rfl, rfl⟩ entry_list_sort ?body (ha2 _)))
  case body =>
    refine wpAny_mono (body _ h' kp) (fun f s' hf => ?_) fun _ _ e => e
    obtain ⟨rfl, hq⟩ := hf
    exact ⟨_, rfl, wpAny_pure ⟨_, rfl, hq⟩⟩
end
end K73S
namespace K73
open PySem PySem.Spec PyProof.Rows L2
section
variable {X : Cx} {pins : List (Addr × Obj)} {σ : L2.St} {H H' : Hp} {s : Shared}
/-- what an untracked object's address must keep, whatever is tracked -/
theorem fp_free {b : Addr} (f : FpOk X pins H b) (n : H' b = none) : FpOk X pins H' b := ⟨n, f.2⟩
theorem fp_ch {b : Addr} (f : FpOk X pins H b) : (b ∈ X.ex ∨ X.s_0.heap.objs.size ≤ b) ∧ b ≠ X.env.locals ∧ (∀ x c, X.env.cells.lookup x = some c → c ≠ b) ∧ ∀ p ∈ X.pn ++ pins, p.1 ≠ b := ⟨f.2.2.2.1, f.2.1, f.2.2.2.2.1, f.2.2.2.2.2⟩
/-- two untracked objects have turned -/
theorem inv_two {h' : Heap} {t' : Nat} {a b : Addr} (I : Inv X pins σ H s) (fa : FpOk X pins H a) (fb : FpOk X pins H b) (k : ∀ c o, c ≠ a → c ≠ b → s.heap.get? c = some o → h'.get? c = some o) : Inv X pins σ H { s with heap := h', toks := t' } := by
  have ne : ∀ c u, H c = some u → c ≠ a ∧ c ≠ b := fun c u e => ⟨ne_of_none e fa.1, ne_of_none e fb.1⟩
  have ch : ∀ c, c ∉ [a, b] → c ≠ a ∧ c ≠ b := fun c hc => ⟨fun z => hc (by simp [z]), fun z => hc (by simp [z])⟩
  refine I.step (g' := s.gens) (d' := s.drawn) (ch := [a, b]) (fun c hc => ?_) (fun c o _ _ hc e _ => k c o (ch c hc).1 (ch c hc).2 e) (fun c o _ _ hc e _ => ⟨o.slots, k c o (ch c hc).1 (ch c hc).2 e⟩) (fun _ _ _ _ n => n)
    (fun c o hc e => ⟨o, k c o (ch c hc).1 (ch c hc).2 e⟩) (fun _ _ e => e) (fun _ _ _ e => e) (fun c ps e => ⟨#[], by rw [e]; simp⟩) (fun m hm => ?_) (fun c u e => ?_) I.bare
  · rcases (show c = a ∨ c = b by simpa using hc) with z | z
    · subst z; exact fp_ch fa
    · subst z; exact fp_ch fb
  · obtain ⟨o, es, ep, ho, r⟩ := hm
    exact ⟨o, es, ep, k _ o (Ne.symm fa.2.1) (Ne.symm fb.2.1) ho, r⟩
  · refine (I.hok c u e).stay (fun d v hd q => ?_) (fun _ q => q) fun _ _ q => q
    rcases hd with z | z
    · rw [z] at q ⊢
      exact k _ _ (ne c u e).1 (ne c u e).2 q
    · exact k _ _ (ne d _ z).1 (ne d _ z).2 q
/-- an untracked list is known from now on -/
theorem inv_adopt {a : Addr} {xs : List V} {its : List Value} {n : Nat} (I : Inv X pins σ H s) (fa : FpOk X pins H a) (e : s.heap.get? a = some { cls := .type "list", data := .seq its.toArray n }) (r : Vals xs its) (hz : xs.length ≤ sizeLine) :
    Inv X pins σ (upd H a (.lst xs)) s := by
  have ne : ∀ c u, H c = some u → c ≠ a := fun c u e => ne_of_none e fa.1
  have J := I.step (h' := s.heap) (H' := upd H a (.lst xs)) (g' := s.gens) (d' := s.drawn) (t' := s.toks) (ch := [a]) (fun c hc => by
      obtain rfl : c = a := by simpa using hc
      exact fp_ch fa) (fun c o _ _ _ e _ => e) (fun c o _ _ _ e _ => ⟨o.slots, e⟩)
    (fun c o hc _ n => by rw [upd_ne (fun z => hc (by simp [z]))]; exact n) (fun c o _ e => ⟨o, e⟩) (fun c xs e => by rw [upd_ne (ne c _ e)]; exact e) (fun c o u e => by rw [upd_ne (ne c _ e)]; exact e)
    (fun c ps e => ⟨#[], by rw [upd_ne (ne c _ e), e]; simp⟩) (fun m hm => hm) (fun c u q => ?_) I.bare
  · exact J
  · by_cases hc : c = a
    · subst hc
      rw [upd_same] at q
      cases q
      exact ⟨hz, its, n, r, e⟩
    · rw [upd_ne hc] at q
      exact (I.hok c u q).stay (fun d v _ z => z) (fun d z => by rw [upd_ne (ne d _ z)]; exact z) fun d xs z => by rw [upd_ne (ne d _ z)]; exact z
end
/-! ### the keys made so far -/
abbrev KeyAt (K : PySem.W.Frag) (H : Hp) (u : Value) (k : PyData) : Prop := ∃ x, L2.RelV x u ∧ Dp K H x k
mutual
theorem dp_same {K : PySem.W.Frag} {H H' : Hp} (s : Same H H') : ∀ (d : PyData) (v : V), Dp K H v d → Dp K H' v d
  | .none, _, h => by cases h; exact .non
  | .bool b, _, h => by cases h; exact .bl b
  | .int i, _, h => by cases h; exact .int i
  | .str x, _, h => by cases h; exact .str x
  | .list ds, _, h => by
    cases h with
    | lst h1 h2 => exact .lst (s.seq h1) (dpa_same s ds _ h2)
  | .tuple ds, _, h => by
    cases h with
    | tup h1 h2 =>
      refine .tup ?_ (dpa_same s ds _ h2)
      rcases h1 with (h1 | ⟨o, h1⟩) | h1
      · exact .inl (.inl (s _ _ h1))
      · exact .inl (.inr ⟨o, s _ _ h1⟩)
      · exact .inr h1
  | .dict _, _, h => by cases h
theorem dpa_same {K : PySem.W.Frag} {H H' : Hp} (s : Same H H') : ∀ (ds : List PyData) (vs : List V), DpAll K H vs ds → DpAll K H' vs ds
  | [], _, h => by cases h; exact .nil
  | d :: ds, _, h => by
    cases h with
    | cons h1 h2 => exact .cons (dp_same s d _ h1) (dpa_same s ds _ h2)
end
open PySem.W in
/-- list.sort(key=f) of a list that is not tracked, its own list of keys made -/
theorem keys_run {X : Cx} {pins : List (Addr × Obj)} {σ : L2.St} {H : Hp} {s : Shared} {A : Around} {E : Value → Shared → Prop} {P : PySem.Fin → Shared → Prop} {f : Value} {a kS : Addr} {vs : List Value} {kz : List PyData} {e1 : Nat}
    (I : Inv X pins σ H s) (fk : FpOk X pins H kS) (fa : FpOk X pins H a) (hka : kS ≠ a) (nk : s.heap.get? kS = some (seqObj "list" #[] 0)) (na : s.heap.get? a = some (seqObj "list" #[] e1))
    (hlen : kz.length = vs.length) (hZ : vs.length ≤ sizeLine) (hal : AllAlike kz) (hsk : Sortable kz) (hu : ∀ d, d ∈ kz → A.units + d.depth < cLine)
    (turn : ∀ (i : Nat) (v : Value) (k : PyData), vs[i]? = some v → kz[i]? = some k → ∀ (s' : Shared) (H' : Hp) (oK : Obj), Same H H' → Inv X (pins ++ [(kS, oK), (a, seqObj "list" #[] e1)]) σ H' s' →
      wpAny (model X.prog X.w) A (call f [v]) (fun u s2 => ∃ H2, Inv X (pins ++ [(kS, oK), (a, seqObj "list" #[] e1)]) σ H2 s2 ∧ Same H' H2 ∧ KeyAt X.K H2 u k) (fun _ _ => False) s')
    (h : ∀ s' H' out c, Same H H' → Inv X pins σ H' s' → FpOk X pins H' a → s'.heap.get? a = some (seqObj "list" (List.toArray out) c) → KeyedOut false kz vs out → P (.done (.ret .none)) s') :
    wpAny (model X.prog X.w) A (ksk_rest a f false vs.toArray e1 (.ref kS)) P E s := by
  unfold ksk_rest
  refine wpAny_bind (wpAny_rule ?_)
  first
    | rw [List.forIn_toArray]
    | (rw [← Array.forIn_toList]; simp only [List.toList_toArray])
    | rw [← Array.forIn_toList]
  refine wpAny_bind (ksk_fold (fun i s' => ∃ H' kA ep, Same H H' ∧ Inv X pins σ H' s' ∧ H' kS = none ∧ H' a = none ∧ s'.heap.get? kS = some (seqObj "list" kA ep) ∧ s'.heap.get? a = some (seqObj "list" #[] e1) ∧ EachIs (fun u k => KeyAt X.K H' u k) kA.toList (kz.take i)) vs 0 s
    ⟨H, #[], 0, Same.refl H, I, fk.1, fa.1, nk, na, by rw [List.take_zero]; exact EachIs.nil⟩ ?step ?done)
  case step =>
    rintro j x s' hx ⟨H1, kA, ep, sm, J, n1, n2, g1, g2, hk⟩
    simp only [Nat.zero_add] at hk ⊢
    have hj : j < vs.length := (List.getElem?_eq_some_iff.mp hx).1
    obtain ⟨k, hkj⟩ : ∃ k, kz[j]? = some k := ⟨_, List.getElem?_eq_getElem (by omega)⟩
    have hz : kA.size ≤ vs.length := by
      have h1 := hk.length
      rw [Array.length_toList, List.length_take] at h1
      omega
    have J' : Inv X (pins ++ [(kS, seqObj "list" kA ep), (a, seqObj "list" #[] e1)]) σ H1 s' := J.pins_of fun p hp => by
      rcases List.mem_append.mp hp with q | q
      · exact J.pin p (List.mem_append_right _ q)
      · rcases (show p = (kS, seqObj "list" kA ep) ∨ p = (a, seqObj "list" #[] e1) by simpa using q) with z | z
        · subst z; exact ⟨g1, n1, fk.2.1, fk.2.2.1, fun v z => nomatch z⟩
        · subst z; exact ⟨g2, n2, fa.2.1, fa.2.2.1, fun v z => nomatch z⟩
    refine wpAny_bind (wpAny_attempt (wpAny_mono (turn j x k hx hkj s' H1 _ sm J') (fun v s2 he => ?_) fun _ _ hF => hF.elim))
    obtain ⟨H2, J2, sm2, hv⟩ := he
    have p1 := J2.pin (kS, seqObj "list" kA ep) (by simp)
    have p2 := J2.pin (a, seqObj "list" #[] e1) (by simp)
    have J3 : Inv X pins σ H2 s2 := J2.unpinned
    obtain ⟨c2, hc2⟩ : ∃ c2, (s2.heap.update kS (Obj.mapSeq (·.push v))).get? kS = some (seqObj "list" (kA.push v) c2) := ⟨_, get?_update_seq p1.1 (·.push v)⟩
    have sb := Heap.SameBut.update s2.heap kS (Obj.mapSeq (·.push v))
    have ek : kz.take (j + 1) = kz.take j ++ [k] := by rw [List.take_add_one, hkj]; simp
    have ea : (kA.push v).toList = kA.toList ++ [v] := by simp
    refine wpAny_bind (listUpdate_at p1.1 rfl ?_ (Nat.le_trans hz hZ) (Nat.le_trans (Nat.le_of_eq (Array.size_push ..)) (Nat.succ_le_succ (Nat.le_trans hz hZ))))
    have f3 : FpOk X pins H2 kS := fp_free fk p1.2.1
    refine wpAny_pure ⟨rfl, H2, kA.push v, c2, sm.trans sm2, ?_, p1.2.1, p2.2.1, hc2, (sb.2 a hka.symm).trans p2.1, ?_⟩
    · exact J3.turned (t' := s2.toks) (fun b o hb q => (sb.2 b hb).trans q) p1.2.1 fk.2.1 fk.2.2.2.1 fk.2.2.2.2.1 fk.2.2.2.2.2
    · rw [ea, ek]
      exact each_snoc (R := fun (u : Value) (d : PyData) => KeyAt X.K H2 u d) hv (hk.mono fun u d ⟨y, r, q⟩ => ⟨y, r, dp_same sm2 d y q⟩)
  case done =>
    rintro s' ⟨H1, kA, ep, sm, J, n1, n2, g1, g2, hk⟩
    have hk' : EachIs (fun v k => ∃ as, Reads s'.heap v k as) kA.toList kz := by
      have e3 : kz.take (0 + vs.length) = kz := List.take_of_length_le (by omega)
      rw [e3] at hk
      exact hk.mono fun v k ⟨y, r, q⟩ => Dp.reads J k y v q r
    have hsz : kA.size = vs.length := by
      have h1 := hk'.length
      rw [Array.length_toList] at h1
      omega
    refine wpAny_bind (listItems_at g1 rfl ?_)
    refine keyH_end (κ := dataKind s'.heap kz) (h₁ := hideAll s'.heap [kS]) (fun b o _ e => of_hideAll _ e) (hideAll_none _ (by simp)) g1 g2 hka (SortsAt.data hk' hal hsk hu) hsz hZ fun h3 tk3 c k3 n3 => ?_
    refine h _ H1 _ c sm (inv_two J (fp_free fk n1) (fp_free fa n2) fun b o b1 b2 e => k3 b o b2 (hideAll_get _ e (by simpa using b1))) (fp_free fa n2) n3 ⟨s'.heap, kA.toList, hal, rfl, hk'⟩
end K73
set_option Elab.async false
set_option linter.all false
set_option maxRecDepth 100000
set_option maxHeartbeats 4000000
/-! sorted(xs, key=lambda x: e), the lambda reading names of the def. -/
namespace K73
open PySem PySem.Spec PyProof.Rows L2
abbrev lamNF (X : Cx) (params : Arguments) (scope : Scope) (c' : Addr) : NdefX.NF := ⟨"<lambda>", X.env.qual ++ "<lambda>", params, [], scope, cloFrom X.env.cells scope.names [], c'⟩
abbrev lamX (X : Cx) (N : List Str) (params : Arguments) (scope : Scope) (c' f : Addr) (A : Around) (outer : List Env) (s : Shared) (H : Hp) : Cx :=
  NdefX.ncx CX0 X.prog X.w X.K X.mg X.base N (lamNF X params scope c') f A outer s H E0
section
variable {X : Cx} {pins : List (Addr × Obj)} {σ : L2.St} {H : Hp} {s : Shared} {N fr : List Str} {js : List Nat} {k : Nat} {x : Str} {y : V} {u : Value} {f c' : Addr} {pm ctv : Value} {params : Arguments} {body : Expr} {scope : Scope} {tb : TE} {Q : VK} {A2 : Around}
/-- one call of the lambda -/
theorem lam_turn (I : Inv X pins σ H s) (hr : Room (k + 1) A2) (e0 : Env0 X.prog X.w X.K X.mg X.base A2 X.stack s H)
    (of : s.heap.get? f = some (PySem.W.kla_obj "<lambda>" (X.env.qual ++ "<lambda>") params body scope (cloFrom X.env.cells scope.names []) pm c' ctv)) (hc : H c' = some (LamX.CodeO c' (X.env.qual ++ "<lambda>")))
    (S : NdefX.NScope N [x] fr scope) (C : NdefX.Caps X (cloFrom X.env.cells scope.names []) fr js)
    (hbind : bindArgs (PySem.W.kla_fn "<lambda>" (X.env.qual ++ "<lambda>") params body scope (cloFrom X.env.cells scope.names []) pm (.ref c') ctv) ⟨[u], []⟩ = pure [(x, u)]) (ru : L2.RelV y u)
    (hbody : ∀ (A : Around) (outer : List Env) (s : Shared) (H : Hp), Room k (A.deeper (NdefX.envF (lamNF X params scope c') f s.heap.objs.size)) → PE (lamX X N params scope c' f A outer s H) body tb)
    (h : tb (NdefX.startF N [y] (js.map (NdefX.slotAt σ))) H Q) :
    wpAny (model X.prog X.w) A2 (call (.ref f) [u]) (EP X pins σ Q) (fun _ _ => False) s := by
  obtain ⟨⟨oc, vs, t, hoc, hdc, hvc⟩, _, _⟩ := I.hok c' _ hc
  have rc : codeAny (model X.prog X.w) A2 (.call (.ref f) ⟨[u], []⟩) (CR CX0 X.stack X.prog X.w H s Q E0) s := by
    refine PySem.W.kla_callFunE hr.depth of rfl S.co S.gen rfl ⟨c', oc, vs, t, rfl, hoc, hdc, hvc⟩ ?_
    rw [hbind]
    refine wpAny_pure (wpAny_newFunctionEnv S.nocell (fun z hz => ?_) (fun h₁ hns hsb => ⟨I.nolimit.fresh _ hsb, ?_⟩) S.kind)
    · obtain rfl : z = (x, u) := by simpa using hz
      exact S.par x (by simp)
    show codeAny _ _ (.expr body (NdefX.envF (lamNF X params scope c') f s.heap.objs.size)) _ _
    have kp : ∀ b o, s.heap.get? b = some o → h₁.get? b = some o := fun b o e => hsb.extBut b o (Nat.ne_of_lt (Heap.lt_size e)) (Heap.get?_push_of_some _ e)
    have J := NdefX.inv_startN (CX := CX0) (P := X.prog) (w := X.w) (K := X.K) (mg := X.mg) (base := X.base) (N := N) (F := lamNF X params scope c') (f := f) (E := E0) (us := [u]) (vs := [y]) (tk := s.toks + [(x, u)].length) S hr.hd e0 rfl (.cons ru .nil) (NdefX.cells_of I C) hns kp
    refine PySem.W.kla_codeExpr (wpAny_mono ((hbody A2 X.stack s H (hr.deeper _)).run [] _ _ H Q J h) (fun v s' hq => ?_) fun e s' hq => hq)
    obtain ⟨w', H', J', rv, q⟩ := hq
    exact ⟨w', H', J'.os, J'.bare, J'.base, J'.hok, rv, q⟩
  refine wpAny_call (codeAny_mono rc fun r s' hq => ?_)
  cases r with
  | error e => exact hq
  | ok fl =>
    cases fl with
    | ret u => exact I.after hq
    | next => exact False.elim hq
    | brk => exact False.elim hq
    | cont => exact False.elim hq
end
open PySem.W in
/-- what the order by kd is asked of the items ys -/
structure KeysWell (ys : List V) (kd : V → PyData) : Prop where
  alike : ∀ y ∈ ys, ∀ y' ∈ ys, alike (kd y) (kd y') = true
  able : (∀ y ∈ ys, ∃ z r, kd y = .tuple (z :: r)) ∨ ∀ y ∈ ys, kd y ≠ .none ∧ ∀ r, kd y ≠ .tuple r
  flat : ∀ y ∈ ys, (kd y).depth ≤ 10
open PySem.W in
def tSortKey (K : PySem.W.Frag) (T : List (Addr × Str)) (ts tb : TE) (N : List Str) (js : List Nat) : TE := fun σ H Q =>
  ts σ H fun v H1 => LamX.Tabs T H1 ∧ ∃ (l : Addr) (ys : List V) (kd : V → PyData), v = .ref l ∧ (SqL K H1 l ys ∨ SqT K H1 l ys) ∧ KeysWell ys kd ∧
    (∀ y ∈ ys, ∀ H2, LamX.ExtN H1 H2 → tb (NdefX.startF N [y] (js.map (NdefX.slotAt σ))) H2 fun z H3 => Same H2 H3 ∧ Dp K H3 z (kd y)) ∧
    ∀ H2 p, LamX.ExtN H1 H2 → LamX.Tabs T H2 → H2 p = some (.lst (ys.mergeSort (dataLe false kd))) → Q (.ref p) H2
theorem rel_of_each : ∀ {us : List Value} {xs : List V}, PySem.W.EachIs (fun (u : Value) (x : V) => L2.RelV x u) us xs → Vals xs us
  | _, _, .nil => .nil
  | _, _, .cons h t => .cons h (rel_of_each t)
theorem each_of_rel : ∀ {us : List Value} {xs : List V}, Vals xs us → PySem.W.EachIs (fun (u : Value) (x : V) => L2.RelV x u) us xs
  | _, _, .nil => .nil
  | _, _, .cons h t => .cons h (each_of_rel t)
open PySem.W in
theorem pe_sortKey {X : Cx} {T : List (Addr × Str)} {ts tb : TE} {N fr : List Str} {js : List Nat} {k : Nat} {x : Str} {c P : Addr} {src : Expr} {params : Arguments} {body : Expr} {scope : Scope} {lpos p pos kpos : Pos}
    (hg : Gl X "sorted") (hm : X.mg "sorted" = none) (hs : PE X src ts) (TB : LamX.TabB X.base X.mg c P) (hcode : X.env.code = .ref c) (hmT : (P, X.env.qual ++ "<lambda>") ∈ T) (hu : ∀ p ∈ T, p.1 = P → p.2 = X.env.qual ++ "<lambda>")
    (hr : Room (k + 3) X.A) (S : NdefX.NScope N [x] fr scope) (hfree : ∀ y ∈ scope.names, y.2 = .free → X.env.scope.names.lookup y.1 = some .cell ∨ X.env.scope.names.lookup y.1 = some .free) (hfr : ∀ y ∈ fr, (y, NameKind.free) ∈ scope.names)
    (hjs : js.map (fun j => X.N[j]?) = fr.map some) (hdef : defaultsOf params X.env = ([], []))
    (hbind : ∀ (q : Str) (cl : List (Str × Addr)) (pm cv ctv u : Value), bindArgs (PySem.W.kla_fn "<lambda>" q params body scope cl pm cv ctv) ⟨[u], []⟩ = pure [(x, u)])
    (hbody : ∀ (c' f : Addr) (A : Around) (outer : List Env) (s : Shared) (H : Hp), Room k (A.deeper (NdefX.envF (lamNF X params scope c') f s.heap.objs.size)) → PE (lamX X N params scope c' f A outer s H) body tb)
    (hst : backTo pos (starEach [src] X.env) = (false, eval src X.env) :: backTo pos (starEach [] X.env) := by rfl) :
    PE X (.Call (.Name "sorted" p) [src] [⟨some "key", .Lambda params body scope lpos, kpos⟩] pos) (tSortKey X.K T ts tb N js) := by
  refine ⟨fun pins s σ H Q I h => ?_⟩
  have hb : bootBuiltins "sorted" = some (.builtin "sorted") := by decide +kernel
  refine wpAny_Call_Name_kw (ld_blt I hg hm hb ?_)
  refine PyProof.Rows.callWith_kw ?_ hst (by rw [hst] <;> rfl) (by rfl) (by rfl)
  rw [hst]
  refine Calls.spliced_cons (thn (hs.run pins s σ H _ I h) fun u s1 ⟨v, H1, I1, r1, q1⟩ => Calls.spliced_nil ?_)
  obtain ⟨hT, l, ys, kd, rfl, hl, hw, hk, fin⟩ := q1
  obtain rfl : u = Value.ref l := r1
  -- the lambda
  show wpAny _ _ (evalAll ((do let v ← eval (.Lambda params body scope lpos) X.env; standAt pos; pure v) :: [])) _ _ s1
  have hfree2 : ∀ y ∈ scope.names, y.2 = .free → ∃ c, X.env.cells.lookup y.1 = some c := fun y hy e => (hfree y hy e).elim (fun z => I1.ok.has _ (.inl z)) fun z => I1.ok.has _ (.inr z)
  refine wpAny_evalAll_cons (wpAny_bind (LamX.lam_make2 I1 TB hcode hmT hu hT hdef hfree2 fun f c' pm ctv H2 s2 I2 eN T2 of nf hfs hco => wpAny_bind (wpAny_standAt (wpAny_pure (wpAny_evalAll_nil ?_)))))
  show wpAny _ _ (call (.builtin "sorted") [.ref l] [(Str.ofString "key", .ref f)]) _ _ s2
  -- the source behind the making of the lambda
  obtain ⟨its, rv, T0, o, n, hT0, ho, hc, hd, hz⟩ : ∃ (its : List Value) (_ : Vals ys its) (T0 : String) (o : Obj) (n : Nat), (T0 = "list" ∨ T0 = "tuple") ∧ s2.heap.get? l = some o ∧ o.cls = .type T0 ∧ o.data = .seq its.toArray n ∧ ys.length ≤ sizeLine := by
    rcases hl with hl | hl
    · have hl2 : SqL X.K H2 l ys := by
        rcases hl with (z | ⟨o, z⟩) | z
        · exact .inl (.inl (eN _ _ z fun ps e => nomatch e))
        · exact .inl (.inr ⟨o, eN _ _ z fun ps e => nomatch e⟩)
        · exact .inr z
      obtain ⟨its, rv, ⟨o, n, e, h1, h2, h3⟩, hz⟩ := I2.list hl2
      exact ⟨its, rv, "list", o, n, .inl rfl, e, h1, h3, hz⟩
    · have hl2 : SqT X.K H2 l ys := by
        rcases hl with (z | ⟨o, z⟩) | z
        · exact .inl (.inl (eN _ _ z fun ps e => nomatch e))
        · exact .inl (.inr ⟨o, eN _ _ z fun ps e => nomatch e⟩)
        · exact .inr z
      obtain ⟨its, rv, ⟨o, e, h1, n, h3⟩, hz⟩ := I2.tuple hl2
      exact ⟨its, rv, "tuple", o, n, .inr rfl, e, h1, h3, hz⟩
  have hzi : its.length ≤ sizeLine := by rw [← rv.length]; exact hz
  refine K73S.sorted_seq hT0 ho hc hd hzi (ksk_s1 _ _) (fun _ => ksk_l1 _ _) fun E' h' kp => ?_
  rw [ksk_t1]
  -- list.sort(key=f) on the new list
  have hoL : (h'.push (seqObj "list" its.toArray 0)).get? h'.objs.size = some (seqObj "list" its.toArray 0) := Heap.get?_push_size _ rfl
  obtain ⟨e1, ho1⟩ : ∃ e1, ((h'.push (seqObj "list" its.toArray 0)).update h'.objs.size (Obj.mapSeq fun _ => (#[] : Array Value))).get? h'.objs.size = some (seqObj "list" #[] e1) := ⟨_, get?_update_seq hoL fun _ => #[]⟩
  unfold ksk_tree
  refine wpAny_bind (listItems_at hoL rfl ?_)
  refine wpAny_bind (listUpdate_at hoL rfl ?_ (by rw [List.size_toArray]; exact hzi) (Nat.zero_le _))
  refine wpAny_bind (seqEpoch_at ho1 rfl ?_)
  refine wpAny_bind (wpAny_newTuple ?_ (by show its.length ≤ _; exact hzi))
  refine wpAny_bind (wpAny_newList ?_ (Nat.zero_le _))
  refine wpAny_holding ?_
  -- the lambda's own object is pinned
  have hfl : f ≠ X.env.locals := fun z => by
    obtain ⟨m, ⟨o', es, ep, h1, h2, _⟩, _⟩ := I2.loc
    rw [← z, of] at h1
    cases h1
    cases h2
  have hff : f ∉ X.fs := fun z => hfs (by
    rcases I2.ok.stk with e | ⟨e, _⟩
    · rw [e]; exact z
    · rw [e]
      unfold frs
      rw [List.filterMap_cons]
      cases X.env.frame with
      | none => exact z
      | some b => exact List.mem_cons_of_mem _ z)
  have I2' : Inv X (pins ++ [(f, PySem.W.kla_obj "<lambda>" (X.env.qual ++ "<lambda>") params body scope (cloFrom X.env.cells scope.names []) pm c' ctv)]) σ H2 s2 := I2.pins_of fun q hq => by
    rcases List.mem_append.mp hq with z | z
    · exact I2.pin q (List.mem_append_right _ z)
    · obtain rfl := List.mem_singleton.mp z
      exact ⟨of, nf, hfl, hff, fun v z => nomatch z⟩
  have I3 := I2'.kept (t' := s2.toks) kp
  have fa := I3.fpOk (b := h'.objs.size) (Nat.le_refl _) (I3.hok.fresh (Nat.le_refl _))
  have hkS : (((h'.push (seqObj "list" its.toArray 0)).update h'.objs.size (Obj.mapSeq fun _ => (#[] : Array Value))).push (seqObj "tuple" its.toArray 0)).objs.size = h'.objs.size + 2 := by rw [size_push', Heap.size_update, size_push']
  have fk := I3.fpOk (b := h'.objs.size + 2) (Nat.le_add_right _ _) (I3.hok.fresh (Nat.le_add_right _ _))
  have I4 := I3.kept (t' := s2.toks) (h' := sortingHeap (h'.push (seqObj "list" its.toArray 0)) h'.objs.size its) fun b o e => sortingHeap_old (Nat.ne_of_lt (Heap.lt_size e)) (Heap.get?_push_of_some _ e)
  have hlen : (ys.map kd).length = its.length := by rw [List.length_map]; exact rv.length
  have nk := Heap.get?_push_size (((h'.push (seqObj "list" its.toArray 0)).update h'.objs.size (Obj.mapSeq fun _ => (#[] : Array Value))).push (seqObj "tuple" its.toArray 0)) (o := seqObj "list" #[] 0) rfl
  have na : (sortingHeap (h'.push (seqObj "list" its.toArray 0)) h'.objs.size its).get? h'.objs.size = some (seqObj "list" #[] e1) := Heap.get?_push_of_some _ (Heap.get?_push_of_some _ ho1)
  rw [hkS] at nk ⊢
  have mem : ∀ d, d ∈ ys.map kd → ∃ y ∈ ys, d = kd y := fun d hd => by
    obtain ⟨y, hy, e⟩ := List.mem_map.mp hd
    exact ⟨y, hy, e.symm⟩
  refine keys_run (X := X) (pins := pins ++ [(f, PySem.W.kla_obj "<lambda>" (X.env.qual ++ "<lambda>") params body scope (cloFrom X.env.cells scope.names []) pm c' ctv)]) (σ := σ) (H := H2) (kz := ys.map kd) I4 fk fa (Nat.ne_of_gt (Nat.lt_add_of_pos_right (n := h'.objs.size) (k := 2) (by decide))) nk na hlen hzi
    (fun d hd d' hd' => by
      obtain ⟨y, hy, rfl⟩ := mem d hd
      obtain ⟨y', hy', rfl⟩ := mem d' hd'
      exact hw.alike y hy y' hy')
    (hw.able.elim (fun z => .inl fun d hd => by
      obtain ⟨y, hy, rfl⟩ := mem d hd
      exact z y hy) fun z => .inr fun d hd => by
      obtain ⟨y, hy, rfl⟩ := mem d hd
      exact z y hy)
    (fun d hd => by
      obtain ⟨y, hy, rfl⟩ := mem d hd
      have h1 := hw.flat y hy
      have h2 := hr.un
      show X.A.units + 1 + 1 + (kd y).depth < cLine
      omega) ?turn ?fin
  case turn =>
    intro i v kk hv hkk s' H' oK sm J
    rw [List.getElem?_map] at hkk
    cases ey : ys[i]? with
    | none =>
      rw [ey] at hkk
      cases hkk
    | some y =>
      rw [ey] at hkk
      obtain rfl : kd y = kk := Option.some.inj hkk
      obtain ⟨v', hv', ru⟩ := rv.get ey
      rw [hv] at hv'
      obtain rfl := Option.some.inj hv'
      have pf := J.pin (f, PySem.W.kla_obj "<lambda>" (X.env.qual ++ "<lambda>") params body scope (cloFrom X.env.cells scope.names []) pm c' ctv) (by simp)
      have hhk := hk y (List.mem_of_getElem? ey) H' (eN.trans (LamX.ExtN.of sm))
      refine wpAny_mono (lam_turn J hr.in1.in1 J.env0.in1.in1 pf.1 (sm _ _ hco) S (NdefX.Caps.made J.ok hfree hfr hjs) (hbind _ _ _ _ _ _) ru (hbody c' f) hhk) (fun u2 s3 hq => ?_) fun _ _ hF => hF
      obtain ⟨z, H3, J3, rz, sm3, dp⟩ := hq
      exact ⟨H3, J3, sm3, z, rz, dp⟩
  case fin =>
    intro s' H' out c9 sm J fa' hget ko
    have he := keyedOut_each kd ko (each_of_rel rv)
    have rv' := rel_of_each he
    have hz' : (ys.mergeSort (dataLe false kd)).length ≤ sizeLine := by rw [List.length_mergeSort]; exact hz
    have J2 := inv_adopt J fa' hget rv' hz'
    refine ⟨rfl, .ref h'.objs.size, _, J2.unpinned, rfl, fin _ _ (eN.trans (LamX.ExtN.of (same_wr sm fa.1))) (T2.ext (same_wr sm fa.1)) upd_same⟩
end K73
set_option Elab.async false
set_option linter.all false
set_option maxRecDepth 100000
set_option maxHeartbeats 4000000
/-! Comprehensions by the item's place; over enumerate(t); what becomes of the made lists. -/
namespace K73
open PySem PySem.Spec PyProof.Rows L2
theorem range_fm {α : Type} (f : Nat → Option α) (i : Nat) : (List.range (i + 1)).filterMap f = (List.range i).filterMap f ++ (match f i with | some y => [y] | none => []) := by
  rw [List.range_succ, List.filterMap_append, List.filterMap_cons, List.filterMap_nil]
  cases f i <;> rfl
theorem range_fm_len {α : Type} (f : Nat → Option α) (i : Nat) : ((List.range i).filterMap f).length ≤ i := by
  have := List.length_filterMap_le f (List.range i)
  rw [List.length_range] at this
  exact this
theorem range_fm_if {α : Type} (p : Nat → Bool) (g : Nat → α) : ∀ l : List Nat, (l.filterMap fun j => if p j = true then some (g j) else none) = (l.filter p).map g
  | [] => rfl
  | j :: l => by
    rw [List.filterMap_cons, range_fm_if p g l]
    cases h : p j with
    | true => rw [List.filter_cons_of_pos h] <;> rfl
    | false => rw [List.filter_cons_of_neg (by rw [h]; decide)] <;> rfl
theorem fm_congr {α : Type} {f g : Nat → Option α} : ∀ {l : List Nat}, (∀ j ∈ l, f j = g j) → l.filterMap f = l.filterMap g
  | [], _ => rfl
  | j :: l, h => by rw [List.filterMap_cons, List.filterMap_cons, h j List.mem_cons_self, fm_congr fun i hi => h i (List.mem_cons_of_mem _ hi)]
theorem fm_of_get {α β : Type} (g : β → α) (ts : List β) : ((List.range ts.length).filterMap fun j => (ts[j]?).map g) = ts.map g := by
  have h : ∀ (n : Nat), n ≤ ts.length → ((List.range n).filterMap fun j => (ts[j]?).map g) = (ts.take n).map g := by
    intro n
    induction n with
    | zero => intro _; rfl
    | succ n ih =>
      intro hn
      have e : ts[n]? = some ts[n] := List.getElem?_eq_getElem (by omega)
      rw [range_fm, ih (by omega), e, List.take_add_one, e, List.map_append] <;> rfl
  have := h ts.length (Nat.le_refl _)
  rw [List.take_length] at this
  exact this
section
variable {K : PySem.W.Frag} {g : TG} {tt : TT} {te : TE} {vs : List Nat} {σ : L2.St} {H : Hp} {a : Addr} {xs : List V} {D : Addr} {Qd : Hp → Prop}
/-- one turn at the i-th place -/
theorem lci_turn {f : Nat → Option V} {i : Nat} {x : V} {H1 : Hp} (hz : i ≤ 100000) (hD : H D = none) (ht : Turn1 g tt te vs σ H1 x (f i)) (p : Same H H1 ∧ H1 D = some (.lst ((List.range i).filterMap f))) :
    g x (wipe σ vs) H1 fun σ2 H2 =>
      wipe σ2 vs = wipe σ vs ∧ tt σ2 H2 fun b H3 =>
        if b = true then te σ2 H3 fun y H4 => ∃ acc, H4 D = some (.lst acc) ∧
          acc.length < sizeLine ∧ (Same H (upd H4 D (.lst (acc ++ [y]))) ∧ upd H4 D (.lst (acc ++ [y])) D = some (.lst ((List.range (i + 1)).filterMap f))) else (Same H H3 ∧ H3 D = some (.lst ((List.range (i + 1)).filterMap f))) := by
  obtain ⟨p1, p2⟩ := p
  refine ht H1 (Same.refl _) _ _ (fun H2 s y hy => ⟨_, s _ _ p2, ?_, same_wr (p1.trans s) hD, ?_⟩) fun H2 s hn => ⟨p1.trans s, ?_⟩
  · exact Nat.lt_of_le_of_lt (Nat.le_trans (range_fm_len f i) hz) (by decide)
  · rw [upd_same, range_fm, hy]
  · rw [s _ _ p2, range_fm, hn, List.append_nil]
theorem lci_list (f : Nat → Option V) (hx : SqL K H a xs) (hD : H D = none) (hz : xs.length ≤ 100000) (ht : ∀ (i : Nat) (x : V), xs[i]? = some x → ∀ H1, Same H H1 → Turn1 g tt te vs σ H1 x (f i))
    (k : ∀ H1, Same H H1 → H1 D = some (.lst ((List.range xs.length).filterMap f)) → Qd H1) : LcR (Itl K a) g tt te vs σ H D Qd :=
  lc_list (K := K) (xs := xs) (Pv := fun i H1 => Same H H1 ∧ H1 D = some (.lst ((List.range i).filterMap f))) ⟨same_upd hD, upd_same⟩ (fun i H1 _ p => p.1.seq hx)
    (fun i x H1 hi p => lci_turn (Nat.le_trans (Nat.le_of_lt (List.getElem?_eq_some_iff.mp hi).1) hz) hD (ht i x hi H1 p.1) p) fun H1 p => k H1 p.1 p.2
theorem lci_enum (f : Nat → Option V) (hx : H a = some (.tup xs)) (hD : H D = none) (hz : xs.length ≤ 100000)
    (ht : ∀ (i : Nat) (x : V), xs[i]? = some x → ∀ H1 T, Same H H1 → H1 T = some (.tup [.int (i : Int), x]) → Turn1 g tt te vs σ H1 (.ref T) (f i))
    (k : ∀ H1, Same H H1 → H1 D = some (.lst ((List.range xs.length).filterMap f)) → Qd H1) : LcR (ItE K a) g tt te vs σ H D Qd := by
  refine ⟨fun i m H1 => m = xs.length - i ∧ i ≤ xs.length ∧ Same H H1 ∧ H1 D = some (.lst ((List.range i).filterMap f)), ⟨xs.length, by simp, Nat.zero_le _, same_upd hD, upd_same⟩, ?_⟩
  rintro i m H1 ⟨rfl, hi, p1, p2⟩
  by_cases hlt : i < xs.length
  · refine .inr ⟨⟨xs, xs[i], SqT.of (p1 _ _ hx), List.getElem?_eq_getElem hlt⟩, fun H1 => Same H H1 ∧ H1 D = some (.lst ((List.range (i + 1)).filterMap f)), fun H2 p => ⟨xs.length - (i + 1), by omega, rfl, hlt, p⟩, ?_⟩
    rintro v H2 ⟨T, x, rfl, nT, rfl, hq⟩
    have hx1 := hq xs (SqT.of (p1 _ _ hx))
    exact lci_turn (by omega) hD (ht i x hx1 _ T (p1.trans (same_upd nT)) upd_same) ⟨p1.trans (same_upd nT), by rw [upd_ne (ne_of_none p2 nT)]; exact p2⟩
  · have e : i = xs.length := by omega
    subst e
    exact .inl ⟨⟨xs, SqT.of (p1 _ _ hx), rfl⟩, k H1 p1 p2⟩
/-- a turn with a pair of names, and a test whose answer is b -/
theorem turn2 {j1 j2 : Nat} {x1 x2 y : V} {b : Bool} {T : Addr} (hT : H T = some (.tup [x1, x2])) (hw : wipe (((wipe σ vs).set j1 (some x1)).set j2 (some x2)) vs = wipe σ vs)
    (ht : ∀ H1, Same H H1 → ∀ Qb : Bool → Hp → Prop, (∀ H2, Same H1 H2 → Qb b H2) → tt (((wipe σ vs).set j1 (some x1)).set j2 (some x2)) H1 Qb)
    (h : b = true → ∀ H1, Same H H1 → ∀ Qy : VK, (∀ H2, Same H1 H2 → Qy y H2) → te (((wipe σ vs).set j1 (some x1)).set j2 (some x2)) H1 Qy) :
    Turn1 (gTup K 2 (gCons (gName j1) (gCons (gName j2) gNil))) tt te vs σ H (.ref T) (if b = true then some y else none) := fun H1 s Qy Qn ky kn => by
  refine ⟨T, _, rfl, SqT.of (s _ _ hT), rfl, _, _, rfl, _, _, rfl, rfl, hw, ht H1 s _ fun H2 s2 => ?_⟩
  cases b with
  | true => exact iteT (h rfl H2 (s.trans s2) Qy fun H3 s3 => ky H3 (s2.trans s3) y rfl)
  | false => exact iteF (kn H2 s2 rfl)
/-- a turn with three names, no test -/
theorem turn3 {j1 j2 j3 : Nat} {x1 x2 x3 y : V} {T : Addr} (hT : H T = some (.tup [x1, x2, x3])) (hw : wipe ((((wipe σ vs).set j1 (some x1)).set j2 (some x2)).set j3 (some x3)) vs = wipe σ vs)
    (h : ∀ H1, Same H H1 → ∀ Qy : VK, (∀ H2, Same H1 H2 → Qy y H2) → te ((((wipe σ vs).set j1 (some x1)).set j2 (some x2)).set j3 (some x3)) H1 Qy) :
    Turn1 (gTup K 3 (gCons (gName j1) (gCons (gName j2) (gCons (gName j3) gNil)))) tYes te vs σ H (.ref T) (some y) := fun H1 s Qy Qn ky _ => by
  refine ⟨T, _, rfl, SqT.of (s _ _ hT), rfl, _, _, rfl, _, _, rfl, _, _, rfl, rfl, hw, ?_⟩
  show if true = true then te ((((wipe σ vs).set j1 (some x1)).set j2 (some x2)).set j3 (some x3)) H1 Qy else Qn H1
  exact iteT (h H1 s Qy fun H2 s2 => ky H2 s2 y rfl)
end
/-! ### a dict comprehension over enumerate(t) -/
def DcR (J : It) (g : TG) (tt : TT) (tk tv : TE) (vs : List Nat) (σ : L2.St) (H : Hp) (D : Addr) (Qd : Hp → Prop) : Prop :=
  ∃ W : Nat → Nat → Hp → Prop,
    (∃ m, W 0 m (upd H D (.dK []))) ∧
    ∀ i m H, W i m H → (J.stop i H ∧ Qd H) ∨
      (J.go i H ∧ ∃ Nx : Hp → Prop,
        (∀ H', Nx H' → ∃ m', m' < m ∧ W (i + 1) m' H') ∧
        ∀ x H', J.yld i H x H' →
          g x (wipe σ vs) H' fun σ2 H2 =>
            wipe σ2 vs = wipe σ vs ∧ tt σ2 H2 fun b H3 =>
              if b = true then tk σ2 H3 fun y H4 => tv σ2 H4 fun z H5 => ∃ kvs k, y = kV k ∧
                H5 D = some (.dK kvs) ∧ kvs.length < sizeLine ∧ Nx (upd H5 D (.dK (putK kvs k z))) else Nx H3)
/-! ### in, not in -/
theorem inV_row (j : Nat) (r : List Nat) : inV (.int (j : Int)) (rowV r) = decide (j ∈ r) := by
  unfold inV
  have h : ((rowV r).any fun y => eqV y (.int (j : Int))) = true ↔ j ∈ r := by
    rw [List.any_eq_true]
    constructor
    · rintro ⟨y, hy, e⟩
      obtain ⟨k, hk, rfl⟩ := mem_rowV hy
      have e' : ((k : Int) == (j : Int)) = true := e
      have : k = j := by
        have := eq_of_beq e'
        omega
      exact this ▸ hk
    · intro hj
      refine ⟨.int (j : Int), List.mem_map.mpr ⟨j, hj, rfl⟩, ?_⟩
      show ((j : Int) == (j : Int)) = true
      exact beq_self_eq_true _
  by_cases hj : j ∈ r
  · rw [h.mpr hj, decide_eq_true hj]
  · rw [decide_eq_false hj]
    cases q : (rowV r).any fun y => eqV y (.int (j : Int)) with
    | false => rfl
    | true => exact (hj (h.mp q)).elim
theorem flat_row (r : List Nat) : (rowV r).all flatV = true := by
  rw [List.all_eq_true]
  intro y hy
  obtain ⟨k, _, rfl⟩ := mem_rowV hy
  rfl
/-! ### those that are there -/
theorem pres_mem {l : Lot} {k : Nat} : k ∈ pres l ↔ isT l k = true := by
  unfold pres
  rw [List.mem_filter, List.mem_range]
  constructor
  · exact fun h => h.2
  · intro h
    refine ⟨?_, h⟩
    by_cases hk : k < l.length
    · exact hk
    · exfalso
      unfold isT itm at h
      rw [List.getD_eq_getElem?_getD, List.getElem?_eq_none (by omega)] at h
      cases h
theorem pres_nodup (l : Lot) : (pres l).Nodup := List.nodup_range.sublist List.filter_sublist
theorem pres_lt {l : Lot} {k : Nat} (h : k ∈ pres l) : k < l.length := List.mem_range.mp (List.mem_filter.mp h).1
theorem pres_len (l : Lot) : (pres l).length ≤ l.length := by
  have := List.length_filter_le (isT l) (List.range l.length)
  rw [List.length_range] at this
  exact this
theorem itm_some {l : Lot} {k : Nat} (h : isT l k = true) : itm l k = some (lenO l k) := by
  unfold isT at h
  unfold lenO
  cases e : itm l k with
  | none => rw [e] at h; cases h
  | some x => rfl
theorem itm_none {l : Lot} {k : Nat} (h : isT l k = false) : itm l k = none := by
  unfold isT at h
  cases e : itm l k with
  | none => rfl
  | some x => rw [e] at h; cases h
theorem lenO_none {l : Lot} {k : Nat} (h : isT l k = false) : lenO l k = 0 := by
  unfold lenO
  rw [itm_none h] <;> rfl
theorem itm_mem {l : Lot} {k : Nat} {x : Int} (h : itm l k = some x) : some x ∈ l := by
  unfold itm at h
  rw [List.getD_eq_getElem?_getD] at h
  cases e : l[k]? with
  | none => rw [e] at h; cases h
  | some o =>
    rw [e] at h
    have : o = some x := h
    exact this ▸ List.mem_of_getElem? e
theorem lenO_nn {n : Nat} {l : Lot} (lo : LotOk n l) (k : Nat) : 0 ≤ lenO l k := by
  cases h : isT l k with
  | true => exact lo.nn _ (itm_mem (itm_some h))
  | false => rw [lenO_none h]; exact Int.le_refl _
/-! ### the dict comprehension over enumerate(t), its keys the places -/
def dkf (f : Nat → Option V) (n : Nat) : List (Key × V) := (List.range n).filterMap fun j => (f j).map fun y => ((Sum.inl (j : Int) : Key), y)
theorem dkf_none (f : Nat → Option V) (i : Nat) : valV (dkf f i) (Sum.inl (i : Int)) = none := by
  cases e : valV (dkf f i) (Sum.inl (i : Int)) with
  | none => rfl
  | some v =>
    exfalso
    obtain ⟨p, hp, e2⟩ := List.mem_map.mp (valV_in e)
    obtain ⟨j, hj, e3⟩ := List.mem_filterMap.mp hp
    have hlt := List.mem_range.mp hj
    cases e4 : f j with
    | none => rw [e4] at e3; cases e3
    | some y =>
      rw [e4] at e3
      have e3 : ((Sum.inl (j : Int) : Key), y) = p := Option.some.inj e3
      rw [← e3] at e2
      have e2 : (Sum.inl (j : Int) : Key) = Sum.inl (i : Int) := e2
      injection e2 with e2
      omega
theorem dkf_put (f : Nat → Option V) (i : Nat) {y : V} (h : f i = some y) : putK (dkf f i) (Sum.inl (i : Int)) y = dkf f (i + 1) := by
  rw [putK_new y (dkf_none f i)]
  unfold dkf
  rw [range_fm, h] <;> rfl
theorem dkf_skip (f : Nat → Option V) (i : Nat) (h : f i = none) : dkf f (i + 1) = dkf f i := by
  unfold dkf
  rw [range_fm, h] <;> exact List.append_nil _
theorem dkf_len (f : Nat → Option V) (i : Nat) : (dkf f i).length ≤ i := range_fm_len _ i
theorem dkf_if (p : Nat → Bool) (g : Nat → V) (n : Nat) : dkf (fun j => if p j = true then some (g j) else none) n = ((List.range n).filter p).map fun (k : Nat) => ((Sum.inl (k : Int) : Key), g k) := by
  unfold dkf
  rw [← range_fm_if]
  refine fm_congr fun j _ => ?_
  show Option.map (fun y => ((Sum.inl (j : Int) : Key), y)) (if p j = true then some (g j) else none) = _
  cases p j <;> rfl
section
variable {K : PySem.W.Frag} {g : TG} {tt : TT} {tk tv : TE} {vs : List Nat} {σ : L2.St} {H : Hp} {a : Addr} {xs : List V} {D : Addr} {Qd : Hp → Prop}
def TurnD (g : TG) (tt : TT) (tk tv : TE) (vs : List Nat) (σ : L2.St) (H : Hp) (x : V) (i : Nat) (f : Option V) : Prop :=
  ∀ (Qy : V → Hp → Prop) (Qn : Hp → Prop), (∀ H2, Same H H2 → ∀ y, f = some y → Qy y H2) → (∀ H2, Same H H2 → f = none → Qn H2) →
    g x (wipe σ vs) H fun σ2 H2 =>
      wipe σ2 vs = wipe σ vs ∧ tt σ2 H2 fun b H3 =>
        if b = true then tk σ2 H3 fun y H4 => tv σ2 H4 fun z H5 => y = .int (i : Int) ∧ Qy z H5 else Qn H3
theorem dci_enum (f : Nat → Option V) (hx : H a = some (.tup xs)) (hD : H D = none) (hz : xs.length ≤ 10000)
    (mono : ∀ σ H (Q Q' : V → Hp → Prop), (∀ y H1, Q y H1 → Q' y H1) → tv σ H Q → tv σ H Q')
    (monk : ∀ σ H (Q Q' : V → Hp → Prop), (∀ y H1, Q y H1 → Q' y H1) → tk σ H Q → tk σ H Q')
    (mont : ∀ σ H (Q Q' : Bool → Hp → Prop), (∀ y H1, Q y H1 → Q' y H1) → tt σ H Q → tt σ H Q')
    (mong : ∀ x σ H (Q Q' : L2.St → Hp → Prop), (∀ y H1, Q y H1 → Q' y H1) → g x σ H Q → g x σ H Q')
    (ht : ∀ (i : Nat) (x : V), xs[i]? = some x → ∀ H1 T, Same H H1 → H1 T = some (.tup [.int (i : Int), x]) → TurnD g tt tk tv vs σ H1 (.ref T) i (f i))
    (k : ∀ H1, Same H H1 → H1 D = some (.dK (dkf f xs.length)) → Qd H1) : DcR (ItE K a) g tt tk tv vs σ H D Qd := by
  refine ⟨fun i m H1 => m = xs.length - i ∧ i ≤ xs.length ∧ Same H H1 ∧ H1 D = some (.dK (dkf f i)), ⟨xs.length, by simp, Nat.zero_le _, same_upd hD, upd_same⟩, ?_⟩
  rintro i m H1 ⟨rfl, hi, p1, p2⟩
  by_cases hlt : i < xs.length
  · refine .inr ⟨⟨xs, xs[i], SqT.of (p1 _ _ hx), List.getElem?_eq_getElem hlt⟩, fun H1 => Same H H1 ∧ H1 D = some (.dK (dkf f (i + 1))), fun H2 p => ⟨xs.length - (i + 1), by omega, rfl, hlt, p⟩, ?_⟩
    rintro v H2 ⟨T, x, rfl, nT, rfl, hq⟩
    have hx1 := hq xs (SqT.of (p1 _ _ hx))
    have sT : Same H (upd H1 T (.tup [.int (i : Nat), x])) := p1.trans (same_upd nT)
    have dT : upd H1 T (.tup [.int (i : Nat), x]) D = some (.dK (dkf f i)) := by rw [upd_ne (ne_of_none p2 nT)]; exact p2
    have h := ht i x hx1 _ T sT upd_same (fun z H5 => ∃ kvs k, (V.int (i : Int)) = kV k ∧
                H5 D = some (.dK kvs) ∧ kvs.length < sizeLine ∧ (Same H (upd H5 D (.dK (putK kvs k z))) ∧ upd H5 D (.dK (putK kvs k z)) D = some (.dK (dkf f (i + 1))))) (fun H3 => Same H H3 ∧ H3 D = some (.dK (dkf f (i + 1))))
      (fun H3 s y hy => ⟨_, Sum.inl (i : Int), rfl, s _ _ dT, Nat.lt_of_le_of_lt (Nat.le_trans (dkf_len f i) (Nat.le_trans hi hz)) (by decide), same_wr (sT.trans s) hD, by rw [upd_same, dkf_put f i hy]⟩)
      (fun H3 s hn => ⟨sT.trans s, by rw [s _ _ dT, dkf_skip f i hn]⟩)
    refine mong _ _ _ _ _ (fun σ2 H3 h => ⟨h.1, mont _ _ _ _ (fun b H4 h => ?_) h.2⟩) h
    cases b with
    | true =>
      refine iteT (monk _ _ _ _ (fun y H5 h => mono _ _ _ _ (fun z H6 h => ?_) h) (by
        rw [if_pos rfl] at h
        exact h))
      obtain ⟨rfl, kvs, k, e1, e2, e3, e4⟩ := h
      exact ⟨kvs, k, e1, e2, e3, e4⟩
    | false =>
      rw [if_neg (by decide)] at h
      exact iteF h
  · have e : i = xs.length := by omega
    subst e
    exact .inl ⟨⟨xs, SqT.of (p1 _ _ hx), rfl⟩, k H1 p1 p2⟩
end
/-! ### further -/
theorem oV_non (o : Option Int) : decide (oV o = V.non) = !o.isSome := by
  cases o with
  | none => rfl
  | some n => rfl
theorem nn_is (l : Lot) (k : Nat) : V.bl (!decide (oV (itm l k) = V.non)) = V.bl (isT l k) := by
  rw [oV_non, Bool.not_not] <;> rfl
theorem kp_lst {H : Hp} {p : Addr} {xs : List V} {o : HO} (h : H p = some (.lst xs)) : Kp H (upd H p o) := fun b u e i => by
  rw [upd_ne (fun z => by
    subst z
    rw [h] at e
    cases e
    exact i)]
  exact e
theorem kp_dT {H : Hp} {p : Addr} {xs : List (List Key × V)} {o : HO} (h : H p = some (.dT xs)) : Kp H (upd H p o) := fun b u e i => by
  rw [upd_ne (fun z => by
    subst z
    rw [h] at e
    cases e
    exact i)]
  exact e
theorem lotV_at {l : Lot} {i : Nat} {x : V} (h : (lotV l)[i]? = some x) : x = oV (itm l i) ∧ i < l.length := by
  have hi : i < l.length := by
    have := (List.getElem?_eq_some_iff.mp h).1
    rwa [lotV_len] at this
  rw [lotV_get hi] at h
  exact ⟨(Option.some.inj h).symm, hi⟩
theorem rowV_at {r : List Nat} {i : Nat} {x : V} (h : (rowV r)[i]? = some x) : ∃ k, r[i]? = some k ∧ x = .int (k : Int) := by
  have hi : i < r.length := by
    have := (List.getElem?_eq_some_iff.mp h).1
    rwa [rowV_len] at this
  have e := List.getElem?_eq_getElem hi
  rw [rowV_get e] at h
  exact ⟨_, e, (Option.some.inj h).symm⟩
def Trips (H : Hp) (ts : List V) (rs : List (Nat × Int × Int)) : Prop := ts.length = rs.length ∧ ∀ (i : Nat) (t : Nat × Int × Int), rs[i]? = some t → ∃ a, ts[i]? = some (.ref a) ∧ H a = some (.tup [.int (t.1 : Int), .int t.2.1, .int t.2.2])
theorem Trips.nil {H : Hp} : Trips H [] [] := ⟨rfl, fun i t h => by cases h⟩
theorem Trips.kp {H H' : Hp} {ts : List V} {rs : List (Nat × Int × Int)} (h : Trips H ts rs) (s : Kp H H') : Trips H' ts rs := ⟨h.1, fun i t e => by
  obtain ⟨a, e1, e2⟩ := h.2 i t e
  exact ⟨a, e1, s.tup e2⟩⟩
theorem Trips.snoc {H : Hp} {ts : List V} {rs : List (Nat × Int × Int)} {a : Addr} {t : Nat × Int × Int} (h : Trips H ts rs) (e : H a = some (.tup [.int (t.1 : Int), .int t.2.1, .int t.2.2])) : Trips H (ts ++ [.ref a]) (rs ++ [t]) := by
  refine ⟨by rw [List.length_append, List.length_append, h.1] <;> rfl, fun i u hi => ?_⟩
  by_cases hlt : i < rs.length
  · rw [List.getElem?_append_left hlt] at hi
    obtain ⟨b, e1, e2⟩ := h.2 i u hi
    exact ⟨b, by rw [List.getElem?_append_left (by rw [h.1]; exact hlt)]; exact e1, e2⟩
  · have hi2 := (List.getElem?_eq_some_iff.mp hi).1
    rw [List.length_append] at hi2
    have : i = rs.length := by
      have : rs.length + [t].length = rs.length + 1 := rfl
      omega
    subst this
    rw [List.getElem?_append_right (Nat.le_refl _), Nat.sub_self] at hi
    have : t = u := Option.some.inj hi
    subst this
    refine ⟨a, ?_, e⟩
    rw [← h.1, List.getElem?_append_right (Nat.le_refl _), Nat.sub_self] <;> rfl
/-! ### rules whose reading names K, for the blocks of comprehensions -/
section
variable {X : Cx} {K : PySem.W.Frag}
theorem op_notIn_seqK (h : X.K = K) : OpR X (compareOp .NotIn) (rIn K true) := h ▸ op_notIn_seq
theorem op_catAK (h : X.K = K) : OpR X (binaryOp .Add) (rCatA K) := h ▸ op_catA
theorem ix_tupK (h : X.K = K) : IxR X (rIxT K) := h ▸ ix_tup
theorem ix_listK (h : X.K = K) : IxR X (rIxL K) := h ▸ ix_list
theorem pg_tupK {es : List Expr} {k : Nat} {t : TGs} {n : Nat} {pos : Pos} (h : X.K = K) (hc : X.calm = true) (hg : PGs X es t)
    (hn : (assignEach es X.env).length = n := by rfl) (hst : (assignEach es X.env).findIdx? (·.1) = none := by rfl) : PG X (.Tuple es k pos) (gTup K n t) := h ▸ pg_tup hc hg hn hst
theorem call_len_seqK (h : X.K = K) : CallR X (.builtin "len") (fun xs H Q => ∃ p ys, xs = [.ref p] ∧ (SqL K H p ys ∨ SqT K H p ys) ∧ Q (.int ys.length) H) := h ▸ call_len_seq
theorem pe_bmK {o e : Expr} {es : List Expr} {to : TE} {t : TA} {name : Str} {apos cpos : Pos} {T id : String} {r : V → List V → Hp → VK → Prop} (h : X.K = K) (pa : PlainAttrs T) (slot : Slot T name id) (hty : typeOf (.builtin id) = pure (.type "method_descriptor")) (hm : MtR X id r) (ho : PE X o to) (ha : PA X (e :: es) t)
    (hbase : attributeBase o name X.env (eval o X.env) = eval o X.env := by rfl)
    (hfew : ((backTo cpos (starEach (e :: es) X.env)).all (fun x => !x.1) && (backToKw cpos (keywordEach [] X.env)).all (fun x => x.1.isSome)
      && decide ((e :: es).length + ([] : List Keyword).length + (if ([] : List Keyword).isEmpty then 0 else 1) < 30)) = true := by rfl)
    (hline : (apos.endLine == cpos.line) = true := by rfl) (hs : starEach (e :: es) X.env = (false, eval e X.env) :: starEach es X.env := by rfl) (hplain : (backTo cpos (starEach es X.env)).any (·.1) = false := by rfl) :
    PE X (.Call (.Attribute o name apos) (e :: es) [] cpos) (tBM K T r to t) := h ▸ pe_bm pa slot hty hm ho ha hbase hfew hline hs hplain
end
end K73
set_option Elab.async false
set_option linter.all false
set_option maxRecDepth 100000
set_option maxHeartbeats 4000000
/-! The checks: each def's promise, and its walk. -/
namespace K73
open PySem PySem.Spec PyProof.Rows L2
abbrev CB (K : PySem.W.Frag) : Addr := He.ga K "Book"
section
variable {P : Program} {w : World} {K : PySem.W.Frag} {mg : Str → Option Value} {base : Heap}
/-! is_integer of an int -/
theorem sc_is_integer : FnScope (["thing"] : List Str) (["thing"] : List Str) (defScope s_is_integer) := ⟨rfl, rfl, rfl, by decide +kernel, rfl, by decide +kernel, by decide +kernel⟩
def sp_is_integer : Sp := fun vs H Q _ => ∃ n : Int, vs = [.int n] ∧ Q (.bl true) H
theorem ok_is_integer (T : Tx K mg) : Ok P w K mg base 1 "is_integer" (["thing"] : List Str) sp_is_integer := by
  refine ok_of T.F_is_integer sc_is_integer (fun vs H Q E h => ?_) (fun _ _ _ _ _ _ us hl => match us, hl with | [_], _ => rfl) (fun cdv A outer s H vs Q E hr h => ?_)
  · obtain ⟨n, rfl, _⟩ := h
    rfl
  · obtain ⟨n, rfl, k⟩ := h
    refine ⟨_, (pss_one (ps_ret (pe_and (pe_callB call_isi (by rfl) T.n_isinstance (by decide +kernel) (pa_cons (pv 0) (pa_cons (pe_bltn (v := .ty "int") (by rfl) T.n_int (by decide +kernel) rfl) pa_nil))) (pe_one (pe_not (pe_callB call_isi (by rfl) T.n_isinstance (by decide +kernel) (pa_cons (pv 0) (pa_cons (pe_bltn (v := .ty "bool") (by rfl) T.n_bool (by decide +kernel) rfl) pa_nil)))))))), ?_⟩
    refine ⟨_, rfl, _, _, _, _, true, rfl, .ty "int", .base (.int _), kit_ty (by decide +kernel), true, rfl, ?_⟩
    refine ⟨_, rfl, _, _, _, _, false, rfl, .ty "bool", .base (.int _), kit_ty (by decide +kernel), false, rfl, ?_⟩
    exact k
/-! is_within, is_from: when it is so -/
theorem sc_is_within : FnScope (["thing", "least", "most"] : List Str) (["thing", "least", "most"] : List Str) (defScope s_is_within) := ⟨rfl, rfl, rfl, by decide +kernel, rfl, by decide +kernel, by decide +kernel⟩
def sp_is_within : Sp := fun vs H Q _ => ∃ n a b : Int, vs = [.int n, .int a, .int b] ∧ a ≤ n ∧ n ≤ b ∧ Q (.bl true) H
theorem ok_is_within (T : Tx K mg) : Ok P w K mg base 2 "is_within" (["thing", "least", "most"] : List Str) sp_is_within := by
  obtain ⟨fd_is_integer, G_is_integer, kp_is_integer, b_is_integer⟩ := ok_is_integer (P := P) (w := w) (base := base) T
  refine ok_of T.F_is_within sc_is_within (fun vs H Q E h => ?_) (fun _ _ _ _ _ _ us hl => match us, hl with | [_, _, _], _ => rfl) (fun cdv A outer s H vs Q E hr h => ?_)
  · obtain ⟨n, a, b, rfl, _⟩ := h
    rfl
  · obtain ⟨n, a, b, rfl, h1, h2, k⟩ := h
    refine ⟨_, (pss_one (ps_ret (pe_and (pe_call G_is_integer (hr.mono (by decide)) (by rfl) T.g_is_integer kp_is_integer b_is_integer .nil pass0 (pa_cons (pv 0) pa_nil)) (pe_one (pe_chain op_le op_le (pv 1) (pv 0) (pv 2)))))), ?_⟩
    refine ⟨_, rfl, _, rfl, true, rfl, ?_⟩
    refine ⟨_, rfl, _, rfl, _, _, rfl, rfl, true, bl_t h1, ?_⟩
    refine ⟨_, rfl, _, _, rfl, rfl, ?_⟩
    exact q_t h2 k
theorem sc_is_from : FnScope (["thing", "least"] : List Str) (["thing", "least"] : List Str) (defScope s_is_from) := ⟨rfl, rfl, rfl, by decide +kernel, rfl, by decide +kernel, by decide +kernel⟩
def sp_is_from : Sp := fun vs H Q _ => ∃ n a : Int, vs = [.int n, .int a] ∧ a ≤ n ∧ Q (.bl true) H
theorem ok_is_from (T : Tx K mg) : Ok P w K mg base 2 "is_from" (["thing", "least"] : List Str) sp_is_from := by
  obtain ⟨fd_is_integer, G_is_integer, kp_is_integer, b_is_integer⟩ := ok_is_integer (P := P) (w := w) (base := base) T
  refine ok_of T.F_is_from sc_is_from (fun vs H Q E h => ?_) (fun _ _ _ _ _ _ us hl => match us, hl with | [_, _], _ => rfl) (fun cdv A outer s H vs Q E hr h => ?_)
  · obtain ⟨n, a, rfl, _⟩ := h
    rfl
  · obtain ⟨n, a, rfl, h1, k⟩ := h
    refine ⟨_, (pss_one (ps_ret (pe_and (pe_call G_is_integer (hr.mono (by decide)) (by rfl) T.g_is_integer kp_is_integer b_is_integer .nil pass0 (pa_cons (pv 0) pa_nil)) (pe_one (pe_cmpR op_ge (pv 0) (pv 1) (nomark _)))))), ?_⟩
    refine ⟨_, rfl, _, rfl, true, rfl, ?_⟩
    refine ⟨_, rfl, _, rfl, _, _, rfl, rfl, ?_⟩
    exact q_t h1 k
/-! is_pair of a tuple of two -/
theorem sc_is_pair : FnScope (["thing"] : List Str) (["thing"] : List Str) (defScope s_is_pair) := ⟨rfl, rfl, rfl, by decide +kernel, rfl, by decide +kernel, by decide +kernel⟩
def sp_is_pair : Sp := fun vs H Q _ => ∃ (a : Addr) (x y : V), vs = [.ref a] ∧ H a = some (.tup [x, y]) ∧ Q (.bl true) H
theorem ok_is_pair (T : Tx K mg) : Ok P w K mg base 1 "is_pair" (["thing"] : List Str) sp_is_pair := by
  refine ok_of T.F_is_pair sc_is_pair (fun vs H Q E h => ?_) (fun _ _ _ _ _ _ us hl => match us, hl with | [_], _ => rfl) (fun cdv A outer s H vs Q E hr h => ?_)
  · obtain ⟨a, x, y, rfl, _⟩ := h
    rfl
  · obtain ⟨a, x, y, rfl, ha, k⟩ := h
    refine ⟨_, (pss_one (ps_ret (pe_and (pe_callB call_isi (by rfl) T.n_isinstance (by decide +kernel) (pa_cons (pv 0) (pa_cons (pe_bltn (v := .ty "tuple") (by rfl) T.n_tuple (by decide +kernel) rfl) pa_nil))) (pe_one (pe_cmpR op_eq (pe_callB (call_len_seqK (K := K) rfl) (by rfl) T.n_len (by decide +kernel) (pa_cons (pv 0) pa_nil)) pe_int (nomark _)))))), ?_⟩
    refine ⟨_, rfl, _, _, _, _, true, rfl, .ty "tuple", .base (.tup ha), kit_ty (by decide +kernel), true, rfl, ?_⟩
    refine ⟨_, rfl, _, _, rfl, Or.inr (SqT.of ha), rfl, ?_⟩
    exact k
/-! check_many: not too many -/
theorem sc_check_many : FnScope (["number", "most"] : List Str) (["number", "most"] : List Str) (defScope s_check_many) := ⟨rfl, rfl, rfl, by decide +kernel, rfl, by decide +kernel, by decide +kernel⟩
def sp_check_many : Sp := fun vs H Q _ => ∃ n a : Int, vs = [.int n, .int a] ∧ n ≤ a ∧ Q .non H
theorem ok_check_many (T : Tx K mg) : Ok P w K mg base 1 "check_many" (["number", "most"] : List Str) sp_check_many := by
  refine ok_of T.F_check_many sc_check_many (fun vs H Q E h => ?_) (fun _ _ _ _ _ _ us hl => match us, hl with | [_, _], _ => rfl) (fun cdv A outer s H vs Q E hr h => ?_)
  · obtain ⟨n, a, rfl, _⟩ := h
    rfl
  · obtain ⟨n, a, rfl, h1, k⟩ := h
    refine ⟨_, (pss_one (ps_if (pt_cmpR op_gt (pv 0) (pv 1) (nomark _)) (pss_one ps_never) pss_nil)), ?_⟩
    refine ⟨_, rfl, _, rfl, _, _, rfl, rfl, _, rfl, ?_⟩
    exact if_f (show ¬ a < n by omega) k
/-! is_window of a right one -/
theorem sc_is_window : FnScope (["thing"] : List Str) (["thing"] : List Str) (defScope s_is_window) := ⟨rfl, rfl, rfl, by decide +kernel, rfl, by decide +kernel, by decide +kernel⟩
def sp_is_window : Sp := fun vs H Q _ => ∃ (a : Addr) (x : Int × Int), vs = [.ref a] ∧ H a = some (.tup [.int x.1, .int x.2]) ∧ 0 ≤ x.1 ∧ x.1 ≤ x.2 ∧ x.2 ≤ 1000000 ∧ Q (.bl true) H
theorem ok_is_window (T : Tx K mg) : Ok P w K mg base 3 "is_window" (["thing"] : List Str) sp_is_window := by
  obtain ⟨fd_is_within, G_is_within, kp_is_within, b_is_within⟩ := ok_is_within (P := P) (w := w) (base := base) T
  obtain ⟨fd_is_pair, G_is_pair, kp_is_pair, b_is_pair⟩ := ok_is_pair (P := P) (w := w) (base := base) T
  refine ok_of T.F_is_window sc_is_window (fun vs H Q E h => ?_) (fun _ _ _ _ _ _ us hl => match us, hl with | [_], _ => rfl) (fun cdv A outer s H vs Q E hr h => ?_)
  · obtain ⟨a, x, rfl, _⟩ := h
    rfl
  · obtain ⟨a, x, rfl, ha, h1, h2, h3, k⟩ := h
    refine ⟨_, (pss_one (ps_ret (pe_and (pe_call G_is_pair (hr.mono (by decide)) (by rfl) T.g_is_pair kp_is_pair b_is_pair .nil pass0 (pa_cons (pv 0) pa_nil)) (pe_and (pe_call G_is_within (hr.mono (by decide)) (by rfl) T.g_is_within kp_is_within b_is_within .nil pass0 (pa_cons (pe_ix (ix_tupK (K := K) rfl) (pv 0) pe_int (fun _ _ => rfl)) (pa_cons pe_int (pa_cons (pe_globI (by rfl) T.i_hour) pa_nil)))) (pe_one (pe_call G_is_within (hr.mono (by decide)) (by rfl) T.g_is_within kp_is_within b_is_within .nil pass0 (pa_cons (pe_ix (ix_tupK (K := K) rfl) (pv 0) pe_int (fun _ _ => rfl)) (pa_cons (pe_ix (ix_tupK (K := K) rfl) (pv 0) pe_int (fun _ _ => rfl)) (pa_cons (pe_globI (by rfl) T.i_hour) pa_nil))))))))), ?_⟩
    refine ⟨_, rfl, _, _, _, rfl, ha, true, rfl, ?_⟩
    refine ⟨_, rfl, _, _, _, _, rfl, rfl, SqT.of ha, atI_nat (j := 0) rfl, _, _, _, rfl, h1, by omega, true, rfl, ?_⟩
    refine ⟨_, rfl, _, _, _, _, rfl, rfl, SqT.of ha, atI_nat (j := 1) rfl, _, rfl, _, _, _, _, rfl, rfl, SqT.of ha, atI_nat (j := 0) rfl, _, _, _, rfl, h2, h3, ?_⟩
    exact k
/-! a book is made -/
theorem sc_init : FnScope (["self", "windows", "window"] : List Str) (["self", "windows"] : List Str) (defScope s_init) := ⟨rfl, rfl, rfl, by decide +kernel, rfl, by decide +kernel, by decide +kernel⟩
def sp_init (K : PySem.W.Frag) : Sp := fun vs H Q _ => ∃ (x C dx t : Addr) (ws : List (Int × Int)), vs = [.ref x, .ref t] ∧ C = CB K ∧ H x = some (.ins C dx []) ∧ WinsAt H t ws ∧ 1 ≤ ws.length ∧ ws.length ≤ 40 ∧
  (∀ y ∈ ws, 0 ≤ y.1 ∧ y.1 ≤ y.2 ∧ y.2 ≤ 1000000) ∧ ∀ H', H' x = some (.ins C dx (bFs t)) → (∀ b o, b ≠ x → H b = some o → H' b = some o) → Q .non H'
theorem ok_init (T : Tx K mg) : ∃ fd, FnOk P w K mg base CX0 4 (He.ma K (CB K) "__init__") fd (["self", "windows"] : List Str) (sp_init K) ∧ Binds K fd (["self", "windows"] : List Str) [] := by
  obtain ⟨fd_is_window, G_is_window, kp_is_window, b_is_window⟩ := ok_is_window (P := P) (w := w) (base := base) T
  obtain ⟨fd, F⟩ := T.F_init
  refine ⟨fd, F.ok sc_init (fun vs H Q E h => ?_) (fun cdv A outer s H vs Q E hr h => ?_), F.bindsN (fun _ _ _ _ _ _ us hl => match us, hl with | [_, _], _ => rfl)⟩
  · obtain ⟨x, C, dx, t, ws, rfl, _⟩ := h
    rfl
  · obtain ⟨x, C, dx, t, ws, rfl, rfl, hx, hw, l1, l2, hv, k⟩ := h
    refine ⟨_, PSs.nox (pss_cons (ps_if (PW.pt (pw_or (pt_not (pt_val (pe_callB call_isi (by rfl) T.n_isinstance (by decide +kernel) (pa_cons (pv 1) (pa_cons (pe_bltn (v := .ty "tuple") (by rfl) T.n_tuple (by decide +kernel) rfl) pa_nil))))) (pw_or1 (pt_not (pt_chain op_le op_le pe_int (pe_callB (call_len_seqK (K := K) rfl) (by rfl) T.n_len (by decide +kernel) (pa_cons (pv 1) pa_nil)) (pe_globI (by rfl) T.i_works)))))) (pss_one ps_never) pss_nil)
      (pss_cons (ps_if (pt_not (pt_val (pe_callB (cr_all rfl) (by rfl) T.n_all (by decide +kernel) (pa_cons (pe_lc (own := [("window", 2)]) rfl sc_init.nd (pi_tup (pv 1)) (blkOk_by (own := [("window", 2)]) (N := (["self", "windows", "window"] : List Str)) (sc := defScope s_init) (by decide +kernel)) (fun _ _ _ _ _ => (pg_name (i := 2) sc_init.nd rfl (Or.inl rfl))) (fun _ _ _ _ _ => pts_nil) (fun _ _ _ _ _ => (pe_call G_is_window (hr.mono (by decide)) (by rfl) T.g_is_window kp_is_window b_is_window .nil pass0 (pa_cons (pv 2) pa_nil)))) pa_nil)))) (pss_one ps_never) pss_nil)
      (pss_cons (ps_fld (pv 0) (pv 1) rfl)
      (pss_one (ps_fld (pv 0) (pv 1) rfl))))), ?_⟩
    obtain ⟨us, ht, hl⟩ := hw.len
    refine ⟨_, rfl, _, _, _, _, true, rfl, .ty "tuple", .base (.tup ht), kit_ty (by decide +kernel), true, rfl, ?_⟩
    refine iteF ?_
    refine ⟨_, rfl, _, _, rfl, Or.inr (SqT.of ht), ?_⟩
    refine ⟨_, _, rfl, rfl, true, bl_t (by rw [hl]; omega), ?_⟩
    refine ⟨_, _, rfl, rfl, true, bl_t (by rw [hl]; omega), ?_⟩
    refine iteF ?_
    refine ⟨_, rfl, t, rfl, ⟨_, SqT.of ht⟩, fun D hD => lcr_tup (fun _ => some (.bl true)) (SqT.of ht) hD (by rw [hl]; omega) (fun y hy => turnN rfl fun H1 sm Qy ky => ?_) fun H1 sm hD1 => ?_⟩
    · obtain ⟨i, hi⟩ := List.mem_iff_getElem?.mp hy
      obtain ⟨ps, e1, e2, e3⟩ := hw.ex
      rw [ht] at e1
      cases e1
      have hil : i < ws.length := by
        have := (List.getElem?_eq_some_iff.mp hi).1
        omega
      obtain ⟨a, a1, a2⟩ := e3 i _ (List.getElem?_eq_getElem hil)
      rw [List.getElem?_map, a1] at hi
      cases hi
      obtain ⟨v1, v2, v3⟩ := hv _ (List.getElem_mem hil)
      exact ⟨_, rfl, a, _, rfl, sm _ _ a2, v1, v2, v3, ky _ (Same.refl _)⟩
    · rw [fm_true] at hD1
      refine ⟨_, _, rfl, SqL.of hD1, true, by rw [all_true], ?_⟩
      refine iteF ?_
      have hx1 := sm _ _ hx
      refine ⟨_, rfl, _, rfl, x, _, dx, _, rfl, hx1, T.cB, T.aW, (by show 0 < 1000; decide), ?_⟩
      refine ⟨_, rfl, _, rfl, x, _, dx, _, rfl, upd_same, T.cB, T.aK, (by show 1 < 1000; decide), ?_⟩
      refine k _ upd_same fun b o hb e => ?_
      rw [upd_ne hb, upd_ne hb]
      exact sm _ _ e
end
end K73
set_option Elab.async false
set_option linter.all false
set_option maxRecDepth 100000
set_option maxHeartbeats 4000000
/-! Books read, rows and lots judged. -/
namespace K73
open PySem PySem.Spec PyProof.Rows L2
section
variable {P : Program} {w : World} {K : PySem.W.Frag} {mg : Str → Option Value} {base : Heap}
theorem sc_many_of : FnScope (["book"] : List Str) (["book"] : List Str) (defScope s_many_of) := ⟨rfl, rfl, rfl, by decide +kernel, rfl, by decide +kernel, by decide +kernel⟩
def sp_many_of (K : PySem.W.Frag) : Sp := fun vs H Q _ => ∃ (b : Addr) (ws : List (Int × Int)), vs = [.ref b] ∧ BookAt (CB K) H b ws ∧ Q (.int (ws.length : Int)) H
theorem ok_many_of (T : Tx K mg) : Ok P w K mg base 1 "many_of" (["book"] : List Str) (sp_many_of K) := by
  refine ok_of T.F_many_of sc_many_of (fun vs H Q E h => ?_) (fun _ _ _ _ _ _ us hl => match us, hl with | [_], _ => rfl) (fun cdv A outer s H vs Q E hr h => ?_)
  · obtain ⟨b, ws, rfl, _⟩ := h
    rfl
  · obtain ⟨b, ws, rfl, hb, k⟩ := h
    obtain ⟨dx, t, h1, h2⟩ := hb.ex
    obtain ⟨us, ht, hl⟩ := h2.len
    refine ⟨_, (pss_one (ps_ret (pe_callB (call_len_seqK (K := K) rfl) (by rfl) T.n_len (by decide +kernel) (pa_cons (pe_fld (pv 0) rfl) pa_nil)))), ?_⟩
    refine ⟨_, rfl, b, _, dx, _, _, rfl, h1, T.cB, T.aK, bFs_k t, t, us, rfl, Or.inr (SqT.of ht), ?_⟩
    have : Q (.int (us.length : Int)) H := by
      rw [hl]
      exact k
    exact this
theorem sc_first_of : FnScope (["book", "work"] : List Str) (["book", "work"] : List Str) (defScope s_first_of) := ⟨rfl, rfl, rfl, by decide +kernel, rfl, by decide +kernel, by decide +kernel⟩
def sp_first_of (K : PySem.W.Frag) : Sp := fun vs H Q _ => ∃ (b : Addr) (j : Nat) (ws : List (Int × Int)), vs = [.ref b, .int (j : Int)] ∧ BookAt (CB K) H b ws ∧ j < ws.length ∧ Q (.int (fiR ws j)) H
theorem ok_first_of (T : Tx K mg) : Ok P w K mg base 1 "first_of" (["book", "work"] : List Str) (sp_first_of K) := by
  refine ok_of T.F_first_of sc_first_of (fun vs H Q E h => ?_) (fun _ _ _ _ _ _ us hl => match us, hl with | [_, _], _ => rfl) (fun cdv A outer s H vs Q E hr h => ?_)
  · obtain ⟨b, j, ws, rfl, _⟩ := h
    rfl
  · obtain ⟨b, j, ws, rfl, hb, hj, k⟩ := h
    obtain ⟨dx, t, h1, h2⟩ := hb.ex
    have hx := List.getElem?_eq_getElem hj
    obtain ⟨us, a, ht, hu, ha⟩ := h2.at hx
    rw [fiR_of hx] at k
    refine ⟨_, (pss_one (ps_ret (pe_ix (ix_tupK (K := K) rfl) (pe_ix (ix_tupK (K := K) rfl) (pe_fld (pv 0) rfl) (pv 1) (fun _ _ => rfl)) pe_int (fun _ _ => rfl)))), ?_⟩
    exact ⟨_, rfl, b, _, dx, _, _, rfl, h1, T.cB, T.aK, bFs_k t, _, rfl, t, us, _, _, rfl, rfl, SqT.of ht, atI_nat hu, a, _, _, _, rfl, rfl, SqT.of ha, atI_nat (j := 0) rfl, k⟩
theorem sc_last_of : FnScope (["book", "work"] : List Str) (["book", "work"] : List Str) (defScope s_last_of) := ⟨rfl, rfl, rfl, by decide +kernel, rfl, by decide +kernel, by decide +kernel⟩
def sp_last_of (K : PySem.W.Frag) : Sp := fun vs H Q _ => ∃ (b : Addr) (j : Nat) (ws : List (Int × Int)), vs = [.ref b, .int (j : Int)] ∧ BookAt (CB K) H b ws ∧ j < ws.length ∧ Q (.int (laS ws j)) H
theorem ok_last_of (T : Tx K mg) : Ok P w K mg base 1 "last_of" (["book", "work"] : List Str) (sp_last_of K) := by
  refine ok_of T.F_last_of sc_last_of (fun vs H Q E h => ?_) (fun _ _ _ _ _ _ us hl => match us, hl with | [_, _], _ => rfl) (fun cdv A outer s H vs Q E hr h => ?_)
  · obtain ⟨b, j, ws, rfl, _⟩ := h
    rfl
  · obtain ⟨b, j, ws, rfl, hb, hj, k⟩ := h
    obtain ⟨dx, t, h1, h2⟩ := hb.ex
    have hx := List.getElem?_eq_getElem hj
    obtain ⟨us, a, ht, hu, ha⟩ := h2.at hx
    rw [laS_of hx] at k
    refine ⟨_, (pss_one (ps_ret (pe_ix (ix_tupK (K := K) rfl) (pe_ix (ix_tupK (K := K) rfl) (pe_fld (pv 0) rfl) (pv 1) (fun _ _ => rfl)) pe_int (fun _ _ => rfl)))), ?_⟩
    exact ⟨_, rfl, b, _, dx, _, _, rfl, h1, T.cB, T.aK, bFs_k t, _, rfl, t, us, _, _, rfl, rfl, SqT.of ht, atI_nat hu, a, _, _, _, rfl, rfl, SqT.of ha, atI_nat (j := 1) rfl, k⟩
theorem sc_is_work : FnScope (["book", "thing"] : List Str) (["book", "thing"] : List Str) (defScope s_is_work) := ⟨rfl, rfl, rfl, by decide +kernel, rfl, by decide +kernel, by decide +kernel⟩
def sp_is_work (K : PySem.W.Frag) : Sp := fun vs H Q _ => ∃ (b : Addr) (j : Nat) (ws : List (Int × Int)), vs = [.ref b, .int (j : Int)] ∧ BookAt (CB K) H b ws ∧ j < ws.length ∧ Q (.bl true) H
theorem ok_is_work (T : Tx K mg) : Ok P w K mg base 3 "is_work" (["book", "thing"] : List Str) (sp_is_work K) := by
  obtain ⟨fd_is_within, G_is_within, kp_is_within, b_is_within⟩ := ok_is_within (P := P) (w := w) (base := base) T
  obtain ⟨fd_many_of, G_many_of, kp_many_of, b_many_of⟩ := ok_many_of (P := P) (w := w) (base := base) T
  refine ok_of T.F_is_work sc_is_work (fun vs H Q E h => ?_) (fun _ _ _ _ _ _ us hl => match us, hl with | [_, _], _ => rfl) (fun cdv A outer s H vs Q E hr h => ?_)
  · obtain ⟨b, j, ws, rfl, _⟩ := h
    rfl
  · obtain ⟨b, j, ws, rfl, hb, hj, k⟩ := h
    refine ⟨_, (pss_one (ps_ret (pe_call G_is_within (hr.mono (by decide)) (by rfl) T.g_is_within kp_is_within b_is_within .nil pass0 (pa_cons (pv 1) (pa_cons pe_int (pa_cons (pe_op op_sub (pe_call G_many_of (hr.mono (by decide)) (by rfl) T.g_many_of kp_many_of b_many_of .nil pass0 (pa_cons (pv 0) pa_nil)) pe_int) pa_nil)))))), ?_⟩
    exact ⟨_, rfl, _, rfl, b, ws, rfl, hb, _, _, rfl, rfl, _, _, _, rfl, by omega, by omega, k⟩
/-! rows -/
theorem sc_is_row : FnScope (["book", "thing", "work"] : List Str) (["book", "thing"] : List Str) (defScope s_is_row) := ⟨rfl, rfl, rfl, by decide +kernel, rfl, by decide +kernel, by decide +kernel⟩
def sp_is_row (K : PySem.W.Frag) : Sp := fun vs H Q _ => ∃ (b r : Addr) (ws : List (Int × Int)) (row : List Nat), vs = [.ref b, .ref r] ∧ BookAt (CB K) H b ws ∧ H r = some (.tup (rowV row)) ∧ RowOk ws.length row ∧ ∀ H', Same H H' → Q (.bl true) H'
theorem ok_is_row (T : Tx K mg) : Ok P w K mg base 4 "is_row" (["book", "thing"] : List Str) (sp_is_row K) := by
  obtain ⟨fd_is_work, G_is_work, kp_is_work, b_is_work⟩ := ok_is_work (P := P) (w := w) (base := base) T
  refine ok_of T.F_is_row sc_is_row (fun vs H Q E h => ?_) (fun _ _ _ _ _ _ us hl => match us, hl with | [_, _], _ => rfl) (fun cdv A outer s H vs Q E hr h => ?_)
  · obtain ⟨b, r, ws, row, rfl, _⟩ := h
    rfl
  · obtain ⟨b, r, ws, row, rfl, hb, hx, ro, k⟩ := h
    have hfew := ro.few
    refine ⟨_, (pss_cons (ps_if (PW.pt (pw_or (pt_not (pt_val (pe_callB call_isi (by rfl) T.n_isinstance (by decide +kernel) (pa_cons (pv 1) (pa_cons (pe_bltn (v := .ty "tuple") (by rfl) T.n_tuple (by decide +kernel) rfl) pa_nil))))) (pw_or1 (pt_not (pt_val (pe_callB (cr_all rfl) (by rfl) T.n_all (by decide +kernel) (pa_cons (pe_lc (own := [("work", 2)]) rfl sc_is_row.nd (pi_tup (pv 1)) (blkOk_by (own := [("work", 2)]) (N := (["book", "thing", "work"] : List Str)) (sc := defScope s_is_row) (by decide +kernel)) (fun _ _ _ _ _ => (pg_name (i := 2) sc_is_row.nd rfl (Or.inl rfl))) (fun _ _ _ _ _ => pts_nil) (fun _ _ _ _ _ => (pe_call G_is_work (hr.mono (by decide)) (by rfl) T.g_is_work kp_is_work b_is_work .nil pass0 (pa_cons (pv 0) (pa_cons (pv 2) pa_nil))))) pa_nil))))))) (pss_one (ps_ret pe_bl)) pss_nil)
      (pss_one (ps_ret (pe_cmpR op_eq (pe_lenSetI rfl (by rfl) T.n_len (by rfl) T.n_set (pe_callTy call_list_of (by rfl) T.n_list (by decide +kernel) (pa_cons (pv 1) pa_nil))) (pe_callB (call_len_seqK (K := K) rfl) (by rfl) T.n_len (by decide +kernel) (pa_cons (pv 1) pa_nil)) (nomark _))))), ?_⟩
    refine ⟨_, rfl, _, _, _, _, true, rfl, .ty "tuple", .base (.tup hx), kit_ty (by decide +kernel), true, rfl, ?_⟩
    refine iteF ?_
    refine ⟨_, rfl, r, rfl, ⟨_, SqT.of hx⟩, fun D hD => lcr_tup (fun _ => some (.bl true)) (SqT.of hx) hD (by rw [rowV_len]; omega) (fun y hy => turnN rfl fun H1 sm Qy ky => ?_) fun H1 sm hD1 => ?_⟩
    · obtain ⟨j, hj, rfl⟩ := mem_rowV hy
      exact ⟨_, rfl, _, rfl, b, j, ws, rfl, hb.kp (kp_same sm), ro.lt j hj, ky _ (Same.refl _)⟩
    · rw [fm_true] at hD1
      refine ⟨_, _, rfl, SqL.of hD1, true, by rw [all_true], ?_⟩
      refine iteF ?_
      refine ⟨_, rfl, r, _, rfl, Or.inr (SqT.of (sm _ _ hx)), fun l hl => ?_⟩
      refine ⟨l, row.map fun (k : Nat) => (k : Int), rfl, SqL.of (upd_same.trans (by rw [rowV_int])), by rw [len_int]; omega, nodup_int ro.nd, ?_⟩
      refine ⟨_, rfl, r, _, rfl, Or.inr (SqT.of ((same_upd hl) _ _ (sm _ _ hx))), ?_⟩
      refine ⟨rfl, ?_⟩
      exact q_t (by rw [len_int, rowV_len]) (k _ (sm.trans (same_upd hl)))
theorem sc_is_order : FnScope (["book", "thing"] : List Str) (["book", "thing"] : List Str) (defScope s_is_order) := ⟨rfl, rfl, rfl, by decide +kernel, rfl, by decide +kernel, by decide +kernel⟩
def sp_is_order (K : PySem.W.Frag) : Sp := fun vs H Q _ => ∃ (b r : Addr) (ws : List (Int × Int)) (row : List Nat), vs = [.ref b, .ref r] ∧ BookAt (CB K) H b ws ∧ H r = some (.tup (rowV row)) ∧ RowOk ws.length row ∧ row.length = ws.length ∧ ∀ H', Same H H' → Q (.bl true) H'
theorem ok_is_order (T : Tx K mg) : Ok P w K mg base 5 "is_order" (["book", "thing"] : List Str) (sp_is_order K) := by
  obtain ⟨fd_many_of, G_many_of, kp_many_of, b_many_of⟩ := ok_many_of (P := P) (w := w) (base := base) T
  obtain ⟨fd_is_row, G_is_row, kp_is_row, b_is_row⟩ := ok_is_row (P := P) (w := w) (base := base) T
  refine ok_of T.F_is_order sc_is_order (fun vs H Q E h => ?_) (fun _ _ _ _ _ _ us hl => match us, hl with | [_, _], _ => rfl) (fun cdv A outer s H vs Q E hr h => ?_)
  · obtain ⟨b, r, ws, row, rfl, _⟩ := h
    rfl
  · obtain ⟨b, r, ws, row, rfl, hb, hx, ro, hl, k⟩ := h
    refine ⟨_, (pss_one (ps_ret (pe_and (pe_call G_is_row (hr.mono (by decide)) (by rfl) T.g_is_row kp_is_row b_is_row .nil pass0 (pa_cons (pv 0) (pa_cons (pv 1) pa_nil))) (pe_one (pe_cmpR op_eq (pe_callB (call_len_seqK (K := K) rfl) (by rfl) T.n_len (by decide +kernel) (pa_cons (pv 1) pa_nil)) (pe_call G_many_of (hr.mono (by decide)) (by rfl) T.g_many_of kp_many_of b_many_of .nil pass0 (pa_cons (pv 0) pa_nil)) (nomark _)))))), ?_⟩
    refine ⟨_, rfl, _, rfl, b, r, ws, row, rfl, hb, hx, ro, fun H1 sm => ⟨true, rfl, ?_⟩⟩
    refine ⟨_, rfl, r, _, rfl, Or.inr (SqT.of (sm _ _ hx)), _, rfl, b, ws, rfl, hb.kp (kp_same sm), rfl, ?_⟩
    exact q_t (by rw [rowV_len, hl]) (k _ sm)
/-! lots -/
theorem sc_is_lot : FnScope (["book", "thing", "item"] : List Str) (["book", "thing"] : List Str) (defScope s_is_lot) := ⟨rfl, rfl, rfl, by decide +kernel, rfl, by decide +kernel, by decide +kernel⟩
def sp_is_lot (K : PySem.W.Frag) : Sp := fun vs H Q _ => ∃ (b l : Addr) (ws : List (Int × Int)) (lot : Lot), vs = [.ref b, .ref l] ∧ BookAt (CB K) H b ws ∧ H l = some (.tup (lotV lot)) ∧ LotOk ws.length lot ∧ ∀ H', Same H H' → Q (.bl true) H'
theorem ok_is_lot (T : Tx K mg) : Ok P w K mg base 3 "is_lot" (["book", "thing"] : List Str) (sp_is_lot K) := by
  obtain ⟨fd_is_from, G_is_from, kp_is_from, b_is_from⟩ := ok_is_from (P := P) (w := w) (base := base) T
  obtain ⟨fd_many_of, G_many_of, kp_many_of, b_many_of⟩ := ok_many_of (P := P) (w := w) (base := base) T
  refine ok_of T.F_is_lot sc_is_lot (fun vs H Q E h => ?_) (fun _ _ _ _ _ _ us hl => match us, hl with | [_, _], _ => rfl) (fun cdv A outer s H vs Q E hr h => ?_)
  · obtain ⟨b, l, ws, lot, rfl, _⟩ := h
    rfl
  · obtain ⟨b, l, ws, lot, rfl, hb, hx, lo, k⟩ := h
    have hfew := lo.few
    refine ⟨_, (pss_cons (ps_if (PW.pt (pw_or (pt_not (pt_val (pe_callB call_isi (by rfl) T.n_isinstance (by decide +kernel) (pa_cons (pv 1) (pa_cons (pe_bltn (v := .ty "tuple") (by rfl) T.n_tuple (by decide +kernel) rfl) pa_nil))))) (pw_or1 (pt_cmpR op_ne (pe_callB (call_len_seqK (K := K) rfl) (by rfl) T.n_len (by decide +kernel) (pa_cons (pv 1) pa_nil)) (pe_call G_many_of (hr.mono (by decide)) (by rfl) T.g_many_of kp_many_of b_many_of .nil pass0 (pa_cons (pv 0) pa_nil)) (nomark _))))) (pss_one (ps_ret pe_bl)) pss_nil)
      (pss_one (ps_ret (pe_callB (cr_all rfl) (by rfl) T.n_all (by decide +kernel) (pa_cons (pe_lc (own := [("item", 2)]) rfl sc_is_lot.nd (pi_tup (pv 1)) (blkOk_by (own := [("item", 2)]) (N := (["book", "thing", "item"] : List Str)) (sc := defScope s_is_lot) (by decide +kernel)) (fun _ _ _ _ _ => (pg_name (i := 2) sc_is_lot.nd rfl (Or.inl rfl))) (fun _ _ _ _ _ => pts_nil) (fun _ _ _ _ _ => (pe_or (pe_cmpR op_isN (pv 2) pe_non (nomark _)) (pe_one (pe_call G_is_from (hr.mono (by decide)) (by rfl) T.g_is_from kp_is_from b_is_from .nil pass0 (pa_cons (pv 2) (pa_cons pe_int pa_nil))))))) pa_nil))))), ?_⟩
    refine ⟨_, rfl, _, _, _, _, true, rfl, .ty "tuple", .base (.tup hx), kit_ty (by decide +kernel), true, rfl, ?_⟩
    refine iteF ?_
    refine ⟨_, rfl, l, _, rfl, Or.inr (SqT.of hx), _, rfl, b, ws, rfl, hb, rfl, false, by rw [decide_eq_true (by rw [lotV_len, lo.len])] <;> rfl, ?_⟩
    refine iteF ?_
    refine ⟨_, rfl, l, rfl, ⟨_, SqT.of hx⟩, fun D hD => lcr_tup (fun _ => some (.bl true)) (SqT.of hx) hD (by rw [lotV_len]; omega) (fun y hy => turnN rfl fun H1 sm Qy ky => ?_) fun H1 sm hD1 => ?_⟩
    · obtain ⟨o, ho, rfl⟩ := mem_lotV hy
      cases o with
      | none => exact ⟨_, rfl, rfl, true, rfl, ky _ (Same.refl _)⟩
      | some n =>
        refine ⟨_, rfl, rfl, false, rfl, ?_⟩
        exact ⟨_, rfl, n, 0, rfl, lo.nn n ho, ky _ (Same.refl _)⟩
    · rw [fm_true] at hD1
      refine ⟨_, _, rfl, SqL.of hD1, ?_⟩
      have : Q (.bl true) H1 := k _ sm
      rw [← all_true (lotV lot)] at this
      exact this
/-! the checks -/
theorem sc_check_row : FnScope (["book", "thing"] : List Str) (["book", "thing"] : List Str) (defScope s_check_row) := ⟨rfl, rfl, rfl, by decide +kernel, rfl, by decide +kernel, by decide +kernel⟩
def sp_check_row (K : PySem.W.Frag) : Sp := fun vs H Q _ => ∃ (b r : Addr) (ws : List (Int × Int)) (row : List Nat), vs = [.ref b, .ref r] ∧ BookAt (CB K) H b ws ∧ H r = some (.tup (rowV row)) ∧ RowOk ws.length row ∧ ∀ H', Same H H' → Q .non H'
theorem ok_check_row (T : Tx K mg) : Ok P w K mg base 5 "check_row" (["book", "thing"] : List Str) (sp_check_row K) := by
  obtain ⟨fd_is_row, G_is_row, kp_is_row, b_is_row⟩ := ok_is_row (P := P) (w := w) (base := base) T
  refine ok_of T.F_check_row sc_check_row (fun vs H Q E h => ?_) (fun _ _ _ _ _ _ us hl => match us, hl with | [_, _], _ => rfl) (fun cdv A outer s H vs Q E hr h => ?_)
  · obtain ⟨b, r, ws, row, rfl, _⟩ := h
    rfl
  · obtain ⟨b, r, ws, row, rfl, hb, hx, ro, k⟩ := h
    refine ⟨_, (pss_one (ps_if (pt_not (pt_val (pe_call G_is_row (hr.mono (by decide)) (by rfl) T.g_is_row kp_is_row b_is_row .nil pass0 (pa_cons (pv 0) (pa_cons (pv 1) pa_nil))))) (pss_one ps_never) pss_nil)), ?_⟩
    exact ⟨_, rfl, _, rfl, b, r, ws, row, rfl, hb, hx, ro, fun H1 sm => ⟨true, rfl, iteF (k _ sm)⟩⟩
theorem sc_check_order : FnScope (["book", "thing"] : List Str) (["book", "thing"] : List Str) (defScope s_check_order) := ⟨rfl, rfl, rfl, by decide +kernel, rfl, by decide +kernel, by decide +kernel⟩
def sp_check_order (K : PySem.W.Frag) : Sp := fun vs H Q _ => ∃ (b r : Addr) (ws : List (Int × Int)) (row : List Nat), vs = [.ref b, .ref r] ∧ BookAt (CB K) H b ws ∧ H r = some (.tup (rowV row)) ∧ RowOk ws.length row ∧ row.length = ws.length ∧ ∀ H', Same H H' → Q .non H'
theorem ok_check_order (T : Tx K mg) : Ok P w K mg base 6 "check_order" (["book", "thing"] : List Str) (sp_check_order K) := by
  obtain ⟨fd_is_order, G_is_order, kp_is_order, b_is_order⟩ := ok_is_order (P := P) (w := w) (base := base) T
  refine ok_of T.F_check_order sc_check_order (fun vs H Q E h => ?_) (fun _ _ _ _ _ _ us hl => match us, hl with | [_, _], _ => rfl) (fun cdv A outer s H vs Q E hr h => ?_)
  · obtain ⟨b, r, ws, row, rfl, _⟩ := h
    rfl
  · obtain ⟨b, r, ws, row, rfl, hb, hx, ro, hl, k⟩ := h
    refine ⟨_, (pss_one (ps_if (pt_not (pt_val (pe_call G_is_order (hr.mono (by decide)) (by rfl) T.g_is_order kp_is_order b_is_order .nil pass0 (pa_cons (pv 0) (pa_cons (pv 1) pa_nil))))) (pss_one ps_never) pss_nil)), ?_⟩
    exact ⟨_, rfl, _, rfl, b, r, ws, row, rfl, hb, hx, ro, hl, fun H1 sm => ⟨true, rfl, iteF (k _ sm)⟩⟩
theorem sc_check_lot : FnScope (["book", "thing"] : List Str) (["book", "thing"] : List Str) (defScope s_check_lot) := ⟨rfl, rfl, rfl, by decide +kernel, rfl, by decide +kernel, by decide +kernel⟩
def sp_check_lot (K : PySem.W.Frag) : Sp := fun vs H Q _ => ∃ (b l : Addr) (ws : List (Int × Int)) (lot : Lot), vs = [.ref b, .ref l] ∧ BookAt (CB K) H b ws ∧ H l = some (.tup (lotV lot)) ∧ LotOk ws.length lot ∧ ∀ H', Same H H' → Q .non H'
theorem ok_check_lot (T : Tx K mg) : Ok P w K mg base 4 "check_lot" (["book", "thing"] : List Str) (sp_check_lot K) := by
  obtain ⟨fd_is_lot, G_is_lot, kp_is_lot, b_is_lot⟩ := ok_is_lot (P := P) (w := w) (base := base) T
  refine ok_of T.F_check_lot sc_check_lot (fun vs H Q E h => ?_) (fun _ _ _ _ _ _ us hl => match us, hl with | [_, _], _ => rfl) (fun cdv A outer s H vs Q E hr h => ?_)
  · obtain ⟨b, l, ws, lot, rfl, _⟩ := h
    rfl
  · obtain ⟨b, l, ws, lot, rfl, hb, hx, lo, k⟩ := h
    refine ⟨_, (pss_one (ps_if (pt_not (pt_val (pe_call G_is_lot (hr.mono (by decide)) (by rfl) T.g_is_lot kp_is_lot b_is_lot .nil pass0 (pa_cons (pv 0) (pa_cons (pv 1) pa_nil))))) (pss_one ps_never) pss_nil)), ?_⟩
    exact ⟨_, rfl, _, rfl, b, l, ws, lot, rfl, hb, hx, lo, fun H1 sm => ⟨true, rfl, iteF (k _ sm)⟩⟩
end
end K73
/-! The mathematics, further: runs, greatest and least, least ends of groups, groups. No Python here. -/
set_option linter.all false
namespace K73
/-! ### greatest and least -/
def mx : List Int → Option Int
  | [] => none
  | x :: r => match mx r with
    | none => some x
    | some m => some (max x m)
theorem mx_some : ∀ {l : List Int} {m : Int}, mx l = some m → m ∈ l ∧ ∀ y ∈ l, y ≤ m
  | [], m, h => by cases h
  | x :: r, m, h => by
    unfold mx at h
    cases e : mx r with
    | none =>
      rw [e] at h
      have h : x = m := Option.some.inj h
      subst h
      have hr : r = [] := by
        cases r with
        | nil => rfl
        | cons a r =>
          unfold mx at e
          cases e2 : mx r with
          | none => rw [e2] at e; cases e
          | some m => rw [e2] at e; cases e
      subst hr
      exact ⟨List.mem_cons_self, fun y hy => by rw [List.mem_singleton.mp hy]; exact Int.le_refl _⟩
    | some m' =>
      rw [e] at h
      have h : max x m' = m := Option.some.inj h
      obtain ⟨h1, h2⟩ := mx_some e
      have l1 := Int.le_max_left x m'
      have l2 := Int.le_max_right x m'
      refine ⟨?_, fun y hy => ?_⟩
      · by_cases hx : x ≤ m'
        · rw [Int.max_eq_right hx] at h
          exact h ▸ List.mem_cons_of_mem _ h1
        · rw [Int.max_eq_left (by omega)] at h
          exact h ▸ List.mem_cons_self
      · rcases List.mem_cons.mp hy with e | e
        · omega
        · have := h2 y e
          omega
theorem mx_none {l : List Int} (h : mx l = none) : l = [] := by
  cases l with
  | nil => rfl
  | cons a r =>
    unfold mx at h
    cases e : mx r with
    | none => rw [e] at h; cases h
    | some m => rw [e] at h; cases h
theorem mx_of {l : List Int} {m : Int} (h1 : m ∈ l) (h2 : ∀ y ∈ l, y ≤ m) : mx l = some m := by
  cases e : mx l with
  | none => rw [mx_none e] at h1; cases h1
  | some m' =>
    obtain ⟨g1, g2⟩ := mx_some e
    have := g2 m h1
    have := h2 m' g1
    have : m' = m := by omega
    rw [this]
theorem mx_isSome {l : List Int} (h : l ≠ []) : ∃ m, mx l = some m := by
  cases e : mx l with
  | none => exact (h (mx_none e)).elim
  | some m => exact ⟨m, rfl⟩
section
variable (f l d : Nat → Int) (q : Nat → Bool)
/-! ### runs -/
def runT : Int → List Nat → List (Nat × Int × Int)
  | _, [] => []
  | c, k :: r => if q k = true then (k, max c (f k), max c (f k) + d k) :: runT (max c (f k) + d k) r else runT c r
variable {f l d q}
theorem runT_lts : ∀ (r : List Nat) (c : Int), (runT f d q c r).map (fun t => t.2.2 - l t.1) = lts f l d q c r
  | [], c => rfl
  | k :: r, c => by
    unfold runT lts
    cases h : q k with
    | true =>
      simp only [if_true, List.map_cons]
      rw [runT_lts r]
    | false =>
      simp only [Bool.false_eq_true, if_false]
      rw [runT_lts r]
theorem runT_snoc (k : Nat) : ∀ (r : List Nat) (c : Int), runT f d q c (r ++ [k]) = runT f d q c r ++ (if q k = true then [(k, max (clk f d q c r) (f k), max (clk f d q c r) (f k) + d k)] else [])
  | [], c => by
    show runT f d q c [k] = _
    unfold runT clk
    cases h : q k <;> simp [runT]
  | j :: r, c => by
    show runT f d q c (j :: (r ++ [k])) = _
    rw [runT, runT, clk]
    cases h : q j with
    | true => simp only [if_true]; rw [runT_snoc k r, List.cons_append]
    | false => simp only [Bool.false_eq_true, if_false]; rw [runT_snoc k r]
theorem clk_snoc (k : Nat) : ∀ (r : List Nat) (c : Int), clk f d q c (r ++ [k]) = if q k = true then max (clk f d q c r) (f k) + d k else clk f d q c r
  | [], c => by
    show clk f d q c [k] = _
    unfold clk
    cases h : q k <;> simp [clk]
  | j :: r, c => by
    show clk f d q c (j :: (r ++ [k])) = _
    rw [clk, clk]
    cases h : q j with
    | true => simp only [if_true]; rw [clk_snoc k r]
    | false => simp only [Bool.false_eq_true, if_false]; rw [clk_snoc k r]
theorem runT_mem : ∀ (r : List Nat) (c : Int) (t : Nat × Int × Int), t ∈ runT f d q c r → t.1 ∈ r
  | [], c, t, h => by cases h
  | k :: r, c, t, h => by
    unfold runT at h
    cases hk : q k with
    | true =>
      rw [hk, if_pos rfl] at h
      rcases List.mem_cons.mp h with e | e
      · rw [e]; exact List.mem_cons_self
      · exact List.mem_cons_of_mem _ (runT_mem r _ t e)
    | false =>
      rw [hk, if_neg (by decide)] at h
      exact List.mem_cons_of_mem _ (runT_mem r _ t h)
theorem runT_len (r : List Nat) : ∀ c, (runT f d q c r).length ≤ r.length := by
  induction r with
  | nil => intro c; exact Nat.le_refl _
  | cons k r ih =>
    intro c
    unfold runT
    cases hk : q k with
    | true => simp only [if_true, List.length_cons]; exact Nat.succ_le_succ (ih _)
    | false => simp only [Bool.false_eq_true, if_false, List.length_cons]; exact Nat.le_succ_of_le (ih _)
theorem lts_ne {r : List Nat} {c : Int} (h : ∃ k ∈ r, q k = true) : lts f l d q c r ≠ [] := by
  induction r generalizing c with
  | nil => obtain ⟨k, hk, _⟩ := h; cases hk
  | cons j r ih =>
    unfold lts
    cases hj : q j with
    | true => simp
    | false =>
      simp only [Bool.false_eq_true, if_false]
      obtain ⟨k, hk, hq⟩ := h
      rcases List.mem_cons.mp hk with e | e
      · rw [e, hj] at hq; cases hq
      · exact ih ⟨k, e, hq⟩
/-- each of those that are there is late by its own first hour and length at least -/
theorem lts_own : ∀ (r : List Nat) (c : Int) (k : Nat), k ∈ r → q k = true → ∃ x ∈ lts f l d q c r, f k + d k - l k ≤ x
  | [], c, k, h, _ => by cases h
  | j :: r, c, k, h, hk => by
    unfold lts
    by_cases e : k = j
    · subst e
      rw [if_pos hk]
      have := Int.le_max_right c (f k)
      exact ⟨_, List.mem_cons_self, by omega⟩
    · have hr : k ∈ r := (List.mem_cons.mp h).resolve_left e
      cases hj : q j with
      | true =>
        simp only [if_true]
        obtain ⟨x, hx, hle⟩ := lts_own r (max c (f j) + d j) k hr hk
        exact ⟨x, List.mem_cons_of_mem _ hx, hle⟩
      | false =>
        simp only [Bool.false_eq_true, if_false]
        exact lts_own r c k hr hk
/-! ### least ends of groups -/
variable (f l d) in
/-- the end of k behind an hour, none if it is more than u late -/
def stepE (u : Int) (e : Option Int) (k : Nat) : Option Int := match e with
  | none => none
  | some e => if max e (f k) + d k ≤ l k + u then some (max e (f k) + d k) else none
variable (f l d) in
def rowE (u : Int) (r : List Nat) : Option Int := r.foldl (stepE f l d u) (some 0)
theorem stepE_none {u : Int} : ∀ r : List Nat, r.foldl (stepE f l d u) none = none
  | [] => rfl
  | k :: r => by rw [List.foldl_cons]; exact stepE_none r
theorem foldE {u : Int} : ∀ (r : List Nat) (c e : Int), (∀ k ∈ r, q k = true) → (r.foldl (stepE f l d u) (some c) = some e ↔ (∀ x ∈ lts f l d q c r, x ≤ u) ∧ e = clk f d q c r)
  | [], c, e, _ => by
    show some c = some e ↔ _
    constructor
    · intro h
      exact ⟨fun x hx => (by cases hx), (Option.some.inj h).symm⟩
    · rintro ⟨_, h⟩
      have h : e = c := h
      rw [h]
  | k :: r, c, e, ha => by
    have hk := ha k List.mem_cons_self
    rw [List.foldl_cons, lts, clk, if_pos hk, if_pos hk]
    show r.foldl (stepE f l d u) (if max c (f k) + d k ≤ l k + u then some (max c (f k) + d k) else none) = some e ↔ _
    by_cases h : max c (f k) + d k ≤ l k + u
    · rw [if_pos h, foldE r _ e fun j hj => ha j (List.mem_cons_of_mem _ hj)]
      constructor
      · rintro ⟨h1, h2⟩
        refine ⟨fun x hx => ?_, h2⟩
        rcases List.mem_cons.mp hx with e | e
        · omega
        · exact h1 x e
      · rintro ⟨h1, h2⟩
        exact ⟨fun x hx => h1 x (List.mem_cons_of_mem _ hx), h2⟩
    · rw [if_neg h, stepE_none]
      constructor
      · intro h; cases h
      · rintro ⟨h1, _⟩
        have := h1 _ List.mem_cons_self
        omega
theorem rowE_iff {u e : Int} {r : List Nat} (ha : ∀ k ∈ r, q k = true) : rowE f l d u r = some e ↔ (∀ x ∈ lts f l d q 0 r, x ≤ u) ∧ e = clk f d q 0 r := foldE r 0 e ha
variable (f l d) in
/-- o is the least end of the rows of G with none more than u late -/
def Best (u : Int) (G : List Nat) (o : Option Int) : Prop :=
  (∀ r : List Nat, r.Perm G → ∀ e, rowE f l d u r = some e → ∃ m, o = some m ∧ m ≤ e) ∧ ∀ m, o = some m → ∃ r : List Nat, r.Perm G ∧ rowE f l d u r = some m
theorem best_nil {u : Int} : Best f l d u [] (some 0) := by
  refine ⟨fun r hr e h => ?_, fun m h => ⟨[], List.Perm.refl _, h⟩⟩
  obtain rfl := List.Perm.eq_nil hr
  exact ⟨0, rfl, by have : (0 : Int) = e := Option.some.inj h; omega⟩
theorem rowE_snoc {u : Int} {r : List Nat} {k : Nat} : rowE f l d u (r ++ [k]) = stepE f l d u (rowE f l d u r) k := by
  unfold rowE
  rw [List.foldl_append]; rfl
/-- the same from the groups with one work less -/
theorem best_step {u : Int} {G : List Nat} {os : Nat → Option Int} {o : Option Int} (hn : G.Nodup) (h0 : G ≠ []) (hs : ∀ k ∈ G, Best f l d u (G.filter (· != k)) (os k))
    (h1 : ∀ k ∈ G, ∀ m, stepE f l d u (os k) k = some m → ∃ m', o = some m' ∧ m' ≤ m) (h2 : ∀ m, o = some m → ∃ k ∈ G, stepE f l d u (os k) k = some m) : Best f l d u G o := by
  have ef : ∀ k, G.filter (· != k) = G.erase k := fun k => (List.Nodup.erase_eq_filter hn k).symm
  refine ⟨fun r hr e he => ?_, fun m hm => ?_⟩
  · rcases List.eq_nil_or_concat r with z | ⟨r', k, z⟩
    · subst z
      exact (h0 (List.Perm.eq_nil hr.symm)).elim
    · rw [List.concat_eq_append] at z
      subst z
      have kG : k ∈ G := hr.mem_iff.mp (List.mem_append_right _ List.mem_cons_self)
      have hp : r'.Perm (G.erase k) := by
        have a : (k :: r').Perm (k :: G.erase k) := ((List.perm_append_singleton k r').symm.trans hr).trans (List.perm_cons_erase kG)
        exact a.cons_inv
      rw [rowE_snoc] at he
      cases e' : rowE f l d u r' with
      | none => rw [e'] at he; cases he
      | some c =>
        obtain ⟨m, hm, hle⟩ := (hs k kG).1 r' (by rw [ef]; exact hp) c e'
        rw [e'] at he
        have he : (if max c (f k) + d k ≤ l k + u then some (max c (f k) + d k) else none) = some e := he
        by_cases hc : max c (f k) + d k ≤ l k + u
        · rw [if_pos hc] at he
          have he : max c (f k) + d k = e := Option.some.inj he
          have hmm : max m (f k) + d k ≤ max c (f k) + d k := by
            have := Int.max_le.mpr ⟨Int.le_trans hle (Int.le_max_left c (f k)), Int.le_max_right c (f k)⟩
            omega
          obtain ⟨m', g1, g2⟩ := h1 k kG (max m (f k) + d k) (by
            rw [hm]
            show (if max m (f k) + d k ≤ l k + u then some (max m (f k) + d k) else none) = _
            rw [if_pos (by omega)])
          exact ⟨m', g1, by omega⟩
        · rw [if_neg hc] at he
          cases he
  · obtain ⟨k, kG, hk⟩ := h2 m hm
    cases e : os k with
    | none => rw [e] at hk; cases hk
    | some c =>
      obtain ⟨r, hr, he⟩ := (hs k kG).2 c e
      rw [e] at hk
      refine ⟨r ++ [k], ?_, by rw [rowE_snoc, he]; exact hk⟩
      rw [ef] at hr
      exact (List.perm_append_singleton k r).trans ((hr.cons k).trans (List.perm_cons_erase kG).symm)
end
/-! ### groups -/
/-- all groups of some works, in the order in which they are made -/
def subsL (ks : List Nat) : List (List Nat) := ks.foldl (fun acc k => acc ++ acc.map (· ++ [k])) [[]]
theorem subsL_snoc (ks : List Nat) (k : Nat) : subsL (ks ++ [k]) = subsL ks ++ (subsL ks).map (· ++ [k]) := by
  unfold subsL
  rw [List.foldl_append]; rfl
theorem rev_ind {α : Type} {p : List α → Prop} (h0 : p []) (h1 : ∀ l a, p l → p (l ++ [a])) (l : List α) : p l := by
  have h : ∀ r : List α, p r.reverse := fun r => by
    induction r with
    | nil => exact h0
    | cons a r ih => rw [List.reverse_cons]; exact h1 _ _ ih
  have := h l.reverse
  rw [List.reverse_reverse] at this
  exact this
theorem subsL_len (ks : List Nat) : (subsL ks).length = 2 ^ ks.length := by
  induction ks using rev_ind with
  | h0 => rfl
  | h1 ks k ih =>
    rw [subsL_snoc, List.length_append, List.length_map, List.length_append, ih, Nat.pow_add]
    show _ = 2 ^ ks.length * 2
    omega
theorem subsL_sub : ∀ {ks g : List Nat}, g ∈ subsL ks → g.Sublist ks := by
  intro ks
  induction ks using rev_ind with
  | h0 =>
    intro g h
    rw [List.mem_singleton.mp h]
    exact List.Sublist.refl _
  | h1 ks k ih =>
    intro g h
    rw [subsL_snoc] at h
    rcases List.mem_append.mp h with z | z
    · exact (ih z).trans (List.sublist_append_left _ _)
    · obtain ⟨g', h1, rfl⟩ := List.mem_map.mp z
      exact (ih h1).append (List.Sublist.refl _)
theorem subsL_filter (p : Nat → Bool) : ∀ {ks g : List Nat}, g ∈ subsL ks → g.filter p ∈ subsL ks := by
  intro ks
  induction ks using rev_ind with
  | h0 =>
    intro g h
    rw [List.mem_singleton.mp h]
    exact List.mem_singleton.mpr rfl
  | h1 ks k ih =>
    intro g h
    rw [subsL_snoc] at h ⊢
    rcases List.mem_append.mp h with z | z
    · exact List.mem_append_left _ (ih z)
    · obtain ⟨g', h1, rfl⟩ := List.mem_map.mp z
      rw [List.filter_append]
      cases hk : p k with
      | true =>
        rw [List.filter_cons_of_pos hk]
        exact List.mem_append_right _ (List.mem_map.mpr ⟨_, ih h1, rfl⟩)
      | false =>
        rw [List.filter_cons_of_neg (by rw [hk]; decide), List.filter_nil, List.append_nil]
        exact List.mem_append_left _ (ih h1)
theorem subsL_self (ks : List Nat) : ks ∈ subsL ks := by
  induction ks using rev_ind with
  | h0 => exact List.mem_singleton.mpr rfl
  | h1 ks k ih =>
    rw [subsL_snoc]
    exact List.mem_append_right _ (List.mem_map.mpr ⟨ks, ih, rfl⟩)
theorem subsL_nil (ks : List Nat) : ∃ r, subsL ks = [] :: r ∧ ∀ g ∈ r, g ≠ [] := by
  induction ks using rev_ind with
  | h0 => exact ⟨[], rfl, fun g h => by cases h⟩
  | h1 ks k ih =>
    obtain ⟨r, e, h⟩ := ih
    refine ⟨r ++ (subsL ks).map (· ++ [k]), by rw [subsL_snoc]; rw [e] <;> rfl, fun g hg => ?_⟩
    rcases List.mem_append.mp hg with z | z
    · exact h g z
    · obtain ⟨g', _, rfl⟩ := List.mem_map.mp z
      intro z
      have := congrArg List.length z
      rw [List.length_append] at this
      simp at this
/-- groups in an order of their numbers: the empty one first, none of the others empty, the lesser ones of each ahead of it -/
theorem groups_sorted {ks : List Nat} {gs : List (List Nat)} (hp : gs.Perm (subsL ks)) (hs : gs.Pairwise fun g g' => g.length ≤ g'.length) :
    ∃ r, gs = [] :: r ∧ (∀ g ∈ r, g ≠ [] ∧ g.Sublist ks) ∧ ∀ (i : Nat) (g : List Nat), r[i]? = some g → ∀ k ∈ g, g.filter (· != k) ∈ [] :: r.take i := by
  obtain ⟨r0, e0, h0⟩ := subsL_nil ks
  cases gs with
  | nil =>
    rw [e0] at hp
    have := hp.length_eq
    cases this
  | cons g0 r =>
    rw [List.pairwise_cons] at hs
    have hm : [] ∈ g0 :: r := hp.mem_iff.mpr (by rw [e0]; exact List.mem_cons_self)
    have eg : g0 = [] := by
      rcases List.mem_cons.mp hm with z | z
      · exact z.symm
      · have := hs.1 [] z
        exact List.length_eq_zero_iff.mp (Nat.le_zero.mp this)
    subst eg
    have hr : r.Perm r0 := by
      rw [e0] at hp
      exact hp.cons_inv
    have hsub : ∀ g ∈ r, g ≠ [] ∧ g.Sublist ks := fun g hg => ⟨h0 g (hr.mem_iff.mp hg), subsL_sub (by rw [e0]; exact List.mem_cons_of_mem _ (hr.mem_iff.mp hg))⟩
    refine ⟨r, rfl, hsub, fun i g hi k hk => ?_⟩
    have hg : g ∈ r := List.mem_of_getElem? hi
    have hin : g.filter (· != k) ∈ [] :: r := hp.mem_iff.mpr (subsL_filter _ (by
      rw [e0]
      exact List.mem_cons_of_mem _ (hr.mem_iff.mp hg)))
    have hlt : (g.filter (· != k)).length < g.length := by
      have h1 := List.length_filter_le (· != k) g
      refine Nat.lt_of_le_of_ne h1 fun e => ?_
      have := List.filter_eq_self.mp (List.filter_sublist.eq_of_length e) k hk
      simp at this
    rcases List.mem_cons.mp hin with z | z
    · rw [z]; exact List.mem_cons_self
    · obtain ⟨j, hj⟩ := List.mem_iff_getElem?.mp z
      have hji : j < i := by
        refine Nat.lt_of_not_le fun hle => ?_
        have li : i < r.length := (List.getElem?_eq_some_iff.mp hi).1
        have lj : j < r.length := (List.getElem?_eq_some_iff.mp hj).1
        by_cases e : i = j
        · subst e
          rw [hi] at hj
          have := Option.some.inj hj
          rw [← this] at hlt
          exact Nat.lt_irrefl _ hlt
        · have hpw := List.pairwise_iff_getElem.mp hs.2 i j li lj (by omega)
          rw [(List.getElem?_eq_some_iff.mp hi).2, (List.getElem?_eq_some_iff.mp hj).2] at hpw
          omega
      refine List.mem_cons_of_mem _ (List.mem_of_getElem? (i := j) ?_)
      rw [List.getElem?_take_of_lt hji]
      exact hj
/-! ### all rows of some works -/
/-- rows of n unlike works of ks -/
def Part (ks : List Nat) (n : Nat) (r : List Nat) : Prop := r.length = n ∧ r.Nodup ∧ ∀ k ∈ r, k ∈ ks
theorem part_all {ks r : List Nat} (hn : ks.Nodup) : Part ks ks.length r ↔ r.Perm ks := by
  constructor
  · rintro ⟨h1, h2, h3⟩
    exact perm_of_len h2 h3 (by omega)
  · intro h
    exact ⟨h.length_eq, h.symm.nodup hn, fun k hk => h.mem_iff.mp hk⟩
theorem part_succ {ks r : List Nat} {n : Nat} : Part ks (n + 1) r ↔ ∃ r' k, r = r' ++ [k] ∧ Part ks n r' ∧ k ∈ ks ∧ k ∉ r' := by
  constructor
  · rintro ⟨h1, h2, h3⟩
    rcases List.eq_nil_or_concat r with z | ⟨r', k, z⟩
    · subst z
      cases h1
    · rw [List.concat_eq_append] at z
      subst z
      rw [List.length_append] at h1
      have h1 : r'.length + 1 = n + 1 := h1
      obtain ⟨a, b, c⟩ := List.nodup_append.mp h2
      exact ⟨r', k, rfl, ⟨by omega, a, fun j hj => h3 j (List.mem_append_left _ hj)⟩, h3 k (List.mem_append_right _ List.mem_cons_self), fun z => c k z k List.mem_cons_self rfl⟩
  · rintro ⟨r', k, rfl, ⟨h1, h2, h3⟩, h4, h5⟩
    refine ⟨by rw [List.length_append, h1] <;> rfl, List.nodup_append.mpr ⟨h2, List.nodup_cons.mpr ⟨by simp, List.nodup_nil⟩, fun a ha b hb => ?_⟩, fun j hj => ?_⟩
    · rw [List.mem_singleton.mp hb]
      exact fun e => h5 (e ▸ ha)
    · rcases List.mem_append.mp hj with z | z
      · exact h3 j z
      · rw [List.mem_singleton.mp z]; exact h4
end K73
set_option Elab.async false
set_option linter.all false
set_option maxRecDepth 100000
set_option maxHeartbeats 4000000
/-! Runs and their lateness; groups' helpers. -/
namespace K73
open PySem PySem.Spec PyProof.Rows L2
section
variable {P : Program} {w : World} {K : PySem.W.Frag} {mg : Str → Option Value} {base : Heap}
theorem fm_const : ∀ l : List Nat, l.filterMap (fun _ : Nat => some (V.bl false)) = (l.map fun _ => false).map V.bl
  | [] => rfl
  | j :: l => by rw [List.filterMap_cons, fm_const l] <;> rfl
theorem sc_works_there : FnScope (["lot", "work", "item"] : List Str) (["lot"] : List Str) (defScope s_works_there) := ⟨rfl, rfl, rfl, by decide +kernel, rfl, by decide +kernel, by decide +kernel⟩
def sp_works_there : Sp := fun vs H Q _ => ∃ (l : Addr) (lot : Lot), vs = [.ref l] ∧ H l = some (.tup (lotV lot)) ∧ lot.length ≤ 40 ∧ ∀ H' t, Same H H' → H' t = some (.tup (rowV (pres lot))) → Q (.ref t) H'
theorem ok_works_there (T : Tx K mg) : Ok P w K mg base 1 "works_there" (["lot"] : List Str) sp_works_there := by
  refine ok_of T.F_works_there sc_works_there (fun vs H Q E h => ?_) (fun _ _ _ _ _ _ us hl => match us, hl with | [_], _ => rfl) (fun cdv A outer s H vs Q E hr h => ?_)
  · obtain ⟨l, lot, rfl, _⟩ := h
    rfl
  · obtain ⟨l, lot, rfl, hx, hf, k⟩ := h
    refine ⟨_, (pss_one (ps_ret (pe_callTy call_tuple_of (by rfl) T.n_tuple (by decide +kernel) (pa_cons (pe_lc (own := [("work", 1), ("item", 2)]) rfl sc_works_there.nd (pi_enumT (by rfl) T.n_enumerate (pa_cons (pv 0) pa_nil)) (blkOk_by (own := [("work", 1), ("item", 2)]) (N := (["lot", "work", "item"] : List Str)) (sc := defScope s_works_there) (by decide +kernel)) (fun _ _ _ _ _ => (pg_tupK (K := K) (n := 2) rfl rfl (pgs_cons (pg_name (i := 1) sc_works_there.nd rfl (Or.inl rfl)) (pgs_cons (pg_name (i := 2) sc_works_there.nd rfl (Or.inl rfl)) pgs_nil)))) (fun _ _ _ _ _ => (pts_one (pt_cmpR op_notN (pv 2) pe_non (nomark _)))) (fun _ _ _ _ _ => (pv 1))) pa_nil)))), ?_⟩
    refine ⟨_, rfl, l, _, rfl, SqT.of hx, fun D hD => lci_enum (fun i => if isT lot i = true then some (.int (i : Int)) else none) hx hD (by rw [lotV_len]; omega) (fun i x hi H1 T1 sm hT => ?_) fun H1 sm hD1 => ?_⟩
    · obtain ⟨rfl, hlt⟩ := lotV_at hi
      refine turn2 hT rfl (fun H2 s2 Qb kb => ⟨_, rfl, rfl, isT lot i, nn_is lot i, kb _ (Same.refl _)⟩) fun hb H2 s2 Qy ky => ⟨_, rfl, ky _ (Same.refl _)⟩
    · rw [lotV_len, range_fm_if] at hD1
      refine ⟨D, _, rfl, .inl ⟨SqL.of hD1, fun t ht => k _ t (sm.trans (same_upd ht)) upd_same⟩⟩
theorem sc_check_run : FnScope (["book", "row", "lot", "work", "item"] : List Str) (["book", "row", "lot"] : List Str) (defScope s_check_run) := ⟨rfl, rfl, rfl, by decide +kernel, rfl, by decide +kernel, by decide +kernel⟩
def sp_check_run (K : PySem.W.Frag) : Sp := fun vs H Q _ => ∃ (b r l : Addr) (ws : List (Int × Int)) (row : List Nat) (lot : Lot), vs = [.ref b, .ref r, .ref l] ∧ BookAt (CB K) H b ws ∧ H r = some (.tup (rowV row)) ∧ RowOk ws.length row ∧ H l = some (.tup (lotV lot)) ∧ LotOk ws.length lot ∧ (∀ k ∈ pres lot, k ∈ row) ∧ ∀ H', Same H H' → Q .non H'
theorem ok_check_run (T : Tx K mg) : Ok P w K mg base 6 "check_run" (["book", "row", "lot"] : List Str) (sp_check_run K) := by
  obtain ⟨fd_check_lot, G_check_lot, kp_check_lot, b_check_lot⟩ := ok_check_lot (P := P) (w := w) (base := base) T
  obtain ⟨fd_check_row, G_check_row, kp_check_row, b_check_row⟩ := ok_check_row (P := P) (w := w) (base := base) T
  refine ok_of T.F_check_run sc_check_run (fun vs H Q E h => ?_) (fun _ _ _ _ _ _ us hl => match us, hl with | [_, _, _], _ => rfl) (fun cdv A outer s H vs Q E hr h => ?_)
  · obtain ⟨b, r, l, ws, row, lot, rfl, _⟩ := h
    rfl
  · obtain ⟨b, r, l, ws, row, lot, rfl, hb, hx, ro, hl, lo, hin, k⟩ := h
    have hfew := lo.few
    refine ⟨_, (pss_cons (ps_expr (pe_call G_check_row (hr.mono (by decide)) (by rfl) T.g_check_row kp_check_row b_check_row .nil pass0 (pa_cons (pv 0) (pa_cons (pv 1) pa_nil))))
      (pss_cons (ps_expr (pe_call G_check_lot (hr.mono (by decide)) (by rfl) T.g_check_lot kp_check_lot b_check_lot .nil pass0 (pa_cons (pv 0) (pa_cons (pv 2) pa_nil))))
      (pss_one (ps_if (pt_val (pe_callB (cr_any rfl) (by rfl) T.n_any (by decide +kernel) (pa_cons (pe_lc (own := [("work", 3), ("item", 4)]) rfl sc_check_run.nd (pi_enumT (by rfl) T.n_enumerate (pa_cons (pv 2) pa_nil)) (blkOk_by (own := [("work", 3), ("item", 4)]) (N := (["book", "row", "lot", "work", "item"] : List Str)) (sc := defScope s_check_run) (by decide +kernel)) (fun _ _ _ _ _ => (pg_tupK (K := K) (n := 2) rfl rfl (pgs_cons (pg_name (i := 3) sc_check_run.nd rfl (Or.inl rfl)) (pgs_cons (pg_name (i := 4) sc_check_run.nd rfl (Or.inl rfl)) pgs_nil)))) (fun _ _ _ _ _ => pts_nil) (fun _ _ _ _ _ => (pe_and (pe_cmpR op_notN (pv 4) pe_non (nomark _)) (pe_one (pe_cmpR (op_notIn_seqK (K := K) rfl) (pv 3) (pv 1) (by rfl)))))) pa_nil))) (pss_one ps_never) pss_nil)))), ?_⟩
    refine ⟨_, rfl, _, rfl, b, r, ws, row, rfl, hb, hx, ro, fun H1 sm1 => ?_⟩
    refine ⟨_, rfl, _, rfl, b, l, ws, lot, rfl, hb.kp (kp_same sm1), sm1 _ _ hl, lo, fun H2 sm2 => ?_⟩
    have sm := sm1.trans sm2
    refine ⟨_, rfl, l, _, rfl, SqT.of (sm _ _ hl), fun D hD => lci_enum (fun i => some (.bl false)) (sm _ _ hl) hD (by rw [lotV_len]; omega) (fun i x hi H3 T1 sm3 hT => ?_) fun H3 sm3 hD1 => ?_⟩
    · obtain ⟨rfl, hlt⟩ := lotV_at hi
      have e : (some (V.bl false) : Option V) = if true = true then some (V.bl false) else none := rfl
      rw [e]
      refine turn2 hT rfl (fun H4 s4 Qb kb => kb _ (Same.refl _)) fun hb H4 s4 Qy ky => ?_
      refine ⟨_, rfl, rfl, isT lot i, nn_is lot i, ?_⟩
      cases e : isT lot i with
      | true =>
        refine iteT ⟨_, rfl, _, rfl, r, _, rfl, .inr (SqT.of (s4 _ _ (sm3 _ _ (sm _ _ hx)))), rfl, flat_row _, ?_⟩
        have : Qy (.bl (!inV (.int (i : Int)) (rowV row))) H4 := by
          rw [inV_row, decide_eq_true (hin i (pres_mem.mpr e))]
          exact ky _ (Same.refl _)
        exact this
      | false => exact iteF (ky _ (Same.refl _))
    · have e : (List.range (lotV lot).length).filterMap (fun _ : Nat => some (V.bl false)) = ((List.range (lotV lot).length).map fun _ => false).map V.bl := by
        exact fm_const _
      rw [e] at hD1
      refine ⟨_, _, rfl, SqL.of hD1, false, ?_, iteF (k _ (sm.trans sm3))⟩
      have : ((List.range (lotV lot).length).map fun _ => false).any id = false := by simp
      rw [this]
theorem sc_ran : FnScope (["book", "row", "lot", "found", "clock", "work", "begin"] : List Str) (["book", "row", "lot"] : List Str) (defScope s_ran) := ⟨rfl, rfl, rfl, by decide +kernel, rfl, by decide +kernel, by decide +kernel⟩
def sp_ran (K : PySem.W.Frag) : Sp := fun vs H Q _ => ∃ (b r l : Addr) (ws : List (Int × Int)) (row : List Nat) (lot : Lot), vs = [.ref b, .ref r, .ref l] ∧ BookAt (CB K) H b ws ∧ H r = some (.tup (rowV row)) ∧ (∀ k ∈ row, k < ws.length) ∧ row.length ≤ 40 ∧ H l = some (.tup (lotV lot)) ∧ lot.length = ws.length ∧
  ∀ H' p ts, Same H H' → H' p = some (.lst ts) → Trips H' ts (runT (fiR ws) (lenO lot) (isT lot) 0 row) → Q (.ref p) H'
theorem ok_ran (T : Tx K mg) : Ok P w K mg base 2 "ran" (["book", "row", "lot"] : List Str) (sp_ran K) := by
  obtain ⟨fd_first_of, G_first_of, kp_first_of, b_first_of⟩ := ok_first_of (P := P) (w := w) (base := base) T
  refine ok_of T.F_ran sc_ran (fun vs H Q E h => ?_) (fun _ _ _ _ _ _ us hl => match us, hl with | [_, _, _], _ => rfl) (fun cdv A outer s H vs Q E hr h => ?_)
  · obtain ⟨b, r, l, ws, row, lot, rfl, _⟩ := h
    rfl
  · obtain ⟨b, r, l, ws, row, lot, rfl, hb, hx, hrw, hfew, hl, hll, k⟩ := h
    refine ⟨_, (pss_cons (ps_set (i := 3) sc_ran.nd rfl (Or.inl rfl) (pe_lst pa_nil))
      (pss_cons (ps_set (i := 4) sc_ran.nd rfl (Or.inl rfl) pe_int)
      (pss_cons (ps_for PassesOwn.never rfl (pi_tup (pv 1)) (pg_name (i := 5) sc_ran.nd rfl (Or.inl rfl)) (pss_one (ps_if (pt_cmpR op_notN (pe_ix (ix_tupK (K := K) rfl) (pv 2) (pv 5) (fun _ _ => rfl)) pe_non (nomark _)) (pss_cons (ps_set (i := 6) sc_ran.nd rfl (Or.inl rfl) (pe_callB (call_max2 rfl) (by rfl) T.n_max (by decide +kernel) (pa_cons (pv 4) (pa_cons (pe_call G_first_of (hr.mono (by decide)) (by rfl) T.g_first_of kp_first_of b_first_of .nil pass0 (pa_cons (pv 0) (pa_cons (pv 5) pa_nil))) pa_nil))))
      (pss_cons (ps_set (i := 4) sc_ran.nd rfl (Or.inl rfl) (pe_op op_add (pv 6) (pe_ix (ix_tupK (K := K) rfl) (pv 2) (pv 5) (fun _ _ => rfl))))
      (pss_one (ps_expr (pe_bmK (K := K) rfl PySem.F.plainAttrs_list PySem.F.slot_list_append PySem.F.type_list_append mt_append (pv 3) (pa_cons (pe_tup (pa_cons (pv 5) (pa_cons (pv 6) (pa_cons (pv 4) pa_nil)))) pa_nil)))))) pss_nil)))
      (pss_one (ps_ret (pv 3)))))), ?_⟩
    refine ⟨Nat.zero_le _, fun p hp => ?_⟩
    refine ⟨_, rfl, r, rfl, ⟨_, SqT.of ((same_upd hp) _ _ hx)⟩, ?_⟩
    refine for_tup (xs := rowV row) (fun i σ H1 => ∃ (wv bv : Option V) (ts : List V), σ = [some (.ref b), some (.ref r), some (.ref l), some (.ref p), some (.int (clk (fiR ws) (lenO lot) (isT lot) 0 (row.take i))), wv, bv] ∧ Same H H1 ∧ H1 p = some (.lst ts) ∧ ts.length ≤ i ∧ Trips H1 ts (runT (fiR ws) (lenO lot) (isT lot) 0 (row.take i))) ?_ ?_ ?_ ?_
    · exact ⟨_, _, [], rfl, same_upd hp, upd_same, Nat.le_refl _, Trips.nil⟩
    · rintro i σ H1 _ ⟨wv, bv, ts, rfl, sm, hp1, hn, ht⟩
      exact SqT.of (sm _ _ hx)
    · rintro i x σ H1 hi ⟨wv, bv, ts, rfl, sm, hp1, hn, ht⟩
      obtain ⟨j, hj, rfl⟩ := rowV_at hi
      have hjw := hrw j (List.mem_of_getElem? hj)
      have hjl : j < lot.length := by rw [hll]; exact hjw
      have hi2 := (List.getElem?_eq_some_iff.mp hj).1
      refine ⟨_, rfl, _, rfl, l, _, _, _, rfl, rfl, SqT.of (sm _ _ hl), atI_nat (lotV_get hjl), rfl, isT lot j, nn_is lot j, ?_⟩
      cases e : isT lot j with
      | true =>
        refine iteT ?_
        refine ⟨_, rfl, _, rfl, _, rfl, b, j, ws, rfl, hb.kp (kp_same sm), hjw, _, _, rfl, ?_⟩
        refine ⟨_, rfl, _, rfl, _, rfl, l, _, _, _, rfl, rfl, SqT.of (sm _ _ hl), atI_nat (lotV_get hjl), _, _, rfl, by rw [itm_some e] <;> rfl, ?_⟩
        refine ⟨_, rfl, .inl ⟨rfl, _, SqL.of hp1⟩, _, rfl, _, rfl, _, rfl, by show 3 ≤ sizeLine; decide, fun a ha => ?_⟩
        have ha2 : H1 a = none := ha
        have s2 : ∀ o, Same H1 (upd H1 a o) := fun o => same_upd ha2
        refine ⟨p, ts, _, rfl, rfl, s2 _ _ _ hp1, Nat.lt_of_le_of_lt (Nat.le_trans hn (Nat.le_of_lt (Nat.lt_of_lt_of_le hi2 hfew))) (by decide), ?_⟩
        have em : ∀ c : Int, (if fiR ws j > c then fiR ws j else c) = max c (fiR ws j) := fun c => by
          rw [Int.max_def]
          by_cases z : c ≤ fiR ws j
          · rw [if_pos z]
            by_cases y : fiR ws j > c
            · rw [if_pos y]
            · rw [if_neg y]; omega
          · rw [if_neg z, if_neg (by omega)]
        refine ⟨some (.int (j : Int)), some (.int (if fiR ws j > clk (fiR ws) (lenO lot) (isT lot) 0 (row.take i) then fiR ws j else clk (fiR ws) (lenO lot) (isT lot) 0 (row.take i))), ts ++ [.ref a], ?_, same_wr (sm.trans (s2 _)) hp, upd_same, ?_, ?_⟩
        · rw [take_succ hj, clk_snoc, if_pos e, ← em] <;> rfl
        · rw [List.length_append]
          exact Nat.succ_le_succ hn
        · rw [take_succ hj, runT_snoc, if_pos e]
          refine ((ht.kp (kp_same (s2 _))).snoc ?_).kp (kp_lst (s2 _ _ _ hp1))
          rw [upd_same, em]
      | false =>
        refine iteF ⟨some (.int (j : Int)), bv, ts, ?_, sm, hp1, Nat.le_succ_of_le hn, ?_⟩
        · rw [take_succ hj, clk_snoc, if_neg (by rw [e]; decide)] <;> rfl
        · rw [take_succ hj, runT_snoc, if_neg (by rw [e]; decide), List.append_nil]
          exact ht
    · rintro σ H1 ⟨wv, bv, ts, rfl, sm, hp1, hn, ht⟩
      rw [rowV_len, List.take_length] at ht
      exact ⟨_, rfl, k H1 p ts sm hp1 ht⟩
theorem sc_late_of : FnScope (["book", "row", "lot", "hours", "work", "begin", "end"] : List Str) (["book", "row", "lot"] : List Str) (defScope s_late_of) := ⟨rfl, rfl, rfl, by decide +kernel, rfl, by decide +kernel, by decide +kernel⟩
def sp_late_of (K : PySem.W.Frag) : Sp := fun vs H Q _ => ∃ (b r l : Addr) (ws : List (Int × Int)) (row : List Nat) (lot : Lot), vs = [.ref b, .ref r, .ref l] ∧ BookAt (CB K) H b ws ∧ H r = some (.tup (rowV row)) ∧ (∀ k ∈ row, k < ws.length) ∧ row.length ≤ 40 ∧ H l = some (.tup (lotV lot)) ∧ lot.length = ws.length ∧
  ∀ H', Same H H' → Q (oV (mx (lts (fiR ws) (laS ws) (lenO lot) (isT lot) 0 row))) H'
theorem ok_late_of (T : Tx K mg) : Ok P w K mg base 3 "late_of" (["book", "row", "lot"] : List Str) (sp_late_of K) := by
  obtain ⟨fd_ran, G_ran, kp_ran, b_ran⟩ := ok_ran (P := P) (w := w) (base := base) T
  obtain ⟨fd_last_of, G_last_of, kp_last_of, b_last_of⟩ := ok_last_of (P := P) (w := w) (base := base) T
  refine ok_of T.F_late_of sc_late_of (fun vs H Q E h => ?_) (fun _ _ _ _ _ _ us hl => match us, hl with | [_, _, _], _ => rfl) (fun cdv A outer s H vs Q E hr h => ?_)
  · obtain ⟨b, r, l, ws, row, lot, rfl, _⟩ := h
    rfl
  · obtain ⟨b, r, l, ws, row, lot, rfl, hb, hx, hrw, hfew, hl, hll, k⟩ := h
    refine ⟨_, (pss_cons (ps_setLc (i := 3) (own := [("work", 4), ("begin", 5), ("end", 6)]) rfl sc_late_of.nd rfl rfl (sw_true rfl rfl rfl (by decide +kernel))  (pi_list (pe_call G_ran (hr.mono (by decide)) (by rfl) T.g_ran kp_ran b_ran .nil pass0 (pa_cons (pv 0) (pa_cons (pv 1) (pa_cons (pv 2) pa_nil))))) (blkOk_by (own := [("work", 4), ("begin", 5), ("end", 6)]) (N := (["book", "row", "lot", "hours", "work", "begin", "end"] : List Str)) (sc := defScope s_late_of) (by decide +kernel)) (fun _ _ _ _ _ => (pg_tupK (K := K) (n := 3) rfl rfl (pgs_cons (pg_name (i := 4) sc_late_of.nd rfl (Or.inl rfl)) (pgs_cons (pg_name (i := 5) sc_late_of.nd rfl (Or.inl rfl)) (pgs_cons (pg_name (i := 6) sc_late_of.nd rfl (Or.inl rfl)) pgs_nil))))) (fun _ _ _ _ _ => pts_nil) (fun _ _ _ _ _ => (pe_op op_sub (pv 6) (pe_call G_last_of (hr.mono (by decide)) (by rfl) T.g_last_of kp_last_of b_last_of .nil pass0 (pa_cons (pv 0) (pa_cons (pv 4) pa_nil))))))
      (pss_one (ps_ret (pe_ifExp (pt_cmpR op_gt (pe_callB (call_len_seqK (K := K) rfl) (by rfl) T.n_len (by decide +kernel) (pa_cons (pv 3) pa_nil)) pe_int (nomark _)) (pe_callB (cr_max rfl) (by rfl) T.n_max (by decide +kernel) (pa_cons (pv 3) pa_nil)) pe_non)))), ?_⟩
    refine ⟨_, rfl, _, rfl, _, rfl, b, r, l, ws, row, lot, rfl, hb, hx, hrw, hfew, hl, hll, fun H1 p ts sm hp ht => ?_⟩
    have hlen := ht.1
    have h40 := runT_len (f := fiR ws) (d := lenO lot) (q := isT lot) row 0
    refine ⟨p, rfl, ⟨_, SqL.of hp⟩, fun D hD => lci_list (fun i => ((runT (fiR ws) (lenO lot) (isT lot) 0 row)[i]?).map fun t => V.int (t.2.2 - laS ws t.1)) (SqL.of hp) hD (by omega) (fun i x hi H2 sm2 => ?_) fun H2 sm2 hD1 => ?_⟩
    · have hlt := (List.getElem?_eq_some_iff.mp hi).1
      rw [hlen] at hlt
      have e := List.getElem?_eq_getElem hlt
      obtain ⟨a, e1, e2⟩ := ht.2 i _ e
      rw [hi] at e1
      obtain rfl := Option.some.inj e1
      rw [e]
      have hj := hrw _ (runT_mem row 0 _ (List.mem_of_getElem? e))
      refine turn3 (sm2 _ _ e2) rfl fun H3 sm3 Qy ky => ?_
      exact ⟨_, rfl, _, rfl, _, rfl, b, _, ws, rfl, hb.kp (kp_same ((sm.trans sm2).trans sm3)), hj, _, _, rfl, rfl, ky _ (Same.refl _)⟩
    · have e : (runT (fiR ws) (lenO lot) (isT lot) 0 row).map (fun t => V.int (t.2.2 - laS ws t.1)) = (lts (fiR ws) (laS ws) (lenO lot) (isT lot) 0 row).map V.int := by
        rw [← runT_lts, List.map_map]
        exact List.map_congr_left fun _ _ => rfl
      rw [hlen, fm_of_get, e] at hD1
      refine ⟨_, rfl, D, _, rfl, .inl (SqL.of hD1), _, _, rfl, rfl, _, rfl, if_b (fun hpos => ?_) fun hpos => ?_⟩
      · refine ⟨_, rfl, D, _, rfl, SqL.of hD1, ?_, fun m hm hle => ?_⟩
        · rw [List.length_map] at hpos
          omega
        · have := k H2 (sm.trans sm2)
          rw [mx_of hm hle] at this
          exact this
      · have : lts (fiR ws) (laS ws) (lenO lot) (isT lot) 0 row = [] := by
          rw [List.length_map] at hpos
          exact List.length_eq_zero_iff.mp (by omega)
        have k := k H2 (sm.trans sm2)
        rw [this] at k
        exact k
theorem sc_lateness : FnScope (["book", "row", "lot"] : List Str) (["book", "row", "lot"] : List Str) (defScope s_lateness) := ⟨rfl, rfl, rfl, by decide +kernel, rfl, by decide +kernel, by decide +kernel⟩
def sp_lateness (K : PySem.W.Frag) : Sp := fun vs H Q _ => ∃ (b r l : Addr) (ws : List (Int × Int)) (row : List Nat) (lot : Lot), vs = [.ref b, .ref r, .ref l] ∧ BookAt (CB K) H b ws ∧ H r = some (.tup (rowV row)) ∧ RowOk ws.length row ∧ H l = some (.tup (lotV lot)) ∧ LotOk ws.length lot ∧ (∀ k ∈ pres lot, k ∈ row) ∧
  ∀ H', Same H H' → Q (oV (mx (lts (fiR ws) (laS ws) (lenO lot) (isT lot) 0 row))) H'
theorem ok_lateness (T : Tx K mg) : Ok P w K mg base 7 "lateness" (["book", "row", "lot"] : List Str) (sp_lateness K) := by
  obtain ⟨fd_late_of, G_late_of, kp_late_of, b_late_of⟩ := ok_late_of (P := P) (w := w) (base := base) T
  obtain ⟨fd_check_run, G_check_run, kp_check_run, b_check_run⟩ := ok_check_run (P := P) (w := w) (base := base) T
  refine ok_of T.F_lateness sc_lateness (fun vs H Q E h => ?_) (fun _ _ _ _ _ _ us hl => match us, hl with | [_, _, _], _ => rfl) (fun cdv A outer s H vs Q E hr h => ?_)
  · obtain ⟨b, r, l, ws, row, lot, rfl, _⟩ := h
    rfl
  · obtain ⟨b, r, l, ws, row, lot, rfl, hb, hx, ro, hl, lo, hin, k⟩ := h
    refine ⟨_, (pss_cons (ps_expr (pe_call G_check_run (hr.mono (by decide)) (by rfl) T.g_check_run kp_check_run b_check_run .nil pass0 (pa_cons (pv 0) (pa_cons (pv 1) (pa_cons (pv 2) pa_nil)))))
      (pss_one (ps_ret (pe_call G_late_of (hr.mono (by decide)) (by rfl) T.g_late_of kp_late_of b_late_of .nil pass0 (pa_cons (pv 0) (pa_cons (pv 1) (pa_cons (pv 2) pa_nil))))))), ?_⟩
    refine ⟨_, rfl, _, rfl, _, rfl, b, r, l, ws, row, lot, rfl, hb, hx, ro, hl, lo, hin, fun H1 sm => ?_⟩
    exact ⟨_, rfl, _, rfl, _, rfl, b, r, l, ws, row, lot, rfl, hb.kp (kp_same sm), sm _ _ hx, ro.lt, ro.few, sm _ _ hl, lo.len, fun H2 sm2 => k H2 (sm.trans sm2)⟩
theorem sc_check_few : FnScope (["book", "lot"] : List Str) (["book", "lot"] : List Str) (defScope s_check_few) := ⟨rfl, rfl, rfl, by decide +kernel, rfl, by decide +kernel, by decide +kernel⟩
def sp_check_few (K : PySem.W.Frag) : Sp := fun vs H Q _ => ∃ (b l : Addr) (ws : List (Int × Int)) (lot : Lot), vs = [.ref b, .ref l] ∧ BookAt (CB K) H b ws ∧ H l = some (.tup (lotV lot)) ∧ LotOk ws.length lot ∧ (pres lot).length ≤ 10 ∧ ∀ H', Same H H' → Q .non H'
theorem ok_check_few (T : Tx K mg) : Ok P w K mg base 5 "check_few" (["book", "lot"] : List Str) (sp_check_few K) := by
  obtain ⟨fd_check_many, G_check_many, kp_check_many, b_check_many⟩ := ok_check_many (P := P) (w := w) (base := base) T
  obtain ⟨fd_works_there, G_works_there, kp_works_there, b_works_there⟩ := ok_works_there (P := P) (w := w) (base := base) T
  obtain ⟨fd_check_lot, G_check_lot, kp_check_lot, b_check_lot⟩ := ok_check_lot (P := P) (w := w) (base := base) T
  refine ok_of T.F_check_few sc_check_few (fun vs H Q E h => ?_) (fun _ _ _ _ _ _ us hl => match us, hl with | [_, _], _ => rfl) (fun cdv A outer s H vs Q E hr h => ?_)
  · obtain ⟨b, l, ws, lot, rfl, _⟩ := h
    rfl
  · obtain ⟨b, l, ws, lot, rfl, hb, hx, lo, h10, k⟩ := h
    refine ⟨_, (pss_cons (ps_expr (pe_call G_check_lot (hr.mono (by decide)) (by rfl) T.g_check_lot kp_check_lot b_check_lot .nil pass0 (pa_cons (pv 0) (pa_cons (pv 1) pa_nil))))
      (pss_one (ps_expr (pe_call G_check_many (hr.mono (by decide)) (by rfl) T.g_check_many kp_check_many b_check_many .nil pass0 (pa_cons (pe_callB (call_len_seqK (K := K) rfl) (by rfl) T.n_len (by decide +kernel) (pa_cons (pe_call G_works_there (hr.mono (by decide)) (by rfl) T.g_works_there kp_works_there b_works_there .nil pass0 (pa_cons (pv 1) pa_nil)) pa_nil)) (pa_cons (pe_globI (by rfl) T.i_there) pa_nil)))))), ?_⟩
    refine ⟨_, rfl, _, rfl, b, l, ws, lot, rfl, hb, hx, lo, fun H1 sm => ?_⟩
    refine ⟨_, rfl, l, lot, rfl, sm _ _ hx, lo.few, fun H2 t sm2 ht => ?_⟩
    exact ⟨t, _, rfl, .inr (SqT.of ht), _, _, rfl, by rw [rowV_len]; omega, k _ (sm.trans sm2)⟩
/-- the dict of those that are there -/
def lenD (lot : Lot) : List (Key × V) := (pres lot).map fun (k : Nat) => ((Sum.inl (k : Int) : Key), V.int (lenO lot k))
theorem sc_lengths_of : FnScope (["lot", "work", "item"] : List Str) (["lot"] : List Str) (defScope s_lengths_of) := ⟨rfl, rfl, rfl, by decide +kernel, rfl, by decide +kernel, by decide +kernel⟩
def sp_lengths_of : Sp := fun vs H Q _ => ∃ (l : Addr) (lot : Lot), vs = [.ref l] ∧ H l = some (.tup (lotV lot)) ∧ lot.length ≤ 40 ∧ ∀ H' d, Same H H' → H' d = some (.dK (lenD lot)) → Q (.ref d) H'
theorem ok_lengths_of (T : Tx K mg) : Ok P w K mg base 1 "lengths_of" (["lot"] : List Str) sp_lengths_of := by
  refine ok_of T.F_lengths_of sc_lengths_of (fun vs H Q E h => ?_) (fun _ _ _ _ _ _ us hl => match us, hl with | [_], _ => rfl) (fun cdv A outer s H vs Q E hr h => ?_)
  · obtain ⟨l, lot, rfl, _⟩ := h
    rfl
  · obtain ⟨l, lot, rfl, hx, hf, k⟩ := h
    refine ⟨_, (pss_one (ps_ret (pe_dc (own := [("work", 1), ("item", 2)]) rfl sc_lengths_of.nd (pi_enumT (by rfl) T.n_enumerate (pa_cons (pv 0) pa_nil)) (blkOk_by (own := [("work", 1), ("item", 2)]) (N := (["lot", "work", "item"] : List Str)) (sc := defScope s_lengths_of) (by decide +kernel)) (fun _ _ _ _ _ => (pg_tupK (K := K) (n := 2) rfl rfl (pgs_cons (pg_name (i := 1) sc_lengths_of.nd rfl (Or.inl rfl)) (pgs_cons (pg_name (i := 2) sc_lengths_of.nd rfl (Or.inl rfl)) pgs_nil)))) (fun _ _ _ _ _ => (pts_one (pt_cmpR op_notN (pv 2) pe_non (nomark _)))) (fun _ _ _ _ _ => (pv 1)) (fun _ _ _ _ _ => (pv 2))))), ?_⟩
    refine ⟨_, rfl, l, _, rfl, SqT.of hx, fun D hD => dci_enum (fun i => if isT lot i = true then some (.int (lenO lot i)) else none) hx hD (by rw [lotV_len]; omega)
      (fun σ H Q Q' h ⟨v, e, q⟩ => ⟨v, e, h _ _ q⟩) (fun σ H Q Q' h ⟨v, e, q⟩ => ⟨v, e, h _ _ q⟩) (fun σ H Q Q' h ⟨v, e, e2, k, e3, q⟩ => ⟨v, e, e2, k, e3, h _ _ q⟩)
      (fun x σ H Q Q' h ⟨a, b, c, d, e, f, g, i, j, k, l, m, q⟩ => ⟨a, b, c, d, e, f, g, i, j, k, l, m, h _ _ q⟩)
      (fun i x hi H1 T1 sm hT => ?_) fun H1 sm hD1 => ?_⟩
    · obtain ⟨rfl, hlt⟩ := lotV_at hi
      intro Qy Qn ky kn
      refine ⟨T1, _, rfl, SqT.of hT, rfl, _, _, rfl, _, _, rfl, rfl, rfl, _, rfl, rfl, isT lot i, nn_is lot i, ?_⟩
      cases e : isT lot i with
      | true =>
        rw [e] at ky
        exact iteT ⟨_, rfl, _, rfl, rfl, ky _ (Same.refl _) _ (by rw [itm_some e] <;> rfl)⟩
      | false =>
        rw [e] at kn
        exact iteF (kn _ (Same.refl _) rfl)
    · rw [lotV_len, dkf_if] at hD1
      exact k _ _ sm hD1
theorem less_fm (k : Nat) : ∀ G : List Nat, (rowV G).filterMap (fun v => match v with | .int j => if (!decide (j = (k : Int))) = true then some (V.int j) else none | _ => none) = rowV (G.filter (· != k))
  | [] => rfl
  | j :: G => by
    show (V.int (j : Int) :: rowV G).filterMap _ = _
    rw [List.filterMap_cons, less_fm k G]
    by_cases e : j = k
    · subst e
      rw [List.filter_cons_of_neg (by simp)]
      simp
    · rw [List.filter_cons_of_pos (by simp [e])]
      have e2 : ¬ (j : Int) = (k : Int) := by omega
      simp only [e2, decide_false, Bool.not_false, if_true] <;> rfl
theorem sc_less_one : FnScope (["group", "work", "other"] : List Str) (["group", "work"] : List Str) (defScope s_less_one) := ⟨rfl, rfl, rfl, by decide +kernel, rfl, by decide +kernel, by decide +kernel⟩
def sp_less_one : Sp := fun vs H Q _ => ∃ (g : Addr) (G : List Nat) (k : Nat), vs = [.ref g, .int (k : Int)] ∧ H g = some (.tup (rowV G)) ∧ G.length ≤ 40 ∧ ∀ H' t, Same H H' → H' t = some (.tup (rowV (G.filter (· != k)))) → Q (.ref t) H'
theorem ok_less_one (T : Tx K mg) : Ok P w K mg base 1 "less_one" (["group", "work"] : List Str) sp_less_one := by
  refine ok_of T.F_less_one sc_less_one (fun vs H Q E h => ?_) (fun _ _ _ _ _ _ us hl => match us, hl with | [_, _], _ => rfl) (fun cdv A outer s H vs Q E hr h => ?_)
  · obtain ⟨g, G, j, rfl, _⟩ := h
    rfl
  · obtain ⟨g, G, j, rfl, hx, hf, k⟩ := h
    refine ⟨_, (pss_one (ps_ret (pe_callTy call_tuple_of (by rfl) T.n_tuple (by decide +kernel) (pa_cons (pe_lc (own := [("other", 2)]) rfl sc_less_one.nd (pi_tup (pv 0)) (blkOk_by (own := [("other", 2)]) (N := (["group", "work", "other"] : List Str)) (sc := defScope s_less_one) (by decide +kernel)) (fun _ _ _ _ _ => (pg_name (i := 2) sc_less_one.nd rfl (Or.inl rfl))) (fun _ _ _ _ _ => (pts_one (pt_cmpR op_ne (pv 2) (pv 1) (nomark _)))) (fun _ _ _ _ _ => (pv 2))) pa_nil)))), ?_⟩
    refine ⟨_, rfl, g, rfl, ⟨_, SqT.of hx⟩, fun D hD => lcr_tup (fun v => match v with | .int i => if (!decide (i = (j : Int))) = true then some (V.int i) else none | _ => none) (SqT.of hx) hD (by rw [rowV_len]; omega) (fun y hy => ?_) fun H1 sm hD1 => ?_⟩
    · obtain ⟨i, hi, rfl⟩ := mem_rowV hy
      refine turnT (b := !decide ((i : Int) = (j : Int))) rfl (fun H1 sm Qb kb => ?_) fun hb H1 sm Qy ky => ⟨_, rfl, ky _ (Same.refl _)⟩
      have kb := kb H1 (Same.refl H1)
      rw [show decide ((i : Int) = (j : Int)) = decide (V.int (i : Int) = V.int (j : Int)) from by rw [dec_int] <;> rfl] at kb
      exact ⟨_, rfl, _, rfl, rfl, _, rfl, kb⟩
    · rw [less_fm] at hD1
      exact ⟨D, _, rfl, .inl ⟨SqL.of hD1, fun t ht => k _ t (sm.trans (same_upd ht)) upd_same⟩⟩
theorem sc_end_behind : FnScope (["book", "lengths", "end", "work", "late", "found"] : List Str) (["book", "lengths", "end", "work", "late"] : List Str) (defScope s_end_behind) := ⟨rfl, rfl, rfl, by decide +kernel, rfl, by decide +kernel, by decide +kernel⟩
def sp_end_behind (K : PySem.W.Frag) : Sp := fun vs H Q _ => ∃ (b d : Addr) (ws : List (Int × Int)) (lot : Lot) (o : Option Int) (k : Nat) (u : Int), vs = [.ref b, .ref d, oV o, .int (k : Int), .int u] ∧ BookAt (CB K) H b ws ∧ k < ws.length ∧ H d = some (.dK (lenD lot)) ∧ k ∈ pres lot ∧
  Q (oV (stepE (fiR ws) (laS ws) (lenO lot) u o k)) H
theorem lenD_at {lot : Lot} {k : Nat} (h : k ∈ pres lot) : valV (lenD lot) (Sum.inl (k : Int)) = some (.int (lenO lot k)) := by
  unfold lenD
  have : ∀ r : List Nat, k ∈ r → valV (r.map fun (k : Nat) => ((Sum.inl (k : Int) : Key), V.int (lenO lot k))) (Sum.inl (k : Int)) = some (.int (lenO lot k)) := fun r => by
    induction r with
    | nil => intro h; cases h
    | cons j r ih =>
      intro h
      rw [List.map_cons]
      by_cases e : j = k
      · subst e
        exact valV_pos rfl
      · rw [valV_neg (fun z => by
          have z : (Sum.inl (j : Int) : Key) = Sum.inl (k : Int) := z
          injection z with z
          omega)]
        exact ih ((List.mem_cons.mp h).resolve_left fun z => e z.symm)
  exact this _ h
theorem if_max (c x : Int) : (if x > c then x else c) = max c x := by
  rw [Int.max_def]
  by_cases z : c ≤ x
  · rw [if_pos z]
    by_cases y : x > c
    · rw [if_pos y]
    · rw [if_neg y]; omega
  · rw [if_neg z, if_neg (by omega)]
theorem ok_end_behind (T : Tx K mg) : Ok P w K mg base 2 "end_behind" (["book", "lengths", "end", "work", "late"] : List Str) (sp_end_behind K) := by
  obtain ⟨fd_last_of, G_last_of, kp_last_of, b_last_of⟩ := ok_last_of (P := P) (w := w) (base := base) T
  obtain ⟨fd_first_of, G_first_of, kp_first_of, b_first_of⟩ := ok_first_of (P := P) (w := w) (base := base) T
  refine ok_of T.F_end_behind sc_end_behind (fun vs H Q E h => ?_) (fun _ _ _ _ _ _ us hl => match us, hl with | [_, _, _, _, _], _ => rfl) (fun cdv A outer s H vs Q E hr h => ?_)
  · obtain ⟨b, d, ws, lot, o, j, u, rfl, _⟩ := h
    rfl
  · obtain ⟨b, d, ws, lot, o, j, u, rfl, hb, hj, hd, hp, k⟩ := h
    refine ⟨_, (pss_cons (ps_if (pt_cmpR op_isN (pv 2) pe_non (nomark _)) (pss_one (ps_ret pe_non)) pss_nil)
      (pss_cons (ps_set (i := 5) sc_end_behind.nd rfl (Or.inl rfl) (pe_op op_add (pe_callB (call_max2 rfl) (by rfl) T.n_max (by decide +kernel) (pa_cons (pv 2) (pa_cons (pe_call G_first_of (hr.mono (by decide)) (by rfl) T.g_first_of kp_first_of b_first_of .nil pass0 (pa_cons (pv 0) (pa_cons (pv 3) pa_nil))) pa_nil))) (pe_dget (hu_of hr) (pv 1) (pv 3) (fun _ _ => rfl))))
      (pss_one (ps_ret (pe_ifExp (pt_cmpR op_le (pv 5) (pe_op op_add (pe_call G_last_of (hr.mono (by decide)) (by rfl) T.g_last_of kp_last_of b_last_of .nil pass0 (pa_cons (pv 0) (pa_cons (pv 3) pa_nil))) (pv 4)) (nomark _)) (pv 5) pe_non))))), ?_⟩
    cases o with
    | none => exact ⟨_, rfl, rfl, true, rfl, iteT k⟩
    | some c =>
      have hg : DGet H d (.int (j : Int)) (some (.int (lenO lot j))) := by
        rw [← lenD_at hp]
        exact DGet.k (k := Sum.inl (j : Int)) hd
      refine ⟨_, rfl, rfl, false, rfl, iteF ?_⟩
      refine ⟨_, rfl, _, rfl, _, rfl, b, j, ws, rfl, hb, hj, _, _, rfl, _, rfl, _, rfl, d, _, rfl, hg, _, _, rfl, rfl, ?_⟩
      refine ⟨_, rfl, _, rfl, _, rfl, b, j, ws, rfl, hb, hj, _, rfl, _, _, rfl, rfl, _, _, rfl, rfl, _, rfl, ?_⟩
      have k : Q (oV (if max c (fiR ws j) + lenO lot j ≤ laS ws j + u then some (max c (fiR ws j) + lenO lot j) else none)) H := k
      rw [if_max]
      refine if_b (fun h => ?_) fun h => ?_
      · rw [if_pos h] at k
        exact ⟨_, rfl, k⟩
      · rw [if_neg h] at k
        exact k
end
end K73
set_option Elab.async false
set_option linter.all false
set_option maxRecDepth 100000
set_option maxHeartbeats 4000000
/-! Groups, sorted. -/
namespace K73
open PySem PySem.Spec PyProof.Rows L2
/-! ### tables of the defs that make lambdas -/
def q1 : Str := (("groups_of" : Str) ++ ".<locals>.") ++ "<lambda>"
def q2 : Str := (("widest_of" : Str) ++ ".<locals>.") ++ "<lambda>"
def c1 (K : PySem.W.Frag) : Addr := (He.cT K ("groups_of", none)).1
def p1 (K : PySem.W.Frag) : Addr := (He.cT K ("groups_of", none)).2
def c2 (K : PySem.W.Frag) : Addr := (He.cT K ("widest_of", none)).1
def p2 (K : PySem.W.Frag) : Addr := (He.cT K ("widest_of", none)).2
def Tb (K : PySem.W.Frag) : List (Addr × Str) := [(p1 K, q1), (p2 K, q2)]
structure TabsOk (K : PySem.W.Frag) (mg : Str → Option Value) (base : Heap) : Prop where
  t1 : LamX.TabB base mg (c1 K) (p1 K)
  t2 : LamX.TabB base mg (c2 K) (p2 K)
  ne : p1 K ≠ p2 K
theorem hm1 (K : PySem.W.Frag) : (p1 K, q1) ∈ Tb K := List.mem_cons_self
theorem hm2 (K : PySem.W.Frag) : (p2 K, q2) ∈ Tb K := List.mem_cons_of_mem _ List.mem_cons_self
theorem TabsOk.u1 {K : PySem.W.Frag} {mg : Str → Option Value} {base : Heap} (O : TabsOk K mg base) : ∀ p ∈ Tb K, p.1 = p1 K → p.2 = q1 := fun p hp e => by
  rcases List.mem_cons.mp hp with z | z
  · rw [z]
  · rw [List.mem_singleton.mp z] at e
    exact (O.ne e.symm).elim
theorem TabsOk.u2 {K : PySem.W.Frag} {mg : Str → Option Value} {base : Heap} (O : TabsOk K mg base) : ∀ p ∈ Tb K, p.1 = p2 K → p.2 = q2 := fun p hp e => by
  rcases List.mem_cons.mp hp with z | z
  · rw [z] at e
    exact (O.ne e).elim
  · rw [List.mem_singleton.mp z]
def freeB (sc d : Scope) : Bool := sc.names.all fun y => !decide (y.2 = .free) || (decide (d.names.lookup y.1 = some .cell) || decide (d.names.lookup y.1 = some .free))
theorem free_by {sc d : Scope} (h : freeB sc d = true) : ∀ y ∈ sc.names, y.2 = .free → d.names.lookup y.1 = some .cell ∨ d.names.lookup y.1 = some .free := fun y hy e => by
  have z := List.all_eq_true.mp h y hy
  rw [decide_eq_true e, Bool.not_true, Bool.false_or, Bool.or_eq_true, decide_eq_true_eq, decide_eq_true_eq] at z
  exact z
theorem kp_extN {H H' : Hp} (s : LamX.ExtN H H') : Kp H H' := fun b o h i => s b o h fun ps e => by
  subst e
  exact i
theorem extN_same {H H' : Hp} (s : Same H H') : LamX.ExtN H H' := LamX.ExtN.of s
theorem tabs_same {T : List (Addr × Str)} {H H' : Hp} (t : LamX.Tabs T H) (s : Same H H') : LamX.Tabs T H' := t.ext s
section
variable {P : Program} {w : World} {K : PySem.W.Frag} {mg : Str → Option Value} {base : Heap}
/-- the rule for a def that makes lambdas -/
theorem ok_ofL {x : Str} {st : Stmt} {N ps : List Str} {k : Nat} {sp : Sp} (F : ∃ fd, FnP K x st (He.ga K x) fd) (S : FnScope N ps (defScope st)) (len : ∀ vs H Q E, sp vs H Q E → vs.length = ps.length)
    (hb : ∀ (kV doc pm : Value) (an : Option Addr) (cdv ct : Value) (us : List Value), us.length = ps.length → bindArgs (PySem.W.fnOf x x (defArgs st) (defBody st) (defScope st) .none kV doc pm an cdv ct) ⟨us, []⟩ = pure (ps.zip us))
    (hbody : ∀ (A : Around) (outer : List Env) (s : Shared) (H : Hp) (vs : List V) (Q : VK) (E : XK), Room k (A.deeper (envOfC x (defScope st) s.heap.objs.size (He.ga K x) (.ref (He.cT K (x, none)).1))) → sp vs H Q E →
      ∃ t, PSs (cxOf CX0 P w K mg base N x (defScope st) (He.ga K x) (.ref (He.cT K (x, none)).1) A outer s H E).nox (defBody st) t ∧ t { nx := fun _ H' => Q .non H', rt := Q } (start N vs) H) : Ok P w K mg base (k + 1) x ps sp := by
  obtain ⟨fd, F⟩ := F
  refine ⟨fd, ?_, F.kp, F.bindsN hb⟩
  obtain ⟨oc, od, dV, kV, doc, pm, an, cdv, ct, osl, rfl, lk, hcd, _, _⟩ := F.ex
  obtain ⟨c, rfl⟩ := He.codeIn_ref hcd
  have ec : (He.cT K (x, none)).1 = c := He.codeOf_eq (p := (x, none)) lk rfl
  rw [ec] at hbody
  refine fn_of lk hcd S len fun A outer s H vs Q E hr h => ?_
  obtain ⟨t, h1, h2⟩ := hbody A outer s H vs Q E hr h
  exact ⟨t, h1.nox, h2⟩
end
/-! ### groups in the heap -/
def toN : V → Nat
  | .int i => i.toNat
  | _ => 0
def grp (H : Hp) (y : V) : List Nat := match y with
  | .ref a => (match H a with
    | some (.tup xs) => xs.map toN
    | _ => [])
  | _ => []
def GOk (H : Hp) (y : V) : Prop := ∃ a g, y = .ref a ∧ H a = some (.tup (rowV g))
theorem toN_row (g : List Nat) : (rowV g).map toN = g := by
  unfold rowV
  rw [List.map_map]
  induction g with
  | nil => rfl
  | cons k g ih => rw [List.map_cons, ih] <;> rfl
theorem grp_of {H : Hp} {a : Addr} {g : List Nat} (h : H a = some (.tup (rowV g))) : grp H (.ref a) = g := by
  show (match H a with
    | some (.tup xs) => xs.map toN
    | _ => []) = g
  rw [h]
  exact toN_row g
theorem GOk.at {H : Hp} {y : V} (h : GOk H y) : ∃ a, y = .ref a ∧ H a = some (.tup (rowV (grp H y))) := by
  obtain ⟨a, g, rfl, e⟩ := h
  exact ⟨a, rfl, by rw [grp_of e]; exact e⟩
theorem GOk.kp {H H' : Hp} {y : V} (h : GOk H y) (s : Kp H H') : GOk H' y ∧ grp H' y = grp H y := by
  obtain ⟨a, g, rfl, e⟩ := h
  exact ⟨⟨a, g, rfl, s.tup e⟩, by rw [grp_of e, grp_of (s.tup e)]⟩
theorem grp_kp {H H' : Hp} (s : Kp H H') {ys : List V} (h : ∀ y ∈ ys, GOk H y) : (∀ y ∈ ys, GOk H' y) ∧ ys.map (grp H') = ys.map (grp H) :=
  ⟨fun y hy => ((h y hy).kp s).1, List.map_congr_left fun y hy => ((h y hy).kp s).2⟩
/-! ### the order of groups by their numbers first -/
open PySem.W in
def kdG (H : Hp) (y : V) : PyData := .tuple [.int ((grp H y).length : Int), .tuple ((grp H y).map fun (k : Nat) => PyData.int (k : Int))]
theorem ints_map (g : List Nat) : (g.map fun (k : Nat) => PyData.int (k : Int)) = (g.map fun (k : Nat) => (k : Int)).map PyData.int := by rw [List.map_map] <;> rfl
open PySem.W in
theorem alike_g (g h : List Nat) : alike (.tuple (g.map fun (k : Nat) => PyData.int (k : Int))) (.tuple (h.map fun (k : Nat) => PyData.int (k : Int))) = true := by
  rw [ints_map, ints_map, alike]
  exact alike_ints _ _
open PySem.W in
theorem kdG_alike (H : Hp) (y y' : V) : alike (kdG H y) (kdG H y') = true := by
  unfold kdG
  rw [alike, alikeAll, alikeAll, alike_g, alikeAll]
  rfl
open PySem.W in
theorem kdG_depth (H : Hp) (y : V) : (kdG H y).depth ≤ 10 := by
  unfold kdG
  rw [ints_map]
  simp only [PyData.depth, PyData.depthAll, depth_ints]
  omega
open PySem.W in
theorem kdG_le (H : Hp) {y y' : V} (h : dataLe false (kdG H) y y' = true) : (grp H y).length ≤ (grp H y').length := by
  rw [dataLe_eq] at h
  have h : (!dataLt (kdG H y') (kdG H y)) = true := h
  unfold kdG at h
  rw [dataLt_pair (by rfl) (alike_g _ _)] at h
  refine Nat.le_of_not_lt fun z => ?_
  have e1 : PyData.eqv (.int ((grp H y').length : Int)) (.int ((grp H y).length : Int)) = false := by
    simp only [PyData.eqv]
    exact decide_eq_false (by omega)
  rw [e1] at h
  rw [if_neg (by decide), dataLt_int, decide_eq_true (by omega)] at h
  cases h
section
variable {P : Program} {w : World} {K : PySem.W.Frag} {mg : Str → Option Value} {base : Heap}
theorem dpa_row {H : Hp} : ∀ g : List Nat, DpAll K H (rowV g) (g.map fun (k : Nat) => PyData.int (k : Int))
  | [] => .nil
  | k :: g => .cons (.int _) (dpa_row g)
theorem sc_groups_of : FnScope (["works", "found", "work", "group"] : List Str) (["works"] : List Str) (defScope s_groups_of) := ⟨rfl, rfl, rfl, by decide +kernel, rfl, by decide +kernel, by decide +kernel⟩
def sp_groups_of (K : PySem.W.Frag) : Sp := fun vs H Q _ => ∃ (p : Addr) (ks : List Nat), vs = [.ref p] ∧ H p = some (.lst (rowV ks)) ∧ ks.length ≤ 10 ∧ LamX.Tabs (Tb K) H ∧
  ∀ H' q ys, LamX.ExtN H H' → LamX.Tabs (Tb K) H' → H' q = some (.lst ys) → (∀ y ∈ ys, GOk H' y) → (ys.map (grp H')).Perm (subsL ks) → (ys.map (grp H')).Pairwise (fun g g' => g.length ≤ g'.length) → Q (.ref q) H'
theorem ok_groups_of (T : Tx K mg) (O : TabsOk K mg base) : Ok P w K mg base 4 "groups_of" (["works"] : List Str) (sp_groups_of K) := by
  refine ok_ofL T.F_groups_of sc_groups_of (fun vs H Q E h => ?_) (fun _ _ _ _ _ _ us hl => match us, hl with | [_], _ => rfl) (fun A outer s H vs Q E hr h => ?_)
  · obtain ⟨p, ks, rfl, _⟩ := h
    rfl
  · obtain ⟨p, ks, rfl, hx, hf, hT, k⟩ := h
    refine ⟨_, (pss_cons (ps_set (i := 1) sc_groups_of.nd rfl (Or.inl rfl) (pe_lst (pa_cons (pe_tup pa_nil) pa_nil)))
      (pss_cons (ps_for PassesOwn.never rfl (pi_list (pv 0)) (pg_name (i := 2) sc_groups_of.nd rfl (Or.inr rfl)) (pss_one (ps_set (i := 1) sc_groups_of.nd rfl (Or.inl rfl) (pe_op op_cat (pv 1) (pe_lc (own := [("group", 3)]) rfl sc_groups_of.nd (pi_list (pv 1)) (blkOk_by (own := [("group", 3)]) (N := (["works", "found", "work", "group"] : List Str)) (sc := defScope s_groups_of) (by decide +kernel)) (fun _ _ _ _ _ => (pg_name (i := 3) sc_groups_of.nd rfl (Or.inl rfl))) (fun _ _ _ _ _ => pts_nil) (fun _ _ _ _ _ => (pe_op (op_catAK (K := K) rfl) (pv 3) (pe_tup (pa_cons (pv 2) pa_nil)))))))))
      (pss_one (ps_ret (pe_sortKey (T := Tb K) (N := (["group"] : List Str)) (fr := ([] : List Str)) (js := []) (k := 0) (x := "group") (c := c1 K) (P := p1 K) (by rfl) T.n_sorted (pv 1) O.t1 rfl (hm1 K) O.u1 (hr.mono (by decide)) (NdefX.nscope_by (by decide +kernel)) (free_by (d := defScope s_groups_of) (by decide +kernel)) (by decide +kernel) rfl rfl (fun _ _ _ _ _ _ => rfl) (fun _ _ _ _ _ _ hr2 => (pe_tup (pa_cons (pe_callB (call_len_seqK (K := K) rfl) (by rfl) T.n_len (by decide +kernel) (pa_cons (pv 0) pa_nil)) (pa_cons (pv 0) pa_nil))))))))), ?_⟩
    refine ⟨Nat.zero_le _, fun e he => ⟨by show 1 ≤ sizeLine; decide, fun q hq => ?_⟩⟩
    have s0 : Same H (upd (upd H e (.tup [])) q (.lst [.ref e])) := (same_upd he).trans (same_upd hq)
    refine ⟨_, rfl, p, rfl, ⟨_, SqL.of (s0 _ _ hx)⟩, for_list (xs := rowV ks) (fun i σ H1 => ∃ (f : Addr) (wv : Option V) (ys : List V), σ = [some (.ref p), some (.ref f), wv, none] ∧ Same H H1 ∧ H1 f = some (.lst ys) ∧ (∀ y ∈ ys, GOk H1 y) ∧ ys.map (grp H1) = subsL (ks.take i)) ?_ ?_ ?_ ?_⟩
    · have e1 : upd (upd H e (.tup [])) q (.lst [.ref e]) e = some (.tup (rowV [])) := by
        rw [upd_ne (ne_of_none (o := .tup []) upd_same hq)]
        exact upd_same
      refine ⟨q, _, [.ref e], rfl, s0, upd_same, fun y hy => ?_, ?_⟩
      · rw [List.mem_singleton.mp hy]
        exact ⟨e, [], rfl, e1⟩
      · show [grp _ (.ref e)] = [[]]
        rw [grp_of e1]
    · rintro i σ H1 _ ⟨f, wv, ys, rfl, sm, hf1, hg, hm⟩
      exact SqL.of (sm _ _ hx)
    · rintro i x σ H1 hi ⟨f, wv, ys, rfl, sm, hf1, hg, hm⟩
      obtain ⟨j, hj, rfl⟩ := rowV_at hi
      have hys : ys.length ≤ 1024 := by
        have e := congrArg List.length hm
        rw [List.length_map, subsL_len] at e
        rw [e]
        have h1 : (ks.take i).length ≤ 10 := by rw [List.length_take]; omega
        exact Nat.pow_le_pow_right (n := 2) (by decide) h1
      refine ⟨_, rfl, _, rfl, f, rfl, ⟨_, SqL.of hf1⟩, fun D hD => ?_⟩
      refine lc_list (K := K) (xs := ys) (Pv := fun n H2 => Same H1 H2 ∧ ∃ zs, H2 D = some (.lst zs) ∧ zs.length = n ∧ (∀ z ∈ zs, GOk H2 z) ∧ zs.map (grp H2) = ((ys.take n).map (grp H1)).map (· ++ [j])) ?_ ?_ ?_ ?_
      · exact ⟨same_upd hD, [], upd_same, rfl, fun z hz => (by cases hz), rfl⟩
      · rintro n H2 _ ⟨s2, _⟩
        exact SqL.of (s2 _ _ hf1)
      · rintro n y H2 hn ⟨s2, zs, hz, hzl, hzg, hzm⟩
        have hnl := (List.getElem?_eq_some_iff.mp hn).1
        obtain ⟨a, rfl, ha1⟩ := (hg y (List.mem_of_getElem? hn)).at
        have ha2 := s2 _ _ ha1
        refine ⟨rfl, ?_⟩
        have fin : ∀ H4 t, Same H2 H4 → H4 t = some (.tup (rowV (grp H1 (.ref a) ++ [j]))) → ∃ acc, H4 D = some (.lst acc) ∧ acc.length < sizeLine ∧ (Same H1 (upd H4 D (.lst (acc ++ [.ref t]))) ∧ ∃ zs, upd H4 D (.lst (acc ++ [.ref t])) D = some (.lst zs) ∧ zs.length = n + 1 ∧ (∀ z ∈ zs, GOk (upd H4 D (.lst (acc ++ [.ref t]))) z) ∧ zs.map (grp (upd H4 D (.lst (acc ++ [.ref t])))) = ((ys.take (n + 1)).map (grp H1)).map (· ++ [j])) := fun H4 t s4 ht => by
          have hD4 := s4 _ _ hz
          have kp4 : Kp H2 (upd H4 D (.lst (zs ++ [.ref t]))) := (kp_same s4).trans (kp_lst hD4)
          have ht4 : upd H4 D (.lst (zs ++ [.ref t])) t = some (.tup (rowV (grp H1 (.ref a) ++ [j]))) := (kp_lst hD4) _ _ ht trivial
          obtain ⟨g1, g2⟩ := grp_kp kp4 hzg
          refine ⟨zs, hD4, Nat.lt_of_le_of_lt (by omega : zs.length ≤ 1024) (by decide), same_wr (s2.trans s4) hD, zs ++ [.ref t], upd_same, by rw [List.length_append, hzl] <;> rfl, fun z hz' => ?_, ?_⟩
          · rcases List.mem_append.mp hz' with z' | z'
            · exact g1 z z'
            · rw [List.mem_singleton.mp z']
              exact ⟨t, _, rfl, ht4⟩
          · rw [List.map_append, g2, hzm, take_succ hn, List.map_append, List.map_append]
            show _ ++ [grp _ (.ref t)] = _
            rw [grp_of ht4] <;> rfl
        refine ⟨_, rfl, _, rfl, by show 1 ≤ sizeLine; decide, fun t ht => ?_⟩
        have st : Same H2 (upd H2 t (.tup [.int (j : Int)])) := same_upd ht
        refine ⟨a, t, _, _, rfl, rfl, SqT.of (st _ _ ha2), SqT.of upd_same, ?_, fun z => ?_, (fun _ z => nomatch z), fun _ _ u hu => ?_⟩
        · have hin : grp H1 (.ref a) ∈ subsL (ks.take i) := hm ▸ List.mem_map.mpr ⟨_, List.mem_of_getElem? hn, rfl⟩
          have h1 := (subsL_sub hin).length_le
          have h2 : (ks.take i).length ≤ 10 := by rw [List.length_take]; omega
          rw [rowV_len]
          exact Nat.le_trans (by
            show (grp H1 (.ref a)).length + 1 ≤ 11
            omega) (by decide)
        · have e0 : grp H1 (.ref a) = [] := List.length_eq_zero_iff.mp (by rw [← rowV_len, z] <;> rfl)
          exact fin _ t st (by rw [e0]; exact upd_same)
        · exact fin _ u (st.trans (same_upd hu)) (by rw [upd_same]; unfold rowV; rw [List.map_append] <;> rfl)
      · rintro H2 ⟨s2, zs, hz, hzl, hzg, hzm⟩
        rw [List.take_length] at hzm
        have hf2 := s2 _ _ hf1
        refine ⟨f, D, ys, zs, rfl, rfl, hf2, hz, ?_, fun r hr' => ?_⟩
        · exact Nat.le_trans (by omega : ys.length + zs.length ≤ 2048) (by decide)
        · obtain ⟨g1, g2⟩ := grp_kp ((kp_same s2).trans (kp_same (same_upd hr'))) hg
          obtain ⟨g3, g4⟩ := grp_kp (kp_same (same_upd hr')) hzg
          refine ⟨r, _, ys ++ zs, rfl, (sm.trans s2).trans (same_upd hr'), upd_same, fun y hy => ?_, ?_⟩
          · rcases List.mem_append.mp hy with z | z
            · exact g1 y z
            · exact g3 y z
          · rw [List.map_append, g2, g4, hzm, hm, take_succ hj, subsL_snoc]
    · rintro σ H1 ⟨f, wv, ys, rfl, sm, hf1, hg, hm⟩
      rw [rowV_len, List.take_length] at hm
      refine ⟨_, rfl, tabs_same hT sm, f, ys, kdG H1, rfl, .inl (SqL.of hf1), ⟨fun y _ y' _ => kdG_alike H1 y y', .inl fun y _ => ⟨_, _, rfl⟩, fun y _ => kdG_depth H1 y⟩, fun y hy H2 eN => ?_, fun H2 r eN hT2 hr2 => ?_⟩
      · obtain ⟨a, rfl, ha⟩ := (hg y hy).at
        have ha2 := eN _ _ ha fun ps z => nomatch z
        refine ⟨_, rfl, a, _, rfl, .inr (SqT.of ha2), _, rfl, by show 2 ≤ sizeLine; decide, fun t ht => ?_⟩
        have st := same_upd (o := .tup [.int ((rowV (grp H1 (.ref a))).length : Int), .ref a]) ht
        refine ⟨st, .tup (SqT.of upd_same) (.cons ?_ (.cons (.tup (SqT.of (st _ _ ha2)) (dpa_row _)) .nil))⟩
        rw [rowV_len]
        exact .int _
      · have hperm := List.mergeSort_perm ys (PySem.W.dataLe false (kdG H1))
        obtain ⟨g1, g2⟩ := grp_kp (kp_extN eN) (ys := ys.mergeSort (PySem.W.dataLe false (kdG H1))) fun y hy => hg y (hperm.mem_iff.mp hy)
        refine k H2 r _ ((extN_same sm).trans eN) hT2 hr2 g1 ?_ ?_
        · rw [g2, ← hm]
          exact hperm.map _
        · rw [g2, List.pairwise_map]
          exact (PySem.W.sort_pairwise (PySem.W.sortLe_total _ _ _) ys).imp fun h => kdG_le H1 h
end
end K73
set_option Elab.async false
set_option linter.all false
set_option maxRecDepth 100000
set_option maxHeartbeats 4000000
/-! Least ends of groups. -/
namespace K73
open PySem PySem.Spec PyProof.Rows L2
def keyG (g : List Nat) : List Key := g.map fun (k : Nat) => (Sum.inl (k : Int) : Key)
theorem keyG_v (g : List Nat) : (keyG g).map kV = rowV g := by
  unfold keyG rowV
  rw [List.map_map] <;> rfl
theorem keyG_inj {g h : List Nat} (e : keyG g = keyG h) : g = h := by
  have e2 : rowV g = rowV h := by rw [← keyG_v, ← keyG_v, e]
  have e3 := congrArg (List.map toN) e2
  rwa [toN_row, toN_row] at e3
theorem pres_sorted (lot : Lot) : (pres lot).Pairwise (· < ·) := List.Pairwise.sublist List.filter_sublist List.pairwise_lt_range
theorem ints_sorted {ks : List Nat} (h : ks.Pairwise (· < ·)) : (ks.map fun (k : Nat) => (k : Int)).Pairwise (· ≤ ·) := by
  rw [List.pairwise_map]
  exact h.imp fun h => by omega
/-- sorted(d) of the lengths -/
theorem sorted_lens {lot : Lot} {ys : List Int} (hp : ys.Perm ((pres lot).map fun (k : Nat) => (k : Int))) (hs : ys.Pairwise (· ≤ ·)) : ys.map V.int = rowV (pres lot) := by
  rw [List.Perm.eq_of_pairwise (fun x y _ _ h1 h2 => Int.le_antisymm h1 h2) hs (ints_sorted (pres_sorted lot)) hp, rowV_int]
theorem lenD_keys (lot : Lot) : (lenD lot).map (·.1) = ((pres lot).map fun (k : Nat) => (k : Int)).map Sum.inl := by
  unfold lenD
  rw [List.map_map, List.map_map] <;> rfl
theorem cut1 (xs : List V) : cutV xs (some 1) none = xs.drop 1 := by
  unfold cutV
  cases xs with
  | nil => rfl
  | cons x xs =>
    have e1 : HT.sIx (x :: xs).length 0 (some 1) = 1 := by
      simp [HT.sIx]
    have e2 : HT.sIx (x :: xs).length (x :: xs).length none = (x :: xs).length := by
      simp [HT.sIx]
    rw [e1, e2]
    show xs.take ((xs.length + 1) - 1) = xs
    exact List.take_length
/-! ### all but one object stay -/
def But (f : Addr) (H H' : Hp) : Prop := ∀ b o, b ≠ f → H b = some o → H' b = some o
theorem But.refl {f : Addr} {H : Hp} : But f H H := fun _ _ _ h => h
theorem But.same {f : Addr} {H H1 H2 : Hp} (a : But f H H1) (b : Same H1 H2) : But f H H2 := fun c o n h => b _ _ (a c o n h)
theorem But.upd {f : Addr} {H H1 : Hp} {o : HO} (a : But f H H1) : But f H (upd H1 f o) := fun c u n h => by
  rw [upd_ne n]
  exact a c u n h
theorem But.kp {f : Addr} {H H' : Hp} {kvs : List (List Key × V)} (h : But f H H') (e : H f = some (.dT kvs)) : Kp H H' := fun b o hb i => h b o (fun z => by
  subst z
  rw [e] at hb
  cases hb
  exact i) hb
theorem But.tabs {f : Addr} {H H' : Hp} {kvs : List (List Key × V)} {T : List (Addr × Str)} (h : But f H H') (e : H f = some (.dT kvs)) (t : LamX.Tabs T H) : LamX.Tabs T H' := fun p hp => by
  obtain ⟨ps, h1, h2, h3⟩ := t p hp
  refine ⟨ps, h _ _ (ne_of h1 e fun z => nomatch z) h1, h2, fun pos cv hc => ?_⟩
  obtain ⟨c, e1, e2⟩ := h3 pos cv hc
  exact ⟨c, e1, h _ _ (ne_of e2 e fun z => nomatch z) e2⟩
theorem put_len (c : List (List Key × V)) (k : List Key) (x : V) : (putK c k x).length ≤ c.length + 1 := by
  unfold putK
  by_cases e : (c.any fun kv => decide (kv.1 = k)) = true
  · rw [if_pos e, List.length_map]
    omega
  · rw [if_neg e, List.length_append] <;> exact Nat.le_refl _
/-! ### the ends that are there -/
def mins (E : List (Option Int)) : List Int := E.filterMap id
theorem mins_mem {E : List (Option Int)} {m : Int} : m ∈ mins E ↔ some m ∈ E := by
  unfold mins
  rw [List.mem_filterMap]
  constructor
  · rintro ⟨o, h, e⟩
    have e : o = some m := e
    exact e ▸ h
  · exact fun h => ⟨_, h, rfl⟩
theorem mins_fm : ∀ E : List (Option Int), (E.map oV).filterMap (fun v => if (!decide (v = V.non)) = true then some v else none) = (mins E).map V.int
  | [] => rfl
  | none :: E => by
    rw [List.map_cons, List.filterMap_cons, mins_fm E] <;> rfl
  | some n :: E => by
    rw [List.map_cons, List.filterMap_cons, mins_fm E] <;> rfl
theorem row_fm (F : Nat → V) : ∀ g : List Nat, (rowV g).filterMap (fun v => some (F (toN v))) = g.map F
  | [] => rfl
  | j :: g => by
    show (V.int (j : Int) :: rowV g).filterMap _ = _
    rw [List.filterMap_cons, row_fm F g] <;> rfl
def IsMin (E : List (Option Int)) (o : Option Int) : Prop := (∀ m, some m ∈ E → ∃ m', o = some m' ∧ m' ≤ m) ∧ ∀ m, o = some m → some m ∈ E
def osK (kvs : List (List Key × V)) (g : List Nat) (k : Nat) : Option Int := match valV kvs (keyG (g.filter (· != k))) with
  | some (.int n) => some n
  | _ => none
theorem osK_of {kvs : List (List Key × V)} {g : List Nat} {k : Nat} {o : Option Int} (h : valV kvs (keyG (g.filter (· != k))) = some (oV o)) : osK kvs g k = o := by
  unfold osK
  rw [h]
  cases o <;> rfl
section
variable {P : Program} {w : World} {K : PySem.W.Frag} {mg : Str → Option Value} {base : Heap}
theorem sc_late_ends : FnScope (["book", "lengths", "late", "found", "group", "ends", "work", "end"] : List Str) (["book", "lengths", "late"] : List Str) (defScope s_late_ends) := ⟨rfl, rfl, rfl, by decide +kernel, rfl, by decide +kernel, by decide +kernel⟩
def sp_late_ends (K : PySem.W.Frag) : Sp := fun vs H Q _ => ∃ (b d : Addr) (ws : List (Int × Int)) (lot : Lot) (u : Int), vs = [.ref b, .ref d, .int u] ∧ BookAt (CB K) H b ws ∧ H d = some (.dK (lenD lot)) ∧ (∀ k ∈ pres lot, k < ws.length) ∧ (pres lot).length ≤ 10 ∧ LamX.Tabs (Tb K) H ∧
  ∀ H' f kvs o, LamX.ExtN H H' → LamX.Tabs (Tb K) H' → H' f = some (.dT kvs) → valV kvs (keyG (pres lot)) = some (oV o) → Best (fiR ws) (laS ws) (lenO lot) u (pres lot) o → Q (.ref f) H'
theorem ok_late_ends (T : Tx K mg) (O : TabsOk K mg base) : Ok P w K mg base 5 "late_ends" (["book", "lengths", "late"] : List Str) (sp_late_ends K) := by
  obtain ⟨fd_groups_of, G_groups_of, kp_groups_of, b_groups_of⟩ := ok_groups_of (P := P) (w := w) (base := base) T O
  obtain ⟨fd_end_behind, G_end_behind, kp_end_behind, b_end_behind⟩ := ok_end_behind (P := P) (w := w) (base := base) T
  obtain ⟨fd_less_one, G_less_one, kp_less_one, b_less_one⟩ := ok_less_one (P := P) (w := w) (base := base) T
  refine ok_of T.F_late_ends sc_late_ends (fun vs H Q E h => ?_) (fun _ _ _ _ _ _ us hl => match us, hl with | [_, _, _], _ => rfl) (fun cdv A outer s H vs Q E hr h => ?_)
  · obtain ⟨b, d, ws, lot, u, rfl, _⟩ := h
    rfl
  · obtain ⟨b, d, ws, lot, u, rfl, hb, hd, hlt, h10, hT, k⟩ := h
    refine ⟨_, (pss_cons (ps_set (i := 3) sc_late_ends.nd rfl (Or.inr rfl) (pe_disp1T (hu_of hr) (pe_tup pa_nil) pe_int))
      (pss_cons (ps_for PassesOwn.never rfl (pi_list (pe_slice sl_list (pe_call G_groups_of (hr.mono (by decide)) (by rfl) T.g_groups_of kp_groups_of b_groups_of .nil pass0 (pa_cons (pe_callB (call_sortedDI rfl) (by rfl) T.n_sorted (by decide +kernel) (pa_cons (pv 1) pa_nil)) pa_nil)) (po_some pe_int) po_none)) (pg_name (i := 4) sc_late_ends.nd rfl (Or.inr rfl)) (pss_cons (ps_setLc (i := 5) (own := [("work", 6)]) rfl sc_late_ends.nd rfl rfl (sw_true rfl rfl rfl (by decide +kernel))  (pi_tup (pv 4)) (blkOk_by (own := [("work", 6)]) (N := (["book", "lengths", "late", "found", "group", "ends", "work", "end"] : List Str)) (sc := defScope s_late_ends) (by decide +kernel)) (fun _ _ _ _ _ => (pg_name (i := 6) sc_late_ends.nd rfl (Or.inl rfl))) (fun _ _ _ _ _ => pts_nil) (fun _ _ _ _ _ => (pe_call G_end_behind (hr.mono (by decide)) (by rfl) T.g_end_behind kp_end_behind b_end_behind .nil pass0 (pa_cons (pv 0) (pa_cons (pv 1) (pa_cons (pe_dget (hu_of hr) (pv 3) (pe_call G_less_one (hr.mono (by decide)) (by rfl) T.g_less_one kp_less_one b_less_one .nil pass0 (pa_cons (pv 4) (pa_cons (pv 6) pa_nil))) (fun _ _ => rfl)) (pa_cons (pv 6) (pa_cons (pv 2) pa_nil))))))))
      (pss_cons (ps_setLc (i := 5) (own := [("end", 7)]) rfl sc_late_ends.nd rfl rfl (sw_true rfl rfl rfl (by decide +kernel))  (pi_list (pv 5)) (blkOk_by (own := [("end", 7)]) (N := (["book", "lengths", "late", "found", "group", "ends", "work", "end"] : List Str)) (sc := defScope s_late_ends) (by decide +kernel)) (fun _ _ _ _ _ => (pg_name (i := 7) sc_late_ends.nd rfl (Or.inl rfl))) (fun _ _ _ _ _ => (pts_one (pt_cmpR op_notN (pv 7) pe_non (nomark _)))) (fun _ _ _ _ _ => (pv 7)))
      (pss_one (ps_dput (hu_of hr) (pv 3) (pv 4) (pe_ifExp (pt_cmpR op_gt (pe_callB (call_len_seqK (K := K) rfl) (by rfl) T.n_len (by decide +kernel) (pa_cons (pv 5) pa_nil)) pe_int (nomark _)) (pe_callB (cr_min rfl) (by rfl) T.n_min (by decide +kernel) (pa_cons (pv 5) pa_nil)) pe_non) rfl)))))
      (pss_one (ps_ret (pv 3))))), ?_⟩
    -- {(): 0}
    intro f hf
    refine ⟨Nat.zero_le _, fun e he => ?_⟩
    have fe : f ≠ e := ne_of_none (o := .dT []) upd_same he
    refine ⟨e, [], rfl, by rw [upd_ne fe]; exact upd_same, upd_same, ?_⟩
    have hf1 : ∀ o, upd (upd (upd H f (.dT [])) e (.tup [])) f o f = some o := fun o => upd_same
    have s1 : ∀ o, Same H (upd (upd (upd H f (.dT [])) e (.tup [])) f o) := fun o => same_wr ((same_upd hf).trans (same_upd he)) hf
    have hf1 := hf1 (.dT [([], .int 0)])
    have s1 := s1 (.dT [([], .int 0)])
    generalize upd (upd (upd H f (.dT [])) e (.tup [])) f (.dT [([], .int 0)]) = H1 at hf1 s1 ⊢
    -- groups_of(sorted(lengths))[1:]
    refine ⟨_, rfl, d, _, _, rfl, .inl (s1 _ _ hd), lenD_keys lot, by rw [List.length_map]; omega, fun ys p hp hs hpn => ?_⟩
    have sp : Same H1 (upd H1 p (.lst (ys.map V.int))) := same_upd hpn
    refine ⟨p, pres lot, rfl, by rw [upd_same, sorted_lens hp hs], h10, tabs_same (tabs_same hT s1) sp, fun H2 q ys eN hT2 hq hg hperm hpw => ?_⟩
    refine ⟨_, rfl, q, ys, rfl, SqL.of hq, fun L hL => ?_⟩
    obtain ⟨R, eR, hR1, hR2⟩ := groups_sorted hperm hpw
    have hin : pres lot ∈ [] :: R := by
      rw [← eR]
      exact hperm.mem_iff.mpr (subsL_self _)
    cases ys with
    | nil => cases eR
    | cons y0 yr =>
    have eR2 : yr.map (grp H2) = R := (List.cons.inj eR).2
    subst eR2
    have hyl : yr.length ≤ 1024 := by
      have e := hperm.length_eq
      rw [subsL_len, List.length_map] at e
      have e : yr.length + 1 = 2 ^ (pres lot).length := e
      have h2 : 2 ^ (pres lot).length ≤ 2 ^ 10 := Nat.pow_le_pow_right (by decide) h10
      have h3 : (2 : Nat) ^ 10 = 1024 := by decide
      omega
    rw [cut1]
    have s3 : Same H2 (upd H2 L (.lst (List.drop 1 (y0 :: yr)))) := same_upd hL
    have hL3 : upd H2 L (.lst (List.drop 1 (y0 :: yr))) L = some (.lst yr) := upd_same
    generalize upd H2 L (.lst (List.drop 1 (y0 :: yr))) = H3 at s3 hL3 ⊢
    have eHN : LamX.ExtN H H3 := ((extN_same (s1.trans sp)).trans eN).trans (extN_same s3)
    have hT3 : LamX.Tabs (Tb K) H3 := tabs_same hT2 s3
    have hf3 : H3 f = some (.dT [([], .int 0)]) := s3 _ _ (eN _ _ (sp _ _ hf1) fun ps z => nomatch z)
    have hb3 : BookAt (CB K) H3 b ws := hb.kp (kp_extN eHN)
    have fd : d ≠ f := ne_of_none hd hf
    have hd3 : H3 d = some (.dK (lenD lot)) := eHN _ _ hd fun ps z => nomatch z
    refine ⟨L, rfl, ⟨_, SqL.of hL3⟩, for_list (xs := yr) (fun i σ H4 => ∃ (gv ev : Option V) (kvs : List (List Key × V)), σ = [some (.ref b), some (.ref d), some (.int u), some (.ref f), gv, ev, none, none] ∧ But f H3 H4 ∧ H4 f = some (.dT kvs) ∧ kvs.length ≤ i + 1 ∧
      ∀ g ∈ [] :: (yr.map (grp H2)).take i, ∃ o, valV kvs (keyG g) = some (oV o) ∧ Best (fiR ws) (laS ws) (lenO lot) u g o) ?_ ?_ ?_ ?_⟩
    · refine ⟨_, _, [([], .int 0)], rfl, But.refl, hf3, Nat.le_refl _, fun g hg' => ?_⟩
      have eg : g = [] := List.mem_singleton.mp hg'
      subst eg
      exact ⟨some 0, valV_pos rfl, best_nil⟩
    · rintro i σ H4 _ ⟨gv, ev, kvs, rfl, bt, hf4, hkl, hall⟩
      exact SqL.of (bt _ _ (ne_of hL3 hf3 fun z => nomatch z) hL3)
    · rintro i x σ H4 hi ⟨gv, ev, kvs, rfl, bt, hf4, hkl, hall⟩
      have hil := (List.getElem?_eq_some_iff.mp hi).1
      have hgR : (yr.map (grp H2))[i]? = some (grp H2 x) := by rw [List.getElem?_map, hi] <;> rfl
      obtain ⟨a, rfl, ha2⟩ := (hg x (List.mem_cons_of_mem _ (List.mem_of_getElem? hi))).at
      generalize hgE : grp H2 (.ref a) = g at hgR ha2
      obtain ⟨g0, gsub⟩ := hR1 g (List.mem_of_getElem? hgR)
      have gnd : g.Nodup := gsub.nodup (pres_nodup lot)
      have gp : ∀ j ∈ g, j ∈ pres lot := fun j hj => gsub.subset hj
      have gl : g.length ≤ 10 := Nat.le_trans gsub.length_le h10
      have ha3 := s3 _ _ ha2
      have ha4 := bt _ _ (ne_of ha3 hf3 fun z => nomatch z) ha3
      have hos : ∀ j ∈ g, valV kvs (keyG (g.filter (· != j))) = some (oV (osK kvs g j)) ∧ Best (fiR ws) (laS ws) (lenO lot) u (g.filter (· != j)) (osK kvs g j) := fun j hj => by
        obtain ⟨o, e1, e2⟩ := hall _ (hR2 i g hgR j hj)
        rw [osK_of e1]
        exact ⟨e1, e2⟩
      have hd4 : H4 d = some (.dK (lenD lot)) := bt _ _ fd hd3
      have hb4 : BookAt (CB K) H4 b ws := hb3.kp (bt.kp hf3)
      -- the ends
      refine ⟨_, rfl, a, rfl, ⟨_, SqT.of ha4⟩, fun D hD => lcr_tup (fun v => some (oV (stepE (fiR ws) (laS ws) (lenO lot) u (osK kvs g (toN v)) (toN v)))) (SqT.of ha4) hD (by rw [rowV_len]; omega) (fun y hy => ?_) fun H5 sm5 hD5 => ?_⟩
      · obtain ⟨j, hj, rfl⟩ := mem_rowV hy
        refine turnN rfl fun H6 sm6 Qy ky => ?_
        refine ⟨_, rfl, _, rfl, _, rfl, _, rfl, _, rfl, a, g, j, rfl, sm6 _ _ ha4, by omega, fun H7 t sm7 ht => ?_⟩
        have s7 := sm6.trans sm7
        have hgD : DGet H7 f (.ref t) (some (oV (osK kvs g j))) := by
          rw [← (hos j hj).1]
          exact DGet.t (s7 _ _ hf4) (by rw [keyG_v]; exact ht)
        exact ⟨f, _, rfl, hgD, _, rfl, _, rfl, b, d, ws, lot, osK kvs g j, j, u, rfl, hb4.kp (kp_same s7), hlt j (gp j hj), s7 _ _ hd4, gp j hj, ky _ sm7⟩
      · have eE : (rowV g).filterMap (fun v => some (oV (stepE (fiR ws) (laS ws) (lenO lot) u (osK kvs g (toN v)) (toN v)))) = (g.map fun j => stepE (fiR ws) (laS ws) (lenO lot) u (osK kvs g j) j).map oV := by
          rw [List.map_map]
          exact row_fm (fun j => oV (stepE (fiR ws) (laS ws) (lenO lot) u (osK kvs g j) j)) g
        rw [eE] at hD5
        have hE : (g.map fun j => stepE (fiR ws) (laS ws) (lenO lot) u (osK kvs g j) j).length ≤ 10 := by rw [List.length_map]; exact gl
        have hEmem : ∀ m, some m ∈ (g.map fun j => stepE (fiR ws) (laS ws) (lenO lot) u (osK kvs g j) j) ↔ ∃ j ∈ g, stepE (fiR ws) (laS ws) (lenO lot) u (osK kvs g j) j = some m := fun m => List.mem_map
        generalize (g.map fun j => stepE (fiR ws) (laS ws) (lenO lot) u (osK kvs g j) j) = E at hD5 hE hEmem
        refine ⟨_, rfl, D, rfl, ⟨_, SqL.of hD5⟩, fun D2 hD2 => lcr_list (fun v => if (!decide (v = V.non)) = true then some v else none) (SqL.of hD5) hD2 (by rw [List.length_map]; omega) (fun y hy => ?_) fun H6 sm6 hD6 => ?_⟩
        · exact turnT (b := !decide (y = V.non)) rfl (fun H6 sm6 Qb kb => ⟨_, rfl, rfl, _, rfl, kb _ (Same.refl _)⟩) fun hb' H6 sm6 Qy ky => ⟨_, rfl, ky _ (Same.refl _)⟩
        · rw [mins_fm] at hD6
          have s6 := sm5.trans sm6
          have hf6 := s6 _ _ hf4
          have ha6 := s6 _ _ ha4
          have fin : ∀ o, IsMin E o → ∃ (gv ev : Option V) (kvs' : List (List Key × V)), ([some (.ref b), some (.ref d), some (.int u), some (.ref f), some (.ref a), some (.ref D2), none, none] : L2.St) = [some (.ref b), some (.ref d), some (.int u), some (.ref f), gv, ev, none, none] ∧ But f H3 (upd H6 f (.dT (putK kvs (keyG g) (oV o)))) ∧ upd H6 f (.dT (putK kvs (keyG g) (oV o))) f = some (.dT kvs') ∧ kvs'.length ≤ i + 1 + 1 ∧
              ∀ g ∈ [] :: (yr.map (grp H2)).take (i + 1), ∃ o, valV kvs' (keyG g) = some (oV o) ∧ Best (fiR ws) (laS ws) (lenO lot) u g o := fun o ho => by
            refine ⟨_, _, _, rfl, (bt.same s6).upd, upd_same, Nat.le_trans (put_len _ _ _) (Nat.succ_le_succ hkl), fun g' hg' => ?_⟩
            rw [valV_put]
            by_cases e : g' = g
            · subst e
              rw [if_pos rfl]
              exact ⟨o, rfl, best_step gnd g0 (fun j hj => (hos j hj).2) (fun j hj m hm => ho.1 m ((hEmem m).mpr ⟨j, hj, hm⟩)) fun m hm => (hEmem m).mp (ho.2 m hm)⟩
            · rw [if_neg fun z => e (keyG_inj z)]
              refine hall g' ?_
              rw [take_succ hgR] at hg'
              rcases List.mem_cons.mp hg' with z | z
              · exact z ▸ List.mem_cons_self
              · rcases List.mem_append.mp z with z | z
                · exact List.mem_cons_of_mem _ z
                · exact (e (List.mem_singleton.mp z)).elim
          have hput : ∀ v, DPut H6 f (.ref a) v (upd H6 f (.dT (putK kvs (keyG g) v))) := fun v => DPut.t hf6 (by rw [keyG_v]; exact ha6) (Nat.lt_of_le_of_lt (by omega : kvs.length ≤ 2000) (by decide))
          refine ⟨_, rfl, D2, _, rfl, .inl (SqL.of hD6), _, _, rfl, rfl, _, rfl, if_b (fun hpos => ?_) fun hpos => ?_⟩
          · refine ⟨_, rfl, D2, mins E, rfl, SqL.of hD6, ?_, fun m hm hle => ?_⟩
            · rw [List.length_map] at hpos
              omega
            · exact ⟨_, rfl, _, rfl, f, _, rfl, hput _, fin (some m) ⟨fun m' hm' => ⟨m, rfl, hle m' (mins_mem.mpr hm')⟩, fun m' e => (by
                cases e
                exact mins_mem.mp hm)⟩⟩
          · have e0 : mins E = [] := by
              rw [List.length_map] at hpos
              exact List.length_eq_zero_iff.mp (by omega)
            exact ⟨_, rfl, _, rfl, f, _, rfl, hput _, fin none ⟨fun m' hm' => (by
              have := mins_mem.mpr hm'
              rw [e0] at this
              cases this), fun m' e => (by cases e)⟩⟩
    · rintro σ H4 ⟨gv, ev, kvs, rfl, bt, hf4, hkl, hall⟩
      obtain ⟨o, e1, e2⟩ := hall (pres lot) (by
        rw [show yr.length = (yr.map (grp H2)).length from (List.length_map ..).symm, List.take_length]
        exact hin)
      exact ⟨_, rfl, k H4 f kvs o (fun b' o' hb' n => bt b' o' (ne_of_none hb' hf) (eHN b' o' hb' n)) (bt.tabs hf3 hT3) hf4 e1 e2⟩
end
end K73
set_option Elab.async false
set_option linter.all false
set_option maxRecDepth 100000
set_option maxHeartbeats 4000000
/-! The least lateness. -/
namespace K73
open PySem PySem.Spec PyProof.Rows L2
/-- a row of ks with none more than u late -/
def Can (f l d : Nat → Int) (q : Nat → Bool) (ks : List Nat) (u : Int) : Prop := ∃ r : List Nat, r.Perm ks ∧ ∀ x ∈ lts f l d q 0 r, x ≤ u
theorem Can.mono {f l d : Nat → Int} {q : Nat → Bool} {ks : List Nat} {u u' : Int} (h : Can f l d q ks u) (hu : u ≤ u') : Can f l d q ks u' := by
  obtain ⟨r, h1, h2⟩ := h
  exact ⟨r, h1, fun x hx => Int.le_trans (h2 x hx) hu⟩
theorem can_some {f l d : Nat → Int} {q : Nat → Bool} {ks : List Nat} {u m : Int} (ha : ∀ k ∈ ks, q k = true) (h : Best f l d u ks (some m)) : Can f l d q ks u := by
  obtain ⟨r, h1, h2⟩ := h.2 m rfl
  exact ⟨r, h1, ((rowE_iff fun k hk => ha k (h1.mem_iff.mp hk)).mp h2).1⟩
theorem can_none {f l d : Nat → Int} {q : Nat → Bool} {ks : List Nat} {u : Int} (ha : ∀ k ∈ ks, q k = true) (h : Best f l d u ks none) : ¬ Can f l d q ks u := by
  rintro ⟨r, h1, h2⟩
  obtain ⟨m, e, _⟩ := h.1 r h1 _ ((rowE_iff (fun k hk => ha k (h1.mem_iff.mp hk))).mpr ⟨h2, rfl⟩)
  cases e
theorem can_own {f l d : Nat → Int} {q : Nat → Bool} {ks : List Nat} {u : Int} (ha : ∀ k ∈ ks, q k = true) (h : Can f l d q ks u) {k : Nat} (hk : k ∈ ks) : f k + d k - l k ≤ u := by
  obtain ⟨r, h1, h2⟩ := h
  obtain ⟨x, hx, hle⟩ := lts_own (f := f) (l := l) (d := d) (q := q) r 0 k (h1.mem_iff.mpr hk) (ha k hk)
  exact Int.le_trans hle (h2 x hx)
section
variable {P : Program} {w : World} {K : PySem.W.Frag} {mg : Str → Option Value} {base : Heap}
theorem sc_least_late : FnScope (["book", "lot", "lengths", "group", "low", "high", "half", "work"] : List Str) (["book", "lot"] : List Str) (defScope s_least_late) := ⟨rfl, rfl, rfl, by decide +kernel, rfl, by decide +kernel, by decide +kernel⟩
def sp_least_late (K : PySem.W.Frag) : Sp := fun vs H Q _ => ∃ (b l : Addr) (ws : List (Int × Int)) (lot : Lot), vs = [.ref b, .ref l] ∧ BookAt (CB K) H b ws ∧ H l = some (.tup (lotV lot)) ∧ LotOk ws.length lot ∧ pres lot ≠ [] ∧ (pres lot).length ≤ 10 ∧ LamX.Tabs (Tb K) H ∧
  ∀ H' m, LamX.ExtN H H' → LamX.Tabs (Tb K) H' → Can (fiR ws) (laS ws) (lenO lot) (isT lot) (pres lot) m → (∀ u, Can (fiR ws) (laS ws) (lenO lot) (isT lot) (pres lot) u → m ≤ u) → Q (.int m) H'
theorem ok_least_late (T : Tx K mg) (O : TabsOk K mg base) : Ok P w K mg base 6 "least_late" (["book", "lot"] : List Str) (sp_least_late K) := by
  obtain ⟨fd_late_ends, G_late_ends, kp_late_ends, b_late_ends⟩ := ok_late_ends (P := P) (w := w) (base := base) T O
  obtain ⟨fd_late_of, G_late_of, kp_late_of, b_late_of⟩ := ok_late_of (P := P) (w := w) (base := base) T
  obtain ⟨fd_check_few, G_check_few, kp_check_few, b_check_few⟩ := ok_check_few (P := P) (w := w) (base := base) T
  obtain ⟨fd_lengths_of, G_lengths_of, kp_lengths_of, b_lengths_of⟩ := ok_lengths_of (P := P) (w := w) (base := base) T
  obtain ⟨fd_first_of, G_first_of, kp_first_of, b_first_of⟩ := ok_first_of (P := P) (w := w) (base := base) T
  obtain ⟨fd_last_of, G_last_of, kp_last_of, b_last_of⟩ := ok_last_of (P := P) (w := w) (base := base) T
  refine ok_of T.F_least_late sc_least_late (fun vs H Q E h => ?_) (fun _ _ _ _ _ _ us hl => match us, hl with | [_, _], _ => rfl) (fun cdv A outer s H vs Q E hr h => ?_)
  · obtain ⟨b, l, ws, lot, rfl, _⟩ := h
    rfl
  · obtain ⟨b, l, ws, lot, rfl, hb, hl, lo, h0, h10, hT, k⟩ := h
    have hfew := lo.few
    have hlt : ∀ j ∈ pres lot, j < ws.length := fun j hj => by
      have := pres_lt hj
      rwa [lo.len] at this
    have hall : ∀ j ∈ pres lot, isT lot j = true := fun j hj => pres_mem.mp hj
    refine ⟨_, (pss_cons (ps_expr (pe_call G_check_few (hr.mono (by decide)) (by rfl) T.g_check_few kp_check_few b_check_few .nil pass0 (pa_cons (pv 0) (pa_cons (pv 1) pa_nil))))
      (pss_cons (ps_set (i := 2) sc_least_late.nd rfl (Or.inr rfl) (pe_call G_lengths_of (hr.mono (by decide)) (by rfl) T.g_lengths_of kp_lengths_of b_lengths_of .nil pass0 (pa_cons (pv 1) pa_nil)))
      (pss_cons (ps_if (pt_cmpR op_eq (pe_callB call_lenD (by rfl) T.n_len (by decide +kernel) (pa_cons (pv 2) pa_nil)) pe_int (nomark _)) (pss_one (ps_ret pe_non)) pss_nil)
      (pss_cons (ps_set (i := 3) sc_least_late.nd rfl (Or.inl rfl) (pe_callTy call_tuple_of (by rfl) T.n_tuple (by decide +kernel) (pa_cons (pe_callB (call_sortedDI rfl) (by rfl) T.n_sorted (by decide +kernel) (pa_cons (pv 2) pa_nil)) pa_nil)))
      (pss_cons (ps_set (i := 4) sc_least_late.nd rfl (Or.inl rfl) (pe_callB (cr_max rfl) (by rfl) T.n_max (by decide +kernel) (pa_cons (pe_lc (own := [("work", 7)]) rfl sc_least_late.nd (pi_tup (pv 3)) (blkOk_by (own := [("work", 7)]) (N := (["book", "lot", "lengths", "group", "low", "high", "half", "work"] : List Str)) (sc := defScope s_least_late) (by decide +kernel)) (fun _ _ _ _ _ => (pg_name (i := 7) sc_least_late.nd rfl (Or.inl rfl))) (fun _ _ _ _ _ => pts_nil) (fun _ _ _ _ _ => (pe_op op_sub (pe_op op_add (pe_call G_first_of (hr.mono (by decide)) (by rfl) T.g_first_of kp_first_of b_first_of .nil pass0 (pa_cons (pv 0) (pa_cons (pv 7) pa_nil))) (pe_dget (hu_of hr) (pv 2) (pv 7) (fun _ _ => rfl))) (pe_call G_last_of (hr.mono (by decide)) (by rfl) T.g_last_of kp_last_of b_last_of .nil pass0 (pa_cons (pv 0) (pa_cons (pv 7) pa_nil)))))) pa_nil)))
      (pss_cons (ps_set (i := 5) sc_least_late.nd rfl (Or.inl rfl) (pe_call G_late_of (hr.mono (by decide)) (by rfl) T.g_late_of kp_late_of b_late_of .nil pass0 (pa_cons (pv 0) (pa_cons (pv 3) (pa_cons (pv 1) pa_nil)))))
      (pss_cons (ps_while PassesOwn.never (pt_cmpR op_lt (pv 4) (pv 5) (nomark _)) (pss_cons (ps_set (i := 6) sc_least_late.nd rfl (Or.inl rfl) (pe_op op_fdiv (pe_op op_add (pv 4) (pv 5)) pe_int))
      (pss_one (ps_if (pt_cmpR op_isN (pe_dget (hu_of hr) (pe_call G_late_ends (hr.mono (by decide)) (by rfl) T.g_late_ends kp_late_ends b_late_ends .nil pass0 (pa_cons (pv 0) (pa_cons (pv 2) (pa_cons (pv 6) pa_nil)))) (pv 3) (fun _ _ => rfl)) pe_non (nomark _)) (pss_one (ps_set (i := 4) sc_least_late.nd rfl (Or.inl rfl) (pe_op op_add (pv 6) pe_int))) (pss_one (ps_set (i := 5) sc_least_late.nd rfl (Or.inl rfl) (pv 6)))))))
      (pss_one (ps_ret (pv 4)))))))))), ?_⟩
    refine ⟨_, rfl, _, rfl, b, l, ws, lot, rfl, hb, hl, lo, h10, fun H1 s1 => ?_⟩
    refine ⟨_, rfl, l, lot, rfl, s1 _ _ hl, lo.few, fun H2 d s2 hd => ?_⟩
    refine ⟨_, rfl, d, _, rfl, hd, rfl, _, rfl, if_f ?_ ?_⟩
    · intro e
      injection e with e
      unfold lenD at e
      rw [List.length_map] at e
      exact h0 (List.length_eq_zero_iff.mp (by omega))
    · refine ⟨_, rfl, d, _, _, rfl, .inl hd, lenD_keys lot, by rw [List.length_map]; omega, fun ys p hp hs hpn => ?_⟩
      refine ⟨p, _, rfl, .inl ⟨SqL.of upd_same, fun g hg => ?_⟩⟩
      have s4 : Same H2 (upd (upd H2 p (.lst (ys.map V.int))) g (.tup (ys.map V.int))) := (same_upd hpn).trans (same_upd hg)
      have hg4 : upd (upd H2 p (.lst (ys.map V.int))) g (.tup (ys.map V.int)) g = some (.tup (rowV (pres lot))) := by rw [upd_same, sorted_lens hp hs]
      generalize upd (upd H2 p (.lst (ys.map V.int))) g (.tup (ys.map V.int)) = H4 at s4 hg4 ⊢
      have sH4 := (s1.trans s2).trans s4
      have hd4 := s4 _ _ hd
      refine ⟨_, rfl, g, rfl, ⟨_, SqT.of hg4⟩, fun D hD => lcr_tup (fun v => some (.int (fiR ws (toN v) + lenO lot (toN v) - laS ws (toN v)))) (SqT.of hg4) hD (by rw [rowV_len]; omega) (fun y hy => ?_) fun H5 s5 hD5 => ?_⟩
      · obtain ⟨j, hj, rfl⟩ := mem_rowV hy
        refine turnN rfl fun H6 s6 Qy ky => ?_
        have hb6 : BookAt (CB K) H6 b ws := hb.kp (kp_same (sH4.trans s6))
        have hgD : DGet H6 d (.int (j : Int)) (some (.int (lenO lot j))) := by
          rw [← lenD_at hj]
          exact DGet.k (k := Sum.inl (j : Int)) (s6 _ _ hd4)
        exact ⟨_, rfl, _, rfl, b, j, ws, rfl, hb6, hlt j hj, _, rfl, _, rfl, d, _, rfl, hgD, _, _, rfl, rfl, _, rfl, _, rfl, b, j, ws, rfl, hb6, hlt j hj, _, _, rfl, rfl, ky _ (Same.refl _)⟩
      · have eF : (rowV (pres lot)).filterMap (fun v => some (V.int (fiR ws (toN v) + lenO lot (toN v) - laS ws (toN v)))) = ((pres lot).map fun j => fiR ws j + lenO lot j - laS ws j).map V.int := by
          rw [List.map_map]
          exact row_fm (fun j => V.int (fiR ws j + lenO lot j - laS ws j)) (pres lot)
        rw [eF] at hD5
        refine ⟨D, _, rfl, SqL.of hD5, ?_, fun lw hlw hlw2 => ?_⟩
        · rw [List.length_map]
          exact List.length_pos_iff.mpr h0
        refine ⟨_, rfl, _, rfl, _, rfl, b, g, l, ws, pres lot, lot, rfl, hb.kp (kp_same (sH4.trans s5)), s5 _ _ hg4, hlt, by omega, s5 _ _ (sH4 _ _ hl), lo.len, fun H6 s6 => ?_⟩
        obtain ⟨j0, hj0, ej0⟩ := List.mem_map.mp hlw
        have hne : lts (fiR ws) (laS ws) (lenO lot) (isT lot) 0 (pres lot) ≠ [] := lts_ne ⟨j0, hj0, hall j0 hj0⟩
        obtain ⟨hi0, ehi⟩ := mx_isSome hne
        rw [ehi]
        obtain ⟨m1, m2⟩ := mx_some ehi
        have can0 : Can (fiR ws) (laS ws) (lenO lot) (isT lot) (pres lot) hi0 := ⟨pres lot, List.Perm.refl _, m2⟩
        have low0 : ∀ u, Can (fiR ws) (laS ws) (lenO lot) (isT lot) (pres lot) u → lw ≤ u := fun u hu => by
          have := can_own hall hu hj0
          omega
        have sH6 := (sH4.trans s5).trans s6
        have hd6 := s6 _ _ (s5 _ _ hd4)
        have hg6 := s6 _ _ (s5 _ _ hg4)
        have hb6 : BookAt (CB K) H6 b ws := hb.kp (kp_same sH6)
        have hT6 := tabs_same hT sH6
        refine ⟨fun m σ H7 => ∃ (lw hi : Int) (hv : Option V), m = (hi - lw).toNat ∧ lw ≤ hi ∧ σ = [some (.ref b), some (.ref l), some (.ref d), some (.ref g), some (.int lw), some (.int hi), hv, none] ∧ LamX.ExtN H6 H7 ∧ LamX.Tabs (Tb K) H7 ∧
          Can (fiR ws) (laS ws) (lenO lot) (isT lot) (pres lot) hi ∧ ∀ u, Can (fiR ws) (laS ws) (lenO lot) (isT lot) (pres lot) u → lw ≤ u, ⟨_, lw, hi0, _, rfl, low0 _ can0, rfl, LamX.ExtN.refl _, hT6, can0, low0⟩, ?_⟩
        rintro m σ H7 ⟨lw, hi, hv, rfl, hle, rfl, eN, hT7, hcan, hlow⟩
        refine ⟨_, rfl, _, rfl, _, _, rfl, rfl, _, rfl, if_b (fun hlh => ?_) fun hlh => ?_⟩
        · refine ⟨fun σ' H' => ∃ (lw' hi' : Int) (hv : Option V), (hi' - lw').toNat < (hi - lw).toNat ∧ lw' ≤ hi' ∧ σ' = [some (.ref b), some (.ref l), some (.ref d), some (.ref g), some (.int lw'), some (.int hi'), hv, none] ∧ LamX.ExtN H6 H' ∧ LamX.Tabs (Tb K) H' ∧
            Can (fiR ws) (laS ws) (lenO lot) (isT lot) (pres lot) hi' ∧ ∀ u, Can (fiR ws) (laS ws) (lenO lot) (isT lot) (pres lot) u → lw' ≤ u, fun σ' H' ⟨lw', hi', hv', h1, h2⟩ => ⟨_, h1, lw', hi', hv', rfl, h2⟩, ?_⟩
          refine ⟨_, rfl, _, rfl, _, _, rfl, rfl, _, _, rfl, rfl, ⟨by decide, by decide⟩, ?_⟩
          refine ⟨_, rfl, _, rfl, _, rfl, b, d, ws, lot, (lw + hi) / 2, rfl, hb6.kp (kp_extN eN), eN _ _ hd6 (fun ps z => nomatch z), hlt, h10, hT7, fun H8 f kvs o eN8 hT8 hf8 hv8 hB => ?_⟩
          have hg8 : H8 g = some (.tup (rowV (pres lot))) := eN8 _ _ (eN _ _ hg6 fun ps z => nomatch z) fun ps z => nomatch z
          have hgD : DGet H8 f (.ref g) (some (oV o)) := by
            rw [← hv8]
            exact DGet.t hf8 (by rw [keyG_v]; exact hg8)
          have eN9 := eN.trans eN8
          have hh1 : lw ≤ (lw + hi) / 2 := by omega
          have hh2 : (lw + hi) / 2 < hi := by omega
          cases o with
          | none =>
            refine ⟨_, rfl, f, _, rfl, hgD, rfl, true, rfl, iteT ?_⟩
            refine ⟨_, rfl, _, _, rfl, rfl, (lw + hi) / 2 + 1, hi, _, by omega, by omega, rfl, eN9, hT8, hcan, fun u hu => ?_⟩
            refine Int.not_lt.mp fun z => can_none hall hB (hu.mono (by omega))
          | some c =>
            refine ⟨_, rfl, f, _, rfl, hgD, rfl, false, rfl, iteF ?_⟩
            exact ⟨_, rfl, lw, (lw + hi) / 2, _, by omega, by omega, rfl, eN9, hT8, can_some hall hB, hlow⟩
        · have e : lw = hi := by omega
          subst e
          exact ⟨_, rfl, k H7 lw ((extN_same sH6).trans eN) hT7 hcan hlow⟩
end
end K73
set_option Elab.async false
set_option linter.all false
set_option maxRecDepth 100000
set_option maxHeartbeats 4000000
/-! Regret. -/
namespace K73
open PySem PySem.Spec PyProof.Rows L2
/-! ### slices of tuples -/
theorem cut_whole {xs : List V} {lo hi : Option Int} (h : HT.sIx xs.length 0 lo = 0 ∧ HT.sIx xs.length xs.length hi = xs.length) : cutV xs lo hi = xs := by
  unfold cutV
  rw [h.1, h.2]
  exact List.take_length
theorem slA {K : PySem.W.Frag} {a : Addr} {xs : List V} {lo hi : Option Int} {H : Hp} {Q : VK} (h : H a = some (.tup xs)) (k : ∀ H' p, Same H H' → H' p = some (.tup (cutV xs lo hi)) → Q (.ref p) H') : rSlA K (.ref a) lo hi H Q := by
  refine ⟨a, xs, rfl, SqT.of h, fun w => k H a (Same.refl _) (by rw [cut_whole w]; exact h), fun _ p hp => k _ p (same_upd hp) upd_same⟩
theorem cut_drop {r : List Nat} {n : Nat} (h : n ≤ r.length) : cutV (rowV r) (some (n : Int)) none = rowV (r.drop n) := by
  unfold cutV
  rw [HT.sIx_nat, HT.sIx_none, rowV_len, Nat.min_eq_left h]
  unfold rowV
  rw [← List.map_drop, ← List.map_take, List.take_of_length_le (by rw [List.length_drop]; exact Nat.le_refl _)]
theorem cut_take {r : List Nat} {n : Nat} (h : n ≤ r.length) : cutV (rowV r) none (some (n : Int)) = rowV (r.take n) := by
  unfold cutV
  rw [HT.sIx_nat, HT.sIx_none, rowV_len, Nat.min_eq_left h]
  unfold rowV
  rw [← List.map_drop, ← List.map_take] <;> rfl
theorem cut2 (xs : List V) (h : 2 ≤ xs.length) : cutV xs none (some 2) = xs.take 2 := by
  unfold cutV
  rw [show (some (2 : Int)) = some ((2 : Nat) : Int) from rfl, HT.sIx_nat, HT.sIx_none, Nat.min_eq_left h] <;> rfl
/-! ### the two least by a key -/
theorem rowV_of : ∀ {S : List V}, (∀ y ∈ S, ∃ k : Nat, y = .int (k : Int)) → S = rowV (S.map toN)
  | [], _ => rfl
  | y :: S, h => by
    obtain ⟨k, e⟩ := h y List.mem_cons_self
    subst e
    show _ = V.int (k : Int) :: rowV (S.map toN)
    rw [← rowV_of fun z hz => h z (List.mem_cons_of_mem _ hz)]
theorem two_least {row : List Nat} (h2 : 2 ≤ row.length) (F : Nat → Int) : ∃ a c r, (rowV row).mergeSort (PySem.W.dataLe false (fun y => PyData.int (F (toN y)))) = rowV (a :: c :: r) ∧ (a :: c :: r).Perm row ∧ ∀ k ∈ row, F a ≤ F k ∧ (k ≠ a → F c ≤ F k) := by
  have hperm := List.mergeSort_perm (rowV row) (PySem.W.dataLe false (fun y => PyData.int (F (toN y))))
  have hpw := PySem.W.sort_pairwise (PySem.W.sortLe_total _ false _) (rowV row) (le := PySem.W.dataLe false (fun y => PyData.int (F (toN y))))
  rw [PySem.W.dataLe_int] at hpw
  rw [PySem.W.dataLe_int] at hperm ⊢
  have hS := rowV_of (S := (rowV row).mergeSort fun a b => decide (F (toN a) ≤ F (toN b))) fun y hy => by
    obtain ⟨k, _, e⟩ := mem_rowV (hperm.mem_iff.mp hy)
    exact ⟨k, e⟩
  generalize (rowV row).mergeSort (fun a b => decide (F (toN a) ≤ F (toN b))) = S at hpw hperm hS ⊢
  have hp2 : (S.map toN).Perm row := by
    have := hperm.map toN
    rwa [toN_row] at this
  have hl := hp2.length_eq
  generalize S.map toN = r' at hS hp2 hl
  subst hS
  cases r' with
  | nil => exact absurd hl (by show ¬ 0 = row.length; omega)
  | cons a r1 =>
    cases r1 with
    | nil => exact absurd hl (by show ¬ 1 = row.length; omega)
    | cons c r =>
      refine ⟨a, c, r, rfl, hp2, fun k hk => ?_⟩
      unfold rowV at hpw
      rw [List.pairwise_map] at hpw
      have hpw : (a :: c :: r).Pairwise (fun x y => F x ≤ F y) := hpw.imp fun h => of_decide_eq_true h
      rw [List.pairwise_cons, List.pairwise_cons] at hpw
      rcases List.mem_cons.mp (hp2.mem_iff.mpr hk) with z | z
      · subst z
        exact ⟨Int.le_refl _, fun z => (z rfl).elim⟩
      · refine ⟨hpw.1 k z, fun _ => ?_⟩
        rcases List.mem_cons.mp z with z | z
        · rw [z]
          exact Int.le_refl _
        · exact hpw.2.1 k z
/-- the pair of the least first and the greatest last, of two each -/
theorem widest_fact {row : List Nat} {F L : Nat → Int} {a c a' c' : Nat} {h : Int} (ha : a ∈ row) (hE : ∀ k ∈ row, F a ≤ F k ∧ (k ≠ a → F c ≤ F k)) (hL : ∀ k ∈ row, -L a' ≤ -L k ∧ (k ≠ a' → -L c' ≤ -L k))
    (hac : a ≠ c) (hac' : a' ≠ c') (hb : ∀ x y, (x ∈ [a, c] ∧ y ∈ [a', c']) → x ≠ y → L y - F x ≤ h) : ∀ u ∈ row, ∀ v ∈ row, u ≠ v → L v - F u ≤ h := by
  intro u hu v hv huv
  obtain ⟨f1, f2⟩ := hE u hu
  obtain ⟨l1, l2⟩ := hL v hv
  by_cases e : a = a'
  · by_cases e2 : u = a
    · have := hb a c' ⟨by simp, by simp⟩ (fun z => hac' (e ▸ z))
      have := l2 (fun z => huv (by rw [e2, e, z]))
      omega
    · have := hb c a' ⟨by simp, by simp⟩ (fun z => hac (e.trans z.symm))
      have := f2 e2
      omega
  · have := hb a a' ⟨by simp, by simp⟩ e
    omega
/-! ### the best so far -/
def Bd (f l : Nat → Int) (H : Hp) (v : V) (S : Nat → Nat → Prop) : Prop :=
  (v = .non ∧ ∀ x y, S x y → x = y) ∨ ∃ (t : Addr) (h x y : Int), v = .ref t ∧ H t = some (.tup [.int h, .int x, .int y]) ∧ ∀ x y, S x y → x ≠ y → l y - f x ≤ h
theorem Bd.kp {f l : Nat → Int} {H H' : Hp} {v : V} {S S' : Nat → Nat → Prop} (h : Bd f l H v S) (s : Kp H H') (i : ∀ x y, S' x y → S x y) : Bd f l H' v S' := by
  rcases h with ⟨e, h⟩ | ⟨t, h, x, y, e, h1, h2⟩
  · exact .inl ⟨e, fun x y z => h x y (i x y z)⟩
  · exact .inr ⟨t, h, x, y, e, s.tup h1, fun x y z => h2 x y (i x y z)⟩
section
variable {P : Program} {w : World} {K : PySem.W.Frag} {mg : Str → Option Value} {base : Heap}
theorem sc_widest_of : FnScope (["book", "works", "early", "late", "best", "one", "other", "hours"] : List Str) (["book", "works"] : List Str) (defScope s_widest_of) := ⟨rfl, rfl, rfl, by decide +kernel, rfl, by decide +kernel, by decide +kernel⟩
def sp_widest_of (K : PySem.W.Frag) : Sp := fun vs H Q _ => ∃ (b r : Addr) (ws : List (Int × Int)) (row : List Nat), vs = [.ref b, .ref r] ∧ BookAt (CB K) H b ws ∧ H r = some (.tup (rowV row)) ∧ RowOk ws.length row ∧ 2 ≤ row.length ∧ LamX.Tabs (Tb K) H ∧
  ∀ H' t h x y, LamX.ExtN H H' → LamX.Tabs (Tb K) H' → H' t = some (.tup [.int h, .int x, .int y]) → (∀ u ∈ row, ∀ v ∈ row, u ≠ v → laS ws v - fiR ws u ≤ h) → Q (.ref t) H'
theorem ok_widest_of (T : Tx K mg) (O : TabsOk K mg base) : Ok P w K mg base 5 "widest_of" (["book", "works"] : List Str) (sp_widest_of K) := by
  obtain ⟨fd_last_of, G_last_of, kp_last_of, b_last_of⟩ := ok_last_of (P := P) (w := w) (base := base) T
  obtain ⟨fd_first_of, G_first_of, kp_first_of, b_first_of⟩ := ok_first_of (P := P) (w := w) (base := base) T
  refine ok_ofL T.F_widest_of sc_widest_of (fun vs H Q E h => ?_) (fun _ _ _ _ _ _ us hl => match us, hl with | [_, _], _ => rfl) (fun A outer s H vs Q E hr h => ?_)
  · obtain ⟨b, r, ws, row, rfl, _⟩ := h
    rfl
  · obtain ⟨b, r, ws, row, rfl, hb, hx, ro, h2, hT, k⟩ := h
    refine ⟨_, (pss_cons (ps_set (i := 2) sc_widest_of.nd rfl (Or.inl rfl) (pe_slice sl_list (pe_sortKey (T := Tb K) (N := (["work", "book"] : List Str)) (fr := (["book"] : List Str)) (js := [0]) (k := 1) (x := "work") (c := c2 K) (P := p2 K) (by rfl) T.n_sorted (pv 1) O.t2 rfl (hm2 K) O.u2 (hr.mono (by decide)) (NdefX.nscope_by (by decide +kernel)) (free_by (d := defScope s_widest_of) (by decide +kernel)) (by decide +kernel) rfl rfl (fun _ _ _ _ _ _ => rfl) (fun _ _ _ _ _ _ hr2 => (pe_call G_first_of (hr2.mono (by decide)) (by rfl) T.g_first_of kp_first_of b_first_of .nil pass0 (pa_cons (pv 1) (pa_cons (pv 0) pa_nil))))) po_none (po_some pe_int)))
      (pss_cons (ps_set (i := 3) sc_widest_of.nd rfl (Or.inl rfl) (pe_slice sl_list (pe_sortKey (T := Tb K) (N := (["work", "book"] : List Str)) (fr := (["book"] : List Str)) (js := [0]) (k := 1) (x := "work") (c := c2 K) (P := p2 K) (by rfl) T.n_sorted (pv 1) O.t2 rfl (hm2 K) O.u2 (hr.mono (by decide)) (NdefX.nscope_by (by decide +kernel)) (free_by (d := defScope s_widest_of) (by decide +kernel)) (by decide +kernel) rfl rfl (fun _ _ _ _ _ _ => rfl) (fun _ _ _ _ _ _ hr2 => (pe_un un_neg (pe_call G_last_of (hr2.mono (by decide)) (by rfl) T.g_last_of kp_last_of b_last_of .nil pass0 (pa_cons (pv 1) (pa_cons (pv 0) pa_nil)))))) po_none (po_some pe_int)))
      (pss_cons (ps_set (i := 4) sc_widest_of.nd rfl (Or.inl rfl) pe_non)
      (pss_cons (ps_for PassesOwn.never rfl (pi_list (pv 2)) (pg_name (i := 5) sc_widest_of.nd rfl (Or.inl rfl)) (pss_one (ps_for PassesOwn.never rfl (pi_list (pv 3)) (pg_name (i := 6) sc_widest_of.nd rfl (Or.inl rfl)) (pss_cons (ps_set (i := 7) sc_widest_of.nd rfl (Or.inl rfl) (pe_op op_sub (pe_call G_last_of (hr.mono (by decide)) (by rfl) T.g_last_of kp_last_of b_last_of .nil pass0 (pa_cons (pv 0) (pa_cons (pv 6) pa_nil))) (pe_call G_first_of (hr.mono (by decide)) (by rfl) T.g_first_of kp_first_of b_first_of .nil pass0 (pa_cons (pv 0) (pa_cons (pv 5) pa_nil)))))
      (pss_one (ps_if (PW.pt (pw_and (pt_cmpR op_ne (pv 5) (pv 6) (nomark _)) (pw_and1 (PW.pt (pw_or (pt_cmpR op_isN (pv 4) pe_non (nomark _)) (pw_or1 (pt_cmpR op_gt (pv 7) (pe_ix (ix_tupK (K := K) rfl) (pv 4) pe_int (fun _ _ => rfl)) (nomark _)))))))) (pss_one (ps_set (i := 4) sc_widest_of.nd rfl (Or.inl rfl) (pe_tup (pa_cons (pv 7) (pa_cons (pv 5) (pa_cons (pv 6) pa_nil)))))) pss_nil))))))
      (pss_one (ps_ret (pv 4))))))), ?_⟩
    -- the two lists
    obtain ⟨a, c, r1, e1, hp1, hE⟩ := two_least h2 (fiR ws)
    obtain ⟨a', c', r2, e2, hp2, hL⟩ := two_least h2 (fun k => -laS ws k)
    have nd1 := hp1.symm.nodup ro.nd
    have nd2 := hp2.symm.nodup ro.nd
    have hac : a ≠ c := fun z => (List.nodup_cons.mp nd1).1 (z ▸ List.mem_cons_self)
    have hac' : a' ≠ c' := fun z => (List.nodup_cons.mp nd2).1 (z ▸ List.mem_cons_self)
    have in1 : ∀ x ∈ [a, c], x ∈ row := fun x hx' => hp1.mem_iff.mp (by
      rcases List.mem_cons.mp hx' with z | z
      · exact z ▸ List.mem_cons_self
      · rw [List.mem_singleton.mp z]; exact List.mem_cons_of_mem _ List.mem_cons_self)
    have in2 : ∀ x ∈ [a', c'], x ∈ row := fun x hx' => hp2.mem_iff.mp (by
      rcases List.mem_cons.mp hx' with z | z
      · exact z ▸ List.mem_cons_self
      · rw [List.mem_singleton.mp z]; exact List.mem_cons_of_mem _ List.mem_cons_self)
    have well : ∀ F : V → Int, KeysWell (rowV row) (fun y => PyData.int (F y)) := fun F => ⟨fun y _ y' _ => by simp only [PySem.W.alike], .inr fun y _ => ⟨by simp, by simp⟩, fun y _ => by simp only [PyData.depth]; omega⟩
    refine ⟨_, rfl, hT, r, rowV row, fun y => PyData.int (fiR ws (toN y)), rfl, .inr (SqT.of hx), well _, fun y hy H2 eN => ?_, fun H1 p eN1 hT1 hp => ?_⟩
    · obtain ⟨j, hj, rfl⟩ := mem_rowV hy
      exact ⟨_, rfl, _, rfl, b, j, ws, rfl, hb.kp (kp_extN eN), ro.lt j hj, Same.refl _, .int _⟩
    rw [e1] at hp
    refine ⟨_, rfl, p, _, rfl, SqL.of hp, fun e he => ?_⟩
    rw [cut2 _ (by show 2 ≤ (rowV r1).length + 1 + 1; omega)]
    have s1 : Same H1 (upd H1 e (.lst (rowV [a, c]))) := same_upd he
    have he1 : upd H1 e (.lst (rowV [a, c])) e = some (.lst (rowV [a, c])) := upd_same
    show tSeq _ _ _ _ (upd H1 e (.lst (rowV [a, c])))
    generalize upd H1 e (.lst (rowV [a, c])) = H2 at s1 he1 ⊢
    have eN2 : LamX.ExtN H H2 := eN1.trans (extN_same s1)
    have hT2 := tabs_same hT1 s1
    refine ⟨_, rfl, hT2, r, rowV row, fun y => PyData.int (-laS ws (toN y)), rfl, .inr (SqT.of (eN2 _ _ hx fun ps z => nomatch z)), well _, fun y hy H3 eN => ?_, fun H3 p2 eN3 hT3 hp2' => ?_⟩
    · obtain ⟨j, hj, rfl⟩ := mem_rowV hy
      exact ⟨_, rfl, _, rfl, b, j, ws, rfl, hb.kp (kp_extN (eN2.trans eN)), ro.lt j hj, _, rfl, Same.refl _, .int _⟩
    have hp2' : H3 p2 = some (.lst (rowV (a' :: c' :: r2))) := by
      rw [← e2]
      exact hp2'
    refine ⟨_, rfl, p2, _, rfl, SqL.of hp2', fun l hl => ?_⟩
    rw [cut2 _ (by show 2 ≤ (rowV r2).length + 1 + 1; omega)]
    have s3 : Same H3 (upd H3 l (.lst (rowV [a', c']))) := same_upd hl
    have hl3 : upd H3 l (.lst (rowV [a', c'])) l = some (.lst (rowV [a', c'])) := upd_same
    show tSeq _ _ _ _ (upd H3 l (.lst (rowV [a', c'])))
    generalize upd H3 l (.lst (rowV [a', c'])) = H4 at s3 hl3 ⊢
    have eN4 : LamX.ExtN H H4 := (eN2.trans eN3).trans (extN_same s3)
    have hT4 := tabs_same hT3 s3
    have he4 : H4 e = some (.lst (rowV [a, c])) := s3 _ _ (eN3 _ _ he1 fun ps z => nomatch z)
    have hb4 := hb.kp (kp_extN eN4)
    refine ⟨_, rfl, e, rfl, ⟨_, SqL.of he4⟩, for_list (xs := rowV [a, c]) (fun i σ H5 => ∃ (v : V) (v5 v6 v7 : Option V), σ = [some (.ref b), some (.ref r), some (.ref e), some (.ref l), some v, v5, v6, v7] ∧ Same H4 H5 ∧ Bd (fiR ws) (laS ws) H5 v fun x y => x ∈ [a, c].take i ∧ y ∈ [a', c']) ?_ ?_ ?_ ?_⟩
    · exact ⟨.non, none, none, none, rfl, Same.refl _, .inl ⟨rfl, fun x y z => by cases z.1⟩⟩
    · rintro i σ H5 _ ⟨v, v5, v6, v7, rfl, s5, bd⟩
      exact SqL.of (s5 _ _ he4)
    · rintro i xV σ H5 hi ⟨v, v5, v6, v7, rfl, s5, bd⟩
      obtain ⟨x, hxi, rfl⟩ := rowV_at hi
      have hxr := in1 x (List.mem_of_getElem? hxi)
      refine ⟨_, rfl, l, rfl, ⟨_, SqL.of (s5 _ _ hl3)⟩, for_list (xs := rowV [a', c']) (fun j σ H6 => ∃ (v : V) (v6 v7 : Option V), σ = [some (.ref b), some (.ref r), some (.ref e), some (.ref l), some v, some (.int (x : Int)), v6, v7] ∧ Same H4 H6 ∧ Bd (fiR ws) (laS ws) H6 v fun x' y => (x' ∈ [a, c].take i ∧ y ∈ [a', c']) ∨ (x' = x ∧ y ∈ [a', c'].take j)) ?_ ?_ ?_ ?_⟩
      · exact ⟨v, v6, v7, rfl, s5, bd.kp (kp_same (Same.refl _)) fun x' y z => z.elim id fun z => by cases z.2⟩
      · rintro j σ H6 _ ⟨v, v6, v7, rfl, s6, bd⟩
        exact SqL.of (s6 _ _ hl3)
      · rintro j yV σ H6 hj ⟨v, v6, v7, rfl, s6, bd⟩
        obtain ⟨y, hyj, rfl⟩ := rowV_at hj
        have hyr := in2 y (List.mem_of_getElem? hyj)
        have hb6 := hb4.kp (kp_same s6)
        have sub : ∀ x' y', ((x' ∈ [a, c].take i ∧ y' ∈ [a', c']) ∨ (x' = x ∧ y' ∈ [a', c'].take (j + 1))) → ((x' ∈ [a, c].take i ∧ y' ∈ [a', c']) ∨ (x' = x ∧ y' ∈ [a', c'].take j)) ∨ (x' = x ∧ y' = y) := fun x' y' z => by
          rcases z with z | ⟨z1, z2⟩
          · exact .inl (.inl z)
          · rw [take_succ hyj] at z2
            rcases List.mem_append.mp z2 with z2 | z2
            · exact .inl (.inr ⟨z1, z2⟩)
            · exact .inr ⟨z1, List.mem_singleton.mp z2⟩
        refine ⟨_, rfl, _, rfl, b, y, ws, rfl, hb6, ro.lt y hyr, _, rfl, _, rfl, b, x, ws, rfl, hb6, ro.lt x hxr, _, _, rfl, rfl, ?_⟩
        refine ⟨_, rfl, _, rfl, rfl, ?_⟩
        by_cases hxy : x = y
        · refine ⟨false, by rw [hxy]; simp, iteF (iteF ?_)⟩
          refine ⟨v, _, _, rfl, s6, ?_⟩
          rcases bd with ⟨z, h⟩ | ⟨t, h, p', q', z, h1, h2⟩
          · exact .inl ⟨z, fun x' y' hs => (sub x' y' hs).elim (h x' y') fun q => by rw [q.1, q.2, hxy]⟩
          · exact .inr ⟨t, h, p', q', z, h1, fun x' y' hs n => (sub x' y' hs).elim (fun q => h2 x' y' q n) fun q => (n (by rw [q.1, q.2, hxy])).elim⟩
        · have exy : (!decide (V.int (x : Int) = V.int (y : Int))) = true := by
            rw [decide_eq_false (fun z => by
              injection z with z
              exact hxy (by omega))] <;> rfl
          refine ⟨true, by rw [exy], iteT ⟨_, rfl, rfl, ?_⟩⟩
          -- the new pair
          have take : ∀ (S : Nat → Nat → Prop) t, H6 t = none → (∀ x' y', S x' y' → x' ≠ y' → laS ws y' - fiR ws x' ≤ laS ws y - fiR ws x) → (∀ x' y', ((x' ∈ [a, c].take i ∧ y' ∈ [a', c']) ∨ (x' = x ∧ y' ∈ [a', c'].take (j + 1))) → S x' y') →
              ∃ (v : V) (v6 v7 : Option V), ([some (.ref b), some (.ref r), some (.ref e), some (.ref l), some (.ref t), some (.int (x : Int)), some (.int (y : Int)), some (.int (laS ws y - fiR ws x))] : L2.St) = [some (.ref b), some (.ref r), some (.ref e), some (.ref l), some v, some (.int (x : Int)), v6, v7] ∧
              Same H4 (upd H6 t (.tup [.int (laS ws y - fiR ws x), .int (x : Int), .int (y : Int)])) ∧ Bd (fiR ws) (laS ws) (upd H6 t (.tup [.int (laS ws y - fiR ws x), .int (x : Int), .int (y : Int)])) v fun x' y => (x' ∈ [a, c].take i ∧ y ∈ [a', c']) ∨ (x' = x ∧ y ∈ [a', c'].take (j + 1)) :=
            fun S t ht h1 h2 => ⟨_, _, _, rfl, s6.trans (same_upd ht), .inr ⟨t, _, _, _, rfl, upd_same, fun x' y' z n => h1 x' y' (h2 x' y' z) n⟩⟩
          rcases bd with ⟨z, h⟩ | ⟨t, h, p', q', z, h1, h2⟩
          · subst z
            refine ⟨true, rfl, iteT (iteT ?_)⟩
            refine ⟨_, rfl, _, rfl, _, rfl, by show 3 ≤ sizeLine; decide, fun t ht => ?_⟩
            refine take _ t ht (fun x' y' hs n => ?_) sub
            rcases hs with hs | ⟨z1, z2⟩
            · exact (n (h x' y' hs)).elim
            · rw [z1, z2]
              exact Int.le_refl _
          · subst z
            refine ⟨false, rfl, iteF ?_⟩
            refine ⟨_, rfl, _, rfl, t, _, _, _, rfl, rfl, SqT.of h1, atI_nat (j := 0) rfl, _, _, rfl, rfl, _, rfl, if_b (fun hlt => ?_) fun hlt => ?_⟩
            · refine ⟨_, rfl, _, rfl, _, rfl, by show 3 ≤ sizeLine; decide, fun t ht => ?_⟩
              refine take _ t ht (fun x' y' hs n => ?_) sub
              rcases hs with hs | ⟨z1, z2⟩
              · have := h2 x' y' hs n
                omega
              · rw [z1, z2]
                exact Int.le_refl _
            · refine ⟨_, _, _, rfl, s6, .inr ⟨t, h, p', q', rfl, h1, fun x' y' hs n => ?_⟩⟩
              rcases sub x' y' hs with hs | ⟨z1, z2⟩
              · exact h2 x' y' hs n
              · rw [z1, z2]
                omega
      · rintro σ H6 ⟨v, v6, v7, rfl, s6, bd⟩
        refine ⟨v, _, _, _, rfl, s6, bd.kp (Kp.refl _) fun x' y z => ?_⟩
        rw [take_succ hxi] at z
        rcases List.mem_append.mp z.1 with z1 | z1
        · exact .inl ⟨z1, z.2⟩
        · exact .inr ⟨List.mem_singleton.mp z1, by
            rw [rowV_len, List.take_length]
            exact z.2⟩
    · rintro σ H5 ⟨v, v5, v6, v7, rfl, s5, bd⟩
      rw [rowV_len, List.take_length] at bd
      rcases bd with ⟨z, h⟩ | ⟨t, h, p', q', rfl, h1, h2⟩
      · exfalso
        have z1 := h a a' ⟨by simp, by simp⟩
        have z2 := h a c' ⟨by simp, by simp⟩
        exact hac' (z1.symm.trans z2)
      · exact ⟨_, rfl, k H5 t h p' q' (eN4.trans (extN_same s5)) (tabs_same hT4 s5) h1 (widest_fact (in1 a (by simp)) hE hL hac hac' h2)⟩
end
end K73
set_option Elab.async false
set_option linter.all false
set_option maxRecDepth 100000
set_option maxHeartbeats 4000000
/-! Regret, the three that go over the row. -/
namespace K73
open PySem PySem.Spec PyProof.Rows L2
/-- what worst_behind knows of row: by every place that begins a stretch to its end -/
def WbOk (f l : Nat → Int) (row : List Nat) (z : Int) : Prop := ∀ (n i j : Nat), row[n]? = some i → row.getLast? = some j → ∀ u ∈ row.drop n, ∀ v ∈ row.drop n, u ≠ v → f i - f u + l v - l j ≤ z
theorem reg_of {f l : Nat → Int} {o : List Nat} {z : Int} (h0 : 0 ≤ z) (h : ∀ n, 1 ≤ n → n < o.length → ∃ z', z' ≤ z ∧ WbOk f l (o.take (n + 1)) z') : RegOk f l o z := by
  refine ⟨h0, fun a s b i j u v he hi hj hu hv huv => ?_⟩
  have hs : 2 ≤ s.length := by
    cases s with
    | nil => cases hu
    | cons x s =>
      cases s with
      | nil => exact (huv ((List.mem_singleton.mp hu).trans (List.mem_singleton.mp hv).symm)).elim
      | cons y s => simp
  have hol : o.length = a.length + s.length + b.length := by rw [he, List.length_append, List.length_append]
  obtain ⟨z', h1, h2⟩ := h (a.length + s.length - 1) (by omega) (by omega)
  have et : o.take (a.length + s.length - 1 + 1) = a ++ s := by
    rw [show a.length + s.length - 1 + 1 = (a ++ s).length from by rw [List.length_append]; omega, he]
    exact List.take_left
  rw [et] at h2
  have hd : (a ++ s).drop a.length = s := List.drop_left
  have := h2 a.length i j (by
    rw [List.getElem?_append_right (Nat.le_refl _), Nat.sub_self, ← List.head?_eq_getElem?]
    exact hi) (by
    rw [List.getLast?_append, hj] <;> rfl) u (by rw [hd]; exact hu) v (by rw [hd]; exact hv) huv
  omega
theorem row_last {row : List Nat} {j : Nat} (h : row.getLast? = some j) : atI (rowV row) (-1) = some (.int (j : Int)) := by
  obtain ⟨r, e⟩ := List.getLast?_eq_some_iff.mp h
  rw [e]
  unfold rowV
  rw [List.map_append]
  exact atI_last _ _
section
variable {P : Program} {w : World} {K : PySem.W.Frag} {mg : Str → Option Value} {base : Heap}
theorem sc_worst_behind : FnScope (["book", "row", "best", "last", "place", "hours", "one", "other"] : List Str) (["book", "row"] : List Str) (defScope s_worst_behind) := ⟨rfl, rfl, rfl, by decide +kernel, rfl, by decide +kernel, by decide +kernel⟩
def sp_worst_behind (K : PySem.W.Frag) : Sp := fun vs H Q _ => ∃ (b r : Addr) (ws : List (Int × Int)) (row : List Nat), vs = [.ref b, .ref r] ∧ BookAt (CB K) H b ws ∧ H r = some (.tup (rowV row)) ∧ RowOk ws.length row ∧ 2 ≤ row.length ∧ LamX.Tabs (Tb K) H ∧
  ∀ H' t z q, LamX.ExtN H H' → LamX.Tabs (Tb K) H' → H' t = some (.tup [.int z, q]) → 0 ≤ z → WbOk (fiR ws) (laS ws) row z → Q (.ref t) H'
theorem ok_worst_behind (T : Tx K mg) (O : TabsOk K mg base) : Ok P w K mg base 6 "worst_behind" (["book", "row"] : List Str) (sp_worst_behind K) := by
  obtain ⟨fd_widest_of, G_widest_of, kp_widest_of, b_widest_of⟩ := ok_widest_of (P := P) (w := w) (base := base) T O
  obtain ⟨fd_first_of, G_first_of, kp_first_of, b_first_of⟩ := ok_first_of (P := P) (w := w) (base := base) T
  obtain ⟨fd_last_of, G_last_of, kp_last_of, b_last_of⟩ := ok_last_of (P := P) (w := w) (base := base) T
  refine ok_of T.F_worst_behind sc_worst_behind (fun vs H Q E h => ?_) (fun _ _ _ _ _ _ us hl => match us, hl with | [_, _], _ => rfl) (fun cdv A outer s H vs Q E hr h => ?_)
  · obtain ⟨b, r, ws, row, rfl, _⟩ := h
    rfl
  · obtain ⟨b, r, ws, row, rfl, hb, hx, ro, h2, hT, k⟩ := h
    have hfew := ro.few
    obtain ⟨j, hj⟩ : ∃ j, row.getLast? = some j := by
      cases e : row.getLast? with
      | none =>
        rw [List.getLast?_eq_none_iff] at e
        subst e
        exact absurd h2 (by decide)
      | some j => exact ⟨j, rfl⟩
    have hjr : j ∈ row := List.mem_of_getLast? hj
    refine ⟨_, (pss_cons (ps_set (i := 2) sc_worst_behind.nd rfl (Or.inl rfl) (pe_tup (pa_cons pe_int (pa_cons (pe_tup pa_nil) pa_nil))))
      (pss_cons (ps_set (i := 3) sc_worst_behind.nd rfl (Or.inl rfl) (pe_ix (ix_tupK (K := K) rfl) (pv 1) (pe_un un_neg pe_int) (fun _ _ => rfl)))
      (pss_cons (ps_for PassesOwn.never rfl (pi_range1 (by rfl) T.n_range (pa_cons (pe_op op_sub (pe_callB (call_len_seqK (K := K) rfl) (by rfl) T.n_len (by decide +kernel) (pa_cons (pv 1) pa_nil)) pe_int) pa_nil)) (pg_name (i := 4) sc_worst_behind.nd rfl (Or.inl rfl)) (pss_cons (ps_asg (pe_call G_widest_of (hr.mono (by decide)) (by rfl) T.g_widest_of kp_widest_of b_widest_of .nil pass0 (pa_cons (pv 0) (pa_cons (pe_slice sl_tupA (pv 1) (po_some (pv 4)) po_none) pa_nil))) (pg_tupK (K := K) (n := 3) rfl rfl (pgs_cons (pg_name (i := 5) sc_worst_behind.nd rfl (Or.inl rfl)) (pgs_cons (pg_name (i := 6) sc_worst_behind.nd rfl (Or.inl rfl)) (pgs_cons (pg_name (i := 7) sc_worst_behind.nd rfl (Or.inl rfl)) pgs_nil)))))
      (pss_cons (ps_aug (i := 5) sc_worst_behind.nd rfl (Or.inl rfl) (pe_op op_sub (pe_call G_first_of (hr.mono (by decide)) (by rfl) T.g_first_of kp_first_of b_first_of .nil pass0 (pa_cons (pv 0) (pa_cons (pe_ix (ix_tupK (K := K) rfl) (pv 1) (pv 4) (fun _ _ => rfl)) pa_nil))) (pe_call G_last_of (hr.mono (by decide)) (by rfl) T.g_last_of kp_last_of b_last_of .nil pass0 (pa_cons (pv 0) (pa_cons (pv 3) pa_nil)))) ip_add)
      (pss_one (ps_if (pt_cmpR op_gt (pv 5) (pe_ix (ix_tupK (K := K) rfl) (pv 2) pe_int (fun _ _ => rfl)) (nomark _)) (pss_one (ps_set (i := 2) sc_worst_behind.nd rfl (Or.inl rfl) (pe_tup (pa_cons (pv 5) (pa_cons (pe_tup (pa_cons (pe_ix (ix_tupK (K := K) rfl) (pv 1) (pv 4) (fun _ _ => rfl)) (pa_cons (pv 3) (pa_cons (pv 6) (pa_cons (pv 7) pa_nil))))) pa_nil))))) pss_nil)))))
      (pss_one (ps_ret (pv 2)))))), ?_⟩
    -- best = (0, ())
    refine ⟨Nat.zero_le _, fun e he => ⟨by show 2 ≤ sizeLine; decide, fun t0 ht0 => ?_⟩⟩
    have s0 : Same H (upd (upd H e (.tup [])) t0 (.tup [.int 0, .ref e])) := (same_upd he).trans (same_upd ht0)
    have ht1 : upd (upd H e (.tup [])) t0 (.tup [.int 0, .ref e]) t0 = some (.tup [.int 0, .ref e]) := upd_same
    show tSeq _ _ _ _ (upd (upd H e (.tup [])) t0 (.tup [.int 0, .ref e]))
    generalize upd (upd H e (.tup [])) t0 (.tup [.int 0, .ref e]) = H1 at s0 ht1 ⊢
    have hx1 := s0 _ _ hx
    refine ⟨_, rfl, _, rfl, r, _, _, _, rfl, rfl, SqT.of hx1, row_last hj, ?_⟩
    refine ⟨_, rfl, r, _, rfl, .inr (SqT.of hx1), _, _, rfl, rfl, _, rfl, by rw [rowV_len]; omega, by rw [rowV_len]; omega, ?_⟩
    have en : (((rowV row).length : Int) - 1).toNat = row.length - 1 := by rw [rowV_len]; omega
    rw [en]
    refine for_range (fun i σ H2 => ∃ (v4 v5 v6 v7 : Option V) (t : Addr) (z : Int) (q : V), σ = [some (.ref b), some (.ref r), some (.ref t), some (.int (j : Int)), v4, v5, v6, v7] ∧ LamX.ExtN H H2 ∧ LamX.Tabs (Tb K) H2 ∧ H2 t = some (.tup [.int z, q]) ∧ 0 ≤ z ∧
      ∀ n i', n < i → row[n]? = some i' → ∀ u ∈ row.drop n, ∀ v ∈ row.drop n, u ≠ v → fiR ws i' - fiR ws u + laS ws v - laS ws j ≤ z) ?_ ?_ ?_
    · exact ⟨_, _, _, _, t0, 0, _, rfl, extN_same s0, tabs_same hT s0, ht1, Int.le_refl _, fun n i' hn => absurd hn (Nat.not_lt_zero _)⟩
    · rintro i σ H2 hi ⟨v4, v5, v6, v7, t, z, q, rfl, eN, hT2, ht, hz, hall⟩
      have hx2 := eN _ _ hx fun ps z => nomatch z
      have hb2 := hb.kp (kp_extN eN)
      have hil : i < row.length := by omega
      have hig := List.getElem?_eq_getElem hil
      generalize row[i] = i' at hig
      have hir := List.mem_of_getElem? hig
      rw [show (0 : Int) + (i : Int) = (i : Int) from by omega]
      refine ⟨_, rfl, _, rfl, _, rfl, _, rfl, ?_⟩
      dsimp only [tNoPart]
      refine slA hx2 fun H3 p s3 hp => ?_
      rw [cut_drop (by omega)] at hp
      refine ⟨b, p, ws, row.drop i, rfl, hb2.kp (kp_same s3), hp, ⟨ro.nd.sublist (List.drop_sublist _ _), fun u hu => ro.lt u (List.mem_of_mem_drop hu), by rw [List.length_drop]; omega⟩, by rw [List.length_drop]; omega, tabs_same hT2 s3, fun H4 t4 h x y eN4 hT4 ht4 hw => ?_⟩
      have eN5 : LamX.ExtN H H4 := (eN.trans (extN_same s3)).trans eN4
      have hx4 := eN5 _ _ hx fun ps z => nomatch z
      have hb4 := hb.kp (kp_extN eN5)
      have htt : H4 t = some (.tup [.int z, q]) := eN4 _ _ (s3 _ _ ht) fun ps z => nomatch z
      refine ⟨t4, _, rfl, SqT.of ht4, rfl, _, _, rfl, _, _, rfl, _, _, rfl, rfl, ?_⟩
      refine ⟨_, rfl, _, rfl, _, rfl, _, rfl, r, _, _, _, rfl, rfl, SqT.of hx4, atI_nat (rowV_get hig), b, i', ws, rfl, hb4, ro.lt i' hir, _, rfl, _, rfl, b, j, ws, rfl, hb4, ro.lt j hjr, _, _, rfl, rfl, _, _, rfl, rfl, ?_⟩
      have new : ∀ n i'', n < i + 1 → row[n]? = some i'' → ∀ u ∈ row.drop n, ∀ v ∈ row.drop n, u ≠ v → fiR ws i'' - fiR ws u + laS ws v - laS ws j ≤ z ∨ fiR ws i'' - fiR ws u + laS ws v - laS ws j ≤ h + (fiR ws i' - laS ws j) := fun n i'' hn hi'' u hu v hv huv => by
        by_cases e : n = i
        · subst e
          rw [hig] at hi''
          cases hi''
          have := hw u hu v hv huv
          exact .inr (by omega)
        · exact .inl (hall n i'' (by omega) hi'' u hu v hv huv)
      refine ⟨_, rfl, _, rfl, t, _, _, _, rfl, rfl, SqT.of htt, atI_nat (j := 0) rfl, _, _, rfl, rfl, _, rfl, if_b (fun hlt => ?_) fun hlt => ?_⟩
      · have hlt : z < h + (fiR ws i' - laS ws j) := hlt
        refine ⟨_, rfl, _, rfl, _, rfl, r, _, _, _, rfl, rfl, SqT.of hx4, atI_nat (rowV_get hig), _, rfl, _, rfl, _, rfl, by show 4 ≤ sizeLine; decide, fun a ha => ⟨by show 2 ≤ sizeLine; decide, fun t' ht' => ?_⟩⟩
        have s6 := (same_upd (o := .tup [.int (i' : Int), .int (j : Int), .int x, .int y]) ha).trans (same_upd (o := .tup [.int (h + (fiR ws i' - laS ws j)), .ref a]) ht')
        refine ⟨_, _, _, _, t', h + (fiR ws i' - laS ws j), .ref a, rfl, eN5.trans (extN_same s6), tabs_same hT4 s6, upd_same, by omega, fun n i'' hn hi'' u hu v hv huv => ?_⟩
        rcases new n i'' hn hi'' u hu v hv huv with q | q <;> omega
      · have hlt : ¬ z < h + (fiR ws i' - laS ws j) := hlt
        refine ⟨_, _, _, _, t, z, q, rfl, eN5, hT4, htt, hz, fun n i'' hn hi'' u hu v hv huv => ?_⟩
        rcases new n i'' hn hi'' u hu v hv huv with q | q <;> omega
    · rintro σ H2 ⟨v4, v5, v6, v7, t, z, q, rfl, eN, hT2, ht, hz, hall⟩
      refine ⟨_, rfl, k H2 t z q eN hT2 ht hz fun n i' j' hi' hj' u hu v hv huv => ?_⟩
      rw [hj] at hj'
      cases hj'
      refine hall n i' ?_ hi' u hu v hv huv
      refine Nat.lt_of_not_le fun hn => huv ?_
      have hl : (row.drop n).length ≤ 1 := by rw [List.length_drop]; omega
      cases e : row.drop n with
      | nil => rw [e] at hu; cases hu
      | cons x s =>
        rw [e] at hu hv hl
        have : s = [] := List.length_eq_zero_iff.mp (by
          have : s.length + 1 ≤ 1 := hl
          omega)
        subst this
        exact (List.mem_singleton.mp hu).trans (List.mem_singleton.mp hv).symm
theorem sc_regret_in : FnScope (["book", "order", "best", "place", "found"] : List Str) (["book", "order"] : List Str) (defScope s_regret_in) := ⟨rfl, rfl, rfl, by decide +kernel, rfl, by decide +kernel, by decide +kernel⟩
def sp_regret_in (K : PySem.W.Frag) : Sp := fun vs H Q _ => ∃ (b r : Addr) (ws : List (Int × Int)) (row : List Nat), vs = [.ref b, .ref r] ∧ BookAt (CB K) H b ws ∧ H r = some (.tup (rowV row)) ∧ RowOk ws.length row ∧ LamX.Tabs (Tb K) H ∧
  ∀ H' t z q, LamX.ExtN H H' → LamX.Tabs (Tb K) H' → H' t = some (.tup [.int z, q]) → RegOk (fiR ws) (laS ws) row z → Q (.ref t) H'
theorem ok_regret_in (T : Tx K mg) (O : TabsOk K mg base) : Ok P w K mg base 7 "regret_in" (["book", "order"] : List Str) (sp_regret_in K) := by
  obtain ⟨fd_worst_behind, G_worst_behind, kp_worst_behind, b_worst_behind⟩ := ok_worst_behind (P := P) (w := w) (base := base) T O
  refine ok_of T.F_regret_in sc_regret_in (fun vs H Q E h => ?_) (fun _ _ _ _ _ _ us hl => match us, hl with | [_, _], _ => rfl) (fun cdv A outer s H vs Q E hr h => ?_)
  · obtain ⟨b, r, ws, row, rfl, _⟩ := h
    rfl
  · obtain ⟨b, r, ws, row, rfl, hb, hx, ro, hT, k⟩ := h
    have hfew := ro.few
    refine ⟨_, (pss_cons (ps_set (i := 2) sc_regret_in.nd rfl (Or.inl rfl) (pe_tup (pa_cons pe_int (pa_cons (pe_tup pa_nil) pa_nil))))
      (pss_cons (ps_for PassesOwn.never rfl (pi_range2 (by rfl) T.n_range (pa_cons pe_int (pa_cons (pe_callB (call_len_seqK (K := K) rfl) (by rfl) T.n_len (by decide +kernel) (pa_cons (pv 1) pa_nil)) pa_nil))) (pg_name (i := 3) sc_regret_in.nd rfl (Or.inl rfl)) (pss_cons (ps_set (i := 4) sc_regret_in.nd rfl (Or.inl rfl) (pe_call G_worst_behind (hr.mono (by decide)) (by rfl) T.g_worst_behind kp_worst_behind b_worst_behind .nil pass0 (pa_cons (pv 0) (pa_cons (pe_slice sl_tupA (pv 1) po_none (po_some (pe_op op_add (pv 3) pe_int))) pa_nil))))
      (pss_one (ps_if (pt_cmpR op_gt (pe_ix (ix_tupK (K := K) rfl) (pv 4) pe_int (fun _ _ => rfl)) (pe_ix (ix_tupK (K := K) rfl) (pv 2) pe_int (fun _ _ => rfl)) (nomark _)) (pss_one (ps_set (i := 2) sc_regret_in.nd rfl (Or.inl rfl) (pv 4))) pss_nil))))
      (pss_one (ps_ret (pv 2))))), ?_⟩
    refine ⟨Nat.zero_le _, fun e he => ⟨by show 2 ≤ sizeLine; decide, fun t0 ht0 => ?_⟩⟩
    have s0 : Same H (upd (upd H e (.tup [])) t0 (.tup [.int 0, .ref e])) := (same_upd he).trans (same_upd ht0)
    have ht1 : upd (upd H e (.tup [])) t0 (.tup [.int 0, .ref e]) t0 = some (.tup [.int 0, .ref e]) := upd_same
    show tSeq _ _ _ _ (upd (upd H e (.tup [])) t0 (.tup [.int 0, .ref e]))
    generalize upd (upd H e (.tup [])) t0 (.tup [.int 0, .ref e]) = H1 at s0 ht1 ⊢
    have hx1 := s0 _ _ hx
    refine ⟨_, rfl, r, _, rfl, .inr (SqT.of hx1), _, _, rfl, ⟨by decide, by decide, by rw [rowV_len]; omega, by rw [rowV_len]; omega⟩, ?_⟩
    have en : (((rowV row).length : Int) - 1).toNat = row.length - 1 := by rw [rowV_len]; omega
    rw [en]
    refine for_range (fun i σ H2 => ∃ (v3 v4 : Option V) (t : Addr) (z : Int) (q : V), σ = [some (.ref b), some (.ref r), some (.ref t), v3, v4] ∧ LamX.ExtN H H2 ∧ LamX.Tabs (Tb K) H2 ∧ H2 t = some (.tup [.int z, q]) ∧ 0 ≤ z ∧
      ∀ n, 1 ≤ n → n < i + 1 → ∃ z', z' ≤ z ∧ WbOk (fiR ws) (laS ws) (row.take (n + 1)) z') ?_ ?_ ?_
    · exact ⟨_, _, t0, 0, _, rfl, extN_same s0, tabs_same hT s0, ht1, Int.le_refl _, fun n h1 h2 => by omega⟩
    · rintro i σ H2 hi ⟨v3, v4, t, z, q, rfl, eN, hT2, ht, hz, hall⟩
      have hx2 := eN _ _ hx fun ps z => nomatch z
      have hb2 := hb.kp (kp_extN eN)
      refine ⟨_, rfl, _, rfl, _, rfl, _, _, rfl, rfl, _, rfl, ?_⟩
      dsimp only []
      refine slA hx2 fun H3 p s3 hp => ?_
      rw [show (1 : Int) + (i : Int) + 1 = ((i + 2 : Nat) : Int) from by omega, cut_take (by omega)] at hp
      refine ⟨b, p, ws, row.take (i + 2), rfl, hb2.kp (kp_same s3), hp, ⟨ro.nd.sublist (List.take_sublist _ _), fun u hu => ro.lt u (List.mem_of_mem_take hu), by rw [List.length_take]; omega⟩, by rw [List.length_take]; omega, tabs_same hT2 s3, fun H4 t4 z4 q4 eN4 hT4 ht4 hz4 hw => ?_⟩
      have eN5 : LamX.ExtN H H4 := (eN.trans (extN_same s3)).trans eN4
      have htt : H4 t = some (.tup [.int z, q]) := eN4 _ _ (s3 _ _ ht) fun ps z => nomatch z
      refine ⟨_, rfl, t4, _, _, _, rfl, rfl, SqT.of ht4, atI_nat (j := 0) rfl, _, rfl, t, _, _, _, rfl, rfl, SqT.of htt, atI_nat (j := 0) rfl, _, _, rfl, rfl, _, rfl, if_b (fun hlt => ?_) fun hlt => ?_⟩
      · refine ⟨_, rfl, _, _, t4, z4, q4, rfl, eN5, hT4, ht4, hz4, fun n h1 h2 => ?_⟩
        by_cases e : n = i + 1
        · subst e
          exact ⟨z4, Int.le_refl _, hw⟩
        · obtain ⟨z', g1, g2⟩ := hall n h1 (by omega)
          exact ⟨z', by omega, g2⟩
      · refine ⟨_, _, t, z, q, rfl, eN5, hT4, htt, hz, fun n h1 h2 => ?_⟩
        by_cases e : n = i + 1
        · subst e
          exact ⟨z4, by omega, hw⟩
        · exact hall n h1 (by omega)
    · rintro σ H2 ⟨v3, v4, t, z, q, rfl, eN, hT2, ht, hz, hall⟩
      exact ⟨_, rfl, k H2 t z q eN hT2 ht (reg_of hz fun n h1 h2 => hall n h1 (by omega))⟩
theorem sc_regret : FnScope (["book", "order"] : List Str) (["book", "order"] : List Str) (defScope s_regret) := ⟨rfl, rfl, rfl, by decide +kernel, rfl, by decide +kernel, by decide +kernel⟩
def sp_regret (K : PySem.W.Frag) : Sp := fun vs H Q _ => ∃ (b r : Addr) (ws : List (Int × Int)) (row : List Nat), vs = [.ref b, .ref r] ∧ BookAt (CB K) H b ws ∧ H r = some (.tup (rowV row)) ∧ RowOk ws.length row ∧ row.length = ws.length ∧ LamX.Tabs (Tb K) H ∧
  ∀ H' z, LamX.ExtN H H' → LamX.Tabs (Tb K) H' → RegOk (fiR ws) (laS ws) row z → Q (.int z) H'
theorem ok_regret (T : Tx K mg) (O : TabsOk K mg base) : Ok P w K mg base 8 "regret" (["book", "order"] : List Str) (sp_regret K) := by
  obtain ⟨fd_regret_in, G_regret_in, kp_regret_in, b_regret_in⟩ := ok_regret_in (P := P) (w := w) (base := base) T O
  obtain ⟨fd_check_order, G_check_order, kp_check_order, b_check_order⟩ := ok_check_order (P := P) (w := w) (base := base) T
  refine ok_of T.F_regret sc_regret (fun vs H Q E h => ?_) (fun _ _ _ _ _ _ us hl => match us, hl with | [_, _], _ => rfl) (fun cdv A outer s H vs Q E hr h => ?_)
  · obtain ⟨b, r, ws, row, rfl, _⟩ := h
    rfl
  · obtain ⟨b, r, ws, row, rfl, hb, hx, ro, hl, hT, k⟩ := h
    refine ⟨_, (pss_cons (ps_expr (pe_call G_check_order (hr.mono (by decide)) (by rfl) T.g_check_order kp_check_order b_check_order .nil pass0 (pa_cons (pv 0) (pa_cons (pv 1) pa_nil))))
      (pss_one (ps_ret (pe_ix (ix_tupK (K := K) rfl) (pe_call G_regret_in (hr.mono (by decide)) (by rfl) T.g_regret_in kp_regret_in b_regret_in .nil pass0 (pa_cons (pv 0) (pa_cons (pv 1) pa_nil))) pe_int (fun _ _ => rfl))))), ?_⟩
    refine ⟨_, rfl, _, rfl, b, r, ws, row, rfl, hb, hx, ro, hl, fun H1 s1 => ?_⟩
    refine ⟨_, rfl, _, rfl, b, r, ws, row, rfl, hb.kp (kp_same s1), s1 _ _ hx, ro, tabs_same hT s1, fun H2 t z q eN hT2 ht hz => ?_⟩
    exact ⟨t, _, _, _, rfl, rfl, SqT.of ht, atI_nat (j := 0) rfl, k H2 z ((extN_same s1).trans eN) hT2 hz⟩
end
end K73
set_option Elab.async false
set_option linter.all false
set_option maxRecDepth 100000
set_option maxHeartbeats 4000000
/-! The law's pool and its draws. -/
namespace K73
open PySem PySem.Spec PyProof.Rows L2
/-- the pool at p, its cells at c -/
def PoolAt (H : Hp) (p c : Addr) : Prop := ∃ (s n : Int) (cs : List Int), H p = some (.lst [.int s, .int n, .ref c]) ∧ H c = some (.lst (cs.map V.int))
/-- all but the pool and its cells stay -/
def Oth (p c : Addr) (H H' : Hp) : Prop := ∀ b o, b ≠ p → b ≠ c → H b = some o → H' b = some o
theorem Oth.refl {p c : Addr} {H : Hp} : Oth p c H H := fun _ _ _ _ h => h
theorem Oth.trans {p c : Addr} {H H1 H2 : Hp} (a : Oth p c H H1) (b : Oth p c H1 H2) : Oth p c H H2 := fun d o n m h => b _ _ n m (a _ _ n m h)
theorem Oth.of {p c : Addr} {H H1 : Hp} (s : Same H H1) : Oth p c H H1 := fun b o _ _ h => s b o h
theorem Oth.same {p c : Addr} {H H1 H2 : Hp} (a : Oth p c H H1) (s : Same H1 H2) : Oth p c H H2 := a.trans (Oth.of s)
theorem PoolAt.same {H H' : Hp} {p c : Addr} (h : PoolAt H p c) (s : Same H H') : PoolAt H' p c := by
  obtain ⟨a, b, cs, h1, h2⟩ := h
  exact ⟨a, b, cs, s _ _ h1, s _ _ h2⟩
theorem PoolAt.ne {H : Hp} {p c b : Addr} {o : HO} (h : PoolAt H p c) (e : H b = some o) (n : ∀ xs, o ≠ .lst xs) : b ≠ p ∧ b ≠ c := by
  obtain ⟨s, m, cs, h1, h2⟩ := h
  exact ⟨ne_of e h1 (n _), ne_of e h2 (n _)⟩
theorem PoolAt.new {H : Hp} {p c b : Addr} (h : PoolAt H p c) (e : H b = none) : b ≠ p ∧ b ≠ c := by
  obtain ⟨s, m, cs, h1, h2⟩ := h
  exact ⟨(ne_of_none h1 e).symm, (ne_of_none h2 e).symm⟩
theorem Oth.keep {H H' : Hp} {p c b : Addr} {o : HO} (s : Oth p c H H') (h : PoolAt H p c) (e : H b = some o) (n : ∀ xs, o ≠ .lst xs) : H' b = some o := s b o (h.ne e n).1 (h.ne e n).2 e
theorem Oth.kp {H H' : Hp} {p c : Addr} (s : Oth p c H H') (h : PoolAt H p c) : Kp H H' := fun b o e i => s.keep h e fun xs z => by
  subst z
  exact i
theorem Oth.tabs {H H' : Hp} {p c : Addr} {T : List (Addr × Str)} (s : Oth p c H H') (h : PoolAt H p c) (t : LamX.Tabs T H) : LamX.Tabs T H' := fun q hq => by
  obtain ⟨ps, h1, h2, h3⟩ := t q hq
  refine ⟨ps, s.keep h h1 fun _ z => (nomatch z), h2, fun pos cv hc => ?_⟩
  obtain ⟨d, e1, e2⟩ := h3 pos cv hc
  exact ⟨d, e1, s.keep h e2 fun _ z => (nomatch z)⟩
/-- a list made since is written -/
theorem Oth.wr {H H' : Hp} {p c f : Addr} {o : HO} (s : Oth p c H H') (hf : H f = none) : Oth p c H (upd H' f o) := fun b u n m e => by
  rw [upd_ne (ne_of_none e hf)]
  exact s b u n m e
theorem PoolAt.wr {H : Hp} {p c f : Addr} {o : HO} (h : PoolAt H p c) (hf : f ≠ p ∧ f ≠ c) : PoolAt (upd H f o) p c := by
  obtain ⟨s, n, cs, h1, h2⟩ := h
  exact ⟨s, n, cs, by rw [upd_ne hf.1.symm]; exact h1, by rw [upd_ne hf.2.symm]; exact h2⟩
theorem log_ok {m : Int} (h0 : 0 < m) (h : m ≤ 10 ^ 40) : m.natAbs.log2 < 9000 := by
  have h1 : m.natAbs ≤ 10 ^ 40 := by omega
  exact Nat.lt_trans ((Nat.log2_lt (k := 200) (by omega)).mpr (Nat.lt_of_le_of_lt h1 (by decide))) (by decide)
theorem ix0 (n : Nat) : ixN (n + 1) 0 = some 0 := by
  unfold ixN
  rw [if_pos (by omega), if_pos (by omega)] <;> rfl
theorem cut_ints (ns : List Int) (lo hi : Option Int) : ∃ ms : List Int, cutV (ns.map V.int) lo hi = ms.map V.int ∧ ms.length ≤ ns.length := by
  unfold cutV
  refine ⟨(ns.drop (HT.sIx (ns.map V.int).length 0 lo)).take (HT.sIx (ns.map V.int).length (ns.map V.int).length hi - HT.sIx (ns.map V.int).length 0 lo), by rw [List.map_take, List.map_drop], ?_⟩
  rw [List.length_take, List.length_drop]
  omega
theorem big_fm (m : Int) : ∀ ns : List Int, ∃ cs : List Int, (ns.map V.int).filterMap (fun v => match v with | .int i => if decide (m ≤ (if i < 0 then -i else i)) = true then some (V.int (if i < 0 then -i else i)) else none | _ => none) = cs.map V.int
  | [] => ⟨[], rfl⟩
  | i :: ns => by
    obtain ⟨cs, e⟩ := big_fm m ns
    rw [List.map_cons, List.filterMap_cons, e]
    by_cases h : m ≤ (if i < 0 then -i else i)
    · simp only [h, decide_true, if_true]
      exact ⟨_ :: cs, rfl⟩
    · simp only [h, decide_false, if_false]
      exact ⟨cs, rfl⟩
section
variable {P : Program} {w : World} {K : PySem.W.Frag} {mg : Str → Option Value} {base : Heap}
theorem sc_w_pool : FnScope (["_law_script", "_law_seed", "_law_cell"] : List Str) (["_law_script"] : List Str) (defScope s_w_pool) := ⟨rfl, rfl, rfl, by decide +kernel, rfl, by decide +kernel, by decide +kernel⟩
def sp_w_pool (K : PySem.W.Frag) : Sp := fun vs H Q _ => ∃ (a : Addr) (ns : List Int), vs = [.ref a] ∧ SqL K H a (ns.map V.int) ∧ ns.length ≤ 1000 ∧ ∀ H' p c, Same H H' → PoolAt H' p c → Q (.ref p) H'
theorem ok_w_pool (T : Tx K mg) : Ok P w K mg base 1 "_law_pool" (["_law_script"] : List Str) (sp_w_pool K) := by
  refine ok_of T.F_w_pool sc_w_pool (fun vs H Q E h => ?_) (fun _ _ _ _ _ _ us hl => match us, hl with | [_], _ => rfl) (fun cdv A outer s H vs Q E hr h => ?_)
  · obtain ⟨a, ns, rfl, _⟩ := h
    rfl
  · obtain ⟨a, ns, rfl, hx, hn, k⟩ := h
    refine ⟨_, (pss_cons (ps_set (i := 1) sc_w_pool.nd rfl (Or.inl rfl) (pe_op op_add (pe_op op_add (pe_op op_mod (pe_callTy call_int1 (by rfl) T.n_int (by decide +kernel) (pa_cons (pe_callB (cr_sum rfl) (by rfl) T.n_sum (by decide +kernel) (pa_cons (pe_slice sl_list (pv 0) po_none (po_some pe_int)) pa_nil)) pa_nil)) pe_int) (pe_callB (call_len_seqK (K := K) rfl) (by rfl) T.n_len (by decide +kernel) (pa_cons (pv 0) pa_nil))) pe_int))
      (pss_cons (ps_for PassesOwn.never rfl (pi_list (pe_slice sl_list (pv 0) po_none (po_some pe_int))) (pg_name (i := 2) sc_w_pool.nd rfl (Or.inl rfl)) (pss_one (ps_set (i := 1) sc_w_pool.nd rfl (Or.inl rfl) (pe_op op_mod (pe_callTy call_int1 (by rfl) T.n_int (by decide +kernel) (pa_cons (pe_op op_add (pe_op op_add (pe_op op_mul (pv 1) pe_int) (pe_op op_mod (pe_callTy call_int1 (by rfl) T.n_int (by decide +kernel) (pa_cons (pv 2) pa_nil)) pe_int)) pe_int) pa_nil)) pe_int))))
      (pss_one (ps_ret (pe_lst (pa_cons (pv 1) (pa_cons pe_int (pa_cons (pe_lc (own := [("_law_cell", 2)]) rfl sc_w_pool.nd (pi_list (pe_slice sl_list (pv 0) po_none (po_some pe_int))) (blkOk_by (own := [("_law_cell", 2)]) (N := (["_law_script", "_law_seed", "_law_cell"] : List Str)) (sc := defScope s_w_pool) (by decide +kernel)) (fun _ _ _ _ _ => (pg_name (i := 2) sc_w_pool.nd rfl (Or.inl rfl))) (fun _ _ _ _ _ => (pts_one (pt_cmpR op_ge (pe_callB call_abs (by rfl) T.n_abs (by decide +kernel) (pa_cons (pv 2) pa_nil)) (pe_op op_pow pe_int pe_int) (nomark _)))) (fun _ _ _ _ _ => (pe_callB call_abs (by rfl) T.n_abs (by decide +kernel) (pa_cons (pv 2) pa_nil)))) pa_nil)))))))), ?_⟩
    obtain ⟨m1, e1, _⟩ := cut_ints ns none (some 1)
    obtain ⟨m2, e2, hl2⟩ := cut_ints ns none (some 63)
    refine ⟨_, rfl, _, rfl, a, _, rfl, hx, fun q hq => ⟨q, m1, rfl, SqL.of (by rw [upd_same, e1]), ?_⟩⟩
    have s1 : Same H (upd H q (.lst (cutV (ns.map V.int) none (some 1)))) := same_upd hq
    generalize upd H q (.lst (cutV (ns.map V.int) none (some 1))) = H1 at s1 ⊢
    refine .inl ⟨_, rfl, _, _, rfl, rfl, by show (0 : Int) < _; decide, ?_⟩
    refine ⟨_, rfl, a, _, rfl, .inl (s1.seq hx), _, _, rfl, rfl, _, _, rfl, rfl, ?_⟩
    -- the loop
    refine ⟨_, rfl, _, rfl, a, _, rfl, s1.seq hx, fun q2 hq2 => ?_⟩
    rw [e2]
    have s2 : Same H1 (upd H1 q2 (.lst (m2.map V.int))) := same_upd hq2
    have h2 : upd H1 q2 (.lst (m2.map V.int)) q2 = some (.lst (m2.map V.int)) := upd_same
    refine ⟨q2, rfl, ⟨_, SqL.of h2⟩, for_list (xs := m2.map V.int) (fun i σ H3 => ∃ (sd : Int) (cv : Option V), σ = [some (.ref a), some (.int sd), cv] ∧ H3 = upd H1 q2 (.lst (m2.map V.int))) ?_ ?_ ?_ ?_⟩
    · exact ⟨_, _, rfl, rfl⟩
    · rintro i σ H3 _ ⟨sd, cv, rfl, rfl⟩
      exact SqL.of h2
    · rintro i x σ H3 hi ⟨sd, cv, rfl, rfl⟩
      obtain ⟨z, hz, rfl⟩ := List.mem_map.mp (List.mem_of_getElem? hi)
      refine ⟨_, rfl, _, _, rfl, rfl, .inr ⟨by decide, by decide⟩, _, rfl, .inl ⟨_, rfl, _, _, rfl, rfl, by show (0 : Int) < _; decide, _, _, rfl, rfl, _, _, rfl, rfl, .inl ⟨_, rfl, _, _, rfl, rfl, by show (0 : Int) < _; decide, ?_⟩⟩⟩
      exact ⟨_, _, rfl, rfl⟩
    · rintro σ H3 ⟨sd, cv, rfl, rfl⟩
      have s3 := s1.trans s2
      generalize upd H1 q2 (.lst (m2.map V.int)) = H3 at s3 ⊢
      refine ⟨_, rfl, _, rfl, _, rfl, a, _, rfl, s3.seq hx, fun q3 hq3 => ?_⟩
      rw [e2]
      have s4 : Same H3 (upd H3 q3 (.lst (m2.map V.int))) := same_upd hq3
      have h4 : upd H3 q3 (.lst (m2.map V.int)) q3 = some (.lst (m2.map V.int)) := upd_same
      generalize upd H3 q3 (.lst (m2.map V.int)) = H4 at s4 h4 ⊢
      refine ⟨q3, rfl, ⟨_, SqL.of h4⟩, fun D hD => lcr_list (fun v => match v with | .int i => if decide (((10 : Int) ^ (18 : Int).toNat) ≤ (if i < 0 then -i else i)) = true then some (V.int (if i < 0 then -i else i)) else none | _ => none) (SqL.of h4) hD (by rw [List.length_map]; omega) (fun y hy => ?_) fun H5 s5 hD5 => ?_⟩
      · obtain ⟨z, hz, rfl⟩ := List.mem_map.mp hy
        refine turnT (b := decide (((10 : Int) ^ (18 : Int).toNat) ≤ (if z < 0 then -z else z))) rfl (fun H6 sm Qb kb => ?_) fun hb H6 sm Qy ky => ?_
        · exact ⟨_, rfl, _, rfl, _, _, rfl, rfl, ⟨by decide, by decide, by decide⟩, _, _, rfl, rfl, _, rfl, kb _ (Same.refl _)⟩
        · exact ⟨_, rfl, _, rfl, ky _ (Same.refl _)⟩
      · obtain ⟨cs, ec⟩ := big_fm ((10 : Int) ^ (18 : Int).toNat) m2
        rw [ec] at hD5
        refine ⟨by show 3 ≤ sizeLine; decide, fun p hp => k _ p D (((s3.trans s4).trans s5).trans (same_upd hp)) ⟨sd, 0, cs, upd_same, ?_⟩⟩
        rw [upd_ne (ne_of_none hD5 hp)]
        exact hD5
theorem sc_w_draw : FnScope (["_law_pool_here", "_law_many", "_law_cells", "_law_digit", "_law_mixed"] : List Str) (["_law_pool_here", "_law_many"] : List Str) (defScope s_w_draw) := ⟨rfl, rfl, rfl, by decide +kernel, rfl, by decide +kernel, by decide +kernel⟩
def sp_w_draw : Sp := fun vs H Q _ => ∃ (p c : Addr) (m : Int), vs = [.ref p, .int m] ∧ PoolAt H p c ∧ 0 < m ∧ m ≤ 10 ^ 40 ∧ ∀ H' d, Oth p c H H' → PoolAt H' p c → 0 ≤ d → d < m → Q (.int d) H'
theorem ok_w_draw (T : Tx K mg) : Ok P w K mg base 1 "_law_draw" (["_law_pool_here", "_law_many"] : List Str) sp_w_draw := by
  refine ok_of T.F_w_draw sc_w_draw (fun vs H Q E h => ?_) (fun _ _ _ _ _ _ us hl => match us, hl with | [_, _], _ => rfl) (fun cdv A outer s H vs Q E hr h => ?_)
  · obtain ⟨p, c, m, rfl, _⟩ := h
    rfl
  · obtain ⟨p, c, m, rfl, ⟨sd, n, cs, hp, hc⟩, h0, hm, k⟩ := h
    have hpc : c ≠ p := by
      rintro rfl
      rw [hp] at hc
      cases cs with
      | nil => cases hc
      | cons a cs =>
        cases cs with
        | nil => cases hc
        | cons b cs =>
          cases cs with
          | nil => cases hc
          | cons d cs => cases hc
    refine ⟨_, (pss_cons (ps_asg (pe_op op_add (pe_ix (ix_listK (K := K) rfl) (pv 0) pe_int (fun _ _ => rfl)) pe_int) (pg_sub (pv 0) pe_int set_list))
      (pss_cons (ps_set (i := 2) sc_w_draw.nd rfl (Or.inl rfl) (pe_ix (ix_listK (K := K) rfl) (pv 0) pe_int (fun _ _ => rfl)))
      (pss_cons (ps_if (pt_cmpR op_gt (pe_callB (call_len_seqK (K := K) rfl) (by rfl) T.n_len (by decide +kernel) (pa_cons (pv 2) pa_nil)) pe_int (nomark _)) (pss_cons (ps_set (i := 3) sc_w_draw.nd rfl (Or.inl rfl) (pe_op op_mod (pe_callTy call_int1 (by rfl) T.n_int (by decide +kernel) (pa_cons (pe_ix (ix_listK (K := K) rfl) (pv 2) pe_int (fun _ _ => rfl)) pa_nil)) (pv 1)))
      (pss_cons (ps_asg (pe_op op_fdivW (pe_callTy call_int1 (by rfl) T.n_int (by decide +kernel) (pa_cons (pe_ix (ix_listK (K := K) rfl) (pv 2) pe_int (fun _ _ => rfl)) pa_nil)) (pv 1)) (pg_sub (pv 2) pe_int set_list))
      (pss_cons (ps_if (pt_cmpR op_eq (pe_ix (ix_listK (K := K) rfl) (pv 2) pe_int (fun _ _ => rfl)) pe_int (nomark _)) (pss_one (ps_expr (pe_bmK (K := K) rfl PySem.F.plainAttrs_list PySem.F.slot_list_pop PySem.F.type_list_pop mt_popAt (pv 2) (pa_cons pe_int pa_nil)))) pss_nil)
      (pss_one (ps_ret (pv 3)))))) pss_nil)
      (pss_cons (ps_set (i := 4) sc_w_draw.nd rfl (Or.inl rfl) (pe_op op_mod (pe_callTy call_int1 (by rfl) T.n_int (by decide +kernel) (pa_cons (pe_op op_mul (pe_op op_add (pe_ix (ix_listK (K := K) rfl) (pv 0) pe_int (fun _ _ => rfl)) (pe_op op_mul pe_int (pe_ix (ix_listK (K := K) rfl) (pv 0) pe_int (fun _ _ => rfl)))) pe_int) pa_nil)) pe_int))
      (pss_cons (ps_set (i := 4) sc_w_draw.nd rfl (Or.inl rfl) (pe_op op_mod (pe_callTy call_int1 (by rfl) T.n_int (by decide +kernel) (pa_cons (pe_op op_mul (pv 4) (pe_op op_add (pe_op op_fdiv (pv 4) pe_int) pe_int)) pa_nil)) pe_int))
      (pss_cons (ps_set (i := 4) sc_w_draw.nd rfl (Or.inl rfl) (pe_op op_mod (pe_callTy call_int1 (by rfl) T.n_int (by decide +kernel) (pa_cons (pe_op op_mul (pv 4) (pe_op op_add (pe_op op_fdiv (pv 4) pe_int) pe_int)) pa_nil)) pe_int))
      (pss_one (ps_ret (pe_op op_mod (pe_callTy call_int1 (by rfl) T.n_int (by decide +kernel) (pa_cons (pe_op op_fdiv (pv 4) pe_int) pa_nil)) (pv 1)))))))))), ?_⟩
    refine ⟨_, rfl, p, _, _, _, rfl, rfl, SqL.of hp, atI_nat (j := 1) rfl, _, _, rfl, rfl, _, rfl, p, _, _, 1, rfl, rfl, hp, rfl, ?_⟩
    have hp1 : upd H p (.lst [.int sd, .int (n + 1), .ref c]) p = some (.lst [.int sd, .int (n + 1), .ref c]) := upd_same
    have hc1 : upd H p (.lst [.int sd, .int (n + 1), .ref c]) c = some (.lst (cs.map V.int)) := by rw [upd_ne hpc]; exact hc
    have o1 : Oth p c H (upd H p (.lst [.int sd, .int (n + 1), .ref c])) := fun b o n1 n2 e => by rw [upd_ne n1]; exact e
    show tSeq _ _ _ _ (upd H p (.lst [.int sd, .int (n + 1), .ref c]))
    generalize upd H p (.lst [.int sd, .int (n + 1), .ref c]) = H1 at hp1 hc1 o1 ⊢
    refine ⟨_, rfl, p, _, _, _, rfl, rfl, SqL.of hp1, atI_nat (j := 2) rfl, ?_⟩
    refine ⟨_, rfl, c, _, rfl, .inl (SqL.of hc1), _, _, rfl, rfl, _, rfl, if_b (fun hpos => ?_) fun hpos => ?_⟩
    · cases cs with
      | nil => exact absurd hpos (by decide)
      | cons z cs =>
        have d0 := Int.emod_nonneg z (by omega : m ≠ 0)
        have d1 := Int.emod_lt_of_pos z h0
        refine ⟨_, rfl, c, _, _, _, rfl, rfl, SqL.of hc1, atI_nat (j := 0) rfl, .inl ⟨_, rfl, _, rfl, _, _, rfl, rfl, h0, ?_⟩⟩
        refine ⟨_, rfl, c, _, _, _, rfl, rfl, SqL.of hc1, atI_nat (j := 0) rfl, .inl ⟨_, rfl, _, rfl, _, _, rfl, rfl, ⟨h0, log_ok h0 hm⟩, _, rfl, c, _, _, 0, rfl, rfl, hc1, ix0 _, ?_⟩⟩
        have hc2 : upd H1 c (.lst ((z / m :: cs).map V.int)) c = some (.lst ((z / m :: cs).map V.int)) := upd_same
        have hp2 : upd H1 c (.lst ((z / m :: cs).map V.int)) p = some (.lst [.int sd, .int (n + 1), .ref c]) := by rw [upd_ne hpc.symm]; exact hp1
        have o2 : Oth p c H (upd H1 c (.lst ((z / m :: cs).map V.int))) := fun b o n1 n2 e => by rw [upd_ne n2]; exact o1 b o n1 n2 e
        show tSeq _ _ _ _ (upd H1 c (.lst ((z / m :: cs).map V.int)))
        generalize upd H1 c (.lst ((z / m :: cs).map V.int)) = H2 at hc2 hp2 o2 ⊢
        refine ⟨_, rfl, c, _, _, _, rfl, rfl, SqL.of hc2, atI_nat (j := 0) rfl, rfl, _, rfl, if_b (fun hz => ?_) fun hz => ?_⟩
        · refine ⟨_, rfl, .inl ⟨rfl, _, SqL.of hc2⟩, c, _, 0, 0, _, rfl, rfl, hc2, by decide, by decide, (ixN_seq (ix0 _)).1, rfl, ?_⟩
          refine ⟨_, rfl, k _ _ (fun b o n1 n2 e => by rw [upd_ne n2]; exact o2 b o n1 n2 e) ⟨sd, n + 1, cs, by rw [upd_ne hpc.symm]; exact hp2, upd_same⟩ d0 d1⟩
        · exact ⟨_, rfl, k _ _ o2 ⟨sd, n + 1, z / m :: cs, hp2, hc2⟩ d0 d1⟩
    · refine ⟨_, rfl, p, _, _, _, rfl, rfl, SqL.of hp1, atI_nat (j := 0) rfl, _, rfl, p, _, _, _, rfl, rfl, SqL.of hp1, atI_nat (j := 1) rfl, _, _, rfl, rfl, .inl ⟨by decide, by decide⟩, _, _, rfl, rfl, _, _, rfl, rfl, .inr ⟨by decide, by decide⟩, .inl ⟨_, rfl, _, _, rfl, rfl, by show (0 : Int) < _; decide, ?_⟩⟩
      have b0 := Int.emod_nonneg ((sd + 7919 * (n + 1)) * 48271) (by decide : (2147483647 : Int) ≠ 0)
      have b1 := Int.emod_lt_of_pos ((sd + 7919 * (n + 1)) * 48271) (by decide : (0 : Int) < 2147483647)
      show tSeq _ _ _ (List.set _ 4 (some (V.int ((sd + 7919 * (n + 1)) * 48271 % 2147483647)))) H1
      generalize (sd + 7919 * (n + 1)) * 48271 % 2147483647 = x1 at b0 b1 ⊢
      refine ⟨_, rfl, _, rfl, _, _, rfl, rfl, ⟨by decide, by decide⟩, _, _, rfl, rfl, _, _, rfl, rfl, .inl ⟨by omega, by omega⟩, .inl ⟨_, rfl, _, _, rfl, rfl, by show (0 : Int) < _; decide, ?_⟩⟩
      have b2 := Int.emod_nonneg (x1 * (x1 / 1009 + 69621)) (by decide : (2147483647 : Int) ≠ 0)
      have b3 := Int.emod_lt_of_pos (x1 * (x1 / 1009 + 69621)) (by decide : (0 : Int) < 2147483647)
      show tSeq _ _ _ (List.set _ 4 (some (V.int (x1 * (x1 / 1009 + 69621) % 2147483647)))) H1
      generalize x1 * (x1 / 1009 + 69621) % 2147483647 = x2 at b2 b3 ⊢
      refine ⟨_, rfl, _, rfl, _, _, rfl, rfl, ⟨by decide, by decide⟩, _, _, rfl, rfl, _, _, rfl, rfl, .inl ⟨by omega, by omega⟩, .inl ⟨_, rfl, _, _, rfl, rfl, by show (0 : Int) < _; decide, ?_⟩⟩
      refine ⟨_, rfl, _, _, rfl, rfl, ⟨by decide, by decide⟩, .inl ⟨_, rfl, _, rfl, _, _, rfl, rfl, h0, ?_⟩⟩
      exact k _ _ o1 ⟨sd, n + 1, cs, hp1, hc1⟩ (Int.emod_nonneg _ (by omega)) (Int.emod_lt_of_pos _ h0)
end
end K73
set_option Elab.async false
set_option linter.all false
set_option maxRecDepth 100000
set_option maxHeartbeats 4000000
/-! The law's own runs, lateness and rows. -/
namespace K73
open PySem PySem.Spec PyProof.Rows L2
section
variable {P : Program} {w : World} {K : PySem.W.Frag} {mg : Str → Option Value} {base : Heap}
theorem sc_w_is_int : FnScope (["_law_thing"] : List Str) (["_law_thing"] : List Str) (defScope s_w_is_int) := ⟨rfl, rfl, rfl, by decide +kernel, rfl, by decide +kernel, by decide +kernel⟩
def sp_w_is_int : Sp := fun vs H Q _ => ∃ n : Int, vs = [.int n] ∧ Q (.bl true) H
theorem ok_w_is_int (T : Tx K mg) : Ok P w K mg base 1 "_law_is_int" (["_law_thing"] : List Str) sp_w_is_int := by
  refine ok_of T.F_w_is_int sc_w_is_int (fun vs H Q E h => ?_) (fun _ _ _ _ _ _ us hl => match us, hl with | [_], _ => rfl) (fun cdv A outer s H vs Q E hr h => ?_)
  · obtain ⟨n, rfl, _⟩ := h
    rfl
  · obtain ⟨n, rfl, k⟩ := h
    refine ⟨_, (pss_one (ps_ret (pe_and (pe_callB call_isi (by rfl) T.n_isinstance (by decide +kernel) (pa_cons (pv 0) (pa_cons (pe_bltn (v := .ty "int") (by rfl) T.n_int (by decide +kernel) rfl) pa_nil))) (pe_one (pe_not (pe_callB call_isi (by rfl) T.n_isinstance (by decide +kernel) (pa_cons (pv 0) (pa_cons (pe_bltn (v := .ty "bool") (by rfl) T.n_bool (by decide +kernel) rfl) pa_nil)))))))), ?_⟩
    refine ⟨_, rfl, _, _, _, _, true, rfl, .ty "int", .base (.int _), kit_ty (by decide +kernel), true, rfl, ?_⟩
    refine ⟨_, rfl, _, _, _, _, false, rfl, .ty "bool", .base (.int _), kit_ty (by decide +kernel), false, rfl, ?_⟩
    exact k
theorem sc_w_run : FnScope (["_law_windows_here", "_law_row_here", "_law_lot_here", "_law_found", "_law_clock", "_law_work"] : List Str) (["_law_windows_here", "_law_row_here", "_law_lot_here"] : List Str) (defScope s_w_run) := ⟨rfl, rfl, rfl, by decide +kernel, rfl, by decide +kernel, by decide +kernel⟩
def sp_w_run (K : PySem.W.Frag) : Sp := fun vs H Q _ => ∃ (t r l : Addr) (ws : List (Int × Int)) (row : List Nat) (lot : Lot), vs = [.ref t, .ref r, .ref l] ∧ WinsAt H t ws ∧ H r = some (.tup (rowV row)) ∧ (∀ k ∈ row, k < ws.length) ∧ row.length ≤ 40 ∧ H l = some (.tup (lotV lot)) ∧ lot.length = ws.length ∧
  ∀ H' p ts, Same H H' → H' p = some (.lst ts) → Trips H' ts (runT (fiR ws) (lenO lot) (isT lot) 0 row) → Q (.ref p) H'
theorem ok_w_run (T : Tx K mg) : Ok P w K mg base 1 "_law_run" (["_law_windows_here", "_law_row_here", "_law_lot_here"] : List Str) (sp_w_run K) := by
  refine ok_of T.F_w_run sc_w_run (fun vs H Q E h => ?_) (fun _ _ _ _ _ _ us hl => match us, hl with | [_, _, _], _ => rfl) (fun cdv A outer s H vs Q E hr h => ?_)
  · obtain ⟨t, r, l, ws, row, lot, rfl, _⟩ := h
    rfl
  · obtain ⟨t, r, l, ws, row, lot, rfl, hw, hx, hrw, hfew, hl, hll, k⟩ := h
    refine ⟨_, (pss_cons (ps_set (i := 3) sc_w_run.nd rfl (Or.inl rfl) (pe_lst pa_nil))
      (pss_cons (ps_set (i := 4) sc_w_run.nd rfl (Or.inl rfl) pe_int)
      (pss_cons (ps_for PassesOwn.never rfl (pi_tup (pv 1)) (pg_name (i := 5) sc_w_run.nd rfl (Or.inl rfl)) (pss_one (ps_if (pt_cmpR op_notN (pe_ix (ix_tupK (K := K) rfl) (pv 2) (pv 5) (fun _ _ => rfl)) pe_non (nomark _)) (pss_cons (ps_while PassesOwn.never (pt_cmpR op_lt (pv 4) (pe_ix (ix_tupK (K := K) rfl) (pe_ix (ix_tupK (K := K) rfl) (pv 0) (pv 5) (fun _ _ => rfl)) pe_int (fun _ _ => rfl)) (nomark _)) (pss_one (ps_set (i := 4) sc_w_run.nd rfl (Or.inl rfl) (pe_ix (ix_tupK (K := K) rfl) (pe_ix (ix_tupK (K := K) rfl) (pv 0) (pv 5) (fun _ _ => rfl)) pe_int (fun _ _ => rfl)))))
      (pss_cons (ps_expr (pe_bmK (K := K) rfl PySem.F.plainAttrs_list PySem.F.slot_list_append PySem.F.type_list_append mt_append (pv 3) (pa_cons (pe_tup (pa_cons (pv 5) (pa_cons (pv 4) (pa_cons (pe_op op_add (pv 4) (pe_ix (ix_tupK (K := K) rfl) (pv 2) (pv 5) (fun _ _ => rfl))) pa_nil)))) pa_nil)))
      (pss_one (ps_set (i := 4) sc_w_run.nd rfl (Or.inl rfl) (pe_op op_add (pv 4) (pe_ix (ix_tupK (K := K) rfl) (pv 2) (pv 5) (fun _ _ => rfl))))))) pss_nil)))
      (pss_one (ps_ret (pv 3)))))), ?_⟩
    refine ⟨Nat.zero_le _, fun p hp => ?_⟩
    refine ⟨_, rfl, r, rfl, ⟨_, SqT.of ((same_upd hp) _ _ hx)⟩, ?_⟩
    refine for_tup (xs := rowV row) (fun i σ H1 => ∃ (wv : Option V) (ts : List V), σ = [some (.ref t), some (.ref r), some (.ref l), some (.ref p), some (.int (clk (fiR ws) (lenO lot) (isT lot) 0 (row.take i))), wv] ∧ Same H H1 ∧ H1 p = some (.lst ts) ∧ ts.length ≤ i ∧ Trips H1 ts (runT (fiR ws) (lenO lot) (isT lot) 0 (row.take i))) ?_ ?_ ?_ ?_
    · exact ⟨_, [], rfl, same_upd hp, upd_same, Nat.le_refl _, Trips.nil⟩
    · rintro i σ H1 _ ⟨wv, ts, rfl, sm, hp1, hn, ht⟩
      exact SqT.of (sm _ _ hx)
    · rintro i x σ H1 hi ⟨wv, ts, rfl, sm, hp1, hn, ht⟩
      obtain ⟨j, hj, rfl⟩ := rowV_at hi
      have hjw := hrw j (List.mem_of_getElem? hj)
      have hjl : j < lot.length := by rw [hll]; exact hjw
      have hi2 := (List.getElem?_eq_some_iff.mp hj).1
      have hw1 := hw.kp (kp_same sm)
      have hxw := List.getElem?_eq_getElem hjw
      obtain ⟨us, a, hu, hu1, ha⟩ := hw1.at hxw
      have efi := (fiR_of hxw).symm
      rw [efi] at ha
      refine ⟨_, rfl, _, rfl, l, _, _, _, rfl, rfl, SqT.of (sm _ _ hl), atI_nat (lotV_get hjl), rfl, isT lot j, nn_is lot j, ?_⟩
      cases e : isT lot j with
      | true =>
        refine iteT ?_
        refine ⟨fun m σ H2 => ∃ c : Int, H2 = H1 ∧ m = (fiR ws j - c).toNat ∧ max c (fiR ws j) = max (clk (fiR ws) (lenO lot) (isT lot) 0 (row.take i)) (fiR ws j) ∧ σ = [some (.ref t), some (.ref r), some (.ref l), some (.ref p), some (.int c), some (.int (j : Int))], ⟨_, _, rfl, rfl, rfl, rfl⟩, ?_⟩
        rintro m σ H2 ⟨c, rfl, rfl, hmax, rfl⟩
        refine ⟨_, rfl, _, rfl, _, rfl, t, us, _, _, rfl, rfl, SqT.of hu, atI_nat hu1, a, _, _, _, rfl, rfl, SqT.of ha, atI_nat (j := 0) rfl, _, _, rfl, rfl, _, rfl, if_b (fun hlt => ?_) fun hlt => ?_⟩
        · refine ⟨fun σ' H' => ∃ c : Int, H' = H2 ∧ max c (fiR ws j) = max (clk (fiR ws) (lenO lot) (isT lot) 0 (row.take i)) (fiR ws j) ∧ (fiR ws j - c).toNat < _ ∧ σ' = [some (.ref t), some (.ref r), some (.ref l), some (.ref p), some (.int c), some (.int (j : Int))], fun σ' H' ⟨c', e1, e2, e3, e4⟩ => ⟨_, e3, c', e1, rfl, e2, e4⟩, ?_⟩
          refine ⟨_, rfl, _, rfl, t, us, _, _, rfl, rfl, SqT.of hu, atI_nat hu1, a, _, _, _, rfl, rfl, SqT.of ha, atI_nat (j := 0) rfl, ?_⟩
          refine ⟨_, rfl, ?_, by omega, rfl⟩
          rw [← hmax, Int.max_self, Int.max_eq_right (by omega)]
        · have ec : c = max (clk (fiR ws) (lenO lot) (isT lot) 0 (row.take i)) (fiR ws j) := by
            rw [← hmax, Int.max_eq_left (by omega)]
          subst ec
          refine ⟨_, rfl, .inl ⟨rfl, _, SqL.of hp1⟩, _, rfl, _, rfl, _, rfl, _, rfl, _, rfl, l, _, _, _, rfl, rfl, SqT.of (sm _ _ hl), atI_nat (lotV_get hjl), _, _, rfl, by rw [itm_some e] <;> rfl, by show 3 ≤ sizeLine; decide, fun a2 ha2 => ?_⟩
          have ha3 : H2 a2 = none := ha2
          have s2 : ∀ o, Same H2 (upd H2 a2 o) := fun o => same_upd ha3
          refine ⟨p, ts, _, rfl, rfl, s2 _ _ _ hp1, Nat.lt_of_le_of_lt (Nat.le_trans hn (Nat.le_of_lt (Nat.lt_of_lt_of_le hi2 hfew))) (by decide), ?_⟩
          have s4 := s2 (.tup [.int (j : Int), .int (max (clk (fiR ws) (lenO lot) (isT lot) 0 (row.take i)) (fiR ws j)), .int (max (clk (fiR ws) (lenO lot) (isT lot) 0 (row.take i)) (fiR ws j) + lenO lot j)])
          have hl4 : upd (upd H2 a2 (.tup [.int (j : Int), .int (max (clk (fiR ws) (lenO lot) (isT lot) 0 (row.take i)) (fiR ws j)), .int (max (clk (fiR ws) (lenO lot) (isT lot) 0 (row.take i)) (fiR ws j) + lenO lot j)])) p (.lst (ts ++ [.ref a2])) l = some (.tup (lotV lot)) := (kp_lst (s4 _ _ hp1)) _ _ (s4 _ _ (sm _ _ hl)) trivial
          refine ⟨_, rfl, _, rfl, _, rfl, l, _, _, _, rfl, rfl, SqT.of hl4, atI_nat (lotV_get hjl), _, _, rfl, by rw [itm_some e] <;> rfl, ?_⟩
          refine ⟨some (.int (j : Int)), ts ++ [.ref a2], ?_, same_wr (sm.trans s4) hp, upd_same, ?_, ?_⟩
          · rw [take_succ hj, clk_snoc, if_pos e] <;> rfl
          · rw [List.length_append]
            exact Nat.succ_le_succ hn
          · rw [take_succ hj, runT_snoc, if_pos e]
            exact ((ht.kp (kp_same s4)).snoc upd_same).kp (kp_lst (s4 _ _ hp1))
      | false =>
        refine iteF ⟨some (.int (j : Int)), ts, ?_, sm, hp1, Nat.le_succ_of_le hn, ?_⟩
        · rw [take_succ hj, clk_snoc, if_neg (by rw [e]; decide)] <;> rfl
        · rw [take_succ hj, runT_snoc, if_neg (by rw [e]; decide), List.append_nil]
          exact ht
    · rintro σ H1 ⟨wv, ts, rfl, sm, hp1, hn, ht⟩
      rw [rowV_len, List.take_length] at ht
      exact ⟨_, rfl, k H1 p ts sm hp1 ht⟩
theorem sc_w_lateness : FnScope (["_law_windows_here", "_law_row_here", "_law_lot_here", "_law_hours", "_law_work", "_law_begin", "_law_end"] : List Str) (["_law_windows_here", "_law_row_here", "_law_lot_here"] : List Str) (defScope s_w_lateness) := ⟨rfl, rfl, rfl, by decide +kernel, rfl, by decide +kernel, by decide +kernel⟩
def sp_w_lateness (K : PySem.W.Frag) : Sp := fun vs H Q _ => ∃ (t r l : Addr) (ws : List (Int × Int)) (row : List Nat) (lot : Lot), vs = [.ref t, .ref r, .ref l] ∧ WinsAt H t ws ∧ H r = some (.tup (rowV row)) ∧ (∀ k ∈ row, k < ws.length) ∧ row.length ≤ 40 ∧ H l = some (.tup (lotV lot)) ∧ lot.length = ws.length ∧
  ∀ H', Same H H' → Q (oV (mx (lts (fiR ws) (laS ws) (lenO lot) (isT lot) 0 row))) H'
theorem ok_w_lateness (T : Tx K mg) : Ok P w K mg base 2 "_law_lateness" (["_law_windows_here", "_law_row_here", "_law_lot_here"] : List Str) (sp_w_lateness K) := by
  obtain ⟨fd_w_run, G_w_run, kp_w_run, b_w_run⟩ := ok_w_run (P := P) (w := w) (base := base) T
  refine ok_of T.F_w_lateness sc_w_lateness (fun vs H Q E h => ?_) (fun _ _ _ _ _ _ us hl => match us, hl with | [_, _, _], _ => rfl) (fun cdv A outer s H vs Q E hr h => ?_)
  · obtain ⟨t, r, l, ws, row, lot, rfl, _⟩ := h
    rfl
  · obtain ⟨t, r, l, ws, row, lot, rfl, hw, hx, hrw, hfew, hl, hll, k⟩ := h
    refine ⟨_, (pss_cons (ps_setLc (i := 3) (own := [("_law_work", 4), ("_law_begin", 5), ("_law_end", 6)]) rfl sc_w_lateness.nd rfl rfl (sw_true rfl rfl rfl (by decide +kernel))  (pi_list (pe_call G_w_run (hr.mono (by decide)) (by rfl) T.g_w_run kp_w_run b_w_run .nil pass0 (pa_cons (pv 0) (pa_cons (pv 1) (pa_cons (pv 2) pa_nil))))) (blkOk_by (own := [("_law_work", 4), ("_law_begin", 5), ("_law_end", 6)]) (N := (["_law_windows_here", "_law_row_here", "_law_lot_here", "_law_hours", "_law_work", "_law_begin", "_law_end"] : List Str)) (sc := defScope s_w_lateness) (by decide +kernel)) (fun _ _ _ _ _ => (pg_tupK (K := K) (n := 3) rfl rfl (pgs_cons (pg_name (i := 4) sc_w_lateness.nd rfl (Or.inl rfl)) (pgs_cons (pg_name (i := 5) sc_w_lateness.nd rfl (Or.inl rfl)) (pgs_cons (pg_name (i := 6) sc_w_lateness.nd rfl (Or.inl rfl)) pgs_nil))))) (fun _ _ _ _ _ => pts_nil) (fun _ _ _ _ _ => (pe_op op_sub (pv 6) (pe_ix (ix_tupK (K := K) rfl) (pe_ix (ix_tupK (K := K) rfl) (pv 0) (pv 4) (fun _ _ => rfl)) pe_int (fun _ _ => rfl)))))
      (pss_one (ps_ret (pe_ifExp (pt_cmpR op_gt (pe_callB (call_len_seqK (K := K) rfl) (by rfl) T.n_len (by decide +kernel) (pa_cons (pv 3) pa_nil)) pe_int (nomark _)) (pe_callB (cr_max rfl) (by rfl) T.n_max (by decide +kernel) (pa_cons (pv 3) pa_nil)) pe_non)))), ?_⟩
    refine ⟨_, rfl, _, rfl, _, rfl, t, r, l, ws, row, lot, rfl, hw, hx, hrw, hfew, hl, hll, fun H1 p ts sm hp ht => ?_⟩
    have hlen := ht.1
    have h40 := runT_len (f := fiR ws) (d := lenO lot) (q := isT lot) row 0
    refine ⟨p, rfl, ⟨_, SqL.of hp⟩, fun D hD => lci_list (fun i => ((runT (fiR ws) (lenO lot) (isT lot) 0 row)[i]?).map fun t => V.int (t.2.2 - laS ws t.1)) (SqL.of hp) hD (by omega) (fun i x hi H2 sm2 => ?_) fun H2 sm2 hD1 => ?_⟩
    · have hlt := (List.getElem?_eq_some_iff.mp hi).1
      rw [hlen] at hlt
      have e := List.getElem?_eq_getElem hlt
      obtain ⟨a, e1, e2⟩ := ht.2 i _ e
      rw [hi] at e1
      obtain rfl := Option.some.inj e1
      rw [e]
      have hj := hrw _ (runT_mem row 0 _ (List.mem_of_getElem? e))
      refine turn3 (sm2 _ _ e2) rfl fun H3 sm3 Qy ky => ?_
      have hxw := List.getElem?_eq_getElem hj
      obtain ⟨us, a', hu, hu1, ha⟩ := (hw.kp (kp_same ((sm.trans sm2).trans sm3))).at hxw
      have ela := (laS_of hxw).symm
      rw [ela] at ha
      exact ⟨_, rfl, _, rfl, _, rfl, t, us, _, _, rfl, rfl, SqT.of hu, atI_nat hu1, a', _, _, _, rfl, rfl, SqT.of ha, atI_nat (j := 1) rfl, _, _, rfl, rfl, ky _ (Same.refl _)⟩
    · have e : (runT (fiR ws) (lenO lot) (isT lot) 0 row).map (fun t => V.int (t.2.2 - laS ws t.1)) = (lts (fiR ws) (laS ws) (lenO lot) (isT lot) 0 row).map V.int := by
        rw [← runT_lts, List.map_map]
        exact List.map_congr_left fun _ _ => rfl
      rw [hlen, fm_of_get, e] at hD1
      refine ⟨_, rfl, D, _, rfl, .inl (SqL.of hD1), _, _, rfl, rfl, _, rfl, if_b (fun hpos => ?_) fun hpos => ?_⟩
      · refine ⟨_, rfl, D, _, rfl, SqL.of hD1, ?_, fun m hm hle => ?_⟩
        · rw [List.length_map] at hpos
          omega
        · have := k H2 (sm.trans sm2)
          rw [mx_of hm hle] at this
          exact this
      · have : lts (fiR ws) (laS ws) (lenO lot) (isT lot) 0 row = [] := by
          rw [List.length_map] at hpos
          exact List.length_eq_zero_iff.mp (by omega)
        have k := k H2 (sm.trans sm2)
        rw [this] at k
        exact k
end
end K73
set_option Elab.async false
set_option linter.all false
set_option maxRecDepth 100000
set_option maxHeartbeats 4000000
/-! The law's rows by draws; all rows of some works. -/
namespace K73
open PySem PySem.Spec PyProof.Rows L2
theorem erase_perm {α : Type} : ∀ {l : List α} {n : Nat} {a : α}, l[n]? = some a → (a :: l.eraseIdx n).Perm l
  | [], n, a, h => by cases h
  | x :: l, 0, a, h => by
    cases h
    exact List.Perm.refl _
  | x :: l, n + 1, a, h => by
    have h : l[n]? = some a := h
    show (a :: x :: l.eraseIdx n).Perm (x :: l)
    exact (List.Perm.swap x a _).trans ((erase_perm h).cons x)
theorem row_erase : ∀ (r : List Nat) (n : Nat), (rowV r).eraseIdx n = rowV (r.eraseIdx n)
  | [], n => by cases n <;> rfl
  | k :: r, 0 => rfl
  | k :: r, n + 1 => by
    show V.int (k : Int) :: (rowV r).eraseIdx n = _
    rw [row_erase r n] <;> rfl
theorem ixN_of {n : Nat} {d : Int} (h0 : 0 ≤ d) (h1 : d < n) : ixN n d = some d.toNat := by
  unfold ixN
  rw [if_pos h0, if_pos h1]
section
variable {P : Program} {w : World} {K : PySem.W.Frag} {mg : Str → Option Value} {base : Heap}
theorem sc_w_row : FnScope (["_law_pool_here", "_law_works", "_law_left", "_law_k"] : List Str) (["_law_pool_here", "_law_works"] : List Str) (defScope s_w_row) := ⟨rfl, rfl, rfl, by decide +kernel, rfl, by decide +kernel, by decide +kernel⟩
def sp_w_row : Sp := fun vs H Q _ => ∃ (p c r : Addr) (ks : List Nat), vs = [.ref p, .ref r] ∧ PoolAt H p c ∧ H r = some (.tup (rowV ks)) ∧ ks.length ≤ 40 ∧ ∀ H' t R, Oth p c H H' → PoolAt H' p c → H' t = some (.tup (rowV R)) → R.Perm ks → Q (.ref t) H'
theorem ok_w_row (T : Tx K mg) : Ok P w K mg base 2 "_law_row" (["_law_pool_here", "_law_works"] : List Str) sp_w_row := by
  obtain ⟨fd_w_draw, G_w_draw, kp_w_draw, b_w_draw⟩ := ok_w_draw (P := P) (w := w) (base := base) T
  refine ok_of T.F_w_row sc_w_row (fun vs H Q E h => ?_) (fun _ _ _ _ _ _ us hl => match us, hl with | [_, _], _ => rfl) (fun cdv A outer s H vs Q E hr h => ?_)
  · obtain ⟨p, c, r, ks, rfl, _⟩ := h
    rfl
  · obtain ⟨p, c, r, ks, rfl, hP, hx, hf, k⟩ := h
    refine ⟨_, (pss_cons (ps_set (i := 2) sc_w_row.nd rfl (Or.inr rfl) (pe_callTy call_list_of (by rfl) T.n_list (by decide +kernel) (pa_cons (pv 1) pa_nil)))
      (pss_one (ps_ret (pe_callTy call_tuple_of (by rfl) T.n_tuple (by decide +kernel) (pa_cons (pe_lc (own := [("_law_k", 3)]) rfl sc_w_row.nd (pi_range1 (by rfl) T.n_range (pa_cons (pe_callB (call_len_seqK (K := K) rfl) (by rfl) T.n_len (by decide +kernel) (pa_cons (pv 1) pa_nil)) pa_nil)) (blkOk_by (own := [("_law_k", 3)]) (N := (["_law_pool_here", "_law_works", "_law_left", "_law_k"] : List Str)) (sc := defScope s_w_row) (by decide +kernel)) (fun _ _ _ _ _ => (pg_name (i := 3) sc_w_row.nd rfl (Or.inl rfl))) (fun _ _ _ _ _ => pts_nil) (fun _ _ _ _ _ => (pe_bmK (K := K) rfl PySem.F.plainAttrs_list PySem.F.slot_list_pop PySem.F.type_list_pop mt_popAt (pv 2) (pa_cons (pe_call G_w_draw (hr.mono (by decide)) (by rfl) T.g_w_draw kp_w_draw b_w_draw .nil pass0 (pa_cons (pv 0) (pa_cons (pe_callB (call_len_seqK (K := K) rfl) (by rfl) T.n_len (by decide +kernel) (pa_cons (pv 2) pa_nil)) pa_nil))) pa_nil)))) pa_nil))))), ?_⟩
    refine ⟨_, rfl, r, _, rfl, .inr (SqT.of hx), fun l hl => ?_⟩
    have s1 : Same H (upd H l (.lst (rowV ks))) := same_upd hl
    have hl1 : upd H l (.lst (rowV ks)) l = some (.lst (rowV ks)) := upd_same
    have hlp := hP.new hl
    generalize upd H l (.lst (rowV ks)) = H1 at s1 hl1 ⊢
    have hx1 := s1 _ _ hx
    have hP1 := hP.same s1
    refine ⟨_, rfl, r, _, rfl, .inr (SqT.of hx1), _, rfl, by rw [rowV_len]; omega, by rw [rowV_len]; omega, fun D hD => ?_⟩
    have hDp := hP1.new hD
    have hDl : D ≠ l := fun z => by
      rw [z, hl1] at hD
      cases hD
    rw [show (((rowV ks).length : Int)).toNat = ks.length from by rw [rowV_len]; omega]
    refine lc_range (fun i H2 => Oth p c H H2 ∧ PoolAt H2 p c ∧ ∃ (L R : List Nat), H2 l = some (.lst (rowV L)) ∧ H2 D = some (.lst (rowV R)) ∧ R.length = i ∧ (R ++ L).Perm ks) ?_ ?_ ?_
    · refine ⟨((Oth.of s1).same (same_upd hD)), hP1.same (same_upd hD), ks, [], ?_, upd_same, rfl, List.Perm.refl _⟩
      exact (same_upd hD) _ _ hl1
    · rintro i H2 hi ⟨o2, hP2, L, R, hl2, hD2, hRl, hpm⟩
      have hlen := hpm.length_eq
      rw [List.length_append] at hlen
      refine ⟨rfl, ?_⟩
      refine ⟨_, rfl, .inl ⟨rfl, _, SqL.of hl2⟩, _, rfl, _, rfl, l, _, rfl, .inl (SqL.of hl2), p, c, _, rfl, hP2, by rw [rowV_len]; omega, by rw [rowV_len]; omega, fun H3 d o3 hP3 d0 d1 => ?_⟩
      rw [rowV_len] at d1
      have hl3 := o3 _ _ hlp.1 hlp.2 hl2
      have hD3 := o3 _ _ hDp.1 hDp.2 hD2
      have hk : d.toNat < L.length := by omega
      have ek := List.getElem?_eq_getElem hk
      generalize L[d.toNat] = y at ek
      refine ⟨l, _, d, d.toNat, .int (y : Int), rfl, rfl, hl3, by omega, by omega, (ixN_seq (ixN_of d0 (by rw [rowV_len]; exact d1))).1, rowV_get ek, ?_⟩
      rw [row_erase]
      have hD4 : upd H3 l (.lst (rowV (L.eraseIdx d.toNat))) D = some (.lst (rowV R)) := by rw [upd_ne hDl]; exact hD3
      refine ⟨_, hD4, Nat.lt_of_le_of_lt (by rw [rowV_len]; omega : (rowV R).length ≤ 40) (by decide), ((o2.trans o3).wr hl).wr ?_, (hP3.wr hlp).wr hDp, L.eraseIdx d.toNat, R ++ [y], ?_, ?_, ?_, ?_⟩
      · cases e : H D with
        | none => rfl
        | some o =>
          have := s1 _ _ e
          rw [hD] at this
          cases this
      · rw [upd_ne hDl.symm]
        exact upd_same
      · rw [upd_same]
        unfold rowV
        rw [List.map_append] <;> rfl
      · rw [List.length_append, hRl] <;> rfl
      · rw [List.append_assoc]
        exact ((erase_perm ek).append_left R).trans hpm
    · rintro H2 ⟨o2, hP2, L, R, hl2, hD2, hRl, hpm⟩
      have hlen := hpm.length_eq
      rw [List.length_append] at hlen
      have hL : L = [] := List.length_eq_zero_iff.mp (by omega)
      subst hL
      rw [List.append_nil] at hpm
      exact ⟨D, _, rfl, .inl ⟨SqL.of hD2, fun t ht => k _ t R (o2.same (same_upd ht)) (hP2.same (same_upd ht)) upd_same hpm⟩⟩
theorem sc_w_some : FnScope (["_law_pool_here", "_law_many", "_law_of", "_law_work"] : List Str) (["_law_pool_here", "_law_many"] : List Str) (defScope s_w_some) := ⟨rfl, rfl, rfl, by decide +kernel, rfl, by decide +kernel, by decide +kernel⟩
def sp_w_some : Sp := fun vs H Q _ => ∃ (p c : Addr) (n : Nat), vs = [.ref p, .int (n : Int)] ∧ PoolAt H p c ∧ n ≤ 40 ∧ ∀ H' t ks, Oth p c H H' → PoolAt H' p c → H' t = some (.tup (rowV ks)) → ks.Nodup → (∀ k ∈ ks, k < n) → Q (.ref t) H'
theorem ok_w_some (T : Tx K mg) : Ok P w K mg base 2 "_law_some" (["_law_pool_here", "_law_many"] : List Str) sp_w_some := by
  obtain ⟨fd_w_draw, G_w_draw, kp_w_draw, b_w_draw⟩ := ok_w_draw (P := P) (w := w) (base := base) T
  refine ok_of T.F_w_some sc_w_some (fun vs H Q E h => ?_) (fun _ _ _ _ _ _ us hl => match us, hl with | [_, _], _ => rfl) (fun cdv A outer s H vs Q E hr h => ?_)
  · obtain ⟨p, c, n, rfl, _⟩ := h
    rfl
  · obtain ⟨p, c, n, rfl, hP, hn, k⟩ := h
    refine ⟨_, (pss_cons (ps_set (i := 2) sc_w_some.nd rfl (Or.inr rfl) (pe_ix (ix_listK (K := K) rfl) (pe_lst (pa_cons pe_int (pa_cons pe_int (pa_cons pe_int pa_nil)))) (pe_call G_w_draw (hr.mono (by decide)) (by rfl) T.g_w_draw kp_w_draw b_w_draw .nil pass0 (pa_cons (pv 0) (pa_cons pe_int pa_nil))) (fun _ _ => rfl)))
      (pss_one (ps_ret (pe_callTy call_tuple_of (by rfl) T.n_tuple (by decide +kernel) (pa_cons (pe_lc (own := [("_law_work", 3)]) rfl sc_w_some.nd (pi_range1 (by rfl) T.n_range (pa_cons (pv 1) pa_nil)) (blkOk_by (own := [("_law_work", 3)]) (N := (["_law_pool_here", "_law_many", "_law_of", "_law_work"] : List Str)) (sc := defScope s_w_some) (by decide +kernel)) (fun _ _ _ _ _ => (pg_name (i := 3) sc_w_some.nd rfl (Or.inl rfl))) (fun _ _ _ _ _ => (pts_one (pt_cmpR op_gt (pe_call G_w_draw (hr.mono (by decide)) (by rfl) T.g_w_draw kp_w_draw b_w_draw .nil pass0 (pa_cons (pv 0) (pa_cons (pe_op op_add (pv 2) pe_int) pa_nil))) pe_int (nomark _)))) (fun _ _ _ _ _ => (pv 3))) pa_nil))))), ?_⟩
    refine ⟨by show 3 ≤ sizeLine; decide, fun q hq => ?_⟩
    have s1 : Same H (upd H q (.lst [.int 1, .int 2, .int 4])) := same_upd hq
    have hqp := hP.new hq
    refine ⟨_, rfl, p, c, 3, rfl, hP.same s1, by decide, by decide, fun H1 d o1 hP1 d0 d1 => ?_⟩
    have hq1 : H1 q = some (.lst [.int 1, .int 2, .int 4]) := o1 _ _ hqp.1 hqp.2 upd_same
    have oH : Oth p c H H1 := (Oth.of s1).trans o1
    obtain ⟨of, hof, hof0, hof4⟩ : ∃ of : Int, atI ([.int 1, .int 2, .int 4] : List V) d = some (.int of) ∧ 0 ≤ of ∧ of ≤ 4 := by
      have : d = 0 ∨ d = 1 ∨ d = 2 := by omega
      rcases this with z | z | z <;> subst z
      · exact ⟨1, atI_nat (j := 0) rfl, by decide, by decide⟩
      · exact ⟨2, atI_nat (j := 1) rfl, by decide, by decide⟩
      · exact ⟨4, atI_nat (j := 2) rfl, by decide, by decide⟩
    refine ⟨q, _, d, _, rfl, rfl, SqL.of hq1, hof, ?_⟩
    refine ⟨_, rfl, _, rfl, by omega, by omega, fun D hD => ?_⟩
    have hDp := hP1.new hD
    have hDH : H D = none := by
      cases e : H D with
      | none => rfl
      | some o =>
        by_cases e1 : D = p
        · exact (hDp.1 e1).elim
        · have := oH _ _ e1 hDp.2 e
          rw [hD] at this
          cases this
    rw [show (n : Int).toNat = n from by omega]
    refine lc_range (fun i H2 => Oth p c H H2 ∧ PoolAt H2 p c ∧ ∃ R : List Nat, H2 D = some (.lst (rowV R)) ∧ R.Nodup ∧ (∀ j ∈ R, j < i) ∧ R.length ≤ i) ?_ ?_ ?_
    · exact ⟨oH.same (same_upd hD), hP1.same (same_upd hD), [], upd_same, List.nodup_nil, fun j hj => (by cases hj), Nat.le_refl _⟩
    · rintro i H2 hi ⟨o2, hP2, R, hD2, hnd, hlt, hRl⟩
      refine ⟨rfl, ?_⟩
      refine ⟨_, rfl, _, rfl, _, _, rfl, rfl, p, c, of + 1, rfl, hP2, by omega, by omega, fun H3 d' o3 hP3 d0' d1' => ?_⟩
      have hD3 := o3 _ _ hDp.1 hDp.2 hD2
      refine ⟨_, _, rfl, rfl, _, rfl, if_b (fun hpos => ?_) fun hpos => ?_⟩
      · refine ⟨_, rfl, _, hD3, Nat.lt_of_le_of_lt (by rw [rowV_len]; omega : (rowV R).length ≤ 40) (by decide), (o2.trans o3).wr hDH, hP3.wr hDp, R ++ [i], ?_, ?_, ?_, ?_⟩
        · rw [upd_same]
          unfold rowV
          rw [List.map_append, show (0 : Int) + (i : Int) = (i : Int) from by omega] <;> rfl
        · refine List.nodup_append.mpr ⟨hnd, List.nodup_cons.mpr ⟨by simp, List.nodup_nil⟩, fun a ha b hb => ?_⟩
          rw [List.mem_singleton.mp hb]
          have := hlt a ha
          omega
        · intro j hj
          rcases List.mem_append.mp hj with z | z
          · have := hlt j z
            omega
          · rw [List.mem_singleton.mp z]
            omega
        · rw [List.length_append]
          exact Nat.succ_le_succ hRl
      · exact ⟨o2.trans o3, hP3, R, hD3, hnd, fun j hj => Nat.lt_succ_of_lt (hlt j hj), Nat.le_succ_of_le hRl⟩
    · rintro H2 ⟨o2, hP2, R, hD2, hnd, hlt, hRl⟩
      exact ⟨D, _, rfl, .inl ⟨SqL.of hD2, fun t ht => k _ t R (o2.same (same_upd ht)) (hP2.same (same_upd ht)) upd_same hnd hlt⟩⟩
end
end K73
set_option Elab.async false
set_option linter.all false
set_option maxRecDepth 100000
set_option maxHeartbeats 4000000
/-! All rows of some works; lots by draws. -/
namespace K73
open PySem PySem.Spec PyProof.Rows L2
theorem grp_snoc {H2 H4 : Hp} {D t : Addr} {zs : List V} {g : List Nat} (hz : H2 D = some (.lst zs)) (hzg : ∀ z ∈ zs, GOk H2 z) (s4 : Same H2 H4) (ht : H4 t = some (.tup (rowV g))) :
    (∀ z ∈ zs ++ [V.ref t], GOk (upd H4 D (.lst (zs ++ [V.ref t]))) z) ∧ (zs ++ [V.ref t]).map (grp (upd H4 D (.lst (zs ++ [V.ref t])))) = zs.map (grp H2) ++ [g] := by
  have hD4 := s4 _ _ hz
  obtain ⟨g1, g2⟩ := grp_kp ((kp_same s4).trans (kp_lst (o := .lst (zs ++ [V.ref t])) hD4)) hzg
  have ht4 : upd H4 D (.lst (zs ++ [V.ref t])) t = some (.tup (rowV g)) := (kp_lst hD4) _ _ ht trivial
  refine ⟨fun z hz' => ?_, ?_⟩
  · rcases List.mem_append.mp hz' with z' | z'
    · exact g1 z z'
    · rw [List.mem_singleton.mp z']
      exact ⟨t, _, rfl, ht4⟩
  · rw [List.map_append, g2]
    show _ ++ [grp _ (.ref t)] = _
    rw [grp_of ht4]
section
variable {P : Program} {w : World} {K : PySem.W.Frag} {mg : Str → Option Value} {base : Heap}
theorem sc_w_perms : FnScope (["_law_works", "_law_found", "_law_turn", "_law_longer", "_law_row_here", "_law_work"] : List Str) (["_law_works"] : List Str) (defScope s_w_perms) := ⟨rfl, rfl, rfl, by decide +kernel, rfl, by decide +kernel, by decide +kernel⟩
def sp_w_perms (K : PySem.W.Frag) : Sp := fun vs H Q _ => ∃ (s : Addr) (ks : List Nat), vs = [.ref s] ∧ H s = some (.tup (rowV ks)) ∧ ks.Nodup ∧ ks.length ≤ 5 ∧
  ∀ H' q ys, Same H H' → H' q = some (.lst ys) → (∀ y ∈ ys, GOk H' y) → ys.length ≤ 3125 → (∀ r, r ∈ ys.map (grp H') ↔ r.Perm ks) → Q (.ref q) H'
theorem ok_w_perms (T : Tx K mg) : Ok P w K mg base 1 "_law_perms" (["_law_works"] : List Str) (sp_w_perms K) := by
  refine ok_of T.F_w_perms sc_w_perms (fun vs H Q E h => ?_) (fun _ _ _ _ _ _ us hl => match us, hl with | [_], _ => rfl) (fun cdv A outer s0 H vs Q E hr h => ?_)
  · obtain ⟨s, ks, rfl, _⟩ := h
    rfl
  · obtain ⟨s, ks, rfl, hx, hnd, h5, k⟩ := h
    refine ⟨_, (pss_cons (ps_set (i := 1) sc_w_perms.nd rfl (Or.inl rfl) (pe_lst (pa_cons (pe_tup pa_nil) pa_nil)))
      (pss_cons (ps_for PassesOwn.never rfl (pi_range1 (by rfl) T.n_range (pa_cons (pe_callB (call_len_seqK (K := K) rfl) (by rfl) T.n_len (by decide +kernel) (pa_cons (pv 0) pa_nil)) pa_nil)) (pg_name (i := 2) sc_w_perms.nd rfl (Or.inl rfl)) (pss_cons (ps_set (i := 3) sc_w_perms.nd rfl (Or.inl rfl) (pe_lst pa_nil))
      (pss_cons (ps_for PassesOwn.never rfl (pi_list (pv 1)) (pg_name (i := 4) sc_w_perms.nd rfl (Or.inr rfl)) (pss_one (ps_expr (pe_bmK (K := K) rfl PySem.F.plainAttrs_list PySem.F.slot_list_extend PySem.F.type_list_extend mt_extend (pv 3) (pa_cons (pe_lc (own := [("_law_work", 5)]) rfl sc_w_perms.nd (pi_tup (pv 0)) (blkOk_by (own := [("_law_work", 5)]) (N := (["_law_works", "_law_found", "_law_turn", "_law_longer", "_law_row_here", "_law_work"] : List Str)) (sc := defScope s_w_perms) (by decide +kernel)) (fun _ _ _ _ _ => (pg_name (i := 5) sc_w_perms.nd rfl (Or.inl rfl))) (fun _ _ _ _ _ => (pts_one (pt_cmpR (op_notIn_seqK (K := K) rfl) (pv 5) (pv 4) (by rfl)))) (fun _ _ _ _ _ => (pe_op (op_catAK (K := K) rfl) (pv 4) (pe_tup (pa_cons (pv 5) pa_nil))))) pa_nil)))))
      (pss_one (ps_set (i := 1) sc_w_perms.nd rfl (Or.inl rfl) (pv 3))))))
      (pss_one (ps_ret (pv 1))))), ?_⟩
    refine ⟨Nat.zero_le _, fun e he => ⟨by show 1 ≤ sizeLine; decide, fun q hq => ?_⟩⟩
    have s0 : Same H (upd (upd H e (.tup [])) q (.lst [.ref e])) := (same_upd he).trans (same_upd hq)
    refine ⟨_, rfl, s, _, rfl, .inr (SqT.of (s0 _ _ hx)), _, rfl, by rw [rowV_len]; omega, by rw [rowV_len]; omega, ?_⟩
    rw [show (((rowV ks).length : Int)).toNat = ks.length from by rw [rowV_len]; omega]
    refine for_range (fun i σ H1 => ∃ (f : Addr) (tv lv rv : Option V) (ys : List V), σ = [some (.ref s), some (.ref f), tv, lv, rv, none] ∧ Same H H1 ∧ H1 f = some (.lst ys) ∧ (∀ y ∈ ys, GOk H1 y) ∧ ys.length ≤ 5 ^ i ∧ ∀ r, r ∈ ys.map (grp H1) ↔ Part ks i r) ?_ ?_ ?_
    · have e1 : upd (upd H e (.tup [])) q (.lst [.ref e]) e = some (.tup (rowV [])) := by
        rw [upd_ne (ne_of_none (o := .tup []) upd_same hq)]
        exact upd_same
      refine ⟨q, _, _, _, [.ref e], rfl, s0, upd_same, fun y hy => ?_, Nat.le_refl _, fun r => ?_⟩
      · rw [List.mem_singleton.mp hy]
        exact ⟨e, [], rfl, e1⟩
      · show r ∈ [grp _ (.ref e)] ↔ _
        rw [grp_of e1, List.mem_singleton]
        constructor
        · rintro rfl
          exact ⟨rfl, List.nodup_nil, fun k hk => by cases hk⟩
        · rintro ⟨z, _⟩
          exact List.length_eq_zero_iff.mp z
    · rintro i σ H1 hi ⟨f, tv, lv, rv, ys, rfl, s1, hf1, hg, hyl, hmem⟩
      have hyl2 : ys.length ≤ 625 := Nat.le_trans hyl (Nat.le_trans (Nat.pow_le_pow_right (n := 5) (by decide) (by omega : i ≤ 4)) (by decide))
      refine ⟨Nat.zero_le _, fun g hgn => ?_⟩
      have s2 : Same H1 (upd H1 g (.lst [])) := same_upd hgn
      have hf2 := s2 _ _ hf1
      refine ⟨_, rfl, f, rfl, ⟨_, SqL.of hf2⟩, for_list (xs := ys) (fun j σ H2 => ∃ (rv : Option V) (zs : List V), σ = [some (.ref s), some (.ref f), some (.int (0 + (i : Int))), some (.ref g), rv, none] ∧ Same H1 H2 ∧ H2 g = some (.lst zs) ∧ (∀ z ∈ zs, GOk H2 z) ∧ zs.length ≤ j * 5 ∧
        ∀ r, r ∈ zs.map (grp H2) ↔ ∃ y ∈ (ys.take j).map (grp H1), ∃ k ∈ ks, k ∉ y ∧ r = y ++ [k]) ?_ ?_ ?_ ?_⟩
      · refine ⟨_, [], rfl, s2, upd_same, fun z hz => (by cases hz), Nat.zero_le _, fun r => ⟨fun z => (by cases z), ?_⟩⟩
        rintro ⟨y, hy, _⟩
        cases hy
      · rintro j σ H2 _ ⟨rv, zs, rfl, s3, _⟩
        exact SqL.of (s3 _ _ hf1)
      · rintro j yV σ H2 hj ⟨rv, zs, rfl, s3, hg2, hzg, hzl, hzm⟩
        have hjl := (List.getElem?_eq_some_iff.mp hj).1
        obtain ⟨a, rfl, ha1⟩ := (hg yV (List.mem_of_getElem? hj)).at
        have hgl : (grp H1 (.ref a)).length ≤ 5 := by
          obtain ⟨z, _⟩ := (hmem _).mp (List.mem_map.mpr ⟨_, List.mem_of_getElem? hj, rfl⟩)
          omega
        generalize hgE : grp H1 (.ref a) = g0 at ha1 hgl
        have ha2 := s3 _ _ ha1
        have hx2 := s3 _ _ (s1 _ _ hx)
        refine ⟨_, rfl, .inl ⟨rfl, _, SqL.of hg2⟩, _, rfl, s, rfl, ⟨_, SqT.of hx2⟩, fun D hD => ?_⟩
        refine lc_tup (K := K) (xs := rowV ks) (Pv := fun n H3 => Same H2 H3 ∧ ∃ us, H3 D = some (.lst us) ∧ us.length ≤ n ∧ (∀ z ∈ us, GOk H3 z) ∧ ∀ r, r ∈ us.map (grp H3) ↔ ∃ k ∈ ks.take n, k ∉ g0 ∧ r = g0 ++ [k]) ?_ ?_ ?_ ?_
        · refine ⟨same_upd hD, [], upd_same, Nat.le_refl _, fun z hz => (by cases hz), fun r => ⟨fun z => (by cases z), ?_⟩⟩
          rintro ⟨k, hk, _⟩
          cases hk
        · rintro n H3 _ ⟨s4, _⟩
          exact SqT.of (s4 _ _ hx2)
        · rintro n xV H3 hn ⟨s4, us, hD3, hul, hug, hum⟩
          obtain ⟨x, hxn, rfl⟩ := rowV_at hn
          have hnl := (List.getElem?_eq_some_iff.mp hxn).1
          have ha3 := s4 _ _ ha2
          refine ⟨rfl, ?_⟩
          refine ⟨_, rfl, _, rfl, a, _, rfl, .inr (SqT.of ha3), rfl, flat_row _, !decide (x ∈ g0), by rw [← inV_row] <;> rfl, ?_⟩
          by_cases hin : x ∈ g0
          · rw [decide_eq_true hin]
            refine iteF ⟨s4, us, hD3, Nat.le_succ_of_le hul, hug, fun r => ?_⟩
            rw [hum, take_succ hxn]
            constructor
            · rintro ⟨k, hk, h⟩
              exact ⟨k, List.mem_append_left _ hk, h⟩
            · rintro ⟨k, hk, h1, h2⟩
              rcases List.mem_append.mp hk with z | z
              · exact ⟨k, z, h1, h2⟩
              · rw [List.mem_singleton.mp z] at h1
                exact (h1 hin).elim
          · rw [decide_eq_false hin]
            refine iteT ?_
            have fin : ∀ H4 t, Same H3 H4 → H4 t = some (.tup (rowV (g0 ++ [x]))) → ∃ acc, H4 D = some (.lst acc) ∧ acc.length < sizeLine ∧ (Same H2 (upd H4 D (.lst (acc ++ [.ref t]))) ∧ ∃ us', upd H4 D (.lst (acc ++ [.ref t])) D = some (.lst us') ∧ us'.length ≤ n + 1 ∧ (∀ z ∈ us', GOk (upd H4 D (.lst (acc ++ [.ref t]))) z) ∧ ∀ r, r ∈ us'.map (grp (upd H4 D (.lst (acc ++ [.ref t])))) ↔ ∃ k ∈ ks.take (n + 1), k ∉ g0 ∧ r = g0 ++ [k]) := fun H4 t s5 ht => by
              obtain ⟨q1, q2⟩ := grp_snoc hD3 hug s5 ht
              refine ⟨us, s5 _ _ hD3, Nat.lt_of_le_of_lt (by omega : us.length ≤ 5) (by decide), same_wr (s4.trans s5) hD, us ++ [.ref t], upd_same, by rw [List.length_append]; exact Nat.succ_le_succ hul, q1, fun r => ?_⟩
              rw [q2, List.mem_append, hum, take_succ hxn, List.mem_singleton]
              constructor
              · rintro (⟨k, hk, h⟩ | h)
                · exact ⟨k, List.mem_append_left _ hk, h⟩
                · exact ⟨x, List.mem_append_right _ List.mem_cons_self, hin, h⟩
              · rintro ⟨k, hk, h1, h2⟩
                rcases List.mem_append.mp hk with z | z
                · exact .inl ⟨k, z, h1, h2⟩
                · rw [List.mem_singleton.mp z] at h2
                  exact .inr h2
            refine ⟨_, rfl, _, rfl, by show 1 ≤ sizeLine; decide, fun t ht => ?_⟩
            have st : Same H3 (upd H3 t (.tup [.int (x : Int)])) := same_upd ht
            refine ⟨a, t, _, _, rfl, rfl, SqT.of (st _ _ ha3), SqT.of upd_same, ?_, fun z => ?_, (fun _ z => nomatch z), fun _ _ u hu => ?_⟩
            · rw [rowV_len]
              exact Nat.le_trans (by
                show g0.length + 1 ≤ 6
                omega) (by decide)
            · have e0 : g0 = [] := List.length_eq_zero_iff.mp (by rw [← rowV_len, z] <;> rfl)
              exact fin _ t st (by rw [e0]; exact upd_same)
            · exact fin _ u (st.trans (same_upd hu)) (by rw [upd_same]; unfold rowV; rw [List.map_append] <;> rfl)
        · rintro H3 ⟨s4, us, hD3, hul, hug, hum⟩
          rw [rowV_len, List.take_length] at hum
          rw [rowV_len] at hul
          have hg3 := s4 _ _ hg2
          refine ⟨g, D, zs, us, rfl, rfl, hg3, hD3, Nat.le_trans (by omega : zs.length + us.length ≤ 10000) (by decide), ?_⟩
          have kp3 : Kp H3 (upd H3 g (.lst (zs ++ us))) := kp_lst hg3
          obtain ⟨w1, w2⟩ := grp_kp ((kp_same s4).trans kp3) hzg
          obtain ⟨w3, w4⟩ := grp_kp kp3 hug
          refine ⟨_, zs ++ us, rfl, same_wr (s3.trans s4) hgn, upd_same, fun z hz => ?_, by rw [List.length_append]; omega, fun r => ?_⟩
          · rcases List.mem_append.mp hz with z' | z'
            · exact w1 z z'
            · exact w3 z z'
          · rw [List.map_append, w2, w4, List.mem_append, hzm, hum, take_succ hj, List.map_append]
            show _ ↔ ∃ y ∈ _ ++ [grp H1 (.ref a)], _
            rw [hgE]
            constructor
            · rintro (⟨y, hy, h⟩ | h)
              · exact ⟨y, List.mem_append_left _ hy, h⟩
              · exact ⟨g0, List.mem_append_right _ List.mem_cons_self, h⟩
            · rintro ⟨y, hy, h⟩
              rcases List.mem_append.mp hy with z | z
              · exact .inl ⟨y, z, h⟩
              · rw [List.mem_singleton.mp z] at h
                exact .inr h
      · rintro σ H2 ⟨rv, zs, rfl, s3, hg2, hzg, hzl, hzm⟩
        rw [List.take_length] at hzm
        refine ⟨_, rfl, g, _, _, _, zs, rfl, s1.trans s3, hg2, hzg, ?_, fun r => ?_⟩
        · have : 5 ^ (i + 1) = 5 ^ i * 5 := Nat.pow_succ ..
          omega
        · rw [hzm, part_succ]
          constructor
          · rintro ⟨y, hy, x, hx', h1, h2⟩
            exact ⟨y, x, h2, (hmem y).mp hy, hx', h1⟩
          · rintro ⟨y, x, h2, hy, hx', h1⟩
            exact ⟨y, (hmem y).mpr hy, x, hx', h1, h2⟩
    · rintro σ H1 ⟨f, tv, lv, rv, ys, rfl, s1, hf1, hg, hyl, hmem⟩
      refine ⟨_, rfl, k H1 f ys s1 hf1 hg (Nat.le_trans hyl (Nat.pow_le_pow_right (n := 5) (by decide) h5)) fun r => ?_⟩
      rw [hmem, part_all hnd]
end
end K73
set_option Elab.async false
set_option linter.all false
set_option maxRecDepth 100000
set_option maxHeartbeats 4000000
/-! Lots and windows by draws. -/
namespace K73
open PySem PySem.Spec PyProof.Rows L2
theorem isT_snoc {L : Lot} {o : Option Int} {k : Nat} : isT (L ++ [o]) k = if k = L.length then o.isSome else isT L k := by
  unfold isT itm
  rw [List.getD_eq_getElem?_getD, List.getD_eq_getElem?_getD]
  by_cases h : k = L.length
  · subst h
    rw [if_pos rfl, List.getElem?_append_right (Nat.le_refl _), Nat.sub_self] <;> rfl
  · rw [if_neg h]
    by_cases h2 : k < L.length
    · rw [List.getElem?_append_left h2]
    · rw [List.getElem?_eq_none (by rw [List.length_append]; show L.length + 1 ≤ k; omega), List.getElem?_eq_none (by omega)]
theorem isT_set {L : Lot} {x : Int} {j k : Nat} (h : j < L.length) : isT (L.set j (some x)) k = if k = j then true else isT L k := by
  unfold isT itm
  rw [List.getD_eq_getElem?_getD, List.getD_eq_getElem?_getD, List.getElem?_set]
  by_cases e : k = j
  · subst e
    rw [if_pos rfl, if_pos rfl, if_pos h] <;> rfl
  · rw [if_neg e, if_neg (fun z => e z.symm)]
theorem lotV_set (L : Lot) (j : Nat) (o : Option Int) : lotV (L.set j o) = (lotV L).set j (oV o) := by
  unfold lotV
  rw [List.map_set]
theorem nn_set {L : Lot} {x : Int} {j : Nat} (h : ∀ y, some y ∈ L → 0 ≤ y) (h0 : 0 ≤ x) : ∀ y, some y ∈ L.set j (some x) → 0 ≤ y := fun y hy => by
  rcases List.mem_or_eq_of_mem_set hy with z | z
  · exact h y z
  · cases z
    exact h0
section
variable {P : Program} {w : World} {K : PySem.W.Frag} {mg : Str → Option Value} {base : Heap}
theorem sc_w_lot : FnScope (["_law_pool_here", "_law_windows_here", "_law_works", "_law_lot_here", "_law_work", "_law_first", "_law_last", "_law_length"] : List Str) (["_law_pool_here", "_law_windows_here", "_law_works"] : List Str) (defScope s_w_lot) := ⟨rfl, rfl, rfl, by decide +kernel, rfl, by decide +kernel, by decide +kernel⟩
def sp_w_lot : Sp := fun vs H Q _ => ∃ (p c t s : Addr) (ws : List (Int × Int)) (ks : List Nat), vs = [.ref p, .ref t, .ref s] ∧ PoolAt H p c ∧ WinsAt H t ws ∧ H s = some (.tup (rowV ks)) ∧ ws.length ≤ 40 ∧ (∀ x ∈ ws, 0 ≤ x.1 ∧ x.1 ≤ x.2 ∧ x.2 ≤ 1000000) ∧
  ∀ H' q lot, Oth p c H H' → PoolAt H' p c → H' q = some (.tup (lotV lot)) → lot.length = ws.length → (∀ k, k < ws.length → (isT lot k = true ↔ k ∈ ks)) → (∀ x, some x ∈ lot → 0 ≤ x) → Q (.ref q) H'
theorem ok_w_lot (T : Tx K mg) : Ok P w K mg base 2 "_law_lot" (["_law_pool_here", "_law_windows_here", "_law_works"] : List Str) sp_w_lot := by
  obtain ⟨fd_w_draw, G_w_draw, kp_w_draw, b_w_draw⟩ := ok_w_draw (P := P) (w := w) (base := base) T
  refine ok_of T.F_w_lot sc_w_lot (fun vs H Q E h => ?_) (fun _ _ _ _ _ _ us hl => match us, hl with | [_, _, _], _ => rfl) (fun cdv A outer s0 H vs Q E hr h => ?_)
  · obtain ⟨p, c, t, s, ws, ks, rfl, _⟩ := h
    rfl
  · obtain ⟨p, c, t, s, ws, ks, rfl, hP, hw, hx, hf, hok, k⟩ := h
    refine ⟨_, (pss_cons (ps_set (i := 3) sc_w_lot.nd rfl (Or.inl rfl) (pe_lst pa_nil))
      (pss_cons (ps_for PassesOwn.never rfl (pi_range1 (by rfl) T.n_range (pa_cons (pe_callB (call_len_seqK (K := K) rfl) (by rfl) T.n_len (by decide +kernel) (pa_cons (pv 1) pa_nil)) pa_nil)) (pg_name (i := 4) sc_w_lot.nd rfl (Or.inl rfl)) (pss_cons (ps_asg (pe_ix (ix_tupK (K := K) rfl) (pv 1) (pv 4) (fun _ _ => rfl)) (pg_tupK (K := K) (n := 2) rfl rfl (pgs_cons (pg_name (i := 5) sc_w_lot.nd rfl (Or.inl rfl)) (pgs_cons (pg_name (i := 6) sc_w_lot.nd rfl (Or.inl rfl)) pgs_nil))))
      (pss_cons (ps_set (i := 7) sc_w_lot.nd rfl (Or.inl rfl) (pe_call G_w_draw (hr.mono (by decide)) (by rfl) T.g_w_draw kp_w_draw b_w_draw .nil pass0 (pa_cons (pv 0) (pa_cons (pe_op op_add (pe_op op_add (pe_op op_sub (pv 6) (pv 5)) pe_int) (pe_callTy call_int1 (by rfl) T.n_int (by decide +kernel) (pa_cons (pe_cmpR op_eq (pe_call G_w_draw (hr.mono (by decide)) (by rfl) T.g_w_draw kp_w_draw b_w_draw .nil pass0 (pa_cons (pv 0) (pa_cons pe_int pa_nil))) pe_int (nomark _)) pa_nil))) pa_nil))))
      (pss_cons (ps_if (pt_cmpR op_gt (pe_call G_w_draw (hr.mono (by decide)) (by rfl) T.g_w_draw kp_w_draw b_w_draw .nil pass0 (pa_cons (pv 0) (pa_cons pe_int pa_nil))) pe_int (nomark _)) (pss_one (ps_set (i := 7) sc_w_lot.nd rfl (Or.inl rfl) (pe_op op_fdiv (pv 7) pe_int))) pss_nil)
      (pss_one (ps_expr (pe_bmK (K := K) rfl PySem.F.plainAttrs_list PySem.F.slot_list_append PySem.F.type_list_append mt_append (pv 3) (pa_cons (pe_ifExp (pt_cmpR op_in_seq (pv 4) (pv 2) (by rfl)) (pv 7) pe_non) pa_nil))))))))
      (pss_one (ps_ret (pe_callTy call_tuple_of (by rfl) T.n_tuple (by decide +kernel) (pa_cons (pv 3) pa_nil)))))), ?_⟩
    obtain ⟨us, ht, hul⟩ := hw.len
    refine ⟨Nat.zero_le _, fun l hl => ?_⟩
    have hlp := hP.new hl
    have s1 : Same H (upd H l (.lst [])) := same_upd hl
    refine ⟨_, rfl, t, _, rfl, .inr (SqT.of (s1 _ _ ht)), _, rfl, by omega, by omega, ?_⟩
    rw [show (us.length : Int).toNat = ws.length from by omega]
    refine for_range (fun i σ H1 => ∃ (v4 v5 v6 v7 : Option V) (L : Lot), σ = [some (.ref p), some (.ref t), some (.ref s), some (.ref l), v4, v5, v6, v7] ∧ Oth p c H H1 ∧ PoolAt H1 p c ∧ H1 l = some (.lst (lotV L)) ∧ L.length = i ∧ (∀ k, k < i → (isT L k = true ↔ k ∈ ks)) ∧ ∀ x, some x ∈ L → 0 ≤ x) ?_ ?_ ?_
    · exact ⟨_, _, _, _, [], rfl, Oth.of s1, hP.same s1, upd_same, rfl, fun k hk => absurd hk (Nat.not_lt_zero _), fun x hx => by cases hx⟩
    · rintro i σ H1 hi ⟨v4, v5, v6, v7, L, rfl, o1, hP1, hl1, hLl, hiff, hnn⟩
      rw [show (0 : Int) + (i : Int) = (i : Int) from by omega]
      have hw1 := hw.kp (o1.kp hP)
      have hxw := List.getElem?_eq_getElem hi
      obtain ⟨us', a, hu, hu1, ha⟩ := hw1.at hxw
      obtain ⟨g1, g2, g3⟩ := hok _ (List.mem_of_getElem? hxw)
      generalize ws[i] = x at ha g1 g2 g3
      have fin : ∀ H5 (m : Int), Oth p c H1 H5 → PoolAt H5 p c → 0 ≤ m → ∃ (v4 v5 v6 v7 : Option V) (L' : Lot), ([some (.ref p), some (.ref t), some (.ref s), some (.ref l), some (.int (i : Int)), some (.int x.1), some (.int x.2), some (.int m)] : L2.St) = [some (.ref p), some (.ref t), some (.ref s), some (.ref l), v4, v5, v6, v7] ∧ Oth p c H (upd H5 l (.lst (lotV L ++ [if i ∈ ks then V.int m else V.non]))) ∧ PoolAt (upd H5 l (.lst (lotV L ++ [if i ∈ ks then V.int m else V.non]))) p c ∧ upd H5 l (.lst (lotV L ++ [if i ∈ ks then V.int m else V.non])) l = some (.lst (lotV L')) ∧ L'.length = i + 1 ∧ (∀ k, k < i + 1 → (isT L' k = true ↔ k ∈ ks)) ∧ ∀ x, some x ∈ L' → 0 ≤ x := fun H5 m o5 hP5 hm => by
        refine ⟨_, _, _, _, L ++ [if i ∈ ks then some m else none], rfl, (o1.trans o5).wr hl, hP5.wr hlp, ?_, ?_, fun k hk => ?_, fun y hy => ?_⟩
        · rw [upd_same]
          unfold lotV
          rw [List.map_append]
          by_cases h : i ∈ ks
          · rw [if_pos h, if_pos h] <;> rfl
          · rw [if_neg h, if_neg h] <;> rfl
        · rw [List.length_append, hLl] <;> rfl
        · rw [isT_snoc, hLl]
          by_cases e : k = i
          · subst e
            rw [if_pos rfl]
            by_cases h : k ∈ ks
            · rw [if_pos h]
              exact ⟨fun _ => h, fun _ => rfl⟩
            · rw [if_neg h]
              exact ⟨fun z => (by cases z), fun z => (h z).elim⟩
          · rw [if_neg e]
            exact hiff k (by omega)
        · rcases List.mem_append.mp hy with z | z
          · exact hnn y z
          · have z := List.mem_singleton.mp z
            by_cases h : i ∈ ks
            · rw [if_pos h] at z
              cases z
              exact hm
            · rw [if_neg h] at z
              cases z
      have hL40 : (lotV L).length ≤ 40 := by rw [lotV_len]; omega
      refine ⟨_, rfl, _, rfl, t, us', _, _, rfl, rfl, SqT.of hu, atI_nat hu1, a, _, rfl, SqT.of ha, rfl, _, _, rfl, _, _, rfl, rfl, ?_⟩
      refine ⟨_, rfl, _, rfl, _, rfl, _, _, rfl, rfl, _, _, rfl, rfl, _, rfl, p, c, 6, rfl, hP1, by decide, by decide, fun H2 d2 o2 hP2 _ _ => ?_⟩
      refine ⟨rfl, .inr ⟨_, rfl, _, _, rfl, rfl, p, c, _, rfl, hP2, ?_, ?_, fun H3 m o3 hP3 m0 m1 => ?_⟩⟩
      · split <;> omega
      · split <;> omega
      · refine ⟨_, rfl, p, c, 3, rfl, hP3, by decide, by decide, fun H4 d4 o4 hP4 _ _ => ?_⟩
        have o5 := (o2.trans o3).trans o4
        have hl4 := o5 _ _ hlp.1 hlp.2 hl1
        have hs4 := (o1.trans o5).keep hP hx fun xs z => nomatch z
        refine ⟨_, _, rfl, rfl, _, rfl, if_b (fun hpos => ?_) fun hpos => ?_⟩
        · refine ⟨_, rfl, _, _, rfl, rfl, ⟨by decide, by decide⟩, ?_⟩
          refine ⟨_, rfl, .inl ⟨rfl, _, SqL.of hl4⟩, _, rfl, _, rfl, s, _, rfl, .inr (SqT.of hs4), rfl, flat_row _, decide (i ∈ ks), by rw [← inV_row] <;> rfl, ?_⟩
          have f := fin H4 (m / 2) o5 hP4 (by omega)
          by_cases h : i ∈ ks
          · rw [if_pos h] at f
            rw [decide_eq_true h]
            exact iteT ⟨_, rfl, l, _, _, rfl, rfl, hl4, Nat.lt_of_le_of_lt hL40 (by decide), f⟩
          · rw [if_neg h] at f
            rw [decide_eq_false h]
            exact iteF ⟨l, _, _, rfl, rfl, hl4, Nat.lt_of_le_of_lt hL40 (by decide), f⟩
        · refine ⟨_, rfl, .inl ⟨rfl, _, SqL.of hl4⟩, _, rfl, _, rfl, s, _, rfl, .inr (SqT.of hs4), rfl, flat_row _, decide (i ∈ ks), by rw [← inV_row] <;> rfl, ?_⟩
          have f := fin H4 m o5 hP4 m0
          by_cases h : i ∈ ks
          · rw [if_pos h] at f
            rw [decide_eq_true h]
            exact iteT ⟨_, rfl, l, _, _, rfl, rfl, hl4, Nat.lt_of_le_of_lt hL40 (by decide), f⟩
          · rw [if_neg h] at f
            rw [decide_eq_false h]
            exact iteF ⟨l, _, _, rfl, rfl, hl4, Nat.lt_of_le_of_lt hL40 (by decide), f⟩
    · rintro σ H1 ⟨v4, v5, v6, v7, L, rfl, o1, hP1, hl1, hLl, hiff, hnn⟩
      exact ⟨_, rfl, l, _, rfl, .inl ⟨SqL.of hl1, fun q hq => k _ q L (o1.same (same_upd hq)) (hP1.same (same_upd hq)) upd_same hLl hiff hnn⟩⟩
theorem sc_w_long : FnScope (["_law_pool_here", "_law_windows_here", "_law_works", "_law_great", "_law_lot_here", "_law_work", "_law_turn"] : List Str) (["_law_pool_here", "_law_windows_here", "_law_works"] : List Str) (defScope s_w_long) := ⟨rfl, rfl, rfl, by decide +kernel, rfl, by decide +kernel, by decide +kernel⟩
def sp_w_long : Sp := fun vs H Q _ => ∃ (p c t s : Addr) (ws : List (Int × Int)) (ks : List Nat), vs = [.ref p, .ref t, .ref s] ∧ PoolAt H p c ∧ WinsAt H t ws ∧ H s = some (.tup (rowV ks)) ∧ ws.length ≤ 40 ∧ ks.length ≤ 40 ∧ (∀ k ∈ ks, k < ws.length) ∧
  ∀ H' q lot, Oth p c H H' → PoolAt H' p c → H' q = some (.tup (lotV lot)) → lot.length = ws.length → (∀ k, k < ws.length → (isT lot k = true ↔ k ∈ ks)) → (∀ x, some x ∈ lot → 0 ≤ x) → Q (.ref q) H'
theorem ok_w_long (T : Tx K mg) : Ok P w K mg base 2 "_law_long" (["_law_pool_here", "_law_windows_here", "_law_works"] : List Str) sp_w_long := by
  obtain ⟨fd_w_draw, G_w_draw, kp_w_draw, b_w_draw⟩ := ok_w_draw (P := P) (w := w) (base := base) T
  refine ok_of T.F_w_long sc_w_long (fun vs H Q E h => ?_) (fun _ _ _ _ _ _ us hl => match us, hl with | [_, _, _], _ => rfl) (fun cdv A outer s0 H vs Q E hr h => ?_)
  · obtain ⟨p, c, t, s, ws, ks, rfl, _⟩ := h
    rfl
  · obtain ⟨p, c, t, s, ws, ks, rfl, hP, hw, hx, hf, hkl, hin, k⟩ := h
    refine ⟨_, (pss_cons (ps_set (i := 3) sc_w_long.nd rfl (Or.inl rfl) (pe_ix (ix_listK (K := K) rfl) (pe_lst (pa_cons pe_int (pa_cons pe_int (pa_cons (pe_op op_pow pe_int pe_int) (pa_cons (pe_op op_pow pe_int pe_int) pa_nil))))) (pe_call G_w_draw (hr.mono (by decide)) (by rfl) T.g_w_draw kp_w_draw b_w_draw .nil pass0 (pa_cons (pv 0) (pa_cons pe_int pa_nil))) (fun _ _ => rfl)))
      (pss_cons (ps_set (i := 4) sc_w_long.nd rfl (Or.inl rfl) (pe_op op_rep (pe_lst (pa_cons pe_non pa_nil)) (pe_callB (call_len_seqK (K := K) rfl) (by rfl) T.n_len (by decide +kernel) (pa_cons (pv 1) pa_nil))))
      (pss_cons (ps_for PassesOwn.never rfl (pi_tup (pv 2)) (pg_name (i := 5) sc_w_long.nd rfl (Or.inl rfl)) (pss_one (ps_asg (pe_ifExp (pt_cmpR op_eq (pe_call G_w_draw (hr.mono (by decide)) (by rfl) T.g_w_draw kp_w_draw b_w_draw .nil pass0 (pa_cons (pv 0) (pa_cons pe_int pa_nil))) pe_int (nomark _)) (pe_call G_w_draw (hr.mono (by decide)) (by rfl) T.g_w_draw kp_w_draw b_w_draw .nil pass0 (pa_cons (pv 0) (pa_cons (pv 3) pa_nil))) pe_int) (pg_sub (pv 4) (pv 5) set_list))))
      (pss_cons (ps_for PassesOwn.never rfl (pi_range1 (by rfl) T.n_range (pa_cons pe_int pa_nil)) (pg_name (i := 6) sc_w_long.nd rfl (Or.inl rfl)) (pss_one (ps_if (pt_cmpR op_gt (pe_callB (call_len_seqK (K := K) rfl) (by rfl) T.n_len (by decide +kernel) (pa_cons (pv 2) pa_nil)) pe_int (nomark _)) (pss_one (ps_asg (pv 3) (pg_sub (pv 4) (pe_ix (ix_tupK (K := K) rfl) (pv 2) (pe_call G_w_draw (hr.mono (by decide)) (by rfl) T.g_w_draw kp_w_draw b_w_draw .nil pass0 (pa_cons (pv 0) (pa_cons (pe_callB (call_len_seqK (K := K) rfl) (by rfl) T.n_len (by decide +kernel) (pa_cons (pv 2) pa_nil)) pa_nil))) (fun _ _ => rfl)) set_list))) pss_nil)))
      (pss_one (ps_ret (pe_callTy call_tuple_of (by rfl) T.n_tuple (by decide +kernel) (pa_cons (pv 4) pa_nil)))))))), ?_⟩
    refine ⟨_, _, rfl, rfl, ⟨by decide, by decide, by decide⟩, _, _, rfl, rfl, ⟨by decide, by decide, by decide⟩, by show 4 ≤ sizeLine; decide, fun q hq => ?_⟩
    have hqp := hP.new hq
    have s1 := same_upd (o := .lst [.int 10, .int 100, .int (10 ^ (7 : Int).toNat), .int (10 ^ (30 : Int).toNat)]) hq
    refine ⟨_, rfl, p, c, 4, rfl, hP.same s1, by decide, by decide, fun H1 d o1 hP1 d0 d1 => ?_⟩
    have hq1 : H1 q = some (.lst [.int 10, .int 100, .int (10 ^ (7 : Int).toNat), .int (10 ^ (30 : Int).toNat)]) := o1 _ _ hqp.1 hqp.2 upd_same
    obtain ⟨gr, hgr, hgr0, hgr1⟩ : ∃ gr : Int, atI ([.int 10, .int 100, .int (10 ^ (7 : Int).toNat), .int (10 ^ (30 : Int).toNat)] : List V) d = some (.int gr) ∧ 0 < gr ∧ gr ≤ 10 ^ 40 := by
      have : d = 0 ∨ d = 1 ∨ d = 2 ∨ d = 3 := by omega
      rcases this with z | z | z | z <;> subst z
      · exact ⟨10, atI_nat (j := 0) rfl, by decide, by decide⟩
      · exact ⟨100, atI_nat (j := 1) rfl, by decide, by decide⟩
      · exact ⟨_, atI_nat (j := 2) rfl, by decide, by decide⟩
      · exact ⟨_, atI_nat (j := 3) rfl, by decide, by decide⟩
    refine ⟨q, _, d, _, rfl, rfl, SqL.of hq1, hgr, ?_⟩
    have oH : Oth p c H H1 := (Oth.of s1).trans o1
    obtain ⟨us, ht, hul⟩ := (hw.kp (oH.kp hP)).len
    refine ⟨by show 1 ≤ sizeLine; decide, fun q2 hq2 => ?_⟩
    have s2 := same_upd (o := .lst [.non]) hq2
    refine ⟨_, rfl, t, _, rfl, .inr (SqT.of (s2 _ _ ht)), q2, _, _, rfl, rfl, upd_same, by omega, by omega, Nat.le_trans (by
      show 1 * (us.length : Int).toNat ≤ 40
      omega) (by decide), fun l hl => ?_⟩
    have hlp := (hP1.same s2).new hl
    have s3 := same_upd (o := .lst (List.replicate (us.length : Int).toNat [V.non]).flatten) hl
    have hrep : (List.replicate (us.length : Int).toNat [V.non]).flatten = lotV (List.replicate ws.length none) := by
      rw [show (us.length : Int).toNat = ws.length from by omega]
      generalize ws.length = n
      induction n with
      | zero => rfl
      | succ n ih =>
        rw [List.replicate_succ, List.flatten_cons, ih] <;> rfl
    have hl3 : upd (upd H1 q2 (.lst [.non])) l (.lst (List.replicate (us.length : Int).toNat [V.non]).flatten) l = some (.lst (lotV (List.replicate ws.length none))) := by rw [upd_same, hrep]
    have oH3 : Oth p c H (upd (upd H1 q2 (.lst [.non])) l (.lst (List.replicate (us.length : Int).toNat [V.non]).flatten)) := (oH.same s2).same s3
    have hP3 := (hP1.same s2).same s3
    have hlH : H l = none := by
      cases e : H l with
      | none => rfl
      | some o =>
        have := (oH.same s2) _ _ hlp.1 hlp.2 e
        rw [hl] at this
        cases this
    have hx3 := oH3.keep hP hx fun xs z => nomatch z
    show tSeq _ _ _ _ (upd (upd H1 q2 (.lst [.non])) l (.lst (List.replicate (us.length : Int).toNat [V.non]).flatten))
    generalize upd (upd H1 q2 (.lst [.non])) l (.lst (List.replicate (us.length : Int).toNat [V.non]).flatten) = H3 at hl3 oH3 hP3 hx3 ⊢
    refine ⟨_, rfl, s, rfl, ⟨_, SqT.of hx3⟩, for_tup (xs := rowV ks) (fun i σ H4 => ∃ (v5 v6 : Option V) (L : Lot), σ = [some (.ref p), some (.ref t), some (.ref s), some (.int gr), some (.ref l), v5, v6] ∧ Oth p c H H4 ∧ PoolAt H4 p c ∧ H4 l = some (.lst (lotV L)) ∧ L.length = ws.length ∧ (∀ k, isT L k = true ↔ k ∈ ks.take i) ∧ ∀ x, some x ∈ L → 0 ≤ x) ?_ ?_ ?_ ?_⟩
    · refine ⟨_, _, List.replicate ws.length none, rfl, oH3, hP3, hl3, List.length_replicate, fun k => ⟨fun z => ?_, fun z => (by cases z)⟩, fun x hx => ?_⟩
      · unfold isT at z
        cases e : itm (List.replicate ws.length none) k with
        | none => rw [e] at z; cases z
        | some y =>
          have := itm_mem e
          rw [List.mem_replicate] at this
          cases this.2
      · rw [List.mem_replicate] at hx
        cases hx.2
    · rintro i σ H4 _ ⟨v5, v6, L, rfl, o4, hP4, _⟩
      exact SqT.of (o4.keep hP hx fun xs z => nomatch z)
    · rintro i xV σ H4 hi ⟨v5, v6, L, rfl, o4, hP4, hl4, hLl, hiff, hnn⟩
      obtain ⟨j, hj, rfl⟩ := rowV_at hi
      have hjw := hin j (List.mem_of_getElem? hj)
      have fin : ∀ H5 (m : Int), Oth p c H4 H5 → PoolAt H5 p c → 0 ≤ m → ∃ (u5 u6 : Option V) (L' : Lot), ([some (.ref p), some (.ref t), some (.ref s), some (.int gr), some (.ref l), some (.int (j : Int)), v6] : L2.St) = [some (.ref p), some (.ref t), some (.ref s), some (.int gr), some (.ref l), u5, u6] ∧ Oth p c H (upd H5 l (.lst ((lotV L).set j (.int m)))) ∧ PoolAt (upd H5 l (.lst ((lotV L).set j (.int m)))) p c ∧ upd H5 l (.lst ((lotV L).set j (.int m))) l = some (.lst (lotV L')) ∧ L'.length = ws.length ∧ (∀ k, isT L' k = true ↔ k ∈ ks.take (i + 1)) ∧ ∀ x, some x ∈ L' → 0 ≤ x := fun H5 m o5 hP5 hm => by
        refine ⟨_, _, L.set j (some m), rfl, (o4.trans o5).wr hlH, hP5.wr hlp, by rw [upd_same, lotV_set] <;> rfl, by rw [List.length_set]; exact hLl, fun k => ?_, nn_set hnn hm⟩
        rw [isT_set (by omega), take_succ hj, List.mem_append, List.mem_singleton]
        by_cases e : k = j
        · rw [if_pos e]
          exact ⟨fun _ => .inr e, fun _ => rfl⟩
        · rw [if_neg e, hiff]
          exact ⟨.inl, fun z => z.resolve_right e⟩
      refine ⟨_, rfl, p, c, 2, rfl, hP4, by decide, by decide, fun H5 d5 o5 hP5 _ _ => ?_⟩
      have hix : ixN (lotV L).length (j : Int) = some j := by
        rw [ixN_of (by omega) (by rw [lotV_len]; omega)]
        exact congrArg some (by omega)
      refine ⟨rfl, _, rfl, ?_⟩
      cases e : decide (V.int d5 = V.int 0) with
      | true =>
        refine iteT ⟨_, rfl, _, rfl, p, c, gr, rfl, hP5, hgr0, hgr1, fun H6 m o6 hP6 m0 m1 => ?_⟩
        exact ⟨_, rfl, _, rfl, l, _, _, j, rfl, rfl, (o5.trans o6) _ _ hlp.1 hlp.2 hl4, hix, fin H6 m (o5.trans o6) hP6 m0⟩
      | false =>
        exact iteF ⟨_, rfl, _, rfl, l, _, _, j, rfl, rfl, o5 _ _ hlp.1 hlp.2 hl4, hix, fin H5 0 o5 hP5 (Int.le_refl _)⟩
    · rintro σ H4 ⟨v5, v6, L, rfl, o4, hP4, hl4, hLl, hiff, hnn⟩
      rw [rowV_len, List.take_length] at hiff
      refine ⟨2, rfl, by decide, by decide, for_range (fun i σ H5 => ∃ (v6 : Option V) (L : Lot), σ = [some (.ref p), some (.ref t), some (.ref s), some (.int gr), some (.ref l), v5, v6] ∧ Oth p c H H5 ∧ PoolAt H5 p c ∧ H5 l = some (.lst (lotV L)) ∧ L.length = ws.length ∧ (∀ k, isT L k = true ↔ k ∈ ks) ∧ ∀ x, some x ∈ L → 0 ≤ x) ?_ ?_ ?_⟩
      · exact ⟨_, L, rfl, o4, hP4, hl4, hLl, hiff, hnn⟩
      · rintro i σ H5 hi ⟨v6, L, rfl, o5, hP5, hl5, hLl, hiff, hnn⟩
        have hx5 := o5.keep hP hx fun xs z => nomatch z
        refine ⟨_, rfl, s, _, rfl, .inr (SqT.of hx5), _, _, rfl, rfl, _, rfl, if_b (fun hpos => ?_) fun hpos => ?_⟩
        · rw [rowV_len] at hpos
          refine ⟨_, rfl, _, rfl, _, rfl, _, rfl, _, rfl, s, _, rfl, .inr (SqT.of hx5), p, c, _, rfl, hP5, by rw [rowV_len]; omega, by rw [rowV_len]; omega, fun H6 d6 o6 hP6 d0 d1 => ?_⟩
          rw [rowV_len] at d1
          have hk : d6.toNat < ks.length := by omega
          have ek := List.getElem?_eq_getElem hk
          have hyr := List.mem_of_getElem? ek
          generalize ks[d6.toNat] = y at ek hyr
          have hyw := hin y hyr
          have hat : atI (rowV ks) d6 = some (.int (y : Int)) := by
            have := atI_nat (rowV_get ek)
            rwa [show ((d6.toNat : Nat) : Int) = d6 from by omega] at this
          have hix : ixN (lotV L).length (y : Int) = some y := by
            rw [ixN_of (by omega) (by rw [lotV_len]; omega)]
            exact congrArg some (by omega)
          refine ⟨s, _, d6, _, rfl, rfl, SqT.of ((o5.trans o6).keep hP hx fun xs z => nomatch z), hat, l, _, _, y, rfl, rfl, o6 _ _ hlp.1 hlp.2 hl5, hix, ?_⟩
          refine ⟨_, L.set y (some gr), rfl, (o5.trans o6).wr hlH, hP6.wr hlp, by rw [upd_same, lotV_set] <;> rfl, by rw [List.length_set]; exact hLl, fun k => ?_, nn_set hnn (by omega)⟩
          rw [isT_set (by omega)]
          by_cases e : k = y
          · rw [if_pos e, e]
            exact ⟨fun _ => hyr, fun _ => rfl⟩
          · rw [if_neg e, hiff]
        · exact ⟨_, L, rfl, o5, hP5, hl5, hLl, hiff, hnn⟩
      · rintro σ H5 ⟨v6, L, rfl, o5, hP5, hl5, hLl, hiff, hnn⟩
        exact ⟨_, rfl, l, _, rfl, .inl ⟨SqL.of hl5, fun q hq => k _ q L (o5.same (same_upd hq)) (hP5.same (same_upd hq)) upd_same hLl (fun k _ => hiff k) hnn⟩⟩
end
end K73
set_option Elab.async false
set_option linter.all false
set_option maxRecDepth 100000
set_option maxHeartbeats 4000000
/-! Windows by draws. -/
namespace K73
open PySem PySem.Spec PyProof.Rows L2
/-- windows as they are made -/
def Prs (H : Hp) (ps : List Addr) (ws : List (Int × Int)) : Prop := ps.length = ws.length ∧ ∀ (i : Nat) (x : Int × Int), ws[i]? = some x → ∃ a, ps[i]? = some a ∧ H a = some (.tup [.int x.1, .int x.2])
theorem Prs.kp {H H' : Hp} {ps : List Addr} {ws : List (Int × Int)} (h : Prs H ps ws) (s : Kp H H') : Prs H' ps ws := ⟨h.1, fun i x e => by
  obtain ⟨a, e1, e2⟩ := h.2 i x e
  exact ⟨a, e1, s.tup e2⟩⟩
theorem Prs.snoc {H : Hp} {ps : List Addr} {ws : List (Int × Int)} {a : Addr} {x : Int × Int} (h : Prs H ps ws) (e : H a = some (.tup [.int x.1, .int x.2])) : Prs H (ps ++ [a]) (ws ++ [x]) := by
  refine ⟨by rw [List.length_append, List.length_append, h.1] <;> rfl, fun i u hi => ?_⟩
  by_cases hlt : i < ws.length
  · rw [List.getElem?_append_left hlt] at hi
    obtain ⟨b, e1, e2⟩ := h.2 i u hi
    exact ⟨b, by rw [List.getElem?_append_left (by rw [h.1]; exact hlt)]; exact e1, e2⟩
  · have hi2 := (List.getElem?_eq_some_iff.mp hi).1
    rw [List.length_append] at hi2
    have : i = ws.length := by
      have : ws.length + [x].length = ws.length + 1 := rfl
      omega
    subst this
    rw [List.getElem?_append_right (Nat.le_refl _), Nat.sub_self] at hi
    have : x = u := Option.some.inj hi
    subst this
    refine ⟨a, ?_, e⟩
    rw [← h.1, List.getElem?_append_right (Nat.le_refl _), Nat.sub_self] <;> rfl
def WinOk (ws : List (Int × Int)) : Prop := ∀ x ∈ ws, 0 ≤ x.1 ∧ x.1 ≤ x.2 ∧ x.2 ≤ 1000000
section
variable {P : Program} {w : World} {K : PySem.W.Frag} {mg : Str → Option Value} {base : Heap}
theorem sc_w_windows : FnScope (["_law_pool_here", "_law_many", "_law_top", "_law_kind", "_law_found", "_law_middle", "_law_k", "_law_one", "_law_other"] : List Str) (["_law_pool_here", "_law_many", "_law_top"] : List Str) (defScope s_w_windows) := ⟨rfl, rfl, rfl, by decide +kernel, rfl, by decide +kernel, by decide +kernel⟩
def sp_w_windows : Sp := fun vs H Q _ => ∃ (p c : Addr) (n : Nat) (tp : Int), vs = [.ref p, .int (n : Int), .int tp] ∧ PoolAt H p c ∧ n ≤ 5 ∧ 0 ≤ tp ∧ tp ≤ 100000 ∧
  ∀ H' t ws, Oth p c H H' → PoolAt H' p c → WinsAt H' t ws → ws.length = n → WinOk ws → Q (.ref t) H'
theorem ok_w_windows (T : Tx K mg) : Ok P w K mg base 2 "_law_windows" (["_law_pool_here", "_law_many", "_law_top"] : List Str) sp_w_windows := by
  obtain ⟨fd_w_draw, G_w_draw, kp_w_draw, b_w_draw⟩ := ok_w_draw (P := P) (w := w) (base := base) T
  refine ok_of T.F_w_windows sc_w_windows (fun vs H Q E h => ?_) (fun _ _ _ _ _ _ us hl => match us, hl with | [_, _, _], _ => rfl) (fun cdv A outer s0 H vs Q E hr h => ?_)
  · obtain ⟨p, c, n, tp, rfl, _⟩ := h
    rfl
  · obtain ⟨p, c, n, tp, rfl, hP, hn, t0, t1, k⟩ := h
    refine ⟨_, (pss_cons (ps_set (i := 3) sc_w_windows.nd rfl (Or.inl rfl) (pe_call G_w_draw (hr.mono (by decide)) (by rfl) T.g_w_draw kp_w_draw b_w_draw .nil pass0 (pa_cons (pv 0) (pa_cons pe_int pa_nil))))
      (pss_cons (ps_set (i := 4) sc_w_windows.nd rfl (Or.inl rfl) (pe_lst pa_nil))
      (pss_cons (ps_set (i := 5) sc_w_windows.nd rfl (Or.inl rfl) (pe_op op_add (pv 2) (pe_call G_w_draw (hr.mono (by decide)) (by rfl) T.g_w_draw kp_w_draw b_w_draw .nil pass0 (pa_cons (pv 0) (pa_cons (pe_op op_add (pv 2) pe_int) pa_nil)))))
      (pss_cons (ps_for PassesOwn.never rfl (pi_range1 (by rfl) T.n_range (pa_cons (pv 1) pa_nil)) (pg_name (i := 6) sc_w_windows.nd rfl (Or.inl rfl)) (pss_cons (ps_set (i := 7) sc_w_windows.nd rfl (Or.inl rfl) (pe_call G_w_draw (hr.mono (by decide)) (by rfl) T.g_w_draw kp_w_draw b_w_draw .nil pass0 (pa_cons (pv 0) (pa_cons (pe_op op_add (pv 2) pe_int) pa_nil))))
      (pss_cons (ps_set (i := 8) sc_w_windows.nd rfl (Or.inl rfl) (pe_call G_w_draw (hr.mono (by decide)) (by rfl) T.g_w_draw kp_w_draw b_w_draw .nil pass0 (pa_cons (pv 0) (pa_cons (pe_op op_add (pv 2) pe_int) pa_nil))))
      (pss_cons (ps_if (PW.pt (pw_and (pt_cmpR op_eq (pv 3) pe_int (nomark _)) (pw_and1 (pt_cmpR op_gt (pe_call G_w_draw (hr.mono (by decide)) (by rfl) T.g_w_draw kp_w_draw b_w_draw .nil pass0 (pa_cons (pv 0) (pa_cons pe_int pa_nil))) pe_int (nomark _))))) (pss_cons (ps_set (i := 7) sc_w_windows.nd rfl (Or.inl rfl) (pe_call G_w_draw (hr.mono (by decide)) (by rfl) T.g_w_draw kp_w_draw b_w_draw .nil pass0 (pa_cons (pv 0) (pa_cons (pe_op op_add (pe_op op_fdiv (pv 5) pe_int) pe_int) pa_nil))))
      (pss_one (ps_set (i := 8) sc_w_windows.nd rfl (Or.inl rfl) (pe_op op_sub (pv 5) (pv 7))))) pss_nil)
      (pss_cons (ps_if (pt_cmpR op_eq (pv 3) pe_int (nomark _)) (pss_cons (ps_set (i := 7) sc_w_windows.nd rfl (Or.inl rfl) (pe_op op_add (pv 6) (pe_call G_w_draw (hr.mono (by decide)) (by rfl) T.g_w_draw kp_w_draw b_w_draw .nil pass0 (pa_cons (pv 0) (pa_cons pe_int pa_nil)))))
      (pss_one (ps_set (i := 8) sc_w_windows.nd rfl (Or.inl rfl) (pe_op op_add (pe_op op_add (pv 7) pe_int) (pe_call G_w_draw (hr.mono (by decide)) (by rfl) T.g_w_draw kp_w_draw b_w_draw .nil pass0 (pa_cons (pv 0) (pa_cons pe_int pa_nil))))))) pss_nil)
      (pss_one (ps_expr (pe_bmK (K := K) rfl PySem.F.plainAttrs_list PySem.F.slot_list_append PySem.F.type_list_append mt_append (pv 4) (pa_cons (pe_tup (pa_cons (pe_callB (call_min2 rfl) (by rfl) T.n_min (by decide +kernel) (pa_cons (pv 7) (pa_cons (pv 8) pa_nil))) (pa_cons (pe_callB (call_max2 rfl) (by rfl) T.n_max (by decide +kernel) (pa_cons (pv 7) (pa_cons (pv 8) pa_nil))) pa_nil))) pa_nil)))))))))
      (pss_one (ps_ret (pe_callTy call_tuple_of (by rfl) T.n_tuple (by decide +kernel) (pa_cons (pv 4) pa_nil)))))))), ?_⟩
    refine ⟨_, rfl, p, c, 4, rfl, hP, by decide, by decide, fun H1 kd o1 hP1 _ _ => ?_⟩
    refine ⟨Nat.zero_le _, fun f hf => ?_⟩
    have hfp := hP1.new hf
    have s2 : Same H1 (upd H1 f (.lst [])) := same_upd hf
    have hf2 : upd H1 f (.lst []) f = some (.lst []) := upd_same
    have hfH : H f = none := by
      cases e : H f with
      | none => rfl
      | some o =>
        have := o1 _ _ hfp.1 hfp.2 e
        rw [hf] at this
        cases this
    refine ⟨_, rfl, _, rfl, _, rfl, _, _, rfl, rfl, p, c, _, rfl, hP1.same s2, by omega, by omega, fun H3 dm o3 hP3 m0 m1 => ⟨_, _, rfl, rfl, ?_⟩⟩
    have hf3 := o3 _ _ hfp.1 hfp.2 hf2
    have oH3 : Oth p c H H3 := (o1.same s2).trans o3
    refine ⟨_, rfl, _, rfl, by omega, by omega, ?_⟩
    rw [show (n : Int).toNat = n from by omega]
    refine for_range (fun i σ H4 => ∃ (v6 v7 v8 : Option V) (ps : List Addr) (ws : List (Int × Int)), σ = [some (.ref p), some (.int (n : Int)), some (.int tp), some (.int kd), some (.ref f), some (.int (tp + dm)), v6, v7, v8] ∧ Oth p c H H4 ∧ PoolAt H4 p c ∧ H4 f = some (.lst (ps.map V.ref)) ∧ Prs H4 ps ws ∧ ws.length = i ∧ WinOk ws) ?_ ?_ ?_
    · exact ⟨_, _, _, [], [], rfl, oH3, hP3, hf3, ⟨rfl, fun i x e => by cases e⟩, rfl, fun x hx => by cases hx⟩
    · rintro i σ H4 hi ⟨v6, v7, v8, ps, ws, rfl, o4, hP4, hf2, hps, hwl, hwo⟩
      rw [show (0 : Int) + (i : Int) = (i : Int) from by omega]
      have hl40 : (ps.map V.ref).length < sizeLine := Nat.lt_of_le_of_lt (by rw [List.length_map, hps.1]; omega : (ps.map V.ref).length ≤ 40) (by decide)
      have fin : ∀ (one oth : Int) (H7 : Hp) (a : Addr), H7 a = none → Oth p c H4 H7 → PoolAt H7 p c → 0 ≤ one → one ≤ 400000 → 0 ≤ oth → oth ≤ 400000 →
          ∃ (u6 u7 u8 : Option V) (ps' : List Addr) (ws' : List (Int × Int)), ([some (.ref p), some (.int (n : Int)), some (.int tp), some (.int kd), some (.ref f), some (.int (tp + dm)), some (.int (i : Int)), some (.int one), some (.int oth)] : L2.St) = [some (.ref p), some (.int (n : Int)), some (.int tp), some (.int kd), some (.ref f), some (.int (tp + dm)), u6, u7, u8] ∧
            Oth p c H (upd (upd H7 a (.tup [.int (if oth < one then oth else one), .int (if oth > one then oth else one)])) f (.lst (ps.map V.ref ++ [.ref a]))) ∧
            PoolAt (upd (upd H7 a (.tup [.int (if oth < one then oth else one), .int (if oth > one then oth else one)])) f (.lst (ps.map V.ref ++ [.ref a]))) p c ∧
            upd (upd H7 a (.tup [.int (if oth < one then oth else one), .int (if oth > one then oth else one)])) f (.lst (ps.map V.ref ++ [.ref a])) f = some (.lst (ps'.map V.ref)) ∧
            Prs (upd (upd H7 a (.tup [.int (if oth < one then oth else one), .int (if oth > one then oth else one)])) f (.lst (ps.map V.ref ++ [.ref a]))) ps' ws' ∧ ws'.length = i + 1 ∧ WinOk ws' := fun one oth H7 a ha o7 hP7 b1 b2 b3 b4 => by
        have sa := same_upd (o := .tup [.int (if oth < one then oth else one), .int (if oth > one then oth else one)]) ha
        have hf7 := o7 _ _ hfp.1 hfp.2 hf2
        have hf8 := sa _ _ hf7
        refine ⟨_, _, _, ps ++ [a], ws ++ [(if oth < one then oth else one, if oth > one then oth else one)], rfl, ((o4.trans o7).same sa).wr hfH, (hP7.same sa).wr hfp, by rw [upd_same, List.map_append] <;> rfl, ?_, by rw [List.length_append, hwl] <;> rfl, fun x hx => ?_⟩
        · exact ((hps.kp ((o7.kp hP4).trans (kp_same sa))).snoc upd_same).kp (kp_lst hf8)
        · rcases List.mem_append.mp hx with z | z
          · exact hwo x z
          · rw [List.mem_singleton.mp z]
            refine ⟨?_, ?_, ?_⟩
            · show 0 ≤ (if oth < one then oth else one)
              split <;> omega
            · show (if oth < one then oth else one) ≤ (if oth > one then oth else one)
              split <;> split <;> omega
            · show (if oth > one then oth else one) ≤ 1000000
              split <;> omega
      refine ⟨_, rfl, _, rfl, _, _, rfl, rfl, p, c, _, rfl, hP4, by omega, by omega, fun H5 x5 o5 hP5 a0 a1 => ?_⟩
      refine ⟨_, rfl, _, rfl, _, _, rfl, rfl, p, c, _, rfl, hP5, by omega, by omega, fun H6 x6 o6 hP6 b0 b1 => ?_⟩
      have o6' := o5.trans o6
      refine ⟨_, rfl, rfl, _, rfl, ?_⟩
      cases e0 : decide (V.int kd = V.int 0) with
      | true =>
        refine iteT ⟨_, rfl, p, c, 4, rfl, hP6, by decide, by decide, fun H8 d8 o8 hP8 _ _ => ⟨_, _, rfl, rfl, _, rfl, if_b (fun hpos => ?_) fun hpos => ?_⟩⟩
        · have o8' := o6'.trans o8
          refine ⟨_, rfl, _, rfl, _, _, rfl, rfl, ⟨by decide, by decide⟩, _, _, rfl, rfl, p, c, _, rfl, hP8, by omega, by omega, fun H9 x9 o9 hP9 c0 c1 => ?_⟩
          refine ⟨_, rfl, _, rfl, _, _, rfl, rfl, ?_⟩
          refine ⟨_, rfl, rfl, _, rfl, ?_⟩
          cases e1 : decide (V.int kd = V.int 1) with
          | true =>
            refine iteT ?_
            refine ⟨_, rfl, _, rfl, p, c, 2, rfl, hP9, by decide, by decide, fun H6 d6 o6 hP6 u0 u1 => ⟨_, _, rfl, rfl, ?_⟩⟩
            refine ⟨_, rfl, _, _, rfl, rfl, _, rfl, p, c, 2, rfl, hP6, by decide, by decide, fun H7 d7 o7 hP7 w0 w1 => ⟨_, _, rfl, rfl, ?_⟩⟩
            have hf7 := ((Oth.trans (o8'.trans o9) o6).trans o7) _ _ hfp.1 hfp.2 hf2
            refine ⟨_, rfl, .inl ⟨rfl, _, SqL.of hf7⟩, _, rfl, _, rfl, _, _, rfl, _, rfl, _, rfl, _, _, rfl, by show 2 ≤ sizeLine; decide, fun a ha => ⟨f, _, _, rfl, rfl, (same_upd ha) _ _ hf7, hl40, fin _ _ H7 a ha ((Oth.trans (o8'.trans o9) o6).trans o7) hP7 (by omega) (by omega) (by omega) (by omega)⟩⟩
          | false =>
            refine iteF ?_
            have hf7 := ((o8'.trans o9)) _ _ hfp.1 hfp.2 hf2
            refine ⟨_, rfl, .inl ⟨rfl, _, SqL.of hf7⟩, _, rfl, _, rfl, _, _, rfl, _, rfl, _, rfl, _, _, rfl, by show 2 ≤ sizeLine; decide, fun a ha => ⟨f, _, _, rfl, rfl, (same_upd ha) _ _ hf7, hl40, fin _ _ H9 a ha ((o8'.trans o9)) hP9 (by omega) (by omega) (by omega) (by omega)⟩⟩
        · refine ⟨_, rfl, rfl, _, rfl, ?_⟩
          cases e1 : decide (V.int kd = V.int 1) with
          | true =>
            refine iteT ?_
            refine ⟨_, rfl, _, rfl, p, c, 2, rfl, hP8, by decide, by decide, fun H6 d6 o6 hP6 u0 u1 => ⟨_, _, rfl, rfl, ?_⟩⟩
            refine ⟨_, rfl, _, _, rfl, rfl, _, rfl, p, c, 2, rfl, hP6, by decide, by decide, fun H7 d7 o7 hP7 w0 w1 => ⟨_, _, rfl, rfl, ?_⟩⟩
            have hf7 := ((Oth.trans (o6'.trans o8) o6).trans o7) _ _ hfp.1 hfp.2 hf2
            refine ⟨_, rfl, .inl ⟨rfl, _, SqL.of hf7⟩, _, rfl, _, rfl, _, _, rfl, _, rfl, _, rfl, _, _, rfl, by show 2 ≤ sizeLine; decide, fun a ha => ⟨f, _, _, rfl, rfl, (same_upd ha) _ _ hf7, hl40, fin _ _ H7 a ha ((Oth.trans (o6'.trans o8) o6).trans o7) hP7 (by omega) (by omega) (by omega) (by omega)⟩⟩
          | false =>
            refine iteF ?_
            have hf7 := ((o6'.trans o8)) _ _ hfp.1 hfp.2 hf2
            refine ⟨_, rfl, .inl ⟨rfl, _, SqL.of hf7⟩, _, rfl, _, rfl, _, _, rfl, _, rfl, _, rfl, _, _, rfl, by show 2 ≤ sizeLine; decide, fun a ha => ⟨f, _, _, rfl, rfl, (same_upd ha) _ _ hf7, hl40, fin _ _ H8 a ha ((o6'.trans o8)) hP8 (by omega) (by omega) (by omega) (by omega)⟩⟩
      | false =>
        refine iteF (iteF ?_)
        refine ⟨_, rfl, rfl, _, rfl, ?_⟩
        cases e1 : decide (V.int kd = V.int 1) with
        | true =>
          refine iteT ?_
          refine ⟨_, rfl, _, rfl, p, c, 2, rfl, hP6, by decide, by decide, fun H6 d6 o6 hP6 u0 u1 => ⟨_, _, rfl, rfl, ?_⟩⟩
          refine ⟨_, rfl, _, _, rfl, rfl, _, rfl, p, c, 2, rfl, hP6, by decide, by decide, fun H7 d7 o7 hP7 w0 w1 => ⟨_, _, rfl, rfl, ?_⟩⟩
          have hf7 := ((Oth.trans (o6') o6).trans o7) _ _ hfp.1 hfp.2 hf2
          refine ⟨_, rfl, .inl ⟨rfl, _, SqL.of hf7⟩, _, rfl, _, rfl, _, _, rfl, _, rfl, _, rfl, _, _, rfl, by show 2 ≤ sizeLine; decide, fun a ha => ⟨f, _, _, rfl, rfl, (same_upd ha) _ _ hf7, hl40, fin _ _ H7 a ha ((Oth.trans (o6') o6).trans o7) hP7 (by omega) (by omega) (by omega) (by omega)⟩⟩
        | false =>
          refine iteF ?_
          have hf7 := ((o6')) _ _ hfp.1 hfp.2 hf2
          refine ⟨_, rfl, .inl ⟨rfl, _, SqL.of hf7⟩, _, rfl, _, rfl, _, _, rfl, _, rfl, _, rfl, _, _, rfl, by show 2 ≤ sizeLine; decide, fun a ha => ⟨f, _, _, rfl, rfl, (same_upd ha) _ _ hf7, hl40, fin _ _ H6 a ha ((o6')) hP6 (by omega) (by omega) (by omega) (by omega)⟩⟩
    · rintro σ H4 ⟨v6, v7, v8, ps, ws, rfl, o4, hP4, hf4, hps, hwl, hwo⟩
      refine ⟨_, rfl, f, _, rfl, .inl ⟨SqL.of hf4, fun t ht => ?_⟩⟩
      have st := same_upd (o := .tup (ps.map V.ref)) ht
      obtain ⟨g1, g2⟩ := hps.kp (kp_same st)
      exact k _ t ws (o4.same st) (hP4.same st) ⟨ps, upd_same, g1, g2⟩ hwl hwo
end
end K73
set_option Elab.async false
set_option linter.all false
set_option maxRecDepth 100000
set_option maxHeartbeats 4000000
/-! The law. -/
namespace K73
open PySem PySem.Spec PyProof.Rows L2
theorem fm_map (f : V → V) : ∀ xs : List V, xs.filterMap (fun v => some (f v)) = xs.map f
  | [] => rfl
  | x :: xs => by rw [List.filterMap_cons, fm_map f xs] <;> rfl
theorem rg_row (n : Nat) : rgV 0 (n : Int) = rowV (List.range n) := by
  unfold rgV rowV
  rw [show ((n : Int) - 0).toNat = n from by omega]
  exact List.map_congr_left fun i _ => by
    show V.int (0 + (i : Int)) = V.int (i : Int)
    rw [show (0 : Int) + (i : Int) = (i : Int) from by omega]
theorem fiR_nn {ws : List (Int × Int)} (h : WinOk ws) (k : Nat) : 0 ≤ fiR ws k := by
  cases e : ws[k]? with
  | none =>
    unfold fiR
    rw [List.getD_eq_getElem?_getD, e]
    exact Int.le_refl _
  | some x =>
    rw [fiR_of e]
    exact (h x (List.mem_of_getElem? e)).1
/-- what stands through the law's turns -/
structure Wd (K : PySem.W.Frag) (H : Hp) (p c t b D D2 : Addr) (ws : List (Int × Int)) (as : List Addr) (Rs : List (List Nat)) (zs : List Int) : Prop where
  pool : PoolAt H p c
  wins : WinsAt H t ws
  book : BookAt (CB K) H b ws
  ords : H D = some (.lst (as.map V.ref))
  regs : H D2 = some (.lst (zs.map V.int))
  rows : ∀ (j : Nat) (R : List Nat), Rs[j]? = some R → ∃ a, as[j]? = some a ∧ H a = some (.tup (rowV R))
  tabs : LamX.Tabs (Tb K) H
  nD : D ≠ p ∧ D ≠ c
  nD2 : D2 ≠ p ∧ D2 ≠ c
theorem Wd.oth {K : PySem.W.Frag} {H H' : Hp} {p c t b D D2 : Addr} {ws : List (Int × Int)} {as : List Addr} {Rs : List (List Nat)} {zs : List Int} (h : Wd K H p c t b D D2 ws as Rs zs) (s : Oth p c H H') (hP : PoolAt H' p c) : Wd K H' p c t b D D2 ws as Rs zs where
  pool := hP
  wins := h.wins.kp (s.kp h.pool)
  book := h.book.kp (s.kp h.pool)
  ords := s _ _ h.nD.1 h.nD.2 h.ords
  regs := s _ _ h.nD2.1 h.nD2.2 h.regs
  rows := fun j R e => by
    obtain ⟨a, e1, e2⟩ := h.rows j R e
    exact ⟨a, e1, s.keep h.pool e2 fun xs z => nomatch z⟩
  tabs := s.tabs h.pool h.tabs
  nD := h.nD
  nD2 := h.nD2
theorem Wd.same {K : PySem.W.Frag} {H H' : Hp} {p c t b D D2 : Addr} {ws : List (Int × Int)} {as : List Addr} {Rs : List (List Nat)} {zs : List Int} (h : Wd K H p c t b D D2 ws as Rs zs) (s : Same H H') : Wd K H' p c t b D D2 ws as Rs zs := h.oth (Oth.of s) (h.pool.same s)
theorem PoolAt.ext {H H' : Hp} {p c : Addr} (h : PoolAt H p c) (s : LamX.ExtN H H') : PoolAt H' p c := by
  obtain ⟨sd, n, cs, h1, h2⟩ := h
  exact ⟨sd, n, cs, s _ _ h1 (fun ps z => nomatch z), s _ _ h2 fun ps z => nomatch z⟩
theorem Wd.ext {K : PySem.W.Frag} {H H' : Hp} {p c t b D D2 : Addr} {ws : List (Int × Int)} {as : List Addr} {Rs : List (List Nat)} {zs : List Int} (h : Wd K H p c t b D D2 ws as Rs zs) (s : LamX.ExtN H H') (hT : LamX.Tabs (Tb K) H') : Wd K H' p c t b D D2 ws as Rs zs where
  pool := h.pool.ext s
  wins := h.wins.kp (kp_extN s)
  book := h.book.kp (kp_extN s)
  ords := s _ _ h.ords fun ps z => nomatch z
  regs := s _ _ h.regs fun ps z => nomatch z
  rows := fun j R e => by
    obtain ⟨a, e1, e2⟩ := h.rows j R e
    exact ⟨a, e1, s _ _ e2 fun ps z => nomatch z⟩
  tabs := hT
  nD := h.nD
  nD2 := h.nD2
/-- a value by one of two calls, what both promise -/
theorem ite_R {b : Bool} {ta tb : TE} {σ : L2.St} {H : Hp} {R : VK} (C : V → Hp → Prop) (ha : ∀ R : VK, (∀ x H', C x H' → R x H') → ta σ H R) (hb : ∀ R : VK, (∀ x H', C x H' → R x H') → tb σ H R) (h : ∀ x H', C x H' → R x H') : if b = true then ta σ H R else tb σ H R := by
  cases b with
  | true => exact iteT (ha R h)
  | false => exact iteF (hb R h)
section
variable {P : Program} {w : World} {K : PySem.W.Frag} {mg : Str → Option Value} {base : Heap}
theorem sc_law : FnScope (["_law_script", "_law_pool_here", "_law_many", "_law_windows_here", "_law_book", "_law_orders", "_law_regrets", "_law_turn", "_law_works", "_law_lot_here", "_law_least", "_law_k", "_law_own", "_law_order", "_law_number", "_law_row_here"] : List Str) (["_law_script"] : List Str) (defScope s_law) := ⟨rfl, rfl, rfl, by decide +kernel, rfl, by decide +kernel, by decide +kernel⟩
def sp_law (K : PySem.W.Frag) : Sp := fun vs H Q _ => ∃ (a : Addr) (ns : List Int), vs = [.ref a] ∧ SqL K H a (ns.map V.int) ∧ ns.length ≤ 1000 ∧ LamX.Tabs (Tb K) H ∧ ∀ H', Q (.bl true) H'
theorem ok_law (T : Tx K mg) (O : TabsOk K mg base) {fd : FuncData} (F : FnP K "law" s_law (He.ga K "law") fd) : FnOk P w K mg base CX0 9 (He.ga K "law") fd (["_law_script"] : List Str) (sp_law K) := by
  obtain ⟨fd_init, G_init, b_init⟩ := ok_init (P := P) (w := w) (base := base) T
  obtain ⟨fd_regret, G_regret, kp_regret, b_regret⟩ := ok_regret (P := P) (w := w) (base := base) T O
  obtain ⟨fd_least_late, G_least_late, kp_least_late, b_least_late⟩ := ok_least_late (P := P) (w := w) (base := base) T O
  obtain ⟨fd_lateness, G_lateness, kp_lateness, b_lateness⟩ := ok_lateness (P := P) (w := w) (base := base) T
  obtain ⟨fd_w_pool, G_w_pool, kp_w_pool, b_w_pool⟩ := ok_w_pool (P := P) (w := w) (base := base) T
  obtain ⟨fd_w_draw, G_w_draw, kp_w_draw, b_w_draw⟩ := ok_w_draw (P := P) (w := w) (base := base) T
  obtain ⟨fd_w_windows, G_w_windows, kp_w_windows, b_w_windows⟩ := ok_w_windows (P := P) (w := w) (base := base) T
  obtain ⟨fd_w_row, G_w_row, kp_w_row, b_w_row⟩ := ok_w_row (P := P) (w := w) (base := base) T
  obtain ⟨fd_w_is_int, G_w_is_int, kp_w_is_int, b_w_is_int⟩ := ok_w_is_int (P := P) (w := w) (base := base) T
  obtain ⟨fd_w_some, G_w_some, kp_w_some, b_w_some⟩ := ok_w_some (P := P) (w := w) (base := base) T
  obtain ⟨fd_w_lot, G_w_lot, kp_w_lot, b_w_lot⟩ := ok_w_lot (P := P) (w := w) (base := base) T
  obtain ⟨fd_w_long, G_w_long, kp_w_long, b_w_long⟩ := ok_w_long (P := P) (w := w) (base := base) T
  obtain ⟨fd_w_perms, G_w_perms, kp_w_perms, b_w_perms⟩ := ok_w_perms (P := P) (w := w) (base := base) T
  obtain ⟨fd_w_lateness, G_w_lateness, kp_w_lateness, b_w_lateness⟩ := ok_w_lateness (P := P) (w := w) (base := base) T
  refine F.ok sc_law (fun vs H Q E h => ?_) (fun cdv A outer s0 H vs Q E hr h => ?_)
  · obtain ⟨a, ns, rfl, _⟩ := h
    rfl
  · obtain ⟨a, ns, rfl, hx, hn, hT, k⟩ := h
    refine ⟨_, PSs.nox (pss_cons (ps_set (i := 1) sc_law.nd rfl (Or.inr rfl) (pe_call G_w_pool (hr.mono (by decide)) (by rfl) T.g_w_pool kp_w_pool b_w_pool .nil pass0 (pa_cons (pv 0) pa_nil)))
      (pss_cons (ps_set (i := 2) sc_law.nd rfl (Or.inr rfl) (pe_op op_add pe_int (pe_call G_w_draw (hr.mono (by decide)) (by rfl) T.g_w_draw kp_w_draw b_w_draw .nil pass0 (pa_cons (pv 1) (pa_cons pe_int pa_nil)))))
      (pss_cons (ps_set (i := 3) sc_law.nd rfl (Or.inr rfl) (pe_call G_w_windows (hr.mono (by decide)) (by rfl) T.g_w_windows kp_w_windows b_w_windows .nil pass0 (pa_cons (pv 1) (pa_cons (pv 2) (pa_cons (pe_ix (ix_listK (K := K) rfl) (pe_lst (pa_cons pe_int (pa_cons pe_int (pa_cons (pe_op op_pow pe_int pe_int) pa_nil)))) (pe_call G_w_draw (hr.mono (by decide)) (by rfl) T.g_w_draw kp_w_draw b_w_draw .nil pass0 (pa_cons (pv 1) (pa_cons pe_int pa_nil))) (fun _ _ => rfl)) pa_nil)))))
      (pss_cons (ps_set (i := 4) sc_law.nd rfl (Or.inr rfl) (pe_make T.mkB G_init (hr.mono (by decide)) (by rfl) T.gB b_init .nil pass0 (pa_cons (pv 3) pa_nil)))
      (pss_cons (ps_setLc (i := 5) (own := [("_law_turn", 7)]) rfl sc_law.nd rfl rfl (sw_true rfl rfl rfl (by decide +kernel))  (pi_range1 (by rfl) T.n_range (pa_cons pe_int pa_nil)) (blkOk_by (own := [("_law_turn", 7)]) (N := (["_law_script", "_law_pool_here", "_law_many", "_law_windows_here", "_law_book", "_law_orders", "_law_regrets", "_law_turn", "_law_works", "_law_lot_here", "_law_least", "_law_k", "_law_own", "_law_order", "_law_number", "_law_row_here"] : List Str)) (sc := defScope s_law) (by decide +kernel)) (fun _ _ _ _ _ => (pg_name (i := 7) sc_law.nd rfl (Or.inl rfl))) (fun _ _ _ _ _ => pts_nil) (fun _ _ _ _ _ => (pe_call G_w_row (hr.mono (by decide)) (by rfl) T.g_w_row kp_w_row b_w_row .nil pass0 (pa_cons (pv 1) (pa_cons (pe_tupRg rfl (by rfl) T.n_tuple (prg_1 (by rfl) T.n_range (pv 2))) pa_nil)))))
      (pss_cons (ps_setLc (i := 6) (own := [("_law_order", 13)]) rfl sc_law.nd rfl rfl (sw_true rfl rfl rfl (by decide +kernel))  (pi_list (pv 5)) (blkOk_by (own := [("_law_order", 13)]) (N := (["_law_script", "_law_pool_here", "_law_many", "_law_windows_here", "_law_book", "_law_orders", "_law_regrets", "_law_turn", "_law_works", "_law_lot_here", "_law_least", "_law_k", "_law_own", "_law_order", "_law_number", "_law_row_here"] : List Str)) (sc := defScope s_law) (by decide +kernel)) (fun _ _ _ _ _ => (pg_name (i := 13) sc_law.nd rfl (Or.inl rfl))) (fun _ _ _ _ _ => pts_nil) (fun _ _ _ _ _ => (pe_call G_regret (hr.mono (by decide)) (by rfl) T.g_regret kp_regret b_regret .nil pass0 (pa_cons (pv 4) (pa_cons (pv 13) pa_nil)))))
      (pss_cons (ps_if (pt_not (pt_val (pe_callB (cr_all rfl) (by rfl) T.n_all (by decide +kernel) (pa_cons (pe_lc (own := [("_law_number", 14)]) rfl sc_law.nd (pi_list (pv 6)) (blkOk_by (own := [("_law_number", 14)]) (N := (["_law_script", "_law_pool_here", "_law_many", "_law_windows_here", "_law_book", "_law_orders", "_law_regrets", "_law_turn", "_law_works", "_law_lot_here", "_law_least", "_law_k", "_law_own", "_law_order", "_law_number", "_law_row_here"] : List Str)) (sc := defScope s_law) (by decide +kernel)) (fun _ _ _ _ _ => (pg_name (i := 14) sc_law.nd rfl (Or.inl rfl))) (fun _ _ _ _ _ => pts_nil) (fun _ _ _ _ _ => (pe_and (pe_call G_w_is_int (hr.mono (by decide)) (by rfl) T.g_w_is_int kp_w_is_int b_w_is_int .nil pass0 (pa_cons (pv 14) pa_nil)) (pe_one (pe_cmpR op_ge (pv 14) pe_int (nomark _)))))) pa_nil)))) (pss_one (ps_ret pe_bl)) pss_nil)
      (pss_cons (ps_for PassesOwn.never rfl (pi_range1 (by rfl) T.n_range (pa_cons pe_int pa_nil)) (pg_name (i := 7) sc_law.nd rfl (Or.inl rfl)) (pss_cons (ps_set (i := 8) sc_law.nd rfl (Or.inl rfl) (pe_call G_w_some (hr.mono (by decide)) (by rfl) T.g_w_some kp_w_some b_w_some .nil pass0 (pa_cons (pv 1) (pa_cons (pv 2) pa_nil))))
      (pss_cons (ps_set (i := 9) sc_law.nd rfl (Or.inr rfl) (pe_ifExp (pt_cmpR op_eq (pv 7) pe_int (nomark _)) (pe_call G_w_lot (hr.mono (by decide)) (by rfl) T.g_w_lot kp_w_lot b_w_lot .nil pass0 (pa_cons (pv 1) (pa_cons (pv 3) (pa_cons (pv 8) pa_nil)))) (pe_call G_w_long (hr.mono (by decide)) (by rfl) T.g_w_long kp_w_long b_w_long .nil pass0 (pa_cons (pv 1) (pa_cons (pv 3) (pa_cons (pv 8) pa_nil))))))
      (pss_one (ps_if (pt_cmpR op_gt (pe_callB (call_len_seqK (K := K) rfl) (by rfl) T.n_len (by decide +kernel) (pa_cons (pv 8) pa_nil)) pe_int (nomark _)) (pss_cons (ps_set (i := 10) sc_law.nd rfl (Or.inl rfl) (pe_callB (cr_min rfl) (by rfl) T.n_min (by decide +kernel) (pa_cons (pe_lc (own := [("_law_row_here", 15)]) rfl sc_law.nd (pi_list (pe_call G_w_perms (hr.mono (by decide)) (by rfl) T.g_w_perms kp_w_perms b_w_perms .nil pass0 (pa_cons (pv 8) pa_nil))) (blkOk_by (own := [("_law_row_here", 15)]) (N := (["_law_script", "_law_pool_here", "_law_many", "_law_windows_here", "_law_book", "_law_orders", "_law_regrets", "_law_turn", "_law_works", "_law_lot_here", "_law_least", "_law_k", "_law_own", "_law_order", "_law_number", "_law_row_here"] : List Str)) (sc := defScope s_law) (by decide +kernel)) (fun _ _ _ _ _ => (pg_name (i := 15) sc_law.nd rfl (Or.inl rfl))) (fun _ _ _ _ _ => pts_nil) (fun _ _ _ _ _ => (pe_call G_w_lateness (hr.mono (by decide)) (by rfl) T.g_w_lateness kp_w_lateness b_w_lateness .nil pass0 (pa_cons (pv 3) (pa_cons (pv 15) (pa_cons (pv 9) pa_nil)))))) pa_nil)))
      (pss_cons (ps_if (pt_cmpR op_ne (pe_call G_least_late (hr.mono (by decide)) (by rfl) T.g_least_late kp_least_late b_least_late .nil pass0 (pa_cons (pv 4) (pa_cons (pv 9) pa_nil))) (pv 10) (nomark _)) (pss_one (ps_ret pe_bl)) pss_nil)
      (pss_one (ps_for PassesOwn.never rfl (pi_range1 (by rfl) T.n_range (pa_cons pe_int pa_nil)) (pg_name (i := 11) sc_law.nd rfl (Or.inl rfl)) (pss_cons (ps_set (i := 12) sc_law.nd rfl (Or.inl rfl) (pe_call G_w_lateness (hr.mono (by decide)) (by rfl) T.g_w_lateness kp_w_lateness b_w_lateness .nil pass0 (pa_cons (pv 3) (pa_cons (pe_ix (ix_listK (K := K) rfl) (pv 5) (pv 11) (fun _ _ => rfl)) (pa_cons (pv 9) pa_nil)))))
      (pss_one (ps_if (PW.pt (pw_or (pt_cmpR op_ne (pe_call G_lateness (hr.mono (by decide)) (by rfl) T.g_lateness kp_lateness b_lateness .nil pass0 (pa_cons (pv 4) (pa_cons (pe_ix (ix_listK (K := K) rfl) (pv 5) (pv 11) (fun _ _ => rfl)) (pa_cons (pv 9) pa_nil)))) (pv 12) (nomark _)) (pw_or1 (pt_cmpR op_gt (pe_op op_sub (pv 12) (pv 10)) (pe_ix (ix_listK (K := K) rfl) (pv 6) (pv 11) (fun _ _ => rfl)) (nomark _))))) (pss_one (ps_ret pe_bl)) pss_nil))))))) pss_nil)))))
      (pss_one (ps_ret pe_bl)))))))))), ?_⟩
    refine ⟨_, rfl, a, ns, rfl, hx, hn, fun H1 p c s1 hP1 => ?_⟩
    have hT1 := tabs_same hT s1
    refine ⟨_, rfl, p, c, 5, rfl, hP1, by decide, by decide, fun H2 dm o2 hP2 m0 m1 => ⟨_, _, rfl, rfl, ?_⟩⟩
    have hT2 := o2.tabs hP1 hT1
    obtain ⟨n, en⟩ : ∃ n : Nat, 1 + dm = (n : Int) := ⟨(1 + dm).toNat, by omega⟩
    have n5 : n ≤ 5 := by omega
    have n1 : 1 ≤ n := by omega
    show tSeq _ _ _ (List.set _ 2 (some (V.int (1 + dm)))) H2
    rw [en]
    -- windows
    refine ⟨_, rfl, _, rfl, _, _, rfl, rfl, ⟨by decide, by decide, by decide⟩, by show 3 ≤ sizeLine; decide, fun q hq => ?_⟩
    have hqp := hP2.new hq
    have s2 := same_upd (o := .lst [.int 5, .int 12, .int (10 ^ (5 : Int).toNat)]) hq
    refine ⟨_, rfl, p, c, 3, rfl, hP2.same s2, by decide, by decide, fun H3 d3 o3 hP3 d0 d1 => ?_⟩
    have hq3 : H3 q = some (.lst [.int 5, .int 12, .int (10 ^ (5 : Int).toNat)]) := o3 _ _ hqp.1 hqp.2 upd_same
    have hT3 := o3.tabs (hP2.same s2) (tabs_same hT2 s2)
    obtain ⟨tp, htp, htp0, htp1⟩ : ∃ tp : Int, atI ([.int 5, .int 12, .int (10 ^ (5 : Int).toNat)] : List V) d3 = some (.int tp) ∧ 0 ≤ tp ∧ tp ≤ 100000 := by
      have : d3 = 0 ∨ d3 = 1 ∨ d3 = 2 := by omega
      rcases this with z | z | z <;> subst z
      · exact ⟨5, atI_nat (j := 0) rfl, by decide, by decide⟩
      · exact ⟨12, atI_nat (j := 1) rfl, by decide, by decide⟩
      · exact ⟨_, atI_nat (j := 2) rfl, by decide, by decide⟩
    refine ⟨q, _, d3, _, rfl, rfl, SqL.of hq3, htp, p, c, n, tp, rfl, hP3, n5, htp0, htp1, fun H4 t ws o4 hP4 hw4 hwl hwo => ?_⟩
    have hT4 := o4.tabs hP3 hT3
    -- the book
    refine ⟨_, rfl, fun b dx hb hdx hne => ⟨b, CB K, dx, t, ws, rfl, rfl, upd_same, ?_, by omega, by omega, hwo, fun H5 hb5 s5 => ⟨rfl, ?_⟩⟩⟩
    · exact hw4.kp (kp_same ((same_upd hdx).trans (same_upd (by rw [upd_ne hne.symm]; exact hb))))
    have hs5 : Same H4 H5 := fun b' o e => s5 b' o (ne_of_none e hb) (by
      rw [upd_ne (ne_of_none e hb), upd_ne (ne_of_none e hdx)]
      exact e)
    have hb5' : BookAt (CB K) H5 b ws := ⟨dx, t, hb5, hw4.kp (kp_same hs5)⟩
    have hw5 := hw4.kp (kp_same hs5)
    have hP5 := hP4.same hs5
    have hT5 := tabs_same hT4 hs5
    -- the orders
    refine ⟨2, rfl, by decide, by decide, fun D hD => ?_⟩
    have hDp := hP5.new hD
    refine lc_range (fun i H6 => Oth p c H5 H6 ∧ PoolAt H6 p c ∧ ∃ (as : List Addr) (Rs : List (List Nat)), H6 D = some (.lst (as.map V.ref)) ∧ as.length = i ∧ Rs.length = i ∧ (∀ (j : Nat) (R : List Nat), Rs[j]? = some R → ∃ a, as[j]? = some a ∧ H6 a = some (.tup (rowV R))) ∧ ∀ R ∈ Rs, R.Perm (List.range n)) ?_ ?_ ?_
    · exact ⟨Oth.of (same_upd hD), hP5.same (same_upd hD), [], [], upd_same, rfl, rfl, fun j R e => (by cases e), fun R hR => (by cases hR)⟩
    · rintro i H6 hi ⟨o6, hP6, as, Rs, hD6, hal, hRl, hrows, hperm⟩
      refine ⟨rfl, ?_⟩
      refine ⟨_, rfl, _, rfl, _, rfl, RgOk.of_le (by decide) (by omega) (by decide) (by omega), fun g hg => ?_⟩
      have sg := same_upd (o := .tup (rgV 0 (n : Int))) hg
      refine ⟨p, c, g, List.range n, rfl, hP6.same sg, by rw [upd_same, rg_row], by rw [List.length_range]; omega, fun H7 r R o7 hP7 hr7 hRp => ?_⟩
      have o67 : Oth p c H6 H7 := (Oth.of sg).trans o7
      have hD7 := o67 _ _ hDp.1 hDp.2 hD6
      refine ⟨_, hD7, Nat.lt_of_le_of_lt (by rw [List.length_map]; omega : (as.map V.ref).length ≤ 2) (by decide), (o6.trans o67).wr hD, hP7.wr hDp, as ++ [r], Rs ++ [R], ?_, ?_, ?_, ?_, ?_⟩
      · rw [upd_same, List.map_append] <;> rfl
      · rw [List.length_append, hal] <;> rfl
      · rw [List.length_append, hRl] <;> rfl
      · intro j R' e
        have kp7 : Kp H6 (upd H7 D (.lst (as.map V.ref ++ [.ref r]))) := (o67.kp hP6).trans (kp_lst hD7)
        by_cases hlt : j < Rs.length
        · rw [List.getElem?_append_left hlt] at e
          obtain ⟨a', e1, e2⟩ := hrows j R' e
          exact ⟨a', by rw [List.getElem?_append_left (by omega)]; exact e1, kp7.tup e2⟩
        · have hj2 := (List.getElem?_eq_some_iff.mp e).1
          rw [List.length_append] at hj2
          have hj2 : j < Rs.length + 1 := hj2
          have ej : j = Rs.length := by omega
          subst ej
          rw [List.getElem?_append_right (Nat.le_refl _), Nat.sub_self] at e
          have e : R = R' := Option.some.inj e
          subst e
          refine ⟨r, ?_, (kp_lst hD7) _ _ hr7 trivial⟩
          rw [hRl, ← hal, List.getElem?_append_right (Nat.le_refl _), Nat.sub_self] <;> rfl
      · intro R' hR'
        rcases List.mem_append.mp hR' with z | z
        · exact hperm R' z
        · rw [List.mem_singleton.mp z]
          exact hRp
    · rintro H6 ⟨o6, hP6, as, Rs, hD6, hal, hRl, hrows, hperm⟩
      have hT6 := o6.tabs hP5 hT5
      have hb6 := hb5'.kp (o6.kp hP5)
      have hw6 := hw5.kp (o6.kp hP5)
      have rok : ∀ R ∈ Rs, RowOk ws.length R ∧ R.length = ws.length := fun R hR => by
        have hp := hperm R hR
        have hl := hp.length_eq
        rw [List.length_range] at hl
        exact ⟨⟨hp.symm.nodup List.nodup_range, fun k hk => by
          have := List.mem_range.mp (hp.mem_iff.mp hk)
          omega, by omega⟩, by omega⟩
      -- the regrets
      refine ⟨_, rfl, D, rfl, ⟨_, SqL.of hD6⟩, fun D2 hD2 => ?_⟩
      have hD2p := hP6.new hD2
      have nDD : D ≠ D2 := ne_of_none hD6 hD2
      refine lc_list (K := K) (xs := as.map V.ref) (Pv := fun i H7 => LamX.ExtN H6 H7 ∧ LamX.Tabs (Tb K) H7 ∧ ∃ zs : List Int, H7 D2 = some (.lst (zs.map V.int)) ∧ zs.length = i ∧ ∀ (j : Nat) (z : Int), zs[j]? = some z → ∃ R, Rs[j]? = some R ∧ RegOk (fiR ws) (laS ws) R z) ?_ ?_ ?_ ?_
      · exact ⟨extN_same (same_upd hD2), tabs_same hT6 (same_upd hD2), [], upd_same, rfl, fun j z e => (by cases e)⟩
      · rintro i H7 _ ⟨eN, _⟩
        exact SqL.of (eN _ _ hD6 fun ps z => nomatch z)
      · rintro i xV H7 hi ⟨eN, hT7, zs, hD7, hzl, hz⟩
        obtain ⟨a1, ha1, rfl⟩ : ∃ a1, as[i]? = some a1 ∧ V.ref a1 = xV := by
          rw [List.getElem?_map] at hi
          cases e : as[i]? with
          | none => rw [e] at hi; cases hi
          | some a1 =>
            rw [e] at hi
            exact ⟨a1, rfl, Option.some.inj hi⟩
        have hil := (List.getElem?_eq_some_iff.mp ha1).1
        have eR := List.getElem?_eq_getElem (by omega : i < Rs.length)
        generalize Rs[i] = R at eR
        obtain ⟨a2, e1, e2⟩ := hrows i R eR
        rw [ha1] at e1
        cases e1
        obtain ⟨ro, rl⟩ := rok R (List.mem_of_getElem? eR)
        refine ⟨rfl, ?_⟩
        refine ⟨_, rfl, _, rfl, b, a1, ws, R, rfl, hb6.kp (kp_extN eN), eN _ _ e2 (fun ps z => nomatch z), ro, rl, hT7, fun H8 z eN8 hT8 hreg => ?_⟩
        have hD8 := eN8 _ _ hD7 fun ps z => nomatch z
        refine ⟨_, hD8, Nat.lt_of_le_of_lt (by rw [List.length_map]; omega : (zs.map V.int).length ≤ 2) (by decide), ?_, ?_, zs ++ [z], by rw [upd_same, List.map_append] <;> rfl, by rw [List.length_append, hzl] <;> rfl, fun j z' e => ?_⟩
        · intro b' o' hb' hn'
          rw [upd_ne (ne_of_none hb' hD2)]
          exact (eN.trans eN8) b' o' hb' hn'
        · refine fun pq hpq => ?_
          obtain ⟨ps, h1, h2, h3⟩ := hT8 pq hpq
          refine ⟨ps, by rw [upd_ne (ne_of h1 hD8 fun z => nomatch z)]; exact h1, h2, fun pos cv hc => ?_⟩
          obtain ⟨c', g1, g2⟩ := h3 pos cv hc
          exact ⟨c', g1, by rw [upd_ne (ne_of g2 hD8 fun z => nomatch z)]; exact g2⟩
        · by_cases hlt : j < zs.length
          · rw [List.getElem?_append_left hlt] at e
            exact hz j z' e
          · have hj2 := (List.getElem?_eq_some_iff.mp e).1
            rw [List.length_append] at hj2
            have hj2 : j < zs.length + 1 := hj2
            have ej : j = zs.length := by omega
            subst ej
            rw [List.getElem?_append_right (Nat.le_refl _), Nat.sub_self] at e
            have e : z = z' := Option.some.inj e
            subst e
            exact ⟨R, by rw [hzl]; exact eR, hreg⟩
      · rintro H7 ⟨eN, hT7, zs, hD7, hzl, hz⟩
        rw [List.length_map, hal] at hzl
        have wd7 : Wd K H7 p c t b D D2 ws as Rs zs := ⟨hP6.ext eN, hw6.kp (kp_extN eN), hb6.kp (kp_extN eN), eN _ _ hD6 (fun ps z => nomatch z), hD7, (fun j R e => by
          obtain ⟨a', e1, e2⟩ := hrows j R e
          exact ⟨a', e1, eN _ _ e2 fun ps z => nomatch z⟩), hT7, hDp, hD2p⟩
        have hznn : ∀ z ∈ zs, 0 ≤ z := fun z hz' => by
          obtain ⟨j, hj⟩ := List.mem_iff_getElem?.mp hz'
          obtain ⟨R, _, h⟩ := hz j z hj
          exact h.1
        refine ⟨_, rfl, D2, rfl, ⟨_, SqL.of hD7⟩, fun D3 hD3 => lcr_list (fun _ => some (.bl true)) (SqL.of hD7) hD3 (by rw [List.length_map]; omega) (fun y hy => turnN rfl fun H8 s8 Qy ky => ?_) fun H8 s8 hD8 => ?_⟩
        · obtain ⟨z, hz', rfl⟩ := List.mem_map.mp hy
          refine ⟨_, rfl, z, rfl, true, rfl, iteT ⟨_, rfl, _, _, rfl, rfl, q_t (hznn z hz') (ky _ (Same.refl _))⟩⟩
        · rw [fm_true] at hD8
          refine ⟨_, _, rfl, SqL.of hD8, true, by rw [all_true], iteF ?_⟩
          have wd8 := wd7.same s8
          -- the turns
          refine ⟨4, rfl, by decide, by decide, for_range (fun i σ H9 => ∃ (v7 v8 v9 v10 v11 v12 : Option V), σ = [some (.ref a), some (.ref p), some (.int (n : Int)), some (.ref t), some (.ref b), some (.ref D), some (.ref D2), v7, v8, v9, v10, v11, v12, none, none, none] ∧ Wd K H9 p c t b D D2 ws as Rs zs) ?_ ?_ ?_⟩
          · exact ⟨_, _, _, _, _, _, rfl, wd8⟩
          · rintro i σ H9 hi ⟨v7, v8, v9, v10, v11, v12, rfl, wd⟩
            refine ⟨_, rfl, _, rfl, p, c, n, rfl, wd.pool, by omega, fun H10 s ks o10 hP10 hs10 hnd hlt => ?_⟩
            have wd10 := wd.oth o10 hP10
            have hlt2 : ∀ j ∈ ks, j < ws.length := fun j hj => by
              have := hlt j hj
              omega
            have ksl : ks.length ≤ 5 := by
              have h1 := (sub_perm ks (List.range n) hnd fun j hj => List.mem_range.mpr (hlt j hj))
              obtain ⟨t', ht'⟩ := h1
              have := ht'.length_eq
              rw [List.length_range, List.length_append] at this
              omega
            refine ⟨_, rfl, rfl, _, rfl, ite_R (fun x H11 => ∃ q lot, x = .ref q ∧ Oth p c H10 H11 ∧ PoolAt H11 p c ∧ H11 q = some (.tup (lotV lot)) ∧ lot.length = ws.length ∧ (∀ k, k < ws.length → (isT lot k = true ↔ k ∈ ks)) ∧ ∀ x, some x ∈ lot → 0 ≤ x) ?_ ?_ ?_⟩
            · intro R hR
              exact ⟨_, rfl, _, rfl, _, rfl, p, c, t, s, ws, ks, rfl, hP10, wd10.wins, hs10, by omega, hwo, fun H11 q lot g1 g2 g3 g4 g5 g6 => hR _ _ ⟨q, lot, rfl, g1, g2, g3, g4, g5, g6⟩⟩
            · intro R hR
              exact ⟨_, rfl, _, rfl, _, rfl, p, c, t, s, ws, ks, rfl, hP10, wd10.wins, hs10, by omega, by omega, hlt2, fun H11 q lot g1 g2 g3 g4 g5 g6 => hR _ _ ⟨q, lot, rfl, g1, g2, g3, g4, g5, g6⟩⟩
            · rintro x H11 ⟨q, lot, rfl, o11, hP11, hq11, hll, hiff, hnn⟩
              have wd11 := wd10.oth o11 hP11
              have hs11 := o11.keep hP10 hs10 fun xs z => nomatch z
              have lo : LotOk ws.length lot := ⟨hll, hnn, by omega⟩
              have hpp : (pres lot).Perm ks := perm_of_mem (pres_nodup lot) hnd fun j => by
                rw [pres_mem]
                constructor
                · intro h
                  have := pres_lt (pres_mem.mpr h)
                  exact (hiff j (by omega)).mp h
                · intro h
                  exact (hiff j (hlt2 j h)).mpr h
              have hall : ∀ j ∈ ks, isT lot j = true := fun j hj => pres_mem.mp (hpp.mem_iff.mpr hj)
              refine ⟨_, rfl, s, _, rfl, .inr (SqT.of hs11), _, _, rfl, rfl, _, rfl, if_b (fun hpos => ?_) fun hpos => ?_⟩
              · rw [rowV_len] at hpos
                obtain ⟨j0, hj0⟩ : ∃ j0, j0 ∈ ks := by
                  cases ks with
                  | nil => exact absurd hpos (by decide)
                  | cons j0 ks => exact ⟨j0, List.mem_cons_self⟩
                have lat : ∀ r : List Nat, (∀ j ∈ ks, j ∈ r) → ∃ x0, mx (lts (fiR ws) (laS ws) (lenO lot) (isT lot) 0 r) = some x0 := fun r hr => mx_isSome (lts_ne ⟨j0, hr j0 hj0, hall j0 hj0⟩)
                refine ⟨_, rfl, s, ks, rfl, hs11, hnd, ksl, fun H12 q3 ys s12 hq3 hg3 hyl hmem => ?_⟩
                refine ⟨q3, rfl, ⟨_, SqL.of hq3⟩, fun D3 hD3 => lcr_list (fun v => some (V.int ((mx (lts (fiR ws) (laS ws) (lenO lot) (isT lot) 0 (grp H12 v))).getD 0))) (SqL.of hq3) hD3 (by omega) (fun y hy => ?_) fun H13 s13 hD13 => ?_⟩
                · have hrp := (hmem _).mp (List.mem_map.mpr ⟨y, hy, rfl⟩)
                  obtain ⟨ra, rfl, hra⟩ := (hg3 y hy).at
                  refine turnN rfl fun H14 s14 Qy ky => ?_
                  have wd14 := wd11.same (s12.trans s14)
                  have hrl := hrp.length_eq
                  refine ⟨_, rfl, _, rfl, _, rfl, t, ra, q, ws, _, lot, rfl, wd14.wins, s14 _ _ hra, fun j hj => hlt2 j (hrp.mem_iff.mp hj), by omega, s14 _ _ (s12 _ _ hq11), hll, fun H15 s15 => ?_⟩
                  obtain ⟨x0, ex⟩ := lat (grp H12 (.ref ra)) fun j hj => hrp.mem_iff.mpr hj
                  have ky := ky H15 s15
                  rw [ex] at ky ⊢
                  exact ky
                · rw [fm_map] at hD13
                  have hD13 : H13 D3 = some (.lst ((ys.map fun v => (mx (lts (fiR ws) (laS ws) (lenO lot) (isT lot) 0 (grp H12 v))).getD 0).map V.int)) := by
                    rw [hD13, List.map_map] <;> rfl
                  refine ⟨D3, _, rfl, SqL.of hD13, ?_, fun m hm hle => ?_⟩
                  · obtain ⟨y, hy, _⟩ := List.mem_map.mp ((hmem ks).mpr (List.Perm.refl _))
                    rw [List.length_map]
                    exact List.length_pos_iff.mpr fun z => by
                      rw [z] at hy
                      cases hy
                  have low : ∀ r : List Nat, r.Perm ks → ∀ x0, mx (lts (fiR ws) (laS ws) (lenO lot) (isT lot) 0 r) = some x0 → m ≤ x0 := fun r hr x0 ex => by
                    obtain ⟨y, hy, e⟩ := List.mem_map.mp ((hmem r).mpr hr)
                    have := hle _ (List.mem_map.mpr ⟨y, hy, rfl⟩)
                    rw [e, ex] at this
                    exact this
                  obtain ⟨r0, hr0, er0⟩ : ∃ r0 : List Nat, r0.Perm ks ∧ mx (lts (fiR ws) (laS ws) (lenO lot) (isT lot) 0 r0) = some m := by
                    obtain ⟨y, hy, e⟩ := List.mem_map.mp hm
                    have hrp := (hmem _).mp (List.mem_map.mpr ⟨y, hy, rfl⟩)
                    obtain ⟨x0, ex⟩ := lat (grp H12 y) fun j hj => hrp.mem_iff.mpr hj
                    refine ⟨_, hrp, ?_⟩
                    rw [ex] at e ⊢
                    exact congrArg some e
                  have wd13 := wd11.same (s12.trans s13)
                  have hq13 := s13 _ _ (s12 _ _ hq11)
                  have pl := hpp.length_eq
                  refine ⟨_, rfl, _, rfl, b, q, ws, lot, rfl, wd13.book, hq13, lo, ?_, by omega, wd13.tabs, fun H14 m' eN14 hT14 hcan hmin => ⟨_, rfl, rfl, false, ?_, iteF ?_⟩⟩
                  · intro z
                    rw [z] at pl
                    have pl : 0 = ks.length := pl
                    omega
                  · have h1 : m' ≤ m := hmin m ⟨r0, hr0.trans hpp.symm, (mx_some er0).2⟩
                    have h2 : m ≤ m' := by
                      obtain ⟨r, hr, hx'⟩ := hcan
                      obtain ⟨x0, ex⟩ := lat r fun j hj => hr.mem_iff.mpr (hpp.mem_iff.mpr hj)
                      have := low r (hr.trans hpp) x0 ex
                      have := hx' x0 (mx_some ex).1
                      omega
                    have e : m' = m := by omega
                    rw [e]
                    simp
                  · have wd14 := wd13.ext eN14 hT14
                    have hq14 := eN14 _ _ hq13 fun ps z => nomatch z
                    refine ⟨2, rfl, by decide, by decide, for_range (fun j σ H15 => ∃ (v11 v12 : Option V), σ = [some (.ref a), some (.ref p), some (.int (n : Int)), some (.ref t), some (.ref b), some (.ref D), some (.ref D2), some (.int (0 + (i : Int))), some (.ref s), some (.ref q), some (.int m), v11, v12, none, none, none] ∧ Wd K H15 p c t b D D2 ws as Rs zs ∧ H15 q = some (.tup (lotV lot))) ?_ ?_ ?_⟩
                    · exact ⟨_, _, rfl, wd14, hq14⟩
                    · rintro j σ H15 hj ⟨v11, v12, rfl, wd15, hq15⟩
                      have hj : j < 2 := hj
                      rw [show (0 : Int) + (j : Int) = (j : Int) from by omega]
                      have eR := List.getElem?_eq_getElem (by omega : j < Rs.length)
                      generalize Rs[j] = R at eR
                      have ez := List.getElem?_eq_getElem (by omega : j < zs.length)
                      generalize zs[j] = z at ez
                      obtain ⟨R', eR', hreg⟩ := hz j z ez
                      rw [eR] at eR'
                      cases eR'
                      obtain ⟨ro, rl⟩ := rok R (List.mem_of_getElem? eR)
                      have hRp := hperm R (List.mem_of_getElem? eR)
                      have hin : ∀ j ∈ ks, j ∈ R := fun j hj => hRp.mem_iff.mpr (List.mem_range.mpr (hlt j hj))
                      obtain ⟨a1, ea1, hR15⟩ := wd15.rows j R eR
                      have hatD : atI (as.map V.ref) (j : Int) = some (.ref a1) := atI_nat (by rw [List.getElem?_map, ea1] <;> rfl)
                      have hatZ : atI (zs.map V.int) (j : Int) = some (.int z) := atI_nat (by rw [List.getElem?_map, ez] <;> rfl)
                      obtain ⟨x, ex⟩ := lat R hin
                      refine ⟨_, rfl, _, rfl, _, rfl, D, _, _, _, rfl, rfl, SqL.of wd15.ords, hatD, _, rfl, t, a1, q, ws, R, lot, rfl, wd15.wins, hR15, ro.lt, ro.few, hq15, hll, fun H16 s16 => ?_⟩
                      rw [ex]
                      have wd16 := wd15.same s16
                      refine ⟨_, rfl, _, rfl, _, rfl, D, _, _, _, rfl, rfl, SqL.of wd16.ords, hatD, _, rfl, b, a1, q, ws, R, lot, rfl, wd16.book, s16 _ _ hR15, ro, s16 _ _ hq15, lo, fun j hj => hin j (hpp.mem_iff.mp hj), fun H17 s17 => ?_⟩
                      rw [ex]
                      have wd17 := wd16.same s17
                      refine ⟨_, rfl, rfl, false, by simp [oV], iteF ?_⟩
                      refine ⟨_, rfl, _, rfl, _, _, rfl, rfl, _, rfl, _, rfl, D2, _, _, _, rfl, rfl, SqL.of wd17.regs, hatZ, _, _, rfl, rfl, _, rfl, if_f ?_ ⟨_, _, rfl, wd17, s17 _ _ (s16 _ _ hq15)⟩⟩
                      have hx' := (mx_some ex).1
                      obtain ⟨x', hx1, hx2⟩ := regret_fact (f := fiR ws) (l := laS ws) (d := lenO lot) (q := isT lot) (fiR_nn hwo) (lenO_nn lo) (fun k h => lenO_none h) ro.nd (hr0.symm.nodup hnd) (fun k hk => hall k (hr0.mem_iff.mp hk)) (fun k _ hk => hr0.mem_iff.mpr (hpp.mem_iff.mp (pres_mem.mpr hk))) hreg hx'
                      have hx3 := (mx_some er0).2 x' hx1
                      show ¬ z < x - m
                      omega
                    · rintro σ H15 ⟨v11, v12, rfl, wd15, hq15⟩
                      exact ⟨_, _, _, _, _, _, rfl, wd15⟩
              · exact ⟨_, _, _, _, _, _, rfl, wd11⟩
          · rintro σ H9 ⟨v7, v8, v9, v10, v11, v12, rfl, wd⟩
            exact k H9
end
end K73
set_option Elab.async false
set_option linter.all false
set_option maxRecDepth 100000
set_option maxHeartbeats 0
/-! The end. -/
namespace K73
open PySem PySem.Spec PyProof.Rows L2
theorem tx_of {K : PySem.W.Frag} {h : Heap} {mg : Str → Option Value} (X : K.In h) (G : h.Ns mainGlobals mg) (c : He.SaysD fa fn K) : Tx K mg where
  g_is_integer := He.glo_ok X G (c.fact 0 (f := .glo "is_integer") rfl)
  F_is_integer := c.def_ 0 (d := d_is_integer) rfl
  g_is_within := He.glo_ok X G (c.fact 1 (f := .glo "is_within") rfl)
  F_is_within := c.def_ 1 (d := d_is_within) rfl
  g_is_from := He.glo_ok X G (c.fact 2 (f := .glo "is_from") rfl)
  F_is_from := c.def_ 2 (d := d_is_from) rfl
  g_is_pair := He.glo_ok X G (c.fact 3 (f := .glo "is_pair") rfl)
  F_is_pair := c.def_ 3 (d := d_is_pair) rfl
  g_check_many := He.glo_ok X G (c.fact 4 (f := .glo "check_many") rfl)
  F_check_many := c.def_ 4 (d := d_check_many) rfl
  g_is_window := He.glo_ok X G (c.fact 5 (f := .glo "is_window") rfl)
  F_is_window := c.def_ 5 (d := d_is_window) rfl
  g_many_of := He.glo_ok X G (c.fact 6 (f := .glo "many_of") rfl)
  F_many_of := c.def_ 6 (d := d_many_of) rfl
  g_first_of := He.glo_ok X G (c.fact 7 (f := .glo "first_of") rfl)
  F_first_of := c.def_ 7 (d := d_first_of) rfl
  g_last_of := He.glo_ok X G (c.fact 8 (f := .glo "last_of") rfl)
  F_last_of := c.def_ 8 (d := d_last_of) rfl
  g_is_work := He.glo_ok X G (c.fact 9 (f := .glo "is_work") rfl)
  F_is_work := c.def_ 9 (d := d_is_work) rfl
  g_is_row := He.glo_ok X G (c.fact 10 (f := .glo "is_row") rfl)
  F_is_row := c.def_ 10 (d := d_is_row) rfl
  g_is_order := He.glo_ok X G (c.fact 11 (f := .glo "is_order") rfl)
  F_is_order := c.def_ 11 (d := d_is_order) rfl
  g_is_lot := He.glo_ok X G (c.fact 12 (f := .glo "is_lot") rfl)
  F_is_lot := c.def_ 12 (d := d_is_lot) rfl
  g_check_row := He.glo_ok X G (c.fact 13 (f := .glo "check_row") rfl)
  F_check_row := c.def_ 13 (d := d_check_row) rfl
  g_check_order := He.glo_ok X G (c.fact 14 (f := .glo "check_order") rfl)
  F_check_order := c.def_ 14 (d := d_check_order) rfl
  g_check_lot := He.glo_ok X G (c.fact 15 (f := .glo "check_lot") rfl)
  F_check_lot := c.def_ 15 (d := d_check_lot) rfl
  g_works_there := He.glo_ok X G (c.fact 16 (f := .glo "works_there") rfl)
  F_works_there := c.def_ 16 (d := d_works_there) rfl
  g_groups_of := He.glo_ok X G (c.fact 17 (f := .glo "groups_of") rfl)
  F_groups_of := c.def_ 17 (d := d_groups_of) rfl
  g_check_run := He.glo_ok X G (c.fact 18 (f := .glo "check_run") rfl)
  F_check_run := c.def_ 18 (d := d_check_run) rfl
  g_ran := He.glo_ok X G (c.fact 19 (f := .glo "ran") rfl)
  F_ran := c.def_ 19 (d := d_ran) rfl
  g_late_of := He.glo_ok X G (c.fact 20 (f := .glo "late_of") rfl)
  F_late_of := c.def_ 20 (d := d_late_of) rfl
  g_lateness := He.glo_ok X G (c.fact 21 (f := .glo "lateness") rfl)
  F_lateness := c.def_ 21 (d := d_lateness) rfl
  g_check_few := He.glo_ok X G (c.fact 22 (f := .glo "check_few") rfl)
  F_check_few := c.def_ 22 (d := d_check_few) rfl
  g_lengths_of := He.glo_ok X G (c.fact 23 (f := .glo "lengths_of") rfl)
  F_lengths_of := c.def_ 23 (d := d_lengths_of) rfl
  g_less_one := He.glo_ok X G (c.fact 24 (f := .glo "less_one") rfl)
  F_less_one := c.def_ 24 (d := d_less_one) rfl
  g_end_behind := He.glo_ok X G (c.fact 25 (f := .glo "end_behind") rfl)
  F_end_behind := c.def_ 25 (d := d_end_behind) rfl
  g_late_ends := He.glo_ok X G (c.fact 26 (f := .glo "late_ends") rfl)
  F_late_ends := c.def_ 26 (d := d_late_ends) rfl
  g_least_late := He.glo_ok X G (c.fact 27 (f := .glo "least_late") rfl)
  F_least_late := c.def_ 27 (d := d_least_late) rfl
  g_widest_of := He.glo_ok X G (c.fact 28 (f := .glo "widest_of") rfl)
  F_widest_of := c.def_ 28 (d := d_widest_of) rfl
  g_worst_behind := He.glo_ok X G (c.fact 29 (f := .glo "worst_behind") rfl)
  F_worst_behind := c.def_ 29 (d := d_worst_behind) rfl
  g_regret_in := He.glo_ok X G (c.fact 30 (f := .glo "regret_in") rfl)
  F_regret_in := c.def_ 30 (d := d_regret_in) rfl
  g_regret := He.glo_ok X G (c.fact 31 (f := .glo "regret") rfl)
  F_regret := c.def_ 31 (d := d_regret) rfl
  g_w_pool := He.glo_ok X G (c.fact 32 (f := .glo "_law_pool") rfl)
  F_w_pool := c.def_ 32 (d := d_w_pool) rfl
  g_w_draw := He.glo_ok X G (c.fact 33 (f := .glo "_law_draw") rfl)
  F_w_draw := c.def_ 33 (d := d_w_draw) rfl
  g_w_windows := He.glo_ok X G (c.fact 34 (f := .glo "_law_windows") rfl)
  F_w_windows := c.def_ 34 (d := d_w_windows) rfl
  g_w_row := He.glo_ok X G (c.fact 35 (f := .glo "_law_row") rfl)
  F_w_row := c.def_ 35 (d := d_w_row) rfl
  g_w_lot := He.glo_ok X G (c.fact 36 (f := .glo "_law_lot") rfl)
  F_w_lot := c.def_ 36 (d := d_w_lot) rfl
  g_w_some := He.glo_ok X G (c.fact 37 (f := .glo "_law_some") rfl)
  F_w_some := c.def_ 37 (d := d_w_some) rfl
  g_w_run := He.glo_ok X G (c.fact 38 (f := .glo "_law_run") rfl)
  F_w_run := c.def_ 38 (d := d_w_run) rfl
  g_w_lateness := He.glo_ok X G (c.fact 39 (f := .glo "_law_lateness") rfl)
  F_w_lateness := c.def_ 39 (d := d_w_lateness) rfl
  g_w_is_int := He.glo_ok X G (c.fact 40 (f := .glo "_law_is_int") rfl)
  F_w_is_int := c.def_ 40 (d := d_w_is_int) rfl
  g_w_perms := He.glo_ok X G (c.fact 41 (f := .glo "_law_perms") rfl)
  F_w_perms := c.def_ 41 (d := d_w_perms) rfl
  g_w_long := He.glo_ok X G (c.fact 42 (f := .glo "_law_long") rfl)
  F_w_long := c.def_ 42 (d := d_w_long) rfl
  g_law := He.glo_ok X G (c.fact 43 (f := .glo "law") rfl)
  F_law := c.def_ 43 (d := d_law) rfl
  n_isinstance := He.free_ok X G (c.fact 45 (f := .free "isinstance") rfl)
  n_tuple := He.free_ok X G (c.fact 46 (f := .free "tuple") rfl)
  n_int := He.free_ok X G (c.fact 47 (f := .free "int") rfl)
  n_bool := He.free_ok X G (c.fact 48 (f := .free "bool") rfl)
  n_len := He.free_ok X G (c.fact 49 (f := .free "len") rfl)
  n_all := He.free_ok X G (c.fact 50 (f := .free "all") rfl)
  n_any := He.free_ok X G (c.fact 51 (f := .free "any") rfl)
  n_set := He.free_ok X G (c.fact 52 (f := .free "set") rfl)
  n_list := He.free_ok X G (c.fact 53 (f := .free "list") rfl)
  n_sorted := He.free_ok X G (c.fact 54 (f := .free "sorted") rfl)
  n_enumerate := He.free_ok X G (c.fact 55 (f := .free "enumerate") rfl)
  n_max := He.free_ok X G (c.fact 56 (f := .free "max") rfl)
  n_min := He.free_ok X G (c.fact 57 (f := .free "min") rfl)
  n_range := He.free_ok X G (c.fact 58 (f := .free "range") rfl)
  n_sum := He.free_ok X G (c.fact 59 (f := .free "sum") rfl)
  n_abs := He.free_ok X G (c.fact 60 (f := .free "abs") rfl)
  F_init := c.def_ 44 (d := d_init) rfl
  i_hour := He.int_ok X G (c.fact 61 (f := .int "MOST_HOUR" 1000000) rfl)
  i_works := He.int_ok X G (c.fact 62 (f := .int "MOST_WORKS" 40) rfl)
  i_there := He.int_ok X G (c.fact 63 (f := .int "MOST_THERE" 10) rfl)
  gB := He.glo_ok X G (c.fact 44 (f := .glo "Book") rfl)
  cB := He.cls_ok (c.fact 64 (f := .cls "Book") rfl)
  aW := He.noat_ok (c.fact 65 (f := .noat "Book" "windows") rfl)
  aK := He.noat_ok (c.fact 66 (f := .noat "Book" "kept_windows") rfl)
  mkB := He.mkr_ok (c.fact 67 (f := .mkr "Book") rfl)
def csT (K : PySem.W.Frag) : List (Addr × Addr) := [He.cT K ("groups_of", none), He.cT K ("widest_of", none)]
theorem cs_all {p : Addr × Addr → Prop} {K : PySem.W.Frag} (h1 : p (He.cT K ("groups_of", none))) (h2 : p (He.cT K ("widest_of", none))) : ∀ q ∈ csT K, p q := fun q hq => by
  rcases List.mem_cons.mp hq with z | z
  · rw [z]; exact h1
  · rw [List.mem_singleton.mp z]; exact h2
theorem in1 : (("groups_of", none) : He.Defn) ∈ tf := List.mem_cons_self
theorem in2 : (("widest_of", none) : He.Defn) ∈ tf := List.mem_cons_of_mem _ List.mem_cons_self
theorem law_at {w : World} {K : PySem.W.Frag} {mg : Str → Option Value} {h : Heap} {f : Addr} (X : K.In h) (G : h.Ns mainGlobals mg) (hf : mg ("law" : Str) = some (.ref f)) (c : He.SaysX fa fn [] tf exB w h K) :
    LamX.LawAtS PySem.Challenge.rw_bymiddles_k73_whole_regret_against_all_r w K CX0 9 63 "_law_script" mg f h := by
  have T := tx_of X G c.t.d
  obtain ⟨fd, F⟩ := T.F_law
  have e := hf.symm.trans T.g_law
  cases e
  have b := FunD.bindsA (ps := ["_law_script"]) F fun _ _ _ _ _ _ us hl => match us, hl with | [_], _ => rfl
  refine ⟨fd, csT K, sp_law K, cs_all (c.empty _ in1) (c.empty _ in2), cs_all (c.out _ in1) (c.out _ in2), cs_all (PySem.W.codeHd_of_K X (c.hd _ in1)) (PySem.W.codeHd_of_K X (c.hd _ in2)), fun s u => b s [u] rfl, fun H a ns hl _ hS hq => ?_, fun base KX GX hTB => ?_⟩
  · refine ⟨a, ns, rfl, hq, by omega, fun p hp => ?_, fun _ => rfl⟩
    rcases List.mem_cons.mp hp with z | z
    · rw [z]
      exact LamX.TabS.nil (hS _ List.mem_cons_self)
    · rw [List.mem_singleton.mp z]
      exact LamX.TabS.nil (hS _ (List.mem_cons_of_mem _ List.mem_cons_self))
  · refine ok_law T ⟨hTB _ List.mem_cons_self, hTB _ (List.mem_cons_of_mem _ List.mem_cons_self), fun z => ?_⟩ F
    have h1 : (!((He.cT K ("groups_of", none)).2 == (He.cT K ("widest_of", none)).2)) = true := c.more
    have z : (He.cT K ("groups_of", none)).2 = (He.cT K ("widest_of", none)).2 := z
    rw [z, beq_self_eq_true] at h1
    cases h1
end K73
open PySem PySem.W PySem.Calls PyProof.Rows
theorem PySem.Challenge.cw_bymiddles_k73_whole_regret_against_all_r_holds : PySem.Challenge.rw_bymiddles_k73_whole_regret_against_all_r.Holds := by
  w_on; o_law
  refine HandSHeadRun.head_any (r := OpenLaw.row PySem.Challenge.rw_bymiddles_k73_whole_regret_against_all_r) (q := view (OpenLaw.row PySem.Challenge.rw_bymiddles_k73_whole_regret_against_all_r).prog [60]) (H := K73.hk) (ob := K73.ob) (M := 4000) (loose := K73.loose) (d := HandSHeadRun.topDef (OpenLaw.row PySem.Challenge.rw_bymiddles_k73_whole_regret_against_all_r).prog 60) (kwd := []) K73.ob_eq
    (by kernel_rfl) (fun s => by kernel_rfl) K73.run (by kernel_rfl) (by kernel_rfl) (by kernel_rfl) (by rfl) (by first | assumption | decide +kernel) (by decide +kernel) ⟨rfl, rfl, rfl, rfl, rfl, by decide +kernel⟩ ?hw ?hc
  case hw => w_witness2
  case hc =>
    refine LamX.walk_ofTsE (l := PySem.Challenge.rw_bymiddles_k73_whole_regret_against_all_r) (n := 63) (k := 9) (x := "_law_script") (CX := fun _ => L2.CX0) rfl (by decide) (by kernel_rfl) ⟨rfl, by decide, by decide⟩ ?F (fun _ _ _ _ _ z => z)
    intro w mg f h Y G hmg0
    obtain ⟨K, KX, c⟩ := Y
    have hmg : mg ("law" : PySem.Str) = some (.ref f) := by
      have e : (HandSHeadRun.topDef (OpenLaw.row PySem.Challenge.rw_bymiddles_k73_whole_regret_against_all_r).prog 60).name = ("law" : PySem.Str) := by kernel_rfl
      rw [← e]
      exact hmg0
    exact ⟨K, KX, K73.law_at KX G hmg c⟩

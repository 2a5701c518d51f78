import PyProof.Rows.All
import Wide.All
import OpenK.AllK
import Wide.FinOn
import PySem.Challenge.RW_sharewell_k62_whole_costs_of_jobs_of_gro
import HandS.ForMost
import HandS.IsInst
import HandS.TupAny
import HandS.More
import HandS.Evl
import HandS.Walk
import KE.GoesMore
set_option Elab.async false
set_option linter.all false
set_option maxRecDepth 100000
set_option maxHeartbeats 4000000
namespace Sw
abbrev Job := Int × Int
def jl (jobs : List Job) (j : Nat) : Int := (jobs.getD j (0, 0)).1
def jp (jobs : List Job) (j : Nat) : Int := (jobs.getD j (0, 0)).2
def costF (jobs : List Job) : Int → List Nat → Int
  | _, [] => 0
  | t, a :: r => jp jobs a * (t + jl jobs a) + costF jobs (t + jl jobs a) r
def sumL (jobs : List Job) (o : List Nat) : Int := (o.map (jl jobs)).sum
def sumP (jobs : List Job) (o : List Nat) : Int := (o.map (jp jobs)).sum
theorem costF_shift (jobs : List Job) : ∀ (o : List Nat) (t : Int), costF jobs t o = t * sumP jobs o + costF jobs 0 o
  | [], t => by simp [costF, sumP]
  | a :: r, t => by
    have h1 := costF_shift jobs r (t + jl jobs a)
    have h2 := costF_shift jobs r (0 + jl jobs a)
    simp only [costF, h1, h2, sumP, List.map_cons, List.sum_cons]
    simp only [Int.mul_add, Int.add_mul, Int.zero_add]
    have e : jp jobs a * t = t * jp jobs a := Int.mul_comm _ _
    omega
theorem costF_append (jobs : List Job) : ∀ (a b : List Nat) (t : Int), costF jobs t (a ++ b) = costF jobs t a + costF jobs (t + sumL jobs a) b
  | [], b, t => by simp [costF, sumL]
  | x :: r, b, t => by
    have h := costF_append jobs r b (t + jl jobs x)
    simp only [List.cons_append, costF, h, sumL, List.map_cons, List.sum_cons]
    rw [show t + jl jobs x + (r.map (jl jobs)).sum = t + (jl jobs x + (r.map (jl jobs)).sum) by omega]
    omega
def mn (jobs : List Job) (a b : Nat) : Int := min (jl jobs a * jp jobs b) (jl jobs b * jp jobs a)
theorem mn_comm (jobs : List Job) (a b : Nat) : mn jobs a b = mn jobs b a := by unfold mn; exact Int.min_comm _ _
def Wm (jobs : List Job) : List Nat → Int
  | [] => 0
  | a :: r => jp jobs a * jl jobs a + (r.map (mn jobs a)).sum + Wm jobs r
theorem perm_sum {l l' : List Int} (h : l.Perm l') : l.sum = l'.sum := by
  induction h with
  | nil => rfl
  | cons x _ ih => simp only [List.sum_cons, ih]
  | swap x y l => simp only [List.sum_cons]; omega
  | trans _ _ ih1 ih2 => rw [ih1, ih2]
theorem Wm_perm (jobs : List Job) {o o' : List Nat} (h : o.Perm o') : Wm jobs o = Wm jobs o' := by
  induction h with
  | nil => rfl
  | cons x p ih =>
    have e := perm_sum (p.map (mn jobs x))
    simp only [Wm, ih, e]
  | swap x y l =>
    have e := mn_comm jobs x y
    simp only [Wm, List.map_cons, List.sum_cons]
    omega
  | trans _ _ ih1 ih2 => rw [ih1, ih2]
theorem sumP_perm (jobs : List Job) {o o' : List Nat} (h : o.Perm o') : sumP jobs o = sumP jobs o' := perm_sum (h.map _)
theorem min_sum_le (jobs : List Job) (a : Nat) : ∀ r : List Nat, (r.map (mn jobs a)).sum ≤ jl jobs a * sumP jobs r
  | [] => by simp [sumP]
  | b :: r => by
    have h := min_sum_le jobs a r
    simp only [List.map_cons, List.sum_cons, sumP, Int.mul_add] at h ⊢
    have h2 : mn jobs a b ≤ jl jobs a * jp jobs b := Int.min_le_left _ _
    omega
theorem min_sum_eq (jobs : List Job) (a : Nat) : ∀ r : List Nat, (∀ b ∈ r, jl jobs a * jp jobs b ≤ jl jobs b * jp jobs a) → (r.map (mn jobs a)).sum = jl jobs a * sumP jobs r
  | [], _ => by simp [sumP]
  | b :: r, hr => by
    have h := min_sum_eq jobs a r (fun c hc => hr c (List.mem_cons_of_mem _ hc))
    simp only [List.map_cons, List.sum_cons, sumP, Int.mul_add] at h ⊢
    have h2 : mn jobs a b = jl jobs a * jp jobs b := Int.min_eq_left (hr b List.mem_cons_self)
    omega
theorem costF_cons (jobs : List Job) (a : Nat) (r : List Nat) : costF jobs 0 (a :: r) = jp jobs a * jl jobs a + jl jobs a * sumP jobs r + costF jobs 0 r := by
  have h := costF_shift jobs r (jl jobs a)
  show jp jobs a * (0 + jl jobs a) + costF jobs (0 + jl jobs a) r = _
  rw [Int.zero_add, h]
  omega
theorem Wm_le (jobs : List Job) : ∀ o : List Nat, Wm jobs o ≤ costF jobs 0 o
  | [] => by simp [Wm, costF]
  | a :: r => by
    have h := Wm_le jobs r
    have h2 := min_sum_le jobs a r
    rw [costF_cons]
    simp only [Wm]
    omega
def Rj (jobs : List Job) (a b : Nat) : Prop := jl jobs a * jp jobs b ≤ jl jobs b * jp jobs a
theorem Wm_eq (jobs : List Job) : ∀ o : List Nat, o.Pairwise (Rj jobs) → costF jobs 0 o = Wm jobs o
  | [], _ => by simp [Wm, costF]
  | a :: r, h => by
    obtain ⟨h1, h2⟩ := List.pairwise_cons.mp h
    have h3 := Wm_eq jobs r h2
    have h4 := min_sum_eq jobs a r h1
    rw [costF_cons]
    simp only [Wm]
    omega
theorem Rj_trans {jobs : List Job} {a b c : Nat} (ha : 0 < jl jobs a) (hb : 0 < jl jobs b) (hc : 0 < jl jobs c) (h1 : Rj jobs a b) (h2 : Rj jobs b c) : Rj jobs a c := by
  unfold Rj at *
  have e1 : jl jobs c * (jl jobs a * jp jobs b) ≤ jl jobs c * (jl jobs b * jp jobs a) := Int.mul_le_mul_of_nonneg_left h1 (by omega)
  have e2 : jl jobs a * (jl jobs b * jp jobs c) ≤ jl jobs a * (jl jobs c * jp jobs b) := Int.mul_le_mul_of_nonneg_left h2 (by omega)
  have e3 : jl jobs a * (jl jobs c * jp jobs b) = jl jobs c * (jl jobs a * jp jobs b) := by rw [← Int.mul_assoc, Int.mul_comm (jl jobs a), Int.mul_assoc]
  have e4 : jl jobs a * (jl jobs b * jp jobs c) = jl jobs b * (jl jobs a * jp jobs c) := by rw [← Int.mul_assoc, Int.mul_comm (jl jobs a), Int.mul_assoc]
  have e5 : jl jobs c * (jl jobs b * jp jobs a) = jl jobs b * (jl jobs c * jp jobs a) := by rw [← Int.mul_assoc, Int.mul_comm (jl jobs c), Int.mul_assoc]
  have e : jl jobs b * (jl jobs a * jp jobs c) ≤ jl jobs b * (jl jobs c * jp jobs a) := by omega
  exact Int.le_of_mul_le_mul_left e hb
theorem Rj_total {jobs : List Job} {a b : Nat} (h : ¬ Rj jobs a b) : Rj jobs b a := by unfold Rj at *; omega
/-- the test of the program's while -/
def okJ (jobs : List Job) (t f : Nat) : Bool := decide (jp jobs t * jl jobs f ≤ jp jobs f * jl jobs t)
theorem okJ_iff {jobs : List Job} {t f : Nat} : okJ jobs t f = true ↔ Rj jobs f t := by
  unfold okJ Rj
  rw [decide_eq_true_iff, Int.mul_comm (jp jobs t), Int.mul_comm (jp jobs f)]
def spotOf (jobs : List Job) (t : Nat) : List Nat → Nat
  | [] => 0
  | f :: r => if okJ jobs t f = true then spotOf jobs t r + 1 else 0
def insJ (jobs : List Job) (found : List Nat) (t : Nat) : List Nat := found.take (spotOf jobs t found) ++ [t] ++ found.drop (spotOf jobs t found)
def insR (jobs : List Job) (t : Nat) : List Nat → List Nat
  | [] => [t]
  | f :: r => if okJ jobs t f = true then f :: insR jobs t r else t :: f :: r
theorem insJ_eq (jobs : List Job) (t : Nat) : ∀ found : List Nat, insJ jobs found t = insR jobs t found
  | [] => rfl
  | f :: r => by
    have h := insJ_eq jobs t r
    unfold insJ at h ⊢
    by_cases e : okJ jobs t f = true
    · simp only [spotOf, insR, if_pos e, List.take_succ_cons, List.drop_succ_cons, List.cons_append, h]
    · simp only [spotOf, insR, if_neg e, List.take_zero, List.drop_zero, List.nil_append, List.cons_append]
theorem spotOf_le (jobs : List Job) (t : Nat) : ∀ found : List Nat, spotOf jobs t found ≤ found.length
  | [] => Nat.le_refl _
  | f :: r => by
    have h := spotOf_le jobs t r
    simp only [spotOf, List.length_cons]
    split <;> omega
/-- the while has gone s steps: all of them were let -/
theorem spot_stop (jobs : List Job) (t : Nat) : ∀ (found : List Nat) (s : Nat), s ≤ found.length → (∀ i f, i < s → found[i]? = some f → okJ jobs t f = true) → (∀ f, found[s]? = some f → okJ jobs t f = false) → spotOf jobs t found = s
  | [], s, h, _, _ => by simp only [List.length_nil] at h; simp only [spotOf]; omega
  | f :: r, 0, _, _, h2 => by
    have e := h2 f rfl
    simp only [spotOf, e]
    rfl
  | f :: r, s + 1, h, h1, h2 => by
    have e := h1 0 f (by omega) rfl
    have ih := spot_stop jobs t r s (by simp only [List.length_cons] at h; omega) (fun i g hi hg => h1 (i + 1) g (by omega) (by simpa using hg)) (fun g hg => h2 g (by simpa using hg))
    simp only [spotOf, e, if_true, ih]
def sortJ (jobs : List Job) (g : List Nat) : List Nat := g.foldl (insJ jobs) []
theorem insR_perm (jobs : List Job) (t : Nat) : ∀ found : List Nat, (insR jobs t found).Perm (t :: found)
  | [] => .refl _
  | f :: r => by
    by_cases e : okJ jobs t f = true
    · simp only [insR, if_pos e]
      exact ((insR_perm jobs t r).cons f).trans (.swap t f r)
    · simp only [insR, if_neg e]
      exact .refl _
theorem foldl_perm (jobs : List Job) : ∀ (g acc : List Nat), (g.foldl (insJ jobs) acc).Perm (acc ++ g)
  | [], acc => by simp
  | t :: r, acc => by
    have h := foldl_perm jobs r (insJ jobs acc t)
    simp only [List.foldl_cons]
    refine h.trans ?_
    rw [insJ_eq]
    refine ((insR_perm jobs t acc).append_right r).trans ?_
    simp only [List.cons_append]
    exact List.perm_middle.symm
theorem sortJ_perm (jobs : List Job) (g : List Nat) : (sortJ jobs g).Perm g := by
  have h := foldl_perm jobs g []
  rw [List.nil_append] at h
  exact h
theorem insR_sorted (jobs : List Job) (t : Nat) (ht : 0 < jl jobs t) : ∀ found : List Nat, (∀ f ∈ found, 0 < jl jobs f) → found.Pairwise (Rj jobs) → (insR jobs t found).Pairwise (Rj jobs)
  | [], _, _ => by simp [insR]
  | f :: r, hp, h => by
    obtain ⟨h1, h2⟩ := List.pairwise_cons.mp h
    have hf := hp f List.mem_cons_self
    by_cases e : okJ jobs t f = true
    · simp only [insR, if_pos e]
      refine List.pairwise_cons.mpr ⟨fun b hb => ?_, insR_sorted jobs t ht r (fun c hc => hp c (List.mem_cons_of_mem _ hc)) h2⟩
      rcases List.mem_cons.mp ((insR_perm jobs t r).mem_iff.mp hb) with rfl | hb
      · exact okJ_iff.mp e
      · exact h1 b hb
    · simp only [insR, if_neg e]
      have htf : Rj jobs t f := Rj_total fun z => e (okJ_iff.mpr z)
      refine List.pairwise_cons.mpr ⟨fun b hb => ?_, h⟩
      rcases List.mem_cons.mp hb with rfl | hb
      · exact htf
      · exact Rj_trans ht hf (hp b (List.mem_cons_of_mem _ hb)) htf (h1 b hb)
theorem foldl_sorted (jobs : List Job) : ∀ (g acc : List Nat), (∀ f ∈ g, 0 < jl jobs f) → (∀ f ∈ acc, 0 < jl jobs f) → acc.Pairwise (Rj jobs) → (g.foldl (insJ jobs) acc).Pairwise (Rj jobs)
  | [], acc, _, _, h => h
  | t :: r, acc, hg, ha, h => by
    simp only [List.foldl_cons]
    have ht := hg t List.mem_cons_self
    refine foldl_sorted jobs r _ (fun f hf => hg f (List.mem_cons_of_mem _ hf)) (fun f hf => ?_) ?_
    · rw [insJ_eq] at hf
      rcases List.mem_cons.mp ((insR_perm jobs t acc).mem_iff.mp hf) with rfl | hf
      · exact ht
      · exact ha f hf
    · rw [insJ_eq]
      exact insR_sorted jobs t ht acc ha h
theorem sortJ_sorted (jobs : List Job) (g : List Nat) (hg : ∀ f ∈ g, 0 < jl jobs f) : (sortJ jobs g).Pairwise (Rj jobs) :=
  foldl_sorted jobs g [] hg (fun _ h => nomatch h) .nil
theorem smith (jobs : List Job) (g o : List Nat) (hg : ∀ f ∈ g, 0 < jl jobs f) (h : o.Perm g) : costF jobs 0 (sortJ jobs g) ≤ costF jobs 0 o := by
  rw [Wm_eq jobs _ (sortJ_sorted jobs g hg), Wm_perm jobs (sortJ_perm jobs g), ← Wm_perm jobs h]
  exact Wm_le jobs o
/-! ### all orders -/
def stepO (n : Nat) (found : List (List Nat)) : List (List Nat) := found.flatMap fun o => ((List.range n).filter fun x => !o.contains x).map fun x => o ++ [x]
def ordK (n : Nat) : Nat → List (List Nat)
  | 0 => [[]]
  | k + 1 => stepO n (ordK n k)
theorem ord_perm : ∀ n : Fin 6, ∀ o ∈ ordK n.val n.val, o.isPerm (List.range n.val) = true := by decide +kernel
theorem ord_has (n : Nat) : ∀ (k : Nat) (o : List Nat), o.length = k → o.Nodup → (∀ x ∈ o, x < n) → o ∈ ordK n k
  | 0, o, h, _, _ => by
    have e : o = [] := List.length_eq_zero_iff.mp h
    subst e
    exact List.mem_singleton.mpr rfl
  | k + 1, o, h, hd, hx => by
    have hne : o ≠ [] := fun e => by subst e; simp at h
    have e := List.dropLast_concat_getLast hne
    have hl : o.dropLast.length = k := by rw [List.length_dropLast, h]; rfl
    have hd2 : o.dropLast.Nodup ∧ o.getLast hne ∉ o.dropLast := by
      rw [← e] at hd
      have q := List.nodup_append.mp hd
      exact ⟨q.1, fun z => q.2.2 _ z _ List.mem_cons_self rfl⟩
    have ih := ord_has n k o.dropLast hl hd2.1 (fun x hm => hx x (List.dropLast_subset o hm))
    show o ∈ stepO n (ordK n k)
    unfold stepO
    refine List.mem_flatMap.mpr ⟨o.dropLast, ih, List.mem_map.mpr ⟨o.getLast hne, List.mem_filter.mpr ⟨List.mem_range.mpr (hx _ (List.getLast_mem hne)), ?_⟩, e⟩⟩
    simpa using hd2.2
theorem perm_map_inv {α β : Type} (f : α → β) {s t : List β} (h : s.Perm t) : ∀ l : List α, t = l.map f → ∃ l' : List α, l'.Perm l ∧ s = l'.map f := by
  induction h with
  | nil => intro l e; exact ⟨l, .refl _, e⟩
  | cons x p ih =>
    intro l e
    cases l with
    | nil => cases e
    | cons a r =>
      simp only [List.map_cons, List.cons.injEq] at e
      obtain ⟨l', p', e'⟩ := ih r e.2
      exact ⟨a :: l', p'.cons a, by rw [List.map_cons, e.1, e']⟩
  | swap x y l0 =>
    intro l e
    match l, e with
    | [], e => cases e
    | [a], e => cases e
    | a :: b :: r, e =>
      simp only [List.map_cons, List.cons.injEq] at e
      exact ⟨b :: a :: r, .swap a b r, by simp only [List.map_cons, e.1, e.2.1, e.2.2]⟩
  | trans p1 p2 ih1 ih2 =>
    intro l e
    obtain ⟨l1, q1, e1⟩ := ih2 l e
    obtain ⟨l2, q2, e2⟩ := ih1 l1 e1
    exact ⟨l2, q2.trans q1, e2⟩
theorem self_map (g : List Nat) : (List.range g.length).map (fun i => g.getD i 0) = g := by
  apply List.ext_getElem
  · simp
  · intro i h1 h2
    simp [List.getElem?_eq_getElem h2]
def ordersOf (g : List Nat) : List (List Nat) := (ordK g.length g.length).map fun o => o.map fun i => g.getD i 0
theorem orders_perm (g : List Nat) (hn : g.length ≤ 5) : ∀ o ∈ ordersOf g, o.Perm g := fun o ho => by
  obtain ⟨q, hq, rfl⟩ := List.mem_map.mp ho
  have h := ord_perm ⟨g.length, by omega⟩ q hq
  have p : q.Perm (List.range g.length) := List.isPerm_iff.mp h
  have p2 := p.map fun i => g.getD i 0
  rw [self_map] at p2
  exact p2
theorem orders_has (g s : List Nat) (h : s.Perm g) : s ∈ ordersOf g := by
  obtain ⟨l, p, e⟩ := perm_map_inv (fun i => g.getD i 0) h (List.range g.length) (self_map g).symm
  refine List.mem_map.mpr ⟨l, ord_has _ _ l ?_ ?_ ?_, e.symm⟩
  · rw [p.length_eq, List.length_range]
  · exact p.nodup_iff.mpr List.nodup_range
  · intro x hx
    exact List.mem_range.mp (p.mem_iff.mp hx)
theorem first_least (jobs : List Job) (g : List Nat) (hg : ∀ f ∈ g, 0 < jl jobs f) (hn : g.length ≤ 5) :
    costF jobs 0 (sortJ jobs g) ∈ (ordersOf g).map (costF jobs 0) ∧ ∀ x ∈ (ordersOf g).map (costF jobs 0), costF jobs 0 (sortJ jobs g) ≤ x := by
  refine ⟨List.mem_map.mpr ⟨_, orders_has g _ (sortJ_perm jobs g), rfl⟩, fun x hx => ?_⟩
  obtain ⟨o, ho, rfl⟩ := List.mem_map.mp hx
  exact smith jobs g o hg (orders_perm g hn o ho)
def lastF (jobs : List Job) (rest g : List Nat) : Int := costF jobs 0 (sortJ jobs g) + sumL jobs rest * sumP jobs g
theorem behind (jobs : List Job) (rest o : List Nat) : costF jobs 0 (rest ++ o) - costF jobs 0 rest = costF jobs 0 o + sumL jobs rest * sumP jobs o := by
  have h := costF_append jobs rest o 0
  have h2 := costF_shift jobs o (0 + sumL jobs rest)
  rw [h, h2, Int.zero_add]
  omega
theorem last_least (jobs : List Job) (rest g : List Nat) (hg : ∀ f ∈ g, 0 < jl jobs f) (hn : g.length ≤ 5) :
    lastF jobs rest g ∈ (ordersOf g).map (fun o => costF jobs 0 (rest ++ o) - costF jobs 0 rest) ∧ ∀ x ∈ (ordersOf g).map (fun o => costF jobs 0 (rest ++ o) - costF jobs 0 rest), lastF jobs rest g ≤ x := by
  refine ⟨List.mem_map.mpr ⟨_, orders_has g _ (sortJ_perm jobs g), ?_⟩, fun x hx => ?_⟩
  · show _ = lastF jobs rest g
    unfold lastF
    rw [behind, sumP_perm jobs (sortJ_perm jobs g)]
  · obtain ⟨o, ho, rfl⟩ := List.mem_map.mp hx
    show lastF jobs rest g ≤ costF jobs 0 (rest ++ o) - costF jobs 0 rest
    have p := orders_perm g hn o ho
    have h := smith jobs g o hg p
    unfold lastF
    rw [behind, sumP_perm jobs p]
    omega
theorem ordK_len (n : Nat) (hn : n ≤ 5) : ∀ k : Nat, (ordK n k).length ≤ 5 ^ k
  | 0 => by simp [ordK]
  | k + 1 => by
    have h := ordK_len n hn k
    show (stepO n (ordK n k)).length ≤ _
    unfold stepO
    rw [List.length_flatMap]
    have h2 : ∀ l : List (List Nat), (l.map fun o => (((List.range n).filter fun x => !o.contains x).map fun x => o ++ [x]).length).sum ≤ 5 * l.length := by
      intro l
      induction l with
      | nil => simp
      | cons a r ih =>
        have h3 : (((List.range n).filter fun x => !a.contains x).map fun x => a ++ [x]).length ≤ 5 := by
          rw [List.length_map]
          refine Nat.le_trans (List.length_filter_le _ _) ?_
          rw [List.length_range]; exact hn
        simp only [List.map_cons, List.sum_cons, List.length_cons]
        omega
    have h4 := h2 (ordK n k)
    rw [Nat.pow_succ]
    omega
theorem stepO_mem_len (n : Nat) (hn : n ≤ 5) (l : List (List Nat)) : (stepO n l).length ≤ 5 * l.length := by
  unfold stepO
  rw [List.length_flatMap]
  induction l with
  | nil => simp
  | cons a r ih =>
    have h3 : (((List.range n).filter fun x => !a.contains x).map fun x => a ++ [x]).length ≤ 5 := by
      rw [List.length_map]
      refine Nat.le_trans (List.length_filter_le _ _) ?_
      rw [List.length_range]; exact hn
    simp only [List.map_cons, List.sum_cons, List.length_cons]
    omega
theorem ord_items (n k : Nat) : ∀ o ∈ ordK n k, o.length = k ∧ ∀ x ∈ o, x < n := by
  induction k with
  | zero =>
    intro o ho
    have e : o = [] := List.mem_singleton.mp ho
    subst e
    exact ⟨rfl, fun _ h => nomatch h⟩
  | succ k ih =>
    intro o ho
    obtain ⟨q, hq, hm⟩ := List.mem_flatMap.mp (show o ∈ stepO n (ordK n k) from ho)
    obtain ⟨x, hx, rfl⟩ := List.mem_map.mp hm
    obtain ⟨h1, h2⟩ := ih q hq
    refine ⟨by simp [h1], fun y hy => ?_⟩
    rcases List.mem_append.mp hy with hy | hy
    · exact h2 y hy
    · rw [List.mem_singleton.mp hy]
      exact List.mem_range.mp (List.mem_filter.mp hx).1
theorem stepO_nil (n : Nat) : stepO n [] = [] := rfl
theorem stepO_snoc (n : Nat) (l : List (List Nat)) (o : List Nat) : stepO n (l ++ [o]) = stepO n l ++ ((List.range n).filter fun x => !o.contains x).map fun x => o ++ [x] := by
  unfold stepO
  rw [List.flatMap_append]
  simp
/-! ### groups by their numbers -/
def bits10 (m : Nat) : List Nat := (List.range 10).filter fun t => decide (m / 2 ^ t % 2 = 1)
def gofF : Nat → Nat → Nat → List Nat
  | 0, _, _ => []
  | f + 1, m, t => if m = 0 then [] else (if m % 2 = 1 then [t] else []) ++ gofF f (m / 2) (t + 1)
theorem gof_bits : ∀ m : Fin 32, gofF 32 m.val 0 = bits10 m.val := by decide +kernel
theorem bits_rise : ∀ m : Fin 32, (bits10 m.val).Pairwise (· < ·) := by decide +kernel
theorem bits_lt : ∀ n : Fin 6, ∀ m : Fin 32, m.val < 2 ^ n.val → ∀ x ∈ bits10 m.val, x < n.val := by decide +kernel
theorem bits_len : ∀ m : Fin 32, (bits10 m.val).length ≤ 5 := by decide +kernel
end Sw

namespace Sw
open PySem PySem.Spec PyProof.Rows L2 Evl
/-! the text -/
def topS (i : Nat) : Stmt :=
  PySem.Challenge.pw_sharewell_k62_whole_costs_of_jobs_of_gro.main.body.getD i (.Pass ⟨0, 0, 0, 0⟩)
/-! enumerate over a tuple -/
theorem sw_newEnum {v : Value} {ob : Obj} {HH : Heap → Prop} (B : Begins v ob HH) :
    Meets (Builtin.«enumerate.__new__» ⟨[.type "enumerate", v], []⟩) (fun _ R s => HH s.heap ∧
      R (.ok (.ret (.ref (s.heap.push ob).objs.size)))
        { s with heap := (s.heap.push ob).push { cls := .type "enumerate", data := .fields #[.none, .bool false, .ref s.heap.objs.size, rawInt 0, .none, .none] } }) := by
  refine Meets.of_wp fun prog w A R s h => ?_
  obtain ⟨hp, g, d, tk, os⟩ := s
  obtain ⟨h1, h⟩ := h
  have hsub := sub_enumerate
  have q1 : ∀ {A' : Around} {E : Value → Shared → Prop} {Q : Value → Shared → Prop}, Q (.ref hp.objs.size) ⟨hp.push ob, g, d, tk, os⟩ →
      wpAny (model prog w) A' (pyIter v) Q E ⟨hp, g, d, tk, os⟩ := fun q => B.iter prog w _ _ ⟨hp, g, d, tk, os⟩ _ h1 q
  wp_walk using q1
  refine wpAny_stack_any fun st => wpAny_pure ?_
  split
  · rename_i c _ _ _ _ _
    cases (c == Value.type "enumerate") <;> (wp_walk using q1; exact ⟨_, rfl, h⟩)
  · wp_walk using q1
    exact ⟨_, rfl, h⟩
theorem sw_callEnum {prog : Program} {w : World} {A : Around} {E : Value → Shared → Prop} {s : Shared} {v : Value} {ob : Obj} {HH : Heap → Prop} {Q : Value → Shared → Prop} (B : Begins v ob HH) (h1 : HH s.heap)
    (h : ∀ h', IsEnum h' (s.heap.objs.size + 1) s.heap.objs.size 0 .none → h'.get? s.heap.objs.size = some ob →
      (∀ b o, s.heap.get? b = some o → h'.get? b = some o) → Q (.ref (s.heap.objs.size + 1)) { s with heap := h' }) :
    wpAny (model prog w) A (call (.type "enumerate") [v]) Q E s := by
  refine callType_new F.called_enumerate (by decide) (F.typeCall_enumerate_1 _) (F.newCall_enumerate_1 _)
    (fun obj => F.args_object_init_2 obj _) F.entry_enumerate_new (sw_newEnum B) ⟨h1, ?_⟩
  have hz : (s.heap.push ob).objs.size = s.heap.objs.size + 1 := Heap.size_push ..
  show _ ∧ _
  rw [hz]
  have he : IsEnum ((s.heap.push ob).push { cls := .type "enumerate", data := .fields #[.none, .bool false, .ref s.heap.objs.size, rawInt 0, .none, .none] })
      (s.heap.objs.size + 1) s.heap.objs.size 0 .none := by
    have z := Heap.get?_push_size (s.heap.push ob) (o := { cls := .type "enumerate", data := .fields #[.none, .bool false, .ref s.heap.objs.size, rawInt 0, .none, .none] }) rfl
    rw [hz] at z
    exact z
  exact ⟨⟨_, he, rfl⟩, h _ he (Heap.get?_push_of_some _ (Heap.get?_push_size _ B.free))
    fun b o x => Heap.get?_push_of_some _ (Heap.get?_push_of_some _ x)⟩
/-- enumerate of a tuple: what is told -/
def IteT (K : PySem.W.Frag) (a : Addr) : It where
  go := fun i H => ∃ (xs : List V) (x : V), SqT K H a xs ∧ xs[i]? = some x
  yld := fun i H v H' => ∃ T x, v = .ref T ∧ H T = none ∧ H' = upd H T (.tup [.int (i : Nat), x]) ∧
    ∀ xs, SqT K H a xs → xs[i]? = some x
  stop := fun i H => ∃ xs : List V, SqT K H a xs ∧ xs.length = i
/-- the iterator's record and its tuple, apart from the enumerate's own -/
theorem sw_turnEnum {P : Program} {w : World} {K : PySem.W.Frag} {elts : List Expr} {kk : Nat} {tpos : Pos} (a e it : Addr) :
    Turn P w K (.Tuple elts kk tpos) (IteT K a) [e, it] e (fun i h => (∃ old, IsEnum h e it ((i : Nat) : Int) old) ∧ h.IsTupleIter it a i ∧ e ≠ it) where
  mem := List.mem_cons_self
  obj := by
    rintro i h ⟨⟨old, he⟩, ⟨o, ho, hc, hd⟩, _⟩ b hb
    rcases List.mem_cons.mp hb with z | z
    · subst z; exact ⟨_, he, fun v q => nomatch q⟩
    · rw [List.mem_singleton.mp z]
      exact ⟨o, ho, fun v q => by rw [hd] at q; cases q⟩
  keep := by
    rintro i h h' ⟨⟨old, he⟩, hi, hne⟩ k
    exact ⟨⟨old, k e List.mem_cons_self _ he⟩, hi.at fun o q => k it (List.mem_cons_of_mem _ List.mem_cons_self) o q, hne⟩
  item := by
    intro X hP hw hK hc i pins s σ H E I hf st hg
    subst hP hw hK
    obtain ⟨⟨old, he⟩, hit, hne⟩ := st
    obtain ⟨xs, x, hq, hx⟩ := hg
    obtain ⟨its, rv, p, hz⟩ := I.tuple hq
    obtain ⟨u, hu, ru⟩ := rv.get hx
    have hel : e < s.heap.objs.size := Heap.lt_size he
    have hil : it < s.heap.objs.size := by obtain ⟨_, q, _⟩ := hit; exact Heap.lt_size q
    have hea : a ≠ e := by
      rintro rfl
      obtain ⟨ob, q, c, _⟩ := p
      rw [show s.heap.get? a = _ from he] at q
      cases q
      exact absurd (Value.type.inj c) (by decide)
    have hia : a ≠ it := by
      rintro rfl
      obtain ⟨ob, q, c, _⟩ := p
      obtain ⟨ob2, q2, c2, _⟩ := hit
      rw [q] at q2; cases q2
      exact absurd (Value.type.inj (c.symm.trans c2)) (by decide)
    have hh : X.A.in1.handled = none := I.ok.hd hc
    have D := Draws.tuple (prog := X.prog) (w := X.w) hh it a hia its.toArray
    have hlt : i < its.toArray.size := by
      rw [List.size_toArray, ← rv.length]
      exact (List.getElem?_eq_some_iff.mp hx).1
    refine wpAny_pyNext_enum_itemD D he ⟨hit, p⟩ hlt hne (fun z => ?_) fun y h' tk hy ho hst hT hsz hk => ?_
    · rcases List.mem_cons.mp z with z | z
      · exact hne z
      · exact hea (List.mem_singleton.mp z).symm
    have ey : y = u := by
      have q : its[i]? = some y := by simpa using hy
      rw [hu] at q
      exact (Option.some.inj q).symm
    subst ey
    refine ⟨_, rfl, wpAny_letOwnedTupleGo_enum (s := { s with heap := h', toks := tk + 1 }) ho fun h'' he' sb => ?_⟩
    have hT2 : h''.get? s.heap.objs.size = some { cls := .type "tuple", data := .seq #[.int i tk, y] } := (sb.2 _ (Nat.ne_of_gt hel)).trans hT
    have new : ObjOk X.prog X.w (upd H s.heap.objs.size (.tup [.int (i : Nat), x])) h'' s.heap.objs.size (.tup [.int (i : Nat), x]) :=
      ⟨Nat.le_trans (by decide : 2 ≤ 3) (by decide), [.int i tk, y], .cons ⟨_, rfl⟩ (.cons ru .nil), ⟨_, hT2, rfl, _, rfl⟩⟩
    have I1 : Inv X pins σ (upd H s.heap.objs.size (.tup [.int (i : Nat), x])) { s with heap := h'', toks := tk + 1 } := by
      refine I.turnedNew (ch := [e, it]) (fun b ob hb q => ?_) hf (Nat.le_refl _) new
      have n1 : b ≠ e := fun z => hb (z ▸ List.mem_cons_self)
      have n2 : b ≠ it := fun z => hb (z ▸ List.mem_cons_of_mem _ List.mem_cons_self)
      exact (sb.2 b n1).trans (hk b ob n1 n2 q)
    refine ⟨.ref s.heap.objs.size, _, I1, rfl, ⟨_, x, rfl, I.hok.fresh (Nat.le_refl _), rfl, fun ys hy => ?_⟩, ⟨⟨y, ?_⟩, ?_, hne⟩, fun b hb => ?_⟩
    · rw [I.tuple_inj hy hq]; exact hx
    · rw [show ((i + 1 : Nat) : Int) = (i : Int) + 1 by omega]; exact he'
    · exact hst.1.at fun o q => (sb.2 it (Ne.symm hne)).trans q
    · have hb' : b < s.heap.objs.size := by
        rcases List.mem_cons.mp hb with z | z
        · rw [z]; exact hel
        · rw [List.mem_singleton.mp z]; exact hil
      rw [upd_ne (Nat.ne_of_lt hb')]
      exact (hf b hb).1
  done := by
    intro X hP hw hK hc i pins s σ H E I hf st hg
    subst hP hw hK
    obtain ⟨⟨old, he⟩, hit, hne⟩ := st
    obtain ⟨xs, hq, hx⟩ := hg
    obtain ⟨its, rv, p, hz⟩ := I.tuple hq
    obtain ⟨f0, f1, f2, f3, f4, f5⟩ := hf it (List.mem_cons_of_mem _ List.mem_cons_self)
    have hia : a ≠ it := by
      rintro rfl
      obtain ⟨ob, q, c, _⟩ := p
      obtain ⟨ob2, q2, c2, _⟩ := hit
      rw [q] at q2; cases q2
      exact absurd (Value.type.inj (c.symm.trans c2)) (by decide)
    have hh : X.A.in1.handled = none := I.ok.hd hc
    have D := Draws.tuple (prog := X.prog) (w := X.w) hh it a hia its.toArray
    have en : its.toArray.size = i := by rw [List.size_toArray, ← rv.length]; exact hx
    refine wpAny_pyNext_enum_endD D he (by rw [en]; exact ⟨hit, p⟩) fun h' eb => ?_
    exact ⟨rfl, I.turned (t' := s.toks) (fun b o hb q => eb b o hb q) f0 f1 f3 f4 f5⟩
  self := by
    rintro A i s Q E ⟨⟨_, he⟩, _⟩ h
    exact wpAny_pyIter_enum he h
def iEnT (K : PySem.W.Frag) (ta : TA) : TI := fun σ H R => ta σ H fun vs H1 =>
  ∃ a xs, vs = [.ref a] ∧ SqT K H1 a xs ∧ R (IteT K a) H1
theorem pi_enumT {X : Cx} {e : Expr} {ta : TA} {p pos tpos : Pos} {elts : List Expr} {kk : Nat} (hg : Gl X "enumerate") (hm : X.mg "enumerate" = none) (ha : PA X [e] ta)
    (hs : starEach [e] X.env = [(false, eval e X.env)] := by rfl) :
    PI X (.Tuple elts kk tpos) (.Call (.Name "enumerate" p) [e] [] pos) (iEnT X.K ta) := by
  constructor
  intro pins s σ H R I h
  refine Call_ (ld_blt I hg hm boot_enumerate (PyProof.Rows.callWith_type1 (thn (ha.run pos pins s σ H _ I h) ?_) hs rfl))
  rintro us s1 ⟨vs, H1, I1, r1, a, xs, rfl, hq, q⟩
  obtain ⟨u1, rfl, r⟩ := vals1 r1
  obtain rfl : u1 = .ref a := r
  obtain ⟨its, rv, p', hz⟩ := I1.tuple hq
  refine sw_callEnum (begins_tuple a its.toArray) p' fun h' he hit hk => wpAny_pyIter_enum he ?_
  have I2 : Inv X pins σ H1 { s1 with heap := h' } := I1.kept (t' := s1.toks) hk
  refine ⟨s1.heap.objs.size + 1, [s1.heap.objs.size + 1, s1.heap.objs.size], _, _, H1, rfl, I2,
    sw_turnEnum a (s1.heap.objs.size + 1) s1.heap.objs.size, ⟨⟨.none, he⟩, ⟨_, hit, rfl, rfl⟩, Nat.succ_ne_self _⟩, fun b hb => ?_, q⟩
  have hle : s1.heap.objs.size ≤ b := by
    rcases List.mem_cons.mp hb with z | z
    · rw [z]; exact Nat.le_add_right _ _
    · rw [List.mem_singleton.mp z]; exact Nat.le_refl _
  exact I1.fpOk hle (I1.hok.fresh hle)
theorem walk_enT {K : PySem.W.Frag} {a : Addr} {xs : List V} : Walk (IteT K a) xs.length (fun H => SqT K H a xs)
    (YPair (fun i => some (.int (i : Nat))) (fun i => xs[i]?)) := by
  constructor
  · intro i _ hi q; exact ⟨xs, xs[i], q, List.getElem?_eq_getElem hi⟩
  · intro _ q; exact ⟨xs, q, rfl⟩
  · rintro i H v H' _ q ⟨T, x, h1, h2, h3, h4⟩
    exact ⟨T, .int (i : Nat), x, h1, h2, h3, rfl, h4 xs q⟩
/-! a list or a tuple, walked -/
def iSeq (K : PySem.W.Frag) (tl : TE) : TI := fun σ H R => iList K tl σ H R ∨ iTup K tl σ H R
theorem pi_seq {X : Cx} {tg l : Expr} {tl : TE} (hl : PE X l tl) : PI X tg l (iSeq X.K tl) := by
  constructor
  intro pins s σ H R I h
  rcases h with h | h
  · exact (pi_list hl).run pins s σ H R I h
  · exact (pi_tup hl).run pins s σ H R I h
/-! calls of the text's own defs -/
structure Cal (P : Program) (w : World) (K : PySem.W.Frag) (mg : Str → Option Value) (base : Heap) (k : Nat) (x : Str) (ps : List Str) (sp : Sp) : Prop where
  ex : ∃ f fd, FnOk P w K mg base CX0 k f fd ps sp ∧ Binds K fd ps [] ∧ mg x = some (.ref f) ∧ PySem.W.keepIn K (.ref f) = true
theorem pe_cal {X : Cx} {k n : Nat} {ps : List Str} {sp : Sp} {x : Str} {p pos : Pos} {e : Expr} {es : List Expr} {t : TA}
    (C : Cal X.prog X.w X.K X.mg X.base k x ps sp) (hr : Room n X.A) (hk : k ≤ n) (hg : Gl X x) (ha : PA X (e :: es) t)
    (hdb : (x == ("__debug__" : Str)) = false := by decide) (he : starEach (e :: es) X.env = (false, eval e X.env) :: starEach es X.env := by rfl)
    (hpl : (backTo pos (starEach es X.env)).any (·.1) = false := by rfl) : PE X (.Call (.Name x p) (e :: es) [] pos) (tCall sp [] E0 t) := by
  obtain ⟨f, fd, F, b, m, kp⟩ := C.ex
  exact pe_call F (hr.mono hk) hg m kp b .nil pass0 ha hdb he hpl
/-! rules that name the written part (for the blocks of comprehensions) -/
theorem ixT (K : PySem.W.Frag) {X : Cx} (h : X.K = K) : IxR X (rIxT K) := h ▸ ix_tup
theorem ixL (K : PySem.W.Frag) {X : Cx} (h : X.K = K) : IxR X (rIxL K) := h ▸ ix_list
theorem lenK (K : PySem.W.Frag) {X : Cx} (h : X.K = K) : CallR X (.builtin "len") (rLenS K) := h ▸ call_len_seq
theorem isiK (K : PySem.W.Frag) {X : Cx} (h : X.K = K) : CallR X (.builtin "isinstance") (rIsi K) := h ▸ call_isi
theorem isiTK (K : PySem.W.Frag) {X : Cx} (h : X.K = K) : CallR X (.builtin "isinstance") (rIsiT K) := h ▸ call_isiT
theorem notInK (K : PySem.W.Frag) {X : Cx} (h : X.K = K) : OpR X (compareOp .NotIn) (rIn K true) := h ▸ op_notIn_seq
theorem catK (K : PySem.W.Frag) {X : Cx} (h : X.K = K) : OpR X (binaryOp .Add) (rCatA K) := h ▸ op_catA
theorem allK (K : PySem.W.Frag) {X : Cx} (h : X.K = K) (hc : X.calm = true) : CallR X (.builtin "all") (rAll K) := h ▸ cr_all hc
theorem sumK (K : PySem.W.Frag) {X : Cx} (h : X.K = K) (hc : X.calm = true) : CallR X (.builtin "sum") (rSum K) := h ▸ cr_sum hc
theorem minK (K : PySem.W.Frag) {X : Cx} (h : X.K = K) (hc : X.calm = true) : CallR X (.builtin "min") (rMin K) := h ▸ cr_min hc
/-- tuple(list), int(n) -/
def rTup1 (K : PySem.W.Frag) : List V → Hp → VK → Prop := fun xs H Q => ∃ p ys, xs = [.ref p] ∧ ((SqL K H p ys ∧ ∀ l, H l = none → Q (.ref l) (upd H l (.tup ys))) ∨ (SqT K H p ys ∧ Q (.ref p) H))
def rInt1 : List V → Hp → VK → Prop := fun xs H Q => (∃ i, xs = [.int i] ∧ Q (.int i) H) ∨ ∃ k, xs = [.bl k] ∧ Q (.int (if k then 1 else 0)) H
theorem tupK (K : PySem.W.Frag) {X : Cx} (h : X.K = K) : CallR X (.type "tuple") (rTup1 K) := h ▸ call_tuple_of
theorem lstK (K : PySem.W.Frag) {X : Cx} (h : X.K = K) : CallR X (.type "list") (rListS K) := h ▸ call_list_of
theorem intK {X : Cx} : CallR X (.type "int") rInt1 := call_int1
theorem pg_tupK (K : PySem.W.Frag) {X : Cx} (h : X.K = K) {pos : Pos} {es : List Expr} {k : Nat} {t : TGs} {n : Nat} (hc : X.calm = true) (ht : PGs X es t)
    (hn : (assignEach es X.env).length = n := by rfl) (hst : (assignEach es X.env).findIdx? (·.1) = none := by rfl) : PG X (.Tuple es k pos) (gTup K n t) := h ▸ pg_tup hc ht hn hst
theorem pi_listK (K : PySem.W.Frag) {X : Cx} (h : X.K = K) {tg l : Expr} {tl : TE} (hl : PE X l tl) : PI X tg l (iList K tl) := h ▸ pi_list hl
theorem pi_tupK (K : PySem.W.Frag) {X : Cx} (h : X.K = K) {tg l : Expr} {tl : TE} (hl : PE X l tl) : PI X tg l (iTup K tl) := h ▸ pi_tup hl
theorem pi_seqK (K : PySem.W.Frag) {X : Cx} (h : X.K = K) {tg l : Expr} {tl : TE} (hl : PE X l tl) : PI X tg l (iSeq K tl) := h ▸ pi_seq hl
theorem pi_enumK (K : PySem.W.Frag) {X : Cx} (h : X.K = K) {e : Expr} {ta : TA} {p pos tpos : Pos} {elts : List Expr} {kk : Nat} (hg : Gl X "enumerate") (hm : X.mg "enumerate" = none) (ha : PA X [e] ta)
    (hs : starEach [e] X.env = [(false, eval e X.env)] := by rfl) :
    PI X (.Tuple elts kk tpos) (.Call (.Name "enumerate" p) [e] [] pos) (iEnT K ta) := h ▸ pi_enumT hg hm ha hs
theorem bt_len : bootBuiltins "len" = some (.builtin "len") := by decide +kernel
theorem bt_isinstance : bootBuiltins "isinstance" = some (.builtin "isinstance") := by decide +kernel
theorem bt_all : bootBuiltins "all" = some (.builtin "all") := by decide +kernel
theorem bt_sum : bootBuiltins "sum" = some (.builtin "sum") := by decide +kernel
theorem bt_min : bootBuiltins "min" = some (.builtin "min") := by decide +kernel
theorem bt_int : bootBuiltins "int" = some (.type "int") := by decide +kernel
theorem bt_bool : bootBuiltins "bool" = some (.type "bool") := by decide +kernel
theorem bt_str : bootBuiltins "str" = some (.type "str") := by decide +kernel
theorem bt_tuple : bootBuiltins "tuple" = some (.type "tuple") := by decide +kernel
theorem bt_list : bootBuiltins "list" = some (.type "list") := by decide +kernel
/-! the names of the top that the defs read -/
structure Tp (mg : Str → Option Value) : Prop where
  len : mg "len" = none
  isinstance : mg "isinstance" = none
  all : mg "all" = none
  sum : mg "sum" = none
  min : mg "min" = none
  int : mg "int" = none
  bool : mg "bool" = none
  str : mg "str" = none
  tuple : mg "tuple" = none
  list : mg "list" = none
  range : mg "range" = none
  enumerate : mg "enumerate" = none
  MOST_JOBS : ∃ t, mg "MOST_JOBS" = some (.int 7 t)
  MOST_SIZE : ∃ t, mg "MOST_SIZE" = some (.int 99 t)
end Sw

namespace Sw
open PySem PySem.Spec PyProof.Rows L2 Evl
section
variable {K : PySem.W.Frag} {σ : L2.St} {H H' : Hp} {ta tb tc te tx tl : TE} {t u tt : TT} {x y z v : V} {r r' : R2}
theorem ev_chain {k : Bool} (ha : Ev ta σ H x) (hb : Ev tb σ H y) (hc : Ev tc σ H z) (hr : RV r x y H (.bl k)) (hr2 : k = true → RV r' y z H v) (hf : k = false → v = .bl false) :
    Ev (tChain r r' ta tb tc) σ H v := fun H1 e Q q =>
  ha H1 e _ fun H2 e2 => hb H2 (e.trans e2) _ fun H3 e3 => hr H3 ((e.trans e2).trans e3) _ fun H4 e4 => ⟨k, rfl, by
    have e5 := ((e.trans e2).trans e3).trans e4
    cases k with
    | true => exact hc H4 e5 _ fun H5 e6 => hr2 rfl H5 (e5.trans e6) Q fun H6 e7 => q H6 ((((e2.trans e3).trans e4).trans e6).trans e7)
    | false =>
      have q' := q H4 ((e2.trans e3).trans e4)
      rw [hf rfl] at q'
      exact q'⟩
theorem ev_between {n a b : Int} (ha : Ev ta σ H (.int a)) (hb : Ev tb σ H (.int n)) (hc : Ev tc σ H (.int b)) :
    Ev (tChain (rI0 fun i j => .bl (decide (i ≤ j))) (rI0 fun i j => .bl (decide (i ≤ j))) ta tb tc) σ H (.bl (decide (a ≤ n) && decide (n ≤ b))) := by
  have h1 : RV (rI0 fun i j => .bl (decide (i ≤ j))) (.int a) (.int n) H (.bl (decide (a ≤ n))) := rv_I0
  have h2 : RV (rI0 fun i j => .bl (decide (i ≤ j))) (.int n) (.int b) H (.bl (decide (n ≤ b))) := rv_I0
  refine ev_chain (k := decide (a ≤ n)) ha hb hc h1 (fun h => ?_) (fun h => ?_)
  · rw [h, Bool.true_and]; exact h2
  · rw [h, Bool.false_and]
theorem et_chain {k b : Bool} (ha : Ev ta σ H x) (hb : Ev tb σ H y) (hc : Ev tc σ H z) (hr : RV r x y H (.bl k)) (hr2 : k = true → RV r' y z H (.bl b)) (hf : k = false → b = false) :
    EvT (tTest (tChain r r' ta tb tc)) σ H b := et_test (ev_chain ha hb hc hr hr2 fun h => by rw [hf h])
theorem ev_isi {c : V} {ct tt : Value} {b : Bool} (ha : Ev ta σ H x) (hc : Ev tc σ H c) (k : ClsV c ct) (ht : ∀ H1, Ex H H1 → TyX K H1 x tt) (hb : PySem.W.kitOne K tt ct = some b) :
    Ev (tCB (rIsi K) (tCons ta (tCons tc tNil))) σ H (.bl b) := fun H1 e Q q =>
  ha H1 e _ fun H2 e2 => hc H2 (e.trans e2) _ fun H3 e3 => ⟨x, c, tt, ct, b, rfl, k, ht H3 ((e.trans e2).trans e3), hb, q H3 (e2.trans e3)⟩
theorem ev_isiT {cs : List V} {us : List Value} {tt : Value} {b : Bool} (ha : Ev ta σ H x) (hc : EvU tc σ H cs) (k : Paired ClsV cs us) (ht : ∀ H1, Ex H H1 → TyX K H1 x tt) (hb : PySem.W.kitAny K tt us = some b) :
    Ev (tCB (rIsiT K) (tCons ta (tCons tc tNil))) σ H (.bl b) := fun H1 e Q q =>
  ha H1 e _ fun H2 e2 => hc H2 (e.trans e2) _ fun p H3 _ e3 hp => ⟨x, p, cs, tt, us, b, rfl, hp, k, ht H3 ((e.trans e2).trans e3), hb, q H3 (e2.trans e3)⟩
theorem ty_int {i : Int} : ∀ H1, Ex H H1 → TyX K H1 (.int i) (.type "int") := fun _ _ => .base (.int i)
theorem ty_tup {p : Addr} {xs : List V} (h : H p = some (.tup xs)) : ∀ H1, Ex H H1 → TyX K H1 (.ref p) (.type "tuple") := fun _ e => .base (.tup (e p _ h))
theorem ty_lst {p : Addr} {xs : List V} (h : H p = some (.lst xs)) : ∀ H1, Ex H H1 → TyX K H1 (.ref p) (.type "list") := fun _ e => .base (.lst (e p _ h))
theorem ki_int_int : PySem.W.kitOne K (.type "int") (.type "int") = some true := kit_ty (by decide +kernel)
theorem ki_int_bool : PySem.W.kitOne K (.type "int") (.type "bool") = some false := kit_ty (by decide +kernel)
theorem ki_int_str : PySem.W.kitOne K (.type "int") (.type "str") = some false := kit_ty (by decide +kernel)
theorem ki_int_tuple : PySem.W.kitOne K (.type "int") (.type "tuple") = some false := kit_ty (by decide +kernel)
theorem ki_int_list : PySem.W.kitOne K (.type "int") (.type "list") = some false := kit_ty (by decide +kernel)
theorem ki_tuple_tuple : PySem.W.kitOne K (.type "tuple") (.type "tuple") = some true := kit_ty (by decide +kernel)
theorem ki_tuple_list : PySem.W.kitOne K (.type "tuple") (.type "list") = some false := kit_ty (by decide +kernel)
theorem ki_list_tuple : PySem.W.kitOne K (.type "list") (.type "tuple") = some false := kit_ty (by decide +kernel)
theorem ki_list_list : PySem.W.kitOne K (.type "list") (.type "list") = some true := kit_ty (by decide +kernel)
theorem ki_int_tl : PySem.W.kitAny K (.type "int") [.type "tuple", .type "list"] = some false :=
  kitAny_cons ki_int_tuple (fun _ => kitAny_cons ki_int_list (fun _ => kitAny_nil) (fun h => nomatch h)) (fun h => nomatch h)
theorem ki_tuple_tl : PySem.W.kitAny K (.type "tuple") [.type "tuple", .type "list"] = some true :=
  kitAny_cons ki_tuple_tuple (fun h => nomatch h) (fun _ => rfl)
theorem ki_list_tl : PySem.W.kitAny K (.type "list") [.type "tuple", .type "list"] = some true :=
  kitAny_cons ki_list_tuple (fun _ => kitAny_cons ki_list_list (fun h => nomatch h) (fun _ => rfl)) (fun h => nomatch h)
theorem ev_lenT {p : Addr} {xs : List V} (ha : Ev ta σ H (.ref p)) (h : SqT K H p xs) : Ev (tCB (rLenS K) (tCons ta tNil)) σ H (.int (xs.length : Int)) := fun H1 e Q q =>
  ha H1 e _ fun H2 e2 => ⟨p, xs, rfl, Or.inr (ex_t (e.trans e2) h), q H2 e2⟩
theorem et_yes : EvT tYes σ H true := fun H1 _ _ q => q H1 (Ex.refl H1)
theorem ev_int1 {i : Int} (ha : Ev ta σ H (.int i)) : Ev (tCB rInt1 (tCons ta tNil)) σ H (.int i) := fun H1 e Q q =>
  ha H1 e _ fun H2 e2 => Or.inl ⟨i, rfl, q H2 e2⟩
/-- sum, all of a new list -/
theorem ev_sumN {ns : List Int} (ha : EvL ta σ H (ns.map V.int)) : Ev (tCB (rSum K) (tCons ta tNil)) σ H (.int ns.sum) := fun H1 e Q q =>
  ha H1 e _ fun p H2 _ e2 hp => ⟨p, ns, rfl, sq_of hp, q H2 e2⟩
theorem ev_allN {bs : List Bool} (ha : EvL ta σ H (bs.map V.bl)) : Ev (tCB (rAll K) (tCons ta tNil)) σ H (.bl (bs.all id)) := fun H1 e Q q =>
  ha H1 e _ fun p H2 _ e2 hp => ⟨p, bs, rfl, sq_of hp, q H2 e2⟩
/-- min of a list of ints: its least one, m -/
theorem ev_minL {p : Addr} {ns : List Int} {m : Int} (ha : Ev ta σ H (.ref p)) (h : SqL K H p (ns.map V.int)) (hm : m ∈ ns) (hl : ∀ x ∈ ns, m ≤ x) : Ev (tCB (rMin K) (tCons ta tNil)) σ H (.int m) := fun H1 e Q q =>
  ha H1 e _ fun H2 e2 => ⟨p, ns, rfl, ex_l (e.trans e2) h, List.length_pos_of_mem hm, fun m' h1 h2 => by
    rw [Int.le_antisymm (h2 m hm) (hl m' h1)]
    exact q H2 e2⟩
theorem ev_minN {ns : List Int} {m : Int} (ha : EvL ta σ H (ns.map V.int)) (hm : m ∈ ns) (hl : ∀ x ∈ ns, m ≤ x) : Ev (tCB (rMin K) (tCons ta tNil)) σ H (.int m) := fun H1 e Q q =>
  ha H1 e _ fun p H2 _ e2 hp => ⟨p, ns, rfl, sq_of hp, List.length_pos_of_mem hm, fun m' h1 h2 => by
    rw [Int.le_antisymm (h2 m hm) (hl m' h1)]
    exact q H2 e2⟩
theorem eu_tupleN {xs : List V} (ha : EvL ta σ H xs) : EvU (tCB (rTup1 K) (tCons ta tNil)) σ H xs := fun H1 e Q q =>
  ha H1 e _ fun p H2 hp0 e2 hp => ⟨p, xs, rfl, Or.inl ⟨sq_of hp, fun l hl => q l _ (fresh_back e2 hl) (e2.trans (Ex.new hl)) upd_same⟩⟩
theorem eu_tupleL {p : Addr} {xs : List V} (ha : Ev ta σ H (.ref p)) (h : SqL K H p xs) : EvU (tCB (rTup1 K) (tCons ta tNil)) σ H xs := fun H1 e Q q =>
  ha H1 e _ fun H2 e2 => ⟨p, xs, rfl, Or.inl ⟨ex_l (e.trans e2) h, fun l hl => q l _ (fresh_back e2 hl) (e2.trans (Ex.new hl)) upd_same⟩⟩
/-! promises of values, of new tuples, of new lists -/
def spV (P : List V → Hp → V → Prop) : Sp := fun vs H Q _ => ∃ v, P vs H v ∧ ∀ H', Ex H H' → Q v H'
def spU (P : List V → Hp → List V → Prop) : Sp := fun vs H Q _ => ∃ xs, P vs H xs ∧ ∀ p H', H p = none → Ex H H' → H' p = some (.tup xs) → Q (.ref p) H'
def spN (P : List V → Hp → List V → Prop) : Sp := fun vs H Q _ => ∃ xs, P vs H xs ∧ ∀ p H', H p = none → Ex H H' → H' p = some (.lst xs) → Q (.ref p) H'
theorem ev_cal {P : List V → Hp → V → Prop} {E : XK} {tt : TA} {vs : List V} (h : EvA tt σ H vs) (hp : ∀ H1, Ex H H1 → P vs H1 z) : Ev (tCall (spV P) [] E tt) σ H z := fun H1 e Q q =>
  h H1 e _ fun H2 e2 => by
    rw [List.append_nil]
    exact ⟨z, hp H2 (e.trans e2), fun H' e3 => q H' (e2.trans e3)⟩
theorem eu_cal {P : List V → Hp → List V → Prop} {E : XK} {tt : TA} {vs xs : List V} (h : EvA tt σ H vs) (hp : ∀ H1, Ex H H1 → P vs H1 xs) : EvU (tCall (spU P) [] E tt) σ H xs := fun H1 e Q q =>
  h H1 e _ fun H2 e2 => by
    rw [List.append_nil]
    exact ⟨xs, hp H2 (e.trans e2), fun p H' n e3 hp => q p H' (fresh_back e2 n) (e2.trans e3) hp⟩
theorem el_cal {P : List V → Hp → List V → Prop} {E : XK} {tt : TA} {vs xs : List V} (h : EvA tt σ H vs) (hp : ∀ H1, Ex H H1 → P vs H1 xs) : EvL (tCall (spN P) [] E tt) σ H xs := fun H1 e Q q =>
  h H1 e _ fun H2 e2 => by
    rw [List.append_nil]
    exact ⟨xs, hp H2 (e.trans e2), fun p H' n e3 hp => q p H' (fresh_back e2 n) (e2.trans e3) hp⟩
/-- a call whose second argument is a new list (a new tuple) -/
theorem ev_cal2L {P : List V → Hp → V → Prop} {E : XK} {xs : List V} (ha : Ev ta σ H x) (hb : EvL tb σ H xs) (hp : ∀ p H1, H1 p = some (.lst xs) → Ex H H1 → P [x, .ref p] H1 z) :
    Ev (tCall (spV P) [] E (tCons ta (tCons tb tNil))) σ H z := fun H1 e Q q =>
  ha H1 e _ fun H2 e2 => hb H2 (e.trans e2) _ fun p H3 _ e3 hp3 => ⟨z, hp p H3 hp3 ((e.trans e2).trans e3), fun H' e4 => q H' ((e2.trans e3).trans e4)⟩
theorem ev_cal2U {P : List V → Hp → V → Prop} {E : XK} {xs : List V} (ha : Ev ta σ H x) (hb : EvU tb σ H xs) (hp : ∀ p H1, H1 p = some (.tup xs) → Ex H H1 → P [x, .ref p] H1 z) :
    Ev (tCall (spV P) [] E (tCons ta (tCons tb tNil))) σ H z := fun H1 e Q q =>
  ha H1 e _ fun H2 e2 => hb H2 (e.trans e2) _ fun p H3 _ e3 hp3 => ⟨z, hp p H3 hp3 ((e.trans e2).trans e3), fun H' e4 => q H' ((e2.trans e3).trans e4)⟩
/-! comprehensions -/
theorem el_lcT {a : Addr} {xs : List V} {j : Nat} {vs : List Nat} (f : Nat → Bool) (v : Nat → V) (h : Ev tl σ H (.ref a)) (hx : SqT K H a xs) (hz : xs.length ≤ 40000)
    (hw : ∀ x, wipe ((wipe σ vs).set j (some x)) vs = wipe σ vs)
    (ht : ∀ (i : Nat) (x : V) H1, Ex H H1 → xs[i]? = some x → EvT tt ((wipe σ vs).set j (some x)) H1 (f i))
    (he : ∀ (i : Nat) (x : V) H1, Ex H H1 → xs[i]? = some x → f i = true → Ev te ((wipe σ vs).set j (some x)) H1 (v i)) :
    EvL (tLc (iTup K tl) (gName j) tt te vs) σ H (given xs.length f v) := by
  intro H0 e Q q
  refine h H0 e _ fun H1 e1 => ⟨a, rfl, ⟨xs, ex_t (e.trans e1) hx⟩, fun Dl hD => ?_⟩
  refine lc_tup (xs := xs) (Cw H1 f v Dl) ⟨hD, Ex.new hD, upd_same⟩ (fun i H' _ p => ex_t ((e.trans e1).trans p.2.1) hx) (fun i x H' hi p => ⟨hw x, ?_⟩)
    (fun H' p => q Dl H' (fresh_back e1 p.1) (e1.trans p.2.1) p.2.2)
  have hlt := (List.getElem?_eq_some_iff.mp hi).1
  exact cw_turn p (by omega) (ht i x H1 (e.trans e1) hi) fun hf => he i x H1 (e.trans e1) hi hf
/-- .. over enumerate of a tuple, both names taken -/
theorem el_lcE {ta : TA} {a : Addr} {xs : List V} {i0 i1 : Nat} {vs : List Nat} (f : Nat → Bool) (v : Nat → V) (h : EvA ta σ H [.ref a]) (hx : SqT K H a xs) (hz : xs.length ≤ 40000)
    (hw : ∀ x y, wipe (((wipe σ vs).set i0 (some x)).set i1 (some y)) vs = wipe σ vs)
    (ht : ∀ (i : Nat) (x : V) H1, Ex H H1 → xs[i]? = some x → EvT tt (((wipe σ vs).set i0 (some (.int (i : Nat)))).set i1 (some x)) H1 (f i))
    (he : ∀ (i : Nat) (x : V) H1, Ex H H1 → xs[i]? = some x → f i = true → Ev te (((wipe σ vs).set i0 (some (.int (i : Nat)))).set i1 (some x)) H1 (v i)) :
    EvL (tLc (iEnT K ta) (gTup K 2 (gCons (gName i0) (gCons (gName i1) gNil))) tt te vs) σ H (given xs.length f v) := by
  intro H0 e Q q
  refine h H0 e _ fun H1 e1 => ⟨a, xs, rfl, ex_t (e.trans e1) hx, fun Dl hD => ?_⟩
  refine lc_it (walk_enT (K := K) (a := a) (xs := xs)) (Cw H1 f v Dl) ⟨hD, Ex.new hD, upd_same⟩ (fun i H' _ p => ex_t ((e.trans e1).trans p.2.1) hx) (fun i z H' H'' hi p y => ?_)
    (fun H' p => q Dl H' (fresh_back e1 p.1) (e1.trans p.2.1) p.2.2)
  obtain ⟨T, x, w, rfl, nT, rfl, h3, h4⟩ := y
  cases h3
  refine ⟨T, [.int (i : Nat), w], rfl, .inl (.inl upd_same), rfl, _, [w], rfl, _, [], rfl, rfl, hw _ _, ?_⟩
  have p2 : Cw H1 f v Dl i (upd H' T (.tup [.int (i : Nat), w])) := by
    obtain ⟨p1, p2, p3⟩ := p
    exact ⟨p1, p2.trans (Ex.new nT), Ex.new nT _ _ p3⟩
  exact cw_turn p2 (by omega) (ht i w H1 (e.trans e1) h4) fun hf => he i w H1 (e.trans e1) h4 hf
theorem given_all (n : Nat) (v : Nat → V) : given n (fun _ => true) v = (List.range n).map v := by
  unfold given
  rw [List.filter_eq_self.mpr fun _ _ => rfl]
/-! new tuples gathered in a new list -/
def TupsR (H : Hp) (rs : List Addr) (xss : List (List V)) : Prop := Paired (fun r xs => H r = some (.tup xs)) rs xss
theorem paired_snoc {α β : Type} {F : α → β → Prop} {a : α} {b : β} (h : F a b) : ∀ {l : List α} {m : List β}, Paired F l m → Paired F (l ++ [a]) (m ++ [b])
  | _, _, .nil => .cons h .nil
  | _, _, .cons r t => .cons r (paired_snoc h t)
theorem paired_app {α β : Type} {F : α → β → Prop} {l' : List α} {m' : List β} (h : Paired F l' m') : ∀ {l : List α} {m : List β}, Paired F l m → Paired F (l ++ l') (m ++ m')
  | _, _, .nil => h
  | _, _, .cons r t => .cons r (paired_app h t)
theorem paired_get {α β : Type} {F : α → β → Prop} : ∀ {l : List α} {m : List β} {i : Nat} {a : α}, Paired F l m → l[i]? = some a → ∃ b, m[i]? = some b ∧ F a b
  | _, _, _, _, .nil, e => by simp at e
  | _, _, 0, _, .cons r _, e => by simp at e; subst e; exact ⟨_, rfl, r⟩
  | _, _, i + 1, a, .cons _ t, e => by
    obtain ⟨b, h1, h2⟩ := paired_get (i := i) (a := a) t (by simpa using e)
    exact ⟨b, by simpa using h1, h2⟩
theorem paired_len {α β : Type} {F : α → β → Prop} : ∀ {l : List α} {m : List β}, Paired F l m → l.length = m.length
  | _, _, .nil => rfl
  | _, _, .cons _ t => by rw [List.length_cons, List.length_cons, paired_len t]
theorem TupsR.ex {rs : List Addr} {xss : List (List V)} (h : TupsR H rs xss) (e : Ex H H') : TupsR H' rs xss := Paired.mapP h fun _ _ q => e _ _ q
/-- a list object changed: tuples stand -/
theorem TupsR.upd {rs : List Addr} {xss : List (List V)} {D : Addr} {ys zs : List V} (h : TupsR H rs xss) (hD : H D = some (.lst ys)) : TupsR (upd H D (.lst zs)) rs xss :=
  Paired.mapP h fun r xs q => by
    have n : r ≠ D := ne_of q hD (by intro z; cases z)
    rw [upd_ne n]
    exact q
def EvLU (te : TE) (σ : L2.St) (H : Hp) (xss : List (List V)) : Prop := ∀ H1, Ex H H1 → ∀ Q : VK,
  (∀ p rs H2, H1 p = none → Ex H1 H2 → H2 p = some (.lst (rs.map V.ref)) → TupsR H2 rs xss → Q (.ref p) H2) → te σ H1 Q
def givenU (n : Nat) (f : Nat → Bool) (v : Nat → List V) : List (List V) := ((List.range n).filter f).map v
theorem givenU_yes {n : Nat} {f : Nat → Bool} {v : Nat → List V} (h : f n = true) : givenU (n + 1) f v = givenU n f v ++ [v n] := by
  unfold givenU
  rw [List.range_succ, List.filter_append, List.map_append, List.filter_cons, if_pos h]; rfl
theorem givenU_no {n : Nat} {f : Nat → Bool} {v : Nat → List V} (h : f n = false) : givenU (n + 1) f v = givenU n f v := by
  unfold givenU
  rw [List.range_succ, List.filter_append, List.map_append, List.filter_cons, if_neg (by rw [h]; decide)]
  simp
theorem givenU_len (n : Nat) (f : Nat → Bool) (v : Nat → List V) : (givenU n f v).length ≤ n := by
  unfold givenU
  rw [List.length_map]
  have h := List.length_filter_le f (List.range n)
  rw [List.length_range] at h
  exact h
def Cu (H : Hp) (f : Nat → Bool) (v : Nat → List V) (D : Addr) (i : Nat) (H' : Hp) : Prop :=
  H D = none ∧ Ex H H' ∧ ∃ rs : List Addr, H' D = some (.lst (rs.map V.ref)) ∧ TupsR H' rs (givenU i f v)
theorem cu_turn {f : Nat → Bool} {v : Nat → List V} {D : Addr} {i : Nat} {σ2 : L2.St} (p : Cu H f v D i H') (hi : i < 50000) (ht : EvT t σ2 H (f i)) (he : f i = true → EvU te σ2 H (v i)) :
    t σ2 H' fun b H3 => if b = true then te σ2 H3 fun y H4 => ∃ acc, H4 D = some (.lst acc) ∧ acc.length < sizeLine ∧ Cu H f v D (i + 1) (upd H4 D (.lst (acc ++ [y]))) else Cu H f v D (i + 1) H3 := by
  obtain ⟨p1, p2, rs, p3, p4⟩ := p
  refine ht H' p2 _ fun H3 e3 => ?_
  cases hf : f i with
  | true =>
    show te σ2 H3 fun y H4 => ∃ acc, H4 D = some (.lst acc) ∧ acc.length < sizeLine ∧ Cu H f v D (i + 1) (upd H4 D (.lst (acc ++ [y])))
    refine he hf H3 (p2.trans e3) _ fun q H4 nq e4 hq => ?_
    have hD4 := e4 D _ (e3 D _ p3)
    have hl : (rs.map V.ref).length < 100000 := by
      rw [List.length_map, paired_len p4]
      have := givenU_len i f v
      omega
    refine ⟨rs.map V.ref, hD4, sz_lt hl, p1, Ex.mut ((p2.trans e3).trans e4) p1, rs ++ [q], ?_, ?_⟩
    · rw [upd_same, List.map_append]; rfl
    · rw [givenU_yes hf]
      have s : TupsR H4 (rs ++ [q]) (givenU i f v ++ [v i]) := paired_snoc (F := fun r xs => H4 r = some (.tup xs)) hq (p4.ex (e3.trans e4))
      exact s.upd hD4
  | false =>
    show Cu H f v D (i + 1) H3
    refine ⟨p1, p2.trans e3, rs, e3 D _ p3, ?_⟩
    rw [givenU_no hf]
    exact p4.ex e3
theorem elu_lcR {ta : TA} {j : Nat} {vs : List Nat} {n : Int} (f : Nat → Bool) (v : Nat → List V) (h : EvA ta σ H [.int n]) (hn : 0 ≤ n ∧ n ≤ 40000) (hw : ∀ x, wipe ((wipe σ vs).set j (some x)) vs = wipe σ vs)
    (ht : ∀ (i : Nat) H1, Ex H H1 → (i : Int) < n → EvT tt ((wipe σ vs).set j (some (.int (i : Int)))) H1 (f i))
    (he : ∀ (i : Nat) H1, Ex H H1 → (i : Int) < n → f i = true → EvU te ((wipe σ vs).set j (some (.int (i : Int)))) H1 (v i)) :
    EvLU (tLc (iRng1 ta) (gName j) tt te vs) σ H (givenU n.toNat f v) := by
  intro H0 e Q q
  refine h H0 e _ fun H1 e1 => ⟨n, rfl, by omega, by omega, fun Dl hD => ?_⟩
  refine lc_it (walk_range (lo := 0) (n := n.toNat)) (Cu H1 f v Dl) ⟨hD, Ex.new hD, [], upd_same, .nil⟩ (fun _ _ _ _ => trivial) (fun i x H' H'' hi p y => ?_)
    (fun H' p => ?_)
  · obtain ⟨rfl, rfl⟩ := y
    simp only [Int.zero_add]
    exact ⟨hw _, cu_turn p (by omega) (ht i H1 (e.trans e1) (by omega)) fun hf => he i H1 (e.trans e1) (by omega) hf⟩
  · obtain ⟨p1, p2, rs, p3, p4⟩ := p
    exact q Dl rs H' (fresh_back e1 p1) (e1.trans p2) p3 p4
/-- over a new list of new tuples -/
theorem elu_lcLU {tl : TE} {j : Nat} {vs : List Nat} {xss : List (List V)} (v : Nat → List V) (h : EvLU tl σ H xss) (hz : xss.length ≤ 40000) (hw : ∀ x, wipe ((wipe σ vs).set j (some x)) vs = wipe σ vs)
    (ht : ∀ s H1, EvT tt s H1 true)
    (he : ∀ (i : Nat) (r : Addr) (xs : List V) H1, Ex H H1 → xss[i]? = some xs → H1 r = some (.tup xs) → EvU te ((wipe σ vs).set j (some (.ref r))) H1 (v i)) :
    EvLU (tLc (iList K tl) (gName j) tt te vs) σ H ((List.range xss.length).map v) := by
  intro H0 e Q q
  refine h H0 e _ fun a rs H1 na e1 ha hr => ⟨a, rfl, ⟨_, sq_of ha⟩, fun Dl hD => ?_⟩
  have hl : (rs.map V.ref).length = xss.length := by rw [List.length_map, paired_len hr]
  have hall : (List.range xss.length).map v = givenU xss.length (fun _ => true) v := by
    unfold givenU
    rw [List.filter_eq_self.mpr fun _ _ => rfl]
  refine lc_it (walk_list (K := K) (a := a) (xs := rs.map V.ref)) (Cu H1 (fun _ => true) v Dl) ⟨hD, Ex.new hD, [], upd_same, .nil⟩ (fun _ _ _ p => sq_of (p.2.1 a _ ha)) (fun i x H' H'' hi p y => ?_)
    (fun H' p => ?_)
  · obtain ⟨rfl, hx⟩ := y
    rw [List.getElem?_map] at hx
    obtain ⟨r, hr1, rfl⟩ := Option.map_eq_some_iff.mp hx
    obtain ⟨xs, hxs, htp⟩ := paired_get hr hr1
    exact ⟨hw _, cu_turn p (by omega) (ht _ _) fun _ => he i r xs H1 (e.trans e1) hxs htp⟩
  · obtain ⟨p1, p2, rs', p3, p4⟩ := p
    rw [hl] at p4
    rw [hall] at q
    exact q Dl rs' H' (fresh_back e1 p1) (e1.trans p2) p3 p4
/-- over a range whose end may lie below 0 -/
theorem el_lcRz {ta : TA} {j : Nat} {vs : List Nat} {n : Int} (f : Nat → Bool) (v : Nat → V) (h : EvA ta σ H [.int n]) (hn : -40000 ≤ n ∧ n ≤ 40000) (hw : ∀ x, wipe ((wipe σ vs).set j (some x)) vs = wipe σ vs)
    (ht : ∀ (i : Nat) H1, Ex H H1 → (i : Int) < n → EvT tt ((wipe σ vs).set j (some (.int (i : Int)))) H1 (f i))
    (he : ∀ (i : Nat) H1, Ex H H1 → (i : Int) < n → f i = true → Ev te ((wipe σ vs).set j (some (.int (i : Int)))) H1 (v i)) :
    EvL (tLc (iRng1 ta) (gName j) tt te vs) σ H (given n.toNat f v) := by
  intro H0 e Q q
  refine h H0 e _ fun H1 e1 => ⟨n, rfl, by omega, by omega, fun Dl hD => ?_⟩
  refine lc_it (walk_range (lo := 0) (n := n.toNat)) (Cw H1 f v Dl) ⟨hD, Ex.new hD, upd_same⟩ (fun _ _ _ _ => trivial) (fun i x H' H'' hi p y => ?_)
    (fun H' p => q Dl H' (fresh_back e1 p.1) (e1.trans p.2.1) p.2.2)
  obtain ⟨rfl, rfl⟩ := y
  simp only [Int.zero_add]
  exact ⟨hw _, cw_turn p (by omega) (ht i H1 (e.trans e1) (by omega)) fun hf => he i H1 (e.trans e1) (by omega) hf⟩
theorem given_true (n : Nat) : given n (fun _ => true) (fun _ => V.bl true) = (List.replicate n true).map V.bl := by
  rw [given_all, List.map_replicate]
  apply List.ext_getElem <;> simp
theorem given_ints (n : Nat) (g : Nat → Int) : given n (fun _ => true) (fun i => V.int (g i)) = ((List.range n).map g).map V.int := by
  rw [given_all, List.map_map]
  rfl
/-! statements -/
variable {D : Ends} {tz tu : TS}
theorem q_par {i j : Nat} {ta : TA} {v w : V} (h : EvA ta σ H [v, w]) (k : ∀ H1, Ex H H1 → tz D ((σ.set i (some v)).set j (some w)) H1) : tSeq (tPar i j ta) tz D σ H :=
  h H (Ex.refl H) _ fun H1 e => ⟨v, w, rfl, k H1 e⟩
theorem s_par {i j : Nat} {ta : TA} {v w : V} (h : EvA ta σ H [v, w]) (k : ∀ H1, Ex H H1 → D.nx ((σ.set i (some v)).set j (some w)) H1) : tPar i j ta D σ H :=
  h H (Ex.refl H) _ fun H1 e => ⟨v, w, rfl, k H1 e⟩
theorem q_tup2 {i j : Nat} {ta : TA} {v w : V} (h : EvA ta σ H [v, w]) (k : ∀ H1, Ex H H1 → tz D ((σ.set i (some v)).set j (some w)) H1) :
    tSeq (tAsg (tTup ta) (gTup K 2 (gCons (gName i) (gCons (gName j) gNil)))) tz D σ H :=
  h H (Ex.refl H) _ fun H1 e => ⟨sz_of (n := 2) (by decide), fun p np => ⟨p, [v, w], rfl, st_of upd_same, rfl, v, [w], rfl, w, [], rfl, rfl, k _ (e.trans (Ex.new np))⟩⟩
/-- a guard that is passed -/
theorem q_pass (h : EvT t σ H false) (k : ∀ H1, Ex H H1 → tz D σ H1) : tSeq (tIfS t tu tNext) tz D σ H := q_when h (fun z => nomatch z) fun _ => k
theorem s_pass (h : EvT t σ H false) (k : ∀ H1, Ex H H1 → D.nx σ H1) : tIfS t tu tNext D σ H := s_when h (fun z => nomatch z) fun _ => k
/-- a for over enumerate of a tuple -/
theorem s_forE {ta : TA} {a : Addr} {xs : List V} {i0 i1 : Nat} (h : EvA ta σ H [.ref a]) (hx : SqT K H a xs) (Pv : Nat → L2.St → Hp → Prop) (h0 : ∀ H1, Ex H H1 → Pv 0 σ H1)
    (hG : ∀ i σ' H', Pv i σ' H' → Ex H H')
    (hs : ∀ (i : Nat) x σ' H', xs[i]? = some x → Pv i σ' H' → ∀ H'', Ex H' H'' → tu { D with nx := Pv (i + 1), ct := Pv (i + 1), bk := D.nx } ((σ'.set i0 (some (.int (i : Nat)))).set i1 (some x)) H'')
    (hd : ∀ σ' H', Pv xs.length σ' H' → D.nx σ' H') : tFor (iEnT K ta) (gTup K 2 (gCons (gName i0) (gCons (gName i1) gNil))) tu D σ H := by
  refine h H (Ex.refl H) _ fun H1 e1 => ⟨a, xs, rfl, ex_t e1 hx, ?_⟩
  refine for_it (walk_enT (K := K) (a := a) (xs := xs)) Pv (h0 H1 e1) (fun i σ' H' _ p => ex_t (hG i σ' H' p) hx) (fun i z σ' H' H'' hi p y => ?_) hd
  obtain ⟨T, x, w, rfl, nT, rfl, h3, h4⟩ := y
  cases h3
  exact ⟨T, [.int (i : Nat), w], rfl, .inl (.inl upd_same), rfl, _, [w], rfl, _, [], rfl, rfl, hs i w σ' H' h4 p _ (Ex.new nT)⟩
/-- a for over a list or a tuple -/
theorem q_forSeq {a : Addr} {xs : List V} {j : Nat} (h : Ev tl σ H (.ref a)) (hx : SqL K H a xs ∨ SqT K H a xs) (Pv : Nat → L2.St → Hp → Prop) (h0 : ∀ H1, Ex H H1 → Pv 0 σ H1)
    (hl : ∀ i σ' H', Pv i σ' H' → Ex H H')
    (hs : ∀ i x σ' H', xs[i]? = some x → Pv i σ' H' → tu { D with nx := Pv (i + 1), ct := Pv (i + 1), bk := tz D } (σ'.set j (some x)) H')
    (hd : ∀ σ' H', Pv xs.length σ' H' → tz D σ' H') : tSeq (tFor (iSeq K tl) (gName j) tu) tz D σ H := by
  rcases hx with hx | hx
  · exact Or.inl (s_forL (D := { D with nx := tz D }) h hx Pv h0 (fun i σ' H' _ p => ex_l (hl i σ' H' p) hx) hs hd)
  · exact Or.inr (s_forT (D := { D with nx := tz D }) h hx Pv h0 (fun i σ' H' _ p => ex_t (hl i σ' H' p) hx) hs hd)
end
/-! what the program's values stand for -/
def vi (l : List Nat) : List V := l.map fun (n : Nat) => V.int (n : Int)
theorem vi_get {l : List Nat} {i : Nat} {x : V} (h : (vi l)[i]? = some x) : ∃ n, l[i]? = some n ∧ x = .int (n : Int) := by
  unfold vi at h
  rw [List.getElem?_map] at h
  obtain ⟨n, h1, h2⟩ := Option.map_eq_some_iff.mp h
  exact ⟨n, h1, h2.symm⟩
theorem vi_at {l : List Nat} {i n : Nat} (h : l[i]? = some n) : (vi l)[i]? = some (.int (n : Int)) := by
  unfold vi
  rw [List.getElem?_map, h]; rfl
theorem vi_len (l : List Nat) : (vi l).length = l.length := List.length_map ..
theorem vi_flat (l : List Nat) : (vi l).all flatV = true := by
  unfold vi
  rw [List.all_map, List.all_eq_true]
  intro _ _
  rfl
theorem vi_in (x : Nat) (l : List Nat) : inV (.int (x : Int)) (vi l) = l.contains x := by
  unfold inV vi
  rw [List.any_map]
  induction l with
  | nil => rfl
  | cons a r ih =>
    rw [List.any_cons, ih, List.contains_cons]
    congr 1
    show ((a : Int) == (x : Int)) = (x == a)
    rw [Bool.eq_iff_iff, beq_iff_eq, beq_iff_eq]
    omega
def JobsAt (H : Hp) (J : Addr) (jobs : List Job) : Prop := ∃ rs : List Addr, rs.length = jobs.length ∧ H J = some (.tup (rs.map V.ref)) ∧
  ∀ (i : Nat) (r : Addr), rs[i]? = some r → H r = some (.tup [.int (jl jobs i), .int (jp jobs i)])
theorem JobsAt.ex {H H' : Hp} {J : Addr} {jobs : List Job} (h : JobsAt H J jobs) (e : Ex H H') : JobsAt H' J jobs := by
  obtain ⟨rs, h1, h2, h3⟩ := h
  exact ⟨rs, h1, e _ _ h2, fun i r hr => e _ _ (h3 i r hr)⟩
structure OkJobs (jobs : List Job) : Prop where
  few : 1 ≤ jobs.length ∧ jobs.length ≤ 5
  size : ∀ i, i < jobs.length → (1 ≤ jl jobs i ∧ jl jobs i ≤ 99) ∧ 0 ≤ jp jobs i ∧ jp jobs i ≤ 99
/-- jobs[i], then its length or its price -/
theorem ev_job {K : PySem.W.Frag} {σ : L2.St} {H : Hp} {ta tb : TE} {J : Addr} {jobs : List Job} {i : Nat} (h : JobsAt H J jobs) (hi : i < jobs.length) (ha : Ev ta σ H (.ref J)) (hb : Ev tb σ H (.int (i : Int))) :
    ∃ r, Ev (tOp (rIxT K) ta tb) σ H (.ref r) ∧ H r = some (.tup [.int (jl jobs i), .int (jp jobs i)]) := by
  obtain ⟨rs, h1, h2, h3⟩ := h
  have hr : rs[i]? = some (rs[i]'(by omega)) := List.getElem?_eq_getElem _
  refine ⟨rs[i]'(by omega), ev_op ha hb (rv_ixT (st_of h2) (atI_nat ?_)), h3 i _ hr⟩
  rw [List.getElem?_map, hr]; rfl
theorem ev_jl {K : PySem.W.Frag} {σ : L2.St} {H : Hp} {ta tb : TE} {J : Addr} {jobs : List Job} {i : Nat} (h : JobsAt H J jobs) (hi : i < jobs.length) (ha : Ev ta σ H (.ref J)) (hb : Ev tb σ H (.int (i : Int))) :
    Ev (tOp (rIxT K) (tOp (rIxT K) ta tb) (tC (.int 0))) σ H (.int (jl jobs i)) := by
  obtain ⟨r, h1, h2⟩ := ev_job (K := K) h hi ha hb
  exact ev_op h1 ev_c (rv_ixT (st_of h2) (atI_nat (j := 0) rfl))
theorem ev_jp {K : PySem.W.Frag} {σ : L2.St} {H : Hp} {ta tb : TE} {J : Addr} {jobs : List Job} {i : Nat} (h : JobsAt H J jobs) (hi : i < jobs.length) (ha : Ev ta σ H (.ref J)) (hb : Ev tb σ H (.int (i : Int))) :
    Ev (tOp (rIxT K) (tOp (rIxT K) ta tb) (tC (.int 1))) σ H (.int (jp jobs i)) := by
  obtain ⟨r, h1, h2⟩ := ev_job (K := K) h hi ha hb
  exact ev_op h1 ev_c (rv_ixT (st_of h2) (atI_nat (j := 1) rfl))
theorem JobsAt.len {K : PySem.W.Frag} {σ : L2.St} {H : Hp} {ta : TE} {J : Addr} {jobs : List Job} (h : JobsAt H J jobs) (ha : Ev ta σ H (.ref J)) : Ev (tCB (rLenS K) (tCons ta tNil)) σ H (.int (jobs.length : Int)) := by
  obtain ⟨rs, h1, h2, h3⟩ := h
  have q := ev_lenT (K := K) ha (st_of h2)
  rw [List.length_map, h1] at q
  exact q
end Sw

namespace Sw
open PySem PySem.Spec PyProof.Rows L2 Evl
abbrev s_whole : Stmt := topS 6
theorem sc_whole : FnScope ["value"] ["value"] (defScope s_whole) :=
  ⟨rfl, rfl, rfl, by decide +kernel, rfl, by decide +kernel, by decide +kernel⟩
abbrev s_within : Stmt := topS 7
theorem sc_within : FnScope ["value", "low", "high"] ["value", "low", "high"] (defScope s_within) :=
  ⟨rfl, rfl, rfl, by decide +kernel, rfl, by decide +kernel, by decide +kernel⟩
abbrev s_tuple_of : Stmt := topS 8
theorem sc_tuple_of : FnScope ["value", "low", "high"] ["value", "low", "high"] (defScope s_tuple_of) :=
  ⟨rfl, rfl, rfl, by decide +kernel, rfl, by decide +kernel, by decide +kernel⟩
abbrev s_is_rising : Stmt := topS 9
theorem sc_is_rising : FnScope ["value", "at"] ["value"] (defScope s_is_rising) :=
  ⟨rfl, rfl, rfl, by decide +kernel, rfl, by decide +kernel, by decide +kernel⟩
abbrev s_are_members : Stmt := topS 10
theorem sc_are_members : FnScope ["many", "value", "told"] ["many", "value"] (defScope s_are_members) :=
  ⟨rfl, rfl, rfl, by decide +kernel, rfl, by decide +kernel, by decide +kernel⟩
abbrev s_need_group : Stmt := topS 11
theorem sc_need_group : FnScope ["many", "value"] ["many", "value"] (defScope s_need_group) :=
  ⟨rfl, rfl, rfl, by decide +kernel, rfl, by decide +kernel, by decide +kernel⟩
abbrev s_group_of : Stmt := topS 12
theorem sc_group_of : FnScope ["mark", "found", "told"] ["mark"] (defScope s_group_of) :=
  ⟨rfl, rfl, rfl, by decide +kernel, rfl, by decide +kernel, by decide +kernel⟩
abbrev s_need_jobs : Stmt := topS 16
theorem sc_need_jobs : FnScope ["value", "index", "job"] ["value"] (defScope s_need_jobs) :=
  ⟨rfl, rfl, rfl, by decide +kernel, rfl, by decide +kernel, by decide +kernel⟩
def pWhole : List V → Hp → V → Prop := fun vs _ v => ∃ n : Int, vs = [.int n] ∧ v = .bl true
def pWithin : List V → Hp → V → Prop := fun vs _ v => ∃ n a b : Int, vs = [.int n, .int a, .int b] ∧ v = .bl (decide (a ≤ n) && decide (n ≤ b))
def pTupleOf : List V → Hp → V → Prop := fun vs H v => ∃ (p : Addr) (xs : List V) (a b : Int), vs = [.ref p, .int a, .int b] ∧ H p = some (.tup xs) ∧
  v = .bl (decide (a ≤ (xs.length : Int)) && decide ((xs.length : Int) ≤ b))
def pRising : List V → Hp → V → Prop := fun vs H v => ∃ (p : Addr) (g : List Nat), vs = [.ref p] ∧ H p = some (.tup (vi g)) ∧ g.length ≤ 100 ∧ g.Pairwise (· < ·) ∧ v = .bl true
def pMembers (r : V) : List V → Hp → V → Prop := fun vs H v => ∃ (p : Addr) (g : List Nat) (n : Nat), vs = [.int (n : Int), .ref p] ∧ H p = some (.tup (vi g)) ∧ g.length ≤ 100 ∧ g.Pairwise (· < ·) ∧ (∀ x ∈ g, x < n) ∧ v = r
def pGroupOf : List V → Hp → List V → Prop := fun vs _ xs => ∃ m : Nat, m < 32 ∧ vs = [.int (m : Int)] ∧ xs = vi (bits10 m)
def pNeedJobs : List V → Hp → V → Prop := fun vs H v => ∃ (J : Addr) (jobs : List Job), vs = [.ref J] ∧ JobsAt H J jobs ∧ OkJobs jobs ∧ v = .non
section
variable {P : Program} {w : World} {K : PySem.W.Frag} {mg : Str → Option Value} {base : Heap} {f : Addr} {fd : FuncData}
theorem ok_whole (F : Fun K "whole" "whole" s_whole f fd) (B : Tp mg) : FnOk P w K mg base CX0 1 f fd ["value"] (spV pWhole) := by
  refine F.ok sc_whole (fun vs H Q E h => ?_) (fun cdv A outer s H vs Q E hr h => ?_)
  · obtain ⟨v, ⟨n, rfl, _⟩, _⟩ := h; rfl
  · obtain ⟨v, ⟨n, rfl, rfl⟩, q⟩ := h
    refine ⟨_, (pss_one (ps_ret (pe_and (pe_callB (isiK K rfl) (by rfl) B.isinstance bt_isinstance (pa_cons (pv 0) (pa_cons (pe_bltn (v := .ty "int") (by rfl) B.int bt_int rfl) pa_nil))) (pe_one (pe_not (pe_callB (isiK K rfl) (by rfl) B.isinstance bt_isinstance (pa_cons (pv 0) (pa_cons (pe_bltn (v := .ty "bool") (by rfl) B.bool bt_bool rfl) pa_nil)))))))), ?_⟩
    refine s_ret (v := .bl true) ?_ q
    exact ev_andV (ev_isi (ev_var rfl) ev_c (.ty _) ty_int ki_int_int) fun _ => ev_notV (ev_isi (ev_var rfl) ev_c (.ty _) ty_int ki_int_bool)
theorem ok_within (F : Fun K "within" "within" s_within f fd) (B : Tp mg) (C_whole : Cal P w K mg base 1 "whole" ["value"] (spV pWhole)) :
    FnOk P w K mg base CX0 2 f fd ["value", "low", "high"] (spV pWithin) := by
  refine F.ok sc_within (fun vs H Q E h => ?_) (fun cdv A outer s H vs Q E hr h => ?_)
  · obtain ⟨v, ⟨n, a, b, rfl, _⟩, _⟩ := h; rfl
  · obtain ⟨v, ⟨n, a, b, rfl, rfl⟩, q⟩ := h
    refine ⟨_, (pss_one (ps_ret (pe_and (pe_cal C_whole hr (by decide) (by rfl) (pa_cons (pv 0) pa_nil)) (pe_one (pe_chain op_le op_le (pv 1) (pv 0) (pv 2)))))), ?_⟩
    refine s_ret ?_ q
    refine ev_andV (a := true) (ev_cal (ea_cons (ev_var rfl) ea_nil) fun _ _ => ⟨n, rfl, rfl⟩) fun _ => ?_
    exact ev_between (ev_var rfl) (ev_var rfl) (ev_var rfl)
theorem ok_tuple_of (F : Fun K "tuple_of" "tuple_of" s_tuple_of f fd) (B : Tp mg) : FnOk P w K mg base CX0 1 f fd ["value", "low", "high"] (spV pTupleOf) := by
  refine F.ok sc_tuple_of (fun vs H Q E h => ?_) (fun cdv A outer s H vs Q E hr h => ?_)
  · obtain ⟨v, ⟨p, xs, a, b, rfl, _⟩, _⟩ := h; rfl
  · obtain ⟨v, ⟨p, xs, a, b, rfl, hp, rfl⟩, q⟩ := h
    refine ⟨_, (pss_one (ps_ret (pe_and (pe_callB (isiK K rfl) (by rfl) B.isinstance bt_isinstance (pa_cons (pv 0) (pa_cons (pe_bltn (v := .ty "tuple") (by rfl) B.tuple bt_tuple rfl) pa_nil))) (pe_one (pe_chain op_le op_le (pv 1) (pe_callB (lenK K rfl) (by rfl) B.len bt_len (pa_cons (pv 0) pa_nil)) (pv 2)))))), ?_⟩
    refine s_ret ?_ q
    refine ev_andV (a := true) (ev_isi (ev_var rfl) ev_c (.ty _) (ty_tup hp) ki_tuple_tuple) fun _ => ?_
    exact ev_between (ev_var rfl) (ev_lenT (ev_var rfl) (st_of hp)) (ev_var rfl)
theorem ok_is_rising (F : Fun K "is_rising" "is_rising" s_is_rising f fd) (B : Tp mg) : FnOk P w K mg base CX0 1 f fd ["value"] (spV pRising) := by
  refine F.ok sc_is_rising (fun vs H Q E h => ?_) (fun cdv A outer s H vs Q E hr h => ?_)
  · obtain ⟨v, ⟨p, g, rfl, _⟩, _⟩ := h; rfl
  · obtain ⟨v, ⟨p, g, rfl, hp, hl, hg, rfl⟩, q⟩ := h
    refine ⟨_, (pss_one (ps_ret (pe_callB (allK K rfl rfl) (by rfl) B.all bt_all (pa_cons (pe_lc (own := [("at", 1)]) (g := gName 1) (tt := tYes) rfl sc_is_rising.nd (pi_range1 (by rfl) B.range (pa_cons (pe_op op_sub (pe_callB (lenK K rfl) (by rfl) B.len bt_len (pa_cons (pv 0) pa_nil)) pe_int) pa_nil)) (blkOk_by (N := ["value", "at"]) (sc := (defScope s_is_rising)) (by decide +kernel)) (fun _ _ _ _ _ => pg_name (i := 1) sc_is_rising.nd rfl (.inl rfl)) (fun _ _ _ _ _ => pts_nil) (fun _ _ _ _ _ => (pe_cmpR op_lt (pe_ix (ixT K rfl) (pv 0) (pv 1) (fun _ _ => rfl)) (pe_ix (ixT K rfl) (pv 0) (pe_op op_add (pv 1) pe_int) (fun _ _ => rfl)) (nomark _)))) pa_nil)))), ?_⟩
    refine s_ret ?_ q
    have e1 : ((List.replicate ((g.length : Int) - 1).toNat true).all id) = true := by simp
    refine ev_is (ev_allN (bs := List.replicate ((g.length : Int) - 1).toNat true) ?_) (by rw [e1])
    rw [← given_true]
    have hlen : ((vi g).length : Int) = (g.length : Int) := by rw [vi_len]
    refine el_lcRz (fun _ => true) (fun _ => .bl true) (ea_cons (ev_op (ev_is (ev_lenT (ev_var rfl) (st_of hp)) (by rw [hlen])) ev_c rv_I0) ea_nil) (by omega) (fun _ => rfl) (fun _ _ _ _ => et_yes) (fun i H1 e hi _ => ?_)
    have h1 : i < g.length := by omega
    have h2 : i + 1 < g.length := by omega
    have hlt : g[i] < g[i + 1] := (List.pairwise_iff_getElem.mp hg) i (i + 1) h1 h2 (by omega)
    have hp1 := st_of (K := K) (e _ _ hp)
    refine ev_is (ev_op (ev_op (ev_var rfl) (ev_var rfl) (rv_ixT hp1 (atI_nat (vi_at (List.getElem?_eq_getElem h1))))) (ev_op (ev_var rfl) (ev_is (ev_op (ev_var rfl) ev_c rv_I0) (w := .int ((i + 1 : Nat) : Int)) rfl) (rv_ixT hp1 (atI_nat (vi_at (List.getElem?_eq_getElem h2))))) rv_I0) ?_
    rw [decide_eq_true (show ((g[i] : Nat) : Int) < ((g[i + 1] : Nat) : Int) by omega)]
theorem ok_are_members (F : Fun K "are_members" "are_members" s_are_members f fd) (B : Tp mg) (C_within : Cal P w K mg base 2 "within" ["value", "low", "high"] (spV pWithin))
    (C_is_rising : Cal P w K mg base 1 "is_rising" ["value"] (spV pRising)) : FnOk P w K mg base CX0 3 f fd ["many", "value"] (spV (pMembers (.bl true))) := by
  refine F.ok sc_are_members (fun vs H Q E h => ?_) (fun cdv A outer s H vs Q E hr h => ?_)
  · obtain ⟨v, ⟨p, g, n, rfl, _⟩, _⟩ := h; rfl
  · obtain ⟨v, ⟨p, g, n, rfl, hp, hl, hg, hn, rfl⟩, q⟩ := h
    refine ⟨_, (pss_one (ps_ret (pe_and (pe_callB (isiK K rfl) (by rfl) B.isinstance bt_isinstance (pa_cons (pv 1) (pa_cons (pe_bltn (v := .ty "tuple") (by rfl) B.tuple bt_tuple rfl) pa_nil))) (pe_and (pe_callB (allK K rfl rfl) (by rfl) B.all bt_all (pa_cons (pe_lc (own := [("told", 2)]) (g := gName 2) (tt := tYes) rfl sc_are_members.nd (pi_tupK K rfl (pv 1)) (blkOk_by (N := ["many", "value", "told"]) (sc := (defScope s_are_members)) (by decide +kernel)) (fun _ _ _ _ _ => pg_name (i := 2) sc_are_members.nd rfl (.inl rfl)) (fun _ _ _ _ _ => pts_nil) (fun _ _ _ _ _ => (pe_cal C_within hr (by decide) (by rfl) (pa_cons (pv 2) (pa_cons pe_int (pa_cons (pe_op op_sub (pv 0) pe_int) pa_nil)))))) pa_nil)) (pe_one (pe_cal C_is_rising hr (by decide) (by rfl) (pa_cons (pv 1) pa_nil))))))), ?_⟩
    refine s_ret ?_ q
    refine ev_andV (a := true) (ev_isi (ev_var rfl) ev_c (.ty _) (ty_tup hp) ki_tuple_tuple) fun _ => ?_
    refine ev_andV (a := true) (b := true) ?_ fun _ => ev_cal (ea_cons (ev_var rfl) ea_nil) fun H1 e => ⟨p, g, rfl, e _ _ hp, hl, hg, rfl⟩
    have e1 : ((List.replicate (vi g).length true).all id) = true := by simp
    refine ev_is (ev_allN (bs := List.replicate (vi g).length true) ?_) (by rw [e1])
    rw [← given_true]
    refine el_lcT (fun _ => true) (fun _ => .bl true) (ev_var rfl) (st_of hp) (by rw [vi_len]; omega) (fun _ => rfl) (fun _ _ _ _ _ => et_yes) (fun i x H1 e hi _ => ?_)
    obtain ⟨m, hm, rfl⟩ := vi_get hi
    have hmn := hn m (List.mem_of_getElem? hm)
    refine ev_cal (ea_cons (ev_var rfl) (ea_cons ev_c (ea_cons (ev_op (ev_var rfl) ev_c rv_I0) ea_nil))) fun _ _ => ⟨_, _, _, rfl, ?_⟩
    rw [decide_eq_true (show (0 : Int) ≤ (m : Int) by omega), decide_eq_true (show (m : Int) ≤ (n : Int) - 1 by omega)]
    rfl
theorem ok_need_group (F : Fun K "need_group" "need_group" s_need_group f fd) (B : Tp mg) (C_are_members : Cal P w K mg base 3 "are_members" ["many", "value"] (spV (pMembers (.bl true)))) :
    FnOk P w K mg base CX0 4 f fd ["many", "value"] (spV (pMembers .non)) := by
  refine F.ok sc_need_group (fun vs H Q E h => ?_) (fun cdv A outer s H vs Q E hr h => ?_)
  · obtain ⟨v, ⟨p, g, n, rfl, _⟩, _⟩ := h; rfl
  · obtain ⟨v, ⟨p, g, n, rfl, hp, hl, hg, hn, rfl⟩, q⟩ := h
    refine ⟨_, (pss_one (ps_if (pt_not (pt_val (pe_cal C_are_members hr (by decide) (by rfl) (pa_cons (pv 0) (pa_cons (pv 1) pa_nil)))))
      (pss_one ps_never) pss_nil)), ?_⟩
    refine s_pass ?_ q
    exact et_not (a := true) (et_B (ev_cal (ea_cons (ev_var rfl) (ea_cons (ev_var rfl) ea_nil)) fun H1 e => ⟨p, g, n, rfl, e _ _ hp, hl, hg, hn, rfl⟩))
end
end Sw

namespace Sw
open PySem PySem.Spec PyProof.Rows L2 Evl
abbrev s_cost_in : Stmt := topS 17
theorem sc_cost_in : FnScope ["jobs", "order", "found", "time", "told"] ["jobs", "order"] (defScope s_cost_in) :=
  ⟨rfl, rfl, rfl, by decide +kernel, rfl, by decide +kernel, by decide +kernel⟩
abbrev s_sorted_jobs : Stmt := topS 18
theorem sc_sorted_jobs : FnScope ["jobs", "group", "found", "told", "spot"] ["jobs", "group"] (defScope s_sorted_jobs) :=
  ⟨rfl, rfl, rfl, by decide +kernel, rfl, by decide +kernel, by decide +kernel⟩
abbrev s_l_waits : Stmt := topS 30
theorem sc_l_waits : FnScope ["_law_jobs_here", "_law_order", "_law_found", "_law_time", "_law_told"] ["_law_jobs_here", "_law_order"] (defScope s_l_waits) :=
  ⟨rfl, rfl, rfl, by decide +kernel, rfl, by decide +kernel, by decide +kernel⟩
def pCostIn : List V → Hp → V → Prop := fun vs H v => ∃ (J o : Addr) (jobs : List Job) (ord : List Nat), vs = [.ref J, .ref o] ∧ JobsAt H J jobs ∧ OkJobs jobs ∧
  H o = some (.lst (vi ord)) ∧ (∀ x ∈ ord, x < jobs.length) ∧ v = .int (costF jobs 0 ord)
def pWaits : List V → Hp → V → Prop := fun vs H v => ∃ (J o : Addr) (jobs : List Job) (ord : List Nat), vs = [.ref J, .ref o] ∧ JobsAt H J jobs ∧ OkJobs jobs ∧
  (H o = some (.lst (vi ord)) ∨ H o = some (.tup (vi ord))) ∧ (∀ x ∈ ord, x < jobs.length) ∧ v = .int (costF jobs 0 ord)
def pSorted : List V → Hp → List V → Prop := fun vs H xs => ∃ (J g : Addr) (jobs : List Job) (grp : List Nat), vs = [.ref J, .ref g] ∧ JobsAt H J jobs ∧ OkJobs jobs ∧
  H g = some (.tup (vi grp)) ∧ grp.length ≤ 100 ∧ (∀ x ∈ grp, x < jobs.length) ∧ xs = vi (sortJ jobs grp)
theorem take_get {l : List Nat} {i n : Nat} (h : l[i]? = some n) : l.take (i + 1) = l.take i ++ [n] := by
  rw [List.take_add_one, h]; rfl
theorem costF_snoc (jobs : List Job) (a : List Nat) (n : Nat) : costF jobs 0 (a ++ [n]) = costF jobs 0 a + jp jobs n * (sumL jobs (a ++ [n])) := by
  rw [costF_append]
  have e : sumL jobs (a ++ [n]) = sumL jobs a + jl jobs n := by simp [sumL]
  rw [e]
  simp only [costF, Int.zero_add]
  omega
theorem sumL_snoc (jobs : List Job) (a : List Nat) (n : Nat) : sumL jobs (a ++ [n]) = sumL jobs a + jl jobs n := by simp [sumL]
theorem price_small {jobs : List Job} (k : OkJobs jobs) {i : Nat} (hi : i < jobs.length) (z : Int) : CMul (jp jobs i) z := by
  have h := (k.size i hi).2
  exact .inl ⟨by omega, by omega⟩
section
variable {P : Program} {w : World} {K : PySem.W.Frag} {mg : Str → Option Value} {base : Heap} {f : Addr} {fd : FuncData}
/-- xs.insert(i, v) -/
def rInsert : V → List V → Hp → VK → Prop := fun x vs H Q => ∃ (l : Addr) (xs : List V) (i : Int) (y : V), x = .ref l ∧ vs = [.int i, y] ∧ H l = some (.lst xs) ∧ xs.length < sizeLine ∧ 0 ≤ i ∧ i < 2 ^ 63 ∧
  Q .non (upd H l (.lst (xs.take i.toNat ++ [y] ++ xs.drop i.toNat)))
theorem s_ins {σ : L2.St} {H : Hp} {D : Ends} {l : Addr} {xs : List V} {ta tb tc : TE} {i : Nat} {v : V} (hl : H l = some (.lst xs)) (ha : Ev ta σ H (.ref l)) (hb : Ev tb σ H (.int (i : Int))) (hc : Ev tc σ H v)
    (hz : xs.length < 100000) (hi : i ≤ 100000) (k : ∀ H1, Ex H H1 → D.nx σ (upd H1 l (.lst (xs.take i ++ [v] ++ xs.drop i)))) : tDrop (tBM K "list" rInsert ta (tCons tb (tCons tc tNil))) D σ H :=
  ha H (Ex.refl H) _ fun H1 e1 => ⟨Or.inl ⟨rfl, xs, sq_of (e1 l _ hl)⟩, hb H1 e1 _ fun H2 e2 => hc H2 (e1.trans e2) _ fun H3 e3 =>
    ⟨l, xs, (i : Int), v, rfl, rfl, ((e1.trans e2).trans e3) l _ hl, sz_lt hz, by omega, by omega, k H3 ((e1.trans e2).trans e3)⟩⟩
theorem ok_group_of (F : Fun K "group_of" "group_of" s_group_of f fd) (B : Tp mg) : FnOk P w K mg base CX0 1 f fd ["mark"] (spU pGroupOf) := by
  refine F.ok sc_group_of (fun vs H Q E h => ?_) (fun cdv A outer s H vs Q E hr h => ?_)
  · obtain ⟨v, ⟨m, hm, rfl, _⟩, _⟩ := h; rfl
  · obtain ⟨v, ⟨m, hm, rfl, rfl⟩, q⟩ := h
    refine ⟨_, (pss_cons (ps_par (i := 1) (j := 2) (by rfl) sc_group_of.nd rfl rfl (by decide) rfl rfl (pa_cons (pe_lst pa_nil) (pa_cons pe_int pa_nil)) (by rfl))
      (pss_cons (ps_while PassesOwn.never (pt_cmpR op_gt (pv 0) pe_int (nomark _))
      (pss_cons (ps_if (pt_cmpR op_eq (pe_op op_mod (pv 0) pe_int) pe_int (nomark _))
      (pss_one (ps_expr (pe_bm PySem.F.plainAttrs_list PySem.F.slot_list_append PySem.F.type_list_append mt_append (pv 1) (pa_cons (pv 2) pa_nil)))) pss_nil)
      (pss_one (ps_par (i := 0) (j := 2) (by rfl) sc_group_of.nd rfl rfl (by decide) rfl rfl (pa_cons (pe_op op_fdiv (pv 0) pe_int) (pa_cons (pe_op op_add (pv 2) pe_int) pa_nil)) (by rfl)))))
      (pss_one (ps_ret (pe_callTy (tupK K rfl) (by rfl) B.tuple bt_tuple (pa_cons (pv 1) pa_nil)))))), ?_⟩
    refine ⟨Nat.zero_le _, fun D nD => ⟨_, _, rfl, ?_⟩⟩
    refine q_while (fun k σ' H' => ∃ (fl td : Nat) (acc : List Nat), σ' = [some (.int (k : Int)), some (.ref D), some (.int (td : Int))] ∧ Ex H H' ∧ H' D = some (.lst (vi acc)) ∧
      k ≤ fl ∧ acc.length + fl ≤ 32 ∧ acc ++ gofF fl k td = gofF 32 m 0) m ⟨32, 0, [], rfl, Ex.new nD, upd_same, by omega, by decide, rfl⟩ ?_
    rintro k σ' H' ⟨fl, td, acc, rfl, ex, hD, hk, hl, heq⟩
    refine ⟨decide ((0 : Int) < (k : Int)), et_test (ev_op (ev_var rfl) ev_c rv_I0), fun hb H1 e1 => ?_, fun hb H1 e1 => ?_⟩
    · have hk0 : 0 < k := by have := of_decide_eq_true hb; omega
      obtain ⟨fl, rfl⟩ : ∃ z, fl = z + 1 := ⟨fl - 1, by omega⟩
      have hD1 := e1 _ _ hD
      refine ⟨fun σ2 H2 => ∃ acc2 : List Nat, σ2 = [some (.int ((k / 2 : Nat) : Int)), some (.ref D), some (.int ((td + 1 : Nat) : Int))] ∧ Ex H H2 ∧ H2 D = some (.lst (vi acc2)) ∧ acc2.length + fl ≤ 32 ∧ acc2 ++ gofF fl (k / 2) (td + 1) = gofF 32 m 0, ?_, ?_⟩
      · rintro σ2 H2 ⟨acc2, rfl, ex2, hD2, hl2, heq2⟩
        exact ⟨k / 2, by omega, fl, td + 1, acc2, rfl, ex2, hD2, by omega, hl2, heq2⟩
      · have fin : ∀ (acc2 : List Nat) (H3 : Hp), Ex H H3 → H3 D = some (.lst (vi acc2)) → acc2.length + fl ≤ 32 → acc2 ++ gofF fl (k / 2) (td + 1) = gofF 32 m 0 →
            ∀ Dx : Ends, Dx.nx = (fun σ2 H2 => ∃ acc2 : List Nat, σ2 = [some (.int ((k / 2 : Nat) : Int)), some (.ref D), some (.int ((td + 1 : Nat) : Int))] ∧ Ex H H2 ∧ H2 D = some (.lst (vi acc2)) ∧ acc2.length + fl ≤ 32 ∧ acc2 ++ gofF fl (k / 2) (td + 1) = gofF 32 m 0) →
            tPar 0 2 (tCons (tOp (rI CDiv fun i j => V.int (i / j)) (tVar 0) (tC (V.int 2))) (tCons (tOp (rI0 fun i j => V.int (i + j)) (tVar 2) (tC (V.int 1))) tNil)) Dx
              [some (.int (k : Int)), some (.ref D), some (.int (td : Int))] H3 := by
          intro acc2 H3 ex3 hD3 hl3 heq3 Dx hDx
          refine s_par (v := .int ((k / 2 : Nat) : Int)) (w := .int ((td + 1 : Nat) : Int)) (ea_cons (ev_is (ev_op (ev_var rfl) ev_c (rv_I ⟨by decide, by decide⟩)) ?_) (ea_cons (ev_is (ev_op (ev_var rfl) ev_c rv_I0) rfl) ea_nil)) fun H4 e4 => ?_
          · rw [Int.natCast_ediv]; rfl
          · rw [hDx]
            exact ⟨acc2, rfl, ex3.trans e4, e4 _ _ hD3, hl3, heq3⟩
        have ht : EvT (tTest (tOp rEq (tOp (rI (fun _ j => 0 < j) fun i j => V.int (i % j)) (tVar 0) (tC (V.int 2))) (tC (V.int 1)))) [some (.int (k : Int)), some (.ref D), some (.int (td : Int))] H1 (decide (V.int ((k : Int) % 2) = V.int 1)) :=
          et_test (ev_op (ev_op (ev_var rfl) ev_c (rv_I (by decide))) ev_c (rv_eq rfl))
        refine q_when ht (fun hb2 H2 e2 => ?_) (fun hb2 H2 e2 => ?_)
        · have hodd : k % 2 = 1 := by
            have := V.int.inj (of_decide_eq_true hb2)
            omega
          refine s_app (e2 _ _ hD1) (ev_var rfl) (ev_var rfl) (by rw [vi_len]; omega) fun H3 e3 => ?_
          refine fin (acc ++ [td]) _ (Ex.mut ((ex.trans e1).trans (e2.trans e3)) nD) ?_ ?_ ?_ _ rfl
          · rw [upd_same]; simp [vi]
          · simp only [List.length_append, List.length_cons, List.length_nil]; omega
          · rw [← heq, List.append_assoc]
            simp only [gofF, if_neg (show ¬ k = 0 by omega), if_pos hodd]
        · have heven : ¬ k % 2 = 1 := by
            intro z
            have := of_decide_eq_false hb2
            exact this (congrArg V.int (by omega))
          refine fin acc _ ((ex.trans e1).trans e2) (e2 _ _ hD1) (by omega) ?_ _ rfl
          rw [← heq]
          simp only [gofF, if_neg (show ¬ k = 0 by omega), if_neg heven, List.nil_append]
    · have hk0 : k = 0 := by have := of_decide_eq_false hb; omega
      subst hk0
      have e0 : gofF fl 0 td = [] := by cases fl <;> rfl
      rw [e0, List.append_nil] at heq
      have hb := gof_bits ⟨m, hm⟩
      refine s_retU (eu_tupleL (ev_var rfl) (sq_of (e1 _ _ hD))) fun p H2 np e2 hp => ?_
      refine q p H2 ?_ ((ex.trans e1).trans e2) ?_
      · exact fresh_back (ex.trans e1) np
      · rw [hp, heq]
        exact congrArg (fun z => some (HO.tup (vi z))) hb
theorem ok_need_jobs (F : Fun K "need_jobs" "need_jobs" s_need_jobs f fd) (B : Tp mg) (C_tuple_of : Cal P w K mg base 1 "tuple_of" ["value", "low", "high"] (spV pTupleOf))
    (C_within : Cal P w K mg base 2 "within" ["value", "low", "high"] (spV pWithin)) : FnOk P w K mg base CX0 3 f fd ["value"] (spV pNeedJobs) := by
  obtain ⟨t1, m_MOST_JOBS⟩ := B.MOST_JOBS
  obtain ⟨t2, m_MOST_SIZE⟩ := B.MOST_SIZE
  refine F.ok sc_need_jobs (fun vs H Q E h => ?_) (fun cdv A outer s H vs Q E hr h => ?_)
  · obtain ⟨v, ⟨J, jobs, rfl, _⟩, _⟩ := h; rfl
  · obtain ⟨v, ⟨J, jobs, rfl, hJ, hk, rfl⟩, q⟩ := h
    refine ⟨_, (pss_cons (ps_if (pt_not (pt_val (pe_cal C_tuple_of hr (by decide) (by rfl) (pa_cons (pv 0) (pa_cons pe_int (pa_cons (pe_glob (v := .int 7) (by rfl) m_MOST_JOBS ⟨_, rfl⟩) pa_nil))))))
      (pss_one ps_never) pss_nil)
      (pss_one (ps_for PassesOwn.never rfl (pi_enumK K rfl (by rfl) B.enumerate (pa_cons (pv 0) pa_nil)) (pg_tupK K rfl rfl (pgs_cons (pg_name (i := 1) sc_need_jobs.nd rfl (.inl rfl)) (pgs_cons (pg_name (i := 2) sc_need_jobs.nd rfl (.inl rfl)) pgs_nil)))
      (pss_one (ps_if (PW.pt (pw_or (pt_not (pt_val (pe_cal C_tuple_of hr (by decide) (by rfl) (pa_cons (pv 2) (pa_cons pe_int (pa_cons pe_int pa_nil)))))) (pw_or (pt_not (pt_val (pe_cal C_within hr (by decide) (by rfl) (pa_cons (pe_ix (ixT K rfl) (pv 2) pe_int (fun _ _ => rfl)) (pa_cons pe_int (pa_cons (pe_glob (v := .int 99) (by rfl) m_MOST_SIZE ⟨_, rfl⟩) pa_nil)))))) (pw_or1 (pt_not (pt_val (pe_cal C_within hr (by decide) (by rfl) (pa_cons (pe_ix (ixT K rfl) (pv 2) pe_int (fun _ _ => rfl)) (pa_cons pe_int (pa_cons (pe_glob (v := .int 99) (by rfl) m_MOST_SIZE ⟨_, rfl⟩) pa_nil))))))))))
      (pss_one ps_never) pss_nil))))), ?_⟩
    obtain ⟨rs, hl, hJr, hr2⟩ := id hJ
    have hfew := hk.few
    refine q_pass (et_not (a := true) (et_B (ev_cal (ea_cons (ev_var rfl) (ea_cons ev_c (ea_cons ev_c ea_nil))) fun H1 e => ⟨J, _, 1, 7, rfl, e _ _ hJr, ?_⟩))) fun H1 e1 => ?_
    · rw [List.length_map, hl, decide_eq_true (show (1 : Int) ≤ (jobs.length : Int) by omega), decide_eq_true (show (jobs.length : Int) ≤ 7 by omega)]
      rfl
    · refine s_forE (ea_cons (ev_var rfl) ea_nil) (st_of (e1 _ _ hJr)) (fun _ σ' H' => Ex H1 H' ∧ ∃ a b, σ' = [some (.ref J), a, b]) (fun H2 e2 => ⟨e2, _, _, rfl⟩) (fun _ _ _ p => p.1) (fun i x σ' H' hx p H2 e2 => ?_) (fun σ' H' p => q _ (e1.trans p.1))
      obtain ⟨ex, a, b, rfl⟩ := p
      rw [List.getElem?_map] at hx
      obtain ⟨r, hr1, rfl⟩ := Option.map_eq_some_iff.mp hx
      have hi : i < jobs.length := by rw [← hl]; exact (List.getElem?_eq_some_iff.mp hr1).1
      have hrt := e2 _ _ (ex _ _ (e1 _ _ (hr2 i r hr1)))
      obtain ⟨⟨l1, l2⟩, p1, p2⟩ := hk.size i hi
      refine s_pass ?_ fun H3 e3 => ⟨(ex.trans e2).trans e3, _, _, rfl⟩
      refine et_or (a := false) (b := false) (et_not (a := true) (et_B (ev_cal (ea_cons (ev_var rfl) (ea_cons ev_c (ea_cons ev_c ea_nil))) fun H3 e3 => ⟨r, _, 2, 2, rfl, e3 _ _ hrt, rfl⟩))) fun _ => ?_
      refine et_or (a := false) (b := false) (et_not (a := true) (et_B (ev_cal (ea_cons (ev_op (ev_var rfl) ev_c (rv_ixT (st_of hrt) (atI_nat (j := 0) rfl))) (ea_cons ev_c (ea_cons ev_c ea_nil))) fun H3 e3 => ⟨_, 1, 99, rfl, ?_⟩))) fun _ => ?_
      · rw [decide_eq_true l1, decide_eq_true l2]; rfl
      · refine et_not (a := true) (et_B (ev_cal (ea_cons (ev_op (ev_var rfl) ev_c (rv_ixT (st_of hrt) (atI_nat (j := 1) rfl))) (ea_cons ev_c (ea_cons ev_c ea_nil))) fun H3 e3 => ⟨_, 0, 99, rfl, ?_⟩))
        rw [decide_eq_true p1, decide_eq_true p2]; rfl
theorem ok_cost_in (F : Fun K "cost_in" "cost_in" s_cost_in f fd) (B : Tp mg) : FnOk P w K mg base CX0 1 f fd ["jobs", "order"] (spV pCostIn) := by
  refine F.ok sc_cost_in (fun vs H Q E h => ?_) (fun cdv A outer s H vs Q E hr h => ?_)
  · obtain ⟨v, ⟨J, o, jobs, ord, rfl, _⟩, _⟩ := h; rfl
  · obtain ⟨v, ⟨J, o, jobs, ord, rfl, hJ, hk, ho, hx, rfl⟩, q⟩ := h
    refine ⟨_, (pss_cons (ps_asg (pe_tup (pa_cons pe_int (pa_cons pe_int pa_nil))) (pg_tupK K rfl rfl (pgs_cons (pg_name (i := 2) sc_cost_in.nd rfl (.inl rfl)) (pgs_cons (pg_name (i := 3) sc_cost_in.nd rfl (.inl rfl)) pgs_nil))))
      (pss_cons (ps_for PassesOwn.never rfl (pi_listK K rfl (pv 1)) (pg_name (i := 4) sc_cost_in.nd rfl (.inl rfl))
      (pss_cons (ps_aug (i := 3) sc_cost_in.nd rfl (.inl rfl) (pe_ix (ixT K rfl) (pe_ix (ixT K rfl) (pv 0) (pv 4) (fun _ _ => rfl)) pe_int (fun _ _ => rfl)) ip_add)
      (pss_one (ps_aug (i := 2) sc_cost_in.nd rfl (.inl rfl) (pe_op op_mul (pe_ix (ixT K rfl) (pe_ix (ixT K rfl) (pv 0) (pv 4) (fun _ _ => rfl)) pe_int (fun _ _ => rfl)) (pv 3)) ip_add))))
      (pss_one (ps_ret (pv 2))))), ?_⟩
    refine q_tup2 (ea_cons ev_c (ea_cons ev_c ea_nil)) fun H1 e1 => ?_
    refine q_forLn (ev_var rfl) (sq_of (e1 _ _ ho)) (fun i σ' H' => Ex H H' ∧ ∃ z, σ' = [some (.ref J), some (.ref o), some (.int (costF jobs 0 (ord.take i))), some (.int (sumL jobs (ord.take i))), z]) (fun H2 e2 => ⟨e1.trans e2, _, rfl⟩)
      (fun _ _ _ _ p => sq_of (p.1 _ _ ho)) (fun i x σ' H' hi p => ?_) (fun σ' H' p => ?_)
    · obtain ⟨ex, z, rfl⟩ := p
      obtain ⟨n, hn, rfl⟩ := vi_get hi
      have hlt := hx n (List.mem_of_getElem? hn)
      refine q_aug rfl (ev_jl (hJ.ex ex) hlt (ev_var rfl) (ev_var rfl)) fun H2 e2 => ?_
      refine s_aug rfl (ev_op (ev_jp (hJ.ex (ex.trans e2)) hlt (ev_var rfl) (ev_var rfl)) (ev_var rfl) (rv_I (price_small hk hlt _))) fun H3 e3 => ?_
      refine ⟨(ex.trans e2).trans e3, some (.int (n : Int)), ?_⟩
      rw [take_get hn, costF_snoc, sumL_snoc]
      rfl
    · obtain ⟨ex, z, rfl⟩ := p
      rw [vi_len, List.take_length]
      exact s_ret (ev_var rfl) fun H2 e2 => q _ (ex.trans e2)
theorem ok_waits (F : Fun K "_law_waits" "_law_waits" s_l_waits f fd) (B : Tp mg) : FnOk P w K mg base CX0 1 f fd ["_law_jobs_here", "_law_order"] (spV pWaits) := by
  refine F.ok sc_l_waits (fun vs H Q E h => ?_) (fun cdv A outer s H vs Q E hr h => ?_)
  · obtain ⟨v, ⟨J, o, jobs, ord, rfl, _⟩, _⟩ := h; rfl
  · obtain ⟨v, ⟨J, o, jobs, ord, rfl, hJ, hk, ho, hx, rfl⟩, q⟩ := h
    refine ⟨_, (pss_cons (ps_asg (pe_tup (pa_cons pe_int (pa_cons pe_int pa_nil))) (pg_tupK K rfl rfl (pgs_cons (pg_name (i := 2) sc_l_waits.nd rfl (.inl rfl)) (pgs_cons (pg_name (i := 3) sc_l_waits.nd rfl (.inl rfl)) pgs_nil))))
      (pss_cons (ps_for PassesOwn.never rfl (pi_seqK K rfl (pv 1)) (pg_name (i := 4) sc_l_waits.nd rfl (.inl rfl))
      (pss_cons (ps_set (i := 3) sc_l_waits.nd rfl (.inl rfl) (pe_op op_add (pv 3) (pe_ix (ixT K rfl) (pe_ix (ixT K rfl) (pv 0) (pv 4) (fun _ _ => rfl)) pe_int (fun _ _ => rfl))))
      (pss_one (ps_set (i := 2) sc_l_waits.nd rfl (.inl rfl) (pe_op op_add (pv 2) (pe_op op_mul (pe_ix (ixT K rfl) (pe_ix (ixT K rfl) (pv 0) (pv 4) (fun _ _ => rfl)) pe_int (fun _ _ => rfl)) (pv 3)))))))
      (pss_one (ps_ret (pv 2))))), ?_⟩
    refine q_tup2 (ea_cons ev_c (ea_cons ev_c ea_nil)) fun H1 e1 => ?_
    refine q_forSeq (xs := vi ord) (ev_var rfl) (ho.imp (fun z => sq_of (e1 _ _ z)) fun z => st_of (e1 _ _ z)) (fun i σ' H' => Ex H1 H' ∧ ∃ z, σ' = [some (.ref J), some (.ref o), some (.int (costF jobs 0 (ord.take i))), some (.int (sumL jobs (ord.take i))), z]) (fun H2 e2 => ⟨e2, _, rfl⟩)
      (fun _ _ _ p => p.1) (fun i x σ' H' hi p => ?_) (fun σ' H' p => ?_)
    · obtain ⟨ex, z, rfl⟩ := p
      obtain ⟨n, hn, rfl⟩ := vi_get hi
      have hlt := hx n (List.mem_of_getElem? hn)
      have exH := e1.trans ex
      refine q_asg (ev_op (ev_var rfl) (ev_jl (hJ.ex exH) hlt (ev_var rfl) (ev_var rfl)) rv_I0) fun H2 e2 => ?_
      refine s_asg (ev_op (ev_var rfl) (ev_op (ev_jp (hJ.ex (exH.trans e2)) hlt (ev_var rfl) (ev_var rfl)) (ev_var rfl) (rv_I (price_small hk hlt _))) rv_I0) fun H3 e3 => ?_
      refine ⟨(ex.trans e2).trans e3, some (.int (n : Int)), ?_⟩
      rw [take_get hn, costF_snoc, sumL_snoc]
      rfl
    · obtain ⟨ex, z, rfl⟩ := p
      rw [vi_len, List.take_length]
      exact s_ret (ev_var rfl) fun H2 e2 => q _ ((e1.trans ex).trans e2)
theorem ok_sorted_jobs (F : Fun K "sorted_jobs" "sorted_jobs" s_sorted_jobs f fd) (B : Tp mg) : FnOk P w K mg base CX0 1 f fd ["jobs", "group"] (spN pSorted) := by
  refine F.ok sc_sorted_jobs (fun vs H Q E h => ?_) (fun cdv A outer s H vs Q E hr h => ?_)
  · obtain ⟨v, ⟨J, g, jobs, grp, rfl, _⟩, _⟩ := h; rfl
  · obtain ⟨v, ⟨J, g, jobs, grp, rfl, hJ, hk, hg, hgl, hx, rfl⟩, q⟩ := h
    refine ⟨_, (pss_cons (ps_set (i := 2) sc_sorted_jobs.nd rfl (.inl rfl) (pe_lst pa_nil))
      (pss_cons (ps_for PassesOwn.never rfl (pi_tupK K rfl (pv 1)) (pg_name (i := 3) sc_sorted_jobs.nd rfl (.inl rfl))
      (pss_cons (ps_set (i := 4) sc_sorted_jobs.nd rfl (.inl rfl) pe_int)
      (pss_cons (ps_while PassesOwn.never (PW.pt (pw_and (pt_cmpR op_lt (pv 4) (pe_callB (lenK K rfl) (by rfl) B.len bt_len (pa_cons (pv 2) pa_nil)) (nomark _)) (pw_and1 (pt_cmpR op_ge (pe_op op_mul (pe_ix (ixT K rfl) (pe_ix (ixT K rfl) (pv 0) (pe_ix (ixL K rfl) (pv 2) (pv 4) (fun _ _ => rfl)) (fun _ _ => rfl)) pe_int (fun _ _ => rfl)) (pe_ix (ixT K rfl) (pe_ix (ixT K rfl) (pv 0) (pv 3) (fun _ _ => rfl)) pe_int (fun _ _ => rfl))) (pe_op op_mul (pe_ix (ixT K rfl) (pe_ix (ixT K rfl) (pv 0) (pv 3) (fun _ _ => rfl)) pe_int (fun _ _ => rfl)) (pe_ix (ixT K rfl) (pe_ix (ixT K rfl) (pv 0) (pe_ix (ixL K rfl) (pv 2) (pv 4) (fun _ _ => rfl)) (fun _ _ => rfl)) pe_int (fun _ _ => rfl))) (nomark _)))))
      (pss_one (ps_aug (i := 4) sc_sorted_jobs.nd rfl (.inl rfl) pe_int ip_add)))
      (pss_one (ps_expr (pe_bm PySem.F.plainAttrs_list PySem.F.slot_list_insert PySem.F.type_list_insert mt_insert (pv 2) (pa_cons (pv 4) (pa_cons (pv 3) pa_nil))))))))
      (pss_one (ps_ret (pv 2))))), ?_⟩
    refine q_asgL (xs := []) (el_lst ea_nil (Nat.zero_le _)) fun D H1 nD e1 hD => ?_
    refine q_forT (ev_var rfl) (st_of (e1 _ _ hg)) (fun i σ' H' => Ex H H' ∧ H' D = some (.lst (vi ((grp.take i).foldl (insJ jobs) []))) ∧ ∃ a b, σ' = [some (.ref J), some (.ref g), some (.ref D), a, b]) (fun H2 e2 => ⟨e1.trans e2, e2 _ _ hD, _, _, rfl⟩)
      (fun _ _ _ _ p => st_of (p.1 _ _ hg)) (fun i x σ' H' hi p => ?_) (fun σ' H' p => ?_)
    · obtain ⟨ex, hD', a, b, rfl⟩ := p
      obtain ⟨n, hn, rfl⟩ := vi_get hi
      have hlt := hx n (List.mem_of_getElem? hn)
      have hig : i < grp.length := (List.getElem?_eq_some_iff.mp hn).1
      generalize hfd : (grp.take i).foldl (insJ jobs) [] = found at hD'
      have hperm : found.Perm (grp.take i) := by
        rw [← hfd]
        have z := foldl_perm jobs (grp.take i) []
        rw [List.nil_append] at z
        exact z
      have hflen : found.length ≤ 100 := by
        rw [hperm.length_eq, List.length_take]; omega
      have hfx : ∀ y ∈ found, y < jobs.length := fun y hy => hx y (List.mem_of_mem_take (hperm.mem_iff.mp hy))
      have hnext : (grp.take (i + 1)).foldl (insJ jobs) [] = insJ jobs found n := by
        rw [take_get hn, List.foldl_append, hfd]; rfl
      show tSeq _ _ _ [some (.ref J), some (.ref g), some (.ref D), some (.int (n : Int)), b] H'
      refine q_asg (v := .int 0) ev_c fun H2 e2 => ?_
      refine q_while (fun m σ2 H3 => ∃ s, s ≤ found.length ∧ m = found.length - s ∧ σ2 = [some (.ref J), some (.ref g), some (.ref D), some (.int (n : Int)), some (.int (s : Int))] ∧ Ex H2 H3 ∧
        ∀ j y, j < s → found[j]? = some y → okJ jobs n y = true) found.length ⟨0, Nat.zero_le _, rfl, rfl, Ex.refl _, fun _ _ z => absurd z (Nat.not_lt_zero _)⟩ ?_
      rintro m σ2 H3 ⟨s, hs, rfl, rfl, e3, hok⟩
      have hD3 := e3 _ _ (e2 _ _ hD')
      have hJ3 := hJ.ex ((ex.trans e2).trans e3)
      have hlen : ((vi found).length : Int) = (found.length : Int) := by rw [vi_len]
      have T1 : EvT (tTest (tOp (rI0 fun i j => V.bl (decide (i < j))) (tVar 4) (tCB (rLenS K) (tCons (tVar 2) tNil)))) [some (.ref J), some (.ref g), some (.ref D), some (.int (n : Int)), some (.int (s : Int))] H3 (decide ((s : Int) < (found.length : Int))) :=
        et_test (ev_op (ev_var rfl) (ev_is (ev_len (ev_var rfl) (sq_of hD3)) (by rw [hlen])) rv_I0)
      refine ⟨decide ((s : Int) < (found.length : Int)) && okJ jobs n (found.getD s 0), et_and T1 fun ha => ?_, fun hb H4 e4 => ?_, fun hb H4 e4 => ?_⟩
      · have hsl : s < found.length := by have := of_decide_eq_true ha; omega
        have hfs : found[s]? = some (found.getD s 0) := by
          rw [List.getD_eq_getElem?_getD, List.getElem?_eq_getElem hsl]; rfl
        have hfl := hfx _ (List.mem_of_getElem? hfs)
        have at3 : Ev (tOp (rIxL K) (tVar 2) (tVar 4)) [some (.ref J), some (.ref g), some (.ref D), some (.int (n : Int)), some (.int (s : Int))] H3 (.int ((found.getD s 0 : Nat) : Int)) :=
          ev_op (ev_var rfl) (ev_var rfl) (rv_ixL (sq_of hD3) (atI_nat (vi_at hfs)))
        exact et_test (ev_op (ev_op (ev_jp hJ3 hfl (ev_var rfl) at3) (ev_jl hJ3 hlt (ev_var rfl) (ev_var rfl)) (rv_I (price_small hk hfl _)))
          (ev_op (ev_jp hJ3 hlt (ev_var rfl) (ev_var rfl)) (ev_jl hJ3 hfl (ev_var rfl) at3) (rv_I (price_small hk hlt _))) rv_I0)
      · obtain ⟨ha, ho⟩ := Bool.and_eq_true_iff.mp hb
        have hsl : s < found.length := by have := of_decide_eq_true ha; omega
        refine ⟨fun σ4 H5 => σ4 = [some (.ref J), some (.ref g), some (.ref D), some (.int (n : Int)), some (.int ((s + 1 : Nat) : Int))] ∧ Ex H2 H5, ?_, ?_⟩
        · rintro σ4 H5 ⟨rfl, e5⟩
          refine ⟨found.length - (s + 1), by omega, s + 1, hsl, rfl, rfl, e5, fun j y hj hy => ?_⟩
          by_cases hjs : j = s
          · subst hjs
            rw [List.getD_eq_getElem?_getD, hy] at ho
            exact ho
          · exact hok j y (by omega) hy
        · exact s_aug rfl ev_c fun H5 e5 => ⟨rfl, (e3.trans e4).trans e5⟩
      · have hstop : spotOf jobs n found = s := by
          refine spot_stop jobs n found s hs hok fun y hy => ?_
          have hsl : s < found.length := (List.getElem?_eq_some_iff.mp hy).1
          rw [decide_eq_true (show (s : Int) < (found.length : Int) by omega), Bool.true_and, List.getD_eq_getElem?_getD, hy] at hb
          exact hb
        refine s_ins (e4 _ _ hD3) (ev_var rfl) (ev_var rfl) (ev_var rfl) (by rw [vi_len]; omega) (by omega) fun H5 e5 => ?_
        refine ⟨Ex.mut ((((ex.trans e2).trans e3).trans e4).trans e5) nD, ?_, _, _, rfl⟩
        rw [upd_same, hnext]
        show _ = some (HO.lst (vi (insJ jobs found n)))
        unfold insJ vi
        rw [hstop, List.map_append, List.map_append, List.map_take, List.map_drop]
        rfl
    · obtain ⟨ex, hD', a, b, rfl⟩ := p
      rw [vi_len, List.take_length] at hD'
      exact s_ret (ev_var rfl) fun H2 e2 => q D H2 nD (ex.trans e2) (e2 _ _ hD')
end
end Sw

namespace Sw
open PySem PySem.Spec PyProof.Rows L2 Evl
abbrev s_first_cost : Stmt := topS 19
theorem sc_first_cost : FnScope ["jobs", "group"] ["jobs", "group"] (defScope s_first_cost) :=
  ⟨rfl, rfl, rfl, by decide +kernel, rfl, by decide +kernel, by decide +kernel⟩
abbrev s_last_cost : Stmt := topS 20
theorem sc_last_cost : FnScope ["jobs", "group", "ahead", "told", "job"] ["jobs", "group"] (defScope s_last_cost) :=
  ⟨rfl, rfl, rfl, by decide +kernel, rfl, by decide +kernel, by decide +kernel⟩
abbrev s_need_few : Stmt := topS 21
theorem sc_need_few : FnScope ["jobs"] ["jobs"] (defScope s_need_few) :=
  ⟨rfl, rfl, rfl, by decide +kernel, rfl, by decide +kernel, by decide +kernel⟩
abbrev s_first_table : Stmt := topS 22
theorem sc_first_table : FnScope ["jobs", "mark"] ["jobs"] (defScope s_first_table) :=
  ⟨rfl, rfl, rfl, by decide +kernel, rfl, by decide +kernel, by decide +kernel⟩
abbrev s_last_table : Stmt := topS 23
theorem sc_last_table : FnScope ["jobs", "mark"] ["jobs"] (defScope s_last_table) :=
  ⟨rfl, rfl, rfl, by decide +kernel, rfl, by decide +kernel, by decide +kernel⟩
def restOf (n : Nat) (g : List Nat) : List Nat := (List.range n).filter fun i => !g.contains i
def firstOf (jobs : List Job) (g : List Nat) : Int := costF jobs 0 (sortJ jobs g)
def lastOf (jobs : List Job) (g : List Nat) : Int := lastF jobs (restOf jobs.length g) g
/-- jobs and a group of them -/
def pGrp (z : List Job → List Nat → V) : List V → Hp → V → Prop := fun vs H v => ∃ (J g : Addr) (jobs : List Job) (grp : List Nat), vs = [.ref J, .ref g] ∧ JobsAt H J jobs ∧ OkJobs jobs ∧
  H g = some (.tup (vi grp)) ∧ grp.length ≤ 100 ∧ grp.Pairwise (· < ·) ∧ (∀ x ∈ grp, x < jobs.length) ∧ v = z jobs grp
def pTable (z : List Job → List Nat → V) : List V → Hp → List V → Prop := fun vs H xs => ∃ (J : Addr) (jobs : List Job), vs = [.ref J] ∧ JobsAt H J jobs ∧ OkJobs jobs ∧
  xs = (List.range (2 ^ jobs.length)).map fun m => z jobs (bits10 m)
theorem sumL_bound {jobs : List Job} (k : OkJobs jobs) : ∀ o : List Nat, (∀ x ∈ o, x < jobs.length) → 0 ≤ sumL jobs o ∧ sumL jobs o ≤ 99 * (o.length : Int)
  | [], _ => by simp [sumL]
  | a :: r, h => by
    have ih := sumL_bound k r fun x hx => h x (List.mem_cons_of_mem _ hx)
    have ha := (k.size a (h a List.mem_cons_self)).1
    have e : sumL jobs (a :: r) = jl jobs a + sumL jobs r := by simp [sumL]
    rw [e, List.length_cons]
    omega
theorem restOf_lt {n : Nat} {g : List Nat} : ∀ x ∈ restOf n g, x < n := fun x hx => List.mem_range.mp (List.mem_filter.mp hx).1
theorem restOf_len (n : Nat) (g : List Nat) : (restOf n g).length ≤ n := by
  unfold restOf
  refine Nat.le_trans (List.length_filter_le _ _) ?_
  rw [List.length_range]; exact Nat.le_refl _
theorem rest_small {jobs : List Job} (k : OkJobs jobs) (g : List Nat) (z : Int) : CMul (sumL jobs (restOf jobs.length g)) z := by
  have h := sumL_bound k (restOf jobs.length g) restOf_lt
  have h2 := restOf_len jobs.length g
  have h3 := k.few
  exact .inl ⟨by omega, by omega⟩
theorem range_getD (g : List Nat) (h : Nat → Int) : (List.range g.length).map (fun i => h (g.getD i 0)) = g.map h := by
  have e := congrArg (List.map h) (self_map g)
  rw [List.map_map] at e
  exact e
theorem pow_le {n : Nat} (h : n ≤ 5) : 2 ^ n ≤ 32 := Nat.le_trans (Nat.pow_le_pow_right (by decide) h) (by decide)
theorem ev_pow {σ : L2.St} {H : Hp} {ta : TE} {n : Nat} (hn : n ≤ 5) (ha : Ev ta σ H (.int (n : Int))) : Ev (tOp (rI CPow fun i j => V.int (i * 2 ^ j.toNat)) (tC (.int 1)) ta) σ H (.int ((2 ^ n : Nat) : Int)) := by
  refine ev_is (ev_op ev_c ha (rv_I ⟨by omega, by omega, by decide⟩)) ?_
  rw [Int.toNat_natCast, Int.one_mul, Int.natCast_pow]
  rfl
/-- what need_group asks of the group with a number -/
theorem bits_ok {n m : Nat} (hn : n ≤ 5) (hm : m < 2 ^ n) : m < 32 ∧ (bits10 m).length ≤ 100 ∧ (bits10 m).Pairwise (· < ·) ∧ ∀ x ∈ bits10 m, x < n := by
  have h32 : m < 32 := Nat.lt_of_lt_of_le hm (pow_le hn)
  exact ⟨h32, Nat.le_trans (bits_len ⟨m, h32⟩) (by decide), bits_rise ⟨m, h32⟩, bits_lt ⟨n, by omega⟩ ⟨m, h32⟩ hm⟩
section
variable {P : Program} {w : World} {K : PySem.W.Frag} {mg : Str → Option Value} {base : Heap} {f : Addr} {fd : FuncData}
theorem ok_first_cost (F : Fun K "first_cost" "first_cost" s_first_cost f fd) (B : Tp mg) (C_need_jobs : Cal P w K mg base 3 "need_jobs" ["value"] (spV pNeedJobs)) (C_need_group : Cal P w K mg base 4 "need_group" ["many", "value"] (spV (pMembers .non)))
    (C_cost_in : Cal P w K mg base 1 "cost_in" ["jobs", "order"] (spV pCostIn)) (C_sorted_jobs : Cal P w K mg base 1 "sorted_jobs" ["jobs", "group"] (spN pSorted)) :
    FnOk P w K mg base CX0 5 f fd ["jobs", "group"] (spV (pGrp fun j g => .int (firstOf j g))) := by
  refine F.ok sc_first_cost (fun vs H Q E h => ?_) (fun cdv A outer s H vs Q E hr h => ?_)
  · obtain ⟨v, ⟨J, g, jobs, grp, rfl, _⟩, _⟩ := h; rfl
  · obtain ⟨v, ⟨J, g, jobs, grp, rfl, hJ, hk, hg, hgl, hgp, hx, rfl⟩, q⟩ := h
    refine ⟨_, (pss_cons (ps_expr (pe_cal C_need_jobs hr (by decide) (by rfl) (pa_cons (pv 0) pa_nil)))
      (pss_cons (ps_expr (pe_cal C_need_group hr (by decide) (by rfl) (pa_cons (pe_callB (lenK K rfl) (by rfl) B.len bt_len (pa_cons (pv 0) pa_nil)) (pa_cons (pv 1) pa_nil))))
      (pss_one (ps_ret (pe_cal C_cost_in hr (by decide) (by rfl) (pa_cons (pv 0) (pa_cons (pe_cal C_sorted_jobs hr (by decide) (by rfl) (pa_cons (pv 0) (pa_cons (pv 1) pa_nil))) pa_nil))))))), ?_⟩
    refine q_drop (v := .non) (ev_cal (ea_cons (ev_var rfl) ea_nil) fun H1 e => ⟨J, jobs, rfl, hJ.ex e, hk, rfl⟩) fun H1 e1 => ?_
    refine q_drop (v := .non) (ev_cal (ea_cons ((hJ.ex e1).len (ev_var rfl)) (ea_cons (ev_var rfl) ea_nil)) fun H2 e => ⟨g, grp, jobs.length, rfl, e _ _ (e1 _ _ hg), hgl, hgp, hx, rfl⟩) fun H2 e2 => ?_
    refine s_ret ?_ fun H3 e3 => q H3 ((e1.trans e2).trans e3)
    have e12 := e1.trans e2
    refine ev_cal2L (xs := vi (sortJ jobs grp)) (ev_var rfl) (el_cal (ea_cons (ev_var rfl) (ea_cons (ev_var rfl) ea_nil)) fun H3 e => ⟨J, g, jobs, grp, rfl, hJ.ex (e12.trans e), hk, e _ _ (e12 _ _ hg), hgl, hx, rfl⟩) fun p H3 hp e => ?_
    exact ⟨J, p, jobs, sortJ jobs grp, rfl, hJ.ex (e12.trans e), hk, hp, fun y hy => hx y ((sortJ_perm jobs grp).mem_iff.mp hy), rfl⟩
theorem ok_last_cost (F : Fun K "last_cost" "last_cost" s_last_cost f fd) (B : Tp mg) (C_need_jobs : Cal P w K mg base 3 "need_jobs" ["value"] (spV pNeedJobs)) (C_need_group : Cal P w K mg base 4 "need_group" ["many", "value"] (spV (pMembers .non)))
    (C_cost_in : Cal P w K mg base 1 "cost_in" ["jobs", "order"] (spV pCostIn)) (C_sorted_jobs : Cal P w K mg base 1 "sorted_jobs" ["jobs", "group"] (spN pSorted)) :
    FnOk P w K mg base CX0 5 f fd ["jobs", "group"] (spV (pGrp fun j g => .int (lastOf j g))) := by
  refine F.ok sc_last_cost (fun vs H Q E h => ?_) (fun cdv A outer s H vs Q E hr h => ?_)
  · obtain ⟨v, ⟨J, g, jobs, grp, rfl, _⟩, _⟩ := h; rfl
  · obtain ⟨v, ⟨J, g, jobs, grp, rfl, hJ, hk, hg, hgl, hgp, hx, rfl⟩, q⟩ := h
    refine ⟨_, (pss_cons (ps_expr (pe_cal C_need_jobs hr (by decide) (by rfl) (pa_cons (pv 0) pa_nil)))
      (pss_cons (ps_expr (pe_cal C_need_group hr (by decide) (by rfl) (pa_cons (pe_callB (lenK K rfl) (by rfl) B.len bt_len (pa_cons (pv 0) pa_nil)) (pa_cons (pv 1) pa_nil))))
      (pss_cons (ps_set (i := 2) sc_last_cost.nd rfl (.inl rfl) (pe_callB (sumK K rfl rfl) (by rfl) B.sum bt_sum (pa_cons (pe_lc (own := [("told", 3), ("job", 4)]) (g := _)  rfl sc_last_cost.nd (pi_enumK K rfl (by rfl) B.enumerate (pa_cons (pv 0) pa_nil)) (blkOk_by (N := ["jobs", "group", "ahead", "told", "job"]) (sc := (defScope s_last_cost)) (by decide +kernel)) (fun _ _ _ _ _ => pg_tupK (n := 2) K rfl rfl (pgs_cons (pg_name (i := 3) sc_last_cost.nd rfl (.inl rfl)) (pgs_cons (pg_name (i := 4) sc_last_cost.nd rfl (.inl rfl)) pgs_nil))) (fun _ _ _ _ _ => (pts_one (pt_cmpR (notInK K rfl) (pv 3) (pv 1) (by rfl)))) (fun _ _ _ _ _ => (pe_ix (ixT K rfl) (pv 4) pe_int (fun _ _ => rfl)))) pa_nil)))
      (pss_one (ps_ret (pe_op op_add (pe_cal C_cost_in hr (by decide) (by rfl) (pa_cons (pv 0) (pa_cons (pe_cal C_sorted_jobs hr (by decide) (by rfl) (pa_cons (pv 0) (pa_cons (pv 1) pa_nil))) pa_nil))) (pe_op op_mul (pv 2) (pe_callB (sumK K rfl rfl) (by rfl) B.sum bt_sum (pa_cons (pe_lc (own := [("told", 3)]) (g := gName 3) (tt := tYes) rfl sc_last_cost.nd (pi_tupK K rfl (pv 1)) (blkOk_by (N := ["jobs", "group", "ahead", "told", "job"]) (sc := (defScope s_last_cost)) (by decide +kernel)) (fun _ _ _ _ _ => pg_name (i := 3) sc_last_cost.nd rfl (.inl rfl)) (fun _ _ _ _ _ => pts_nil) (fun _ _ _ _ _ => (pe_ix (ixT K rfl) (pe_ix (ixT K rfl) (pv 0) (pv 3) (fun _ _ => rfl)) pe_int (fun _ _ => rfl)))) pa_nil))))))))), ?_⟩
    refine q_drop (v := .non) (ev_cal (ea_cons (ev_var rfl) ea_nil) fun H1 e => ⟨J, jobs, rfl, hJ.ex e, hk, rfl⟩) fun H1 e1 => ?_
    refine q_drop (v := .non) (ev_cal (ea_cons ((hJ.ex e1).len (ev_var rfl)) (ea_cons (ev_var rfl) ea_nil)) fun H2 e => ⟨g, grp, jobs.length, rfl, e _ _ (e1 _ _ hg), hgl, hgp, hx, rfl⟩) fun H2 e2 => ?_
    have e12 := e1.trans e2
    have hfew := hk.few
    refine q_asg (v := .int (sumL jobs (restOf jobs.length grp))) (ev_sumN (ns := (restOf jobs.length grp).map (jl jobs)) ?_) fun H3 e3 => ?_
    · obtain ⟨rs, hl, hJr, hr2⟩ := hJ.ex e12
      have hxl : (rs.map V.ref).length = jobs.length := by rw [List.length_map, hl]
      have eq1 : ((restOf jobs.length grp).map (jl jobs)).map V.int = given (rs.map V.ref).length (fun i => !grp.contains i) (fun i => .int (jl jobs i)) := by
        unfold given restOf
        rw [hxl, List.map_map]; rfl
      rw [eq1]
      refine el_lcE (fun i => !grp.contains i) (fun i => .int (jl jobs i)) (ea_cons (ev_var rfl) ea_nil) (st_of hJr) (by omega) (fun _ _ => rfl) (fun i x H3 e hi => ?_) (fun i x H3 e hi _ => ?_)
      · have z := et_test (ev_op (ta := tVar 3) (tb := tVar 1) (σ := ((wipe [some (V.ref J), some (V.ref g), none, none, none] [3, 4]).set 3 (some (V.int (i : Nat)))).set 4 (some x)) (H := H3) (ev_var rfl) (ev_var rfl) (rv_niT (K := K) (st_of (e _ _ (e12 _ _ hg))) rfl (vi_flat grp)))
        rw [vi_in] at z
        exact z
      · rw [List.getElem?_map] at hi
        obtain ⟨r, hr1, rfl⟩ := Option.map_eq_some_iff.mp hi
        exact ev_op (ev_var rfl) ev_c (rv_ixT (st_of (e _ _ (hr2 i r hr1))) (atI_nat (j := 0) rfl))
    · have e13 := e12.trans e3
      refine s_ret (v := .int (lastOf jobs grp)) ?_ fun H4 e4 => q H4 (e13.trans e4)
      refine ev_op (x := .int (costF jobs 0 (sortJ jobs grp))) (y := .int (sumL jobs (restOf jobs.length grp) * sumP jobs grp)) ?_ ?_ rv_I0
      · refine ev_cal2L (xs := vi (sortJ jobs grp)) (ev_var rfl) (el_cal (ea_cons (ev_var rfl) (ea_cons (ev_var rfl) ea_nil)) fun H3 e => ⟨J, g, jobs, grp, rfl, hJ.ex (e13.trans e), hk, e _ _ (e13 _ _ hg), hgl, hx, rfl⟩) fun p H3 hp e => ?_
        exact ⟨J, p, jobs, sortJ jobs grp, rfl, hJ.ex (e13.trans e), hk, hp, fun y hy => hx y ((sortJ_perm jobs grp).mem_iff.mp hy), rfl⟩
      · refine ev_op (ev_var rfl) (ev_sumN (ns := grp.map (jp jobs)) ?_) (rv_I (rest_small hk grp _))
        rw [← range_getD, ← given_ints]
        have z := el_lcT (K := K) (tt := tYes) (te := tOp (rIxT K) (tOp (rIxT K) (tVar 0) (tVar 3)) (tC (.int 1))) (tl := tVar 1) (j := 3) (vs := [3]) (σ := [some (V.ref J), some (V.ref g), some (V.int (sumL jobs (restOf jobs.length grp))), none, none]) (H := H3)
          (fun _ => true) (fun i => .int (jp jobs (grp.getD i 0))) (ev_var rfl) (st_of (e13 _ _ hg)) (by rw [vi_len]; omega) (fun _ => rfl) (fun _ _ _ _ _ => et_yes) (fun i x H4 e hi _ => ?_)
        · rw [vi_len] at z
          exact z
        · obtain ⟨n, hn, rfl⟩ := vi_get hi
          have en : grp.getD i 0 = n := by rw [List.getD_eq_getElem?_getD, hn]; rfl
          rw [en]
          exact ev_jp (hJ.ex (e13.trans e)) (hx n (List.mem_of_getElem? hn)) (ev_var rfl) (ev_var rfl)
theorem ok_need_few (F : Fun K "need_few" "need_few" s_need_few f fd) (B : Tp mg) (C_need_jobs : Cal P w K mg base 3 "need_jobs" ["value"] (spV pNeedJobs)) : FnOk P w K mg base CX0 4 f fd ["jobs"] (spV pNeedJobs) := by
  refine F.ok sc_need_few (fun vs H Q E h => ?_) (fun cdv A outer s H vs Q E hr h => ?_)
  · obtain ⟨v, ⟨J, jobs, rfl, _⟩, _⟩ := h; rfl
  · obtain ⟨v, ⟨J, jobs, rfl, hJ, hk, rfl⟩, q⟩ := h
    refine ⟨_, (pss_cons (ps_expr (pe_cal C_need_jobs hr (by decide) (by rfl) (pa_cons (pv 0) pa_nil)))
      (pss_one (ps_if (pt_cmpR op_gt (pe_callB (lenK K rfl) (by rfl) B.len bt_len (pa_cons (pv 0) pa_nil)) pe_int (nomark _))
      (pss_one ps_never) pss_nil))), ?_⟩
    refine q_drop (v := .non) (ev_cal (ea_cons (ev_var rfl) ea_nil) fun H1 e => ⟨J, jobs, rfl, hJ.ex e, hk, rfl⟩) fun H1 e1 => ?_
    refine s_pass ?_ fun H2 e2 => q H2 (e1.trans e2)
    have z := et_test (ev_op (tb := tC (.int 5)) ((hJ.ex e1).len (K := K) (ta := tVar 0) (σ := [some (V.ref J)]) (ev_var rfl)) ev_c (rv_I0 (g := fun i j => V.bl (decide (j < i)))))
    rw [decide_eq_false (show ¬ (5 : Int) < (jobs.length : Int) by have := hk.few; omega)] at z
    exact z
theorem ok_first_table (F : Fun K "first_table" "first_table" s_first_table f fd) (B : Tp mg) (C_need_few : Cal P w K mg base 4 "need_few" ["jobs"] (spV pNeedJobs)) (C_group_of : Cal P w K mg base 1 "group_of" ["mark"] (spU pGroupOf))
    (C_first_cost : Cal P w K mg base 5 "first_cost" ["jobs", "group"] (spV (pGrp fun j g => .int (firstOf j g)))) : FnOk P w K mg base CX0 6 f fd ["jobs"] (spU (pTable fun j g => .int (firstOf j g))) := by
  refine F.ok sc_first_table (fun vs H Q E h => ?_) (fun cdv A outer s H vs Q E hr h => ?_)
  · obtain ⟨v, ⟨J, jobs, rfl, _⟩, _⟩ := h; rfl
  · obtain ⟨v, ⟨J, jobs, rfl, hJ, hk, rfl⟩, q⟩ := h
    refine ⟨_, (pss_cons (ps_expr (pe_cal C_need_few hr (by decide) (by rfl) (pa_cons (pv 0) pa_nil)))
      (pss_one (ps_ret (pe_callTy (tupK K rfl) (by rfl) B.tuple bt_tuple (pa_cons (pe_lc (own := [("mark", 1)]) (g := gName 1) (tt := tYes) rfl sc_first_table.nd (pi_range1 (by rfl) B.range (pa_cons (pe_op op_shl pe_int (pe_callB (lenK K rfl) (by rfl) B.len bt_len (pa_cons (pv 0) pa_nil))) pa_nil)) (blkOk_by (N := ["jobs", "mark"]) (sc := (defScope s_first_table)) (by decide +kernel)) (fun _ _ _ _ _ => pg_name (i := 1) sc_first_table.nd rfl (.inl rfl)) (fun _ _ _ _ _ => pts_nil) (fun _ _ _ _ _ => (pe_cal C_first_cost hr (by decide) (by rfl) (pa_cons (pv 0) (pa_cons (pe_cal C_group_of hr (by decide) (by rfl) (pa_cons (pv 1) pa_nil)) pa_nil))))) pa_nil))))), ?_⟩
    have h5 := hk.few.2
    refine q_drop (v := .non) (ev_cal (ea_cons (ev_var rfl) ea_nil) fun H1 e => ⟨J, jobs, rfl, hJ.ex e, hk, rfl⟩) fun H1 e1 => ?_
    refine s_retU (xs := (List.range (2 ^ jobs.length)).map fun m => V.int (firstOf jobs (bits10 m))) (eu_tupleN ?_) fun p H2 np e2 hp => q p H2 (fresh_back e1 np) (e1.trans e2) hp
    rw [← given_all, ← Int.toNat_natCast (2 ^ jobs.length)]
    have hp2 := pow_le h5
    refine el_lcR1 (fun _ => true) (fun m => .int (firstOf jobs (bits10 m))) (ea_cons (ev_pow h5 ((hJ.ex e1).len (ev_var rfl))) ea_nil) ⟨Int.natCast_nonneg _, Int.ofNat_le.mpr (Nat.le_trans hp2 (by decide))⟩ (fun _ => rfl) (fun _ _ _ _ => et_yes) (fun m H2 e hm _ => ?_)
    obtain ⟨m32, ml, mp, mx⟩ := bits_ok h5 (show m < 2 ^ jobs.length by omega)
    refine ev_cal2U (xs := vi (bits10 m)) (ev_var rfl) (eu_cal (ea_cons (ev_var rfl) ea_nil) fun _ _ => ⟨m, m32, rfl, rfl⟩) fun p H3 hp e3 => ?_
    exact ⟨J, p, jobs, bits10 m, rfl, hJ.ex ((e1.trans e).trans e3), hk, hp, ml, mp, mx, rfl⟩
theorem ok_last_table (F : Fun K "last_table" "last_table" s_last_table f fd) (B : Tp mg) (C_need_few : Cal P w K mg base 4 "need_few" ["jobs"] (spV pNeedJobs)) (C_group_of : Cal P w K mg base 1 "group_of" ["mark"] (spU pGroupOf))
    (C_last_cost : Cal P w K mg base 5 "last_cost" ["jobs", "group"] (spV (pGrp fun j g => .int (lastOf j g)))) : FnOk P w K mg base CX0 6 f fd ["jobs"] (spU (pTable fun j g => .int (lastOf j g))) := by
  refine F.ok sc_last_table (fun vs H Q E h => ?_) (fun cdv A outer s H vs Q E hr h => ?_)
  · obtain ⟨v, ⟨J, jobs, rfl, _⟩, _⟩ := h; rfl
  · obtain ⟨v, ⟨J, jobs, rfl, hJ, hk, rfl⟩, q⟩ := h
    refine ⟨_, (pss_cons (ps_expr (pe_cal C_need_few hr (by decide) (by rfl) (pa_cons (pv 0) pa_nil)))
      (pss_one (ps_ret (pe_callTy (tupK K rfl) (by rfl) B.tuple bt_tuple (pa_cons (pe_lc (own := [("mark", 1)]) (g := gName 1) (tt := tYes) rfl sc_last_table.nd (pi_range1 (by rfl) B.range (pa_cons (pe_op op_shl pe_int (pe_callB (lenK K rfl) (by rfl) B.len bt_len (pa_cons (pv 0) pa_nil))) pa_nil)) (blkOk_by (N := ["jobs", "mark"]) (sc := (defScope s_last_table)) (by decide +kernel)) (fun _ _ _ _ _ => pg_name (i := 1) sc_last_table.nd rfl (.inl rfl)) (fun _ _ _ _ _ => pts_nil) (fun _ _ _ _ _ => (pe_cal C_last_cost hr (by decide) (by rfl) (pa_cons (pv 0) (pa_cons (pe_cal C_group_of hr (by decide) (by rfl) (pa_cons (pv 1) pa_nil)) pa_nil))))) pa_nil))))), ?_⟩
    have h5 := hk.few.2
    refine q_drop (v := .non) (ev_cal (ea_cons (ev_var rfl) ea_nil) fun H1 e => ⟨J, jobs, rfl, hJ.ex e, hk, rfl⟩) fun H1 e1 => ?_
    refine s_retU (xs := (List.range (2 ^ jobs.length)).map fun m => V.int (lastOf jobs (bits10 m))) (eu_tupleN ?_) fun p H2 np e2 hp => q p H2 (fresh_back e1 np) (e1.trans e2) hp
    rw [← given_all, ← Int.toNat_natCast (2 ^ jobs.length)]
    have hp2 := pow_le h5
    refine el_lcR1 (fun _ => true) (fun m => .int (lastOf jobs (bits10 m))) (ea_cons (ev_pow h5 ((hJ.ex e1).len (ev_var rfl))) ea_nil) ⟨Int.natCast_nonneg _, Int.ofNat_le.mpr (Nat.le_trans hp2 (by decide))⟩ (fun _ => rfl) (fun _ _ _ _ => et_yes) (fun m H2 e hm _ => ?_)
    obtain ⟨m32, ml, mp, mx⟩ := bits_ok h5 (show m < 2 ^ jobs.length by omega)
    refine ev_cal2U (xs := vi (bits10 m)) (ev_var rfl) (eu_cal (ea_cons (ev_var rfl) ea_nil) fun _ _ => ⟨m, m32, rfl, rfl⟩) fun p H3 hp e3 => ?_
    exact ⟨J, p, jobs, bits10 m, rfl, hJ.ex ((e1.trans e).trans e3), hk, hp, ml, mp, mx, rfl⟩
end
end Sw

namespace Sw
open PySem PySem.Spec PyProof.Rows L2 Evl
abbrev s_l_group : Stmt := topS 28
theorem sc_l_group : FnScope ["_law_mark", "_law_told"] ["_law_mark"] (defScope s_l_group) :=
  ⟨rfl, rfl, rfl, by decide +kernel, rfl, by decide +kernel, by decide +kernel⟩
abbrev s_l_orders : Stmt := topS 29
theorem sc_l_orders : FnScope ["_law_many", "_law_found", "_law_turn", "_law_longer", "_law_order", "_law_told"] ["_law_many"] (defScope s_l_orders) :=
  ⟨rfl, rfl, rfl, by decide +kernel, rfl, by decide +kernel, by decide +kernel⟩
abbrev s_l_alike : Stmt := topS 31
theorem sc_l_alike : FnScope ["_law_found", "_law_due", "_law_k"] ["_law_found", "_law_due"] (defScope s_l_alike) :=
  ⟨rfl, rfl, rfl, by decide +kernel, rfl, by decide +kernel, by decide +kernel⟩
def pLGroup : List V → Hp → List V → Prop := fun vs _ xs => ∃ m : Nat, m < 32 ∧ vs = [.int (m : Int)] ∧ xs = vi (bits10 m)
def spLU (P : List V → Hp → List (List V) → Prop) : Sp := fun vs H Q _ => ∃ xss, P vs H xss ∧ ∀ p rs H', H p = none → Ex H H' → H' p = some (.lst (rs.map V.ref)) → TupsR H' rs xss → Q (.ref p) H'
def pOrders : List V → Hp → List (List V) → Prop := fun vs _ xss => ∃ n : Nat, n ≤ 5 ∧ vs = [.int (n : Int)] ∧ xss = (ordK n n).map vi
def pAlike0 : List V → Hp → V → Prop := fun vs _ v => ∃ n : Int, vs = [.int n, .int n] ∧ v = .bl true
def pAlike1 : List V → Hp → V → Prop := fun vs H v => ∃ (p q : Addr) (ns : List Int), vs = [.ref p, .ref q] ∧ H p = some (.tup (ns.map V.int)) ∧ H q = some (.tup (ns.map V.int)) ∧ ns.length ≤ 40000 ∧ v = .bl true
def pAlike2 : List V → Hp → V → Prop := fun vs H v => ∃ (p q : Addr) (rs ss : List Addr) (nss : List (List Int)), vs = [.ref p, .ref q] ∧ H p = some (.lst (rs.map V.ref)) ∧ H q = some (.lst (ss.map V.ref)) ∧
  TupsR H rs (nss.map fun ns => ns.map V.int) ∧ TupsR H ss (nss.map fun ns => ns.map V.int) ∧ nss.length ≤ 100 ∧ (∀ ns ∈ nss, ns.length ≤ 40000) ∧ v = .bl true
section
variable {K : PySem.W.Frag} {σ : L2.St} {H H' : Hp} {ta tb te : TE} {D : Ends} {tz : TS}
theorem elu_cal {P : List V → Hp → List (List V) → Prop} {E : XK} {tt : TA} {vs : List V} {xss : List (List V)} (h : EvA tt σ H vs) (hp : ∀ H1, Ex H H1 → P vs H1 xss) : EvLU (tCall (spLU P) [] E tt) σ H xss := fun H1 e Q q =>
  h H1 e _ fun H2 e2 => by
    rw [List.append_nil]
    exact ⟨xss, hp H2 (e.trans e2), fun p rs H' n e3 hp ht => q p rs H' (fresh_back e2 n) (e2.trans e3) hp ht⟩
theorem elu_one {xs : List V} (h : EvU te σ H xs) : EvLU (tLst (tCons te tNil)) σ H [xs] := fun H1 e Q q =>
  h H1 e _ fun r H2 nr e2 hr => ⟨sz_of (n := 1) (by decide), fun p np => q p [r] _ (fresh_back e2 np) (e2.trans (Ex.new np)) upd_same
    (.cons (Ex.new np _ _ hr) .nil)⟩
theorem elu_two {xs ys : List V} (h : EvU ta σ H xs) (h2 : EvU tb σ H ys) : EvLU (tLst (tCons ta (tCons tb tNil))) σ H [xs, ys] := fun H1 e Q q =>
  h H1 e _ fun r H2 nr e2 hr => h2 H2 (e.trans e2) _ fun s H3 ns e3 hs => ⟨sz_of (n := 2) (by decide), fun p np => q p [r, s] _ (fresh_back (e2.trans e3) np) ((e2.trans e3).trans (Ex.new np)) upd_same
    (.cons (Ex.new np _ _ (e3 _ _ hr)) (.cons (Ex.new np _ _ hs) .nil))⟩
/-- t + u, u a new tuple that is not empty -/
theorem eu_cat {a : Addr} {xs ys : List V} (ha : Ev ta σ H (.ref a)) (hx : SqT K H a xs) (hb : EvU tb σ H ys) (hy : ys ≠ []) (hz : xs.length + ys.length ≤ 100000) : EvU (tOp (rCatA K) ta tb) σ H (xs ++ ys) := fun H1 e Q q =>
  ha H1 e _ fun H2 e2 => hb H2 (e.trans e2) _ fun b H3 nb e3 hb3 => ⟨a, b, xs, ys, rfl, rfl, ex_t ((e.trans e2).trans e3) hx, st_of hb3, sz_of hz,
    fun z => by subst z; exact q b H3 (fresh_back e2 nb) (e2.trans e3) hb3,
    fun _ z => absurd z hy,
    fun _ _ p np => q p _ (fresh_back (e2.trans e3) np) ((e2.trans e3).trans (Ex.new np)) upd_same⟩
/-- a list of tuples and a new list of new tuples -/
theorem elu_cat {L : Addr} {rs : List Addr} {xss yss : List (List V)} (ha : Ev ta σ H (.ref L)) (hL : H L = some (.lst (rs.map V.ref))) (hr : TupsR H rs xss) (hb : EvLU tb σ H yss) (hz : xss.length + yss.length ≤ 100000) :
    EvLU (tOp rCat ta tb) σ H (xss ++ yss) := fun H1 e Q q =>
  ha H1 e _ fun H2 e2 => hb H2 (e.trans e2) _ fun b ss H3 nb e3 hb3 hs => by
    have e13 := (e.trans e2).trans e3
    refine ⟨L, b, rs.map V.ref, ss.map V.ref, rfl, rfl, e13 _ _ hL, hb3, ?_, fun p np => ?_⟩
    · rw [List.length_map, List.length_map, paired_len hr, paired_len hs]
      exact sz_of hz
    · refine q p (rs ++ ss) _ (fresh_back (e2.trans e3) np) ((e2.trans e3).trans (Ex.new np)) ?_ ?_
      · rw [upd_same, List.map_append]
      · exact paired_app (F := fun r xs => upd H3 p (.lst (rs.map V.ref ++ ss.map V.ref)) r = some (.tup xs)) (hs.ex (Ex.new np)) (hr.ex (e13.trans (Ex.new np)))
theorem q_asgLU {i : Nat} {xss : List (List V)} (h : EvLU te σ H xss) (k : ∀ p rs H1, H p = none → Ex H H1 → H1 p = some (.lst (rs.map V.ref)) → TupsR H1 rs xss → tz D (σ.set i (some (.ref p))) H1) :
    tSeq (tAsg te (gName i)) tz D σ H := h H (Ex.refl H) _ fun p rs H1 hp e h1 ht => k p rs H1 hp e h1 ht
theorem s_asgLU {i : Nat} {xss : List (List V)} (h : EvLU te σ H xss) (k : ∀ p rs H1, H p = none → Ex H H1 → H1 p = some (.lst (rs.map V.ref)) → TupsR H1 rs xss → D.nx (σ.set i (some (.ref p))) H1) :
    tAsg te (gName i) D σ H := h H (Ex.refl H) _ fun p rs H1 hp e h1 ht => k p rs H1 hp e h1 ht
theorem rv_eqNil {p q : Addr} (hp : H p = some (.lst [])) (hq : H q = some (.lst [])) : RV (rEqD K) (.ref p) (.ref q) H (.bl true) := fun H1 e Q k =>
  ⟨.list [], .list [], .lst (sq_of (e _ _ hp)) .nil, .lst (sq_of (e _ _ hq)) .nil, rfl, rfl, k H1 (Ex.refl H1)⟩
theorem el_is {xs ys : List V} (h : EvL te σ H xs) (e : xs = ys) : EvL te σ H ys := e ▸ h
theorem given_none (n : Nat) (v : Nat → V) : given n (fun _ => false) v = [] := by
  unfold given
  rw [List.filter_eq_nil_iff.mpr fun _ _ => Bool.false_ne_true]
  rfl
end
theorem getD_of {l : List (List Nat)} {i : Nat} {o : List Nat} (h : l[i]? = some o) : l.getD i [] = o := by rw [List.getD_eq_getElem?_getD, h]; rfl
theorem takeL {l : List (List Nat)} {i : Nat} {n : List Nat} (h : l[i]? = some n) : l.take (i + 1) = l.take i ++ [n] := by
  rw [List.take_add_one, h]; rfl
theorem tl_cls : Paired ClsV [.ty "tuple", .ty "list"] [.type "tuple", .type "list"] := .cons (.ty _) (.cons (.ty _) .nil)
section
variable {P : Program} {w : World} {K : PySem.W.Frag} {mg : Str → Option Value} {base : Heap} {f : Addr} {fd : FuncData}
theorem ok_l_group (F : Fun K "_law_group" "_law_group" s_l_group f fd) (B : Tp mg) : FnOk P w K mg base CX0 1 f fd ["_law_mark"] (spU pLGroup) := by
  refine F.ok sc_l_group (fun vs H Q E h => ?_) (fun cdv A outer s H vs Q E hr h => ?_)
  · obtain ⟨v, ⟨m, hm, rfl, _⟩, _⟩ := h; rfl
  · obtain ⟨v, ⟨m, hm, rfl, rfl⟩, q⟩ := h
    refine ⟨_, (pss_one (ps_ret (pe_callTy (tupK K rfl) (by rfl) B.tuple bt_tuple (pa_cons (pe_lc (own := [("_law_told", 1)]) (g := gName 1)  rfl sc_l_group.nd (pi_range1 (by rfl) B.range (pa_cons pe_int pa_nil)) (blkOk_by (N := ["_law_mark", "_law_told"]) (sc := (defScope s_l_group)) (by decide +kernel)) (fun _ _ _ _ _ => pg_name (i := 1) sc_l_group.nd rfl (.inl rfl)) (fun _ _ _ _ _ => (pts_one (pt_cmpR op_eq (pe_op op_mod (pe_callTy intK (by rfl) B.int bt_int (pa_cons (pe_op op_shr (pv 0) (pv 1)) pa_nil)) pe_int) pe_int (nomark _)))) (fun _ _ _ _ _ => (pv 1))) pa_nil)))), ?_⟩
    refine s_retU (xs := vi (bits10 m)) (eu_tupleN ?_) q
    refine el_lcR1 (n := 10) (fun t => decide (m / 2 ^ t % 2 = 1)) (fun t => .int (t : Int)) (ea_cons ev_c ea_nil) (by omega) (fun _ => rfl) (fun t H1 e ht => ?_) (fun t H1 e ht _ => ev_var rfl)
    have z := et_test (ev_op (ev_op (ev_int1 (ev_op (ta := tVar 0) (tb := tVar 1) (σ := (wipe [some (V.int (m : Int)), none] [1]).set 1 (some (V.int (t : Int)))) (H := H1) (ev_var rfl) (ev_var rfl) (rv_I (C := fun _ j => 0 ≤ j) (g := fun i j => V.int (i / 2 ^ j.toNat)) (Int.natCast_nonneg t)))) (ev_c (v := .int 2)) (rv_I (C := fun _ j => 0 < j) (g := fun i j => V.int (i % j)) (by decide))) (ev_c (v := .int 1)) (rv_eq rfl))
    refine et_is z ?_
    have e1 : ((m : Int) / 2 ^ (t : Int).toNat) % 2 = ((m / 2 ^ t % 2 : Nat) : Int) := by
      rw [Int.toNat_natCast, Int.natCast_emod, Int.natCast_ediv, Int.natCast_pow]; rfl
    rw [e1]
    refine decide_eq_decide.mpr ⟨fun h => ?_, fun h => by rw [h]; rfl⟩
    have := V.int.inj h
    omega
theorem ok_l_orders (F : Fun K "_law_orders" "_law_orders" s_l_orders f fd) (B : Tp mg) : FnOk P w K mg base CX0 1 f fd ["_law_many"] (spLU pOrders) := by
  refine F.ok sc_l_orders (fun vs H Q E h => ?_) (fun cdv A outer s H vs Q E hr h => ?_)
  · obtain ⟨v, ⟨m, hm, rfl, _⟩, _⟩ := h; rfl
  · obtain ⟨v, ⟨n, hn, rfl, rfl⟩, q⟩ := h
    refine ⟨_, (pss_cons (ps_set (i := 1) sc_l_orders.nd rfl (.inl rfl) (pe_lst (pa_cons (pe_tup pa_nil) pa_nil)))
      (pss_cons (ps_for PassesOwn.never rfl (pi_range1 (by rfl) B.range (pa_cons (pv 0) pa_nil)) (pg_name (i := 2) sc_l_orders.nd rfl (.inl rfl))
      (pss_cons (ps_set (i := 3) sc_l_orders.nd rfl (.inl rfl) (pe_lst pa_nil))
      (pss_cons (ps_for PassesOwn.never rfl (pi_listK K rfl (pv 1)) (pg_name (i := 4) sc_l_orders.nd rfl (.inr rfl))
      (pss_one (ps_set (i := 3) sc_l_orders.nd rfl (.inl rfl) (pe_op op_cat (pv 3) (pe_lc (own := [("_law_told", 5)]) (g := gName 5)  rfl sc_l_orders.nd (pi_range1 (by rfl) B.range (pa_cons (pv 0) pa_nil)) (blkOk_by (N := ["_law_many", "_law_found", "_law_turn", "_law_longer", "_law_order", "_law_told"]) (sc := (defScope s_l_orders)) (by decide +kernel)) (fun _ _ _ _ _ => pg_name (i := 5) sc_l_orders.nd rfl (.inl rfl)) (fun _ _ _ _ _ => (pts_one (pt_cmpR (notInK K rfl) (pv 5) (pv 4) (by rfl)))) (fun _ _ _ _ _ => (pe_op (catK K rfl) (pv 4) (pe_tup (pa_cons (pv 5) pa_nil)))))))))
      (pss_one (ps_set (i := 1) sc_l_orders.nd rfl (.inl rfl) (pv 3))))))
      (pss_one (ps_ret (pv 1))))), ?_⟩
    refine q_asgLU (xss := [[]]) (elu_one (eu_tup ea_nil (by decide))) fun p0 rs0 H0 np0 e0 hp0 ht0 => ?_
    refine q_forR1 (n := (n : Int)) (ea_cons (ev_var rfl) ea_nil) (by omega) (fun k σ' H' => Ex H H' ∧ ∃ p rs a b c d, H p = none ∧ H' p = some (.lst (rs.map V.ref)) ∧ TupsR H' rs ((ordK n k).map vi) ∧ σ' = [some (.int (n : Int)), some (.ref p), a, b, c, d])
      (fun H1 e1 => ⟨e0.trans e1, p0, rs0, _, _, _, _, np0, e1 _ _ hp0, ht0.ex e1, rfl⟩) (fun k σ' H' hk p => ?_) (fun σ' H' p => ?_)
    · obtain ⟨ex, p, rs, a, b, c, d, np, hp, ht, rfl⟩ := p
      have hlen := ordK_len n hn k
      have hk5 : (5 : Nat) ^ k ≤ 5 ^ 5 := Nat.pow_le_pow_right (by decide) (by omega)
      have hos : (ordK n k).length ≤ 3125 := Nat.le_trans hlen (Nat.le_trans hk5 (by decide))
      refine q_asgL (xs := []) (el_lst ea_nil (Nat.zero_le _)) fun L H1 nL e1 hL => ?_
      have hrl : (rs.map V.ref).length = (ordK n k).length := by rw [List.length_map, paired_len ht, List.length_map]
      refine q_forLn (xs := rs.map V.ref) (ev_var rfl) (sq_of (e1 _ _ hp)) (fun i σ2 H2 => Ex H1 H2 ∧ ∃ L rs2 c d, H L = none ∧ H2 L = some (.lst (rs2.map V.ref)) ∧ TupsR H2 rs2 ((stepO n ((ordK n k).take i)).map vi) ∧ σ2 = [some (.int (n : Int)), some (.ref p), some (.int (k : Int)), some (.ref L), c, d])
        (fun H2 e2 => ⟨e2, L, [], _, _, fresh_back ex nL, e2 _ _ hL, .nil, rfl⟩) (fun _ _ _ _ p => sq_of (p.1 _ _ (e1 _ _ hp))) (fun i x σ2 H2 hi pp => ?_) (fun σ2 H2 pp => ?_)
      · obtain ⟨e2, L, rs2, c, d, nL, hL2, ht2, rfl⟩ := pp
        rw [List.getElem?_map] at hi
        obtain ⟨r, hr1, rfl⟩ := Option.map_eq_some_iff.mp hi
        obtain ⟨xs, hxs, hrt⟩ := paired_get (ht.ex (e1.trans e2)) hr1
        rw [List.getElem?_map] at hxs
        obtain ⟨o, ho, rfl⟩ := Option.map_eq_some_iff.mp hxs
        have hstep : (stepO n ((ordK n k).take (i + 1))).map vi = (stepO n ((ordK n k).take i)).map vi ++ givenU n (fun t => !o.contains t) (fun t => vi (o ++ [t])) := by
          rw [takeL ho, stepO_snoc, List.map_append, List.map_map]
          rfl
        have hl1 := stepO_mem_len n hn ((ordK n k).take i)
        have hl2 : ((ordK n k).take i).length ≤ 3125 := Nat.le_trans (List.length_take_le' _ _) hos
        have hl3 := givenU_len n (fun t => !o.contains t) (fun t => vi (o ++ [t]))
        have hol : o.length ≤ 5 := by
          have := (ord_items n k o (List.mem_of_getElem? ho)).1
          omega
        refine s_asgLU (xss := (stepO n ((ordK n k).take i)).map vi ++ givenU n (fun t => !o.contains t) (fun t => vi (o ++ [t]))) (elu_cat (ev_var rfl) hL2 ht2 ?_ (by rw [List.length_map]; omega)) fun p2 rs3 H3 np2 e3 hp2 ht3 => ?_
        · have z := elu_lcR (n := (n : Int)) (tt := tTest (tOp (rIn K true) (tVar 5) (tVar 4))) (te := tOp (rCatA K) (tVar 4) (tTup (tCons (tVar 5) tNil))) (ta := tCons (tVar 0) tNil) (j := 5) (vs := [5]) (H := H2)
            (σ := [some (V.int (n : Int)), some (V.ref p), some (V.int (k : Int)), some (V.ref L), some (V.ref r), d]) (fun t => !o.contains t) (fun t => vi (o ++ [t])) (ea_cons (ev_var rfl) ea_nil) (by omega) (fun _ => rfl) (fun t H3 e3 _ => ?_) (fun t H3 e3 _ _ => ?_)
          · rw [Int.toNat_natCast] at z
            exact z
          · have y := et_test (ev_op (ta := tVar 5) (tb := tVar 4) (σ := (wipe [some (V.int (n : Int)), some (V.ref p), some (V.int (k : Int)), some (V.ref L), some (V.ref r), d] [5]).set 5 (some (V.int (t : Int)))) (H := H3) (ev_var rfl) (ev_var rfl) (rv_niT (K := K) (st_of (e3 _ _ hrt)) rfl (vi_flat o)))
            rw [vi_in] at y
            exact y
          · have ev : vi (o ++ [t]) = vi o ++ [.int (t : Int)] := by unfold vi; rw [List.map_append]; rfl
            rw [ev]
            refine eu_cat (ev_var rfl) (st_of (e3 _ _ hrt)) (eu_tup (ea_cons (ev_var rfl) ea_nil) (by simp)) (by simp) ?_
            rw [vi_len]; simp only [List.length_cons, List.length_nil]; omega
        · refine ⟨e2.trans e3, p2, rs3, _, _, fresh_back (ex.trans (e1.trans e2)) np2, hp2, ?_, rfl⟩
          rw [hstep]
          exact ht3
      · obtain ⟨e2, L, rs2, c, d, nL, hL2, ht2, rfl⟩ := pp
        rw [hrl, List.take_length] at ht2
        refine s_asg (ev_var rfl) fun H3 e3 => ⟨((ex.trans e1).trans e2).trans e3, L, rs2, _, _, _, _, nL, e3 _ _ hL2, ht2.ex e3, rfl⟩
    · obtain ⟨ex, p, rs, a, b, c, d, np, hp, ht, rfl⟩ := p
      rw [Int.toNat_natCast] at ht
      exact s_ret (ev_var rfl) fun H1 e1 => q p rs H1 np (ex.trans e1) (e1 _ _ hp) (ht.ex e1)
theorem ok_alike0 (F : Fun K "_law_alike" "_law_alike" s_l_alike f fd) (B : Tp mg) : FnOk P w K mg base CX0 1 f fd ["_law_found", "_law_due"] (spV pAlike0) := by
  refine F.ok sc_l_alike (fun vs H Q E h => ?_) (fun cdv A outer s H vs Q E hr h => ?_)
  · obtain ⟨v, ⟨m, rfl, _⟩, _⟩ := h; rfl
  · obtain ⟨v, ⟨n, rfl, rfl⟩, q⟩ := h
    refine ⟨_, (pss_cons (ps_if (pt_val (pe_callB (isiTK K rfl) (by rfl) B.isinstance bt_isinstance (pa_cons (pv 1) (pa_cons (pe_tup (pa_cons (pe_bltn (v := .ty "tuple") (by rfl) B.tuple bt_tuple rfl) (pa_cons (pe_bltn (v := .ty "list") (by rfl) B.list bt_list rfl) pa_nil))) pa_nil))))
      pss_never pss_nil)
      (pss_cons (ps_if (PW.pt (pw_or (pt_cmpR op_isN (pv 1) pe_non (nomark _)) (pw_or1 (pt_val (pe_callB (isiK K rfl) (by rfl) B.isinstance bt_isinstance (pa_cons (pv 1) (pa_cons (pe_bltn (v := .ty "str") (by rfl) B.str bt_str rfl) pa_nil)))))))
      (pss_one (ps_ret (pe_and (pe_cmpR op_eq (pv 0) (pv 1) (nomark _)) (pe_one (pe_cmpR op_eq (pe_callB (isiK K rfl) (by rfl) B.isinstance bt_isinstance (pa_cons (pv 0) (pa_cons (pe_bltn (v := .ty "str") (by rfl) B.str bt_str rfl) pa_nil))) (pe_callB (isiK K rfl) (by rfl) B.isinstance bt_isinstance (pa_cons (pv 1) (pa_cons (pe_bltn (v := .ty "str") (by rfl) B.str bt_str rfl) pa_nil))) (nomark _)))))) pss_nil)
      (pss_one (ps_ret (pe_and (pe_callB (isiK K rfl) (by rfl) B.isinstance bt_isinstance (pa_cons (pv 0) (pa_cons (pe_bltn (v := .ty "int") (by rfl) B.int bt_int rfl) pa_nil))) (pe_and (pe_cmpR op_eq (pe_callB (isiK K rfl) (by rfl) B.isinstance bt_isinstance (pa_cons (pv 0) (pa_cons (pe_bltn (v := .ty "bool") (by rfl) B.bool bt_bool rfl) pa_nil))) (pe_callB (isiK K rfl) (by rfl) B.isinstance bt_isinstance (pa_cons (pv 1) (pa_cons (pe_bltn (v := .ty "bool") (by rfl) B.bool bt_bool rfl) pa_nil))) (nomark _)) (pe_one (pe_cmpR op_eq (pv 0) (pv 1) (nomark _))))))))), ?_⟩
    refine q_pass (et_B (ev_isiT (ev_var rfl) (eu_tup (ea_cons ev_c (ea_cons ev_c ea_nil)) (by simp)) tl_cls ty_int ki_int_tl)) fun H1 e1 => ?_
    refine q_pass (et_or (a := false) (b := false) (et_test (ev_op (ev_var rfl) ev_c (rv_val fun H2 _ Q k => ⟨rfl, k⟩))) fun _ => et_B (ev_isi (ev_var rfl) ev_c (.ty _) ty_int ki_int_str)) fun H2 e2 => ?_
    refine s_ret (v := .bl true) ?_ fun H3 e3 => q H3 ((e1.trans e2).trans e3)
    refine ev_andV (a := true) (b := true) (ev_isi (ev_var rfl) ev_c (.ty _) ty_int ki_int_int) fun _ => ?_
    refine ev_andV (a := true) (b := true) (ev_op (ev_isi (ev_var rfl) ev_c (.ty _) ty_int ki_int_bool) (ev_isi (ev_var rfl) ev_c (.ty _) ty_int ki_int_bool) (rv_eq rfl)) fun _ => ?_
    refine ev_is (ev_op (ev_var rfl) (ev_var rfl) (rv_eq rfl)) ?_
    rw [decide_eq_true rfl]
theorem ok_alike1 (F : Fun K "_law_alike" "_law_alike" s_l_alike f fd) (B : Tp mg) (C_l_alike : Cal P w K mg base 1 "_law_alike" ["_law_found", "_law_due"] (spV pAlike0)) : FnOk P w K mg base CX0 2 f fd ["_law_found", "_law_due"] (spV pAlike1) := by
  refine F.ok sc_l_alike (fun vs H Q E h => ?_) (fun cdv A outer s H vs Q E hr h => ?_)
  · obtain ⟨v, ⟨p, p2, ns, rfl, _⟩, _⟩ := h; rfl
  · obtain ⟨v, ⟨p, p2, ns, rfl, hp, hp2, hl, rfl⟩, q⟩ := h
    refine ⟨_, (pss_cons (ps_if (pt_val (pe_callB (isiTK K rfl) (by rfl) B.isinstance bt_isinstance (pa_cons (pv 1) (pa_cons (pe_tup (pa_cons (pe_bltn (v := .ty "tuple") (by rfl) B.tuple bt_tuple rfl) (pa_cons (pe_bltn (v := .ty "list") (by rfl) B.list bt_list rfl) pa_nil))) pa_nil))))
      (pss_cons (ps_if (PW.pt (pw_or (pt_not (pt_val (pe_callB (isiTK K rfl) (by rfl) B.isinstance bt_isinstance (pa_cons (pv 0) (pa_cons (pe_tup (pa_cons (pe_bltn (v := .ty "tuple") (by rfl) B.tuple bt_tuple rfl) (pa_cons (pe_bltn (v := .ty "list") (by rfl) B.list bt_list rfl) pa_nil))) pa_nil))))) (pw_or1 (pt_cmpR op_ne (pe_callB (isiK K rfl) (by rfl) B.isinstance bt_isinstance (pa_cons (pv 0) (pa_cons (pe_bltn (v := .ty "list") (by rfl) B.list bt_list rfl) pa_nil))) (pe_callB (isiK K rfl) (by rfl) B.isinstance bt_isinstance (pa_cons (pv 1) (pa_cons (pe_bltn (v := .ty "list") (by rfl) B.list bt_list rfl) pa_nil))) (nomark _)))))
      (pss_one (ps_ret pe_bl)) pss_nil)
      (pss_cons (ps_if (pt_cmpR op_ne (pe_callB (lenK K rfl) (by rfl) B.len bt_len (pa_cons (pv 0) pa_nil)) (pe_callB (lenK K rfl) (by rfl) B.len bt_len (pa_cons (pv 1) pa_nil)) (nomark _))
      (pss_one (ps_ret pe_bl)) pss_nil)
      (pss_one (ps_ret (pe_cmpR (op_eqD hr.units) (pe_lc (own := [("_law_k", 2)]) (g := gName 2)  rfl sc_l_alike.nd (pi_range1 (by rfl) B.range (pa_cons (pe_callB (lenK K rfl) (by rfl) B.len bt_len (pa_cons (pv 1) pa_nil)) pa_nil)) (blkOk_by (N := ["_law_found", "_law_due", "_law_k"]) (sc := (defScope s_l_alike)) (by decide +kernel)) (fun _ _ _ _ _ => pg_name (i := 2) sc_l_alike.nd rfl (.inl rfl)) (fun _ _ _ _ _ => (pts_one (pt_not (pt_val (pe_cal C_l_alike hr (by decide) (by rfl) (pa_cons (pe_ix (ixT K rfl) (pv 0) (pv 2) (fun _ _ => rfl)) (pa_cons (pe_ix (ixT K rfl) (pv 1) (pv 2) (fun _ _ => rfl)) pa_nil))))))) (fun _ _ _ _ _ => (pv 2))) (pe_lst pa_nil) (nomark _)))))) pss_nil)
      (pss_cons (ps_if (PW.pt (pw_or (pt_cmpR op_isN (pv 1) pe_non (nomark _)) (pw_or1 (pt_val (pe_callB (isiK K rfl) (by rfl) B.isinstance bt_isinstance (pa_cons (pv 1) (pa_cons (pe_bltn (v := .ty "str") (by rfl) B.str bt_str rfl) pa_nil)))))))
      (pss_one (ps_ret (pe_and (pe_cmpR op_eq (pv 0) (pv 1) (nomark _)) (pe_one (pe_cmpR op_eq (pe_callB (isiK K rfl) (by rfl) B.isinstance bt_isinstance (pa_cons (pv 0) (pa_cons (pe_bltn (v := .ty "str") (by rfl) B.str bt_str rfl) pa_nil))) (pe_callB (isiK K rfl) (by rfl) B.isinstance bt_isinstance (pa_cons (pv 1) (pa_cons (pe_bltn (v := .ty "str") (by rfl) B.str bt_str rfl) pa_nil))) (nomark _)))))) pss_nil)
      (pss_one (ps_ret (pe_and (pe_callB (isiK K rfl) (by rfl) B.isinstance bt_isinstance (pa_cons (pv 0) (pa_cons (pe_bltn (v := .ty "int") (by rfl) B.int bt_int rfl) pa_nil))) (pe_and (pe_cmpR op_eq (pe_callB (isiK K rfl) (by rfl) B.isinstance bt_isinstance (pa_cons (pv 0) (pa_cons (pe_bltn (v := .ty "bool") (by rfl) B.bool bt_bool rfl) pa_nil))) (pe_callB (isiK K rfl) (by rfl) B.isinstance bt_isinstance (pa_cons (pv 1) (pa_cons (pe_bltn (v := .ty "bool") (by rfl) B.bool bt_bool rfl) pa_nil))) (nomark _)) (pe_one (pe_cmpR op_eq (pv 0) (pv 1) (nomark _))))))))), ?_⟩
    refine q_if (b := true) (et_B (ev_isiT (ev_var rfl) (eu_tup (ea_cons ev_c (ea_cons ev_c ea_nil)) (by simp)) tl_cls (ty_tup hp2) ki_tuple_tl)) (fun _ H1 e1 => ?_) (fun z => nomatch z)
    have hp1 := e1 _ _ hp
    have hp21 := e1 _ _ hp2
    refine q_pass (et_or (a := false) (b := false) (et_not (a := true) (et_B (ev_isiT (ev_var rfl) (eu_tup (ea_cons ev_c (ea_cons ev_c ea_nil)) (by simp)) tl_cls (ty_tup hp1) ki_tuple_tl)))
      fun _ => et_test (ev_op (ev_isi (ev_var rfl) ev_c (.ty _) (ty_tup hp1) ki_tuple_list) (ev_isi (ev_var rfl) ev_c (.ty _) (ty_tup hp21) ki_tuple_list) (rv_ne rfl))) fun H2 e2 => ?_
    have hp2' := e2 _ _ hp1
    have hp22 := e2 _ _ hp21
    refine q_pass ?_ fun H3 e3 => ?_
    · have z := et_test (ev_op (ev_lenT (K := K) (ta := tVar 0) (σ := [some (V.ref p), some (V.ref p2), none]) (ev_var rfl) (st_of hp2')) (ev_lenT (K := K) (ta := tVar 1) (ev_var rfl) (st_of hp22)) (rv_ne rfl))
      rw [decide_eq_true rfl] at z
      exact z
    · refine s_ret (v := .bl true) ?_ fun H4 e4 => q H4 (((e1.trans e2).trans e3).trans e4)
      refine ev_opLL (xs := []) (ys := []) ?_ (el_lst ea_nil (Nat.zero_le _)) fun a b H4 ha hb _ => rv_eqNil ha hb
      have hp3 := e3 _ _ hp2'
      have hp23 := e3 _ _ hp22
      have hn : (((ns.map V.int).length : Int)).toNat = ns.length := by rw [Int.toNat_natCast, List.length_map]
      refine el_is ?_ (given_none ((ns.map V.int).length : Int).toNat (fun i => .int (i : Int)))
      refine el_lcR1 (n := ((ns.map V.int).length : Int)) (fun _ => false) (fun i => .int (i : Int)) (ea_cons (ev_lenT (ev_var rfl) (st_of hp23)) ea_nil) (by rw [List.length_map]; omega) (fun _ => rfl) (fun i H4 e4 hi => ?_) (fun _ _ _ _ h => nomatch h)
      rw [List.length_map] at hi
      have hi2 : (ns.map V.int)[i]? = some (.int (ns[i]'(by omega))) := by rw [List.getElem?_map, List.getElem?_eq_getElem (by omega)]; rfl
      exact et_not (a := true) (et_B (ev_cal (ea_cons (ev_op (ev_var rfl) (ev_var rfl) (rv_ixT (st_of (e4 _ _ hp3)) (atI_nat hi2))) (ea_cons (ev_op (ev_var rfl) (ev_var rfl) (rv_ixT (st_of (e4 _ _ hp23)) (atI_nat hi2))) ea_nil)) fun _ _ => ⟨_, rfl, rfl⟩))
theorem ok_alike2 (F : Fun K "_law_alike" "_law_alike" s_l_alike f fd) (B : Tp mg) (C_l_alike : Cal P w K mg base 2 "_law_alike" ["_law_found", "_law_due"] (spV pAlike1)) : FnOk P w K mg base CX0 3 f fd ["_law_found", "_law_due"] (spV pAlike2) := by
  refine F.ok sc_l_alike (fun vs H Q E h => ?_) (fun cdv A outer s H vs Q E hr h => ?_)
  · obtain ⟨v, ⟨p, p2, rs, ss, ns, rfl, _⟩, _⟩ := h; rfl
  · obtain ⟨v, ⟨p, p2, rs, ss, ns, rfl, hp, hp2, htr, hts, hl, hls, rfl⟩, q⟩ := h
    refine ⟨_, (pss_cons (ps_if (pt_val (pe_callB (isiTK K rfl) (by rfl) B.isinstance bt_isinstance (pa_cons (pv 1) (pa_cons (pe_tup (pa_cons (pe_bltn (v := .ty "tuple") (by rfl) B.tuple bt_tuple rfl) (pa_cons (pe_bltn (v := .ty "list") (by rfl) B.list bt_list rfl) pa_nil))) pa_nil))))
      (pss_cons (ps_if (PW.pt (pw_or (pt_not (pt_val (pe_callB (isiTK K rfl) (by rfl) B.isinstance bt_isinstance (pa_cons (pv 0) (pa_cons (pe_tup (pa_cons (pe_bltn (v := .ty "tuple") (by rfl) B.tuple bt_tuple rfl) (pa_cons (pe_bltn (v := .ty "list") (by rfl) B.list bt_list rfl) pa_nil))) pa_nil))))) (pw_or1 (pt_cmpR op_ne (pe_callB (isiK K rfl) (by rfl) B.isinstance bt_isinstance (pa_cons (pv 0) (pa_cons (pe_bltn (v := .ty "list") (by rfl) B.list bt_list rfl) pa_nil))) (pe_callB (isiK K rfl) (by rfl) B.isinstance bt_isinstance (pa_cons (pv 1) (pa_cons (pe_bltn (v := .ty "list") (by rfl) B.list bt_list rfl) pa_nil))) (nomark _)))))
      (pss_one (ps_ret pe_bl)) pss_nil)
      (pss_cons (ps_if (pt_cmpR op_ne (pe_callB (lenK K rfl) (by rfl) B.len bt_len (pa_cons (pv 0) pa_nil)) (pe_callB (lenK K rfl) (by rfl) B.len bt_len (pa_cons (pv 1) pa_nil)) (nomark _))
      (pss_one (ps_ret pe_bl)) pss_nil)
      (pss_one (ps_ret (pe_cmpR (op_eqD hr.units) (pe_lc (own := [("_law_k", 2)]) (g := gName 2)  rfl sc_l_alike.nd (pi_range1 (by rfl) B.range (pa_cons (pe_callB (lenK K rfl) (by rfl) B.len bt_len (pa_cons (pv 1) pa_nil)) pa_nil)) (blkOk_by (N := ["_law_found", "_law_due", "_law_k"]) (sc := (defScope s_l_alike)) (by decide +kernel)) (fun _ _ _ _ _ => pg_name (i := 2) sc_l_alike.nd rfl (.inl rfl)) (fun _ _ _ _ _ => (pts_one (pt_not (pt_val (pe_cal C_l_alike hr (by decide) (by rfl) (pa_cons (pe_ix (ixL K rfl) (pv 0) (pv 2) (fun _ _ => rfl)) (pa_cons (pe_ix (ixL K rfl) (pv 1) (pv 2) (fun _ _ => rfl)) pa_nil))))))) (fun _ _ _ _ _ => (pv 2))) (pe_lst pa_nil) (nomark _)))))) pss_nil)
      (pss_cons (ps_if (PW.pt (pw_or (pt_cmpR op_isN (pv 1) pe_non (nomark _)) (pw_or1 (pt_val (pe_callB (isiK K rfl) (by rfl) B.isinstance bt_isinstance (pa_cons (pv 1) (pa_cons (pe_bltn (v := .ty "str") (by rfl) B.str bt_str rfl) pa_nil)))))))
      (pss_one (ps_ret (pe_and (pe_cmpR op_eq (pv 0) (pv 1) (nomark _)) (pe_one (pe_cmpR op_eq (pe_callB (isiK K rfl) (by rfl) B.isinstance bt_isinstance (pa_cons (pv 0) (pa_cons (pe_bltn (v := .ty "str") (by rfl) B.str bt_str rfl) pa_nil))) (pe_callB (isiK K rfl) (by rfl) B.isinstance bt_isinstance (pa_cons (pv 1) (pa_cons (pe_bltn (v := .ty "str") (by rfl) B.str bt_str rfl) pa_nil))) (nomark _)))))) pss_nil)
      (pss_one (ps_ret (pe_and (pe_callB (isiK K rfl) (by rfl) B.isinstance bt_isinstance (pa_cons (pv 0) (pa_cons (pe_bltn (v := .ty "int") (by rfl) B.int bt_int rfl) pa_nil))) (pe_and (pe_cmpR op_eq (pe_callB (isiK K rfl) (by rfl) B.isinstance bt_isinstance (pa_cons (pv 0) (pa_cons (pe_bltn (v := .ty "bool") (by rfl) B.bool bt_bool rfl) pa_nil))) (pe_callB (isiK K rfl) (by rfl) B.isinstance bt_isinstance (pa_cons (pv 1) (pa_cons (pe_bltn (v := .ty "bool") (by rfl) B.bool bt_bool rfl) pa_nil))) (nomark _)) (pe_one (pe_cmpR op_eq (pv 0) (pv 1) (nomark _))))))))), ?_⟩
    refine q_if (b := true) (et_B (ev_isiT (ev_var rfl) (eu_tup (ea_cons ev_c (ea_cons ev_c ea_nil)) (by simp)) tl_cls (ty_lst hp2) ki_list_tl)) (fun _ H1 e1 => ?_) (fun z => nomatch z)
    have hp1 := e1 _ _ hp
    have hp21 := e1 _ _ hp2
    refine q_pass (et_or (a := false) (b := false) (et_not (a := true) (et_B (ev_isiT (ev_var rfl) (eu_tup (ea_cons ev_c (ea_cons ev_c ea_nil)) (by simp)) tl_cls (ty_lst hp1) ki_list_tl)))
      fun _ => et_test (ev_op (ev_isi (ev_var rfl) ev_c (.ty _) (ty_lst hp1) ki_list_list) (ev_isi (ev_var rfl) ev_c (.ty _) (ty_lst hp21) ki_list_list) (rv_ne rfl))) fun H2 e2 => ?_
    have hp2' := e2 _ _ hp1
    have hp22 := e2 _ _ hp21
    have lr : (rs.map V.ref).length = ns.length := by rw [List.length_map, paired_len htr, List.length_map]
    have ls : (ss.map V.ref).length = ns.length := by rw [List.length_map, paired_len hts, List.length_map]
    refine q_pass ?_ fun H3 e3 => ?_
    · have z := et_test (ev_op (ev_len (K := K) (ta := tVar 0) (σ := [some (V.ref p), some (V.ref p2), none]) (ev_var rfl) (sq_of hp2')) (ev_len (K := K) (ta := tVar 1) (ev_var rfl) (sq_of hp22)) (rv_ne rfl))
      rw [lr, ls, decide_eq_true rfl] at z
      exact z
    · refine s_ret (v := .bl true) ?_ fun H4 e4 => q H4 (((e1.trans e2).trans e3).trans e4)
      refine ev_opLL (xs := []) (ys := []) ?_ (el_lst ea_nil (Nat.zero_le _)) fun a b H4 ha hb _ => rv_eqNil ha hb
      have e13 := (e1.trans e2).trans e3
      have hp3 := e3 _ _ hp2'
      have hp23 := e3 _ _ hp22
      refine el_is ?_ (given_none ((ss.map V.ref).length : Int).toNat (fun i => .int (i : Int)))
      refine el_lcR1 (n := ((ss.map V.ref).length : Int)) (fun _ => false) (fun i => .int (i : Int)) (ea_cons (ev_len (ev_var rfl) (sq_of hp23)) ea_nil) (by omega) (fun _ => rfl) (fun i H4 e4 hi => ?_) (fun _ _ _ _ h => nomatch h)
      have hir : i < rs.length := by rw [List.length_map] at lr; omega
      have his : i < ss.length := by rw [List.length_map] at ls hi; omega
      have g1 : rs[i]? = some rs[i] := List.getElem?_eq_getElem hir
      have g2 : ss[i]? = some ss[i] := List.getElem?_eq_getElem his
      obtain ⟨xs, hx1, hx2⟩ := paired_get htr g1
      obtain ⟨ys, hy1, hy2⟩ := paired_get hts g2
      rw [hx1] at hy1
      obtain rfl := Option.some.inj hy1
      rw [List.getElem?_map] at hx1
      obtain ⟨z, hz, rfl⟩ := Option.map_eq_some_iff.mp hx1
      have f1 : (rs.map V.ref)[i]? = some (.ref rs[i]) := by rw [List.getElem?_map, g1]; rfl
      have f2 : (ss.map V.ref)[i]? = some (.ref ss[i]) := by rw [List.getElem?_map, g2]; rfl
      exact et_not (a := true) (et_B (ev_cal (ea_cons (ev_op (ev_var rfl) (ev_var rfl) (rv_ixL (sq_of (e4 _ _ hp3)) (atI_nat f1))) (ea_cons (ev_op (ev_var rfl) (ev_var rfl) (rv_ixL (sq_of (e4 _ _ hp23)) (atI_nat f2))) ea_nil))
        fun H5 e5 => ⟨_, _, z, rfl, e5 _ _ (e4 _ _ (e13 _ _ hx2)), e5 _ _ (e4 _ _ (e13 _ _ hy2)), hls z (List.mem_of_getElem? hz), rfl⟩))
end
end Sw

namespace Sw
open PySem PySem.Spec PyProof.Rows L2 Evl
abbrev s_l_taken : Stmt := topS 25
theorem sc_l_taken : FnScope ["_law_row", "_law_many", "_law_found", "_law_cell"] ["_law_row", "_law_many"] (defScope s_l_taken) :=
  ⟨rfl, rfl, rfl, by decide +kernel, rfl, by decide +kernel, by decide +kernel⟩
abbrev s_l_pick : Stmt := topS 26
theorem sc_l_pick : FnScope ["_law_row", "_law_things"] ["_law_row", "_law_things"] (defScope s_l_pick) :=
  ⟨rfl, rfl, rfl, by decide +kernel, rfl, by decide +kernel, by decide +kernel⟩
abbrev s_l_jobs : Stmt := topS 27
theorem sc_l_jobs : FnScope ["_law_row", "_law_most", "_law_top", "_law_told"] ["_law_row", "_law_most"] (defScope s_l_jobs) :=
  ⟨rfl, rfl, rfl, by decide +kernel, rfl, by decide +kernel, by decide +kernel⟩
/-- all but the row's own object stands -/
def ExB (row : Addr) (H H' : Hp) : Prop := ∀ b o, b ≠ row → H b = some o → H' b = some o
theorem ExB.refl (row : Addr) (H : Hp) : ExB row H H := fun _ _ _ h => h
theorem ExB.trans {row : Addr} {H H1 H2 : Hp} (a : ExB row H H1) (b : ExB row H1 H2) : ExB row H H2 := fun x o n h => b x o n (a x o n h)
theorem ExB.of {row : Addr} {H H1 : Hp} (e : Ex H H1) : ExB row H H1 := fun x o _ h => e x o h
theorem ExB.row {row : Addr} {H H1 : Hp} {o : HO} (e : ExB row H H1) : ExB row H (upd H1 row o) := fun x u n h => by
  rw [upd_ne n]
  exact e x u n h
/-- an object that H does not know may change -/
theorem ExB.mut {row p : Addr} {H H1 : Hp} {o : HO} (e : ExB row H H1) (h : H p = none) : ExB row H (upd H1 p o) := fun x u n q => by
  rw [upd_ne (ne_of_none q h)]
  exact e x u n q
/-- fresh behind is fresh ahead -/
theorem ExB.free {row : Addr} {H H1 : Hp} {o : HO} {p : Addr} (e : ExB row H H1) (hr : H1 row = some o) (h : H1 p = none) : H p = none := by
  cases h1 : H p with
  | none => rfl
  | some u =>
    have n : p ≠ row := fun z => by rw [z, hr] at h; cases h
    rw [e p u n h1] at h
    cases h
theorem Ex.ofB {row : Addr} {H H1 : Hp} (e : ExB row H H1) (h : H row = none) : Ex H H1 := fun a o q => e a o (fun z => by rw [z, h] at q; cases q) q
def rowL (S : Addr) (a b c : Int) : HO := .lst [.ref S, .int a, .int b, .int c]
structure RowIn (K : PySem.W.Frag) (H : Hp) (row S : Addr) (ns : List Int) (a b c : Int) : Prop where
  at_ : H row = some (rowL S a b c)
  scr : ∀ H', ExB row H H' → SqL K H' S (ns.map V.int)
  pos : 0 ≤ a
  st : 0 ≤ b ∧ b < 2147483647
theorem RowIn.next {K : PySem.W.Frag} {H H' : Hp} {row S : Addr} {ns : List Int} {a b c a' b' c' : Int} (r : RowIn K H row S ns a b c) (e : ExB row H H') (h : H' row = some (rowL S a' b' c')) (p : 0 ≤ a') (s : 0 ≤ b' ∧ b' < 2147483647) : RowIn K H' row S ns a' b' c' :=
  ⟨h, fun H2 e2 => r.scr H2 (e.trans e2), p, s⟩
theorem RowIn.ex {K : PySem.W.Frag} {H H' : Hp} {row S : Addr} {ns : List Int} {a b c : Int} (r : RowIn K H row S ns a b c) (e : Ex H H') : RowIn K H' row S ns a b c :=
  r.next (.of e) (e _ _ r.at_) r.pos r.st
def spTaken (K : PySem.W.Frag) : Sp := fun vs H Q _ => ∃ (row S : Addr) (ns : List Int) (a b c many : Int), vs = [.ref row, .int many] ∧ RowIn K H row S ns a b c ∧ 0 < many ∧ many ≤ 1000 ∧
  ∀ (n a' b' c' : Int) H', 0 ≤ n → n < many → RowIn K H' row S ns a' b' c' → ExB row H H' → Q (.int n) H'
def spPick (K : PySem.W.Frag) : Sp := fun vs H Q _ => ∃ (row S L : Addr) (ns : List Int) (a b c : Int), vs = [.ref row, .ref L] ∧ RowIn K H row S ns a b c ∧ L ≠ row ∧ H L = some (.lst [.int 3, .int 9, .int 99]) ∧
  ∀ (n a' b' c' : Int) H', (n = 3 ∨ n = 9 ∨ n = 99) → RowIn K H' row S ns a' b' c' → ExB row H H' → Q (.int n) H'
def spLJobs (K : PySem.W.Frag) : Sp := fun vs H Q _ => ∃ (row S : Addr) (ns : List Int) (a b c : Int), vs = [.ref row, .int 5] ∧ RowIn K H row S ns a b c ∧
  ∀ (J : Addr) (jobs : List Job) (a' b' c' : Int) H', OkJobs jobs → JobsAt H' J jobs → RowIn K H' row S ns a' b' c' → ExB row H H' → Q (.ref J) H'
section
variable {P : Program} {w : World} {K : PySem.W.Frag} {mg : Str → Option Value} {base : Heap} {f : Addr} {fd : FuncData}
theorem ev_row {σ : L2.St} {H : Hp} {row S : Addr} {a b c : Int} {i : Nat} {v : V} (h : H row = some (rowL S a b c)) (hs : σ[0]? = some (some (.ref row))) (hv : [V.ref S, .int a, .int b, .int c][i]? = some v) :
    Ev (tOp (rIxL K) (tVar 0) (tC (.int (i : Int)))) σ H v := ev_op (ev_var hs) ev_c (rv_ixL (sq_of h) (atI_nat hv))
theorem ok_taken (F : Fun K "_law_taken" "_law_taken" s_l_taken f fd) (B : Tp mg) : FnOk P w K mg base CX0 1 f fd ["_law_row", "_law_many"] (spTaken K) := by
  refine F.ok sc_l_taken (fun vs H Q E h => ?_) (fun cdv A outer s H vs Q E hr h => ?_)
  · obtain ⟨row, S, ns, a, b, c, many, rfl, _⟩ := h; rfl
  · obtain ⟨row, S, ns, a, b, c, many, rfl, R, m0, m1, q⟩ := h
    refine ⟨_, (pss_cons (ps_if (pt_cmpR op_gt (pe_ix (ixL K rfl) (pv 0) pe_int (fun _ _ => rfl)) pe_int (nomark _))
      (pss_cons (ps_set (i := 2) sc_l_taken.nd rfl (.inl rfl) (pe_op op_mod (pe_callTy intK (by rfl) B.int bt_int (pa_cons (pe_ix (ixL K rfl) (pv 0) pe_int (fun _ _ => rfl)) pa_nil)) (pv 1)))
      (pss_cons (ps_asg (pe_op op_fdiv (pe_ix (ixL K rfl) (pv 0) pe_int (fun _ _ => rfl)) (pv 1)) (pg_sub (pv 0) pe_int set_list))
      (pss_one (ps_ret (pv 2))))) pss_nil)
      (pss_cons (ps_asg (pe_op op_add (pe_ix (ixL K rfl) (pv 0) pe_int (fun _ _ => rfl)) pe_int) (pg_sub (pv 0) pe_int set_list))
      (pss_cons (ps_if (pt_cmpR op_gt (pe_ix (ixL K rfl) (pv 0) pe_int (fun _ _ => rfl)) (pe_callB (lenK K rfl) (by rfl) B.len bt_len (pa_cons (pe_ix (ixL K rfl) (pv 0) pe_int (fun _ _ => rfl)) pa_nil)) (nomark _))
      (pss_cons (ps_asg (pe_op op_mod (pe_callTy intK (by rfl) B.int bt_int (pa_cons (pe_op op_add (pe_op op_mul (pe_ix (ixL K rfl) (pv 0) pe_int (fun _ _ => rfl)) pe_int) pe_int) pa_nil)) pe_int) (pg_sub (pv 0) pe_int set_list))
      (pss_one (ps_ret (pe_op op_mod (pe_callTy intK (by rfl) B.int bt_int (pa_cons (pe_op op_fdiv (pe_ix (ixL K rfl) (pv 0) pe_int (fun _ _ => rfl)) pe_int) pa_nil)) (pv 1))))) pss_nil)
      (pss_cons (ps_set (i := 3) sc_l_taken.nd rfl (.inl rfl) (pe_ix (ixL K rfl) (pe_ix (ixL K rfl) (pv 0) pe_int (fun _ _ => rfl)) (pe_op op_sub (pe_ix (ixL K rfl) (pv 0) pe_int (fun _ _ => rfl)) pe_int) (fun _ _ => rfl)))
      (pss_cons (ps_asg (pe_op op_mod (pe_callTy intK (by rfl) B.int bt_int (pa_cons (pe_op op_add (pe_op op_add (pe_op op_mul (pe_ix (ixL K rfl) (pv 0) pe_int (fun _ _ => rfl)) pe_int) (pv 3)) pe_int) pa_nil)) pe_int) (pg_sub (pv 0) pe_int set_list))
      (pss_cons (ps_if (pt_cmpR op_ge (pv 3) (pe_op op_pow pe_int pe_int) (nomark _))
      (pss_one (ps_asg (pe_op op_fdiv (pv 3) (pv 1)) (pg_sub (pv 0) pe_int set_list))) pss_nil)
      (pss_one (ps_ret (pe_op op_mod (pe_callTy intK (by rfl) B.int bt_int (pa_cons (pv 3) pa_nil)) (pv 1)))))))))), ?_⟩
    have hdiv : CDiv c many := ⟨m0, by omega⟩
    have hrow := R.at_
    refine q_when (b := decide (0 < c)) (et_test (ev_op (ev_row (i := 3) hrow rfl rfl) ev_c rv_I0)) (fun hb H1 e1 => ?_) (fun hb H1 e1 => ?_)
    · refine q_asg (v := .int (c % many)) (ev_op (ev_int1 (ev_row (i := 3) (e1 _ _ hrow) rfl rfl)) (ev_var rfl) (rv_I m0)) fun H2 e2 => ?_
      have e12 := e1.trans e2
      refine q_setL (j := 3) (e12 _ _ hrow) (ev_op (ev_row (i := 3) (e12 _ _ hrow) rfl rfl) (ev_var rfl) (rv_I hdiv)) (ev_var rfl) ev_c (by simp) fun H3 e3 => ?_
      refine s_ret (ev_var rfl) fun H4 e4 => ?_
      have eB : ExB row H H4 := (ExB.row (.of (e12.trans e3))).trans (.of e4)
      exact q _ a b (c / many) H4 (Int.emod_nonneg _ (by omega)) (Int.emod_lt_of_pos _ m0) (R.next eB (e4 _ _ upd_same) R.pos R.st) eB
    · have r1 := e1 _ _ hrow
      refine q_setL (v := .int (a + 1)) (j := 1) r1 (ev_op (ev_row (i := 1) r1 rfl rfl) ev_c rv_I0) (ev_var rfl) ev_c (by simp) fun H2 e2 => ?_
      have eB2 : ExB row H (upd H2 row (rowL S (a + 1) b c)) := ExB.row (.of (e1.trans e2))
      have R2 : RowIn K (upd H2 row (rowL S (a + 1) b c)) row S ns (a + 1) b c := R.next eB2 upd_same (by have := R.pos; omega) R.st
      generalize hH : upd H2 row (rowL S (a + 1) b c) = HH at eB2 R2
      have hH' : upd H2 row (.lst ([V.ref S, V.int a, V.int b, V.int c].set 1 (V.int (a + 1)))) = HH := hH
      rw [hH']
      clear hH hH'
      have r2 := R2.at_
      have hlen : ((ns.map V.int).length : Int) = (ns.length : Int) := by rw [List.length_map]
      refine q_when (b := decide ((ns.length : Int) < a + 1)) (et_test (ev_op (ev_row (i := 1) r2 rfl rfl) (ev_is (ev_len (K := K) (ev_row (i := 0) r2 rfl rfl) (R2.scr _ (.refl _ _))) (by rw [hlen])) rv_I0)) (fun hb H3 e3 => ?_) (fun hb H3 e3 => ?_)
      · have r3 := e3 _ _ r2
        refine q_setL (v := .int ((b * 48271 + 11) % 2147483647)) (j := 2) r3 (ev_op (ev_int1 (ev_op (ev_op (ev_row (i := 2) r3 rfl rfl) ev_c (rv_I (.inr ⟨by decide, by decide⟩))) ev_c rv_I0)) ev_c (rv_I (by decide))) (ev_var rfl) ev_c (by simp) fun H4 e4 => ?_
        have eB4 : ExB row H (upd H4 row (rowL S (a + 1) ((b * 48271 + 11) % 2147483647) c)) := ExB.row (eB2.trans (.of (e3.trans e4)))
        have R4 : RowIn K (upd H4 row (rowL S (a + 1) ((b * 48271 + 11) % 2147483647) c)) row S ns (a + 1) ((b * 48271 + 11) % 2147483647) c := R.next eB4 upd_same R2.pos ⟨Int.emod_nonneg _ (by decide), Int.emod_lt_of_pos _ (by decide)⟩
        refine s_ret (ev_op (ev_int1 (ev_op (ev_row (i := 2) R4.at_ rfl rfl) ev_c (rv_I ⟨by decide, by decide⟩))) (ev_var rfl) (rv_I m0)) fun H5 e5 => ?_
        exact q _ _ _ _ H5 (Int.emod_nonneg _ (by omega)) (Int.emod_lt_of_pos _ m0) (R4.ex e5) (eB4.trans (.of e5))
      · have r3 := e3 _ _ r2
        have ha := R.pos
        have hlt : a < (ns.length : Int) := by have := of_decide_eq_false hb; omega
        have hcell : (ns.map V.int)[a.toNat]? = some (.int (ns[a.toNat]'(by omega))) := by rw [List.getElem?_map, List.getElem?_eq_getElem (by omega)]; rfl
        generalize ns[a.toNat]'(by omega) = cell at hcell
        have hat : atI (ns.map V.int) (a + 1 - 1) = some (.int cell) := at_of (j := a.toNat) (by omega) hcell
        refine q_asg (v := .int cell) (ev_op (ev_row (i := 0) r3 rfl rfl) (ev_op (ev_row (i := 1) r3 rfl rfl) ev_c rv_I0) (rv_ixL (R2.scr _ (.of e3)) hat)) fun H4 e4 => ?_
        have r4 := e4 _ _ r3
        refine q_setL (v := .int ((b * 48271 + cell + 11) % 2147483647)) (j := 2) r4 (ev_op (ev_int1 (ev_op (ev_op (ev_op (ev_row (i := 2) r4 rfl rfl) ev_c (rv_I (.inr ⟨by decide, by decide⟩))) (ev_var rfl) rv_I0) ev_c rv_I0)) ev_c (rv_I (by decide))) (ev_var rfl) ev_c (by simp) fun H5 e5 => ?_
        have eB5 : ExB row H (upd H5 row (rowL S (a + 1) ((b * 48271 + cell + 11) % 2147483647) c)) := ExB.row (eB2.trans (.of ((e3.trans e4).trans e5)))
        have R5 : RowIn K (upd H5 row (rowL S (a + 1) ((b * 48271 + cell + 11) % 2147483647) c)) row S ns (a + 1) ((b * 48271 + cell + 11) % 2147483647) c := R.next eB5 upd_same R2.pos ⟨Int.emod_nonneg _ (by decide), Int.emod_lt_of_pos _ (by decide)⟩
        generalize hH : upd H5 row (rowL S (a + 1) ((b * 48271 + cell + 11) % 2147483647) c) = HH5 at eB5 R5
        have hH' : upd H5 row (.lst ([V.ref S, V.int (a + 1), V.int b, V.int c].set 2 (V.int ((b * 48271 + cell + 11) % 2147483647)))) = HH5 := hH
        rw [hH']
        clear hH hH'
        have fin : ∀ (c' : Int) H6, RowIn K H6 row S ns (a + 1) ((b * 48271 + cell + 11) % 2147483647) c' → ExB row H H6 →
            tRet (tOp (rI (fun _ j => 0 < j) fun i j => V.int (i % j)) (tCB rInt1 (tCons (tVar 3) tNil)) (tVar 1)) { nx := fun _ H' => Q .non H', rt := Q } [some (V.ref row), some (V.int many), none, some (V.int cell)] H6 := by
          intro c' H6 R6 e6
          refine s_ret (ev_op (ev_int1 (ev_var rfl)) (ev_var rfl) (rv_I m0)) fun H7 e7 => ?_
          exact q _ _ _ _ H7 (Int.emod_nonneg _ (by omega)) (Int.emod_lt_of_pos _ m0) (R6.ex e7) (e6.trans (.of e7))
        refine q_when (b := decide ((10 : Int) ^ (18 : Int).toNat ≤ cell)) (et_test (ev_op (ev_var rfl) (ev_op ev_c ev_c (rv_I ⟨by decide, by decide, by decide⟩)) rv_I0)) (fun hb H6 e6 => ?_) (fun hb H6 e6 => ?_)
        · have r6 := e6 _ _ R5.at_
          refine s_setL (v := .int (cell / many)) (j := 3) r6 (ev_op (ev_var rfl) (ev_var rfl) (rv_I ⟨m0, by omega⟩)) (ev_var rfl) ev_c (by simp) fun H7 e7 => ?_
          have eB7 : ExB row H (upd H7 row (rowL S (a + 1) ((b * 48271 + cell + 11) % 2147483647) (cell / many))) := ExB.row (eB5.trans (.of (e6.trans e7)))
          exact fin (cell / many) _ (R.next eB7 upd_same R5.pos R5.st) eB7
        · exact fin c H6 (R5.ex e6) (eB5.trans (.of e6))
theorem ok_pick (F : Fun K "_law_pick" "_law_pick" s_l_pick f fd) (B : Tp mg) (C_l_taken : Cal P w K mg base 1 "_law_taken" ["_law_row", "_law_many"] (spTaken K)) : FnOk P w K mg base CX0 2 f fd ["_law_row", "_law_things"] (spPick K) := by
  refine F.ok sc_l_pick (fun vs H Q E h => ?_) (fun cdv A outer s H vs Q E hr h => ?_)
  · obtain ⟨row, S, L, ns, a, b, c, rfl, _⟩ := h; rfl
  · obtain ⟨row, S, L, ns, a, b, c, rfl, R, nL, hL, q⟩ := h
    refine ⟨_, (pss_one (ps_ret (pe_ix (ixL K rfl) (pv 1) (pe_cal C_l_taken hr (by decide) (by rfl) (pa_cons (pv 0) (pa_cons (pe_callB (lenK K rfl) (by rfl) B.len bt_len (pa_cons (pv 1) pa_nil)) pa_nil))) (fun _ _ => rfl)))), ?_⟩
    refine ⟨.ref L, rfl, .ref row, rfl, .ref L, rfl, L, _, rfl, .inl (sq_of hL), row, S, ns, a, b, c, 3, rfl, R, by decide, by decide, fun n a' b' c' H' h0 h3 R' e' => ?_⟩
    have hL' := e' L _ nL hL
    have hn : n = 0 ∨ n = 1 ∨ n = 2 := by omega
    rcases hn with rfl | rfl | rfl
    · exact ⟨L, _, 0, .int 3, rfl, rfl, sq_of hL', rfl, q 3 a' b' c' H' (.inl rfl) R' e'⟩
    · exact ⟨L, _, 1, .int 9, rfl, rfl, sq_of hL', rfl, q 9 a' b' c' H' (.inr (.inl rfl)) R' e'⟩
    · exact ⟨L, _, 2, .int 99, rfl, rfl, sq_of hL', rfl, q 99 a' b' c' H' (.inr (.inr rfl)) R' e'⟩
def jobV (lp : Job) : List V := [.int lp.1, .int lp.2]
theorem jobs_of {H : Hp} {J : Addr} {rs : List Addr} {js : List Job} (h : H J = some (.tup (rs.map V.ref))) (t : TupsR H rs (js.map jobV)) : JobsAt H J js := by
  refine ⟨rs, by rw [paired_len t, List.length_map], h, fun i r hr => ?_⟩
  obtain ⟨xs, hx, ht⟩ := paired_get t hr
  rw [List.getElem?_map] at hx
  obtain ⟨lp, hlp, rfl⟩ := Option.map_eq_some_iff.mp hx
  rw [ht]
  unfold jobV jl jp
  rw [List.getD_eq_getElem?_getD, hlp]
  rfl
theorem TupsR.exB {H H' : Hp} {row : Addr} {rs : List Addr} {xss : List (List V)} {ys : List V} (h : TupsR H rs xss) (e : ExB row H H') (hr : H row = some (.lst ys)) : TupsR H' rs xss :=
  Paired.mapP h fun r xs q => e r _ (ne_of q hr (by intro z; cases z)) q
theorem ok_jobs_l (F : Fun K "_law_jobs" "_law_jobs" s_l_jobs f fd) (B : Tp mg) (C_l_taken : Cal P w K mg base 1 "_law_taken" ["_law_row", "_law_many"] (spTaken K)) (C_l_pick : Cal P w K mg base 2 "_law_pick" ["_law_row", "_law_things"] (spPick K)) :
    FnOk P w K mg base CX0 3 f fd ["_law_row", "_law_most"] (spLJobs K) := by
  refine F.ok sc_l_jobs (fun vs H Q E h => ?_) (fun cdv A outer s H vs Q E hr h => ?_)
  · obtain ⟨row, S, ns, a, b, c, rfl, _⟩ := h; rfl
  · obtain ⟨row, S, ns, a, b, c, rfl, R, q⟩ := h
    refine ⟨_, (pss_cons (ps_set (i := 2) sc_l_jobs.nd rfl (.inr rfl) (pe_cal C_l_pick hr (by decide) (by rfl) (pa_cons (pv 0) (pa_cons (pe_lst (pa_cons pe_int (pa_cons pe_int (pa_cons pe_int pa_nil)))) pa_nil))))
      (pss_one (ps_ret (pe_callTy (tupK K rfl) (by rfl) B.tuple bt_tuple (pa_cons (pe_lc (own := [("_law_told", 3)]) (g := gName 3) (tt := tYes) rfl sc_l_jobs.nd (pi_range1 (by rfl) B.range (pa_cons (pe_op op_add pe_int (pe_cal C_l_taken hr (by decide) (by rfl) (pa_cons (pv 0) (pa_cons (pv 1) pa_nil)))) pa_nil)) (blkOk_by (N := ["_law_row", "_law_most", "_law_top", "_law_told"]) (sc := (defScope s_l_jobs)) (by decide +kernel)) (fun _ _ _ _ _ => pg_name (i := 3) sc_l_jobs.nd rfl (.inl rfl)) (fun _ _ _ _ _ => pts_nil) (fun _ _ _ _ _ => (pe_tup (pa_cons (pe_op op_add pe_int (pe_cal C_l_taken hr (by decide) (by rfl) (pa_cons (pv 0) (pa_cons (pv 2) pa_nil)))) (pa_cons (pe_cal C_l_taken hr (by decide) (by rfl) (pa_cons (pv 0) (pa_cons (pe_op op_add (pv 2) pe_int) pa_nil))) pa_nil))))) pa_nil))))), ?_⟩
    refine ⟨.ref row, rfl, sz_of (n := 3) (by decide), fun L nL => ?_⟩
    have e0 : Ex H (upd H L (.lst [.int 3, .int 9, .int 99])) := Ex.new nL
    refine ⟨row, S, L, ns, a, b, c, rfl, R.ex e0, (fun z => by rw [z, R.at_] at nL; cases nL), upd_same, fun top a1 b1 c1 H1 htop R1 eB1 => ?_⟩
    have E1 : ExB row H H1 := (ExB.of e0).trans eB1
    refine ⟨.ref row, rfl, .int 5, rfl, row, S, ns, a1, b1, c1, 5, rfl, R1, by decide, by decide, fun n a2 b2 c2 H2 n0 n5 R2 eB2 => ?_⟩
    have E2 := E1.trans eB2
    refine ⟨1, n, rfl, rfl, 1 + n, rfl, by omega, by omega, fun D nD => ?_⟩
    have nDr : D ≠ row := fun z => by rw [z, R2.at_] at nD; cases nD
    have htop2 : 0 < top ∧ top ≤ 99 := by omega
    refine lc_it (walk_range (lo := 0) (n := (1 + n).toNat)) (fun i H' => ∃ (rs : List Addr) (js : List Job) (a b c : Int), H' D = some (.lst (rs.map V.ref)) ∧ TupsR H' rs (js.map jobV) ∧ js.length = i ∧
      (∀ lp ∈ js, (1 ≤ lp.1 ∧ lp.1 ≤ 99) ∧ 0 ≤ lp.2 ∧ lp.2 ≤ 99) ∧ RowIn K H' row S ns a b c ∧ ExB row H H')
      ⟨[], [], a2, b2, c2, upd_same, .nil, rfl, (fun _ h => nomatch h), R2.ex (Ex.new nD), E2.trans (.of (Ex.new nD))⟩ (fun _ _ _ _ => trivial) (fun i x H3 H3' hi p y => ?_) (fun H3 p => ?_)
    · obtain ⟨rfl, rfl⟩ := y
      obtain ⟨rs, js, a3, b3, c3, hD, ht, hjl, hb, R3, E3⟩ := p
      refine ⟨rfl, ?_⟩
      refine ⟨.ref row, rfl, .int top, rfl, row, S, ns, a3, b3, c3, top, rfl, R3, by omega, by omega, fun n1 a4 b4 c4 H4 l0 l1 R4 e4 => ?_⟩
      refine ⟨1, n1, rfl, rfl, .ref row, rfl, .int top, rfl, top, 1, rfl, rfl, row, S, ns, a4, b4, c4, top + 1, rfl, R4, by omega, by omega, fun n2 a5 b5 c5 H5 k0 k1 R5 e5 => ?_⟩
      refine ⟨sz_of (n := 2) (by decide), fun p np => ?_⟩
      have e35 := e4.trans e5
      have hD5 := e35 D _ nDr hD
      have hD6 : upd H5 p (.tup [.int (1 + n1), .int n2]) D = some (.lst (rs.map V.ref)) := Ex.new np _ _ hD5
      have hl : (rs.map V.ref).length < 100000 := by rw [List.length_map, paired_len ht, List.length_map]; omega
      have nDH : H D = none := E2.free R2.at_ nD
      have EF : ExB row H (upd (upd H5 p (.tup [.int (1 + n1), .int n2])) D (.lst (rs.map V.ref ++ [.ref p]))) := ((E3.trans e35).trans (.of (Ex.new np))).mut nDH
      refine ⟨rs.map V.ref, hD6, sz_lt hl, rs ++ [p], js ++ [(1 + n1, n2)], a5, b5, c5, ?_, ?_, ?_, ?_, ?_, ?_⟩
      · rw [upd_same, List.map_append]; rfl
      · have t6 : TupsR (upd H5 p (.tup [.int (1 + n1), .int n2])) rs (js.map jobV) := (ht.exB e35 R3.at_).ex (Ex.new np)
        have t7 := paired_snoc (F := fun r xs => upd H5 p (.tup [.int (1 + n1), .int n2]) r = some (.tup xs)) (a := p) (b := jobV (1 + n1, n2)) upd_same t6
        rw [List.map_append]
        exact TupsR.upd t7 hD6
      · rw [List.length_append, hjl]; rfl
      · intro lp hlp
        rcases List.mem_append.mp hlp with z | z
        · exact hb lp z
        · rw [List.mem_singleton.mp z]
          exact ⟨⟨by show 1 ≤ 1 + n1; omega, by show 1 + n1 ≤ 99; omega⟩, k0, by show n2 ≤ 99; omega⟩
      · have r6 : upd H5 p (.tup [.int (1 + n1), .int n2]) row = some (rowL S a5 b5 c5) := Ex.new np _ _ R5.at_
        refine R.next EF ?_ R5.pos R5.st
        rw [upd_ne (Ne.symm nDr)]; exact r6
      · exact EF
    · obtain ⟨rs, js, a3, b3, c3, hD, ht, hjl, hb, R3, E3⟩ := p
      refine ⟨D, rs.map V.ref, rfl, .inl ⟨sq_of hD, fun J nJ => ?_⟩⟩
      refine q J js a3 b3 c3 _ ⟨by omega, fun i hi => ?_⟩ (jobs_of upd_same (ht.ex (Ex.new nJ))) (R3.ex (Ex.new nJ)) (E3.trans (.of (Ex.new nJ)))
      have z := hb _ (List.getElem_mem hi)
      unfold jl jp
      rw [List.getD_eq_getElem?_getD, List.getElem?_eq_getElem hi]
      exact z
end
end Sw

namespace Sw
open PySem PySem.Spec PyProof.Rows L2 Evl
abbrev s_law : Stmt := topS 32
theorem sc_law : FnScope ["_law_script", "_law_row", "_law_jobs_here", "_law_many", "_law_group_here", "_law_orders_here", "_law_due", "_law_rest", "_law_costs", "_law_told", "_law_whole", "_law_tables", "_law_place", "_law_mark"] ["_law_script"] (defScope s_law) :=
  ⟨rfl, rfl, rfl, by decide +kernel, rfl, by decide +kernel, by decide +kernel⟩
def spLaw (K : PySem.W.Frag) : Sp := fun vs H Q _ => ∃ (S : Addr) (ns : List Int), vs = [.ref S] ∧ SqL K H S (ns.map V.int) ∧ ∀ H', Q (.bl true) H'
section
variable {K : PySem.W.Frag} {σ : L2.St} {H H' : Hp} {ta tb te : TE} {D : Ends} {tz : TS} {y z : V}
theorem q_asgS {sp : Sp} {dvs vs : List V} {E : XK} {tt : TA} {i : Nat} (h : EvA tt σ H vs) (hs : ∀ H1, Ex H H1 → sp (vs ++ dvs) H1 (fun v H2 => tz D (σ.set i (some v)) H2) E) :
    tSeq (tAsg (tCall sp dvs E tt) (gName i)) tz D σ H := h H (Ex.refl H) _ hs
theorem q_raw {i : Nat} (h : te σ H fun v H1 => tz D (σ.set i (some v)) H1) : tSeq (tAsg te (gName i)) tz D σ H := h
theorem elu_is {xss yss : List (List V)} (h : EvLU te σ H xss) (e : xss = yss) : EvLU te σ H yss := e ▸ h
theorem el_cat {L : Addr} {xs ys : List V} (ha : Ev ta σ H (.ref L)) (hL : H L = some (.lst xs)) (hb : EvL tb σ H ys) (hz : xs.length + ys.length ≤ 100000) : EvL (tOp rCat ta tb) σ H (xs ++ ys) := fun H1 e Q q =>
  ha H1 e _ fun H2 e2 => hb H2 (e.trans e2) _ fun b H3 nb e3 hb3 => ⟨L, b, xs, ys, rfl, rfl, ((e.trans e2).trans e3) _ _ hL, hb3, sz_of hz,
    fun p np => q p _ (fresh_back (e2.trans e3) np) ((e2.trans e3).trans (Ex.new np)) upd_same⟩
theorem el_listT {p : Addr} {xs : List V} (ha : Ev ta σ H (.ref p)) (h : SqT K H p xs) : EvL (tCB (rListS K) (tCons ta tNil)) σ H xs := fun H1 e Q q =>
  ha H1 e _ fun H2 e2 => ⟨p, xs, rfl, Or.inr (ex_t (e.trans e2) h), fun l hl => q l _ (fresh_back e2 hl) (e2.trans (Ex.new hl)) upd_same⟩
theorem ev_cal2LU {P : List V → Hp → V → Prop} {E : XK} {xss : List (List V)} (ha : EvLU ta σ H xss) (hb : Ev tb σ H y) (hp : ∀ p rs H1, H1 p = some (.lst (rs.map V.ref)) → TupsR H1 rs xss → Ex H H1 → P [.ref p, y] H1 z) :
    Ev (tCall (spV P) [] E (tCons ta (tCons tb tNil))) σ H z := fun H1 e Q q =>
  ha H1 e _ fun p rs H2 np e2 hp2 ht => hb H2 (e.trans e2) _ fun H3 e3 => ⟨z, hp p rs H3 (e3 _ _ hp2) (ht.ex e3) ((e.trans e2).trans e3), fun H' e4 => q H' ((e2.trans e3).trans e4)⟩
end
theorem given_vi (n : Nat) (g : Nat → Nat) : given n (fun _ => true) (fun i => V.int ((g i : Nat) : Int)) = vi ((List.range n).map g) := by
  rw [given_all]
  unfold vi
  rw [List.map_map]
  rfl
theorem range_getN (o : List Nat) (h : Nat → Nat) : (List.range o.length).map (fun i => h (o.getD i 0)) = o.map h := by
  have e := congrArg (List.map h) (self_map o)
  rw [List.map_map] at e
  exact e
theorem range_getO {α : Type} (os : List (List Nat)) (h : List Nat → α) : (List.range os.length).map (fun i => h (os.getD i [])) = os.map h := by
  apply List.ext_getElem
  · simp
  · intro i h1 h2
    simp only [List.length_map] at h2
    simp [List.getD_eq_getElem?_getD, List.getElem?_eq_getElem h2]
theorem JobsAt.exB {H H' : Hp} {row J : Addr} {jobs : List Job} {ys : List V} (h : JobsAt H J jobs) (e : ExB row H H') (hr : H row = some (.lst ys)) : JobsAt H' J jobs := by
  obtain ⟨rs, h1, h2, h3⟩ := h
  exact ⟨rs, h1, e _ _ (ne_of h2 hr (by intro z; cases z)) h2, fun i r hi => e _ _ (ne_of (h3 i r hi) hr (by intro z; cases z)) (h3 i r hi)⟩
def costsOf (jobs : List Job) (grp : List Nat) (o : List Nat) : Int := costF jobs 0 (restOf jobs.length grp ++ o) - costF jobs 0 (restOf jobs.length grp)
section
variable {P : Program} {w : World} {K : PySem.W.Frag} {mg : Str → Option Value} {base : Heap} {f : Addr} {fd : FuncData}
theorem ok_law (F : Fun K "law" "law" s_law f fd) (B : Tp mg) (C_l_jobs : Cal P w K mg base 3 "_law_jobs" ["_law_row", "_law_most"] (spLJobs K)) (C_l_group : Cal P w K mg base 1 "_law_group" ["_law_mark"] (spU pLGroup))
    (C_l_taken : Cal P w K mg base 1 "_law_taken" ["_law_row", "_law_many"] (spTaken K)) (C_l_orders : Cal P w K mg base 1 "_law_orders" ["_law_many"] (spLU pOrders))
    (C_l_waits : Cal P w K mg base 1 "_law_waits" ["_law_jobs_here", "_law_order"] (spV pWaits)) (C_l_alike0 : Cal P w K mg base 1 "_law_alike" ["_law_found", "_law_due"] (spV pAlike0))
    (C_l_alike2 : Cal P w K mg base 3 "_law_alike" ["_law_found", "_law_due"] (spV pAlike2)) (C_first_cost : Cal P w K mg base 5 "first_cost" ["jobs", "group"] (spV (pGrp fun j g => .int (firstOf j g))))
    (C_last_cost : Cal P w K mg base 5 "last_cost" ["jobs", "group"] (spV (pGrp fun j g => .int (lastOf j g)))) (C_first_table : Cal P w K mg base 6 "first_table" ["jobs"] (spU (pTable fun j g => .int (firstOf j g))))
    (C_last_table : Cal P w K mg base 6 "last_table" ["jobs"] (spU (pTable fun j g => .int (lastOf j g)))) : FnOk P w K mg base CX0 7 f fd ["_law_script"] (spLaw K) := by
  refine F.ok sc_law (fun vs H Q E h => ?_) (fun cdv A outer s H vs Q E hr h => ?_)
  · obtain ⟨S, ns, rfl, _⟩ := h; rfl
  · obtain ⟨S, ns, rfl, hS, q⟩ := h
    refine ⟨_, (pss_cons (ps_set (i := 1) sc_law.nd rfl (.inl rfl) (pe_lst (pa_cons (pv 0) (pa_cons pe_int (pa_cons pe_int (pa_cons pe_int pa_nil))))))
      (pss_cons (ps_set (i := 2) sc_law.nd rfl (.inr rfl) (pe_cal C_l_jobs hr (by decide) (by rfl) (pa_cons (pv 1) (pa_cons pe_int pa_nil))))
      (pss_cons (ps_set (i := 3) sc_law.nd rfl (.inl rfl) (pe_callB (lenK K rfl) (by rfl) B.len bt_len (pa_cons (pv 2) pa_nil)))
      (pss_cons (ps_set (i := 4) sc_law.nd rfl (.inr rfl) (pe_cal C_l_group hr (by decide) (by rfl) (pa_cons (pe_cal C_l_taken hr (by decide) (by rfl) (pa_cons (pv 1) (pa_cons (pe_op op_shl pe_int (pv 3)) pa_nil))) pa_nil)))
      (pss_cons (ps_setLc (i := 5) (own := [("_law_told", 9)]) (g := gName 9) (tt := tYes) rfl sc_law.nd rfl rfl (sw_true rfl rfl rfl (by decide +kernel))  (pi_listK K rfl (pe_cal C_l_orders hr (by decide) (by rfl) (pa_cons (pe_callB (lenK K rfl) (by rfl) B.len bt_len (pa_cons (pv 4) pa_nil)) pa_nil))) (blkOk_by (N := ["_law_script", "_law_row", "_law_jobs_here", "_law_many", "_law_group_here", "_law_orders_here", "_law_due", "_law_rest", "_law_costs", "_law_told", "_law_whole", "_law_tables", "_law_place", "_law_mark"]) (sc := (defScope s_law)) (by decide +kernel)) (fun _ _ _ _ _ => pg_name (i := 9) sc_law.nd rfl (.inl rfl)) (fun _ _ _ _ _ => pts_nil) (fun _ _ _ _ _ => (pe_callTy (tupK K rfl) (by rfl) B.tuple bt_tuple (pa_cons (pe_lc (own := [("_law_place", 12)]) (g := gName 12) (tt := tYes) rfl sc_law.nd (pi_tupK K rfl (pv 9)) (blkOk_by (N := ["_law_script", "_law_row", "_law_jobs_here", "_law_many", "_law_group_here", "_law_orders_here", "_law_due", "_law_rest", "_law_costs", "_law_told", "_law_whole", "_law_tables", "_law_place", "_law_mark"]) (sc := (relS { kind := .function, names := [(PySem.Str.ofString ".0", .local), (PySem.Str.ofString "_law_told", .local), (PySem.Str.ofString "tuple", .globalImplicit), (PySem.Str.ofString "_law_group_here", .free)], isGenerator := false, isCoroutine := false, more := [] } (defScope s_law))) (by decide +kernel)) (fun _ _ _ _ _ => pg_name (i := 12) sc_law.nd rfl (.inl rfl)) (fun _ _ _ _ _ => pts_nil) (fun _ _ _ _ _ => (pe_ix (ixT K rfl) (pv 4) (pv 12) (fun _ _ => rfl)))) pa_nil))))
      (pss_cons (ps_set (i := 6) sc_law.nd rfl (.inl rfl) (pe_callB (minK K rfl rfl) (by rfl) B.min bt_min (pa_cons (pe_lc (own := [("_law_told", 9)]) (g := gName 9) (tt := tYes) rfl sc_law.nd (pi_listK K rfl (pv 5)) (blkOk_by (N := ["_law_script", "_law_row", "_law_jobs_here", "_law_many", "_law_group_here", "_law_orders_here", "_law_due", "_law_rest", "_law_costs", "_law_told", "_law_whole", "_law_tables", "_law_place", "_law_mark"]) (sc := (defScope s_law)) (by decide +kernel)) (fun _ _ _ _ _ => pg_name (i := 9) sc_law.nd rfl (.inl rfl)) (fun _ _ _ _ _ => pts_nil) (fun _ _ _ _ _ => (pe_cal C_l_waits hr (by decide) (by rfl) (pa_cons (pv 2) (pa_cons (pv 9) pa_nil))))) pa_nil)))
      (pss_cons (ps_if (pt_not (pt_val (pe_cal C_l_alike0 hr (by decide) (by rfl) (pa_cons (pe_cal C_first_cost hr (by decide) (by rfl) (pa_cons (pv 2) (pa_cons (pv 4) pa_nil))) (pa_cons (pv 6) pa_nil)))))
      (pss_one (ps_ret pe_bl)) pss_nil)
      (pss_cons (ps_setLc (i := 7) (own := [("_law_told", 9)]) (g := gName 9)  rfl sc_law.nd rfl rfl (sw_true rfl rfl rfl (by decide +kernel))  (pi_range1 (by rfl) B.range (pa_cons (pv 3) pa_nil)) (blkOk_by (N := ["_law_script", "_law_row", "_law_jobs_here", "_law_many", "_law_group_here", "_law_orders_here", "_law_due", "_law_rest", "_law_costs", "_law_told", "_law_whole", "_law_tables", "_law_place", "_law_mark"]) (sc := (defScope s_law)) (by decide +kernel)) (fun _ _ _ _ _ => pg_name (i := 9) sc_law.nd rfl (.inl rfl)) (fun _ _ _ _ _ => (pts_one (pt_cmpR (notInK K rfl) (pv 9) (pv 4) (by rfl)))) (fun _ _ _ _ _ => (pv 9)))
      (pss_cons (ps_set (i := 8) sc_law.nd rfl (.inl rfl) (pe_lst pa_nil))
      (pss_cons (ps_for PassesOwn.never rfl (pi_listK K rfl (pv 5)) (pg_name (i := 9) sc_law.nd rfl (.inl rfl))
      (pss_cons (ps_set (i := 10) sc_law.nd rfl (.inl rfl) (pe_cal C_l_waits hr (by decide) (by rfl) (pa_cons (pv 2) (pa_cons (pe_op op_cat (pv 7) (pe_callTy (lstK K rfl) (by rfl) B.list bt_list (pa_cons (pv 9) pa_nil))) pa_nil))))
      (pss_one (ps_expr (pe_bm PySem.F.plainAttrs_list PySem.F.slot_list_append PySem.F.type_list_append mt_append (pv 8) (pa_cons (pe_op op_sub (pv 10) (pe_cal C_l_waits hr (by decide) (by rfl) (pa_cons (pv 2) (pa_cons (pv 7) pa_nil)))) pa_nil))))))
      (pss_cons (ps_if (pt_not (pt_val (pe_cal C_l_alike0 hr (by decide) (by rfl) (pa_cons (pe_cal C_last_cost hr (by decide) (by rfl) (pa_cons (pv 2) (pa_cons (pv 4) pa_nil))) (pa_cons (pe_callB (minK K rfl rfl) (by rfl) B.min bt_min (pa_cons (pv 8) pa_nil)) pa_nil)))))
      (pss_one (ps_ret pe_bl)) pss_nil)
      (pss_cons (ps_set (i := 11) sc_law.nd rfl (.inl rfl) (pe_lst (pa_cons (pe_callTy (tupK K rfl) (by rfl) B.tuple bt_tuple (pa_cons (pe_lc (own := [("_law_mark", 13)]) (g := gName 13) (tt := tYes) rfl sc_law.nd (pi_range1 (by rfl) B.range (pa_cons (pe_op op_shl pe_int (pv 3)) pa_nil)) (blkOk_by (N := ["_law_script", "_law_row", "_law_jobs_here", "_law_many", "_law_group_here", "_law_orders_here", "_law_due", "_law_rest", "_law_costs", "_law_told", "_law_whole", "_law_tables", "_law_place", "_law_mark"]) (sc := (defScope s_law)) (by decide +kernel)) (fun _ _ _ _ _ => pg_name (i := 13) sc_law.nd rfl (.inl rfl)) (fun _ _ _ _ _ => pts_nil) (fun _ _ _ _ _ => (pe_cal C_first_cost hr (by decide) (by rfl) (pa_cons (pv 2) (pa_cons (pe_cal C_l_group hr (by decide) (by rfl) (pa_cons (pv 13) pa_nil)) pa_nil))))) pa_nil)) pa_nil)))
      (pss_cons (ps_expr (pe_bm PySem.F.plainAttrs_list PySem.F.slot_list_append PySem.F.type_list_append mt_append (pv 11) (pa_cons (pe_callTy (tupK K rfl) (by rfl) B.tuple bt_tuple (pa_cons (pe_lc (own := [("_law_mark", 13)]) (g := gName 13) (tt := tYes) rfl sc_law.nd (pi_range1 (by rfl) B.range (pa_cons (pe_op op_shl pe_int (pv 3)) pa_nil)) (blkOk_by (N := ["_law_script", "_law_row", "_law_jobs_here", "_law_many", "_law_group_here", "_law_orders_here", "_law_due", "_law_rest", "_law_costs", "_law_told", "_law_whole", "_law_tables", "_law_place", "_law_mark"]) (sc := (defScope s_law)) (by decide +kernel)) (fun _ _ _ _ _ => pg_name (i := 13) sc_law.nd rfl (.inl rfl)) (fun _ _ _ _ _ => pts_nil) (fun _ _ _ _ _ => (pe_cal C_last_cost hr (by decide) (by rfl) (pa_cons (pv 2) (pa_cons (pe_cal C_l_group hr (by decide) (by rfl) (pa_cons (pv 13) pa_nil)) pa_nil))))) pa_nil)) pa_nil)))
      (pss_one (ps_ret (pe_cal C_l_alike2 hr (by decide) (by rfl) (pa_cons (pe_lst (pa_cons (pe_cal C_first_table hr (by decide) (by rfl) (pa_cons (pv 2) pa_nil)) (pa_cons (pe_cal C_last_table hr (by decide) (by rfl) (pa_cons (pv 2) pa_nil)) pa_nil))) (pa_cons (pv 11) pa_nil)))))))))))))))))), ?_⟩
    -- the row of draws, the jobs
    refine q_asgL (xs := [.ref S, .int 0, .int 5262, .int 0]) (el_lst (ea_cons (ev_var rfl) (ea_cons ev_c (ea_cons ev_c (ea_cons ev_c ea_nil)))) (by simp)) fun row H1 nrow e1 hrow => ?_
    have R1 : RowIn K H1 row S ns 0 5262 0 := ⟨hrow, fun H' e' => ex_l (Ex.ofB ((ExB.of e1).trans e') nrow) hS, by decide, by decide⟩
    refine q_asgS (ea_cons (ev_var rfl) (ea_cons ev_c ea_nil)) fun H1' e1' => ⟨row, S, ns, 0, 5262, 0, rfl, R1.ex e1', fun J jobs a b c H2 hk hJ R2 E2 => ?_⟩
    have h5 := hk.few.2
    have hp2 := pow_le h5
    refine q_asg (v := .int (jobs.length : Int)) (hJ.len (ev_var rfl)) fun H3 e3 => ?_
    -- the group
    refine q_raw ?_
    refine ⟨.ref row, rfl, ev_pow (n := jobs.length) h5 (ev_var rfl) H3 (Ex.refl _) _ fun H4 e4 => ⟨row, S, ns, a, b, c, _, rfl, R2.ex (e3.trans e4), ?_, ?_, fun n a' b' c' H5 n0 n1 R5 E5 => ?_⟩⟩
    · exact Int.natCast_pos.mpr (Nat.pow_pos (by decide))
    · exact Int.ofNat_le.mpr (Nat.le_trans hp2 (by decide))
    obtain ⟨m, rfl⟩ := Int.eq_ofNat_of_zero_le n0
    have hm : m < 2 ^ jobs.length := Int.ofNat_lt.mp n1
    obtain ⟨m32, gl, gp, gx⟩ := bits_ok h5 hm
    have gl5 : (bits10 m).length ≤ 5 := bits_len ⟨m, m32⟩
    have hJ5 : JobsAt H5 J jobs := (hJ.ex (e3.trans e4)).exB E5 (R2.ex (e3.trans e4)).at_
    refine ⟨vi (bits10 m), ⟨m, m32, rfl, rfl⟩, fun G H6 nG e6 hG => ?_⟩
    have hJ6 := hJ5.ex e6
    clear R1 R2 R5 E2 E5 hJ hJ5 e4 e3 e6 nG
    generalize hgrp : bits10 m = grp at *
    have gpos : ∀ x ∈ grp, 0 < jl jobs x := fun x hx => by have := (hk.size x (gx x hx)).1; omega
    have hos : ∀ o ∈ ordersOf grp, ∀ x ∈ o, x < jobs.length := fun o ho x hx => gx x ((orders_perm grp gl5 o ho).mem_iff.mp hx)
    have hon : (ordK grp.length grp.length).length ≤ 3125 := Nat.le_trans (ordK_len _ gl5 _) (Nat.pow_le_pow_right (by decide) gl5)
    have hol : (ordersOf grp).length = (ordK grp.length grp.length).length := by unfold ordersOf; rw [List.length_map]
    have hvl : ((vi grp).length : Int) = (grp.length : Int) := by rw [vi_len]
    -- its orders
    refine q_asgLU (xss := (ordersOf grp).map vi) ?_ fun O rs H7 nO e7 hO hT => ?_
    · refine elu_is (elu_lcLU (xss := (ordK grp.length grp.length).map vi) (fun i => vi (((ordK grp.length grp.length).getD i []).map fun p => grp.getD p 0)) (elu_cal (ea_cons (ev_is (ev_lenT (ev_var rfl) (st_of hG)) (by rw [hvl])) ea_nil) fun _ _ => ⟨grp.length, gl5, rfl, rfl⟩)
        (by rw [List.length_map]; omega) (fun _ => rfl) (fun _ _ => et_yes) (fun i r xs H7 e7 hx hr => ?_)) ?_
      · rw [List.getElem?_map] at hx
        obtain ⟨o, ho, rfl⟩ := Option.map_eq_some_iff.mp hx
        rw [getD_of ho]
        have hom := ord_items _ _ o (List.mem_of_getElem? ho)
        refine eu_tupleN (el_is (el_lcT (fun _ => true) (fun j => .int ((grp.getD (o.getD j 0) 0 : Nat) : Int)) (ev_var rfl) (st_of hr) (by rw [vi_len]; omega) (fun _ => rfl) (fun _ _ _ _ _ => et_yes) (fun j x H8 e8 hj _ => ?_)) ?_)
        · obtain ⟨p, hp, rfl⟩ := vi_get hj
          have hpl : p < grp.length := hom.2 p (List.mem_of_getElem? hp)
          have ep : o.getD j 0 = p := by rw [List.getD_eq_getElem?_getD, hp]; rfl
          rw [ep]
          refine ev_op (ev_var rfl) (ev_var rfl) (rv_ixT (st_of (e8 _ _ (e7 _ _ hG))) (atI_nat (vi_at ?_)))
          rw [List.getD_eq_getElem?_getD, List.getElem?_eq_getElem hpl]; rfl
        · rw [given_vi, vi_len, range_getN o fun p => grp.getD p 0]
      · rw [List.length_map, range_getO (ordK grp.length grp.length) fun o => vi (o.map fun p => grp.getD p 0)]
        unfold ordersOf
        rw [List.map_map]
        rfl
    have hrl : (rs.map V.ref).length = (ordersOf grp).length := by rw [List.length_map, paired_len hT, List.length_map]
    have item : ∀ {i : Nat} {x : V}, (rs.map V.ref)[i]? = some x → ∃ r o, x = .ref r ∧ (ordersOf grp)[i]? = some o ∧ H7 r = some (.tup (vi o)) := by
      intro i x hi
      rw [List.getElem?_map] at hi
      obtain ⟨r, hr1, rfl⟩ := Option.map_eq_some_iff.mp hi
      obtain ⟨xs, hxs, hrt⟩ := paired_get hT hr1
      rw [List.getElem?_map] at hxs
      obtain ⟨o, ho, rfl⟩ := Option.map_eq_some_iff.mp hxs
      exact ⟨r, o, rfl, ho, hrt⟩
    have hJ7 := hJ6.ex e7
    have hG7 := e7 _ _ hG
    obtain ⟨fm, fl⟩ := first_least jobs grp gpos gl5
    obtain ⟨lm, ll⟩ := last_least jobs (restOf jobs.length grp) grp gpos gl5
    -- the least cost ahead
    refine q_asg (v := .int (firstOf jobs grp)) (ev_minN (ns := (ordersOf grp).map (costF jobs 0)) (el_is (el_lcL (xs := rs.map V.ref) (fun _ => true) (fun i => .int (costF jobs 0 ((ordersOf grp).getD i []))) (ev_var rfl) (sq_of hO) (by omega) (fun _ => rfl) (fun _ _ _ _ _ => et_yes) (fun i x H8 e8 hi _ => ?_)) ?_) fm fl) fun H8 e8 => ?_
    · obtain ⟨r, o, rfl, ho, hrt⟩ := item hi
      rw [getD_of ho]
      exact ev_cal (ea_cons (ev_var rfl) (ea_cons (ev_var rfl) ea_nil)) fun H9 e9 => ⟨J, r, jobs, o, rfl, hJ7.ex (e8.trans e9), hk, .inr (e9 _ _ (e8 _ _ hrt)), hos o (List.mem_of_getElem? ho), rfl⟩
    · rw [given_ints, hrl, range_getO (ordersOf grp) (costF jobs 0)]
    refine q_pass (et_not (a := true) (et_B (ev_cal (ea_cons (ev_cal (ea_cons (ev_var rfl) (ea_cons (ev_var rfl) ea_nil)) fun H9 e9 => ⟨J, G, jobs, grp, rfl, hJ7.ex (e8.trans e9), hk, e9 _ _ (e8 _ _ hG7), gl, gp, gx, rfl⟩) (ea_cons (ev_var rfl) ea_nil)) fun _ _ => ⟨_, rfl, rfl⟩))) fun H9 e9 => ?_
    -- the least cost behind
    have e79 := e8.trans e9
    have restx : ∀ x ∈ restOf jobs.length grp, x < jobs.length := restOf_lt
    have restl := restOf_len jobs.length grp
    refine q_asgL (xs := vi (restOf jobs.length grp)) (el_is (el_lcR1 (n := (jobs.length : Int)) (fun t => !grp.contains t) (fun t => .int (t : Int)) (ea_cons (ev_var rfl) ea_nil) (by omega) (fun _ => rfl) (fun t H10 e10 _ => ?_) (fun t H10 e10 _ _ => ev_var rfl)) ?_) fun R H10 nR e10 hR => ?_
    · have y := et_test (ev_op (ta := tVar 9) (tb := tVar 4) (σ := (wipe [some (V.ref S), some (V.ref row), some (V.ref J), some (V.int (jobs.length : Int)), some (V.ref G), some (V.ref O), some (V.int (firstOf jobs grp)), none, none, none, none, none, none, none] [9]).set 9 (some (V.int (t : Int)))) (H := H10) (ev_var rfl) (ev_var rfl) (rv_niT (K := K) (st_of (e10 _ _ (e79 _ _ hG7))) rfl (vi_flat grp)))
      rw [vi_in] at y
      exact y
    · rw [Int.toNat_natCast]
      rfl
    refine q_asgL (xs := []) (el_lst ea_nil (Nat.zero_le _)) fun C H11 nC e11 hC => ?_
    have e711 := (e79.trans e10).trans e11
    have e1011 : Ex H10 H11 := e11
    refine q_forLn (xs := rs.map V.ref) (ev_var rfl) (sq_of (e711 _ _ hO)) (fun i σ' H' => Ex H10 H' ∧ H' C = some (.lst ((((ordersOf grp).take i).map (costsOf jobs grp)).map V.int)) ∧
      ∃ x y, σ' = [some (.ref S), some (.ref row), some (.ref J), some (.int (jobs.length : Int)), some (.ref G), some (.ref O), some (.int (firstOf jobs grp)), some (.ref R), some (.ref C), x, y, none, none, none])
      (fun H12 e12 => ⟨e11.trans e12, e12 _ _ hC, _, _, rfl⟩) (fun _ _ _ _ p => sq_of (p.1 _ _ ((e79.trans e10) _ _ hO))) (fun i x σ' H' hi p => ?_) (fun σ' H' p => ?_)
    · obtain ⟨ex, hC', u1, u2, rfl⟩ := p
      obtain ⟨r, o, rfl, ho, hrt⟩ := item hi
      have e7' := (e79.trans e10).trans ex
      have hox := hos o (List.mem_of_getElem? ho)
      have hol5 : o.length ≤ 5 := by rw [(orders_perm grp gl5 o (List.mem_of_getElem? ho)).length_eq]; exact gl5
      have hro : ∀ x ∈ restOf jobs.length grp ++ o, x < jobs.length := fun x hx => (List.mem_append.mp hx).elim (restx x) (hox x)
      refine q_asg (v := .int (costF jobs 0 (restOf jobs.length grp ++ o))) (ev_cal2L (xs := vi (restOf jobs.length grp ++ o)) (ev_var rfl) (el_is (el_cat (ev_var rfl) (ex _ _ hR) (el_listT (ev_var rfl) (st_of (e7' _ _ hrt))) ?_) ?_)
        fun p H12 hp e12 => ⟨J, p, jobs, _, rfl, hJ7.ex (e7'.trans e12), hk, .inl hp, hro, rfl⟩) fun H12 e12 => ?_
      · rw [vi_len, vi_len]; omega
      · unfold vi; rw [List.map_append]
      have htl : (((ordersOf grp).take i).map (costsOf jobs grp)).length ≤ 3125 := by
        rw [List.length_map]
        refine Nat.le_trans (List.length_take_le' _ _) ?_
        omega
      refine s_app (e12 _ _ hC') (ev_var rfl) (ev_op (ev_var rfl) (ev_cal (ea_cons (ev_var rfl) (ea_cons (ev_var rfl) ea_nil)) fun H13 e13 => ⟨J, R, jobs, restOf jobs.length grp, rfl, hJ7.ex ((e7'.trans e12).trans e13), hk, .inl (e13 _ _ (e12 _ _ (ex _ _ hR))), restx, rfl⟩) rv_I0) (by rw [List.length_map]; omega) fun H13 e13 => ?_
      refine ⟨Ex.mut ((ex.trans e12).trans e13) nC, ?_, _, _, rfl⟩
      rw [upd_same, takeL ho, List.map_append, List.map_append]
      rfl
    · obtain ⟨ex, hC', u1, u2, rfl⟩ := p
      rw [hrl, List.take_length] at hC'
      have e7' := (e79.trans e10).trans ex
      refine q_pass (et_not (a := true) (et_B (ev_cal (ea_cons (ev_cal (ea_cons (ev_var rfl) (ea_cons (ev_var rfl) ea_nil)) fun H12 e12 => ⟨J, G, jobs, grp, rfl, hJ7.ex (e7'.trans e12), hk, e12 _ _ (e7' _ _ hG7), gl, gp, gx, rfl⟩)
        (ea_cons (ev_minL (m := lastOf jobs grp) (ev_var rfl) (sq_of hC') lm ll) ea_nil)) fun _ _ => ⟨_, rfl, rfl⟩))) fun H12 e12 => ?_
      have e712 := e7'.trans e12
      -- the tables
      have row1 : ∀ (z : List Job → List Nat → Int), List.map (fun m => V.int (z jobs (bits10 m))) (List.range (2 ^ jobs.length)) = ((List.range (2 ^ jobs.length)).map fun m => z jobs (bits10 m)).map V.int := fun z => by rw [List.map_map]; rfl
      have hnat : (((2 ^ jobs.length : Nat) : Int)).toNat = 2 ^ jobs.length := Int.toNat_natCast _
      refine q_asgLU (xss := [((List.range (2 ^ jobs.length)).map fun m => firstOf jobs (bits10 m)).map V.int]) (elu_one (eu_tupleN (el_is (el_lcR1 (n := ((2 ^ jobs.length : Nat) : Int)) (fun _ => true) (fun m => .int (firstOf jobs (bits10 m))) (ea_cons (ev_pow h5 (ev_var rfl)) ea_nil)
        ⟨Int.natCast_nonneg _, Int.ofNat_le.mpr (Nat.le_trans hp2 (by decide))⟩ (fun _ => rfl) (fun _ _ _ _ => et_yes) (fun k H13 e13 hk' _ => ?_)) ?_))) fun T rs2 H13 nT e13 hTl hTt => ?_
      · obtain ⟨k32, kl, kp, kx⟩ := bits_ok h5 (Int.ofNat_lt.mp hk')
        refine ev_cal2U (xs := vi (bits10 k)) (ev_var rfl) (eu_cal (ea_cons (ev_var rfl) ea_nil) fun _ _ => ⟨k, k32, rfl, rfl⟩) fun p H14 hp e14 => ?_
        exact ⟨J, p, jobs, bits10 k, rfl, hJ7.ex ((e712.trans e13).trans e14), hk, hp, kl, kp, kx, rfl⟩
      · rw [given_ints, hnat]
      have hrs2 : rs2.length = 1 := paired_len hTt
      refine q_appU (ys := ((List.range (2 ^ jobs.length)).map fun m => lastOf jobs (bits10 m)).map V.int) hTl (ev_var rfl) (eu_tupleN (el_is (el_lcR1 (n := ((2 ^ jobs.length : Nat) : Int)) (fun _ => true) (fun m => .int (lastOf jobs (bits10 m))) (ea_cons (ev_pow h5 (ev_var rfl)) ea_nil)
        ⟨Int.natCast_nonneg _, Int.ofNat_le.mpr (Nat.le_trans hp2 (by decide))⟩ (fun _ => rfl) (fun _ _ _ _ => et_yes) (fun k H14 e14 hk' _ => ?_)) ?_)) (by rw [List.length_map]; omega) fun t2 H14 nt2 e14 ht2 => ?_
      · obtain ⟨k32, kl, kp, kx⟩ := bits_ok h5 (Int.ofNat_lt.mp hk')
        refine ev_cal2U (xs := vi (bits10 k)) (ev_var rfl) (eu_cal (ea_cons (ev_var rfl) ea_nil) fun _ _ => ⟨k, k32, rfl, rfl⟩) fun p H15 hp e15 => ?_
        exact ⟨J, p, jobs, bits10 k, rfl, hJ7.ex (((e712.trans e13).trans e14).trans e15), hk, hp, kl, kp, kx, rfl⟩
      · rw [given_ints, hnat]
      have hTt2 : TupsR (upd H14 T (.lst (rs2.map V.ref ++ [.ref t2]))) (rs2 ++ [t2]) [((List.range (2 ^ jobs.length)).map fun m => firstOf jobs (bits10 m)).map V.int, ((List.range (2 ^ jobs.length)).map fun m => lastOf jobs (bits10 m)).map V.int] :=
        TupsR.upd (paired_snoc (F := fun r xs => H14 r = some (.tup xs)) ht2 (hTt.ex e14)) (e14 _ _ hTl)
      have hT2 : upd H14 T (.lst (rs2.map V.ref ++ [.ref t2])) T = some (.lst ((rs2 ++ [t2]).map V.ref)) := by rw [upd_same, List.map_append]; rfl
      have e714 : Ex H7 (upd H14 T (.lst (rs2.map V.ref ++ [.ref t2]))) := Ex.mut ((e712.trans e13).trans e14) (fresh_back e712 nT)
      generalize upd H14 T (.lst (rs2.map V.ref ++ [.ref t2])) = HT at hTt2 hT2 e714
      refine s_ret (v := .bl true) ?_ fun H15 e15 => q H15
      refine ev_cal2LU (xss := [((List.range (2 ^ jobs.length)).map fun m => firstOf jobs (bits10 m)).map V.int, ((List.range (2 ^ jobs.length)).map fun m => lastOf jobs (bits10 m)).map V.int]) ?_ (ev_var rfl) fun p rs3 H15 hp hr3 e15 => ?_
      · rw [← row1 fun j g => firstOf j g, ← row1 fun j g => lastOf j g]
        exact elu_two (eu_cal (ea_cons (ev_var rfl) ea_nil) fun H15 e15 => ⟨J, jobs, rfl, hJ7.ex (e714.trans e15), hk, rfl⟩) (eu_cal (ea_cons (ev_var rfl) ea_nil) fun H15 e15 => ⟨J, jobs, rfl, hJ7.ex (e714.trans e15), hk, rfl⟩)
      · refine ⟨p, T, rs3, rs2 ++ [t2], [(List.range (2 ^ jobs.length)).map fun m => firstOf jobs (bits10 m), (List.range (2 ^ jobs.length)).map fun m => lastOf jobs (bits10 m)], rfl, hp, e15 _ _ hT2, hr3, hTt2.ex e15, by simp, fun l hl => ?_, rfl⟩
        have hll : l.length = 2 ^ jobs.length := by
          rcases List.mem_cons.mp hl with rfl | hl
          · rw [List.length_map, List.length_range]
          · rw [List.mem_singleton.mp hl, List.length_map, List.length_range]
        rw [hll]
        exact Nat.le_trans hp2 (by decide)
end
end Sw

namespace Sw
open PySem PySem.Spec PyProof.Rows L2 Evl
/-- a def of the text, as the top has left it -/
structure DefIn (K : PySem.W.Frag) (x : Str) (st : Stmt) : Prop where
  ex : ∃ (f : Addr) (oc : Value) (od : Option Addr) (kV dc pm : Value) (an : Option Addr) (cd ct : Value) (sl : Array (Option Value)),
    PySem.W.nsIn K mainGlobals x = some (some (.ref f)) ∧
    K.lookup f = some ⟨oc, od, .func (PySem.W.fnOf x x (defArgs st) (defBody st) (defScope st) .none kV dc pm an cd ct), sl⟩ ∧
    PySem.W.codeIn K cd x = true ∧ PySem.W.keepIn K (.ref f) = true
theorem def_in {K : PySem.W.Frag} {x : Str} {st : Stmt} {f : Addr} {oc : Value} {od : Option Addr} {kV dc pm : Value} {an : Option Addr} {cd ct : Value} {sl : Array (Option Value)}
    (a : PySem.W.nsIn K mainGlobals x = some (some (.ref f)))
    (l : K.lookup f = some ⟨oc, od, .func (PySem.W.fnOf x x (defArgs st) (defBody st) (defScope st) .none kV dc pm an cd ct), sl⟩)
    (c : PySem.W.codeIn K cd x = true) (k : PySem.W.keepIn K (.ref f) = true) : DefIn K x st := ⟨f, oc, od, kV, dc, pm, an, cd, ct, sl, a, l, c, k⟩
theorem cal_of {P : Program} {w : World} {K : PySem.W.Frag} {mg : Str → Option Value} {base h : Heap} {k : Nat} {x : Str} {st : Stmt} {ps : List Str} {sp : Sp} (X : K.In h) (G : h.Ns mainGlobals mg) (D : DefIn K x st)
    (ok : ∀ f fd, Fun K x x st f fd → FnOk P w K mg base CX0 k f fd ps sp)
    (hb : ∀ (kV doc pm : Value) (an : Option Addr) (cdv ct : Value) (us : List Value), us.length = ps.length → bindArgs (PySem.W.fnOf x x (defArgs st) (defBody st) (defScope st) .none kV doc pm an cdv ct) ⟨us, []⟩ = pure (ps.zip us)) :
    Cal P w K mg base k x ps sp := by
  obtain ⟨f, oc, od, kV, dc, pm, an, cd, ct, sl, a, l, c, kp⟩ := D.ex
  have F := fun_mk (st := st) l c kp
  exact ⟨f, _, ok _ _ F, F.binds hb, PySem.W.mg_of X G a, kp⟩
theorem all_mk {l : PySem.W.OpenLaw} {w : World} {K : PySem.W.Frag} {h : Heap} {mg : Str → Option Value} {fa : Addr} (X : K.In h) (G : h.Ns mainGlobals mg) (hfa : mg "law" = some (.ref fa)) (B : Tp mg)
    (D_whole : DefIn K "whole" s_whole)
    (D_within : DefIn K "within" s_within)
    (D_tuple_of : DefIn K "tuple_of" s_tuple_of)
    (D_is_rising : DefIn K "is_rising" s_is_rising)
    (D_are_members : DefIn K "are_members" s_are_members)
    (D_need_group : DefIn K "need_group" s_need_group)
    (D_group_of : DefIn K "group_of" s_group_of)
    (D_need_jobs : DefIn K "need_jobs" s_need_jobs)
    (D_cost_in : DefIn K "cost_in" s_cost_in)
    (D_sorted_jobs : DefIn K "sorted_jobs" s_sorted_jobs)
    (D_first_cost : DefIn K "first_cost" s_first_cost)
    (D_last_cost : DefIn K "last_cost" s_last_cost)
    (D_need_few : DefIn K "need_few" s_need_few)
    (D_first_table : DefIn K "first_table" s_first_table)
    (D_last_table : DefIn K "last_table" s_last_table)
    (D_l_taken : DefIn K "_law_taken" s_l_taken)
    (D_l_pick : DefIn K "_law_pick" s_l_pick)
    (D_l_jobs : DefIn K "_law_jobs" s_l_jobs)
    (D_l_group : DefIn K "_law_group" s_l_group)
    (D_l_orders : DefIn K "_law_orders" s_l_orders)
    (D_l_waits : DefIn K "_law_waits" s_l_waits)
    (D_l_alike : DefIn K "_law_alike" s_l_alike)
    (D_law : DefIn K "law" s_law)
    : ∃ fd : FuncData, (∀ (s : Shared) (v : Value), BindsTo s fd ⟨[v], []⟩ [("_law_script", v)]) ∧
      ∀ base : Heap, K.In base → base.Ns mainGlobals mg → FnOk l.prog w K mg base CX0 7 fa fd ["_law_script"] (spLaw K) := by
  obtain ⟨f, oc, od, kV, dc, pm, an, cd, ct, sl, a, lk, c, kp⟩ := D_law.ex
  have e := hfa.symm.trans (PySem.W.mg_of X G a)
  cases e
  have F := fun_mk (st := s_law) lk c kp
  refine ⟨PySem.W.fnOf "law" "law" (defArgs s_law) (defBody s_law) (defScope s_law) .none kV dc pm an cd ct, fun s v => .of_eq rfl, fun base _ _ => ?_⟩
  have C_whole : Cal l.prog w K mg base 1 "whole" ["value"] (spV pWhole) := cal_of X G D_whole (fun _ _ F => ok_whole F B) (fun _ _ _ _ _ _ us hl => match us, hl with | [_], _ => rfl)
  have C_within : Cal l.prog w K mg base 2 "within" ["value", "low", "high"] (spV pWithin) := cal_of X G D_within (fun _ _ F => ok_within F B C_whole) (fun _ _ _ _ _ _ us hl => match us, hl with | [_, _, _], _ => rfl)
  have C_tuple_of : Cal l.prog w K mg base 1 "tuple_of" ["value", "low", "high"] (spV pTupleOf) := cal_of X G D_tuple_of (fun _ _ F => ok_tuple_of F B) (fun _ _ _ _ _ _ us hl => match us, hl with | [_, _, _], _ => rfl)
  have C_is_rising : Cal l.prog w K mg base 1 "is_rising" ["value"] (spV pRising) := cal_of X G D_is_rising (fun _ _ F => ok_is_rising F B) (fun _ _ _ _ _ _ us hl => match us, hl with | [_], _ => rfl)
  have C_are_members : Cal l.prog w K mg base 3 "are_members" ["many", "value"] (spV (pMembers (.bl true))) := cal_of X G D_are_members (fun _ _ F => ok_are_members F B C_within C_is_rising) (fun _ _ _ _ _ _ us hl => match us, hl with | [_, _], _ => rfl)
  have C_need_group : Cal l.prog w K mg base 4 "need_group" ["many", "value"] (spV (pMembers .non)) := cal_of X G D_need_group (fun _ _ F => ok_need_group F B C_are_members) (fun _ _ _ _ _ _ us hl => match us, hl with | [_, _], _ => rfl)
  have C_group_of : Cal l.prog w K mg base 1 "group_of" ["mark"] (spU pGroupOf) := cal_of X G D_group_of (fun _ _ F => ok_group_of F B) (fun _ _ _ _ _ _ us hl => match us, hl with | [_], _ => rfl)
  have C_need_jobs : Cal l.prog w K mg base 3 "need_jobs" ["value"] (spV pNeedJobs) := cal_of X G D_need_jobs (fun _ _ F => ok_need_jobs F B C_tuple_of C_within) (fun _ _ _ _ _ _ us hl => match us, hl with | [_], _ => rfl)
  have C_cost_in : Cal l.prog w K mg base 1 "cost_in" ["jobs", "order"] (spV pCostIn) := cal_of X G D_cost_in (fun _ _ F => ok_cost_in F B) (fun _ _ _ _ _ _ us hl => match us, hl with | [_, _], _ => rfl)
  have C_sorted_jobs : Cal l.prog w K mg base 1 "sorted_jobs" ["jobs", "group"] (spN pSorted) := cal_of X G D_sorted_jobs (fun _ _ F => ok_sorted_jobs F B) (fun _ _ _ _ _ _ us hl => match us, hl with | [_, _], _ => rfl)
  have C_first_cost : Cal l.prog w K mg base 5 "first_cost" ["jobs", "group"] (spV (pGrp fun j g => .int (firstOf j g))) := cal_of X G D_first_cost (fun _ _ F => ok_first_cost F B C_need_jobs C_need_group C_cost_in C_sorted_jobs) (fun _ _ _ _ _ _ us hl => match us, hl with | [_, _], _ => rfl)
  have C_last_cost : Cal l.prog w K mg base 5 "last_cost" ["jobs", "group"] (spV (pGrp fun j g => .int (lastOf j g))) := cal_of X G D_last_cost (fun _ _ F => ok_last_cost F B C_need_jobs C_need_group C_cost_in C_sorted_jobs) (fun _ _ _ _ _ _ us hl => match us, hl with | [_, _], _ => rfl)
  have C_need_few : Cal l.prog w K mg base 4 "need_few" ["jobs"] (spV pNeedJobs) := cal_of X G D_need_few (fun _ _ F => ok_need_few F B C_need_jobs) (fun _ _ _ _ _ _ us hl => match us, hl with | [_], _ => rfl)
  have C_first_table : Cal l.prog w K mg base 6 "first_table" ["jobs"] (spU (pTable fun j g => .int (firstOf j g))) := cal_of X G D_first_table (fun _ _ F => ok_first_table F B C_need_few C_group_of C_first_cost) (fun _ _ _ _ _ _ us hl => match us, hl with | [_], _ => rfl)
  have C_last_table : Cal l.prog w K mg base 6 "last_table" ["jobs"] (spU (pTable fun j g => .int (lastOf j g))) := cal_of X G D_last_table (fun _ _ F => ok_last_table F B C_need_few C_group_of C_last_cost) (fun _ _ _ _ _ _ us hl => match us, hl with | [_], _ => rfl)
  have C_l_taken : Cal l.prog w K mg base 1 "_law_taken" ["_law_row", "_law_many"] (spTaken K) := cal_of X G D_l_taken (fun _ _ F => ok_taken F B) (fun _ _ _ _ _ _ us hl => match us, hl with | [_, _], _ => rfl)
  have C_l_pick : Cal l.prog w K mg base 2 "_law_pick" ["_law_row", "_law_things"] (spPick K) := cal_of X G D_l_pick (fun _ _ F => ok_pick F B C_l_taken) (fun _ _ _ _ _ _ us hl => match us, hl with | [_, _], _ => rfl)
  have C_l_jobs : Cal l.prog w K mg base 3 "_law_jobs" ["_law_row", "_law_most"] (spLJobs K) := cal_of X G D_l_jobs (fun _ _ F => ok_jobs_l F B C_l_taken C_l_pick) (fun _ _ _ _ _ _ us hl => match us, hl with | [_, _], _ => rfl)
  have C_l_group : Cal l.prog w K mg base 1 "_law_group" ["_law_mark"] (spU pLGroup) := cal_of X G D_l_group (fun _ _ F => ok_l_group F B) (fun _ _ _ _ _ _ us hl => match us, hl with | [_], _ => rfl)
  have C_l_orders : Cal l.prog w K mg base 1 "_law_orders" ["_law_many"] (spLU pOrders) := cal_of X G D_l_orders (fun _ _ F => ok_l_orders F B) (fun _ _ _ _ _ _ us hl => match us, hl with | [_], _ => rfl)
  have C_l_waits : Cal l.prog w K mg base 1 "_law_waits" ["_law_jobs_here", "_law_order"] (spV pWaits) := cal_of X G D_l_waits (fun _ _ F => ok_waits F B) (fun _ _ _ _ _ _ us hl => match us, hl with | [_, _], _ => rfl)
  have C_a0 : Cal l.prog w K mg base 1 "_law_alike" ["_law_found", "_law_due"] (spV pAlike0) := cal_of X G D_l_alike (fun _ _ F => ok_alike0 F B) (fun _ _ _ _ _ _ us hl => match us, hl with | [_, _], _ => rfl)
  have C_a1 : Cal l.prog w K mg base 2 "_law_alike" ["_law_found", "_law_due"] (spV pAlike1) := cal_of X G D_l_alike (fun _ _ F => ok_alike1 F B C_a0) (fun _ _ _ _ _ _ us hl => match us, hl with | [_, _], _ => rfl)
  have C_a2 : Cal l.prog w K mg base 3 "_law_alike" ["_law_found", "_law_due"] (spV pAlike2) := cal_of X G D_l_alike (fun _ _ F => ok_alike2 F B C_a1) (fun _ _ _ _ _ _ us hl => match us, hl with | [_, _], _ => rfl)
  exact ok_law F B C_l_jobs C_l_group C_l_taken C_l_orders C_l_waits C_a0 C_a2 C_first_cost C_last_cost C_first_table C_last_table
/-- the built-in names that the text leaves alone, and its two constants -/
theorem tp_mk {K : PySem.W.Frag} {h : Heap} {mg : Str → Option Value} (X : K.In h) (G : h.Ns mainGlobals mg) {t1 t2 : Tok}
    (n_len : PySem.W.nsIn K mainGlobals "len" = some none)
    (n_isinstance : PySem.W.nsIn K mainGlobals "isinstance" = some none)
    (n_all : PySem.W.nsIn K mainGlobals "all" = some none)
    (n_sum : PySem.W.nsIn K mainGlobals "sum" = some none)
    (n_min : PySem.W.nsIn K mainGlobals "min" = some none)
    (n_int : PySem.W.nsIn K mainGlobals "int" = some none)
    (n_bool : PySem.W.nsIn K mainGlobals "bool" = some none)
    (n_str : PySem.W.nsIn K mainGlobals "str" = some none)
    (n_tuple : PySem.W.nsIn K mainGlobals "tuple" = some none)
    (n_list : PySem.W.nsIn K mainGlobals "list" = some none)
    (n_range : PySem.W.nsIn K mainGlobals "range" = some none)
    (n_enumerate : PySem.W.nsIn K mainGlobals "enumerate" = some none)
    (n_jobs : PySem.W.nsIn K mainGlobals "MOST_JOBS" = some (some (.int 7 t1))) (n_size : PySem.W.nsIn K mainGlobals "MOST_SIZE" = some (some (.int 99 t2))) : Tp mg :=
  ⟨PySem.W.mg_none_of X G n_len, PySem.W.mg_none_of X G n_isinstance, PySem.W.mg_none_of X G n_all, PySem.W.mg_none_of X G n_sum, PySem.W.mg_none_of X G n_min, PySem.W.mg_none_of X G n_int, PySem.W.mg_none_of X G n_bool, PySem.W.mg_none_of X G n_str, PySem.W.mg_none_of X G n_tuple, PySem.W.mg_none_of X G n_list, PySem.W.mg_none_of X G n_range, PySem.W.mg_none_of X G n_enumerate, ⟨t1, PySem.W.mg_of X G n_jobs⟩, ⟨t2, PySem.W.mg_of X G n_size⟩⟩
end Sw

open PySem PySem.W PyProof.Rows
set_option maxRecDepth 100000 in
set_option maxHeartbeats 0 in
theorem PySem.Challenge.cw_sharewell_k62_whole_costs_of_jobs_of_gro_holds : PySem.Challenge.rw_sharewell_k62_whole_costs_of_jobs_of_gro.Holds := by
  w_on; o_law; k_head; (case hw => w_witness2)
  k_fill
  refine L2.walk_of (l := PySem.Challenge.rw_sharewell_k62_whole_costs_of_jobs_of_gro) (n := 63) (k := 7) (x := "_law_script") (CX := fun _ => L2.CX0) (sp := fun w => Sw.spLaw _) rfl (by decide) rfl ⟨rfl, by decide, by decide⟩ (fun w h Y => PySem.W.kIn_of Y) ?F
    (fun _ _ a ns hl _ hS => ⟨a, ns, rfl, hS, fun _ => rfl⟩) (fun _ _ _ _ _ h => h)
  case F =>
    intro w mg fa h KX G hmg
    refine' Sw.all_mk KX G hmg ?B ?D0 ?D1 ?D2 ?D3 ?D4 ?D5 ?D6 ?D7 ?D8 ?D9 ?D10 ?D11 ?D12 ?D13 ?D14 ?D15 ?D16 ?D17 ?D18 ?D19 ?D20 ?D21 ?D22
    case B => (refine' Sw.tp_mk KX G ?n0 ?n1 ?n2 ?n3 ?n4 ?n5 ?n6 ?n7 ?n8 ?n9 ?n10 ?n11 ?j ?s; (case j => k_is); (case s => k_is); (case n0 => k_is); (case n1 => k_is); (case n2 => k_is); (case n3 => k_is); (case n4 => k_is); (case n5 => k_is); (case n6 => k_is); (case n7 => k_is); (case n8 => k_is); (case n9 => k_is); (case n10 => k_is); (case n11 => k_is))
    case D0 => (refine' Sw.def_in ?a ?l ?c ?k; (case a => k_is); (case l => k_is); (case c => k_is); (case k => k_is))
    case D1 => (refine' Sw.def_in ?a ?l ?c ?k; (case a => k_is); (case l => k_is); (case c => k_is); (case k => k_is))
    case D2 => (refine' Sw.def_in ?a ?l ?c ?k; (case a => k_is); (case l => k_is); (case c => k_is); (case k => k_is))
    case D3 => (refine' Sw.def_in ?a ?l ?c ?k; (case a => k_is); (case l => k_is); (case c => k_is); (case k => k_is))
    case D4 => (refine' Sw.def_in ?a ?l ?c ?k; (case a => k_is); (case l => k_is); (case c => k_is); (case k => k_is))
    case D5 => (refine' Sw.def_in ?a ?l ?c ?k; (case a => k_is); (case l => k_is); (case c => k_is); (case k => k_is))
    case D6 => (refine' Sw.def_in ?a ?l ?c ?k; (case a => k_is); (case l => k_is); (case c => k_is); (case k => k_is))
    case D7 => (refine' Sw.def_in ?a ?l ?c ?k; (case a => k_is); (case l => k_is); (case c => k_is); (case k => k_is))
    case D8 => (refine' Sw.def_in ?a ?l ?c ?k; (case a => k_is); (case l => k_is); (case c => k_is); (case k => k_is))
    case D9 => (refine' Sw.def_in ?a ?l ?c ?k; (case a => k_is); (case l => k_is); (case c => k_is); (case k => k_is))
    case D10 => (refine' Sw.def_in ?a ?l ?c ?k; (case a => k_is); (case l => k_is); (case c => k_is); (case k => k_is))
    case D11 => (refine' Sw.def_in ?a ?l ?c ?k; (case a => k_is); (case l => k_is); (case c => k_is); (case k => k_is))
    case D12 => (refine' Sw.def_in ?a ?l ?c ?k; (case a => k_is); (case l => k_is); (case c => k_is); (case k => k_is))
    case D13 => (refine' Sw.def_in ?a ?l ?c ?k; (case a => k_is); (case l => k_is); (case c => k_is); (case k => k_is))
    case D14 => (refine' Sw.def_in ?a ?l ?c ?k; (case a => k_is); (case l => k_is); (case c => k_is); (case k => k_is))
    case D15 => (refine' Sw.def_in ?a ?l ?c ?k; (case a => k_is); (case l => k_is); (case c => k_is); (case k => k_is))
    case D16 => (refine' Sw.def_in ?a ?l ?c ?k; (case a => k_is); (case l => k_is); (case c => k_is); (case k => k_is))
    case D17 => (refine' Sw.def_in ?a ?l ?c ?k; (case a => k_is); (case l => k_is); (case c => k_is); (case k => k_is))
    case D18 => (refine' Sw.def_in ?a ?l ?c ?k; (case a => k_is); (case l => k_is); (case c => k_is); (case k => k_is))
    case D19 => (refine' Sw.def_in ?a ?l ?c ?k; (case a => k_is); (case l => k_is); (case c => k_is); (case k => k_is))
    case D20 => (refine' Sw.def_in ?a ?l ?c ?k; (case a => k_is); (case l => k_is); (case c => k_is); (case k => k_is))
    case D21 => (refine' Sw.def_in ?a ?l ?c ?k; (case a => k_is); (case l => k_is); (case c => k_is); (case k => k_is))
    case D22 => (refine' Sw.def_in ?a ?l ?c ?k; (case a => k_is); (case l => k_is); (case c => k_is); (case k => k_is))

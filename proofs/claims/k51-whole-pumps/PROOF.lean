import PyProof.Rows.All
import Wide.All
import OpenK.AllK
import Wide.FinOn
import HandS.ForMost
import HandS.Nested
import HandS.EndTab
import HandS.More
import HandS.IsInst
import HandS.Flow
import HandS.Style
import HandS.Deep
import HandS.Defaults
import HandS.WideBits
import HandS.SetKeys
import KE.KDictKeyed
import PySem.Challenge.RW_triesgrow_k51_whole_pumps_from_below
import HandS.Walk
import HandS.SortKw
import PyProof.Draws
import KE.GoesMore
import KE.KMinBuiltin
import HandS.DictTup
import KE.KeyNested
import HandS.Strs
import HandS.SetFor
import PyProof.Rows.SortShellAny
import KE.KNestM
set_option Elab.async false
set_option linter.all false
set_option maxRecDepth 100000
set_option maxHeartbeats 4000000
/-! counts of ways, in plain Lean -/
namespace K51

/-! ### sums over lists -/
def sm {α : Type} (l : List α) (f : α → Nat) : Nat := (l.map f).sum
theorem sm_nil {α : Type} (f : α → Nat) : sm [] f = 0 := rfl
theorem sm_cons {α : Type} (a : α) (l : List α) (f : α → Nat) : sm (a :: l) f = f a + sm l f := by
  unfold sm
  rw [List.map_cons, List.sum_cons]
theorem sm_append {α : Type} (l r : List α) (f : α → Nat) : sm (l ++ r) f = sm l f + sm r f := by
  unfold sm
  rw [List.map_append, List.sum_append_nat]
theorem sm_congr {α : Type} {l : List α} {f g : α → Nat} (h : ∀ a ∈ l, f a = g a) : sm l f = sm l g := by
  unfold sm
  rw [List.map_congr_left h]
theorem sm_zero {α : Type} {l : List α} {f : α → Nat} (h : ∀ a ∈ l, f a = 0) : sm l f = 0 := by
  induction l with
  | nil => rfl
  | cons a l ih => rw [sm_cons, h a (List.mem_cons_self), ih fun b hb => h b (List.mem_cons_of_mem _ hb)]
theorem sm_add {α : Type} (l : List α) (f g : α → Nat) : sm l (fun a => f a + g a) = sm l f + sm l g := by
  induction l with
  | nil => rfl
  | cons a l ih => rw [sm_cons, sm_cons, sm_cons, ih]; omega
theorem sm_mul {α : Type} (l : List α) (k : Nat) (f : α → Nat) : sm l (fun a => k * f a) = k * sm l f := by
  induction l with
  | nil => rfl
  | cons a l ih => rw [sm_cons, sm_cons, ih, Nat.mul_add]
theorem sm_mulR {α : Type} (l : List α) (k : Nat) (f : α → Nat) : sm l (fun a => f a * k) = sm l f * k := by
  induction l with
  | nil => rw [sm_nil, sm_nil, Nat.zero_mul]
  | cons a l ih => rw [sm_cons, sm_cons, ih, Nat.add_mul]
theorem sm_mono {α : Type} {l : List α} {f g : α → Nat} (h : ∀ a ∈ l, f a ≤ g a) : sm l f ≤ sm l g := by
  induction l with
  | nil => exact Nat.le_refl _
  | cons a l ih =>
    rw [sm_cons, sm_cons]
    exact Nat.add_le_add (h a List.mem_cons_self) (ih fun b hb => h b (List.mem_cons_of_mem _ hb))
theorem sm_mem {α : Type} {l : List α} {f : α → Nat} {a : α} (h : a ∈ l) : f a ≤ sm l f := by
  induction l with
  | nil => cases h
  | cons b l ih =>
    rw [sm_cons]
    rcases List.mem_cons.mp h with e | e
    · rw [e]; omega
    · have := ih e; omega
theorem sm_mem2 {l : List Nat} {f : Nat → Nat} {a b : Nat} (ha : a ∈ l) (hb : b ∈ l) (n : a ≠ b) : f a + f b ≤ sm l f := by
  induction l with
  | nil => cases ha
  | cons c l ih =>
    rw [sm_cons]
    rcases List.mem_cons.mp ha with e | e
    · rcases List.mem_cons.mp hb with e' | e'
      · exact absurd (e.trans e'.symm) n
      · have := sm_mem (f := f) e'; rw [e]; omega
    · rcases List.mem_cons.mp hb with e' | e'
      · have := sm_mem (f := f) e; rw [e']; omega
      · have := ih e e'; omega
theorem sm_pos {α : Type} {l : List α} {f : α → Nat} (h : 0 < sm l f) : ∃ a ∈ l, 0 < f a := by
  induction l with
  | nil => exact absurd h (Nat.lt_irrefl _)
  | cons a l ih =>
    rw [sm_cons] at h
    by_cases e : 0 < f a
    · exact ⟨a, List.mem_cons_self, e⟩
    · obtain ⟨b, hb, q⟩ := ih (by omega)
      exact ⟨b, List.mem_cons_of_mem _ hb, q⟩
theorem sm_comm {α β : Type} (l : List α) (r : List β) (f : α → β → Nat) : sm l (fun a => sm r (f a)) = sm r (fun b => sm l (fun a => f a b)) := by
  induction l with
  | nil => rw [sm_nil]; exact (sm_zero fun _ _ => rfl).symm
  | cons a l ih =>
    rw [sm_cons, ih, ← sm_add]
    exact sm_congr fun b _ => (sm_cons a l (fun a => f a b)).symm

/-! ### steps, moving -/
abbrev Word := List Nat
abbrev Step := Nat × Nat × Nat
/-- all rooms of the steps lie below n -/
def Below (n : Nat) (S : List Step) : Prop := ∀ s ∈ S, s.1 < n ∧ s.2.2 < n
def mv (S : List Step) (c : Nat) (f : Nat → Nat) (q : Nat) : Nat := sm S fun s => if s.2.1 = c ∧ s.2.2 = q then f s.1 else 0
def mvw (S : List Step) : Word → (Nat → Nat) → Nat → Nat
  | [], f => f
  | c :: w, f => mvw S w (mv S c f)
theorem mvw_nil (S : List Step) (f : Nat → Nat) : mvw S [] f = f := rfl
theorem mvw_cons (S : List Step) (c : Nat) (w : Word) (f : Nat → Nat) : mvw S (c :: w) f = mvw S w (mv S c f) := rfl
theorem mvw_append (S : List Step) : ∀ (u v : Word) (f : Nat → Nat), mvw S (u ++ v) f = mvw S v (mvw S u f)
  | [], _, _ => rfl
  | c :: u, v, f => mvw_append S u v (mv S c f)
theorem mvw_snoc (S : List Step) (u : Word) (c : Nat) (f : Nat → Nat) : mvw S (u ++ [c]) f = mv S c (mvw S u f) := mvw_append S u [c] f
/-- 1 at p -/
def dl (p : Nat) : Nat → Nat := fun q => if p = q then 1 else 0
/-- how many ways lead by w from p to q -/
def cnt (S : List Step) (w : Word) (p q : Nat) : Nat := mvw S w (dl p) q
def rg (n : Nat) : List Nat := List.range n
theorem mem_rg {n p : Nat} : p ∈ rg n ↔ p < n := List.mem_range
theorem sm_dl {n p : Nat} (h : p < n) (g : Nat → Nat) : sm (rg n) (fun r => dl p r * g r) = g p := by
  induction n with
  | zero => exact absurd h (Nat.not_lt_zero _)
  | succ n ih =>
    unfold rg
    rw [List.range_succ, sm_append, sm_cons, sm_nil]
    by_cases e : p = n
    · have z : sm (List.range n) (fun r => dl p r * g r) = 0 := sm_zero fun a ha => by
        have : a < n := List.mem_range.mp ha
        unfold dl
        rw [if_neg (by omega), Nat.zero_mul]
      rw [z, ← e]
      unfold dl
      rw [if_pos rfl]
      omega
    · have := ih (by omega)
      unfold rg at this
      rw [this]
      unfold dl
      rw [if_neg e]
      omega
theorem mv_lin {n : Nat} {S : List Step} (hb : Below n S) (c : Nat) (f : Nat → Nat) (q : Nat) : mv S c f q = sm (rg n) fun r => f r * mv S c (dl r) q := by
  unfold mv
  have e1 : ∀ r, f r * sm S (fun s => if s.2.1 = c ∧ s.2.2 = q then dl r s.1 else 0) = sm S (fun s => if s.2.1 = c ∧ s.2.2 = q then dl r s.1 * f r else 0) := fun r => by
    rw [← sm_mul]
    refine sm_congr fun s _ => ?_
    split
    · rw [Nat.mul_comm]
    · rw [Nat.mul_zero]
  rw [sm_congr (l := rg n) fun r _ => e1 r, sm_comm]
  refine sm_congr fun s hs => ?_
  split
  · have e2 : sm (rg n) (fun r => dl r s.1 * f r) = sm (rg n) (fun r => dl s.1 r * f r) := sm_congr fun r _ => by
      unfold dl
      by_cases e : r = s.1
      · rw [if_pos e, if_pos e.symm]
      · rw [if_neg e, if_neg fun z => e z.symm]
    rw [e2, sm_dl (hb s hs).1]
  · exact (sm_zero fun _ _ => rfl).symm
theorem mvw_lin {n : Nat} {S : List Step} (hb : Below n S) : ∀ (w : Word) (f : Nat → Nat) (q : Nat), q < n → mvw S w f q = sm (rg n) fun r => f r * cnt S w r q
  | [], f, q, hq => by
    show f q = sm (rg n) fun r => f r * dl r q
    have : sm (rg n) (fun r => f r * dl r q) = sm (rg n) (fun r => dl q r * f r) := sm_congr fun r _ => by
      unfold dl
      by_cases e : r = q
      · rw [if_pos e, if_pos e.symm, Nat.mul_comm]
      · rw [if_neg e, if_neg fun z => e z.symm, Nat.mul_comm]
    rw [this, sm_dl hq]
  | c :: w, f, q, hq => by
    rw [mvw_cons, mvw_lin hb w _ q hq]
    have e1 : ∀ r, mv S c f r * cnt S w r q = sm (rg n) fun p => f p * (mv S c (dl p) r * cnt S w r q) := fun r => by
      rw [mv_lin hb c f r, ← sm_mulR]
      exact sm_congr fun p _ => Nat.mul_assoc _ _ _
    rw [sm_congr (l := rg n) fun r _ => e1 r, sm_comm]
    refine sm_congr fun p _ => ?_
    rw [sm_mul]
    show f p * _ = f p * mvw S w (mv S c (dl p)) q
    rw [mvw_lin hb w _ q hq]
/-- Chapman and Kolmogorov -/
theorem cnt_append {n : Nat} {S : List Step} (hb : Below n S) (u v : Word) (p q : Nat) (hq : q < n) : cnt S (u ++ v) p q = sm (rg n) fun r => cnt S u p r * cnt S v r q := by
  unfold cnt
  rw [mvw_append, mvw_lin hb v _ q hq]
  rfl
theorem cnt_ge {n : Nat} {S : List Step} (hb : Below n S) (u v : Word) (p q r : Nat) (hq : q < n) (hr : r < n) : cnt S u p r * cnt S v r q ≤ cnt S (u ++ v) p q := by
  rw [cnt_append hb u v p q hq]
  exact sm_mem (f := fun r => cnt S u p r * cnt S v r q) (mem_rg.mpr hr)
theorem cnt_ge2 {n : Nat} {S : List Step} (hb : Below n S) (u v : Word) (p q r t : Nat) (hq : q < n) (hr : r < n) (ht : t < n) (ne : r ≠ t) : cnt S u p r * cnt S v r q + cnt S u p t * cnt S v t q ≤ cnt S (u ++ v) p q := by
  rw [cnt_append hb u v p q hq]
  exact sm_mem2 (f := fun r => cnt S u p r * cnt S v r q) (mem_rg.mpr hr) (mem_rg.mpr ht) ne
theorem cnt_nil (S : List Step) (p q : Nat) : cnt S [] p q = if p = q then 1 else 0 := rfl
/-- a step by c -/
theorem cnt_one (S : List Step) (c p q : Nat) : cnt S [c] p q = sm S fun s => if s.2.1 = c ∧ s.2.2 = q then (if p = s.1 then 1 else 0) else 0 := rfl
theorem cnt_step {S : List Step} {c p q : Nat} (h : (p, c, q) ∈ S) : 1 ≤ cnt S [c] p q := by
  rw [cnt_one]
  refine Nat.le_trans ?_ (sm_mem (f := fun s : Step => if s.2.1 = c ∧ s.2.2 = q then (if p = s.1 then 1 else 0) else 0) h)
  show 1 ≤ if c = c ∧ q = q then (if p = p then 1 else 0) else 0
  rw [if_pos ⟨rfl, rfl⟩, if_pos rfl]
  exact Nat.le_refl _

/-! ### turned about -/
def turnS (S : List Step) : List Step := S.map fun s => (s.2.2, s.2.1, s.1)
theorem below_turn {n : Nat} {S : List Step} (hb : Below n S) : Below n (turnS S) := fun s hs => by
  obtain ⟨t, ht, e⟩ := List.mem_map.mp hs
  rw [← e]
  exact ⟨(hb t ht).2, (hb t ht).1⟩
theorem cnt_turn1 (S : List Step) (c p q : Nat) : cnt (turnS S) [c] q p = cnt S [c] p q := by
  rw [cnt_one, cnt_one]
  unfold turnS sm
  rw [List.map_map]
  congr 1
  refine List.map_congr_left fun s _ => ?_
  show (if s.2.1 = c ∧ s.1 = p then (if q = s.2.2 then 1 else 0) else 0) = if s.2.1 = c ∧ s.2.2 = q then (if p = s.1 then 1 else 0) else 0
  by_cases h1 : s.2.1 = c
  · by_cases h2 : s.1 = p
    · by_cases h3 : s.2.2 = q
      · rw [if_pos ⟨h1, h2⟩, if_pos h3.symm, if_pos ⟨h1, h3⟩, if_pos h2.symm]
      · rw [if_pos ⟨h1, h2⟩, if_neg (fun z => h3 z.symm), if_neg (fun z => h3 z.2)]
    · rw [if_neg (fun z => h2 z.2)]
      split
      · rw [if_neg (fun z => h2 z.symm)]
      · rfl
  · rw [if_neg (fun z => h1 z.1), if_neg (fun z => h1 z.1)]
theorem cnt_turn {n : Nat} {S : List Step} (hb : Below n S) : ∀ (w : Word) (p q : Nat), p < n → q < n → cnt (turnS S) w.reverse q p = cnt S w p q
  | [], p, q, _, _ => by
    rw [List.reverse_nil, cnt_nil, cnt_nil]
    by_cases e : p = q
    · rw [if_pos e, if_pos e.symm]
    · rw [if_neg e, if_neg fun z => e z.symm]
  | c :: w, p, q, hp, hq => by
    rw [List.reverse_cons, cnt_append (below_turn hb) _ _ _ _ hp, show c :: w = [c] ++ w from rfl, cnt_append hb _ _ _ _ hq]
    refine sm_congr fun r hr => ?_
    rw [cnt_turn hb w r q (mem_rg.mp hr) hq, cnt_turn1, Nat.mul_comm]

/-! ### words laid again and again -/
def rp (n : Nat) (w : Word) : Word := (List.replicate n w).flatten
theorem rp_zero (w : Word) : rp 0 w = [] := rfl
theorem rp_succ (n : Nat) (w : Word) : rp (n + 1) w = w ++ rp n w := by
  unfold rp
  rw [List.replicate_succ, List.flatten_cons]
theorem rp_snoc (n : Nat) (w : Word) : rp (n + 1) w = rp n w ++ w := by
  induction n with
  | zero => rw [rp_succ, rp_zero, List.append_nil, List.nil_append]
  | succ n ih => rw [rp_succ, ih, ← List.append_assoc, ← rp_succ, ih]
theorem rp_one (w : Word) : rp 1 w = w := by rw [rp_succ, rp_zero, List.append_nil]
theorem rp_length (n : Nat) (w : Word) : (rp n w).length = n * w.length := by
  induction n with
  | zero => rw [rp_zero, Nat.zero_mul]; rfl
  | succ n ih => rw [rp_succ, List.length_append, ih, Nat.succ_mul, Nat.add_comm]
theorem rp_reverse (n : Nat) (w : Word) : (rp n w).reverse = rp n w.reverse := by
  induction n with
  | zero => rfl
  | succ n ih => rw [rp_succ, List.reverse_append, ih, ← rp_snoc]
/-- what a round with this middle is -/
def Mid (S : List Step) (w : Word) (r o : Nat) : Prop :=
  w ≠ [] ∧ ((r = o ∧ 2 ≤ cnt S w r r) ∨ (r ≠ o ∧ 1 ≤ cnt S w r r ∧ 1 ≤ cnt S w r o ∧ 1 ≤ cnt S w o o))
/-- the least ways of a round -/
def lst1 (n : Nat) (r o : Nat) : Nat := if r = o then 2 ^ n else n
theorem mid_ge {k : Nat} {S : List Step} (hb : Below k S) {w : Word} {r o : Nat} (hr : r < k) (ho : o < k) (h : Mid S w r o) (n : Nat) : lst1 n r o ≤ cnt S (rp n w) r o := by
  obtain ⟨_, h⟩ := h
  unfold lst1
  rcases h with ⟨e, h⟩ | ⟨ne, h1, h2, h3⟩
  · subst e
    rw [if_pos rfl]
    induction n with
    | zero => rw [rp_zero, cnt_nil, if_pos rfl]; exact Nat.le_refl _
    | succ n ih =>
      rw [rp_snoc, Nat.pow_succ]
      exact Nat.le_trans (Nat.mul_le_mul ih h) (cnt_ge hb _ _ r r r hr hr)
  · rw [if_neg ne]
    have one : ∀ n, 1 ≤ cnt S (rp n w) r r := fun n => by
      induction n with
      | zero => rw [rp_zero, cnt_nil, if_pos rfl]; exact Nat.le_refl _
      | succ n ih =>
        rw [rp_snoc]
        exact Nat.le_trans (Nat.mul_le_mul ih h1) (cnt_ge hb _ _ r r r hr hr)
    induction n with
    | zero => exact Nat.zero_le _
    | succ n ih =>
      rw [rp_snoc]
      have a := Nat.mul_le_mul (one n) h2
      have b := Nat.mul_le_mul ih h3
      have c := cnt_ge2 hb (rp n w) w r o r o ho hr ho ne
      omega
theorem mid_turn {k : Nat} {S : List Step} (hb : Below k S) {w : Word} {r o : Nat} (hr : r < k) (ho : o < k) (h : Mid S w r o) : Mid (turnS S) w.reverse o r := by
  obtain ⟨h0, h⟩ := h
  refine ⟨fun z => h0 (List.reverse_eq_nil_iff.mp z), ?_⟩
  rcases h with ⟨e, h⟩ | ⟨ne, h1, h2, h3⟩
  · subst e
    exact .inl ⟨rfl, by rw [cnt_turn hb w _ _ hr hr]; exact h⟩
  · exact .inr ⟨fun z => ne z.symm, by rw [cnt_turn hb w _ _ ho ho]; exact h3, by rw [cnt_turn hb w _ _ hr ho]; exact h2, by rw [cnt_turn hb w _ _ hr hr]; exact h1⟩
end K51
/-! the ground: relations between heaps, calls by promise, machines in the heap, small rules -/
namespace K51
open PySem PySem.Spec PyProof.Rows L2 NdefX LamX

/-! ### heaps -/
/-- all that was tracked is as it was but what stands at ex and the tables of code objects -/
structure Kp (T : List NTab) (ex : List Addr) (H H' : Hp) : Prop where
  keep : ∀ b o, H b = some o → (∀ ps, o ≠ .tbl ps) → b ∉ ex → H' b = some o
  back : ∀ b, H' b = none → H b = none
  tab : TabsN T H → TabsN T H'
section
variable {T : List NTab} {ex : List Addr} {H H1 H2 H' : Hp} {p : Addr} {o u : HO}
theorem Kp.refl (H : Hp) : Kp T ex H H := ⟨fun _ _ h _ _ => h, fun _ h => h, fun h => h⟩
theorem Kp.trans (a : Kp T ex H H1) (b : Kp T ex H1 H2) : Kp T ex H H2 :=
  ⟨fun c o h n x => b.keep c o (a.keep c o h n x) n x, fun c h => a.back c (b.back c h), fun h => b.tab (a.tab h)⟩
theorem Kp.wide {ex' : List Addr} (a : Kp T ex H H1) (h : ∀ b ∈ ex, b ∈ ex') : Kp T ex' H H1 := ⟨fun c o e n x => a.keep c o e n fun z => x (h c z), a.back, a.tab⟩
theorem Kp.nil (a : Kp T [] H H1) : Kp T ex H H1 := a.wide fun _ h => nomatch h
theorem Kp.get (a : Kp T [] H H1) {b : Addr} (h : H b = some o) (n : ∀ ps, o ≠ .tbl ps := by intro _ z; cases z) : H1 b = some o := a.keep b o h n (by simp)
theorem Kp.getX (a : Kp T ex H H1) {b : Addr} (h : H b = some o) (x : b ∉ ex) (n : ∀ ps, o ≠ .tbl ps := by intro _ z; cases z) : H1 b = some o := a.keep b o h n x
theorem back_upd {p : Addr} {o : HO} {b : Addr} (h : upd H p o b = none) : H b = none := by
  by_cases e : b = p
  · rw [e, upd_same] at h; cases h
  · rw [upd_ne e] at h; exact h
theorem Kp.new (h : H p = none) : Kp T ex H (upd H p o) :=
  ⟨fun b u e _ _ => by rw [upd_ne (ne_of_none e h)]; exact e, fun _ => back_upd, fun t => t.ext fun b u e => by rw [upd_ne (ne_of_none e h)]; exact e⟩
theorem Kp.snew (a : Kp T ex H H1) (h : H1 p = none) : Kp T ex H (upd H1 p o) := a.trans (Kp.new h)
/-- an object that H does not know, or that stands at ex, is written -/
theorem Kp.mut (a : Kp T ex H H') (hp : H p = none ∨ p ∈ ex) (h : H' p = some u) (nt : ∀ ps, u ≠ .tbl ps := by intro _ z; cases z) (nc : ∀ c q, u ≠ CodeO c q := by intro _ _ z; cases z) : Kp T ex H (upd H' p o) := by
  refine ⟨fun b v e n x => ?_, fun b e => a.back b (back_upd e), fun t => ?_⟩
  · have nb : b ≠ p := fun z => by
      rcases hp with q | q
      · rw [z, q] at e; cases e
      · exact x (z ▸ q)
    rw [upd_ne nb]
    exact a.keep b v e n x
  · intro q hq
    obtain ⟨ps, h1, h2, h3⟩ := a.tab t q hq
    have n1 : q.1 ≠ p := fun z => by
      rw [z, h] at h1
      exact nt _ (Option.some.inj h1)
    refine ⟨ps, by rw [upd_ne n1]; exact h1, h2, fun pos cv hc => ?_⟩
    obtain ⟨c, e1, e2⟩ := h3 pos cv hc
    have n2 : c ≠ p := fun z => by
      rw [z, h] at e2
      exact nc _ _ (Option.some.inj e2)
    exact ⟨c, e1, by rw [upd_ne n2]; exact e2⟩
theorem Kp.free (a : Kp T ex H H1) (h : H1 p = none) : H p = none := a.back p h
end

/-! ### defs by promise -/
structure DOk (P : Program) (w : World) (K : PySem.W.Frag) (mg : Str → Option Value) (base : Heap) (x : Str) (k : Nat) (ps : List Str) (dvs : List V) (sp : Sp) : Prop where
  ex : ∃ (f : Addr) (fd : FuncData) (ds : List Value), FnOk P w K mg base CX0 k f fd ps sp ∧ mg x = some (.ref f) ∧ PySem.W.keepIn K (.ref f) = true ∧ Binds K fd ps ds ∧ Vals dvs ds
def BindsOk (st : Stmt) (x : Str) (ps : List Str) : Prop := ∀ (kV doc pm : Value) (an : Option Addr) (cdv ct : Value) (us : List Value), us.length = ps.length →
  bindArgs (PySem.W.fnOf x x (defArgs st) (defBody st) (defScope st) .none kV doc pm an cdv ct) ⟨us, []⟩ = pure (ps.zip us)
/-- a def of the text, by its name -/
structure Fn (K : PySem.W.Frag) (mg : Str → Option Value) (x : Str) (st : Stmt) : Prop where
  ex : ∃ f fd, Fun K x x st f fd ∧ mg x = some (.ref f)
section
variable {P : Program} {w : World} {K : PySem.W.Frag} {mg : Str → Option Value} {base : Heap}
theorem Fn.dok {x : Str} {st : Stmt} {N ps : List Str} {k : Nat} {sp : Sp} (F : Fn K mg x st) (S : FnScope N ps (defScope st)) (hb : BindsOk st x ps) (len : ∀ vs H Q E, sp vs H Q E → vs.length = ps.length)
    (hbody : ∀ (f : Addr) (cdv : Value) (A : Around) (outer : List Env) (s : Shared) (H : Hp) (vs : List V) (Q : VK) (E : XK), Room k (A.deeper (envOfC x (defScope st) s.heap.objs.size f cdv)) → sp vs H Q E →
      ∃ t, PSs (cxOf CX0 P w K mg base N x (defScope st) f cdv A outer s H E).nox (defBody st) t ∧ t { nx := fun _ H' => Q .non H', rt := Q } (start N vs) H) : DOk P w K mg base x (k + 1) ps [] sp := by
  obtain ⟨f, fd, F, hm⟩ := F.ex
  exact ⟨f, fd, [], F.ok S len (fun cdv A outer s H vs Q E hr h => hbody f cdv A outer s H vs Q E hr h), hm, F.kp, F.binds hb, .nil⟩
end
section
variable {X : Cx} {x : Str} {k j : Nat} {ps : List Str} {dvs : List V} {sp : Sp} {e : Expr} {es : List Expr} {t : TA} {p pos : Pos}
theorem pe_d (D : DOk X.prog X.w X.K X.mg X.base x k ps dvs sp) (hr : Room j X.A) (hg : Gl X x) (ha : PA X (e :: es) t) (hk : k ≤ j := by decide) (hdb : (x == ("__debug__" : Str)) = false := by decide)
    (he : starEach (e :: es) X.env = (false, eval e X.env) :: starEach es X.env := by rfl) (hpl : (backTo pos (starEach es X.env)).any (·.1) = false := by rfl) : PE X (.Call (.Name x p) (e :: es) [] pos) (tCall sp dvs E0 t) := by
  refine ⟨fun pins s σ H Q I h => ?_⟩
  obtain ⟨f, fd, ds, F, hm, kp, hb, hd⟩ := D.ex
  exact (pe_call F (hr.mono hk) hg hm kp hb hd pass0 ha hdb he hpl).run pins s σ H Q I h
/-- the module's constants -/
theorem pe_ki {i : Int} (hg : Gl X x) (h : ∃ t, X.mg x = some (.int i t)) (hd : (x == ("__debug__" : Str)) = false := by decide) : PE X (.Name x pos) (tC (.int i)) := by
  refine ⟨fun pins s σ H Q I q => ?_⟩
  obtain ⟨t, hm⟩ := h
  exact (pe_glob (v := .int i) hg hm ⟨t, rfl⟩ hd).run pins s σ H Q I q
theorem pe_ks {z : Str} (hg : Gl X x) (h : ∃ t, X.mg x = some (.str z t)) (hd : (x == ("__debug__" : Str)) = false := by decide) : PE X (.Name x pos) (tC (.str z)) := by
  refine ⟨fun pins s σ H Q I q => ?_⟩
  obtain ⟨t, hm⟩ := h
  exact (pe_glob (v := .str z) hg hm ⟨t, rfl⟩ hd).run pins s σ H Q I q
end
def LETS : Str := "abcdefghijklmnopqrstuvwxyz"
/-- what the module's names stand for -/
structure Txt (mg : Str → Option Value) : Prop where
  n_len : mg "len" = none
  n_isinstance : mg "isinstance" = none
  n_enumerate : mg "enumerate" = none
  n_range : mg "range" = none
  n_sum : mg "sum" = none
  n_all : mg "all" = none
  n_min : mg "min" = none
  n_max : mg "max" = none
  n_int : mg "int" = none
  n_str : mg "str" = none
  n_bool : mg "bool" = none
  n_list : mg "list" = none
  n_tuple : mg "tuple" = none
  n_set : mg "set" = none
  n_sorted : mg "sorted" = none
  c_LETTERS : ∃ t, mg "LETTERS" = some (.str LETS t)
  c_MOST_WORD : ∃ t, mg "MOST_WORD" = some (.int 400 t)
  c_MOST_ROOMS : ∃ t, mg "MOST_ROOMS" = some (.int 12 t)
  c_MOST_STEPS : ∃ t, mg "MOST_STEPS" = some (.int 200 t)
  c_MOST_ROUNDS : ∃ t, mg "MOST_ROUNDS" = some (.int 12 t)
  c_MOST_TIMES : ∃ t, mg "MOST_TIMES" = some (.int 400 t)

/-! ### values -/
abbrev ni (n : Nat) : V := .int (n : Int)
def one (c : Nat) : Str := ⟨#[c]⟩
def tx (w : List Nat) : Str := ⟨w.toArray⟩
abbrev sg (c : Nat) : V := .str (one c)
abbrev wd (w : List Nat) : V := .str (tx w)
/-- a small letter -/
def Let (c : Nat) : Prop := 97 ≤ c ∧ c ≤ 122
theorem one_inj {c d : Nat} (h : one c = one d) : c = d := by
  unfold one at h
  injection h with h
  have := congrArg Array.toList h
  simpa using this
theorem tx_inj {u v : List Nat} (h : tx u = tx v) : u = v := by
  unfold tx at h
  injection h with h
  have := congrArg Array.toList h
  simpa using this
theorem tx_len (u : List Nat) : (tx u).length = u.length := by
  show u.toArray.size = u.length
  simp
theorem tx_cps (u : List Nat) : (tx u).cps.toList = u := by
  unfold tx
  simp
theorem one_tx (c : Nat) : one c = tx [c] := rfl
theorem tx_app (u v : List Nat) : tx u ++ tx v = tx (u ++ v) := by
  show (⟨u.toArray ++ v.toArray⟩ : Str) = ⟨(u ++ v).toArray⟩
  simp
theorem tx_nil : tx [] = ("" : Str) := rfl
theorem let_mem {c : Nat} (h : Let c) : c ∈ LETS.cps.toList := by
  obtain ⟨h1, h2⟩ := h
  have e : LETS.cps.toList = [97, 98, 99, 100, 101, 102, 103, 104, 105, 106, 107, 108, 109, 110, 111, 112, 113, 114, 115, 116, 117, 118, 119, 120, 121, 122] := by decide +kernel
  rw [e]
  simp
  omega
theorem sz_ok {n : Nat} (h : n ≤ 1000000) : n ≤ sizeLine := Nat.le_trans h (by decide)
theorem sz_lt {n : Nat} (h : n ≤ 1000000) : n < sizeLine := Nat.lt_of_le_of_lt h (by decide)

/-! ### small rules by values -/
section
variable {X : Cx}
/-- xs[i], by values -/
theorem get_list : PGet X (rIxL X.K) := by
  intro pins s σ H x y v u Q I rx ry h
  obtain ⟨p, xs, i, z, rfl, rfl, hq, he, q⟩ := h
  cases rx
  obtain ⟨t, rfl⟩ := ry
  obtain ⟨its, r, pl, hz⟩ := I.list hq
  obtain ⟨j, h1, h2, h3, h4, h5⟩ := atI_get he
  obtain ⟨w, ew, rw'⟩ := r.get h2
  have hl := r.length
  have hn := line63
  have fin : EP X pins σ Q w s := ⟨z, H, I, rw', q⟩
  by_cases h0 : 0 ≤ i
  · have hj : i.toNat = j := by
      rw [seqIndex_of h0 h5] at h1
      exact Option.some.inj h1
    exact wpAny_getItem_list pl.isList h0 (by omega) (by rw [hj]; simpa using ew) fin
  · have hj : (i + (its.toArray.size : Int)).toNat = j := by
      rw [seqIndex_neg (by omega) h4] at h1
      rw [List.size_toArray, ← hl]
      exact Option.some.inj h1
    exact wpAny_getItem_list_neg pl.isList (by omega) (by rw [List.size_toArray] <;> omega) (by omega) (by rw [hj]; simpa using ew) fin
theorem ip_addS : PIp X .Add (fun x y H Q => ∃ i j, x = .str i ∧ y = .str j ∧ i.length + j.length ≤ sizeLine ∧ Q (.str (i ++ j)) H) := iop_add_str
theorem ip_mul : PIp X .Mult (rI CMul fun i j => .int (i * j)) := iop_mul
theorem ip_shl : PIp X .LShift (rI CShl fun i j => .int (i * 2 ^ j.toNat)) := iop_shlW
end
end K51
/-! where the defs stand -/
namespace K51
open PySem PySem.Spec PyProof.Rows L2 NdefX LamX
def top (i : Nat) : Stmt := PySem.Challenge.pw_triesgrow_k51_whole_pumps_from_below.main.body.getD i (.Pass ⟨0, 0, 0, 0⟩)
abbrev s_is_sign : Stmt := top 9
theorem sc_is_sign : FnScope ["thing"] ["thing"] (defScope s_is_sign) := ⟨rfl, rfl, rfl, by decide +kernel, rfl, by decide +kernel, by decide +kernel⟩
theorem b_is_sign : BindsOk s_is_sign "is_sign" ["thing"] := fun _ _ _ _ _ _ us hl => match us, hl with | [_], _ => rfl
abbrev s_is_whole : Stmt := top 13
theorem sc_is_whole : FnScope ["thing"] ["thing"] (defScope s_is_whole) := ⟨rfl, rfl, rfl, by decide +kernel, rfl, by decide +kernel, by decide +kernel⟩
theorem b_is_whole : BindsOk s_is_whole "is_whole" ["thing"] := fun _ _ _ _ _ _ us hl => match us, hl with | [_], _ => rfl
abbrev s_is_within : Stmt := top 14
theorem sc_is_within : FnScope ["thing", "least", "most"] ["thing", "least", "most"] (defScope s_is_within) := ⟨rfl, rfl, rfl, by decide +kernel, rfl, by decide +kernel, by decide +kernel⟩
theorem b_is_within : BindsOk s_is_within "is_within" ["thing", "least", "most"] := fun _ _ _ _ _ _ us hl => match us, hl with | [_, _, _], _ => rfl
abbrev s_look_at_rooms : Stmt := top 15
theorem sc_look_at_rooms : FnScope ["many", "part", "thing", "last", "number", "room"] ["many", "part", "thing"] (defScope s_look_at_rooms) := ⟨rfl, rfl, rfl, by decide +kernel, rfl, by decide +kernel, by decide +kernel⟩
theorem b_look_at_rooms : BindsOk s_look_at_rooms "look_at_rooms" ["many", "part", "thing"] := fun _ _ _ _ _ _ us hl => match us, hl with | [_, _, _], _ => rfl
abbrev s_is_step : Stmt := top 16
theorem sc_is_step : FnScope ["many", "thing"] ["many", "thing"] (defScope s_is_step) := ⟨rfl, rfl, rfl, by decide +kernel, rfl, by decide +kernel, by decide +kernel⟩
theorem b_is_step : BindsOk s_is_step "is_step" ["many", "thing"] := fun _ _ _ _ _ _ us hl => match us, hl with | [_, _], _ => rfl
abbrev s_look_at_steps : Stmt := top 17
theorem sc_look_at_steps : FnScope ["many", "thing", "seen", "number", "step"] ["many", "thing"] (defScope s_look_at_steps) := ⟨rfl, rfl, rfl, by decide +kernel, rfl, by decide +kernel, by decide +kernel⟩
theorem b_look_at_steps : BindsOk s_look_at_steps "look_at_steps" ["many", "thing"] := fun _ _ _ _ _ _ us hl => match us, hl with | [_, _], _ => rfl
abbrev s_look_at : Stmt := top 18
theorem sc_look_at : FnScope ["thing", "many", "firsts", "lasts", "steps"] ["thing"] (defScope s_look_at) := ⟨rfl, rfl, rfl, by decide +kernel, rfl, by decide +kernel, by decide +kernel⟩
theorem b_look_at : BindsOk s_look_at "look_at" ["thing"] := fun _ _ _ _ _ _ us hl => match us, hl with | [_], _ => rfl
abbrev s_look_at_room : Stmt := top 19
theorem sc_look_at_room : FnScope ["machine", "room"] ["machine", "room"] (defScope s_look_at_room) := ⟨rfl, rfl, rfl, by decide +kernel, rfl, by decide +kernel, by decide +kernel⟩
theorem b_look_at_room : BindsOk s_look_at_room "look_at_room" ["machine", "room"] := fun _ _ _ _ _ _ us hl => match us, hl with | [_, _], _ => rfl
abbrev s_turned : Stmt := top 20
theorem sc_turned : FnScope ["machine", "many", "firsts", "lasts", "steps", "one", "sign", "other"] ["machine"] (defScope s_turned) := ⟨rfl, rfl, rfl, by decide +kernel, rfl, by decide +kernel, by decide +kernel⟩
theorem b_turned : BindsOk s_turned "turned" ["machine"] := fun _ _ _ _ _ _ us hl => match us, hl with | [_], _ => rfl
abbrev s_come_to : Stmt := top 22
theorem sc_come_to : FnScope ["steps", "rooms", "found", "waiting", "room", "here", "to"] ["steps", "rooms"] (defScope s_come_to) := ⟨rfl, rfl, rfl, by decide +kernel, rfl, by decide +kernel, by decide +kernel⟩
theorem b_come_to : BindsOk s_come_to "come_to" ["steps", "rooms"] := fun _ _ _ _ _ _ us hl => match us, hl with | [_, _], _ => rfl
abbrev s_useful : Stmt := top 23
theorem sc_useful : FnScope ["machine", "ahead", "behind", "room", "sign", "to"] ["machine"] (defScope s_useful) := ⟨rfl, rfl, rfl, by decide +kernel, rfl, by decide +kernel, by decide +kernel⟩
theorem b_useful : BindsOk s_useful "useful" ["machine"] := fun _ _ _ _ _ _ us hl => match us, hl with | [_], _ => rfl
abbrev s_trimmed : Stmt := top 24
theorem sc_trimmed : FnScope ["machine", "rooms", "firsts", "lasts", "room", "step"] ["machine"] (defScope s_trimmed) := ⟨rfl, rfl, rfl, by decide +kernel, rfl, by decide +kernel, by decide +kernel⟩
theorem b_trimmed : BindsOk s_trimmed "trimmed" ["machine"] := fun _ _ _ _ _ _ us hl => match us, hl with | [_], _ => rfl
abbrev s_signs_of : Stmt := top 25
theorem sc_signs_of : FnScope ["machine", "room", "sign", "to"] ["machine"] (defScope s_signs_of) := ⟨rfl, rfl, rfl, by decide +kernel, rfl, by decide +kernel, by decide +kernel⟩
theorem b_signs_of : BindsOk s_signs_of "signs_of" ["machine"] := fun _ _ _ _ _ _ us hl => match us, hl with | [_], _ => rfl
abbrev s_by_signs : Stmt := top 26
theorem sc_by_signs : FnScope ["machine", "found", "room", "sign", "to"] ["machine"] (defScope s_by_signs) := ⟨rfl, rfl, rfl, by decide +kernel, rfl, by decide +kernel, by decide +kernel⟩
theorem b_by_signs : BindsOk s_by_signs "by_signs" ["machine"] := fun _ _ _ _ _ _ us hl => match us, hl with | [_], _ => rfl
abbrev s_first_text : Stmt := top 27
theorem sc_first_text : FnScope ["signs", "start", "goal", "nexts", "known", "waiting", "some", "text", "sign", "found", "here", "to"] ["signs", "start", "goal", "nexts"] (defScope s_first_text) := ⟨rfl, rfl, rfl, by decide +kernel, rfl, by decide +kernel, by decide +kernel⟩
theorem b_first_text : BindsOk s_first_text "first_text" ["signs", "start", "goal", "nexts"] := fun _ _ _ _ _ _ us hl => match us, hl with | [_, _, _, _], _ => rfl
abbrev s_text_between : Stmt := top 28
theorem sc_text_between : FnScope ["machine", "room", "other", "table"] ["machine", "room", "other"] (defScope s_text_between) := ⟨rfl, rfl, rfl, by decide +kernel, rfl, by decide +kernel, by decide +kernel⟩
theorem b_text_between : BindsOk s_text_between "text_between" ["machine", "room", "other"] := fun _ _ _ _ _ _ us hl => match us, hl with | [_, _, _], _ => rfl
abbrev s_double_text : Stmt := top 30
theorem sc_double_text : FnScope ["table", "signs", "room", "nexts"] ["table", "signs", "room"] (defScope s_double_text) := ⟨rfl, rfl, rfl, by decide +kernel, rfl, by decide +kernel, by decide +kernel⟩
theorem b_double_text : BindsOk s_double_text "double_text" ["table", "signs", "room"] := fun _ _ _ _ _ _ us hl => match us, hl with | [_, _, _], _ => rfl
abbrev s_led_text : Stmt := top 31
theorem sc_led_text : FnScope ["table", "signs", "room", "other", "nexts"] ["table", "signs", "room", "other"] (defScope s_led_text) := ⟨rfl, rfl, rfl, by decide +kernel, rfl, by decide +kernel, by decide +kernel⟩
theorem b_led_text : BindsOk s_led_text "led_text" ["table", "signs", "room", "other"] := fun _ _ _ _ _ _ us hl => match us, hl with | [_, _, _, _], _ => rfl
abbrev s_double_rounds : Stmt := top 32
theorem sc_double_rounds : FnScope ["machine", "rooms", "table", "found", "room", "text"] ["machine"] (defScope s_double_rounds) := ⟨rfl, rfl, rfl, by decide +kernel, rfl, by decide +kernel, by decide +kernel⟩
theorem b_double_rounds : BindsOk s_double_rounds "double_rounds" ["machine"] := fun _ _ _ _ _ _ us hl => match us, hl with | [_], _ => rfl
abbrev s_led_rounds : Stmt := top 33
theorem sc_led_rounds : FnScope ["machine", "rooms", "table", "signs", "found", "room", "other", "text"] ["machine"] (defScope s_led_rounds) := ⟨rfl, rfl, rfl, by decide +kernel, rfl, by decide +kernel, by decide +kernel⟩
theorem b_led_rounds : BindsOk s_led_rounds "led_rounds" ["machine"] := fun _ _ _ _ _ _ us hl => match us, hl with | [_], _ => rfl
abbrev s_raised : Stmt := top 35
theorem sc_raised : FnScope ["found", "pairs", "by", "changed", "room", "other"] ["found", "pairs", "by"] (defScope s_raised) := ⟨rfl, rfl, rfl, by decide +kernel, rfl, by decide +kernel, by decide +kernel⟩
theorem b_raised : BindsOk s_raised "raised" ["found", "pairs", "by"] := fun _ _ _ _ _ _ us hl => match us, hl with | [_, _, _], _ => rfl
abbrev s_ranks : Stmt := top 36
theorem sc_ranks : FnScope ["machine", "rooms", "led", "steps", "found", "room", "changed", "other", "text", "sign", "to"] ["machine"] (defScope s_ranks) := ⟨rfl, rfl, rfl, by decide +kernel, rfl, by decide +kernel, by decide +kernel⟩
theorem b_ranks : BindsOk s_ranks "ranks" ["machine"] := fun _ _ _ _ _ _ us hl => match us, hl with | [_], _ => rfl
abbrev s_greatest_rank : Stmt := top 37
theorem sc_greatest_rank : FnScope ["some", "rank"] ["some"] (defScope s_greatest_rank) := ⟨rfl, rfl, rfl, by decide +kernel, rfl, by decide +kernel, by decide +kernel⟩
theorem b_greatest_rank : BindsOk s_greatest_rank "greatest_rank" ["some"] := fun _ _ _ _ _ _ us hl => match us, hl with | [_], _ => rfl
abbrev s_look_at_word : Stmt := top 39
theorem sc_look_at_word : FnScope ["text", "at", "sign"] ["text"] (defScope s_look_at_word) := ⟨rfl, rfl, rfl, by decide +kernel, rfl, by decide +kernel, by decide +kernel⟩
theorem b_look_at_word : BindsOk s_look_at_word "look_at_word" ["text"] := fun _ _ _ _ _ _ us hl => match us, hl with | [_], _ => rfl
abbrev s_alone_at : Stmt := top 40
theorem sc_alone_at : FnScope ["machine", "rooms", "room"] ["machine", "rooms"] (defScope s_alone_at) := ⟨rfl, rfl, rfl, by decide +kernel, rfl, by decide +kernel, by decide +kernel⟩
theorem b_alone_at : BindsOk s_alone_at "alone_at" ["machine", "rooms"] := fun _ _ _ _ _ _ us hl => match us, hl with | [_, _], _ => rfl
abbrev s_moved : Stmt := top 41
theorem sc_moved : FnScope ["machine", "vector", "sign", "later", "room", "letter", "to"] ["machine", "vector", "sign"] (defScope s_moved) := ⟨rfl, rfl, rfl, by decide +kernel, rfl, by decide +kernel, by decide +kernel⟩
theorem b_moved : BindsOk s_moved "moved" ["machine", "vector", "sign"] := fun _ _ _ _ _ _ us hl => match us, hl with | [_, _, _], _ => rfl
abbrev s_moved_by : Stmt := top 42
theorem sc_moved_by : FnScope ["machine", "vector", "text", "sign"] ["machine", "vector", "text"] (defScope s_moved_by) := ⟨rfl, rfl, rfl, by decide +kernel, rfl, by decide +kernel, by decide +kernel⟩
theorem b_moved_by : BindsOk s_moved_by "moved_by" ["machine", "vector", "text"] := fun _ _ _ _ _ _ us hl => match us, hl with | [_, _, _], _ => rfl
abbrev s_sum_at : Stmt := top 43
theorem sc_sum_at : FnScope ["vector", "rooms", "room"] ["vector", "rooms"] (defScope s_sum_at) := ⟨rfl, rfl, rfl, by decide +kernel, rfl, by decide +kernel, by decide +kernel⟩
theorem b_sum_at : BindsOk s_sum_at "sum_at" ["vector", "rooms"] := fun _ _ _ _ _ _ us hl => match us, hl with | [_, _], _ => rfl
abbrev s_ways : Stmt := top 44
theorem sc_ways : FnScope ["machine", "text", "first", "last", "firsts", "lasts"] ["machine", "text", "first", "last"] (defScope s_ways) := ⟨rfl, rfl, rfl, by decide +kernel, rfl, by decide +kernel, by decide +kernel⟩
abbrev s_shortest : Stmt := top 48
theorem sc_shortest : FnScope ["texts", "text"] ["texts"] (defScope s_shortest) := ⟨rfl, rfl, rfl, by decide +kernel, rfl, by decide +kernel, by decide +kernel⟩
theorem b_shortest : BindsOk s_shortest "shortest" ["texts"] := fun _ _ _ _ _ _ us hl => match us, hl with | [_], _ => rfl
abbrev s_text_to : Stmt := top 49
theorem sc_text_to : FnScope ["machine", "room", "first"] ["machine", "room"] (defScope s_text_to) := ⟨rfl, rfl, rfl, by decide +kernel, rfl, by decide +kernel, by decide +kernel⟩
theorem b_text_to : BindsOk s_text_to "text_to" ["machine", "room"] := fun _ _ _ _ _ _ us hl => match us, hl with | [_, _], _ => rfl
abbrev s_text_from : Stmt := top 50
theorem sc_text_from : FnScope ["machine", "room", "last"] ["machine", "room"] (defScope s_text_from) := ⟨rfl, rfl, rfl, by decide +kernel, rfl, by decide +kernel, by decide +kernel⟩
theorem b_text_from : BindsOk s_text_from "text_from" ["machine", "room"] := fun _ _ _ _ _ _ us hl => match us, hl with | [_, _], _ => rfl
abbrev s_chain_of : Stmt := top 51
theorem sc_chain_of : FnScope ["machine", "some", "found", "pairs", "rank", "room", "other", "text", "fits"] ["machine", "some"] (defScope s_chain_of) := ⟨rfl, rfl, rfl, by decide +kernel, rfl, by decide +kernel, by decide +kernel⟩
theorem b_chain_of : BindsOk s_chain_of "chain_of" ["machine", "some"] := fun _ _ _ _ _ _ us hl => match us, hl with | [_, _], _ => rfl
abbrev s_pump_by : Stmt := top 52
theorem sc_pump_by : FnScope ["machine", "chain", "texts", "at", "room", "other", "text"] ["machine", "chain"] (defScope s_pump_by) := ⟨rfl, rfl, rfl, by decide +kernel, rfl, by decide +kernel, by decide +kernel⟩
theorem b_pump_by : BindsOk s_pump_by "pump_by" ["machine", "chain"] := fun _ _ _ _ _ _ us hl => match us, hl with | [_, _], _ => rfl
abbrev s_pump_of : Stmt := top 53
theorem sc_pump_of : FnScope ["machine", "some", "room", "text"] ["machine"] (defScope s_pump_of) := ⟨rfl, rfl, rfl, by decide +kernel, rfl, by decide +kernel, by decide +kernel⟩
theorem b_pump_of : BindsOk s_pump_of "pump_of" ["machine"] := fun _ _ _ _ _ _ us hl => match us, hl with | [_], _ => rfl
abbrev s_are_signs : Stmt := top 54
theorem sc_are_signs : FnScope ["thing", "sign"] ["thing"] (defScope s_are_signs) := ⟨rfl, rfl, rfl, by decide +kernel, rfl, by decide +kernel, by decide +kernel⟩
theorem b_are_signs : BindsOk s_are_signs "are_signs" ["thing"] := fun _ _ _ _ _ _ us hl => match us, hl with | [_], _ => rfl
abbrev s_ways_between : Stmt := top 55
theorem sc_ways_between : FnScope ["machine", "text", "rooms", "others"] ["machine", "text", "rooms", "others"] (defScope s_ways_between) := ⟨rfl, rfl, rfl, by decide +kernel, rfl, by decide +kernel, by decide +kernel⟩
theorem b_ways_between : BindsOk s_ways_between "ways_between" ["machine", "text", "rooms", "others"] := fun _ _ _ _ _ _ us hl => match us, hl with | [_, _, _, _], _ => rfl
abbrev s_is_formed : Stmt := top 56
theorem sc_is_formed : FnScope ["machine", "thing", "texts", "rounds", "one", "text", "room"] ["machine", "thing"] (defScope s_is_formed) := ⟨rfl, rfl, rfl, by decide +kernel, rfl, by decide +kernel, by decide +kernel⟩
theorem b_is_formed : BindsOk s_is_formed "is_formed" ["machine", "thing"] := fun _ _ _ _ _ _ us hl => match us, hl with | [_, _], _ => rfl
abbrev s_is_middle : Stmt := top 57
theorem sc_is_middle : FnScope ["machine", "text", "room", "other", "pairs", "one", "two"] ["machine", "text", "room", "other"] (defScope s_is_middle) := ⟨rfl, rfl, rfl, by decide +kernel, rfl, by decide +kernel, by decide +kernel⟩
theorem b_is_middle : BindsOk s_is_middle "is_middle" ["machine", "text", "room", "other"] := fun _ _ _ _ _ _ us hl => match us, hl with | [_, _, _, _], _ => rfl
abbrev s_lets_pump : Stmt := top 58
theorem sc_lets_pump : FnScope ["machine", "thing", "texts", "rounds", "at", "room", "other"] ["machine", "thing"] (defScope s_lets_pump) := ⟨rfl, rfl, rfl, by decide +kernel, rfl, by decide +kernel, by decide +kernel⟩
theorem b_lets_pump : BindsOk s_lets_pump "lets_pump" ["machine", "thing"] := fun _ _ _ _ _ _ us hl => match us, hl with | [_, _], _ => rfl
abbrev s_look_at_times : Stmt := top 59
theorem sc_look_at_times : FnScope ["many"] ["many"] (defScope s_look_at_times) := ⟨rfl, rfl, rfl, by decide +kernel, rfl, by decide +kernel, by decide +kernel⟩
theorem b_look_at_times : BindsOk s_look_at_times "look_at_times" ["many"] := fun _ _ _ _ _ _ us hl => match us, hl with | [_], _ => rfl
abbrev s_laid : Stmt := top 60
theorem sc_laid : FnScope ["pump", "many", "found", "at", "text"] ["pump", "many"] (defScope s_laid) := ⟨rfl, rfl, rfl, by decide +kernel, rfl, by decide +kernel, by decide +kernel⟩
abbrev s_least_ways : Stmt := top 61
theorem sc_least_ways : FnScope ["pump", "many", "found", "room", "other"] ["pump", "many"] (defScope s_least_ways) := ⟨rfl, rfl, rfl, by decide +kernel, rfl, by decide +kernel, by decide +kernel⟩
abbrev s__law_hand : Stmt := top 63
theorem sc__law_hand : FnScope ["_law_script", "_law_k", "_law_cell", "_law_seed"] ["_law_script", "_law_k"] (defScope s__law_hand) := ⟨rfl, rfl, rfl, by decide +kernel, rfl, by decide +kernel, by decide +kernel⟩
theorem b__law_hand : BindsOk s__law_hand "_law_hand" ["_law_script", "_law_k"] := fun _ _ _ _ _ _ us hl => match us, hl with | [_, _], _ => rfl
abbrev s__law_draw : Stmt := top 64
theorem sc__law_draw : FnScope ["_law_hand_here", "_law_size", "_law_found"] ["_law_hand_here", "_law_size"] (defScope s__law_draw) := ⟨rfl, rfl, rfl, by decide +kernel, rfl, by decide +kernel, by decide +kernel⟩
theorem b__law_draw : BindsOk s__law_draw "_law_draw" ["_law_hand_here", "_law_size"] := fun _ _ _ _ _ _ us hl => match us, hl with | [_, _], _ => rfl
abbrev s__law_rooms : Stmt := top 65
theorem sc__law_rooms : FnScope ["_law_hand_here", "_law_size", "_law_some", "_law_room"] ["_law_hand_here", "_law_size"] (defScope s__law_rooms) := ⟨rfl, rfl, rfl, by decide +kernel, rfl, by decide +kernel, by decide +kernel⟩
theorem b__law_rooms : BindsOk s__law_rooms "_law_rooms" ["_law_hand_here", "_law_size"] := fun _ _ _ _ _ _ us hl => match us, hl with | [_, _], _ => rfl
abbrev s__law_letters : Stmt := top 66
theorem sc__law_letters : FnScope ["_law_hand_here"] ["_law_hand_here"] (defScope s__law_letters) := ⟨rfl, rfl, rfl, by decide +kernel, rfl, by decide +kernel, by decide +kernel⟩
theorem b__law_letters : BindsOk s__law_letters "_law_letters" ["_law_hand_here"] := fun _ _ _ _ _ _ us hl => match us, hl with | [_], _ => rfl
abbrev s__law_machine : Stmt := top 67
theorem sc__law_machine : FnScope ["_law_hand_here", "_law_upto", "_law_extra", "_law_letters_here", "_law_rooms_here", "_law_firsts", "_law_lasts", "_law_steps", "_law_k", "_law_step"] ["_law_hand_here", "_law_upto", "_law_extra", "_law_letters_here"] (defScope s__law_machine) := ⟨rfl, rfl, rfl, by decide +kernel, rfl, by decide +kernel, by decide +kernel⟩
theorem b__law_machine : BindsOk s__law_machine "_law_machine" ["_law_hand_here", "_law_upto", "_law_extra", "_law_letters_here"] := fun _ _ _ _ _ _ us hl => match us, hl with | [_, _, _, _], _ => rfl
abbrev s__law_word : Stmt := top 68
theorem sc__law_word : FnScope ["_law_hand_here", "_law_letters_here", "_law_upto", "_law_k"] ["_law_hand_here", "_law_letters_here", "_law_upto"] (defScope s__law_word) := ⟨rfl, rfl, rfl, by decide +kernel, rfl, by decide +kernel, by decide +kernel⟩
theorem b__law_word : BindsOk s__law_word "_law_word" ["_law_hand_here", "_law_letters_here", "_law_upto"] := fun _ _ _ _ _ _ us hl => match us, hl with | [_, _, _], _ => rfl
abbrev s__law_line : Stmt := top 69
theorem sc__law_line : FnScope ["_law_hand_here", "_law_letters_here", "_law_rooms_here", "_law_steps", "_law_room", "_law_sign"] ["_law_hand_here", "_law_letters_here"] (defScope s__law_line) := ⟨rfl, rfl, rfl, by decide +kernel, rfl, by decide +kernel, by decide +kernel⟩
theorem b__law_line : BindsOk s__law_line "_law_line" ["_law_hand_here", "_law_letters_here"] := fun _ _ _ _ _ _ us hl => match us, hl with | [_, _], _ => rfl
abbrev s__law_drawn : Stmt := top 70
theorem sc__law_drawn : FnScope ["_law_hand_here", "_law_machine_here", "_law_letters_here", "_law_rounds", "_law_texts", "_law_turn"] ["_law_hand_here", "_law_machine_here", "_law_letters_here"] (defScope s__law_drawn) := ⟨rfl, rfl, rfl, by decide +kernel, rfl, by decide +kernel, by decide +kernel⟩
theorem b__law_drawn : BindsOk s__law_drawn "_law_drawn" ["_law_hand_here", "_law_machine_here", "_law_letters_here"] := fun _ _ _ _ _ _ us hl => match us, hl with | [_, _, _], _ => rfl
abbrev s__law_has_least : Stmt := top 71
theorem sc__law_has_least : FnScope ["_law_machine_here", "_law_pump", "_law_long_ones", "_law_rest", "_law_times", "_law_text"] ["_law_machine_here", "_law_pump"] (defScope s__law_has_least) := ⟨rfl, rfl, rfl, by decide +kernel, rfl, by decide +kernel, by decide +kernel⟩
theorem b__law_has_least : BindsOk s__law_has_least "_law_has_least" ["_law_machine_here", "_law_pump"] := fun _ _ _ _ _ _ us hl => match us, hl with | [_, _], _ => rfl
abbrev s__law_right : Stmt := top 72
theorem sc__law_right : FnScope ["_law_machine_here", "_law_pump", "_law_texts", "_law_rounds", "_law_back", "_law_room", "_law_other", "_law_more", "_law_text"] ["_law_machine_here", "_law_pump"] (defScope s__law_right) := ⟨rfl, rfl, rfl, by decide +kernel, rfl, by decide +kernel, by decide +kernel⟩
theorem b__law_right : BindsOk s__law_right "_law_right" ["_law_machine_here", "_law_pump"] := fun _ _ _ _ _ _ us hl => match us, hl with | [_, _], _ => rfl
abbrev s_law : Stmt := top 73
theorem sc_law : FnScope ["_law_script", "_law_k", "_law_hand_here", "_law_letters_here", "_law_machine_here", "_law_pumps", "_law_told", "_law_pump", "_law_turn"] ["_law_script"] (defScope s_law) := ⟨rfl, rfl, rfl, by decide +kernel, rfl, by decide +kernel, by decide +kernel⟩
theorem b_law : BindsOk s_law "law" ["_law_script"] := fun _ _ _ _ _ _ us hl => match us, hl with | [_], _ => rfl
end K51
/-! the first defs: what is a machine -/
namespace K51
open PySem PySem.Spec PyProof.Rows L2 NdefX LamX

/-! ### machines -/
structure Mac where
  n : Nat
  fs : List Nat
  ls : List Nat
  S : List Step
structure Mac.Ok (M : Mac) : Prop where
  lo : 1 ≤ M.n
  hi : M.n ≤ 12
  fs : M.fs.Pairwise (· < ·)
  fb : ∀ r ∈ M.fs, r < M.n
  ls : M.ls.Pairwise (· < ·)
  lb : ∀ r ∈ M.ls, r < M.n
  few : M.S.length ≤ 200
  nd : M.S.Nodup
  bel : Below M.n M.S
  let' : ∀ s ∈ M.S, Let s.2.1
abbrev stepV (s : Step) : List V := [ni s.1, sg s.2.1, ni s.2.2]
def StepsAt (H : Hp) (ts : List Addr) (S : List Step) : Prop := Paired (fun t s => H t = some (.tup (stepV s))) ts S
structure MacAt (av : List Addr) (H : Hp) (m : Addr) (M : Mac) (af al as : Addr) (ts : List Addr) : Prop where
  m : H m = some (.tup [ni M.n, .ref af, .ref al, .ref as])
  f : H af = some (.lst (M.fs.map ni))
  l : H al = some (.lst (M.ls.map ni))
  s : H as = some (.lst (ts.map V.ref))
  st : StepsAt H ts M.S
  nf : af ∉ av
  nl : al ∉ av
  ns : as ∉ av
/-- the machine M stands at m, apart from av -/
def MAt (av : List Addr) (H : Hp) (m : Addr) (M : Mac) : Prop := ∃ af al as ts, MacAt av H m M af al as ts
section
variable {T : List NTab} {ex av : List Addr} {H H1 : Hp}
theorem StepsAt.kp (a : Kp T ex H H1) (hx : ∀ b ∈ ex, ∃ xs, H b = some (.lst xs)) {ts : List Addr} {S : List Step} (h : StepsAt H ts S) : StepsAt H1 ts S := Paired.mapP h fun t s e => a.getX e fun z => by
  obtain ⟨xs, q⟩ := hx t z
  rw [e] at q
  cases q
theorem MacAt.kp {m af al as : Addr} {M : Mac} {ts : List Addr} (h : MacAt av H m M af al as ts) (a : Kp T ex H H1) (hx : ∀ b ∈ ex, b ∈ av ∧ ∃ xs, H b = some (.lst xs)) : MacAt av H1 m M af al as ts :=
  ⟨a.getX h.m (fun z => by
      obtain ⟨_, xs, q⟩ := hx m z
      rw [h.m] at q
      cases q),
    a.getX h.f fun z => h.nf (hx _ z).1, a.getX h.l fun z => h.nl (hx _ z).1, a.getX h.s fun z => h.ns (hx _ z).1, h.st.kp a fun b hb => (hx b hb).2, h.nf, h.nl, h.ns⟩
theorem MAt.kpX {m : Addr} {M : Mac} (h : MAt av H m M) (a : Kp T ex H H1) (hx : ∀ b ∈ ex, b ∈ av ∧ ∃ xs, H b = some (.lst xs)) : MAt av H1 m M := by
  obtain ⟨af, al, as, ts, h⟩ := h
  exact ⟨af, al, as, ts, h.kp a hx⟩
theorem MAt.kp {m : Addr} {M : Mac} (h : MAt av H m M) (a : Kp T [] H H1) : MAt av H1 m M := h.kpX a fun _ z => nomatch z
theorem MAt.off {m : Addr} {M : Mac} (h : MAt av H m M) : MAt [] H m M := by
  obtain ⟨af, al, as, ts, h⟩ := h
  exact ⟨af, al, as, ts, h.m, h.f, h.l, h.s, h.st, by simp, by simp, by simp⟩
theorem StepsAt.len {ts : List Addr} {S : List Step} (h : StepsAt H ts S) : ts.length = S.length := Paired.length h
theorem StepsAt.get {ts : List Addr} {S : List Step} (h : StepsAt H ts S) : ∀ {i : Nat} {v : V}, (ts.map V.ref)[i]? = some v → ∃ t s, v = .ref t ∧ ts[i]? = some t ∧ S[i]? = some s ∧ H t = some (.tup (stepV s)) := by
  unfold StepsAt at h
  induction h with
  | nil => intro i v e; simp at e
  | @cons t s ts S q r ih =>
    intro i v e
    cases i with
    | zero =>
      have e' : V.ref t = v := by simpa using e
      exact ⟨t, s, e'.symm, rfl, rfl, q⟩
    | succ i =>
      obtain ⟨t', s', h1, h2, h3, h4⟩ := ih (i := i) (v := v) (by simpa using e)
      exact ⟨t', s', h1, by simpa using h2, by simpa using h3, h4⟩
end

/-! ### reading helps -/
theorem r_isi {K : PySem.W.Frag} {H : Hp} {x : V} {U n : String} {b : Bool} {Q : VK} (ty : TyX K H x (.type U)) (hk : kitB U n = some b) (q : Q (.bl b) H) : rIsi K [x, .ty n] H Q :=
  ⟨x, .ty n, _, _, b, rfl, .ty n, ty, kit_ty hk, q⟩
theorem ts_int {K : PySem.W.Frag} {H : Hp} (i : Int) : TyX K H (.int i) (.type "int") := .base (.int i)
theorem ts_str {K : PySem.W.Frag} {H : Hp} (z : Str) : TyX K H (.str z) (.type "str") := .base (.str z)
theorem ts_lst {K : PySem.W.Frag} {H : Hp} {a : Addr} {xs : List V} (e : H a = some (.lst xs)) : TyX K H (.ref a) (.type "list") := .base (.lst e)
theorem ts_tup {K : PySem.W.Frag} {H : Hp} {a : Addr} {xs : List V} (e : H a = some (.tup xs)) : TyX K H (.ref a) (.type "tuple") := .base (.tup e)
theorem kb_int : kitB "int" "int" = some true := by decide +kernel
theorem kb_intB : kitB "int" "bool" = some false := by decide +kernel
theorem kb_str : kitB "str" "str" = some true := by decide +kernel
theorem kb_list : kitB "list" "list" = some true := by decide +kernel
theorem kb_tuple : kitB "tuple" "tuple" = some true := by decide +kernel

section
variable {P : Program} {w : World} {K : PySem.W.Frag} {mg : Str → Option Value} {base : Heap} {T : List NTab}
/-! ### is_sign, is_whole, is_within -/
def sp_is_sign : Sp := fun vs H Q _ => ∃ c, vs = [sg c] ∧ Let c ∧ Q (.bl true) H
theorem ok_is_sign (F : Fn K mg "is_sign" s_is_sign) (Tx : Txt mg) : DOk P w K mg base "is_sign" 1 ["thing"] [] sp_is_sign := by
  refine F.dok sc_is_sign b_is_sign (fun vs H Q E h => ?_) (fun f cdv A outer s H vs Q E hr h => ?_)
  · obtain ⟨c, rfl, _⟩ := h
    rfl
  · obtain ⟨c, rfl, hc, q⟩ := h
    refine ⟨_, (pss_one (ps_ret (pe_and (pe_callB call_isi (by rfl) Tx.n_isinstance (by decide +kernel) (pa_cons (pv 0) (pa_cons (pe_bltn (v := .ty "str") (by rfl) Tx.n_str (by decide +kernel) rfl) pa_nil))) (pe_and (pe_cmpR op_eq (pe_callB call_len_str (by rfl) Tx.n_len (by decide +kernel) (pa_cons (pv 0) pa_nil)) pe_int (nomark _)) (pe_one (pe_cmpR op_in_sign (pv 0) (pe_ks (by rfl) Tx.c_LETTERS) (by rfl))))))), ?_⟩
    refine ⟨_, rfl, _, .ty _, _, _, true, rfl, .ty _, ts_str _, kit_ty kb_str, true, rfl, iteT ?_⟩
    refine ⟨_, rfl, _, rfl, sz_ok (by rw [one_tx, tx_len]; simp), rfl, ⟨true, by rw [one_tx, tx_len]; rfl, iteT ?_⟩⟩
    refine ⟨_, rfl, c, LETS, rfl, rfl, ?_⟩
    rw [decide_eq_true (let_mem hc)]
    exact q
def sp_is_whole : Sp := fun vs H Q _ => ∃ i, vs = [.int i] ∧ Q (.bl true) H
theorem ok_is_whole (F : Fn K mg "is_whole" s_is_whole) (Tx : Txt mg) : DOk P w K mg base "is_whole" 1 ["thing"] [] sp_is_whole := by
  refine F.dok sc_is_whole b_is_whole (fun vs H Q E h => ?_) (fun f cdv A outer s H vs Q E hr h => ?_)
  · obtain ⟨c, rfl, _⟩ := h
    rfl
  · obtain ⟨c, rfl, q⟩ := h
    refine ⟨_, (pss_one (ps_ret (pe_and (pe_callB call_isi (by rfl) Tx.n_isinstance (by decide +kernel) (pa_cons (pv 0) (pa_cons (pe_bltn (v := .ty "int") (by rfl) Tx.n_int (by decide +kernel) rfl) pa_nil))) (pe_one (pe_not (pe_callB call_isi (by rfl) Tx.n_isinstance (by decide +kernel) (pa_cons (pv 0) (pa_cons (pe_bltn (v := .ty "bool") (by rfl) Tx.n_bool (by decide +kernel) rfl) pa_nil)))))))), ?_⟩
    refine ⟨_, rfl, _, .ty _, _, _, true, rfl, .ty _, ts_int _, kit_ty kb_int, true, rfl, iteT ?_⟩
    refine ⟨_, rfl, _, .ty _, _, _, false, rfl, .ty _, ts_int _, kit_ty kb_intB, false, rfl, ?_⟩
    exact q
def sp_is_within : Sp := fun vs H Q _ => ∃ i l m : Int, vs = [.int i, .int l, .int m] ∧ Q (.bl (decide (l ≤ i ∧ i ≤ m))) H
theorem ok_is_within (F : Fn K mg "is_within" s_is_within) (Tx : Txt mg) (D_is_whole : DOk P w K mg base "is_whole" 1 ["thing"] [] sp_is_whole) : DOk P w K mg base "is_within" 2 ["thing", "least", "most"] [] sp_is_within := by
  refine F.dok sc_is_within b_is_within (fun vs H Q E h => ?_) (fun f cdv A outer s H vs Q E hr h => ?_)
  · obtain ⟨i, l, m, rfl, _⟩ := h
    rfl
  · obtain ⟨i, l, m, rfl, q⟩ := h
    refine ⟨_, (pss_one (ps_ret (pe_and (pe_d D_is_whole hr (by rfl) (pa_cons (pv 0) pa_nil)) (pe_one (pe_chain op_le op_le (pv 1) (pv 0) (pv 2)))))), ?_⟩
    refine ⟨_, rfl, i, rfl, true, rfl, iteT ?_⟩
    refine ⟨_, rfl, _, rfl, _, _, rfl, rfl, _, rfl, ?_⟩
    by_cases h1 : l ≤ i
    · rw [decide_eq_true h1]
      refine iteT ⟨_, rfl, _, _, rfl, rfl, ?_⟩
      by_cases h2 : i ≤ m
      · show Q (.bl (decide (i ≤ m))) H
        rw [decide_eq_true h2]
        rw [decide_eq_true (show l ≤ i ∧ i ≤ m from ⟨h1, h2⟩)] at q
        exact q
      · show Q (.bl (decide (i ≤ m))) H
        rw [decide_eq_false h2]
        rw [decide_eq_false (show ¬ (l ≤ i ∧ i ≤ m) from fun z => h2 z.2)] at q
        exact q
    · rw [decide_eq_false h1]
      rw [decide_eq_false (show ¬ (l ≤ i ∧ i ≤ m) from fun z => h1 z.1)] at q
      exact iteF q
end
end K51
/-! what is a machine -/
namespace K51
open PySem PySem.Spec PyProof.Rows L2 NdefX LamX
theorem map_get {α : Type} {xs : List α} {f : α → V} {i : Nat} {v : V} (h : (xs.map f)[i]? = some v) : ∃ x, xs[i]? = some x ∧ v = f x := by
  rw [List.getElem?_map] at h
  cases e : xs[i]? with
  | none => rw [e] at h; cases h
  | some x => rw [e] at h; exact ⟨x, rfl, (Option.some.inj h).symm⟩
section
variable {P : Program} {w : World} {K : PySem.W.Frag} {mg : Str → Option Value} {base : Heap}
def sp_look_at_room (T : List NTab) : Sp := fun vs H Q _ => ∃ (m : Addr) (M : Mac) (r : Nat), vs = [.ref m, ni r] ∧ MAt [] H m M ∧ r < M.n ∧ Q .non H
def sp_look_at_rooms (T : List NTab) : Sp := fun vs H Q _ => ∃ (n : Nat) (z : Str) (a : Addr) (rs : List Nat), vs = [ni n, .str z, .ref a] ∧ H a = some (.lst (rs.map ni)) ∧ rs.Pairwise (· < ·) ∧ (∀ r ∈ rs, r < n) ∧ ∀ H', Kp T [] H H' → Q .non H'
def sp_is_step : Sp := fun vs H Q _ => ∃ (n : Nat) (t : Addr) (s : Step), vs = [ni n, .ref t] ∧ H t = some (.tup (stepV s)) ∧ s.1 < n ∧ s.2.2 < n ∧ Let s.2.1 ∧ Q (.bl true) H
def sp_look_at_steps (T : List NTab) : Sp := fun vs H Q _ => ∃ (n : Nat) (a : Addr) (ts : List Addr) (S : List Step), vs = [ni n, .ref a] ∧ H a = some (.lst (ts.map V.ref)) ∧ StepsAt H ts S ∧ S.length ≤ 200 ∧ S.Nodup ∧ Below n S ∧ (∀ s ∈ S, Let s.2.1) ∧ ∀ H', Kp T [] H H' → Q .non H'
def sp_look_at (T : List NTab) : Sp := fun vs H Q _ => ∃ (m : Addr) (M : Mac), vs = [.ref m] ∧ MAt [] H m M ∧ M.Ok ∧ ∀ H', Kp T [] H H' → Q .non H'
variable {T : List NTab}
theorem ok_look_at_room (F : Fn K mg "look_at_room" s_look_at_room) (Tx : Txt mg) (D_is_within : DOk P w K mg base "is_within" 2 ["thing", "least", "most"] [] sp_is_within) : DOk P w K mg base "look_at_room" 3 ["machine", "room"] [] (sp_look_at_room T) := by
  refine F.dok sc_look_at_room b_look_at_room (fun vs H Q E h => ?_) (fun f cdv A outer s H vs Q E hr h => ?_)
  · obtain ⟨m, M, r, rfl, _⟩ := h
    rfl
  · obtain ⟨m, M, r, rfl, ⟨af, al, as, ts, hm⟩, hlt, q⟩ := h
    refine ⟨_, (pss_one (ps_if (pt_not (pt_val (pe_d D_is_within hr (by rfl) (pa_cons (pv 1) (pa_cons pe_int (pa_cons (pe_op op_sub (pe_ix ix_tup (pv 0) pe_int (fun _ _ => rfl)) pe_int) pa_nil))))))
      (pss_one ps_never) pss_nil)), ?_⟩
    refine ⟨_, rfl, .ref m, rfl, m, _, 0, _, rfl, rfl, SqT.of hm.m, rfl, _, _, rfl, rfl, r, 0, ((M.n : Int) - 1), rfl, _, rfl, ?_⟩
    rw [decide_eq_true (show (0 : Int) ≤ (r : Int) ∧ (r : Int) ≤ (M.n : Int) - 1 by omega)]
    exact iteF q
theorem ok_look_at_rooms (F : Fn K mg "look_at_rooms" s_look_at_rooms) (Tx : Txt mg) (D_is_within : DOk P w K mg base "is_within" 2 ["thing", "least", "most"] [] sp_is_within) : DOk P w K mg base "look_at_rooms" 3 ["many", "part", "thing"] [] (sp_look_at_rooms T) := by
  refine F.dok sc_look_at_rooms b_look_at_rooms (fun vs H Q E h => ?_) (fun f cdv A outer s H vs Q E hr h => ?_)
  · obtain ⟨n, z, a, rs, rfl, _⟩ := h
    rfl
  · obtain ⟨n, z, a, rs, rfl, ha, hp, hb, q⟩ := h
    refine ⟨_, (pss_cons (ps_if (pt_not (pt_val (pe_callB call_isi (by rfl) Tx.n_isinstance (by decide +kernel) (pa_cons (pv 2) (pa_cons (pe_bltn (v := .ty "list") (by rfl) Tx.n_list (by decide +kernel) rfl) pa_nil)))))
      (pss_one ps_never) pss_nil)
      (pss_cons (ps_set (i := 3) sc_look_at_rooms.nd rfl (by first | exact .inl rfl | exact .inr rfl) (pe_un un_neg pe_int))
      (pss_one (ps_for PassesOwn.never rfl (pi_enum (by rfl) Tx.n_enumerate (pa_cons (pv 2) pa_nil)) (pg_tup rfl (pgs_cons (pg_name (i := 4) sc_look_at_rooms.nd rfl (by first | exact .inl rfl | exact .inr rfl)) (pgs_cons (pg_name (i := 5) sc_look_at_rooms.nd rfl (by first | exact .inl rfl | exact .inr rfl)) pgs_nil)))
      (pss_cons (ps_if (pt_not (pt_val (pe_d D_is_within hr (by rfl) (pa_cons (pv 5) (pa_cons (pe_op op_add (pv 3) pe_int) (pa_cons (pe_op op_sub (pv 0) pe_int) pa_nil))))))
      (pss_one ps_never) pss_nil)
      (pss_one (ps_set (i := 3) sc_look_at_rooms.nd rfl (by first | exact .inl rfl | exact .inr rfl) (pv 5)))))))), ?_⟩
    refine ⟨_, rfl, _, .ty _, _, _, true, rfl, .ty _, ts_lst ha, kit_ty kb_list, true, rfl, ?_⟩
    refine iteF ?_
    refine ⟨_, rfl, ?_⟩
    refine ⟨_, rfl, a, _, rfl, SqL.of ha, for_it (walk_enum (xs := rs.map ni)) (fun i σ H1 => ∃ (l : Int) (y4 y5 : Option V), σ = [some (ni n), some (.str z), some (.ref a), some (.int l), y4, y5] ∧ Kp T [] H H1 ∧ i ≤ rs.length ∧ ∀ r, rs[i]? = some r → l < r) ⟨-1, _, _, rfl, Kp.refl H, Nat.zero_le _, fun r _ => by omega⟩ (fun i σ H1 _ h1 => ?_) (fun i x σ H1 H2 hi h1 y => ?_) (fun σ H1 h1 => ?_)⟩
    · obtain ⟨l, y4, y5, _, k, _⟩ := h1
      exact SqL.of (k.get ha)
    · obtain ⟨l, y4, y5, rfl, k, hi', hl⟩ := h1
      obtain ⟨t, x1, x2, rfl, nt, rfl, e1, e2⟩ := y
      cases e1
      obtain ⟨r, er, rfl⟩ := map_get e2
      have hlr := hl r er
      have hrn := hb r (List.mem_of_getElem? er)
      have k2 := k.snew (o := .tup [.int (i : Nat), ni r]) nt
      refine ⟨t, [.int (i : Nat), ni r], rfl, SqT.of upd_same, rfl, _, _, rfl, _, _, rfl, rfl, ?_⟩
      refine ⟨_, rfl, _, rfl, l, 1, rfl, rfl, _, rfl, (n : Int), 1, rfl, rfl, r, l + 1, (n : Int) - 1, rfl, _, rfl, ?_⟩
      rw [decide_eq_true (show l + 1 ≤ (r : Int) ∧ (r : Int) ≤ (n : Int) - 1 by omega)]
      refine iteF ⟨_, rfl, r, _, _, rfl, k2, ?_, fun r' er' => ?_⟩
      · rw [List.length_map] at hi
        omega
      · have h1 : i < rs.length := (List.getElem?_eq_some_iff.mp er).1
        have h2 : i + 1 < rs.length := (List.getElem?_eq_some_iff.mp er').1
        have h3 := List.pairwise_iff_getElem.mp hp i (i + 1) h1 h2 (by omega)
        rw [(List.getElem?_eq_some_iff.mp er).2, (List.getElem?_eq_some_iff.mp er').2] at h3
        omega
    · obtain ⟨l, y4, y5, rfl, k, _⟩ := h1
      exact q H1 k
theorem ok_is_step (F : Fn K mg "is_step" s_is_step) (Tx : Txt mg) (D_is_within : DOk P w K mg base "is_within" 2 ["thing", "least", "most"] [] sp_is_within) (D_is_sign : DOk P w K mg base "is_sign" 1 ["thing"] [] sp_is_sign) : DOk P w K mg base "is_step" 3 ["many", "thing"] [] sp_is_step := by
  refine F.dok sc_is_step b_is_step (fun vs H Q E h => ?_) (fun f cdv A outer s H vs Q E hr h => ?_)
  · obtain ⟨n, t, s, rfl, _⟩ := h
    rfl
  · obtain ⟨n, t, s, rfl, ht, h1, h2, h3, q⟩ := h
    refine ⟨_, (pss_cons (ps_if (PW.pt (pw_or (pt_not (pt_val (pe_callB call_isi (by rfl) Tx.n_isinstance (by decide +kernel) (pa_cons (pv 1) (pa_cons (pe_bltn (v := .ty "tuple") (by rfl) Tx.n_tuple (by decide +kernel) rfl) pa_nil))))) (pw_or (pt_cmpR op_ne (pe_callB call_len_seq (by rfl) Tx.n_len (by decide +kernel) (pa_cons (pv 1) pa_nil)) pe_int (nomark _)) (pw_or1 (pt_not (pt_val (pe_d D_is_sign hr (by rfl) (pa_cons (pe_ix ix_tup (pv 1) pe_int (fun _ _ => rfl)) pa_nil))))))))
      (pss_one (ps_ret pe_bl)) pss_nil)
      (pss_one (ps_ret (pe_and (pe_d D_is_within hr (by rfl) (pa_cons (pe_ix ix_tup (pv 1) pe_int (fun _ _ => rfl)) (pa_cons pe_int (pa_cons (pe_op op_sub (pv 0) pe_int) pa_nil)))) (pe_one (pe_d D_is_within hr (by rfl) (pa_cons (pe_ix ix_tup (pv 1) pe_int (fun _ _ => rfl)) (pa_cons pe_int (pa_cons (pe_op op_sub (pv 0) pe_int) pa_nil))))))))), ?_⟩
    refine ⟨_, rfl, _, .ty _, _, _, true, rfl, .ty _, ts_tup ht, kit_ty kb_tuple, true, rfl, ?_⟩
    refine iteF ?_
    refine ⟨_, rfl, t, _, rfl, .inr (SqT.of ht), rfl, _, rfl, ?_⟩
    refine iteF ?_
    refine ⟨_, rfl, t, _, 1, _, rfl, rfl, SqT.of ht, rfl, s.2.1, rfl, h3, true, rfl, ?_⟩
    refine iteF ?_
    refine ⟨_, rfl, t, _, 0, _, rfl, rfl, SqT.of ht, rfl, _, rfl, _, _, rfl, rfl, s.1, 0, (n : Int) - 1, rfl, true, ?_, iteT ?_⟩
    · rw [decide_eq_true (show (0 : Int) ≤ (s.1 : Int) ∧ (s.1 : Int) ≤ (n : Int) - 1 by omega)]
    · refine ⟨_, rfl, t, _, 2, _, rfl, rfl, SqT.of ht, rfl, _, rfl, _, _, rfl, rfl, s.2.2, 0, (n : Int) - 1, rfl, ?_⟩
      rw [decide_eq_true (show (0 : Int) ≤ (s.2.2 : Int) ∧ (s.2.2 : Int) ≤ (n : Int) - 1 by omega)]
      exact q
end
end K51
/-! what is a machine, further -/
namespace K51
open PySem PySem.Spec PyProof.Rows L2 NdefX LamX
/-- a step as a key -/
def kk (s : Step) : List Key := [Sum.inl (s.1 : Int), Sum.inr (one s.2.1), Sum.inl (s.2.2 : Int)]
theorem kk_inj {s t : Step} (h : kk s = kk t) : s = t := by
  obtain ⟨a, b, c⟩ := s
  obtain ⟨a', b', c'⟩ := t
  unfold kk at h
  simp only [List.cons.injEq, Sum.inl.injEq, Sum.inr.injEq, and_true] at h
  obtain ⟨h1, h2, h3⟩ := h
  have h2 := one_inj h2
  have h1 : a = a' := by omega
  have h3 : c = c' := by omega
  subst h1 h2 h3
  rfl
theorem kk_map (s : Step) : (kk s).map kV = stepV s := rfl
theorem seen_none {S : List Step} {s : Step} (h : s ∉ S) : valV (S.map fun t => (kk t, V.bl true)) (kk s) = none := by
  induction S with
  | nil => rfl
  | cons t S ih =>
    rw [List.map_cons, valV_neg (show ¬ (kk t, V.bl true).1 = kk s from fun z => h (by rw [← kk_inj z]; exact List.mem_cons_self))]
    exact ih fun z => h (List.mem_cons_of_mem _ z)
section
variable {P : Program} {w : World} {K : PySem.W.Frag} {mg : Str → Option Value} {base : Heap} {T : List NTab}
theorem ok_look_at_steps (F : Fn K mg "look_at_steps" s_look_at_steps) (Tx : Txt mg) (D_is_step : DOk P w K mg base "is_step" 3 ["many", "thing"] [] sp_is_step) : DOk P w K mg base "look_at_steps" 4 ["many", "thing"] [] (sp_look_at_steps T) := by
  refine F.dok sc_look_at_steps b_look_at_steps (fun vs H Q E h => ?_) (fun f cdv A outer s H vs Q E hr h => ?_)
  · obtain ⟨n, a, ts, S, rfl, _⟩ := h
    rfl
  · obtain ⟨n, a, ts, S, rfl, ha, hS, hlen, hnd, hbel, hlet, q⟩ := h
    have ltS := hS.len
    refine ⟨_, (pss_cons (ps_if (PW.pt (pw_or (pt_not (pt_val (pe_callB call_isi (by rfl) Tx.n_isinstance (by decide +kernel) (pa_cons (pv 1) (pa_cons (pe_bltn (v := .ty "list") (by rfl) Tx.n_list (by decide +kernel) rfl) pa_nil))))) (pw_or1 (pt_cmpR op_gt (pe_callB call_len_seq (by rfl) Tx.n_len (by decide +kernel) (pa_cons (pv 1) pa_nil)) (pe_ki (by rfl) Tx.c_MOST_STEPS) (nomark _)))))
      (pss_one ps_never) pss_nil)
      (pss_cons (ps_set (i := 2) sc_look_at_steps.nd rfl (by first | exact .inl rfl | exact .inr rfl) pe_dnewT)
      (pss_one (ps_for PassesOwn.never rfl (pi_enum (by rfl) Tx.n_enumerate (pa_cons (pv 1) pa_nil)) (pg_tup rfl (pgs_cons (pg_name (i := 3) sc_look_at_steps.nd rfl (by first | exact .inl rfl | exact .inr rfl)) (pgs_cons (pg_name (i := 4) sc_look_at_steps.nd rfl (by first | exact .inl rfl | exact .inr rfl)) pgs_nil)))
      (pss_cons (ps_if (PW.pt (pw_or (pt_not (pt_val (pe_d D_is_step hr (by rfl) (pa_cons (pv 0) (pa_cons (pv 4) pa_nil))))) (pw_or1 (pt_cmp (pc_din (hu_of hr) (pv 4) (pv 2))))))
      (pss_one ps_never) pss_nil)
      (pss_one (ps_dput (hu_of hr) (pv 2) (pv 4) pe_bl rfl))))))), ?_⟩
    refine ⟨_, rfl, _, .ty _, _, _, true, rfl, .ty _, ts_lst ha, kit_ty kb_list, true, rfl, ?_⟩
    refine iteF ?_
    refine ⟨_, rfl, a, _, rfl, .inl (SqL.of ha), _, _, rfl, rfl, ?_⟩
    refine ⟨false, ?_, iteF ?_⟩
    · show V.bl (decide ((200 : Int) < (((ts.map V.ref).length : Nat) : Int))) = V.bl false
      rw [decide_eq_false]
      rw [List.length_map, ltS]
      omega
    · intro d hd
      refine ⟨_, rfl, a, _, rfl, SqL.of (by rw [upd_ne (ne_of_none ha hd)]; exact ha), for_it (walk_enum (xs := ts.map V.ref)) (fun i σ H1 => ∃ (y3 y4 : Option V), σ = [some (ni n), some (.ref a), some (.ref d), y3, y4] ∧ Kp T [] H H1 ∧ H1 d = some (.dT ((S.take i).map fun s => (kk s, V.bl true)))) ⟨_, _, rfl, (Kp.refl H).snew hd, upd_same⟩ (fun i σ H1 _ h1 => ?_) (fun i x σ H1 H2 hi h1 y => ?_) (fun σ H1 h1 => ?_)⟩
      · obtain ⟨y3, y4, _, k, _⟩ := h1
        exact SqL.of (k.get ha)
      · obtain ⟨y3, y4, rfl, k, hdd⟩ := h1
        obtain ⟨t, x1, x2, rfl, nt, rfl, e1, e2⟩ := y
        cases e1
        obtain ⟨t', s', rfl, et, es, hts⟩ := hS.get e2
        have hmem : s' ∈ S := List.mem_of_getElem? es
        have k2 := k.snew (o := .tup [.int (i : Nat), .ref t']) nt
        have ht' := k2.get hts
        have nd : d ≠ t := ne_of_none hdd nt
        have hd2 : upd H1 t (.tup [.int (i : Nat), .ref t']) d = some (.dT ((S.take i).map fun s => (kk s, V.bl true))) := by rw [upd_ne nd]; exact hdd
        have hno : s' ∉ S.take i := fun z => by
          have h1 : i < S.length := (List.getElem?_eq_some_iff.mp es).1
          obtain ⟨j, hj, ej⟩ := List.mem_iff_getElem.mp z
          rw [List.getElem_take] at ej
          have hj' : j < i := by
            rw [List.length_take] at hj
            omega
          have h3 := List.pairwise_iff_getElem.mp hnd j i (by omega) h1 hj'
          rw [ej, (List.getElem?_eq_some_iff.mp es).2] at h3
          exact h3 rfl
        refine ⟨t, [.int (i : Nat), .ref t'], rfl, SqT.of upd_same, rfl, _, _, rfl, _, _, rfl, rfl, ?_⟩
        refine ⟨_, rfl, _, rfl, n, t', s', rfl, ht', (hbel _ hmem).1, (hbel _ hmem).2, hlet _ hmem, true, rfl, ?_⟩
        refine iteF ?_
        refine ⟨_, rfl, _, rfl, d, _, rfl, DGet.t hd2 (k := kk s') (by rw [kk_map]; exact ht'), false, by rw [seen_none hno]; rfl, ?_⟩
        refine iteF ?_
        refine ⟨_, rfl, _, rfl, d, _, rfl, DPut.t hd2 (k := kk s') (by rw [kk_map]; exact ht') (by
          rw [List.length_map, List.length_take]
          exact sz_lt (by omega)), ?_⟩
        refine ⟨_, _, rfl, k2.mut (.inl hd) hd2, ?_⟩
        rw [upd_same, putK_new _ (seen_none hno), List.take_add_one, es, List.map_append]
        rfl
      · obtain ⟨y3, y4, rfl, k, _⟩ := h1
        exact q H1 k
theorem ok_look_at (F : Fn K mg "look_at" s_look_at) (Tx : Txt mg) (D_is_within : DOk P w K mg base "is_within" 2 ["thing", "least", "most"] [] sp_is_within)
    (D_look_at_rooms : DOk P w K mg base "look_at_rooms" 3 ["many", "part", "thing"] [] (sp_look_at_rooms T)) (D_look_at_steps : DOk P w K mg base "look_at_steps" 4 ["many", "thing"] [] (sp_look_at_steps T)) :
    DOk P w K mg base "look_at" 5 ["thing"] [] (sp_look_at T) := by
  refine F.dok sc_look_at b_look_at (fun vs H Q E h => ?_) (fun f cdv A outer s H vs Q E hr h => ?_)
  · obtain ⟨m, M, rfl, _⟩ := h
    rfl
  · obtain ⟨m, M, rfl, ⟨af, al, as, ts, hm⟩, ok, q⟩ := h
    refine ⟨_, (pss_cons (ps_if (PW.pt (pw_or (pt_not (pt_val (pe_callB call_isi (by rfl) Tx.n_isinstance (by decide +kernel) (pa_cons (pv 0) (pa_cons (pe_bltn (v := .ty "tuple") (by rfl) Tx.n_tuple (by decide +kernel) rfl) pa_nil))))) (pw_or1 (pt_cmpR op_ne (pe_callB call_len_seq (by rfl) Tx.n_len (by decide +kernel) (pa_cons (pv 0) pa_nil)) pe_int (nomark _)))))
      (pss_one ps_never) pss_nil)
      (pss_cons (ps_asg (pv 0) (pg_tup rfl (pgs_cons (pg_name (i := 1) sc_look_at.nd rfl (by first | exact .inl rfl | exact .inr rfl)) (pgs_cons (pg_name (i := 2) sc_look_at.nd rfl (by first | exact .inl rfl | exact .inr rfl)) (pgs_cons (pg_name (i := 3) sc_look_at.nd rfl (by first | exact .inl rfl | exact .inr rfl)) (pgs_cons (pg_name (i := 4) sc_look_at.nd rfl (by first | exact .inl rfl | exact .inr rfl)) pgs_nil))))))
      (pss_cons (ps_if (pt_not (pt_val (pe_d D_is_within hr (by rfl) (pa_cons (pv 1) (pa_cons pe_int (pa_cons (pe_ki (by rfl) Tx.c_MOST_ROOMS) pa_nil))))))
      (pss_one ps_never) pss_nil)
      (pss_cons (ps_expr (pe_d D_look_at_rooms hr (by rfl) (pa_cons (pv 1) (pa_cons pe_str (pa_cons (pv 2) pa_nil)))))
      (pss_cons (ps_expr (pe_d D_look_at_rooms hr (by rfl) (pa_cons (pv 1) (pa_cons pe_str (pa_cons (pv 3) pa_nil)))))
      (pss_one (ps_expr (pe_d D_look_at_steps hr (by rfl) (pa_cons (pv 1) (pa_cons (pv 4) pa_nil)))))))))), ?_⟩
    refine ⟨_, rfl, _, .ty _, _, _, true, rfl, .ty _, ts_tup hm.m, kit_ty kb_tuple, true, rfl, ?_⟩
    refine iteF ?_
    refine ⟨_, rfl, m, _, rfl, .inr (SqT.of hm.m), rfl, _, rfl, ?_⟩
    refine iteF ?_
    refine ⟨_, rfl, m, _, rfl, SqT.of hm.m, rfl, _, _, rfl, _, _, rfl, _, _, rfl, _, _, rfl, rfl, ?_⟩
    have hlo := ok.lo
    have hhi := ok.hi
    refine ⟨_, rfl, (M.n : Int), 1, 12, rfl, true, ?_, ?_⟩
    · rw [decide_eq_true (show (1 : Int) ≤ (M.n : Int) ∧ (M.n : Int) ≤ 12 by omega)]
    · refine iteF ?_
      refine ⟨_, rfl, _, rfl, M.n, _, af, M.fs, rfl, hm.f, ok.fs, ok.fb, fun H1 k1 => ?_⟩
      refine ⟨_, rfl, _, rfl, M.n, _, al, M.ls, rfl, k1.get hm.l, ok.ls, ok.lb, fun H2 k2 => ?_⟩
      have k12 := k1.trans k2
      refine ⟨_, rfl, _, rfl, M.n, as, ts, M.S, rfl, k12.get hm.s, hm.st.kp k12 (fun _ z => nomatch z), ok.few, ok.nd, ok.bel, ok.let', fun H3 k3 => ?_⟩
      exact q H3 (k12.trans k3)
/-- the machine turned about -/
def turnM (M : Mac) : Mac := ⟨M.n, M.ls, M.fs, turnS M.S⟩
theorem turn_ok {M : Mac} (ok : M.Ok) : (turnM M).Ok where
  lo := ok.lo
  hi := ok.hi
  fs := ok.ls
  fb := ok.lb
  ls := ok.fs
  lb := ok.fb
  few := by
    show (turnS M.S).length ≤ 200
    unfold turnS
    rw [List.length_map]
    exact ok.few
  nd := by
    show (turnS M.S).Nodup
    unfold turnS
    refine List.Pairwise.map _ (fun a b h z => h ?_) ok.nd
    obtain ⟨a1, a2, a3⟩ := a
    obtain ⟨b1, b2, b3⟩ := b
    simp only [Prod.mk.injEq] at z ⊢
    exact ⟨z.2.2, z.2.1, z.1⟩
  bel := below_turn ok.bel
  let' := fun s hs => by
    obtain ⟨t, ht, e⟩ := List.mem_map.mp hs
    rw [← e]
    exact ok.let' t ht
def sp_turned (T : List NTab) : Sp := fun vs H Q _ => ∃ (m : Addr) (M : Mac), vs = [.ref m] ∧ MAt [] H m M ∧ M.Ok ∧ ∀ H' p, Kp T [] H H' → MAt [] H' p (turnM M) → Q (.ref p) H'
theorem ok_turned (F : Fn K mg "turned" s_turned) (Tx : Txt mg) (D_look_at : DOk P w K mg base "look_at" 5 ["thing"] [] (sp_look_at T)) : DOk P w K mg base "turned" 6 ["machine"] [] (sp_turned T) := by
  refine F.dok sc_turned b_turned (fun vs H Q E h => ?_) (fun f cdv A outer s H vs Q E hr h => ?_)
  · obtain ⟨m, M, rfl, _⟩ := h
    rfl
  · obtain ⟨m, M, rfl, hM, ok, q⟩ := h
    refine ⟨_, (pss_cons (ps_expr (pe_d D_look_at hr (by rfl) (pa_cons (pv 0) pa_nil)))
      (pss_cons (ps_asg (pv 0) (pg_tup rfl (pgs_cons (pg_name (i := 1) sc_turned.nd rfl (by first | exact .inl rfl | exact .inr rfl)) (pgs_cons (pg_name (i := 2) sc_turned.nd rfl (by first | exact .inl rfl | exact .inr rfl)) (pgs_cons (pg_name (i := 3) sc_turned.nd rfl (by first | exact .inl rfl | exact .inr rfl)) (pgs_cons (pg_name (i := 4) sc_turned.nd rfl (by first | exact .inl rfl | exact .inr rfl)) pgs_nil))))))
      (pss_one (ps_ret (pe_tup (pa_cons (pv 1) (pa_cons (pe_callTy call_list_of (by rfl) Tx.n_list (by decide +kernel) (pa_cons (pv 3) pa_nil)) (pa_cons (pe_callTy call_list_of (by rfl) Tx.n_list (by decide +kernel) (pa_cons (pv 2) pa_nil)) (pa_cons (pe_lc (own := [("one", 5), ("sign", 6), ("other", 7)]) (g := gTup K 3 (gCons (gName 5) (gCons (gName 6) (gCons (gName 7) gNil)))) (tt := tYes) (by rfl) sc_turned.nd (pi_list (pv 4)) (blkOk_by (N := ["machine", "many", "firsts", "lasts", "steps", "one", "sign", "other"]) (sc := (defScope s_turned)) (own := [("one", 5), ("sign", 6), ("other", 7)]) (by decide +kernel)) (fun _ _ _ _ _ => (pg_tup rfl (pgs_cons (pg_name (i := 5) sc_turned.nd rfl (by first | exact .inl rfl | exact .inr rfl)) (pgs_cons (pg_name (i := 6) sc_turned.nd rfl (by first | exact .inl rfl | exact .inr rfl)) (pgs_cons (pg_name (i := 7) sc_turned.nd rfl (by first | exact .inl rfl | exact .inr rfl)) pgs_nil))))) (fun _ _ _ _ _ => pts_nil) (fun _ _ _ _ _ => (pe_tup (pa_cons (pv 7) (pa_cons (pv 6) (pa_cons (pv 5) pa_nil)))))) pa_nil))))))))), ?_⟩
    refine ⟨_, rfl, m, M, rfl, hM, ok, fun H1 k1 => ?_⟩
    obtain ⟨af, al, as, ts, hm⟩ := hM.kp k1
    refine ⟨_, rfl, m, _, rfl, SqT.of hm.m, rfl, _, _, rfl, _, _, rfl, _, _, rfl, _, _, rfl, rfl, ?_⟩
    refine ⟨_, rfl, _, rfl, al, _, rfl, .inl (SqL.of hm.l), fun nl hnl => ?_⟩
    have k2 := k1.snew (o := .lst (M.ls.map ni)) hnl
    have k2' : Kp T [] H1 (upd H1 nl (.lst (M.ls.map ni))) := Kp.new hnl
    have hm2 := hm.kp k2' (fun _ z => nomatch z)
    refine ⟨_, rfl, af, _, rfl, .inl (SqL.of hm2.f), fun nf hnf => ?_⟩
    have k3 := k2.snew (o := .lst (M.fs.map ni)) hnf
    have k3' : Kp T [] H1 (upd (upd H1 nl (.lst (M.ls.map ni))) nf (.lst (M.fs.map ni))) := k2'.snew hnf
    have hm3 := hm.kp k3' (fun _ z => nomatch z)
    have lts := hm.st.len
    have few := ok.few
    refine ⟨_, rfl, as, rfl, ⟨_, SqL.of hm3.s⟩, fun D hD => ?_⟩
    refine lc_it (walk_list (xs := ts.map V.ref)) (fun i H4 => Kp T [] (upd (upd H1 nl (.lst (M.ls.map ni))) nf (.lst (M.fs.map ni))) H4 ∧ ∃ us, H4 D = some (.lst (us.map V.ref)) ∧ StepsAt H4 us (turnS (M.S.take i))) ⟨Kp.new hD, [], upd_same, .nil⟩ (fun i H4 _ h4 => SqL.of (h4.1.get hm3.s)) (fun i x H4 H5 hi h4 y => ?_) (fun H4 h4 => ?_)
    · obtain ⟨k4, us, eD, hus⟩ := h4
      obtain ⟨rfl, e2⟩ := y
      obtain ⟨t', s', rfl, et, es, hts⟩ := hm3.st.get e2
      have ht' := k4.get hts
      refine ⟨t', _, rfl, SqT.of ht', rfl, _, _, rfl, _, _, rfl, _, _, rfl, rfl, rfl, ?_⟩
      refine ⟨_, rfl, _, rfl, _, rfl, (by show 3 ≤ sizeLine; decide), fun p hp => ?_⟩
      have nD : D ≠ p := ne_of_none eD hp
      have k5 := k4.snew (o := .tup (stepV (s'.2.2, s'.2.1, s'.1))) hp
      have ll : us.length ≤ 200 := by
        rw [hus.len]
        unfold turnS
        rw [List.length_map, List.length_take]
        omega
      refine ⟨us.map V.ref, by rw [upd_ne nD]; exact eD, by rw [List.length_map]; exact sz_lt (by omega), k5.mut (.inl hD) (by rw [upd_ne nD]; exact eD), us ++ [p], by rw [upd_same, List.map_append]; rfl, ?_⟩
      have e3 : turnS (M.S.take (i + 1)) = turnS (M.S.take i) ++ [(s'.2.2, s'.2.1, s'.1)] := by
        rw [List.take_add_one, es]
        unfold turnS
        rw [List.map_append]
        rfl
      rw [e3]
      refine Paired.snoc (Paired.mapP hus fun t s e => ?_) ?_
      · rw [upd_ne (ne_of e eD (by intro z; cases z)).symm.symm, upd_ne (ne_of_none e hp)]
        exact e
      · rw [upd_ne nD.symm, upd_same]
    · obtain ⟨k4, us, eD, hus⟩ := h4
      refine ⟨(by show 4 ≤ sizeLine; decide), fun p hp => ?_⟩
      have k5 := k4.snew (o := .tup [ni M.n, .ref nl, .ref nf, .ref D]) hp
      have hnl2 : upd (upd H1 nl (.lst (M.ls.map ni))) nf (.lst (M.fs.map ni)) nl = some (.lst (M.ls.map ni)) := by
        rw [upd_ne (ne_of_none upd_same hnf), upd_same]
      refine q _ p ((k3.trans k4).snew hp) ⟨nl, nf, D, us, upd_same, k5.get hnl2, k5.get upd_same, by rw [upd_ne (ne_of_none eD hp)]; exact eD, ?_, by simp, by simp, by simp⟩
      have e4 : turnS (M.S.take (ts.map V.ref).length) = turnS M.S := by
        rw [List.take_of_length_le (by rw [List.length_map, lts]; exact Nat.le_refl _)]
      rw [e4] at hus
      exact Paired.mapP hus fun t s e => by
        rw [upd_ne (ne_of_none e hp)]
        exact e
end
end K51
/-! rules that the layer lacks -/
namespace K51
open PySem PySem.Spec PyProof.Rows L2 NdefX LamX
/-- len of a list, a tuple -/
def rLenQ (K : PySem.W.Frag) : List V → Hp → VK → Prop := fun xs H Q => ∃ p ys, xs = [.ref p] ∧ (SqL K H p ys ∨ SqT K H p ys) ∧ Q (.int ys.length) H
section
variable {X : Cx}
/-! ### numbers, bools -/
theorem ip_orB : PIp X .BitOr (fun x y H Q => ∃ a b, x = .bl a ∧ y = .bl b ∧ Q (.bl (a || b)) H) := by
  intro pins s σ H x y v u Q I rx ry h
  obtain ⟨a, b, rfl, rfl, q⟩ := h
  cases rx
  cases ry
  exact ior_bool ⟨.bl _, H, I, rfl, q⟩
/-! ### a list held against the empty one -/
theorem op_eqNil (hu : X.A.units < cLine) : OpR X (compareOp .Eq) (fun x y H Q => ∃ a b xs, x = .ref a ∧ y = .ref b ∧ SqL X.K H a xs ∧ SqL X.K H b [] ∧ Q (.bl xs.isEmpty) H) := by
  intro pins s σ H x y v u Q I rx ry h
  obtain ⟨a, b, xs, rfl, rfl, ha, hb, q⟩ := h
  cases rx
  cases ry
  obtain ⟨its, r, hl, _⟩ := I.list ha
  obtain ⟨its2, r2, hl2, _⟩ := I.list hb
  cases r2
  cases r with
  | nil => exact SeqAt.eq_listAt (e := fun _ => true) hl.isList hl2.isList rfl hu (fun j h1 => absurd h1 (by simp)) ⟨.bl true, H, I, rfl, q⟩
  | cons r0 rr => exact SeqAt.eq_list_lengthsAt hl.isList hl2.isList (by simp) hu ⟨.bl false, H, I, rfl, q⟩
theorem op_neNil (hu : X.A.units < cLine) : OpR X (compareOp .NotEq) (fun x y H Q => ∃ a b xs, x = .ref a ∧ y = .ref b ∧ SqL X.K H a xs ∧ SqL X.K H b [] ∧ Q (.bl (!xs.isEmpty)) H) := by
  intro pins s σ H x y v u Q I rx ry h
  obtain ⟨a, b, xs, rfl, rfl, ha, hb, q⟩ := h
  cases rx
  cases ry
  obtain ⟨its, r, hl, _⟩ := I.list ha
  obtain ⟨its2, r2, hl2, _⟩ := I.list hb
  cases r2
  cases r with
  | nil => exact SeqAt.RcNeAt.lists (e := fun _ => true) hl.isList hl2.isList rfl hu (fun j h1 => absurd h1 (by simp)) X.prog X.w _ _ ⟨.bl false, H, I, rfl, q⟩
  | cons r0 rr => exact SeqAt.RcNeAt.lists_lengths hl.isList hl2.isList (by simp) hu X.prog X.w _ _ ⟨.bl true, H, I, rfl, q⟩
/-! ### texts -/
def rpS (k : Nat) (z : Str) : Str := ⟨(List.replicate k z.cps).foldl (· ++ ·) #[]⟩
theorem foldl_rep (z : Array Nat) : ∀ (k : Nat) (a : Array Nat), ((List.replicate k z).foldl (· ++ ·) a).toList = a.toList ++ (List.replicate k z.toList).flatten
  | 0, a => by simp
  | k + 1, a => by
    rw [List.replicate_succ, List.foldl_cons, foldl_rep z k, List.replicate_succ, List.flatten_cons]
    simp
theorem rpS_tx (k : Nat) (w : List Nat) : rpS k (tx w) = tx (rp k w) := by
  unfold rpS tx rp
  congr 1
  have := foldl_rep w.toArray k #[]
  simp at this
  rw [← this]
/-- text * number -/
theorem op_mulS : OpR X (binaryOp .Mult) (fun x y H Q => ∃ w n, x = .str (tx w) ∧ y = .int (n : Nat) ∧ n * w.length ≤ 1000000 ∧ n ≤ 1000000 ∧ Q (.str (tx (rp n w))) H) := by
  intro pins s σ H x y v u Q I rx ry h
  obtain ⟨w, n, rfl, rfl, hz, hn, q⟩ := h
  obtain ⟨t, rfl⟩ := rx
  obtain ⟨t', rfl⟩ := ry
  have hlen := tx_len w
  refine P.mul_str ?_ (fun h1 h2 => ?_) (fun h1 h2 => ?_) ?_
  · rw [decide_eq_false (by omega), decide_eq_false (by omega)]
    rfl
  · have hw : 0 < n := by omega
    intro hgt
    have h3 : (2 ^ 63 - 1 : Int) / (n : Int) < ((tx w).length : Int) := hgt
    have h4 := Int.lt_ediv_add_one_mul_self (2 ^ 63 - 1 : Int) (show (0 : Int) < (n : Int) by omega)
    have h5 : ((2 ^ 63 - 1 : Int) / (n : Int) + 1) * (n : Int) ≤ ((tx w).length : Int) * (n : Int) := Int.mul_le_mul_of_nonneg_right (by omega) (by omega)
    have h6 : ((tx w).length : Int) * (n : Int) = ((n * w.length : Nat) : Int) := by
      rw [hlen, Int.natCast_mul, Int.mul_comm]
    rw [h6] at h5
    omega
  · have h7 : (tx w).length * ((n : Nat) : Int).toNat ≤ sizeLine := by
      rw [hlen, Int.toNat_natCast, Nat.mul_comm]
      exact sz_ok hz
    unfold Builtin.Str.tooLong
    exact decide_eq_false (by omega)
  · by_cases c1 : (n : Int) < 1
    · rw [if_pos c1]
      have e : n = 0 := by omega
      subst e
      exact ⟨by decide, .str _, H, I.tok _, ⟨_, rfl⟩, q⟩
    · rw [if_neg c1]
      by_cases c2 : ((n : Int) == 1 || (tx w).length == 0) = true
      · rw [if_pos c2]
        have e : rp n w = w := by
          simp only [Bool.or_eq_true, beq_iff_eq] at c2
          rcases c2 with c | c
          · have e : n = 1 := by omega
            subst e
            exact rp_one w
          · rw [hlen] at c
            have e : w = [] := List.eq_nil_of_length_eq_zero c
            subst e
            unfold rp
            simp
        rw [e] at q
        exact ⟨.str (tx w), H, I, ⟨t, rfl⟩, q⟩
      · rw [if_neg c2]
        have e : (⟨(List.replicate ((n : Nat) : Int).toNat (tx w).cps).foldl (· ++ ·) #[]⟩ : Str) = tx (rp n w) := by
          rw [Int.toNat_natCast]
          exact rpS_tx n w
        rw [e]
        refine ⟨?_, .str _, H, I.tok _, ⟨_, rfl⟩, q⟩
        rw [tx_len, rp_length]
        exact sz_ok hz
/-- text[::-1] -/
def tRevS (te : TE) : TE := fun σ H Q => te σ H fun x H1 => ∃ w : List Nat, x = .str (tx w) ∧ w.length ≤ 1000000 ∧ Q (.str (tx w.reverse)) H1
theorem rev_map_getD (w : List Nat) : ((List.range w.length).map fun k => w.toArray.getD (w.length - 1 - k) 0) = w.reverse := by
  apply List.ext_getElem
  · simp
  · intro i h1 h2
    simp at h1 h2 ⊢
    simp [show w.length - 1 - i < w.length by omega]
theorem revS_tx (w : List Nat) (u : Tok) : Txt.sliceBy (tx w) none none (-1, u) = tx w.reverse := by
  have h := PyProof.Rows.step_rev_list (tx w) u
  rw [tx_len] at h
  have h2 : ((List.range w.length).map fun k => (tx w).cps.getD (w.length - 1 - k) 0) = w.reverse := rev_map_getD w
  rw [h2] at h
  unfold tx at h ⊢
  generalize Txt.sliceBy ⟨w.toArray⟩ none none (-1, u) = c at h
  obtain ⟨c⟩ := c
  congr 1
  rw [← h]
theorem pe_revS {e : Expr} {te : TE} {k : Nat} {p1 p2 p3 pos : Pos} (he : PE X e te) : PE X (.Subscript e (.Slice none none (some (.UnaryOp .USub (.Constant (.int 1) k p1) p2)) p3) pos) (tRevS te) := by
  refine ⟨fun pins s σ H Q I h => ?_⟩
  refine Subscript_ (thn (he.run pins s σ H _ I h) fun v s1 ⟨x, H1, I1, r1, q1⟩ => ?_)
  obtain ⟨w, ex, hz, q⟩ := q1
  subst ex
  obtain ⟨t, rfl⟩ := r1
  have hst : PO X (some (.UnaryOp .USub (.Constant (.int 1) k p1) p2)) (tPart (tUn (rU fun i => .int (-i)) (tC (.int 1)))) := po_some (pe_un un_neg pe_int)
  refine wpAny_Slice (thn (po_none.run pins s1 σ H1 (fun o H2 => o = none ∧ H2 = H1) I1 ⟨rfl, rfl⟩) fun vl s2 ⟨l, H2, I2, pl, el, e2⟩ => ?_)
  subst el e2
  refine thn (po_none.run pins s2 σ H2 (fun o H3 => o = none ∧ H3 = H2) I2 ⟨rfl, rfl⟩) fun vu s3 ⟨u, H3, I3, pu, eu, e3⟩ => ?_
  subst eu e3
  refine thn (hst.run pins s3 σ H3 (fun o H4 => o = some (-1) ∧ H4 = H3) I3 ⟨1, rfl, -1, rfl, rfl, rfl⟩) fun vs s4 ⟨o, H4, I4, ps, eo, e4⟩ => ?_
  subst eo e4
  have I5 : Inv X pins σ H4 { s4 with heap := s4.heap.push { cls := .type "slice", data := .fields #[vl, vu, vs] } } := I4.kept (t' := s4.toks) fun b ob q => Heap.get?_push_of_some _ q
  obtain ⟨ll, rfl, el⟩ := IsPart.raw pl
  obtain ⟨uu, rfl, eu⟩ := IsPart.raw pu
  obtain ⟨ss, rfl, es⟩ := IsPart.raw ps
  cases ll with
  | some z => cases el
  | none =>
  cases uu with
  | some z => cases eu
  | none =>
  cases ss with
  | none => cases es
  | some z =>
  obtain ⟨z, tz⟩ := z
  have ez : z = -1 := Option.some.inj es
  subst ez
  show wpAny (model X.prog X.w) X.A (subscriptTail e (.Slice none none (some (.UnaryOp .USub (.Constant (.int 1) k p1) p2)) p3) (.str (tx w) t) (.ref s4.heap.objs.size)) (EP X pins σ Q) X.xe { s4 with heap := s4.heap.push { cls := .type "slice", data := .fields #[partValue none, partValue none, partValue (some (-1, tz))] } }
  refine tail_any (ops := [.ref s4.heap.objs.size, .str (tx w) t]) (typeIs_str _ _ _) F.slot_str_getitem.lookup ?_ (by with_unfolding_all rfl)
  refine wpAny_getItem_str_slice (l := none) (u := none) (st := some (-1, tz)) ⟨_, Heap.get?_push_size _ rfl, rfl, rfl⟩ rfl ?_
  have hl : (Txt.sliceBy (tx w) none none (-1, tz)).length ≤ sizeLine := by
    rw [revS_tx, tx_len, List.length_reverse]
    exact sz_ok hz
  have q' := q
  rw [← revS_tx w tz] at q'
  exact post_val_or_str ⟨hl, fun t' c => ⟨.str _, H4, I5.tok _, ⟨_, rfl⟩, q'⟩⟩
/-! ### every second item -/
def pick {α : Type} (ks : List Nat) (xs : List α) : List α := ks.filterMap fun i => xs[i]?
def evI (n : Nat) : List Nat := (List.range ((n + 1) / 2)).map fun i => 2 * i
def odI (n : Nat) : List Nat := (List.range (n / 2)).map fun i => 2 * i + 1
theorem vals_pick {xs : List V} {us : List Value} (r : Vals xs us) : ∀ ks : List Nat, Vals (pick ks xs) (pick ks us)
  | [] => .nil
  | k :: ks => by
    unfold pick
    rw [List.filterMap_cons, List.filterMap_cons]
    cases e : xs[k]? with
    | none =>
      rw [r.none_of e]
      exact vals_pick r ks
    | some x =>
      obtain ⟨u, hu, ru⟩ := r.get e
      rw [hu]
      exact .cons ru (vals_pick r ks)
theorem sl_ev (items : Array Value) : slicePick items none none (some 2) = (pick (evI items.size) items.toList).toArray := by
  have e : sliceBounds none none (some 2) items.size = (0, (items.size : Int), 2) := by simp [sliceBounds]
  unfold slicePick
  rw [e]
  show ((sliceRange 0 (items.size : Int) 2).filterMap (items[·]?)).toArray = _
  congr 1
  have e2 : sliceRange 0 (items.size : Int) 2 = evI items.size := by
    unfold sliceRange evI
    by_cases h : (0 : Int) < (items.size : Int)
    · simp only [show (2 : Int) > 0 by decide, if_true, h]
      have e3 : (((items.size : Int) - 0 + 2 - 1) / 2).toNat = (items.size + 1) / 2 := by omega
      rw [e3]
      refine List.map_congr_left fun k _ => ?_
      omega
    · have e0 : items.size = 0 := by omega
      rw [e0]
      rfl
  rw [e2]
  unfold pick
  simp
theorem sl_od (items : Array Value) : slicePick items (some 1) none (some 2) = (pick (odI items.size) items.toList).toArray := by
  have e : sliceBounds (some 1) none (some 2) items.size = (max 0 (min 1 (items.size : Int)), (items.size : Int), 2) := by simp [sliceBounds]
  unfold slicePick
  rw [e]
  show ((sliceRange (max 0 (min 1 (items.size : Int))) (items.size : Int) 2).filterMap (items[·]?)).toArray = _
  congr 1
  have e2 : sliceRange (max 0 (min 1 (items.size : Int))) (items.size : Int) 2 = odI items.size := by
    unfold sliceRange odI
    by_cases h : (max 0 (min 1 (items.size : Int))) < (items.size : Int)
    · simp only [show (2 : Int) > 0 by decide, if_true, h]
      have e3 : (((items.size : Int) - max 0 (min 1 (items.size : Int)) + 2 - 1) / 2).toNat = items.size / 2 := by omega
      rw [e3]
      refine List.map_congr_left fun k _ => ?_
      omega
    · simp only [show (2 : Int) > 0 by decide, if_true, h, if_false]
      have e0 : items.size / 2 = 0 := by omega
      rw [e0]
      rfl
  rw [e2]
  unfold pick
  simp
def tPick (K : PySem.W.Frag) (f : Nat → List Nat) (te : TE) : TE := fun σ H Q => te σ H fun x H1 => ∃ a xs, x = .ref a ∧ SqL K H1 a xs ∧ ∀ p, H1 p = none → Q (.ref p) (upd H1 p (.lst (pick (f xs.length) xs)))
theorem pick_len {α : Type} {xs : List α} {f : Nat → List Nat} (hf : ∀ n, (f n).length ≤ n) : (pick (f xs.length) xs).length ≤ xs.length := Nat.le_trans (List.length_filterMap_le _ _) (hf _)
theorem evI_len (n : Nat) : (evI n).length ≤ n := by
  unfold evI
  rw [List.length_map, List.length_range]
  omega
theorem odI_len (n : Nat) : (odI n).length ≤ n := by
  unfold odI
  rw [List.length_map, List.length_range]
  omega
theorem pe_evs {e : Expr} {te : TE} {k : Nat} {p1 p3 pos : Pos} (he : PE X e te) : PE X (.Subscript e (.Slice none none (some (.Constant (.int 2) k p1)) p3) pos) (tPick X.K evI te) := by
  refine ⟨fun pins s σ H Q I h => ?_⟩
  refine Subscript_ (thn (he.run pins s σ H _ I h) fun v s1 ⟨x, H1, I1, r1, q1⟩ => ?_)
  obtain ⟨a, xs, ex, hx, q⟩ := q1
  subst ex
  cases r1
  have hst : PO X (some (.Constant (.int 2) k p1)) (tPart (tC (.int 2))) := po_some pe_int
  refine wpAny_Slice (thn (po_none.run pins s1 σ H1 (fun o H2 => o = none ∧ H2 = H1) I1 ⟨rfl, rfl⟩) fun vl s2 ⟨l, H2, I2, pl, el, e2⟩ => ?_)
  subst el e2
  refine thn (po_none.run pins s2 σ H2 (fun o H3 => o = none ∧ H3 = H2) I2 ⟨rfl, rfl⟩) fun vu s3 ⟨u, H3, I3, pu, eu, e3⟩ => ?_
  subst eu e3
  refine thn (hst.run pins s3 σ H3 (fun o H4 => o = some 2 ∧ H4 = H3) I3 ⟨2, rfl, rfl, rfl⟩) fun vs s4 ⟨o, H4, I4, ps, eo, e4⟩ => ?_
  subst eo e4
  have I5 : Inv X pins σ H4 { s4 with heap := s4.heap.push { cls := .type "slice", data := .fields #[vl, vu, vs] } } := I4.kept (t' := s4.toks) fun b ob q => Heap.get?_push_of_some _ q
  obtain ⟨its, r, ht, hz⟩ := I5.list hx
  have hlen := r.length
  show wpAny (model X.prog X.w) X.A (subscriptTail e (.Slice none none (some (.Constant (.int 2) k p1)) p3) (.ref a) (.ref s4.heap.objs.size)) (EP X pins σ Q) X.xe { s4 with heap := s4.heap.push { cls := .type "slice", data := .fields #[vl, vu, vs] } }
  refine tail_any (ops := [.ref a, .ref s4.heap.objs.size]) ht.isList.typeIs (PySem.slot_list_getitem.lookup) ?_ (by with_unfolding_all rfl)
  refine wpAny_getItem_list_slice ht.isList (Heap.IsSliceOf.new _ vl vu vs) pl pu ps (by decide) ?_ (by rw [List.size_toArray]; omega)
  rw [sl_ev]
  refine ⟨.ref _, _, I5.laid (t' := s4.toks) (o := .lst (pick (evI xs.length) xs)) (fun b ob q => Heap.get?_push_of_some _ q) (Nat.le_refl _) ?_, rfl, q _ (I5.hok.fresh (Nat.le_refl _))⟩
  exact ⟨Nat.le_trans (pick_len evI_len) hz, _, 0, vals_pick r _, by rw [hlen]; exact Heap.get?_push_size _ rfl⟩
theorem pe_ods {e : Expr} {te : TE} {k k2 : Nat} {p1 p2 p3 pos : Pos} (he : PE X e te) : PE X (.Subscript e (.Slice (some (.Constant (.int 1) k2 p2)) none (some (.Constant (.int 2) k p1)) p3) pos) (tPick X.K odI te) := by
  refine ⟨fun pins s σ H Q I h => ?_⟩
  refine Subscript_ (thn (he.run pins s σ H _ I h) fun v s1 ⟨x, H1, I1, r1, q1⟩ => ?_)
  obtain ⟨a, xs, ex, hx, q⟩ := q1
  subst ex
  cases r1
  have hst : PO X (some (.Constant (.int 2) k p1)) (tPart (tC (.int 2))) := po_some pe_int
  have hlo : PO X (some (.Constant (.int 1) k2 p2)) (tPart (tC (.int 1))) := po_some pe_int
  refine wpAny_Slice (thn (hlo.run pins s1 σ H1 (fun o H2 => o = some 1 ∧ H2 = H1) I1 ⟨1, rfl, rfl, rfl⟩) fun vl s2 ⟨l, H2, I2, pl, el, e2⟩ => ?_)
  subst el e2
  refine thn (po_none.run pins s2 σ H2 (fun o H3 => o = none ∧ H3 = H2) I2 ⟨rfl, rfl⟩) fun vu s3 ⟨u, H3, I3, pu, eu, e3⟩ => ?_
  subst eu e3
  refine thn (hst.run pins s3 σ H3 (fun o H4 => o = some 2 ∧ H4 = H3) I3 ⟨2, rfl, rfl, rfl⟩) fun vs s4 ⟨o, H4, I4, ps, eo, e4⟩ => ?_
  subst eo e4
  have I5 : Inv X pins σ H4 { s4 with heap := s4.heap.push { cls := .type "slice", data := .fields #[vl, vu, vs] } } := I4.kept (t' := s4.toks) fun b ob q => Heap.get?_push_of_some _ q
  obtain ⟨its, r, ht, hz⟩ := I5.list hx
  have hlen := r.length
  show wpAny (model X.prog X.w) X.A (subscriptTail e (.Slice (some (.Constant (.int 1) k2 p2)) none (some (.Constant (.int 2) k p1)) p3) (.ref a) (.ref s4.heap.objs.size)) (EP X pins σ Q) X.xe { s4 with heap := s4.heap.push { cls := .type "slice", data := .fields #[vl, vu, vs] } }
  refine tail_any (ops := [.ref a, .ref s4.heap.objs.size]) ht.isList.typeIs (PySem.slot_list_getitem.lookup) ?_ (by with_unfolding_all rfl)
  refine wpAny_getItem_list_slice ht.isList (Heap.IsSliceOf.new _ vl vu vs) pl pu ps (by decide) ?_ (by rw [List.size_toArray]; omega)
  rw [sl_od]
  refine ⟨.ref _, _, I5.laid (t' := s4.toks) (o := .lst (pick (odI xs.length) xs)) (fun b ob q => Heap.get?_push_of_some _ q) (Nat.le_refl _) ?_, rfl, q _ (I5.hok.fresh (Nat.le_refl _))⟩
  exact ⟨Nat.le_trans (pick_len odI_len) hz, _, 0, vals_pick r _, by rw [hlen]; exact Heap.get?_push_size _ rfl⟩

/-! ### enumerate(text) -/
def ItS (z : Str) : It := ⟨fun i _ => i < z.cps.size, fun i H v H' => ∃ T c, v = .ref T ∧ H T = none ∧ H' = upd H T (.tup [.int (i : Nat), .str ⟨#[c]⟩]) ∧ z.cps[i]? = some c, fun i _ => i = z.cps.size⟩
theorem turn_enumS {P : Program} {w : World} {K : PySem.W.Frag} {elts : List Expr} {kk : Nat} {tpos : Pos} (e it : Addr) (z : Str) (tz : Tok) :
    Turn P w K (.Tuple elts kk tpos) (ItS z) [e, it] e (fun i h => (∃ old, IsEnum h e it ((i : Nat) : Int) old) ∧ h.IsStrIter it (strIterType z) z tz i ∧ e ≠ it) where
  mem := by simp
  obj := fun i h st b hb => by
    obtain ⟨⟨old, he⟩, ⟨o, ho, hc, hd⟩, _⟩ := st
    have e' : b = e ∨ b = it := by simpa using hb
    rcases e' with q | q
    · rw [q]; exact ⟨_, he, fun v q => nomatch q⟩
    · rw [q]; exact ⟨o, ho, fun v q => by rw [hd] at q; cases q⟩
  keep := fun i h h' st k => by
    obtain ⟨⟨old, he⟩, ⟨o, ho, r⟩, hne⟩ := st
    exact ⟨⟨old, k e (by simp) _ he⟩, ⟨o, k it (by simp) o ho, r⟩, hne⟩
  item := by
    intro X hP hw hK hc i pins s σ H E I hf st hg
    subst hP hw hK
    obtain ⟨⟨old, he⟩, hit, hne⟩ := st
    have hel : e < s.heap.objs.size := Heap.lt_size he
    have hil : it < s.heap.objs.size := by obtain ⟨_, q, _⟩ := hit; exact Heap.lt_size q
    refine wpAny_pyNext_enum_itemD (Draws.text (A := X.A.in1) (I.ok.hd hc) it z tz) he hit hg hne (by simp [hne]) fun x h' tk hx ho hit' hT hsz hk => ?_
    obtain ⟨c, u, hcx, rfl⟩ := hx
    refine ⟨_, rfl, wpAny_letOwnedTupleGo_enum (s := { s with heap := h', toks := tk + 1 }) ho fun h'' he' sb => ?_⟩
    have hT2 : h''.get? s.heap.objs.size = some { cls := .type "tuple", data := .seq #[.int i tk, .str ⟨#[c]⟩ u] } := (sb.2 _ (Nat.ne_of_gt hel)).trans hT
    have new : ObjOk X.prog X.w (upd H s.heap.objs.size (.tup [.int (i : Nat), .str ⟨#[c]⟩])) h'' s.heap.objs.size (.tup [.int (i : Nat), .str ⟨#[c]⟩]) :=
      ⟨by show 2 ≤ sizeLine; decide, [.int i tk, .str ⟨#[c]⟩ u], .cons ⟨_, rfl⟩ (.cons ⟨_, rfl⟩ .nil), ⟨_, hT2, rfl, _, rfl⟩⟩
    have I1 : Inv X pins σ (upd H s.heap.objs.size (.tup [.int (i : Nat), .str ⟨#[c]⟩])) { s with heap := h'', toks := tk + 1 } :=
      I.turnedNew (ch := [e, it]) (fun b ob hb q => (sb.2 b (fun q => hb (by simp [q]))).trans (hk b ob (fun q => hb (by simp [q])) (fun q => hb (by simp [q])) q)) hf (Nat.le_refl _) new
    have hit2 : h''.IsStrIter it (strIterType z) z tz (i + 1) := by
      obtain ⟨o, ho2, r⟩ := hit'
      exact ⟨o, (sb.2 it (Ne.symm hne)).trans ho2, r⟩
    refine ⟨.ref s.heap.objs.size, _, I1, rfl, ⟨_, c, rfl, I.hok.fresh (Nat.le_refl _), rfl, hcx⟩, ⟨⟨.str ⟨#[c]⟩ u, ?_⟩, hit2, hne⟩, fun b hb => ?_⟩
    · have e1 : ((i + 1 : Nat) : Int) = (i : Int) + 1 := by omega
      rw [e1]; exact he'
    · have hb' : b < s.heap.objs.size := by
        have e' : b = e ∨ b = it := by simpa using hb
        rcases e' with q | q
        · rw [q]; exact hel
        · rw [q]; exact hil
      rw [upd_ne (Nat.ne_of_lt hb')]
      exact (hf b hb).1
  done := by
    intro X hP hw hK hc i pins s σ H E I hf st hg
    subst hP hw hK
    obtain ⟨⟨old, he⟩, hit, hne⟩ := st
    have hg' : i = z.cps.size := hg
    subst hg'
    obtain ⟨f0, f1, f2, f3, f4, f5⟩ := hf it (by simp)
    exact wpAny_pyNext_enum_endD (Draws.text (A := X.A.in1) (I.ok.hd hc) it z tz) he hit fun h' eb => ⟨rfl, I.turned (t' := s.toks) (fun b o hb q => eb b o hb q) f0 f1 f3 f4 f5⟩
  self := fun A i s Q E st h => let ⟨⟨_, he⟩, _⟩ := st; wpAny_pyIter_enum he h
def iEnumS (ta : TA) : TI := fun σ H R => ta σ H fun vs H1 => ∃ z, vs = [.str z] ∧ R (ItS z) H1
theorem pi_enumS {e : Expr} {ta : TA} {p pos tpos : Pos} {elts : List Expr} {kk : Nat} (hg : Gl X "enumerate") (hm : X.mg "enumerate" = none) (ha : PA X [e] ta) (hs : starEach [e] X.env = [(false, eval e X.env)] := by rfl) :
    PI X (.Tuple elts kk tpos) (.Call (.Name "enumerate" p) [e] [] pos) (iEnumS ta) := by
  refine ⟨fun pins s σ H R I h => ?_⟩
  refine Call_ (ld_blt I hg hm boot_enumerate (PyProof.Rows.callWith_type1 (thn (ha.run pos pins s σ H _ I h) fun us s1 ⟨vs, H1, I1, r1, q1⟩ => ?_) hs rfl))
  obtain ⟨z, ex, q⟩ := q1
  subst ex
  cases r1 with
  | cons r rr =>
    cases rr
    obtain ⟨tz, rfl⟩ := r
    refine call_enumerate_str fun h' he hit hsz hk => wpAny_pyIter_enum he ?_
    have I2 : Inv X pins σ H1 { s1 with heap := h' } := I1.kept (t' := s1.toks) hk
    refine ⟨s1.heap.objs.size + 1, [s1.heap.objs.size + 1, s1.heap.objs.size], _, _, H1, rfl, I2, turn_enumS (s1.heap.objs.size + 1) s1.heap.objs.size z tz, ⟨⟨.none, he⟩, hit, Nat.succ_ne_self _⟩, fun b hb => ?_, q⟩
    have e' : b = s1.heap.objs.size + 1 ∨ b = s1.heap.objs.size := by simpa using hb
    have hle : s1.heap.objs.size ≤ b := by
      rcases e' with q | q
      · rw [q]; exact Nat.le_add_right _ _
      · rw [q]; exact Nat.le_refl _
    exact I1.fpOk hle (I1.hok.fresh hle)
theorem walk_enumS {w : List Nat} : Walk (ItS (tx w)) w.length (fun _ => True) (YPair (fun i => some (.int (i : Nat))) (fun i => w[i]?.map sg)) := by
  refine ⟨fun i _ hi _ => ?_, fun _ _ => ?_, fun i H v H' _ _ y => ?_⟩
  · show i < (tx w).cps.size
    unfold tx
    simpa using hi
  · show w.length = (tx w).cps.size
    unfold tx
    simp
  · obtain ⟨T, c, h1, h2, h3, h4⟩ := y
    refine ⟨T, .int (i : Nat), sg c, h1, h2, h3, rfl, ?_⟩
    have h5 : w[i]? = some c := by
      unfold tx at h4
      simpa using h4
    show (w[i]?).map sg = some (sg c)
    rw [h5]
    rfl
/-- a text's signs -/
theorem walk_tx {w : List Nat} : Walk (Its (tx w)) w.length (fun _ => True) (fun i H v H' => H' = H ∧ ∃ c, w[i]? = some c ∧ v = sg c) := by
  have e : (tx w).cps.size = w.length := by
    unfold tx
    simp
  have W := walk_str (z := tx w)
  rw [e] at W
  refine W.mono (fun _ _ => trivial) fun i H x H' _ _ y => ?_
  obtain ⟨h1, c, h2, h3⟩ := y
  refine ⟨h1, c, ?_, h3⟩
  unfold tx at h2
  simpa using h2
end
end K51
/-! built-ins with keywords: sum(xs, start=0), max(xs, default=0), min(xs, key=len) -/
namespace K51
open PySem PySem.Spec PyProof.Rows L2 NdefX LamX
section
variable {prog : Program} {w : World} {A : Around} {E : Value → Shared → Prop} {s : Shared}
theorem args_sumK (a v : Value) : argsOk "sum" ⟨[a], [(Str.ofString "start", v)]⟩ := by unfold argsOk; kernel_rfl
theorem args_maxK (a v : Value) : argsOk "max" ⟨[a], [(Str.ofString "default", v)]⟩ := by unfold argsOk; kernel_rfl
theorem call_sumK {x : Value} {tz : Tok} {Q : Value → Shared → Prop}
    (h : wpAny (model prog w) A.in1 (pyIter x) (fun it s₂ => ∃ I fp wr n Pn St val, it = .ref I ∧ Walks prog w A.in1 I fp wr n Pn St ∧ St 0 s₂.heap ∧ (∀ b ∈ fp, b < s₂.heap.objs.size) ∧
      (∀ i v, Pn i v → ∃ t, v = .int (val i) t) ∧
      ∀ h' tk t', (∀ b o, b ∉ wr → s₂.heap.get? b = some o → h'.get? b = some o) → Q (.int (preSum val n) t') { s₂ with heap := h', toks := tk }) E s) :
    wpAny (model prog w) A (call (.builtin "sum") [x] [(Str.ofString "start", .int 0 tz)]) Q E s := by
  refine kmb_tree F.kind_sum F.plain_sum F.entry_sum (args_sumK _ _) ?_
  unfold Builtin.«sum»
  simp only [List.length_cons, List.length_nil]
  rw [if_neg (by decide)]
  refine wpAny_bind (wpAny_of_eq (show Builtin.Builtins.bindParams "sum" ["start"] 0 ⟨[], [(Str.ofString "start", .int 0 tz)]⟩ = pure [some (.int 0 tz)] from rfl) ?_)
  refine wpAny_bind (wpAny_mono h (fun it s₂ h₂ => ?_) fun _ _ e => e)
  obtain ⟨I, fp, wr, n, Pn, St, val, rfl, W, hst, hfp, hval, hQ⟩ := h₂
  refine wpAny_bind ?_
  refine wpAny_rule (wpAny_bind (wpAny_mkInt ?_))
  refine wpAny_bind (wpAny_pure ?_)
  simp only [List.forIn_cons, List.forIn_nil]
  refine wpAny_bind (wpAny_bind (wpAny_bind (wpAny_isInstance (T := "int") (b := false) (typeIs_int _ _ _) PySem.sub_int_str ?_)))
  simp only [Bool.false_eq_true, if_false]
  refine wpAny_pure (wpAny_bind (wpAny_bind (wpAny_isInstance (T := "int") (b := false) (typeIs_int _ _ _) PySem.sub_int_bytes ?_)))
  simp only [Bool.false_eq_true, if_false]
  refine wpAny_pure (wpAny_bind (wpAny_bind (wpAny_isInstance (T := "int") (b := false) (typeIs_int _ _ _) PySem.sub_int_bytearray ?_)))
  simp only [Bool.false_eq_true, if_false]
  refine wpAny_pure (wpAny_pure ?_)
  refine wpAny_bind (wpAny_newObj_type ?_)
  have hSf : s₂.heap.objs.size ∉ fp := fun hm => Nat.lt_irrefl _ (hfp _ hm)
  refine wpAny_pure ⟨plainId_quiet F.plain_sum_loop _, codeAny_sum_loopG W val hval s₂.heap.objs.size hSf n 0 _ s₂.toks 0 0 (Or.inl rfl) rfl (Nat.zero_le _)
    (W.frame _ _ _ hst fun b _ o e => Heap.get?_push_of_some _ e) (Heap.get?_push_size _ rfl) fun h' tk t' hk => ?_⟩
  exact hQ h' tk t' fun b o hbw e => hk b o hbw (Nat.ne_of_lt (Heap.lt_size e)) (Heap.get?_push_of_some _ e)
theorem sumK_raw {l : Addr} {its : List Value} {ns : List Int} {tz : Tok} {Q : Value → Shared → Prop} (hh : A.handled = none) (hl : s.heap.IsList l its.toArray) (hi : IntsAre its ns)
    (h : ∀ h' tk t', (∀ b o, s.heap.get? b = some o → h'.get? b = some o) → Q (.int ns.sum t') { s with heap := h', toks := tk }) : wpAny (model prog w) A (call (.builtin "sum") [.ref l] [(Str.ofString "start", .int 0 tz)]) Q E s := by
  obtain ⟨xs, e⟩ := hi.allInts.items
  have hn : numsOf (intItems xs).toList = ns := by rw [← e]; exact hi.numsOf
  rw [nums_intItems] at hn
  rw [e] at hl
  refine call_sumK (iter_intList hl fun s₂ e st hfp hlI => ?_)
  subst e
  refine ⟨_, _, _, _, _, _, numAt xs, rfl, Walks.list (A := A.in1) hh _ l hlI (intItems xs), st, hfp, (fun _ _ => intItems_at), fun h' tk t' hk => ?_⟩
  have := h h' tk t' (old_kept hk)
  simp only [intItems, Array.size_map] at this ⊢
  rw [preSum_eq, List.take_of_length_le (by simp), hn]
  exact this
end
section
variable {prog : Program} {w : World} {A : Around} {R : Result → Shared → Prop} {I : Addr} {fp wr : List Addr} {n : Nat} {Pn : Nat → Value → Prop} {St : Nat → Heap → Prop} {kw : List (Str × Value)}
theorem max_loopK (W : Walks prog w A.in1 I fp wr n Pn St) (bt : Nat → Nat → Bool) (hcmp : CmpOf prog w A.in1 .Gt Pn bt) (S : Addr) (hSf : S ∉ fp) :
    ∀ (k j : Nat) (s : Shared) (vb : Value) (c : Nat), n - (j + 1) = k → j + 1 ≤ n → St (j + 1) s.heap → Pn (argBest bt j) vb →
    s.heap.get? S = some { cls := .type "list", dict := none, data := .seq #[vb, vb] c, slots := #[] } →
    (∀ v h' tk, Pn (argBest bt (n - 1)) v → (∀ b o, b ∉ wr → b ≠ S → s.heap.get? b = some o → h'.get? b = some o) → R (.ok (.ret v)) { s with heap := h', toks := tk }) →
    codeAny (model prog w) A (.builtin "max.loop" ⟨[.ref I, .none, .ref S], kw⟩) R s := by
  have hSw : S ∉ wr := fun h => hSf (W.sub _ h)
  have hname : (toString "max" ++ toString ".loop" : String) = "max.loop" := by decide
  intro k
  induction k with
  | zero =>
    intro j s vb c hk hj hst hPb hS hR
    have hin : j + 1 = n := by omega
    refine codeAny_builtin F.entry_max_loop ?_
    rw [Around.under_plainId F.plain_max_loop _]
    show wpAny _ A.in1 (seqItems? (.ref S) >>= _) _ _ s
    refine wpAny_bind (wpAny_seqItems hS rfl ?_)
    show wpAny _ A.in1 (tryCatch (pyNext (.ref I)) _ >>= _) _ _ s
    refine wpAny_bind (wpAny_tryCatch (W.done s _ _ (hin ▸ hst) fun h' tk hk' => ?_))
    have hS' := hk' S _ hSw hS
    show wpAny _ A.in1 (updateSeq S (fun _ => #[]) >>= _) _ _ _
    refine wpAny_bind ?_
    refine wpAny_updateSeq hS' rfl (wpAny_bind (wpAny_letGo (wpAny_pure ?_)))
    refine hR vb _ tk (by rw [← hin]; exact hPb) fun b o hbw hbS e => (Heap.get?_update_other _ _ (Ne.symm hbS)).trans (hk' b o hbw e)
  | succ k ih =>
    intro j s vb c hk hj hst hPb hS hR
    have hlt : j + 1 < n := by omega
    refine codeAny_builtin F.entry_max_loop ?_
    rw [Around.under_plainId F.plain_max_loop _]
    show wpAny _ A.in1 (seqItems? (.ref S) >>= _) _ _ s
    refine wpAny_bind (wpAny_seqItems hS rfl ?_)
    show wpAny _ A.in1 (tryCatch (pyNext (.ref I)) _ >>= _) _ _ s
    refine wpAny_bind (wpAny_tryCatch (W.item (j + 1) s _ _ hlt hst fun v h' tk hP hst' hk' => ?_))
    have hS' := hk' S _ hSw hS
    show wpAny _ A.in1 (tryCatch (holding [v, v] (richCompare .Gt v vb >>= _)) _ >>= _) _ _ _
    refine wpAny_bind (wpAny_tryCatch (wpAny_holding (wpAny_bind (hcmp (j + 1) (argBest bt j) v vb _ _ _ hP hPb ?_))))
    refine wpAny_bind (wpAny_holding (wpAny_truthy_bool ?_))
    refine wpAny_bind (wpAny_letGo (wpAny_pure ?_))
    cases hb : bt (j + 1) (argBest bt j) with
    | true =>
      simp only [if_true]
      refine wpAny_bind ?_
      refine wpAny_updateSeq hS' rfl (wpAny_bind (wpAny_letGo ?_))
      rw [hname]
      refine wpAny_pure ⟨plainId_quiet F.plain_max_loop _, ih (j + 1) _ v _ (by omega) hlt (W.frame _ _ _ hst' fun b hbf o e => ?_) (by simp only [argBest, hb, if_true]; exact hP) (Heap.get?_update_self _ hS' rfl)
        fun v' h'' tk'' hP' hk'' => ?_⟩
      · exact (Heap.get?_update_other _ _ (fun h : S = b => hSf (by rw [h]; exact hbf))).trans e
      · exact hR v' h'' tk'' hP' fun b o hbw hbS e => hk'' b o hbw hbS ((Heap.get?_update_other _ _ (Ne.symm hbS)).trans (hk' b o hbw e))
    | false =>
      simp only [Bool.false_eq_true, if_false]
      refine wpAny_bind (wpAny_letGo ?_)
      rw [hname]
      refine wpAny_pure ⟨plainId_quiet F.plain_max_loop _, ih (j + 1) _ vb c (by omega) hlt hst' (by simp only [argBest, hb, Bool.false_eq_true, if_false]; exact hPb) hS' fun v' h'' tk'' hP' hk'' => ?_⟩
      exact hR v' h'' tk'' hP' fun b o hbw hbS e => hk'' b o hbw hbS (hk' b o hbw e)
theorem max_loopK1 (W : Walks prog w A.in1 I fp wr n Pn St) (bt : Nat → Nat → Bool) (hcmp : CmpOf prog w A.in1 .Gt Pn bt) (S : Addr) (hSf : S ∉ fp) {d : Value} {x : Str} {s : Shared} {c : Nat} (hst : St 0 s.heap)
    (hS : s.heap.get? S = some { cls := .type "list", dict := none, data := .seq #[] c, slots := #[] })
    (h0 : n = 0 → ∀ h' tk, (∀ b o, b ∉ wr → b ≠ S → s.heap.get? b = some o → h'.get? b = some o) → R (.ok (.ret d)) { s with heap := h', toks := tk })
    (hR : 0 < n → ∀ v h' tk, Pn (argBest bt (n - 1)) v → (∀ b o, b ∉ wr → b ≠ S → s.heap.get? b = some o → h'.get? b = some o) → R (.ok (.ret v)) { s with heap := h', toks := tk }) :
    codeAny (model prog w) A (.builtin "max.loop" ⟨[.ref I, .none, .ref S], [(x, d)]⟩) R s := by
  have hSw : S ∉ wr := fun h => hSf (W.sub _ h)
  have hname : (toString "max" ++ toString ".loop" : String) = "max.loop" := by decide
  refine codeAny_builtin F.entry_max_loop ?_
  rw [Around.under_plainId F.plain_max_loop _]
  show wpAny _ A.in1 (seqItems? (.ref S) >>= _) _ _ s
  refine wpAny_bind (wpAny_seqItems hS rfl ?_)
  show wpAny _ A.in1 (tryCatch (pyNext (.ref I)) _ >>= _) _ _ s
  by_cases hn : 0 < n
  · refine wpAny_bind (wpAny_tryCatch (W.item 0 s _ _ hn hst fun v h' tk hP hst' hk' => ?_))
    have hS' := hk' S _ hSw hS
    show wpAny _ A.in1 (updateSeq S (fun _ => #[v, v]) >>= _) _ _ _
    refine wpAny_bind ?_
    refine wpAny_updateSeq hS' rfl ?_
    rw [hname]
    refine wpAny_pure ⟨plainId_quiet F.plain_max_loop _, max_loopK W bt hcmp S hSf _ 0 _ v _ rfl hn (W.frame _ _ _ hst' fun b hbf o e => ?_) hP (Heap.get?_update_self _ hS' rfl) fun v' h'' tk'' hP' hk'' => ?_⟩
    · exact (Heap.get?_update_other _ _ (fun h : S = b => hSf (by rw [h]; exact hbf))).trans e
    · exact hR hn v' h'' tk'' hP' fun b o hbw hbS e => hk'' b o hbw hbS ((Heap.get?_update_other _ _ (Ne.symm hbS)).trans (hk' b o hbw e))
  · have hn0 : n = 0 := by omega
    subst hn0
    refine wpAny_bind (wpAny_tryCatch (W.done s _ _ hst fun h' tk hk' => ?_))
    refine wpAny_bind (wpAny_rule (wpAny_pure ?_))
    exact h0 rfl h' tk fun b o hb _ e => hk' b o hb e
end
section
variable {prog : Program} {w : World} {A : Around} {E : Value → Shared → Prop} {s : Shared}
theorem maxK_raw {l : Addr} {its : List Value} {ns : List Int} {d : Value} {Q : Value → Shared → Prop} (hh : A.handled = none) (hl : s.heap.IsList l its.toArray) (hi : IntsAre its ns)
    (h0 : ns = [] → ∀ h' tk, (∀ b o, s.heap.get? b = some o → h'.get? b = some o) → Q d { s with heap := h', toks := tk })
    (h : ∀ h' tk M t', (∀ b o, s.heap.get? b = some o → h'.get? b = some o) → M ∈ ns → (∀ a, a ∈ ns → a ≤ M) → Q (.int M t') { s with heap := h', toks := tk }) :
    wpAny (model prog w) A (call (.builtin "max") [.ref l] [(Str.ofString "default", d)]) Q E s := by
  have hname : (toString "max" ++ toString ".loop" : String) = "max.loop" := by decide
  obtain ⟨xs, e⟩ := hi.allInts.items
  have hn : numsOf (intItems xs).toList = ns := by rw [← e]; exact hi.numsOf
  rw [nums_intItems] at hn
  subst hn
  rw [e] at hl
  refine kmb_tree F.kind_max F.plain_max F.entry_max (args_maxK _ _) ?_
  show wpAny _ A.in1 (Builtin.Builtins.bindParams "max" ["key", "default"] 0 ⟨[], [(Str.ofString "default", d)]⟩ >>= _) _ _ s
  refine wpAny_bind (wpAny_of_eq (show Builtin.Builtins.bindParams "max" ["key", "default"] 0 ⟨[], [(Str.ofString "default", d)]⟩ = pure [none, some d] from rfl) ?_)
  refine wpAny_bind (wpAny_pure ?_)
  refine wpAny_bind (iter_intList hl fun s₂ e st hfp hlI => ?_)
  subst e
  refine wpAny_bind (wpAny_newObj_type ?_)
  rw [hname]
  have W := Walks.list (prog := prog) (w := w) (A := A.in1) hh s.heap.objs.size l hlI (intItems xs)
  refine wpAny_pure ⟨plainId_quiet F.plain_max_loop _, max_loopK1 W _ (CmpOf.ints_gt (numAt xs) fun _ _ => intItems_at) _ (fun hm => Nat.lt_irrefl _ (hfp _ hm)) (W.frame _ _ _ st fun b _ o e => Heap.get?_push_of_some _ e) (Heap.get?_push_size _ rfl) (fun hz h' tk hk => ?_) (fun hp v h' tk hv hk => ?_)⟩
  · refine h0 ?_ h' tk (old_kept fun b o hb e => hk b o hb (Nat.ne_of_lt (Heap.lt_size e)) (Heap.get?_push_of_some _ e))
    have : xs.size = 0 := by simpa [intItems] using hz
    apply List.eq_nil_of_length_eq_zero
    simpa using this
  · have hk2 := old_kept fun b o hb e => hk b o hb (Nat.ne_of_lt (Heap.lt_size e)) (Heap.get?_push_of_some _ e)
    have hp' : 0 < xs.size := by simpa [intItems] using hp
    have hv' : (intItems xs)[argBest (fun i j => decide (numAt xs i > numAt xs j)) (xs.size - 1)]? = some v := by simpa [intItems] using hv
    obtain ⟨t, rfl⟩ := intItems_at hv'
    obtain ⟨h1, h2⟩ := argBest_gt (numAt xs) (xs.size - 1)
    refine h h' tk _ t hk2 ?_ fun a ha => ?_
    · rw [numAt_eq]; exact PySem.getD_mem (by rw [List.length_map, Array.length_toList]; omega)
    · obtain ⟨j, hj, rfl⟩ := mem_getD ha
      rw [List.length_map, Array.length_toList] at hj
      rw [← numAt_eq]; exact h2 j (by omega)
end
end K51
/-! min(texts, key=len); the layer's rules for built-ins with keywords -/
namespace K51
open PySem PySem.Spec PyProof.Rows L2 NdefX LamX
section
variable {prog : Program} {w : World} {A : Around} {R : Result → Shared → Prop} {I : Addr} {fp wr : List Addr} {n : Nat} {Pn : Nat → Value → Prop} {St : Nat → Heap → Prop}
theorem min_loopL (W : Walks prog w A.in1 I fp wr n Pn St) (hval : ∀ i v, Pn i v → ∃ z t, v = .str z t ∧ z.length ≤ 1000000) (S : Addr) (hSf : S ∉ fp) :
    ∀ (k j i : Nat) (s : Shared) (vb : Value) (vk : Int) (tb : Tok) (c : Nat), n - (j + 1) = k → j + 1 ≤ n → i < n → St (j + 1) s.heap → Pn i vb →
    s.heap.get? S = some { cls := .type "list", dict := none, data := .seq #[vb, .int vk tb] c, slots := #[] } →
    (∀ i v h' tk, i < n → Pn i v → (∀ b o, b ∉ wr → b ≠ S → s.heap.get? b = some o → h'.get? b = some o) → R (.ok (.ret v)) { s with heap := h', toks := tk }) →
    codeAny (model prog w) A (.builtin "min.loop" ⟨[.ref I, .builtin "len", .ref S], []⟩) R s := by
  have hSw : S ∉ wr := fun h => hSf (W.sub _ h)
  have hname : (toString "min" ++ toString ".loop" : String) = "min.loop" := by decide
  intro k
  induction k with
  | zero =>
    intro j i s vb vk tb c hk hj hi hst hPb hS hR
    have hin : j + 1 = n := by omega
    refine codeAny_builtin F.entry_min_loop ?_
    rw [Around.under_plainId F.plain_min_loop _]
    show wpAny _ A.in1 (seqItems? (.ref S) >>= _) _ _ s
    refine wpAny_bind (wpAny_seqItems hS rfl ?_)
    show wpAny _ A.in1 (tryCatch (pyNext (.ref I)) _ >>= _) _ _ s
    refine wpAny_bind (wpAny_tryCatch (W.done s _ _ (hin ▸ hst) fun h' tk hk' => ?_))
    have hS' := hk' S _ hSw hS
    show wpAny _ A.in1 (updateSeq S (fun _ => #[]) >>= _) _ _ _
    refine wpAny_bind ?_
    refine wpAny_updateSeq hS' rfl (wpAny_bind (wpAny_letGo (wpAny_pure ?_)))
    refine hR i vb _ tk hi hPb fun b o hbw hbS e => (Heap.get?_update_other _ _ (Ne.symm hbS)).trans (hk' b o hbw e)
  | succ k ih =>
    intro j i s vb vk tb c hk hj hi hst hPb hS hR
    have hlt : j + 1 < n := by omega
    refine codeAny_builtin F.entry_min_loop ?_
    rw [Around.under_plainId F.plain_min_loop _]
    show wpAny _ A.in1 (seqItems? (.ref S) >>= _) _ _ s
    refine wpAny_bind (wpAny_seqItems hS rfl ?_)
    show wpAny _ A.in1 (tryCatch (pyNext (.ref I)) _ >>= _) _ _ s
    refine wpAny_bind (wpAny_tryCatch (W.item (j + 1) s _ _ hlt hst fun v h' tk hP hst' hk' => ?_))
    have hS' := hk' S _ hSw hS
    obtain ⟨z, tz, rfl, hz⟩ := hval _ _ hP
    have hn63 := line63
    show wpAny _ A.in1 (tryCatch (holding [.str z tz] (call (.builtin "len") [.str z tz])) _ >>= _) _ _ _
    refine wpAny_bind (wpAny_tryCatch (wpAny_holding (P.len_str (by omega) ?_)))
    show wpAny _ A.in1 (tryCatch (holding [.str z tz, .int z.length (tk + 1)] (richCompare .Lt (.int z.length (tk + 1)) (.int vk tb) >>= _)) _ >>= _) _ _ _
    refine wpAny_bind (wpAny_tryCatch (wpAny_holding (wpAny_bind (CmpOf.ints_lt (prog := prog) (w := w) (A := A.in1) (P := fun i v => ∃ t, v = .int (if i = 0 then (z.length : Int) else vk) t) (fun i => if i = 0 then (z.length : Int) else vk) (fun i v h => h) 0 1 _ _ _ _ _ ⟨tk + 1, rfl⟩ ⟨tb, rfl⟩ ?_))))
    refine wpAny_bind (wpAny_holding (wpAny_truthy_bool ?_))
    refine wpAny_bind (wpAny_letGo (wpAny_pure ?_))
    by_cases hb : (z.length : Int) < vk
    · simp only [if_true, if_neg (show ¬ (1 = 0) by decide), hb, decide_true]
      refine wpAny_bind ?_
      refine wpAny_updateSeq hS' rfl (wpAny_bind (wpAny_letGo ?_))
      rw [hname]
      refine wpAny_pure ⟨plainId_quiet F.plain_min_loop _, ih (j + 1) (j + 1) _ _ _ _ _ (by omega) hlt hlt (W.frame _ _ _ hst' fun b hbf o e => ?_) hP (Heap.get?_update_self _ hS' rfl)
        fun i' v' h'' tk'' hi' hP' hk'' => ?_⟩
      · exact (Heap.get?_update_other _ _ (fun h : S = b => hSf (by rw [h]; exact hbf))).trans e
      · exact hR i' v' h'' tk'' hi' hP' fun b o hbw hbS e => hk'' b o hbw hbS ((Heap.get?_update_other _ _ (Ne.symm hbS)).trans (hk' b o hbw e))
    · simp only [if_true, if_neg (show ¬ (1 = 0) by decide), hb, decide_false, Bool.false_eq_true, if_false]
      refine wpAny_bind (wpAny_letGo ?_)
      rw [hname]
      refine wpAny_pure ⟨plainId_quiet F.plain_min_loop _, ih (j + 1) i _ vb vk tb c (by omega) hlt hi hst' hPb hS' fun i' v' h'' tk'' hi' hP' hk'' => ?_⟩
      exact hR i' v' h'' tk'' hi' hP' fun b o hbw hbS e => hk'' b o hbw hbS (hk' b o hbw e)
theorem min_loopL1 (W : Walks prog w A.in1 I fp wr n Pn St) (hval : ∀ i v, Pn i v → ∃ z t, v = .str z t ∧ z.length ≤ 1000000) (S : Addr) (hSf : S ∉ fp) (hn : 0 < n) {s : Shared} {c : Nat} (hst : St 0 s.heap)
    (hS : s.heap.get? S = some { cls := .type "list", dict := none, data := .seq #[] c, slots := #[] })
    (hR : ∀ i v h' tk, i < n → Pn i v → (∀ b o, b ∉ wr → b ≠ S → s.heap.get? b = some o → h'.get? b = some o) → R (.ok (.ret v)) { s with heap := h', toks := tk }) :
    codeAny (model prog w) A (.builtin "min.loop" ⟨[.ref I, .builtin "len", .ref S], []⟩) R s := by
  have hSw : S ∉ wr := fun h => hSf (W.sub _ h)
  have hname : (toString "min" ++ toString ".loop" : String) = "min.loop" := by decide
  refine codeAny_builtin F.entry_min_loop ?_
  rw [Around.under_plainId F.plain_min_loop _]
  show wpAny _ A.in1 (seqItems? (.ref S) >>= _) _ _ s
  refine wpAny_bind (wpAny_seqItems hS rfl ?_)
  show wpAny _ A.in1 (tryCatch (pyNext (.ref I)) _ >>= _) _ _ s
  refine wpAny_bind (wpAny_tryCatch (W.item 0 s _ _ hn hst fun v h' tk hP hst' hk' => ?_))
  have hS' := hk' S _ hSw hS
  obtain ⟨z, tz, rfl, hz⟩ := hval _ _ hP
  have hn63 := line63
  show wpAny _ A.in1 (tryCatch (holding [.str z tz] (call (.builtin "len") [.str z tz])) _ >>= _) _ _ _
  refine wpAny_bind (wpAny_tryCatch (wpAny_holding (P.len_str (by omega) ?_)))
  show wpAny _ A.in1 (updateSeq S (fun _ => #[.str z tz, .int z.length (tk + 1)]) >>= _) _ _ _
  refine wpAny_bind ?_
  refine wpAny_updateSeq hS' rfl ?_
  rw [hname]
  refine wpAny_pure ⟨plainId_quiet F.plain_min_loop _, min_loopL W hval S hSf _ 0 0 _ _ _ _ _ rfl hn hn (W.frame _ _ _ hst' fun b hbf o e => ?_) hP (Heap.get?_update_self _ hS' rfl) fun i' v' h'' tk'' hi' hP' hk'' => ?_⟩
  · exact (Heap.get?_update_other _ _ (fun h : S = b => hSf (by rw [h]; exact hbf))).trans e
  · exact hR i' v' h'' tk'' hi' hP' fun b o hbw hbS e => hk'' b o hbw hbS ((Heap.get?_update_other _ _ (Ne.symm hbS)).trans (hk' b o hbw e))
end
section
variable {prog : Program} {w : World} {A : Around} {E : Value → Shared → Prop} {s : Shared}
theorem minL_raw {l : Addr} {its : Array Value} {Q : Value → Shared → Prop} (hh : A.handled = none) (hl : s.heap.IsList l its) (hz : its.size ≤ sizeLine) (hne : 0 < its.size) (hval : ∀ (i : Nat) v, its[i]? = some v → ∃ z t, v = .str z t ∧ z.length ≤ 1000000)
    (h : ∀ (i : Nat) v h' tk, its[i]? = some v → (∀ b o, s.heap.get? b = some o → h'.get? b = some o) → Q v { s with heap := h', toks := tk }) :
    wpAny (model prog w) A (call (.builtin "min") [.ref l] [(Str.ofString "key", .builtin "len")]) Q E s := by
  have hname : (toString "min" ++ toString ".loop" : String) = "min.loop" := by decide
  refine kmb_tree F.kind_min F.plain_min F.entry_min (kmb_min_key _ _) ?_
  show wpAny _ A.in1 (Builtin.Builtins.bindParams "min" ["key", "default"] 0 ⟨[], [(Str.ofString "key", .builtin "len")]⟩ >>= _) _ _ s
  refine wpAny_bind (wpAny_of_eq (show Builtin.Builtins.bindParams "min" ["key", "default"] 0 ⟨[], [(Str.ofString "key", .builtin "len")]⟩ = pure [some (.builtin "len"), none] from rfl) ?_)
  refine wpAny_bind (wpAny_pure ?_)
  refine wpAny_bind (wpAny_pyIter_list hl ?_)
  refine wpAny_bind (wpAny_newObj_type ?_)
  rw [hname]
  have hll : l < s.heap.objs.size := by obtain ⟨o, ho, _⟩ := id hl; exact Heap.lt_size ho
  have W := Walks.list (prog := prog) (w := w) (A := A.in1) hh s.heap.objs.size l (Nat.ne_of_lt hll) its
  have hSz : (s.heap.push { cls := .type "list_iterator", data := .fields #[.ref l, .int 0 0] }).objs.size = s.heap.objs.size + 1 := Heap.size_push ..
  refine wpAny_pure ⟨plainId_quiet F.plain_min_loop _, min_loopL1 W hval (s.heap.push { cls := .type "list_iterator", data := .fields #[.ref l, .int 0 0] }).objs.size ?_ hne ?_ (Heap.get?_push_size _ rfl) (fun i v h' tk hi hv hk => ?_)⟩
  · rw [hSz]
    intro hm
    simp only [List.mem_cons, List.not_mem_nil, or_false] at hm
    rcases hm with e | e
    · exact absurd e (Nat.succ_ne_self _)
    · exact absurd e (Nat.ne_of_gt (Nat.lt_succ_of_lt hll))
  · exact ⟨⟨_, Heap.get?_push_of_some _ (Heap.get?_push_size _ rfl), rfl, rfl⟩, (hl.push _).push _⟩
  · refine h i v h' tk hv fun b o e => hk b o ?_ ?_ (Heap.get?_push_of_some _ (Heap.get?_push_of_some _ e))
    · intro hm
      rw [List.mem_singleton.mp hm] at e
      exact absurd (Heap.lt_size e) (Nat.lt_irrefl _)
    · intro hm
      rw [hm, hSz] at e
      exact absurd (Heap.lt_size e) (Nat.not_lt_of_le (Nat.le_succ _))
end
section
variable {X : Cx} {x : Str} {p p2 kp pos : Pos} {e : Expr} {te : TE}
theorem cr_sumK (hc : X.calm = true) : CallRK X (.builtin "sum") [Str.ofString "start"] (fun vs zs H Q => ∃ (a : Addr) (ns : List Int), vs = [V.ref a] ∧ zs = [.int 0] ∧ SqL X.K H a (ns.map V.int) ∧ Q (.int ns.sum) H) := by
  intro pins s σ H xs zs us ws Q I r1 r2 h
  obtain ⟨a, ns, rfl, rfl, hs, q⟩ := h
  obtain ⟨its, rv, hl, _⟩ := I.list hs
  rw [Vals.ref1 r1]
  obtain ⟨u, rfl, t, rfl⟩ := vals1 r2
  exact sumK_raw (I.ok.hd hc) hl.isList rv.ints fun h' tk t' hk => ⟨.int _, H, I.kept hk, ⟨_, rfl⟩, q⟩
theorem cr_maxK (hc : X.calm = true) : CallRK X (.builtin "max") [Str.ofString "default"] (fun vs zs H Q => ∃ (a : Addr) (ns : List Int) (d : V), vs = [V.ref a] ∧ zs = [d] ∧ SqL X.K H a (ns.map V.int) ∧ (ns = [] → Q d H) ∧ ∀ m, m ∈ ns → (∀ y, y ∈ ns → y ≤ m) → Q (.int m) H) := by
  intro pins s σ H xs zs us ws Q I r1 r2 h
  obtain ⟨a, ns, d, rfl, rfl, hs, q0, q⟩ := h
  obtain ⟨its, rv, hl, _⟩ := I.list hs
  rw [Vals.ref1 r1]
  obtain ⟨u, rfl, rd⟩ := vals1 r2
  exact maxK_raw (I.ok.hd hc) hl.isList rv.ints (fun e h' tk hk => ⟨d, H, I.kept hk, rd, q0 e⟩) fun h' tk m t' hk h1 h2 => ⟨.int _, H, I.kept hk, ⟨_, rfl⟩, q m h1 h2⟩
/-- min(e, key=len) of texts: one of them -/
def tMinL (K : PySem.W.Frag) (te : TE) : TE := fun σ H Q => te σ H fun x H1 => ∃ (a : Addr) (zs : List (List Nat)), x = V.ref a ∧ SqL K H1 a (zs.map wd) ∧ zs ≠ [] ∧ (∀ z ∈ zs, z.length ≤ 1000000) ∧ ∀ z ∈ zs, Q (wd z) H1
theorem pe_minL (hc : X.calm = true) (hg : Gl X "min") (hm : X.mg "min" = none) (hgl : Gl X "len") (hml : X.mg "len" = none) (ha : PA X [e] (tCons te tNil))
    (he : backTo pos (starEach (e :: []) X.env) = (false, eval e X.env) :: backTo pos (starEach [] X.env) := by rfl) (hpl : (backTo pos (starEach (e :: []) X.env)).any (·.1) = false := by rfl) : PE X (.Call (.Name "min" p) [e] [⟨some "key", .Name "len" p2, kp⟩] pos) (tMinL X.K te) := by
  refine ⟨fun pins s σ H Q I h => ?_⟩
  refine wpAny_Call_Name_kw (ld_blt I hg hm (show bootBuiltins (Str.ofString "min") = some (.builtin "min") from by decide +kernel) ?_)
  refine PyProof.Rows.callWith_kw (Q := EP X pins σ Q) (E := X.xe) (he := he) (hplain := hpl) (thn (ha.run pos pins s σ H (fun vs H1 => ∃ x, vs = [x] ∧ ∃ (a : Addr) (zs : List (List Nat)), x = V.ref a ∧ SqL X.K H1 a (zs.map wd) ∧ zs ≠ [] ∧ (∀ z ∈ zs, z.length ≤ 1000000) ∧ ∀ z ∈ zs, Q (wd z) H1) I ?_) fun us s1 ⟨vs, H1, I1, r1, x, ex, a, zs, ea, hs, hne, hz, q⟩ => ?_)
  · have h' : te σ H fun x H1 => ∃ (a : Addr) (zs : List (List Nat)), x = V.ref a ∧ SqL X.K H1 a (zs.map wd) ∧ zs ≠ [] ∧ (∀ z ∈ zs, z.length ≤ 1000000) ∧ ∀ z ∈ zs, Q (wd z) H1 := h
    show te σ H fun x H1 => ∃ y, [x] = [y] ∧ _
    have e2 : (fun (x : V) (H1 : Hp) => ∃ y, [x] = [y] ∧ ∃ (a : Addr) (zs : List (List Nat)), y = V.ref a ∧ SqL X.K H1 a (zs.map wd) ∧ zs ≠ [] ∧ (∀ z ∈ zs, z.length ≤ 1000000) ∧ ∀ z ∈ zs, Q (wd z) H1) = fun x H1 => ∃ (a : Addr) (zs : List (List Nat)), x = V.ref a ∧ SqL X.K H1 a (zs.map wd) ∧ zs ≠ [] ∧ (∀ z ∈ zs, z.length ≤ 1000000) ∧ ∀ z ∈ zs, Q (wd z) H1 := by
      funext x H1
      apply propext
      constructor
      · rintro ⟨y, e, r⟩
        rw [List.head_eq_of_cons_eq e]
        exact r
      · intro r
        exact ⟨x, rfl, r⟩
    exact e2 ▸ h'
  · subst ex ea
    rw [Vals.ref1 r1]
    show wpAny _ _ (evalAll [(do let v ← eval (.Name "len" p2) X.env; standAt pos; pure v)]) _ _ s1
    refine wpAny_evalAll_cons (wpAny_bind (ld_blt I1 hgl hml boot_len (wpAny_bind (wpAny_standAt (wpAny_pure ?_)))))
    refine wpAny_evalAll_nil ?_
    obtain ⟨its, rv, hl, hzz⟩ := I1.list hs
    have hlen := rv.length
    refine minL_raw (I1.ok.hd hc) hl.isList (by rw [List.size_toArray]; omega) ?_ (fun i v hv => ?_) (fun i v h' tk hv hk => ?_)
    · rw [List.size_toArray, ← hlen, List.length_map]
      exact List.length_pos_iff.mpr hne
    · have hv' : its[i]? = some v := by simpa using hv
      have hi : i < zs.length := by
        have := (List.getElem?_eq_some_iff.mp hv').1
        rw [← hlen, List.length_map] at this
        exact this
      obtain ⟨u, hu, t, ru⟩ := rv.get (i := i) (x := wd zs[i]) (by rw [List.getElem?_map, List.getElem?_eq_getElem hi]; rfl)
      rw [hv'] at hu
      cases hu
      exact ⟨_, t, ru, by rw [tx_len]; exact hz _ (List.getElem_mem hi)⟩
    · have hv' : its[i]? = some v := by simpa using hv
      have hi : i < zs.length := by
        have := (List.getElem?_eq_some_iff.mp hv').1
        rw [← hlen, List.length_map] at this
        exact this
      obtain ⟨u, hu, ru⟩ := rv.get (i := i) (x := wd zs[i]) (by rw [List.getElem?_map, List.getElem?_eq_getElem hi]; rfl)
      rw [hv'] at hu
      cases hu
      exact ⟨wd zs[i], H1, I1.kept hk, ru, q _ (List.getElem_mem hi)⟩
end
end K51
/-! how many ways -/
namespace K51
open PySem PySem.Spec PyProof.Rows L2 NdefX LamX
/-- a vector over n rooms -/
def vec (n : Nat) (f : Nat → Nat) : List V := (rg n).map fun q => ni (f q)
theorem vec_len (n : Nat) (f : Nat → Nat) : (vec n f).length = n := by
  unfold vec rg
  rw [List.length_map, List.length_range]
theorem vec_get {n : Nat} {f : Nat → Nat} {q : Nat} (h : q < n) : (vec n f)[q]? = some (ni (f q)) := by
  unfold vec rg
  rw [List.getElem?_map, List.getElem?_range h]
  rfl
theorem vec_at {n : Nat} {f : Nat → Nat} {q : Nat} (h : q < n) : atI (vec n f) (q : Int) = some (ni (f q)) := atI_nat (vec_get h)
theorem vec_ext {n : Nat} {f g : Nat → Nat} (h : ∀ q, q < n → f q = g q) : vec n f = vec n g := by
  unfold vec
  exact List.map_congr_left fun q hq => by rw [h q (mem_rg.mp hq)]
theorem vec_set {n : Nat} {f : Nat → Nat} {q k : Nat} (h : q < n) : (vec n f).set q (ni k) = vec n fun r => if q = r then k else f r := by
  apply List.ext_getElem?
  intro i
  by_cases hi : i < n
  · rw [vec_get hi, List.getElem?_set]
    by_cases e : q = i
    · subst e
      rw [if_pos rfl, if_pos rfl, if_pos (by rw [vec_len]; exact h)]
    · rw [if_neg e, if_neg e, vec_get hi]
  · rw [List.getElem?_eq_none (by rw [List.length_set, vec_len]; omega), List.getElem?_eq_none (by rw [vec_len]; omega)]
theorem ixN_nat {n q : Nat} (h : q < n) : ixN n (q : Int) = some q := by
  unfold ixN
  rw [if_pos (by omega), if_pos (by omega), Int.toNat_natCast]
/-- 1 at some rooms -/
def al (rs : List Nat) : Nat → Nat := fun q => if q ∈ rs then 1 else 0
theorem inV_ni {r : Nat} {rs : List Nat} : inV (ni r) (rs.map ni) = decide (r ∈ rs) := by
  unfold inV
  induction rs with
  | nil => simp
  | cons a rs ih =>
    rw [List.map_cons, List.any_cons, ih]
    show ((a : Int) == (r : Int) || decide (r ∈ rs)) = _
    by_cases e : r = a
    · subst e
      simp
    · have : ((a : Int) == (r : Int)) = false := by
        rw [beq_eq_false_iff_ne]
        omega
      rw [this]
      simp [e]
theorem flat_ni (rs : List Nat) : (rs.map ni).all flatV = true := by
  rw [List.all_map, List.all_eq_true]
  intro x _
  rfl
theorem walk_range0 {n : Nat} : Walk (Itr 0 n) n (fun _ => True) (fun i H x H' => H' = H ∧ x = ni i) :=
  walk_range.mono (fun _ _ => trivial) fun i H x H' _ _ y => ⟨y.1, by rw [y.2]; show V.int (0 + (i : Int)) = _; rw [Int.zero_add]⟩
section
variable {P : Program} {w : World} {K : PySem.W.Frag} {mg : Str → Option Value} {base : Heap} {T : List NTab}
def sp_look_at_word (T : List NTab) : Sp := fun vs H Q _ => ∃ u : List Nat, vs = [wd u] ∧ u.length ≤ 400 ∧ (∀ c ∈ u, Let c) ∧ ∀ H', Kp T [] H H' → Q .non H'
theorem ok_look_at_word (F : Fn K mg "look_at_word" s_look_at_word) (Tx : Txt mg) (D_is_sign : DOk P w K mg base "is_sign" 1 ["thing"] [] sp_is_sign) : DOk P w K mg base "look_at_word" 2 ["text"] [] (sp_look_at_word T) := by
  refine F.dok sc_look_at_word b_look_at_word (fun vs H Q E h => ?_) (fun f cdv A outer s H vs Q E hr h => ?_)
  · obtain ⟨u, rfl, _⟩ := h
    rfl
  · obtain ⟨u, rfl, hlen, hlet, q⟩ := h
    refine ⟨_, (pss_cons (ps_if (pt_not (pt_val (pe_callB call_isi (by rfl) Tx.n_isinstance (by decide +kernel) (pa_cons (pv 0) (pa_cons (pe_bltn (v := .ty "str") (by rfl) Tx.n_str (by decide +kernel) rfl) pa_nil)))))
      (pss_one ps_never) pss_nil)
      (pss_one (ps_for PassesOwn.never rfl (pi_enumS (by rfl) Tx.n_enumerate (pa_cons (pv 0) pa_nil)) (pg_tup rfl (pgs_cons (pg_name (i := 1) sc_look_at_word.nd rfl (by first | exact .inl rfl | exact .inr rfl)) (pgs_cons (pg_name (i := 2) sc_look_at_word.nd rfl (by first | exact .inl rfl | exact .inr rfl)) pgs_nil)))
      (pss_one (ps_if (PW.pt (pw_or (pt_cmpR op_eq (pv 1) (pe_ki (by rfl) Tx.c_MOST_WORD) (nomark _)) (pw_or1 (pt_not (pt_val (pe_d D_is_sign hr (by rfl) (pa_cons (pv 2) pa_nil)))))))
      (pss_one ps_never) pss_nil))))), ?_⟩
    refine ⟨_, rfl, _, .ty _, _, _, true, rfl, .ty _, ts_str _, kit_ty kb_str, true, rfl, ?_⟩
    refine iteF ?_
    refine ⟨_, rfl, _, rfl, for_it (walk_enumS (w := u)) (fun i σ H1 => ∃ (y1 y2 : Option V), σ = [some (wd u), y1, y2] ∧ Kp T [] H H1) ⟨_, _, rfl, Kp.refl H⟩ (fun _ _ _ _ _ => trivial) (fun i x σ H1 H2 hi h1 y => ?_) (fun σ H1 h1 => ?_)⟩
    · obtain ⟨y1, y2, rfl, k⟩ := h1
      obtain ⟨t, x1, x2, rfl, nt, rfl, e1, e2⟩ := y
      cases e1
      have e3 : (u[i]?).map sg = some x2 := e2
      obtain ⟨c, ec, rfl⟩ := Option.map_eq_some_iff.mp e3
      refine ⟨t, [.int (i : Nat), sg c], rfl, SqT.of upd_same, rfl, _, _, rfl, _, _, rfl, rfl, ?_⟩
      refine ⟨_, rfl, rfl, false, ?_, ?_⟩
      · rw [decide_eq_false]
        intro z
        injection z with z
        omega
      · refine iteF ?_
        refine ⟨_, rfl, c, rfl, hlet c (List.mem_of_getElem? ec), true, rfl, ?_⟩
        exact iteF ⟨_, _, rfl, k.snew nt⟩
    · obtain ⟨y1, y2, rfl, k⟩ := h1
      exact q H1 k
def sp_alone_at (T : List NTab) : Sp := fun vs H Q _ => ∃ (m : Addr) (M : Mac) (a : Addr) (rs : List Nat), vs = [.ref m, .ref a] ∧ MAt [] H m M ∧ M.Ok ∧ H a = some (.lst (rs.map ni)) ∧ ∀ H' p, Kp T [] H H' → H p = none → H' p = some (.lst (vec M.n (al rs))) → Q (.ref p) H'
theorem ok_alone_at (F : Fn K mg "alone_at" s_alone_at) (Tx : Txt mg) : DOk P w K mg base "alone_at" 1 ["machine", "rooms"] [] (sp_alone_at T) := by
  refine F.dok sc_alone_at b_alone_at (fun vs H Q E h => ?_) (fun f cdv A outer s H vs Q E hr h => ?_)
  · obtain ⟨m, M, a, rs, rfl, _⟩ := h
    rfl
  · obtain ⟨m, M, a, rs, rfl, ⟨af, al', as, ts, hm⟩, ok, ha, q⟩ := h
    have hhi := ok.hi
    refine ⟨_, (pss_one (ps_ret (pe_lc (own := [("room", 2)]) (g := gName 2) (tt := tYes) (by rfl) sc_alone_at.nd (pi_range1 (by rfl) Tx.n_range (pa_cons (pe_ix ix_tup (pv 0) pe_int (fun _ _ => rfl)) pa_nil)) (blkOk_by (N := ["machine", "rooms", "room"]) (sc := (defScope s_alone_at)) (own := [("room", 2)]) (by decide +kernel)) (fun _ _ _ _ _ => (pg_name (i := 2) sc_alone_at.nd rfl (by first | exact .inl rfl | exact .inr rfl))) (fun _ _ _ _ _ => pts_nil) (fun _ _ _ _ _ => (pe_callTy call_int1 (by rfl) Tx.n_int (by decide +kernel) (pa_cons (pe_cmpR (show OpR _ (compareOp .In) (rIn K false) from op_in_seq) (pv 2) (pv 1) (by rfl)) pa_nil)))))), ?_⟩
    refine ⟨_, rfl, m, _, 0, _, rfl, rfl, SqT.of hm.m, rfl, (M.n : Int), rfl, by omega, by omega, fun D hD => ?_⟩
    refine lc_it walk_range0 (fun i H1 => Kp T [] H H1 ∧ i ≤ M.n ∧ H1 D = some (.lst (vec i (al rs)))) ⟨Kp.new hD, Nat.zero_le _, upd_same⟩ (fun _ _ _ _ => trivial) (fun i x H1 H2 hi h1 y => ?_) (fun H1 h1 => ?_)
    · obtain ⟨k, hi', eD⟩ := h1
      obtain ⟨rfl, rfl⟩ := y
      have hi2 : i < M.n := by omega
      refine ⟨rfl, ?_⟩
      refine ⟨_, rfl, _, rfl, a, _, rfl, .inl (SqL.of (k.get ha)), rfl, flat_ni rs, .inr ⟨_, rfl, ?_⟩⟩
      refine ⟨_, eD, by rw [vec_len]; exact sz_lt (by omega), k.mut (.inl hD) eD, hi2, ?_⟩
      rw [upd_same, if_neg Bool.false_ne_true, inV_ni]
      unfold vec rg
      rw [List.range_succ, List.map_append]
      show some (HO.lst (List.map (fun q => ni (al rs q)) (List.range i) ++ [V.int (if decide (i ∈ rs) = true then 1 else 0)])) = _
      unfold al
      by_cases e : i ∈ rs
      · rw [decide_eq_true e, if_pos rfl, List.map_singleton, if_pos e]
        rfl
      · rw [decide_eq_false e, if_neg Bool.false_ne_true, List.map_singleton, if_neg e]
        rfl
    · obtain ⟨k, _, eD⟩ := h1
      rw [Int.toNat_natCast] at eD
      exact q H1 D k hD eD
def sp_moved (T : List NTab) : Sp := fun vs H Q _ => ∃ (m : Addr) (M : Mac) (a : Addr) (g : Nat → Nat) (c : Nat), vs = [.ref m, .ref a, sg c] ∧ MAt [] H m M ∧ M.Ok ∧ H a = some (.lst (vec M.n g)) ∧ ∀ H' p, Kp T [] H H' → H p = none → H' p = some (.lst (vec M.n (mv M.S c g))) → Q (.ref p) H'
theorem mv_take (S : List Step) (c : Nat) (g : Nat → Nat) (i : Nat) (s : Step) (h : S[i]? = some s) (q : Nat) : mv (S.take (i + 1)) c g q = mv (S.take i) c g q + (if s.2.1 = c ∧ s.2.2 = q then g s.1 else 0) := by
  unfold mv
  rw [List.take_add_one, h, sm_append]
  show _ + sm [s] _ = _
  rw [sm_cons, sm_nil]
  rfl
theorem ok_moved (F : Fn K mg "moved" s_moved) (Tx : Txt mg) : DOk P w K mg base "moved" 1 ["machine", "vector", "sign"] [] (sp_moved T) := by
  refine F.dok sc_moved b_moved (fun vs H Q E h => ?_) (fun f cdv A outer s H vs Q E hr h => ?_)
  · obtain ⟨m, M, a, g, c, rfl, _⟩ := h
    rfl
  · obtain ⟨m, M, a, g, c, rfl, ⟨af, al', as, ts, hm⟩, ok, ha, q⟩ := h
    have hhi := ok.hi
    have lts := hm.st.len
    have few := ok.few
    refine ⟨_, (pss_cons (ps_set (i := 3) sc_moved.nd rfl (by first | exact .inl rfl | exact .inr rfl) (pe_op op_rep (pe_lst (pa_cons pe_int pa_nil)) (pe_ix ix_tup (pv 0) pe_int (fun _ _ => rfl))))
      (pss_cons (ps_for PassesOwn.never rfl (pi_list (pe_ix ix_tup (pv 0) pe_int (fun _ _ => rfl))) (pg_tup rfl (pgs_cons (pg_name (i := 4) sc_moved.nd rfl (by first | exact .inl rfl | exact .inr rfl)) (pgs_cons (pg_name (i := 5) sc_moved.nd rfl (by first | exact .inl rfl | exact .inr rfl)) (pgs_cons (pg_name (i := 6) sc_moved.nd rfl (by first | exact .inl rfl | exact .inr rfl)) pgs_nil))))
      (pss_one (ps_if (pt_cmpR op_eq (pv 5) (pv 2) (nomark _))
      (pss_one (ps_augS (pv 3) (pv 6) get_list (pe_ix ix_list (pv 1) (pv 4) (fun _ _ => rfl)) ip_add set_list)) pss_nil)))
      (pss_one (ps_ret (pv 3))))), ?_⟩
    refine ⟨(by show 1 ≤ sizeLine; decide), fun z hz => ?_⟩
    have k0 : Kp T [] H (upd H z (.lst [.int 0])) := Kp.new hz
    refine ⟨_, rfl, m, _, 0, _, rfl, rfl, SqT.of (k0.get hm.m), rfl, ?_⟩
    refine ⟨z, _, _, rfl, rfl, upd_same, by omega, by omega, ?_, fun D hD => ?_⟩
    · rw [Int.toNat_natCast]
      show 1 * M.n ≤ sizeLine
      exact sz_ok (by omega)
    · have e0 : (List.replicate ((M.n : Int)).toNat [V.int 0]).flatten = vec M.n (mv (M.S.take 0) c g) := by
        rw [Int.toNat_natCast]
        unfold vec rg
        have : ∀ n : Nat, (List.replicate n [V.int 0]).flatten = (List.range n).map fun q => ni (mv (M.S.take 0) c g q) := fun n => by
          rw [List.take_zero]
          show _ = (List.range n).map fun q => V.int 0
          induction n with
          | zero => rfl
          | succ n ih => rw [List.replicate_succ', List.flatten_append, ih, List.range_succ, List.map_append]; rfl
        exact this M.n
      rw [e0]
      have k1 := k0.snew (o := .lst (vec M.n (mv (M.S.take 0) c g))) hD
      have nDH : H D = none := k0.free hD
      refine ⟨_, rfl, m, _, 3, _, rfl, rfl, SqT.of (k1.get hm.m), rfl, as, rfl, ⟨_, SqL.of (k1.get hm.s)⟩, ?_⟩
      refine for_it (walk_list (xs := ts.map V.ref)) (fun i σ H1 => ∃ (y4 y5 y6 : Option V), σ = [some (.ref m), some (.ref a), some (sg c), some (.ref D), y4, y5, y6] ∧ Kp T [] H H1 ∧ H1 D = some (.lst (vec M.n (mv (M.S.take i) c g)))) ⟨_, _, _, rfl, k1, upd_same⟩ (fun i σ H1 _ h1 => ?_) (fun i x σ H1 H2 hi h1 y => ?_) (fun σ H1 h1 => ?_)
      · obtain ⟨_, _, _, _, k, _⟩ := h1
        exact SqL.of (k.get hm.s)
      · obtain ⟨y4, y5, y6, rfl, k, eD⟩ := h1
        obtain ⟨rfl, e2⟩ := y
        obtain ⟨t', s', rfl, et, es, hts⟩ := hm.st.get e2
        have hmem : s' ∈ M.S := List.mem_of_getElem? es
        have hb := ok.bel s' hmem
        refine ⟨t', _, rfl, SqT.of (k.get hts), rfl, _, _, rfl, _, _, rfl, _, _, rfl, rfl, ?_⟩
        refine ⟨_, rfl, _, rfl, rfl, _, rfl, ?_⟩
        by_cases e : s'.2.1 = c
        · rw [decide_eq_true (by rw [e])]
          refine iteT ?_
          refine ⟨_, rfl, _, rfl, D, _, _, _, rfl, rfl, SqL.of eD, vec_at hb.2, ?_⟩
          refine ⟨_, rfl, _, rfl, a, _, _, _, rfl, rfl, SqL.of (k.get ha), vec_at hb.1, ?_⟩
          refine ⟨_, _, rfl, rfl, D, _, _, s'.2.2, rfl, rfl, eD, by rw [vec_len]; exact ixN_nat hb.2, ?_⟩
          refine ⟨_, _, _, rfl, k.mut (.inl nDH) eD, ?_⟩
          rw [upd_same]
          have e3 : V.int (((mv (M.S.take i) c g s'.2.2 : Nat) : Int) + ((g s'.1 : Nat) : Int)) = ni (mv (M.S.take i) c g s'.2.2 + g s'.1) := by
            show V.int _ = V.int _
            rw [Int.natCast_add]
          show some (HO.lst ((vec M.n (mv (M.S.take i) c g)).set s'.2.2 (V.int (((mv (M.S.take i) c g s'.2.2 : Nat) : Int) + ((g s'.1 : Nat) : Int))))) = _
          rw [e3, vec_set hb.2]
          congr 2
          refine vec_ext fun r _ => ?_
          rw [mv_take _ _ _ _ _ es]
          by_cases e4 : s'.2.2 = r
          · subst e4
            rw [if_pos rfl, if_pos ⟨e, rfl⟩]
          · rw [if_neg e4, if_neg fun z => e4 z.2, Nat.add_zero]
        · rw [decide_eq_false fun z => e (by injection z with z; exact one_inj z)]
          refine iteF ⟨_, _, _, rfl, k, ?_⟩
          rw [eD]
          congr 2
          refine vec_ext fun r _ => ?_
          rw [mv_take _ _ _ _ _ es, if_neg fun z => e z.1, Nat.add_zero]
      · obtain ⟨_, _, _, rfl, k, eD⟩ := h1
        rw [List.take_of_length_le (by rw [List.length_map, lts]; exact Nat.le_refl _)] at eD
        exact ⟨_, rfl, q H1 D k nDH eD⟩
end
end K51
/-! how many ways, further -/
namespace K51
open PySem PySem.Spec PyProof.Rows L2 NdefX LamX
/-- a def with defaults -/
structure FnD (K : PySem.W.Frag) (mg : Str → Option Value) (x : Str) (st : Stmt) (dvs : List V) : Prop where
  ex : ∃ f fd, FunD K x x (defArgs st) (defBody st) (defScope st) dvs [] f fd ∧ mg x = some (.ref f)
section
variable {P : Program} {w : World} {K : PySem.W.Frag} {mg : Str → Option Value} {base : Heap}
theorem FnD.dok {x : Str} {st : Stmt} {N ps : List Str} {k : Nat} {sp : Sp} {dvs : List V} (n j : Nat) (F : FnD K mg x st dvs) (S : FnScope N ps (defScope st)) (hd : dvs ≠ []) (hn : n + (dvs.length - j) = ps.length)
    (hb : ∀ (T : Addr) (kV doc pm : Value) (an : Option Addr) (cdv ct : Value) (us its : List Value), us.length = n → its.length = dvs.length →
      ∃ k, bindArgs (PySem.W.fnOf x x (defArgs st) (defBody st) (defScope st) (.ref T) kV doc pm an cdv ct) ⟨us, []⟩ = seqItems? (.ref T) >>= k ∧ k (some its.toArray) = pure (ps.zip (us ++ its.drop j)))
    (len : ∀ vs H Q E, sp vs H Q E → vs.length = ps.length)
    (hbody : ∀ (f : Addr) (cdv : Value) (A : Around) (outer : List Env) (s : Shared) (H : Hp) (vs : List V) (Q : VK) (E : XK), Room k (A.deeper (envOfC x (defScope st) s.heap.objs.size f cdv)) → sp vs H Q E →
      ∃ t, PSs (cxOf CX0 P w K mg base N x (defScope st) f cdv A outer s H E).nox (defBody st) t ∧ t { nx := fun _ H' => Q .non H', rt := Q } (start N vs) H) : DOk P w K mg base x (k + 1) ps (dvs.drop j) sp := by
  obtain ⟨f, fd, F, hm⟩ := F.ex
  obtain ⟨ds, hv, hbi⟩ := F.binds1 n j hd hn hb
  refine ⟨f, fd, ds, F.ok S len (fun cdv A outer s H vs Q E hr h => ?_), hm, F.kp, hbi, hv⟩
  obtain ⟨t, h1, h2⟩ := hbody f cdv A outer s H vs Q E hr h
  exact ⟨t, h1.nox, h2⟩
end
section
variable {P : Program} {w : World} {K : PySem.W.Frag} {mg : Str → Option Value} {base : Heap} {T : List NTab}
def sp_moved_by (T : List NTab) : Sp := fun vs H Q _ => ∃ (m : Addr) (M : Mac) (a : Addr) (g : Nat → Nat) (u : List Nat), vs = [.ref m, .ref a, wd u] ∧ MAt [] H m M ∧ M.Ok ∧ H a = some (.lst (vec M.n g)) ∧ ∀ H' p, Kp T [] H H' → H' p = some (.lst (vec M.n (mvw M.S u g))) → Q (.ref p) H'
theorem mvw_take (S : List Step) (u : List Nat) (g : Nat → Nat) (i c : Nat) (h : u[i]? = some c) : mvw S (u.take (i + 1)) g = mv S c (mvw S (u.take i) g) := by
  rw [List.take_add_one, h]
  exact mvw_snoc S (u.take i) c g
theorem ok_moved_by (F : Fn K mg "moved_by" s_moved_by) (Tx : Txt mg) (D_moved : DOk P w K mg base "moved" 1 ["machine", "vector", "sign"] [] (sp_moved T)) : DOk P w K mg base "moved_by" 2 ["machine", "vector", "text"] [] (sp_moved_by T) := by
  refine F.dok sc_moved_by b_moved_by (fun vs H Q E h => ?_) (fun f cdv A outer s H vs Q E hr h => ?_)
  · obtain ⟨m, M, a, g, u, rfl, _⟩ := h
    rfl
  · obtain ⟨m, M, a, g, u, rfl, hM, ok, ha, q⟩ := h
    refine ⟨_, (pss_cons (ps_for PassesOwn.never rfl (pi_str (pv 2)) (pg_name (i := 3) sc_moved_by.nd rfl (by first | exact .inl rfl | exact .inr rfl))
      (pss_one (ps_set (i := 1) sc_moved_by.nd rfl (by first | exact .inl rfl | exact .inr rfl) (pe_d D_moved hr (by rfl) (pa_cons (pv 0) (pa_cons (pv 1) (pa_cons (pv 3) pa_nil)))))))
      (pss_one (ps_ret (pv 1)))), ?_⟩
    refine ⟨_, rfl, _, rfl, for_it (walk_tx (w := u)) (fun i σ H1 => ∃ (b : Addr) (y3 : Option V), σ = [some (.ref m), some (.ref b), some (wd u), y3] ∧ Kp T [] H H1 ∧ H1 b = some (.lst (vec M.n (mvw M.S (u.take i) g)))) ⟨_, _, rfl, Kp.refl H, ha⟩ (fun _ _ _ _ _ => trivial) (fun i x σ H1 H2 hi h1 y => ?_) (fun σ H1 h1 => ?_)⟩
    · obtain ⟨b, y3, rfl, k, eb⟩ := h1
      obtain ⟨rfl, c, ec, rfl⟩ := y
      refine ⟨_, rfl, _, rfl, _, rfl, m, M, b, _, c, rfl, hM.kp k, ok, eb, fun H2 p k2 _ ep => ?_⟩
      exact ⟨p, _, rfl, k.trans k2, by rw [mvw_take _ _ _ _ _ ec]; exact ep⟩
    · obtain ⟨b, y3, rfl, k, eb⟩ := h1
      rw [List.take_length] at eb
      exact ⟨_, rfl, q H1 b k eb⟩
def sp_sum_at (T : List NTab) : Sp := fun vs H Q _ => ∃ (n : Nat) (a b : Addr) (g : Nat → Nat) (rs : List Nat), vs = [.ref a, .ref b] ∧ H a = some (.lst (vec n g)) ∧ H b = some (.lst (rs.map ni)) ∧ (∀ r ∈ rs, r < n) ∧ rs.length ≤ 1000 ∧ ∀ H', Kp T [] H H' → Q (ni (sm rs g)) H'
theorem sum_ni (l : List Nat) : (l.map fun (n : Nat) => ((n : Nat) : Int)).sum = ((l.sum : Nat) : Int) := by
  induction l with
  | nil => rfl
  | cons a l ih => rw [List.map_cons, List.sum_cons, List.sum_cons, ih, Int.natCast_add]
theorem ok_sum_at (F : Fn K mg "sum_at" s_sum_at) (Tx : Txt mg) : DOk P w K mg base "sum_at" 1 ["vector", "rooms"] [] (sp_sum_at T) := by
  refine F.dok sc_sum_at b_sum_at (fun vs H Q E h => ?_) (fun f cdv A outer s H vs Q E hr h => ?_)
  · obtain ⟨n, a, b, g, rs, rfl, _⟩ := h
    rfl
  · obtain ⟨n, a, b, g, rs, rfl, ha, hb, hlt, hlen, q⟩ := h
    refine ⟨_, (pss_one (ps_ret (pe_callBK (cr_sumK rfl) (by rfl) Tx.n_sum (by decide +kernel) (pa_cons (pe_lc (own := [("room", 2)]) (g := gName 2) (tt := tYes) (by rfl) sc_sum_at.nd (pi_list (pv 1)) (blkOk_by (N := ["vector", "rooms", "room"]) (sc := (defScope s_sum_at)) (own := [("room", 2)]) (by decide +kernel)) (fun _ _ _ _ _ => (pg_name (i := 2) sc_sum_at.nd rfl (by first | exact .inl rfl | exact .inr rfl))) (fun _ _ _ _ _ => pts_nil) (fun _ _ _ _ _ => (pe_ix (show IxR _ (rIxL K) from ix_list) (pv 0) (pv 2) (fun _ _ => rfl)))) pa_nil) (pk_cons pe_int pk_nil)))), ?_⟩
    refine ⟨_, rfl, b, rfl, ⟨_, SqL.of hb⟩, fun D hD => ?_⟩
    refine lc_it (walk_list (xs := rs.map ni)) (fun i H1 => Kp T [] H H1 ∧ H1 D = some (.lst ((rs.take i).map fun r => ni (g r)))) ⟨Kp.new hD, upd_same⟩ (fun i H1 _ h1 => SqL.of (h1.1.get hb)) (fun i x H1 H2 hi h1 y => ?_) (fun H1 h1 => ?_)
    · obtain ⟨k, eD⟩ := h1
      obtain ⟨rfl, e2⟩ := y
      obtain ⟨r, er, rfl⟩ := map_get e2
      refine ⟨rfl, ?_⟩
      refine ⟨_, rfl, _, rfl, a, _, _, _, rfl, rfl, SqL.of (k.get ha), vec_at (hlt r (List.mem_of_getElem? er)), ?_⟩
      refine ⟨_, eD, by rw [List.length_map, List.length_take]; exact sz_lt (by omega), k.mut (.inl hD) eD, ?_⟩
      rw [upd_same, List.take_add_one, er, List.map_append]
      rfl
    · obtain ⟨k, eD⟩ := h1
      rw [List.take_of_length_le (by rw [List.length_map]; exact Nat.le_refl _)] at eD
      refine ⟨D, rs.map fun r => ((g r : Nat) : Int), rfl, rfl, ?_, ?_⟩
      · rw [List.map_map]
        exact SqL.of eD
      · have e : (rs.map fun r => ((g r : Nat) : Int)).sum = ((sm rs g : Nat) : Int) := by
          unfold sm
          rw [← sum_ni, List.map_map]
          rfl
        show Q (.int (rs.map fun r => ((g r : Nat) : Int)).sum) H1
        rw [e]
        exact q H1 k
/-- how many ways by u from some rooms to others -/
def wb (S : List Step) (u : List Nat) (rs os : List Nat) : Nat := sm os (mvw S u (al rs))
def sp_ways (T : List NTab) : Sp := fun vs H Q _ => ∃ (m : Addr) (M : Mac) (u : List Nat), vs = [.ref m, wd u, .non, .non] ∧ MAt [] H m M ∧ M.Ok ∧ u.length ≤ 400 ∧ (∀ c ∈ u, Let c) ∧ ∀ H', Kp T [] H H' → Q (ni (wb M.S u M.fs M.ls)) H'
theorem pw_len {n : Nat} : ∀ {rs : List Nat}, rs.Pairwise (· < ·) → (∀ r ∈ rs, r < n) → ∀ {l : Nat}, (∀ r ∈ rs, l ≤ r) → rs.length + l ≤ n ∨ rs = []
  | [], _, _, _, _ => .inr rfl
  | a :: rs, hp, hb, l, hl => by
    left
    have h1 := List.pairwise_cons.mp hp
    have ha := hb a List.mem_cons_self
    have hla := hl a List.mem_cons_self
    rcases pw_len (l := a + 1) h1.2 (fun r hr => hb r (List.mem_cons_of_mem _ hr)) (fun r hr => h1.1 r hr) with h | h
    · rw [List.length_cons]
      omega
    · subst h
      simp
      omega
theorem rise_len {n : Nat} {rs : List Nat} (hp : rs.Pairwise (· < ·)) (hb : ∀ r ∈ rs, r < n) : rs.length ≤ n := by
  rcases pw_len (l := 0) hp hb (fun _ _ => Nat.zero_le _) with h | h
  · omega
  · subst h
    exact Nat.zero_le _
theorem ok_ways (F : FnD K mg "ways" s_ways [.non, .non]) (Tx : Txt mg) (D_look_at : DOk P w K mg base "look_at" 5 ["thing"] [] (sp_look_at T)) (D_look_at_word : DOk P w K mg base "look_at_word" 2 ["text"] [] (sp_look_at_word T))
    (D_alone_at : DOk P w K mg base "alone_at" 1 ["machine", "rooms"] [] (sp_alone_at T)) (D_moved_by : DOk P w K mg base "moved_by" 2 ["machine", "vector", "text"] [] (sp_moved_by T)) (D_sum_at : DOk P w K mg base "sum_at" 1 ["vector", "rooms"] [] (sp_sum_at T)) (D_look_at_room : DOk P w K mg base "look_at_room" 3 ["machine", "room"] [] (sp_look_at_room T)) :
    DOk P w K mg base "ways" 6 ["machine", "text", "first", "last"] [.non, .non] (sp_ways T) := by
  refine F.dok 2 0 sc_ways (by simp) rfl (fun _ _ _ _ _ _ _ us its h1 h2 => match us, its, h1, h2 with | [_, _], [_, _], _, _ => ⟨_, rfl, rfl⟩) (fun vs H Q E h => ?_) (fun f cdv A outer s H vs Q E hr h => ?_)
  · obtain ⟨m, M, u, rfl, _⟩ := h
    rfl
  · obtain ⟨m, M, u, rfl, hM, ok, hlen, hlet, q⟩ := h
    refine ⟨_, (pss_cons (ps_expr (pe_d D_look_at hr (by rfl) (pa_cons (pv 0) pa_nil)))
      (pss_cons (ps_expr (pe_d D_look_at_word hr (by rfl) (pa_cons (pv 1) pa_nil)))
      (pss_cons (ps_set (i := 4) sc_ways.nd rfl (by first | exact .inl rfl | exact .inr rfl) (pe_ix ix_tup (pv 0) pe_int (fun _ _ => rfl)))
      (pss_cons (ps_set (i := 5) sc_ways.nd rfl (by first | exact .inl rfl | exact .inr rfl) (pe_ix ix_tup (pv 0) pe_int (fun _ _ => rfl)))
      (pss_cons (ps_if (pt_cmpR op_notN (pv 2) pe_non (nomark _))
      (pss_cons (ps_expr (pe_d D_look_at_room hr (by rfl) (pa_cons (pv 0) (pa_cons (pv 2) pa_nil))))
      (pss_one (ps_set (i := 4) sc_ways.nd rfl (by first | exact .inl rfl | exact .inr rfl) (pe_lst (pa_cons (pv 2) pa_nil))))) pss_nil)
      (pss_cons (ps_if (pt_cmpR op_notN (pv 3) pe_non (nomark _))
      (pss_cons (ps_expr (pe_d D_look_at_room hr (by rfl) (pa_cons (pv 0) (pa_cons (pv 3) pa_nil))))
      (pss_one (ps_set (i := 5) sc_ways.nd rfl (by first | exact .inl rfl | exact .inr rfl) (pe_lst (pa_cons (pv 3) pa_nil))))) pss_nil)
      (pss_one (ps_ret (pe_d D_sum_at hr (by rfl) (pa_cons (pe_d D_moved_by hr (by rfl) (pa_cons (pv 0) (pa_cons (pe_d D_alone_at hr (by rfl) (pa_cons (pv 0) (pa_cons (pv 4) pa_nil))) (pa_cons (pv 1) pa_nil)))) (pa_cons (pv 5) pa_nil))))))))))), ?_⟩
    refine ⟨_, rfl, m, M, rfl, hM, ok, fun H1 k1 => ?_⟩
    refine ⟨_, rfl, u, rfl, hlen, hlet, fun H2 k2 => ?_⟩
    have k12 := k1.trans k2
    obtain ⟨af, al', as, ts, hm⟩ := hM.kp k12
    refine ⟨_, rfl, m, _, 1, _, rfl, rfl, SqT.of hm.m, rfl, ?_⟩
    refine ⟨_, rfl, m, _, 2, _, rfl, rfl, SqT.of hm.m, rfl, ?_⟩
    refine ⟨_, rfl, rfl, _, rfl, ?_⟩
    refine iteF ?_
    refine ⟨_, rfl, rfl, _, rfl, ?_⟩
    refine iteF ?_
    refine ⟨_, rfl, _, rfl, _, rfl, m, M, af, M.fs, rfl, ⟨af, al', as, ts, hm⟩, ok, hm.f, fun H3 p k3 _ ep => ?_⟩
    have hM3 := (show MAt [] H2 m M from ⟨af, al', as, ts, hm⟩).kp k3
    refine ⟨_, rfl, m, M, p, _, u, rfl, hM3, ok, ep, fun H4 p4 k4 ep4 => ?_⟩
    have k34 := k3.trans k4
    have hhi := ok.hi
    have hll := rise_len ok.ls ok.lb
    refine ⟨_, rfl, M.n, p4, al', _, M.ls, rfl, ep4, k34.get hm.l, ok.lb, by omega, fun H5 k5 => ?_⟩
    exact q H5 ((k12.trans k34).trans k5)
def sp_ways_between (T : List NTab) : Sp := fun vs H Q _ => ∃ (m : Addr) (M : Mac) (u : List Nat) (a b : Addr) (rs os : List Nat), vs = [.ref m, wd u, .ref a, .ref b] ∧ MAt [] H m M ∧ M.Ok ∧ H a = some (.lst (rs.map ni)) ∧ H b = some (.lst (os.map ni)) ∧ (∀ r ∈ os, r < M.n) ∧ os.length ≤ 1000 ∧ ∀ H', Kp T [] H H' → Q (ni (wb M.S u rs os)) H'
theorem ok_ways_between (F : Fn K mg "ways_between" s_ways_between) (Tx : Txt mg)
    (D_alone_at : DOk P w K mg base "alone_at" 1 ["machine", "rooms"] [] (sp_alone_at T)) (D_moved_by : DOk P w K mg base "moved_by" 2 ["machine", "vector", "text"] [] (sp_moved_by T)) (D_sum_at : DOk P w K mg base "sum_at" 1 ["vector", "rooms"] [] (sp_sum_at T)) :
    DOk P w K mg base "ways_between" 3 ["machine", "text", "rooms", "others"] [] (sp_ways_between T) := by
  refine F.dok sc_ways_between b_ways_between (fun vs H Q E h => ?_) (fun f cdv A outer s H vs Q E hr h => ?_)
  · obtain ⟨m, M, u, a, b, rs, os, rfl, _⟩ := h
    rfl
  · obtain ⟨m, M, u, a, b, rs, os, rfl, hM, ok, ha, hb, hlt, hlen, q⟩ := h
    refine ⟨_, (pss_one (ps_ret (pe_d D_sum_at hr (by rfl) (pa_cons (pe_d D_moved_by hr (by rfl) (pa_cons (pv 0) (pa_cons (pe_d D_alone_at hr (by rfl) (pa_cons (pv 0) (pa_cons (pv 2) pa_nil))) (pa_cons (pv 1) pa_nil)))) (pa_cons (pv 3) pa_nil))))), ?_⟩
    refine ⟨_, rfl, _, rfl, _, rfl, m, M, a, rs, rfl, hM, ok, ha, fun H3 p k3 _ ep => ?_⟩
    refine ⟨_, rfl, m, M, p, _, u, rfl, hM.kp k3, ok, ep, fun H4 p4 k4 ep4 => ?_⟩
    have k34 := k3.trans k4
    refine ⟨_, rfl, M.n, p4, b, _, os, rfl, ep4, k34.get hb, hlt, hlen, fun H5 k5 => ?_⟩
    exact q H5 (k34.trans k5)
end
end K51
/-! pumps, in plain Lean -/
namespace K51
theorem al_one (p : Nat) : al [p] = dl p := by
  funext q
  unfold al dl
  by_cases e : p = q
  · subst e
    rw [if_pos (by simp), if_pos rfl]
  · rw [if_neg (by simpa using fun z => e z.symm), if_neg e]
theorem wb_one (S : List Step) (u : Word) (p q : Nat) : wb S u [p] [q] = cnt S u p q := by
  unfold wb cnt
  rw [al_one, sm_cons, sm_nil, Nat.add_zero]
theorem wb_ge {n : Nat} {S : List Step} (hb : Below n S) {u : Word} {fs ls : List Nat} {f l : Nat} (hf : f ∈ fs) (hfn : f < n) (hl : l ∈ ls) (hln : l < n) : cnt S u f l ≤ wb S u fs ls := by
  unfold wb
  refine Nat.le_trans ?_ (sm_mem (f := mvw S u (al fs)) hl)
  rw [mvw_lin hb u _ l hln]
  refine Nat.le_trans ?_ (sm_mem (f := fun r => al fs r * cnt S u r l) (mem_rg.mpr hfn))
  show _ ≤ al fs f * _
  unfold al
  rw [if_pos hf, Nat.one_mul]
  exact Nat.le_refl _
theorem wb_pos {n : Nat} {S : List Step} (hb : Below n S) {u : Word} {fs ls : List Nat} (hls : ∀ l ∈ ls, l < n) (h : wb S u fs ls ≠ 0) : ∃ f ∈ fs, f < n ∧ ∃ l ∈ ls, 0 < cnt S u f l := by
  unfold wb at h
  obtain ⟨l, hl, h1⟩ := sm_pos (Nat.pos_of_ne_zero h)
  rw [mvw_lin hb u _ l (hls l hl)] at h1
  obtain ⟨f, hf, h2⟩ := sm_pos h1
  have h3 : f ∈ fs := by
    by_cases e : f ∈ fs
    · exact e
    · unfold al at h2
      rw [if_neg e, Nat.zero_mul] at h2
      exact absurd h2 (Nat.lt_irrefl _)
  have h4 : 0 < cnt S u f l := by
    unfold al at h2
    rw [if_pos h3, Nat.one_mul] at h2
    exact h2
  exact ⟨f, h3, mem_rg.mp hf, l, hl, h4⟩
theorem wb_turn {n : Nat} {S : List Step} (hb : Below n S) {u : Word} {fs ls : List Nat} (hfs : ∀ f ∈ fs, f < n) (hls : ∀ l ∈ ls, l < n) (h : wb S u fs ls ≠ 0) : wb (turnS S) u.reverse ls fs ≠ 0 := by
  obtain ⟨f, hf, hfn, l, hl, h1⟩ := wb_pos hb hls h
  have h2 := wb_ge (below_turn hb) (u := u.reverse) hl (hls l hl) hf hfn
  rw [cnt_turn hb u f l hfn (hls l hl)] at h2
  omega

structure Pump where
  ts : List Word
  rs : List (Nat × Nat)
def Pump.T (p : Pump) (i : Nat) : Word := p.ts.getD i []
def Pump.R (p : Pump) (i : Nat) : Nat × Nat := p.rs.getD i (0, 0)
structure Pump.Form (p : Pump) (n : Nat) : Prop where
  lo : 1 ≤ p.rs.length
  hi : p.rs.length ≤ 12
  len : p.ts.length = 2 * p.rs.length + 1
  let' : ∀ t ∈ p.ts, ∀ c ∈ t, Let c
  sz : ∀ t ∈ p.ts, t.length ≤ 1000
  rb : ∀ r ∈ p.rs, r.1 < n ∧ r.2 < n
structure Lets (M : Mac) (p : Pump) : Prop where
  first : wb M.S (p.T 0) M.fs [(p.R 0).1] ≠ 0
  last : wb M.S (p.T (2 * p.rs.length)) [(p.R (p.rs.length - 1)).2] M.ls ≠ 0
  mid : ∀ i, i < p.rs.length → Mid M.S (p.T (2 * i + 1)) (p.R i).1 (p.R i).2
  btw : ∀ i, 0 < i → i < p.rs.length → cnt M.S (p.T (2 * i)) (p.R (i - 1)).2 (p.R i).1 ≠ 0
theorem Pump.Form.rb' {p : Pump} {n i : Nat} (h : p.Form n) (hi : i < p.rs.length) : (p.R i).1 < n ∧ (p.R i).2 < n := by
  unfold Pump.R
  have e : p.rs.getD i (0, 0) = p.rs[i] := by simp [List.getD, hi]
  rw [e]
  exact h.rb _ (List.getElem_mem hi)
/-- the word of the first n texts, middles k times -/
def lwi (k : Nat) (T : Nat → Word) (n : Nat) : Word := ((List.range n).map fun i => if i % 2 = 1 then rp k (T i) else T i).flatten
theorem lwi_zero (k : Nat) (T : Nat → Word) : lwi k T 0 = [] := rfl
theorem lwi_succ (k : Nat) (T : Nat → Word) (n : Nat) : lwi k T (n + 1) = lwi k T n ++ (if n % 2 = 1 then rp k (T n) else T n) := by
  unfold lwi
  rw [List.range_succ, List.map_append, List.flatten_append]
  simp
/-- the least ways of the first n rounds -/
def lsP (k : Nat) (R : Nat → Nat × Nat) : Nat → Nat
  | 0 => 1
  | n + 1 => lsP k R n * lst1 k (R n).1 (R n).2
theorem pump_ge {M : Mac} (ok : M.Ok) {p : Pump} (hf : p.Form M.n) (h : Lets M p) (k : Nat) : lsP k p.R p.rs.length ≤ wb M.S (lwi k p.T (2 * p.rs.length + 1)) M.fs M.ls := by
  have hb := ok.bel
  have hlo := hf.lo
  have r0 := hf.rb' (i := 0) (by omega)
  obtain ⟨f, hff, hfn, l0, hl0, h1⟩ := wb_pos hb (fun l hl => by rw [List.mem_singleton.mp hl]; exact r0.1) h.first
  rw [List.mem_singleton.mp hl0] at h1
  have claim : ∀ j, j + 1 ≤ p.rs.length → lsP k p.R (j + 1) ≤ cnt M.S (lwi k p.T (2 * j + 2)) f (p.R j).2 := by
    intro j
    induction j with
    | zero =>
      intro hj
      have e1 : lwi k p.T (2 * 0 + 2) = p.T 0 ++ rp k (p.T 1) := by
        rw [lwi_succ, lwi_succ, lwi_zero]
        rfl
      rw [e1]
      have a := mid_ge hb r0.1 r0.2 (h.mid 0 (by omega)) k
      have b := cnt_ge hb (p.T 0) (rp k (p.T 1)) f (p.R 0).2 (p.R 0).1 r0.2 r0.1
      have c := Nat.mul_le_mul (show 1 ≤ cnt M.S (p.T 0) f (p.R 0).1 from h1) a
      exact Nat.le_trans c b
    | succ j ih =>
      intro hj
      have rj := hf.rb' (i := j) (by omega)
      have rj1 := hf.rb' (i := j + 1) (by omega)
      have e1 : lwi k p.T (2 * (j + 1) + 2) = (lwi k p.T (2 * j + 2) ++ p.T (2 * (j + 1))) ++ rp k (p.T (2 * (j + 1) + 1)) := by
        have o1 : (2 * (j + 1) + 1) % 2 = 1 := by omega
        have o2 : ¬ (2 * (j + 1)) % 2 = 1 := by omega
        have s1 := lwi_succ k p.T (2 * (j + 1) + 1)
        have s2 := lwi_succ k p.T (2 * (j + 1))
        rw [if_pos o1] at s1
        rw [if_neg o2] at s2
        rw [s2] at s1
        exact s1
      rw [e1]
      have a := mid_ge hb rj1.1 rj1.2 (h.mid (j + 1) (by omega)) k
      have b := cnt_ge hb (lwi k p.T (2 * j + 2) ++ p.T (2 * (j + 1))) (rp k (p.T (2 * (j + 1) + 1))) f (p.R (j + 1)).2 (p.R (j + 1)).1 rj1.2 rj1.1
      have c := cnt_ge hb (lwi k p.T (2 * j + 2)) (p.T (2 * (j + 1))) f (p.R (j + 1)).1 (p.R j).2 rj1.1 rj.2
      have d := h.btw (j + 1) (by omega) (by omega)
      have d' : 1 ≤ cnt M.S (p.T (2 * (j + 1))) (p.R j).2 (p.R (j + 1)).1 := Nat.pos_of_ne_zero d
      have e := Nat.mul_le_mul (ih (by omega)) d'
      rw [Nat.mul_one] at e
      exact Nat.le_trans (Nat.mul_le_mul (Nat.le_trans e c) a) b
  have rK := hf.rb' (i := p.rs.length - 1) (by omega)
  obtain ⟨f', hff', hfn', l, hl, h2⟩ := wb_pos hb ok.lb h.last
  rw [List.mem_singleton.mp hff'] at h2
  have hln := ok.lb l hl
  have c1 := claim (p.rs.length - 1) (by omega)
  have e2 : p.rs.length - 1 + 1 = p.rs.length := by omega
  have e3 : 2 * (p.rs.length - 1) + 2 = 2 * p.rs.length := by omega
  rw [e2, e3] at c1
  rw [lwi_succ, if_neg (by omega)]
  refine Nat.le_trans ?_ (wb_ge hb (u := lwi k p.T (2 * p.rs.length) ++ p.T (2 * p.rs.length)) hff hfn hl hln)
  refine Nat.le_trans ?_ (cnt_ge hb _ _ f l (p.R (p.rs.length - 1)).2 hln rK.2)
  have := Nat.mul_le_mul c1 (show 1 ≤ cnt M.S (p.T (2 * p.rs.length)) (p.R (p.rs.length - 1)).2 l from h2)
  rw [Nat.mul_one] at this
  exact this

/-! ### the pump turned about -/
def Pump.back (p : Pump) : Pump := ⟨p.ts.reverse.map List.reverse, p.rs.reverse.map fun r => (r.2, r.1)⟩
theorem back_len (p : Pump) : p.back.rs.length = p.rs.length := by simp [Pump.back]
theorem back_T {p : Pump} {n i : Nat} (hf : p.Form n) (hi : i ≤ 2 * p.rs.length) : p.back.T i = (p.T (2 * p.rs.length - i)).reverse := by
  have h1 : i < p.ts.length := by rw [hf.len]; omega
  have h2 : 2 * p.rs.length - i < p.ts.length := by rw [hf.len]; omega
  unfold Pump.T Pump.back
  show (p.ts.reverse.map List.reverse).getD i [] = _
  have e1 : (p.ts.reverse.map List.reverse)[i]? = some (p.ts[2 * p.rs.length - i]).reverse := by
    rw [List.getElem?_map, List.getElem?_reverse h1]
    have e : p.ts.length - 1 - i = 2 * p.rs.length - i := by rw [hf.len]; omega
    rw [e, List.getElem?_eq_getElem h2]
    rfl
  unfold List.getD
  rw [e1, List.getElem?_eq_getElem h2]
  rfl
theorem back_R {p : Pump} {i : Nat} (hi : i < p.rs.length) : p.back.R i = ((p.R (p.rs.length - 1 - i)).2, (p.R (p.rs.length - 1 - i)).1) := by
  have h2 : p.rs.length - 1 - i < p.rs.length := by omega
  unfold Pump.R Pump.back
  show (p.rs.reverse.map fun r => (r.2, r.1)).getD i (0, 0) = _
  have e1 : (p.rs.reverse.map fun r => (r.2, r.1))[i]? = some ((p.rs[p.rs.length - 1 - i]).2, (p.rs[p.rs.length - 1 - i]).1) := by
    rw [List.getElem?_map, List.getElem?_reverse hi, List.getElem?_eq_getElem h2]
    rfl
  unfold List.getD
  rw [e1, List.getElem?_eq_getElem h2]
  rfl
theorem back_form {p : Pump} {n : Nat} (hf : p.Form n) : p.back.Form n where
  lo := by rw [back_len]; exact hf.lo
  hi := by rw [back_len]; exact hf.hi
  len := by rw [back_len]; simp [Pump.back, hf.len]
  let' := fun t ht c hc => by
    unfold Pump.back at ht
    simp only [List.mem_map, List.mem_reverse] at ht
    obtain ⟨t', h1, h2⟩ := ht
    rw [← h2] at hc
    exact hf.let' t' h1 c (List.mem_reverse.mp hc)
  sz := fun t ht => by
    unfold Pump.back at ht
    simp only [List.mem_map, List.mem_reverse] at ht
    obtain ⟨t', h1, h2⟩ := ht
    rw [← h2, List.length_reverse]
    exact hf.sz t' h1
  rb := fun r hr => by
    unfold Pump.back at hr
    simp only [List.mem_map, List.mem_reverse] at hr
    obtain ⟨r', h1, h2⟩ := hr
    rw [← h2]
    exact ⟨(hf.rb r' h1).2, (hf.rb r' h1).1⟩
theorem back_lets {M : Mac} (ok : M.Ok) {p : Pump} (hf : p.Form M.n) (h : Lets M p) : Lets (turnM M) p.back := by
  have hb := ok.bel
  have hlo := hf.lo
  refine ⟨?_, ?_, fun i hi => ?_, fun i h0 hi => ?_⟩
  · rw [back_T hf (Nat.zero_le _), back_R (by omega), Nat.sub_zero, Nat.sub_zero]
    have rK := hf.rb' (i := p.rs.length - 1) (by omega)
    exact wb_turn hb (fun f hf' => by rw [List.mem_singleton.mp hf']; exact rK.2) ok.lb h.last
  · rw [back_len, back_T hf (Nat.le_refl _), back_R (by omega), Nat.sub_self]
    have e : p.rs.length - 1 - (p.rs.length - 1) = 0 := by omega
    rw [e]
    have r0 := hf.rb' (i := 0) (by omega)
    exact wb_turn hb ok.fb (fun f hf' => by rw [List.mem_singleton.mp hf']; exact r0.1) h.first
  · rw [back_len] at hi
    rw [back_T hf (by omega), back_R hi]
    have e : 2 * p.rs.length - (2 * i + 1) = 2 * (p.rs.length - 1 - i) + 1 := by omega
    rw [e]
    have rj := hf.rb' (i := p.rs.length - 1 - i) (by omega)
    exact mid_turn hb rj.1 rj.2 (h.mid _ (by omega))
  · rw [back_len] at hi
    rw [back_T hf (by omega), back_R hi, back_R (by omega)]
    have e : 2 * p.rs.length - 2 * i = 2 * (p.rs.length - 1 - i + 1) := by omega
    have e2 : p.rs.length - 1 - (i - 1) = p.rs.length - 1 - i + 1 := by omega
    rw [e, e2]
    have rj := hf.rb' (i := p.rs.length - 1 - i) (by omega)
    have rj1 := hf.rb' (i := p.rs.length - 1 - i + 1) (by omega)
    show cnt (turnS M.S) _ _ _ ≠ 0
    rw [cnt_turn hb _ _ _ rj.2 rj1.1]
    exact h.btw (p.rs.length - 1 - i + 1) (by omega) (by omega)

/-! ### the last round once more -/
def Pump.more (p : Pump) : Pump := ⟨p.ts.take (2 * p.rs.length) ++ [[]] ++ p.ts.drop (2 * p.rs.length - 1), p.rs ++ [((p.R (p.rs.length - 1)).1, (p.R (p.rs.length - 1)).1)]⟩
theorem more_len (p : Pump) : p.more.rs.length = p.rs.length + 1 := by simp [Pump.more]
theorem more_T1 {p : Pump} {n i : Nat} (hf : p.Form n) (hi : i < 2 * p.rs.length) : p.more.T i = p.T i := by
  have h1 : i < p.ts.length := by rw [hf.len]; omega
  unfold Pump.T Pump.more
  show (p.ts.take (2 * p.rs.length) ++ [[]] ++ p.ts.drop (2 * p.rs.length - 1)).getD i [] = _
  have h2 : (p.ts.take (2 * p.rs.length)).length = 2 * p.rs.length := by rw [List.length_take, hf.len]; omega
  unfold List.getD
  rw [List.append_assoc, List.getElem?_append_left (by omega), List.getElem?_take_of_lt hi]
theorem more_T2 {p : Pump} {n : Nat} (hf : p.Form n) : p.more.T (2 * p.rs.length) = [] := by
  unfold Pump.T Pump.more
  show (p.ts.take (2 * p.rs.length) ++ [[]] ++ p.ts.drop (2 * p.rs.length - 1)).getD (2 * p.rs.length) [] = _
  have h2 : (p.ts.take (2 * p.rs.length)).length = 2 * p.rs.length := by rw [List.length_take, hf.len]; omega
  unfold List.getD
  rw [List.append_assoc, List.getElem?_append_right (by omega), h2, Nat.sub_self]
  rfl
theorem more_T3 {p : Pump} {n j : Nat} (hf : p.Form n) (hj : j < 2) : p.more.T (2 * p.rs.length + 1 + j) = p.T (2 * p.rs.length - 1 + j) := by
  have hlo := hf.lo
  unfold Pump.T Pump.more
  show (p.ts.take (2 * p.rs.length) ++ [[]] ++ p.ts.drop (2 * p.rs.length - 1)).getD (2 * p.rs.length + 1 + j) [] = _
  have h2 : (p.ts.take (2 * p.rs.length) ++ [[]]).length = 2 * p.rs.length + 1 := by rw [List.length_append, List.length_take, hf.len]; show min _ _ + 1 = _; omega
  unfold List.getD
  rw [List.getElem?_append_right (by omega), h2, List.getElem?_drop]
  have e : 2 * p.rs.length - 1 + (2 * p.rs.length + 1 + j - (2 * p.rs.length + 1)) = 2 * p.rs.length - 1 + j := by omega
  rw [e]
theorem more_R1 {p : Pump} {i : Nat} (hi : i < p.rs.length) : p.more.R i = p.R i := by
  unfold Pump.R Pump.more List.getD
  show ((p.rs ++ [_])[i]?).getD (0, 0) = _
  rw [List.getElem?_append_left hi]
theorem more_R2 (p : Pump) : p.more.R p.rs.length = ((p.R (p.rs.length - 1)).1, (p.R (p.rs.length - 1)).1) := by
  unfold Pump.R Pump.more List.getD
  show ((p.rs ++ [_])[p.rs.length]?).getD (0, 0) = _
  rw [List.getElem?_append_right (Nat.le_refl _), Nat.sub_self]
  rfl
theorem more_form {p : Pump} {n : Nat} (hf : p.Form n) (hK : p.rs.length ≤ 11) : p.more.Form n where
  lo := by rw [more_len]; omega
  hi := by rw [more_len]; omega
  len := by
    have hlo := hf.lo
    rw [more_len]
    show (p.ts.take (2 * p.rs.length) ++ [[]] ++ p.ts.drop (2 * p.rs.length - 1)).length = _
    rw [List.length_append, List.length_append, List.length_take, List.length_drop, hf.len]
    show min _ _ + 1 + _ = _
    omega
  let' := fun t ht c hc => by
    have ht' : t ∈ p.ts.take (2 * p.rs.length) ++ [[]] ++ p.ts.drop (2 * p.rs.length - 1) := ht
    rw [List.mem_append, List.mem_append] at ht'
    rcases ht' with (h | h) | h
    · exact hf.let' t (List.mem_of_mem_take h) c hc
    · rw [List.mem_singleton.mp h] at hc
      cases hc
    · exact hf.let' t (List.mem_of_mem_drop h) c hc
  sz := fun t ht => by
    have ht' : t ∈ p.ts.take (2 * p.rs.length) ++ [[]] ++ p.ts.drop (2 * p.rs.length - 1) := ht
    rw [List.mem_append, List.mem_append] at ht'
    rcases ht' with (h | h) | h
    · exact hf.sz t (List.mem_of_mem_take h)
    · rw [List.mem_singleton.mp h]
      exact Nat.zero_le _
    · exact hf.sz t (List.mem_of_mem_drop h)
  rb := fun r hr => by
    have hlo := hf.lo
    have hr' : r ∈ p.rs ++ [((p.R (p.rs.length - 1)).1, (p.R (p.rs.length - 1)).1)] := hr
    rw [List.mem_append] at hr'
    rcases hr' with h | h
    · exact hf.rb r h
    · rw [List.mem_singleton.mp h]
      have rK := hf.rb' (i := p.rs.length - 1) (by omega)
      exact ⟨rK.1, rK.1⟩
theorem more_lets {M : Mac} (ok : M.Ok) {p : Pump} (hf : p.Form M.n) (h : Lets M p) (he : (p.R (p.rs.length - 1)).1 = (p.R (p.rs.length - 1)).2) : Lets M p.more := by
  have hlo := hf.lo
  refine ⟨?_, ?_, fun i hi => ?_, fun i h0 hi => ?_⟩
  · rw [more_T1 hf (by omega), more_R1 (by omega)]
    exact h.first
  · rw [more_len]
    have e : 2 * (p.rs.length + 1) = 2 * p.rs.length + 1 + 1 := by omega
    have e2 : 2 * p.rs.length - 1 + 1 = 2 * p.rs.length := by omega
    rw [e, more_T3 hf (by omega), Nat.add_sub_cancel, more_R2, e2, he]
    exact h.last
  · rw [more_len] at hi
    by_cases hi' : i < p.rs.length
    · rw [more_T1 hf (by omega), more_R1 hi']
      exact h.mid i hi'
    · have e : i = p.rs.length := by omega
      subst e
      have e2 : 2 * p.rs.length + 1 = 2 * p.rs.length + 1 + 0 := rfl
      rw [e2, more_T3 hf (by omega), more_R2]
      have m := h.mid (p.rs.length - 1) (by omega)
      have e3 : 2 * (p.rs.length - 1) + 1 = 2 * p.rs.length - 1 + 0 := by omega
      rw [e3, ← he] at m
      exact m
  · rw [more_len] at hi
    by_cases hi' : i < p.rs.length
    · rw [more_T1 hf (by omega), more_R1 (by omega), more_R1 hi']
      exact h.btw i h0 hi'
    · have e : i = p.rs.length := by omega
      subst e
      rw [more_T2 hf, more_R1 (by omega), more_R2, ← he, cnt_nil, if_pos rfl]
      decide
end K51
/-! what is a pump -/
namespace K51
open PySem PySem.Spec PyProof.Rows L2 NdefX LamX
abbrev rndV (r : Nat × Nat) : List V := [ni r.1, ni r.2]
def RndsAt (H : Hp) (ts : List Addr) (rs : List (Nat × Nat)) : Prop := Paired (fun t r => H t = some (.tup (rndV r))) ts rs
structure PumpAt (av : List Addr) (H : Hp) (p : Addr) (u : Pump) (a b : Addr) (ts : List Addr) : Prop where
  m : H p = some (.tup [.ref a, .ref b])
  t : H a = some (.lst (u.ts.map wd))
  r : H b = some (.lst (ts.map V.ref))
  st : RndsAt H ts u.rs
  na : a ∉ av
  nb : b ∉ av
def PAt (av : List Addr) (H : Hp) (p : Addr) (u : Pump) : Prop := ∃ a b ts, PumpAt av H p u a b ts
section
variable {T : List NTab} {ex av : List Addr} {H H1 : Hp}
theorem RndsAt.kp (a : Kp T ex H H1) (hx : ∀ b ∈ ex, ∃ xs, H b = some (.lst xs)) {ts : List Addr} {rs : List (Nat × Nat)} (h : RndsAt H ts rs) : RndsAt H1 ts rs := Paired.mapP h fun t s e => a.getX e fun z => by
  obtain ⟨xs, q⟩ := hx t z
  rw [e] at q
  cases q
theorem PumpAt.kp {p a b : Addr} {u : Pump} {ts : List Addr} (h : PumpAt av H p u a b ts) (k : Kp T ex H H1) (hx : ∀ b ∈ ex, b ∈ av ∧ ∃ xs, H b = some (.lst xs)) : PumpAt av H1 p u a b ts :=
  ⟨k.getX h.m (fun z => by
      obtain ⟨_, xs, q⟩ := hx p z
      rw [h.m] at q
      cases q),
    k.getX h.t (fun z => h.na (hx _ z).1), k.getX h.r (fun z => h.nb (hx _ z).1), h.st.kp k (fun b hb => (hx b hb).2), h.na, h.nb⟩
theorem PAt.kpX {p : Addr} {u : Pump} (h : PAt av H p u) (a : Kp T ex H H1) (hx : ∀ b ∈ ex, b ∈ av ∧ ∃ xs, H b = some (.lst xs)) : PAt av H1 p u := by
  obtain ⟨x, y, ts, h⟩ := h
  exact ⟨x, y, ts, h.kp a hx⟩
theorem PAt.kp {p : Addr} {u : Pump} (h : PAt av H p u) (a : Kp T [] H H1) : PAt av H1 p u := h.kpX a fun _ z => nomatch z
theorem PAt.off {p : Addr} {u : Pump} (h : PAt av H p u) : PAt [] H p u := by
  obtain ⟨a, b, ts, h⟩ := h
  exact ⟨a, b, ts, h.m, h.t, h.r, h.st, by simp, by simp⟩
theorem RndsAt.len {ts : List Addr} {rs : List (Nat × Nat)} (h : RndsAt H ts rs) : ts.length = rs.length := Paired.length h
theorem RndsAt.get {ts : List Addr} {rs : List (Nat × Nat)} (h : RndsAt H ts rs) : ∀ {i : Nat} {v : V}, (ts.map V.ref)[i]? = some v → ∃ t s, v = .ref t ∧ ts[i]? = some t ∧ rs[i]? = some s ∧ H t = some (.tup (rndV s)) := by
  unfold RndsAt at h
  induction h with
  | nil => intro i v e; simp at e
  | @cons t s ts S q r ih =>
    intro i v e
    cases i with
    | zero =>
      have e' : V.ref t = v := by simpa using e
      exact ⟨t, s, e'.symm, rfl, rfl, q⟩
    | succ i =>
      obtain ⟨t', s', h1, h2, h3, h4⟩ := ih (i := i) (v := v) (by simpa using e)
      exact ⟨t', s', h1, by simpa using h2, by simpa using h3, h4⟩
theorem RndsAt.at {ts : List Addr} {p : Pump} (h : RndsAt H ts p.rs) {i : Nat} (hi : i < p.rs.length) : ∃ t, (ts.map V.ref)[i]? = some (.ref t) ∧ H t = some (.tup (rndV (p.R i))) := by
  have hl := h.len
  have e : (ts.map V.ref)[i]? = some (.ref (ts[i]'(by omega))) := by rw [List.getElem?_map, List.getElem?_eq_getElem (by omega)]; rfl
  obtain ⟨t, s, h1, h2, h3, h4⟩ := h.get e
  refine ⟨_, e, ?_⟩
  rw [V.ref.inj h1]
  have e2 : p.R i = s := by
    unfold Pump.R List.getD
    rw [h3]
    rfl
  rw [e2]
  exact h4
end
theorem T_get {p : Pump} {i : Nat} (hi : i < p.ts.length) : (p.ts.map wd)[i]? = some (wd (p.T i)) := by
  rw [List.getElem?_map, List.getElem?_eq_getElem hi]
  unfold Pump.T List.getD
  rw [List.getElem?_eq_getElem hi]
  rfl
theorem T_mem {p : Pump} {i : Nat} (hi : i < p.ts.length) : p.T i ∈ p.ts := by
  unfold Pump.T List.getD
  rw [List.getElem?_eq_getElem hi]
  exact List.getElem_mem hi
/-- the last item -/
theorem atI_m1 {xs : List V} {v : V} (h : xs[xs.length - 1]? = some v) : atI xs (-1) = some v := by
  have hlt : xs.length - 1 < xs.length := (List.getElem?_eq_some_iff.mp h).1
  unfold atI ixN
  rw [if_neg (by omega), if_pos (by omega)]
  show xs[((-1 : Int) + xs.length).toNat]? = some v
  have e : ((-1 : Int) + (xs.length : Nat)).toNat = xs.length - 1 := by omega
  rw [e]
  exact h
theorem all_true (n : Nat) : ((List.replicate n true).all id) = true := by
  rw [List.all_eq_true]
  intro x hx
  exact (List.mem_replicate.mp hx).2
theorem rep_snoc {α : Type} (n : Nat) (a : α) : List.replicate (n + 1) a = List.replicate n a ++ [a] := List.replicate_succ'
section
variable {P : Program} {w : World} {K : PySem.W.Frag} {mg : Str → Option Value} {base : Heap} {T : List NTab}
def sp_are_signs (T : List NTab) : Sp := fun vs H Q _ => ∃ u : List Nat, vs = [wd u] ∧ u.length ≤ 1000 ∧ (∀ c ∈ u, Let c) ∧ ∀ H', Kp T [] H H' → Q (.bl true) H'
theorem ok_are_signs (F : Fn K mg "are_signs" s_are_signs) (Tx : Txt mg) (D_is_sign : DOk P w K mg base "is_sign" 1 ["thing"] [] sp_is_sign) : DOk P w K mg base "are_signs" 2 ["thing"] [] (sp_are_signs T) := by
  refine F.dok sc_are_signs b_are_signs (fun vs H Q E h => ?_) (fun f cdv A outer s H vs Q E hr h => ?_)
  · obtain ⟨u, rfl, _⟩ := h
    rfl
  · obtain ⟨u, rfl, hlen, hlet, q⟩ := h
    refine ⟨_, (pss_one (ps_ret (pe_and (pe_callB call_isi (by rfl) Tx.n_isinstance (by decide +kernel) (pa_cons (pv 0) (pa_cons (pe_bltn (v := .ty "str") (by rfl) Tx.n_str (by decide +kernel) rfl) pa_nil))) (pe_one (pe_callB (cr_all rfl) (by rfl) Tx.n_all (by decide +kernel) (pa_cons (pe_lc (own := [("sign", 1)]) (g := gName 1) (tt := tYes) (by rfl) sc_are_signs.nd (pi_str (pv 0)) (blkOk_by (N := ["thing", "sign"]) (sc := (defScope s_are_signs)) (own := [("sign", 1)]) (by decide +kernel)) (fun _ _ _ _ _ => (pg_name (i := 1) sc_are_signs.nd rfl (by first | exact .inl rfl | exact .inr rfl))) (fun _ _ _ _ _ => pts_nil) (fun _ _ _ _ _ => (pe_d D_is_sign hr (by rfl) (pa_cons (pv 1) pa_nil)))) pa_nil)))))), ?_⟩
    refine ⟨_, rfl, _, .ty _, _, _, true, rfl, .ty _, ts_str _, kit_ty kb_str, true, rfl, iteT ?_⟩
    refine ⟨_, rfl, _, rfl, fun D hD => ?_⟩
    refine lc_it (walk_tx (w := u)) (fun i H1 => Kp T [] H H1 ∧ i ≤ u.length ∧ H1 D = some (.lst ((List.replicate i true).map V.bl))) ⟨Kp.new hD, Nat.zero_le _, upd_same⟩ (fun _ _ _ _ => trivial) (fun i x H1 H2 hi h1 y => ?_) (fun H1 h1 => ?_)
    · obtain ⟨k, hi', eD⟩ := h1
      obtain ⟨rfl, c, ec, rfl⟩ := y
      refine ⟨rfl, ?_⟩
      refine ⟨_, rfl, c, rfl, hlet c (List.mem_of_getElem? ec), ?_⟩
      refine ⟨_, eD, by rw [List.length_map, List.length_replicate]; exact sz_lt (by omega), k.mut (.inl hD) eD, hi, ?_⟩
      rw [upd_same, rep_snoc, List.map_append]
      rfl
    · obtain ⟨k, _, eD⟩ := h1
      refine ⟨D, _, rfl, SqL.of eD, ?_⟩
      rw [all_true]
      exact q H1 k
def sp_is_formed (T : List NTab) : Sp := fun vs H Q _ => ∃ (m : Addr) (M : Mac) (p : Addr) (u : Pump), vs = [.ref m, .ref p] ∧ MAt [] H m M ∧ M.Ok ∧ PAt [] H p u ∧ u.Form M.n ∧ ∀ H', Kp T [] H H' → Q (.bl true) H'
theorem ok_is_formed (F : Fn K mg "is_formed" s_is_formed) (Tx : Txt mg) (D_are_signs : DOk P w K mg base "are_signs" 2 ["thing"] [] (sp_are_signs T)) (D_is_within : DOk P w K mg base "is_within" 2 ["thing", "least", "most"] [] sp_is_within) : DOk P w K mg base "is_formed" 3 ["machine", "thing"] [] (sp_is_formed T) := by
  refine F.dok sc_is_formed b_is_formed (fun vs H Q E h => ?_) (fun f cdv A outer s H vs Q E hr h => ?_)
  · obtain ⟨m, M, p, u, rfl, _⟩ := h
    rfl
  · obtain ⟨m, M, p, u, rfl, hM, ok, ⟨a, b, rs, hp⟩, hf, q⟩ := h
    have hlo := hf.lo
    have hhi := hf.hi
    have hlen := hf.len
    have lrs := hp.st.len
    refine ⟨_, (pss_cons (ps_if (PW.pt (pw_or (pt_not (pt_val (pe_callB call_isi (by rfl) Tx.n_isinstance (by decide +kernel) (pa_cons (pv 1) (pa_cons (pe_bltn (v := .ty "tuple") (by rfl) Tx.n_tuple (by decide +kernel) rfl) pa_nil))))) (pw_or1 (pt_cmpR op_ne (pe_callB call_len_seq (by rfl) Tx.n_len (by decide +kernel) (pa_cons (pv 1) pa_nil)) pe_int (nomark _)))))
      (pss_one (ps_ret pe_bl)) pss_nil)
      (pss_cons (ps_asg (pv 1) (pg_tup rfl (pgs_cons (pg_name (i := 2) sc_is_formed.nd rfl (by first | exact .inl rfl | exact .inr rfl)) (pgs_cons (pg_name (i := 3) sc_is_formed.nd rfl (by first | exact .inl rfl | exact .inr rfl)) pgs_nil))))
      (pss_cons (ps_if (PW.pt (pw_or (pt_not (pt_val (pe_callB call_isi (by rfl) Tx.n_isinstance (by decide +kernel) (pa_cons (pv 2) (pa_cons (pe_bltn (v := .ty "list") (by rfl) Tx.n_list (by decide +kernel) rfl) pa_nil))))) (pw_or (pt_not (pt_val (pe_callB call_isi (by rfl) Tx.n_isinstance (by decide +kernel) (pa_cons (pv 3) (pa_cons (pe_bltn (v := .ty "list") (by rfl) Tx.n_list (by decide +kernel) rfl) pa_nil))))) (pw_or1 (pt_not (pt_chain op_le op_le pe_int (pe_callB call_len_seq (by rfl) Tx.n_len (by decide +kernel) (pa_cons (pv 3) pa_nil)) (pe_ki (by rfl) Tx.c_MOST_ROUNDS)))))))
      (pss_one (ps_ret pe_bl)) pss_nil)
      (pss_cons (ps_if (PW.pt (pw_or (pt_cmpR op_ne (pe_callB call_len_seq (by rfl) Tx.n_len (by decide +kernel) (pa_cons (pv 2) pa_nil)) (pe_op op_add (pe_op op_mul pe_int (pe_callB call_len_seq (by rfl) Tx.n_len (by decide +kernel) (pa_cons (pv 3) pa_nil))) pe_int) (nomark _)) (pw_or1 (pt_not (pt_val (pe_callB (cr_all rfl) (by rfl) Tx.n_all (by decide +kernel) (pa_cons (pe_lc (own := [("text", 5)]) (g := gName 5) (tt := tYes) (by rfl) sc_is_formed.nd (pi_list (pv 2)) (blkOk_by (N := ["machine", "thing", "texts", "rounds", "one", "text", "room"]) (sc := (defScope s_is_formed)) (own := [("text", 5)]) (by decide +kernel)) (fun _ _ _ _ _ => (pg_name (i := 5) sc_is_formed.nd rfl (by first | exact .inl rfl | exact .inr rfl))) (fun _ _ _ _ _ => pts_nil) (fun _ _ _ _ _ => (pe_d D_are_signs hr (by rfl) (pa_cons (pv 5) pa_nil)))) pa_nil)))))))
      (pss_one (ps_ret pe_bl)) pss_nil)
      (pss_cons (ps_for PassesOwn.never rfl (pi_list (pv 3)) (pg_name (i := 4) sc_is_formed.nd rfl (by first | exact .inl rfl | exact .inr rfl))
      (pss_one (ps_if (PW.pt (pw_or (pt_not (pt_val (pe_callB call_isi (by rfl) Tx.n_isinstance (by decide +kernel) (pa_cons (pv 4) (pa_cons (pe_bltn (v := .ty "tuple") (by rfl) Tx.n_tuple (by decide +kernel) rfl) pa_nil))))) (pw_or (pt_cmpR op_ne (pe_callB call_len_seq (by rfl) Tx.n_len (by decide +kernel) (pa_cons (pv 4) pa_nil)) pe_int (nomark _)) (pw_or1 (pt_not (pt_val (pe_callB (cr_all rfl) (by rfl) Tx.n_all (by decide +kernel) (pa_cons (pe_lc (own := [("room", 6)]) (g := gName 6) (tt := tYes) (by rfl) sc_is_formed.nd (pi_tup (pv 4)) (blkOk_by (N := ["machine", "thing", "texts", "rounds", "one", "text", "room"]) (sc := (defScope s_is_formed)) (own := [("room", 6)]) (by decide +kernel)) (fun _ _ _ _ _ => (pg_name (i := 6) sc_is_formed.nd rfl (by first | exact .inl rfl | exact .inr rfl))) (fun _ _ _ _ _ => pts_nil) (fun _ _ _ _ _ => (pe_d D_is_within hr (by rfl) (pa_cons (pv 6) (pa_cons pe_int (pa_cons (pe_op op_sub (pe_ix (show IxR _ (rIxT K) from ix_tup) (pv 0) pe_int (fun _ _ => rfl)) pe_int) pa_nil)))))) pa_nil))))))))
      (pss_one (ps_ret pe_bl)) pss_nil)))
      (pss_one (ps_ret pe_bl))))))), ?_⟩
    refine ⟨_, rfl, _, .ty _, _, _, true, rfl, .ty _, ts_tup hp.m, kit_ty kb_tuple, true, rfl, ?_⟩
    refine iteF ?_
    refine ⟨_, rfl, p, _, rfl, .inr (SqT.of hp.m), rfl, _, rfl, ?_⟩
    refine iteF ?_
    refine ⟨_, rfl, p, _, rfl, SqT.of hp.m, rfl, _, _, rfl, _, _, rfl, rfl, ?_⟩
    refine ⟨_, rfl, _, .ty _, _, _, true, rfl, .ty _, ts_lst hp.t, kit_ty kb_list, true, rfl, ?_⟩
    refine iteF ?_
    refine ⟨_, rfl, _, .ty _, _, _, true, rfl, .ty _, ts_lst hp.r, kit_ty kb_list, true, rfl, ?_⟩
    refine iteF ?_
    refine ⟨_, rfl, b, _, rfl, .inl (SqL.of hp.r), _, _, rfl, rfl, _, rfl, ?_⟩
    rw [decide_eq_true (show (1 : Int) ≤ (((rs.map V.ref).length : Nat) : Int) by rw [List.length_map, lrs]; omega)]
    refine iteT ⟨_, _, rfl, rfl, true, ?_, ?_⟩
    · show V.bl (decide ((((rs.map V.ref).length : Nat) : Int) ≤ (12 : Int))) = V.bl true
      rw [decide_eq_true]
      rw [List.length_map, lrs]
      omega
    refine iteF ?_
    refine ⟨_, rfl, a, _, rfl, .inl (SqL.of hp.t), _, rfl, b, _, rfl, .inl (SqL.of hp.r), 2, _, rfl, rfl, .inl ⟨by decide, by decide⟩, _, 1, rfl, rfl, rfl, false, ?_, ?_⟩
    · rw [decide_eq_true]
      · rfl
      · show V.int _ = V.int _
        rw [List.length_map, List.length_map, lrs, hlen]
        congr 1
    refine iteF ?_
    refine ⟨_, rfl, a, rfl, ⟨_, SqL.of hp.t⟩, fun D hD => ?_⟩
    refine lc_it (walk_list (xs := u.ts.map wd)) (fun i H1 => Kp T [] H H1 ∧ i ≤ u.ts.length ∧ H1 D = some (.lst ((List.replicate i true).map V.bl))) ⟨Kp.new hD, Nat.zero_le _, upd_same⟩ (fun i H1 _ h1 => SqL.of (h1.1.get hp.t)) (fun i x H1 H2 hi h1 y => ?_) (fun H1 h1 => ?_)
    · obtain ⟨k, hi', eD⟩ := h1
      obtain ⟨rfl, e2⟩ := y
      obtain ⟨t, et, rfl⟩ := map_get e2
      have hmem := List.mem_of_getElem? et
      refine ⟨rfl, ?_⟩
      refine ⟨_, rfl, t, rfl, hf.sz t hmem, hf.let' t hmem, fun H3 k3 => ?_⟩
      have eD3 := k3.get eD
      have hi2 : i < u.ts.length := (List.getElem?_eq_some_iff.mp et).1
      refine ⟨_, eD3, by rw [List.length_map, List.length_replicate]; exact sz_lt (by omega), (k.trans k3).mut (.inl hD) eD3, hi2, ?_⟩
      rw [upd_same, rep_snoc, List.map_append]
      rfl
    · obtain ⟨k, _, eD⟩ := h1
      refine ⟨D, _, rfl, SqL.of eD, true, by rw [all_true], ?_⟩
      refine iteF ?_
      refine ⟨_, rfl, b, rfl, ⟨_, SqL.of (k.get hp.r)⟩, ?_⟩
      refine for_it (walk_list (xs := rs.map V.ref)) (fun i σ H1 => ∃ (y4 y5 y6 : Option V), σ = [some (.ref m), some (.ref p), some (.ref a), some (.ref b), y4, y5, y6] ∧ Kp T [] H H1) ⟨_, _, _, rfl, k⟩ (fun i σ H1 _ h1 => ?_) (fun i x σ H1 H2 hi h1 y => ?_) (fun σ H1 h1 => ?_)
      · obtain ⟨_, _, _, _, k⟩ := h1
        exact SqL.of (k.get hp.r)
      · obtain ⟨y4, y5, y6, rfl, k⟩ := h1
        obtain ⟨rfl, e2⟩ := y
        obtain ⟨t, r, rfl, et, er, ht⟩ := hp.st.get e2
        have ht1 := k.get ht
        have hmem := List.mem_of_getElem? er
        have hb := hf.rb r hmem
        refine ⟨_, rfl, _, .ty _, _, _, true, rfl, .ty _, ts_tup ht1, kit_ty kb_tuple, true, rfl, ?_⟩
        refine iteF ?_
        refine ⟨_, rfl, t, _, rfl, .inr (SqT.of ht1), rfl, _, rfl, ?_⟩
        refine iteF ?_
        refine ⟨_, rfl, t, rfl, ⟨_, SqT.of ht1⟩, fun D2 hD2 => ?_⟩
        have nD2 : H D2 = none := k.free hD2
        refine lc_it (walk_tup (xs := rndV r)) (fun j H3 => Kp T [] H H3 ∧ j ≤ 2 ∧ H3 D2 = some (.lst ((List.replicate j true).map V.bl))) ⟨k.snew hD2, Nat.zero_le _, upd_same⟩ (fun i H3 _ h3 => SqT.of (h3.1.get ht)) (fun j x H3 H4 hj h3 y => ?_) (fun H3 h3 => ?_)
        · obtain ⟨k3, hj', eD⟩ := h3
          obtain ⟨rfl, e2⟩ := y
          have hx : ∃ z, x = ni z ∧ z < M.n := by
            have hj2 : j < 2 := hj
            match j, hj2, e2 with
            | 0, _, e2 => exact ⟨r.1, (Option.some.inj e2).symm, hb.1⟩
            | 1, _, e2 => exact ⟨r.2, (Option.some.inj e2).symm, hb.2⟩
          obtain ⟨z, rfl, hz⟩ := hx
          obtain ⟨af, al', as, ts, hm⟩ := hM.kp k3
          refine ⟨rfl, ?_⟩
          refine ⟨_, rfl, _, rfl, m, _, 0, _, rfl, rfl, SqT.of hm.m, rfl, _, _, rfl, rfl, z, 0, (M.n : Int) - 1, rfl, ?_⟩
          rw [decide_eq_true (show (0 : Int) ≤ (z : Int) ∧ (z : Int) ≤ (M.n : Int) - 1 by omega)]
          refine ⟨_, eD, by rw [List.length_map, List.length_replicate]; exact sz_lt (by omega), k3.mut (.inl nD2) eD, hj, ?_⟩
          rw [upd_same, rep_snoc, List.map_append]
          rfl
        · obtain ⟨k3, _, eD⟩ := h3
          refine ⟨D2, _, rfl, SqL.of eD, true, by rw [all_true], ?_⟩
          exact iteF ⟨_, _, _, rfl, k3⟩
      · obtain ⟨y4, y5, y6, rfl, k⟩ := h1
        exact q H1 k
end
end K51
/-! which pumps are let by; their words -/
namespace K51
open PySem PySem.Spec PyProof.Rows L2 NdefX LamX
section
variable {P : Program} {w : World} {K : PySem.W.Frag} {mg : Str → Option Value} {base : Heap} {T : List NTab}
def sp_is_middle (T : List NTab) : Sp := fun vs H Q _ => ∃ (m : Addr) (M : Mac) (u : List Nat) (r o : Nat), vs = [.ref m, wd u, ni r, ni o] ∧ MAt [] H m M ∧ M.Ok ∧ r < M.n ∧ o < M.n ∧ ∀ H' b, Kp T [] H H' → (b = true ↔ Mid M.S u r o) → Q (.bl b) H'
theorem ok_is_middle (F : Fn K mg "is_middle" s_is_middle) (Tx : Txt mg) (D_ways_between : DOk P w K mg base "ways_between" 3 ["machine", "text", "rooms", "others"] [] (sp_ways_between T)) : DOk P w K mg base "is_middle" 4 ["machine", "text", "room", "other"] [] (sp_is_middle T) := by
  refine F.dok sc_is_middle b_is_middle (fun vs H Q E h => ?_) (fun f cdv A outer s H vs Q E hr h => ?_)
  · obtain ⟨m, M, u, r, o, rfl, _⟩ := h
    rfl
  · obtain ⟨m, M, u, r, o, rfl, hM, ok, hr1, ho1, q⟩ := h
    refine ⟨_, (pss_cons (ps_if (pt_cmpR op_eq (pv 1) pe_str (nomark _))
      (pss_one (ps_ret pe_bl)) pss_nil)
      (pss_cons (ps_if (pt_cmpR op_eq (pv 2) (pv 3) (nomark _))
      (pss_one (ps_ret (pe_cmpR op_gt (pe_d D_ways_between hr (by rfl) (pa_cons (pv 0) (pa_cons (pv 1) (pa_cons (pe_lst (pa_cons (pv 2) pa_nil)) (pa_cons (pe_lst (pa_cons (pv 2) pa_nil)) pa_nil))))) pe_int (nomark _)))) pss_nil)
      (pss_cons (ps_set (i := 4) sc_is_middle.nd rfl (by first | exact .inl rfl | exact .inr rfl) (pe_tup (pa_cons (pe_tup (pa_cons (pv 2) (pa_cons (pv 2) pa_nil))) (pa_cons (pe_tup (pa_cons (pv 2) (pa_cons (pv 3) pa_nil))) (pa_cons (pe_tup (pa_cons (pv 3) (pa_cons (pv 3) pa_nil))) pa_nil)))))
      (pss_one (ps_ret (pe_cmpR op_gt (pe_callB (cr_min rfl) (by rfl) Tx.n_min (by decide +kernel) (pa_cons (pe_lc (own := [("one", 5), ("two", 6)]) (g := gTup K 2 (gCons (gName 5) (gCons (gName 6) gNil))) (tt := tYes) (by rfl) sc_is_middle.nd (pi_tup (pv 4)) (blkOk_by (N := ["machine", "text", "room", "other", "pairs", "one", "two"]) (sc := (defScope s_is_middle)) (own := [("one", 5), ("two", 6)]) (by decide +kernel)) (fun _ _ _ _ _ => (pg_tup rfl (pgs_cons (pg_name (i := 5) sc_is_middle.nd rfl (by first | exact .inl rfl | exact .inr rfl)) (pgs_cons (pg_name (i := 6) sc_is_middle.nd rfl (by first | exact .inl rfl | exact .inr rfl)) pgs_nil)))) (fun _ _ _ _ _ => pts_nil) (fun _ _ _ _ _ => (pe_d D_ways_between hr (by rfl) (pa_cons (pv 0) (pa_cons (pv 1) (pa_cons (pe_lst (pa_cons (pv 5) pa_nil)) (pa_cons (pe_lst (pa_cons (pv 6) pa_nil)) pa_nil))))))) pa_nil)) pe_int (nomark _))))))), ?_⟩
    refine ⟨_, rfl, rfl, ?_⟩
    by_cases e0 : u = []
    · subst e0
      refine ⟨true, ?_, iteT (q H false (Kp.refl H) ⟨(fun z => nomatch z), fun z => absurd rfl z.1⟩)⟩
      show V.bl (decide (V.str (tx []) = V.str (tx []))) = V.bl true
      rw [decide_eq_true rfl]
    · refine ⟨false, ?_, iteF ?_⟩
      · show V.bl (decide (V.str (tx u) = V.str (tx []))) = V.bl false
        rw [decide_eq_false (fun z => e0 (tx_inj (V.str.inj z)))]
      refine ⟨_, rfl, _, rfl, rfl, ?_⟩
      by_cases e1 : r = o
      · subst e1
        refine ⟨true, ?_, iteT ?_⟩
        · show V.bl (decide (V.int (r : Int) = V.int (r : Int))) = V.bl true
          rw [decide_eq_true rfl]
        refine ⟨_, rfl, _, rfl, _, rfl, sz_ok (by simp), fun p1 hp1 => ?_⟩
        have k1 : Kp T [] H (upd H p1 (.lst [ni r])) := Kp.new hp1
        refine ⟨_, rfl, sz_ok (by simp), fun p2 hp2 => ?_⟩
        have k2 := k1.snew (o := .lst [ni r]) hp2
        refine ⟨m, M, u, p1, p2, [r], [r], rfl, hM.kp k2, ok, by rw [upd_ne (ne_of_none upd_same hp2), upd_same]; rfl, by rw [upd_same]; rfl, fun x hx => by rw [List.mem_singleton.mp hx]; exact hr1, by simp, fun H3 k3 => ?_⟩
        refine ⟨_, _, rfl, rfl, ?_⟩
        rw [wb_one]
        refine q H3 _ (k2.trans k3) ?_
        rw [decide_eq_true_iff]
        constructor
        · intro z
          exact ⟨e0, .inl ⟨rfl, by omega⟩⟩
        · rintro ⟨_, z | z⟩
          · have := z.2
            omega
          · exact absurd rfl z.1
      · refine ⟨false, ?_, iteF ?_⟩
        · show V.bl (decide (V.int (r : Int) = V.int (o : Int))) = V.bl false
          rw [decide_eq_false (fun z => e1 (by injection z with z; omega))]
        refine ⟨_, rfl, _, rfl, sz_ok (by simp), fun p1 hp1 => ?_⟩
        have k1 : Kp T [] H (upd H p1 (.tup [ni r, ni r])) := Kp.new hp1
        refine ⟨_, rfl, _, rfl, sz_ok (by simp), fun p2 hp2 => ?_⟩
        have k2 := k1.snew (o := .tup [ni r, ni o]) hp2
        refine ⟨_, rfl, _, rfl, sz_ok (by simp), fun p3 hp3 => ?_⟩
        have k3 := k2.snew (o := .tup [ni o, ni o]) hp3
        refine ⟨sz_ok (by simp), fun p4 hp4 => ?_⟩
        have k4 := k3.snew (o := .tup [.ref p1, .ref p2, .ref p3]) hp4
        have n21 := ne_of_none (upd_same (H := H) (a := p1) (o := .tup [ni r, ni r])) hp2
        have h1a : upd (upd H p1 (.tup [ni r, ni r])) p2 (.tup [ni r, ni o]) p1 = some (.tup [ni r, ni r]) := by rw [upd_ne n21, upd_same]
        have n31 := ne_of_none h1a hp3
        have n32 := ne_of_none upd_same hp3
        have h1b : upd (upd (upd H p1 (.tup [ni r, ni r])) p2 (.tup [ni r, ni o])) p3 (.tup [ni o, ni o]) p1 = some (.tup [ni r, ni r]) := by rw [upd_ne n31]; exact h1a
        have h2b : upd (upd (upd H p1 (.tup [ni r, ni r])) p2 (.tup [ni r, ni o])) p3 (.tup [ni o, ni o]) p2 = some (.tup [ni r, ni o]) := by rw [upd_ne n32, upd_same]
        generalize hH3 : upd (upd (upd H p1 (.tup [ni r, ni r])) p2 (.tup [ni r, ni o])) p3 (.tup [ni o, ni o]) = H3 at *
        have h3b : H3 p3 = some (.tup [ni o, ni o]) := by rw [← hH3, upd_same]
        have h1 : upd H3 p4 (.tup [.ref p1, .ref p2, .ref p3]) p1 = some (.tup [ni r, ni r]) := by rw [upd_ne (ne_of_none h1b hp4)]; exact h1b
        have h2 : upd H3 p4 (.tup [.ref p1, .ref p2, .ref p3]) p2 = some (.tup [ni r, ni o]) := by rw [upd_ne (ne_of_none h2b hp4)]; exact h2b
        have h3 : upd H3 p4 (.tup [.ref p1, .ref p2, .ref p3]) p3 = some (.tup [ni o, ni o]) := by rw [upd_ne (ne_of_none h3b hp4)]; exact h3b
        have h4 : upd H3 p4 (.tup [.ref p1, .ref p2, .ref p3]) p4 = some (.tup [.ref p1, .ref p2, .ref p3]) := upd_same
        generalize upd H3 p4 (.tup [.ref p1, .ref p2, .ref p3]) = H4 at *
        refine ⟨_, rfl, p4, rfl, ⟨_, SqT.of h4⟩, fun D hD => ?_⟩
        have nD : H D = none := k4.free hD
        refine lc_it (walk_tup (xs := [V.ref p1, .ref p2, .ref p3])) (fun i H5 => Kp T [] H4 H5 ∧ i ≤ 3 ∧ H5 D = some (.lst (([cnt M.S u r r, cnt M.S u r o, cnt M.S u o o].take i).map ni))) ⟨Kp.new hD, Nat.zero_le _, upd_same⟩ (fun i H5 _ h5 => SqT.of (h5.1.get h4)) (fun i x H5 H6 hi h5 y => ?_) (fun H5 h5 => ?_)
        · obtain ⟨k5, hi', eD⟩ := h5
          obtain ⟨rfl, e2⟩ := y
          have hx : ∃ t a b, x = .ref t ∧ H4 t = some (.tup [ni a, ni b]) ∧ b < M.n ∧ [cnt M.S u r r, cnt M.S u r o, cnt M.S u o o][i]? = some (cnt M.S u a b) := by
            have hi2 : i < 3 := hi
            match i, hi2, e2 with
            | 0, _, e2 => exact ⟨p1, r, r, (Option.some.inj e2).symm, h1, hr1, rfl⟩
            | 1, _, e2 => exact ⟨p2, r, o, (Option.some.inj e2).symm, h2, ho1, rfl⟩
            | 2, _, e2 => exact ⟨p3, o, o, (Option.some.inj e2).symm, h3, ho1, rfl⟩
          obtain ⟨t, a, b, rfl, ht, hb, ec⟩ := hx
          refine ⟨t, _, rfl, SqT.of (k5.get ht), rfl, _, _, rfl, _, _, rfl, rfl, rfl, ?_⟩
          refine ⟨_, rfl, _, rfl, _, rfl, sz_ok (by simp), fun q1 hq1 => ?_⟩
          have k6 : Kp T [] H6 (upd H6 q1 (.lst [ni a])) := Kp.new hq1
          refine ⟨_, rfl, sz_ok (by simp), fun q2 hq2 => ?_⟩
          have k7 := k6.snew (o := .lst [ni b]) hq2
          refine ⟨m, M, u, q1, q2, [a], [b], rfl, ((hM.kp k4).kp k5).kp k7, ok, by rw [upd_ne (ne_of_none upd_same hq2), upd_same]; rfl, by rw [upd_same]; rfl, fun x hx => by rw [List.mem_singleton.mp hx]; exact hb, by simp, fun H7 k8 => ?_⟩
          have k78 := k7.trans k8
          have eD7 := k78.get eD
          refine ⟨_, eD7, by rw [List.length_map, List.length_take]; exact sz_lt (by show min i 3 ≤ _; omega), (k5.trans k78).mut (.inl hD) eD7, hi, ?_⟩
          rw [upd_same, wb_one, List.take_add_one, ec, List.map_append]
          rfl
        · obtain ⟨k5, _, eD⟩ := h5
          refine ⟨D, [((cnt M.S u r r : Nat) : Int), ((cnt M.S u r o : Nat) : Int), ((cnt M.S u o o : Nat) : Int)], rfl, SqL.of eD, by simp, fun z hz hle => ?_⟩
          refine ⟨_, _, rfl, rfl, ?_⟩
          refine q H5 _ (k4.trans k5) ?_
          rw [decide_eq_true_iff]
          have g1 := hle _ (List.mem_cons_self)
          have g2 := hle _ (List.mem_cons_of_mem _ List.mem_cons_self)
          have g3 := hle _ (List.mem_cons_of_mem _ (List.mem_cons_of_mem _ List.mem_cons_self))
          constructor
          · intro z0
            exact ⟨e0, .inr ⟨e1, by omega, by omega, by omega⟩⟩
          · rintro ⟨_, z1 | z1⟩
            · exact absurd z1.1 e1
            · obtain ⟨_, z1, z2, z3⟩ := z1
              simp only [List.mem_cons, List.not_mem_nil, or_false] at hz
              rcases hz with e | e | e <;> (rw [e]; omega)
def sp_look_at_times : Sp := fun vs H Q _ => ∃ k : Nat, vs = [ni k] ∧ k ≤ 400 ∧ Q .non H
theorem ok_look_at_times (F : Fn K mg "look_at_times" s_look_at_times) (Tx : Txt mg) (D_is_within : DOk P w K mg base "is_within" 2 ["thing", "least", "most"] [] sp_is_within) : DOk P w K mg base "look_at_times" 3 ["many"] [] sp_look_at_times := by
  refine F.dok sc_look_at_times b_look_at_times (fun vs H Q E h => ?_) (fun f cdv A outer s H vs Q E hr h => ?_)
  · obtain ⟨k, rfl, _⟩ := h
    rfl
  · obtain ⟨k, rfl, hk, q⟩ := h
    refine ⟨_, (pss_one (ps_if (pt_not (pt_val (pe_d D_is_within hr (by rfl) (pa_cons (pv 0) (pa_cons pe_int (pa_cons (pe_ki (by rfl) Tx.c_MOST_TIMES) pa_nil))))))
      (pss_one ps_never) pss_nil)), ?_⟩
    refine ⟨_, rfl, k, 0, 400, rfl, true, ?_, ?_⟩
    · rw [decide_eq_true (show (0 : Int) ≤ (k : Int) ∧ (k : Int) ≤ 400 by omega)]
    · exact iteF q
def sp_laid (T : List NTab) : Sp := fun vs H Q _ => ∃ (p : Addr) (u : Pump) (n k : Nat), vs = [.ref p, ni k] ∧ PAt [] H p u ∧ u.Form n ∧ k ≤ 24 ∧ (lwi k u.T u.ts.length).length ≤ 400 ∧ ∀ H', Kp T [] H H' → Q (wd (lwi k u.T u.ts.length)) H'
theorem lwi_mono (k : Nat) (T : Nat → Word) {i j : Nat} (h : i ≤ j) : (lwi k T i).length ≤ (lwi k T j).length := by
  induction j with
  | zero =>
    have e : i = 0 := by omega
    subst e
    exact Nat.le_refl _
  | succ j ih =>
    by_cases e : i = j + 1
    · subst e
      exact Nat.le_refl _
    · rw [lwi_succ, List.length_append]
      have := ih (by omega)
      omega
theorem ok_laid (F : FnD K mg "laid" s_laid [.int 1]) (Tx : Txt mg) (D_look_at_times : DOk P w K mg base "look_at_times" 3 ["many"] [] sp_look_at_times) : DOk P w K mg base "laid" 4 ["pump", "many"] [] (sp_laid T) := by
  refine F.dok 2 1 sc_laid (by simp) rfl (fun _ _ _ _ _ _ _ us its h1 h2 => match us, its, h1, h2 with | [_, _], [_], _, _ => ⟨_, rfl, rfl⟩) (fun vs H Q E h => ?_) (fun f cdv A outer s H vs Q E hr h => ?_)
  · obtain ⟨p, u, n, k, rfl, _⟩ := h
    rfl
  · obtain ⟨p, u, n, kk, rfl, ⟨a, b, rs, hp⟩, hf, hk, hlen, q⟩ := h
    refine ⟨_, (pss_cons (ps_expr (pe_d D_look_at_times hr (by rfl) (pa_cons (pv 1) pa_nil)))
      (pss_cons (ps_set (i := 2) sc_laid.nd rfl (by first | exact .inl rfl | exact .inr rfl) pe_str)
      (pss_cons (ps_for PassesOwn.never rfl (pi_enum (by rfl) Tx.n_enumerate (pa_cons (pe_ix ix_tup (pv 0) pe_int (fun _ _ => rfl)) pa_nil)) (pg_tup rfl (pgs_cons (pg_name (i := 3) sc_laid.nd rfl (by first | exact .inl rfl | exact .inr rfl)) (pgs_cons (pg_name (i := 4) sc_laid.nd rfl (by first | exact .inl rfl | exact .inr rfl)) pgs_nil)))
      (pss_one (ps_aug (i := 2) sc_laid.nd rfl (by first | exact .inl rfl | exact .inr rfl) (pe_op op_mulS (pv 4) (pe_ix ix_list (pe_lst (pa_cons pe_int (pa_cons (pv 1) pa_nil))) (pe_op op_mod (pv 3) pe_int) (fun _ _ => rfl))) ip_addS)))
      (pss_cons (ps_if (pt_cmpR op_gt (pe_callB call_len_str (by rfl) Tx.n_len (by decide +kernel) (pa_cons (pv 2) pa_nil)) (pe_ki (by rfl) Tx.c_MOST_WORD) (nomark _))
      (pss_one ps_never) pss_nil)
      (pss_one (ps_ret (pv 2))))))), ?_⟩
    refine ⟨_, rfl, kk, rfl, by omega, ?_⟩
    refine ⟨_, rfl, p, _, 0, _, rfl, rfl, SqT.of hp.m, rfl, a, _, rfl, SqL.of hp.t, ?_⟩
    refine for_it (walk_enum (xs := u.ts.map wd)) (fun i σ H1 => ∃ (y3 y4 : Option V), σ = [some (.ref p), some (ni kk), some (wd (lwi kk u.T i)), y3, y4] ∧ Kp T [] H H1) ⟨_, _, rfl, Kp.refl H⟩ (fun i σ H1 _ h1 => ?_) (fun i x σ H1 H2 hi h1 y => ?_) (fun σ H1 h1 => ?_)
    · obtain ⟨_, _, _, k⟩ := h1
      exact SqL.of (k.get hp.t)
    · obtain ⟨y3, y4, rfl, k⟩ := h1
      obtain ⟨t, x1, x2, rfl, nt, rfl, e1, e2⟩ := y
      cases e1
      have hi' : i < u.ts.length := by rw [List.length_map] at hi; exact hi
      have e3 : x2 = wd (u.T i) := Option.some.inj (e2.symm.trans (T_get hi'))
      subst e3
      have k2 := k.snew (o := .tup [.int (i : Nat), wd (u.T i)]) nt
      have hst := lwi_mono kk u.T (show i + 1 ≤ u.ts.length from hi')
      rw [lwi_succ, List.length_append] at hst
      refine ⟨t, [.int (i : Nat), wd (u.T i)], rfl, SqT.of upd_same, rfl, _, _, rfl, _, _, rfl, rfl, ?_⟩
      refine ⟨_, rfl, _, rfl, _, rfl, sz_ok (by simp), fun p2 hp2 => ?_⟩
      have k3 := k2.snew (o := .lst [.int 1, ni kk]) hp2
      refine ⟨_, rfl, _, _, rfl, rfl, (by show (0 : Int) < 2; decide), ?_⟩
      by_cases o : i % 2 = 1
      · rw [if_pos o] at hst
        have e4 : (i : Int) % 2 = ((1 : Nat) : Int) := by omega
        refine ⟨p2, _, _, _, rfl, rfl, SqL.of upd_same, by rw [e4]; exact atI_nat (j := 1) rfl, u.T i, kk, rfl, rfl, ?_, by omega, ?_⟩
        · rw [rp_length] at hst
          omega
        · refine ⟨_, _, rfl, rfl, ?_, ?_⟩
          · rw [tx_len, tx_len]
            exact sz_ok (by omega)
          · rw [tx_app]
            exact ⟨_, _, by rw [lwi_succ, if_pos o]; rfl, k3⟩
      · rw [if_neg o] at hst
        have e4 : (i : Int) % 2 = ((0 : Nat) : Int) := by omega
        refine ⟨p2, _, _, _, rfl, rfl, SqL.of upd_same, by rw [e4]; exact atI_nat (j := 0) rfl, u.T i, 1, rfl, rfl, ?_, by omega, ?_⟩
        · omega
        · refine ⟨_, _, rfl, rfl, ?_, ?_⟩
          · rw [tx_len, tx_len, rp_one]
            exact sz_ok (by omega)
          · rw [tx_app, rp_one]
            exact ⟨_, _, by rw [lwi_succ, if_neg o]; rfl, k3⟩
    · obtain ⟨y3, y4, rfl, k⟩ := h1
      rw [List.length_map]
      refine ⟨_, rfl, _, rfl, by rw [tx_len]; exact sz_ok (by omega), _, _, rfl, rfl, false, ?_, ?_⟩
      · show V.bl (decide ((400 : Int) < (((tx (lwi kk u.T u.ts.length)).length : Nat) : Int))) = V.bl false
        rw [decide_eq_false]
        rw [tx_len]
        omega
      · exact iteF ⟨_, rfl, q H1 k⟩
end
end K51
/-! the least ways; which pumps are let by -/
namespace K51
open PySem PySem.Spec PyProof.Rows L2 NdefX LamX
theorem lst1_le {k r o : Nat} (hk : k ≤ 24) : lst1 k r o ≤ 2 ^ 24 := by
  unfold lst1
  by_cases e : r = o
  · rw [if_pos e]
    exact Nat.pow_le_pow_right (by omega) hk
  · rw [if_neg e]
    have : (24 : Nat) ≤ 2 ^ 24 := by decide
    omega
theorem lsP_le {k : Nat} (R : Nat → Nat × Nat) (hk : k ≤ 24) : ∀ n : Nat, lsP k R n ≤ 2 ^ (24 * n)
  | 0 => by
    show 1 ≤ _
    simp
  | n + 1 => by
    show lsP k R n * lst1 k (R n).1 (R n).2 ≤ _
    have h1 := lsP_le R hk n
    have h2 := lst1_le (r := (R n).1) (o := (R n).2) hk
    have h3 := Nat.mul_le_mul h1 h2
    rw [← Nat.pow_add] at h3
    have e : 24 * n + 24 = 24 * (n + 1) := by omega
    rw [e] at h3
    exact h3
theorem bits_le {a m : Nat} (h : a ≤ 2 ^ m) : Builtin.Int.intBits (a : Int) ≤ m + 1 := by
  unfold Builtin.Int.intBits
  have h2 : (a : Int).natAbs.log2 ≤ m := by
    rw [Int.natAbs_natCast]
    have h3 := Nat.log2_le_self a
    by_cases e : a = 0
    · subst e
      simp
    · have h4 : a < 2 ^ (m + 1) := Nat.lt_of_le_of_lt h (Nat.pow_lt_pow_right (by omega) (by omega))
      have := (Nat.log2_lt e).mpr h4
      omega
  split <;> omega
section
variable {P : Program} {w : World} {K : PySem.W.Frag} {mg : Str → Option Value} {base : Heap} {T : List NTab}
def sp_least_ways (T : List NTab) : Sp := fun vs H Q _ => ∃ (p : Addr) (u : Pump) (n k : Nat), vs = [.ref p, ni k] ∧ PAt [] H p u ∧ u.Form n ∧ k ≤ 24 ∧ Q (ni (lsP k u.R u.rs.length)) H
theorem ok_least_ways (F : FnD K mg "least_ways" s_least_ways [.int 1]) (Tx : Txt mg) (D_look_at_times : DOk P w K mg base "look_at_times" 3 ["many"] [] sp_look_at_times) : DOk P w K mg base "least_ways" 4 ["pump", "many"] [] (sp_least_ways T) := by
  refine F.dok 2 1 sc_least_ways (by simp) rfl (fun _ _ _ _ _ _ _ us its h1 h2 => match us, its, h1, h2 with | [_, _], [_], _, _ => ⟨_, rfl, rfl⟩) (fun vs H Q E h => ?_) (fun f cdv A outer s H vs Q E hr h => ?_)
  · obtain ⟨p, u, n, k, rfl, _⟩ := h
    rfl
  · obtain ⟨p, u, n, kk, rfl, ⟨a, b, rs, hp⟩, hf, hk, q⟩ := h
    have lrs := hp.st.len
    have hhi := hf.hi
    refine ⟨_, (pss_cons (ps_expr (pe_d D_look_at_times hr (by rfl) (pa_cons (pv 1) pa_nil)))
      (pss_cons (ps_set (i := 2) sc_least_ways.nd rfl (by first | exact .inl rfl | exact .inr rfl) pe_int)
      (pss_cons (ps_for PassesOwn.never rfl (pi_list (pe_ix ix_tup (pv 0) pe_int (fun _ _ => rfl))) (pg_tup rfl (pgs_cons (pg_name (i := 3) sc_least_ways.nd rfl (by first | exact .inl rfl | exact .inr rfl)) (pgs_cons (pg_name (i := 4) sc_least_ways.nd rfl (by first | exact .inl rfl | exact .inr rfl)) pgs_nil)))
      (pss_one (ps_if (pt_cmpR op_eq (pv 3) (pv 4) (nomark _))
      (pss_one (ps_aug (i := 2) sc_least_ways.nd rfl (by first | exact .inl rfl | exact .inr rfl) (pv 1) ip_shl)) (pss_one (ps_aug (i := 2) sc_least_ways.nd rfl (by first | exact .inl rfl | exact .inr rfl) (pv 1) ip_mul)))))
      (pss_one (ps_ret (pv 2)))))), ?_⟩
    refine ⟨_, rfl, kk, rfl, by omega, ?_⟩
    refine ⟨_, rfl, p, _, 1, _, rfl, rfl, SqT.of hp.m, rfl, b, rfl, ⟨_, SqL.of hp.r⟩, ?_⟩
    refine for_it (walk_list (xs := rs.map V.ref)) (fun i σ H1 => ∃ (y3 y4 : Option V), σ = [some (.ref p), some (ni kk), some (ni (lsP kk u.R i)), y3, y4] ∧ H1 = H) ⟨_, _, rfl, rfl⟩ (fun i σ H1 _ h1 => ?_) (fun i x σ H1 H2 hi h1 y => ?_) (fun σ H1 h1 => ?_)
    · obtain ⟨_, _, _, rfl⟩ := h1
      exact SqL.of hp.r
    · obtain ⟨y3, y4, rfl, rfl⟩ := h1
      obtain ⟨rfl, e2⟩ := y
      have hi' : i < u.rs.length := by rw [List.length_map, lrs] at hi; exact hi
      obtain ⟨t, et, ht⟩ := hp.st.at hi'
      have e3 := Option.some.inj (e2.symm.trans et)
      subst e3
      have hle := lsP_le u.R hk i
      have hle2 : 24 * i ≤ 264 := by omega
      have hb := bits_le (Nat.le_trans hle (Nat.pow_le_pow_right (by omega) hle2))
      refine ⟨t, _, rfl, SqT.of ht, rfl, _, _, rfl, _, _, rfl, rfl, ?_⟩
      refine ⟨_, rfl, _, rfl, rfl, ?_⟩
      by_cases e : (u.R i).1 = (u.R i).2
      · refine ⟨true, ?_, iteT ?_⟩
        · show V.bl (decide (V.int ((u.R i).1 : Int) = V.int ((u.R i).2 : Int))) = V.bl true
          rw [decide_eq_true (by rw [e])]
        · refine ⟨_, rfl, _, rfl, _, _, rfl, rfl, ⟨by omega, ?_⟩, ?_⟩
          · have : (2 : Int) ^ 27 = 134217728 := by decide
            rw [this]
            omega
          · refine ⟨some (ni (u.R i).1), some (ni (u.R i).2), ?_, rfl⟩
            have e4 : V.int (((lsP kk u.R i : Nat) : Int) * 2 ^ ((kk : Int)).toNat) = ni (lsP kk u.R (i + 1)) := by
              show V.int _ = V.int ((lsP kk u.R i * lst1 kk (u.R i).1 (u.R i).2 : Nat) : Int)
              unfold lst1
              rw [if_pos e, Int.toNat_natCast, Int.natCast_mul, Int.natCast_pow]
              rfl
            show [some (V.ref p), some (ni kk), some (V.int (((lsP kk u.R i : Nat) : Int) * 2 ^ ((kk : Int)).toNat)), some (ni (u.R i).1), some (ni (u.R i).2)] = _
            rw [e4]
      · refine ⟨false, ?_, iteF ?_⟩
        · show V.bl (decide (V.int ((u.R i).1 : Int) = V.int ((u.R i).2 : Int))) = V.bl false
          rw [decide_eq_false (fun z => e (by injection z with z; omega))]
        · refine ⟨_, rfl, _, rfl, _, _, rfl, rfl, .inr (by constructor <;> omega), ?_⟩
          refine ⟨some (ni (u.R i).1), some (ni (u.R i).2), ?_, rfl⟩
          have e4 : V.int (((lsP kk u.R i : Nat) : Int) * (kk : Int)) = ni (lsP kk u.R (i + 1)) := by
            show V.int _ = V.int ((lsP kk u.R i * lst1 kk (u.R i).1 (u.R i).2 : Nat) : Int)
            unfold lst1
            rw [if_neg e, Int.natCast_mul]
          show [some (V.ref p), some (ni kk), some (V.int (((lsP kk u.R i : Nat) : Int) * (kk : Int))), some (ni (u.R i).1), some (ni (u.R i).2)] = _
          rw [e4]
    · obtain ⟨y3, y4, rfl, rfl⟩ := h1
      rw [List.length_map, lrs]
      exact ⟨_, rfl, q⟩
def sp_lets_pump (T : List NTab) : Sp := fun vs H Q _ => ∃ (m p : Addr) (M : Mac) (u : Pump), vs = [.ref m, .ref p] ∧ MAt [] H m M ∧ M.Ok ∧ PAt [] H p u ∧ u.Form M.n ∧ ∀ H' b, Kp T [] H H' → (b = true ↔ Lets M u) → Q (.bl b) H'
theorem ok_lets_pump (F : Fn K mg "lets_pump" s_lets_pump) (Tx : Txt mg) (D_look_at : DOk P w K mg base "look_at" 5 ["thing"] [] (sp_look_at T)) (D_is_formed : DOk P w K mg base "is_formed" 3 ["machine", "thing"] [] (sp_is_formed T))
    (D_ways_between : DOk P w K mg base "ways_between" 3 ["machine", "text", "rooms", "others"] [] (sp_ways_between T)) (D_is_middle : DOk P w K mg base "is_middle" 4 ["machine", "text", "room", "other"] [] (sp_is_middle T)) :
    DOk P w K mg base "lets_pump" 6 ["machine", "thing"] [] (sp_lets_pump T) := by
  refine F.dok sc_lets_pump b_lets_pump (fun vs H Q E h => ?_) (fun f cdv A outer s H vs Q E hr h => ?_)
  · obtain ⟨m, p, M, u, rfl, _⟩ := h
    rfl
  · obtain ⟨m, p, M, u, rfl, hM, ok, hP, hf, q⟩ := h
    have hlo := hf.lo
    have hlen := hf.len
    have hb := ok.bel
    refine ⟨_, (pss_cons (ps_expr (pe_d D_look_at hr (by rfl) (pa_cons (pv 0) pa_nil)))
      (pss_cons (ps_if (pt_not (pt_val (pe_d D_is_formed hr (by rfl) (pa_cons (pv 0) (pa_cons (pv 1) pa_nil)))))
      (pss_one (ps_ret pe_bl)) pss_nil)
      (pss_cons (ps_asg (pv 1) (pg_tup rfl (pgs_cons (pg_name (i := 2) sc_lets_pump.nd rfl (by first | exact .inl rfl | exact .inr rfl)) (pgs_cons (pg_name (i := 3) sc_lets_pump.nd rfl (by first | exact .inl rfl | exact .inr rfl)) pgs_nil))))
      (pss_cons (ps_if (pt_cmpR op_eq (pe_d D_ways_between hr (by rfl) (pa_cons (pv 0) (pa_cons (pe_ix ix_list (pv 2) pe_int (fun _ _ => rfl)) (pa_cons (pe_ix ix_tup (pv 0) pe_int (fun _ _ => rfl)) (pa_cons (pe_lst (pa_cons (pe_ix ix_tup (pe_ix ix_list (pv 3) pe_int (fun _ _ => rfl)) pe_int (fun _ _ => rfl)) pa_nil)) pa_nil))))) pe_int (nomark _))
      (pss_one (ps_ret pe_bl)) pss_nil)
      (pss_cons (ps_if (pt_cmpR op_eq (pe_d D_ways_between hr (by rfl) (pa_cons (pv 0) (pa_cons (pe_ix ix_list (pv 2) (pe_un un_neg pe_int) (fun _ _ => rfl)) (pa_cons (pe_lst (pa_cons (pe_ix ix_tup (pe_ix ix_list (pv 3) (pe_un un_neg pe_int) (fun _ _ => rfl)) pe_int (fun _ _ => rfl)) pa_nil)) (pa_cons (pe_ix ix_tup (pv 0) pe_int (fun _ _ => rfl)) pa_nil))))) pe_int (nomark _))
      (pss_one (ps_ret pe_bl)) pss_nil)
      (pss_cons (ps_for PassesOwn.never rfl (pi_enum (by rfl) Tx.n_enumerate (pa_cons (pv 3) pa_nil)) (pg_tup rfl (pgs_cons (pg_name (i := 4) sc_lets_pump.nd rfl (by first | exact .inl rfl | exact .inr rfl)) (pgs_cons (pg_tup rfl (pgs_cons (pg_name (i := 5) sc_lets_pump.nd rfl (by first | exact .inl rfl | exact .inr rfl)) (pgs_cons (pg_name (i := 6) sc_lets_pump.nd rfl (by first | exact .inl rfl | exact .inr rfl)) pgs_nil))) pgs_nil)))
      (pss_cons (ps_if (pt_not (pt_val (pe_d D_is_middle hr (by rfl) (pa_cons (pv 0) (pa_cons (pe_ix ix_list (pv 2) (pe_op op_add (pe_op op_mul pe_int (pv 4)) pe_int) (fun _ _ => rfl)) (pa_cons (pv 5) (pa_cons (pv 6) pa_nil)))))))
      (pss_one (ps_ret pe_bl)) pss_nil)
      (pss_one (ps_if (PW.pt (pw_and (pt_cmpR op_gt (pv 4) pe_int (nomark _)) (pw_and1 (pt_cmpR op_eq (pe_d D_ways_between hr (by rfl) (pa_cons (pv 0) (pa_cons (pe_ix ix_list (pv 2) (pe_op op_mul pe_int (pv 4)) (fun _ _ => rfl)) (pa_cons (pe_lst (pa_cons (pe_ix ix_tup (pe_ix ix_list (pv 3) (pe_op op_sub (pv 4) pe_int) (fun _ _ => rfl)) pe_int (fun _ _ => rfl)) pa_nil)) (pa_cons (pe_lst (pa_cons (pv 5) pa_nil)) pa_nil))))) pe_int (nomark _)))))
      (pss_one (ps_ret pe_bl)) pss_nil))))
      (pss_one (ps_ret pe_bl)))))))), ?_⟩
    refine ⟨_, rfl, m, M, rfl, hM, ok, fun H1 k1 => ?_⟩
    have hM1 := hM.kp k1
    have hP1 := hP.kp k1
    refine ⟨_, rfl, _, rfl, m, M, p, u, rfl, hM1, ok, hP1, hf, fun H2 k2 => ?_⟩
    have k12 := k1.trans k2
    have hM2 := hM1.kp k2
    obtain ⟨a, b, rs, hp⟩ := hP1.kp k2
    have lrs := hp.st.len
    refine ⟨true, rfl, iteF ?_⟩
    refine ⟨_, rfl, p, _, rfl, SqT.of hp.m, rfl, _, _, rfl, _, _, rfl, rfl, ?_⟩
    have T0 : (u.ts.map wd)[0]? = some (wd (u.T 0)) := T_get (by omega)
    have T1 : (u.ts.map wd)[(u.ts.map wd).length - 1]? = some (wd (u.T (2 * u.rs.length))) := by
      have e : (u.ts.map wd).length - 1 = 2 * u.rs.length := by rw [List.length_map, hlen]; omega
      rw [e]
      exact T_get (by omega)
    obtain ⟨t0, et0, ht0⟩ := hp.st.at (i := 0) (by omega)
    obtain ⟨t1, et1, ht1⟩ := hp.st.at (i := u.rs.length - 1) (by omega)
    have et1' : (rs.map V.ref)[(rs.map V.ref).length - 1]? = some (.ref t1) := by
      rw [List.length_map, lrs]
      exact et1
    have r0 := hf.rb' (i := 0) (by omega)
    have rK := hf.rb' (i := u.rs.length - 1) (by omega)
    obtain ⟨af, al', as, ts, hm⟩ := id hM2
    have hhi := ok.hi
    have hll := rise_len ok.ls ok.lb
    refine ⟨_, rfl, _, rfl, a, _, _, _, rfl, rfl, SqL.of hp.t, atI_nat T0, ?_⟩
    refine ⟨_, rfl, m, _, 1, _, rfl, rfl, SqT.of hm.m, rfl, ?_⟩
    refine ⟨_, rfl, b, _, _, _, rfl, rfl, SqL.of hp.r, atI_nat et0, ?_⟩
    refine ⟨t0, _, 0, _, rfl, rfl, SqT.of ht0, rfl, ?_⟩
    refine ⟨sz_ok (by simp), fun p1 hp1 => ?_⟩
    have k3 : Kp T [] H2 (upd H2 p1 (.lst [ni (u.R 0).1])) := Kp.new hp1
    refine ⟨m, M, u.T 0, af, p1, M.fs, [(u.R 0).1], rfl, hM2.kp k3, ok, k3.get hm.f, by rw [upd_same]; rfl, fun x hx => by rw [List.mem_singleton.mp hx]; exact r0.1, by simp, fun H4 k4 => ?_⟩
    have k24 := k3.trans k4
    refine ⟨rfl, ?_⟩
    by_cases f1 : wb M.S (u.T 0) M.fs [(u.R 0).1] = 0
    · refine ⟨true, ?_, iteT ?_⟩
      · show V.bl (decide (ni _ = V.int 0)) = V.bl true
        rw [decide_eq_true (by rw [f1]; rfl)]
      · exact q H4 false (k12.trans k24) ⟨(fun z => nomatch z), fun z => absurd f1 z.first⟩
    refine ⟨false, ?_, iteF ?_⟩
    · show V.bl (decide (ni _ = V.int 0)) = V.bl false
      rw [decide_eq_false (fun z => f1 (by injection z with z; omega))]
    refine ⟨_, rfl, _, rfl, 1, rfl, a, _, _, _, rfl, rfl, SqL.of (k24.get hp.t), atI_m1 T1, ?_⟩
    refine ⟨_, rfl, 1, rfl, b, _, _, _, rfl, rfl, SqL.of (k24.get hp.r), atI_m1 et1', ?_⟩
    refine ⟨t1, _, 1, _, rfl, rfl, SqT.of (k24.get ht1), rfl, ?_⟩
    refine ⟨sz_ok (by simp), fun p2 hp2 => ?_⟩
    have k5 := k24.snew (o := .lst [ni (u.R (u.rs.length - 1)).2]) hp2
    refine ⟨_, rfl, m, _, 2, _, rfl, rfl, SqT.of (k5.get hm.m), rfl, ?_⟩
    refine ⟨m, M, u.T (2 * u.rs.length), p2, al', [(u.R (u.rs.length - 1)).2], M.ls, rfl, hM2.kp k5, ok, by rw [upd_same]; rfl, k5.get hm.l, ok.lb, by omega, fun H5 k6 => ?_⟩
    have k25 := k5.trans k6
    refine ⟨rfl, ?_⟩
    by_cases f2 : wb M.S (u.T (2 * u.rs.length)) [(u.R (u.rs.length - 1)).2] M.ls = 0
    · refine ⟨true, ?_, iteT ?_⟩
      · show V.bl (decide (ni _ = V.int 0)) = V.bl true
        rw [decide_eq_true (by rw [f2]; rfl)]
      · exact q H5 false (k12.trans k25) ⟨(fun z => nomatch z), fun z => absurd f2 z.last⟩
    refine ⟨false, ?_, iteF ?_⟩
    · show V.bl (decide (ni _ = V.int 0)) = V.bl false
      rw [decide_eq_false (fun z => f2 (by injection z with z; omega))]
    refine ⟨_, rfl, b, _, rfl, SqL.of (k25.get hp.r), ?_⟩
    refine for_it (walk_enum (xs := rs.map V.ref)) (fun i σ H6 => ∃ (y4 y5 y6 : Option V), σ = [some (.ref m), some (.ref p), some (.ref a), some (.ref b), y4, y5, y6] ∧ Kp T [] H2 H6 ∧ ∀ j, j < i → Mid M.S (u.T (2 * j + 1)) (u.R j).1 (u.R j).2 ∧ (0 < j → cnt M.S (u.T (2 * j)) (u.R (j - 1)).2 (u.R j).1 ≠ 0)) ⟨_, _, _, rfl, k25, fun j hj => absurd hj (Nat.not_lt_zero _)⟩ (fun i σ H6 _ h1 => ?_) (fun i x σ H6 H7 hi h1 y => ?_) (fun σ H6 h1 => ?_)
    · obtain ⟨_, _, _, _, k, _⟩ := h1
      exact SqL.of (k.get hp.r)
    · obtain ⟨y4, y5, y6, rfl, k, hj⟩ := h1
      obtain ⟨t, x1, x2, rfl, nt, rfl, e1, e2⟩ := y
      cases e1
      have hi' : i < u.rs.length := by rw [List.length_map, lrs] at hi; exact hi
      obtain ⟨tt, et, ht⟩ := hp.st.at hi'
      have e3 := Option.some.inj (e2.symm.trans et)
      subst e3
      have rI := hf.rb' hi'
      have k7 := k.snew (o := .tup [.int (i : Nat), .ref tt]) nt
      refine ⟨t, [.int (i : Nat), .ref tt], rfl, SqT.of upd_same, rfl, _, _, rfl, _, _, rfl, tt, _, rfl, SqT.of (k7.get ht), rfl, _, _, rfl, _, _, rfl, rfl, rfl, ?_⟩
      have TI : (u.ts.map wd)[2 * i + 1]? = some (wd (u.T (2 * i + 1))) := T_get (by omega)
      have TI2 : (u.ts.map wd)[2 * i]? = some (wd (u.T (2 * i))) := T_get (by omega)
      refine ⟨_, rfl, _, rfl, _, rfl, _, _, rfl, rfl, ?_⟩
      refine ⟨.inl (by constructor <;> decide), _, _, rfl, rfl, a, _, _, _, rfl, rfl, SqL.of (k7.get hp.t), atI_nat (j := 2 * i + 1) TI, ?_⟩
      refine ⟨_, rfl, _, rfl, m, M, u.T (2 * i + 1), (u.R i).1, (u.R i).2, rfl, hM2.kp k7, ok, rI.1, rI.2, fun H8 bb k8 hbb => ?_⟩
      have k9 := k7.trans k8
      by_cases f3 : Mid M.S (u.T (2 * i + 1)) (u.R i).1 (u.R i).2
      · have ebb : bb = true := hbb.mpr f3
        subst ebb
        refine ⟨true, rfl, iteF ?_⟩
        refine ⟨_, rfl, _, _, rfl, rfl, ?_⟩
        by_cases f4 : 0 < i
        · refine ⟨true, ?_, iteT ?_⟩
          · show V.bl (decide ((0 : Int) < (i : Int))) = V.bl true
            rw [decide_eq_true (by omega)]
          obtain ⟨tp, etp, htp⟩ := hp.st.at (i := i - 1) (by omega)
          have rP := hf.rb' (i := i - 1) (by omega)
          have etp' : atI (rs.map V.ref) ((i : Int) - 1) = some (.ref tp) := by
            have e : (i : Int) - 1 = ((i - 1 : Nat) : Int) := by omega
            rw [e]
            exact atI_nat etp
          refine ⟨_, rfl, _, rfl, _, rfl, _, _, rfl, rfl, .inl (by constructor <;> decide), a, _, _, _, rfl, rfl, SqL.of (k9.get hp.t), atI_nat (j := 2 * i) TI2, ?_⟩
          refine ⟨_, rfl, _, rfl, _, _, rfl, rfl, b, _, _, _, rfl, rfl, SqL.of (k9.get hp.r), etp', ?_⟩
          refine ⟨tp, _, 1, _, rfl, rfl, SqT.of (k9.get htp), rfl, ?_⟩
          refine ⟨sz_ok (by simp), fun q1 hq1 => ?_⟩
          have k10 := k9.snew (o := .lst [ni (u.R (i - 1)).2]) hq1
          refine ⟨_, rfl, sz_ok (by simp), fun q2 hq2 => ?_⟩
          have k11 := k10.snew (o := .lst [ni (u.R i).1]) hq2
          refine ⟨m, M, u.T (2 * i), q1, q2, [(u.R (i - 1)).2], [(u.R i).1], rfl, hM2.kp k11, ok, by rw [upd_ne (ne_of_none upd_same hq2), upd_same]; rfl, by rw [upd_same]; rfl, fun x hx => by rw [List.mem_singleton.mp hx]; exact rI.1, by simp, fun H9 k12' => ?_⟩
          have k13 := k11.trans k12'
          refine ⟨rfl, ?_⟩
          rw [wb_one]
          by_cases f5 : cnt M.S (u.T (2 * i)) (u.R (i - 1)).2 (u.R i).1 = 0
          · refine ⟨true, ?_, iteT ?_⟩
            · show V.bl (decide (ni _ = V.int 0)) = V.bl true
              rw [decide_eq_true (by rw [f5]; rfl)]
            · exact q H9 false (k12.trans k13) ⟨(fun z => nomatch z), fun z => absurd f5 (z.btw i f4 hi')⟩
          · refine ⟨false, ?_, iteF ?_⟩
            · show V.bl (decide (ni _ = V.int 0)) = V.bl false
              rw [decide_eq_false (fun z => f5 (by injection z with z; omega))]
            refine ⟨_, _, _, rfl, k13, fun j hj' => ?_⟩
            by_cases e : j < i
            · exact hj j e
            · have e : j = i := by omega
              subst e
              exact ⟨f3, fun _ => f5⟩
        · refine ⟨false, ?_, iteF ?_⟩
          · show V.bl (decide ((0 : Int) < (i : Int))) = V.bl false
            rw [decide_eq_false (by omega)]
          refine iteF ?_
          refine ⟨_, _, _, rfl, k9, fun j hj' => ?_⟩
          by_cases e : j < i
          · exact hj j e
          · have e : j = i := by omega
            subst e
            exact ⟨f3, fun z => absurd z f4⟩
      · have ebb : bb = false := by
          cases bb with
          | false => rfl
          | true => exact absurd (hbb.mp rfl) f3
        subst ebb
        refine ⟨false, rfl, iteT ?_⟩
        exact q H8 false (k12.trans k9) ⟨(fun z => nomatch z), fun z => absurd (z.mid i hi') f3⟩
    · obtain ⟨y4, y5, y6, rfl, k, hj⟩ := h1
      rw [List.length_map, lrs] at hj
      exact (q H6 true (k12.trans k) ⟨fun _ => ⟨f1, f2, fun j h => (hj j h).1, fun j h0 h => (hj j h).2 h0⟩, fun _ => rfl⟩)
end
end K51
/-! the law's own defs: the hand -/
namespace K51
open PySem PySem.Spec PyProof.Rows L2 NdefX LamX
/-- the hand: two whole numbers, the second small -/
def Hand (H : Hp) (hd : Addr) : Prop := ∃ a b : Int, H hd = some (.lst [.int a, .int b]) ∧ 0 ≤ a ∧ 0 ≤ b ∧ b < 2147483648
section
variable {P : Program} {w : World} {K : PySem.W.Frag} {mg : Str → Option Value} {base : Heap} {T : List NTab}
def sp_draw (T : List NTab) : Sp := fun vs H Q _ => ∃ (hd : Addr) (n : Nat), vs = [.ref hd, ni n] ∧ Hand H hd ∧ 0 < n ∧ n ≤ 1000 ∧ ∀ H' r, Kp T [hd] H H' → Hand H' hd → r < n → Q (ni r) H'
theorem ok_law_draw (F : Fn K mg "_law_draw" s__law_draw) (Tx : Txt mg) : DOk P w K mg base "_law_draw" 1 ["_law_hand_here", "_law_size"] [] (sp_draw T) := by
  refine F.dok sc__law_draw b__law_draw (fun vs H Q E h => ?_) (fun f cdv A outer s H vs Q E hr h => ?_)
  · obtain ⟨hd, n, rfl, _⟩ := h
    rfl
  · obtain ⟨hd, n, rfl, ⟨a, b, hh, ha, hb, hb2⟩, hn, hn2, q⟩ := h
    refine ⟨_, (pss_cons (ps_if (pt_cmpR op_gt (pe_ix ix_list (pv 0) pe_int (fun _ _ => rfl)) pe_int (nomark _))
      (pss_cons (ps_set (i := 2) sc__law_draw.nd rfl (by first | exact .inl rfl | exact .inr rfl) (pe_op op_mod (pe_ix ix_list (pv 0) pe_int (fun _ _ => rfl)) (pv 1)))
      (pss_cons (ps_asg (pe_op op_fdiv (pe_ix ix_list (pv 0) pe_int (fun _ _ => rfl)) (pv 1)) (pg_sub (pv 0) pe_int set_list))
      (pss_one (ps_ret (pv 2))))) pss_nil)
      (pss_cons (ps_asg (pe_op op_mod (pe_op op_add (pe_op op_mul (pe_ix ix_list (pv 0) pe_int (fun _ _ => rfl)) pe_int) pe_int) pe_int) (pg_sub (pv 0) pe_int set_list))
      (pss_one (ps_ret (pe_op op_mod (pe_op op_fdiv (pe_op op_mod (pe_op op_mul (pe_ix ix_list (pv 0) pe_int (fun _ _ => rfl)) (pe_ix ix_list (pv 0) pe_int (fun _ _ => rfl))) pe_int) pe_int) (pv 1)))))), ?_⟩
    refine ⟨_, rfl, hd, _, 0, _, rfl, rfl, SqL.of hh, rfl, _, _, rfl, rfl, ?_⟩
    by_cases h0 : 0 < a
    · refine ⟨true, ?_, iteT ?_⟩
      · show V.bl (decide ((0 : Int) < a)) = V.bl true
        rw [decide_eq_true h0]
      refine ⟨_, rfl, hd, _, 0, _, rfl, rfl, SqL.of hh, rfl, _, rfl, _, _, rfl, rfl, (by show (0 : Int) < (n : Int); omega), ?_⟩
      refine ⟨_, rfl, hd, _, 0, _, rfl, rfl, SqL.of hh, rfl, _, rfl, _, _, rfl, rfl, (by constructor <;> omega), ?_⟩
      refine ⟨_, rfl, hd, _, 0, 0, rfl, rfl, hh, rfl, ?_⟩
      refine ⟨_, rfl, ?_⟩
      have hm : 0 ≤ a % (n : Int) := Int.emod_nonneg _ (by omega)
      have hm2 : a % (n : Int) < n := Int.emod_lt_of_pos _ (by omega)
      have e : a % (n : Int) = (((a % (n : Int)).toNat : Nat) : Int) := by omega
      show Q (.int (a % (n : Int))) _
      rw [e]
      refine q _ _ ((Kp.refl H).mut (.inr List.mem_cons_self) hh) ⟨a / (n : Int), b, by rw [upd_same]; rfl, Int.ediv_nonneg ha (by omega), hb, hb2⟩ (by omega)
    · refine ⟨false, ?_, iteF ?_⟩
      · show V.bl (decide ((0 : Int) < a)) = V.bl false
        rw [decide_eq_false h0]
      refine ⟨_, rfl, hd, _, 1, _, rfl, rfl, SqL.of hh, rfl, _, _, rfl, rfl, .inr (by constructor <;> decide), ?_⟩
      refine ⟨_, _, rfl, rfl, _, _, rfl, rfl, (by show (0 : Int) < 2147483647; decide), ?_⟩
      refine ⟨_, rfl, hd, _, 1, 1, rfl, rfl, hh, rfl, ?_⟩
      have c0 : 0 ≤ (b * 48271 + 11) % 2147483647 := Int.emod_nonneg _ (by decide)
      have c1 : (b * 48271 + 11) % 2147483647 < 2147483647 := Int.emod_lt_of_pos _ (by decide)
      have hh2 : upd H hd (.lst ([V.int a, .int b].set 1 (.int ((b * 48271 + 11) % 2147483647)))) hd = some (.lst [.int a, .int ((b * 48271 + 11) % 2147483647)]) := by rw [upd_same]; rfl
      refine ⟨_, rfl, hd, _, 1, _, rfl, rfl, SqL.of hh2, rfl, ?_⟩
      refine ⟨_, rfl, hd, _, 1, _, rfl, rfl, SqL.of hh2, rfl, ?_⟩
      refine ⟨_, _, rfl, rfl, .inl ⟨by omega, by omega⟩, ?_⟩
      refine ⟨_, _, rfl, rfl, (by show (0 : Int) < 2147483629; decide), ?_⟩
      refine ⟨_, _, rfl, rfl, (by constructor <;> decide), ?_⟩
      refine ⟨_, rfl, _, _, rfl, rfl, (by show (0 : Int) < (n : Int); omega), ?_⟩
      obtain ⟨z, hz⟩ : ∃ z, z = (b * 48271 + 11) % 2147483647 * ((b * 48271 + 11) % 2147483647) % 2147483629 / 64 := ⟨_, rfl⟩
      have hm : 0 ≤ z % (n : Int) := Int.emod_nonneg _ (by omega)
      have hm2 : z % (n : Int) < n := Int.emod_lt_of_pos _ (by omega)
      have e : z % (n : Int) = (((z % (n : Int)).toNat : Nat) : Int) := by omega
      show Q (.int ((b * 48271 + 11) % 2147483647 * ((b * 48271 + 11) % 2147483647) % 2147483629 / 64 % (n : Int))) _
      rw [← hz, e]
      exact q _ _ ((Kp.refl H).mut (.inr List.mem_cons_self) hh) ⟨a, _, hh2, ha, c0, by omega⟩ (by omega)
theorem SqL.kp {ex : List Addr} {H H' : Hp} {a : Addr} {xs : List V} (h : SqL K H a xs) (k : Kp T ex H H') (n : a ∉ ex) : SqL K H' a xs := by
  rcases h with (h | ⟨o, h⟩) | h
  · exact .inl (.inl (k.getX h n))
  · exact .inl (.inr ⟨o, k.getX h n⟩)
  · exact .inr h
def sp_hand (T : List NTab) : Sp := fun vs H Q _ => ∃ (a : Addr) (ns : List Int) (k : Nat), vs = [.ref a, ni k] ∧ SqL K H a (ns.map V.int) ∧ k ≤ 3 ∧ ∀ H' p, Kp T [] H H' → H p = none → Hand H' p → Q (.ref p) H'
theorem cut_int (ns : List Int) (lo hi : Option Int) : ∃ c : Int, (cutV (ns.map V.int) lo hi ++ [V.int 0])[0]? = some (.int c) := by
  have h : cutV (ns.map V.int) lo hi = ((ns.drop (HT.sIx ns.length 0 lo)).take (HT.sIx ns.length ns.length hi - HT.sIx ns.length 0 lo)).map V.int := by
    unfold cutV
    rw [List.length_map, List.map_take, List.map_drop]
  rw [h]
  cases (ns.drop (HT.sIx ns.length 0 lo)).take (HT.sIx ns.length ns.length hi - HT.sIx ns.length 0 lo) with
  | nil => exact ⟨0, rfl⟩
  | cons x xs => exact ⟨x, rfl⟩
theorem ok_law_hand (F : Fn K mg "_law_hand" s__law_hand) (Tx : Txt mg) : DOk P w K mg base "_law_hand" 1 ["_law_script", "_law_k"] [] (sp_hand (K := K) T) := by
  refine F.dok sc__law_hand b__law_hand (fun vs H Q E h => ?_) (fun f cdv A outer s H vs Q E hr h => ?_)
  · obtain ⟨a, ns, k, rfl, _⟩ := h
    rfl
  · obtain ⟨a, ns, k, rfl, ha, hk, q⟩ := h
    refine ⟨_, (pss_cons (ps_set (i := 2) sc__law_hand.nd rfl (by first | exact .inl rfl | exact .inr rfl) (pe_ix ix_list (pe_op op_cat (pe_slice sl_list (pv 0) (po_some (pv 1)) (po_some (pe_op op_add (pv 1) pe_int))) (pe_lst (pa_cons pe_int pa_nil))) pe_int (fun _ _ => rfl)))
      (pss_cons (ps_set (i := 3) sc__law_hand.nd rfl (by first | exact .inl rfl | exact .inr rfl) (pe_op op_mod (pe_op op_mul (pe_op op_add (pe_op op_add (pe_op op_mod (pv 2) pe_int) (pe_op op_mul pe_int (pv 1))) pe_int) pe_int) pe_int))
      (pss_one (ps_ret (pe_lst (pa_cons (pe_op op_mul (pe_callTy call_int1 (by rfl) Tx.n_int (by decide +kernel) (pa_cons (pe_cmpR op_ge (pv 2) (pe_op op_pow pe_int pe_int) (nomark _)) pa_nil)) (pv 2)) (pa_cons (pv 3) pa_nil))))))), ?_⟩
    refine ⟨_, rfl, _, rfl, _, rfl, _, rfl, _, _, rfl, rfl, _, rfl, a, _, rfl, ha, fun p1 hp1 => ?_⟩
    refine ⟨sz_ok (by simp), fun p2 hp2 => ?_⟩
    refine ⟨p1, p2, _, _, rfl, rfl, (by rw [upd_ne (ne_of_none upd_same hp2), upd_same]), upd_same, ?_, fun p3 hp3 => ?_⟩
    · have e1 : (cutV (ns.map V.int) (some (k : Int)) (some ((k : Int) + 1))).length ≤ 1 := by
        unfold cutV
        have e2 : (k : Int) + 1 = ((k + 1 : Nat) : Int) := by omega
        rw [e2, HT.sIx_nat, HT.sIx_nat, List.length_take]
        omega
      exact sz_ok (by show (cutV (ns.map V.int) (some (k : Int)) (some ((k : Int) + 1))).length + 1 ≤ _; omega)
    · obtain ⟨c, hc⟩ := cut_int ns (some (k : Int)) (some ((k : Int) + 1))
      refine ⟨p3, _, 0, _, rfl, rfl, SqL.of upd_same, atI_nat (j := 0) hc, ?_⟩
      have k3 := (((Kp.refl (T := T) (ex := []) H).snew hp1).snew hp2).snew (o := .lst (cutV (ns.map V.int) (some (k : Int)) (some ((k : Int) + 1)) ++ [V.int 0])) hp3
      refine ⟨_, rfl, _, _, rfl, rfl, (by show (0 : Int) < 2147483647; decide), _, rfl, _, _, rfl, rfl, .inl (by constructor <;> decide), _, _, rfl, rfl, _, _, rfl, rfl, ?_⟩
      have c0 : 0 ≤ c % 2147483647 := Int.emod_nonneg _ (by decide)
      have c1 : c % 2147483647 < 2147483647 := Int.emod_lt_of_pos _ (by decide)
      refine ⟨_, _, rfl, rfl, .inr (by constructor <;> decide), _, _, rfl, rfl, (by show (0 : Int) < 2147483629; decide), ?_⟩
      obtain ⟨b, hb⟩ : ∃ b, b = (c % 2147483647 + 7919 * (k : Int) + 1) * 48271 % 2147483629 := ⟨_, rfl⟩
      have b0 : 0 ≤ b := by rw [hb]; exact Int.emod_nonneg _ (by decide)
      have b1 : b < 2147483629 := by rw [hb]; exact Int.emod_lt_of_pos _ (by decide)
      refine ⟨_, rfl, _, _, rfl, rfl, (by constructor <;> decide), _, _, rfl, rfl, .inr ⟨_, rfl, ?_⟩⟩
      refine ⟨_, rfl, ?_⟩
      by_cases h18 : (10 : Int) ^ ((18 : Int)).toNat ≤ c
      · refine ⟨1, c, ?_, rfl, .inl (by constructor <;> decide), ?_⟩
        · show V.int (if decide ((10 : Int) ^ ((18 : Int)).toNat ≤ c) = true then 1 else 0) = V.int 1
          rw [decide_eq_true h18]
          rfl
        · refine ⟨_, rfl, sz_ok (by simp), fun p4 hp4 => ?_⟩
          refine q _ p4 (k3.snew hp4) (k3.free hp4) ⟨1 * c, b, ?_, ?_, b0, by omega⟩
          · rw [upd_same, hb]
          · have : (10 : Int) ^ ((18 : Int)).toNat = 1000000000000000000 := by decide
            omega
      · refine ⟨0, c, ?_, rfl, .inl (by constructor <;> decide), ?_⟩
        · show V.int (if decide ((10 : Int) ^ ((18 : Int)).toNat ≤ c) = true then 1 else 0) = V.int 0
          rw [decide_eq_false h18]
          rfl
        · refine ⟨_, rfl, sz_ok (by simp), fun p4 hp4 => ?_⟩
          refine q _ p4 (k3.snew hp4) (k3.free hp4) ⟨0 * c, b, ?_, by omega, b0, by omega⟩
          rw [upd_same, hb]
end
end K51
/-! the law's own defs: rooms, letters -/
namespace K51
open PySem PySem.Spec PyProof.Rows L2 NdefX LamX
section
variable {P : Program} {w : World} {K : PySem.W.Frag} {mg : Str → Option Value} {base : Heap} {T : List NTab}
/-- letters to draw from -/
structure Alph (u : List Nat) : Prop where
  lo : 1 ≤ u.length
  hi : u.length ≤ 3
  let' : ∀ c ∈ u, Let c
  nd : u.Nodup
def sp_letters (T : List NTab) : Sp := fun vs H Q _ => ∃ (hd : Addr), vs = [.ref hd] ∧ Hand H hd ∧ ∀ H' u, Kp T [hd] H H' → Hand H' hd → Alph u → Q (wd u) H'
def LTS : List (List Nat) := [[97, 98], [97, 98], [97, 98, 99], [113, 122], [109, 112, 120], [97]]
theorem lts_ok : ∀ u ∈ LTS, Alph u := by
  intro u hu
  have h : (1 ≤ u.length ∧ u.length ≤ 3) ∧ (∀ c ∈ u, 97 ≤ c ∧ c ≤ 122) ∧ u.Nodup := by
    revert u
    decide
  exact ⟨h.1.1, h.1.2, fun c hc => h.2.1 c hc, h.2.2⟩
theorem ok_law_letters (F : Fn K mg "_law_letters" s__law_letters) (Tx : Txt mg) (D__law_draw : DOk P w K mg base "_law_draw" 1 ["_law_hand_here", "_law_size"] [] (sp_draw T)) : DOk P w K mg base "_law_letters" 2 ["_law_hand_here"] [] (sp_letters T) := by
  refine F.dok sc__law_letters b__law_letters (fun vs H Q E h => ?_) (fun f cdv A outer s H vs Q E hr h => ?_)
  · obtain ⟨hd, rfl, _⟩ := h
    rfl
  · obtain ⟨hd, rfl, hh, q⟩ := h
    refine ⟨_, (pss_one (ps_ret (pe_ix ix_list (pe_lst (pa_cons pe_str (pa_cons pe_str (pa_cons pe_str (pa_cons pe_str (pa_cons pe_str (pa_cons pe_str pa_nil))))))) (pe_d D__law_draw hr (by rfl) (pa_cons (pv 0) (pa_cons pe_int pa_nil))) (fun _ _ => rfl)))), ?_⟩
    refine ⟨sz_ok (by simp), fun p1 hp1 => ?_⟩
    have k1 : Kp T [hd] H (upd H p1 (.lst [.str "ab", .str "ab", .str "abc", .str "qz", .str "mpx", .str "a"])) := Kp.new hp1
    have hh1 : Hand (upd H p1 (.lst [.str "ab", .str "ab", .str "abc", .str "qz", .str "mpx", .str "a"])) hd := by
      obtain ⟨a, b, e, z⟩ := hh
      exact ⟨a, b, by rw [upd_ne (ne_of_none e hp1)]; exact e, z⟩
    have n1 : p1 ∉ [hd] := fun z => by
      obtain ⟨a, b, e, _⟩ := hh
      rw [List.mem_singleton.mp z, e] at hp1
      cases hp1
    refine ⟨_, rfl, hd, 6, rfl, hh1, by omega, by omega, fun H2 r k2 hh2 hr => ?_⟩
    have e : ∃ u, LTS[r]? = some u ∧ ([V.str "ab", .str "ab", .str "abc", .str "qz", .str "mpx", .str "a"] : List V)[r]? = some (wd u) := by
      match r, hr with
      | 0, _ => exact ⟨_, rfl, rfl⟩
      | 1, _ => exact ⟨_, rfl, rfl⟩
      | 2, _ => exact ⟨_, rfl, rfl⟩
      | 3, _ => exact ⟨_, rfl, rfl⟩
      | 4, _ => exact ⟨_, rfl, rfl⟩
      | 5, _ => exact ⟨_, rfl, rfl⟩
    obtain ⟨u, e1, e2⟩ := e
    refine ⟨p1, _, _, _, rfl, rfl, SqL.of (k2.getX upd_same n1), atI_nat e2, ?_⟩
    exact q H2 u (k1.trans k2) hh2 (lts_ok u (List.mem_of_getElem? e1))
theorem Hand.off {H : Hp} {hd p : Addr} {o : HO} (h : Hand H hd) (hp : H p = none) : Hand (upd H p o) hd := by
  obtain ⟨a, b, e, z⟩ := h
  exact ⟨a, b, by rw [upd_ne (ne_of_none e hp)]; exact e, z⟩
theorem Hand.ne {H : Hp} {hd p : Addr} (h : Hand H hd) (hp : H p = none) : p ∉ [hd] := fun z => by
  obtain ⟨a, b, e, _⟩ := h
  rw [List.mem_singleton.mp z, e] at hp
  cases hp
theorem Hand.set {H : Hp} {hd p : Addr} {o : HO} (h : Hand H hd) (n : p ≠ hd) : Hand (upd H p o) hd := by
  obtain ⟨a, b, e, z⟩ := h
  exact ⟨a, b, by rw [upd_ne n.symm]; exact e, z⟩
theorem Hand.neq {H : Hp} {hd p : Addr} (h : Hand H hd) (hp : H p = none) : p ≠ hd := fun z => h.ne hp (List.mem_singleton.mpr z)
def sp_rooms (T : List NTab) : Sp := fun vs H Q _ => ∃ (hd : Addr) (n : Nat), vs = [.ref hd, ni n] ∧ Hand H hd ∧ 0 < n ∧ n ≤ 12 ∧ ∀ H' p (rs : List Nat), Kp T [hd] H H' → Hand H' hd → H p = none → H' p = some (.lst (rs.map ni)) → rs.Pairwise (· < ·) → (∀ r ∈ rs, r < n) → Q (.ref p) H'
theorem ok_law_rooms (F : Fn K mg "_law_rooms" s__law_rooms) (Tx : Txt mg) (D__law_draw : DOk P w K mg base "_law_draw" 1 ["_law_hand_here", "_law_size"] [] (sp_draw T)) : DOk P w K mg base "_law_rooms" 2 ["_law_hand_here", "_law_size"] [] (sp_rooms T) := by
  refine F.dok sc__law_rooms b__law_rooms (fun vs H Q E h => ?_) (fun f cdv A outer s H vs Q E hr h => ?_)
  · obtain ⟨hd, n, rfl, _⟩ := h
    rfl
  · obtain ⟨hd, n, rfl, hh, hn, hn2, q⟩ := h
    refine ⟨_, (pss_cons (ps_if (pt_cmpR op_eq (pe_d D__law_draw hr (by rfl) (pa_cons (pv 0) (pa_cons pe_int pa_nil))) pe_int (nomark _))
      (pss_one (ps_ret (pe_lst pa_nil))) pss_nil)
      (pss_cons (ps_setLc (i := 2) (own := [("_law_room", 3)]) (g := gName 3) (by rfl) sc__law_rooms.nd rfl rfl (sw_true rfl rfl rfl (by decide +kernel)) (pi_range1 (by rfl) Tx.n_range (pa_cons (pv 1) pa_nil)) (blkOk_by (N := ["_law_hand_here", "_law_size", "_law_some", "_law_room"]) (sc := (defScope s__law_rooms)) (own := [("_law_room", 3)]) (by decide +kernel)) (fun _ _ _ _ _ => (pg_name (i := 3) sc__law_rooms.nd rfl (by first | exact .inl rfl | exact .inr rfl))) (fun _ _ _ _ _ => (pts_one (pt_cmpR op_eq (pe_d D__law_draw hr (by rfl) (pa_cons (pv 0) (pa_cons pe_int pa_nil))) pe_int (nomark _)))) (fun _ _ _ _ _ => (pv 3)))
      (pss_one (ps_ret (pe_orT (pv 2) (pe_one (pe_lst (pa_cons (pe_d D__law_draw hr (by rfl) (pa_cons (pv 0) (pa_cons (pv 1) pa_nil))) pa_nil)))))))), ?_⟩
    refine ⟨_, rfl, hd, 14, rfl, hh, by omega, by omega, fun H1 r k1 hh1 hr => ?_⟩
    refine ⟨rfl, ?_⟩
    by_cases e0 : r = 0
    · subst e0
      refine ⟨true, rfl, iteT ?_⟩
      refine ⟨sz_ok (by simp), fun p1 hp1 => ?_⟩
      exact q _ p1 [] (k1.snew hp1) (hh1.off hp1) (k1.free hp1) upd_same .nil (fun _ h => nomatch h)
    · refine ⟨false, ?_, iteF ?_⟩
      · show V.bl (decide (ni _ = V.int 0)) = V.bl false
        rw [decide_eq_false (fun z => e0 (by injection z with z; omega))]
      refine ⟨_, rfl, n, rfl, by omega, by omega, fun D hD => ?_⟩
      refine lc_it walk_range0 (fun i H2 => ∃ rs : List Nat, Kp T [hd] H1 H2 ∧ Hand H2 hd ∧ H2 D = some (.lst (rs.map ni)) ∧ i ≤ n ∧ rs.length ≤ i ∧ rs.Pairwise (· < ·) ∧ ∀ r ∈ rs, r < i) ⟨[], Kp.new hD, hh1.off hD, upd_same, Nat.zero_le _, Nat.zero_le _, .nil, fun _ h => nomatch h⟩ (fun _ _ _ _ => trivial) (fun i x H2 H3 hi h2 y => ?_) (fun H2 h2 => ?_)
      · obtain ⟨rs, k2, hh2, eD, hi', hl, hpw, hlt⟩ := h2
        obtain ⟨rfl, rfl⟩ := y
        refine ⟨rfl, ?_⟩
        have nD : H1 D = none := hD
        refine ⟨_, rfl, hd, 3, rfl, hh2, by omega, by omega, fun H4 z k4 hh4 hz => ?_⟩
        refine ⟨rfl, ?_⟩
        have eD4 := k4.getX eD (hh1.ne hD)
        have hi2 : i < n := by omega
        by_cases e1 : z = 0
        · subst e1
          refine ⟨true, rfl, iteT ?_⟩
          refine ⟨_, rfl, ?_⟩
          refine ⟨_, eD4, by rw [List.length_map]; exact sz_lt (by omega), rs ++ [i], (k2.trans k4).mut (.inl hD) eD4, hh4.set (hh1.neq hD), by rw [upd_same, List.map_append]; rfl, hi2, by rw [List.length_append]; show _ + 1 ≤ _; omega, ?_, fun r hr => ?_⟩
          · rw [List.pairwise_append]
            exact ⟨hpw, List.pairwise_singleton _ _, fun a ha b hb => by rw [List.mem_singleton.mp hb]; exact hlt a ha⟩
          · rcases List.mem_append.mp hr with h | h
            · exact Nat.lt_succ_of_lt (hlt r h)
            · rw [List.mem_singleton.mp h]
              exact Nat.lt_succ_self _
        · refine ⟨false, ?_, iteF ?_⟩
          · show V.bl (decide (ni _ = V.int 0)) = V.bl false
            rw [decide_eq_false (fun z => e1 (by injection z with z; omega))]
          exact ⟨rs, k2.trans k4, hh4, eD4, hi2, by omega, hpw, fun r hr => Nat.lt_succ_of_lt (hlt r hr)⟩
      · obtain ⟨rs, k2, hh2, eD, hi', hl, hpw, hlt⟩ := h2
        rw [Int.toNat_natCast] at hlt
        refine ⟨_, rfl, ?_⟩
        cases rs with
        | nil =>
          refine ⟨false, .inl ⟨[], SqL.of eD, rfl⟩, iteF ?_⟩
          refine ⟨_, rfl, _, rfl, hd, n, rfl, hh2, hn, by omega, fun H4 z k4 hh4 hz => ?_⟩
          refine ⟨sz_ok (by simp), fun p4 hp4 => ?_⟩
          exact q _ p4 [z] (((k1.trans k2).trans k4).snew hp4) (hh4.off hp4) (((k1.trans k2).trans k4).free hp4) upd_same (List.pairwise_singleton _ _) (fun r hr => by rw [List.mem_singleton.mp hr]; exact hz)
        | cons a rs =>
          refine ⟨true, .inl ⟨_, SqL.of eD, rfl⟩, iteT ?_⟩
          exact q H2 D (a :: rs) (k1.trans k2) hh2 (k1.free hD) eD hpw hlt
end
end K51
/-! the law's own defs: words, machines -/
namespace K51
open PySem PySem.Spec PyProof.Rows L2 NdefX LamX
theorem hu65 {A : Around} {k : Nat} (hr : Room k A) : A.units + 65 < cLine := by
  have := hr.un
  omega
/-! ### flat tuples as data -/
def Leaf (d : PyData) : Prop := d.canLay0 = true ∧ d.depth = 0
theorem leaf_int (i : Int) : Leaf (.int i) := ⟨by simp [PyData.canLay0], by simp [PyData.depth]⟩
theorem leaf_str {z : Str} (h : PyData.strOk z = true) : Leaf (.str z) := ⟨by simp only [PyData.canLay0]; exact h, by simp [PyData.depth]⟩
theorem one_ok {c : Nat} (h : Let c) : PyData.strOk (one c) = true := by
  have := h.2
  unfold PyData.strOk one
  simp
  omega
theorem leaf_bool (b : Bool) : Leaf (.bool b) := ⟨by simp [PyData.canLay0], by simp [PyData.depth]⟩
theorem lays_of : ∀ {ds : List PyData}, (∀ d ∈ ds, d.canLay0 = true) → PyData.canLayAll0 ds = true
  | [], _ => by simp [PyData.canLayAll0]
  | d :: ds, h => by
    simp only [PyData.canLayAll0, Bool.and_eq_true]
    exact ⟨h d List.mem_cons_self, lays_of fun x hx => h x (List.mem_cons_of_mem _ hx)⟩
theorem depths_of {n : Nat} : ∀ {ds : List PyData}, (∀ d ∈ ds, d.depth ≤ n) → PyData.depthAll ds ≤ n
  | [], _ => by simp [PyData.depthAll]
  | d :: ds, h => by
    have h1 := h d List.mem_cons_self
    have h2 := depths_of fun x hx => h x (List.mem_cons_of_mem d hx)
    simp only [PyData.depthAll]
    omega
/-- a flat tuple -/
structure Flat1 (d : PyData) : Prop where
  lay : d.canLay0 = true
  dep : d.depth ≤ 1
theorem flat1_of {ds : List PyData} (h : ∀ d ∈ ds, Leaf d) : Flat1 (.tuple ds) := by
  refine ⟨?_, ?_⟩
  · simp only [PyData.canLay0]
    exact lays_of fun d hd => (h d hd).1
  · have := depths_of (n := 0) fun d hd => Nat.le_of_eq (h d hd).2
    simp only [PyData.depth]
    omega
theorem flat1_leaf {d : PyData} (h : Leaf d) : Flat1 d := ⟨h.1, by rw [h.2]; omega⟩
theorem Flat1.shaped {d : PyData} (h : Flat1 d) : SeqAt.shaped d = true := by
  have h2 := h.dep
  show (d.canLay0 && decide (d.depth ≤ 64)) = true
  rw [Bool.and_eq_true]
  exact ⟨h.lay, decide_eq_true (by omega)⟩
theorem flats_shaped {ds : List PyData} (h : ∀ d ∈ ds, Flat1 d) : SeqAt.shaped (.list ds) = true := by
  have h1 := depths_of (n := 1) fun d hd => (h d hd).dep
  have h2 : PyData.depth (.list ds) ≤ 64 := by
    simp only [PyData.depth]
    omega
  show (PyData.canLay0 (.list ds) && decide (PyData.depth (.list ds) ≤ 64)) = true
  rw [Bool.and_eq_true]
  exact ⟨by simp only [PyData.canLay0]; exact lays_of fun d hd => (h d hd).lay, decide_eq_true h2⟩
/-- a step as data -/
def stD (s : Step) : PyData := .tuple [.int (s.1 : Int), .str (one s.2.1), .int (s.2.2 : Int)]
theorem stD_flat {s : Step} (h : Let s.2.1) : Flat1 (stD s) := flat1_of fun d hd => by
  simp only [List.mem_cons, List.not_mem_nil, or_false] at hd
  rcases hd with rfl | rfl | rfl
  · exact leaf_int _
  · exact leaf_str (one_ok h)
  · exact leaf_int _
theorem stD_eqv (s t : Step) : PyData.eqv (stD s) (stD t) = decide (s = t) := by
  obtain ⟨a, b, c⟩ := s
  obtain ⟨a', b', c'⟩ := t
  have e : PyData.eqv (stD (a, b, c)) (stD (a', b', c')) = (((a : Int) == (a' : Int)) && ((one b == one b') && (((c : Int) == (c' : Int)) && true))) := by simp only [stD, PyData.eqv, PyData.eqvAll]
  rw [e]
  by_cases h : ((a, b, c) : Step) = (a', b', c')
  · cases h
    simp
  · rw [decide_eq_false h]
    by_cases h1 : a = a'
    · by_cases h2 : b = b'
      · by_cases h3 : c = c'
        · exact absurd (by rw [h1, h2, h3]) h
        · have q : ((c : Int) == (c' : Int)) = false := beq_eq_false_iff_ne.mpr (by omega)
          rw [q, Bool.false_and, Bool.and_false, Bool.and_false]
      · have q : (one b == one b') = false := beq_eq_false_iff_ne.mpr (fun z => h2 (one_inj z))
        rw [q, Bool.false_and, Bool.and_false]
    · have q : ((a : Int) == (a' : Int)) = false := beq_eq_false_iff_ne.mpr (by omega)
      rw [q, Bool.false_and]
theorem stD_at {K : PySem.W.Frag} {H : Hp} {t : Addr} {s : Step} (h : H t = some (.tup (stepV s))) : Dp K H (.ref t) (stD s) :=
  .tup (SqT.of h) (.cons (.int _) (.cons (.str _) (.cons (.int _) .nil)))
theorem stDs_at {K : PySem.W.Frag} {H : Hp} {ts : List Addr} {S : List Step} (h : StepsAt H ts S) : DpAll K H (ts.map V.ref) (S.map stD) := by
  unfold StepsAt at h
  induction h with
  | nil => exact .nil
  | cons q r ih => exact .cons (stD_at q) ih
theorem any_stD (S : List Step) (s : Step) : ((S.map stD).any fun z => PyData.eqv z (stD s)) = decide (s ∈ S) := by
  rw [List.any_map]
  have e : ((fun z => PyData.eqv z (stD s)) ∘ stD) = fun t => decide (t = s) := funext fun t => stD_eqv t s
  rw [e]
  by_cases h : s ∈ S
  · rw [decide_eq_true h, List.any_eq_true]
    exact ⟨s, h, decide_eq_true rfl⟩
  · rw [decide_eq_false h, List.any_eq_false]
    intro x hx
    rw [decide_eq_true_iff]
    intro e
    exact h (e ▸ hx)
/-! ### a word -/
theorem len_ones : ∀ us : List Nat, ((us.map fun c => tx [c]).map fun z => z.length).sum = us.length
  | [] => rfl
  | c :: us => by
    rw [List.map_cons, List.map_cons, List.sum_cons, len_ones us, tx_len]
    have h1 : (c :: us).length = us.length + 1 := rfl
    have h2 : [c].length = 1 := rfl
    omega
theorem flat_one : ∀ us : List Nat, (us.map fun c => [c]).flatten = us
  | [] => rfl
  | c :: us => by
    show [c] ++ (us.map fun c => [c]).flatten = _
    rw [flat_one us]
    rfl
theorem join_tx (us : List (List Nat)) : PySem.Txt.join (tx []) (us.map tx) = tx us.flatten := by
  rw [TL.join_eq]
  induction us with
  | nil => rfl
  | cons u us ih =>
    cases us with
    | nil =>
      show tx u = tx ([u].flatten)
      simp
    | cons v us =>
      show tx u ++ tx [] ++ Str.join (tx []) ((v :: us).map tx) = _
      rw [ih, tx_app, tx_app, List.append_nil]
      rfl
section
variable {P : Program} {w : World} {K : PySem.W.Frag} {mg : Str → Option Value} {base : Heap} {T : List NTab}
theorem letter_at {u : List Nat} {r : Nat} (h : r < u.length) : atI (tx u).cps.toList ((r : Nat) : Int) = some u[r] := by
  have e : (tx u).cps.toList = u := tx_cps u
  unfold atI ixN
  rw [e, if_pos (by omega), if_pos (by omega)]
  show u[((r : Nat) : Int).toNat]? = _
  rw [Int.toNat_natCast, List.getElem?_eq_getElem h]
def sp_word (T : List NTab) : Sp := fun vs H Q _ => ∃ (hd : Addr) (L : List Nat) (n : Nat), vs = [.ref hd, wd L, ni n] ∧ Hand H hd ∧ Alph L ∧ n ≤ 10 ∧ ∀ H' u, Kp T [hd] H H' → Hand H' hd → u.length ≤ n → (∀ c ∈ u, c ∈ L) → Q (wd u) H'
theorem ok_law_word (F : Fn K mg "_law_word" s__law_word) (Tx : Txt mg) (D__law_draw : DOk P w K mg base "_law_draw" 1 ["_law_hand_here", "_law_size"] [] (sp_draw T)) : DOk P w K mg base "_law_word" 2 ["_law_hand_here", "_law_letters_here", "_law_upto"] [] (sp_word T) := by
  refine F.dok sc__law_word b__law_word (fun vs H Q E h => ?_) (fun f cdv A outer s H vs Q E hr h => ?_)
  · obtain ⟨hd, L, n, rfl, _⟩ := h
    rfl
  · obtain ⟨hd, L, n, rfl, hh, hL, hn, q⟩ := h
    refine ⟨_, (pss_one (ps_ret (pe_join pe_str (pe_lc (own := [("_law_k", 3)]) (g := gName 3) (tt := tYes) (by rfl) sc__law_word.nd (pi_range1 (by rfl) Tx.n_range (pa_cons (pe_d D__law_draw hr (by rfl) (pa_cons (pv 0) (pa_cons (pe_op op_add (pv 2) pe_int) pa_nil))) pa_nil)) (blkOk_by (N := ["_law_hand_here", "_law_letters_here", "_law_upto", "_law_k"]) (sc := (defScope s__law_word)) (own := [("_law_k", 3)]) (by decide +kernel)) (fun _ _ _ _ _ => (pg_name (i := 3) sc__law_word.nd rfl (by first | exact .inl rfl | exact .inr rfl))) (fun _ _ _ _ _ => pts_nil) (fun _ _ _ _ _ => (pe_ix ix_str (pv 1) (pe_d D__law_draw hr (by rfl) (pa_cons (pv 0) (pa_cons (pe_callB call_len_str (by rfl) Tx.n_len (by decide +kernel) (pa_cons (pv 1) pa_nil)) pa_nil))) (fun _ _ => rfl))))))), ?_⟩
    refine ⟨⟨_, rfl⟩, _, rfl, _, rfl, _, _, rfl, rfl, hd, n + 1, rfl, hh, by omega, by omega, fun H1 r k1 hh1 hr => ?_⟩
    refine ⟨r, rfl, by omega, by omega, fun D hD => ?_⟩
    refine lc_it walk_range0 (fun i H2 => ∃ us : List Nat, Kp T [hd] H1 H2 ∧ Hand H2 hd ∧ H2 D = some (.lst (us.map sg)) ∧ us.length = i ∧ ∀ c ∈ us, c ∈ L) ⟨[], Kp.new hD, hh1.off hD, upd_same, rfl, fun _ h => nomatch h⟩ (fun _ _ _ _ => trivial) (fun i x H2 H3 hi h2 y => ?_) (fun H2 h2 => ?_)
    · obtain ⟨us, k2, hh2, eD, hl, hm⟩ := h2
      obtain ⟨rfl, rfl⟩ := y
      refine ⟨rfl, ?_⟩
      refine ⟨_, rfl, _, rfl, _, rfl, _, rfl, (by rw [tx_len]; exact sz_ok (by have := hL.hi; omega)), hd, L.length, by rw [tx_len]; rfl, hh2, hL.lo, by have := hL.hi; omega, fun H4 z k4 hh4 hz => ?_⟩
      have eD4 := k4.getX eD (hh1.ne hD)
      refine ⟨_, _, _, rfl, rfl, (by rw [tx_len]; exact sz_ok (by have := hL.hi; omega)), letter_at hz, ?_⟩
      refine ⟨_, eD4, by rw [List.length_map]; exact sz_lt (by omega), us ++ [L[z]], (k2.trans k4).mut (.inl hD) eD4, hh4.set (hh1.neq hD), by rw [upd_same, List.map_append]; rfl, by rw [List.length_append]; show _ + 1 = _; omega, fun c hc => ?_⟩
      rcases List.mem_append.mp hc with h | h
      · exact hm c h
      · rw [List.mem_singleton.mp h]
        exact List.getElem_mem hz
    · obtain ⟨us, k2, hh2, eD, hl, hm⟩ := h2
      rw [Int.toNat_natCast] at hl
      refine ⟨tx [], D, us.map fun c => tx [c], rfl, rfl, .inl ?_, ?_, ?_⟩
      · rw [List.map_map]
        exact SqL.of eD
      · have e2 : ((us.map fun c => tx [c]).map fun z => z.length).sum = us.length := len_ones us
        show (((us.map fun c => tx [c]).map fun z => z.length).sum) + _ * (tx []).length ≤ _
        rw [e2, tx_len, List.length_nil, Nat.mul_zero]
        omega
      · have e : (us.map fun c => tx [c]) = (us.map fun c => [c]).map tx := by rw [List.map_map]; rfl
        rw [e, join_tx, flat_one]
        exact q H2 us (k1.trans k2) hh2 (by omega) hm
end
end K51
/-! the law's own defs: machines -/
namespace K51
open PySem PySem.Spec PyProof.Rows L2 NdefX LamX
section
variable {P : Program} {w : World} {K : PySem.W.Frag} {mg : Str → Option Value} {base : Heap} {T : List NTab}
theorem StepsAt.set {H : Hp} {p : Addr} {o : HO} {xs : List V} {ts : List Addr} {S : List Step} (h : StepsAt H ts S) (e : H p = some (.lst xs)) : StepsAt (upd H p o) ts S := Paired.mapP h fun t s q => by
  rw [upd_ne (fun z => by rw [z, e] at q; cases q)]
  exact q
theorem StepsAt.off {H : Hp} {p : Addr} {o : HO} {ts : List Addr} {S : List Step} (h : StepsAt H ts S) (e : H p = none) : StepsAt (upd H p o) ts S := Paired.mapP h fun t s q => by
  rw [upd_ne (ne_of_none q e)]
  exact q
theorem Hand.lists {H : Hp} {hd : Addr} (h : Hand H hd) : ∀ b ∈ [hd], ∃ xs, H b = some (.lst xs) := fun b hb => by
  obtain ⟨a, c, e, _⟩ := h
  exact ⟨_, by rw [List.mem_singleton.mp hb]; exact e⟩
theorem Kp.drop {ex ex' : List Addr} {H H1 H2 : Hp} (a : Kp T ex H H1) (b : Kp T ex' H1 H2) (h : ∀ x ∈ ex', x ∈ ex ∨ H x = none) : Kp T ex H H2 :=
  ⟨fun c o e n x => b.keep c o (a.keep c o e n x) n (fun z => (h c z).elim x fun q => absurd (e.symm.trans q) (by simp)), fun c e => a.back c (b.back c e), fun t => b.tab (a.tab t)⟩
def sp_machine (T : List NTab) : Sp := fun vs H Q _ => ∃ (hd : Addr) (n e : Nat) (L : List Nat), vs = [.ref hd, ni n, ni e, wd L] ∧ Hand H hd ∧ Alph L ∧ 1 ≤ n ∧ n ≤ 5 ∧ e ≤ 20 ∧ ∀ H' m M, Kp T [hd] H H' → Hand H' hd → MAt [hd] H' m M → M.Ok → M.n ≤ 5 → Q (.ref m) H'
theorem ok_law_machine (F : Fn K mg "_law_machine" s__law_machine) (Tx : Txt mg) (D__law_draw : DOk P w K mg base "_law_draw" 1 ["_law_hand_here", "_law_size"] [] (sp_draw T)) (D__law_rooms : DOk P w K mg base "_law_rooms" 2 ["_law_hand_here", "_law_size"] [] (sp_rooms T)) :
    DOk P w K mg base "_law_machine" 3 ["_law_hand_here", "_law_upto", "_law_extra", "_law_letters_here"] [] (sp_machine T) := by
  refine F.dok sc__law_machine b__law_machine (fun vs H Q E h => ?_) (fun f cdv A outer s H vs Q E hr h => ?_)
  · obtain ⟨hd, n, e, L, rfl, _⟩ := h
    rfl
  · obtain ⟨hd, n, e, L, rfl, hh, hL, hn, hn2, he, q⟩ := h
    have hLhi := hL.hi
    refine ⟨_, (pss_cons (ps_set (i := 4) sc__law_machine.nd rfl (by first | exact .inl rfl | exact .inr rfl) (pe_op op_add pe_int (pe_d D__law_draw hr (by rfl) (pa_cons (pv 0) (pa_cons (pv 1) pa_nil)))))
      (pss_cons (ps_set (i := 5) sc__law_machine.nd rfl (by first | exact .inl rfl | exact .inr rfl) (pe_d D__law_rooms hr (by rfl) (pa_cons (pv 0) (pa_cons (pv 4) pa_nil))))
      (pss_cons (ps_set (i := 6) sc__law_machine.nd rfl (by first | exact .inl rfl | exact .inr rfl) (pe_d D__law_rooms hr (by rfl) (pa_cons (pv 0) (pa_cons (pv 4) pa_nil))))
      (pss_cons (ps_set (i := 7) sc__law_machine.nd rfl (by first | exact .inl rfl | exact .inr rfl) (pe_lst pa_nil))
      (pss_cons (ps_for PassesOwn.never rfl (pi_range1 (by rfl) Tx.n_range (pa_cons (pe_d D__law_draw hr (by rfl) (pa_cons (pv 0) (pa_cons (pe_op op_add (pv 4) (pv 2)) pa_nil))) pa_nil)) (pg_name (i := 8) sc__law_machine.nd rfl (by first | exact .inl rfl | exact .inr rfl))
      (pss_cons (ps_set (i := 9) sc__law_machine.nd rfl (by first | exact .inl rfl | exact .inr rfl) (pe_tup (pa_cons (pe_d D__law_draw hr (by rfl) (pa_cons (pv 0) (pa_cons (pv 4) pa_nil))) (pa_cons (pe_ix ix_str (pv 3) (pe_d D__law_draw hr (by rfl) (pa_cons (pv 0) (pa_cons (pe_callB call_len_str (by rfl) Tx.n_len (by decide +kernel) (pa_cons (pv 3) pa_nil)) pa_nil))) (fun _ _ => rfl)) (pa_cons (pe_d D__law_draw hr (by rfl) (pa_cons (pv 0) (pa_cons (pv 4) pa_nil))) pa_nil)))))
      (pss_one (ps_if (pt_cmpR (op_notInD (hu65 hr)) (pv 9) (pv 7) (by rfl))
      (pss_one (ps_expr (pe_bm PySem.F.plainAttrs_list PySem.F.slot_list_append PySem.F.type_list_append mt_append (pv 7) (pa_cons (pv 9) pa_nil)))) pss_nil))))
      (pss_one (ps_ret (pe_tup (pa_cons (pv 4) (pa_cons (pv 5) (pa_cons (pv 6) (pa_cons (pv 7) pa_nil)))))))))))), ?_⟩
    refine ⟨_, rfl, _, rfl, hd, n, rfl, hh, by omega, by omega, fun H1 r k1 hh1 hr => ?_⟩
    refine ⟨1, (r : Int), rfl, rfl, ?_⟩
    have er : (1 : Int) + (r : Int) = ((r + 1 : Nat) : Int) := by omega
    refine ⟨_, rfl, _, rfl, hd, r + 1, (by show [V.ref hd, V.int (1 + (r : Int))] = _; rw [er]), hh1, by omega, by omega, fun H2 pf fs k2 hh2 nf ef fpw flt => ?_⟩
    refine ⟨_, rfl, _, rfl, hd, r + 1, (by show [V.ref hd, V.int (1 + (r : Int))] = _; rw [er]), hh2, by omega, by omega, fun H3 pl ls k3 hh3 nl el lpw llt => ?_⟩
    refine ⟨sz_ok (by simp), fun ps hps => ?_⟩
    have hh4 := hh3.off (o := .lst []) hps
    have n1 := hh1.ne nf
    have n2 := hh2.ne nl
    have n3 := hh3.ne hps
    have k4 : Kp T [hd] H3 (upd H3 ps (.lst [])) := Kp.new hps
    have ef3 := k4.getX (k3.getX ef n1) n1
    have el3 := k4.getX el n2
    have es3 : upd H3 ps (.lst []) ps = some (.lst []) := upd_same
    have kk := ((k1.trans k2).trans k3).trans k4
    have nps : H ps = none := ((k1.trans k2).trans k3).free hps
    have nfps : pf ≠ ps := ne_of_none (k3.getX ef n1) hps
    have nlps : pl ≠ ps := ne_of_none el hps
    generalize upd H3 ps (.lst []) = H4 at *
    refine ⟨_, rfl, _, rfl, _, rfl, _, _, rfl, rfl, hd, r + 1 + e, (by show [V.ref hd, V.int (1 + (r : Int) + (e : Int))] = [V.ref hd, V.int ((r + 1 + e : Nat) : Int)]; rw [er, Int.natCast_add (r + 1)]), hh4, by omega, by omega, fun H5 z k5 hh5 hz => ?_⟩
    refine ⟨z, rfl, by omega, by omega, ?_⟩
    refine for_it walk_range0 (fun i σ H6 => ∃ (ts : List Addr) (S : List Step) (y8 y9 : Option V), σ = [some (.ref hd), some (ni n), some (ni e), some (wd L), some (.int (1 + (r : Int))), some (.ref pf), some (.ref pl), some (.ref ps), y8, y9] ∧ Kp T [hd, ps] H4 H6 ∧ Hand H6 hd ∧ H6 ps = some (.lst (ts.map V.ref)) ∧ StepsAt H6 ts S ∧ S.length ≤ i ∧ S.Nodup ∧ Below (r + 1) S ∧ ∀ s ∈ S, Let s.2.1) ⟨[], [], _, _, rfl, k5.wide (by simp), hh5, k5.getX es3 n3, .nil, Nat.zero_le _, List.nodup_nil, (fun _ h => nomatch h), (fun _ h => nomatch h)⟩ (fun _ _ _ _ _ => trivial) (fun i x σ H6 H7 hi h1 y => ?_) (fun σ H6 h1 => ?_)
    · obtain ⟨ts, S, y8, y9, rfl, k6, hh6, eps, hS, hlen, hnd, hbel, hlet⟩ := h1
      obtain ⟨rfl, rfl⟩ := y
      have hdps : hd ≠ ps := fun z => n3 (List.mem_singleton.mpr z.symm)
      refine ⟨_, rfl, _, rfl, hd, r + 1, (by show [V.ref hd, V.int (1 + (r : Int))] = _; rw [er]), hh6, by omega, by omega, fun H8 a k8 hh8 ha => ?_⟩
      refine ⟨_, rfl, _, rfl, _, rfl, _, rfl, (by rw [tx_len]; exact sz_ok (by omega)), hd, L.length, by rw [tx_len]; rfl, hh8, hL.lo, by omega, fun H9 z k9 hh9 hz => ?_⟩
      refine ⟨_, _, _, rfl, rfl, (by rw [tx_len]; exact sz_ok (by omega)), letter_at hz, ?_⟩
      refine ⟨_, rfl, _, rfl, hd, r + 1, (by show [V.ref hd, V.int (1 + (r : Int))] = _; rw [er]), hh9, by omega, by omega, fun H10 b k10 hh10 hb => ?_⟩
      refine ⟨sz_ok (by simp), fun p hp => ?_⟩
      have k89 := (k8.trans k9).trans k10
      have kA : Kp T [hd] H7 (upd H10 p (.tup (stepV (a, L[z], b)))) := k89.snew hp
      have epsA := kA.getX eps n3
      have hSA := hS.kp kA hh6.lists
      have hhA := hh10.off (o := .tup (stepV (a, L[z], b))) hp
      have eP : upd H10 p (.tup (stepV (a, L[z], b))) p = some (.tup (stepV (a, L[z], b))) := upd_same
      have k6A := k6.trans (kA.wide (ex' := [hd, ps]) (by simp))
      show _
      have hlc : Let L[z] := hL.let' _ (List.getElem_mem hz)
      refine ⟨_, rfl, _, rfl, stD (a, L[z], b), S.map stD, stD_at eP, .lst (SqL.of epsA) (stDs_at hSA), (stD_flat hlc).shaped, flats_shaped (fun d hd => ?_), ?_⟩
      · obtain ⟨s', hs', e⟩ := List.mem_map.mp hd
        rw [← e]
        exact stD_flat (hlet s' hs')
      rw [any_stD]
      by_cases hin : ((a, L[z], b) : Step) ∈ S
      · refine ⟨false, by rw [decide_eq_true hin]; rfl, iteF ?_⟩
        exact ⟨ts, S, _, _, rfl, k6A, hhA, epsA, hSA, by omega, hnd, hbel, hlet⟩
      · refine ⟨true, by rw [decide_eq_false hin]; rfl, iteT ?_⟩
        refine ⟨_, rfl, .inl ⟨rfl, _, SqL.of epsA⟩, _, rfl, ps, _, _, rfl, rfl, epsA, ?_, ?_⟩
        · rw [List.length_map, hSA.len]
          exact sz_lt (by omega)
        refine ⟨ts ++ [p], S ++ [(a, L[z], b)], _, _, rfl, k6A.mut (.inr (by simp)) epsA, hhA.set (Ne.symm hdps), by rw [upd_same, List.map_append]; rfl, Paired.snoc (hSA.set epsA) (by rw [upd_ne (ne_of eP epsA (by intro z; cases z))]; exact eP), by rw [List.length_append]; show _ + 1 ≤ _; omega, ?_, fun s' hs' => ?_, fun s' hs' => ?_⟩
        · rw [List.nodup_append]
          refine ⟨hnd, by simp, fun x hx y hy => ?_⟩
          rw [List.mem_singleton.mp hy]
          exact fun e => hin (e ▸ hx)
        · rcases List.mem_append.mp hs' with h | h
          · exact hbel s' h
          · rw [List.mem_singleton.mp h]
            exact ⟨ha, hb⟩
        · rcases List.mem_append.mp hs' with h | h
          · exact hlet s' h
          · rw [List.mem_singleton.mp h]
            exact hlc
    · obtain ⟨ts, S, y8, y9, rfl, k6, hh6, eps, hS, hlen, hnd, hbel, hlet⟩ := h1
      rw [Int.toNat_natCast] at hlen
      refine ⟨_, rfl, _, rfl, _, rfl, _, rfl, sz_ok (by simp), fun p hp => ?_⟩
      have kF : Kp T [hd] H H6 := kk.drop k6 fun x hx => by
        rcases List.mem_cons.mp hx with h | h
        · exact .inl (List.mem_singleton.mpr h)
        · exact .inr (by rw [List.mem_singleton.mp h]; exact nps)
      have ef6 := k6.getX ef3 (fun z => by
        rcases List.mem_cons.mp z with h | h
        · exact n1 (List.mem_singleton.mpr h)
        · exact nfps (List.mem_singleton.mp h))
      have el6 := k6.getX el3 (fun z => by
        rcases List.mem_cons.mp z with h | h
        · exact n2 (List.mem_singleton.mpr h)
        · exact nlps (List.mem_singleton.mp h))
      refine q _ p ⟨r + 1, fs, ls, S⟩ (kF.snew hp) (hh6.off hp) ⟨pf, pl, ps, ts, ?_, ?_, ?_, ?_, hS.off hp, n1, n2, n3⟩ ⟨by show 1 ≤ r + 1; omega, by show r + 1 ≤ 12; omega, fpw, flt, lpw, llt, by show S.length ≤ 200; omega, hnd, hbel, hlet⟩ (by show r + 1 ≤ 5; omega)
      · rw [upd_same]
        show some (HO.tup [V.int (1 + (r : Int)), _, _, _]) = _
        rw [er]
      · rw [upd_ne (ne_of_none ef6 hp)]
        exact ef6
      · rw [upd_ne (ne_of_none el6 hp)]
        exact el6
      · rw [upd_ne (ne_of_none eps hp)]
        exact eps
end
end K51
/-! the law's own defs: a line of rooms -/
namespace K51
open PySem PySem.Spec PyProof.Rows L2 NdefX LamX
theorem slice_tx (u : List Nat) (k : Nat) : Txt.slice (tx u) none (some (k : Int)) = tx (u.take k) := by
  have e := SX.slice_to (a := u) (i := (k : Int)) (by omega)
  rw [Int.toNat_natCast] at e
  exact e
theorem paired_ins {α β : Type} {R : α → β → Prop} {p : α} {s : β} {ts : List α} {S : List β} (h : Paired R ts S) (hp : R p s) : ∀ j : Nat, Paired R (ts.take j ++ [p] ++ ts.drop j) (S.take j ++ [s] ++ S.drop j) := by
  induction h with
  | nil =>
    intro j
    rw [List.take_nil, List.drop_nil, List.take_nil, List.drop_nil]
    exact .cons hp .nil
  | @cons a b ts S q r ih =>
    intro j
    cases j with
    | zero => exact .cons hp (.cons q r)
    | succ j => exact .cons q (ih j)
theorem map_ins {α β : Type} (f : α → β) (ts : List α) (p : α) (j : Nat) : (ts.map f).take j ++ [f p] ++ (ts.map f).drop j = (ts.take j ++ [p] ++ ts.drop j).map f := by
  rw [List.map_append, List.map_append, List.map_take, List.map_drop]
  rfl
theorem mem_ins {α : Type} {S : List α} {s x : α} {j : Nat} : x ∈ S.take j ++ [s] ++ S.drop j ↔ x = s ∨ x ∈ S := by
  have e : x ∈ S ↔ x ∈ S.take j ∨ x ∈ S.drop j := by
    rw [← List.mem_append, List.take_append_drop]
  rw [List.mem_append, List.mem_append, List.mem_singleton, e]
  constructor
  · rintro ((h | h) | h)
    · exact .inr (.inl h)
    · exact .inl h
    · exact .inr (.inr h)
  · rintro (h | h | h)
    · exact .inl (.inr h)
    · exact .inl (.inl h)
    · exact .inr h
theorem nodup_ins {α : Type} {S : List α} {s : α} {j : Nat} (h : S.Nodup) (n : s ∉ S) : (S.take j ++ [s] ++ S.drop j).Nodup := by
  have p : (S.take j ++ [s] ++ S.drop j).Perm (s :: S) := by
    rw [List.append_assoc]
    refine List.perm_middle.trans ?_
    show (s :: (S.take j ++ S.drop j)).Perm (s :: S)
    rw [List.take_append_drop]
  rw [p.nodup_iff]
  exact List.nodup_cons.mpr ⟨n, h⟩
theorem len_ins {α : Type} {S : List α} {s : α} {j : Nat} : (S.take j ++ [s] ++ S.drop j).length = S.length + 1 := by
  rw [List.length_append, List.length_append, List.length_take, List.length_drop]
  show min _ _ + 1 + _ = _
  omega
section
variable {P : Program} {w : World} {K : PySem.W.Frag} {mg : Str → Option Value} {base : Heap} {T : List NTab}
def sp_line (T : List NTab) : Sp := fun vs H Q _ => ∃ (hd : Addr) (L : List Nat), vs = [.ref hd, wd L] ∧ Hand H hd ∧ Alph L ∧ ∀ H' m M, Kp T [hd] H H' → Hand H' hd → MAt [hd] H' m M → M.Ok → M.n ≤ 5 → Q (.ref m) H'
theorem ok_law_line (F : Fn K mg "_law_line" s__law_line) (Tx : Txt mg) (D__law_draw : DOk P w K mg base "_law_draw" 1 ["_law_hand_here", "_law_size"] [] (sp_draw T)) :
    DOk P w K mg base "_law_line" 2 ["_law_hand_here", "_law_letters_here"] [] (sp_line T) := by
  refine F.dok sc__law_line b__law_line (fun vs H Q E h => ?_) (fun f cdv A outer s H vs Q E hr h => ?_)
  · obtain ⟨hd, L, rfl, _⟩ := h
    rfl
  · obtain ⟨hd, L, rfl, hh, hL, q⟩ := h
    have hLhi := hL.hi
    have hLlo := hL.lo
    refine ⟨_, (pss_cons (ps_set (i := 2) sc__law_line.nd rfl (by first | exact .inl rfl | exact .inr rfl) (pe_op op_add pe_int (pe_d D__law_draw hr (by rfl) (pa_cons (pv 0) (pa_cons pe_int pa_nil)))))
      (pss_cons (ps_set (i := 3) sc__law_line.nd rfl (by first | exact .inl rfl | exact .inr rfl) (pe_lst pa_nil))
      (pss_cons (ps_for PassesOwn.never rfl (pi_range1 (by rfl) Tx.n_range (pa_cons (pv 2) pa_nil)) (pg_name (i := 4) sc__law_line.nd rfl (by first | exact .inl rfl | exact .inr rfl))
      (pss_cons (ps_for PassesOwn.never rfl (pi_str (pe_slice C8.sl_txt (pv 1) po_none (po_some (pe_op op_add pe_int (pe_d D__law_draw hr (by rfl) (pa_cons (pv 0) (pa_cons (pe_callB call_len_str (by rfl) Tx.n_len (by decide +kernel) (pa_cons (pv 1) pa_nil)) pa_nil))))))) (pg_name (i := 5) sc__law_line.nd rfl (by first | exact .inl rfl | exact .inr rfl))
      (pss_one (ps_expr (pe_bm PySem.F.plainAttrs_list PySem.F.slot_list_append PySem.F.type_list_append mt_append (pv 3) (pa_cons (pe_tup (pa_cons (pv 4) (pa_cons (pv 5) (pa_cons (pv 4) pa_nil)))) pa_nil)))))
      (pss_one (ps_if (pt_cmpR op_lt (pe_op op_add (pv 4) pe_int) (pv 2) (nomark _))
      (pss_one (ps_expr (pe_bm PySem.F.plainAttrs_list PySem.F.slot_list_insert PySem.F.type_list_insert mt_insert (pv 3) (pa_cons (pe_d D__law_draw hr (by rfl) (pa_cons (pv 0) (pa_cons (pe_op op_add (pe_callB call_len_seq (by rfl) Tx.n_len (by decide +kernel) (pa_cons (pv 3) pa_nil)) pe_int) pa_nil))) (pa_cons (pe_tup (pa_cons (pv 4) (pa_cons (pe_ix ix_str (pv 1) (pe_d D__law_draw hr (by rfl) (pa_cons (pv 0) (pa_cons (pe_callB call_len_str (by rfl) Tx.n_len (by decide +kernel) (pa_cons (pv 1) pa_nil)) pa_nil))) (fun _ _ => rfl)) (pa_cons (pe_op op_add (pv 4) pe_int) pa_nil)))) pa_nil))))) pss_nil))))
      (pss_one (ps_ret (pe_tup (pa_cons (pv 2) (pa_cons (pe_lst (pa_cons pe_int pa_nil)) (pa_cons (pe_lst (pa_cons (pe_op op_sub (pv 2) pe_int) pa_nil)) (pa_cons (pv 3) pa_nil)))))))))), ?_⟩
    refine ⟨_, rfl, hd, 4, rfl, hh, by omega, by omega, fun H1 r k1 hh1 hr => ?_⟩
    refine ⟨2, (r : Int), rfl, rfl, ?_⟩
    have er : (2 : Int) + (r : Int) = ((r + 2 : Nat) : Int) := by omega
    refine ⟨sz_ok (by simp), fun ps hps => ?_⟩
    have hh2 := hh1.off (o := .lst []) hps
    have n3 := hh1.ne hps
    have k2 : Kp T [hd] H1 (upd H1 ps (.lst [])) := Kp.new hps
    have es2 : upd H1 ps (.lst []) ps = some (.lst []) := upd_same
    have kk := k1.trans k2
    have nps : H ps = none := k1.free hps
    have hdps : hd ≠ ps := fun z => n3 (List.mem_singleton.mpr z.symm)
    generalize upd H1 ps (.lst []) = H2 at *
    refine ⟨_, rfl, r + 2, (by show [V.int (2 + (r : Int))] = [V.int ((r + 2 : Nat) : Int)]; rw [er]), by omega, by omega, ?_⟩
    refine for_it walk_range0 (fun i σ H6 => ∃ (ts : List Addr) (S : List Step) (y4 y5 : Option V), σ = [some (.ref hd), some (wd L), some (.int (2 + (r : Int))), some (.ref ps), y4, y5] ∧ Kp T [hd, ps] H2 H6 ∧ Hand H6 hd ∧ H6 ps = some (.lst (ts.map V.ref)) ∧ StepsAt H6 ts S ∧ S.length ≤ 4 * i ∧ S.Nodup ∧ Below (r + 2) S ∧ (∀ s ∈ S, s.1 < i) ∧ ∀ s ∈ S, Let s.2.1) ⟨[], [], _, _, rfl, Kp.refl _, hh2, es2, .nil, Nat.zero_le _, List.nodup_nil, (fun _ h => nomatch h), (fun _ h => nomatch h), (fun _ h => nomatch h)⟩ (fun _ _ _ _ _ => trivial) (fun i x σ H6 H7 hi h1 y => ?_) (fun σ H6 h1 => ?_)
    · obtain ⟨ts, S, y4, y5, rfl, k6, hh6, eps, hS, hlen, hnd, hbel, hlti, hlet⟩ := h1
      obtain ⟨rfl, rfl⟩ := y
      have hi2 : i < r + 2 := hi
      refine ⟨_, rfl, _, rfl, _, rfl, _, rfl, (by rw [tx_len]; exact sz_ok (by omega)), hd, L.length, by rw [tx_len]; rfl, hh6, hLlo, by omega, fun H8 a k8 hh8 ha => ?_⟩
      have ea : (1 : Int) + (a : Int) = ((a + 1 : Nat) : Int) := by omega
      refine ⟨1, (a : Int), rfl, rfl, _, rfl, tx L, rfl, (by rw [tx_len]; exact sz_ok (by omega)), tx (L.take (a + 1)), ?_, ?_⟩
      · rw [← slice_tx, ← ea]
      have eps8 := k8.getX eps n3
      have hS8 := hS.kp k8 hh6.lists
      have k68 := k6.trans (k8.wide (ex' := [hd, ps]) (by simp))
      have hlU : (L.take (a + 1)).length ≤ 3 := by rw [List.length_take]; omega
      refine for_it (walk_tx (w := L.take (a + 1))) (fun j σ H9 => ∃ (ts : List Addr) (S : List Step) (y5 : Option V), σ = [some (.ref hd), some (wd L), some (.int (2 + (r : Int))), some (.ref ps), some (ni i), y5] ∧ Kp T [hd, ps] H2 H9 ∧ Hand H9 hd ∧ H9 ps = some (.lst (ts.map V.ref)) ∧ StepsAt H9 ts S ∧ S.length ≤ 4 * i + j ∧ S.Nodup ∧ Below (r + 2) S ∧ (∀ s ∈ S, s.1 < i ∨ (s.1 = i ∧ s.2.2 = i ∧ s.2.1 ∈ (L.take (a + 1)).take j)) ∧ ∀ s ∈ S, Let s.2.1) ⟨ts, S, _, rfl, k68, hh8, eps8, hS8, hlen, hnd, hbel, fun s hs => .inl (hlti s hs), hlet⟩ (fun _ _ _ _ _ => trivial) (fun j x σ H9 H10 hj h1 y => ?_) (fun σ H9 h1 => ?_)
      · obtain ⟨ts, S, y5, rfl, k6, hh6, eps, hS, hlen, hnd, hbel, hlti, hlet⟩ := h1
        obtain ⟨rfl, c, ec, rfl⟩ := y
        have hcL : c ∈ L := List.mem_of_mem_take (List.mem_of_getElem? ec)
        refine ⟨_, rfl, .inl ⟨rfl, _, SqL.of eps⟩, _, rfl, _, rfl, _, rfl, sz_ok (by simp), fun p hp => ?_⟩
        have kA : Kp T [hd] H10 (upd H10 p (.tup (stepV (i, c, i)))) := Kp.new hp
        have epsA := kA.getX eps n3
        have hSA := hS.off (o := .tup (stepV (i, c, i))) hp
        have hhA := hh6.off (o := .tup (stepV (i, c, i))) hp
        have eP : upd H10 p (.tup (stepV (i, c, i))) p = some (.tup (stepV (i, c, i))) := upd_same
        have k6A := k6.trans (kA.wide (ex' := [hd, ps]) (by simp))
        have hj3 : j < 3 := by omega
        have hno : ((i, c, i) : Step) ∉ S := fun z => by
          rcases hlti _ z with h | h
          · exact Nat.lt_irrefl _ h
          · have h3 := h.2.2
            have hnd2 : (L.take (a + 1)).Nodup := hL.nd.sublist (List.take_sublist _ _)
            obtain ⟨l, hl1, hl2⟩ := List.mem_iff_getElem.mp h3
            rw [List.getElem_take] at hl2
            have hl3 : l < j := by
              rw [List.length_take] at hl1
              omega
            obtain ⟨hj1, hj2⟩ := List.getElem?_eq_some_iff.mp ec
            have h4 := List.pairwise_iff_getElem.mp hnd2 l j (by omega) hj1 hl3
            rw [hl2, hj2] at h4
            exact h4 rfl
        refine ⟨ps, _, _, rfl, rfl, epsA, ?_, ts ++ [p], S ++ [(i, c, i)], _, rfl, k6A.mut (.inr (by simp)) epsA, hhA.set (Ne.symm hdps), by rw [upd_same, List.map_append]; rfl, Paired.snoc (hSA.set epsA) (by rw [upd_ne (ne_of eP epsA (by intro z; cases z))]; exact eP), by rw [List.length_append]; show _ + 1 ≤ _; omega, ?_, fun s' hs' => ?_, fun s' hs' => ?_, fun s' hs' => ?_⟩
        · rw [List.length_map, hS.len]
          exact sz_lt (by omega)
        · rw [List.nodup_append]
          refine ⟨hnd, by simp, fun x hx y hy => ?_⟩
          rw [List.mem_singleton.mp hy]
          exact fun e => hno (e ▸ hx)
        · rcases List.mem_append.mp hs' with h | h
          · exact hbel s' h
          · rw [List.mem_singleton.mp h]
            exact ⟨hi2, hi2⟩
        · have ett : (L.take (a + 1)).take (j + 1) = (L.take (a + 1)).take j ++ [c] := by rw [List.take_add_one, ec]; rfl
          rcases List.mem_append.mp hs' with h | h
          · rcases hlti s' h with z | ⟨z1, z2, z3⟩
            · exact .inl z
            · exact .inr ⟨z1, z2, by rw [ett]; exact List.mem_append_left _ z3⟩
          · rw [List.mem_singleton.mp h]
            exact .inr ⟨rfl, rfl, by rw [ett]; exact List.mem_append_right _ List.mem_cons_self⟩
        · rcases List.mem_append.mp hs' with h | h
          · exact hlet s' h
          · rw [List.mem_singleton.mp h]
            exact hL.let' c hcL
      · obtain ⟨ts, S, y5, rfl, k6, hh6, eps, hS, hlen, hnd, hbel, hlti, hlet⟩ := h1
        have hlti2 : ∀ s ∈ S, s.1 < i + 1 := fun s' hs' => by
          rcases hlti s' hs' with h | h
          · omega
          · omega
        refine ⟨_, rfl, _, _, rfl, rfl, _, rfl, _, _, rfl, rfl, ?_⟩
        by_cases hlast : i + 1 < r + 2
        · refine ⟨true, ?_, iteT ?_⟩
          · show V.bl (decide ((i : Int) + 1 < 2 + (r : Int))) = V.bl true
            rw [decide_eq_true (by omega)]
          refine ⟨_, rfl, .inl ⟨rfl, _, SqL.of eps⟩, _, rfl, _, rfl, ps, _, rfl, .inl (SqL.of eps), _, _, rfl, rfl, hd, S.length + 1, ?_, hh6, by omega, by omega, fun H11 z k11 hh11 hz => ?_⟩
          · rw [List.length_map, hS.len]
            rfl
          refine ⟨_, rfl, _, rfl, _, rfl, _, rfl, _, rfl, (by rw [tx_len]; exact sz_ok (by omega)), hd, L.length, by rw [tx_len]; rfl, hh11, hLlo, by omega, fun H12 b k12 hh12 hb => ?_⟩
          refine ⟨_, _, _, rfl, rfl, (by rw [tx_len]; exact sz_ok (by omega)), letter_at hb, ?_⟩
          refine ⟨_, rfl, _, _, rfl, rfl, sz_ok (by simp), fun p hp => ?_⟩
          have kA : Kp T [hd] H9 (upd H12 p (.tup (stepV (i, L[b], i + 1)))) := (k11.trans k12).snew hp
          have epsA := kA.getX eps n3
          have hSA := hS.kp kA hh6.lists
          have hhA := hh12.off (o := .tup (stepV (i, L[b], i + 1))) hp
          have eP : upd H12 p (.tup (stepV (i, L[b], i + 1))) p = some (.tup (stepV (i, L[b], i + 1))) := upd_same
          have k6A := k6.trans (kA.wide (ex' := [hd, ps]) (by simp))
          have hno : ((i, L[b], i + 1) : Step) ∉ S := fun z => by
            rcases hlti _ z with h | h
            · exact Nat.lt_irrefl _ h
            · have h3 : i + 1 = i := h.2.1
              omega
          refine ⟨ps, ts.map V.ref, (z : Int), .ref p, rfl, rfl, epsA, ?_, by omega, by omega, ?_⟩
          · rw [List.length_map, hS.len]
            exact sz_lt (by omega)
          rw [Int.toNat_natCast, map_ins]
          refine ⟨ts.take z ++ [p] ++ ts.drop z, S.take z ++ [(i, L[b], i + 1)] ++ S.drop z, _, _, rfl, k6A.mut (.inr (by simp)) epsA, hhA.set (Ne.symm hdps), upd_same, paired_ins (hSA.set epsA) (by rw [upd_ne (ne_of eP epsA (by intro z; cases z))]; exact eP) z, by rw [len_ins]; omega, nodup_ins hnd hno, fun s' hs' => ?_, fun s' hs' => ?_, fun s' hs' => ?_⟩
          · rcases mem_ins.mp hs' with h | h
            · rw [h]
              exact ⟨hi2, hlast⟩
            · exact hbel s' h
          · rcases mem_ins.mp hs' with h | h
            · rw [h]
              exact Nat.lt_succ_self _
            · exact hlti2 s' h
          · rcases mem_ins.mp hs' with h | h
            · rw [h]
              exact hL.let' _ (List.getElem_mem hb)
            · exact hlet s' h
        · refine ⟨false, ?_, iteF ?_⟩
          · show V.bl (decide ((i : Int) + 1 < 2 + (r : Int))) = V.bl false
            rw [decide_eq_false (by omega)]
          exact ⟨ts, S, _, _, rfl, k6, hh6, eps, hS, by omega, hnd, hbel, hlti2, hlet⟩
    · obtain ⟨ts, S, y4, y5, rfl, k6, hh6, eps, hS, hlen, hnd, hbel, hlti, hlet⟩ := h1
      refine ⟨_, rfl, sz_ok (by simp), fun pf hpf => ?_⟩
      refine ⟨_, rfl, _, _, rfl, rfl, sz_ok (by simp), fun pl hpl => ?_⟩
      refine ⟨_, rfl, sz_ok (by simp), fun p hp => ?_⟩
      have hlen2 : S.length ≤ 20 := by omega
      have kF : Kp T [hd] H H6 := kk.drop k6 fun x hx => by
        rcases List.mem_cons.mp hx with h | h
        · exact .inl (List.mem_singleton.mpr h)
        · exact .inr (by rw [List.mem_singleton.mp h]; exact nps)
      have kf := kF.snew (o := .lst [.int 0]) hpf
      have kl := kf.snew (o := .lst [.int (2 + (r : Int) - 1)]) hpl
      have kt := kl.snew (o := .tup [.int (2 + (r : Int)), .ref pf, .ref pl, .ref ps]) hp
      have e1 : (2 : Int) + (r : Int) - 1 = ((r + 1 : Nat) : Int) := by omega
      refine q _ p ⟨r + 2, [0], [r + 1], S⟩ kt (((hh6.off hpf).off hpl).off hp) ⟨pf, pl, ps, ts, ?_, ?_, ?_, ?_, ((hS.off hpf).off hpl).off hp, hh6.ne hpf, (hh6.off hpf).ne hpl, n3⟩ ⟨by show 1 ≤ r + 2; omega, by show r + 2 ≤ 12; omega, List.pairwise_singleton _ _, (fun x hx => by rw [List.mem_singleton.mp hx]; show 0 < r + 2; omega), List.pairwise_singleton _ _, (fun x hx => by rw [List.mem_singleton.mp hx]; show r + 1 < r + 2; omega), by show S.length ≤ 200; omega, hnd, hbel, hlet⟩ (by show r + 2 ≤ 5; omega)
      · rw [upd_same]
        show some (HO.tup [V.int (2 + (r : Int)), _, _, _]) = _
        rw [er]
      · have h1 : upd (upd H6 pf (.lst [.int 0])) pl (.lst [.int (2 + (r : Int) - 1)]) pf = some (.lst [.int 0]) := by rw [upd_ne (ne_of_none upd_same hpl), upd_same]
        rw [upd_ne (ne_of_none h1 hp)]
        exact h1
      · rw [upd_ne (ne_of_none upd_same hp), upd_same]
        show some (HO.lst [V.int (2 + (r : Int) - 1)]) = _
        rw [e1]
        rfl
      · have h1 : upd H6 pf (.lst [.int 0]) ps = some (.lst (ts.map V.ref)) := by rw [upd_ne (ne_of_none eps hpf)]; exact eps
        have h2 : upd (upd H6 pf (.lst [.int 0])) pl (.lst [.int (2 + (r : Int) - 1)]) ps = some (.lst (ts.map V.ref)) := by rw [upd_ne (ne_of_none h1 hpl)]; exact h1
        rw [upd_ne (ne_of_none h2 hp)]
        exact h2
end
end K51
/-! the law's own defs: a drawn pump -/
namespace K51
open PySem PySem.Spec PyProof.Rows L2 NdefX LamX
section
variable {P : Program} {w : World} {K : PySem.W.Frag} {mg : Str → Option Value} {base : Heap} {T : List NTab}
theorem RndsAt.set {H : Hp} {p : Addr} {o : HO} {xs : List V} {ts : List Addr} {S : List (Nat × Nat)} (h : RndsAt H ts S) (e : H p = some (.lst xs)) : RndsAt (upd H p o) ts S := Paired.mapP h fun t s q => by
  rw [upd_ne (fun z => by rw [z, e] at q; cases q)]
  exact q
theorem RndsAt.off {H : Hp} {p : Addr} {o : HO} {ts : List Addr} {S : List (Nat × Nat)} (h : RndsAt H ts S) (e : H p = none) : RndsAt (upd H p o) ts S := Paired.mapP h fun t s q => by
  rw [upd_ne (ne_of_none q e)]
  exact q
def sp_drawn (T : List NTab) : Sp := fun vs H Q _ => ∃ (hd m : Addr) (M : Mac) (L : List Nat), vs = [.ref hd, .ref m, wd L] ∧ Hand H hd ∧ MAt [hd] H m M ∧ M.Ok ∧ Alph L ∧ ∀ H' p u, Kp T [hd] H H' → Hand H' hd → (∀ av : List Addr, (∀ x ∈ av, H x ≠ none) → PAt av H' p u) → u.Form M.n → u.rs.length ≤ 3 → Q (.ref p) H'
theorem ok_law_drawn (F : Fn K mg "_law_drawn" s__law_drawn) (Tx : Txt mg) (D__law_draw : DOk P w K mg base "_law_draw" 1 ["_law_hand_here", "_law_size"] [] (sp_draw T)) (D__law_word : DOk P w K mg base "_law_word" 2 ["_law_hand_here", "_law_letters_here", "_law_upto"] [] (sp_word T)) :
    DOk P w K mg base "_law_drawn" 3 ["_law_hand_here", "_law_machine_here", "_law_letters_here"] [] (sp_drawn T) := by
  refine F.dok sc__law_drawn b__law_drawn (fun vs H Q E h => ?_) (fun f cdv A outer s H vs Q E hr h => ?_)
  · obtain ⟨hd, m, M, L, rfl, _⟩ := h
    rfl
  · obtain ⟨hd, m, M, L, rfl, hh, hM, ok, hL, q⟩ := h
    have hLhi := hL.hi
    have hLlo := hL.lo
    have hnlo := ok.lo
    have hnhi := ok.hi
    refine ⟨_, (pss_cons (ps_set (i := 3) sc__law_drawn.nd rfl (by first | exact .inl rfl | exact .inr rfl) (pe_lst pa_nil))
      (pss_cons (ps_set (i := 4) sc__law_drawn.nd rfl (by first | exact .inl rfl | exact .inr rfl) (pe_lst (pa_cons (pe_d D__law_word hr (by rfl) (pa_cons (pv 0) (pa_cons (pv 2) (pa_cons pe_int pa_nil)))) pa_nil)))
      (pss_cons (ps_for PassesOwn.never rfl (pi_range1 (by rfl) Tx.n_range (pa_cons (pe_op op_add pe_int (pe_d D__law_draw hr (by rfl) (pa_cons (pv 0) (pa_cons pe_int pa_nil)))) pa_nil)) (pg_name (i := 5) sc__law_drawn.nd rfl (by first | exact .inl rfl | exact .inr rfl))
      (pss_cons (ps_expr (pe_bm PySem.F.plainAttrs_list PySem.F.slot_list_append PySem.F.type_list_append mt_append (pv 3) (pa_cons (pe_tup (pa_cons (pe_d D__law_draw hr (by rfl) (pa_cons (pv 0) (pa_cons (pe_ix ix_tup (pv 1) pe_int (fun _ _ => rfl)) pa_nil))) (pa_cons (pe_d D__law_draw hr (by rfl) (pa_cons (pv 0) (pa_cons (pe_ix ix_tup (pv 1) pe_int (fun _ _ => rfl)) pa_nil))) pa_nil))) pa_nil)))
      (pss_one (ps_set (i := 4) sc__law_drawn.nd rfl (by first | exact .inl rfl | exact .inr rfl) (pe_op op_cat (pv 4) (pe_lst (pa_cons (pe_op op_mulS (pe_ix ix_str (pv 2) (pe_d D__law_draw hr (by rfl) (pa_cons (pv 0) (pa_cons (pe_callB call_len_str (by rfl) Tx.n_len (by decide +kernel) (pa_cons (pv 2) pa_nil)) pa_nil))) (fun _ _ => rfl)) (pe_op op_add pe_int (pe_d D__law_draw hr (by rfl) (pa_cons (pv 0) (pa_cons pe_int pa_nil))))) (pa_cons (pe_d D__law_word hr (by rfl) (pa_cons (pv 0) (pa_cons (pv 2) (pa_cons pe_int pa_nil)))) pa_nil))))))))
      (pss_one (ps_ret (pe_tup (pa_cons (pv 4) (pa_cons (pv 3) pa_nil)))))))), ?_⟩
    refine ⟨sz_ok (by simp), fun ps hps => ?_⟩
    have hh1 := hh.off (o := .lst []) hps
    have n1 := hh.ne hps
    have k1 : Kp T [hd] H (upd H ps (.lst [])) := Kp.new hps
    have es1 : upd H ps (.lst []) ps = some (.lst []) := upd_same
    have nps : H ps = none := hps
    have hdps : hd ≠ ps := fun z => n1 (List.mem_singleton.mpr z.symm)
    have hx : ∀ H1, Kp T [hd] H H1 → MAt [hd] H1 m M := fun H1 k => hM.kpX k fun b hb => ⟨hb, hh.lists b hb⟩
    have hx2 : ∀ H1, Kp T [hd, ps] (upd H ps (.lst [])) H1 → MAt [hd] H1 m M := fun H1 k => hx H1 (k1.drop k fun b hb => by
      rcases List.mem_cons.mp hb with h | h
      · exact .inl (List.mem_singleton.mpr h)
      · exact .inr (by rw [List.mem_singleton.mp h]; exact nps))
    generalize upd H ps (.lst []) = H1 at *
    refine ⟨_, rfl, _, rfl, hd, L, 2, rfl, hh1, hL, by omega, fun H2 u k2 hh2 hul hum => ?_⟩
    refine ⟨sz_ok (by simp), fun pt hpt => ?_⟩
    have k3 := k2.snew (o := .lst [wd u]) hpt
    have hh3 := hh2.off (o := .lst [wd u]) hpt
    refine ⟨_, rfl, hd, 3, rfl, hh3, by omega, by omega, fun H4 r k4 hh4 hr => ?_⟩
    have ept : H4 pt = some (.lst ([u].map wd)) := k4.getX upd_same (hh2.ne hpt)
    have k34 := k3.trans k4
    refine ⟨1, (r : Int), rfl, rfl, r + 1, ?_, by omega, by omega, ?_⟩
    · show [V.int (1 + (r : Int))] = [V.int ((r + 1 : Nat) : Int)]
      rw [show (1 : Int) + (r : Int) = ((r + 1 : Nat) : Int) by omega]
    refine for_it walk_range0 (fun i σ H6 => ∃ (pt : Addr) (ws : List (List Nat)) (ts : List Addr) (rs : List (Nat × Nat)) (y5 : Option V), σ = [some (.ref hd), some (.ref m), some (wd L), some (.ref ps), some (.ref pt), y5] ∧ Kp T [hd, ps] H1 H6 ∧ Hand H6 hd ∧ H6 ps = some (.lst (ts.map V.ref)) ∧ RndsAt H6 ts rs ∧ H6 pt = some (.lst (ws.map wd)) ∧ pt ≠ hd ∧ pt ≠ ps ∧ H pt = none ∧ rs.length = i ∧ ws.length = 2 * i + 1 ∧ (∀ t ∈ ws, t.length ≤ 2 ∧ ∀ c ∈ t, Let c) ∧ ∀ x ∈ rs, x.1 < M.n ∧ x.2 < M.n) ⟨pt, [u], [], [], _, rfl, k34.wide (by simp), hh4, k34.getX es1 n1, .nil, ept, hh2.neq hpt, (ne_of_none (k2.getX es1 n1) hpt).symm, k1.free (k2.free hpt), rfl, rfl, (fun t ht => by rw [List.mem_singleton.mp ht]; exact ⟨hul, fun c hc => hL.let' c (hum c hc)⟩), fun _ h => nomatch h⟩ (fun _ _ _ _ _ => trivial) (fun i x σ H6 H7 hi h1 y => ?_) (fun σ H6 h1 => ?_)
    · obtain ⟨pt, ws, ts, rs, y5, rfl, k6, hh6, eps, hS, ept, npt1, npt2, npt3, hrl, hwl, hws, hrs⟩ := h1
      obtain ⟨rfl, rfl⟩ := y
      have hi3 : i < 3 := by omega
      obtain ⟨af, al', as, tss, hm⟩ := hx2 _ k6
      refine ⟨_, rfl, .inl ⟨rfl, _, SqL.of eps⟩, _, rfl, _, rfl, m, _, 0, _, rfl, rfl, SqT.of hm.m, rfl, hd, M.n, rfl, hh6, by omega, by omega, fun H8 a k8 hh8 ha => ?_⟩
      have hm8 := hm.kp k8 (fun b hb => ⟨hb, hh6.lists b hb⟩)
      refine ⟨_, rfl, _, rfl, m, _, 0, _, rfl, rfl, SqT.of hm8.m, rfl, hd, M.n, rfl, hh8, by omega, by omega, fun H9 b k9 hh9 hb => ?_⟩
      refine ⟨sz_ok (by simp), fun p hp => ?_⟩
      have kA : Kp T [hd] H7 (upd H9 p (.tup (rndV (a, b)))) := (k8.trans k9).snew hp
      have epsA := kA.getX eps n1
      have eptA := kA.getX ept (fun z => npt1 (List.mem_singleton.mp z))
      have hSA := hS.kp kA hh6.lists
      have hhA := hh9.off (o := .tup (rndV (a, b))) hp
      have eP : upd H9 p (.tup (rndV (a, b))) p = some (.tup (rndV (a, b))) := upd_same
      have k6A := k6.trans (kA.wide (ex' := [hd, ps]) (by simp))
      refine ⟨ps, _, _, rfl, rfl, epsA, ?_, ?_⟩
      · rw [List.length_map, hSA.len]
        exact sz_lt (by omega)
      have kB := k6A.mut (o := .lst (ts.map V.ref ++ [.ref p])) (.inr (by simp)) epsA
      have hhB := hhA.set (o := .lst (ts.map V.ref ++ [.ref p])) (Ne.symm hdps)
      have epsB : upd (upd H9 p (.tup (rndV (a, b)))) ps (.lst (ts.map V.ref ++ [.ref p])) ps = some (.lst ((ts ++ [p]).map V.ref)) := by rw [upd_same, List.map_append]; rfl
      have eptB : upd (upd H9 p (.tup (rndV (a, b)))) ps (.lst (ts.map V.ref ++ [.ref p])) pt = some (.lst (ws.map wd)) := by rw [upd_ne npt2]; exact eptA
      have hSB : RndsAt (upd (upd H9 p (.tup (rndV (a, b)))) ps (.lst (ts.map V.ref ++ [.ref p]))) (ts ++ [p]) (rs ++ [(a, b)]) := Paired.snoc (hSA.set epsA) (by rw [upd_ne (ne_of eP epsA (by intro z; cases z))]; exact eP)
      generalize upd (upd H9 p (.tup (rndV (a, b)))) ps (.lst (ts.map V.ref ++ [.ref p])) = HB at *
      refine ⟨_, rfl, _, rfl, _, rfl, _, rfl, _, rfl, (by rw [tx_len]; exact sz_ok (by omega)), hd, L.length, by rw [tx_len]; rfl, hhB, hLlo, by omega, fun HC z kC hhC hz => ?_⟩
      refine ⟨_, _, _, rfl, rfl, (by rw [tx_len]; exact sz_ok (by omega)), letter_at hz, ?_⟩
      refine ⟨_, rfl, hd, 2, rfl, hhC, by omega, by omega, fun HD e kD hhD he => ?_⟩
      refine ⟨1, (e : Int), rfl, rfl, ?_⟩
      refine ⟨[L[z]], e + 1, rfl, ?_, ?_, by omega, ?_⟩
      · show V.int (1 + (e : Int)) = V.int ((e + 1 : Nat) : Int)
        rw [show (1 : Int) + (e : Int) = ((e + 1 : Nat) : Int) by omega]
      · show (e + 1) * 1 ≤ _
        omega
      refine ⟨_, rfl, _, rfl, hd, L, 1, rfl, hhD, hL, by omega, fun HE u kE hhE hul hum => ?_⟩
      refine ⟨sz_ok (by simp), fun p2 hp2 => ?_⟩
      have kF : Kp T [hd] HB (upd HE p2 (.lst [wd (rp (e + 1) [L[z]]), wd u])) := ((kC.trans kD).trans kE).snew hp2
      have eptF := kF.getX eptB (fun z => npt1 (List.mem_singleton.mp z))
      refine ⟨pt, p2, _, _, rfl, rfl, eptF, upd_same, ?_, fun p3 hp3 => ?_⟩
      · show (ws.map wd).length + 2 ≤ _
        rw [List.length_map]
        exact sz_ok (by omega)
      have kG : Kp T [hd] HB (upd (upd HE p2 (.lst [wd (rp (e + 1) [L[z]]), wd u])) p3 (.lst (ws.map wd ++ [wd (rp (e + 1) [L[z]]), wd u]))) := kF.snew hp3
      have epsG := kG.getX epsB n1
      refine ⟨p3, ws ++ [rp (e + 1) [L[z]], u], ts ++ [p], rs ++ [(a, b)], _, rfl, kB.trans (kG.wide (by simp)), (hhE.off hp2).off hp3, epsG, hSB.kp kG hhB.lists, by rw [upd_same, List.map_append]; rfl, (hhE.off hp2).neq hp3, (ne_of_none (kF.getX epsB n1) hp3).symm, k1.free (kB.free (kF.free hp3)), by rw [List.length_append]; show _ + 1 = _; omega, by rw [List.length_append]; show _ + 2 = _; omega, fun t ht => ?_, fun x hx => ?_⟩
      · rcases List.mem_append.mp ht with h | h
        · exact hws t h
        · rcases List.mem_cons.mp h with h | h
          · rw [h]
            refine ⟨by rw [rp_length]; show (e + 1) * 1 ≤ 2; omega, fun c hc => ?_⟩
            unfold rp at hc
            rw [List.mem_flatten] at hc
            obtain ⟨l, hl1, hl2⟩ := hc
            rw [(List.mem_replicate.mp hl1).2] at hl2
            rw [List.mem_singleton.mp hl2]
            exact hL.let' _ (List.getElem_mem hz)
          · rw [List.mem_singleton.mp h]
            exact ⟨by omega, fun c hc => hL.let' c (hum c hc)⟩
      · rcases List.mem_append.mp hx with h | h
        · exact hrs x h
        · rw [List.mem_singleton.mp h]
          exact ⟨ha, hb⟩
    · obtain ⟨pt, ws, ts, rs, y5, rfl, k6, hh6, eps, hS, ept, npt1, npt2, npt3, hrl, hwl, hws, hrs⟩ := h1
      refine ⟨_, rfl, _, rfl, sz_ok (by simp), fun p hp => ?_⟩
      have hrl2 : rs.length = r + 1 := by omega
      have kF : Kp T [hd] H H6 := k1.drop k6 fun b hb => by
        rcases List.mem_cons.mp hb with h | h
        · exact .inl (List.mem_singleton.mpr h)
        · exact .inr (by rw [List.mem_singleton.mp h]; exact nps)
      refine q _ p ⟨ws, rs⟩ (kF.snew hp) (hh6.off hp) (fun av hav => ⟨pt, ps, ts, upd_same, ?_, ?_, hS.off hp, (fun z => hav _ z npt3), fun z => hav _ z nps⟩) ⟨by show 1 ≤ rs.length; omega, by show rs.length ≤ 12; omega, by show ws.length = 2 * rs.length + 1; omega, fun t ht => (hws t ht).2, fun t ht => by have := (hws t ht).1; omega, hrs⟩ (by show rs.length ≤ 3; omega)
      · rw [upd_ne (ne_of_none ept hp)]
        exact ept
      · rw [upd_ne (ne_of_none eps hp)]
        exact eps
end
end K51
/-! the law's own defs: the least of ways is reached -/
namespace K51
open PySem PySem.Spec PyProof.Rows L2 NdefX LamX
theorem pick_all {α : Type} {xs : List α} {f : Nat → Nat} {g : Nat → α} : ∀ {l : List Nat}, (∀ j ∈ l, xs[f j]? = some (g j)) → pick (l.map f) xs = l.map g
  | [], _ => rfl
  | j :: l, h => by
    unfold pick
    rw [List.map_cons, List.filterMap_cons, h j List.mem_cons_self]
    show g j :: pick (l.map f) xs = _
    rw [pick_all fun i hi => h i (List.mem_cons_of_mem _ hi)]
    rfl
def evT (T : Nat → Word) (n : Nat) : List Word := (List.range (n + 1)).map fun j => T (2 * j)
def odT (T : Nat → Word) (n : Nat) : List Word := (List.range n).map fun j => T (2 * j + 1)
def lenS (l : List Word) : Nat := (l.map List.length).sum
theorem lenS_snoc (l : List Word) (w : Word) : lenS (l ++ [w]) = lenS l + w.length := by
  unfold lenS
  rw [List.map_append, List.sum_append]
  simp
theorem evT_succ (T : Nat → Word) (n : Nat) : evT T (n + 1) = evT T n ++ [T (2 * (n + 1))] := by
  unfold evT
  rw [List.range_succ, List.map_append]
  rfl
theorem odT_succ (T : Nat → Word) (n : Nat) : odT T (n + 1) = odT T n ++ [T (2 * n + 1)] := by
  unfold odT
  rw [List.range_succ, List.map_append]
  rfl
theorem lwi_len (k : Nat) (T : Nat → Word) : ∀ n : Nat, (lwi k T (2 * n + 1)).length = lenS (evT T n) + k * lenS (odT T n)
  | 0 => by
    rw [lwi_succ, if_neg (by omega), lwi_zero]
    show ([] ++ T 0).length = (T 0).length + 0 + k * 0
    rw [List.nil_append]
    omega
  | n + 1 => by
    have h := lwi_len k T n
    have e1 : 2 * (n + 1) + 1 = (2 * n + 1) + 1 + 1 := by omega
    rw [e1, lwi_succ, lwi_succ, if_pos (by omega), if_neg (by omega), List.length_append, List.length_append, h, rp_length, evT_succ, odT_succ, lenS_snoc, lenS_snoc]
    have e2 : 2 * n + 1 + 1 = 2 * (n + 1) := by omega
    rw [e2]
    have e3 : k * (lenS (odT T n) + (T (2 * n + 1)).length) = k * lenS (odT T n) + k * (T (2 * n + 1)).length := Nat.mul_add _ _ _
    omega
theorem flat_len (l : List Word) : l.flatten.length = lenS l := by
  unfold lenS
  rw [List.length_flatten]
theorem lwi_let {k : Nat} {T : Nat → Word} {n : Nat} (h : ∀ i, i < n → ∀ c ∈ T i, Let c) : ∀ c ∈ lwi k T n, Let c := by
  intro c hc
  unfold lwi at hc
  rw [List.mem_flatten] at hc
  obtain ⟨l, hl, hcl⟩ := hc
  obtain ⟨i, hi, e⟩ := List.mem_map.mp hl
  have hi := List.mem_range.mp hi
  rw [← e] at hcl
  by_cases o : i % 2 = 1
  · rw [if_pos o] at hcl
    unfold rp at hcl
    rw [List.mem_flatten] at hcl
    obtain ⟨l, hl1, hl2⟩ := hcl
    rw [(List.mem_replicate.mp hl1).2] at hl2
    exact h i hi c hl2
  · rw [if_neg o] at hcl
    exact h i hi c hcl
theorem Pump.Form.let2 {p : Pump} {n : Nat} (h : p.Form n) : ∀ i, i < 2 * p.rs.length + 1 → ∀ c ∈ p.T i, Let c := fun i hi => h.let' _ (T_mem (by rw [h.len]; exact hi))
theorem ev_pick {p : Pump} {n : Nat} (h : p.Form n) : pick (evI (p.ts.map wd).length) (p.ts.map wd) = (evT p.T p.rs.length).map wd := by
  have e : evI (p.ts.map wd).length = (List.range (p.rs.length + 1)).map fun j => 2 * j := by
    unfold evI
    rw [List.length_map, h.len]
    congr 2
    omega
  rw [e, pick_all (g := fun j => wd (p.T (2 * j))) fun j hj => T_get (by rw [h.len]; have := List.mem_range.mp hj; omega)]
  unfold evT
  rw [List.map_map]
  rfl
theorem od_pick {p : Pump} {n : Nat} (h : p.Form n) : pick (odI (p.ts.map wd).length) (p.ts.map wd) = (odT p.T p.rs.length).map wd := by
  have e : odI (p.ts.map wd).length = (List.range p.rs.length).map fun j => 2 * j + 1 := by
    unfold odI
    rw [List.length_map, h.len]
    congr 2
    omega
  rw [e, pick_all (g := fun j => wd (p.T (2 * j + 1))) fun j hj => T_get (by rw [h.len]; have := List.mem_range.mp hj; omega)]
  unfold odT
  rw [List.map_map]
  rfl
theorem lenS_le {l : List Word} {b : Nat} (h : ∀ w ∈ l, w.length ≤ b) : lenS l ≤ l.length * b := by
  induction l with
  | nil => exact Nat.zero_le _
  | cons w l ih =>
    have h1 := ih fun x hx => h x (List.mem_cons_of_mem _ hx)
    have h2 := h w List.mem_cons_self
    show w.length + lenS l ≤ (l.length + 1) * b
    rw [Nat.add_mul]
    omega
section
variable {P : Program} {w : World} {K : PySem.W.Frag} {mg : Str → Option Value} {base : Heap} {T : List NTab}
def sp_has_least (T : List NTab) : Sp := fun vs H Q _ => ∃ (m : Addr) (M : Mac) (p : Addr) (u : Pump), vs = [.ref m, .ref p] ∧ MAt [] H m M ∧ M.Ok ∧ PAt [] H p u ∧ u.Form M.n ∧ Lets M u ∧ ∀ H', Kp T [] H H' → Q (.bl true) H'
theorem ok_law_has_least (F : Fn K mg "_law_has_least" s__law_has_least) (Tx : Txt mg) (D_ways : DOk P w K mg base "ways" 6 ["machine", "text", "first", "last"] [.non, .non] (sp_ways T))
    (D_laid : DOk P w K mg base "laid" 4 ["pump", "many"] [] (sp_laid T)) (D_least_ways : DOk P w K mg base "least_ways" 4 ["pump", "many"] [] (sp_least_ways T)) :
    DOk P w K mg base "_law_has_least" 7 ["_law_machine_here", "_law_pump"] [] (sp_has_least T) := by
  refine F.dok sc__law_has_least b__law_has_least (fun vs H Q E h => ?_) (fun f cdv A outer s H vs Q E hr h => ?_)
  · obtain ⟨m, M, p, u, rfl, _⟩ := h
    rfl
  · obtain ⟨m, M, p, u, rfl, hM, ok, hP, hf, hlt, q⟩ := h
    obtain ⟨a, b, rs, hp⟩ := id hP
    have hhi := hf.hi
    refine ⟨_, (pss_cons (ps_set (i := 2) sc__law_has_least.nd rfl (by first | exact .inl rfl | exact .inr rfl) (pe_callB (cr_sum rfl) (by rfl) Tx.n_sum (by decide +kernel) (pa_cons (pe_lc (own := [("_law_text", 5)]) (g := gName 5) (tt := tYes) (by rfl) sc__law_has_least.nd (pi_list (pe_ods (pe_ix ix_tup (pv 1) pe_int (fun _ _ => rfl)))) (blkOk_by (N := ["_law_machine_here", "_law_pump", "_law_long_ones", "_law_rest", "_law_times", "_law_text"]) (sc := (defScope s__law_has_least)) (own := [("_law_text", 5)]) (by decide +kernel)) (fun _ _ _ _ _ => (pg_name (i := 5) sc__law_has_least.nd rfl (by first | exact .inl rfl | exact .inr rfl))) (fun _ _ _ _ _ => pts_nil) (fun _ _ _ _ _ => (pe_callB call_len_str (by rfl) Tx.n_len (by decide +kernel) (pa_cons (pv 5) pa_nil)))) pa_nil)))
      (pss_cons (ps_set (i := 3) sc__law_has_least.nd rfl (by first | exact .inl rfl | exact .inr rfl) (pe_op op_sub pe_int (pe_callB call_len_str (by rfl) Tx.n_len (by decide +kernel) (pa_cons (pe_join pe_str (pe_evs (pe_ix ix_tup (pv 1) pe_int (fun _ _ => rfl)))) pa_nil))))
      (pss_cons (ps_for PassesOwn.never rfl (pi_range1 (by rfl) Tx.n_range (pa_cons pe_int pa_nil)) (pg_name (i := 4) sc__law_has_least.nd rfl (by first | exact .inl rfl | exact .inr rfl))
      (pss_one (ps_if (pt_cmpR op_le (pe_op op_mul (pv 2) (pv 4)) (pv 3) (nomark _))
      (pss_one (ps_if (pt_cmpR op_lt (pe_d D_ways hr (by rfl) (pa_cons (pv 0) (pa_cons (pe_d D_laid hr (by rfl) (pa_cons (pv 1) (pa_cons (pv 4) pa_nil))) pa_nil))) (pe_d D_least_ways hr (by rfl) (pa_cons (pv 1) (pa_cons (pv 4) pa_nil))) (nomark _))
      (pss_one (ps_ret pe_bl)) pss_nil)) pss_nil)))
      (pss_one (ps_ret pe_bl))))), ?_⟩
    refine ⟨_, rfl, p, _, 0, _, rfl, rfl, SqT.of hp.m, rfl, a, _, rfl, SqL.of hp.t, fun p1 hp1 => ?_⟩
    rw [od_pick hf]
    have k1 : Kp T [] H (upd H p1 (.lst ((odT u.T u.rs.length).map wd))) := Kp.new hp1
    refine ⟨p1, rfl, ⟨_, SqL.of upd_same⟩, fun D hD => ?_⟩
    have hodlen : (odT u.T u.rs.length).length = u.rs.length := by unfold odT; rw [List.length_map, List.length_range]
    have hodsz : ∀ t ∈ odT u.T u.rs.length, t.length ≤ 1000 := fun t ht => by
      unfold odT at ht
      obtain ⟨j, hj, e⟩ := List.mem_map.mp ht
      rw [← e]
      exact hf.sz _ (T_mem (by rw [hf.len]; have := List.mem_range.mp hj; omega))
    refine lc_it (walk_list (xs := (odT u.T u.rs.length).map wd)) (fun i H1 => Kp T [] (upd H p1 (.lst ((odT u.T u.rs.length).map wd))) H1 ∧ H1 D = some (.lst (((odT u.T u.rs.length).take i).map fun t => ni t.length))) ⟨Kp.new hD, upd_same⟩ (fun i H1 _ h1 => SqL.of (h1.1.get upd_same)) (fun i x H1 H2 hi h1 y => ?_) (fun H1 h1 => ?_)
    · obtain ⟨k, eD⟩ := h1
      obtain ⟨rfl, e2⟩ := y
      obtain ⟨t, et, rfl⟩ := map_get e2
      have hts := hodsz t (List.mem_of_getElem? et)
      refine ⟨rfl, ?_⟩
      refine ⟨_, rfl, tx t, rfl, by rw [tx_len]; exact sz_ok (by omega), ?_⟩
      refine ⟨_, eD, by rw [List.length_map, List.length_take]; exact sz_lt (by omega), k.mut (.inl hD) eD, ?_⟩
      rw [upd_same, List.take_add_one, et, List.map_append, tx_len]
      rfl
    · obtain ⟨k, eD⟩ := h1
      rw [List.take_of_length_le (by rw [List.length_map]; exact Nat.le_refl _)] at eD
      have kA := k1.trans k
      refine ⟨D, (odT u.T u.rs.length).map fun t => ((t.length : Nat) : Int), rfl, ?_, ?_⟩
      · rw [List.map_map]
        exact SqL.of eD
      have es : ((odT u.T u.rs.length).map fun t => ((t.length : Nat) : Int)).sum = ((lenS (odT u.T u.rs.length) : Nat) : Int) := by
        unfold lenS
        rw [← sum_ni, List.map_map]
        rfl
      rw [es]
      refine ⟨⟨_, rfl⟩, _, rfl, p, _, 0, _, rfl, rfl, SqT.of (kA.get hp.m), rfl, a, _, rfl, SqL.of (kA.get hp.t), fun p2 hp2 => ?_⟩
      rw [ev_pick hf]
      have kB := kA.snew (o := .lst ((evT u.T u.rs.length).map wd)) hp2
      have hevsz : ∀ t ∈ evT u.T u.rs.length, t.length ≤ 1000 := fun t ht => by
        unfold evT at ht
        obtain ⟨j, hj, e⟩ := List.mem_map.mp ht
        rw [← e]
        exact hf.sz _ (T_mem (by rw [hf.len]; have := List.mem_range.mp hj; omega))
      have hevlen : (evT u.T u.rs.length).length = u.rs.length + 1 := by unfold evT; rw [List.length_map, List.length_range]
      have hle := lenS_le hevsz
      rw [hevlen] at hle
      have hle2 : lenS (evT u.T u.rs.length) ≤ 13000 := Nat.le_trans hle (by omega)
      refine ⟨tx [], p2, (evT u.T u.rs.length).map tx, rfl, rfl, .inl ?_, ?_, ?_⟩
      · rw [List.map_map]
        exact SqL.of upd_same
      · have e : ((evT u.T u.rs.length).map tx).map (·.length) = (evT u.T u.rs.length).map List.length := by
          rw [List.map_map]
          exact List.map_congr_left fun t _ => tx_len t
        rw [e, tx_len, List.length_nil, Nat.mul_zero]
        show lenS (evT u.T u.rs.length) + 0 ≤ _
        omega
      rw [join_tx]
      refine ⟨_, rfl, by rw [tx_len, flat_len]; exact sz_ok (by omega), 400, _, rfl, rfl, ?_⟩
      rw [tx_len, flat_len]
      refine ⟨25, rfl, by omega, by omega, ?_⟩
      refine for_it (walk_range0 (n := 25)) (fun i σ H1 => ∃ (y4 y5 : Option V), σ = [some (.ref m), some (.ref p), some (ni (lenS (odT u.T u.rs.length))), some (.int (400 - (lenS (evT u.T u.rs.length) : Int))), y4, y5] ∧ Kp T [] H H1) ⟨_, _, rfl, kB⟩ (fun _ _ _ _ _ => trivial) (fun i x σ H1 H2 hi h1 y => ?_) (fun σ H1 h1 => ?_)
      · obtain ⟨y4, y5, rfl, kC⟩ := h1
        obtain ⟨rfl, rfl⟩ := y
        have hi2 : i < 25 := hi
        refine ⟨_, rfl, _, rfl, _, _, rfl, rfl, .inr (by constructor <;> omega), _, rfl, _, _, rfl, rfl, ?_⟩
        by_cases hc : ((lenS (odT u.T u.rs.length) : Nat) : Int) * (i : Int) ≤ 400 - (lenS (evT u.T u.rs.length) : Int)
        · refine ⟨true, ?_, iteT ?_⟩
          · show V.bl (decide _) = V.bl true
            rw [decide_eq_true hc]
          have hc2 : lenS (evT u.T u.rs.length) + i * lenS (odT u.T u.rs.length) ≤ 400 := by
            have e : ((lenS (odT u.T u.rs.length) : Nat) : Int) * (i : Int) = ((i * lenS (odT u.T u.rs.length) : Nat) : Int) := by rw [Nat.mul_comm, Int.natCast_mul]
            omega
          have hwl : (lwi i u.T u.ts.length).length ≤ 400 := by
            rw [hf.len, lwi_len]
            exact hc2
          refine ⟨_, rfl, _, rfl, _, rfl, p, u, M.n, i, rfl, hP.kp kC, hf, by omega, hwl, fun H3 k3 => ?_⟩
          have kD := kC.trans k3
          refine ⟨m, M, lwi i u.T u.ts.length, rfl, hM.kp kD, ok, hwl, lwi_let (fun j hj => hf.let2 j (by rw [← hf.len]; exact hj)), fun H4 k4 => ?_⟩
          have kE := kD.trans k4
          refine ⟨_, rfl, _, rfl, p, u, M.n, i, rfl, hP.kp kE, hf, by omega, ?_⟩
          have hge := pump_ge ok hf hlt i
          rw [← hf.len] at hge
          refine ⟨_, _, rfl, rfl, false, ?_, iteF ?_⟩
          · show V.bl (decide ((wb M.S (lwi i u.T u.ts.length) M.fs M.ls : Int) < (lsP i u.R u.rs.length : Int))) = V.bl false
            rw [decide_eq_false (by omega)]
          exact ⟨_, _, rfl, kE⟩
        · refine ⟨false, ?_, iteF ?_⟩
          · show V.bl (decide _) = V.bl false
            rw [decide_eq_false hc]
          exact ⟨_, _, rfl, kC⟩
      · obtain ⟨y4, y5, rfl, kC⟩ := h1
        exact q H1 kC
end
end K51
/-! the law's own defs: right pumps -/
namespace K51
open PySem PySem.Spec PyProof.Rows L2 NdefX LamX
theorem paired_rev {α β : Type} {R : α → β → Prop} {ts : List α} {S : List β} (h : Paired R ts S) : Paired R ts.reverse S.reverse := by
  induction h with
  | nil => exact .nil
  | cons q r ih =>
    rw [List.reverse_cons, List.reverse_cons]
    exact Paired.snoc ih q
theorem six_neg (n d k : Nat) (h : 0 < k) : HT.sIx n d (some (-(k : Int))) = n - k := by
  show (if -(k : Int) < 0 then (-(k : Int) + (n : Int)).toNat else min (-(k : Int)).toNat n) = n - k
  rw [if_pos (by omega)]
  omega
theorem cut_m1 (xs : List V) : cutV xs none (some (-1)) = xs.take (xs.length - 1) := by
  unfold cutV
  have e : HT.sIx xs.length xs.length (some (-1)) = xs.length - 1 := six_neg _ _ 1 (by omega)
  rw [e, HT.sIx_none, List.drop_zero, Nat.sub_zero]
theorem cut_m2 (xs : List V) : cutV xs (some (-2)) none = xs.drop (xs.length - 2) := by
  unfold cutV
  have e : HT.sIx xs.length 0 (some (-2)) = xs.length - 2 := six_neg _ _ 2 (by omega)
  rw [e, HT.sIx_none]
  exact List.take_of_length_le (by rw [List.length_drop]; exact Nat.le_refl _)
theorem RndsAt.getR {H : Hp} {ts : List Addr} {rs : List (Nat × Nat)} (h : RndsAt H ts rs) {i : Nat} {v : V} (e : (ts.map V.ref).reverse[i]? = some v) : ∃ t s, v = .ref t ∧ rs.reverse[i]? = some s ∧ H t = some (.tup (rndV s)) := by
  have h2 : RndsAt H ts.reverse rs.reverse := paired_rev h
  rw [← List.map_reverse] at e
  obtain ⟨t, s, h1, _, h3, h4⟩ := h2.get e
  exact ⟨t, s, h1, h3, h4⟩
section
variable {P : Program} {w : World} {K : PySem.W.Frag} {mg : Str → Option Value} {base : Heap} {T : List NTab}
def sp_right (T : List NTab) : Sp := fun vs H Q _ => ∃ (m : Addr) (M : Mac) (p : Addr) (u : Pump), vs = [.ref m, .ref p] ∧ MAt [] H m M ∧ M.Ok ∧ PAt [] H p u ∧ u.Form M.n ∧ Lets M u ∧ ((u.R (u.rs.length - 1)).1 = (u.R (u.rs.length - 1)).2 → u.rs.length ≤ 11) ∧ ∀ H', Kp T [] H H' → Q (.bl true) H'
theorem ok_law_right (F : Fn K mg "_law_right" s__law_right) (Tx : Txt mg) (D__law_has_least : DOk P w K mg base "_law_has_least" 7 ["_law_machine_here", "_law_pump"] [] (sp_has_least T))
    (D_lets_pump : DOk P w K mg base "lets_pump" 6 ["machine", "thing"] [] (sp_lets_pump T)) (D_turned : DOk P w K mg base "turned" 6 ["machine"] [] (sp_turned T)) :
    DOk P w K mg base "_law_right" 8 ["_law_machine_here", "_law_pump"] [] (sp_right T) := by
  refine F.dok sc__law_right b__law_right (fun vs H Q E h => ?_) (fun f cdv A outer s H vs Q E hr h => ?_)
  · obtain ⟨m, M, p, u, rfl, _⟩ := h
    rfl
  · obtain ⟨m, M, p, u, rfl, hM, ok, hP, hf, hlt, h11, q⟩ := h
    obtain ⟨a, b, rs, hp⟩ := id hP
    have hhi := hf.hi
    have hlo := hf.lo
    have lrs := hp.st.len
    have hlen := hf.len
    refine ⟨_, (pss_cons (ps_asg (pv 1) (pg_tup rfl (pgs_cons (pg_name (i := 2) sc__law_right.nd rfl (by first | exact .inl rfl | exact .inr rfl)) (pgs_cons (pg_name (i := 3) sc__law_right.nd rfl (by first | exact .inl rfl | exact .inr rfl)) pgs_nil))))
      (pss_cons (ps_if (pt_not (pt_val (pe_d D__law_has_least hr (by rfl) (pa_cons (pv 0) (pa_cons (pv 1) pa_nil)))))
      (pss_one (ps_ret pe_bl)) pss_nil)
      (pss_cons (ps_set (i := 4) sc__law_right.nd rfl (by first | exact .inl rfl | exact .inr rfl) (pe_tup (pa_cons (pe_lc (own := [("_law_text", 8)]) (g := gName 8) (tt := tYes) (by rfl) sc__law_right.nd (pi_list (pe_revL (pv 2))) (blkOk_by (N := ["_law_machine_here", "_law_pump", "_law_texts", "_law_rounds", "_law_back", "_law_room", "_law_other", "_law_more", "_law_text"]) (sc := (defScope s__law_right)) (own := [("_law_text", 8)]) (by decide +kernel)) (fun _ _ _ _ _ => (pg_name (i := 8) sc__law_right.nd rfl (by first | exact .inl rfl | exact .inr rfl))) (fun _ _ _ _ _ => pts_nil) (fun _ _ _ _ _ => (pe_revS (pv 8)))) (pa_cons (pe_lc (own := [("_law_room", 5), ("_law_other", 6)]) (g := gTup K 2 (gCons (gName 5) (gCons (gName 6) gNil))) (tt := tYes) (by rfl) sc__law_right.nd (pi_list (pe_revL (pv 3))) (blkOk_by (N := ["_law_machine_here", "_law_pump", "_law_texts", "_law_rounds", "_law_back", "_law_room", "_law_other", "_law_more", "_law_text"]) (sc := (defScope s__law_right)) (own := [("_law_room", 5), ("_law_other", 6)]) (by decide +kernel)) (fun _ _ _ _ _ => (pg_tup rfl (pgs_cons (pg_name (i := 5) sc__law_right.nd rfl (by first | exact .inl rfl | exact .inr rfl)) (pgs_cons (pg_name (i := 6) sc__law_right.nd rfl (by first | exact .inl rfl | exact .inr rfl)) pgs_nil)))) (fun _ _ _ _ _ => pts_nil) (fun _ _ _ _ _ => (pe_tup (pa_cons (pv 6) (pa_cons (pv 5) pa_nil))))) pa_nil))))
      (pss_cons (ps_if (PW.pt (pw_or (pt_not (pt_val (pe_d D_lets_pump hr (by rfl) (pa_cons (pe_d D_turned hr (by rfl) (pa_cons (pv 0) pa_nil)) (pa_cons (pv 4) pa_nil))))) (pw_or1 (pt_not (pt_val (pe_d D__law_has_least hr (by rfl) (pa_cons (pe_d D_turned hr (by rfl) (pa_cons (pv 0) pa_nil)) (pa_cons (pv 4) pa_nil))))))))
      (pss_one (ps_ret pe_bl)) pss_nil)
      (pss_cons (ps_asg (pe_ix ix_list (pv 3) (pe_un un_neg pe_int) (fun _ _ => rfl)) (pg_tup rfl (pgs_cons (pg_name (i := 5) sc__law_right.nd rfl (by first | exact .inl rfl | exact .inr rfl)) (pgs_cons (pg_name (i := 6) sc__law_right.nd rfl (by first | exact .inl rfl | exact .inr rfl)) pgs_nil))))
      (pss_cons (ps_if (pt_cmpR op_eq (pv 5) (pv 6) (nomark _))
      (pss_cons (ps_set (i := 7) sc__law_right.nd rfl (by first | exact .inl rfl | exact .inr rfl) (pe_tup (pa_cons (pe_op op_cat (pe_op op_cat (pe_slice sl_list (pv 2) po_none (po_some (pe_un un_neg pe_int))) (pe_lst (pa_cons pe_str pa_nil))) (pe_slice sl_list (pv 2) (po_some (pe_un un_neg pe_int)) po_none)) (pa_cons (pe_op op_cat (pv 3) (pe_lst (pa_cons (pe_tup (pa_cons (pv 5) (pa_cons (pv 5) pa_nil))) pa_nil))) pa_nil))))
      (pss_one (ps_ret (pe_and (pe_d D_lets_pump hr (by rfl) (pa_cons (pv 0) (pa_cons (pv 7) pa_nil))) (pe_one (pe_d D__law_has_least hr (by rfl) (pa_cons (pv 0) (pa_cons (pv 7) pa_nil)))))))) pss_nil)
      (pss_one (ps_ret pe_bl)))))))), ?_⟩
    refine ⟨_, rfl, p, _, rfl, SqT.of hp.m, rfl, _, _, rfl, _, _, rfl, rfl, ?_⟩
    refine ⟨_, rfl, _, rfl, m, M, p, u, rfl, hM, ok, hP, hf, hlt, fun H1 k1 => ?_⟩
    refine ⟨true, rfl, iteF ?_⟩
    refine ⟨_, rfl, a, _, rfl, SqL.of (k1.get hp.t), fun p1 hp1 => ?_⟩
    have k2 := k1.snew (o := .lst (u.ts.map wd).reverse) hp1
    have ep1 : upd H1 p1 (.lst (u.ts.map wd).reverse) p1 = some (.lst (u.ts.reverse.map wd)) := by rw [upd_same, List.map_reverse]
    generalize upd H1 p1 (.lst (u.ts.map wd).reverse) = H2 at *
    refine ⟨p1, rfl, ⟨_, SqL.of ep1⟩, fun D hD => ?_⟩
    refine lc_it (walk_list (xs := u.ts.reverse.map wd)) (fun i H3 => Kp T [] H2 H3 ∧ H3 D = some (.lst (((u.ts.reverse.map List.reverse).take i).map wd))) ⟨Kp.new hD, upd_same⟩ (fun i H3 _ h3 => SqL.of (h3.1.get ep1)) (fun i x H3 H4 hi h3 y => ?_) (fun H3 h3 => ?_)
    · obtain ⟨k, eD⟩ := h3
      obtain ⟨rfl, e2⟩ := y
      obtain ⟨t, et, rfl⟩ := map_get e2
      have hts := hf.sz t (List.mem_reverse.mp (List.mem_of_getElem? et))
      refine ⟨rfl, ?_⟩
      refine ⟨_, rfl, t, rfl, by omega, ?_⟩
      refine ⟨_, eD, by rw [List.length_map, List.length_take, List.length_map, List.length_reverse]; exact sz_lt (by omega), k.mut (.inl hD) eD, ?_⟩
      rw [upd_same, List.take_add_one, List.getElem?_map, et, List.map_append]
      rfl
    · obtain ⟨k, eD⟩ := h3
      rw [List.take_of_length_le (by rw [List.length_map, List.length_map]; exact Nat.le_refl _)] at eD
      have k3 := k2.trans k
      refine ⟨_, rfl, b, _, rfl, SqL.of (k3.get hp.r), fun p2 hp2 => ?_⟩
      have k4 := k3.snew (o := .lst (rs.map V.ref).reverse) hp2
      have eD4 : upd H3 p2 (.lst (rs.map V.ref).reverse) D = some (.lst ((u.ts.reverse.map List.reverse).map wd)) := by rw [upd_ne (ne_of_none eD hp2)]; exact eD
      have ep2 : upd H3 p2 (.lst (rs.map V.ref).reverse) p2 = some (.lst (rs.map V.ref).reverse) := upd_same
      generalize upd H3 p2 (.lst (rs.map V.ref).reverse) = H4 at *
      refine ⟨p2, rfl, ⟨_, SqL.of ep2⟩, fun D2 hD2 => ?_⟩
      refine lc_it (walk_list (xs := (rs.map V.ref).reverse)) (fun i H5 => ∃ us : List Addr, Kp T [] H4 H5 ∧ H5 D2 = some (.lst (us.map V.ref)) ∧ RndsAt H5 us ((u.rs.reverse.map fun r => (r.2, r.1)).take i)) ⟨[], Kp.new hD2, upd_same, .nil⟩ (fun i H5 _ h5 => by obtain ⟨_, k5, _⟩ := h5; exact SqL.of (k5.get ep2)) (fun i x H5 H6 hi h5 y => ?_) (fun H5 h5 => ?_)
      · obtain ⟨us, k5, eD5, hus⟩ := h5
        obtain ⟨rfl, e2⟩ := y
        obtain ⟨t, r, rfl, er, ht⟩ := hp.st.getR e2
        have ht5 := (k4.trans k5).get ht
        refine ⟨t, _, rfl, SqT.of ht5, rfl, _, _, rfl, _, _, rfl, rfl, rfl, ?_⟩
        refine ⟨_, rfl, _, rfl, sz_ok (by simp), fun p3 hp3 => ?_⟩
        have eD6 : upd H6 p3 (.tup (rndV (r.2, r.1))) D2 = some (.lst (us.map V.ref)) := by rw [upd_ne (ne_of_none eD5 hp3)]; exact eD5
        have ll : us.length ≤ 12 := by
          rw [hus.len, List.length_take, List.length_map, List.length_reverse]
          omega
        refine ⟨us.map V.ref, eD6, by rw [List.length_map]; exact sz_lt (by omega), us ++ [p3], (k5.snew hp3).mut (.inl hD2) eD6, by rw [upd_same, List.map_append]; rfl, ?_⟩
        rw [List.take_add_one, List.getElem?_map, er]
        exact Paired.snoc ((hus.off hp3).set eD6) (by rw [upd_ne (ne_of_none eD5 hp3).symm, upd_same])
      · obtain ⟨us, k5, eD5, hus⟩ := h5
        rw [List.take_of_length_le (by rw [List.length_map, List.length_reverse, List.length_reverse, List.length_map, lrs]; exact Nat.le_refl _)] at hus
        have k6 := k4.trans k5
        refine ⟨sz_ok (by simp), fun pb hpb => ?_⟩
        have k7 := k6.snew (o := .tup [.ref D, .ref D2]) hpb
        have hPb : PAt [] (upd H5 pb (.tup [.ref D, .ref D2])) pb u.back := ⟨D, D2, us, upd_same, by rw [upd_ne (ne_of_none (k5.get eD4) hpb)]; exact k5.get eD4, by rw [upd_ne (ne_of_none eD5 hpb)]; exact eD5, hus.off hpb, by simp, by simp⟩
        generalize upd H5 pb (.tup [.ref D, .ref D2]) = H7 at *
        have hbl := back_lets ok hf hlt
        refine ⟨_, rfl, m, M, rfl, hM.kp k7, ok, fun H8 pm k8 hMt => ?_⟩
        have k78 := k7.trans k8
        refine ⟨_, rfl, pm, pb, turnM M, u.back, rfl, hMt, turn_ok ok, hPb.kp k8, back_form hf, fun H9 bb k9 hbb => ?_⟩
        have ebb : bb = true := hbb.mpr hbl
        subst ebb
        have k79 := k78.trans k9
        refine ⟨true, rfl, ?_⟩
        refine iteF ?_
        refine ⟨_, rfl, m, M, rfl, hM.kp k79, ok, fun H10 pm2 k10 hMt2 => ?_⟩
        have k710 := k79.trans k10
        refine ⟨_, rfl, pm2, turnM M, pb, u.back, rfl, hMt2, turn_ok ok, (hPb.kp k8).kp (k9.trans k10), back_form hf, hbl, fun H11 k11 => ?_⟩
        have kk := k710.trans k11
        refine ⟨true, rfl, iteF ?_⟩
        obtain ⟨t1, et1, ht1⟩ := hp.st.at (i := u.rs.length - 1) (by omega)
        have et1' : (rs.map V.ref)[(rs.map V.ref).length - 1]? = some (.ref t1) := by
          rw [List.length_map, lrs]
          exact et1
        refine ⟨_, rfl, 1, rfl, b, _, _, _, rfl, rfl, SqL.of (kk.get hp.r), atI_m1 et1', ?_⟩
        refine ⟨t1, _, rfl, SqT.of (kk.get ht1), rfl, _, _, rfl, _, _, rfl, rfl, ?_⟩
        refine ⟨_, rfl, _, rfl, rfl, ?_⟩
        by_cases e : (u.R (u.rs.length - 1)).1 = (u.R (u.rs.length - 1)).2
        · refine ⟨true, ?_, iteT ?_⟩
          · show V.bl (decide (V.int ((u.R (u.rs.length - 1)).1 : Int) = V.int ((u.R (u.rs.length - 1)).2 : Int))) = V.bl true
            rw [decide_eq_true (by rw [e])]
          have c1 : cutV (u.ts.map wd) none (some (-1)) = (u.ts.take (2 * u.rs.length)).map wd := by
            rw [cut_m1, List.length_map, hlen, List.map_take]
            rfl
          have c2 : cutV (u.ts.map wd) (some (-2)) none = (u.ts.drop (2 * u.rs.length - 1)).map wd := by
            rw [cut_m2, List.length_map, hlen, List.map_drop]
            rfl
          refine ⟨_, rfl, 1, rfl, _, rfl, a, _, rfl, SqL.of (kk.get hp.t), fun q1 hq1 => ?_⟩
          have a1 := kk.snew (o := .lst (cutV (u.ts.map wd) none (some (-1)))) hq1
          have f1 : upd H11 q1 (.lst (cutV (u.ts.map wd) none (some (-1)))) q1 = some (.lst ((u.ts.take (2 * u.rs.length)).map wd)) := by rw [upd_same, c1]
          generalize upd H11 q1 (.lst (cutV (u.ts.map wd) none (some (-1)))) = J1 at *
          refine ⟨sz_ok (by simp), fun q2 hq2 => ?_⟩
          have a2 : Kp T [] J1 (upd J1 q2 (.lst [.str ""])) := Kp.new hq2
          have f2 : upd J1 q2 (.lst [.str ""]) q2 = some (.lst [.str ""]) := upd_same
          refine ⟨q1, q2, _, _, rfl, rfl, a2.get f1, f2, ?_, fun q3 hq3 => ?_⟩
          · rw [List.length_map, List.length_take]
            exact sz_ok (by show min _ _ + 1 ≤ _; omega)
          have a3 := (a1.trans a2).snew (o := .lst ((u.ts.take (2 * u.rs.length)).map wd ++ [.str ""])) hq3
          have f3 : upd (upd J1 q2 (.lst [.str ""])) q3 (.lst ((u.ts.take (2 * u.rs.length)).map wd ++ [.str ""])) q3 = some (.lst ((u.ts.take (2 * u.rs.length) ++ [[]]).map wd)) := by rw [upd_same, List.map_append]; rfl
          generalize upd (upd J1 q2 (.lst [.str ""])) q3 (.lst ((u.ts.take (2 * u.rs.length)).map wd ++ [.str ""])) = J3 at *
          refine ⟨_, rfl, 2, rfl, _, rfl, a, _, rfl, SqL.of (a3.get hp.t), fun q4 hq4 => ?_⟩
          have a4 : Kp T [] J3 (upd J3 q4 (.lst (cutV (u.ts.map wd) (some (-2)) none))) := Kp.new hq4
          have f4 : upd J3 q4 (.lst (cutV (u.ts.map wd) (some (-2)) none)) q4 = some (.lst ((u.ts.drop (2 * u.rs.length - 1)).map wd)) := by rw [upd_same, c2]
          generalize upd J3 q4 (.lst (cutV (u.ts.map wd) (some (-2)) none)) = J4 at *
          refine ⟨q3, q4, _, _, rfl, rfl, a4.get f3, f4, ?_, fun q5 hq5 => ?_⟩
          · rw [List.length_map, List.length_map, List.length_append, List.length_take, List.length_drop]
            exact sz_ok (by show min _ _ + 1 + _ ≤ _; omega)
          have a5 := (a3.trans a4).snew (o := .lst ((u.ts.take (2 * u.rs.length) ++ [[]]).map wd ++ (u.ts.drop (2 * u.rs.length - 1)).map wd)) hq5
          have f5 : upd J4 q5 (.lst ((u.ts.take (2 * u.rs.length) ++ [[]]).map wd ++ (u.ts.drop (2 * u.rs.length - 1)).map wd)) q5 = some (.lst (u.more.ts.map wd)) := by
            rw [upd_same, ← List.map_append]
            rfl
          generalize upd J4 q5 (.lst ((u.ts.take (2 * u.rs.length) ++ [[]]).map wd ++ (u.ts.drop (2 * u.rs.length - 1)).map wd)) = J5 at *
          refine ⟨_, rfl, _, rfl, _, rfl, sz_ok (by simp), fun q6 hq6 => ?_⟩
          have a6 : Kp T [] J5 (upd J5 q6 (.tup (rndV ((u.R (u.rs.length - 1)).1, (u.R (u.rs.length - 1)).1)))) := Kp.new hq6
          have f6 : upd J5 q6 (.tup (rndV ((u.R (u.rs.length - 1)).1, (u.R (u.rs.length - 1)).1))) q6 = some (.tup (rndV ((u.R (u.rs.length - 1)).1, (u.R (u.rs.length - 1)).1))) := upd_same
          refine ⟨sz_ok (by simp), fun q7 hq7 => ?_⟩
          have a7 := a6.snew (o := .lst [.ref q6]) hq7
          have f67 : upd (upd J5 q6 (.tup (rndV ((u.R (u.rs.length - 1)).1, (u.R (u.rs.length - 1)).1)))) q7 (.lst [.ref q6]) q6 = some (.tup (rndV ((u.R (u.rs.length - 1)).1, (u.R (u.rs.length - 1)).1))) := by rw [upd_ne (ne_of_none f6 hq7)]; exact f6
          have f7 : upd (upd J5 q6 (.tup (rndV ((u.R (u.rs.length - 1)).1, (u.R (u.rs.length - 1)).1)))) q7 (.lst [.ref q6]) q7 = some (.lst [.ref q6]) := upd_same
          generalize upd (upd J5 q6 (.tup (rndV ((u.R (u.rs.length - 1)).1, (u.R (u.rs.length - 1)).1)))) q7 (.lst [.ref q6]) = J7 at *
          have a57 := a5.trans a7
          refine ⟨b, q7, _, _, rfl, rfl, a57.get hp.r, f7, ?_, fun q8 hq8 => ?_⟩
          · rw [List.length_map, lrs]
            exact sz_ok (by show _ + 1 ≤ _; omega)
          have a8 : Kp T [] J7 (upd J7 q8 (.lst (rs.map V.ref ++ [.ref q6]))) := Kp.new hq8
          have f8 : upd J7 q8 (.lst (rs.map V.ref ++ [.ref q6])) q8 = some (.lst ((rs ++ [q6]).map V.ref)) := by rw [upd_same, List.map_append]; rfl
          generalize upd J7 q8 (.lst (rs.map V.ref ++ [.ref q6])) = J8 at *
          refine ⟨sz_ok (by simp), fun q9 hq9 => ?_⟩
          have a9 := a8.snew (o := .tup [.ref q5, .ref q8]) hq9
          have a99 := a57.trans a9
          have hPm : PAt [] (upd J8 q9 (.tup [.ref q5, .ref q8])) q9 u.more := ⟨q5, q8, rs ++ [q6], upd_same, a9.get (a7.get f5), by rw [upd_ne (ne_of_none f8 hq9)]; exact f8, Paired.snoc (hp.st.kp a99 (fun _ z => nomatch z)) (a9.get f67), by simp, by simp⟩
          have hml := more_lets ok hf hlt e
          have hmf := more_form hf (h11 e)
          refine ⟨_, rfl, _, rfl, m, q9, M, u.more, rfl, hM.kp a99, ok, hPm, hmf, fun H12 bb k12 hbb => ?_⟩
          have ebb : bb = true := hbb.mpr hml
          subst ebb
          refine ⟨true, rfl, iteT ?_⟩
          refine ⟨_, rfl, _, rfl, m, M, q9, u.more, rfl, (hM.kp a99).kp k12, ok, hPm.kp k12, hmf, hml, fun H13 k13 => ?_⟩
          exact q H13 ((a99.trans k12).trans k13)
        · refine ⟨false, ?_, iteF ?_⟩
          · show V.bl (decide (V.int ((u.R (u.rs.length - 1)).1 : Int) = V.int ((u.R (u.rs.length - 1)).2 : Int))) = V.bl false
            rw [decide_eq_false (fun z => e (by injection z with z; omega))]
          exact q H11 kk
end
end K51
/-! the law, but for the told pump -/
namespace K51
open PySem PySem.Spec PyProof.Rows L2 NdefX LamX
section
variable {P : Program} {w : World} {K : PySem.W.Frag} {mg : Str → Option Value} {base : Heap} {T : List NTab}
theorem PAt.far {av : List Addr} {H : Hp} {p d : Addr} {u : Pump} (h : PAt av H p u) (hd : H d = none) : PAt (d :: av) H p u := by
  obtain ⟨a, b, ts, h⟩ := h
  refine ⟨a, b, ts, h.m, h.t, h.r, h.st, fun z => ?_, fun z => ?_⟩
  · rcases List.mem_cons.mp z with e | e
    · rw [← e, h.t] at hd
      cases hd
    · exact h.na e
  · rcases List.mem_cons.mp z with e | e
    · rw [← e, h.r] at hd
      cases hd
    · exact h.nb e
/-- a pump that the law looks at -/
structure Good (M : Mac) (u : Pump) : Prop where
  form : u.Form M.n
  lets : Lets M u
  few : (u.R (u.rs.length - 1)).1 = (u.R (u.rs.length - 1)).2 → u.rs.length ≤ 11
def sp_pump_of (T : List NTab) : Sp := fun vs H Q _ => ∃ (m : Addr) (M : Mac), vs = [.ref m] ∧ MAt [] H m M ∧ M.Ok ∧ M.n ≤ 5 ∧ TabsN T H ∧ ∀ H' v, Kp T [] H H' → (v = .non ∨ ∃ p u, v = .ref p ∧ (∀ av : List Addr, (∀ x ∈ av, H x ≠ none) → PAt av H' p u) ∧ Good M u) → Q v H'
theorem paired_get {β : Type} {R : Addr → β → Prop} {ts : List Addr} {S : List β} (h : Paired R ts S) : ∀ {i : Nat} {v : V}, (ts.map V.ref)[i]? = some v → ∃ t s, v = .ref t ∧ ts[i]? = some t ∧ S[i]? = some s ∧ R t s := by
  induction h with
  | nil => intro i v e; simp at e
  | @cons t s ts S q r ih =>
    intro i v e
    cases i with
    | zero =>
      have e' : V.ref t = v := by simpa using e
      exact ⟨t, s, e'.symm, rfl, rfl, q⟩
    | succ i =>
      obtain ⟨t', s', h1, h2, h3, h4⟩ := ih (i := i) (v := v) (by simpa using e)
      exact ⟨t', s', h1, by simpa using h2, by simpa using h3, h4⟩
/-- pumps in the heap -/
def PsAt (av : List Addr) (H : Hp) (ps : List Addr) (us : List Pump) : Prop := Paired (fun p u => PAt av H p u) ps us
theorem ifs_join {b : Bool} {D : L2.Ends} {σ : L2.St} {H : Hp} {A : Prop} (I : L2.St → Hp → Prop) (hK : ∀ σ H, I σ H → D.nx σ H) (h1 : b = true → (∀ σ H, I σ H → D.nx σ H) → A) (h2 : b = false → I σ H) : if b = true then A else D.nx σ H := by
  cases b with
  | true => exact h1 rfl hK
  | false => exact hK σ H (h2 rfl)
def sp_law (T : List NTab) : Sp := fun vs H Q _ => ∃ (a : Addr) (ns : List Int), vs = [.ref a] ∧ SqL K H a (ns.map V.int) ∧ TabsN T H ∧ ∀ H', Kp T [] H H' → Q (.bl true) H'
theorem ok_law (F : Fn K mg "law" s_law) (Tx : Txt mg)
    (D__law_hand : DOk P w K mg base "_law_hand" 1 ["_law_script", "_law_k"] [] (sp_hand (K := K) T))
    (D__law_draw : DOk P w K mg base "_law_draw" 1 ["_law_hand_here", "_law_size"] [] (sp_draw T))
    (D__law_letters : DOk P w K mg base "_law_letters" 2 ["_law_hand_here"] [] (sp_letters T))
    (D__law_machine : DOk P w K mg base "_law_machine" 3 ["_law_hand_here", "_law_upto", "_law_extra", "_law_letters_here"] [] (sp_machine T))
    (D__law_line : DOk P w K mg base "_law_line" 2 ["_law_hand_here", "_law_letters_here"] [] (sp_line T))
    (D__law_drawn : DOk P w K mg base "_law_drawn" 3 ["_law_hand_here", "_law_machine_here", "_law_letters_here"] [] (sp_drawn T))
    (D_lets_pump : DOk P w K mg base "lets_pump" 6 ["machine", "thing"] [] (sp_lets_pump T))
    (D_pump_of : DOk P w K mg base "pump_of" 14 ["machine"] [] (sp_pump_of T))
    (D__law_right : DOk P w K mg base "_law_right" 8 ["_law_machine_here", "_law_pump"] [] (sp_right T)) :
    DOk P w K mg base "law" 15 ["_law_script"] [] (sp_law (K := K) T) := by
  refine F.dok sc_law b_law (fun vs H Q E h => ?_) (fun f cdv A outer s H vs Q E hr h => ?_)
  · obtain ⟨a, ns, rfl, _⟩ := h
    rfl
  · obtain ⟨a, ns, rfl, ha, hT, q⟩ := h
    refine ⟨_, (pss_cons (ps_for PassesOwn.never rfl (pi_range1 (by rfl) Tx.n_range (pa_cons (pe_callB (call_max2 rfl) (by rfl) Tx.n_max (by decide +kernel) (pa_cons pe_int (pa_cons (pe_callB (call_min2 rfl) (by rfl) Tx.n_min (by decide +kernel) (pa_cons (pe_callB call_len_seq (by rfl) Tx.n_len (by decide +kernel) (pa_cons (pv 0) pa_nil)) (pa_cons pe_int pa_nil))) pa_nil))) pa_nil)) (pg_name (i := 1) sc_law.nd rfl (by first | exact .inl rfl | exact .inr rfl))
      (pss_cons (ps_set (i := 2) sc_law.nd rfl (by first | exact .inl rfl | exact .inr rfl) (pe_d D__law_hand hr (by rfl) (pa_cons (pv 0) (pa_cons (pv 1) pa_nil))))
      (pss_cons (ps_set (i := 3) sc_law.nd rfl (by first | exact .inl rfl | exact .inr rfl) (pe_d D__law_letters hr (by rfl) (pa_cons (pv 2) pa_nil)))
      (pss_cons (ps_set (i := 4) sc_law.nd rfl (by first | exact .inl rfl | exact .inr rfl) (pe_d D__law_machine hr (by rfl) (pa_cons (pv 2) (pa_cons pe_int (pa_cons (pe_ix ix_list (pe_lst (pa_cons pe_int (pa_cons pe_int pa_nil))) (pe_d D__law_draw hr (by rfl) (pa_cons (pv 2) (pa_cons pe_int pa_nil))) (fun _ _ => rfl)) (pa_cons (pv 3) pa_nil))))))
      (pss_cons (ps_if (pt_cmpR op_eq (pe_d D__law_draw hr (by rfl) (pa_cons (pv 2) (pa_cons pe_int pa_nil))) pe_int (nomark _))
      (pss_one (ps_set (i := 4) sc_law.nd rfl (by first | exact .inl rfl | exact .inr rfl) (pe_d D__law_line hr (by rfl) (pa_cons (pv 2) (pa_cons (pv 3) pa_nil))))) pss_nil)
      (pss_cons (ps_setLc (i := 5) (own := [("_law_turn", 8)]) (g := gName 8) (tt := tYes) (by rfl) sc_law.nd rfl rfl (sw_true rfl rfl rfl (by decide +kernel)) (pi_range1 (by rfl) Tx.n_range (pa_cons pe_int pa_nil)) (blkOk_by (N := ["_law_script", "_law_k", "_law_hand_here", "_law_letters_here", "_law_machine_here", "_law_pumps", "_law_told", "_law_pump", "_law_turn"]) (sc := (defScope s_law)) (own := [("_law_turn", 8)]) (by decide +kernel)) (fun _ _ _ _ _ => (pg_name (i := 8) sc_law.nd rfl (by first | exact .inl rfl | exact .inr rfl))) (fun _ _ _ _ _ => pts_nil) (fun _ _ _ _ _ => (pe_d D__law_drawn hr (by rfl) (pa_cons (pv 2) (pa_cons (pv 4) (pa_cons (pv 3) pa_nil))))))
      (pss_cons (ps_setLc (i := 5) (own := [("_law_pump", 7)]) (g := gName 7) (by rfl) sc_law.nd rfl rfl (sw_true rfl rfl rfl (by decide +kernel)) (pi_list (pv 5)) (blkOk_by (N := ["_law_script", "_law_k", "_law_hand_here", "_law_letters_here", "_law_machine_here", "_law_pumps", "_law_told", "_law_pump", "_law_turn"]) (sc := (defScope s_law)) (own := [("_law_pump", 7)]) (by decide +kernel)) (fun _ _ _ _ _ => (pg_name (i := 7) sc_law.nd rfl (by first | exact .inl rfl | exact .inr rfl))) (fun _ _ _ _ _ => (pts_one (pt_val (pe_d D_lets_pump hr (by rfl) (pa_cons (pv 4) (pa_cons (pv 7) pa_nil)))))) (fun _ _ _ _ _ => (pv 7)))
      (pss_cons (ps_set (i := 6) sc_law.nd rfl (by first | exact .inl rfl | exact .inr rfl) (pe_d D_pump_of hr (by rfl) (pa_cons (pv 4) pa_nil)))
      (pss_cons (ps_if (pt_cmpR op_notN (pv 6) pe_non (nomark _))
      (pss_one (ps_expr (pe_bm PySem.F.plainAttrs_list PySem.F.slot_list_append PySem.F.type_list_append mt_append (pv 5) (pa_cons (pv 6) pa_nil)))) pss_nil)
      (pss_one (ps_for PassesOwn.never rfl (pi_list (pv 5)) (pg_name (i := 7) sc_law.nd rfl (by first | exact .inl rfl | exact .inr rfl))
      (pss_one (ps_if (pt_not (pt_val (pe_d D__law_right hr (by rfl) (pa_cons (pv 4) (pa_cons (pv 7) pa_nil)))))
      (pss_one (ps_ret pe_bl)) pss_nil)))))))))))))
      (pss_one (ps_ret pe_bl))), ?_⟩
    obtain ⟨n, hn, hn4⟩ : ∃ n : Nat, (if (if (4 : Int) < (((ns.map V.int).length : Nat) : Int) then (4 : Int) else (((ns.map V.int).length : Nat) : Int)) > 1 then (if (4 : Int) < (((ns.map V.int).length : Nat) : Int) then (4 : Int) else (((ns.map V.int).length : Nat) : Int)) else 1) = (n : Int) ∧ n ≤ 4 := by
      refine ⟨(if (if (4 : Int) < (((ns.map V.int).length : Nat) : Int) then (4 : Int) else (((ns.map V.int).length : Nat) : Int)) > 1 then (if (4 : Int) < (((ns.map V.int).length : Nat) : Int) then (4 : Int) else (((ns.map V.int).length : Nat) : Int)) else 1).toNat, ?_, ?_⟩
      · split <;> omega
      · split <;> (try split) <;> omega
    refine ⟨_, rfl, a, _, rfl, .inl ha, _, _, rfl, _, _, rfl, (n : Int), ?_, by omega, by omega, ?_⟩
    · show [V.int _] = [V.int _]
      rw [hn]
    refine for_it (walk_range0 (n := n)) (fun i σ H1 => ∃ y1 y2 y3 y4 y5 y6 y7 y8 : Option V, σ = [some (.ref a), y1, y2, y3, y4, y5, y6, y7, y8] ∧ Kp T [] H H1) ⟨_, _, _, _, _, _, _, _, rfl, Kp.refl H⟩ (fun _ _ _ _ _ => trivial) (fun i x σ H1 H2 hi h1 y => ?_) (fun σ H1 h1 => ?_)
    · obtain ⟨y1, y2, y3, y4, y5, y6, y7, y8, rfl, k1⟩ := h1
      obtain ⟨rfl, rfl⟩ := y
      have hi4 : i < 4 := by omega
      refine ⟨_, rfl, _, rfl, a, ns, i, rfl, K51.SqL.kp ha k1 (by simp), by omega, fun H3 hd k3 nhd hh3 => ?_⟩
      refine ⟨_, rfl, hd, rfl, hh3, fun H4 L k4 hh4 hL => ?_⟩
      refine ⟨_, rfl, sz_ok (by simp), fun p0 hp0 => ?_⟩
      have k5 := k4.snew (o := .lst [.int 4, .int 9]) hp0
      have hh5 := hh4.off (o := .lst [.int 4, .int 9]) hp0
      refine ⟨_, rfl, hd, 2, rfl, hh5, by omega, by omega, fun H6 z k6 hh6 hz => ?_⟩
      have e1 : ∃ e : Nat, e ≤ 20 ∧ ([V.int 4, .int 9] : List V)[z]? = some (ni e) := by
        match z, hz with
        | 0, _ => exact ⟨4, by omega, rfl⟩
        | 1, _ => exact ⟨9, by omega, rfl⟩
      obtain ⟨e, he, e1⟩ := e1
      refine ⟨p0, _, _, _, rfl, rfl, SqL.of (k6.getX upd_same (hh4.ne hp0)), atI_nat e1, ?_⟩
      refine ⟨_, rfl, hd, 5, e, L, rfl, hh6, hL, by omega, by omega, he, fun H7 m M k7 hh7 hM ok hn5 => ?_⟩
      have k57 := (k5.trans k6).trans k7
      refine ⟨_, rfl, hd, 2, rfl, hh7, by omega, by omega, fun H8 z2 k8 hh8 hz2 => ?_⟩
      refine ⟨rfl, decide (z2 = 0), ?_, ?_⟩
      · show V.bl (decide (ni z2 = V.int 0)) = _
        by_cases e0 : z2 = 0
        · rw [decide_eq_true e0, decide_eq_true (by rw [e0]; rfl)]
        · rw [decide_eq_false e0, decide_eq_false (fun z => e0 (by injection z with z; omega))]
      refine ifs_join (fun σ' H' => ∃ (m : Addr) (M : Mac) (y5 y6 y7 y8 : Option V), σ' = [some (.ref a), some (ni i), some (.ref hd), some (wd L), some (.ref m), y5, y6, y7, y8] ∧ Kp T [hd] H3 H' ∧ Hand H' hd ∧ MAt [hd] H' m M ∧ M.Ok ∧ M.n ≤ 5) (fun σ9 H9 h9 => ?_) (fun _ hK => ?_) (fun _ => ?_)
      · obtain ⟨m, M, y5, y6, y7, y8, rfl, k9, hh9, hM, ok, hn5⟩ := h9
        refine ⟨20, rfl, by omega, by omega, fun D hD => ?_⟩
        have nD := hh9.ne hD
        refine lc_it (walk_range0 (n := 20)) (fun i H2 => ∃ ps us, Kp T [hd] H9 H2 ∧ Hand H2 hd ∧ H2 D = some (.lst (ps.map V.ref)) ∧ PsAt [hd, D] H2 ps us ∧ ps.length = i ∧ ∀ u ∈ us, u.Form M.n ∧ u.rs.length ≤ 3) ⟨[], [], Kp.new hD, hh9.off hD, upd_same, .nil, rfl, fun _ h => nomatch h⟩ (fun _ _ _ _ => trivial) (fun j x H2 H4 hj h2 y => ?_) (fun H2 h2 => ?_)
        · obtain ⟨ps, us, k2, hh2, eD, hps, hl, hus⟩ := h2
          obtain ⟨rfl, rfl⟩ := y
          have hj2 : j < 20 := hj
          refine ⟨rfl, ?_⟩
          refine ⟨_, rfl, _, rfl, _, rfl, hd, m, M, L, rfl, hh2, hM.kpX k2 (fun b hb => ⟨hb, hh9.lists b hb⟩), ok, hL, fun H5 p u k5 hh5 hP hf hl3 => ?_⟩
          have eD5 := k5.getX eD nD
          have kset : Kp T [D] H5 (upd H5 D (.lst (ps.map V.ref ++ [.ref p]))) := (Kp.refl H5).mut (.inr List.mem_cons_self) eD5
          have hset : ∀ b ∈ [D], b ∈ [hd, D] ∧ ∃ xs, H5 b = some (.lst xs) := fun b hb => by
            rw [List.mem_singleton.mp hb]
            exact ⟨by simp, _, eD5⟩
          refine ⟨_, eD5, by rw [List.length_map]; exact sz_lt (by omega), ps ++ [p], us ++ [u], (k2.trans k5).mut (.inl hD) eD5, hh5.set (hh9.neq hD), by rw [upd_same, List.map_append]; rfl, Paired.snoc (Paired.mapP hps fun p' u' hp' => ?_) ?_, by rw [List.length_append]; show _ + 1 = _; omega, fun u' hu' => ?_⟩
          · exact (hp'.kpX k5 (fun b hb => ⟨by rw [List.mem_singleton.mp hb]; exact List.mem_cons_self, hh2.lists b hb⟩)).kpX kset hset
          · refine (hP [hd, D] (fun x hx => ?_)).kpX kset hset
            rcases List.mem_cons.mp hx with h | h
            · obtain ⟨xs, ex⟩ := hh2.lists hd List.mem_cons_self
              rw [h, ex]
              simp
            · rw [List.mem_singleton.mp h, eD]
              simp
          · rcases List.mem_append.mp hu' with h | h
            · exact hus u' h
            · rw [List.mem_singleton.mp h]
              exact ⟨hf, hl3⟩
        · obtain ⟨ps, us, k2, hh2, eD, hps, hl, hus⟩ := h2
          have hl20 : ps.length = 20 := hl
          have hM2 := hM.kpX k2 (fun b hb => ⟨hb, hh9.lists b hb⟩)
          refine ⟨_, rfl, D, rfl, ⟨_, SqL.of eD⟩, fun D2 hD2 => ?_⟩
          refine lc_it (walk_list (xs := ps.map V.ref)) (fun i H5 => ∃ ps2 us2, Kp T [] H2 H5 ∧ H5 D2 = some (.lst (ps2.map V.ref)) ∧ Paired (fun p u => PAt [] H2 p u ∧ Good M u) ps2 us2 ∧ ps2.length ≤ i) ⟨[], [], Kp.new hD2, upd_same, .nil, Nat.le_refl _⟩ (fun i H5 _ h5 => by obtain ⟨_, _, k5, _⟩ := h5; exact SqL.of (k5.get eD)) (fun j x H5 H6 hj h5 y => ?_) (fun H5 h5 => ?_)
          · obtain ⟨ps2, us2, k5, eD5, hps2, hl2⟩ := h5
            obtain ⟨rfl, e2⟩ := y
            have hj2 : j < 20 := by rw [List.length_map] at hj; omega
            obtain ⟨p, u, rfl, ep, eu, hP⟩ := paired_get hps e2
            have hu := hus u (List.mem_of_getElem? eu)
            refine ⟨rfl, ?_⟩
            refine ⟨_, rfl, _, rfl, m, p, M, u, rfl, (hM2.kp k5).off, ok, (hP.kp k5).off, hu.1, fun H7 bb k7 hbb => ?_⟩
            have eD7 := k7.get eD5
            cases bb with
            | true =>
              refine ⟨true, rfl, iteT ?_⟩
              refine ⟨_, rfl, ?_⟩
              exact ⟨_, eD7, by rw [List.length_map]; exact sz_lt (by omega), ps2 ++ [p], us2 ++ [u], (k5.trans k7).mut (.inl hD2) eD7, by rw [upd_same, List.map_append]; rfl, Paired.snoc hps2 ⟨hP.off, hu.1, hbb.mp rfl, fun _ => by have := hu.2; omega⟩, by rw [List.length_append]; show _ + 1 ≤ _; omega⟩
            | false =>
              refine ⟨false, rfl, iteF ?_⟩
              exact ⟨ps2, us2, k5.trans k7, eD7, hps2, by omega⟩
          · obtain ⟨ps2, us2, k5, eD5, hps2, hl2⟩ := h5
            rw [List.length_map, hl20] at hl2
            have hM5 := (hM2.kp k5).off
            refine ⟨_, rfl, m, M, rfl, hM5, ok, hn5, k5.tab (k2.tab (k9.tab (k3.tab (k1.tab hT)))), fun H6 v k6 hv => ?_⟩
            have eD6 := k6.get eD5
            have k56 := k5.trans k6
            refine ⟨_, rfl, rfl, !decide (v = .non), rfl, ?_⟩
            refine ifs_join (fun σ' H' => ∃ (v : V) (ps3 : List Addr) (us3 : List Pump) (y7 y8 : Option V), σ' = [some (.ref a), some (ni i), some (.ref hd), some (wd L), some (.ref m), some (.ref D2), some v, y7, y8] ∧ Kp T [] H2 H' ∧ H' D2 = some (.lst (ps3.map V.ref)) ∧ Paired (fun p u => PAt [] H' p u ∧ Good M u) ps3 us3) (fun σ8 H8 h8 => ?_) (fun hb hK => ?_) (fun _ => ?_)
            · obtain ⟨v, ps3, us3, y7, y8, rfl, k8, eD8, hps3⟩ := h8
              refine ⟨_, rfl, D2, rfl, ⟨_, SqL.of eD8⟩, ?_⟩
              refine for_it (walk_list (xs := ps3.map V.ref)) (fun i' σ H9 => ∃ y7 : Option V, σ = [some (.ref a), some (ni i), some (.ref hd), some (wd L), some (.ref m), some (.ref D2), some v, y7, y8] ∧ Kp T [] H8 H9) ⟨_, rfl, Kp.refl H8⟩ (fun i' σ H9 _ h1 => ?_) (fun i' x σ H9 H10 hi' h1 y => ?_) (fun σ H9 h1 => ?_)
              · obtain ⟨_, _, k⟩ := h1
                exact SqL.of (k.get eD8)
              · obtain ⟨y7, rfl, k⟩ := h1
                obtain ⟨rfl, e2⟩ := y
                obtain ⟨p, u, rfl, ep, eu, hP, hG⟩ := paired_get hps3 e2
                refine ⟨_, rfl, _, rfl, m, M, p, u, rfl, ((hM2.kp k8).kp k).off, ok, hP.kp k, hG.form, hG.lets, hG.few, fun H11 k11 => ?_⟩
                refine ⟨true, rfl, iteF ?_⟩
                exact ⟨_, rfl, k.trans k11⟩
              · obtain ⟨y7, rfl, k⟩ := h1
                refine ⟨_, _, _, _, _, _, _, _, rfl, k1.trans (Kp.drop k3 ((k9.trans k2).trans ((k8.trans k).nil)) fun b hb => .inr ?_)⟩
                rw [List.mem_singleton.mp hb]
                exact nhd
            · rcases hv with hv | ⟨p, u, rfl, hP, hG⟩
              · subst hv
                exact absurd hb (by simp)
              have kset : Kp T [D2] H6 (upd H6 D2 (.lst (ps2.map V.ref ++ [.ref p]))) := (Kp.refl H6).mut (.inr List.mem_cons_self) eD6
              have kall : Kp T [] H2 (upd H6 D2 (.lst (ps2.map V.ref ++ [.ref p]))) := k56.mut (.inl hD2) eD6
              refine ⟨_, rfl, .inl ⟨rfl, _, SqL.of eD6⟩, _, rfl, D2, _, _, rfl, rfl, eD6, ?_, ?_⟩
              · rw [List.length_map]
                exact sz_lt (by omega)
              refine hK _ _ ⟨.ref p, ps2 ++ [p], us2 ++ [u], _, _, rfl, kall, by rw [upd_same, List.map_append]; rfl, Paired.snoc (Paired.mapP hps2 fun p' u' h' => ⟨h'.1.kp kall, h'.2⟩) ⟨?_, hG⟩⟩
              refine ((hP [D2] fun x hx => ?_).kpX kset fun b hb => ⟨hb, ?_⟩).off
              · rw [List.mem_singleton.mp hx, eD5]
                simp
              · rw [List.mem_singleton.mp hb]
                exact ⟨_, eD6⟩
            · exact ⟨v, ps2, us2, _, _, rfl, k56, eD6, Paired.mapP hps2 fun p' u' h' => ⟨h'.1.kp k56, h'.2⟩⟩
      · refine ⟨_, rfl, _, rfl, hd, L, rfl, hh8, hL, fun H9 m2 M2 k9 hh9 hM2 ok2 hn52 => ?_⟩
        exact hK _ _ ⟨m2, M2, _, _, _, _, rfl, (k57.trans k8).trans k9, hh9, hM2, ok2, hn52⟩
      · exact ⟨m, M, _, _, _, _, rfl, k57.trans k8, hh8, hM.kpX k8 (fun b hb => ⟨hb, hh7.lists b hb⟩), ok, hn5⟩
    · exact q H1 (by obtain ⟨_, _, _, _, _, _, _, _, _, k⟩ := h1; exact k)
end
end K51
/-! useful rooms -/
namespace K51
open PySem PySem.Spec PyProof.Rows L2 NdefX LamX
theorem hu0 {A : Around} {k : Nat} (hr : Room k A) : A.units < cLine := by
  have := hr.un
  omega
/-! ### reach -/
inductive Rch (E : List (Nat × Nat)) : Nat → Nat → Prop where
  | refl (a : Nat) : Rch E a a
  | step {a b c : Nat} : Rch E a b → (b, c) ∈ E → Rch E a c
/-- the numbers that some of rs reach -/
def FromE (E : List (Nat × Nat)) (rs : List Nat) (q : Nat) : Prop := ∃ r ∈ rs, Rch E r q
theorem fromE_closed {E : List (Nat × Nat)} {rs ks : List Nat} (h1 : ∀ r ∈ rs, r ∈ ks) (h2 : ∀ a b, a ∈ ks → (a, b) ∈ E → b ∈ ks) {q : Nat} (h : FromE E rs q) : q ∈ ks := by
  obtain ⟨r, hr, h⟩ := h
  induction h with
  | refl => exact h1 r hr
  | step a e ih => exact h2 _ _ ih e
theorem nodup_le : ∀ {n : Nat} {ks : List Nat}, ks.Nodup → (∀ k ∈ ks, k < n) → ks.length ≤ n
  | 0, ks, _, hb => by
    cases ks with
    | nil => exact Nat.le_refl _
    | cons a ks => exact absurd (hb a List.mem_cons_self) (Nat.not_lt_zero _)
  | n + 1, ks, h, hb => by
    have h1 := nodup_le (n := n) (h.erase n) fun k hk => by
      have h2 := (List.Nodup.mem_erase_iff h).mp hk
      have h3 := hb k h2.2
      have h4 := h2.1
      omega
    rw [List.length_erase] at h1
    split at h1 <;> omega
theorem filt_pos {α : Type} {p : α → Bool} {E : List α} {i : Nat} {e : α} (h : E[i]? = some e) (hp : p e = true) : (E.take (i + 1)).filter p = (E.take i).filter p ++ [e] := by
  rw [List.take_add_one, h, List.filter_append]
  show _ ++ ([e].filter p) = _
  rw [List.filter_cons_of_pos hp]
  rfl
theorem filt_neg {α : Type} {p : α → Bool} {E : List α} {i : Nat} {e : α} (h : E[i]? = some e) (hp : p e = false) : (E.take (i + 1)).filter p = (E.take i).filter p := by
  rw [List.take_add_one, h, List.filter_append]
  show _ ++ ([e].filter p) = _
  rw [List.filter_cons_of_neg (by rw [hp]; decide)]
  exact List.append_nil _
theorem nil_or_snoc {α : Type} (ws : List α) : ws = [] ∨ ∃ l a, ws = l ++ [a] := by
  rcases List.eq_nil_or_concat ws with h | ⟨l, a, h⟩
  · exact .inl h
  · exact .inr ⟨l, a, by rw [h, List.concat_eq_append]⟩
abbrev EdgesAt (H : Hp) (ts : List Addr) (E : List (Nat × Nat)) : Prop := RndsAt H ts E
/-- a known dict of whole numbers -/
def kdl (ks : List Nat) : List (Key × V) := ks.map fun (k : Nat) => (Sum.inl (k : Int), V.bl true)
abbrev kd (ks : List Nat) : HO := .dK (kdl ks)
theorem kd_get (ks : List Nat) (k : Nat) : (valV (kdl ks) (Sum.inl (k : Int))).isSome = decide (k ∈ ks) := by
  induction ks with
  | nil => rfl
  | cons a ks ih =>
    show (valV (((Sum.inl (a : Int) : Key), V.bl true) :: kdl ks) (Sum.inl (k : Int))).isSome = _
    by_cases e : a = k
    · subst e
      rw [valV_pos (show ((Sum.inl (a : Int) : Key), V.bl true).1 = Sum.inl (a : Int) from rfl), decide_eq_true List.mem_cons_self]
      rfl
    · rw [valV_neg (show ¬ ((Sum.inl (a : Int) : Key), V.bl true).1 = Sum.inl (k : Int) from fun z => e (by injection z with z; omega)), ih]
      by_cases h : k ∈ ks
      · rw [decide_eq_true h, decide_eq_true (List.mem_cons_of_mem _ h)]
      · rw [decide_eq_false h, decide_eq_false (fun z => by
          rcases List.mem_cons.mp z with z | z
          · exact e z.symm
          · exact h z)]
theorem kd_none {ks : List Nat} {k : Nat} (h : k ∉ ks) : valV (kdl ks) (Sum.inl (k : Int)) = none := by
  have := kd_get ks k
  rw [decide_eq_false h] at this
  cases e : valV (kdl ks) (Sum.inl (k : Int)) with
  | none => rfl
  | some v => rw [e] at this; cases this
section
variable {P : Program} {w : World} {K : PySem.W.Frag} {mg : Str → Option Value} {base : Heap} {T : List NTab}
def sp_come_to (T : List NTab) : Sp := fun vs H Q _ => ∃ (a b : Addr) (ts : List Addr) (E : List (Nat × Nat)) (rs : List Nat) (n : Nat), vs = [.ref a, .ref b] ∧ H a = some (.lst (ts.map V.ref)) ∧ EdgesAt H ts E ∧ H b = some (.lst (rs.map ni)) ∧ (∀ e ∈ E, e.1 < n ∧ e.2 < n) ∧ (∀ r ∈ rs, r < n) ∧ n ≤ 12 ∧ E.length ≤ 200 ∧ rs.length ≤ 12 ∧
  ∀ H' d (ks : List Nat), Kp T [] H H' → H d = none → H' d = some (kd ks) → (∀ q, q ∈ ks ↔ FromE E rs q) → Q (.ref d) H'
theorem ok_come_to (F : Fn K mg "come_to" s_come_to) (Tx : Txt mg) : DOk P w K mg base "come_to" 1 ["steps", "rooms"] [] (sp_come_to T) := by
  refine F.dok sc_come_to b_come_to (fun vs H Q E h => ?_) (fun f cdv A outer s H vs Q E hr h => ?_)
  · obtain ⟨a, b, ts, E, rs, n, rfl, _⟩ := h
    rfl
  · obtain ⟨a, b, ts, E, rs, n, rfl, ha, hE, hb, hEb, hrb, hn, hEl, hrl, q⟩ := h
    have lts := hE.len
    refine ⟨_, (pss_cons (ps_set (i := 2) sc_come_to.nd rfl (by first | exact .inl rfl | exact .inr rfl) pe_dnewK)
      (pss_cons (ps_set (i := 3) sc_come_to.nd rfl (by first | exact .inl rfl | exact .inr rfl) (pe_callTy call_list_of (by rfl) Tx.n_list (by decide +kernel) (pa_cons (pv 1) pa_nil)))
      (pss_cons (ps_while PassesOwn.never (pt_cmpR (op_neNil (hu0 hr)) (pv 3) (pe_lst pa_nil) (nomark _))
      (pss_cons (ps_set (i := 4) sc_come_to.nd rfl (by first | exact .inl rfl | exact .inr rfl) (pe_bm0 PySem.F.plainAttrs_list PySem.F.slot_list_pop PySem.F.type_list_pop mt_pop (pv 3)))
      (pss_one (ps_if (pt_cmp (pc_dnotin (hu_of hr) (pv 4) (pv 2)))
      (pss_cons (ps_dput (hu_of hr) (pv 2) (pv 4) pe_bl rfl)
      (pss_one (ps_expr (pe_bm PySem.F.plainAttrs_list PySem.F.slot_list_extend PySem.F.type_list_extend mt_extend (pv 3) (pa_cons (pe_lc (own := [("here", 5), ("to", 6)]) (g := gTup K 2 (gCons (gName 5) (gCons (gName 6) gNil))) (by rfl) sc_come_to.nd (pi_list (pv 0)) (blkOk_by (N := ["steps", "rooms", "found", "waiting", "room", "here", "to"]) (sc := (defScope s_come_to)) (own := [("here", 5), ("to", 6)]) (by decide +kernel)) (fun _ _ _ _ _ => (pg_tup rfl (pgs_cons (pg_name (i := 5) sc_come_to.nd rfl (by first | exact .inl rfl | exact .inr rfl)) (pgs_cons (pg_name (i := 6) sc_come_to.nd rfl (by first | exact .inl rfl | exact .inr rfl)) pgs_nil)))) (fun _ _ _ _ _ => (pts_one (pt_cmpR op_eq (pv 5) (pv 4) (nomark _)))) (fun _ _ _ _ _ => (pv 6))) pa_nil))))) pss_nil))))
      (pss_one (ps_ret (pv 2)))))), ?_⟩
    intro d hd
    have k1 : Kp T [] H (upd H d (.dK [])) := Kp.new hd
    refine ⟨_, rfl, b, _, rfl, .inl (SqL.of (k1.get hb)), fun wa hwa => ?_⟩
    have nwa : H wa = none := k1.free hwa
    have k2 := k1.snew (o := .lst (rs.map ni)) hwa
    have nwd : d ≠ wa := ne_of_none upd_same hwa
    refine ⟨fun m σ H1 => ∃ (ks ws : List Nat) (y4 y5 y6 : Option V), σ = [some (.ref a), some (.ref b), some (.ref d), some (.ref wa), y4, y5, y6] ∧ Kp T [] H H1 ∧ H1 d = some (kd ks) ∧ H1 wa = some (.lst (ws.map ni)) ∧ ks.Nodup ∧ (∀ k ∈ ks, k < n ∧ FromE E rs k) ∧ (∀ k ∈ ws, k < n ∧ FromE E rs k) ∧ (∀ r ∈ rs, r ∈ ks ∨ r ∈ ws) ∧ (∀ x y, x ∈ ks → (x, y) ∈ E → y ∈ ks ∨ y ∈ ws) ∧ m = (n - ks.length) * 201 + ws.length ∧ ws.length ≤ 12 + ks.length * 200, ⟨_, [], rs, _, _, _, rfl, k2, by rw [upd_ne nwd, upd_same]; rfl, upd_same, List.nodup_nil, (fun _ h => nomatch h), (fun r h => ⟨hrb r h, r, h, .refl r⟩), (fun r h => .inr h), (fun _ _ h => nomatch h), rfl, by show rs.length ≤ 12 + 0 * 200; omega⟩, fun m σ H1 h1 => ?_⟩
    obtain ⟨ks, ws, y4, y5, y6, rfl, k, ed, ew, hnd, hk, hw, hrs, hcl, hm, hsz⟩ := h1
    have hkl := nodup_le hnd (fun x hx => (hk x hx).1)
    refine ⟨_, rfl, sz_ok (by simp), fun p hp => ?_⟩
    have k' := k.snew (o := .lst []) hp
    have ed' : upd H1 p (.lst []) d = some (kd ks) := by rw [upd_ne (ne_of_none ed hp)]; exact ed
    have ew' : upd H1 p (.lst []) wa = some (.lst (ws.map ni)) := by rw [upd_ne (ne_of_none ew hp)]; exact ew
    have ep' : upd H1 p (.lst []) p = some (.lst []) := upd_same
    generalize upd H1 p (.lst []) = H2 at *
    refine ⟨wa, p, _, rfl, rfl, SqL.of ew', SqL.of ep', ?_⟩
    clear k ed ew ep'
    rcases nil_or_snoc ws with rfl | ⟨ws', r, rfl⟩
    · refine ⟨false, rfl, iteF ?_⟩
      refine ⟨_, rfl, q H2 d ks k' hd ed' fun x => ⟨fun hx => (hk x hx).2, fun hx => fromE_closed (fun r hr => (hrs r hr).elim id fun z => nomatch z) (fun x y hx hxy => (hcl x y hx hxy).elim id fun z => nomatch z) hx⟩⟩
    refine ⟨true, ?_, iteT ⟨fun σ' H' => ∃ m', m' < m ∧ _, fun _ _ h => h, ?_⟩⟩
    · show V.bl (!((ws' ++ [r]).map ni).isEmpty) = V.bl true
      rw [List.map_append]
      simp
    have hwr := hw r (List.mem_append_right _ List.mem_cons_self)
    have hlw : (ws' ++ [r]).length = ws'.length + 1 := by rw [List.length_append]; rfl
    refine ⟨_, rfl, .inl ⟨rfl, _, SqL.of ew'⟩, wa, _, ni r, rfl, rfl, ew', ?_, ?_⟩
    · rw [List.length_map, hlw, List.map_append, List.getElem?_append_right (by rw [List.length_map]; omega)]
      rw [List.length_map]
      show [ni r][ws'.length + 1 - 1 - ws'.length]? = _
      rw [show ws'.length + 1 - 1 - ws'.length = 0 by omega]
      rfl
    have edl : ((ws' ++ [r]).map ni).dropLast = ws'.map ni := by
      rw [List.map_append]
      exact List.dropLast_concat
    rw [edl]
    have k3 := k'.mut (o := .lst (ws'.map ni)) (.inl nwa) ew'
    have ed3 : upd H2 wa (.lst (ws'.map ni)) d = some (kd ks) := by rw [upd_ne nwd]; exact ed'
    have ew3 : upd H2 wa (.lst (ws'.map ni)) wa = some (.lst (ws'.map ni)) := upd_same
    generalize upd H2 wa (.lst (ws'.map ni)) = H3 at *
    refine ⟨_, rfl, _, rfl, d, _, rfl, DGet.k ed3 (k := Sum.inl (r : Int)), !decide (r ∈ ks), ?_, ?_⟩
    · rw [kd_get]
    by_cases hin : r ∈ ks
    · rw [decide_eq_true hin]
      refine iteF ⟨_, ?_, ks, ws', _, _, _, rfl, k3, ed3, ew3, hnd, hk, fun x hx => hw x (List.mem_append_left _ hx), fun x hx => ?_, fun x y hx hxy => ?_, rfl, by omega⟩
      · rw [hm, hlw]
        omega
      · rcases hrs x hx with h | h
        · exact .inl h
        · rcases List.mem_append.mp h with h | h
          · exact .inr h
          · rw [List.mem_singleton.mp h]
            exact .inl hin
      · rcases hcl x y hx hxy with h | h
        · exact .inl h
        · rcases List.mem_append.mp h with h | h
          · exact .inr h
          · rw [List.mem_singleton.mp h]
            exact .inl hin
    · rw [decide_eq_false hin]
      refine iteT ?_
      have hks1 : (ks ++ [r]).Nodup := by
        rw [List.nodup_append]
        exact ⟨hnd, by simp, fun x hx y hy => by rw [List.mem_singleton.mp hy]; exact fun e => hin (e ▸ hx)⟩
      have hks2 : ∀ k ∈ ks ++ [r], k < n ∧ FromE E rs k := fun x hx => by
        rcases List.mem_append.mp hx with h | h
        · exact hk x h
        · rw [List.mem_singleton.mp h]
          exact hwr
      have hkl2 := nodup_le hks1 (fun x hx => (hks2 x hx).1)
      have hkl3 : (ks ++ [r]).length = ks.length + 1 := by rw [List.length_append]; rfl
      refine ⟨_, rfl, _, rfl, d, _, rfl, DPut.k ed3 (k := Sum.inl (r : Int)) (v := V.bl true) (by
        unfold kdl
        rw [List.length_map]
        exact sz_lt (by omega)), ?_⟩
      rw [putK_new _ (kd_none hin)]
      have k4 := k3.mut (o := kd (ks ++ [r])) (.inl hd) ed3
      have eput : kdl ks ++ [((Sum.inl (r : Int) : Key), V.bl true)] = kdl (ks ++ [r]) := by
        unfold kdl
        rw [List.map_append]
        rfl
      rw [eput]
      have ed4 : upd H3 d (kd (ks ++ [r])) d = some (kd (ks ++ [r])) := upd_same
      have ew4 : upd H3 d (kd (ks ++ [r])) wa = some (.lst (ws'.map ni)) := by rw [upd_ne nwd.symm]; exact ew3
      generalize upd H3 d (kd (ks ++ [r])) = H4 at *
      refine ⟨_, rfl, .inl ⟨rfl, _, SqL.of ew4⟩, _, rfl, a, rfl, ⟨_, SqL.of (k4.get ha)⟩, fun D hD => ?_⟩
      refine lc_it (walk_list (xs := ts.map V.ref)) (fun i H5 => Kp T [] H4 H5 ∧ H5 D = some (.lst ((((E.take i).filter fun e => decide (e.1 = r)).map Prod.snd).map ni))) ⟨Kp.new hD, upd_same⟩ (fun i H5 _ h5 => SqL.of ((k4.trans h5.1).get ha)) (fun i x H5 H6 hi h5 y => ?_) (fun H5 h5 => ?_)
      · obtain ⟨k5, eD⟩ := h5
        obtain ⟨rfl, e2⟩ := y
        obtain ⟨t, e, rfl, et, ee, hte⟩ := hE.get e2
        have hi2 : i < E.length := (List.getElem?_eq_some_iff.mp ee).1
        refine ⟨t, _, rfl, SqT.of ((k4.trans k5).get hte), rfl, _, _, rfl, _, _, rfl, rfl, rfl, ?_⟩
        refine ⟨_, rfl, _, rfl, rfl, ?_⟩
        by_cases he : e.1 = r
        · refine ⟨true, ?_, iteT ?_⟩
          · show V.bl (decide (V.int (e.1 : Int) = V.int (r : Int))) = V.bl true
            rw [decide_eq_true (by rw [he])]
          refine ⟨_, rfl, ?_⟩
          refine ⟨_, eD, ?_, k5.mut (.inl hD) eD, ?_⟩
          · rw [List.length_map, List.length_map]
            have := List.length_filter_le (fun e : Nat × Nat => decide (e.1 = r)) (E.take i)
            rw [List.length_take] at this
            exact sz_lt (by omega)
          · rw [upd_same, filt_pos ee (decide_eq_true he), List.map_append, List.map_append]
            rfl
        · refine ⟨false, ?_, iteF ?_⟩
          · show V.bl (decide (V.int (e.1 : Int) = V.int (r : Int))) = V.bl false
            rw [decide_eq_false (fun z => he (by injection z with z; omega))]
          refine ⟨k5, ?_⟩
          rw [eD, filt_neg ee (decide_eq_false he)]
      · obtain ⟨k5, eD⟩ := h5
        rw [List.take_of_length_le (by rw [List.length_map, lts]; exact Nat.le_refl _)] at eD
        have ew5 := k5.get ew4
        have ed5 := k5.get ed4
        have nDw : D ≠ wa := (ne_of_none ew4 hD).symm
        have hfl : (((E.filter fun e => decide (e.1 = r)).map Prod.snd)).length ≤ E.length := by
          rw [List.length_map]
          exact List.length_filter_le _ _
        refine ⟨wa, D, _, _, rfl, rfl, ew5, eD, ?_, ?_⟩
        · rw [List.length_map, List.length_map]
          exact sz_ok (by omega)
        refine ⟨_, ?_, ks ++ [r], ws' ++ ((E.filter fun e => decide (e.1 = r)).map Prod.snd), _, _, _, rfl, (k4.trans k5).mut (.inl nwa) ew5, by rw [upd_ne nwd]; exact ed5, by rw [upd_same, List.map_append], hks1, hks2, fun x hx => ?_, fun x hx => ?_, fun x y hx hxy => ?_, rfl, ?_⟩
        · rw [hm, hlw, hkl3, List.length_append]
          have e1 : (n - ks.length) * 201 = (n - (ks.length + 1)) * 201 + 201 := by omega
          omega
        · rcases List.mem_append.mp hx with h | h
          · exact hw x (List.mem_append_left _ h)
          · obtain ⟨e, he, e1⟩ := List.mem_map.mp h
            obtain ⟨he1, he2⟩ := List.mem_filter.mp he
            have he3 : e.1 = r := of_decide_eq_true he2
            rw [← e1]
            obtain ⟨r0, hr0, hrc⟩ := hwr.2
            refine ⟨(hEb e he1).2, r0, hr0, hrc.step ?_⟩
            rw [← he3]
            exact he1
        · rcases hrs x hx with h | h
          · exact .inl (List.mem_append_left _ h)
          · rcases List.mem_append.mp h with h | h
            · exact .inr (List.mem_append_left _ h)
            · exact .inl (List.mem_append_right _ h)
        · rcases List.mem_append.mp hx with h | h
          · rcases hcl x y h hxy with h | h
            · exact .inl (List.mem_append_left _ h)
            · rcases List.mem_append.mp h with h | h
              · exact .inr (List.mem_append_left _ h)
              · exact .inl (List.mem_append_right _ h)
          · rw [List.mem_singleton.mp h] at hxy
            exact .inr (List.mem_append_right _ (List.mem_map.mpr ⟨(r, y), List.mem_filter.mpr ⟨hxy, decide_eq_true rfl⟩, rfl⟩))
        · rw [hkl3, List.length_append]
          omega
end
end K51
/-! useful rooms, the trimmed machine -/
namespace K51
open PySem PySem.Spec PyProof.Rows L2 NdefX LamX
/-- a truth as a bool -/
noncomputable def dc (p : Prop) : Bool := @decide p (Classical.propDecidable p)
theorem dc_true {p : Prop} (h : p) : dc p = true := @decide_eq_true p (Classical.propDecidable p) h
theorem dc_false {p : Prop} (h : ¬ p) : dc p = false := @decide_eq_false p (Classical.propDecidable p) h
theorem dc_iff {p : Prop} : dc p = true ↔ p := @decide_eq_true_iff p (Classical.propDecidable p)
def fwd (S : List Step) : List (Nat × Nat) := S.map fun s => (s.1, s.2.2)
def bwd (S : List Step) : List (Nat × Nat) := S.map fun s => (s.2.2, s.1)
/-- a room on a way from the first to the last ones -/
def Usf (M : Mac) (r : Nat) : Prop := FromE (fwd M.S) M.fs r ∧ FromE (bwd M.S) M.ls r
noncomputable def usf (M : Mac) : List Nat := (List.range M.n).filter fun r => dc (Usf M r)
theorem mem_usf {M : Mac} {r : Nat} : r ∈ usf M ↔ r < M.n ∧ Usf M r := by
  unfold usf
  rw [List.mem_filter, List.mem_range, dc_iff]
theorem usf_lt {M : Mac} : ∀ r ∈ usf M, r < M.n := fun r h => (mem_usf.mp h).1
theorem usf_len (M : Mac) : (usf M).length ≤ M.n := by
  have := List.length_filter_le (fun r => dc (Usf M r)) (List.range M.n)
  rw [List.length_range] at this
  exact this
theorem usf_pw (M : Mac) : (usf M).Pairwise (· < ·) := List.Pairwise.filter _ List.pairwise_lt_range
noncomputable def trimM (M : Mac) : Mac := ⟨M.n, M.fs.filter fun r => decide (r ∈ usf M), M.ls.filter fun r => decide (r ∈ usf M), M.S.filter fun s => decide (s.1 ∈ usf M) && decide (s.2.2 ∈ usf M)⟩
theorem trimM_ok {M : Mac} (ok : M.Ok) : (trimM M).Ok where
  lo := ok.lo
  hi := ok.hi
  fs := List.Pairwise.filter _ ok.fs
  fb := fun r h => ok.fb r (List.mem_filter.mp h).1
  ls := List.Pairwise.filter _ ok.ls
  lb := fun r h => ok.lb r (List.mem_filter.mp h).1
  few := Nat.le_trans (List.length_filter_le _ _) ok.few
  nd := ok.nd.filter _
  bel := fun s h => ok.bel s (List.mem_filter.mp h).1
  let' := fun s h => ok.let' s (List.mem_filter.mp h).1
section
variable {P : Program} {w : World} {K : PySem.W.Frag} {mg : Str → Option Value} {base : Heap} {T : List NTab}
def sp_useful (T : List NTab) : Sp := fun vs H Q _ => ∃ (m : Addr) (M : Mac), vs = [.ref m] ∧ MAt [] H m M ∧ M.Ok ∧ ∀ H' p, Kp T [] H H' → H p = none → H' p = some (.lst ((usf M).map ni)) → Q (.ref p) H'
theorem ok_useful (F : Fn K mg "useful" s_useful) (Tx : Txt mg) (D_look_at : DOk P w K mg base "look_at" 5 ["thing"] [] (sp_look_at T)) (D_come_to : DOk P w K mg base "come_to" 1 ["steps", "rooms"] [] (sp_come_to T)) : DOk P w K mg base "useful" 6 ["machine"] [] (sp_useful T) := by
  refine F.dok sc_useful b_useful (fun vs H Q E h => ?_) (fun f cdv A outer s H vs Q E hr h => ?_)
  · obtain ⟨m, M, rfl, _⟩ := h
    rfl
  · obtain ⟨m, M, rfl, hM, ok, q⟩ := h
    have few := ok.few
    have hhi := ok.hi
    refine ⟨_, (pss_cons (ps_expr (pe_d D_look_at hr (by rfl) (pa_cons (pv 0) pa_nil)))
      (pss_cons (ps_set (i := 1) sc_useful.nd rfl (by first | exact .inl rfl | exact .inr rfl) (pe_d D_come_to hr (by rfl) (pa_cons (pe_lc (own := [("room", 3), ("sign", 4), ("to", 5)]) (g := gTup K 3 (gCons (gName 3) (gCons (gName 4) (gCons (gName 5) gNil)))) (tt := tYes) (by rfl) sc_useful.nd (pi_list (pe_ix ix_tup (pv 0) pe_int (fun _ _ => rfl))) (blkOk_by (N := ["machine", "ahead", "behind", "room", "sign", "to"]) (sc := (defScope s_useful)) (own := [("room", 3), ("sign", 4), ("to", 5)]) (by decide +kernel)) (fun _ _ _ _ _ => (pg_tup rfl (pgs_cons (pg_name (i := 3) sc_useful.nd rfl (by first | exact .inl rfl | exact .inr rfl)) (pgs_cons (pg_name (i := 4) sc_useful.nd rfl (by first | exact .inl rfl | exact .inr rfl)) (pgs_cons (pg_name (i := 5) sc_useful.nd rfl (by first | exact .inl rfl | exact .inr rfl)) pgs_nil))))) (fun _ _ _ _ _ => pts_nil) (fun _ _ _ _ _ => (pe_tup (pa_cons (pv 3) (pa_cons (pv 5) pa_nil))))) (pa_cons (pe_ix ix_tup (pv 0) pe_int (fun _ _ => rfl)) pa_nil))))
      (pss_cons (ps_set (i := 2) sc_useful.nd rfl (by first | exact .inl rfl | exact .inr rfl) (pe_d D_come_to hr (by rfl) (pa_cons (pe_lc (own := [("room", 3), ("sign", 4), ("to", 5)]) (g := gTup K 3 (gCons (gName 3) (gCons (gName 4) (gCons (gName 5) gNil)))) (tt := tYes) (by rfl) sc_useful.nd (pi_list (pe_ix ix_tup (pv 0) pe_int (fun _ _ => rfl))) (blkOk_by (N := ["machine", "ahead", "behind", "room", "sign", "to"]) (sc := (defScope s_useful)) (own := [("room", 3), ("sign", 4), ("to", 5)]) (by decide +kernel)) (fun _ _ _ _ _ => (pg_tup rfl (pgs_cons (pg_name (i := 3) sc_useful.nd rfl (by first | exact .inl rfl | exact .inr rfl)) (pgs_cons (pg_name (i := 4) sc_useful.nd rfl (by first | exact .inl rfl | exact .inr rfl)) (pgs_cons (pg_name (i := 5) sc_useful.nd rfl (by first | exact .inl rfl | exact .inr rfl)) pgs_nil))))) (fun _ _ _ _ _ => pts_nil) (fun _ _ _ _ _ => (pe_tup (pa_cons (pv 5) (pa_cons (pv 3) pa_nil))))) (pa_cons (pe_ix ix_tup (pv 0) pe_int (fun _ _ => rfl)) pa_nil))))
      (pss_one (ps_ret (pe_lc (own := [("room", 3)]) (g := gName 3) (by rfl) sc_useful.nd (pi_range1 (by rfl) Tx.n_range (pa_cons (pe_ix ix_tup (pv 0) pe_int (fun _ _ => rfl)) pa_nil)) (blkOk_by (N := ["machine", "ahead", "behind", "room", "sign", "to"]) (sc := (defScope s_useful)) (own := [("room", 3)]) (by decide +kernel)) (fun _ _ _ _ _ => (pg_name (i := 3) sc_useful.nd rfl (by first | exact .inl rfl | exact .inr rfl))) (fun _ _ _ _ _ => (pts_one (PW.pt (pw_and (pt_cmp (pc_din (hu_of hr) (pv 3) (pv 1))) (pw_and1 (pt_cmp (pc_din (hu_of hr) (pv 3) (pv 2)))))))) (fun _ _ _ _ _ => (pv 3)))))))), ?_⟩
    refine ⟨_, rfl, m, M, rfl, hM, ok, fun H1 k1 => ?_⟩
    obtain ⟨af, al', as, ts, hm⟩ := hM.kp k1
    have lts := hm.st.len
    refine ⟨_, rfl, m, _, 3, _, rfl, rfl, SqT.of hm.m, rfl, as, rfl, ⟨_, SqL.of hm.s⟩, fun D hD => ?_⟩
    refine lc_it (walk_list (xs := ts.map V.ref)) (fun i H2 => ∃ us : List Addr, Kp T [] H1 H2 ∧ H2 D = some (.lst (us.map V.ref)) ∧ EdgesAt H2 us (fwd (M.S.take i))) ⟨[], Kp.new hD, upd_same, .nil⟩ (fun i H2 _ h2 => by obtain ⟨_, k, _⟩ := h2; exact SqL.of (k.get hm.s)) (fun i x H2 H3 hi h2 y => ?_) (fun H2 h2 => ?_)
    · obtain ⟨us, k, eD, hus⟩ := h2
      obtain ⟨rfl, e2⟩ := y
      obtain ⟨t', s', rfl, et, es, hts⟩ := hm.st.get e2
      refine ⟨t', _, rfl, SqT.of (k.get hts), rfl, _, _, rfl, _, _, rfl, _, _, rfl, rfl, rfl, ?_⟩
      refine ⟨_, rfl, _, rfl, sz_ok (by simp), fun p hp => ?_⟩
      have eDp : upd H3 p (.tup (rndV (s'.1, s'.2.2))) D = some (.lst (us.map V.ref)) := by rw [upd_ne (ne_of_none eD hp)]; exact eD
      have ll : us.length ≤ 200 := by
        rw [hus.len]
        unfold fwd
        rw [List.length_map, List.length_take]
        omega
      refine ⟨_, eDp, by rw [List.length_map]; exact sz_lt (by omega), us ++ [p], (k.snew hp).mut (.inl hD) eDp, by rw [upd_same, List.map_append]; rfl, ?_⟩
      have e3 : fwd (M.S.take (i + 1)) = fwd (M.S.take i) ++ [(s'.1, s'.2.2)] := by
        rw [List.take_add_one, es]
        unfold fwd
        rw [List.map_append]
        rfl
      rw [e3]
      exact Paired.snoc ((hus.off hp).set eDp) (by rw [upd_ne (ne_of_none eD hp).symm, upd_same])
    · obtain ⟨us, k2, eD, hus⟩ := h2
      rw [List.take_of_length_le (by rw [List.length_map, lts]; exact Nat.le_refl _)] at hus
      have hfl : (fwd M.S).length ≤ 200 := by
        unfold fwd
        rw [List.length_map]
        exact few
      have hbl : (bwd M.S).length ≤ 200 := by
        unfold bwd
        rw [List.length_map]
        exact few
      have hm2 := hm.kp k2 (fun _ z => nomatch z)
      refine ⟨_, rfl, m, _, 1, _, rfl, rfl, SqT.of hm2.m, rfl, ?_⟩
      refine ⟨D, af, us, fwd M.S, M.fs, M.n, rfl, eD, hus, hm2.f, fun e he => ?_, ok.fb, hhi, hfl, by have := rise_len ok.fs ok.fb; omega, fun H3 d1 ks1 k3 nd1 ed1 hks1 => ?_⟩
      · obtain ⟨s', hs', e'⟩ := List.mem_map.mp he
        rw [← e']
        exact ok.bel s' hs'
      have hm3 := hm2.kp k3 (fun _ z => nomatch z)
      refine ⟨_, rfl, m, _, 3, _, rfl, rfl, SqT.of hm3.m, rfl, as, rfl, ⟨_, SqL.of hm3.s⟩, fun D hD => ?_⟩
      refine lc_it (walk_list (xs := ts.map V.ref)) (fun i H4 => ∃ us : List Addr, Kp T [] H3 H4 ∧ H4 D = some (.lst (us.map V.ref)) ∧ EdgesAt H4 us (bwd (M.S.take i))) ⟨[], Kp.new hD, upd_same, .nil⟩ (fun i H4 _ h2 => by obtain ⟨_, k, _⟩ := h2; exact SqL.of (k.get hm3.s)) (fun i x H2 H3 hi h2 y => ?_) (fun H4 h4 => ?_)
      · obtain ⟨us, k, eD, hus⟩ := h2
        obtain ⟨rfl, e2⟩ := y
        obtain ⟨t', s', rfl, et, es, hts⟩ := hm3.st.get e2
        refine ⟨t', _, rfl, SqT.of (k.get hts), rfl, _, _, rfl, _, _, rfl, _, _, rfl, rfl, rfl, ?_⟩
        refine ⟨_, rfl, _, rfl, sz_ok (by simp), fun p hp => ?_⟩
        have eDp : upd H3 p (.tup (rndV (s'.2.2, s'.1))) D = some (.lst (us.map V.ref)) := by rw [upd_ne (ne_of_none eD hp)]; exact eD
        have ll : us.length ≤ 200 := by
          rw [hus.len]
          unfold bwd
          rw [List.length_map, List.length_take]
          omega
        refine ⟨_, eDp, by rw [List.length_map]; exact sz_lt (by omega), us ++ [p], (k.snew hp).mut (.inl hD) eDp, by rw [upd_same, List.map_append]; rfl, ?_⟩
        have e3 : bwd (M.S.take (i + 1)) = bwd (M.S.take i) ++ [(s'.2.2, s'.1)] := by
          rw [List.take_add_one, es]
          unfold bwd
          rw [List.map_append]
          rfl
        rw [e3]
        exact Paired.snoc ((hus.off hp).set eDp) (by rw [upd_ne (ne_of_none eD hp).symm, upd_same])
      · obtain ⟨us4, k4, eD4, hus4⟩ := h4
        rw [List.take_of_length_le (by rw [List.length_map, lts]; exact Nat.le_refl _)] at hus4
        have hm4 := hm3.kp k4 (fun _ z => nomatch z)
        refine ⟨_, rfl, m, _, 2, _, rfl, rfl, SqT.of hm4.m, rfl, ?_⟩
        refine ⟨D, al', us4, bwd M.S, M.ls, M.n, rfl, eD4, hus4, hm4.l, fun e he => ?_, ok.lb, hhi, hbl, by have := rise_len ok.ls ok.lb; omega, fun H5 d2 ks2 k5 nd2 ed2 hks2 => ?_⟩
        · obtain ⟨s', hs', e'⟩ := List.mem_map.mp he
          rw [← e']
          exact ⟨(ok.bel s' hs').2, (ok.bel s' hs').1⟩
        have ed15 := (k4.trans k5).get ed1
        have hm5 := hm4.kp k5 (fun _ z => nomatch z)
        refine ⟨_, rfl, m, _, 0, _, rfl, rfl, SqT.of hm5.m, rfl, (M.n : Int), rfl, by omega, by omega, fun D2 hD2 => ?_⟩
        have kk := (((k1.trans k2).trans k3).trans k4).trans k5
        refine lc_it walk_range0 (fun i H6 => Kp T [] H5 H6 ∧ i ≤ M.n ∧ H6 D2 = some (.lst (((List.range i).filter fun r => dc (Usf M r)).map ni))) ⟨Kp.new hD2, Nat.zero_le _, upd_same⟩ (fun _ _ _ _ => trivial) (fun i x H6 H7 hi h6 y => ?_) (fun H6 h6 => ?_)
        · obtain ⟨k6, hi', eD6⟩ := h6
          obtain ⟨rfl, rfl⟩ := y
          have hi2 : i < M.n := by omega
          have ll : ((List.range i).filter fun r => dc (Usf M r)).length ≤ i := by
            have := List.length_filter_le (fun r => dc (Usf M r)) (List.range i)
            rw [List.length_range] at this
            exact this
          have er : (List.range M.n)[i]? = some i := by rw [List.getElem?_range hi2]
          have et1 : (List.range M.n).take i = List.range i := by rw [List.take_range]; congr 1; omega
          have et2 : (List.range M.n).take (i + 1) = List.range (i + 1) := by rw [List.take_range]; congr 1; omega
          refine ⟨rfl, ?_⟩
          refine ⟨_, rfl, _, rfl, d1, _, rfl, DGet.k (k6.get ed15) (k := Sum.inl (i : Int)), decide (i ∈ ks1), by rw [kd_get], ?_⟩
          by_cases h1 : i ∈ ks1
          · rw [decide_eq_true h1]
            refine iteT ?_
            refine ⟨_, rfl, _, rfl, d2, _, rfl, DGet.k (k6.get ed2) (k := Sum.inl (i : Int)), decide (i ∈ ks2), by rw [kd_get], ?_⟩
            by_cases h2 : i ∈ ks2
            · rw [decide_eq_true h2]
              have hu : dc (Usf M i) = true := dc_true ⟨(hks1 i).mp h1, (hks2 i).mp h2⟩
              refine iteT ⟨_, rfl, _, eD6, by rw [List.length_map]; exact sz_lt (by omega), k6.mut (.inl hD2) eD6, hi2, ?_⟩
              rw [upd_same, ← et2, filt_pos er hu, et1, List.map_append]
              rfl
            · rw [decide_eq_false h2]
              have hu : dc (Usf M i) = false := dc_false fun z => h2 ((hks2 i).mpr z.2)
              refine iteF ⟨k6, hi2, ?_⟩
              rw [eD6, ← et2, filt_neg er hu, et1]
          · rw [decide_eq_false h1]
            have hu : dc (Usf M i) = false := dc_false fun z => h1 ((hks1 i).mpr z.1)
            refine iteF ⟨k6, hi2, ?_⟩
            rw [eD6, ← et2, filt_neg er hu, et1]
        · obtain ⟨k6, _, eD6⟩ := h6
          rw [Int.toNat_natCast] at eD6
          exact q H6 D2 (kk.trans k6) (kk.free hD2) eD6
end
end K51
/-! the trimmed machine -/
namespace K51
open PySem PySem.Spec PyProof.Rows L2 NdefX LamX
section
variable {P : Program} {w : World} {K : PySem.W.Frag} {mg : Str → Option Value} {base : Heap} {T : List NTab}
theorem StepsAt.filt {H : Hp} {p : Step → Bool} {ts : List Addr} {S : List Step} (h : StepsAt H ts S) : ∃ us, StepsAt H us (S.filter p) := by
  unfold StepsAt at h
  induction h with
  | nil => exact ⟨[], .nil⟩
  | @cons t s ts S q r ih =>
    obtain ⟨us, ih⟩ := ih
    by_cases e : p s = true
    · rw [List.filter_cons_of_pos e]
      exact ⟨t :: us, .cons q ih⟩
    · rw [List.filter_cons_of_neg e]
      exact ⟨us, ih⟩
def sp_trimmed (T : List NTab) : Sp := fun vs H Q _ => ∃ (m : Addr) (M : Mac), vs = [.ref m] ∧ MAt [] H m M ∧ M.Ok ∧ ∀ H' p, Kp T [] H H' → MAt [] H' p (trimM M) → Q (.ref p) H'
theorem ok_trimmed (F : Fn K mg "trimmed" s_trimmed) (Tx : Txt mg) (D_useful : DOk P w K mg base "useful" 6 ["machine"] [] (sp_useful T)) : DOk P w K mg base "trimmed" 7 ["machine"] [] (sp_trimmed T) := by
  refine F.dok sc_trimmed b_trimmed (fun vs H Q E h => ?_) (fun f cdv A outer s H vs Q E hr h => ?_)
  · obtain ⟨m, M, rfl, _⟩ := h
    rfl
  · obtain ⟨m, M, rfl, hM, ok, q⟩ := h
    have few := ok.few
    have hhi := ok.hi
    have hfl := rise_len ok.fs ok.fb
    have hll := rise_len ok.ls ok.lb
    refine ⟨_, (pss_cons (ps_set (i := 1) sc_trimmed.nd rfl (by first | exact .inl rfl | exact .inr rfl) (pe_d D_useful hr (by rfl) (pa_cons (pv 0) pa_nil)))
      (pss_cons (ps_setLc (i := 2) (own := [("room", 4)]) (g := gName 4) (by rfl) sc_trimmed.nd rfl rfl (sw_true rfl rfl rfl (by decide +kernel)) (pi_list (pe_ix ix_tup (pv 0) pe_int (fun _ _ => rfl))) (blkOk_by (N := ["machine", "rooms", "firsts", "lasts", "room", "step"]) (sc := (defScope s_trimmed)) (own := [("room", 4)]) (by decide +kernel)) (fun _ _ _ _ _ => (pg_name (i := 4) sc_trimmed.nd rfl (by first | exact .inl rfl | exact .inr rfl))) (fun _ _ _ _ _ => (pts_one (pt_cmpR (show OpR _ (compareOp .In) (rIn K false) from op_in_seq) (pv 4) (pv 1) (by rfl)))) (fun _ _ _ _ _ => (pv 4)))
      (pss_cons (ps_setLc (i := 3) (own := [("room", 4)]) (g := gName 4) (by rfl) sc_trimmed.nd rfl rfl (sw_true rfl rfl rfl (by decide +kernel)) (pi_list (pe_ix ix_tup (pv 0) pe_int (fun _ _ => rfl))) (blkOk_by (N := ["machine", "rooms", "firsts", "lasts", "room", "step"]) (sc := (defScope s_trimmed)) (own := [("room", 4)]) (by decide +kernel)) (fun _ _ _ _ _ => (pg_name (i := 4) sc_trimmed.nd rfl (by first | exact .inl rfl | exact .inr rfl))) (fun _ _ _ _ _ => (pts_one (pt_cmpR (show OpR _ (compareOp .In) (rIn K false) from op_in_seq) (pv 4) (pv 1) (by rfl)))) (fun _ _ _ _ _ => (pv 4)))
      (pss_one (ps_ret (pe_tup (pa_cons (pe_ix ix_tup (pv 0) pe_int (fun _ _ => rfl)) (pa_cons (pv 2) (pa_cons (pv 3) (pa_cons (pe_lc (own := [("step", 5)]) (g := gName 5) (by rfl) sc_trimmed.nd (pi_list (pe_ix ix_tup (pv 0) pe_int (fun _ _ => rfl))) (blkOk_by (N := ["machine", "rooms", "firsts", "lasts", "room", "step"]) (sc := (defScope s_trimmed)) (own := [("step", 5)]) (by decide +kernel)) (fun _ _ _ _ _ => (pg_name (i := 5) sc_trimmed.nd rfl (by first | exact .inl rfl | exact .inr rfl))) (fun _ _ _ _ _ => (pts_one (PW.pt (pw_and (pt_cmpR (show OpR _ (compareOp .In) (rIn K false) from op_in_seq) (pe_ix (show IxR _ (rIxT K) from ix_tup) (pv 5) pe_int (fun _ _ => rfl)) (pv 1) (by rfl)) (pw_and1 (pt_cmpR (show OpR _ (compareOp .In) (rIn K false) from op_in_seq) (pe_ix (show IxR _ (rIxT K) from ix_tup) (pv 5) pe_int (fun _ _ => rfl)) (pv 1) (by rfl))))))) (fun _ _ _ _ _ => (pv 5))) pa_nil)))))))))), ?_⟩
    refine ⟨_, rfl, m, M, rfl, hM, ok, fun H1 ru k1 nru eru => ?_⟩
    obtain ⟨af, al', as, ts, hm⟩ := hM.kp k1
    have lts := hm.st.len
    refine ⟨_, rfl, m, _, 1, _, rfl, rfl, SqT.of hm.m, rfl, af, rfl, ⟨_, SqL.of hm.f⟩, fun D1 hD1 => ?_⟩
    refine lc_it (walk_list (xs := M.fs.map ni)) (fun i H2 => Kp T [] H1 H2 ∧ H2 D1 = some (.lst (((M.fs.take i).filter fun r => decide (r ∈ usf M)).map ni))) ⟨Kp.new hD1, upd_same⟩ (fun i H2 _ h2 => SqL.of (h2.1.get hm.f)) (fun i x H2 H3 hi h2 y => ?_) (fun H2 h2 => ?_)
    · obtain ⟨k, eD⟩ := h2
      obtain ⟨rfl, e2⟩ := y
      obtain ⟨r, er, rfl⟩ := map_get e2
      refine ⟨rfl, ?_⟩
      refine ⟨_, rfl, _, rfl, ru, _, rfl, .inl (SqL.of (k.get eru)), rfl, flat_ni _, decide (r ∈ usf M), by rw [inV_ni]; rfl, ?_⟩
      by_cases h : r ∈ usf M
      · rw [decide_eq_true h]
        refine iteT ⟨_, rfl, _, eD, ?_, k.mut (.inl hD1) eD, ?_⟩
        · rw [List.length_map]
          have := List.length_filter_le (fun r => decide (r ∈ usf M)) (M.fs.take i)
          rw [List.length_take] at this
          exact sz_lt (by omega)
        · rw [upd_same, filt_pos er (decide_eq_true h), List.map_append]
          rfl
      · rw [decide_eq_false h]
        refine iteF ⟨k, ?_⟩
        rw [eD, filt_neg er (decide_eq_false h)]
    · obtain ⟨k2, eD1⟩ := h2
      rw [List.take_of_length_le (by rw [List.length_map]; exact Nat.le_refl _)] at eD1
      have hm2 := hm.kp k2 (fun _ z => nomatch z)
      refine ⟨_, rfl, m, _, 2, _, rfl, rfl, SqT.of hm2.m, rfl, al', rfl, ⟨_, SqL.of hm2.l⟩, fun D2 hD2 => ?_⟩
      refine lc_it (walk_list (xs := M.ls.map ni)) (fun i H3 => Kp T [] H2 H3 ∧ H3 D2 = some (.lst (((M.ls.take i).filter fun r => decide (r ∈ usf M)).map ni))) ⟨Kp.new hD2, upd_same⟩ (fun i H3 _ h2 => SqL.of (h2.1.get hm2.l)) (fun i x H3 H4 hi h2 y => ?_) (fun H3 h3 => ?_)
      · obtain ⟨k, eD⟩ := h2
        obtain ⟨rfl, e2⟩ := y
        obtain ⟨r, er, rfl⟩ := map_get e2
        refine ⟨rfl, ?_⟩
        refine ⟨_, rfl, _, rfl, ru, _, rfl, .inl (SqL.of ((k2.trans k).get eru)), rfl, flat_ni _, decide (r ∈ usf M), by rw [inV_ni]; rfl, ?_⟩
        by_cases h : r ∈ usf M
        · rw [decide_eq_true h]
          refine iteT ⟨_, rfl, _, eD, ?_, k.mut (.inl hD2) eD, ?_⟩
          · rw [List.length_map]
            have := List.length_filter_le (fun r => decide (r ∈ usf M)) (M.ls.take i)
            rw [List.length_take] at this
            exact sz_lt (by omega)
          · rw [upd_same, filt_pos er (decide_eq_true h), List.map_append]
            rfl
        · rw [decide_eq_false h]
          refine iteF ⟨k, ?_⟩
          rw [eD, filt_neg er (decide_eq_false h)]
      · obtain ⟨k3, eD2⟩ := h3
        rw [List.take_of_length_le (by rw [List.length_map]; exact Nat.le_refl _)] at eD2
        have hm3 := hm2.kp k3 (fun _ z => nomatch z)
        have k23 := k2.trans k3
        have eru3 := k23.get eru
        have eD13 := k3.get eD1
        refine ⟨_, rfl, m, _, 0, _, rfl, rfl, SqT.of hm3.m, rfl, ?_⟩
        refine ⟨_, rfl, _, rfl, ?_⟩
        refine ⟨_, rfl, m, _, 3, _, rfl, rfl, SqT.of hm3.m, rfl, as, rfl, ⟨_, SqL.of hm3.s⟩, fun D3 hD3 => ?_⟩
        refine lc_it (walk_list (xs := ts.map V.ref)) (fun i H4 => ∃ us : List Addr, Kp T [] H3 H4 ∧ H4 D3 = some (.lst (us.map V.ref)) ∧ StepsAt H4 us ((M.S.take i).filter fun s => decide (s.1 ∈ usf M) && decide (s.2.2 ∈ usf M))) ⟨[], Kp.new hD3, upd_same, .nil⟩ (fun i H4 _ h2 => by obtain ⟨_, k, _⟩ := h2; exact SqL.of (k.get hm3.s)) (fun i x H4 H5 hi h2 y => ?_) (fun H4 h4 => ?_)
        · obtain ⟨us, k, eD, hus⟩ := h2
          obtain ⟨rfl, e2⟩ := y
          obtain ⟨t', s', rfl, et, es, hts⟩ := hm3.st.get e2
          have hts5 := k.get hts
          have eru5 := k.get eru3
          refine ⟨rfl, ?_⟩
          refine ⟨_, rfl, t', _, 0, _, rfl, rfl, SqT.of hts5, rfl, _, rfl, ru, _, rfl, .inl (SqL.of eru5), rfl, flat_ni _, decide (s'.1 ∈ usf M), by rw [inV_ni]; rfl, ?_⟩
          by_cases h1 : s'.1 ∈ usf M
          · rw [decide_eq_true h1]
            refine iteT ?_
            refine ⟨_, rfl, t', _, 2, _, rfl, rfl, SqT.of hts5, rfl, _, rfl, ru, _, rfl, .inl (SqL.of eru5), rfl, flat_ni _, decide (s'.2.2 ∈ usf M), by rw [inV_ni]; rfl, ?_⟩
            by_cases h2 : s'.2.2 ∈ usf M
            · rw [decide_eq_true h2]
              refine iteT ⟨_, rfl, _, eD, ?_, us ++ [t'], k.mut (.inl hD3) eD, by rw [upd_same, List.map_append]; rfl, ?_⟩
              · rw [List.length_map, hus.len]
                have := List.length_filter_le (fun s : Step => decide (s.1 ∈ usf M) && decide (s.2.2 ∈ usf M)) (M.S.take i)
                rw [List.length_take] at this
                exact sz_lt (by omega)
              · rw [filt_pos es (by rw [decide_eq_true h1, decide_eq_true h2]; rfl)]
                exact Paired.snoc (hus.set eD) (by rw [upd_ne (ne_of hts5 eD (by intro z; cases z))]; exact hts5)
            · rw [decide_eq_false h2]
              refine iteF ⟨us, k, eD, ?_⟩
              rw [filt_neg es (by rw [decide_eq_false h2, Bool.and_false])]
              exact hus
          · rw [decide_eq_false h1]
            refine iteF ⟨us, k, eD, ?_⟩
            rw [filt_neg es (by rw [decide_eq_false h1, Bool.false_and])]
            exact hus
        · obtain ⟨us, k4, eD3, hus⟩ := h4
          rw [List.take_of_length_le (by rw [List.length_map, lts]; exact Nat.le_refl _)] at hus
          refine ⟨sz_ok (by simp), fun p hp => ?_⟩
          have kp : Kp T [] H4 (upd H4 p (.tup [ni M.n, .ref D1, .ref D2, .ref D3])) := Kp.new hp
          refine q _ p ((((k1.trans k2).trans k3).trans k4).trans kp) ⟨D1, D2, D3, us, upd_same, kp.get (k4.get eD13), kp.get (k4.get eD2), kp.get eD3, hus.off hp, by simp, by simp, by simp⟩
end
end K51
/-! steps by room and sign -/
namespace K51
open PySem PySem.Spec PyProof.Rows L2 NdefX LamX
/-- d.setdefault(k, z), k a tuple -/
def rSetdT : V → List V → Hp → VK → Prop := fun x xs H Q => ∃ (a : Addr) (kvs : List (List L2.Key × V)) (k : List L2.Key) (b : Addr) (d : V), x = .ref a ∧ xs = [.ref b, d] ∧ H a = some (.dT kvs) ∧ H b = some (.tup (k.map kV)) ∧ kvs.length < sizeLine ∧
  (∀ v, valV kvs k = some v → Q v H) ∧ (valV kvs k = none → Q d (upd H a (.dT (putK kvs k d))))
theorem mt_setdT {X : Cx} (hu : X.A.units + 1 < cLine) : MtR X "dict.setdefault" rSetdT := by
  intro pins s σ H x xs v us Q I rx rxs h
  obtain ⟨a, kvs, k, b, d, rfl, rfl, ha, hb, hl, q1, q2⟩ := h
  cases rx
  obtain ⟨u1, u2, rfl, r1, r2⟩ := vals2 rxs
  cases r1
  obtain ⟨z, hd, xs', rel, dd⟩ := dt_of I.hok ha
  have hz : xs'.length ≤ sizeLine := by rw [← Paired.length rel]; exact z
  refine call_setdefault_heap (knd := tupleKind (mixKind X.prog X.w)) (hsz := hz) (tupleKind_room_in1 hu) (key_of I.hok hb) hd dd (fun p hp => ?_) fun hn h' dd' hs => ?_
  · have r := rel.val k
    rw [hp] at r
    obtain ⟨v0, ev, rv⟩ : ∃ v0, valV kvs k = some v0 ∧ RelV v0 p.2 := by
      cases ev : valV kvs k with
      | none =>
        rw [ev] at r
        exact (show False from r).elim
      | some v0 =>
        rw [ev] at r
        exact ⟨v0, rfl, r⟩
    exact ⟨v0, H, I.tok _, rv, q1 v0 ev⟩
  · have r := rel.val k
    rw [hn] at r
    have e : valV kvs k = none := by
      cases ev : valV kvs k with
      | none => rfl
      | some v0 =>
        rw [ev] at r
        exact (show False from r).elim
    obtain ⟨o, es, ep, hq, h2, h3, h4, _, h5⟩ := dd'
    have hl2 : (putK kvs k d).length ≤ sizeLine := by
      have := length_putK kvs k d
      omega
    have I2 : Inv X pins σ (upd H a (.dT (putK kvs k d))) { s with heap := h', toks := s.toks + (tupleKind (mixKind X.prog X.w)).draws k } :=
      d_write I (by rw [ha]; exact True.intro) hs ⟨o, hq⟩ ⟨hl2, hd, _, (KT.put rel k hb r2).keeps (fun c ys ec => (by rw [upd_ne (ne_of ec ha (fun z => nomatch z))]; exact ec)), o, es, ep, hq, h2, h3, h4, h5⟩
    exact ⟨d, _, I2, r2, q2 e⟩
/-! ### tables -/
abbrev PKey := Nat × Nat
def pk (k : PKey) : List L2.Key := [Sum.inl (k.1 : Int), Sum.inr (one k.2)]
theorem pk_inj {a b : PKey} (h : pk a = pk b) : a = b := by
  obtain ⟨a1, a2⟩ := a
  obtain ⟨b1, b2⟩ := b
  unfold pk at h
  simp only [List.cons.injEq, Sum.inl.injEq, Sum.inr.injEq, and_true] at h
  obtain ⟨h1, h2⟩ := h
  have h2 := one_inj h2
  have h1 : a1 = b1 := by omega
  rw [h1, h2]
theorem pk_map (k : PKey) : (pk k).map kV = [ni k.1, sg k.2] := rfl
def tbl (es : List (PKey × Addr)) : List (List L2.Key × V) := es.map fun e => (pk e.1, V.ref e.2)
def lookE : List (PKey × Addr) → PKey → Option Addr
  | [], _ => none
  | e :: es, k => if e.1 = k then some e.2 else lookE es k
theorem tbl_get (es : List (PKey × Addr)) (k : PKey) : valV (tbl es) (pk k) = (lookE es k).map V.ref := by
  induction es with
  | nil => rfl
  | cons e es ih =>
    show valV ((pk e.1, V.ref e.2) :: tbl es) (pk k) = (if e.1 = k then some e.2 else lookE es k).map V.ref
    by_cases h : e.1 = k
    · rw [if_pos h, valV_pos (show (pk e.1, V.ref e.2).1 = pk k by rw [← h])]
      rfl
    · rw [if_neg h, valV_neg (show ¬ (pk e.1, V.ref e.2).1 = pk k from fun z => h (pk_inj z)), ih]
theorem lookE_mem {es : List (PKey × Addr)} {k : PKey} {l : Addr} (h : lookE es k = some l) : (k, l) ∈ es := by
  induction es with
  | nil => cases h
  | cons e es ih =>
    unfold lookE at h
    by_cases e1 : e.1 = k
    · rw [if_pos e1] at h
      have h := Option.some.inj h
      rw [← e1, ← h]
      exact List.mem_cons_self
    · rw [if_neg e1] at h
      exact List.mem_cons_of_mem _ (ih h)
theorem lookE_none {es : List (PKey × Addr)} {k : PKey} (h : lookE es k = none) : ∀ e ∈ es, e.1 ≠ k := by
  induction es with
  | nil => intro e he; cases he
  | cons e es ih =>
    unfold lookE at h
    by_cases e1 : e.1 = k
    · rw [if_pos e1] at h
      cases h
    · rw [if_neg e1] at h
      intro x hx
      rcases List.mem_cons.mp hx with z | z
      · rw [z]
        exact e1
      · exact ih h x z
/-- where a sign leads -/
def succs (S : List Step) (k : PKey) : List Nat := (S.filter fun s => decide (s.1 = k.1) && decide (s.2.1 = k.2)).map fun s => s.2.2
theorem mem_succs {S : List Step} {q c r : Nat} : r ∈ succs S (q, c) ↔ (q, c, r) ∈ S := by
  unfold succs
  rw [List.mem_map]
  constructor
  · rintro ⟨s, hs, e⟩
    obtain ⟨h1, h2⟩ := List.mem_filter.mp hs
    rw [Bool.and_eq_true, decide_eq_true_iff, decide_eq_true_iff] at h2
    obtain ⟨s1, s2, s3⟩ := s
    obtain ⟨e1, e2⟩ := h2
    have e1 : s1 = q := e1
    have e2 : s2 = c := e2
    have e : s3 = r := e
    subst e1 e2 e
    exact h1
  · intro h
    exact ⟨(q, c, r), List.mem_filter.mpr ⟨h, by simp⟩, rfl⟩
theorem succs_len (S : List Step) (k : PKey) : (succs S k).length ≤ S.length := by
  unfold succs
  rw [List.length_map]
  exact List.length_filter_le _ _
theorem succs_snoc (S : List Step) (s : Step) (k : PKey) : succs (S ++ [s]) k = succs S k ++ (if s.1 = k.1 ∧ s.2.1 = k.2 then [s.2.2] else []) := by
  unfold succs
  rw [List.filter_append, List.map_append]
  congr 1
  by_cases h : s.1 = k.1 ∧ s.2.1 = k.2
  · rw [if_pos h, List.filter_cons_of_pos (by rw [decide_eq_true h.1, decide_eq_true h.2]; rfl)]
    rfl
  · rw [if_neg h, List.filter_cons_of_neg (by rw [Bool.and_eq_true, decide_eq_true_iff, decide_eq_true_iff]; exact h)]
    rfl
structure EntsAt (H : Hp) (tb : Addr) (es : List (PKey × Addr)) (S : List Step) : Prop where
  t : H tb = some (.dT (tbl es))
  nk : (es.map Prod.fst).Nodup
  na : (es.map Prod.snd).Nodup
  l : ∀ e ∈ es, H e.2 = some (.lst ((succs S e.1).map ni))
  out : ∀ k, lookE es k = none → succs S k = []
  few : es.length ≤ S.length
/-- the table of the steps S -/
def TabAt (H : Hp) (tb : Addr) (S : List Step) : Prop := ∃ es, EntsAt H tb es S
section
variable {P : Program} {w : World} {K : PySem.W.Frag} {mg : Str → Option Value} {base : Heap} {T : List NTab}
theorem EntsAt.kp {H H1 : Hp} {tb : Addr} {es : List (PKey × Addr)} {S : List Step} (h : EntsAt H tb es S) (a : Kp T [] H H1) : EntsAt H1 tb es S :=
  ⟨a.get h.t, h.nk, h.na, fun e he => a.get (h.l e he), h.out, h.few⟩
theorem TabAt.kp {H H1 : Hp} {tb : Addr} {S : List Step} (h : TabAt H tb S) (a : Kp T [] H H1) : TabAt H1 tb S := by
  obtain ⟨es, h⟩ := h
  exact ⟨es, h.kp a⟩
def sp_by_signs (T : List NTab) : Sp := fun vs H Q _ => ∃ (m : Addr) (M : Mac), vs = [.ref m] ∧ MAt [] H m M ∧ M.Ok ∧ ∀ H' tb, Kp T [] H H' → TabAt H' tb M.S → Q (.ref tb) H'
theorem ok_by_signs (F : Fn K mg "by_signs" s_by_signs) (Tx : Txt mg) : DOk P w K mg base "by_signs" 1 ["machine"] [] (sp_by_signs T) := by
  refine F.dok sc_by_signs b_by_signs (fun vs H Q E h => ?_) (fun f cdv A outer s H vs Q E hr h => ?_)
  · obtain ⟨m, M, rfl, _⟩ := h
    rfl
  · obtain ⟨m, M, rfl, hM, ok, q⟩ := h
    have few := ok.few
    refine ⟨_, (pss_cons (ps_set (i := 1) sc_by_signs.nd rfl (by first | exact .inl rfl | exact .inr rfl) pe_dnewT)
      (pss_cons (ps_for PassesOwn.never rfl (pi_list (pe_ix ix_tup (pv 0) pe_int (fun _ _ => rfl))) (pg_tup rfl (pgs_cons (pg_name (i := 2) sc_by_signs.nd rfl (by first | exact .inl rfl | exact .inr rfl)) (pgs_cons (pg_name (i := 3) sc_by_signs.nd rfl (by first | exact .inl rfl | exact .inr rfl)) (pgs_cons (pg_name (i := 4) sc_by_signs.nd rfl (by first | exact .inl rfl | exact .inr rfl)) pgs_nil))))
      (pss_one (ps_expr (pe_bm PySem.F.plainAttrs_list PySem.F.slot_list_append PySem.F.type_list_append mt_append (pe_bm PySem.F.plainAttrs_dict PySem.F.slot_dict_setdefault PySem.F.type_dict_setdefault (mt_setdT (hu_of hr)) (pv 1) (pa_cons (pe_tup (pa_cons (pv 2) (pa_cons (pv 3) pa_nil))) (pa_cons (pe_lst pa_nil) pa_nil))) (pa_cons (pv 4) pa_nil)))))
      (pss_one (ps_ret (pv 1))))), ?_⟩
    intro d hd
    have k1 : Kp T [] H (upd H d (.dT [])) := Kp.new hd
    obtain ⟨af, al', as, ts, hm0⟩ := hM
    have hm := hm0.kp k1 (fun _ z => nomatch z)
    have lts := hm.st.len
    refine ⟨_, rfl, m, _, 3, _, rfl, rfl, SqT.of hm.m, rfl, as, rfl, ⟨_, SqL.of hm.s⟩, ?_⟩
    refine for_it (walk_list (xs := ts.map V.ref)) (fun i σ H1 => ∃ (es : List (PKey × Addr)) (y2 y3 y4 : Option V), σ = [some (.ref m), some (.ref d), y2, y3, y4] ∧ Kp T [] H H1 ∧ EntsAt H1 d es (M.S.take i) ∧ ∀ e ∈ es, H e.2 = none) ⟨[], _, _, _, rfl, k1, ⟨upd_same, List.nodup_nil, List.nodup_nil, (fun _ h => nomatch h), (fun _ _ => rfl), Nat.zero_le _⟩, fun _ h => nomatch h⟩ (fun i σ H1 _ h1 => ?_) (fun i x σ H1 H2 hi h1 y => ?_) (fun σ H1 h1 => ?_)
    · obtain ⟨_, _, _, _, _, k, _⟩ := h1
      exact SqL.of (k.get hm0.s)
    · obtain ⟨es, y2, y3, y4, rfl, k, hE, hnew⟩ := h1
      obtain ⟨rfl, e2⟩ := y
      obtain ⟨t', s', rfl, et, ess, hts⟩ := hm0.st.get e2
      have hi2 : i < M.S.length := (List.getElem?_eq_some_iff.mp ess).1
      have hfew := hE.few
      rw [List.length_take] at hfew
      have eS : M.S.take (i + 1) = M.S.take i ++ [s'] := by rw [List.take_add_one, ess]; rfl
      refine ⟨t', _, rfl, SqT.of (k.get hts), rfl, _, _, rfl, _, _, rfl, _, _, rfl, rfl, ?_⟩
      refine ⟨_, rfl, .inr (.inr (.inl ⟨rfl, .inr ⟨_, hE.t⟩⟩)), ?_⟩
      refine ⟨_, rfl, _, rfl, sz_ok (by simp), fun p hp => ?_⟩
      refine ⟨sz_ok (by simp), fun nl hnl => ?_⟩
      have k2 := (k.snew (o := .tup [ni s'.1, sg s'.2.1]) hp).snew (o := .lst []) hnl
      have kk : Kp T [] H2 (upd (upd H2 p (.tup [ni s'.1, sg s'.2.1])) nl (.lst [])) := (Kp.new hp).snew hnl
      have hE2 := hE.kp kk
      have ep : upd (upd H2 p (.tup [ni s'.1, sg s'.2.1])) nl (.lst []) p = some (.tup [ni s'.1, sg s'.2.1]) := by rw [upd_ne (ne_of_none upd_same hnl), upd_same]
      have enl : upd (upd H2 p (.tup [ni s'.1, sg s'.2.1])) nl (.lst []) nl = some (.lst []) := upd_same
      have nnl2 : H2 nl = none := (Kp.new (T := T) (ex := []) hp).free hnl
      have nnl : H nl = none := k.free nnl2
      generalize upd (upd H2 p (.tup [ni s'.1, sg s'.2.1])) nl (.lst []) = H3 at *
      have hget := tbl_get es (s'.1, s'.2.1)
      refine ⟨d, _, pk (s'.1, s'.2.1), p, .ref nl, rfl, rfl, hE2.t, ep, by unfold tbl; rw [List.length_map]; exact sz_lt (by omega), fun v hv => ?_, fun hn => ?_⟩
      · rw [hget] at hv
        obtain ⟨l, hl, rfl⟩ := Option.map_eq_some_iff.mp hv
        have hmem := lookE_mem hl
        have el := hE2.l _ hmem
        refine ⟨.inl ⟨rfl, _, SqL.of el⟩, _, rfl, l, _, _, rfl, rfl, el, ?_, ?_⟩
        · rw [List.length_map]
          exact sz_lt (Nat.le_trans (succs_len _ _) (by rw [List.length_take]; omega))
        have hldn : l ≠ d := ne_of el hE2.t (by intro z; cases z)
        refine ⟨es, _, _, _, rfl, k2.mut (.inl (hnew _ hmem)) el, ⟨by rw [upd_ne hldn.symm]; exact hE2.t, hE.nk, hE.na, fun e he => ?_, fun x hx => ?_, by rw [eS, List.length_append, List.length_take]; show _ ≤ _ + 1; omega⟩, hnew⟩
        · rw [eS, succs_snoc]
          by_cases hek : e.2 = l
          · have hee : e = ((s'.1, s'.2.1), l) := by
              have h1 := hE.na
              obtain ⟨a, ha, ha'⟩ := List.mem_iff_getElem.mp he
              obtain ⟨b, hb, hb'⟩ := List.mem_iff_getElem.mp hmem
              have h2 : (es.map Prod.snd)[a]'(by rw [List.length_map]; exact ha) = (es.map Prod.snd)[b]'(by rw [List.length_map]; exact hb) := by
                rw [List.getElem_map, List.getElem_map, ha', hb']
                exact hek
              have h3 := (List.getElem_inj h1).mp h2
              subst h3
              rw [← ha', hb']
            rw [hee, if_pos ⟨rfl, rfl⟩, upd_same, List.map_append]
            rfl
          · have hne : ¬ (s'.1 = e.1.1 ∧ s'.2.1 = e.1.2) := fun z => hek (by
              have h1 := hE.nk
              have hek2 : e.1 = (s'.1, s'.2.1) := by rw [z.1, z.2]
              obtain ⟨a, ha, ha'⟩ := List.mem_iff_getElem.mp he
              obtain ⟨b, hb, hb'⟩ := List.mem_iff_getElem.mp hmem
              have h2 : (es.map Prod.fst)[a]'(by rw [List.length_map]; exact ha) = (es.map Prod.fst)[b]'(by rw [List.length_map]; exact hb) := by
                rw [List.getElem_map, List.getElem_map, ha', hb']
                exact hek2
              have h3 := (List.getElem_inj h1).mp h2
              subst h3
              rw [← ha', hb'])
            rw [if_neg hne, List.append_nil, upd_ne hek]
            exact hE2.l e he
        · rw [eS, succs_snoc, hE.out x hx, if_neg]
          · rfl
          · intro z
            exact lookE_none hx _ hmem (by rw [z.1, z.2])
      · rw [hget] at hn
        have hn2 : lookE es (s'.1, s'.2.1) = none := by
          cases e : lookE es (s'.1, s'.2.1) with
          | none => rfl
          | some l => rw [e] at hn; cases hn
        have hnk := lookE_none hn2
        rw [putK_new _ (by rw [hget, hn2]; rfl)]
        have eput : tbl es ++ [(pk (s'.1, s'.2.1), V.ref nl)] = tbl (es ++ [((s'.1, s'.2.1), nl)]) := by
          unfold tbl
          rw [List.map_append]
          rfl
        rw [eput]
        have hnld : nl ≠ d := ne_of enl hE2.t (by intro z; cases z)
        have enl4 : upd H3 d (.dT (tbl (es ++ [((s'.1, s'.2.1), nl)]))) nl = some (.lst []) := by rw [upd_ne hnld]; exact enl
        refine ⟨.inl ⟨rfl, _, SqL.of enl4⟩, _, rfl, nl, _, _, rfl, rfl, enl4, by simp; exact sz_lt (by omega), ?_⟩
        refine ⟨es ++ [((s'.1, s'.2.1), nl)], _, _, _, rfl, (k2.mut (.inl hd) hE2.t).mut (.inl nnl) enl4, ⟨by rw [upd_ne hnld.symm, upd_same], ?_, ?_, fun e he => ?_, fun x hx => ?_, by rw [eS, List.length_append, List.length_append, List.length_take]; show _ + 1 ≤ _ + 1; omega⟩, fun e he => ?_⟩
        · rw [List.map_append, List.nodup_append]
          refine ⟨hE.nk, by simp, fun a ha b hb => ?_⟩
          have hb : b = (s'.1, s'.2.1) := List.mem_singleton.mp hb
          obtain ⟨e, he, e1⟩ := List.mem_map.mp ha
          rw [hb, ← e1]
          exact hnk e he
        · rw [List.map_append, List.nodup_append]
          refine ⟨hE.na, by simp, fun a ha b hb => ?_⟩
          have hb : b = nl := List.mem_singleton.mp hb
          obtain ⟨e, he, e1⟩ := List.mem_map.mp ha
          rw [hb, ← e1]
          exact ne_of_none (hE.l e he) nnl2
        · rw [eS, succs_snoc]
          rcases List.mem_append.mp he with h | h
          · have hne : ¬ (s'.1 = e.1.1 ∧ s'.2.1 = e.1.2) := fun z => hnk e h (by rw [z.1, z.2])
            have h1 : e.2 ≠ nl := ne_of_none (hE.l e h) nnl2
            have h2 : e.2 ≠ d := ne_of (hE2.l e h) hE2.t (by intro z; cases z)
            rw [if_neg hne, List.append_nil, upd_ne h1, upd_ne h2]
            exact hE2.l e h
          · rw [List.mem_singleton.mp h, if_pos ⟨rfl, rfl⟩, upd_same, hE.out _ hn2]
            rfl
        · have hx1 : lookE es x = none ∧ x ≠ (s'.1, s'.2.1) := by
            have h := lookE_none hx
            refine ⟨?_, fun z => h ((s'.1, s'.2.1), nl) (List.mem_append_right _ List.mem_cons_self) z.symm⟩
            cases e : lookE es x with
            | none => rfl
            | some l => exact absurd rfl (h (x, l) (List.mem_append_left _ (lookE_mem e)))
          rw [eS, succs_snoc, hE.out x hx1.1, if_neg]
          · rfl
          · intro z
            exact hx1.2 (by rw [z.1, z.2])
        · rcases List.mem_append.mp he with h | h
          · exact hnew e h
          · rw [List.mem_singleton.mp h]
            exact nnl
    · obtain ⟨es, y2, y3, y4, rfl, k, hE, _⟩ := h1
      rw [List.take_of_length_le (by rw [List.length_map, lts]; exact Nat.le_refl _)] at hE
      exact ⟨_, rfl, q H1 d k ⟨es, hE⟩⟩
end
end K51
/-! nodes of a search: whole numbers, triples -/
namespace K51
open PySem PySem.Spec PyProof.Rows L2 NdefX LamX
section
variable {α : Type}
noncomputable def tNI (v : Hp → V → α → Prop) (dict : Hp → Addr → List α → Prop) (ty td : TE) : TE := fun σ H Q => ty σ H fun y H1 => td σ H1 fun x H2 => ∃ a d ks, x = .ref d ∧ v H2 y a ∧ dict H2 d ks ∧ Q (.bl (!dc (a ∈ ks))) H2
def sPutN (v : Hp → V → α → Prop) (dict : Hp → Addr → List α → Prop) (td ty tv : TE) : TS := fun D σ H => tv σ H fun z H1 => td σ H1 fun x H2 => ty σ H2 fun y H3 => ∃ a d ks, x = .ref d ∧ z = .bl true ∧ v H3 y a ∧ dict H3 d ks ∧ a ∉ ks ∧ ks.length ≤ 100000 ∧
  ((∀ q, H3 d ≠ some (CodeO d q)) → ∀ o, dict (upd H3 d o) d (ks ++ [a]) → D.nx σ (upd H3 d o))
def tNewN (dict : Hp → Addr → List α → Prop) : TE := fun _ H Q => ∀ d, H d = none → ∀ o, dict (upd H d o) d [] → Q (.ref d) (upd H d o)
end
/-- tuples stay -/
def Ts (H H' : Hp) : Prop := ∀ t xs, H t = some (.tup xs) → H' t = some (.tup xs)
/-- a kind of node -/
structure NK (P : Program) (w : World) (K : PySem.W.Frag) (α : Type) where
  v : Hp → V → α → Prop
  dict : Hp → Addr → List α → Prop
  data : α → PyData
  ni : ∀ {X : Cx} {o i : Expr} {ty td : TE}, X.prog = P → X.w = w → X.A.units + 65 < cLine → PE X i ty → PE X o td → PC X .NotIn i o (tNI v dict ty td)
  put : ∀ {X : Cx} {o i value : Expr} {pos pos' : Pos} {ty td tv : TE}, X.prog = P → X.w = w → X.A.units + 65 < cLine → PE X o td → PE X i ty → PE X value tv → swapsWith value (some (.Subscript o i pos')) pos.line X.env = pure false → PS X (.Assign [.Subscript o i pos'] value pos) (sPutN v dict td ty tv)
  new : ∀ {X : Cx} {pos : Pos}, X.prog = P → X.w = w → PE X (.Dict [] [] pos) (tNewN dict)
  dp : ∀ {H x a}, v H x a → Dp K H x (data a)
  flat : ∀ a, Flat1 (data a)
  eqv : ∀ a b, PyData.eqv (data a) (data b) = dc (a = b)
  vts : ∀ {H H' x a}, v H x a → Ts H H' → v H' x a
  dts : ∀ {H H' d ks}, dict H d ks → Ts H H' → H' d = H d → dict H' d ks
  dl : ∀ {H d ks xs}, dict H d ks → H d ≠ some (.lst xs)
  dt : ∀ {H d ks xs}, dict H d ks → H d ≠ some (.tup xs)
  db : ∀ {H d ks ps}, dict H d ks → H d ≠ some (.tbl ps)
  dn : ∀ {H d ks}, dict H d ks → H d ≠ none
section
variable {P : Program} {w : World} {K : PySem.W.Frag}
theorem kdl_snoc {ks : List Nat} {a : Nat} (h : a ∉ ks) : putK (kdl ks) (Sum.inl (a : Int)) (V.bl true) = kdl (ks ++ [a]) := by
  rw [putK_new _ (kd_none h)]
  unfold kdl
  rw [List.map_append]
  rfl
/-- whole numbers -/
noncomputable def intNK : NK P w K Nat where
  v := fun _ x a => x = ni a
  dict := fun H d ks => H d = some (kd ks)
  data := fun a => .int (a : Int)
  ni := fun {X o i ty td} _ _ hu hi ho => by
    refine ⟨fun pins s σ H Q I h => ?_⟩
    refine thn (hi.run pins s σ H _ I h) fun iv s1 ⟨y, H1, I1, ry, q1⟩ => thn (ho.run pins s1 σ H1 _ I1 q1) fun u s2 ⟨x, H2, I2, rx, a, d, ks, ex, ey, hd, q2⟩ => ?_
    subst ex ey
    obtain rfl : u = Value.ref d := rx
    refine d_notIn (by omega) I2 (DGet.k hd (k := Sum.inl (a : Int))) ry fun s3 I3 => ⟨.bl _, H2, I3, rfl, ?_⟩
    rw [kd_get]
    by_cases hm : a ∈ ks
    · rw [dc_true hm] at q2
      rw [decide_eq_true hm]
      exact q2
    · rw [dc_false hm] at q2
      rw [decide_eq_false hm]
      exact q2
  put := fun {X o i value pos pos' ty td tv} _ _ hu ho hi hv hs => by
    refine ⟨fun pins s σ H D I h => ?_⟩
    refine wpAny_Assign_Subscript (thn (hv.run pins s σ H _ I h) fun r s1 ⟨v, H1, I1, rv, q1⟩ => thn (ho.run pins s1 σ H1 _ I1 q1) fun u s2 ⟨x, H2, I2, rx, q2⟩ => thn (hi.run pins s2 σ H2 _ I2 q2) fun iv s3 ⟨y, H3, I3, ry, a, d, ks, ex, ez, ey, hd, hn, hl, q3⟩ => ?_) hs
    subst ex ey ez
    obtain rfl : u = Value.ref d := rx
    refine d_setItem (by omega) I3 (DPut.k hd (k := Sum.inl (a : Int)) (v := V.bl true) (by unfold kdl; rw [List.length_map]; exact sz_lt (by omega))) ry rv fun s4 I4 => ⟨σ, _, I4, ?_⟩
    rw [kdl_snoc hn]
    exact q3 (fun q z => by rw [hd] at z; cases z) _ upd_same
  new := fun {X pos} _ _ => by
    refine ⟨fun pins s σ H Q I h => ?_⟩
    exact (pe_dnewK (X := X) (pos := pos)).run pins s σ H Q I fun p hp => h p hp _ upd_same
  dp := fun {H x a} h => by
    rw [h]
    exact .int _
  flat := fun a => flat1_leaf (leaf_int _)
  eqv := fun a b => by
    show ((a : Int) == (b : Int)) = _
    by_cases h : a = b
    · rw [h, dc_true rfl]
      exact beq_self_eq_true _
    · rw [dc_false h]
      exact beq_eq_false_iff_ne.mpr (by omega)
  vts := fun h _ => h
  dts := fun h _ e => e.trans h
  dl := fun {H d ks xs} h z => by rw [h] at z; cases z
  dt := fun {H d ks xs} h z => by rw [h] at z; cases z
  db := fun {H d ks ps} h z => by rw [h] at z; cases z
  dn := fun {H d ks} h z => by rw [h] at z; cases z
/-! triples of whole numbers -/
abbrev N3 := Nat × Nat × Nat
abbrev n3V (a : N3) : List V := [ni a.1, ni a.2.1, ni a.2.2]
def n3k (a : N3) : List L2.Key := [Sum.inl (a.1 : Int), Sum.inl (a.2.1 : Int), Sum.inl (a.2.2 : Int)]
theorem n3k_inj {a b : N3} (h : n3k a = n3k b) : a = b := by
  obtain ⟨a1, a2, a3⟩ := a
  obtain ⟨b1, b2, b3⟩ := b
  unfold n3k at h
  simp only [List.cons.injEq, Sum.inl.injEq, and_true] at h
  obtain ⟨h1, h2, h3⟩ := h
  have h1 : a1 = b1 := by omega
  have h2 : a2 = b2 := by omega
  have h3 : a3 = b3 := by omega
  rw [h1, h2, h3]
def n3l (ks : List N3) : List (List L2.Key × V) := ks.map fun k => (n3k k, V.bl true)
theorem n3_get (ks : List N3) (k : N3) : (valV (n3l ks) (n3k k)).isSome = decide (k ∈ ks) := by
  induction ks with
  | nil => rfl
  | cons a ks ih =>
    show (valV ((n3k a, V.bl true) :: n3l ks) (n3k k)).isSome = _
    by_cases e : a = k
    · subst e
      rw [valV_pos (show (n3k a, V.bl true).1 = n3k a from rfl), decide_eq_true List.mem_cons_self]
      rfl
    · rw [valV_neg (show ¬ (n3k a, V.bl true).1 = n3k k from fun z => e (n3k_inj z)), ih]
      by_cases h : k ∈ ks
      · rw [decide_eq_true h, decide_eq_true (List.mem_cons_of_mem _ h)]
      · rw [decide_eq_false h, decide_eq_false (fun z => by
          rcases List.mem_cons.mp z with z | z
          · exact e z.symm
          · exact h z)]
theorem n3_none {ks : List N3} {k : N3} (h : k ∉ ks) : valV (n3l ks) (n3k k) = none := by
  have := n3_get ks k
  rw [decide_eq_false h] at this
  cases e : valV (n3l ks) (n3k k) with
  | none => rfl
  | some v => rw [e] at this; cases this
theorem n3l_snoc {ks : List N3} {a : N3} (h : a ∉ ks) : putK (n3l ks) (n3k a) (V.bl true) = n3l (ks ++ [a]) := by
  rw [putK_new _ (n3_none h)]
  unfold n3l
  rw [List.map_append]
  rfl
noncomputable def n3NK : NK P w K N3 where
  v := fun H x a => ∃ t, x = .ref t ∧ H t = some (.tup (n3V a))
  dict := fun H d ks => H d = some (.dT (n3l ks))
  data := fun a => .tuple [.int (a.1 : Int), .int (a.2.1 : Int), .int (a.2.2 : Int)]
  ni := fun {X o i ty td} _ _ hu hi ho => by
    refine ⟨fun pins s σ H Q I h => ?_⟩
    refine thn (hi.run pins s σ H _ I h) fun iv s1 ⟨y, H1, I1, ry, q1⟩ => thn (ho.run pins s1 σ H1 _ I1 q1) fun u s2 ⟨x, H2, I2, rx, a, d, ks, ex, ⟨t, ey, et⟩, hd, q2⟩ => ?_
    subst ex ey
    obtain rfl : u = Value.ref d := rx
    refine d_notIn (by omega) I2 (DGet.t hd (k := n3k a) et) ry fun s3 I3 => ⟨.bl _, H2, I3, rfl, ?_⟩
    by_cases hm : a ∈ ks
    · rw [dc_true hm] at q2
      rw [n3_get, decide_eq_true hm]
      exact q2
    · rw [dc_false hm] at q2
      rw [n3_get, decide_eq_false hm]
      exact q2
  put := fun {X o i value pos pos' ty td tv} _ _ hu ho hi hv hs => by
    refine ⟨fun pins s σ H D I h => ?_⟩
    refine wpAny_Assign_Subscript (thn (hv.run pins s σ H _ I h) fun r s1 ⟨v, H1, I1, rv, q1⟩ => thn (ho.run pins s1 σ H1 _ I1 q1) fun u s2 ⟨x, H2, I2, rx, q2⟩ => thn (hi.run pins s2 σ H2 _ I2 q2) fun iv s3 ⟨y, H3, I3, ry, a, d, ks, ex, ez, ⟨t, ey, et⟩, hd, hn, hl, q3⟩ => ?_) hs
    subst ex ey ez
    obtain rfl : u = Value.ref d := rx
    refine d_setItem (by omega) I3 (DPut.t hd (k := n3k a) (v := V.bl true) et (by unfold n3l; rw [List.length_map]; exact sz_lt (by omega))) ry rv fun s4 I4 => ⟨σ, _, I4, ?_⟩
    rw [n3l_snoc hn]
    exact q3 (fun q z => by rw [hd] at z; cases z) _ upd_same
  new := fun {X pos} _ _ => by
    refine ⟨fun pins s σ H Q I h => ?_⟩
    exact (pe_dnewT (X := X) (pos := pos)).run pins s σ H Q I fun p hp => h p hp _ upd_same
  dp := fun {H x a} ⟨t, e, h⟩ => by
    rw [e]
    exact .tup (SqT.of h) (.cons (.int _) (.cons (.int _) (.cons (.int _) .nil)))
  flat := fun a => flat1_of fun d hd => by
    simp only [List.mem_cons, List.not_mem_nil, or_false] at hd
    rcases hd with rfl | rfl | rfl <;> exact leaf_int _
  eqv := fun a b => by
    obtain ⟨a1, a2, a3⟩ := a
    obtain ⟨b1, b2, b3⟩ := b
    have e : PyData.eqv (.tuple [.int (a1 : Int), .int (a2 : Int), .int (a3 : Int)]) (.tuple [.int (b1 : Int), .int (b2 : Int), .int (b3 : Int)]) = (((a1 : Int) == (b1 : Int)) && (((a2 : Int) == (b2 : Int)) && (((a3 : Int) == (b3 : Int)) && true))) := by simp only [PyData.eqv, PyData.eqvAll]
    show PyData.eqv (.tuple [.int (a1 : Int), .int (a2 : Int), .int (a3 : Int)]) (.tuple [.int (b1 : Int), .int (b2 : Int), .int (b3 : Int)]) = _
    rw [e, Bool.eq_iff_iff]
    simp only [Bool.and_eq_true, beq_iff_eq, dc_iff, Prod.mk.injEq, and_true]
    omega
  vts := fun {H H' x a} ⟨t, e, h⟩ k => ⟨t, e, k _ _ h⟩
  dts := fun h _ e => e.trans h
  dl := fun {H d ks xs} h z => by rw [h] at z; cases z
  dt := fun {H d ks xs} h z => by rw [h] at z; cases z
  db := fun {H d ks ps} h z => by rw [h] at z; cases z
  dn := fun {H d ks} h z => by rw [h] at z; cases z
end
end K51
/-! nodes of a search: two rooms and a truth -/
namespace K51
open PySem PySem.Spec PyProof.Rows L2 NdefX LamX
abbrev NB := Nat × Nat × Bool
abbrev nbV (a : NB) : List V := [ni a.1, ni a.2.1, .bl a.2.2]
def nbk (a : NB) : NestedKey := .tup [.num (a.1 : Int), .num (a.2.1 : Int), .num (if a.2.2 = true then 1 else 0)]
theorem nbk_inj {a b : NB} (h : nbk a = nbk b) : a = b := by
  obtain ⟨a1, a2, a3⟩ := a
  obtain ⟨b1, b2, b3⟩ := b
  unfold nbk at h
  simp only [NestedKey.tup.injEq, List.cons.injEq, NestedKey.num.injEq, and_true] at h
  obtain ⟨h1, h2, h3⟩ := h
  have h1 : a1 = b1 := by omega
  have h2 : a2 = b2 := by omega
  have h3 : a3 = b3 := by
    cases a3 <;> cases b3 <;> simp_all
  rw [h1, h2, h3]
/-- at d stands a dict with those keys, at those places -/
def DX (P : Program) (w : World) (d : Addr) (es : List (NestedKey × Addr)) : HO := .ext fun h => (d == sysModules) = false ∧ ∃ o eds ep, h.get? d = some o ∧ o.ExactDict ∧ o.data = .dict eds ep ∧
  eds.toList = (es.map fun e => (e.1, e.2, Value.bool true)).map (entryOfKey (nestedKind P w)) ∧ (es.map (·.1)).Nodup
def nbx (es : List (NB × Addr)) : List (NestedKey × Addr) := es.map fun e => (nbk e.1, e.2)
def nbDict (P : Program) (w : World) (H : Hp) (d : Addr) (ks : List NB) : Prop := ∃ es : List (NB × Addr), ks = es.map Prod.fst ∧ H d = some (DX P w d (nbx es)) ∧ ∀ e ∈ es, H e.2 = some (.tup (nbV e.1))
section
variable {X : Cx} {pins : List (Addr × Obj)} {σ : L2.St} {H : Hp} {s : Shared}
theorem nb_is (I : Inv X pins σ H s) {t : Addr} {a : NB} (h : H t = some (.tup (nbV a))) : (nestedKind X.prog X.w).is s.heap (nbk a) t := by
  obtain ⟨_, its, r, o, h1, h2, n, h3⟩ := (show ObjOk X.prog X.w H s.heap t (.tup (nbV a)) from I.hok t _ h)
  cases r with
  | cons r1 r =>
    cases r with
    | cons r2 r =>
      cases r with
      | cons r3 r =>
        cases r
        obtain ⟨t1, rfl⟩ := r1
        obtain ⟨t2, rfl⟩ := r2
        cases r3
        refine ⟨.tup h1 h2 h3 ?_, ?_⟩
        · exact .cons (.int _ _) (.cons (.int _ _) (.cons (.bool rfl) .nil))
        · show NestedKey.depth (nbk a) ≤ 8
          exact Nat.le_of_ble_eq_true rfl
theorem nb_dict (I : Inv X pins σ H s) {d : Addr} {es : List (NB × Addr)} (h : H d = some (DX X.prog X.w d (nbx es))) (ht : ∀ e ∈ es, H e.2 = some (.tup (nbV e.1))) :
    (d == sysModules) = false ∧ s.heap.DictOfH (nestedKind X.prog X.w) d ((nbx es).map fun e => (e.1, e.2, Value.bool true)) := by
  obtain ⟨⟨h0, o, eds, ep, h1, h2, h3, h4, h5⟩, _, _⟩ := I.hok d _ h
  refine ⟨h0, o, eds, ep, h1, h2, h3, h4, fun x hx => ?_, ?_⟩
  · obtain ⟨e, he, e1⟩ := List.mem_map.mp hx
    obtain ⟨e', he', e2⟩ := List.mem_map.mp he
    rw [← e1, ← e2]
    exact nb_is I (ht e' he')
  · rw [List.map_map]
    exact h5
theorem nb_at (es : List (NB × Addr)) (a : NB) : (atKey ((nbx es).map fun e => (e.1, e.2, Value.bool true)) (nbk a)).isSome = dc (a ∈ es.map Prod.fst) := by
  unfold atKey
  rw [Option.isSome_map, Bool.eq_iff_iff, List.find?_isSome, dc_iff]
  constructor
  · rintro ⟨x, hx, e⟩
    obtain ⟨y, hy, e1⟩ := List.mem_map.mp hx
    obtain ⟨z, hz, e2⟩ := List.mem_map.mp hy
    have e3 := of_decide_eq_true e
    rw [← e1, ← e2] at e3
    exact List.mem_map.mpr ⟨z, hz, nbk_inj e3⟩
  · intro h
    obtain ⟨z, hz, e⟩ := List.mem_map.mp h
    exact ⟨_, List.mem_map.mpr ⟨_, List.mem_map.mpr ⟨z, hz, rfl⟩, rfl⟩, decide_eq_true (by rw [← e])⟩
theorem nb_size {es : List (NB × Addr)} : ((nbx es).map fun e => (e.1, e.2, Value.bool true)).length = es.length := by
  unfold nbx
  rw [List.length_map, List.length_map]
/-- its object -/
theorem nb_ok {P : Program} {w : World} {H : Hp} {h : Heap} {d : Addr} {es : List (NestedKey × Addr)} (h0 : (d == sysModules) = false) (dd : h.DictOfH (nestedKind P w) d (es.map fun e => (e.1, e.2, Value.bool true))) : ObjOk P w H h d (DX P w d es) := by
  obtain ⟨o, eds, ep, h1, h2, h3, h4, _, h5⟩ := dd
  rw [List.map_map] at h5
  refine ⟨⟨h0, o, eds, ep, h1, h2, h3, h4, h5⟩, ⟨o, h1⟩, fun g1 g2 ⟨a, o, eds, ep, z1, z2⟩ st => ⟨a, o, eds, ep, st o z1, z2⟩⟩
theorem nb_code (I : Inv X pins σ H s) {d : Addr} {es : List (NestedKey × Addr)} (h : H d = some (DX X.prog X.w d es)) (q : Str) : H d ≠ some (CodeO d q) := fun z => by
  obtain ⟨⟨h0, o, eds, ep, h1, h2, h3, h4, h5⟩, _, _⟩ := I.hok d _ h
  obtain ⟨⟨oc, vs, t, e1, e2, e3⟩, _, _⟩ := I.hok d _ z
  rw [h1] at e1
  cases e1
  rw [h3] at e2
  cases e2
end
theorem dx_ne {P : Program} {w : World} {d : Addr} {es : List (NestedKey × Addr)} {o : HO} (h : ∀ φ, o ≠ .ext φ) : DX P w d es ≠ o := fun z => h _ z.symm
section
variable {P : Program} {w : World} {K : PySem.W.Frag}
noncomputable def nbNK : NK P w K NB where
  v := fun H x a => ∃ t, x = .ref t ∧ H t = some (.tup (nbV a))
  dict := nbDict P w
  data := fun a => .tuple [.int (a.1 : Int), .int (a.2.1 : Int), .bool a.2.2]
  ni := fun {X o i ty td} hP hw hu hi ho => by
    subst hP hw
    refine ⟨fun pins s σ H Q I h => ?_⟩
    refine thn (hi.run pins s σ H _ I h) fun iv s1 ⟨y, H1, I1, ry, q1⟩ => thn (ho.run pins s1 σ H1 _ I1 q1) fun u s2 ⟨x, H2, I2, rx, a, d, ks, ex, ⟨t, ey, et⟩, ⟨es, ek, ed, ht⟩, q2⟩ => ?_
    subst ex ey ek
    obtain rfl : u = Value.ref d := rx
    obtain rfl : iv = Value.ref t := ry
    obtain ⟨h0, dd⟩ := nb_dict I2 ed ht
    show wpAny (model X.prog X.w) X.A (do return Value.bool (!(← contains (.ref d) (.ref t)))) (EP X pins σ Q) X.xe s2
    refine wpAny_bind (wpAny_contains_heap (knd := nestedKind X.prog X.w) (by show X.A.in1.units + 8 < cLine; show X.A.units + 1 + 8 < cLine; omega) (nb_is I2 et) h0 dd (wpAny_pure ⟨.bl _, H2, I2.tok _, rfl, ?_⟩))
    rw [nb_at]
    exact q2
  put := fun {X o i value pos pos' ty td tv} hP hw hu ho hi hv hs => by
    subst hP hw
    refine ⟨fun pins s σ H D I h => ?_⟩
    refine wpAny_Assign_Subscript (thn (hv.run pins s σ H _ I h) fun r s1 ⟨v, H1, I1, rv, q1⟩ => thn (ho.run pins s1 σ H1 _ I1 q1) fun u s2 ⟨x, H2, I2, rx, q2⟩ => thn (hi.run pins s2 σ H2 _ I2 q2) fun iv s3 ⟨y, H3, I3, ry, a, d, ks, ex, ez, ⟨t, ey, et⟩, ⟨es, ek, ed, ht⟩, hn, hl, q3⟩ => ?_) hs
    subst ex ey ek ez
    obtain rfl : u = Value.ref d := rx
    obtain rfl : iv = Value.ref t := ry
    obtain rfl : r = Value.bool true := rv
    obtain ⟨h0, dd⟩ := nb_dict I3 ed ht
    have hat := nb_at es a
    rw [dc_false hn] at hat
    have hat2 : atKey ((nbx es).map fun e => (e.1, e.2, Value.bool true)) (nbk a) = none := by
      cases e : atKey ((nbx es).map fun e => (e.1, e.2, Value.bool true)) (nbk a) with
      | none => rfl
      | some z => rw [e] at hat; cases hat
    rw [List.length_map] at hl
    refine wpAny_setItem_heap (knd := nestedKind X.prog X.w) (hsz := by rw [nb_size]; exact sz_ok (by omega)) (by show X.A.units + 1 + 8 < cLine; omega) (nb_is I3 et) dd fun h' dd' hsb => ?_
    rw [storedH_new hat2] at dd'
    have eq1 : ((nbx es).map fun e => (e.1, e.2, Value.bool true)) ++ [(nbk a, t, Value.bool true)] = (nbx (es ++ [(a, t)])).map fun e => (e.1, e.2, Value.bool true) := by
      unfold nbx
      rw [List.map_append, List.map_append]
      rfl
    rw [eq1] at dd'
    have I4 : Inv X pins σ (upd H3 d (DX X.prog X.w d (nbx (es ++ [(a, t)])))) { s3 with heap := h', toks := s3.toks + (nestedKind X.prog X.w).draws (nbk a) } :=
      d_write I3 (by rw [ed]; exact True.intro) hsb (by obtain ⟨q, _, _, hq, _⟩ := dd'; exact ⟨q, hq⟩) (nb_ok h0 dd')
    refine ⟨σ, _, I4, q3 (nb_code I3 ed) _ ⟨es ++ [(a, t)], by rw [List.map_append]; rfl, upd_same, fun e he => ?_⟩⟩
    have he2 : H3 e.2 = some (.tup (nbV e.1)) := by
      rcases List.mem_append.mp he with h | h
      · exact ht e h
      · rw [List.mem_singleton.mp h]
        exact et
    rw [upd_ne (ne_of he2 ed (Ne.symm (dx_ne fun φ z => nomatch z)))]
    exact he2
  new := fun {X pos} hP hw => by
    subst hP hw
    refine ⟨fun pins s σ H Q I h => ?_⟩
    refine wpAny_Dict_empty ⟨.ref s.heap.objs.size, _, I.laid (a := s.heap.objs.size) (o := DX X.prog X.w s.heap.objs.size []) (t' := s.toks) (fun _ _ q => Heap.get?_push_of_some _ q) (Nat.le_refl _) ?_, rfl, h _ (I.hok.fresh (Nat.le_refl _)) _ ⟨[], rfl, upd_same, fun _ h => nomatch h⟩⟩
    exact nb_ok (beq_eq_false_iff_ne.mpr (Ne.symm (Nat.ne_of_lt I.big))) (Heap.DictOfH.new s.heap)
  dp := fun {H x a} ⟨t, e, h⟩ => by
    rw [e]
    exact .tup (SqT.of h) (.cons (.int _) (.cons (.int _) (.cons (.bl _) .nil)))
  flat := fun a => flat1_of fun d hd => by
    simp only [List.mem_cons, List.not_mem_nil, or_false] at hd
    rcases hd with rfl | rfl | rfl
    · exact leaf_int _
    · exact leaf_int _
    · exact leaf_bool _
  eqv := fun a b => by
    obtain ⟨a1, a2, a3⟩ := a
    obtain ⟨b1, b2, b3⟩ := b
    have e : PyData.eqv (.tuple [.int (a1 : Int), .int (a2 : Int), .bool a3]) (.tuple [.int (b1 : Int), .int (b2 : Int), .bool b3]) = (((a1 : Int) == (b1 : Int)) && (((a2 : Int) == (b2 : Int)) && ((a3 == b3) && true))) := by simp only [PyData.eqv, PyData.eqvAll]
    show PyData.eqv (.tuple [.int (a1 : Int), .int (a2 : Int), .bool a3]) (.tuple [.int (b1 : Int), .int (b2 : Int), .bool b3]) = _
    rw [e, Bool.eq_iff_iff]
    simp only [Bool.and_eq_true, beq_iff_eq, dc_iff, Prod.mk.injEq, and_true]
    constructor
    · rintro ⟨h1, h2, h3⟩
      exact ⟨by omega, by omega, h3⟩
    · rintro ⟨h1, h2, h3⟩
      exact ⟨by omega, by omega, h3⟩
  vts := fun {H H' x a} ⟨t, e, h⟩ k => ⟨t, e, k _ _ h⟩
  dts := fun {H H' d ks} ⟨es, e1, e2, e3⟩ k e => ⟨es, e1, e.trans e2, fun x hx => k _ _ (e3 x hx)⟩
  dl := fun {H d ks xs} ⟨es, e1, e2, e3⟩ z => by
    rw [e2] at z
    cases z
  dt := fun {H d ks xs} ⟨es, e1, e2, e3⟩ z => by
    rw [e2] at z
    cases z
  db := fun {H d ks ps} ⟨es, e1, e2, e3⟩ z => by
    rw [e2] at z
    cases z
  dn := fun {H d ks} ⟨es, e1, e2, e3⟩ z => by
    rw [e2] at z
    cases z
end
end K51
/-! searching: a function that is handed in -/
namespace K51
open PySem PySem.Spec PyProof.Rows L2 NdefX LamX
/-! ### ways in a graph with signs -/
inductive Pth {α : Type} (nx : α → Nat → List α) : List Nat → α → α → Prop where
  | nil (a : α) : Pth nx [] a a
  | cons {c : Nat} {w : List Nat} {a b d : α} : b ∈ nx a c → Pth nx w b d → Pth nx (c :: w) a d
theorem Pth.snoc {α : Type} {nx : α → Nat → List α} {u : List Nat} {a b d : α} {c : Nat} (h : Pth nx u a b) (e : d ∈ nx b c) : Pth nx (u ++ [c]) a d := by
  induction h with
  | nil a => exact .cons e (.nil _)
  | cons q _ ih => exact .cons q (ih e)
/-- a known set that is closed holds all that is reached -/
theorem Pth.closed {α : Type} {nx : α → Nat → List α} {sgs : List Nat} {ks : List α} : ∀ {w : List Nat} {a b : α}, Pth nx w a b → (∀ c ∈ w, c ∈ sgs) → w ≠ [] → (∀ c ∈ sgs, ∀ y ∈ nx a c, y ∈ ks) → (∀ x ∈ ks, ∀ c ∈ sgs, ∀ y ∈ nx x c, y ∈ ks) → b ∈ ks
  | _, _, _, .nil _, _, h, _, _ => absurd rfl h
  | _, _, _, .cons (w := []) q (.nil _), hw, _, ha, _ => ha _ (hw _ List.mem_cons_self) _ q
  | _, _, _, .cons (w := c' :: w) q r, hw, _, ha, hk => Pth.closed r (fun c hc => hw c (List.mem_cons_of_mem _ hc)) (by simp) (hk _ (ha _ (hw _ List.mem_cons_self) _ q)) hk
theorem nodup_sub {α : Type} : ∀ {ks U : List α}, ks.Nodup → (∀ k ∈ ks, k ∈ U) → ks.length ≤ U.length
  | [], _, _, _ => Nat.zero_le _
  | a :: ks, U, h, hb => by
    obtain ⟨l1, l2, e⟩ := List.append_of_mem (hb a List.mem_cons_self)
    subst e
    have h1 := List.nodup_cons.mp h
    have h2 := nodup_sub (U := l1 ++ l2) h1.2 fun k hk => by
      have h3 := hb k (List.mem_cons_of_mem _ hk)
      rcases List.mem_append.mp h3 with z | z
      · exact List.mem_append_left _ z
      · rcases List.mem_cons.mp z with z | z
        · rw [z] at hk
          exact absurd hk h1.1
        · exact List.mem_append_right _ z
    rw [List.length_append] at h2 ⊢
    show ks.length + 1 ≤ l1.length + (l2.length + 1)
    omega
/-! ### heaps -/
section
variable {T : List NTab} {ex : List Addr} {H H1 H' : Hp} {p : Addr} {o u : HO}
theorem Kp.mutC (a : Kp T ex H H') (hp : H p = none ∨ p ∈ ex) (h : H' p = some u) (nt : ∀ ps, u ≠ .tbl ps) (nc : ∀ q, u ≠ CodeO p q) : Kp T ex H (upd H' p o) := by
  refine ⟨fun b v e n x => ?_, fun b e => a.back b (back_upd e), fun t => ?_⟩
  · have nb : b ≠ p := fun z => by
      rcases hp with q | q
      · rw [z, q] at e; cases e
      · exact x (z ▸ q)
    rw [upd_ne nb]
    exact a.keep b v e n x
  · intro q hq
    obtain ⟨ps, h1, h2, h3⟩ := a.tab t q hq
    have n1 : q.1 ≠ p := fun z => by
      rw [z, h] at h1
      exact nt _ (Option.some.inj h1)
    refine ⟨ps, by rw [upd_ne n1]; exact h1, h2, fun pos cv hc => ?_⟩
    obtain ⟨c, e1, e2⟩ := h3 pos cv hc
    have n2 : c ≠ p := fun z => by
      rw [z, h] at e2
      exact nc _ (Option.some.inj e2)
    exact ⟨c, e1, by rw [upd_ne n2]; exact e2⟩
theorem Kp.ts (a : Kp T ex H H') (hx : ∀ b ∈ ex, ∀ xs, H b ≠ some (.tup xs)) : Ts H H' := fun t xs h => a.getX h fun z => hx t z xs h
theorem Kp.ts0 (a : Kp T [] H H') : Ts H H' := a.ts fun _ z => nomatch z
end
section
variable {P : Program} {w : World} {K : PySem.W.Frag} {α : Type} {T : List NTab} {ex : List Addr} {H H' : Hp}
theorem NK.vk (N : NK P w K α) {x : V} {a : α} (h : N.v H x a) (k : Kp T ex H H') (hx : ∀ b ∈ ex, ∀ xs, H b ≠ some (.tup xs)) : N.v H' x a := N.vts h (k.ts hx)
theorem NK.pk (N : NK P w K α) {xs : List V} {as : List α} (h : Paired (N.v H) xs as) (k : Kp T ex H H') (hx : ∀ b ∈ ex, ∀ xs, H b ≠ some (.tup xs)) : Paired (N.v H') xs as := Paired.mapP h fun x a q => N.vk q k hx
theorem NK.dk (N : NK P w K α) {d : Addr} {ks : List α} (h : N.dict H d ks) (k : Kp T ex H H') (hx : ∀ b ∈ ex, ∀ xs, H b ≠ some (.tup xs)) (hd : d ∉ ex) : N.dict H' d ks := by
  cases e : H d with
  | none => exact absurd e (N.dn h)
  | some o =>
    refine N.dts h (k.ts hx) ?_
    rw [e]
    exact k.getX e hd fun ps z => N.db h (by rw [e, z])
/-! ### the function that tells what comes next -/
structure Nexts (P : Program) (w : World) (K : PySem.W.Frag) (mg : Str → Option Value) (base : Heap) (T : List NTab) (k : Nat) (N : NK P w K α) (nx : α → Nat → List α) (sgs : List Nat) (f : Addr) (H0 : Hp) (S : Heap → Hp → Prop) : Prop where
  stay : ∀ {fs : List Addr} {H H' : Hp} {h h' : Heap}, f ∉ fs → Un fs [] H H' h h' → S h H → S h' H'
  fn : ∀ {s : Shared} {H : Hp}, HOk P w H s.heap → Kp T [] H0 H → S s.heap H → PySem.W.FnAt f s.heap
  run : ∀ (A : Around) (outer : List Env) (s : Shared) (H : Hp) (us : List Value) (x : V) (a : α) (c : Nat) (Q : VK), Room k A → Env0 P w K mg base A outer s H → S s.heap H → Kp T [] H0 H → N.v H x a → c ∈ sgs → Vals [x, sg c] us →
    (∀ H' p xs, Kp T [] H H' → ((∃ o, H0 p = some o) ∨ H p = none) → H' p = some (.lst xs) → Paired (N.v H') xs (nx a c) → Q (.ref p) H') → codeAny (model P w) A (.call (.ref f) ⟨us, []⟩) (CR CX0 outer P w H s Q E0) s
end
section
variable {X : Cx} {α : Type} {T : List NTab}
/-- nexts(here, sign) -/
def tNx (N : NK X.prog X.w X.K α) (nx : α → Nat → List α) (sgs : List Nat) (T : List NTab) (f : Addr) (H0 : Hp) (i : Nat) (t : TA) : TE := fun σ H Q => σ[i]? = some (some (.ref f)) ∧ Kp T [] H0 H ∧
  t σ H fun vs H1 => ∃ x a c, vs = [x, sg c] ∧ N.v H1 x a ∧ c ∈ sgs ∧ Kp T [] H0 H1 ∧ ∀ H' p xs, Kp T [] H1 H' → ((∃ o, H0 p = some o) ∨ H1 p = none) → H' p = some (.lst xs) → Paired (N.v H') xs (nx a c) → Q (.ref p) H'
theorem pe_nx {k j i : Nat} {N : NK X.prog X.w X.K α} {nx : α → Nat → List α} {sgs : List Nat} {f : Addr} {H0 : Hp} {S : Heap → Hp → Prop} {x : Str} {t : TA} {e : Expr} {es : List Expr} {p pos : Pos}
    (F : Nexts X.prog X.w X.K X.mg X.base T k N nx sgs f H0 S) (h0 : S X.s_0.heap X.H_0) (hf : f ∉ X.fs) (hex : X.ex = []) (hr : Room j X.A) (hk : k ≤ j) (hN : X.N[i]? = some x) (hv : Vis X.env.scope x) (ha : PA X (e :: es) t)
    (hd : (x == ("__debug__" : Str)) = false := by decide) (hcd : (x == ("__classdict__" : Str)) = false := by decide)
    (he : starEach (e :: es) X.env = (false, eval e X.env) :: starEach es X.env := by rfl) (hpl : (backTo pos (starEach es X.env)).any (·.1) = false := by rfl) :
    PE X (.Call (.Name x p) (e :: es) [] pos) (tNx N nx sgs T f H0 i t) := by
  refine ⟨fun pins s σ H Q I h => ?_⟩
  obtain ⟨hs, kH, ht⟩ := h
  have st : ∀ {σ : L2.St} {H : Hp} {s : Shared}, Inv X pins σ H s → S s.heap H := fun {σ H s} I => F.stay hf (by have := I.base; rw [hex] at this; exact this) h0
  refine wpAny_Call_Name_kw (thn ((pe_var (pos := p) hN hv hd hcd).run pins s σ H (fun v H1 => v = .ref f ∧ H1 = H) I ⟨.ref f, hs, rfl, rfl⟩) fun u s1 ⟨v, H1, I1, r1, q1⟩ => ?_)
  obtain ⟨ev, eH⟩ := q1
  subst ev
  rw [eH] at I1
  obtain rfl : u = Value.ref f := r1
  refine PySem.W.callWith_F (first := []) (F.fn I1.hok kH (st I1)) (thn (ha.run pos pins s1 σ H _ I1 ht) fun us s2 ⟨vs, H2, I2, r, y, a, c, ev, hva, hc, kH2, q⟩ => ⟨F.fn I2.hok kH2 (st I2), ?_⟩) he hpl
  subst ev
  show wpAny _ _ (call (.ref f) us) _ _ _
  refine wpAny_call (codeAny_mono (F.run X.A X.stack s2 H2 us y a c Q (hr.mono hk) I2.env0 (st I2) kH2 hva hc r q) fun r s' hq => ?_)
  cases r with
  | error e => exact (show False from hq).elim
  | ok fl =>
    cases fl with
    | ret u => exact I2.after hq
    | next => exact False.elim hq
    | brk => exact False.elim hq
    | cont => exact False.elim hq
end
end K51
/-! first_text -/
namespace K51
open PySem PySem.Spec PyProof.Rows L2 NdefX LamX
section
variable {α : Type}
/-- the answer of a search -/
def Told (nx : α → Nat → List α) (sgs : List Nat) (a b : α) (B : Nat) (v : V) : Prop :=
  (v = .non ∧ ∀ w, w ≠ [] → (∀ c ∈ w, c ∈ sgs) → ¬ Pth nx w a b) ∨ ∃ w, v = wd w ∧ w ≠ [] ∧ (∀ c ∈ w, c ∈ sgs) ∧ Pth nx w a b ∧ w.length ≤ B
variable {P : Program} {w : World} {K : PySem.W.Frag} {mg : Str → Option Value} {base : Heap} {T : List NTab}
/-- what waits: lists of nodes, the text that leads there -/
def WaitAt (N : NK P w K α) (av : List Addr) (H : Hp) (wa : Addr) (ws : List (List α × List Nat)) : Prop := ∃ ts : List Addr, H wa = some (.lst (ts.map V.ref)) ∧
  Paired (fun t z => ∃ l xs, H t = some (.tup [.ref l, wd z.2]) ∧ H l = some (.lst xs) ∧ Paired (N.v H) xs z.1 ∧ l ∉ av) ts ws
/-- neither tuple nor list outside av -/
def Mu (av : List Addr) (H : Hp) (b : Addr) : Prop := (∀ xs, H b ≠ some (.tup xs)) ∧ ((∀ xs, H b ≠ some (.lst xs)) ∨ b ∈ av)
theorem WaitAt.kp {N : NK P w K α} {av ex : List Addr} {H H' : Hp} {wa : Addr} {ws : List (List α × List Nat)} (h : WaitAt N av H wa ws) (k : Kp T ex H H') (hx : ∀ b ∈ ex, Mu av H b) (hwa : wa ∉ ex) : WaitAt N av H' wa ws := by
  obtain ⟨ts, h1, h2⟩ := h
  refine ⟨ts, k.getX h1 hwa, Paired.mapP h2 fun t z ⟨l, xs, e1, e2, e3, e4⟩ => ⟨l, xs, k.getX e1 (fun z => (hx t z).1 _ e1), k.getX e2 (fun z => (hx l z).2.elim (fun q => q _ e2) e4), N.pk e3 k (fun b hb => (hx b hb).1), e4⟩⟩
theorem WaitAt.far {N : NK P w K α} {av : List Addr} {H : Hp} {wa fo : Addr} {ws : List (List α × List Nat)} (h : WaitAt N av H wa ws) (hf : H fo = none) : WaitAt N (fo :: av) H wa ws := by
  obtain ⟨ts, h1, h2⟩ := h
  refine ⟨ts, h1, Paired.mapP h2 fun t z ⟨l, xs, e1, e2, e3, e4⟩ => ⟨l, xs, e1, e2, e3, fun z => ?_⟩⟩
  rcases List.mem_cons.mp z with q | q
  · rw [← q, e2] at hf
    cases hf
  · exact e4 q
theorem WaitAt.near {N : NK P w K α} {av : List Addr} {H : Hp} {wa fo : Addr} {ws : List (List α × List Nat)} (h : WaitAt N (fo :: av) H wa ws) : WaitAt N av H wa ws := by
  obtain ⟨ts, h1, h2⟩ := h
  exact ⟨ts, h1, Paired.mapP h2 fun t z ⟨l, xs, e1, e2, e3, e4⟩ => ⟨l, xs, e1, e2, e3, fun z => e4 (List.mem_cons_of_mem _ z)⟩⟩
theorem pair_fst {β γ : Type} {R : β → γ → Prop} {xs : List β} {bs : List γ} (h : Paired R xs bs) : ∀ {j : Nat} {x : β}, xs[j]? = some x → ∃ b, bs[j]? = some b ∧ R x b := by
  induction h with
  | nil => intro j x e; simp at e
  | @cons a b xs bs q r ih =>
    intro j x e
    cases j with
    | zero =>
      have e' : a = x := by simpa using e
      exact ⟨b, rfl, e' ▸ q⟩
    | succ j =>
      obtain ⟨b', h1, h2⟩ := ih (j := j) (x := x) (by simpa using e)
      exact ⟨b', by simpa using h1, h2⟩
structure Core (N : NK P w K α) (nx : α → Nat → List α) (sgs : List Nat) (a : α) (U : List α) (av : List Addr) (H : Hp) (d wa : Addr) (ks : List α) (ws : List (List α × List Nat)) (hot : List α) : Prop where
  dk : N.dict H d ks
  wt : WaitAt N av H wa ws
  nd : ks.Nodup
  us : ∀ k ∈ ks, k ∈ U
  pw : ∀ z ∈ ws, (∀ x ∈ z.1, Pth nx z.2 a x) ∧ (∀ c ∈ z.2, c ∈ sgs) ∧ z.2.length ≤ ks.length
  cl : ∀ x, (x = a ∨ x ∈ ks) → (∃ z ∈ ws, x ∈ z.1) ∨ x ∈ hot ∨ (∀ c ∈ sgs, ∀ y ∈ nx x c, y ∈ ks)
theorem Core.kp {N : NK P w K α} {nx : α → Nat → List α} {sgs : List Nat} {a : α} {U : List α} {av ex : List Addr} {H H' : Hp} {d wa : Addr} {ks : List α} {ws : List (List α × List Nat)} {hot : List α} (h : Core N nx sgs a U av H d wa ks ws hot) (k : Kp T ex H H') (hx : ∀ b ∈ ex, Mu av H b) (hd : d ∉ ex) (hwa : wa ∉ ex) : Core N nx sgs a U av H' d wa ks ws hot :=
  ⟨N.dk h.dk k (fun b hb => (hx b hb).1) hd, h.wt.kp k hx hwa, h.nd, h.us, h.pw, h.cl⟩
structure Find (N : NK P w K α) (nx : α → Nat → List α) (sgs : List Nat) (a : α) (U : List α) (H : Hp) (d wa l fo : Addr) (ks : List α) (ws : List (List α × List Nat)) (bs : List α) (xs : List V) (u : List Nat) (c : Nat) (fs : List α) : Prop where
  core : Core N nx sgs a U [fo, wa] H d wa (ks ++ fs) ws (bs ++ fs)
  el : H l = some (.lst xs)
  pl : Paired (N.v H) xs bs
  fo : ∃ fxs, H fo = some (.lst fxs) ∧ Paired (N.v H) fxs fs
  pt : ∀ y ∈ fs, Pth nx (u ++ [c]) a y
section
variable {N : NK P w K α} {nx : α → Nat → List α} {sgs : List Nat} {a : α} {U : List α} {H H' : Hp} {d wa l fo : Addr} {ks : List α} {ws : List (List α × List Nat)} {bs : List α} {xs : List V} {u : List Nat} {c : Nat} {fs : List α}
theorem Find.kp (h : Find N nx sgs a U H d wa l fo ks ws bs xs u c fs) (k : Kp T [] H H') : Find N nx sgs a U H' d wa l fo ks ws bs xs u c fs := by
  obtain ⟨fxs, e1, e2⟩ := h.fo
  exact ⟨h.core.kp k (fun _ z => nomatch z) (by simp) (by simp), k.get h.el, N.pk h.pl k (fun _ z => nomatch z), ⟨fxs, k.get e1, N.pk e2 k fun _ z => nomatch z⟩, h.pt⟩
/-- one more node is known and found -/
theorem Find.more (h : Find N nx sgs a U H d wa l fo ks ws bs xs u c fs) {o : HO} {fxs : List V} {yv : V} {y : α} (hy : N.v H yv y) (hn : y ∉ ks ++ fs) (hyU : y ∈ U) (hp : Pth nx (u ++ [c]) a y) (hc : ∀ q, H d ≠ some (CodeO d q)) (hd : N.dict (upd H d o) d (ks ++ fs ++ [y]))
    (hfo : upd H d o fo = some (.lst fxs)) (hlf : l ≠ fo) (hlw : l ≠ wa) (hwf : wa ≠ fo) : Find N nx sgs a U (upd (upd H d o) fo (.lst (fxs ++ [yv]))) d wa l fo ks ws bs xs u c (fs ++ [y]) := by
  obtain ⟨fxs', e1, e2⟩ := h.fo
  obtain ⟨od, eod⟩ : ∃ od, H d = some od := by
    cases e : H d with
    | none => exact absurd e (N.dn h.core.dk)
    | some od => exact ⟨od, rfl⟩
  have hdf : fo ≠ d := fun z => N.dl h.core.dk (by rw [← z]; exact e1)
  have hdl : l ≠ d := fun z => N.dl h.core.dk (by rw [← z]; exact h.el)
  obtain ⟨tsw, ew, _⟩ := h.core.wt
  have hdw : wa ≠ d := fun z => N.dl h.core.dk (by rw [← z]; exact ew)
  have kd1 : Kp [] [d] H (upd H d o) := (Kp.refl H).mutC (.inr List.mem_cons_self) eod (fun ps z => N.db h.core.dk (by rw [eod, z])) (fun q z => hc q (by rw [eod, z]))
  have kf : Kp [] [fo] (upd H d o) (upd (upd H d o) fo (.lst (fxs ++ [yv]))) := (Kp.refl _).mut (.inr List.mem_cons_self) hfo
  have kk : Kp [] [d, fo] H (upd (upd H d o) fo (.lst (fxs ++ [yv]))) := (kd1.wide (by simp)).trans (kf.wide (by simp))
  have mu : ∀ b ∈ [d, fo], Mu [fo, wa] H b := fun b hb => by
    rcases List.mem_cons.mp hb with z | z
    · rw [z]
      exact ⟨fun xs => N.dt h.core.dk, .inl fun xs => N.dl h.core.dk⟩
    · rw [List.mem_singleton.mp z]
      exact ⟨(fun xs z => by rw [e1] at z; cases z), .inr (by simp)⟩
  have nt : ∀ b ∈ [d, fo], ∀ xs, H b ≠ some (.tup xs) := fun b hb => (mu b hb).1
  have efx : fxs = fxs' := by
    rw [upd_ne hdf, e1] at hfo
    cases hfo
    rfl
  subst efx
  have hy2 : N.v (upd (upd H d o) fo (.lst (fxs ++ [yv]))) yv y := N.vk hy kk nt
  refine ⟨⟨?_, ?_, ?_, fun k hk => ?_, fun z hz => ?_, fun x hx => ?_⟩, kk.getX h.el (by simp [hdl, hlf]), N.pk h.pl kk nt, ⟨fxs ++ [yv], upd_same, Paired.snoc (N.pk e2 kk nt) hy2⟩, fun z hz => ?_⟩
  · rw [← List.append_assoc]
    exact N.dk hd kf (fun b hb xs z => by rw [List.mem_singleton.mp hb, hfo] at z; cases z) (by simp [hdf.symm])
  · exact h.core.wt.kp kk mu (by simp [hdw, hwf])
  · rw [← List.append_assoc, List.nodup_append]
    exact ⟨h.core.nd, by simp, fun p hp q hq => by rw [List.mem_singleton.mp hq]; exact fun e => hn (e ▸ hp)⟩
  · rw [← List.append_assoc] at hk
    rcases List.mem_append.mp hk with z | z
    · exact h.core.us k z
    · rw [List.mem_singleton.mp z]
      exact hyU
  · obtain ⟨p1, p2, p3⟩ := h.core.pw z hz
    refine ⟨p1, p2, ?_⟩
    rw [← List.append_assoc, List.length_append]
    omega
  · rw [← List.append_assoc] at hx
    have old : ∀ x, (x = a ∨ x ∈ ks ++ fs) → (∃ z ∈ ws, x ∈ z.1) ∨ x ∈ bs ++ (fs ++ [y]) ∨ (∀ c ∈ sgs, ∀ z ∈ nx x c, z ∈ ks ++ (fs ++ [y])) := fun x hx => by
      rcases h.core.cl x hx with z | z | z
      · exact .inl z
      · refine .inr (.inl ?_)
        rw [← List.append_assoc]
        exact List.mem_append_left _ z
      · refine .inr (.inr fun c hc y' hy' => ?_)
        rw [← List.append_assoc]
        exact List.mem_append_left _ (z c hc y' hy')
    rcases hx with hx | hx
    · exact old x (.inl hx)
    · rcases List.mem_append.mp hx with z | z
      · exact old x (.inr z)
      · refine .inr (.inl ?_)
        rw [List.mem_singleton.mp z]
        exact List.mem_append_right _ (List.mem_append_right _ List.mem_cons_self)
  · rcases List.mem_append.mp hz with z1 | z1
    · exact h.pt z z1
    · rw [List.mem_singleton.mp z1]
      exact hp
end
theorem dps_of (N : NK P w K α) {H : Hp} {xs : List V} {as : List α} (h : Paired (N.v H) xs as) : DpAll K H xs (as.map N.data) := by
  induction h with
  | nil => exact .nil
  | cons q r ih => exact .cons (N.dp q) ih
theorem any_data (N : NK P w K α) (as : List α) (b : α) : ((as.map N.data).any fun z => PyData.eqv z (N.data b)) = dc (b ∈ as) := by
  rw [List.any_map, Bool.eq_iff_iff, List.any_eq_true, dc_iff]
  constructor
  · rintro ⟨z, hz, e⟩
    have e : PyData.eqv (N.data z) (N.data b) = true := e
    rw [N.eqv, dc_iff] at e
    exact e ▸ hz
  · intro h
    exact ⟨b, h, by show PyData.eqv (N.data b) (N.data b) = true; rw [N.eqv, dc_iff]⟩
theorem ft_body (F : Fn K mg "first_text" s_first_text) (Tx : Txt mg) (N : NK P w K α) {nx : α → Nat → List α} {sgs : List Nat} {U : List α} {f g sl : Addr} {cdv : Value} {A : Around} {outer : List Env} {s : Shared} {H : Hp} {xa xb : V} {a b : α} {Q : VK} {S : Heap → Hp → Prop}
    (hFx : Nexts P w K mg base T 1 N nx sgs g H S) (hS0 : S s.heap H) (hgf : g ∉ frs outer) (hr : Room 1 (A.deeper (envOfC "first_text" (defScope s_first_text) s.heap.objs.size f cdv)))
    (hsl : H sl = some (.lst (sgs.map sg))) (hva : N.v H xa a) (hvb : N.v H xb b) (hU : ∀ x c y, y ∈ nx x c → y ∈ U) (hUl : U.length ≤ 2000) (q : ∀ H' v, Kp T [] H H' → Told nx sgs a b U.length v → Q v H') :
    ∃ t, PSs (cxOf CX0 P w K mg base ["signs", "start", "goal", "nexts", "known", "waiting", "some", "text", "sign", "found", "here", "to"] "first_text" (defScope s_first_text) f cdv A outer s H E0).nox (defBody s_first_text) t ∧
      t { nx := fun _ H' => Q .non H', rt := Q } (start ["signs", "start", "goal", "nexts", "known", "waiting", "some", "text", "sign", "found", "here", "to"] [.ref sl, xa, xb, .ref g]) H := by
  refine ⟨_, (pss_cons (ps_set (i := 4) sc_first_text.nd rfl (by first | exact .inl rfl | exact .inr rfl) (N.new rfl rfl))
      (pss_cons (ps_set (i := 5) sc_first_text.nd rfl (by first | exact .inl rfl | exact .inr rfl) (pe_lst (pa_cons (pe_tup (pa_cons (pe_lst (pa_cons (pv 1) pa_nil)) (pa_cons pe_str pa_nil))) pa_nil)))
      (pss_cons (ps_while PassesOwn.never (pt_cmpR (op_neNil (hu0 hr)) (pv 5) (pe_lst pa_nil) (nomark _))
      (pss_cons (ps_asg (pe_bm PySem.F.plainAttrs_list PySem.F.slot_list_pop PySem.F.type_list_pop mt_popAt (pv 5) (pa_cons pe_int pa_nil)) (pg_tup rfl (pgs_cons (pg_name (i := 6) sc_first_text.nd rfl (by first | exact .inl rfl | exact .inr rfl)) (pgs_cons (pg_name (i := 7) sc_first_text.nd rfl (by first | exact .inl rfl | exact .inr rfl)) pgs_nil))))
      (pss_one (ps_for PassesOwn.never rfl (pi_list (pv 0)) (pg_name (i := 8) sc_first_text.nd rfl (by first | exact .inl rfl | exact .inr rfl))
      (pss_cons (ps_set (i := 9) sc_first_text.nd rfl (by first | exact .inl rfl | exact .inr rfl) (pe_lst pa_nil))
      (pss_cons (ps_for PassesOwn.never rfl (pi_list (pv 6)) (pg_name (i := 10) sc_first_text.nd rfl (by first | exact .inl rfl | exact .inr rfl))
      (pss_one (ps_for PassesOwn.never rfl (pi_list (pe_nx hFx hS0 hgf rfl hr (by decide) (i := 3) (x := "nexts") rfl (Or.inl rfl) (pa_cons (pv 10) (pa_cons (pv 8) pa_nil)))) (pg_name (i := 11) sc_first_text.nd rfl (by first | exact .inl rfl | exact .inr rfl))
      (pss_one (ps_if (pt_cmp (N.ni rfl rfl (hu65 hr) (pv 11) (pv 4)))
      (pss_cons (N.put rfl rfl (hu65 hr) (pv 4) (pv 11) pe_bl rfl)
      (pss_one (ps_expr (pe_bm PySem.F.plainAttrs_list PySem.F.slot_list_append PySem.F.type_list_append mt_append (pv 9) (pa_cons (pv 11) pa_nil))))) pss_nil)))))
      (pss_cons (ps_if (pt_cmpR (op_inD (hu65 hr)) (pv 2) (pv 9) (by rfl))
      (pss_one (ps_ret (pe_op op_add_str (pv 7) (pv 8)))) pss_nil)
      (pss_one (ps_if (pt_cmpR (op_neNil (hu0 hr)) (pv 9) (pe_lst pa_nil) (nomark _))
      (pss_one (ps_expr (pe_bm PySem.F.plainAttrs_list PySem.F.slot_list_append PySem.F.type_list_append mt_append (pv 5) (pa_cons (pe_tup (pa_cons (pv 9) (pa_cons (pe_op op_add_str (pv 7) (pv 8)) pa_nil))) pa_nil)))) pss_nil)))))))))
      (pss_one (ps_ret pe_non))))), ?_⟩
  intro d hd od hdict
  have k1 : Kp T [] H (upd H d od) := Kp.new hd
  have hva1 := N.vk hva k1 (fun _ z => nomatch z)
  generalize upd H d od = H1 at *
  refine ⟨_, rfl, sz_ok (by simp), fun l0 hl0 => ?_⟩
  refine ⟨sz_ok (by simp), fun t0 ht0 => ?_⟩
  refine ⟨sz_ok (by simp), fun wa hwa => ?_⟩
  have kA : Kp T [] H1 (upd H1 l0 (.lst [xa])) := Kp.new hl0
  have kB := kA.snew (o := .tup [.ref l0, .str ""]) ht0
  have kC := kB.snew (o := .lst [.ref t0]) hwa
  have nwa : H wa = none := k1.free (kB.free hwa)
  have nwd : wa ≠ d := fun z => by
    have h1 := kB.free hwa
    rw [z] at h1
    exact N.dn hdict h1
  have core0 : Core N nx sgs a U [wa] (upd (upd (upd H1 l0 (.lst [xa])) t0 (.tup [.ref l0, .str ""])) wa (.lst [.ref t0])) d wa [] [([a], [])] [] := by
    refine ⟨N.dk hdict kC (fun _ z => nomatch z) (by simp), ⟨[t0], upd_same, .cons ⟨l0, [xa], ?_, ?_, .cons (N.vk hva1 kC fun _ z => nomatch z) .nil, ?_⟩ .nil⟩, List.nodup_nil, (fun _ h => nomatch h), fun z hz => ?_, fun x hx => ?_⟩
    · rw [upd_ne (ne_of_none upd_same hwa), upd_same]
      rfl
    · have h1 : upd (upd H1 l0 (.lst [xa])) t0 (.tup [.ref l0, .str ""]) l0 = some (.lst [xa]) := by rw [upd_ne (ne_of_none upd_same ht0), upd_same]
      rw [upd_ne (ne_of_none h1 hwa)]
      exact h1
    · have h1 : upd (upd H1 l0 (.lst [xa])) t0 (.tup [.ref l0, .str ""]) l0 = some (.lst [xa]) := by rw [upd_ne (ne_of_none upd_same ht0), upd_same]
      exact fun z => ne_of_none h1 hwa (List.mem_singleton.mp z)
    · rw [List.mem_singleton.mp hz]
      refine ⟨fun x hx => ?_, (fun _ h => nomatch h), Nat.le_refl _⟩
      rw [List.mem_singleton.mp hx]
      exact .nil a
    · rcases hx with hx | hx
      · exact .inl ⟨_, List.mem_cons_self, by rw [hx]; exact List.mem_cons_self⟩
      · cases hx
  have k2 := k1.trans kC
  generalize upd (upd (upd H1 l0 (.lst [xa])) t0 (.tup [.ref l0, .str ""])) wa (.lst [.ref t0]) = H2 at *
  refine ⟨fun m σ H3 => ∃ (ks : List α) (ws : List (List α × List Nat)) (y6 y7 y8 y9 y10 y11 : Option V), σ = [some (.ref sl), some xa, some xb, some (.ref g), some (.ref d), some (.ref wa), y6, y7, y8, y9, y10, y11] ∧ Kp T [] H H3 ∧ Core N nx sgs a U [wa] H3 d wa ks ws [] ∧ b ∉ ks ∧ ws.length ≤ ks.length + 1 ∧ m = (U.length - ks.length) + ws.length, ⟨_, [], [([a], [])], _, _, _, _, _, _, rfl, k2, core0, (by simp), Nat.le_refl _, rfl⟩, fun m σ H3 h3 => ?_⟩
  obtain ⟨ks, ws, y6, y7, y8, y9, y10, y11, rfl, k3, core, hb, hwl, hm⟩ := h3
  have hks := nodup_sub core.nd core.us
  obtain ⟨ts, ewa, hts⟩ := core.wt
  refine ⟨_, rfl, sz_ok (by simp), fun p hp => ?_⟩
  have kp : Kp T [] H3 (upd H3 p (.lst [])) := Kp.new hp
  have core' := core.kp kp (fun _ z => nomatch z) (by simp) (by simp)
  have k3' := k3.trans kp
  have ep : upd H3 p (.lst []) p = some (.lst []) := upd_same
  generalize upd H3 p (.lst []) = H4 at *
  clear ewa hts ts core k3
  obtain ⟨ts, ewa, hts⟩ := id core'.wt
  refine ⟨wa, p, _, rfl, rfl, SqL.of ewa, SqL.of ep, ?_⟩
  cases hts with
  | nil =>
    refine ⟨false, rfl, iteF ?_⟩
    refine q H4 .non k3' (.inl ⟨rfl, fun w' hw0 hw1 hpth => hb ?_⟩)
    have cl := core'.cl
    have cl2 : ∀ x, (x = a ∨ x ∈ ks) → ∀ c ∈ sgs, ∀ y ∈ nx x c, y ∈ ks := fun x hx => by
      rcases cl x hx with z | z | z
      · obtain ⟨_, h, _⟩ := z
        cases h
      · cases z
      · exact z
    exact Pth.closed hpth hw1 hw0 (cl2 a (.inl rfl)) fun x hx => cl2 x (.inr hx)
  | @cons t z ts ws hz hts =>
    obtain ⟨bs, u⟩ := z
    obtain ⟨l, xs, et, el, hbs, hlw⟩ := hz
    refine ⟨true, rfl, iteT ⟨fun σ' H' => ∃ m', m' < m ∧ _, fun _ _ h => h, ?_⟩⟩
    refine ⟨_, rfl, .inl ⟨rfl, _, SqL.of ewa⟩, wa, _, 0, 0, .ref t, rfl, rfl, ewa, by decide, by decide, ?_, rfl, ?_⟩
    · exact seqIndex_of (by decide) (by rw [List.length_map]; show (0 : Int) < ((ts.length + 1 : Nat) : Int); omega)
    have ee : ((t :: ts).map V.ref).eraseIdx 0 = ts.map V.ref := rfl
    rw [ee]
    have kw : Kp T [wa] H4 (upd H4 wa (.lst (ts.map V.ref))) := (Kp.refl H4).mut (.inr List.mem_cons_self) ewa
    have k5 := k3'.mut (o := .lst (ts.map V.ref)) (.inl nwa) ewa
    have mu : ∀ b ∈ [wa], Mu [wa] H4 b := fun b hb => by
      rw [List.mem_singleton.mp hb]
      exact ⟨(fun xs z => by rw [ewa] at z; cases z), .inr List.mem_cons_self⟩
    have nt : ∀ b ∈ [wa], ∀ xs, H4 b ≠ some (.tup xs) := fun b hb => (mu b hb).1
    have hlw' : l ≠ wa := fun z => hlw (List.mem_singleton.mpr z)
    have pw0 := core'.pw _ List.mem_cons_self
    have core5 : Core N nx sgs a U [wa] (upd H4 wa (.lst (ts.map V.ref))) d wa ks ws bs := by
      refine ⟨N.dk core'.dk kw nt (by simp [nwd.symm]), ⟨ts, upd_same, Paired.mapP hts fun t z ⟨l, xs, e1, e2, e3, e4⟩ => ⟨l, xs, kw.getX e1 (fun z => nt t z _ e1), kw.getX e2 (fun z => e4 z), N.pk e3 kw nt, e4⟩⟩, core'.nd, core'.us, fun z hz => core'.pw z (List.mem_cons_of_mem _ hz), fun x hx => ?_⟩
      rcases core'.cl x hx with ⟨z, hz, hxz⟩ | z | z
      · rcases List.mem_cons.mp hz with e | e
        · rw [e] at hxz
          exact .inr (.inl hxz)
        · exact .inl ⟨z, e, hxz⟩
      · cases z
      · exact .inr (.inr z)
    have el5 : upd H4 wa (.lst (ts.map V.ref)) l = some (.lst xs) := kw.getX el hlw
    have hbs5 := N.pk hbs kw nt
    have et5 : upd H4 wa (.lst (ts.map V.ref)) t = some (.tup [.ref l, wd u]) := kw.getX et (fun z => nt t z _ et)
    generalize upd H4 wa (.lst (ts.map V.ref)) = H5 at *
    refine ⟨t, _, rfl, SqT.of et5, rfl, _, _, rfl, _, _, rfl, rfl, ?_⟩
    refine ⟨_, rfl, sl, rfl, ⟨_, SqL.of (k5.get hsl)⟩, ?_⟩
    refine for_it (walk_list (xs := sgs.map sg)) (fun i σ H6 => ∃ (ks' : List α) (ws' : List (List α × List Nat)) (y8 y9 y10 y11 : Option V), σ = [some (.ref sl), some xa, some xb, some (.ref g), some (.ref d), some (.ref wa), some (.ref l), some (wd u), y8, y9, y10, y11] ∧ Kp T [] H H6 ∧ Core N nx sgs a U [wa] H6 d wa ks' ws' bs ∧ H6 l = some (.lst xs) ∧ Paired (N.v H6) xs bs ∧ b ∉ ks' ∧ ks.length ≤ ks'.length ∧ ws'.length ≤ ks'.length ∧ (∀ x ∈ bs, ∀ c ∈ sgs.take i, ∀ y ∈ nx x c, y ∈ ks') ∧ (U.length - ks'.length) + ws'.length < m) ⟨ks, ws, _, _, _, _, rfl, k5, core5, el5, hbs5, hb, Nat.le_refl _, ?_, (fun x _ c hc => by cases hc), ?_⟩ (fun i σ H6 _ h6 => ?_) (fun i x σ H6 H7 hi h6 y => ?_) (fun σ H6 h6 => ?_)
    · show ws.length ≤ ks.length
      have : (((bs, u) :: ws : List (List α × List Nat))).length = ws.length + 1 := rfl
      omega
    · rw [hm]
      show _ < _ + (ws.length + 1)
      omega
    · obtain ⟨_, _, _, _, _, _, _, k, _⟩ := h6
      exact SqL.of (k.get hsl)
    · obtain ⟨ks', ws', y8, y9, y10, y11, rfl, k6, core6, el6, hbs6, hb6, hkk, hww, hp3, hm6⟩ := h6
      obtain ⟨rfl, e2⟩ := y
      obtain ⟨c, ec, rfl⟩ := map_get e2
      have hcs : c ∈ sgs := List.mem_of_getElem? ec
      refine ⟨sz_ok (by simp), fun fo hfo => ?_⟩
      have kf : Kp T [] H7 (upd H7 fo (.lst [])) := Kp.new hfo
      have nfo : H fo = none := k6.free hfo
      have hlf : l ≠ fo := ne_of_none el6 hfo
      have hwf : wa ≠ fo := by
        obtain ⟨_, e, _⟩ := core6.wt
        exact ne_of_none e hfo
      have find0 : Find N nx sgs a U (upd H7 fo (.lst [])) d wa l fo ks' ws' bs xs u c [] := by
        refine ⟨?_, kf.get el6, N.pk hbs6 kf (fun _ z => nomatch z), ⟨[], upd_same, .nil⟩, fun _ h => nomatch h⟩
        rw [List.append_nil, List.append_nil]
        refine ⟨N.dk core6.dk kf (fun _ z => nomatch z) (by simp), (core6.wt.far hfo).kp kf (fun _ z => nomatch z) (by simp), core6.nd, core6.us, core6.pw, core6.cl⟩
      have k7 := k6.trans kf
      generalize upd H7 fo (.lst []) = H8 at *
      refine ⟨_, rfl, l, rfl, ⟨_, SqL.of find0.el⟩, ?_⟩
      refine for_it (walk_list (xs := xs)) (fun j σ H9 => ∃ (fs : List α) (y10 y11 : Option V), σ = [some (.ref sl), some xa, some xb, some (.ref g), some (.ref d), some (.ref wa), some (.ref l), some (wd u), some (sg c), some (.ref fo), y10, y11] ∧ Kp T [] H H9 ∧ Find N nx sgs a U H9 d wa l fo ks' ws' bs xs u c fs ∧ (∀ x ∈ bs.take j, ∀ y ∈ nx x c, y ∈ ks' ++ fs)) ⟨[], _, _, rfl, k7, find0, fun _ h => nomatch h⟩ (fun j σ H9 _ h9 => ?_) (fun j x σ H9 H10 hj h9 y => ?_) (fun σ H9 h9 => ?_)
      · obtain ⟨_, _, _, _, _, fd, _⟩ := h9
        exact SqL.of fd.el
      · obtain ⟨fs, y10, y11, rfl, k9, fd, hp4⟩ := h9
        obtain ⟨rfl, e3⟩ := y
        obtain ⟨nd, end', hnd⟩ := pair_fst fd.pl e3
        refine ⟨rfl, k9, _, rfl, _, rfl, x, nd, c, rfl, hnd, hcs, k9, fun H11 p pxs k11 hp ep hpx => ?_⟩
        obtain ⟨fxs0, efo0, _⟩ := fd.fo
        obtain ⟨tsw0, ewa0, _⟩ := fd.core.wt
        have hpf : p ≠ fo := by
          rcases hp with ⟨o, ho⟩ | ho
          · exact ne_of_none ho nfo
          · exact (ne_of_none efo0 ho).symm
        have hpw : p ≠ wa := by
          rcases hp with ⟨o, ho⟩ | ho
          · exact ne_of_none ho nwa
          · exact (ne_of_none ewa0 ho).symm
        refine ⟨p, rfl, ⟨_, SqL.of ep⟩, ?_⟩
        refine for_it (walk_list (xs := pxs)) (fun e σ H12 => ∃ (fs' : List α) (y11 : Option V), σ = [some (.ref sl), some xa, some xb, some (.ref g), some (.ref d), some (.ref wa), some (.ref l), some (wd u), some (sg c), some (.ref fo), some x, y11] ∧ Kp T [] H H12 ∧ Find N nx sgs a U H12 d wa l fo ks' ws' bs xs u c fs' ∧ H12 p = some (.lst pxs) ∧ Paired (N.v H12) pxs (nx nd c) ∧ (∀ x ∈ bs.take j, ∀ y ∈ nx x c, y ∈ ks' ++ fs') ∧ (∀ y ∈ (nx nd c).take e, y ∈ ks' ++ fs')) ⟨fs, _, rfl, k9.trans k11, fd.kp k11, ep, hpx, hp4, fun y hy => by cases hy⟩ (fun e σ H12 _ h12 => ?_) (fun e x2 σ H12 H13 he h12 y => ?_) (fun σ H12 h12 => ?_)
        · obtain ⟨_, _, _, _, _, ep, _⟩ := h12
          exact SqL.of ep
        · obtain ⟨fs', y11, rfl, k12, fd, ep, hpx, hp4, hp5⟩ := h12
          obtain ⟨rfl, e4⟩ := y
          obtain ⟨y2, ey2, hy2⟩ := pair_fst hpx e4
          have hy2n : y2 ∈ nx nd c := List.mem_of_getElem? ey2
          have hy2U := hU _ _ _ hy2n
          have hlen := nodup_sub fd.core.nd fd.core.us
          have tk : ∀ y ∈ (nx nd c).take (e + 1), y ∈ (nx nd c).take e ∨ y = y2 := fun y hy => by
            rw [List.take_add_one, ey2] at hy
            rcases List.mem_append.mp hy with z | z
            · exact .inl z
            · exact .inr (List.mem_singleton.mp z)
          refine ⟨_, rfl, _, rfl, y2, d, ks' ++ fs', rfl, hy2, fd.core.dk, !dc (y2 ∈ ks' ++ fs'), rfl, ?_⟩
          by_cases hin : y2 ∈ ks' ++ fs'
          · rw [dc_true hin]
            refine iteF ⟨fs', _, rfl, k12, fd, ep, hpx, hp4, fun y hy => ?_⟩
            rcases tk y hy with z | z
            · exact hp5 y z
            · rw [z]
              exact hin
          · rw [dc_false hin]
            refine iteT ?_
            refine ⟨_, rfl, _, rfl, y2, d, ks' ++ fs', rfl, rfl, hy2, fd.core.dk, hin, by omega, fun hcode o hdo => ?_⟩
            obtain ⟨fxs, efo, hfxs⟩ := fd.fo
            have hfd : fo ≠ d := fun z => N.dl fd.core.dk (by rw [← z]; exact efo)
            have efo' : upd H13 d o fo = some (.lst fxs) := by rw [upd_ne hfd]; exact efo
            obtain ⟨odd, eodd⟩ : ∃ od, H13 d = some od := by
              cases e : H13 d with
              | none => exact absurd e (N.dn fd.core.dk)
              | some od => exact ⟨od, rfl⟩
            have hfl : fxs.length ≤ 100000 := by
              rw [Paired.length hfxs]
              rw [List.length_append] at hlen
              omega
            have hbx : nd ∈ bs := List.mem_of_getElem? end'
            have hpth : Pth nx (u ++ [c]) a y2 := (pw0.1 nd hbx).snoc hy2n
            have fd2 := fd.more hy2 hin hy2U hpth hcode hdo efo' hlf hlw' hwf
            have kd : Kp T [d] H13 (upd H13 d o) := (Kp.refl H13).mutC (.inr List.mem_cons_self) eodd (fun ps z => N.db fd.core.dk (by rw [eodd, z])) (fun q z => hcode q (by rw [eodd, z]))
            have kfo : Kp T [fo] (upd H13 d o) (upd (upd H13 d o) fo (.lst (fxs ++ [x2]))) := (Kp.refl _).mut (.inr List.mem_cons_self) efo'
            have kk : Kp T [d, fo] H13 (upd (upd H13 d o) fo (.lst (fxs ++ [x2]))) := (kd.wide (by simp)).trans (kfo.wide (by simp))
            have kall := (k12.mutC (o := o) (.inl hd) eodd (fun ps z => N.db fd.core.dk (by rw [eodd, z])) (fun q z => hcode q (by rw [eodd, z]))).mut (o := .lst (fxs ++ [x2])) (.inl nfo) efo'
            have hpd : p ≠ d := fun z => N.dl fd.core.dk (by rw [← z]; exact ep)
            have nt2 : ∀ b ∈ [d, fo], ∀ xs, H13 b ≠ some (.tup xs) := fun b hb xs => by
              rcases List.mem_cons.mp hb with z | z
              · rw [z]
                exact N.dt fd.core.dk
              · rw [List.mem_singleton.mp z, efo]
                intro z
                cases z
            have up : ∀ y, y ∈ ks' ++ fs' → y ∈ ks' ++ (fs' ++ [y2]) := fun y hy => by
              rw [← List.append_assoc]
              exact List.mem_append_left _ hy
            refine ⟨_, rfl, .inl ⟨rfl, _, SqL.of efo'⟩, _, rfl, fo, _, _, rfl, rfl, efo', sz_lt (by omega), fs' ++ [y2], _, rfl, kall, fd2, kk.getX ep (by simp [hpd, hpf]), N.pk hpx kk nt2, fun x hx y hy => up y (hp4 x hx y hy), fun y hy => ?_⟩
            rcases tk y hy with z | z
            · exact up y (hp5 y z)
            · rw [z]
              exact List.mem_append_right _ (List.mem_append_right _ List.mem_cons_self)
        · obtain ⟨fs', y11, rfl, k12, fd, ep, hpx, hp4, hp5⟩ := h12
          rw [List.take_of_length_le (by rw [Paired.length hpx]; exact Nat.le_refl _)] at hp5
          refine ⟨fs', _, _, rfl, k12, fd, fun x' hx' y hy => ?_⟩
          rw [List.take_add_one, end'] at hx'
          rcases List.mem_append.mp hx' with z | z
          · exact hp4 x' z y hy
          · rw [List.mem_singleton.mp z] at hy
            exact hp5 y hy
      · obtain ⟨fs, y10, y11, rfl, k9, fd, hp4⟩ := h9
        rw [List.take_of_length_le (by rw [Paired.length fd.pl]; exact Nat.le_refl _)] at hp4
        obtain ⟨fxs, efo, hfxs⟩ := fd.fo
        have hvb9 := N.vk hvb k9 (fun _ z => nomatch z)
        have hlen := nodup_sub fd.core.nd fd.core.us
        rw [List.length_append] at hlen
        have hul : u.length ≤ ks.length := pw0.2.2
        have huc : ∀ c' ∈ u ++ [c], c' ∈ sgs := fun c' hc' => by
          rcases List.mem_append.mp hc' with z | z
          · exact pw0.2.1 c' z
          · rw [List.mem_singleton.mp z]
            exact hcs
        have htx : tx u ++ one c = tx (u ++ [c]) := by rw [one_tx, tx_app]
        refine ⟨_, rfl, _, rfl, N.data b, fs.map N.data, N.dp hvb9, .lst (SqL.of efo) (dps_of N hfxs), (N.flat b).shaped, flats_shaped (fun dd hdd => ?_), dc (b ∈ fs), ?_, ?_⟩
        · obtain ⟨z, _, e⟩ := List.mem_map.mp hdd
          rw [← e]
          exact N.flat z
        · rw [any_data]
        by_cases hbf : b ∈ fs
        · rw [dc_true hbf]
          refine iteT ?_
          have hfl : 1 ≤ fs.length := by
            cases fs with
            | nil => cases hbf
            | cons _ _ => exact Nat.succ_le_succ (Nat.zero_le _)
          refine ⟨_, rfl, _, rfl, tx u, one c, rfl, rfl, by rw [one_tx, tx_len, tx_len]; exact sz_ok (by show u.length + 1 ≤ _; omega), ?_⟩
          rw [htx]
          exact q H9 _ k9 (.inr ⟨u ++ [c], rfl, by simp, huc, fd.pt b hbf, by rw [List.length_append]; show u.length + 1 ≤ _; omega⟩)
        · rw [dc_false hbf]
          refine iteF ?_
          refine ⟨_, rfl, sz_ok (by simp), fun p2 hp2 => ?_⟩
          have kp2 : Kp T [] H9 (upd H9 p2 (.lst [])) := Kp.new hp2
          have fd' := fd.kp kp2
          have k9' := k9.trans kp2
          have ep2 : upd H9 p2 (.lst []) p2 = some (.lst []) := upd_same
          have efo' := kp2.get efo
          have hfxs' := N.pk hfxs kp2 (fun _ z => nomatch z)
          generalize upd H9 p2 (.lst []) = H11 at *
          have p3' : ∀ x ∈ bs, ∀ c' ∈ sgs.take (i + 1), ∀ y ∈ nx x c', y ∈ ks' ++ fs := fun x hx c' hc' y hy => by
            rw [List.take_add_one, ec] at hc'
            rcases List.mem_append.mp hc' with z | z
            · exact List.mem_append_left _ (hp3 x hx c' z y hy)
            · have z : c' = c := List.mem_singleton.mp z
              rw [z] at hy
              exact hp4 x hx y hy
          have hb7 : b ∉ ks' ++ fs := fun z => (List.mem_append.mp z).elim hb6 hbf
          refine ⟨fo, p2, fxs, rfl, rfl, SqL.of efo', SqL.of ep2, !fxs.isEmpty, rfl, ?_⟩
          cases hfxs' with
          | nil =>
            refine iteF ⟨ks', ws', _, _, _, _, rfl, k9', ?_, fd'.el, fd'.pl, hb6, hkk, hww, ?_, hm6⟩
            · have cc := fd'.core
              rw [List.append_nil, List.append_nil] at cc
              exact ⟨cc.dk, cc.wt.near, cc.nd, cc.us, cc.pw, cc.cl⟩
            · rw [List.append_nil] at p3'
              exact p3'
          | @cons f1 n1 fxs2 fs2 hf1 hf2 =>
            refine iteT ?_
            obtain ⟨tsw, ewa, hts⟩ := fd'.core.wt
            refine ⟨_, rfl, .inl ⟨rfl, _, SqL.of ewa⟩, _, rfl, _, rfl, _, rfl, tx u, one c, rfl, rfl, by rw [one_tx, tx_len, tx_len]; exact sz_ok (by show u.length + 1 ≤ _; omega), sz_ok (by simp), fun t2 ht2 => ?_⟩
            rw [htx]
            have kt : Kp T [] H11 (upd H11 t2 (.tup [.ref fo, wd (u ++ [c])])) := Kp.new ht2
            have et2 : upd H11 t2 (.tup [.ref fo, wd (u ++ [c])]) t2 = some (.tup [.ref fo, wd (u ++ [c])]) := upd_same
            have fd2 := fd'.kp kt
            have k10 := k9'.trans kt
            have efo2 := kt.get efo'
            have ewa2 := kt.get ewa
            have hts2 : Paired (fun t z => ∃ l xs, upd H11 t2 (.tup [.ref fo, wd (u ++ [c])]) t = some (.tup [.ref l, wd z.2]) ∧ upd H11 t2 (.tup [.ref fo, wd (u ++ [c])]) l = some (.lst xs) ∧ Paired (N.v (upd H11 t2 (.tup [.ref fo, wd (u ++ [c])]))) xs z.1 ∧ l ∉ [fo, wa]) tsw ws' := Paired.mapP hts fun t z ⟨l, xs, e1, e2, e3, e4⟩ => ⟨l, xs, kt.get e1, kt.get e2, N.pk e3 kt (fun _ z => nomatch z), e4⟩
            have hfx2 : Paired (N.v (upd H11 t2 (.tup [.ref fo, wd (u ++ [c])]))) (f1 :: fxs2) (n1 :: fs2) := N.pk (.cons hf1 hf2) kt (fun _ z => nomatch z)
            generalize upd H11 t2 (.tup [.ref fo, wd (u ++ [c])]) = H12 at *
            have hwl2 : tsw.length = ws'.length := Paired.length hts2
            refine ⟨wa, _, _, rfl, rfl, ewa2, by rw [List.length_map, hwl2]; exact sz_lt (by omega), ?_⟩
            have kw2 : Kp T [wa] H12 (upd H12 wa (.lst (tsw.map V.ref ++ [.ref t2]))) := (Kp.refl H12).mut (.inr List.mem_cons_self) ewa2
            have nt3 : ∀ b ∈ [wa], ∀ xs, H12 b ≠ some (.tup xs) := fun b hb xs z => by
              rw [List.mem_singleton.mp hb, ewa2] at z
              cases z
            have hcl : (n1 :: fs2).length = fs2.length + 1 := rfl
            refine ⟨ks' ++ (n1 :: fs2), ws' ++ [(n1 :: fs2, u ++ [c])], _, _, _, _, rfl, k10.mut (.inl nwa) ewa2, ⟨N.dk fd2.core.dk kw2 nt3 (by simp [nwd.symm]), ⟨tsw ++ [t2], by rw [upd_same, List.map_append]; rfl, Paired.snoc (Paired.mapP hts2 fun t z ⟨l, xs, e1, e2, e3, e4⟩ => ⟨l, xs, kw2.getX e1 (fun z => nt3 t z _ e1), kw2.getX e2 (fun z => e4 (List.mem_cons_of_mem _ z)), N.pk e3 kw2 nt3, fun z => e4 (List.mem_cons_of_mem _ z)⟩) ⟨fo, f1 :: fxs2, kw2.getX et2 (fun z => nt3 t2 z _ et2), kw2.getX efo2 (by simp [hwf.symm]), N.pk hfx2 kw2 nt3, by simp [hwf.symm]⟩⟩, fd2.core.nd, fd2.core.us, fun z hz => ?_, fun x hx => ?_⟩, kw2.getX fd2.el (by simp [hlw']), N.pk fd2.pl kw2 nt3, hb7, by rw [List.length_append]; omega, by rw [List.length_append, List.length_append]; show _ + 1 ≤ _; omega, p3', by rw [List.length_append, List.length_append]; show _ + (_ + 1) < _; omega⟩
            · rcases List.mem_append.mp hz with h | h
              · exact fd2.core.pw z h
              · rw [List.mem_singleton.mp h]
                refine ⟨fd2.pt, huc, ?_⟩
                show (u ++ [c]).length ≤ _
                rw [List.length_append, List.length_append]
                show u.length + 1 ≤ _
                omega
            · rcases fd2.core.cl x hx with ⟨z, hz, hxz⟩ | z | z
              · exact .inl ⟨z, List.mem_append_left _ hz, hxz⟩
              · rcases List.mem_append.mp z with h | h
                · exact .inr (.inl h)
                · exact .inl ⟨_, List.mem_append_right _ List.mem_cons_self, h⟩
              · exact .inr (.inr z)
    · obtain ⟨ks', ws', y8, y9, y10, y11, rfl, k6, core6, el6, hbs6, hb6, hkk, hww, hp3, hm6⟩ := h6
      rw [List.take_of_length_le (by rw [List.length_map]; exact Nat.le_refl _)] at hp3
      refine ⟨_, hm6, ks', ws', _, _, _, _, _, _, rfl, k6, ⟨core6.dk, core6.wt, core6.nd, core6.us, core6.pw, fun x hx => ?_⟩, hb6, by omega, rfl⟩
      rcases core6.cl x hx with z | z | z
      · exact .inl z
      · exact .inr (.inr fun c hc y hy => hp3 x z c hc y hy)
      · exact .inr (.inr z)
end
end K51
/-! nested functions as what comes next -/
namespace K51
open PySem PySem.Spec PyProof.Rows L2 NdefX LamX
/-! ### defs that make functions -/
structure FnT (K : PySem.W.Frag) (mg : Str → Option Value) (x : Str) (st : Stmt) (c : Addr) : Prop where
  ex : ∃ (f : Addr) (oc : Value) (od : Option Addr) (kV doc pm : Value) (an : Option Addr) (ct : Value) (osl : Array (Option Value)),
    K.lookup f = some ⟨oc, od, .func (PySem.W.fnOf x x (defArgs st) (defBody st) (defScope st) .none kV doc pm an (.ref c) ct), osl⟩ ∧ PySem.W.codeIn K (.ref c) x = true ∧ PySem.W.keepIn K (.ref f) = true ∧ mg x = some (.ref f)
section
variable {P : Program} {w : World} {K : PySem.W.Frag} {mg : Str → Option Value} {base : Heap}
theorem FnT.dok {x : Str} {st : Stmt} {c : Addr} {N ps : List Str} {k : Nat} {sp : Sp} (F : FnT K mg x st c) (S : FnScope N ps (defScope st)) (hb : BindsOk st x ps) (len : ∀ vs H Q E, sp vs H Q E → vs.length = ps.length)
    (hbody : ∀ (f : Addr) (A : Around) (outer : List Env) (s : Shared) (H : Hp) (vs : List V) (Q : VK) (E : XK), Room k (A.deeper (envOfC x (defScope st) s.heap.objs.size f (.ref c))) → sp vs H Q E →
      ∃ t, PSs (cxOf CX0 P w K mg base N x (defScope st) f (.ref c) A outer s H E).nox (defBody st) t ∧ t { nx := fun _ H' => Q .non H', rt := Q } (start N vs) H) : DOk P w K mg base x (k + 1) ps [] sp := by
  obtain ⟨f, oc, od, kV, doc, pm, an, ct, osl, lk, hcd, hkp, hm⟩ := F.ex
  refine ⟨f, _, [], fn_of lk hcd S len fun A outer s H vs Q E hr hsp => ?_, hm, hkp, .all fun us hl => hb _ _ _ _ _ _ us hl, .nil⟩
  obtain ⟨t, h, q⟩ := hbody f A outer s H vs Q E hr hsp
  exact ⟨t, h.nox, q⟩
end
/-! ### first_text, called -/
structure FtOk (P : Program) (w : World) (K : PySem.W.Frag) (mg : Str → Option Value) (base : Heap) (T : List NTab) : Prop where
  ex : ∃ (fa : Addr) (fd : FuncData), mg "first_text" = some (.ref fa) ∧ PySem.W.keepIn K (.ref fa) = true ∧ Binds K fd ["signs", "start", "goal", "nexts"] [] ∧
    ∀ (α : Type) (N : NK P w K α) (nx : α → Nat → List α) (sgs : List Nat) (U : List α) (g sl : Addr) (A : Around) (outer : List Env) (s : Shared) (H : Hp) (xa xb : V) (a b : α) (Q : VK) (S : Heap → Hp → Prop) (args : Args) (us : List Value),
      Room 2 A → Env0 P w K mg base A outer s H → BindsTo s fd args ((["signs", "start", "goal", "nexts"] : List Str).zip us) → Vals [.ref sl, xa, xb, .ref g] us → Nexts P w K mg base T 1 N nx sgs g H S → S s.heap H → g ∉ frs outer →
      H sl = some (.lst (sgs.map sg)) → N.v H xa a → N.v H xb b → (∀ x c y, y ∈ nx x c → y ∈ U) → U.length ≤ 2000 → (∀ H' v, Kp T [] H H' → Told nx sgs a b U.length v → Q v H') →
      codeAny (model P w) A (.call (.ref fa) args) (CR CX0 outer P w H s Q E0) s
section
variable {P : Program} {w : World} {K : PySem.W.Frag} {mg : Str → Option Value} {base : Heap} {T : List NTab}
theorem ft_ok (F : Fn K mg "first_text" s_first_text) (Tx : Txt mg) : FtOk P w K mg base T := by
  obtain ⟨fa, fd, FF, hm⟩ := F.ex
  refine ⟨fa, fd, hm, FF.kp, FF.binds b_first_text, ?_⟩
  intro α N nx sgs U g sl A outer s H xa xb a b Q S args us hr e0 hb r hFx hS hg hsl hva hvb hU hUl q
  obtain ⟨oc, od, kV, doc, pm, an, cdv, ct, osl, rfl, lk, hcd⟩ := FF.ex
  refine run_ofS (N := ["signs", "start", "goal", "nexts", "known", "waiting", "some", "text", "sign", "found", "here", "to"]) lk hcd sc_first_text hr e0 hb r rfl fun hr' => ?_
  obtain ⟨t, h1, h2⟩ := ft_body F Tx N hFx hS hg hr' hsl hva hvb hU hUl q
  exact ⟨t, h1.nox, h2⟩
end
theorem cells_un {cl : List (Str × Addr)} {fr : List Str} {ws : List (Option V)} {fs : List Addr} {H H' : Hp} {h h' : Heap} (u : Un fs [] H H' h h') (C : CellsAt cl fr ws h H) : CellsAt cl fr ws h' H' := by
  have kp : ∀ y c, cl.lookup y = some c → ∀ v, h.IsCell c v → h'.IsCell c v := fun y c e v ⟨o, ho, hd⟩ => by
    obtain ⟨sl, q⟩ := u.any ho (C.all y c e).1 (by simp)
    exact ⟨_, q, hd⟩
  refine ⟨C.len, fun y c e => ?_, C.inj, fun i y e => ?_⟩
  · obtain ⟨n, v, z⟩ := C.all y c e
    refine ⟨?_, v, kp y c e v z⟩
    obtain ⟨o, ho, _⟩ := z
    exact u.free c o ho n (by simp)
  · obtain ⟨c, hc, hv⟩ := C.has i y e
    refine ⟨c, hc, fun v ev => ?_⟩
    obtain ⟨u', r, z⟩ := hv v ev
    exact ⟨u', r, kp y c hc _ z⟩
/-- a nested function that tells what comes next: its promise -/
def sp_nx {P : Program} {w : World} {K : PySem.W.Frag} {α : Type} (N : NK P w K α) (T : List NTab) (J : Hp → V → Prop) (nx : α → Nat → List α) (sgs : List Nat) : List (Option V) → Sp := fun ws vs H Q _ => ∃ (tv x : V) (a : α) (c : Nat), ws = [some tv] ∧ vs = [x, sg c] ∧ J H tv ∧ N.v H x a ∧ c ∈ sgs ∧
  ∀ H' p xs, Kp T [] H H' → H p = none → H' p = some (.lst xs) → Paired (N.v H') xs (nx a c) → Q (.ref p) H'
section
variable {P : Program} {w : World} {K : PySem.W.Frag} {mg : Str → Option Value} {base : Heap} {T : List NTab} {α : Type}
theorem nexts_of {N : NK P w K α} {J : Hp → V → Prop} {nx : α → Nat → List α} {sgs : List Nat} {g : Addr} {F : NF} {H0 : Hp} {tv : V} (O : NOk P w K mg base CX0 1 g F ["here", "sign"] ["table"] (sp_nx N T J nx sgs)) (hJ : ∀ H, Kp T [] H0 H → J H tv) (hg : H0 g = some (FnO g F)) (hc : H0 F.c = some (CodeO F.c F.qual)) :
    Nexts P w K mg base T 1 N nx sgs g H0 (fun h H => CellsAt F.cl ["table"] [some tv] h H) where
  stay := fun _ u C => cells_un u C
  fn := fun {s H} hok k _ => by
    have e := k.get hg (fun ps => fnO_ne ps)
    obtain ⟨od, sl, doc, pm, ctv, ho⟩ := fnO_at hok e
    exact ⟨_, od, _, sl, ho⟩
  run := fun A outer s H us x a c Q hr e0 C k hv hcs r q =>
    O.run A outer s H us [x, sg c] [some tv] Q E0 hr e0 (k.get hg (fun ps => fnO_ne ps)) (k.get hc (fun ps => codeO_ne ps)) C r ⟨tv, x, a, c, rfl, rfl, hJ H k, hv, hcs, fun H' p xs k' hp => q H' p xs k' (.inr hp)⟩
end
end K51
/-! nested defs that have cells of their own -/
namespace K51
open PySem PySem.Spec PyProof.Rows L2 NdefX LamX
/-! ### the cells of a frame: new ones on top of the captured -/
theorem cf_keep : ∀ (names : List (Str × NameKind)) (n : Nat) (acc : List (Str × Addr)) (x : Str), (∀ k, (x, k) ∈ names → k ≠ NameKind.cell) → (cellsFrom n names acc).lookup x = acc.lookup x
  | [], _, _, _, _ => rfl
  | (y, k) :: r, n, acc, x, h => by
    have hr : ∀ k, (x, k) ∈ r → k ≠ NameKind.cell := fun k hk => h k (List.mem_cons_of_mem _ hk)
    unfold cellsFrom
    split
    · rename_i hk
      have hk : k = .cell := by simpa using hk
      have ne : x ≠ y := fun e => h k (by rw [e]; exact List.mem_cons_self) hk
      rw [cf_keep r (n + 1) _ x hr, List.lookup_cons, beq_eq_false_iff_ne.mpr ne]
    · exact cf_keep r n acc x hr
theorem cf_new : ∀ (names : List (Str × NameKind)) (n : Nat) (acc : List (Str × Addr)) (x : Str), (x, NameKind.cell) ∈ names → ∃ c, (cellsFrom n names acc).lookup x = some c ∧ n ≤ c
  | (y, k) :: r, n, acc, x, h => by
    by_cases hr : (x, NameKind.cell) ∈ r
    · unfold cellsFrom
      split
      · obtain ⟨c, h1, h2⟩ := cf_new r (n + 1) ((y, n) :: acc) x hr
        exact ⟨c, h1, by omega⟩
      · exact cf_new r n acc x hr
    · rcases List.mem_cons.mp h with e | e
      · obtain ⟨e1, e2⟩ := Prod.mk.inj e
        subst e1 e2
        unfold cellsFrom
        rw [if_pos (by rfl), cf_keep r (n + 1) _ x fun k hk e => hr (e ▸ hk), List.lookup_cons, beq_self_eq_true]
        exact ⟨n, rfl, Nat.le_refl _⟩
      · exact absurd e hr
/-- each is new and empty, or captured -/
theorem cf_cases : ∀ (names : List (Str × NameKind)) (h : Heap) (acc : List (Str × Addr)) (x : Str) (c : Addr), (cellsFrom h.objs.size names acc).lookup x = some c → (h.objs.size ≤ c ∧ (pushCells h names).IsCell c none) ∨ acc.lookup x = some c
  | [], h, acc, x, c, e => .inr e
  | (y, k) :: r, h, acc, x, c, e => by
    unfold cellsFrom at e
    unfold pushCells
    split at e
    · rename_i hk
      rw [if_pos hk]
      have e' : (cellsFrom (h.push { cls := .type "cell", data := .cell none }).objs.size r ((y, h.objs.size) :: acc)).lookup x = some c := by rw [Heap.size_push]; exact e
      rcases cf_cases r (h.push { cls := .type "cell", data := .cell none }) _ x c e' with ⟨z1, z2⟩ | z
      · rw [Heap.size_push] at z1
        exact .inl ⟨by omega, z2⟩
      · rw [List.lookup_cons] at z
        by_cases ex : x = y
        · rw [beq_iff_eq.mpr ex] at z
          cases z
          exact .inl ⟨Nat.le_refl _, ⟨_, pushCells_keeps r _ _ _ (Heap.get?_push_size _ rfl), rfl⟩⟩
        · rw [beq_eq_false_iff_ne.mpr ex] at z
          exact .inr z
    · rename_i hk
      rw [if_neg hk]
      exact cf_cases r h acc x c e
theorem cf_inj : ∀ (names : List (Str × NameKind)) (n : Nat) (acc : List (Str × Addr)), (∀ x y c, acc.lookup x = some c → acc.lookup y = some c → x = y) → (∀ x c, acc.lookup x = some c → c < n) → ∀ x y c, (cellsFrom n names acc).lookup x = some c → (cellsFrom n names acc).lookup y = some c → x = y
  | [], _, _, h, _ => h
  | (z, k) :: r, n, acc, h1, h2 => by
    unfold cellsFrom
    split
    · refine cf_inj r (n + 1) _ (fun x y c e1 e2 => ?_) (fun x c e => ?_)
      · rw [List.lookup_cons] at e1 e2
        by_cases ex : x = z
        · rw [beq_iff_eq.mpr ex] at e1
          cases e1
          by_cases ey : y = z
          · rw [ex, ey]
          · rw [beq_eq_false_iff_ne.mpr ey] at e2
            exact absurd (h2 y n e2) (Nat.lt_irrefl _)
        · rw [beq_eq_false_iff_ne.mpr ex] at e1
          by_cases ey : y = z
          · rw [beq_iff_eq.mpr ey] at e2
            cases e2
            exact absurd (h2 x n e1) (Nat.lt_irrefl _)
          · rw [beq_eq_false_iff_ne.mpr ey] at e2
            exact h1 x y c e1 e2
      · rw [List.lookup_cons] at e
        by_cases ex : x = z
        · rw [beq_iff_eq.mpr ex] at e
          cases e
          exact Nat.lt_succ_self _
        · rw [beq_eq_false_iff_ne.mpr ex] at e
          exact Nat.lt_succ_of_lt (h2 x c e)
    · exact cf_inj r n acc h1 h2
section
variable {M : Model} {A : Around} {E : Value → Shared → Prop} {s : Shared}
theorem newEnvG {scope : Scope} {globals : Addr} {cl : List (Str × Addr)} {binds : List (Str × Value)} {qual : Str} {func : Option Addr} {code : Value} {builtins : Addr} {Q : Env → Shared → Prop}
    (hk : scope.kind = .function) (hl : ∀ x ∈ binds, scope.names.lookup x.1 = some .local)
    (hQ : ∀ h' tk, h'.Ns s.heap.objs.size (fun x => binds.reverse.lookup x) → Heap.SameBut s.heap.objs.size (pushCells (s.heap.push { cls := .type "frame", data := .dict #[] }) scope.names) h' →
      Q (newEnv scope s.heap.objs.size globals (cellsFrom (s.heap.objs.size + 1) scope.names cl) qual func code none builtins) { s with heap := h', toks := tk }) :
    wpAny M A (newFunctionEnv scope globals cl binds qual func code none builtins) Q E s := by
  simp only [newFunctionEnv, Option.isSome_none, Bool.false_eq_true, if_false]
  refine wpAny_bind (wpAny_alloc ?_)
  refine wpAny_bind (wpAny_layCells _ (fun name kind cells => by cases hkc : kind == NameKind.cell <;> simp [hkc]) _ _ _ _ ?_)
  rw [show ({ s with heap := s.heap.push { cls := .type "frame", data := .dict #[] } } : Shared).heap.objs.size = s.heap.objs.size + 1 from Heap.size_push ..]
  refine wpAny_bind ?_
  have ns0 : (pushCells (s.heap.push { cls := .type "frame", data := .dict #[] }) scope.names).Ns s.heap.objs.size (fun _ => none) := (Heap.Ns.new s.heap (.type "frame")).keeps (pushCells_keeps _ _)
  refine wpAny_forIn_list _
    (fun rest _ s' => ∃ done h', binds = done ++ rest ∧ s' = { s with heap := h', toks := s.toks + done.length } ∧
      h'.Ns s.heap.objs.size (fun x => done.reverse.lookup x) ∧
      Heap.SameBut s.heap.objs.size (pushCells (s.heap.push { cls := .type "frame", data := .dict #[] }) scope.names) h') _ ?_ ?_ binds _
    ⟨[], _, rfl, rfl, ns0, Heap.SameBut.refl ..⟩
  · rintro ⟨name, v⟩ rest _ s' ⟨done, h', hb, rfl, hns, hsb⟩
    have hk' : Env.kindOf (newEnv scope s.heap.objs.size globals (cellsFrom (s.heap.objs.size + 1) scope.names cl) qual func code none builtins) name = some .local :=
      hl (name, v) (by rw [hb]; simp)
    have hp : ((newEnv scope s.heap.objs.size globals (cellsFrom (s.heap.objs.size + 1) scope.names cl) qual func code none builtins).scope.kind == .class || ((newEnv scope s.heap.objs.size globals (cellsFrom (s.heap.objs.size + 1) scope.names cl) qual func code none builtins).scope.kind == .module &&
        (newEnv scope s.heap.objs.size globals (cellsFrom (s.heap.objs.size + 1) scope.names cl) qual func code none builtins).locals != (newEnv scope s.heap.objs.size globals (cellsFrom (s.heap.objs.size + 1) scope.names cl) qual func code none builtins).globals)) = false := by
      show (scope.kind == .class || (scope.kind == .module && _)) = false
      rw [hk]; rfl
    show wpAny M A (storeName (newEnv scope s.heap.objs.size globals (cellsFrom (s.heap.objs.size + 1) scope.names cl) qual func code none builtins) name v >>= _) _ _ _
    rw [storeName_local hk' hp]
    refine wpAny_bind (wpAny_nsSet hns fun h'' hns' hsb' => wpAny_pure ⟨done ++ [(name, v)], h'', by simp [hb], ?_, ?_, hsb.trans hsb'⟩)
    · simp [Nat.add_assoc]
    · rw [lookup_reverse_snoc]; exact hns'
  · rintro _ s' ⟨done, h', hb, rfl, hns, hsb⟩
    rw [List.append_nil] at hb; subst hb
    exact wpAny_pure (hQ h' _ hns hsb)
end
/-- its names: the parameters, the captured ones, its own; own ones may be cells -/
structure NScopeG (N ps fr : List Str) (sc : Scope) : Prop where
  kind : sc.kind = .function
  co : sc.isCoroutine = false
  gen : sc.isGenerator = false
  nd : N.Nodup
  pre : N.take (ps.length + fr.length) = ps ++ fr
  par : ∀ x ∈ ps, sc.names.lookup x = some .local
  free : ∀ y ∈ sc.names, y.2 = .free → y.1 ∈ fr
  frk : ∀ x ∈ fr, sc.names.lookup x = some .free
  frc : ∀ x ∈ fr, ∀ k, (x, k) ∈ sc.names → k ≠ .cell
def nsgB (N ps fr : List Str) (sc : Scope) : Bool :=
  decide (sc.kind = .function) && !sc.isCoroutine && !sc.isGenerator && decide N.Nodup && decide (N.take (ps.length + fr.length) = ps ++ fr) && ps.all (fun x => decide (sc.names.lookup x = some .local)) && sc.names.all (fun y => !decide (y.2 = .free) || decide (y.1 ∈ fr)) && fr.all (fun x => decide (sc.names.lookup x = some .free)) && sc.names.all (fun y => !decide (y.1 ∈ fr) || !decide (y.2 = .cell))
theorem nscg_by {N ps fr : List Str} {sc : Scope} (h : nsgB N ps fr sc = true) : NScopeG N ps fr sc := by
  unfold nsgB at h
  simp only [Bool.and_eq_true, Bool.not_eq_true', decide_eq_true_eq, List.all_eq_true, Bool.or_eq_true, decide_eq_false_iff_not] at h
  obtain ⟨⟨⟨⟨⟨⟨⟨⟨h1, h2⟩, h3⟩, h4⟩, h5⟩, h6⟩, h8⟩, h9⟩, h10⟩ := h
  exact ⟨h1, h2, h3, h4, h5, h6, fun y hy e => (h8 y hy).elim (fun z => absurd e z) id, h9, fun x hx k hk e => (h10 (x, k) hk).elim (fun z => z hx) fun z => z e⟩
abbrev envG (F : NF) (f L : Addr) : Env := PySem.W.envX F.qual F.scope L f (.ref F.c) (cellsFrom (L + 1) F.scope.names F.cl)
def ncg (CX : CXT) (P : Program) (w : World) (K : PySem.W.Frag) (mg : Str → Option Value) (base : Heap) (N : List Str) (F : NF) (f : Addr) (A : Around) (outer : List Env) (s : Shared) (H : Hp) (E : XK) : Cx where
  prog := P
  w := w
  K := K
  mg := mg
  base := base
  A := A.deeper (envG F f s.heap.objs.size)
  N := N
  s_0 := s
  H_0 := H
  env := envG F f s.heap.objs.size
  outer := outer
  stack := envG F f s.heap.objs.size :: outer
  ex := []
  calm := true
  fn := fun x => decide (F.scope.names.lookup x = some .cell)
  pn := []
  xe := fun e s' => wpAny (model P w) (A.deeper (envG F f s.heap.objs.size)) (leaving (envG F f s.heap.objs.size) e) (fun _ s'' => CX outer H s E e s'') (fun e' s'' => CX outer H s E e' s'') s'
section
variable {CX : CXT} {P : Program} {w : World} {K : PySem.W.Frag} {mg : Str → Option Value} {base : Heap} {N ps fr : List Str} {F : NF} {f : Addr} {A : Around} {outer : List Env} {s : Shared} {H : Hp} {E : XK} {us : List Value} {vs : List V} {ws : List (Option V)}
theorem inv_startG {h₁ : Heap} {tk : Nat} (S : NScopeG N ps fr F.scope) (hd : A.handled = none) (e0 : Env0 P w K mg base A outer s H) (hl : vs.length = ps.length) (r : Vals vs us) (C : CellsAt F.cl fr ws s.heap H) (hns : h₁.Ns s.heap.objs.size fun y => (ps.zip us).reverse.lookup y)
    (hsb : Heap.SameBut s.heap.objs.size (pushCells (s.heap.push { cls := .type "frame", data := .dict #[] }) F.scope.names) h₁) : Inv (ncg CX P w K mg base N F f A outer s H E) [] (startF N vs ws) H { s with heap := h₁, toks := tk } := by
  have hpl : ps.length + fr.length ≤ N.length := by
    have q := congrArg List.length S.pre
    rw [List.length_take, List.length_append] at q
    omega
  have kp : ∀ b o, s.heap.get? b = some o → h₁.get? b = some o := fun b o e => hsb.extBut b o (Nat.ne_of_lt (Heap.lt_size e)) (pushCells_keeps _ _ b o (Heap.get?_push_of_some _ e))
  have noA : ∀ b : Addr, b ∉ (ncg CX P w K mg base N F f A outer s H E).ex := fun b z => absurd (show b ∈ ([] : List Addr) from z) (by simp)
  have cellK : ∀ {c : Addr} {v : Option Value}, s.heap.IsCell c v → h₁.IsCell c v := fun {c v} ⟨o, ho, hd⟩ => ⟨o, kp _ _ ho, hd⟩
  have hsz : (s.heap.push { cls := .type "frame", data := .dict #[] }).objs.size = s.heap.objs.size + 1 := Heap.size_push ..
  have clt : ∀ x c, F.cl.lookup x = some c → c < s.heap.objs.size + 1 := fun x c e => by
    obtain ⟨_, v, z⟩ := C.all x c e
    exact Nat.lt_succ_of_lt z.lt
  have cases : ∀ x c, (cellsFrom (s.heap.objs.size + 1) F.scope.names F.cl).lookup x = some c → (s.heap.objs.size + 1 ≤ c ∧ h₁.IsCell c none) ∨ F.cl.lookup x = some c := fun x c e => by
    rw [← hsz] at e
    rcases cf_cases _ _ _ x c e with ⟨z1, z2⟩ | z
    · rw [hsz] at z1
      exact .inl ⟨z1, z2.sameBut hsb (Nat.ne_of_gt (Nat.lt_of_succ_le z1))⟩
    · exact .inr z
  have frc : ∀ x ∈ fr, (cellsFrom (s.heap.objs.size + 1) F.scope.names F.cl).lookup x = F.cl.lookup x := fun x hx => cf_keep _ _ _ x (S.frc x hx)
  refine ⟨⟨e0.mod, S.kind, rfl, rfl, Nat.le_refl _, cf_inj _ _ _ C.inj clt, fun y hy => ?_, fun y c z e => ?_, fun _ => hd, Around.frames_deeper e0.frames, .inr ⟨rfl, rfl⟩, fun b z => absurd z (noA b), e0.bs, e0.bsz, fun b _ _ => noA b,
      fun b z => absurd z (noA b), e0.funs, e0.frf⟩,
    rfl, e0.bare, Un.kept kp, ⟨_, hns, fun i y v e1 e2 e3 => ?_⟩, fun y c e => ?_, e0.hok.fresh (Nat.le_refl _), fun y c e => ?_, fun q hq => absurd (show q ∈ ([] : List (Addr × Obj)) ++ [] from hq) (by simp), e0.hok.kept kp, ?_⟩
  · have hy : F.scope.names.lookup y = some .cell ∨ F.scope.names.lookup y = some .free := hy
    rcases hy with hy | hy
    · obtain ⟨c, h1, _⟩ := cf_new F.scope.names (s.heap.objs.size + 1) F.cl y (PySem.mem_of_lookup hy)
      exact ⟨c, h1⟩
    · have hfy := S.free _ (PySem.mem_of_lookup hy) rfl
      obtain ⟨i, hi⟩ := List.mem_iff_getElem?.mp hfy
      obtain ⟨c, hc, _⟩ := C.has i y hi
      exact ⟨c, (frc y hfy).trans hc⟩
  · have z : F.scope.names.lookup y = some .cell := of_decide_eq_true (show decide (F.scope.names.lookup y = some .cell) = true from z)
    obtain ⟨c', h1, h2⟩ := cf_new F.scope.names (s.heap.objs.size + 1) F.cl y (PySem.mem_of_lookup z)
    have e : (cellsFrom (s.heap.objs.size + 1) F.scope.names F.cl).lookup y = some c := e
    rw [h1] at e
    cases e
    exact Nat.le_of_succ_le h2
  · have e1 : N[i]? = some y := e1
    have clen := C.len
    unfold startF at e2
    by_cases h1 : i < ps.length
    · have hq : (ps ++ fr)[i]? = some y := by
        rw [← S.pre, List.getElem?_take_of_lt (by omega)]
        exact e1
      rw [List.getElem?_append_left h1] at hq
      rw [List.getElem?_append_left (by rw [List.length_map]; omega), List.getElem?_map] at e2
      have ha : vs[i]? = some v := by
        cases e : vs[i]? with
        | none => rw [e] at e2; cases e2
        | some a => rw [e] at e2; cases e2; rfl
      obtain ⟨u, hu, rv⟩ := r.get ha
      have ndP : ps.Nodup := by
        have q := S.nd.sublist (List.take_sublist (ps.length + fr.length) N)
        rw [S.pre] at q
        exact (List.nodup_append.mp q).1
      exact ⟨u, rv, .inl ⟨S.par y (List.mem_of_getElem? hq), zip_look ndP hq hu⟩⟩
    · rw [List.getElem?_append_right (by rw [List.length_map]; omega), List.length_map] at e2
      by_cases h2 : i < ps.length + fr.length
      · have hq : (ps ++ fr)[i]? = some y := by
          rw [← S.pre, List.getElem?_take_of_lt (by omega)]
          exact e1
        rw [List.getElem?_append_right (by omega)] at hq
        rw [List.getElem?_append_left (by omega), hl] at e2
        obtain ⟨c, hc, hv⟩ := C.has (i - ps.length) y hq
        obtain ⟨u, ru, hu⟩ := hv v e2
        have hfy := List.mem_of_getElem? hq
        exact ⟨u, ru, .inr ⟨.inr (S.frk y hfy), c, (frc y hfy).trans hc, cellK hu⟩⟩
      · rw [List.getElem?_append_right (by omega), List.getElem?_replicate] at e2
        split at e2 <;> cases e2
  · rcases cases y c e with ⟨_, z⟩ | z
    · exact ⟨_, z⟩
    · obtain ⟨v, q⟩ := (C.all y c z).2
      exact ⟨v, cellK q⟩
  · rcases cases y c e with ⟨z, _⟩ | z
    · exact e0.hok.fresh (by omega)
    · exact (C.all y c z).1
  · have clen := C.len
    unfold startF
    show _ = N.length
    rw [List.length_append, List.length_append, List.length_map, List.length_replicate]
    omega
theorem nokG_of {k : Nat} {sp : List (Option V) → Sp} (S : NScopeG N ps fr F.scope) (hb : ∀ (doc pm ctv : Value) (us : List Value), us.length = ps.length → bindArgs (F.fd doc pm ctv) ⟨us, []⟩ = pure (ps.zip us)) (len : ∀ ws vs H Q E, sp ws vs H Q E → vs.length = ps.length)
    (hbody : ∀ (A : Around) (outer : List Env) (s : Shared) (H : Hp) (vs : List V) (ws : List (Option V)) (Q : VK) (E : XK), Room k (A.deeper (envG F f s.heap.objs.size)) → H f = some (FnO f F) → H F.c = some (CodeO F.c F.qual) → ws.length = fr.length → sp ws vs H Q E →
      ∃ t, PSs (ncg CX P w K mg base N F f A outer s H E).nox F.body t ∧ t { nx := fun _ H' => Q .non H', rt := Q } (startF N vs ws) H) :
    NOk P w K mg base CX (k + 1) f F ps fr sp := by
  refine ⟨len, fun A outer s H us vs ws Q E hr e0 hf hc C r hsp => ?_⟩
  have hl := len _ _ _ _ _ hsp
  have lim : s.heap.NoLimit := e0.mod.nolimit.keeps fun b o e => (e0.bs b o e).1
  obtain ⟨od, sl, doc, pm, ctv, ho⟩ := fnO_at e0.hok hf
  refine codeAny_call_function hr.depth ho rfl S.co S.gen rfl (codeO_at e0.hok hc) ?_
  rw [hb doc pm ctv us (by rw [← r.length]; exact hl)]
  refine wpAny_pure (newEnvG S.kind (fun ⟨n, _⟩ hy => S.par n (List.of_mem_zip hy).1) (fun h₁ tk hns hsb => ?_))
  have kp : ∀ b o, s.heap.get? b = some o → h₁.get? b = some o := fun b o e => hsb.extBut b o (Nat.ne_of_lt (Heap.lt_size e)) (pushCells_keeps _ _ b o (Heap.get?_push_of_some _ e))
  refine ⟨lim.keeps kp, ?_⟩
  show codeAny _ _ (.func F.body (envG F f s.heap.objs.size)) _ _
  refine codeAny_func ?_
  obtain ⟨t, ht0, hq⟩ := hbody A outer s H vs ws Q E (hr.deeper _) hf hc C.len hsp
  have ht := ht0.nox
  have I : Inv (ncg CX P w K mg base N F f A outer s H E) [] (startF N vs ws) H { s with heap := h₁, toks := tk } := inv_startG S hr.hd e0 hl r C hns hsb
  refine wpAny_mono (ht.run [] _ (startF N vs ws) H _ I hq) (fun fl s' hs => ?_) fun e s' hs => hs
  have fin : ∀ {σ' : L2.St} {H' : Hp} {v : V} {u : Value}, Inv (ncg CX P w K mg base N F f A outer s H E) [] σ' H' s' → L2.RelV v u → Q v H' → CE outer P w H s Q u s' :=
    fun {σ' H' v u} J rv q => ⟨v, H', J.os, J.bare, J.base, J.hok, rv, q⟩
  cases fl with
  | ret u =>
    obtain ⟨v, σ', H', J, rv, q⟩ := hs
    exact fin J rv q
  | next =>
    obtain ⟨σ', H', J, q⟩ := hs
    exact fin (v := V.non) (u := Value.none) J rfl q
  | brk =>
    obtain ⟨_, _, _, q⟩ := hs
    exact False.elim q
  | cont =>
    obtain ⟨_, _, _, q⟩ := hs
    exact False.elim q
end
end K51
/-! what comes next in the double and in the led search -/
namespace K51
open PySem PySem.Spec PyProof.Rows L2 NdefX LamX
abbrev n_double_text : Stmt := (defBody s_double_text).headD s_double_text
abbrev n_led_text : Stmt := (defBody s_led_text).headD s_led_text
def dnx (S : List Step) (a : NB) (c : Nat) : List NB := (succs S (a.1, c)).flatMap fun r => (succs S (a.2.1, c)).map fun r' => (r, r', a.2.2 || decide (r ≠ r'))
def lnx (S : List Step) (a : N3) (c : Nat) : List N3 := (succs S (a.1, c)).flatMap fun r => (succs S (a.2.1, c)).flatMap fun r' => (succs S (a.2.2, c)).map fun r'' => (r, r', r'')
def TabV (S : List Step) (H : Hp) (tv : V) : Prop := ∃ tb, tv = .ref tb ∧ TabAt H tb S
theorem sc_double_text_nexts : NScopeG ["here", "sign", "table", "one", "other", "parted", "found", "to", "too"] ["here", "sign"] ["table"] (C8.fnScope n_double_text) := nscg_by (by decide +kernel)
theorem sc_led_text_nexts : NScopeG ["here", "sign", "table", "one", "two", "three", "found", "to", "too", "last"] ["here", "sign"] ["table"] (C8.fnScope n_led_text) := nscg_by (by decide +kernel)
/-- where a sign leads, by the table -/
theorem tab_at {H : Hp} {tb p2 : Addr} {es : List (PKey × Addr)} {S : List Step} (hE : EntsAt H tb es S) (k : PKey) (hp : H p2 = some (.lst [])) : ∃ l, (valV (tbl es) (pk k)).getD (.ref p2) = .ref l ∧ H l = some (.lst ((succs S k).map ni)) ∧ (l = p2 ∨ ∃ e ∈ es, l = e.2) := by
  rw [tbl_get]
  cases e : lookE es k with
  | none => exact ⟨p2, rfl, by rw [hE.out k e]; exact hp, .inl rfl⟩
  | some l =>
    have hm := lookE_mem e
    exact ⟨l, rfl, hE.l _ hm, .inr ⟨_, hm, rfl⟩⟩
theorem isD_of {H : Hp} {tb : Addr} {es : List (PKey × Addr)} {S : List Step} (hE : EntsAt H tb es S) : IsD H tb := .inr ⟨_, .inl hE.t⟩
theorem paired_app {β γ : Type} {R : β → γ → Prop} {a b : List β} {c d : List γ} (h : Paired R a c) (k : Paired R b d) : Paired R (a ++ b) (c ++ d) := by
  induction h with
  | nil => exact k
  | cons q _ ih => exact .cons q ih
theorem take_flat {β γ : Type} (f : β → List γ) {l : List β} {i : Nat} {x : β} (h : l[i]? = some x) : (l.take (i + 1)).flatMap f = (l.take i).flatMap f ++ f x := by
  rw [List.take_add_one, h, List.flatMap_append]
  show _ ++ ([x].flatMap f) = _
  simp
theorem flat_len_le {β γ : Type} (f : β → List γ) {b : Nat} (hf : ∀ x, (f x).length ≤ b) : ∀ l : List β, (l.flatMap f).length ≤ l.length * b
  | [] => Nat.zero_le _
  | x :: l => by
    rw [List.flatMap_cons, List.length_append]
    have h1 := hf x
    have h2 := flat_len_le f hf l
    show _ ≤ (l.length + 1) * b
    rw [Nat.add_mul]
    omega
section
variable {P : Program} {w : World} {K : PySem.W.Frag} {mg : Str → Option Value} {base : Heap} {T : List NTab}
theorem ok_double_nexts {S : List Step} {sgs : List Nat} (hS : S.length ≤ 200) (f : Addr) (cl : List (Str × Addr)) (c' : Addr) : NOk P w K mg base CX0 1 f (NF.of n_double_text "nexts" "double_text.<locals>.nexts" cl c') ["here", "sign"] ["table"] (sp_nx (nbNK (P := P) (w := w) (K := K)) T (TabV S) (dnx S) sgs) := by
  refine nokG_of (N := ["here", "sign", "table", "one", "other", "parted", "found", "to", "too"]) sc_double_text_nexts (fun _ _ _ us hl => match us, hl with | [_, _], _ => rfl) (fun ws vs H Q E h => ?_) fun A outer s H vs ws Q E hr hf hc hwl h => ?_
  · obtain ⟨tv, x, a, c, _, rfl, _⟩ := h
    rfl
  · obtain ⟨tv, x, ⟨p1, p2, pb⟩, c, rfl, rfl, ⟨tb, rfl, es, hE⟩, ⟨t, rfl, et⟩, hcs, q⟩ := h
    have hA := succs_len S (p1, c)
    have hB := succs_len S (p2, c)
    refine ⟨_, (pss_cons (ps_asg (pv 0) (pg_tup rfl (pgs_cons (pg_name (i := 3) sc_double_text_nexts.nd rfl (by first | exact .inl rfl | exact .inr rfl)) (pgs_cons (pg_name (i := 4) sc_double_text_nexts.nd rfl (by first | exact .inl rfl | exact .inr rfl)) (pgs_cons (pg_name (i := 5) sc_double_text_nexts.nd rfl (by first | exact .inl rfl | exact .inr rfl)) pgs_nil)))))
      (pss_cons (ps_set (i := 6) sc_double_text_nexts.nd rfl (by first | exact .inl rfl | exact .inr rfl) (pe_lst pa_nil))
      (pss_cons (ps_for PassesOwn.never rfl (pi_list (pe_dget2 (hu_of hr) (pv 2) (pe_tup (pa_cons (pv 3) (pa_cons (pv 1) pa_nil))) (pe_lst pa_nil) ⟨by rfl, by rfl, by rfl, by rfl⟩)) (pg_name (i := 7) sc_double_text_nexts.nd rfl (by first | exact .inl rfl | exact .inr rfl))
      (pss_one (ps_expr (pe_bm PySem.F.plainAttrs_list PySem.F.slot_list_extend PySem.F.type_list_extend mt_extend (pv 6) (pa_cons (pe_lc (own := [("too", 8)]) (g := gName 8) (tt := tYes) (by rfl) sc_double_text_nexts.nd (pi_list (pe_dget2 (hu_of hr) (pv 2) (pe_tup (pa_cons (pv 4) (pa_cons (pv 1) pa_nil))) (pe_lst pa_nil) ⟨by rfl, by rfl, by rfl, by rfl⟩)) (blkOk_by (N := ["here", "sign", "table", "one", "other", "parted", "found", "to", "too"]) (sc := (C8.fnScope n_double_text)) (own := [("too", 8)]) (by decide +kernel)) (fun _ _ _ _ _ => (pg_name (i := 8) sc_double_text_nexts.nd rfl (by first | exact .inl rfl | exact .inr rfl))) (fun _ _ _ _ _ => pts_nil) (fun _ _ _ _ _ => (pe_tup (pa_cons (pv 7) (pa_cons (pv 8) (pa_cons (pe_or (pv 5) (pe_one (pe_cmpR op_ne (pv 7) (pv 8) (nomark _)))) pa_nil)))))) pa_nil)))))
      (pss_one (ps_ret (pv 6)))))), ?_⟩
    refine ⟨_, rfl, t, _, rfl, SqT.of et, rfl, _, _, rfl, _, _, rfl, _, _, rfl, rfl, ?_⟩
    refine ⟨sz_ok (by simp), fun fo hfo => ?_⟩
    have k1 : Kp T [] H (upd H fo (.lst [])) := Kp.new hfo
    have efo1 : upd H fo (.lst []) fo = some (.lst []) := upd_same
    generalize upd H fo (.lst []) = H1 at *
    have hE1 := hE.kp k1
    refine ⟨_, rfl, tb, rfl, isD_of hE1, _, rfl, _, rfl, sz_ok (by simp), fun q1 hq1 => ?_⟩
    refine ⟨sz_ok (by simp), fun q2 hq2 => ?_⟩
    have k2 : Kp T [] H1 (upd (upd H1 q1 (.tup [ni p1, sg c])) q2 (.lst [])) := (Kp.new hq1).snew hq2
    have eq1 : upd (upd H1 q1 (.tup [ni p1, sg c])) q2 (.lst []) q1 = some (.tup [ni p1, sg c]) := by rw [upd_ne (ne_of_none upd_same hq2), upd_same]
    have eq2 : upd (upd H1 q1 (.tup [ni p1, sg c])) q2 (.lst []) q2 = some (.lst []) := upd_same
    have hq2n : H1 q2 = none := (Kp.new (T := T) (ex := []) hq1).free hq2
    have hE2 := hE1.kp k2
    have efo2 := k2.get efo1
    have k12 := k1.trans k2
    generalize upd (upd H1 q1 (.tup [ni p1, sg c])) q2 (.lst []) = H2 at *
    obtain ⟨l, hl, el, hl2⟩ := tab_at hE2 (p1, c) eq2
    have hlf : l ≠ fo := by
      rcases hl2 with z | ⟨e, he, z⟩
      · rw [z]
        exact (ne_of_none efo1 hq2n).symm
      · rw [z]
        exact ne_of_none (hE.l e he) hfo
    refine ⟨_, DGet.t hE2.t (k := pk (p1, c)) eq1, l, hl, ⟨_, SqL.of el⟩, ?_⟩
    refine for_it (walk_list (xs := (succs S (p1, c)).map ni)) (fun i σ H3 => ∃ (y7 y8 : Option V) (fxs : List V), σ = [some (.ref t), some (sg c), some (.ref tb), some (ni p1), some (ni p2), some (.bl pb), some (.ref fo), y7, y8] ∧ Kp T [] H H3 ∧ H3 l = some (.lst ((succs S (p1, c)).map ni)) ∧ EntsAt H3 tb es S ∧ H3 fo = some (.lst fxs) ∧ Paired ((nbNK (P := P) (w := w) (K := K)).v H3) fxs (((succs S (p1, c)).take i).flatMap fun r => (succs S (p2, c)).map fun r' => (r, r', pb || decide (r ≠ r')))) ⟨_, _, [], rfl, k12, el, hE2, efo2, .nil⟩ (fun i σ H3 _ h3 => ?_) (fun i x σ H3 H4 hi h3 y => ?_) (fun σ H3 h3 => ?_)
    · obtain ⟨_, _, _, _, _, el, _⟩ := h3
      exact SqL.of el
    · obtain ⟨y7, y8, fxs, rfl, k3, el3, hE3, efo3, hfx⟩ := h3
      obtain ⟨rfl, e2⟩ := y
      obtain ⟨r, er, rfl⟩ := map_get e2
      have hi2 : i < (succs S (p1, c)).length := (List.getElem?_eq_some_iff.mp er).1
      refine ⟨_, rfl, .inl ⟨rfl, _, SqL.of efo3⟩, _, rfl, tb, rfl, isD_of hE3, _, rfl, _, rfl, sz_ok (by simp), fun q3 hq3 => ?_⟩
      refine ⟨sz_ok (by simp), fun q4 hq4 => ?_⟩
      have k4 : Kp T [] H4 (upd (upd H4 q3 (.tup [ni p2, sg c])) q4 (.lst [])) := (Kp.new hq3).snew hq4
      have eq3 : upd (upd H4 q3 (.tup [ni p2, sg c])) q4 (.lst []) q3 = some (.tup [ni p2, sg c]) := by rw [upd_ne (ne_of_none upd_same hq4), upd_same]
      have eq4 : upd (upd H4 q3 (.tup [ni p2, sg c])) q4 (.lst []) q4 = some (.lst []) := upd_same
      generalize upd (upd H4 q3 (.tup [ni p2, sg c])) q4 (.lst []) = H5 at *
      have hE5 := hE3.kp k4
      obtain ⟨l2, hl2', el2, _⟩ := tab_at hE5 (p2, c) eq4
      refine ⟨_, DGet.t hE5.t (k := pk (p2, c)) eq3, l2, hl2', ⟨_, SqL.of el2⟩, fun D hD => ?_⟩
      have k5 := k3.trans k4
      refine lc_it (walk_list (xs := (succs S (p2, c)).map ni)) (fun j H6 => ∃ dxs : List V, Kp T [] H5 H6 ∧ H6 D = some (.lst dxs) ∧ Paired ((nbNK (P := P) (w := w) (K := K)).v H6) dxs (((succs S (p2, c)).take j).map fun r' => (r, r', pb || decide (r ≠ r')))) ⟨[], Kp.new hD, upd_same, .nil⟩ (fun j H6 _ h6 => by obtain ⟨_, k6, _⟩ := h6; exact SqL.of (k6.get el2)) (fun j x H6 H7 hj h6 y => ?_) (fun H6 h6 => ?_)
      · obtain ⟨dxs, k6, eD, hdx⟩ := h6
        obtain ⟨rfl, e3⟩ := y
        obtain ⟨r', er', rfl⟩ := map_get e3
        have hj2 : j < (succs S (p2, c)).length := (List.getElem?_eq_some_iff.mp er').1
        have hdl := Paired.length hdx
        rw [List.length_map, List.length_take] at hdl
        have fin : ∀ bb : Bool, bb = (pb || decide (r ≠ r')) → ∀ p, H7 p = none → ∃ xs', upd H7 p (.tup (nbV (r, r', bb))) D = some (.lst xs') ∧ xs'.length < sizeLine ∧ ∃ dxs2, Kp T [] H5 (upd (upd H7 p (.tup (nbV (r, r', bb)))) D (.lst (xs' ++ [.ref p]))) ∧ upd (upd H7 p (.tup (nbV (r, r', bb)))) D (.lst (xs' ++ [.ref p])) D = some (.lst dxs2) ∧ Paired ((nbNK (P := P) (w := w) (K := K)).v (upd (upd H7 p (.tup (nbV (r, r', bb)))) D (.lst (xs' ++ [.ref p])))) dxs2 (((succs S (p2, c)).take (j + 1)).map fun r' => (r, r', pb || decide (r ≠ r'))) := fun bb hbb p hp => by
          have eDp : upd H7 p (.tup (nbV (r, r', bb))) D = some (.lst dxs) := by rw [upd_ne (ne_of_none eD hp)]; exact eD
          have kp : Kp T [] H7 (upd H7 p (.tup (nbV (r, r', bb)))) := Kp.new hp
          have kD : Kp T [D] (upd H7 p (.tup (nbV (r, r', bb)))) (upd (upd H7 p (.tup (nbV (r, r', bb)))) D (.lst (dxs ++ [.ref p]))) := (Kp.refl _).mut (.inr List.mem_cons_self) eDp
          have nt : ∀ b ∈ [D], ∀ xs, upd H7 p (.tup (nbV (r, r', bb))) b ≠ some (.tup xs) := fun b hb xs z => by
            rw [List.mem_singleton.mp hb, eDp] at z
            cases z
          refine ⟨dxs, eDp, sz_lt (by omega), dxs ++ [.ref p], (k6.trans kp).mut (.inl hD) eDp, upd_same, ?_⟩
          rw [List.take_add_one, er', List.map_append]
          refine Paired.snoc (nbNK.pk (nbNK.pk hdx kp (fun _ z => nomatch z)) kD nt) ⟨p, rfl, ?_⟩
          subst hbb
          exact kD.getX upd_same (fun z => nt p z _ upd_same)
        refine ⟨rfl, ?_⟩
        refine ⟨_, rfl, _, rfl, _, rfl, pb, rfl, ?_⟩
        cases pb with
        | true =>
          refine iteT ⟨sz_ok (by simp), fun p hp => ?_⟩
          obtain ⟨xs', h1, h2, h3⟩ := fin true rfl p hp
          exact ⟨xs', h1, h2, h3⟩
        | false =>
          refine iteF ⟨_, rfl, _, rfl, rfl, ?_⟩
          refine ⟨sz_ok (by simp), fun p hp => ?_⟩
          have eb : decide (r ≠ r') = !decide (V.int (r : Int) = V.int (r' : Int)) := by
            by_cases e : r = r'
            · subst e
              rw [decide_eq_true rfl, decide_eq_false (by simp)]
              rfl
            · rw [decide_eq_true e, decide_eq_false (fun z => e (by injection z with z; omega))]
              rfl
          obtain ⟨xs', h1, h2, h3⟩ := fin (!decide (V.int (r : Int) = V.int (r' : Int))) (by rw [← eb]; rfl) p hp
          exact ⟨xs', h1, h2, h3⟩
      · obtain ⟨dxs, k6, eD, hdx⟩ := h6
        rw [List.take_of_length_le (by rw [List.length_map]; exact Nat.le_refl _)] at hdx
        have k36 := k4.trans k6
        have efo6 := k36.get efo3
        have hfl := Paired.length hfx
        have hdl := Paired.length hdx
        have hfb := flat_len_le (fun r => (succs S (p2, c)).map fun r' => (r, r', pb || decide (r ≠ r'))) (b := 200) (fun x => by rw [List.length_map]; omega) ((succs S (p1, c)).take i)
        rw [List.length_take] at hfb
        rw [List.length_map] at hdl
        have hm : min i (succs S (p1, c)).length * 200 ≤ 200 * 200 := Nat.mul_le_mul_right _ (by omega)
        refine ⟨fo, D, _, _, rfl, rfl, efo6, eD, sz_ok (by omega), ?_⟩
        have kf : Kp T [fo] H6 (upd H6 fo (.lst (fxs ++ dxs))) := (Kp.refl _).mut (.inr List.mem_cons_self) efo6
        have nt : ∀ b ∈ [fo], ∀ xs, H6 b ≠ some (.tup xs) := fun b hb xs z => by
          rw [List.mem_singleton.mp hb, efo6] at z
          cases z
        have hft : tb ≠ fo := ne_of (hE3.kp k36).t efo6 (by intro z; cases z)
        refine ⟨_, _, fxs ++ dxs, rfl, (k3.trans k36).mut (.inl hfo) efo6, kf.getX (k36.get el3) (by simp [hlf]), ?_, upd_same, ?_⟩
        · have h6 := hE3.kp k36
          exact ⟨by rw [upd_ne hft]; exact h6.t, h6.nk, h6.na, fun e he => by rw [upd_ne (ne_of_none (hE.l e he) hfo)]; exact h6.l e he, h6.out, h6.few⟩
        · rw [take_flat _ er]
          exact paired_app (nbNK.pk (nbNK.pk hfx k36 (fun _ z => nomatch z)) kf nt) (nbNK.pk hdx kf nt)
    · obtain ⟨y7, y8, fxs, rfl, k3, el3, hE3, efo3, hfx⟩ := h3
      rw [List.take_of_length_le (by rw [List.length_map]; exact Nat.le_refl _)] at hfx
      exact ⟨_, rfl, q H3 fo fxs k3 hfo efo3 hfx⟩
end
end K51
/-! what comes next in the led search -/
namespace K51
open PySem PySem.Spec PyProof.Rows L2 NdefX LamX
section
variable {P : Program} {w : World} {K : PySem.W.Frag} {mg : Str → Option Value} {base : Heap} {T : List NTab}
theorem EntsAt.far {H : Hp} {tb p : Addr} {o : HO} {es : List (PKey × Addr)} {S : List Step} (h : EntsAt H tb es S) (h1 : tb ≠ p) (h2 : ∀ e ∈ es, e.2 ≠ p) : EntsAt (upd H p o) tb es S :=
  ⟨by rw [upd_ne h1]; exact h.t, h.nk, h.na, fun e he => by rw [upd_ne (h2 e he)]; exact h.l e he, h.out, h.few⟩
theorem ok_led_nexts {S : List Step} {sgs : List Nat} (hS : S.length ≤ 200) (f : Addr) (cl : List (Str × Addr)) (c' : Addr) : NOk P w K mg base CX0 1 f (NF.of n_led_text "nexts" "led_text.<locals>.nexts" cl c') ["here", "sign"] ["table"] (sp_nx (n3NK (P := P) (w := w) (K := K)) T (TabV S) (lnx S) sgs) := by
  refine nokG_of (N := ["here", "sign", "table", "one", "two", "three", "found", "to", "too", "last"]) sc_led_text_nexts (fun _ _ _ us hl => match us, hl with | [_, _], _ => rfl) (fun ws vs H Q E h => ?_) fun A outer s H vs ws Q E hr hf hc hwl h => ?_
  · obtain ⟨tv, x, a, c, _, rfl, _⟩ := h
    rfl
  · obtain ⟨tv, x, ⟨p1, p2, p3⟩, c, rfl, rfl, ⟨tb, rfl, es, hE⟩, ⟨t, rfl, et⟩, hcs, q⟩ := h
    have hA := succs_len S (p1, c)
    have hB := succs_len S (p2, c)
    have hC := succs_len S (p3, c)
    refine ⟨_, (pss_cons (ps_asg (pv 0) (pg_tup rfl (pgs_cons (pg_name (i := 3) sc_led_text_nexts.nd rfl (by first | exact .inl rfl | exact .inr rfl)) (pgs_cons (pg_name (i := 4) sc_led_text_nexts.nd rfl (by first | exact .inl rfl | exact .inr rfl)) (pgs_cons (pg_name (i := 5) sc_led_text_nexts.nd rfl (by first | exact .inl rfl | exact .inr rfl)) pgs_nil)))))
      (pss_cons (ps_set (i := 6) sc_led_text_nexts.nd rfl (by first | exact .inl rfl | exact .inr rfl) (pe_lst pa_nil))
      (pss_cons (ps_for PassesOwn.never rfl (pi_list (pe_dget2 (hu_of hr) (pv 2) (pe_tup (pa_cons (pv 3) (pa_cons (pv 1) pa_nil))) (pe_lst pa_nil) ⟨by rfl, by rfl, by rfl, by rfl⟩)) (pg_name (i := 7) sc_led_text_nexts.nd rfl (by first | exact .inl rfl | exact .inr rfl))
      (pss_one (ps_for PassesOwn.never rfl (pi_list (pe_dget2 (hu_of hr) (pv 2) (pe_tup (pa_cons (pv 4) (pa_cons (pv 1) pa_nil))) (pe_lst pa_nil) ⟨by rfl, by rfl, by rfl, by rfl⟩)) (pg_name (i := 8) sc_led_text_nexts.nd rfl (by first | exact .inl rfl | exact .inr rfl))
      (pss_one (ps_expr (pe_bm PySem.F.plainAttrs_list PySem.F.slot_list_extend PySem.F.type_list_extend mt_extend (pv 6) (pa_cons (pe_lc (own := [("last", 9)]) (g := gName 9) (tt := tYes) (by rfl) sc_led_text_nexts.nd (pi_list (pe_dget2 (hu_of hr) (pv 2) (pe_tup (pa_cons (pv 5) (pa_cons (pv 1) pa_nil))) (pe_lst pa_nil) ⟨by rfl, by rfl, by rfl, by rfl⟩)) (blkOk_by (N := ["here", "sign", "table", "one", "two", "three", "found", "to", "too", "last"]) (sc := (C8.fnScope n_led_text)) (own := [("last", 9)]) (by decide +kernel)) (fun _ _ _ _ _ => (pg_name (i := 9) sc_led_text_nexts.nd rfl (by first | exact .inl rfl | exact .inr rfl))) (fun _ _ _ _ _ => pts_nil) (fun _ _ _ _ _ => (pe_tup (pa_cons (pv 7) (pa_cons (pv 8) (pa_cons (pv 9) pa_nil)))))) pa_nil)))))))
      (pss_one (ps_ret (pv 6)))))), ?_⟩
    refine ⟨_, rfl, t, _, rfl, SqT.of et, rfl, _, _, rfl, _, _, rfl, _, _, rfl, rfl, ?_⟩
    refine ⟨sz_ok (by simp), fun fo hfo => ?_⟩
    have k1 : Kp T [] H (upd H fo (.lst [])) := Kp.new hfo
    have efo1 : upd H fo (.lst []) fo = some (.lst []) := upd_same
    have hef : ∀ e ∈ es, e.2 ≠ fo := fun e he => ne_of_none (hE.l e he) hfo
    generalize upd H fo (.lst []) = H1 at *
    have hE1 := hE.kp k1
    refine ⟨_, rfl, tb, rfl, isD_of hE1, _, rfl, _, rfl, sz_ok (by simp), fun q1 hq1 => ?_⟩
    refine ⟨sz_ok (by simp), fun q2 hq2 => ?_⟩
    have k2 : Kp T [] H1 (upd (upd H1 q1 (.tup [ni p1, sg c])) q2 (.lst [])) := (Kp.new hq1).snew hq2
    have eq1 : upd (upd H1 q1 (.tup [ni p1, sg c])) q2 (.lst []) q1 = some (.tup [ni p1, sg c]) := by rw [upd_ne (ne_of_none upd_same hq2), upd_same]
    have eq2 : upd (upd H1 q1 (.tup [ni p1, sg c])) q2 (.lst []) q2 = some (.lst []) := upd_same
    have hq2n : H1 q2 = none := (Kp.new (T := T) (ex := []) hq1).free hq2
    have hE2 := hE1.kp k2
    have efo2 := k2.get efo1
    have k12 := k1.trans k2
    generalize upd (upd H1 q1 (.tup [ni p1, sg c])) q2 (.lst []) = H2 at *
    obtain ⟨l, hl, el, hl2⟩ := tab_at hE2 (p1, c) eq2
    have hlf : l ≠ fo := by
      rcases hl2 with z | ⟨e, he, z⟩
      · rw [z]
        exact (ne_of_none efo1 hq2n).symm
      · rw [z]
        exact hef e he
    refine ⟨_, DGet.t hE2.t (k := pk (p1, c)) eq1, l, hl, ⟨_, SqL.of el⟩, ?_⟩
    refine for_it (walk_list (xs := (succs S (p1, c)).map ni)) (fun i σ H3 => ∃ (y7 y8 y9 : Option V) (fxs : List V), σ = [some (.ref t), some (sg c), some (.ref tb), some (ni p1), some (ni p2), some (ni p3), some (.ref fo), y7, y8, y9] ∧ Kp T [] H H3 ∧ H3 l = some (.lst ((succs S (p1, c)).map ni)) ∧ EntsAt H3 tb es S ∧ H3 fo = some (.lst fxs) ∧ Paired ((n3NK (P := P) (w := w) (K := K)).v H3) fxs (((succs S (p1, c)).take i).flatMap fun r => (succs S (p2, c)).flatMap fun r' => (succs S (p3, c)).map fun r'' => (r, r', r''))) ⟨_, _, _, [], rfl, k12, el, hE2, efo2, .nil⟩ (fun i σ H3 _ h3 => ?_) (fun i x σ H3 H4 hi h3 y => ?_) (fun σ H3 h3 => ?_)
    · obtain ⟨_, _, _, _, _, _, el, _⟩ := h3
      exact SqL.of el
    · obtain ⟨y7, y8, y9, fxs, rfl, k3, el3, hE3, efo3, hfx⟩ := h3
      obtain ⟨rfl, e2⟩ := y
      obtain ⟨r, er, rfl⟩ := map_get e2
      have hi2 : i < (succs S (p1, c)).length := (List.getElem?_eq_some_iff.mp er).1
      refine ⟨_, rfl, tb, rfl, isD_of hE3, _, rfl, _, rfl, sz_ok (by simp), fun q3 hq3 => ?_⟩
      refine ⟨sz_ok (by simp), fun q4 hq4 => ?_⟩
      have k4 : Kp T [] H4 (upd (upd H4 q3 (.tup [ni p2, sg c])) q4 (.lst [])) := (Kp.new hq3).snew hq4
      have eq3 : upd (upd H4 q3 (.tup [ni p2, sg c])) q4 (.lst []) q3 = some (.tup [ni p2, sg c]) := by rw [upd_ne (ne_of_none upd_same hq4), upd_same]
      have eq4 : upd (upd H4 q3 (.tup [ni p2, sg c])) q4 (.lst []) q4 = some (.lst []) := upd_same
      have hq4n : H4 q4 = none := (Kp.new (T := T) (ex := []) hq3).free hq4
      generalize upd (upd H4 q3 (.tup [ni p2, sg c])) q4 (.lst []) = H5 at *
      have hE5 := hE3.kp k4
      obtain ⟨l2, hl2', el2, hl22⟩ := tab_at hE5 (p2, c) eq4
      have hl2f : l2 ≠ fo := by
        rcases hl22 with z | ⟨e, he, z⟩
        · rw [z]
          exact (ne_of_none efo3 hq4n).symm
        · rw [z]
          exact hef e he
      have hfb := flat_len_le (fun r => (succs S (p2, c)).flatMap fun r' => (succs S (p3, c)).map fun r'' => (r, r', r'')) (b := 40000) (fun x => by
        have := flat_len_le (fun r' => (succs S (p3, c)).map fun r'' => (x, r', r'')) (b := 200) (fun x => by rw [List.length_map]; omega) (succs S (p2, c))
        have h2 := Nat.mul_le_mul_right 200 (show (succs S (p2, c)).length ≤ 200 by omega)
        omega) ((succs S (p1, c)).take i)
      rw [List.length_take] at hfb
      have hm : min i (succs S (p1, c)).length * 40000 ≤ 199 * 40000 := Nat.mul_le_mul_right _ (by omega)
      have hfl0 := Paired.length hfx
      refine ⟨_, DGet.t hE5.t (k := pk (p2, c)) eq3, l2, hl2', ⟨_, SqL.of el2⟩, ?_⟩
      refine for_it (walk_list (xs := (succs S (p2, c)).map ni)) (fun j σ H6 => ∃ (y8 y9 : Option V) (fxs : List V), σ = [some (.ref t), some (sg c), some (.ref tb), some (ni p1), some (ni p2), some (ni p3), some (.ref fo), some (ni r), y8, y9] ∧ Kp T [] H H6 ∧ H6 l = some (.lst ((succs S (p1, c)).map ni)) ∧ H6 l2 = some (.lst ((succs S (p2, c)).map ni)) ∧ EntsAt H6 tb es S ∧ H6 fo = some (.lst fxs) ∧ Paired ((n3NK (P := P) (w := w) (K := K)).v H6) fxs ((((succs S (p1, c)).take i).flatMap fun r => (succs S (p2, c)).flatMap fun r' => (succs S (p3, c)).map fun r'' => (r, r', r'')) ++ (((succs S (p2, c)).take j).flatMap fun r' => (succs S (p3, c)).map fun r'' => (r, r', r'')))) ⟨_, _, fxs, rfl, k3.trans k4, k4.get el3, el2, hE5, k4.get efo3, by rw [List.take_zero]; show Paired _ fxs (_ ++ []); rw [List.append_nil]; exact n3NK.pk hfx k4 (fun _ z => nomatch z)⟩ (fun j σ H6 _ h6 => ?_) (fun j x σ H6 H7 hj h6 y => ?_) (fun σ H6 h6 => ?_)
      · obtain ⟨_, _, _, _, _, _, el2, _⟩ := h6
        exact SqL.of el2
      · obtain ⟨y8, y9, fxs, rfl, k6, el6, el26, hE6, efo6, hfx6⟩ := h6
        obtain ⟨rfl, e3⟩ := y
        obtain ⟨r', er', rfl⟩ := map_get e3
        have hj2 : j < (succs S (p2, c)).length := (List.getElem?_eq_some_iff.mp er').1
        refine ⟨_, rfl, .inl ⟨rfl, _, SqL.of efo6⟩, _, rfl, tb, rfl, isD_of hE6, _, rfl, _, rfl, sz_ok (by simp), fun q5 hq5 => ?_⟩
        refine ⟨sz_ok (by simp), fun q6 hq6 => ?_⟩
        have k7 : Kp T [] H7 (upd (upd H7 q5 (.tup [ni p3, sg c])) q6 (.lst [])) := (Kp.new hq5).snew hq6
        have eq5 : upd (upd H7 q5 (.tup [ni p3, sg c])) q6 (.lst []) q5 = some (.tup [ni p3, sg c]) := by rw [upd_ne (ne_of_none upd_same hq6), upd_same]
        have eq6 : upd (upd H7 q5 (.tup [ni p3, sg c])) q6 (.lst []) q6 = some (.lst []) := upd_same
        generalize upd (upd H7 q5 (.tup [ni p3, sg c])) q6 (.lst []) = H8 at *
        have hE8 := hE6.kp k7
        obtain ⟨l3, hl3', el3', _⟩ := tab_at hE8 (p3, c) eq6
        refine ⟨_, DGet.t hE8.t (k := pk (p3, c)) eq5, l3, hl3', ⟨_, SqL.of el3'⟩, fun D hD => ?_⟩
        refine lc_it (walk_list (xs := (succs S (p3, c)).map ni)) (fun e H9 => ∃ dxs : List V, Kp T [] H8 H9 ∧ H9 D = some (.lst dxs) ∧ Paired ((n3NK (P := P) (w := w) (K := K)).v H9) dxs (((succs S (p3, c)).take e).map fun r'' => (r, r', r''))) ⟨[], Kp.new hD, upd_same, .nil⟩ (fun e H9 _ h9 => by obtain ⟨_, k9, _⟩ := h9; exact SqL.of (k9.get el3')) (fun e x H9 H10 he h9 y => ?_) (fun H9 h9 => ?_)
        · obtain ⟨dxs, k9, eD, hdx⟩ := h9
          obtain ⟨rfl, e4⟩ := y
          obtain ⟨r'', er'', rfl⟩ := map_get e4
          have hdl := Paired.length hdx
          rw [List.length_map, List.length_take] at hdl
          refine ⟨rfl, ?_⟩
          refine ⟨_, rfl, _, rfl, _, rfl, sz_ok (by simp), fun p hp => ?_⟩
          have eDp : upd H10 p (.tup (n3V (r, r', r''))) D = some (.lst dxs) := by rw [upd_ne (ne_of_none eD hp)]; exact eD
          have kp : Kp T [] H10 (upd H10 p (.tup (n3V (r, r', r'')))) := Kp.new hp
          have kD : Kp T [D] (upd H10 p (.tup (n3V (r, r', r'')))) (upd (upd H10 p (.tup (n3V (r, r', r'')))) D (.lst (dxs ++ [.ref p]))) := (Kp.refl _).mut (.inr List.mem_cons_self) eDp
          have nt : ∀ b ∈ [D], ∀ xs, upd H10 p (.tup (n3V (r, r', r''))) b ≠ some (.tup xs) := fun b hb xs z => by
            rw [List.mem_singleton.mp hb, eDp] at z
            cases z
          refine ⟨dxs, eDp, sz_lt (by omega), dxs ++ [.ref p], (k9.trans kp).mut (.inl hD) eDp, upd_same, ?_⟩
          rw [List.take_add_one, er'', List.map_append]
          exact Paired.snoc (n3NK.pk (n3NK.pk hdx kp (fun _ z => nomatch z)) kD nt) ⟨p, rfl, kD.getX upd_same (fun z => nt p z _ upd_same)⟩
        · obtain ⟨dxs, k9, eD, hdx⟩ := h9
          rw [List.take_of_length_le (by rw [List.length_map]; exact Nat.le_refl _)] at hdx
          have k79 := k7.trans k9
          have efo9 := k79.get efo6
          have hfl := Paired.length hfx6
          have hdl := Paired.length hdx
          rw [List.length_map] at hdl
          have hfb2 := flat_len_le (fun r' => (succs S (p3, c)).map fun r'' => (r, r', r'')) (b := 200) (fun x => by rw [List.length_map]; omega) ((succs S (p2, c)).take j)
          rw [List.length_take] at hfb2
          have hm2 : min j (succs S (p2, c)).length * 200 ≤ 200 * 200 := Nat.mul_le_mul_right _ (by omega)
          rw [List.length_append] at hfl
          refine ⟨fo, D, _, _, rfl, rfl, efo9, eD, (by show _ ≤ sizeLine; exact Nat.le_trans (show fxs.length + dxs.length ≤ 16000000 by omega) (by decide)), ?_⟩
          have kf : Kp T [fo] H9 (upd H9 fo (.lst (fxs ++ dxs))) := (Kp.refl _).mut (.inr List.mem_cons_self) efo9
          have nt : ∀ b ∈ [fo], ∀ xs, H9 b ≠ some (.tup xs) := fun b hb xs z => by
            rw [List.mem_singleton.mp hb, efo9] at z
            cases z
          have hft : tb ≠ fo := ne_of (hE6.kp k79).t efo9 (by intro z; cases z)
          refine ⟨_, _, fxs ++ dxs, rfl, (k6.trans k79).mut (.inl hfo) efo9, kf.getX (k79.get el6) (by simp [hlf]), kf.getX (k79.get el26) (by simp [hl2f]), (hE6.kp k79).far hft hef, upd_same, ?_⟩
          rw [take_flat _ er', ← List.append_assoc]
          exact paired_app (n3NK.pk (n3NK.pk hfx6 k79 (fun _ z => nomatch z)) kf nt) (n3NK.pk hdx kf nt)
      · obtain ⟨y8, y9, fxs, rfl, k6, el6, el26, hE6, efo6, hfx6⟩ := h6
        rw [List.take_of_length_le (l := succs S (p2, c)) (by rw [List.length_map]; exact Nat.le_refl _), ← take_flat (fun r => (succs S (p2, c)).flatMap fun r' => (succs S (p3, c)).map fun r'' => (r, r', r'')) er] at hfx6
        exact ⟨_, _, _, fxs, rfl, k6, el6, hE6, efo6, hfx6⟩
    · obtain ⟨y7, y8, y9, fxs, rfl, k3, el3, hE3, efo3, hfx⟩ := h3
      rw [List.take_of_length_le (by rw [List.length_map]; exact Nat.le_refl _)] at hfx
      exact ⟨_, rfl, q H3 fo fxs k3 hfo efo3 hfx⟩
end
end K51
/-! double_text, led_text -/
namespace K51
open PySem PySem.Spec PyProof.Rows L2 NdefX LamX
section
variable {X : Cx} {α : Type} {T : List NTab}
/-- first_text(signs, start, goal, nexts), nexts made here of the table at slot it -/
def tFt (N : NK X.prog X.w X.K α) (nx : α → Nat → List α) (sgs : List Nat) (S : List Step) (T : List NTab) (mk : Addr → NF) (it : Nat) (t : TA) : TE := fun σ H Q => t σ H fun vs H1 => ∃ (sl g tb c' : Addr) (xa xb : V) (a b : α) (U : List α),
  vs = [.ref sl, xa, xb, .ref g] ∧ σ[it]? = some (some (.ref tb)) ∧ H1 g = some (FnO g (mk c')) ∧ H1 (mk c').c = some (CodeO (mk c').c (mk c').qual) ∧ TabAt H1 tb S ∧ H1 sl = some (.lst (sgs.map sg)) ∧ N.v H1 xa a ∧ N.v H1 xb b ∧
  (∀ x c y, y ∈ nx x c → y ∈ U) ∧ U.length ≤ 2000 ∧ ∀ H' v, Kp T [] H1 H' → Told nx sgs a b U.length v → Q v H'
theorem pe_ft {j it : Nat} {N : NK X.prog X.w X.K α} {nx : α → Nat → List α} {sgs : List Nat} {S : List Step} {mk : Addr → NF} {cl : List (Str × Addr)} {t : TA} {e : Expr} {es : List Expr} {p pos : Pos}
    (FT : FtOk X.prog X.w X.K X.mg X.base T) (O : ∀ g c', NOk X.prog X.w X.K X.mg X.base CX0 1 g (mk c') ["here", "sign"] ["table"] (sp_nx N T (TabV S) nx sgs)) (hcl : ∀ c', (mk c').cl = cl) (cp : X.Ok → Caps X cl ["table"] [it])
    (hr : Room j X.A) (hk : 2 ≤ j) (hg : Gl X "first_text") (ha : PA X (e :: es) t) (hdb : (("first_text" : Str) == ("__debug__" : Str)) = false := by decide)
    (he : starEach (e :: es) X.env = (false, eval e X.env) :: starEach es X.env := by rfl) (hpl : (backTo pos (starEach es X.env)).any (·.1) = false := by rfl) :
    PE X (.Call (.Name "first_text" p) (e :: es) [] pos) (tFt N nx sgs S T mk it t) := by
  refine ⟨fun pins s σ H Q I h => ?_⟩
  obtain ⟨fa, fd, hm, hkp, hb, run⟩ := FT.ex
  refine wpAny_Call_Name_kw (ld_glob I hg hm ?_ hdb)
  refine PySem.W.callWith_K (h₀ := X.base) I.ok.mod.kin hkp (thn (ha.run pos pins s σ H _ I h) fun us s1 ⟨vs, H1, I1, r, q⟩ => ⟨I1.kIn, ?_⟩) he hpl
  obtain ⟨sl, g, tb, c', xa, xb, a, b, U, ev, hs, hgf, hc, ht, hsl, hva, hvb, hU, hUl, q⟩ := q
  subst ev
  have C0 := cells_of I1 (cp I1.ok)
  have ej : [it].map (slotAt σ) = [some (.ref tb)] := by
    show [slotAt σ it] = _
    rw [slotAt_of hs]
  rw [ej, ← hcl c'] at C0
  have NX := nexts_of (O g c') (tv := .ref tb) (fun H k => ⟨tb, rfl, ht.kp k⟩) hgf hc
  show wpAny _ _ (call (.ref fa) us) _ _ _
  have hgs : g ∉ frs X.stack := fun z => by
    have := I1.env0.frf g z
    rw [hgf] at this
    cases this
  refine wpAny_call (codeAny_mono (run α N nx sgs U g sl X.A X.stack s1 H1 xa xb a b Q _ ⟨us, []⟩ us (hr.mono hk) I1.env0 (by have q := hb s1 us I1.kIn (by rw [List.append_nil]; exact r.length.symm); rw [List.append_nil] at q; exact q) r NX C0 hgs hsl hva hvb hU hUl q) fun r s' hq => ?_)
  cases r with
  | error e => exact (show False from hq).elim
  | ok fl =>
    cases fl with
    | ret u => exact I1.after hq
    | next => exact False.elim hq
    | brk => exact False.elim hq
    | cont => exact False.elim hq
end
abbrev nmc (x : Str) : Nat → Nat → Str := fun _ _ => x
def allB (n : Nat) : List NB := (List.range n).flatMap fun a => (List.range n).flatMap fun b => [(a, b, false), (a, b, true)]
def all3 (n : Nat) : List N3 := (List.range n).flatMap fun a => (List.range n).flatMap fun b => (List.range n).map fun c => (a, b, c)
theorem allB_len (n : Nat) : (allB n).length ≤ n * (n * 2) := by
  have h := flat_len_le (fun a => (List.range n).flatMap fun b => [(a, b, false), (a, b, true)]) (b := n * 2) (fun a => by
    have h := flat_len_le (fun b => [(a, b, false), (a, b, true)]) (b := 2) (fun b => Nat.le_refl _) (List.range n)
    rw [List.length_range] at h
    exact h) (List.range n)
  rw [List.length_range] at h
  exact h
theorem all3_len (n : Nat) : (all3 n).length ≤ n * (n * n) := by
  have h := flat_len_le (fun a => (List.range n).flatMap fun b => (List.range n).map fun c => (a, b, c)) (b := n * n) (fun a => by
    have h := flat_len_le (fun b => (List.range n).map fun c => (a, b, c)) (b := n) (fun b => by rw [List.length_map, List.length_range]; exact Nat.le_refl _) (List.range n)
    rw [List.length_range] at h
    exact h) (List.range n)
  rw [List.length_range] at h
  exact h
theorem mem_allB {n : Nat} {x : NB} (h1 : x.1 < n) (h2 : x.2.1 < n) : x ∈ allB n := by
  obtain ⟨a, b, c⟩ := x
  refine List.mem_flatMap.mpr ⟨a, List.mem_range.mpr h1, List.mem_flatMap.mpr ⟨b, List.mem_range.mpr h2, ?_⟩⟩
  cases c
  · exact List.mem_cons_self
  · exact List.mem_cons_of_mem _ List.mem_cons_self
theorem mem_all3 {n : Nat} {x : N3} (h1 : x.1 < n) (h2 : x.2.1 < n) (h3 : x.2.2 < n) : x ∈ all3 n := by
  obtain ⟨a, b, c⟩ := x
  exact List.mem_flatMap.mpr ⟨a, List.mem_range.mpr h1, List.mem_flatMap.mpr ⟨b, List.mem_range.mpr h2, List.mem_map.mpr ⟨c, List.mem_range.mpr h3, rfl⟩⟩⟩
theorem succs_lt {n : Nat} {S : List Step} (hb : Below n S) {k : PKey} {r : Nat} (h : r ∈ succs S k) : r < n := (hb _ (mem_succs.mp (show r ∈ succs S (k.1, k.2) from h))).2
theorem dnx_all {n : Nat} {S : List Step} (hb : Below n S) : ∀ x c y, y ∈ dnx S x c → y ∈ allB n := fun x c y h => by
  obtain ⟨r, h1, h2⟩ := List.mem_flatMap.mp h
  obtain ⟨r', h3, e⟩ := List.mem_map.mp h2
  rw [← e]
  exact mem_allB (succs_lt hb h1) (succs_lt hb h3)
theorem lnx_all {n : Nat} {S : List Step} (hb : Below n S) : ∀ x c y, y ∈ lnx S x c → y ∈ all3 n := fun x c y h => by
  obtain ⟨r, h1, h2⟩ := List.mem_flatMap.mp h
  obtain ⟨r', h3, h4⟩ := List.mem_flatMap.mp h2
  obtain ⟨r'', h5, e⟩ := List.mem_map.mp h4
  rw [← e]
  exact mem_all3 (succs_lt hb h1) (succs_lt hb h3) (succs_lt hb h5)
theorem Told.wide {α : Type} {nx : α → Nat → List α} {sgs : List Nat} {a b : α} {B B' : Nat} {v : V} (h : Told nx sgs a b B v) (hB : B ≤ B') : Told nx sgs a b B' v := by
  rcases h with h | ⟨w, h1, h2, h3, h4, h5⟩
  · exact .inl h
  · exact .inr ⟨w, h1, h2, h3, h4, Nat.le_trans h5 hB⟩
section
variable {P : Program} {w : World} {K : PySem.W.Frag} {mg : Str → Option Value} {base : Heap} {T : List NTab}
def sp_double_text (T : List NTab) : Sp := fun vs H Q _ => ∃ (tb sl : Addr) (r : Nat) (S : List Step) (sgs : List Nat) (n : Nat), vs = [.ref tb, .ref sl, ni r] ∧ S.length ≤ 200 ∧ Below n S ∧ n ≤ 5 ∧ TabsN T H ∧ TabAt H tb S ∧ H sl = some (.lst (sgs.map sg)) ∧ ∀ H' v, Kp T [] H H' → Told (dnx S) sgs (r, r, false) (r, r, true) 1000 v → Q v H'
theorem ok_double_text {c Pt : Addr} (F : FnT K mg "double_text" s_double_text c) (FT : FtOk P w K mg base T) (TB : TabB base mg c Pt) (hTm : (Pt, nmc "double_text.<locals>.nexts") ∈ T) (hTu : ∀ p ∈ T, p.1 = Pt → p.2 = nmc "double_text.<locals>.nexts") : DOk P w K mg base "double_text" 3 ["table", "signs", "room"] [] (sp_double_text T) := by
  refine F.dok sc_double_text b_double_text (fun vs H Q E h => ?_) (fun f A outer s H vs Q E hr h => ?_)
  · obtain ⟨tb, sl, r, S, sgs, n, rfl, _⟩ := h
    rfl
  · obtain ⟨tb, sl, r, S, sgs, n, rfl, hS, hb, hn, hT, ht, hsl, q⟩ := h
    refine ⟨_, (pss_cons (ps_ndefMS rfl TB rfl hTm rfl hTu (fun y hy => ndef_free (by decide +kernel : ndefB (defScope s_double_text) (C8.fnScope n_double_text) ["table"] = true) y hy) rfl rfl rfl sc_double_text.nd (i := 3) rfl (by first | exact .inl rfl | exact .inr rfl) (by first | exact .inl rfl | exact .inr rfl))
      (pss_one (ps_ret (pe_ft (sgs := sgs) (S := S) FT (fun g c' => ok_double_nexts hS g _ c') (fun _ => rfl) (fun ok => Caps.made (js := [0]) ok (ndef_free (by decide +kernel : ndefB (defScope s_double_text) (C8.fnScope n_double_text) ["table"] = true)) (ndef_fr (by decide +kernel : ndefB (defScope s_double_text) (C8.fnScope n_double_text) ["table"] = true)) rfl) hr (by decide) (by rfl) (pa_cons (pv 1) (pa_cons (pe_tup (pa_cons (pv 2) (pa_cons (pv 2) (pa_cons pe_bl pa_nil)))) (pa_cons (pe_tup (pa_cons (pv 2) (pa_cons (pv 2) (pa_cons pe_bl pa_nil)))) (pa_cons (pv 3) pa_nil)))))))), ?_⟩
    refine ⟨hT, fun g c' H1 eN back hT1 _ hg hc => ?_⟩
    have k1 : Kp T [] H H1 := ⟨fun b o e n _ => eN b o e n, back, fun _ => hT1⟩
    refine ⟨_, rfl, _, rfl, _, rfl, sz_ok (by simp), fun p1 hp1 => ?_⟩
    refine ⟨_, rfl, _, rfl, sz_ok (by simp), fun p2 hp2 => ?_⟩
    have k2 : Kp T [] H1 (upd (upd H1 p1 (.tup (nbV (r, r, false)))) p2 (.tup (nbV (r, r, true)))) := (Kp.new hp1).snew hp2
    have k12 := k1.trans k2
    refine ⟨_, rfl, sl, g, tb, c', .ref p1, .ref p2, (r, r, false), (r, r, true), allB n, rfl, rfl, k2.get hg (fun ps => fnO_ne ps), k2.get hc (fun ps => codeO_ne ps), ht.kp k12, k12.get hsl, ⟨p1, rfl, by rw [upd_ne (ne_of_none upd_same hp2), upd_same]⟩, ⟨p2, rfl, upd_same⟩, dnx_all hb, ?_, fun H' v k' hv => q H' v (k12.trans k') (hv.wide ?_)⟩
    · have := allB_len n
      have h2 : n * (n * 2) ≤ 5 * (5 * 2) := Nat.mul_le_mul hn (Nat.mul_le_mul hn (Nat.le_refl _))
      omega
    · have := allB_len n
      have h2 : n * (n * 2) ≤ 5 * (5 * 2) := Nat.mul_le_mul hn (Nat.mul_le_mul hn (Nat.le_refl _))
      omega
def sp_led_text (T : List NTab) : Sp := fun vs H Q _ => ∃ (tb sl : Addr) (r o : Nat) (S : List Step) (sgs : List Nat) (n : Nat), vs = [.ref tb, .ref sl, ni r, ni o] ∧ S.length ≤ 200 ∧ Below n S ∧ n ≤ 5 ∧ TabsN T H ∧ TabAt H tb S ∧ H sl = some (.lst (sgs.map sg)) ∧ ∀ H' v, Kp T [] H H' → Told (lnx S) sgs (r, r, o) (r, o, o) 1000 v → Q v H'
theorem ok_led_text {c Pt : Addr} (F : FnT K mg "led_text" s_led_text c) (FT : FtOk P w K mg base T) (TB : TabB base mg c Pt) (hTm : (Pt, nmc "led_text.<locals>.nexts") ∈ T) (hTu : ∀ p ∈ T, p.1 = Pt → p.2 = nmc "led_text.<locals>.nexts") : DOk P w K mg base "led_text" 3 ["table", "signs", "room", "other"] [] (sp_led_text T) := by
  refine F.dok sc_led_text b_led_text (fun vs H Q E h => ?_) (fun f A outer s H vs Q E hr h => ?_)
  · obtain ⟨tb, sl, r, o, S, sgs, n, rfl, _⟩ := h
    rfl
  · obtain ⟨tb, sl, r, o, S, sgs, n, rfl, hS, hb, hn, hT, ht, hsl, q⟩ := h
    refine ⟨_, (pss_cons (ps_ndefMS rfl TB rfl hTm rfl hTu (fun y hy => ndef_free (by decide +kernel : ndefB (defScope s_led_text) (C8.fnScope n_led_text) ["table"] = true) y hy) rfl rfl rfl sc_led_text.nd (i := 4) rfl (by first | exact .inl rfl | exact .inr rfl) (by first | exact .inl rfl | exact .inr rfl))
      (pss_one (ps_ret (pe_ft (sgs := sgs) (S := S) FT (fun g c' => ok_led_nexts hS g _ c') (fun _ => rfl) (fun ok => Caps.made (js := [0]) ok (ndef_free (by decide +kernel : ndefB (defScope s_led_text) (C8.fnScope n_led_text) ["table"] = true)) (ndef_fr (by decide +kernel : ndefB (defScope s_led_text) (C8.fnScope n_led_text) ["table"] = true)) rfl) hr (by decide) (by rfl) (pa_cons (pv 1) (pa_cons (pe_tup (pa_cons (pv 2) (pa_cons (pv 2) (pa_cons (pv 3) pa_nil)))) (pa_cons (pe_tup (pa_cons (pv 2) (pa_cons (pv 3) (pa_cons (pv 3) pa_nil)))) (pa_cons (pv 4) pa_nil)))))))), ?_⟩
    refine ⟨hT, fun g c' H1 eN back hT1 _ hg hc => ?_⟩
    have k1 : Kp T [] H H1 := ⟨fun b o e n _ => eN b o e n, back, fun _ => hT1⟩
    refine ⟨_, rfl, _, rfl, _, rfl, _, rfl, sz_ok (by simp), fun p1 hp1 => ?_⟩
    refine ⟨_, rfl, _, rfl, _, rfl, sz_ok (by simp), fun p2 hp2 => ?_⟩
    have k2 : Kp T [] H1 (upd (upd H1 p1 (.tup (n3V (r, r, o)))) p2 (.tup (n3V (r, o, o)))) := (Kp.new hp1).snew hp2
    have k12 := k1.trans k2
    refine ⟨_, rfl, sl, g, tb, c', .ref p1, .ref p2, (r, r, o), (r, o, o), all3 n, rfl, rfl, k2.get hg (fun ps => fnO_ne ps), k2.get hc (fun ps => codeO_ne ps), ht.kp k12, k12.get hsl, ⟨p1, rfl, by rw [upd_ne (ne_of_none upd_same hp2), upd_same]⟩, ⟨p2, rfl, upd_same⟩, lnx_all hb, ?_, fun H' v k' hv => q H' v (k12.trans k') (hv.wide ?_)⟩
    · have := all3_len n
      have h2 : n * (n * n) ≤ 5 * (5 * 5) := Nat.mul_le_mul hn (Nat.mul_le_mul hn hn)
      omega
    · have := all3_len n
      have h2 : n * (n * n) ≤ 5 * (5 * 5) := Nat.mul_le_mul hn (Nat.mul_le_mul hn hn)
      omega
end
end K51
/-! a lambda with parameters as what comes next -/
namespace K51
open PySem PySem.Spec PyProof.Rows L2 NdefX LamX
structure LF where
  qual : Str
  params : Arguments
  body : Expr
  scope : Scope
  cl : List (Str × Addr)
  c : Addr
/-- the object at f is the lambda F -/
def FnL (f : Addr) (F : LF) : HO := .ext fun h => ∃ (od : Option Addr) (sl : Array (Option Value)) (pm ctv : Value), h.get? f = some (⟨.type "function", od, .func (PySem.W.kla_fn "<lambda>" F.qual F.params F.body F.scope F.cl pm (.ref F.c) ctv), sl⟩ : Obj)
theorem fnL_ne {f : Addr} {F : LF} (ps : Array Value) : FnL f F ≠ .tbl ps := fun z => by
  unfold FnL at z
  cases z
section
variable {X : Cx} {pins : List (Addr × Obj)} {σ : L2.St} {H : Hp} {s : Shared}
theorem inv_fnL {F : LF} {o : Obj} {t' : Nat} {pm ctv : Value} (I : Inv X pins σ H s) (ho : o = { cls := .type "function", data := .func (PySem.W.kla_fn "<lambda>" F.qual F.params F.body F.scope F.cl pm (.ref F.c) ctv) }) :
    Inv X pins σ (upd H s.heap.objs.size (FnL s.heap.objs.size F)) { s with heap := s.heap.push o, toks := t' } := by
  subst ho
  refine I.laid (a := s.heap.objs.size) (fun b u e => Heap.get?_push_of_some _ e) (Nat.le_refl _) ?_
  have e := Heap.get?_push_size s.heap (o := ({ cls := .type "function", data := .func (PySem.W.kla_fn "<lambda>" F.qual F.params F.body F.scope F.cl pm (.ref F.c) ctv) } : Obj)) rfl
  exact ⟨⟨_, _, pm, ctv, e⟩, ⟨_, e⟩, fun h1 h2 ⟨od, sl, p, t, z⟩ st => ⟨od, sl, p, t, st _ z⟩⟩
theorem lam_makeM {T : List NTab} {nm : Nat → Nat → Str} {c P : Addr} {params : Arguments} {body : Expr} {scope : Scope} {pos : Pos} {E : Value → Shared → Prop} {Q : Value → Shared → Prop} (I : Inv X pins σ H s) (TB : TabB X.base X.mg c P) (hcode : X.env.code = .ref c)
    (hm : (P, nm) ∈ T) (hn : nm pos.line pos.col = X.env.qual ++ "<lambda>") (hu : ∀ p ∈ T, p.1 = P → p.2 = nm) (hT : TabsN T H) (hdef : defaultsOf params X.env = ([], [])) (hfree : ∀ y ∈ scope.names, y.2 = .free → ∃ c, X.env.cells.lookup y.1 = some c)
    (h : ∀ (f c' : Addr) (H1 : Hp) (s' : Shared), Inv X pins σ H1 s' → ExtN H H1 → (∀ b, H1 b = Option.none → H b = Option.none) → TabsN T H1 → H f = none → H1 f = some (FnL f ⟨X.env.qual ++ "<lambda>", params, body, scope, cloFrom X.env.cells scope.names [], c'⟩) → H1 c' = some (CodeO c' (X.env.qual ++ "<lambda>")) → Q (.ref f) s') :
    wpAny (model X.prog X.w) X.A (eval (.Lambda params body scope pos) X.env) Q E s := by
  obtain ⟨ps, hP, ht, ha⟩ := (show TabN H P nm from hT _ hm)
  refine PySem.W.kla_eval hdef ?_
  have bP : s.heap.BuiltinsAt X.mg P := TB.bm.keeps I.bk
  have hP' : s.heap.get? P = some { cls := .none, data := .fields ps } := I.hok P _ hP
  cases hc : codeAmong pos ps.toList with
  | none =>
    refine PySem.W.kla_makeFunction (mg := X.mg) (c := c) (P := P) (ps := ps) (closure_ok hfree) I.ok.glob (I.mod.glob.keeps I.bk) hcode (TB.code.keeps I.bk) hP' ht hc TB.gP bP fun c' ctv h' tk hx hge hlt hrec htb => ?_
    obtain ⟨c2, oc, vs, t, e2, hoc, hd, hv⟩ := hrec
    cases e2
    have nC : H c' = none := I.hok.fresh hge
    have I1 := inv_table (t' := tk) (more := #[rawInt pos.line, rawInt pos.col, .ref c']) (h' := h') I hP (fun b o hb e => hx b o hb e) htb hge ⟨oc, vs, t, hoc, hd, hv⟩
    have hE : ExtN H (upd (upd H P (.tbl (ps ++ #[rawInt pos.line, rawInt pos.col, .ref c']))) c' (CodeO c' (X.env.qual ++ "<lambda>"))) := fun b o e n => by
      rw [upd_ne (ne_of_none e nC), upd_ne (fun z => n ps (Option.some.inj (e.symm.trans (by rw [z]; exact hP))))]
      exact e
    have eL : (ps ++ #[rawInt pos.line, rawInt pos.col, .ref c']).toList = ps.toList ++ [rawInt pos.line, rawInt pos.col, .ref c'] := by simp
    have T1 : TabsN T (upd (upd H P (.tbl (ps ++ #[rawInt pos.line, rawInt pos.col, .ref c']))) c' (CodeO c' (X.env.qual ++ "<lambda>"))) := fun p hp => by
      by_cases hb : p.1 = P
      · rw [hu p hp hb, hb]
        refine ⟨_, by rw [upd_ne (ne_of_none hP nC), upd_same], by rw [eL]; exact PySem.TriplesOk_snoc _ _ _ _ ht, fun p' cv hcv => ?_⟩
        rw [eL] at hcv
        rcases among_app2 _ ht hcv with z | ⟨z, z1, z2⟩
        · obtain ⟨c0, e1, e2⟩ := ha p' cv z
          exact ⟨c0, e1, hE _ _ e2 codeO_ne⟩
        · refine ⟨c', z, ?_⟩
          rw [← z1, ← z2, hn]
          exact upd_same
      · obtain ⟨ps', a1, a2, a3⟩ := hT p hp
        refine ⟨ps', by rw [upd_ne (ne_of_none a1 nC), upd_ne hb]; exact a1, a2, fun p' cv hcv => ?_⟩
        obtain ⟨c0, e1, e2⟩ := a3 p' cv hcv
        exact ⟨c0, e1, hE _ _ e2 codeO_ne⟩
    have nF := I1.hok.fresh (Nat.le_refl _)
    have I2 := inv_fnL (F := ⟨X.env.qual ++ "<lambda>", params, body, scope, cloFrom X.env.cells scope.names [], c'⟩) (t' := tk) (pm := (X.mg "__name__").getD .none) (ctv := ctv) I1 rfl
    refine h h'.objs.size c' _ _ I2 (fun b o e n => ?_) (fun b e => upd_none (upd_none (upd_none e))) (T1.ext fun b o e => ?_) (I.hok.fresh (Nat.le_trans hge (Nat.le_of_lt hlt))) upd_same ?_
    · have e1 := hE b o e n
      exact (upd_ne (ne_of_none e1 nF)).trans e1
    · exact (upd_ne (ne_of_none e nF)).trans e
    · exact (upd_ne (Nat.ne_of_lt hlt)).trans upd_same
  | some cv =>
    obtain ⟨c', e, hco⟩ := ha pos cv hc
    subst e
    rw [hn] at hco
    refine PySem.W.kla_makeFunctionHit (mg := X.mg) (c := c) (P := P) (ps := ps) (closure_ok hfree) I.ok.glob (I.mod.glob.keeps I.bk) hcode (TB.code.keeps I.bk) hP' ht hc bP fun ctv h' tk hx hsz => ?_
    have I1 : Inv X pins σ H { s with heap := h', toks := tk } := I.kept hx
    have nF : H h'.objs.size = none := I1.hok.fresh (Nat.le_refl _)
    have I2 := inv_fnL (F := ⟨X.env.qual ++ "<lambda>", params, body, scope, cloFrom X.env.cells scope.names [], c'⟩) (t' := tk) (pm := (X.mg "__name__").getD .none) (ctv := ctv) I1 rfl
    refine h h'.objs.size c' _ _ I2 (fun b o e n => ?_) (fun b e => upd_none e) (hT.ext fun b o e => ?_) nF upd_same ?_
    · exact (upd_ne (ne_of_none e nF)).trans e
    · exact (upd_ne (ne_of_none e nF)).trans e
    · exact (upd_ne (ne_of_none hco nF)).trans hco
end
abbrev LF.nf (F : LF) : NF := ⟨"<lambda>", F.qual, F.params, [], F.scope, F.cl, F.c⟩
section
variable {P : Program} {w : World} {K : PySem.W.Frag} {mg : Str → Option Value} {base : Heap} {T : List NTab} {α : Type}
theorem lam_nexts {N : NK P w K α} {J : Hp → V → Prop} {nx : α → Nat → List α} {sgs : List Nat} {g : Addr} {F : LF} {H0 : Hp} {tv : V} {Nn : List Str} (Sc : NScopeG Nn ["here", "sign"] ["table"] F.scope)
    (hb : ∀ (pm ctv : Value) (us : List Value), us.length = 2 → bindArgs (PySem.W.kla_fn "<lambda>" F.qual F.params F.body F.scope F.cl pm (.ref F.c) ctv) ⟨us, []⟩ = pure ((["here", "sign"] : List Str).zip us))
    (hbody : ∀ (A : Around) (outer : List Env) (s : Shared) (H : Hp) (x : V) (a : α) (c : Nat) (Q : VK), Room 0 (A.deeper (envG F.nf g s.heap.objs.size)) → Kp T [] H0 H → J H tv → N.v H x a → c ∈ sgs →
      (∀ H' p xs, Kp T [] H H' → ((∃ o, H0 p = some o) ∨ H p = none) → H' p = some (.lst xs) → Paired (N.v H') xs (nx a c) → Q (.ref p) H') → ∃ te, PE (ncg CX0 P w K mg base Nn F.nf g A outer s H E0) F.body te ∧ te (startF Nn [x, sg c] [some tv]) H Q)
    (hJ : ∀ H, Kp T [] H0 H → J H tv) (hg : H0 g = some (FnL g F)) (hc : H0 F.c = some (CodeO F.c F.qual)) :
    Nexts P w K mg base T 1 N nx sgs g H0 (fun h H => CellsAt F.cl ["table"] [some tv] h H) where
  stay := fun _ u C => cells_un u C
  fn := fun {s H} hok k _ => by
    have e := k.get hg (fun ps => fnL_ne ps)
    obtain ⟨⟨od, sl, pm, ctv, ho⟩, _, _⟩ := hok g _ e
    exact ⟨_, od, _, sl, ho⟩
  run := fun A outer s H us x a c Q hr e0 C k hv hcs r q => by
    have lim : s.heap.NoLimit := e0.mod.nolimit.keeps fun b o e => (e0.bs b o e).1
    obtain ⟨⟨od, sl, pm, ctv, ho⟩, _, _⟩ := e0.hok g _ (k.get hg (fun ps => fnL_ne ps))
    refine PySem.W.kla_callFunE hr.depth ho rfl Sc.co Sc.gen rfl (codeO_at e0.hok (k.get hc (fun ps => codeO_ne ps))) ?_
    rw [hb pm ctv us r.length.symm]
    refine wpAny_pure (newEnvG Sc.kind (fun ⟨n, _⟩ hy => Sc.par n (List.of_mem_zip hy).1) (fun h₁ tk hns hsb => ?_))
    have kp : ∀ b o, s.heap.get? b = some o → h₁.get? b = some o := fun b o e => hsb.extBut b o (Nat.ne_of_lt (Heap.lt_size e)) (pushCells_keeps _ _ b o (Heap.get?_push_of_some _ e))
    refine ⟨lim.keeps kp, ?_⟩
    show codeAny _ _ (.expr F.body (envG F.nf g s.heap.objs.size)) _ _
    obtain ⟨te, ht, hq⟩ := hbody A outer s H x a c Q (hr.deeper _) k (hJ H k) hv hcs q
    have I : Inv (ncg CX0 P w K mg base Nn F.nf g A outer s H E0) [] (startF Nn [x, sg c] [some tv]) H { s with heap := h₁, toks := tk } := inv_startG (F := F.nf) Sc hr.hd e0 rfl r C hns hsb
    refine PySem.W.kla_codeExpr (wpAny_mono (ht.run [] _ _ H Q I hq) (fun v s' hq' => ?_) fun e s' hq' => hq')
    obtain ⟨w', H', J', rv, q'⟩ := hq'
    exact ⟨w', H', J'.os, J'.bare, J'.base, J'.hok, rv, q'⟩
end
section
variable {X : Cx} {α : Type} {T : List NTab}
/-- a lambda is made -/
def tLamF (T : List NTab) (mk : Addr → LF) : TE := fun _ H Q => TabsN T H ∧ ∀ (f c' : Addr) (H1 : Hp), ExtN H H1 → (∀ b, H1 b = Option.none → H b = Option.none) → TabsN T H1 → H f = none → H1 f = some (FnL f (mk c')) → H1 (mk c').c = some (CodeO (mk c').c (mk c').qual) → Q (.ref f) H1
theorem pe_lam {nm : Nat → Nat → Str} {c P : Addr} {params : Arguments} {body : Expr} {scope : Scope} {lpos : Pos} (TB : TabB X.base X.mg c P) (hcode : X.env.code = .ref c) (hm : (P, nm) ∈ T) (hn : nm lpos.line lpos.col = X.env.qual ++ "<lambda>") (hu : ∀ p ∈ T, p.1 = P → p.2 = nm) (hdef : defaultsOf params X.env = ([], []))
    (hfr : ∀ y ∈ scope.names, y.2 = .free → X.env.scope.names.lookup y.1 = some .cell ∨ X.env.scope.names.lookup y.1 = some .free) : PE X (.Lambda params body scope lpos) (tLamF T fun c' => ⟨X.env.qual ++ "<lambda>", params, body, scope, cloFrom X.env.cells scope.names [], c'⟩) := by
  refine ⟨fun pins s σ H Q I h => ?_⟩
  obtain ⟨hT, h⟩ := h
  refine lam_makeM I TB hcode hm hn hu hT hdef (fun y hy e => (hfr y hy e).elim (fun z => I.ok.has _ (.inl z)) fun z => I.ok.has _ (.inr z)) fun f c' H1 s' I1 eN bk T1 f0 f1 c1 => ?_
  exact ⟨.ref f, H1, I1, rfl, h f c' H1 eN bk T1 f0 f1 c1⟩
/-- first_text(signs, start, goal, lambda ..) -/
def tFtL (N : NK X.prog X.w X.K α) (nx : α → Nat → List α) (J : Hp → V → Prop) (T : List NTab) (mk : Addr → LF) (it : Nat) (t : TA) : TE := fun σ H Q => t σ H fun vs H1 => ∃ (sgs : List Nat) (sl g c' : Addr) (tv xa xb : V) (a b : α) (U : List α),
  vs = [.ref sl, xa, xb, .ref g] ∧ σ[it]? = some (some tv) ∧ H1 g = some (FnL g (mk c')) ∧ H1 (mk c').c = some (CodeO (mk c').c (mk c').qual) ∧ (∀ H, Kp T [] H1 H → J H tv) ∧ H1 sl = some (.lst (sgs.map sg)) ∧ N.v H1 xa a ∧ N.v H1 xb b ∧
  (∀ x c y, y ∈ nx x c → y ∈ U) ∧ U.length ≤ 2000 ∧ ∀ H' v, Kp T [] H1 H' → Told nx sgs a b U.length v → Q v H'
theorem pe_ftL {j it : Nat} {N : NK X.prog X.w X.K α} {nx : α → Nat → List α} {J : Hp → V → Prop} {mk : Addr → LF} {cl : List (Str × Addr)} {t : TA} {e : Expr} {es : List Expr} {p pos : Pos}
    (FT : FtOk X.prog X.w X.K X.mg X.base T) (O : ∀ sgs g c' H0 tv, (∀ H, Kp T [] H0 H → J H tv) → H0 g = some (FnL g (mk c')) → H0 (mk c').c = some (CodeO (mk c').c (mk c').qual) → Nexts X.prog X.w X.K X.mg X.base T 1 N nx sgs g H0 (fun h H => CellsAt (mk c').cl ["table"] [some tv] h H))
    (hcl : ∀ c', (mk c').cl = cl) (cp : X.Ok → Caps X cl ["table"] [it])
    (hr : Room j X.A) (hk : 2 ≤ j) (hg : Gl X "first_text") (ha : PA X (e :: es) t) (hdb : (("first_text" : Str) == ("__debug__" : Str)) = false := by decide)
    (he : starEach (e :: es) X.env = (false, eval e X.env) :: starEach es X.env := by rfl) (hpl : (backTo pos (starEach es X.env)).any (·.1) = false := by rfl) :
    PE X (.Call (.Name "first_text" p) (e :: es) [] pos) (tFtL N nx J T mk it t) := by
  refine ⟨fun pins s σ H Q I h => ?_⟩
  obtain ⟨fa, fd, hm, hkp, hb, run⟩ := FT.ex
  refine wpAny_Call_Name_kw (ld_glob I hg hm ?_ hdb)
  refine PySem.W.callWith_K (h₀ := X.base) I.ok.mod.kin hkp (thn (ha.run pos pins s σ H _ I h) fun us s1 ⟨vs, H1, I1, r, q⟩ => ⟨I1.kIn, ?_⟩) he hpl
  obtain ⟨sgs, sl, g, c', tv, xa, xb, a, b, U, ev, hs, hgf, hc, hJ, hsl, hva, hvb, hU, hUl, q⟩ := q
  subst ev
  have C0 := cells_of I1 (cp I1.ok)
  have ej : [it].map (slotAt σ) = [some tv] := by
    show [slotAt σ it] = _
    rw [slotAt_of hs]
  rw [ej, ← hcl c'] at C0
  have NX := O sgs g c' H1 tv hJ hgf hc
  show wpAny _ _ (call (.ref fa) us) _ _ _
  have hgs : g ∉ frs X.stack := fun z => by
    have := I1.env0.frf g z
    rw [hgf] at this
    cases this
  refine wpAny_call (codeAny_mono (run α N nx sgs U g sl X.A X.stack s1 H1 xa xb a b Q _ ⟨us, []⟩ us (hr.mono hk) I1.env0 (by have q := hb s1 us I1.kIn (by rw [List.append_nil]; exact r.length.symm); rw [List.append_nil] at q; exact q) r NX C0 hgs hsl hva hvb hU hUl q) fun r s' hq => ?_)
  cases r with
  | error e => exact (show False from hq).elim
  | ok fl =>
    cases fl with
    | ret u => exact I1.after hq
    | next => exact False.elim hq
    | brk => exact False.elim hq
    | cont => exact False.elim hq
end
end K51
/-! text_between -/
namespace K51
open PySem PySem.Spec PyProof.Rows L2 NdefX LamX
def lamIn : Stmt → Expr
  | .Return (some (.Call _ [_, _, _, l] _ _)) _ => l
  | _ => .Constant .none 0 ⟨0, 0, 0, 0⟩
abbrev l_tb : Expr := lamIn ((defBody s_text_between).getLastD s_text_between)
def lamP : Expr → Arguments
  | .Lambda p _ _ _ => p
  | _ => defArgs s_text_between
def lamB : Expr → Expr
  | .Lambda _ b _ _ => b
  | e => e
def lamS : Expr → Scope
  | .Lambda _ _ s _ => s
  | _ => defScope s_text_between
def mk_tb (cl : List (Str × Addr)) (c' : Addr) : LF := ⟨(("text_between" : Str) ++ ".<locals>.") ++ "<lambda>", lamP l_tb, lamB l_tb, lamS l_tb, cl, c'⟩
theorem sc_tb : NScopeG ["here", "sign", "table"] ["here", "sign"] ["table"] (lamS l_tb) := nscg_by (by decide +kernel)
/-- where a sign leads from a room -/
def inx (S : List Step) (q c : Nat) : List Nat := succs S (q, c)
section
variable {P : Program} {w : World} {K : PySem.W.Frag} {mg : Str → Option Value} {base : Heap} {T : List NTab}
theorem paired_map {β γ : Type} (f : β → γ) : ∀ l : List β, Paired (fun x b => x = f b) (l.map f) l
  | [] => .nil
  | a :: l => .cons rfl (paired_map f l)
/-- a word between two rooms, or none -/
def Link (S : List Step) (r o : Nat) (v : V) : Prop := (v = .non ∧ ∀ u, ¬ Pth (inx S) u r o) ∨ ∃ u, v = wd u ∧ Pth (inx S) u r o ∧ u.length ≤ 1000
def sp_signs_of (T : List NTab) : Sp := fun vs H Q _ => ∃ (m : Addr) (M : Mac), vs = [.ref m] ∧ MAt [] H m M ∧ M.Ok ∧ ∀ H' p (sgs : List Nat), Kp T [] H H' → H' p = some (.lst (sgs.map sg)) → (∀ s ∈ M.S, s.2.1 ∈ sgs) → (∀ c ∈ sgs, ∃ s ∈ M.S, s.2.1 = c) → Q (.ref p) H'
def sp_text_between (T : List NTab) : Sp := fun vs H Q _ => ∃ (m : Addr) (M : Mac) (r o : Nat), vs = [.ref m, ni r, ni o] ∧ MAt [] H m M ∧ M.Ok ∧ r < M.n ∧ o < M.n ∧ TabsN T H ∧ ∀ H' v, Kp T [] H H' → Link M.S r o v → Q v H'
theorem pth_signs {S : List Step} {sgs : List Nat} (h : ∀ s ∈ S, s.2.1 ∈ sgs) {u : List Nat} {r o : Nat} (p : Pth (inx S) u r o) : ∀ c ∈ u, c ∈ sgs := by
  induction p with
  | nil => intro c hc; cases hc
  | cons e _ ih =>
    intro c hc
    rcases List.mem_cons.mp hc with z | z
    · rw [z]
      exact h _ (mem_succs.mp e)
    · exact ih c z
theorem link_of {S : List Step} {sgs : List Nat} {r o n : Nat} {v : V} (h : ∀ s ∈ S, s.2.1 ∈ sgs) (hr : r ≠ o) (t : Told (inx S) sgs r o n v) (hn : n ≤ 1000) : Link S r o v := by
  rcases t with ⟨e, t⟩ | ⟨w, e, h0, h1, h2, h3⟩
  · refine .inl ⟨e, fun u p => ?_⟩
    by_cases hu : u = []
    · subst hu
      cases p
      exact hr rfl
    · exact t u hu (pth_signs h p) p
  · exact .inr ⟨w, e, h2, by omega⟩
theorem lam_tb {S : List Step} {sgs : List Nat} {cl : List (Str × Addr)} {g c' : Addr} {H0 : Hp} {tv : V} (hJ : ∀ H, Kp T [] H0 H → TabV S H tv) (hg : H0 g = some (FnL g (mk_tb cl c'))) (hc : H0 c' = some (CodeO c' (mk_tb cl c').qual)) :
    Nexts P w K mg base T 1 (intNK (P := P) (w := w) (K := K)) (inx S) sgs g H0 (fun h H => CellsAt (mk_tb cl c').cl ["table"] [some tv] h H) := by
  refine lam_nexts (F := mk_tb cl c') (J := TabV S) sc_tb (fun pm ctv us hl => match us, hl with | [_, _], _ => rfl) (fun A outer s H x a c Q hr k hj hv hcs q => ?_) hJ hg hc
  obtain ⟨tb, rfl, es, hE0⟩ := hJ H0 (Kp.refl H0)
  have hE := hE0.kp k
  have hv : x = ni a := hv
  subst hv
  refine ⟨_, pe_dget2 (hu_of hr) (pv 2) (pe_tup (pa_cons (pv 0) (pa_cons (pv 1) pa_nil))) (pe_lst pa_nil) ⟨by rfl, by rfl, by rfl, by rfl⟩, ?_⟩
  refine ⟨_, rfl, tb, rfl, isD_of hE, _, rfl, _, rfl, sz_ok (by simp), fun q1 hq1 => ?_⟩
  refine ⟨sz_ok (by simp), fun q2 hq2 => ?_⟩
  have k2 : Kp T [] H (upd (upd H q1 (.tup [ni a, sg c])) q2 (.lst [])) := (Kp.new hq1).snew hq2
  have eq1 : upd (upd H q1 (.tup [ni a, sg c])) q2 (.lst []) q1 = some (.tup [ni a, sg c]) := by rw [upd_ne (ne_of_none upd_same hq2), upd_same]
  have eq2 : upd (upd H q1 (.tup [ni a, sg c])) q2 (.lst []) q2 = some (.lst []) := upd_same
  have hq2n : H q2 = none := (Kp.new (T := T) (ex := []) hq1).free hq2
  have hE2 := hE.kp k2
  generalize upd (upd H q1 (.tup [ni a, sg c])) q2 (.lst []) = H2 at *
  obtain ⟨l, hl, el, hl2⟩ := tab_at hE2 (a, c) eq2
  refine ⟨_, DGet.t hE2.t (k := pk (a, c)) eq1, ?_⟩
  rw [hl]
  refine q H2 l _ k2 ?_ el ?_
  · rcases hl2 with z | ⟨e, he, z⟩
    · rw [z]
      exact .inr hq2n
    · rw [z]
      exact .inl ⟨_, hE0.l e he⟩
  · show Paired (fun x b => x = ni b) ((succs S (a, c)).map ni) (succs S (a, c))
    exact paired_map ni (succs S (a, c))
theorem ok_text_between {c Pt : Addr} (F : FnT K mg "text_between" s_text_between c) (FT : FtOk P w K mg base T) (TB : TabB base mg c Pt) (hTm : (Pt, nmc "text_between.<locals>.<lambda>") ∈ T) (hTu : ∀ p ∈ T, p.1 = Pt → p.2 = nmc "text_between.<locals>.<lambda>")
    (D_look_at : DOk P w K mg base "look_at" 5 ["thing"] [] (sp_look_at T)) (D_look_at_room : DOk P w K mg base "look_at_room" 3 ["machine", "room"] [] (sp_look_at_room T)) (D_by_signs : DOk P w K mg base "by_signs" 1 ["machine"] [] (sp_by_signs T)) (D_signs_of : DOk P w K mg base "signs_of" 1 ["machine"] [] (sp_signs_of T)) :
    DOk P w K mg base "text_between" 6 ["machine", "room", "other"] [] (sp_text_between T) := by
  refine F.dok sc_text_between b_text_between (fun vs H Q E h => ?_) (fun f A outer s H vs Q E hr h => ?_)
  · obtain ⟨m, M, r, o, rfl, _⟩ := h
    rfl
  · obtain ⟨m, M, r, o, rfl, hM, ok, hr1, ho1, hT, q⟩ := h
    refine ⟨_, (pss_cons (ps_expr (pe_d D_look_at hr (by rfl) (pa_cons (pv 0) pa_nil)))
      (pss_cons (ps_expr (pe_d D_look_at_room hr (by rfl) (pa_cons (pv 0) (pa_cons (pv 1) pa_nil))))
      (pss_cons (ps_expr (pe_d D_look_at_room hr (by rfl) (pa_cons (pv 0) (pa_cons (pv 2) pa_nil))))
      (pss_cons (ps_if (pt_cmpR op_eq (pv 1) (pv 2) (nomark _))
      (pss_one (ps_ret pe_str)) pss_nil)
      (pss_cons (ps_set (i := 3) sc_text_between.nd rfl (by first | exact .inl rfl | exact .inr rfl) (pe_d D_by_signs hr (by rfl) (pa_cons (pv 0) pa_nil)))
      (pss_one (ps_ret (pe_ftL (J := TabV M.S) (mk := mk_tb (cloFrom (cxOf CX0 P w K mg base ["machine", "room", "other", "table"] "text_between" (defScope s_text_between) f (.ref c) A outer s H E0).env.cells (lamS l_tb).names [])) FT (fun sgs g c' H0 tv hJ hg hc => lam_tb (sgs := sgs) hJ hg hc) (fun _ => rfl) (fun ok => Caps.made (js := [3]) ok (ndef_free (by decide +kernel : ndefB (defScope s_text_between) (lamS l_tb) ["table"] = true)) (ndef_fr (by decide +kernel : ndefB (defScope s_text_between) (lamS l_tb) ["table"] = true)) rfl) hr (by decide) (by rfl) (pa_cons (pe_d D_signs_of hr (by rfl) (pa_cons (pv 0) pa_nil)) (pa_cons (pv 1) (pa_cons (pv 2) (pa_cons (pe_lam TB rfl hTm rfl hTu rfl (ndef_free (by decide +kernel : ndefB (defScope s_text_between) (lamS l_tb) ["table"] = true))) pa_nil)))))))))))), ?_⟩
    refine ⟨_, rfl, m, M, rfl, hM, ok, fun H1 k1 => ?_⟩
    have hM1 := hM.kp k1
    refine ⟨_, rfl, _, rfl, m, M, r, rfl, hM1, hr1, ?_⟩
    refine ⟨_, rfl, _, rfl, m, M, o, rfl, hM1, ho1, ?_⟩
    refine ⟨_, rfl, _, rfl, rfl, ?_⟩
    by_cases e : r = o
    · subst e
      refine ⟨true, ?_, iteT ?_⟩
      · show V.bl (decide (V.int (r : Int) = V.int (r : Int))) = V.bl true
        rw [decide_eq_true rfl]
      exact q H1 _ k1 (.inr ⟨[], rfl, .nil _, Nat.zero_le _⟩)
    · refine ⟨false, ?_, iteF ?_⟩
      · show V.bl (decide (V.int (r : Int) = V.int (o : Int))) = V.bl false
        rw [decide_eq_false (fun z => e (by injection z with z; omega))]
      refine ⟨_, rfl, m, M, rfl, hM1, ok, fun H2 tb k2 ht => ?_⟩
      refine ⟨_, rfl, m, M, rfl, hM1.kp k2, ok, fun H3 p sgs k3 ep hs1 hs2 => ?_⟩
      have k13 := (k1.trans k2).trans k3
      refine ⟨_, rfl, _, rfl, k13.tab hT, fun g c' H4 eN back hT4 _ hg hc => ?_⟩
      have k4 : Kp T [] H3 H4 := ⟨fun b o e n _ => eN b o e n, back, fun _ => hT4⟩
      have hhi := ok.hi
      refine ⟨sgs, p, g, c', .ref tb, ni r, ni o, r, o, List.range M.n, rfl, rfl, hg, hc, fun H k => ⟨tb, rfl, ((ht.kp k3).kp k4).kp k⟩, k4.get ep, rfl, rfl, fun x c y hy => List.mem_range.mpr (succs_lt ok.bel hy), by rw [List.length_range]; omega, fun H' v k' hv => ?_⟩
      exact q H' v ((k13.trans k4).trans k') (link_of hs1 e hv (by rw [List.length_range]; omega))
end
end K51
/-! double_rounds -/
namespace K51
open PySem PySem.Spec PyProof.Rows L2 NdefX LamX
/-- a double round at r -/
def DblW (M : Mac) (r : Nat) (u : List Nat) : Prop := u ≠ [] ∧ Pth (dnx (trimM M).S) u (r, r, false) (r, r, true)
def LedW (M : Mac) (r o : Nat) (u : List Nat) : Prop := u ≠ [] ∧ Pth (lnx (trimM M).S) u (r, r, o) (r, o, o)
theorem pth_dsigns {S : List Step} {sgs : List Nat} (h : ∀ s ∈ S, s.2.1 ∈ sgs) {u : List Nat} {a b : NB} (p : Pth (dnx S) u a b) : ∀ c ∈ u, c ∈ sgs := by
  induction p with
  | nil => intro c hc; cases hc
  | cons e _ ih =>
    intro c hc
    rcases List.mem_cons.mp hc with z | z
    · obtain ⟨r, h1, _⟩ := List.mem_flatMap.mp e
      rw [z]
      exact h _ (mem_succs.mp h1)
    · exact ih c z
theorem pth_lsigns {S : List Step} {sgs : List Nat} (h : ∀ s ∈ S, s.2.1 ∈ sgs) {u : List Nat} {a b : N3} (p : Pth (lnx S) u a b) : ∀ c ∈ u, c ∈ sgs := by
  induction p with
  | nil => intro c hc; cases hc
  | cons e _ ih =>
    intro c hc
    rcases List.mem_cons.mp hc with z | z
    · obtain ⟨r, h1, _⟩ := List.mem_flatMap.mp e
      rw [z]
      exact h _ (mem_succs.mp h1)
    · exact ih c z
/-- what was told of a double round -/
def DblV (M : Mac) (r : Nat) (v : V) : Prop := (v = .non ∧ ∀ u, ¬ DblW M r u) ∨ ∃ u, v = wd u ∧ DblW M r u ∧ u.length ≤ 1000
def LedV (M : Mac) (r o : Nat) (v : V) : Prop := (v = .non ∧ ∀ u, ¬ LedW M r o u) ∨ ∃ u, v = wd u ∧ LedW M r o u ∧ u.length ≤ 1000
theorem trim_sub {M : Mac} {s : Step} (h : s ∈ (trimM M).S) : s ∈ M.S := (List.mem_filter.mp h).1
theorem dbl_of {M : Mac} {sgs : List Nat} {r : Nat} {v : V} (h : ∀ s ∈ M.S, s.2.1 ∈ sgs) (t : Told (dnx (trimM M).S) sgs (r, r, false) (r, r, true) 1000 v) : DblV M r v := by
  rcases t with ⟨e, t⟩ | ⟨w, e, h0, h1, h2, h3⟩
  · exact .inl ⟨e, fun u p => t u p.1 (pth_dsigns (fun s hs => h s (trim_sub hs)) p.2) p.2⟩
  · exact .inr ⟨w, e, ⟨h0, h2⟩, h3⟩
theorem led_of {M : Mac} {sgs : List Nat} {r o : Nat} {v : V} (h : ∀ s ∈ M.S, s.2.1 ∈ sgs) (t : Told (lnx (trimM M).S) sgs (r, r, o) (r, o, o) 1000 v) : LedV M r o v := by
  rcases t with ⟨e, t⟩ | ⟨w, e, h0, h1, h2, h3⟩
  · exact .inl ⟨e, fun u p => t u p.1 (pth_lsigns (fun s hs => h s (trim_sub hs)) p.2) p.2⟩
  · exact .inr ⟨w, e, ⟨h0, h2⟩, h3⟩
section
variable {P : Program} {w : World} {K : PySem.W.Frag} {mg : Str → Option Value} {base : Heap} {T : List NTab}
/-- the double rounds -/
def DrsAt (H : Hp) (ts : List Addr) (L : List (Nat × List Nat)) : Prop := Paired (fun t z => H t = some (.tup [ni z.1, wd z.2])) ts L
structure Drs (M : Mac) (L : List (Nat × List Nat)) : Prop where
  all : ∀ z ∈ L, z.1 ∈ usf M ∧ DblW M z.1 z.2 ∧ z.2.length ≤ 1000
  none : L = [] → ∀ r ∈ usf M, ∀ u, ¬ DblW M r u
def sp_double_rounds (T : List NTab) : Sp := fun vs H Q _ => ∃ (m : Addr) (M : Mac), vs = [.ref m] ∧ MAt [] H m M ∧ M.Ok ∧ M.n ≤ 5 ∧ TabsN T H ∧ ∀ H' p ts L, Kp T [] H H' → H' p = some (.lst (ts.map V.ref)) → DrsAt H' ts L → Drs M L → Q (.ref p) H'
theorem paired_off {β : Type} {f : β → List V} {H : Hp} {p : Addr} {o : HO} {ts : List Addr} {L : List β} (h : Paired (fun t z => H t = some (.tup (f z))) ts L) (e : H p = none) : Paired (fun t z => upd H p o t = some (.tup (f z))) ts L := Paired.mapP h fun t s q => by
  rw [upd_ne (ne_of_none q e)]
  exact q
theorem paired_set {β : Type} {f : β → List V} {H : Hp} {p : Addr} {o : HO} {xs : List V} {ts : List Addr} {L : List β} (h : Paired (fun t z => H t = some (.tup (f z))) ts L) (e : H p = some (.lst xs)) : Paired (fun t z => upd H p o t = some (.tup (f z))) ts L := Paired.mapP h fun t s q => by
  rw [upd_ne (fun z => by rw [z, e] at q; cases q)]
  exact q
theorem paired_kp {β : Type} {f : β → List V} {H H' : Hp} {ts : List Addr} {L : List β} (h : Paired (fun t z => H t = some (.tup (f z))) ts L) (k : Kp T [] H H') : Paired (fun t z => H' t = some (.tup (f z))) ts L := Paired.mapP h fun t s q => k.get q
theorem ok_double_rounds (F : Fn K mg "double_rounds" s_double_rounds) (Tx : Txt mg) (D_useful : DOk P w K mg base "useful" 6 ["machine"] [] (sp_useful T)) (D_trimmed : DOk P w K mg base "trimmed" 7 ["machine"] [] (sp_trimmed T))
    (D_by_signs : DOk P w K mg base "by_signs" 1 ["machine"] [] (sp_by_signs T)) (D_signs_of : DOk P w K mg base "signs_of" 1 ["machine"] [] (sp_signs_of T)) (D_double_text : DOk P w K mg base "double_text" 3 ["table", "signs", "room"] [] (sp_double_text T)) :
    DOk P w K mg base "double_rounds" 8 ["machine"] [] (sp_double_rounds T) := by
  refine F.dok sc_double_rounds b_double_rounds (fun vs H Q E h => ?_) (fun f cdv A outer s H vs Q E hr h => ?_)
  · obtain ⟨m, M, rfl, _⟩ := h
    rfl
  · obtain ⟨m, M, rfl, hM, ok, hn5, hT, q⟩ := h
    have okt := trimM_ok ok
    have hul := usf_len M
    refine ⟨_, (pss_cons (ps_set (i := 1) sc_double_rounds.nd rfl (by first | exact .inl rfl | exact .inr rfl) (pe_d D_useful hr (by rfl) (pa_cons (pv 0) pa_nil)))
      (pss_cons (ps_set (i := 2) sc_double_rounds.nd rfl (by first | exact .inl rfl | exact .inr rfl) (pe_d D_by_signs hr (by rfl) (pa_cons (pe_d D_trimmed hr (by rfl) (pa_cons (pv 0) pa_nil)) pa_nil)))
      (pss_cons (ps_setLc (i := 3) (own := [("room", 4)]) (g := gName 4) (tt := tYes) (by rfl) sc_double_rounds.nd rfl rfl (sw_true rfl rfl rfl (by decide +kernel)) (pi_list (pv 1)) (blkOk_by (N := ["machine", "rooms", "table", "found", "room", "text"]) (sc := (defScope s_double_rounds)) (own := [("room", 4)]) (by decide +kernel)) (fun _ _ _ _ _ => (pg_name (i := 4) sc_double_rounds.nd rfl (by first | exact .inl rfl | exact .inr rfl))) (fun _ _ _ _ _ => pts_nil) (fun _ _ _ _ _ => (pe_tup (pa_cons (pv 4) (pa_cons (pe_d D_double_text hr (by rfl) (pa_cons (pv 2) (pa_cons (pe_d D_signs_of hr (by rfl) (pa_cons (pv 0) pa_nil)) (pa_cons (pv 4) pa_nil)))) pa_nil)))))
      (pss_one (ps_ret (pe_lc (own := [("room", 4), ("text", 5)]) (g := gTup K 2 (gCons (gName 4) (gCons (gName 5) gNil))) (by rfl) sc_double_rounds.nd (pi_list (pv 3)) (blkOk_by (N := ["machine", "rooms", "table", "found", "room", "text"]) (sc := (defScope s_double_rounds)) (own := [("room", 4), ("text", 5)]) (by decide +kernel)) (fun _ _ _ _ _ => (pg_tup rfl (pgs_cons (pg_name (i := 4) sc_double_rounds.nd rfl (by first | exact .inl rfl | exact .inr rfl)) (pgs_cons (pg_name (i := 5) sc_double_rounds.nd rfl (by first | exact .inl rfl | exact .inr rfl)) pgs_nil)))) (fun _ _ _ _ _ => (pts_one (pt_cmpR op_notN (pv 5) pe_non (nomark _)))) (fun _ _ _ _ _ => (pe_tup (pa_cons (pv 4) (pa_cons (pv 5) pa_nil)))))))))), ?_⟩
    refine ⟨_, rfl, m, M, rfl, hM, ok, fun H1 ru k1 nru eru => ?_⟩
    refine ⟨_, rfl, m, M, rfl, hM.kp k1, ok, fun H2 mt k2 hMt => ?_⟩
    refine ⟨mt, trimM M, rfl, hMt, okt, fun H3 tb k3 ht => ?_⟩
    have k13 := (k1.trans k2).trans k3
    have eru3 := (k2.trans k3).get eru
    have hT3 := k13.tab hT
    refine ⟨_, rfl, ru, rfl, ⟨_, SqL.of eru3⟩, fun D hD => ?_⟩
    refine lc_it (walk_list (xs := (usf M).map ni)) (fun i H4 => ∃ (ts : List Addr) (L : List (Nat × V)), Kp T [] H3 H4 ∧ H4 D = some (.lst (ts.map V.ref)) ∧ Paired (fun t z => H4 t = some (.tup [ni z.1, z.2])) ts L ∧ L.map Prod.fst = (usf M).take i ∧ ∀ z ∈ L, DblV M z.1 z.2) ⟨[], [], Kp.new hD, upd_same, .nil, rfl, fun _ h => nomatch h⟩ (fun i H4 _ h4 => by obtain ⟨_, _, k, _⟩ := h4; exact SqL.of (k.get eru3)) (fun i x H4 H5 hi h4 y => ?_) (fun H4 h4 => ?_)
    · obtain ⟨ts, L, k4, eD, hp, hl, hz⟩ := h4
      obtain ⟨rfl, e2⟩ := y
      obtain ⟨r, er, rfl⟩ := map_get e2
      have hlen := Paired.length hp
      have hlL : L.length ≤ 5 := by
        have := congrArg List.length hl
        rw [List.length_map, List.length_take] at this
        omega
      have k14 := k13.trans k4
      refine ⟨rfl, ?_⟩
      refine ⟨_, rfl, _, rfl, _, rfl, m, M, rfl, hM.kp k14, ok, fun H6 sl sgs k6 esl hs1 hs2 => ?_⟩
      have k36 := k4.trans k6
      refine ⟨_, rfl, tb, sl, r, (trimM M).S, sgs, M.n, rfl, okt.few, okt.bel, hn5, k36.tab hT3, ht.kp k36, esl, fun H7 v k7 hv => ?_⟩
      refine ⟨sz_ok (by simp), fun p hp7 => ?_⟩
      have k67 := k6.trans k7
      have eD7 : upd H7 p (.tup [ni r, v]) D = some (.lst (ts.map V.ref)) := by rw [upd_ne (ne_of_none (k67.get eD) hp7)]; exact k67.get eD
      refine ⟨_, eD7, by rw [List.length_map]; exact sz_lt (by omega), ts ++ [p], L ++ [(r, v)], ((k4.trans k67).snew hp7).mut (.inl hD) eD7, by rw [upd_same, List.map_append]; rfl, Paired.snoc (paired_set (f := fun z : Nat × V => [ni z.1, z.2]) (paired_off (f := fun z : Nat × V => [ni z.1, z.2]) (paired_kp (f := fun z : Nat × V => [ni z.1, z.2]) hp k67) hp7) eD7) (by rw [upd_ne (ne_of_none (k67.get eD) hp7).symm, upd_same]), by rw [List.map_append, hl, List.take_add_one, er]; rfl, fun z hz' => ?_⟩
      rcases List.mem_append.mp hz' with h | h
      · exact hz z h
      · rw [List.mem_singleton.mp h]
        exact dbl_of hs1 hv
    · obtain ⟨ts, L, k4, eD, hp, hl, hz⟩ := h4
      rw [List.take_of_length_le (by rw [List.length_map]; exact Nat.le_refl _)] at hl
      have hlen := Paired.length hp
      have hlL : L.length ≤ 5 := by
        have := congrArg List.length hl
        rw [List.length_map] at this
        omega
      refine ⟨_, rfl, D, rfl, ⟨_, SqL.of eD⟩, fun D2 hD2 => ?_⟩
      have k14 := k13.trans k4
      refine lc_it (walk_list (xs := ts.map V.ref)) (fun i H5 => ∃ (us : List Addr) (L2 : List (Nat × List Nat)), Kp T [] H4 H5 ∧ H5 D2 = some (.lst (us.map V.ref)) ∧ DrsAt H5 us L2 ∧ L2.length ≤ i ∧ (∀ z ∈ L2, z.1 ∈ usf M ∧ DblW M z.1 z.2 ∧ z.2.length ≤ 1000) ∧ (L2 = [] → ∀ z ∈ L.take i, ∀ u, ¬ DblW M z.1 u)) ⟨[], [], Kp.new hD2, upd_same, .nil, Nat.le_refl _, (fun _ h => nomatch h), fun _ _ h => nomatch h⟩ (fun i H5 _ h5 => by obtain ⟨_, _, k, _⟩ := h5; exact SqL.of (k.get eD)) (fun i x H5 H6 hi h5 y => ?_) (fun H5 h5 => ?_)
      · obtain ⟨us, L2, k5, eD2, hp2, hl2, hall, hnone⟩ := h5
        obtain ⟨rfl, e2⟩ := y
        obtain ⟨t, z, rfl, et, ez, hte⟩ := paired_get hp e2
        obtain ⟨r, v⟩ := z
        have hzv := hz _ (List.mem_of_getElem? ez)
        have hru : r ∈ usf M := by
          rw [← hl]
          exact List.mem_map.mpr ⟨_, List.mem_of_getElem? ez, rfl⟩
        have hti : L.take (i + 1) = L.take i ++ [(r, v)] := by rw [List.take_add_one, ez]; rfl
        have hpl2 := Paired.length hp2
        have hi5 : i < 5 := by rw [List.length_map] at hi; omega
        refine ⟨t, _, rfl, SqT.of (k5.get hte), rfl, _, _, rfl, _, _, rfl, rfl, rfl, ?_⟩
        refine ⟨_, rfl, rfl, ?_⟩
        rcases hzv with ⟨rfl, hno⟩ | ⟨u, rfl, hu, hul⟩
        · refine ⟨false, rfl, iteF ⟨us, L2, k5, eD2, hp2, by omega, hall, fun h0 z hz' u => ?_⟩⟩
          rw [hti] at hz'
          rcases List.mem_append.mp hz' with h | h
          · exact hnone h0 z h u
          · rw [List.mem_singleton.mp h]
            exact hno u
        · refine ⟨true, rfl, iteT ?_⟩
          refine ⟨_, rfl, _, rfl, sz_ok (by simp), fun p hp6 => ?_⟩
          have eD6 : upd H6 p (.tup [ni r, wd u]) D2 = some (.lst (us.map V.ref)) := by rw [upd_ne (ne_of_none eD2 hp6)]; exact eD2
          refine ⟨_, eD6, by rw [List.length_map]; exact sz_lt (by omega), us ++ [p], L2 ++ [(r, u)], (k5.snew hp6).mut (.inl hD2) eD6, by rw [upd_same, List.map_append]; rfl, Paired.snoc (paired_set (f := fun z : Nat × List Nat => [ni z.1, wd z.2]) (paired_off (f := fun z : Nat × List Nat => [ni z.1, wd z.2]) hp2 hp6) eD6) (by rw [upd_ne (ne_of_none eD2 hp6).symm, upd_same]), by rw [List.length_append]; show _ + 1 ≤ _; omega, fun z hz' => ?_, fun h0 => by simp at h0⟩
          rcases List.mem_append.mp hz' with h | h
          · exact hall z h
          · rw [List.mem_singleton.mp h]
            exact ⟨hru, hu, hul⟩
      · obtain ⟨us, L2, k5, eD2, hp2, hl2, hall, hnone⟩ := h5
        rw [List.take_of_length_le (by rw [List.length_map, hlen]; exact Nat.le_refl _)] at hnone
        refine q H5 D2 us L2 (k14.trans k5) eD2 hp2 ⟨hall, fun h0 r hr u => ?_⟩
        rw [← hl] at hr
        obtain ⟨z, hz1, e⟩ := List.mem_map.mp hr
        rw [← e]
        exact hnone h0 z hz1 u
end
end K51
/-! led_rounds -/
namespace K51
open PySem PySem.Spec PyProof.Rows L2 NdefX LamX
abbrev Tri := Nat × Nat × List Nat
abbrev triV (z : Tri) : List V := [ni z.1, ni z.2.1, wd z.2.2]
def LdsAt (H : Hp) (ts : List Addr) (L : List Tri) : Prop := Paired (fun t z => H t = some (.tup (triV z))) ts L
structure Led1 (M : Mac) (z : Tri) : Prop where
  a : z.1 ∈ usf M
  b : z.2.1 ∈ usf M
  ne : z.1 ≠ z.2.1
  w : LedW M z.1 z.2.1 z.2.2
  l : z.2.2.length ≤ 1000
structure Lds (M : Mac) (L : List Tri) : Prop where
  all : ∀ z ∈ L, Led1 M z
  has : ∀ r ∈ usf M, ∀ o ∈ usf M, r ≠ o → ∀ u, LedW M r o u → ∃ z ∈ L, z.1 = r ∧ z.2.1 = o
  few : L.length ≤ 25
section
variable {P : Program} {w : World} {K : PySem.W.Frag} {mg : Str → Option Value} {base : Heap} {T : List NTab}
def sp_led_rounds (T : List NTab) : Sp := fun vs H Q _ => ∃ (m : Addr) (M : Mac), vs = [.ref m] ∧ MAt [] H m M ∧ M.Ok ∧ M.n ≤ 5 ∧ TabsN T H ∧ ∀ H' p ts L, Kp T [] H H' → H p = none → H' p = some (.lst (ts.map V.ref)) → LdsAt H' ts L → Lds M L → Q (.ref p) H'
theorem ok_led_rounds (F : Fn K mg "led_rounds" s_led_rounds) (Tx : Txt mg) (D_useful : DOk P w K mg base "useful" 6 ["machine"] [] (sp_useful T)) (D_trimmed : DOk P w K mg base "trimmed" 7 ["machine"] [] (sp_trimmed T))
    (D_by_signs : DOk P w K mg base "by_signs" 1 ["machine"] [] (sp_by_signs T)) (D_signs_of : DOk P w K mg base "signs_of" 1 ["machine"] [] (sp_signs_of T)) (D_led_text : DOk P w K mg base "led_text" 3 ["table", "signs", "room", "other"] [] (sp_led_text T)) :
    DOk P w K mg base "led_rounds" 8 ["machine"] [] (sp_led_rounds T) := by
  refine F.dok sc_led_rounds b_led_rounds (fun vs H Q E h => ?_) (fun f cdv A outer s H vs Q E hr h => ?_)
  · obtain ⟨m, M, rfl, _⟩ := h
    rfl
  · obtain ⟨m, M, rfl, hM, ok, hn5, hT, q⟩ := h
    have okt := trimM_ok ok
    have hul := usf_len M
    refine ⟨_, (pss_cons (ps_set (i := 1) sc_led_rounds.nd rfl (by first | exact .inl rfl | exact .inr rfl) (pe_d D_useful hr (by rfl) (pa_cons (pv 0) pa_nil)))
      (pss_cons (ps_set (i := 2) sc_led_rounds.nd rfl (by first | exact .inl rfl | exact .inr rfl) (pe_d D_by_signs hr (by rfl) (pa_cons (pe_d D_trimmed hr (by rfl) (pa_cons (pv 0) pa_nil)) pa_nil)))
      (pss_cons (ps_set (i := 3) sc_led_rounds.nd rfl (by first | exact .inl rfl | exact .inr rfl) (pe_d D_signs_of hr (by rfl) (pa_cons (pv 0) pa_nil)))
      (pss_cons (ps_set (i := 4) sc_led_rounds.nd rfl (by first | exact .inl rfl | exact .inr rfl) (pe_lst pa_nil))
      (pss_cons (ps_for PassesOwn.never rfl (pi_list (pv 1)) (pg_name (i := 5) sc_led_rounds.nd rfl (by first | exact .inl rfl | exact .inr rfl))
      (pss_one (ps_for PassesOwn.never rfl (pi_list (pv 1)) (pg_name (i := 6) sc_led_rounds.nd rfl (by first | exact .inl rfl | exact .inr rfl))
      (pss_cons (ps_set (i := 7) sc_led_rounds.nd rfl (by first | exact .inl rfl | exact .inr rfl) pe_non)
      (pss_cons (ps_if (pt_cmpR op_ne (pv 5) (pv 6) (nomark _))
      (pss_one (ps_set (i := 7) sc_led_rounds.nd rfl (by first | exact .inl rfl | exact .inr rfl) (pe_d D_led_text hr (by rfl) (pa_cons (pv 2) (pa_cons (pv 3) (pa_cons (pv 5) (pa_cons (pv 6) pa_nil))))))) pss_nil)
      (pss_one (ps_if (pt_cmpR op_notN (pv 7) pe_non (nomark _))
      (pss_one (ps_expr (pe_bm PySem.F.plainAttrs_list PySem.F.slot_list_append PySem.F.type_list_append mt_append (pv 4) (pa_cons (pe_tup (pa_cons (pv 5) (pa_cons (pv 6) (pa_cons (pv 7) pa_nil)))) pa_nil)))) pss_nil)))))))
      (pss_one (ps_ret (pv 4)))))))), ?_⟩
    refine ⟨_, rfl, m, M, rfl, hM, ok, fun H1 ru k1 nru eru => ?_⟩
    refine ⟨_, rfl, m, M, rfl, hM.kp k1, ok, fun H2 mt k2 hMt => ?_⟩
    refine ⟨mt, trimM M, rfl, hMt, okt, fun H3 tb k3 ht => ?_⟩
    have k13 := (k1.trans k2).trans k3
    refine ⟨_, rfl, m, M, rfl, hM.kp k13, ok, fun H4 sl sgs k4 esl hs1 hs2 => ?_⟩
    refine ⟨sz_ok (by simp), fun fo hfo => ?_⟩
    have k5 : Kp T [] H4 (upd H4 fo (.lst [])) := Kp.new hfo
    have k15 := (k13.trans k4).trans k5
    have eru4 := ((k2.trans k3).trans k4).get eru
    have ht4 := ht.kp k4
    have hT4 := (k13.trans k4).tab hT
    have nfo : H fo = none := (k13.trans k4).free hfo
    have efo5 : upd H4 fo (.lst []) fo = some (.lst []) := upd_same
    generalize upd H4 fo (.lst []) = H5 at *
    refine ⟨_, rfl, ru, rfl, ⟨_, SqL.of (k5.get eru4)⟩, ?_⟩
    refine for_it (walk_list (xs := (usf M).map ni)) (fun i σ H6 => ∃ (ts : List Addr) (L : List Tri) (y5 y6 y7 : Option V), σ = [some (.ref m), some (.ref ru), some (.ref tb), some (.ref sl), some (.ref fo), y5, y6, y7] ∧ Kp T [] H H6 ∧ Kp T [] H4 H6 ∧ H6 fo = some (.lst (ts.map V.ref)) ∧ LdsAt H6 ts L ∧ L.length ≤ i * 5 ∧ (∀ z ∈ L, Led1 M z) ∧ (∀ r ∈ (usf M).take i, ∀ o ∈ usf M, r ≠ o → ∀ u, LedW M r o u → ∃ z ∈ L, z.1 = r ∧ z.2.1 = o)) ⟨[], [], _, _, _, rfl, k15, k5, efo5, .nil, Nat.zero_le _, (fun _ h => nomatch h), fun _ h => nomatch h⟩ (fun i σ H6 _ h6 => ?_) (fun i x σ H6 H7 hi h6 y => ?_) (fun σ H6 h6 => ?_)
    · obtain ⟨_, _, _, _, _, _, _, k, _⟩ := h6
      exact SqL.of (k.get eru4)
    · obtain ⟨ts, L, y5, y6, y7, rfl, k6, k56, efo, hp, hl, hall, hhas⟩ := h6
      obtain ⟨rfl, e2⟩ := y
      obtain ⟨r, er, rfl⟩ := map_get e2
      have hru : r ∈ usf M := List.mem_of_getElem? er
      have hi5 : i < 5 := by rw [List.length_map] at hi; omega
      refine ⟨_, rfl, ru, rfl, ⟨_, SqL.of (k56.get eru4)⟩, ?_⟩
      refine for_it (walk_list (xs := (usf M).map ni)) (fun j σ H8 => ∃ (ts : List Addr) (L : List Tri) (y6 y7 : Option V), σ = [some (.ref m), some (.ref ru), some (.ref tb), some (.ref sl), some (.ref fo), some (ni r), y6, y7] ∧ Kp T [] H H8 ∧ Kp T [] H4 H8 ∧ H8 fo = some (.lst (ts.map V.ref)) ∧ LdsAt H8 ts L ∧ L.length ≤ i * 5 + j ∧ (∀ z ∈ L, Led1 M z) ∧ (∀ r ∈ (usf M).take i, ∀ o ∈ usf M, r ≠ o → ∀ u, LedW M r o u → ∃ z ∈ L, z.1 = r ∧ z.2.1 = o) ∧ (∀ o ∈ (usf M).take j, r ≠ o → ∀ u, LedW M r o u → ∃ z ∈ L, z.1 = r ∧ z.2.1 = o)) ⟨ts, L, _, _, rfl, k6, k56, efo, hp, hl, hall, hhas, fun _ h => nomatch h⟩ (fun j σ H8 _ h8 => ?_) (fun j x σ H8 H9 hj h8 y => ?_) (fun σ H8 h8 => ?_)
      · obtain ⟨_, _, _, _, _, _, k, _⟩ := h8
        exact SqL.of (k.get eru4)
      · obtain ⟨ts, L, y6, y7, rfl, k8, k58, efo, hp, hl, hall, hhas, hhas2⟩ := h8
        obtain ⟨rfl, e3⟩ := y
        obtain ⟨o, eo, rfl⟩ := map_get e3
        have hou : o ∈ usf M := List.mem_of_getElem? eo
        have hj5 : j < 5 := by rw [List.length_map] at hj; omega
        refine ⟨_, rfl, _, rfl, rfl, ?_⟩
        refine ⟨decide (r ≠ o), ?_, ?_⟩
        · show V.bl (!decide (V.int (r : Int) = V.int (o : Int))) = _
          by_cases e : r = o
          · rw [decide_eq_true (show V.int (r : Int) = V.int (o : Int) by rw [e]), decide_eq_false (fun z => z e)]
            rfl
          · rw [decide_eq_false (show ¬ V.int (r : Int) = V.int (o : Int) from fun z => e (by injection z with z; omega)), decide_eq_true e]
            rfl
        refine ifs_join (fun σ' H' => ∃ v : V, σ' = [some (.ref m), some (.ref ru), some (.ref tb), some (.ref sl), some (.ref fo), some (ni r), some (ni o), some v] ∧ Kp T [] H9 H' ∧ ((r = o ∧ v = .non) ∨ (r ≠ o ∧ LedV M r o v))) (fun σ' H10 h10 => ?_) (fun hb hK => ?_) (fun hb => ?_)
        · obtain ⟨v, rfl, k9, hv⟩ := h10
          have efo10 := k9.get efo
          have hp10 : LdsAt H10 ts L := paired_kp (f := triV) hp k9
          have hpl := Paired.length hp
          have tk : ∀ x ∈ (usf M).take (j + 1), x ∈ (usf M).take j ∨ x = o := fun x hx => by
            rw [List.take_add_one, eo] at hx
            rcases List.mem_append.mp hx with h | h
            · exact .inl h
            · exact .inr (List.mem_singleton.mp h)
          refine ⟨_, rfl, rfl, !decide (v = .non), rfl, ?_⟩
          have nop : v = .non → ∃ (ts' : List Addr) (L' : List Tri) (y6 y7 : Option V), [some (V.ref m), some (.ref ru), some (.ref tb), some (.ref sl), some (.ref fo), some (ni r), some (ni o), some v] = [some (.ref m), some (.ref ru), some (.ref tb), some (.ref sl), some (.ref fo), some (ni r), y6, y7] ∧ Kp T [] H H10 ∧ Kp T [] H4 H10 ∧ H10 fo = some (.lst (ts'.map V.ref)) ∧ LdsAt H10 ts' L' ∧ L'.length ≤ i * 5 + (j + 1) ∧ (∀ z ∈ L', Led1 M z) ∧ (∀ r ∈ (usf M).take i, ∀ o ∈ usf M, r ≠ o → ∀ u, LedW M r o u → ∃ z ∈ L', z.1 = r ∧ z.2.1 = o) ∧ (∀ o ∈ (usf M).take (j + 1), r ≠ o → ∀ u, LedW M r o u → ∃ z ∈ L', z.1 = r ∧ z.2.1 = o) := fun hv0 => by
            refine ⟨ts, L, _, _, rfl, k8.trans k9, k58.trans k9, efo10, hp10, by omega, hall, hhas, fun o' ho' hne u hu => ?_⟩
            rcases tk o' ho' with h | h
            · exact hhas2 o' h hne u hu
            · rw [h] at hne hu
              rcases hv with ⟨e, _⟩ | ⟨_, hv⟩
              · exact absurd e hne
              · rcases hv with ⟨_, hno⟩ | ⟨u', e', _⟩
                · exact absurd hu (hno u)
                · rw [hv0] at e'
                  cases e'
          rcases hv with ⟨e, rfl⟩ | ⟨hne, ⟨rfl, hno⟩ | ⟨u, rfl, hu, hul'⟩⟩
          · exact iteF (nop rfl)
          · exact iteF (nop rfl)
          · refine iteT ?_
            refine ⟨_, rfl, .inl ⟨rfl, _, SqL.of efo10⟩, _, rfl, _, rfl, _, rfl, sz_ok (by simp), fun p hp' => ?_⟩
            have efp : upd H10 p (.tup (triV (r, o, u))) fo = some (.lst (ts.map V.ref)) := by rw [upd_ne (ne_of_none efo10 hp')]; exact efo10
            have kp : Kp T [] H10 (upd H10 p (.tup (triV (r, o, u)))) := Kp.new hp'
            refine ⟨fo, _, _, rfl, rfl, efp, by rw [List.length_map]; exact sz_lt (by omega), ?_⟩
            refine ⟨ts ++ [p], L ++ [(r, o, u)], _, _, rfl, ((k8.trans k9).trans kp).mut (.inl nfo) efp, ((k58.trans k9).trans kp).mut (.inl hfo) efp, by rw [upd_same, List.map_append]; rfl, Paired.snoc (paired_set (f := triV) (paired_off (f := triV) hp10 hp') efp) (by rw [upd_ne (ne_of_none efo10 hp').symm, upd_same]), by rw [List.length_append]; show _ + 1 ≤ _; omega, fun z hz => ?_, fun r' hr' o' ho' hne' u' hu' => ?_, fun o' ho' hne' u' hu' => ?_⟩
            · rcases List.mem_append.mp hz with h | h
              · exact hall z h
              · rw [List.mem_singleton.mp h]
                exact ⟨hru, hou, hne, hu, hul'⟩
            · obtain ⟨z, hz, e⟩ := hhas r' hr' o' ho' hne' u' hu'
              exact ⟨z, List.mem_append_left _ hz, e⟩
            · rcases tk o' ho' with h | h
              · obtain ⟨z, hz, e⟩ := hhas2 o' h hne' u' hu'
                exact ⟨z, List.mem_append_left _ hz, e⟩
              · rw [h]
                exact ⟨_, List.mem_append_right _ List.mem_cons_self, rfl, rfl⟩
        · have hne : r ≠ o := of_decide_eq_true hb
          refine ⟨_, rfl, _, rfl, _, rfl, _, rfl, tb, sl, r, o, (trimM M).S, sgs, M.n, rfl, okt.few, okt.bel, hn5, k58.tab hT4, ht4.kp k58, k58.get esl, fun H10 v k10 hv => ?_⟩
          exact hK _ _ ⟨v, rfl, k10, .inr ⟨hne, led_of hs1 hv⟩⟩
        · have he : r = o := by
            have := of_decide_eq_false hb
            exact Classical.not_not.mp this
          exact ⟨.non, rfl, Kp.refl _, .inl ⟨he, rfl⟩⟩
      · obtain ⟨ts, L, y6, y7, rfl, k8, k58, efo, hp, hl, hall, hhas, hhas2⟩ := h8
        rw [List.take_of_length_le (by rw [List.length_map]; exact Nat.le_refl _)] at hhas2
        refine ⟨ts, L, _, _, _, rfl, k8, k58, efo, hp, ?_, hall, fun r' hr' o ho hne u hu => ?_⟩
        · rw [List.length_map] at hl
          omega
        · rw [List.take_add_one, er] at hr'
          rcases List.mem_append.mp hr' with h | h
          · exact hhas r' h o ho hne u hu
          · rw [List.mem_singleton.mp h] at hne hu ⊢
            exact hhas2 o ho hne u hu
    · obtain ⟨ts, L, y5, y6, y7, rfl, k6, k56, efo, hp, hl, hall, hhas⟩ := h6
      rw [List.take_of_length_le (by rw [List.length_map]; exact Nat.le_refl _)] at hhas
      rw [List.length_map] at hl
      exact ⟨_, rfl, q H6 fo ts L k6 nfo efo hp ⟨hall, hhas, by omega⟩⟩
end
end K51
/-! raised -/
namespace K51
open PySem PySem.Spec PyProof.Rows L2 NdefX LamX
def setF (f : Nat → Nat) (v k : Nat) : Nat → Nat := fun x => if x = v then k else f x
def fdl (rs : List Nat) (f : Nat → Nat) : List (Key × V) := rs.map fun (r : Nat) => (Sum.inl (r : Int), ni (f r))
theorem fdl_get {rs : List Nat} {f : Nat → Nat} {r : Nat} (h : r ∈ rs) : valV (fdl rs f) (Sum.inl (r : Int)) = some (ni (f r)) := by
  induction rs with
  | nil => cases h
  | cons a rs ih =>
    show valV (((Sum.inl (a : Int) : Key), ni (f a)) :: fdl rs f) (Sum.inl (r : Int)) = _
    by_cases e : a = r
    · subst e
      rw [valV_pos (show ((Sum.inl (a : Int) : Key), ni (f a)).1 = Sum.inl (a : Int) from rfl)]
    · rw [valV_neg (show ¬ ((Sum.inl (a : Int) : Key), ni (f a)).1 = Sum.inl (r : Int) from fun z => e (by injection z with z; omega))]
      rcases List.mem_cons.mp h with z | z
      · exact absurd z.symm e
      · exact ih z
theorem fdl_not {rs : List Nat} {f : Nat → Nat} {r : Nat} (h : r ∉ rs) : valV (fdl rs f) (Sum.inl (r : Int)) = none := by
  induction rs with
  | nil => rfl
  | cons a rs ih =>
    show valV (((Sum.inl (a : Int) : Key), ni (f a)) :: fdl rs f) (Sum.inl (r : Int)) = _
    have e : a ≠ r := fun e => h (by rw [e]; exact List.mem_cons_self)
    rw [valV_neg (show ¬ ((Sum.inl (a : Int) : Key), ni (f a)).1 = Sum.inl (r : Int) from fun z => e (by injection z with z; omega))]
    exact ih fun z => h (List.mem_cons_of_mem _ z)
theorem fdl_put {rs : List Nat} {f : Nat → Nat} {r k : Nat} (h : r ∈ rs) : putK (fdl rs f) (Sum.inl (r : Int)) (ni k) = fdl rs (setF f r k) := by
  unfold putK
  rw [if_pos]
  · unfold fdl
    rw [List.map_map]
    refine List.map_congr_left fun x _ => ?_
    show (if (Sum.inl (x : Int) : Key) = Sum.inl (r : Int) then ((Sum.inl (x : Int) : Key), ni k) else ((Sum.inl (x : Int) : Key), ni (f x))) = ((Sum.inl (x : Int) : Key), ni (setF f r k x))
    unfold setF
    by_cases e : x = r
    · subst e
      rw [if_pos rfl, if_pos rfl]
    · rw [if_neg (fun z => e (by injection z with z; omega)), if_neg e]
  · rw [List.any_eq_true]
    exact ⟨_, List.mem_map.mpr ⟨r, h, rfl⟩, decide_eq_true rfl⟩
/-- raising, one step after another -/
inductive Rs (L : List (Nat × Nat)) (k : Nat) (f : Nat → Nat) : (Nat → Nat) → Prop where
  | refl : Rs L k f f
  | step {g : Nat → Nat} {u v : Nat} : Rs L k f g → (u, v) ∈ L → g v < g u + k → Rs L k f (setF g v (g u + k))
theorem Rs.mono {L : List (Nat × Nat)} {k : Nat} {f g : Nat → Nat} (h : Rs L k f g) : ∀ x, f x ≤ g x := by
  induction h with
  | refl => intro x; exact Nat.le_refl _
  | step _ _ hlt ih =>
    intro x
    unfold setF
    split
    · rename_i e
      rw [e]
      exact Nat.le_of_lt (Nat.lt_of_le_of_lt (ih _) hlt)
    · exact ih x
section
variable {P : Program} {w : World} {K : PySem.W.Frag} {mg : Str → Option Value} {base : Heap} {T : List NTab}
def sp_raised (T : List NTab) : Sp := fun vs H Q _ => ∃ (d p : Addr) (ts : List Addr) (L : List (Nat × Nat)) (k : Nat) (rs : List Nat) (f : Nat → Nat), vs = [.ref d, .ref p, ni k] ∧ H d = some (.dK (fdl rs f)) ∧ H p = some (.lst (ts.map V.ref)) ∧ EdgesAt H ts L ∧ (∀ e ∈ L, e.1 ∈ rs ∧ e.2 ∈ rs) ∧ rs.length ≤ 1000 ∧
  ∀ H' b g, Kp T [d] H H' → H' d = some (.dK (fdl rs g)) → Rs L k f g → (b = false → g = f ∧ ∀ e ∈ L, f e.1 + k ≤ f e.2) → (b = true → ∃ v ∈ rs, f v < g v) → Q (.bl b) H'
theorem ok_raised (F : Fn K mg "raised" s_raised) (Tx : Txt mg) : DOk P w K mg base "raised" 1 ["found", "pairs", "by"] [] (sp_raised T) := by
  refine F.dok sc_raised b_raised (fun vs H Q E h => ?_) (fun f cdv A outer s H vs Q E hr h => ?_)
  · obtain ⟨d, p, ts, L, k, rs, f, rfl, _⟩ := h
    rfl
  · obtain ⟨d, p, ts, L, kk, rs, f, rfl, hd, hp, hE, hL, hrs, q⟩ := h
    have lts := hE.len
    have npd : p ≠ d := ne_of hp hd (by intro z; cases z)
    refine ⟨_, (pss_cons (ps_set (i := 3) sc_raised.nd rfl (by first | exact .inl rfl | exact .inr rfl) pe_bl)
      (pss_cons (ps_for PassesOwn.never rfl (pi_list (pv 1)) (pg_tup rfl (pgs_cons (pg_name (i := 4) sc_raised.nd rfl (by first | exact .inl rfl | exact .inr rfl)) (pgs_cons (pg_name (i := 5) sc_raised.nd rfl (by first | exact .inl rfl | exact .inr rfl)) pgs_nil)))
      (pss_one (ps_if (pt_cmpR op_lt (pe_dget (hu_of hr) (pv 0) (pv 5) (fun _ _ => rfl)) (pe_op op_add (pe_dget (hu_of hr) (pv 0) (pv 4) (fun _ _ => rfl)) (pv 2)) (nomark _))
      (pss_cons (ps_dput (hu_of hr) (pv 0) (pv 5) (pe_op op_add (pe_dget (hu_of hr) (pv 0) (pv 4) (fun _ _ => rfl)) (pv 2)) rfl)
      (pss_one (ps_set (i := 3) sc_raised.nd rfl (by first | exact .inl rfl | exact .inr rfl) pe_bl))) pss_nil)))
      (pss_one (ps_ret (pv 3))))), ?_⟩
    refine ⟨_, rfl, p, rfl, ⟨_, SqL.of hp⟩, ?_⟩
    refine for_it (walk_list (xs := ts.map V.ref)) (fun i σ H1 => ∃ (b : Bool) (g : Nat → Nat) (y4 y5 : Option V), σ = [some (.ref d), some (.ref p), some (ni kk), some (.bl b), y4, y5] ∧ Kp T [d] H H1 ∧ H1 d = some (.dK (fdl rs g)) ∧ Rs L kk f g ∧ (b = false → g = f ∧ ∀ e ∈ L.take i, f e.1 + kk ≤ f e.2) ∧ (b = true → ∃ v ∈ rs, f v < g v)) ⟨false, f, _, _, rfl, Kp.refl H, hd, .refl, fun _ => ⟨rfl, fun _ h => nomatch h⟩, fun z => nomatch z⟩ (fun i σ H1 _ h1 => ?_) (fun i x σ H1 H2 hi h1 y => ?_) (fun σ H1 h1 => ?_)
    · obtain ⟨_, _, _, _, _, k, _⟩ := h1
      exact SqL.of (k.getX hp (by simp [npd]))
    · obtain ⟨b, g, y4, y5, rfl, k, hd1, hR, hb1, hb2⟩ := h1
      obtain ⟨rfl, e2⟩ := y
      obtain ⟨t, e, rfl, et, ee, hte⟩ := hE.get e2
      have heL := List.mem_of_getElem? ee
      obtain ⟨h1r, h2r⟩ := hL e heL
      have ntd : t ∉ [d] := by
        simp
        exact ne_of hte hd (by intro z; cases z)
      have tk : ∀ x ∈ L.take (i + 1), x ∈ L.take i ∨ x = e := fun x hx => by
        rw [List.take_add_one, ee] at hx
        rcases List.mem_append.mp hx with h | h
        · exact .inl h
        · exact .inr (List.mem_singleton.mp h)
      have g1 : DGet H2 d (ni e.1) (some (ni (g e.1))) := by
        rw [← fdl_get h1r]
        exact DGet.k hd1 (k := Sum.inl (e.1 : Int))
      have g2 : DGet H2 d (ni e.2) (some (ni (g e.2))) := by
        rw [← fdl_get h2r]
        exact DGet.k hd1 (k := Sum.inl (e.2 : Int))
      refine ⟨t, _, rfl, SqT.of (k.getX hte ntd), rfl, _, _, rfl, _, _, rfl, rfl, ?_⟩
      refine ⟨_, rfl, _, rfl, d, _, rfl, g2, ?_⟩
      refine ⟨_, rfl, _, rfl, d, _, rfl, g1, ?_⟩
      refine ⟨_, rfl, _, _, rfl, rfl, _, _, rfl, rfl, ?_⟩
      by_cases hlt : g e.2 < g e.1 + kk
      · refine ⟨true, ?_, iteT ?_⟩
        · show V.bl (decide (((g e.2 : Nat) : Int) < ((g e.1 : Nat) : Int) + (kk : Int))) = V.bl true
          rw [decide_eq_true (by omega)]
        refine ⟨_, rfl, _, rfl, d, _, rfl, g1, _, rfl, _, _, rfl, rfl, ?_⟩
        refine ⟨_, rfl, _, rfl, d, _, rfl, DPut.k hd1 (k := Sum.inl (e.2 : Int)) (v := V.int (((g e.1 : Nat) : Int) + (kk : Int))) (by unfold fdl; rw [List.length_map]; exact sz_lt (by omega)), ?_⟩
        have ek : V.int (((g e.1 : Nat) : Int) + (kk : Int)) = ni (g e.1 + kk) := by
          show V.int _ = V.int _
          rw [Int.natCast_add]
        rw [ek, fdl_put h2r]
        refine ⟨true, setF g e.2 (g e.1 + kk), _, _, rfl, k.mut (.inr List.mem_cons_self) hd1, upd_same, hR.step heL hlt, (fun z => nomatch z), fun _ => ⟨e.2, h2r, ?_⟩⟩
        have := hR.mono e.2
        show f e.2 < (if e.2 = e.2 then _ else _)
        rw [if_pos rfl]
        omega
      · refine ⟨false, ?_, iteF ?_⟩
        · show V.bl (decide (((g e.2 : Nat) : Int) < ((g e.1 : Nat) : Int) + (kk : Int))) = V.bl false
          rw [decide_eq_false (by omega)]
        refine ⟨b, g, _, _, rfl, k, hd1, hR, fun hb => ?_, hb2⟩
        obtain ⟨e1, h1⟩ := hb1 hb
        refine ⟨e1, fun x hx => ?_⟩
        rcases tk x hx with h | h
        · exact h1 x h
        · rw [h, ← e1]
          omega
    · obtain ⟨b, g, y4, y5, rfl, k, hd1, hR, hb1, hb2⟩ := h1
      rw [List.take_of_length_le (by rw [List.length_map, lts]; exact Nat.le_refl _)] at hb1
      exact ⟨_, rfl, q H1 b g k hd1 hR hb1 hb2⟩
end
end K51
/-! rounds, in plain Lean -/
namespace K51
theorem Pth.app {α : Type} {nx : α → Nat → List α} {u v : List Nat} {a b d : α} (h : Pth nx u a b) (k : Pth nx v b d) : Pth nx (u ++ v) a d := by
  induction h with
  | nil => exact k
  | cons e _ ih => exact .cons e (ih k)
theorem pth_cnt {n : Nat} {S S0 : List Step} (hs : ∀ s ∈ S, s ∈ S0) (hb : Below n S0) {w : List Nat} {p q : Nat} (h : Pth (inx S) w p q) : p < n → 1 ≤ cnt S0 w p q := by
  induction h with
  | nil a =>
    intro _
    rw [cnt_nil, if_pos rfl]
    exact Nat.le_refl _
  | @cons c w a b d e k ih =>
    intro hp
    have hm := hs _ (mem_succs.mp e)
    have hbn := (hb _ hm).2
    have hdn : d < n := by
      cases k with
      | nil => exact hbn
      | cons e' k' =>
        have : ∀ {w : List Nat} {x y : Nat}, Pth (inx S) w x y → x < n → y < n := fun {w x y} h => by
          induction h with
          | nil => exact id
          | cons e _ ih => exact fun _ => ih (hb _ (hs _ (mem_succs.mp e))).2
        exact this k' (hb _ (hs _ (mem_succs.mp e'))).2
    have h1 := cnt_ge hb [c] w a d b hdn hbn
    have h2 := cnt_step hm
    have h3 := ih hbn
    have h4 := Nat.mul_le_mul h2 h3
    exact Nat.le_trans h4 h1
theorem pth_lt {n : Nat} {S : List Step} (hb : Below n S) {w : List Nat} {x y : Nat} (h : Pth (inx S) w x y) : x < n → y < n := by
  induction h with
  | nil => exact id
  | cons e _ ih => exact fun _ => ih (hb _ (mem_succs.mp e)).2
theorem dbl_paths {S : List Step} {w : List Nat} {x y : NB} (h : Pth (dnx S) w x y) : Pth (inx S) w x.1 y.1 ∧ Pth (inx S) w x.2.1 y.2.1 := by
  induction h with
  | nil => exact ⟨.nil _, .nil _⟩
  | cons e _ ih =>
    obtain ⟨r, h1, h2⟩ := List.mem_flatMap.mp e
    obtain ⟨r', h3, e⟩ := List.mem_map.mp h2
    rw [← e] at ih
    exact ⟨.cons h1 ih.1, .cons h3 ih.2⟩
/-- two ways -/
theorem dbl_two {n : Nat} {S S0 : List Step} (hs : ∀ s ∈ S, s ∈ S0) (hb : Below n S0) : ∀ {w : List Nat} {x y : NB}, Pth (dnx S) w x y → x.1 = x.2.1 → x.2.2 = false → y.1 = y.2.1 → y.2.2 = true → x.1 < n → 2 ≤ cnt S0 w x.1 y.1
  | _, _, _, .nil a, _, h1, _, h2, _ => by
    rw [h1] at h2
    cases h2
  | _, x, y, .cons (c := c) (w := w) (b := z) e k, h1, h2, h3, h4, hn => by
    obtain ⟨r, hr, hz⟩ := List.mem_flatMap.mp e
    obtain ⟨r', hr', ez⟩ := List.mem_map.mp hz
    have hm := hs _ (mem_succs.mp hr)
    have hm' := hs _ (mem_succs.mp hr')
    rw [← h1] at hm'
    have hrn := (hb _ hm).2
    have hrn' := (hb _ hm').2
    have hp := dbl_paths k
    rw [← ez] at hp
    have hyn : y.1 < n := pth_lt (fun s h => hb s (hs s h)) hp.1 hrn
    by_cases hne : r = r'
    · have kk := k
      rw [← ez, hne, h2] at kk
      have hb2 : (false || decide (r' ≠ r')) = false := by rw [decide_eq_false (fun z => z rfl)]; rfl
      rw [hb2] at kk
      have ih := dbl_two hs hb kk rfl rfl h3 h4 hrn'
      rw [hne] at hm
      have g1 := cnt_ge hb [c] w x.1 y.1 r' hyn hrn'
      have g2 := Nat.mul_le_mul (cnt_step hm) ih
      exact Nat.le_trans g2 g1
    · have g1 := cnt_ge2 hb [c] w x.1 y.1 r r' hyn hrn hrn' hne
      have a1 := Nat.mul_le_mul (cnt_step hm) (pth_cnt hs hb hp.1 hrn)
      have hp2 := hp.2
      rw [← h3] at hp2
      have a2 := Nat.mul_le_mul (cnt_step hm') (pth_cnt hs hb hp2 hrn')
      exact Nat.le_trans (Nat.add_le_add a1 a2) g1
theorem led_paths {S : List Step} {w : List Nat} {x y : N3} (h : Pth (lnx S) w x y) : Pth (inx S) w x.1 y.1 ∧ Pth (inx S) w x.2.1 y.2.1 ∧ Pth (inx S) w x.2.2 y.2.2 := by
  induction h with
  | nil => exact ⟨.nil _, .nil _, .nil _⟩
  | cons e _ ih =>
    obtain ⟨r, h1, h2⟩ := List.mem_flatMap.mp e
    obtain ⟨r', h3, h4⟩ := List.mem_flatMap.mp h2
    obtain ⟨r'', h5, e⟩ := List.mem_map.mp h4
    rw [← e] at ih
    exact ⟨.cons h1 ih.1, .cons h3 ih.2.1, .cons h5 ih.2.2⟩
theorem pair_paths {S : List Step} {w : List Nat} {p q : Nat} (h : Pth (inx S) w p q) : ∀ {p' q' : Nat}, Pth (inx S) w p' q' → ∀ b : Bool, ∃ b', Pth (dnx S) w (p, p', b) (q, q', b') ∧ (b = true → b' = true) ∧ (w ≠ [] → q ≠ q' → b' = true) := by
  induction h with
  | nil a =>
    intro p' q' k b
    cases k
    exact ⟨b, .nil _, id, fun z => absurd rfl z⟩
  | @cons c w a r q e k ih =>
    intro p' q' k' b
    cases k' with
    | @cons _ _ _ r' _ e' k' =>
      obtain ⟨b', h1, h2, h3⟩ := ih k' (b || decide (r ≠ r'))
      refine ⟨b', .cons (List.mem_flatMap.mpr ⟨r, e, List.mem_map.mpr ⟨r', e', rfl⟩⟩) h1, fun hb => h2 (by rw [hb]; rfl), fun _ hne => ?_⟩
      by_cases hw : w = []
      · subst hw
        cases k
        cases k'
        exact h2 (by rw [decide_eq_true hne, Bool.or_true])
      · exact h3 hw hne
/-- a led round whose end leads back is a double round -/
theorem led_dbl {M : Mac} {r o : Nat} {u x : List Nat} (hne : r ≠ o) (hl : LedW M r o u) (hx : Pth (inx (trimM M).S) x o r) : DblW M r (u ++ u ++ x) := by
  obtain ⟨hu, hp⟩ := hl
  obtain ⟨h1, h2, h3⟩ := led_paths hp
  obtain ⟨b1, a1, _, a3⟩ := pair_paths h1 h2 false
  have e1 := a3 hu hne
  obtain ⟨b2, c1, c2, _⟩ := pair_paths h2 h3 b1
  obtain ⟨b3, d1, d2, _⟩ := pair_paths hx hx b2
  have e3 := d2 (c2 e1)
  subst e3
  refine ⟨fun z => hu ?_, (a1.app c1).app d1⟩
  cases u with
  | nil => rfl
  | cons _ _ => simp at z
/-! ### a bound for ranks -/
def Rc (S : List Step) (p q : Nat) : Prop := ∃ w, Pth (inx S) w p q
noncomputable def potF (S : List Step) (n : Nat) (v : Nat) : Nat := (List.range n).countP fun x => dc (Rc S x v ∧ ¬ Rc S v x)
theorem countP_lt {p q : Nat → Bool} : ∀ {l : List Nat}, (∀ x ∈ l, p x = true → q x = true) → (∃ x ∈ l, q x = true ∧ p x = false) → l.countP p + 1 ≤ l.countP q
  | [], _, h => by
    obtain ⟨x, hx, _⟩ := h
    cases hx
  | a :: l, h1, ⟨x, hx, hq, hp⟩ => by
    have hm := fun x hx => h1 x (List.mem_cons_of_mem a hx)
    rw [List.countP_cons, List.countP_cons]
    rcases List.mem_cons.mp hx with e | e
    · rw [← e, hq, hp]
      have := List.countP_mono_left (p := p) (q := q) (l := l) hm
      simp
      exact this
    · have ih := countP_lt hm ⟨x, e, hq, hp⟩
      by_cases ha : p a = true
      · rw [ha, h1 a List.mem_cons_self ha]
        simp
        omega
      · have ha : p a = false := by simpa using ha
        rw [ha]
        simp
        split <;> omega
theorem pot {M : Mac} (ok : M.Ok) (nd : ∀ r ∈ usf M, ∀ u, ¬ DblW M r u) : ∃ h : Nat → Nat, (∀ v, h v ≤ M.n) ∧ (∀ r ∈ usf M, ∀ o ∈ usf M, r ≠ o → ∀ u, LedW M r o u → h r + 1 ≤ h o) ∧ ∀ s ∈ (trimM M).S, h s.1 ≤ h s.2.2 := by
  refine ⟨potF (trimM M).S M.n, fun v => ?_, fun r hr o ho hne u hl => ?_, fun s hs => ?_⟩
  · unfold potF
    have := List.countP_le_length (p := fun x => dc (Rc (trimM M).S x v ∧ ¬ Rc (trimM M).S v x)) (l := List.range M.n)
    rw [List.length_range] at this
    exact this
  · have hro := (led_paths hl.2).2.1
    have hback : ¬ Rc (trimM M).S o r := fun ⟨x, hx⟩ => nd r hr _ (led_dbl hne hl hx)
    refine countP_lt (fun x _ hx => ?_) ⟨r, List.mem_range.mpr (usf_lt r hr), dc_true ⟨⟨u, hro⟩, hback⟩, dc_false fun z => z.2 ⟨[], .nil _⟩⟩
    obtain ⟨⟨w, hw⟩, hn⟩ := dc_iff.mp hx
    refine dc_true ⟨⟨_, hw.app hro⟩, fun ⟨y, hy⟩ => hn ⟨_, hro.app hy⟩⟩
  · have hst : Pth (inx (trimM M).S) [s.2.1] s.1 s.2.2 := .cons (mem_succs.mpr hs) (.nil _)
    refine List.countP_mono_left fun x _ hx => ?_
    obtain ⟨⟨w, hw⟩, hn⟩ := dc_iff.mp hx
    exact dc_true ⟨⟨_, hw.app hst⟩, fun ⟨y, hy⟩ => hn ⟨_, hst.app hy⟩⟩
/-- middles -/
theorem dbl_mid {M : Mac} (ok : M.Ok) {r : Nat} {u : List Nat} (hr : r < M.n) (h : DblW M r u) : Mid M.S u r r :=
  ⟨h.1, .inl ⟨rfl, dbl_two (fun s hs => trim_sub hs) ok.bel h.2 rfl rfl rfl rfl hr⟩⟩
theorem led_mid {M : Mac} (ok : M.Ok) {r o : Nat} {u : List Nat} (hr : r < M.n) (ho : o < M.n) (hne : r ≠ o) (h : LedW M r o u) : Mid M.S u r o := by
  obtain ⟨h1, h2, h3⟩ := led_paths h.2
  have sub : ∀ s ∈ (trimM M).S, s ∈ M.S := fun s hs => trim_sub hs
  exact ⟨h.1, .inr ⟨hne, pth_cnt sub ok.bel h1 hr, pth_cnt sub ok.bel h2 hr, pth_cnt sub ok.bel h3 ho⟩⟩
end K51
/-! ranks -/
namespace K51
open PySem PySem.Spec PyProof.Rows L2 NdefX LamX
theorem sm_lt {l : List Nat} {f g : Nat → Nat} (h : ∀ a ∈ l, g a ≤ f a) (h2 : ∃ a ∈ l, g a < f a) : sm l g < sm l f := by
  induction l with
  | nil =>
    obtain ⟨a, ha, _⟩ := h2
    cases ha
  | cons x l ih =>
    rw [sm_cons, sm_cons]
    have hx := h x List.mem_cons_self
    have hl := sm_mono (l := l) fun a ha => h a (List.mem_cons_of_mem _ ha)
    obtain ⟨a, ha, hlt⟩ := h2
    rcases List.mem_cons.mp ha with e | e
    · rw [← e] at hx ⊢
      omega
    · have := ih (fun a ha => h a (List.mem_cons_of_mem _ ha)) ⟨a, e, hlt⟩
      omega
theorem Rs.under {L : List (Nat × Nat)} {k : Nat} {f g h : Nat → Nat} {rs : List Nat} (r : Rs L k f g) (hL : ∀ e ∈ L, e.1 ∈ rs ∧ e.2 ∈ rs) (hh : ∀ e ∈ L, h e.1 + k ≤ h e.2) (hf : ∀ v ∈ rs, f v ≤ h v) : ∀ v ∈ rs, g v ≤ h v := by
  induction r with
  | refl => exact hf
  | @step g u v r hm _ ih =>
    intro x hx
    unfold setF
    split
    · rename_i e
      subst e
      have h1 := ih u (hL _ hm).1
      have h2 := hh _ hm
      have h2 : h u + k ≤ h x := h2
      omega
    · exact ih x hx
/-- what stands above nought was led there -/
def Jst (Ld : List (Nat × Nat)) (rs : List Nat) (f : Nat → Nat) : Prop := ∀ v ∈ rs, 0 < f v → ∃ e ∈ Ld, f v ≤ f e.1 + 1
theorem setF_ge {g : Nat → Nat} {v k : Nat} (h : g v < k) (x : Nat) : g x ≤ setF g v k x := by
  unfold setF
  split
  · rename_i e
    rw [e]
    omega
  · exact Nat.le_refl _
theorem Jst.one {Ld : List (Nat × Nat)} {rs : List Nat} {f g : Nat → Nat} (r : Rs Ld 1 f g) (hf : Jst Ld rs f) : Jst Ld rs g := by
  induction r with
  | refl => exact hf
  | @step g u v r hm hlt ih =>
    intro x hx h0
    by_cases e : x = v
    · subst e
      refine ⟨_, hm, ?_⟩
      have := setF_ge hlt u
      show setF g x (g u + 1) x ≤ _
      have e1 : setF g x (g u + 1) x = g u + 1 := by
        unfold setF
        rw [if_pos rfl]
      rw [e1]
      show g u + 1 ≤ setF g x (g u + 1) u + 1
      omega
    · have e1 : setF g v (g u + 1) x = g x := by
        unfold setF
        rw [if_neg e]
      rw [e1] at h0 ⊢
      obtain ⟨e, he, h⟩ := ih x hx h0
      have := setF_ge hlt e.1
      exact ⟨e, he, by omega⟩
theorem Jst.nil {Ld L : List (Nat × Nat)} {rs : List Nat} {f g : Nat → Nat} (r : Rs L 0 f g) (hL : ∀ e ∈ L, e.1 ∈ rs ∧ e.2 ∈ rs) (hf : Jst Ld rs f) : Jst Ld rs g := by
  induction r with
  | refl => exact hf
  | @step g u v r hm hlt ih =>
    intro x hx h0
    by_cases e : x = v
    · subst e
      have e1 : setF g x (g u + 0) x = g u + 0 := by
        unfold setF
        rw [if_pos rfl]
      rw [e1] at h0 ⊢
      obtain ⟨e, he, h⟩ := ih u (hL _ hm).1 (by omega)
      have := setF_ge hlt e.1
      exact ⟨e, he, by omega⟩
    · have e1 : setF g v (g u + 0) x = g x := by
        unfold setF
        rw [if_neg e]
      rw [e1] at h0 ⊢
      obtain ⟨e, he, h⟩ := ih x hx h0
      have := setF_ge hlt e.1
      exact ⟨e, he, by omega⟩
/-- the ranks of the rooms -/
structure Rks (M : Mac) (f : Nat → Nat) : Prop where
  st : ∀ r ∈ usf M, ∀ o ∈ usf M, r ≠ o → ∀ u, LedW M r o u → f r + 1 ≤ f o
  up : ∀ v ∈ usf M, 0 < f v → ∃ r ∈ usf M, ∃ o ∈ usf M, r ≠ o ∧ (∃ u, LedW M r o u) ∧ f v ≤ f r + 1
  hi : ∀ v ∈ usf M, f v ≤ 5
noncomputable def rkV (M : Mac) (f : Nat → Nat) (r : Nat) : V := if r ∈ usf M then ni (f r) else .non
section
variable {P : Program} {w : World} {K : PySem.W.Frag} {mg : Str → Option Value} {base : Heap} {T : List NTab}
def sp_ranks (T : List NTab) : Sp := fun vs H Q _ => ∃ (m : Addr) (M : Mac), vs = [.ref m] ∧ MAt [] H m M ∧ M.Ok ∧ M.n ≤ 5 ∧ TabsN T H ∧ (∀ H', Kp T [] H H' → (∃ r ∈ usf M, ∃ u, DblW M r u) → Q .non H') ∧
  ∀ H' p f, Kp T [] H H' → H' p = some (.lst ((List.range M.n).map (rkV M f))) → (∀ r ∈ usf M, ∀ u, ¬ DblW M r u) → Rks M f → Q (.ref p) H'
theorem ok_ranks (F : Fn K mg "ranks" s_ranks) (Tx : Txt mg) (D_useful : DOk P w K mg base "useful" 6 ["machine"] [] (sp_useful T)) (D_trimmed : DOk P w K mg base "trimmed" 7 ["machine"] [] (sp_trimmed T))
    (D_double_rounds : DOk P w K mg base "double_rounds" 8 ["machine"] [] (sp_double_rounds T)) (D_led_rounds : DOk P w K mg base "led_rounds" 8 ["machine"] [] (sp_led_rounds T)) (D_raised : DOk P w K mg base "raised" 1 ["found", "pairs", "by"] [] (sp_raised T)) :
    DOk P w K mg base "ranks" 9 ["machine"] [] (sp_ranks T) := by
  refine F.dok sc_ranks b_ranks (fun vs H Q E h => ?_) (fun f cdv A outer s H vs Q E hr h => ?_)
  · obtain ⟨m, M, rfl, _⟩ := h
    rfl
  · obtain ⟨m, M, rfl, hM, ok, hn5, hT, q0, q⟩ := h
    have okt := trimM_ok ok
    have hul := usf_len M
    refine ⟨_, (pss_cons (ps_if (pt_cmpR (op_neNil (hu0 hr)) (pe_d D_double_rounds hr (by rfl) (pa_cons (pv 0) pa_nil)) (pe_lst pa_nil) (nomark _))
      (pss_one (ps_ret pe_non)) pss_nil)
      (pss_cons (ps_set (i := 1) sc_ranks.nd rfl (by first | exact .inl rfl | exact .inr rfl) (pe_d D_useful hr (by rfl) (pa_cons (pv 0) pa_nil)))
      (pss_cons (ps_setLc (i := 2) (own := [("room", 5), ("other", 7), ("text", 8)]) (g := gTup K 3 (gCons (gName 5) (gCons (gName 7) (gCons (gName 8) gNil)))) (tt := tYes) (by rfl) sc_ranks.nd rfl rfl (sw_true rfl rfl rfl (by decide +kernel)) (pi_list (pe_d D_led_rounds hr (by rfl) (pa_cons (pv 0) pa_nil))) (blkOk_by (N := ["machine", "rooms", "led", "steps", "found", "room", "changed", "other", "text", "sign", "to"]) (sc := (defScope s_ranks)) (own := [("room", 5), ("other", 7), ("text", 8)]) (by decide +kernel)) (fun _ _ _ _ _ => (pg_tup rfl (pgs_cons (pg_name (i := 5) sc_ranks.nd rfl (by first | exact .inl rfl | exact .inr rfl)) (pgs_cons (pg_name (i := 7) sc_ranks.nd rfl (by first | exact .inl rfl | exact .inr rfl)) (pgs_cons (pg_name (i := 8) sc_ranks.nd rfl (by first | exact .inl rfl | exact .inr rfl)) pgs_nil))))) (fun _ _ _ _ _ => pts_nil) (fun _ _ _ _ _ => (pe_tup (pa_cons (pv 5) (pa_cons (pv 7) pa_nil)))))
      (pss_cons (ps_setLc (i := 3) (own := [("room", 5), ("sign", 9), ("to", 10)]) (g := gTup K 3 (gCons (gName 5) (gCons (gName 9) (gCons (gName 10) gNil)))) (tt := tYes) (by rfl) sc_ranks.nd rfl rfl (sw_true rfl rfl rfl (by decide +kernel)) (pi_list (pe_ix ix_tup (pe_d D_trimmed hr (by rfl) (pa_cons (pv 0) pa_nil)) pe_int (fun _ _ => rfl))) (blkOk_by (N := ["machine", "rooms", "led", "steps", "found", "room", "changed", "other", "text", "sign", "to"]) (sc := (defScope s_ranks)) (own := [("room", 5), ("sign", 9), ("to", 10)]) (by decide +kernel)) (fun _ _ _ _ _ => (pg_tup rfl (pgs_cons (pg_name (i := 5) sc_ranks.nd rfl (by first | exact .inl rfl | exact .inr rfl)) (pgs_cons (pg_name (i := 9) sc_ranks.nd rfl (by first | exact .inl rfl | exact .inr rfl)) (pgs_cons (pg_name (i := 10) sc_ranks.nd rfl (by first | exact .inl rfl | exact .inr rfl)) pgs_nil))))) (fun _ _ _ _ _ => pts_nil) (fun _ _ _ _ _ => (pe_tup (pa_cons (pv 5) (pa_cons (pv 10) pa_nil)))))
      (pss_cons (ps_set (i := 4) sc_ranks.nd rfl (by first | exact .inl rfl | exact .inr rfl) pe_dnewK)
      (pss_cons (ps_for PassesOwn.never rfl (pi_list (pv 1)) (pg_name (i := 5) sc_ranks.nd rfl (by first | exact .inl rfl | exact .inr rfl))
      (pss_one (ps_dput (hu_of hr) (pv 4) (pv 5) pe_int rfl)))
      (pss_cons (ps_set (i := 6) sc_ranks.nd rfl (by first | exact .inl rfl | exact .inr rfl) pe_bl)
      (pss_cons (ps_while PassesOwn.never (pt_val (pv 6))
      (pss_cons (ps_set (i := 6) sc_ranks.nd rfl (by first | exact .inl rfl | exact .inr rfl) (pe_d D_raised hr (by rfl) (pa_cons (pv 4) (pa_cons (pv 2) (pa_cons pe_int pa_nil)))))
      (pss_one (ps_aug (i := 6) sc_ranks.nd rfl (by first | exact .inl rfl | exact .inr rfl) (pe_d D_raised hr (by rfl) (pa_cons (pv 4) (pa_cons (pv 3) (pa_cons pe_int pa_nil)))) ip_orB))))
      (pss_one (ps_ret (pe_lc (own := [("room", 5)]) (g := gName 5) (tt := tYes) (by rfl) sc_ranks.nd (pi_range1 (by rfl) Tx.n_range (pa_cons (pe_ix ix_tup (pv 0) pe_int (fun _ _ => rfl)) pa_nil)) (blkOk_by (N := ["machine", "rooms", "led", "steps", "found", "room", "changed", "other", "text", "sign", "to"]) (sc := (defScope s_ranks)) (own := [("room", 5)]) (by decide +kernel)) (fun _ _ _ _ _ => (pg_name (i := 5) sc_ranks.nd rfl (by first | exact .inl rfl | exact .inr rfl))) (fun _ _ _ _ _ => pts_nil) (fun _ _ _ _ _ => (pe_dget2 (hu_of hr) (pv 4) (pv 5) pe_non ⟨by rfl, by rfl, by rfl, by rfl⟩))))))))))))), ?_⟩
    refine ⟨_, rfl, m, M, rfl, hM, ok, hn5, hT, fun H1 p ts L k1 ep hp hL => ?_⟩
    refine ⟨sz_ok (by simp), fun p0 hp0 => ?_⟩
    have kp0 : Kp T [] H1 (upd H1 p0 (.lst [])) := Kp.new hp0
    have e0 : upd H1 p0 (.lst []) p0 = some (.lst []) := upd_same
    have ep2 := kp0.get ep
    have k2 := k1.trans kp0
    have hpl := Paired.length hp
    generalize upd H1 p0 (.lst []) = H2 at *
    refine ⟨p, p0, _, rfl, rfl, SqL.of ep2, SqL.of e0, !(ts.map V.ref).isEmpty, rfl, ?_⟩
    cases L with
    | cons z L =>
      have hts : (ts.map V.ref).isEmpty = false := by
        cases ts with
        | nil => cases hpl
        | cons _ _ => rfl
      rw [hts]
      refine iteT ?_
      obtain ⟨z1, z2, _⟩ := hL.all z List.mem_cons_self
      exact q0 H2 k2 ⟨z.1, z1, z.2, z2⟩
    | nil =>
      have hts : (ts.map V.ref).isEmpty = true := by
        cases ts with
        | nil => rfl
        | cons _ _ => cases hpl
      rw [hts]
      refine iteF ?_
      have nd := hL.none rfl
      obtain ⟨hh, hh1, hh2, hh3⟩ := pot ok nd
      refine ⟨_, rfl, m, M, rfl, hM.kp k2, ok, fun H3 ru k3 nru eru => ?_⟩
      have k13 := k2.trans k3
      refine ⟨_, rfl, m, M, rfl, hM.kp k13, ok, hn5, k13.tab hT, fun H4 pl tsl Ll k4 npl epl hpl4 hLl => ?_⟩
      have k14 := k13.trans k4
      have hpll := Paired.length hpl4
      have hLf := hLl.few
      refine ⟨pl, rfl, ⟨_, SqL.of epl⟩, fun D hD => ?_⟩
      refine lc_it (walk_list (xs := tsl.map V.ref)) (fun i H5 => ∃ us : List Addr, Kp T [] H4 H5 ∧ H5 D = some (.lst (us.map V.ref)) ∧ EdgesAt H5 us ((Ll.take i).map fun z => (z.1, z.2.1))) ⟨[], Kp.new hD, upd_same, .nil⟩ (fun i H5 _ h5 => by obtain ⟨_, k, _⟩ := h5; exact SqL.of (k.get epl)) (fun i x H5 H6 hi h5 y => ?_) (fun H5 h5 => ?_)
      · obtain ⟨us, k5, eD, hus⟩ := h5
        obtain ⟨rfl, e2⟩ := y
        obtain ⟨t, z, rfl, et, ez, hte⟩ := paired_get hpl4 e2
        have hul2 := hus.len
        rw [List.length_map, List.length_take] at hul2
        refine ⟨t, _, rfl, SqT.of (k5.get hte), rfl, _, _, rfl, _, _, rfl, _, _, rfl, rfl, rfl, ?_⟩
        refine ⟨_, rfl, _, rfl, sz_ok (by simp), fun p hp6 => ?_⟩
        have eD6 : upd H6 p (.tup (rndV (z.1, z.2.1))) D = some (.lst (us.map V.ref)) := by rw [upd_ne (ne_of_none eD hp6)]; exact eD
        refine ⟨_, eD6, by rw [List.length_map]; exact sz_lt (by omega), us ++ [p], (k5.snew hp6).mut (.inl hD) eD6, by rw [upd_same, List.map_append]; rfl, ?_⟩
        rw [List.take_add_one, ez, List.map_append]
        exact Paired.snoc (paired_set (f := rndV) (paired_off (f := rndV) hus hp6) eD6) (by rw [upd_ne (ne_of_none eD hp6).symm, upd_same])
      · obtain ⟨us, k5, eD, hus⟩ := h5
        rw [List.take_of_length_le (by rw [List.length_map, hpll]; exact Nat.le_refl _)] at hus
        have k15 := k14.trans k5
        refine ⟨_, rfl, m, M, rfl, hM.kp k15, ok, fun H6 mt k6 hMt => ?_⟩
        obtain ⟨tf, tl, tss, tst, hmt⟩ := hMt
        have ltt := hmt.st.len
        have few := okt.few
        refine ⟨mt, _, 3, _, rfl, rfl, SqT.of hmt.m, rfl, tss, rfl, ⟨_, SqL.of hmt.s⟩, fun D2 hD2 => ?_⟩
        refine lc_it (walk_list (xs := tst.map V.ref)) (fun i H7 => ∃ us2 : List Addr, Kp T [] H6 H7 ∧ H7 D2 = some (.lst (us2.map V.ref)) ∧ EdgesAt H7 us2 (((trimM M).S.take i).map fun z => (z.1, z.2.2))) ⟨[], Kp.new hD2, upd_same, .nil⟩ (fun i H7 _ h7 => by obtain ⟨_, k, _⟩ := h7; exact SqL.of (k.get hmt.s)) (fun i x H7 H8 hi h7 y => ?_) (fun H7 h7 => ?_)
        · obtain ⟨us2, k7, eD2, hus2⟩ := h7
          obtain ⟨rfl, e2⟩ := y
          obtain ⟨t, z, rfl, et, ez, hte⟩ := hmt.st.get e2
          have hul2 := hus2.len
          rw [List.length_map, List.length_take] at hul2
          refine ⟨t, _, rfl, SqT.of (k7.get hte), rfl, _, _, rfl, _, _, rfl, _, _, rfl, rfl, rfl, ?_⟩
          refine ⟨_, rfl, _, rfl, sz_ok (by simp), fun p hp6 => ?_⟩
          have eD6 : upd H8 p (.tup (rndV (z.1, z.2.2))) D2 = some (.lst (us2.map V.ref)) := by rw [upd_ne (ne_of_none eD2 hp6)]; exact eD2
          refine ⟨_, eD6, by rw [List.length_map]; exact sz_lt (by omega), us2 ++ [p], (k7.snew hp6).mut (.inl hD2) eD6, by rw [upd_same, List.map_append]; rfl, ?_⟩
          rw [List.take_add_one, ez, List.map_append]
          exact Paired.snoc (paired_set (f := rndV) (paired_off (f := rndV) hus2 hp6) eD6) (by rw [upd_ne (ne_of_none eD2 hp6).symm, upd_same])
        · obtain ⟨us2, k7, eD2, hus2⟩ := h7
          rw [List.take_of_length_le (by rw [List.length_map, ltt]; exact Nat.le_refl _)] at hus2
          have k17 := (k15.trans k6).trans k7
          have eru7 := (((k4.trans k5).trans k6).trans k7).get eru
          have eD7 := (k6.trans k7).get eD
          have hus7 : EdgesAt H7 us (Ll.map fun z => (z.1, z.2.1)) := paired_kp (f := rndV) hus (k6.trans k7)
          intro d hd
          have k8 : Kp T [] H7 (upd H7 d (.dK [])) := Kp.new hd
          have nd0 : H d = none := k17.free hd
          have ed8 : upd H7 d (.dK []) d = some (.dK []) := upd_same
          generalize upd H7 d (.dK []) = H8 at *
          refine ⟨_, rfl, ru, rfl, ⟨_, SqL.of (k8.get eru7)⟩, ?_⟩
          refine for_it (walk_list (xs := (usf M).map ni)) (fun i σ H9 => ∃ (y5 y6 y7 y8 y9 y10 : Option V), σ = [some (.ref m), some (.ref ru), some (.ref D), some (.ref D2), some (.ref d), y5, y6, y7, y8, y9, y10] ∧ Kp T [] H7 H9 ∧ H9 d = some (.dK (fdl ((usf M).take i) fun _ => 0))) ⟨_, _, _, _, _, _, rfl, k8, ed8⟩ (fun i σ H9 _ h9 => ?_) (fun i x σ H9 H10 hi h9 y => ?_) (fun σ H9 h9 => ?_)
          · obtain ⟨_, _, _, _, _, _, _, k, _⟩ := h9
            exact SqL.of (k.get eru7)
          · obtain ⟨y5, y6, y7, y8, y9, y10, rfl, k9, ed9⟩ := h9
            obtain ⟨rfl, e2⟩ := y
            obtain ⟨r, er, rfl⟩ := map_get e2
            have hno : r ∉ (usf M).take i := fun z => by
              obtain ⟨j, hj, ej⟩ := List.mem_iff_getElem.mp z
              rw [List.getElem_take] at ej
              obtain ⟨hi1, hi2⟩ := List.getElem?_eq_some_iff.mp er
              rw [List.length_take] at hj
              have := List.pairwise_iff_getElem.mp (usf_pw M) j i (by omega) hi1 (by omega)
              omega
            refine ⟨_, rfl, _, rfl, d, _, rfl, DPut.k ed9 (k := Sum.inl (r : Int)) (v := V.int 0) (by unfold fdl; rw [List.length_map, List.length_take]; exact sz_lt (by omega)), ?_⟩
            rw [putK_new _ (fdl_not hno)]
            refine ⟨_, _, _, _, _, _, rfl, k9.mut (.inl hd) ed9, ?_⟩
            rw [upd_same, List.take_add_one, er]
            unfold fdl
            rw [List.map_append]
            rfl
          · obtain ⟨y5, y6, y7, y8, y9, y10, rfl, k9, ed9⟩ := h9
            rw [List.take_of_length_le (by rw [List.length_map]; exact Nat.le_refl _)] at ed9
            have hLd : ∀ e ∈ (Ll.map fun z => (z.1, z.2.1)), e.1 ∈ usf M ∧ e.2 ∈ usf M := fun e he => by
              obtain ⟨z, hz, e1⟩ := List.mem_map.mp he
              rw [← e1]
              exact ⟨(hLl.all z hz).a, (hLl.all z hz).b⟩
            have hSt : ∀ e ∈ ((trimM M).S.map fun z => (z.1, z.2.2)), e.1 ∈ usf M ∧ e.2 ∈ usf M := fun e he => by
              obtain ⟨z, hz, e1⟩ := List.mem_map.mp he
              rw [← e1]
              have h2 := (List.mem_filter.mp hz).2
              rw [Bool.and_eq_true, decide_eq_true_iff, decide_eq_true_iff] at h2
              exact h2
            have hb1 : ∀ e ∈ (Ll.map fun z => (z.1, z.2.1)), hh e.1 + 1 ≤ hh e.2 := fun e he => by
              obtain ⟨z, hz, e1⟩ := List.mem_map.mp he
              rw [← e1]
              have hz1 := hLl.all z hz
              exact hh2 _ hz1.a _ hz1.b hz1.ne _ hz1.w
            have hb2 : ∀ e ∈ ((trimM M).S.map fun z => (z.1, z.2.2)), hh e.1 + 0 ≤ hh e.2 := fun e he => by
              obtain ⟨z, hz, e1⟩ := List.mem_map.mp he
              rw [← e1]
              exact hh3 z hz
            refine ⟨fun mm σ H10 => ∃ (c : Bool) (f : Nat → Nat) (y5 y7 y8 y9 y10 : Option V), σ = [some (.ref m), some (.ref ru), some (.ref D), some (.ref D2), some (.ref d), y5, some (.bl c), y7, y8, y9, y10] ∧ Kp T [] H7 H10 ∧ H10 d = some (.dK (fdl (usf M) f)) ∧ (∀ v ∈ usf M, f v ≤ hh v) ∧ Jst (Ll.map fun z => (z.1, z.2.1)) (usf M) f ∧ (c = false → ∀ e ∈ (Ll.map fun z => (z.1, z.2.1)), f e.1 + 1 ≤ f e.2) ∧ mm = sm (usf M) (fun v => hh v - f v) + (if c = true then 1 else 0), ⟨_, true, fun _ => 0, _, _, _, _, _, rfl, k9, ed9, (fun _ _ => Nat.zero_le _), (fun _ _ h => absurd h (Nat.lt_irrefl _)), (fun z => nomatch z), rfl⟩, fun mm σ H10 h10 => ?_⟩
            obtain ⟨c, f, y5, y7, y8, y9, y10, rfl, k10, ed10, hfh, hJ, hst, hmm⟩ := h10
            refine ⟨_, rfl, c, rfl, ?_⟩
            cases c with
            | true =>
              refine iteT ⟨fun σ' H' => ∃ m', m' < mm ∧ _, fun _ _ h => h, ?_⟩
              have hE10 : EdgesAt H10 us (Ll.map fun z => (z.1, z.2.1)) := paired_kp (f := rndV) hus7 k10
              refine ⟨_, rfl, _, rfl, d, D, us, (Ll.map fun z => (z.1, z.2.1)), 1, usf M, f, rfl, ed10, k10.get eD7, hE10, hLd, by omega, fun H11 b1 g1 k11 ed11 hR1 hf1 ht1 => ?_⟩
              have kx : Kp T [] H7 H11 := k10.drop k11 (fun b hb => .inr (by rw [List.mem_singleton.mp hb]; exact hd))
              have hus2_11 : EdgesAt H11 us2 ((trimM M).S.map fun z => (z.1, z.2.2)) := paired_kp (f := rndV) hus2 kx
              refine ⟨_, rfl, _, rfl, _, rfl, d, D2, us2, ((trimM M).S.map fun z => (z.1, z.2.2)), 0, usf M, g1, rfl, ed11, kx.get eD2, hus2_11, hSt, by omega, fun H12 b2 g2 k12 ed12 hR2 hf2 ht2 => ?_⟩
              have ky : Kp T [] H7 H12 := kx.drop k12 (fun b hb => .inr (by rw [List.mem_singleton.mp hb]; exact hd))
              have hg1 := hR1.under hLd hb1 hfh
              have hg2 := hR2.under hSt hb2 hg1
              have m1 := hR1.mono
              have m2 := hR2.mono
              refine ⟨b1, b2, rfl, rfl, ?_⟩
              refine ⟨_, ?_, (b1 || b2), g2, _, _, _, _, _, rfl, ky, ed12, hg2, (hJ.one hR1).nil hR2 hSt, fun hb e he => ?_, rfl⟩
              · rw [hmm]
                cases hbb : (b1 || b2) with
                | false =>
                  have hle : sm (usf M) (fun v => hh v - g2 v) ≤ sm (usf M) (fun v => hh v - f v) := sm_mono fun v hv => by
                    have := m1 v
                    have := m2 v
                    omega
                  show _ + 0 < _ + 1
                  omega
                | true =>
                  have hlt : sm (usf M) (fun v => hh v - g2 v) < sm (usf M) (fun v => hh v - f v) := by
                    refine sm_lt (fun v hv => ?_) ?_
                    · have := m1 v
                      have := m2 v
                      omega
                    · rw [Bool.or_eq_true] at hbb
                      rcases hbb with z | z
                      · obtain ⟨v, hv, hlt⟩ := ht1 z
                        have := m2 v
                        have := hg2 v hv
                        exact ⟨v, hv, by omega⟩
                      · obtain ⟨v, hv, hlt⟩ := ht2 z
                        have := m1 v
                        have := hg2 v hv
                        exact ⟨v, hv, by omega⟩
                  show _ + 1 < _ + 1
                  omega
              · rw [Bool.or_eq_false_iff] at hb
                obtain ⟨e1, h1⟩ := hf1 hb.1
                obtain ⟨e2, _⟩ := hf2 hb.2
                rw [e2, e1]
                exact h1 e he
            | false =>
              refine iteF ?_
              have hst := hst rfl
              have kall := k17.trans k10
              obtain ⟨mf, ml, ms, mts, hm⟩ := hM.kp kall
              refine ⟨_, rfl, m, _, 0, _, rfl, rfl, SqT.of hm.m, rfl, (M.n : Int), rfl, by omega, by omega, fun D3 hD3 => ?_⟩
              refine lc_it walk_range0 (fun i H11 => Kp T [] H10 H11 ∧ i ≤ M.n ∧ H11 D3 = some (.lst ((List.range i).map (rkV M f)))) ⟨Kp.new hD3, Nat.zero_le _, upd_same⟩ (fun _ _ _ _ => trivial) (fun i x H11 H12 hi h11 y => ?_) (fun H11 h11 => ?_)
              · obtain ⟨k11, hi', eD3⟩ := h11
                obtain ⟨rfl, rfl⟩ := y
                have hi2 : i < M.n := by omega
                have ed12 := k11.get ed10
                refine ⟨rfl, ?_⟩
                refine ⟨_, rfl, d, rfl, .inl ⟨_, .inl ed12⟩, _, rfl, _, DGet.k ed12 (k := Sum.inl (i : Int)), ?_⟩
                have ev : (valV (fdl (usf M) f) (Sum.inl (i : Int))).getD V.non = rkV M f i := by
                  unfold rkV
                  by_cases h : i ∈ usf M
                  · rw [fdl_get h, if_pos h]
                    rfl
                  · rw [fdl_not h, if_neg h]
                    rfl
                rw [ev]
                refine ⟨_, eD3, by rw [List.length_map, List.length_range]; exact sz_lt (by omega), k11.mut (.inl hD3) eD3, hi2, ?_⟩
                rw [upd_same, List.range_succ, List.map_append]
                rfl
              · obtain ⟨k11, _, eD3⟩ := h11
                rw [Int.toNat_natCast] at eD3
                refine q H11 D3 f (kall.trans k11) eD3 nd ⟨fun r hr o ho hne u hu => ?_, fun v hv h0 => ?_, fun v hv => ?_⟩
                · obtain ⟨z, hz, e1, e2⟩ := hLl.has r hr o ho hne u hu
                  have := hst (z.1, z.2.1) (List.mem_map.mpr ⟨z, hz, rfl⟩)
                  rw [e1, e2] at this
                  exact this
                · obtain ⟨e, he, hle⟩ := hJ v hv h0
                  obtain ⟨z, hz, e1⟩ := List.mem_map.mp he
                  have hz1 := hLl.all z hz
                  rw [← e1] at hle
                  exact ⟨z.1, hz1.a, z.2.1, hz1.b, hz1.ne, ⟨_, hz1.w⟩, hle⟩
                · have := hfh v hv
                  have := hh1 v
                  omega
end
end K51
/-! the greatest rank; shortest texts -/
namespace K51
open PySem PySem.Spec PyProof.Rows L2 NdefX LamX
structure MaxR (M : Mac) (f : Nat → Nat) (k : Nat) : Prop where
  le : ∀ v ∈ usf M, f v ≤ k
  at' : k = 0 ∨ ∃ v ∈ usf M, f v = k
theorem MaxR.uniq {M : Mac} {f : Nat → Nat} {k l : Nat} (a : MaxR M f k) (b : MaxR M f l) : k = l := by
  have h1 : k ≤ l := by
    rcases a.at' with e | ⟨v, hv, e⟩
    · omega
    · rw [← e]
      exact b.le v hv
  have h2 : l ≤ k := by
    rcases b.at' with e | ⟨v, hv, e⟩
    · omega
    · rw [← e]
      exact a.le v hv
  omega
theorem pair_snd {β γ : Type} {R : β → γ → Prop} {xs : List β} {bs : List γ} (h : Paired R xs bs) : ∀ b ∈ bs, ∃ x ∈ xs, R x b := by
  induction h with
  | nil => intro b hb; cases hb
  | @cons a c xs bs q _ ih =>
    intro b hb
    rcases List.mem_cons.mp hb with e | e
    · exact ⟨a, List.mem_cons_self, e ▸ q⟩
    · obtain ⟨x, hx, hr⟩ := ih b e
      exact ⟨x, List.mem_cons_of_mem _ hx, hr⟩
theorem rch_pth {S : List Step} {a b : Nat} (h : Rch (fwd S) a b) : ∃ w, Pth (inx S) w a b := by
  induction h with
  | refl => exact ⟨[], .nil _⟩
  | step _ e ih =>
    obtain ⟨w, hw⟩ := ih
    obtain ⟨s, hs, e1⟩ := List.mem_map.mp e
    obtain ⟨s1, s2, s3⟩ := s
    cases e1
    exact ⟨w ++ [s2], hw.snoc (mem_succs.mpr hs)⟩
theorem rch_pthB {S : List Step} {a b : Nat} (h : Rch (bwd S) a b) : ∃ w, Pth (inx S) w b a := by
  induction h with
  | refl => exact ⟨[], .nil _⟩
  | step _ e ih =>
    obtain ⟨w, hw⟩ := ih
    obtain ⟨s, hs, e1⟩ := List.mem_map.mp e
    obtain ⟨s1, s2, s3⟩ := s
    cases e1
    exact ⟨s2 :: w, .cons (mem_succs.mpr hs) hw⟩
section
variable {P : Program} {w : World} {K : PySem.W.Frag} {mg : Str → Option Value} {base : Heap} {T : List NTab}
def sp_greatest_rank (T : List NTab) : Sp := fun vs H Q _ => ∃ (a : Addr) (M : Mac) (f : Nat → Nat), vs = [.ref a] ∧ H a = some (.lst ((List.range M.n).map (rkV M f))) ∧ M.n ≤ 5 ∧ ∀ H' k, Kp T [] H H' → MaxR M f k → Q (ni k) H'
theorem ok_greatest_rank (F : Fn K mg "greatest_rank" s_greatest_rank) (Tx : Txt mg) : DOk P w K mg base "greatest_rank" 1 ["some"] [] (sp_greatest_rank T) := by
  refine F.dok sc_greatest_rank b_greatest_rank (fun vs H Q E h => ?_) (fun f cdv A outer s H vs Q E hr h => ?_)
  · obtain ⟨a, M, f, rfl, _⟩ := h
    rfl
  · obtain ⟨a, M, g, rfl, ha, hn5, q⟩ := h
    refine ⟨_, (pss_one (ps_ret (pe_callBK (cr_maxK rfl) (by rfl) Tx.n_max (by decide +kernel) (pa_cons (pe_lc (own := [("rank", 1)]) (g := gName 1) (by rfl) sc_greatest_rank.nd (pi_list (pv 0)) (blkOk_by (N := ["some", "rank"]) (sc := (defScope s_greatest_rank)) (own := [("rank", 1)]) (by decide +kernel)) (fun _ _ _ _ _ => (pg_name (i := 1) sc_greatest_rank.nd rfl (by first | exact .inl rfl | exact .inr rfl))) (fun _ _ _ _ _ => (pts_one (pt_cmpR op_notN (pv 1) pe_non (nomark _)))) (fun _ _ _ _ _ => (pv 1))) pa_nil) (pk_cons pe_int pk_nil)))), ?_⟩
    refine ⟨_, rfl, a, rfl, ⟨_, SqL.of ha⟩, fun D hD => ?_⟩
    refine lc_it (walk_list (xs := (List.range M.n).map (rkV M g))) (fun i H1 => Kp T [] H H1 ∧ H1 D = some (.lst ((((List.range M.n).take i).filter fun r => decide (r ∈ usf M)).map fun r => ni (g r)))) ⟨Kp.new hD, upd_same⟩ (fun i H1 _ h1 => SqL.of (h1.1.get ha)) (fun i x H1 H2 hi h1 y => ?_) (fun H1 h1 => ?_)
    · obtain ⟨k, eD⟩ := h1
      obtain ⟨rfl, e2⟩ := y
      have e3 : ∃ r, (List.range M.n)[i]? = some r ∧ x = rkV M g r := by
        rw [List.getElem?_map] at e2
        obtain ⟨r, h1, h2⟩ := Option.map_eq_some_iff.mp e2
        exact ⟨r, h1, h2.symm⟩
      obtain ⟨r, er, rfl⟩ := e3
      refine ⟨rfl, ?_⟩
      refine ⟨_, rfl, rfl, ?_⟩
      by_cases h : r ∈ usf M
      · have ev : rkV M g r = ni (g r) := if_pos h
        rw [ev]
        refine ⟨true, rfl, iteT ?_⟩
        refine ⟨_, rfl, _, eD, ?_, k.mut (.inl hD) eD, ?_⟩
        · rw [List.length_map]
          have := List.length_filter_le (fun r => decide (r ∈ usf M)) ((List.range M.n).take i)
          rw [List.length_take, List.length_range] at this
          exact sz_lt (by omega)
        · rw [upd_same, filt_pos er (decide_eq_true h), List.map_append]
          rfl
      · have ev : rkV M g r = .non := if_neg h
        rw [ev]
        refine ⟨false, rfl, iteF ⟨k, ?_⟩⟩
        rw [eD, filt_neg er (decide_eq_false h)]
    · obtain ⟨k, eD⟩ := h1
      rw [List.take_of_length_le (by rw [List.length_map]; exact Nat.le_refl _)] at eD
      have mem : ∀ r, r ∈ (List.range M.n).filter (fun r => decide (r ∈ usf M)) ↔ r ∈ usf M := fun r => by
        rw [List.mem_filter, List.mem_range, decide_eq_true_iff]
        exact ⟨fun h => h.2, fun h => ⟨usf_lt r h, h⟩⟩
      refine ⟨D, ((List.range M.n).filter fun r => decide (r ∈ usf M)).map fun r => ((g r : Nat) : Int), .int 0, rfl, rfl, ?_, fun h0 => ?_, fun mm hm hle => ?_⟩
      · rw [List.map_map]
        exact SqL.of eD
      · refine q H1 0 k ⟨fun v hv => ?_, .inl rfl⟩
        have h1 := (mem v).mpr hv
        have h2 := List.map_eq_nil_iff.mp h0
        rw [h2] at h1
        cases h1
      · obtain ⟨r, hr, e⟩ := List.mem_map.mp hm
        rw [← e]
        refine q H1 (g r) k ⟨fun v hv => ?_, .inr ⟨r, (mem r).mp hr, rfl⟩⟩
        have := hle _ (List.mem_map.mpr ⟨v, (mem v).mpr hv, rfl⟩)
        rw [← e] at this
        omega
def sp_shortest (T : List NTab) : Sp := fun vs H Q _ => ∃ (a : Addr) (xs : List V), vs = [.ref a] ∧ H a = some (.lst xs) ∧ (∀ x ∈ xs, x = .non ∨ ∃ z, x = wd z ∧ z.length ≤ 1000) ∧ (∃ z, wd z ∈ xs) ∧ xs.length ≤ 1000 ∧ ∀ H' z, Kp T [] H H' → wd z ∈ xs → Q (wd z) H'
theorem ok_shortest (F : Fn K mg "shortest" s_shortest) (Tx : Txt mg) : DOk P w K mg base "shortest" 1 ["texts"] [] (sp_shortest T) := by
  refine F.dok sc_shortest b_shortest (fun vs H Q E h => ?_) (fun f cdv A outer s H vs Q E hr h => ?_)
  · obtain ⟨a, xs, rfl, _⟩ := h
    rfl
  · obtain ⟨a, xs, rfl, ha, hx, hz, hl, q⟩ := h
    refine ⟨_, (pss_one (ps_ret (pe_minL rfl (by rfl) Tx.n_min (by rfl) Tx.n_len (pa_cons (pe_lc (own := [("text", 1)]) (g := gName 1) (by rfl) sc_shortest.nd (pi_list (pv 0)) (blkOk_by (N := ["texts", "text"]) (sc := (defScope s_shortest)) (own := [("text", 1)]) (by decide +kernel)) (fun _ _ _ _ _ => (pg_name (i := 1) sc_shortest.nd rfl (by first | exact .inl rfl | exact .inr rfl))) (fun _ _ _ _ _ => (pts_one (pt_cmpR op_notN (pv 1) pe_non (nomark _)))) (fun _ _ _ _ _ => (pv 1))) pa_nil)))), ?_⟩
    refine ⟨_, rfl, a, rfl, ⟨_, SqL.of ha⟩, fun D hD => ?_⟩
    refine lc_it (walk_list (xs := xs)) (fun i H1 => ∃ zs : List (List Nat), Kp T [] H H1 ∧ H1 D = some (.lst (zs.map wd)) ∧ zs.length ≤ i ∧ (∀ z ∈ zs, wd z ∈ xs ∧ z.length ≤ 1000) ∧ ∀ z, wd z ∈ xs.take i → z ∈ zs) ⟨[], Kp.new hD, upd_same, Nat.le_refl _, (fun _ h => nomatch h), fun _ h => nomatch h⟩ (fun i H1 _ h1 => by obtain ⟨_, k, _⟩ := h1; exact SqL.of (k.get ha)) (fun i x H1 H2 hi h1 y => ?_) (fun H1 h1 => ?_)
    · obtain ⟨zs, k, eD, hzl, hzs, hall⟩ := h1
      obtain ⟨rfl, e2⟩ := y
      have hxm := List.mem_of_getElem? e2
      have tk : ∀ y, y ∈ xs.take (i + 1) → y ∈ xs.take i ∨ y = x := fun y hy => by
        rw [List.take_add_one, e2] at hy
        rcases List.mem_append.mp hy with h | h
        · exact .inl h
        · exact .inr (List.mem_singleton.mp h)
      refine ⟨rfl, ?_⟩
      refine ⟨_, rfl, rfl, ?_⟩
      rcases hx x hxm with rfl | ⟨z, rfl, hz1⟩
      · refine ⟨false, rfl, iteF ⟨zs, k, eD, by omega, hzs, fun z hz => ?_⟩⟩
        rcases tk _ hz with h | h
        · exact hall z h
        · cases h
      · refine ⟨true, rfl, iteT ?_⟩
        refine ⟨_, rfl, _, eD, by rw [List.length_map]; exact sz_lt (by omega), zs ++ [z], k.mut (.inl hD) eD, by rw [upd_same, List.map_append]; rfl, by rw [List.length_append]; show _ + 1 ≤ _; omega, fun z' hz' => ?_, fun z' hz' => ?_⟩
        · rcases List.mem_append.mp hz' with h | h
          · exact hzs z' h
          · rw [List.mem_singleton.mp h]
            exact ⟨hxm, hz1⟩
        · rcases tk _ hz' with h | h
          · exact List.mem_append_left _ (hall z' h)
          · have : z' = z := tx_inj (V.str.inj h)
            rw [this]
            exact List.mem_append_right _ List.mem_cons_self
    · obtain ⟨zs, k, eD, hzl, hzs, hall⟩ := h1
      rw [List.take_of_length_le (Nat.le_refl _)] at hall
      obtain ⟨z0, hz0⟩ := hz
      refine ⟨D, zs, rfl, SqL.of eD, fun e => ?_, fun z hz => by have := (hzs z hz).2; omega, fun z hz => q H1 z k (hzs z hz).1⟩
      have := hall z0 hz0
      rw [e] at this
      cases this
def sp_text_to (T : List NTab) : Sp := fun vs H Q _ => ∃ (m : Addr) (M : Mac) (r : Nat), vs = [.ref m, ni r] ∧ MAt [] H m M ∧ M.Ok ∧ r ∈ usf M ∧ TabsN T H ∧ ∀ H' u, Kp T [] H H' → (∃ f ∈ M.fs, Pth (inx M.S) u f r) → u.length ≤ 1000 → Q (wd u) H'
def sp_text_from (T : List NTab) : Sp := fun vs H Q _ => ∃ (m : Addr) (M : Mac) (r : Nat), vs = [.ref m, ni r] ∧ MAt [] H m M ∧ M.Ok ∧ r ∈ usf M ∧ TabsN T H ∧ ∀ H' u, Kp T [] H H' → (∃ l ∈ M.ls, Pth (inx M.S) u r l) → u.length ≤ 1000 → Q (wd u) H'
theorem ok_text_to (F : Fn K mg "text_to" s_text_to) (Tx : Txt mg) (D_text_between : DOk P w K mg base "text_between" 6 ["machine", "room", "other"] [] (sp_text_between T)) (D_shortest : DOk P w K mg base "shortest" 1 ["texts"] [] (sp_shortest T)) : DOk P w K mg base "text_to" 7 ["machine", "room"] [] (sp_text_to T) := by
  refine F.dok sc_text_to b_text_to (fun vs H Q E h => ?_) (fun f cdv A outer s H vs Q E hr h => ?_)
  · obtain ⟨m, M, r, rfl, _⟩ := h
    rfl
  · obtain ⟨m, M, r, rfl, hM, ok, hru, hT, q⟩ := h
    obtain ⟨af, al', as, ts, hm⟩ := id hM
    have hfl := rise_len ok.fs ok.fb
    have hhi := ok.hi
    have hrn := usf_lt r hru
    refine ⟨_, (pss_one (ps_ret (pe_d D_shortest hr (by rfl) (pa_cons (pe_lc (own := [("first", 2)]) (g := gName 2) (tt := tYes) (by rfl) sc_text_to.nd (pi_list (pe_ix ix_tup (pv 0) pe_int (fun _ _ => rfl))) (blkOk_by (N := ["machine", "room", "first"]) (sc := (defScope s_text_to)) (own := [("first", 2)]) (by decide +kernel)) (fun _ _ _ _ _ => (pg_name (i := 2) sc_text_to.nd rfl (by first | exact .inl rfl | exact .inr rfl))) (fun _ _ _ _ _ => pts_nil) (fun _ _ _ _ _ => (pe_d D_text_between hr (by rfl) (pa_cons (pv 0) (pa_cons (pv 2) (pa_cons (pv 1) pa_nil)))))) pa_nil)))), ?_⟩
    refine ⟨_, rfl, m, _, 1, _, rfl, rfl, SqT.of hm.m, rfl, af, rfl, ⟨_, SqL.of hm.f⟩, fun D hD => ?_⟩
    refine lc_it (walk_list (xs := M.fs.map ni)) (fun i H1 => ∃ xs : List V, Kp T [] H H1 ∧ H1 D = some (.lst xs) ∧ Paired (fun v f => Link M.S f r v) xs (M.fs.take i)) ⟨[], Kp.new hD, upd_same, .nil⟩ (fun i H1 _ h1 => by obtain ⟨_, k, _⟩ := h1; exact SqL.of (k.get hm.f)) (fun i x H1 H2 hi h1 y => ?_) (fun H1 h1 => ?_)
    · obtain ⟨xs, k, eD, hxs⟩ := h1
      obtain ⟨rfl, e2⟩ := y
      obtain ⟨f', ef, rfl⟩ := map_get e2
      have hxl := Paired.length hxs
      rw [List.length_take] at hxl
      refine ⟨rfl, ?_⟩
      refine ⟨_, rfl, _, rfl, _, rfl, m, M, f', r, rfl, hM.kp k, ok, ok.fb f' (List.mem_of_getElem? ef), hrn, k.tab hT, fun H3 v k3 hv => ?_⟩
      have eD3 := k3.get eD
      refine ⟨_, eD3, sz_lt (by omega), xs ++ [v], (k.trans k3).mut (.inl hD) eD3, upd_same, ?_⟩
      rw [List.take_add_one, ef]
      exact Paired.snoc hxs hv
    · obtain ⟨xs, k, eD, hxs⟩ := h1
      rw [List.take_of_length_le (by rw [List.length_map]; exact Nat.le_refl _)] at hxs
      have hxl := Paired.length hxs
      obtain ⟨f0, hf0, hrch⟩ := (mem_usf.mp hru).2.1
      obtain ⟨w0, hw0⟩ := rch_pth hrch
      refine ⟨D, xs, rfl, eD, fun x hx => ?_, ?_, by omega, fun H3 z k3 hz => ?_⟩
      · obtain ⟨j, hj⟩ := List.mem_iff_getElem?.mp hx
        obtain ⟨f', _, hv⟩ := pair_fst hxs hj
        rcases hv with ⟨e, _⟩ | ⟨u, e, _, hl⟩
        · exact .inl e
        · exact .inr ⟨u, e, hl⟩
      · obtain ⟨x, hx, hv⟩ := pair_snd hxs f0 hf0
        rcases hv with ⟨_, hno⟩ | ⟨u, e, _, hl⟩
        · exact absurd hw0 (hno w0)
        · exact ⟨u, e ▸ hx⟩
      · obtain ⟨j, hj⟩ := List.mem_iff_getElem?.mp hz
        obtain ⟨f', hf', hv⟩ := pair_fst hxs hj
        rcases hv with ⟨e, _⟩ | ⟨u, e, hp, hl⟩
        · cases e
        · have : z = u := tx_inj (V.str.inj e)
          rw [this]
          exact q H3 u (k.trans k3) ⟨f', List.mem_of_getElem? hf', hp⟩ hl
theorem ok_text_from (F : Fn K mg "text_from" s_text_from) (Tx : Txt mg) (D_text_between : DOk P w K mg base "text_between" 6 ["machine", "room", "other"] [] (sp_text_between T)) (D_shortest : DOk P w K mg base "shortest" 1 ["texts"] [] (sp_shortest T)) : DOk P w K mg base "text_from" 7 ["machine", "room"] [] (sp_text_from T) := by
  refine F.dok sc_text_from b_text_from (fun vs H Q E h => ?_) (fun f cdv A outer s H vs Q E hr h => ?_)
  · obtain ⟨m, M, r, rfl, _⟩ := h
    rfl
  · obtain ⟨m, M, r, rfl, hM, ok, hru, hT, q⟩ := h
    obtain ⟨af, al', as, ts, hm⟩ := id hM
    have hfl := rise_len ok.ls ok.lb
    have hhi := ok.hi
    have hrn := usf_lt r hru
    refine ⟨_, (pss_one (ps_ret (pe_d D_shortest hr (by rfl) (pa_cons (pe_lc (own := [("last", 2)]) (g := gName 2) (tt := tYes) (by rfl) sc_text_from.nd (pi_list (pe_ix ix_tup (pv 0) pe_int (fun _ _ => rfl))) (blkOk_by (N := ["machine", "room", "last"]) (sc := (defScope s_text_from)) (own := [("last", 2)]) (by decide +kernel)) (fun _ _ _ _ _ => (pg_name (i := 2) sc_text_from.nd rfl (by first | exact .inl rfl | exact .inr rfl))) (fun _ _ _ _ _ => pts_nil) (fun _ _ _ _ _ => (pe_d D_text_between hr (by rfl) (pa_cons (pv 0) (pa_cons (pv 1) (pa_cons (pv 2) pa_nil)))))) pa_nil)))), ?_⟩
    refine ⟨_, rfl, m, _, 2, _, rfl, rfl, SqT.of hm.m, rfl, al', rfl, ⟨_, SqL.of hm.l⟩, fun D hD => ?_⟩
    refine lc_it (walk_list (xs := M.ls.map ni)) (fun i H1 => ∃ xs : List V, Kp T [] H H1 ∧ H1 D = some (.lst xs) ∧ Paired (fun v f => Link M.S r f v) xs (M.ls.take i)) ⟨[], Kp.new hD, upd_same, .nil⟩ (fun i H1 _ h1 => by obtain ⟨_, k, _⟩ := h1; exact SqL.of (k.get hm.l)) (fun i x H1 H2 hi h1 y => ?_) (fun H1 h1 => ?_)
    · obtain ⟨xs, k, eD, hxs⟩ := h1
      obtain ⟨rfl, e2⟩ := y
      obtain ⟨f', ef, rfl⟩ := map_get e2
      have hxl := Paired.length hxs
      rw [List.length_take] at hxl
      refine ⟨rfl, ?_⟩
      refine ⟨_, rfl, _, rfl, _, rfl, m, M, r, f', rfl, hM.kp k, ok, hrn, ok.lb f' (List.mem_of_getElem? ef), k.tab hT, fun H3 v k3 hv => ?_⟩
      have eD3 := k3.get eD
      refine ⟨_, eD3, sz_lt (by omega), xs ++ [v], (k.trans k3).mut (.inl hD) eD3, upd_same, ?_⟩
      rw [List.take_add_one, ef]
      exact Paired.snoc hxs hv
    · obtain ⟨xs, k, eD, hxs⟩ := h1
      rw [List.take_of_length_le (by rw [List.length_map]; exact Nat.le_refl _)] at hxs
      have hxl := Paired.length hxs
      obtain ⟨f0, hf0, hrch⟩ := (mem_usf.mp hru).2.2
      obtain ⟨w0, hw0⟩ := rch_pthB hrch
      refine ⟨D, xs, rfl, eD, fun x hx => ?_, ?_, by omega, fun H3 z k3 hz => ?_⟩
      · obtain ⟨j, hj⟩ := List.mem_iff_getElem?.mp hx
        obtain ⟨f', _, hv⟩ := pair_fst hxs hj
        rcases hv with ⟨e, _⟩ | ⟨u, e, _, hl⟩
        · exact .inl e
        · exact .inr ⟨u, e, hl⟩
      · obtain ⟨x, hx, hv⟩ := pair_snd hxs f0 hf0
        rcases hv with ⟨_, hno⟩ | ⟨u, e, _, hl⟩
        · exact absurd hw0 (hno w0)
        · exact ⟨u, e ▸ hx⟩
      · obtain ⟨j, hj⟩ := List.mem_iff_getElem?.mp hz
        obtain ⟨f', hf', hv⟩ := pair_fst hxs hj
        rcases hv with ⟨e, _⟩ | ⟨u, e, hp, hl⟩
        · cases e
        · have : z = u := tx_inj (V.str.inj e)
          rw [this]
          exact q H3 u (k.trans k3) ⟨f', List.mem_of_getElem? hf', hp⟩ hl
end
end K51
/-! the chain -/
namespace K51
open PySem PySem.Spec PyProof.Rows L2 NdefX LamX
/-- each round leads to the next -/
def Lk (M : Mac) : List Tri → Prop
  | [] => True
  | [_] => True
  | z :: y :: r => (∃ u, Pth (inx M.S) u z.2.1 y.1) ∧ Lk M (y :: r)
theorem rk_at {M : Mac} {f : Nat → Nat} {r : Nat} (h : r ∈ usf M) : ((List.range M.n).map (rkV M f))[r]? = some (ni (f r)) := by
  rw [List.getElem?_map, List.getElem?_range (usf_lt r h)]
  show some (rkV M f r) = _
  unfold rkV
  rw [if_pos h]
section
variable {P : Program} {w : World} {K : PySem.W.Frag} {mg : Str → Option Value} {base : Heap} {T : List NTab}
def sp_chain_of (T : List NTab) : Sp := fun vs H Q _ => ∃ (m a : Addr) (M : Mac) (f : Nat → Nat) (k : Nat), vs = [.ref m, .ref a] ∧ MAt [] H m M ∧ M.Ok ∧ M.n ≤ 5 ∧ TabsN T H ∧ H a = some (.lst ((List.range M.n).map (rkV M f))) ∧ Rks M f ∧ MaxR M f k ∧ 0 < k ∧
  ∀ H' p ts L, Kp T [] H H' → H' p = some (.lst (ts.map V.ref)) → LdsAt H' ts L → (∀ z ∈ L, Led1 M z) → Lk M L → L ≠ [] → L.length ≤ 5 → Q (.ref p) H'
theorem ok_chain_of (F : Fn K mg "chain_of" s_chain_of) (Tx : Txt mg) (D_led_rounds : DOk P w K mg base "led_rounds" 8 ["machine"] [] (sp_led_rounds T)) (D_greatest_rank : DOk P w K mg base "greatest_rank" 1 ["some"] [] (sp_greatest_rank T))
    (D_text_between : DOk P w K mg base "text_between" 6 ["machine", "room", "other"] [] (sp_text_between T)) : DOk P w K mg base "chain_of" 9 ["machine", "some"] [] (sp_chain_of T) := by
  refine F.dok sc_chain_of b_chain_of (fun vs H Q E h => ?_) (fun f cdv A outer s H vs Q E hr h => ?_)
  · obtain ⟨m, a, M, f, k, rfl, _⟩ := h
    rfl
  · obtain ⟨m, a, M, g, kk, rfl, hM, ok, hn5, hT, ha, hR, hX, hk0, q⟩ := h
    have hk5 : kk ≤ 5 := by
      rcases hX.at' with e | ⟨v, hv, e⟩
      · omega
      · rw [← e]
        exact hR.hi v hv
    refine ⟨_, (pss_cons (ps_set (i := 2) sc_chain_of.nd rfl (by first | exact .inl rfl | exact .inr rfl) (pe_lst pa_nil))
      (pss_cons (ps_set (i := 3) sc_chain_of.nd rfl (by first | exact .inl rfl | exact .inr rfl) (pe_d D_led_rounds hr (by rfl) (pa_cons (pv 0) pa_nil)))
      (pss_cons (ps_for PassesOwn.never rfl (pi_range3 (by rfl) Tx.n_range (pa_cons (pe_d D_greatest_rank hr (by rfl) (pa_cons (pv 1) pa_nil)) (pa_cons pe_int (pa_cons (pe_un un_neg pe_int) pa_nil)))) (pg_name (i := 4) sc_chain_of.nd rfl (by first | exact .inl rfl | exact .inr rfl))
      (pss_one (ps_for PassesOwn.never rfl (pi_list (pv 3)) (pg_tup rfl (pgs_cons (pg_name (i := 5) sc_chain_of.nd rfl (by first | exact .inl rfl | exact .inr rfl)) (pgs_cons (pg_name (i := 6) sc_chain_of.nd rfl (by first | exact .inl rfl | exact .inr rfl)) (pgs_cons (pg_name (i := 7) sc_chain_of.nd rfl (by first | exact .inl rfl | exact .inr rfl)) pgs_nil))))
      (pss_cons (ps_set (i := 8) sc_chain_of.nd rfl (by first | exact .inl rfl | exact .inr rfl) (pe_and (pe_cmpR op_eq (pe_ix ix_list (pv 1) (pv 5) (fun _ _ => rfl)) (pe_op op_sub (pv 4) pe_int) (nomark _)) (pe_and (pe_cmpR op_eq (pe_ix ix_list (pv 1) (pv 6) (fun _ _ => rfl)) (pv 4) (nomark _)) (pe_one (pe_cmpR op_eq (pe_callB call_len_seq (by rfl) Tx.n_len (by decide +kernel) (pa_cons (pv 2) pa_nil)) (pe_op op_sub (pe_d D_greatest_rank hr (by rfl) (pa_cons (pv 1) pa_nil)) (pv 4)) (nomark _))))))
      (pss_one (ps_if (PW.pt (pw_and (pt_val (pv 8)) (pw_and1 (PW.pt (pw_or (pt_cmpR (op_eqNil (hu0 hr)) (pv 2) (pe_lst pa_nil) (nomark _)) (pw_or1 (pt_cmpR op_notN (pe_d D_text_between hr (by rfl) (pa_cons (pv 0) (pa_cons (pv 6) (pa_cons (pe_ix ix_tup (pe_ix ix_list (pv 2) pe_int (fun _ _ => rfl)) pe_int (fun _ _ => rfl)) pa_nil)))) pe_non (nomark _))))))))
      (pss_one (ps_expr (pe_bm PySem.F.plainAttrs_list PySem.F.slot_list_insert PySem.F.type_list_insert mt_insert (pv 2) (pa_cons pe_int (pa_cons (pe_tup (pa_cons (pv 5) (pa_cons (pv 6) (pa_cons (pv 7) pa_nil)))) pa_nil))))) pss_nil))))))
      (pss_one (ps_ret (pv 2)))))), ?_⟩
    refine ⟨sz_ok (by simp), fun fo hfo => ?_⟩
    have k1 : Kp T [] H (upd H fo (.lst [])) := Kp.new hfo
    have efo1 : upd H fo (.lst []) fo = some (.lst []) := upd_same
    generalize upd H fo (.lst []) = H1 at *
    refine ⟨_, rfl, m, M, rfl, hM.kp k1, ok, hn5, k1.tab hT, fun H2 pl tsl Ll k2 npl epl hpl hLl => ?_⟩
    have k12 := k1.trans k2
    have npf : pl ≠ fo := (ne_of_none efo1 npl).symm
    have efo2 := k2.get efo1
    have npl0 : H pl = none := k1.free npl
    obtain ⟨z0, hz0, hz1, hz2⟩ : ∃ z ∈ Ll, g z.1 + 1 = kk ∧ g z.2.1 = kk := by
      rcases hX.at' with e | ⟨v, hv, e⟩
      · omega
      · obtain ⟨r, hr', o, ho, hne, ⟨u, hu⟩, hle⟩ := hR.up v hv (by omega)
        have h1 := hR.st r hr' o ho hne u hu
        have h2 := hX.le o ho
        obtain ⟨z, hz, e1, e2⟩ := hLl.has r hr' o ho hne u hu
        exact ⟨z, hz, by rw [e1]; omega, by rw [e2]; omega⟩
    refine ⟨_, rfl, a, M, g, rfl, k12.get ha, hn5, fun H3 k3' kx hX3 => ?_⟩
    have ek := hX3.uniq hX
    subst ek
    have kH2 : Kp T [] H2 H3 := kx
    refine ⟨1, rfl, (k3' : Int), 0, -1, k3', rfl, ?_, ?_⟩
    · have := RgC.neg (i := (k3' : Int)) (j := 0) (by omega) (by omega) (by omega) (by omega)
      have e : ((k3' : Int) - 0).toNat = k3' := by omega
      rw [e] at this
      exact this
    refine for_it walk_rangeC (fun i σ H4 => ∃ (ts : List Addr) (Lc : List Tri) (y4 y5 y6 y7 y8 : Option V), σ = [some (.ref m), some (.ref a), some (.ref fo), some (.ref pl), y4, y5, y6, y7, y8] ∧ Kp T [] H H4 ∧ Kp T [fo] H2 H4 ∧ H4 fo = some (.lst (ts.map V.ref)) ∧ LdsAt H4 ts Lc ∧ (∀ z ∈ Lc, Led1 M z) ∧ Lk M Lc ∧ Lc.length ≤ i ∧ (0 < i → Lc ≠ [])) ⟨[], [], _, _, _, _, _, rfl, k12.trans kx, kx.nil, kx.get efo2, .nil, (fun _ h => nomatch h), True.intro, Nat.le_refl _, fun z => absurd z (Nat.lt_irrefl _)⟩ (fun _ _ _ _ _ => trivial) (fun i x σ H4 H5 hi h4 y => ?_) (fun σ H4 h4 => ?_)
    · obtain ⟨ts, Lc, y4, y5, y6, y7, y8, rfl, k4, k24, efo, hp, hall, hlk, hlen, hne⟩ := h4
      obtain ⟨rfl, rfl⟩ := y
      have erank : (k3' : Int) + ((i : Nat) : Int) * (-1) = ((k3' - i : Nat) : Int) := by omega
      refine ⟨_, rfl, pl, rfl, ⟨_, SqL.of (k24.getX epl (by simp [npf]))⟩, ?_⟩
      refine for_it (walk_list (xs := tsl.map V.ref)) (fun j σ H6 => ∃ (ts : List Addr) (Lc : List Tri) (y5 y6 y7 y8 : Option V), σ = [some (.ref m), some (.ref a), some (.ref fo), some (.ref pl), some (.int ((k3' : Int) + ((i : Nat) : Int) * (-1))), y5, y6, y7, y8] ∧ Kp T [] H H6 ∧ Kp T [fo] H2 H6 ∧ H6 fo = some (.lst (ts.map V.ref)) ∧ LdsAt H6 ts Lc ∧ (∀ z ∈ Lc, Led1 M z) ∧ Lk M Lc ∧ Lc.length ≤ i + 1 ∧ (0 < i → Lc ≠ []) ∧ (i = 0 → ∀ z ∈ Ll.take j, g z.1 + 1 = k3' → g z.2.1 = k3' → Lc ≠ [])) ⟨ts, Lc, _, _, _, _, rfl, k4, k24, efo, hp, hall, hlk, by omega, hne, fun _ _ h => nomatch h⟩ (fun j σ H6 _ h6 => ?_) (fun j x σ H6 H7 hj h6 y => ?_) (fun σ H6 h6 => ?_)
      · obtain ⟨_, _, _, _, _, _, _, _, k, _⟩ := h6
        exact SqL.of (k.getX epl (by simp [npf]))
      · obtain ⟨ts, Lc, y5, y6, y7, y8, rfl, k6, k26, efo, hp, hall, hlk, hlen, hne, hz⟩ := h6
        obtain ⟨rfl, e2⟩ := y
        obtain ⟨t, z, rfl, et, ez, hte⟩ := paired_get hpl e2
        have hz1' := hLl.all z (List.mem_of_getElem? ez)
        have hte7 : H7 t = some (.tup (triV z)) := k26.getX hte (by simp; exact ne_of hte efo2 (by intro z; cases z))
        have ha7 := k6.get ha
        have tk : ∀ y ∈ Ll.take (j + 1), y ∈ Ll.take j ∨ y = z := fun y hy => by
          rw [List.take_add_one, ez] at hy
          rcases List.mem_append.mp hy with h | h
          · exact .inl h
          · exact .inr (List.mem_singleton.mp h)
        have hpl2 := Paired.length hp
        refine ⟨t, _, rfl, SqT.of hte7, rfl, _, _, rfl, _, _, rfl, _, _, rfl, rfl, ?_⟩
        have nop : ∀ b : Bool, (i = 0 → g z.1 + 1 = k3' → g z.2.1 = k3' → Lc ≠ []) → ∃ (ts' : List Addr) (Lc' : List Tri) (y5 y6 y7 y8 : Option V), [some (V.ref m), some (.ref a), some (.ref fo), some (.ref pl), some (.int ((k3' : Int) + ((i : Nat) : Int) * (-1))), some (ni z.1), some (ni z.2.1), some (wd z.2.2), some (.bl b)] = [some (.ref m), some (.ref a), some (.ref fo), some (.ref pl), some (.int ((k3' : Int) + ((i : Nat) : Int) * (-1))), y5, y6, y7, y8] ∧ Kp T [] H H7 ∧ Kp T [fo] H2 H7 ∧ H7 fo = some (.lst (ts'.map V.ref)) ∧ LdsAt H7 ts' Lc' ∧ (∀ z ∈ Lc', Led1 M z) ∧ Lk M Lc' ∧ Lc'.length ≤ i + 1 ∧ (0 < i → Lc' ≠ []) ∧ (i = 0 → ∀ z ∈ Ll.take (j + 1), g z.1 + 1 = k3' → g z.2.1 = k3' → Lc' ≠ []) := fun b hzz => by
          refine ⟨ts, Lc, _, _, _, _, rfl, k6, k26, efo, hp, hall, hlk, hlen, hne, fun h0 z' hz' h1 h2 => ?_⟩
          rcases tk z' hz' with h | h
          · exact hz h0 z' h h1 h2
          · rw [h] at h1 h2
            exact hzz h0 h1 h2
        refine ⟨_, rfl, _, rfl, a, _, _, _, rfl, rfl, SqL.of ha7, atI_nat (rk_at hz1'.a), ?_⟩
        refine ⟨_, rfl, _, _, rfl, rfl, rfl, ?_⟩
        by_cases c1 : g z.1 + 1 = k3' - i
        · refine ⟨true, ?_, iteT ?_⟩
          · show V.bl (decide (V.int ((g z.1 : Nat) : Int) = V.int ((k3' : Int) + ((i : Nat) : Int) * (-1) - 1))) = V.bl true
            rw [decide_eq_true (by rw [erank]; congr 1; omega)]
          refine ⟨_, rfl, _, rfl, a, _, _, _, rfl, rfl, SqL.of ha7, atI_nat (rk_at hz1'.b), ?_⟩
          refine ⟨_, rfl, rfl, ?_⟩
          by_cases c2 : g z.2.1 = k3' - i
          · refine ⟨true, ?_, iteT ?_⟩
            · show V.bl (decide (V.int ((g z.2.1 : Nat) : Int) = V.int ((k3' : Int) + ((i : Nat) : Int) * (-1)))) = V.bl true
              rw [decide_eq_true (by rw [erank, c2])]
            refine ⟨_, rfl, fo, _, rfl, .inl (SqL.of efo), ?_⟩
            refine ⟨_, rfl, a, M, g, rfl, ha7, hn5, fun H8 k78 k8 hX8 => ?_⟩
            have ek := hX8.uniq hX3
            refine ⟨_, rfl, _, _, rfl, rfl, rfl, ?_⟩
            have efo8 := k8.get efo
            by_cases c3 : Lc.length = i
            · refine ⟨_, rfl, true, ?_, iteT ?_⟩
              · show V.bl (decide (V.int (((ts.map V.ref).length : Nat) : Int) = V.int ((k78 : Int) - ((k3' : Int) + ((i : Nat) : Int) * (-1))))) = V.bl true
                rw [decide_eq_true (by rw [List.length_map, hpl2, erank, c3]; congr 1; omega)]
              refine ⟨_, rfl, sz_ok (by simp), fun p0 hp0 => ?_⟩
              have kp0 : Kp T [] H8 (upd H8 p0 (.lst [])) := Kp.new hp0
              have ep0 : upd H8 p0 (.lst []) p0 = some (.lst []) := upd_same
              have k79 := k8.trans kp0
              generalize upd H8 p0 (.lst []) = H9 at *
              have efo9 := k79.get efo
              have hp9 : LdsAt H9 ts Lc := paired_kp (f := triV) hp k79
              have k69 := k6.trans k79
              have k269 := k26.trans k79.nil
              have ins : ∀ (bb : Bool) H10, Kp T [] H9 H10 → Lk M (z :: Lc) → ∀ p, H10 p = none → ∃ (l : Addr) (xs : List V) (i' : Int) (y : V), V.ref fo = .ref l ∧ [V.int 0, .ref p] = [.int i', y] ∧ upd H10 p (.tup (triV z)) l = some (.lst xs) ∧ xs.length < sizeLine ∧ 0 ≤ i' ∧ i' < 2 ^ 63 ∧ ∃ (ts' : List Addr) (Lc' : List Tri) (y5 y6 y7 y8 : Option V), [some (V.ref m), some (.ref a), some (.ref fo), some (.ref pl), some (.int ((k3' : Int) + ((i : Nat) : Int) * (-1))), some (ni z.1), some (ni z.2.1), some (wd z.2.2), some (.bl bb)] = [some (.ref m), some (.ref a), some (.ref fo), some (.ref pl), some (.int ((k3' : Int) + ((i : Nat) : Int) * (-1))), y5, y6, y7, y8] ∧ Kp T [] H (upd (upd H10 p (.tup (triV z))) l (.lst (xs.take i'.toNat ++ [y] ++ xs.drop i'.toNat))) ∧ Kp T [fo] H2 (upd (upd H10 p (.tup (triV z))) l (.lst (xs.take i'.toNat ++ [y] ++ xs.drop i'.toNat))) ∧ upd (upd H10 p (.tup (triV z))) l (.lst (xs.take i'.toNat ++ [y] ++ xs.drop i'.toNat)) fo = some (.lst (ts'.map V.ref)) ∧ LdsAt (upd (upd H10 p (.tup (triV z))) l (.lst (xs.take i'.toNat ++ [y] ++ xs.drop i'.toNat))) ts' Lc' ∧ (∀ z ∈ Lc', Led1 M z) ∧ Lk M Lc' ∧ Lc'.length ≤ i + 1 ∧ (0 < i → Lc' ≠ []) ∧ (i = 0 → ∀ z ∈ Ll.take (j + 1), g z.1 + 1 = k3' → g z.2.1 = k3' → Lc' ≠ []) := fun bb H10 k10 hlk2 p hp10 => by
                have efo10 := k10.get efo9
                have efp : upd H10 p (.tup (triV z)) fo = some (.lst (ts.map V.ref)) := by rw [upd_ne (ne_of_none efo10 hp10)]; exact efo10
                have kp : Kp T [] H10 (upd H10 p (.tup (triV z))) := Kp.new hp10
                refine ⟨fo, _, 0, _, rfl, rfl, efp, by rw [List.length_map]; exact sz_lt (by omega), by decide, by decide, p :: ts, z :: Lc, _, _, _, _, rfl, ((k69.trans k10).trans kp).mut (.inl hfo) efp, (k269.trans (k10.trans kp).nil).mut (.inr List.mem_cons_self) efp, by rw [upd_same]; rfl, .cons (by rw [upd_ne (ne_of_none efo10 hp10).symm, upd_same]) (paired_set (f := triV) (paired_off (f := triV) (paired_kp (f := triV) hp9 k10) hp10) efp), fun z' hz' => ?_, hlk2, by show Lc.length + 1 ≤ _; omega, (fun _ => by simp), (fun _ _ _ _ _ => by simp)⟩
                rcases List.mem_cons.mp hz' with h | h
                · rw [h]
                  exact hz1'
                · exact hall z' h
              refine ⟨fo, p0, _, rfl, rfl, SqL.of efo9, SqL.of ep0, (ts.map V.ref).isEmpty, rfl, ?_⟩
              cases hp9 with
              | nil =>
                refine iteT ?_
                refine ⟨_, rfl, .inl ⟨rfl, _, SqL.of efo9⟩, _, rfl, _, rfl, _, rfl, sz_ok (by simp), fun p hp10 => ?_⟩
                exact ins _ H9 (Kp.refl _) True.intro p hp10
              | @cons t1 y1 ts1 Lc1 hy1 hr1 =>
                refine iteF ?_
                have hy2 := hall y1 List.mem_cons_self
                refine ⟨_, rfl, _, rfl, _, rfl, fo, _, _, _, rfl, rfl, SqL.of efo9, atI_nat (j := 0) rfl, t1, _, 0, _, rfl, rfl, SqT.of hy1, rfl, ?_⟩
                refine ⟨m, M, z.2.1, y1.1, rfl, hM.kp k69, ok, usf_lt _ hz1'.b, usf_lt _ hy2.a, k69.tab hT, fun H10 v k10 hv => ?_⟩
                refine ⟨rfl, !decide (v = .non), rfl, ?_⟩
                rcases hv with ⟨rfl, hno⟩ | ⟨u, rfl, hu, _⟩
                · refine iteF ?_
                  refine ⟨t1 :: ts1, y1 :: Lc1, _, _, _, _, rfl, k69.trans k10, k269.trans k10.nil, k10.get efo9, paired_kp (f := triV) (.cons hy1 hr1) k10, hall, hlk, hlen, hne, fun h0 z' hz' h1 h2 => by simp⟩
                · refine iteT ?_
                  refine ⟨_, rfl, .inl ⟨rfl, _, SqL.of (k10.get efo9)⟩, _, rfl, _, rfl, _, rfl, sz_ok (by simp), fun p hp10 => ?_⟩
                  exact ins _ H10 k10 ⟨⟨u, hu⟩, hlk⟩ p hp10
            · refine ⟨_, rfl, false, ?_, iteF ?_⟩
              · show V.bl (decide (V.int (((ts.map V.ref).length : Nat) : Int) = V.int ((k78 : Int) - ((k3' : Int) + ((i : Nat) : Int) * (-1))))) = V.bl false
                rw [decide_eq_false (fun e => c3 (by rw [List.length_map, hpl2, erank] at e; injection e with e; omega))]
              refine ⟨ts, Lc, _, _, _, _, rfl, k6.trans k8, k26.trans k8.nil, efo8, paired_kp (f := triV) hp k8, hall, hlk, hlen, hne, fun h0 z' hz' h1 h2 => ?_⟩
              rcases tk z' hz' with h | h
              · exact hz h0 z' h h1 h2
              · intro e
                rw [e] at c3
                exact c3 h0.symm
          · refine ⟨false, ?_, iteF ?_⟩
            · show V.bl (decide (V.int ((g z.2.1 : Nat) : Int) = V.int ((k3' : Int) + ((i : Nat) : Int) * (-1)))) = V.bl false
              rw [decide_eq_false (fun e => c2 (by rw [erank] at e; injection e with e; omega))]
            refine ⟨_, rfl, false, rfl, iteF ?_⟩
            exact nop false fun h0 h1 h2 => by omega
        · refine ⟨false, ?_, iteF ?_⟩
          · show V.bl (decide (V.int ((g z.1 : Nat) : Int) = V.int ((k3' : Int) + ((i : Nat) : Int) * (-1) - 1))) = V.bl false
            rw [decide_eq_false (fun e => c1 (by rw [erank] at e; injection e with e; omega))]
          refine ⟨_, rfl, false, rfl, iteF ?_⟩
          exact nop false fun h0 h1 h2 => by omega
      · obtain ⟨ts, Lc, y5, y6, y7, y8, rfl, k6, k26, efo, hp, hall, hlk, hlen, hne, hz⟩ := h6
        rw [List.take_of_length_le (by rw [List.length_map, Paired.length hpl]; exact Nat.le_refl _)] at hz
        refine ⟨ts, Lc, _, _, _, _, _, rfl, k6, k26, efo, hp, hall, hlk, hlen, fun _ => ?_⟩
        by_cases h0 : i = 0
        · exact hz h0 z0 hz0 hz1 hz2
        · exact hne (by omega)
    · obtain ⟨ts, Lc, y4, y5, y6, y7, y8, rfl, k4, k24, efo, hp, hall, hlk, hlen, hne⟩ := h4
      exact ⟨_, rfl, q H4 fo ts Lc k4 efo hp hall hlk (hne hk0) (by omega)⟩
end
end K51
/-! the told pump -/
namespace K51
open PySem PySem.Spec PyProof.Rows L2 NdefX LamX
/-- a round of a told pump -/
structure Rnd1 (M : Mac) (z : Tri) : Prop where
  a : z.1 ∈ usf M
  b : z.2.1 ∈ usf M
  mid : Mid M.S z.2.2 z.1 z.2.1
  l : z.2.2.length ≤ 1000
  let' : ∀ c ∈ z.2.2, Let c
theorem pth_let {M : Mac} (ok : M.Ok) {u : List Nat} {r o : Nat} (p : Pth (inx M.S) u r o) : ∀ c ∈ u, Let c := by
  induction p with
  | nil => intro c hc; cases hc
  | cons e _ ih =>
    intro c hc
    rcases List.mem_cons.mp hc with z | z
    · rw [z]
      exact ok.let' _ (mem_succs.mp e)
    · exact ih c z
/-- the p-th text -/
structure OkT (M : Mac) (L : List Tri) (p : Nat) (u : List Nat) : Prop where
  fst : p = 0 → ∃ z, L[0]? = some z ∧ ∃ f ∈ M.fs, Pth (inx M.S) u f z.1
  odd : p % 2 = 1 → ∃ z, L[p / 2]? = some z ∧ u = z.2.2
  btw : p % 2 = 0 → 0 < p → p / 2 < L.length → ∃ z y, L[p / 2 - 1]? = some z ∧ L[p / 2]? = some y ∧ Pth (inx M.S) u z.2.1 y.1
  lst : p = 2 * L.length → ∃ z, L[L.length - 1]? = some z ∧ ∃ l ∈ M.ls, Pth (inx M.S) u z.2.1 l
  sz : u.length ≤ 1000
  let' : ∀ c ∈ u, Let c
theorem lk_at {M : Mac} : ∀ {L : List Tri} {i : Nat} {z y : Tri}, Lk M L → L[i]? = some z → L[i + 1]? = some y → ∃ u, Pth (inx M.S) u z.2.1 y.1
  | [], _, _, _, _, h, _ => by simp at h
  | [_], _, _, _, _, _, h => by simp at h
  | a :: b :: L, 0, z, y, h, h1, h2 => by
    have e1 : a = z := by simpa using h1
    have e2 : b = y := by simpa using h2
    rw [← e1, ← e2]
    exact h.1
  | a :: b :: L, i + 1, z, y, h, h1, h2 => lk_at (L := b :: L) (i := i) h.2 (by simpa using h1) (by simpa using h2)
theorem told_good {M : Mac} (ok : M.Ok) {L : List Tri} {ts : List (List Nat)} (h0 : L ≠ []) (h5 : L.length ≤ 5) (hall : ∀ z ∈ L, Rnd1 M z) (hl : ts.length = 2 * L.length + 1) (ht : ∀ p u, ts[p]? = some u → OkT M L p u) : Good M ⟨ts, L.map fun z => (z.1, z.2.1)⟩ := by
  have hn : 0 < L.length := by
    cases L with
    | nil => exact absurd rfl h0
    | cons _ _ => exact Nat.succ_pos _
  have hb := ok.bel
  have sub : ∀ s ∈ M.S, s ∈ M.S := fun _ h => h
  have rl : (L.map fun z : Tri => (z.1, z.2.1)).length = L.length := List.length_map _
  have R : ∀ i z, L[i]? = some z → (⟨ts, L.map fun z : Tri => (z.1, z.2.1)⟩ : Pump).R i = (z.1, z.2.1) := fun i z e => by
    unfold Pump.R List.getD
    show ((L.map fun z : Tri => (z.1, z.2.1))[i]?).getD (0, 0) = _
    rw [List.getElem?_map, e]
    rfl
  have TT : ∀ p, p < ts.length → OkT M L p ((⟨ts, L.map fun z : Tri => (z.1, z.2.1)⟩ : Pump).T p) := fun p hp => by
    refine ht p _ ?_
    unfold Pump.T List.getD
    show ts[p]? = some ((ts[p]?).getD [])
    rw [List.getElem?_eq_getElem hp]
    rfl
  have at_ : ∀ i, i < L.length → ∃ z, L[i]? = some z ∧ z ∈ L := fun i hi => ⟨L[i], List.getElem?_eq_getElem hi, List.getElem_mem hi⟩
  refine ⟨⟨by show 1 ≤ (L.map _).length; rw [rl]; exact hn, by show (L.map _).length ≤ 12; rw [rl]; omega, by show ts.length = 2 * (L.map _).length + 1; rw [rl]; exact hl, fun t htm => ?_, fun t htm => ?_, fun r hr => ?_⟩, ⟨?_, ?_, fun i hi => ?_, fun i h1 hi => ?_⟩, fun _ => by show (L.map _).length ≤ 11; rw [rl]; omega⟩
  · obtain ⟨p, hp⟩ := List.mem_iff_getElem?.mp htm
    exact (ht p t hp).let'
  · obtain ⟨p, hp⟩ := List.mem_iff_getElem?.mp htm
    exact (ht p t hp).sz
  · obtain ⟨z, hz, e⟩ := List.mem_map.mp hr
    rw [← e]
    exact ⟨usf_lt _ (hall z hz).a, usf_lt _ (hall z hz).b⟩
  · obtain ⟨z, hz, f, hf, hp⟩ := (TT 0 (by omega)).fst rfl
    rw [R 0 z hz]
    have hzr := usf_lt _ (hall z (List.mem_of_getElem? hz)).a
    have h1 := pth_cnt sub hb hp (ok.fb f hf)
    have h2 := wb_ge hb (u := (⟨ts, L.map fun z : Tri => (z.1, z.2.1)⟩ : Pump).T 0) hf (ok.fb f hf) (List.mem_singleton.mpr (rfl : z.1 = z.1)) hzr
    show wb M.S _ M.fs [z.1] ≠ 0
    omega
  · show wb M.S ((⟨ts, L.map fun z : Tri => (z.1, z.2.1)⟩ : Pump).T (2 * (L.map fun z : Tri => (z.1, z.2.1)).length)) [((⟨ts, L.map fun z : Tri => (z.1, z.2.1)⟩ : Pump).R ((L.map fun z : Tri => (z.1, z.2.1)).length - 1)).2] M.ls ≠ 0
    rw [rl]
    obtain ⟨z, hz, l, hll, hp⟩ := (TT (2 * L.length) (by omega)).lst rfl
    rw [R _ z hz]
    have hzr := usf_lt _ (hall z (List.mem_of_getElem? hz)).b
    have h1 := pth_cnt sub hb hp hzr
    have h2 := wb_ge hb (u := (⟨ts, L.map fun z : Tri => (z.1, z.2.1)⟩ : Pump).T (2 * L.length)) (List.mem_singleton.mpr (rfl : z.2.1 = z.2.1)) hzr hll (ok.lb l hll)
    show wb M.S _ [z.2.1] M.ls ≠ 0
    omega
  · have hi : i < (L.map fun z : Tri => (z.1, z.2.1)).length := hi
    rw [rl] at hi
    obtain ⟨z, hz, hu⟩ := (TT (2 * i + 1) (by omega)).odd (by omega)
    have e : (2 * i + 1) / 2 = i := by omega
    rw [e] at hz
    rw [hu, R i z hz]
    exact (hall z (List.mem_of_getElem? hz)).mid
  · have hi : i < (L.map fun z : Tri => (z.1, z.2.1)).length := hi
    rw [rl] at hi
    have e : (2 * i) / 2 = i := by omega
    obtain ⟨z, y, hz, hy, hp⟩ := (TT (2 * i) (by omega)).btw (by omega) (by omega) (by omega)
    rw [e] at hz hy
    rw [R (i - 1) z hz, R i y hy]
    have := pth_cnt sub hb hp (usf_lt _ (hall z (List.mem_of_getElem? hz)).b)
    show cnt M.S _ z.2.1 y.1 ≠ 0
    omega
section
variable {P : Program} {w : World} {K : PySem.W.Frag} {mg : Str → Option Value} {base : Heap} {T : List NTab}
def sp_pump_by (T : List NTab) : Sp := fun vs H Q _ => ∃ (m p : Addr) (M : Mac) (ts : List Addr) (L : List Tri), vs = [.ref m, .ref p] ∧ MAt [] H m M ∧ M.Ok ∧ M.n ≤ 5 ∧ TabsN T H ∧ H p = some (.lst (ts.map V.ref)) ∧ LdsAt H ts L ∧ (∀ z ∈ L, Rnd1 M z) ∧ Lk M L ∧ L ≠ [] ∧ L.length ≤ 5 ∧
  ∀ H' r u, Kp T [] H H' → (∀ av : List Addr, (∀ x ∈ av, H x ≠ none) → PAt av H' r u) → Good M u → Q (.ref r) H'
theorem ok_pump_by (F : Fn K mg "pump_by" s_pump_by) (Tx : Txt mg) (D_text_to : DOk P w K mg base "text_to" 7 ["machine", "room"] [] (sp_text_to T)) (D_text_from : DOk P w K mg base "text_from" 7 ["machine", "room"] [] (sp_text_from T))
    (D_text_between : DOk P w K mg base "text_between" 6 ["machine", "room", "other"] [] (sp_text_between T)) : DOk P w K mg base "pump_by" 8 ["machine", "chain"] [] (sp_pump_by T) := by
  refine F.dok sc_pump_by b_pump_by (fun vs H Q E h => ?_) (fun f cdv A outer s H vs Q E hr h => ?_)
  · obtain ⟨m, p, M, ts, L, rfl, _⟩ := h
    rfl
  · obtain ⟨m, p, M, ts, L, rfl, hM, ok, hn5, hT, hp, hL, hall, hlk, h0, h5, q⟩ := h
    have hlen := Paired.length hL
    have hn : 0 < L.length := by
      cases L with
      | nil => exact absurd rfl h0
      | cons _ _ => exact Nat.succ_pos _
    have at_ : ∀ i, i < L.length → ∃ t z, (ts.map V.ref)[i]? = some (.ref t) ∧ L[i]? = some z ∧ H t = some (.tup (triV z)) := fun i hi => by
      obtain ⟨t, z, e1, e2, e3, e4⟩ := paired_get hL (i := i) (v := .ref (ts[i]'(by omega))) (by rw [List.getElem?_map, List.getElem?_eq_getElem (by omega)]; rfl)
      have e1 := V.ref.inj e1
      exact ⟨t, z, by rw [List.getElem?_map, e2]; rfl, e3, e4⟩
    obtain ⟨t0, z0, et0, ez0, ht0⟩ := at_ 0 hn
    have hz0 := hall z0 (List.mem_of_getElem? ez0)
    refine ⟨_, (pss_cons (ps_set (i := 2) sc_pump_by.nd rfl (by first | exact .inl rfl | exact .inr rfl) (pe_lst (pa_cons (pe_d D_text_to hr (by rfl) (pa_cons (pv 0) (pa_cons (pe_ix ix_tup (pe_ix ix_list (pv 1) pe_int (fun _ _ => rfl)) pe_int (fun _ _ => rfl)) pa_nil))) pa_nil)))
      (pss_cons (ps_for PassesOwn.never rfl (pi_enum (by rfl) Tx.n_enumerate (pa_cons (pv 1) pa_nil)) (pg_tup rfl (pgs_cons (pg_name (i := 3) sc_pump_by.nd rfl (by first | exact .inl rfl | exact .inr rfl)) (pgs_cons (pg_tup rfl (pgs_cons (pg_name (i := 4) sc_pump_by.nd rfl (by first | exact .inl rfl | exact .inr rfl)) (pgs_cons (pg_name (i := 5) sc_pump_by.nd rfl (by first | exact .inl rfl | exact .inr rfl)) (pgs_cons (pg_name (i := 6) sc_pump_by.nd rfl (by first | exact .inl rfl | exact .inr rfl)) pgs_nil)))) pgs_nil)))
      (pss_cons (ps_expr (pe_bm PySem.F.plainAttrs_list PySem.F.slot_list_append PySem.F.type_list_append mt_append (pv 2) (pa_cons (pv 6) pa_nil)))
      (pss_one (ps_if (pt_cmpR op_lt (pe_op op_add (pv 3) pe_int) (pe_callB call_len_seq (by rfl) Tx.n_len (by decide +kernel) (pa_cons (pv 1) pa_nil)) (nomark _))
      (pss_one (ps_expr (pe_bm PySem.F.plainAttrs_list PySem.F.slot_list_append PySem.F.type_list_append mt_append (pv 2) (pa_cons (pe_d D_text_between hr (by rfl) (pa_cons (pv 0) (pa_cons (pv 5) (pa_cons (pe_ix ix_tup (pe_ix ix_list (pv 1) (pe_op op_add (pv 3) pe_int) (fun _ _ => rfl)) pe_int (fun _ _ => rfl)) pa_nil)))) pa_nil)))) pss_nil))))
      (pss_cons (ps_expr (pe_bm PySem.F.plainAttrs_list PySem.F.slot_list_append PySem.F.type_list_append mt_append (pv 2) (pa_cons (pe_d D_text_from hr (by rfl) (pa_cons (pv 0) (pa_cons (pe_ix ix_tup (pe_ix ix_list (pv 1) (pe_un un_neg pe_int) (fun _ _ => rfl)) pe_int (fun _ _ => rfl)) pa_nil))) pa_nil)))
      (pss_one (ps_ret (pe_tup (pa_cons (pv 2) (pa_cons (pe_lc (own := [("room", 4), ("other", 5), ("text", 6)]) (g := gTup K 3 (gCons (gName 4) (gCons (gName 5) (gCons (gName 6) gNil)))) (tt := tYes) (by rfl) sc_pump_by.nd (pi_list (pv 1)) (blkOk_by (N := ["machine", "chain", "texts", "at", "room", "other", "text"]) (sc := (defScope s_pump_by)) (own := [("room", 4), ("other", 5), ("text", 6)]) (by decide +kernel)) (fun _ _ _ _ _ => (pg_tup rfl (pgs_cons (pg_name (i := 4) sc_pump_by.nd rfl (by first | exact .inl rfl | exact .inr rfl)) (pgs_cons (pg_name (i := 5) sc_pump_by.nd rfl (by first | exact .inl rfl | exact .inr rfl)) (pgs_cons (pg_name (i := 6) sc_pump_by.nd rfl (by first | exact .inl rfl | exact .inr rfl)) pgs_nil))))) (fun _ _ _ _ _ => pts_nil) (fun _ _ _ _ _ => (pe_tup (pa_cons (pv 4) (pa_cons (pv 5) pa_nil))))) pa_nil)))))))), ?_⟩
    refine ⟨_, rfl, _, rfl, p, _, _, _, rfl, rfl, SqL.of hp, atI_nat et0, t0, _, 0, _, rfl, rfl, SqT.of ht0, rfl, ?_⟩
    refine ⟨m, M, z0.1, rfl, hM, ok, hz0.a, hT, fun H1 u0 k1 hu0 hul0 => ?_⟩
    refine ⟨sz_ok (by simp), fun tx0 htx0 => ?_⟩
    have k2 := k1.snew (o := .lst [wd u0]) htx0
    have ntx : H tx0 = none := k1.free htx0
    have etx : upd H1 tx0 (.lst [wd u0]) tx0 = some (.lst ([u0].map wd)) := upd_same
    generalize upd H1 tx0 (.lst [wd u0]) = H2 at *
    have ok0 : OkT M L 0 u0 := by
      obtain ⟨f, hf, hp0⟩ := hu0
      exact ⟨fun _ => ⟨z0, ez0, f, hf, hp0⟩, fun z => by omega, fun _ z => absurd z (Nat.lt_irrefl _), fun z => by omega, hul0, pth_let ok hp0⟩
    refine ⟨_, rfl, p, _, rfl, SqL.of (k2.get hp), ?_⟩
    refine for_it (walk_enum (xs := ts.map V.ref)) (fun i σ H3 => ∃ (us : List (List Nat)) (y3 y4 y5 y6 : Option V), σ = [some (.ref m), some (.ref p), some (.ref tx0), y3, y4, y5, y6] ∧ Kp T [] H H3 ∧ H3 tx0 = some (.lst (us.map wd)) ∧ i ≤ L.length ∧ us.length = (if i < L.length then 2 * i + 1 else 2 * L.length) ∧ ∀ p u, us[p]? = some u → OkT M L p u) ⟨[u0], _, _, _, _, rfl, k2, etx, Nat.zero_le _, by rw [if_pos hn]; rfl, fun p u hp => by
      cases p with
      | zero =>
        have e : u0 = u := by simpa using hp
        rw [← e]
        exact ok0
      | succ p => simp at hp⟩ (fun i σ H3 _ h3 => ?_) (fun i x σ H3 H4 hi h3 y => ?_) (fun σ H3 h3 => ?_)
    · obtain ⟨_, _, _, _, _, _, k, _⟩ := h3
      exact SqL.of (k.get hp)
    · obtain ⟨us, y3, y4, y5, y6, rfl, k3, etx3, hi', hul, hus⟩ := h3
      obtain ⟨tt, x1, x2, rfl, nt, rfl, e1, e2⟩ := y
      cases e1
      have hi2 : i < L.length := by rw [List.length_map] at hi; omega
      obtain ⟨t, z, et, ez, hte⟩ := at_ i hi2
      have e3 := Option.some.inj (e2.symm.trans et)
      subst e3
      have hz := hall z (List.mem_of_getElem? ez)
      rw [if_pos hi2] at hul
      have k4 := k3.snew (o := .tup [.int (i : Nat), .ref t]) nt
      have etx4 : upd H3 tt (.tup [.int (i : Nat), .ref t]) tx0 = some (.lst (us.map wd)) := by rw [upd_ne (ne_of_none etx3 nt)]; exact etx3
      have ett : upd H3 tt (.tup [.int (i : Nat), .ref t]) tt = some (.tup [.int (i : Nat), .ref t]) := upd_same
      have htz := k4.get hte
      generalize upd H3 tt (.tup [.int (i : Nat), .ref t]) = H5 at *
      refine ⟨tt, _, rfl, SqT.of ett, rfl, _, _, rfl, _, _, rfl, t, _, rfl, SqT.of htz, rfl, _, _, rfl, _, _, rfl, _, _, rfl, rfl, rfl, ?_⟩
      refine ⟨_, rfl, .inl ⟨rfl, _, SqL.of etx4⟩, _, rfl, tx0, _, _, rfl, rfl, etx4, by rw [List.length_map]; exact sz_lt (by omega), ?_⟩
      have k6 := k4.mut (o := .lst (us.map wd ++ [wd z.2.2])) (.inl ntx) etx4
      have etx6 : upd H5 tx0 (.lst (us.map wd ++ [wd z.2.2])) tx0 = some (.lst ((us ++ [z.2.2]).map wd)) := by rw [upd_same, List.map_append]; rfl
      generalize upd H5 tx0 (.lst (us.map wd ++ [wd z.2.2])) = H6 at *
      have hus1 : ∀ p u, (us ++ [z.2.2])[p]? = some u → OkT M L p u := fun p u hp => by
        by_cases hlt : p < us.length
        · rw [List.getElem?_append_left hlt] at hp
          exact hus p u hp
        · rw [List.getElem?_append_right (by omega)] at hp
          have hp0 : p - us.length = 0 := by
            have := (List.getElem?_eq_some_iff.mp hp).1
            simp at this
            omega
          rw [hp0] at hp
          have e : z.2.2 = u := by simpa using hp
          have hpe : p = 2 * i + 1 := by omega
          subst hpe
          rw [← e]
          have ed : (2 * i + 1) / 2 = i := by omega
          exact ⟨fun z => by omega, fun _ => ⟨z, by rw [ed]; exact ez, rfl⟩, fun z => by omega, fun z => by omega, hz.l, hz.let'⟩
      have hul1 : (us ++ [z.2.2]).length = 2 * i + 2 := by rw [List.length_append, hul]; rfl
      refine ⟨_, rfl, _, _, rfl, rfl, _, rfl, p, _, rfl, .inl (SqL.of (k6.get hp)), _, _, rfl, rfl, ?_⟩
      by_cases hlast : i + 1 < L.length
      · refine ⟨true, ?_, iteT ?_⟩
        · show V.bl (decide ((i : Int) + 1 < (((ts.map V.ref).length : Nat) : Int))) = V.bl true
          rw [List.length_map, hlen, decide_eq_true (by omega)]
        obtain ⟨t', y', et', ey', hte'⟩ := at_ (i + 1) hlast
        have hy' := hall y' (List.mem_of_getElem? ey')
        refine ⟨_, rfl, .inl ⟨rfl, _, SqL.of etx6⟩, _, rfl, _, rfl, _, rfl, _, rfl, _, _, rfl, rfl, p, _, _, _, rfl, rfl, SqL.of (k6.get hp), (by
          have e : (i : Int) + 1 = ((i + 1 : Nat) : Int) := by omega
          show atI (ts.map V.ref) ((i : Int) + 1) = _
          rw [e]
          exact atI_nat et'), t', _, 0, _, rfl, rfl, SqT.of (k6.get hte'), rfl, ?_⟩
        refine ⟨m, M, z.2.1, y'.1, rfl, hM.kp k6, ok, usf_lt _ hz.b, usf_lt _ hy'.a, k6.tab hT, fun H7 v k7 hv => ?_⟩
        obtain ⟨ul, hul'⟩ := lk_at hlk ez ey'
        rcases hv with ⟨_, hno⟩ | ⟨ub, rfl, hub, hubl⟩
        · exact absurd hul' (hno ul)
        have etx7 := k7.get etx6
        refine ⟨tx0, _, _, rfl, rfl, etx7, by rw [List.length_map]; exact sz_lt (by omega), us ++ [z.2.2] ++ [ub], _, _, _, _, rfl, (k6.trans k7).mut (.inl ntx) etx7, by rw [upd_same]; simp [List.map_append], by omega, by rw [if_pos hlast, List.length_append, hul1]; show _ + 1 = _; omega, fun p u hp => ?_⟩
        by_cases hlt : p < (us ++ [z.2.2]).length
        · rw [List.getElem?_append_left hlt] at hp
          exact hus1 p u hp
        · rw [List.getElem?_append_right (by omega)] at hp
          have hp0 : p - (us ++ [z.2.2]).length = 0 := by
            have := (List.getElem?_eq_some_iff.mp hp).1
            simp only [List.length_singleton] at this
            omega
          rw [hp0] at hp
          have e : ub = u := by simpa using hp
          have hpe : p = 2 * (i + 1) := by omega
          subst hpe
          rw [← e]
          have ed : (2 * (i + 1)) / 2 = i + 1 := by omega
          exact ⟨fun z => by omega, fun z => by omega, fun _ _ _ => ⟨z, y', by rw [ed]; exact ez, by rw [ed]; exact ey', hub⟩, fun z => by omega, hubl, pth_let ok hub⟩
      · refine ⟨false, ?_, iteF ?_⟩
        · show V.bl (decide ((i : Int) + 1 < (((ts.map V.ref).length : Nat) : Int))) = V.bl false
          rw [List.length_map, hlen, decide_eq_false (by omega)]
        refine ⟨us ++ [z.2.2], _, _, _, _, rfl, k6, etx6, by omega, by rw [if_neg hlast, hul1]; omega, hus1⟩
    · obtain ⟨us, y3, y4, y5, y6, rfl, k3, etx3, hi', hul, hus⟩ := h3
      rw [List.length_map, hlen, if_neg (Nat.lt_irrefl _)] at hul
      obtain ⟨t1, z1, et1, ez1, ht1⟩ := at_ (L.length - 1) (by omega)
      have hz1 := hall z1 (List.mem_of_getElem? ez1)
      have et1' : (ts.map V.ref)[(ts.map V.ref).length - 1]? = some (.ref t1) := by
        rw [List.length_map, hlen]
        exact et1
      refine ⟨_, rfl, .inl ⟨rfl, _, SqL.of etx3⟩, _, rfl, _, rfl, 1, rfl, p, _, _, _, rfl, rfl, SqL.of (k3.get hp), atI_m1 et1', t1, _, 1, _, rfl, rfl, SqT.of (k3.get ht1), rfl, ?_⟩
      refine ⟨m, M, z1.2.1, rfl, hM.kp k3, ok, hz1.b, k3.tab hT, fun H4 ul k4 hul4 hull => ?_⟩
      have etx4 := k4.get etx3
      refine ⟨tx0, _, _, rfl, rfl, etx4, by rw [List.length_map]; exact sz_lt (by omega), ?_⟩
      have k5 := (k3.trans k4).mut (o := .lst (us.map wd ++ [wd ul])) (.inl ntx) etx4
      have etx5 : upd H4 tx0 (.lst (us.map wd ++ [wd ul])) tx0 = some (.lst ((us ++ [ul]).map wd)) := by rw [upd_same, List.map_append]; rfl
      generalize upd H4 tx0 (.lst (us.map wd ++ [wd ul])) = H5 at *
      refine ⟨_, rfl, _, rfl, p, rfl, ⟨_, SqL.of (k5.get hp)⟩, fun D hD => ?_⟩
      refine lc_it (walk_list (xs := ts.map V.ref)) (fun i H6 => ∃ ds : List Addr, Kp T [] H5 H6 ∧ H6 D = some (.lst (ds.map V.ref)) ∧ RndsAt H6 ds ((L.take i).map fun z => (z.1, z.2.1))) ⟨[], Kp.new hD, upd_same, .nil⟩ (fun i H6 _ h6 => by obtain ⟨_, k, _⟩ := h6; exact SqL.of ((k5.trans k).get hp)) (fun i x H6 H7 hi h6 y => ?_) (fun H6 h6 => ?_)
      · obtain ⟨ds, k6, eD, hds⟩ := h6
        obtain ⟨rfl, e2⟩ := y
        obtain ⟨t, z, rfl, et, ez, hte⟩ := paired_get hL e2
        have hdl := hds.len
        rw [List.length_map, List.length_take] at hdl
        refine ⟨t, _, rfl, SqT.of ((k5.trans k6).get hte), rfl, _, _, rfl, _, _, rfl, _, _, rfl, rfl, rfl, ?_⟩
        refine ⟨_, rfl, _, rfl, sz_ok (by simp), fun p7 hp7 => ?_⟩
        have eD7 : upd H7 p7 (.tup (rndV (z.1, z.2.1))) D = some (.lst (ds.map V.ref)) := by rw [upd_ne (ne_of_none eD hp7)]; exact eD
        refine ⟨_, eD7, by rw [List.length_map]; exact sz_lt (by omega), ds ++ [p7], (k6.snew hp7).mut (.inl hD) eD7, by rw [upd_same, List.map_append]; rfl, ?_⟩
        rw [List.take_add_one, ez, List.map_append]
        exact Paired.snoc (paired_set (f := rndV) (paired_off (f := rndV) hds hp7) eD7) (by rw [upd_ne (ne_of_none eD hp7).symm, upd_same])
      · obtain ⟨ds, k6, eD, hds⟩ := h6
        rw [List.take_of_length_le (by rw [List.length_map, hlen]; exact Nat.le_refl _)] at hds
        refine ⟨sz_ok (by simp), fun r hr7 => ?_⟩
        have k7 : Kp T [] H6 (upd H6 r (.tup [.ref tx0, .ref D])) := Kp.new hr7
        have hds7 : RndsAt (upd H6 r (.tup [.ref tx0, .ref D])) ds (L.map fun z => (z.1, z.2.1)) := paired_kp (f := rndV) hds k7
        refine q _ r ⟨us ++ [ul], L.map fun z => (z.1, z.2.1)⟩ ((k5.trans k6).trans k7) (fun av hav => ⟨tx0, D, ds, upd_same, k7.get (k6.get etx5), k7.get eD, hds7, fun z => hav _ z ntx, fun z => hav _ z (k5.free hD)⟩) (told_good ok h0 h5 hall (by rw [List.length_append, hul]; rfl) fun p u hp => ?_)
        by_cases hlt : p < us.length
        · rw [List.getElem?_append_left hlt] at hp
          exact hus p u hp
        · rw [List.getElem?_append_right (by omega)] at hp
          have hp0 : p - us.length = 0 := by
            have := (List.getElem?_eq_some_iff.mp hp).1
            simp only [List.length_singleton] at this
            omega
          rw [hp0] at hp
          have e : ul = u := by simpa using hp
          have hpe : p = 2 * L.length := by omega
          subst hpe
          rw [← e]
          obtain ⟨l, hl, hpl⟩ := hul4
          exact ⟨fun z => by omega, fun z => by omega, fun _ _ z => by omega, fun _ => ⟨z1, ez1, l, hl, hpl⟩, hull, pth_let ok hpl⟩
end
end K51
/-! the told pump of a machine -/
namespace K51
open PySem PySem.Spec PyProof.Rows L2 NdefX LamX
theorem pth_sub {S S0 : List Step} (h : ∀ s ∈ S, s ∈ S0) {u : List Nat} {r o : Nat} (p : Pth (inx S) u r o) : Pth (inx S0) u r o := by
  induction p with
  | nil => exact .nil _
  | cons e _ ih => exact .cons (mem_succs.mpr (h _ (mem_succs.mp e))) ih
section
variable {P : Program} {w : World} {K : PySem.W.Frag} {mg : Str → Option Value} {base : Heap} {T : List NTab}
theorem ok_pump_of (F : Fn K mg "pump_of" s_pump_of) (Tx : Txt mg) (D_ranks : DOk P w K mg base "ranks" 9 ["machine"] [] (sp_ranks T)) (D_double_rounds : DOk P w K mg base "double_rounds" 8 ["machine"] [] (sp_double_rounds T))
    (D_greatest_rank : DOk P w K mg base "greatest_rank" 1 ["some"] [] (sp_greatest_rank T)) (D_chain_of : DOk P w K mg base "chain_of" 9 ["machine", "some"] [] (sp_chain_of T)) (D_pump_by : DOk P w K mg base "pump_by" 8 ["machine", "chain"] [] (sp_pump_by T)) :
    DOk P w K mg base "pump_of" 14 ["machine"] [] (sp_pump_of T) := by
  refine F.dok sc_pump_of b_pump_of (fun vs H Q E h => ?_) (fun f cdv A outer s H vs Q E hr h => ?_)
  · obtain ⟨m, M, rfl, _⟩ := h
    rfl
  · obtain ⟨m, M, rfl, hM, ok, hn5, hT, q⟩ := h
    refine ⟨_, (pss_cons (ps_set (i := 1) sc_pump_of.nd rfl (by first | exact .inl rfl | exact .inr rfl) (pe_d D_ranks hr (by rfl) (pa_cons (pv 0) pa_nil)))
      (pss_cons (ps_if (pt_cmpR op_isN (pv 1) pe_non (nomark _))
      (pss_cons (ps_asg (pe_ix ix_list (pe_d D_double_rounds hr (by rfl) (pa_cons (pv 0) pa_nil)) pe_int (fun _ _ => rfl)) (pg_tup rfl (pgs_cons (pg_name (i := 2) sc_pump_of.nd rfl (by first | exact .inl rfl | exact .inr rfl)) (pgs_cons (pg_name (i := 3) sc_pump_of.nd rfl (by first | exact .inl rfl | exact .inr rfl)) pgs_nil))))
      (pss_one (ps_ret (pe_d D_pump_by hr (by rfl) (pa_cons (pv 0) (pa_cons (pe_lst (pa_cons (pe_tup (pa_cons (pv 2) (pa_cons (pv 2) (pa_cons (pv 3) pa_nil)))) pa_nil)) pa_nil)))))) pss_nil)
      (pss_cons (ps_if (pt_cmpR op_eq (pe_d D_greatest_rank hr (by rfl) (pa_cons (pv 1) pa_nil)) pe_int (nomark _))
      (pss_one (ps_ret pe_non)) pss_nil)
      (pss_one (ps_ret (pe_d D_pump_by hr (by rfl) (pa_cons (pv 0) (pa_cons (pe_d D_chain_of hr (by rfl) (pa_cons (pv 0) (pa_cons (pv 1) pa_nil))) pa_nil)))))))), ?_⟩
    refine ⟨_, rfl, m, M, rfl, hM, ok, hn5, hT, fun H1 k1 hd => ?_, fun H1 p g k1 hp hno hR => ?_⟩
    · refine ⟨_, rfl, rfl, true, rfl, iteT ?_⟩
      refine ⟨_, rfl, m, M, rfl, hM.kp k1, ok, hn5, k1.tab hT, fun H2 p ts L k2 hp hds hL => ?_⟩
      have k12 := k1.trans k2
      obtain ⟨r0, hr0, u0, hu0⟩ := hd
      have hne : L ≠ [] := fun e => hL.none e r0 hr0 u0 hu0
      have h0 : 0 < L.length := by
        cases L with
        | nil => exact absurd rfl hne
        | cons _ _ => exact Nat.succ_pos _
      have hlen := Paired.length hds
      obtain ⟨t, z, e1, e2, e3, e4⟩ := paired_get hds (i := 0) (v := .ref (ts[0]'(by omega))) (by rw [List.getElem?_map, List.getElem?_eq_getElem (by omega)]; rfl)
      have e1 := V.ref.inj e1
      have et : (ts.map V.ref)[0]? = some (.ref t) := by rw [List.getElem?_map, e2]; rfl
      have hz := hL.all z (List.mem_of_getElem? e3)
      refine ⟨p, _, _, _, rfl, rfl, SqL.of hp, atI_nat et, ?_⟩
      refine ⟨t, _, rfl, SqT.of e4, rfl, _, _, rfl, _, _, rfl, rfl, ?_⟩
      refine ⟨_, rfl, _, rfl, _, rfl, _, rfl, sz_ok (by simp), fun q1 hq1 => ?_⟩
      have k3 := k12.snew (o := .tup (triV (z.1, z.1, z.2))) hq1
      have eq1 : upd H2 q1 (.tup (triV (z.1, z.1, z.2))) q1 = some (.tup (triV (z.1, z.1, z.2))) := upd_same
      refine ⟨sz_ok (by simp), fun q2 hq2 => ?_⟩
      have hq2' : upd H2 q1 (.tup (triV (z.1, z.1, z.2))) q2 = none := hq2
      generalize upd H2 q1 (.tup (triV (z.1, z.1, z.2))) = H3 at *
      have k4 := k3.snew (o := .lst ([q1].map V.ref)) hq2'
      have eq2 : upd H3 q2 (.lst ([q1].map V.ref)) q2 = some (.lst ([q1].map V.ref)) := upd_same
      have eq3 : upd H3 q2 (.lst ([q1].map V.ref)) q1 = some (.tup (triV (z.1, z.1, z.2))) := by rw [upd_ne (ne_of_none eq1 hq2')]; exact eq1
      refine ⟨m, q2, M, [q1], [(z.1, z.1, z.2)], rfl, hM.kp k4, ok, hn5, k4.tab hT, eq2, .cons eq3 .nil, fun y hy => ?_, trivial, by simp, by simp, fun H5 r u k5 hP hG => ?_⟩
      · rw [List.mem_singleton.mp hy]
        have hm := dbl_mid ok (usf_lt _ hz.1) hz.2.1
        exact ⟨hz.1, hz.1, hm, hz.2.2, pth_let ok (pth_sub (fun s hs => trim_sub hs) (dbl_paths hz.2.1.2).1)⟩
      · exact q _ _ (k4.trans k5) (.inr ⟨r, u, rfl, fun av hav => hP av fun x hx => fun z => hav x hx (k4.free z), hG⟩)
    · refine ⟨_, rfl, rfl, false, rfl, iteF ?_⟩
      refine ⟨_, rfl, p, M, g, rfl, hp, hn5, fun H2 k k2 hX => ?_⟩
      refine ⟨rfl, decide (k = 0), ?_, ?_⟩
      · show V.bl (decide (ni k = V.int 0)) = _
        by_cases e0 : k = 0
        · rw [decide_eq_true e0, decide_eq_true (by rw [e0]; rfl)]
        · rw [decide_eq_false e0, decide_eq_false (fun z => e0 (by injection z with z; omega))]
      have k12 := k1.trans k2
      by_cases e0 : k = 0
      · rw [decide_eq_true e0]
        refine iteT ?_
        exact q _ _ k12 (.inl rfl)
      · rw [decide_eq_false e0]
        refine iteF ?_
        refine ⟨_, rfl, _, rfl, _, rfl, m, p, M, g, k, rfl, hM.kp k12, ok, hn5, k12.tab hT, k2.get hp, hR, hX, by omega, fun H3 c ts L k3 hc hL hl1 hlk hne h5 => ?_⟩
        have k13 := k12.trans k3
        refine ⟨m, c, M, ts, L, rfl, hM.kp k13, ok, hn5, k13.tab hT, hc, hL, fun z hz => ?_, hlk, hne, h5, fun H4 r u k4 hP hG => ?_⟩
        · have h := hl1 z hz
          exact ⟨h.a, h.b, led_mid ok (usf_lt _ h.a) (usf_lt _ h.b) h.ne h.w, h.l, pth_let ok (pth_sub (fun s hs => trim_sub hs) (led_paths h.w.2).1)⟩
        · exact q _ _ (k13.trans k4) (.inr ⟨r, u, rfl, fun av hav => hP av fun x hx z => hav x hx (k13.free z), hG⟩)
end
end K51
/-! sets of texts, made of a list -/
namespace K51
open PySem PySem.Spec PyProof.Rows L2 NdefX LamX
/-- the set of texts at a: M its members, at most n of them -/
def SetS (P : Program) (w : World) (h : Heap) (a : Addr) (M : Str → Prop) (n : Nat) : Prop :=
  ∃ o es ep t, h.get? a = some o ∧ o.ExactSet ∧ o.data = .set es ep t ∧ ElemsOf (strKind P w) es.toList ∧ (∀ k, M k ↔ ∃ e ∈ es.toList, (strKind P w).is k e.2 = true) ∧
    es.size < scanBound ∧ t.fits es.size = true ∧ es.size ≤ n ∧ Ris t.place.toList ∧ (w.params.followText "set-order" = true ∨ t.led = true)
section
variable {P : Program} {w : World} {A : Around} {E : Value → Shared → Prop} {s : Shared} {a : Addr} {M : Str → Prop} {n : Nat}
theorem SetS.at {h h' : Heap} (R : SetS P w h a M n) (k : ∀ o, h.get? a = some o → h'.get? a = some o) : SetS P w h' a M n := by
  obtain ⟨o, es, ep, t, ho, r⟩ := R
  exact ⟨o, es, ep, t, k o ho, r⟩
theorem SetS.congr {h : Heap} {M' : Str → Prop} (R : SetS P w h a M n) (e : ∀ k, M' k ↔ M k) : SetS P w h a M' n := by
  obtain ⟨o, es, ep, t, h1, h2, h3, h4, h5, r⟩ := R
  exact ⟨o, es, ep, t, h1, h2, h3, h4, fun k => (e k).trans (h5 k), r⟩
theorem setS_tail {g : Bool → Sem Unit} (hg : ∀ (b : Bool) (s₁ : Shared) (Q' : Unit → Shared → Prop), Q' () s₁ → wpAny (model P w) A (g b) Q' E s₁)
    {o : Obj} {es : Array (Int × Value)} {ep : Nat} {t : SetTable} (ho : s.heap.get? a = some o) (hex : o.ExactSet) (hd : o.data = .set es ep t)
    {es1 : Array (Int × Value)} {t2 : SetTable} {M' : Str → Prop} (g1 : ElemsOf (strKind P w) es1.toList) (m1 : ∀ k, M' k ↔ ∃ e ∈ es1.toList, (strKind P w).is k e.2 = true)
    (hb1 : es1.size < scanBound) (hf2 : t2.fits es1.size = true) (hn : es1.size ≤ n) (hr : Ris t2.place.toList) (hl : w.params.followText "set-order" = true ∨ t2.led = true) {wasDummy : Bool} {R : Option Bool → Shared → Prop}
    (hR : ∀ h', Heap.SameBut a s.heap h' → SetS P w h' a M' n → R (some true) { s with heap := h' }) :
    wpAny (model P w) A (do
        storeSet a es1 t2
        if (!wasDummy && t2.tooFull) = true then do
            g (relayAll t2 es1 (SetTable.grown es1.size)).2.2
            storeSet a (relayAll t2 es1 (SetTable.grown es1.size)).1 (relayAll t2 es1 (SetTable.grown es1.size)).2.1
            pure (some true)
          else pure (some true)) R E s := by
  refine wpAny_bind (wpAny_storeSet_of ho hd ?_ (fits_of_scanBound hb1))
  have ho1 := store_at (es' := es1) (t' := t2) ho hd
  have sb1 := Heap.SameBut.update s.heap a (Obj.putSet es1 t2)
  split
  · have pm := relayAll_perm t2 es1 (SetTable.grown es1.size)
    have hf3 := relayAll_fits t2 es1 (SetTable.grown es1.size)
    have hr3 := relayAll_ris t2 es1 (SetTable.grown es1.size)
    have hl3 := relayAll_led t2 es1 (SetTable.grown es1.size)
    generalize relayAll t2 es1 (SetTable.grown es1.size) = Z at pm hf3 hr3 hl3 ⊢
    obtain ⟨es2, t3, gave⟩ := Z
    dsimp only at pm hf3 hr3 hl3 ⊢
    have hsz : es2.size = es1.size := by rw [← Array.length_toList, pm.length_eq, Array.length_toList]
    have hb2 : es2.size < scanBound := by rw [hsz]; exact hb1
    refine wpAny_bind (hg _ _ _ ?_)
    refine wpAny_bind (wpAny_storeSet_of ho1 rfl ?_ (fits_of_scanBound hb2))
    have ho2 := store_at (es' := es2) (t' := t3) ho1 rfl
    refine wpAny_pure (hR _ (sb1.trans (Heap.SameBut.update _ a _)) ?_)
    exact ⟨_, es2, _, t3, ho2, hex, rfl, g1.perm pm, fun k => (m1 k).trans ⟨fun ⟨e, he, q⟩ => ⟨e, pm.mem_iff.mpr he, q⟩, fun ⟨e, he, q⟩ => ⟨e, pm.mem_iff.mp he, q⟩⟩, hb2, hf3, by rw [hsz]; exact hn, hr3,
      hl.imp id fun z => by rw [hl3]; exact z⟩
  · exact wpAny_pure (hR _ sb1 ⟨_, es1, _, t2, ho1, hex, rfl, g1, m1, hb1, hf2, hn, hr, hl⟩)
theorem setS_add {k : Str} {tk : Tok} {Q : Bool → Shared → Prop} (R : SetS P w s.heap a M n) (room : n + 1 < scanBound)
    (hQ : ∀ b h', Heap.SameBut a s.heap h' → SetS P w h' a (fun j => M j ∨ j = k) (n + 1) → Q b { s with heap := h' }) :
    wpAny (model P w) A (setAddHashed a (.str k tk) ((strKind P w).hash k)) Q E s := by
  obtain ⟨o, es, ep, t, ho, hex, hd, hel, hm, hb, hf, hn, hr, hl⟩ := R
  have hkey : (strKind P w).is k (.str k tk) = true := strKind_is P w k tk
  have hsc : (Value.str k tk).scannable = true := rfl
  unfold setAddHashed setAddHashedIn
  refine wpAny_holding (wpAny_bind (wpAny_setState_of ho hd hf ?_))
  dsimp only
  rw [byScan_of hsc hb hel]
  simp only [↓reduceIte]
  unfold setAddByScan
  refine wpAny_bind ?_
  refine wpAny_bind (wpAny_rule ?_)
  refine wpAny_bind (wpAny_setScan_of hkey ho hd hf hel ?_)
  cases hfi : List.findIdx? (fun e => (strKind P w).is k e.2) es.toList with
  | some j =>
    dsimp only
    obtain ⟨hj, pj, _⟩ := List.findIdx?_eq_some_iff_getElem.mp hfi
    have hk : M k := (hm k).2 ⟨es.toList[j], List.getElem_mem hj, pj⟩
    refine wpAny_pure (wpAny_pure ?_)
    exact hQ _ s.heap (Heap.SameBut.refl a s.heap) ⟨o, es, ep, t, ho, hex, hd, hel, fun i => (Iff.intro (fun z => z.elim id (fun e => e ▸ hk)) .inl).trans (hm i), hb, hf, Nat.le_succ_of_le hn, hr, hl⟩
  | none =>
    dsimp only
    have hgw : ∀ (b : Bool) {s₁ : Shared} {Q' : Unit → Shared → Prop}, Q' () s₁ → wpAny (model P w) A (match b with | true => rule "set.scan.the-table-gave-way" | false => pure ()) Q' E s₁ :=
      fun b s₁ Q' q => by cases b <;> first | exact wpAny_pure q | exact wpAny_rule q
    have pm := layNew_perm t es ((strKind P w).hash k) (.str k tk)
    have hf1 := layNew_fits t es ((strKind P w).hash k) (.str k tk)
    have hr1 := layNew_ris t es ((strKind P w).hash k) (.str k tk) hr
    have hl1 := layNew_led t es ((strKind P w).hash k) (.str k tk)
    generalize layNew t es ((strKind P w).hash k) (.str k tk) = Z at pm hf1 hr1 hl1 ⊢
    obtain ⟨es1, t1, wasDummy, gave⟩ := Z
    dsimp only at pm hf1 hr1 hl1 ⊢
    rw [Array.toList_push] at pm
    have g1 : ElemsOf (strKind P w) es1.toList := (hel.push hkey hsc).perm pm
    have m1 : ∀ i, (M i ∨ i = k) ↔ ∃ e ∈ es1.toList, (strKind P w).is i e.2 = true := fun i => by
      constructor
      · rintro (z | z)
        · obtain ⟨e, he, q⟩ := (hm i).mp z
          exact ⟨e, pm.mem_iff.mpr (List.mem_append_left _ he), q⟩
        · exact ⟨_, pm.mem_iff.mpr (List.mem_append_right _ (List.mem_singleton.mpr rfl)), by rw [z]; exact hkey⟩
      · rintro ⟨e, he, q⟩
        rcases List.mem_append.mp (pm.mem_iff.mp he) with he | he
        · exact .inl ((hm i).mpr ⟨e, he, q⟩)
        · rw [List.mem_singleton.mp he] at q
          exact .inr ((strKind P w).inj (.str k tk) i k q hkey)
    have hsz : es1.size = es.size + 1 := by rw [← Array.length_toList, pm.length_eq, List.length_append, Array.length_toList]; rfl
    have hb1 : es1.size < scanBound := by omega
    have hn1 : es1.size ≤ n + 1 := by omega
    have hled : w.params.followText "set-order" = true ∨ t1.led = true := hl.imp id fun z => by rw [hl1]; exact z
    refine wpAny_bind (hgw _ ?_)
    split
    · refine wpAny_bind ?_
      rw [hashByValue_scannable 8 hsc]
      refine wpAny_pure ?_
      refine setS_tail ?_ ho hex hd g1 m1 hb1 ?_ hn1 ?_ ?_ ?_
      · intro b s₁ Q' q; cases b <;> first | exact wpAny_pure q | exact wpAny_rule q
      · first | (split <;> first | exact hf1 | exact SetTable.fits_plain_off hf1) | exact hf1
      · first | (split <;> exact hr1) | exact hr1
      · first | (split <;> exact hled) | exact hled
      · intro h' sb r; dsimp only; exact wpAny_pure (hQ _ h' sb r)
    · refine wpAny_bind (wpAny_pure ?_)
      simp only [↓reduceIte]
      refine setS_tail ?_ ho hex hd g1 m1 hb1 hf1 hn1 hr1 hled ?_
      · intro b s₁ Q' q; cases b <;> first | exact wpAny_pure q | exact wpAny_rule q
      · intro h' sb r; dsimp only; exact wpAny_pure (hQ _ h' sb r)
end
end K51
/-! set(list of texts) -/
namespace K51
open PySem PySem.Spec PyProof.Rows L2 NdefX LamX
theorem setS_fresh {P : Program} {w : World} {h : Heap} {a : Addr} {ks : List Str} (ho : h.get? a = some { cls := .type "set", dict := none, data := .set #[] 0 (.fresh 0 0 (!w.params.followText "set-order")) }) : SetS P w h a (fun j => j ∈ ks.take 0) 0 :=
  ⟨_, #[], 0, _, ho, ⟨rfl, rfl, rfl⟩, rfl, (fun e he => by simp at he), (fun k => by simp), (by decide), (by rfl), Nat.le_refl _, List.Pairwise.nil, by
    show _ ∨ (!w.params.followText "set-order") = true
    cases w.params.followText "set-order"
    · exact .inr rfl
    · exact .inl rfl⟩
section
variable {P : Program} {w : World} {A : Around} {E : Value → Shared → Prop} {s : Shared}
theorem setS_update {I : Addr} {fp wr : List Addr} {G : Array GenState → Array GenState → Prop} {n : Nat} {Pv : Nat → Value → Prop} {St : Nat → Shared → Prop} {R : Result → Shared → Prop}
    (W : WalksS P w A.in1 I fp wr G n Pv St) (S : Addr) (hSf : S ∉ fp) (ks : List Str) (hn : n = ks.length) (hb : ks.length + 1 < scanBound) (hval : ∀ i v, Pv i v → ∃ k t, ks[i]? = some k ∧ v = .str k t) :
    ∀ (k i : Nat) (s : Shared), n - i = k → i ≤ n → St i s → SetS P w s.heap S (fun j => j ∈ ks.take i) i →
      (∀ s', Moved (S :: wr) G s s' → SetS P w s'.heap S (fun j => j ∈ ks) n → R (.ok (.ret .none)) s') →
      codeAny (model P w) A (.builtin "set.update.loop" ⟨[.ref S, .ref I], []⟩) R s := by
  have hSw : S ∉ wr := fun h => hSf (W.sub _ h)
  have hsub : ∀ b ∈ wr, b ∈ S :: wr := fun b hb => List.mem_cons_of_mem _ hb
  intro k
  induction k with
  | zero =>
    intro i s hk' hi hst hS hR
    have hin : i = n := by omega
    subst hin
    refine codeAny_builtin F.entry_set_update_loop ?_
    rw [Around.under_plainId F.plain_set_update_loop _]
    show wpAny _ A.in1 (pyNext (.ref I) >>= _) _ _ s
    refine wpAny_bind (W.done s _ _ hst fun s' hm => ?_)
    show wpAny _ A.in1 (ret Value.none) _ _ s'
    have e : ks.take i = ks := List.take_of_length_le (by omega)
    rw [e] at hS
    exact wpAny_pure (hR s' (hm.mono hsub) (hS.at fun o e => hm.heap S o hSw e))
  | succ k ih =>
    intro i s hk' hi hst hS hR
    have hlt : i < n := by omega
    refine codeAny_builtin F.entry_set_update_loop ?_
    rw [Around.under_plainId F.plain_set_update_loop _]
    show wpAny _ A.in1 (pyNext (.ref I) >>= _) _ _ s
    refine wpAny_bind (W.item i s _ _ hlt hst fun v s' hP hst' hm => ?_)
    obtain ⟨z, t, hz, rfl⟩ := hval i v hP
    have hS' : SetS P w s'.heap S (fun j => j ∈ ks.take i) i := hS.at fun o e => hm.heap S o hSw e
    show wpAny _ A.in1 (holding [Value.str z t] (PySem.setAdd S (.str z t)) >>= _) _ _ s'
    refine wpAny_bind (wpAny_holding ?_)
    unfold PySem.setAdd
    refine wpAny_holding ?_
    refine wpAny_bind ((strKind P w).pyHash (k := z) (strKind_is _ _ _ _) ?_)
    refine setS_add (s := _) hS' (by omega) fun b h' hsb hS2 => ?_
    have hS3 : SetS P w h' S (fun j => j ∈ ks.take (i + 1)) (i + 1) := hS2.congr fun j => by
      rw [List.take_add_one, hz]
      simp [List.mem_append]
    refine wpAny_pure ⟨plainId_quiet F.plain_set_update_loop _, ih (i + 1) _ (by omega) hlt (W.frame _ s' _ _ hst' (Nat.le_succ _) fun b hb o e => ?_) hS3 fun s'' hm'' hS'' => ?_⟩
    · rw [hsb.2 b (fun h : b = S => hSf (by rw [← h]; exact hb))]; exact e
    · refine hR s'' (Moved.trans W.gtrans ((hm.mono hsub).then_heap (Nat.le_succ _) fun b o hb e => ?_) hm'') hS''
      rw [hsb.2 b (fun h : b = S => hb (by rw [h]; exact List.mem_cons_self))]; exact e
set_option maxRecDepth 100000 in
theorem call_set_strs {l : Addr} {items : Array Value} (ks : List Str) {Q : Value → Shared → Prop} (hh : A.handled = none) (hl : s.heap.IsList l items) (hit : StrsAre items.toList ks) (hb : ks.length + 1 < scanBound)
    (h : ∀ (h' : Heap) (tk : Nat), SetS P w h' s.heap.objs.size (fun j => j ∈ ks) ks.length → (∀ b o, s.heap.get? b = some o → h'.get? b = some o) → Q (.ref s.heap.objs.size) { s with heap := h', toks := tk }) :
    wpAny (model P w) A (call (.type "set") [.ref l]) Q E s := by
  have hisz : items.size = ks.length := by
    have q := StrsAre.length hit
    rw [Array.length_toList] at q
    exact q
  obtain ⟨c, tl, hmro⟩ := F.called_set.mro
  have hmade := F.called_set.made
  have hsub := F.called_set.sub
  refine wpAny_call (codeAny_of_tree ?_)
  show wpAny _ _ (callAny (.type "set") _) _ _ _
  refine wpAny_pure ⟨Code.quiet_builtin _ (by decide +kernel), codeAny_builtin F.entry_type_call ?_⟩
  rw [Around.under_plain (weight_type_call_type "set" [.ref l] []) rfl]
  have h1 := F.called_set.notType
  have h2 := F.called_set.canCreate
  have hct := F.typeCall_set_1 (.ref l)
  repeat (any_goals (first | assumption | wp_step))
  refine codeAny_mono (code_set_led1 (.ref l) (E := E) (Q₁ := fun obj s₁ => obj = .ref s.heap.objs.size ∧ s₁ = { s with heap := s.heap.push { cls := .type "set", dict := none, data := .set #[] 0 (.fresh 0 0 (!w.params.followText "set-order")) } }) ⟨rfl, rfl⟩) fun r s₁ hr => ?_
  cases r with
  | error e => exact hr
  | ok fl =>
    cases fl with
    | ret obj =>
      obtain ⟨rfl, rfl⟩ := hr
      have hS : (s.heap.push { cls := .type "set", dict := none, data := .set #[] 0 (.fresh 0 0 (!w.params.followText "set-order")) }).get? s.heap.objs.size = some { cls := .type "set", dict := none, data := .set #[] 0 (.fresh 0 0 (!w.params.followText "set-order")) } := Heap.get?_push_size _ rfl
      have hT : Shared.TypeIs { s with heap := s.heap.push { cls := .type "set", dict := none, data := .set #[] 0 (.fresh 0 0 (!w.params.followText "set-order")) } } (.ref s.heap.objs.size) "set" := ⟨_, hS, rfl⟩
      have hli := F.called_set.init.lookup
      have hbi := F.called_set.init.bind (.ref s.heap.objs.size)
      repeat (any_goals (first | assumption | wp_step))
      refine codeAny_mono (codeAny_call_builtin (R := wants (fun r s₂ => r = .none ∧ ∃ h' tk, s₂ = { s with heap := h', toks := tk } ∧ SetS P w h' s.heap.objs.size (fun j => j ∈ ks) ks.length ∧
          (∀ b o, s.heap.get? b = some o → h'.get? b = some o)) E) F.called_set.init.plain F.entry_set_init (check_set_init_1 hT ?_)) fun r₂ s₂ hr₂ => ?_
      · obtain ⟨ol, hol, hcl, nl, hdl⟩ := hl
        obtain ⟨ocls, odict, odata, oslots⟩ := ol
        simp only at hcl hdl
        subst hcl; subst hdl
        have hol' : (s.heap.push { cls := .type "set", dict := none, data := .set #[] 0 (.fresh 0 0 (!w.params.followText "set-order")) }).get? l = some { cls := .type "list", dict := odict, data := .seq items nl, slots := oslots } := Heap.get?_push_of_some _ hol
        have hsls := F.sub_list_set
        have hslf := F.sub_list_frozenset
        have hne : (Value.type "list" == Value.type "dict") = false := by decide
        have hl1 : (s.heap.push { cls := .type "set", dict := none, data := .set #[] 0 (.fresh 0 0 (!w.params.followText "set-order")) }).IsList l items := ⟨_, hol', rfl, nl, rfl⟩
        unfold Builtin.«set.__init__» noKeywords Builtin.Frozenset.updateFrom
        generalize hPI : pyIter = PI
        wp_walk
        subst hPI
        refine wpAny_pyIter_list hl1 ?_
        refine wpAny_bind (wpAny_runValue ?_)
        have hlS : l < s.heap.objs.size := Heap.lt_size hol
        have hh3 : A.in1.in1.in1.handled = none := by simp [hh]
        have hneI : l ≠ (s.heap.push { cls := .type "set", dict := none, data := .set #[] 0 (.fresh 0 0 (!w.params.followText "set-order")) }).objs.size := by
          rw [Heap.size_push]; exact Nat.ne_of_lt (Nat.lt_succ_of_lt hlS)
        have hSf : s.heap.objs.size ∉ [(s.heap.push { cls := .type "set", dict := none, data := .set #[] 0 (.fresh 0 0 (!w.params.followText "set-order")) }).objs.size, l] := by
          rw [Heap.size_push]; simp only [List.mem_cons, List.mem_singleton, List.not_mem_nil, or_false, not_or]
          exact ⟨Nat.ne_of_lt (Nat.lt_succ_self _), Nat.ne_of_gt hlS⟩
        have hval : ∀ (i : Nat) (v : Value), items[i]? = some v → ∃ k t, ks[i]? = some k ∧ v = .str k t := fun i v hv => by
          obtain ⟨y, t, e1, e2⟩ := StrsAre.item hit i v (by rw [Array.getElem?_toList]; exact hv)
          exact ⟨y, t, e2, e1⟩
        refine setS_update ((Walks.list hh3 _ l hneI items).toS) s.heap.objs.size
          hSf ks hisz hb hval (items.size - 0) 0 _ (by omega) (Nat.zero_le _)
          ⟨⟨_, Heap.get?_push_size _ rfl, rfl, rfl⟩, (hl1.push _)⟩ ?hS0 ?hR
        case hS0 =>
          exact setS_fresh (Heap.get?_push_of_some _ hS)
        case hR =>
          intro s' hm hS'
          obtain ⟨h', g2, d', tk', os'⟩ := s'
          have eg : g2 = s.gens := hm.gens
          have ed : d' = s.drawn := hm.drawn
          have eo : os' = s.os := hm.os
          subst eg; subst ed; subst eo
          show wpAny _ _ _ _ _ _
          refine wpAny_pure ?_
          show wpAny _ _ (ret Value.none) _ _ _
          rw [hisz] at hS'
          refine wpAny_pure ⟨rfl, h', tk', rfl, hS', fun b o e => ?_⟩
          have hb0 : b < s.heap.objs.size := Heap.lt_size e
          have hb1 : b ≠ s.heap.objs.size := Nat.ne_of_lt hb0
          have hb2 : b ≠ (s.heap.push { cls := .type "set", dict := none, data := .set #[] 0 (.fresh 0 0 (!w.params.followText "set-order")) }).objs.size := by
            rw [Heap.size_push]; exact Nat.ne_of_lt (Nat.lt_succ_of_lt hb0)
          exact hm.heap b o (by simp only [List.mem_cons, List.mem_singleton, List.not_mem_nil, or_false, not_or]; exact ⟨hb1, hb2⟩) (Heap.get?_push_of_some _ (Heap.get?_push_of_some _ e))
      · cases r₂ with
        | error e => exact hr₂
        | ok fl₂ =>
          cases fl₂ with
          | ret r =>
            obtain ⟨rfl, h', tk, rfl, hS', hk'⟩ := hr₂
            repeat (any_goals (first | assumption | wp_step))
            exact h _ _ hS' hk'
          | _ => exact hr₂.elim
    | _ => exact hr.elim
end
end K51
/-! sorted(set(list of texts)) -/
namespace K51
open PySem PySem.Spec PyProof.Rows L2 NdefX LamX
section
variable {P : Program} {w : World} {A : Around} {E : Value → Shared → Prop} {s : Shared}
theorem strs_of : ∀ (l : List Value), (∀ v ∈ l, ∃ k tk, v = Value.str k tk) → ∃ ks, StrsAre l ks
  | [], _ => ⟨[], .nil⟩
  | v :: l, h => by
    obtain ⟨k, tk, rfl⟩ := h v List.mem_cons_self
    obtain ⟨ks, hk⟩ := strs_of l fun u hu => h u (List.mem_cons_of_mem _ hu)
    exact ⟨k :: ks, .cons k tk hk⟩
theorem strs_mem : ∀ {l : List Value} {ks : List Str}, StrsAre l ks → ∀ k, k ∈ ks ↔ ∃ t, Value.str k t ∈ l
  | _, _, .nil => fun k => by simp
  | _, _, .cons x t h => fun k => by
    have ih := strs_mem h k
    rw [List.mem_cons, ih]
    constructor
    · rintro (z | ⟨u, z⟩)
      · exact ⟨t, by rw [z]; exact List.mem_cons_self⟩
      · exact ⟨u, List.mem_cons_of_mem _ z⟩
    · rintro ⟨u, z⟩
      rcases List.mem_cons.mp z with z | z
      · injection z with z
        exact .inl z
      · exact .inr ⟨u, z⟩
theorem str_is {k : Str} {v : Value} (h : (strKind P w).is k v = true) : ∃ t, v = .str k t := by
  cases v with
  | str x t =>
    have h2 := (strKind P w).inj (.str x t) x k (strKind_is P w x t) h
    exact ⟨t, by rw [h2]⟩
  | _ => exact absurd h (by intro z; cases z)
theorem sorted_setS {a : Addr} {M : Str → Prop} {n : Nat} {Q : Value → Shared → Prop} (R : SetS P w s.heap a M n) (hh : A.handled = none)
    (hQ : ∀ s' p (out : Array Value) (c : Nat) (ks : List Str), (∀ b o, s.heap.get? b = some o → s'.heap.get? b = some o) → s'.gens = s.gens → s'.os = s.os → s.heap.objs.size ≤ p →
      s'.heap.get? p = some (seqObj "list" out c) → StrsAre out.toList ks → (∀ k, k ∈ ks ↔ M k) → ks.length ≤ n → ks.length ≤ sizeLine → Q (.ref p) s') :
    wpAny (model P w) A (call (.builtin "sorted") [.ref a]) Q E s := by
  obtain ⟨o, es, ep, t, ho, hex, hd, g, hm, hb, hf, hn, hr, hl⟩ := R
  refine Calls.call_function_entry kind_sorted plain_sorted entry_sorted (args_sorted1 _) ?_
  unfold Builtin.«sorted»
  refine wpAny_bind (m := checkCount "sorted" 1 1 _) (wpAny_pure ?_)
  refine wpAny_bind (collect_set (A := A.in1) hh ⟨o, ho, hex.1, hd⟩ hf hb hr hl fun s1 vs k1 hz g1 o1 pm => ?_)
  have hvl : vs.length = es.size := by rw [pm.length_eq, List.length_map, Array.length_toList]
  have hsl : vs.length ≤ sizeLine := by rw [hvl]; exact fits_of_scanBound hb
  obtain ⟨ks, hI⟩ := strs_of vs fun v hv => by
    obtain ⟨e, he, q⟩ := List.mem_map.mp (pm.mem_iff.mp hv)
    obtain ⟨⟨k, h1, _⟩, _⟩ := g e he
    obtain ⟨t, h2⟩ := str_is h1
    exact ⟨k, t, by rw [← q]; exact h2⟩
  have hkm : ∀ k, k ∈ ks ↔ M k := fun k => by
    rw [strs_mem hI, hm]
    constructor
    · rintro ⟨t, z⟩
      obtain ⟨e, he, q⟩ := List.mem_map.mp (pm.mem_iff.mp z)
      exact ⟨e, he, by rw [q]; exact strKind_is P w k t⟩
    · rintro ⟨e, he, q⟩
      obtain ⟨t, h2⟩ := str_is q
      exact ⟨t, pm.mem_iff.mpr (List.mem_map.mpr ⟨e, he, h2⟩)⟩
  refine wpAny_bind (wpAny_newList ?_ hsl)
  have hoL : (s1.heap.push (seqObj "list" vs.toArray 0)).get? s1.heap.objs.size = some (seqObj "list" vs.toArray 0) := Heap.get?_push_size _ rfl
  refine wpAny_bind (wpAny_holding (wpAny_call_entry slot_list_sort ⟨_, hoL, rfl⟩ entry_list_sort (list_sort_treeKAny strKind_oneLt hoL hI.keysOf (fun v₁ v₂ rest e => keyKind_strs (by rw [← e]; exact hI)) hsl fun st' hp hs => ⟨_, rfl, ?_⟩) (args_list_sort _)))
  obtain ⟨ks', a1, a2, _⟩ := sorted_out_str hI hp hs
  generalize (arrOf st').map (·.2) = out at a1 ⊢
  obtain ⟨c, hc⟩ := sortedHeap_at (vs := vs) (out := out) hoL
  have hkl : ks'.length = vs.length := by rw [a2.length_eq, ← StrsAre.length hI]
  refine wpAny_pure ⟨_, rfl, hQ _ s1.heap.objs.size out c ks' (fun b u e => ?_) g1 o1 hz hc a1 (fun k => by rw [a2.mem_iff, hkm]) (by omega) (by omega)⟩
  have q := k1 b u e
  have hlt := Heap.lt_size q
  show (sortedHeap (s1.heap.push (seqObj "list" vs.toArray 0)) s1.heap.objs.size vs out).get? b = some u
  rw [sortedHeap_old (Nat.ne_of_lt hlt) (by rw [size_push']; exact Nat.lt_succ_of_lt hlt)]
  exact Heap.get?_push_of_some _ q
end
/-- the set of texts at a -/
def SetSO (P : Program) (w : World) (a : Addr) (M : Str → Prop) (n : Nat) : HO := .ext fun h => SetS P w h a M n
section
variable {X : Cx}
/-- set(xs) of a list of texts -/
def rSetS (P : Program) (w : World) (K : PySem.W.Frag) : List V → Hp → VK → Prop := fun vs H Q => ∃ (a : Addr) (ks : List Str), vs = [V.ref a] ∧ SqL K H a (ks.map V.str) ∧ ks.length ≤ 1000 ∧
  ∀ p, H p = none → Q (.ref p) (upd H p (SetSO P w p (fun j => j ∈ ks) ks.length))
/-- sorted(found) -/
def rSortedSetS (P : Program) (w : World) : List V → Hp → VK → Prop := fun vs H Q => ∃ (a : Addr) (M : Str → Prop) (n : Nat), vs = [V.ref a] ∧ H a = some (SetSO P w a M n) ∧
  ∀ (ks : List Str) (p : Addr), (∀ k, k ∈ ks ↔ M k) → ks.length ≤ n → H p = none → Q (.ref p) (upd H p (.lst (ks.map V.str)))
theorem setSO_new {w : World} {P : Program} {H : Hp} {h : Heap} {a : Addr} {M : Str → Prop} {n : Nat} (R : SetS P w h a M n) : ObjOk P w H h a (SetSO P w a M n) := by
  have ⟨o, _, _, _, ho, _⟩ := R
  exact ⟨R, ⟨o, ho⟩, fun h1 h2 p k => SetS.at p k⟩
theorem cr_setS (hc : X.calm = true) : CallR X (.type "set") (rSetS X.prog X.w X.K) := by
  intro pins s σ H vs us Q I r h
  obtain ⟨a, ks, rfl, hs, hl, q⟩ := h
  obtain ⟨its, rv, hlt, _⟩ := I.list hs
  rw [Vals.ref1 r]
  refine call_set_strs ks (I.ok.hd hc) hlt.isList rv.strs (by unfold scanBound; omega) fun h' tk R1 k => ?_
  exact ⟨.ref _, upd H s.heap.objs.size (SetSO X.prog X.w s.heap.objs.size (fun j => j ∈ ks) ks.length), I.laid (t' := tk) k (Nat.le_refl _) (setSO_new R1), rfl, q _ (I.hok.fresh (Nat.le_refl _))⟩
theorem cr_sortedSetS (hc : X.calm = true) : CallR X (.builtin "sorted") (rSortedSetS X.prog X.w) := by
  intro pins s σ H vs us Q I r h
  obtain ⟨a, M, n, rfl, ha, q⟩ := h
  have R : SetS X.prog X.w s.heap a M n := (I.hok a _ ha).1
  rw [Vals.ref1 r]
  refine sorted_setS R (I.ok.hd hc) fun s' p out c ks k g o hp hg hi hm hn hl => ?_
  have hlen : (ks.map V.str).length ≤ sizeLine := by rw [List.length_map]; exact hl
  have hnn : H p = none := I.hok.fresh hp
  have J : Inv X pins σ (upd H p (.lst (ks.map V.str))) { s with heap := s'.heap, gens := s'.gens, drawn := s'.drawn, toks := s'.toks } :=
    I.call (ch := []) (Un.laid k hp hnn) (I.hok.laid k hp ⟨hlen, out.toList, c, vals_of_strs hi, hg⟩) (by rw [g]; exact I.bare) (fun _ z => nomatch z)
  have e : s' = { s with heap := s'.heap, gens := s'.gens, drawn := s'.drawn, toks := s'.toks } := by
    cases s'
    cases s
    cases o
    rfl
  rw [e]
  exact ⟨.ref p, _, J, rfl, q ks p hm hn hnn⟩
end
end K51
/-! the signs -/
namespace K51
open PySem PySem.Spec PyProof.Rows L2 NdefX LamX
theorem ones_of {R : Nat → Prop} : ∀ (ks : List Str), (∀ k ∈ ks, ∃ c, k = one c ∧ R c) → ∃ cs : List Nat, ks = cs.map one ∧ ∀ c ∈ cs, R c
  | [], _ => ⟨[], rfl, fun _ h => nomatch h⟩
  | k :: ks, h => by
    obtain ⟨c, e, r⟩ := h k List.mem_cons_self
    obtain ⟨cs, e2, r2⟩ := ones_of ks fun u hu => h u (List.mem_cons_of_mem _ hu)
    refine ⟨c :: cs, by rw [e, e2]; rfl, fun d hd => ?_⟩
    rcases List.mem_cons.mp hd with z | z
    · rw [z]
      exact r
    · exact r2 d z
section
variable {P : Program} {w : World} {K : PySem.W.Frag} {mg : Str → Option Value} {base : Heap} {T : List NTab}
theorem ok_signs_of (F : Fn K mg "signs_of" s_signs_of) (Tx : Txt mg) : DOk P w K mg base "signs_of" 1 ["machine"] [] (sp_signs_of T) := by
  refine F.dok sc_signs_of b_signs_of (fun vs H Q E h => ?_) (fun f cdv A outer s H vs Q E hr h => ?_)
  · obtain ⟨m, M, rfl, _⟩ := h
    rfl
  · obtain ⟨m, M, rfl, hM, ok, q⟩ := h
    have few := ok.few
    obtain ⟨af, al', as, ts, hm0⟩ := hM
    have lts := hm0.st.len
    refine ⟨_, (pss_one (ps_ret (pe_callB (cr_sortedSetS rfl) (by rfl) Tx.n_sorted (by decide +kernel) (pa_cons (pe_callTy (cr_setS rfl) (by rfl) Tx.n_set (by decide +kernel) (pa_cons (pe_lc (own := [("room", 1), ("sign", 2), ("to", 3)]) (g := gTup K 3 (gCons (gName 1) (gCons (gName 2) (gCons (gName 3) gNil)))) (tt := tYes) (by rfl) sc_signs_of.nd (pi_list (pe_ix ix_tup (pv 0) pe_int (fun _ _ => rfl))) (blkOk_by (N := ["machine", "room", "sign", "to"]) (sc := (defScope s_signs_of)) (own := [("room", 1), ("sign", 2), ("to", 3)]) (by decide +kernel)) (fun _ _ _ _ _ => (pg_tup rfl (pgs_cons (pg_name (i := 1) sc_signs_of.nd rfl (by first | exact .inl rfl | exact .inr rfl)) (pgs_cons (pg_name (i := 2) sc_signs_of.nd rfl (by first | exact .inl rfl | exact .inr rfl)) (pgs_cons (pg_name (i := 3) sc_signs_of.nd rfl (by first | exact .inl rfl | exact .inr rfl)) pgs_nil))))) (fun _ _ _ _ _ => pts_nil) (fun _ _ _ _ _ => (pv 2))) pa_nil)) pa_nil)))), ?_⟩
    refine ⟨_, rfl, m, _, 3, _, rfl, rfl, SqT.of hm0.m, rfl, as, rfl, ⟨_, SqL.of hm0.s⟩, fun D hD => ?_⟩
    refine lc_it (walk_list (xs := ts.map V.ref)) (fun i H6 => Kp T [] H H6 ∧ H6 D = some (.lst ((M.S.take i).map fun s => sg s.2.1))) ⟨Kp.new hD, upd_same⟩ (fun i H6 _ h6 => SqL.of (h6.1.get hm0.s)) (fun i x H6 H7 hi h6 y => ?_) (fun H6 h6 => ?_)
    · obtain ⟨k6, eD⟩ := h6
      obtain ⟨rfl, e2⟩ := y
      obtain ⟨t', s', rfl, et, ess, hts⟩ := hm0.st.get e2
      have hi2 : i < M.S.length := (List.getElem?_eq_some_iff.mp ess).1
      refine ⟨t', _, rfl, SqT.of (k6.get hts), rfl, _, _, rfl, _, _, rfl, _, _, rfl, rfl, rfl, ?_⟩
      refine ⟨_, rfl, ?_⟩
      refine ⟨_, eD, by rw [List.length_map, List.length_take]; exact sz_lt (by omega), k6.mut (.inl hD) eD, ?_⟩
      rw [upd_same, List.take_add_one, ess, List.map_append]
      rfl
    · obtain ⟨k6, eD⟩ := h6
      rw [List.length_map, List.take_of_length_le (by omega)] at eD
      have hks : M.S.map (fun s => sg s.2.1) = (M.S.map fun s => one s.2.1).map V.str := by rw [List.map_map]; rfl
      rw [hks] at eD
      refine ⟨D, _, rfl, SqL.of eD, by rw [List.length_map]; omega, fun p hp => ?_⟩
      refine ⟨p, _, _, rfl, upd_same, fun ks r hm hl hr => ?_⟩
      obtain ⟨cs, ecs, hcs⟩ := ones_of (R := fun c => ∃ s ∈ M.S, s.2.1 = c) ks fun k hk => by
        obtain ⟨s', hs', e⟩ := List.mem_map.mp ((hm k).mp hk)
        exact ⟨s'.2.1, e.symm, s', hs', rfl⟩
      refine q _ r cs ((k6.snew hp).snew hr) ?_ (fun s' hs' => ?_) hcs
      · rw [upd_same, ecs, List.map_map]
        rfl
      · have h1 := (hm (one s'.2.1)).mpr (List.mem_map.mpr ⟨s', hs', rfl⟩)
        rw [ecs] at h1
        obtain ⟨c, hc, e⟩ := List.mem_map.mp h1
        rw [← one_inj e]
        exact hc
end
end K51
/-! the law -/
namespace K51
open PySem PySem.Spec PyProof.Rows L2 NdefX LamX
section
variable {P : Program} {w : World} {K : PySem.W.Frag} {mg : Str → Option Value} {base : Heap} {T : List NTab}
theorem law_fn {f : Addr} {fd : FuncData} (F : Fun K "law" "law" s_law f fd) (Tx : Txt mg)
    (D__law_hand : DOk P w K mg base "_law_hand" 1 ["_law_script", "_law_k"] [] (sp_hand (K := K) T))
    (D__law_draw : DOk P w K mg base "_law_draw" 1 ["_law_hand_here", "_law_size"] [] (sp_draw T))
    (D__law_letters : DOk P w K mg base "_law_letters" 2 ["_law_hand_here"] [] (sp_letters T))
    (D__law_machine : DOk P w K mg base "_law_machine" 3 ["_law_hand_here", "_law_upto", "_law_extra", "_law_letters_here"] [] (sp_machine T))
    (D__law_line : DOk P w K mg base "_law_line" 2 ["_law_hand_here", "_law_letters_here"] [] (sp_line T))
    (D__law_drawn : DOk P w K mg base "_law_drawn" 3 ["_law_hand_here", "_law_machine_here", "_law_letters_here"] [] (sp_drawn T))
    (D_lets_pump : DOk P w K mg base "lets_pump" 6 ["machine", "thing"] [] (sp_lets_pump T))
    (D_pump_of : DOk P w K mg base "pump_of" 14 ["machine"] [] (sp_pump_of T))
    (D__law_right : DOk P w K mg base "_law_right" 8 ["_law_machine_here", "_law_pump"] [] (sp_right T)) :
    FnOk P w K mg base CX0 15 f fd ["_law_script"] (sp_law (K := K) T) := by
  refine F.ok sc_law (fun vs H Q E h => ?_) (fun cdv A outer s H vs Q E hr h => ?_)
  · obtain ⟨a, ns, rfl, _⟩ := h
    rfl
  · obtain ⟨a, ns, rfl, ha, hT, q⟩ := h
    refine ⟨_, (pss_cons (ps_for PassesOwn.never rfl (pi_range1 (by rfl) Tx.n_range (pa_cons (pe_callB (call_max2 rfl) (by rfl) Tx.n_max (by decide +kernel) (pa_cons pe_int (pa_cons (pe_callB (call_min2 rfl) (by rfl) Tx.n_min (by decide +kernel) (pa_cons (pe_callB call_len_seq (by rfl) Tx.n_len (by decide +kernel) (pa_cons (pv 0) pa_nil)) (pa_cons pe_int pa_nil))) pa_nil))) pa_nil)) (pg_name (i := 1) sc_law.nd rfl (by first | exact .inl rfl | exact .inr rfl))
      (pss_cons (ps_set (i := 2) sc_law.nd rfl (by first | exact .inl rfl | exact .inr rfl) (pe_d D__law_hand hr (by rfl) (pa_cons (pv 0) (pa_cons (pv 1) pa_nil))))
      (pss_cons (ps_set (i := 3) sc_law.nd rfl (by first | exact .inl rfl | exact .inr rfl) (pe_d D__law_letters hr (by rfl) (pa_cons (pv 2) pa_nil)))
      (pss_cons (ps_set (i := 4) sc_law.nd rfl (by first | exact .inl rfl | exact .inr rfl) (pe_d D__law_machine hr (by rfl) (pa_cons (pv 2) (pa_cons pe_int (pa_cons (pe_ix ix_list (pe_lst (pa_cons pe_int (pa_cons pe_int pa_nil))) (pe_d D__law_draw hr (by rfl) (pa_cons (pv 2) (pa_cons pe_int pa_nil))) (fun _ _ => rfl)) (pa_cons (pv 3) pa_nil))))))
      (pss_cons (ps_if (pt_cmpR op_eq (pe_d D__law_draw hr (by rfl) (pa_cons (pv 2) (pa_cons pe_int pa_nil))) pe_int (nomark _))
      (pss_one (ps_set (i := 4) sc_law.nd rfl (by first | exact .inl rfl | exact .inr rfl) (pe_d D__law_line hr (by rfl) (pa_cons (pv 2) (pa_cons (pv 3) pa_nil))))) pss_nil)
      (pss_cons (ps_setLc (i := 5) (own := [("_law_turn", 8)]) (g := gName 8) (tt := tYes) (by rfl) sc_law.nd rfl rfl (sw_true rfl rfl rfl (by decide +kernel)) (pi_range1 (by rfl) Tx.n_range (pa_cons pe_int pa_nil)) (blkOk_by (N := ["_law_script", "_law_k", "_law_hand_here", "_law_letters_here", "_law_machine_here", "_law_pumps", "_law_told", "_law_pump", "_law_turn"]) (sc := (defScope s_law)) (own := [("_law_turn", 8)]) (by decide +kernel)) (fun _ _ _ _ _ => (pg_name (i := 8) sc_law.nd rfl (by first | exact .inl rfl | exact .inr rfl))) (fun _ _ _ _ _ => pts_nil) (fun _ _ _ _ _ => (pe_d D__law_drawn hr (by rfl) (pa_cons (pv 2) (pa_cons (pv 4) (pa_cons (pv 3) pa_nil))))))
      (pss_cons (ps_setLc (i := 5) (own := [("_law_pump", 7)]) (g := gName 7) (by rfl) sc_law.nd rfl rfl (sw_true rfl rfl rfl (by decide +kernel)) (pi_list (pv 5)) (blkOk_by (N := ["_law_script", "_law_k", "_law_hand_here", "_law_letters_here", "_law_machine_here", "_law_pumps", "_law_told", "_law_pump", "_law_turn"]) (sc := (defScope s_law)) (own := [("_law_pump", 7)]) (by decide +kernel)) (fun _ _ _ _ _ => (pg_name (i := 7) sc_law.nd rfl (by first | exact .inl rfl | exact .inr rfl))) (fun _ _ _ _ _ => (pts_one (pt_val (pe_d D_lets_pump hr (by rfl) (pa_cons (pv 4) (pa_cons (pv 7) pa_nil)))))) (fun _ _ _ _ _ => (pv 7)))
      (pss_cons (ps_set (i := 6) sc_law.nd rfl (by first | exact .inl rfl | exact .inr rfl) (pe_d D_pump_of hr (by rfl) (pa_cons (pv 4) pa_nil)))
      (pss_cons (ps_if (pt_cmpR op_notN (pv 6) pe_non (nomark _))
      (pss_one (ps_expr (pe_bm PySem.F.plainAttrs_list PySem.F.slot_list_append PySem.F.type_list_append mt_append (pv 5) (pa_cons (pv 6) pa_nil)))) pss_nil)
      (pss_one (ps_for PassesOwn.never rfl (pi_list (pv 5)) (pg_name (i := 7) sc_law.nd rfl (by first | exact .inl rfl | exact .inr rfl))
      (pss_one (ps_if (pt_not (pt_val (pe_d D__law_right hr (by rfl) (pa_cons (pv 4) (pa_cons (pv 7) pa_nil)))))
      (pss_one (ps_ret pe_bl)) pss_nil)))))))))))))
      (pss_one (ps_ret pe_bl))), ?_⟩
    obtain ⟨n, hn, hn4⟩ : ∃ n : Nat, (if (if (4 : Int) < (((ns.map V.int).length : Nat) : Int) then (4 : Int) else (((ns.map V.int).length : Nat) : Int)) > 1 then (if (4 : Int) < (((ns.map V.int).length : Nat) : Int) then (4 : Int) else (((ns.map V.int).length : Nat) : Int)) else 1) = (n : Int) ∧ n ≤ 4 := by
      refine ⟨(if (if (4 : Int) < (((ns.map V.int).length : Nat) : Int) then (4 : Int) else (((ns.map V.int).length : Nat) : Int)) > 1 then (if (4 : Int) < (((ns.map V.int).length : Nat) : Int) then (4 : Int) else (((ns.map V.int).length : Nat) : Int)) else 1).toNat, ?_, ?_⟩
      · split <;> omega
      · split <;> (try split) <;> omega
    refine ⟨_, rfl, a, _, rfl, .inl ha, _, _, rfl, _, _, rfl, (n : Int), ?_, by omega, by omega, ?_⟩
    · show [V.int _] = [V.int _]
      rw [hn]
    refine for_it (walk_range0 (n := n)) (fun i σ H1 => ∃ y1 y2 y3 y4 y5 y6 y7 y8 : Option V, σ = [some (.ref a), y1, y2, y3, y4, y5, y6, y7, y8] ∧ Kp T [] H H1) ⟨_, _, _, _, _, _, _, _, rfl, Kp.refl H⟩ (fun _ _ _ _ _ => trivial) (fun i x σ H1 H2 hi h1 y => ?_) (fun σ H1 h1 => ?_)
    · obtain ⟨y1, y2, y3, y4, y5, y6, y7, y8, rfl, k1⟩ := h1
      obtain ⟨rfl, rfl⟩ := y
      have hi4 : i < 4 := by omega
      refine ⟨_, rfl, _, rfl, a, ns, i, rfl, K51.SqL.kp ha k1 (by simp), by omega, fun H3 hd k3 nhd hh3 => ?_⟩
      refine ⟨_, rfl, hd, rfl, hh3, fun H4 L k4 hh4 hL => ?_⟩
      refine ⟨_, rfl, sz_ok (by simp), fun p0 hp0 => ?_⟩
      have k5 := k4.snew (o := .lst [.int 4, .int 9]) hp0
      have hh5 := hh4.off (o := .lst [.int 4, .int 9]) hp0
      refine ⟨_, rfl, hd, 2, rfl, hh5, by omega, by omega, fun H6 z k6 hh6 hz => ?_⟩
      have e1 : ∃ e : Nat, e ≤ 20 ∧ ([V.int 4, .int 9] : List V)[z]? = some (ni e) := by
        match z, hz with
        | 0, _ => exact ⟨4, by omega, rfl⟩
        | 1, _ => exact ⟨9, by omega, rfl⟩
      obtain ⟨e, he, e1⟩ := e1
      refine ⟨p0, _, _, _, rfl, rfl, SqL.of (k6.getX upd_same (hh4.ne hp0)), atI_nat e1, ?_⟩
      refine ⟨_, rfl, hd, 5, e, L, rfl, hh6, hL, by omega, by omega, he, fun H7 m M k7 hh7 hM ok hn5 => ?_⟩
      have k57 := (k5.trans k6).trans k7
      refine ⟨_, rfl, hd, 2, rfl, hh7, by omega, by omega, fun H8 z2 k8 hh8 hz2 => ?_⟩
      refine ⟨rfl, decide (z2 = 0), ?_, ?_⟩
      · show V.bl (decide (ni z2 = V.int 0)) = _
        by_cases e0 : z2 = 0
        · rw [decide_eq_true e0, decide_eq_true (by rw [e0]; rfl)]
        · rw [decide_eq_false e0, decide_eq_false (fun z => e0 (by injection z with z; omega))]
      refine ifs_join (fun σ' H' => ∃ (m : Addr) (M : Mac) (y5 y6 y7 y8 : Option V), σ' = [some (.ref a), some (ni i), some (.ref hd), some (wd L), some (.ref m), y5, y6, y7, y8] ∧ Kp T [hd] H3 H' ∧ Hand H' hd ∧ MAt [hd] H' m M ∧ M.Ok ∧ M.n ≤ 5) (fun σ9 H9 h9 => ?_) (fun _ hK => ?_) (fun _ => ?_)
      · obtain ⟨m, M, y5, y6, y7, y8, rfl, k9, hh9, hM, ok, hn5⟩ := h9
        refine ⟨20, rfl, by omega, by omega, fun D hD => ?_⟩
        have nD := hh9.ne hD
        refine lc_it (walk_range0 (n := 20)) (fun i H2 => ∃ ps us, Kp T [hd] H9 H2 ∧ Hand H2 hd ∧ H2 D = some (.lst (ps.map V.ref)) ∧ PsAt [hd, D] H2 ps us ∧ ps.length = i ∧ ∀ u ∈ us, u.Form M.n ∧ u.rs.length ≤ 3) ⟨[], [], Kp.new hD, hh9.off hD, upd_same, .nil, rfl, fun _ h => nomatch h⟩ (fun _ _ _ _ => trivial) (fun j x H2 H4 hj h2 y => ?_) (fun H2 h2 => ?_)
        · obtain ⟨ps, us, k2, hh2, eD, hps, hl, hus⟩ := h2
          obtain ⟨rfl, rfl⟩ := y
          have hj2 : j < 20 := hj
          refine ⟨rfl, ?_⟩
          refine ⟨_, rfl, _, rfl, _, rfl, hd, m, M, L, rfl, hh2, hM.kpX k2 (fun b hb => ⟨hb, hh9.lists b hb⟩), ok, hL, fun H5 p u k5 hh5 hP hf hl3 => ?_⟩
          have eD5 := k5.getX eD nD
          have kset : Kp T [D] H5 (upd H5 D (.lst (ps.map V.ref ++ [.ref p]))) := (Kp.refl H5).mut (.inr List.mem_cons_self) eD5
          have hset : ∀ b ∈ [D], b ∈ [hd, D] ∧ ∃ xs, H5 b = some (.lst xs) := fun b hb => by
            rw [List.mem_singleton.mp hb]
            exact ⟨by simp, _, eD5⟩
          refine ⟨_, eD5, by rw [List.length_map]; exact sz_lt (by omega), ps ++ [p], us ++ [u], (k2.trans k5).mut (.inl hD) eD5, hh5.set (hh9.neq hD), by rw [upd_same, List.map_append]; rfl, Paired.snoc (Paired.mapP hps fun p' u' hp' => ?_) ?_, by rw [List.length_append]; show _ + 1 = _; omega, fun u' hu' => ?_⟩
          · exact (hp'.kpX k5 (fun b hb => ⟨by rw [List.mem_singleton.mp hb]; exact List.mem_cons_self, hh2.lists b hb⟩)).kpX kset hset
          · refine (hP [hd, D] (fun x hx => ?_)).kpX kset hset
            rcases List.mem_cons.mp hx with h | h
            · obtain ⟨xs, ex⟩ := hh2.lists hd List.mem_cons_self
              rw [h, ex]
              simp
            · rw [List.mem_singleton.mp h, eD]
              simp
          · rcases List.mem_append.mp hu' with h | h
            · exact hus u' h
            · rw [List.mem_singleton.mp h]
              exact ⟨hf, hl3⟩
        · obtain ⟨ps, us, k2, hh2, eD, hps, hl, hus⟩ := h2
          have hl20 : ps.length = 20 := hl
          have hM2 := hM.kpX k2 (fun b hb => ⟨hb, hh9.lists b hb⟩)
          refine ⟨_, rfl, D, rfl, ⟨_, SqL.of eD⟩, fun D2 hD2 => ?_⟩
          refine lc_it (walk_list (xs := ps.map V.ref)) (fun i H5 => ∃ ps2 us2, Kp T [] H2 H5 ∧ H5 D2 = some (.lst (ps2.map V.ref)) ∧ Paired (fun p u => PAt [] H2 p u ∧ Good M u) ps2 us2 ∧ ps2.length ≤ i) ⟨[], [], Kp.new hD2, upd_same, .nil, Nat.le_refl _⟩ (fun i H5 _ h5 => by obtain ⟨_, _, k5, _⟩ := h5; exact SqL.of (k5.get eD)) (fun j x H5 H6 hj h5 y => ?_) (fun H5 h5 => ?_)
          · obtain ⟨ps2, us2, k5, eD5, hps2, hl2⟩ := h5
            obtain ⟨rfl, e2⟩ := y
            have hj2 : j < 20 := by rw [List.length_map] at hj; omega
            obtain ⟨p, u, rfl, ep, eu, hP⟩ := paired_get hps e2
            have hu := hus u (List.mem_of_getElem? eu)
            refine ⟨rfl, ?_⟩
            refine ⟨_, rfl, _, rfl, m, p, M, u, rfl, (hM2.kp k5).off, ok, (hP.kp k5).off, hu.1, fun H7 bb k7 hbb => ?_⟩
            have eD7 := k7.get eD5
            cases bb with
            | true =>
              refine ⟨true, rfl, iteT ?_⟩
              refine ⟨_, rfl, ?_⟩
              exact ⟨_, eD7, by rw [List.length_map]; exact sz_lt (by omega), ps2 ++ [p], us2 ++ [u], (k5.trans k7).mut (.inl hD2) eD7, by rw [upd_same, List.map_append]; rfl, Paired.snoc hps2 ⟨hP.off, hu.1, hbb.mp rfl, fun _ => by have := hu.2; omega⟩, by rw [List.length_append]; show _ + 1 ≤ _; omega⟩
            | false =>
              refine ⟨false, rfl, iteF ?_⟩
              exact ⟨ps2, us2, k5.trans k7, eD7, hps2, by omega⟩
          · obtain ⟨ps2, us2, k5, eD5, hps2, hl2⟩ := h5
            rw [List.length_map, hl20] at hl2
            have hM5 := (hM2.kp k5).off
            refine ⟨_, rfl, m, M, rfl, hM5, ok, hn5, k5.tab (k2.tab (k9.tab (k3.tab (k1.tab hT)))), fun H6 v k6 hv => ?_⟩
            have eD6 := k6.get eD5
            have k56 := k5.trans k6
            refine ⟨_, rfl, rfl, !decide (v = .non), rfl, ?_⟩
            refine ifs_join (fun σ' H' => ∃ (v : V) (ps3 : List Addr) (us3 : List Pump) (y7 y8 : Option V), σ' = [some (.ref a), some (ni i), some (.ref hd), some (wd L), some (.ref m), some (.ref D2), some v, y7, y8] ∧ Kp T [] H2 H' ∧ H' D2 = some (.lst (ps3.map V.ref)) ∧ Paired (fun p u => PAt [] H' p u ∧ Good M u) ps3 us3) (fun σ8 H8 h8 => ?_) (fun hb hK => ?_) (fun _ => ?_)
            · obtain ⟨v, ps3, us3, y7, y8, rfl, k8, eD8, hps3⟩ := h8
              refine ⟨_, rfl, D2, rfl, ⟨_, SqL.of eD8⟩, ?_⟩
              refine for_it (walk_list (xs := ps3.map V.ref)) (fun i' σ H9 => ∃ y7 : Option V, σ = [some (.ref a), some (ni i), some (.ref hd), some (wd L), some (.ref m), some (.ref D2), some v, y7, y8] ∧ Kp T [] H8 H9) ⟨_, rfl, Kp.refl H8⟩ (fun i' σ H9 _ h1 => ?_) (fun i' x σ H9 H10 hi' h1 y => ?_) (fun σ H9 h1 => ?_)
              · obtain ⟨_, _, k⟩ := h1
                exact SqL.of (k.get eD8)
              · obtain ⟨y7, rfl, k⟩ := h1
                obtain ⟨rfl, e2⟩ := y
                obtain ⟨p, u, rfl, ep, eu, hP, hG⟩ := paired_get hps3 e2
                refine ⟨_, rfl, _, rfl, m, M, p, u, rfl, ((hM2.kp k8).kp k).off, ok, hP.kp k, hG.form, hG.lets, hG.few, fun H11 k11 => ?_⟩
                refine ⟨true, rfl, iteF ?_⟩
                exact ⟨_, rfl, k.trans k11⟩
              · obtain ⟨y7, rfl, k⟩ := h1
                refine ⟨_, _, _, _, _, _, _, _, rfl, k1.trans (Kp.drop k3 ((k9.trans k2).trans ((k8.trans k).nil)) fun b hb => .inr ?_)⟩
                rw [List.mem_singleton.mp hb]
                exact nhd
            · rcases hv with hv | ⟨p, u, rfl, hP, hG⟩
              · subst hv
                exact absurd hb (by simp)
              have kset : Kp T [D2] H6 (upd H6 D2 (.lst (ps2.map V.ref ++ [.ref p]))) := (Kp.refl H6).mut (.inr List.mem_cons_self) eD6
              have kall : Kp T [] H2 (upd H6 D2 (.lst (ps2.map V.ref ++ [.ref p]))) := k56.mut (.inl hD2) eD6
              refine ⟨_, rfl, .inl ⟨rfl, _, SqL.of eD6⟩, _, rfl, D2, _, _, rfl, rfl, eD6, ?_, ?_⟩
              · rw [List.length_map]
                exact sz_lt (by omega)
              refine hK _ _ ⟨.ref p, ps2 ++ [p], us2 ++ [u], _, _, rfl, kall, by rw [upd_same, List.map_append]; rfl, Paired.snoc (Paired.mapP hps2 fun p' u' h' => ⟨h'.1.kp kall, h'.2⟩) ⟨?_, hG⟩⟩
              refine ((hP [D2] fun x hx => ?_).kpX kset fun b hb => ⟨hb, ?_⟩).off
              · rw [List.mem_singleton.mp hx, eD5]
                simp
              · rw [List.mem_singleton.mp hb]
                exact ⟨_, eD6⟩
            · exact ⟨v, ps2, us2, _, _, rfl, k56, eD6, Paired.mapP hps2 fun p' u' h' => ⟨h'.1.kp k56, h'.2⟩⟩
      · refine ⟨_, rfl, _, rfl, hd, L, rfl, hh8, hL, fun H9 m2 M2 k9 hh9 hM2 ok2 hn52 => ?_⟩
        exact hK _ _ ⟨m2, M2, _, _, _, _, rfl, (k57.trans k8).trans k9, hh9, hM2, ok2, hn52⟩
      · exact ⟨m, M, _, _, _, _, rfl, k57.trans k8, hh8, hM.kpX k8 (fun b hb => ⟨hb, hh7.lists b hb⟩), ok, hn5⟩
    · exact q H1 (by obtain ⟨_, _, _, _, _, _, _, _, _, k⟩ := h1; exact k)
end
end K51
/-! all the defs joined -/
namespace K51
open PySem PySem.Spec PyProof.Rows L2 NdefX LamX
def TT (P1 P2 P3 : Addr) : List NTab := [(P1, nmc "text_between.<locals>.<lambda>"), (P2, nmc "double_text.<locals>.nexts"), (P3, nmc "led_text.<locals>.nexts")]
/-- what stands at the program's top -/
structure Top (K : PySem.W.Frag) (mg : Str → Option Value) (c1 c2 c3 : Addr) : Prop where
  Tx : Txt mg
  F_first_text : Fn K mg "first_text" s_first_text
  F_is_sign : Fn K mg "is_sign" s_is_sign 
  F_is_whole : Fn K mg "is_whole" s_is_whole 
  F_is_within : Fn K mg "is_within" s_is_within 
  F_look_at_room : Fn K mg "look_at_room" s_look_at_room 
  F_look_at_rooms : Fn K mg "look_at_rooms" s_look_at_rooms 
  F_is_step : Fn K mg "is_step" s_is_step 
  F_look_at_steps : Fn K mg "look_at_steps" s_look_at_steps 
  F_look_at : Fn K mg "look_at" s_look_at 
  F_turned : Fn K mg "turned" s_turned 
  F_look_at_word : Fn K mg "look_at_word" s_look_at_word 
  F_alone_at : Fn K mg "alone_at" s_alone_at 
  F_moved : Fn K mg "moved" s_moved 
  F_moved_by : Fn K mg "moved_by" s_moved_by 
  F_sum_at : Fn K mg "sum_at" s_sum_at 
  F_ways : FnD K mg "ways" s_ways [.non, .non]
  F_ways_between : Fn K mg "ways_between" s_ways_between 
  F_are_signs : Fn K mg "are_signs" s_are_signs 
  F_is_formed : Fn K mg "is_formed" s_is_formed 
  F_is_middle : Fn K mg "is_middle" s_is_middle 
  F_look_at_times : Fn K mg "look_at_times" s_look_at_times 
  F_laid : FnD K mg "laid" s_laid [.int 1]
  F_least_ways : FnD K mg "least_ways" s_least_ways [.int 1]
  F_lets_pump : Fn K mg "lets_pump" s_lets_pump 
  F__law_draw : Fn K mg "_law_draw" s__law_draw 
  F__law_hand : Fn K mg "_law_hand" s__law_hand 
  F__law_letters : Fn K mg "_law_letters" s__law_letters 
  F__law_rooms : Fn K mg "_law_rooms" s__law_rooms 
  F__law_word : Fn K mg "_law_word" s__law_word 
  F__law_machine : Fn K mg "_law_machine" s__law_machine 
  F__law_line : Fn K mg "_law_line" s__law_line 
  F__law_drawn : Fn K mg "_law_drawn" s__law_drawn 
  F__law_has_least : Fn K mg "_law_has_least" s__law_has_least 
  F__law_right : Fn K mg "_law_right" s__law_right 
  F_come_to : Fn K mg "come_to" s_come_to 
  F_useful : Fn K mg "useful" s_useful 
  F_trimmed : Fn K mg "trimmed" s_trimmed 
  F_by_signs : Fn K mg "by_signs" s_by_signs 
  F_signs_of : Fn K mg "signs_of" s_signs_of 
  F_double_text : FnT K mg "double_text" s_double_text c2
  F_led_text : FnT K mg "led_text" s_led_text c3
  F_text_between : FnT K mg "text_between" s_text_between c1
  F_double_rounds : Fn K mg "double_rounds" s_double_rounds 
  F_led_rounds : Fn K mg "led_rounds" s_led_rounds 
  F_raised : Fn K mg "raised" s_raised 
  F_ranks : Fn K mg "ranks" s_ranks 
  F_greatest_rank : Fn K mg "greatest_rank" s_greatest_rank 
  F_shortest : Fn K mg "shortest" s_shortest 
  F_text_to : Fn K mg "text_to" s_text_to 
  F_text_from : Fn K mg "text_from" s_text_from 
  F_chain_of : Fn K mg "chain_of" s_chain_of 
  F_pump_by : Fn K mg "pump_by" s_pump_by 
  F_pump_of : Fn K mg "pump_of" s_pump_of 
theorem all_ok {P : Program} {w : World} {K : PySem.W.Frag} {mg : Str → Option Value} {base : Heap} {c1 c2 c3 P1 P2 P3 f : Addr} {fd : FuncData} (O : Top K mg c1 c2 c3) (h12 : P1 ≠ P2) (h13 : P1 ≠ P3) (h23 : P2 ≠ P3) (B1 : TabB base mg c1 P1) (B2 : TabB base mg c2 P2) (B3 : TabB base mg c3 P3) (F : Fun K "law" "law" s_law f fd) :
    FnOk P w K mg base CX0 15 f fd ["_law_script"] (sp_law (K := K) (TT P1 P2 P3)) := by
  have m1 : (P1, nmc "text_between.<locals>.<lambda>") ∈ TT P1 P2 P3 := by simp [TT]
  have m2 : (P2, nmc "double_text.<locals>.nexts") ∈ TT P1 P2 P3 := by simp [TT]
  have m3 : (P3, nmc "led_text.<locals>.nexts") ∈ TT P1 P2 P3 := by simp [TT]
  have u1 : ∀ p ∈ TT P1 P2 P3, p.1 = P1 → p.2 = nmc "text_between.<locals>.<lambda>" := fun p hp e => by
    unfold TT at hp
    rcases List.mem_cons.mp hp with z | z
    · rw [z]
    · rcases List.mem_cons.mp z with z | z
      · rw [z] at e
        exact absurd e (by first | exact h12 | exact h13 | exact h23 | exact h12.symm | exact h13.symm | exact h23.symm)
      · rcases List.mem_cons.mp z with z | z
        · rw [z] at e
          exact absurd e (by first | exact h12 | exact h13 | exact h23 | exact h12.symm | exact h13.symm | exact h23.symm)
        · cases z
  have u2 : ∀ p ∈ TT P1 P2 P3, p.1 = P2 → p.2 = nmc "double_text.<locals>.nexts" := fun p hp e => by
    unfold TT at hp
    rcases List.mem_cons.mp hp with z | z
    · rw [z] at e
      exact absurd e (by first | exact h12 | exact h13 | exact h23 | exact h12.symm | exact h13.symm | exact h23.symm)
    · rcases List.mem_cons.mp z with z | z
      · rw [z]
      · rcases List.mem_cons.mp z with z | z
        · rw [z] at e
          exact absurd e (by first | exact h12 | exact h13 | exact h23 | exact h12.symm | exact h13.symm | exact h23.symm)
        · cases z
  have u3 : ∀ p ∈ TT P1 P2 P3, p.1 = P3 → p.2 = nmc "led_text.<locals>.nexts" := fun p hp e => by
    unfold TT at hp
    rcases List.mem_cons.mp hp with z | z
    · rw [z] at e
      exact absurd e (by first | exact h12 | exact h13 | exact h23 | exact h12.symm | exact h13.symm | exact h23.symm)
    · rcases List.mem_cons.mp z with z | z
      · rw [z] at e
        exact absurd e (by first | exact h12 | exact h13 | exact h23 | exact h12.symm | exact h13.symm | exact h23.symm)
      · rcases List.mem_cons.mp z with z | z
        · rw [z]
        · cases z
  have FT : FtOk P w K mg base (TT P1 P2 P3) := ft_ok O.F_first_text O.Tx
  have D_is_sign : DOk P w K mg base "is_sign" 1 ["thing"] [] sp_is_sign := ok_is_sign O.F_is_sign O.Tx
  have D_is_whole : DOk P w K mg base "is_whole" 1 ["thing"] [] sp_is_whole := ok_is_whole O.F_is_whole O.Tx
  have D_is_within : DOk P w K mg base "is_within" 2 ["thing", "least", "most"] [] sp_is_within := ok_is_within O.F_is_within O.Tx D_is_whole
  have D_look_at_room : DOk P w K mg base "look_at_room" 3 ["machine", "room"] [] (sp_look_at_room (TT P1 P2 P3)) := ok_look_at_room O.F_look_at_room O.Tx D_is_within
  have D_look_at_rooms : DOk P w K mg base "look_at_rooms" 3 ["many", "part", "thing"] [] (sp_look_at_rooms (TT P1 P2 P3)) := ok_look_at_rooms O.F_look_at_rooms O.Tx D_is_within
  have D_is_step : DOk P w K mg base "is_step" 3 ["many", "thing"] [] sp_is_step := ok_is_step O.F_is_step O.Tx D_is_within D_is_sign
  have D_look_at_steps : DOk P w K mg base "look_at_steps" 4 ["many", "thing"] [] (sp_look_at_steps (TT P1 P2 P3)) := ok_look_at_steps O.F_look_at_steps O.Tx D_is_step
  have D_look_at : DOk P w K mg base "look_at" 5 ["thing"] [] (sp_look_at (TT P1 P2 P3)) := ok_look_at O.F_look_at O.Tx D_is_within D_look_at_rooms D_look_at_steps
  have D_turned : DOk P w K mg base "turned" 6 ["machine"] [] (sp_turned (TT P1 P2 P3)) := ok_turned O.F_turned O.Tx D_look_at
  have D_look_at_word : DOk P w K mg base "look_at_word" 2 ["text"] [] (sp_look_at_word (TT P1 P2 P3)) := ok_look_at_word O.F_look_at_word O.Tx D_is_sign
  have D_alone_at : DOk P w K mg base "alone_at" 1 ["machine", "rooms"] [] (sp_alone_at (TT P1 P2 P3)) := ok_alone_at O.F_alone_at O.Tx
  have D_moved : DOk P w K mg base "moved" 1 ["machine", "vector", "sign"] [] (sp_moved (TT P1 P2 P3)) := ok_moved O.F_moved O.Tx
  have D_moved_by : DOk P w K mg base "moved_by" 2 ["machine", "vector", "text"] [] (sp_moved_by (TT P1 P2 P3)) := ok_moved_by O.F_moved_by O.Tx D_moved
  have D_sum_at : DOk P w K mg base "sum_at" 1 ["vector", "rooms"] [] (sp_sum_at (TT P1 P2 P3)) := ok_sum_at O.F_sum_at O.Tx
  have D_ways : DOk P w K mg base "ways" 6 ["machine", "text", "first", "last"] [.non, .non] (sp_ways (TT P1 P2 P3)) := ok_ways O.F_ways O.Tx D_look_at D_look_at_word D_alone_at D_moved_by D_sum_at D_look_at_room
  have D_ways_between : DOk P w K mg base "ways_between" 3 ["machine", "text", "rooms", "others"] [] (sp_ways_between (TT P1 P2 P3)) := ok_ways_between O.F_ways_between O.Tx D_alone_at D_moved_by D_sum_at
  have D_are_signs : DOk P w K mg base "are_signs" 2 ["thing"] [] (sp_are_signs (TT P1 P2 P3)) := ok_are_signs O.F_are_signs O.Tx D_is_sign
  have D_is_formed : DOk P w K mg base "is_formed" 3 ["machine", "thing"] [] (sp_is_formed (TT P1 P2 P3)) := ok_is_formed O.F_is_formed O.Tx D_are_signs D_is_within
  have D_is_middle : DOk P w K mg base "is_middle" 4 ["machine", "text", "room", "other"] [] (sp_is_middle (TT P1 P2 P3)) := ok_is_middle O.F_is_middle O.Tx D_ways_between
  have D_look_at_times : DOk P w K mg base "look_at_times" 3 ["many"] [] sp_look_at_times := ok_look_at_times O.F_look_at_times O.Tx D_is_within
  have D_laid : DOk P w K mg base "laid" 4 ["pump", "many"] [] (sp_laid (TT P1 P2 P3)) := ok_laid O.F_laid O.Tx D_look_at_times
  have D_least_ways : DOk P w K mg base "least_ways" 4 ["pump", "many"] [] (sp_least_ways (TT P1 P2 P3)) := ok_least_ways O.F_least_ways O.Tx D_look_at_times
  have D_lets_pump : DOk P w K mg base "lets_pump" 6 ["machine", "thing"] [] (sp_lets_pump (TT P1 P2 P3)) := ok_lets_pump O.F_lets_pump O.Tx D_look_at D_is_formed D_ways_between D_is_middle
  have D__law_draw : DOk P w K mg base "_law_draw" 1 ["_law_hand_here", "_law_size"] [] (sp_draw (TT P1 P2 P3)) := ok_law_draw O.F__law_draw O.Tx
  have D__law_hand : DOk P w K mg base "_law_hand" 1 ["_law_script", "_law_k"] [] (sp_hand (K := K) (TT P1 P2 P3)) := ok_law_hand O.F__law_hand O.Tx
  have D__law_letters : DOk P w K mg base "_law_letters" 2 ["_law_hand_here"] [] (sp_letters (TT P1 P2 P3)) := ok_law_letters O.F__law_letters O.Tx D__law_draw
  have D__law_rooms : DOk P w K mg base "_law_rooms" 2 ["_law_hand_here", "_law_size"] [] (sp_rooms (TT P1 P2 P3)) := ok_law_rooms O.F__law_rooms O.Tx D__law_draw
  have D__law_word : DOk P w K mg base "_law_word" 2 ["_law_hand_here", "_law_letters_here", "_law_upto"] [] (sp_word (TT P1 P2 P3)) := ok_law_word O.F__law_word O.Tx D__law_draw
  have D__law_machine : DOk P w K mg base "_law_machine" 3 ["_law_hand_here", "_law_upto", "_law_extra", "_law_letters_here"] [] (sp_machine (TT P1 P2 P3)) := ok_law_machine O.F__law_machine O.Tx D__law_draw D__law_rooms
  have D__law_line : DOk P w K mg base "_law_line" 2 ["_law_hand_here", "_law_letters_here"] [] (sp_line (TT P1 P2 P3)) := ok_law_line O.F__law_line O.Tx D__law_draw
  have D__law_drawn : DOk P w K mg base "_law_drawn" 3 ["_law_hand_here", "_law_machine_here", "_law_letters_here"] [] (sp_drawn (TT P1 P2 P3)) := ok_law_drawn O.F__law_drawn O.Tx D__law_draw D__law_word
  have D__law_has_least : DOk P w K mg base "_law_has_least" 7 ["_law_machine_here", "_law_pump"] [] (sp_has_least (TT P1 P2 P3)) := ok_law_has_least O.F__law_has_least O.Tx D_ways D_laid D_least_ways
  have D__law_right : DOk P w K mg base "_law_right" 8 ["_law_machine_here", "_law_pump"] [] (sp_right (TT P1 P2 P3)) := ok_law_right O.F__law_right O.Tx D__law_has_least D_lets_pump D_turned
  have D_come_to : DOk P w K mg base "come_to" 1 ["steps", "rooms"] [] (sp_come_to (TT P1 P2 P3)) := ok_come_to O.F_come_to O.Tx
  have D_useful : DOk P w K mg base "useful" 6 ["machine"] [] (sp_useful (TT P1 P2 P3)) := ok_useful O.F_useful O.Tx D_look_at D_come_to
  have D_trimmed : DOk P w K mg base "trimmed" 7 ["machine"] [] (sp_trimmed (TT P1 P2 P3)) := ok_trimmed O.F_trimmed O.Tx D_useful
  have D_by_signs : DOk P w K mg base "by_signs" 1 ["machine"] [] (sp_by_signs (TT P1 P2 P3)) := ok_by_signs O.F_by_signs O.Tx
  have D_signs_of : DOk P w K mg base "signs_of" 1 ["machine"] [] (sp_signs_of (TT P1 P2 P3)) := ok_signs_of O.F_signs_of O.Tx
  have D_double_text : DOk P w K mg base "double_text" 3 ["table", "signs", "room"] [] (sp_double_text (TT P1 P2 P3)) := ok_double_text O.F_double_text FT B2 m2 u2
  have D_led_text : DOk P w K mg base "led_text" 3 ["table", "signs", "room", "other"] [] (sp_led_text (TT P1 P2 P3)) := ok_led_text O.F_led_text FT B3 m3 u3
  have D_text_between : DOk P w K mg base "text_between" 6 ["machine", "room", "other"] [] (sp_text_between (TT P1 P2 P3)) := ok_text_between O.F_text_between FT B1 m1 u1 D_look_at D_look_at_room D_by_signs D_signs_of
  have D_double_rounds : DOk P w K mg base "double_rounds" 8 ["machine"] [] (sp_double_rounds (TT P1 P2 P3)) := ok_double_rounds O.F_double_rounds O.Tx D_useful D_trimmed D_by_signs D_signs_of D_double_text
  have D_led_rounds : DOk P w K mg base "led_rounds" 8 ["machine"] [] (sp_led_rounds (TT P1 P2 P3)) := ok_led_rounds O.F_led_rounds O.Tx D_useful D_trimmed D_by_signs D_signs_of D_led_text
  have D_raised : DOk P w K mg base "raised" 1 ["found", "pairs", "by"] [] (sp_raised (TT P1 P2 P3)) := ok_raised O.F_raised O.Tx
  have D_ranks : DOk P w K mg base "ranks" 9 ["machine"] [] (sp_ranks (TT P1 P2 P3)) := ok_ranks O.F_ranks O.Tx D_useful D_trimmed D_double_rounds D_led_rounds D_raised
  have D_greatest_rank : DOk P w K mg base "greatest_rank" 1 ["some"] [] (sp_greatest_rank (TT P1 P2 P3)) := ok_greatest_rank O.F_greatest_rank O.Tx
  have D_shortest : DOk P w K mg base "shortest" 1 ["texts"] [] (sp_shortest (TT P1 P2 P3)) := ok_shortest O.F_shortest O.Tx
  have D_text_to : DOk P w K mg base "text_to" 7 ["machine", "room"] [] (sp_text_to (TT P1 P2 P3)) := ok_text_to O.F_text_to O.Tx D_text_between D_shortest
  have D_text_from : DOk P w K mg base "text_from" 7 ["machine", "room"] [] (sp_text_from (TT P1 P2 P3)) := ok_text_from O.F_text_from O.Tx D_text_between D_shortest
  have D_chain_of : DOk P w K mg base "chain_of" 9 ["machine", "some"] [] (sp_chain_of (TT P1 P2 P3)) := ok_chain_of O.F_chain_of O.Tx D_led_rounds D_greatest_rank D_text_between
  have D_pump_by : DOk P w K mg base "pump_by" 8 ["machine", "chain"] [] (sp_pump_by (TT P1 P2 P3)) := ok_pump_by O.F_pump_by O.Tx D_text_to D_text_from D_text_between
  have D_pump_of : DOk P w K mg base "pump_of" 14 ["machine"] [] (sp_pump_of (TT P1 P2 P3)) := ok_pump_of O.F_pump_of O.Tx D_ranks D_double_rounds D_greatest_rank D_chain_of D_pump_by
  exact law_fn F O.Tx D__law_hand D__law_draw D__law_letters D__law_machine D__law_line D__law_drawn D_lets_pump D_pump_of D__law_right
end K51
/-! facts of the top -/
namespace K51
open PySem PySem.Spec PyProof.Rows L2 NdefX LamX
section
variable {K : PySem.W.Frag} {mg : Str → Option Value} {h : Heap}
theorem fn_mk {x : Str} {st : Stmt} (X : K.In h) (G : h.Ns mainGlobals mg) {f : Addr} {oc : Value} {od an : Option Addr} {osl : Array (Option Value)} {kV doc pm cdv ct : Value}
    (a : PySem.W.nsIn K mainGlobals x = some (some (.ref f))) (l : K.lookup f = some ⟨oc, od, .func (PySem.W.fnOf x x (defArgs st) (defBody st) (defScope st) .none kV doc pm an cdv ct), osl⟩)
    (c : PySem.W.codeIn K cdv x = true) (k : PySem.W.keepIn K (.ref f) = true) : Fn K mg x st := ⟨⟨f, _, fun_mk l c k, PySem.W.mg_of X G a⟩⟩
theorem fnt_mk {x : Str} {st : Stmt} (X : K.In h) (G : h.Ns mainGlobals mg) {f cd : Addr} {oc : Value} {od an : Option Addr} {osl : Array (Option Value)} {kV doc pm ct : Value}
    (a : PySem.W.nsIn K mainGlobals x = some (some (.ref f))) (l : K.lookup f = some ⟨oc, od, .func (PySem.W.fnOf x x (defArgs st) (defBody st) (defScope st) .none kV doc pm an (.ref cd) ct), osl⟩)
    (c : PySem.W.codeIn K (.ref cd) x = true) (k : PySem.W.keepIn K (.ref f) = true) : FnT K mg x st cd := ⟨⟨f, oc, od, kV, doc, pm, an, ct, osl, l, c, k, PySem.W.mg_of X G a⟩⟩
theorem fnd_mk {x : Str} {st : Stmt} {dvs : List V} (X : K.In h) (G : h.Ns mainGlobals mg) (hd : dvs ≠ []) {f tp : Addr} {oc : Value} {od an : Option Addr} {osl : Array (Option Value)} {kV doc pm cdv ct : Value} {tc : Value} {td : Option Addr} {tsl : Array (Option Value)} {its : List Value} {n : Nat}
    (a : PySem.W.nsIn K mainGlobals x = some (some (.ref f))) (l : K.lookup f = some ⟨oc, od, .func (PySem.W.fnOf x x (defArgs st) (defBody st) (defScope st) (.ref tp) kV doc pm an cdv ct), osl⟩)
    (c : PySem.W.codeIn K cdv x = true) (k : PySem.W.keepIn K (.ref f) = true) (t : K.lookup tp = some ⟨tc, td, .seq its.toArray n, tsl⟩) (r : Vals dvs its) : FnD K mg x st dvs :=
  ⟨⟨f, _, ⟨⟨oc, od, .ref tp, kV, doc, pm, an, cdv, ct, osl, rfl, l, c, .inr ⟨hd, tp, _, its, n, rfl, t, rfl, r⟩, .inl rfl⟩, k⟩, PySem.W.mg_of X G a⟩⟩
theorem cs_mk {x z : Str} {v : Value} {t : Tok} (X : K.In h) (G : h.Ns mainGlobals mg) (a : PySem.W.nsIn K mainGlobals x = some (some v)) (e : v = .str z t) : ∃ t, mg x = some (.str z t) := ⟨t, by rw [PySem.W.mg_of X G a, e]⟩
theorem ci_mk {x : Str} {i : Int} {v : Value} {t : Tok} (X : K.In h) (G : h.Ns mainGlobals mg) (a : PySem.W.nsIn K mainGlobals x = some (some v)) (e : v = .int i t) : ∃ t, mg x = some (.int i t) := ⟨t, by rw [PySem.W.mg_of X G a, e]⟩
theorem at_mk {l : PySem.W.OpenLaw} {w : World} {c1 c2 c3 P1 P2 P3 fa f : Addr} {oc : Value} {od an : Option Addr} {osl : Array (Option Value)} {kV doc pm cdv ct : Value} (X : K.In h) (G : h.Ns mainGlobals mg) (hfa : mg "law" = some (.ref fa))
    (O : Top K mg c1 c2 c3) (h12 : P1 ≠ P2) (h13 : P1 ≠ P3) (h23 : P2 ≠ P3)
    (T1 : h.get? P1 = some { cls := .none, data := .fields #[] }) (T2 : h.get? P2 = some { cls := .none, data := .fields #[] }) (T3 : h.get? P3 = some { cls := .none, data := .fields #[] })
    (n1 : K.lookup P1 = none) (n2 : K.lookup P2 = none) (n3 : K.lookup P3 = none) (C1 : PySem.W.codeHdIn K c1 P1 = true) (C2 : PySem.W.codeHdIn K c2 P2 = true) (C3 : PySem.W.codeHdIn K c3 P3 = true)
    (a : PySem.W.nsIn K mainGlobals "law" = some (some (.ref f))) (lk : K.lookup f = some ⟨oc, od, .func (PySem.W.fnOf "law" "law" (defArgs s_law) (defBody s_law) (defScope s_law) .none kV doc pm an cdv ct), osl⟩)
    (c : PySem.W.codeIn K cdv "law" = true) (k : PySem.W.keepIn K (.ref f) = true) : LawAtS l w K CX0 15 63 "_law_script" mg fa h := by
  have e := hfa.symm.trans (PySem.W.mg_of X G a)
  cases e
  have F : Fun K "law" "law" s_law fa _ := fun_mk lk c k
  refine ⟨PySem.W.fnOf "law" "law" (defArgs s_law) (defBody s_law) (defScope s_law) .none kV doc pm an cdv ct, [(c1, P1), (c2, P2), (c3, P3)], sp_law (K := K) (TT P1 P2 P3), ?_, ?_, ?_, fun s v => .of_eq rfl, fun H a ns hl _ hT hS => ?_, fun base _ _ hB => ?_⟩
  · intro p hp
    rcases List.mem_cons.mp hp with z | z
    · rw [z]; exact T1
    · rcases List.mem_cons.mp z with z | z
      · rw [z]; exact T2
      · rw [List.mem_singleton.mp z]; exact T3
  · intro p hp
    rcases List.mem_cons.mp hp with z | z
    · rw [z]; exact n1
    · rcases List.mem_cons.mp z with z | z
      · rw [z]; exact n2
      · rw [List.mem_singleton.mp z]; exact n3
  · intro p hp
    rcases List.mem_cons.mp hp with z | z
    · rw [z]; exact PySem.W.codeHd_of_K X C1
    · rcases List.mem_cons.mp z with z | z
      · rw [z]; exact PySem.W.codeHd_of_K X C2
      · rw [List.mem_singleton.mp z]; exact PySem.W.codeHd_of_K X C3
  · refine ⟨a, ns, rfl, hS, fun p hp => ?_, fun _ _ => rfl⟩
    unfold TT at hp
    rcases List.mem_cons.mp hp with z | z
    · rw [z]; exact TabN.nil (hT (c1, P1) (by simp))
    · rcases List.mem_cons.mp z with z | z
      · rw [z]; exact TabN.nil (hT (c2, P2) (by simp))
      · rw [List.mem_singleton.mp z]; exact TabN.nil (hT (c3, P3) (by simp))
  · exact all_ok O h12 h13 h23 (hB (c1, P1) (by simp)) (hB (c2, P2) (by simp)) (hB (c3, P3) (by simp)) F
end
end K51
open PySem PySem.W PyProof.Rows
set_option maxRecDepth 100000 in
set_option maxHeartbeats 0 in
theorem PySem.Challenge.cw_triesgrow_k51_whole_pumps_from_below_holds : PySem.Challenge.rw_triesgrow_k51_whole_pumps_from_below.Holds := by
  w_on; o_law; k_head; (case hw => w_witness2)
  k_fill
  refine LamX.walk_ofTs (l := PySem.Challenge.rw_triesgrow_k51_whole_pumps_from_below) (n := 63) (k := 15) (x := "_law_script") (CX := fun _ => L2.CX0) rfl (by decide) rfl ⟨rfl, by decide, by decide⟩ (fun w h Y => PySem.W.km_in_of Y) ?F (fun _ _ _ _ _ z => z)
  intro w mg fa h Y KX G hmg
  have hT8 := PySem.W.km_tabs_of Y
  have Tx : K51.Txt mg := by
    refine' ⟨PySem.W.mg_none_of KX G ?n_len, PySem.W.mg_none_of KX G ?n_isinstance, PySem.W.mg_none_of KX G ?n_enumerate, PySem.W.mg_none_of KX G ?n_range, PySem.W.mg_none_of KX G ?n_sum, PySem.W.mg_none_of KX G ?n_all, PySem.W.mg_none_of KX G ?n_min, PySem.W.mg_none_of KX G ?n_max, PySem.W.mg_none_of KX G ?n_int, PySem.W.mg_none_of KX G ?n_str, PySem.W.mg_none_of KX G ?n_bool, PySem.W.mg_none_of KX G ?n_list, PySem.W.mg_none_of KX G ?n_tuple, PySem.W.mg_none_of KX G ?n_set, PySem.W.mg_none_of KX G ?n_sorted, K51.cs_mk KX G ?c_LETTERS ?dc_LETTERS, K51.ci_mk KX G ?c_MOST_WORD ?dc_MOST_WORD, K51.ci_mk KX G ?c_MOST_ROOMS ?dc_MOST_ROOMS, K51.ci_mk KX G ?c_MOST_STEPS ?dc_MOST_STEPS, K51.ci_mk KX G ?c_MOST_ROUNDS ?dc_MOST_ROUNDS, K51.ci_mk KX G ?c_MOST_TIMES ?dc_MOST_TIMES⟩
    (case n_len => k_is)
    (case n_isinstance => k_is)
    (case n_enumerate => k_is)
    (case n_range => k_is)
    (case n_sum => k_is)
    (case n_all => k_is)
    (case n_min => k_is)
    (case n_max => k_is)
    (case n_int => k_is)
    (case n_str => k_is)
    (case n_bool => k_is)
    (case n_list => k_is)
    (case n_tuple => k_is)
    (case n_set => k_is)
    (case n_sorted => k_is)
    (case c_LETTERS => k_is)
    (case c_MOST_WORD => k_is)
    (case c_MOST_ROOMS => k_is)
    (case c_MOST_STEPS => k_is)
    (case c_MOST_ROUNDS => k_is)
    (case c_MOST_TIMES => k_is)
    (case dc_LETTERS => rfl)
    (case dc_MOST_WORD => rfl)
    (case dc_MOST_ROOMS => rfl)
    (case dc_MOST_STEPS => rfl)
    (case dc_MOST_ROUNDS => rfl)
    (case dc_MOST_TIMES => rfl)
  have F_first_text := K51.fn_mk (x := "first_text") (st := K51.s_first_text) KX G (by k_is) (by k_is) (by k_is) (by k_is)
  have F_is_sign := K51.fn_mk (x := "is_sign") (st := K51.s_is_sign) KX G (by k_is) (by k_is) (by k_is) (by k_is)
  have F_is_whole := K51.fn_mk (x := "is_whole") (st := K51.s_is_whole) KX G (by k_is) (by k_is) (by k_is) (by k_is)
  have F_is_within := K51.fn_mk (x := "is_within") (st := K51.s_is_within) KX G (by k_is) (by k_is) (by k_is) (by k_is)
  have F_look_at_room := K51.fn_mk (x := "look_at_room") (st := K51.s_look_at_room) KX G (by k_is) (by k_is) (by k_is) (by k_is)
  have F_look_at_rooms := K51.fn_mk (x := "look_at_rooms") (st := K51.s_look_at_rooms) KX G (by k_is) (by k_is) (by k_is) (by k_is)
  have F_is_step := K51.fn_mk (x := "is_step") (st := K51.s_is_step) KX G (by k_is) (by k_is) (by k_is) (by k_is)
  have F_look_at_steps := K51.fn_mk (x := "look_at_steps") (st := K51.s_look_at_steps) KX G (by k_is) (by k_is) (by k_is) (by k_is)
  have F_look_at := K51.fn_mk (x := "look_at") (st := K51.s_look_at) KX G (by k_is) (by k_is) (by k_is) (by k_is)
  have F_turned := K51.fn_mk (x := "turned") (st := K51.s_turned) KX G (by k_is) (by k_is) (by k_is) (by k_is)
  have F_look_at_word := K51.fn_mk (x := "look_at_word") (st := K51.s_look_at_word) KX G (by k_is) (by k_is) (by k_is) (by k_is)
  have F_alone_at := K51.fn_mk (x := "alone_at") (st := K51.s_alone_at) KX G (by k_is) (by k_is) (by k_is) (by k_is)
  have F_moved := K51.fn_mk (x := "moved") (st := K51.s_moved) KX G (by k_is) (by k_is) (by k_is) (by k_is)
  have F_moved_by := K51.fn_mk (x := "moved_by") (st := K51.s_moved_by) KX G (by k_is) (by k_is) (by k_is) (by k_is)
  have F_sum_at := K51.fn_mk (x := "sum_at") (st := K51.s_sum_at) KX G (by k_is) (by k_is) (by k_is) (by k_is)
  have F_ways := K51.fnd_mk (x := "ways") (st := K51.s_ways) (dvs := [L2.V.non, L2.V.non]) KX G (by simp) (by k_is) (by k_is) (by k_is) (by k_is) (by k_is) (.cons rfl (.cons rfl .nil))
  have F_ways_between := K51.fn_mk (x := "ways_between") (st := K51.s_ways_between) KX G (by k_is) (by k_is) (by k_is) (by k_is)
  have F_are_signs := K51.fn_mk (x := "are_signs") (st := K51.s_are_signs) KX G (by k_is) (by k_is) (by k_is) (by k_is)
  have F_is_formed := K51.fn_mk (x := "is_formed") (st := K51.s_is_formed) KX G (by k_is) (by k_is) (by k_is) (by k_is)
  have F_is_middle := K51.fn_mk (x := "is_middle") (st := K51.s_is_middle) KX G (by k_is) (by k_is) (by k_is) (by k_is)
  have F_look_at_times := K51.fn_mk (x := "look_at_times") (st := K51.s_look_at_times) KX G (by k_is) (by k_is) (by k_is) (by k_is)
  have F_laid := K51.fnd_mk (x := "laid") (st := K51.s_laid) (dvs := [L2.V.int 1]) KX G (by simp) (by k_is) (by k_is) (by k_is) (by k_is) (by k_is) (.cons ⟨_, rfl⟩ .nil)
  have F_least_ways := K51.fnd_mk (x := "least_ways") (st := K51.s_least_ways) (dvs := [L2.V.int 1]) KX G (by simp) (by k_is) (by k_is) (by k_is) (by k_is) (by k_is) (.cons ⟨_, rfl⟩ .nil)
  have F_lets_pump := K51.fn_mk (x := "lets_pump") (st := K51.s_lets_pump) KX G (by k_is) (by k_is) (by k_is) (by k_is)
  have F__law_draw := K51.fn_mk (x := "_law_draw") (st := K51.s__law_draw) KX G (by k_is) (by k_is) (by k_is) (by k_is)
  have F__law_hand := K51.fn_mk (x := "_law_hand") (st := K51.s__law_hand) KX G (by k_is) (by k_is) (by k_is) (by k_is)
  have F__law_letters := K51.fn_mk (x := "_law_letters") (st := K51.s__law_letters) KX G (by k_is) (by k_is) (by k_is) (by k_is)
  have F__law_rooms := K51.fn_mk (x := "_law_rooms") (st := K51.s__law_rooms) KX G (by k_is) (by k_is) (by k_is) (by k_is)
  have F__law_word := K51.fn_mk (x := "_law_word") (st := K51.s__law_word) KX G (by k_is) (by k_is) (by k_is) (by k_is)
  have F__law_machine := K51.fn_mk (x := "_law_machine") (st := K51.s__law_machine) KX G (by k_is) (by k_is) (by k_is) (by k_is)
  have F__law_line := K51.fn_mk (x := "_law_line") (st := K51.s__law_line) KX G (by k_is) (by k_is) (by k_is) (by k_is)
  have F__law_drawn := K51.fn_mk (x := "_law_drawn") (st := K51.s__law_drawn) KX G (by k_is) (by k_is) (by k_is) (by k_is)
  have F__law_has_least := K51.fn_mk (x := "_law_has_least") (st := K51.s__law_has_least) KX G (by k_is) (by k_is) (by k_is) (by k_is)
  have F__law_right := K51.fn_mk (x := "_law_right") (st := K51.s__law_right) KX G (by k_is) (by k_is) (by k_is) (by k_is)
  have F_come_to := K51.fn_mk (x := "come_to") (st := K51.s_come_to) KX G (by k_is) (by k_is) (by k_is) (by k_is)
  have F_useful := K51.fn_mk (x := "useful") (st := K51.s_useful) KX G (by k_is) (by k_is) (by k_is) (by k_is)
  have F_trimmed := K51.fn_mk (x := "trimmed") (st := K51.s_trimmed) KX G (by k_is) (by k_is) (by k_is) (by k_is)
  have F_by_signs := K51.fn_mk (x := "by_signs") (st := K51.s_by_signs) KX G (by k_is) (by k_is) (by k_is) (by k_is)
  have F_signs_of := K51.fn_mk (x := "signs_of") (st := K51.s_signs_of) KX G (by k_is) (by k_is) (by k_is) (by k_is)
  have F_double_text := K51.fnt_mk (x := "double_text") (st := K51.s_double_text) KX G (by k_is) (by k_is) (by k_is) (by k_is)
  have F_led_text := K51.fnt_mk (x := "led_text") (st := K51.s_led_text) KX G (by k_is) (by k_is) (by k_is) (by k_is)
  have F_text_between := K51.fnt_mk (x := "text_between") (st := K51.s_text_between) KX G (by k_is) (by k_is) (by k_is) (by k_is)
  have F_double_rounds := K51.fn_mk (x := "double_rounds") (st := K51.s_double_rounds) KX G (by k_is) (by k_is) (by k_is) (by k_is)
  have F_led_rounds := K51.fn_mk (x := "led_rounds") (st := K51.s_led_rounds) KX G (by k_is) (by k_is) (by k_is) (by k_is)
  have F_raised := K51.fn_mk (x := "raised") (st := K51.s_raised) KX G (by k_is) (by k_is) (by k_is) (by k_is)
  have F_ranks := K51.fn_mk (x := "ranks") (st := K51.s_ranks) KX G (by k_is) (by k_is) (by k_is) (by k_is)
  have F_greatest_rank := K51.fn_mk (x := "greatest_rank") (st := K51.s_greatest_rank) KX G (by k_is) (by k_is) (by k_is) (by k_is)
  have F_shortest := K51.fn_mk (x := "shortest") (st := K51.s_shortest) KX G (by k_is) (by k_is) (by k_is) (by k_is)
  have F_text_to := K51.fn_mk (x := "text_to") (st := K51.s_text_to) KX G (by k_is) (by k_is) (by k_is) (by k_is)
  have F_text_from := K51.fn_mk (x := "text_from") (st := K51.s_text_from) KX G (by k_is) (by k_is) (by k_is) (by k_is)
  have F_chain_of := K51.fn_mk (x := "chain_of") (st := K51.s_chain_of) KX G (by k_is) (by k_is) (by k_is) (by k_is)
  have F_pump_by := K51.fn_mk (x := "pump_by") (st := K51.s_pump_by) KX G (by k_is) (by k_is) (by k_is) (by k_is)
  have F_pump_of := K51.fn_mk (x := "pump_of") (st := K51.s_pump_of) KX G (by k_is) (by k_is) (by k_is) (by k_is)
  have O := K51.Top.mk Tx F_first_text F_is_sign F_is_whole F_is_within F_look_at_room F_look_at_rooms F_is_step F_look_at_steps F_look_at F_turned F_look_at_word F_alone_at F_moved F_moved_by F_sum_at F_ways F_ways_between F_are_signs F_is_formed F_is_middle F_look_at_times F_laid F_least_ways F_lets_pump F__law_draw F__law_hand F__law_letters F__law_rooms F__law_word F__law_machine F__law_line F__law_drawn F__law_has_least F__law_right F_come_to F_useful F_trimmed F_by_signs F_signs_of F_double_text F_led_text F_text_between F_double_rounds F_led_rounds F_raised F_ranks F_greatest_rank F_shortest F_text_to F_text_from F_chain_of F_pump_by F_pump_of
  refine' K51.at_mk (P1 := 211) (P2 := 218) (P3 := 225) KX G hmg O (by decide) (by decide) (by decide) (hT8 211 (by decide)) (hT8 218 (by decide)) (hT8 225 (by decide)) (by kernel_rfl) (by kernel_rfl) (by kernel_rfl) (by kernel_rfl) (by kernel_rfl) (by kernel_rfl) ?a ?l ?c ?k
  (case a => k_is); (case l => k_is); (case c => k_is); (case k => k_is)

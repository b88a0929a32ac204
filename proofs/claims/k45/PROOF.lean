import PyProof.Rows.All
import Wide.All
import OpenK.AllK
import Wide.FinOn
import HandS.ForMost
import HandS.Star
import HandS.More
import HandS.DictComp
import KE.KDictKeyed
import HandS.TupAny
import HandS.TupMul
import HandS.Strs
import HandS.SetFor
import HandS.RaiseMore
import HandS.Style
import HandS.IsInst
import PyProof.ReprRoads
import HandS.Lambda
import HandS.EndTab
import HandS.ExcInit
import HandS.ExcField
import HandS.TryOnly
import HandS.WordsExc
import PySem.Challenge.RW_askorhold_k45_whole_least_prices_of_all
import HandS.Codes
import HandS.Conv
section
set_option linter.all false
/-! The plain law, part 1: webs, open nodes, least prices, plans. No program in sight. -/
namespace Wb
open Classical

abbrev Nd := List Nat × Nat × Nat
abbrev Web := List Nd
def nd (W : Web) (u : Nat) : Nd := W.getD u ([], 0, 0)
def cal (W : Web) (u : Nat) : List Nat := (nd W u).1
def pri (W : Web) (u : Nat) : Nat := (nd W u).2.1
def rea (W : Web) (u : Nat) : Nat := (nd W u).2.2

structure Wf (W : Web) : Prop where
  lt : ∀ u x, x ∈ cal W u → x < u
  few : ∀ u, (cal W u).length ≤ 12
  len : W.length ≤ 12
  pb : ∀ u, pri W u ≤ 1000
  rb : ∀ u, rea W u ≤ 1000

theorem nd_out {W : Web} {u : Nat} (h : W.length ≤ u) : nd W u = ([], 0, 0) := by
  unfold nd
  rw [List.getD_eq_getElem?_getD, List.getElem?_eq_none h]
  rfl
theorem cal_in {W : Web} {u x : Nat} (h : x ∈ cal W u) : u < W.length := by
  by_cases c : u < W.length
  · exact c
  · unfold cal at h
    rw [nd_out (Nat.le_of_not_lt c)] at h
    simp at h

/-- reached from u through nodes that are ok -/
inductive R (W : Web) (ok : Nat → Prop) (u : Nat) : Nat → Prop
  | base {x : Nat} : x ∈ cal W u → ok x → R W ok u x
  | step {y x : Nat} : R W ok u y → x ∈ cal W y → ok x → R W ok u x

section
variable {W : Web} {ok ok' : Nat → Prop} {u x y : Nat}
theorem R.isOk (h : R W ok u x) : ok x := by
  cases h with
  | base _ h => exact h
  | step _ _ h => exact h
theorem R.lt (wf : Wf W) (h : R W ok u x) : x < u := by
  induction h with
  | base h _ => exact wf.lt _ _ h
  | step _ h _ ih => exact Nat.lt_trans (wf.lt _ _ h) ih
theorem R.inW (wf : Wf W) (h : R W ok u x) : x < W.length := by
  cases h with
  | base h _ => exact Nat.lt_trans (wf.lt _ _ h) (cal_in h)
  | step _ h _ => exact Nat.lt_trans (wf.lt _ _ h) (cal_in h)
theorem R.trans (h : R W ok u y) (g : R W ok y x) : R W ok u x := by
  induction g with
  | base a b => exact .step h a b
  | step _ a b ih => exact .step ih a b
theorem R.mono (m : ∀ x, ok x → ok' x) (h : R W ok u x) : R W ok' u x := by
  induction h with
  | base a b => exact .base a (m _ b)
  | step _ a b ih => exact .step ih a (m _ b)
/-- what is reached from u is reached through what is reached from u -/
theorem R.self : R W ok u x ↔ R W (R W ok u) u x := by
  constructor
  · intro h
    induction h with
    | base a b => exact .base a (.base a b)
    | step p a b ih => exact .step ih a (.step p a b)
  · intro h
    exact h.mono (fun z q => q) |>.isOk
theorem R.inner (h : R W ok u y) : R W ok y x ↔ R W (R W ok u) y x := by
  constructor
  · intro g
    induction g with
    | base a b => exact .base a (.step h a b)
    | step p a b ih => exact .step ih a (.step (h.trans p) a b)
  · intro g
    induction g with
    | base a b => exact .base a b.isOk
    | step p a b ih => exact .step ih a b.isOk
abbrev but (ok : Nat → Prop) (x : Nat) : Nat → Prop := fun y => ok y ∧ y ≠ x
theorem R.but_iff : R W (but ok x) u y ↔ R W (but (R W ok u) x) u y := by
  constructor
  · intro h
    have w : ∀ z, R W (but ok x) u z → R W ok u z := fun z q => q.mono fun _ k => k.1
    induction h with
    | base a b => exact .base a ⟨.base a b.1, b.2⟩
    | step p a b ih => exact .step ih a ⟨.step (w _ p) a b.1, b.2⟩
  · intro h
    exact h.mono fun z k => ⟨k.1.isOk, k.2⟩
/-- two ways of knowing that open the same nodes -/
def Eqv (W : Web) (u : Nat) (ok ok' : Nat → Prop) : Prop := ∀ x, R W ok u x ↔ R W ok' u x
theorem Eqv.symm (h : Eqv W u ok ok') : Eqv W u ok' ok := fun x => (h x).symm
theorem Eqv.fn (h : Eqv W u ok ok') : R W ok u = R W ok' u := funext fun x => propext (h x)
theorem Eqv.inner (h : Eqv W u ok ok') (hx : R W ok u x) : Eqv W x ok ok' := fun y => by
  have hx' := (h x).mp hx
  rw [hx.inner, hx'.inner, h.fn]
theorem Eqv.but (h : Eqv W u ok ok') (x : Nat) : Eqv W u (but ok x) (but ok' x) := fun y => by
  rw [R.but_iff (ok := ok), R.but_iff (ok := ok'), h.fn]
theorem Eqv.of (h : ∀ x, ok x ↔ ok' x) : Eqv W u ok ok' := fun x => by
  have e : ok = ok' := funext fun z => propext (h z)
  rw [e]
end

/-! ### open nodes as an ascending list -/
noncomputable def opn (W : Web) (ok : Nat → Prop) (u : Nat) : List Nat := (List.range W.length).filter fun x => decide (R W ok u x)
section
variable {W : Web} {ok ok' : Nat → Prop} {u x y : Nat}
theorem mem_opn (wf : Wf W) : x ∈ opn W ok u ↔ R W ok u x := by
  unfold opn
  rw [List.mem_filter, List.mem_range, decide_eq_true_eq]
  exact ⟨fun h => h.2, fun h => ⟨h.inW wf, h⟩⟩
theorem opn_asc : (opn W ok u).Pairwise (· < ·) := List.pairwise_lt_range.filter _
theorem opn_len : (opn W ok u).length ≤ W.length := by
  have := List.length_filter_le (fun x => decide (R W ok u x)) (List.range W.length)
  rw [List.length_range] at this
  exact this
theorem Eqv.opn (h : Eqv W u ok ok') : opn W ok u = opn W ok' u := by
  unfold Wb.opn
  rw [h.fn]
theorem filter_lt {p q : Nat → Bool} (pq : ∀ x, p x = true → q x = true) : ∀ {l : List Nat} {x : Nat}, x ∈ l → q x = true → p x = false → (l.filter p).length < (l.filter q).length
  | a :: l, x, h, hq, hp => by
    have le : (l.filter p).length ≤ (l.filter q).length := by
      clear h hq hp x
      induction l with
      | nil => simp
      | cons b l ih =>
        rw [List.filter_cons, List.filter_cons]
        by_cases c : p b = true
        · rw [if_pos c, if_pos (pq _ c)]
          simpa using ih
        · rw [if_neg c]
          by_cases d : q b = true
          · rw [if_pos d, List.length_cons]; omega
          · rw [if_neg d]; exact ih
    rcases List.mem_cons.mp h with e | h
    · subst e
      rw [List.filter_cons, List.filter_cons, if_pos hq, if_neg (by rw [hp]; exact Bool.false_ne_true), List.length_cons]
      omega
    · have ih := filter_lt pq h hq hp
      rw [List.filter_cons, List.filter_cons]
      by_cases c : p a = true
      · rw [if_pos c, if_pos (pq _ c), List.length_cons, List.length_cons]
        omega
      · rw [if_neg c]
        by_cases d : q a = true
        · rw [if_pos d, List.length_cons]; omega
        · rw [if_neg d]; exact ih
theorem opn_wrong (wf : Wf W) (h : R W ok u x) : (opn W ok x).length < (opn W ok u).length := by
  unfold opn
  refine filter_lt (fun z q => ?_) (x := x) (List.mem_range.mpr (h.inW wf)) (decide_eq_true h) (decide_eq_false fun z => Nat.lt_irrefl _ (z.lt wf))
  exact decide_eq_true (h.trans (of_decide_eq_true q))
theorem opn_right (wf : Wf W) (h : R W ok u x) : (opn W (but ok x) u).length < (opn W ok u).length := by
  unfold opn
  refine filter_lt (fun z q => ?_) (x := x) (List.mem_range.mpr (h.inW wf)) (decide_eq_true h) (decide_eq_false fun z => z.isOk.2 rfl)
  exact decide_eq_true ((of_decide_eq_true q : R W (but ok x) u z).mono fun _ k => k.1)
def settled (W : Web) (ok : Nat → Prop) (u : Nat) : Prop := ∀ y ∈ cal W u, ¬ ok y
theorem settled_iff (wf : Wf W) : settled W ok u ↔ opn W ok u = [] := by
  constructor
  · intro h
    refine List.eq_nil_iff_forall_not_mem.mpr fun x hx => ?_
    have r := (mem_opn wf).mp hx
    have : ∀ z, R W ok u z → False := fun z q => by
      induction q with
      | base a b => exact h _ a b
      | step _ _ _ ih => exact ih
    exact this x r
  · intro h y hy o
    have : y ∈ opn W ok u := (mem_opn wf).mpr (.base hy o)
    rw [h] at this
    cases this
end
theorem asc_ext : ∀ {l m : List Nat}, l.Pairwise (· < ·) → m.Pairwise (· < ·) → (∀ x, x ∈ l ↔ x ∈ m) → l = m
  | [], [], _, _, _ => rfl
  | [], b :: m, _, _, h => by
    have := (h b).mpr List.mem_cons_self
    cases this
  | a :: l, [], _, _, h => by
    have := (h a).mp List.mem_cons_self
    cases this
  | a :: l, b :: m, hl, hm, h => by
    rw [List.pairwise_cons] at hl hm
    have e : a = b := by
      rcases List.mem_cons.mp ((h a).mp List.mem_cons_self) with e | e
      · exact e
      · rcases List.mem_cons.mp ((h b).mpr List.mem_cons_self) with e2 | e2
        · exact e2.symm
        · have h1 := hm.1 _ e
          have h2 := hl.1 _ e2
          omega
    subst e
    have ih : l = m := asc_ext hl.2 hm.2 fun x => by
      constructor
      · intro hx
        rcases List.mem_cons.mp ((h x).mp (List.mem_cons_of_mem _ hx)) with e | e
        · have := hl.1 _ hx
          omega
        · exact e
      · intro hx
        rcases List.mem_cons.mp ((h x).mpr (List.mem_cons_of_mem _ hx)) with e | e
        · have := hm.1 _ hx
          omega
        · exact e
    rw [ih]

/-! ### least of a list -/
def minL : List Nat → Nat
  | [] => 0
  | a :: l => l.foldl min a
theorem foldl_min_le : ∀ (l : List Nat) (a : Nat), l.foldl min a ≤ a ∧ ∀ x ∈ l, l.foldl min a ≤ x
  | [], a => ⟨Nat.le_refl _, fun x h => by cases h⟩
  | b :: l, a => by
    obtain ⟨h1, h2⟩ := foldl_min_le l (min a b)
    refine ⟨?_, fun x h => ?_⟩
    · show l.foldl min (min a b) ≤ a
      omega
    · show l.foldl min (min a b) ≤ x
      rcases List.mem_cons.mp h with e | e
      · subst e; omega
      · exact h2 x e
theorem foldl_min_mem : ∀ (l : List Nat) (a : Nat), l.foldl min a = a ∨ l.foldl min a ∈ l
  | [], a => .inl rfl
  | b :: l, a => by
    show l.foldl min (min a b) = a ∨ l.foldl min (min a b) ∈ b :: l
    rcases foldl_min_mem l (min a b) with h | h
    · rw [h]
      by_cases c : a ≤ b
      · exact .inl (Nat.min_eq_left c)
      · exact .inr (by rw [Nat.min_eq_right (by omega)]; exact List.mem_cons_self)
    · exact .inr (List.mem_cons_of_mem _ h)
theorem minL_le {l : List Nat} {x : Nat} (h : x ∈ l) : minL l ≤ x := by
  cases l with
  | nil => cases h
  | cons a l =>
    obtain ⟨h1, h2⟩ := foldl_min_le l a
    rcases List.mem_cons.mp h with e | e
    · subst e; exact h1
    · exact h2 x e
theorem minL_mem {l : List Nat} (h : l ≠ []) : minL l ∈ l := by
  cases l with
  | nil => exact absurd rfl h
  | cons a l =>
    rcases foldl_min_mem l a with e | e
    · show l.foldl min a ∈ _
      rw [e]; exact List.mem_cons_self
    · exact List.mem_cons_of_mem _ e
theorem minL_eq {l : List Nat} {m : Nat} (h : m ∈ l) (le : ∀ x ∈ l, m ≤ x) : minL l = m :=
  Nat.le_antisymm (minL_le h) (le _ (minL_mem fun e => by rw [e] at h; cases h))

/-! ### the least price -/
noncomputable def Pf (W : Web) : Nat → (Nat → Prop) → Nat → Nat
  | 0, _, u => rea W u
  | n + 1, ok, u => if opn W ok u = [] then rea W u else minL ((opn W ok u).map fun x => pri W x + max (Pf W n ok x) (Pf W n (but ok x) u))
section
variable {W : Web}
theorem Pf_congr (wf : Wf W) : ∀ (n : Nat) (ok ok' : Nat → Prop) (u : Nat), Eqv W u ok ok' → Pf W n ok u = Pf W n ok' u
  | 0, _, _, _, _ => rfl
  | n + 1, ok, ok', u, h => by
    show (if opn W ok u = [] then rea W u else minL ((opn W ok u).map fun x => pri W x + max (Pf W n ok x) (Pf W n (but ok x) u))) =
      (if opn W ok' u = [] then rea W u else minL ((opn W ok' u).map fun x => pri W x + max (Pf W n ok' x) (Pf W n (but ok' x) u)))
    rw [← h.opn]
    have e : ((opn W ok u).map fun x => pri W x + max (Pf W n ok x) (Pf W n (but ok x) u)) = ((opn W ok u).map fun x => pri W x + max (Pf W n ok' x) (Pf W n (but ok' x) u)) :=
      List.map_congr_left fun x hx => by
        rw [Pf_congr wf n ok ok' x (h.inner ((mem_opn wf).mp hx)), Pf_congr wf n _ _ u (h.but x)]
    rw [e]
theorem Pf_fuel (wf : Wf W) : ∀ (n m : Nat) (ok : Nat → Prop) (u : Nat), (opn W ok u).length ≤ n → (opn W ok u).length ≤ m → Pf W n ok u = Pf W m ok u
  | 0, 0, _, _, _, _ => rfl
  | 0, m + 1, ok, u, h, _ => by
    have e : opn W ok u = [] := List.eq_nil_of_length_eq_zero (by omega)
    show rea W u = (if opn W ok u = [] then rea W u else _)
    rw [if_pos e]
  | n + 1, 0, ok, u, _, h => by
    have e : opn W ok u = [] := List.eq_nil_of_length_eq_zero (by omega)
    show (if opn W ok u = [] then rea W u else _) = rea W u
    rw [if_pos e]
  | n + 1, m + 1, ok, u, h1, h2 => by
    show (if opn W ok u = [] then rea W u else minL ((opn W ok u).map fun x => pri W x + max (Pf W n ok x) (Pf W n (but ok x) u))) =
      (if opn W ok u = [] then rea W u else minL ((opn W ok u).map fun x => pri W x + max (Pf W m ok x) (Pf W m (but ok x) u)))
    have e : ((opn W ok u).map fun x => pri W x + max (Pf W n ok x) (Pf W n (but ok x) u)) = ((opn W ok u).map fun x => pri W x + max (Pf W m ok x) (Pf W m (but ok x) u)) :=
      List.map_congr_left fun x hx => by
        have r := (mem_opn wf).mp hx
        have l1 := opn_wrong wf r
        have l2 := opn_right wf r
        rw [Pf_fuel wf n m ok x (by omega) (by omega), Pf_fuel wf n m (but ok x) u (by omega) (by omega)]
    rw [e]
end
noncomputable def P (W : Web) (ok : Nat → Prop) (u : Nat) : Nat := Pf W W.length ok u
noncomputable def cost (W : Web) (ok : Nat → Prop) (u x : Nat) : Nat := pri W x + max (P W ok x) (P W (but ok x) u)
section
variable {W : Web} {ok ok' : Nat → Prop} {u x y : Nat}
theorem P_congr (wf : Wf W) (h : Eqv W u ok ok') : P W ok u = P W ok' u := Pf_congr wf _ _ _ _ h
theorem cost_congr (wf : Wf W) (h : Eqv W u ok ok') (hx : R W ok u x) : cost W ok u x = cost W ok' u x := by
  unfold cost
  rw [P_congr wf (h.inner hx), P_congr wf (h.but x)]
theorem P_eq (wf : Wf W) (ok : Nat → Prop) (u : Nat) : P W ok u = if opn W ok u = [] then rea W u else minL ((opn W ok u).map (cost W ok u)) :=
  Pf_fuel wf W.length (W.length + 1) ok u opn_len (Nat.le_succ_of_le opn_len)
theorem P_settled (wf : Wf W) (h : opn W ok u = []) : P W ok u = rea W u := by rw [P_eq wf, if_pos h]
theorem P_open (wf : Wf W) (h : opn W ok u ≠ []) : P W ok u = minL ((opn W ok u).map (cost W ok u)) := by rw [P_eq wf, if_neg h]
theorem P_le_cost (wf : Wf W) (h : R W ok u x) : P W ok u ≤ cost W ok u x := by
  have hx := (mem_opn wf).mpr h
  rw [P_open wf (fun e => by rw [e] at hx; cases hx)]
  exact minL_le (List.mem_map_of_mem hx)
theorem P_bound (wf : Wf W) : ∀ (n : Nat) (ok : Nat → Prop) (u : Nat), Pf W n ok u ≤ 1000 * (n + 1)
  | 0, _, u => wf.rb u
  | n + 1, ok, u => by
    show (if opn W ok u = [] then rea W u else minL ((opn W ok u).map fun x => pri W x + max (Pf W n ok x) (Pf W n (but ok x) u))) ≤ _
    by_cases e : opn W ok u = []
    · rw [if_pos e]
      have := wf.rb u
      omega
    · rw [if_neg e]
      have hm := minL_mem (l := (opn W ok u).map fun x => pri W x + max (Pf W n ok x) (Pf W n (but ok x) u)) (fun z => e (List.map_eq_nil_iff.mp z))
      obtain ⟨x, hx, ex⟩ := List.mem_map.mp hm
      rw [← ex]
      have b1 := P_bound wf n ok x
      have b2 := P_bound wf n (but ok x) u
      have b3 := wf.pb x
      omega
theorem P_small (wf : Wf W) : P W ok u ≤ 20000 := by
  have h := P_bound wf W.length ok u
  have l := wf.len
  have : 1000 * (W.length + 1) ≤ 20000 := by omega
  exact Nat.le_trans h this
end

/-! ### the first question -/
noncomputable def am (W : Web) (ok : Nat → Prop) (u : Nat) : Option Nat := (opn W ok u).find? fun x => decide (cost W ok u x = P W ok u)
section
variable {W : Web} {ok ok' : Nat → Prop} {u x y : Nat}
theorem am_none (wf : Wf W) (h : opn W ok u = []) : am W ok u = none := by unfold am; rw [h]; rfl
theorem am_some (wf : Wf W) (h : opn W ok u ≠ []) : ∃ x, am W ok u = some x ∧ R W ok u x ∧ cost W ok u x = P W ok u := by
  have hm := minL_mem (l := (opn W ok u).map (cost W ok u)) (fun z => h (List.map_eq_nil_iff.mp z))
  rw [← P_open wf h] at hm
  obtain ⟨x, hx, ex⟩ := List.mem_map.mp hm
  cases e : am W ok u with
  | none =>
    unfold am at e
    have := List.find?_eq_none.mp e x hx
    simp [ex] at this
  | some z =>
    unfold am at e
    exact ⟨z, rfl, (mem_opn wf).mp (List.mem_of_find?_eq_some e), by simpa using List.find?_some e⟩
theorem am_congr (wf : Wf W) (h : Eqv W u ok ok') : am W ok u = am W ok' u := by
  unfold am
  rw [← h.opn]
  have key : ∀ l : List Nat, (∀ x ∈ l, R W ok u x) → l.find? (fun x => decide (cost W ok u x = P W ok u)) = l.find? (fun x => decide (cost W ok' u x = P W ok' u)) := by
    intro l
    induction l with
    | nil => intro _; rfl
    | cons a l ih =>
      intro hl
      rw [List.find?_cons, List.find?_cons, ih fun x hx => hl x (List.mem_cons_of_mem _ hx), cost_congr wf h (hl a List.mem_cons_self), P_congr wf h]
  exact key _ fun x hx => (mem_opn wf).mp hx
/-- the least pair (cost, node) -/
theorem am_least (wf : Wf W) {c z : Nat} (hz : z ∈ opn W ok u) (hc : c = cost W ok u z) (le : ∀ y ∈ opn W ok u, ¬ (cost W ok u y < c ∨ (cost W ok u y = c ∧ y < z))) : c = P W ok u ∧ am W ok u = some z := by
  have hne : opn W ok u ≠ [] := fun e => by rw [e] at hz; cases hz
  have e : c = P W ok u := by
    rw [P_open wf hne]
    refine (minL_eq ?_ fun x hx => ?_).symm
    · rw [hc]
      exact List.mem_map_of_mem hz
    · obtain ⟨y, hy, ey⟩ := List.mem_map.mp hx
      rw [← ey]
      have := le y hy
      omega
  refine ⟨e, ?_⟩
  obtain ⟨x, hx, rx, ex⟩ := am_some wf hne
  rw [hx]
  have h1 := le x ((mem_opn wf).mpr rx)
  have nlt : ¬ x < z := fun l => h1 (.inr ⟨by rw [ex, e], l⟩)
  have nlt2 : ¬ z < x := fun l => by
    -- the first one that is found is the least
    have key : ∀ l : List Nat, l.Pairwise (· < ·) → l.find? (fun x => decide (cost W ok u x = P W ok u)) = some x → z ∈ l → ¬ z < x := by
      intro l
      induction l with
      | nil => intro _ q _; cases q
      | cons a l ih =>
        intro pw q hm lt
        rw [List.pairwise_cons] at pw
        rw [List.find?_cons] at q
        by_cases ca : cost W ok u a = P W ok u
        · rw [decide_eq_true ca] at q
          have ea : a = x := Option.some.inj q
          subst ea
          rcases List.mem_cons.mp hm with e1 | e1
          · omega
          · have := pw.1 _ e1
            omega
        · rw [decide_eq_false ca] at q
          rcases List.mem_cons.mp hm with e1 | e1
          · subst e1
            exact ca (by rw [← hc, e])
          · exact ih pw.2 q e1 lt
    exact key _ opn_asc hx hz l
  congr 1
  omega
end

/-! ### plans -/
inductive Pl where
  | bl (u : Nat)
  | ask (x : Nat) (w r : Pl)
def Pl.price (W : Web) : Pl → Nat
  | .bl u => rea W u
  | .ask x w r => pri W x + max (w.price W) (r.price W)
def IsP (W : Web) : (Nat → Prop) → Nat → Pl → Prop
  | ok, u, .bl v => v = u ∧ settled W ok u
  | ok, u, .ask x w r => ok x ∧ R W (fun _ => True) u x ∧ IsP W ok x w ∧ IsP W (but ok x) u r
section
variable {W : Web}
theorem but_closed {ok : Nat → Prop} {u x : Nat} (h : ¬ R W ok u x) : Eqv W u (but ok x) ok := fun y => by
  constructor
  · intro q
    exact q.mono fun _ k => k.1
  · intro q
    induction q with
    | @base z a b => exact .base a ⟨b, fun e => h (e ▸ .base a b)⟩
    | @step p z q a b ih => exact .step ih a ⟨b, fun e => h (e ▸ .step q a b)⟩
theorem P_le (wf : Wf W) : ∀ (p : Pl) (ok : Nat → Prop) (u : Nat), IsP W ok u p → P W ok u ≤ p.price W
  | .bl v, ok, u, h => by
    obtain ⟨e, s⟩ := h
    subst e
    rw [P_settled wf ((settled_iff wf).mp s)]
    exact Nat.le_refl _
  | .ask x w r, ok, u, h => by
    obtain ⟨_, _, hw, hr⟩ := h
    have h1 := P_le wf w ok x hw
    have h2 := P_le wf r (but ok x) u hr
    show _ ≤ pri W x + max (w.price W) (r.price W)
    by_cases c : R W ok u x
    · have := P_le_cost wf c
      unfold cost at this
      omega
    · rw [← P_congr wf (but_closed c)]
      omega
noncomputable def bp (W : Web) : Nat → (Nat → Prop) → Nat → Pl
  | 0, _, u => .bl u
  | n + 1, ok, u => match am W ok u with
    | none => .bl u
    | some x => .ask x (bp W n ok x) (bp W n (but ok x) u)
theorem bp_congr (wf : Wf W) : ∀ (n : Nat) (ok ok' : Nat → Prop) (u : Nat), Eqv W u ok ok' → bp W n ok u = bp W n ok' u
  | 0, _, _, _, _ => rfl
  | n + 1, ok, ok', u, h => by
    show (match am W ok u with | none => Pl.bl u | some x => .ask x (bp W n ok x) (bp W n (but ok x) u)) = (match am W ok' u with | none => Pl.bl u | some x => .ask x (bp W n ok' x) (bp W n (but ok' x) u))
    rw [← am_congr wf h]
    by_cases e : opn W ok u = []
    · rw [am_none wf e]
    · obtain ⟨x, hx, rx, _⟩ := am_some wf e
      rw [hx]
      show Pl.ask x (bp W n ok x) (bp W n (but ok x) u) = Pl.ask x (bp W n ok' x) (bp W n (but ok' x) u)
      rw [bp_congr wf n _ _ x (h.inner rx), bp_congr wf n _ _ u (h.but x)]
theorem bp_fuel (wf : Wf W) : ∀ (n m : Nat) (ok : Nat → Prop) (u : Nat), (opn W ok u).length ≤ n → (opn W ok u).length ≤ m → bp W n ok u = bp W m ok u
  | 0, 0, _, _, _, _ => rfl
  | 0, m + 1, ok, u, h, _ => by
    have e : opn W ok u = [] := List.eq_nil_of_length_eq_zero (by omega)
    show Pl.bl u = (match am W ok u with | none => Pl.bl u | some x => .ask x (bp W m ok x) (bp W m (but ok x) u))
    rw [am_none wf e]
  | n + 1, 0, ok, u, _, h => by
    have e : opn W ok u = [] := List.eq_nil_of_length_eq_zero (by omega)
    show (match am W ok u with | none => Pl.bl u | some x => .ask x (bp W n ok x) (bp W n (but ok x) u)) = Pl.bl u
    rw [am_none wf e]
  | n + 1, m + 1, ok, u, h1, h2 => by
    show (match am W ok u with | none => Pl.bl u | some x => .ask x (bp W n ok x) (bp W n (but ok x) u)) = (match am W ok u with | none => Pl.bl u | some x => .ask x (bp W m ok x) (bp W m (but ok x) u))
    by_cases e : opn W ok u = []
    · rw [am_none wf e]
    · obtain ⟨x, hx, rx, _⟩ := am_some wf e
      have l1 := opn_wrong wf rx
      have l2 := opn_right wf rx
      rw [hx]
      show Pl.ask x (bp W n ok x) (bp W n (but ok x) u) = Pl.ask x (bp W m ok x) (bp W m (but ok x) u)
      rw [bp_fuel wf n m ok x (by omega) (by omega), bp_fuel wf n m (but ok x) u (by omega) (by omega)]
end
noncomputable def BP (W : Web) (ok : Nat → Prop) (u : Nat) : Pl := bp W W.length ok u
section
variable {W : Web} {ok ok' : Nat → Prop} {u x y : Nat}
theorem BP_congr (wf : Wf W) (h : Eqv W u ok ok') : BP W ok u = BP W ok' u := bp_congr wf _ _ _ _ h
theorem BP_none (wf : Wf W) (h : am W ok u = none) : BP W ok u = .bl u := by
  unfold BP
  rw [bp_fuel wf W.length (W.length + 1) ok u opn_len (Nat.le_succ_of_le opn_len)]
  show (match am W ok u with | none => Pl.bl u | some x => .ask x (bp W W.length ok x) (bp W W.length (but ok x) u)) = _
  rw [h]
theorem BP_some (wf : Wf W) (h : am W ok u = some x) : BP W ok u = .ask x (BP W ok x) (BP W (but ok x) u) := by
  unfold BP
  rw [bp_fuel wf W.length (W.length + 1) ok u opn_len (Nat.le_succ_of_le opn_len)]
  show (match am W ok u with | none => Pl.bl u | some x => .ask x (bp W W.length ok x) (bp W W.length (but ok x) u)) = _
  rw [h]
theorem BP_good (wf : Wf W) : ∀ (n : Nat) (ok : Nat → Prop) (u : Nat), (opn W ok u).length ≤ n → IsP W ok u (BP W ok u) ∧ (BP W ok u).price W = P W ok u
  | 0, ok, u, h => by
    have e : opn W ok u = [] := List.eq_nil_of_length_eq_zero (by omega)
    rw [BP_none wf (am_none wf e)]
    exact ⟨⟨rfl, (settled_iff wf).mpr e⟩, (P_settled wf e).symm⟩
  | n + 1, ok, u, h => by
    by_cases e : opn W ok u = []
    · rw [BP_none wf (am_none wf e)]
      exact ⟨⟨rfl, (settled_iff wf).mpr e⟩, (P_settled wf e).symm⟩
    · obtain ⟨x, hx, rx, cx⟩ := am_some wf e
      have l1 := opn_wrong wf rx
      have l2 := opn_right wf rx
      obtain ⟨i1, p1⟩ := BP_good wf n ok x (by omega)
      obtain ⟨i2, p2⟩ := BP_good wf n (but ok x) u (by omega)
      rw [BP_some wf hx]
      refine ⟨⟨rx.isOk, rx.mono fun _ _ => trivial, i1, i2⟩, ?_⟩
      show pri W x + max ((BP W ok x).price W) ((BP W (but ok x) u).price W) = _
      rw [p1, p2, ← cx]
      rfl
theorem BP_isP (wf : Wf W) : IsP W ok u (BP W ok u) := (BP_good wf _ ok u (Nat.le_refl _)).1
theorem BP_price (wf : Wf W) : (BP W ok u).price W = P W ok u := (BP_good wf _ ok u (Nat.le_refl _)).2
end
end Wb
end
section
set_option linter.all false
/-! The plain law, part 2: short states, the table's loop, the search of open nodes. -/
namespace Wb
open Classical

abbrev okK (S : List Nat) : Nat → Prop := fun x => x ∉ S
/-- the known ones on the border -/
noncomputable def sh (W : Web) (ok : Nat → Prop) (u : Nat) : List Nat :=
  (List.range W.length).filter fun k => decide ((∃ v, (v = u ∨ R W ok u v) ∧ k ∈ cal W v) ∧ ¬ ok k)
section
variable {W : Web} {ok ok' : Nat → Prop} {u x y : Nat}
theorem mem_sh (wf : Wf W) : x ∈ sh W ok u ↔ (∃ v, (v = u ∨ R W ok u v) ∧ x ∈ cal W v) ∧ ¬ ok x := by
  unfold sh
  rw [List.mem_filter, List.mem_range, decide_eq_true_eq]
  refine ⟨fun h => h.2, fun h => ⟨?_, h⟩⟩
  obtain ⟨⟨v, _, hv⟩, _⟩ := h
  exact Nat.lt_trans (wf.lt _ _ hv) (cal_in hv)
theorem sh_asc : (sh W ok u).Pairwise (· < ·) := List.pairwise_lt_range.filter _
theorem sh_eqv (wf : Wf W) : Eqv W u (okK (sh W ok u)) ok := fun y => by
  have fwd : ∀ y, R W (okK (sh W ok u)) u y → R W ok u y := fun y h => by
    induction h with
    | @base z a b =>
      refine .base a ?_
      by_cases c : ok z
      · exact c
      · exact absurd ((mem_sh wf).mpr ⟨⟨u, .inl rfl, a⟩, c⟩) b
    | @step p z q a b ih =>
      refine .step ih a ?_
      by_cases c : ok z
      · exact c
      · exact absurd ((mem_sh wf).mpr ⟨⟨p, .inr ih, a⟩, c⟩) b
  refine ⟨fwd y, fun h => ?_⟩
  have nk : ∀ z, ok z → okK (sh W ok u) z := fun z o m => ((mem_sh wf).mp m).2 o
  induction h with
  | base a b => exact .base a (nk _ b)
  | step q a b ih => exact .step ih a (nk _ b)
theorem sh_congr (wf : Wf W) (h : Eqv W u ok ok') : sh W ok u = sh W ok' u := by
  refine asc_ext sh_asc sh_asc fun k => ?_
  rw [mem_sh wf, mem_sh wf]
  have one : ∀ {ok ok' : Nat → Prop}, Eqv W u ok ok' → ((∃ v, (v = u ∨ R W ok u v) ∧ k ∈ cal W v) ∧ ¬ ok k) → (∃ v, (v = u ∨ R W ok' u v) ∧ k ∈ cal W v) ∧ ¬ ok' k := by
    rintro ok ok' h ⟨⟨v, hv, hk⟩, nk⟩
    have hv' : v = u ∨ R W ok' u v := hv.imp id (h v).mp
    refine ⟨⟨v, hv', hk⟩, fun o => nk ?_⟩
    have r : R W ok' u k := by
      rcases hv' with e | e
      · exact .base (e ▸ hk) o
      · exact .step e hk o
    exact ((h k).mpr r).isOk
  exact ⟨one h, one h.symm⟩
theorem sh_in : x ∈ sh W ok u → x < W.length := fun h => List.mem_range.mp (List.mem_filter.mp h).1
end

/-! ### keys -/
abbrev Key := Nat × List Nat
structure Can (W : Web) (k : Key) : Prop where
  inW : k.1 < W.length
  asc : k.2.Pairwise (· < ·)
  mem : ∀ x ∈ k.2, x < W.length
noncomputable def sb (W : Web) (k : Key) : List Key := (opn W (okK k.2) k.1).flatMap fun x => [(x, sh W (okK k.2) x), (k.1, sh W (but (okK k.2) x) k.1)]
noncomputable def cnt (W : Web) (k : Key) : Nat := (opn W (okK k.2) k.1).length
section
variable {W : Web} {k j : Key}
theorem mem_sb (wf : Wf W) : j ∈ sb W k ↔ ∃ x, R W (okK k.2) k.1 x ∧ (j = (x, sh W (okK k.2) x) ∨ j = (k.1, sh W (but (okK k.2) x) k.1)) := by
  unfold sb
  rw [List.mem_flatMap]
  constructor
  · rintro ⟨x, hx, h⟩
    refine ⟨x, (mem_opn wf).mp hx, ?_⟩
    simpa using h
  · rintro ⟨x, hx, h⟩
    exact ⟨x, (mem_opn wf).mpr hx, by simpa using h⟩
theorem sb_can (wf : Wf W) (h : Can W k) (hj : j ∈ sb W k) : Can W j := by
  obtain ⟨x, hx, e | e⟩ := (mem_sb wf).mp hj
  · subst e
    exact ⟨hx.inW wf, sh_asc, fun y hy => sh_in hy⟩
  · subst e
    exact ⟨h.inW, sh_asc, fun y hy => sh_in hy⟩
theorem sb_cnt (wf : Wf W) (hj : j ∈ sb W k) : cnt W j < cnt W k := by
  obtain ⟨x, hx, e | e⟩ := (mem_sb wf).mp hj
  · subst e
    unfold cnt
    show (opn W (okK (sh W (okK k.2) x)) x).length < _
    rw [(sh_eqv wf).opn]
    exact opn_wrong wf hx
  · subst e
    unfold cnt
    show (opn W (okK (sh W (but (okK k.2) x) k.1)) k.1).length < _
    rw [(sh_eqv wf).opn]
    exact opn_right wf hx
theorem sb_len : (sb W k).length = 2 * cnt W k := by
  unfold sb cnt
  generalize opn W (okK k.2) k.1 = l
  induction l with
  | nil => rfl
  | cons a l ih =>
    rw [List.flatMap_cons, List.length_append, ih, List.length_cons]
    show 2 + 2 * l.length = 2 * (l.length + 1)
    omega
end

/-! ### the table and the stack -/
abbrev Ent := Nat × Option Nat
abbrev Tab := List (Key × Ent)
noncomputable def ent (W : Web) (k : Key) : Ent := (P W (okK k.2) k.1, am W (okK k.2) k.1)
def dom (T : Tab) : List Key := T.map (·.1)
def Good (W : Web) (T : Tab) : Prop := ∀ p ∈ T, Can W p.1 ∧ p.2 = ent W p.1
def Closed (W : Web) (T : Tab) : Prop := ∀ k ∈ dom T, ∀ j ∈ sb W k, j ∈ dom T

abbrev Stk := List (Key × Bool)
def Exp (W : Web) (T : Tab) : Stk → Prop
  | [] => True
  | p :: r => (p.2 = true → ∀ j ∈ sb W p.1, j ∈ dom T ∨ j ∈ r.map (·.1)) ∧ Exp W T r
def w : Nat → Nat
  | 0 => 2
  | n + 1 => 2 + 2 * (n + 1) * w n
theorem w_pos : ∀ n, 2 ≤ w n
  | 0 => Nat.le_refl _
  | n + 1 => Nat.le_add_right _ _
theorem w_step (n : Nat) : w n ≤ w (n + 1) := by
  show w n ≤ 2 + 2 * (n + 1) * w n
  have : 1 * w n ≤ 2 * (n + 1) * w n := Nat.mul_le_mul_right _ (by omega)
  omega
theorem w_mono {n m : Nat} (h : n ≤ m) : w n ≤ w m := by
  induction h with
  | refl => exact Nat.le_refl _
  | step _ ih => exact Nat.le_trans ih (w_step _)
noncomputable def wt (W : Web) (p : Key × Bool) : Nat := if p.2 = true then 1 else w (cnt W p.1)
noncomputable def tot (W : Web) : Stk → Nat
  | [] => 0
  | p :: r => wt W p + tot W r
theorem tot_append (W : Web) : ∀ a b : Stk, tot W (a ++ b) = tot W a + tot W b
  | [], b => by show tot W b = 0 + tot W b; omega
  | p :: a, b => by
    show wt W p + tot W (a ++ b) = wt W p + tot W a + tot W b
    rw [tot_append W a b]; omega
theorem wt_pos (W : Web) (p : Key × Bool) : 1 ≤ wt W p := by
  unfold wt
  split
  · exact Nat.le_refl _
  · have := w_pos (cnt W p.1); omega
/-- where an entry stands: no higher than what the expanded ones below it have pushed -/
noncomputable def Pos (W : Web) : Nat → Nat → Stk → Prop
  | _, _, [] => True
  | acc, i, p :: r => i ≤ acc ∧ Pos W (acc + if p.2 = true then 2 * cnt W p.1 else 0) (i + 1) r
noncomputable def Dec (W : Web) : Nat → Stk → Prop
  | _, [] => True
  | c, p :: r => cnt W p.1 ≤ c ∧ Dec W (if p.2 = true then cnt W p.1 - 1 else c) r
noncomputable def cAt (W : Web) : Nat → Stk → Nat
  | c, [] => c
  | c, p :: r => cAt W (if p.2 = true then cnt W p.1 - 1 else c) r
theorem dec_append {W : Web} : ∀ {c : Nat} {a b : Stk}, Dec W c (a ++ b) ↔ Dec W c a ∧ Dec W (cAt W c a) b
  | c, [], b => ⟨fun h => ⟨trivial, h⟩, fun h => h.2⟩
  | c, p :: a, b => by
    show (_ ∧ Dec W _ (a ++ b)) ↔ (_ ∧ Dec W _ a) ∧ _
    rw [dec_append (a := a)]
    exact ⟨fun h => ⟨⟨h.1, h.2.1⟩, h.2.2⟩, fun h => ⟨h.1.1, h.1.2, h.2⟩⟩
theorem dec_false {W : Web} {c : Nat} : ∀ {l : List Key}, (∀ k ∈ l, cnt W k ≤ c) → Dec W c (l.map fun k => (k, false))
  | [], _ => trivial
  | k :: l, h => ⟨h k List.mem_cons_self, dec_false fun j hj => h j (List.mem_cons_of_mem _ hj)⟩
noncomputable def accAt (W : Web) : Nat → Stk → Nat
  | acc, [] => acc
  | acc, p :: r => accAt W (acc + if p.2 = true then 2 * cnt W p.1 else 0) r
theorem pos_append {W : Web} : ∀ {acc i : Nat} {a b : Stk}, Pos W acc i (a ++ b) ↔ Pos W acc i a ∧ Pos W (accAt W acc a) (i + a.length) b
  | acc, i, [], b => ⟨fun h => ⟨trivial, h⟩, fun h => h.2⟩
  | acc, i, p :: a, b => by
    show (_ ∧ Pos W _ _ (a ++ b)) ↔ (_ ∧ Pos W _ _ a) ∧ Pos W (accAt W _ a) (i + (a.length + 1)) b
    rw [pos_append (a := a), show i + 1 + a.length = i + (a.length + 1) by omega]
    exact ⟨fun h => ⟨⟨h.1, h.2.1⟩, h.2.2⟩, fun h => ⟨h.1.1, h.1.2, h.2⟩⟩
theorem pos_false {W : Web} : ∀ {acc i : Nat} {l : List Key}, i + l.length ≤ acc + 1 → Pos W acc i (l.map fun k => (k, false))
  | _, _, [], _ => trivial
  | acc, i, k :: l, h => by
    rw [List.length_cons] at h
    exact ⟨by omega, pos_false (by show i + 1 + l.length ≤ acc + 0 + 1; omega)⟩
theorem stk_len {W : Web} : ∀ (c acc i : Nat) (l : Stk), Pos W acc i l → Dec W c l → l = [] ∨ i + l.length ≤ acc + c * (c + 1) + 1
  | _, _, _, [], _, _ => .inl rfl
  | c, acc, i, p :: r, hp, hd => by
    right
    obtain ⟨h1, h2⟩ := hp
    obtain ⟨d1, d2⟩ := hd
    rw [List.length_cons]
    by_cases b : p.2 = true
    · rw [if_pos b] at h2 d2
      rcases stk_len _ _ _ r h2 d2 with e | e
      · subst e
        show i + 1 ≤ _
        omega
      · have hc : (cnt W p.1 - 1) * (cnt W p.1 - 1 + 1) + 2 * cnt W p.1 ≤ c * (c + 1) := by
          cases q : cnt W p.1 with
          | zero => simp
          | succ n =>
            rw [q] at d1
            have e1 : n + 1 - 1 = n := by omega
            rw [e1]
            have e2 : n * (n + 1) + 2 * (n + 1) = (n + 1) * (n + 1 + 1) := by
              rw [← Nat.add_mul, Nat.mul_comm]
            rw [e2]
            exact Nat.mul_le_mul d1 (by omega)
        omega
    · rw [if_neg b] at h2 d2
      rcases stk_len _ _ _ r h2 d2 with e | e
      · subst e
        show i + 1 ≤ _
        omega
      · omega

section
variable {W : Web} {T T' : Tab} {k j : Key}
theorem exp_app : ∀ {l : Stk} {m : List Key}, Exp W T l → Exp W T (l ++ m.map fun k => (k, false))
  | [], [], _ => trivial
  | [], k :: m, h => ⟨fun e => (by cases e), exp_app (l := []) (m := m) trivial⟩
  | p :: l, m, h => ⟨fun e j hj => (h.1 e j hj).imp id fun q => by
    show j ∈ (l ++ m.map fun k => (k, false)).map (·.1)
    rw [List.map_append]; exact List.mem_append_left _ q, exp_app h.2⟩
theorem exp_mark : ∀ {l : Stk} {m : List Key}, Exp W T (l ++ [(k, false)]) → (∀ j ∈ sb W k, j ∈ dom T ∨ j ∈ m) → Exp W T (l ++ (k, true) :: m.map fun k => (k, false))
  | [], m, h, hm => by
    refine ⟨fun _ j hj => (hm j hj).imp id fun q => ?_, exp_app (l := []) (m := m) trivial⟩
    rw [List.map_map]
    simpa using q
  | p :: l, m, h, hm => by
    refine ⟨fun e j hj => (h.1 e j hj).imp id fun q => ?_, exp_mark h.2 hm⟩
    replace q : j ∈ (l ++ [(k, false)]).map (·.1) := q
    show j ∈ (l ++ (k, true) :: m.map fun k => (k, false)).map (·.1)
    rw [List.map_append] at q ⊢
    rcases List.mem_append.mp q with q | q
    · exact List.mem_append_left _ q
    · refine List.mem_append_right _ ?_
      have : j = k := by simpa using q
      subst this
      exact List.mem_cons_self
theorem exp_pop : ∀ {l : Stk} {p : Key × Bool}, Exp W T (l ++ [p]) → p.1 ∈ dom T' → (∀ j ∈ dom T, j ∈ dom T') → Exp W T' l
  | [], _, _, _, _ => trivial
  | q :: l, p, h, hp, hs => by
    refine ⟨fun e j hj => ?_, exp_pop h.2 hp hs⟩
    rcases h.1 e j hj with z | z
    · exact .inl (hs j z)
    · replace z : j ∈ (l ++ [p]).map (·.1) := z
      rw [List.map_append] at z
      rcases List.mem_append.mp z with z | z
      · exact .inr z
      · left
        have : j = p.1 := by simpa using z
        rw [this]
        exact hp
theorem exp_top : ∀ {l : Stk}, Exp W T (l ++ [(k, true)]) → ∀ j ∈ sb W k, j ∈ dom T
  | [], h, j, hj => (h.1 rfl j hj).elim id fun q => by cases q
  | _ :: _, h, j, hj => exp_top h.2 j hj
end

/-- the loop's invariant, with its measure m -/
structure Lp (W : Web) (k0 : Key) (T : Tab) (line : List Key) (m : Nat) : Prop where
  good : Good W T
  nodup : (dom T).Nodup
  closed : Closed W T
  can : ∀ k ∈ line, Can W k
  init : k0 ∈ dom T ∨ k0 ∈ line
  stk : ∃ s : Stk, line = s.map (·.1) ∧ Exp W T s ∧ m = tot W s ∧ Pos W 0 0 s ∧ Dec W 12 s
theorem cnt_le {W : Web} (wf : Wf W) (k : Key) : cnt W k ≤ 12 := Nat.le_trans opn_len wf.len
theorem Lp.start {W : Web} (wf : Wf W) {k0 : Key} (h : Can W k0) : ∃ m, Lp W k0 [] [k0] m :=
  ⟨_, ⟨fun _ h => (by cases h), List.nodup_nil, fun _ h => (by cases h), fun k hk => by
    have : k = k0 := by simpa using hk
    subst this; exact h, .inr List.mem_cons_self, [(k0, false)], rfl, ⟨fun e => (by cases e), trivial⟩, rfl, ⟨Nat.le_refl _, trivial⟩, ⟨cnt_le wf _, trivial⟩⟩⟩
theorem Lp.small {W : Web} {k0 : Key} {T : Tab} {line : List Key} {m : Nat} (h : Lp W k0 T line m) : line.length ≤ 200 := by
  obtain ⟨s, e, _, _, p, d⟩ := h.stk
  rw [e, List.length_map]
  rcases stk_len 12 0 0 s p d with z | z
  · rw [z]; decide
  · omega
theorem snoc_of_map {α β : Type} {f : α → β} {s : List α} {l : List β} {k : β} (e : l ++ [k] = s.map f) : ∃ s' p, s = s' ++ [p] ∧ l = s'.map f ∧ f p = k := by
  have hne : s ≠ [] := fun z => by rw [z] at e; simp at e
  refine ⟨s.dropLast, s.getLast hne, (List.dropLast_concat_getLast hne).symm, ?_, ?_⟩
  · have := congrArg List.dropLast e
    rw [List.dropLast_concat, ← List.map_dropLast] at this
    exact this
  · have := congrArg List.getLast? e
    rw [List.getLast?_concat, List.getLast?_map, List.getLast?_eq_some_getLast hne] at this
    exact (Option.some.inj this).symm
theorem Lp.hit {W : Web} {k0 k : Key} {T : Tab} {l : List Key} {m : Nat} (h : Lp W k0 T (l ++ [k]) m) (hk : k ∈ dom T) : ∃ m', m' < m ∧ Lp W k0 T l m' := by
  obtain ⟨s, e, x, em, p, d⟩ := h.stk
  obtain ⟨s', q, rfl, rfl, rfl⟩ := snoc_of_map e
  refine ⟨tot W s', ?_, h.good, h.nodup, h.closed, fun j hj => h.can j (List.mem_append_left _ hj), ?_, s', rfl, exp_pop x hk (fun _ z => z), rfl, (pos_append.mp p).1, (dec_append.mp d).1⟩
  · rw [em, tot_append]
    have := wt_pos W q
    show tot W s' < tot W s' + (wt W q + 0)
    omega
  · rcases h.init with z | z
    · exact .inl z
    · rcases List.mem_append.mp z with z | z
      · exact .inr z
      · left
        have : k0 = q.1 := by simpa using z
        rw [this]; exact hk
theorem Lp.store {W : Web} {k0 k : Key} {T : Tab} {l : List Key} {m : Nat} (h : Lp W k0 T (l ++ [k]) m) (hk : k ∉ dom T) (hs : ∀ j ∈ sb W k, j ∈ dom T) : ∃ m', m' < m ∧ Lp W k0 (T ++ [(k, ent W k)]) l m' := by
  obtain ⟨s, e, x, em, p, d⟩ := h.stk
  obtain ⟨s', q, rfl, rfl, rfl⟩ := snoc_of_map e
  have ed : dom (T ++ [(q.1, ent W q.1)]) = dom T ++ [q.1] := by unfold dom; rw [List.map_append]; rfl
  have sub : ∀ j ∈ dom T, j ∈ dom (T ++ [(q.1, ent W q.1)]) := fun j hj => by rw [ed]; exact List.mem_append_left _ hj
  have now : q.1 ∈ dom (T ++ [(q.1, ent W q.1)]) := by rw [ed]; exact List.mem_append_right _ List.mem_cons_self
  refine ⟨tot W s', ?_, fun r hr => ?_, ?_, fun j hj i hi => ?_, fun j hj => h.can j (List.mem_append_left _ hj), ?_, s', rfl, exp_pop x now sub, rfl, (pos_append.mp p).1, (dec_append.mp d).1⟩
  · rw [em, tot_append]
    have := wt_pos W q
    show tot W s' < tot W s' + (wt W q + 0)
    omega
  · rcases List.mem_append.mp hr with z | z
    · exact h.good r z
    · have : r = (q.1, ent W q.1) := by simpa using z
      subst this
      exact ⟨h.can _ (List.mem_append_right _ List.mem_cons_self), rfl⟩
  · rw [ed]
    refine List.nodup_append.mpr ⟨h.nodup, List.nodup_cons.mpr ⟨List.not_mem_nil, List.nodup_nil⟩, fun a ha b hb => ?_⟩
    have : b = q.1 := by simpa using hb
    subst this
    exact fun z => hk (z ▸ ha)
  · rw [ed] at hj
    rcases List.mem_append.mp hj with z | z
    · exact sub _ (h.closed j z i hi)
    · have : j = q.1 := by simpa using z
      subst this
      exact sub _ (hs i hi)
  · rcases h.init with z | z
    · exact .inl (sub _ z)
    · rcases List.mem_append.mp z with z | z
      · exact .inr z
      · left
        have : k0 = q.1 := by simpa using z
        rw [this]; exact now
theorem tot_false {W : Web} {n : Nat} : ∀ {l : List Key}, (∀ k ∈ l, cnt W k ≤ n) → tot W (l.map fun k => (k, false)) ≤ l.length * w n
  | [], _ => by show 0 ≤ _; omega
  | k :: l, h => by
    have ih := tot_false (n := n) (l := l) fun j hj => h j (List.mem_cons_of_mem _ hj)
    have h1 := w_mono (h k List.mem_cons_self)
    show wt W (k, false) + tot W (l.map fun k => (k, false)) ≤ (l.length + 1) * w n
    have e : wt W (k, false) = w (cnt W k) := by unfold wt; rw [if_neg Bool.false_ne_true]
    rw [e, Nat.add_mul]
    omega
theorem Lp.push {W : Web} (wf : Wf W) {k0 k : Key} {T : Tab} {l miss : List Key} {m : Nat} (h : Lp W k0 T (l ++ [k]) m) (hm : ∀ j, j ∈ miss ↔ j ∈ sb W k ∧ j ∉ dom T) (hl : miss.length ≤ 2 * cnt W k) (hne : miss ≠ []) :
    ∃ m', m' < m ∧ Lp W k0 T (l ++ [k] ++ miss) m' := by
  obtain ⟨s, e, x, em, p, d⟩ := h.stk
  obtain ⟨s', q, rfl, rfl, rfl⟩ := snoc_of_map e
  have hf : q.2 = false := by
    cases hq : q.2 with
    | false => rfl
    | true =>
      have e2 : q = (q.1, true) := by rw [← hq]
      rw [e2] at x
      have all := exp_top x
      obtain ⟨j, hj⟩ := List.exists_mem_of_ne_nil miss hne
      obtain ⟨h1, h2⟩ := (hm j).mp hj
      exact absurd (all j h1) h2
  have eq : q = (q.1, false) := by rw [← hf]
  have hc : ∀ j ∈ miss, cnt W j < cnt W q.1 := fun j hj => sb_cnt wf ((hm j).mp hj).1
  have hpos : 1 ≤ cnt W q.1 := by
    obtain ⟨j, hj⟩ := List.exists_mem_of_ne_nil miss hne
    have := hc j hj
    omega
  obtain ⟨n, hn⟩ : ∃ n, cnt W q.1 = n + 1 := ⟨cnt W q.1 - 1, by omega⟩
  obtain ⟨p1, p2⟩ := pos_append.mp p
  obtain ⟨d1, d2⟩ := dec_append.mp d
  refine ⟨tot W (s' ++ (q.1, true) :: miss.map fun k => (k, false)), ?_, h.good, h.nodup, h.closed, fun j hj => ?_, ?_, s' ++ (q.1, true) :: miss.map fun k => (k, false), ?_, ?_, rfl, ?_, ?_⟩
  · rw [em, tot_append, tot_append]
    have t1 := tot_false (W := W) (n := n) (l := miss) fun j hj => by have := hc j hj; omega
    have t2 : miss.length * w n ≤ 2 * (n + 1) * w n := Nat.mul_le_mul_right _ (by omega)
    have t3 : wt W q = 2 + 2 * (n + 1) * w n := by
      rw [eq]
      unfold wt
      rw [if_neg Bool.false_ne_true, hn]
      rfl
    have t4 : wt W (q.1, true) = 1 := by unfold wt; rw [if_pos rfl]
    show tot W s' + (wt W (q.1, true) + tot W (miss.map fun k => (k, false))) < tot W s' + (wt W q + 0)
    rw [t3, t4]
    omega
  · rcases List.mem_append.mp hj with z | z
    · exact h.can j z
    · exact sb_can wf (h.can q.1 (List.mem_append_right _ List.mem_cons_self)) ((hm j).mp z).1
  · rcases h.init with z | z
    · exact .inl z
    · exact .inr (List.mem_append_left _ z)
  · rw [List.map_append, List.map_cons, List.map_map, List.append_assoc]
    congr 1
    show q.1 :: miss = q.1 :: miss.map _
    congr 1
    exact (List.map_id miss).symm
  · rw [eq] at x
    refine exp_mark x fun j hj => ?_
    by_cases c : j ∈ dom T
    · exact .inl c
    · exact .inr ((hm j).mpr ⟨hj, c⟩)
  · refine pos_append.mpr ⟨p1, p2.1, pos_false ?_⟩
    rw [if_pos rfl]
    have := p2.1
    show 0 + s'.length + 1 + miss.length ≤ accAt W 0 s' + 2 * cnt W q.1 + 1
    omega
  · refine dec_append.mpr ⟨d1, d2.1, dec_false fun j hj => ?_⟩
    rw [if_pos rfl]
    have := hc j hj
    show cnt W j ≤ cnt W q.1 - 1
    omega

/-! ### how many keys there are -/
def subs : List Nat → List (List Nat)
  | [] => [[]]
  | a :: l => subs l ++ (subs l).map (a :: ·)
theorem subs_len : ∀ l : List Nat, (subs l).length = 2 ^ l.length
  | [] => rfl
  | a :: l => by
    show (subs l ++ (subs l).map (a :: ·)).length = 2 ^ (l.length + 1)
    rw [List.length_append, List.length_map, subs_len l, Nat.pow_succ]
    omega
theorem filter_subs (p : Nat → Bool) : ∀ l : List Nat, l.filter p ∈ subs l
  | [] => List.mem_cons_self
  | a :: l => by
    rw [List.filter_cons]
    split
    · exact List.mem_append_right _ (List.mem_map_of_mem (filter_subs p l))
    · exact List.mem_append_left _ (filter_subs p l)
def keys (n : Nat) : List Key := (List.range n).flatMap fun u => (subs (List.range n)).map fun S => (u, S)
theorem keys_len (n : Nat) : (keys n).length = n * 2 ^ n := by
  unfold keys
  have key : ∀ l : List Nat, (l.flatMap fun u => (subs (List.range n)).map fun S => (u, S)).length = l.length * 2 ^ n := by
    intro l
    induction l with
    | nil => simp
    | cons a l ih =>
      rw [List.flatMap_cons, List.length_append, ih, List.length_map, subs_len, List.length_range, List.length_cons, Nat.add_mul]
      omega
  rw [key, List.length_range]
theorem Can.mem_keys {W : Web} {k : Key} (h : Can W k) : k ∈ keys W.length := by
  refine List.mem_flatMap.mpr ⟨k.1, List.mem_range.mpr h.inW, List.mem_map.mpr ⟨k.2, ?_, rfl⟩⟩
  have e : k.2 = (List.range W.length).filter fun x => decide (x ∈ k.2) := asc_ext h.asc (List.pairwise_lt_range.filter _) fun x => by
    rw [List.mem_filter, List.mem_range, decide_eq_true_eq]
    exact ⟨fun q => ⟨h.mem x q, q⟩, fun q => q.2⟩
  rw [e]
  exact filter_subs _ _
theorem nodup_le {α : Type} [DecidableEq α] : ∀ {l U : List α}, l.Nodup → (∀ x ∈ l, x ∈ U) → l.length ≤ U.length
  | [], _, _, _ => Nat.zero_le _
  | a :: l, U, h, s => by
    rw [List.nodup_cons] at h
    have ha := s a List.mem_cons_self
    have ih := nodup_le (l := l) (U := U.erase a) h.2 fun x hx => (List.mem_erase_of_ne fun e => h.1 (by rw [← e]; exact hx)).mpr (s x (List.mem_cons_of_mem _ hx))
    rw [List.length_erase_of_mem ha] at ih
    have : 0 < U.length := List.length_pos_of_mem ha
    rw [List.length_cons]
    omega
theorem keys_small {W : Web} (wf : Wf W) {l : List Key} (nd : l.Nodup) (h : ∀ k ∈ l, Can W k) : l.length ≤ 49152 := by
  have h1 := nodup_le nd fun k hk => (h k hk).mem_keys
  rw [keys_len] at h1
  have h2 : W.length * 2 ^ W.length ≤ 12 * 2 ^ 12 := Nat.mul_le_mul wf.len (Nat.pow_le_pow_right (by decide) wf.len)
  exact Nat.le_trans h1 (Nat.le_trans h2 (by decide))
theorem Lp.tabSmall {W : Web} (wf : Wf W) {k0 : Key} {T : Tab} {line : List Key} {m : Nat} (h : Lp W k0 T line m) : T.length ≤ 49152 := by
  have := keys_small wf h.nodup fun k hk => by
    obtain ⟨p, hp, e⟩ := List.mem_map.mp hk
    rw [← e]
    exact (h.good p hp).1
  unfold dom at this
  rw [List.length_map] at this
  exact this

/-! ### the search -/
structure Dfs (W : Web) (ok : Nat → Prop) (u : Nat) (F L : List Nat) : Prop where
  snd : ∀ x ∈ F, R W ok u x
  cnd : ∀ x ∈ L, ok x → R W ok u x
  c0 : ∀ x ∈ cal W u, ok x → x ∈ F ∨ x ∈ L
  c1 : ∀ y ∈ F, ∀ x ∈ cal W y, ok x → x ∈ F ∨ x ∈ L
  nd : F.Nodup
section
variable {W : Web} {ok : Nat → Prop} {u x : Nat} {F L M : List Nat}
theorem Dfs.start (h : ∀ x ∈ cal W u, ok x → x ∈ L) (hs : ∀ x ∈ L, x ∈ cal W u) : Dfs W ok u [] L :=
  ⟨fun _ h => (by cases h), fun x hx o => .base (hs x hx) o, fun x hx o => .inr (h x hx o), fun _ h => (by cases h), List.nodup_nil⟩
theorem Dfs.skip (h : Dfs W ok u F (L ++ [x])) (hx : ¬ ok x ∨ x ∈ F) : Dfs W ok u F L := by
  have go : ∀ z, ok z → (z ∈ F ∨ z ∈ L ++ [x]) → z ∈ F ∨ z ∈ L := fun z o q => by
    rcases q with q | q
    · exact .inl q
    · rcases List.mem_append.mp q with q | q
      · exact .inr q
      · have : z = x := by simpa using q
        subst this
        exact .inl (hx.elim (fun n => absurd o n) id)
  exact ⟨h.snd, fun z hz => h.cnd z (List.mem_append_left _ hz), fun z hz o => go z o (h.c0 z hz o), fun y hy z hz o => go z o (h.c1 y hy z hz o), h.nd⟩
theorem Dfs.add (h : Dfs W ok u F (L ++ [x])) (ho : ok x) (hx : x ∉ F) (h1 : ∀ z ∈ cal W x, ok z → z ∈ M) (h2 : ∀ z ∈ M, z ∈ cal W x) : Dfs W ok u (F ++ [x]) (L ++ M) := by
  have rx : R W ok u x := h.cnd x (List.mem_append_right _ List.mem_cons_self) ho
  have go : ∀ z, (z ∈ F ∨ z ∈ L ++ [x]) → z ∈ F ++ [x] ∨ z ∈ L ++ M := fun z q => by
    rcases q with q | q
    · exact .inl (List.mem_append_left _ q)
    · rcases List.mem_append.mp q with q | q
      · exact .inr (List.mem_append_left _ q)
      · exact .inl (List.mem_append_right _ q)
  refine ⟨fun z hz => ?_, fun z hz o => ?_, fun z hz o => go z (h.c0 z hz o), fun y hy z hz o => ?_, ?_⟩
  · rcases List.mem_append.mp hz with q | q
    · exact h.snd z q
    · have : z = x := by simpa using q
      subst this; exact rx
  · rcases List.mem_append.mp hz with q | q
    · exact h.cnd z (List.mem_append_left _ q) o
    · exact .step rx (h2 z q) o
  · rcases List.mem_append.mp hy with q | q
    · exact go z (h.c1 y q z hz o)
    · have : y = x := by simpa using q
      subst this
      exact .inr (List.mem_append_right _ (h1 z hz o))
  · refine List.nodup_append.mpr ⟨h.nd, List.nodup_cons.mpr ⟨List.not_mem_nil, List.nodup_nil⟩, fun a ha b hb => ?_⟩
    have : b = x := by simpa using hb
    subst this
    exact fun z => hx (z ▸ ha)
theorem Dfs.few (wf : Wf W) (h : Dfs W ok u F L) : F.length ≤ W.length := by
  have := nodup_le (U := List.range W.length) h.nd fun x hx => List.mem_range.mpr ((h.snd x hx).inW wf)
  rw [List.length_range] at this
  exact this
theorem Dfs.done (wf : Wf W) (h : Dfs W ok u F []) : ∀ z, z ∈ F ↔ R W ok u z := fun z => by
  refine ⟨h.snd z, fun r => ?_⟩
  induction r with
  | base a b => exact (h.c0 _ a b).elim id fun q => by cases q
  | step q a b ih => exact (h.c1 _ ih _ a b).elim id fun q => by cases q
/-- sorted, it is the list of the open nodes -/
theorem Dfs.sorted (wf : Wf W) (h : Dfs W ok u F []) {G : List Nat} (p : G.Perm F) (s : G.Pairwise (· ≤ ·)) : G = opn W ok u := by
  refine asc_ext ?_ opn_asc fun z => by rw [p.mem_iff, h.done wf, mem_opn wf]
  have nd : G.Nodup := p.nodup_iff.mpr h.nd
  exact List.Pairwise.imp (fun {a b} q => by have h1 := q.1; have h2 := q.2; omega) (List.pairwise_and_iff.mpr ⟨s, nd⟩)
def dms (W : Web) (F L : List Nat) : Nat := (W.length - F.length) * 13 + L.length
theorem dms_skip : dms W F L < dms W F (L ++ [x]) := by
  unfold dms
  rw [List.length_append]
  show _ < _ + (L.length + 1)
  omega
theorem dms_add (wf : Wf W) (h : (F ++ [x]).length ≤ W.length) (hm : M.length ≤ 12) : dms W (F ++ [x]) (L ++ M) < dms W F (L ++ [x]) := by
  unfold dms
  rw [List.length_append] at h ⊢
  rw [List.length_append, List.length_append]
  have h' : F.length + 1 ≤ W.length := h
  show (W.length - (F.length + 1)) * 13 + (L.length + M.length) < (W.length - F.length) * 13 + (L.length + 1)
  omega
theorem dms_line (wf : Wf W) : L.length ≤ dms W F L := by unfold dms; omega
end
end Wb
end
section
set_option linter.all false
/-! The plain law, part 3: a row of nodes. -/
namespace Wb
open Classical
def rowN (i : Nat) : Nd := (if i = 0 then [] else [i - 1], 1, 0)
def rowW : Web := (List.range 12).map rowN
theorem nd_row {u : Nat} (h : u < 12) : nd rowW u = rowN u := by
  unfold nd rowW
  rw [List.getD_eq_getElem?_getD, List.getElem?_map, List.getElem?_range h]
  rfl
theorem nd_row_out {u : Nat} (h : 12 ≤ u) : nd rowW u = ([], 0, 0) := nd_out (by unfold rowW; rw [List.length_map, List.length_range]; exact h)
theorem mem_cal_row {u x : Nat} : x ∈ cal rowW u ↔ u < 12 ∧ 0 < u ∧ x = u - 1 := by
  unfold cal
  by_cases h : u < 12
  · rw [nd_row h]
    unfold rowN
    by_cases z : u = 0
    · subst z; simp
    · simp only [if_neg z, List.mem_singleton]
      exact ⟨fun e => ⟨h, by omega, e⟩, fun e => e.2.2⟩
  · rw [nd_row_out (by omega)]
    simp
    intro a
    omega
theorem row_wf : Wf rowW where
  lt := fun u x h => by
    have := mem_cal_row.mp h
    omega
  few := fun u => by
    unfold cal
    by_cases h : u < 12
    · rw [nd_row h]
      unfold rowN
      by_cases z : u = 0
      · simp [z]
      · simp [z]
    · rw [nd_row_out (by omega)]; simp
  len := by unfold rowW; rw [List.length_map, List.length_range]; exact Nat.le_refl _
  pb := fun u => by
    unfold pri
    by_cases h : u < 12
    · rw [nd_row h]; show 1 ≤ 1000; decide
    · rw [nd_row_out (by omega)]; exact Nat.zero_le _
  rb := fun u => by
    unfold rea
    by_cases h : u < 12
    · rw [nd_row h]; show 0 ≤ 1000; decide
    · rw [nd_row_out (by omega)]; exact Nat.zero_le _
structure Itv (ok : Nat → Prop) (a e : Nat) : Prop where
  le : a ≤ e
  lt : e < 12
  all : ∀ x, a ≤ x → x < e → ok x
  stop : a = 0 ∨ ¬ ok (a - 1)
section
variable {ok : Nat → Prop} {a e x : Nat}
theorem Itv.iff (h : Itv ok a e) : R rowW ok e x ↔ a ≤ x ∧ x < e := by
  have low : ∀ x y, x = y - 1 → 0 < y → a ≤ y → ok x → a ≤ x := fun x y e1 e2 e3 o => by
    by_cases c : a ≤ x
    · exact c
    · have : x = a - 1 := by omega
      rcases h.stop with z | z
      · omega
      · exact absurd (this ▸ o) z
  constructor
  · intro r
    induction r with
    | base m o =>
      obtain ⟨_, h2, h3⟩ := mem_cal_row.mp m
      exact ⟨low _ _ h3 h2 h.le o, by omega⟩
    | step _ m o ih =>
      obtain ⟨_, h2, h3⟩ := mem_cal_row.mp m
      exact ⟨low _ _ h3 h2 ih.1 o, by omega⟩
  · have key : ∀ d x, e = x + 1 + d → a ≤ x → R rowW ok e x := by
      intro d
      induction d with
      | zero =>
        intro x q1 q2
        exact .base (mem_cal_row.mpr ⟨h.lt, by omega, by omega⟩) (h.all x q2 (by omega))
      | succ d ih =>
        intro x q1 q2
        exact .step (ih (x + 1) (by omega) (by omega)) (mem_cal_row.mpr ⟨by have := h.lt; omega, by omega, by omega⟩) (h.all x q2 (by omega))
    rintro ⟨h1, h2⟩
    exact key (e - x - 1) x (by omega) h1
theorem Itv.opn (h : Itv ok a e) : opn rowW ok e = (List.range (e - a)).map (a + ·) := by
  refine asc_ext opn_asc ?_ fun x => ?_
  · rw [List.pairwise_map]
    exact List.Pairwise.imp (fun {x y} q => by show a + x < a + y; omega) List.pairwise_lt_range
  · rw [mem_opn row_wf, h.iff, List.mem_map]
    constructor
    · rintro ⟨h1, h2⟩
      exact ⟨x - a, List.mem_range.mpr (by omega), by show a + (x - a) = x; omega⟩
    · rintro ⟨i, hi, e1⟩
      have := List.mem_range.mp hi
      have e1 : a + i = x := e1
      omega
end
def gf : Nat → Nat → Nat
  | 0, _ => 0
  | f + 1, n => if n = 0 then 0 else minL ((List.range n).map fun i => 1 + max (gf f i) (gf f (n - 1 - i)))
theorem row_price : ∀ (f : Nat) (ok : Nat → Prop) (a e : Nat), Itv ok a e → e - a ≤ f → P rowW ok e = gf f (e - a)
  | 0, ok, a, e, h, hf => by
    have q : Wb.opn rowW ok e = [] := by rw [h.opn, show e - a = 0 by omega]; rfl
    rw [P_settled row_wf q]
    unfold rea
    rw [nd_row h.lt]
    rfl
  | f + 1, ok, a, e, h, hf => by
    by_cases z : e - a = 0
    · have q : Wb.opn rowW ok e = [] := by rw [h.opn, z]; rfl
      rw [P_settled row_wf q]
      unfold rea
      rw [nd_row h.lt, z]
      show 0 = if 0 = 0 then 0 else _
      rw [if_pos rfl]
    · have q : Wb.opn rowW ok e ≠ [] := fun c => by
        rw [h.opn] at c
        have := congrArg List.length c
        rw [List.length_map, List.length_range] at this
        exact z this
      rw [P_open row_wf q, h.opn, List.map_map]
      show minL _ = if e - a = 0 then 0 else minL ((List.range (e - a)).map fun i => 1 + max (gf f i) (gf f (e - a - 1 - i)))
      rw [if_neg z]
      congr 1
      refine List.map_congr_left fun i hi => ?_
      have hi' := List.mem_range.mp hi
      show cost rowW ok e (a + i) = _
      unfold cost
      have p1 : pri rowW (a + i) = 1 := by unfold pri; rw [nd_row (by have := h.lt; omega)]; rfl
      have i1 : Itv ok a (a + i) := ⟨by omega, by have := h.lt; omega, fun x h1 h2 => h.all x h1 (by omega), h.stop⟩
      have i2 : Itv (but ok (a + i)) (a + i + 1) e := ⟨by omega, h.lt, fun x h1 h2 => ⟨h.all x (by omega) h2, by omega⟩, .inr fun z => z.2 (by omega)⟩
      rw [p1, row_price f ok a (a + i) i1 (by omega), row_price f _ (a + i + 1) e i2 (by omega), show a + i - a = i by omega, show e - (a + i + 1) = e - a - 1 - i by omega]
/-- the loop of halves: found and power -/
def hstep (many : Nat) (s : Nat × Nat) : Nat × Nat := if s.2 > many then s else (s.1 + 1, 2 * s.2)
def hrun (many : Nat) : Nat → Nat × Nat
  | 0 => (0, 1)
  | n + 1 => hstep many (hrun many n)
def halves (many : Nat) : Nat := (hrun many 60).1
theorem hrun_small (many : Nat) : ∀ n, (hrun many n).2 ≤ 2 * many + 1
  | 0 => by show 1 ≤ _; omega
  | n + 1 => by
    have ih := hrun_small many n
    show (hstep many (hrun many n)).2 ≤ _
    unfold hstep
    split
    · exact ih
    · show 2 * (hrun many n).2 ≤ _
      omega
theorem gf_halves : ∀ n, n ≤ 10 → gf 10 n = halves n := by decide +kernel
theorem row_halves {ok : Nat → Prop} {a e : Nat} (h : Itv ok a e) (hl : e - a ≤ 10) : P rowW ok e = halves (Wb.opn rowW ok e).length := by
  rw [h.opn, List.length_map, List.length_range, ← gf_halves _ hl]
  exact row_price 10 ok a e h hl
/-- every end and every known one that the law asks has its interval -/
theorem row_itv {K : List Nat} {e : Nat} (hK : K = [] ∨ K = [5]) (he : e < 12) (h5 : ¬ (e = 5 ∧ K = [5])) : ∃ a, Itv (okK K) a e := by
  rcases hK with h | h
  · subst h
    exact ⟨0, Nat.zero_le _, he, fun x _ _ => by simp [okK], .inl rfl⟩
  · subst h
    by_cases c : e ≤ 5
    · refine ⟨0, Nat.zero_le _, he, fun x _ h2 => ?_, .inl rfl⟩
      have : x ≠ 5 := by
        intro q
        subst q
        have : e = 5 ∨ e < 5 := by omega
        omega
      simpa [okK] using this
    · refine ⟨6, by omega, he, fun x h1 _ => ?_, .inr fun z => z (by simp)⟩
      have : x ≠ 5 := by omega
      simpa [okK] using this
end Wb
end
section
set_option linter.all false
/-! The plain law, part 4: shadows, states and their short forms. -/
namespace Wb
open Classical
section
variable {W : Web} {S S' : List Nat} {u x : Nat} {k : Key}
noncomputable def shd (W : Web) (S : List Nat) (u : Nat) : List Nat := S.filter fun x => decide (x ∈ opn W (okK []) u)
theorem shd_eqv (wf : Wf W) : Eqv W u (okK (shd W S u)) (okK S) := fun x => by
  constructor
  · intro h
    have all : ∀ {y}, R W (okK (shd W S u)) u y → y ∉ S := fun {y} q z => by
      have b : R W (okK []) u y := q.mono fun _ _ => List.not_mem_nil
      exact q.isOk (List.mem_filter.mpr ⟨z, decide_eq_true ((mem_opn wf).mpr b)⟩)
    induction h with
    | base a b => exact .base a (all (.base a b))
    | step p a b ih => exact .step ih a (all (.step p a b))
  · exact R.mono fun y hy z => hy (List.mem_filter.mp z).1
theorem shd_asc (h : S.Pairwise (· < ·)) : (shd W S u).Pairwise (· < ·) := h.filter _
theorem shd_sub (h : x ∈ shd W S u) : x ∈ S := (List.mem_filter.mp h).1
theorem shd_len : (shd W S u).length ≤ S.length := List.length_filter_le _ _
/-- the short form of a state -/
noncomputable def srt (W : Web) (k : Key) : Key := (k.1, sh W (okK k.2) k.1)
theorem srt_can (h : k.1 < W.length) : Can W (srt W k) := ⟨h, sh_asc, fun _ h => sh_in h⟩
theorem Can.len (h : Can W k) : k.2.length ≤ W.length := by
  have nd : k.2.Nodup := h.asc.imp fun q => Nat.ne_of_lt q
  have := nodup_le nd (U := List.range W.length) fun x hx => List.mem_range.mpr (h.mem x hx)
  rwa [List.length_range] at this
theorem okK_with (h : ∀ y, y ∈ S' ↔ y ∈ S ∨ y = x) : ∀ y, okK S' y ↔ but (okK S) x y := fun y => by
  show y ∉ S' ↔ y ∉ S ∧ y ≠ x
  rw [h y, not_or]
/-- the states behind a state, each in any form that asks alike -/
theorem srt_behind (wf : Wf W) {j1 j2 : Key} (h1 : j1.1 = x) (e1 : Eqv W x (okK j1.2) (okK k.2)) (h2 : j2.1 = k.1) (e2 : ∀ y, y ∈ j2.2 ↔ y ∈ k.2 ∨ y = x) :
    [srt W j1, srt W j2] = [(x, sh W (okK k.2) x), (k.1, sh W (but (okK k.2) x) k.1)] := by
  unfold srt
  rw [h1, h2, sh_congr wf e1, sh_congr wf (Eqv.of (okK_with e2))]
theorem srt_mem (wf : Wf W) (x : Nat) : x ∈ (srt W k).2 ↔ x ∈ k.2 ∧ ∃ v, v ∈ opn W (okK k.2) k.1 ++ [k.1] ∧ x ∈ cal W v := by
  show x ∈ sh W (okK k.2) k.1 ↔ _
  rw [mem_sh wf]
  show (_ ∧ ¬ x ∉ k.2) ↔ _
  rw [Decidable.not_not]
  constructor
  · rintro ⟨⟨v, hv, hx⟩, hk⟩
    refine ⟨hk, v, ?_, hx⟩
    rcases hv with hv | hv
    · exact List.mem_append_right _ (by rw [hv]; exact List.mem_cons_self)
    · exact List.mem_append_left _ ((mem_opn wf).mpr hv)
  · rintro ⟨hk, v, hv, hx⟩
    refine ⟨⟨v, ?_, hx⟩, hk⟩
    rcases List.mem_append.mp hv with q | q
    · exact .inr ((mem_opn wf).mp q)
    · exact .inl (by simpa using q)
theorem srt_eq (wf : Wf W) (h : k.2.Pairwise (· < ·)) {p : Nat → Bool} (hp : ∀ x, p x = true ↔ ∃ v, v ∈ opn W (okK k.2) k.1 ++ [k.1] ∧ x ∈ cal W v) : (k.1, k.2.filter p) = srt W k := by
  refine Prod.ext rfl (asc_ext (h.filter _) sh_asc fun x => ?_)
  rw [List.mem_filter, hp]
  exact (srt_mem wf x).symm
theorem srt_eqv (wf : Wf W) : Eqv W k.1 (okK (srt W k).2) (okK k.2) := sh_eqv wf
theorem sb_srt (wf : Wf W) : sb W (srt W k) = sb W k := by
  have e := srt_eqv (k := k) wf
  unfold sb
  show (opn W (okK (srt W k).2) k.1).flatMap _ = _
  rw [e.opn]
  unfold List.flatMap
  congr 1
  refine List.map_congr_left fun x hx => ?_
  have r : R W (okK k.2) k.1 x := (mem_opn wf).mp hx
  have e' : Eqv W x (okK (srt W k).2) (okK k.2) := e.inner ((e x).mpr r)
  rw [sh_congr wf e', show (srt W k).1 = k.1 from rfl, sh_congr wf (e.but x)]
theorem ent_srt (wf : Wf W) : ent W (srt W k) = ent W k := by
  have e := srt_eqv (k := k) wf
  unfold ent
  rw [show (srt W k).1 = k.1 from rfl, P_congr wf e, am_congr wf e]
end
end Wb
end
section
set_option linter.all false
/-! The plain law, part 5: what price_by finds. -/
namespace Wb
open Classical
section
variable {W : Web} {S G : List Nat} {u x : Nat} {k : Key}
theorem after_wrong (wf : Wf W) (h : R W (okK k.2) k.1 x) : srt W (x, shd W k.2 x) ∈ sb W k ∧ (ent W (srt W (x, shd W k.2 x))).1 = P W (okK k.2) x := by
  constructor
  · rw [mem_sb wf]
    refine ⟨x, h, .inl ?_⟩
    unfold srt
    rw [sh_congr wf (shd_eqv wf)]
  · rw [ent_srt wf]
    exact P_congr wf (shd_eqv wf)
theorem after_right (wf : Wf W) (h : R W (okK k.2) k.1 x) (hG : ∀ y, y ∈ G ↔ y ∈ k.2 ∨ y = x) : srt W (k.1, G) ∈ sb W k ∧ (ent W (srt W (k.1, G))).1 = P W (but (okK k.2) x) k.1 := by
  constructor
  · rw [mem_sb wf]
    refine ⟨x, h, .inr ?_⟩
    unfold srt
    rw [sh_congr wf (Eqv.of (okK_with hG))]
  · rw [ent_srt wf]
    exact P_congr wf (Eqv.of (okK_with hG))
theorem ent_none (wf : Wf W) (h : opn W (okK k.2) k.1 = []) : ent W k = (rea W k.1, none) := by
  unfold ent
  rw [P_settled wf h, am_none wf h]
theorem ent_least (wf : Wf W) {z : Nat} (hz : z ∈ opn W (okK k.2) k.1) (le : ∀ y ∈ opn W (okK k.2) k.1, ¬ (cost W (okK k.2) k.1 y < cost W (okK k.2) k.1 z ∨ (cost W (okK k.2) k.1 y = cost W (okK k.2) k.1 z ∧ y < z))) :
    ent W k = (cost W (okK k.2) k.1 z, some z) := by
  obtain ⟨e1, e2⟩ := am_least wf hz rfl le
  unfold ent
  rw [e2, ← e1]
end
end Wb
end
section
set_option linter.all false
/-! The plain law, part 6: depths of plans. -/
namespace Wb
open Classical
def dep : Pl → Nat
  | .bl _ => 0
  | .ask _ p q => max (dep p) (dep q) + 1
def Okp (W : Web) : Pl → Prop
  | .bl u => u < W.length
  | .ask x p q => x < W.length ∧ Okp W p ∧ Okp W q
section
variable {W : Web} {S S' : List Nat} {ok : Nat → Prop} {u x : Nat}
theorem IsP_ok (wf : Wf W) : ∀ {p : Pl} {ok : Nat → Prop} {u : Nat}, u < W.length → IsP W ok u p → Okp W p
  | .bl v, ok, u, hu, ⟨e, _⟩ => by
    show v < W.length
    rw [e]
    exact hu
  | .ask x p q, ok, u, hu, ⟨_, hr, hp, hq⟩ => ⟨hr.inW wf, IsP_ok wf (hr.inW wf) hp, IsP_ok wf hu hq⟩
theorem BP_dep (wf : Wf W) : ∀ (n : Nat) (ok : Nat → Prop) (u : Nat), (opn W ok u).length ≤ n → dep (BP W ok u) ≤ (opn W ok u).length := by
  intro n
  induction n with
  | zero =>
    intro ok u h
    have : opn W ok u = [] := List.length_eq_zero_iff.mp (by omega)
    rw [BP_none wf (am_none wf this)]
    exact Nat.zero_le _
  | succ n ih =>
    intro ok u h
    by_cases ho : opn W ok u = []
    · rw [BP_none wf (am_none wf ho)]
      exact Nat.zero_le _
    · obtain ⟨x, hx, rx, _⟩ := am_some wf ho
      rw [BP_some wf hx]
      have h1 := opn_wrong wf rx
      have h2 := opn_right wf rx
      have d1 := ih ok x (by omega)
      have d2 := ih (but ok x) u (by omega)
      show max _ _ + 1 ≤ _
      omega
theorem opn_sub (wf : Wf W) (h : x ∈ opn W (okK S) u) : x ∈ opn W (okK []) u ∧ x ∉ S := by
  have r := (mem_opn wf).mp h
  exact ⟨(mem_opn wf).mpr (r.mono fun _ _ => List.not_mem_nil), r.isOk⟩
/-- the nodes below u that are not known -/
noncomputable def unk (W : Web) (S : List Nat) (u : Nat) : Nat := ((opn W (okK []) u).filter fun x => decide (x ∉ S)).length
theorem unk_eq (W : Web) (S : List Nat) (u : Nat) : unk W S u = ((List.range W.length).filter fun x => decide (R W (okK []) u x ∧ x ∉ S)).length := by
  unfold unk opn
  rw [List.filter_filter]
  congr 1
  refine List.filter_congr fun y _ => ?_
  by_cases h1 : R W (okK []) u y <;> by_cases h2 : y ∈ S <;> simp [h1, h2]
theorem unk_le (W : Web) (S : List Nat) (u : Nat) : unk W S u ≤ W.length := Nat.le_trans (List.length_filter_le _ _) opn_len
theorem unk_wrong (wf : Wf W) (h : x ∈ opn W (okK []) u) (hS : x ∉ S) : unk W S x < unk W S u := by
  have r := (mem_opn wf).mp h
  rw [unk_eq, unk_eq]
  refine filter_lt (x := x) (fun y hy => ?_) (List.mem_range.mpr (r.inW wf)) (decide_eq_true ⟨r, hS⟩) (decide_eq_false fun z => Nat.lt_irrefl x (z.1.lt wf))
  have := of_decide_eq_true hy
  exact decide_eq_true ⟨r.trans this.1, this.2⟩
theorem unk_right (wf : Wf W) (h : x ∈ opn W (okK []) u) (hS : x ∉ S) (h' : ∀ y, y ∈ S' ↔ y ∈ S ∨ y = x) : unk W S' u < unk W S u := by
  have r := (mem_opn wf).mp h
  rw [unk_eq, unk_eq]
  refine filter_lt (x := x) (fun y hy => ?_) (List.mem_range.mpr (r.inW wf)) (decide_eq_true ⟨r, hS⟩) (decide_eq_false fun z => z.2 ((h' x).mpr (.inr rfl)))
  have := of_decide_eq_true hy
  exact decide_eq_true ⟨this.1, fun z => this.2 ((h' y).mpr (.inl z))⟩
theorem IsP_congr (wf : Wf W) : ∀ {p : Pl} {ok ok' : Nat → Prop} {u : Nat}, (∀ y, ok y ↔ ok' y) → IsP W ok u p → IsP W ok' u p
  | .bl v, ok, ok', u, e, ⟨h1, h2⟩ => ⟨h1, fun y hy z => h2 y hy ((e y).mpr z)⟩
  | .ask x p q, ok, ok', u, e, ⟨h1, h2, h3, h4⟩ => ⟨(e x).mp h1, h2, IsP_congr wf e h3, IsP_congr wf (fun y => by show ok y ∧ _ ↔ ok' y ∧ _; rw [e y]) h4⟩
/-- x is the first question of the least plan -/
theorem am_mem (wf : Wf W) (h : am W ok u = some x) : R W ok u x := by
  by_cases ho : opn W ok u = []
  · rw [am_none wf ho] at h
    cases h
  · obtain ⟨x', h1, h2, _⟩ := am_some wf ho
    rw [h] at h1
    obtain rfl := Option.some.inj h1
    exact h2
end
end Wb
end
section
set_option Elab.async false
set_option linter.all false
set_option maxRecDepth 100000
set_option maxHeartbeats 4000000
/-! Rules of my own, 1: data in the abstract heap; dicts whose keys are states (a node and a lot). -/
namespace AH
open PySem PySem.Spec PyProof.Rows L2

/-! ### data -/
abbrev vN (n : Nat) : V := .int (n : Int)
def TupN (H : Hp) (a : Addr) (ns : List Nat) : Prop := H a = some (.tup (ns.map vN))
def KeyAt (H : Hp) (a : Addr) (k : Wb.Key) : Prop := ∃ c, H a = some (.tup [vN k.1, .ref c]) ∧ TupN H c k.2
/-- tuples stay -/
def Tx (H H' : Hp) : Prop := ∀ b xs, H b = some (.tup xs) → H' b = some (.tup xs)
theorem Tx.refl (H : Hp) : Tx H H := fun _ _ h => h
theorem Tx.trans {H H1 H2 : Hp} (a : Tx H H1) (b : Tx H1 H2) : Tx H H2 := fun c xs h => b c xs (a c xs h)
theorem Tx.of {H H' : Hp} (h : Same H H') : Tx H H' := fun b xs e => h b _ e
theorem TupN.tx {H H' : Hp} {a : Addr} {ns : List Nat} (h : TupN H a ns) (e : Tx H H') : TupN H' a ns := e _ _ h
theorem KeyAt.tx {H H' : Hp} {a : Addr} {k : Wb.Key} (h : KeyAt H a k) (e : Tx H H') : KeyAt H' a k :=
  let ⟨c, h1, h2⟩ := h
  ⟨c, e _ _ h1, h2.tx e⟩
theorem vN_inj {a b : Nat} (h : vN a = vN b) : a = b := by
  have := V.int.inj h
  omega
theorem vNs_inj : ∀ {a b : List Nat}, a.map vN = b.map vN → a = b
  | [], [], _ => rfl
  | [], _ :: _, h => by cases h
  | _ :: _, [], h => by cases h
  | x :: a, y :: b, h => by
    rw [List.map_cons, List.map_cons] at h
    injection h with h1 h2
    rw [vN_inj h1, vNs_inj h2]
theorem KeyAt.inj {H : Hp} {a : Addr} {k j : Wb.Key} (h : KeyAt H a k) (g : KeyAt H a j) : k = j := by
  obtain ⟨c, h1, h2⟩ := h
  obtain ⟨d, g1, g2⟩ := g
  rw [h1] at g1
  injection g1 with e
  injection e with e
  injection e with e1 e2
  injection e2 with e2 _
  injection e2 with e2
  subst e2
  have h2' : H c = some (.tup (k.2.map vN)) := h2
  have g2' : H c = some (.tup (j.2.map vN)) := g2
  rw [h2'] at g2'
  injection g2' with e3
  injection e3 with e3
  exact Prod.ext (vN_inj e1) (vNs_inj e3)

/-! ### the key as the library sees it -/
def enc (k : Wb.Key) : NestedKey := .tup [.num k.1, .tup (k.2.map fun n : Nat => .num n)]
theorem num_inj : ∀ {a b : List Nat}, (a.map fun n : Nat => NestedKey.num n) = (b.map fun n : Nat => NestedKey.num n) → a = b
  | [], [], _ => rfl
  | [], _ :: _, h => by cases h
  | _ :: _, [], h => by cases h
  | x :: a, y :: b, h => by
    rw [List.map_cons, List.map_cons] at h
    injection h with h1 h2
    injection h1 with h1
    rw [num_inj h2, show x = y by omega]
theorem enc_inj {k j : Wb.Key} (h : enc k = enc j) : k = j := by
  unfold enc at h
  injection h with h
  injection h with h1 h2
  injection h1 with h1
  injection h2 with h2 _
  injection h2 with h2
  exact Prod.ext (by omega) (num_inj h2)
theorem depth_nums : ∀ l : List Nat, NestedKey.depthAll (l.map fun n : Nat => NestedKey.num n) = 0
  | [] => by simp [NestedKey.depthAll]
  | a :: l => by
    rw [List.map_cons, NestedKey.depthAll, depth_nums l, NestedKey.depth]
    rfl
theorem nested_nums {h : Heap} : ∀ {l : List Nat} {us : List Value}, Vals (l.map vN) us → NestedAll h (l.map fun n : Nat => NestedKey.num n) us
  | [], _, r => by cases r; exact .nil
  | a :: l, _, r => by
    cases r with
    | cons r t =>
      obtain ⟨tk, rfl⟩ := r
      exact .cons (.int _ _) (nested_nums t)
theorem key_is {P : Program} {w : World} {H : Hp} {h : Heap} {a : Addr} {k : Wb.Key} (ok : HOk P w H h) (e : KeyAt H a k) : (nestedKind P w).is h (enc k) a := by
  obtain ⟨c, h1, h2⟩ := e
  obtain ⟨_, its, r, o, q1, q2, n, q3⟩ := (show ObjOk P w H h a (.tup [vN k.1, .ref c]) from ok a _ h1)
  obtain ⟨_, its2, r2, o2, p1, p2, n2, p3⟩ := (show ObjOk P w H h c (.tup (k.2.map vN)) from ok c _ h2)
  refine ⟨.tup q1 q2 q3 ?_, ?_⟩
  · cases r with
    | cons ra rb =>
      obtain ⟨tk, rfl⟩ := ra
      cases rb with
      | cons rc rd =>
        cases rd
        cases rc
        exact .cons (.int _ _) (.cons (.tup p1 p2 p3 (nested_nums r2)) .nil)
  · show NestedKey.depth (enc k) ≤ 8
    unfold enc
    rw [NestedKey.depth, NestedKey.depthAll, NestedKey.depthAll, NestedKey.depth, NestedKey.depth, depth_nums, NestedKey.depthAll]
    decide

/-! ### the dict -/
abbrev KE3 := List (Wb.Key × Addr × V)
abbrev KN (ks : KE3) (xs : List (NestedKey × Addr × Value)) : Prop := Paired (fun p q => enc p.1 = q.1 ∧ p.2.1 = q.2.1 ∧ RelV p.2.2 q.2.2) ks xs
def RawN (P : Program) (w : World) (h : Heap) (d : Addr) (xs : List (NestedKey × Addr × Value)) : Prop :=
  ∃ o es ep, h.get? d = some o ∧ o.ExactDict ∧ o.data = .dict es ep ∧ es.toList = xs.map (entryOfKey (nestedKind P w)) ∧ (xs.map (·.1)).Nodup
def dnO (P : Program) (w : World) (d : Addr) (ks : KE3) : HO := .ext fun h => (d == sysModules) = false ∧ ks.length ≤ sizeLine ∧ ∃ xs, KN ks xs ∧ RawN P w h d xs
def prs (ks : KE3) : List (Wb.Key × V) := ks.map fun p => (p.1, p.2.2)
/-- at d stands a dict with these keys and values -/
def DN (P : Program) (w : World) (H : Hp) (d : Addr) (T : List (Wb.Key × V)) : Prop := ∃ ks : KE3, H d = some (dnO P w d ks) ∧ prs ks = T ∧ ∀ p ∈ ks, KeyAt H p.2.1 p.1
theorem dnO_tup {P : Program} {w : World} {d : Addr} {ks : KE3} {xs : List V} : dnO P w d ks ≠ .tup xs := fun z => by
  unfold dnO at z
  cases z
theorem DN.same {P : Program} {w : World} {H H' : Hp} {d : Addr} {T : List (Wb.Key × V)} (h : DN P w H d T) (e : ∀ o, H d = some o → H' d = some o) (t : Tx H H') : DN P w H' d T :=
  let ⟨ks, h1, h2, h3⟩ := h
  ⟨ks, e _ h1, h2, fun p hp => (h3 p hp).tx t⟩

theorem KN.val {ks : KE3} {xs : List (NestedKey × Addr × Value)} (r : KN ks xs) (k : Wb.Key) : RelO (valV (prs ks) k) ((atKey xs (enc k)).map (·.2)) := by
  induction r with
  | nil => exact True.intro
  | @cons p q ps qs h t ih =>
    obtain ⟨h1, _, h2⟩ := h
    by_cases e : p.1 = k
    · have e' : q.1 = enc k := by rw [← h1, e]
      have b : atKey (q :: qs) (enc k) = some q.2 := by simp [atKey, List.find?_cons, e']
      have c : valV (prs (p :: ps)) k = some p.2.2 := valV_pos (p := (p.1, p.2.2)) e
      rw [b, c]
      exact h2
    · have e' : ¬ q.1 = enc k := fun z => e (enc_inj (h1.trans z))
      have b : atKey (q :: qs) (enc k) = atKey qs (enc k) := by simp [atKey, List.find?_cons, e']
      have c : valV (prs (p :: ps)) k = valV (prs ps) k := valV_neg (p := (p.1, p.2.2)) e
      rw [b, c]
      exact ih
def put3 (ks : KE3) (k : Wb.Key) (b : Addr) (y : V) : KE3 := if (valV (prs ks) k).isSome = true then ks.map fun p => if p.1 = k then (p.1, p.2.1, y) else p else ks ++ [(k, b, y)]
theorem prs_put3 (ks : KE3) (k : Wb.Key) (b : Addr) (y : V) : prs (put3 ks k b y) = putK (prs ks) k y := by
  unfold put3 putK
  rw [valV_any]
  by_cases q : (valV (prs ks) k).isSome = true
  · rw [if_pos q, if_pos q]
    unfold prs
    rw [List.map_map, List.map_map]
    refine List.map_congr_left fun p _ => ?_
    show (fun p => (p.1, p.2.2)) (if p.1 = k then (p.1, p.2.1, y) else p) = if p.1 = k then (p.1, y) else (p.1, p.2.2)
    split <;> rfl
  · rw [if_neg q, if_neg q]
    unfold prs
    rw [List.map_append]
    rfl
theorem put3_len (ks : KE3) (k : Wb.Key) (b : Addr) (y : V) : (put3 ks k b y).length ≤ ks.length + 1 := by
  unfold put3
  split
  · rw [List.length_map]; omega
  · rw [List.length_append]; exact Nat.le_refl _
theorem mem_put3 {ks : KE3} {k : Wb.Key} {b : Addr} {y : V} {p : Wb.Key × Addr × V} (h : p ∈ put3 ks k b y) : (∃ q ∈ ks, q.1 = p.1 ∧ q.2.1 = p.2.1) ∨ (p.1 = k ∧ p.2.1 = b) := by
  unfold put3 at h
  split at h
  · obtain ⟨q, hq, e⟩ := List.mem_map.mp h
    left
    refine ⟨q, hq, ?_⟩
    split at e <;> (subst e; exact ⟨rfl, rfl⟩)
  · rcases List.mem_append.mp h with h | h
    · exact .inl ⟨p, h, rfl, rfl⟩
    · right
      have : p = (k, b, y) := by simpa using h
      subst this
      exact ⟨rfl, rfl⟩
theorem KN.put {ks : KE3} {xs : List (NestedKey × Addr × Value)} (r : KN ks xs) (k : Wb.Key) (b : Addr) {y : V} {u : Value} (ry : RelV y u) : KN (put3 ks k b y) (storedH xs (enc k) b u) := by
  have e : (valV (prs ks) k).isSome = (atKey xs (enc k)).isSome := by rw [(r.val k).isSome_eq, Option.isSome_map]
  unfold put3 storedH
  rw [e]
  by_cases q : (atKey xs (enc k)).isSome = true
  · rw [if_pos q, if_pos q]
    clear e q
    induction r with
    | nil => exact .nil
    | @cons p q ps qs h t ih =>
      rw [List.map_cons, List.map_cons]
      refine .cons ?_ ih
      obtain ⟨h1, h2, h3⟩ := h
      unfold putAt
      by_cases c : p.1 = k
      · rw [if_pos c, if_pos (by rw [← h1, c])]
        exact ⟨h1, h2, ry⟩
      · rw [if_neg c, if_neg fun z => c (enc_inj (h1.trans z))]
        exact ⟨h1, h2, h3⟩
  · rw [if_neg q, if_neg q]
    exact Paired.snoc r ⟨rfl, rfl, ry⟩

section
variable {X : Cx} {pins : List (Addr × Obj)} {σ : L2.St} {H : Hp} {s : Shared} {d b : Addr} {k : Wb.Key} {T : List (Wb.Key × V)}
theorem dn_get (I : Inv X pins σ H s) (h : DN X.prog X.w H d T) : ∃ ks xs, H d = some (dnO X.prog X.w d ks) ∧ prs ks = T ∧ (∀ p ∈ ks, KeyAt H p.2.1 p.1) ∧ (d == sysModules) = false ∧ ks.length ≤ sizeLine ∧ KN ks xs ∧ s.heap.DictOfH (nestedKind X.prog X.w) d xs := by
  obtain ⟨ks, h1, h2, h3⟩ := h
  obtain ⟨⟨q1, q2, xs, r, o, es, ep, e1, e2, e3, e4, e5⟩, _, _⟩ := I.hok d _ h1
  refine ⟨ks, xs, h1, h2, h3, q1, q2, r, o, es, ep, e1, e2, e3, e4, fun x hx => ?_, e5⟩
  have all : ∀ {l : KE3} {m : List (NestedKey × Addr × Value)}, KN l m → (∀ p ∈ l, KeyAt H p.2.1 p.1) → ∀ x ∈ m, (nestedKind X.prog X.w).is s.heap x.1 x.2.1 := by
    intro l m q
    induction q with
    | nil => intro _ x hx; exact nomatch hx
    | @cons p q ps qs hq t ih =>
      intro ha x hx
      rcases List.mem_cons.mp hx with e | hx
      · subst e
        rw [← hq.1, ← hq.2.1]
        exact key_is I.hok (ha p List.mem_cons_self)
      · exact ih (fun p hp => ha p (List.mem_cons_of_mem _ hp)) x hx
  exact all r h3 x hx
theorem room_dn {A : Around} (hu : A.units + 64 < cLine) : (nestedKind X.prog X.w).room A.in1 := by
  show A.units + 1 + 8 < cLine
  omega
end

section
variable {X : Cx}
/-- k in d -/
def rInN (X : Cx) : R2 := fun x y H Q => ∃ b d k T, x = .ref b ∧ y = .ref d ∧ KeyAt H b k ∧ DN X.prog X.w H d T ∧ Q (.bl (valV T k).isSome) H
def rNotInN (X : Cx) : R2 := fun x y H Q => ∃ b d k T, x = .ref b ∧ y = .ref d ∧ KeyAt H b k ∧ DN X.prog X.w H d T ∧ Q (.bl (!(valV T k).isSome)) H
theorem op_in_dn (hu : X.A.units + 64 < cLine) : OpR X (compareOp .In) (rInN X) := by
  intro pins s σ H x y v u Q I rx ry h
  obtain ⟨b, d, k, T, rfl, rfl, hk, hd, q⟩ := h
  cases rx
  cases ry
  obtain ⟨ks, xs, _, e2, _, q1, _, r, dd⟩ := dn_get I hd
  refine wpAny_in_heap (room_dn hu) (key_is I.hok hk) q1 dd ?_
  refine ⟨.bl (valV T k).isSome, H, I.tok _, ?_, q⟩
  show Value.bool _ = Value.bool _
  have e := (r.val k).isSome_eq
  rw [Option.isSome_map, e2] at e
  rw [e]
theorem op_notin_dn (hu : X.A.units + 64 < cLine) : OpR X (compareOp .NotIn) (rNotInN X) := by
  intro pins s σ H x y v u Q I rx ry h
  obtain ⟨b, d, k, T, rfl, rfl, hk, hd, q⟩ := h
  cases rx
  cases ry
  obtain ⟨ks, xs, _, e2, _, q1, _, r, dd⟩ := dn_get I hd
  refine notIn_keyed (room_dn hu) (key_is I.hok hk) q1 ⟨xs, dd, rfl⟩ ?_
  refine ⟨.bl (!(valV T k).isSome), H, I.tok _, ?_, q⟩
  show Value.bool _ = Value.bool _
  have e := (r.val k).isSome_eq
  rw [e2] at e
  rw [e, valueAt_pairsH]
/-- d[k] -/
def rIxN (X : Cx) : R2 := fun x y H Q => ∃ d b k T v, x = .ref d ∧ y = .ref b ∧ KeyAt H b k ∧ DN X.prog X.w H d T ∧ valV T k = some v ∧ Q v H
theorem pe_dnget (hu : X.A.units + 64 < cLine) {o i : Expr} {pos : Pos} {td ty : TE} (ho : PE X o td) (hi : PE X i ty) (hs : NoSl i) : PE X (.Subscript o i pos) (tOp (rIxN X) td ty) := by
  refine ⟨fun pins s σ H Q I h => ?_⟩
  refine subD_of PySem.F.slot_dict_getitem.lookup hs (thn (ho.run pins s σ H _ I h) fun u s1 ⟨x, H1, I1, rx, q1⟩ => thn (hi.run pins s1 σ H1 _ I1 q1) fun iv s2 ⟨y, H2, I2, ry, d, b, k, T, v, ex, ey, hk, hd, hv, q2⟩ => ?_)
  subst ex ey
  obtain rfl : u = Value.ref d := rx
  obtain rfl : iv = Value.ref b := ry
  obtain ⟨ks, xs, _, e2, _, q1, _, r, dd⟩ := dn_get I2 hd
  refine ⟨dd.typeIs, ?_⟩
  obtain ⟨w', hw, rw'⟩ := RelO.some_of (v := v) (o := (atKey xs (enc k)).map (·.2)) (by rw [← hv, ← e2]; exact r.val k)
  obtain ⟨p, hp, hp2⟩ := Option.map_eq_some_iff.mp hw
  refine wpAny_getItem_heap (room_dn hu) (key_is I2.hok hk) dd hp ?_
  exact ⟨v, H2, I2.tok _, by rw [hp2]; exact rw', q2⟩
/-- d[k] = v -/
def rSetN (X : Cx) : TSet := fun o i v H Q => ∃ d b k T, o = .ref d ∧ i = .ref b ∧ KeyAt H b k ∧ DN X.prog X.w H d T ∧ T.length < sizeLine ∧ ∀ H', (∀ c, c ≠ d → H' c = H c) → DN X.prog X.w H' d (putK T k v) → Q H'
theorem set_dn (hu : X.A.units + 64 < cLine) : PSet X (rSetN X) := by
  intro pins s σ H o i v ov iv u Q I ro ri rv h
  obtain ⟨d, b, k, T, rfl, rfl, hk, hd, hl, q⟩ := h
  cases ro
  cases ri
  obtain ⟨ks, xs, e1, e2, e3, q1, _, r, dd⟩ := dn_get I hd
  have hlen : ks.length = xs.length := Paired.length r
  have hT : T.length = ks.length := by rw [← e2]; unfold prs; rw [List.length_map]
  refine wpAny_setItem_heap (room_dn hu) (key_is I.hok hk) dd (fun h' dd' hs => ?_) (by omega)
  have nt : ∀ c ys, H c = some (.tup ys) → c ≠ d := fun c ys e z => by
    rw [z, e1] at e
    exact dnO_tup (Option.some.inj e)
  have tx : Tx H (upd H d (dnO X.prog X.w d (put3 ks k b v))) := fun c ys e => by rw [upd_ne (nt c ys e)]; exact e
  obtain ⟨o', es, ep, f1, f2, f3, f4, _, f5⟩ := dd'
  refine ⟨upd H d (dnO X.prog X.w d (put3 ks k b v)), ?_, q _ (fun c hc => upd_ne hc) ⟨put3 ks k b v, upd_same, by rw [prs_put3, e2], fun p hp => ?_⟩⟩
  · refine d_write I (by rw [e1]; exact True.intro) hs ⟨o', f1⟩ ?_
    refine ⟨⟨q1, ?_, _, r.put k b rv, o', es, ep, f1, f2, f3, f4, f5⟩, ⟨o', f1⟩, fun h1 h2 z st => ?_⟩
    · have := put3_len ks k b v
      omega
    · obtain ⟨z1, z2, ys, z3, o2, es2, ep2, y1, y2⟩ := z
      exact ⟨z1, z2, ys, z3, o2, es2, ep2, st _ y1, y2⟩
  · rcases mem_put3 hp with ⟨p', hp', a1, a2⟩ | ⟨a1, a2⟩
    · rw [← a1, ← a2]
      exact (e3 p' hp').tx tx
    · rw [a1, a2]
      exact hk.tx tx
/-- {} -/
def tNewN (X : Cx) : TE := fun _ H Q => ∀ p H', H p = none → (∀ c, c ≠ p → H' c = H c) → DN X.prog X.w H' p [] → Q (.ref p) H'
theorem pe_dnnew {pos : Pos} : PE X (.Dict [] [] pos) (tNewN X) := by
  refine ⟨fun pins s σ H Q I h => ?_⟩
  refine wpAny_Dict_empty ?_
  have nf : H s.heap.objs.size = none := I.hok.fresh (Nat.le_refl _)
  have hb : (s.heap.objs.size == sysModules) = false := beq_eq_false_iff_ne.mpr (Ne.symm (Nat.ne_of_lt I.big))
  have hg : (s.heap.push { cls := .type "dict", data := .dict #[] }).get? s.heap.objs.size = some { cls := .type "dict", data := .dict #[] } := Heap.get?_push_size _ rfl
  refine ⟨.ref s.heap.objs.size, upd H s.heap.objs.size (dnO X.prog X.w s.heap.objs.size []), I.laid (t' := s.toks) (fun _ _ q => Heap.get?_push_of_some _ q) (Nat.le_refl _) ?_, rfl, h _ _ nf (fun c hc => upd_ne hc) ⟨[], upd_same, rfl, fun p hp => nomatch hp⟩⟩
  refine ⟨⟨hb, Nat.zero_le _, [], .nil, _, #[], 0, hg, ⟨rfl, rfl, rfl⟩, rfl, rfl, List.nodup_nil⟩, ⟨_, hg⟩, fun h1 h2 z st => ?_⟩
  obtain ⟨z1, z2, ys, z3, o2, es2, ep2, y1, y2⟩ := z
  exact ⟨z1, z2, ys, z3, o2, es2, ep2, st _ y1, y2⟩
end
end AH
end
section
set_option Elab.async false
set_option linter.all false
set_option maxRecDepth 100000
set_option maxHeartbeats 4000000
/-! Rules of my own, 2: a list lengthened by a tuple, the least of a list of pairs, repr of a tuple, set(tuple), a list's item read for +=. -/
namespace AHx
open PySem PySem.Spec PyProof.Rows
open Builtin
open PySem.AutoSeq1 (wpAny_loadPart')
open PySem.MeetsSeq PySem.MeetsSeq2 PySem.MeetsSeq3
theorem extend_tup (l b : Addr) (items items2 : Array Value) (n n2 : Nat) (dd : Option Addr) (sl : Array (Option Value)) (h0 : ¬(!items.isEmpty && Builtin.List.listTooLong (items.size + items2.size)) = true) (h1 : items.size ≤ sizeLine) (h2 : items.size + items2.size ≤ sizeLine + 1) :
    Meets (Builtin.«list.extend» ⟨[.ref l, .ref b], []⟩)
      (fun _ R s => s.heap.get? l = some { cls := .type "list", dict := none, data := .seq items n, slots := #[] } ∧ s.heap.get? b = some { cls := .type "tuple", dict := dd, data := .seq items2 n2, slots := sl } ∧
        R (.ok (.ret Value.none)) { s with heap := s.heap.update l (Obj.mapSeq fun x => x ++ items2), toks := s.toks }) :=
  .of_wp fun prog w A R s h => by
    obtain ⟨hp, g, d, tk, os⟩ := s
    obtain ⟨hl, hb, h⟩ := h
    have f3 := sub_list_list
    have f4 := sub_tuple_list
    have f2 := sub_tuple_tuple
    have hz : (items ++ items2).size ≤ sizeLine + 1 := by rw [Array.size_append]; exact h2
    wp_walk using (wpAny_updateSeq hl rfl (hz := h1) (_hz' := hz)), wpAny_loadPart' hl, wpAny_loadPart' hb
    exact ⟨_, rfl, h⟩
/-- the loop of min over a list whose items compare as bt says while what Fine says stands -/
theorem min_loop {prog : Program} {w : World} {A : Around} {R : Result → Shared → Prop} {I S : Addr} {fp wr : List Addr} {n : Nat} {P : Nat → Value → Prop} {St : Nat → Heap → Prop} {Fine : Heap → Prop} (bt : Nat → Nat → Bool)
    (W : Walks prog w A.in1 I fp wr n P St) (hS : S ∉ fp) (keep : ∀ h h' : Heap, Fine h → (∀ b o, b ∉ wr → b ≠ S → h.get? b = some o → h'.get? b = some o) → Fine h')
    (cmp : ∀ i j vi vj (s : Shared) (Q : Value → Shared → Prop) (E : Value → Shared → Prop), Fine s.heap → P i vi → P j vj → Q (.bool (bt i j)) s → wpAny (model prog w) A.in1 (richCompare .Lt vi vj) Q E s) :
    ∀ (k j : Nat) (s : Shared) (vb : Value) (c : Nat), n = j + 1 + k → Fine s.heap → St (j + 1) s.heap → P (argBest bt j) vb → s.heap.get? S = some { cls := .type "list", dict := none, data := .seq #[vb, vb] c, slots := #[] } →
    (∀ v h' tk, P (argBest bt (n - 1)) v → (∀ b o, b ∉ wr → b ≠ S → s.heap.get? b = some o → h'.get? b = some o) → R (.ok (.ret v)) { s with heap := h', toks := tk }) →
    codeAny (model prog w) A (.builtin "min.loop" ⟨[.ref I, .none, .ref S], []⟩) R s := by
  have nS : S ∉ wr := fun z => hS (W.sub _ z)
  have nm : (toString "min" ++ toString ".loop" : String) = "min.loop" := by decide
  intro k
  induction k with
  | zero =>
    intro j s vb c hn _ st pb hs q
    have e : j + 1 = n := by omega
    refine codeAny_builtin F.entry_min_loop ?_
    rw [Around.under_plainId F.plain_min_loop _]
    show wpAny _ A.in1 (seqItems? (.ref S) >>= _) _ _ s
    refine wpAny_bind (wpAny_seqItems hs rfl ?_)
    show wpAny _ A.in1 (tryCatch (pyNext (.ref I)) _ >>= _) _ _ s
    refine wpAny_bind (wpAny_tryCatch (W.done s _ _ (e ▸ st) fun h1 t1 k1 => ?_))
    show wpAny _ A.in1 (updateSeq S (fun _ => #[]) >>= _) _ _ _
    refine wpAny_bind (wpAny_updateSeq (k1 S _ nS hs) rfl (wpAny_bind (wpAny_letGo (wpAny_pure ?_))))
    exact q vb _ t1 (by rw [← e]; exact pb) fun b o h2 h3 h4 => (Heap.get?_update_other _ _ (Ne.symm h3)).trans (k1 b o h2 h4)
  | succ k ih =>
    intro j s vb c hn fine st pb hs q
    refine codeAny_builtin F.entry_min_loop ?_
    rw [Around.under_plainId F.plain_min_loop _]
    show wpAny _ A.in1 (seqItems? (.ref S) >>= _) _ _ s
    refine wpAny_bind (wpAny_seqItems hs rfl ?_)
    show wpAny _ A.in1 (tryCatch (pyNext (.ref I)) _ >>= _) _ _ s
    refine wpAny_bind (wpAny_tryCatch (W.item (j + 1) s _ _ (by omega) st fun v h1 t1 pv st1 k1 => ?_))
    have hs1 := k1 S _ nS hs
    have fine1 : Fine h1 := keep _ _ fine fun b o h2 _ h4 => k1 b o h2 h4
    show wpAny _ A.in1 (tryCatch (holding [v, v] (richCompare .Lt v vb >>= _)) _ >>= _) _ _ _
    refine wpAny_bind (wpAny_tryCatch (wpAny_holding (wpAny_bind (cmp (j + 1) (argBest bt j) v vb _ _ _ fine1 pv pb ?_))))
    refine wpAny_bind (wpAny_holding (wpAny_truthy_bool (wpAny_bind (wpAny_letGo (wpAny_pure ?_)))))
    cases hb : bt (j + 1) (argBest bt j) with
    | true =>
      have arg : argBest bt (j + 1) = j + 1 := by simp only [argBest, hb, if_true]
      simp only [if_true]
      refine wpAny_bind (wpAny_updateSeq hs1 rfl (wpAny_bind (wpAny_letGo ?_)))
      rw [nm]
      have oth : ∀ b o, b ≠ S → h1.get? b = some o → (h1.update S (Obj.mapSeq fun _ => #[v, v])).get? b = some o := fun b o h3 h4 => (Heap.get?_update_other _ _ (Ne.symm h3)).trans h4
      refine wpAny_pure ⟨plainId_quiet F.plain_min_loop _, ih (j + 1) _ v c (by omega) (keep _ _ fine1 fun b o _ h3 h4 => oth b o h3 h4) (W.frame _ _ _ st1 fun b hbf o h4 => oth b o (fun z => hS (z ▸ hbf)) h4) (by rw [arg]; exact pv) (Heap.get?_update_self _ hs1 rfl) fun v' h2 t2 pv' k2 => ?_⟩
      exact q v' h2 t2 pv' fun b o h2 h3 h4 => k2 b o h2 h3 (oth b o h3 (k1 b o h2 h4))
    | false =>
      have arg : argBest bt (j + 1) = argBest bt j := by simp only [argBest, hb, Bool.false_eq_true, if_false]
      simp only [Bool.false_eq_true, if_false]
      refine wpAny_bind (wpAny_letGo ?_)
      rw [nm]
      refine wpAny_pure ⟨plainId_quiet F.plain_min_loop _, ih (j + 1) _ vb c (by omega) fine1 st1 (by rw [arg]; exact pb) hs1 fun v' h2 t2 pv' k2 => ?_⟩
      exact q v' h2 t2 pv' fun b o h2 h3 h4 => k2 b o h2 h3 (k1 b o h2 h4)
theorem min_walk {prog : Program} {w : World} {A : Around} {E : Value → Shared → Prop} {s : Shared} {x : Value} {Q : Value → Shared → Prop} (bt : Nat → Nat → Bool)
    (h : wpAny (model prog w) A.in1 (pyIter x) (fun it s2 => ∃ I n P St, it = .ref I ∧ s.heap.objs.size ≤ I ∧ (∀ b o, s.heap.get? b = some o → s2.heap.get? b = some o) ∧ (∃ fp, Walks prog w A.in1 I fp [I] n P St ∧ (∀ b ∈ fp, b < s2.heap.objs.size)) ∧ St 0 s2.heap ∧ 0 < n ∧
      (∀ i j vi vj (s' : Shared) (Q : Value → Shared → Prop) (E : Value → Shared → Prop), (∀ b o, s.heap.get? b = some o → s'.heap.get? b = some o) → P i vi → P j vj → Q (.bool (bt i j)) s' → wpAny (model prog w) A.in1 (richCompare .Lt vi vj) Q E s') ∧
      ∀ v h' tk, P (argBest bt (n - 1)) v → (∀ b o, s.heap.get? b = some o → h'.get? b = some o) → Q v { s2 with heap := h', toks := tk }) E s) :
    wpAny (model prog w) A (call (.builtin "min") [x]) Q E s := by
  have nm : (toString "min" ++ toString ".loop" : String) = "min.loop" := by decide
  refine call_function_tree F.kind_min F.plain_min F.entry_min (F.args_min1 _) ?_
  show wpAny _ A.in1 (Builtin.Builtins.bindParams "min" ["key", "default"] 0 ⟨[], []⟩ >>= _) _ _ s
  refine wpAny_bind (wpAny_of_eq (show Builtin.Builtins.bindParams "min" ["key", "default"] 0 ⟨[], []⟩ = pure [none, none] from rfl) (wpAny_bind (wpAny_pure ?_)))
  refine wpAny_bind (wpAny_mono h (fun it s2 hh => ?_) fun _ _ e => e)
  obtain ⟨I, n, P, St, rfl, hI, k0, ⟨fp, W, hfp⟩, st, hn, cmp, q⟩ := hh
  refine wpAny_bind (wpAny_newObj_type ?_)
  rw [nm]
  generalize hSd : s2.heap.objs.size = S
  have nS : S ∉ fp := fun z => by
    have := hfp _ z
    rw [hSd] at this
    exact Nat.lt_irrefl _ this
  have old : ∀ b o, s2.heap.get? b = some o → (s2.heap.push { cls := .type "list", data := .seq ([] : List Value).toArray }).get? b = some o := fun b o e => Heap.get?_push_of_some _ e
  have bS : ∀ b o, s2.heap.get? b = some o → b ≠ S := fun b o e => by rw [← hSd]; exact Nat.ne_of_lt (Heap.lt_size e)
  have bI : ∀ b o, s.heap.get? b = some o → b ∉ [I] := fun b o e z => by
    have e2 : b = I := by simpa using z
    have := Heap.lt_size e
    rw [e2] at this
    exact Nat.lt_irrefl _ (Nat.lt_of_lt_of_le this hI)
  have hs : (s2.heap.push { cls := .type "list", data := .seq ([] : List Value).toArray }).get? S = some { cls := .type "list", dict := none, data := .seq #[] 0, slots := #[] } := by rw [← hSd]; exact Heap.get?_push_size _ rfl
  have st1 : St 0 (s2.heap.push { cls := .type "list", data := .seq ([] : List Value).toArray }) := W.frame _ _ _ st fun b _ o e => old b o e
  have fineK : ∀ h h' : Heap, (∀ b o, s.heap.get? b = some o → h.get? b = some o) → (∀ b o, b ∉ [I] → b ≠ S → h.get? b = some o → h'.get? b = some o) → ∀ b o, s.heap.get? b = some o → h'.get? b = some o := fun h h' f k b o e => k b o (bI b o e) (bS b o (k0 b o e)) (f b o e)
  have fine2 : ∀ b o, s.heap.get? b = some o → (s2.heap.push { cls := .type "list", data := .seq ([] : List Value).toArray }).get? b = some o := fun b o e => old b o (k0 b o e)
  refine wpAny_pure ⟨plainId_quiet F.plain_min_loop _, ?_⟩
  refine codeAny_builtin F.entry_min_loop ?_
  rw [Around.under_plainId F.plain_min_loop _]
  show wpAny _ A.in1 (seqItems? (.ref S) >>= _) _ _ _
  refine wpAny_bind (wpAny_seqItems hs rfl ?_)
  show wpAny _ A.in1 (tryCatch (pyNext (.ref I)) _ >>= _) _ _ _
  refine wpAny_bind (wpAny_tryCatch (W.item 0 _ _ _ hn st1 fun v h1 t1 pv st2 k1 => ?_))
  have nSw : S ∉ [I] := fun z => nS (W.sub _ z)
  have hs1 := k1 S _ nSw hs
  show wpAny _ A.in1 (updateSeq S (fun _ => #[v, v]) >>= _) _ _ _
  refine wpAny_bind (wpAny_updateSeq hs1 rfl ?_)
  rw [nm]
  have oth : ∀ b o, b ≠ S → h1.get? b = some o → (h1.update S (Obj.mapSeq fun _ => #[v, v])).get? b = some o := fun b o h3 h4 => (Heap.get?_update_other _ _ (Ne.symm h3)).trans h4
  refine wpAny_pure ⟨plainId_quiet F.plain_min_loop _, min_loop (Fine := fun h => ∀ b o, s.heap.get? b = some o → h.get? b = some o) bt W nS fineK cmp (n - 1) 0 _ v _ (by omega) ?_ (W.frame _ _ _ st2 fun b hbf o h4 => oth b o (fun z => nS (z ▸ hbf)) h4) pv (Heap.get?_update_self _ hs1 rfl) fun v' h2 t2 pv' k2 => ?_⟩
  · exact fineK _ _ (fineK _ _ fine2 fun b o h2 _ h4 => k1 b o h2 h4) fun b o _ h3 h4 => oth b o h3 h4
  · exact q v' h2 t2 pv' fun b o e => k2 b o (bI b o e) (bS b o (k0 b o e)) (oth b o (bS b o (k0 b o e)) (k1 b o (bI b o e) (old b o (k0 b o e))))
end AHx

namespace AH
open PySem PySem.Spec PyProof.Rows L2
/-- (a, b) < (c, d) -/
def ltP (p q : Int × Int) : Bool := decide (p.1 < q.1) || (decide (p.1 = q.1) && decide (p.2 < q.2))
theorem ltP_lex (p q : Int × Int) : HT.lexLt [p.1, p.2] [q.1, q.2] = ltP p q := by
  unfold ltP
  rw [HT.lexLt_cons, HT.lexLt_cons, HT.lexLt_nil_nil]
  by_cases h : p.1 = q.1
  · rw [if_pos h]
    have n : ¬ p.1 < q.1 := by omega
    by_cases g : p.2 = q.2
    · rw [if_pos g]
      have n2 : ¬ p.2 < q.2 := by omega
      simp [n, n2]
    · rw [if_neg g]
      simp [n, h]
  · rw [if_neg h]
    simp [h]
theorem argBest_ltP (f : Nat → Int × Int) : ∀ k, argBest (fun i j => ltP (f i) (f j)) k ≤ k ∧ ∀ i, i ≤ k → ltP (f i) (f (argBest (fun i j => ltP (f i) (f j)) k)) = false
  | 0 => ⟨Nat.le_refl _, fun i hi => by
    have : i = 0 := by omega
    subst this
    show ltP (f 0) (f 0) = false
    unfold ltP
    simp⟩
  | k + 1 => by
    obtain ⟨h1, h2⟩ := argBest_ltP f k
    have step : argBest (fun i j => ltP (f i) (f j)) (k + 1) = if ltP (f (k + 1)) (f (argBest (fun i j => ltP (f i) (f j)) k)) = true then k + 1 else argBest (fun i j => ltP (f i) (f j)) k := rfl
    rw [step]
    generalize argBest (fun i j => ltP (f i) (f j)) k = m at h1 h2
    unfold ltP at h2 ⊢
    split
    · rename_i c
      refine ⟨Nat.le_refl _, fun i hi => ?_⟩
      by_cases e : i = k + 1
      · subst e; simp
      · have := h2 i (by omega)
        simp at this c ⊢
        omega
    · rename_i c
      refine ⟨by omega, fun i hi => ?_⟩
      by_cases e : i = k + 1
      · subst e
        simpa using c
      · exact h2 i (by omega)
section
variable {X : Cx}
/-- xs.extend(t), t a tuple -/
def rExtT (K : PySem.W.Frag) : V → List V → Hp → VK → Prop := fun x vs H Q => ∃ l b xs zs, x = .ref l ∧ vs = [.ref b] ∧ H l = some (.lst xs) ∧ SqT K H b zs ∧ xs.length + zs.length ≤ sizeLine ∧ Q .non (upd H l (.lst (xs ++ zs)))
theorem mt_extT : MtM X "list.extend" (rExtT X.K) := by
  intro pins s σ H x vs v us Q I rx rv h
  obtain ⟨l, b, xs, zs, rfl, rfl, hH, hB, hz, q⟩ := h
  cases rx
  obtain ⟨u, rfl, ru⟩ := rv.one
  cases ru
  obtain ⟨z, its, n, r, hl, e⟩ := I.lstM hH
  obtain ⟨its2, r2, ⟨⟨cls2, dd2, data2, sl2⟩, e2, hc2, n2, hd2⟩, z2⟩ := I.tuple hB
  simp only at hc2 hd2
  subst hc2 hd2
  have hl2 := r2.length
  have hsz : its.toArray.size + its2.toArray.size ≤ sizeLine := by rw [List.size_toArray, List.size_toArray]; omega
  have hlong : ¬ (!its.toArray.isEmpty && Builtin.List.listTooLong (its.toArray.size + its2.toArray.size)) = true := by
    rw [notLongL hsz, Bool.and_false]
    exact Bool.false_ne_true
  refine call_meets F.slot_list_extend ⟨_, e, rfl⟩ F.entry_list_extend (F.args_list_extend_2 _ _) (AHx.extend_tup l b its.toArray its2.toArray n n2 dd2 sl2 hlong (by rw [List.size_toArray]; omega) (by omega)) ⟨e, e2, ?_⟩
  refine ⟨.non, _, I.lset (its' := its ++ its2) hH e (by simp) (r.append r2) ?_, rfl, q⟩
  rw [List.length_append]
  omega
/-- min(xs), xs a list of pairs of ints -/
def rMinP (K : PySem.W.Frag) : List V → Hp → VK → Prop := fun vs H Q => ∃ (a : Addr) (ts : List Addr) (f : Nat → Int × Int), vs = [V.ref a] ∧ SqL K H a (ts.map V.ref) ∧ 0 < ts.length ∧ (∀ i t, ts[i]? = some t → H t = some (.tup [.int (f i).1, .int (f i).2])) ∧
  ∀ j t, ts[j]? = some t → (∀ i, i < ts.length → ltP (f i) (f j) = false) → Q (.ref t) H
theorem vals_refs1 : ∀ {ts : List Addr} {us : List Value}, Vals (ts.map V.ref) us → us = ts.map Value.ref
  | [], _, r => by cases r; rfl
  | t :: ts, _, r => by
    cases r with
    | cons r1 r2 =>
      cases r1
      rw [vals_refs1 r2]
      rfl
theorem cr_minP (hc : X.calm = true) (hu : X.A.units + 64 < cLine) : CallR X (.builtin "min") (rMinP X.K) := by
  intro pins s σ H xs us Q I r h
  obtain ⟨a, ts, f, rfl, hS, hpos, hat, q⟩ := h
  obtain ⟨u, rfl, ru⟩ := vals1 r
  cases ru
  obtain ⟨its, rv, pl, hz⟩ := I.list hS
  have ei := vals_refs1 rv
  subst ei
  -- what each item is
  have tup : ∀ i t, ts[i]? = some t → ∃ (vs : List Value), IntsAre vs [(f i).1, (f i).2] ∧ IsTup s.heap t vs.toArray := fun i t e => by
    obtain ⟨_, vs, rr, p⟩ := (show ObjOk X.prog X.w H s.heap t (.tup [.int (f i).1, .int (f i).2]) from I.hok t _ (hat i t e))
    exact ⟨vs, Vals.ints (ns := [(f i).1, (f i).2]) rr, p⟩
  have kt : ∀ (s' : Shared), (∀ b o, s.heap.get? b = some o → s'.heap.get? b = some o) → ∀ i t, ts[i]? = some t → ∃ (vs : List Value), IntsAre vs [(f i).1, (f i).2] ∧ IsTup s'.heap t vs.toArray := fun s' k i t e => by
    obtain ⟨vs, h1, o, ho, hcl, n, hd⟩ := tup i t e
    exact ⟨vs, h1, o, k _ _ ho, hcl, n, hd⟩
  refine AHx.min_walk (fun i j => ltP (f i) (f j)) (wpAny_pyIter_list pl.isList ?_)
  have hlt : a < s.heap.objs.size := by
    obtain ⟨o, n, ho, _⟩ := pl
    exact Heap.lt_size ho
  have hne : a ≠ s.heap.objs.size := Nat.ne_of_lt hlt
  have nit : (s.heap.push { cls := .type "list_iterator", data := .fields #[.ref a, .int 0 0] }).get? s.heap.objs.size = some { cls := .type "list_iterator", data := .fields #[.ref a, .int 0 0] } := Heap.get?_push_size _ rfl
  refine ⟨s.heap.objs.size, _, _, _, rfl, Nat.le_refl _, fun b o e => Heap.get?_push_of_some _ e, ⟨_, Walks.list (A := X.A.in1) (I.ok.hd hc) s.heap.objs.size a hne (ts.map Value.ref).toArray, fun b hb => ?_⟩, ⟨⟨_, Heap.get?_push_size _ rfl, rfl, rfl⟩, ?_⟩, ?_, fun i j vi vj s' Q' E' k pi pj q' => ?_, fun v h' tk pv k => ?_⟩
  · have : b = s.heap.objs.size ∨ b = a := by simpa using hb
    rw [Heap.size_push]
    rcases this with e | e
    · rw [e]; exact Nat.lt_succ_self _
    · rw [e]; exact Nat.lt_succ_of_lt hlt
  · exact pl.isList.at fun o e => Heap.get?_push_of_some _ e
  · rw [List.size_toArray, List.length_map]; exact hpos
  · have pi' : (ts.map Value.ref)[i]? = some vi := by simpa using pi
    have pj' : (ts.map Value.ref)[j]? = some vj := by simpa using pj
    rw [List.getElem?_map] at pi' pj'
    obtain ⟨ti, ei, rfl⟩ := Option.map_eq_some_iff.mp pi'
    obtain ⟨tj, ej, rfl⟩ := Option.map_eq_some_iff.mp pj'
    obtain ⟨vs, h1, h2⟩ := kt s' k i ti ei
    obtain ⟨ws, g1, g2⟩ := kt s' k j tj ej
    refine HT.lt_tupInts h2 g2 h1 g1 (by show X.A.units + 1 < cLine; omega) ?_
    rw [ltP_lex]
    exact q'
  · have pv' : (ts.map Value.ref)[argBest (fun i j => ltP (f i) (f j)) ((ts.map Value.ref).toArray.size - 1)]? = some v := by simpa using pv
    rw [List.size_toArray, List.length_map, List.getElem?_map] at pv'
    obtain ⟨t, et, rfl⟩ := Option.map_eq_some_iff.mp pv'
    obtain ⟨b1, b2⟩ := argBest_ltP f (ts.length - 1)
    exact ⟨.ref t, H, I.kept (t' := tk) k, rfl, q _ t et fun i hi => b2 i (by omega)⟩
end
end AH
end
section
set_option Elab.async false
set_option linter.all false
set_option maxRecDepth 100000
set_option maxHeartbeats 4000000
/-! Rules of my own, 3: repr of a tuple (where no repr is going on), defs that ask for that, set(tuple), xs[i] += e. -/
namespace AH
open PySem PySem.Spec PyProof.Rows L2
section
variable {X : Cx}
/-- repr(t), t a tuple of data -/
def rReprT (K : PySem.W.Frag) : List V → Hp → VK → Prop := fun xs H Q => ∃ (a : Addr) (ds : List PyData), xs = [.ref a] ∧ Dp K H (.ref a) (.tuple ds) ∧ PyData.showable (.tuple ds) = true ∧ PyData.hasDict (.tuple ds) = false ∧ PyData.depth (.tuple ds) ≤ 8 ∧ (PyData.shown (.tuple ds)).length ≤ sizeLine ∧ Q (.str (PyData.shown (.tuple ds))) H
theorem call_reprT (hg : X.A.guards = some []) (hu : X.A.units + 64 < cLine) : CallR X (.builtin "repr") (rReprT X.K) := by
  intro pins s σ H xs us Q I r h
  obtain ⟨a, ds, rfl, hd, h1, h2, h3, h4, q⟩ := h
  obtain ⟨u, rfl, ru⟩ := vals1 r
  obtain ⟨as, rd⟩ := Dp.reads I _ _ u hd ru
  cases ru
  exact repr_of_reads' rd h1 (fun z => by rw [h2] at z; cases z) hg (by omega) (fun _ _ e => e) (fun h' t tk k => ⟨.str _, H, I.kept k, ⟨t, rfl⟩, q⟩) h4
/-- set(t), t a tuple of ints -/
def rSetT (K : PySem.W.Frag) (w : World) : List V → Hp → VK → Prop := fun xs H Q => ∃ (a : Addr) (ns : List Int), xs = [.ref a] ∧ SqT K H a (ns.map V.int) ∧ ns.length ≤ 1000 ∧ ∀ p c, H p = none → c ≤ ns.length → Q (.ref p) (upd H p (SetO w p (fun j => decide (j ∈ ns)) c))
theorem call_setT (hc : X.calm = true) : CallR X (.type "set") (rSetT X.K X.w) := by
  intro pins s σ H xs us Q I r h
  obtain ⟨a, ns, rfl, hS, hl, q⟩ := h
  obtain ⟨u, rfl, ru⟩ := vals1 r
  cases ru
  obtain ⟨its, rv, p, hz⟩ := I.tuple hS
  have hi : IntsAre its.toArray.toList ns := Vals.ints rv
  refine call_set_tupI (P := X.prog) ns (I.ok.hd hc) p hi (Nat.lt_of_le_of_lt (Nat.succ_le_succ hl) (by decide +kernel)) fun h' tk c R hcl k => ?_
  exact ⟨.ref s.heap.objs.size, _, I.laid (t' := tk) k (Nat.le_refl _) (setO_new R), rfl, q _ c (I.hok.fresh (Nat.le_refl _)) hcl⟩
/-- xs[i], for xs[i] += e -/
theorem get_list : PGet X (rIxL X.K) := by
  intro pins s σ H o i ov iv Q I ro ri h
  obtain ⟨p, xs, k, z, rfl, rfl, hq, he, q⟩ := h
  cases ro
  obtain ⟨t, rfl⟩ := ri
  obtain ⟨its, r, pl, hz⟩ := I.list hq
  obtain ⟨j, h1, h2, h3, h4, h5⟩ := atI_get he
  obtain ⟨u, eu, ru⟩ := r.get h2
  have hl := r.length
  have hn := line63
  by_cases h0 : 0 ≤ k
  · have hj : k.toNat = j := by
      rw [seqIndex_of h0 h5] at h1
      exact Option.some.inj h1
    exact wpAny_getItem_list pl.isList h0 (by omega) (by rw [hj]; simpa using eu) ⟨z, H, I, ru, q⟩
  · have hj : (k + (its.toArray.size : Int)).toNat = j := by
      rw [seqIndex_neg (by omega) h4] at h1
      rw [List.size_toArray, ← hl]
      exact Option.some.inj h1
    exact wpAny_getItem_list_neg pl.isList (by omega) (by rw [List.size_toArray] <;> omega) (by omega) (by rw [hj]; simpa using eu) ⟨z, H, I, ru, q⟩
end

/-! ### defs that are called where no repr is going on -/
structure FnG (P : Program) (w : World) (K : PySem.W.Frag) (mg : Str → Option Value) (base : Heap) (CX : CXT) (k : Nat) (f : Addr) (fd : FuncData) (ps : List Str) (sp : Sp) : Prop where
  len : ∀ vs H Q E, sp vs H Q E → vs.length = ps.length
  run : ∀ (A : Around) (outer : List Env) (s : Shared) (H : Hp) (args : Args) (us : List Value) (vs : List V) (Q : VK) (E : XK), A.guards = some [] → Room k A → Env0 P w K mg base A outer s H → BindsTo s fd args (ps.zip us) → Vals vs us → sp vs H Q E →
    codeAny (model P w) A (.call (.ref f) args) (CR CX outer P w H s Q E) s
section
variable {P : Program} {w : World} {K : PySem.W.Frag} {mg : Str → Option Value} {base : Heap}
theorem guards_deeper {A : Around} {env : Env} (h : A.guards = some []) : (A.deeper env).guards = some [] := by
  first
    | exact h
    | simpa [Around.deeper] using h
theorem Fun.okG {x qual : Str} {st : Stmt} {f : Addr} {fd : FuncData} {N ps : List Str} {k : Nat} {sp : Sp} (F : Fun K x qual st f fd) (S : FnScope N ps (defScope st)) (len : ∀ vs H Q E, sp vs H Q E → vs.length = ps.length)
    (hbody : ∀ (cdv : Value) (A : Around) (outer : List Env) (s : Shared) (H : Hp) (vs : List V) (Q : VK) (E : XK), A.guards = some [] → Room k (A.deeper (envOfC qual (defScope st) s.heap.objs.size f cdv)) → sp vs H Q E →
      ∃ t, PSs (cxOf CX0 P w K mg base N qual (defScope st) f cdv A outer s H E).nox (defBody st) t ∧ t { nx := fun _ H' => Q .non H', rt := Q } (start N vs) H) : FnG P w K mg base CX0 (k + 1) f fd ps sp := by
  obtain ⟨oc, od, kV, doc, pm, an, cdv, ct, osl, rfl, lk, hcd⟩ := F.ex
  refine ⟨len, fun A outer s H args us vs Q E hg hr e0 hb r hsp => ?_⟩
  refine LamX.run_ofS (N := N) lk hcd S hr e0 hb r (len _ _ _ _ hsp) fun hr' => ?_
  obtain ⟨t, h, q⟩ := hbody cdv A outer s H vs Q E hg hr' hsp
  exact ⟨t, h.nox, q⟩
end
section
variable {X : Cx} {CX : CXT} {k : Nat} {f : Addr} {fd : FuncData} {ps : List Str} {sp : Sp} {dvs : List V} {ds : List Value} {E : XK} {x : Str} {p pos : Pos} {e : Expr} {es : List Expr} {t : TA}
theorem pe_callG (hgd : X.A.guards = some []) (F : FnG X.prog X.w X.K X.mg X.base CX k f fd ps sp) (hr : Room k X.A) (hg : Gl X x) (hm : X.mg x = some (.ref f)) (hk : PySem.W.keepIn X.K (.ref f) = true) (hb : Binds X.K fd ps ds) (hd : Vals dvs ds) (hx : Passes CX X E)
    (ha : PA X (e :: es) t) (hdb : (x == ("__debug__" : Str)) = false := by decide) (he : starEach (e :: es) X.env = (false, eval e X.env) :: starEach es X.env := by rfl) (hpl : (backTo pos (starEach es X.env)).any (·.1) = false := by rfl) :
    PE X (.Call (.Name x p) (e :: es) [] pos) (tCall sp dvs E t) := by
  refine ⟨fun pins s σ H Q I h => ?_⟩
  refine wpAny_Call_Name_kw (ld_glob I hg hm ?_ hdb)
  refine PySem.W.callWith_K (h₀ := X.base) I.ok.mod.kin hk (thn (ha.run pos pins s σ H _ I h) fun us s1 ⟨vs, H1, I1, r, q⟩ => ⟨I1.kIn, ?_⟩) he hpl
  have q : sp (vs ++ dvs) H1 Q E := q
  have r2 : Vals (vs ++ dvs) (us ++ ds) := r.append hd
  have hl : (us ++ ds).length = ps.length := by rw [← r2.length]; exact F.len _ _ _ _ q
  refine wpAny_call (codeAny_mono (F.run X.A X.stack s1 H1 ⟨us, []⟩ (us ++ ds) (vs ++ dvs) Q E hgd hr I1.env0 (hb s1 us I1.kIn hl) r2 q) fun r s' hq => ?_)
  cases r with
  | error er => exact hx pins σ H1 s1 er s' I1 hq
  | ok fl =>
    cases fl with
    | ret u => exact I1.after hq
    | next => exact False.elim hq
    | brk => exact False.elim hq
    | cont => exact False.elim hq
end
end AH
end
section
set_option Elab.async false
set_option linter.all false
set_option maxRecDepth 100000
set_option maxHeartbeats 4000000
/-! Rules of my own, 4: a dict comprehension of two clauses without tests, its keys ints or texts. -/
namespace AH
open PySem PySem.Spec PyProof.Rows L2
abbrev dcE (kx vx t0 i0 t1 i1 : Expr) (scope : Scope) (pos : Pos) : Expr := .DictComp kx vx [⟨t0, i0, [], 0⟩, ⟨t1, i1, [], 0⟩] scope pos
theorem dc2_turn0 (kx vx t0 i0 t1 i1 : Expr) (scope : Scope) (pos : Pos) (it acc : Value) (env : Env) :
    compTurn (dcE kx vx t0 i0 t1 i1 scope pos) 0 it acc env = (do
      standAt i0.pos
      match ← pyNext it with
      | none => pure (.done .next)
      | some v =>
        letOwnedTupleGo t0 it v
        assign t0 env v
        let mut ok := true
        for c in ([] : List Expr) do
          if ok then ok ← isTrue c env (eval c env)
        if ok then
          let x ← eval i1 env
          standAt i1.pos
          let x ← foldedSetIterable i1 env x
          let _ ← runOwn (.compStart (dcE kx vx t0 i0 t1 i1 scope pos) 1 (← holding [x] (pyIter x)) acc env) env
        again (.compLoop (dcE kx vx t0 i0 t1 i1 scope pos) 0 it acc env)) := by rfl
theorem dc2_turn1 (kx vx t0 i0 t1 i1 : Expr) (scope : Scope) (pos : Pos) (it : Value) (D : Addr) (env : Env) :
    compTurn (dcE kx vx t0 i0 t1 i1 scope pos) 1 it (.ref D) env = (do
      standAt i1.pos
      match ← pyNext it with
      | none => pure (.done .next)
      | some v =>
        letOwnedTupleGo t1 it v
        assign t1 env v
        let mut ok := true
        for c in ([] : List Expr) do
          if ok then ok ← isTrue c env (eval c env)
        if ok then
          (do
            let kv ← eval kx env
            let vv ← holding [kv] (eval vx env)
            standAt { kx.pos with endLine := vx.pos.endLine, endCol := vx.pos.endCol }
            holding [kv, vv] (dictSet D kv vv))
        again (.compLoop (dcE kx vx t0 i0 t1 i1 scope pos) 1 it (.ref D) env)) := by rfl

section
variable {prog : Program} {w : World} {A : Around} {R : Result → Shared → Prop} {s : Shared} {kx vx t0 i0 t1 i1 : Expr} {scope : Scope} {pos : Pos} {it : Value} {D : Addr} {env : Env}
abbrev nb (prog : Program) (w : World) (A : Around) (R : Result → Shared → Prop) (env : Env) : Value → Shared → Prop := notedBy (model prog w) A env fun e s' => R (.error e) s'
/-- the outer loop: M, its invariant with a measure -/
theorem dc2_outer (hf : ∀ x, foldedSetIterable i1 env x = pure x) (M : Nat → Shared → Prop)
    (turn : ∀ n s, M n s → wpAny (model prog w) A (pyNext it) (fun r s1 => match r with
      | none => R (.ok .next) s1
      | some v => wpAny (model prog w) A (letOwnedTupleGo t0 it v) (fun _ s2 => wpAny (model prog w) A (assign t0 env v) (fun _ s3 => wpAny (model prog w) A (eval i1 env) (fun x s4 => wpAny (model prog w) A (pyIter x) (fun it1 s5 =>
          codeAny (model prog w) A (.compStart (dcE kx vx t0 i0 t1 i1 scope pos) 1 it1 (.ref D) env) (fun r s' => match r with
            | .ok _ => ∃ m, m < n ∧ M m s'
            | .error _ => False) s5) (nb prog w A R env) s4) (nb prog w A R env) s3) (nb prog w A R env) s2) (nb prog w A R env) s1) (nb prog w A R env) s) (n : Nat) (h : M n s) :
    codeAny (model prog w) A (.compLoop (dcE kx vx t0 i0 t1 i1 scope pos) 0 it (.ref D) env) R s := by
  refine codeAny_loop rfl M (fun n s hM => ?_) n h
  show wpAny _ A ((compTurn (dcE kx vx t0 i0 t1 i1 scope pos) 0 it (.ref D) env).onRaise (fun x => do noteFrame x env; theTreesLotGoes x)) _ _ s
  refine wpAny_noted ?_
  rw [dc2_turn0]
  refine wpAny_bind (wpAny_standAt (wpAny_bind (wpAny_mono (turn n s hM) (fun r s1 h1 => ?_) fun _ _ z => z)))
  cases r with
  | none => exact wpAny_pure h1
  | some v =>
    refine wpAny_bind (wpAny_mono h1 (fun _ s2 h2 => wpAny_bind (wpAny_mono h2 (fun _ s3 h3 => ?_) fun _ _ z => z)) fun _ _ z => z)
    refine wpAny_bind (wpAny_tests_nil ?_)
    refine wpAny_bind (wpAny_mono h3 (fun x s4 h4 => ?_) fun _ _ z => z)
    refine wpAny_bind (wpAny_standAt (wpAny_bind (wpAny_of_eq (hf x) (wpAny_bind (wpAny_holding (wpAny_mono h4 (fun it1 s5 h5 => ?_) fun _ _ z => z))))))
    refine wpAny_bind (wpAny_runOwn ?_)
    rw [Around.mark_none]
    refine codeAny_mono h5 fun r s' hr => ?_
    cases r with
    | error e => exact hr.elim
    | ok f =>
      first
        | exact wpAny_pure ⟨rfl, hr⟩
        | exact wpAny_bind (wpAny_pure (wpAny_pure ⟨rfl, hr⟩))
/-- the inner loop -/
theorem dc2_inner (M : Nat → Shared → Prop)
    (turn : ∀ n s, M n s → wpAny (model prog w) A (pyNext it) (fun r s1 => match r with
      | none => R (.ok .next) s1
      | some v => wpAny (model prog w) A (letOwnedTupleGo t1 it v) (fun _ s2 => wpAny (model prog w) A (assign t1 env v) (fun _ s3 => wpAny (model prog w) A (eval kx env) (fun kv s4 => wpAny (model prog w) A (eval vx env) (fun vv s5 =>
          wpAny (model prog w) A (dictSet D kv vv) (fun _ s6 => ∃ m, m < n ∧ M m s6) (nb prog w A R env) s5) (nb prog w A R env) s4) (nb prog w A R env) s3) (nb prog w A R env) s2) (nb prog w A R env) s1) (nb prog w A R env) s) (n : Nat) (h : M n s) :
    codeAny (model prog w) A (.compLoop (dcE kx vx t0 i0 t1 i1 scope pos) 1 it (.ref D) env) R s := by
  refine codeAny_loop rfl M (fun n s hM => ?_) n h
  show wpAny _ A ((compTurn (dcE kx vx t0 i0 t1 i1 scope pos) 1 it (.ref D) env).onRaise (fun x => do noteFrame x env; theTreesLotGoes x)) _ _ s
  refine wpAny_noted ?_
  rw [dc2_turn1]
  refine wpAny_bind (wpAny_standAt (wpAny_bind (wpAny_mono (turn n s hM) (fun r s1 h1 => ?_) fun _ _ z => z)))
  cases r with
  | none => exact wpAny_pure h1
  | some v =>
    refine wpAny_bind (wpAny_mono h1 (fun _ s2 h2 => wpAny_bind (wpAny_mono h2 (fun _ s3 h3 => ?_) fun _ _ z => z)) fun _ _ z => z)
    refine wpAny_bind (wpAny_tests_nil ?_)
    refine wpAny_bind (wpAny_bind (wpAny_mono h3 (fun kv s4 h4 => ?_) fun _ _ z => z))
    refine wpAny_bind (wpAny_holding (wpAny_mono h4 (fun vv s5 h5 => ?_) fun _ _ z => z))
    exact wpAny_bind (wpAny_standAt (wpAny_holding (wpAny_mono h5 (fun _ s6 h6 => wpAny_pure ⟨rfl, h6⟩) fun _ _ z => z)))
theorem dc2_start (h0 : codeAny (model prog w) A (.compLoop (dcE kx vx t0 i0 t1 i1 scope pos) 1 it (.ref D) env) R s)
    (h : wpAny (model prog w) A (pyIter it) (fun it' s' => codeAny (model prog w) A (.compLoop (dcE kx vx t0 i0 t1 i1 scope pos) 1 it' (.ref D) env) R s') (nb prog w A R env) s) :
    codeAny (model prog w) A (.compStart (dcE kx vx t0 i0 t1 i1 scope pos) 1 it (.ref D) env) R s := by
  refine codeAny_of_tree ?_
  show wpAny _ _ ((compStart (dcE kx vx t0 i0 t1 i1 scope pos) 1 it (.ref D) env).onRaise (fun x => do noteFrame x env; standAt theWindowsPlace)) _ _ s
  refine wpAny_notedAt ?_
  unfold compStart
  show wpAny _ _ (ask >>= _) _ _ s
  refine wpAny_bind (wpAny_askSetting (wpAny_ite ?_))
  split
  · first
      | exact wpAny_bind (wpAny_pure (wpAny_pure (And.intro rfl h0)))
      | exact wpAny_pure (And.intro rfl h0)
  · first
      | exact wpAny_bind (wpAny_rule (wpAny_bind (wpAny_standAt (wpAny_bind (wpAny_mono h (fun it' s' h' => wpAny_pure (And.intro rfl h')) fun _ _ x => x)))))
      | (refine wpAny_bind (wpAny_rule ?_); show wpAny _ _ (standAt i1.pos >>= _) _ _ s; exact wpAny_bind (wpAny_standAt (wpAny_bind (wpAny_mono h (fun it' s' h' => wpAny_pure (And.intro rfl h')) fun _ _ x => x))))
end
section
variable {X : Cx}
/-- {kx: vx for tg in iter for tg1 in iter1}: D the new dict. vs: the block's names; vs1: those of the second target -/
def tDc2 (wi : TI) (g : TG) (wi1 : TI) (g1 : TG) (tk tv : TE) (vs vs1 : List Nat) : TE := fun σ H Q => wi σ H fun J H1 => ∀ D, H1 D = none → ∃ W : Nat → Nat → Hp → Prop, (∃ m, W 0 m (upd H1 D (.dK []))) ∧ ∀ i m H, W i m H →
  (J.stop i H ∧ Q (.ref D) H) ∨ (J.go i H ∧ ∃ Nx : Hp → Prop, (∀ H', Nx H' → ∃ m', m' < m ∧ W (i + 1) m' H') ∧ ∀ x H', J.yld i H x H' → g x (wipe σ vs) H' fun σ2 H2 => wipe σ2 vs = wipe σ vs ∧
    wi1 σ2 H2 fun J1 H4 => ∃ W1 : Nat → Nat → Hp → Prop, (∃ m, W1 0 m H4) ∧ ∀ j k H, W1 j k H →
      (J1.stop j H ∧ Nx H) ∨ (J1.go j H ∧ ∃ Nx1 : Hp → Prop, (∀ H', Nx1 H' → ∃ k', k' < k ∧ W1 (j + 1) k' H') ∧ ∀ x H', J1.yld j H x H' → g1 x (wipe σ2 vs1) H' fun σ3 H5 => wipe σ3 vs1 = wipe σ2 vs1 ∧
        tk σ3 H5 fun y H6 => tv σ3 H6 fun z H7 => ∃ kvs k, y = kV k ∧ H7 D = some (.dK kvs) ∧ kvs.length < sizeLine ∧ Nx1 (upd H7 D (.dK (putK kvs k z)))))
/-- for every block of this comprehension -/
abbrev AllBlk (X : Cx) (scope : Scope) (C : Cx → Prop) : Prop := ∀ (s : Shared) (H : Hp) (L : Addr) (cl : List (Str × Addr)) (fp : List Addr), C (X.blk s H scope (compEnvC scope cl L X.env) fp)
theorem pinned_at {Y : Cx} {pins : List (Addr × Obj)} {σ : L2.St} {H : Hp} {h : Heap} {s : Shared} {fp : List Addr} (I : Inv Y (pins ++ pinsAt fp h) σ H s) {b : Addr} {o : Obj} (hb : b ∈ fp) (e : h.get? b = some o) : s.heap.get? b = some o ∧ H b = none :=
  have z := I.pin (b, o) (List.mem_append_right _ (List.mem_append_right _ (mem_pinsAt hb e)))
  ⟨z.1, z.2.1⟩
theorem pe_dc2 {kx vx t0 i0 t1 i1 : Expr} {scope : Scope} {own : List (Str × Nat)} {vs1 : List Nat} {pos : Pos} {wi wi1 : TI} {g g1 : TG} {tk tv : TE} (hc : X.calm = true) (hN : X.N.Nodup) (hi : PI X t0 i0 wi) (ok : BlkOk X.N X.env.scope scope own) (hv : ∀ i ∈ vs1, i ∈ own.map (·.2))
    (hg : AllBlk X scope fun Y => PG Y t0 g) (hi1 : AllBlk X scope fun Y => PI Y t1 i1 wi1) (hg1 : AllBlk X scope fun Y => PG Y t1 g1) (hk : AllBlk X scope fun Y => PE Y kx tk) (he : AllBlk X scope fun Y => PE Y vx tv)
    (hf0 : ∀ x, foldedSetIterable i0 X.env x = pure x := by intro _; rfl) (hf1 : ∀ env x, foldedSetIterable i1 env x = pure x := by intro _ _; rfl) :
    PE X (dcE kx vx t0 i0 t1 i1 scope pos) (tDc2 wi g wi1 g1 tk tv (own.map (·.2)) vs1) := by
  refine ⟨fun pins s σ H Q I h => ?_⟩
  rw [arm_eval_DictComp]
  have hfree : ∀ y ∈ scope.names, y.2 = .free → ∃ c, X.env.cells.lookup y.1 = some c := fun y hy e => (ok.free y hy e).elim (fun z => I.ok.has _ (.inl z)) fun z => I.ok.has _ (.inr z)
  refine wpAny_comprehension_free rfl hf0 (closure_ok hfree) ok.kind (fun y hy e => by rw [ok.uniq y hy, e]) (thn (hi.run pins s σ H _ I h) fun xv s1 hx => thn hx fun itv s2 h2 => ?_)
  obtain ⟨it, fp, tn, J, H2, rfl, I2, T, st2, f2, q⟩ := h2
  refine wpAny_newObj_type (newEnv_comp ?_)
  generalize eD : s2.heap.objs.size = D
  have nD : H2 D = none := I2.hok.fresh (Nat.le_of_eq eD)
  obtain ⟨W, ⟨m0, w0⟩, turn⟩ := q D nD
  generalize es3 : ({ s2 with heap := s2.heap.push { cls := .type "dict", data := .dict #[] } } : Shared) = s3
  have hp3 : s3.heap = s2.heap.push { cls := .type "dict", data := .dict #[] } := by rw [← es3]
  have I3 : Inv X pins σ (upd H2 D (.dK [])) s3 := by
    rw [← es3]
    refine I2.laid (t' := s2.toks) (fun b o e => Heap.get?_push_of_some _ e) (Nat.le_of_eq eD) ?_
    rw [← eD]
    exact dk_empty s2.heap I2.big
  have f3 : ∀ b ∈ fp, FpOk X pins (upd H2 D (.dK [])) b ∧ b < s3.heap.objs.size := fun b hb => by
    obtain ⟨o, e, _⟩ := T.obj _ _ st2 b hb
    have l := Heap.lt_size e
    refine ⟨⟨?_, (f2 b hb).2⟩, by rw [hp3, Heap.size_push]; exact Nat.lt_succ_of_lt l⟩
    rw [upd_ne (by rw [← eD]; exact Nat.ne_of_lt l)]
    exact (f2 b hb).1
  have st3 : tn 0 s3.heap := T.keep _ _ _ st2 fun b _ o e => by rw [hp3]; exact Heap.get?_push_of_some _ e
  have I4 := block_start I3 ok hN f3
  -- the block's own rules
  have pg := hg s3 (upd H2 D (.dK [])) s3.heap.objs.size (cellsFrom (s3.heap.objs.size + 1) scope.names (cloFrom X.env.cells scope.names [])) fp
  have pi1 := hi1 s3 (upd H2 D (.dK [])) s3.heap.objs.size (cellsFrom (s3.heap.objs.size + 1) scope.names (cloFrom X.env.cells scope.names [])) fp
  have pg1 := hg1 s3 (upd H2 D (.dK [])) s3.heap.objs.size (cellsFrom (s3.heap.objs.size + 1) scope.names (cloFrom X.env.cells scope.names [])) fp
  have pk := hk s3 (upd H2 D (.dK [])) s3.heap.objs.size (cellsFrom (s3.heap.objs.size + 1) scope.names (cloFrom X.env.cells scope.names [])) fp
  have pv := he s3 (upd H2 D (.dK [])) s3.heap.objs.size (cellsFrom (s3.heap.objs.size + 1) scope.names (cloFrom X.env.cells scope.names [])) fp
  have n3 : ∀ b ∈ fp, (upd H2 D (.dK [])) b = none := fun b hb => (f3 b hb).1.1
  show codeAny _ _ (.compStart (dcE kx vx t0 i0 t1 i1 scope pos) 0 (.ref it) (.ref D) (compEnvC scope (cellsFrom (s3.heap.objs.size + 1) scope.names (cloFrom X.env.cells scope.names [])) s3.heap.objs.size X.env)) _ { s3 with heap := pushCells (s3.heap.push { cls := .type "dict", data := .dict #[] }) scope.names }
  generalize ece : compEnvC scope (cellsFrom (s3.heap.objs.size + 1) scope.names (cloFrom X.env.cells scope.names [])) s3.heap.objs.size X.env = ce at I4 pg pi1 pg1 pk pv ⊢
  have cL : ce.locals = s3.heap.objs.size := by subst ece; rfl
  generalize eH3 : upd H2 D (.dK []) = H3 at I3 I4 pg pi1 pg1 pk pv w0 n3 f3
  generalize es4 : ({ s3 with heap := pushCells (s3.heap.push { cls := .type "dict", data := .dict #[] }) scope.names } : Shared) = s4 at I4 ⊢
  have st4 : tn 0 s4.heap := T.keep _ _ _ st3 fun b _ o e => by rw [← es4]; exact pushCells_keeps _ _ _ _ (Heap.get?_push_of_some _ e)
  have stat : ∀ {σ' : L2.St} {H' : Hp} {s' : Shared}, Inv (X.blk s3 H3 scope ce fp) [] σ' H' s' → (∀ b ∈ fp, H' b = none) → ∀ b ∈ fp, FpOk (X.blk s3 H3 scope ce fp) [] H' b := fun {σ' H' s'} I' hn b hb =>
    ⟨hn b hb, (I'.ok.exf b hb).1, I'.ok.exfs b hb, .inl hb, fun x c e => (I'.ok.exf b hb).2 x c e, fun p hp => nomatch (show p ∈ ([] : List (Addr × Obj)) from hp)⟩
  have loop : codeAny (model X.prog X.w) X.A (.compLoop (dcE kx vx t0 i0 t1 i1 scope pos) 0 (.ref it) (.ref D) ce) (compPost (model X.prog X.w) X.A X.xe none (EP X pins σ Q) (.ref D) s3.heap.objs.size) s4 := by
    refine dc2_outer (hf1 ce) (fun n s' => ∃ i H', Inv (X.blk s3 H3 scope ce fp) [] (wipe σ (own.map (·.2))) H' s' ∧ tn i s'.heap ∧ (∀ b ∈ fp, H' b = none) ∧ W i n H') ?_ m0 ⟨0, H3, I4, st4, n3, w0⟩
    rintro n s5 ⟨i, H5, I5, st5, n5, w5⟩
    rcases turn i n H5 w5 with ⟨stop, qq⟩ | ⟨go, Nx, hNx, step⟩
    · -- the end: back in the def
      refine thnF (T.done (X.blk s3 H3 scope ce fp) rfl rfl rfl hc i [] s5 _ H5 (fun _ _ => False) I5 (stat I5 n5) st5 stop) fun r s6 ⟨hr, I6⟩ => ?_
      subst hr
      have I7 : Inv X pins σ H5 s6 := I3.call' (ch := fp) I6.os I6.base I6.hok I6.bare fun b hb => ⟨(f3 b hb).1.2.2.2.1, (f3 b hb).1.2.1, (f3 b hb).1.2.2.2.2.1, (f3 b hb).1.2.2.2.2.2⟩
      have nL : H5 s3.heap.objs.size = none := by
        have z : H5 ce.locals = none := I6.free
        rw [cL] at z
        exact z
      obtain ⟨m, hn, _⟩ := I6.loc
      have hn : s6.heap.Ns ce.locals m := hn
      rw [cL] at hn
      obtain ⟨g0, g1', g2, g3, g4, g5⟩ := I3.fpOk (H' := H5) (Nat.le_refl _) nL
      exact ⟨m, hn, fun h'' sb => ⟨.ref D, H5, I7.turned (t' := s6.toks) (fun b o hb e => (sb.2 b hb).trans e) g0 g1' g3 g4 g5, rfl, qq⟩⟩
    · refine thnF (T.item (X.blk s3 H3 scope ce fp) rfl rfl rfl hc i [] s5 _ H5 (fun _ _ => False) I5 (stat I5 n5) st5 go) fun r s6 ⟨u, hr, h6⟩ => ?_
      subst hr
      refine thnF h6 fun _ s7 ⟨x, H7, I7, r7, y7, st7, n7⟩ => ?_
      have J7 := I7.pinned (stat I7 n7) (T.obj _ _ st7)
      refine thnF (pg.run _ s7 _ H7 x u _ J7 r7 (step x H7 y7)) fun _ s8 ⟨σ8, H8, I8, hw8, q8⟩ => ?_
      have len8 : (wipe σ (own.map (·.2))).length = σ8.length := by rw [← hw8, wipe_length]
      -- what the block knew, it knows behind the inner loop
      have know : ∀ (j : Nat) v, (wipe σ (own.map (·.2)))[j]? = some (some v) → (wipe σ8 vs1)[j]? = some (some v) := fun j v e => by
        rw [← hw8] at e
        obtain ⟨e1, e2⟩ := wipe_some e
        rw [wipe_out fun z => e2 (hv j z)]
        exact e1
      refine thnF (pi1.run _ s8 σ8 H8 _ I8 q8) fun xv s10 hx => thnF hx fun itv s11 h11 => ?_
      obtain ⟨it1, fp1, tn1, J1, H11, rfl, I11, T1, st11, f11, W1, ⟨m1, w1⟩, turn1⟩ := h11
      have stat1 : ∀ {H' : Hp}, (∀ b ∈ fp1, H' b = none) → ∀ b ∈ fp1, FpOk (X.blk s3 H3 scope ce fp) ([] ++ pinsAt fp s7.heap) H' b := fun hn b hb => ⟨hn b hb, (f11 b hb).2⟩
      have inner : codeAny (model X.prog X.w) X.A (.compLoop (dcE kx vx t0 i0 t1 i1 scope pos) 1 (.ref it1) (.ref D) ce)
          (fun r s' => match r with
            | .ok _ => ∃ m, m < n ∧ ∃ i H', Inv (X.blk s3 H3 scope ce fp) [] (wipe σ (own.map (·.2))) H' s' ∧ tn i s'.heap ∧ (∀ b ∈ fp, H' b = none) ∧ W i m H'
            | .error _ => False) s11 := by
        refine dc2_inner (fun k s' => ∃ j H', Inv (X.blk s3 H3 scope ce fp) ([] ++ pinsAt fp s7.heap) (wipe σ8 vs1) H' s' ∧ tn1 j s'.heap ∧ (∀ b ∈ fp1, H' b = none) ∧ W1 j k H') ?_ m1 ⟨0, H11, I11.weak (wipe_length _ _) (fun j v e => (wipe_some e).1), st11, fun b hb => (f11 b hb).1, w1⟩
        rintro k s12 ⟨j, H12, I12, st12, n12, w12⟩
        rcases turn1 j k H12 w12 with ⟨stop1, nx1⟩ | ⟨go1, Nx1, hNx1, step1⟩
        · refine thnF (T1.done (X.blk s3 H3 scope ce fp) rfl rfl rfl hc j _ s12 (wipe σ8 vs1) H12 (fun _ _ => False) I12 (stat1 n12) st12 stop1) fun r s13 ⟨hr, I13⟩ => ?_
          subst hr
          obtain ⟨m', hm, w'⟩ := hNx H12 nx1
          refine ⟨m', hm, i + 1, H12, (I13.unpinned (pins := [])).weak (len8.trans (wipe_length σ8 vs1).symm) know, T.keep _ _ _ st7 fun b hb o e => (pinned_at I13 hb e).1, fun b hb => ?_, w'⟩
          obtain ⟨o, e, _⟩ := T.obj _ _ st7 b hb
          exact (pinned_at I13 hb e).2
        · refine thnF (T1.item (X.blk s3 H3 scope ce fp) rfl rfl rfl hc j _ s12 (wipe σ8 vs1) H12 (fun _ _ => False) I12 (stat1 n12) st12 go1) fun r s13 ⟨u1, hr, h13⟩ => ?_
          subst hr
          refine thnF h13 fun _ s14 ⟨x1, H14, I14, r14, y14, st14, n14⟩ => ?_
          have J14 := I14.pinned (stat1 n14) (T1.obj _ _ st14)
          refine thnF (pg1.run _ s14 (wipe σ8 vs1) H14 x1 u1 _ J14 r14 (step1 x1 H14 y14)) fun _ s15 ⟨σ15, H15, I15, hw15, q15⟩ => ?_
          refine thnF (pk.run _ s15 σ15 H15 _ I15 q15) fun kv s16 ⟨yk, H16, I16, r16, q16⟩ => ?_
          refine thnF (pv.run _ s16 σ15 H16 _ I16 q16) fun vv s17 ⟨yv, H17, I17, r17, kvs, key, ek, hD17, hz17, nx⟩ => ?_
          subst ek
          refine d_dictSet (X := X.blk s3 H3 scope ce fp) I17 hD17 hz17 r16 r17 fun s18 I18 => ?_
          obtain ⟨m', hm, w'⟩ := hNx1 _ nx
          refine ⟨m', hm, j + 1, _, I18.unpinned.weak (by rw [← hw15, wipe_length]) (fun j v e => by rw [← hw15] at e; exact (wipe_some e).1), T1.keep _ _ _ st14 fun b hb o e => (pinned_at I18 hb e).1, fun b hb => ?_, w'⟩
          obtain ⟨o, e, _⟩ := T1.obj _ _ st14 b hb
          exact (pinned_at I18 hb e).2
      exact dc2_start inner (T1.self X.A 0 _ _ _ st11 inner)
  exact codeAny_compStart_dict loop (T.self X.A 0 _ _ _ st4 loop)
end
end AH
end
section
set_option Elab.async false
set_option linter.all false
set_option maxRecDepth 100000
set_option maxHeartbeats 4000000
/-! Rules of my own, 5: the error TooMany, whose __init__ calls that of its own base class. -/
namespace AH
open PySem PySem.Spec PyProof.Rows L2
/-- what the written part says of the two classes: AskError at C0, TooMany at C, its __init__ at fI -/
structure ErrTxt (K : PySem.W.Frag) (mg : Str → Option Value) (C0 C fI : Addr) : Prop where
  gA : mg "AskError" = some (.ref C0)
  ga : PySem.W.specialIn K (.ref C0) "__getattribute__" = some (some (.builtin "type.__getattribute__"))
  rd : PySem.W.readsIn K C0 (.type "type") = true
  fc : PySem.W.findCls K (.ref C0) (.type "type") "__init__" = some (.val (.builtin "ValueError.__init__"))
  gC : mg "TooMany" = some (.ref C)
  ox : OexC K C
  no : PySem.W.findIn K (.ref C) "most" = some none
  iC : PySem.W.findIn K (.ref C) "__init__" = some (some (.ref fI))
  tI : PySem.W.typeIn K (.ref fI) = some (.type "function")
  xf : XfC K C
  te : PySem.W.exmOne K (.ref C) (.ref C) = some true
/-! ### the text -/
def top (i : Nat) : Stmt := PySem.Challenge.pw_askorhold_k45_whole_least_prices_of_all.main.body.getD i (.Pass ⟨0, 0, 0, 0⟩)
abbrev inClass (st : Stmt) (i : Nat) : Stmt := match st with
  | .ClassDef _ _ _ b _ _ _ _ _ _ _ => b.getD i (.Pass ⟨0, 0, 0, 0⟩)
  | _ => st
section
variable {X : Cx} {C0 C fI : Addr} {e : Expr} {es : List Expr} {ta : TA} {p1 p2 pos : Pos}
theorem pe_askinit {pl : Sem Bool} (T : ErrTxt X.K X.mg C0 C fI) (hg : Gl X "AskError") (ha : PA X (e :: es) ta)
    (hc : eval (.Call (.Attribute (.Name "AskError" p1) "__init__" p2) (e :: es) [] pos) X.env = (do
      let ov ← eval (.Name "AskError" p1) X.env
      standAt p2.atName
      let (f, first) ← holding [ov] (getMethod ov "__init__" pl)
      callWith pos f first (backTo pos (starEach (e :: es) X.env)) (backToKw pos (keywordEach [] X.env))) := by rfl)
    (he : starEach (e :: es) X.env = (false, eval e X.env) :: starEach es X.env := by rfl) (hpl : (backTo pos (starEach es X.env)).any (·.1) = false := by rfl) :
    PE X (.Call (.Attribute (.Name "AskError" p1) "__init__" p2) (e :: es) [] pos) (tVeI X.K ta) := by
  refine ⟨fun pins s σ H Q I h => ?_⟩
  refine PySem.W.methodCall_KW (ld_glob I hg T.gA ?_) hc
  refine PySem.W.method_cls I.kIn T.ga (PySem.W.cls_value I.kIn T.rd T.fc (by decide +kernel) ?_)
  show wpAny _ _ (callWith pos (Value.builtin "ValueError.__init__") [] (backTo pos (starEach (e :: es) X.env)) []) _ _ _
  refine PyProof.Rows.callWith_method1 (thn (ha.run pos pins _ σ H _ (I.tok _) h) fun us s1 ⟨vs, H1, I1, r1, a, D, ws, ev, hl, T', ea, q⟩ => ?_) he hpl
  subst ev
  cases r1 with
  | @cons _ u0 _ ur ra rw' =>
    obtain rfl : u0 = Value.ref a := ra
    exact oinit_ok T' I1 ea (by rw [← Paired.length rw', sizeLine_eq]; omega) fun s' J => ⟨.non, H1, J, rfl, q⟩
end
/-- TooMany.__init__ -/
def spInit (K : PySem.W.Frag) (C : Addr) : Sp := fun vs H Q _ => ∃ (a : Addr) (v : V), vs = [.ref a, v] ∧ H a = some (exo a C none) ∧
  ∀ dx, H dx = none → dx ≠ a → Q .non (upd (upd H dx (exd dx [(("most" : Str), v)])) a (exo a C (some dx)))
/-- all that stood stands; the error's own dict d, new, holds most -/
def Raised (C : Addr) (H : Hp) (m : V) (cls : Value) (d : Option Addr) (H' : Hp) : Prop := cls = .ref C ∧ Same H H' ∧ ∃ dd, d = some dd ∧ H' dd = some (.xd [(("most" : Str), m)])
section
variable {X : Cx} {C0 C fI : Addr} {e : Expr} {te : TE} {p pos pos2 : Pos}
theorem mkO_of {C : Addr} {v : V} {H : Hp} {K : PySem.W.Frag} {Q : Value → Option Addr → Hp → Prop} (q : ∀ d H', Raised C H v (.ref C) (some d) H' → Q (.ref C) (some d) H') :
    [v].length ≤ 1000 ∧ ∀ a, H a = none → spInit K C (.ref a :: ([v] ++ [])) (upd H a (exo a C none)) (fun v H2 => v = .non ∧ ∃ (d : Addr) (fs : List (Str × V)), H2 a = some (exo a C (some d)) ∧ H2 d = some (exd d fs) ∧ H d = none ∧ Q (.ref C) (some d) (upd (del H2 a) d (.xd fs))) (fun _ _ _ => False) := by
  refine ⟨by show 1 ≤ 1000; decide, fun a na => ⟨a, v, rfl, upd_same, fun dx nd ne => ?_⟩⟩
  rw [upd_ne ne] at nd
  refine ⟨rfl, dx, [("most", v)], upd_same, by rw [upd_ne ne, upd_same], nd, q _ _ ⟨rfl, fun b o e => ?_, dx, rfl, upd_same⟩⟩
  have b1 : b ≠ a := ne_of_none e na
  have b2 : b ≠ dx := ne_of_none e nd
  rw [upd_ne b2]
  show (if b = a then none else _) = _
  rw [if_neg b1, upd_ne b1, upd_ne b2, upd_ne b1]
  exact e
/-- raise TooMany(e) -/
theorem ps_raiseTM {k : Nat} {fd : FuncData} {W : WX} (hc : X.calm = true) (T : ErrTxt X.K X.mg C0 C fI) (tk : Takes X W) (F1 : FnOk X.prog X.w X.K X.mg X.base CX0 k fI fd ["self", "most"] (spInit X.K C)) (hr : Room (k + 1) X.A) (hb : Binds X.K fd ["self", "most"] []) (hg : Gl X "TooMany") (he : PE X e te)
    (hs : starEach [e] X.env = (false, eval e X.env) :: starEach [] X.env := by rfl) : PS X (.Raise (some (.Call (.Name "TooMany" p) [e] [] pos)) none pos2) (fun _ σ H => tMkO C (spInit X.K C) [] (tCons te tNil) σ H fun cls d H' => W cls d σ H') :=
  ps_raise (pos := pos2) hc tk (pmk_oex (p := p) (pos := pos) T.ox T.iC T.tI F1 hr hb .nil (fun _ _ _ _ _ _ _ z => z.elim) hg T.gC (pa_cons he pa_nil hs) (by decide) hs (by rfl))
end
/-! ### its own __init__ -/
section
variable {P : Program} {w : World} {K : PySem.W.Frag} {mg : Str → Option Value} {base : Heap} {C0 C fI : Addr} {fd : FuncData}
abbrev sInit : Stmt := inClass (top 2) 0
theorem scInit : FnScope ["self", "most"] ["self", "most"] (defScope sInit) := ⟨rfl, rfl, rfl, by decide +kernel, rfl, by decide +kernel, by decide +kernel⟩
theorem ok_init (T : ErrTxt K mg C0 C fI) (F : Fun K "__init__" "TooMany.__init__" sInit fI fd) : FnOk P w K mg base CX0 1 fI fd ["self", "most"] (spInit K C) := by
  refine F.ok scInit (fun vs H Q E h => ?_) (fun cdv A outer s H vs Q E hr h => ?_)
  · obtain ⟨a, v, rfl, _⟩ := h
    rfl
  obtain ⟨a, v, rfl, ha, q⟩ := h
  refine ⟨_, pss_cons (ps_expr (pe_askinit T rfl (pa_cons (pv 0) (pa_cons (pv 1) pa_nil)))) (pss_one (ps_ost (pv 0) (pv 1))), ?_⟩
  refine ⟨_, rfl, _, rfl, a, C, [v], rfl, by show 1 ≤ 1000; decide, T.ox, ha, _, rfl, _, rfl, a, C, rfl, T.ox, T.no, .inl ⟨ha, fun dx nd ne => ?_⟩⟩
  exact q dx nd ne
end
end AH
end
section
set_option Elab.async false
set_option linter.all false
set_option maxRecDepth 100000
set_option maxHeartbeats 4000000
/-! Rules of my own, 6: a tuple times 0 or 1. -/
namespace AH
open PySem PySem.Spec PyProof.Rows L2
open PySem.AutoSeq1 (wpAny_loadPart')
theorem mul_one (l : Addr) (items : Array Value) (n : Nat) (dd : Option Addr) (sl : Array (Option Value)) (u : Tok) :
    Meets (Builtin.«tuple.__mul__» ⟨[.ref l, .int 1 u], []⟩) (fun _ R s => s.heap.get? l = some { cls := .type "tuple", dict := dd, data := .seq items n, slots := sl } ∧ R (.ok (.ret (Value.ref l))) { s with toks := s.toks }) :=
  .of_wp fun prog w A R s h => by
    obtain ⟨hp, g, d, tk, os⟩ := s
    obtain ⟨hl, h⟩ := h
    have f1 := AutoSeq1.idx_int
    have f2 := AutoSeq1.sub_tuple_tuple
    have c1 : (items.isEmpty || (1 : Int) == 1) = true := by simp
    wp_walk using wpAny_loadPart' hl
    repeat (first
      | (refine wpAny_ite_true (decide_eq_true c1) ?_; wp_walk using wpAny_loadPart' hl)
      | (refine wpAny_ite_false (decide_eq_false (by decide)) ?_; wp_walk using wpAny_loadPart' hl))
    exact ⟨_, rfl, h⟩
theorem mul_zero (l : Addr) (items : Array Value) (n : Nat) (dd : Option Addr) (sl : Array (Option Value)) (u : Tok) (hi : items.isEmpty = false) :
    Meets (Builtin.«tuple.__mul__» ⟨[.ref l, .int 0 u], []⟩) (fun _ R s => s.heap.get? l = some { cls := .type "tuple", dict := dd, data := .seq items n, slots := sl } ∧
      R (.ok (.ret (Value.ref s.heap.objs.size))) { s with heap := s.heap.push { cls := Value.type "tuple", data := Data.seq #[] }, toks := s.toks }) :=
  .of_wp fun prog w A R s h => by
    obtain ⟨hp, g, d, tk, os⟩ := s
    obtain ⟨hl, h⟩ := h
    have f1 := AutoSeq1.idx_int
    have f2 := AutoSeq1.sub_tuple_tuple
    have c1 : ¬ (items.isEmpty || (0 : Int) == 1) = true := by rw [hi]; decide
    have c2 : (decide ((0 : Int) ≤ 0) || items.isEmpty) = true := by simp
    wp_walk using wpAny_loadPart' hl
    repeat (first
      | (refine wpAny_ite_false (decide_eq_false c1) ?_; wp_walk using wpAny_loadPart' hl)
      | (refine wpAny_ite_true (decide_eq_true c2) ?_; wp_walk using wpAny_loadPart' hl)
      | (refine wpAny_ite_false (decide_eq_false (by decide)) ?_; wp_walk using wpAny_loadPart' hl))
    exact ⟨_, rfl, h⟩
/-- t * k, k = 0 or 1, t not empty -/
def rRep01 (K : PySem.W.Frag) : R2 := fun x y H Q => ∃ l k xs, x = .ref l ∧ y = .int k ∧ SqT K H l xs ∧ xs ≠ [] ∧ ((k = 1 ∧ Q (.ref l) H) ∨ (k = 0 ∧ ∀ p, H p = none → Q (.ref p) (upd H p (.tup []))))
section
variable {X : Cx}
theorem op_rep01 : OpR X (binaryOp .Mult) (rRep01 X.K) := by
  intro pins s σ H x y v u Q I rx ry h
  obtain ⟨l, k, xs, rfl, rfl, hT, hne, h⟩ := h
  cases rx
  obtain ⟨t, rfl⟩ := ry
  obtain ⟨its, r, ⟨⟨cls, dd, data, sl⟩, ho, hc, n, hd⟩, hs⟩ := I.tuple hT
  simp only at hc hd
  subst hc hd
  have hi : its.toArray.isEmpty = false := by
    cases r with
    | nil => exact absurd rfl hne
    | cons _ _ => rfl
  rcases h with ⟨rfl, q⟩ | ⟨rfl, q⟩
  · refine wpAny_binaryOp_repeat_ref (T := "tuple") (U := "int") (by decide) ⟨_, ho, rfl⟩ (fun s' => typeIs_int s' 1 t) noFill_tuple_mul F.fills_int_mul F.slot_int_rmul repeat_tuple F.slot_int_index.lookup
      (call_meets F.slot_int_rmul (typeIs_int s 1 t) F.entry_int_rmul (F.args_int_rmul_2 _ _) (int_rmul_tuple 1 t l its.toArray n dd sl) ⟨ho, rfl, ⟨_, ho, rfl⟩, call_meets F.slot_tuple_mul ⟨_, ho, rfl⟩ F.entry_tuple_mul (F.args_tuple_mul_2 _ _) (mul_one l its.toArray n dd sl t) ⟨ho, ?_⟩⟩)
    exact ⟨.ref l, H, I.tok _, rfl, q⟩
  · refine wpAny_binaryOp_repeat_ref (T := "tuple") (U := "int") (by decide) ⟨_, ho, rfl⟩ (fun s' => typeIs_int s' 0 t) noFill_tuple_mul F.fills_int_mul F.slot_int_rmul repeat_tuple F.slot_int_index.lookup
      (call_meets F.slot_int_rmul (typeIs_int s 0 t) F.entry_int_rmul (F.args_int_rmul_2 _ _) (int_rmul_tuple 0 t l its.toArray n dd sl) ⟨ho, rfl, ⟨_, ho, rfl⟩, call_meets F.slot_tuple_mul ⟨_, ho, rfl⟩ F.entry_tuple_mul (F.args_tuple_mul_2 _ _) (mul_zero l its.toArray n dd sl t hi) ⟨ho, ?_⟩⟩)
    refine ⟨.ref s.heap.objs.size, _, I.laid (t' := s.toks) (o := .tup []) (fun b ob e => Heap.get?_push_of_some _ e) (Nat.le_refl _) ?_, rfl, q _ (I.hok.fresh (Nat.le_refl _))⟩
    exact ⟨Nat.zero_le _, [], .nil, IsTup.new _ _⟩
end
end AH
end
section
set_option Elab.async false
set_option linter.all false
set_option maxRecDepth 100000
set_option maxHeartbeats 4000000
/-! The defs, 0: the text by places, a def with its promise, what stands in the heap. -/
namespace AH
open PySem PySem.Spec PyProof.Rows L2
/-! ### a def of the text, and a def with its promise -/
def Def (K : PySem.W.Frag) (mg : Str → Option Value) (x : Str) (st : Stmt) : Prop := ∃ f fd, Fun K x x st f fd ∧ mg x = some (.ref f)
def Kn (P : Program) (w : World) (K : PySem.W.Frag) (mg : Str → Option Value) (base : Heap) (CX : CXT) (x : Str) (ps : List Str) (k : Nat) (sp : Sp) : Prop :=
  ∃ f fd, mg x = some (.ref f) ∧ PySem.W.keepIn K (.ref f) = true ∧ Binds K fd ps [] ∧ FnOk P w K mg base CX k f fd ps sp
def KnG (P : Program) (w : World) (K : PySem.W.Frag) (mg : Str → Option Value) (base : Heap) (CX : CXT) (x : Str) (ps : List Str) (k : Nat) (sp : Sp) : Prop :=
  ∃ f fd, mg x = some (.ref f) ∧ PySem.W.keepIn K (.ref f) = true ∧ Binds K fd ps [] ∧ FnG P w K mg base CX k f fd ps sp
section
variable {X : Cx} {CX : CXT} {k : Nat} {ps : List Str} {sp : Sp} {E : XK} {x : Str} {p pos : Pos} {e : Expr} {es : List Expr} {t : TA}
theorem pe_kn (D : Kn X.prog X.w X.K X.mg X.base CX x ps k sp) (hr : Room k X.A) (hx : Passes CX X E) (ha : PA X (e :: es) t) (hg : Gl X x := by rfl)
    (hdb : (x == ("__debug__" : Str)) = false := by decide) (he : starEach (e :: es) X.env = (false, eval e X.env) :: starEach es X.env := by rfl) (hpl : (backTo pos (starEach es X.env)).any (·.1) = false := by rfl) :
    PE X (.Call (.Name x p) (e :: es) [] pos) (tCall sp [] E t) := by
  obtain ⟨f, fd, hm, hk, hb, F⟩ := D
  exact pe_call F hr hg hm hk hb .nil hx ha hdb he hpl
theorem pe_knG (D : KnG X.prog X.w X.K X.mg X.base CX x ps k sp) (hgd : X.A.guards = some []) (hr : Room k X.A) (hx : Passes CX X E) (ha : PA X (e :: es) t) (hg : Gl X x := by rfl)
    (hdb : (x == ("__debug__" : Str)) = false := by decide) (he : starEach (e :: es) X.env = (false, eval e X.env) :: starEach es X.env := by rfl) (hpl : (backTo pos (starEach es X.env)).any (·.1) = false := by rfl) :
    PE X (.Call (.Name x p) (e :: es) [] pos) (tCall sp [] E t) := by
  obtain ⟨f, fd, hm, hk, hb, F⟩ := D
  exact pe_callG hgd F hr hg hm hk hb .nil hx ha hdb he hpl
end
theorem passN {X : Cx} {CX : CXT} (h : ∀ o H s e s', ¬ CX o H s (fun _ _ _ => False) e s') : Passes CX X (fun _ _ _ => False) := fun _ _ _ _ _ _ _ z => (h _ _ _ _ _ z).elim

/-! ### heaps -/
theorem _root_.L2.Same.put {H H1 : Hp} {p : Addr} {o : HO} (h : Same H H1) (n : H p = none) : Same H (upd H1 p o) := fun b x e => by
  rw [upd_ne (ne_of_none e n)]
  exact h b x e
theorem _root_.L2.Same.new {H : Hp} {p : Addr} {o : HO} (n : H p = none) : Same H (upd H p o) := Same.put (Same.refl H) n
/-- all but what stands at p -/
def But (p : Addr) (H H' : Hp) : Prop := ∀ b o, b ≠ p → H b = some o → H' b = some o
theorem But.refl (p : Addr) (H : Hp) : But p H H := fun _ _ _ h => h
theorem But.trans {p : Addr} {H H1 H2 : Hp} (a : But p H H1) (b : But p H1 H2) : But p H H2 := fun c o n h => b c o n (a c o n h)
theorem But.of {p : Addr} {H H1 : Hp} (a : Same H H1) : But p H H1 := fun c o _ h => a c o h
theorem But.put {p : Addr} {H H1 : Hp} {o : HO} (a : But p H H1) : But p H (upd H1 p o) := fun c x n h => by
  rw [upd_ne n]
  exact a c x n h
theorem But.add {p q : Addr} {H H1 : Hp} {o : HO} (a : But p H H1) (n : H q = none) : But p H (upd H1 q o) := fun c x m h => by
  rw [upd_ne (ne_of_none h n)]
  exact a c x m h
/-- tuples stay where p holds none -/
theorem But.tx {p : Addr} {H H' : Hp} (a : But p H H') (n : ∀ xs, H p ≠ some (.tup xs)) : Tx H H' := fun b xs e => a b _ (fun z => n xs (z ▸ e)) e
theorem But.free {p : Addr} {H H' : Hp} (a : But p H H') (hp : H p ≠ none) {l : Addr} (h : H' l = none) (hp' : H' p ≠ none) : H l = none := by
  cases q : H l with
  | none => rfl
  | some o =>
    by_cases c : l = p
    · subst c
      exact absurd h hp'
    · rw [a l o c q] at h
      cases h
theorem _root_.L2.Same.tx {H H' : Hp} (h : Same H H') : Tx H H' := Tx.of h
theorem Tx.new {H : Hp} {p : Addr} {o : HO} (n : H p = none) : Tx H (upd H p o) := (Same.new n).tx
theorem Tx.put {H : Hp} {p : Addr} {o : HO} (n : ∀ xs, H p ≠ some (.tup xs)) : Tx H (upd H p o) := fun b xs e => by
  rw [upd_ne (fun z => n xs (by rw [← z]; exact e))]
  exact e
theorem TupN.sq {K : PySem.W.Frag} {H : Hp} {a : Addr} {ns : List Nat} (h : TupN H a ns) : SqT K H a (ns.map vN) := SqT.of h

/-! ### the web -/
def WebAt (H : Hp) (a : Addr) (W : Wb.Web) : Prop := ∃ g : Nat → Addr, H a = some (.tup ((List.range W.length).map fun i => .ref (g i))) ∧
  ∀ i, i < W.length → ∃ c, H (g i) = some (.tup [.ref c, vN (Wb.pri W i), vN (Wb.rea W i)]) ∧ TupN H c (Wb.cal W i)
theorem WebAt.tx {H H' : Hp} {a : Addr} {W : Wb.Web} (h : WebAt H a W) (e : Tx H H') : WebAt H' a W :=
  let ⟨g, h1, h2⟩ := h
  ⟨g, e _ _ h1, fun i hi => let ⟨c, q1, q2⟩ := h2 i hi; ⟨c, e _ _ q1, q2.tx e⟩⟩
theorem WebAt.get {K : PySem.W.Frag} {H : Hp} {a : Addr} {W : Wb.Web} (h : WebAt H a W) {u : Nat} (hu : u < W.length) :
    ∃ xs p c, SqT K H a xs ∧ xs.length = W.length ∧ atI xs (u : Int) = some (.ref p) ∧ SqT K H p [.ref c, vN (Wb.pri W u), vN (Wb.rea W u)] ∧ TupN H c (Wb.cal W u) := by
  obtain ⟨g, h1, h2⟩ := h
  obtain ⟨c, q1, q2⟩ := h2 u hu
  refine ⟨_, g u, c, SqT.of h1, by simp, atI_nat ?_, SqT.of q1, q2⟩
  rw [List.getElem?_map, List.getElem?_range hu]
  rfl
/-- u in the lot, as the language sees it -/
theorem inV_nat (x : Nat) (l : List Nat) : inV (vN x) (l.map vN) = decide (x ∈ l) := by
  unfold inV
  induction l with
  | nil => rfl
  | cons y l ih =>
    rw [List.map_cons, List.any_cons, ih]
    by_cases c : x = y
    · subst c
      have : eqV (vN x) (vN x) = true := by simp [eqV, vN]
      rw [this]
      simp
    · have : eqV (vN y) (vN x) = false := by
        simp [eqV, vN]
        omega
      rw [this, Bool.false_or]
      simp [c]
theorem flat_nat (l : List Nat) : (l.map vN).all flatV = true := by
  induction l with
  | nil => rfl
  | cons y l ih => rw [List.map_cons, List.all_cons, ih]; rfl

/-! ### lists of data against [] -/
def Dat (K : PySem.W.Frag) (H : Hp) (xs : List V) : Prop := ∃ ds, DpAll K H xs ds ∧ PyData.canLayAll0 ds = true ∧ PyData.depthAll ds ≤ 60
theorem shaped_lst {ds : List PyData} (h1 : PyData.canLayAll0 ds = true) (h2 : PyData.depthAll ds ≤ 60) : SeqAt.shaped (.list ds) = true := by
  unfold SeqAt.shaped
  rw [show PyData.canLay0 (.list ds) = PyData.canLayAll0 ds by simp [PyData.canLay0], h1]
  have : PyData.depth (.list ds) ≤ 64 := by
    rw [PyData.depth]
    omega
  simp [this]
theorem dat_ints (K : PySem.W.Frag) (H : Hp) (ns : List Int) : Dat K H (ns.map V.int) := by
  induction ns with
  | nil => exact ⟨[], .nil, rfl, by simp [PyData.depthAll]⟩
  | cons n ns ih =>
    obtain ⟨ds, h1, h2, h3⟩ := ih
    refine ⟨.int n :: ds, .cons (.int n) h1, by simp [PyData.canLayAll0, PyData.canLay0, h2], ?_⟩
    simp [PyData.depthAll, PyData.depth]
    omega
theorem dat_nats (K : PySem.W.Frag) (H : Hp) (ns : List Nat) : Dat K H (ns.map vN) := by
  have := dat_ints K H (ns.map fun n : Nat => (n : Int))
  rw [List.map_map] at this
  exact this
def natsD (ns : List Nat) : List PyData := ns.map fun n : Nat => .int n
theorem natsD_ok (ns : List Nat) : PyData.canLayAll0 (natsD ns) = true ∧ PyData.depthAll (natsD ns) = 0 := by
  induction ns with
  | nil => exact ⟨rfl, by simp [natsD, PyData.depthAll]⟩
  | cons n ns ih =>
    have e : natsD (n :: ns) = .int n :: natsD ns := rfl
    rw [e]
    refine ⟨by simp [PyData.canLayAll0, PyData.canLay0, ih.1], ?_⟩
    simp [PyData.depthAll, PyData.depth, ih.2]
theorem dp_nats (K : PySem.W.Frag) (H : Hp) (ns : List Nat) : DpAll K H (ns.map vN) (natsD ns) := by
  induction ns with
  | nil => exact .nil
  | cons n ns ih => exact .cons (.int _) ih
theorem dat_keys (K : PySem.W.Frag) (H : Hp) : ∀ (as : List Addr) (ks : List Wb.Key), Paired (KeyAt H) as ks → Dat K H (as.map V.ref)
  | _, _, .nil => ⟨[], .nil, rfl, by simp [PyData.depthAll]⟩
  | _, _, .cons (a := a) (b := k) ⟨c, h1, h2⟩ r => by
    obtain ⟨ds, q1, q2, q3⟩ := dat_keys K H _ _ r
    refine ⟨.tuple [.int k.1, .tuple (natsD k.2)] :: ds, .cons (.tup (SqT.of h1) (.cons (.int _) (.cons (.tup (SqT.of h2) (dp_nats K H _)) .nil))) q1, ?_, ?_⟩
    · simp [PyData.canLayAll0, PyData.canLay0, q2, (natsD_ok k.2).1]
    · simp [PyData.depthAll, PyData.depth, (natsD_ok k.2).2]
      omega
theorem eqv_nil (ds : List PyData) : PyData.eqv (.list ds) (.list []) = ds.isEmpty := by
  cases ds <;> simp [PyData.eqv, PyData.eqvAll]
theorem DpAll.emp {K : PySem.W.Frag} {H : Hp} {xs : List V} {ds : List PyData} (h : DpAll K H xs ds) : ds.isEmpty = xs.isEmpty := by cases h <;> rfl
section
variable {X : Cx}
def rNil (K : PySem.W.Frag) (neg : Bool) : R2 := fun x y H Q => ∃ p q xs, x = .ref p ∧ y = .ref q ∧ SqL K H p xs ∧ H q = some (.lst []) ∧ Dat K H xs ∧ Q (.bl (if neg then !xs.isEmpty else xs.isEmpty)) H
theorem op_neNil (hu : X.A.units + 64 < cLine) : OpR X (compareOp .NotEq) (rNil X.K true) := by
  intro pins s σ H x y v u Q I rx ry h
  obtain ⟨p, q, xs, rfl, rfl, h1, h2, ⟨ds, d1, d2, d3⟩, h3⟩ := h
  refine op_neD hu pins s σ H _ _ v u Q I rx ry ⟨.list ds, .list [], .lst h1 d1, .lst (SqL.of h2) .nil, shaped_lst d2 d3, shaped_lst rfl (by simp [PyData.depthAll]), ?_⟩
  rw [eqv_nil, DpAll.emp d1]
  exact h3
theorem op_eqNil (hu : X.A.units + 64 < cLine) : OpR X (compareOp .Eq) (rNil X.K false) := by
  intro pins s σ H x y v u Q I rx ry h
  obtain ⟨p, q, xs, rfl, rfl, h1, h2, ⟨ds, d1, d2, d3⟩, h3⟩ := h
  refine op_eqD hu pins s σ H _ _ v u Q I rx ry ⟨.list ds, .list [], .lst h1 d1, .lst (SqL.of h2) .nil, shaped_lst d2 d3, shaped_lst rfl (by simp [PyData.depthAll]), ?_⟩
  rw [eqv_nil, DpAll.emp d1]
  exact h3
end
/-! ### the text -/
abbrev sCome : Stmt := top 4
abbrev sBelow : Stmt := top 5
abbrev sOpen : Stmt := top 6
abbrev sWith : Stmt := top 7
abbrev sShadow : Stmt := top 8
abbrev sSettled : Stmt := top 9
abbrev sCheck : Stmt := top 12
abbrev sState : Stmt := top 13
abbrev sWrong : Stmt := top 14
abbrev sRight : Stmt := top 15
abbrev sBehind : Stmt := top 16
abbrev sShort : Stmt := top 17
abbrev sShorts : Stmt := top 18
abbrev sPriceBy : Stmt := top 19
abbrev sFull : Stmt := top 20
abbrev sPriceIn : Stmt := top 21
abbrev sLeast : Stmt := top 22
abbrev sPlanBy : Stmt := top 23
abbrev sLeastPlan : Stmt := top 24
abbrev lBag : Stmt := top 26
abbrev lTake : Stmt := top 27
abbrev lSome : Stmt := top 28
abbrev lAlike : Stmt := top 29
abbrev lLot : Stmt := top 30
abbrev lIsInt : Stmt := top 31
abbrev lWeb : Stmt := top 32
abbrev lBelow : Stmt := top 33
abbrev lOpen : Stmt := top 34
abbrev lShadow : Stmt := top 35
abbrev lSettled : Stmt := top 36
abbrev lKnown : Stmt := top 37
abbrev lState : Stmt := top 38
abbrev lPrice : Stmt := top 39
abbrev lIsPlan : Stmt := top 40
abbrev lPlanPrice : Stmt := top 41
abbrev lPlan : Stmt := top 42
abbrev lHalves : Stmt := top 43
abbrev lHeard : Stmt := top 44
abbrev lLaw : Stmt := top 45
theorem scCome : FnScope ["web", "known", "u", "found", "line", "x"] ["web", "known", "u"] (defScope sCome) := ⟨rfl, rfl, rfl, by decide +kernel, rfl, by decide +kernel, by decide +kernel⟩
end AH
end
section
set_option Elab.async false
set_option linter.all false
set_option maxRecDepth 100000
set_option maxHeartbeats 4000000
/-! The defs, 1: come_to. -/
namespace AH
open PySem PySem.Spec PyProof.Rows L2
section
variable {P : Program} {w : World} {K : PySem.W.Frag} {mg : Str → Option Value} {base : Heap}
def spCome (K : PySem.W.Frag) : Sp := fun vs H Q _ => ∃ (a b : Addr) (W : Wb.Web) (S : List Nat) (u : Nat), vs = [.ref a, .ref b, vN u] ∧ WebAt H a W ∧ Wb.Wf W ∧ TupN H b S ∧ u < W.length ∧
  ∀ p H', Same H H' → TupN H' p (Wb.opn W (Wb.okK S) u) → Q (.ref p) H'
def kvF (F : List Nat) : List (L2.Key × V) := F.map fun x : Nat => (Sum.inl (x : Int), .bl true)
theorem kvF_val (F : List Nat) (x : Nat) : (valV (kvF F) (Sum.inl (x : Int))).isSome = decide (x ∈ F) := by
  induction F with
  | nil => rfl
  | cons y F ih =>
    by_cases c : y = x
    · subst c
      have : valV (kvF (y :: F)) (Sum.inl (y : Int)) = some (.bl true) := valV_pos (p := (Sum.inl (y : Int), V.bl true)) rfl
      rw [this]
      simp
    · have : valV (kvF (y :: F)) (Sum.inl (x : Int)) = valV (kvF F) (Sum.inl (x : Int)) := valV_neg (p := (Sum.inl (y : Int), V.bl true)) (fun z => c (by have := Sum.inl.inj z; omega))
      rw [this, ih]
      have c' : ¬ x = y := fun z => c z.symm
      simp [c']
theorem kvF_put {F : List Nat} {x : Nat} (h : x ∉ F) : putK (kvF F) (Sum.inl (x : Int)) (.bl true) = kvF (F ++ [x]) := by
  unfold putK
  rw [valV_any, kvF_val, decide_eq_false h]
  rw [if_neg Bool.false_ne_true]
  unfold kvF
  rw [List.map_append]
  rfl
theorem nodup_put {F : List Nat} : (kvF F).map (·.1) = (F.map fun x : Nat => (x : Int)).map Sum.inl := by
  unfold kvF
  rw [List.map_map, List.map_map]
  rfl
/-- a sorted arrangement of ints that are naturals -/
theorem ints_nats : ∀ {ys : List Int} {F : List Nat}, ys.Perm (F.map fun x : Nat => (x : Int)) → ∃ G : List Nat, ys = G.map (fun x : Nat => (x : Int)) ∧ G.Perm F := by
  intro ys F h
  refine ⟨ys.map Int.toNat, ?_, ?_⟩
  · rw [List.map_map]
    have : ∀ y ∈ ys, ((fun x : Nat => (x : Int)) ∘ Int.toNat) y = y := fun y hy => by
      obtain ⟨x, _, rfl⟩ := List.mem_map.mp (h.mem_iff.mp hy)
      rfl
    rw [List.map_congr_left this]
    simp
  · have := h.map Int.toNat
    rw [List.map_map] at this
    have e : (Int.toNat ∘ fun x : Nat => (x : Int)) = id := rfl
    rw [e, List.map_id] at this
    exact this
theorem sorted_nats {G : List Nat} (h : (G.map fun x : Nat => (x : Int)).Pairwise (· ≤ ·)) : G.Pairwise (· ≤ ·) := by
  rw [List.pairwise_map] at h
  exact h.imp fun q => by omega
theorem last_nat (L : List Nat) (x : Nat) : ((L ++ [x]).map vN)[((L ++ [x]).map vN).length - 1]? = some (vN x) := by
  rw [List.length_map, List.map_append, List.length_append]
  simp
theorem drop_nat (L : List Nat) (x : Nat) : ((L ++ [x]).map vN).dropLast = L.map vN := by
  rw [List.map_append]
  simp
theorem snoc_cases (L : List α) (h : L.isEmpty = false) : ∃ M x, L = M ++ [x] := by
  cases L with
  | nil => cases h
  | cons a l => exact ⟨_, _, (List.dropLast_concat_getLast (List.cons_ne_nil a l)).symm⟩
theorem isEmpty_map (L : List α) (f : α → β) : (L.map f).isEmpty = L.isEmpty := by cases L <;> rfl

theorem kn_come {k : Nat} (D : Def K mg "come_to" sCome) (ml : mg "list" = none) (mt : mg "tuple" = none) (ms : mg "sorted" = none) : Kn P w K mg base CX0 "come_to" ["web", "known", "u"] (k + 1) (spCome K) := by
  obtain ⟨f, fd, F, hm⟩ := D
  refine ⟨f, fd, hm, F.kp, F.binds fun _ _ _ _ _ _ us hl => match us, hl with | [_, _, _], _ => rfl, F.ok scCome (fun vs H Q E h => ?_) (fun cdv A outer s H vs Q E hr h => ?_)⟩
  · obtain ⟨a, b, W, S, u, rfl, _⟩ := h
    rfl
  obtain ⟨a, b, W, S, u, rfl, hW, wf, hS, hu, q⟩ := h
  refine ⟨_, pss_cons (ps_par (i := 3) (j := 4) (by rfl) scCome.nd rfl rfl (by decide) rfl rfl (pa_cons pe_dnewK (pa_cons (pe_callTy call_list_of (by rfl) ml (by decide +kernel) (pa_cons (pe_ix ix_tup (pe_ix ix_tup (pv 0) (pv 2) (fun _ _ => rfl)) pe_int (fun _ _ => rfl)) pa_nil)) pa_nil)) (by rfl))
    (pss_cons (ps_while PassesOwn.never (pt_cmpR (op_neNil hr.units) (pv 4) (pe_lst pa_nil) (nomark _))
      (pss_cons (ps_set (i := 5) scCome.nd rfl (.inl rfl) (pe_bm0 PySem.F.plainAttrs_list PySem.F.slot_list_pop PySem.F.type_list_pop mt_pop (pv 4)))
        (pss_one (ps_if (PW.pt (pw_and (pt_cmpR op_notIn_seq (pv 5) (pv 1) (by rfl)) (pw_and1 (pt_cmp (pc_dnotin (hu_of hr) (pv 5) (pv 3))))))
          (pss_cons (ps_dput (hu_of hr) (pv 3) (pv 5) pe_bl rfl)
            (pss_one (ps_expr (pe_bm PySem.F.plainAttrs_list PySem.F.slot_list_extend PySem.F.type_list_extend mt_extT (pv 4) (pa_cons (pe_ix ix_tup (pe_ix ix_tup (pv 0) (pv 5) (fun _ _ => rfl)) pe_int (fun _ _ => rfl)) pa_nil)))))
          pss_nil))))
    (pss_one (ps_ret (pe_callTy call_tuple_of (by rfl) mt (by decide +kernel) (pa_cons (pe_callB (call_sortedDI rfl) (by rfl) ms (by decide +kernel) (pa_cons (pv 3) pa_nil)) pa_nil))))), ?_⟩
  refine fun d nd => ?_
  obtain ⟨xs, p, c, w1, wl, w2, w3, w4⟩ := (hW.tx (Tx.new (o := .dK []) nd)).get (K := K) hu
  refine ⟨_, rfl, _, rfl, _, _, _, _, rfl, rfl, w1, w2, _, _, _, _, rfl, rfl, w3, atI_nat (j := 0) rfl, ?_⟩
  refine ⟨_, _, rfl, .inr w4.sq, fun l nl => ⟨_, _, rfl, ?_⟩⟩
  have hl0 : H l = none := (Same.new nd).free nl
  have hdl : d ≠ l := fun z => by rw [← z, upd_same] at nl; cases nl
  have fr : ∀ x ∈ Wb.cal W u, Wb.okK S x → x ∈ Wb.cal W u := fun _ h _ => h
  have d0 : Wb.dms W [] (Wb.cal W u) ≤ 200 := by
    have := wf.len
    have := wf.few u
    unfold Wb.dms
    rw [List.length_nil]
    omega
  refine ⟨fun m σ H3 => ∃ F L y, σ = [some (.ref a), some (.ref b), some (vN u), some (.ref d), some (.ref l), y] ∧ Same H H3 ∧ H3 d = some (.dK (kvF F)) ∧ H3 l = some (.lst (L.map vN)) ∧ Wb.Dfs W (Wb.okK S) u F L ∧ Wb.dms W F L ≤ 200 ∧ m = Wb.dms W F L,
    ⟨_, [], Wb.cal W u, none, rfl, (Same.new nd).put hl0, ?_, upd_same, Wb.Dfs.start fr (fun _ h => h), d0, rfl⟩, fun m σ H3 hI => ?_⟩
  · rw [upd_ne hdl, upd_same]
    rfl
  obtain ⟨F, L, y, rfl, sm, hd, hl, df, dl, rfl⟩ := hI
  refine ⟨_, rfl, Nat.zero_le _, fun e ne => ⟨l, e, L.map vN, rfl, rfl, .inl (.inl ?_), upd_same, dat_nats _ _ _, _, rfl, ?_⟩⟩
  · rw [upd_ne (ne_of_none hl ne)]
    exact hl
  have sm4 : Same H (upd H3 e (.lst [])) := sm.put (sm.free ne)
  have hd4 : upd H3 e (.lst []) d = some (.dK (kvF F)) := by rw [upd_ne (ne_of_none hd ne)]; exact hd
  have hl4 : upd H3 e (.lst []) l = some (.lst (L.map vN)) := by rw [upd_ne (ne_of_none hl ne)]; exact hl
  revert sm4 hd4 hl4
  generalize upd H3 e (.lst []) = H4
  intro sm4 hd4 hl4
  cases hL : L.isEmpty with
  | true =>
    rw [isEmpty_map, hL]
    obtain rfl : L = [] := by cases L with | nil => rfl | cons _ _ => cases hL
    refine iteF ⟨_, rfl, d, kvF F, F.map fun x : Nat => (x : Int), rfl, .inl hd4, nodup_put, ?_, fun ys p perm asc np => ?_⟩
    · rw [List.length_map]
      have := df.few wf
      have := wf.len
      omega
    obtain ⟨G, rfl, pg⟩ := ints_nats perm
    refine ⟨p, _, rfl, .inl ⟨SqL.of upd_same, fun t nt => ?_⟩⟩
    have s5 : Same H (upd H4 p (.lst ((G.map fun x : Nat => (x : Int)).map V.int))) := sm4.put (sm4.free np)
    refine q t _ (s5.put (s5.free nt)) ?_
    show upd _ t _ t = _
    rw [upd_same, ← df.sorted wf pg (sorted_nats asc), List.map_map]
    rfl
  | false =>
    obtain ⟨M, x, rfl⟩ := snoc_cases L hL
    rw [isEmpty_map, hL]
    refine iteT ⟨_, fun σ' H' h' => h', ?_⟩
    -- x = line.pop()
    refine ⟨_, rfl, .inl ⟨rfl, _, SqL.of hl4⟩, l, _, vN x, rfl, rfl, hl4, last_nat M x, ?_⟩
    rw [drop_nat]
    have s5 : Same H (upd H4 l (.lst (M.map vN))) := sm4.put hl0
    have hd5 : upd H4 l (.lst (M.map vN)) d = some (.dK (kvF F)) := by rw [upd_ne hdl]; exact hd4
    have hl5 : upd H4 l (.lst (M.map vN)) l = some (.lst (M.map vN)) := upd_same
    revert s5 hd5 hl5
    generalize upd H4 l (.lst (M.map vN)) = H5
    intro s5 hd5 hl5
    refine ⟨_, rfl, _, rfl, b, _, rfl, .inr (hS.tx s5.tx).sq, rfl, flat_nat S, _, rfl, ?_⟩
    rw [inV_nat]
    by_cases c1 : x ∈ S
    · rw [decide_eq_true c1]
      exact iteF (iteF ⟨_, Wb.dms_skip, F, M, _, rfl, s5, hd5, hl5, df.skip (.inl fun z => z c1), Nat.le_trans (Nat.le_of_lt Wb.dms_skip) dl, rfl⟩)
    · rw [decide_eq_false c1]
      refine iteT ?_
      refine ⟨_, rfl, _, rfl, d, _, rfl, DGet.k (k := Sum.inl (x : Int)) hd5, _, rfl, ?_⟩
      rw [kvF_val]
      by_cases c2 : x ∈ F
      · rw [decide_eq_true c2]
        exact iteF ⟨_, Wb.dms_skip, F, M, _, rfl, s5, hd5, hl5, df.skip (.inr c2), Nat.le_trans (Nat.le_of_lt Wb.dms_skip) dl, rfl⟩
      · rw [decide_eq_false c2]
        refine iteT ?_
        have hx : x < W.length := (df.cnd x (by simp) c1).inW wf
        have df' : Wb.Dfs W (Wb.okK S) u (F ++ [x]) (M ++ Wb.cal W x) := df.add c1 c2 (fun _ h _ => h) fun _ h => h
        have few := df'.few wf
        have dm : Wb.dms W (F ++ [x]) (M ++ Wb.cal W x) < Wb.dms W F (M ++ [x]) := Wb.dms_add wf few (wf.few x)
        have dl' := Wb.dms_line (W := W) (F := F ++ [x]) (L := M ++ Wb.cal W x) wf
        rw [List.length_append] at dl'
        have fl := df.few wf
        have w12 := wf.len
        -- found[x] = True
        refine ⟨_, rfl, _, rfl, d, _, rfl, DPut.k (k := Sum.inl (x : Int)) hd5 (by unfold kvF; rw [List.length_map]; exact small1000 (by omega)), ?_⟩
        rw [kvF_put c2]
        have s6 : Same H (upd H5 d (.dK (kvF (F ++ [x])))) := s5.put nd
        have hd6 : upd H5 d (.dK (kvF (F ++ [x]))) d = some (.dK (kvF (F ++ [x]))) := upd_same
        have hl6 : upd H5 d (.dK (kvF (F ++ [x]))) l = some (.lst (M.map vN)) := by rw [upd_ne hdl.symm]; exact hl5
        revert s6 hd6 hl6
        generalize upd H5 d (.dK (kvF (F ++ [x]))) = H6
        intro s6 hd6 hl6
        -- line.extend(web[x][0])
        obtain ⟨xs, p, c, w1, wl, w2, w3, w4⟩ := (hW.tx s6.tx).get (K := K) hx
        refine ⟨_, rfl, .inl ⟨rfl, _, SqL.of hl6⟩, _, rfl, _, rfl, _, _, _, _, rfl, rfl, w1, w2, _, _, _, _, rfl, rfl, w3, atI_nat (j := 0) rfl, l, c, _, _, rfl, rfl, hl6, w4.sq, ?_, ?_⟩
        · rw [List.length_map, List.length_map]
          exact Nat.le_of_lt (small1000 (by omega))
        refine ⟨_, dm, F ++ [x], M ++ Wb.cal W x, _, rfl, s6.put hl0, ?_, ?_, df', Nat.le_trans (Nat.le_of_lt dm) dl, rfl⟩
        · rw [upd_ne hdl]
          exact hd6
        · rw [upd_same, List.map_append]
end
end AH
end
section
set_option Elab.async false
set_option linter.all false
set_option maxRecDepth 100000
set_option maxHeartbeats 4000000
/-! The defs, 2: below, open_below, shadow, is_settled. -/
namespace AH
open PySem PySem.Spec PyProof.Rows L2
/-- [x for x in a tuple of nodes if p x] -/
theorem lc_filt {K : PySem.W.Frag} {a : Addr} {ns : List Nat} {p : Nat → Bool} {g : TG} {tt : TT} {te : TE} {vs : List Nat} {σ : L2.St} {H1 : Hp} {D : Addr} {Qd : Hp → Prop} (hT : TupN H1 a ns) (nD : H1 D = none) (hl : ns.length ≤ 1000)
    (hs : ∀ x ∈ ns, ∀ H (Nx : Hp → Prop), Same H1 H → (if p x = true then ∃ acc, H D = some (.lst acc) ∧ acc.length < sizeLine ∧ Nx (upd H D (.lst (acc ++ [vN x]))) else Nx H) →
      g (vN x) (wipe σ vs) H fun σ2 H2 => wipe σ2 vs = wipe σ vs ∧ tt σ2 H2 fun b H3 => if b = true then te σ2 H3 fun y H4 => ∃ acc, H4 D = some (.lst acc) ∧ acc.length < sizeLine ∧ Nx (upd H4 D (.lst (acc ++ [y]))) else Nx H3)
    (hd : ∀ H, Same H1 H → H D = some (.lst ((ns.filter p).map vN)) → Qd H) :
    ∃ W : Nat → Nat → Hp → Prop, (∃ m, W 0 m (upd H1 D (.lst []))) ∧ ∀ i m H, W i m H →
      ((Itt K a).stop i H ∧ Qd H) ∨ ((Itt K a).go i H ∧ ∃ Nx : Hp → Prop, (∀ H', Nx H' → ∃ m', m' < m ∧ W (i + 1) m' H') ∧ ∀ x H', (Itt K a).yld i H x H' → g x (wipe σ vs) H' fun σ2 H2 => wipe σ2 vs = wipe σ vs ∧ tt σ2 H2 fun b H3 =>
        if b = true then te σ2 H3 fun y H4 => ∃ acc, H4 D = some (.lst acc) ∧ acc.length < sizeLine ∧ Nx (upd H4 D (.lst (acc ++ [y]))) else Nx H3) := by
  refine lc_tup (xs := ns.map vN) (fun i H => Same H1 H ∧ H D = some (.lst (((ns.take i).filter p).map vN))) ⟨Same.new nD, upd_same⟩ (fun i H _ h => (hT.tx h.1.tx).sq) (fun i x H hx h => ?_) fun H h => hd H h.1 (by rw [h.2, List.length_map, List.take_length])
  rw [List.getElem?_map] at hx
  obtain ⟨n, hn, rfl⟩ := Option.map_eq_some_iff.mp hx
  have e : ns.take (i + 1) = ns.take i ++ [n] := by rw [List.take_add_one, hn]; rfl
  have lt : ((ns.take i).filter p).length ≤ 1000 := Nat.le_trans (List.length_filter_le _ _) (by rw [List.length_take]; omega)
  refine hs n (List.mem_of_getElem? hn) H _ h.1 ?_
  rw [e, List.filter_append]
  cases hp : p n with
  | true =>
    rw [if_pos rfl]
    refine ⟨_, h.2, by rw [List.length_map]; exact small1000 lt, h.1.put nD, ?_⟩
    rw [upd_same, List.map_append, List.filter_cons_of_pos hp]
    rfl
  | false =>
    rw [if_neg Bool.false_ne_true]
    refine ⟨h.1, ?_⟩
    rw [List.filter_cons_of_neg (by rw [hp]; exact Bool.false_ne_true), List.filter_nil, List.append_nil]
    exact h.2
section
variable {P : Program} {w : World} {K : PySem.W.Frag} {mg : Str → Option Value} {base : Heap}
/-! ### below, open_below -/
theorem scBelow : FnScope ["web", "u"] ["web", "u"] (defScope sBelow) := ⟨rfl, rfl, rfl, by decide +kernel, rfl, by decide +kernel, by decide +kernel⟩
theorem scOpen : FnScope ["web", "known", "u"] ["web", "known", "u"] (defScope sOpen) := ⟨rfl, rfl, rfl, by decide +kernel, rfl, by decide +kernel, by decide +kernel⟩
def spBelow : Sp := fun vs H Q _ => ∃ (a : Addr) (W : Wb.Web) (u : Nat), vs = [.ref a, vN u] ∧ WebAt H a W ∧ Wb.Wf W ∧ u < W.length ∧
  ∀ p H', Same H H' → TupN H' p (Wb.opn W (Wb.okK []) u) → Q (.ref p) H'
theorem kn_below {k : Nat} (D : Def K mg "below" sBelow) (G : Kn P w K mg base CX0 "come_to" ["web", "known", "u"] k (spCome K)) : Kn P w K mg base CX0 "below" ["web", "u"] (k + 1) spBelow := by
  obtain ⟨f, fd, F, hm⟩ := D
  refine ⟨f, fd, hm, F.kp, F.binds fun _ _ _ _ _ _ us hl => match us, hl with | [_, _], _ => rfl, F.ok scBelow (fun vs H Q E h => ?_) (fun cdv A outer s H vs Q E hr h => ?_)⟩
  · obtain ⟨a, W, u, rfl, _⟩ := h
    rfl
  obtain ⟨a, W, u, rfl, hW, wf, hu, q⟩ := h
  refine ⟨_, pss_one (ps_ret (pe_kn G hr pass0 (pa_cons (pv 0) (pa_cons (pe_tup pa_nil) (pa_cons (pv 1) pa_nil))))), ?_⟩
  refine ⟨_, rfl, Nat.zero_le _, fun t nt => ⟨_, rfl, a, t, W, [], u, rfl, hW.tx (Tx.new nt), wf, upd_same, hu, fun p H' sm hp => q p H' ((Same.new nt).trans sm) hp⟩⟩
theorem kn_open {k : Nat} (D : Def K mg "open_below" sOpen) (G : Kn P w K mg base CX0 "come_to" ["web", "known", "u"] k (spCome K)) : Kn P w K mg base CX0 "open_below" ["web", "known", "u"] (k + 1) (spCome K) := by
  obtain ⟨f, fd, F, hm⟩ := D
  refine ⟨f, fd, hm, F.kp, F.binds fun _ _ _ _ _ _ us hl => match us, hl with | [_, _, _], _ => rfl, F.ok scOpen (fun vs H Q E h => ?_) (fun cdv A outer s H vs Q E hr h => ?_)⟩
  · obtain ⟨a, b, W, S, u, rfl, _⟩ := h
    rfl
  obtain ⟨a, b, W, S, u, rfl, hW, wf, hS, hu, q⟩ := h
  refine ⟨_, pss_one (ps_ret (pe_kn G hr pass0 (pa_cons (pv 0) (pa_cons (pv 1) (pa_cons (pv 2) pa_nil))))), ?_⟩
  exact ⟨_, rfl, _, rfl, _, rfl, a, b, W, S, u, rfl, hW, wf, hS, hu, q⟩
/-! ### shadow -/
theorem scShadow : FnScope ["web", "known", "u", "its", "node"] ["web", "known", "u"] (defScope sShadow) := ⟨rfl, rfl, rfl, by decide +kernel, rfl, by decide +kernel, by decide +kernel⟩
def spShadow : Sp := fun vs H Q _ => ∃ (a b : Addr) (W : Wb.Web) (S : List Nat) (u : Nat), vs = [.ref a, .ref b, vN u] ∧ WebAt H a W ∧ Wb.Wf W ∧ TupN H b S ∧ S.length ≤ 1000 ∧ u < W.length ∧
  ∀ p H', Same H H' → TupN H' p (Wb.shd W S u) → Q (.ref p) H'
theorem kn_shadow {k : Nat} (D : Def K mg "shadow" sShadow) (mt : mg "tuple" = none) (G : Kn P w K mg base CX0 "below" ["web", "u"] k spBelow) : Kn P w K mg base CX0 "shadow" ["web", "known", "u"] (k + 1) spShadow := by
  obtain ⟨f, fd, F, hm⟩ := D
  refine ⟨f, fd, hm, F.kp, F.binds fun _ _ _ _ _ _ us hl => match us, hl with | [_, _, _], _ => rfl, F.ok scShadow (fun vs H Q E h => ?_) (fun cdv A outer s H vs Q E hr h => ?_)⟩
  · obtain ⟨a, b, W, S, u, rfl, _⟩ := h
    rfl
  obtain ⟨a, b, W, S, u, rfl, hW, wf, hS, hSl, hu, q⟩ := h
  refine ⟨_, pss_cons (ps_set (i := 3) scShadow.nd rfl (.inr rfl) (pe_kn G hr pass0 (pa_cons (pv 0) (pa_cons (pv 2) pa_nil))))
    (pss_one (ps_ret (pe_callTy call_tuple_of (by rfl) mt (by decide +kernel) (pa_cons
      (pe_lc (own := [("node", 4)]) (g := gName 4) (by rfl) scShadow.nd (pi_tup (pv 1)) (blkOk_by (N := ["web", "known", "u", "its", "node"]) (sc := defScope sShadow) (by decide +kernel)) (fun _ _ _ _ _ => pg_name (i := 4) scShadow.nd rfl (.inl rfl))
        (fun _ _ _ _ _ => pts_one (pt_cmpR (show OpR _ _ (rIn K false) from op_in_seq) (pv 4) (pv 3) (by rfl))) (fun _ _ _ _ _ => pv 4)) pa_nil)))), ?_⟩
  refine ⟨_, rfl, _, rfl, a, W, u, rfl, hW, wf, hu, fun p H1 sm hp => ?_⟩
  refine ⟨_, rfl, b, rfl, ⟨_, (hS.tx sm.tx).sq⟩, fun L nL => ?_⟩
  refine lc_filt (hS.tx sm.tx) nL hSl (fun x hx H2 Nx s2 h => ?_) (fun H2 s2 hL => ?_) (p := fun x => decide (x ∈ Wb.opn W (Wb.okK []) u))
  · refine ⟨rfl, _, rfl, _, rfl, p, _, rfl, .inr (hp.tx s2.tx).sq, rfl, flat_nat _, _, rfl, ?_⟩
    rw [inV_nat]
    by_cases c : x ∈ Wb.opn W (Wb.okK []) u
    · rw [decide_eq_true c] at h ⊢
      exact iteT ⟨_, rfl, h⟩
    · rw [decide_eq_false c] at h ⊢
      exact iteF h
  · refine ⟨L, _, rfl, .inl ⟨SqL.of hL, fun t nt => q t _ ((sm.trans s2).put ((sm.trans s2).free nt)) upd_same⟩⟩
/-! ### is_settled -/
theorem scSettled : FnScope ["web", "known", "u", "callee"] ["web", "known", "u"] (defScope sSettled) := ⟨rfl, rfl, rfl, by decide +kernel, rfl, by decide +kernel, by decide +kernel⟩
def spSettled : Sp := fun vs H Q _ => ∃ (a b : Addr) (W : Wb.Web) (S : List Nat) (u : Nat), vs = [.ref a, .ref b, vN u] ∧ WebAt H a W ∧ Wb.Wf W ∧ TupN H b S ∧ u < W.length ∧
  ∀ k H', Same H H' → (k = true ↔ Wb.opn W (Wb.okK S) u = []) → Q (.bl k) H'
theorem all_in {W : Wb.Web} (wf : Wb.Wf W) (S : List Nat) (u : Nat) : ((Wb.cal W u).map fun x => decide (x ∈ S)).all id = true ↔ Wb.opn W (Wb.okK S) u = [] := by
  rw [← Wb.settled_iff wf, List.all_eq_true]
  constructor
  · intro h y hy
    have := h _ (List.mem_map.mpr ⟨y, hy, rfl⟩)
    exact fun z => z (of_decide_eq_true this)
  · intro h b hb
    obtain ⟨y, hy, rfl⟩ := List.mem_map.mp hb
    exact decide_eq_true (Decidable.not_not.mp (h y hy))
theorem kn_settled {k : Nat} (D : Def K mg "is_settled" sSettled) (ma : mg "all" = none) : Kn P w K mg base CX0 "is_settled" ["web", "known", "u"] (k + 1) spSettled := by
  obtain ⟨f, fd, F, hm⟩ := D
  refine ⟨f, fd, hm, F.kp, F.binds fun _ _ _ _ _ _ us hl => match us, hl with | [_, _, _], _ => rfl, F.ok scSettled (fun vs H Q E h => ?_) (fun cdv A outer s H vs Q E hr h => ?_)⟩
  · obtain ⟨a, b, W, S, u, rfl, _⟩ := h
    rfl
  obtain ⟨a, b, W, S, u, rfl, hW, wf, hS, hu, q⟩ := h
  refine ⟨_, pss_one (ps_ret (pe_callB (cr_all rfl) (by rfl) ma (by decide +kernel) (pa_cons
      (pe_lc (own := [("callee", 3)]) (g := gName 3) (tt := tYes) (by rfl) scSettled.nd (pi_tup (pe_ix ix_tup (pe_ix ix_tup (pv 0) (pv 2) (fun _ _ => rfl)) pe_int (fun _ _ => rfl))) (blkOk_by (N := ["web", "known", "u", "callee"]) (sc := defScope sSettled) (by decide +kernel)) (fun _ _ _ _ _ => pg_name (i := 3) scSettled.nd rfl (.inl rfl))
        (fun _ _ _ _ _ => pts_nil) (fun _ _ _ _ _ => pe_cmpR (show OpR _ _ (rIn K false) from op_in_seq) (pv 3) (pv 1) (by rfl))) pa_nil))), ?_⟩
  obtain ⟨xs, p, c, w1, wl, w2, w3, w4⟩ := hW.get (K := K) hu
  refine ⟨_, rfl, _, rfl, _, _, _, _, rfl, rfl, w1, w2, _, _, _, _, rfl, rfl, w3, atI_nat (j := 0) rfl, c, rfl, ⟨_, w4.sq⟩, fun L nL => ?_⟩
  refine lc_tup (xs := (Wb.cal W u).map vN) (fun i H2 => Same H H2 ∧ H2 L = some (.lst ((((Wb.cal W u).take i).map fun x => decide (x ∈ S)).map V.bl))) ⟨Same.new nL, upd_same⟩ (fun i H2 _ h => (w4.tx h.1.tx).sq) (fun i x H2 hx h => ?_) fun H2 h => ?_
  · rw [List.getElem?_map] at hx
    obtain ⟨n, hn, rfl⟩ := Option.map_eq_some_iff.mp hx
    refine ⟨rfl, ?_⟩
    refine ⟨_, rfl, _, rfl, b, _, rfl, .inr (hS.tx h.1.tx).sq, rfl, flat_nat _, _, h.2, ?_, h.1.put nL, ?_⟩
    · rw [List.length_map, List.length_map, List.length_take]
      have := wf.few u
      exact small1000 (by omega)
    · rw [upd_same, List.take_add_one, hn]
      rw [List.map_append, List.map_append]
      show _ = some (HO.lst (_ ++ [V.bl (decide (n ∈ S))]))
      rw [← inV_nat]
      rfl
  · refine ⟨L, _, rfl, SqL.of h.2, q _ _ h.1 ?_⟩
    rw [List.take_of_length_le (by rw [List.length_map]; exact Nat.le_refl _)]
    exact all_in wf S u
end
end AH
end
section
set_option Elab.async false
set_option linter.all false
set_option maxRecDepth 100000
set_option maxHeartbeats 4000000
/-! The defs, 3: with_known, state_of, after_wrong, after_right. -/
namespace AH
open PySem PySem.Spec PyProof.Rows L2
/-- the dict {x: True, ..} with x stored again -/
theorem kvF_put' (F : List Nat) (x : Nat) : putK (kvF F) (Sum.inl (x : Int)) (.bl true) = kvF (if x ∈ F then F else F ++ [x]) := by
  by_cases c : x ∈ F
  · rw [if_pos c]
    unfold putK
    rw [valV_any, kvF_val, decide_eq_true c, if_pos rfl]
    unfold kvF
    rw [List.map_map]
    refine List.map_congr_left fun y _ => ?_
    show (if (Sum.inl (y : Int) : L2.Key) = Sum.inl (x : Int) then ((Sum.inl (y : Int) : L2.Key), V.bl true) else (Sum.inl (y : Int), V.bl true)) = _
    split <;> rfl
  · rw [if_neg c]
    exact kvF_put c
def addN (F : List Nat) (x : Nat) : List Nat := if x ∈ F then F else F ++ [x]
theorem addN_nd {F : List Nat} (h : F.Nodup) (x : Nat) : (addN F x).Nodup := by
  unfold addN
  split
  · exact h
  · rename_i c
    exact List.nodup_append.mpr ⟨h, List.nodup_cons.mpr ⟨List.not_mem_nil, List.nodup_nil⟩, fun a ha b hb => by
      have : b = x := by simpa using hb
      subst this
      exact fun z => c (z ▸ ha)⟩
theorem addN_mem {F : List Nat} {x y : Nat} : y ∈ addN F x ↔ y ∈ F ∨ y = x := by
  unfold addN
  split
  · rename_i c
    exact ⟨.inl, fun h => h.elim id fun e => e ▸ c⟩
  · simp
theorem addN_len (F : List Nat) (x : Nat) : (addN F x).length ≤ F.length + 1 := by
  unfold addN
  split
  · omega
  · rw [List.length_append]; exact Nat.le_refl _
theorem strict_of {G : List Nat} (h : G.Pairwise (· ≤ ·)) (nd : G.Nodup) : G.Pairwise (· < ·) :=
  List.Pairwise.imp (fun {a b} q => by have h1 := q.1; have h2 := q.2; omega) (List.pairwise_and_iff.mpr ⟨h, nd⟩)
section
variable {P : Program} {w : World} {K : PySem.W.Frag} {mg : Str → Option Value} {base : Heap}
/-! ### with_known -/
theorem scWith : FnScope ["known", "lot", "node"] ["known", "lot"] (defScope sWith) := ⟨rfl, rfl, rfl, by decide +kernel, rfl, by decide +kernel, by decide +kernel⟩
def spWith : Sp := fun vs H Q _ => ∃ (a b : Addr) (S L : List Nat), vs = [.ref a, .ref b] ∧ TupN H a S ∧ TupN H b L ∧ S.length + L.length ≤ 60 ∧
  ∀ p H' G, Same H H' → TupN H' p G → G.Pairwise (· < ·) → (∀ x, x ∈ G ↔ x ∈ S ∨ x ∈ L) → Q (.ref p) H'
theorem kn_with {k : Nat} (D : Def K mg "with_known" sWith) (mt : mg "tuple" = none) (ms : mg "sorted" = none) : Kn P w K mg base CX0 "with_known" ["known", "lot"] (k + 1) spWith := by
  obtain ⟨f, fd, F, hm⟩ := D
  refine ⟨f, fd, hm, F.kp, F.binds fun _ _ _ _ _ _ us hl => match us, hl with | [_, _], _ => rfl, F.ok scWith (fun vs H Q E h => ?_) (fun cdv A outer s H vs Q E hr h => ?_)⟩
  · obtain ⟨a, b, S, L, rfl, _⟩ := h
    rfl
  obtain ⟨a, b, S, L, rfl, hS, hL, hl, q⟩ := h
  refine ⟨_, pss_one (ps_ret (pe_callTy call_tuple_of (by rfl) mt (by decide +kernel) (pa_cons (pe_callB (call_sortedDI rfl) (by rfl) ms (by decide +kernel) (pa_cons
      (pe_dc (own := [("node", 2)]) (g := gName 2) (tt := tYes) (by rfl) scWith.nd (pi_tup (pe_tup (StX.pa_star (pv 0) (StX.pa_star (pv 1) pa_nil)))) (blkOk_by (N := ["known", "lot", "node"]) (sc := defScope sWith) (by decide +kernel)) (fun _ _ _ _ _ => pg_name (i := 2) scWith.nd rfl (.inl rfl))
        (fun _ _ _ _ _ => pts_nil) (fun _ _ _ _ _ => pv 2) (fun _ _ _ _ _ => pe_bl)) pa_nil)) pa_nil))), ?_⟩
  refine ⟨_, rfl, a, _, rfl, .inl hS.sq, _, rfl, b, _, rfl, .inl hL.sq, ?_, fun t nt => ⟨t, rfl, ⟨_, SqT.of upd_same⟩, fun D nD => ?_⟩⟩
  · rw [List.append_nil, List.length_append, List.length_map, List.length_map]
    exact Nat.le_of_lt (small1000 (by omega))
  have hT : TupN (upd H t (.tup (S.map vN ++ (L.map vN ++ [])))) t (S ++ L) := by
    unfold TupN
    rw [upd_same, List.append_nil, List.map_append]
  have nDH : H D = none := (Same.new nt).free nD
  refine dc_tup (xs := (S ++ L).map vN) (fun i H2 => Same H H2 ∧ TupN H2 t (S ++ L) ∧ ∃ F, H2 D = some (.dK (kvF F)) ∧ F.Nodup ∧ F.length ≤ i ∧ ∀ x, x ∈ F ↔ x ∈ (S ++ L).take i)
    ⟨(Same.new nt).put nDH, hT.tx (Tx.new nD), [], upd_same, List.nodup_nil, Nat.le_refl _, fun x => Iff.rfl⟩ (fun i H2 _ h => h.2.1.sq) (fun i x H2 hx h => ?_) fun H2 h => ?_
  · rw [List.getElem?_map] at hx
    obtain ⟨n, hn, rfl⟩ := Option.map_eq_some_iff.mp hx
    obtain ⟨sm, hT2, F, hF, nd, lF, mF⟩ := h
    have li : i < (S ++ L).length := (List.getElem?_eq_some_iff.mp hn).1
    rw [List.length_append] at li
    refine ⟨rfl, _, rfl, kvF F, Sum.inl (n : Int), rfl, hF, ?_, sm.put nDH, hT2.tx (Tx.put fun xs z => by rw [hF] at z; cases z), addN F n, ?_, addN_nd nd n, Nat.le_trans (addN_len F n) (by omega), fun x => ?_⟩
    · unfold kvF
      rw [List.length_map]
      exact small1000 (by omega)
    · rw [upd_same, kvF_put']
      rfl
    · rw [addN_mem, mF, List.take_add_one, hn]
      simp
  · obtain ⟨sm, _, F, hF, nd, lF, mF⟩ := h
    rw [List.length_map, List.length_append] at lF
    refine ⟨D, kvF F, F.map fun x : Nat => (x : Int), rfl, .inl hF, nodup_put, ?_, fun ys p perm asc np => ?_⟩
    · rw [List.length_map]
      omega
    obtain ⟨G, rfl, pg⟩ := ints_nats perm
    refine ⟨p, _, rfl, .inl ⟨SqL.of upd_same, fun t2 nt2 => ?_⟩⟩
    have s5 : Same H (upd H2 p (.lst ((G.map fun x : Nat => (x : Int)).map V.int))) := sm.put (sm.free np)
    refine q t2 _ G (s5.put (s5.free nt2)) ?_ (strict_of (sorted_nats asc) (pg.nodup_iff.mpr nd)) fun x => ?_
    · show upd _ t2 _ t2 = _
      rw [upd_same, List.map_map]
      rfl
    · rw [pg.mem_iff, mF, List.take_of_length_le (by rw [List.length_map]; exact Nat.le_refl _), List.mem_append]
/-! ### state_of -/
theorem scState : FnScope ["web", "known", "u"] ["web", "known", "u"] (defScope sState) := ⟨rfl, rfl, rfl, by decide +kernel, rfl, by decide +kernel, by decide +kernel⟩
def spState : Sp := fun vs H Q _ => ∃ (a b : Addr) (W : Wb.Web) (S : List Nat) (u : Nat), vs = [.ref a, .ref b, vN u] ∧ WebAt H a W ∧ Wb.Wf W ∧ TupN H b S ∧ S.length ≤ 1000 ∧ u < W.length ∧
  ∀ p H', Same H H' → KeyAt H' p (u, Wb.shd W S u) → Q (.ref p) H'
theorem kn_state {k : Nat} (D : Def K mg "state_of" sState) (G : Kn P w K mg base CX0 "shadow" ["web", "known", "u"] k spShadow) : Kn P w K mg base CX0 "state_of" ["web", "known", "u"] (k + 1) spState := by
  obtain ⟨f, fd, F, hm⟩ := D
  refine ⟨f, fd, hm, F.kp, F.binds fun _ _ _ _ _ _ us hl => match us, hl with | [_, _, _], _ => rfl, F.ok scState (fun vs H Q E h => ?_) (fun cdv A outer s H vs Q E hr h => ?_)⟩
  · obtain ⟨a, b, W, S, u, rfl, _⟩ := h
    rfl
  obtain ⟨a, b, W, S, u, rfl, hW, wf, hS, hSl, hu, q⟩ := h
  refine ⟨_, pss_one (ps_ret (pe_tup (pa_cons (pv 2) (pa_cons (pe_kn G hr pass0 (pa_cons (pv 0) (pa_cons (pv 1) (pa_cons (pv 2) pa_nil)))) pa_nil)))), ?_⟩
  refine ⟨_, rfl, _, rfl, _, rfl, _, rfl, a, b, W, S, u, rfl, hW, wf, hS, hSl, hu, fun p H1 sm hp => ⟨(by show 2 ≤ sizeLine; decide), fun t nt => q t _ (sm.put (sm.free nt)) ⟨p, upd_same, hp.tx (Tx.new nt)⟩⟩⟩
/-! ### after_wrong -/
theorem scWrong : FnScope ["web", "state", "x"] ["web", "state", "x"] (defScope sWrong) := ⟨rfl, rfl, rfl, by decide +kernel, rfl, by decide +kernel, by decide +kernel⟩
def spWrong : Sp := fun vs H Q _ => ∃ (a b : Addr) (W : Wb.Web) (j : Wb.Key) (x : Nat), vs = [.ref a, .ref b, vN x] ∧ WebAt H a W ∧ Wb.Wf W ∧ KeyAt H b j ∧ j.2.length ≤ 1000 ∧ x < W.length ∧
  ∀ p H', Same H H' → KeyAt H' p (x, Wb.shd W j.2 x) → Q (.ref p) H'
theorem kn_wrong {k : Nat} (D : Def K mg "after_wrong" sWrong) (G : Kn P w K mg base CX0 "state_of" ["web", "known", "u"] k spState) : Kn P w K mg base CX0 "after_wrong" ["web", "state", "x"] (k + 1) spWrong := by
  obtain ⟨f, fd, F, hm⟩ := D
  refine ⟨f, fd, hm, F.kp, F.binds fun _ _ _ _ _ _ us hl => match us, hl with | [_, _, _], _ => rfl, F.ok scWrong (fun vs H Q E h => ?_) (fun cdv A outer s H vs Q E hr h => ?_)⟩
  · obtain ⟨a, b, W, j, x, rfl, _⟩ := h
    rfl
  obtain ⟨a, b, W, j, x, rfl, hW, wf, ⟨c, hb, hc⟩, hl, hx, q⟩ := h
  refine ⟨_, pss_one (ps_ret (pe_kn G hr pass0 (pa_cons (pv 0) (pa_cons (pe_ix ix_tup (pv 1) pe_int (fun _ _ => rfl)) (pa_cons (pv 2) pa_nil))))), ?_⟩
  exact ⟨_, rfl, _, rfl, _, _, _, _, rfl, rfl, SqT.of hb, atI_nat (j := 1) rfl, _, rfl, a, c, W, j.2, x, rfl, hW, wf, hc, hl, hx, q⟩
/-! ### after_right -/
theorem scRight : FnScope ["state", "x"] ["state", "x"] (defScope sRight) := ⟨rfl, rfl, rfl, by decide +kernel, rfl, by decide +kernel, by decide +kernel⟩
def spRight : Sp := fun vs H Q _ => ∃ (b : Addr) (j : Wb.Key) (x : Nat), vs = [.ref b, vN x] ∧ KeyAt H b j ∧ j.2.length ≤ 50 ∧
  ∀ p H' G, Same H H' → KeyAt H' p (j.1, G) → G.Pairwise (· < ·) → (∀ y, y ∈ G ↔ y ∈ j.2 ∨ y = x) → Q (.ref p) H'
theorem kn_right {k : Nat} (D : Def K mg "after_right" sRight) (G : Kn P w K mg base CX0 "with_known" ["known", "lot"] k spWith) : Kn P w K mg base CX0 "after_right" ["state", "x"] (k + 1) spRight := by
  obtain ⟨f, fd, F, hm⟩ := D
  refine ⟨f, fd, hm, F.kp, F.binds fun _ _ _ _ _ _ us hl => match us, hl with | [_, _], _ => rfl, F.ok scRight (fun vs H Q E h => ?_) (fun cdv A outer s H vs Q E hr h => ?_)⟩
  · obtain ⟨b, j, x, rfl, _⟩ := h
    rfl
  obtain ⟨b, j, x, rfl, ⟨c, hb, hc⟩, hl, q⟩ := h
  refine ⟨_, pss_one (ps_ret (pe_tup (pa_cons (pe_ix ix_tup (pv 0) pe_int (fun _ _ => rfl)) (pa_cons (pe_kn G hr pass0 (pa_cons (pe_ix ix_tup (pv 0) pe_int (fun _ _ => rfl)) (pa_cons (pe_tup (pa_cons (pv 1) pa_nil)) pa_nil))) pa_nil)))), ?_⟩
  refine ⟨_, rfl, _, _, _, _, rfl, rfl, SqT.of hb, atI_nat (j := 0) rfl, _, rfl, _, _, _, _, rfl, rfl, SqT.of hb, atI_nat (j := 1) rfl, _, rfl, (by show 1 ≤ sizeLine; decide), fun t nt => ⟨c, t, j.2, [x], rfl, hc.tx (Tx.new nt), upd_same, ?_, fun p H1 G sm hp asc mG => ⟨(by show 2 ≤ sizeLine; decide), fun t2 nt2 => ?_⟩⟩⟩
  · show j.2.length + 1 ≤ 60
    omega
  have s1 : Same H H1 := (Same.new nt).trans sm
  refine q t2 _ G (s1.put (s1.free nt2)) ⟨p, upd_same, hp.tx (Tx.new nt2)⟩ asc fun y => ?_
  rw [mG y]
  simp
end
end AH
end
section
set_option Elab.async false
set_option linter.all false
set_option maxRecDepth 100000
set_option maxHeartbeats 4000000
/-! The defs, 4: states_behind, short_of, shorts_behind. -/
namespace AH
open PySem PySem.Spec PyProof.Rows L2
theorem keys_tx {H H' : Hp} (e : Tx H H') : ∀ {as : List Addr} {ks : List Wb.Key}, Paired (KeyAt H) as ks → Paired (KeyAt H') as ks
  | _, _, .nil => .nil
  | _, _, .cons h t => .cons (h.tx e) (keys_tx e t)
theorem paired_app {R : α → β → Prop} {b : List α} {d : List β} (g : Paired R b d) : ∀ {a : List α} {c : List β}, Paired R a c → Paired R (a ++ b) (c ++ d)
  | _, _, .nil => g
  | _, _, .cons h t => .cons h (paired_app g t)
section
variable {P : Program} {w : World} {K : PySem.W.Frag} {mg : Str → Option Value} {base : Heap}
/-! ### states_behind -/
theorem scBehind : FnScope ["web", "state", "found", "x"] ["web", "state"] (defScope sBehind) := ⟨rfl, rfl, rfl, by decide +kernel, rfl, by decide +kernel, by decide +kernel⟩
def spBehind : Sp := fun vs H Q _ => ∃ (a b : Addr) (W : Wb.Web) (j : Wb.Key), vs = [.ref a, .ref b] ∧ WebAt H a W ∧ Wb.Wf W ∧ KeyAt H b j ∧ Wb.Can W j ∧
  ∀ p H' as ks, Same H H' → H' p = some (.lst (as.map V.ref)) → Paired (KeyAt H') as ks → (∀ i ∈ ks, Wb.Can W i) → ks.map (Wb.srt W) = Wb.sb W j → Q (.ref p) H'
theorem kn_behind {k : Nat} (D : Def K mg "states_behind" sBehind) (G1 : Kn P w K mg base CX0 "is_settled" ["web", "known", "u"] k spSettled) (G2 : Kn P w K mg base CX0 "open_below" ["web", "known", "u"] k (spCome K))
    (G3 : Kn P w K mg base CX0 "after_wrong" ["web", "state", "x"] k spWrong) (G4 : Kn P w K mg base CX0 "after_right" ["state", "x"] k spRight) : Kn P w K mg base CX0 "states_behind" ["web", "state"] (k + 1) spBehind := by
  obtain ⟨f, fd, F, hm⟩ := D
  refine ⟨f, fd, hm, F.kp, F.binds fun _ _ _ _ _ _ us hl => match us, hl with | [_, _], _ => rfl, F.ok scBehind (fun vs H Q E h => ?_) (fun cdv A outer s H vs Q E hr h => ?_)⟩
  · obtain ⟨a, b, W, j, rfl, _⟩ := h
    rfl
  obtain ⟨a, b, W, j, rfl, hW, wf, hj, cj, q⟩ := h
  have hl := cj.len
  have w12 := wf.len
  refine ⟨_, pss_cons (ps_if (pt_val (pe_kn G1 hr pass0 (pa_cons (pv 0) (pa_cons (pe_ix ix_tup (pv 1) pe_int (fun _ _ => rfl)) (pa_cons (pe_ix ix_tup (pv 1) pe_int (fun _ _ => rfl)) pa_nil))))) (pss_one (ps_ret (pe_lst pa_nil))) pss_nil)
    (pss_cons (ps_set (i := 2) scBehind.nd rfl (.inl rfl) (pe_lst pa_nil))
    (pss_cons (ps_for PassesOwn.never rfl (pi_tup (pe_kn G2 hr pass0 (pa_cons (pv 0) (pa_cons (pe_ix ix_tup (pv 1) pe_int (fun _ _ => rfl)) (pa_cons (pe_ix ix_tup (pv 1) pe_int (fun _ _ => rfl)) pa_nil))))) (pg_name (i := 3) scBehind.nd rfl (.inl rfl))
      (pss_one (ps_expr (pe_bm PySem.F.plainAttrs_list PySem.F.slot_list_extend PySem.F.type_list_extend mt_extend (pv 2) (pa_cons (pe_lst (pa_cons (pe_kn G3 hr pass0 (pa_cons (pv 0) (pa_cons (pv 1) (pa_cons (pv 3) pa_nil)))) (pa_cons (pe_kn G4 hr pass0 (pa_cons (pv 1) (pa_cons (pv 3) pa_nil))) pa_nil))) pa_nil)))))
    (pss_one (ps_ret (pv 2))))), ?_⟩
  obtain ⟨c, hb, hc⟩ := hj
  have hj : KeyAt H b j := ⟨c, hb, hc⟩
  refine ⟨_, rfl, _, rfl, _, _, _, _, rfl, rfl, SqT.of hb, atI_nat (j := 1) rfl, _, rfl, _, _, _, _, rfl, rfl, SqT.of hb, atI_nat (j := 0) rfl, a, c, W, j.2, j.1, rfl, hW, wf, hc, cj.inW, fun kk H1 s1 hk => ⟨_, rfl, ?_⟩⟩
  cases kk with
  | true =>
    have e0 := hk.mp rfl
    refine iteT ⟨Nat.zero_le _, fun p np => q p _ [] [] (s1.put (s1.free np)) upd_same .nil (fun i h => nomatch h) ?_⟩
    unfold Wb.sb
    rw [e0]
    rfl
  | false =>
    refine iteF ⟨Nat.zero_le _, fun l nl => ?_⟩
    have hb1 := s1 _ _ hb
    have hc1 := hc.tx s1.tx
    have nlH : H l = none := s1.free nl
    have s2 : Same H (upd H1 l (.lst [])) := s1.put nlH
    refine ⟨_, rfl, _, rfl, _, _, _, _, rfl, rfl, SqT.of (s2 _ _ hb), atI_nat (j := 1) rfl, _, rfl, _, _, _, _, rfl, rfl, SqT.of (s2 _ _ hb), atI_nat (j := 0) rfl, a, c, W, j.2, j.1, rfl, hW.tx s2.tx, wf, hc.tx s2.tx, cj.inW, fun p H3 s3 hp => ⟨p, rfl, ⟨_, hp.sq⟩, ?_⟩⟩
    have s13 := s2.trans s3
    have hl3 : H3 l = some (.lst []) := s3 _ _ upd_same
    refine for_tup (xs := (Wb.opn W (Wb.okK j.2) j.1).map vN) (fun i σ H4 => ∃ y as ks, σ = [some (.ref a), some (.ref b), some (.ref l), y] ∧ Same H H4 ∧ TupN H4 p (Wb.opn W (Wb.okK j.2) j.1) ∧ H4 l = some (.lst (as.map V.ref)) ∧ Paired (KeyAt H4) as ks ∧ (∀ i ∈ ks, Wb.Can W i) ∧ as.length = 2 * i ∧
        ks.map (Wb.srt W) = ((Wb.opn W (Wb.okK j.2) j.1).take i).flatMap fun x => [(x, Wb.sh W (Wb.okK j.2) x), (j.1, Wb.sh W (Wb.but (Wb.okK j.2) x) j.1)])
      ⟨none, [], [], rfl, s13, hp, hl3, .nil, (fun i h => nomatch h), rfl, rfl⟩ (fun i σ H4 _ h => ?_) (fun i x σ H4 hx h => ?_) fun σ H4 h => ?_
    · obtain ⟨y, as, ks, _, _, h, _⟩ := h
      exact h.sq
    · rw [List.getElem?_map] at hx
      obtain ⟨n, hn, rfl⟩ := Option.map_eq_some_iff.mp hx
      obtain ⟨y, as, ks, rfl, s4, hp4, hl4, hk4, hcan, hlen, hmap⟩ := h
      have rn : Wb.R W (Wb.okK j.2) j.1 n := (Wb.mem_opn wf).mp (List.mem_of_getElem? hn)
      have nW : n < W.length := rn.inW wf
      have li := (List.getElem?_eq_some_iff.mp hn).1
      have lo := Wb.opn_len (W := W) (ok := Wb.okK j.2) (u := j.1)
      refine ⟨_, rfl, .inl ⟨rfl, _, SqL.of hl4⟩, _, rfl, _, rfl, _, rfl, a, b, W, j, n, rfl, hW.tx s4.tx, wf, hj.tx s4.tx, by omega, nW, fun p1 H5 s5 h5 => ?_⟩
      have s05 := s4.trans s5
      refine ⟨_, rfl, _, rfl, b, j, n, rfl, hj.tx s05.tx, by omega, fun p2 H6 G s6 h6 asc mG => ?_⟩
      have s06 := s05.trans s6
      refine ⟨(by show 2 ≤ sizeLine; decide), fun e ne => ?_⟩
      have s07 : Same H6 (upd H6 e (.lst [.ref p1, .ref p2])) := Same.new ne
      have hl6 := s07 _ _ (s6 _ _ (s5 _ _ hl4))
      refine ⟨l, e, _, _, rfl, rfl, hl6, upd_same, ?_, ?_⟩
      · rw [List.length_map, hlen]
        exact Nat.le_of_lt (small1000 (by show 2 * i + 2 ≤ 1000; omega))
      have tx : Tx H6 (upd (upd H6 e (.lst [.ref p1, .ref p2])) l (.lst (as.map V.ref ++ [.ref p1, .ref p2]))) := s07.tx.trans (Tx.put fun xs z => by rw [hl6] at z; cases z)
      have k1 : Wb.Can W (n, Wb.shd W j.2 n) := ⟨nW, Wb.shd_asc cj.asc, fun x hx => cj.mem x (Wb.shd_sub hx)⟩
      have k2 : Wb.Can W (j.1, G) := ⟨cj.inW, asc, fun x hx => ((mG x).mp hx).elim (cj.mem x) fun e => e ▸ nW⟩
      refine ⟨_, as ++ [p1, p2], ks ++ [(n, Wb.shd W j.2 n), (j.1, G)], rfl, (s06.put (s06.free ne)).put nlH, hp4.tx ((s5.trans s6).tx.trans tx), ?_, ?_, ?_, ?_, ?_⟩
      · rw [upd_same, List.map_append]
        rfl
      · exact paired_app (.cons ((h5.tx s6.tx).tx tx) (.cons (h6.tx tx) .nil)) (keys_tx ((s5.trans s6).tx.trans tx) hk4)
      · intro i hi
        rcases List.mem_append.mp hi with h | h
        · exact hcan i h
        · rcases List.mem_cons.mp h with rfl | h
          · exact k1
          · have : i = (j.1, G) := by simpa using h
            subst this
            exact k2
      · rw [List.length_append, hlen]
        show 2 * i + 2 = _
        omega
      · rw [List.map_append, hmap, List.take_add_one, hn, List.flatMap_append]
        congr 1
        have := Wb.srt_behind wf (k := j) (x := n) (j1 := (n, Wb.shd W j.2 n)) (j2 := (j.1, G)) rfl (Wb.shd_eqv wf) rfl mG
        rw [show Option.toList (some n) = [n] from rfl, List.flatMap_cons, List.flatMap_nil, List.append_nil]
        exact this
    · obtain ⟨y, as, ks, rfl, s4, hp4, hl4, hk4, hcan, hlen, hmap⟩ := h
      refine ⟨_, rfl, q l H4 as ks s4 hl4 hk4 hcan ?_⟩
      rw [hmap, List.take_of_length_le (by rw [List.length_map]; exact Nat.le_refl _)]
      rfl
end
end AH
end
section
set_option Elab.async false
set_option linter.all false
set_option maxRecDepth 100000
set_option maxHeartbeats 4000000
/-! The defs, 5: short_of, shorts_behind. -/
namespace AH
open PySem PySem.Spec PyProof.Rows L2
theorem len1000 {F : List Nat} (nd : F.Nodup) (h : ∀ x ∈ F, x < 1000) : F.length ≤ 1000 := by
  have := Wb.nodup_le nd (U := List.range 1000) fun x hx => List.mem_range.mpr (h x hx)
  rwa [List.length_range] at this
/-- {x: True for v in a tuple of nodes for x in the tuple of f v} -/
theorem dc2_nats {K : PySem.W.Frag} {a : Addr} {ns : List Nat} {f : Nat → List Nat} {wi1 : TI} {i0 i1 : Nat} {vs vs1 : List Nat} {σ : L2.St} {H1 : Hp} {D : Addr} {Qd : Hp → Prop} (hT : TupN H1 a ns) (nD : H1 D = none) (hb : ∀ v ∈ ns, ∀ x ∈ f v, x < 999)
    (hw0 : ∀ v : Nat, wipe ((wipe σ vs).set i0 (some (vN v))) vs = wipe σ vs)
    (hw1 : ∀ v x : Nat, wipe ((wipe ((wipe σ vs).set i0 (some (vN v))) vs1).set i1 (some (vN x))) vs1 = wipe ((wipe σ vs).set i0 (some (vN v))) vs1)
    (hx : ∀ v x : Nat, ((wipe ((wipe σ vs).set i0 (some (vN v))) vs1).set i1 (some (vN x)))[i1]? = some (some (vN x)))
    (hs : ∀ v ∈ ns, ∀ H (R : It → Hp → Prop), Same H1 H → (∀ c, TupN H c (f v) → R (Itt K c) H) → wi1 ((wipe σ vs).set i0 (some (vN v))) H R)
    (hd : ∀ H F, Same H1 H → H D = some (.dK (kvF F)) → F.Nodup → (∀ x, x ∈ F ↔ ∃ v ∈ ns, x ∈ f v) → Qd H) :
    ∃ W : Nat → Nat → Hp → Prop, (∃ m, W 0 m (upd H1 D (.dK []))) ∧ ∀ i m H, W i m H →
  ((Itt K a).stop i H ∧ Qd H) ∨ ((Itt K a).go i H ∧ ∃ Nx : Hp → Prop, (∀ H', Nx H' → ∃ m', m' < m ∧ W (i + 1) m' H') ∧ ∀ x H', (Itt K a).yld i H x H' → gName i0 x (wipe σ vs) H' fun σ2 H2 => wipe σ2 vs = wipe σ vs ∧
    wi1 σ2 H2 fun J1 H4 => ∃ W1 : Nat → Nat → Hp → Prop, (∃ m, W1 0 m H4) ∧ ∀ j k H, W1 j k H →
      (J1.stop j H ∧ Nx H) ∨ (J1.go j H ∧ ∃ Nx1 : Hp → Prop, (∀ H', Nx1 H' → ∃ k', k' < k ∧ W1 (j + 1) k' H') ∧ ∀ x H', J1.yld j H x H' → gName i1 x (wipe σ2 vs1) H' fun σ3 H5 => wipe σ3 vs1 = wipe σ2 vs1 ∧
        tVar i1 σ3 H5 fun y H6 => tC (.bl true) σ3 H6 fun z H7 => ∃ kvs k, y = kV k ∧ H7 D = some (.dK kvs) ∧ kvs.length < sizeLine ∧ Nx1 (upd H7 D (.dK (putK kvs k z))))) := by
  have inv : ∀ (F : List Nat) (i j : Nat) (l : List Nat), True := fun _ _ _ _ => trivial
  refine ⟨fun i m H => m = ns.length - i ∧ i ≤ ns.length ∧ Same H1 H ∧ ∃ F, H D = some (.dK (kvF F)) ∧ F.Nodup ∧ (∀ x ∈ F, x < 999) ∧ ∀ x, x ∈ F ↔ ∃ v ∈ ns.take i, x ∈ f v,
    ⟨_, rfl, Nat.zero_le _, Same.new nD, [], upd_same, List.nodup_nil, (fun x h => nomatch h), fun x => by simp⟩, ?_⟩
  rintro i m H ⟨rfl, hi, sm, F, hF, nd, bF, mF⟩
  have hT1 : SqT K H a (ns.map vN) := (hT.tx sm.tx).sq
  by_cases hlt : i < ns.length
  · obtain ⟨v, hv⟩ : ∃ v, ns[i]? = some v := ⟨ns[i], List.getElem?_eq_getElem hlt⟩
    have hvm : v ∈ ns := List.mem_of_getElem? hv
    have tk : ns.take (i + 1) = ns.take i ++ [v] := by rw [List.take_add_one, hv]; rfl
    have hv' : (ns.map vN)[i]? = some (vN v) := by rw [List.getElem?_map, hv]; rfl
    refine .inr ⟨⟨_, _, hT1, hv'⟩, fun H => Same H1 H ∧ ∃ F, H D = some (.dK (kvF F)) ∧ F.Nodup ∧ (∀ x ∈ F, x < 999) ∧ ∀ x, x ∈ F ↔ ∃ v ∈ ns.take (i + 1), x ∈ f v, fun H' h => ⟨ns.length - (i + 1), by omega, rfl, hlt, h⟩, fun x H' hy => ?_⟩
    obtain ⟨rfl, hy⟩ := hy
    obtain rfl : x = vN v := Option.some.inj ((hy _ hT1).symm.trans hv')
    refine ⟨hw0 v, hs v hvm H' _ sm fun c hc => ?_⟩
    refine ⟨fun j k H => k = (f v).length - j ∧ j ≤ (f v).length ∧ Same H1 H ∧ TupN H c (f v) ∧ ∃ F, H D = some (.dK (kvF F)) ∧ F.Nodup ∧ (∀ x ∈ F, x < 999) ∧ ∀ x, x ∈ F ↔ (∃ v ∈ ns.take i, x ∈ f v) ∨ x ∈ (f v).take j,
      ⟨_, rfl, Nat.zero_le _, sm, hc, F, hF, nd, bF, fun x => by rw [mF x]; simp⟩, ?_⟩
    rintro j k H ⟨rfl, hj, sm2, hc2, F2, hF2, nd2, bF2, mF2⟩
    by_cases hlt2 : j < (f v).length
    · obtain ⟨y, hy2⟩ : ∃ y, (f v)[j]? = some y := ⟨(f v)[j], List.getElem?_eq_getElem hlt2⟩
      have hy' : ((f v).map vN)[j]? = some (vN y) := by rw [List.getElem?_map, hy2]; rfl
      refine .inr ⟨⟨_, _, hc2.sq, hy'⟩, fun H => Same H1 H ∧ TupN H c (f v) ∧ ∃ F, H D = some (.dK (kvF F)) ∧ F.Nodup ∧ (∀ x ∈ F, x < 999) ∧ ∀ x, x ∈ F ↔ (∃ v ∈ ns.take i, x ∈ f v) ∨ x ∈ (f v).take (j + 1),
        fun H' h => ⟨(f v).length - (j + 1), by omega, rfl, hlt2, h⟩, fun x H' hy3 => ?_⟩
      obtain ⟨rfl, hy3⟩ := hy3
      obtain rfl : x = vN y := Option.some.inj ((hy3 _ hc2.sq).symm.trans hy')
      refine ⟨hw1 v y, _, hx v y, kvF F2, Sum.inl (y : Int), rfl, hF2, ?_, sm2.put nD, hc2.tx (Tx.put fun xs z => by rw [hF2] at z; cases z), addN F2 y, ?_, addN_nd nd2 y, fun x h => ?_, fun x => ?_⟩
      · unfold kvF
        rw [List.length_map]
        have := len1000 nd2 fun x h => Nat.lt_of_lt_of_le (bF2 x h) (by decide)
        exact small1000 this
      · rw [upd_same, kvF_put']
        rfl
      · rcases addN_mem.mp h with h | rfl
        · exact bF2 x h
        · exact hb v hvm _ (List.mem_of_getElem? hy2)
      · rw [addN_mem, mF2, List.take_add_one, hy2]
        simp [or_assoc]
    · refine .inl ⟨⟨_, hc2.sq, by rw [List.length_map]; omega⟩, sm2, F2, hF2, nd2, bF2, fun x => ?_⟩
      have e : (f v).take j = f v := List.take_of_length_le (by omega)
      rw [mF2, e, tk]
      simp [or_and_right, exists_or]
  · refine .inl ⟨⟨_, hT1, by rw [List.length_map]; omega⟩, hd H F sm hF nd fun x => ?_⟩
    rw [mF, List.take_of_length_le (by omega)]
section
variable {P : Program} {w : World} {K : PySem.W.Frag} {mg : Str → Option Value} {base : Heap}
/-! ### short_of -/
theorem scShort : FnScope ["web", "state", "u", "known", "callees", "v", "callee", "x"] ["web", "state"] (defScope sShort) := ⟨rfl, rfl, rfl, by decide +kernel, rfl, by decide +kernel, by decide +kernel⟩
def spShort : Sp := fun vs H Q _ => ∃ (a b : Addr) (W : Wb.Web) (j : Wb.Key), vs = [.ref a, .ref b] ∧ WebAt H a W ∧ Wb.Wf W ∧ KeyAt H b j ∧ Wb.Can W j ∧
  ∀ p H', Same H H' → KeyAt H' p (Wb.srt W j) → Q (.ref p) H'
theorem kn_short {k : Nat} (D : Def K mg "short_of" sShort) (mt : mg "tuple" = none) (G2 : Kn P w K mg base CX0 "open_below" ["web", "known", "u"] k (spCome K)) : Kn P w K mg base CX0 "short_of" ["web", "state"] (k + 1) spShort := by
  obtain ⟨f, fd, F, hm⟩ := D
  refine ⟨f, fd, hm, F.kp, F.binds fun _ _ _ _ _ _ us hl => match us, hl with | [_, _], _ => rfl, F.ok scShort (fun vs H Q E h => ?_) (fun cdv A outer s H vs Q E hr h => ?_)⟩
  · obtain ⟨a, b, W, j, rfl, _⟩ := h
    rfl
  obtain ⟨a, b, W, j, rfl, hW, wf, ⟨c, hb, hc⟩, cj, q⟩ := h
  have hl := cj.len
  have w12 := wf.len
  refine ⟨_, pss_cons (ps_asg (pv 1) (pg_tup rfl (pgs_cons (pg_name (i := 2) scShort.nd rfl (.inl rfl)) (pgs_cons (pg_name (i := 3) scShort.nd rfl (.inl rfl)) pgs_nil))))
    (pss_cons (ps_set (i := 4) scShort.nd rfl (.inr rfl) (pe_dc2 (own := [("v", 5), ("callee", 6)]) (vs1 := [6]) (g := gName 5) (g1 := gName 6) (by rfl) scShort.nd
        (pi_tup (pe_tup (StX.pa_star (pe_kn G2 hr pass0 (pa_cons (pv 0) (pa_cons (pv 3) (pa_cons (pv 2) pa_nil)))) (pa_cons (pv 2) pa_nil))))
        (blkOk_by (N := ["web", "state", "u", "known", "callees", "v", "callee", "x"]) (sc := defScope sShort) (by decide +kernel)) (by decide)
        (fun _ _ _ _ _ => pg_name (i := 5) scShort.nd rfl (.inl rfl)) (fun _ _ _ _ _ => show PI _ _ _ (iTup K _) from pi_tup (pe_ix (show IxR _ (rIxT K) from ix_tup) (pe_ix (show IxR _ (rIxT K) from ix_tup) (pv 0) (pv 5) (fun _ _ => rfl)) pe_int (fun _ _ => rfl))) (fun _ _ _ _ _ => pg_name (i := 6) scShort.nd rfl (.inl rfl)) (fun _ _ _ _ _ => pv 6) (fun _ _ _ _ _ => pe_bl)))
    (pss_one (ps_ret (pe_tup (pa_cons (pv 2) (pa_cons (pe_callTy call_tuple_of (by rfl) mt (by decide +kernel) (pa_cons
      (pe_lc (own := [("x", 7)]) (g := gName 7) (by rfl) scShort.nd (pi_tup (pv 3)) (blkOk_by (N := ["web", "state", "u", "known", "callees", "v", "callee", "x"]) (sc := defScope sShort) (by decide +kernel)) (fun _ _ _ _ _ => pg_name (i := 7) scShort.nd rfl (.inl rfl))
        (fun _ _ _ _ _ => pts_one (pt_cmp (pc_din (hu_of hr) (pv 7) (pv 4)))) (fun _ _ _ _ _ => pv 7)) pa_nil)) pa_nil)))))), ?_⟩
  have hj : KeyAt H b j := ⟨c, hb, hc⟩
  refine ⟨_, rfl, b, _, rfl, SqT.of hb, rfl, _, _, rfl, _, _, rfl, rfl, ?_⟩
  -- callees
  refine ⟨_, rfl, _, rfl, _, rfl, a, c, W, j.2, j.1, rfl, hW, wf, hc, cj.inW, fun p H1 s1 hp => ?_⟩
  refine ⟨p, _, rfl, .inl hp.sq, _, rfl, ?_, fun t nt => ?_⟩
  · have lo := Wb.opn_len (W := W) (ok := Wb.okK j.2) (u := j.1)
    rw [List.length_append, List.length_map]
    exact Nat.le_of_lt (small1000 (by show _ + 1 ≤ 1000; omega))
  have hT : TupN (upd H1 t (.tup ((Wb.opn W (Wb.okK j.2) j.1).map vN ++ [vN j.1]))) t (Wb.opn W (Wb.okK j.2) j.1 ++ [j.1]) := by
    unfold TupN
    rw [upd_same, List.map_append]
    rfl
  have s2 : Same H (upd H1 t (.tup ((Wb.opn W (Wb.okK j.2) j.1).map vN ++ [vN j.1]))) := s1.put (s1.free nt)
  have inW : ∀ v ∈ Wb.opn W (Wb.okK j.2) j.1 ++ [j.1], v < W.length := fun v hv => by
    rcases List.mem_append.mp hv with h | h
    · exact ((Wb.mem_opn wf).mp h).inW wf
    · obtain rfl : v = j.1 := by simpa using h
      exact cj.inW
  refine ⟨t, rfl, ⟨_, SqT.of upd_same⟩, fun D nD => ?_⟩
  refine dc2_nats (f := Wb.cal W) hT nD (fun v hv x hx => ?_) (fun v => rfl) (fun v x => rfl) (fun v x => rfl) (fun v hv H3 R s3 h => ?_) fun H3 F s3 hF ndF mF => ?_
  · have := wf.lt v x hx
    have := inW v hv
    omega
  · obtain ⟨xs, p', c', w1, wl, w2, w3, w4⟩ := (hW.tx (s2.trans s3).tx).get (K := K) (inW v hv)
    exact ⟨_, rfl, _, rfl, _, _, _, _, rfl, rfl, w1, w2, _, _, _, _, rfl, rfl, w3, atI_nat (j := 0) rfl, c', rfl, ⟨_, w4.sq⟩, h c' w4⟩
  -- the answer
  have s03 := s2.trans s3
  refine ⟨_, rfl, _, rfl, c, rfl, ⟨_, (hc.tx s03.tx).sq⟩, fun L nL => ?_⟩
  refine lc_filt (p := fun x => decide (x ∈ F)) (hc.tx s03.tx) nL (by omega) (fun x hx H4 Nx s4 h => ?_) fun H4 s4 hL => ?_
  · refine ⟨rfl, _, rfl, _, rfl, D, _, rfl, DGet.k (k := Sum.inl (x : Int)) (s4 _ _ hF), _, rfl, ?_⟩
    rw [kvF_val]
    by_cases cx : x ∈ F
    · rw [decide_eq_true cx] at h ⊢
      exact iteT ⟨_, rfl, h⟩
    · rw [decide_eq_false cx] at h ⊢
      exact iteF h
  · have s04 := s03.trans s4
    refine ⟨L, _, rfl, .inl ⟨SqL.of hL, fun t2 nt2 => ⟨(by show 2 ≤ sizeLine; decide), fun t3 nt3 => ?_⟩⟩⟩
    have s05 : Same H (upd H4 t2 (.tup ((j.2.filter fun x => decide (x ∈ F)).map vN))) := s04.put (s04.free nt2)
    refine q t3 _ (s05.put (s05.free nt3)) ?_
    rw [← Wb.srt_eq wf cj.asc (p := fun x => decide (x ∈ F)) fun x => ?_]
    · refine ⟨t2, upd_same, ?_⟩
      show upd _ t3 _ t2 = _
      rw [upd_ne (ne_of_none upd_same nt3), upd_same]
    · rw [decide_eq_true_iff, mF]
/-! ### shorts_behind -/
theorem scShorts : FnScope ["web", "state", "one"] ["web", "state"] (defScope sShorts) := ⟨rfl, rfl, rfl, by decide +kernel, rfl, by decide +kernel, by decide +kernel⟩
def spShorts : Sp := fun vs H Q _ => ∃ (a b : Addr) (W : Wb.Web) (j : Wb.Key), vs = [.ref a, .ref b] ∧ WebAt H a W ∧ Wb.Wf W ∧ KeyAt H b j ∧ Wb.Can W j ∧
  ∀ p H' as, Same H H' → H' p = some (.lst (as.map V.ref)) → Paired (KeyAt H') as (Wb.sb W j) → Q (.ref p) H'
theorem paired_get {R : α → β → Prop} : ∀ {a : List α} {b : List β}, Paired R a b → ∀ {i : Nat} {x : α}, a[i]? = some x → ∃ y, b[i]? = some y ∧ R x y
  | _, _, .nil, i, x, h => by simp at h
  | _, _, .cons h t, 0, x, e => by
    obtain rfl := Option.some.inj e
    exact ⟨_, rfl, h⟩
  | _, _, .cons h t, i + 1, x, e => paired_get t e
theorem paired_len {R : α → β → Prop} : ∀ {a : List α} {b : List β}, Paired R a b → a.length = b.length
  | _, _, .nil => rfl
  | _, _, .cons h t => by rw [List.length_cons, List.length_cons, paired_len t]
theorem kn_shorts {k : Nat} (D : Def K mg "shorts_behind" sShorts) (G1 : Kn P w K mg base CX0 "states_behind" ["web", "state"] k spBehind) (G2 : Kn P w K mg base CX0 "short_of" ["web", "state"] k spShort) : Kn P w K mg base CX0 "shorts_behind" ["web", "state"] (k + 1) spShorts := by
  obtain ⟨f, fd, F, hm⟩ := D
  refine ⟨f, fd, hm, F.kp, F.binds fun _ _ _ _ _ _ us hl => match us, hl with | [_, _], _ => rfl, F.ok scShorts (fun vs H Q E h => ?_) (fun cdv A outer s H vs Q E hr h => ?_)⟩
  · obtain ⟨a, b, W, j, rfl, _⟩ := h
    rfl
  obtain ⟨a, b, W, j, rfl, hW, wf, hj, cj, q⟩ := h
  refine ⟨_, pss_one (ps_ret (pe_lc (own := [("one", 2)]) (g := gName 2) (tt := tYes) (te := tCall spShort [] E0 (tCons (tVar 0) (tCons (tVar 2) tNil))) (by rfl) scShorts.nd (pi_list (pe_kn G1 hr pass0 (pa_cons (pv 0) (pa_cons (pv 1) pa_nil)))) (blkOk_by (N := ["web", "state", "one"]) (sc := defScope sShorts) (by decide +kernel)) (fun _ _ _ _ _ => pg_name (i := 2) scShorts.nd rfl (.inl rfl))
        (fun _ _ _ _ _ => pts_nil) (fun _ _ _ _ _ => pe_kn G2 hr pass0 (pa_cons (pv 0) (pa_cons (pv 2) pa_nil))))), ?_⟩
  refine ⟨_, rfl, _, rfl, a, b, W, j, rfl, hW, wf, hj, cj, fun p H1 as ks s1 hp hk hcan hmap => ?_⟩
  have la : as.length = ks.length := paired_len hk
  have lk : ks.length = 2 * Wb.cnt W j := by rw [← Wb.sb_len, ← hmap, List.length_map]
  have c12 := Wb.cnt_le wf j
  refine ⟨p, rfl, ⟨_, SqL.of hp⟩, fun L nL => ?_⟩
  have nLH : H L = none := s1.free nL
  refine lc_list (K := K) (a := p) (xs := as.map V.ref) (fun i H2 => Same H1 H2 ∧ ∃ bs, H2 L = some (.lst (bs.map V.ref)) ∧ Paired (KeyAt H2) bs ((Wb.sb W j).take i) ∧ bs.length = i)
    ⟨Same.new nL, [], upd_same, .nil, rfl⟩ (fun i H2 _ h => SqL.of (h.1 _ _ hp)) (fun i x H2 hx h => ?_) fun H2 h => ?_
  · rw [List.getElem?_map] at hx
    obtain ⟨n, hn, rfl⟩ := Option.map_eq_some_iff.mp hx
    obtain ⟨s2, bs, hb2, pb, lb⟩ := h
    have s02 := s1.trans s2
    have li := (List.getElem?_eq_some_iff.mp hn).1
    obtain ⟨y, hy, ky⟩ := paired_get hk hn
    refine ⟨rfl, ?_⟩
    refine ⟨_, rfl, _, rfl, a, n, W, y, rfl, hW.tx s02.tx, wf, ky.tx s2.tx, hcan y (List.mem_of_getElem? hy), fun p3 H3 s3 h3 => ?_⟩
    have hb3 := s3 _ _ hb2
    have tx : Tx H3 (upd H3 L (.lst (bs.map V.ref ++ [.ref p3]))) := Tx.put fun xs z => by rw [hb3] at z; cases z
    refine ⟨_, hb3, ?_, (s2.trans s3).put nL, bs ++ [p3], ?_, ?_, ?_⟩
    · rw [List.length_map]
      exact small1000 (by omega)
    · rw [upd_same, List.map_append]
      rfl
    · have e : (Wb.sb W j).take (i + 1) = (Wb.sb W j).take i ++ [Wb.srt W y] := by
        rw [← hmap, List.take_add_one, List.getElem?_map, hy]
        rfl
      rw [e]
      exact paired_app (.cons (h3.tx tx) .nil) (keys_tx (s3.tx.trans tx) pb)
    · rw [List.length_append, lb]
      rfl
  · obtain ⟨s2, bs, hb2, pb, lb⟩ := h
    refine q L H2 bs (s1.trans s2) hb2 ?_
    rw [List.take_of_length_le (by rw [List.length_map, la, lk, Wb.sb_len]; exact Nat.le_refl _)] at pb
    exact pb
end
end AH
end
section
set_option Elab.async false
set_option linter.all false
set_option maxRecDepth 100000
set_option maxHeartbeats 4000000
/-! The defs, 6: the table; price_by. -/
namespace AH
open PySem PySem.Spec PyProof.Rows L2
/-! ### the table -/
def optV : Option Nat → V
  | none => .non
  | some x => vN x
def EntAt (H : Hp) (t : Addr) (e : Wb.Ent) : Prop := H t = some (.tup [vN e.1, optV e.2])
theorem EntAt.tx {H H' : Hp} {t : Addr} {e : Wb.Ent} (h : EntAt H t e) (x : Tx H H') : EntAt H' t e := x _ _ h
abbrev Rows (H : Hp) : List (Wb.Key × V) → Wb.Tab → Prop := Paired fun p q => p.1 = q.1 ∧ ∃ t, p.2 = .ref t ∧ EntAt H t q.2
def TabAt (P : Program) (w : World) (H : Hp) (d : Addr) (T : Wb.Tab) : Prop := ∃ T', DN P w H d T' ∧ Rows H T' T
theorem Rows.tx {H H' : Hp} (x : Tx H H') : ∀ {T' : List (Wb.Key × V)} {T : Wb.Tab}, Rows H T' T → Rows H' T' T
  | _, _, .nil => .nil
  | _, _, .cons ⟨e, t, et, h⟩ r => .cons ⟨e, t, et, h.tx x⟩ (Rows.tx x r)
theorem Rows.val {H : Hp} : ∀ {T' : List (Wb.Key × V)} {T : Wb.Tab} (k : Wb.Key), Rows H T' T → (valV T' k = none ∧ k ∉ Wb.dom T) ∨ ∃ t e, valV T' k = some (.ref t) ∧ (k, e) ∈ T ∧ EntAt H t e
  | _, _, k, .nil => .inl ⟨rfl, fun h => nomatch h⟩
  | _, _, k, .cons (a := p) (b := q) (l₁ := ps) (l₂ := qs) ⟨e, t, et, h⟩ r => by
    by_cases c : p.1 = k
    · refine .inr ⟨t, q.2, by rw [valV_pos c, et], ?_, h⟩
      rw [← c, e]
      exact List.mem_cons_self
    · rw [valV_neg c]
      rcases Rows.val k r with ⟨h1, h2⟩ | ⟨t2, e2, h1, h2, h3⟩
      · refine .inl ⟨h1, fun z => ?_⟩
        rcases List.mem_cons.mp z with z | z
        · exact c (e.trans z.symm)
        · exact h2 z
      · exact .inr ⟨t2, e2, h1, List.mem_cons_of_mem _ h2, h3⟩
theorem Rows.len {H : Hp} {T' : List (Wb.Key × V)} {T : Wb.Tab} (r : Rows H T' T) : T'.length = T.length := paired_len r
theorem Rows.get {H : Hp} {W : Wb.Web} {T' : List (Wb.Key × V)} {T : Wb.Tab} (r : Rows H T' T) (g : Wb.Good W T) {k : Wb.Key} (h : k ∈ Wb.dom T) : ∃ t, valV T' k = some (.ref t) ∧ EntAt H t (Wb.ent W k) := by
  rcases r.val k with ⟨_, h2⟩ | ⟨t, e, h1, h2, h3⟩
  · exact absurd h h2
  · refine ⟨t, h1, ?_⟩
    have := (g _ h2).2
    rw [show e = Wb.ent W k from this] at h3
    exact h3
theorem Rows.isSome {H : Hp} {T' : List (Wb.Key × V)} {T : Wb.Tab} (r : Rows H T' T) (k : Wb.Key) : (valV T' k).isSome = true ↔ k ∈ Wb.dom T := by
  rcases r.val k with ⟨h1, h2⟩ | ⟨t, e, h1, h2, h3⟩
  · rw [h1]
    exact ⟨fun z => (by cases z), fun z => absurd z h2⟩
  · rw [h1]
    exact ⟨fun _ => List.mem_map.mpr ⟨_, h2, rfl⟩, fun _ => rfl⟩
section
variable {P : Program} {w : World} {K : PySem.W.Frag} {mg : Str → Option Value} {base : Heap}
/-! ### price_by -/
theorem scPriceBy : FnScope ["web", "table", "state", "u", "known", "found", "x", "wrong", "right"] ["web", "table", "state"] (defScope sPriceBy) := ⟨rfl, rfl, rfl, by decide +kernel, rfl, by decide +kernel, by decide +kernel⟩
def spPriceBy (P : Program) (w : World) : Sp := fun vs H Q _ => ∃ (a d b : Addr) (W : Wb.Web) (T : Wb.Tab) (j : Wb.Key), vs = [.ref a, .ref d, .ref b] ∧ WebAt H a W ∧ Wb.Wf W ∧ TabAt P w H d T ∧ Wb.Good W T ∧ KeyAt H b j ∧ Wb.Can W j ∧ (∀ i ∈ Wb.sb W j, i ∈ Wb.dom T) ∧
  ∀ t H', Same H H' → EntAt H' t (Wb.ent W j) → Q (.ref t) H'
theorem kn_priceBy {k : Nat} (D : Def K mg "price_by" sPriceBy) (mx : mg "max" = none) (mn : mg "min" = none) (G1 : Kn P w K mg base CX0 "is_settled" ["web", "known", "u"] k spSettled) (G2 : Kn P w K mg base CX0 "open_below" ["web", "known", "u"] k (spCome K))
    (G3 : Kn P w K mg base CX0 "after_wrong" ["web", "state", "x"] k spWrong) (G4 : Kn P w K mg base CX0 "after_right" ["state", "x"] k spRight) (G5 : Kn P w K mg base CX0 "short_of" ["web", "state"] k spShort) : Kn P w K mg base CX0 "price_by" ["web", "table", "state"] (k + 1) (spPriceBy P w) := by
  obtain ⟨f, fd, F, hm⟩ := D
  refine ⟨f, fd, hm, F.kp, F.binds fun _ _ _ _ _ _ us hl => match us, hl with | [_, _, _], _ => rfl, F.ok scPriceBy (fun vs H Q E h => ?_) (fun cdv A outer s H vs Q E hr h => ?_)⟩
  · obtain ⟨a, d, b, W, T, j, rfl, _⟩ := h
    rfl
  obtain ⟨a, d, b, W, T, j, rfl, hW, wf, ⟨T', hd, hT⟩, good, ⟨c, hb, hc⟩, cj, beh, q⟩ := h
  have hj : KeyAt H b j := ⟨c, hb, hc⟩
  have hl := cj.len
  have w12 := wf.len
  have hu64 := hr.units
  refine ⟨_, pss_cons (ps_asg (pv 2) (pg_tup rfl (pgs_cons (pg_name (i := 3) scPriceBy.nd rfl (.inl rfl)) (pgs_cons (pg_name (i := 4) scPriceBy.nd rfl (.inl rfl)) pgs_nil))))
    (pss_cons (ps_if (pt_val (pe_kn G1 hr pass0 (pa_cons (pv 0) (pa_cons (pv 4) (pa_cons (pv 3) pa_nil))))) (pss_one (ps_ret (pe_tup (pa_cons (pe_ix ix_tup (pe_ix ix_tup (pv 0) (pv 3) (fun _ _ => rfl)) pe_int (fun _ _ => rfl)) (pa_cons pe_non pa_nil))))) pss_nil)
    (pss_cons (ps_set (i := 5) scPriceBy.nd rfl (.inl rfl) (pe_lst pa_nil))
    (pss_cons (ps_for PassesOwn.never rfl (pi_tup (pe_kn G2 hr pass0 (pa_cons (pv 0) (pa_cons (pv 4) (pa_cons (pv 3) pa_nil))))) (pg_name (i := 6) scPriceBy.nd rfl (.inl rfl))
      (pss_cons (ps_par (i := 7) (j := 8) (by rfl) scPriceBy.nd rfl rfl (by decide) rfl rfl (pa_cons (pe_kn G5 hr pass0 (pa_cons (pv 0) (pa_cons (pe_kn G3 hr pass0 (pa_cons (pv 0) (pa_cons (pv 2) (pa_cons (pv 6) pa_nil)))) pa_nil)))
          (pa_cons (pe_kn G5 hr pass0 (pa_cons (pv 0) (pa_cons (pe_kn G4 hr pass0 (pa_cons (pv 2) (pa_cons (pv 6) pa_nil))) pa_nil))) pa_nil)) (by rfl))
        (pss_one (ps_expr (pe_bm PySem.F.plainAttrs_list PySem.F.slot_list_append PySem.F.type_list_append mt_append (pv 5) (pa_cons (pe_tup (pa_cons
          (pe_op op_add (pe_ix ix_tup (pe_ix ix_tup (pv 0) (pv 6) (fun _ _ => rfl)) pe_int (fun _ _ => rfl)) (pe_callB (call_max2 rfl) (by rfl) mx (by decide +kernel)
            (pa_cons (pe_ix ix_tup (pe_dnget hu64 (pv 1) (pv 7) (fun _ _ => rfl)) pe_int (fun _ _ => rfl)) (pa_cons (pe_ix ix_tup (pe_dnget hu64 (pv 1) (pv 8) (fun _ _ => rfl)) pe_int (fun _ _ => rfl)) pa_nil))))
          (pa_cons (pv 6) pa_nil))) pa_nil))))))
    (pss_one (ps_ret (pe_callB (cr_minP rfl hu64) (by rfl) mn (by decide +kernel) (pa_cons (pv 5) pa_nil))))))), ?_⟩
  refine ⟨_, rfl, b, _, rfl, SqT.of hb, rfl, _, _, rfl, _, _, rfl, rfl, ?_⟩
  refine ⟨_, rfl, _, rfl, _, rfl, a, c, W, j.2, j.1, rfl, hW, wf, hc, cj.inW, fun kk H1 s1 hk => ⟨_, rfl, ?_⟩⟩
  cases kk with
  | true =>
    obtain ⟨xs, p', c', w1, wl, w2, w3, w4⟩ := (hW.tx s1.tx).get (K := K) cj.inW
    refine iteT ⟨_, rfl, _, rfl, _, _, _, _, rfl, rfl, w1, w2, _, _, _, _, rfl, rfl, w3, atI_nat (j := 2) rfl, (by show 2 ≤ sizeLine; decide), fun t nt => q t _ (s1.put (s1.free nt)) ?_⟩
    rw [Wb.ent_none wf (hk.mp rfl)]
    exact upd_same
  | false =>
    have hne : Wb.opn W (Wb.okK j.2) j.1 ≠ [] := fun z => Bool.noConfusion (hk.mpr z)
    refine iteF ⟨Nat.zero_le _, fun l nl => ?_⟩
    have nlH : H l = none := s1.free nl
    have s2 : Same H (upd H1 l (.lst [])) := s1.put nlH
    refine ⟨_, rfl, _, rfl, _, rfl, a, c, W, j.2, j.1, rfl, hW.tx s2.tx, wf, hc.tx s2.tx, cj.inW, fun p H3 s3 hp => ⟨p, rfl, ⟨_, hp.sq⟩, ?_⟩⟩
    have s13 := s2.trans s3
    have hl3 : H3 l = some (.lst []) := s3 _ _ upd_same
    refine for_tup (xs := (Wb.opn W (Wb.okK j.2) j.1).map vN) (fun i σ H4 => ∃ y6 y7 y8 ts, σ = [some (.ref a), some (.ref d), some (.ref b), some (vN j.1), some (.ref c), some (.ref l), y6, y7, y8] ∧ Same H H4 ∧ TupN H4 p (Wb.opn W (Wb.okK j.2) j.1) ∧ H4 l = some (.lst (ts.map V.ref)) ∧ ts.length = i ∧
        ∀ m t, ts[m]? = some t → ∃ x, (Wb.opn W (Wb.okK j.2) j.1)[m]? = some x ∧ H4 t = some (.tup [vN (Wb.cost W (Wb.okK j.2) j.1 x), vN x]))
      ⟨none, none, none, [], rfl, s13, hp, hl3, rfl, fun m t h => by rw [List.getElem?_nil] at h; cases h⟩ (fun i σ H4 _ h => ?_) (fun i x σ H4 hx h => ?_) fun σ H4 h => ?_
    · obtain ⟨_, _, _, _, _, _, h, _⟩ := h
      exact h.sq
    · rw [List.getElem?_map] at hx
      obtain ⟨n, hn, rfl⟩ := Option.map_eq_some_iff.mp hx
      obtain ⟨y6, y7, y8, ts, rfl, s4, hp4, hl4, hlen, hts⟩ := h
      have rn : Wb.R W (Wb.okK j.2) j.1 n := (Wb.mem_opn wf).mp (List.mem_of_getElem? hn)
      have nW : n < W.length := rn.inW wf
      have li := (List.getElem?_eq_some_iff.mp hn).1
      have lo := Wb.opn_len (W := W) (ok := Wb.okK j.2) (u := j.1)
      have k1 : Wb.Can W (n, Wb.shd W j.2 n) := ⟨nW, Wb.shd_asc cj.asc, fun x hx => cj.mem x (Wb.shd_sub hx)⟩
      obtain ⟨b1, e1⟩ := Wb.after_wrong wf rn
      -- wrong
      refine ⟨_, rfl, _, rfl, _, rfl, _, rfl, a, b, W, j, n, rfl, hW.tx s4.tx, wf, hj.tx s4.tx, by omega, nW, fun p1 H5 s5 h5 => ?_⟩
      have s05 := s4.trans s5
      refine ⟨a, p1, W, _, rfl, hW.tx s05.tx, wf, h5, k1, fun p2 H6 s6 h6 => ?_⟩
      have s06 := s05.trans s6
      -- right
      refine ⟨_, rfl, _, rfl, _, rfl, b, j, n, rfl, hj.tx s06.tx, by omega, fun p3 H7 G s7 h7 asc mG => ?_⟩
      have s07 := s06.trans s7
      have k2 : Wb.Can W (j.1, G) := ⟨cj.inW, asc, fun x hx => ((mG x).mp hx).elim (cj.mem x) fun e => e ▸ nW⟩
      obtain ⟨b2, e2⟩ := Wb.after_right wf rn mG
      refine ⟨a, p3, W, _, rfl, hW.tx s07.tx, wf, h7, k2, fun p4 H8 s8 h8 => ?_⟩
      have s08 := s07.trans s8
      have s48 := (s5.trans s6).trans (s7.trans s8)
      refine ⟨_, _, rfl, ?_⟩
      -- the row
      have hl8 := s48 _ _ hl4
      obtain ⟨xs, p', c', w1, wl, w2, w3, w4⟩ := (hW.tx s08.tx).get (K := K) nW
      have hd8 : DN P w H8 d T' := hd.same (s08 d) s08.tx
      have hT8 : Rows H8 T' T := hT.tx s08.tx
      obtain ⟨t1, v1, g1⟩ := hT8.get good (beh _ b1)
      obtain ⟨t2, v2, g2⟩ := hT8.get good (beh _ b2)
      refine ⟨_, rfl, .inl ⟨rfl, _, SqL.of hl8⟩, _, rfl, _, rfl, _, _, _, _, rfl, rfl, w1, w2, _, _, _, _, rfl, rfl, w3, atI_nat (j := 1) rfl, ?_⟩
      refine ⟨_, rfl, _, rfl, d, p2, _, T', _, rfl, rfl, h6.tx (s7.trans s8).tx, hd8, v1, _, _, _, _, rfl, rfl, SqT.of g1, atI_nat (j := 0) rfl, ?_⟩
      refine ⟨_, rfl, _, rfl, d, p4, _, T', _, rfl, rfl, h8, hd8, v2, _, _, _, _, rfl, rfl, SqT.of g2, atI_nat (j := 0) rfl, ?_⟩
      refine ⟨_, _, rfl, _, _, rfl, rfl, _, rfl, (by show 2 ≤ sizeLine; decide), fun t nt => ?_⟩
      have ev : (V.int ((Wb.pri W n : Int) + (if ((Wb.ent W (Wb.srt W (j.1, G))).1 : Int) > ((Wb.ent W (Wb.srt W (n, Wb.shd W j.2 n))).1 : Int) then ((Wb.ent W (Wb.srt W (j.1, G))).1 : Int) else ((Wb.ent W (Wb.srt W (n, Wb.shd W j.2 n))).1 : Int)))) = vN (Wb.cost W (Wb.okK j.2) j.1 n) := by
        rw [e1, e2]
        unfold Wb.cost vN
        congr 1
        split <;> omega
      dsimp only
      rw [ev]
      have hl9 : upd H8 t (.tup [vN (Wb.cost W (Wb.okK j.2) j.1 n), vN n]) l = some (.lst (ts.map V.ref)) := by rw [upd_ne (ne_of_none hl8 nt)]; exact hl8
      refine ⟨l, _, _, rfl, rfl, hl9, by rw [List.length_map]; exact small1000 (by omega), ?_⟩
      have tx : Tx H8 (upd (upd H8 t (.tup [vN (Wb.cost W (Wb.okK j.2) j.1 n), vN n])) l (.lst (ts.map V.ref ++ [.ref t]))) := (Tx.new nt).trans (Tx.put fun xs z => by rw [hl9] at z; cases z)
      refine ⟨_, _, _, ts ++ [t], rfl, (s08.put (s08.free nt)).put nlH, hp4.tx (s48.tx.trans tx), ?_, ?_, fun m t' hm => ?_⟩
      · rw [upd_same, List.map_append]
        rfl
      · rw [List.length_append, hlen]
        rfl
      · by_cases cm : m < ts.length
        · rw [List.getElem?_append_left cm] at hm
          obtain ⟨x, hx, ht⟩ := hts m t' hm
          exact ⟨x, hx, tx _ _ (s48 _ _ ht)⟩
        · have em : m = ts.length := by
            have := (List.getElem?_eq_some_iff.mp hm).1
            rw [List.length_append] at this
            have : m < ts.length + 1 := this
            omega
          subst em
          rw [List.getElem?_append_right (Nat.le_refl _), Nat.sub_self] at hm
          obtain rfl : t = t' := Option.some.inj hm
          refine ⟨n, by rw [hlen]; exact hn, ?_⟩
          rw [upd_ne (ne_of_none hl8 nt).symm, upd_same]
    · obtain ⟨y6, y7, y8, ts, rfl, s4, hp4, hl4, hlen, hts⟩ := h
      rw [List.length_map] at hlen
      have pos : 0 < (Wb.opn W (Wb.okK j.2) j.1).length := List.length_pos_iff.mpr hne
      refine ⟨_, rfl, l, ts, fun m => (((Wb.cost W (Wb.okK j.2) j.1 ((Wb.opn W (Wb.okK j.2) j.1).getD m 0) : Nat) : Int), (((Wb.opn W (Wb.okK j.2) j.1).getD m 0 : Nat) : Int)), rfl, SqL.of hl4, by omega, fun m t ht => ?_, fun m t ht le => ?_⟩
      · obtain ⟨x, hx, h⟩ := hts m t ht
        have e : (Wb.opn W (Wb.okK j.2) j.1).getD m 0 = x := by rw [List.getD_eq_getElem?_getD, hx]; rfl
        rw [h]
        dsimp only
        rw [e]
      · obtain ⟨x, hx, h⟩ := hts m t ht
        refine q t H4 s4 ?_
        rw [Wb.ent_least wf (List.mem_of_getElem? hx) fun y hy => ?_]
        · exact h
        · obtain ⟨m', hm'⟩ := List.mem_iff_getElem?.mp hy
          have := le m' (by rw [hlen]; exact (List.getElem?_eq_some_iff.mp hm').1)
          simp only [List.getD_eq_getElem?_getD, hx, hm', Option.getD_some] at this
          unfold ltP at this
          rw [Bool.or_eq_false_iff, Bool.and_eq_false_iff] at this
          simp only [decide_eq_false_iff_not] at this
          omega
end
end AH
end
section
set_option Elab.async false
set_option linter.all false
set_option maxRecDepth 100000
set_option maxHeartbeats 4000000
/-! The defs, 7: check_open, full_table. -/
namespace AH
open PySem PySem.Spec PyProof.Rows L2
section
variable {P : Program} {w : World} {K : PySem.W.Frag} {mg : Str → Option Value} {base : Heap} {C0 C fI : Addr} {fdI : FuncData}
/-! ### check_open -/
theorem scCheck : FnScope ["web", "known", "w"] ["web", "known", "w"] (defScope sCheck) := ⟨rfl, rfl, rfl, by decide +kernel, rfl, by decide +kernel, by decide +kernel⟩
def xMost : HO := .xd [(("most" : Str), .int 10)]
def spCheck (C : Addr) : Sp := fun vs H Q E => ∃ (a b : Addr) (W : Wb.Web) (S : List Nat) (u : Nat), vs = [.ref a, .ref b, vN u] ∧ WebAt H a W ∧ Wb.Wf W ∧ TupN H b S ∧ u < W.length ∧
  ((Wb.opn W (Wb.okK S) u).length ≤ 10 → ∀ H', Same H H' → Q .non H') ∧ (10 < (Wb.opn W (Wb.okK S) u).length → ∀ d H', Same H H' → H' d = some xMost → E (.ref C) (some d) H')
theorem kn_check {k : Nat} {t : Nat} (D : Def K mg "check_open" sCheck) (T : ErrTxt K mg C0 C fI) (F1 : FnOk P w K mg base CX0 1 fI fdI ["self", "most"] (spInit K C)) (hb : Binds K fdI ["self", "most"] []) (mM : mg "MOST" = some (.int 10 t)) (ml : mg "len" = none)
    (hk2 : 2 ≤ k) (G : Kn P w K mg base CX0 "open_below" ["web", "known", "u"] k (spCome K)) : Kn P w K mg base (L2.CX P w) "check_open" ["web", "known", "w"] (k + 1) (spCheck C) := by
  obtain ⟨f, fd, F, hm⟩ := D
  refine ⟨f, fd, hm, F.kp, F.binds fun _ _ _ _ _ _ us hl => match us, hl with | [_, _, _], _ => rfl, F.okX scCheck (fun vs H Q E h => ?_) (fun cdv A outer s H vs Q E hr h => ?_)⟩
  · obtain ⟨a, b, W, S, u, rfl, _⟩ := h
    rfl
  obtain ⟨a, b, W, S, u, rfl, hW, wf, hS, hu, q, e⟩ := h
  refine ⟨_, pss_one (ps_if (pt_cmpR op_gt (pe_callB call_len_seq (by rfl) ml PySem.boot_len (pa_cons (pe_kn G hr pass0 (pa_cons (pv 0) (pa_cons (pv 1) (pa_cons (pv 2) pa_nil)))) pa_nil)) (pe_glob (v := .int 10) rfl mM ⟨_, rfl⟩) (nomark _))
    (pss_one (ps_raiseTM rfl T (takes_of rfl rfl rfl rfl) F1 (hr.mono hk2) hb rfl (pe_glob (v := .int 10) rfl mM ⟨_, rfl⟩))) pss_nil), ?_⟩
  refine ⟨_, rfl, _, rfl, _, rfl, a, b, W, S, u, rfl, hW, wf, hS, hu, fun p H1 s1 hp => ?_⟩
  refine ⟨p, _, rfl, .inr hp.sq, _, _, rfl, rfl, _, rfl, ?_⟩
  rw [List.length_map]
  refine ite2 (fun c => ?_) (fun c => ?_)
  · have c' := of_decide_eq_true c
    refine mkO_of fun d H' r => ?_
    obtain ⟨_, sm, dd, ed, hd⟩ := r
    obtain rfl := Option.some.inj ed
    exact e (by omega) d H' (s1.trans sm) hd
  · have c' : ¬ (((Wb.opn W (Wb.okK S) u).length : Int) > 10) := of_decide_eq_false (Bool.eq_false_iff.mpr c)
    exact q (by omega) H1 s1
end
end AH
end
section
set_option Elab.async false
set_option linter.all false
set_option maxRecDepth 100000
set_option maxHeartbeats 4000000
/-! The defs, 8: full_table. -/
namespace AH
open PySem PySem.Spec PyProof.Rows L2
def rNotInP (P : Program) (w : World) : R2 := fun x y H Q => ∃ b d k T, x = .ref b ∧ y = .ref d ∧ KeyAt H b k ∧ DN P w H d T ∧ Q (.bl (!(valV T k).isSome)) H
theorem snoc_paired {R : α → β → Prop} : ∀ {a : List α} {b : List β}, Paired R a b → ∀ {y : β} {c : List β}, b = c ++ [y] → ∃ a' x, a = a' ++ [x] ∧ Paired R a' c ∧ R x y
  | _, _, .nil, y, c, e => by simp at e
  | _, _, .cons (a := x) (b := y') h t, y, c, e => by
    cases c with
    | nil =>
      simp only [List.nil_append, List.cons.injEq] at e
      obtain ⟨rfl, rfl⟩ := e
      cases t
      exact ⟨[], x, rfl, .nil, h⟩
    | cons z c =>
      simp only [List.cons_append, List.cons.injEq] at e
      obtain ⟨rfl, e⟩ := e
      obtain ⟨a', x', rfl, p, r⟩ := snoc_paired t e
      exact ⟨x :: a', x', rfl, .cons h p, r⟩
section
variable {P : Program} {w : World} {K : PySem.W.Frag} {mg : Str → Option Value} {base : Heap} {C : Addr}
theorem DN.ne {H : Hp} {d l : Addr} {T : List (Wb.Key × V)} (h : DN P w H d T) {xs : List V} (e : H l = some (.lst xs)) : l ≠ d := fun z => by
  obtain ⟨ks, h1, _, _⟩ := h
  rw [← z, e] at h1
  unfold dnO at h1
  cases h1
theorem DN.ex {H : Hp} {d : Addr} {T : List (Wb.Key × V)} (h : DN P w H d T) : H d ≠ none := fun z => by
  obtain ⟨ks, h1, _, _⟩ := h
  rw [z] at h1
  cases h1
theorem DN.upd {H : Hp} {d p : Addr} {T : List (Wb.Key × V)} {o : HO} (h : DN P w H d T) (n : p ≠ d) (t : Tx H (upd H p o)) : DN P w (upd H p o) d T :=
  h.same (fun x e => by rw [upd_ne n.symm]; exact e) t
theorem DN.not_tup {H : Hp} {d : Addr} {T : List (Wb.Key × V)} (h : DN P w H d T) (xs : List V) : H d ≠ some (.tup xs) := fun z => by
  obtain ⟨ks, h1, _, _⟩ := h
  rw [z] at h1
  exact dnO_tup (Option.some.inj h1).symm
/-! ### full_table -/
theorem scFull : FnScope ["web", "known", "w", "table", "line", "state", "missing", "one"] ["web", "known", "w"] (defScope sFull) := ⟨rfl, rfl, rfl, by decide +kernel, rfl, by decide +kernel, by decide +kernel⟩
def spFull (P : Program) (w : World) (C : Addr) : Sp := fun vs H Q E => ∃ (a b : Addr) (W : Wb.Web) (S : List Nat) (u : Nat), vs = [.ref a, .ref b, vN u] ∧ WebAt H a W ∧ Wb.Wf W ∧ TupN H b S ∧ Wb.Can W (u, S) ∧
  ((Wb.opn W (Wb.okK S) u).length ≤ 10 → ∀ d H' T, Same H H' → TabAt P w H' d T → Wb.Good W T → Wb.Closed W T → Wb.srt W (u, Wb.shd W S u) ∈ Wb.dom T → Q (.ref d) H') ∧ (10 < (Wb.opn W (Wb.okK S) u).length → ∀ d H', Same H H' → H' d = some xMost → E (.ref C) (some d) H')
theorem kn_full {k : Nat} (D : Def K mg "full_table" sFull) (G1 : Kn P w K mg base (L2.CX P w) "check_open" ["web", "known", "w"] k (spCheck C)) (G2 : Kn P w K mg base CX0 "short_of" ["web", "state"] k spShort) (G3 : Kn P w K mg base CX0 "state_of" ["web", "known", "u"] k spState)
    (G4 : Kn P w K mg base CX0 "shorts_behind" ["web", "state"] k spShorts) (G5 : Kn P w K mg base CX0 "price_by" ["web", "table", "state"] k (spPriceBy P w)) : Kn P w K mg base (L2.CX P w) "full_table" ["web", "known", "w"] (k + 1) (spFull P w C) := by
  obtain ⟨f, fd, F, hm⟩ := D
  refine ⟨f, fd, hm, F.kp, F.binds fun _ _ _ _ _ _ us hl => match us, hl with | [_, _, _], _ => rfl, F.okX scFull (fun vs H Q E h => ?_) (fun cdv A outer s H vs Q E hr h => ?_)⟩
  · obtain ⟨a, b, W, S, u, rfl, _⟩ := h
    rfl
  obtain ⟨a, b, W, S, u, rfl, hW, wf, hS, cS, q, e⟩ := h
  have hu64 := hr.units
  have hl := cS.len
  have w12 := wf.len
  refine ⟨_, pss_cons (ps_expr (pe_kn G1 hr (passes_call (takes_of rfl rfl rfl rfl) (fun _ _ _ _ h => h)) (pa_cons (pv 0) (pa_cons (pv 1) (pa_cons (pv 2) pa_nil)))))
    (PSs.nox (pss_cons (ps_asg (pe_tup (pa_cons pe_dnnew (pa_cons (pe_lst (pa_cons (pe_kn G2 hr pass0 (pa_cons (pv 0) (pa_cons (pe_kn G3 hr pass0 (pa_cons (pv 0) (pa_cons (pv 1) (pa_cons (pv 2) pa_nil)))) pa_nil))) pa_nil)) pa_nil)))
        (pg_tup rfl (pgs_cons (pg_name (i := 3) scFull.nd rfl (.inr rfl)) (pgs_cons (pg_name (i := 4) scFull.nd rfl (.inl rfl)) pgs_nil))))
    (pss_cons (ps_while PassesOwn.never (pt_cmpR (op_neNil hu64) (pv 4) (pe_lst pa_nil) (nomark _))
      (pss_cons (ps_set (i := 5) scFull.nd rfl (.inl rfl) (pe_ix ix_list (pv 4) (pe_un un_neg pe_int) (fun _ _ => rfl)))
      (pss_cons (ps_set (i := 6) scFull.nd rfl (.inl rfl) (pe_ifExp (pt_cmpR (op_in_dn hu64) (pv 5) (pv 3) (by rfl)) (pe_lst pa_nil)
        (pe_lc (own := [("one", 7)]) (g := gName 7) (by rfl) scFull.nd (pi_list (pe_kn G4 hr pass0 (pa_cons (pv 0) (pa_cons (pv 5) pa_nil)))) (blkOk_by (N := ["web", "known", "w", "table", "line", "state", "missing", "one"]) (sc := defScope sFull) (by decide +kernel)) (fun _ _ _ _ _ => pg_name (i := 7) scFull.nd rfl (.inl rfl))
          (fun _ _ _ _ _ => pts_one (pt_cmpR (show OpR _ _ (rNotInP P w) from op_notin_dn hu64) (pv 7) (pv 3) (by rfl))) (fun _ _ _ _ _ => pv 7))))
      (pss_one (ps_if (pt_cmpR (op_eqNil hu64) (pv 6) (pe_lst pa_nil) (nomark _))
        (pss_cons (ps_expr (pe_bm0 PySem.F.plainAttrs_list PySem.F.slot_list_pop PySem.F.type_list_pop mt_pop (pv 4)))
          (pss_one (ps_if (pt_cmpR (op_notin_dn hu64) (pv 5) (pv 3) (by rfl)) (pss_one (ps_asg (pe_kn G5 hr pass0 (pa_cons (pv 0) (pa_cons (pv 3) (pa_cons (pv 5) pa_nil)))) (pg_sub (pv 3) (pv 5) (set_dn hu64)))) pss_nil)))
        (pss_one (ps_expr (pe_bm PySem.F.plainAttrs_list PySem.F.slot_list_extend PySem.F.type_list_extend mt_extend (pv 4) (pa_cons (pv 6) pa_nil)))))))))
    (pss_one (ps_ret (pv 3)))))), ?_⟩
  refine ⟨_, rfl, _, rfl, _, rfl, a, b, W, S, u, rfl, hW, wf, hS, cS.inW, fun h10 H1 s1 => ?_, e⟩
  refine fun d H2 nd hd2 dn2 => ?_
  have cSh : Wb.Can W (u, Wb.shd W S u) := ⟨cS.inW, Wb.shd_asc cS.asc, fun x hx => cS.mem x (Wb.shd_sub hx)⟩
  have sd : ∀ {G1 G2 : Hp} {p : Addr}, Same G1 G2 → (∀ c, c ≠ p → G2 c = G1 c) → True := fun _ _ => trivial
  have s2 : Same H H2 := fun c o z => by rw [hd2 c (ne_of_none (s1 _ _ z) nd)]; exact s1 _ _ z
  have ndH : H d = none := s1.free nd
  refine ⟨_, rfl, _, rfl, _, rfl, _, rfl, a, b, W, S, u, rfl, hW.tx s2.tx, wf, hS.tx s2.tx, by show S.length ≤ 1000; have : S.length ≤ W.length := hl; omega, cS.inW, fun p H3 s3 h3 => ?_⟩
  have s03 := s2.trans s3
  refine ⟨a, p, W, _, rfl, hW.tx s03.tx, wf, h3, cSh, fun p2 H4 s4 h4 => ?_⟩
  have s04 := s03.trans s4
  have dn4 : DN P w H4 d [] := dn2.same ((s3.trans s4) d) (s3.trans s4).tx
  refine ⟨(by show 1 ≤ sizeLine; decide), fun l nl => ⟨(by show 2 ≤ sizeLine; decide), fun t nt => ⟨t, _, rfl, SqT.of upd_same, rfl, _, _, rfl, _, _, rfl, rfl, ?_⟩⟩⟩
  have s05 : Same H4 (upd H4 l (.lst [.ref p2])) := Same.new nl
  have s06 : Same (upd H4 l (.lst [.ref p2])) (upd (upd H4 l (.lst [.ref p2])) t (.tup [.ref d, .ref l])) := Same.new nt
  have nlH : H l = none := s04.free nl
  generalize hk0 : Wb.srt W (u, Wb.shd W S u) = k0 at *
  have ck0 : Wb.Can W k0 := by rw [← hk0]; exact Wb.srt_can cS.inW
  obtain ⟨m0, lp0⟩ := Wb.Lp.start wf ck0
  refine ⟨fun m σ H5 => ∃ T T' as ks y5 y6, σ = [some (.ref a), some (.ref b), some (vN u), some (.ref d), some (.ref l), y5, y6, none] ∧ Same H H5 ∧ DN P w H5 d T' ∧ Rows H5 T' T ∧ H5 l = some (.lst (as.map V.ref)) ∧ Paired (KeyAt H5) as ks ∧ Wb.Lp W k0 T ks m,
    ⟨m0, [], [], [p2], [k0], none, none, rfl, s04.trans (s05.trans s06), dn4.same ((s05.trans s06) d) (s05.trans s06).tx, .nil, s06 _ _ upd_same, .cons (h4.tx (s05.trans s06).tx) .nil, lp0⟩, fun m σ H5 hI => ?_⟩
  obtain ⟨T, T', as, ks, y5, y6, rfl, s5, dn5, rw5, hl5, pk5, lp⟩ := hI
  have hdl : l ≠ d := dn5.ne hl5
  -- while line != []
  refine ⟨_, rfl, Nat.zero_le _, fun e1 ne1 => ⟨l, e1, as.map V.ref, rfl, rfl, SqL.of ((Same.new ne1) _ _ hl5), upd_same, dat_keys K _ as ks (keys_tx (Same.new ne1).tx pk5), _, rfl, ?_⟩⟩
  have s56 : Same H5 (upd H5 e1 (.lst [])) := Same.new ne1
  have s6 : Same H (upd H5 e1 (.lst [])) := s5.put (s5.free ne1)
  have dn6 := dn5.same (s56 d) s56.tx
  have rw6 : Rows (upd H5 e1 (.lst [])) T' T := rw5.tx s56.tx
  have hl6 := s56 _ _ hl5
  have pk6 := keys_tx s56.tx pk5
  revert s6 dn6 rw6 hl6 pk6
  generalize upd H5 e1 (.lst []) = H6
  intro s6 dn6 rw6 hl6 pk6
  have tl := lp.tabSmall wf
  have ll := lp.small
  have lenT : T'.length = T.length := rw6.len
  rw [isEmpty_map]
  cases hL : as.isEmpty with
  | true =>
    obtain rfl : as = [] := by cases as with | nil => rfl | cons _ _ => cases hL
    cases pk6
    refine iteF ⟨_, rfl, q h10 d H6 T s6 ⟨T', dn6, rw6⟩ lp.good lp.closed ?_⟩
    rcases lp.init with h | h
    · exact h
    · cases h
  | false =>
    obtain ⟨ks1, j, rfl⟩ := snoc_cases ks (by
      have := paired_len pk6
      cases as with
      | nil => cases hL
      | cons _ _ => cases ks with
        | nil => cases this
        | cons _ _ => rfl)
    obtain ⟨as1, x, rfl, pk1, kx⟩ := snoc_paired pk6 rfl
    have cj : Wb.Can W j := lp.can j (List.mem_append_right _ List.mem_cons_self)
    have lenA := paired_len pk1
    rw [List.length_append] at ll
    have ll' : ks1.length + 1 ≤ 200 := ll
    refine iteT ⟨_, fun σ' H' h' => h', ?_⟩
    -- state = line[-1]
    refine ⟨_, rfl, _, rfl, l, _, _, _, rfl, rfl, SqL.of hl6, by rw [List.map_append]; exact atI_last _ _, ?_⟩
    -- missing
    refine ⟨_, rfl, _, rfl, x, d, j, T', rfl, rfl, kx, dn6, _, rfl, ?_⟩
    have pop : ∀ (as1 : List Addr), ((as1 ++ [x]).map V.ref)[((as1 ++ [x]).map V.ref).length - 1]? = some (.ref x) ∧ ((as1 ++ [x]).map V.ref).dropLast = as1.map V.ref := fun as1 => by
      constructor
      · rw [List.length_map, List.map_append, List.length_append]
        simp
      · rw [List.map_append]
        simp
    by_cases hj : j ∈ Wb.dom T
    · have hT := (rw6.isSome j).mpr hj
      obtain ⟨m', lm, lp'⟩ := lp.hit hj
      rw [hT]
      refine iteT ⟨Nat.zero_le _, fun M nM => ?_⟩
      have s67 : Same H6 (upd H6 M (.lst [])) := Same.new nM
      refine ⟨_, rfl, Nat.zero_le _, fun e2 ne2 => ?_⟩
      have s78 : Same (upd H6 M (.lst [])) (upd (upd H6 M (.lst [])) e2 (.lst [])) := Same.new ne2
      have s68 := s67.trans s78
      refine ⟨M, e2, [], rfl, rfl, SqL.of (s78 _ _ upd_same), upd_same, dat_nats K _ [], _, rfl, iteT ?_⟩
      have hl8 := s68 _ _ hl6
      refine ⟨_, rfl, .inl ⟨rfl, _, SqL.of hl8⟩, l, _, _, rfl, rfl, hl8, (pop as1).1, ?_⟩
      rw [(pop as1).2]
      have tx : Tx H6 (upd (upd (upd H6 M (.lst [])) e2 (.lst [])) l (.lst (as1.map V.ref))) := s68.tx.trans (Tx.put fun xs z => by rw [hl8] at z; cases z)
      have dn9 : DN P w (upd (upd (upd H6 M (.lst [])) e2 (.lst [])) l (.lst (as1.map V.ref))) d T' := (dn6.same (s68 d) s68.tx).upd hdl (Tx.put fun xs z => by rw [hl8] at z; cases z)
      refine ⟨_, rfl, _, rfl, x, d, j, T', rfl, rfl, kx.tx tx, dn9, _, rfl, ?_⟩
      rw [hT]
      refine iteF ⟨m', lm, T, T', as1, ks1, _, _, rfl, ((s6.trans s67).trans s78).put nlH, dn9, rw6.tx tx, upd_same, keys_tx tx pk1, lp'⟩
    · have hT : (valV T' j).isSome = false := Bool.eq_false_iff.mpr fun z => hj ((rw6.isSome j).mp z)
      rw [hT]
      refine iteF ?_
      refine ⟨_, rfl, _, rfl, a, x, W, j, rfl, hW.tx s6.tx, wf, kx, cj, fun B H7 bs s7 hB pB => ?_⟩
      have s07 := s6.trans s7
      have lb : bs.length = 2 * Wb.cnt W j := by rw [paired_len pB, Wb.sb_len]
      have c12 := Wb.cnt_le wf j
      refine ⟨B, rfl, ⟨_, SqL.of hB⟩, fun M nM => ?_⟩
      have dn7 : DN P w H7 d T' := dn6.same (s7 d) s7.tx
      have rw7 : Rows H7 T' T := rw6.tx s7.tx
      have hMd : M ≠ d := fun z => dn7.ex (by rw [← z]; exact nM)
      have hMl : M ≠ l := fun z => by rw [z, s7 _ _ hl6] at nM; cases nM
      refine lc_list (K := K) (a := B) (xs := bs.map V.ref) (fun i H8 => Same H7 H8 ∧ ∃ ms, H8 M = some (.lst (ms.map V.ref)) ∧ Paired (KeyAt H8) ms (((Wb.sb W j).take i).filter fun i => decide (i ∉ Wb.dom T)))
        ⟨Same.new nM, [], upd_same, .nil⟩ (fun i H8 _ h => SqL.of (h.1 _ _ hB)) (fun i v H8 hv h => ?_) fun H8 h => ?_
      · rw [List.getElem?_map] at hv
        obtain ⟨n, hn, rfl⟩ := Option.map_eq_some_iff.mp hv
        obtain ⟨s8, ms, hM, pM⟩ := h
        obtain ⟨y, hy, ky⟩ := paired_get pB hn
        have li := (List.getElem?_eq_some_iff.mp hn).1
        have et : (Wb.sb W j).take (i + 1) = (Wb.sb W j).take i ++ [y] := by rw [List.take_add_one, hy]; rfl
        refine ⟨rfl, _, rfl, _, rfl, n, d, y, T', rfl, rfl, ky.tx s8.tx, dn7.same (s8 d) s8.tx, _, rfl, ?_⟩
        rw [et, List.filter_append]
        by_cases hy2 : y ∈ Wb.dom T
        · rw [(rw7.isSome y).mpr hy2]
          refine iteF ⟨s8, ms, hM, ?_⟩
          rw [List.filter_cons_of_neg (by rw [decide_eq_true_iff]; exact fun z => z hy2), List.filter_nil, List.append_nil]
          exact pM
        · rw [Bool.eq_false_iff.mpr fun z => hy2 ((rw7.isSome y).mp z)]
          have lm : ms.length ≤ 1000 := by
            rw [paired_len pM]
            have := List.length_filter_le (fun i => decide (i ∉ Wb.dom T)) ((Wb.sb W j).take i)
            have := List.length_take_le i (Wb.sb W j)
            omega
          have tx : Tx H8 (upd H8 M (.lst (ms.map V.ref ++ [.ref n]))) := Tx.put fun xs z => by rw [hM] at z; cases z
          refine iteT ⟨_, rfl, _, hM, by rw [List.length_map]; exact small1000 lm, s8.put nM, ms ++ [n], ?_, ?_⟩
          · rw [upd_same, List.map_append]
            rfl
          · rw [List.filter_cons_of_pos (by rw [decide_eq_true_iff]; exact hy2), List.filter_nil]
            exact paired_app (.cons ((ky.tx s8.tx).tx tx) .nil) (keys_tx tx pM)
      · obtain ⟨s8, ms, hM, pM⟩ := h
        rw [List.take_of_length_le (by rw [List.length_map, lb, Wb.sb_len]; exact Nat.le_refl _)] at pM
        have mem : ∀ i, i ∈ (Wb.sb W j).filter (fun i => decide (i ∉ Wb.dom T)) ↔ i ∈ Wb.sb W j ∧ i ∉ Wb.dom T := fun i => by rw [List.mem_filter, decide_eq_true_iff]
        have lenM : ((Wb.sb W j).filter (fun i => decide (i ∉ Wb.dom T))).length ≤ 2 * Wb.cnt W j := by rw [← Wb.sb_len]; exact List.length_filter_le _ _
        revert pM mem lenM
        generalize (Wb.sb W j).filter (fun i => decide (i ∉ Wb.dom T)) = js
        intro pM mem lenM
        have s68 := s7.trans s8
        refine ⟨_, rfl, Nat.zero_le _, fun e2 ne2 => ?_⟩
        have s89 : Same H8 (upd H8 e2 (.lst [])) := Same.new ne2
        refine ⟨M, e2, ms.map V.ref, rfl, rfl, SqL.of (s89 _ _ hM), upd_same, dat_keys K _ ms js (keys_tx s89.tx pM), _, rfl, ?_⟩
        have s69 := s68.trans s89
        have s09 : Same H (upd H8 e2 (.lst [])) := s6.trans s69
        have hM9 := s89 _ _ hM
        have dn9 := dn6.same (s69 d) s69.tx
        have rw9 := rw6.tx s69.tx
        have hl9 := s69 _ _ hl6
        have pk9 := keys_tx s69.tx pk1
        have kx9 := kx.tx s69.tx
        have pM9 := keys_tx s89.tx pM
        revert s09 hM9 dn9 rw9 hl9 pk9 kx9 pM9
        generalize upd H8 e2 (.lst []) = H9
        intro s09 hM9 dn9 rw9 hl9 pk9 kx9 pM9
        rw [isEmpty_map]
        cases hms : ms.isEmpty with
        | true =>
          obtain rfl : ms = [] := by cases ms with | nil => rfl | cons _ _ => cases hms
          cases pM9
          have all : ∀ i ∈ Wb.sb W j, i ∈ Wb.dom T := fun i hi => Decidable.byContradiction fun n => nomatch (mem i).mpr ⟨hi, n⟩
          obtain ⟨m', lm, lp'⟩ := lp.store hj all
          refine iteT ⟨_, rfl, .inl ⟨rfl, _, SqL.of hl9⟩, l, _, _, rfl, rfl, hl9, (pop as1).1, ?_⟩
          rw [(pop as1).2]
          have txl : Tx H9 (upd H9 l (.lst (as1.map V.ref))) := Tx.put fun xs z => by rw [hl9] at z; cases z
          have dn10 : DN P w (upd H9 l (.lst (as1.map V.ref))) d T' := dn9.upd hdl txl
          refine ⟨_, rfl, _, rfl, x, d, j, T', rfl, rfl, kx9.tx txl, dn10, _, rfl, ?_⟩
          rw [hT]
          have s10 : Same H (upd H9 l (.lst (as1.map V.ref))) := s09.put nlH
          refine iteT ⟨_, rfl, _, rfl, _, rfl, a, d, x, W, T, j, rfl, hW.tx s10.tx, wf, ⟨T', dn10, rw9.tx txl⟩, lp.good, kx9.tx txl, cj, all, fun t H11 s11 h11 => ?_⟩
          have dn11 := dn10.same (s11 d) s11.tx
          refine ⟨_, rfl, _, rfl, d, x, j, T', rfl, rfl, (kx9.tx txl).tx s11.tx, dn11, by rw [lenT]; exact Nat.lt_of_le_of_lt tl (by decide), fun H12 hne dn12 => ?_⟩
          have tx12 : Tx H11 H12 := fun c ys z => by rw [hne c fun w => dn11.not_tup ys (by rw [← w]; exact z)]; exact z
          have ep : putK T' j (.ref t) = T' ++ [(j, .ref t)] := by
            unfold putK
            rw [valV_any, hT, if_neg Bool.false_ne_true]
          rw [ep] at dn12
          have dn12 : DN P w H12 d (T' ++ [(j, V.ref t)]) := dn12
          refine ⟨m', lm, T ++ [(j, Wb.ent W j)], T' ++ [(j, V.ref t)], as1, ks1, _, _, rfl, fun c o z => ?_, dn12, paired_app (.cons ⟨rfl, t, rfl, h11.tx tx12⟩ .nil) (((rw9.tx txl).tx s11.tx).tx tx12), ?_, keys_tx tx12 (keys_tx s11.tx (keys_tx txl pk9)), lp'⟩
          · rw [hne c (ne_of_none z ndH)]
            exact s11 _ _ (s10 _ _ z)
          · rw [hne l hdl]
            exact s11 _ _ upd_same
        | false =>
          have hne : js ≠ [] := fun z => by
            have := paired_len pM
            rw [z] at this
            cases ms with
            | nil => cases hms
            | cons _ _ => cases this
          obtain ⟨m', lm, lp'⟩ := lp.push wf mem lenM hne
          refine iteF ⟨_, rfl, .inl ⟨rfl, _, SqL.of hl9⟩, _, rfl, l, M, _, _, rfl, rfl, hl9, hM9, ?_, ?_⟩
          · rw [List.length_map, List.length_map, List.length_append, lenA, paired_len pM]
            exact Nat.le_of_lt (small1000 (by show ks1.length + 1 + js.length ≤ 1000; omega))
          have txl : Tx H9 (upd H9 l (.lst ((as1 ++ [x]).map V.ref ++ ms.map V.ref))) := Tx.put fun xs z => by rw [hl9] at z; cases z
          refine ⟨m', lm, T, T', as1 ++ [x] ++ ms, ks1 ++ [j] ++ js, _, _, rfl, s09.put nlH, dn9.upd hdl txl, rw9.tx txl, ?_, ?_, lp'⟩
          · rw [upd_same, List.map_append (l₁ := as1 ++ [x])]
          · exact paired_app (keys_tx txl pM9) (paired_app (.cons (kx9.tx txl) .nil) (keys_tx txl pk9))
end
end AH
end
section
set_option Elab.async false
set_option linter.all false
set_option maxRecDepth 100000
set_option maxHeartbeats 4000000
/-! The defs, 9: price_in, least_price, plan_by, least_plan. -/
namespace AH
open PySem PySem.Spec PyProof.Rows L2
/-- a plan in the heap -/
def PlanAt (H : Hp) : Addr → Wb.Pl → Prop
  | a, .bl u => H a = some (.tup [.str "blame", vN u])
  | a, .ask x p q => ∃ b c, H a = some (.tup [.str "ask", vN x, .ref b, .ref c]) ∧ PlanAt H b p ∧ PlanAt H c q
theorem PlanAt.tx {H H' : Hp} (e : Tx H H') : ∀ {p : Wb.Pl} {a : Addr}, PlanAt H a p → PlanAt H' a p
  | .bl u, a, h => e _ _ h
  | .ask x p q, a, ⟨b, c, h, h1, h2⟩ => ⟨b, c, e _ _ h, PlanAt.tx e h1, PlanAt.tx e h2⟩
section
variable {P : Program} {w : World} {K : PySem.W.Frag} {mg : Str → Option Value} {base : Heap} {C : Addr}
/-! ### price_in -/
theorem scPriceIn : FnScope ["web", "table", "state"] ["web", "table", "state"] (defScope sPriceIn) := ⟨rfl, rfl, rfl, by decide +kernel, rfl, by decide +kernel, by decide +kernel⟩
def spPriceIn (P : Program) (w : World) : Sp := fun vs H Q _ => ∃ (a d b : Addr) (W : Wb.Web) (T : Wb.Tab) (j : Wb.Key), vs = [.ref a, .ref d, .ref b] ∧ WebAt H a W ∧ Wb.Wf W ∧ TabAt P w H d T ∧ Wb.Good W T ∧ KeyAt H b j ∧ Wb.Can W j ∧ Wb.srt W j ∈ Wb.dom T ∧
  ∀ H', Same H H' → Q (vN (Wb.P W (Wb.okK j.2) j.1)) H'
theorem kn_priceIn {k : Nat} (D : Def K mg "price_in" sPriceIn) (G : Kn P w K mg base CX0 "short_of" ["web", "state"] k spShort) : Kn P w K mg base CX0 "price_in" ["web", "table", "state"] (k + 1) (spPriceIn P w) := by
  obtain ⟨f, fd, F, hm⟩ := D
  refine ⟨f, fd, hm, F.kp, F.binds fun _ _ _ _ _ _ us hl => match us, hl with | [_, _, _], _ => rfl, F.ok scPriceIn (fun vs H Q E h => ?_) (fun cdv A outer s H vs Q E hr h => ?_)⟩
  · obtain ⟨a, d, b, W, T, j, rfl, _⟩ := h
    rfl
  obtain ⟨a, d, b, W, T, j, rfl, hW, wf, ⟨T', hd, hT⟩, good, hj, cj, hin, q⟩ := h
  have hu64 := hr.units
  refine ⟨_, pss_one (ps_ret (pe_ix ix_tup (pe_dnget hu64 (pv 1) (pe_kn G hr pass0 (pa_cons (pv 0) (pa_cons (pv 2) pa_nil))) (fun _ _ => rfl)) pe_int (fun _ _ => rfl))), ?_⟩
  refine ⟨_, rfl, _, rfl, _, rfl, a, b, W, j, rfl, hW, wf, hj, cj, fun p H1 s1 h1 => ?_⟩
  obtain ⟨t, v, g⟩ := (hT.tx s1.tx).get good hin
  refine ⟨d, p, _, T', _, rfl, rfl, h1, hd.same (s1 d) s1.tx, v, _, _, _, _, rfl, rfl, SqT.of g, atI_nat (j := 0) rfl, ?_⟩
  have := q H1 s1
  rw [Wb.ent_srt wf]
  exact this
/-! ### least_price -/
theorem scLeast : FnScope ["web", "known", "w"] ["web", "known", "w"] (defScope sLeast) := ⟨rfl, rfl, rfl, by decide +kernel, rfl, by decide +kernel, by decide +kernel⟩
def spLeast (C : Addr) : Sp := fun vs H Q E => ∃ (a b : Addr) (W : Wb.Web) (S : List Nat) (u : Nat), vs = [.ref a, .ref b, vN u] ∧ WebAt H a W ∧ Wb.Wf W ∧ TupN H b S ∧ Wb.Can W (u, S) ∧
  ((Wb.opn W (Wb.okK S) u).length ≤ 10 → ∀ H', Same H H' → Q (vN (Wb.P W (Wb.okK S) u)) H') ∧ (10 < (Wb.opn W (Wb.okK S) u).length → ∀ d H', Same H H' → H' d = some xMost → E (.ref C) (some d) H')
theorem kn_least {k : Nat} (D : Def K mg "least_price" sLeast) (G1 : Kn P w K mg base (L2.CX P w) "full_table" ["web", "known", "w"] k (spFull P w C)) (G2 : Kn P w K mg base CX0 "price_in" ["web", "table", "state"] k (spPriceIn P w)) (G3 : Kn P w K mg base CX0 "state_of" ["web", "known", "u"] k spState) :
    Kn P w K mg base (L2.CX P w) "least_price" ["web", "known", "w"] (k + 1) (spLeast C) := by
  obtain ⟨f, fd, F, hm⟩ := D
  refine ⟨f, fd, hm, F.kp, F.binds fun _ _ _ _ _ _ us hl => match us, hl with | [_, _, _], _ => rfl, F.okX scLeast (fun vs H Q E h => ?_) (fun cdv A outer s H vs Q E hr h => ?_)⟩
  · obtain ⟨a, b, W, S, u, rfl, _⟩ := h
    rfl
  obtain ⟨a, b, W, S, u, rfl, hW, wf, hS, cS, q, e⟩ := h
  have hl := cS.len
  have w12 := wf.len
  refine ⟨_, pss_one (ps_ret (pe_kn G2 hr pass0 (pa_cons (pv 0) (pa_cons (pe_kn G1 hr (passes_call (takes_of rfl rfl rfl rfl) (fun _ _ _ _ h => h)) (pa_cons (pv 0) (pa_cons (pv 1) (pa_cons (pv 2) pa_nil)))) (pa_cons (pe_kn G3 hr pass0 (pa_cons (pv 0) (pa_cons (pv 1) (pa_cons (pv 2) pa_nil)))) pa_nil))))), ?_⟩
  refine ⟨_, rfl, _, rfl, _, rfl, _, rfl, a, b, W, S, u, rfl, hW, wf, hS, cS, fun h10 d H1 T s1 hT good clo hin => ?_, e⟩
  refine ⟨_, rfl, _, rfl, _, rfl, a, b, W, S, u, rfl, hW.tx s1.tx, wf, hS.tx s1.tx, by show S.length ≤ 1000; have : S.length ≤ W.length := hl; omega, cS.inW, fun p H2 s2 h2 => ?_⟩
  obtain ⟨T', hd, hT⟩ := hT
  have cSh : Wb.Can W (u, Wb.shd W S u) := ⟨cS.inW, Wb.shd_asc cS.asc, fun x hx => cS.mem x (Wb.shd_sub hx)⟩
  refine ⟨a, d, p, W, T, _, rfl, hW.tx (s1.trans s2).tx, wf, ⟨T', hd.same (s2 d) s2.tx, hT.tx s2.tx⟩, good, h2, cSh, hin, fun H3 s3 => ?_⟩
  have := q h10 H3 ((s1.trans s2).trans s3)
  rw [← Wb.P_congr wf (Wb.shd_eqv (S := S) (u := u) wf)] at this
  exact this
/-! ### plan_by -/
theorem scPlanBy : FnScope ["web", "table", "state", "x", "wrong"] ["web", "table", "state"] (defScope sPlanBy) := ⟨rfl, rfl, rfl, by decide +kernel, rfl, by decide +kernel, by decide +kernel⟩
def spPlanBy (P : Program) (w : World) (n : Nat) : Sp := fun vs H Q _ => ∃ (a d b : Addr) (W : Wb.Web) (T : Wb.Tab) (j : Wb.Key), vs = [.ref a, .ref d, .ref b] ∧ WebAt H a W ∧ Wb.Wf W ∧ TabAt P w H d T ∧ Wb.Good W T ∧ Wb.Closed W T ∧ KeyAt H b j ∧ Wb.Can W j ∧ Wb.srt W j ∈ Wb.dom T ∧ Wb.cnt W j < n ∧
  ∀ p H', Same H H' → PlanAt H' p (Wb.BP W (Wb.okK j.2) j.1) → Q (.ref p) H'
theorem kn_planBy {k : Nat} (D : Def K mg "plan_by" sPlanBy) (G1 : Kn P w K mg base CX0 "short_of" ["web", "state"] k spShort) (G3 : Kn P w K mg base CX0 "after_wrong" ["web", "state", "x"] k spWrong) (G4 : Kn P w K mg base CX0 "after_right" ["state", "x"] k spRight) :
    ∀ n, Kn P w K mg base CX0 "plan_by" ["web", "table", "state"] (k + n) (spPlanBy P w n)
  | 0 => by
    obtain ⟨f, fd, F, hm⟩ := D
    have no : ∀ vs H Q E, ¬ spPlanBy P w 0 vs H Q E := fun vs H Q E h => by
      obtain ⟨a, d, b, W, T, j, _, _, _, _, _, _, _, _, _, h, _⟩ := h
      exact Nat.not_lt_zero _ h
    exact ⟨f, fd, hm, F.kp, F.binds fun _ _ _ _ _ _ us hl => match us, hl with | [_, _, _], _ => rfl, ⟨fun vs H Q E h => absurd h (no vs H Q E), fun A outer s H args us vs Q E _ _ _ _ h => absurd h (no vs H Q E)⟩⟩
  | n + 1 => by
    have G := kn_planBy D G1 G3 G4 n
    obtain ⟨f, fd, F, hm⟩ := D
    refine ⟨f, fd, hm, F.kp, F.binds fun _ _ _ _ _ _ us hl => match us, hl with | [_, _, _], _ => rfl, F.ok scPlanBy (k := k + n) (fun vs H Q E h => ?_) (fun cdv A outer s H vs Q E hr h => ?_)⟩
    · obtain ⟨a, d, b, W, T, j, rfl, _⟩ := h
      rfl
    obtain ⟨a, d, b, W, T, j, rfl, hW, wf, ⟨T', hd, hT⟩, good, clo, ⟨c, hb, hc⟩, cj, hin, hn, q⟩ := h
    have hj : KeyAt H b j := ⟨c, hb, hc⟩
    have hu64 := hr.units
    have hl := cj.len
    have w12 := wf.len
    have hr0 := hr.mono (Nat.le_add_right k n)
    refine ⟨_, pss_cons (ps_set (i := 3) scPlanBy.nd rfl (.inl rfl) (pe_ix ix_tup (pe_dnget hu64 (pv 1) (pe_kn G1 hr0 pass0 (pa_cons (pv 0) (pa_cons (pv 2) pa_nil))) (fun _ _ => rfl)) pe_int (fun _ _ => rfl)))
      (pss_cons (ps_if (pt_cmpR op_isN (pv 3) pe_non (nomark _)) (pss_one (ps_ret (pe_tup (pa_cons pe_str (pa_cons (pe_ix ix_tup (pv 2) pe_int (fun _ _ => rfl)) pa_nil))))) pss_nil)
      (pss_cons (ps_set (i := 4) scPlanBy.nd rfl (.inl rfl) (pe_kn G hr pass0 (pa_cons (pv 0) (pa_cons (pv 1) (pa_cons (pe_kn G3 hr0 pass0 (pa_cons (pv 0) (pa_cons (pv 2) (pa_cons (pv 3) pa_nil)))) pa_nil)))))
      (pss_one (ps_ret (pe_tup (pa_cons pe_str (pa_cons (pv 3) (pa_cons (pv 4) (pa_cons (pe_kn G hr pass0 (pa_cons (pv 0) (pa_cons (pv 1) (pa_cons (pe_kn G4 hr0 pass0 (pa_cons (pv 2) (pa_cons (pv 3) pa_nil))) pa_nil)))) pa_nil))))))))), ?_⟩
    refine ⟨_, rfl, _, rfl, _, rfl, a, b, W, j, rfl, hW, wf, hj, cj, fun p H1 s1 h1 => ?_⟩
    obtain ⟨t, v, g⟩ := (hT.tx s1.tx).get good hin
    rw [Wb.ent_srt wf] at g
    refine ⟨d, p, _, T', _, rfl, rfl, h1, hd.same (s1 d) s1.tx, v, _, _, _, _, rfl, rfl, SqT.of g, atI_nat (j := 1) rfl, ?_⟩
    have e2 : (Wb.ent W j).2 = Wb.am W (Wb.okK j.2) j.1 := rfl
    rw [e2]
    cases ham : Wb.am W (Wb.okK j.2) j.1 with
    | none =>
      refine ⟨_, rfl, rfl, _, rfl, iteT ?_⟩
      refine ⟨_, rfl, _, _, _, _, rfl, rfl, SqT.of (s1 _ _ hb), atI_nat (j := 0) rfl, (by show 2 ≤ sizeLine; decide), fun t2 nt2 => q t2 _ (s1.put (s1.free nt2)) ?_⟩
      rw [Wb.BP_none wf ham]
      exact upd_same
    | some x =>
      have rx : Wb.R W (Wb.okK j.2) j.1 x := by
        by_cases ho : Wb.opn W (Wb.okK j.2) j.1 = []
        · rw [Wb.am_none wf ho] at ham
          cases ham
        · obtain ⟨x', h1, h2, _⟩ := Wb.am_some wf ho
          rw [ham] at h1
          obtain rfl := Option.some.inj h1
          exact h2
      have nW : x < W.length := rx.inW wf
      have beh : ∀ i ∈ Wb.sb W j, i ∈ Wb.dom T := fun i hi => clo _ hin i (by rw [Wb.sb_srt wf]; exact hi)
      have k1 : Wb.Can W (x, Wb.shd W j.2 x) := ⟨nW, Wb.shd_asc cj.asc, fun x hx => cj.mem x (Wb.shd_sub hx)⟩
      have b1 := (Wb.after_wrong wf rx).1
      have c1 : Wb.cnt W (x, Wb.shd W j.2 x) < n := by
        have := Wb.opn_wrong wf rx
        have e : Wb.cnt W (x, Wb.shd W j.2 x) = (Wb.opn W (Wb.okK j.2) x).length := by
          unfold Wb.cnt
          rw [(Wb.shd_eqv (S := j.2) (u := x) wf).opn]
        have : Wb.cnt W j = (Wb.opn W (Wb.okK j.2) j.1).length := rfl
        omega
      have hne : decide (optV (some x) = V.non) = false := decide_eq_false (fun z => by cases z)
      refine ⟨_, rfl, rfl, _, rfl, ?_⟩
      rw [hne]
      refine iteF ?_
      refine ⟨_, rfl, _, rfl, _, rfl, _, rfl, _, rfl, a, b, W, j, x, rfl, hW.tx s1.tx, wf, hj.tx s1.tx, by omega, nW, fun p2 H2 s2 h2 => ?_⟩
      have s02 := s1.trans s2
      refine ⟨a, d, p2, W, T, _, rfl, hW.tx s02.tx, wf, ⟨T', hd.same (s02 d) s02.tx, hT.tx s02.tx⟩, good, clo, h2, k1, beh _ b1, c1, fun p3 H3 s3 h3 => ?_⟩
      have s03 := s02.trans s3
      refine ⟨_, rfl, _, rfl, _, rfl, _, rfl, _, rfl, _, rfl, b, j, x, rfl, hj.tx s03.tx, by omega, fun p4 H4 G4 s4 h4 asc mG => ?_⟩
      have s04 := s03.trans s4
      have k2 : Wb.Can W (j.1, G4) := ⟨cj.inW, asc, fun y hy => ((mG y).mp hy).elim (cj.mem y) fun e => e ▸ nW⟩
      have b2 := (Wb.after_right wf rx mG).1
      have ev2 : Wb.Eqv W j.1 (Wb.okK G4) (Wb.but (Wb.okK j.2) x) := Wb.Eqv.of (Wb.okK_with mG)
      have c2 : Wb.cnt W (j.1, G4) < n := by
        have := Wb.opn_right wf rx
        have e : Wb.cnt W (j.1, G4) = (Wb.opn W (Wb.but (Wb.okK j.2) x) j.1).length := by
          unfold Wb.cnt
          rw [ev2.opn]
        have : Wb.cnt W j = (Wb.opn W (Wb.okK j.2) j.1).length := rfl
        omega
      refine ⟨a, d, p4, W, T, _, rfl, hW.tx s04.tx, wf, ⟨T', hd.same (s04 d) s04.tx, hT.tx s04.tx⟩, good, clo, h4, k2, beh _ b2, c2, fun p5 H5 s5 h5 => ?_⟩
      refine ⟨(by show 4 ≤ sizeLine; decide), fun t3 nt3 => q t3 _ ((s04.trans s5).put ((s04.trans s5).free nt3)) ?_⟩
      rw [Wb.BP_some wf ham]
      have e1 := Wb.BP_congr wf (Wb.shd_eqv (S := j.2) (u := x) wf)
      have e2 := Wb.BP_congr wf ev2
      refine ⟨p3, p5, upd_same, ?_, ?_⟩
      · rw [← e1]
        exact ((h3.tx s4.tx).tx s5.tx).tx (Tx.new nt3)
      · rw [← e2]
        exact h5.tx (Tx.new nt3)
/-! ### least_plan -/
theorem scLeastPlan : FnScope ["web", "known", "w"] ["web", "known", "w"] (defScope sLeastPlan) := ⟨rfl, rfl, rfl, by decide +kernel, rfl, by decide +kernel, by decide +kernel⟩
def spLeastPlan (C : Addr) : Sp := fun vs H Q E => ∃ (a b : Addr) (W : Wb.Web) (S : List Nat) (u : Nat), vs = [.ref a, .ref b, vN u] ∧ WebAt H a W ∧ Wb.Wf W ∧ TupN H b S ∧ Wb.Can W (u, S) ∧
  ((Wb.opn W (Wb.okK S) u).length ≤ 10 → ∀ p H', Same H H' → PlanAt H' p (Wb.BP W (Wb.okK S) u) → Q (.ref p) H') ∧ (10 < (Wb.opn W (Wb.okK S) u).length → ∀ d H', Same H H' → H' d = some xMost → E (.ref C) (some d) H')
theorem kn_leastPlan {k n : Nat} (D : Def K mg "least_plan" sLeastPlan) (hn : 13 ≤ n) (G1 : Kn P w K mg base (L2.CX P w) "full_table" ["web", "known", "w"] (k + n) (spFull P w C)) (G2 : Kn P w K mg base CX0 "plan_by" ["web", "table", "state"] (k + n) (spPlanBy P w n)) (G3 : Kn P w K mg base CX0 "state_of" ["web", "known", "u"] (k + n) spState) :
    Kn P w K mg base (L2.CX P w) "least_plan" ["web", "known", "w"] (k + n + 1) (spLeastPlan C) := by
  obtain ⟨f, fd, F, hm⟩ := D
  refine ⟨f, fd, hm, F.kp, F.binds fun _ _ _ _ _ _ us hl => match us, hl with | [_, _, _], _ => rfl, F.okX scLeastPlan (fun vs H Q E h => ?_) (fun cdv A outer s H vs Q E hr h => ?_)⟩
  · obtain ⟨a, b, W, S, u, rfl, _⟩ := h
    rfl
  obtain ⟨a, b, W, S, u, rfl, hW, wf, hS, cS, q, e⟩ := h
  have hl := cS.len
  have w12 := wf.len
  refine ⟨_, pss_one (ps_ret (pe_kn G2 hr pass0 (pa_cons (pv 0) (pa_cons (pe_kn G1 hr (passes_call (takes_of rfl rfl rfl rfl) (fun _ _ _ _ h => h)) (pa_cons (pv 0) (pa_cons (pv 1) (pa_cons (pv 2) pa_nil)))) (pa_cons (pe_kn G3 hr pass0 (pa_cons (pv 0) (pa_cons (pv 1) (pa_cons (pv 2) pa_nil)))) pa_nil))))), ?_⟩
  refine ⟨_, rfl, _, rfl, _, rfl, _, rfl, a, b, W, S, u, rfl, hW, wf, hS, cS, fun h10 d H1 T s1 hT good clo hin => ?_, e⟩
  refine ⟨_, rfl, _, rfl, _, rfl, a, b, W, S, u, rfl, hW.tx s1.tx, wf, hS.tx s1.tx, by show S.length ≤ 1000; have : S.length ≤ W.length := hl; omega, cS.inW, fun p H2 s2 h2 => ?_⟩
  obtain ⟨T', hd, hT⟩ := hT
  have cSh : Wb.Can W (u, Wb.shd W S u) := ⟨cS.inW, Wb.shd_asc cS.asc, fun x hx => cS.mem x (Wb.shd_sub hx)⟩
  have c12 := Wb.cnt_le wf (u, Wb.shd W S u)
  refine ⟨a, d, p, W, T, _, rfl, hW.tx (s1.trans s2).tx, wf, ⟨T', hd.same (s2 d) s2.tx, hT.tx s2.tx⟩, good, clo, h2, cSh, hin, by omega, fun p3 H3 s3 h3 => ?_⟩
  refine q h10 p3 H3 ((s1.trans s2).trans s3) ?_
  rw [← Wb.BP_congr wf (Wb.shd_eqv (S := S) (u := u) wf)]
  exact h3
end
end AH
end
section
set_option Elab.async false
set_option linter.all false
set_option maxRecDepth 100000
set_option maxHeartbeats 4000000
/-! The law's helpers, 1: the bag, take, some. -/
namespace AH
open PySem PySem.Spec PyProof.Rows L2
theorem FnOk.mono {P : Program} {w : World} {K : PySem.W.Frag} {mg : Str → Option Value} {base : Heap} {CX : CXT} {k k' : Nat} {f : Addr} {fd : FuncData} {ps : List Str} {sp : Sp} (F : FnOk P w K mg base CX k f fd ps sp) (h : k ≤ k') : FnOk P w K mg base CX k' f fd ps sp :=
  ⟨F.len, fun A outer s H args us vs Q E hr => F.run A outer s H args us vs Q E (hr.mono h)⟩
theorem Kn.mono {P : Program} {w : World} {K : PySem.W.Frag} {mg : Str → Option Value} {base : Heap} {CX : CXT} {k k' : Nat} {x : Str} {ps : List Str} {sp : Sp} (h : Kn P w K mg base CX x ps k sp) (l : k ≤ k') : Kn P w K mg base CX x ps k' sp :=
  let ⟨f, fd, a, b, c, d⟩ := h
  ⟨f, fd, a, b, c, FnOk.mono d l⟩
theorem But.new {p q : Addr} {H H1 : Hp} {o : HO} (a : But p H H1) (n : H1 q = none) : But p H (upd H1 q o) := fun c x m h => by
  have := a c x m h
  rw [upd_ne (ne_of_none this n)]
  exact this
/-- the bag -/
structure Bag (H : Hp) (p : Addr) (x y z : Int) (s : Addr) (ns : List Int) : Prop where
  at' : H p = some (.lst [.int x, .int y, .int z, .ref s])
  x0 : 0 ≤ x
  y0 : 0 ≤ y
  y1 : y < 2147483647
  ne : s ≠ p
  ls : H s = some (.lst (ns.map V.int))
  n0 : ∀ n ∈ ns, 0 ≤ n
  nl : ns.length ≤ 63
def BagAt (H : Hp) (p s : Addr) : Prop := ∃ x y z ns, Bag H p x y z s ns
theorem Bag.same {H H' : Hp} {p s : Addr} {x y z : Int} {ns : List Int} (h : Bag H p x y z s ns) (e : Same H H') : Bag H' p x y z s ns := ⟨e _ _ h.at', h.x0, h.y0, h.y1, h.ne, e _ _ h.ls, h.n0, h.nl⟩
theorem Bag.put {H : Hp} {p s : Addr} {x y z x' y' z' : Int} {ns : List Int} (h : Bag H p x y z s ns) (hx : 0 ≤ x') (hy : 0 ≤ y') (hy1 : y' < 2147483647) : Bag (upd H p (.lst [.int x', .int y', .int z', .ref s])) p x' y' z' s ns :=
  ⟨upd_same, hx, hy, hy1, h.ne, by rw [upd_ne h.ne]; exact h.ls, h.n0, h.nl⟩
theorem BagAt.same {H H' : Hp} {p s : Addr} (h : BagAt H p s) (e : Same H H') : BagAt H' p s := let ⟨x, y, z, ns, q⟩ := h; ⟨x, y, z, ns, q.same e⟩
theorem BagAt.ne {H : Hp} {p s L : Addr} (h : BagAt H p s) (n : H L = none) : L ≠ p ∧ L ≠ s := by
  obtain ⟨x, y, z, ns, q⟩ := h
  exact ⟨(ne_of_none q.at' n).symm, (ne_of_none q.ls n).symm⟩
theorem BagAt.put {H : Hp} {p s L : Addr} {o : HO} (h : BagAt H p s) (n : L ≠ p ∧ L ≠ s) : BagAt (upd H L o) p s := by
  obtain ⟨x, y, z, ns, q⟩ := h
  exact ⟨x, y, z, ns, by rw [upd_ne n.1.symm]; exact q.at', q.x0, q.y0, q.y1, q.ne, by rw [upd_ne n.2.symm]; exact q.ls, q.n0, q.nl⟩
theorem BagAt.tx {H H' : Hp} {p s : Addr} (h : BagAt H p s) (e : But p H H') : Tx H H' := e.tx fun xs z => by
  obtain ⟨x, y, z', ns, q⟩ := h
  rw [q.at'] at z
  cases z
theorem cut_ints (ns : List Int) (lo hi : Option Int) : ∃ ms : List Int, cutV (ns.map V.int) lo hi = ms.map V.int ∧ (∀ m ∈ ms, m ∈ ns) ∧ ms.length ≤ ns.length := by
  refine ⟨(ns.drop (HT.sIx (ns.map V.int).length 0 lo)).take (HT.sIx (ns.map V.int).length (ns.map V.int).length hi - HT.sIx (ns.map V.int).length 0 lo), ?_, fun m hm => List.mem_of_mem_drop (List.mem_of_mem_take hm), ?_⟩
  · unfold cutV
    rw [List.map_take, List.map_drop]
  · rw [List.length_take, List.length_drop]
    omega
section
variable {P : Program} {w : World} {K : PySem.W.Frag} {mg : Str → Option Value} {base : Heap}
/-! ### _law_bag -/
theorem scBag : FnScope ["_law_script", "_law_cell"] ["_law_script"] (defScope lBag) := ⟨rfl, rfl, rfl, by decide +kernel, rfl, by decide +kernel, by decide +kernel⟩
def spBag (K : PySem.W.Frag) : Sp := fun vs H Q _ => ∃ (a : Addr) (ns : List Int), vs = [.ref a] ∧ SqL K H a (ns.map V.int) ∧ ns.length ≤ 63 ∧
  ∀ p s H', Same H H' → BagAt H' p s → Q (.ref p) H'
theorem kn_bag {k : Nat} (D : Def K mg "_law_bag" lBag) (ma : mg "abs" = none) : Kn P w K mg base CX0 "_law_bag" ["_law_script"] (k + 1) (spBag K) := by
  obtain ⟨f, fd, F, hm⟩ := D
  refine ⟨f, fd, hm, F.kp, F.binds fun _ _ _ _ _ _ us hl => match us, hl with | [_], _ => rfl, F.ok scBag (fun vs H Q E h => ?_) (fun cdv A outer s H vs Q E hr h => ?_)⟩
  · obtain ⟨a, ns, rfl, _⟩ := h
    rfl
  obtain ⟨a, ns, rfl, hS, hl, q⟩ := h
  refine ⟨_, pss_one (ps_ret (pe_lst (pa_cons pe_int (pa_cons pe_int (pa_cons pe_int (pa_cons
    (pe_lc (own := [("_law_cell", 1)]) (g := gName 1) (tt := tYes) (by rfl) scBag.nd (pi_list (pe_slice sl_list (pv 0) po_none (po_some pe_int))) (blkOk_by (N := ["_law_script", "_law_cell"]) (sc := defScope lBag) (by decide +kernel)) (fun _ _ _ _ _ => pg_name (i := 1) scBag.nd rfl (.inl rfl))
      (fun _ _ _ _ _ => pts_nil) (fun _ _ _ _ _ => pe_callB call_abs (by rfl) ma (by decide +kernel) (pa_cons (pv 1) pa_nil))) pa_nil)))))), ?_⟩
  obtain ⟨ms, em, mm, lm⟩ := cut_ints ns none (some 63)
  refine ⟨_, rfl, 63, rfl, a, _, rfl, hS, fun c nc => ?_⟩
  rw [em]
  refine ⟨c, rfl, ⟨_, SqL.of upd_same⟩, fun L nL => ?_⟩
  have s1 : Same H (upd H c (.lst (ms.map V.int))) := Same.new nc
  refine lc_list (K := K) (a := c) (xs := ms.map V.int) (fun i H2 => Same (upd H c (.lst (ms.map V.int))) H2 ∧ ∃ rs : List Int, H2 L = some (.lst (rs.map V.int)) ∧ rs.length = i ∧ ∀ r ∈ rs, 0 ≤ r)
    ⟨Same.new nL, [], upd_same, rfl, fun r h => nomatch h⟩ (fun i H2 _ h => SqL.of (h.1 _ _ upd_same)) (fun i x H2 hx h => ?_) fun H2 h => ?_
  · rw [List.getElem?_map] at hx
    obtain ⟨n, hn, rfl⟩ := Option.map_eq_some_iff.mp hx
    obtain ⟨s2, rs, hL, lr, r0⟩ := h
    have li := (List.getElem?_eq_some_iff.mp hn).1
    refine ⟨rfl, ?_⟩
    refine ⟨_, rfl, n, rfl, _, hL, by rw [List.length_map]; exact small1000 (by omega), s2.put nL, rs ++ [if n < 0 then -n else n], ?_, ?_, fun r hr => ?_⟩
    · rw [upd_same, List.map_append]
      rfl
    · rw [List.length_append, lr]
      rfl
    · rcases List.mem_append.mp hr with h | h
      · exact r0 r h
      · have : r = if n < 0 then -n else n := by simpa using h
        rw [this]
        split <;> omega
  · obtain ⟨s2, rs, hL, lr, r0⟩ := h
    rw [List.length_map] at lr
    refine ⟨(by show 4 ≤ sizeLine; decide), fun p np => ?_⟩
    have s02 := s1.trans s2
    refine q p L _ (s02.put (s02.free np)) ⟨0, 1234567891, 0, rs, upd_same, by decide, by decide, by decide, ne_of_none hL np, ?_, r0, by omega⟩
    rw [upd_ne (ne_of_none hL np)]
    exact hL
/-! ### _law_take -/
theorem scTake : FnScope ["_law_bag_here", "_law_many", "_law_cell", "_law_stirred", "_law_value", "_law_begin", "_law_second"] ["_law_bag_here", "_law_many"] (defScope lTake) := ⟨rfl, rfl, rfl, by decide +kernel, rfl, by decide +kernel, by decide +kernel⟩
def spTake : Sp := fun vs H Q _ => ∃ (p sc : Addr) (m : Nat), vs = [.ref p, vN m] ∧ BagAt H p sc ∧ 0 < m ∧ m ≤ 1000 ∧ ∀ v H', v < m → But p H H' → BagAt H' p sc → Q (vN v) H'
theorem kn_take {k : Nat} (D : Def K mg "_law_take" lTake) (mi : mg "int" = none) : Kn P w K mg base CX0 "_law_take" ["_law_bag_here", "_law_many"] (k + 1) spTake := by
  obtain ⟨f, fd, F, hm⟩ := D
  refine ⟨f, fd, hm, F.kp, F.binds fun _ _ _ _ _ _ us hl => match us, hl with | [_, _], _ => rfl, F.ok scTake (fun vs H Q E h => ?_) (fun cdv A outer s H vs Q E hr h => ?_)⟩
  · obtain ⟨a, _, m, rfl, _⟩ := h
    rfl
  obtain ⟨p, sc, m, rfl, hB, m0, m1, q⟩ := h
  refine ⟨_, C8.pss_cut (ps_if (pt_cmpR op_eq (pe_ix ix_list (pv 0) pe_int (fun _ _ => rfl)) pe_int (nomark _))
      (pss_cons (ps_set (i := 2) scTake.nd rfl (.inl rfl) (pe_ix ix_list (pe_op op_cat (pe_slice sl_list (pe_ix ix_list (pv 0) pe_int (fun _ _ => rfl)) (po_some (pe_ix ix_list (pv 0) pe_int (fun _ _ => rfl))) po_none) (pe_lst (pa_cons pe_int pa_nil))) pe_int (fun _ _ => rfl)))
      (pss_cons (ps_augS (pv 0) pe_int get_list pe_int ip_add set_list)
      (C8.pss_cut (ps_if (pt_cmpR op_ge (pv 2) (pe_op op_pow pe_int pe_int) (nomark _)) (pss_one (ps_asg (pv 2) (pg_sub (pv 0) pe_int set_list))) pss_nil)
      (pss_cons (ps_set (i := 3) scTake.nd rfl (.inl rfl) (pe_op op_add (pe_op op_add (pe_op op_mul (pe_ix ix_list (pv 0) pe_int (fun _ _ => rfl)) pe_int) (pe_op op_mod (pe_callTy call_int1 (by rfl) mi (by decide +kernel) (pa_cons (pv 2) pa_nil)) pe_int)) (pe_op op_mul pe_int (pe_ix ix_list (pv 0) pe_int (fun _ _ => rfl)))))
      (pss_one (ps_asg (pe_op op_mod (pe_callTy call_int1 (by rfl) mi (by decide +kernel) (pa_cons (pv 3) pa_nil)) pe_int) (pg_sub (pv 0) pe_int set_list))))))) pss_nil)
    (pss_cons (ps_if (pt_cmpR op_gt (pe_ix ix_list (pv 0) pe_int (fun _ _ => rfl)) pe_int (nomark _))
      (pss_cons (ps_set (i := 4) scTake.nd rfl (.inl rfl) (pe_op op_mod (pe_callTy call_int1 (by rfl) mi (by decide +kernel) (pa_cons (pe_ix ix_list (pv 0) pe_int (fun _ _ => rfl)) pa_nil)) (pv 1)))
      (pss_cons (ps_asg (pe_op op_fdivN (pe_callTy call_int1 (by rfl) mi (by decide +kernel) (pa_cons (pe_ix ix_list (pv 0) pe_int (fun _ _ => rfl)) pa_nil)) (pv 1)) (pg_sub (pv 0) pe_int set_list))
      (pss_one (ps_ret (pv 4))))) pss_nil)
    (pss_cons (ps_set (i := 5) scTake.nd rfl (.inl rfl) (pe_op op_mod (pe_callTy call_int1 (by rfl) mi (by decide +kernel) (pa_cons (pe_op op_mul (pe_op op_add (pe_ix ix_list (pv 0) pe_int (fun _ _ => rfl)) pe_int) pe_int) pa_nil)) pe_int))
    (pss_cons (ps_set (i := 6) scTake.nd rfl (.inl rfl) (pe_op op_mod (pe_callTy call_int1 (by rfl) mi (by decide +kernel) (pa_cons (pe_op op_mul (pe_op op_mod (pe_callTy call_int1 (by rfl) mi (by decide +kernel) (pa_cons (pe_op op_mul (pv 5) (pv 5)) pa_nil)) pe_int) pe_int) pa_nil)) pe_int))
    (pss_one (ps_ret (pe_op op_mod (pe_callTy call_int1 (by rfl) mi (by decide +kernel) (pa_cons (pe_op op_fdiv (pv 6) pe_int) pa_nil)) (pv 1))))))), ?_⟩
  obtain ⟨x, y, z, ns, B⟩ := hB
  refine ⟨fun σ H' => ∃ c d, σ = [some (.ref p), some (vN m), c, d, none, none, none] ∧ But p H H' ∧ BagAt H' p sc, ?_, fun σ H1 hM => ?_⟩
  · refine ⟨_, rfl, p, _, _, _, rfl, rfl, SqL.of B.at', atI_nat (j := 0) rfl, rfl, _, rfl, ?_⟩
    refine ite2 (fun _ => ?_) (fun _ => ⟨_, _, rfl, But.refl _ _, x, y, z, ns, B⟩)
    -- cell
    obtain ⟨ms, em, mm, lm⟩ := cut_ints ns (some z) none
    refine ⟨_, rfl, p, _, _, _, rfl, rfl, SqL.of B.at', atI_nat (j := 3) rfl, _, rfl, p, _, _, _, rfl, rfl, SqL.of B.at', atI_nat (j := 2) rfl, z, rfl, sc, _, rfl, SqL.of B.ls, fun c1 n1 => ?_⟩
    rw [em]
    have b1 : Same H (upd H c1 (.lst (ms.map V.int))) := Same.new n1
    refine ⟨(by show 1 ≤ sizeLine; decide), fun c2 n2 => ?_⟩
    have b2 : Same (upd H c1 (.lst (ms.map V.int))) (upd (upd H c1 (.lst (ms.map V.int))) c2 (.lst [.int 0])) := Same.new n2
    refine ⟨c1, c2, _, _, rfl, rfl, b2 _ _ upd_same, upd_same, by rw [List.length_map]; exact Nat.le_of_lt (small1000 (by show ms.length + 1 ≤ 1000; have := B.nl; omega)), fun c3 n3 => ?_⟩
    have b3 : Same (upd (upd H c1 (.lst (ms.map V.int))) c2 (.lst [.int 0])) (upd (upd (upd H c1 (.lst (ms.map V.int))) c2 (.lst [.int 0])) c3 (.lst (ms.map V.int ++ [.int 0]))) := Same.new n3
    have b03 := (b1.trans b2).trans b3
    obtain ⟨c, c0, hc⟩ : ∃ c : Int, 0 ≤ c ∧ (ms.map V.int ++ [.int 0])[0]? = some (.int c) := by
      cases ms with
      | nil => exact ⟨0, Int.le_refl _, rfl⟩
      | cons a l => exact ⟨a, B.n0 a (mm a List.mem_cons_self), rfl⟩
    refine ⟨c3, _, _, _, rfl, rfl, SqL.of upd_same, atI_nat (j := 0) hc, ?_⟩
    have B3 := B.same b03
    revert b03 B3
    generalize upd (upd (upd H c1 (.lst (ms.map V.int))) c2 (.lst [.int 0])) c3 (.lst (ms.map V.int ++ [.int 0])) = H3
    intro b03 B3
    -- bag[2] += 1
    refine ⟨_, rfl, p, _, _, _, rfl, rfl, SqL.of B3.at', atI_nat (j := 2) rfl, z, 1, rfl, rfl, p, _, _, 2, rfl, rfl, B3.at', rfl, ?_⟩
    have B4 : Bag (upd H3 p (.lst [.int x, .int y, .int (z + 1), .ref sc])) p x y (z + 1) sc ns := B3.put B3.x0 B3.y0 B3.y1
    have u4 : But p H (upd H3 p (.lst [.int x, .int y, .int (z + 1), .ref sc])) := (But.of b03).put
    refine ⟨fun σ H' => ∃ x', σ = [some (.ref p), some (vN m), some (.int c), none, none, none, none] ∧ But p H H' ∧ Bag H' p x' y (z + 1) sc ns, ?_, fun σ H5 hM => ?_⟩
    · refine ⟨_, rfl, _, _, rfl, rfl, ⟨by decide, by decide, by decide⟩, _, _, rfl, rfl, _, rfl, ?_⟩
      refine ite2 (fun _ => ?_) (fun _ => ⟨x, rfl, u4, B4⟩)
      refine ⟨_, rfl, _, rfl, p, _, _, 0, rfl, rfl, B4.at', rfl, ?_⟩
      exact ⟨c, rfl, u4.put, B4.put c0 B4.y0 B4.y1⟩
    · obtain ⟨x', rfl, u5, B5⟩ := hM
      refine ⟨_, rfl, p, _, _, _, rfl, rfl, SqL.of B5.at', atI_nat (j := 1) rfl, y, 48271, rfl, rfl, .inl ⟨by have := B5.y0; omega, by have := B5.y1; omega⟩, ?_⟩
      refine ⟨_, rfl, .inl ⟨c, rfl, c, 2147483647, rfl, rfl, (by show (0 : Int) < 2147483647; decide), _, _, rfl, rfl, ?_⟩⟩
      refine ⟨_, rfl, p, _, _, _, rfl, rfl, SqL.of B5.at', atI_nat (j := 2) rfl, 7919, z + 1, rfl, rfl, .inl ⟨by decide, by decide⟩, _, _, rfl, rfl, ?_⟩
      refine ⟨_, rfl, .inl ⟨_, rfl, _, 2147483647, rfl, rfl, (by show (0 : Int) < 2147483647; decide), _, rfl, p, _, _, 1, rfl, rfl, B5.at', rfl, ?_⟩⟩
      exact ⟨_, _, rfl, u5.put, x', _, z + 1, ns, B5.put B5.x0 (Int.emod_nonneg _ (by decide)) (Int.emod_lt_of_pos _ (by decide))⟩
  · obtain ⟨c, d, rfl, u1, x, y, z, ns, B⟩ := hM
    have mp : (0 : Int) < (m : Int) := by omega
    refine ⟨_, rfl, p, _, _, _, rfl, rfl, SqL.of B.at', atI_nat (j := 0) rfl, _, _, rfl, rfl, _, rfl, ?_⟩
    have ev : ∀ e : Int, ∃ v : Nat, v < m ∧ e % (m : Int) = (v : Int) := fun e => by
      have h1 := Int.emod_nonneg e (show (m : Int) ≠ 0 by omega)
      have h2 := Int.emod_lt_of_pos e mp
      exact ⟨(e % (m : Int)).toNat, by omega, by omega⟩
    refine ite2 (fun _ => ?_) (fun _ => ?_)
    · obtain ⟨v, hv, evv⟩ := ev x
      refine ⟨_, rfl, p, _, _, _, rfl, rfl, SqL.of B.at', atI_nat (j := 0) rfl, .inl ⟨x, rfl, _, rfl, x, (m : Int), rfl, rfl, mp, ?_⟩⟩
      refine ⟨_, rfl, p, _, _, _, rfl, rfl, SqL.of B.at', atI_nat (j := 0) rfl, .inl ⟨x, rfl, _, rfl, x, (m : Int), rfl, rfl, ⟨by omega, by omega⟩, _, rfl, p, _, _, 0, rfl, rfl, B.at', rfl, ?_⟩⟩
      refine ⟨_, rfl, ?_⟩
      have := q v _ hv (u1.put (o := .lst [.int (x.fdiv (m : Int)), .int y, .int z, .ref sc])) ⟨_, y, z, ns, B.put (Int.fdiv_nonneg B.x0 (by omega)) B.y0 B.y1⟩
      show Q (.int (x % (m : Int))) _
      rw [evv]
      exact this
    · have fin : ∀ e : Int, Q (.int (e % (m : Int))) H1 := fun e => by
        obtain ⟨v, hv, evv⟩ := ev e
        rw [evv]
        exact q v H1 hv u1 ⟨x, y, z, ns, B⟩
      have md : ∀ (e k : Int), 0 < k → 0 ≤ e % k ∧ e % k < k := fun e k hk => ⟨Int.emod_nonneg _ (by omega), Int.emod_lt_of_pos _ hk⟩
      refine ⟨_, rfl, p, _, _, _, rfl, rfl, SqL.of B.at', atI_nat (j := 1) rfl, y, 1, rfl, rfl, y + 1, 39373, rfl, rfl, .inl ⟨by have := B.y0; omega, by have := B.y1; omega⟩, .inl ⟨_, rfl, _, 1000000007, rfl, rfl, (by show (0 : Int) < 1000000007; decide), ?_⟩⟩
      have mr : ∀ {e k : Int}, 0 ≤ e ∧ e < k → k ≤ 2147483647 → -(2 ^ 64) < e ∧ e < 2 ^ 64 := fun h1 h2 => ⟨by omega, by omega⟩
      refine ⟨_, rfl, _, rfl, _, _, rfl, rfl, .inl (mr (md _ 1000000007 (by decide)) (by decide)), .inl ⟨_, rfl, _, 998244353, rfl, rfl, (by show (0 : Int) < 998244353; decide), _, 30011, rfl, rfl, .inl (mr (md _ 998244353 (by decide)) (by decide)), .inl ⟨_, rfl, _, 998244353, rfl, rfl, (by show (0 : Int) < 998244353; decide), ?_⟩⟩⟩
      exact ⟨_, rfl, _, 7, rfl, rfl, ⟨by decide, by decide⟩, .inl ⟨_, rfl, _, rfl, _, (m : Int), rfl, rfl, mp, fin _⟩⟩
end
end AH
end
section
set_option Elab.async false
set_option linter.all false
set_option maxRecDepth 100000
set_option maxHeartbeats 4000000
/-! The law's helpers, 2: some, lot, is_int, halves. -/
namespace AH
open PySem PySem.Spec PyProof.Rows L2
section
variable {P : Program} {w : World} {K : PySem.W.Frag} {mg : Str → Option Value} {base : Heap}
/-! ### _law_some -/
theorem scSome : FnScope ["_law_bag_here", "_law_things"] ["_law_bag_here", "_law_things"] (defScope lSome) := ⟨rfl, rfl, rfl, by decide +kernel, rfl, by decide +kernel, by decide +kernel⟩
def spSome : Sp := fun vs H Q _ => ∃ (p t sc : Addr) (xs : List V), vs = [.ref p, .ref t] ∧ BagAt H p sc ∧ t ≠ p ∧ (H t = some (.lst xs) ∨ H t = some (.tup xs)) ∧ 0 < xs.length ∧ xs.length ≤ 1000 ∧ ∀ v H', v ∈ xs → But p H H' → BagAt H' p sc → Q v H'
theorem kn_some {k : Nat} (D : Def K mg "_law_some" lSome) (ml : mg "len" = none) (G : Kn P w K mg base CX0 "_law_take" ["_law_bag_here", "_law_many"] k spTake) : Kn P w K mg base CX0 "_law_some" ["_law_bag_here", "_law_things"] (k + 1) spSome := by
  obtain ⟨f, fd, F, hm⟩ := D
  refine ⟨f, fd, hm, F.kp, F.binds fun _ _ _ _ _ _ us hl => match us, hl with | [_, _], _ => rfl, F.ok scSome (fun vs H Q E h => ?_) (fun cdv A outer s H vs Q E hr h => ?_)⟩
  · obtain ⟨p, t, _, xs, rfl, _⟩ := h
    rfl
  obtain ⟨p, t, sc, xs, rfl, hB, ne, ht, l0, l1, q⟩ := h
  refine ⟨_, pss_one (ps_ret (pe_ix ix_seq (pv 1) (pe_kn G hr pass0 (pa_cons (pv 0) (pa_cons (pe_callB call_len_seq (by rfl) ml PySem.boot_len (pa_cons (pv 1) pa_nil)) pa_nil))) (fun _ _ => rfl))), ?_⟩
  have hq : SqL K H t xs ∨ SqT K H t xs := ht.elim (fun h => .inl (SqL.of h)) fun h => .inr (SqT.of h)
  refine ⟨_, rfl, _, rfl, _, rfl, t, xs, rfl, hq, p, sc, xs.length, rfl, hB, l0, l1, fun v H1 hv u1 B1 => ?_⟩
  have ht1 : H1 t = some (.lst xs) ∨ H1 t = some (.tup xs) := ht.elim (fun h => .inl (u1 t _ ne h)) fun h => .inr (u1 t _ ne h)
  have hx : xs[v]? = some xs[v] := List.getElem?_eq_getElem hv
  have hm : xs[v] ∈ xs := List.getElem_mem hv
  rcases ht1 with h | h
  · exact .inl ⟨t, xs, _, _, rfl, rfl, SqL.of h, atI_nat hx, q _ H1 hm u1 B1⟩
  · exact .inr (.inl ⟨t, xs, _, _, rfl, rfl, SqT.of h, atI_nat hx, q _ H1 hm u1 B1⟩)
/-! ### _law_lot -/
theorem scLot : FnScope ["_law_things"] ["_law_things"] (defScope lLot) := ⟨rfl, rfl, rfl, by decide +kernel, rfl, by decide +kernel, by decide +kernel⟩
def spLot : Sp := fun vs H Q _ => ∃ (a : Addr) (S : List Nat), vs = [.ref a] ∧ TupN H a S ∧ S.length ≤ 60 ∧ ∀ p H' G, Same H H' → TupN H' p G → G.Pairwise (· < ·) → (∀ x, x ∈ G ↔ x ∈ S) → Q (.ref p) H'
theorem kn_lot {k : Nat} (D : Def K mg "_law_lot" lLot) (mt : mg "tuple" = none) (ms : mg "sorted" = none) (mset : mg "set" = none) : Kn P w K mg base CX0 "_law_lot" ["_law_things"] (k + 1) spLot := by
  obtain ⟨f, fd, F, hm⟩ := D
  refine ⟨f, fd, hm, F.kp, F.binds fun _ _ _ _ _ _ us hl => match us, hl with | [_], _ => rfl, F.ok scLot (fun vs H Q E h => ?_) (fun cdv A outer s H vs Q E hr h => ?_)⟩
  · obtain ⟨a, S, rfl, _⟩ := h
    rfl
  obtain ⟨a, S, rfl, hS, hl, q⟩ := h
  refine ⟨_, pss_one (ps_ret (pe_callTy call_tuple_of (by rfl) mt (by decide +kernel) (pa_cons (pe_callB (cr_sortedSet rfl) (by rfl) ms (by decide +kernel) (pa_cons (pe_callTy (call_setT rfl) (by rfl) mset (by decide +kernel) (pa_cons (pv 0) pa_nil)) pa_nil)) pa_nil))), ?_⟩
  refine ⟨_, rfl, a, S.map fun n : Nat => (n : Int), rfl, ?_, by rw [List.length_map]; omega, fun t c nt hc => ?_⟩
  · have := hS.sq (K := K)
    rw [List.map_map]
    exact this
  rw [List.length_map] at hc
  have s1 : Same H (upd H t (SetO w t (fun j => decide (j ∈ S.map fun n : Nat => (n : Int))) c)) := Same.new nt
  refine ⟨t, _, c, rfl, upd_same, by omega, fun ns p asc mem len np => ?_⟩
  have hpos : ∀ k ∈ ns, ∃ x : Nat, x ∈ S ∧ (x : Int) = k := fun k hk => by
    have := (mem k).mp hk
    have := of_decide_eq_true this
    obtain ⟨x, hx, e⟩ := List.mem_map.mp this
    exact ⟨x, hx, e⟩
  obtain ⟨G, eG⟩ : ∃ G : List Nat, ns = G.map fun n : Nat => (n : Int) := ⟨ns.map Int.toNat, by
    rw [List.map_map]
    have : ∀ y ∈ ns, ((fun x : Nat => (x : Int)) ∘ Int.toNat) y = y := fun y hy => by
      obtain ⟨x, _, rfl⟩ := hpos y hy
      rfl
    rw [List.map_congr_left this]
    simp⟩
  subst eG
  have s2 := s1.put (o := .lst ((G.map fun n : Nat => (n : Int)).map V.int)) (s1.free np)
  refine ⟨p, _, rfl, .inl ⟨SqL.of upd_same, fun t2 nt2 => q t2 _ G (s2.put (s2.free nt2)) ?_ ?_ fun x => ?_⟩⟩
  · show upd _ t2 _ t2 = _
    rw [upd_same, List.map_map]
    rfl
  · rw [List.pairwise_map] at asc
    exact asc.imp fun z => by omega
  · constructor
    · intro h
      obtain ⟨y, hy, e⟩ := hpos _ (List.mem_map.mpr ⟨x, h, rfl⟩)
      have : y = x := by omega
      exact this ▸ hy
    · intro h
      have := (mem (x : Int)).mpr (decide_eq_true (List.mem_map.mpr ⟨x, h, rfl⟩))
      obtain ⟨y, hy, e⟩ := List.mem_map.mp this
      have : y = x := by omega
      exact this ▸ hy
/-! ### _law_is_int -/
theorem scIsInt : FnScope ["_law_thing"] ["_law_thing"] (defScope lIsInt) := ⟨rfl, rfl, rfl, by decide +kernel, rfl, by decide +kernel, by decide +kernel⟩
def spIsInt : Sp := fun vs H Q _ => ∃ n : Int, vs = [.int n] ∧ Q (.bl true) H
theorem kn_isInt {k : Nat} (D : Def K mg "_law_is_int" lIsInt) (mi : mg "isinstance" = none) (mn : mg "int" = none) (mb : mg "bool" = none) : Kn P w K mg base CX0 "_law_is_int" ["_law_thing"] (k + 1) spIsInt := by
  obtain ⟨f, fd, F, hm⟩ := D
  refine ⟨f, fd, hm, F.kp, F.binds fun _ _ _ _ _ _ us hl => match us, hl with | [_], _ => rfl, F.ok scIsInt (fun vs H Q E h => ?_) (fun cdv A outer s H vs Q E hr h => ?_)⟩
  · obtain ⟨n, rfl, _⟩ := h
    rfl
  obtain ⟨n, rfl, q⟩ := h
  refine ⟨_, pss_one (ps_ret (pe_and (pe_callB call_isi (by rfl) mi (by decide +kernel) (pa_cons (pv 0) (pa_cons (pe_bltn (v := .ty "int") (by rfl) mn (by decide +kernel) rfl) pa_nil)))
    (pe_one (pe_not (pe_callB call_isi (by rfl) mi (by decide +kernel) (pa_cons (pv 0) (pa_cons (pe_bltn (v := .ty "bool") (by rfl) mb (by decide +kernel) rfl) pa_nil))))))), ?_⟩
  refine ⟨_, rfl, _, _, _, _, true, rfl, .ty "int", .base (.int n), kit_ty (by decide +kernel), _, rfl, iteT ?_⟩
  exact ⟨_, rfl, _, _, _, _, false, rfl, .ty "bool", .base (.int n), kit_ty (by decide +kernel), _, rfl, q⟩
/-! ### _law_halves -/
theorem scHalves : FnScope ["_law_many", "_law_found", "_law_power", "_law_turn"] ["_law_many"] (defScope lHalves) := ⟨rfl, rfl, rfl, by decide +kernel, rfl, by decide +kernel, by decide +kernel⟩
def spHalves : Sp := fun vs H Q _ => ∃ n : Nat, vs = [vN n] ∧ ∀ H', Same H H' → Q (vN (Wb.halves n)) H'
theorem kn_halves {k : Nat} (D : Def K mg "_law_halves" lHalves) (mr : mg "range" = none) : Kn P w K mg base CX0 "_law_halves" ["_law_many"] (k + 1) spHalves := by
  obtain ⟨f, fd, F, hm⟩ := D
  refine ⟨f, fd, hm, F.kp, F.binds fun _ _ _ _ _ _ us hl => match us, hl with | [_], _ => rfl, F.ok scHalves (fun vs H Q E h => ?_) (fun cdv A outer s H vs Q E hr h => ?_)⟩
  · obtain ⟨n, rfl, _⟩ := h
    rfl
  obtain ⟨n, rfl, q⟩ := h
  refine ⟨_, pss_cons (ps_asg (pe_tup (pa_cons pe_int (pa_cons pe_int pa_nil))) (pg_tup rfl (pgs_cons (pg_name (i := 1) scHalves.nd rfl (.inl rfl)) (pgs_cons (pg_name (i := 2) scHalves.nd rfl (.inl rfl)) pgs_nil))))
    (pss_cons (ps_for PassesOwn.never rfl (pi_range1 (by rfl) mr (pa_cons pe_int pa_nil)) (pg_name (i := 3) scHalves.nd rfl (.inl rfl))
      (pss_one (ps_asg (pe_ifExp (pt_cmpR op_gt (pv 2) (pv 0) (nomark _)) (pe_tup (pa_cons (pv 1) (pa_cons (pv 2) pa_nil))) (pe_tup (pa_cons (pe_op op_add (pv 1) pe_int) (pa_cons (pe_op op_mul pe_int (pv 2)) pa_nil))))
        (pg_tup rfl (pgs_cons (pg_name (i := 1) scHalves.nd rfl (.inl rfl)) (pgs_cons (pg_name (i := 2) scHalves.nd rfl (.inl rfl)) pgs_nil))))))
    (pss_one (ps_ret (pv 1)))), ?_⟩
  refine ⟨(by show 2 ≤ sizeLine; decide), fun t0 nt0 => ⟨t0, _, rfl, SqT.of upd_same, rfl, _, _, rfl, _, _, rfl, rfl, ?_⟩⟩
  refine ⟨60, rfl, by decide, by decide, ?_⟩
  refine for_range (n := 60) (fun i σ H2 => ∃ y, σ = [some (vN n), some (vN (Wb.hrun n i).1), some (vN (Wb.hrun n i).2), y] ∧ Same H H2) ⟨none, rfl, Same.new nt0⟩ (fun i σ H2 hi h => ?_) fun σ H2 h => ?_
  · obtain ⟨y, rfl, sm⟩ := h
    refine ⟨_, rfl, _, rfl, _, _, rfl, rfl, _, rfl, ?_⟩
    have step : Wb.hrun n (i + 1) = Wb.hstep n (Wb.hrun n i) := rfl
    refine ite2 (fun c => ?_) (fun c => ?_)
    · have c' : (Wb.hrun n i).2 > n := by have := of_decide_eq_true c; omega
      have e : Wb.hrun n (i + 1) = Wb.hrun n i := by rw [step]; unfold Wb.hstep; rw [if_pos c']
      refine ⟨_, rfl, _, rfl, (by show 2 ≤ sizeLine; decide), fun t nt => ⟨t, _, rfl, SqT.of upd_same, rfl, _, _, rfl, _, _, rfl, rfl, some (.int (0 + (i : Int))), ?_, sm.put (sm.free nt)⟩⟩
      rw [e]
      rfl
    · have c' : ¬ (Wb.hrun n i).2 > n := fun z => c (decide_eq_true (by omega))
      have e : Wb.hrun n (i + 1) = ((Wb.hrun n i).1 + 1, 2 * (Wb.hrun n i).2) := by rw [step]; unfold Wb.hstep; rw [if_neg c']
      refine ⟨_, rfl, _, 1, rfl, rfl, _, rfl, 2, _, rfl, rfl, .inl ⟨by decide, by decide⟩, (by show 2 ≤ sizeLine; decide), fun t nt => ⟨t, _, rfl, SqT.of upd_same, rfl, _, _, rfl, _, _, rfl, rfl, some (.int (0 + (i : Int))), ?_, sm.put (sm.free nt)⟩⟩
      rw [e]
      rfl
  · obtain ⟨y, rfl, sm⟩ := h
    exact ⟨_, rfl, q H2 sm⟩
end
end AH
end
section
set_option Elab.async false
set_option linter.all false
set_option maxRecDepth 100000
set_option maxHeartbeats 4000000
/-! The law's helpers, 3: below, open, shadow, settled. -/
namespace AH
open PySem PySem.Spec PyProof.Rows L2
theorem ints_of (F : List Nat) : F.map vN = (F.map fun x : Nat => (x : Int)).map V.int := by
  rw [List.map_map]
  rfl
theorem iteT_elim {A B : Prop} (h : if true = true then A else B) : A := by rwa [if_pos rfl] at h
theorem iteF_elim {A B : Prop} (h : if false = true then A else B) : B := by rwa [if_neg Bool.false_ne_true] at h
section
variable {P : Program} {w : World} {K : PySem.W.Frag} {mg : Str → Option Value} {base : Heap}
/-! ### _law_below -/
theorem scLBelow : FnScope ["_law_web_here", "_law_u", "_law_found", "_law_line", "_law_x"] ["_law_web_here", "_law_u"] (defScope lBelow) := ⟨rfl, rfl, rfl, by decide +kernel, rfl, by decide +kernel, by decide +kernel⟩
theorem kn_lbelow {k : Nat} (D : Def K mg "_law_below" lBelow) (ml : mg "list" = none) (mt : mg "tuple" = none) (ms : mg "sorted" = none) : Kn P w K mg base CX0 "_law_below" ["_law_web_here", "_law_u"] (k + 1) spBelow := by
  obtain ⟨f, fd, F, hm⟩ := D
  refine ⟨f, fd, hm, F.kp, F.binds fun _ _ _ _ _ _ us hl => match us, hl with | [_, _], _ => rfl, F.ok scLBelow (fun vs H Q E h => ?_) (fun cdv A outer s H vs Q E hr h => ?_)⟩
  · obtain ⟨a, W, u, rfl, _⟩ := h
    rfl
  obtain ⟨a, W, u, rfl, hW, wf, hu, q⟩ := h
  refine ⟨_, pss_cons (ps_par (i := 2) (j := 3) (by rfl) scLBelow.nd rfl rfl (by decide) rfl rfl (pa_cons (pe_lst pa_nil) (pa_cons (pe_callTy call_list_of (by rfl) ml (by decide +kernel) (pa_cons (pe_ix ix_tup (pe_ix ix_tup (pv 0) (pv 1) (fun _ _ => rfl)) pe_int (fun _ _ => rfl)) pa_nil)) pa_nil)) (by rfl))
    (pss_cons (ps_while PassesOwn.never (pt_cmpR (op_neNil hr.units) (pv 3) (pe_lst pa_nil) (nomark _))
      (pss_cons (ps_set (i := 4) scLBelow.nd rfl (.inl rfl) (pe_bm0 PySem.F.plainAttrs_list PySem.F.slot_list_pop PySem.F.type_list_pop mt_pop (pv 3)))
        (pss_one (ps_if (pt_cmpR op_notIn_seq (pv 4) (pv 2) (by rfl))
          (pss_cons (ps_expr (pe_bm PySem.F.plainAttrs_list PySem.F.slot_list_append PySem.F.type_list_append mt_append (pv 2) (pa_cons (pv 4) pa_nil)))
            (pss_one (ps_expr (pe_bm PySem.F.plainAttrs_list PySem.F.slot_list_extend PySem.F.type_list_extend mt_extend (pv 3) (pa_cons (pe_callTy call_list_of (by rfl) ml (by decide +kernel) (pa_cons (pe_ix ix_tup (pe_ix ix_tup (pv 0) (pv 4) (fun _ _ => rfl)) pe_int (fun _ _ => rfl)) pa_nil)) pa_nil)))))
          pss_nil))))
    (pss_one (ps_ret (pe_callTy call_tuple_of (by rfl) mt (by decide +kernel) (pa_cons (pe_callB cr_sorted (by rfl) ms (by decide +kernel) (pa_cons (pv 2) pa_nil)) pa_nil))))), ?_⟩
  refine ⟨Nat.zero_le _, fun d nd => ?_⟩
  obtain ⟨xs, p, c, w1, wl, w2, w3, w4⟩ := (hW.tx (Tx.new (o := .lst []) nd)).get (K := K) hu
  refine ⟨_, rfl, _, rfl, _, _, _, _, rfl, rfl, w1, w2, _, _, _, _, rfl, rfl, w3, atI_nat (j := 0) rfl, ?_⟩
  refine ⟨_, _, rfl, .inr w4.sq, fun l nl => ⟨_, _, rfl, ?_⟩⟩
  have hl0 : H l = none := (Same.new nd).free nl
  have hdl : d ≠ l := fun z => by rw [← z, upd_same] at nl; cases nl
  have fr : ∀ x ∈ Wb.cal W u, Wb.okK [] x → x ∈ Wb.cal W u := fun _ h _ => h
  have d0 : Wb.dms W [] (Wb.cal W u) ≤ 200 := by
    have := wf.len
    have := wf.few u
    unfold Wb.dms
    rw [List.length_nil]
    omega
  refine ⟨fun m σ H3 => ∃ F L y, σ = [some (.ref a), some (vN u), some (.ref d), some (.ref l), y] ∧ Same H H3 ∧ H3 d = some (.lst (F.map vN)) ∧ H3 l = some (.lst (L.map vN)) ∧ Wb.Dfs W (Wb.okK []) u F L ∧ Wb.dms W F L ≤ 200 ∧ m = Wb.dms W F L,
    ⟨_, [], Wb.cal W u, none, rfl, (Same.new nd).put hl0, ?_, upd_same, Wb.Dfs.start fr (fun _ h => h), d0, rfl⟩, fun m σ H3 hI => ?_⟩
  · rw [upd_ne hdl, upd_same]
    rfl
  obtain ⟨F, L, y, rfl, sm, hd, hl, df, dl, rfl⟩ := hI
  have fl := df.few wf
  have w12 := wf.len
  refine ⟨_, rfl, Nat.zero_le _, fun e ne => ⟨l, e, L.map vN, rfl, rfl, SqL.of ((Same.new ne) _ _ hl), upd_same, dat_nats _ _ _, _, rfl, ?_⟩⟩
  have sm4 : Same H (upd H3 e (.lst [])) := sm.put (sm.free ne)
  have hd4 : upd H3 e (.lst []) d = some (.lst (F.map vN)) := (Same.new ne) _ _ hd
  have hl4 : upd H3 e (.lst []) l = some (.lst (L.map vN)) := (Same.new ne) _ _ hl
  revert sm4 hd4 hl4
  generalize upd H3 e (.lst []) = H4
  intro sm4 hd4 hl4
  cases hL : L.isEmpty with
  | true =>
    rw [isEmpty_map, hL]
    obtain rfl : L = [] := by cases L with | nil => rfl | cons _ _ => cases hL
    refine iteF ⟨_, rfl, d, F.map fun x : Nat => (x : Int), rfl, ?_, ?_, fun ys p perm asc np => ?_⟩
    · rw [← ints_of]
      exact SqL.of hd4
    · rw [List.length_map]
      omega
    obtain ⟨G, rfl, pg⟩ := ints_nats perm
    refine ⟨p, _, rfl, .inl ⟨SqL.of upd_same, fun t nt => ?_⟩⟩
    have s5 : Same H (upd H4 p (.lst ((G.map fun x : Nat => (x : Int)).map V.int))) := sm4.put (sm4.free np)
    refine q t _ (s5.put (s5.free nt)) ?_
    show upd _ t _ t = _
    rw [upd_same, ← df.sorted wf pg (sorted_nats asc), List.map_map]
    rfl
  | false =>
    obtain ⟨M, x, rfl⟩ := snoc_cases L hL
    rw [isEmpty_map, hL]
    refine iteT ⟨_, fun σ' H' h' => h', ?_⟩
    refine ⟨_, rfl, .inl ⟨rfl, _, SqL.of hl4⟩, l, _, vN x, rfl, rfl, hl4, last_nat M x, ?_⟩
    rw [drop_nat]
    have s5 : Same H (upd H4 l (.lst (M.map vN))) := sm4.put hl0
    have hd5 : upd H4 l (.lst (M.map vN)) d = some (.lst (F.map vN)) := by rw [upd_ne hdl]; exact hd4
    have hl5 : upd H4 l (.lst (M.map vN)) l = some (.lst (M.map vN)) := upd_same
    revert s5 hd5 hl5
    generalize upd H4 l (.lst (M.map vN)) = H5
    intro s5 hd5 hl5
    refine ⟨_, rfl, _, rfl, d, _, rfl, .inl (SqL.of hd5), rfl, flat_nat F, _, rfl, ?_⟩
    rw [inV_nat]
    by_cases c2 : x ∈ F
    · rw [decide_eq_true c2]
      exact iteF ⟨_, Wb.dms_skip, F, M, _, rfl, s5, hd5, hl5, df.skip (.inr c2), Nat.le_trans (Nat.le_of_lt Wb.dms_skip) dl, rfl⟩
    · rw [decide_eq_false c2]
      refine iteT ?_
      have c1 : Wb.okK [] x := List.not_mem_nil
      have hx : x < W.length := (df.cnd x (by simp) c1).inW wf
      have df' : Wb.Dfs W (Wb.okK []) u (F ++ [x]) (M ++ Wb.cal W x) := df.add c1 c2 (fun _ h _ => h) fun _ h => h
      have few := df'.few wf
      have dm : Wb.dms W (F ++ [x]) (M ++ Wb.cal W x) < Wb.dms W F (M ++ [x]) := Wb.dms_add wf few (wf.few x)
      have dl' := Wb.dms_line (W := W) (F := F ++ [x]) (L := M ++ Wb.cal W x) wf
      rw [List.length_append] at dl'
      refine ⟨_, rfl, .inl ⟨rfl, _, SqL.of hd5⟩, _, rfl, d, _, _, rfl, rfl, hd5, by rw [List.length_map]; exact small1000 (by omega), ?_⟩
      have s6 : Same H (upd H5 d (.lst (F.map vN ++ [vN x]))) := s5.put nd
      have hd6 : upd H5 d (.lst (F.map vN ++ [vN x])) d = some (.lst ((F ++ [x]).map vN)) := by rw [upd_same, List.map_append]; rfl
      have hl6 : upd H5 d (.lst (F.map vN ++ [vN x])) l = some (.lst (M.map vN)) := by rw [upd_ne hdl.symm]; exact hl5
      revert s6 hd6 hl6
      generalize upd H5 d (.lst (F.map vN ++ [vN x])) = H6
      intro s6 hd6 hl6
      obtain ⟨xs, p, c, w1, wl, w2, w3, w4⟩ := (hW.tx s6.tx).get (K := K) hx
      refine ⟨_, rfl, .inl ⟨rfl, _, SqL.of hl6⟩, _, rfl, _, rfl, _, _, _, _, rfl, rfl, w1, w2, _, _, _, _, rfl, rfl, w3, atI_nat (j := 0) rfl, _, _, rfl, .inr w4.sq, fun t nt => ?_⟩
      have s7 := Same.new (o := .lst ((Wb.cal W x).map vN)) nt
      refine ⟨l, t, _, _, rfl, rfl, s7 _ _ hl6, upd_same, ?_, ?_⟩
      · rw [List.length_map, List.length_map]
        exact Nat.le_of_lt (small1000 (by omega))
      refine ⟨_, dm, F ++ [x], M ++ Wb.cal W x, _, rfl, (s6.put (s6.free nt)).put hl0, ?_, ?_, df', Nat.le_trans (Nat.le_of_lt dm) dl, rfl⟩
      · rw [upd_ne hdl]
        exact s7 _ _ hd6
      · rw [upd_same, List.map_append]
/-! ### _law_open -/
theorem scLOpen : FnScope ["_law_web_here", "_law_known_here", "_law_u", "_law_found", "_law_line", "_law_x", "_law_y"] ["_law_web_here", "_law_known_here", "_law_u"] (defScope lOpen) := ⟨rfl, rfl, rfl, by decide +kernel, rfl, by decide +kernel, by decide +kernel⟩
theorem kn_lopen {k : Nat} (D : Def K mg "_law_open" lOpen) (mt : mg "tuple" = none) (ms : mg "sorted" = none) : Kn P w K mg base CX0 "_law_open" ["_law_web_here", "_law_known_here", "_law_u"] (k + 1) (spCome K) := by
  obtain ⟨f, fd, F, hm⟩ := D
  refine ⟨f, fd, hm, F.kp, F.binds fun _ _ _ _ _ _ us hl => match us, hl with | [_, _, _], _ => rfl, F.ok scLOpen (fun vs H Q E h => ?_) (fun cdv A outer s H vs Q E hr h => ?_)⟩
  · obtain ⟨a, b, W, S, u, rfl, _⟩ := h
    rfl
  obtain ⟨a, b, W, S, u, rfl, hW, wf, hS, hu, q⟩ := h
  refine ⟨_, pss_cons (ps_par (i := 3) (j := 4) (by rfl) scLOpen.nd rfl rfl (by decide) rfl rfl (pa_cons (pe_lst pa_nil) (pa_cons
      (pe_lc (own := [("_law_x", 5)]) (g := gName 5) (by rfl) scLOpen.nd (pi_tup (pe_ix ix_tup (pe_ix ix_tup (pv 0) (pv 2) (fun _ _ => rfl)) pe_int (fun _ _ => rfl))) (blkOk_by (N := ["_law_web_here", "_law_known_here", "_law_u", "_law_found", "_law_line", "_law_x", "_law_y"]) (sc := defScope lOpen) (by decide +kernel)) (fun _ _ _ _ _ => pg_name (i := 5) scLOpen.nd rfl (.inl rfl))
        (fun _ _ _ _ _ => pts_one (pt_cmpR (show OpR _ _ (rIn K true) from op_notIn_seq) (pv 5) (pv 1) (by rfl))) (fun _ _ _ _ _ => pv 5)) pa_nil)) (by rfl))
    (pss_cons (ps_while PassesOwn.never (pt_cmpR (op_neNil hr.units) (pv 4) (pe_lst pa_nil) (nomark _))
      (pss_cons (ps_set (i := 5) scLOpen.nd rfl (.inl rfl) (pe_bm0 PySem.F.plainAttrs_list PySem.F.slot_list_pop PySem.F.type_list_pop mt_pop (pv 4)))
        (pss_one (ps_if (pt_cmpR op_notIn_seq (pv 5) (pv 3) (by rfl))
          (pss_cons (ps_expr (pe_bm PySem.F.plainAttrs_list PySem.F.slot_list_append PySem.F.type_list_append mt_append (pv 3) (pa_cons (pv 5) pa_nil)))
            (pss_one (ps_expr (pe_bm PySem.F.plainAttrs_list PySem.F.slot_list_extend PySem.F.type_list_extend mt_extend (pv 4) (pa_cons
              (pe_lc (own := [("_law_y", 6)]) (g := gName 6) (by rfl) scLOpen.nd (pi_tup (pe_ix ix_tup (pe_ix ix_tup (pv 0) (pv 5) (fun _ _ => rfl)) pe_int (fun _ _ => rfl))) (blkOk_by (N := ["_law_web_here", "_law_known_here", "_law_u", "_law_found", "_law_line", "_law_x", "_law_y"]) (sc := defScope lOpen) (by decide +kernel)) (fun _ _ _ _ _ => pg_name (i := 6) scLOpen.nd rfl (.inl rfl))
                (fun _ _ _ _ _ => pts_one (pt_cmpR (show OpR _ _ (rIn K true) from op_notIn_seq) (pv 6) (pv 1) (by rfl))) (fun _ _ _ _ _ => pv 6)) pa_nil)))))
          pss_nil))))
    (pss_one (ps_ret (pe_callTy call_tuple_of (by rfl) mt (by decide +kernel) (pa_cons (pe_callB cr_sorted (by rfl) ms (by decide +kernel) (pa_cons (pv 3) pa_nil)) pa_nil))))), ?_⟩
  refine ⟨Nat.zero_le _, fun d nd => ?_⟩
  have sd : Same H (upd H d (.lst [])) := Same.new nd
  obtain ⟨xs, p, c, w1, wl, w2, w3, w4⟩ := (hW.tx sd.tx).get (K := K) hu
  refine ⟨_, rfl, _, rfl, _, _, _, _, rfl, rfl, w1, w2, _, _, _, _, rfl, rfl, w3, atI_nat (j := 0) rfl, c, rfl, ⟨_, w4.sq⟩, fun l nl => ?_⟩
  have hl0 : H l = none := sd.free nl
  have hdl : d ≠ l := fun z => by rw [← z, upd_same] at nl; cases nl
  have turn : ∀ (v i1 : Nat) (H1 H2 : Hp) (D : Addr) (Nx : Hp → Prop) (σ : L2.St), Same H H2 → σ[1]? = some (some (.ref b)) → σ[i1]? = some (some (vN v)) →
      (if decide (v ∉ S) = true then ∃ acc, H2 D = some (.lst acc) ∧ acc.length < sizeLine ∧ Nx (upd H2 D (.lst (acc ++ [vN v]))) else Nx H2) →
      (∃ x, σ[i1]? = some (some x) ∧ ∃ y, σ[1]? = some (some y) ∧ rIn K true x y H2 fun z H3 => ∃ k, z = .bl k ∧ if k = true then ∃ x, σ[i1]? = some (some x) ∧ ∃ acc, H3 D = some (.lst acc) ∧ acc.length < sizeLine ∧ Nx (upd H3 D (.lst (acc ++ [x]))) else Nx H3) := by
    intro v i1 H1 H2 D Nx σ sm h1 h2 h
    refine ⟨_, h2, _, h1, b, _, rfl, .inr (hS.tx sm.tx).sq, rfl, flat_nat S, _, rfl, ?_⟩
    rw [inV_nat]
    by_cases cv : v ∈ S
    · rw [decide_eq_false (fun z => z cv)] at h
      rw [decide_eq_true cv]
      exact iteF (iteF_elim h)
    · rw [decide_eq_true cv] at h
      rw [decide_eq_false cv]
      exact iteT ⟨_, h2, iteT_elim h⟩
  have few := wf.few
  refine lc_filt (p := fun x => decide (x ∉ S)) w4 nl (by have := wf.few u; omega) (fun x hx H1 Nx s1 h => ⟨rfl, turn x 5 H H1 l Nx _ (sd.trans s1) rfl rfl h⟩) fun H1 s1 hL1 => ⟨_, _, rfl, ?_⟩
  have s01 := sd.trans s1
  have hd1 := s1 _ _ upd_same
  have d0 : Wb.dms W [] ((Wb.cal W u).filter fun x => decide (x ∉ S)) ≤ 200 := by
    have := wf.len
    have := wf.few u
    have := List.length_filter_le (fun x => decide (x ∉ S)) (Wb.cal W u)
    unfold Wb.dms
    rw [List.length_nil]
    omega
  have mf : ∀ {x y : Nat}, y ∈ (Wb.cal W x).filter (fun x => decide (x ∉ S)) ↔ y ∈ Wb.cal W x ∧ y ∉ S := fun {x y} => by rw [List.mem_filter, decide_eq_true_iff]
  refine ⟨fun m σ H3 => ∃ F L y, σ = [some (.ref a), some (.ref b), some (vN u), some (.ref d), some (.ref l), y, none] ∧ Same H H3 ∧ H3 d = some (.lst (F.map vN)) ∧ H3 l = some (.lst (L.map vN)) ∧ Wb.Dfs W (Wb.okK S) u F L ∧ (∀ x ∈ L, x ∉ S) ∧ Wb.dms W F L ≤ 200 ∧ m = Wb.dms W F L,
    ⟨_, [], (Wb.cal W u).filter fun x => decide (x ∉ S), none, rfl, s01, hd1, hL1, Wb.Dfs.start (fun x h1 h2 => mf.mpr ⟨h1, h2⟩) (fun x h => (mf.mp h).1), fun x h => (mf.mp h).2, d0, rfl⟩, fun m σ H3 hI => ?_⟩
  obtain ⟨F, L, y, rfl, sm, hd, hl, df, ok, dl, rfl⟩ := hI
  have fl := df.few wf
  have w12 := wf.len
  refine ⟨_, rfl, Nat.zero_le _, fun e ne => ⟨l, e, L.map vN, rfl, rfl, SqL.of ((Same.new ne) _ _ hl), upd_same, dat_nats _ _ _, _, rfl, ?_⟩⟩
  have sm4 : Same H (upd H3 e (.lst [])) := sm.put (sm.free ne)
  have hd4 : upd H3 e (.lst []) d = some (.lst (F.map vN)) := (Same.new ne) _ _ hd
  have hl4 : upd H3 e (.lst []) l = some (.lst (L.map vN)) := (Same.new ne) _ _ hl
  revert sm4 hd4 hl4
  generalize upd H3 e (.lst []) = H4
  intro sm4 hd4 hl4
  cases hL : L.isEmpty with
  | true =>
    rw [isEmpty_map, hL]
    obtain rfl : L = [] := by cases L with | nil => rfl | cons _ _ => cases hL
    refine iteF ⟨_, rfl, d, F.map fun x : Nat => (x : Int), rfl, ?_, ?_, fun ys p perm asc np => ?_⟩
    · rw [← ints_of]
      exact SqL.of hd4
    · rw [List.length_map]
      omega
    obtain ⟨G, rfl, pg⟩ := ints_nats perm
    refine ⟨p, _, rfl, .inl ⟨SqL.of upd_same, fun t nt => ?_⟩⟩
    have s5 : Same H (upd H4 p (.lst ((G.map fun x : Nat => (x : Int)).map V.int))) := sm4.put (sm4.free np)
    refine q t _ (s5.put (s5.free nt)) ?_
    show upd _ t _ t = _
    rw [upd_same, ← df.sorted wf pg (sorted_nats asc), List.map_map]
    rfl
  | false =>
    obtain ⟨M, x, rfl⟩ := snoc_cases L hL
    rw [isEmpty_map, hL]
    refine iteT ⟨_, fun σ' H' h' => h', ?_⟩
    refine ⟨_, rfl, .inl ⟨rfl, _, SqL.of hl4⟩, l, _, vN x, rfl, rfl, hl4, last_nat M x, ?_⟩
    rw [drop_nat]
    have okM : ∀ z ∈ M, z ∉ S := fun z hz => ok z (List.mem_append_left _ hz)
    have s5 : Same H (upd H4 l (.lst (M.map vN))) := sm4.put hl0
    have hd5 : upd H4 l (.lst (M.map vN)) d = some (.lst (F.map vN)) := by rw [upd_ne hdl]; exact hd4
    have hl5 : upd H4 l (.lst (M.map vN)) l = some (.lst (M.map vN)) := upd_same
    revert s5 hd5 hl5
    generalize upd H4 l (.lst (M.map vN)) = H5
    intro s5 hd5 hl5
    refine ⟨_, rfl, _, rfl, d, _, rfl, .inl (SqL.of hd5), rfl, flat_nat F, _, rfl, ?_⟩
    rw [inV_nat]
    by_cases c2 : x ∈ F
    · rw [decide_eq_true c2]
      exact iteF ⟨_, Wb.dms_skip, F, M, _, rfl, s5, hd5, hl5, df.skip (.inr c2), okM, Nat.le_trans (Nat.le_of_lt Wb.dms_skip) dl, rfl⟩
    · rw [decide_eq_false c2]
      refine iteT ?_
      have c1 : Wb.okK S x := ok x (List.mem_append_right _ List.mem_cons_self)
      have hx : x < W.length := (df.cnd x (by simp) c1).inW wf
      have df' : Wb.Dfs W (Wb.okK S) u (F ++ [x]) (M ++ (Wb.cal W x).filter fun x => decide (x ∉ S)) := df.add c1 c2 (fun y h1 h2 => mf.mpr ⟨h1, h2⟩) fun y h => (mf.mp h).1
      have few := df'.few wf
      have c12 := List.length_filter_le (fun x => decide (x ∉ S)) (Wb.cal W x)
      have cx := wf.few x
      have dm : Wb.dms W (F ++ [x]) (M ++ (Wb.cal W x).filter fun x => decide (x ∉ S)) < Wb.dms W F (M ++ [x]) := Wb.dms_add wf few (by omega)
      have dl' := Wb.dms_line (W := W) (F := F ++ [x]) (L := M ++ (Wb.cal W x).filter fun x => decide (x ∉ S)) wf
      rw [List.length_append] at dl'
      refine ⟨_, rfl, .inl ⟨rfl, _, SqL.of hd5⟩, _, rfl, d, _, _, rfl, rfl, hd5, by rw [List.length_map]; exact small1000 (by omega), ?_⟩
      have s6 : Same H (upd H5 d (.lst (F.map vN ++ [vN x]))) := s5.put nd
      have hd6 : upd H5 d (.lst (F.map vN ++ [vN x])) d = some (.lst ((F ++ [x]).map vN)) := by rw [upd_same, List.map_append]; rfl
      have hl6 : upd H5 d (.lst (F.map vN ++ [vN x])) l = some (.lst (M.map vN)) := by rw [upd_ne hdl.symm]; exact hl5
      revert s6 hd6 hl6
      generalize upd H5 d (.lst (F.map vN ++ [vN x])) = H6
      intro s6 hd6 hl6
      obtain ⟨xs, p, c, w1, wl, w2, w3, w4⟩ := (hW.tx s6.tx).get (K := K) hx
      refine ⟨_, rfl, .inl ⟨rfl, _, SqL.of hl6⟩, _, rfl, _, rfl, _, _, _, _, rfl, rfl, w1, w2, _, _, _, _, rfl, rfl, w3, atI_nat (j := 0) rfl, c, rfl, ⟨_, w4.sq⟩, fun t nt => ?_⟩
      refine lc_filt (p := fun x => decide (x ∉ S)) w4 nt (by omega) (fun z hz H7 Nx s7 h => ⟨rfl, turn z 6 H H7 t Nx _ (s6.trans s7) rfl rfl h⟩) fun H7 s7 hL7 => ?_
      refine ⟨l, t, _, _, rfl, rfl, s7 _ _ hl6, hL7, ?_, ?_⟩
      · rw [List.length_map, List.length_map]
        exact Nat.le_of_lt (small1000 (by omega))
      refine ⟨_, dm, F ++ [x], M ++ (Wb.cal W x).filter fun x => decide (x ∉ S), _, rfl, (s6.trans s7).put hl0, ?_, ?_, df', fun z hz => ?_, Nat.le_trans (Nat.le_of_lt dm) dl, rfl⟩
      · rw [upd_ne hdl]
        exact s7 _ _ hd6
      · rw [upd_same, List.map_append]
      · rcases List.mem_append.mp hz with h | h
        · exact okM z h
        · exact (mf.mp h).2
/-! ### _law_shadow -/
theorem scLShadow : FnScope ["_law_web_here", "_law_known_here", "_law_u", "_law_its", "_law_x"] ["_law_web_here", "_law_known_here", "_law_u"] (defScope lShadow) := ⟨rfl, rfl, rfl, by decide +kernel, rfl, by decide +kernel, by decide +kernel⟩
theorem kn_lshadow {k : Nat} (D : Def K mg "_law_shadow" lShadow) (mt : mg "tuple" = none) (G : Kn P w K mg base CX0 "_law_below" ["_law_web_here", "_law_u"] k spBelow) : Kn P w K mg base CX0 "_law_shadow" ["_law_web_here", "_law_known_here", "_law_u"] (k + 1) spShadow := by
  obtain ⟨f, fd, F, hm⟩ := D
  refine ⟨f, fd, hm, F.kp, F.binds fun _ _ _ _ _ _ us hl => match us, hl with | [_, _, _], _ => rfl, F.ok scLShadow (fun vs H Q E h => ?_) (fun cdv A outer s H vs Q E hr h => ?_)⟩
  · obtain ⟨a, b, W, S, u, rfl, _⟩ := h
    rfl
  obtain ⟨a, b, W, S, u, rfl, hW, wf, hS, hSl, hu, q⟩ := h
  refine ⟨_, pss_cons (ps_set (i := 3) scLShadow.nd rfl (.inr rfl) (pe_kn G hr pass0 (pa_cons (pv 0) (pa_cons (pv 2) pa_nil))))
    (pss_one (ps_ret (pe_callTy call_tuple_of (by rfl) mt (by decide +kernel) (pa_cons
      (pe_lc (own := [("_law_x", 4)]) (g := gName 4) (by rfl) scLShadow.nd (pi_tup (pv 1)) (blkOk_by (N := ["_law_web_here", "_law_known_here", "_law_u", "_law_its", "_law_x"]) (sc := defScope lShadow) (by decide +kernel)) (fun _ _ _ _ _ => pg_name (i := 4) scLShadow.nd rfl (.inl rfl))
        (fun _ _ _ _ _ => pts_one (pt_cmpR (show OpR _ _ (rIn K false) from op_in_seq) (pv 4) (pv 3) (by rfl))) (fun _ _ _ _ _ => pv 4)) pa_nil)))), ?_⟩
  refine ⟨_, rfl, _, rfl, a, W, u, rfl, hW, wf, hu, fun p H1 sm hp => ?_⟩
  refine ⟨_, rfl, b, rfl, ⟨_, (hS.tx sm.tx).sq⟩, fun L nL => ?_⟩
  refine lc_filt (hS.tx sm.tx) nL hSl (fun x hx H2 Nx s2 h => ?_) (fun H2 s2 hL => ?_) (p := fun x => decide (x ∈ Wb.opn W (Wb.okK []) u))
  · refine ⟨rfl, _, rfl, _, rfl, p, _, rfl, .inr (hp.tx s2.tx).sq, rfl, flat_nat _, _, rfl, ?_⟩
    rw [inV_nat]
    by_cases c : x ∈ Wb.opn W (Wb.okK []) u
    · rw [decide_eq_true c] at h ⊢
      exact iteT ⟨_, rfl, h⟩
    · rw [decide_eq_false c] at h ⊢
      exact iteF h
  · refine ⟨L, _, rfl, .inl ⟨SqL.of hL, fun t nt => q t _ ((sm.trans s2).put ((sm.trans s2).free nt)) upd_same⟩⟩
/-! ### _law_settled -/
theorem scLSettled : FnScope ["_law_web_here", "_law_known_here", "_law_u", "_law_x"] ["_law_web_here", "_law_known_here", "_law_u"] (defScope lSettled) := ⟨rfl, rfl, rfl, by decide +kernel, rfl, by decide +kernel, by decide +kernel⟩
theorem filt_nil {W : Wb.Web} (wf : Wb.Wf W) (S : List Nat) (u : Nat) : (((Wb.cal W u).filter fun x => decide (x ∉ S)).map vN).isEmpty = true ↔ Wb.opn W (Wb.okK S) u = [] := by
  rw [← Wb.settled_iff wf, isEmpty_map, List.isEmpty_iff, List.filter_eq_nil_iff]
  constructor
  · intro h y hy z
    exact h y hy (decide_eq_true z)
  · intro h y hy z
    exact h y hy (of_decide_eq_true z)
theorem kn_lsettled {k : Nat} (D : Def K mg "_law_settled" lSettled) : Kn P w K mg base CX0 "_law_settled" ["_law_web_here", "_law_known_here", "_law_u"] (k + 1) spSettled := by
  obtain ⟨f, fd, F, hm⟩ := D
  refine ⟨f, fd, hm, F.kp, F.binds fun _ _ _ _ _ _ us hl => match us, hl with | [_, _, _], _ => rfl, F.ok scLSettled (fun vs H Q E h => ?_) (fun cdv A outer s H vs Q E hr h => ?_)⟩
  · obtain ⟨a, b, W, S, u, rfl, _⟩ := h
    rfl
  obtain ⟨a, b, W, S, u, rfl, hW, wf, hS, hu, q⟩ := h
  refine ⟨_, pss_one (ps_ret (pe_cmpR (op_eqNil hr.units)
      (pe_lc (own := [("_law_x", 3)]) (g := gName 3) (by rfl) scLSettled.nd (pi_tup (pe_ix ix_tup (pe_ix ix_tup (pv 0) (pv 2) (fun _ _ => rfl)) pe_int (fun _ _ => rfl))) (blkOk_by (N := ["_law_web_here", "_law_known_here", "_law_u", "_law_x"]) (sc := defScope lSettled) (by decide +kernel)) (fun _ _ _ _ _ => pg_name (i := 3) scLSettled.nd rfl (.inl rfl))
        (fun _ _ _ _ _ => pts_one (pt_cmpR (show OpR _ _ (rIn K true) from op_notIn_seq) (pv 3) (pv 1) (by rfl))) (fun _ _ _ _ _ => pv 3)) (pe_lst pa_nil) (nomark _))), ?_⟩
  obtain ⟨xs, p, c, w1, wl, w2, w3, w4⟩ := hW.get (K := K) hu
  refine ⟨_, rfl, _, rfl, _, _, _, _, rfl, rfl, w1, w2, _, _, _, _, rfl, rfl, w3, atI_nat (j := 0) rfl, c, rfl, ⟨_, w4.sq⟩, fun l nl => ?_⟩
  refine lc_filt (p := fun x => decide (x ∉ S)) w4 nl (by have := wf.few u; omega) (fun x hx H1 Nx s1 h => ?_) fun H1 s1 hL1 => ?_
  · refine ⟨rfl, _, rfl, _, rfl, b, _, rfl, .inr (hS.tx s1.tx).sq, rfl, flat_nat S, _, rfl, ?_⟩
    rw [inV_nat]
    by_cases cv : x ∈ S
    · rw [decide_eq_false (fun z => z cv)] at h
      rw [decide_eq_true cv]
      exact iteF (iteF_elim h)
    · rw [decide_eq_true cv] at h
      rw [decide_eq_false cv]
      exact iteT ⟨_, rfl, iteT_elim h⟩
  · refine ⟨Nat.zero_le _, fun e ne => ⟨l, e, _, rfl, rfl, SqL.of ((Same.new ne) _ _ hL1), upd_same, dat_nats K _ _, ?_⟩⟩
    exact q _ _ (s1.put (s1.free ne)) (filt_nil wf S u)
end
end AH
end
section
set_option Elab.async false
set_option linter.all false
set_option maxRecDepth 100000
set_option maxHeartbeats 4000000
/-! The law's helpers, 4: known, price. -/
namespace AH
open PySem PySem.Spec PyProof.Rows L2
section
variable {P : Program} {w : World} {K : PySem.W.Frag} {mg : Str → Option Value} {base : Heap}
/-! ### _law_known -/
theorem scLKnown : FnScope ["_law_bag_here", "_law_web_here", "_law_w", "_law_share", "_law_v"] ["_law_bag_here", "_law_web_here", "_law_w"] (defScope lKnown) := ⟨rfl, rfl, rfl, by decide +kernel, rfl, by decide +kernel, by decide +kernel⟩
def spKnown : Sp := fun vs H Q _ => ∃ (p sc a : Addr) (W : Wb.Web) (u : Nat), vs = [.ref p, .ref a, vN u] ∧ BagAt H p sc ∧ WebAt H a W ∧ Wb.Wf W ∧ u < W.length ∧
  ∀ t H' S, But p H H' → BagAt H' p sc → TupN H' t S → Wb.Can W (u, S) → Q (.ref t) H'
theorem kn_lknown {k : Nat} (D : Def K mg "_law_known" lKnown) (ml : mg "len" = none) (mt : mg "tuple" = none) (mr : mg "range" = none) (G1 : Kn P w K mg base CX0 "_law_take" ["_law_bag_here", "_law_many"] k spTake) (G2 : Kn P w K mg base CX0 "_law_some" ["_law_bag_here", "_law_things"] k spSome) :
    Kn P w K mg base CX0 "_law_known" ["_law_bag_here", "_law_web_here", "_law_w"] (k + 1) spKnown := by
  obtain ⟨f, fd, F, hm⟩ := D
  refine ⟨f, fd, hm, F.kp, F.binds fun _ _ _ _ _ _ us hl => match us, hl with | [_, _, _], _ => rfl, F.ok scLKnown (fun vs H Q E h => ?_) (fun cdv A outer s H vs Q E hr h => ?_)⟩
  · obtain ⟨p, _, a, W, u, rfl, _⟩ := h
    rfl
  obtain ⟨p, sc, a, W, u, rfl, hB, hW, wf, hu, q⟩ := h
  refine ⟨_, pss_cons (ps_set (i := 3) scLKnown.nd rfl (.inr rfl) (pe_kn G2 hr pass0 (pa_cons (pv 0) (pa_cons (pe_lst (pa_cons pe_int (pa_cons pe_int (pa_cons pe_int (pa_cons pe_int pa_nil))))) pa_nil))))
    (pss_one (ps_ret (pe_callTy call_tuple_of (by rfl) mt (by decide +kernel) (pa_cons
      (pe_lc (own := [("_law_v", 4)]) (g := gName 4) (by rfl) scLKnown.nd (pi_range1 (by rfl) mr (pa_cons (pe_callB call_len_seq (by rfl) ml PySem.boot_len (pa_cons (pv 1) pa_nil)) pa_nil)) (blkOk_by (N := ["_law_bag_here", "_law_web_here", "_law_w", "_law_share", "_law_v"]) (sc := defScope lKnown) (by decide +kernel)) (fun _ _ _ _ _ => pg_name (i := 4) scLKnown.nd rfl (.inl rfl))
        (fun _ _ _ _ _ => pts_one (PW.pt (pw_and (pt_cmpR op_ne (pv 4) (pv 2) (nomark _)) (pw_and1 (pt_cmpR op_eq (pe_kn G1 hr pass0 (pa_cons (pv 0) (pa_cons (pv 3) pa_nil))) (pe_op op_sub (pv 3) pe_int) (nomark _)))))) (fun _ _ _ _ _ => pv 4)) pa_nil)))), ?_⟩
  refine ⟨_, rfl, (by show 4 ≤ sizeLine; decide), fun t nt => ?_⟩
  have s1 : Same H (upd H t (.lst [.int 9, .int 4, .int 2, .int 99])) := Same.new nt
  have htp : t ≠ p := (hB.ne nt).1
  refine ⟨p, t, sc, _, rfl, hB.same s1, htp, .inl upd_same, (by show 0 < 4; decide), (by show 4 ≤ 1000; decide), fun v H1 hv u1 B1 => ?_⟩
  obtain ⟨sh, ev, h1, h2⟩ : ∃ sh : Nat, v = vN sh ∧ 0 < sh ∧ sh ≤ 1000 := by
    simp only [List.mem_cons, List.not_mem_nil, or_false] at hv
    rcases hv with rfl | rfl | rfl | rfl
    · exact ⟨9, rfl, by decide, by decide⟩
    · exact ⟨4, rfl, by decide, by decide⟩
    · exact ⟨2, rfl, by decide, by decide⟩
    · exact ⟨99, rfl, by decide, by decide⟩
  subst ev
  have tx1 : Tx H H1 := s1.tx.trans ((hB.same s1).tx u1)
  obtain ⟨xs, p', c, w1, wl, w2, w3, w4⟩ := (hW.tx tx1).get (K := K) hu
  have w12 := wf.len
  refine ⟨_, rfl, a, _, rfl, .inr w1, (W.length : Int), by rw [wl], by omega, by omega, fun L nL => ?_⟩
  have u01 : But p H H1 := (But.of s1).trans u1
  refine lc_range (lo := 0) (n := W.length) (fun i H2 => But p H1 H2 ∧ BagAt H2 p sc ∧ ∃ S : List Nat, H2 L = some (.lst (S.map vN)) ∧ S.Pairwise (· < ·) ∧ (∀ x ∈ S, x < i ∧ x ≠ u) ∧ S.length ≤ i)
    ⟨(But.refl p H1).new nL, B1.same (Same.new nL), [], upd_same, .nil, (fun x h => nomatch h), Nat.le_refl _⟩ (fun i H2 hi h => ?_) fun H2 h => ?_
  · obtain ⟨u2, B2, S, hL, asc, lt, sl⟩ := h
    have e0 : (0 : Int) + (i : Int) = (i : Int) := by omega
    rw [e0]
    refine ⟨rfl, _, rfl, _, rfl, rfl, _, rfl, ?_⟩
    refine ite2 (fun c => ?_) (fun c => ?_)
    · have ci : i ≠ u := fun z => by
        rw [z] at c
        simp at c
      refine ⟨_, rfl, _, rfl, p, sc, sh, rfl, B2, h1, h2, fun v H3 hv u3 B3 => ?_⟩
      have hLp : L ≠ p := (B1.ne nL).1
      have hL3 : H3 L = some (.lst (S.map vN)) := u3 L _ hLp hL
      refine ⟨_, rfl, _, 1, rfl, rfl, rfl, _, rfl, ?_⟩
      refine ite2 (fun c2 => ?_) (fun c2 => ?_)
      · refine ⟨_, rfl, _, hL3, by rw [List.length_map]; exact small1000 (by omega), (u2.trans u3).add nL, B3.put (B1.ne nL), S ++ [i], ?_, ?_, ?_, ?_⟩
        · rw [upd_same, List.map_append]
          rfl
        · rw [List.pairwise_append]
          exact ⟨asc, List.pairwise_singleton _ _, fun x hx y hy => by
            have : y = i := by simpa using hy
            rw [this]
            exact (lt x hx).1⟩
        · intro x hx
          rcases List.mem_append.mp hx with h | h
          · exact ⟨Nat.lt_succ_of_lt (lt x h).1, (lt x h).2⟩
          · have : x = i := by simpa using h
            rw [this]
            exact ⟨Nat.lt_succ_self _, ci⟩
        · rw [List.length_append]
          show S.length + 1 ≤ _
          omega
      · exact ⟨u2.trans u3, B3, S, hL3, asc, fun x hx => ⟨Nat.lt_succ_of_lt (lt x hx).1, (lt x hx).2⟩, by omega⟩
    · exact ⟨u2, B2, S, hL, asc, fun x hx => ⟨Nat.lt_succ_of_lt (lt x hx).1, (lt x hx).2⟩, by omega⟩
  · obtain ⟨u2, B2, S, hL, asc, lt, sl⟩ := h
    refine ⟨L, _, rfl, .inl ⟨SqL.of hL, fun t2 nt2 => q t2 _ S ((u01.trans u2).new nt2) (B2.same (Same.new nt2)) upd_same ⟨hu, asc, fun x hx => (lt x hx).1⟩⟩⟩
end
end AH
end
section
set_option Elab.async false
set_option linter.all false
set_option maxRecDepth 100000
set_option maxHeartbeats 4000000
/-! The law's helpers, 5: price. -/
namespace AH
open PySem PySem.Spec PyProof.Rows L2
theorem But.none {p l : Addr} {H H1 : Hp} (a : But p H H1) (n : H1 l = none) (np : l ≠ p) : H l = Option.none := by
  cases q : H l with
  | none => rfl
  | some o =>
    rw [a l o np q] at n
    cases n
theorem But.step {p : Addr} {H H1 H2 : Hp} (a : But p H H1) (s : Same H1 H2) : But p H H2 := a.trans (But.of s)
/-- t + (x,) -/
theorem catA_one {K : PySem.W.Frag} {H : Hp} {a b : Addr} {S : List Nat} {x : Nat} {Q : VK} (hS : TupN H a S) (hx : TupN H b [x]) (hl : S.length ≤ 999) (q : ∀ t H', Same H H' → TupN H' t (S ++ [x]) → Q (.ref t) H') : rCatA K (.ref a) (.ref b) H Q := by
  refine ⟨a, b, _, _, rfl, rfl, hS.sq, hx.sq, ?_, fun e => ?_, fun _ e => ?_, fun _ _ p np => ?_⟩
  · rw [List.length_map, List.length_map]
    exact Nat.le_of_lt (small1000 (by show S.length + 1 ≤ 1000; omega))
  · have : S = [] := List.map_eq_nil_iff.mp e
    subst this
    exact q b H (Same.refl H) hx
  · cases e
  · refine q p _ (Same.new np) ?_
    unfold TupN
    rw [upd_same, List.map_append]
section
variable {P : Program} {w : World} {K : PySem.W.Frag} {mg : Str → Option Value} {base : Heap}
noncomputable def memo (W : Wb.Web) (L : List Wb.Key) : List (Wb.Key × V) := L.map fun k => (k, vN (Wb.P W (Wb.okK k.2) k.1))
theorem memo_val (W : Wb.Web) (k : Wb.Key) : ∀ L : List Wb.Key, (k ∈ L ∧ valV (memo W L) k = some (vN (Wb.P W (Wb.okK k.2) k.1))) ∨ (k ∉ L ∧ valV (memo W L) k = none)
  | [] => .inr ⟨List.not_mem_nil, rfl⟩
  | j :: L => by
    by_cases c : j = k
    · subst c
      exact .inl ⟨List.mem_cons_self, valV_pos (p := (j, vN (Wb.P W (Wb.okK j.2) j.1))) rfl⟩
    · have e : valV (memo W (j :: L)) k = valV (memo W L) k := valV_neg (p := (j, vN (Wb.P W (Wb.okK j.2) j.1))) c
      rw [e]
      rcases memo_val W k L with ⟨h1, h2⟩ | ⟨h1, h2⟩
      · exact .inl ⟨List.mem_cons_of_mem _ h1, h2⟩
      · exact .inr ⟨fun z => (List.mem_cons.mp z).elim (fun z => c z.symm) h1, h2⟩
structure MemoAt (P : Program) (w : World) (H : Hp) (d : Addr) (W : Wb.Web) (L : List Wb.Key) : Prop where
  dn : DN P w H d (memo W L)
  nd : L.Nodup
  can : ∀ k ∈ L, Wb.Can W k
theorem MemoAt.len {H : Hp} {d : Addr} {W : Wb.Web} {L : List Wb.Key} (h : MemoAt P w H d W L) (wf : Wb.Wf W) : (memo W L).length < sizeLine := by
  unfold memo
  rw [List.length_map]
  exact Nat.lt_of_le_of_lt (Wb.keys_small wf h.nd h.can) (by decide)
theorem MemoAt.same {H H' : Hp} {d : Addr} {W : Wb.Web} {L : List Wb.Key} (h : MemoAt P w H d W L) (e : Same H H') : MemoAt P w H' d W L := ⟨h.dn.same (e d) e.tx, h.nd, h.can⟩
theorem MemoAt.put {H H' : Hp} {d : Addr} {W : Wb.Web} {L : List Wb.Key} {k : Wb.Key} (h : MemoAt P w H d W L) (hk : k ∉ L) (cn : Wb.Can W k) (h' : DN P w H' d (putK (memo W L) k (vN (Wb.P W (Wb.okK k.2) k.1)))) : MemoAt P w H' d W (L ++ [k]) := by
  refine ⟨?_, ?_, fun j hj => ?_⟩
  · have e : putK (memo W L) k (vN (Wb.P W (Wb.okK k.2) k.1)) = memo W (L ++ [k]) := by
      unfold putK
      rcases memo_val W k L with ⟨h1, _⟩ | ⟨_, h2⟩
      · exact absurd h1 hk
      · rw [valV_any, h2, Option.isSome_none, if_neg Bool.false_ne_true]
        unfold memo
        rw [List.map_append]
        rfl
    rw [← e]
    exact h'
  · exact List.nodup_append.mpr ⟨h.nd, List.nodup_cons.mpr ⟨List.not_mem_nil, List.nodup_nil⟩, fun a ha b hb => by
      have : b = k := by simpa using hb
      subst this
      exact fun z => hk (z ▸ ha)⟩
  · rcases List.mem_append.mp hj with q | q
    · exact h.can j q
    · have : j = k := by simpa using q
      rw [this]
      exact cn
/-! ### _law_price -/
theorem scLPrice : FnScope ["_law_web_here", "_law_known_here", "_law_u", "_law_memo", "_law_found", "_law_x", "_law_worse"] ["_law_web_here", "_law_known_here", "_law_u", "_law_memo"] (defScope lPrice) := ⟨rfl, rfl, rfl, by decide +kernel, rfl, by decide +kernel, by decide +kernel⟩
def spLPrice (P : Program) (w : World) (n : Nat) : Sp := fun vs H Q _ => ∃ (a b d : Addr) (W : Wb.Web) (S : List Nat) (u : Nat) (L : List Wb.Key), vs = [.ref a, .ref b, vN u, .ref d] ∧ WebAt H a W ∧ Wb.Wf W ∧ TupN H b S ∧ Wb.Can W (u, S) ∧ MemoAt P w H d W L ∧ Wb.cnt W (u, S) < n ∧
  ∀ H' L', But d H H' → MemoAt P w H' d W L' → Q (vN (Wb.P W (Wb.okK S) u)) H'
theorem kn_lprice {k : Nat} (D : Def K mg "_law_price" lPrice) (mx : mg "max" = none) (mn : mg "min" = none) (G1 : Kn P w K mg base CX0 "_law_shadow" ["_law_web_here", "_law_known_here", "_law_u"] k spShadow) (G2 : Kn P w K mg base CX0 "_law_settled" ["_law_web_here", "_law_known_here", "_law_u"] k spSettled)
    (G3 : Kn P w K mg base CX0 "_law_open" ["_law_web_here", "_law_known_here", "_law_u"] k (spCome K)) (G4 : Kn P w K mg base CX0 "_law_lot" ["_law_things"] k spLot) :
    ∀ n, Kn P w K mg base CX0 "_law_price" ["_law_web_here", "_law_known_here", "_law_u", "_law_memo"] (k + n) (spLPrice P w n)
  | 0 => by
    obtain ⟨f, fd, F, hm⟩ := D
    have no : ∀ vs H Q E, ¬ spLPrice P w 0 vs H Q E := fun vs H Q E h => by
      obtain ⟨a, b, d, W, S, u, L, _, _, _, _, _, _, h, _⟩ := h
      exact Nat.not_lt_zero _ h
    exact ⟨f, fd, hm, F.kp, F.binds fun _ _ _ _ _ _ us hl => match us, hl with | [_, _, _, _], _ => rfl, ⟨fun vs H Q E h => absurd h (no vs H Q E), fun A outer s H args us vs Q E _ _ _ _ h => absurd h (no vs H Q E)⟩⟩
  | n + 1 => by
    have G := kn_lprice D mx mn G1 G2 G3 G4 n
    obtain ⟨f, fd, F, hm⟩ := D
    refine ⟨f, fd, hm, F.kp, F.binds fun _ _ _ _ _ _ us hl => match us, hl with | [_, _, _, _], _ => rfl, F.ok scLPrice (k := k + n) (fun vs H Q E h => ?_) (fun cdv A outer s H vs Q E hr h => ?_)⟩
    · obtain ⟨a, b, d, W, S, u, L, rfl, _⟩ := h
      rfl
    obtain ⟨a, b, d, W, S, u, L, rfl, hW, wf, hS, cS, hM, hn, q⟩ := h
    have hu64 := hr.units
    have hl := cS.len
    have w12 := wf.len
    have hu : u < W.length := cS.inW
    have hr0 := hr.mono (Nat.le_add_right k n)
    refine ⟨_, pss_cons (ps_set (i := 1) scLPrice.nd rfl (.inl rfl) (pe_kn G1 hr0 pass0 (pa_cons (pv 0) (pa_cons (pv 1) (pa_cons (pv 2) pa_nil)))))
      (C8.pss_cut (ps_if (pt_cmpR (op_notin_dn hu64) (pe_tup (pa_cons (pv 2) (pa_cons (pv 1) pa_nil))) (pv 3) (by rfl))
        (pss_one (ps_if (pt_val (pe_kn G2 hr0 pass0 (pa_cons (pv 0) (pa_cons (pv 1) (pa_cons (pv 2) pa_nil)))))
          (pss_one (ps_asg (pe_ix ix_tup (pe_ix ix_tup (pv 0) (pv 2) (fun _ _ => rfl)) pe_int (fun _ _ => rfl)) (pg_sub (pv 3) (pe_tup (pa_cons (pv 2) (pa_cons (pv 1) pa_nil))) (set_dn hu64))))
          (pss_cons (ps_set (i := 4) scLPrice.nd rfl (.inl rfl) (pe_lst pa_nil))
          (pss_cons (ps_for PassesOwn.never rfl (pi_tup (pe_kn G3 hr0 pass0 (pa_cons (pv 0) (pa_cons (pv 1) (pa_cons (pv 2) pa_nil))))) (pg_name (i := 5) scLPrice.nd rfl (.inl rfl))
            (pss_cons (ps_set (i := 6) scLPrice.nd rfl (.inl rfl) (pe_callB (call_max2 rfl) (by rfl) mx (by decide +kernel) (pa_cons (pe_kn G hr pass0 (pa_cons (pv 0) (pa_cons (pv 1) (pa_cons (pv 5) (pa_cons (pv 3) pa_nil)))))
                (pa_cons (pe_kn G hr pass0 (pa_cons (pv 0) (pa_cons (pe_kn G4 hr0 pass0 (pa_cons (pe_op op_catA (pv 1) (pe_tup (pa_cons (pv 5) pa_nil))) pa_nil)) (pa_cons (pv 2) (pa_cons (pv 3) pa_nil))))) pa_nil))))
            (pss_one (ps_expr (pe_bm PySem.F.plainAttrs_list PySem.F.slot_list_append PySem.F.type_list_append mt_append (pv 4) (pa_cons (pe_op op_add (pe_ix ix_tup (pe_ix ix_tup (pv 0) (pv 5) (fun _ _ => rfl)) pe_int (fun _ _ => rfl)) (pv 6)) pa_nil))))))
          (pss_one (ps_asg (pe_callB (cr_min rfl) (by rfl) mn (by decide +kernel) (pa_cons (pv 4) pa_nil)) (pg_sub (pv 3) (pe_tup (pa_cons (pv 2) (pa_cons (pv 1) pa_nil))) (set_dn hu64))))))))
        pss_nil)
      (pss_one (ps_ret (pe_dnget hu64 (pv 3) (pe_tup (pa_cons (pv 2) (pa_cons (pv 1) pa_nil))) (fun _ _ => rfl))))), ?_⟩
    refine ⟨_, rfl, _, rfl, _, rfl, a, b, W, S, u, rfl, hW, wf, hS, by have : S.length ≤ W.length := hl; omega, hu, fun b1 H1 s1 h1 => ?_⟩
    have cSh : Wb.Can W (u, Wb.shd W S u) := ⟨hu, Wb.shd_asc cS.asc, fun x hx => cS.mem x (Wb.shd_sub hx)⟩
    have eP : Wb.P W (Wb.okK (Wb.shd W S u)) u = Wb.P W (Wb.okK S) u := Wb.P_congr wf (Wb.shd_eqv wf)
    have eC : Wb.cnt W (u, Wb.shd W S u) = Wb.cnt W (u, S) := by
      unfold Wb.cnt
      rw [(Wb.shd_eqv (S := S) (u := u) wf).opn]
    rw [← eP] at q
    rw [← eC] at hn
    have hM1 := hM.same s1
    have u01 : But d H H1 := But.of s1
    have hW1 := hW.tx s1.tx
    have q1 : ∀ H' L', But d H1 H' → MemoAt P w H' d W L' → Q (vN (Wb.P W (Wb.okK (Wb.shd W S u)) u)) H' := fun H' L' u m => q H' L' (u01.trans u) m
    clear q eP eC hM hW hS u01 s1
    generalize hS1 : Wb.shd W S u = S1 at *
    clear hS1
    have hl1 := cSh.len
    have dtup : ∀ {H' : Hp} {L'}, MemoAt P w H' d W L' → ∀ xs, H' d ≠ some (.tup xs) := fun m => m.dn.not_tup
    refine ⟨fun σ H' => ∃ L' y4 y5 y6, σ = [some (.ref a), some (.ref b1), some (vN u), some (.ref d), y4, y5, y6] ∧ But d H1 H' ∧ MemoAt P w H' d W L' ∧ (u, S1) ∈ L', ?_, fun σ H2 hI => ?_⟩
    · refine ⟨_, rfl, _, rfl, (by show 2 ≤ sizeLine; decide), fun t nt => ?_⟩
      have sT : Same H1 (upd H1 t (.tup [vN u, .ref b1])) := Same.new nt
      refine ⟨_, rfl, t, d, (u, S1), _, rfl, rfl, ⟨b1, upd_same, h1.tx sT.tx⟩, (hM1.same sT).dn, _, rfl, ?_⟩
      rcases memo_val W (u, S1) L with ⟨hin, hv⟩ | ⟨hin, hv⟩
      · rw [hv]
        exact iteF ⟨L, _, _, _, rfl, But.of sT, hM1.same sT, hin⟩
      · rw [hv]
        refine iteT ?_
        have hM2 := hM1.same sT
        have h2 := h1.tx sT.tx
        have hW2 := hW1.tx sT.tx
        have u12 : But d H1 (upd H1 t (.tup [vN u, .ref b1])) := But.of sT
        revert hM2 h2 hW2 u12
        generalize upd H1 t (.tup [vN u, .ref b1]) = H2
        intro hM2 h2 hW2 u12
        refine ⟨_, rfl, _, rfl, _, rfl, a, b1, W, S1, u, rfl, hW2, wf, h2, hu, fun kk H3 s3 hk => ⟨_, rfl, ?_⟩⟩
        have hM3 := hM2.same s3
        cases kk with
        | true =>
          obtain ⟨xs, p', c', w1, wl, w2, w3, w4⟩ := (hW2.tx s3.tx).get (K := K) hu
          refine iteT ⟨_, rfl, _, rfl, _, _, _, _, rfl, rfl, w1, w2, _, _, _, _, rfl, rfl, w3, atI_nat (j := 2) rfl, _, rfl, _, rfl, _, rfl, (by show 2 ≤ sizeLine; decide), fun t2 nt2 => ?_⟩
          have sT2 : Same H3 (upd H3 t2 (.tup [vN u, .ref b1])) := Same.new nt2
          have hM4 := hM3.same sT2
          refine ⟨d, t2, (u, S1), _, rfl, rfl, ⟨b1, upd_same, (h2.tx s3.tx).tx sT2.tx⟩, hM4.dn, hM4.len wf, fun H5 hne dn5 => ?_⟩
          refine ⟨L ++ [(u, S1)], _, _, _, rfl, fun c o cd hc => ?_, hM4.put hin cSh ?_, List.mem_append_right _ List.mem_cons_self⟩
          · rw [hne c cd]
            exact sT2 _ _ (s3 _ _ (u12 c o cd hc))
          · rw [Wb.P_settled wf (hk.mp rfl)]
            exact dn5
        | false =>
          have hne : Wb.opn W (Wb.okK S1) u ≠ [] := fun z => Bool.noConfusion (hk.mpr z)
          refine iteF ⟨Nat.zero_le _, fun l nl => ?_⟩
          have u13 : But d H1 H3 := u12.step s3
          have sL : Same H3 (upd H3 l (.lst [])) := Same.new nl
          have hld : l ≠ d := fun z => hM3.dn.ex (z ▸ nl)
          have nl1 : H1 l = none := u13.none nl hld
          have hM4 := hM3.same sL
          have s24 := s3.trans sL
          refine ⟨_, rfl, _, rfl, _, rfl, a, b1, W, S1, u, rfl, hW2.tx s24.tx, wf, h2.tx s24.tx, hu, fun p H5 s5 hp => ⟨p, rfl, ⟨_, hp.sq⟩, ?_⟩⟩
          have s25 := s24.trans s5
          have u15 : But d H1 H5 := u12.step s25
          have hM5 := hM4.same s5
          have hl5 : H5 l = some (.lst []) := s5 _ _ upd_same
          refine for_tup (xs := (Wb.opn W (Wb.okK S1) u).map vN) (fun i σ H6 => ∃ y5 y6 L' cs, σ = [some (.ref a), some (.ref b1), some (vN u), some (.ref d), some (.ref l), y5, y6] ∧ But d H1 H6 ∧ Tx H1 H6 ∧ MemoAt P w H6 d W L' ∧ TupN H6 p (Wb.opn W (Wb.okK S1) u) ∧ H6 l = some (.lst (cs.map vN)) ∧ cs = ((Wb.opn W (Wb.okK S1) u).take i).map (Wb.cost W (Wb.okK S1) u) ∧ ((u, S1) ∈ L' ∨ (u, S1) ∉ L'))
            ⟨none, none, L, [], rfl, u15, u15.tx (dtup hM1), hM5, hp, hl5, rfl, .inr hin⟩ (fun i σ H6 _ h => ?_) (fun i x σ H6 hx h => ?_) fun σ H6 h => ?_
          · obtain ⟨_, _, _, _, _, _, _, _, h, _⟩ := h
            exact h.sq
          · rw [List.getElem?_map] at hx
            obtain ⟨x, hn', rfl⟩ := Option.map_eq_some_iff.mp hx
            obtain ⟨y5, y6, L', cs, rfl, u16, tx6, hM6, hp6, hl6, hcs, _⟩ := h
            have rn : Wb.R W (Wb.okK S1) u x := (Wb.mem_opn wf).mp (List.mem_of_getElem? hn')
            have nW : x < W.length := rn.inW wf
            have li := (List.getElem?_eq_some_iff.mp hn').1
            have lo := Wb.opn_len (W := W) (ok := Wb.okK S1) (u := u)
            have d1 := Wb.opn_wrong wf rn
            have d2 := Wb.opn_right wf rn
            have hcnt : Wb.cnt W (u, S1) = (Wb.opn W (Wb.okK S1) u).length := rfl
            have cx : Wb.Can W (x, S1) := ⟨nW, cSh.asc, cSh.mem⟩
            -- wrong
            refine ⟨_, rfl, _, rfl, _, rfl, _, rfl, a, b1, d, W, S1, x, L', rfl, hW1.tx tx6, wf, h1.tx tx6, cx, hM6, by show (Wb.opn W (Wb.okK S1) x).length < n; omega, fun H7 L7 u7 hM7 => ?_⟩
            have tx7 : Tx H6 H7 := u7.tx (dtup hM6)
            have u17 := u16.trans u7
            have tx17 := tx6.trans tx7
            -- right
            refine ⟨_, rfl, _, rfl, _, rfl, (by show 1 ≤ sizeLine; decide), fun t1 nt1 => ?_⟩
            have s8 : Same H7 (upd H7 t1 (.tup [vN x])) := Same.new nt1
            have hb8 : TupN (upd H7 t1 (.tup [vN x])) b1 S1 := (h1.tx tx17).tx s8.tx
            have hx8 : TupN (upd H7 t1 (.tup [vN x])) t1 [x] := upd_same
            have hM8 := hM7.same s8
            have u18 := u17.step s8
            have tx18 := tx17.trans s8.tx
            have hl8 : (upd H7 t1 (.tup [vN x])) l = some (.lst (cs.map vN)) := s8 _ _ (u7 l _ hld hl6)
            have hp8 := (hp6.tx tx7).tx s8.tx
            revert hb8 hx8 hM8 u18 tx18 hl8 hp8
            generalize upd H7 t1 (.tup [vN x]) = H8
            intro hb8 hx8 hM8 u18 tx18 hl8 hp8
            refine catA_one hb8 hx8 (by have : S1.length ≤ W.length := hl1; omega) fun t2 H9 s9 h9 => ?_
            refine ⟨t2, S1 ++ [x], rfl, h9, ?_, fun t3 H10 G3 s10 h10 asc mG => ?_⟩
            · rw [List.length_append]
              have : S1.length ≤ W.length := hl1
              show S1.length + 1 ≤ 60
              omega
            have s8_10 := s9.trans s10
            have mG' : ∀ y, y ∈ G3 ↔ y ∈ S1 ∨ y = x := fun y => by
              rw [mG y]
              simp
            have cG : Wb.Can W (u, G3) := ⟨hu, asc, fun y hy => ((mG' y).mp hy).elim (cSh.mem y) fun e => e ▸ nW⟩
            have ev : Wb.Eqv W u (Wb.okK G3) (Wb.but (Wb.okK S1) x) := Wb.Eqv.of (Wb.okK_with mG')
            have hM10 := hM8.same s8_10
            have tx10 := tx18.trans s8_10.tx
            refine ⟨_, rfl, _, rfl, a, t3, d, W, G3, u, L7, rfl, hW1.tx tx10, wf, h10, cG, hM10, ?_, fun H11 L11 u11 hM11 => ?_⟩
            · show (Wb.opn W (Wb.okK G3) u).length < n
              rw [ev.opn]
              omega
            have u1_11 := (u18.step s8_10).trans u11
            have tx11 := tx10.trans (u11.tx (dtup hM10))
            have hl11 : H11 l = some (.lst (cs.map vN)) := u11 l _ hld (s8_10 _ _ hl8)
            have hp11 := (hp8.tx s8_10.tx).tx (u11.tx (dtup hM10))
            refine ⟨_, _, rfl, ?_⟩
            -- found.append
            obtain ⟨xs, p', c', w1, wl, w2, w3, w4⟩ := (hW1.tx tx11).get (K := K) nW
            refine ⟨_, rfl, .inl ⟨rfl, _, SqL.of hl11⟩, _, rfl, _, rfl, _, _, _, _, rfl, rfl, w1, w2, _, _, _, _, rfl, rfl, w3, atI_nat (j := 1) rfl, _, rfl, _, _, rfl, rfl, l, _, _, rfl, rfl, hl11, ?_, ?_⟩
            · rw [List.length_map, hcs, List.length_map, List.length_take]
              exact small1000 (by omega)
            have ev2 : (V.int ((Wb.pri W x : Int) + (if ((Wb.P W (Wb.okK G3) u : Nat) : Int) > ((Wb.P W (Wb.okK S1) x : Nat) : Int) then ((Wb.P W (Wb.okK G3) u : Nat) : Int) else ((Wb.P W (Wb.okK S1) x : Nat) : Int)))) = vN (Wb.cost W (Wb.okK S1) u x) := by
              rw [Wb.P_congr wf ev]
              unfold Wb.cost vN
              congr 1
              split <;> omega
            dsimp only
            rw [ev2]
            have txl : Tx H11 (upd H11 l (.lst (cs.map vN ++ [vN (Wb.cost W (Wb.okK S1) u x)]))) := Tx.put fun xs z => by rw [hl11] at z; cases z
            refine ⟨_, _, L11, cs ++ [Wb.cost W (Wb.okK S1) u x], rfl, u1_11.add nl1, tx11.trans txl, ⟨hM11.dn.upd hld txl, hM11.nd, hM11.can⟩, hp11.tx txl, ?_, ?_, Classical.em _⟩
            · rw [upd_same, List.map_append]
              rfl
            · rw [hcs, List.take_add_one, hn', List.map_append]
              rfl
          · obtain ⟨y5, y6, L', cs, rfl, u16, tx6, hM6, hp6, hl6, hcs, hdec⟩ := h
            rw [List.length_map, List.take_length] at hcs
            refine ⟨_, rfl, l, cs.map fun n : Nat => (n : Int), rfl, ?_, ?_, fun m hm hle => ?_⟩
            · rw [← ints_of]
              exact SqL.of hl6
            · rw [List.length_map, hcs, List.length_map]
              exact List.length_pos_iff.mpr hne
            obtain ⟨m', hm', rfl⟩ := List.mem_map.mp hm
            have em : m' = Wb.P W (Wb.okK S1) u := by
              rw [Wb.P_open wf hne, ← hcs]
              refine (Wb.minL_eq hm' fun y hy => ?_).symm
              have := hle (y : Int) (List.mem_map.mpr ⟨y, hy, rfl⟩)
              omega
            subst em
            refine ⟨_, rfl, _, rfl, _, rfl, (by show 2 ≤ sizeLine; decide), fun t2 nt2 => ?_⟩
            have sT2 : Same H6 (upd H6 t2 (.tup [vN u, .ref b1])) := Same.new nt2
            have hM7 := hM6.same sT2
            refine ⟨d, t2, (u, S1), _, rfl, rfl, ⟨b1, upd_same, (h1.tx tx6).tx sT2.tx⟩, hM7.dn, hM7.len wf, fun H8 hne8 dn8 => ?_⟩
            have u8 : But d H1 H8 := fun c o cd hc => by
              rw [hne8 c cd]
              exact sT2 _ _ (u16 c o cd hc)
            by_cases hin' : (u, S1) ∈ L'
            · refine ⟨L', _, _, _, rfl, u8, ⟨?_, hM7.nd, hM7.can⟩, hin'⟩
              have e : putK (memo W L') (u, S1) (vN (Wb.P W (Wb.okK S1) u)) = memo W L' := by
                unfold putK
                rcases memo_val W (u, S1) L' with ⟨_, h2⟩ | ⟨h1, _⟩
                · rw [valV_any, h2, Option.isSome_some, if_pos rfl]
                  unfold memo
                  rw [List.map_map]
                  refine List.map_congr_left fun j _ => ?_
                  show (if j = (u, S1) then (j, vN (Wb.P W (Wb.okK S1) u)) else (j, vN (Wb.P W (Wb.okK j.2) j.1))) = _
                  split
                  · rename_i e
                    rw [e]
                  · rfl
                · exact absurd hin' h1
              rw [e] at dn8
              exact dn8
            · exact ⟨L' ++ [(u, S1)], _, _, _, rfl, u8, hM7.put hin' cSh dn8, List.mem_append_right _ List.mem_cons_self⟩
    · obtain ⟨L', y4, y5, y6, rfl, u2, hM2, hin⟩ := hI
      refine ⟨_, rfl, _, rfl, _, rfl, (by show 2 ≤ sizeLine; decide), fun t nt => ?_⟩
      have sT : Same H2 (upd H2 t (.tup [vN u, .ref b1])) := Same.new nt
      have hM3 := hM2.same sT
      rcases memo_val W (u, S1) L' with ⟨_, hv⟩ | ⟨hno, _⟩
      · exact ⟨d, t, (u, S1), _, _, rfl, rfl, ⟨b1, upd_same, (h1.tx (u2.tx (dtup hM1))).tx sT.tx⟩, hM3.dn, hv, q1 _ L' (u2.step sT) hM3⟩
      · exact absurd hin hno
end
end AH
end
section
set_option Elab.async false
set_option linter.all false
set_option maxRecDepth 100000
set_option maxHeartbeats 4000000
/-! The law's helpers, 6: is_plan, plan_price, plan. -/
namespace AH
open PySem PySem.Spec PyProof.Rows L2
theorem iteFb {c : Bool} {A B : Prop} (e : c = false) (h : B) : if c = true then A else B := by rw [e]; exact iteF h
theorem iteTb {c : Bool} {A B : Prop} (e : c = true) (h : A) : if c = true then A else B := by rw [e]; exact iteT h
section
variable {P : Program} {w : World} {K : PySem.W.Frag} {mg : Str → Option Value} {base : Heap}
/-! ### _law_plan_price -/
theorem scLPlanPrice : FnScope ["_law_web_here", "_law_plan_here"] ["_law_web_here", "_law_plan_here"] (defScope lPlanPrice) := ⟨rfl, rfl, rfl, by decide +kernel, rfl, by decide +kernel, by decide +kernel⟩
def spPlanPrice (n : Nat) : Sp := fun vs H Q _ => ∃ (a t : Addr) (W : Wb.Web) (p : Wb.Pl), vs = [.ref a, .ref t] ∧ WebAt H a W ∧ PlanAt H t p ∧ Wb.Okp W p ∧ Wb.dep p < n ∧ ∀ H', Same H H' → Q (vN (p.price W)) H'
theorem kn_planPrice {k : Nat} (D : Def K mg "_law_plan_price" lPlanPrice) (mx : mg "max" = none) :
    ∀ n, Kn P w K mg base CX0 "_law_plan_price" ["_law_web_here", "_law_plan_here"] (k + n) (spPlanPrice n)
  | 0 => by
    obtain ⟨f, fd, F, hm⟩ := D
    have no : ∀ vs H Q E, ¬ spPlanPrice 0 vs H Q E := fun vs H Q E h => by
      obtain ⟨a, t, W, p, _, _, _, _, h, _⟩ := h
      exact Nat.not_lt_zero _ h
    exact ⟨f, fd, hm, F.kp, F.binds fun _ _ _ _ _ _ us hl => match us, hl with | [_, _], _ => rfl, ⟨fun vs H Q E h => absurd h (no vs H Q E), fun A outer s H args us vs Q E _ _ _ _ h => absurd h (no vs H Q E)⟩⟩
  | n + 1 => by
    have G := kn_planPrice (k := k) D mx n
    obtain ⟨f, fd, F, hm⟩ := D
    refine ⟨f, fd, hm, F.kp, F.binds fun _ _ _ _ _ _ us hl => match us, hl with | [_, _], _ => rfl, F.ok scLPlanPrice (k := k + n) (fun vs H Q E h => ?_) (fun cdv A outer s H vs Q E hr h => ?_)⟩
    · obtain ⟨a, t, W, p, rfl, _⟩ := h
      rfl
    obtain ⟨a, t, W, p, rfl, hW, hp, ok, hn, q⟩ := h
    refine ⟨_, pss_cons (ps_if (pt_cmpR op_eq (pe_ix ix_tup (pv 1) pe_int (fun _ _ => rfl)) pe_str (nomark _)) (pss_one (ps_ret (pe_ix ix_tup (pe_ix ix_tup (pv 0) (pe_ix ix_tup (pv 1) pe_int (fun _ _ => rfl)) (fun _ _ => rfl)) pe_int (fun _ _ => rfl)))) pss_nil)
      (pss_one (ps_ret (pe_op op_add (pe_ix ix_tup (pe_ix ix_tup (pv 0) (pe_ix ix_tup (pv 1) pe_int (fun _ _ => rfl)) (fun _ _ => rfl)) pe_int (fun _ _ => rfl)) (pe_callB (call_max2 rfl) (by rfl) mx (by decide +kernel)
        (pa_cons (pe_kn G hr pass0 (pa_cons (pv 0) (pa_cons (pe_ix ix_tup (pv 1) pe_int (fun _ _ => rfl)) pa_nil))) (pa_cons (pe_kn G hr pass0 (pa_cons (pv 0) (pa_cons (pe_ix ix_tup (pv 1) pe_int (fun _ _ => rfl)) pa_nil))) pa_nil)))))), ?_⟩
    cases p with
    | bl u =>
      have ht : H t = some (.tup [.str "blame", vN u]) := hp
      have hu : u < W.length := ok
      obtain ⟨xs, p', c', w1, wl, w2, w3, w4⟩ := hW.get (K := K) hu
      refine ⟨_, rfl, _, _, _, _, rfl, rfl, SqT.of ht, atI_nat (j := 0) rfl, rfl, _, rfl, ?_⟩
      rw [decide_eq_true (show V.str "blame" = V.str "blame" from rfl)]
      exact iteT ⟨_, rfl, _, rfl, _, _, _, _, rfl, rfl, SqT.of ht, atI_nat (j := 1) rfl, _, _, _, _, rfl, rfl, w1, w2, _, _, _, _, rfl, rfl, w3, atI_nat (j := 2) rfl, q H (Same.refl H)⟩
    | ask x p1 p2 =>
      obtain ⟨b, c, ht, h1, h2⟩ := hp
      obtain ⟨hx, ok1, ok2⟩ := ok
      have hn' : max (Wb.dep p1) (Wb.dep p2) + 1 < n + 1 := hn
      obtain ⟨xs, p', c', w1, wl, w2, w3, w4⟩ := hW.get (K := K) hx
      refine ⟨_, rfl, _, _, _, _, rfl, rfl, SqT.of ht, atI_nat (j := 0) rfl, rfl, _, rfl, ?_⟩
      rw [decide_eq_false (show ¬ V.str "ask" = V.str "blame" from fun z => by injection z with z; exact absurd z (by decide))]
      refine iteF ⟨_, rfl, _, rfl, _, _, _, _, rfl, rfl, SqT.of ht, atI_nat (j := 1) rfl, _, _, _, _, rfl, rfl, w1, w2, _, _, _, _, rfl, rfl, w3, atI_nat (j := 1) rfl, ?_⟩
      refine ⟨_, rfl, _, rfl, _, _, _, _, rfl, rfl, SqT.of ht, atI_nat (j := 2) rfl, a, b, W, p1, rfl, hW, h1, ok1, by omega, fun H1 s1 => ?_⟩
      refine ⟨_, rfl, _, rfl, _, _, _, _, rfl, rfl, SqT.of (s1 _ _ ht), atI_nat (j := 3) rfl, a, c, W, p2, rfl, hW.tx s1.tx, h2.tx s1.tx, ok2, by omega, fun H2 s2 => ?_⟩
      refine ⟨_, _, rfl, _, _, rfl, rfl, ?_⟩
      have ev2 : (V.int ((Wb.pri W x : Int) + (if ((p2.price W : Nat) : Int) > ((p1.price W : Nat) : Int) then ((p2.price W : Nat) : Int) else ((p1.price W : Nat) : Int)))) = vN ((Wb.Pl.ask x p1 p2).price W) := by
        rw [show (Wb.Pl.ask x p1 p2).price W = Wb.pri W x + max (p1.price W) (p2.price W) from rfl]
        generalize p1.price W = e1
        generalize p2.price W = e2
        unfold vN
        congr 1
        split <;> omega
      dsimp only
      rw [ev2]
      exact q H2 (s1.trans s2)
/-! ### _law_is_plan -/
theorem scLIsPlan : FnScope ["_law_web_here", "_law_known_here", "_law_w", "_law_thing"] ["_law_web_here", "_law_known_here", "_law_w", "_law_thing"] (defScope lIsPlan) := ⟨rfl, rfl, rfl, by decide +kernel, rfl, by decide +kernel, by decide +kernel⟩
def spIsPlan (n : Nat) : Sp := fun vs H Q _ => ∃ (a b t : Addr) (W : Wb.Web) (S : List Nat) (u : Nat), vs = [.ref a, .ref b, vN u, .ref t] ∧ WebAt H a W ∧ Wb.Wf W ∧ TupN H b S ∧ Wb.Can W (u, S) ∧ PlanAt H t (Wb.BP W (Wb.okK S) u) ∧ (Wb.opn W (Wb.okK S) u).length < n ∧ ∀ H', Same H H' → Q (.bl true) H'
theorem kn_isPlan {k : Nat} (D : Def K mg "_law_is_plan" lIsPlan) (mi : mg "isinstance" = none) (ml : mg "len" = none) (mt : mg "tuple" = none) (mstr : mg "str" = none) (G1 : Kn P w K mg base CX0 "_law_is_int" ["_law_thing"] k spIsInt) (G2 : Kn P w K mg base CX0 "_law_settled" ["_law_web_here", "_law_known_here", "_law_u"] k spSettled)
    (G3 : Kn P w K mg base CX0 "_law_below" ["_law_web_here", "_law_u"] k spBelow) (G4 : Kn P w K mg base CX0 "_law_lot" ["_law_things"] k spLot) :
    ∀ n, Kn P w K mg base CX0 "_law_is_plan" ["_law_web_here", "_law_known_here", "_law_w", "_law_thing"] (k + n) (spIsPlan n)
  | 0 => by
    obtain ⟨f, fd, F, hm⟩ := D
    have no : ∀ vs H Q E, ¬ spIsPlan 0 vs H Q E := fun vs H Q E h => by
      obtain ⟨a, b, t, W, S, u, _, _, _, _, _, _, h, _⟩ := h
      exact Nat.not_lt_zero _ h
    exact ⟨f, fd, hm, F.kp, F.binds fun _ _ _ _ _ _ us hl => match us, hl with | [_, _, _, _], _ => rfl, ⟨fun vs H Q E h => absurd h (no vs H Q E), fun A outer s H args us vs Q E _ _ _ _ h => absurd h (no vs H Q E)⟩⟩
  | n + 1 => by
    have G := kn_isPlan D mi ml mt mstr G1 G2 G3 G4 n
    obtain ⟨f, fd, F, hm⟩ := D
    refine ⟨f, fd, hm, F.kp, F.binds fun _ _ _ _ _ _ us hl => match us, hl with | [_, _, _, _], _ => rfl, F.ok scLIsPlan (k := k + n) (fun vs H Q E h => ?_) (fun cdv A outer s H vs Q E hr h => ?_)⟩
    · obtain ⟨a, b, t, W, S, u, rfl, _⟩ := h
      rfl
    obtain ⟨a, b, t, W, S, u, rfl, hW, wf, hS, cS, hp, hn, q⟩ := h
    have hr0 := hr.mono (Nat.le_add_right k n)
    have hu : u < W.length := cS.inW
    have hl := cS.len
    have w12 := wf.len
    refine ⟨_, pss_cons (ps_if (PW.pt (pw_or (pt_not (pt_val (pe_callB call_isi (by rfl) mi (by decide +kernel) (pa_cons (pv 3) (pa_cons (pe_bltn (v := .ty "tuple") (by rfl) mt (by decide +kernel) rfl) pa_nil)))))
        (pw_or (pt_cmpR op_notIn_seq (pe_callB call_len_seq (by rfl) ml PySem.boot_len (pa_cons (pv 3) pa_nil)) (pe_tup (pa_cons pe_int (pa_cons pe_int pa_nil))) (by rfl))
        (pw_or (pt_not (pt_val (pe_callB call_isi (by rfl) mi (by decide +kernel) (pa_cons (pe_ix ix_tup (pv 3) pe_int (fun _ _ => rfl)) (pa_cons (pe_bltn (v := .ty "str") (by rfl) mstr (by decide +kernel) rfl) pa_nil)))))
        (pw_or1 (pt_not (pt_val (pe_kn G1 hr0 pass0 (pa_cons (pe_ix ix_tup (pv 3) pe_int (fun _ _ => rfl)) pa_nil)))))))))
        (pss_one (ps_ret pe_bl)) pss_nil)
      (pss_cons (ps_if (pt_cmpR op_eq (pe_ix ix_tup (pv 3) pe_int (fun _ _ => rfl)) pe_str (nomark _))
        (pss_one (ps_ret (pe_and (pe_cmpR op_eq (pe_callB call_len_seq (by rfl) ml PySem.boot_len (pa_cons (pv 3) pa_nil)) pe_int (nomark _)) (pe_and (pe_cmpR op_eq (pe_ix ix_tup (pv 3) pe_int (fun _ _ => rfl)) (pv 2) (nomark _)) (pe_one (pe_kn G2 hr0 pass0 (pa_cons (pv 0) (pa_cons (pv 1) (pa_cons (pv 2) pa_nil))))))))) pss_nil)
      (pss_cons (ps_if (PW.pt (pw_or (pt_cmpR op_ne (pe_ix ix_tup (pv 3) pe_int (fun _ _ => rfl)) pe_str (nomark _)) (pw_or (pt_cmpR op_ne (pe_callB call_len_seq (by rfl) ml PySem.boot_len (pa_cons (pv 3) pa_nil)) pe_int (nomark _))
          (pw_or (pt_cmpR op_in_seq (pe_ix ix_tup (pv 3) pe_int (fun _ _ => rfl)) (pv 1) (by rfl)) (pw_or1 (pt_cmpR op_notIn_seq (pe_ix ix_tup (pv 3) pe_int (fun _ _ => rfl)) (pe_kn G3 hr0 pass0 (pa_cons (pv 0) (pa_cons (pv 2) pa_nil))) (by rfl)))))))
        (pss_one (ps_ret pe_bl)) pss_nil)
      (pss_one (ps_ret (pe_and (pe_kn G hr pass0 (pa_cons (pv 0) (pa_cons (pv 1) (pa_cons (pe_ix ix_tup (pv 3) pe_int (fun _ _ => rfl)) (pa_cons (pe_ix ix_tup (pv 3) pe_int (fun _ _ => rfl)) pa_nil)))))
        (pe_one (pe_kn G hr pass0 (pa_cons (pv 0) (pa_cons (pe_kn G4 hr0 pass0 (pa_cons (pe_op op_catA (pv 1) (pe_tup (pa_cons (pe_ix ix_tup (pv 3) pe_int (fun _ _ => rfl)) pa_nil))) pa_nil)) (pa_cons (pv 2) (pa_cons (pe_ix ix_tup (pv 3) pe_int (fun _ _ => rfl)) pa_nil)))))))))))  , ?_⟩
    have cap : ∀ {m : Nat}, (Wb.opn W (Wb.okK S) u).length = m → True := fun _ => trivial
    cases ham : Wb.am W (Wb.okK S) u with
    | none =>
      rw [Wb.BP_none wf ham] at hp
      have ht : H t = some (.tup [.str "blame", vN u]) := hp
      have ho : Wb.opn W (Wb.okK S) u = [] := by
        by_cases c : Wb.opn W (Wb.okK S) u = []
        · exact c
        · obtain ⟨x, hx, _⟩ := Wb.am_some wf c
          rw [ham] at hx
          cases hx
      refine ⟨_, rfl, _, _, _, _, true, rfl, .ty "tuple", .base (.tup ht), kit_ty (by decide +kernel), _, rfl, iteF ?_⟩
      refine ⟨_, rfl, t, _, rfl, .inr (SqT.of ht), (by show 2 ≤ sizeLine; decide), fun t1 nt1 => ?_⟩
      have s1 : Same H (upd H t1 (.tup [.int 2, .int 4])) := Same.new nt1
      have ht1 := s1 _ _ ht
      refine ⟨t1, _, rfl, .inr (SqT.of upd_same), rfl, rfl, _, rfl, iteFb rfl ?_⟩
      refine ⟨_, rfl, _, _, _, _, rfl, rfl, SqT.of ht1, atI_nat (j := 0) rfl, _, _, _, _, true, rfl, .ty "str", .base (.str _), kit_ty (by decide +kernel), _, rfl, iteF ?_⟩
      refine ⟨_, rfl, _, _, _, _, rfl, rfl, SqT.of ht1, atI_nat (j := 1) rfl, _, rfl, _, rfl, iteF ?_⟩
      refine ⟨_, rfl, _, _, _, _, rfl, rfl, SqT.of ht1, atI_nat (j := 0) rfl, rfl, _, rfl, ?_⟩
      rw [decide_eq_true (show V.str "blame" = V.str "blame" from rfl)]
      refine iteT ?_
      refine ⟨_, rfl, t, _, rfl, .inr (SqT.of ht1), rfl, _, rfl, iteTb rfl ?_⟩
      refine ⟨_, rfl, _, _, _, _, rfl, rfl, SqT.of ht1, atI_nat (j := 1) rfl, _, rfl, rfl, _, rfl, iteTb (decide_eq_true rfl) ?_⟩
      refine ⟨_, rfl, _, rfl, _, rfl, a, b, W, S, u, rfl, hW.tx s1.tx, wf, hS.tx s1.tx, hu, fun kk H2 s2 hk => ?_⟩
      obtain rfl : kk = true := hk.mpr ho
      exact q H2 (s1.trans s2)
    | some x =>
      rw [Wb.BP_some wf ham] at hp
      obtain ⟨b1, b2, ht, hp1, hp2⟩ := hp
      have rx := Wb.am_mem wf ham
      have nW := rx.inW wf
      have xb : x ∈ Wb.opn W (Wb.okK []) u := (Wb.mem_opn wf).mpr (rx.mono fun _ _ => List.not_mem_nil)
      have xS : x ∉ S := rx.isOk
      have d1 := Wb.opn_wrong wf rx
      have d2 := Wb.opn_right wf rx
      refine ⟨_, rfl, _, _, _, _, true, rfl, .ty "tuple", .base (.tup ht), kit_ty (by decide +kernel), _, rfl, iteF ?_⟩
      refine ⟨_, rfl, t, _, rfl, .inr (SqT.of ht), (by show 2 ≤ sizeLine; decide), fun t1 nt1 => ?_⟩
      have s1 : Same H (upd H t1 (.tup [.int 2, .int 4])) := Same.new nt1
      have ht1 := s1 _ _ ht
      refine ⟨t1, _, rfl, .inr (SqT.of upd_same), rfl, rfl, _, rfl, iteFb rfl ?_⟩
      refine ⟨_, rfl, _, _, _, _, rfl, rfl, SqT.of ht1, atI_nat (j := 0) rfl, _, _, _, _, true, rfl, .ty "str", .base (.str _), kit_ty (by decide +kernel), _, rfl, iteF ?_⟩
      refine ⟨_, rfl, _, _, _, _, rfl, rfl, SqT.of ht1, atI_nat (j := 1) rfl, _, rfl, _, rfl, iteF ?_⟩
      refine ⟨_, rfl, _, _, _, _, rfl, rfl, SqT.of ht1, atI_nat (j := 0) rfl, rfl, _, rfl, ?_⟩
      rw [decide_eq_false (show ¬ V.str "ask" = V.str "blame" from fun z => by injection z with z; exact absurd z (by decide))]
      refine iteF ?_
      refine ⟨_, rfl, _, _, _, _, rfl, rfl, SqT.of ht1, atI_nat (j := 0) rfl, rfl, _, rfl, iteFb (by rw [decide_eq_true (show V.str "ask" = V.str "ask" from rfl)]; rfl) ?_⟩
      refine ⟨_, rfl, t, _, rfl, .inr (SqT.of ht1), rfl, _, rfl, iteFb rfl ?_⟩
      refine ⟨_, rfl, _, _, _, _, rfl, rfl, SqT.of ht1, atI_nat (j := 1) rfl, _, rfl, b, _, rfl, .inr (hS.tx s1.tx).sq, rfl, flat_nat S, _, rfl, ?_⟩
      rw [inV_nat, decide_eq_false xS]
      refine iteF ?_
      refine ⟨_, rfl, _, _, _, _, rfl, rfl, SqT.of ht1, atI_nat (j := 1) rfl, _, rfl, _, rfl, a, W, u, rfl, hW.tx s1.tx, wf, hu, fun p2 H2 s2 h2 => ?_⟩
      refine ⟨p2, _, rfl, .inr h2.sq, rfl, flat_nat _, _, rfl, ?_⟩
      rw [inV_nat, decide_eq_true xb]
      refine iteF ?_
      have s02 := s1.trans s2
      have ht2 := s02 _ _ ht
      have cx : Wb.Can W (x, S) := ⟨nW, cS.asc, cS.mem⟩
      refine ⟨_, rfl, _, rfl, _, rfl, _, _, _, _, rfl, rfl, SqT.of ht2, atI_nat (j := 1) rfl, _, rfl, _, _, _, _, rfl, rfl, SqT.of ht2, atI_nat (j := 2) rfl, a, b, b1, W, S, x, rfl, hW.tx s02.tx, wf, hS.tx s02.tx, cx, hp1.tx s02.tx, by omega, fun H3 s3 => ⟨_, rfl, iteT ?_⟩⟩
      have s03 := s02.trans s3
      have ht3 := s03 _ _ ht
      refine ⟨_, rfl, _, rfl, _, rfl, _, _, _, _, rfl, rfl, SqT.of ht3, atI_nat (j := 1) rfl, (by show 1 ≤ sizeLine; decide), fun t4 nt4 => ?_⟩
      have s4 : Same H3 (upd H3 t4 (.tup [vN x])) := Same.new nt4
      refine catA_one ((hS.tx s03.tx).tx s4.tx) upd_same (by have : S.length ≤ W.length := hl; omega) fun t5 H5 s5 h5 => ?_
      refine ⟨t5, S ++ [x], rfl, h5, ?_, fun t6 H6 G6 s6 h6 asc mG => ?_⟩
      · rw [List.length_append]
        have : S.length ≤ W.length := hl
        show S.length + 1 ≤ 60
        omega
      have mG' : ∀ y, y ∈ G6 ↔ y ∈ S ∨ y = x := fun y => by
        rw [mG y]
        simp
      have cG : Wb.Can W (u, G6) := ⟨hu, asc, fun y hy => ((mG' y).mp hy).elim (cS.mem y) fun e => e ▸ nW⟩
      have ev : Wb.Eqv W u (Wb.okK G6) (Wb.but (Wb.okK S) x) := Wb.Eqv.of (Wb.okK_with mG')
      have s06 := s03.trans (s4.trans (s5.trans s6))
      have ht6 := s06 _ _ ht
      refine ⟨_, rfl, _, rfl, _, _, _, _, rfl, rfl, SqT.of ht6, atI_nat (j := 3) rfl, a, t6, b2, W, G6, u, rfl, hW.tx s06.tx, wf, h6, cG, ?_, ?_, fun H7 s7 => q H7 (s06.trans s7)⟩
      · rw [Wb.BP_congr wf ev]
        exact hp2.tx s06.tx
      · rw [ev.opn]
        omega
end
end AH
end
section
set_option Elab.async false
set_option linter.all false
set_option maxRecDepth 100000
set_option maxHeartbeats 4000000
/-! The law's helpers, 7: plan. -/
namespace AH
open PySem PySem.Spec PyProof.Rows L2
section
variable {P : Program} {w : World} {K : PySem.W.Frag} {mg : Str → Option Value} {base : Heap}
theorem scLPlan : FnScope ["_law_bag_here", "_law_web_here", "_law_known_here", "_law_w", "_law_some_here", "_law_x"] ["_law_bag_here", "_law_web_here", "_law_known_here", "_law_w"] (defScope lPlan) := ⟨rfl, rfl, rfl, by decide +kernel, rfl, by decide +kernel, by decide +kernel⟩
def spPlan (n : Nat) : Sp := fun vs H Q _ => ∃ (p sc a b : Addr) (W : Wb.Web) (S : List Nat) (u : Nat), vs = [.ref p, .ref a, .ref b, vN u] ∧ BagAt H p sc ∧ WebAt H a W ∧ Wb.Wf W ∧ TupN H b S ∧ Wb.Can W (u, S) ∧ Wb.unk W S u < n ∧
  ∀ t H' pl, But p H H' → BagAt H' p sc → PlanAt H' t pl → Wb.IsP W (Wb.okK S) u pl → Wb.dep pl ≤ Wb.unk W S u → Q (.ref t) H'
theorem kn_plan {k : Nat} (D : Def K mg "_law_plan" lPlan) (G1 : Kn P w K mg base CX0 "_law_settled" ["_law_web_here", "_law_known_here", "_law_u"] k spSettled) (G2 : Kn P w K mg base CX0 "_law_take" ["_law_bag_here", "_law_many"] k spTake)
    (G3 : Kn P w K mg base CX0 "_law_below" ["_law_web_here", "_law_u"] k spBelow) (G4 : Kn P w K mg base CX0 "_law_lot" ["_law_things"] k spLot) (G5 : Kn P w K mg base CX0 "_law_open" ["_law_web_here", "_law_known_here", "_law_u"] k (spCome K)) (G6 : Kn P w K mg base CX0 "_law_some" ["_law_bag_here", "_law_things"] k spSome) :
    ∀ n, Kn P w K mg base CX0 "_law_plan" ["_law_bag_here", "_law_web_here", "_law_known_here", "_law_w"] (k + n) (spPlan n)
  | 0 => by
    obtain ⟨f, fd, F, hm⟩ := D
    have no : ∀ vs H Q E, ¬ spPlan 0 vs H Q E := fun vs H Q E h => by
      obtain ⟨p, sc, a, b, W, S, u, _, _, _, _, _, _, h, _⟩ := h
      exact Nat.not_lt_zero _ h
    exact ⟨f, fd, hm, F.kp, F.binds fun _ _ _ _ _ _ us hl => match us, hl with | [_, _, _, _], _ => rfl, ⟨fun vs H Q E h => absurd h (no vs H Q E), fun A outer s H args us vs Q E _ _ _ _ h => absurd h (no vs H Q E)⟩⟩
  | n + 1 => by
    have G := kn_plan D G1 G2 G3 G4 G5 G6 n
    obtain ⟨f, fd, F, hm⟩ := D
    refine ⟨f, fd, hm, F.kp, F.binds fun _ _ _ _ _ _ us hl => match us, hl with | [_, _, _, _], _ => rfl, F.ok scLPlan (k := k + n) (fun vs H Q E h => ?_) (fun cdv A outer s H vs Q E hr h => ?_)⟩
    · obtain ⟨p, sc, a, b, W, S, u, rfl, _⟩ := h
      rfl
    obtain ⟨p, sc, a, b, W, S, u, rfl, hB, hW, wf, hS, cS, hn, q⟩ := h
    have hr0 := hr.mono (Nat.le_add_right k n)
    have hu : u < W.length := cS.inW
    have hl := cS.len
    have w12 := wf.len
    refine ⟨_, pss_cons (ps_if (pt_val (pe_kn G1 hr0 pass0 (pa_cons (pv 1) (pa_cons (pv 2) (pa_cons (pv 3) pa_nil))))) (pss_one (ps_ret (pe_tup (pa_cons pe_str (pa_cons (pv 3) pa_nil))))) pss_nil)
      (C8.pss_cut (ps_set (i := 4) scLPlan.nd rfl (.inl rfl) (pe_ifExp (pt_cmpR op_eq (pe_kn G2 hr0 pass0 (pa_cons (pv 0) (pa_cons pe_int pa_nil))) pe_int (nomark _))
        (pe_lc (own := [("_law_x", 5)]) (g := gName 5) (by rfl) scLPlan.nd (pi_tup (pe_kn G3 hr0 pass0 (pa_cons (pv 1) (pa_cons (pv 3) pa_nil)))) (blkOk_by (N := ["_law_bag_here", "_law_web_here", "_law_known_here", "_law_w", "_law_some_here", "_law_x"]) (sc := defScope lPlan) (by decide +kernel)) (fun _ _ _ _ _ => pg_name (i := 5) scLPlan.nd rfl (.inl rfl))
          (fun _ _ _ _ _ => pts_one (pt_cmpR (show OpR _ _ (rIn K true) from op_notIn_seq) (pv 5) (pv 2) (by rfl))) (fun _ _ _ _ _ => pv 5))
        (pe_kn G5 hr0 pass0 (pa_cons (pv 1) (pa_cons (pv 2) (pa_cons (pv 3) pa_nil))))))
      (pss_cons (ps_set (i := 5) scLPlan.nd rfl (.inl rfl) (pe_kn G6 hr0 pass0 (pa_cons (pv 0) (pa_cons (pv 4) pa_nil))))
      (pss_one (ps_ret (pe_tup (pa_cons pe_str (pa_cons (pv 5) (pa_cons (pe_kn G hr pass0 (pa_cons (pv 0) (pa_cons (pv 1) (pa_cons (pv 2) (pa_cons (pv 5) pa_nil)))))
        (pa_cons (pe_kn G hr pass0 (pa_cons (pv 0) (pa_cons (pv 1) (pa_cons (pe_kn G4 hr0 pass0 (pa_cons (pe_op op_catA (pv 2) (pe_tup (pa_cons (pv 5) pa_nil))) pa_nil)) (pa_cons (pv 3) pa_nil))))) pa_nil))))))))), ?_⟩
    refine ⟨_, rfl, _, rfl, _, rfl, a, b, W, S, u, rfl, hW, wf, hS, hu, fun kk H1 s1 hk => ⟨_, rfl, ?_⟩⟩
    cases kk with
    | true =>
      refine iteT ⟨_, rfl, (by show 2 ≤ sizeLine; decide), fun t nt => q t _ (.bl u) (But.of (s1.put (s1.free nt))) ((hB.same s1).same (Same.new nt)) upd_same ⟨rfl, (Wb.settled_iff wf).mpr (hk.mp rfl)⟩ (Nat.zero_le _)⟩
    | false =>
      have hne : Wb.opn W (Wb.okK S) u ≠ [] := fun z => Bool.noConfusion (hk.mpr z)
      refine iteF ?_
      have hB1 := hB.same s1
      refine ⟨fun σ H' => ∃ t L, σ = [some (.ref p), some (.ref a), some (.ref b), some (vN u), some (.ref t), none] ∧ But p H H' ∧ BagAt H' p sc ∧ t ≠ p ∧ (H' t = some (.lst (L.map vN)) ∨ H' t = some (.tup (L.map vN))) ∧ L ≠ [] ∧ L.length ≤ 12 ∧ ∀ x ∈ L, x ∈ Wb.opn W (Wb.okK []) u ∧ x ∉ S, ?_, fun σ H3 hI => ?_⟩
      · refine ⟨_, rfl, p, sc, 4, rfl, hB1, by decide, by decide, fun v H2 hv u2 hB2 => ⟨rfl, _, rfl, ?_⟩⟩
        have u02 : But p H H2 := (But.of s1).trans u2
        have tx2 : Tx H H2 := hB.tx u02
        refine ite2 (fun _ => ?_) (fun _ => ?_)
        · refine ⟨_, rfl, _, rfl, a, W, u, rfl, hW.tx tx2, wf, hu, fun p3 H3 s3 h3 => ?_⟩
          have tx3 := tx2.trans s3.tx
          refine ⟨p3, rfl, ⟨_, h3.sq⟩, fun D nD => ?_⟩
          have lo := Wb.opn_len (W := W) (ok := Wb.okK []) (u := u)
          refine lc_filt (p := fun x => decide (x ∉ S)) h3 nD (by omega) (fun x hx H4 Nx s4 h => ?_) fun H4 s4 hL => ?_
          · refine ⟨rfl, _, rfl, _, rfl, b, _, rfl, .inr ((hS.tx tx3).tx s4.tx).sq, rfl, flat_nat S, _, rfl, ?_⟩
            rw [inV_nat]
            by_cases cv : x ∈ S
            · rw [decide_eq_false (fun z => z cv)] at h
              rw [decide_eq_true cv]
              exact iteF (iteF_elim h)
            · rw [decide_eq_true cv] at h
              rw [decide_eq_false cv]
              exact iteT ⟨_, rfl, iteT_elim h⟩
          · have hB4 := (hB2.same s3).same s4
            have mf : ∀ x, x ∈ (Wb.opn W (Wb.okK []) u).filter (fun x => decide (x ∉ S)) ↔ x ∈ Wb.opn W (Wb.okK []) u ∧ x ∉ S := fun x => by rw [List.mem_filter, decide_eq_true_iff]
            refine ⟨D, _, rfl, (u02.step s3).step s4, hB4, ((hB2.same s3).ne nD).1, .inl hL, fun z => ?_, ?_, fun x hx => (mf x).mp hx⟩
            · obtain ⟨x, hx⟩ := List.exists_mem_of_ne_nil _ hne
              have := (mf x).mpr (Wb.opn_sub wf hx)
              rw [z] at this
              cases this
            · have := List.length_filter_le (fun x => decide (x ∉ S)) (Wb.opn W (Wb.okK []) u)
              omega
        · refine ⟨_, rfl, _, rfl, _, rfl, a, b, W, S, u, rfl, hW.tx tx2, wf, hS.tx tx2, hu, fun p3 H3 s3 h3 => ?_⟩
          have hB3 := hB2.same s3
          have lo := Wb.opn_len (W := W) (ok := Wb.okK S) (u := u)
          refine ⟨p3, _, rfl, u02.step s3, hB3, fun z => ?_, .inr h3, hne, by omega, fun x hx => Wb.opn_sub wf hx⟩
          obtain ⟨x, y, z', ns, B⟩ := hB3
          have h3' : H3 p3 = some (.tup ((Wb.opn W (Wb.okK S) u).map vN)) := h3
          rw [z, B.at'] at h3'
          cases h3'
      · obtain ⟨t, L, rfl, u3, hB3, tp, ht, Lne, L12, hL⟩ := hI
        refine ⟨_, rfl, _, rfl, p, t, sc, L.map vN, rfl, hB3, tp, ht, by rw [List.length_map]; exact List.length_pos_iff.mpr Lne, by rw [List.length_map]; omega, fun v H4 hv u4 hB4 => ?_⟩
        obtain ⟨x, hx, rfl⟩ := List.mem_map.mp hv
        obtain ⟨xb, xS⟩ := hL x hx
        have rx : Wb.R W (Wb.okK []) u x := (Wb.mem_opn wf).mp xb
        have nW := rx.inW wf
        have d1 := Wb.unk_wrong wf xb xS
        have u04 := u3.trans u4
        have tx4 := hB.tx u04
        have cx : Wb.Can W (x, S) := ⟨nW, cS.asc, cS.mem⟩
        refine ⟨_, rfl, _, rfl, _, rfl, _, rfl, _, rfl, p, sc, a, b, W, S, x, rfl, hB4, hW.tx tx4, wf, hS.tx tx4, cx, by omega, fun t5 H5 p5 u5 hB5 h5 i5 e5 => ?_⟩
        have u05 := u04.trans u5
        have tx5 := hB.tx u05
        refine ⟨_, rfl, _, rfl, _, rfl, _, rfl, (by show 1 ≤ sizeLine; decide), fun t6 nt6 => ?_⟩
        have s6 : Same H5 (upd H5 t6 (.tup [vN x])) := Same.new nt6
        refine catA_one ((hS.tx tx5).tx s6.tx) upd_same (by have : S.length ≤ W.length := hl; omega) fun t7 H7 s7 h7 => ?_
        refine ⟨t7, S ++ [x], rfl, h7, ?_, fun t8 H8 G8 s8 h8 asc mG => ?_⟩
        · rw [List.length_append]
          have : S.length ≤ W.length := hl
          show S.length + 1 ≤ 60
          omega
        have mG' : ∀ y, y ∈ G8 ↔ y ∈ S ∨ y = x := fun y => by
          rw [mG y]
          simp
        have cG : Wb.Can W (u, G8) := ⟨hu, asc, fun y hy => ((mG' y).mp hy).elim (cS.mem y) fun e => e ▸ nW⟩
        have d2 := Wb.unk_right wf xb xS mG'
        have s58 := s6.trans (s7.trans s8)
        have hB8 := hB5.same s58
        have tx8 := tx5.trans s58.tx
        refine ⟨_, rfl, p, sc, a, t8, W, G8, u, rfl, hB8, hW.tx tx8, wf, h8, cG, by omega, fun t9 H9 p9 u9 hB9 h9 i9 e9 => ?_⟩
        refine ⟨(by show 4 ≤ sizeLine; decide), fun t10 nt10 => ?_⟩
        have s10 : Same H9 (upd H9 t10 (.tup [.str "ask", vN x, .ref t5, .ref t9])) := Same.new nt10
        refine q t10 _ (.ask x p5 p9) (((u05.step s58).trans u9).step s10) (hB9.same s10) ⟨t5, t9, upd_same, ?_, h9.tx s10.tx⟩ ⟨xS, rx.mono fun _ _ => trivial, i5, ?_⟩ ?_
        · exact ((h5.tx s58.tx).tx (hB8.tx u9)).tx s10.tx
        · exact Wb.IsP_congr wf (Wb.okK_with mG') i9
        · show max _ _ + 1 ≤ _
          omega
end
end AH
end
section
set_option Elab.async false
set_option linter.all false
set_option maxRecDepth 100000
set_option maxHeartbeats 4000000
/-! The law's helpers, 8: web. -/
namespace AH
open PySem PySem.Spec PyProof.Rows L2
/-- [v for v in range(lo, lo + n) if ..], where the test may take from the bag -/
theorem lc_bag {p sc : Addr} {lo : Int} {n top j : Nat} {tt : TT} {vs : List Nat} {σ : L2.St} {H1 : Hp} {D : Addr} {Qd : Hp → Prop} (hB : BagAt H1 p sc) (nD : H1 D = none) (hn : n ≤ 900) (hi : lo + (n : Int) ≤ (top : Int))
    (hw : ∀ v : V, wipe ((wipe σ vs).set j (some v)) vs = wipe σ vs) (hx : ∀ v : V, ((wipe σ vs).set j (some v))[j]? = some (some v))
    (hs : ∀ i : Nat, i < n → ∀ H2 (R : Bool → Hp → Prop), BagAt H2 p sc → (∀ b H3, But p H2 H3 → BagAt H3 p sc → (b = true → 0 ≤ lo + (i : Int)) → R b H3) → tt ((wipe σ vs).set j (some (.int (lo + (i : Int))))) H2 R)
    (hd : ∀ H2 (ms : List Nat), But p H1 H2 → BagAt H2 p sc → H2 D = some (.lst (ms.map vN)) → (∀ x ∈ ms, x < top) → ms.length ≤ n → Qd H2) :
    ∃ W : Nat → Nat → Hp → Prop, (∃ m, W 0 m (upd H1 D (.lst []))) ∧ ∀ i m H, W i m H →
      ((Itr lo n).stop i H ∧ Qd H) ∨ ((Itr lo n).go i H ∧ ∃ Nx : Hp → Prop, (∀ H', Nx H' → ∃ m', m' < m ∧ W (i + 1) m' H') ∧ ∀ x H', (Itr lo n).yld i H x H' → gName j x (wipe σ vs) H' fun σ2 H2 => wipe σ2 vs = wipe σ vs ∧ tt σ2 H2 fun b H3 =>
        if b = true then tVar j σ2 H3 fun y H4 => ∃ acc, H4 D = some (.lst acc) ∧ acc.length < sizeLine ∧ Nx (upd H4 D (.lst (acc ++ [y]))) else Nx H3) := by
  refine lc_range (fun i H2 => But p H1 H2 ∧ BagAt H2 p sc ∧ ∃ ms : List Nat, H2 D = some (.lst (ms.map vN)) ∧ (∀ x ∈ ms, x < top) ∧ ms.length ≤ i)
    ⟨(But.refl p H1).new nD, hB.put (hB.ne nD), [], upd_same, (fun x h => nomatch h), Nat.le_refl _⟩ (fun i H2 hin h => ?_) fun H2 h => ?_
  · obtain ⟨u2, B2, ms, hD, lt, ml⟩ := h
    refine ⟨hw _, hs i hin H2 _ B2 fun b H3 u3 B3 hb => ?_⟩
    have hD3 : H3 D = some (.lst (ms.map vN)) := u3 D _ (hB.ne nD).1 hD
    cases b with
    | true =>
      have h0 := hb rfl
      refine iteT ⟨_, hx _, _, hD3, by rw [List.length_map]; exact small1000 (by omega), (u2.trans u3).add nD, B3.put (hB.ne nD), ms ++ [(lo + (i : Int)).toNat], ?_, fun x hx => ?_, ?_⟩
      · rw [upd_same, List.map_append]
        have : V.int (lo + (i : Int)) = vN (lo + (i : Int)).toNat := by
          unfold vN
          congr 1
          omega
        rw [this]
        rfl
      · rcases List.mem_append.mp hx with h | h
        · exact lt x h
        · have : x = (lo + (i : Int)).toNat := by simpa using h
          omega
      · rw [List.length_append]
        show ms.length + 1 ≤ _
        omega
    | false => exact iteF ⟨u2.trans u3, B3, ms, hD3, lt, by omega⟩
  · obtain ⟨u2, B2, ms, hD, lt, ml⟩ := h
    exact hd H2 ms u2 B2 hD lt ml
/-- a node in the heap -/
def NodeAt (H : Hp) (g : Addr) (n : Wb.Nd) : Prop := ∃ c, H g = some (.tup [.ref c, vN n.2.1, vN n.2.2]) ∧ TupN H c n.1
theorem NodeAt.tx {H H' : Hp} {g : Addr} {n : Wb.Nd} (h : NodeAt H g n) (e : Tx H H') : NodeAt H' g n := let ⟨c, a, b⟩ := h; ⟨c, e _ _ a, b.tx e⟩
theorem nodes_tx {H H' : Hp} (e : Tx H H') : ∀ {gs : List Addr} {W : Wb.Web}, Paired (NodeAt H) gs W → Paired (NodeAt H') gs W
  | _, _, .nil => .nil
  | _, _, .cons h t => .cons (h.tx e) (nodes_tx e t)
theorem web_of {H : Hp} {t : Addr} {gs : List Addr} {W : Wb.Web} (h : H t = some (.tup (gs.map V.ref))) (hp : Paired (NodeAt H) gs W) : WebAt H t W := by
  have hl := paired_len hp
  refine ⟨fun i => gs.getD i 0, ?_, fun i hi => ?_⟩
  · rw [h]
    congr 2
    refine List.ext_getElem? fun i => ?_
    rw [List.getElem?_map, List.getElem?_map]
    by_cases c : i < W.length
    · rw [List.getElem?_range c, List.getElem?_eq_getElem (by omega : i < gs.length)]
      simp [List.getD_eq_getElem?_getD, List.getElem?_eq_getElem (by omega : i < gs.length)]
    · rw [List.getElem?_eq_none (by omega), List.getElem?_eq_none (by rw [List.length_range]; omega)]
      rfl
  · obtain ⟨n, hn, c, h1, h2⟩ := paired_get hp (List.getElem?_eq_getElem (by omega : i < gs.length))
    have e : gs.getD i 0 = gs[i]'(by omega) := by rw [List.getD_eq_getElem?_getD, List.getElem?_eq_getElem (by omega : i < gs.length)]; rfl
    have en : Wb.nd W i = n := by unfold Wb.nd; rw [List.getD_eq_getElem?_getD, hn]; rfl
    refine ⟨c, ?_, ?_⟩
    · show H (gs.getD i 0) = _
      rw [e, h1]
      unfold Wb.pri Wb.rea
      rw [en]
    · unfold Wb.cal
      rw [en]
      exact h2
def Lay (W : Wb.Web) : Prop := ∀ (i : Nat) (n : Wb.Nd), W[i]? = some n → (∀ x ∈ n.1, x < i) ∧ n.1.length ≤ 12 ∧ n.2.1 ≤ 1000 ∧ n.2.2 ≤ 1000
theorem Lay.wf {W : Wb.Web} (h : Lay W) (l : W.length ≤ 12) : Wb.Wf W := by
  have key : ∀ u, (Wb.nd W u = ([], 0, 0)) ∨ W[u]? = some (Wb.nd W u) := fun u => by
    by_cases c : u < W.length
    · right
      unfold Wb.nd
      rw [List.getD_eq_getElem?_getD, List.getElem?_eq_getElem c]
      rfl
    · exact .inl (Wb.nd_out (by omega))
  refine ⟨fun u x hx => ?_, fun u => ?_, l, fun u => ?_, fun u => ?_⟩
  · unfold Wb.cal at hx
    rcases key u with e | e
    · rw [e] at hx
      cases hx
    · exact (h u _ e).1 x hx
  · unfold Wb.cal
    rcases key u with e | e
    · rw [e]; exact Nat.zero_le _
    · exact (h u _ e).2.1
  · unfold Wb.pri
    rcases key u with e | e
    · rw [e]; exact Nat.zero_le _
    · exact (h u _ e).2.2.1
  · unfold Wb.rea
    rcases key u with e | e
    · rw [e]; exact Nat.zero_le _
    · exact (h u _ e).2.2.2
theorem Lay.snoc {W : Wb.Web} {n : Wb.Nd} (h : Lay W) (h1 : ∀ x ∈ n.1, x < W.length) (h2 : n.1.length ≤ 12) (h3 : n.2.1 ≤ 1000) (h4 : n.2.2 ≤ 1000) : Lay (W ++ [n]) := fun i m hm => by
  by_cases c : i < W.length
  · rw [List.getElem?_append_left c] at hm
    exact h i m hm
  · have : i = W.length := by
      have := (List.getElem?_eq_some_iff.mp hm).1
      rw [List.length_append] at this
      have : i < W.length + 1 := this
      omega
    subst this
    rw [List.getElem?_append_right (Nat.le_refl _), Nat.sub_self] at hm
    obtain rfl : n = m := Option.some.inj hm
    exact ⟨h1, h2, h3, h4⟩
section
variable {P : Program} {w : World} {K : PySem.W.Frag} {mg : Str → Option Value} {base : Heap}
abbrev nWeb : List Str := ["_law_bag_here", "_law_most", "_law_many", "_law_shape", "_law_plain", "_law_nodes", "_law_at", "_law_its", "_law_price_here", "_law_reading", "_law_v"]
theorem scLWeb : FnScope nWeb ["_law_bag_here", "_law_most"] (defScope lWeb) := ⟨rfl, rfl, rfl, by decide +kernel, rfl, by decide +kernel, by decide +kernel⟩
def spWeb : Sp := fun vs H Q _ => ∃ (p sc : Addr), vs = [.ref p, vN 7] ∧ BagAt H p sc ∧ ∀ t H' W, But p H H' → BagAt H' p sc → WebAt H' t W → Wb.Wf W → 0 < W.length → W.length ≤ 7 → Q (.ref t) H'
theorem kn_web {k : Nat} (D : Def K mg "_law_web" lWeb) (mr : mg "range" = none) (mi : mg "int" = none) (ml : mg "list" = none) (mx : mg "max" = none) (mt : mg "tuple" = none) (G1 : Kn P w K mg base CX0 "_law_take" ["_law_bag_here", "_law_many"] k spTake) (G2 : Kn P w K mg base CX0 "_law_some" ["_law_bag_here", "_law_things"] k spSome) :
    Kn P w K mg base CX0 "_law_web" ["_law_bag_here", "_law_most"] (k + 1) spWeb := by
  obtain ⟨f, fd, F, hm⟩ := D
  refine ⟨f, fd, hm, F.kp, F.binds fun _ _ _ _ _ _ us hl => match us, hl with | [_, _], _ => rfl, F.ok scLWeb (fun vs H Q E h => ?_) (fun cdv A outer s H vs Q E hr h => ?_)⟩
  · obtain ⟨p, sc, rfl, _⟩ := h
    rfl
  obtain ⟨p, sc, rfl, hB, q⟩ := h
  refine ⟨_, (pss_cons (ps_par3 (i := 2) (j := 3) (l := 4) (by rfl) scLWeb.nd rfl rfl rfl (by decide) (by decide) (by decide) rfl rfl rfl (pa_cons (pe_op op_add pe_int (pe_kn G1 hr pass0 (pa_cons (pv 0) (pa_cons (pv 1) pa_nil)))) (pa_cons (pe_kn G1 hr pass0 (pa_cons (pv 0) (pa_cons pe_int pa_nil))) (pa_cons (pe_kn G1 hr pass0 (pa_cons (pv 0) (pa_cons pe_int pa_nil))) pa_nil))) (by rfl))
      (pss_cons (ps_set (i := 5) scLWeb.nd rfl (.inl rfl) (pe_lst pa_nil))
      (pss_cons (ps_for PassesOwn.never rfl (pi_range1 (by rfl) mr (pa_cons (pv 2) pa_nil)) (pg_name (i := 6) scLWeb.nd rfl (.inl rfl)) (C8.pss_cut (ps_if (pt_cmpR op_eq (pv 3) pe_int (nomark _)) (pss_one (ps_set (i := 7) scLWeb.nd rfl (.inl rfl) (pe_op op_rep (pe_lst (pa_cons (pe_op op_sub (pv 6) pe_int) pa_nil)) (pe_callTy call_int1 (by rfl) mi (by decide +kernel) (pa_cons (pe_cmpR op_gt (pv 6) pe_int (nomark _)) pa_nil))))) (pss_one (ps_if (pt_cmpR op_eq (pv 3) pe_int (nomark _)) (pss_one (ps_setLc (i := 7) (own := [("_law_v", 10)]) (g := gName 10) (by rfl) scLWeb.nd rfl rfl (sw_true rfl rfl rfl (by decide +kernel)) (pi_range1 (by rfl) mr (pa_cons (pv 6) pa_nil)) (blkOk_by (N := nWeb) (sc := defScope lWeb) (by decide +kernel)) (fun _ _ _ _ _ => pg_name (i := 10) scLWeb.nd rfl (.inl rfl)) (fun _ _ _ _ _ => pts_one (pt_cmpR op_eq (pe_kn G1 hr pass0 (pa_cons (pv 0) (pa_cons pe_int pa_nil))) pe_int (nomark _))) (fun _ _ _ _ _ => pv 10))) (pss_one (ps_if (pt_cmpR op_eq (pv 3) pe_int (nomark _)) (pss_one (ps_setLc (i := 7) (own := [("_law_v", 10)]) (g := gName 10) (by rfl) scLWeb.nd rfl rfl (sw_true rfl rfl rfl (by decide +kernel)) (pi_tup (pe_tup (pa_cons (pe_op op_sub (pv 6) pe_int) (pa_cons (pe_op op_sub (pv 6) pe_int) pa_nil)))) (blkOk_by (N := nWeb) (sc := defScope lWeb) (by decide +kernel)) (fun _ _ _ _ _ => pg_name (i := 10) scLWeb.nd rfl (.inl rfl)) (fun _ _ _ _ _ => pts_one (pt_cmpR op_ge (pv 10) pe_int (nomark _))) (fun _ _ _ _ _ => pv 10))) (pss_one (ps_if (pt_cmpR op_eq (pv 3) pe_int (nomark _)) (pss_one (ps_setLc (i := 7) (own := [("_law_v", 10)]) (g := gName 10) (by rfl) scLWeb.nd rfl rfl (sw_true rfl rfl rfl (by decide +kernel)) (pi_range2 (by rfl) mr (pa_cons (pe_op op_sub (pv 6) pe_int) (pa_cons (pv 6) pa_nil))) (blkOk_by (N := nWeb) (sc := defScope lWeb) (by decide +kernel)) (fun _ _ _ _ _ => pg_name (i := 10) scLWeb.nd rfl (.inl rfl)) (fun _ _ _ _ _ => pts_one (PW.pt (pw_and (pt_cmpR op_ge (pv 10) pe_int (nomark _)) (pw_and1 (pt_cmpR op_eq (pe_kn G1 hr pass0 (pa_cons (pv 0) (pa_cons pe_int pa_nil))) pe_int (nomark _)))))) (fun _ _ _ _ _ => pv 10))) (pss_one (ps_if (pt_cmpR op_eq (pv 3) pe_int (nomark _)) (pss_one (ps_set (i := 7) scLWeb.nd rfl (.inl rfl) (pe_ifExp (pt_cmpR op_eq (pv 6) (pe_op op_sub (pv 2) pe_int) (nomark _)) (pe_listRg (by rfl) (by rfl) ml (prg_1 (by rfl) mr (pv 6))) (pe_lst pa_nil)))) (pss_one (ps_set (i := 7) scLWeb.nd rfl (.inl rfl) (pe_ifExp (pt_cmpR op_eq (pe_op op_mod (pv 6) pe_int) pe_int (nomark _)) (pe_lc (own := [("_law_v", 10)]) (g := gName 10) (by rfl) scLWeb.nd (pi_range1 (by rfl) mr (pa_cons (pv 6) pa_nil)) (blkOk_by (N := nWeb) (sc := defScope lWeb) (by decide +kernel)) (fun _ _ _ _ _ => pg_name (i := 10) scLWeb.nd rfl (.inl rfl)) (fun _ _ _ _ _ => pts_one (pt_cmpR op_eq (pe_kn G1 hr pass0 (pa_cons (pv 0) (pa_cons pe_int pa_nil))) pe_int (nomark _))) (fun _ _ _ _ _ => pv 10)) (pe_lc (own := [("_law_v", 10)]) (g := gName 10) (tt := tYes) (by rfl) scLWeb.nd (pi_range2 (by rfl) mr (pa_cons (pe_callB (call_max2 rfl) (by rfl) mx (by decide +kernel) (pa_cons pe_int (pa_cons (pe_op op_sub (pv 6) pe_int) pa_nil))) (pa_cons (pv 6) pa_nil))) (blkOk_by (N := nWeb) (sc := defScope lWeb) (by decide +kernel)) (fun _ _ _ _ _ => pg_name (i := 10) scLWeb.nd rfl (.inl rfl)) (fun _ _ _ _ _ => pts_nil) (fun _ _ _ _ _ => pv 10))))))))))))))
      (C8.pss_cut (ps_set (i := 8) scLWeb.nd rfl (.inl rfl) (pe_ifExp (pt_cmpR op_eq (pv 4) pe_int (nomark _)) pe_int (pe_ifExp (pt_cmpR op_eq (pv 4) pe_int (nomark _)) (pe_kn G2 hr pass0 (pa_cons (pv 0) (pa_cons (pe_lst (pa_cons pe_int (pa_cons pe_int (pa_cons pe_int (pa_cons pe_int (pa_cons pe_int pa_nil)))))) pa_nil))) (pe_kn G2 hr pass0 (pa_cons (pv 0) (pa_cons (pe_lst (pa_cons pe_int (pa_cons pe_int (pa_cons pe_int (pa_cons pe_int (pa_cons pe_int pa_nil)))))) pa_nil))))))
      (C8.pss_cut (ps_set (i := 9) scLWeb.nd rfl (.inl rfl) (pe_ifExp (pt_cmpR op_eq (pv 4) pe_int (nomark _)) pe_int (pe_kn G2 hr pass0 (pa_cons (pv 0) (pa_cons (pe_lst (pa_cons pe_int (pa_cons pe_int (pa_cons pe_int (pa_cons pe_int (pa_cons pe_int pa_nil)))))) pa_nil)))))
      (pss_one (ps_expr (pe_bm PySem.F.plainAttrs_list PySem.F.slot_list_append PySem.F.type_list_append mt_append (pv 5) (pa_cons (pe_tup (pa_cons (pe_callTy call_tuple_of (by rfl) mt (by decide +kernel) (pa_cons (pe_slice sl_list (pv 7) po_none (po_some pe_int)) pa_nil)) (pa_cons (pv 8) (pa_cons (pv 9) pa_nil)))) pa_nil))))))))
      (pss_one (ps_ret (pe_callTy call_tuple_of (by rfl) mt (by decide +kernel) (pa_cons (pv 5) pa_nil))))))), ?_⟩
  -- many, shape, plain
  refine ⟨_, rfl, _, rfl, p, sc, 7, rfl, hB, by decide, by decide, fun v1 H1 hv1 u1 B1 => ⟨1, _, rfl, rfl, ?_⟩⟩
  refine ⟨_, rfl, p, sc, 6, rfl, B1, by decide, by decide, fun v2 H2 hv2 u2 B2 => ?_⟩
  refine ⟨_, rfl, p, sc, 3, rfl, B2, by decide, by decide, fun v3 H3 hv3 u3 B3 => ⟨_, _, _, rfl, ?_⟩⟩
  have e1 : V.int (1 + (v1 : Int)) = vN (v1 + 1) := by
    unfold vN
    congr 1
    omega
  dsimp only
  rw [e1]
  have u03 : But p H H3 := (u1.trans u2).trans u3
  refine ⟨Nat.zero_le _, fun l nl => ?_⟩
  have hln := B3.ne nl
  have nlH : H l = none := u03.none nl hln.1
  have B4 : BagAt (upd H3 l (.lst [])) p sc := B3.put hln
  have u04 : But p H (upd H3 l (.lst [])) := u03.new nl
  refine ⟨_, rfl, ((v1 + 1 : Nat) : Int), rfl, by omega, by omega, ?_⟩
  refine for_range (lo := 0) (n := v1 + 1) (fun i σ H4 => ∃ y6 y7 y8 y9 gs W, σ = [some (.ref p), some (vN 7), some (vN (v1 + 1)), some (vN v2), some (vN v3), some (.ref l), y6, y7, y8, y9, none] ∧ But p H H4 ∧ BagAt H4 p sc ∧ H4 l = some (.lst (gs.map V.ref)) ∧ Paired (NodeAt H4) gs W ∧ W.length = i ∧ Lay W)
    ⟨none, none, none, none, [], [], rfl, u04, B4, upd_same, .nil, rfl, fun i n h => by rw [List.getElem?_nil] at h; cases h⟩ (fun i σ H4 hi h => ?_) fun σ H4 h => ?_
  · obtain ⟨y6, y7, y8, y9, gs, W, rfl, u5, B5, hl5, hg5, hW, lay⟩ := h
    rw [show (0 : Int) + (i : Int) = (i : Int) by omega]
    refine ⟨fun σ H' => ∃ (t : Addr) (ms : List Nat), σ = [some (.ref p), some (vN 7), some (vN (v1 + 1)), some (vN v2), some (vN v3), some (.ref l), some (vN i), some (.ref t), y8, y9, none] ∧ But p H4 H' ∧ BagAt H' p sc ∧ t ≠ p ∧ H' t = some (.lst (ms.map vN)) ∧ (∀ x ∈ ms, x < i) ∧ ms.length ≤ 12, ?_, fun σ H6 hI => ?_⟩
    · refine ⟨_, rfl, rfl, _, rfl, ite2 (fun _ => ?_) fun _ => ?_⟩
      · -- [at - 1] * int(at > 0)
        refine ⟨_, rfl, _, 1, rfl, rfl, (by show 1 ≤ sizeLine; decide), fun t1 nt1 => ?_⟩
        have s1 : Same H4 (upd H4 t1 (.lst [.int ((i : Int) - 1)])) := Same.new nt1
        have hk : ∀ b : Bool, (b = true → 0 < i) → ∃ ms : List Nat, (List.replicate (if b then (1 : Int) else 0).toNat [V.int ((i : Int) - 1)]).flatten = ms.map vN ∧ (∀ x ∈ ms, x < i) ∧ ms.length ≤ 12 := fun b hb => by
          cases b with
          | false => exact ⟨[], rfl, (fun x h => nomatch h), Nat.zero_le _⟩
          | true =>
            have := hb rfl
            refine ⟨[i - 1], ?_, fun x hx => ?_, by show 1 ≤ 12; decide⟩
            · show [V.int ((i : Int) - 1)] = [V.int (((i - 1 : Nat) : Int))]
              congr 2
              omega
            · have : x = i - 1 := by simpa using hx
              omega
        refine ⟨_, rfl, _, _, rfl, rfl, .inr ⟨_, rfl, t1, _, _, rfl, rfl, upd_same, ?_, ?_, ?_, fun t2 nt2 => ?_⟩⟩
        · split <;> decide
        · split <;> decide
        · show 1 * _ ≤ sizeLine
          split <;> decide
        · obtain ⟨ms, em, lt, ml⟩ := hk (decide ((0 : Int) < (i : Int))) fun z => by have := of_decide_eq_true z; omega
          refine ⟨t2, ms, rfl, But.of (s1.trans (Same.new nt2)), (B5.same s1).same (Same.new nt2), ((B5.same s1).ne nt2).1, ?_, lt, ml⟩
          rw [upd_same, ← em]
      refine ⟨_, rfl, rfl, _, rfl, ite2 (fun _ => ?_) fun _ => ?_⟩
      · -- shape 1
        refine ⟨_, rfl, (i : Int), rfl, by omega, by omega, fun D nD => ?_⟩
        refine lc_bag (p := p) (sc := sc) (lo := 0) (n := i) (top := i) (j := 10) B5 nD (by omega) (by omega) (fun v => rfl) (fun v => rfl) (fun i' hi' H2 R Bx h => ?_) fun H2 ms ux Bx hD lt ml => ?_
        · exact ⟨_, rfl, p, sc, 3, rfl, Bx, by decide, by decide, fun v H3 hv u3 B3 => ⟨rfl, _, rfl, h _ H3 u3 B3 fun _ => by omega⟩⟩
        · exact ⟨D, ms, rfl, ux, Bx, (B5.ne nD).1, hD, lt, by omega⟩
      refine ⟨_, rfl, rfl, _, rfl, ite2 (fun _ => ?_) fun _ => ?_⟩
      · -- shape 2
        refine ⟨_, rfl, _, 2, rfl, rfl, _, rfl, _, 1, rfl, rfl, (by show 2 ≤ sizeLine; decide), fun t1 nt1 => ⟨t1, rfl, ⟨_, SqT.of upd_same⟩, fun D nD => ?_⟩⟩
        have s1 : Same H4 (upd H4 t1 (.tup [.int ((i : Int) - 2), .int ((i : Int) - 1)])) := Same.new nt1
        have B6 := B5.same s1
        refine lc_tup (K := K) (a := t1) (xs := [.int ((i : Int) - 2), .int ((i : Int) - 1)]) (fun j H2 => Same (upd H4 t1 (.tup [.int ((i : Int) - 2), .int ((i : Int) - 1)])) H2 ∧ ∃ ms : List Nat, H2 D = some (.lst (ms.map vN)) ∧ (∀ x ∈ ms, x < i) ∧ ms.length ≤ j)
          ⟨Same.new nD, [], upd_same, (fun x h => nomatch h), Nat.le_refl _⟩ (fun j H2 _ h => SqT.of (h.1 _ _ upd_same)) (fun j x H2 hx h => ?_) fun H2 h => ?_
        · obtain ⟨s2, ms, hD, lt, ml⟩ := h
          obtain ⟨kz, rfl, hkz, hj⟩ : ∃ kz : Int, x = .int kz ∧ kz < (i : Int) ∧ j < 2 := by
            match j, hx with
            | 0, hx => exact ⟨_, (Option.some.inj hx).symm, by omega, by decide⟩
            | 1, hx => exact ⟨_, (Option.some.inj hx).symm, by omega, by decide⟩
            | n + 2, hx => exact nomatch hx
          refine ⟨rfl, _, rfl, _, _, rfl, rfl, _, rfl, ite2 (fun c => ?_) fun _ => ?_⟩
          · have c' := of_decide_eq_true c
            refine ⟨_, rfl, _, hD, by rw [List.length_map]; exact small1000 (by omega), s2.put nD, ms ++ [kz.toNat], ?_, fun x hx => ?_, ?_⟩
            · rw [upd_same, List.map_append]
              have : V.int kz = vN kz.toNat := by
                unfold vN
                congr 1
                omega
              rw [this]
              rfl
            · rcases List.mem_append.mp hx with h | h
              · exact lt x h
              · have : x = kz.toNat := by simpa using h
                omega
            · rw [List.length_append]
              show ms.length + 1 ≤ _
              omega
          · exact ⟨s2, ms, hD, lt, by omega⟩
        · obtain ⟨s2, ms, hD, lt, ml⟩ := h
          exact ⟨D, ms, rfl, But.of (s1.trans s2), B6.same s2, (B6.ne nD).1, hD, lt, by have : ms.length ≤ 2 := ml; omega⟩
      refine ⟨_, rfl, rfl, _, rfl, ite2 (fun _ => ?_) fun _ => ?_⟩
      · -- shape 3
        refine ⟨_, rfl, _, 3, rfl, rfl, _, rfl, _, _, rfl, ⟨by omega, by omega, by omega, by omega⟩, fun D nD => ?_⟩
        refine lc_bag (p := p) (sc := sc) (n := ((i : Int) - ((i : Int) - 3)).toNat) (top := i) (j := 10) B5 nD (by omega) (by omega) (fun v => rfl) (fun v => rfl) (fun i' hi' H2 R Bx h => ?_) fun H2 ms ux Bx hD lt ml => ?_
        · refine ⟨_, rfl, _, _, rfl, rfl, _, rfl, ite2 (fun c => ?_) fun _ => ?_⟩
          · have c' := of_decide_eq_true c
            exact ⟨_, rfl, p, sc, 2, rfl, Bx, by decide, by decide, fun v H3 hv u3 B3 => ⟨rfl, _, rfl, h _ H3 u3 B3 fun _ => c'⟩⟩
          · exact h _ H2 (But.refl p H2) Bx fun z => Bool.noConfusion z
        · exact ⟨D, ms, rfl, ux, Bx, (B5.ne nD).1, hD, lt, by omega⟩
      refine ⟨_, rfl, rfl, _, rfl, ite2 (fun _ => ?_) fun _ => ?_⟩
      · -- shape 4
        refine ⟨_, rfl, _, rfl, _, 1, rfl, rfl, rfl, _, rfl, ite2 (fun _ => ?_) fun _ => ?_⟩
        · refine ⟨_, rfl, _, rfl, RgOk.of_le (by omega) (by omega) (by omega) (by omega), fun t nt => ?_⟩
          have sT : Same H4 (upd H4 t (.lst (rgV 0 (i : Int)))) := Same.new nt
          refine ⟨t, List.range i, rfl, But.of sT, B5.same sT, (B5.ne nt).1, ?_, fun x hx => List.mem_range.mp hx, by rw [List.length_range]; omega⟩
          rw [upd_same]
          unfold rgV
          rw [show ((i : Int) - 0).toNat = i by omega]
          congr 2
          refine List.map_congr_left fun x _ => ?_
          unfold vN
          congr 1
          omega
        · refine ⟨Nat.zero_le _, fun t nt => ?_⟩
          have sT : Same H4 (upd H4 t (.lst [])) := Same.new nt
          exact ⟨t, [], rfl, But.of sT, B5.same sT, (B5.ne nt).1, upd_same, (fun x h => nomatch h), Nat.zero_le _⟩
      · -- the others
        refine ⟨_, rfl, _, 2, rfl, rfl, (by show (0 : Int) < 2; decide), rfl, _, rfl, ite2 (fun _ => ?_) fun _ => ?_⟩
        · refine ⟨_, rfl, (i : Int), rfl, by omega, by omega, fun D nD => ?_⟩
          refine lc_bag (p := p) (sc := sc) (lo := 0) (n := i) (top := i) (j := 10) B5 nD (by omega) (by omega) (fun v => rfl) (fun v => rfl) (fun i' hi' H2 R Bx h => ?_) fun H2 ms ux Bx hD lt ml => ?_
          · exact ⟨_, rfl, p, sc, 2, rfl, Bx, by decide, by decide, fun v H3 hv u3 B3 => ⟨rfl, _, rfl, h _ H3 u3 B3 fun _ => by omega⟩⟩
          · exact ⟨D, ms, rfl, ux, Bx, (B5.ne nD).1, hD, lt, by omega⟩
        · refine ⟨_, rfl, _, 2, rfl, rfl, _, _, rfl, ?_⟩
          have hlo : ∀ j : Int, ∃ lo : Int, (if j > 0 then j else 0) = lo ∧ 0 ≤ lo ∧ (j ≤ (i : Int) → lo ≤ (i : Int)) := fun j => by
            by_cases c : j > 0
            · exact ⟨j, by rw [if_pos c], by omega, fun h => h⟩
            · exact ⟨0, by rw [if_neg c], by omega, fun _ => by omega⟩
          obtain ⟨lo, elo, l0, l1⟩ := hlo ((i : Int) - 2)
          have l1 := l1 (by omega)
          rw [elo]
          refine ⟨_, rfl, _, _, rfl, ⟨by omega, by omega, by omega, by omega⟩, fun D nD => ?_⟩
          refine lc_bag (p := p) (sc := sc) (lo := lo) (n := ((i : Int) - lo).toNat) (top := i) (j := 10) B5 nD (by omega) (by omega) (fun v => rfl) (fun v => rfl) (fun i' hi' H2 R Bx h => ?_) fun H2 ms ux Bx hD lt ml => ?_
          · exact h true H2 (But.refl p H2) Bx fun _ => by omega
          · exact ⟨D, ms, rfl, ux, Bx, (B5.ne nD).1, hD, lt, by omega⟩
    · obtain ⟨t, ms, rfl, u6, B6, htp, ht6, lt, ml⟩ := hI
      have draw : ∀ (H7 : Hp) (xs : List V) (Q7 : VK), xs.length = 5 → (∀ v ∈ xs, ∃ n : Nat, v = vN n ∧ n ≤ 1000) → BagAt H7 p sc → (∀ n H8, n ≤ 1000 → But p H7 H8 → BagAt H8 p sc → Q7 (vN n) H8) →
          ∀ t1, H7 t1 = none → spSome [.ref p, .ref t1] (upd H7 t1 (.lst xs)) Q7 E0 := fun H7 xs Q7 l5 hxs B7 q7 t1 nt1 => by
        have s1 : Same H7 (upd H7 t1 (.lst xs)) := Same.new nt1
        refine ⟨p, t1, sc, xs, rfl, B7.same s1, (B7.ne nt1).1, .inl upd_same, by omega, by omega, fun v H8 hv u8 B8 => ?_⟩
        obtain ⟨n, rfl, hn⟩ := hxs v hv
        exact q7 n H8 hn ((But.of s1).trans u8) B8
      refine ⟨fun σ H' => ∃ pr : Nat, σ = [some (.ref p), some (vN 7), some (vN (v1 + 1)), some (vN v2), some (vN v3), some (.ref l), some (vN i), some (.ref t), some (vN pr), y9, none] ∧ pr ≤ 1000 ∧ But p H6 H' ∧ BagAt H' p sc, ?_, fun σ H7 hI => ?_⟩
      · refine ⟨_, rfl, rfl, _, rfl, ite2 (fun _ => ⟨1, rfl, by decide, But.refl p H6, B6⟩) fun _ => ?_⟩
        refine ⟨_, rfl, rfl, _, rfl, ite2 (fun _ => ?_) fun _ => ?_⟩
        · refine ⟨_, rfl, (by show 5 ≤ sizeLine; decide), draw H6 _ _ rfl ?_ B6 fun n H8 hn u8 B8 => ⟨n, rfl, hn, u8, B8⟩⟩
          intro v hv
          simp only [List.mem_cons, List.not_mem_nil, or_false] at hv
          rcases hv with rfl | rfl | rfl | rfl | rfl
          · exact ⟨1, rfl, by decide⟩
          · exact ⟨2, rfl, by decide⟩
          · exact ⟨1, rfl, by decide⟩
          · exact ⟨3, rfl, by decide⟩
          · exact ⟨5, rfl, by decide⟩
        · refine ⟨_, rfl, (by show 5 ≤ sizeLine; decide), draw H6 _ _ rfl ?_ B6 fun n H8 hn u8 B8 => ⟨n, rfl, hn, u8, B8⟩⟩
          intro v hv
          simp only [List.mem_cons, List.not_mem_nil, or_false] at hv
          rcases hv with rfl | rfl | rfl | rfl | rfl
          · exact ⟨1, rfl, by decide⟩
          · exact ⟨1, rfl, by decide⟩
          · exact ⟨40, rfl, by decide⟩
          · exact ⟨7, rfl, by decide⟩
          · exact ⟨1000, rfl, by decide⟩
      obtain ⟨pr, rfl, hpr, u7, B7⟩ := hI
      refine ⟨fun σ H' => ∃ re : Nat, σ = [some (.ref p), some (vN 7), some (vN (v1 + 1)), some (vN v2), some (vN v3), some (.ref l), some (vN i), some (.ref t), some (vN pr), some (vN re), none] ∧ re ≤ 1000 ∧ But p H7 H' ∧ BagAt H' p sc, ?_, fun σ H8 hI => ?_⟩
      · refine ⟨_, rfl, rfl, _, rfl, ite2 (fun _ => ⟨0, rfl, by decide, But.refl p H7, B7⟩) fun _ => ?_⟩
        refine ⟨_, rfl, (by show 5 ≤ sizeLine; decide), draw H7 _ _ rfl ?_ B7 fun n H8 hn u8 B8 => ⟨n, rfl, hn, u8, B8⟩⟩
        intro v hv
        simp only [List.mem_cons, List.not_mem_nil, or_false] at hv
        rcases hv with rfl | rfl | rfl | rfl | rfl
        · exact ⟨0, rfl, by decide⟩
        · exact ⟨1, rfl, by decide⟩
        · exact ⟨0, rfl, by decide⟩
        · exact ⟨2, rfl, by decide⟩
        · exact ⟨6, rfl, by decide⟩
      obtain ⟨re, rfl, hre, u8, B8⟩ := hI
      -- nodes.append
      have u48 : But p H4 H8 := (u6.trans u7).trans u8
      have hlp : l ≠ p := hln.1
      have hl8 : H8 l = some (.lst (gs.map V.ref)) := u48 l _ hlp hl5
      have ht8 : H8 t = some (.lst (ms.map vN)) := u8 t _ htp (u7 t _ htp ht6)
      obtain ⟨cs, ecs, mcs, lcs⟩ : ∃ cs : List Nat, cutV (ms.map vN) none (some 6) = cs.map vN ∧ (∀ x ∈ cs, x ∈ ms) ∧ cs.length ≤ ms.length := by
        refine ⟨(ms.drop (HT.sIx (ms.map vN).length 0 none)).take (HT.sIx (ms.map vN).length (ms.map vN).length (some 6) - HT.sIx (ms.map vN).length 0 none), ?_, fun m hm => List.mem_of_mem_drop (List.mem_of_mem_take hm), ?_⟩
        · unfold cutV
          rw [List.map_take, List.map_drop]
        · rw [List.length_take, List.length_drop]
          omega
      refine ⟨_, rfl, .inl ⟨rfl, _, SqL.of hl8⟩, _, rfl, 6, rfl, t, _, rfl, SqL.of ht8, fun c nc => ?_⟩
      rw [ecs]
      have s9 : Same H8 (upd H8 c (.lst (cs.map vN))) := Same.new nc
      refine ⟨c, _, rfl, .inl ⟨SqL.of upd_same, fun c2 nc2 => ?_⟩⟩
      have s10 : Same (upd H8 c (.lst (cs.map vN))) (upd (upd H8 c (.lst (cs.map vN))) c2 (.tup (cs.map vN))) := Same.new nc2
      refine ⟨_, rfl, _, rfl, (by show 3 ≤ sizeLine; decide), fun g ng => ?_⟩
      have hc2 : TupN (upd (upd H8 c (.lst (cs.map vN))) c2 (.tup (cs.map vN))) c2 cs := upd_same
      have s8_10 := s9.trans s10
      revert hc2 s8_10 ng
      generalize upd (upd H8 c (.lst (cs.map vN))) c2 (.tup (cs.map vN)) = H10
      intro ng hc2 s8_10
      have s11 : Same H10 (upd H10 g (.tup [.ref c2, vN pr, vN re])) := Same.new ng
      have s8_11 := s8_10.trans s11
      have hl11 := s8_11 _ _ hl8
      refine ⟨l, _, _, rfl, rfl, hl11, by rw [List.length_map, paired_len hg5]; exact small1000 (by omega), ?_⟩
      have hg11 : NodeAt (upd H10 g (.tup [.ref c2, vN pr, vN re])) g (cs, pr, re) := ⟨c2, upd_same, hc2.tx s11.tx⟩
      revert hg11 hl11 s8_11
      generalize upd H10 g (.tup [.ref c2, vN pr, vN re]) = H11
      intro s8_11 hl11 hg11
      have txl : Tx H11 (upd H11 l (.lst (gs.map V.ref ++ [.ref g]))) := Tx.put fun xs z => by rw [hl11] at z; cases z
      have tx4 : Tx H4 H11 := (B5.tx u48).trans s8_11.tx
      refine ⟨_, _, _, _, gs ++ [g], W ++ [(cs, pr, re)], rfl, (((u5.trans u48).step s8_11)).add nlH, (B8.same s8_11).put hln, ?_, ?_, ?_, lay.snoc (fun x hx => ?_) (by show cs.length ≤ 12; omega) hpr hre⟩
      · rw [upd_same, List.map_append]
        rfl
      · exact paired_app (.cons (hg11.tx txl) .nil) (nodes_tx (tx4.trans txl) hg5)
      · rw [List.length_append, hW]
        rfl
      · rw [hW]
        exact lt x (mcs x hx)
  · obtain ⟨y6, y7, y8, y9, gs, W, rfl, u5, B5, hl5, hg5, hW, lay⟩ := h
    refine ⟨_, rfl, l, _, rfl, .inl ⟨SqL.of hl5, fun t nt => ?_⟩⟩
    have sT : Same H4 (upd H4 t (.tup (gs.map V.ref))) := Same.new nt
    exact q t _ W (u5.step sT) (B5.same sT) (web_of upd_same (nodes_tx sT.tx hg5)) (lay.wf (by omega)) (by omega) (by omega)
end
end AH
end
section
set_option Elab.async false
set_option linter.all false
set_option maxRecDepth 100000
set_option maxHeartbeats 4000000
/-! The law's helpers, 9: state, alike. -/
namespace AH
open PySem PySem.Spec PyProof.Rows L2
section
variable {P : Program} {w : World} {K : PySem.W.Frag} {mg : Str → Option Value} {base : Heap}
/-! ### _law_state -/
theorem scLState : FnScope ["_law_bag_here", "_law_most", "_law_web_here", "_law_w"] ["_law_bag_here", "_law_most"] (defScope lState) := ⟨rfl, rfl, rfl, by decide +kernel, rfl, by decide +kernel, by decide +kernel⟩
def spLState : Sp := fun vs H Q _ => ∃ (p sc : Addr), vs = [.ref p, vN 7] ∧ BagAt H p sc ∧ ∀ t a b H' W S u, But p H H' → BagAt H' p sc → H' t = some (.tup [.ref a, .ref b, vN u]) → WebAt H' a W → Wb.Wf W → TupN H' b S → Wb.Can W (u, S) → W.length ≤ 7 → Q (.ref t) H'
theorem kn_lstate {k : Nat} (D : Def K mg "_law_state" lState) (ml : mg "len" = none) (G1 : Kn P w K mg base CX0 "_law_web" ["_law_bag_here", "_law_most"] k spWeb) (G2 : Kn P w K mg base CX0 "_law_take" ["_law_bag_here", "_law_many"] k spTake) (G3 : Kn P w K mg base CX0 "_law_known" ["_law_bag_here", "_law_web_here", "_law_w"] k spKnown) :
    Kn P w K mg base CX0 "_law_state" ["_law_bag_here", "_law_most"] (k + 1) spLState := by
  obtain ⟨f, fd, F, hm⟩ := D
  refine ⟨f, fd, hm, F.kp, F.binds fun _ _ _ _ _ _ us hl => match us, hl with | [_, _], _ => rfl, F.ok scLState (fun vs H Q E h => ?_) (fun cdv A outer s H vs Q E hr h => ?_)⟩
  · obtain ⟨p, sc, rfl, _⟩ := h
    rfl
  obtain ⟨p, sc, rfl, hB, q⟩ := h
  refine ⟨_, pss_cons (ps_set (i := 2) scLState.nd rfl (.inl rfl) (pe_kn G1 hr pass0 (pa_cons (pv 0) (pa_cons (pv 1) pa_nil))))
    (C8.pss_cut (ps_set (i := 3) scLState.nd rfl (.inl rfl) (pe_ifExp (pt_cmpR op_gt (pe_kn G2 hr pass0 (pa_cons (pv 0) (pa_cons pe_int pa_nil))) pe_int (nomark _)) (pe_op op_sub (pe_callB call_len_seq (by rfl) ml PySem.boot_len (pa_cons (pv 2) pa_nil)) pe_int)
      (pe_kn G2 hr pass0 (pa_cons (pv 0) (pa_cons (pe_callB call_len_seq (by rfl) ml PySem.boot_len (pa_cons (pv 2) pa_nil)) pa_nil)))))
    (pss_one (ps_ret (pe_tup (pa_cons (pv 2) (pa_cons (pe_kn G3 hr pass0 (pa_cons (pv 0) (pa_cons (pv 2) (pa_cons (pv 3) pa_nil)))) (pa_cons (pv 3) pa_nil))))))), ?_⟩
  refine ⟨_, rfl, _, rfl, p, sc, rfl, hB, fun a H1 W u1 B1 hW wf l0 l7 => ?_⟩
  refine ⟨fun σ H' => ∃ u : Nat, σ = [some (.ref p), some (vN 7), some (.ref a), some (vN u)] ∧ But p H1 H' ∧ BagAt H' p sc ∧ u < W.length, ?_, fun σ H3 hI => ?_⟩
  · refine ⟨_, rfl, p, sc, 4, rfl, B1, by decide, by decide, fun v H2 hv u2 B2 => ⟨_, _, rfl, rfl, _, rfl, ?_⟩⟩
    obtain ⟨xs, p', c', w1, wl, w2, w3, w4⟩ := (hW.tx (B1.tx u2)).get (K := K) l0
    refine ite2 (fun _ => ?_) fun _ => ?_
    · refine ⟨_, rfl, a, _, rfl, .inr w1, _, 1, rfl, rfl, W.length - 1, ?_, u2, B2, by omega⟩
      have : V.int ((xs.length : Int) - 1) = vN (W.length - 1) := by
        rw [wl]
        unfold vN
        congr 1
        omega
      dsimp only
      rw [this]
      rfl
    · refine ⟨_, rfl, _, rfl, a, _, rfl, .inr w1, p, sc, xs.length, rfl, B2, by omega, by omega, fun v' H3 hv' u3 B3 => ?_⟩
      exact ⟨v', rfl, u2.trans u3, B3, by omega⟩
  · obtain ⟨u, rfl, u3, B3, hu⟩ := hI
    have tx3 := B1.tx u3
    refine ⟨_, rfl, _, rfl, _, rfl, _, rfl, p, sc, a, W, u, rfl, B3, hW.tx tx3, wf, hu, fun b H4 S u4 B4 hS cS => ?_⟩
    refine ⟨_, rfl, (by show 3 ≤ sizeLine; decide), fun t nt => ?_⟩
    have sT : Same H4 (upd H4 t (.tup [.ref a, .ref b, vN u])) := Same.new nt
    exact q t a b _ W S u (((u1.trans u3).trans u4).step sT) (B4.same sT) upd_same ((hW.tx (tx3.trans (B3.tx u4))).tx sT.tx) wf (hS.tx sT.tx) cS l7
/-! ### _law_alike -/
theorem scLAlike : FnScope ["_law_found", "_law_due"] ["_law_found", "_law_due"] (defScope lAlike) := ⟨rfl, rfl, rfl, by decide +kernel, rfl, by decide +kernel, by decide +kernel⟩
end
def toldD (n : Nat) : PyData := .tuple [.str "told", .int n]
theorem toldD_ok : ∀ n, n ≤ 10 → PyData.showable (toldD n) = true ∧ PyData.hasDict (toldD n) = false ∧ PyData.depth (toldD n) ≤ 8 ∧ (PyData.shown (toldD n)).length ≤ sizeLine ∧ SeqAt.shaped (toldD n) = true := by decide +kernel
theorem log_ok {n : Nat} (h : n ≤ 100000) : (n : Int).natAbs.log2 < 1920 := by
  show n.log2 < 1920
  by_cases c : n = 0
  · subst c
    decide
  · rw [Nat.log2_lt c]
    exact Nat.lt_of_le_of_lt h (Nat.lt_of_lt_of_le (by decide : 100000 < 2 ^ 17) (Nat.pow_le_pow_right (Nat.zero_lt_two) (by decide : 17 ≤ 1920)))
section
variable {X : Cx}
def rReprU (K : PySem.W.Frag) : List V → Hp → VK → Prop := fun xs H Q => (∃ i, xs = [.int i] ∧ i.natAbs.log2 < 1920 ∧ Q (.str (toString i)) H) ∨ rReprT K xs H Q
theorem call_reprU (hg : X.A.guards = some []) (hu : X.A.units + 64 < cLine) : CallR X (.builtin "repr") (rReprU X.K) := by
  intro pins s σ H xs us Q I r h
  rcases h with h | h
  · exact SkE.call_repr_int pins s σ H xs us Q I r h
  · exact call_reprT hg hu pins s σ H xs us Q I r h
end
section
variable {P : Program} {w : World} {K : PySem.W.Frag} {mg : Str → Option Value} {base : Heap}
theorem told_dp {H : Hp} {a : Addr} {n : Nat} (h : H a = some (.tup [.str "told", vN n])) : Dp K H (.ref a) (toldD n) := .tup (SqT.of h) (.cons (.str _) (.cons (.int _) .nil))
def spAlike : Sp := fun vs H Q _ => ((∃ n : Nat, vs = [vN n, vN n] ∧ n ≤ 100000) ∨ ∃ (a b : Addr) (n : Nat), vs = [.ref a, .ref b] ∧ H a = some (.tup [.str "told", vN n]) ∧ H b = some (.tup [.str "told", vN n]) ∧ n ≤ 10) ∧ Q (.bl true) H
theorem kn_alike {k : Nat} (D : Def K mg "_law_alike" lAlike) (mr : mg "repr" = none) : KnG P w K mg base CX0 "_law_alike" ["_law_found", "_law_due"] (k + 1) spAlike := by
  obtain ⟨f, fd, F, hm⟩ := D
  refine ⟨f, fd, hm, F.kp, F.binds fun _ _ _ _ _ _ us hl => match us, hl with | [_, _], _ => rfl, Fun.okG F scLAlike (fun vs H Q E h => ?_) (fun cdv A outer s H vs Q E hg hr h => ?_)⟩
  · obtain ⟨⟨n, rfl, _⟩ | ⟨a, b, n, rfl, _⟩, _⟩ := h <;> rfl
  have hgd : (cxOf CX0 P w K mg base ["_law_found", "_law_due"] "_law_alike" (defScope lAlike) f cdv A outer s H E).nox.A.guards = some [] := guards_deeper hg
  refine ⟨_, pss_one (ps_ret (pe_and (pe_cmpR (op_eqD hr.units) (pv 0) (pv 1) (nomark _)) (pe_one (pe_cmpR op_eq (pe_callB (call_reprU hgd hr.units) (by rfl) mr (by decide +kernel) (pa_cons (pv 0) pa_nil)) (pe_callB (call_reprU hgd hr.units) (by rfl) mr (by decide +kernel) (pa_cons (pv 1) pa_nil)) (nomark _))))), ?_⟩
  obtain ⟨⟨n, rfl, hn⟩ | ⟨a, b, n, rfl, ha, hb, hn⟩, q⟩ := h
  · refine ⟨_, rfl, _, rfl, .int n, .int n, .int _, .int _, rfl, rfl, _, rfl, iteTb (by rw [PyData.eqv]; exact beq_self_eq_true _) ?_⟩
    refine ⟨_, rfl, .inl ⟨_, rfl, log_ok hn, _, rfl, .inl ⟨_, rfl, log_ok hn, rfl, ?_⟩⟩⟩
    rw [decide_eq_true rfl]
    exact q
  · obtain ⟨o1, o2, o3, o4, o5⟩ := toldD_ok n hn
    refine ⟨_, rfl, _, rfl, toldD n, toldD n, told_dp ha, told_dp hb, o5, o5, _, rfl, iteTb ?_ ?_⟩
    · exact SeqAt.eqv_refl _ (SeqAt.canLay_of_shaped o5)
    refine ⟨_, rfl, .inr ⟨a, [.str "told", .int n], rfl, told_dp ha, o1, o2, o3, o4, _, rfl, .inr ⟨b, [.str "told", .int n], rfl, told_dp hb, o1, o2, o3, o4, rfl, ?_⟩⟩⟩
    rw [decide_eq_true rfl]
    exact q
end
end AH
end
section
set_option Elab.async false
set_option linter.all false
set_option maxRecDepth 100000
set_option maxHeartbeats 4000000
/-! The law's helpers, 10: heard. -/
namespace AH
open PySem PySem.Spec PyProof.Rows L2
def tupIs (s : Str) (v : V) (Q : VK) : Hp → Prop := fun H => [V.str s, v].length ≤ sizeLine ∧ ∀ p, H p = none → Q (.ref p) (upd H p (.tup [.str s, v]))
/-- heard(act): ("told", what act() gives), or ("many", 10) where TooMany(10) leaves it -/
def THeard (K : PySem.W.Frag) (C : Addr) : (XK → Hp → VK → Prop) → Hp → VK → Prop := fun tl H Q =>
  tl (fun cls d H' => ∃ dd, cls = .ref C ∧ d = some dd ∧ H' dd = some xMost ∧ tupIs "many" (.int 10) Q H') H (fun v H' => tupIs "told" v Q H')
/-- the name that stands in the i-th slot, which was just set -/
theorem pv_set {X : Cx} (i : Nat) {x : Str} {pos : Pos} (hN : X.N[i]? = some x := by rfl) (hv : Vis X.env.scope x := by first | exact Or.inl rfl | exact Or.inr (Or.inl rfl) | exact Or.inr (Or.inr rfl)) (hd : (x == ("__debug__" : Str)) = false := by decide)
    (hcd : (x == ("__classdict__" : Str)) = false := by decide) : PE X (.Name x pos) (fun σ H Q => ∃ (σ' : L2.St) (v : V), σ = σ'.set i (some v) ∧ Q v H) := by
  refine ⟨fun pins s σ H Q I h => ?_⟩
  obtain ⟨σ', v, rfl, q⟩ := h
  refine (pe_var hN hv hd hcd).run pins s _ H Q I ⟨v, ?_, q⟩
  have hl : (σ'.set i (some v)).length = X.N.length := I.len
  rw [List.length_set] at hl
  have : i < X.N.length := (List.getElem?_eq_some_iff.mp hN).1
  rw [List.getElem?_set_self (by omega)]
theorem scHeard : FnScope ["_law_act", "error"] ["_law_act"] (defScope lHeard) := ⟨rfl, rfl, rfl, by decide +kernel, rfl, by decide +kernel, by decide +kernel⟩
theorem heard_gives {X : Cx} {C0 C fI g : Addr} {cdg : Value} {q : Str} (T : ErrTxt X.K X.mg C0 C fI) : LamX.GivesTo X ["_law_act", "error"] "_law_heard" (defScope lHeard) g cdg (defBody lHeard) "_law_act" q (THeard X.K C) := by
  intro f c' s H Q tl act hc h
  refine ⟨_, pss_one (ps_try_as (i := 1) (X := (cxOf C8.CX0 X.prog X.w X.K X.mg X.base ["_law_act", "error"] "_law_heard" (defScope lHeard) g cdg X.A X.stack s H C8.E0).nox) (c := .ref C)
      (tb := fun W D σ H => ∃ Ech : XK, (∀ cls d σ' H', Ech cls d H' → W cls d σ' H') ∧ σ[0]? = some (some (.ref f)) ∧ H c' = some (LamX.CodeO c' q) ∧ tl Ech H (fun v H' => tupIs "told" v D.rt H'))
      rfl rfl scHeard.nd rfl rfl ⟨rfl, by decide, .inl T.gC⟩ LamX.takes0 (fun W pn xe tk _ => ?_) (fun a oe cls d pn hz hf => pss_one (ps_ret (pe_tup (pa_cons pe_str (pa_cons (pe_xf T.xf T.no hz hf (pv_set 1)) pa_nil)))))), ?_⟩
  · refine ⟨fun pins s' σ H' D I h' => ?_⟩
    obtain ⟨Ech, hW, h1, h2, h3⟩ := h'
    exact (pss_one (ps_ret (pe_tup (pa_cons pe_str (pa_cons (act W pn xe Ech _ _ tk hW) pa_nil))))).run pins s' σ H' D I ⟨h1, h2, h3⟩
  · refine ⟨fun cls d H' => ∃ dd, cls = .ref C ∧ d = some dd ∧ H' dd = some xMost ∧ tupIs "many" (.int 10) Q H', fun cls d σ' H' hE => ?_, rfl, hc, h⟩
    obtain ⟨dd, rfl, rfl, hx, q⟩ := hE
    refine ⟨true, T.te, fun _ a na => ?_, fun z => Bool.noConfusion z⟩
    exact ⟨σ', .ref a, rfl, rfl, rfl, dd, _, _, rfl, hx, rfl, q.1, q.2⟩
/-- _law_heard(lambda: body) -/
theorem pe_heard {X : Cx} {C0 C fI fH c PT : Addr} {k : Nat} {odH anH : Option Addr} {ocH kVH dcH pmH cdH ctH : Value} {slH : Array (Option Value)} {params : Arguments} {body : Expr} {scope : Scope} {t : XK → TE} {p lpos pos : Pos} (T : ErrTxt X.K X.mg C0 C fI)
    (lkH : X.K.lookup fH = some ⟨ocH, odH, .func (PySem.W.fnOf "_law_heard" "_law_heard" (defArgs lHeard) (defBody lHeard) (defScope lHeard) .none kVH dcH pmH anH cdH ctH), slH⟩) (hcdH : PySem.W.codeIn X.K cdH "_law_heard" = true) (kH : PySem.W.keepIn X.K (.ref fH) = true) (mH : X.mg "_law_heard" = some (.ref fH))
    (TB : LamX.TabB X.base X.mg c PT) (hcode : X.env.code = .ref c) (hr : Room (k + 2) X.A) (L : LamX.LamS X.env.scope scope) (hg : Gl X "_law_heard" := by rfl) (hdef : defaultsOf params X.env = ([], []) := by rfl)
    (hbind : ∀ (q : Str) (cl : List (Str × Addr)) (pm cv ctv : Value), bindArgs (PySem.W.kla_fn "<lambda>" q params body scope cl pm cv ctv) ⟨[], []⟩ = pure [] := by intros; rfl)
    (hbody : ∀ (A : Around) (outer : List Env) (s : Shared) (H : Hp) (E : XK) (f c' : Addr), Room k (A.deeper (LamX.lamEnv X scope s.heap.objs.size f c')) → PE (LamX.lamCx X A outer s H E scope f c') body (t E)) :
    PE X (.Call (.Name "_law_heard" p) [.Lambda params body scope lpos] [] pos) (LamX.tLam [(PT, X.env.qual ++ "<lambda>")] (THeard X.K C) t) := by
  have F : Fun X.K "_law_heard" "_law_heard" lHeard fH _ := fun_mk lkH hcdH kH
  have hb := F.binds (ps := ["_law_act"]) fun _ _ _ _ _ _ us hl => match us, hl with | [_], _ => rfl
  exact LamX.pe_lamcall (a := "_law_act") hg mH kH lkH hcdH hb scHeard rfl (.inl rfl) (heard_gives T) TB hcode List.mem_cons_self (fun q hq _ => by
    have : q = (PT, X.env.qual ++ "<lambda>") := by simpa using hq
    rw [this]) hr L hdef hbind hbody
end AH
end
section
set_option Elab.async false
set_option linter.all false
set_option maxRecDepth 100000
set_option maxHeartbeats 4000000
/-! The law itself: its walk. -/
namespace AH
open PySem PySem.Spec PyProof.Rows L2
theorem BagAt.but {H H' : Hp} {p sc d : Addr} (h : BagAt H p sc) (e : But d H H') (n1 : p ≠ d) (n2 : sc ≠ d) : BagAt H' p sc := by
  obtain ⟨x, y, z, ns, q⟩ := h
  exact ⟨x, y, z, ns, e _ _ n1 q.at', q.x0, q.y0, q.y1, q.ne, e _ _ n2 q.ls, q.n0, q.nl⟩
abbrev Emp (PT : Addr) (H : Hp) : Prop := H PT = some (.tbl #[])
theorem Emp.but {PT d : Addr} {H H' : Hp} (h : Emp PT H) (e : But d H H') (n : PT ≠ d) : Emp PT H' := e _ _ n h
theorem BagAt.tbl {H : Hp} {p sc PT : Addr} (h : BagAt H p sc) (t : Emp PT H) : PT ≠ p := fun z => by
  obtain ⟨x, y, z', ns, q⟩ := h
  rw [z] at t
  unfold Emp at t
  rw [q.at'] at t
  cases t
abbrev nLaw : List Str := ["_law_script", "_law_bag_here", "_law_turn", "_law_web_here", "_law_w", "_law_due", "_law_plan_here", "_law_told", "_law_far", "_law_many", "_law_end", "_law_known_here", "_law_row", "_law_at"]
theorem scLaw : FnScope nLaw ["_law_script"] (defScope lLaw) := ⟨rfl, rfl, rfl, by decide +kernel, rfl, by decide +kernel, by decide +kernel⟩
def spLaw (K : PySem.W.Frag) (PT : Addr) : Sp := fun vs H Q _ => ∃ (a : Addr) (ns : List Int), vs = [.ref a] ∧ SqL K H a (ns.map V.int) ∧ ns.length ≤ 63 ∧ Emp PT H ∧ ∀ H', Q (.bl true) H'
theorem many_sh : SeqAt.shaped (.tuple [.str "many", .int 10]) = true := by decide +kernel
theorem halves_le : ∀ n, n ≤ 10 → Wb.halves n ≤ 10 := by decide +kernel
/-- the helpers, as the law finds them -/
structure Help (P : Program) (w : World) (K : PySem.W.Frag) (mg : Str → Option Value) (base : Heap) (C : Addr) (k : Nat) : Prop where
  bag : Kn P w K mg base CX0 "_law_bag" ["_law_script"] k (spBag K)
  take : Kn P w K mg base CX0 "_law_take" ["_law_bag_here", "_law_many"] k spTake
  some : Kn P w K mg base CX0 "_law_some" ["_law_bag_here", "_law_things"] k spSome
  state : Kn P w K mg base CX0 "_law_state" ["_law_bag_here", "_law_most"] k spLState
  price : Kn P w K mg base CX0 "_law_price" ["_law_web_here", "_law_known_here", "_law_u", "_law_memo"] k (spLPrice P w 13)
  plan : Kn P w K mg base CX0 "_law_plan" ["_law_bag_here", "_law_web_here", "_law_known_here", "_law_w"] k (spPlan 13)
  isPlan : Kn P w K mg base CX0 "_law_is_plan" ["_law_web_here", "_law_known_here", "_law_w", "_law_thing"] k (spIsPlan 13)
  planPrice : Kn P w K mg base CX0 "_law_plan_price" ["_law_web_here", "_law_plan_here"] k (spPlanPrice 13)
  opn : Kn P w K mg base CX0 "_law_open" ["_law_web_here", "_law_known_here", "_law_u"] k (spCome K)
  halves : Kn P w K mg base CX0 "_law_halves" ["_law_many"] k spHalves
  alike : KnG P w K mg base CX0 "_law_alike" ["_law_found", "_law_due"] k spAlike
  least : Kn P w K mg base (L2.CX P w) "least_price" ["web", "known", "w"] k (spLeast C)
  leastPlan : Kn P w K mg base (L2.CX P w) "least_plan" ["web", "known", "w"] k (spLeastPlan C)
  mr : mg "range" = none
  ml : mg "len" = none
  mt : mg "tuple" = none
  mi : mg "int" = none
section
variable {P : Program} {w : World} {K : PySem.W.Frag} {mg : Str → Option Value} {base : Heap} {C0 C fI : Addr}
theorem ok_law {k : Nat} {fL fH c PT : Addr} {od odH an anH : Option Addr} {oc kV dc pm ct ocH kVH dcH pmH cdH ctH : Value} {sl slH : Array (Option Value)} (G : Help P w K mg base C k) (T : ErrTxt K mg C0 C fI)
    (lk : K.lookup fL = some ⟨oc, od, .func (PySem.W.fnOf "law" "law" (defArgs lLaw) (defBody lLaw) (defScope lLaw) .none kV dc pm an (.ref c) ct), sl⟩) (hcd : PySem.W.codeIn K (.ref c) "law" = true)
    (lkH : K.lookup fH = some ⟨ocH, odH, .func (PySem.W.fnOf "_law_heard" "_law_heard" (defArgs lHeard) (defBody lHeard) (defScope lHeard) .none kVH dcH pmH anH cdH ctH), slH⟩) (hcdH : PySem.W.codeIn K cdH "_law_heard" = true) (kH : PySem.W.keepIn K (.ref fH) = true) (mH : mg "_law_heard" = some (.ref fH))
    (TB : LamX.TabB base mg c PT) : FnG P w K mg base CX0 (k + 3) fL (PySem.W.fnOf "law" "law" (defArgs lLaw) (defBody lLaw) (defScope lLaw) .none kV dc pm an (.ref c) ct) ["_law_script"] (spLaw K PT) := by
  have len : ∀ vs H Q E, spLaw K PT vs H Q E → vs.length = (["_law_script"] : List Str).length := fun vs H Q E h => by
    obtain ⟨a, ns, rfl, _⟩ := h
    rfl
  refine ⟨len, fun A outer s H args us vs Q E hg hr e0 hb r hsp => LamX.run_ofS (N := nLaw) (CX := CX0) lk hcd scLaw hr e0 hb r (len _ _ _ _ hsp) fun hr2 => ?_⟩
  have hrB := hr2.mono (Nat.le_add_right k 2)
  have hu64 := hr2.units
  have hgd : (cxOf CX0 P w K mg base nLaw "law" (defScope lLaw) fL (.ref c) A outer s H E).nox.A.guards = some [] := guards_deeper hg
  obtain ⟨a, ns, rfl, hS, hl63, hE, q⟩ := hsp
  have cut : ∀ t, PSs (cxOf CX0 P w K mg base nLaw "law" (defScope lLaw) fL (.ref c) A outer s H E).nox (defBody lLaw) t → t { nx := fun _ H' => Q .non H', rt := Q } (L2.start nLaw [.ref a]) H →
      ∃ t, PSs (cxOf CX0 P w K mg base nLaw "law" (defScope lLaw) fL (.ref c) A outer s H E) (defBody lLaw) t ∧ t { nx := fun _ H' => Q .non H', rt := Q } (L2.start nLaw [.ref a]) H := fun t h z => ⟨t, h.nox, z⟩
  refine cut _ (pss_cons (ps_set (i := 1) scLaw.nd rfl (.inl rfl) (pe_kn G.bag hrB pass0 (pa_cons (pv 0) pa_nil)))
    (pss_cons (ps_for PassesOwn.never rfl (pi_range1 (by rfl) G.mr (pa_cons pe_int pa_nil)) (pg_name (i := 2) scLaw.nd rfl (.inl rfl))
      (pss_cons (ps_asg (pe_kn G.state hrB pass0 (pa_cons (pv 1) (pa_cons pe_int pa_nil))) (pg_tup rfl (pgs_cons (pg_name (i := 3) scLaw.nd rfl (.inl rfl)) (pgs_cons (pg_name (i := 11) scLaw.nd rfl (.inr rfl)) (pgs_cons (pg_name (i := 4) scLaw.nd rfl (.inl rfl)) pgs_nil)))))
      (pss_cons (ps_par (i := 5) (j := 6) (by rfl) scLaw.nd rfl rfl (by decide) rfl rfl (pa_cons (pe_kn G.price hrB pass0 (pa_cons (pv 3) (pa_cons (pv 11) (pa_cons (pv 4) (pa_cons pe_dnnew pa_nil))))) (pa_cons (pe_kn G.leastPlan hrB passL (pa_cons (pv 3) (pa_cons (pv 11) (pa_cons (pv 4) pa_nil)))) pa_nil)) (by rfl))
      (pss_cons (ps_if (PW.pt (pw_or (pt_not (pt_val (pe_knG G.alike hgd hrB pass0 (pa_cons (pe_kn G.least hrB passL (pa_cons (pv 3) (pa_cons (pv 11) (pa_cons (pv 4) pa_nil)))) (pa_cons (pv 5) pa_nil))))) (pw_or1 (pt_not (pt_val (pe_kn G.isPlan hrB pass0 (pa_cons (pv 3) (pa_cons (pv 11) (pa_cons (pv 4) (pa_cons (pv 6) pa_nil)))))))))) (pss_one (ps_ret pe_bl)) pss_nil)
      (pss_one (ps_if (PW.pt (pw_or (pt_cmpR op_ne (pe_kn G.planPrice hrB pass0 (pa_cons (pv 3) (pa_cons (pv 6) pa_nil))) (pv 5) (nomark _)) (pw_or1 (pt_cmpR op_lt (pe_kn G.planPrice hrB pass0 (pa_cons (pv 3) (pa_cons (pe_kn G.plan hrB pass0 (pa_cons (pv 1) (pa_cons (pv 3) (pa_cons (pv 11) (pa_cons (pv 4) pa_nil))))) pa_nil))) (pv 5) (nomark _))))) (pss_one (ps_ret pe_bl)) pss_nil))))))
    (pss_cons (ps_set (i := 12) scLaw.nd rfl (.inr rfl) (pe_callTy call_tuple_of (by rfl) G.mt (by decide +kernel) (pa_cons
      (pe_lc (own := [("_law_at", 13)]) (g := gName 13) (tt := tYes) (by rfl) scLaw.nd (pi_range1 (by rfl) G.mr (pa_cons pe_int pa_nil)) (blkOk_by (N := nLaw) (sc := defScope lLaw) (by decide +kernel)) (fun _ _ _ _ _ => pg_name (i := 13) scLaw.nd rfl (.inl rfl))
        (fun _ _ _ _ _ => pts_nil) (fun _ _ _ _ _ => pe_tup (pa_cons (pe_op (show OpR _ _ (rRep01 K) from op_rep01) (pe_tup (pa_cons (pe_op op_sub (pv 13) pe_int) pa_nil)) (pe_callTy call_int1 (by rfl) G.mi (by decide +kernel) (pa_cons (pe_cmpR op_gt (pv 13) pe_int (nomark _)) pa_nil))) (pa_cons pe_int (pa_cons pe_int pa_nil))))) pa_nil)))
    (C8.pss_cut (ps_asg (pe_tup (pa_cons (pe_kn G.some hrB pass0 (pa_cons (pv 1) (pa_cons (pe_lst (pa_cons pe_int (pa_cons pe_int (pa_cons pe_int (pa_cons pe_int (pa_cons pe_int (pa_cons pe_int (pa_cons pe_int pa_nil)))))))) pa_nil))) (pa_cons (pe_ifExp (pt_cmpR op_eq (pe_kn G.take hrB pass0 (pa_cons (pv 1) (pa_cons pe_int pa_nil))) pe_int (nomark _)) (pe_tup (pa_cons pe_int pa_nil)) (pe_tup pa_nil)) pa_nil)))
        (pg_tup rfl (pgs_cons (pg_name (i := 10) scLaw.nd rfl (.inr rfl)) (pgs_cons (pg_name (i := 11) scLaw.nd rfl (.inr rfl)) pgs_nil))))
    (C8.pss_cut (ps_if (PW.pt (pw_and (pt_cmpR op_eq (pv 10) pe_int (nomark _)) (pw_and1 (pt_cmpR (op_eqD hu64) (pv 11) (pe_tup (pa_cons pe_int pa_nil)) (nomark _))))) (pss_one (ps_ret pe_bl)) pss_nil)
    (C8.pss_cut (ps_set (i := 7) scLaw.nd rfl (.inl rfl) (pe_heard (C := C) T lkH hcdH kH mH TB rfl hr2 (LamX.lamS_by (sc := defScope lLaw) (by decide +kernel)) (hbody := fun A outer s H E f c' hrl => pe_kn G.least hrl (passes_call (takes_of rfl rfl rfl rfl) (fun _ _ _ _ h => h)) (pa_cons (pv 12) (pa_cons (pv 11) (pa_cons (pv 10) pa_nil))))))
    (C8.pss_cut (ps_set (i := 8) scLaw.nd rfl (.inl rfl) (pe_heard (C := C) T lkH hcdH kH mH TB rfl hr2 (LamX.lamS_by (sc := defScope lLaw) (by decide +kernel)) (hbody := fun A outer s H E f c' hrl => pe_kn G.leastPlan hrl (passes_call (takes_of rfl rfl rfl rfl) (fun _ _ _ _ h => h)) (pa_cons (pv 12) (pa_cons (pv 11) (pa_cons (pv 10) pa_nil))))))
    (pss_cons (ps_set (i := 9) scLaw.nd rfl (.inl rfl) (pe_callB call_len_seq (by rfl) G.ml PySem.boot_len (pa_cons (pe_kn G.opn hrB pass0 (pa_cons (pv 12) (pa_cons (pv 11) (pa_cons (pv 10) pa_nil)))) pa_nil)))
    (pss_cons (ps_if (pt_cmpR op_gt (pv 9) pe_int (nomark _)) (pss_one (ps_ret (pe_and (pe_cmpR (op_eqD hu64) (pv 7) (pe_tup (pa_cons pe_str (pa_cons pe_int pa_nil))) (nomark _)) (pe_one (pe_cmpR (op_eqD hu64) (pv 8) (pe_tup (pa_cons pe_str (pa_cons pe_int pa_nil))) (nomark _)))))) pss_nil)
    (pss_one (ps_ret (pe_and (pe_knG G.alike hgd hrB pass0 (pa_cons (pv 7) (pa_cons (pe_tup (pa_cons pe_str (pa_cons (pe_kn G.halves hrB pass0 (pa_cons (pv 9) pa_nil)) pa_nil))) pa_nil))) (pe_one (pe_cmpR op_eq (pe_ix ix_tup (pv 8) pe_int (fun _ _ => rfl)) pe_str (nomark _))))))))))))))) ?_
  refine ⟨_, rfl, a, ns, rfl, hS, hl63, fun p sc H1 s1 B1 => ?_⟩
  have E1 : Emp PT H1 := s1 _ _ hE
  refine ⟨3, rfl, by decide, by decide, for_range (n := 3) (fun i σ H2 => ∃ y2 y3 y4 y5 y6 y11, σ = [some (.ref a), some (.ref p), y2, y3, y4, y5, y6, none, none, none, none, y11, none, none] ∧ BagAt H2 p sc ∧ Emp PT H2)
    ⟨none, none, none, none, none, none, rfl, B1, E1⟩ (fun i σ H2 hi h => ?_) fun σ H2 h => ?_⟩
  · obtain ⟨y2, y3, y4, y5, y6, y11, rfl, B2, E2⟩ := h
    refine ⟨_, rfl, p, sc, rfl, B2, fun t0 aw b H3 W S u u3 B3 ht hW wf hS cS l7 => ⟨t0, _, rfl, SqT.of ht, rfl, _, _, rfl, _, _, rfl, _, _, rfl, rfl, ?_⟩⟩
    have E3 : Emp PT H3 := E2.but u3 (B2.tbl E2)
    have lo := Wb.opn_len (W := W) (ok := Wb.okK S) (u := u)
    have hu : u < W.length := cS.inW
    -- the price, by the law
    refine ⟨_, rfl, _, rfl, _, rfl, fun d H4 nd hd4 dn4 => ?_⟩
    have s4 : Same H3 H4 := fun c o z => by rw [hd4 c (ne_of_none z nd)]; exact z
    have M4 : MemoAt P w H4 d W [] := ⟨dn4, List.nodup_nil, fun k h => nomatch h⟩
    refine ⟨aw, b, d, W, S, u, [], rfl, hW.tx s4.tx, wf, hS.tx s4.tx, cS, M4, by show (Wb.opn W (Wb.okK S) u).length < 13; omega, fun H5 L5 u5 M5 => ?_⟩
    have tx5 : Tx H3 H5 := s4.tx.trans (u5.tx M4.dn.not_tup)
    have B4 := B3.same s4
    have pd := B3.ne nd
    have B5 : BagAt H5 p sc := B4.but u5 pd.1.symm pd.2.symm
    have E5 : Emp PT H5 := Emp.but (s4 _ _ E3) u5 (ne_of_none E3 nd)
    have hW5 := hW.tx tx5
    have hS5 := hS.tx tx5
    -- the least plan
    refine ⟨_, rfl, _, rfl, _, rfl, aw, b, W, S, u, rfl, hW5, wf, hS5, cS, fun _ pl H6 s6 hpl => ⟨_, _, rfl, ?_⟩, fun z => by omega⟩
    have hW6 := hW5.tx s6.tx
    have hS6 := hS5.tx s6.tx
    -- the least price
    refine ⟨_, rfl, _, rfl, _, rfl, aw, b, W, S, u, rfl, hW6, wf, hS6, cS, fun _ H7 s7 => ?_, fun z => by omega⟩
    have pb : Wb.P W (Wb.okK S) u ≤ 100000 := Nat.le_trans (Wb.P_small wf) (by decide)
    refine ⟨_, rfl, ⟨.inl ⟨_, rfl, pb⟩, _, rfl, iteF ?_⟩⟩
    have hW7 := hW6.tx s7.tx
    have hS7 := hS6.tx s7.tx
    have pl7 := hpl.tx s7.tx
    refine ⟨_, rfl, _, rfl, _, rfl, _, rfl, aw, b, pl, W, S, u, rfl, hW7, wf, hS7, cS, pl7, by omega, fun H8 s8 => ⟨_, rfl, iteF ?_⟩⟩
    have s58 := (s6.trans s7).trans s8
    have hW8 := hW7.tx s8.tx
    have okp := Wb.IsP_ok wf hu (Wb.BP_isP wf (ok := Wb.okK S) (u := u))
    have dp := Wb.BP_dep wf _ (Wb.okK S) u (Nat.le_refl _)
    -- its price
    refine ⟨_, rfl, _, rfl, aw, pl, W, _, rfl, hW8, pl7.tx s8.tx, okp, by omega, fun H9 s9 => ?_⟩
    rw [Wb.BP_price wf]
    refine ⟨_, rfl, rfl, _, rfl, iteFb (by rw [decide_eq_true rfl]; rfl) ?_⟩
    have s59 := s58.trans s9
    have hW9 := hW8.tx s9.tx
    have hS9 := hS5.tx s59.tx
    have B9 := B5.same s59
    have ul := Wb.unk_le W S u
    refine ⟨_, rfl, _, rfl, _, rfl, _, rfl, _, rfl, p, sc, aw, b, W, S, u, rfl, B9, hW9, wf, hS9, cS, by omega, fun t10 H10 p10 u10 B10 h10 i10 d10 => ?_⟩
    have E10 : Emp PT H10 := Emp.but (s59 _ _ E5) u10 (B9.tbl (s59 _ _ E5))
    refine ⟨aw, t10, W, p10, rfl, hW9.tx (B9.tx u10), h10, Wb.IsP_ok wf hu i10, by omega, fun H11 s11 => ?_⟩
    have le := Wb.P_le wf p10 (Wb.okK S) u i10
    refine ⟨_, rfl, _, _, rfl, rfl, _, rfl, iteFb (decide_eq_false (by omega)) ?_⟩
    exact ⟨_, _, _, _, _, _, rfl, B10.same s11, s11 _ _ E10⟩
  · obtain ⟨y2, y3, y4, y5, y6, y11, rfl, B2, E2⟩ := h
    -- the row
    refine ⟨12, rfl, by decide, by decide, fun D nD => ?_⟩
    refine lc_range (lo := 0) (n := 12) (fun i H3 => Same H2 H3 ∧ ∃ gs, H3 D = some (.lst (gs.map V.ref)) ∧ Paired (NodeAt H3) gs ((List.range i).map Wb.rowN) ∧ gs.length = i)
      ⟨Same.new nD, [], upd_same, .nil, rfl⟩ (fun i H3 hi h => ?_) fun H3 h => ?_
    · obtain ⟨s3, gs, hD, hp, gl⟩ := h
      rw [show (0 : Int) + (i : Int) = (i : Int) by omega]
      refine ⟨rfl, ?_⟩
      refine ⟨_, rfl, _, 1, rfl, rfl, (by show 1 ≤ sizeLine; decide), fun t1 nt1 => ?_⟩
      have s4 : Same H3 (upd H3 t1 (.tup [.int ((i : Int) - 1)])) := Same.new nt1
      have node : ∀ (cc g : Addr) (H5 : Hp), Same H3 H5 → TupN H5 cc (if i = 0 then [] else [i - 1]) → H5 g = none →
          ∃ acc, (upd H5 g (.tup [.ref cc, .int 1, .int 0])) D = some (.lst acc) ∧ acc.length < sizeLine ∧
            (Same H2 (upd (upd H5 g (.tup [.ref cc, .int 1, .int 0])) D (.lst (acc ++ [.ref g]))) ∧ ∃ gs, (upd (upd H5 g (.tup [.ref cc, .int 1, .int 0])) D (.lst (acc ++ [.ref g]))) D = some (.lst (gs.map V.ref)) ∧ Paired (NodeAt (upd (upd H5 g (.tup [.ref cc, .int 1, .int 0])) D (.lst (acc ++ [.ref g])))) gs ((List.range (i + 1)).map Wb.rowN) ∧ gs.length = i + 1) := by
        intro cc g H5 s5 hc ng
        have s6 : Same H5 (upd H5 g (.tup [.ref cc, .int 1, .int 0])) := Same.new ng
        have s36 := s5.trans s6
        have hD6 := s36 _ _ hD
        have hg6 : NodeAt (upd H5 g (.tup [.ref cc, .int 1, .int 0])) g (Wb.rowN i) := ⟨cc, upd_same, hc.tx s6.tx⟩
        refine ⟨_, hD6, by rw [List.length_map]; exact small1000 (by omega), ?_⟩
        have txl : Tx (upd H5 g (.tup [.ref cc, .int 1, .int 0])) (upd (upd H5 g (.tup [.ref cc, .int 1, .int 0])) D (.lst (gs.map V.ref ++ [.ref g]))) := Tx.put fun xs z => by rw [hD6] at z; cases z
        refine ⟨(s3.trans s36).put nD, gs ++ [g], ?_, ?_, ?_⟩
        · rw [upd_same, List.map_append]
          rfl
        · rw [List.range_succ, List.map_append]
          exact paired_app (.cons (hg6.tx txl) .nil) (nodes_tx (s36.tx.trans txl) hp)
        · rw [List.length_append, gl]
          rfl
      refine ⟨_, rfl, _, _, rfl, rfl, .inr ⟨_, rfl, t1, _, _, rfl, rfl, SqT.of upd_same, (fun z => by cases z), ?_⟩⟩
      by_cases c : i = 0
      · subst c
        refine .inr ⟨rfl, fun t2 nt2 => ⟨(by show 3 ≤ sizeLine; decide), fun g ng => node t2 g _ (s4.trans (Same.new nt2)) upd_same ng⟩⟩
      · refine .inl ⟨?_, ⟨(by show 3 ≤ sizeLine; decide), fun g ng => node t1 g _ s4 ?_ ng⟩⟩
        · have : decide ((0 : Int) < (i : Int)) = true := decide_eq_true (by omega)
          show (if decide ((0 : Int) < (i : Int)) = true then (1 : Int) else 0) = 1
          rw [this]
          rfl
        · rw [if_neg c]
          unfold TupN
          rw [upd_same]
          have ei : (i : Int) - 1 = ((i - 1 : Nat) : Int) := by omega
          dsimp only
          rw [ei]
          rfl
    · obtain ⟨s3, gs, hD, hp, gl⟩ := h
      refine ⟨D, _, rfl, .inl ⟨SqL.of hD, fun rt nrt => ?_⟩⟩
      have s4 : Same H3 (upd H3 rt (.tup (gs.map V.ref))) := Same.new nrt
      have hR : WebAt (upd H3 rt (.tup (gs.map V.ref))) rt Wb.rowW := web_of upd_same (nodes_tx s4.tx hp)
      have s24 := s3.trans s4
      have B4 := B2.same s24
      have E4 : Emp PT _ := s24 _ _ E2
      revert hR B4 E4
      generalize upd H3 rt (.tup (gs.map V.ref)) = H4
      intro hR B4 E4
      -- end, known
      refine ⟨fun σ H' => ∃ (e : Nat) (kt : Addr) (K0 : List Nat), σ = [some (.ref a), some (.ref p), y2, y3, y4, y5, y6, none, none, none, some (vN e), some (.ref kt), some (.ref rt), none] ∧ e < 12 ∧ (K0 = [] ∨ K0 = [5]) ∧ TupN H' kt K0 ∧ WebAt H' rt Wb.rowW ∧ Emp PT H', ?_, fun σ H8 hI => ?_⟩
      · refine ⟨_, rfl, (by show 7 ≤ sizeLine; decide), fun t nt => ?_⟩
        have s5 : Same H4 (upd H4 t (.lst [.int 11, .int 10, .int 6, .int 3, .int 9, .int 5, .int 8])) := Same.new nt
        refine ⟨p, t, sc, _, rfl, B4.same s5, (B4.ne nt).1, .inl upd_same, (by show 0 < 7; decide), (by show 7 ≤ 1000; decide), fun v H6 hv u6 B6 => ?_⟩
        obtain ⟨e, rfl, he⟩ : ∃ e : Nat, v = vN e ∧ e < 12 := by
          simp only [List.mem_cons, List.not_mem_nil, or_false] at hv
          rcases hv with rfl | rfl | rfl | rfl | rfl | rfl | rfl
          · exact ⟨11, rfl, by decide⟩
          · exact ⟨10, rfl, by decide⟩
          · exact ⟨6, rfl, by decide⟩
          · exact ⟨3, rfl, by decide⟩
          · exact ⟨9, rfl, by decide⟩
          · exact ⟨5, rfl, by decide⟩
          · exact ⟨8, rfl, by decide⟩
        have E6 : Emp PT H6 := Emp.but (s5 _ _ E4) u6 ((B4.same s5).tbl (s5 _ _ E4))
        have tx6 : Tx H4 H6 := s5.tx.trans ((B4.same s5).tx u6)
        refine ⟨_, rfl, p, sc, 3, rfl, B6, by decide, by decide, fun v7 H7 _ u7 B7 => ⟨rfl, _, rfl, ?_⟩⟩
        have E7 : Emp PT H7 := Emp.but E6 u7 (B6.tbl E6)
        have tx7 : Tx H4 H7 := tx6.trans (B6.tx u7)
        have fin : ∀ (K0 : List Nat) (kt tt : Addr) (H8 : Hp), H7 kt = none → (K0 = [] ∨ K0 = [5]) → (upd H7 kt (.tup (K0.map vN))) tt = none → H8 = upd (upd H7 kt (.tup (K0.map vN))) tt (.tup [vN e, .ref kt]) →
            TupN H8 kt K0 ∧ WebAt H8 rt Wb.rowW ∧ Emp PT H8 := fun K0 kt tt H8 nk hk0 ntt eH => by
          have s8 : Same H7 (upd H7 kt (.tup (K0.map vN))) := Same.new nk
          have s9 : Same (upd H7 kt (.tup (K0.map vN))) H8 := by rw [eH]; exact Same.new ntt
          exact ⟨s9 _ _ upd_same, hR.tx ((tx7.trans s8.tx).trans s9.tx), s9 _ _ (s8 _ _ E7)⟩
        refine ite2 (fun _ => ?_) (fun _ => ?_)
        · refine ⟨(by show 1 ≤ sizeLine; decide), fun kt nk => ⟨(by show 2 ≤ sizeLine; decide), fun tt ntt => ⟨tt, _, rfl, SqT.of upd_same, rfl, _, _, rfl, _, _, rfl, rfl, ?_⟩⟩⟩
          obtain ⟨f1, f2, f3⟩ := fin [5] kt tt _ nk (.inr rfl) ntt rfl
          exact ⟨e, kt, [5], rfl, he, .inr rfl, f1, f2, f3⟩
        · refine ⟨Nat.zero_le _, fun kt nk => ⟨(by show 2 ≤ sizeLine; decide), fun tt ntt => ⟨tt, _, rfl, SqT.of upd_same, rfl, _, _, rfl, _, _, rfl, rfl, ?_⟩⟩⟩
          obtain ⟨f1, f2, f3⟩ := fin [] kt tt _ nk (.inl rfl) ntt rfl
          exact ⟨e, kt, [], rfl, he, .inl rfl, f1, f2, f3⟩
      · obtain ⟨e, kt, K0, rfl, he, hK0, hkt, hR8, E8⟩ := hI
        have done : ∀ (b : Bool) (H9 : Hp), b = true → Q (.bl b) H9 := fun b H9 z => by rw [z]; exact q H9
        have cK : Wb.Can Wb.rowW (e, K0) := by
          have l12 : Wb.rowW.length = 12 := by unfold Wb.rowW; rw [List.length_map, List.length_range]
          refine ⟨by rw [l12]; exact he, ?_, fun x hx => ?_⟩
          · rcases hK0 with rfl | rfl
            · exact .nil
            · exact List.pairwise_singleton _ _
          · rw [l12]
            rcases hK0 with rfl | rfl
            · cases hx
            · have : x = 5 := by simpa using hx
              omega
        -- end == 5 and known == (5,)
        refine ⟨fun σ H' => σ = [some (.ref a), some (.ref p), y2, y3, y4, y5, y6, none, none, none, some (vN e), some (.ref kt), some (.ref rt), none] ∧ TupN H' kt K0 ∧ WebAt H' rt Wb.rowW ∧ Emp PT H' ∧ ¬ (e = 5 ∧ K0 = [5]), ?_, fun σ H9 hI => ?_⟩
        · refine ⟨_, rfl, rfl, _, rfl, ?_⟩
          by_cases c5 : e = 5
          · subst c5
            rw [decide_eq_true (show vN 5 = V.int 5 from rfl)]
            refine iteT ⟨_, rfl, (by show 1 ≤ sizeLine; decide), fun t nt => ?_⟩
            have sT : Same H8 (upd H8 t (.tup [.int 5])) := Same.new nt
            refine ⟨.tuple (natsD K0), .tuple [.int 5], .tup (SqT.of (hkt.tx sT.tx)) (dp_nats K _ K0), .tup (SqT.of upd_same) (.cons (.int 5) .nil), by rcases hK0 with rfl | rfl <;> rfl, rfl, _, rfl, ?_⟩
            rcases hK0 with rfl | rfl
            · refine iteFb ?_ ⟨rfl, hkt.tx sT.tx, hR8.tx sT.tx, sT _ _ E8, fun z => by cases z.2⟩
              simp [PyData.eqv, PyData.eqvAll, natsD]
            · refine iteTb ?_ (q _)
              simp [PyData.eqv, PyData.eqvAll, natsD]
          · rw [decide_eq_false (show ¬ vN e = V.int 5 from fun z => c5 (by have := V.int.inj z; omega))]
            exact iteF (iteF ⟨rfl, hkt, hR8, E8, fun z => c5 z.1⟩)
        obtain ⟨rfl, hkt, hR9, E9, hno⟩ := hI
        obtain ⟨lo, itv⟩ := Wb.row_itv hK0 he hno
        have lenO : (Wb.opn Wb.rowW (Wb.okK K0) e).length = e - lo := by rw [itv.opn, List.length_map, List.length_range]
        have txN : ∀ {G1 G2 : Hp}, LamX.ExtN G1 G2 → Tx G1 G2 := fun h b xs z => h b _ z fun ps w => by cases w
        have tabs9 : LamX.Tabs [(PT, (cxOf CX0 P w K mg base nLaw "law" (defScope lLaw) fL (.ref c) A outer s H E).nox.env.qual ++ "<lambda>")] H9 := fun x hx => by
          have : x = (PT, (cxOf CX0 P w K mg base nLaw "law" (defScope lLaw) fL (.ref c) A outer s H E).nox.env.qual ++ "<lambda>") := by simpa using hx
          rw [this]
          exact LamX.TabS.nil E9
        revert tabs9
        generalize hTT : ([(PT, (cxOf CX0 P w K mg base nLaw "law" (defScope lLaw) fL (.ref c) A outer s H E).nox.env.qual ++ "<lambda>")] : List (Addr × Str)) = TT
        intro tabs9
        -- told
        refine ⟨fun σ H' => ∃ t7, σ = [some (.ref a), some (.ref p), y2, y3, y4, y5, y6, some (.ref t7), none, none, some (vN e), some (.ref kt), some (.ref rt), none] ∧ TupN H' kt K0 ∧ WebAt H' rt Wb.rowW ∧ LamX.Tabs TT H' ∧
            (e - lo ≤ 10 → H' t7 = some (.tup [.str "told", vN (Wb.P Wb.rowW (Wb.okK K0) e)])) ∧ (10 < e - lo → H' t7 = some (.tup [.str "many", .int 10])), ?_, fun σ H10 hI => ?_⟩
        · subst hTT
          refine ⟨tabs9, fun H1 eN tabs1 => ?_⟩
          have hk1 := hkt.tx (txN eN)
          have hR1 := hR9.tx (txN eN)
          refine ⟨_, rfl, _, rfl, _, rfl, rt, kt, Wb.rowW, K0, e, rfl, hR1, Wb.row_wf, hk1, cK, fun h10 H2 s2 => ?_, fun h10 dd H2 s2 hx => ⟨dd, rfl, rfl, hx, ?_⟩⟩
          · refine ⟨(by show 2 ≤ sizeLine; decide), fun t7 n7 => ⟨t7, rfl, hk1.tx (s2.tx.trans (Tx.new n7)), hR1.tx (s2.tx.trans (Tx.new n7)), tabs1.ext (s2.trans (Same.new n7)), fun _ => upd_same, fun z => by omega⟩⟩
          · refine ⟨(by show 2 ≤ sizeLine; decide), fun t7 n7 => ⟨t7, rfl, hk1.tx (s2.tx.trans (Tx.new n7)), hR1.tx (s2.tx.trans (Tx.new n7)), tabs1.ext (s2.trans (Same.new n7)), fun z => by omega, fun _ => upd_same⟩⟩
        obtain ⟨t7, rfl, hk10, hR10, tabs10, few7, many7⟩ := hI
        -- far
        refine ⟨fun σ H' => ∃ t8, σ = [some (.ref a), some (.ref p), y2, y3, y4, y5, y6, some (.ref t7), some (.ref t8), none, some (vN e), some (.ref kt), some (.ref rt), none] ∧ TupN H' kt K0 ∧ WebAt H' rt Wb.rowW ∧
            (e - lo ≤ 10 → H' t7 = some (.tup [.str "told", vN (Wb.P Wb.rowW (Wb.okK K0) e)])) ∧ (10 < e - lo → H' t7 = some (.tup [.str "many", .int 10])) ∧
            (e - lo ≤ 10 → ∃ v, H' t8 = some (.tup [.str "told", v])) ∧ (10 < e - lo → H' t8 = some (.tup [.str "many", .int 10])), ?_, fun σ H11 hI => ?_⟩
        · subst hTT
          refine ⟨tabs10, fun H1 eN tabs1 => ?_⟩
          have tN := txN eN
          have hk1 := hk10.tx tN
          have hR1 := hR10.tx tN
          refine ⟨_, rfl, _, rfl, _, rfl, rt, kt, Wb.rowW, K0, e, rfl, hR1, Wb.row_wf, hk1, cK, fun h10 pl H2 s2 _ => ?_, fun h10 dd H2 s2 hx => ⟨dd, rfl, rfl, hx, ?_⟩⟩
          · refine ⟨(by show 2 ≤ sizeLine; decide), fun t8 n8 => ?_⟩
            have tx := s2.tx.trans (Tx.new (o := .tup [.str "told", .ref pl]) n8)
            exact ⟨t8, rfl, hk1.tx tx, hR1.tx tx, fun z => tx _ _ (tN _ _ (few7 z)), fun z => tx _ _ (tN _ _ (many7 z)), fun _ => ⟨_, upd_same⟩, fun z => by omega⟩
          · refine ⟨(by show 2 ≤ sizeLine; decide), fun t8 n8 => ?_⟩
            have tx := s2.tx.trans (Tx.new (o := .tup [.str "many", .int 10]) n8)
            exact ⟨t8, rfl, hk1.tx tx, hR1.tx tx, fun z => tx _ _ (tN _ _ (few7 z)), fun z => tx _ _ (tN _ _ (many7 z)), fun z => by omega, fun _ => upd_same⟩
        obtain ⟨t8, rfl, hk11, hR11, few7, many7, few8, many8⟩ := hI
        -- many
        refine ⟨_, rfl, _, rfl, _, rfl, rt, kt, Wb.rowW, K0, e, rfl, hR11, Wb.row_wf, hk11, cK.inW, fun p12 H12 s12 hp12 => ?_⟩
        refine ⟨p12, _, rfl, .inr hp12.sq, ?_⟩
        rw [List.length_map, lenO]
        refine ⟨_, rfl, _, _, rfl, rfl, _, rfl, ite2 (fun cc => ?_) fun cc => ?_⟩
        · have h10 : 10 < e - lo := by
            have := of_decide_eq_true cc
            omega
          have m7 := s12 _ _ (many7 h10)
          have m8 := s12 _ _ (many8 h10)
          have dp : ∀ {G1 : Hp} {t : Addr}, G1 t = some (.tup [.str "many", .int 10]) → Dp K G1 (.ref t) (.tuple [.str "many", .int 10]) := fun h => .tup (SqT.of h) (.cons (.str _) (.cons (.int _) .nil))
          refine ⟨_, rfl, (by show 2 ≤ sizeLine; decide), fun t13 n13 => ?_⟩
          have s13 := Same.new (o := .tup [.str "many", .int 10]) n13
          refine ⟨_, _, dp (s13 _ _ m7), dp upd_same, many_sh, many_sh, _, rfl, iteTb ?_ ?_⟩
          · simp [PyData.eqv, PyData.eqvAll]
          refine ⟨_, rfl, (by show 2 ≤ sizeLine; decide), fun t14 n14 => ?_⟩
          have s14 := Same.new (o := .tup [.str "many", .int 10]) n14
          refine ⟨_, _, dp (s14 _ _ (s13 _ _ m8)), dp upd_same, many_sh, many_sh, done _ _ ?_⟩
          simp [PyData.eqv, PyData.eqvAll]
        · have h10 : e - lo ≤ 10 := by
            have : ¬ (10 : Int) < ((e - lo : Nat) : Int) := fun z => cc (decide_eq_true z)
            omega
          have f7 := s12 _ _ (few7 h10)
          obtain ⟨v8, f8⟩ := few8 h10
          have f8 := s12 _ _ f8
          have hh : Wb.P Wb.rowW (Wb.okK K0) e = Wb.halves (e - lo) := by
            rw [Wb.row_halves itv h10, lenO]
          rw [hh] at f7
          have hs : Wb.halves (e - lo) ≤ 10 := halves_le _ h10
          refine ⟨_, rfl, _, rfl, e - lo, rfl, fun H13 s13 => ⟨(by show 2 ≤ sizeLine; decide), fun t14 n14 => ?_⟩⟩
          have s14 := Same.new (o := .tup [.str "told", vN (Wb.halves (e - lo))]) n14
          refine ⟨.inr ⟨t7, t14, _, rfl, s14 _ _ (s13 _ _ f7), upd_same, hs⟩, _, rfl, iteT ?_⟩
          refine ⟨_, rfl, _, _, _, _, rfl, rfl, SqT.of (s14 _ _ (s13 _ _ f8)), atI_nat (j := 0) rfl, rfl, done _ _ (decide_eq_true rfl)⟩
end
end AH
end
section
set_option Elab.async false
set_option linter.all false
set_option maxRecDepth 100000
set_option maxHeartbeats 4000000
/-! The end, 1: the levels put together; the law called from outside. -/
namespace AH
open PySem PySem.Spec PyProof.Rows L2
theorem KnG.mono {P : Program} {w : World} {K : PySem.W.Frag} {mg : Str → Option Value} {base : Heap} {CX : CXT} {k k' : Nat} {x : Str} {ps : List Str} {sp : Sp} (h : KnG P w K mg base CX x ps k sp) (l : k ≤ k') : KnG P w K mg base CX x ps k' sp :=
  let ⟨f, fd, a, b, c, d⟩ := h
  ⟨f, fd, a, b, c, ⟨d.len, fun A outer s H args us vs Q E hg hr => d.run A outer s H args us vs Q E hg (hr.mono l)⟩⟩
/-- what the top says of the defs -/
structure Txts (K : PySem.W.Frag) (mg : Str → Option Value) : Prop where
  come : Def K mg "come_to" sCome
  below : Def K mg "below" sBelow
  opn : Def K mg "open_below" sOpen
  wit : Def K mg "with_known" sWith
  shadow : Def K mg "shadow" sShadow
  settled : Def K mg "is_settled" sSettled
  check : Def K mg "check_open" sCheck
  state : Def K mg "state_of" sState
  wrong : Def K mg "after_wrong" sWrong
  right : Def K mg "after_right" sRight
  behind : Def K mg "states_behind" sBehind
  short : Def K mg "short_of" sShort
  shorts : Def K mg "shorts_behind" sShorts
  priceBy : Def K mg "price_by" sPriceBy
  full : Def K mg "full_table" sFull
  priceIn : Def K mg "price_in" sPriceIn
  least : Def K mg "least_price" sLeast
  planBy : Def K mg "plan_by" sPlanBy
  leastPlan : Def K mg "least_plan" sLeastPlan
/-- .. and of the law's helpers -/
structure TxtsL (K : PySem.W.Frag) (mg : Str → Option Value) : Prop where
  bag : Def K mg "_law_bag" lBag
  take : Def K mg "_law_take" lTake
  some : Def K mg "_law_some" lSome
  alike : Def K mg "_law_alike" lAlike
  lot : Def K mg "_law_lot" lLot
  isInt : Def K mg "_law_is_int" lIsInt
  web : Def K mg "_law_web" lWeb
  below : Def K mg "_law_below" lBelow
  opn : Def K mg "_law_open" lOpen
  shadow : Def K mg "_law_shadow" lShadow
  settled : Def K mg "_law_settled" lSettled
  known : Def K mg "_law_known" lKnown
  state : Def K mg "_law_state" lState
  price : Def K mg "_law_price" lPrice
  isPlan : Def K mg "_law_is_plan" lIsPlan
  planPrice : Def K mg "_law_plan_price" lPlanPrice
  plan : Def K mg "_law_plan" lPlan
  halves : Def K mg "_law_halves" lHalves
/-- the built-in names that the texts call -/
structure Blt (mg : Str → Option Value) : Prop where
  list : mg "list" = none
  tuple : mg "tuple" = none
  sorted : mg "sorted" = none
  all : mg "all" = none
  max : mg "max" = none
  min : mg "min" = none
  len : mg "len" = none
  abs : mg "abs" = none
  int : mg "int" = none
  set : mg "set" = none
  isinstance : mg "isinstance" = none
  bool : mg "bool" = none
  range : mg "range" = none
  str : mg "str" = none
  repr : mg "repr" = none
section
variable {P : Program} {w : World} {K : PySem.W.Frag} {mg : Str → Option Value} {base : Heap} {C0 C fI : Addr} {fdI : FuncData}
theorem prog_mk {t : Nat} (D : Txts K mg) (B : Blt mg) (T : ErrTxt K mg C0 C fI) (FI : Fun K "__init__" "TooMany.__init__" sInit fI fdI) (mM : mg "MOST" = some (.int 10 t)) :
    Kn P w K mg base (L2.CX P w) "least_price" ["web", "known", "w"] 20 (spLeast C) ∧ Kn P w K mg base (L2.CX P w) "least_plan" ["web", "known", "w"] 20 (spLeastPlan C) := by
  have come : Kn P w K mg base CX0 "come_to" ["web", "known", "u"] 1 (spCome K) := kn_come D.come B.list B.tuple B.sorted
  have below := kn_below D.below come
  have opn := kn_open D.opn come
  have shadow := kn_shadow D.shadow B.tuple below
  have settled : Kn P w K mg base CX0 "is_settled" ["web", "known", "u"] 1 spSettled := kn_settled D.settled B.all
  have wit : Kn P w K mg base CX0 "with_known" ["known", "lot"] 1 spWith := kn_with D.wit B.tuple B.sorted
  have state := kn_state D.state shadow
  have wrong := kn_wrong D.wrong state
  have right := kn_right D.right wit
  have behind := kn_behind D.behind (settled.mono (by decide)) (opn.mono (by decide)) wrong (right.mono (by decide))
  have short := kn_short D.short B.tuple opn
  have shorts := kn_shorts D.shorts behind (short.mono (by decide))
  have priceBy := kn_priceBy D.priceBy B.max B.min (settled.mono (by decide)) (opn.mono (by decide)) wrong (right.mono (by decide)) (short.mono (by decide))
  have init := ok_init (P := P) (w := w) (base := base) T FI
  have bI := FI.binds (ps := ["self", "most"]) fun _ _ _ _ _ _ us hl => match us, hl with | [_, _], _ => rfl
  have check := kn_check D.check T init bI mM B.len (by decide) opn
  have full := kn_full D.full (check.mono (by decide)) (short.mono (by decide)) (state.mono (by decide)) shorts (priceBy.mono (by decide))
  have priceIn := kn_priceIn (P := P) (w := w) (base := base) D.priceIn short
  have least := kn_least D.least full (priceIn.mono (by decide)) (state.mono (by decide))
  have planBy := kn_planBy D.planBy (short.mono (by decide : 3 ≤ 5)) wrong (right.mono (by decide)) 13
  have leastPlan := kn_leastPlan (k := 5) (n := 13) D.leastPlan (by decide) (full.mono (by decide)) planBy (state.mono (by decide))
  exact ⟨least.mono (by decide), leastPlan.mono (by decide)⟩
theorem help_mk {t : Nat} (D : Txts K mg) (DL : TxtsL K mg) (B : Blt mg) (T : ErrTxt K mg C0 C fI) (FI : Fun K "__init__" "TooMany.__init__" sInit fI fdI) (mM : mg "MOST" = some (.int 10 t)) : Help P w K mg base C 20 := by
  obtain ⟨least, leastPlan⟩ := prog_mk (P := P) (w := w) (base := base) D B T FI mM
  have take : Kn P w K mg base CX0 "_law_take" ["_law_bag_here", "_law_many"] 1 spTake := kn_take DL.take B.int
  have some := kn_some DL.some B.len take
  have bag : Kn P w K mg base CX0 "_law_bag" ["_law_script"] 1 (spBag K) := kn_bag DL.bag B.abs
  have lot : Kn P w K mg base CX0 "_law_lot" ["_law_things"] 1 spLot := kn_lot DL.lot B.tuple B.sorted B.set
  have isInt : Kn P w K mg base CX0 "_law_is_int" ["_law_thing"] 1 spIsInt := kn_isInt DL.isInt B.isinstance B.int B.bool
  have below : Kn P w K mg base CX0 "_law_below" ["_law_web_here", "_law_u"] 1 spBelow := kn_lbelow DL.below B.list B.tuple B.sorted
  have opn : Kn P w K mg base CX0 "_law_open" ["_law_web_here", "_law_known_here", "_law_u"] 1 (spCome K) := kn_lopen DL.opn B.tuple B.sorted
  have shadow := kn_lshadow DL.shadow B.tuple below
  have settled : Kn P w K mg base CX0 "_law_settled" ["_law_web_here", "_law_known_here", "_law_u"] 1 spSettled := kn_lsettled DL.settled
  have known := kn_lknown DL.known B.len B.tuple B.range (take.mono (by decide)) some
  have web := kn_web DL.web B.range B.int B.list B.max B.tuple (take.mono (by decide)) some
  have state := kn_lstate DL.state B.len web (take.mono (by decide)) known
  have price := kn_lprice DL.price B.max B.min shadow (settled.mono (by decide)) (opn.mono (by decide)) (lot.mono (by decide)) 13
  have isPlan := kn_isPlan DL.isPlan B.isinstance B.len B.tuple B.str isInt settled below lot 13
  have planPrice : Kn P w K mg base CX0 "_law_plan_price" ["_law_web_here", "_law_plan_here"] (0 + 13) (spPlanPrice 13) := kn_planPrice DL.planPrice B.max 13
  have plan := kn_plan DL.plan (settled.mono (by decide)) (take.mono (by decide)) (below.mono (by decide)) (lot.mono (by decide)) (opn.mono (by decide)) some 13
  have halves : Kn P w K mg base CX0 "_law_halves" ["_law_many"] 1 spHalves := kn_halves DL.halves B.range
  have alike : KnG P w K mg base CX0 "_law_alike" ["_law_found", "_law_due"] 1 spAlike := kn_alike DL.alike B.repr
  exact { bag := bag.mono (by decide), take := take.mono (by decide), some := some.mono (by decide), state := state.mono (by decide), price := price.mono (by decide), plan := plan.mono (by decide), isPlan := isPlan.mono (by decide), planPrice := planPrice.mono (by decide),
          opn := opn.mono (by decide), halves := halves.mono (by decide), alike := alike.mono (by decide), least := least, leastPlan := leastPlan, mr := B.range, ml := B.len, mt := B.tuple, mi := B.int }
end
end AH
end
section
set_option Elab.async false
set_option linter.all false
set_option maxRecDepth 100000
set_option maxHeartbeats 4000000
/-! The end, 2: law called by the row's caller, where no repr is going on. -/
namespace AH
open PySem PySem.Spec PyProof.Rows L2
/-- what is tracked when law is entered: the script, unless the written part holds it, and the empty table of law's code object -/
def entryH (K : PySem.W.Frag) (a PT : Addr) (o : Obj) (ns : List Int) : Hp := fun b =>
  if b = PT then some (.tbl #[]) else if b = a ∧ K.lookup a = none then some (.frz o (.lst (ns.map V.int))) else none
section
variable {P : Program} {w : World} {K : PySem.W.Frag} {mg mb : Str → Option Value} {fa a c PT : Addr} {fd : FuncData} {s : Shared} {vs : List Value} {ns : List Int} {k : Nat}
theorem entry_cases {o : Obj} {b : Addr} {u : HO} (h : entryH K a PT o ns b = some u) : (b = PT ∧ u = .tbl #[]) ∨ (b = a ∧ K.lookup a = none ∧ u = .frz o (.lst (ns.map V.int))) := by
  unfold entryH at h
  split at h
  · rename_i e
    exact .inl ⟨e, (Option.some.inj h).symm⟩
  · split at h
    · rename_i e
      exact .inr ⟨e.1, e.2, (Option.some.inj h).symm⟩
    · cases h
theorem entry_none {o : Obj} {b : Addr} (h1 : b ≠ PT) (h2 : b = a → K.lookup a ≠ none) : entryH K a PT o ns b = none := by
  unfold entryH
  rw [if_neg h1, if_neg fun z => h2 z.1 z.2]
/-- a law that needs that no repr is going on, called as the row calls it -/
theorem enter_law (KX : K.In s.heap) (hns : s.heap.Ns mainGlobals mg) (hb : s.heap.Ns builtinsNs mb) (hbb : ∀ x : Str, x ≠ "__name__" → mb x = bootBuiltins x) (lim : s.heap.NoLimit) (gens : s.gens = #[])
    (hT : s.heap.get? PT = some (PySem.W.tabObj #[])) (nT : K.lookup PT = none) (hC : PySem.W.CodeHd s.heap c PT)
    (bmain : ∃ (bm : Addr) (ob : Obj), mg "__builtins__" = some (.ref bm) ∧ bm ≠ builtinsNs ∧ s.heap.get? bm = some ob ∧ ob.cls = .type "module" ∧ ob.dict = some builtinsNs ∧ ob.data = .plain)
    (ha : s.heap.get? a = some { cls := .type "list", data := .seq vs.toArray }) (hi : IntsAre vs ns) (hl : ns.length ≤ 63) (hr : Room k callerA)
    (F : ∀ base : Heap, K.In base → LamX.TabB base mg c PT → FnG P w K mg base CX0 k fa fd ["_law_script"] (spLaw K PT)) (hbind : ∀ (s : Shared) (u : Value), BindsTo s fd ⟨[u], []⟩ [("_law_script", u)]) :
    codeAny (model P w) callerA (.call (.ref fa) ⟨[.ref a], []⟩) (fun r s' => r = .ok (.ret (.bool true)) ∧ OldK s.heap s'.heap ∧ s'.os = s.os ∧ AllBare s'.gens) s := by
  have rv := vals_ints hi
  have aPT : a ≠ PT := fun z => by
    rw [z, hT] at ha
    cases ha
  have big : ns.length ≤ sizeLine := Nat.le_of_lt (small1000 (by omega))
  generalize hH : entryH K a PT { cls := .type "list", data := .seq vs.toArray } ns = H
  have cases_ : ∀ {b : Addr} {u : HO}, H b = some u → (b = PT ∧ u = .tbl #[]) ∨ (b = a ∧ K.lookup a = none ∧ u = .frz { cls := .type "list", data := .seq vs.toArray } (.lst (ns.map V.int))) := fun h => entry_cases (hH ▸ h)
  have hPT : H PT = some (.tbl #[]) := by
    rw [← hH]
    unfold entryH
    exact if_pos rfl
  have script : SqL K H a (ns.map V.int) := by
    cases hk : K.lookup a with
    | some o =>
      have e := KX a o hk
      rw [ha] at e
      cases e
      exact .inr ⟨_, vs.toArray, _, hk, rfl, rfl, rfl, by rw [List.size_toArray, hi.length]; exact big, by simpa using rv⟩
    | none =>
      refine .inl (.inr ⟨{ cls := .type "list", data := .seq vs.toArray }, ?_⟩)
      rw [← hH]
      unfold entryH
      rw [if_neg aPT, if_pos ⟨rfl, hk⟩]
  have hok : HOk P w H s.heap := fun b u h => by
    rcases cases_ h with ⟨rfl, rfl⟩ | ⟨rfl, _, rfl⟩
    · exact hT
    · exact ⟨ha, by rw [List.length_map]; exact big, vs, _, rv, ha⟩
  -- what is neither the script nor the table is seen by the base
  have seen : ∀ {b : Addr} {o : Obj}, s.heap.get? b = some o → (∀ xs n, o.data ≠ .seq xs n) → o.data ≠ .fields #[] → H b = none := fun {b o} e h1 h2 => by
    cases q : H b with
    | none => rfl
    | some u =>
      rcases cases_ q with ⟨rfl, _⟩ | ⟨rfl, _, _⟩
      · rw [hT] at e
        cases e
        exact absurd rfl h2
      · rw [ha] at e
        cases e
        exact absurd rfl (h1 _ _)
  have look : ∀ {b : Addr} {o : Obj}, s.heap.get? b = some o → (∀ xs n, o.data ≠ .seq xs n) → o.data ≠ .fields #[] → (hidT s.heap H).get? b = some o := fun e h1 h2 => hidT_get e (seen e h1 h2)
  have dicts : ∀ {b : Addr} {m : Str → Option Value}, s.heap.Ns b m → (hidT s.heap H).Ns b m := fun ⟨o, es, ep, e, d, r⟩ =>
    ⟨o, es, ep, look e (fun xs n z => by rw [d] at z; cases z) (fun z => by rw [d] at z; cases z), d, r⟩
  have kin : K.In (hidT s.heap H) := fun b o e => hidT_get (KX b o e) (by
    cases q : H b with
    | none => rfl
    | some u =>
      rcases cases_ q with ⟨rfl, _⟩ | ⟨rfl, hk, _⟩
      · rw [nT] at e
        cases e
      · rw [hk] at e
        cases e)
  have hM : L2.Mod K mg (hidT s.heap H) := ⟨kin, dicts hns, ⟨mb, dicts hb, hbb⟩, let ⟨mc, h1, h2⟩ := lim; ⟨mc, dicts h1, h2⟩⟩
  have gPT : mainGlobals ≠ PT := fun z => by
    obtain ⟨o, es, ep, e, d, _⟩ := hns
    rw [z, hT] at e
    cases e
    cases d
  have tabB : LamX.TabB (hidT s.heap H) mg c PT := by
    refine ⟨?_, ?_, gPT⟩
    · obtain ⟨o, us, file, tf, flags, tg, inF, text, tt, e, r1, r2, r3, r⟩ := hC
      refine ⟨o, us, file, tf, flags, tg, inF, text, tt, look e (fun xs n z => by rw [r2] at z; cases z) (fun z => ?_), r1, r2, r3, r⟩
      rw [r2] at z
      cases z
      cases r3
    · obtain ⟨bm, ob, b1, b2, b3, b4, b5, b6⟩ := bmain
      refine ⟨bm, ob, b1, b2, fun q => ?_, fun q => ?_, look b3 (fun xs n z => by rw [b6] at z; cases z) (fun z => by rw [b6] at z; cases z), b4, b5, b6⟩
      · obtain ⟨o, es, ep, e, d, _⟩ := hns
        rw [← q, b3] at e
        cases e
        rw [d] at b6
        cases b6
      · rw [q, hT] at b3
        cases b3
        cases b6
  have e0 : Env0 P w K mg (hidT s.heap H) callerA [] s H := ⟨rfl, hM, fun b o e => of_hidT e, Nat.le_of_eq (hidT_size _ _), trivial, fun b hb => (by cases hb), hok, .of_eq gens⟩
  refine codeAny_mono ((F _ kin tabB).run callerA [] s H ⟨[.ref a], []⟩ [.ref a] [.ref a] (fun v _ => v = .bl true) (fun _ _ _ => False) rfl hr e0 (hbind s (.ref a)) (.cons rfl .nil) ⟨a, ns, rfl, script, hl, hPT, fun _ => rfl⟩) fun r s' h => ?_
  cases r with
  | error e => exact (show False from h).elim
  | ok fl =>
    cases fl with
    | next => exact False.elim h
    | brk => exact False.elim h
    | cont => exact False.elim h
    | ret u =>
      obtain ⟨v, H', os, bare, un, hok', ru, ev⟩ := h
      have ev : v = V.bl true := ev
      subst ev
      obtain rfl : u = Value.bool true := ru
      obtain ⟨more, hmore⟩ := un.tbls PT #[] hPT
      have grown : s'.heap.get? PT = some (PySem.W.tabObj (#[] ++ more)) := hok' PT _ hmore
      have stays : ∀ b o, b ≠ PT → s.heap.get? b = some o → s'.heap.get? b = some o := fun b o nb e => by
        cases q : H b with
        | none => exact un.keep b o e q (fun z => by cases z) (fun z => by cases z)
        | some u =>
          rcases cases_ q with ⟨z, _⟩ | ⟨rfl, _, rfl⟩
          · exact absurd z nb
          · have e2 := (hok' b _ (un.frzs b _ _ q)).1
            rw [ha] at e
            rw [← e]
            exact e2
      refine ⟨rfl, ⟨fun b o e => ?_, fun b o e => ?_⟩, os, bare⟩
      · by_cases hb : b = PT
        · subst hb
          rw [hT] at e
          cases e
          refine .inr (.inl ⟨(hC.tab hT).isCodeTable, rfl, #[], more, rfl, ?_⟩)
          rw [grown, Array.empty_append]
        · exact .inl (stays b o hb e)
      · by_cases hb : b = PT
        · subst hb
          exact ⟨_, grown⟩
        · exact ⟨o, stays b o hb e⟩
end
end AH
end
section
set_option Elab.async false
set_option linter.all false
set_option maxRecDepth 100000
set_option maxHeartbeats 4000000
/-! The end, 3: what the top leaves; the closing theorem. -/
namespace AH
open PySem PySem.Spec PyProof.Rows L2
theorem def_mk {K : PySem.W.Frag} {h : Heap} {mg : Str → Option Value} {x : Str} {st : Stmt} {f : Addr} {oc : Value} {od an : Option Addr} {sl : Array (Option Value)} {kV dc pm cd ct : Value} (X : K.In h) (G : h.Ns mainGlobals mg)
    (a : PySem.W.nsIn K mainGlobals x = some (some (.ref f))) (l : K.lookup f = some ⟨oc, od, .func (PySem.W.fnOf x x (defArgs st) (defBody st) (defScope st) .none kV dc pm an cd ct), sl⟩) (c : PySem.W.codeIn K cd x = true) (k : PySem.W.keepIn K (.ref f) = true) : Def K mg x st :=
  ⟨f, _, fun_mk l c k, PySem.W.mg_of X G a⟩
/-- what is known of law when it is entered -/
def LawB (P : Program) (w : World) (K : PySem.W.Frag) (mg : Str → Option Value) (fa : Addr) : Prop :=
  ∃ (fd : FuncData) (c PT : Addr), PySem.W.tabIn K "law" = some (c, PT) ∧ K.lookup PT = none ∧ (∀ (s : Shared) (u : Value), BindsTo s fd ⟨[u], []⟩ [("_law_script", u)]) ∧
    ∀ base : Heap, K.In base → LamX.TabB base mg c PT → FnG P w K mg base CX0 23 fa fd ["_law_script"] (spLaw K PT)
theorem walk {l : PySem.W.OpenLaw} {q : Program} {loose : List Str} {XP : (Str → Option Value) → Heap → Prop} {YP : World → Heap → Prop} {d : DefRec} {K : Params → PySem.W.Frag} (hn : l.most = some 63) (hdf : d.params.defaults = [])
    (hq : (recsOf q).find? (fun e : DefRec => e.name == ("law" : Str)) = some d) (hY : ∀ (w : World) (h : Heap), YP w h → (K w.params).In h)
    (F : ∀ (w : World) (mg : Str → Option Value) (fa : Addr) (h : Heap), (K w.params).In h → h.Ns mainGlobals mg → mg d.name = some (.ref fa) → LawB l.prog w (K w.params) mg fa) :
    PySem.W.WalkO q loose XP YP l.row.toRowW d [] (fun f vs => PySem.call f vs) := by
  refine Att.attach_callB hn hdf fun w s₀ s₁ mg mb fa o pm cd doc a vs ns G Y ho hd hcd hmg hobj hints hlen hbits hg => ?_
  have KX := hY w _ Y
  obtain ⟨fd, c, PT, t1, t2, hb, hF⟩ := F w mg fa _ KX G.T.g hmg
  obtain ⟨hC, hT⟩ := PySem.W.tab_of G.T KX hq t1
  exact enter_law KX G.T.g G.T.b G.T.builtins G.T.nolimit hg hT t2 hC G.T.bmain hobj hints hlen ⟨rfl, by decide, by decide⟩ hF hb
/-- law's facts, from those of the defs -/
theorem law_mk {P : Program} {w : World} {K : PySem.W.Frag} {h : Heap} {mg : Str → Option Value} {fa f fH C0 C fI : Addr} {fdI : FuncData} {t : Nat} {c PT : Addr} {od odH an anH : Option Addr} {oc kV dc pm ct ocH kVH dcH pmH cdH ctH : Value} {sl slH : Array (Option Value)}
    (X : K.In h) (G : h.Ns mainGlobals mg) (hfa : mg "law" = some (.ref fa)) (D : Txts K mg) (DL : TxtsL K mg) (B : Blt mg) (T : ErrTxt K mg C0 C fI) (FI : Fun K "__init__" "TooMany.__init__" sInit fI fdI) (mM : mg "MOST" = some (.int 10 t))
    (a : PySem.W.nsIn K mainGlobals "law" = some (some (.ref f))) (lk : K.lookup f = some ⟨oc, od, .func (PySem.W.fnOf "law" "law" (defArgs lLaw) (defBody lLaw) (defScope lLaw) .none kV dc pm an (.ref c) ct), sl⟩) (hcd : PySem.W.codeIn K (.ref c) "law" = true)
    (aH : PySem.W.nsIn K mainGlobals "_law_heard" = some (some (.ref fH))) (lkH : K.lookup fH = some ⟨ocH, odH, .func (PySem.W.fnOf "_law_heard" "_law_heard" (defArgs lHeard) (defBody lHeard) (defScope lHeard) .none kVH dcH pmH anH cdH ctH), slH⟩) (hcdH : PySem.W.codeIn K cdH "_law_heard" = true) (kH : PySem.W.keepIn K (.ref fH) = true)
    (t1 : PySem.W.tabIn K "law" = some (c, PT)) (t2 : K.lookup PT = none) : LawB P w K mg fa := by
  have e := hfa.symm.trans (PySem.W.mg_of X G a)
  cases e
  refine ⟨PySem.W.fnOf "law" "law" (defArgs lLaw) (defBody lLaw) (defScope lLaw) .none kV dc pm an (.ref c) ct, c, PT, t1, t2, fun s v => .of_eq rfl, fun base _ TB => ?_⟩
  exact ok_law (help_mk D DL B T FI mM) T lk hcd lkH hcdH kH (PySem.W.mg_of X G aH) TB
theorem blt_mk {K : PySem.W.Frag} {h : Heap} {mg : Str → Option Value} (X : K.In h) (G : h.Ns mainGlobals mg) (z1 : PySem.W.nsIn K mainGlobals "list" = some none) (z2 : PySem.W.nsIn K mainGlobals "tuple" = some none) (z3 : PySem.W.nsIn K mainGlobals "sorted" = some none)
    (z4 : PySem.W.nsIn K mainGlobals "all" = some none) (z5 : PySem.W.nsIn K mainGlobals "max" = some none) (z6 : PySem.W.nsIn K mainGlobals "min" = some none) (z7 : PySem.W.nsIn K mainGlobals "len" = some none) (z8 : PySem.W.nsIn K mainGlobals "abs" = some none)
    (z9 : PySem.W.nsIn K mainGlobals "int" = some none) (z10 : PySem.W.nsIn K mainGlobals "set" = some none) (z11 : PySem.W.nsIn K mainGlobals "isinstance" = some none) (z12 : PySem.W.nsIn K mainGlobals "bool" = some none) (z13 : PySem.W.nsIn K mainGlobals "range" = some none)
    (z14 : PySem.W.nsIn K mainGlobals "str" = some none) (z15 : PySem.W.nsIn K mainGlobals "repr" = some none) : Blt mg :=
  have n {x : Str} (z : PySem.W.nsIn K mainGlobals x = some none) : mg x = none := PySem.W.mg_none_of X G z
  ⟨n z1, n z2, n z3, n z4, n z5, n z6, n z7, n z8, n z9, n z10, n z11, n z12, n z13, n z14, n z15⟩
/-- an error of the class at S is what its own name catches -/
theorem caught_self {K : PySem.W.Frag} {S : Addr} (h1 : PySem.W.subIn K (.ref S) (.type "BaseException") = some true) (h2 : PySem.W.isClsIn K S = true) (h3 : PySem.W.typeIn K (.ref S) = some (.type "type")) (h4 : PySem.W.subIn K (.ref S) (.ref S) = some true) : PySem.W.exmOne K (.ref S) (.ref S) = some true := by
  have c1 : (PySem.W.subIn K (.ref S) (.type "BaseException") == some true) = true := by rw [h1] <;> rfl
  have c2 : ((PySem.W.clsIn K S).isSome && PySem.W.typeIn K (.ref S) == some (.type "type")) = true := by
    rw [show (PySem.W.clsIn K S).isSome = true from h2, h3] <;> rfl
  unfold PySem.W.exmOne
  simp only [c1, if_true]
  first
    | exact (if_pos c2).trans h4
    | (rw [if_pos c2]; exact h4)
    | simp [c2, h4]
theorem err_mk {K : PySem.W.Frag} {h : Heap} {mg : Str → Option Value} {C0 C fI : Addr} {nm q : Str} {N : Addr} {bs bm : List Value} {sn : List Str} {sub : List Value} {ab : Bool} {col : Option Bool} {dd : Option Addr} {m0 m1 m2 m3 m5 : Option Value} (X : K.In h) (G : h.Ns mainGlobals mg)
    (aA : PySem.W.nsIn K mainGlobals "AskError" = some (some (.ref C0))) (ga : PySem.W.specialIn K (.ref C0) "__getattribute__" = some (some (.builtin "type.__getattribute__"))) (rd : PySem.W.readsIn K C0 (.type "type") = true) (fc : PySem.W.findCls K (.ref C0) (.type "type") "__init__" = some (.val (.builtin "ValueError.__init__")))
    (aC : PySem.W.nsIn K mainGlobals "TooMany" = some (some (.ref C))) (xL : K.lookup C = some (excClassObj nm q C N bs bm true sn sub ab col dd m0 m1 m2 m3 m5 "ValueError.__new__")) (hbm : PySem.HandSPX.refsVE bm = true)
    (sa : PySem.W.findIn K (.ref C) "__setattr__" = some (some (.builtin "object.__setattr__"))) (exC : PySem.W.subIn K (.ref C) (.type "BaseException") = some true) (tyC : PySem.W.typeIn K (.ref C) = some (.type "type")) (kC : PySem.W.keepIn K (.ref C) = true)
    (no : PySem.W.findIn K (.ref C) "most" = some none) (iC : PySem.W.findIn K (.ref C) "__init__" = some (some (.ref fI))) (tI : PySem.W.typeIn K (.ref fI) = some (.type "function")) (xg : PySem.W.findIn K (.ref C) "__getattribute__" = some (some (.builtin "BaseException.__getattribute__")))
    (gg : PySem.W.findIn K (.ref C) "__getattr__" = some none) (hd : PySem.W.hasDictIn K C = true) (ic : PySem.W.isClsIn K C = true) (sC : PySem.W.subIn K (.ref C) (.ref C) = some true) : ErrTxt K mg C0 C fI where
  gA := PySem.W.mg_of X G aA
  ga := ga
  rd := rd
  fc := fc
  gC := PySem.W.mg_of X G aC
  ox := ⟨⟨nm, q, N, bs, bm, sn, sub, ab, col, dd, m0, m1, m2, m3, m5, xL, hbm⟩, sa, exC, tyC, kC⟩
  no := no
  iC := iC
  tI := tI
  xf := ⟨xg, gg, exC, hd⟩
  te := caught_self exC ic tyC sC
end AH
end
section
set_option Elab.async false
set_option linter.all false
set_option maxRecDepth 100000
open PySem PySem.W PyProof.Rows
set_option maxRecDepth 100000 in
set_option maxHeartbeats 0 in
theorem PySem.Challenge.cw_askorhold_k45_whole_least_prices_of_all_holds : PySem.Challenge.rw_askorhold_k45_whole_least_prices_of_all.Holds := by
  w_on; o_law; k_head; (case hw => w_witness2)
  k_fill
  refine AH.walk (l := PySem.Challenge.rw_askorhold_k45_whole_least_prices_of_all) rfl rfl ?hq (fun w h Y => PySem.W.km_in_of Y) ?F
  case hq => first | rfl | kernel_rfl | decide +kernel
  case F =>
    intro w mg fa h KX G hmg
    replace hmg : mg "law" = some (.ref fa) := hmg
    refine' AH.law_mk (PT := 288) KX G hmg ?D ?DL ?B ?T ?FI ?mM ?a ?lk ?hcd ?aH ?lkH ?hcdH ?kH ?t1 ?t2
    case D =>
      refine' AH.Txts.mk ?d0 ?d1 ?d2 ?d3 ?d4 ?d5 ?d6 ?d7 ?d8 ?d9 ?d10 ?d11 ?d12 ?d13 ?d14 ?d15 ?d16 ?d17 ?d18
      case d0 =>
        refine' AH.def_mk KX G ?a1 ?l1 ?c1 ?k1; (case a1 => k_is); (case l1 => k_is); (case c1 => k_is); (case k1 => k_is)
      case d1 =>
        refine' AH.def_mk KX G ?a2 ?l2 ?c2 ?k2; (case a2 => k_is); (case l2 => k_is); (case c2 => k_is); (case k2 => k_is)
      case d2 =>
        refine' AH.def_mk KX G ?a3 ?l3 ?c3 ?k3; (case a3 => k_is); (case l3 => k_is); (case c3 => k_is); (case k3 => k_is)
      case d3 =>
        refine' AH.def_mk KX G ?a4 ?l4 ?c4 ?k4; (case a4 => k_is); (case l4 => k_is); (case c4 => k_is); (case k4 => k_is)
      case d4 =>
        refine' AH.def_mk KX G ?a5 ?l5 ?c5 ?k5; (case a5 => k_is); (case l5 => k_is); (case c5 => k_is); (case k5 => k_is)
      case d5 =>
        refine' AH.def_mk KX G ?a6 ?l6 ?c6 ?k6; (case a6 => k_is); (case l6 => k_is); (case c6 => k_is); (case k6 => k_is)
      case d6 =>
        refine' AH.def_mk KX G ?a7 ?l7 ?c7 ?k7; (case a7 => k_is); (case l7 => k_is); (case c7 => k_is); (case k7 => k_is)
      case d7 =>
        refine' AH.def_mk KX G ?a8 ?l8 ?c8 ?k8; (case a8 => k_is); (case l8 => k_is); (case c8 => k_is); (case k8 => k_is)
      case d8 =>
        refine' AH.def_mk KX G ?a9 ?l9 ?c9 ?k9; (case a9 => k_is); (case l9 => k_is); (case c9 => k_is); (case k9 => k_is)
      case d9 =>
        refine' AH.def_mk KX G ?a10 ?l10 ?c10 ?k10; (case a10 => k_is); (case l10 => k_is); (case c10 => k_is); (case k10 => k_is)
      case d10 =>
        refine' AH.def_mk KX G ?a11 ?l11 ?c11 ?k11; (case a11 => k_is); (case l11 => k_is); (case c11 => k_is); (case k11 => k_is)
      case d11 =>
        refine' AH.def_mk KX G ?a12 ?l12 ?c12 ?k12; (case a12 => k_is); (case l12 => k_is); (case c12 => k_is); (case k12 => k_is)
      case d12 =>
        refine' AH.def_mk KX G ?a13 ?l13 ?c13 ?k13; (case a13 => k_is); (case l13 => k_is); (case c13 => k_is); (case k13 => k_is)
      case d13 =>
        refine' AH.def_mk KX G ?a14 ?l14 ?c14 ?k14; (case a14 => k_is); (case l14 => k_is); (case c14 => k_is); (case k14 => k_is)
      case d14 =>
        refine' AH.def_mk KX G ?a15 ?l15 ?c15 ?k15; (case a15 => k_is); (case l15 => k_is); (case c15 => k_is); (case k15 => k_is)
      case d15 =>
        refine' AH.def_mk KX G ?a16 ?l16 ?c16 ?k16; (case a16 => k_is); (case l16 => k_is); (case c16 => k_is); (case k16 => k_is)
      case d16 =>
        refine' AH.def_mk KX G ?a17 ?l17 ?c17 ?k17; (case a17 => k_is); (case l17 => k_is); (case c17 => k_is); (case k17 => k_is)
      case d17 =>
        refine' AH.def_mk KX G ?a18 ?l18 ?c18 ?k18; (case a18 => k_is); (case l18 => k_is); (case c18 => k_is); (case k18 => k_is)
      case d18 =>
        refine' AH.def_mk KX G ?a19 ?l19 ?c19 ?k19; (case a19 => k_is); (case l19 => k_is); (case c19 => k_is); (case k19 => k_is)
    case DL =>
      refine' AH.TxtsL.mk ?dl0 ?dl1 ?dl2 ?dl3 ?dl4 ?dl5 ?dl6 ?dl7 ?dl8 ?dl9 ?dl10 ?dl11 ?dl12 ?dl13 ?dl14 ?dl15 ?dl16 ?dl17
      case dl0 =>
        refine' AH.def_mk KX G ?a20 ?l20 ?c20 ?k20; (case a20 => k_is); (case l20 => k_is); (case c20 => k_is); (case k20 => k_is)
      case dl1 =>
        refine' AH.def_mk KX G ?a21 ?l21 ?c21 ?k21; (case a21 => k_is); (case l21 => k_is); (case c21 => k_is); (case k21 => k_is)
      case dl2 =>
        refine' AH.def_mk KX G ?a22 ?l22 ?c22 ?k22; (case a22 => k_is); (case l22 => k_is); (case c22 => k_is); (case k22 => k_is)
      case dl3 =>
        refine' AH.def_mk KX G ?a23 ?l23 ?c23 ?k23; (case a23 => k_is); (case l23 => k_is); (case c23 => k_is); (case k23 => k_is)
      case dl4 =>
        refine' AH.def_mk KX G ?a24 ?l24 ?c24 ?k24; (case a24 => k_is); (case l24 => k_is); (case c24 => k_is); (case k24 => k_is)
      case dl5 =>
        refine' AH.def_mk KX G ?a25 ?l25 ?c25 ?k25; (case a25 => k_is); (case l25 => k_is); (case c25 => k_is); (case k25 => k_is)
      case dl6 =>
        refine' AH.def_mk KX G ?a26 ?l26 ?c26 ?k26; (case a26 => k_is); (case l26 => k_is); (case c26 => k_is); (case k26 => k_is)
      case dl7 =>
        refine' AH.def_mk KX G ?a27 ?l27 ?c27 ?k27; (case a27 => k_is); (case l27 => k_is); (case c27 => k_is); (case k27 => k_is)
      case dl8 =>
        refine' AH.def_mk KX G ?a28 ?l28 ?c28 ?k28; (case a28 => k_is); (case l28 => k_is); (case c28 => k_is); (case k28 => k_is)
      case dl9 =>
        refine' AH.def_mk KX G ?a29 ?l29 ?c29 ?k29; (case a29 => k_is); (case l29 => k_is); (case c29 => k_is); (case k29 => k_is)
      case dl10 =>
        refine' AH.def_mk KX G ?a30 ?l30 ?c30 ?k30; (case a30 => k_is); (case l30 => k_is); (case c30 => k_is); (case k30 => k_is)
      case dl11 =>
        refine' AH.def_mk KX G ?a31 ?l31 ?c31 ?k31; (case a31 => k_is); (case l31 => k_is); (case c31 => k_is); (case k31 => k_is)
      case dl12 =>
        refine' AH.def_mk KX G ?a32 ?l32 ?c32 ?k32; (case a32 => k_is); (case l32 => k_is); (case c32 => k_is); (case k32 => k_is)
      case dl13 =>
        refine' AH.def_mk KX G ?a33 ?l33 ?c33 ?k33; (case a33 => k_is); (case l33 => k_is); (case c33 => k_is); (case k33 => k_is)
      case dl14 =>
        refine' AH.def_mk KX G ?a34 ?l34 ?c34 ?k34; (case a34 => k_is); (case l34 => k_is); (case c34 => k_is); (case k34 => k_is)
      case dl15 =>
        refine' AH.def_mk KX G ?a35 ?l35 ?c35 ?k35; (case a35 => k_is); (case l35 => k_is); (case c35 => k_is); (case k35 => k_is)
      case dl16 =>
        refine' AH.def_mk KX G ?a36 ?l36 ?c36 ?k36; (case a36 => k_is); (case l36 => k_is); (case c36 => k_is); (case k36 => k_is)
      case dl17 =>
        refine' AH.def_mk KX G ?a37 ?l37 ?c37 ?k37; (case a37 => k_is); (case l37 => k_is); (case c37 => k_is); (case k37 => k_is)
    case B =>
      refine' AH.blt_mk KX G ?z1 ?z2 ?z3 ?z4 ?z5 ?z6 ?z7 ?z8 ?z9 ?z10 ?z11 ?z12 ?z13 ?z14 ?z15
      all_goals k_is
    case T =>
      refine' AH.err_mk KX G ?aA ?ga ?rd ?fc ?aC ?xL ?hbm ?sa ?exC ?tyC ?kC ?no ?iC ?tI ?xg ?gg ?hd ?ic ?sC
      (case aA => k_is)
      (case ga => k_is)
      (case rd => k_is)
      (case fc => k_is)
      (case aC => k_is)
      (case xL => k_is)
      (case hbm => decide +kernel)
      (case sa => k_is)
      (case exC => k_is)
      (case tyC => k_is)
      (case kC => k_is)
      (case no => k_is)
      (case iC => k_is)
      (case tI => k_is)
      (case xg => k_is)
      (case gg => k_is)
      (case hd => k_is)
      (case ic => k_is)
      (case sC => first | rfl | k_is)
    case FI =>
      refine' L2.fun_mk ?lI ?cI ?kI; (case lI => k_is); (case cI => k_is); (case kI => k_is)
    case mM =>
      refine' PySem.W.mg_of KX G ?aM; (case aM => k_is)
    (case a => k_is)
    (case lk => k_is)
    (case hcd => k_is)
    (case aH => k_is)
    (case lkH => k_is)
    (case hcdH => k_is)
    (case kH => k_is)
    case t1 => first | kernel_rfl | exact rfl
    case t2 => first | k_is | kernel_rfl | exact rfl
end

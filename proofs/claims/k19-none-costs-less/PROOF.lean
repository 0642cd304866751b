import PyProof.Rows.All
import Wide.All
import OpenK.AllK
import Wide.FinOn
import PySem.Challenge.RW_touchall_k19_whole_none_costs_less
import HandS.ForMost
import HandS.ForExc
import HandS.ExcInit
import HandS.IsInst
import HandS.SortInts
import HandS.SortKw
import HandS.Wide
import HandS.More
import HandS.Walk
import KE.DatumOrd
import KE.KTryMore
set_option Elab.async false
set_option linter.all false
set_option maxRecDepth 100000
set_option maxHeartbeats 4000000
namespace TA
abbrev Pr := Int × Int
structure RowD where
  wd : Bool
  ps : List Int
  am : Int
def Tied (ts : List Pr) (x y : Int) : Prop := (x, y) ∈ ts ∨ (y, x) ∈ ts
theorem Tied.symm {ts : List Pr} {x y : Int} (h : Tied ts x y) : Tied ts y x := Or.symm h
def keys (ps : List Pr) : List Int := ps.map (·.1)
def AllOk (ts : List Pr) (l : List Int) : Prop := 2 ≤ l.length ∧ l.Pairwise fun x y => x < y ∧ Tied ts x y
def RingOk (ts : List Pr) (l : List Int) : Prop := 3 ≤ l.length ∧ l.length % 2 = 1 ∧ l.Nodup ∧
  (∀ (i : Nat) (x y : Int), l[i]? = some x → l[i + 1]? = some y → Tied ts x y) ∧ ∀ x y : Int, l[0]? = some x → l[l.length - 1]? = some y → Tied ts x y
def RowOk (ps ts : List Pr) (r : RowD) : Prop := 1 ≤ r.am ∧ (∀ x ∈ r.ps, x ∈ keys ps) ∧ if r.wd = true then AllOk ts r.ps else RingOk ts r.ps
def givesD (r : RowD) : Int := if r.wd = true then (r.ps.length : Int) - 1 else ((r.ps.length : Int) + 1) / 2
def hit (l S : List Int) : Nat := (l.filter fun x => decide (x ∈ S)).length
def worthD (rs : List RowD) : Int := (rs.map fun r => givesD r * r.am).sum
def paidD : List RowD → Int → Int
  | [], _ => 0
  | r :: rs, p => r.am * (r.ps.count p : Int) + paidD rs p
def sumOn (f : Pr → Int) (S : List Int) : List Pr → Int
  | [] => 0
  | p :: r => (if p.1 ∈ S then f p else 0) + sumOn f S r
def costD (ps : List Pr) (S : List Int) : Int := sumOn (·.2) S ps
def Touch (ts : List Pr) (S : List Int) : Prop := ∀ t ∈ ts, t.1 ∈ S ∨ t.2 ∈ S
def TightD (ps : List Pr) (rs : List RowD) (S : List Int) : Prop := (∀ p ∈ ps, p.1 ∈ S → paidD rs p.1 = 2 * p.2) ∧ ∀ r ∈ rs, (hit r.ps S : Int) = givesD r
def Within (ps : List Pr) (rs : List RowD) : Prop := ∀ p ∈ ps, paidD rs p.1 ≤ 2 * p.2
theorem Touch.tied {ts : List Pr} {S : List Int} (h : Touch ts S) {x y : Int} (t : Tied ts x y) : x ∈ S ∨ y ∈ S := by
  rcases t with t | t
  · exact h _ t
  · exact (h _ t).symm
theorem hit_nil (S : List Int) : hit [] S = 0 := rfl
theorem hit_pos {x : Int} {l S : List Int} (h : x ∈ S) : hit (x :: l) S = hit l S + 1 := by
  unfold hit
  rw [List.filter_cons, if_pos (by simpa using h)]
  rfl
theorem hit_neg {x : Int} {l S : List Int} (h : ¬ x ∈ S) : hit (x :: l) S = hit l S := by
  unfold hit
  rw [List.filter_cons, if_neg (by simpa using h)]
theorem hit_all : ∀ {l S : List Int}, (∀ x ∈ l, x ∈ S) → hit l S = l.length
  | [], _, _ => rfl
  | x :: l, S, h => by
    rw [hit_pos (h x List.mem_cons_self), hit_all fun y hy => h y (List.mem_cons_of_mem _ hy), List.length_cons]
theorem clique {ts : List Pr} {S : List Int} (hT : Touch ts S) : ∀ {l : List Int}, (l.Pairwise fun x y => x < y ∧ Tied ts x y) → (l.length : Int) - 1 ≤ hit l S
  | [], _ => by simp [hit_nil]
  | x :: l, h => by
    obtain ⟨h1, h2⟩ := List.pairwise_cons.mp h
    by_cases hx : x ∈ S
    · have ih := clique hT h2
      rw [hit_pos hx, List.length_cons]
      omega
    · rw [hit_neg hx, hit_all fun y hy => (hT.tied (h1 y hy).2).resolve_left hx, List.length_cons]
      omega
def one (S : List Int) (x : Int) : Int := if x ∈ S then 1 else 0
theorem one_le (S : List Int) (x : Int) : 0 ≤ one S x := by unfold one; split <;> omega
theorem hit_one (x : Int) (l S : List Int) : (hit (x :: l) S : Int) = one S x + hit l S := by
  unfold one
  by_cases h : x ∈ S
  · rw [hit_pos h, if_pos h]; omega
  · rw [hit_neg h, if_neg h]; omega
theorem one_tied {ts : List Pr} {S : List Int} (hT : Touch ts S) {x y : Int} (t : Tied ts x y) : 1 ≤ one S x + one S y := by
  have h1 := one_le S x
  have h2 := one_le S y
  rcases hT.tied t with h | h
  · have : one S x = 1 := if_pos h
    omega
  · have : one S y = 1 := if_pos h
    omega
theorem path {ts : List Pr} {S : List Int} (hT : Touch ts S) : ∀ {l : List Int} {x y : Int}, (∀ (i : Nat) (x y : Int), l[i]? = some x → l[i + 1]? = some y → Tied ts x y) → l[0]? = some x → l[l.length - 1]? = some y →
    (l.length : Int) - 1 + one S x + one S y ≤ 2 * hit l S
  | [], x, y, _, h0, _ => by cases h0
  | [a], x, y, _, h0, h1 => by
    have e0 : a = x := Option.some.inj h0
    have e1 : a = y := Option.some.inj h1
    subst e0 e1
    rw [hit_one, hit_nil]
    simp
    omega
  | a :: b :: l, x, y, hc, h0, h1 => by
    have e0 : a = x := Option.some.inj h0
    subst e0
    have ih := path (l := b :: l) (x := b) (y := y) hT (fun i x y h h' => hc (i + 1) x y h h') rfl (by
      rw [List.length_cons, List.length_cons] at h1
      rw [List.length_cons]
      have e : (l.length + 1 + 1 - 1) = (l.length + 1 - 1) + 1 := by omega
      rw [e, List.getElem?_cons_succ] at h1
      exact h1)
    have t := one_tied hT (hc 0 a b rfl rfl)
    rw [hit_one, List.length_cons]
    omega
theorem ring {ts : List Pr} {S l : List Int} (hT : Touch ts S) (h : RingOk ts l) : ((l.length : Int) + 1) / 2 ≤ hit l S := by
  obtain ⟨h3, hodd, _, hc, hz⟩ := h
  have g0 : l[0]? = some l[0] := List.getElem?_eq_getElem (by omega)
  have g1 : l[l.length - 1]? = some l[l.length - 1] := List.getElem?_eq_getElem (by omega)
  have p := path hT hc g0 g1
  have t := one_tied hT (hz _ _ g0 g1)
  omega
theorem gives_le {ps ts : List Pr} {S : List Int} {r : RowD} (hT : Touch ts S) (h : RowOk ps ts r) : givesD r ≤ hit r.ps S := by
  obtain ⟨_, _, h⟩ := h
  unfold givesD
  by_cases hw : r.wd = true
  · rw [if_pos hw] at h
    rw [if_pos hw]
    exact clique hT h.2
  · rw [if_neg hw] at h
    rw [if_neg hw]
    exact ring hT h
/-! ### sums -/
theorem sumOn_add (f g : Pr → Int) (S : List Int) : ∀ ps, sumOn (fun p => f p + g p) S ps = sumOn f S ps + sumOn g S ps
  | [] => rfl
  | p :: r => by
    have ih := sumOn_add f g S r
    unfold sumOn
    rw [ih]
    split <;> omega
theorem sumOn_mul (c : Int) (f : Pr → Int) (S : List Int) : ∀ ps, sumOn (fun p => c * f p) S ps = c * sumOn f S ps
  | [] => by simp [sumOn]
  | p :: r => by
    have ih := sumOn_mul c f S r
    unfold sumOn
    rw [ih, Int.mul_add]
    split
    · rfl
    · rw [Int.mul_zero]
theorem sumOn_zero (S : List Int) : ∀ ps, sumOn (fun _ => 0) S ps = 0
  | [] => rfl
  | p :: r => by
    unfold sumOn
    rw [sumOn_zero S r]
    split <;> rfl
theorem sumOn_congr {f g : Pr → Int} {S : List Int} : ∀ {ps : List Pr}, (∀ p ∈ ps, f p = g p) → sumOn f S ps = sumOn g S ps
  | [], _ => rfl
  | p :: r, h => by
    unfold sumOn
    rw [h p List.mem_cons_self, sumOn_congr fun q hq => h q (List.mem_cons_of_mem _ hq)]
theorem sumOn_at {x : Int} {S : List Int} : ∀ {ps : List Pr}, (keys ps).Nodup → sumOn (fun p => if x = p.1 then 1 else 0) S ps = if x ∈ keys ps then one S x else 0
  | [], _ => by simp [sumOn, keys]
  | p :: r, h => by
    have h' : (p.1 :: keys r).Nodup := h
    obtain ⟨h1, h2⟩ := List.nodup_cons.mp h'
    have ih := sumOn_at (x := x) (S := S) h2
    unfold sumOn
    rw [ih]
    have ek : keys (p :: r) = p.1 :: keys r := rfl
    rw [ek]
    by_cases e : x = p.1
    · subst e
      rw [if_neg h1, if_pos (List.mem_cons_self)]
      unfold one
      split <;> simp
    · by_cases hm : x ∈ keys r
      · rw [if_pos hm, if_pos (List.mem_cons_of_mem _ hm), if_neg e]
        split <;> omega
      · rw [if_neg hm, if_neg (fun z => (List.mem_cons.mp z).elim e hm), if_neg e]
        split <;> omega
theorem hit_sum {S : List Int} {ps : List Pr} (hn : (keys ps).Nodup) : ∀ {l : List Int}, (∀ x ∈ l, x ∈ keys ps) → (hit l S : Int) = sumOn (fun p => (l.count p.1 : Int)) S ps
  | [], _ => by
    rw [hit_nil]
    have : (fun p : Pr => (([] : List Int).count p.1 : Int)) = fun _ => 0 := rfl
    rw [this, sumOn_zero]
    rfl
  | x :: l, h => by
    have ih := hit_sum (S := S) hn (l := l) fun y hy => h y (List.mem_cons_of_mem _ hy)
    rw [hit_one, ih]
    have e : sumOn (fun p => ((x :: l).count p.1 : Int)) S ps = sumOn (fun p => (if x = p.1 then 1 else 0) + (l.count p.1 : Int)) S ps := sumOn_congr fun p _ => by
      rw [List.count_cons]
      by_cases q : x = p.1
      · simp [q]; omega
      · simp [q]
    rw [e, sumOn_add, sumOn_at hn, if_pos (h x List.mem_cons_self)]
theorem paid_sum {S : List Int} {ps : List Pr} (hn : (keys ps).Nodup) : ∀ {rs : List RowD}, (∀ r ∈ rs, ∀ x ∈ r.ps, x ∈ keys ps) → (rs.map fun r => r.am * (hit r.ps S : Int)).sum = sumOn (fun p => paidD rs p.1) S ps
  | [], _ => by
    show (0 : Int) = sumOn (fun _ => 0) S ps
    rw [sumOn_zero]
  | r :: rs, h => by
    have ih := paid_sum (S := S) hn (rs := rs) fun q hq => h q (List.mem_cons_of_mem _ hq)
    rw [List.map_cons, List.sum_cons, ih, hit_sum hn (h r List.mem_cons_self), ← sumOn_mul, ← sumOn_add]
    rfl
/-- terms that are nought at least: the sums, and when they are the same -/
theorem sumOn_le {f g : Pr → Int} {S : List Int} : ∀ {ps : List Pr}, (∀ p ∈ ps, f p ≤ g p) → sumOn f S ps ≤ sumOn g S ps ∧ (sumOn f S ps = sumOn g S ps ↔ ∀ p ∈ ps, p.1 ∈ S → f p = g p)
  | [], _ => ⟨Int.le_refl _, ⟨(fun _ _ hp => nomatch hp), fun _ => rfl⟩⟩
  | p :: r, h => by
    obtain ⟨i1, i2⟩ := sumOn_le (S := S) fun q hq => h q (List.mem_cons_of_mem _ hq)
    have hp := h p List.mem_cons_self
    unfold sumOn
    by_cases hm : p.1 ∈ S
    · rw [if_pos hm, if_pos hm]
      refine ⟨by omega, ⟨fun e q hq hs => ?_, fun a => ?_⟩⟩
      · have e1 : f p = g p := by omega
        have e2 : sumOn f S r = sumOn g S r := by omega
        rcases List.mem_cons.mp hq with rfl | hq
        · exact e1
        · exact i2.mp e2 q hq hs
      · have e1 := a p List.mem_cons_self hm
        have e2 := i2.mpr fun q hq => a q (List.mem_cons_of_mem _ hq)
        omega
    · rw [if_neg hm, if_neg hm]
      refine ⟨by omega, ⟨fun e q hq hs => ?_, fun a => ?_⟩⟩
      · rcases List.mem_cons.mp hq with rfl | hq
        · exact absurd hs hm
        · exact i2.mp (by omega) q hq hs
      · have e2 := i2.mpr fun q hq => a q (List.mem_cons_of_mem _ hq)
        omega
theorem worth_le {S : List Int} : ∀ {rs : List RowD}, (∀ r ∈ rs, 1 ≤ r.am ∧ givesD r ≤ hit r.ps S) → worthD rs ≤ (rs.map fun r => r.am * (hit r.ps S : Int)).sum ∧
    (worthD rs = (rs.map fun r => r.am * (hit r.ps S : Int)).sum ↔ ∀ r ∈ rs, (hit r.ps S : Int) = givesD r)
  | [], _ => ⟨Int.le_refl _, ⟨(fun _ _ hp => nomatch hp), fun _ => rfl⟩⟩
  | r :: rs, h => by
    obtain ⟨i1, i2⟩ := worth_le (rs := rs) fun q hq => h q (List.mem_cons_of_mem _ hq)
    obtain ⟨ha, hg⟩ := h r List.mem_cons_self
    have e0 : worthD (r :: rs) = givesD r * r.am + worthD rs := by
      unfold worthD
      rw [List.map_cons, List.sum_cons]
    have e1 : r.am * (hit r.ps S : Int) = givesD r * r.am + r.am * ((hit r.ps S : Int) - givesD r) := by
      rw [Int.mul_sub, Int.mul_comm (givesD r)]
      omega
    have hz : 0 ≤ r.am * ((hit r.ps S : Int) - givesD r) := Int.mul_nonneg (by omega) (by omega)
    rw [e0, List.map_cons, List.sum_cons, e1]
    refine ⟨by omega, ⟨fun e q hq => ?_, fun a => ?_⟩⟩
    · have z : r.am * ((hit r.ps S : Int) - givesD r) = 0 := by omega
      rcases List.mem_cons.mp hq with rfl | hq
      · rcases Int.mul_eq_zero.mp z with z | z
        · omega
        · omega
      · exact i2.mp (by omega) q hq
    · have e2 := i2.mpr fun q hq => a q (List.mem_cons_of_mem _ hq)
      have e3 : (hit r.ps S : Int) - givesD r = 0 := by rw [a r List.mem_cons_self]; omega
      rw [e3, Int.mul_zero]
      omega
/-- THE LAW: rows that are let by, a touching set -/
theorem law_math {ps ts : List Pr} {rs : List RowD} {S : List Int} (hn : (keys ps).Nodup) (hr : ∀ r ∈ rs, RowOk ps ts r) (hw : Within ps rs) (hT : Touch ts S) :
    worthD rs ≤ 2 * costD ps S ∧ (TightD ps rs S ↔ 2 * costD ps S = worthD rs) := by
  obtain ⟨a1, a2⟩ := worth_le (S := S) (rs := rs) fun r h => ⟨(hr r h).1, gives_le hT (hr r h)⟩
  rw [paid_sum hn fun r h => (hr r h).2.1] at a1 a2
  obtain ⟨b1, b2⟩ := sumOn_le (S := S) (ps := ps) (f := fun p => paidD rs p.1) (g := fun p => 2 * p.2) hw
  have e : sumOn (fun p => 2 * p.2) S ps = 2 * costD ps S := sumOn_mul 2 (fun p => p.2) S ps
  rw [e] at b1 b2
  refine ⟨by omega, ⟨fun t => ?_, fun q => ⟨b2.mp (by omega), a2.mp (by omega)⟩⟩⟩
  have h1 := b2.mpr t.1
  have h2 := a2.mpr t.2
  omega
end TA
namespace TA
theorem drop_at {α : Type} {l : List α} {i : Nat} {x : α} (h : l[i]? = some x) : l.drop i = x :: l.drop (i + 1) := by
  obtain ⟨hi, e⟩ := List.getElem?_eq_some_iff.mp h
  rw [List.drop_eq_getElem_cons hi, e]
theorem take_at {α : Type} {l : List α} {i : Nat} {x : α} (h : l[i]? = some x) : l.take (i + 1) = l.take i ++ [x] := by
  rw [List.take_add_one, h]
  rfl
theorem lt_at {α : Type} {l : List α} {i : Nat} {x : α} (h : l[i]? = some x) : i < l.length := (List.getElem?_eq_some_iff.mp h).1
theorem mem_at {α : Type} {l : List α} {i : Nat} {x : α} (h : l[i]? = some x) : x ∈ l := List.mem_of_getElem? h
theorem nd_at {α : Type} : ∀ {l : List α} {i : Nat} {x : α}, l.Nodup → l[i]? = some x → ¬ x ∈ l.take i
  | a :: l, 0, x, _, _, h => by simp at h
  | a :: l, i + 1, x, hn, e, h => by
    obtain ⟨h1, h2⟩ := List.nodup_cons.mp hn
    have e' : l[i]? = some x := by simpa using e
    rw [List.take_succ_cons] at h
    rcases List.mem_cons.mp h with q | q
    · exact h1 (q ▸ mem_at e')
    · exact nd_at h2 e' q
theorem keys_take (ps : List Pr) (i : Nat) : keys (ps.take i) = (keys ps).take i := by
  unfold keys
  rw [List.map_take]
theorem keys_at {ps : List Pr} {i : Nat} {p : Pr} (h : ps[i]? = some p) : (keys ps)[i]? = some p.1 := by
  unfold keys
  rw [List.getElem?_map, h]
  rfl
theorem keys_snoc (ps : List Pr) (p : Pr) : keys (ps ++ [p]) = keys ps ++ [p.1] := by
  unfold keys
  rw [List.map_append]
  rfl
theorem mem_keys {ps : List Pr} {p : Pr} (h : p ∈ ps) : p.1 ∈ keys ps := List.mem_map.mpr ⟨p, h, rfl⟩
theorem of_keys {ps : List Pr} {k : Int} (h : k ∈ keys ps) : ∃ p ∈ ps, p.1 = k := List.mem_map.mp h
/-- places, from the last one and what is paid -/
def PlOk : Int → Int → List Pr → Prop
  | _, _, [] => True
  | l, p, q :: r => l < q.1 ∧ q.1 ≤ 999 ∧ 1 ≤ q.2 ∧ q.2 ≤ 1000000000000 - p ∧ PlOk q.1 (p + q.2) r
theorem plOk_of : ∀ (ps : List Pr) (l p : Int), (ps.Pairwise fun a b => a.1 < b.1) → (∀ q ∈ ps, l < q.1) → (∀ q ∈ ps, 0 ≤ q.1 ∧ q.1 ≤ 999 ∧ 1 ≤ q.2 ∧ q.2 ≤ 1000000000) → p + 1000000000 * ps.length ≤ 1000000000000 → PlOk l p ps
  | [], _, _, _, _, _, _ => True.intro
  | q :: r, l, p, hu, hl, hb, hp => by
    obtain ⟨h1, h2⟩ := List.pairwise_cons.mp hu
    obtain ⟨b0, b1, b2, b3⟩ := hb q List.mem_cons_self
    rw [List.length_cons] at hp
    refine ⟨hl q List.mem_cons_self, b1, b2, by omega, plOk_of r q.1 (p + q.2) h2 h1 (fun z hz => hb z (List.mem_cons_of_mem _ hz)) (by omega)⟩
def lexP (a b : Pr) : Prop := a.1 < b.1 ∨ (a.1 = b.1 ∧ a.2 < b.2)
def TiOk (ps : List Pr) : Pr → List Pr → Prop
  | _, [] => True
  | b, t :: r => t.1 < t.2 ∧ t.1 ∈ keys ps ∧ t.2 ∈ keys ps ∧ lexP b t ∧ TiOk ps t r
theorem tiOk_of (ps : List Pr) : ∀ (ts : List Pr) (b : Pr), (ts.Pairwise lexP) → (∀ t ∈ ts, lexP b t) → (∀ t ∈ ts, t.1 < t.2 ∧ t.1 ∈ keys ps ∧ t.2 ∈ keys ps) → TiOk ps b ts
  | [], _, _, _, _ => True.intro
  | t :: r, b, hu, hl, hb => by
    obtain ⟨h1, h2⟩ := List.pairwise_cons.mp hu
    obtain ⟨b0, b1, b2⟩ := hb t List.mem_cons_self
    exact ⟨b0, b1, b2, hl t List.mem_cons_self, tiOk_of ps r t h2 h1 fun z hz => hb z (List.mem_cons_of_mem _ hz)⟩
end TA
namespace TA
def prevI (l : List Int) (i : Nat) : Option Int := if i = 0 then l[l.length - 1]? else l[i - 1]?
theorem prevI_some {l : List Int} {i : Nat} (h : i < l.length) : ∃ y, prevI l i = some y ∧ y ∈ l := by
  unfold prevI
  by_cases e : i = 0
  · rw [if_pos e]
    exact ⟨_, List.getElem?_eq_getElem (by omega), List.getElem_mem _⟩
  · rw [if_neg e]
    exact ⟨_, List.getElem?_eq_getElem (by omega), List.getElem_mem _⟩
theorem ring_iff {ts : List Pr} {l : List Int} (h3 : 3 ≤ l.length) (ho : l.length % 2 = 1) : RingOk ts l ↔ l.Nodup ∧ ∀ (j : Nat) (x y : Int), l[j]? = some x → prevI l j = some y → Tied ts y x := by
  constructor
  · rintro ⟨_, _, hn, hc, hz⟩
    refine ⟨hn, fun j x y hx hy => ?_⟩
    unfold prevI at hy
    by_cases e : j = 0
    · subst e
      rw [if_pos rfl] at hy
      exact (hz x y hx hy).symm
    · rw [if_neg e] at hy
      have e2 : j - 1 + 1 = j := by omega
      exact hc (j - 1) y x hy (by rw [e2]; exact hx)
  · rintro ⟨hn, h⟩
    refine ⟨h3, ho, hn, fun i x y hx hy => h (i + 1) y x hy (by unfold prevI; rw [if_neg (by omega)]; exact hx), fun x y hx hy => (h 0 x y hx (by unfold prevI; rw [if_pos rfl]; exact hy)).symm⟩
theorem paid_snoc (r : RowD) (k : Int) : ∀ rs : List RowD, paidD (rs ++ [r]) k = paidD rs k + r.am * (r.ps.count k : Int)
  | [] => by
    show r.am * (r.ps.count k : Int) + 0 = 0 + r.am * (r.ps.count k : Int)
    omega
  | q :: rs => by
    have ih := paid_snoc r k rs
    show q.am * (q.ps.count k : Int) + paidD (rs ++ [r]) k = q.am * (q.ps.count k : Int) + paidD rs k + r.am * (r.ps.count k : Int)
    rw [ih]
    omega
def Small (rs : List RowD) : Prop := rs.length ≤ 200 ∧ ∀ r ∈ rs, r.ps.length ≤ 1000
end TA
namespace TA
open PySem PySem.Spec PyProof.Rows L2
/-! ### the text -/
def topS (i : Nat) : Stmt := PySem.Challenge.pw_touchall_k19_whole_none_costs_less.main.body.getD i (.Pass ⟨0, 0, 0, 0⟩)
/-- a def of the top as it stands -/
structure Std (K : PySem.W.Frag) (mg : Str → Option Value) (x : Str) (st : Stmt) (ps : List Str) : Prop where
  ex : ∃ f fd, Fun K x x st f fd ∧ mg x = some (.ref f) ∧ Binds K fd ps []
/-- a def that keeps a promise -/
structure Cal (P : Program) (w : World) (K : PySem.W.Frag) (mg : Str → Option Value) (base : Heap) (CX : CXT) (k : Nat) (x : Str) (ps : List Str) (sp : Sp) : Prop where
  ex : ∃ f fd, FnOk P w K mg base CX k f fd ps sp ∧ mg x = some (.ref f) ∧ PySem.W.keepIn K (.ref f) = true ∧ Binds K fd ps []
theorem Std.cal {P : Program} {w : World} {K : PySem.W.Frag} {mg : Str → Option Value} {base : Heap} {CX : CXT} {k : Nat} {x : Str} {st : Stmt} {ps : List Str} {sp : Sp} (S : Std K mg x st ps)
    (h : ∀ f fd, Fun K x x st f fd → FnOk P w K mg base CX k f fd ps sp) : Cal P w K mg base CX k x ps sp := by
  obtain ⟨f, fd, F, g, b⟩ := S.ex
  exact ⟨f, fd, h f fd F, g, F.kp, b⟩
section
variable {X : Cx} {CX : CXT} {k : Nat} {ps : List Str} {sp sp1 sp2 : Sp} {E : XK} {x x1 x2 : Str} {p pos : Pos} {e func : Expr} {es : List Expr} {t : TA} {tf : TE}
theorem pe_cal (C : Cal X.prog X.w X.K X.mg X.base CX k x ps sp) (hr : Room k X.A) (hg : Gl X x) (hx : Passes CX X E) (ha : PA X (e :: es) t) (hdb : (x == ("__debug__" : Str)) = false := by decide)
    (he : starEach (e :: es) X.env = (false, eval e X.env) :: starEach es X.env := by rfl) (hpl : (backTo pos (starEach es X.env)).any (·.1) = false := by rfl) :
    PE X (.Call (.Name x p) (e :: es) [] pos) (tCall sp [] E t) := by
  obtain ⟨f, fd, F, g, kp, b⟩ := C.ex
  exact pe_call F hr hg g kp b .nil hx ha hdb he hpl
/-- a call of what an expression gives, one of two defs -/
def tCall2 (f1 f2 : Addr) (sp1 sp2 : Sp) (E : XK) (tf : TE) (t : TA) : TE := fun σ H Q => tf σ H fun y H1 => (y = .ref f1 ∧ t σ H1 fun vs H2 => sp1 (vs ++ []) H2 Q E) ∨ (y = .ref f2 ∧ t σ H1 fun vs H2 => sp2 (vs ++ []) H2 Q E)
theorem pe_call2 {f1 f2 : Addr} {fd1 fd2 : FuncData} {ps1 ps2 : List Str} (F1 : FnOk X.prog X.w X.K X.mg X.base CX k f1 fd1 ps1 sp1) (F2 : FnOk X.prog X.w X.K X.mg X.base CX k f2 fd2 ps2 sp2) (k1 : PySem.W.keepIn X.K (.ref f1) = true) (k2 : PySem.W.keepIn X.K (.ref f2) = true)
    (b1 : Binds X.K fd1 ps1 []) (b2 : Binds X.K fd2 ps2 []) (hr : Room k X.A) (hx : Passes CX X E) (hf : PE X func tf) (ha : PA X (e :: es) t)
    (hc : eval (.Call func (e :: es) [] pos) X.env = (do callWith pos (← eval func X.env) [] (backTo pos (starEach (e :: es) X.env)) (backToKw pos (keywordEach [] X.env))) := by rfl)
    (he : starEach (e :: es) X.env = (false, eval e X.env) :: starEach es X.env := by rfl) (hpl : (backTo pos (starEach es X.env)).any (·.1) = false := by rfl) :
    PE X (.Call func (e :: es) [] pos) (tCall2 f1 f2 sp1 sp2 E tf t) := by
  refine ⟨fun pins s σ H Q I h => ?_⟩
  refine Call_ (thn (hf.run pins s σ H _ I h) fun v s1 ⟨y, H1, I1, r1, q1⟩ => ?_) hc
  rcases q1 with ⟨ey, q1⟩ | ⟨ey, q1⟩
  · subst ey
    cases r1
    refine PySem.W.callWith_K (h₀ := X.base) I.ok.mod.kin k1 (thn (ha.run pos pins s1 σ H1 _ I1 q1) fun us s2 ⟨vs, H2, I2, r2, q2⟩ => ⟨I2.kIn, ?_⟩) he hpl
    exact run_fn F1 hr b1 .nil hx I2 r2 q2
  · subst ey
    cases r1
    refine PySem.W.callWith_K (h₀ := X.base) I.ok.mod.kin k2 (thn (ha.run pos pins s1 σ H1 _ I1 q1) fun us s2 ⟨vs, H2, I2, r2, q2⟩ => ⟨I2.kIn, ?_⟩) he hpl
    exact run_fn F2 hr b2 .nil hx I2 r2 q2
end
/-! ### min(xs, default = d) -/
def rMinD (K : PySem.W.Frag) : List V → List V → Hp → VK → Prop := fun vs zs H Q => ∃ (a : Addr) (ns : List Int) (d : V), vs = [.ref a] ∧ zs = [d] ∧ SqL K H a (ns.map V.int) ∧ (ns = [] → Q d H) ∧ (∀ m, m ∈ ns → (∀ y, y ∈ ns → m ≤ y) → Q (.int m) H)
theorem cr_minD {X : Cx} (hc : X.calm = true) (hu : X.A.units + 64 < cLine) : CallRK X (.builtin "min") ["default"] (rMinD X.K) := by
  intro pins s σ H vs zs us ws Q I r1 r2 h
  obtain ⟨a, ns, d, rfl, rfl, hs, h0, h1⟩ := h
  obtain ⟨its, rv, hl, _⟩ := I.list hs
  obtain ⟨u, rfl, ru⟩ := Vals.one r2
  rw [Vals.ref1 r1]
  cases ns with
  | nil =>
    have e : its = [] := Vals.zero rv
    subst e
    refine PySem.W.min_list_datum_default (α := Int) (xs := []) (I.ok.hd hc) hl.isList PySem.W.HoldAll.nil (by show X.A.units + 1 + 0 < cLine; omega) (fun _ h' tk hk => ⟨d, H, I.kept hk, ru, h0 rfl⟩) fun y ys i v h' tk e => nomatch e
  | cons n ns =>
    refine PySem.W.min_list_datum_default (α := Int) (xs := n :: ns) (I.ok.hd hc) hl.isList (PySem.W.HoldAll.of_ints rv.ints) (by show X.A.units + 1 + 0 < cLine; omega) (fun e => nomatch e) fun y ys i v h' tk e _ hv hk => ?_
    obtain ⟨rfl, rfl⟩ := List.cons.inj e
    obtain ⟨t, rfl⟩ := PySem.W.int_of_holds hv
    have key : ∀ (l : List Int) (a : Int), (l.foldl (fun a y => if PySem.W.DatumOrd.lt y a = true then y else a) a ∈ a :: l) ∧ ∀ z ∈ a :: l, l.foldl (fun a y => if PySem.W.DatumOrd.lt y a = true then y else a) a ≤ z := by
      intro l
      induction l with
      | nil => exact fun a => ⟨List.mem_cons_self, fun z hz => by rw [List.mem_singleton.mp hz]; exact Int.le_refl _⟩
      | cons b l ih =>
        intro a
        rw [List.foldl_cons]
        by_cases hb : b < a
        · have hb' : PySem.W.DatumOrd.lt b a = true := decide_eq_true hb
          rw [if_pos hb']
          obtain ⟨i1, i2⟩ := ih b
          refine ⟨List.mem_cons_of_mem _ i1, fun z hz => ?_⟩
          rcases List.mem_cons.mp hz with rfl | hz
          · exact Int.le_trans (i2 b List.mem_cons_self) (Int.le_of_lt hb)
          · exact i2 z hz
        · have hb' : ¬ PySem.W.DatumOrd.lt b a = true := fun q => hb (of_decide_eq_true q)
          rw [if_neg hb']
          obtain ⟨i1, i2⟩ := ih a
          refine ⟨?_, fun z hz => ?_⟩
          · rcases List.mem_cons.mp i1 with q | q
            · rw [q]; exact List.mem_cons_self
            · exact List.mem_cons_of_mem _ (List.mem_cons_of_mem _ q)
          · rcases List.mem_cons.mp hz with rfl | hz
            · exact i2 z List.mem_cons_self
            · rcases List.mem_cons.mp hz with rfl | hz
              · exact Int.le_trans (i2 a List.mem_cons_self) (Int.not_lt.mp hb)
              · exact i2 z (List.mem_cons_of_mem _ hz)
    obtain ⟨k1, k2⟩ := key ns n
    exact ⟨.int _, H, I.kept hk, ⟨t, rfl⟩, h1 _ k1 k2⟩
/-! ### xs == [] -/
theorem shaped_list {ds : List PyData} (h : ∀ d ∈ ds, d.canLay0 = true ∧ d.depth ≤ 60) : SeqAt.shaped (.list ds) = true := by
  have a : ∀ ds : List PyData, (∀ d ∈ ds, d.canLay0 = true ∧ d.depth ≤ 60) → PyData.canLayAll0 ds = true ∧ PyData.depthAll ds ≤ 60 := by
    intro ds
    induction ds with
    | nil => exact fun _ => ⟨by simp only [PyData.canLayAll0], by simp only [PyData.depthAll]; omega⟩
    | cons d ds ih =>
      intro h
      obtain ⟨i1, i2⟩ := ih fun e he => h e (List.mem_cons_of_mem _ he)
      obtain ⟨j1, j2⟩ := h d List.mem_cons_self
      refine ⟨by simp only [PyData.canLayAll0, i1, j1, Bool.and_self], ?_⟩
      simp only [PyData.depthAll]
      exact Nat.max_le.mpr ⟨j2, i2⟩
  obtain ⟨a1, a2⟩ := a ds h
  unfold SeqAt.shaped
  rw [Bool.and_eq_true]
  refine ⟨by simp only [PyData.canLay0]; exact a1, decide_eq_true ?_⟩
  simp only [PyData.depth]
  omega
theorem dpall_length {K : PySem.W.Frag} {H : Hp} : ∀ {xs : List V} {ds : List PyData}, DpAll K H xs ds → xs.length = ds.length
  | _, _, .nil => rfl
  | _, _, .cons _ h => by rw [List.length_cons, List.length_cons, dpall_length h]
theorem eqv_nil {ds : List PyData} : PyData.eqv (.list ds) (.list []) = decide (ds.length = 0) := by
  cases ds with
  | nil => simp [PyData.eqv, PyData.eqvAll]
  | cons d ds => simp [PyData.eqv, PyData.eqvAll]
/-- x == [], x != [] -/
theorem eq_nil {K : PySem.W.Frag} {H : Hp} {a b : Addr} {xs : List V} {ds : List PyData} {Q : VK} (ha : SqL K H a xs) (hd : DpAll K H xs ds) (hs : ∀ d ∈ ds, d.canLay0 = true ∧ d.depth ≤ 60) (hb : SqL K H b []) (q : Q (.bl (decide (xs.length = 0))) H) : rEqD K (.ref a) (.ref b) H Q :=
  ⟨.list ds, .list [], .lst ha hd, .lst hb .nil, shaped_list hs, shaped_list (fun _ z => nomatch z), by rw [eqv_nil, ← (dpall_length hd)]; exact q⟩
theorem ne_nil {K : PySem.W.Frag} {H : Hp} {a b : Addr} {xs : List V} {ds : List PyData} {Q : VK} (ha : SqL K H a xs) (hd : DpAll K H xs ds) (hs : ∀ d ∈ ds, d.canLay0 = true ∧ d.depth ≤ 60) (hb : SqL K H b []) (q : Q (.bl (!decide (xs.length = 0))) H) : rNeD K (.ref a) (.ref b) H Q :=
  ⟨.list ds, .list [], .lst ha hd, .lst hb .nil, shaped_list hs, shaped_list (fun _ z => nomatch z), by rw [eqv_nil, ← (dpall_length hd)]; exact q⟩
/-! ### try: .. except (A, B): .. -/
def wTup2 (K : PySem.W.Frag) (c1 c2 : Value) (ts : Addr → Value → Option Addr → TS) (D : Ends) : WX := fun cls d σ H => PySem.W.exmAny K cls [c1, c2] = some true ∧ ∀ a, H a = none → ts a cls d D σ H
theorem flying_keeps {base h h' : Heap} {l : List Env} {e : Addr} {Z : Obj → Prop} (k : ∀ b o, h.get? b = some o → h'.get? b = some o) (x : HandSPX.FlyingZ base l e Z h) : HandSPX.FlyingZ base l e Z h' := by
  obtain ⟨k1, k2, k3, oe, vs, T, oT, ts, he, hz, hd, h1, hn, hne, hT, hdT, h3⟩ := x
  exact ⟨fun b o q => k b o (k1 b o q), k2, Heap.FunFrames.of_keeps (fun b o e _ => ⟨o, k b o e, rfl⟩) k3, oe, vs, T, oT, ts, k _ _ he, hz, hd, h1, hn, hne, k _ _ hT, hdT, h3⟩
section
variable {X : Cx} {x1 x2 : Str} {c1 c2 : Value} {body suite : List Stmt} {b₀ : Stmt} {p1 p2 tpos pos pos' : Pos} {kk : Nat} {tb : WX → TS} {ts : Addr → Value → Option Addr → TS}
theorem ps_try_tup2 (hs : X.stack = X.env :: X.outer) (hf : X.env.frame = some X.env.locals) (hg1 : Gl X x1) (hd1 : (x1 == ("__debug__" : Str)) = false) (hm1 : X.mg x1 = some c1) (hg2 : Gl X x2) (hd2 : (x2 == ("__debug__" : Str)) = false) (hm2 : X.mg x2 = some c2)
    (hb : ∀ (W : WX) (pn : List (Addr × Obj)) (xe : Value → Shared → Prop), Takes (X.tr pn xe) W → PassesOwn (model X.prog X.w) X.A X.env xe → PSs (X.tr pn xe) body (tb W))
    (hsu : ∀ (a : Addr) (oe : Obj) (cls : Value) (d : Option Addr) (pn : List (Addr × Obj)), Zc cls d oe → (∃ vs, oe.data = .fields vs) → PSs (X.suite a ((a, oe) :: pn)) (b₀ :: suite) (ts a cls d)) :
    PS X (.Try body [.ExceptHandler (some (.Tuple [.Name x1 p1, .Name x2 p2] kk tpos)) none (b₀ :: suite) pos'] [] [] pos) (fun D σ H => tb (wTup2 X.K c1 c2 ts D) D σ H) := by
  refine ⟨fun pins s σ H D I h => ?_⟩
  have ok := I.ok
  have hfr : X.A.frames = some (X.env :: X.outer) := by rw [ok.frames, hs]
  refine wpAny_Try_except ?_
  refine wpAny_mono ((hb (wTup2 X.K c1 c2 ts D) (X.pn ++ pins) (fun e s₁ => wpAny (model X.prog X.w) X.A (noteFrame e X.env) (fun _ s₂ => wpAny (model X.prog X.w) X.A (setFlight e none) (fun _ s₃ =>
    wpAny (model X.prog X.w) X.A (handleBy e X.env [.ExceptHandler (some (.Tuple [.Name x1 p1, .Name x2 p2] kk tpos)) none (b₀ :: suite) pos']) (SP X pins D) X.xe s₃) X.xe s₂) X.xe s₁) (fun u s' xx => ?_) PassesOwn.looking).run [] s σ H D (I.toTry _) h) (fun f s1 hsp => ?_) (fun e s1 he => he)
  · obtain ⟨a, B, sI, pins', σ', H', cls, d, rfl, J', nb, up, sky, na, os, ag, hx, hyes⟩ := xx
    have J : Inv X pins σ' H' sI := J'.ofTry ok
    have sky' : Sky B (X.env :: X.outer) a (Zc cls d) X.env.locals s'.heap := by rw [← hs]; exact sky
    show wpAny (model X.prog X.w) X.A (noteFrame (.ref a) X.env) _ _ _
    refine Sky.land Zc.steady hfr hf sky' fun h3 fl3 up3 => ?_
    have J3 : Inv X pins σ' H' { s' with heap := h3 } := J.landed nb fl3.1 (up.trans up3) os ag
    obtain ⟨oe3, vs3, he3, hz3, hd3⟩ := fl3.there
    have notFr : ∀ {h : Heap} {o : Obj} {vs : Array Value}, h.FunFrames B (X.env :: X.outer) → h.get? a = some o → o.data = .fields vs → a ∉ frs (X.env :: X.outer) := fun {h o vs} ff e dd hm => by
      obtain ⟨_, o', e', hnf⟩ := ff.mem hm
      rw [e] at e'; cases e'
      exact hnf _ dd
    have nfr := notFr fl3.2.2.1 he3 hd3
    have nL : a ≠ X.env.locals := fun z => nfr (List.mem_filterMap.mpr ⟨X.env, List.mem_cons_self, by rw [hf, z]⟩)
    have nF : a ∉ X.fs := fun hm => by
      obtain ⟨e, he, q⟩ := List.mem_filterMap.mp hm
      exact nfr (List.mem_filterMap.mpr ⟨e, List.mem_cons_of_mem _ he, q⟩)
    have S3 := J3.suite he3 hd3 na nL nF
    refine wpAny_handleBy_cons (codeAny_handlers_test ?_) (by intro q; cases q)
    refine Tuple_ (spliced_more (ld_glob (X := X.suite a ((a, oe3) :: (X.pn ++ pins))) S3 hg1 hm1 (spliced_more (ld_glob (X := X.suite a ((a, oe3) :: (X.pn ++ pins))) S3 hg2 hm2 (spliced_none ?_) hd2)) hd1))
    refine wpAny_newObj_type ?_
    have kp : ∀ b o, h3.get? b = some o → (h3.push { cls := .type "tuple", dict := none, data := .seq [c1, c2].toArray }).get? b = some o := fun b o e => Heap.get?_push_of_some _ e
    have fl3' := flying_keeps kp fl3
    have up3' : s'.heap.UpToSlots (h3.push { cls := .type "tuple", dict := none, data := .seq [c1, c2].toArray }) := up3.trans (Heap.UpToSlots.of_keeps kp)
    have J4 : Inv X pins σ' H' { s' with heap := h3.push { cls := .type "tuple", dict := none, data := .seq [c1, c2].toArray } } := J.landed nb fl3'.1 (up.trans up3') os ag
    have LT : PySem.W.Looks (model X.prog X.w) (h3.push { cls := .type "tuple", dict := none, data := .seq [c1, c2].toArray }) (typeOf (.ref a)) cls := fun A Q E s k q => wpAny_typeOf_ref (k _ _ (kp _ _ he3)) (by rw [hz3.1]; exact q)
    have LM := PySem.W.exm_tup2 (M := model X.prog X.w) (c1 := c1) (c2 := c2) (tp := h3.objs.size) (J4.kIn) LT (Heap.get?_push_size _ rfl) hx
    refine LM.here ?_
    refine codeAny_handlers_suite ?_
    refine HandSPX.lands_againZ fl3' fun h4 fl4 up4 => ?_
    have J5 : Inv X pins σ' H' { s' with heap := h4 } := J.landed nb fl4.1 ((up.trans up3').trans up4) os ag
    obtain ⟨oe4, vs4, he4, hz4, hd4⟩ := fl4.there
    have S4 := J5.suite he4 hd4 na nL nF
    refine wpAny_mono ((hsu a oe4 cls d (X.pn ++ pins) hz4 ⟨_, hd4⟩).run [] _ _ H' _ S4 (hyes a na)) (fun f s6 hsp => ?_) (fun _ _ z => False.elim z)
    cases f with
    | next =>
      obtain ⟨σ6, H6, S6, q6⟩ := hsp
      exact ⟨_, _, S6.unsuite ok, q6⟩
    | brk =>
      obtain ⟨σ6, H6, S6, q6⟩ := hsp
      exact ⟨_, _, S6.unsuite ok, q6⟩
    | cont =>
      obtain ⟨σ6, H6, S6, q6⟩ := hsp
      exact ⟨_, _, S6.unsuite ok, q6⟩
    | ret u =>
      obtain ⟨v6, σ6, H6, S6, r6, q6⟩ := hsp
      exact ⟨_, _, _, S6.unsuite ok, r6, q6⟩
  · cases f with
    | next =>
      obtain ⟨σ', H', J', q⟩ := hsp
      exact wpAny_execs_nil ⟨σ', H', J'.ofTry ok, q⟩
    | brk =>
      obtain ⟨σ', H', J', q⟩ := hsp
      exact ⟨σ', H', J'.ofTry ok, q⟩
    | cont =>
      obtain ⟨σ', H', J', q⟩ := hsp
      exact ⟨σ', H', J'.ofTry ok, q⟩
    | ret u =>
      obtain ⟨v, σ', H', J', r, q⟩ := hsp
      exact ⟨v, σ', H', J'.ofTry ok, r, q⟩
end
end TA
namespace TA
open PySem PySem.Spec PyProof.Rows L2
/-! ### heaps: what stands -/
/-- not a state of the drawing -/
def NSt (o : HO) : Prop := ∀ c s f, o ≠ .lst [.int c, .int s, .bl f]
def NDi (o : HO) : Prop := ∀ kvs, o ≠ .dK kvs
def StAt (H : Hp) (a : Addr) : Prop := ∃ c s f, H a = some (.lst [.int c, .int s, .bl f]) ∧ 0 ≤ s ∧ s < 2147483648
/-- all stands but states and what is at D -/
def Fr (D : Addr → Prop) (H H' : Hp) : Prop := ∀ b o, ¬ D b → NSt o → H b = some o → H' b = some o
abbrev Fr0 : Hp → Hp → Prop := Fr fun _ => False
abbrev Fr1 (p : Addr) : Hp → Hp → Prop := Fr fun b => b = p
/-- all stands but states and dicts -/
def Kq (H H' : Hp) : Prop := ∀ b o, NSt o → NDi o → H b = some o → H' b = some o
theorem Fr.refl {D : Addr → Prop} (H : Hp) : Fr D H H := fun _ _ _ _ e => e
theorem Fr.trans {D : Addr → Prop} {H H1 H2 : Hp} (a : Fr D H H1) (b : Fr D H1 H2) : Fr D H H2 := fun c o n s e => b c o n s (a c o n s e)
theorem Fr.of0 {D : Addr → Prop} {H H1 : Hp} (a : Fr0 H H1) : Fr D H H1 := fun c o _ s e => a c o (fun z => z) s e
theorem _root_.L2.Same.fr {D : Addr → Prop} {H H1 : Hp} (a : Same H H1) : Fr D H H1 := fun c o _ _ e => a c o e
theorem Kq.refl (H : Hp) : Kq H H := fun _ _ _ _ e => e
theorem Kq.trans {H H1 H2 : Hp} (a : Kq H H1) (b : Kq H1 H2) : Kq H H2 := fun c o n s e => b c o n s (a c o n s e)
theorem _root_.L2.Same.kq {H H1 : Hp} (a : Same H H1) : Kq H H1 := fun c o _ _ e => a c o e
theorem Fr.kq {H H1 : Hp} (a : Fr0 H H1) : Kq H H1 := fun c o n _ e => a c o (fun z => z) n e
theorem Fr.kq1 {H H1 : Hp} {p : Addr} {kvs : List (Key × V)} (a : Fr1 p H H1) (hp : H p = some (.dK kvs)) : Kq H H1 := fun c o n d e => a c o (fun z => by
  have z : c = p := z
  subst z
  rw [hp] at e
  exact d kvs (Option.some.inj e).symm) n e
theorem _root_.L2.Same.st {H H1 : Hp} {a : Addr} (h : Same H H1) (s : StAt H a) : StAt H1 a := by
  obtain ⟨c, x, f, e, q⟩ := s
  exact ⟨c, x, f, h _ _ e, q⟩
theorem same_new {H : Hp} {p : Addr} {o : HO} (h : H p = none) : Same H (upd H p o) := fun b x e => by
  rw [upd_ne (ne_of_none e h)]
  exact e
/-- a thing that was not there is changed -/
theorem _root_.L2.Same.mut {H H1 : Hp} {p : Addr} {o : HO} (s : Same H H1) (h : H p = none) : Same H (upd H1 p o) := fun b x e => by
  rw [upd_ne (ne_of_none e h)]
  exact s _ _ e
theorem Fr.mut {D : Addr → Prop} {H H1 : Hp} {p : Addr} {o : HO} (s : Fr D H H1) (h : H p = none) : Fr D H (upd H1 p o) := fun b x d n e => by
  rw [upd_ne (ne_of_none e h)]
  exact s _ _ d n e
theorem Fr.new {D : Addr → Prop} {H H1 : Hp} {p : Addr} {o : HO} (s : Fr D H H1) (h : H1 p = none) : Fr D H (upd H1 p o) := s.trans (Same.fr (same_new h))
/-- the state is changed -/
theorem Fr.setSt {D : Addr → Prop} {H : Hp} {a : Addr} {o : HO} (h : StAt H a) : Fr D H (upd H a o) := fun b x _ n e => by
  obtain ⟨c, y, f, ea, _⟩ := h
  rw [upd_ne (ne_of e ea (n c y f))]
  exact e
theorem nst_tup {xs : List V} : NSt (.tup xs) := fun _ _ _ z => by cases z
theorem ndi_tup {xs : List V} : NDi (.tup xs) := fun _ z => by cases z
theorem ndi_lst {xs : List V} : NDi (.lst xs) := fun _ z => by cases z
theorem nst_dK {kvs : List (Key × V)} : NSt (.dK kvs) := fun _ _ _ z => by cases z
theorem nst_ints {ns : List Int} : NSt (.lst (ns.map V.int)) := fun c s f z => by
  have e : ns.map V.int = [.int c, .int s, .bl f] := HO.lst.inj z
  have e2 := congrArg (fun l : List V => l[2]?) e
  simp only [List.getElem?_map] at e2
  cases h : ns[2]? with
  | none => rw [h] at e2; simp at e2
  | some v => rw [h] at e2; simp at e2
theorem nst_refs {xs : List V} (h : ∀ x ∈ xs, ∃ t, x = .ref t) : NSt (.lst xs) := fun c s f z => by
  have e : xs = [.int c, .int s, .bl f] := HO.lst.inj z
  obtain ⟨t, q⟩ := h (.int c) (by rw [e]; exact List.mem_cons_self)
  cases q
theorem nst_bls {bs : List Bool} : NSt (.lst (bs.map V.bl)) := fun c s f z => by
  have e : bs.map V.bl = [.int c, .int s, .bl f] := HO.lst.inj z
  cases bs with
  | nil => cases e
  | cons b r => cases e
/-! ### lists of things -/
theorem paired_snoc {α β : Type} {G : α → β → Prop} : ∀ {xs : List α} {ys : List β} {x : α} {y : β}, Paired G xs ys → G x y → Paired G (xs ++ [x]) (ys ++ [y])
  | _, _, _, _, .nil, h => .cons h .nil
  | _, _, _, _, .cons r t, h => .cons r (paired_snoc t h)
theorem paired_append {α β : Type} {G : α → β → Prop} : ∀ {xs zs : List α} {ys ws : List β}, Paired G xs ys → Paired G zs ws → Paired G (xs ++ zs) (ys ++ ws)
  | _, _, _, _, .nil, h => h
  | _, _, _, _, .cons r t, h => .cons r (paired_append t h)
theorem paired_left {α β : Type} {G : α → β → Prop} : ∀ {xs : List α} {ys : List β}, Paired G xs ys → ∀ x ∈ xs, ∃ y ∈ ys, G x y
  | _, _, .cons r t, x, h => by
    rcases List.mem_cons.mp h with rfl | h
    · exact ⟨_, List.mem_cons_self, r⟩
    · obtain ⟨y, hy, g⟩ := paired_left t x h
      exact ⟨y, List.mem_cons_of_mem _ hy, g⟩
theorem paired_at {α β : Type} {G : α → β → Prop} : ∀ {xs : List α} {ys : List β} {i : Nat} {y : β}, Paired G xs ys → ys[i]? = some y → ∃ x, xs[i]? = some x ∧ G x y
  | _, _, 0, _, .cons r _, h => ⟨_, rfl, Option.some.inj h ▸ r⟩
  | _, _, i + 1, y, .cons _ t, h => by
    obtain ⟨x, e, g⟩ := paired_at (i := i) (y := y) t (by simpa using h)
    exact ⟨x, by simpa using e, g⟩
theorem paired_take {α β : Type} {G : α → β → Prop} : ∀ {xs : List α} {ys : List β} (n : Nat), Paired G xs ys → Paired G (xs.take n) (ys.take n)
  | _, _, 0, _ => .nil
  | _, _, _ + 1, .nil => .nil
  | _, _, n + 1, .cons r t => .cons r (paired_take n t)
theorem paired_drop {α β : Type} {G : α → β → Prop} : ∀ {xs : List α} {ys : List β} (n : Nat), Paired G xs ys → Paired G (xs.drop n) (ys.drop n)
  | _, _, 0, r => r
  | _, _, _ + 1, .nil => .nil
  | _, _, n + 1, .cons _ t => paired_drop n t
/-- what one thing of a list is, in a heap -/
structure GOk {α : Type} (G : Hp → V → α → Prop) : Prop where
  ref : ∀ H x y, G H x y → ∃ t, x = .ref t
  mono : ∀ H H' x y, Kq H H' → G H x y → G H' x y
def ListOf {α : Type} (G : Hp → V → α → Prop) (H : Hp) (a : Addr) (l : List α) : Prop := ∃ xs, H a = some (.lst xs) ∧ Paired (G H) xs l
theorem refs_nst {α : Type} {G : Hp → V → α → Prop} (ok : GOk G) {H : Hp} {xs : List V} {l : List α} (h : Paired (G H) xs l) : NSt (.lst xs) := nst_refs fun x hx => by
  obtain ⟨y, _, g⟩ := paired_left h x hx
  exact ok.ref _ _ _ g
theorem ListOf.mono {α : Type} {G : Hp → V → α → Prop} (ok : GOk G) {H H' : Hp} {a : Addr} {l : List α} (k : Kq H H') (h : ListOf G H a l) : ListOf G H' a l := by
  obtain ⟨xs, e, p⟩ := h
  exact ⟨xs, k _ _ (refs_nst ok p) ndi_lst e, Paired.mapP p fun x y g => ok.mono _ _ _ _ k g⟩
def PairG (H : Hp) (x : V) (p : Pr) : Prop := ∃ t, x = .ref t ∧ H t = some (.tup [.int p.1, .int p.2])
def SetG (H : Hp) (x : V) (S : List Int) : Prop := ∃ t, x = .ref t ∧ H t = some (.lst (S.map V.int))
def wdS (b : Bool) : Str := if b = true then "all" else "ring"
def RowG (H : Hp) (x : V) (r : RowD) : Prop := ∃ t l, x = .ref t ∧ H t = some (.tup [.str (wdS r.wd), .ref l, .int r.am]) ∧ H l = some (.lst (r.ps.map V.int))
theorem pairG : GOk PairG := ⟨fun _ _ _ ⟨t, e, _⟩ => ⟨t, e⟩, fun _ _ _ _ k ⟨t, e, q⟩ => ⟨t, e, k _ _ nst_tup ndi_tup q⟩⟩
theorem setG : GOk SetG := ⟨fun _ _ _ ⟨t, e, _⟩ => ⟨t, e⟩, fun _ _ _ _ k ⟨t, e, q⟩ => ⟨t, e, k _ _ nst_ints ndi_lst q⟩⟩
theorem rowG : GOk RowG := ⟨fun _ _ _ ⟨t, _, e, _⟩ => ⟨t, e⟩, fun _ _ _ _ k ⟨t, l, e, q, z⟩ => ⟨t, l, e, k _ _ nst_tup ndi_tup q, k _ _ nst_ints ndi_lst z⟩⟩
abbrev PairsAt := ListOf PairG
abbrev SetsAt := ListOf SetG
abbrev RowsAt := ListOf RowG
def IntsAt (H : Hp) (a : Addr) (ns : List Int) : Prop := H a = some (.lst (ns.map V.int))
theorem IntsAt.mono {H H' : Hp} {a : Addr} {ns : List Int} (k : Kq H H') (h : IntsAt H a ns) : IntsAt H' a ns := k _ _ nst_ints ndi_lst h
def WebAt (H : Hp) (w : Addr) (ps ts : List Pr) : Prop := ∃ a b, H w = some (.tup [.ref a, .ref b]) ∧ PairsAt H a ps ∧ PairsAt H b ts
theorem WebAt.mono {H H' : Hp} {w : Addr} {ps ts : List Pr} (k : Kq H H') (h : WebAt H w ps ts) : WebAt H' w ps ts := by
  obtain ⟨a, b, e, p, q⟩ := h
  exact ⟨a, b, k _ _ nst_tup ndi_tup e, p.mono pairG k, q.mono pairG k⟩
/-- a dict of the places near each place -/
def BookAt (H : Hp) (d : Addr) (ps ts : List Pr) : Prop := ∃ kvs : List (Key × V), H d = some (.dK kvs) ∧
  (∀ k, k ∈ keys ps → ∃ (l : Addr) (ns : List Int), valV kvs (Sum.inl k) = some (.ref l) ∧ H l = some (.lst (ns.map V.int)) ∧ ns.length ≤ 1000 ∧ ∀ q, q ∈ ns ↔ Tied ts k q) ∧ ∀ k, ¬ k ∈ keys ps → valV kvs (Sum.inl k) = none
theorem BookAt.mono {H H' : Hp} {d : Addr} {ps ts : List Pr} (k : Kq H H') (hd : ∀ o, H d = some o → NSt o → H' d = some o) (h : BookAt H d ps ts) : BookAt H' d ps ts := by
  obtain ⟨kvs, e, h1, h2⟩ := h
  refine ⟨kvs, hd _ e nst_dK, fun x hx => ?_, h2⟩
  obtain ⟨l, ns, e1, e2, e3⟩ := h1 x hx
  exact ⟨l, ns, e1, k _ _ nst_ints ndi_lst e2, e3⟩
theorem BookAt.same {H H' : Hp} {d : Addr} {ps ts : List Pr} (k : Same H H') (h : BookAt H d ps ts) : BookAt H' d ps ts := h.mono k.kq fun _ e _ => k _ _ e
theorem BookAt.fr {H H' : Hp} {d : Addr} {ps ts : List Pr} (k : Fr0 H H') (h : BookAt H d ps ts) : BookAt H' d ps ts := h.mono k.kq fun _ e n => k _ _ (fun z => z) n e
/-- a dict of numbers, nought where it has none -/
def PaidAt (H : Hp) (d : Addr) (f : Int → Int) (n : Nat) : Prop := ∃ kvs : List (Key × V), H d = some (.dK kvs) ∧ kvs.length ≤ n ∧ ∀ k, (valV kvs (Sum.inl k)).getD (.int 0) = .int (f k)
/-- what a web must be -/
structure WebOk (ps ts : List Pr) : Prop where
  len : ps.length ≤ 7
  up : ps.Pairwise fun a b => a.1 < b.1
  pl : ∀ p ∈ ps, 0 ≤ p.1 ∧ p.1 ≤ 999 ∧ 1 ≤ p.2 ∧ p.2 ≤ 1000000000
  tlen : ts.length ≤ 49
  tup : ts.Pairwise lexP
  ti : ∀ t ∈ ts, t.1 < t.2 ∧ t.1 ∈ keys ps ∧ t.2 ∈ keys ps
theorem WebOk.nd {ps ts : List Pr} (w : WebOk ps ts) : (keys ps).Nodup := by
  have h := w.up
  unfold keys List.Nodup
  rw [List.pairwise_map]
  exact h.imp fun q => by omega
/-! ### the built-in names and the constants -/
structure Glb (mg : Str → Option Value) : Prop where
  len : mg "len" = none
  sum : mg "sum" = none
  all : mg "all" = none
  sorted : mg "sorted" = none
  max : mg "max" = none
  min : mg "min" = none
  int : mg "int" = none
  list : mg "list" = none
  tuple : mg "tuple" = none
  str : mg "str" = none
  bool : mg "bool" = none
  isinstance : mg "isinstance" = none
  enumerate : mg "enumerate" = none
  range : mg "range" = none
  cMP : ∃ t, mg "MOST_PLACES" = some (.int 40 t)
  cMT : ∃ t, mg "MOST_TIES" = some (.int 120 t)
  cLP : ∃ t, mg "LAST_PLACE" = some (.int 999 t)
  cPR : ∃ t, mg "MOST_PRICES" = some (.int 1000000000000 t)
  cMR : ∃ t, mg "MOST_ROWS" = some (.int 200 t)
/-! ### small words -/
theorem isi_of {K : PySem.W.Frag} {H : Hp} {x : V} {s t : String} {b : Bool} {Q : VK} (ty : TyX K H x (.type s)) (e : kitB s t = some b) (q : Q (.bl b) H) : rIsi K [x, .ty t] H Q := ⟨x, .ty t, .type s, .type t, b, rfl, .ty t, ty, kit_ty e, q⟩
theorem ix2_0 {x y : V} : atI [x, y] 0 = some x := rfl
theorem ix2_1 {x y : V} : atI [x, y] 1 = some y := rfl
theorem small_sz {n : Nat} (h : n ≤ 1000000) : n ≤ sizeLine := by rw [sizeLine_eq]; omega
theorem small_lt {n : Nat} (h : n ≤ 1000000) : n < sizeLine := by rw [sizeLine_eq]; omega
end TA
namespace TA
open PySem PySem.Spec PyProof.Rows L2
/-! ### rules with the written part named (in a comprehension's block) -/
theorem ix_tupK {X : Cx} {K : PySem.W.Frag} (h : X.K = K) : IxR X (rIxT K) := h ▸ ix_tup
theorem ix_listK {X : Cx} {K : PySem.W.Frag} (h : X.K = K) : IxR X (rIxL K) := h ▸ ix_list
theorem op_in_seqK {X : Cx} {K : PySem.W.Frag} (h : X.K = K) : OpR X (compareOp .In) (rIn K false) := h ▸ op_in_seq
theorem op_notIn_seqK {X : Cx} {K : PySem.W.Frag} (h : X.K = K) : OpR X (compareOp .NotIn) (rIn K true) := h ▸ op_notIn_seq
end TA
namespace TA
open PySem PySem.Spec PyProof.Rows L2
theorem pg_tupK {X : Cx} {K : PySem.W.Frag} (hK : X.K = K) {es : List Expr} {k : Nat} {pos : Pos} {t : TGs} {n : Nat} (hc : X.calm = true) (h : PGs X es t)
    (hn : (assignEach es X.env).length = n := by rfl) (hst : (assignEach es X.env).findIdx? (·.1) = none := by rfl) : PG X (.Tuple es k pos) (gTup K n t) := hK ▸ pg_tup hc h hn hst
theorem pe_calS {X : Cx} {CX : CXT} {k : Nat} {ps : List Str} {sp : Sp} {E : L2.St → XK} {x : Str} {p pos : Pos} {e : Expr} {es : List Expr} {t : TA} (C : Cal X.prog X.w X.K X.mg X.base CX k x ps sp) (hr : Room k X.A) (hg : Gl X x) (hx : ∀ σ, PassesAt CX X σ (E σ)) (ha : PA X (e :: es) t)
    (hdb : (x == ("__debug__" : Str)) = false := by decide) (he : starEach (e :: es) X.env = (false, eval e X.env) :: starEach es X.env := by rfl) (hpl : (backTo pos (starEach es X.env)).any (·.1) = false := by rfl) :
    PE X (.Call (.Name x p) (e :: es) [] pos) (tCallS sp E t) := by
  obtain ⟨f, fd, F, g, kp, b⟩ := C.ex
  exact pe_callS F hr hg g kp b hx ha hdb he hpl
end TA
namespace TA
open PySem PySem.Spec PyProof.Rows L2
theorem ifT {c : Bool} {A B : Prop} (hc : c = true) (h : A) : if c = true then A else B := by
  rw [if_pos hc]
  exact h
theorem ifF {c : Bool} {A B : Prop} (hc : c = false) (h : B) : if c = true then A else B := by
  rw [hc, if_neg Bool.false_ne_true]
  exact h
theorem blT {c : Prop} [Decidable c] {Q : VK} {H : Hp} (h : c) (q : Q (.bl true) H) : Q (.bl (decide c)) H := by
  rw [decide_eq_true h]
  exact q
section
variable {P : Program} {w : World} {K : PySem.W.Frag} {mg : Str → Option Value} {base : Heap}
/-! ### is_whole, is_pair -/
/- is_whole: slots 0:thing; calls  -/
abbrev sis_whole : Stmt := topS 11
abbrev nis_whole : List Str := ["thing"]
theorem scis_whole : FnScope nis_whole ["thing"] (defScope sis_whole) := ⟨rfl, rfl, rfl, by decide +kernel, rfl, by decide +kernel, by decide +kernel⟩
def spis_whole : Sp := fun vs H Q _ => ∃ i : Int, vs = [.int i] ∧ Q (.bl true) H
theorem okis_whole (G : Glb mg) (S : Std K mg "is_whole" sis_whole ["thing"]) : Cal P w K mg base CX0 1 "is_whole" ["thing"] spis_whole := S.cal fun f fd F => by
  refine F.ok scis_whole (fun vs H Q E h => ?_) (fun cdv A outer s H vs Q E hr h => ?_)
  · obtain ⟨i, rfl, _⟩ := h
    rfl
  · obtain ⟨i, rfl, q⟩ := h
    refine ⟨_, (pss_one (ps_ret (pe_and (pe_callB call_isi (by rfl) G.isinstance (by decide +kernel) (pa_cons (pv 0) (pa_cons (pe_bltn (v := .ty "int") (by rfl) G.int (by decide +kernel) rfl) pa_nil))) (pe_one (pe_not (pe_callB call_isi (by rfl) G.isinstance (by decide +kernel) (pa_cons (pv 0) (pa_cons (pe_bltn (v := .ty "bool") (by rfl) G.bool (by decide +kernel) rfl) pa_nil)))))))), ?_⟩
    exact ⟨_, rfl, _, _, _, _, true, rfl, .ty _, .base (.int i), kit_ty (by decide +kernel), true, rfl, iteT ⟨_, rfl, _, _, _, _, false, rfl, .ty _, .base (.int i), kit_ty (by decide +kernel), false, rfl, q⟩⟩
/- is_pair: slots 0:thing; calls is_whole -/
abbrev sis_pair : Stmt := topS 12
abbrev nis_pair : List Str := ["thing"]
theorem scis_pair : FnScope nis_pair ["thing"] (defScope sis_pair) := ⟨rfl, rfl, rfl, by decide +kernel, rfl, by decide +kernel, by decide +kernel⟩
def spis_pair : Sp := fun vs H Q _ => ∃ (t : Addr) (a b : Int), vs = [.ref t] ∧ H t = some (.tup [.int a, .int b]) ∧ Q (.bl true) H
theorem okis_pair (G : Glb mg) (S : Std K mg "is_pair" sis_pair ["thing"]) (Cis_whole : Cal P w K mg base CX0 1 "is_whole" ["thing"] spis_whole) : Cal P w K mg base CX0 2 "is_pair" ["thing"] spis_pair := S.cal fun f fd F => by
  refine F.ok scis_pair (fun vs H Q E h => ?_) (fun cdv A outer s H vs Q E hr h => ?_)
  · obtain ⟨t, a, b, rfl, _⟩ := h
    rfl
  · obtain ⟨t, a, b, rfl, ht, q⟩ := h
    refine ⟨_, (pss_one (ps_ret (pe_and (pe_callB call_isi (by rfl) G.isinstance (by decide +kernel) (pa_cons (pv 0) (pa_cons (pe_bltn (v := .ty "tuple") (by rfl) G.tuple (by decide +kernel) rfl) pa_nil))) (pe_and (pe_cmpR op_eq (pe_callB call_len_seq (by rfl) G.len (by decide +kernel) (pa_cons (pv 0) pa_nil)) pe_int (nomark _)) (pe_and (pe_cal Cis_whole (hr.mono (by decide)) (by rfl) pass0 (pa_cons (pe_ix ix_tup (pv 0) pe_int (fun _ _ => rfl)) pa_nil)) (pe_one (pe_cal Cis_whole (hr.mono (by decide)) (by rfl) pass0 (pa_cons (pe_ix ix_tup (pv 0) pe_int (fun _ _ => rfl)) pa_nil)))))))), ?_⟩
    refine ⟨_, rfl, _, _, _, _, true, rfl, .ty _, .base (.tup ht), kit_ty (by decide +kernel), true, rfl, iteT ?_⟩
    refine ⟨_, rfl, t, _, rfl, .inr (SqT.of ht), rfl, true, rfl, iteT ?_⟩
    refine ⟨_, rfl, t, _, 0, _, rfl, rfl, SqT.of ht, rfl, a, rfl, true, rfl, iteT ?_⟩
    exact ⟨_, rfl, t, _, 1, _, rfl, rfl, SqT.of ht, rfl, b, rfl, q⟩
/-! ### places, ties -/
/- place_stands: slots 0:thing 1:last 2:paid; calls is_pair -/
abbrev splace_stands : Stmt := topS 13
abbrev nplace_stands : List Str := ["thing", "last", "paid"]
theorem scplace_stands : FnScope nplace_stands ["thing", "last", "paid"] (defScope splace_stands) := ⟨rfl, rfl, rfl, by decide +kernel, rfl, by decide +kernel, by decide +kernel⟩
def spplace_stands : Sp := fun vs H Q _ => ∃ (t : Addr) (a b last paid : Int), vs = [.ref t, .int last, .int paid] ∧ H t = some (.tup [.int a, .int b]) ∧ last < a ∧ a ≤ 999 ∧ 1 ≤ b ∧ b ≤ 1000000000000 - paid ∧ Q (.bl true) H
theorem okplace_stands (G : Glb mg) (S : Std K mg "place_stands" splace_stands ["thing", "last", "paid"]) (Cis_pair : Cal P w K mg base CX0 2 "is_pair" ["thing"] spis_pair) : Cal P w K mg base CX0 3 "place_stands" ["thing", "last", "paid"] spplace_stands := S.cal fun f fd F => by
  refine F.ok scplace_stands (fun vs H Q E h => ?_) (fun cdv A outer s H vs Q E hr h => ?_)
  · obtain ⟨t, a, b, l, p, rfl, _⟩ := h
    rfl
  · obtain ⟨t, a, b, l, p, rfl, ht, h1, h2, h3, h4, q⟩ := h
    obtain ⟨_, cLAST_PLACE⟩ := G.cLP
    obtain ⟨_, cMOST_PRICES⟩ := G.cPR
    refine ⟨_, (pss_cons (ps_if (pt_not (pt_val (pe_cal Cis_pair (hr.mono (by decide)) (by rfl) pass0 (pa_cons (pv 0) pa_nil)))) (pss_one (ps_ret pe_bl)) pss_nil)
      (pss_one (ps_ret (pe_and (pe_chain op_lt op_le (pv 1) (pe_ix ix_tup (pv 0) pe_int (fun _ _ => rfl)) (pe_glob (v := .int 999) (by rfl) cLAST_PLACE ⟨_, rfl⟩)) (pe_one (pe_chain op_le op_le pe_int (pe_ix ix_tup (pv 0) pe_int (fun _ _ => rfl)) (pe_op op_sub (pe_glob (v := .int 1000000000000) (by rfl) cMOST_PRICES ⟨_, rfl⟩) (pv 2)))))))), ?_⟩
    refine ⟨_, rfl, t, a, b, rfl, ht, true, rfl, iteF ?_⟩
    refine ⟨_, rfl, _, rfl, t, _, 0, _, rfl, rfl, SqT.of ht, rfl, _, _, rfl, rfl, _, rfl, ifT (decide_eq_true h1) ?_⟩
    refine ⟨_, _, rfl, rfl, _, rfl, ifT (decide_eq_true h2) ?_⟩
    refine ⟨_, rfl, t, _, 1, _, rfl, rfl, SqT.of ht, rfl, _, _, rfl, rfl, _, rfl, ifT (decide_eq_true h3) ?_⟩
    exact ⟨_, rfl, _, _, rfl, rfl, _, _, rfl, rfl, blT h4 q⟩
end
end TA
namespace TA
open PySem PySem.Spec PyProof.Rows L2
theorem eqI {i j : Int} (h : i = j) : decide (V.int i = V.int j) = true := decide_eq_true (by rw [h])
theorem eqI' {i j : Int} (h : i ≠ j) : decide (V.int i = V.int j) = false := decide_eq_false fun z => h (V.int.inj z)
theorem neI {i j : Int} (h : i = j) : (!decide (V.int i = V.int j)) = false := by rw [eqI h]; rfl
theorem neI' {i j : Int} (h : i ≠ j) : (!decide (V.int i = V.int j)) = true := by rw [eqI' h]; rfl
theorem lof_at {α : Type} {G : Hp → V → α → Prop} {H : Hp} {xs : List V} {l : List α} (h : Paired (G H) xs l) {i : Nat} {x : V} (e : xs[i]? = some x) : ∃ y, l[i]? = some y ∧ G H x y := paired_get h e
/-- a dict of the places' prices -/
def Pri (kvs : List (Key × V)) (ps : List Pr) : Prop := (∀ p ∈ ps, valV kvs (Sum.inl p.1) = some (.int p.2)) ∧ ∀ k : Int, ¬ k ∈ keys ps → valV kvs (Sum.inl k) = none
theorem pri_nil : Pri [] [] := ⟨(fun _ h => nomatch h), fun _ _ => valV_nil⟩
theorem inl_ne {k j : Int} (h : k ≠ j) : (Sum.inl k : Key) ≠ Sum.inl j := fun e => h (Sum.inl.inj e)
theorem pri_snoc {kvs : List (Key × V)} {ps : List Pr} {p : Pr} (h : Pri kvs ps) (hn : ¬ p.1 ∈ keys ps) : Pri (putK kvs (Sum.inl p.1) (.int p.2)) (ps ++ [p]) := by
  obtain ⟨h1, h2⟩ := h
  refine ⟨fun q hq => ?_, fun k hk => ?_⟩
  · rw [valV_put]
    rcases List.mem_append.mp hq with hq | hq
    · rw [if_neg (inl_ne fun e => hn (by rw [← e]; exact mem_keys hq))]
      exact h1 q hq
    · rw [List.mem_singleton.mp hq, if_pos rfl]
  · rw [keys_snoc] at hk
    rw [valV_put, if_neg (inl_ne fun e => hk (List.mem_append_right _ (by rw [e]; exact List.mem_singleton.mpr rfl)))]
    exact h2 k fun z => hk (List.mem_append_left _ z)
theorem Pri.isSome {kvs : List (Key × V)} {ps : List Pr} (h : Pri kvs ps) {k : Int} (hk : k ∈ keys ps) : (valV kvs (Sum.inl k)).isSome = true := by
  obtain ⟨p, hp, e⟩ := of_keys hk
  rw [← e, h.1 p hp]
  rfl
def PriceAt (H : Hp) (d : Addr) (ps : List Pr) : Prop := ∃ kvs, H d = some (.dK kvs) ∧ Pri kvs ps
theorem lex_of {x y a b : Int} (h : lexP (x, y) (a, b)) : HT.lexLt [x, y] [a, b] = true := by
  show (if x = a then (if y = b then HT.lexLt [] [] else decide (y < b)) else decide (x < a)) = true
  rcases h with h | ⟨h1, h2⟩
  · have h : x < a := h
    rw [if_neg (by omega), decide_eq_true h]
  · have h1 : x = a := h1
    have h2 : y < b := h2
    rw [if_pos h1, if_neg (by omega), decide_eq_true h2]
section
variable {P : Program} {w : World} {K : PySem.W.Frag} {mg : Str → Option Value} {base : Heap}
/- tie_stands: slots 0:thing 1:before 2:known; calls is_pair -/
abbrev stie_stands : Stmt := topS 14
abbrev ntie_stands : List Str := ["thing", "before", "known"]
theorem sctie_stands : FnScope ntie_stands ["thing", "before", "known"] (defScope stie_stands) := ⟨rfl, rfl, rfl, by decide +kernel, rfl, by decide +kernel, by decide +kernel⟩
def sptie_stands : Sp := fun vs H Q _ => ∃ (t b d : Addr) (p q : Pr) (kvs : List (Key × V)), vs = [.ref t, .ref b, .ref d] ∧ H t = some (.tup [.int p.1, .int p.2]) ∧ H b = some (.tup [.int q.1, .int q.2]) ∧ H d = some (.dK kvs) ∧
  p.1 < p.2 ∧ (valV kvs (Sum.inl p.1)).isSome = true ∧ (valV kvs (Sum.inl p.2)).isSome = true ∧ lexP q p ∧ Q (.bl true) H
theorem oktie_stands (G : Glb mg) (S : Std K mg "tie_stands" stie_stands ["thing", "before", "known"]) (Cis_pair : Cal P w K mg base CX0 2 "is_pair" ["thing"] spis_pair) : Cal P w K mg base CX0 3 "tie_stands" ["thing", "before", "known"] sptie_stands := S.cal fun f fd F => by
  refine F.ok sctie_stands (fun vs H Q E h => ?_) (fun cdv A outer s H vs Q E hr h => ?_)
  · obtain ⟨t, b, d, p, q, kvs, rfl, _⟩ := h
    rfl
  · obtain ⟨t, b, d, p, q, kvs, rfl, ht, hb, hd, h1, h2, h3, h4, k⟩ := h
    refine ⟨_, (pss_cons (ps_if (pt_not (pt_val (pe_cal Cis_pair (hr.mono (by decide)) (by rfl) pass0 (pa_cons (pv 0) pa_nil)))) (pss_one (ps_ret pe_bl)) pss_nil)
      (pss_one (ps_ret (pe_and (pe_cmpR op_lt (pe_ix ix_tup (pv 0) pe_int (fun _ _ => rfl)) (pe_ix ix_tup (pv 0) pe_int (fun _ _ => rfl)) (nomark _)) (pe_and (pe_cmp (pc_din (hu_of hr) (pe_ix ix_tup (pv 0) pe_int (fun _ _ => rfl)) (pv 2))) (pe_and (pe_cmp (pc_din (hu_of hr) (pe_ix ix_tup (pv 0) pe_int (fun _ _ => rfl)) (pv 2))) (pe_one (pe_cmpR (op_ltT hr.units0) (pv 1) (pv 0) (nomark _))))))))), ?_⟩
    refine ⟨_, rfl, t, _, _, rfl, ht, true, rfl, iteF ?_⟩
    refine ⟨_, rfl, t, _, 0, _, rfl, rfl, SqT.of ht, rfl, _, rfl, t, _, 1, _, rfl, rfl, SqT.of ht, rfl, _, _, rfl, rfl, _, rfl, ifT (decide_eq_true h1) ?_⟩
    refine ⟨_, rfl, t, _, 0, _, rfl, rfl, SqT.of ht, rfl, _, rfl, d, _, rfl, DGet.k (k := Sum.inl p.1) hd, _, rfl, ifT h2 ?_⟩
    refine ⟨_, rfl, t, _, 1, _, rfl, rfl, SqT.of ht, rfl, _, rfl, d, _, rfl, DGet.k (k := Sum.inl p.2) hd, _, rfl, ifT h3 ?_⟩
    refine ⟨_, rfl, _, rfl, b, t, [q.1, q.2], [p.1, p.2], rfl, rfl, SqT.of hb, SqT.of ht, ?_⟩
    rw [lex_of h4]
    exact k
/- bad_place: slots 0:things 1:last 2:paid 3:k 4:thing; calls place_stands -/
abbrev sbad_place : Stmt := topS 15
abbrev nbad_place : List Str := ["things", "last", "paid", "k", "thing"]
theorem scbad_place : FnScope nbad_place ["things"] (defScope sbad_place) := ⟨rfl, rfl, rfl, by decide +kernel, rfl, by decide +kernel, by decide +kernel⟩
def spbad_place : Sp := fun vs H Q _ => ∃ (a : Addr) (ps : List Pr), vs = [.ref a] ∧ PairsAt H a ps ∧ PlOk (-1) 0 ps ∧ ∀ H', Same H H' → Q .non H'
theorem okbad_place (G : Glb mg) (S : Std K mg "bad_place" sbad_place ["things"]) (Cplace_stands : Cal P w K mg base CX0 3 "place_stands" ["thing", "last", "paid"] spplace_stands) : Cal P w K mg base CX0 4 "bad_place" ["things"] spbad_place := S.cal fun f fd F => by
  refine F.ok scbad_place (fun vs H Q E h => ?_) (fun cdv A outer s H vs Q E hr h => ?_)
  · obtain ⟨a, ps, rfl, _⟩ := h
    rfl
  · obtain ⟨a, ps, rfl, ⟨xs, ha, hp⟩, hok, k⟩ := h
    refine ⟨_, (pss_cons (ps_set (i := 1) scbad_place.nd rfl (Or.inl rfl) (pe_un un_neg pe_int))
      (pss_cons (ps_set (i := 2) scbad_place.nd rfl (Or.inl rfl) pe_int)
      (pss_cons (ps_for PassesOwn.never rfl (pi_enum (by rfl) G.enumerate (pa_cons (pv 0) pa_nil)) (pg_tup (by rfl) (pgs_cons (pg_name (i := 3) scbad_place.nd rfl (Or.inl rfl)) (pgs_cons (pg_name (i := 4) scbad_place.nd rfl (Or.inl rfl)) pgs_nil))) (pss_cons (ps_if (pt_not (pt_val (pe_cal Cplace_stands (hr.mono (by decide)) (by rfl) pass0 (pa_cons (pv 4) (pa_cons (pv 1) (pa_cons (pv 2) pa_nil)))))) (pss_one (ps_ret (pv 3))) pss_nil)
      (pss_cons (ps_set (i := 1) scbad_place.nd rfl (Or.inl rfl) (pe_ix ix_tup (pv 4) pe_int (fun _ _ => rfl)))
      (pss_one (ps_set (i := 2) scbad_place.nd rfl (Or.inl rfl) (pe_op op_add (pv 2) (pe_ix ix_tup (pv 4) pe_int (fun _ _ => rfl))))))))
      (pss_one (ps_ret pe_non))))), ?_⟩
    refine ⟨1, rfl, _, rfl, a, xs, rfl, SqL.of ha, for_it walk_enum (fun i σ H' => ∃ (l p : Int) (y3 y4 : Option V), σ = [some (.ref a), some (.int l), some (.int p), y3, y4] ∧ Same H H' ∧ PlOk l p (ps.drop i))
      ⟨-1, 0, none, none, rfl, Same.refl H, hok⟩ (fun i σ H' _ ⟨_, _, _, _, _, s5, _⟩ => s5.seq (SqL.of ha)) ?_ ?_⟩
    · rintro i x σ H1 H2 hi ⟨l, p, y3, y4, rfl, sm, hpl⟩ ⟨T, x1, x2, rfl, nT, rfl, e1, e2⟩
      obtain rfl := Option.some.inj e1
      obtain ⟨q, hq, t, rfl, ht⟩ := lof_at hp e2
      rw [drop_at hq] at hpl
      obtain ⟨p1, p2, p3, p4, p5⟩ := hpl
      have s2 : Same H (upd H1 T (.tup [.int (i : Nat), .ref t])) := sm.trans (same_new nT)
      have ht2 := s2 _ _ ht
      refine ⟨T, _, rfl, SqT.of upd_same, rfl, _, _, rfl, _, _, rfl, rfl, ?_⟩
      refine ⟨_, rfl, _, rfl, _, rfl, t, q.1, q.2, l, p, rfl, ht2, p1, p2, p3, p4, true, rfl, iteF ?_⟩
      refine ⟨_, rfl, t, _, 0, _, rfl, rfl, SqT.of ht2, rfl, ?_⟩
      refine ⟨_, rfl, _, rfl, t, _, 1, _, rfl, rfl, SqT.of ht2, rfl, _, _, rfl, rfl, ?_⟩
      exact ⟨_, _, _, _, rfl, s2, p5⟩
    · rintro σ H1 ⟨l, p, y3, y4, rfl, sm, _⟩
      exact k _ sm
/- bad_tie: slots 0:things 1:known 2:before 3:k 4:thing; calls tie_stands -/
abbrev sbad_tie : Stmt := topS 16
abbrev nbad_tie : List Str := ["things", "known", "before", "k", "thing"]
theorem scbad_tie : FnScope nbad_tie ["things", "known"] (defScope sbad_tie) := ⟨rfl, rfl, rfl, by decide +kernel, rfl, by decide +kernel, by decide +kernel⟩
def spbad_tie : Sp := fun vs H Q _ => ∃ (a d : Addr) (ps ts : List Pr) (kvs : List (Key × V)), vs = [.ref a, .ref d] ∧ PairsAt H a ts ∧ H d = some (.dK kvs) ∧ (∀ x ∈ keys ps, (valV kvs (Sum.inl x)).isSome = true) ∧ TiOk ps (-1, -1) ts ∧ ∀ H', Same H H' → Q .non H'
theorem okbad_tie (G : Glb mg) (S : Std K mg "bad_tie" sbad_tie ["things", "known"]) (Ctie_stands : Cal P w K mg base CX0 3 "tie_stands" ["thing", "before", "known"] sptie_stands) : Cal P w K mg base CX0 4 "bad_tie" ["things", "known"] spbad_tie := S.cal fun f fd F => by
  refine F.ok scbad_tie (fun vs H Q E h => ?_) (fun cdv A outer s H vs Q E hr h => ?_)
  · obtain ⟨a, d, ps, ts, kvs, rfl, _⟩ := h
    rfl
  · obtain ⟨a, d, ps, ts, kvs, rfl, ⟨xs, ha, hp⟩, hd, hk, hok, k⟩ := h
    refine ⟨_, (pss_cons (ps_set (i := 2) scbad_tie.nd rfl (Or.inl rfl) (pe_tup (pa_cons (pe_un un_neg pe_int) (pa_cons (pe_un un_neg pe_int) pa_nil))))
      (pss_cons (ps_for PassesOwn.never rfl (pi_enum (by rfl) G.enumerate (pa_cons (pv 0) pa_nil)) (pg_tup (by rfl) (pgs_cons (pg_name (i := 3) scbad_tie.nd rfl (Or.inl rfl)) (pgs_cons (pg_name (i := 4) scbad_tie.nd rfl (Or.inl rfl)) pgs_nil))) (pss_cons (ps_if (pt_not (pt_val (pe_cal Ctie_stands (hr.mono (by decide)) (by rfl) pass0 (pa_cons (pv 4) (pa_cons (pv 2) (pa_cons (pv 1) pa_nil)))))) (pss_one (ps_ret (pv 3))) pss_nil)
      (pss_one (ps_set (i := 2) scbad_tie.nd rfl (Or.inl rfl) (pv 4)))))
      (pss_one (ps_ret pe_non)))), ?_⟩
    refine ⟨1, rfl, 1, rfl, small_sz (by decide), fun b nb => ?_⟩
    refine ⟨_, rfl, a, xs, rfl, SqL.of (same_new nb _ _ ha), for_it walk_enum (fun i σ H' => ∃ (b : Addr) (q : Pr) (y3 y4 : Option V), σ = [some (.ref a), some (.ref d), some (.ref b), y3, y4] ∧ Same H H' ∧ H' b = some (.tup [.int q.1, .int q.2]) ∧ TiOk ps q (ts.drop i))
      ⟨b, (-1, -1), none, none, rfl, same_new nb, upd_same, hok⟩ (fun i σ H' _ ⟨_, _, _, _, _, s5, _⟩ => s5.seq (SqL.of ha)) ?_ ?_⟩
    · rintro i x σ H1 H2 hi ⟨b, q, y3, y4, rfl, sm, hb, hti⟩ ⟨T, x1, x2, rfl, nT, rfl, e1, e2⟩
      obtain rfl := Option.some.inj e1
      obtain ⟨p, hq, t, rfl, ht⟩ := lof_at hp e2
      rw [drop_at hq] at hti
      obtain ⟨p1, p2, p3, p4, p5⟩ := hti
      have s2 : Same H (upd H1 T (.tup [.int (i : Nat), .ref t])) := sm.trans (same_new nT)
      have ht2 := s2 _ _ ht
      refine ⟨T, _, rfl, SqT.of upd_same, rfl, _, _, rfl, _, _, rfl, rfl, ?_⟩
      refine ⟨_, rfl, _, rfl, _, rfl, t, b, d, p, q, kvs, rfl, ht2, same_new nT _ _ hb, s2 _ _ hd, p1, hk _ p2, hk _ p3, p4, true, rfl, iteF ?_⟩
      exact ⟨_, rfl, _, _, _, _, rfl, s2, ht2, p5⟩
    · rintro σ H1 ⟨b, q, y3, y4, rfl, sm, _⟩
      exact k _ sm
end
end TA
namespace TA
open PySem PySem.Spec PyProof.Rows L2
theorem dget_of {H : Hp} {d : Addr} {kvs : List (Key × V)} {k : Int} {v : V} (hd : H d = some (.dK kvs)) (hv : valV kvs (Sum.inl k) = some v) : DGet H d (.int k) (some v) := by
  rw [← hv]
  exact DGet.k (k := Sum.inl k) hd
theorem dput_of {H : Hp} {d : Addr} {kvs : List (Key × V)} {k : Int} {v : V} (hd : H d = some (.dK kvs)) (hz : kvs.length ≤ 1000000) : DPut H d (.int k) v (upd H d (.dK (putK kvs (Sum.inl k) v))) := DPut.k (k := Sum.inl k) hd (small_lt hz)
/-- a book that is made: its lists are new, each key has its own -/
structure Bk (H0 H : Hp) (d : Addr) (n m : Nat) (ks : List Int) (N : Int → List Int) (kvs : List (Key × V)) (L : Int → Addr) : Prop where
  same : Same H0 H
  nd : H0 d = none
  at_ : H d = some (.dK kvs)
  len : kvs.length ≤ n
  val : ∀ k ∈ ks, valV kvs (Sum.inl k) = some (.ref (L k))
  lst : ∀ k ∈ ks, H (L k) = some (.lst ((N k).map V.int))
  new : ∀ k ∈ ks, H0 (L k) = none
  out : ∀ k : Int, ¬ k ∈ ks → valV kvs (Sum.inl k) = none
  apart : ∀ k ∈ ks, ∀ j ∈ ks, k ≠ j → L k ≠ L j
  few : ∀ k, (N k).length ≤ m
  own : ∀ p ∈ kvs, ∃ k ∈ ks, p.1 = Sum.inl k
theorem putK_keys {kvs : List (Key × V)} {k : Key} {v : V} {p : Key × V} (h : p ∈ putK kvs k v) : p.1 = k ∨ ∃ q ∈ kvs, q.1 = p.1 := by
  unfold putK at h
  split at h
  · obtain ⟨q, hq, e⟩ := List.mem_map.mp h
    by_cases c : q.1 = k
    · rw [if_pos c] at e
      exact .inl (by rw [← e]; exact c)
    · rw [if_neg c] at e
      exact .inr ⟨q, hq, by rw [e]⟩
  · rcases List.mem_append.mp h with h | h
    · exact .inr ⟨p, h, rfl⟩
    · exact .inl (by rw [List.mem_singleton.mp h])
theorem dict_ne_lst {H : Hp} {a b : Addr} {kvs : List (Key × V)} {xs : List V} (h1 : H a = some (.dK kvs)) (h2 : H b = some (.lst xs)) : a ≠ b := ne_of h1 h2 (by intro z; cases z)
theorem Bk.put {H0 H : Hp} {d p : Addr} {n m : Nat} {ks : List Int} {N : Int → List Int} {kvs : List (Key × V)} {L : Int → Addr} (B : Bk H0 H d n m ks N kvs L) {k : Int} (hk : ¬ k ∈ ks) (np : H p = none) :
    Bk H0 (upd (upd H p (.lst [])) d (.dK (putK kvs (Sum.inl k) (.ref p)))) d (n + 1) m (ks ++ [k]) (fun j => if j = k then [] else N j) (putK kvs (Sum.inl k) (.ref p)) (fun j => if j = k then p else L j) := by
  have dp : d ≠ p := fun e => by rw [← e, B.at_] at np; cases np
  have hks : ∀ j ∈ ks, j ≠ k := fun j hj e => hk (e ▸ hj)
  have Lp : ∀ j ∈ ks, L j ≠ p := fun j hj e => by rw [← e, B.lst j hj] at np; cases np
  refine ⟨fun b o e => ?_, B.nd, upd_same, Nat.le_trans (length_putK _ _ _) (Nat.succ_le_succ B.len), fun j hj => ?_, fun j hj => ?_, fun j hj => ?_, fun j hj => ?_, fun j hj i hi hne => ?_, fun j => ?_, fun z hz => (putK_keys hz).elim (fun e => ⟨k, List.mem_append_right _ (List.mem_singleton.mpr rfl), e⟩) fun ⟨q, hq, e⟩ => let ⟨j, hj, ej⟩ := B.own q hq; ⟨j, List.mem_append_left _ hj, e.symm.trans ej⟩⟩
  · rw [upd_ne (ne_of_none e B.nd), upd_ne (ne_of_none (B.same _ _ e) np)]
    exact B.same _ _ e
  · rw [valV_put]
    by_cases e : j = k
    · rw [if_pos (by rw [e]), if_pos e]
    · rw [if_neg (inl_ne e), if_neg e]
      exact B.val j ((List.mem_append.mp hj).resolve_right fun z => e (List.mem_singleton.mp z))
  · by_cases e : j = k
    · rw [if_pos e, if_pos e, upd_ne dp.symm, upd_same]
      rfl
    · have hj' := (List.mem_append.mp hj).resolve_right fun z => e (List.mem_singleton.mp z)
      rw [if_neg e, if_neg e, upd_ne (dict_ne_lst B.at_ (B.lst j hj')).symm, upd_ne (Lp j hj')]
      exact B.lst j hj'
  · by_cases e : j = k
    · rw [if_pos e]
      exact B.same.free np
    · rw [if_neg e]
      exact B.new j ((List.mem_append.mp hj).resolve_right fun z => e (List.mem_singleton.mp z))
  · have e : j ≠ k := fun e => hj (List.mem_append_right _ (List.mem_singleton.mpr e))
    rw [valV_put, if_neg (inl_ne e)]
    exact B.out j fun z => hj (List.mem_append_left _ z)
  · by_cases e : j = k
    · have e2 : ¬ i = k := fun z => hne (e.trans z.symm)
      have hi' := (List.mem_append.mp hi).resolve_right fun z => e2 (List.mem_singleton.mp z)
      rw [if_pos e, if_neg e2]
      exact (Lp i hi').symm
    · have hj' := (List.mem_append.mp hj).resolve_right fun z => e (List.mem_singleton.mp z)
      rw [if_neg e]
      by_cases e2 : i = k
      · rw [if_pos e2]
        exact Lp j hj'
      · rw [if_neg e2]
        exact B.apart j hj' i ((List.mem_append.mp hi).resolve_right fun z => e2 (List.mem_singleton.mp z)) hne
  · show (if j = k then [] else N j).length ≤ m
    by_cases e : j = k
    · rw [if_pos e]
      exact Nat.zero_le _
    · rw [if_neg e]
      exact B.few j
/-- the list of k becomes another one -/
theorem Bk.set {H0 H : Hp} {d : Addr} {n m : Nat} {ks : List Int} {N : Int → List Int} {kvs : List (Key × V)} {L : Int → Addr} (B : Bk H0 H d n m ks N kvs L) {k : Int} (hk : k ∈ ks) (l : List Int) (hl : l.length ≤ m + 1) :
    Bk H0 (upd H (L k) (.lst (l.map V.int))) d n (m + 1) ks (fun j => if j = k then l else N j) kvs L := by
  refine ⟨B.same.mut (B.new k hk), B.nd, ?_, B.len, B.val, fun j hj => ?_, B.new, B.out, B.apart, fun j => ?_, B.own⟩
  · rw [upd_ne (dict_ne_lst B.at_ (B.lst k hk))]
    exact B.at_
  · by_cases e : j = k
    · rw [if_pos e, e, upd_same]
    · rw [if_neg e, upd_ne (B.apart j hj k hk e)]
      exact B.lst j hj
  · show (if j = k then l else N j).length ≤ m + 1
    by_cases e : j = k
    · rw [if_pos e]
      exact hl
    · rw [if_neg e]
      exact Nat.le_succ_of_le (B.few j)
/-- a new list comes for k -/
theorem Bk.swap {H0 H : Hp} {d p : Addr} {n m : Nat} {ks : List Int} {N : Int → List Int} {kvs : List (Key × V)} {L : Int → Addr} (B : Bk H0 H d n m ks N kvs L) {k : Int} (hk : k ∈ ks) (l : List Int) (hl : l.length ≤ m) (np : H p = none) :
    Bk H0 (upd (upd H p (.lst (l.map V.int))) d (.dK (putK kvs (Sum.inl k) (.ref p)))) d (n + 1) m ks (fun j => if j = k then l else N j) (putK kvs (Sum.inl k) (.ref p)) (fun j => if j = k then p else L j) := by
  have dp : d ≠ p := fun e => by rw [← e, B.at_] at np; cases np
  have Lp : ∀ j ∈ ks, L j ≠ p := fun j hj e => by rw [← e, B.lst j hj] at np; cases np
  refine ⟨fun b o e => ?_, B.nd, upd_same, Nat.le_trans (length_putK _ _ _) (Nat.succ_le_succ B.len), fun j hj => ?_, fun j hj => ?_, fun j hj => ?_, fun j hj => ?_, fun j hj i hi hne => ?_, fun j => ?_, fun z hz => (putK_keys hz).elim (fun e => ⟨k, hk, e⟩) fun ⟨q, hq, e⟩ => let ⟨j, hj, ej⟩ := B.own q hq; ⟨j, hj, e.symm.trans ej⟩⟩
  · rw [upd_ne (ne_of_none e B.nd), upd_ne (ne_of_none (B.same _ _ e) np)]
    exact B.same _ _ e
  · rw [valV_put]
    by_cases e : j = k
    · rw [if_pos (by rw [e]), if_pos e]
    · rw [if_neg (inl_ne e), if_neg e]
      exact B.val j hj
  · by_cases e : j = k
    · rw [if_pos e, if_pos e, upd_ne dp.symm, upd_same]
    · rw [if_neg e, if_neg e, upd_ne (dict_ne_lst B.at_ (B.lst j hj)).symm, upd_ne (Lp j hj)]
      exact B.lst j hj
  · by_cases e : j = k
    · rw [if_pos e]
      exact B.same.free np
    · rw [if_neg e]
      exact B.new j hj
  · have e : j ≠ k := fun e => hj (e ▸ hk)
    rw [valV_put, if_neg (inl_ne e)]
    exact B.out j hj
  · by_cases e : j = k
    · have e2 : ¬ i = k := fun z => hne (e.trans z.symm)
      rw [if_pos e, if_neg e2]
      exact (Lp i hi).symm
    · rw [if_neg e]
      by_cases e2 : i = k
      · rw [if_pos e2]
        exact Lp j hj
      · rw [if_neg e2]
        exact B.apart j hj i hi hne
  · show (if j = k then l else N j).length ≤ m
    by_cases e : j = k
    · rw [if_pos e]
      exact hl
    · rw [if_neg e]
      exact B.few j
theorem Bk.keep {H0 H H' : Hp} {d : Addr} {n m : Nat} {ks : List Int} {N : Int → List Int} {kvs : List (Key × V)} {L : Int → Addr} (B : Bk H0 H d n m ks N kvs L) (s : Same H H') : Bk H0 H' d n m ks N kvs L :=
  ⟨B.same.trans s, B.nd, s _ _ B.at_, B.len, B.val, fun k hk => s _ _ (B.lst k hk), B.new, B.out, B.apart, B.few, B.own⟩
theorem Bk.book {H0 H : Hp} {d : Addr} {n m : Nat} {ps ts : List Pr} {N : Int → List Int} {kvs : List (Key × V)} {L : Int → Addr} (B : Bk H0 H d n m (keys ps) N kvs L) (hm : m ≤ 1000) (hN : ∀ k ∈ keys ps, ∀ q, q ∈ N k ↔ Tied ts k q) : BookAt H d ps ts :=
  ⟨kvs, B.at_, fun k hk => ⟨L k, N k, B.val k hk, B.lst k hk, Nat.le_trans (B.few k) hm, hN k hk⟩, B.out⟩
theorem tied_snoc {ts : List Pr} {t : Pr} {k q : Int} : Tied (ts ++ [t]) k q ↔ Tied ts k q ∨ (k = t.1 ∧ q = t.2) ∨ (k = t.2 ∧ q = t.1) := by
  unfold Tied
  obtain ⟨a, b⟩ := t
  simp only [List.mem_append, List.mem_singleton, Prod.mk.injEq]
  constructor
  · rintro ((h | h) | (h | h))
    · exact .inl (.inl h)
    · exact .inr (.inl h)
    · exact .inl (.inr h)
    · exact .inr (.inr ⟨h.2, h.1⟩)
  · rintro ((h | h) | h | h)
    · exact .inl (.inl h)
    · exact .inr (.inl h)
    · exact .inl (.inr h)
    · exact .inr (.inr ⟨h.2, h.1⟩)
/-- behind a tie -/
def nxt (N : Int → List Int) (t : Pr) : Int → List Int := fun j => if j = t.2 then N t.2 ++ [t.1] else if j = t.1 then N t.1 ++ [t.2] else N j
theorem nxt_tied {N : Int → List Int} {ts : List Pr} {t : Pr} {ks : List Int} (h : ∀ k ∈ ks, ∀ q, q ∈ N k ↔ Tied ts k q) (hne : t.1 ≠ t.2) : ∀ k ∈ ks, ∀ q, q ∈ nxt N t k ↔ Tied (ts ++ [t]) k q := by
  intro k hk q
  rw [tied_snoc]
  unfold nxt
  by_cases e : k = t.2
  · subst e
    rw [if_pos rfl, List.mem_append, List.mem_singleton, h _ hk]
    constructor
    · rintro (z | z)
      · exact .inl z
      · exact .inr (.inr ⟨rfl, z⟩)
    · rintro (z | z | z)
      · exact .inl z
      · exact absurd z.1.symm hne
      · exact .inr z.2
  · rw [if_neg e]
    by_cases e1 : k = t.1
    · subst e1
      rw [if_pos rfl, List.mem_append, List.mem_singleton, h _ hk]
      constructor
      · rintro (z | z)
        · exact .inl z
        · exact .inr (.inl ⟨rfl, z⟩)
      · rintro (z | z | z)
        · exact .inl z
        · exact .inr z.2
        · exact absurd z.1 hne
    · rw [if_neg e1, h k hk]
      constructor
      · exact .inl
      · rintro (z | z | z)
        · exact z
        · exact absurd z.1 e1
        · exact absurd z.1 e
section
variable {P : Program} {w : World} {K : PySem.W.Frag} {mg : Str → Option Value} {base : Heap}
/- look_at_web: slots 0:thing 1:places 2:ties 3:bad 4:known 5:place 6:price; calls bad_place bad_tie -/
abbrev slook_at_web : Stmt := topS 17
abbrev nlook_at_web : List Str := ["thing", "places", "ties", "bad", "known", "place", "price"]
theorem sclook_at_web : FnScope nlook_at_web ["thing"] (defScope slook_at_web) := ⟨rfl, rfl, rfl, by decide +kernel, rfl, by decide +kernel, by decide +kernel⟩
def splook_at_web : Sp := fun vs H Q _ => ∃ (w : Addr) (ps ts : List Pr), vs = [.ref w] ∧ WebAt H w ps ts ∧ WebOk ps ts ∧ ∀ H', Same H H' → Q .non H'
theorem oklook_at_web (G : Glb mg) (S : Std K mg "look_at_web" slook_at_web ["thing"]) (Cbad_place : Cal P w K mg base CX0 4 "bad_place" ["things"] spbad_place) (Cbad_tie : Cal P w K mg base CX0 4 "bad_tie" ["things", "known"] spbad_tie) :
    Cal P w K mg base CX0 5 "look_at_web" ["thing"] splook_at_web := S.cal fun f fd F => by
  refine F.ok sclook_at_web (fun vs H Q E h => ?_) (fun cdv A outer s H vs Q E hr h => ?_)
  · obtain ⟨w, ps, ts, rfl, _⟩ := h
    rfl
  · obtain ⟨w, ps, ts, rfl, ⟨a, b, hw, ⟨xs, ha, hp⟩, ⟨ys, hb, ht⟩⟩, ok, k⟩ := h
    obtain ⟨_, cMOST_PLACES⟩ := G.cMP
    obtain ⟨_, cMOST_TIES⟩ := G.cMT
    have l1 : xs.length ≤ 7 := by rw [Paired.length hp]; exact ok.len
    have l2 : ys.length ≤ 49 := by rw [Paired.length ht]; exact ok.tlen
    refine ⟨_, (pss_cons (ps_if (PW.pt (pw_or (pt_not (pt_val (pe_callB call_isi (by rfl) G.isinstance (by decide +kernel) (pa_cons (pv 0) (pa_cons (pe_bltn (v := .ty "tuple") (by rfl) G.tuple (by decide +kernel) rfl) pa_nil))))) (pw_or1 (pt_cmpR op_ne (pe_callB call_len_seq (by rfl) G.len (by decide +kernel) (pa_cons (pv 0) pa_nil)) pe_int (nomark _))))) (pss_one ps_never) pss_nil)
      (pss_cons (ps_asg (pv 0) (pg_tup (by rfl) (pgs_cons (pg_name (i := 1) sclook_at_web.nd rfl (Or.inl rfl)) (pgs_cons (pg_name (i := 2) sclook_at_web.nd rfl (Or.inl rfl)) pgs_nil))))
      (pss_cons (ps_if (PW.pt (pw_or (pt_not (pt_val (pe_callB call_isi (by rfl) G.isinstance (by decide +kernel) (pa_cons (pv 1) (pa_cons (pe_bltn (v := .ty "list") (by rfl) G.list (by decide +kernel) rfl) pa_nil))))) (pw_or1 (pt_cmpR op_gt (pe_callB call_len_seq (by rfl) G.len (by decide +kernel) (pa_cons (pv 1) pa_nil)) (pe_glob (v := .int 40) (by rfl) cMOST_PLACES ⟨_, rfl⟩) (nomark _))))) (pss_one ps_never) pss_nil)
      (pss_cons (ps_set (i := 3) sclook_at_web.nd rfl (Or.inl rfl) (pe_cal Cbad_place (hr.mono (by decide)) (by rfl) pass0 (pa_cons (pv 1) pa_nil)))
      (pss_cons (ps_if (pt_cmpR op_notN (pv 3) pe_non (nomark _)) (pss_one ps_never) pss_nil)
      (pss_cons (ps_if (PW.pt (pw_or (pt_not (pt_val (pe_callB call_isi (by rfl) G.isinstance (by decide +kernel) (pa_cons (pv 2) (pa_cons (pe_bltn (v := .ty "list") (by rfl) G.list (by decide +kernel) rfl) pa_nil))))) (pw_or1 (pt_cmpR op_gt (pe_callB call_len_seq (by rfl) G.len (by decide +kernel) (pa_cons (pv 2) pa_nil)) (pe_glob (v := .int 120) (by rfl) cMOST_TIES ⟨_, rfl⟩) (nomark _))))) (pss_one ps_never) pss_nil)
      (pss_cons (ps_set (i := 4) sclook_at_web.nd rfl (Or.inl rfl) pe_dnewK)
      (pss_cons (ps_for PassesOwn.never rfl (pi_list (pv 1)) (pg_tup (by rfl) (pgs_cons (pg_name (i := 5) sclook_at_web.nd rfl (Or.inl rfl)) (pgs_cons (pg_name (i := 6) sclook_at_web.nd rfl (Or.inl rfl)) pgs_nil))) (pss_one (ps_dput (hu_of hr) (pv 4) (pv 5) (pv 6) rfl)))
      (pss_cons (ps_set (i := 3) sclook_at_web.nd rfl (Or.inl rfl) (pe_cal Cbad_tie (hr.mono (by decide)) (by rfl) pass0 (pa_cons (pv 2) (pa_cons (pv 4) pa_nil))))
      (pss_one (ps_if (pt_cmpR op_notN (pv 3) pe_non (nomark _)) (pss_one ps_never) pss_nil))))))))))), ?_⟩
    refine ⟨_, rfl, _, _, _, _, true, rfl, .ty _, .base (.tup hw), kit_ty (by decide +kernel), true, rfl, iteF ?_⟩
    refine ⟨_, rfl, w, _, rfl, .inr (SqT.of hw), rfl, _, rfl, ifF (neI rfl) ?_⟩
    refine ⟨_, rfl, w, _, rfl, SqT.of hw, rfl, _, _, rfl, _, _, rfl, rfl, ?_⟩
    refine ⟨_, rfl, _, _, _, _, true, rfl, .ty _, .base (.lst ha), kit_ty (by decide +kernel), true, rfl, iteF ?_⟩
    refine ⟨_, rfl, a, _, rfl, .inl (SqL.of ha), _, _, rfl, rfl, _, rfl, ifF (decide_eq_false (by omega)) ?_⟩
    refine ⟨_, rfl, a, ps, rfl, ⟨xs, ha, hp⟩, plOk_of ps (-1) 0 ok.up (fun q hq => by have := (ok.pl q hq).1; omega) ok.pl (by have := ok.len; omega), fun H1 s1 => ?_⟩
    refine ⟨_, rfl, rfl, _, rfl, ifF rfl ?_⟩
    have hb1 := s1 _ _ hb
    refine ⟨_, rfl, _, _, _, _, true, rfl, .ty _, .base (.lst hb1), kit_ty (by decide +kernel), true, rfl, iteF ?_⟩
    refine ⟨_, rfl, b, _, rfl, .inl (SqL.of hb1), _, _, rfl, rfl, _, rfl, ifF (decide_eq_false (by omega)) ?_⟩
    intro d nd
    have s2 : Same H (upd H1 d (.dK [])) := s1.trans (same_new nd)
    have nd0 : H d = none := s1.free nd
    refine ⟨_, rfl, a, rfl, ⟨xs, SqL.of (s2 _ _ ha)⟩, for_list (K := K) (a := a) (xs := xs) (fun i σ H' => ∃ (y5 y6 : Option V) (kvs : List (Key × V)), σ = [some (.ref w), some (.ref a), some (.ref b), some .non, some (.ref d), y5, y6] ∧ Same H H' ∧ H' d = some (.dK kvs) ∧ kvs.length ≤ i ∧ Pri kvs (ps.take i))
      ⟨none, none, [], rfl, s2, upd_same, Nat.le_refl _, pri_nil⟩ (fun i σ H' _ ⟨_, _, _, _, s5, _⟩ => s5.seq (SqL.of ha)) ?_ ?_⟩
    · rintro i x σ H2 hx ⟨y5, y6, kvs, rfl, sm, hd, hl, hpr⟩
      obtain ⟨q, hq, t, rfl, htp⟩ := lof_at hp hx
      have hi := lt_at hx
      refine ⟨t, _, rfl, SqT.of (sm _ _ htp), rfl, _, _, rfl, _, _, rfl, rfl, ?_⟩
      refine ⟨_, rfl, _, rfl, _, rfl, d, _, rfl, dput_of hd (by omega), ?_⟩
      refine ⟨_, _, _, rfl, sm.mut nd0, upd_same, Nat.le_trans (length_putK _ _ _) (by omega), ?_⟩
      rw [take_at hq]
      exact pri_snoc hpr (by rw [keys_take]; exact nd_at ok.nd (keys_at hq))
    · rintro σ H2 ⟨y5, y6, kvs, rfl, sm, hd, hl, hpr⟩
      rw [List.take_of_length_le (by rw [Paired.length hp]; exact Nat.le_refl _)] at hpr
      refine ⟨_, rfl, _, rfl, b, d, ps, ts, kvs, rfl, ListOf.mono pairG sm.kq (⟨ys, hb, ht⟩ : PairsAt H b ts), hd, fun x hx => hpr.isSome hx, tiOk_of ps ts (-1, -1) ok.tup (fun t ht => ?_) ok.ti, fun H3 s3 => ?_⟩
      · obtain ⟨q, hq, e⟩ := of_keys (ok.ti t ht).2.1
        have := (ok.pl q hq).1
        exact .inl (show (-1 : Int) < t.1 by omega)
      · exact ⟨_, rfl, rfl, _, rfl, ifF rfl (k _ (sm.trans s3))⟩
/- price_book: slots 0:web 1:told 2:place 3:price; calls  -/
abbrev sprice_book : Stmt := topS 18
abbrev nprice_book : List Str := ["web", "told", "place", "price"]
theorem scprice_book : FnScope nprice_book ["web"] (defScope sprice_book) := ⟨rfl, rfl, rfl, by decide +kernel, rfl, by decide +kernel, by decide +kernel⟩
def spprice_book : Sp := fun vs H Q _ => ∃ (w : Addr) (ps ts : List Pr), vs = [.ref w] ∧ WebAt H w ps ts ∧ WebOk ps ts ∧ ∀ d H', Same H H' → H d = none → PriceAt H' d ps → Q (.ref d) H'
theorem okprice_book (G : Glb mg) (S : Std K mg "price_book" sprice_book ["web"]) : Cal P w K mg base CX0 1 "price_book" ["web"] spprice_book := S.cal fun f fd F => by
  refine F.ok scprice_book (fun vs H Q E h => ?_) (fun cdv A outer s H vs Q E hr h => ?_)
  · obtain ⟨w, ps, ts, rfl, _⟩ := h
    rfl
  · obtain ⟨w, ps, ts, rfl, ⟨a, b, hw, ⟨xs, ha, hp⟩, _⟩, ok, k⟩ := h
    have l1 : xs.length ≤ 7 := by rw [Paired.length hp]; exact ok.len
    refine ⟨_, (pss_cons (ps_set (i := 1) scprice_book.nd rfl (Or.inl rfl) pe_dnewK)
      (pss_cons (ps_for PassesOwn.never rfl (pi_list (pe_ix ix_tup (pv 0) pe_int (fun _ _ => rfl))) (pg_tup (by rfl) (pgs_cons (pg_name (i := 2) scprice_book.nd rfl (Or.inl rfl)) (pgs_cons (pg_name (i := 3) scprice_book.nd rfl (Or.inl rfl)) pgs_nil))) (pss_one (ps_dput (hu_of hr) (pv 1) (pv 2) (pv 3) rfl)))
      (pss_one (ps_ret (pv 1))))), ?_⟩
    intro d nd
    have s2 : Same H (upd H d (.dK [])) := same_new nd
    refine ⟨_, rfl, w, _, 0, _, rfl, rfl, SqT.of (s2 _ _ hw), rfl, a, rfl, ⟨xs, SqL.of (s2 _ _ ha)⟩, for_list (K := K) (a := a) (xs := xs) (fun i σ H' => ∃ (y2 y3 : Option V) (kvs : List (Key × V)), σ = [some (.ref w), some (.ref d), y2, y3] ∧ Same H H' ∧ H' d = some (.dK kvs) ∧ kvs.length ≤ i ∧ Pri kvs (ps.take i))
      ⟨none, none, [], rfl, s2, upd_same, Nat.le_refl _, pri_nil⟩ (fun i σ H' _ ⟨_, _, _, _, s5, _⟩ => s5.seq (SqL.of ha)) ?_ ?_⟩
    · rintro i x σ H2 hx ⟨y5, y6, kvs, rfl, sm, hd, hl, hpr⟩
      obtain ⟨q, hq, t, rfl, htp⟩ := lof_at hp hx
      have hi := lt_at hx
      refine ⟨t, _, rfl, SqT.of (sm _ _ htp), rfl, _, _, rfl, _, _, rfl, rfl, ?_⟩
      refine ⟨_, rfl, _, rfl, _, rfl, d, _, rfl, dput_of hd (by omega), ?_⟩
      refine ⟨_, _, _, rfl, sm.mut nd, upd_same, Nat.le_trans (length_putK _ _ _) (by omega), ?_⟩
      rw [take_at hq]
      exact pri_snoc hpr (by rw [keys_take]; exact nd_at ok.nd (keys_at hq))
    · rintro σ H2 ⟨y5, y6, kvs, rfl, sm, hd, hl, hpr⟩
      rw [List.take_of_length_le (by rw [Paired.length hp]; exact Nat.le_refl _)] at hpr
      exact ⟨_, rfl, k _ _ sm nd ⟨kvs, hd, hpr⟩⟩
end
end TA
namespace TA
open PySem PySem.Spec PyProof.Rows L2
theorem few_nxt {N : Int → List Int} {t : Pr} {m : Nat} (h : ∀ k, (N k).length ≤ m) (k : Int) : (nxt N t k).length ≤ m + 1 := by
  unfold nxt
  by_cases e : k = t.2
  · rw [if_pos e, List.length_append]
    exact Nat.succ_le_succ (h t.2)
  · rw [if_neg e]
    by_cases e1 : k = t.1
    · rw [if_pos e1, List.length_append]
      exact Nat.succ_le_succ (h t.1)
    · rw [if_neg e1]
      exact Nat.le_succ_of_le (h k)
theorem Bk.eqN {H0 H : Hp} {d : Addr} {n m : Nat} {ks : List Int} {N N' : Int → List Int} {kvs : List (Key × V)} {L : Int → Addr} (B : Bk H0 H d n m ks N kvs L) (m' : Nat) (e : ∀ k ∈ ks, N k = N' k) (h : ∀ k, (N' k).length ≤ m') : Bk H0 H d n m' ks N' kvs L :=
  ⟨B.same, B.nd, B.at_, B.len, B.val, fun k hk => by rw [← e k hk]; exact B.lst k hk, B.new, B.out, B.apart, h, B.own⟩
theorem keys_take_snoc {ps : List Pr} {i : Nat} {p : Pr} (h : ps[i]? = some p) : keys (ps.take (i + 1)) = keys (ps.take i) ++ [p.1] := by rw [take_at h, keys_snoc]
section
variable {P : Program} {w : World} {K : PySem.W.Frag} {mg : Str → Option Value} {base : Heap}
/- _law_near: slots 0:_law_web_here 1:_law_book 2:_law_place 3:_law_price 4:_law_one 5:_law_other; calls  -/
abbrev sl_near : Stmt := topS 40
abbrev nl_near : List Str := ["_law_web_here", "_law_book", "_law_place", "_law_price", "_law_one", "_law_other"]
theorem scl_near : FnScope nl_near ["_law_web_here"] (defScope sl_near) := ⟨rfl, rfl, rfl, by decide +kernel, rfl, by decide +kernel, by decide +kernel⟩
def spl_near : Sp := fun vs H Q _ => ∃ (w : Addr) (ps ts : List Pr), vs = [.ref w] ∧ WebAt H w ps ts ∧ WebOk ps ts ∧ ∀ d H', Same H H' → H d = none → BookAt H' d ps ts → Q (.ref d) H'
theorem okl_near (G : Glb mg) (S : Std K mg "_law_near" sl_near ["_law_web_here"]) : Cal P w K mg base CX0 1 "_law_near" ["_law_web_here"] spl_near := S.cal fun f fd F => by
  refine F.ok scl_near (fun vs H Q E h => ?_) (fun cdv A outer s H vs Q E hr h => ?_)
  · obtain ⟨w, ps, ts, rfl, _⟩ := h
    rfl
  · obtain ⟨w, ps, ts, rfl, ⟨a, b, hw, ⟨xs, ha, hp⟩, ⟨ys, hb, ht⟩⟩, ok, k⟩ := h
    have l1 : xs.length ≤ 7 := by rw [Paired.length hp]; exact ok.len
    have l2 : ys.length ≤ 49 := by rw [Paired.length ht]; exact ok.tlen
    refine ⟨_, (pss_cons (ps_set (i := 1) scl_near.nd rfl (Or.inl rfl) pe_dnewK)
      (pss_cons (ps_for PassesOwn.never rfl (pi_list (pe_ix ix_tup (pv 0) pe_int (fun _ _ => rfl))) (pg_tup (by rfl) (pgs_cons (pg_name (i := 2) scl_near.nd rfl (Or.inl rfl)) (pgs_cons (pg_name (i := 3) scl_near.nd rfl (Or.inl rfl)) pgs_nil))) (pss_one (ps_dput (hu_of hr) (pv 1) (pv 2) (pe_lst pa_nil) rfl)))
      (pss_cons (ps_for PassesOwn.never rfl (pi_list (pe_ix ix_tup (pv 0) pe_int (fun _ _ => rfl))) (pg_tup (by rfl) (pgs_cons (pg_name (i := 4) scl_near.nd rfl (Or.inl rfl)) (pgs_cons (pg_name (i := 5) scl_near.nd rfl (Or.inl rfl)) pgs_nil))) (pss_cons (ps_expr (pe_bm PySem.F.plainAttrs_list PySem.F.slot_list_append PySem.F.type_list_append mt_append (pe_dget (hu_of hr) (pv 1) (pv 4) (fun _ _ => rfl)) (pa_cons (pv 5) pa_nil)))
      (pss_one (ps_expr (pe_bm PySem.F.plainAttrs_list PySem.F.slot_list_append PySem.F.type_list_append mt_append (pe_dget (hu_of hr) (pv 1) (pv 5) (fun _ _ => rfl)) (pa_cons (pv 4) pa_nil))))))
      (pss_one (ps_ret (pv 1)))))), ?_⟩
    intro d nd
    have s2 : Same H (upd H d (.dK [])) := same_new nd
    refine ⟨_, rfl, w, _, 0, _, rfl, rfl, SqT.of (s2 _ _ hw), rfl, a, rfl, ⟨xs, SqL.of (s2 _ _ ha)⟩, for_list (K := K) (a := a) (xs := xs) (fun i σ H' => ∃ (y2 y3 : Option V) (kvs : List (Key × V)) (N : Int → List Int) (L : Int → Addr), σ = [some (.ref w), some (.ref d), y2, y3, none, none] ∧ Bk H H' d i 0 (keys (ps.take i)) N kvs L)
      ⟨none, none, [], fun _ => [], fun _ => 0, rfl, s2, nd, upd_same, Nat.le_refl _, (fun _ h => nomatch h), (fun _ h => nomatch h), (fun _ h => nomatch h), (fun _ _ => valV_nil), (fun _ h => nomatch h), (fun _ => Nat.le_refl _), fun _ h => nomatch h⟩ (fun i σ H' _ ⟨_, _, _, _, _, _, B⟩ => B.same.seq (SqL.of ha)) ?_ ?_⟩
    · rintro i x σ H2 hx ⟨y2, y3, kvs, N, L, rfl, B⟩
      obtain ⟨q, hq, t, rfl, htp⟩ := lof_at hp hx
      have hi := lt_at hx
      have hz := B.len
      refine ⟨t, _, rfl, SqT.of (B.same _ _ htp), rfl, _, _, rfl, _, _, rfl, rfl, ?_⟩
      refine ⟨small_sz (by decide), fun p np => ?_⟩
      have dp : d ≠ p := fun e => by rw [← e, B.at_] at np; cases np
      refine ⟨_, rfl, _, rfl, d, _, rfl, dput_of (kvs := kvs) (by rw [upd_ne dp]; exact B.at_) (by omega), ?_⟩
      have B' := B.put (k := q.1) (by rw [keys_take]; exact nd_at ok.nd (keys_at hq)) np
      rw [← keys_take_snoc hq] at B'
      exact ⟨_, _, _, _, _, rfl, B'⟩
    · rintro σ H2 ⟨y2, y3, kvs, N, L, rfl, B⟩
      rw [List.take_of_length_le (by rw [Paired.length hp]; exact Nat.le_refl _)] at B
      have e0 : ∀ k ∈ keys ps, N k = [] := fun k _ => List.length_eq_zero_iff.mp (Nat.le_zero.mp (B.few k))
      refine ⟨_, rfl, w, _, 1, _, rfl, rfl, SqT.of (B.same _ _ hw), rfl, b, rfl, ⟨ys, SqL.of (B.same _ _ hb)⟩, for_list (K := K) (a := b) (xs := ys) (fun i σ H' => ∃ (y2 y3 y4 y5 : Option V) (N : Int → List Int), σ = [some (.ref w), some (.ref d), y2, y3, y4, y5] ∧ Bk H H' d xs.length i (keys ps) N kvs L ∧ ∀ k ∈ keys ps, ∀ q, q ∈ N k ↔ Tied (ts.take i) k q)
        ⟨y2, y3, none, none, N, rfl, B, fun k hk q => by rw [e0 k hk]; exact ⟨(fun z => nomatch z), fun z => by rcases z with z | z <;> cases z⟩⟩ (fun i σ H' _ ⟨_, _, _, _, _, _, B, _⟩ => B.same.seq (SqL.of hb)) ?_ ?_⟩
      · rintro i x σ H3 hx ⟨y2, y3, y4, y5, N, rfl, B, hN⟩
        obtain ⟨q, hq, t, rfl, htp⟩ := lof_at ht hx
        have hi := lt_at hx
        obtain ⟨o1, o2, o3⟩ := ok.ti q (mem_at hq)
        have hne : q.2 ≠ q.1 := by omega
        have f1 := B.few q.1
        have f2 := B.few q.2
        refine ⟨t, _, rfl, SqT.of (B.same _ _ htp), rfl, _, _, rfl, _, _, rfl, rfl, ?_⟩
        refine ⟨_, rfl, _, rfl, d, _, rfl, dget_of B.at_ (B.val _ o2), .inl ⟨rfl, _, SqL.of (B.lst _ o2)⟩, _, rfl, L q.1, _, _, rfl, rfl, B.lst _ o2, small_lt (by rw [List.length_map]; omega), ?_⟩
        have B2 := B.set o2 (N q.1 ++ [q.2]) (by rw [List.length_append]; exact Nat.succ_le_succ f1)
        rw [List.map_append] at B2
        have g2 := B2.lst _ o3
        rw [if_neg hne] at g2
        refine ⟨_, rfl, _, rfl, d, _, rfl, dget_of B2.at_ (B2.val _ o3), .inl ⟨rfl, _, SqL.of g2⟩, _, rfl, L q.2, _, _, rfl, rfl, g2, small_lt (by rw [List.length_map]; omega), ?_⟩
        have B3 := B2.set o3 (N q.2 ++ [q.1]) (by rw [List.length_append]; exact Nat.le_succ_of_le (Nat.succ_le_succ f2))
        rw [List.map_append] at B3
        refine ⟨_, _, _, _, nxt N q, rfl, B3.eqN (i + 1) (fun k _ => rfl) (few_nxt B.few), ?_⟩
        rw [take_at hq]
        exact nxt_tied hN (Ne.symm hne)
      · rintro σ H3 ⟨y2, y3, y4, y5, N, rfl, B, hN⟩
        rw [List.take_of_length_le (by rw [Paired.length ht]; exact Nat.le_refl _)] at hN
        exact ⟨_, rfl, k _ _ B.same nd (B.book (by omega) hN)⟩
/- near_book: slots 0:web 1:told 2:place 3:price 4:one 5:other; calls  -/
abbrev snear_book : Stmt := topS 19
abbrev nnear_book : List Str := ["web", "told", "place", "price", "one", "other"]
theorem scnear_book : FnScope nnear_book ["web"] (defScope snear_book) := ⟨rfl, rfl, rfl, by decide +kernel, rfl, by decide +kernel, by decide +kernel⟩
def spnear_book : Sp := fun vs H Q _ => ∃ (w : Addr) (ps ts : List Pr), vs = [.ref w] ∧ WebAt H w ps ts ∧ WebOk ps ts ∧ ∀ d H', Same H H' → H d = none → BookAt H' d ps ts → Q (.ref d) H'
theorem oknear_book (G : Glb mg) (S : Std K mg "near_book" snear_book ["web"]) : Cal P w K mg base CX0 1 "near_book" ["web"] spnear_book := S.cal fun f fd F => by
  refine F.ok scnear_book (fun vs H Q E h => ?_) (fun cdv A outer s H vs Q E hr h => ?_)
  · obtain ⟨w, ps, ts, rfl, _⟩ := h
    rfl
  · obtain ⟨w, ps, ts, rfl, ⟨a, b, hw, ⟨xs, ha, hp⟩, ⟨ys, hb, ht⟩⟩, ok, k⟩ := h
    have l1 : xs.length ≤ 7 := by rw [Paired.length hp]; exact ok.len
    have l2 : ys.length ≤ 49 := by rw [Paired.length ht]; exact ok.tlen
    refine ⟨_, (pss_cons (ps_set (i := 1) scnear_book.nd rfl (Or.inl rfl) pe_dnewK)
      (pss_cons (ps_for PassesOwn.never rfl (pi_list (pe_ix ix_tup (pv 0) pe_int (fun _ _ => rfl))) (pg_tup (by rfl) (pgs_cons (pg_name (i := 2) scnear_book.nd rfl (Or.inl rfl)) (pgs_cons (pg_name (i := 3) scnear_book.nd rfl (Or.inl rfl)) pgs_nil))) (pss_one (ps_dput (hu_of hr) (pv 1) (pv 2) (pe_lst pa_nil) rfl)))
      (pss_cons (ps_for PassesOwn.never rfl (pi_list (pe_ix ix_tup (pv 0) pe_int (fun _ _ => rfl))) (pg_tup (by rfl) (pgs_cons (pg_name (i := 4) scnear_book.nd rfl (Or.inl rfl)) (pgs_cons (pg_name (i := 5) scnear_book.nd rfl (Or.inl rfl)) pgs_nil))) (pss_cons (ps_expr (pe_bm PySem.F.plainAttrs_list PySem.F.slot_list_append PySem.F.type_list_append mt_append (pe_dget (hu_of hr) (pv 1) (pv 4) (fun _ _ => rfl)) (pa_cons (pv 5) pa_nil)))
      (pss_one (ps_expr (pe_bm PySem.F.plainAttrs_list PySem.F.slot_list_append PySem.F.type_list_append mt_append (pe_dget (hu_of hr) (pv 1) (pv 5) (fun _ _ => rfl)) (pa_cons (pv 4) pa_nil))))))
      (pss_cons (ps_for PassesOwn.never rfl (pi_list (pe_callTy (call_listD rfl) (by rfl) G.list (by decide +kernel) (pa_cons (pv 1) pa_nil))) (pg_name (i := 2) scnear_book.nd rfl (Or.inl rfl)) (pss_one (ps_dput (hu_of hr) (pv 1) (pv 2) (pe_callB cr_sortedI (by rfl) G.sorted (by decide +kernel) (pa_cons (pe_dget (hu_of hr) (pv 1) (pv 2) (fun _ _ => rfl)) pa_nil)) rfl)))
      (pss_one (ps_ret (pv 1))))))), ?_⟩
    intro d nd
    have s2 : Same H (upd H d (.dK [])) := same_new nd
    refine ⟨_, rfl, w, _, 0, _, rfl, rfl, SqT.of (s2 _ _ hw), rfl, a, rfl, ⟨xs, SqL.of (s2 _ _ ha)⟩, for_list (K := K) (a := a) (xs := xs) (fun i σ H' => ∃ (y2 y3 : Option V) (kvs : List (Key × V)) (N : Int → List Int) (L : Int → Addr), σ = [some (.ref w), some (.ref d), y2, y3, none, none] ∧ Bk H H' d i 0 (keys (ps.take i)) N kvs L)
      ⟨none, none, [], fun _ => [], fun _ => 0, rfl, s2, nd, upd_same, Nat.le_refl _, (fun _ h => nomatch h), (fun _ h => nomatch h), (fun _ h => nomatch h), (fun _ _ => valV_nil), (fun _ h => nomatch h), (fun _ => Nat.le_refl _), fun _ h => nomatch h⟩ (fun i σ H' _ ⟨_, _, _, _, _, _, B⟩ => B.same.seq (SqL.of ha)) ?_ ?_⟩
    · rintro i x σ H2 hx ⟨y2, y3, kvs, N, L, rfl, B⟩
      obtain ⟨q, hq, t, rfl, htp⟩ := lof_at hp hx
      have hi := lt_at hx
      have hz := B.len
      refine ⟨t, _, rfl, SqT.of (B.same _ _ htp), rfl, _, _, rfl, _, _, rfl, rfl, ?_⟩
      refine ⟨small_sz (by decide), fun p np => ?_⟩
      have dp : d ≠ p := fun e => by rw [← e, B.at_] at np; cases np
      refine ⟨_, rfl, _, rfl, d, _, rfl, dput_of (kvs := kvs) (by rw [upd_ne dp]; exact B.at_) (by omega), ?_⟩
      have B' := B.put (k := q.1) (by rw [keys_take]; exact nd_at ok.nd (keys_at hq)) np
      rw [← keys_take_snoc hq] at B'
      exact ⟨_, _, _, _, _, rfl, B'⟩
    · rintro σ H2 ⟨y2, y3, kvs, N, L, rfl, B⟩
      rw [List.take_of_length_le (by rw [Paired.length hp]; exact Nat.le_refl _)] at B
      have e0 : ∀ k ∈ keys ps, N k = [] := fun k _ => List.length_eq_zero_iff.mp (Nat.le_zero.mp (B.few k))
      refine ⟨_, rfl, w, _, 1, _, rfl, rfl, SqT.of (B.same _ _ hw), rfl, b, rfl, ⟨ys, SqL.of (B.same _ _ hb)⟩, for_list (K := K) (a := b) (xs := ys) (fun i σ H' => ∃ (y2 y3 y4 y5 : Option V) (N : Int → List Int), σ = [some (.ref w), some (.ref d), y2, y3, y4, y5] ∧ Bk H H' d xs.length i (keys ps) N kvs L ∧ ∀ k ∈ keys ps, ∀ q, q ∈ N k ↔ Tied (ts.take i) k q)
        ⟨y2, y3, none, none, N, rfl, B, fun k hk q => by rw [e0 k hk]; exact ⟨(fun z => nomatch z), fun z => by rcases z with z | z <;> cases z⟩⟩ (fun i σ H' _ ⟨_, _, _, _, _, _, B, _⟩ => B.same.seq (SqL.of hb)) ?_ ?_⟩
      · rintro i x σ H3 hx ⟨y2, y3, y4, y5, N, rfl, B, hN⟩
        obtain ⟨q, hq, t, rfl, htp⟩ := lof_at ht hx
        have hi := lt_at hx
        obtain ⟨o1, o2, o3⟩ := ok.ti q (mem_at hq)
        have hne : q.2 ≠ q.1 := by omega
        have f1 := B.few q.1
        have f2 := B.few q.2
        refine ⟨t, _, rfl, SqT.of (B.same _ _ htp), rfl, _, _, rfl, _, _, rfl, rfl, ?_⟩
        refine ⟨_, rfl, _, rfl, d, _, rfl, dget_of B.at_ (B.val _ o2), .inl ⟨rfl, _, SqL.of (B.lst _ o2)⟩, _, rfl, L q.1, _, _, rfl, rfl, B.lst _ o2, small_lt (by rw [List.length_map]; omega), ?_⟩
        have B2 := B.set o2 (N q.1 ++ [q.2]) (by rw [List.length_append]; exact Nat.succ_le_succ f1)
        rw [List.map_append] at B2
        have g2 := B2.lst _ o3
        rw [if_neg hne] at g2
        refine ⟨_, rfl, _, rfl, d, _, rfl, dget_of B2.at_ (B2.val _ o3), .inl ⟨rfl, _, SqL.of g2⟩, _, rfl, L q.2, _, _, rfl, rfl, g2, small_lt (by rw [List.length_map]; omega), ?_⟩
        have B3 := B2.set o3 (N q.2 ++ [q.1]) (by rw [List.length_append]; exact Nat.le_succ_of_le (Nat.succ_le_succ f2))
        rw [List.map_append] at B3
        refine ⟨_, _, _, _, nxt N q, rfl, B3.eqN (i + 1) (fun k _ => rfl) (few_nxt B.few), ?_⟩
        rw [take_at hq]
        exact nxt_tied hN (Ne.symm hne)
      · rintro σ H3 ⟨y2, y3, y4, y5, N, rfl, B, hN⟩
        rw [List.take_of_length_le (by rw [Paired.length ht]; exact Nat.le_refl _)] at hN
        refine ⟨_, rfl, d, kvs, rfl, .inl B.at_, fun l nl => ?_⟩
        have own0 := B.own
        have sl : Same H3 (upd H3 l (.lst (kvs.map fun kv => kV kv.1))) := same_new nl
        have z1 := B.len
        refine ⟨l, rfl, ⟨_, SqL.of upd_same⟩, for_list (K := K) (a := l) (xs := kvs.map fun kv => kV kv.1) (fun i σ H' => ∃ (y2 y3 y4 y5 : Option V) (N : Int → List Int) (kvs' : List (Key × V)) (L : Int → Addr), σ = [some (.ref w), some (.ref d), y2, y3, y4, y5] ∧ Bk H H' d (xs.length + i) ys.length (keys ps) N kvs' L ∧
            (∀ k ∈ keys ps, ∀ q, q ∈ N k ↔ Tied ts k q) ∧ H' l = some (.lst (kvs.map fun kv => kV kv.1)))
          ⟨y2, y3, y4, y5, N, kvs, L, rfl, B.keep sl, hN, upd_same⟩ (fun i σ H' _ ⟨_, _, _, _, _, _, _, _, _, _, e⟩ => SqL.of e) ?_ ?_⟩
        · rintro i x σ H4 hx ⟨y2, y3, y4, y5, N, kvs', L, rfl, B, hN, hl⟩
          have hi := lt_at hx
          rw [List.length_map] at hi
          rw [List.getElem?_map] at hx
          obtain ⟨kv, hkv, rfl⟩ := Option.map_eq_some_iff.mp hx
          obtain ⟨c, hc, ec⟩ := own0 kv (mem_at hkv)
          rw [ec]
          have z2 := B.len
          refine ⟨_, rfl, _, rfl, d, _, rfl, dget_of B.at_ (B.val c hc), L c, N c, rfl, SqL.of (B.lst c hc), fun ns' p hperm _ np => ?_⟩
          have dp : d ≠ p := fun e => by rw [← e, B.at_] at np; cases np
          have lp : l ≠ p := fun e => by rw [← e, hl] at np; cases np
          refine ⟨_, rfl, _, rfl, d, _, rfl, dput_of (kvs := kvs') (by rw [upd_ne dp]; exact B.at_) (by omega), ?_⟩
          have B' := B.swap hc ns' (by rw [hperm.length_eq]; exact B.few c) np
          refine ⟨_, _, _, _, _, _, _, rfl, B', fun j hj q => ?_, ?_⟩
          · by_cases e : j = c
            · rw [if_pos e, hperm.mem_iff, e]
              exact hN c hc q
            · rw [if_neg e]
              exact hN j hj q
          · rw [upd_ne (dict_ne_lst B.at_ hl).symm, upd_ne lp]
            exact hl
        · rintro σ H4 ⟨y2, y3, y4, y5, N, kvs', L, rfl, B, hN, hl⟩
          exact ⟨_, rfl, k _ _ B.same nd (B.book (by omega) hN)⟩
end
end TA
namespace TA
open PySem PySem.Spec PyProof.Rows L2
theorem not_dec {c : Prop} [Decidable c] (h : ¬ decide c = true) : ¬ c := fun z => h (decide_eq_true z)
theorem inV_int {x : Int} {ns : List Int} : inV (.int x) (ns.map V.int) = decide (x ∈ ns) := by
  unfold inV
  rw [List.any_map]
  by_cases h : x ∈ ns
  · rw [decide_eq_true h, List.any_eq_true]
    exact ⟨x, h, by simp [eqV]⟩
  · rw [decide_eq_false h, List.any_eq_false]
    intro y hy e
    have e2 : y = x := by simpa [eqV] using e
    exact h (e2 ▸ hy)
theorem flat_ints {ns : List Int} : (ns.map V.int).all flatV = true := by
  rw [List.all_map, List.all_eq_true]
  intro x _
  rfl
theorem cut_take (xs : List V) (k : Nat) : cutV xs none (some (k : Int)) = xs.take k := by
  unfold cutV
  rw [HT.sIx_none, HT.sIx_nat, List.drop_zero, Nat.sub_zero]
  by_cases h : k ≤ xs.length
  · rw [Nat.min_eq_left h]
  · rw [Nat.min_eq_right (by omega), List.take_length, List.take_of_length_le (by omega)]
theorem pw_at {α : Type} {R : α → α → Prop} {l : List α} {i j : Nat} {x y : α} (h : l.Pairwise R) (hij : j < i) (hj : l[j]? = some x) (hi : l[i]? = some y) : R x y := by
  obtain ⟨h1, e1⟩ := List.getElem?_eq_some_iff.mp hj
  obtain ⟨h2, e2⟩ := List.getElem?_eq_some_iff.mp hi
  rw [← e1, ← e2]
  exact List.pairwise_iff_getElem.mp h j i h1 h2 hij
theorem pw_snoc {α : Type} {R : α → α → Prop} {l : List α} {x : α} (h : l.Pairwise R) (hx : ∀ y ∈ l, R y x) : (l ++ [x]).Pairwise R := by
  rw [List.pairwise_append]
  refine ⟨h, List.pairwise_singleton R x, fun a ha b hb => ?_⟩
  rw [List.mem_singleton.mp hb]
  exact hx a ha
theorem take_lt {α : Type} {l : List α} {i j : Nat} {x : α} (h : (l.take i)[j]? = some x) : j < i ∧ l[j]? = some x := by
  have hj := lt_at h
  rw [List.length_take] at hj
  have : j < i := by omega
  rw [List.getElem?_take, if_pos this] at h
  exact ⟨this, h⟩
section
variable {P : Program} {w : World} {K : PySem.W.Frag} {mg : Str → Option Value} {base : Heap}
/- is_all: slots 0:book 1:thing 2:number 3:place 4:ahead; calls  -/
abbrev sis_all : Stmt := topS 22
abbrev nis_all : List Str := ["book", "thing", "number", "place", "ahead"]
theorem scis_all : FnScope nis_all ["book", "thing"] (defScope sis_all) := ⟨rfl, rfl, rfl, by decide +kernel, rfl, by decide +kernel, by decide +kernel⟩
def spis_all : Sp := fun vs H Q _ => ∃ (d a : Addr) (ps ts : List Pr) (l : List Int), vs = [.ref d, .ref a] ∧ BookAt H d ps ts ∧ IntsAt H a l ∧ (∀ x ∈ l, x ∈ keys ps) ∧ ∀ (b : Bool) H', Same H H' → (b = true ↔ AllOk ts l) → Q (.bl b) H'
theorem okis_all (G : Glb mg) (S : Std K mg "is_all" sis_all ["book", "thing"]) : Cal P w K mg base CX0 1 "is_all" ["book", "thing"] spis_all := S.cal fun f fd F => by
  refine F.ok scis_all (fun vs H Q E h => ?_) (fun cdv A outer s H vs Q E hr h => ?_)
  · obtain ⟨d, a, ps, ts, l, rfl, _⟩ := h
    rfl
  · obtain ⟨d, a, ps, ts, l, rfl, hB, ha, hk, k⟩ := h
    have ha : H a = some (.lst (l.map V.int)) := ha
    refine ⟨_, (pss_cons (ps_if (pt_cmpR op_lt (pe_callB call_len_seq (by rfl) G.len (by decide +kernel) (pa_cons (pv 1) pa_nil)) pe_int (nomark _)) (pss_one (ps_ret pe_bl)) pss_nil)
      (pss_cons (ps_for PassesOwn.never rfl (pi_enum (by rfl) G.enumerate (pa_cons (pv 1) pa_nil)) (pg_tup (by rfl) (pgs_cons (pg_name (i := 2) scis_all.nd rfl (Or.inl rfl)) (pgs_cons (pg_name (i := 3) scis_all.nd rfl (Or.inl rfl)) pgs_nil))) (pss_one (ps_for PassesOwn.never rfl (pi_list (pe_slice sl_list (pv 1) po_none (po_some (pv 2)))) (pg_name (i := 4) scis_all.nd rfl (Or.inl rfl)) (pss_one (ps_if (PW.pt (pw_or (pt_cmpR op_ge (pv 4) (pv 3) (nomark _)) (pw_or1 (pt_cmpR op_notIn_seq (pv 4) (pe_dget (hu_of hr) (pv 0) (pv 3) (fun _ _ => rfl)) (by rfl))))) (pss_one (ps_ret pe_bl)) pss_nil)))))
      (pss_one (ps_ret pe_bl)))), ?_⟩
    refine ⟨_, rfl, a, _, rfl, .inl (SqL.of ha), _, _, rfl, rfl, _, rfl, ite2 (fun e => ?_) fun e => ?_⟩
    · have e := of_decide_eq_true e
      rw [List.length_map] at e
      exact k false H (Same.refl H) ⟨(fun z => nomatch z), fun z => absurd (show 2 ≤ l.length from z.1) (by omega)⟩
    · have e : 2 ≤ l.length := by
        have e := not_dec e
        rw [List.length_map] at e
        omega
      refine ⟨_, rfl, a, _, rfl, SqL.of ha, for_it walk_enum (fun i σ H' => ∃ y2 y3 y4 : Option V, σ = [some (.ref d), some (.ref a), y2, y3, y4] ∧ Same H H' ∧ (l.take i).Pairwise fun x y => x < y ∧ Tied ts x y)
        ⟨none, none, none, rfl, Same.refl H, List.Pairwise.nil⟩ (fun i σ H' _ ⟨_, _, _, _, s5, _⟩ => s5.seq (SqL.of ha)) ?_ ?_⟩
      · rintro i x σ H1 H2 hi ⟨y2, y3, y4, rfl, sm, hpw⟩ ⟨T, x1, x2, rfl, nT, rfl, e1, e2⟩
        obtain rfl := Option.some.inj e1
        have e2 : (l.map V.int)[i]? = some x2 := e2
        rw [List.getElem?_map] at e2
        obtain ⟨x, hx, rfl⟩ := Option.map_eq_some_iff.mp e2
        have s2 : Same H (upd H1 T (.tup [.int (i : Nat), .int x])) := sm.trans (same_new nT)
        refine ⟨T, _, rfl, SqT.of upd_same, rfl, _, _, rfl, _, _, rfl, rfl, ?_⟩
        refine ⟨_, rfl, _, rfl, _, rfl, a, _, rfl, SqL.of (s2 _ _ ha), fun p np => ?_⟩
        have s3 : Same H (upd (upd H1 T (.tup [.int (i : Nat), .int x])) p (.lst (cutV (l.map V.int) none (some (i : Int))))) := s2.trans (same_new np)
        have hp : (upd (upd H1 T (.tup [.int (i : Nat), .int x])) p (.lst (cutV (l.map V.int) none (some (i : Int))))) p = some (.lst ((l.take i).map V.int)) := by rw [upd_same, cut_take, List.map_take]
        generalize upd (upd H1 T (.tup [.int (i : Nat), .int x])) p (.lst (cutV (l.map V.int) none (some (i : Int)))) = H3 at s3 hp
        obtain ⟨kvs, hd, hb1, _⟩ := hB
        obtain ⟨L, ns, hv, hL, _, hns⟩ := hb1 x (hk x (mem_at hx))
        refine ⟨p, rfl, ⟨_, SqL.of hp⟩, for_list (K := K) (a := p) (xs := (l.take i).map V.int) (fun j σ H' => ∃ y4 : Option V, σ = [some (.ref d), some (.ref a), some (.int (i : Nat)), some (.int x), y4] ∧ H' = H3 ∧ ∀ z ∈ (l.take i).take j, z < x ∧ Tied ts z x)
          ⟨_, rfl, rfl, fun z hz => by rw [List.take_zero] at hz; cases hz⟩ (fun j σ H' _ ⟨_, _, e, _⟩ => by rw [e]; exact SqL.of hp) ?_ ?_⟩
        · rintro j y σ H4 hy ⟨y4, rfl, rfl, hall⟩
          rw [List.getElem?_map] at hy
          obtain ⟨z, hz, rfl⟩ := Option.map_eq_some_iff.mp hy
          obtain ⟨hji, hlj⟩ := take_lt hz
          refine ⟨_, rfl, _, rfl, _, _, rfl, rfl, _, rfl, ite2 (fun e => ?_) fun e => ?_⟩
          · have e : x ≤ z := of_decide_eq_true e
            refine iteT (k false _ s3 ⟨(fun z => nomatch z), fun q => ?_⟩)
            have h9 : z < x := (pw_at q.2 hji hlj hx).1
            exact absurd h9 (by omega)
          · have e : z < x := by
              have e := not_dec e
              omega
            refine ⟨_, rfl, _, rfl, _, rfl, d, _, rfl, dget_of (s3 _ _ hd) hv, L, _, rfl, .inl (SqL.of (s3 _ _ hL)), rfl, flat_ints, _, rfl, ?_⟩
            show (if (!inV (.int z) (ns.map V.int)) = true then _ else _)
            rw [inV_int]
            by_cases hm : z ∈ ns
            · rw [decide_eq_true hm]
              refine iteF ⟨_, rfl, rfl, fun u hu => ?_⟩
              rw [take_at hz] at hu
              rcases List.mem_append.mp hu with hu | hu
              · exact hall u hu
              · rw [List.mem_singleton.mp hu]
                exact ⟨e, ((hns z).mp hm).symm⟩
            · rw [decide_eq_false hm]
              refine iteT (k false _ s3 ⟨(fun z => nomatch z), fun q => ?_⟩)
              exact absurd ((hns z).mpr (pw_at q.2 hji hlj hx).2.symm) hm
        · rintro σ H4 ⟨y4, rfl, rfl, hall⟩
          rw [List.take_of_length_le (by rw [List.length_map]; exact Nat.le_refl _)] at hall
          refine ⟨_, _, _, rfl, s3, ?_⟩
          rw [take_at hx]
          exact pw_snoc hpw hall
      · rintro σ H1 ⟨y2, y3, y4, rfl, sm, hpw⟩
        rw [List.take_of_length_le (by rw [List.length_map]; exact Nat.le_refl _)] at hpw
        exact k true _ sm ⟨fun _ => ⟨e, hpw⟩, fun _ => rfl⟩
end
end TA
namespace TA
open PySem PySem.Spec PyProof.Rows L2
theorem at_prev {l : List Int} {i : Nat} {y : Int} (hi : i < l.length) (h : prevI l i = some y) : atI (l.map V.int) ((i : Int) - 1) = some (.int y) := by
  unfold prevI at h
  by_cases e : i = 0
  · subst e
    rw [if_pos rfl] at h
    unfold atI ixN
    rw [if_neg (by omega), List.length_map, if_pos (by omega), Option.bind_some]
    have e2 : (((0 : Nat) : Int) - 1 + (l.length : Int)).toNat = l.length - 1 := by omega
    rw [e2, List.getElem?_map, h]
    rfl
  · rw [if_neg e] at h
    exact at_of (j := i - 1) (by omega) (by rw [List.getElem?_map, h]; rfl)
section
variable {P : Program} {w : World} {K : PySem.W.Frag} {mg : Str → Option Value} {base : Heap}
/- is_ring: slots 0:book 1:thing 2:number 3:place; calls  -/
abbrev sis_ring : Stmt := topS 23
abbrev nis_ring : List Str := ["book", "thing", "number", "place"]
theorem scis_ring : FnScope nis_ring ["book", "thing"] (defScope sis_ring) := ⟨rfl, rfl, rfl, by decide +kernel, rfl, by decide +kernel, by decide +kernel⟩
def spis_ring : Sp := fun vs H Q _ => ∃ (d a : Addr) (ps ts : List Pr) (l : List Int), vs = [.ref d, .ref a] ∧ BookAt H d ps ts ∧ IntsAt H a l ∧ (∀ x ∈ l, x ∈ keys ps) ∧ ∀ (b : Bool) H', Same H H' → (b = true ↔ RingOk ts l) → Q (.bl b) H'
theorem okis_ring (G : Glb mg) (S : Std K mg "is_ring" sis_ring ["book", "thing"]) : Cal P w K mg base CX0 1 "is_ring" ["book", "thing"] spis_ring := S.cal fun f fd F => by
  refine F.ok scis_ring (fun vs H Q E h => ?_) (fun cdv A outer s H vs Q E hr h => ?_)
  · obtain ⟨d, a, ps, ts, l, rfl, _⟩ := h
    rfl
  · obtain ⟨d, a, ps, ts, l, rfl, hB, ha, hk, k⟩ := h
    have ha : H a = some (.lst (l.map V.int)) := ha
    obtain ⟨kvs, hd, hb1, _⟩ := hB
    refine ⟨_, (pss_cons (ps_if (PW.pt (pw_or (pt_cmpR op_lt (pe_callB call_len_seq (by rfl) G.len (by decide +kernel) (pa_cons (pv 1) pa_nil)) pe_int (nomark _)) (pw_or1 (pt_cmpR op_eq (pe_op op_mod (pe_callB call_len_seq (by rfl) G.len (by decide +kernel) (pa_cons (pv 1) pa_nil)) pe_int) pe_int (nomark _))))) (pss_one (ps_ret pe_bl)) pss_nil)
      (pss_cons (ps_for PassesOwn.never rfl (pi_enum (by rfl) G.enumerate (pa_cons (pv 1) pa_nil)) (pg_tup (by rfl) (pgs_cons (pg_name (i := 2) scis_ring.nd rfl (Or.inl rfl)) (pgs_cons (pg_name (i := 3) scis_ring.nd rfl (Or.inl rfl)) pgs_nil))) (pss_one (ps_if (PW.pt (pw_or (pt_cmpR op_in_seq (pv 3) (pe_slice sl_list (pv 1) po_none (po_some (pv 2))) (by rfl)) (pw_or1 (pt_cmpR op_notIn_seq (pv 3) (pe_dget (hu_of hr) (pv 0) (pe_ix ix_list (pv 1) (pe_op op_sub (pv 2) pe_int) (fun _ _ => rfl)) (fun _ _ => rfl)) (by rfl))))) (pss_one (ps_ret pe_bl)) pss_nil)))
      (pss_one (ps_ret pe_bl)))), ?_⟩
    refine ⟨_, rfl, a, _, rfl, .inl (SqL.of ha), _, _, rfl, rfl, _, rfl, ite2 (fun e => ?_) fun e => ?_⟩
    · have e := of_decide_eq_true e
      rw [List.length_map] at e
      exact iteT (k false H (Same.refl H) ⟨(fun z => nomatch z), fun z => absurd (show 3 ≤ l.length from z.1) (by omega)⟩)
    · have e3 : 3 ≤ l.length := by
        have e := not_dec e
        rw [List.length_map] at e
        omega
      refine ⟨_, rfl, a, _, rfl, .inl (SqL.of ha), _, _, rfl, rfl, (show (0 : Int) < 2 by decide), rfl, _, rfl, ite2 (fun e => ?_) fun e => ?_⟩
      · have e : (((l.map V.int).length : Nat) : Int) % 2 = 0 := V.int.inj (of_decide_eq_true e)
        rw [List.length_map] at e
        exact k false H (Same.refl H) ⟨(fun z => nomatch z), fun z => absurd (show l.length % 2 = 1 from z.2.1) (by omega)⟩
      · have eo : l.length % 2 = 1 := by
          have e : ¬ (((l.map V.int).length : Nat) : Int) % 2 = 0 := fun z => not_dec e (congrArg V.int z)
          rw [List.length_map] at e
          omega
        refine ⟨_, rfl, a, _, rfl, SqL.of ha, for_it walk_enum (fun i σ H' => ∃ y2 y3 : Option V, σ = [some (.ref d), some (.ref a), y2, y3] ∧ Same H H' ∧ (l.take i).Nodup ∧ ∀ (j : Nat) (x y : Int), j < i → l[j]? = some x → prevI l j = some y → Tied ts y x)
          ⟨none, none, rfl, Same.refl H, List.nodup_nil, fun j x y h => absurd h (Nat.not_lt_zero j)⟩ (fun i σ H' _ ⟨_, _, _, s5, _⟩ => s5.seq (SqL.of ha)) ?_ ?_⟩
        · rintro i x σ H1 H2 hi ⟨y2, y3, rfl, sm, hnd, hti⟩ ⟨T, x1, x2, rfl, nT, rfl, e1, e2⟩
          obtain rfl := Option.some.inj e1
          have e2 : (l.map V.int)[i]? = some x2 := e2
          rw [List.getElem?_map] at e2
          obtain ⟨x, hx, rfl⟩ := Option.map_eq_some_iff.mp e2
          have hil := lt_at hx
          have s2 : Same H (upd H1 T (.tup [.int (i : Nat), .int x])) := sm.trans (same_new nT)
          refine ⟨T, _, rfl, SqT.of upd_same, rfl, _, _, rfl, _, _, rfl, rfl, ?_⟩
          refine ⟨_, rfl, _, rfl, _, rfl, _, rfl, a, _, rfl, SqL.of (s2 _ _ ha), fun p np => ?_⟩
          have s3 : Same H (upd (upd H1 T (.tup [.int (i : Nat), .int x])) p (.lst (cutV (l.map V.int) none (some (i : Int))))) := s2.trans (same_new np)
          have hp : (upd (upd H1 T (.tup [.int (i : Nat), .int x])) p (.lst (cutV (l.map V.int) none (some (i : Int))))) p = some (.lst ((l.take i).map V.int)) := by rw [upd_same, cut_take, List.map_take]
          generalize upd (upd H1 T (.tup [.int (i : Nat), .int x])) p (.lst (cutV (l.map V.int) none (some (i : Int)))) = H3 at s3 hp
          obtain ⟨y, hy, hyl⟩ := prevI_some hil
          obtain ⟨L, ns, hv, hL, _, hns⟩ := hb1 y (hk y hyl)
          refine ⟨p, _, rfl, .inl (SqL.of hp), rfl, flat_ints, _, rfl, ?_⟩
          show (if (inV (.int x) ((l.take i).map V.int)) = true then _ else _)
          rw [inV_int]
          by_cases hm : x ∈ l.take i
          · rw [decide_eq_true hm]
            refine iteT (iteT (k false _ s3 ⟨(fun z => nomatch z), fun q => ?_⟩))
            exact absurd hm (nd_at q.2.2.1 hx)
          · rw [decide_eq_false hm]
            refine iteF ⟨_, rfl, _, rfl, _, rfl, _, rfl, _, _, rfl, rfl, a, _, _, _, rfl, rfl, SqL.of (s3 _ _ ha), at_prev hil hy, d, _, rfl, dget_of (s3 _ _ hd) hv, L, _, rfl, .inl (SqL.of (s3 _ _ hL)), rfl, flat_ints, _, rfl, ?_⟩
            show (if (!inV (.int x) (ns.map V.int)) = true then _ else _)
            rw [inV_int]
            by_cases hm2 : x ∈ ns
            · rw [decide_eq_true hm2]
              refine iteF ⟨_, _, rfl, s3, ?_, fun j x' y' hj hx' hy' => ?_⟩
              · rw [take_at hx]
                exact pw_snoc (R := (· ≠ ·)) hnd fun z hz e => hm (e ▸ hz)
              · by_cases e : j = i
                · subst e
                  rw [hx] at hx'
                  rw [hy] at hy'
                  obtain rfl := Option.some.inj hx'
                  obtain rfl := Option.some.inj hy'
                  exact (hns x).mp hm2
                · exact hti j x' y' (by omega) hx' hy'
            · rw [decide_eq_false hm2]
              refine iteT (k false _ s3 ⟨(fun z => nomatch z), fun q => ?_⟩)
              exact absurd ((hns x).mpr (((ring_iff e3 eo).mp q).2 i x y hx hy)) hm2
        · rintro σ H1 ⟨y2, y3, rfl, sm, hnd, hti⟩
          rw [List.take_of_length_le (by rw [List.length_map]; exact Nat.le_refl _)] at hnd
          refine k true _ sm ⟨fun _ => (ring_iff e3 eo).mpr ⟨hnd, fun j x y hx hy => hti j x y (by rw [List.length_map]; exact lt_at hx) hx hy⟩, fun _ => rfl⟩
/- is_row: slots 0:book* 1:thing 2:word 3:places 4:amount 5:place; calls is_whole is_all is_ring -/
abbrev sis_row : Stmt := topS 24
abbrev nis_row : List Str := ["book", "thing", "word", "places", "amount", "place"]
theorem scis_row : FnScope nis_row ["book", "thing"] (defScope sis_row) := ⟨rfl, rfl, rfl, by decide +kernel, rfl, by decide +kernel, by decide +kernel⟩
def spis_row : Sp := fun vs H Q _ => ∃ (d : Addr) (x : V) (ps ts : List Pr) (r : RowD), vs = [.ref d, x] ∧ BookAt H d ps ts ∧ RowG H x r ∧ r.ps.length ≤ 1000 ∧ ∀ (b : Bool) H', Same H H' → (b = true ↔ RowOk ps ts r) → Q (.bl b) H'
theorem okis_row (G : Glb mg) (S : Std K mg "is_row" sis_row ["book", "thing"]) (Cis_whole : Cal P w K mg base CX0 1 "is_whole" ["thing"] spis_whole) (Cis_all : Cal P w K mg base CX0 1 "is_all" ["book", "thing"] spis_all) (Cis_ring : Cal P w K mg base CX0 1 "is_ring" ["book", "thing"] spis_ring) :
    Cal P w K mg base CX0 2 "is_row" ["book", "thing"] spis_row := S.cal fun f fd F => by
  refine F.ok scis_row (fun vs H Q E h => ?_) (fun cdv A outer s H vs Q E hr h => ?_)
  · obtain ⟨d, x, ps, ts, r, rfl, _⟩ := h
    rfl
  · obtain ⟨d, x, ps, ts, ⟨wd, l, am⟩, rfl, hB, ⟨t, a, rfl, ht, ha⟩, hsm, k⟩ := h
    have ht : H t = some (.tup [.str (wdS wd), .ref a, .int am]) := ht
    have ha : H a = some (.lst (l.map V.int)) := ha
    have hsm : l.length ≤ 1000 := hsm
    obtain ⟨kvs, hd, hb1, hb2⟩ := id hB
    refine ⟨_, (pss_cons (ps_if (PW.pt (pw_or (pt_not (pt_val (pe_callB call_isi (by rfl) G.isinstance (by decide +kernel) (pa_cons (pv 1) (pa_cons (pe_bltn (v := .ty "tuple") (by rfl) G.tuple (by decide +kernel) rfl) pa_nil))))) (pw_or (pt_cmpR op_ne (pe_callB call_len_seq (by rfl) G.len (by decide +kernel) (pa_cons (pv 1) pa_nil)) pe_int (nomark _)) (pw_or1 (pt_not (pt_val (pe_callB call_isi (by rfl) G.isinstance (by decide +kernel) (pa_cons (pe_ix ix_tup (pv 1) pe_int (fun _ _ => rfl)) (pa_cons (pe_bltn (v := .ty "str") (by rfl) G.str (by decide +kernel) rfl) pa_nil))))))))) (pss_one (ps_ret pe_bl)) pss_nil)
      (pss_cons (ps_asg (pv 1) (pg_tup (by rfl) (pgs_cons (pg_name (i := 2) scis_row.nd rfl (Or.inl rfl)) (pgs_cons (pg_name (i := 3) scis_row.nd rfl (Or.inl rfl)) (pgs_cons (pg_name (i := 4) scis_row.nd rfl (Or.inl rfl)) pgs_nil)))))
      (pss_cons (ps_if (PW.pt (pw_or (pt_not (pt_val (pe_callB call_isi (by rfl) G.isinstance (by decide +kernel) (pa_cons (pv 3) (pa_cons (pe_bltn (v := .ty "list") (by rfl) G.list (by decide +kernel) rfl) pa_nil))))) (pw_or (pt_not (pt_val (pe_cal Cis_whole (hr.mono (by decide)) (by rfl) pass0 (pa_cons (pv 4) pa_nil)))) (pw_or1 (pt_cmpR op_lt (pv 4) pe_int (nomark _)))))) (pss_one (ps_ret pe_bl)) pss_nil)
      (pss_cons (ps_if (pt_not (pt_val (pe_callB (cr_all rfl) (by rfl) G.all (by decide +kernel) (pa_cons (pe_lc (own := [("place", 5)]) rfl scis_row.nd (pi_list (pv 3)) (blkOk_by (own := [("place", 5)]) (N := nis_row) (sc := defScope sis_row) (by decide +kernel)) (fun _ _ _ _ _ => (pg_name (i := 5) scis_row.nd rfl (Or.inl rfl))) (fun _ _ _ _ _ => pts_nil) (fun _ _ _ _ _ => (pe_and (pe_cal Cis_whole (hr.mono (by decide)) (by rfl) pass0 (pa_cons (pv 5) pa_nil)) (pe_one (pe_cmp (pc_din (hu_of hr) (pv 5) (pv 0))))))) pa_nil)))) (pss_one (ps_ret pe_bl)) pss_nil)
      (pss_cons (ps_if (pt_cmpR op_eq (pv 2) pe_str (nomark _)) (pss_one (ps_ret (pe_cal Cis_all (hr.mono (by decide)) (by rfl) pass0 (pa_cons (pv 0) (pa_cons (pv 3) pa_nil))))) pss_nil)
      (pss_one (ps_ret (pe_and (pe_cmpR op_eq (pv 2) pe_str (nomark _)) (pe_one (pe_cal Cis_ring (hr.mono (by decide)) (by rfl) pass0 (pa_cons (pv 0) (pa_cons (pv 3) pa_nil)))))))))))), ?_⟩
    refine ⟨_, rfl, _, _, _, _, true, rfl, .ty _, .base (.tup ht), kit_ty (by decide +kernel), true, rfl, iteF ?_⟩
    refine ⟨_, rfl, t, _, rfl, .inr (SqT.of ht), rfl, _, rfl, ifF (neI rfl) ?_⟩
    refine ⟨_, rfl, t, _, 0, _, rfl, rfl, SqT.of ht, rfl, _, _, _, _, true, rfl, .ty _, .base (.str _), kit_ty (by decide +kernel), true, rfl, iteF ?_⟩
    refine ⟨_, rfl, t, _, rfl, SqT.of ht, rfl, _, _, rfl, _, _, rfl, _, _, rfl, rfl, ?_⟩
    refine ⟨_, rfl, _, _, _, _, true, rfl, .ty _, .base (.lst ha), kit_ty (by decide +kernel), true, rfl, iteF ?_⟩
    refine ⟨_, rfl, am, rfl, true, rfl, iteF ?_⟩
    refine ⟨_, rfl, _, _, rfl, rfl, _, rfl, ite2 (fun e => ?_) fun e => ?_⟩
    · have e := of_decide_eq_true e
      exact k false H (Same.refl H) ⟨(fun z => nomatch z), fun z => absurd (show 1 ≤ am from z.1) (by omega)⟩
    · have eam : 1 ≤ am := by
        have e := not_dec e
        omega
      refine ⟨_, rfl, a, rfl, ⟨_, SqL.of ha⟩, fun D nD => ?_⟩
      refine lc_list (K := K) (a := a) (xs := l.map V.int) (fun i H' => Same H H' ∧ H' D = some (.lst (((l.take i).map fun x => decide (x ∈ keys ps)).map V.bl))) ⟨same_new nD, upd_same⟩ (fun i H' _ p => p.1.seq (SqL.of ha)) ?_ ?_
      · rintro i x H1 hx ⟨sm, hD⟩
        rw [List.getElem?_map] at hx
        obtain ⟨z, hz, rfl⟩ := Option.map_eq_some_iff.mp hx
        have hzl := lt_at hz
        refine ⟨rfl, ?_⟩
        refine ⟨_, rfl, z, rfl, true, rfl, iteT ?_⟩
        refine ⟨_, rfl, _, rfl, d, _, rfl, DGet.k (k := Sum.inl z) (sm _ _ hd), _, hD, small_lt (by rw [List.length_map, List.length_map, List.length_take]; omega), sm.mut nD, ?_⟩
        rw [upd_same, take_at hz, List.map_append, List.map_append]
        have e : (valV kvs (Sum.inl z)).isSome = decide (z ∈ keys ps) := by
          by_cases hm : z ∈ keys ps
          · obtain ⟨_, _, hv, _⟩ := hb1 z hm
            rw [hv, decide_eq_true hm]
            rfl
          · rw [hb2 z hm, decide_eq_false hm]
            rfl
        rw [e]
        rfl
      · rintro H1 ⟨sm, hD⟩
        rw [List.take_of_length_le (by rw [List.length_map]; exact Nat.le_refl _)] at hD
        refine ⟨D, _, rfl, SqL.of hD, _, rfl, ?_⟩
        by_cases hall : ∀ x ∈ l, x ∈ keys ps
        · have e : ((l.map fun x => decide (x ∈ keys ps)).all id) = true := by
            rw [List.all_map, List.all_eq_true]
            intro x hx
            exact decide_eq_true (hall x hx)
          rw [e]
          refine iteF ?_
          cases wd with
          | true =>
            refine ⟨_, rfl, rfl, _, rfl, ifT (by decide) ?_⟩
            refine ⟨_, rfl, _, rfl, d, a, ps, ts, l, rfl, hB.same sm, sm _ _ ha, hall, fun b H2 s2 hb => k b H2 (sm.trans s2) ?_⟩
            rw [hb]
            exact ⟨fun q => ⟨eam, hall, q⟩, fun q => q.2.2⟩
          | false =>
            refine ⟨_, rfl, rfl, _, rfl, ifF (by decide) ?_⟩
            refine ⟨_, rfl, rfl, _, rfl, ifT (by decide) ?_⟩
            refine ⟨_, rfl, _, rfl, d, a, ps, ts, l, rfl, hB.same sm, sm _ _ ha, hall, fun b H2 s2 hb => k b H2 (sm.trans s2) ?_⟩
            rw [hb]
            exact ⟨fun q => ⟨eam, hall, q⟩, fun q => q.2.2⟩
        · have e : ((l.map fun x => decide (x ∈ keys ps)).all id) = false := by
            cases e : ((l.map fun x => decide (x ∈ keys ps)).all id) with
            | false => rfl
            | true =>
              rw [List.all_map, List.all_eq_true] at e
              exact absurd (fun x hx => of_decide_eq_true (e x hx)) hall
          rw [e]
          exact iteT (k false _ sm ⟨(fun z => nomatch z), fun z => absurd z.2.1 hall⟩)
/- gives: slots 0:row 1:word 2:places 3:amount; calls  -/
abbrev sgives : Stmt := topS 25
abbrev ngives : List Str := ["row", "word", "places", "amount"]
theorem scgives : FnScope ngives ["row"] (defScope sgives) := ⟨rfl, rfl, rfl, by decide +kernel, rfl, by decide +kernel, by decide +kernel⟩
def spgives : Sp := fun vs H Q _ => ∃ (x : V) (r : RowD), vs = [x] ∧ RowG H x r ∧ Q (.int (givesD r)) H
theorem okgives (G : Glb mg) (S : Std K mg "gives" sgives ["row"]) : Cal P w K mg base CX0 1 "gives" ["row"] spgives := S.cal fun f fd F => by
  refine F.ok scgives (fun vs H Q E h => ?_) (fun cdv A outer s H vs Q E hr h => ?_)
  · obtain ⟨x, r, rfl, _⟩ := h
    rfl
  · obtain ⟨x, ⟨wd, l, am⟩, rfl, ⟨t, a, rfl, ht, ha⟩, k⟩ := h
    have ht : H t = some (.tup [.str (wdS wd), .ref a, .int am]) := ht
    have ha : H a = some (.lst (l.map V.int)) := ha
    refine ⟨_, (pss_cons (ps_asg (pv 0) (pg_tup (by rfl) (pgs_cons (pg_name (i := 1) scgives.nd rfl (Or.inl rfl)) (pgs_cons (pg_name (i := 2) scgives.nd rfl (Or.inl rfl)) (pgs_cons (pg_name (i := 3) scgives.nd rfl (Or.inl rfl)) pgs_nil)))))
      (pss_cons (ps_if (pt_cmpR op_eq (pv 1) pe_str (nomark _)) (pss_one (ps_ret (pe_op op_sub (pe_callB call_len_seq (by rfl) G.len (by decide +kernel) (pa_cons (pv 2) pa_nil)) pe_int))) pss_nil)
      (pss_one (ps_ret (pe_op op_fdivW (pe_op op_add (pe_callB call_len_seq (by rfl) G.len (by decide +kernel) (pa_cons (pv 2) pa_nil)) pe_int) pe_int))))), ?_⟩
    refine ⟨_, rfl, t, _, rfl, SqT.of ht, rfl, _, _, rfl, _, _, rfl, _, _, rfl, rfl, ?_⟩
    cases wd with
    | true =>
      refine ⟨_, rfl, rfl, _, rfl, ifT (by decide) ?_⟩
      refine ⟨_, rfl, a, _, rfl, .inl (SqL.of ha), _, _, rfl, rfl, ?_⟩
      rw [List.length_map]
      exact k
    | false =>
      refine ⟨_, rfl, rfl, _, rfl, ifF (by decide) ?_⟩
      refine ⟨_, rfl, a, _, rfl, .inl (SqL.of ha), _, _, rfl, rfl, _, _, rfl, rfl, ⟨by decide, by decide⟩, ?_⟩
      rw [List.length_map]
      exact k
end
end TA
namespace TA
open PySem PySem.Spec PyProof.Rows L2
theorem paid_put {kvs : List (Key × V)} {f : Int → Int} {z am : Int} (h : ∀ k, (valV kvs (Sum.inl k)).getD (.int 0) = .int (f k)) (k : Int) :
    (valV (putK kvs (Sum.inl z) (.int (f z + am))) (Sum.inl k)).getD (.int 0) = .int (f k + am * (if z = k then 1 else 0)) := by
  rw [valV_put]
  by_cases e : k = z
  · subst e
    rw [if_pos rfl, if_pos rfl, Int.mul_one]
    rfl
  · rw [if_neg (inl_ne e), if_neg (fun q => e q.symm), Int.mul_zero, Int.add_zero]
    exact h k
theorem take_map_all (l : List Int) : l.take (l.map V.int).length = l := by rw [List.length_map, List.take_length]
theorem count_snoc (l : List Int) (z k : Int) : ((l ++ [z]).count k : Int) = (l.count k : Int) + (if z = k then 1 else 0) := by
  rw [List.count_append]
  by_cases e : z = k
  · subst e
    simp
  · rw [if_neg e, List.count_singleton, if_neg (by simpa using e)]
    simp
section
variable {P : Program} {w : World} {K : PySem.W.Frag} {mg : Str → Option Value} {base : Heap}
/- paid_by: slots 0:rows 1:found 2:word 3:places 4:amount 5:place; calls  -/
abbrev spaid_by : Stmt := topS 26
abbrev npaid_by : List Str := ["rows", "found", "word", "places", "amount", "place"]
theorem scpaid_by : FnScope npaid_by ["rows"] (defScope spaid_by) := ⟨rfl, rfl, rfl, by decide +kernel, rfl, by decide +kernel, by decide +kernel⟩
def sppaid_by : Sp := fun vs H Q _ => ∃ (a : Addr) (rs : List RowD), vs = [.ref a] ∧ RowsAt H a rs ∧ Small rs ∧ ∀ d H', Same H H' → H d = none → PaidAt H' d (paidD rs) 1000000 → Q (.ref d) H'
theorem okpaid_by (G : Glb mg) (S : Std K mg "paid_by" spaid_by ["rows"]) : Cal P w K mg base CX0 1 "paid_by" ["rows"] sppaid_by := S.cal fun f fd F => by
  refine F.ok scpaid_by (fun vs H Q E h => ?_) (fun cdv A outer s H vs Q E hr h => ?_)
  · obtain ⟨a, rs, rfl, _⟩ := h
    rfl
  · obtain ⟨a, rs, rfl, ⟨xs, ha, hp⟩, ⟨hs1, hs2⟩, k⟩ := h
    have hlen := Paired.length hp
    refine ⟨_, (pss_cons (ps_set (i := 1) scpaid_by.nd rfl (Or.inl rfl) pe_dnewK)
      (pss_cons (ps_for PassesOwn.never rfl (pi_list (pv 0)) (pg_tup (by rfl) (pgs_cons (pg_name (i := 2) scpaid_by.nd rfl (Or.inl rfl)) (pgs_cons (pg_name (i := 3) scpaid_by.nd rfl (Or.inl rfl)) (pgs_cons (pg_name (i := 4) scpaid_by.nd rfl (Or.inl rfl)) pgs_nil)))) (pss_one (ps_for PassesOwn.never rfl (pi_list (pv 3)) (pg_name (i := 5) scpaid_by.nd rfl (Or.inl rfl)) (pss_one (ps_dput (hu_of hr) (pv 1) (pv 5) (pe_op op_add (pe_dget2 (hu_of hr) (pv 1) (pv 5) pe_int ⟨rfl, rfl, rfl, rfl⟩) (pv 4)) rfl)))))
      (pss_one (ps_ret (pv 1))))), ?_⟩
    intro d nd
    have s2 : Same H (upd H d (.dK [])) := same_new nd
    refine ⟨_, rfl, a, rfl, ⟨xs, SqL.of (s2 _ _ ha)⟩, for_list (K := K) (a := a) (xs := xs) (fun i σ H' => ∃ y2 y3 y4 y5 : Option V, σ = [some (.ref a), some (.ref d), y2, y3, y4, y5] ∧ Same H H' ∧ PaidAt H' d (paidD (rs.take i)) (1000 * i))
      ⟨none, none, none, none, rfl, s2, [], upd_same, Nat.le_refl _, fun _ => rfl⟩ (fun i σ H' _ ⟨_, _, _, _, _, s5, _⟩ => s5.seq (SqL.of ha)) ?_ ?_⟩
    · rintro i x σ H1 hx ⟨y2, y3, y4, y5, rfl, sm, kvs0, hd0, hl0, hv0⟩
      have hi := lt_at hx
      obtain ⟨⟨wd, l, am⟩, hq, t, b, rfl, ht, hb⟩ := lof_at hp hx
      have ht : H t = some (.tup [.str (wdS wd), .ref b, .int am]) := ht
      have hb : H b = some (.lst (l.map V.int)) := hb
      have hll : l.length ≤ 1000 := hs2 _ (mem_at hq)
      refine ⟨t, _, rfl, SqT.of (sm _ _ ht), rfl, _, _, rfl, _, _, rfl, _, _, rfl, rfl, ?_⟩
      refine ⟨_, rfl, b, rfl, ⟨_, SqL.of (sm _ _ hb)⟩, for_list (K := K) (a := b) (xs := l.map V.int) (fun j σ H' => ∃ y5 : Option V, σ = [some (.ref a), some (.ref d), some (.str (wdS wd)), some (.ref b), some (.int am), y5] ∧ Same H H' ∧ PaidAt H' d (fun k => paidD (rs.take i) k + am * ((l.take j).count k : Int)) (1000 * i + j))
        ⟨_, rfl, sm, kvs0, hd0, hl0, fun k => by rw [hv0 k]; simp⟩ (fun j σ H' _ ⟨_, _, s5, _⟩ => s5.seq (SqL.of hb)) ?_ ?_⟩
      · rintro j x σ H2 hx ⟨y5, rfl, sm, kvs, hd, hl, hv⟩
        have hj := lt_at hx
        rw [List.length_map] at hj
        rw [List.getElem?_map] at hx
        obtain ⟨z, hz, rfl⟩ := Option.map_eq_some_iff.mp hx
        refine ⟨_, rfl, d, rfl, .inl ⟨kvs, .inl hd⟩, _, rfl, _, DGet.k (k := Sum.inl z) hd, _, rfl, _, am, hv z, rfl, ?_⟩
        refine ⟨_, rfl, _, rfl, d, _, rfl, dput_of hd (by omega), ?_⟩
        refine ⟨_, rfl, sm.mut nd, _, upd_same, Nat.le_trans (length_putK _ _ _) (by omega), fun k => ?_⟩
        rw [paid_put hv k, take_at hz]
        show V.int (paidD (rs.take i) k + am * ((l.take j).count k : Int) + am * (if z = k then 1 else 0)) = V.int (paidD (rs.take i) k + am * ((l.take j ++ [z]).count k : Int))
        rw [count_snoc, Int.mul_add, Int.add_assoc]
      · rintro σ H2 ⟨y5, rfl, sm, kvs, hd, hl, hv⟩
        simp only [take_map_all] at hv
        rw [List.length_map] at hl
        refine ⟨_, _, _, _, rfl, sm, kvs, hd, by omega, fun k => ?_⟩
        rw [hv k, take_at hq, paid_snoc]
    · rintro σ H1 ⟨y2, y3, y4, y5, rfl, sm, kvs, hd, hl, hv⟩
      rw [hlen, List.take_of_length_le (Nat.le_refl _)] at hv
      exact ⟨_, rfl, k _ _ sm nd ⟨kvs, hd, by omega, hv⟩⟩
/-! ### the errors' own __init__ -/
abbrev sinit (i : Nat) : Stmt := inClass (topS i) 0
theorem scNoRows : FnScope ["self", "number"] ["self", "number"] (defScope (sinit 3)) := ⟨rfl, rfl, rfl, by decide +kernel, rfl, by decide +kernel, by decide +kernel⟩
theorem scOverpaid : FnScope ["self", "place"] ["self", "place"] (defScope (sinit 4)) := ⟨rfl, rfl, rfl, by decide +kernel, rfl, by decide +kernel, by decide +kernel⟩
/-- what the written part tells of such a class at C, its __init__ at fI -/
structure Exc (K : PySem.W.Frag) (mg : Str → Option Value) (x q f : Str) (st : Stmt) (C fI : Addr) (fd : FuncData) : Prop where
  cls : OexC K C
  gC : mg x = some (.ref C)
  init : PySem.W.findIn K (.ref C) "__init__" = some (some (.ref fI))
  tI : PySem.W.typeIn K (.ref fI) = some (.type "function")
  noF : PySem.W.findIn K (.ref C) f = some none
  F : Fun K "__init__" q st fI fd
  b : Binds K fd ["self", f] []
def spInit (C : Addr) (f : Str) : Sp := fun vs H Q _ => ∃ (a : Addr) (v : V), vs = [.ref a, v] ∧ H a = some (exo a C none) ∧ ∀ dx, H dx = none → dx ≠ a → Q .non (upd (upd H dx (exd dx [(f, v)])) a (exo a C (some dx)))
theorem okNoRows {C fI : Addr} {fd : FuncData} (X : Exc K mg "NoRows" "NoRows.__init__" "number" (sinit 3) C fI fd) : FnOk P w K mg base CX0 1 fI fd ["self", "number"] (spInit C "number") := by
  refine X.F.ok scNoRows (fun vs H Q E h => ?_) (fun cdv A outer s H vs Q E hr h => ?_)
  · obtain ⟨a, v, rfl, _⟩ := h
    rfl
  · obtain ⟨a, v, rfl, ha, k⟩ := h
    refine ⟨_, pss_one (ps_ost (pv 0) (pv 1)), ?_⟩
    exact ⟨_, rfl, _, rfl, a, C, rfl, X.cls, X.noF, .inl ⟨ha, fun dx nd ne => k dx nd ne⟩⟩
theorem okOverpaid {C fI : Addr} {fd : FuncData} (X : Exc K mg "Overpaid" "Overpaid.__init__" "place" (sinit 4) C fI fd) : FnOk P w K mg base CX0 1 fI fd ["self", "place"] (spInit C "place") := by
  refine X.F.ok scOverpaid (fun vs H Q E h => ?_) (fun cdv A outer s H vs Q E hr h => ?_)
  · obtain ⟨a, v, rfl, _⟩ := h
    rfl
  · obtain ⟨a, v, rfl, ha, k⟩ := h
    refine ⟨_, pss_one (ps_ost (pv 0) (pv 1)), ?_⟩
    exact ⟨_, rfl, _, rfl, a, C, rfl, X.cls, X.noF, .inl ⟨ha, fun dx nd ne => k dx nd ne⟩⟩
/-- a made error: the reading of C(v) -/
theorem made_err {C : Addr} {f : Str} {v : V} {H H1 : Hp} {E : XK} (s : Same H H1) (k : ∀ d H', Same H H' → E (.ref C) (some d) H') : [v].length ≤ 1000 ∧ ∀ a, H1 a = none → spInit C f (.ref a :: ([v] ++ [])) (upd H1 a (exo a C none))
    (fun u H2 => u = .non ∧ ∃ (d : Addr) (fs : List (Str × V)), H2 a = some (exo a C (some d)) ∧ H2 d = some (exd d fs) ∧ H1 d = none ∧ E (.ref C) (some d) (upd (del H2 a) d (.xd fs))) (fun _ _ _ => False) := by
  refine ⟨by show 1 ≤ 1000; decide, fun a na => ⟨a, v, rfl, upd_same, fun dx nd ne => ?_⟩⟩
  have nd1 : H1 dx = none := by rw [upd_ne ne] at nd; exact nd
  refine ⟨rfl, dx, [(f, v)], upd_same, by rw [upd_ne ne, upd_same], nd1, k dx _ fun b o e => ?_⟩
  have e1 := s _ _ e
  have h1 : b ≠ dx := ne_of_none e1 nd1
  have h2 : b ≠ a := ne_of_none e1 na
  rw [upd_ne h1, del_ne h2, upd_ne h2, upd_ne h1, upd_ne h2]
  exact e1
/-! ### rows -/
def RowsOk (ps ts : List Pr) (rs : List RowD) : Prop := (∀ r ∈ rs, RowOk ps ts r) ∧ Within ps rs
/- look_at_rows: slots 0:web 1:thing 2:book 3:number 4:row 5:paid 6:place 7:price; calls look_at_web near_book is_row paid_by -/
abbrev slook_at_rows : Stmt := topS 27
abbrev nlook_at_rows : List Str := ["web", "thing", "book", "number", "row", "paid", "place", "price"]
theorem sclook_at_rows : FnScope nlook_at_rows ["web", "thing"] (defScope slook_at_rows) := ⟨rfl, rfl, rfl, by decide +kernel, rfl, by decide +kernel, by decide +kernel⟩
def splook_at_rows (C1 C2 : Addr) : Sp := fun vs H Q E => ∃ (w a : Addr) (ps ts : List Pr) (rs : List RowD), vs = [.ref w, .ref a] ∧ WebAt H w ps ts ∧ WebOk ps ts ∧ RowsAt H a rs ∧ Small rs ∧
  (RowsOk ps ts rs → ∀ H', Same H H' → Q .non H') ∧ (¬ RowsOk ps ts rs → ∀ C d H', (C = C1 ∨ C = C2) → Same H H' → E (.ref C) (some d) H')
theorem oklook_at_rows {C1 C2 f1 f2 : Addr} {fd1 fd2 : FuncData} (G : Glb mg) (S : Std K mg "look_at_rows" slook_at_rows ["web", "thing"]) (ONoRows : Exc K mg "NoRows" "NoRows.__init__" "number" (sinit 3) C1 f1 fd1) (OOverpaid : Exc K mg "Overpaid" "Overpaid.__init__" "place" (sinit 4) C2 f2 fd2)
    (Clook_at_web : Cal P w K mg base CX0 5 "look_at_web" ["thing"] splook_at_web) (Cnear_book : Cal P w K mg base CX0 1 "near_book" ["web"] spnear_book) (Cis_row : Cal P w K mg base CX0 2 "is_row" ["book", "thing"] spis_row) (Cpaid_by : Cal P w K mg base CX0 1 "paid_by" ["rows"] sppaid_by) :
    Cal P w K mg base (L2.CX P w) 6 "look_at_rows" ["web", "thing"] (splook_at_rows C1 C2) := S.cal fun f fd F => by
  have INoRows : FnOk P w K mg base CX0 1 f1 fd1 ["self", "number"] (spInit C1 "number") := okNoRows ONoRows
  have IOverpaid : FnOk P w K mg base CX0 1 f2 fd2 ["self", "place"] (spInit C2 "place") := okOverpaid OOverpaid
  have BNoRows := ONoRows.b
  have BOverpaid := OOverpaid.b
  refine F.okX sclook_at_rows (fun vs H Q E h => ?_) (fun cdv A outer s H vs Q E hr h => ?_)
  · obtain ⟨w, a, ps, ts, rs, rfl, _⟩ := h
    rfl
  · obtain ⟨w, a, ps, ts, rs, rfl, hw, ok, hrs, hsm, k, kE⟩ := h
    obtain ⟨xs, ha, hp⟩ := id hrs
    obtain ⟨_, cMOST_ROWS⟩ := G.cMR
    have hlen := Paired.length hp
    have hl200 := hsm.1
    refine ⟨_, (pss_cons (ps_expr (pe_cal Clook_at_web (hr.mono (by decide)) (by rfl) pass0 (pa_cons (pv 0) pa_nil)))
      (pss_cons (ps_if (PW.pt (pw_or (pt_not (pt_val (pe_callB call_isi (by rfl) G.isinstance (by decide +kernel) (pa_cons (pv 1) (pa_cons (pe_bltn (v := .ty "list") (by rfl) G.list (by decide +kernel) rfl) pa_nil))))) (pw_or1 (pt_cmpR op_gt (pe_callB call_len_seq (by rfl) G.len (by decide +kernel) (pa_cons (pv 1) pa_nil)) (pe_glob (v := .int 200) (by rfl) cMOST_ROWS ⟨_, rfl⟩) (nomark _))))) (pss_one ps_never) pss_nil)
      (pss_cons (ps_set (i := 2) sclook_at_rows.nd rfl (Or.inl rfl) (pe_cal Cnear_book (hr.mono (by decide)) (by rfl) pass0 (pa_cons (pv 0) pa_nil)))
      (pss_cons (ps_for (passes_of rfl) rfl (pi_enum (by rfl) G.enumerate (pa_cons (pv 1) pa_nil)) (pg_tup (by rfl) (pgs_cons (pg_name (i := 3) sclook_at_rows.nd rfl (Or.inl rfl)) (pgs_cons (pg_name (i := 4) sclook_at_rows.nd rfl (Or.inl rfl)) pgs_nil))) (pss_one (ps_if (pt_not (pt_val (pe_cal Cis_row (hr.mono (by decide)) (by rfl) pass0 (pa_cons (pv 2) (pa_cons (pv 4) pa_nil))))) (pss_one (ps_raise rfl (takes_of rfl rfl rfl rfl) (pmk_oex ONoRows.cls ONoRows.init ONoRows.tI INoRows (hr.mono (by decide)) BNoRows .nil pass0 (by rfl) ONoRows.gC (pa_cons (pv 3) pa_nil)))) pss_nil)))
      (pss_cons (ps_set (i := 5) sclook_at_rows.nd rfl (Or.inl rfl) (pe_cal Cpaid_by (hr.mono (by decide)) (by rfl) pass0 (pa_cons (pv 1) pa_nil)))
      (pss_one (ps_for (passes_of rfl) rfl (pi_list (pe_ix ix_tup (pv 0) pe_int (fun _ _ => rfl))) (pg_tup (by rfl) (pgs_cons (pg_name (i := 6) sclook_at_rows.nd rfl (Or.inl rfl)) (pgs_cons (pg_name (i := 7) sclook_at_rows.nd rfl (Or.inl rfl)) pgs_nil))) (pss_one (ps_if (pt_cmpR op_gt (pe_dget2 (hu_of hr) (pv 5) (pv 6) pe_int ⟨rfl, rfl, rfl, rfl⟩) (pe_op op_mul pe_int (pv 7)) (nomark _)) (pss_one (ps_raise rfl (takes_of rfl rfl rfl rfl) (pmk_oex OOverpaid.cls OOverpaid.init OOverpaid.tI IOverpaid (hr.mono (by decide)) BOverpaid .nil pass0 (by rfl) OOverpaid.gC (pa_cons (pv 6) pa_nil)))) pss_nil))))))))), ?_⟩
    refine ⟨_, rfl, w, ps, ts, rfl, hw, ok, fun H1 s1 => ?_⟩
    refine ⟨_, rfl, _, _, _, _, true, rfl, .ty _, .base (.lst (s1 _ _ ha)), kit_ty (by decide +kernel), true, rfl, iteF ?_⟩
    refine ⟨_, rfl, a, _, rfl, .inl (SqL.of (s1 _ _ ha)), _, _, rfl, rfl, _, rfl, ifF (decide_eq_false (by omega)) ?_⟩
    refine ⟨_, rfl, w, ps, ts, rfl, hw.mono s1.kq, ok, fun d H2 s2 nd hB => ?_⟩
    have s12 := s1.trans s2
    refine ⟨_, rfl, a, xs, rfl, SqL.of (s12 _ _ ha), for_it walk_enum (fun i σ H' => ∃ y3 y4 : Option V, σ = [some (.ref w), some (.ref a), some (.ref d), y3, y4, none, none, none] ∧ Same H H' ∧ BookAt H' d ps ts ∧ ∀ r ∈ rs.take i, RowOk ps ts r)
      ⟨none, none, rfl, s12, hB, fun r hr => by rw [List.take_zero] at hr; cases hr⟩ (fun i σ H' _ ⟨_, _, _, s5, _⟩ => s5.seq (SqL.of ha)) ?_ ?_⟩
    · rintro i x σ H3 H4 hi ⟨y3, y4, rfl, sm, hB, hall⟩ ⟨T, x1, x2, rfl, nT, rfl, e1, e2⟩
      obtain rfl := Option.some.inj e1
      obtain ⟨r, hq, hg⟩ := lof_at hp e2
      have s3 : Same H3 (upd H3 T (.tup [.int (i : Nat), x2])) := same_new nT
      have s4 := sm.trans s3
      refine ⟨T, _, rfl, SqT.of upd_same, rfl, _, _, rfl, _, _, rfl, rfl, ?_⟩
      refine ⟨_, rfl, _, rfl, d, x2, ps, ts, r, rfl, hB.same s3, rowG.mono _ _ _ _ s4.kq hg, hsm.2 r (mem_at hq), fun b H5 s5 hb => ⟨b, rfl, ?_⟩⟩
      cases b with
      | true =>
        refine iteF ⟨_, _, rfl, s4.trans s5, (hB.same s3).same s5, fun q hq' => ?_⟩
        rw [take_at hq] at hq'
        rcases List.mem_append.mp hq' with h | h
        · exact hall q h
        · rw [List.mem_singleton.mp h]
          exact hb.mp rfl
      | false =>
        refine iteT ⟨_, rfl, made_err (s4.trans s5) (fun d' H' s' => kE (fun z => ?_) _ _ _ (.inl rfl) s')⟩
        exact absurd (hb.mpr (z.1 r (mem_at hq))) (by decide)
    · rintro σ H3 ⟨y3, y4, rfl, sm, hB, hall⟩
      rw [hlen, List.take_of_length_le (Nat.le_refl _)] at hall
      refine ⟨_, rfl, a, rs, rfl, ListOf.mono rowG sm.kq hrs, hsm, fun e H4 s4 ne hP => ?_⟩
      have s5 := sm.trans s4
      obtain ⟨kvs, he, _, hv⟩ := hP
      obtain ⟨pa, tb, hw1, ⟨ys, hpa, hpp⟩, _⟩ := hw
      refine ⟨_, rfl, w, _, 0, _, rfl, rfl, SqT.of (s5 _ _ hw1), rfl, pa, rfl, ⟨ys, SqL.of (s5 _ _ hpa)⟩, for_list (K := K) (a := pa) (xs := ys) (fun i σ H' => ∃ y6 y7 : Option V, σ = [some (.ref w), some (.ref a), some (.ref d), y3, y4, some (.ref e), y6, y7] ∧ H' = H4 ∧ ∀ p ∈ ps.take i, paidD rs p.1 ≤ 2 * p.2)
        ⟨none, none, rfl, rfl, fun r hr => by rw [List.take_zero] at hr; cases hr⟩ (fun i σ H' _ ⟨_, _, _, e, _⟩ => by rw [e]; exact s5.seq (SqL.of hpa)) ?_ ?_⟩
      · rintro i x σ H5 hx ⟨y6, y7, rfl, rfl, hle⟩
        obtain ⟨p, hq, t, rfl, htp⟩ := lof_at hpp hx
        refine ⟨t, _, rfl, SqT.of (s5 _ _ htp), rfl, _, _, rfl, _, _, rfl, rfl, ?_⟩
        refine ⟨_, rfl, e, rfl, .inl ⟨kvs, .inl he⟩, _, rfl, _, DGet.k (k := Sum.inl p.1) he, _, rfl, 2, p.2, rfl, rfl, .inl ⟨by decide, by decide⟩, _, _, hv p.1, rfl, _, rfl, ite2 (fun c => ?_) fun c => ?_⟩
        · have c : 2 * p.2 < paidD rs p.1 := of_decide_eq_true c
          exact ⟨_, rfl, made_err s5 (fun d' H' s' => kE (fun z => absurd (z.2 p (mem_at hq)) (by omega)) _ _ _ (.inr rfl) s')⟩
        · have c : ¬ 2 * p.2 < paidD rs p.1 := not_dec c
          refine ⟨_, _, rfl, rfl, fun q hq' => ?_⟩
          rw [take_at hq] at hq'
          rcases List.mem_append.mp hq' with h | h
          · exact hle q h
          · rw [List.mem_singleton.mp h]
            omega
      · rintro σ H5 ⟨y6, y7, rfl, rfl, hle⟩
        rw [Paired.length hpp, List.take_of_length_le (Nat.le_refl _)] at hle
        exact k ⟨hall, hle⟩ _ s5
end
end TA
namespace TA
open PySem PySem.Spec PyProof.Rows L2
theorem pair_uniq {ps : List Pr} (hn : (keys ps).Nodup) {p q : Pr} (hp : p ∈ ps) (hq : q ∈ ps) (e : p.1 = q.1) : p = q := by
  obtain ⟨i, hi⟩ := List.getElem?_of_mem hp
  obtain ⟨j, hj⟩ := List.getElem?_of_mem hq
  have h1 := keys_at hi
  have h2 := keys_at hj
  rw [e] at h1
  have := nd_ix hn h1 h2
  subst this
  exact Option.some.inj (hi.symm.trans hj)
section
variable {P : Program} {w : World} {K : PySem.W.Frag} {mg : Str → Option Value} {base : Heap}
/- worth_of: slots 0:web 1:rows 2:row; calls look_at_rows gives -/
abbrev sworth_of : Stmt := topS 28
abbrev nworth_of : List Str := ["web", "rows", "row"]
theorem scworth_of : FnScope nworth_of ["web", "rows"] (defScope sworth_of) := ⟨rfl, rfl, rfl, by decide +kernel, rfl, by decide +kernel, by decide +kernel⟩
def spworth_of (C1 C2 : Addr) : Sp := fun vs H Q E => ∃ (w a : Addr) (ps ts : List Pr) (rs : List RowD), vs = [.ref w, .ref a] ∧ WebAt H w ps ts ∧ WebOk ps ts ∧ RowsAt H a rs ∧ Small rs ∧
  (RowsOk ps ts rs → ∀ H', Same H H' → Q (.int (worthD rs)) H') ∧ (¬ RowsOk ps ts rs → ∀ C d H', (C = C1 ∨ C = C2) → Same H H' → E (.ref C) (some d) H')
theorem okworth_of {C1 C2 : Addr} (G : Glb mg) (S : Std K mg "worth_of" sworth_of ["web", "rows"]) (Clook_at_rows : Cal P w K mg base (L2.CX P w) 6 "look_at_rows" ["web", "thing"] (splook_at_rows C1 C2)) (Cgives : Cal P w K mg base CX0 1 "gives" ["row"] spgives) :
    Cal P w K mg base (L2.CX P w) 7 "worth_of" ["web", "rows"] (spworth_of C1 C2) := S.cal fun f fd F => by
  refine F.okX scworth_of (fun vs H Q E h => ?_) (fun cdv A outer s H vs Q E hr h => ?_)
  · obtain ⟨w, a, ps, ts, rs, rfl, _⟩ := h
    rfl
  · obtain ⟨w, a, ps, ts, rs, rfl, hw, ok, hrs, hsm, k, kE⟩ := h
    obtain ⟨xs, ha, hp⟩ := id hrs
    have hlen := Paired.length hp
    have hl200 := hsm.1
    refine ⟨_, (pss_cons (ps_expr (pe_cal Clook_at_rows (hr.mono (by decide)) (by rfl) (passes_call (takes_of rfl rfl rfl rfl) (fun _ _ _ _ h => h)) (pa_cons (pv 0) (pa_cons (pv 1) pa_nil))))
      (pss_one (ps_ret (pe_callB (cr_sum rfl) (by rfl) G.sum (by decide +kernel) (pa_cons (pe_lc (own := [("row", 2)]) rfl scworth_of.nd (pi_list (pv 1)) (blkOk_by (own := [("row", 2)]) (N := nworth_of) (sc := defScope sworth_of) (by decide +kernel)) (fun _ _ _ _ _ => (pg_name (i := 2) scworth_of.nd rfl (Or.inl rfl))) (fun _ _ _ _ _ => pts_nil) (fun _ _ _ _ _ => (pe_op op_mul (pe_cal Cgives (hr.mono (by decide)) (by rfl) pass0 (pa_cons (pv 2) pa_nil)) (pe_ix (ix_tupK (K := K) rfl) (pv 2) pe_int (fun _ _ => rfl))))) pa_nil))))), ?_⟩
    refine ⟨_, rfl, _, rfl, w, a, ps, ts, rs, rfl, hw, ok, hrs, hsm, fun hv H1 s1 => ?_, fun hv C d H1 hC s1 => kE hv C d H1 hC s1⟩
    refine ⟨_, rfl, a, rfl, ⟨xs, SqL.of (s1 _ _ ha)⟩, fun D nD => ?_⟩
    refine lc_list (K := K) (a := a) (xs := xs) (fun i H' => Same H H' ∧ H' D = some (.lst (((rs.take i).map fun r => givesD r * r.am).map V.int))) ⟨s1.trans (same_new nD), upd_same⟩ (fun i H' _ p => p.1.seq (SqL.of ha)) ?_ ?_
    · rintro i x H2 hx ⟨sm, hD⟩
      have hi := lt_at hx
      obtain ⟨r, hq, hg⟩ := lof_at hp hx
      have hg2 := rowG.mono _ _ _ _ sm.kq hg
      obtain ⟨t, b, rfl, ht, hb⟩ := id hg2
      have hb3 : -(2 ^ 64) < givesD r ∧ givesD r < 2 ^ 64 := by
        have := hsm.2 r (mem_at hq)
        unfold givesD
        split <;> omega
      refine ⟨rfl, ?_⟩
      refine ⟨_, rfl, _, r, rfl, hg2, _, rfl, t, _, 2, _, rfl, rfl, SqT.of ht, rfl, givesD r, r.am, rfl, rfl, .inl hb3, _, hD, small_lt (by rw [List.length_map, List.length_map, List.length_take]; omega), sm.mut (s1.free nD), ?_⟩
      rw [upd_same, take_at hq, List.map_append, List.map_append]
      rfl
    · rintro H2 ⟨sm, hD⟩
      rw [hlen, List.take_of_length_le (Nat.le_refl _)] at hD
      exact ⟨D, _, rfl, SqL.of hD, k hv _ sm⟩
/- bound_of: slots 0:web 1:rows; calls worth_of -/
abbrev sbound_of : Stmt := topS 29
abbrev nbound_of : List Str := ["web", "rows"]
theorem scbound_of : FnScope nbound_of ["web", "rows"] (defScope sbound_of) := ⟨rfl, rfl, rfl, by decide +kernel, rfl, by decide +kernel, by decide +kernel⟩
def spbound_of (C1 C2 : Addr) : Sp := fun vs H Q E => ∃ (w a : Addr) (ps ts : List Pr) (rs : List RowD), vs = [.ref w, .ref a] ∧ WebAt H w ps ts ∧ WebOk ps ts ∧ RowsAt H a rs ∧ Small rs ∧
  (RowsOk ps ts rs → ∀ H', Same H H' → Q (.int ((worthD rs + 1) / 2)) H') ∧ (¬ RowsOk ps ts rs → ∀ C d H', (C = C1 ∨ C = C2) → Same H H' → E (.ref C) (some d) H')
theorem okbound_of {C1 C2 : Addr} (G : Glb mg) (S : Std K mg "bound_of" sbound_of ["web", "rows"]) (Cworth_of : Cal P w K mg base (L2.CX P w) 7 "worth_of" ["web", "rows"] (spworth_of C1 C2)) :
    Cal P w K mg base (L2.CX P w) 8 "bound_of" ["web", "rows"] (spbound_of C1 C2) := S.cal fun f fd F => by
  refine F.okX scbound_of (fun vs H Q E h => ?_) (fun cdv A outer s H vs Q E hr h => ?_)
  · obtain ⟨w, a, ps, ts, rs, rfl, _⟩ := h
    rfl
  · obtain ⟨w, a, ps, ts, rs, rfl, hw, ok, hrs, hsm, k, kE⟩ := h
    refine ⟨_, (pss_one (ps_ret (pe_op op_fdivW (pe_op op_add (pe_cal Cworth_of (hr.mono (by decide)) (by rfl) (passes_call (takes_of rfl rfl rfl rfl) (fun _ _ _ _ h => h)) (pa_cons (pv 0) (pa_cons (pv 1) pa_nil))) pe_int) pe_int))), ?_⟩
    exact ⟨_, rfl, _, rfl, w, a, ps, ts, rs, rfl, hw, ok, hrs, hsm, fun hv H1 s1 => ⟨_, _, rfl, rfl, _, _, rfl, rfl, ⟨by decide, by decide⟩, k hv H1 s1⟩, fun hv C d H1 hC s1 => kE hv C d H1 hC s1⟩
/-! ### sets -/
def SetOk (ps : List Pr) (S : List Int) : Prop := (∀ x ∈ S, x ∈ keys ps) ∧ S.Pairwise (· < ·)
/- is_set_in: slots 0:web 1:thing 2:known 3:last 4:place; calls price_book is_whole -/
abbrev sis_set_in : Stmt := topS 31
abbrev nis_set_in : List Str := ["web", "thing", "known", "last", "place"]
theorem scis_set_in : FnScope nis_set_in ["web", "thing"] (defScope sis_set_in) := ⟨rfl, rfl, rfl, by decide +kernel, rfl, by decide +kernel, by decide +kernel⟩
def spis_set_in : Sp := fun vs H Q _ => ∃ (w a : Addr) (ps ts : List Pr) (S : List Int), vs = [.ref w, .ref a] ∧ WebAt H w ps ts ∧ WebOk ps ts ∧ IntsAt H a S ∧ SetOk ps S ∧ ∀ H', Same H H' → Q (.bl true) H'
theorem okis_set_in (G : Glb mg) (S : Std K mg "is_set_in" sis_set_in ["web", "thing"]) (Cprice_book : Cal P w K mg base CX0 1 "price_book" ["web"] spprice_book) (Cis_whole : Cal P w K mg base CX0 1 "is_whole" ["thing"] spis_whole) :
    Cal P w K mg base CX0 2 "is_set_in" ["web", "thing"] spis_set_in := S.cal fun f fd F => by
  refine F.ok scis_set_in (fun vs H Q E h => ?_) (fun cdv A outer s H vs Q E hr h => ?_)
  · obtain ⟨w, a, ps, ts, S, rfl, _⟩ := h
    rfl
  · obtain ⟨w, a, ps, ts, S, rfl, hw, ok, ha, ⟨hk, hup⟩, k⟩ := h
    have ha : H a = some (.lst (S.map V.int)) := ha
    refine ⟨_, (pss_cons (ps_if (pt_not (pt_val (pe_callB call_isi (by rfl) G.isinstance (by decide +kernel) (pa_cons (pv 1) (pa_cons (pe_bltn (v := .ty "list") (by rfl) G.list (by decide +kernel) rfl) pa_nil))))) (pss_one (ps_ret pe_bl)) pss_nil)
      (pss_cons (ps_set (i := 2) scis_set_in.nd rfl (Or.inl rfl) (pe_cal Cprice_book (hr.mono (by decide)) (by rfl) pass0 (pa_cons (pv 0) pa_nil)))
      (pss_cons (ps_set (i := 3) scis_set_in.nd rfl (Or.inl rfl) (pe_un un_neg pe_int))
      (pss_cons (ps_for PassesOwn.never rfl (pi_list (pv 1)) (pg_name (i := 4) scis_set_in.nd rfl (Or.inl rfl)) (pss_cons (ps_if (PW.pt (pw_or (pt_not (pt_val (pe_cal Cis_whole (hr.mono (by decide)) (by rfl) pass0 (pa_cons (pv 4) pa_nil)))) (pw_or (pt_cmpR op_le (pv 4) (pv 3) (nomark _)) (pw_or1 (pt_cmp (pc_dnotin (hu_of hr) (pv 4) (pv 2))))))) (pss_one (ps_ret pe_bl)) pss_nil)
      (pss_one (ps_set (i := 3) scis_set_in.nd rfl (Or.inl rfl) (pv 4)))))
      (pss_one (ps_ret pe_bl)))))), ?_⟩
    refine ⟨_, rfl, _, _, _, _, true, rfl, .ty _, .base (.lst ha), kit_ty (by decide +kernel), true, rfl, iteF ?_⟩
    refine ⟨_, rfl, w, ps, ts, rfl, hw, ok, fun d H1 s1 nd hP => ?_⟩
    obtain ⟨kvs, hd, hpr⟩ := hP
    refine ⟨1, rfl, _, rfl, a, rfl, ⟨_, SqL.of (s1 _ _ ha)⟩, for_list (K := K) (a := a) (xs := S.map V.int) (fun i σ H' => ∃ (l : Int) (y4 : Option V), σ = [some (.ref w), some (.ref a), some (.ref d), some (.int l), y4] ∧ H' = H1 ∧ (∀ x ∈ S.drop i, l < x) ∧ (S.drop i).Pairwise (· < ·))
      ⟨-1, none, rfl, rfl, fun x hx => ?_, hup⟩ (fun i σ H' _ ⟨_, _, _, e, _⟩ => by rw [e]; exact s1.seq (SqL.of ha)) ?_ ?_⟩
    · obtain ⟨p, hp, e⟩ := of_keys (hk x hx)
      have := (ok.pl p hp).1
      omega
    · rintro i x σ H2 hx ⟨l, y4, rfl, rfl, hl, hpw⟩
      rw [List.getElem?_map] at hx
      obtain ⟨z, hz, rfl⟩ := Option.map_eq_some_iff.mp hx
      rw [drop_at hz] at hl hpw
      have hlz := hl z List.mem_cons_self
      obtain ⟨h1, h2⟩ := List.pairwise_cons.mp hpw
      refine ⟨_, rfl, z, rfl, true, rfl, iteF ?_⟩
      refine ⟨_, rfl, _, rfl, _, _, rfl, rfl, _, rfl, ifF (decide_eq_false (by omega)) ?_⟩
      refine ⟨_, rfl, _, rfl, d, _, rfl, DGet.k (k := Sum.inl z) hd, _, rfl, ifF (by rw [hpr.isSome (hk z (mem_at hz))]; rfl) ?_⟩
      exact ⟨_, rfl, _, _, rfl, rfl, h1, h2⟩
    · rintro σ H2 ⟨l, y4, rfl, rfl, _⟩
      exact k _ s1
/- need_set: slots 0:web 1:thing; calls is_set_in -/
abbrev sneed_set : Stmt := topS 32
abbrev nneed_set : List Str := ["web", "thing"]
theorem scneed_set : FnScope nneed_set ["web", "thing"] (defScope sneed_set) := ⟨rfl, rfl, rfl, by decide +kernel, rfl, by decide +kernel, by decide +kernel⟩
def spneed_set : Sp := fun vs H Q _ => ∃ (w a : Addr) (ps ts : List Pr) (S : List Int), vs = [.ref w, .ref a] ∧ WebAt H w ps ts ∧ WebOk ps ts ∧ IntsAt H a S ∧ SetOk ps S ∧ ∀ H', Same H H' → Q .non H'
theorem okneed_set (G : Glb mg) (S : Std K mg "need_set" sneed_set ["web", "thing"]) (Cis_set_in : Cal P w K mg base CX0 2 "is_set_in" ["web", "thing"] spis_set_in) : Cal P w K mg base CX0 3 "need_set" ["web", "thing"] spneed_set := S.cal fun f fd F => by
  refine F.ok scneed_set (fun vs H Q E h => ?_) (fun cdv A outer s H vs Q E hr h => ?_)
  · obtain ⟨w, a, ps, ts, S, rfl, _⟩ := h
    rfl
  · obtain ⟨w, a, ps, ts, S, rfl, hw, ok, ha, hS, k⟩ := h
    refine ⟨_, (pss_one (ps_if (pt_not (pt_val (pe_cal Cis_set_in (hr.mono (by decide)) (by rfl) pass0 (pa_cons (pv 0) (pa_cons (pv 1) pa_nil))))) (pss_one ps_never) pss_nil)), ?_⟩
    exact ⟨_, rfl, _, rfl, w, a, ps, ts, S, rfl, hw, ok, ha, hS, fun H1 s1 => ⟨true, rfl, iteF (k _ s1)⟩⟩
/- is_tight: slots 0:web 1:rows 2:some* 3:paid 4:prices 5:place 6:row; calls look_at_rows need_set paid_by price_book gives -/
abbrev sis_tight : Stmt := topS 34
abbrev nis_tight : List Str := ["web", "rows", "some", "paid", "prices", "place", "row"]
theorem scis_tight : FnScope nis_tight ["web", "rows", "some"] (defScope sis_tight) := ⟨rfl, rfl, rfl, by decide +kernel, rfl, by decide +kernel, by decide +kernel⟩
def spis_tight : Sp := fun vs H Q _ => ∃ (w a b : Addr) (ps ts : List Pr) (rs : List RowD) (S : List Int), vs = [.ref w, .ref a, .ref b] ∧ WebAt H w ps ts ∧ WebOk ps ts ∧ RowsAt H a rs ∧ Small rs ∧ RowsOk ps ts rs ∧ IntsAt H b S ∧ SetOk ps S ∧
  ∀ (c : Bool) H', Same H H' → (c = true ↔ TightD ps rs S) → Q (.bl c) H'
theorem okis_tight {C1 C2 : Addr} (G : Glb mg) (S : Std K mg "is_tight" sis_tight ["web", "rows", "some"]) (Clook_at_rows : Cal P w K mg base (L2.CX P w) 6 "look_at_rows" ["web", "thing"] (splook_at_rows C1 C2)) (Cgives : Cal P w K mg base CX0 1 "gives" ["row"] spgives)
    (Cneed_set : Cal P w K mg base CX0 3 "need_set" ["web", "thing"] spneed_set) (Cpaid_by : Cal P w K mg base CX0 1 "paid_by" ["rows"] sppaid_by) (Cprice_book : Cal P w K mg base CX0 1 "price_book" ["web"] spprice_book) :
    Cal P w K mg base CX0 7 "is_tight" ["web", "rows", "some"] spis_tight := S.cal fun f fd F => by
  refine F.ok scis_tight (fun vs H Q E h => ?_) (fun cdv A outer s H vs Q E hr h => ?_)
  · obtain ⟨w, a, b, ps, ts, rs, S, rfl, _⟩ := h
    rfl
  · obtain ⟨w, a, b, ps, ts, rs, S, rfl, hw, ok, hrs, hsm, hv, hb, hS, k⟩ := h
    obtain ⟨xs, ha, hp⟩ := id hrs
    have hb0 : H b = some (.lst (S.map V.int)) := hb
    have hlen := Paired.length hp
    refine ⟨_, (pss_cons (ps_expr (pe_cal Clook_at_rows (hr.mono (by decide)) (by rfl) passL (pa_cons (pv 0) (pa_cons (pv 1) pa_nil))))
      (pss_cons (ps_expr (pe_cal Cneed_set (hr.mono (by decide)) (by rfl) pass0 (pa_cons (pv 0) (pa_cons (pv 2) pa_nil))))
      (pss_cons (ps_set (i := 3) scis_tight.nd rfl (Or.inl rfl) (pe_cal Cpaid_by (hr.mono (by decide)) (by rfl) pass0 (pa_cons (pv 1) pa_nil)))
      (pss_cons (ps_set (i := 4) scis_tight.nd rfl (Or.inl rfl) (pe_cal Cprice_book (hr.mono (by decide)) (by rfl) pass0 (pa_cons (pv 0) pa_nil)))
      (pss_cons (ps_for PassesOwn.never rfl (pi_list (pv 2)) (pg_name (i := 5) scis_tight.nd rfl (Or.inl rfl)) (pss_one (ps_if (pt_cmpR op_ne (pe_dget2 (hu_of hr) (pv 3) (pv 5) pe_int ⟨rfl, rfl, rfl, rfl⟩) (pe_op op_mul pe_int (pe_dget (hu_of hr) (pv 4) (pv 5) (fun _ _ => rfl))) (nomark _)) (pss_one (ps_ret pe_bl)) pss_nil)))
      (pss_cons (ps_for PassesOwn.never rfl (pi_list (pv 1)) (pg_name (i := 6) scis_tight.nd rfl (Or.inl rfl)) (pss_one (ps_if (pt_cmpR op_ne (pe_callB call_len_seq (by rfl) G.len (by decide +kernel) (pa_cons (pe_lc (own := [("place", 5)]) rfl scis_tight.nd (pi_list (pe_ix ix_tup (pv 6) pe_int (fun _ _ => rfl))) (blkOk_by (own := [("place", 5)]) (N := nis_tight) (sc := defScope sis_tight) (by decide +kernel)) (fun _ _ _ _ _ => (pg_name (i := 5) scis_tight.nd rfl (Or.inl rfl))) (fun _ _ _ _ _ => (pts_one (pt_cmpR (op_in_seqK (K := K) rfl) (pv 5) (pv 2) (by rfl)))) (fun _ _ _ _ _ => (pv 5))) pa_nil)) (pe_cal Cgives (hr.mono (by decide)) (by rfl) pass0 (pa_cons (pv 6) pa_nil)) (nomark _)) (pss_one (ps_ret pe_bl)) pss_nil)))
      (pss_one (ps_ret pe_bl)))))))), ?_⟩
    refine ⟨_, rfl, _, rfl, w, a, ps, ts, rs, rfl, hw, ok, hrs, hsm, fun _ H1 s1 => ?_, fun z => absurd hv z⟩
    refine ⟨_, rfl, _, rfl, w, b, ps, ts, S, rfl, hw.mono s1.kq, ok, hb.mono s1.kq, hS, fun H2 s2' => ?_⟩
    have s2 := s1.trans s2'
    refine ⟨_, rfl, a, rs, rfl, ListOf.mono rowG s2.kq hrs, hsm, fun d H3 s3' nd hPd => ?_⟩
    have s3 := s2.trans s3'
    obtain ⟨kvs, hd, _, hval⟩ := hPd
    refine ⟨_, rfl, w, ps, ts, rfl, hw.mono s3.kq, ok, fun e H4 s4' ne hPe => ?_⟩
    have s4 := s3.trans s4'
    have hd := s4' _ _ hd
    obtain ⟨kvp, he, hpr⟩ := hPe
    refine ⟨_, rfl, b, rfl, ⟨_, SqL.of (s4 _ _ hb0)⟩, for_list (K := K) (a := b) (xs := S.map V.int) (fun i σ H' => ∃ y5 : Option V, σ = [some (.ref w), some (.ref a), some (.ref b), some (.ref d), some (.ref e), y5, none] ∧ H' = H4 ∧ ∀ p ∈ ps, p.1 ∈ S.take i → paidD rs p.1 = 2 * p.2)
      ⟨none, rfl, rfl, fun p _ h => by rw [List.take_zero] at h; cases h⟩ (fun i σ H' _ ⟨_, _, e, _⟩ => by rw [e]; exact s4.seq (SqL.of hb0)) ?_ ?_⟩
    · rintro i x σ H5 hx ⟨y5, rfl, rfl, hall⟩
      rw [List.getElem?_map] at hx
      obtain ⟨z, hz, rfl⟩ := Option.map_eq_some_iff.mp hx
      obtain ⟨p, hpm, epz⟩ := of_keys (hS.1 z (mem_at hz))
      subst epz
      refine ⟨_, rfl, d, rfl, .inl ⟨kvs, .inl hd⟩, _, rfl, _, DGet.k (k := Sum.inl p.1) hd, _, rfl, _, rfl, e, _, rfl, dget_of he (hpr.1 p hpm), 2, p.2, rfl, rfl, .inl ⟨by decide, by decide⟩, ?_⟩
      rw [hval p.1]
      refine ⟨rfl, _, rfl, ?_⟩
      by_cases c : paidD rs p.1 = 2 * p.2
      · refine ifF (neI c) ⟨_, rfl, rfl, fun q hq hq' => ?_⟩
        rw [take_at hz] at hq'
        rcases List.mem_append.mp hq' with h | h
        · exact hall q hq h
        · rw [pair_uniq ok.nd hq hpm (List.mem_singleton.mp h)]
          exact c
      · refine ifT (neI' c) (k false _ s4 ⟨(fun z => nomatch z), fun t => ?_⟩)
        exact absurd (t.1 p hpm (mem_at hz)) c
    · rintro σ H5 ⟨y5, rfl, rfl, hall⟩
      simp only [take_map_all] at hall
      refine ⟨_, rfl, a, rfl, ⟨_, SqL.of (s4 _ _ ha)⟩, for_list (K := K) (a := a) (xs := xs) (fun i σ H' => ∃ y6 : Option V, σ = [some (.ref w), some (.ref a), some (.ref b), some (.ref d), some (.ref e), y5, y6] ∧ Same H H' ∧ ∀ r ∈ rs.take i, (hit r.ps S : Int) = givesD r)
        ⟨none, rfl, s4, fun r h => by rw [List.take_zero] at h; cases h⟩ (fun i σ H' _ ⟨_, _, s5, _⟩ => s5.seq (SqL.of ha)) ?_ ?_⟩
      · rintro i x σ H6 hx ⟨y6, rfl, sm, hrall⟩
        obtain ⟨r, hq, hg⟩ := lof_at hp hx
        have hg2 := rowG.mono _ _ _ _ sm.kq hg
        obtain ⟨t, l, rfl, ht, hl⟩ := id hg2
        have hrl := hsm.2 r (mem_at hq)
        refine ⟨_, rfl, t, _, 1, _, rfl, rfl, SqT.of ht, rfl, l, rfl, ⟨_, SqL.of hl⟩, fun D nD => ?_⟩
        refine lc_list (K := K) (a := l) (xs := r.ps.map V.int) (fun j H' => Same H6 H' ∧ H' D = some (.lst (((r.ps.take j).filter fun x => decide (x ∈ S)).map V.int))) ⟨same_new nD, upd_same⟩ (fun j H' _ p => p.1.seq (SqL.of hl)) ?_ ?_
        · rintro j x H7 hx ⟨s7, hD⟩
          rw [List.getElem?_map] at hx
          obtain ⟨z, hz, rfl⟩ := Option.map_eq_some_iff.mp hx
          have hjl := lt_at hz
          refine ⟨rfl, _, rfl, _, rfl, b, _, rfl, .inl (SqL.of (s7 _ _ (sm _ _ hb0))), rfl, flat_ints, _, rfl, ?_⟩
          show (if (inV (.int z) (S.map V.int)) = true then _ else _)
          rw [inV_int, take_at hz, List.filter_append]
          by_cases hm : z ∈ S
          · rw [decide_eq_true hm]
            refine iteT ⟨_, rfl, _, hD, small_lt ?_, s7.mut nD, ?_⟩
            · rw [List.length_map]
              refine Nat.le_trans (List.length_filter_le _ _) ?_
              rw [List.length_take]
              omega
            · rw [upd_same, List.filter_cons, if_pos (decide_eq_true hm), List.map_append]
              rfl
          · rw [decide_eq_false hm]
            refine iteF ⟨s7, ?_⟩
            rw [hD, List.filter_cons, if_neg (by simpa using hm), List.filter_nil, List.append_nil]
        · rintro H7 ⟨s7, hD⟩
          rw [take_map_all] at hD
          have s67 := sm.trans s7
          refine ⟨D, _, rfl, .inl (SqL.of hD), _, rfl, _, r, rfl, rowG.mono _ _ _ _ s67.kq hg, rfl, _, rfl, ?_⟩
          have eh : (((r.ps.filter fun x => decide (x ∈ S)).map V.int).length : Int) = (hit r.ps S : Int) := by
            rw [List.length_map]
            rfl
          by_cases c : (hit r.ps S : Int) = givesD r
          · refine ifF (neI (eh.trans c)) ⟨_, rfl, s67, fun q hq' => ?_⟩
            rw [take_at hq] at hq'
            rcases List.mem_append.mp hq' with h | h
            · exact hrall q h
            · rw [List.mem_singleton.mp h]
              exact c
          · refine ifT (neI' (fun z => c (eh.symm.trans z))) (k false _ s67 ⟨(fun z => nomatch z), fun t => ?_⟩)
            exact absurd (t.2 r (mem_at hq)) c
      · rintro σ H6 ⟨y6, rfl, sm, hrall⟩
        rw [hlen, List.take_of_length_le (Nat.le_refl _)] at hrall
        exact k true _ sm ⟨fun _ => ⟨hall, hrall⟩, fun _ => rfl⟩
end
end TA
namespace TA
open PySem PySem.Spec PyProof.Rows L2
theorem cost_sum (S : List Int) : ∀ ps : List Pr, ((ps.filter fun p => decide (p.1 ∈ S)).map (·.2)).sum = costD ps S
  | [] => rfl
  | p :: r => by
    have ih := cost_sum S r
    unfold costD at ih ⊢
    unfold sumOn
    rw [List.filter_cons]
    by_cases h : p.1 ∈ S
    · rw [if_pos (decide_eq_true h), if_pos h, List.map_cons, List.sum_cons, ih]
    · rw [if_neg (by simpa using h), if_neg h, ih]
      omega
section
variable {P : Program} {w : World} {K : PySem.W.Frag} {mg : Str → Option Value} {base : Heap}
/- _law_cost: slots 0:_law_web_here 1:_law_some* 2:_law_place 3:_law_price; calls  -/
abbrev sl_cost : Stmt := topS 47
abbrev nl_cost : List Str := ["_law_web_here", "_law_some", "_law_place", "_law_price"]
theorem scl_cost : FnScope nl_cost ["_law_web_here", "_law_some"] (defScope sl_cost) := ⟨rfl, rfl, rfl, by decide +kernel, rfl, by decide +kernel, by decide +kernel⟩
def spl_cost : Sp := fun vs H Q _ => ∃ (w b : Addr) (ps ts : List Pr) (S : List Int), vs = [.ref w, .ref b] ∧ WebAt H w ps ts ∧ WebOk ps ts ∧ IntsAt H b S ∧ ∀ H', Same H H' → Q (.int (costD ps S)) H'
theorem okl_cost (G : Glb mg) (S : Std K mg "_law_cost" sl_cost ["_law_web_here", "_law_some"]) : Cal P w K mg base CX0 1 "_law_cost" ["_law_web_here", "_law_some"] spl_cost := S.cal fun f fd F => by
  refine F.ok scl_cost (fun vs H Q E h => ?_) (fun cdv A outer s H vs Q E hr h => ?_)
  · obtain ⟨w, b, ps, ts, S, rfl, _⟩ := h
    rfl
  · obtain ⟨w, b, ps, ts, S, rfl, ⟨pa, tb, hw, ⟨xs, ha, hp⟩, _⟩, ok, hb, k⟩ := h
    have hb : H b = some (.lst (S.map V.int)) := hb
    have hlen := Paired.length hp
    have hl7 := ok.len
    refine ⟨_, (pss_one (ps_ret (pe_callB (cr_sum rfl) (by rfl) G.sum (by decide +kernel) (pa_cons (pe_lc (own := [("_law_place", 2), ("_law_price", 3)]) rfl scl_cost.nd (pi_list (pe_ix ix_tup (pv 0) pe_int (fun _ _ => rfl))) (blkOk_by (own := [("_law_place", 2), ("_law_price", 3)]) (N := nl_cost) (sc := defScope sl_cost) (by decide +kernel)) (fun _ _ _ _ _ => (pg_tupK (n := 2) (K := K) rfl (by rfl) (pgs_cons (pg_name (i := 2) scl_cost.nd rfl (Or.inl rfl)) (pgs_cons (pg_name (i := 3) scl_cost.nd rfl (Or.inl rfl)) pgs_nil)))) (fun _ _ _ _ _ => (pts_one (pt_cmpR (op_in_seqK (K := K) rfl) (pv 2) (pv 1) (by rfl)))) (fun _ _ _ _ _ => (pv 3))) pa_nil)))), ?_⟩
    refine ⟨_, rfl, w, _, 0, _, rfl, rfl, SqT.of hw, rfl, pa, rfl, ⟨xs, SqL.of ha⟩, fun D nD => ?_⟩
    refine lc_list (K := K) (a := pa) (xs := xs) (fun i H' => Same H H' ∧ H' D = some (.lst ((((ps.take i).filter fun p => decide (p.1 ∈ S)).map (·.2)).map V.int))) ⟨same_new nD, upd_same⟩ (fun i H' _ p => p.1.seq (SqL.of ha)) ?_ ?_
    · rintro i x H2 hx ⟨sm, hD⟩
      have hi := lt_at hx
      obtain ⟨p, hq, t, rfl, ht⟩ := lof_at hp hx
      refine ⟨t, _, rfl, SqT.of (sm _ _ ht), rfl, _, _, rfl, _, _, rfl, rfl, rfl, ?_⟩
      refine ⟨_, rfl, _, rfl, b, _, rfl, .inl (SqL.of (sm _ _ hb)), rfl, flat_ints, _, rfl, ?_⟩
      show (if (inV (.int p.1) (S.map V.int)) = true then _ else _)
      rw [inV_int, take_at hq, List.filter_append]
      by_cases hm : p.1 ∈ S
      · rw [decide_eq_true hm]
        refine iteT ⟨_, rfl, _, hD, small_lt ?_, sm.mut nD, ?_⟩
        · rw [List.length_map, List.length_map]
          refine Nat.le_trans (List.length_filter_le _ _) ?_
          rw [List.length_take]
          omega
        · rw [upd_same, List.filter_cons, if_pos (decide_eq_true hm), List.map_append, List.map_append]
          rfl
      · rw [decide_eq_false hm]
        refine iteF ⟨sm, ?_⟩
        rw [hD, List.filter_cons, if_neg (by simpa using hm), List.filter_nil, List.append_nil]
    · rintro H2 ⟨sm, hD⟩
      rw [hlen, List.take_of_length_le (Nat.le_refl _)] at hD
      refine ⟨D, _, rfl, SqL.of hD, ?_⟩
      rw [cost_sum]
      exact k _ sm
/- _law_let_by: slots 0:_law_web_here 1:_law_rows_here 2:_law_bound; calls  -/
abbrev sl_let_by : Stmt := topS 49
abbrev nl_let_by : List Str := ["_law_web_here", "_law_rows_here", "_law_bound"]
theorem scl_let_by : FnScope nl_let_by ["_law_web_here", "_law_rows_here"] (defScope sl_let_by) := ⟨rfl, rfl, rfl, by decide +kernel, rfl, by decide +kernel, by decide +kernel⟩
def spl_let_by : Sp := fun vs H Q _ => ∃ (w a : Addr) (ps ts : List Pr) (rs : List RowD), vs = [.ref w, .ref a] ∧ WebAt H w ps ts ∧ WebOk ps ts ∧ RowsAt H a rs ∧ Small rs ∧
  (RowsOk ps ts rs → ∀ H', Same H H' → Q (.int ((worthD rs + 1) / 2)) H') ∧ (¬ RowsOk ps ts rs → ∀ H', Same H H' → Q .non H')
theorem okl_let_by {C1 C2 : Addr} (G : Glb mg) (S : Std K mg "_law_let_by" sl_let_by ["_law_web_here", "_law_rows_here"]) (g1 : mg "NoRows" = some (.ref C1)) (g2 : mg "Overpaid" = some (.ref C2))
    (x1 : PySem.W.exmAny K (.ref C1) [.ref C1, .ref C2] = some true) (x2 : PySem.W.exmAny K (.ref C2) [.ref C1, .ref C2] = some true) (Cbound_of : Cal P w K mg base (L2.CX P w) 8 "bound_of" ["web", "rows"] (spbound_of C1 C2)) :
    Cal P w K mg base CX0 9 "_law_let_by" ["_law_web_here", "_law_rows_here"] spl_let_by := S.cal fun f fd F => by
  refine F.ok scl_let_by (fun vs H Q E h => ?_) (fun cdv A outer s H vs Q E hr h => ?_)
  · obtain ⟨w, a, ps, ts, rs, rfl, _⟩ := h
    rfl
  · obtain ⟨w, a, ps, ts, rs, rfl, hw, ok, hrs, hsm, k, kN⟩ := h
    refine ⟨_, (pss_cons (ps_set (i := 2) scl_let_by.nd rfl (Or.inl rfl) pe_non)
      (pss_cons (ps_try_tup2 (ts := fun _ _ _ => tAsg (tC .non) (gName 2)) (tb := fun W => tAsg (tCallS (spbound_of C1 C2) (WE W) (tCons (tVar 0) (tCons (tVar 1) tNil))) (gName 2)) rfl rfl rfl (by decide) g1 rfl (by decide) g2
          (fun W pn xe tk _ => pss_one (ps_set (i := 2) scl_let_by.nd rfl (Or.inl rfl) (by exact (pe_calS Cbound_of (hr.mono (by decide)) (by rfl) (fun σ => passAt tk σ) (by exact (pa_cons (pv 0) (pa_cons (pv 1) pa_nil)))))))
          (fun a oe cls d pn hz hf => pss_one (ps_set (i := 2) scl_let_by.nd rfl (Or.inl rfl) pe_non)))
      (pss_one (ps_ret (pv 2))))), ?_⟩
    refine ⟨_, rfl, _, rfl, w, a, ps, ts, rs, rfl, hw, ok, hrs, hsm, fun hv H1 s1 => ⟨_, rfl, k hv H1 s1⟩, fun hv C d H1 hC s1 => ⟨?_, fun a na => ⟨_, rfl, kN hv H1 s1⟩⟩⟩
    rcases hC with rfl | rfl
    · exact x1
    · exact x2
/- _law_holds: slots 0:_law_web_here 1:_law_rows_here 2:_law_sets_here 3:_law_bound 4:_law_worth 5:_law_some 6:_law_cost_here; calls _law_let_by worth_of _law_cost is_tight -/
abbrev sl_holds : Stmt := topS 50
abbrev nl_holds : List Str := ["_law_web_here", "_law_rows_here", "_law_sets_here", "_law_bound", "_law_worth", "_law_some", "_law_cost_here"]
theorem scl_holds : FnScope nl_holds ["_law_web_here", "_law_rows_here", "_law_sets_here"] (defScope sl_holds) := ⟨rfl, rfl, rfl, by decide +kernel, rfl, by decide +kernel, by decide +kernel⟩
def spl_holds : Sp := fun vs H Q _ => ∃ (w a b : Addr) (ps ts : List Pr) (rs : List RowD) (sets : List (List Int)), vs = [.ref w, .ref a, .ref b] ∧ WebAt H w ps ts ∧ WebOk ps ts ∧ RowsAt H a rs ∧ Small rs ∧ SetsAt H b sets ∧ (∀ S ∈ sets, SetOk ps S ∧ Touch ts S) ∧
  ∀ H', Same H H' → Q (.bl true) H'
theorem okl_holds {C1 C2 : Addr} (G : Glb mg) (S : Std K mg "_law_holds" sl_holds ["_law_web_here", "_law_rows_here", "_law_sets_here"]) (Cl_let_by : Cal P w K mg base CX0 9 "_law_let_by" ["_law_web_here", "_law_rows_here"] spl_let_by)
    (Cworth_of : Cal P w K mg base (L2.CX P w) 7 "worth_of" ["web", "rows"] (spworth_of C1 C2)) (Cl_cost : Cal P w K mg base CX0 1 "_law_cost" ["_law_web_here", "_law_some"] spl_cost) (Cis_tight : Cal P w K mg base CX0 7 "is_tight" ["web", "rows", "some"] spis_tight) :
    Cal P w K mg base CX0 10 "_law_holds" ["_law_web_here", "_law_rows_here", "_law_sets_here"] spl_holds := S.cal fun f fd F => by
  refine F.ok scl_holds (fun vs H Q E h => ?_) (fun cdv A outer s H vs Q E hr h => ?_)
  · obtain ⟨w, a, b, ps, ts, rs, sets, rfl, _⟩ := h
    rfl
  · obtain ⟨w, a, b, ps, ts, rs, sets, rfl, hw, ok, hrs, hsm, hst, hall, k⟩ := h
    obtain ⟨xs, hb, hp⟩ := id hst
    refine ⟨_, (pss_cons (ps_set (i := 3) scl_holds.nd rfl (Or.inl rfl) (pe_cal Cl_let_by (hr.mono (by decide)) (by rfl) pass0 (pa_cons (pv 0) (pa_cons (pv 1) pa_nil))))
      (pss_cons (ps_if (pt_cmpR op_isN (pv 3) pe_non (nomark _)) (pss_one (ps_ret pe_bl)) pss_nil)
      (pss_cons (ps_set (i := 4) scl_holds.nd rfl (Or.inl rfl) (pe_cal Cworth_of (hr.mono (by decide)) (by rfl) passL (pa_cons (pv 0) (pa_cons (pv 1) pa_nil))))
      (pss_cons (ps_for PassesOwn.never rfl (pi_list (pv 2)) (pg_name (i := 5) scl_holds.nd rfl (Or.inl rfl)) (pss_cons (ps_set (i := 6) scl_holds.nd rfl (Or.inl rfl) (pe_cal Cl_cost (hr.mono (by decide)) (by rfl) pass0 (pa_cons (pv 0) (pa_cons (pv 5) pa_nil))))
      (pss_one (ps_if (PW.pt (pw_or (pt_cmpR op_lt (pv 6) (pv 3) (nomark _)) (pw_or1 (pt_cmpR op_ne (pe_cal Cis_tight (hr.mono (by decide)) (by rfl) pass0 (pa_cons (pv 0) (pa_cons (pv 1) (pa_cons (pv 5) pa_nil)))) (pe_cmpR op_eq (pe_op op_mul pe_int (pv 6)) (pv 4) (nomark _)) (nomark _))))) (pss_one (ps_ret pe_bl)) pss_nil))))
      (pss_one (ps_ret pe_bl)))))), ?_⟩
    by_cases hv : RowsOk ps ts rs
    · refine ⟨_, rfl, _, rfl, w, a, ps, ts, rs, rfl, hw, ok, hrs, hsm, fun _ H1 s1 => ?_, fun z => absurd hv z⟩
      refine ⟨_, rfl, rfl, _, rfl, ifF (decide_eq_false (fun z => by cases z)) ?_⟩
      refine ⟨_, rfl, _, rfl, w, a, ps, ts, rs, rfl, hw.mono s1.kq, ok, ListOf.mono rowG s1.kq hrs, hsm, fun _ H2 s2' => ?_, fun z => absurd hv z⟩
      have s2 := s1.trans s2'
      refine ⟨_, rfl, b, rfl, ⟨xs, SqL.of (s2 _ _ hb)⟩, for_list (K := K) (a := b) (xs := xs) (fun i σ H' => ∃ y5 y6 : Option V, σ = [some (.ref w), some (.ref a), some (.ref b), some (.int ((worthD rs + 1) / 2)), some (.int (worthD rs)), y5, y6] ∧ Same H H')
        ⟨none, none, rfl, s2⟩ (fun i σ H' _ ⟨_, _, _, s5⟩ => s5.seq (SqL.of hb)) ?_ ?_⟩
      · rintro i x σ H3 hx ⟨y5, y6, rfl, sm⟩
        obtain ⟨S, hq, hg⟩ := lof_at hp hx
        obtain ⟨t, rfl, ht⟩ := id hg
        obtain ⟨hS, hT⟩ := hall S (mem_at hq)
        obtain ⟨m1, m2⟩ := law_math ok.nd hv.1 hv.2 hT
        have htI : IntsAt H t S := ht
        refine ⟨_, rfl, _, rfl, w, t, ps, ts, S, rfl, hw.mono sm.kq, ok, htI.mono sm.kq, fun H4 s4' => ?_⟩
        have s4 := sm.trans s4'
        refine ⟨_, rfl, _, rfl, _, _, rfl, rfl, _, rfl, ifF (decide_eq_false (by omega)) ?_⟩
        refine ⟨_, rfl, _, rfl, _, rfl, w, a, t, ps, ts, rs, S, rfl, hw.mono s4.kq, ok, ListOf.mono rowG s4.kq hrs, hsm, hv, htI.mono s4.kq, hS, fun c H5 s5' hc => ?_⟩
        have s5 := s4.trans s5'
        refine ⟨_, rfl, 2, _, rfl, rfl, .inl ⟨by decide, by decide⟩, _, rfl, rfl, rfl, _, rfl, ?_⟩
        have e : (!decide (V.bl c = V.bl (decide (V.int (2 * costD ps S) = V.int (worthD rs))))) = false := by
          have e : c = decide (V.int (2 * costD ps S) = V.int (worthD rs)) := by
            by_cases z : 2 * costD ps S = worthD rs
            · rw [eqI z]
              exact hc.mpr (m2.mpr z)
            · rw [eqI' z]
              cases c with
              | false => rfl
              | true => exact absurd (m2.mp (hc.mp rfl)) z
          rw [← e, decide_eq_true rfl]
          rfl
        exact ifF e ⟨_, _, rfl, s5⟩
      · rintro σ H3 ⟨y5, y6, rfl, sm⟩
        exact k _ sm
    · exact ⟨_, rfl, _, rfl, w, a, ps, ts, rs, rfl, hw, ok, hrs, hsm, fun z => absurd z hv, fun _ H1 s1 => ⟨_, rfl, rfl, _, rfl, ifT (decide_eq_true rfl) (k _ s1)⟩⟩
end
end TA
namespace TA
open PySem PySem.Spec PyProof.Rows L2
theorem at_menu (ns : List Int) {v : Int} (h0 : 0 ≤ v) (h : v < (ns.length : Int)) : ∃ g, atI (ns.map V.int) v = some (.int g) ∧ g ∈ ns := by
  obtain ⟨j, rfl⟩ : ∃ j : Nat, v = (j : Int) := ⟨v.toNat, by omega⟩
  have hj : j < ns.length := by omega
  exact ⟨ns[j], atI_nat (by rw [List.getElem?_map, List.getElem?_eq_getElem hj]; rfl), List.getElem_mem _⟩
theorem StAt.new {H : Hp} {a p : Addr} {o : HO} (h : StAt H a) (np : H p = none) : StAt (upd H p o) a := (same_new np).st h
theorem pos_div {m : Int} (h1 : 1 ≤ m) (h2 : m ≤ 1000000000000) (i : Int) : CDivW i m := wide_div (b := 64) (by omega) (by omega) (by decide) (by decide)
section
variable {P : Program} {w : World} {K : PySem.W.Frag} {mg : Str → Option Value} {base : Heap}
/- _law_begun: slots 0:_law_script 1:_law_k 2:_law_cell 3:_law_seed; calls  -/
abbrev sl_begun : Stmt := topS 36
abbrev nl_begun : List Str := ["_law_script", "_law_k", "_law_cell", "_law_seed"]
theorem scl_begun : FnScope nl_begun ["_law_script", "_law_k"] (defScope sl_begun) := ⟨rfl, rfl, rfl, by decide +kernel, rfl, by decide +kernel, by decide +kernel⟩
def spl_begun (K : PySem.W.Frag) : Sp := fun vs H Q _ => ∃ (a : Addr) (ns : List Int) (i : Nat), vs = [.ref a, .int (i : Nat)] ∧ SqL K H a (ns.map V.int) ∧ ∀ p H', Same H H' → H p = none → StAt H' p → Q (.ref p) H'
theorem okl_begun (G : Glb mg) (S : Std K mg "_law_begun" sl_begun ["_law_script", "_law_k"]) : Cal P w K mg base CX0 1 "_law_begun" ["_law_script", "_law_k"] (spl_begun K) := S.cal fun f fd F => by
  refine F.ok scl_begun (fun vs H Q E h => ?_) (fun cdv A outer s H vs Q E hr h => ?_)
  · obtain ⟨a, ns, i, rfl, _⟩ := h
    rfl
  · obtain ⟨a, ns, i, rfl, ha, k⟩ := h
    have fin : ∀ c : Int, ∀ p : Addr, H p = none → StAt (upd H p (.lst [.int c, .int ((c % 2147483629 + 104729 * (i : Int) + 7919 * ((i : Int) / 7)) % 2147483629), .bl (decide ((10 : Int) ^ (18 : Int).toNat ≤ c))])) p := fun c p np => ⟨_, _, _, upd_same, by omega, by omega⟩
    refine ⟨_, (pss_cons (ps_set (i := 2) scl_begun.nd rfl (Or.inl rfl) pe_int)
      (pss_cons (ps_if (pt_cmpR op_lt (pv 1) (pe_callB call_len_seq (by rfl) G.len (by decide +kernel) (pa_cons (pv 0) pa_nil)) (nomark _)) (pss_one (ps_set (i := 2) scl_begun.nd rfl (Or.inl rfl) (pe_ix ix_list (pv 0) (pv 1) (fun _ _ => rfl)))) pss_nil)
      (pss_cons (ps_set (i := 3) scl_begun.nd rfl (Or.inl rfl) (pe_op op_add (pe_op op_add (pe_op op_mod (pv 2) pe_int) (pe_op op_mul pe_int (pv 1))) (pe_op op_mul pe_int (pe_op op_fdivW (pv 1) pe_int))))
      (pss_one (ps_ret (pe_lst (pa_cons (pv 2) (pa_cons (pe_op op_mod (pv 3) pe_int) (pa_cons (pe_cmpR op_ge (pv 2) (pe_op op_pow pe_int pe_int) (nomark _)) pa_nil))))))))), ?_⟩
    refine ⟨_, rfl, _, rfl, a, _, rfl, .inl ha, _, _, rfl, rfl, _, rfl, ite2 (fun e => ?_) fun e => ?_⟩
    · have e : (i : Int) < ((ns.map V.int).length : Int) := of_decide_eq_true e
      rw [List.length_map] at e
      have hi : i < ns.length := by omega
      refine ⟨_, rfl, _, rfl, a, _, _, .int ns[i], rfl, rfl, ha, atI_nat (by rw [List.getElem?_map, List.getElem?_eq_getElem hi]; rfl), ?_⟩
      refine ⟨_, rfl, _, _, rfl, rfl, (show (0 : Int) < 2147483629 by decide), _, rfl, _, _, rfl, rfl, .inl ⟨by decide, by decide⟩, _, _, rfl, rfl, _, rfl, _, _, rfl, rfl, pos_div (by decide) (by decide) _, _, _, rfl, rfl, .inl ⟨by decide, by decide⟩, _, _, rfl, rfl, ?_⟩
      refine ⟨_, rfl, _, rfl, _, _, rfl, rfl, (show (0 : Int) < 2147483629 by decide), _, rfl, _, _, rfl, rfl, ⟨by decide, by decide, by decide⟩, _, _, rfl, rfl, small_sz (by show 3 ≤ 1000000; decide), fun p np => ?_⟩
      exact k p _ (same_new np) np (fin _ p np)
    · refine ⟨_, rfl, _, _, rfl, rfl, (show (0 : Int) < 2147483629 by decide), _, rfl, _, _, rfl, rfl, .inl ⟨by decide, by decide⟩, _, _, rfl, rfl, _, rfl, _, _, rfl, rfl, pos_div (by decide) (by decide) _, _, _, rfl, rfl, .inl ⟨by decide, by decide⟩, _, _, rfl, rfl, ?_⟩
      refine ⟨_, rfl, _, rfl, _, _, rfl, rfl, (show (0 : Int) < 2147483629 by decide), _, rfl, _, _, rfl, rfl, ⟨by decide, by decide, by decide⟩, _, _, rfl, rfl, small_sz (by show 3 ≤ 1000000; decide), fun p np => ?_⟩
      exact k p _ (same_new np) np (fin _ p np)
/- _law_take: slots 0:_law_state 1:_law_many 2:_law_digit 3:_law_number; calls  -/
abbrev sl_take : Stmt := topS 37
abbrev nl_take : List Str := ["_law_state", "_law_many", "_law_digit", "_law_number"]
theorem scl_take : FnScope nl_take ["_law_state", "_law_many"] (defScope sl_take) := ⟨rfl, rfl, rfl, by decide +kernel, rfl, by decide +kernel, by decide +kernel⟩
def spl_take : Sp := fun vs H Q _ => ∃ (a : Addr) (m : Int), vs = [.ref a, .int m] ∧ StAt H a ∧ 1 ≤ m ∧ m ≤ 1000000000000 ∧ ∀ v H', 0 ≤ v → v < m → Fr0 H H' → StAt H' a → Q (.int v) H'
theorem okl_take (G : Glb mg) (S : Std K mg "_law_take" sl_take ["_law_state", "_law_many"]) : Cal P w K mg base CX0 1 "_law_take" ["_law_state", "_law_many"] spl_take := S.cal fun f fd F => by
  refine F.ok scl_take (fun vs H Q E h => ?_) (fun cdv A outer s H vs Q E hr h => ?_)
  · obtain ⟨a, m, rfl, _⟩ := h
    rfl
  · obtain ⟨a, m, rfl, hst, m1, m2, k⟩ := h
    obtain ⟨c, s0, f, ha, z0, z1⟩ := id hst
    have m0 : (0 : Int) < m := by omega
    refine ⟨_, (pss_cons (ps_if (pt_val (pe_ix ix_list (pv 0) pe_int (fun _ _ => rfl))) (pss_cons (ps_set (i := 2) scl_take.nd rfl (Or.inl rfl) (pe_op op_mod (pe_ix ix_list (pv 0) pe_int (fun _ _ => rfl)) (pv 1)))
      (pss_cons (ps_asg (pe_op op_fdivW (pe_ix ix_list (pv 0) pe_int (fun _ _ => rfl)) (pv 1)) (pg_sub (pv 0) pe_int set_list))
      (pss_cons (ps_asg (pe_cmpR op_gt (pe_ix ix_list (pv 0) pe_int (fun _ _ => rfl)) pe_int (nomark _)) (pg_sub (pv 0) pe_int set_list))
      (pss_one (ps_ret (pv 2)))))) pss_nil)
      (pss_cons (ps_asg (pe_op op_mod (pe_op op_add (pe_op op_mul (pe_ix ix_list (pv 0) pe_int (fun _ _ => rfl)) pe_int) pe_int) pe_int) (pg_sub (pv 0) pe_int set_list))
      (pss_cons (ps_set (i := 3) scl_take.nd rfl (Or.inl rfl) (pe_op op_fdivW (pe_op op_mod (pe_op op_mul (pe_ix ix_list (pv 0) pe_int (fun _ _ => rfl)) (pe_ix ix_list (pv 0) pe_int (fun _ _ => rfl))) pe_int) pe_int))
      (pss_cons (ps_if (pt_cmpR op_gt (pv 1) (pe_op op_pow pe_int pe_int) (nomark _)) (pss_cons (ps_asg (pe_op op_mod (pe_op op_add (pe_op op_mul (pe_ix ix_list (pv 0) pe_int (fun _ _ => rfl)) pe_int) pe_int) pe_int) (pg_sub (pv 0) pe_int set_list))
      (pss_one (ps_set (i := 3) scl_take.nd rfl (Or.inl rfl) (pe_op op_add (pe_op op_mul (pv 3) pe_int) (pe_ix ix_list (pv 0) pe_int (fun _ _ => rfl)))))) pss_nil)
      (pss_one (ps_ret (pe_op op_mod (pv 3) (pv 1)))))))), ?_⟩
    refine ⟨_, rfl, a, _, 2, .bl f, rfl, rfl, SqL.of ha, rfl, f, rfl, ?_⟩
    cases f with
    | true =>
      refine iteT ?_
      refine ⟨_, rfl, a, _, 0, _, rfl, rfl, SqL.of ha, rfl, _, rfl, _, _, rfl, rfl, m0, ?_⟩
      refine ⟨_, rfl, a, _, 0, _, rfl, rfl, SqL.of ha, rfl, _, rfl, _, _, rfl, rfl, pos_div m1 m2 _, _, rfl, a, _, 0, 0, rfl, rfl, ha, rfl, ?_⟩
      refine ⟨_, rfl, a, _, 0, _, rfl, rfl, SqL.of upd_same, rfl, _, _, rfl, rfl, _, rfl, a, _, 2, 2, rfl, rfl, upd_same, rfl, ?_⟩
      refine ⟨_, rfl, k _ _ (Int.emod_nonneg _ (by omega)) (Int.emod_lt_of_pos _ m0) ?_ ⟨_, _, _, upd_same, z0, z1⟩⟩
      rw [upd_upd]
      exact Fr.setSt hst
    | false =>
      refine iteF ?_
      refine ⟨_, rfl, a, _, 1, _, rfl, rfl, SqL.of ha, rfl, _, _, rfl, rfl, .inr ⟨by decide, by decide⟩, _, _, rfl, rfl, _, _, rfl, rfl, (show (0 : Int) < 2147483647 by decide), _, rfl, a, _, 1, 1, rfl, rfl, ha, rfl, ?_⟩
      have b0 : 0 ≤ (s0 * 48271 + 39373) % 2147483647 := by omega
      have b1 : (s0 * 48271 + 39373) % 2147483647 < 2147483648 := by omega
      refine ⟨_, rfl, a, _, 1, _, rfl, rfl, SqL.of upd_same, rfl, _, rfl, a, _, 1, _, rfl, rfl, SqL.of upd_same, rfl, (s0 * 48271 + 39373) % 2147483647, (s0 * 48271 + 39373) % 2147483647, rfl, rfl, .inl ⟨by omega, by omega⟩, _, _, rfl, rfl, (show (0 : Int) < 2147483629 by decide), _, _, rfl, rfl, pos_div (by decide) (by decide) _, ?_⟩
      refine ⟨_, rfl, _, _, rfl, rfl, ⟨by decide, by decide, by decide⟩, _, _, rfl, rfl, _, rfl, ite2 (fun e => ?_) fun e => ?_⟩
      · refine ⟨_, rfl, a, _, 1, _, rfl, rfl, SqL.of upd_same, rfl, _, _, rfl, rfl, .inr ⟨by decide, by decide⟩, _, _, rfl, rfl, _, _, rfl, rfl, (show (0 : Int) < 2147483647 by decide), _, rfl, a, _, 1, 1, rfl, rfl, upd_same, rfl, ?_⟩
        have d0 : 0 ≤ ((s0 * 48271 + 39373) % 2147483647 * 48271 + 39373) % 2147483647 := by omega
        have d1 : ((s0 * 48271 + 39373) % 2147483647 * 48271 + 39373) % 2147483647 < 2147483648 := by omega
        refine ⟨_, rfl, _, _, rfl, rfl, .inr ⟨by decide, by decide⟩, _, rfl, a, _, 1, _, rfl, rfl, SqL.of upd_same, rfl, _, _, rfl, rfl, ?_⟩
        refine ⟨_, rfl, _, rfl, _, _, rfl, rfl, m0, k _ _ (Int.emod_nonneg _ (by omega)) (Int.emod_lt_of_pos _ m0) ?_ ⟨_, _, _, upd_same, d0, d1⟩⟩
        rw [upd_upd]
        exact Fr.setSt hst
      · exact ⟨_, rfl, _, rfl, _, _, rfl, rfl, m0, k _ _ (Int.emod_nonneg _ (by omega)) (Int.emod_lt_of_pos _ m0) (Fr.setSt hst) ⟨_, _, _, upd_same, b0, b1⟩⟩
end
end TA
namespace TA
open PySem PySem.Spec PyProof.Rows L2
theorem pairs_upd {H : Hp} {l : Addr} {zs : List V} {o : HO} {xs : List V} {ps : List Pr} (h : Paired (PairG H) xs ps) (hl : H l = some (.lst zs)) : Paired (PairG (upd H l o)) xs ps :=
  Paired.mapP h fun x p ⟨t, e, ht⟩ => ⟨t, e, by rw [upd_ne (ne_of ht hl (by intro z; cases z))]; exact ht⟩
/-- no thing but a state stands there -/
def Nw (H : Hp) (l : Addr) : Prop := ∀ o, NSt o → H l = some o → False
theorem Nw.emp {H : Hp} {l : Addr} (h : H l = none) : Nw H l := fun o _ e => by rw [h] at e; cases e
theorem Nw.of {H H1 : Hp} {l : Addr} (f : Fr0 H H1) (h : H1 l = none) : Nw H l := fun o n e => by
  rw [f _ _ (fun z => z) n e] at h
  cases h
theorem Nw.back {H H1 : Hp} {l : Addr} (f : Fr0 H H1) (h : Nw H1 l) : Nw H l := fun o n e => h o n (f _ _ (fun z => z) n e)
theorem Nw.ne {H : Hp} {l b : Addr} {o : HO} (h : Nw H l) (n : NSt o) (e : H b = some o) : b ≠ l := fun z => h o n (z ▸ e)
theorem Fr.mutN {D : Addr → Prop} {H H1 : Hp} {p : Addr} {o : HO} (s : Fr D H H1) (h : Nw H p) : Fr D H (upd H1 p o) := fun b x d n e => by
  rw [upd_ne (h.ne n e)]
  exact s _ _ d n e
/-- what is no state is changed -/
theorem StAt.set {H : Hp} {a p : Addr} {o u : HO} (h : StAt H a) (e : H p = some u) (n : NSt u) : StAt (upd H p o) a := by
  obtain ⟨c, x, f, ea, q⟩ := h
  exact ⟨c, x, f, by rw [upd_ne (ne_of ea e (fun z => n c x f z.symm))]; exact ea, q⟩
structure PsOk (ps : List Pr) : Prop where
  up : ps.Pairwise fun a b => a.1 < b.1
  pl : ∀ p ∈ ps, 0 ≤ p.1 ∧ p.1 ≤ 999 ∧ 1 ≤ p.2 ∧ p.2 ≤ 1000000000
theorem fr_lst {α : Type} {G : Hp → V → α → Prop} (ok : GOk G) {D : Addr → Prop} {H H' : Hp} {l : Addr} {xs : List V} {ps : List α} (f : Fr D H H') (hd : ¬ D l) (p : Paired (G H) xs ps) (e : H l = some (.lst xs)) : H' l = some (.lst xs) := f _ _ hd (refs_nst ok p) e
section
variable {P : Program} {w : World} {K : PySem.W.Frag} {mg : Str → Option Value} {base : Heap}
/- _law_places: slots 0:_law_state 1:_law_count 2:_law_kind 3:_law_places_here 4:_law_number 5:_law_k; calls _law_take -/
abbrev sl_places : Stmt := topS 38
abbrev nl_places : List Str := ["_law_state", "_law_count", "_law_kind", "_law_places_here", "_law_number", "_law_k"]
theorem scl_places : FnScope nl_places ["_law_state", "_law_count"] (defScope sl_places) := ⟨rfl, rfl, rfl, by decide +kernel, rfl, by decide +kernel, by decide +kernel⟩
def spl_places : Sp := fun vs H Q _ => ∃ (a : Addr) (n : Int), vs = [.ref a, .int n] ∧ StAt H a ∧ 0 ≤ n ∧ n ≤ 7 ∧ ∀ l ps H', Fr0 H H' → StAt H' a → Nw H l → PairsAt H' l ps → (ps.length : Int) = n → PsOk ps → Q (.ref l) H'
theorem okl_places (G : Glb mg) (S : Std K mg "_law_places" sl_places ["_law_state", "_law_count"]) (Cl_take : Cal P w K mg base CX0 1 "_law_take" ["_law_state", "_law_many"] spl_take) : Cal P w K mg base CX0 2 "_law_places" ["_law_state", "_law_count"] spl_places := S.cal fun f fd F => by
  refine F.ok scl_places (fun vs H Q E h => ?_) (fun cdv A outer s H vs Q E hr h => ?_)
  · obtain ⟨a, n, rfl, _⟩ := h
    rfl
  · obtain ⟨a, n, rfl, hst, n0, n7, k⟩ := h
    have m1 : ∀ g ∈ ([1, 2, 6, 23] : List Int), 1 ≤ g ∧ g ≤ 23 := by decide
    have m2 : ∀ g ∈ ([1, 3, 9, 10 ^ (9 : Int).toNat] : List Int), 1 ≤ g ∧ g ≤ 1000000000 := by decide
    refine ⟨_, (pss_cons (ps_set (i := 2) scl_places.nd rfl (Or.inl rfl) (pe_cal Cl_take (hr.mono (by decide)) (by rfl) pass0 (pa_cons (pv 0) (pa_cons pe_int pa_nil))))
      (pss_cons (ps_set (i := 3) scl_places.nd rfl (Or.inl rfl) (pe_lst pa_nil))
      (pss_cons (ps_set (i := 4) scl_places.nd rfl (Or.inl rfl) (pe_un un_neg pe_int))
      (pss_cons (ps_for PassesOwn.never rfl (pi_range1 (by rfl) G.range (pa_cons (pv 1) pa_nil)) (pg_name (i := 5) scl_places.nd rfl (Or.inl rfl)) (pss_cons (ps_set (i := 4) scl_places.nd rfl (Or.inl rfl) (pe_op op_add (pe_op op_add (pv 4) pe_int) (pe_cal Cl_take (hr.mono (by decide)) (by rfl) pass0 (pa_cons (pv 0) (pa_cons (pe_ix ix_list (pe_lst (pa_cons pe_int (pa_cons pe_int (pa_cons pe_int (pa_cons pe_int pa_nil))))) (pe_cal Cl_take (hr.mono (by decide)) (by rfl) pass0 (pa_cons (pv 0) (pa_cons pe_int pa_nil))) (fun _ _ => rfl)) pa_nil)))))
      (pss_one (ps_expr (pe_bm PySem.F.plainAttrs_list PySem.F.slot_list_append PySem.F.type_list_append mt_append (pv 3) (pa_cons (pe_tup (pa_cons (pv 4) (pa_cons (pe_op op_add pe_int (pe_cal Cl_take (hr.mono (by decide)) (by rfl) pass0 (pa_cons (pv 0) (pa_cons (pe_ix ix_list (pe_lst (pa_cons pe_int (pa_cons pe_int (pa_cons pe_int (pa_cons (pe_op op_pow pe_int pe_int) pa_nil))))) (pv 2) (fun _ _ => rfl)) pa_nil)))) pa_nil))) pa_nil))))))
      (pss_one (ps_ret (pv 3))))))), ?_⟩
    refine ⟨_, rfl, a, 4, rfl, hst, by decide, by decide, fun kd H1 kd0 kd1 f1 st1 => ?_⟩
    refine ⟨small_sz (by decide), fun l nl1 => ?_⟩
    have nl : Nw H l := Nw.of f1 nl1
    refine ⟨1, rfl, _, rfl, n, rfl, by omega, by omega, for_range (lo := 0) (n := n.toNat) (fun i σ H' => ∃ (num : Int) (y5 : Option V) (xs : List V) (ps : List Pr), σ = [some (.ref a), some (.int n), some (.int kd), some (.ref l), some (.int num), y5] ∧ Fr0 H H' ∧ StAt H' a ∧
        H' l = some (.lst xs) ∧ Paired (PairG H') xs ps ∧ ps.length = i ∧ (ps.Pairwise fun a b => a.1 < b.1) ∧ (∀ p ∈ ps, p.1 ≤ num ∧ 0 ≤ p.1 ∧ 1 ≤ p.2 ∧ p.2 ≤ 1000000000) ∧ -1 ≤ num ∧ num ≤ -1 + 23 * (i : Int))
      ⟨-1, none, [], [], rfl, f1.mutN nl, st1.new nl1, upd_same, .nil, rfl, List.Pairwise.nil, (fun _ h => nomatch h), by omega, by omega⟩ ?_ ?_⟩
    · rintro i σ H2 hi ⟨num, y5, xs, ps, rfl, f2, st2, hl, hp, hlen, hup, hpl, b0, b1⟩
      have hxl := Paired.length hp
      refine ⟨_, rfl, _, _, rfl, rfl, _, rfl, small_sz (by decide), fun p np => ?_⟩
      refine ⟨_, rfl, a, 4, rfl, st2.new np, by decide, by decide, fun v H3 v0 v1 f3 st3 => ?_⟩
      obtain ⟨g, hg, hgm⟩ := at_menu [1, 2, 6, 23] v0 v1
      obtain ⟨g1, g2⟩ := m1 g hgm
      have hp3 : H3 p = some (.lst (([1, 2, 6, 23] : List Int).map V.int)) := f3 _ _ (fun z => z) (nst_ints (ns := [1, 2, 6, 23])) upd_same
      refine ⟨p, _, v, .int g, rfl, rfl, SqL.of hp3, hg, a, g, rfl, st3, g1, by omega, fun u H4 u0 u1 f4 st4 => ?_⟩
      have f24 : Fr0 H2 H4 := (Same.fr (same_new np)).trans (f3.trans f4)
      have hl4 := fr_lst pairG f24 (fun z => z) hp hl
      refine ⟨_, _, rfl, rfl, ?_⟩
      refine ⟨_, rfl, .inl ⟨rfl, _, SqL.of hl4⟩, _, rfl, _, rfl, _, _, rfl, rfl, ⟨by decide, by decide, by decide⟩, small_sz (by decide), fun q nq => ?_⟩
      obtain ⟨g', hg', hgm'⟩ := at_menu [1, 3, 9, 10 ^ (9 : Int).toNat] kd0 kd1
      obtain ⟨g1', g2'⟩ := m2 g' hgm'
      refine ⟨_, rfl, q, _, kd, .int g', rfl, rfl, SqL.of upd_same, hg', a, g', rfl, st4.new nq, g1', by omega, fun u' H5 u0' u1' f5 st5 => ?_⟩
      have f45 : Fr0 H4 H5 := (Same.fr (same_new nq)).trans f5
      have f25 := f24.trans f45
      have hl5 := fr_lst pairG f25 (fun z => z) hp hl
      refine ⟨_, _, rfl, rfl, small_sz (by show 2 ≤ 1000000; decide), fun t nt => ?_⟩
      have tl : l ≠ t := fun e => by rw [← e, hl5] at nt; cases nt
      have hl6 : (upd H5 t (.tup [.int (num + 1 + u), .int (1 + u')])) l = some (.lst xs) := by rw [upd_ne tl]; exact hl5
      refine ⟨l, xs, _, rfl, rfl, hl6, small_lt (by omega), ?_⟩
      have hp5 : Paired (PairG H5) xs ps := Paired.mapP hp fun x p g => pairG.mono _ _ _ _ f25.kq g
      have hp6 : Paired (PairG (upd H5 t (.tup [.int (num + 1 + u), .int (1 + u')]))) xs ps := Paired.mapP hp5 fun x p g => pairG.mono _ _ _ _ (same_new nt).kq g
      refine ⟨_, _, xs ++ [.ref t], ps ++ [(num + 1 + u, 1 + u')], rfl, ?_, ?_, upd_same, ?_, ?_, ?_, ?_, ?_, ?_⟩
      · exact (((f2.trans f25).new nt)).mutN nl
      · exact (st5.new nt).set hl6 (refs_nst pairG hp6)
      · exact pairs_upd (paired_snoc hp6 ⟨t, rfl, upd_same⟩) hl6
      · rw [List.length_append, hlen]
        rfl
      · exact pw_snoc hup fun y hy => by have := (hpl y hy).1; show y.1 < num + 1 + u; omega
      · intro y hy
        rcases List.mem_append.mp hy with hy | hy
        · obtain ⟨c1, c2, c3, c4⟩ := hpl y hy
          exact ⟨by omega, c2, c3, c4⟩
        · rw [List.mem_singleton.mp hy]
          refine ⟨by show num + 1 + u ≤ num + 1 + u; omega, by show 0 ≤ num + 1 + u; omega, by show 1 ≤ 1 + u'; omega, by show 1 + u' ≤ 1000000000; omega⟩
      · omega
      · omega
    · rintro σ H2 ⟨num, y5, xs, ps, rfl, f2, st2, hl, hp, hlen, hup, hpl, b0, b1⟩
      refine ⟨_, rfl, k l ps H2 f2 st2 nl ⟨xs, hl, hp⟩ (by omega) ⟨hup, fun p hp => ?_⟩⟩
      obtain ⟨c1, c2, c3, c4⟩ := hpl p hp
      exact ⟨c2, by omega, c3, c4⟩
end
end TA
namespace TA
open PySem PySem.Spec PyProof.Rows L2
section
variable {P : Program} {w : World} {K : PySem.W.Frag} {mg : Str → Option Value} {base : Heap}
/- _law_web: slots 0:_law_state 1:_law_most 2:_law_count 3:_law_places_here 4:_law_dense 5:_law_ties 6:_law_k 7:_law_j; calls _law_take _law_places -/
abbrev sl_web : Stmt := topS 39
abbrev nl_web : List Str := ["_law_state", "_law_most", "_law_count", "_law_places_here", "_law_dense", "_law_ties", "_law_k", "_law_j"]
theorem scl_web : FnScope nl_web ["_law_state", "_law_most"] (defScope sl_web) := ⟨rfl, rfl, rfl, by decide +kernel, rfl, by decide +kernel, by decide +kernel⟩
def spl_web : Sp := fun vs H Q _ => ∃ (a : Addr), vs = [.ref a, .int 7] ∧ StAt H a ∧ ∀ w ps ts H', Fr0 H H' → StAt H' a → WebAt H' w ps ts → WebOk ps ts → Q (.ref w) H'
theorem okl_web (G : Glb mg) (S : Std K mg "_law_web" sl_web ["_law_state", "_law_most"]) (Cl_take : Cal P w K mg base CX0 1 "_law_take" ["_law_state", "_law_many"] spl_take) (Cl_places : Cal P w K mg base CX0 2 "_law_places" ["_law_state", "_law_count"] spl_places) :
    Cal P w K mg base CX0 3 "_law_web" ["_law_state", "_law_most"] spl_web := S.cal fun f fd F => by
  refine F.ok scl_web (fun vs H Q E h => ?_) (fun cdv A outer s H vs Q E hr h => ?_)
  · obtain ⟨a, rfl, _⟩ := h
    rfl
  · obtain ⟨a, rfl, hst, k⟩ := h
    refine ⟨_, (pss_cons (ps_set (i := 2) scl_web.nd rfl (Or.inl rfl) (pe_cal Cl_take (hr.mono (by decide)) (by rfl) pass0 (pa_cons (pv 0) (pa_cons (pe_op op_add (pv 1) pe_int) pa_nil))))
      (pss_cons (ps_set (i := 3) scl_web.nd rfl (Or.inl rfl) (pe_cal Cl_places (hr.mono (by decide)) (by rfl) pass0 (pa_cons (pv 0) (pa_cons (pv 2) pa_nil))))
      (pss_cons (ps_set (i := 4) scl_web.nd rfl (Or.inl rfl) (pe_op op_add pe_int (pe_cal Cl_take (hr.mono (by decide)) (by rfl) pass0 (pa_cons (pv 0) (pa_cons pe_int pa_nil)))))
      (pss_cons (ps_set (i := 5) scl_web.nd rfl (Or.inl rfl) (pe_lst pa_nil))
      (pss_cons (ps_for PassesOwn.never rfl (pi_range1 (by rfl) G.range (pa_cons (pv 2) pa_nil)) (pg_name (i := 6) scl_web.nd rfl (Or.inl rfl)) (pss_one (ps_for PassesOwn.never rfl (pi_range2 (by rfl) G.range (pa_cons (pe_op op_add (pv 6) pe_int) (pa_cons (pv 2) pa_nil))) (pg_name (i := 7) scl_web.nd rfl (Or.inl rfl)) (pss_one (ps_if (pt_cmpR op_lt (pe_cal Cl_take (hr.mono (by decide)) (by rfl) pass0 (pa_cons (pv 0) (pa_cons pe_int pa_nil))) (pv 4) (nomark _)) (pss_one (ps_expr (pe_bm PySem.F.plainAttrs_list PySem.F.slot_list_append PySem.F.type_list_append mt_append (pv 5) (pa_cons (pe_tup (pa_cons (pe_ix ix_tup (pe_ix ix_list (pv 3) (pv 6) (fun _ _ => rfl)) pe_int (fun _ _ => rfl)) (pa_cons (pe_ix ix_tup (pe_ix ix_list (pv 3) (pv 7) (fun _ _ => rfl)) pe_int (fun _ _ => rfl)) pa_nil))) pa_nil)))) pss_nil)))))
      (pss_one (ps_ret (pe_tup (pa_cons (pv 3) (pa_cons (pv 5) pa_nil)))))))))), ?_⟩
    refine ⟨_, rfl, _, rfl, _, _, rfl, rfl, a, _, rfl, hst, by decide, by decide, fun n H1 n0 n1 f1 st1 => ?_⟩
    refine ⟨_, rfl, _, rfl, a, n, rfl, st1, n0, by omega, fun lp ps H2 f2 st2 nlp hpa hlen hps => ?_⟩
    obtain ⟨xs, hlp, hp⟩ := id hpa
    have hxl := Paired.length hp
    refine ⟨_, rfl, a, 4, rfl, st2, by decide, by decide, fun dn H3 d0 d1 f3 st3 => ?_⟩
    have f13 := f1.trans (f2.trans f3)
    refine ⟨_, _, rfl, rfl, ?_⟩
    refine ⟨small_sz (by decide), fun lt nlt3 => ?_⟩
    have nlt : Nw H lt := Nw.of f13 nlt3
    have nlt2 : Nw H2 lt := Nw.of f3 nlt3
    refine ⟨_, rfl, n, rfl, by omega, by omega, for_range (lo := 0) (n := n.toNat) (fun i σ H' => ∃ (y6 y7 : Option V) (ys : List V) (ts : List Pr), σ = [some (.ref a), some (.int 7), some (.int n), some (.ref lp), some (.int (1 + dn)), some (.ref lt), y6, y7] ∧ Fr0 H H' ∧ Fr0 H2 H' ∧ StAt H' a ∧
        H' lt = some (.lst ys) ∧ Paired (PairG H') ys ts ∧ ts.Pairwise lexP ∧ (∀ t ∈ ts, t.1 < t.2 ∧ t.1 ∈ keys ps ∧ t.2 ∈ keys ps) ∧ (∀ t ∈ ts, ∃ (m : Nat) (p : Pr), m < i ∧ ps[m]? = some p ∧ t.1 = p.1) ∧ ts.length ≤ 7 * i)
      ⟨none, none, [], [], rfl, f13.mutN nlt, f3.mutN nlt2, st3.new nlt3, upd_same, .nil, List.Pairwise.nil, (fun _ h => nomatch h), (fun _ h => nomatch h), Nat.zero_le _⟩ ?_ ?_⟩
    · rintro i σ H4 hi ⟨y6, y7, ys, ts, rfl, f4, g4, st4, hlt, ht, hlx, hti, hm, htl⟩
      have hi2 : i < ps.length := by omega
      obtain ⟨p, hpi⟩ : ∃ p, ps[i]? = some p := ⟨_, List.getElem?_eq_getElem hi2⟩
      refine ⟨_, rfl, _, _, rfl, rfl, _, rfl, _, _, rfl, ⟨by omega, by omega, by omega, by omega⟩, for_range (lo := 0 + (i : Int) + 1) (n := (n - (0 + (i : Int) + 1)).toNat) (fun j σ H' => ∃ (y7 : Option V) (ys : List V) (ts : List Pr), σ = [some (.ref a), some (.int 7), some (.int n), some (.ref lp), some (.int (1 + dn)), some (.ref lt), some (.int (0 + (i : Int))), y7] ∧ Fr0 H H' ∧ Fr0 H2 H' ∧ StAt H' a ∧
          H' lt = some (.lst ys) ∧ Paired (PairG H') ys ts ∧ ts.Pairwise lexP ∧ (∀ t ∈ ts, t.1 < t.2 ∧ t.1 ∈ keys ps ∧ t.2 ∈ keys ps) ∧ (∀ t ∈ ts, (∃ (m : Nat) (p : Pr), m < i ∧ ps[m]? = some p ∧ t.1 = p.1) ∨ (t.1 = p.1 ∧ ∃ (m : Nat) (q : Pr), m < i + 1 + j ∧ ps[m]? = some q ∧ t.2 = q.1)) ∧ ts.length ≤ 7 * i + j)
        ⟨_, ys, ts, rfl, f4, g4, st4, hlt, ht, hlx, hti, fun t h => .inl (hm t h), by omega⟩ ?_ ?_⟩
      · rintro j σ H5 hj ⟨y7, ys, ts, rfl, f5, g5, st5, hlt, ht, hlx, hti, hm, htl⟩
        have hj2 : i + 1 + j < ps.length := by omega
        obtain ⟨q, hqj⟩ : ∃ q, ps[i + 1 + j]? = some q := ⟨_, List.getElem?_eq_getElem hj2⟩
        refine ⟨_, rfl, a, 5, rfl, st5, by decide, by decide, fun v H6 v0 v1 f6 st6 => ?_⟩
        have hyl := Paired.length ht
        have hlt6 := fr_lst pairG f6 (fun z => z) ht hlt
        have ht6 : Paired (PairG H6) ys ts := Paired.mapP ht fun x p g => pairG.mono _ _ _ _ f6.kq g
        have f6' := f5.trans f6
        have g6' := g5.trans f6
        refine ⟨_, rfl, _, _, rfl, rfl, _, rfl, ite2 (fun e => ?_) fun e => ?_⟩
        · obtain ⟨x1, hx1, c1⟩ := paired_at hp hpi
          obtain ⟨x2, hx2, c2⟩ := paired_at hp hqj
          obtain ⟨t1, rfl, k1⟩ := pairG.mono _ _ _ _ g6'.kq c1
          obtain ⟨t2, rfl, k2⟩ := pairG.mono _ _ _ _ g6'.kq c2
          have hlp6 := fr_lst pairG g6' (fun z => z) hp hlp
          refine ⟨_, rfl, .inl ⟨rfl, _, SqL.of hlt6⟩, _, rfl, _, rfl, lp, xs, _, _, rfl, rfl, SqL.of hlp6, at_of (j := i) (by omega) hx1, t1, _, 0, _, rfl, rfl, SqT.of k1, rfl, ?_⟩
          refine ⟨_, rfl, _, rfl, lp, xs, _, _, rfl, rfl, SqL.of hlp6, at_of (j := i + 1 + j) (by omega) hx2, t2, _, 0, _, rfl, rfl, SqT.of k2, rfl, small_sz (by show 2 ≤ 1000000; decide), fun t nt => ?_⟩
          have tl : lt ≠ t := fun e => by rw [← e, hlt6] at nt; cases nt
          have hlt7 : (upd H6 t (.tup [.int p.1, .int q.1])) lt = some (.lst ys) := by rw [upd_ne tl]; exact hlt6
          refine ⟨lt, ys, _, rfl, rfl, hlt7, small_lt (by omega), ?_⟩
          have ht7 : Paired (PairG (upd H6 t (.tup [.int p.1, .int q.1]))) ys ts := Paired.mapP ht6 fun x p g => pairG.mono _ _ _ _ (same_new nt).kq g
          have hpq : p.1 < q.1 := pw_at (R := fun a b : Pr => a.1 < b.1) hps.up (show i < i + 1 + j by omega) hpi hqj
          refine ⟨_, ys ++ [.ref t], ts ++ [(p.1, q.1)], rfl, (f6'.new nt).mutN nlt, (g6'.new nt).mutN nlt2, (st6.new nt).set hlt7 (refs_nst pairG ht7), upd_same, pairs_upd (paired_snoc ht7 ⟨t, rfl, upd_same⟩) hlt7, ?_, ?_, ?_, ?_⟩
          · refine pw_snoc hlx fun t ht => ?_
            rcases hm t ht with ⟨m, p', hmi, hp', e'⟩ | ⟨e', m, q', hmj, hq', e''⟩
            · have z : p'.1 < p.1 := pw_at (R := fun a b : Pr => a.1 < b.1) hps.up hmi hp' hpi
              exact .inl (by rw [e']; exact z)
            · have z : q'.1 < q.1 := pw_at (R := fun a b : Pr => a.1 < b.1) hps.up hmj hq' hqj
              exact .inr ⟨e', by rw [e'']; exact z⟩
          · intro t ht
            rcases List.mem_append.mp ht with ht | ht
            · exact hti t ht
            · rw [List.mem_singleton.mp ht]
              exact ⟨hpq, (show p.1 ∈ keys ps from mem_keys (mem_at hpi)), (show q.1 ∈ keys ps from mem_keys (mem_at hqj))⟩
          · intro t ht
            rcases List.mem_append.mp ht with ht | ht
            · rcases hm t ht with z | ⟨e', m, q', hmj, hq', e''⟩
              · exact .inl z
              · exact .inr ⟨e', m, q', by omega, hq', e''⟩
            · rw [List.mem_singleton.mp ht]
              exact .inr ⟨rfl, i + 1 + j, q, by omega, hqj, rfl⟩
          · rw [List.length_append]
            show ts.length + 1 ≤ _
            omega
        · refine ⟨_, ys, ts, rfl, f6', g6', st6, hlt6, ht6, hlx, hti, fun t ht => ?_, by omega⟩
          rcases hm t ht with z | ⟨e', m, q', hmj, hq', e''⟩
          · exact .inl z
          · exact .inr ⟨e', m, q', by omega, hq', e''⟩
      · rintro σ H5 ⟨y7, ys, ts, rfl, f5, g5, st5, hlt, ht, hlx, hti, hm, htl⟩
        refine ⟨_, _, ys, ts, rfl, f5, g5, st5, hlt, ht, hlx, hti, fun t ht => ?_, by omega⟩
        rcases hm t ht with ⟨m, p', hmi, hp', e'⟩ | ⟨e', _⟩
        · exact ⟨m, p', by omega, hp', e'⟩
        · exact ⟨i, p, by omega, hpi, e'⟩
    · rintro σ H4 ⟨y6, y7, ys, ts, rfl, f4, g4, st4, hlt, ht, hlx, hti, hm, htl⟩
      refine ⟨_, rfl, _, rfl, small_sz (by show 2 ≤ 1000000; decide), fun w nw => ?_⟩
      have s5 : Same H4 (upd H4 w (.tup [.ref lp, .ref lt])) := same_new nw
      have hpa4 : PairsAt H4 lp ps := ListOf.mono pairG g4.kq hpa
      have hta4 : PairsAt H4 lt ts := ⟨ys, hlt, ht⟩
      exact k w ps ts _ (f4.new nw) (st4.new nw) ⟨lp, lt, upd_same, ListOf.mono pairG s5.kq hpa4, ListOf.mono pairG s5.kq hta4⟩ ⟨by omega, hps.up, hps.pl, by omega, hlx, hti⟩
end
end TA
namespace TA
open PySem PySem.Spec PyProof.Rows L2
/-- a list of ints at an address of which A is true -/
def SetN (A : Addr → Prop) (H : Hp) (x : V) (S : List Int) : Prop := ∃ t, x = .ref t ∧ H t = some (.lst (S.map V.int)) ∧ A t
theorem setN (A : Addr → Prop) : GOk (SetN A) := ⟨fun _ _ _ ⟨t, e, _⟩ => ⟨t, e⟩, fun _ _ _ _ k ⟨t, e, q, a⟩ => ⟨t, e, k _ _ nst_ints ndi_lst q, a⟩⟩
theorem setN_imp {A B : Addr → Prop} (h : ∀ t, A t → B t) {H : Hp} {xs : List V} {l : List (List Int)} (p : Paired (SetN A H) xs l) : Paired (SetN B H) xs l := Paired.mapP p fun _ _ ⟨t, e, q, a⟩ => ⟨t, e, q, h t a⟩
theorem setN_set {A : Addr → Prop} {H : Hp} {xs : List V} {l : List (List Int)} (p : Paired (SetN A H) xs l) : Paired (SetG H) xs l := Paired.mapP p fun _ _ ⟨t, e, q, _⟩ => ⟨t, e, q⟩
theorem setN_upd {A : Addr → Prop} {H : Hp} {D : Addr} {o : HO} {xs : List V} {l : List (List Int)} (h : ∀ t, A t → t ≠ D) (p : Paired (SetN A H) xs l) : Paired (SetN A (upd H D o)) xs l := Paired.mapP p fun _ _ ⟨t, e, q, a⟩ => ⟨t, e, by rw [upd_ne (h t a)]; exact q, a⟩
theorem pairs_dp {K : PySem.W.Frag} {H : Hp} : ∀ {xs : List V} {ts : List Pr}, Paired (PairG H) xs ts → DpAll K H xs (ts.map fun t => PyData.tuple [.int t.1, .int t.2])
  | _, _, .nil => .nil
  | _, _, .cons ⟨t, e, h⟩ r => by
    subst e
    exact .cons (.tup (SqT.of h) (.cons (.int _) (.cons (.int _) .nil))) (pairs_dp r)
theorem pairs_small (ts : List Pr) : ∀ d ∈ ts.map fun t => PyData.tuple [.int t.1, .int t.2], d.canLay0 = true ∧ d.depth ≤ 60 := fun d hd => by
  obtain ⟨t, _, rfl⟩ := List.mem_map.mp hd
  exact ⟨by simp [PyData.canLay0, PyData.canLayAll0], by simp [PyData.depth, PyData.depthAll]⟩
section
variable {P : Program} {w : World} {K : PySem.W.Frag} {mg : Str → Option Value} {base : Heap}
/- _law_sets: slots 0:_law_places_here 1:_law_found 2:_law_place* 3:_law_some; calls  -/
abbrev sl_sets : Stmt := topS 45
abbrev nl_sets : List Str := ["_law_places_here", "_law_found", "_law_place", "_law_some"]
theorem scl_sets : FnScope nl_sets ["_law_places_here"] (defScope sl_sets) := ⟨rfl, rfl, rfl, by decide +kernel, rfl, by decide +kernel, by decide +kernel⟩
def spl_sets : Sp := fun vs H Q _ => ∃ (a : Addr) (l : List Int), vs = [.ref a] ∧ IntsAt H a l ∧ l.length ≤ 7 ∧ ∀ p xs sets H', Same H H' → H p = none → H' p = some (.lst xs) → Paired (SetN (fun t => H t = none) H') xs sets → (∀ S ∈ sets, S.Sublist l) → sets.length ≤ 128 → Q (.ref p) H'
theorem okl_sets (G : Glb mg) (S : Std K mg "_law_sets" sl_sets ["_law_places_here"]) : Cal P w K mg base CX0 1 "_law_sets" ["_law_places_here"] spl_sets := S.cal fun f fd F => by
  refine F.ok scl_sets (fun vs H Q E h => ?_) (fun cdv A outer s H vs Q E hr h => ?_)
  · obtain ⟨a, l, rfl, _⟩ := h
    rfl
  · obtain ⟨a, l, rfl, ha, hl7, k⟩ := h
    have ha : H a = some (.lst (l.map V.int)) := ha
    refine ⟨_, (pss_cons (ps_set (i := 1) scl_sets.nd rfl (Or.inl rfl) (pe_lst (pa_cons (pe_lst pa_nil) pa_nil)))
      (pss_cons (ps_for PassesOwn.never rfl (pi_list (pv 0)) (pg_name (i := 2) scl_sets.nd rfl (Or.inr rfl)) (pss_one (ps_set (i := 1) scl_sets.nd rfl (Or.inl rfl) (pe_op op_cat (pv 1) (pe_lc (own := [("_law_some", 3)]) rfl scl_sets.nd (pi_list (pv 1)) (blkOk_by (own := [("_law_some", 3)]) (N := nl_sets) (sc := defScope sl_sets) (by decide +kernel)) (fun _ _ _ _ _ => (pg_name (i := 3) scl_sets.nd rfl (Or.inl rfl))) (fun _ _ _ _ _ => pts_nil) (fun _ _ _ _ _ => (pe_op op_cat (pv 3) (pe_lst (pa_cons (pv 2) pa_nil)))))))))
      (pss_one (ps_ret (pv 1))))), ?_⟩
    refine ⟨small_sz (by decide), fun e ne => ⟨small_sz (by show 1 ≤ 1000000; decide), fun p np => ?_⟩⟩
    have se : Same H (upd H e (.lst [])) := same_new ne
    have sp : Same H (upd (upd H e (.lst [])) p (.lst [.ref e])) := se.trans (same_new np)
    have hep : e ≠ p := fun z => by rw [← z, upd_same] at np; cases np
    refine ⟨_, rfl, a, rfl, ⟨_, SqL.of (sp _ _ ha)⟩, for_list (K := K) (a := a) (xs := l.map V.int) (fun i σ H' => ∃ (p : Addr) (xs : List V) (sets : List (List Int)) (y2 : Option V), σ = [some (.ref a), some (.ref p), y2, none] ∧ Same H H' ∧ H p = none ∧ H' p = some (.lst xs) ∧ Paired (SetN (fun t => H t = none) H') xs sets ∧
        (∀ S ∈ sets, S.Sublist (l.take i)) ∧ sets.length = 2 ^ i)
      ⟨p, [.ref e], [[]], none, rfl, sp, se.free np, upd_same, .cons ⟨e, rfl, by rw [upd_ne hep, upd_same]; rfl, ne⟩ .nil, fun S hS => by rw [List.mem_singleton.mp hS]; exact List.nil_sublist _, rfl⟩ (fun i σ H' _ ⟨_, _, _, _, _, s5, _⟩ => s5.seq (SqL.of ha)) ?_ ?_⟩
    · rintro i x σ H1 hx ⟨p, xs, sets, y2, rfl, sm, np0, hp, hpp, hsub, hlen⟩
      rw [List.getElem?_map] at hx
      obtain ⟨z, hz, rfl⟩ := Option.map_eq_some_iff.mp hx
      have hi := lt_at hz
      have hpow : 2 ^ i ≤ 64 := Nat.pow_le_pow_right (by decide) (show i ≤ 6 by omega)
      have hxl := Paired.length hpp
      refine ⟨_, rfl, _, rfl, p, rfl, ⟨xs, SqL.of hp⟩, fun D nD => ?_⟩
      have nD0 : H D = none := sm.free nD
      refine lc_list (K := K) (a := p) (xs := xs) (fun j H' => Same H1 H' ∧ ∃ zs : List V, H' D = some (.lst zs) ∧ Paired (SetN (fun t => H t = none ∧ t ≠ D) H') zs ((sets.take j).map (· ++ [z]))) ⟨same_new nD, [], upd_same, .nil⟩ (fun j H' _ q => q.1.seq (SqL.of hp)) ?_ ?_
      · rintro j x H2 hx ⟨s2, zs, hD, hzs⟩
        obtain ⟨S, hq, t, rfl, ht, _⟩ := lof_at hpp hx
        have hSl : S.length ≤ 7 := Nat.le_trans (hsub S (mem_at hq)).length_le (by rw [List.length_take]; omega)
        have hzl := Paired.length hzs
        rw [List.length_map, List.length_take] at hzl
        refine ⟨rfl, ?_⟩
        refine ⟨_, rfl, _, rfl, small_sz (by show 1 ≤ 1000000; decide), fun q nq => ?_⟩
        have s3 : Same H2 (upd H2 q (.lst [.int z])) := same_new nq
        refine ⟨t, q, _, _, rfl, rfl, s3 _ _ (s2 _ _ ht), upd_same, small_sz (by rw [List.length_map]; show S.length + 1 ≤ 1000000; omega), fun u nu => ?_⟩
        have s4 : Same H2 (upd (upd H2 q (.lst [.int z])) u (.lst (S.map V.int ++ [.int z]))) := s3.trans (same_new nu)
        have hD4 := s4 _ _ hD
        have uD : u ≠ D := fun e => by rw [e, s3 _ _ hD] at nu; cases nu
        refine ⟨zs, hD4, small_lt (by omega), (s2.trans s4).mut nD, zs ++ [.ref u], upd_same, ?_⟩
        rw [take_at hq, List.map_append]
        refine setN_upd (fun t h => h.2) (paired_snoc (Paired.mapP hzs fun x y g => (setN _).mono _ _ _ _ s4.kq g) ⟨u, rfl, ?_, sm.free (s2.free (s3.free nu)), uD⟩)
        rw [upd_same, List.map_append]
        rfl
      · rintro H2 ⟨s2, zs, hD, hzs⟩
        rw [hxl, List.take_of_length_le (Nat.le_refl _)] at hzs
        have hzl := Paired.length hzs
        rw [List.length_map] at hzl
        refine ⟨p, D, xs, zs, rfl, rfl, s2 _ _ hp, hD, small_sz (by omega), fun q nq => ?_⟩
        have s3 : Same H2 (upd H2 q (.lst (xs ++ zs))) := same_new nq
        have s13 := sm.trans (s2.trans s3)
        refine ⟨q, xs ++ zs, sets ++ sets.map (· ++ [z]), _, rfl, s13, (sm.trans s2).free nq, upd_same, ?_, fun S hS => ?_, ?_⟩
        · exact paired_append (Paired.mapP hpp fun x y g => (setN _).mono _ _ _ _ (s2.trans s3).kq g) (setN_imp (fun t h => h.1) (Paired.mapP hzs fun x y g => (setN _).mono _ _ _ _ s3.kq g))
        · rw [take_at hz]
          rcases List.mem_append.mp hS with h | h
          · exact (hsub S h).trans (List.sublist_append_left _ _)
          · obtain ⟨S', hS', rfl⟩ := List.mem_map.mp h
            exact (hsub S' hS').append_right _
        · rw [List.length_append, List.length_map, hlen, Nat.pow_succ]
          omega
    · rintro σ H1 ⟨p, xs, sets, y2, rfl, sm, np0, hp, hpp, hsub, hlen⟩
      rw [take_map_all] at hsub
      rw [List.length_map] at hlen
      have hpow : 2 ^ l.length ≤ 128 := Nat.pow_le_pow_right (by decide) hl7
      exact ⟨_, rfl, k p xs sets H1 sm np0 hp hpp hsub (by omega)⟩
end
end TA
namespace TA
open PySem PySem.Spec PyProof.Rows L2
theorem sub_set {ps : List Pr} {S : List Int} (hu : ps.Pairwise fun a b => a.1 < b.1) (h : S.Sublist (keys ps)) : SetOk ps S :=
  ⟨fun x hx => h.subset hx, List.Pairwise.sublist h (by unfold keys; rw [List.pairwise_map]; exact hu)⟩
section
variable {P : Program} {w : World} {K : PySem.W.Frag} {mg : Str → Option Value} {base : Heap}
/- _law_touching: slots 0:_law_web_here 1:_law_found 2:_law_some* 3:_law_left 4:_law_place 5:_law_price 6:_law_tie; calls _law_sets -/
abbrev sl_touching : Stmt := topS 46
abbrev nl_touching : List Str := ["_law_web_here", "_law_found", "_law_some", "_law_left", "_law_place", "_law_price", "_law_tie"]
theorem scl_touching : FnScope nl_touching ["_law_web_here"] (defScope sl_touching) := ⟨rfl, rfl, rfl, by decide +kernel, rfl, by decide +kernel, by decide +kernel⟩
def spl_touching : Sp := fun vs H Q _ => ∃ (w : Addr) (ps ts : List Pr), vs = [.ref w] ∧ WebAt H w ps ts ∧ WebOk ps ts ∧ ∀ b sets H', Same H H' → SetsAt H' b sets → (∀ S ∈ sets, SetOk ps S ∧ Touch ts S) → Q (.ref b) H'
theorem okl_touching (G : Glb mg) (S : Std K mg "_law_touching" sl_touching ["_law_web_here"]) (Cl_sets : Cal P w K mg base CX0 1 "_law_sets" ["_law_places_here"] spl_sets) : Cal P w K mg base CX0 2 "_law_touching" ["_law_web_here"] spl_touching := S.cal fun f fd F => by
  refine F.ok scl_touching (fun vs H Q E h => ?_) (fun cdv A outer s H vs Q E hr h => ?_)
  · obtain ⟨w, ps, ts, rfl, _⟩ := h
    rfl
  · obtain ⟨w, ps, ts, rfl, ⟨pa, tb, hw, ⟨xs, hpa, hp⟩, ⟨zs, htb, ht⟩⟩, ok, k⟩ := h
    have hl7 := ok.len
    have ht49 := ok.tlen
    have hxl := Paired.length hp
    have hzl := Paired.length ht
    refine ⟨_, (pss_cons (ps_set (i := 1) scl_touching.nd rfl (Or.inl rfl) (pe_lst pa_nil))
      (pss_cons (ps_for PassesOwn.never rfl (pi_list (pe_cal Cl_sets (hr.mono (by decide)) (by rfl) pass0 (pa_cons (pe_lc (own := [("_law_place", 4), ("_law_price", 5)]) rfl scl_touching.nd (pi_list (pe_ix ix_tup (pv 0) pe_int (fun _ _ => rfl))) (blkOk_by (own := [("_law_place", 4), ("_law_price", 5)]) (N := nl_touching) (sc := defScope sl_touching) (by decide +kernel)) (fun _ _ _ _ _ => (pg_tupK (n := 2) (K := K) rfl (by rfl) (pgs_cons (pg_name (i := 4) scl_touching.nd rfl (Or.inl rfl)) (pgs_cons (pg_name (i := 5) scl_touching.nd rfl (Or.inl rfl)) pgs_nil)))) (fun _ _ _ _ _ => pts_nil) (fun _ _ _ _ _ => (pv 4))) pa_nil))) (pg_name (i := 2) scl_touching.nd rfl (Or.inr rfl)) (pss_cons (ps_setLc (i := 3) (py := _) (own := [("_law_tie", 6)]) rfl scl_touching.nd rfl rfl (sw_true rfl rfl rfl (by decide +kernel)) (pi_list (pe_ix ix_tup (pv 0) pe_int (fun _ _ => rfl))) (blkOk_by (own := [("_law_tie", 6)]) (N := nl_touching) (sc := defScope sl_touching) (by decide +kernel)) (fun _ _ _ _ _ => (pg_name (i := 6) scl_touching.nd rfl (Or.inl rfl))) (fun _ _ _ _ _ => (pts_one (pt_cmpR (op_notIn_seqK (K := K) rfl) (pe_ix (ix_tupK (K := K) rfl) (pv 6) pe_int (fun _ _ => rfl)) (pv 2) (by rfl)))) (fun _ _ _ _ _ => (pv 6)))
      (pss_one (ps_if (pt_cmpR (op_eqD hr.units) (pe_lc (own := [("_law_tie", 6)]) rfl scl_touching.nd (pi_list (pv 3)) (blkOk_by (own := [("_law_tie", 6)]) (N := nl_touching) (sc := defScope sl_touching) (by decide +kernel)) (fun _ _ _ _ _ => (pg_name (i := 6) scl_touching.nd rfl (Or.inl rfl))) (fun _ _ _ _ _ => (pts_one (pt_cmpR (op_notIn_seqK (K := K) rfl) (pe_ix (ix_tupK (K := K) rfl) (pv 6) pe_int (fun _ _ => rfl)) (pv 2) (by rfl)))) (fun _ _ _ _ _ => (pv 6))) (pe_lst pa_nil) (nomark _)) (pss_one (ps_expr (pe_bm PySem.F.plainAttrs_list PySem.F.slot_list_append PySem.F.type_list_append mt_append (pv 1) (pa_cons (pv 2) pa_nil)))) pss_nil))))
      (pss_one (ps_ret (pv 1))))), ?_⟩
    refine ⟨small_sz (by decide), fun l nl => ?_⟩
    have s1 : Same H (upd H l (.lst [])) := same_new nl
    refine ⟨_, rfl, w, _, 0, _, rfl, rfl, SqT.of (s1 _ _ hw), rfl, pa, rfl, ⟨xs, SqL.of (s1 _ _ hpa)⟩, fun D nD => ?_⟩
    refine lc_list (K := K) (a := pa) (xs := xs) (fun j H' => Same (upd H l (.lst [])) H' ∧ H' D = some (.lst ((keys (ps.take j)).map V.int))) ⟨same_new nD, upd_same⟩ (fun j H' _ q => q.1.seq (s1.seq (SqL.of hpa))) ?_ ?_
    · rintro j x H2 hx ⟨s2, hD⟩
      obtain ⟨p, hq, t, rfl, htp⟩ := lof_at hp hx
      have hj := lt_at hx
      refine ⟨t, _, rfl, SqT.of (s2 _ _ (s1 _ _ htp)), rfl, _, _, rfl, _, _, rfl, rfl, rfl, ?_⟩
      refine ⟨_, rfl, _, hD, small_lt (by rw [List.length_map, keys, List.length_map, List.length_take]; omega), s2.mut nD, ?_⟩
      rw [upd_same, keys_take_snoc hq, List.map_append]
      rfl
    · rintro H2 ⟨s2, hD⟩
      rw [hxl, List.take_of_length_le (Nat.le_refl _)] at hD
      have hl2 : H2 l = some (.lst []) := s2 _ _ upd_same
      refine ⟨D, keys ps, rfl, hD, by rw [keys, List.length_map]; exact hl7, fun p ys sets H3 s3 np hpl hpp hsub hslen => ?_⟩
      have s03 : Same H H3 := s1.trans (s2.trans s3)
      have hl3 := s3 _ _ hl2
      have lp : p ≠ l := fun e => by rw [e, hl2] at np; cases np
      have hyl := Paired.length hpp
      have hpp : Paired (SetN (fun t => t ≠ l) H3) ys sets := setN_imp (fun t h e => by rw [e, hl2] at h; cases h) hpp
      refine ⟨p, rfl, ⟨ys, SqL.of hpl⟩, for_list (K := K) (a := p) (xs := ys) (fun i σ H' => ∃ (y2 y3 : Option V) (vs : List V) (found : List (List Int)), σ = [some (.ref w), some (.ref l), y2, y3, none, none, none] ∧ Same H H' ∧ H' p = some (.lst ys) ∧ Paired (SetN (fun t => t ≠ l) H') ys sets ∧ H' l = some (.lst vs) ∧
          Paired (SetN (fun t => t ≠ l) H') vs found ∧ (∀ S ∈ found, SetOk ps S ∧ Touch ts S) ∧ found.length ≤ i)
        ⟨none, none, [], [], rfl, s03, hpl, hpp, hl3, .nil, (fun _ h => nomatch h), Nat.le_refl _⟩ (fun i σ H' _ ⟨_, _, _, _, _, _, e, _⟩ => SqL.of e) ?_ ?_⟩
      · rintro i x σ H4 hx ⟨y2, y3, vs, found, rfl, sm, hp4, hpp, hl4, hvf, hall, hfl⟩
        have hi := lt_at hx
        obtain ⟨S, hq, t, rfl, hts, htl⟩ := lof_at hpp hx
        have hvl := Paired.length hvf
        refine ⟨_, rfl, w, _, 1, _, rfl, rfl, SqT.of (sm _ _ hw), rfl, tb, rfl, ⟨zs, SqL.of (sm _ _ htb)⟩, fun D nD => ?_⟩
        refine lc_list (K := K) (a := tb) (xs := zs) (fun j H' => Same H4 H' ∧ ∃ us : List V, H' D = some (.lst us) ∧ Paired (PairG H') us ((ts.take j).filter fun t => !decide (t.1 ∈ S))) ⟨same_new nD, [], upd_same, .nil⟩ (fun j H' _ q => q.1.seq (sm.seq (SqL.of htb))) ?_ ?_
        · rintro j x H5 hx ⟨s5, us, hD, hus⟩
          obtain ⟨q, hq, u, rfl, hu⟩ := lof_at ht hx
          have hj := lt_at hx
          have hul := Paired.length hus
          have hfl2 : ((ts.take j).filter fun t => !decide (t.1 ∈ S)).length ≤ 49 := Nat.le_trans (List.length_filter_le _ _) (by rw [List.length_take]; omega)
          refine ⟨rfl, _, rfl, u, _, 0, _, rfl, rfl, SqT.of (s5 _ _ (sm _ _ hu)), rfl, _, rfl, t, _, rfl, .inl (SqL.of (s5 _ _ hts)), rfl, flat_ints, _, rfl, ?_⟩
          show (if (!inV (.int q.1) (S.map V.int)) = true then _ else _)
          rw [inV_int, take_at hq, List.filter_append]
          by_cases hm : q.1 ∈ S
          · rw [decide_eq_true hm]
            refine iteF ⟨s5, us, hD, ?_⟩
            rw [List.filter_cons, if_neg (by simpa using hm), List.filter_nil, List.append_nil]
            exact hus
          · rw [decide_eq_false hm]
            refine iteT ⟨_, rfl, us, hD, small_lt (by omega), s5.mut nD, us ++ [.ref u], upd_same, ?_⟩
            rw [List.filter_cons, if_pos (by simpa using hm), List.filter_nil]
            exact pairs_upd (paired_snoc hus ⟨u, rfl, s5 _ _ (sm _ _ hu)⟩) hD
        · rintro H5 ⟨s5, us, hD, hus⟩
          rw [hzl, List.take_of_length_le (Nat.le_refl _)] at hus
          have hul := Paired.length hus
          refine ⟨_, rfl, D, rfl, ⟨us, SqL.of hD⟩, fun D2 nD2 => ?_⟩
          refine lc_list (K := K) (a := D) (xs := us) (fun j H' => Same H5 H' ∧ ∃ qs : List V, H' D2 = some (.lst qs) ∧ Paired (PairG H') qs ((((ts.filter fun t => !decide (t.1 ∈ S))).take j).filter fun t => !decide (t.2 ∈ S))) ⟨same_new nD2, [], upd_same, .nil⟩ (fun j H' _ q => q.1.seq (SqL.of hD)) ?_ ?_
          · rintro j x H6 hx ⟨s6, qs, hD2, hqs⟩
            obtain ⟨q, hq, u, rfl, hu⟩ := lof_at hus hx
            have hj := lt_at hx
            have hql := Paired.length hqs
            have hfl2 : ((((ts.filter fun t => !decide (t.1 ∈ S))).take j).filter fun t => !decide (t.2 ∈ S)).length ≤ 49 := Nat.le_trans (List.length_filter_le _ _) (Nat.le_trans (by rw [List.length_take]; exact Nat.min_le_right _ _) (Nat.le_trans (List.length_filter_le _ _) ht49))
            refine ⟨rfl, _, rfl, u, _, 1, _, rfl, rfl, SqT.of (s6 _ _ hu), rfl, _, rfl, t, _, rfl, .inl (SqL.of (s6 _ _ (s5 _ _ hts))), rfl, flat_ints, _, rfl, ?_⟩
            show (if (!inV (.int q.2) (S.map V.int)) = true then _ else _)
            rw [inV_int, take_at hq, List.filter_append]
            by_cases hm : q.2 ∈ S
            · rw [decide_eq_true hm]
              refine iteF ⟨s6, qs, hD2, ?_⟩
              rw [List.filter_cons, if_neg (by simpa using hm), List.filter_nil, List.append_nil]
              exact hqs
            · rw [decide_eq_false hm]
              refine iteT ⟨_, rfl, qs, hD2, small_lt (by omega), s6.mut nD2, qs ++ [.ref u], upd_same, ?_⟩
              rw [List.filter_cons, if_pos (by simpa using hm), List.filter_nil]
              exact pairs_upd (paired_snoc hqs ⟨u, rfl, s6 _ _ hu⟩) hD2
          · rintro H6 ⟨s6, qs, hD2, hqs⟩
            rw [hul, List.take_of_length_le (Nat.le_refl _)] at hqs
            refine ⟨small_sz (by decide), fun n nn => ?_⟩
            have s7 : Same H6 (upd H6 n (.lst [])) := same_new nn
            have s47 := s5.trans (s6.trans s7)
            have hqs7 := Paired.mapP hqs fun x y g => pairG.mono _ _ _ _ s7.kq g
            refine ⟨.list _, .list [], .lst (SqL.of (s7 _ _ hD2)) (pairs_dp hqs7), .lst (SqL.of upd_same) .nil, shaped_list (pairs_small _), shaped_list (fun _ z => nomatch z), _, rfl, ?_⟩
            rw [eqv_nil, List.length_map]
            have hpp7 : Paired (SetN (fun t => t ≠ l) (upd H6 n (.lst []))) ys sets := Paired.mapP hpp fun x y g => (setN _).mono _ _ _ _ s47.kq g
            have hvf7 : Paired (SetN (fun t => t ≠ l) (upd H6 n (.lst []))) vs found := Paired.mapP hvf fun x y g => (setN _).mono _ _ _ _ s47.kq g
            by_cases hz : (((ts.filter fun t => !decide (t.1 ∈ S))).filter fun t => !decide (t.2 ∈ S)).length = 0
            · rw [decide_eq_true hz]
              refine iteT ⟨_, rfl, .inl ⟨rfl, _, SqL.of (s47 _ _ hl4)⟩, _, rfl, l, vs, _, rfl, rfl, s47 _ _ hl4, small_lt (by omega), ?_⟩
              refine ⟨_, _, vs ++ [.ref t], found ++ [S], rfl, (sm.trans s47).mut nl, by rw [upd_ne lp]; exact s47 _ _ hp4, setN_upd (fun t h => h) hpp7, upd_same, setN_upd (fun t h => h) (paired_snoc hvf7 ⟨t, rfl, s47 _ _ hts, htl⟩), fun S' hS' => ?_, by rw [List.length_append]; exact Nat.succ_le_succ hfl⟩
              rcases List.mem_append.mp hS' with h | h
              · exact hall S' h
              · rw [List.mem_singleton.mp h]
                refine ⟨sub_set ok.up (hsub S (mem_at hq)), fun q hq => ?_⟩
                have he := List.length_eq_zero_iff.mp hz
                by_cases h1 : q.1 ∈ S
                · exact .inl h1
                · refine .inr (Classical.byContradiction fun h2 => ?_)
                  have : q ∈ (((ts.filter fun t => !decide (t.1 ∈ S))).filter fun t => !decide (t.2 ∈ S)) := List.mem_filter.mpr ⟨List.mem_filter.mpr ⟨hq, by simpa using h1⟩, by simpa using h2⟩
                  rw [he] at this
                  cases this
            · rw [decide_eq_false hz]
              refine iteF ⟨_, _, vs, found, rfl, sm.trans s47, s47 _ _ hp4, hpp7, s47 _ _ hl4, hvf7, hall, by omega⟩
      · rintro σ H4 ⟨y2, y3, vs, found, rfl, sm, hp4, hpp, hl4, hvf, hall, hfl⟩
        exact ⟨_, rfl, k l found H4 sm ⟨vs, hl4, setN_set hvf⟩ hall⟩
end
end TA
namespace TA
theorem pw_perm {α : Type} {R : α → α → Prop} (hs : ∀ x y, R x y → R y x) : ∀ {l l' : List α}, l.Perm l' → l.Pairwise R → l'.Pairwise R := by
  intro l l' h
  induction h with
  | nil => exact id
  | cons x p ih =>
    intro hp
    obtain ⟨h1, h2⟩ := List.pairwise_cons.mp hp
    exact List.pairwise_cons.mpr ⟨fun y hy => h1 y (p.mem_iff.mpr hy), ih h2⟩
  | swap x y l =>
    intro hp
    obtain ⟨h1, h2⟩ := List.pairwise_cons.mp hp
    obtain ⟨h3, h4⟩ := List.pairwise_cons.mp h2
    refine List.pairwise_cons.mpr ⟨fun z hz => ?_, List.pairwise_cons.mpr ⟨fun z hz => h1 z (List.mem_cons_of_mem _ hz), h4⟩⟩
    rcases List.mem_cons.mp hz with rfl | hz
    · exact hs _ _ (h1 _ List.mem_cons_self)
    · exact h3 z hz
  | trans _ _ ih1 ih2 => exact fun hp => ih2 (ih1 hp)
theorem pw_both {α : Type} {R S T : α → α → Prop} (h : ∀ x y, R x y → S x y → T x y) {l : List α} (hr : l.Pairwise R) (hs : l.Pairwise S) : l.Pairwise T := by
  induction l with
  | nil => exact List.Pairwise.nil
  | cons x l ih =>
    obtain ⟨a1, a2⟩ := List.pairwise_cons.mp hr
    obtain ⟨b1, b2⟩ := List.pairwise_cons.mp hs
    exact List.pairwise_cons.mpr ⟨fun y hy => h x y (a1 y hy) (b1 y hy), ih a2 b2⟩
/-- found by the law: all tied, then sorted -/
theorem clique_sorted {ts : List Pr} {l l' : List Int} (h : l.Pairwise fun x y => x ≠ y ∧ Tied ts x y) (hp : l'.Perm l) (hs : l'.Pairwise (· ≤ ·)) : l'.Pairwise fun x y => x < y ∧ Tied ts x y :=
  pw_both (R := fun x y => x ≠ y ∧ Tied ts x y) (S := fun x y : Int => x ≤ y) (fun x y a b => ⟨by have := a.1; omega, a.2⟩) (pw_perm (fun x y a => ⟨a.1.symm, a.2.symm⟩) hp.symm h) hs
def Chain (ts : List Pr) (l : List Int) : Prop := ∀ (i : Nat) (x y : Int), l[i]? = some x → l[i + 1]? = some y → Tied ts x y
theorem chain_one (ts : List Pr) (x : Int) : Chain ts [x] := fun i a b _ h => by simp at h
theorem chain_snoc {ts : List Pr} {l : List Int} {z g : Int} (h : Chain ts (l ++ [z])) (t : Tied ts z g) : Chain ts (l ++ [z] ++ [g]) := by
  intro i x y hx hy
  have hl := (List.getElem?_eq_some_iff.mp hy).1
  rw [List.length_append, List.length_append] at hl
  have hl : i + 1 < l.length + 1 + 1 := hl
  by_cases e : i = l.length
  · subst e
    rw [List.getElem?_append_left (by rw [List.length_append]; exact Nat.lt_succ_self _), List.getElem?_append_right (Nat.le_refl _), Nat.sub_self] at hx
    rw [List.getElem?_append_right (by rw [List.length_append]; exact Nat.le_refl _), List.length_append] at hy
    have e2 : l.length + 1 - (l.length + [z].length) = 0 := by show l.length + 1 - (l.length + 1) = 0; omega
    rw [e2] at hy
    have e3 : z = x := Option.some.inj hx
    have e4 : g = y := Option.some.inj hy
    rw [← e3, ← e4]
    exact t
  · rw [List.getElem?_append_left (by rw [List.length_append]; show i < l.length + 1; omega)] at hx
    rw [List.getElem?_append_left (by rw [List.length_append]; show i + 1 < l.length + 1; omega)] at hy
    exact h i x y hx hy
theorem ring_of {ts : List Pr} {l : List Int} {g f : Int} (hn : (l ++ [g]).Nodup) (hc : Chain ts (l ++ [g])) (hl : 1 ≤ l.length) (ho : (l ++ [g]).length % 2 = 1) (hf : (l ++ [g])[0]? = some f) (ht : Tied ts g f) : RingOk ts (l ++ [g]) := by
  have e : (l ++ [g]).length = l.length + 1 := List.length_append
  refine ⟨by omega, ho, hn, hc, fun x y hx hy => ?_⟩
  rw [hf] at hx
  have e1 : f = x := Option.some.inj hx
  rw [e, Nat.add_sub_cancel, List.getElem?_append_right (Nat.le_refl _), Nat.sub_self] at hy
  have e2 : g = y := Option.some.inj hy
  rw [← e1, ← e2]
  exact ht.symm
end TA
namespace TA
open PySem PySem.Spec PyProof.Rows L2
theorem ints_dp {K : PySem.W.Frag} {H : Hp} : ∀ ns : List Int, DpAll K H (ns.map V.int) (ns.map PyData.int)
  | [] => .nil
  | n :: ns => .cons (.int n) (ints_dp ns)
theorem ints_small (ns : List Int) : ∀ d ∈ ns.map PyData.int, d.canLay0 = true ∧ d.depth ≤ 60 := fun d hd => by
  obtain ⟨t, _, rfl⟩ := List.mem_map.mp hd
  exact ⟨by simp [PyData.canLay0], by simp [PyData.depth]⟩
theorem fr_ints {D : Addr → Prop} {H H' : Hp} {l : Addr} {ns : List Int} (f : Fr D H H') (hd : ¬ D l) (e : H l = some (.lst (ns.map V.int))) : H' l = some (.lst (ns.map V.int)) := f _ _ hd nst_ints e
theorem tied_ne {ps ts : List Pr} (ok : WebOk ps ts) {x y : Int} (h : Tied ts x y) : x ≠ y := by
  rcases h with h | h
  · have := (ok.ti _ h).1
    show x ≠ y
    have h2 : x < y := this
    omega
  · have := (ok.ti _ h).1
    have h2 : y < x := this
    omega
theorem tied_keys {ps ts : List Pr} (ok : WebOk ps ts) {x y : Int} (h : Tied ts x y) : y ∈ keys ps := by
  rcases h with h | h
  · exact (ok.ti _ h).2.2
  · exact (ok.ti _ h).2.1
section
variable {P : Program} {w : World} {K : PySem.W.Frag} {mg : Str → Option Value} {base : Heap}
/- _law_all: slots 0:_law_state 1:_law_book* 2:_law_places_here 3:_law_found 4:_law_turn 5:_law_some 6:_law_place* 7:_law_other; calls _law_take -/
abbrev sl_all : Stmt := topS 41
abbrev nl_all : List Str := ["_law_state", "_law_book", "_law_places_here", "_law_found", "_law_turn", "_law_some", "_law_place", "_law_other"]
theorem scl_all : FnScope nl_all ["_law_state", "_law_book", "_law_places_here"] (defScope sl_all) := ⟨rfl, rfl, rfl, by decide +kernel, rfl, by decide +kernel, by decide +kernel⟩
def spl_all : Sp := fun vs H Q _ => ∃ (a d b : Addr) (ps ts : List Pr), vs = [.ref a, .ref d, .ref b] ∧ StAt H a ∧ BookAt H d ps ts ∧ IntsAt H b (keys ps) ∧ WebOk ps ts ∧ 0 < ps.length ∧
  ∀ p l H', Fr0 H H' → StAt H' a → Nw H p → IntsAt H' p l → l.length ≤ 9 → (∀ x ∈ l, x ∈ keys ps) → (l.Pairwise fun x y => x < y ∧ Tied ts x y) → Q (.ref p) H'
theorem okl_all (G : Glb mg) (S : Std K mg "_law_all" sl_all ["_law_state", "_law_book", "_law_places_here"]) (Cl_take : Cal P w K mg base CX0 1 "_law_take" ["_law_state", "_law_many"] spl_take) : ∀ f fd, Fun K "_law_all" "_law_all" sl_all f fd → FnOk P w K mg base CX0 2 f fd ["_law_state", "_law_book", "_law_places_here"] spl_all := fun f fd F => by
  refine F.ok scl_all (fun vs H Q E h => ?_) (fun cdv A outer s H vs Q E hr h => ?_)
  · obtain ⟨a, d, b, ps, ts, rfl, _⟩ := h
    rfl
  · obtain ⟨a, d, b, ps, ts, rfl, hst, hB, hb, ok, hne, k⟩ := h
    have hb : H b = some (.lst ((keys ps).map V.int)) := hb
    have hl7 := ok.len
    have hkl : (keys ps).length = ps.length := by rw [keys, List.length_map]
    refine ⟨_, (pss_cons (ps_set (i := 3) scl_all.nd rfl (Or.inl rfl) (pe_lst (pa_cons (pe_ix ix_list (pv 2) (pe_cal Cl_take (hr.mono (by decide)) (by rfl) pass0 (pa_cons (pv 0) (pa_cons (pe_callB call_len_seq (by rfl) G.len (by decide +kernel) (pa_cons (pv 2) pa_nil)) pa_nil))) (fun _ _ => rfl)) pa_nil)))
      (pss_cons (ps_for PassesOwn.never rfl (pi_range1 (by rfl) G.range (pa_cons (pe_op op_add pe_int (pe_cal Cl_take (hr.mono (by decide)) (by rfl) pass0 (pa_cons (pv 0) (pa_cons pe_int pa_nil)))) pa_nil)) (pg_name (i := 4) scl_all.nd rfl (Or.inl rfl)) (pss_cons (ps_set (i := 5) scl_all.nd rfl (Or.inl rfl) (pe_lst pa_nil))
      (pss_cons (ps_for PassesOwn.never rfl (pi_list (pv 2)) (pg_name (i := 6) scl_all.nd rfl (Or.inr rfl)) (pss_one (ps_if (pt_cmpR (op_eqD hr.units) (pe_lc (own := [("_law_other", 7)]) rfl scl_all.nd (pi_list (pv 3)) (blkOk_by (own := [("_law_other", 7)]) (N := nl_all) (sc := defScope sl_all) (by decide +kernel)) (fun _ _ _ _ _ => (pg_name (i := 7) scl_all.nd rfl (Or.inl rfl))) (fun _ _ _ _ _ => (pts_one (pt_cmpR (op_notIn_seqK (K := K) rfl) (pv 7) (pe_dget (hu_of hr) (pv 1) (pv 6) (fun _ _ => rfl)) (by rfl)))) (fun _ _ _ _ _ => (pv 7))) (pe_lst pa_nil) (nomark _)) (pss_one (ps_expr (pe_bm PySem.F.plainAttrs_list PySem.F.slot_list_append PySem.F.type_list_append mt_append (pv 5) (pa_cons (pv 6) pa_nil)))) pss_nil)))
      (pss_one (ps_if (pt_cmpR (op_neD hr.units) (pv 5) (pe_lst pa_nil) (nomark _)) (pss_one (ps_expr (pe_bm PySem.F.plainAttrs_list PySem.F.slot_list_append PySem.F.type_list_append mt_append (pv 3) (pa_cons (pe_ix ix_list (pv 5) (pe_cal Cl_take (hr.mono (by decide)) (by rfl) pass0 (pa_cons (pv 0) (pa_cons (pe_callB call_len_seq (by rfl) G.len (by decide +kernel) (pa_cons (pv 5) pa_nil)) pa_nil))) (fun _ _ => rfl)) pa_nil)))) pss_nil)))))
      (pss_one (ps_ret (pe_callB cr_sortedI (by rfl) G.sorted (by decide +kernel) (pa_cons (pv 3) pa_nil)))))), ?_⟩
    refine ⟨_, rfl, _, rfl, _, rfl, b, _, rfl, .inl (SqL.of hb), a, _, rfl, hst, by rw [List.length_map]; omega, by rw [List.length_map]; omega, fun v H1 v0 v1 f1 st1 => ?_⟩
    rw [List.length_map] at v1
    obtain ⟨g, hg, hgm⟩ := at_menu (keys ps) v0 v1
    refine ⟨b, _, v, .int g, rfl, rfl, SqL.of (fr_ints f1 (fun z => z) hb), hg, small_sz (by show 1 ≤ 1000000; decide), fun fo nfo => ?_⟩
    have nwf : Nw H fo := Nw.of f1 nfo
    have f1' : Fr0 H (upd H1 fo (.lst [.int g])) := f1.mutN nwf
    refine ⟨_, rfl, a, 4, rfl, st1.new nfo, by decide, by decide, fun tn H2 t0 t1 f2 st2 => ?_⟩
    have hfo2 : H2 fo = some (.lst (([g] : List Int).map V.int)) := fr_ints (ns := [g]) f2 (fun z => z) upd_same
    refine ⟨_, _, rfl, rfl, 1 + tn, rfl, by omega, by omega, for_range (lo := 0) (n := (1 + tn).toNat) (fun i σ H' => ∃ (y4 y5 y6 : Option V) (l : List Int), σ = [some (.ref a), some (.ref d), some (.ref b), some (.ref fo), y4, y5, y6, none] ∧ Fr0 H H' ∧ StAt H' a ∧ H' fo = some (.lst (l.map V.int)) ∧
        l.length ≤ i + 1 ∧ (∀ x ∈ l, x ∈ keys ps) ∧ l.Pairwise fun x y => x ≠ y ∧ Tied ts x y)
      ⟨none, none, none, [g], rfl, f1'.trans f2, st2, hfo2, Nat.le_refl _, (fun x hx => by rw [List.mem_singleton.mp hx]; exact hgm), List.pairwise_singleton _ _⟩ ?_ ?_⟩
    · rintro i σ H3 hi ⟨y4, y5, y6, l, rfl, f3, st3, hfo, hll, hlk, hlp⟩
      refine ⟨small_sz (by decide), fun m nm => ?_⟩
      have s4 : Same H3 (upd H3 m (.lst [])) := same_new nm
      have nwm : Nw H m := Nw.of f3 nm
      refine ⟨_, rfl, b, rfl, ⟨_, SqL.of (s4 _ _ (fr_ints f3 (fun z => z) hb))⟩, for_list (K := K) (a := b) (xs := (keys ps).map V.int) (fun j σ H' => ∃ (y6 : Option V) (l2 : List Int), σ = [some (.ref a), some (.ref d), some (.ref b), some (.ref fo), some (.int (0 + (i : Int))), some (.ref m), y6, none] ∧ Same H3 H' ∧ H' m = some (.lst (l2.map V.int)) ∧
          l2.length ≤ j ∧ ∀ x ∈ l2, x ∈ keys ps ∧ ∀ y ∈ l, Tied ts x y)
        ⟨y6, [], rfl, s4, upd_same, Nat.le_refl _, fun _ h => nomatch h⟩ (fun j σ H' _ ⟨_, _, _, s5, _⟩ => s5.seq (SqL.of (fr_ints f3 (fun z => z) hb))) ?_ ?_⟩
      · rintro j x σ H5 hx ⟨y6, l2, rfl, s5, hm, hl2, hl2k⟩
        rw [List.getElem?_map] at hx
        obtain ⟨z, hz, rfl⟩ := Option.map_eq_some_iff.mp hx
        have hzk := mem_at hz
        have hj := lt_at hz
        have hfo5 := s5 _ _ hfo
        obtain ⟨kvs, hd, hb1, _⟩ := (hB.fr f3).same s5
        obtain ⟨L, ns, hv, hL, _, hns⟩ := hb1 z hzk
        refine ⟨_, rfl, fo, rfl, ⟨_, SqL.of hfo5⟩, fun D nD => ?_⟩
        refine lc_list (K := K) (a := fo) (xs := l.map V.int) (fun j H' => Same H5 H' ∧ H' D = some (.lst (((l.take j).filter fun y => !decide (y ∈ ns)).map V.int))) ⟨same_new nD, upd_same⟩ (fun j H' _ q => q.1.seq (SqL.of hfo5)) ?_ ?_
        · rintro j x H6 hx ⟨s6, hD⟩
          rw [List.getElem?_map] at hx
          obtain ⟨y, hy, rfl⟩ := Option.map_eq_some_iff.mp hx
          have hfl2 : ((l.take j).filter fun y => !decide (y ∈ ns)).length ≤ 5 := Nat.le_trans (List.length_filter_le _ _) (by rw [List.length_take]; omega)
          refine ⟨rfl, _, rfl, _, rfl, _, rfl, d, _, rfl, dget_of (s6 _ _ hd) hv, L, _, rfl, .inl (SqL.of (s6 _ _ hL)), rfl, flat_ints, _, rfl, ?_⟩
          show (if (!inV (.int y) (ns.map V.int)) = true then _ else _)
          rw [inV_int, take_at hy, List.filter_append]
          by_cases hmm : y ∈ ns
          · rw [decide_eq_true hmm]
            refine iteF ⟨s6, ?_⟩
            rw [hD, List.filter_cons, if_neg (by simpa using hmm), List.filter_nil, List.append_nil]
          · rw [decide_eq_false hmm]
            refine iteT ⟨_, rfl, _, hD, small_lt (by rw [List.length_map]; omega), s6.mut nD, ?_⟩
            rw [upd_same, List.filter_cons, if_pos (by simpa using hmm), List.map_append]
            rfl
        · rintro H6 ⟨s6, hD⟩
          rw [take_map_all] at hD
          refine ⟨small_sz (by decide), fun n nn => ?_⟩
          have s7 : Same H6 (upd H6 n (.lst [])) := same_new nn
          have s57 := s6.trans s7
          refine ⟨.list _, .list [], .lst (SqL.of (s7 _ _ hD)) (ints_dp _), .lst (SqL.of upd_same) .nil, shaped_list (ints_small _), shaped_list (fun _ z => nomatch z), _, rfl, ?_⟩
          rw [eqv_nil, List.length_map]
          by_cases hc : (l.filter fun y => !decide (y ∈ ns)).length = 0
          · rw [decide_eq_true hc]
            refine iteT ⟨_, rfl, .inl ⟨rfl, _, SqL.of (s57 _ _ hm)⟩, _, rfl, m, _, _, rfl, rfl, s57 _ _ hm, small_lt (by rw [List.length_map]; omega), ?_⟩
            refine ⟨_, l2 ++ [z], rfl, (s5.trans s57).mut nm, by rw [upd_same, List.map_append]; rfl, by rw [List.length_append]; exact Nat.succ_le_succ hl2, fun x hx => ?_⟩
            rcases List.mem_append.mp hx with h | h
            · exact hl2k x h
            · rw [List.mem_singleton.mp h]
              refine ⟨hzk, fun y hy => (hns y).mp (Classical.byContradiction fun h2 => ?_)⟩
              have he := List.length_eq_zero_iff.mp hc
              have : y ∈ l.filter fun y => !decide (y ∈ ns) := List.mem_filter.mpr ⟨hy, by simpa using h2⟩
              rw [he] at this
              cases this
          · rw [decide_eq_false hc]
            exact iteF ⟨_, l2, rfl, s5.trans s57, s57 _ _ hm, by omega, hl2k⟩
      · rintro σ H5 ⟨y6, l2, rfl, s5, hm, hl2, hl2k⟩
        rw [List.length_map] at hl2
        have hfo5 := s5 _ _ hfo
        refine ⟨_, rfl, small_sz (by decide), fun n nn => ?_⟩
        have s7 : Same H5 (upd H5 n (.lst [])) := same_new nn
        refine ⟨.list _, .list [], .lst (SqL.of (s7 _ _ hm)) (ints_dp _), .lst (SqL.of upd_same) .nil, shaped_list (ints_small _), shaped_list (fun _ z => nomatch z), _, rfl, ?_⟩
        rw [eqv_nil, List.length_map]
        have f7 : Fr0 H (upd H5 n (.lst [])) := f3.trans (Same.fr (s5.trans s7))
        have st7 : StAt (upd H5 n (.lst [])) a := (s5.trans s7).st st3
        by_cases hc : l2.length = 0
        · rw [decide_eq_true hc]
          exact iteF ⟨_, _, _, l, rfl, f7, st7, s7 _ _ hfo5, by omega, hlk, hlp⟩
        · rw [decide_eq_false hc]
          refine iteT ⟨_, rfl, .inl ⟨rfl, _, SqL.of (s7 _ _ hfo5)⟩, _, rfl, _, rfl, _, rfl, m, _, rfl, .inl (SqL.of (s7 _ _ hm)), a, _, rfl, st7, by rw [List.length_map]; omega, by rw [List.length_map]; omega, fun u H8 u0 u1 f8 st8 => ?_⟩
          rw [List.length_map] at u1
          obtain ⟨g2, hg2, hgm2⟩ := at_menu l2 u0 u1
          obtain ⟨gk, gt⟩ := hl2k g2 hgm2
          have hfo8 := fr_ints f8 (fun z => z) (s7 _ _ hfo5)
          refine ⟨m, _, u, .int g2, rfl, rfl, SqL.of (fr_ints f8 (fun z => z) (s7 _ _ hm)), hg2, fo, _, _, rfl, rfl, hfo8, small_lt (by rw [List.length_map]; omega), ?_⟩
          refine ⟨_, _, _, l ++ [g2], rfl, (f7.trans f8).mutN nwf, st8.set hfo8 nst_ints, by rw [upd_same, List.map_append]; rfl, by rw [List.length_append]; exact Nat.succ_le_succ hll, fun x hx => ?_, pw_snoc hlp fun y hy => ⟨(tied_ne ok (gt y hy)).symm, (gt y hy).symm⟩⟩
          rcases List.mem_append.mp hx with h | h
          · exact hlk x h
          · rw [List.mem_singleton.mp h]
            exact gk
    · rintro σ H3 ⟨y4, y5, y6, l, rfl, f3, st3, hfo, hll, hlk, hlp⟩
      refine ⟨_, rfl, fo, l, rfl, SqL.of hfo, fun l' p hperm hpw np => ?_⟩
      exact k p l' _ (f3.new np) (st3.new np) (Nw.of f3 np) upd_same (by rw [hperm.length_eq]; omega) (fun x hx => hlk x (hperm.mem_iff.mp hx)) (clique_sorted hlp hperm hpw)
end
end TA
namespace TA
open PySem PySem.Spec PyProof.Rows L2
theorem at_end (init : List Int) (z : Int) : atI ((init ++ [z]).map V.int) (-1) = some (.int z) := by
  rw [List.map_append]
  exact atI_last _ _
section
variable {P : Program} {w : World} {K : PySem.W.Frag} {mg : Str → Option Value} {base : Heap}
/- _law_ring: slots 0:_law_state 1:_law_book 2:_law_places_here 3:_law_found* 4:_law_turn 5:_law_some 6:_law_place; calls _law_take -/
abbrev sl_ring : Stmt := topS 42
abbrev nl_ring : List Str := ["_law_state", "_law_book", "_law_places_here", "_law_found", "_law_turn", "_law_some", "_law_place"]
theorem scl_ring : FnScope nl_ring ["_law_state", "_law_book", "_law_places_here"] (defScope sl_ring) := ⟨rfl, rfl, rfl, by decide +kernel, rfl, by decide +kernel, by decide +kernel⟩
def spl_ring : Sp := fun vs H Q _ => ∃ (a d b : Addr) (ps ts : List Pr), vs = [.ref a, .ref d, .ref b] ∧ StAt H a ∧ BookAt H d ps ts ∧ IntsAt H b (keys ps) ∧ WebOk ps ts ∧ 0 < ps.length ∧
  ∀ p l H', Fr0 H H' → StAt H' a → Nw H p → IntsAt H' p l → l.length ≤ 9 → (∀ x ∈ l, x ∈ keys ps) → (l = [] ∨ RingOk ts l) → Q (.ref p) H'
theorem okl_ring (G : Glb mg) (S : Std K mg "_law_ring" sl_ring ["_law_state", "_law_book", "_law_places_here"]) (Cl_take : Cal P w K mg base CX0 1 "_law_take" ["_law_state", "_law_many"] spl_take) : ∀ f fd, Fun K "_law_ring" "_law_ring" sl_ring f fd → FnOk P w K mg base CX0 2 f fd ["_law_state", "_law_book", "_law_places_here"] spl_ring := fun f fd F => by
  refine F.ok scl_ring (fun vs H Q E h => ?_) (fun cdv A outer s H vs Q E hr h => ?_)
  · obtain ⟨a, d, b, ps, ts, rfl, _⟩ := h
    rfl
  · obtain ⟨a, d, b, ps, ts, rfl, hst, hB, hb, ok, hne, k⟩ := h
    have hb : H b = some (.lst ((keys ps).map V.int)) := hb
    have hl7 := ok.len
    have hkl : (keys ps).length = ps.length := by rw [keys, List.length_map]
    refine ⟨_, (pss_cons (ps_set (i := 3) scl_ring.nd rfl (Or.inr rfl) (pe_lst (pa_cons (pe_ix ix_list (pv 2) (pe_cal Cl_take (hr.mono (by decide)) (by rfl) pass0 (pa_cons (pv 0) (pa_cons (pe_callB call_len_seq (by rfl) G.len (by decide +kernel) (pa_cons (pv 2) pa_nil)) pa_nil))) (fun _ _ => rfl)) pa_nil)))
      (pss_cons (ps_for PassesOwn.never rfl (pi_range1 (by rfl) G.range (pa_cons pe_int pa_nil)) (pg_name (i := 4) scl_ring.nd rfl (Or.inl rfl)) (pss_cons (ps_setLc (i := 5) (py := _) (own := [("_law_place", 6)]) rfl scl_ring.nd rfl rfl (sw_true rfl rfl rfl (by decide +kernel)) (pi_list (pe_dget (hu_of hr) (pv 1) (pe_ix ix_list (pv 3) (pe_un un_neg pe_int) (fun _ _ => rfl)) (fun _ _ => rfl))) (blkOk_by (own := [("_law_place", 6)]) (N := nl_ring) (sc := defScope sl_ring) (by decide +kernel)) (fun _ _ _ _ _ => (pg_name (i := 6) scl_ring.nd rfl (Or.inl rfl))) (fun _ _ _ _ _ => (pts_one (pt_cmpR (op_notIn_seqK (K := K) rfl) (pv 6) (pv 3) (by rfl)))) (fun _ _ _ _ _ => (pv 6)))
      (pss_cons (ps_if (pt_cmpR (op_eqD hr.units) (pv 5) (pe_lst pa_nil) (nomark _)) (pss_one (ps_ret (pe_lst pa_nil))) pss_nil)
      (pss_cons (ps_expr (pe_bm PySem.F.plainAttrs_list PySem.F.slot_list_append PySem.F.type_list_append mt_append (pv 3) (pa_cons (pe_ix ix_list (pv 5) (pe_cal Cl_take (hr.mono (by decide)) (by rfl) pass0 (pa_cons (pv 0) (pa_cons (pe_callB call_len_seq (by rfl) G.len (by decide +kernel) (pa_cons (pv 5) pa_nil)) pa_nil))) (fun _ _ => rfl)) pa_nil)))
      (pss_one (ps_if (PW.pt (pw_and (pt_cmpR op_eq (pe_op op_mod (pe_callB call_len_seq (by rfl) G.len (by decide +kernel) (pa_cons (pv 3) pa_nil)) pe_int) pe_int (nomark _)) (pw_and (pt_cmpR op_in_seq (pe_ix ix_list (pv 3) pe_int (fun _ _ => rfl)) (pe_dget (hu_of hr) (pv 1) (pe_ix ix_list (pv 3) (pe_un un_neg pe_int) (fun _ _ => rfl)) (fun _ _ => rfl)) (by rfl)) (pw_and1 (pt_cmpR op_gt (pe_cal Cl_take (hr.mono (by decide)) (by rfl) pass0 (pa_cons (pv 0) (pa_cons pe_int pa_nil))) pe_int (nomark _)))))) (pss_one (ps_ret (pv 3))) pss_nil))))))
      (pss_one (ps_ret (pe_lst pa_nil))))), ?_⟩
    refine ⟨_, rfl, _, rfl, _, rfl, b, _, rfl, .inl (SqL.of hb), a, _, rfl, hst, by rw [List.length_map]; omega, by rw [List.length_map]; omega, fun v H1 v0 v1 f1 st1 => ?_⟩
    rw [List.length_map] at v1
    obtain ⟨g, hg, hgm⟩ := at_menu (keys ps) v0 v1
    refine ⟨b, _, v, .int g, rfl, rfl, SqL.of (fr_ints f1 (fun z => z) hb), hg, small_sz (by show 1 ≤ 1000000; decide), fun fo nfo => ?_⟩
    have nwf : Nw H fo := Nw.of f1 nfo
    have f1' : Fr0 H (upd H1 fo (.lst [.int g])) := f1.mutN nwf
    refine ⟨8, rfl, by decide, by decide, for_range (lo := 0) (n := (8 : Int).toNat) (fun i σ H' => ∃ (y4 y5 : Option V) (init : List Int) (z : Int), σ = [some (.ref a), some (.ref d), some (.ref b), some (.ref fo), y4, y5, none] ∧ Fr0 H H' ∧ StAt H' a ∧ H' fo = some (.lst ((init ++ [z]).map V.int)) ∧
        init.length = i ∧ (∀ x ∈ init ++ [z], x ∈ keys ps) ∧ (init ++ [z]).Nodup ∧ Chain ts (init ++ [z]))
      ⟨none, none, [], g, rfl, f1', st1.new nfo, upd_same, rfl, (fun x hx => by rw [List.mem_singleton.mp hx]; exact hgm), List.pairwise_singleton _ _, chain_one ts g⟩ ?_ ?_⟩
    · rintro i σ H3 hi ⟨y4, y5, init, z, rfl, f3, st3, hfo, hil, hlk, hnd, hch⟩
      have hi8 : i < 8 := by omega
      have hll : (init ++ [z]).length = i + 1 := by rw [List.length_append, hil]; rfl
      have hzk := hlk z (List.mem_append_right _ (List.mem_singleton.mpr rfl))
      have hB3 := hB.fr f3
      obtain ⟨kvs, hd, hb1, _⟩ := id hB3
      obtain ⟨L, ns, hv, hL, hnl, hns⟩ := hb1 z hzk
      refine ⟨_, rfl, _, rfl, 1, rfl, fo, _, _, .int z, rfl, rfl, SqL.of hfo, at_end init z, d, _, rfl, dget_of hd hv, L, rfl, ⟨_, SqL.of hL⟩, fun D nD => ?_⟩
      refine lc_list (K := K) (a := L) (xs := ns.map V.int) (fun j H' => Same H3 H' ∧ H' D = some (.lst (((ns.take j).filter fun y => !decide (y ∈ init ++ [z])).map V.int))) ⟨same_new nD, upd_same⟩ (fun j H' _ q => q.1.seq (SqL.of hL)) ?_ ?_
      · rintro j x H5 hx ⟨s5, hD⟩
        rw [List.getElem?_map] at hx
        obtain ⟨y, hy, rfl⟩ := Option.map_eq_some_iff.mp hx
        have hfl2 : ((ns.take j).filter fun y => !decide (y ∈ init ++ [z])).length ≤ 1000 := Nat.le_trans (List.length_filter_le _ _) (by rw [List.length_take]; omega)
        refine ⟨rfl, _, rfl, _, rfl, fo, _, rfl, .inl (SqL.of (s5 _ _ hfo)), rfl, flat_ints, _, rfl, ?_⟩
        show (if (!inV (.int y) ((init ++ [z]).map V.int)) = true then _ else _)
        rw [inV_int, take_at hy, List.filter_append]
        by_cases hmm : y ∈ init ++ [z]
        · rw [decide_eq_true hmm]
          refine iteF ⟨s5, ?_⟩
          rw [hD, List.filter_cons, if_neg (by rw [decide_eq_true hmm]; decide), List.filter_nil, List.append_nil]
        · rw [decide_eq_false hmm]
          refine iteT ⟨_, rfl, _, hD, small_lt (by rw [List.length_map]; omega), s5.mut nD, ?_⟩
          rw [upd_same, List.filter_cons, if_pos (by rw [decide_eq_false hmm]; decide), List.map_append]
          rfl
      · rintro H5 ⟨s5, hD⟩
        rw [take_map_all] at hD
        refine ⟨_, rfl, small_sz (by decide), fun n nn => ?_⟩
        have s6 : Same H5 (upd H5 n (.lst [])) := same_new nn
        have s36 := s5.trans s6
        have hD6 := s6 _ _ hD
        refine ⟨.list _, .list [], .lst (SqL.of hD6) (ints_dp _), .lst (SqL.of upd_same) .nil, shaped_list (ints_small _), shaped_list (fun _ z => nomatch z), _, rfl, ?_⟩
        rw [eqv_nil, List.length_map]
        have f6 : Fr0 H (upd H5 n (.lst [])) := f3.trans (Same.fr s36)
        have st6 : StAt (upd H5 n (.lst [])) a := s36.st st3
        by_cases hc : (ns.filter fun y => !decide (y ∈ init ++ [z])).length = 0
        · rw [decide_eq_true hc]
          refine iteT ⟨small_sz (by decide), fun p np => ?_⟩
          exact k p [] _ (f6.new np) (st6.new np) (Nw.of f6 np) upd_same (by decide) (fun _ h => nomatch h) (.inl rfl)
        · rw [decide_eq_false hc]
          have hfo6 := s36 _ _ hfo
          refine iteF ?_
          have hfl3 : (ns.filter fun y => !decide (y ∈ init ++ [z])).length ≤ 1000 := Nat.le_trans (List.length_filter_le _ _) hnl
          refine ⟨_, rfl, .inl ⟨rfl, _, SqL.of hfo6⟩, _, rfl, _, rfl, _, rfl, D, _, rfl, .inl (SqL.of hD6), a, _, rfl, st6, by rw [List.length_map]; omega, by rw [List.length_map]; omega, fun u H7 u0 u1 f7 st7 => ?_⟩
          rw [List.length_map] at u1
          obtain ⟨g2, hg2, hgm2⟩ := at_menu _ u0 u1
          obtain ⟨gn, gl⟩ := List.mem_filter.mp hgm2
          have gl : ¬ g2 ∈ init ++ [z] := by simpa using gl
          have gt : Tied ts z g2 := (hns g2).mp gn
          have hfo7 := fr_ints f7 (fun z => z) hfo6
          refine ⟨D, _, u, .int g2, rfl, rfl, SqL.of (fr_ints f7 (fun z => z) hD6), hg2, fo, _, _, rfl, rfl, hfo7, small_lt (by rw [List.length_map]; omega), ?_⟩
          have f8 : Fr0 H (upd H7 fo (.lst ((init ++ [z]).map V.int ++ [.int g2]))) := (f6.trans f7).mutN nwf
          have st8 : StAt (upd H7 fo (.lst ((init ++ [z]).map V.int ++ [.int g2]))) a := st7.set hfo7 nst_ints
          have hfo8 : (upd H7 fo (.lst ((init ++ [z]).map V.int ++ [.int g2]))) fo = some (.lst ((init ++ [z] ++ [g2]).map V.int)) := by rw [upd_same, List.map_append (l₁ := init ++ [z])]; rfl
          generalize upd H7 fo (.lst ((init ++ [z]).map V.int ++ [.int g2])) = H8 at f8 st8 hfo8
          have hnd2 : (init ++ [z] ++ [g2]).Nodup := pw_snoc (R := (· ≠ ·)) hnd fun y hy e => gl (e ▸ hy)
          have hch2 := chain_snoc hch gt
          have hlk2 : ∀ x ∈ init ++ [z] ++ [g2], x ∈ keys ps := fun x hx => by
            rcases List.mem_append.mp hx with h | h
            · exact hlk x h
            · rw [List.mem_singleton.mp h]
              exact tied_keys ok gt
          have hl2 : (init ++ [z] ++ [g2]).length = i + 2 := by rw [List.length_append, hll]; rfl
          have go : ∀ H9 (y4 y5 : Option V), Fr0 H H9 → StAt H9 a → H9 fo = some (.lst ((init ++ [z] ++ [g2]).map V.int)) → ∃ (y4' y5' : Option V) (init' : List Int) (z' : Int), [some (.ref a), some (.ref d), some (.ref b), some (.ref fo), y4, y5, none] = [some (V.ref a), some (.ref d), some (.ref b), some (.ref fo), y4', y5', none] ∧ Fr0 H H9 ∧ StAt H9 a ∧ H9 fo = some (.lst ((init' ++ [z']).map V.int)) ∧
              init'.length = i + 1 ∧ (∀ x ∈ init' ++ [z'], x ∈ keys ps) ∧ (init' ++ [z']).Nodup ∧ Chain ts (init' ++ [z']) := fun H9 y4 y5 f9 st9 hf9 => ⟨y4, y5, init ++ [z], g2, rfl, f9, st9, hf9, hll, hlk2, hnd2, hch2⟩
          refine ⟨_, rfl, fo, _, rfl, .inl (SqL.of hfo8), _, _, rfl, rfl, (show (0 : Int) < 2 by decide), rfl, _, rfl, ite2 (fun e => ?_) fun e => iteF (go _ _ _ f8 st8 hfo8)⟩
          have e : ((((init ++ [z] ++ [g2]).map V.int).length : Nat) : Int) % 2 = 1 := V.int.inj (of_decide_eq_true e)
          rw [List.length_map] at e
          obtain ⟨kvs8, hd8, hb8, _⟩ := hB.fr f8
          obtain ⟨L8, ns8, hv8, hL8, _, hns8⟩ := hb8 g2 (tied_keys ok gt)
          obtain ⟨x0, hx0⟩ : ∃ x0, (init ++ [z] ++ [g2])[0]? = some x0 := ⟨_, List.getElem?_eq_getElem (by omega)⟩
          refine ⟨_, rfl, fo, _, 0, .int x0, rfl, rfl, SqL.of hfo8, atI_nat (j := 0) (by rw [List.getElem?_map, hx0]; rfl), _, rfl, _, rfl, 1, rfl, fo, _, _, .int g2, rfl, rfl, SqL.of hfo8, at_end (init ++ [z]) g2, d, _, rfl, dget_of hd8 hv8, L8, _, rfl, .inl (SqL.of hL8), rfl, flat_ints, _, rfl, ?_⟩
          show (if (inV (.int x0) (ns8.map V.int)) = true then _ else _)
          rw [inV_int]
          by_cases hm : x0 ∈ ns8
          · rw [decide_eq_true hm]
            refine iteT ?_
            refine ⟨_, rfl, a, 3, rfl, st8, by decide, by decide, fun tk H9 t0 t1 f9 st9 => ?_⟩
            have hfo9 := fr_ints f9 (fun z => z) hfo8
            refine ⟨_, _, rfl, rfl, _, rfl, ite2 (fun c => ?_) fun c => go _ _ _ (f8.trans f9) st9 hfo9⟩
            exact ⟨_, rfl, k fo _ H9 (f8.trans f9) st9 nwf hfo9 (by omega) hlk2 (.inr (ring_of hnd2 hch2 (by omega) (by omega) hx0 ((hns8 x0).mp hm)))⟩
          · rw [decide_eq_false hm]
            exact iteF (iteF (go _ _ _ f8 st8 hfo8))
    · rintro σ H3 ⟨y4, y5, init, z, rfl, f3, st3, _⟩
      refine ⟨small_sz (by decide), fun p np => ?_⟩
      exact k p [] _ (f3.new np) (st3.new np) (Nw.of f3 np) upd_same (by decide) (fun _ h => nomatch h) (.inl rfl)
end
end TA
namespace TA
open PySem PySem.Spec PyProof.Rows L2
theorem PaidAt.fr {D : Addr → Prop} {H H' : Hp} {d : Addr} {f : Int → Int} {n : Nat} (k : Fr D H H') (hd : ¬ D d) (h : PaidAt H d f n) : PaidAt H' d f n := by
  obtain ⟨kvs, e, q⟩ := h
  exact ⟨kvs, k _ _ hd nst_dK e, q⟩
theorem at_words {v : Int} (h0 : 0 ≤ v) (h1 : v < 2) : ∃ wd : Bool, atI [V.str "all", .str "ring"] v = some (.str (wdS wd)) := by
  have h : v = 0 ∨ v = 1 := by omega
  rcases h with rfl | rfl
  · exact ⟨true, rfl⟩
  · exact ⟨false, rfl⟩
def Cond (ts : List Pr) (wd : Bool) (l : List Int) : Prop := if wd = true then l.Pairwise fun x y => x < y ∧ Tied ts x y else l = [] ∨ RingOk ts l
theorem Cond.nodup {ts : List Pr} {wd : Bool} {l : List Int} (h : Cond ts wd l) : l.Nodup := by
  unfold Cond at h
  cases wd with
  | true =>
    rw [if_pos rfl] at h
    exact h.imp fun q => by omega
  | false =>
    rw [if_neg (by decide)] at h
    rcases h with rfl | h
    · exact List.nodup_nil
    · exact h.2.2.1
theorem count_one {l : List Int} (h : l.Nodup) (x : Int) : l.count x ≤ 1 := by
  induction l with
  | nil => exact Nat.zero_le _
  | cons a l ih =>
    obtain ⟨h1, h2⟩ := List.nodup_cons.mp h
    rw [List.count_cons]
    by_cases e : a = x
    · subst e
      rw [List.count_eq_zero.mpr h1]
      simp
    · have := ih h2
      simp [e]
      exact this
theorem Cond.row {ps ts : List Pr} {wd : Bool} {l : List Int} {am : Int} (h : Cond ts wd l) (h2 : 2 ≤ l.length) (ha : 1 ≤ am) (hk : ∀ x ∈ l, x ∈ keys ps) : RowOk ps ts ⟨wd, l, am⟩ := by
  refine ⟨ha, hk, ?_⟩
  unfold Cond at h
  cases wd with
  | true =>
    rw [if_pos rfl] at h
    exact ⟨h2, h⟩
  | false =>
    rw [if_neg (by decide)] at h
    rcases h with rfl | h
    · exact absurd h2 (by decide)
    · exact h
section
variable {P : Program} {w : World} {K : PySem.W.Frag} {mg : Str → Option Value} {base : Heap}
/- _law_row: slots 0:_law_state 1:_law_web_here 2:_law_book 3:_law_paid 4:_law_place 5:_law_price 6:_law_places_here 7:_law_word 8:_law_some 9:_law_rooms 10:_law_room 11:_law_amount; calls _law_take -/
abbrev sl_row : Stmt := topS 43
abbrev nl_row : List Str := ["_law_state", "_law_web_here", "_law_book", "_law_paid", "_law_place", "_law_price", "_law_places_here", "_law_word", "_law_some", "_law_rooms", "_law_room", "_law_amount"]
theorem scl_row : FnScope nl_row ["_law_state", "_law_web_here", "_law_book", "_law_paid"] (defScope sl_row) := ⟨rfl, rfl, rfl, by decide +kernel, rfl, by decide +kernel, by decide +kernel⟩
def spl_row : Sp := fun vs H Q _ => ∃ (a w d pd : Addr) (ps ts : List Pr) (f : Int → Int) (n : Nat), vs = [.ref a, .ref w, .ref d, .ref pd] ∧ StAt H a ∧ WebAt H w ps ts ∧ WebOk ps ts ∧ BookAt H d ps ts ∧ PaidAt H pd f n ∧ n ≤ 1000 ∧ 0 < ps.length ∧ (∀ p ∈ ps, f p.1 ≤ 2 * p.2) ∧ (∀ k, 0 ≤ f k) ∧
  (∀ H', Fr1 pd H H' → StAt H' a → PaidAt H' pd f n → Q .non H') ∧
  ∀ t r H', Fr1 pd H H' → StAt H' a → RowG H' (.ref t) r → RowOk ps ts r → r.ps.length ≤ 9 → PaidAt H' pd (fun k => f k + r.am * (r.ps.count k : Int)) (n + 9) → (∀ p ∈ ps, f p.1 + r.am * (r.ps.count p.1 : Int) ≤ 2 * p.2) → Q (.ref t) H'
theorem okl_row {fA fR : Addr} {fdA fdR : FuncData} (G : Glb mg) (S : Std K mg "_law_row" sl_row ["_law_state", "_law_web_here", "_law_book", "_law_paid"]) (Cl_take : Cal P w K mg base CX0 1 "_law_take" ["_law_state", "_law_many"] spl_take)
    (F_all : FnOk P w K mg base CX0 2 fA fdA ["_law_state", "_law_book", "_law_places_here"] spl_all) (F_ring : FnOk P w K mg base CX0 2 fR fdR ["_law_state", "_law_book", "_law_places_here"] spl_ring) (gl_all : mg "_law_all" = some (.ref fA)) (gl_ring : mg "_law_ring" = some (.ref fR))
    (k_all : PySem.W.keepIn K (.ref fA) = true) (k_ring : PySem.W.keepIn K (.ref fR) = true) (b_all : Binds K fdA ["_law_state", "_law_book", "_law_places_here"] []) (b_ring : Binds K fdR ["_law_state", "_law_book", "_law_places_here"] []) :
    Cal P w K mg base CX0 3 "_law_row" ["_law_state", "_law_web_here", "_law_book", "_law_paid"] spl_row := S.cal fun f fd F => by
  refine F.ok scl_row (fun vs H Q E h => ?_) (fun cdv A outer s H vs Q E hr h => ?_)
  · obtain ⟨a, w, d, pd, ps, ts, f, n, rfl, _⟩ := h
    rfl
  · obtain ⟨a, w, d, pd, ps, ts, f, n, rfl, hst, hw, ok, hB, hP, hn, hne, hle, hge, kN, k⟩ := h
    obtain ⟨pa, tb, hw0, ⟨xs, hpa, hp⟩, _⟩ := id hw
    have hl7 := ok.len
    have hxl := Paired.length hp
    have hkl : (keys ps).length = ps.length := by rw [keys, List.length_map]
    refine ⟨_, (pss_cons (ps_setLc (i := 6) (py := _) (own := [("_law_place", 4), ("_law_price", 5)]) rfl scl_row.nd rfl rfl (sw_true rfl rfl rfl (by decide +kernel)) (pi_list (pe_ix ix_tup (pv 1) pe_int (fun _ _ => rfl))) (blkOk_by (own := [("_law_place", 4), ("_law_price", 5)]) (N := nl_row) (sc := defScope sl_row) (by decide +kernel)) (fun _ _ _ _ _ => (pg_tupK (n := 2) (K := K) rfl (by rfl) (pgs_cons (pg_name (i := 4) scl_row.nd rfl (Or.inl rfl)) (pgs_cons (pg_name (i := 5) scl_row.nd rfl (Or.inl rfl)) pgs_nil)))) (fun _ _ _ _ _ => pts_nil) (fun _ _ _ _ _ => (pv 4)))
      (pss_cons (ps_set (i := 7) scl_row.nd rfl (Or.inl rfl) (pe_ix ix_list (pe_lst (pa_cons pe_str (pa_cons pe_str pa_nil))) (pe_cal Cl_take (hr.mono (by decide)) (by rfl) pass0 (pa_cons (pv 0) (pa_cons pe_int pa_nil))) (fun _ _ => rfl)))
      (pss_cons (ps_set (i := 8) scl_row.nd rfl (Or.inl rfl) (pe_call2 F_all F_ring k_all k_ring b_all b_ring (hr.mono (by decide)) pass0 (pe_ix ix_list (pe_lst (pa_cons (pe_glob (v := .ref fA) (by rfl) gl_all rfl) (pa_cons (pe_glob (v := .ref fR) (by rfl) gl_ring rfl) pa_nil))) (pe_callTy call_int1 (by rfl) G.int (by decide +kernel) (pa_cons (pe_cmpR op_eq (pv 7) pe_str (nomark _)) pa_nil)) (fun _ _ => rfl)) (pa_cons (pv 0) (pa_cons (pv 2) (pa_cons (pv 6) pa_nil)))))
      (pss_cons (ps_set (i := 9) scl_row.nd rfl (Or.inl rfl) (pe_lst pa_nil))
      (pss_cons (ps_for PassesOwn.never rfl (pi_list (pe_ix ix_tup (pv 1) pe_int (fun _ _ => rfl))) (pg_tup (by rfl) (pgs_cons (pg_name (i := 4) scl_row.nd rfl (Or.inl rfl)) (pgs_cons (pg_name (i := 5) scl_row.nd rfl (Or.inl rfl)) pgs_nil))) (pss_one (ps_if (pt_cmpR op_in_seq (pv 4) (pv 8) (by rfl)) (pss_one (ps_expr (pe_bm PySem.F.plainAttrs_list PySem.F.slot_list_append PySem.F.type_list_append mt_append (pv 9) (pa_cons (pe_op op_sub (pe_op op_mul pe_int (pv 5)) (pe_dget2 (hu_of hr) (pv 3) (pv 4) pe_int ⟨rfl, rfl, rfl, rfl⟩)) pa_nil)))) pss_nil)))
      (pss_cons (ps_set (i := 10) scl_row.nd rfl (Or.inl rfl) (pe_callBK (cr_minD rfl hr.units) (by rfl) G.min (by decide +kernel) (pa_cons (pv 9) pa_nil) (pk_cons pe_int pk_nil)))
      (pss_cons (ps_if (PW.pt (pw_or (pt_cmpR op_lt (pe_callB call_len_seq (by rfl) G.len (by decide +kernel) (pa_cons (pv 8) pa_nil)) pe_int (nomark _)) (pw_or1 (pt_cmpR op_lt (pv 10) pe_int (nomark _))))) (pss_one (ps_ret pe_non)) pss_nil)
      (pss_cons (ps_set (i := 11) scl_row.nd rfl (Or.inl rfl) (pe_ix ix_list (pe_lst (pa_cons pe_int (pa_cons (pv 10) (pa_cons (pe_op op_add pe_int (pe_cal Cl_take (hr.mono (by decide)) (by rfl) pass0 (pa_cons (pv 0) (pa_cons (pv 10) pa_nil)))) pa_nil)))) (pe_cal Cl_take (hr.mono (by decide)) (by rfl) pass0 (pa_cons (pv 0) (pa_cons pe_int pa_nil))) (fun _ _ => rfl)))
      (pss_cons (ps_for PassesOwn.never rfl (pi_list (pv 8)) (pg_name (i := 4) scl_row.nd rfl (Or.inl rfl)) (pss_one (ps_dput (hu_of hr) (pv 3) (pv 4) (pe_op op_add (pe_dget2 (hu_of hr) (pv 3) (pv 4) pe_int ⟨rfl, rfl, rfl, rfl⟩) (pv 11)) rfl)))
      (pss_one (ps_ret (pe_tup (pa_cons (pv 7) (pa_cons (pv 8) (pa_cons (pv 11) pa_nil))))))))))))))), ?_⟩
    refine ⟨_, rfl, w, _, 0, _, rfl, rfl, SqT.of hw0, rfl, pa, rfl, ⟨xs, SqL.of hpa⟩, fun D nD => ?_⟩
    refine lc_list (K := K) (a := pa) (xs := xs) (fun j H' => Same H H' ∧ H' D = some (.lst ((keys (ps.take j)).map V.int))) ⟨same_new nD, upd_same⟩ (fun j H' _ q => q.1.seq (SqL.of hpa)) ?_ ?_
    · rintro j x H2 hx ⟨s2, hD⟩
      obtain ⟨p, hq, t, rfl, htp⟩ := lof_at hp hx
      have hj := lt_at hx
      refine ⟨t, _, rfl, SqT.of (s2 _ _ htp), rfl, _, _, rfl, _, _, rfl, rfl, rfl, ?_⟩
      refine ⟨_, rfl, _, hD, small_lt (by rw [List.length_map, keys, List.length_map, List.length_take]; omega), s2.mut nD, ?_⟩
      rw [upd_same, keys_take_snoc hq, List.map_append]
      rfl
    · rintro H1 ⟨s1, hD⟩
      rw [hxl, List.take_of_length_le (Nat.le_refl _)] at hD
      have st1 := s1.st hst
      refine ⟨small_sz (by decide), fun q nq => ?_⟩
      refine ⟨_, rfl, a, 2, rfl, st1.new nq, by decide, by decide, fun v H2 v0 v1 f2 st2 => ?_⟩
      obtain ⟨wd, hwd⟩ := at_words v0 v1
      have hq2 : H2 q = some (.lst [V.str "all", .str "ring"]) := f2 _ _ (fun z => z) (fun _ _ _ z => by cases z) upd_same
      have f02 : Fr0 H H2 := (Same.fr (s1.trans (same_new nq))).trans f2
      have hD2 : H2 D = some (.lst ((keys ps).map V.int)) := fr_ints f2 (fun z => z) (same_new nq _ _ hD)
      refine ⟨q, _, v, .str (wdS wd), rfl, rfl, SqL.of hq2, hwd, ?_⟩
      have hcall : ∀ Q' : VK, (∀ p l H', Fr0 H2 H' → StAt H' a → Nw H2 p → IntsAt H' p l → l.length ≤ 9 → (∀ x ∈ l, x ∈ keys ps) → Cond ts wd l → Q' (.ref p) H') →
          tCall2 fA fR spl_all spl_ring E0 (tOp (rIxL K) (tLst (tCons (tC (.ref fA)) (tCons (tC (.ref fR)) tNil))) (tCB (fun xs H Q => (∃ i, xs = [V.int i] ∧ Q (.int i) H) ∨ ∃ k, xs = [.bl k] ∧ Q (.int (if k then 1 else 0)) H) (tCons (tOp rEq (tVar 7) (tC (.str "ring"))) tNil)))
            (tCons (tVar 0) (tCons (tVar 2) (tCons (tVar 6) tNil))) [some (.ref a), some (.ref w), some (.ref d), some (.ref pd), none, none, some (.ref D), some (.str (wdS wd)), none, none, none, none] H2 Q' := by
        intro Q' hQ
        refine ⟨small_sz (by show 2 ≤ 1000000; decide), fun m nm => ?_⟩
        have s3 : Same H2 (upd H2 m (.lst [.ref fA, .ref fR])) := same_new nm
        have f03 := f02.trans (Same.fr s3)
        have st3 := s3.st st2
        cases wd with
        | true =>
          refine ⟨_, rfl, rfl, .inr ⟨_, rfl, m, _, 0, .ref fA, rfl, rfl, SqL.of upd_same, rfl, .inl ⟨rfl, ?_⟩⟩⟩
          refine ⟨_, rfl, _, rfl, _, rfl, a, d, D, ps, ts, rfl, st3, hB.fr f03, s3 _ _ hD2, ok, hne, fun p l H' g1 g2 g3 g4 g5 g6 g7 => hQ p l H' ((Same.fr s3).trans g1) g2 (Nw.back (Same.fr s3) g3) g4 g5 g6 ?_⟩
          exact g7
        | false =>
          refine ⟨_, rfl, rfl, .inr ⟨_, rfl, m, _, 1, .ref fR, rfl, rfl, SqL.of upd_same, rfl, .inr ⟨rfl, ?_⟩⟩⟩
          refine ⟨_, rfl, _, rfl, _, rfl, a, d, D, ps, ts, rfl, st3, hB.fr f03, s3 _ _ hD2, ok, hne, fun p l H' g1 g2 g3 g4 g5 g6 g7 => hQ p l H' ((Same.fr s3).trans g1) g2 (Nw.back (Same.fr s3) g3) g4 g5 g6 ?_⟩
          exact g7
      refine hcall _ fun so l H3 f3 st3 nso hso hl9 hlk hcond => ?_
      have f03 : Fr0 H H3 := f02.trans f3
      have hso : H3 so = some (.lst (l.map V.int)) := hso
      have hw3 : H3 w = some (.tup [.ref pa, .ref tb]) := f03 _ _ (fun z => z) nst_tup hw0
      have hpa3 : H3 pa = some (.lst xs) := f03 _ _ (fun z => z) (refs_nst pairG hp) hpa
      have hp3 : Paired (PairG H3) xs ps := Paired.mapP hp fun x y g => pairG.mono _ _ _ _ f03.kq g
      obtain ⟨kvs, hd, hkl2, hval⟩ := hP.fr f03 (fun z => z)
      refine ⟨small_sz (by decide), fun m nm => ?_⟩
      have s4 : Same H3 (upd H3 m (.lst [])) := same_new nm
      refine ⟨_, rfl, w, _, 0, _, rfl, rfl, SqT.of (s4 _ _ hw3), rfl, pa, rfl, ⟨xs, SqL.of (s4 _ _ hpa3)⟩, for_list (K := K) (a := pa) (xs := xs) (fun i σ H' => ∃ (y4 y5 : Option V) (rl : List Int), σ = [some (.ref a), some (.ref w), some (.ref d), some (.ref pd), y4, y5, some (.ref D), some (.str (wdS wd)), some (.ref so), some (.ref m), none, none] ∧ Same H3 H' ∧
          H' m = some (.lst (rl.map V.int)) ∧ rl.length ≤ i ∧ (∀ p ∈ ps.take i, p.1 ∈ l → 2 * p.2 - f p.1 ∈ rl) ∧ ∀ x ∈ rl, x ≤ 2000000000)
        ⟨none, none, [], rfl, s4, upd_same, Nat.le_refl _, (fun p h => by rw [List.take_zero] at h; cases h), fun _ h => nomatch h⟩ (fun i σ H' _ ⟨_, _, _, _, s5, _⟩ => s5.seq (SqL.of hpa3)) ?_ ?_⟩
      · rintro i x σ H5 hx ⟨y4, y5, rl, rfl, s5, hm, hrl, hin, hbd⟩
        have hi := lt_at hx
        obtain ⟨p, hq, t, rfl, htp⟩ := lof_at hp3 hx
        refine ⟨t, _, rfl, SqT.of (s5 _ _ htp), rfl, _, _, rfl, _, _, rfl, rfl, ?_⟩
        refine ⟨_, rfl, _, rfl, so, _, rfl, .inl (SqL.of (s5 _ _ hso)), rfl, flat_ints, _, rfl, ?_⟩
        show (if (inV (.int p.1) (l.map V.int)) = true then _ else _)
        rw [inV_int]
        by_cases hmm : p.1 ∈ l
        · rw [decide_eq_true hmm]
          refine iteT ?_
          refine ⟨_, rfl, .inl ⟨rfl, _, SqL.of hm⟩, _, rfl, 2, p.2, rfl, rfl, .inl ⟨by decide, by decide⟩, _, rfl, pd, rfl, .inl ⟨kvs, .inl (s5 _ _ hd)⟩, _, rfl, _, DGet.k (k := Sum.inl p.1) (s5 _ _ hd), _, f p.1, rfl, hval p.1, m, _, _, rfl, rfl, hm, small_lt (by rw [List.length_map]; omega), ?_⟩
          refine ⟨_, _, rl ++ [2 * p.2 - f p.1], rfl, s5.mut nm, by rw [upd_same, List.map_append]; rfl, by rw [List.length_append]; exact Nat.succ_le_succ hrl, fun q hq' hql => ?_, fun x hx => ?_⟩
          · rw [take_at hq] at hq'
            rcases List.mem_append.mp hq' with h | h
            · exact List.mem_append_left _ (hin q h hql)
            · rw [List.mem_singleton.mp h]
              exact List.mem_append_right _ (List.mem_singleton.mpr rfl)
          · rcases List.mem_append.mp hx with h | h
            · exact hbd x h
            · rw [List.mem_singleton.mp h]
              have := (ok.pl p (mem_at hq)).2.2.2
              have := hge p.1
              omega
        · rw [decide_eq_false hmm]
          refine iteF ⟨_, _, rl, rfl, s5, hm, by omega, fun q hq' hql => ?_, hbd⟩
          rw [take_at hq] at hq'
          rcases List.mem_append.mp hq' with h | h
          · exact hin q h hql
          · rw [List.mem_singleton.mp h] at hql
            exact absurd hql hmm
      · rintro σ H5 ⟨y4, y5, rl, rfl, s5, hm, hrl, hin, hbd⟩
        rw [hxl, List.take_of_length_le (Nat.le_refl _)] at hin
        have f05 : Fr0 H H5 := f03.trans (Same.fr s5)
        have st5 := s5.st st3
        have hso5 := s5 _ _ hso
        have fin0 : PaidAt H5 pd f n := hP.fr f05 (fun z => z)
        refine ⟨_, rfl, m, rl, .int 0, rfl, rfl, SqL.of hm, fun e => ?_, fun rm hrm hmin => ?_⟩
        · refine ⟨_, rfl, so, _, rfl, .inl (SqL.of hso5), _, _, rfl, rfl, _, rfl, ite2 (fun c => iteT (kN H5 f05.of0 st5 fin0)) fun c => ?_⟩
          exact ⟨_, rfl, _, _, rfl, rfl, _, rfl, ifT (decide_eq_true (by decide)) (kN H5 f05.of0 st5 fin0)⟩
        · refine ⟨_, rfl, so, _, rfl, .inl (SqL.of hso5), _, _, rfl, rfl, _, rfl, ite2 (fun c => iteT (kN H5 f05.of0 st5 fin0)) fun c => ?_⟩
          have h2 : 2 ≤ l.length := by
            have c := not_dec c
            rw [List.length_map] at c
            omega
          refine ⟨_, rfl, _, _, rfl, rfl, _, rfl, ite2 (fun c => kN H5 f05.of0 st5 fin0) fun c => ?_⟩
          have h1 : 1 ≤ rm := by
            have c := not_dec c
            omega
          have hr2 := hbd rm hrm
          refine ⟨_, rfl, _, rfl, _, rfl, a, rm, rfl, st5, h1, by omega, fun v2 H6 w0 w1 f6 st6 => ⟨_, _, rfl, rfl, small_sz (by show 3 ≤ 1000000; decide), fun q2 nq2 => ?_⟩⟩
          refine ⟨_, rfl, a, 3, rfl, st6.new nq2, by decide, by decide, fun u H7 u0 u1 f7 st7 => ?_⟩
          obtain ⟨am, ham, hamm⟩ := at_menu [1, rm, 1 + v2] u0 u1
          have hq7 : H7 q2 = some (.lst (([1, rm, 1 + v2] : List Int).map V.int)) := fr_ints (ns := [1, rm, 1 + v2]) f7 (fun z => z) upd_same
          have hamb : 1 ≤ am ∧ am ≤ rm := by
            rcases List.mem_cons.mp hamm with z | z
            · omega
            · rcases List.mem_cons.mp z with z | z
              · omega
              · have := List.mem_singleton.mp z
                omega
          have f57 : Fr0 H5 H7 := (f6.trans (Same.fr (same_new nq2))).trans f7
          have f07 := f05.trans f57
          have hso7 := fr_ints f57 (fun z => z) hso5
          refine ⟨q2, _, u, .int am, rfl, rfl, SqL.of hq7, ham, ?_⟩
          refine ⟨_, rfl, so, rfl, ⟨_, SqL.of hso7⟩, for_list (K := K) (a := so) (xs := l.map V.int) (fun j σ H' => ∃ y4 : Option V, σ = [some (.ref a), some (.ref w), some (.ref d), some (.ref pd), y4, y5, some (.ref D), some (.str (wdS wd)), some (.ref so), some (.ref m), some (.int rm), some (.int am)] ∧ Fr1 pd H H' ∧ StAt H' a ∧
              H' so = some (.lst (l.map V.int)) ∧ PaidAt H' pd (fun k => f k + am * ((l.take j).count k : Int)) (n + j))
            ⟨_, rfl, f07.of0, st7, hso7, by simpa using hP.fr f07 (fun z => z)⟩ (fun i σ H' _ ⟨_, _, _, _, e, _⟩ => SqL.of e) ?_ ?_⟩
          · rintro j x σ H8 hx ⟨y4, rfl, f8, st8, hso8, kvs8, hd8, hkl8, hval8⟩
            rw [List.getElem?_map] at hx
            obtain ⟨z, hz, rfl⟩ := Option.map_eq_some_iff.mp hx
            have hj := lt_at hz
            refine ⟨_, rfl, pd, rfl, .inl ⟨kvs8, .inl hd8⟩, _, rfl, _, DGet.k (k := Sum.inl z) hd8, _, rfl, _, am, hval8 z, rfl, ?_⟩
            refine ⟨_, rfl, _, rfl, pd, _, rfl, dput_of hd8 (by omega), ?_⟩
            refine ⟨_, rfl, fun b o hb no eb => by rw [upd_ne hb]; exact f8 b o hb no eb, st8.set hd8 nst_dK, by rw [upd_ne (dict_ne_lst hd8 hso8).symm]; exact hso8, _, upd_same, Nat.le_trans (length_putK _ _ _) (by omega), fun k => ?_⟩
            rw [paid_put hval8 k, take_at hz]
            show V.int (f k + am * ((l.take j).count k : Int) + am * (if z = k then 1 else 0)) = V.int (f k + am * ((l.take j ++ [z]).count k : Int))
            rw [count_snoc, Int.mul_add, Int.add_assoc]
          · rintro σ H8 ⟨y4, rfl, f8, st8, hso8, kvs8, hd8, hkl8, hval8⟩
            simp only [take_map_all] at hval8
            rw [List.length_map] at hkl8
            refine ⟨_, rfl, _, rfl, _, rfl, small_sz (by show 3 ≤ 1000000; decide), fun t nt => ?_⟩
            have tso : so ≠ t := fun e => by rw [← e, hso8] at nt; cases nt
            have tpd : pd ≠ t := fun e => by rw [← e, hd8] at nt; cases nt
            refine k t ⟨wd, l, am⟩ _ (f8.new nt) (st8.new nt) ⟨t, so, rfl, upd_same, by rw [upd_ne tso]; exact hso8⟩ (hcond.row h2 hamb.1 hlk) hl9 ⟨kvs8, by rw [upd_ne tpd]; exact hd8, by omega, hval8⟩ fun p hpm => ?_
            show f p.1 + am * (l.count p.1 : Int) ≤ 2 * p.2
            by_cases hmm : p.1 ∈ l
            · have e1 : l.count p.1 = 1 := by
                have := count_one hcond.nodup p.1
                have := List.count_pos_iff.mpr hmm
                omega
              have := hmin _ (hin p hpm hmm)
              rw [e1]
              omega
            · rw [List.count_eq_zero.mpr hmm]
              have := hle p hpm
              omega
end
end TA
namespace TA
open PySem PySem.Spec PyProof.Rows L2
theorem Fr.out {H H1 H2 : Hp} {p : Addr} (f : Fr0 H H1) (n : Nw H p) (g : Fr1 p H1 H2) : Fr0 H H2 := fun b o _ ns e => g b o (n.ne ns e) ns (f b o (fun z => z) ns e)
theorem paired_mem {α β : Type} {G : α → β → Prop} : ∀ {xs : List α} {ys : List β}, Paired G xs ys → Paired (fun x y => y ∈ ys ∧ G x y) xs ys
  | _, _, .nil => .nil
  | _, _, .cons r t => .cons ⟨List.mem_cons_self, r⟩ (Paired.mapP (paired_mem t) fun x y ⟨m, g⟩ => ⟨List.mem_cons_of_mem _ m, g⟩)
/-- a list of things by name is written, the rows stand -/
theorem rows_upd {H : Hp} {l : Addr} {o : HO} {zs xs : List V} {rs : List RowD} (p : Paired (RowG H) xs rs) (hl : H l = some (.lst zs)) (hz : ∀ z ∈ zs, ∃ t, z = .ref t) (hr : ∀ r ∈ rs, r.ps ≠ []) : Paired (RowG (upd H l o)) xs rs :=
  Paired.mapP (paired_mem p) fun x r ⟨m, t, b, e, h1, h2⟩ => by
    refine ⟨t, b, e, by rw [upd_ne (ne_of h1 hl (by intro z; cases z))]; exact h1, ?_⟩
    have hb : b ≠ l := by
      rintro rfl
      rw [h2] at hl
      have e2 : r.ps.map V.int = zs := HO.lst.inj (Option.some.inj hl)
      cases hq : r.ps with
      | nil => exact hr r m hq
      | cons y q =>
        rw [hq] at e2
        obtain ⟨t, ht⟩ := hz (.int y) (by rw [← e2]; exact List.mem_cons_self)
        cases ht
    rw [upd_ne hb]
    exact h2
theorem paidD_nn : ∀ {rs : List RowD}, (∀ r ∈ rs, 1 ≤ r.am) → ∀ k, 0 ≤ paidD rs k
  | [], _, _ => Int.le_refl 0
  | r :: rs, h, k => by
    have h1 := h r List.mem_cons_self
    have h2 := paidD_nn (rs := rs) (fun q m => h q (List.mem_cons_of_mem _ m)) k
    show 0 ≤ r.am * (r.ps.count k : Int) + paidD rs k
    have h3 : 0 ≤ r.am * (r.ps.count k : Int) := Int.mul_nonneg (by omega) (Int.natCast_nonneg _)
    omega
theorem RowOk.ne {ps ts : List Pr} {r : RowD} (h : RowOk ps ts r) : r.ps ≠ [] := fun e => by
  obtain ⟨_, _, h⟩ := h
  rw [e] at h
  split at h
  · exact absurd h.1 (by decide)
  · exact absurd h.1 (by decide)
section
variable {P : Program} {w : World} {K : PySem.W.Frag} {mg : Str → Option Value} {base : Heap}
/- _law_rows: slots 0:_law_state 1:_law_web_here 2:_law_most 3:_law_book 4:_law_paid 5:_law_rows_here 6:_law_turn 7:_law_row_here; calls _law_near _law_take _law_row -/
abbrev sl_rows : Stmt := topS 44
abbrev nl_rows : List Str := ["_law_state", "_law_web_here", "_law_most", "_law_book", "_law_paid", "_law_rows_here", "_law_turn", "_law_row_here"]
theorem scl_rows : FnScope nl_rows ["_law_state", "_law_web_here", "_law_most"] (defScope sl_rows) := ⟨rfl, rfl, rfl, by decide +kernel, rfl, by decide +kernel, by decide +kernel⟩
def spl_rows : Sp := fun vs H Q _ => ∃ (a w : Addr) (ps ts : List Pr), vs = [.ref a, .ref w, .int 7] ∧ StAt H a ∧ WebAt H w ps ts ∧ WebOk ps ts ∧
  ∀ l rs H', Fr0 H H' → StAt H' a → RowsAt H' l rs → rs.length ≤ 7 → RowsOk ps ts rs → (∀ r ∈ rs, r.ps.length ≤ 9) → (rs ≠ [] → ps ≠ []) → Q (.ref l) H'
theorem okl_rows (G : Glb mg) (S : Std K mg "_law_rows" sl_rows ["_law_state", "_law_web_here", "_law_most"]) (Cl_take : Cal P w K mg base CX0 1 "_law_take" ["_law_state", "_law_many"] spl_take)
    (Cl_near : Cal P w K mg base CX0 1 "_law_near" ["_law_web_here"] spl_near) (Cl_row : Cal P w K mg base CX0 3 "_law_row" ["_law_state", "_law_web_here", "_law_book", "_law_paid"] spl_row) :
    Cal P w K mg base CX0 4 "_law_rows" ["_law_state", "_law_web_here", "_law_most"] spl_rows := S.cal fun f fd F => by
  refine F.ok scl_rows (fun vs H Q E h => ?_) (fun cdv A outer s H vs Q E hr h => ?_)
  · obtain ⟨a, w, ps, ts, rfl, _⟩ := h
    rfl
  · obtain ⟨a, w, ps, ts, rfl, hst, hw, ok, k⟩ := h
    refine ⟨_, (pss_cons (ps_set (i := 3) scl_rows.nd rfl (Or.inl rfl) (pe_cal Cl_near (hr.mono (by decide)) (by rfl) pass0 (pa_cons (pv 1) pa_nil)))
      (pss_cons (ps_set (i := 4) scl_rows.nd rfl (Or.inl rfl) pe_dnewK)
      (pss_cons (ps_set (i := 5) scl_rows.nd rfl (Or.inl rfl) (pe_lst pa_nil))
      (pss_cons (ps_for PassesOwn.never rfl (pi_range1 (by rfl) G.range (pa_cons (pe_cal Cl_take (hr.mono (by decide)) (by rfl) pass0 (pa_cons (pv 0) (pa_cons (pe_op op_add (pv 2) pe_int) pa_nil))) pa_nil)) (pg_name (i := 6) scl_rows.nd rfl (Or.inl rfl)) (pss_one (ps_if (pt_cmpR (op_neD hr.units) (pe_ix ix_tup (pv 1) pe_int (fun _ _ => rfl)) (pe_lst pa_nil) (nomark _)) (pss_cons (ps_set (i := 7) scl_rows.nd rfl (Or.inl rfl) (pe_cal Cl_row (hr.mono (by decide)) (by rfl) pass0 (pa_cons (pv 0) (pa_cons (pv 1) (pa_cons (pv 3) (pa_cons (pv 4) pa_nil))))))
      (pss_one (ps_if (pt_cmpR op_notN (pv 7) pe_non (nomark _)) (pss_one (ps_expr (pe_bm PySem.F.plainAttrs_list PySem.F.slot_list_append PySem.F.type_list_append mt_append (pv 5) (pa_cons (pv 7) pa_nil)))) pss_nil))) pss_nil)))
      (pss_one (ps_ret (pv 5))))))), ?_⟩
    refine ⟨_, rfl, w, ps, ts, rfl, hw, ok, fun d H1 s1 nd hB => ?_⟩
    intro pd npd
    have s2 : Same H1 (upd H1 pd (.dK [])) := same_new npd
    refine ⟨small_sz (by decide), fun l nl => ?_⟩
    have s3 : Same (upd H1 pd (.dK [])) (upd (upd H1 pd (.dK [])) l (.lst [])) := same_new nl
    have nwp : Nw H1 pd := Nw.emp npd
    have nwl : Nw H1 l := Nw.of (Same.fr s2) nl
    have hdp : d ≠ pd := by
      obtain ⟨kvs, e, _⟩ := hB
      exact fun z => by rw [← z, e] at npd; cases npd
    have hw1 := hw.mono s1.kq
    obtain ⟨pa, tb, hw0, _, ys, htb, htp⟩ := id hw1
    have hyl := Paired.length htp
    refine ⟨_, rfl, _, rfl, _, _, rfl, rfl, a, _, rfl, s3.st (s2.st (s1.st hst)), by decide, by decide, fun n H2 n0 n1 f2 st2 => ?_⟩
    have f12 : Fr0 H1 H2 := (Same.fr (s2.trans s3)).trans f2
    have hpd2 : H2 pd = some (.dK []) := f2 _ _ (fun z => z) nst_dK (s3 _ _ upd_same)
    have hl2 : H2 l = some (.lst []) := f2 _ _ (fun z => z) (nst_ints (ns := [])) upd_same
    refine ⟨n, rfl, by omega, by omega, for_range (lo := 0) (n := n.toNat) (fun i σ H' => ∃ (y6 y7 : Option V) (xs : List V) (rs : List RowD), σ = [some (.ref a), some (.ref w), some (.int 7), some (.ref d), some (.ref pd), some (.ref l), y6, y7] ∧ Fr0 H1 H' ∧ StAt H' a ∧
        PaidAt H' pd (paidD rs) (9 * i) ∧ H' l = some (.lst xs) ∧ Paired (RowG H') xs rs ∧ rs.length ≤ i ∧ RowsOk ps ts rs ∧ (∀ r ∈ rs, r.ps.length ≤ 9) ∧ (rs ≠ [] → ps ≠ []))
      ⟨none, none, [], [], rfl, f12, st2, ⟨[], hpd2, Nat.zero_le _, fun _ => rfl⟩, hl2, .nil, Nat.le_refl _, ⟨(fun _ h => nomatch h), fun p hp => by show (0 : Int) ≤ 2 * p.2; have := (ok.pl p hp).2.2.1; omega⟩, (fun _ h => nomatch h), fun z => absurd rfl z⟩ ?_ ?_⟩
    · rintro i σ H3 hi ⟨y6, y7, xs, rs, rfl, f3, st3, hP, hl, hp, hlen, hok, h9, hne⟩
      have hxl := Paired.length hp
      have hw3 : H3 w = some (.tup [.ref pa, .ref tb]) := f3 _ _ (fun z => z) nst_tup hw0
      have htb3 := fr_lst pairG f3 (fun z => z) htp htb
      have htp3 := Paired.mapP htp fun x y g => pairG.mono _ _ _ _ f3.kq g
      refine ⟨_, rfl, w, _, 1, _, rfl, rfl, SqT.of hw3, rfl, small_sz (by decide), fun q nq => ?_⟩
      have s4 : Same H3 (upd H3 q (.lst [])) := same_new nq
      have htp4 := Paired.mapP htp3 fun x y g => pairG.mono _ _ _ _ s4.kq g
      refine ⟨.list _, .list [], .lst (SqL.of (s4 _ _ htb3)) (pairs_dp htp4), .lst (SqL.of upd_same) .nil, shaped_list (pairs_small _), shaped_list (fun _ z => nomatch z), _, rfl, ?_⟩
      rw [eqv_nil, List.length_map]
      have f4 : Fr0 H1 (upd H3 q (.lst [])) := f3.trans (Same.fr s4)
      have hP4 : PaidAt (upd H3 q (.lst [])) pd (paidD rs) (9 * i) := hP.fr (D := fun _ => False) (Same.fr s4) (fun z => z)
      have hp4 := Paired.mapP hp fun x y g => rowG.mono _ _ _ _ s4.kq g
      have hl4 := s4 _ _ hl
      by_cases hz : ts.length = 0
      · rw [decide_eq_true hz]
        obtain ⟨kvs, e1, e2, e3⟩ := hP4
        exact iteF ⟨_, _, xs, rs, rfl, f4, s4.st st3, ⟨kvs, e1, by omega, e3⟩, hl4, hp4, by omega, hok, h9, hne⟩
      · rw [decide_eq_false hz]
        refine iteT ?_
        have hpl : 0 < ps.length := by
          cases hts : ts with
          | nil => rw [hts] at hz; exact absurd rfl hz
          | cons t q =>
            obtain ⟨p, hp, _⟩ := of_keys (ok.ti t (by rw [hts]; exact List.mem_cons_self)).2.1
            exact List.length_pos_of_mem hp
        have hpn : ps ≠ [] := fun z => by rw [z] at hpl; exact absurd hpl (by decide)
        refine ⟨_, rfl, _, rfl, _, rfl, _, rfl, a, w, d, pd, ps, ts, paidD rs, 9 * i, rfl, s4.st st3, hw1.mono f4.kq, ok, hB.fr f4, hP4, by omega, hpl, hok.2, paidD_nn fun r hr => (hok.1 r hr).1, fun H5 f5 st5 hP5 => ?_, fun t r H5 f5 st5 hrg hro hr9 hP5 hwi => ?_⟩
        · obtain ⟨kv4, hd4, _⟩ := hP4
          have hl5 : H5 l = some (.lst xs) := fr_lst rowG f5 (dict_ne_lst hd4 hl4).symm hp4 hl4
          have hp5 := Paired.mapP hp4 fun x y g => rowG.mono _ _ _ _ (f5.kq1 hd4) g
          obtain ⟨kvs, e1, e2, e3⟩ := hP5
          refine ⟨_, rfl, rfl, _, rfl, iteF ⟨_, _, xs, rs, rfl, f4.out nwp f5, st5, ⟨kvs, e1, by omega, e3⟩, hl5, hp5, by omega, hok, h9, hne⟩⟩
        · obtain ⟨kv4, hd4, _⟩ := hP4
          have hl5 : H5 l = some (.lst xs) := fr_lst rowG f5 (dict_ne_lst hd4 hl4).symm hp4 hl4
          have hp5 := Paired.mapP hp4 fun x y g => rowG.mono _ _ _ _ (f5.kq1 hd4) g
          obtain ⟨kvs, e1, e2, e3⟩ := hP5
          refine ⟨_, rfl, rfl, _, rfl, iteT ?_⟩
          refine ⟨_, rfl, .inl ⟨rfl, _, SqL.of hl5⟩, _, rfl, l, xs, _, rfl, rfl, hl5, small_lt (by omega), ?_⟩
          have hps : Paired (RowG H5) (xs ++ [.ref t]) (rs ++ [r]) := paired_snoc hp5 hrg
          have hok' : ∀ q ∈ rs ++ [r], RowOk ps ts q := fun q hq => by
            rcases List.mem_append.mp hq with h | h
            · exact hok.1 q h
            · rw [List.mem_singleton.mp h]
              exact hro
          have hxr : ∀ z ∈ xs, ∃ t, z = V.ref t := fun z hz => by
            obtain ⟨y, _, g⟩ := paired_left hp5 z hz
            exact rowG.ref _ _ _ g
          have lpd : pd ≠ l := dict_ne_lst e1 hl5
          refine ⟨_, _, xs ++ [.ref t], rs ++ [r], rfl, (f4.out nwp f5).mutN nwl, st5.set hl5 (refs_nst rowG hp5), ⟨kvs, by rw [upd_ne lpd]; exact e1, by omega, fun k => by rw [e3 k, paid_snoc]⟩, upd_same, rows_upd hps hl5 hxr (fun q hq => (hok' q hq).ne), by rw [List.length_append]; exact Nat.succ_le_succ hlen, ⟨hok', fun p hp => ?_⟩, fun q hq => ?_, fun _ => hpn⟩
          · rw [paid_snoc]
            exact hwi p hp
          · rcases List.mem_append.mp hq with h | h
            · exact h9 q h
            · rw [List.mem_singleton.mp h]
              exact hr9
    · rintro σ H3 ⟨y6, y7, xs, rs, rfl, f3, st3, hP, hl, hp, hlen, hok, h9, hne⟩
      exact ⟨_, rfl, k l rs H3 ((Same.fr s1).trans f3) st3 ⟨xs, hl, hp⟩ (by omega) hok h9 hne⟩
end
end TA
namespace TA
open PySem PySem.Spec PyProof.Rows L2
def rowD (r : RowD) : PyData := .tuple [.str (wdS r.wd), .list (r.ps.map PyData.int), .int r.am]
theorem rows_dp {K : PySem.W.Frag} {H : Hp} : ∀ {xs : List V} {rs : List RowD}, Paired (RowG H) xs rs → DpAll K H xs (rs.map rowD)
  | _, _, .nil => .nil
  | _, _, .cons ⟨t, l, e, h, h2⟩ r => by
    subst e
    exact .cons (.tup (SqT.of h) (.cons (.str _) (.cons (.lst (SqL.of h2) (ints_dp _)) (.cons (.int _) .nil)))) (rows_dp r)
theorem ints_sm : ∀ ns : List Int, PyData.canLayAll0 (ns.map PyData.int) = true ∧ PyData.depthAll (ns.map PyData.int) ≤ 1
  | [] => ⟨by simp [PyData.canLayAll0], by simp [PyData.depthAll]⟩
  | n :: ns => by
    obtain ⟨h1, h2⟩ := ints_sm ns
    refine ⟨by simp only [List.map_cons, PyData.canLayAll0, PyData.canLay0, h1, Bool.and_self], ?_⟩
    simp only [List.map_cons, PyData.depthAll, PyData.depth]
    exact Nat.max_le.mpr ⟨by decide, h2⟩
theorem rows_small (rs : List RowD) : ∀ d ∈ rs.map rowD, d.canLay0 = true ∧ d.depth ≤ 60 := fun d hd => by
  obtain ⟨⟨wd, l, am⟩, _, rfl⟩ := List.mem_map.mp hd
  obtain ⟨h1, h2⟩ := ints_sm l
  refine ⟨?_, ?_⟩
  · show PyData.canLay0 (.tuple [.str (wdS wd), .list (l.map PyData.int), .int am]) = true
    cases wd with
    | true => simp only [PyData.canLay0, PyData.canLayAll0, h1]; decide +kernel
    | false => simp only [PyData.canLay0, PyData.canLayAll0, h1]; decide +kernel
  · show PyData.depth (.tuple [.str (wdS wd), .list (l.map PyData.int), .int am]) ≤ 60
    simp only [PyData.depth, PyData.depthAll]
    omega
theorem cut_drop (xs : List V) (k : Nat) : cutV xs (some (k : Int)) none = xs.drop k := by
  unfold cutV
  rw [HT.sIx_none, HT.sIx_nat]
  by_cases h : k ≤ xs.length
  · rw [Nat.min_eq_left h, List.take_of_length_le (by rw [List.length_drop]; omega)]
  · rw [Nat.min_eq_right (by omega), Nat.sub_self, List.take_zero, List.drop_of_length_le (by omega)]
section
variable {P : Program} {w : World} {K : PySem.W.Frag} {mg : Str → Option Value} {base : Heap}
/- _law_loose: slots 0:_law_state 1:_law_rows_here 2:_law_web_here 3:_law_at 4:_law_word 5:_law_places_here 6:_law_amount 7:_law_way 8:_law_place 9:_law_price; calls _law_take -/
abbrev sl_loose : Stmt := topS 48
abbrev nl_loose : List Str := ["_law_state", "_law_rows_here", "_law_web_here", "_law_at", "_law_word", "_law_places_here", "_law_amount", "_law_way", "_law_place", "_law_price"]
theorem scl_loose : FnScope nl_loose ["_law_state", "_law_rows_here", "_law_web_here"] (defScope sl_loose) := ⟨rfl, rfl, rfl, by decide +kernel, rfl, by decide +kernel, by decide +kernel⟩
def spl_loose : Sp := fun vs H Q _ => ∃ (a lr w : Addr) (ps ts : List Pr) (rs : List RowD), vs = [.ref a, .ref lr, .ref w] ∧ StAt H a ∧ RowsAt H lr rs ∧ rs.length ≤ 7 ∧ (∀ r ∈ rs, r.ps.length ≤ 9) ∧ WebAt H w ps ts ∧ WebOk ps ts ∧ (rs ≠ [] → ps ≠ []) ∧
  ∀ l rs' H', Fr0 H H' → StAt H' a → RowsAt H' l rs' → Small rs' → Q (.ref l) H'
theorem okl_loose (G : Glb mg) (S : Std K mg "_law_loose" sl_loose ["_law_state", "_law_rows_here", "_law_web_here"]) (Cl_take : Cal P w K mg base CX0 1 "_law_take" ["_law_state", "_law_many"] spl_take) :
    Cal P w K mg base CX0 2 "_law_loose" ["_law_state", "_law_rows_here", "_law_web_here"] spl_loose := S.cal fun f fd F => by
  refine F.ok scl_loose (fun vs H Q E h => ?_) (fun cdv A outer s H vs Q E hr h => ?_)
  · obtain ⟨a, lr, w, ps, ts, rs, rfl, _⟩ := h
    rfl
  · obtain ⟨a, lr, w, ps, ts, rs, rfl, hst, hrs, hr7, hr9, hw, ok, hne, k⟩ := h
    obtain ⟨xs, hlr, hp⟩ := id hrs
    have hxl := Paired.length hp
    obtain ⟨pa, tb, hw0, ⟨zs, hpa, hzp⟩, _⟩ := id hw
    have hzl := Paired.length hzp
    have hl7 := ok.len
    refine ⟨_, (pss_cons (ps_if (pt_cmpR (op_eqD hr.units) (pv 1) (pe_lst pa_nil) (nomark _)) (pss_one (ps_ret (pe_lst (pa_cons (pe_tup (pa_cons pe_str (pa_cons (pe_lc (own := [("_law_place", 8), ("_law_price", 9)]) rfl scl_loose.nd (pi_list (pe_ix ix_tup (pv 2) pe_int (fun _ _ => rfl))) (blkOk_by (own := [("_law_place", 8), ("_law_price", 9)]) (N := nl_loose) (sc := defScope sl_loose) (by decide +kernel)) (fun _ _ _ _ _ => (pg_tupK (n := 2) (K := K) rfl (by rfl) (pgs_cons (pg_name (i := 8) scl_loose.nd rfl (Or.inl rfl)) (pgs_cons (pg_name (i := 9) scl_loose.nd rfl (Or.inl rfl)) pgs_nil)))) (fun _ _ _ _ _ => pts_nil) (fun _ _ _ _ _ => (pv 8))) (pa_cons (pe_op op_add pe_int (pe_cal Cl_take (hr.mono (by decide)) (by rfl) pass0 (pa_cons (pv 0) (pa_cons pe_int pa_nil)))) pa_nil)))) pa_nil)))) pss_nil)
      (pss_cons (ps_set (i := 3) scl_loose.nd rfl (Or.inl rfl) (pe_cal Cl_take (hr.mono (by decide)) (by rfl) pass0 (pa_cons (pv 0) (pa_cons (pe_callB call_len_seq (by rfl) G.len (by decide +kernel) (pa_cons (pv 1) pa_nil)) pa_nil))))
      (pss_cons (ps_asg (pe_ix ix_list (pv 1) (pv 3) (fun _ _ => rfl)) (pg_tup (by rfl) (pgs_cons (pg_name (i := 4) scl_loose.nd rfl (Or.inl rfl)) (pgs_cons (pg_name (i := 5) scl_loose.nd rfl (Or.inl rfl)) (pgs_cons (pg_name (i := 6) scl_loose.nd rfl (Or.inl rfl)) pgs_nil)))))
      (pss_cons (ps_set (i := 7) scl_loose.nd rfl (Or.inl rfl) (pe_cal Cl_take (hr.mono (by decide)) (by rfl) pass0 (pa_cons (pv 0) (pa_cons pe_int pa_nil))))
      (pss_cons (ps_if (pt_cmpR op_eq (pv 7) pe_int (nomark _)) (pss_one (ps_set (i := 4) scl_loose.nd rfl (Or.inl rfl) (pe_ix ix_list (pe_lst (pa_cons pe_str (pa_cons pe_str pa_nil))) (pe_callTy call_int1 (by rfl) G.int (by decide +kernel) (pa_cons (pe_cmpR op_eq (pv 4) pe_str (nomark _)) pa_nil)) (fun _ _ => rfl)))) pss_nil)
      (pss_cons (ps_if (pt_cmpR op_eq (pv 7) pe_int (nomark _)) (pss_one (ps_set (i := 5) scl_loose.nd rfl (Or.inl rfl) (pe_slice sl_list (pv 5) (po_some pe_int) po_none))) pss_nil)
      (pss_cons (ps_if (pt_cmpR op_eq (pv 7) pe_int (nomark _)) (pss_one (ps_set (i := 5) scl_loose.nd rfl (Or.inl rfl) (pe_op op_cat (pv 5) (pe_lst (pa_cons (pe_ix ix_tup (pe_ix ix_list (pe_ix ix_tup (pv 2) pe_int (fun _ _ => rfl)) (pe_cal Cl_take (hr.mono (by decide)) (by rfl) pass0 (pa_cons (pv 0) (pa_cons (pe_callB call_len_seq (by rfl) G.len (by decide +kernel) (pa_cons (pe_ix ix_tup (pv 2) pe_int (fun _ _ => rfl)) pa_nil)) pa_nil))) (fun _ _ => rfl)) pe_int (fun _ _ => rfl)) pa_nil))))) pss_nil)
      (pss_cons (ps_if (pt_cmpR op_eq (pv 7) pe_int (nomark _)) (pss_one (ps_set (i := 6) scl_loose.nd rfl (Or.inl rfl) (pe_op op_add (pe_op op_add (pv 6) pe_int) (pe_cal Cl_take (hr.mono (by decide)) (by rfl) pass0 (pa_cons (pv 0) (pa_cons (pe_ix ix_list (pe_lst (pa_cons pe_int (pa_cons pe_int (pa_cons (pe_op op_pow pe_int pe_int) pa_nil)))) (pe_cal Cl_take (hr.mono (by decide)) (by rfl) pass0 (pa_cons (pv 0) (pa_cons pe_int pa_nil))) (fun _ _ => rfl)) pa_nil)))))) pss_nil)
      (pss_one (ps_ret (pe_op op_cat (pe_op op_cat (pe_slice sl_list (pv 1) po_none (po_some (pv 3))) (pe_lst (pa_cons (pe_tup (pa_cons (pv 4) (pa_cons (pv 5) (pa_cons (pv 6) pa_nil)))) pa_nil))) (pe_slice sl_list (pv 1) (po_some (pe_op op_add (pv 3) pe_int)) po_none)))))))))))), ?_⟩
    refine ⟨_, rfl, small_sz (by decide), fun q nq => ?_⟩
    have s1 : Same H (upd H q (.lst [])) := same_new nq
    have hp1 := Paired.mapP hp fun x y g => rowG.mono _ _ _ _ s1.kq g
    refine ⟨.list _, .list [], .lst (SqL.of (s1 _ _ hlr)) (rows_dp hp1), .lst (SqL.of upd_same) .nil, shaped_list (rows_small _), shaped_list (fun _ z => nomatch z), _, rfl, ?_⟩
    rw [eqv_nil, List.length_map]
    generalize upd H q (.lst []) = H1 at s1 hp1
    have st1 := s1.st hst
    by_cases hz : rs.length = 0
    · rw [decide_eq_true hz]
      refine iteT ?_
      refine ⟨_, rfl, w, _, 0, _, rfl, rfl, SqT.of (s1 _ _ hw0), rfl, pa, rfl, ⟨zs, SqL.of (s1 _ _ hpa)⟩, fun D nD => ?_⟩
      refine lc_list (K := K) (a := pa) (xs := zs) (fun j H' => Same H1 H' ∧ H' D = some (.lst ((keys (ps.take j)).map V.int))) ⟨same_new nD, upd_same⟩ (fun j H' _ q => q.1.seq (SqL.of (s1 _ _ hpa))) ?_ ?_
      · rintro j x H2 hx ⟨s2, hD⟩
        obtain ⟨p, hq, t, rfl, htp⟩ := lof_at hzp hx
        have hj := lt_at hx
        refine ⟨t, _, rfl, SqT.of (s2 _ _ (s1 _ _ htp)), rfl, _, _, rfl, _, _, rfl, rfl, rfl, ?_⟩
        refine ⟨_, rfl, _, hD, small_lt (by rw [List.length_map, keys, List.length_map, List.length_take]; omega), s2.mut nD, ?_⟩
        rw [upd_same, keys_take_snoc hq, List.map_append]
        rfl
      · rintro H2 ⟨s2, hD⟩
        rw [hzl, List.take_of_length_le (Nat.le_refl _)] at hD
        have s02 := s1.trans s2
        refine ⟨_, rfl, a, 9, rfl, s02.st hst, by decide, by decide, fun v H3 v0 v1 f3 st3 => ?_⟩
        have hD3 : H3 D = some (.lst ((keys ps).map V.int)) := fr_ints f3 (fun z => z) hD
        refine ⟨_, _, rfl, rfl, small_sz (by show 3 ≤ 1000000; decide), fun t nt => ⟨small_sz (by show 1 ≤ 1000000; decide), fun l nl => ?_⟩⟩
        have s4 : Same H3 (upd H3 t (.tup [.str "all", .ref D, .int (1 + v)])) := same_new nt
        have s5 : Same (upd H3 t (.tup [.str "all", .ref D, .int (1 + v)])) (upd (upd H3 t (.tup [.str "all", .ref D, .int (1 + v)])) l (.lst [.ref t])) := same_new nl
        refine k l [⟨true, keys ps, 1 + v⟩] _ ((Same.fr s02).trans (f3.trans (Same.fr (s4.trans s5)))) (s5.st (s4.st st3)) ⟨_, upd_same, .cons ⟨t, D, rfl, s5 _ _ upd_same, s5 _ _ (s4 _ _ hD3)⟩ .nil⟩ ⟨by show 1 ≤ 200; decide, fun r hr => ?_⟩
        rw [List.mem_singleton.mp hr]
        show (keys ps).length ≤ 1000
        rw [keys, List.length_map]
        omega
    · rw [decide_eq_false hz]
      refine iteF ?_
      have hpn : ps ≠ [] := hne fun z => hz (by rw [z]; rfl)
      have hpl : 0 < ps.length := List.length_pos_iff.mpr hpn
      refine ⟨_, rfl, _, rfl, lr, _, rfl, .inl (SqL.of (s1 _ _ hlr)), a, _, rfl, st1, by omega, by omega, fun at_ H2 at0 at1 f2 st2 => ?_⟩
      obtain ⟨n, rfl⟩ := Int.eq_ofNat_of_zero_le at0
      have hn : n < rs.length := by omega
      have f02 : Fr0 H H2 := (Same.fr s1).trans f2
      obtain ⟨r, hrn⟩ : ∃ r, rs[n]? = some r := ⟨_, List.getElem?_eq_getElem hn⟩
      obtain ⟨x, hx, t, b, rfl, ht, hb⟩ := paired_at hp hrn
      have hr9' := hr9 r (mem_at hrn)
      obtain ⟨wd, l, am⟩ := r
      have ht2 : H2 t = some (.tup [.str (wdS wd), .ref b, .int am]) := f02 _ _ (fun z => z) nst_tup ht
      have hb2 : H2 b = some (.lst (l.map V.int)) := fr_ints f02 (fun z => z) hb
      have hlr2 : H2 lr = some (.lst xs) := fr_lst rowG f02 (fun z => z) hp hlr
      refine ⟨_, rfl, _, rfl, lr, xs, _, _, rfl, rfl, SqL.of hlr2, at_of (j := n) rfl hx, t, _, rfl, SqT.of ht2, rfl, _, _, rfl, _, _, rfl, _, _, rfl, rfl, ?_⟩
      have hl9 : l.length ≤ 9 := hr9'
      have fin : ∀ (wd : Bool) (l : List Int) (am : Int) (b : Addr) (y7 y8 y9 : Option V) (H' : Hp), Fr0 H H' → StAt H' a → IntsAt H' b l → l.length ≤ 1000 →
          tOp rCat (tOp rCat (tSl (rSlL K) (tVar 1) tNoPart (tPart (tVar 3))) (tLst (tCons (tTup (tCons (tVar 4) (tCons (tVar 5) (tCons (tVar 6) tNil)))) tNil))) (tSl (rSlL K) (tVar 1) (tPart (tOp rAdd (tVar 3) (tC (.int 1)))) tNoPart)
            [some (.ref a), some (.ref lr), some (.ref w), some (.int (n : Nat)), some (.str (wdS wd)), some (.ref b), some (.int am), y7, y8, y9] H' Q := by
        intro wd l am b y7 y8 y9 H' f' st' hb' hl'
        have hlr' : H' lr = some (.lst xs) := fr_lst rowG f' (fun z => z) hp hlr
        have hp' := Paired.mapP hp fun x y g => rowG.mono _ _ _ _ f'.kq g
        refine ⟨_, rfl, _, rfl, _, rfl, lr, xs, rfl, SqL.of hlr', fun p1 n1 => ?_⟩
        rw [cut_take]
        have sa : Same H' (upd H' p1 (.lst (xs.take n))) := same_new n1
        have e1 : (upd H' p1 (.lst (xs.take n))) p1 = some (.lst (xs.take n)) := upd_same
        generalize upd H' p1 (.lst (xs.take n)) = Ha at sa e1
        refine ⟨_, rfl, _, rfl, _, rfl, small_sz (by show 3 ≤ 1000000; decide), fun t' nt' => ⟨small_sz (by show 1 ≤ 1000000; decide), fun p2 n2 => ?_⟩⟩
        have sb : Same Ha (upd (upd Ha t' (.tup [.str (wdS wd), .ref b, .int am])) p2 (.lst [.ref t'])) := (same_new nt').trans (same_new n2)
        have et : (upd (upd Ha t' (.tup [.str (wdS wd), .ref b, .int am])) p2 (.lst [.ref t'])) t' = some (.tup [.str (wdS wd), .ref b, .int am]) := same_new n2 _ _ upd_same
        have e2 : (upd (upd Ha t' (.tup [.str (wdS wd), .ref b, .int am])) p2 (.lst [.ref t'])) p2 = some (.lst [.ref t']) := upd_same
        generalize upd (upd Ha t' (.tup [.str (wdS wd), .ref b, .int am])) p2 (.lst [.ref t']) = Hb at sb et e2
        refine ⟨p1, p2, _, _, rfl, rfl, sb _ _ e1, e2, small_sz (by rw [List.length_take]; show _ + 1 ≤ _; omega), fun p3 n3 => ?_⟩
        have sc : Same Hb (upd Hb p3 (.lst (xs.take n ++ [.ref t']))) := same_new n3
        have e3 : (upd Hb p3 (.lst (xs.take n ++ [.ref t']))) p3 = some (.lst (xs.take n ++ [.ref t'])) := upd_same
        generalize upd Hb p3 (.lst (xs.take n ++ [.ref t'])) = Hc at sc e3
        have sac := sa.trans (sb.trans sc)
        refine ⟨_, rfl, _, rfl, _, _, rfl, rfl, _, rfl, lr, xs, rfl, SqL.of (sac _ _ hlr'), fun p4 n4 => ?_⟩
        have ec : cutV xs (some ((n : Int) + 1)) none = xs.drop (n + 1) := cut_drop xs (n + 1)
        rw [ec]
        have sd : Same Hc (upd Hc p4 (.lst (xs.drop (n + 1)))) := same_new n4
        have e4 : (upd Hc p4 (.lst (xs.drop (n + 1)))) p4 = some (.lst (xs.drop (n + 1))) := upd_same
        generalize upd Hc p4 (.lst (xs.drop (n + 1))) = Hd at sd e4
        refine ⟨p3, p4, _, _, rfl, rfl, sd _ _ e3, e4, small_sz (by rw [List.length_append, List.length_take, List.length_drop]; show _ + 1 + _ ≤ _; omega), fun p5 n5 => ?_⟩
        have se : Same Hd (upd Hd p5 (.lst (xs.take n ++ [.ref t'] ++ xs.drop (n + 1)))) := same_new n5
        have e5 : (upd Hd p5 (.lst (xs.take n ++ [.ref t'] ++ xs.drop (n + 1)))) p5 = some (.lst (xs.take n ++ [.ref t'] ++ xs.drop (n + 1))) := upd_same
        generalize upd Hd p5 (.lst (xs.take n ++ [.ref t'] ++ xs.drop (n + 1))) = He at se e5
        have sce := sc.trans (sd.trans se)
        have sae := sa.trans (sb.trans sce)
        have hpe := Paired.mapP hp' fun x y g => rowG.mono _ _ _ _ sae.kq g
        have hnew : RowG He (.ref t') ⟨wd, l, am⟩ := ⟨t', b, rfl, sce _ _ et, sae _ _ hb'⟩
        refine k p5 (rs.take n ++ [⟨wd, l, am⟩] ++ rs.drop (n + 1)) He (f'.trans (Same.fr sae)) (sae.st st') ⟨_, e5, paired_append (paired_append (paired_take n hpe) (.cons hnew .nil)) (paired_drop (n + 1) hpe)⟩ ⟨?_, fun r hr => ?_⟩
        · rw [List.length_append, List.length_append, List.length_take, List.length_drop]
          show _ + 1 + _ ≤ _
          omega
        · rcases List.mem_append.mp hr with h | h
          · rcases List.mem_append.mp h with h | h
            · exact Nat.le_trans (hr9 r (List.mem_of_mem_take h)) (by decide)
            · rw [List.mem_singleton.mp h]
              exact hl'
          · exact Nat.le_trans (hr9 r (List.mem_of_mem_drop h)) (by decide)
      refine ⟨_, rfl, a, 5, rfl, st2, by decide, by decide, fun way H3 w0 w1 f3 st3 => ?_⟩
      have f03 := f02.trans f3
      have hb3 : H3 b = some (.lst (l.map V.int)) := fr_ints f3 (fun z => z) hb2
      have hway : way = 0 ∨ way = 1 ∨ way = 2 ∨ way = 3 ∨ way = 4 := by omega
      have dT : ∀ n : Int, decide (V.int n = V.int n) = true := fun n => decide_eq_true rfl
      have dF : ∀ n m : Int, n ≠ m → decide (V.int n = V.int m) = false := fun n m e => decide_eq_false fun z => e (V.int.inj z)
      rcases hway with rfl | rfl | rfl | rfl | rfl
      · refine ⟨_, rfl, rfl, _, rfl, ifT (dT 0) ?_⟩
        refine ⟨small_sz (by show 2 ≤ 1000000; decide), fun m nm => ?_⟩
        have sm : Same H3 (upd H3 m (.lst [.str "ring", .str "all"])) := same_new nm
        have hm : (upd H3 m (.lst [.str "ring", .str "all"])) m = some (.lst [.str "ring", .str "all"]) := upd_same
        generalize upd H3 m (.lst [.str "ring", .str "all"]) = H4 at sm hm
        cases wd with
        | true =>
          refine ⟨_, rfl, rfl, .inr ⟨_, rfl, m, _, 0, .str "ring", rfl, rfl, SqL.of hm, rfl, ?_⟩⟩
          exact ⟨_, rfl, rfl, _, rfl, ifF (dF _ _ (by decide)) ⟨_, rfl, rfl, _, rfl, ifF (dF _ _ (by decide)) ⟨_, rfl, rfl, _, rfl, ifF (dF _ _ (by decide)) (fin false l am b _ _ _ H4 (f03.trans (Same.fr sm)) (sm.st st3) (sm _ _ hb3) (by omega))⟩⟩⟩
        | false =>
          refine ⟨_, rfl, rfl, .inr ⟨_, rfl, m, _, 1, .str "all", rfl, rfl, SqL.of hm, rfl, ?_⟩⟩
          exact ⟨_, rfl, rfl, _, rfl, ifF (dF _ _ (by decide)) ⟨_, rfl, rfl, _, rfl, ifF (dF _ _ (by decide)) ⟨_, rfl, rfl, _, rfl, ifF (dF _ _ (by decide)) (fin true l am b _ _ _ H4 (f03.trans (Same.fr sm)) (sm.st st3) (sm _ _ hb3) (by omega))⟩⟩⟩
      · refine ⟨_, rfl, rfl, _, rfl, ifF (dF _ _ (by decide)) ⟨_, rfl, rfl, _, rfl, ifT (dT 1) ?_⟩⟩
        refine ⟨_, rfl, _, rfl, b, _, rfl, SqL.of hb3, fun m nm => ?_⟩
        have ec : cutV (l.map V.int) (some 1) none = (l.drop 1).map V.int := by rw [List.map_drop]; exact cut_drop _ 1
        rw [ec]
        have sm : Same H3 (upd H3 m (.lst ((l.drop 1).map V.int))) := same_new nm
        have hm : (upd H3 m (.lst ((l.drop 1).map V.int))) m = some (.lst ((l.drop 1).map V.int)) := upd_same
        generalize upd H3 m (.lst ((l.drop 1).map V.int)) = H4 at sm hm
        exact ⟨_, rfl, rfl, _, rfl, ifF (dF _ _ (by decide)) ⟨_, rfl, rfl, _, rfl, ifF (dF _ _ (by decide)) (fin wd (l.drop 1) am m _ _ _ H4 (f03.trans (Same.fr sm)) (sm.st st3) hm (by rw [List.length_drop]; omega))⟩⟩
      · refine ⟨_, rfl, rfl, _, rfl, ifF (dF _ _ (by decide)) ⟨_, rfl, rfl, _, rfl, ifF (dF _ _ (by decide)) ⟨_, rfl, rfl, _, rfl, ifT (dT 2) ?_⟩⟩⟩
        have hw3 : H3 w = some (.tup [.ref pa, .ref tb]) := f03 _ _ (fun z => z) nst_tup hw0
        have hpa3 : H3 pa = some (.lst zs) := fr_lst pairG f03 (fun z => z) hzp hpa
        refine ⟨_, rfl, _, rfl, w, _, 0, _, rfl, rfl, SqT.of hw3, rfl, _, rfl, _, rfl, w, _, 0, _, rfl, rfl, SqT.of hw3, rfl, pa, _, rfl, .inl (SqL.of hpa3), a, _, rfl, st3, by omega, by omega, fun v H4 v0 v1 f4 st4 => ?_⟩
        obtain ⟨j, rfl⟩ := Int.eq_ofNat_of_zero_le v0
        have f04 := f03.trans f4
        have hpa4 : H4 pa = some (.lst zs) := fr_lst pairG f04 (fun z => z) hzp hpa
        have hzp4 := Paired.mapP hzp fun x y g => pairG.mono _ _ _ _ f04.kq g
        have hj : j < ps.length := by omega
        obtain ⟨p, hpj⟩ : ∃ p, ps[j]? = some p := ⟨_, List.getElem?_eq_getElem hj⟩
        obtain ⟨x, hx', t', rfl, ht'⟩ := paired_at hzp4 hpj
        have hb4 : H4 b = some (.lst (l.map V.int)) := fr_ints f4 (fun z => z) hb3
        refine ⟨pa, zs, _, _, rfl, rfl, SqL.of hpa4, at_of (j := j) rfl hx', t', _, 0, _, rfl, rfl, SqT.of ht', rfl, small_sz (by show 1 ≤ 1000000; decide), fun m nm => ?_⟩
        have sm : Same H4 (upd H4 m (.lst [.int p.1])) := same_new nm
        have hm : (upd H4 m (.lst [.int p.1])) m = some (.lst [.int p.1]) := upd_same
        generalize upd H4 m (.lst [.int p.1]) = H5 at sm hm
        refine ⟨b, m, _, _, rfl, rfl, sm _ _ hb4, hm, small_sz (by rw [List.length_map]; show _ + 1 ≤ _; omega), fun c nc => ?_⟩
        have e : l.map V.int ++ [.int p.1] = (l ++ [p.1]).map V.int := by rw [List.map_append]; rfl
        rw [e]
        have sc : Same H5 (upd H5 c (.lst ((l ++ [p.1]).map V.int))) := same_new nc
        have hc : (upd H5 c (.lst ((l ++ [p.1]).map V.int))) c = some (.lst ((l ++ [p.1]).map V.int)) := upd_same
        generalize upd H5 c (.lst ((l ++ [p.1]).map V.int)) = H6 at sc hc
        have s46 := sm.trans sc
        exact ⟨_, rfl, rfl, _, rfl, ifF (dF _ _ (by decide)) (fin wd (l ++ [p.1]) am c _ _ _ H6 (f04.trans (Same.fr s46)) (s46.st st4) hc (by rw [List.length_append]; show _ + 1 ≤ _; omega))⟩
      · refine ⟨_, rfl, rfl, _, rfl, ifF (dF _ _ (by decide)) ⟨_, rfl, rfl, _, rfl, ifF (dF _ _ (by decide)) ⟨_, rfl, rfl, _, rfl, ifF (dF _ _ (by decide)) ⟨_, rfl, rfl, _, rfl, ifT (dT 3) ?_⟩⟩⟩⟩
        have m2 : ∀ g ∈ ([1, 9, 10 ^ (9 : Int).toNat] : List Int), 1 ≤ g ∧ g ≤ 1000000000 := by decide
        refine ⟨_, rfl, _, _, rfl, rfl, _, rfl, _, _, rfl, rfl, ⟨by decide, by decide, by decide⟩, small_sz (by show 3 ≤ 1000000; decide), fun m nm => ?_⟩
        have sm : Same H3 (upd H3 m (.lst (([1, 9, 10 ^ (9 : Int).toNat] : List Int).map V.int))) := same_new nm
        have hm : (upd H3 m (.lst (([1, 9, 10 ^ (9 : Int).toNat] : List Int).map V.int))) m = some (.lst (([1, 9, 10 ^ (9 : Int).toNat] : List Int).map V.int)) := upd_same
        refine ⟨_, rfl, a, 3, rfl, sm.st st3, by decide, by decide, fun u H4 u0 u1 f4 st4 => ?_⟩
        obtain ⟨g, hg, hgm⟩ := at_menu [1, 9, 10 ^ (9 : Int).toNat] u0 u1
        obtain ⟨g1, g2⟩ := m2 g hgm
        have hm4 := fr_ints f4 (fun z => z) hm
        refine ⟨m, _, u, .int g, rfl, rfl, SqL.of hm4, hg, a, g, rfl, st4, g1, by omega, fun v H5 v0 v1 f5 st5 => ?_⟩
        have f45 : Fr0 H3 H5 := (Same.fr sm).trans (f4.trans f5)
        exact ⟨_, _, rfl, rfl, fin wd l _ b _ _ _ H5 (f03.trans f45) st5 (fr_ints f45 (fun z => z) hb3) (by omega)⟩
      · exact ⟨_, rfl, rfl, _, rfl, ifF (dF _ _ (by decide)) ⟨_, rfl, rfl, _, rfl, ifF (dF _ _ (by decide)) ⟨_, rfl, rfl, _, rfl, ifF (dF _ _ (by decide)) ⟨_, rfl, rfl, _, rfl, ifF (dF _ _ (by decide)) (fin wd l am b _ _ _ H3 f03 st3 hb3 (by omega))⟩⟩⟩⟩
end
end TA
namespace TA
open PySem PySem.Spec PyProof.Rows L2
theorem sq_fr {K : PySem.W.Frag} {H H' : Hp} {a : Addr} {ns : List Int} (f : Fr0 H H') (h : SqL K H a (ns.map V.int)) : SqL K H' a (ns.map V.int) := by
  rcases h with (h | ⟨o, h⟩) | h
  · exact .inl (.inl (f _ _ (fun z => z) nst_ints h))
  · exact .inl (.inr ⟨o, f _ _ (fun z => z) (fun _ _ _ z => by cases z) h⟩)
  · exact .inr h
section
variable {P : Program} {w : World} {K : PySem.W.Frag} {mg : Str → Option Value} {base : Heap}
/- law: slots 0:_law_script 1:_law_k 2:_law_state 3:_law_web_here 4:_law_sets_here 5:_law_turn 6:_law_rows_here; calls _law_begun _law_web _law_touching _law_take _law_rows _law_holds _law_let_by _law_loose -/
abbrev slaw : Stmt := topS 51
abbrev nlaw : List Str := ["_law_script", "_law_k", "_law_state", "_law_web_here", "_law_sets_here", "_law_turn", "_law_rows_here"]
theorem sclaw : FnScope nlaw ["_law_script"] (defScope slaw) := ⟨rfl, rfl, rfl, by decide +kernel, rfl, by decide +kernel, by decide +kernel⟩
def spLaw (K : PySem.W.Frag) : Sp := fun vs H Q _ => ∃ (a : Addr) (ns : List Int), vs = [.ref a] ∧ SqL K H a (ns.map V.int) ∧ ns.length ≤ 63 ∧ ∀ H', Q (.bl true) H'
theorem oklaw (G : Glb mg) (S : Std K mg "law" slaw ["_law_script"]) (Cl_begun : Cal P w K mg base CX0 1 "_law_begun" ["_law_script", "_law_k"] (spl_begun K)) (Cl_web : Cal P w K mg base CX0 3 "_law_web" ["_law_state", "_law_most"] spl_web)
    (Cl_touching : Cal P w K mg base CX0 2 "_law_touching" ["_law_web_here"] spl_touching) (Cl_take : Cal P w K mg base CX0 1 "_law_take" ["_law_state", "_law_many"] spl_take) (Cl_rows : Cal P w K mg base CX0 4 "_law_rows" ["_law_state", "_law_web_here", "_law_most"] spl_rows)
    (Cl_let_by : Cal P w K mg base CX0 9 "_law_let_by" ["_law_web_here", "_law_rows_here"] spl_let_by) (Cl_holds : Cal P w K mg base CX0 10 "_law_holds" ["_law_web_here", "_law_rows_here", "_law_sets_here"] spl_holds)
    (Cl_loose : Cal P w K mg base CX0 2 "_law_loose" ["_law_state", "_law_rows_here", "_law_web_here"] spl_loose) :
    ∀ f fd, Fun K "law" "law" slaw f fd → FnOk P w K mg base CX0 11 f fd ["_law_script"] (spLaw K) := fun f fd F => by
  refine F.ok sclaw (fun vs H Q E h => ?_) (fun cdv A outer s H vs Q E hr h => ?_)
  · obtain ⟨a, ns, rfl, _⟩ := h
    rfl
  · obtain ⟨a, ns, rfl, hS, hns, k⟩ := h
    refine ⟨_, (pss_cons (ps_for PassesOwn.never rfl (pi_range1 (by rfl) G.range (pa_cons (pe_callB (call_max2 rfl) (by rfl) G.max (by decide +kernel) (pa_cons pe_int (pa_cons (pe_callB (call_min2 rfl) (by rfl) G.min (by decide +kernel) (pa_cons (pe_callB call_len_seq (by rfl) G.len (by decide +kernel) (pa_cons (pv 0) pa_nil)) (pa_cons pe_int pa_nil))) pa_nil))) pa_nil)) (pg_name (i := 1) sclaw.nd rfl (Or.inl rfl)) (pss_cons (ps_set (i := 2) sclaw.nd rfl (Or.inl rfl) (pe_cal Cl_begun (hr.mono (by decide)) (by rfl) pass0 (pa_cons (pv 0) (pa_cons (pv 1) pa_nil))))
      (pss_cons (ps_set (i := 3) sclaw.nd rfl (Or.inl rfl) (pe_cal Cl_web (hr.mono (by decide)) (by rfl) pass0 (pa_cons (pv 2) (pa_cons pe_int pa_nil))))
      (pss_cons (ps_set (i := 4) sclaw.nd rfl (Or.inl rfl) (pe_cal Cl_touching (hr.mono (by decide)) (by rfl) pass0 (pa_cons (pv 3) pa_nil)))
      (pss_one (ps_for PassesOwn.never rfl (pi_range1 (by rfl) G.range (pa_cons (pe_op op_add pe_int (pe_cal Cl_take (hr.mono (by decide)) (by rfl) pass0 (pa_cons (pv 2) (pa_cons pe_int pa_nil)))) pa_nil)) (pg_name (i := 5) sclaw.nd rfl (Or.inl rfl)) (pss_cons (ps_set (i := 6) sclaw.nd rfl (Or.inl rfl) (pe_cal Cl_rows (hr.mono (by decide)) (by rfl) pass0 (pa_cons (pv 2) (pa_cons (pv 3) (pa_cons pe_int pa_nil)))))
      (pss_cons (ps_if (PW.pt (pw_or (pt_cmpR op_isN (pe_cal Cl_let_by (hr.mono (by decide)) (by rfl) pass0 (pa_cons (pv 3) (pa_cons (pv 6) pa_nil))) pe_non (nomark _)) (pw_or1 (pt_not (pt_val (pe_cal Cl_holds (hr.mono (by decide)) (by rfl) pass0 (pa_cons (pv 3) (pa_cons (pv 6) (pa_cons (pv 4) pa_nil))))))))) (pss_one (ps_ret pe_bl)) pss_nil)
      (pss_one (ps_if (pt_not (pt_val (pe_cal Cl_holds (hr.mono (by decide)) (by rfl) pass0 (pa_cons (pv 3) (pa_cons (pe_cal Cl_loose (hr.mono (by decide)) (by rfl) pass0 (pa_cons (pv 2) (pa_cons (pv 6) (pa_cons (pv 3) pa_nil)))) (pa_cons (pv 4) pa_nil)))))) (pss_one (ps_ret pe_bl)) pss_nil))))))))))
      (pss_one (ps_ret pe_bl))), ?_⟩
    refine ⟨_, rfl, a, _, rfl, .inl hS, _, _, rfl, _, _, rfl, ?_⟩
    rw [List.length_map]
    obtain ⟨N, eN, hN0, hN6⟩ : ∃ N : Int, (if (if (6 : Int) < (ns.length : Int) then 6 else (ns.length : Int)) > 1 then (if (6 : Int) < (ns.length : Int) then 6 else (ns.length : Int)) else 1) = N ∧ 0 ≤ N ∧ N ≤ 6 := ⟨_, rfl, by (repeat' split) <;> omega, by (repeat' split) <;> omega⟩
    rw [eN]
    refine ⟨N, rfl, by omega, by omega, for_range (lo := 0) (n := N.toNat) (fun i σ H' => ∃ y1 y2 y3 y4 y5 y6 : Option V, σ = [some (.ref a), y1, y2, y3, y4, y5, y6] ∧ Fr0 H H') ⟨none, none, none, none, none, none, rfl, Fr.refl H⟩ ?_ ?_⟩
    · rintro i σ H1 hi ⟨y1, y2, y3, y4, y5, y6, rfl, f1⟩
      refine ⟨_, rfl, _, rfl, a, ns, i, by rw [Int.zero_add]; rfl, sq_fr f1 hS, fun st H2 s2 _ st2 => ?_⟩
      refine ⟨_, rfl, st, rfl, st2, fun w ps ts H3 f3 st3 hw ok => ?_⟩
      refine ⟨_, rfl, w, ps, ts, rfl, hw, ok, fun b sets H4 s4 hsets hall => ?_⟩
      have f4 : Fr0 H H4 := f1.trans ((Same.fr s2).trans (f3.trans (Same.fr s4)))
      have hw4 := hw.mono s4.kq
      refine ⟨_, rfl, st, 8, rfl, s4.st st3, by decide, by decide, fun v H5 v0 v1 f5 st5 => ?_⟩
      have f05 := f4.trans f5
      refine ⟨_, _, rfl, rfl, 1 + v, rfl, by omega, by omega, for_range (lo := 0) (n := (1 + v).toNat) (fun j σ H' => ∃ y5 y6 : Option V, σ = [some (.ref a), some (.int (0 + (i : Int))), some (.ref st), some (.ref w), some (.ref b), y5, y6] ∧ Fr0 H H' ∧ Fr0 H4 H' ∧ StAt H' st) ⟨_, _, rfl, f05, f5, st5⟩ ?_ ?_⟩
      · rintro j σ H6 hj ⟨y5, y6, rfl, f6, g6, st6⟩
        refine ⟨_, rfl, _, rfl, st, w, ps, ts, rfl, st6, hw4.mono g6.kq, ok, fun l rs H7 f7 st7 hrs hr7 hv hr9 hne => ?_⟩
        have g7 : Fr0 H4 H7 := g6.trans f7
        have hsm : Small rs := ⟨by omega, fun r hr => Nat.le_trans (hr9 r hr) (by decide)⟩
        refine ⟨_, rfl, _, rfl, w, l, ps, ts, rs, rfl, hw4.mono g7.kq, ok, hrs, hsm, fun _ H8 s8 => ?_, fun z => absurd hv z⟩
        refine ⟨rfl, _, rfl, ifF (decide_eq_false (fun z => by cases z)) ?_⟩
        have g8 : Fr0 H4 H8 := g7.trans (Same.fr s8)
        have hrs8 := ListOf.mono rowG s8.kq hrs
        refine ⟨_, rfl, _, rfl, _, rfl, w, l, b, ps, ts, rs, sets, rfl, hw4.mono g8.kq, ok, hrs8, hsm, ListOf.mono setG g8.kq hsets, hall, fun H9 s9 => ?_⟩
        have g9 : Fr0 H4 H9 := g8.trans (Same.fr s9)
        have s89 := s8.trans s9
        have hrs9 := ListOf.mono rowG s9.kq hrs8
        refine ⟨true, rfl, ?_⟩
        refine ⟨_, rfl, _, rfl, _, rfl, _, rfl, st, l, w, ps, ts, rs, rfl, s89.st st7, hrs9, hr7, hr9, hw4.mono g9.kq, ok, hne, fun l2 rs2 H10 f10 st10 hrs2 hsm2 => ?_⟩
        have g10 : Fr0 H4 H10 := g9.trans f10
        refine ⟨_, rfl, w, l2, b, ps, ts, rs2, sets, rfl, hw4.mono g10.kq, ok, hrs2, hsm2, ListOf.mono setG g10.kq hsets, hall, fun H11 s11 => ?_⟩
        refine ⟨true, rfl, ?_⟩
        exact ⟨_, _, rfl, f4.trans (g10.trans (Same.fr s11)), g10.trans (Same.fr s11), s11.st st10⟩
      · rintro σ H6 ⟨y5, y6, rfl, f6, g6, st6⟩
        exact ⟨_, _, _, _, _, _, rfl, f6⟩
    · rintro σ H1 ⟨y1, y2, y3, y4, y5, y6, rfl, f1⟩
      exact k H1
end
end TA
namespace TA
open PySem PySem.Spec PyProof.Rows L2
/-! ### what the top has left -/
def BindF (x q : Str) (st : Stmt) (ps : List Str) : Prop := ∀ (kV doc pm : Value) (an : Option Addr) (cdv ct : Value) (us : List Value), us.length = ps.length → bindArgs (PySem.W.fnOf x q (defArgs st) (defBody st) (defScope st) .none kV doc pm an cdv ct) ⟨us, []⟩ = pure (ps.zip us)
theorem std_mk {K : PySem.W.Frag} {h : Heap} {mg : Str → Option Value} {x : Str} {st : Stmt} {ps : List Str} {f : Addr} {oc : Value} {od an : Option Addr} {osl : Array (Option Value)} {kV doc pm cdv ct : Value} (X : K.In h) (G : h.Ns mainGlobals mg) (b : BindF x x st ps)
    (a : PySem.W.nsIn K mainGlobals x = some (some (.ref f))) (l : K.lookup f = some ⟨oc, od, .func (PySem.W.fnOf x x (defArgs st) (defBody st) (defScope st) .none kV doc pm an cdv ct), osl⟩) (c : PySem.W.codeIn K cdv x = true) (k : PySem.W.keepIn K (.ref f) = true) : Std K mg x st ps :=
  ⟨f, _, fun_mk l c k, PySem.W.mg_of X G a, (fun_mk l c k).binds b⟩
theorem c_mk {K : PySem.W.Frag} {h : Heap} {mg : Str → Option Value} {n : Str} {i : Int} {v : Value} (X : K.In h) (G : h.Ns mainGlobals mg) (a : PySem.W.nsIn K mainGlobals n = some (some v)) (e : ∃ t, v = .int i t) : ∃ t, mg n = some (.int i t) := by
  obtain ⟨t, e⟩ := e
  exact ⟨t, e ▸ PySem.W.mg_of X G a⟩
theorem exm_of2 {K : PySem.W.Frag} {S T : Addr} {b : Bool} (h1 : PySem.W.subIn K (.ref S) (.type "BaseException") = some true) (h2 : PySem.W.isClsIn K S = true) (h3 : PySem.W.typeIn K (.ref S) = some (.type "type")) (h4 : PySem.W.subIn K (.ref T) (.ref S) = some b) :
    PySem.W.exmOne K (.ref T) (.ref S) = some b := by
  have e1 : (PySem.W.subIn K (.ref S) (.type "BaseException") == some true) = true := by rw [h1] <;> rfl
  have e2 : ((PySem.W.clsIn K S).isSome && PySem.W.typeIn K (.ref S) == some (.type "type")) = true := by
    have h2' : (PySem.W.clsIn K S).isSome = true := h2
    rw [h2', h3] <;> rfl
  show (if (PySem.W.subIn K (.ref S) (.type "BaseException") == some true) = true then (if ((PySem.W.clsIn K S).isSome && PySem.W.typeIn K (.ref S) == some (.type "type")) = true then PySem.W.subIn K (.ref T) (.ref S) else none) else none) = some b
  rw [if_pos e1, if_pos e2]
  exact h4
theorem exm_any2 {K : PySem.W.Frag} {T S1 S2 : Addr} {b1 b2 : Bool} (h1 : PySem.W.exmOne K (.ref T) (.ref S1) = some b1) (h2 : PySem.W.exmOne K (.ref T) (.ref S2) = some b2) (h : (b1 || b2) = true) : PySem.W.exmAny K (.ref T) [.ref S1, .ref S2] = some true := by
  simp only [PySem.W.exmAny, h1, h2]
  cases b1 with
  | true => rfl
  | false =>
    cases b2 with
    | true => rfl
    | false => cases h
theorem exc_mk {K : PySem.W.Frag} {h : Heap} {mg : Str → Option Value} {x q f : Str} {st : Stmt} {C fI : Addr} {oc : Value} {od an : Option Addr} {osl : Array (Option Value)} {kV doc pm cdv ct : Value} {nm qn : Str} {N : Addr} {bs bm : List Value} {sn : List Str} {sub : List Value} {ab : Bool} {col : Option Bool} {dd : Option Addr} {m0 m1 m2 m3 m5 : Option Value}
    (X : K.In h) (G : h.Ns mainGlobals mg) (b : BindF "__init__" q st ["self", f]) (aC : PySem.W.nsIn K mainGlobals x = some (some (.ref C)))
    (xL : K.lookup C = some (excClassObj nm qn C N bs bm true sn sub ab col dd m0 m1 m2 m3 m5 "ValueError.__new__")) (rv : PySem.HandSPX.refsVE bm = true) (sa : PySem.W.findIn K (.ref C) "__setattr__" = some (some (.builtin "object.__setattr__"))) (eC : PySem.W.subIn K (.ref C) (.type "BaseException") = some true)
    (tC : PySem.W.typeIn K (.ref C) = some (.type "type")) (kC : PySem.W.keepIn K (.ref C) = true) (a1 : PySem.W.findIn K (.ref C) "__init__" = some (some (.ref fI))) (t1 : PySem.W.typeIn K (.ref fI) = some (.type "function")) (nf : PySem.W.findIn K (.ref C) f = some none)
    (l1 : K.lookup fI = some ⟨oc, od, .func (PySem.W.fnOf "__init__" q (defArgs st) (defBody st) (defScope st) .none kV doc pm an cdv ct), osl⟩) (c1 : PySem.W.codeIn K cdv q = true) (k1 : PySem.W.keepIn K (.ref fI) = true) :
    Exc K mg x q f st C fI (PySem.W.fnOf "__init__" q (defArgs st) (defBody st) (defScope st) .none kV doc pm an cdv ct) :=
  ⟨⟨⟨nm, qn, N, bs, bm, sn, sub, ab, col, dd, m0, m1, m2, m3, m5, xL, rv⟩, sa, eC, tC, kC⟩, PySem.W.mg_of X G aC, a1, t1, nf, fun_mk l1 c1 k1, (fun_mk l1 c1 k1).binds b⟩
theorem hb_is_whole : BindF "is_whole" "is_whole" sis_whole ["thing"] := fun _ _ _ _ _ _ us hl => match us, hl with | [_], _ => rfl
theorem hb_is_pair : BindF "is_pair" "is_pair" sis_pair ["thing"] := fun _ _ _ _ _ _ us hl => match us, hl with | [_], _ => rfl
theorem hb_place_stands : BindF "place_stands" "place_stands" splace_stands ["thing", "last", "paid"] := fun _ _ _ _ _ _ us hl => match us, hl with | [_, _, _], _ => rfl
theorem hb_tie_stands : BindF "tie_stands" "tie_stands" stie_stands ["thing", "before", "known"] := fun _ _ _ _ _ _ us hl => match us, hl with | [_, _, _], _ => rfl
theorem hb_bad_place : BindF "bad_place" "bad_place" sbad_place ["things"] := fun _ _ _ _ _ _ us hl => match us, hl with | [_], _ => rfl
theorem hb_bad_tie : BindF "bad_tie" "bad_tie" sbad_tie ["things", "known"] := fun _ _ _ _ _ _ us hl => match us, hl with | [_, _], _ => rfl
theorem hb_look_at_web : BindF "look_at_web" "look_at_web" slook_at_web ["thing"] := fun _ _ _ _ _ _ us hl => match us, hl with | [_], _ => rfl
theorem hb_price_book : BindF "price_book" "price_book" sprice_book ["web"] := fun _ _ _ _ _ _ us hl => match us, hl with | [_], _ => rfl
theorem hb_l_near : BindF "_law_near" "_law_near" sl_near ["_law_web_here"] := fun _ _ _ _ _ _ us hl => match us, hl with | [_], _ => rfl
theorem hb_near_book : BindF "near_book" "near_book" snear_book ["web"] := fun _ _ _ _ _ _ us hl => match us, hl with | [_], _ => rfl
theorem hb_is_all : BindF "is_all" "is_all" sis_all ["book", "thing"] := fun _ _ _ _ _ _ us hl => match us, hl with | [_, _], _ => rfl
theorem hb_is_ring : BindF "is_ring" "is_ring" sis_ring ["book", "thing"] := fun _ _ _ _ _ _ us hl => match us, hl with | [_, _], _ => rfl
theorem hb_is_row : BindF "is_row" "is_row" sis_row ["book", "thing"] := fun _ _ _ _ _ _ us hl => match us, hl with | [_, _], _ => rfl
theorem hb_gives : BindF "gives" "gives" sgives ["row"] := fun _ _ _ _ _ _ us hl => match us, hl with | [_], _ => rfl
theorem hb_paid_by : BindF "paid_by" "paid_by" spaid_by ["rows"] := fun _ _ _ _ _ _ us hl => match us, hl with | [_], _ => rfl
theorem hb_look_at_rows : BindF "look_at_rows" "look_at_rows" slook_at_rows ["web", "thing"] := fun _ _ _ _ _ _ us hl => match us, hl with | [_, _], _ => rfl
theorem hb_worth_of : BindF "worth_of" "worth_of" sworth_of ["web", "rows"] := fun _ _ _ _ _ _ us hl => match us, hl with | [_, _], _ => rfl
theorem hb_bound_of : BindF "bound_of" "bound_of" sbound_of ["web", "rows"] := fun _ _ _ _ _ _ us hl => match us, hl with | [_, _], _ => rfl
theorem hb_is_set_in : BindF "is_set_in" "is_set_in" sis_set_in ["web", "thing"] := fun _ _ _ _ _ _ us hl => match us, hl with | [_, _], _ => rfl
theorem hb_need_set : BindF "need_set" "need_set" sneed_set ["web", "thing"] := fun _ _ _ _ _ _ us hl => match us, hl with | [_, _], _ => rfl
theorem hb_is_tight : BindF "is_tight" "is_tight" sis_tight ["web", "rows", "some"] := fun _ _ _ _ _ _ us hl => match us, hl with | [_, _, _], _ => rfl
theorem hb_l_cost : BindF "_law_cost" "_law_cost" sl_cost ["_law_web_here", "_law_some"] := fun _ _ _ _ _ _ us hl => match us, hl with | [_, _], _ => rfl
theorem hb_l_let_by : BindF "_law_let_by" "_law_let_by" sl_let_by ["_law_web_here", "_law_rows_here"] := fun _ _ _ _ _ _ us hl => match us, hl with | [_, _], _ => rfl
theorem hb_l_holds : BindF "_law_holds" "_law_holds" sl_holds ["_law_web_here", "_law_rows_here", "_law_sets_here"] := fun _ _ _ _ _ _ us hl => match us, hl with | [_, _, _], _ => rfl
theorem hb_l_begun : BindF "_law_begun" "_law_begun" sl_begun ["_law_script", "_law_k"] := fun _ _ _ _ _ _ us hl => match us, hl with | [_, _], _ => rfl
theorem hb_l_take : BindF "_law_take" "_law_take" sl_take ["_law_state", "_law_many"] := fun _ _ _ _ _ _ us hl => match us, hl with | [_, _], _ => rfl
theorem hb_l_places : BindF "_law_places" "_law_places" sl_places ["_law_state", "_law_count"] := fun _ _ _ _ _ _ us hl => match us, hl with | [_, _], _ => rfl
theorem hb_l_web : BindF "_law_web" "_law_web" sl_web ["_law_state", "_law_most"] := fun _ _ _ _ _ _ us hl => match us, hl with | [_, _], _ => rfl
theorem hb_l_sets : BindF "_law_sets" "_law_sets" sl_sets ["_law_places_here"] := fun _ _ _ _ _ _ us hl => match us, hl with | [_], _ => rfl
theorem hb_l_touching : BindF "_law_touching" "_law_touching" sl_touching ["_law_web_here"] := fun _ _ _ _ _ _ us hl => match us, hl with | [_], _ => rfl
theorem hb_l_all : BindF "_law_all" "_law_all" sl_all ["_law_state", "_law_book", "_law_places_here"] := fun _ _ _ _ _ _ us hl => match us, hl with | [_, _, _], _ => rfl
theorem hb_l_ring : BindF "_law_ring" "_law_ring" sl_ring ["_law_state", "_law_book", "_law_places_here"] := fun _ _ _ _ _ _ us hl => match us, hl with | [_, _, _], _ => rfl
theorem hb_l_row : BindF "_law_row" "_law_row" sl_row ["_law_state", "_law_web_here", "_law_book", "_law_paid"] := fun _ _ _ _ _ _ us hl => match us, hl with | [_, _, _, _], _ => rfl
theorem hb_l_rows : BindF "_law_rows" "_law_rows" sl_rows ["_law_state", "_law_web_here", "_law_most"] := fun _ _ _ _ _ _ us hl => match us, hl with | [_, _, _], _ => rfl
theorem hb_l_loose : BindF "_law_loose" "_law_loose" sl_loose ["_law_state", "_law_rows_here", "_law_web_here"] := fun _ _ _ _ _ _ us hl => match us, hl with | [_, _, _], _ => rfl
theorem hb_law : BindF "law" "law" slaw ["_law_script"] := fun _ _ _ _ _ _ us hl => match us, hl with | [_], _ => rfl
theorem hb_NoRows : BindF "__init__" "NoRows.__init__" (sinit 3) ["self", "number"] := fun _ _ _ _ _ _ us hl => match us, hl with | [_, _], _ => rfl
theorem hb_Overpaid : BindF "__init__" "Overpaid.__init__" (sinit 4) ["self", "place"] := fun _ _ _ _ _ _ us hl => match us, hl with | [_, _], _ => rfl
/-- the errors' classes -/
structure Errs (K : PySem.W.Frag) (mg : Str → Option Value) (C1 C2 f1 f2 : Addr) (fd1 fd2 : FuncData) : Prop where
  e1 : Exc K mg "NoRows" "NoRows.__init__" "number" (sinit 3) C1 f1 fd1
  e2 : Exc K mg "Overpaid" "Overpaid.__init__" "place" (sinit 4) C2 f2 fd2
  x1 : PySem.W.exmAny K (.ref C1) [.ref C1, .ref C2] = some true
  x2 : PySem.W.exmAny K (.ref C2) [.ref C1, .ref C2] = some true
structure Txt (K : PySem.W.Frag) (mg : Str → Option Value) : Prop where
  glb : Glb mg
  errs : ∃ C1 C2 f1 f2 fd1 fd2, Errs K mg C1 C2 f1 f2 fd1 fd2
  d_is_whole : Std K mg "is_whole" sis_whole ["thing"]
  d_is_pair : Std K mg "is_pair" sis_pair ["thing"]
  d_place_stands : Std K mg "place_stands" splace_stands ["thing", "last", "paid"]
  d_tie_stands : Std K mg "tie_stands" stie_stands ["thing", "before", "known"]
  d_bad_place : Std K mg "bad_place" sbad_place ["things"]
  d_bad_tie : Std K mg "bad_tie" sbad_tie ["things", "known"]
  d_look_at_web : Std K mg "look_at_web" slook_at_web ["thing"]
  d_price_book : Std K mg "price_book" sprice_book ["web"]
  d_l_near : Std K mg "_law_near" sl_near ["_law_web_here"]
  d_near_book : Std K mg "near_book" snear_book ["web"]
  d_is_all : Std K mg "is_all" sis_all ["book", "thing"]
  d_is_ring : Std K mg "is_ring" sis_ring ["book", "thing"]
  d_is_row : Std K mg "is_row" sis_row ["book", "thing"]
  d_gives : Std K mg "gives" sgives ["row"]
  d_paid_by : Std K mg "paid_by" spaid_by ["rows"]
  d_look_at_rows : Std K mg "look_at_rows" slook_at_rows ["web", "thing"]
  d_worth_of : Std K mg "worth_of" sworth_of ["web", "rows"]
  d_bound_of : Std K mg "bound_of" sbound_of ["web", "rows"]
  d_is_set_in : Std K mg "is_set_in" sis_set_in ["web", "thing"]
  d_need_set : Std K mg "need_set" sneed_set ["web", "thing"]
  d_is_tight : Std K mg "is_tight" sis_tight ["web", "rows", "some"]
  d_l_cost : Std K mg "_law_cost" sl_cost ["_law_web_here", "_law_some"]
  d_l_let_by : Std K mg "_law_let_by" sl_let_by ["_law_web_here", "_law_rows_here"]
  d_l_holds : Std K mg "_law_holds" sl_holds ["_law_web_here", "_law_rows_here", "_law_sets_here"]
  d_l_begun : Std K mg "_law_begun" sl_begun ["_law_script", "_law_k"]
  d_l_take : Std K mg "_law_take" sl_take ["_law_state", "_law_many"]
  d_l_places : Std K mg "_law_places" sl_places ["_law_state", "_law_count"]
  d_l_web : Std K mg "_law_web" sl_web ["_law_state", "_law_most"]
  d_l_sets : Std K mg "_law_sets" sl_sets ["_law_places_here"]
  d_l_touching : Std K mg "_law_touching" sl_touching ["_law_web_here"]
  d_l_all : Std K mg "_law_all" sl_all ["_law_state", "_law_book", "_law_places_here"]
  d_l_ring : Std K mg "_law_ring" sl_ring ["_law_state", "_law_book", "_law_places_here"]
  d_l_row : Std K mg "_law_row" sl_row ["_law_state", "_law_web_here", "_law_book", "_law_paid"]
  d_l_rows : Std K mg "_law_rows" sl_rows ["_law_state", "_law_web_here", "_law_most"]
  d_l_loose : Std K mg "_law_loose" sl_loose ["_law_state", "_law_rows_here", "_law_web_here"]
  d_law : Std K mg "law" slaw ["_law_script"]
/-- the law keeps its promise -/
theorem law_ok {P : Program} {w : World} {K : PySem.W.Frag} {mg : Str → Option Value} {base : Heap} (T : Txt K mg) : ∀ f fd, Fun K "law" "law" slaw f fd → FnOk P w K mg base CX0 11 f fd ["_law_script"] (spLaw K) := by
  obtain ⟨C1, C2, f1, f2, fd1, fd2, E⟩ := T.errs
  have c_is_whole := okis_whole (P := P) (w := w) (base := base) T.glb T.d_is_whole 
  have c_is_pair := okis_pair (P := P) (w := w) (base := base) T.glb T.d_is_pair c_is_whole
  have c_place_stands := okplace_stands (P := P) (w := w) (base := base) T.glb T.d_place_stands c_is_pair
  have c_tie_stands := oktie_stands (P := P) (w := w) (base := base) T.glb T.d_tie_stands c_is_pair
  have c_bad_place := okbad_place (P := P) (w := w) (base := base) T.glb T.d_bad_place c_place_stands
  have c_bad_tie := okbad_tie (P := P) (w := w) (base := base) T.glb T.d_bad_tie c_tie_stands
  have c_look_at_web := oklook_at_web (P := P) (w := w) (base := base) T.glb T.d_look_at_web c_bad_place c_bad_tie
  have c_price_book := okprice_book (P := P) (w := w) (base := base) T.glb T.d_price_book 
  have c_l_near := okl_near (P := P) (w := w) (base := base) T.glb T.d_l_near 
  have c_near_book := oknear_book (P := P) (w := w) (base := base) T.glb T.d_near_book 
  have c_is_all := okis_all (P := P) (w := w) (base := base) T.glb T.d_is_all 
  have c_is_ring := okis_ring (P := P) (w := w) (base := base) T.glb T.d_is_ring 
  have c_is_row := okis_row (P := P) (w := w) (base := base) T.glb T.d_is_row c_is_whole c_is_all c_is_ring
  have c_gives := okgives (P := P) (w := w) (base := base) T.glb T.d_gives 
  have c_paid_by := okpaid_by (P := P) (w := w) (base := base) T.glb T.d_paid_by 
  have c_look_at_rows := oklook_at_rows (P := P) (w := w) (base := base) T.glb T.d_look_at_rows E.e1 E.e2 c_look_at_web c_near_book c_is_row c_paid_by
  have c_worth_of := okworth_of (P := P) (w := w) (base := base) T.glb T.d_worth_of c_look_at_rows c_gives
  have c_bound_of := okbound_of (P := P) (w := w) (base := base) T.glb T.d_bound_of c_worth_of
  have c_is_set_in := okis_set_in (P := P) (w := w) (base := base) T.glb T.d_is_set_in c_price_book c_is_whole
  have c_need_set := okneed_set (P := P) (w := w) (base := base) T.glb T.d_need_set c_is_set_in
  have c_is_tight := okis_tight (P := P) (w := w) (base := base) T.glb T.d_is_tight c_look_at_rows c_gives c_need_set c_paid_by c_price_book
  have c_l_cost := okl_cost (P := P) (w := w) (base := base) T.glb T.d_l_cost 
  have c_l_let_by := okl_let_by (P := P) (w := w) (base := base) T.glb T.d_l_let_by E.e1.gC E.e2.gC E.x1 E.x2 c_bound_of
  have c_l_holds := okl_holds (P := P) (w := w) (base := base) T.glb T.d_l_holds c_l_let_by c_worth_of c_l_cost c_is_tight
  have c_l_begun := okl_begun (P := P) (w := w) (base := base) T.glb T.d_l_begun 
  have c_l_take := okl_take (P := P) (w := w) (base := base) T.glb T.d_l_take 
  have c_l_places := okl_places (P := P) (w := w) (base := base) T.glb T.d_l_places c_l_take
  have c_l_web := okl_web (P := P) (w := w) (base := base) T.glb T.d_l_web c_l_take c_l_places
  have c_l_sets := okl_sets (P := P) (w := w) (base := base) T.glb T.d_l_sets 
  have c_l_touching := okl_touching (P := P) (w := w) (base := base) T.glb T.d_l_touching c_l_sets
  obtain ⟨fA, fdA, FA, gA, bA⟩ := T.d_l_all.ex
  obtain ⟨fR, fdR, FR, gR, bR⟩ := T.d_l_ring.ex
  have c_l_row := okl_row (P := P) (w := w) (base := base) T.glb T.d_l_row c_l_take (okl_all T.glb T.d_l_all c_l_take fA fdA FA) (okl_ring T.glb T.d_l_ring c_l_take fR fdR FR) gA gR FA.kp FR.kp bA bR
  have c_l_rows := okl_rows (P := P) (w := w) (base := base) T.glb T.d_l_rows c_l_take c_l_near c_l_row
  have c_l_loose := okl_loose (P := P) (w := w) (base := base) T.glb T.d_l_loose c_l_take
  exact oklaw T.glb T.d_law c_l_begun c_l_web c_l_touching c_l_take c_l_rows c_l_let_by c_l_holds c_l_loose
theorem law_all {l : PySem.W.OpenLaw} {w : World} {K : PySem.W.Frag} {h : Heap} {mg : Str → Option Value} {fa : Addr} (hfa : mg "law" = some (.ref fa)) (T : Txt K mg) :
    ∃ fd : FuncData, (∀ (s : Shared) (v : Value), BindsTo s fd ⟨[v], []⟩ [("_law_script", v)]) ∧ ∀ base : Heap, K.In base → base.Ns mainGlobals mg → FnOk l.prog w K mg base CX0 11 fa fd ["_law_script"] (spLaw K) := by
  obtain ⟨f, fd, F, g, b⟩ := T.d_law.ex
  have e := hfa.symm.trans g
  cases e
  refine ⟨fd, fun s v => ?_, fun base _ _ => law_ok T fa fd F⟩
  obtain ⟨oc, od, kV, doc, pm, an, cdv, ct, osl, rfl, lk, hcd⟩ := F.ex
  exact .of_eq (hb_law kV doc pm an cdv ct [v] rfl)
theorem walk {l : PySem.W.OpenLaw} {q : Program} {loose : List Str} {XP : (Str → Option Value) → Heap → Prop} {YP : World → Heap → Prop} {d : DefRec} {K : Params → PySem.W.Frag} (hn : l.most = some 63) (hdf : d.params.defaults = [])
    (hY : ∀ (w : World) (h : Heap), YP w h → (K w.params).In h)
    (F : ∀ (w : World) (mg : Str → Option Value) (fa : Addr) (h : Heap), (K w.params).In h → h.Ns mainGlobals mg → mg d.name = some (.ref fa) →
      ∃ fd : FuncData, (∀ (s : Shared) (u : Value), BindsTo s fd ⟨[u], []⟩ [("_law_script", u)]) ∧ ∀ base : Heap, (K w.params).In base → base.Ns mainGlobals mg → FnOk l.prog w (K w.params) mg base CX0 11 fa fd ["_law_script"] (spLaw (K w.params))) :
    PySem.W.WalkO q loose XP YP l.row.toRowW d [] (fun f vs => PySem.call f vs) :=
  L2.walk_of (n := 63) (k := 11) (x := "_law_script") (CX := fun _ => CX0) (sp := fun w => spLaw (K w.params)) hn (by decide) hdf ⟨rfl, by decide, by decide⟩ hY F (fun _ _ a ns hl _ hS => ⟨a, ns, rfl, hS, hl, fun _ => rfl⟩) fun _ _ _ _ _ z => z
end TA
open PySem PySem.W PyProof.Rows
set_option maxRecDepth 100000 in
set_option maxHeartbeats 0 in
theorem PySem.Challenge.cw_touchall_k19_whole_none_costs_less_holds : PySem.Challenge.rw_touchall_k19_whole_none_costs_less.Holds := by
  w_on; o_law; k_head; (case hw => w_witness2)
  k_fill
  refine TA.walk (l := PySem.Challenge.rw_touchall_k19_whole_none_costs_less) rfl rfl (fun w h Y => PySem.W.kIn_of Y) ?F
  case F =>
    intro w mg fa h KX G hmg
    refine TA.law_all (h := h) hmg ?T
    refine' TA.Txt.mk ?glb ?errs ?d_is_whole ?d_is_pair ?d_place_stands ?d_tie_stands ?d_bad_place ?d_bad_tie ?d_look_at_web ?d_price_book ?d_l_near ?d_near_book ?d_is_all ?d_is_ring ?d_is_row ?d_gives ?d_paid_by ?d_look_at_rows ?d_worth_of ?d_bound_of ?d_is_set_in ?d_need_set ?d_is_tight ?d_l_cost ?d_l_let_by ?d_l_holds ?d_l_begun ?d_l_take ?d_l_places ?d_l_web ?d_l_sets ?d_l_touching ?d_l_all ?d_l_ring ?d_l_row ?d_l_rows ?d_l_loose ?d_law
    case glb =>
      refine' TA.Glb.mk (PySem.W.mg_none_of KX G ?n_len) (PySem.W.mg_none_of KX G ?n_sum) (PySem.W.mg_none_of KX G ?n_all) (PySem.W.mg_none_of KX G ?n_sorted) (PySem.W.mg_none_of KX G ?n_max) (PySem.W.mg_none_of KX G ?n_min) (PySem.W.mg_none_of KX G ?n_int) (PySem.W.mg_none_of KX G ?n_list) (PySem.W.mg_none_of KX G ?n_tuple) (PySem.W.mg_none_of KX G ?n_str) (PySem.W.mg_none_of KX G ?n_bool) (PySem.W.mg_none_of KX G ?n_isinstance) (PySem.W.mg_none_of KX G ?n_enumerate) (PySem.W.mg_none_of KX G ?n_range) (TA.c_mk KX G ?c_MOST_PLACES ?e_MOST_PLACES) (TA.c_mk KX G ?c_MOST_TIES ?e_MOST_TIES) (TA.c_mk KX G ?c_LAST_PLACE ?e_LAST_PLACE) (TA.c_mk KX G ?c_MOST_PRICES ?e_MOST_PRICES) (TA.c_mk KX G ?c_MOST_ROWS ?e_MOST_ROWS)
      (case n_len => k_is); (case n_sum => k_is); (case n_all => k_is); (case n_sorted => k_is); (case n_max => k_is); (case n_min => k_is); (case n_int => k_is); (case n_list => k_is); (case n_tuple => k_is); (case n_str => k_is); (case n_bool => k_is); (case n_isinstance => k_is); (case n_enumerate => k_is); (case n_range => k_is)
      (case c_MOST_PLACES => k_is); (case e_MOST_PLACES => exact ⟨_, rfl⟩); (case c_MOST_TIES => k_is); (case e_MOST_TIES => exact ⟨_, rfl⟩); (case c_LAST_PLACE => k_is); (case e_LAST_PLACE => exact ⟨_, rfl⟩); (case c_MOST_PRICES => k_is); (case e_MOST_PRICES => exact ⟨_, rfl⟩); (case c_MOST_ROWS => k_is); (case e_MOST_ROWS => exact ⟨_, rfl⟩)
    case errs =>
      refine' ⟨_, _, _, _, _, _, TA.exc_mk KX G TA.hb_NoRows ?paC ?pxL ?prv ?psa ?peC ?ptC ?pkC ?pa1 ?pt1 ?pnf ?pl1 ?pc1 ?pk1, TA.exc_mk KX G TA.hb_Overpaid ?qaC ?qxL ?qrv ?qsa ?qeC ?qtC ?qkC ?qa1 ?qt1 ?qnf ?ql1 ?qc1 ?qk1, TA.exm_any2 (TA.exm_of2 ?s1 ?s2 ?s3 ?s4) (TA.exm_of2 ?s5 ?s6 ?s7 ?s8) ?s9, TA.exm_any2 (TA.exm_of2 ?r1 ?r2 ?r3 ?r4) (TA.exm_of2 ?r5 ?r6 ?r7 ?r8) ?r9⟩
      (case paC => k_is); (case pxL => k_is); (case prv => decide +kernel); (case psa => k_is); (case peC => k_is); (case ptC => k_is); (case pkC => k_is); (case pa1 => k_is); (case pt1 => k_is); (case pnf => k_is); (case pl1 => k_is); (case pc1 => k_is); (case pk1 => k_is)
      (case qaC => k_is); (case qxL => k_is); (case qrv => decide +kernel); (case qsa => k_is); (case qeC => k_is); (case qtC => k_is); (case qkC => k_is); (case qa1 => k_is); (case qt1 => k_is); (case qnf => k_is); (case ql1 => k_is); (case qc1 => k_is); (case qk1 => k_is)
      (case s1 => first | rfl | k_is); (case s2 => first | rfl | k_is); (case s3 => first | rfl | k_is); (case s4 => first | rfl | k_is); (case s5 => first | rfl | k_is); (case s6 => first | rfl | k_is); (case s7 => first | rfl | k_is); (case s8 => first | rfl | k_is); (case s9 => first | rfl | k_is)
      (case r1 => first | rfl | k_is); (case r2 => first | rfl | k_is); (case r3 => first | rfl | k_is); (case r4 => first | rfl | k_is); (case r5 => first | rfl | k_is); (case r6 => first | rfl | k_is); (case r7 => first | rfl | k_is); (case r8 => first | rfl | k_is); (case r9 => first | rfl | k_is)
    case d_is_whole => (refine' TA.std_mk KX G TA.hb_is_whole ?a ?l ?c ?k; (case a => k_is); (case l => k_is); (case c => k_is); (case k => k_is))
    case d_is_pair => (refine' TA.std_mk KX G TA.hb_is_pair ?a ?l ?c ?k; (case a => k_is); (case l => k_is); (case c => k_is); (case k => k_is))
    case d_place_stands => (refine' TA.std_mk KX G TA.hb_place_stands ?a ?l ?c ?k; (case a => k_is); (case l => k_is); (case c => k_is); (case k => k_is))
    case d_tie_stands => (refine' TA.std_mk KX G TA.hb_tie_stands ?a ?l ?c ?k; (case a => k_is); (case l => k_is); (case c => k_is); (case k => k_is))
    case d_bad_place => (refine' TA.std_mk KX G TA.hb_bad_place ?a ?l ?c ?k; (case a => k_is); (case l => k_is); (case c => k_is); (case k => k_is))
    case d_bad_tie => (refine' TA.std_mk KX G TA.hb_bad_tie ?a ?l ?c ?k; (case a => k_is); (case l => k_is); (case c => k_is); (case k => k_is))
    case d_look_at_web => (refine' TA.std_mk KX G TA.hb_look_at_web ?a ?l ?c ?k; (case a => k_is); (case l => k_is); (case c => k_is); (case k => k_is))
    case d_price_book => (refine' TA.std_mk KX G TA.hb_price_book ?a ?l ?c ?k; (case a => k_is); (case l => k_is); (case c => k_is); (case k => k_is))
    case d_l_near => (refine' TA.std_mk KX G TA.hb_l_near ?a ?l ?c ?k; (case a => k_is); (case l => k_is); (case c => k_is); (case k => k_is))
    case d_near_book => (refine' TA.std_mk KX G TA.hb_near_book ?a ?l ?c ?k; (case a => k_is); (case l => k_is); (case c => k_is); (case k => k_is))
    case d_is_all => (refine' TA.std_mk KX G TA.hb_is_all ?a ?l ?c ?k; (case a => k_is); (case l => k_is); (case c => k_is); (case k => k_is))
    case d_is_ring => (refine' TA.std_mk KX G TA.hb_is_ring ?a ?l ?c ?k; (case a => k_is); (case l => k_is); (case c => k_is); (case k => k_is))
    case d_is_row => (refine' TA.std_mk KX G TA.hb_is_row ?a ?l ?c ?k; (case a => k_is); (case l => k_is); (case c => k_is); (case k => k_is))
    case d_gives => (refine' TA.std_mk KX G TA.hb_gives ?a ?l ?c ?k; (case a => k_is); (case l => k_is); (case c => k_is); (case k => k_is))
    case d_paid_by => (refine' TA.std_mk KX G TA.hb_paid_by ?a ?l ?c ?k; (case a => k_is); (case l => k_is); (case c => k_is); (case k => k_is))
    case d_look_at_rows => (refine' TA.std_mk KX G TA.hb_look_at_rows ?a ?l ?c ?k; (case a => k_is); (case l => k_is); (case c => k_is); (case k => k_is))
    case d_worth_of => (refine' TA.std_mk KX G TA.hb_worth_of ?a ?l ?c ?k; (case a => k_is); (case l => k_is); (case c => k_is); (case k => k_is))
    case d_bound_of => (refine' TA.std_mk KX G TA.hb_bound_of ?a ?l ?c ?k; (case a => k_is); (case l => k_is); (case c => k_is); (case k => k_is))
    case d_is_set_in => (refine' TA.std_mk KX G TA.hb_is_set_in ?a ?l ?c ?k; (case a => k_is); (case l => k_is); (case c => k_is); (case k => k_is))
    case d_need_set => (refine' TA.std_mk KX G TA.hb_need_set ?a ?l ?c ?k; (case a => k_is); (case l => k_is); (case c => k_is); (case k => k_is))
    case d_is_tight => (refine' TA.std_mk KX G TA.hb_is_tight ?a ?l ?c ?k; (case a => k_is); (case l => k_is); (case c => k_is); (case k => k_is))
    case d_l_cost => (refine' TA.std_mk KX G TA.hb_l_cost ?a ?l ?c ?k; (case a => k_is); (case l => k_is); (case c => k_is); (case k => k_is))
    case d_l_let_by => (refine' TA.std_mk KX G TA.hb_l_let_by ?a ?l ?c ?k; (case a => k_is); (case l => k_is); (case c => k_is); (case k => k_is))
    case d_l_holds => (refine' TA.std_mk KX G TA.hb_l_holds ?a ?l ?c ?k; (case a => k_is); (case l => k_is); (case c => k_is); (case k => k_is))
    case d_l_begun => (refine' TA.std_mk KX G TA.hb_l_begun ?a ?l ?c ?k; (case a => k_is); (case l => k_is); (case c => k_is); (case k => k_is))
    case d_l_take => (refine' TA.std_mk KX G TA.hb_l_take ?a ?l ?c ?k; (case a => k_is); (case l => k_is); (case c => k_is); (case k => k_is))
    case d_l_places => (refine' TA.std_mk KX G TA.hb_l_places ?a ?l ?c ?k; (case a => k_is); (case l => k_is); (case c => k_is); (case k => k_is))
    case d_l_web => (refine' TA.std_mk KX G TA.hb_l_web ?a ?l ?c ?k; (case a => k_is); (case l => k_is); (case c => k_is); (case k => k_is))
    case d_l_sets => (refine' TA.std_mk KX G TA.hb_l_sets ?a ?l ?c ?k; (case a => k_is); (case l => k_is); (case c => k_is); (case k => k_is))
    case d_l_touching => (refine' TA.std_mk KX G TA.hb_l_touching ?a ?l ?c ?k; (case a => k_is); (case l => k_is); (case c => k_is); (case k => k_is))
    case d_l_all => (refine' TA.std_mk KX G TA.hb_l_all ?a ?l ?c ?k; (case a => k_is); (case l => k_is); (case c => k_is); (case k => k_is))
    case d_l_ring => (refine' TA.std_mk KX G TA.hb_l_ring ?a ?l ?c ?k; (case a => k_is); (case l => k_is); (case c => k_is); (case k => k_is))
    case d_l_row => (refine' TA.std_mk KX G TA.hb_l_row ?a ?l ?c ?k; (case a => k_is); (case l => k_is); (case c => k_is); (case k => k_is))
    case d_l_rows => (refine' TA.std_mk KX G TA.hb_l_rows ?a ?l ?c ?k; (case a => k_is); (case l => k_is); (case c => k_is); (case k => k_is))
    case d_l_loose => (refine' TA.std_mk KX G TA.hb_l_loose ?a ?l ?c ?k; (case a => k_is); (case l => k_is); (case c => k_is); (case k => k_is))
    case d_law => (refine' TA.std_mk KX G TA.hb_law ?a ?l ?c ?k; (case a => k_is); (case l => k_is); (case c => k_is); (case k => k_is))

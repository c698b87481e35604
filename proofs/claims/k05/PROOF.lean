import PyProof.Rows.All
import Wide.All
import OpenK.AllK
import Wide.FinOn
import PyProof.EqAt
import PyProof.EqKinds
import PyProof.TupleCall
import HandS.ForMost
import HandS.SortInts
import HandS.Wide
import HandS.IsInst
import HandS.Evl
import HandS.EndBits
import HandS.CallRecv
import HandS.Conv
import HandS.Style
import HandS.SetFor
import HandS.Strs
import HandS.Hot
import HandS.HotCalls
import HandS.ExcCtx
import HandS.ExcIs
import HandS.WordsExc
import HandS.More
import HandS.Dict
import HandS.CallLocal
import PySem.Challenge.RW_everysum_k05_refused
set_option Elab.async false
set_option linter.all false
set_option maxRecDepth 100000
set_option maxHeartbeats 4000000
namespace Evm
/-! ### plain lists of whole numbers -/
theorem sum_perm {l m : List Int} (h : l.Perm m) : l.sum = m.sum := by
  induction h with
  | nil => rfl
  | cons x _ ih => rw [List.sum_cons, List.sum_cons, ih]
  | swap x y l => rw [List.sum_cons, List.sum_cons, List.sum_cons, List.sum_cons]; omega
  | trans _ _ a b => exact a.trans b
theorem sum_mul (p : Int) : ∀ l : List Int, (l.map fun x => p * x).sum = p * l.sum
  | [] => by simp
  | x :: r => by rw [List.map_cons, List.sum_cons, List.sum_cons, sum_mul p r, Int.mul_add]
theorem sum_nn : ∀ {l : List Int}, (∀ x ∈ l, 0 ≤ x) → 0 ≤ l.sum
  | [], _ => by simp
  | x :: r, h => by
    rw [List.sum_cons]
    have h1 := h x List.mem_cons_self
    have h2 := sum_nn (l := r) fun y hy => h y (List.mem_cons_of_mem _ hy)
    omega
theorem sum_sub {l m : List Int} (h : l.Sublist m) (n : ∀ x ∈ m, 0 ≤ x) : l.sum ≤ m.sum := by
  induction h with
  | slnil => exact Int.le_refl _
  | cons a _ ih =>
    rw [List.sum_cons]
    have h1 := n a List.mem_cons_self
    have h2 := ih fun y hy => n y (List.mem_cons_of_mem _ hy)
    omega
  | cons_cons a _ ih =>
    rw [List.sum_cons, List.sum_cons]
    have h2 := ih fun y hy => n y (List.mem_cons_of_mem _ hy)
    omega
theorem mem_le_sum : ∀ {l : List Int} {x : Int}, (∀ y ∈ l, 0 ≤ y) → x ∈ l → x ≤ l.sum
  | [], _, _, h => by cases h
  | y :: r, x, n, h => by
    rw [List.sum_cons]
    have h1 := n y List.mem_cons_self
    have h2 := sum_nn (l := r) fun z hz => n z (List.mem_cons_of_mem _ hz)
    rcases List.mem_cons.mp h with e | e
    · omega
    · have h3 := mem_le_sum (l := r) (fun z hz => n z (List.mem_cons_of_mem _ hz)) e
      omega
/-! ### a number by its primes -/
abbrev Nm := List (Int × Nat)
def stp (f : List Int) (p : Int) (e : Nat) : List Int := (List.range (e + 1)).flatMap fun i => f.map fun x => p ^ i * x
def rawF (f : List Int) (ns : Nm) : List Int := ns.foldl (fun f q => stp f q.1 q.2) f
def raw (ns : Nm) : List Int := rawF [1] ns
def geo (p : Int) : Nat → Int
  | 0 => 1
  | e + 1 => 1 + p * geo p e
def totF (t : Int) (ns : Nm) : Int := ns.foldl (fun f q => f * geo q.1 q.2) t
def tot (ns : Nm) : Int := totF 1 ns
def wthF (t : Int) (ns : Nm) : Int := ns.foldl (fun f q => f * q.1 ^ q.2) t
def wth (ns : Nm) : Int := wthF 1 ns
def mnyF (t : Nat) (ns : Nm) : Nat := ns.foldl (fun f q => f * (q.2 + 1)) t
def mny (ns : Nm) : Nat := mnyF 1 ns
theorem stp_zero (f : List Int) (p : Int) : stp f p 0 = f := by
  unfold stp
  simp
theorem stp_up (f : List Int) (p : Int) (e : Nat) : stp f p (e + 1) = stp f p e ++ f.map fun x => p ^ (e + 1) * x := by
  unfold stp
  rw [List.range_succ, List.flatMap_append]
  simp
theorem stp_succ (f : List Int) (p : Int) (e : Nat) : stp f p (e + 1) = f ++ (stp f p e).map fun x => p * x := by
  unfold stp
  rw [List.range_succ_eq_map, List.flatMap_cons]
  congr 1
  · simp
  · rw [List.flatMap_map, List.map_flatMap]
    congr 1
    funext i
    rw [List.map_map]
    congr 1
    funext x
    show p ^ (i + 1) * x = p * (p ^ i * x)
    rw [Int.pow_succ, Int.mul_comm (p ^ i) p, Int.mul_assoc]
theorem stp_len (f : List Int) (p : Int) : ∀ e, (stp f p e).length = f.length * (e + 1)
  | 0 => by rw [stp_zero]; simp
  | e + 1 => by rw [stp_up, List.length_append, List.length_map, stp_len f p e, Nat.mul_add f.length (e + 1) 1]; simp
theorem raw_len : ∀ (ns : Nm) (f : List Int), (rawF f ns).length = mnyF f.length ns
  | [], f => rfl
  | q :: r, f => by
    show (rawF (stp f q.1 q.2) r).length = mnyF (f.length * (q.2 + 1)) r
    rw [raw_len r, stp_len]
theorem stp_sum (f : List Int) (p : Int) : ∀ e, (stp f p e).sum = f.sum * geo p e
  | 0 => by rw [stp_zero]; show _ = _ * (1 : Int); rw [Int.mul_one]
  | e + 1 => by
    rw [stp_succ, List.sum_append, sum_mul, stp_sum f p e]
    show _ = f.sum * (1 + p * geo p e)
    rw [Int.mul_add, Int.mul_one, Int.mul_left_comm]
theorem rawF_sum : ∀ (ns : Nm) (f : List Int), (rawF f ns).sum = totF f.sum ns
  | [], f => rfl
  | q :: r, f => by
    show (rawF (stp f q.1 q.2) r).sum = totF (f.sum * geo q.1 q.2) r
    rw [rawF_sum r, stp_sum]
theorem raw_sum (ns : Nm) : (raw ns).sum = tot ns := by
  unfold raw
  rw [rawF_sum]
  rfl
theorem geo_mul (p : Int) : ∀ e, (p - 1) * geo p e = p ^ (e + 1) - 1
  | 0 => by
    show (p - 1) * 1 = p ^ 1 - 1
    rw [Int.mul_one, Int.pow_succ, Int.pow_zero, Int.one_mul]
  | e + 1 => by
    show (p - 1) * (1 + p * geo p e) = p ^ (e + 1 + 1) - 1
    rw [Int.mul_add, Int.mul_one, Int.mul_left_comm, geo_mul p e, Int.mul_sub, Int.mul_one, Int.pow_succ p (e + 1), Int.mul_comm p]
    omega
theorem geo_div {p : Int} (hp : 2 ≤ p) (e : Nat) : (p ^ (e + 1) - 1) / (p - 1) = geo p e := by
  rw [← geo_mul p e]
  exact Int.mul_ediv_cancel_left _ (by omega)
theorem geo_pos {p : Int} (hp : 1 ≤ p) : ∀ e, 1 ≤ geo p e
  | 0 => Int.le_refl _
  | e + 1 => by
    have := geo_pos hp e
    have h2 : 0 ≤ p * geo p e := Int.mul_nonneg (by omega) (by omega)
    show 1 ≤ 1 + p * geo p e
    omega
theorem stp_pos {f : List Int} {p : Int} (hp : 1 ≤ p) (hf : ∀ x ∈ f, 1 ≤ x) : ∀ e, ∀ x ∈ stp f p e, 1 ≤ x
  | 0 => by rw [stp_zero]; exact hf
  | e + 1 => by
    rw [stp_succ]
    intro x hx
    rcases List.mem_append.mp hx with h | h
    · exact hf x h
    · obtain ⟨y, hy, rfl⟩ := List.mem_map.mp h
      have := stp_pos hp hf e y hy
      have h2 : 1 * 1 ≤ p * y := Int.mul_le_mul hp this (by omega) (by omega)
      omega
def PosP (ns : Nm) : Prop := ∀ q ∈ ns, 1 ≤ q.1
theorem PosP.tail {q : Int × Nat} {r : Nm} (h : PosP (q :: r)) : PosP r := fun x hx => h x (List.mem_cons_of_mem _ hx)
theorem PosP.head {q : Int × Nat} {r : Nm} (h : PosP (q :: r)) : 1 ≤ q.1 := h q List.mem_cons_self
theorem rawF_pos : ∀ (ns : Nm) (f : List Int), PosP ns → (∀ x ∈ f, 1 ≤ x) → ∀ x ∈ rawF f ns, 1 ≤ x
  | [], f, _, hf => hf
  | q :: r, f, h, hf => rawF_pos r (stp f q.1 q.2) h.tail (stp_pos h.head hf _)
theorem one_pos : ∀ x ∈ ([1] : List Int), 1 ≤ x := by simp
theorem raw_pos {ns : Nm} (h : PosP ns) : ∀ x ∈ raw ns, 1 ≤ x := rawF_pos ns [1] h one_pos
theorem totF_ge : ∀ (ns : Nm) (t : Int), PosP ns → 1 ≤ t → t ≤ totF t ns
  | [], t, _, _ => Int.le_refl _
  | q :: r, t, h, ht => by
    have g := geo_pos h.head q.2
    have h1 : t * 1 ≤ t * geo q.1 q.2 := Int.mul_le_mul_of_nonneg_left g (by omega)
    have h2 := totF_ge r (t * geo q.1 q.2) h.tail (by omega)
    show t ≤ totF (t * geo q.1 q.2) r
    omega
/-! ### which sums are made -/
def Reach (L : List Int) (s : Int) : Prop := ∃ S : List Int, S.Sublist L ∧ S.sum = s
def Full (L : List Int) : Prop := ∀ s, 0 ≤ s → s ≤ L.sum → Reach L s
theorem full_stp {f : List Int} {p : Int} (hf : Full f) (hp : 1 ≤ p) (h : p ≤ f.sum + 1) : ∀ e, Full (stp f p e)
  | 0 => by rw [stp_zero]; exact hf
  | e + 1 => by
    have ih := full_stp hf hp h e
    intro s h0 hs
    rw [stp_succ] at hs ⊢
    rw [List.sum_append, sum_mul] at hs
    have go : ∀ q r : Int, s = p * q + r → 0 ≤ q → q ≤ (stp f p e).sum → 0 ≤ r → r ≤ f.sum → Reach (f ++ (stp f p e).map fun x => p * x) s := by
      intro q r es hq0 hq hr0 hr
      obtain ⟨A, hA, eA⟩ := hf r hr0 hr
      obtain ⟨B, hB, eB⟩ := ih q hq0 hq
      refine ⟨A ++ B.map fun x => p * x, hA.append (hB.map _), ?_⟩
      rw [List.sum_append, sum_mul, eA, eB, es]
      omega
    have d1 := Int.mul_ediv_add_emod s p
    have d2 := Int.emod_nonneg s (b := p) (by omega)
    have d3 := Int.emod_lt_of_pos s (b := p) (by omega)
    have d4 : 0 ≤ s / p := Int.ediv_nonneg h0 (by omega)
    by_cases c : s / p ≤ (stp f p e).sum
    · exact go (s / p) (s % p) (by omega) d4 c d2 (by omega)
    · have c2 : (stp f p e).sum ≤ s / p := by omega
      have c3 : p * (stp f p e).sum ≤ p * (s / p) := Int.mul_le_mul_of_nonneg_left c2 (by omega)
      refine go (stp f p e).sum (s - p * (stp f p e).sum) (by omega) ?_ (Int.le_refl _) (by omega) (by omega)
      by_cases c0 : 0 ≤ (stp f p e).sum
      · exact c0
      · exfalso
        have : f.sum * geo p e < 0 := by rw [← stp_sum]; omega
        have g := geo_pos hp e
        have : 0 ≤ f.sum * geo p e := Int.mul_nonneg (by omega) (by omega)
        omega
def barF (t : Int) : Nm → Int
  | [] => 0
  | q :: r => if q.1 > t + 1 then t + 1 else barF (t * geo q.1 q.2) r
def bar (ns : Nm) : Int := barF 1 ns
theorem full_raw : ∀ (ns : Nm) (f : List Int), PosP ns → Full f → 1 ≤ f.sum → barF f.sum ns = 0 → Full (rawF f ns)
  | [], f, _, hf, _, _ => hf
  | q :: r, f, h, hf, h1, hb => by
    have hb' : (if q.1 > f.sum + 1 then f.sum + 1 else barF (f.sum * geo q.1 q.2) r) = 0 := hb
    by_cases c : q.1 > f.sum + 1
    · rw [if_pos c] at hb'; omega
    · rw [if_neg c] at hb'
      have g := geo_pos h.head q.2
      have h2 : f.sum * 1 ≤ f.sum * geo q.1 q.2 := Int.mul_le_mul_of_nonneg_left g (by omega)
      exact full_raw r (stp f q.1 q.2) h.tail (full_stp hf h.head (by omega) _) (by rw [stp_sum]; omega) (by rw [stp_sum]; exact hb')
theorem full_one : Full [1] := by
  intro s h0 h1
  have h1' : s ≤ 1 := by simpa using h1
  rcases (by omega : s = 0 ∨ s = 1) with e | e
  · exact ⟨[], List.nil_sublist _, by simp [e]⟩
  · exact ⟨[1], List.Sublist.refl _, by simp [e]⟩
theorem full_of_bar {ns : Nm} (h : PosP ns) (hb : bar ns = 0) : Full (raw ns) := full_raw ns [1] h full_one (by decide) hb
/-! ### each no greater than all lesser ones and one -/
def allF (t : Int) : List Int → Bool
  | [] => true
  | x :: r => if x > t + 1 then false else allF (t + x) r
def isAll (l : List Int) : Bool := allF 0 l
def lowF (s : Int) (l : List Int) : List Int := l.filter fun x => decide (x ≤ s)
def barsB (l : List Int) (a : Int) : Bool := decide (0 ≤ a) && decide (a ≤ l.sum) && decide ((lowF a l).sum < a)
theorem low_perm {l m : List Int} (h : l.Perm m) (s : Int) : (lowF s l).sum = (lowF s m).sum := sum_perm (h.filter _)
def Gap (L : List Int) : Prop := ∀ d ∈ L, d ≤ (lowF (d - 1) L).sum + 1
theorem gap_of_full {L : List Int} (hp : ∀ x ∈ L, 1 ≤ x) (hf : Full L) : Gap L := fun d hd => by
  have n : ∀ x ∈ L, 0 ≤ x := fun x hx => by have := hp x hx; omega
  have h1 := mem_le_sum n hd
  have h0 := hp d hd
  obtain ⟨S, hS, eS⟩ := hf (d - 1) (by omega) (by omega)
  have nS : ∀ x ∈ S, 0 ≤ x := fun x hx => n x (hS.mem hx)
  have e : lowF (d - 1) S = S := List.filter_eq_self.mpr fun x hx => decide_eq_true (by have := mem_le_sum nS hx; omega)
  have h2 : (lowF (d - 1) S).sum ≤ (lowF (d - 1) L).sum := sum_sub (hS.filter _) fun x hx => n x (List.mem_filter.mp hx).1
  rw [e, eS] at h2
  omega
theorem Gap.perm {L M : List Int} (h : L.Perm M) (g : Gap L) : Gap M := fun d hd => by
  have := g d (h.mem_iff.mpr hd)
  rw [low_perm h] at this
  exact this
theorem Sorted_tail {x : Int} {r : List Int} (h : (x :: r).Pairwise (· ≤ ·)) : r.Pairwise (· ≤ ·) := (List.pairwise_cons.mp h).2
theorem all_of_gap : ∀ (r pre : List Int), (pre ++ r).Pairwise (· ≤ ·) → (∀ x ∈ pre ++ r, 1 ≤ x) → Gap (pre ++ r) → allF pre.sum r = true
  | [], _, _, _, _ => rfl
  | x :: r, pre, hs, hp, g => by
    have h1 := g x (List.mem_append_right _ List.mem_cons_self)
    have e : lowF (x - 1) (x :: r) = [] := List.filter_eq_nil_iff.mpr fun y hy => by
      have h2 : x ≤ y := by
        rcases List.mem_cons.mp hy with e | e
        · omega
        · exact (List.pairwise_cons.mp (List.pairwise_append.mp hs).2.1).1 y e
      rw [decide_eq_false (by omega)]
      decide
    have h3 : lowF (x - 1) (pre ++ x :: r) = lowF (x - 1) pre := by
      unfold lowF at e ⊢
      rw [List.filter_append, e, List.append_nil]
    rw [h3] at h1
    have h4 : (lowF (x - 1) pre).sum ≤ pre.sum := sum_sub List.filter_sublist fun y hy => by
      have := hp y (List.mem_append_left _ hy)
      omega
    show (if x > pre.sum + 1 then false else allF (pre.sum + x) r) = true
    rw [if_neg (by omega)]
    have e2 : pre ++ x :: r = (pre ++ [x]) ++ r := by simp
    rw [e2] at hs hp g
    have := all_of_gap r (pre ++ [x]) hs hp g
    have e3 : (pre ++ [x]).sum = pre.sum + x := by rw [List.sum_append]; simp
    rw [e3] at this
    exact this
theorem low_of_all : ∀ (r : List Int) (t s : Int), (∀ x ∈ r, 0 ≤ x) → allF t r = true → t ≤ s → s ≤ t + r.sum → s ≤ t + (lowF s r).sum
  | [], t, s, _, _, _, h => h
  | x :: r, t, s, hp, ha, h1, h2 => by
    have ha' : (if x > t + 1 then false else allF (t + x) r) = true := ha
    have n : ∀ y ∈ r, 0 ≤ y := fun y hy => hp y (List.mem_cons_of_mem _ hy)
    have nl : 0 ≤ (lowF s r).sum := sum_nn fun y hy => n y ((List.mem_filter.mp hy).1)
    by_cases c : x > t + 1
    · rw [if_pos c] at ha'; cases ha'
    · rw [if_neg c] at ha'
      rw [List.sum_cons] at h2
      by_cases c2 : x ≤ s
      · have e : lowF s (x :: r) = x :: lowF s r := List.filter_cons_of_pos (decide_eq_true c2)
        rw [e, List.sum_cons]
        by_cases c3 : t + x ≤ s
        · have := low_of_all r (t + x) s n ha' c3 (by omega)
          omega
        · omega
      · have e : lowF s (x :: r) = lowF s r := List.filter_cons_of_neg (by rw [decide_eq_false c2]; decide)
        rw [e]
        omega
/-! ### barred -/
theorem low_stp {f : List Int} {q b : Int} (hf : ∀ x ∈ f, 1 ≤ x) (hb : b < q) (h1 : 1 ≤ q) : ∀ e, lowF b (stp f q e) = lowF b f
  | 0 => by rw [stp_zero]
  | e + 1 => by
    rw [stp_succ]
    unfold lowF
    rw [List.filter_append]
    have : ((stp f q e).map fun x => q * x).filter (fun x => decide (x ≤ b)) = [] := List.filter_eq_nil_iff.mpr fun y hy => by
      obtain ⟨z, hz, rfl⟩ := List.mem_map.mp hy
      have h2 := stp_pos h1 hf e z hz
      have h3 : q * 1 ≤ q * z := Int.mul_le_mul_of_nonneg_left h2 (by omega)
      rw [decide_eq_false (by omega)]
      decide
    rw [this, List.append_nil]
theorem low_raw : ∀ (ns : Nm) (f : List Int) {b : Int}, (∀ x ∈ f, 1 ≤ x) → PosP ns → (∀ q ∈ ns, b < q.1) → lowF b (rawF f ns) = lowF b f
  | [], f, _, _, _, _ => rfl
  | q :: r, f, b, hf, h, hb => by
    have := low_raw r (stp f q.1 q.2) (b := b) (stp_pos h.head hf _) h.tail fun z hz => hb z (List.mem_cons_of_mem _ hz)
    rw [low_stp hf (hb q List.mem_cons_self) h.head] at this
    exact this
def Rise (ns : Nm) : Prop := ns.Pairwise fun a b => a.1 < b.1
theorem bar_raw : ∀ (ns : Nm) (f : List Int), (∀ x ∈ f, 1 ≤ x) → 1 ≤ f.sum → PosP ns → Rise ns → (∀ q ∈ ns, 1 ≤ q.2) → barF f.sum ns ≠ 0 → 0 < barF f.sum ns ∧ barF f.sum ns ≤ totF f.sum ns ∧ (lowF (barF f.sum ns) (rawF f ns)).sum < barF f.sum ns
  | [], f, _, _, _, _, _, hb => absurd rfl hb
  | q :: r, f, hf, h1, hp, hr, he, hb => by
    have e : barF f.sum (q :: r) = if q.1 > f.sum + 1 then f.sum + 1 else barF (f.sum * geo q.1 q.2) r := rfl
    have g := geo_pos hp.head q.2
    have h2 : f.sum * 1 ≤ f.sum * geo q.1 q.2 := Int.mul_le_mul_of_nonneg_left g (by omega)
    by_cases c : q.1 > f.sum + 1
    · rw [if_pos c] at e
      rw [e]
      refine ⟨by omega, ?_, ?_⟩
      · obtain ⟨k, hk⟩ : ∃ k, q.2 = k + 1 := ⟨q.2 - 1, by have := he q List.mem_cons_self; omega⟩
        have g2 : geo q.1 q.2 = 1 + q.1 * geo q.1 k := by rw [hk]; rfl
        have g3 := geo_pos hp.head k
        have g4 : q.1 * 1 ≤ q.1 * geo q.1 k := Int.mul_le_mul_of_nonneg_left g3 (by omega)
        have g5 : f.sum * 2 ≤ f.sum * geo q.1 q.2 := Int.mul_le_mul_of_nonneg_left (by omega) (by omega)
        have g6 := totF_ge r (f.sum * geo q.1 q.2) hp.tail (by omega)
        show f.sum + 1 ≤ totF (f.sum * geo q.1 q.2) r
        omega
      · have := low_raw (q :: r) f (b := f.sum + 1) hf hp fun z hz => by
          rcases List.mem_cons.mp hz with e | e
          · subst e; omega
          · have := (List.pairwise_cons.mp hr).1 z e
            omega
        rw [this]
        have := sum_sub (l := lowF (f.sum + 1) f) (m := f) List.filter_sublist fun x hx => by have := hf x hx; omega
        omega
    · rw [if_neg c] at e
      have ih := bar_raw r (stp f q.1 q.2) (stp_pos hp.head hf _) (by rw [stp_sum]; omega) hp.tail (List.pairwise_cons.mp hr).2 (fun z hz => he z (List.mem_cons_of_mem _ hz)) (by rw [stp_sum, ← e]; exact hb)
      rw [stp_sum, ← e] at ih
      exact ih
/-! ### the divisors, rising -/
def leB (a b : Int) : Bool := decide (a ≤ b)
def divs (ns : Nm) : List Int := (raw ns).mergeSort leB
theorem divs_perm (ns : Nm) : (divs ns).Perm (raw ns) := List.mergeSort_perm _ _
theorem sorted_is (l : List Int) : (l.mergeSort leB).Pairwise (· ≤ ·) :=
  (List.pairwise_mergeSort (le := leB) (fun a b c h1 h2 => decide_eq_true (Int.le_trans (of_decide_eq_true h1) (of_decide_eq_true h2)))
    (fun a b => by rcases Int.le_total a b with h | h <;> simp [leB, h]) l).imp fun h => of_decide_eq_true h
theorem sorted_eq {l m : List Int} (hp : m.Perm l) (hs : m.Pairwise (· ≤ ·)) : m = l.mergeSort leB :=
  List.Perm.eq_of_pairwise (fun a b _ _ h1 h2 => Int.le_antisymm h1 h2) hs (sorted_is l) (hp.trans (List.mergeSort_perm _ _).symm)
theorem divs_sorted (ns : Nm) : (divs ns).Pairwise (· ≤ ·) := sorted_is _
theorem divs_len (ns : Nm) : (divs ns).length = mny ns := (divs_perm ns).length_eq.trans (raw_len ns [1])
theorem divs_sum (ns : Nm) : (divs ns).sum = tot ns := (sum_perm (divs_perm ns)).trans (raw_sum ns)
theorem divs_pos {ns : Nm} (h : PosP ns) : ∀ x ∈ divs ns, 1 ≤ x := fun x hx => raw_pos h x ((divs_perm ns).mem_iff.mp hx)
theorem tot_pos {ns : Nm} (h : PosP ns) : 1 ≤ tot ns := totF_ge ns 1 h (by decide)
/-- the law of both readings -/
theorem isAll_bar {ns : Nm} (hp : PosP ns) (hr : Rise ns) (he : ∀ q ∈ ns, 1 ≤ q.2) : isAll (divs ns) = decide (bar ns = 0) := by
  by_cases c : bar ns = 0
  · rw [decide_eq_true c]
    exact all_of_gap (divs ns) [] (divs_sorted ns) (divs_pos hp) ((gap_of_full (raw_pos hp) (full_of_bar hp c)).perm (divs_perm ns).symm)
  · rw [decide_eq_false c]
    obtain ⟨h1, h2, h3⟩ := bar_raw ns [1] one_pos (by decide) hp hr he c
    have h2' : bar ns ≤ tot ns := h2
    have h1' : 0 < bar ns := h1
    have h3' : (lowF (bar ns) (raw ns)).sum < bar ns := h3
    rw [← low_perm (divs_perm ns)] at h3'
    cases e : isAll (divs ns) with
    | false => rfl
    | true =>
      exfalso
      have := low_of_all (divs ns) 0 (bar ns) (fun x hx => by have := divs_pos hp x hx; omega) e (by omega) (by rw [divs_sum]; omega)
      have h4 : (lowF (bar ns) (divs ns)).sum < bar ns := h3'
      omega
theorem bar_barred {ns : Nm} (hp : PosP ns) (hr : Rise ns) (he : ∀ q ∈ ns, 1 ≤ q.2) (c : bar ns ≠ 0) : 0 < bar ns ∧ barsB (divs ns) (bar ns) = true := by
  obtain ⟨h1, h2, h3⟩ := bar_raw ns [1] one_pos (by decide) hp hr he c
  have h2' : bar ns ≤ tot ns := h2
  have h1' : 0 < bar ns := h1
  have h3' : (lowF (bar ns) (raw ns)).sum < bar ns := h3
  rw [← low_perm (divs_perm ns)] at h3'
  refine ⟨h1', ?_⟩
  unfold barsB
  rw [divs_sum, decide_eq_true (by omega : 0 ≤ bar ns), decide_eq_true h2']
  exact decide_eq_true h3'
theorem barF_nn : ∀ (ns : Nm) (t : Int), PosP ns → 1 ≤ t → 0 ≤ barF t ns
  | [], _, _, _ => Int.le_refl _
  | q :: r, t, h, ht => by
    show 0 ≤ if q.1 > t + 1 then t + 1 else barF (t * geo q.1 q.2) r
    have g := geo_pos h.head q.2
    have h2 : t * 1 ≤ t * geo q.1 q.2 := Int.mul_le_mul_of_nonneg_left g (by omega)
    split
    · omega
    · exact barF_nn r _ h.tail (by omega)
end Evm
namespace Evm
/-! ### the greatest that still go in, from the greatest on -/
def grS (s : List Int × Int) (x : Int) : List Int × Int := if x ≤ s.2 then (s.1 ++ [x], s.2 - x) else s
def gr (a : Int) (l : List Int) : List Int × Int := l.foldl grS ([], a)
theorem grS_y (acc : List Int) {x a : Int} (c : x ≤ a) : grS (acc, a) x = (acc ++ [x], a - x) := if_pos c
theorem grS_n (acc : List Int) {x a : Int} (c : ¬ x ≤ a) : grS (acc, a) x = (acc, a) := if_neg c
theorem gr_acc : ∀ (l : List Int) (acc : List Int) (a : Int), l.foldl grS (acc, a) = (acc ++ (gr a l).1, (gr a l).2)
  | [], acc, a => by simp [gr]
  | x :: r, acc, a => by
    show r.foldl grS (grS (acc, a) x) = (acc ++ (r.foldl grS (grS ([], a) x)).1, (r.foldl grS (grS ([], a) x)).2)
    by_cases c : x ≤ a
    · rw [grS_y acc c, grS_y [] c, gr_acc r (acc ++ [x]) (a - x), gr_acc r ([] ++ [x]) (a - x)]
      simp
    · rw [grS_n acc c, grS_n [] c]
      exact gr_acc r acc a
theorem allF_snoc : ∀ (l : List Int) (t x : Int), allF t (l ++ [x]) = true → allF t l = true ∧ x ≤ t + l.sum + 1
  | [], t, x, h => by
    have h' : (if x > t + 1 then false else true) = true := h
    by_cases c : x > t + 1
    · rw [if_pos c] at h'; cases h'
    · exact ⟨rfl, by simp; omega⟩
  | y :: r, t, x, h => by
    have h' : (if y > t + 1 then false else allF (t + y) (r ++ [x])) = true := h
    by_cases c : y > t + 1
    · rw [if_pos c] at h'; cases h'
    · rw [if_neg c] at h'
      obtain ⟨h1, h2⟩ := allF_snoc r (t + y) x h'
      refine ⟨?_, by rw [List.sum_cons]; omega⟩
      show (if y > t + 1 then false else allF (t + y) r) = true
      rw [if_neg c, h1]
theorem gr_made : ∀ (n : Nat) (l : List Int) (a : Int), l.length = n → (∀ x ∈ l, 1 ≤ x) → allF 0 l = true → 0 ≤ a → a ≤ l.sum →
    (gr a l.reverse).2 = 0 ∧ (gr a l.reverse).1.reverse.Sublist l ∧ (gr a l.reverse).1.reverse.sum = a
  | 0, l, a, hl, _, _, h0, h1 => by
    have e : l = [] := List.length_eq_zero_iff.mp hl
    subst e
    have : a = 0 := by simp at h1; omega
    subst this
    exact ⟨rfl, List.Sublist.refl _, rfl⟩
  | n + 1, l, a, hl, hp, ha, h0, h1 => by
    have ne : l ≠ [] := by intro e; subst e; cases hl
    obtain ⟨q, x, rfl⟩ : ∃ q x, l = q ++ [x] := ⟨l.dropLast, l.getLast ne, (List.dropLast_concat_getLast ne).symm⟩
    obtain ⟨hq, hx⟩ := allF_snoc q 0 x ha
    have lq : q.length = n := by simpa using hl
    have pq : ∀ y ∈ q, 1 ≤ y := fun y hy => hp y (List.mem_append_left _ hy)
    rw [List.sum_append] at h1
    have h1' : a ≤ q.sum + x := by simpa using h1
    rw [List.reverse_append]
    show (q.reverse.foldl grS (grS ([], a) x)).2 = 0 ∧ (q.reverse.foldl grS (grS ([], a) x)).1.reverse.Sublist (q ++ [x]) ∧ (q.reverse.foldl grS (grS ([], a) x)).1.reverse.sum = a
    by_cases c : x ≤ a
    · obtain ⟨i1, i2, i3⟩ := gr_made n q (a - x) lq pq hq (by omega) (by omega)
      rw [grS_y [] c, gr_acc q.reverse ([] ++ [x]) (a - x)]
      refine ⟨i1, ?_, ?_⟩
      · show (([x] : List Int) ++ (gr (a - x) q.reverse).1).reverse.Sublist (q ++ [x])
        rw [List.reverse_append]
        exact i2.append (List.Sublist.refl _)
      · show (([x] : List Int) ++ (gr (a - x) q.reverse).1).reverse.sum = a
        rw [List.reverse_append, List.sum_append, i3]
        simp
    · rw [grS_n [] c]
      obtain ⟨i1, i2, i3⟩ := gr_made n q a lq pq hq h0 (by omega)
      exact ⟨i1, i2.trans (List.sublist_append_left _ _), i3⟩
/-! ### the greatest divisor -/
theorem stp_max {f : List Int} {p M : Int} (hp : 1 ≤ p) (hf : ∀ x ∈ f, 1 ≤ x ∧ x ≤ M) : ∀ e, ∀ x ∈ stp f p e, x ≤ p ^ e * M
  | 0 => by
    rw [stp_zero]
    intro x hx
    have := (hf x hx).2
    rw [Int.pow_zero, Int.one_mul]
    exact this
  | e + 1 => by
    rw [stp_up]
    intro x hx
    have pp : ∀ k, 1 ≤ p ^ k := fun k => by
      induction k with
      | zero => rw [Int.pow_zero]; exact Int.le_refl _
      | succ k ih =>
        rw [Int.pow_succ]
        have : 1 * 1 ≤ p ^ k * p := Int.mul_le_mul ih hp (by omega) (by omega)
        omega
    rcases List.mem_append.mp hx with h | h
    · have h1 := stp_max hp hf e x h
      have h2 : 1 ≤ x := stp_pos hp (fun y hy => (hf y hy).1) e x h
      have h3 : 1 * (p ^ e * M) ≤ p * (p ^ e * M) := Int.mul_le_mul_of_nonneg_right hp (by omega)
      rw [Int.pow_succ, Int.mul_comm (p ^ e) p, Int.mul_assoc]
      omega
    · obtain ⟨y, hy, rfl⟩ := List.mem_map.mp h
      exact Int.mul_le_mul_of_nonneg_left (hf y hy).2 (by have := pp (e + 1); omega)
theorem stp_last {f : List Int} {p M : Int} (h : M ∈ f) (e : Nat) : p ^ e * M ∈ stp f p e := by
  unfold stp
  exact List.mem_flatMap.mpr ⟨e, List.mem_range.mpr (Nat.lt_succ_self e), List.mem_map.mpr ⟨M, h, rfl⟩⟩
theorem rawF_max : ∀ (ns : Nm) (f : List Int) (M : Int), PosP ns → (∀ x ∈ f, 1 ≤ x ∧ x ≤ M) → M ∈ f → (∀ x ∈ rawF f ns, x ≤ wthF M ns) ∧ wthF M ns ∈ rawF f ns
  | [], f, M, _, hf, hM => ⟨fun x hx => (hf x hx).2, hM⟩
  | q :: r, f, M, h, hf, hM => by
    have e : wthF M (q :: r) = wthF (q.1 ^ q.2 * M) r := by rw [Int.mul_comm]; rfl
    rw [e]
    exact rawF_max r (stp f q.1 q.2) (q.1 ^ q.2 * M) h.tail (fun x hx => ⟨stp_pos h.head (fun y hy => (hf y hy).1) _ x hx, stp_max h.head hf _ x hx⟩) (stp_last hM _)
theorem raw_max {ns : Nm} (h : PosP ns) : (∀ x ∈ raw ns, x ≤ wth ns) ∧ wth ns ∈ raw ns := rawF_max ns [1] 1 h (by simp) (by simp)
theorem last_max {l : List Int} {M : Int} (hs : l.Pairwise (· ≤ ·)) (hm : M ∈ l) (hx : ∀ x ∈ l, x ≤ M) : l[l.length - 1]? = some M := by
  have ne : l ≠ [] := by intro e; subst e; cases hm
  obtain ⟨q, x, rfl⟩ : ∃ q x, l = q ++ [x] := ⟨l.dropLast, l.getLast ne, (List.dropLast_concat_getLast ne).symm⟩
  have h1 : x ≤ M := hx x (List.mem_append_right _ (by simp))
  have h2 : M ≤ x := by
    rcases List.mem_append.mp hm with h | h
    · exact (List.pairwise_append.mp hs).2.2 M h x (by simp)
    · simp at h; omega
  have e : x = M := by omega
  subst e
  simp
theorem divs_last {ns : Nm} (h : PosP ns) : (divs ns)[(divs ns).length - 1]? = some (wth ns) :=
  last_max (divs_sorted ns) ((divs_perm ns).mem_iff.mpr (raw_max h).2) fun x hx => (raw_max h).1 x ((divs_perm ns).mem_iff.mp hx)
/-! ### sizes -/
def Low (ns : Nm) : Prop := ∀ q ∈ ns, 2 ≤ q.1 ∧ q.1 ≤ 1024
theorem Low.pos {ns : Nm} (h : Low ns) : PosP ns := fun q hq => by have := (h q hq).1; omega
theorem Low.tail {q : Int × Nat} {r : Nm} (h : Low (q :: r)) : Low r := fun x hx => h x (List.mem_cons_of_mem _ hx)
theorem pow_le {p : Int} (h1 : 1 ≤ p) (h2 : p ≤ 1024) : ∀ e : Nat, p ^ e ≤ 1024 ^ e ∧ 1 ≤ p ^ e
  | 0 => by simp
  | e + 1 => by
    obtain ⟨a, b⟩ := pow_le h1 h2 e
    rw [Int.pow_succ, Int.pow_succ]
    refine ⟨Int.mul_le_mul a h2 (by omega) (by omega), ?_⟩
    have : 1 * 1 ≤ p ^ e * p := Int.mul_le_mul b h1 (by omega) (by omega)
    omega
def exps (ns : Nm) : Nat := (ns.map (·.2)).sum
theorem mnyF_ge : ∀ (ns : Nm) (t : Nat), 1 ≤ t → t + exps ns ≤ mnyF t ns
  | [], t, _ => by simp [exps, mnyF]
  | q :: r, t, h => by
    have ih := mnyF_ge r (t * (q.2 + 1)) (by have := Nat.mul_le_mul h (Nat.succ_le_succ (Nat.zero_le q.2)); omega)
    have e : exps (q :: r) = q.2 + exps r := by simp [exps]
    have e2 : mnyF t (q :: r) = mnyF (t * (q.2 + 1)) r := rfl
    rw [e, e2]
    have : t * (q.2 + 1) = t * q.2 + t := by rw [Nat.mul_add, Nat.mul_one]
    have : 1 * q.2 ≤ t * q.2 := Nat.mul_le_mul_right _ h
    omega
theorem wthF_le : ∀ (ns : Nm) (t : Int), Low ns → 1 ≤ t → wthF t ns ≤ t * 1024 ^ exps ns ∧ 1 ≤ wthF t ns
  | [], t, _, h => by simp [wthF, exps]; exact h
  | q :: r, t, h, ht => by
    have hq := h q List.mem_cons_self
    obtain ⟨a, b⟩ := pow_le (p := q.1) (by omega) hq.2 q.2
    have h1 : 1 * 1 ≤ t * q.1 ^ q.2 := Int.mul_le_mul ht b (by omega) (by omega)
    obtain ⟨c, d⟩ := wthF_le r (t * q.1 ^ q.2) h.tail (by omega)
    have e : exps (q :: r) = q.2 + exps r := by simp [exps]
    have e2 : wthF t (q :: r) = wthF (t * q.1 ^ q.2) r := rfl
    rw [e2, e]
    refine ⟨Int.le_trans c ?_, d⟩
    rw [Int.pow_add, ← Int.mul_assoc]
    exact Int.mul_le_mul_of_nonneg_right (Int.mul_le_mul_of_nonneg_left a (by omega)) (Int.pow_nonneg (by omega))
theorem pow1024 (k : Nat) : (1024 : Int) ^ k = 2 ^ (10 * k) := by
  rw [Int.pow_mul]
  rfl
theorem pow2_mono {a b : Nat} (h : a ≤ b) : (2 : Int) ^ a ≤ 2 ^ b := by
  have : (2 : Nat) ^ a ≤ 2 ^ b := Nat.pow_le_pow_right (by decide) h
  exact_mod_cast this
theorem wth_lt {ns : Nm} (h : Low ns) (hm : mny ns ≤ 500) : wth ns ≤ 2 ^ 4990 ∧ 1 ≤ wth ns := by
  obtain ⟨a, b⟩ := wthF_le ns 1 h (by decide)
  have h1 := mnyF_ge ns 1 (by decide)
  have h2 : mnyF 1 ns ≤ 500 := hm
  refine ⟨Int.le_trans a ?_, b⟩
  rw [Int.one_mul, pow1024]
  exact pow2_mono (by omega)
theorem sum_le_len {M : Int} : ∀ {l : List Int}, (∀ x ∈ l, x ≤ M) → l.sum ≤ l.length * M
  | [], _ => by simp
  | x :: r, h => by
    have h1 := h x List.mem_cons_self
    have h2 := sum_le_len (l := r) fun y hy => h y (List.mem_cons_of_mem _ hy)
    rw [List.sum_cons, List.length_cons]
    have : ((r.length + 1 : Nat) : Int) * M = r.length * M + M := by
      rw [Int.natCast_add, Int.add_mul]; simp
    omega
theorem two4990 : (0 : Int) < 2 ^ 4990 := Int.pow_pos (by decide)
theorem two5000 : (2 : Int) ^ 5000 = 1024 * 2 ^ 4990 := by
  rw [show (5000 : Nat) = 10 + 4990 from rfl, Int.pow_add]
  rfl
theorem tot_lt {ns : Nm} (h : Low ns) (hm : mny ns ≤ 500) : tot ns < 2 ^ 5000 := by
  have h1 := (wth_lt h hm).1
  have h2 := sum_le_len (l := raw ns) (M := 2 ^ 4990) fun x hx => Int.le_trans ((raw_max h.pos).1 x hx) h1
  have h3 : (raw ns).length = mny ns := raw_len ns [1]
  rw [raw_sum, h3] at h2
  have h4 : ((mny ns : Nat) : Int) * 2 ^ 4990 ≤ 500 * 2 ^ 4990 := Int.mul_le_mul_of_nonneg_right (by omega) (Int.le_of_lt two4990)
  have := two4990
  rw [two5000]
  omega
theorem mem_lt {ns : Nm} (h : Low ns) (hm : mny ns ≤ 500) : ∀ x ∈ raw ns, 1 ≤ x ∧ x < 2 ^ 5000 := fun x hx => by
  have h1 := (wth_lt h hm).1
  have h2 := (raw_max h.pos).1 x hx
  have := two4990
  rw [two5000]
  exact ⟨raw_pos h.pos x hx, by omega⟩
theorem mnyF_take (ns : Nm) (t i : Nat) : mnyF t (ns.take i) ≤ mnyF t ns := by
  induction ns generalizing t i with
  | nil => simp
  | cons q r ih =>
    cases i with
    | zero =>
      have h1 : mnyF t [] = t := rfl
      rw [List.take_zero, h1]
      rcases Nat.eq_zero_or_pos t with e | e
      · omega
      · have := mnyF_ge (q :: r) t e; omega
    | succ i =>
      rw [List.take_succ_cons]
      exact ih (t * (q.2 + 1)) i
theorem mny_take (ns : Nm) (i : Nat) : mny (ns.take i) ≤ mny ns := mnyF_take ns 1 i
theorem Low.take {ns : Nm} (h : Low ns) (i : Nat) : Low (ns.take i) := fun q hq => h q (List.mem_of_mem_take hq)
/-! ### primes -/
def parts (n : Int) : List Int := ((List.range 30).filter fun (i : Nat) => decide ((2 : Int) + (i : Int) < n)).map fun (i : Nat) => (2 : Int) + (i : Int)
def parted (n : Int) : Bool := (parts n).any fun d => decide (n % d = 0)
theorem parted_no {n : Int} (h : parted n = false) : ∀ d : Int, 2 ≤ d → d < 32 → d < n → ¬ d ∣ n := fun d h2 h3 h4 hd => by
  have : parted n = true := by
    unfold parted
    refine List.any_eq_true.mpr ⟨d, ?_, decide_eq_true (Int.emod_eq_zero_of_dvd hd)⟩
    refine List.mem_map.mpr ⟨(d - 2).toNat, List.mem_filter.mpr ⟨List.mem_range.mpr (by omega), decide_eq_true (by omega)⟩, by omega⟩
  rw [h] at this
  cases this
theorem prime_of {n : Int} (h1 : 2 ≤ n) (h2 : n < 1024) (h : parted n = false) : ∀ d : Int, 2 ≤ d → d < n → ¬ d ∣ n := fun d a b ⟨c, e⟩ => by
  have hc : 0 < c := by
    by_cases hc : 0 < c
    · exact hc
    · exfalso
      have : d * c ≤ 0 := Int.mul_nonpos_of_nonneg_of_nonpos (by omega) (by omega)
      omega
  have c1 : c ≠ 1 := by rintro rfl; omega
  by_cases hd : d < 32
  · exact parted_no h d a hd b ⟨c, e⟩
  · have c32 : c < 32 := by
      by_cases z : c < 32
      · exact z
      · exfalso
        have : 32 * 32 ≤ d * c := Int.mul_le_mul (by omega) (by omega) (by omega) (by omega)
        omega
    have c2 : c < n := by
      have : 2 * c ≤ d * c := Int.mul_le_mul_of_nonneg_right a (by omega)
      omega
    exact parted_no h c (by omega) c32 c2 ⟨d, by rw [e, Int.mul_comm]⟩
def PrI (p : Int) : Prop := 2 ≤ p ∧ ∀ a b : Int, p ∣ a * b → p ∣ a ∨ p ∣ b
theorem prI_of {p : Int} (h1 : 2 ≤ p) (h : ∀ d : Int, 2 ≤ d → d < p → ¬ d ∣ p) : PrI p := by
  refine ⟨h1, fun a b hab => ?_⟩
  by_cases ha : p ∣ a
  · exact Or.inl ha
  · refine Or.inr ?_
    have g1 : (Int.gcd p a : Int) ∣ p := Int.gcd_dvd_left ..
    have g2 : (Int.gcd p a : Int) ∣ a := Int.gcd_dvd_right ..
    have g0 : Int.gcd p a ≠ 0 := by
      intro z
      rw [z] at g1
      have : p = 0 := Int.zero_dvd.mp (by simpa using g1)
      omega
    have gle : (Int.gcd p a : Int) ≤ p := Int.le_of_dvd (by omega) g1
    have ge : Int.gcd p a = 1 := by
      by_cases z : (Int.gcd p a : Int) = p
      · rw [z] at g2; exact absurd g2 ha
      · by_cases y : Int.gcd p a = 1
        · exact y
        · exact absurd g1 (h _ (by omega) (by omega))
    have h1 : p.natAbs ∣ a.natAbs * b.natAbs := by rw [← Int.natAbs_mul]; exact Int.natAbs_dvd_natAbs.mpr hab
    exact Int.natAbs_dvd_natAbs.mp (Nat.Coprime.dvd_of_dvd_mul_left (show Nat.gcd p.natAbs a.natAbs = 1 from ge) h1)
/-! ### no divisor twice -/
theorem stp_nodvd {f : List Int} {p q : Int} (hq : PrI q) (hqp : ¬ q ∣ p) (hf : ∀ x ∈ f, ¬ q ∣ x) : ∀ e, ∀ x ∈ stp f p e, ¬ q ∣ x
  | 0 => by rw [stp_zero]; exact hf
  | e + 1 => by
    rw [stp_succ]
    intro x hx hd
    rcases List.mem_append.mp hx with h | h
    · exact hf x h hd
    · obtain ⟨y, hy, rfl⟩ := List.mem_map.mp h
      rcases hq.2 p y hd with h | h
      · exact hqp h
      · exact stp_nodvd hq hqp hf e y hy h
theorem map_nodup {p : Int} (hp : 1 ≤ p) : ∀ {l : List Int}, l.Nodup → (l.map fun x => p * x).Nodup
  | [], _ => List.nodup_nil
  | x :: r, h => by
    rw [List.map_cons]
    obtain ⟨h1, h2⟩ := List.nodup_cons.mp h
    refine List.nodup_cons.mpr ⟨fun hm => ?_, map_nodup hp h2⟩
    obtain ⟨y, hy, e⟩ := List.mem_map.mp hm
    have : y = x := Int.eq_of_mul_eq_mul_left (by omega) e
    subst this
    exact h1 hy
theorem stp_nodup {f : List Int} {p : Int} (hp : 2 ≤ p) (hf : f.Nodup) (hd : ∀ x ∈ f, ¬ p ∣ x) : ∀ e, (stp f p e).Nodup
  | 0 => by rw [stp_zero]; exact hf
  | e + 1 => by
    rw [stp_succ]
    refine List.nodup_append.mpr ⟨hf, map_nodup (by omega) (stp_nodup hp hf hd e), fun a ha b hb z => ?_⟩
    subst z
    obtain ⟨y, _, rfl⟩ := List.mem_map.mp hb
    exact hd _ ha ⟨y, rfl⟩
theorem rawF_nodup : ∀ (ns : Nm) (f : List Int), (∀ q ∈ ns, PrI q.1) → Rise ns → f.Nodup → (∀ x ∈ f, ∀ q ∈ ns, ¬ q.1 ∣ x) → (rawF f ns).Nodup
  | [], f, _, _, hf, _ => hf
  | q :: r, f, hp, hr, hf, hd => by
    obtain ⟨r1, r2⟩ := List.pairwise_cons.mp hr
    have p1 := (hp q List.mem_cons_self).1
    refine rawF_nodup r (stp f q.1 q.2) (fun z hz => hp z (List.mem_cons_of_mem _ hz)) r2 (stp_nodup p1 hf (fun x hx => hd x hx q List.mem_cons_self) _) fun x hx z hz => ?_
    have lt := r1 z hz
    refine stp_nodvd (hp z (List.mem_cons_of_mem _ hz)) (fun hdv => ?_) (fun y hy => hd y hy z (List.mem_cons_of_mem _ hz)) _ x hx
    have := Int.le_of_dvd (by omega) hdv
    omega
theorem raw_nodup {ns : Nm} (hp : ∀ q ∈ ns, PrI q.1) (hr : Rise ns) : (raw ns).Nodup := rawF_nodup ns [1] hp hr (by simp) fun x hx q hq hd => by
  have e : x = 1 := by simpa using hx
  subst e
  have := Int.le_of_dvd (by decide) hd
  have := (hp q hq).1
  omega
/-! ### a number as it is due -/
structure Ok (ns : Nm) : Prop where
  rise : Rise ns
  le : ∀ q ∈ ns, 2 ≤ q.1 ∧ q.1 ≤ 997
  prime : ∀ q ∈ ns, parted q.1 = false
  pos : ∀ q ∈ ns, 1 ≤ q.2
  many : mny ns ≤ 500
theorem Ok.low {ns : Nm} (h : Ok ns) : Low ns := fun q hq => by have := h.le q hq; omega
theorem Ok.posP {ns : Nm} (h : Ok ns) : PosP ns := h.low.pos
theorem Ok.pri {ns : Nm} (h : Ok ns) : ∀ q ∈ ns, PrI q.1 := fun q hq => by
  have a := h.le q hq
  exact prI_of a.1 (prime_of a.1 (by omega) (h.prime q hq))
theorem Ok.nodup {ns : Nm} (h : Ok ns) : (divs ns).Nodup := (divs_perm ns).nodup_iff.mpr (raw_nodup h.pri h.rise)
theorem Ok.take {ns : Nm} (h : Ok ns) (i : Nat) : Ok (ns.take i) :=
  ⟨List.Pairwise.sublist (List.take_sublist i ns) h.rise, fun q hq => h.le q (List.mem_of_mem_take hq), fun q hq => h.prime q (List.mem_of_mem_take hq), fun q hq => h.pos q (List.mem_of_mem_take hq), Nat.le_trans (mny_take ns i) h.many⟩
theorem len_mnyF : ∀ (ns : Nm) (t : Nat), (∀ q ∈ ns, 1 ≤ q.2) → t * 2 ^ ns.length ≤ mnyF t ns
  | [], t, _ => by simp [mnyF]
  | q :: r, t, h => by
    have ih := len_mnyF r (t * (q.2 + 1)) fun z hz => h z (List.mem_cons_of_mem _ hz)
    have := h q List.mem_cons_self
    rw [List.length_cons, Nat.pow_succ, Nat.mul_comm (2 ^ r.length) 2, ← Nat.mul_assoc]
    exact Nat.le_trans (Nat.mul_le_mul_right _ (Nat.mul_le_mul_left t (by omega))) ih
theorem Ok.len {ns : Nm} (h : Ok ns) : ns.length ≤ 8 := by
  have h1 := len_mnyF ns 1 h.pos
  have h2 : mnyF 1 ns ≤ 500 := h.many
  by_cases c : ns.length ≤ 8
  · exact c
  · exfalso
    have : 2 ^ 9 ≤ 2 ^ ns.length := Nat.pow_le_pow_right (by decide) (by omega)
    omega
theorem le_sum_nat : ∀ {l : List Nat} {x : Nat}, x ∈ l → x ≤ l.sum
  | [], _, h => by cases h
  | y :: r, x, h => by
    rw [List.sum_cons]
    rcases List.mem_cons.mp h with e | e
    · omega
    · have := le_sum_nat e; omega
theorem Ok.exp {ns : Nm} (h : Ok ns) : ∀ q ∈ ns, q.2 ≤ 499 := fun q hq => by
  have h1 := mnyF_ge ns 1 (by decide)
  have h2 : mnyF 1 ns ≤ 500 := h.many
  have h3 : q.2 ≤ exps ns := by
    unfold exps
    exact le_sum_nat (List.mem_map.mpr ⟨q, hq, rfl⟩)
  omega
theorem Ok.isAll {ns : Nm} (h : Ok ns) : isAll (divs ns) = decide (bar ns = 0) := isAll_bar h.posP h.rise h.pos
end Evm
/-! two numbers joined: plain Lean -/
namespace Evm
/-- product over a number's pairs -/
def pr (f : Int × Nat → Int) : Nm → Int
  | [] => 1
  | q :: l => f q * pr f l
def pw (q : Int × Nat) : Int := q.1 ^ q.2
def ge (q : Int × Nat) : Int := geo q.1 q.2
def mn (q : Int × Nat) : Int := (q.2 : Int) + 1
def gx (x : Int) (q : Int × Nat) : Int := if q.1 < x then geo q.1 q.2 else 1
theorem pr_foldl (f : Int × Nat → Int) : ∀ (l : Nm) (t : Int), l.foldl (fun a q => a * f q) t = t * pr f l
  | [], t => (Int.mul_one t).symm
  | q :: l, t => by
    show l.foldl (fun a q => a * f q) (t * f q) = t * (f q * pr f l)
    rw [pr_foldl f l, Int.mul_assoc]
theorem tot_pr (ns : Nm) : tot ns = pr ge ns := by
  have h := pr_foldl ge ns 1
  rw [Int.one_mul] at h
  exact h
theorem wth_pr (ns : Nm) : wth ns = pr pw ns := by
  have h := pr_foldl pw ns 1
  rw [Int.one_mul] at h
  exact h
theorem mny_pr (ns : Nm) : (mny ns : Int) = pr mn ns := by
  have h : ∀ (l : Nm) (t : Nat), ((mnyF t l : Nat) : Int) = (t : Int) * pr mn l := fun l => by
    induction l with
    | nil => intro t; exact (Int.mul_one _).symm
    | cons q l ih =>
      intro t
      show ((mnyF (t * (q.2 + 1)) l : Nat) : Int) = (t : Int) * (((q.2 : Int) + 1) * pr mn l)
      rw [ih, Int.natCast_mul, Int.natCast_add, Int.mul_assoc]
      rfl
  have z := h ns 1
  rw [show ((1 : Nat) : Int) = 1 from rfl, Int.one_mul] at z
  exact z
theorem pr_append (f : Int × Nat → Int) : ∀ l m : Nm, pr f (l ++ m) = pr f l * pr f m
  | [], m => (Int.one_mul _).symm
  | q :: l, m => by
    show f q * pr f (l ++ m) = f q * pr f l * pr f m
    rw [pr_append f l m, Int.mul_assoc]
theorem pr_perm (f : Int × Nat → Int) {l m : Nm} (h : l.Perm m) : pr f l = pr f m := by
  induction h with
  | nil => rfl
  | cons x _ ih => show f x * _ = f x * _; rw [ih]
  | swap x y l =>
    show f y * (f x * pr f l) = f x * (f y * pr f l)
    rw [← Int.mul_assoc, ← Int.mul_assoc, Int.mul_comm (f y)]
  | trans _ _ h1 h2 => exact h1.trans h2
theorem pr_congr {f g : Int × Nat → Int} : ∀ l : Nm, (∀ q ∈ l, f q = g q) → pr f l = pr g l
  | [], _ => rfl
  | q :: l, h => by
    show f q * pr f l = g q * pr g l
    rw [h q List.mem_cons_self, pr_congr l fun r hr => h r (List.mem_cons_of_mem _ hr)]
theorem pr_ge1 {f : Int × Nat → Int} : ∀ l : Nm, (∀ q ∈ l, 1 ≤ f q) → 1 ≤ pr f l
  | [], _ => Int.le_refl 1
  | q :: l, h => by
    have a := h q List.mem_cons_self
    have b := pr_ge1 l fun r hr => h r (List.mem_cons_of_mem _ hr)
    have c : 1 * 1 ≤ f q * pr f l := Int.mul_le_mul a b (by decide) (by omega)
    exact c
theorem pr_one {f : Int × Nat → Int} : ∀ l : Nm, (∀ q ∈ l, f q = 1) → pr f l = 1
  | [], _ => rfl
  | q :: l, h => by
    show f q * pr f l = 1
    rw [h q List.mem_cons_self, pr_one l fun r hr => h r (List.mem_cons_of_mem _ hr)]
    rfl
theorem geo_succ_ge {p : Int} (hp : 1 ≤ p) (e : Nat) : geo p e ≤ geo p (e + 1) := by
  have h1 : 1 ≤ p ^ (e + 1) := by
    have : ∀ k : Nat, 1 ≤ p ^ k := fun k => by
      induction k with
      | zero => rw [Int.pow_zero]; decide
      | succ k ih =>
        rw [Int.pow_succ]
        have : 1 * 1 ≤ p ^ k * p := Int.mul_le_mul ih hp (by decide) (by omega)
        omega
    exact this _
  have g1 := geo_pos hp e
  have g2 := geo_mul p e
  have g3 := geo_mul p (e + 1)
  first
  | (show geo p e ≤ geo p e + p ^ (e + 1); omega)
  | (show geo p e ≤ 1 + p * geo p e
     have : 1 * geo p e ≤ p * geo p e := Int.mul_le_mul_of_nonneg_right hp (by omega)
     omega)
theorem geo_le {p : Int} (hp : 1 ≤ p) (e : Nat) : ∀ k, geo p e ≤ geo p (e + k)
  | 0 => Int.le_refl _
  | k + 1 => Int.le_trans (geo_le hp e k) (geo_succ_ge hp (e + k))
/-- often more of the prime p -/
def addK : Nm → Int → Nat → Nm
  | [], p, e => [(p, e)]
  | q :: d, p, e => if q.1 = p then (q.1, q.2 + e) :: d else q :: addK d p e
def dget (d : Nm) (p : Int) : Nat := ((d.find? fun q => decide (q.1 = p)).map (·.2)).getD 0
theorem addK_y {q : Int × Nat} {d : Nm} {p : Int} {e : Nat} (h : q.1 = p) : addK (q :: d) p e = (q.1, q.2 + e) :: d := if_pos h
theorem addK_n {q : Int × Nat} {d : Nm} {p : Int} {e : Nat} (h : q.1 ≠ p) : addK (q :: d) p e = q :: addK d p e := if_neg h
theorem addK_pw : ∀ (d : Nm) (p : Int) (e : Nat), pr pw (addK d p e) = pr pw d * p ^ e
  | [], p, e => Int.mul_comm _ _
  | q :: d, p, e => by
    by_cases h : q.1 = p
    · rw [addK_y h]
      show q.1 ^ (q.2 + e) * pr pw d = q.1 ^ q.2 * pr pw d * p ^ e
      rw [Int.pow_add, h, Int.mul_assoc, Int.mul_assoc, Int.mul_comm (p ^ e)]
    · rw [addK_n h]
      show pw q * pr pw (addK d p e) = pw q * pr pw d * p ^ e
      rw [addK_pw d p e, Int.mul_assoc]
theorem mn_pos (d : Nm) : 1 ≤ pr mn d := pr_ge1 d fun q _ => by show 1 ≤ (q.2 : Int) + 1; omega
theorem addK_mn : ∀ (d : Nm) (p : Int) (e : Nat), pr mn (addK d p e) ≤ pr mn d * ((e : Int) + 1)
  | [], p, e => by
    show ((e : Int) + 1) * 1 ≤ 1 * ((e : Int) + 1)
    omega
  | q :: d, p, e => by
    have m := mn_pos d
    by_cases h : q.1 = p
    · rw [addK_y h]
      show ((((q.2 + e : Nat)) : Int) + 1) * pr mn d ≤ ((q.2 : Int) + 1) * pr mn d * ((e : Int) + 1)
      rw [Int.mul_right_comm]
      refine Int.mul_le_mul_of_nonneg_right ?_ (by omega)
      rw [Int.natCast_add, Int.mul_add, Int.add_mul]
      have : 0 ≤ (q.2 : Int) * (e : Int) := Int.mul_nonneg (by omega) (by omega)
      omega
    · rw [addK_n h]
      show ((q.2 : Int) + 1) * pr mn (addK d p e) ≤ ((q.2 : Int) + 1) * pr mn d * ((e : Int) + 1)
      rw [Int.mul_assoc]
      exact Int.mul_le_mul_of_nonneg_left (addK_mn d p e) (by omega)
theorem gx_pos {x : Int} {q : Int × Nat} (h : 1 ≤ q.1) : 1 ≤ gx x q := by
  unfold gx
  split
  · exact geo_pos h _
  · exact Int.le_refl 1
theorem addK_gx (x : Int) : ∀ (d : Nm) (p : Int) (e : Nat), PosP d → 1 ≤ p → pr (gx x) d ≤ pr (gx x) (addK d p e)
  | [], p, e, _, hp => by
    have := gx_pos (x := x) (q := (p, e)) hp
    show 1 ≤ gx x (p, e) * 1
    omega
  | q :: d, p, e, hd, hp => by
    have hq := hd q List.mem_cons_self
    have hd' : PosP d := fun r hr => hd r (List.mem_cons_of_mem _ hr)
    have m : 1 ≤ pr (gx x) d := pr_ge1 d fun r hr => gx_pos (hd' r hr)
    have g := gx_pos (x := x) (q := q) hq
    by_cases h : q.1 = p
    · rw [addK_y h]
      show gx x q * pr (gx x) d ≤ gx x (q.1, q.2 + e) * pr (gx x) d
      refine Int.mul_le_mul_of_nonneg_right ?_ (by omega)
      unfold gx
      split
      · exact geo_le hq q.2 e
      · exact Int.le_refl 1
    · rw [addK_n h]
      show gx x q * pr (gx x) d ≤ gx x q * pr (gx x) (addK d p e)
      exact Int.mul_le_mul_of_nonneg_left (addK_gx x d p e hd' hp) (by omega)
theorem addK_mem : ∀ (d : Nm) (p : Int) (e : Nat) (r : Int × Nat), r ∈ addK d p e → (r.1 = p ∧ e ≤ r.2) ∨ r ∈ d
  | [], p, e, r, h => by
    have : r = (p, e) := by simpa [addK] using h
    subst this
    exact .inl ⟨rfl, Nat.le_refl _⟩
  | q :: d, p, e, r, h => by
    by_cases hq : q.1 = p
    · rw [addK_y hq] at h
      rcases List.mem_cons.mp h with z | z
      · subst z; exact .inl ⟨hq, by show e ≤ q.2 + e; omega⟩
      · exact .inr (List.mem_cons_of_mem _ z)
    · rw [addK_n hq] at h
      rcases List.mem_cons.mp h with z | z
      · subst z; exact .inr List.mem_cons_self
      · rcases addK_mem d p e r z with y | y
        · exact .inl y
        · exact .inr (List.mem_cons_of_mem _ y)
theorem addK_keys : ∀ (d : Nm) (p : Int) (e : Nat), (addK d p e).map (·.1) = if p ∈ d.map (·.1) then d.map (·.1) else d.map (·.1) ++ [p]
  | [], p, e => rfl
  | q :: d, p, e => by
    by_cases hq : q.1 = p
    · rw [addK_y hq, if_pos (by rw [← hq]; exact List.mem_cons_self)]
      rfl
    · rw [addK_n hq, List.map_cons, addK_keys d p e, List.map_cons]
      by_cases h : p ∈ d.map (·.1)
      · rw [if_pos h, if_pos (List.mem_cons_of_mem _ h)]
      · rw [if_neg h, if_neg (fun z => by rcases List.mem_cons.mp z with y | y; exact hq y.symm; exact h y)]
        rfl
theorem addK_nodup {d : Nm} {p : Int} {e : Nat} (h : (d.map (·.1)).Nodup) : ((addK d p e).map (·.1)).Nodup := by
  rw [addK_keys]
  split
  · exact h
  · rename_i n
    refine List.nodup_append.mpr ⟨h, by simp, ?_⟩
    intro a ha b hb z
    have : b = p := by simpa using hb
    subst this
    exact n (z ▸ ha)
theorem addK_len (d : Nm) (p : Int) (e : Nat) : (addK d p e).length ≤ d.length + 1 := by
  have h := congrArg List.length (addK_keys d p e)
  rw [List.length_map] at h
  rw [h]
  split
  · rw [List.length_map]; omega
  · rw [List.length_append, List.length_map]; exact Nat.le_refl _
theorem addK_new : ∀ (d : Nm) (p : Int) (e : Nat), p ∉ d.map (·.1) → addK d p e = d ++ [(p, e)]
  | [], p, e, _ => rfl
  | q :: d, p, e, h => by
    have hq : q.1 ≠ p := fun z => h (by rw [← z]; exact List.mem_cons_self)
    rw [addK_n hq, addK_new d p e fun z => h (List.mem_cons_of_mem _ z)]
    rfl
def joinF (d l : Nm) : Nm := l.foldl (fun d q => addK d q.1 q.2) d
theorem joinF_pw : ∀ (l d : Nm), pr pw (joinF d l) = pr pw d * pr pw l
  | [], d => (Int.mul_one _).symm
  | q :: l, d => by
    show pr pw (joinF (addK d q.1 q.2) l) = pr pw d * (q.1 ^ q.2 * pr pw l)
    rw [joinF_pw l, addK_pw, Int.mul_assoc]
theorem joinF_mn : ∀ (l d : Nm), pr mn (joinF d l) ≤ pr mn d * pr mn l
  | [], d => by
    show pr mn d ≤ pr mn d * 1
    omega
  | q :: l, d => by
    show pr mn (joinF (addK d q.1 q.2) l) ≤ pr mn d * (((q.2 : Int) + 1) * pr mn l)
    have a := joinF_mn l (addK d q.1 q.2)
    have b := Int.mul_le_mul_of_nonneg_right (addK_mn d q.1 q.2) (by have := mn_pos l; omega : 0 ≤ pr mn l)
    rw [← Int.mul_assoc]
    exact Int.le_trans a b
theorem joinF_mem : ∀ (l d : Nm) (r : Int × Nat), r ∈ joinF d l → r.1 ∈ d.map (·.1) ∨ r.1 ∈ l.map (·.1)
  | [], d, r, h => .inl (List.mem_map.mpr ⟨r, h, rfl⟩)
  | q :: l, d, r, h => by
    rcases joinF_mem l (addK d q.1 q.2) r h with z | z
    · obtain ⟨s, hs, e⟩ := List.mem_map.mp z
      rcases addK_mem d q.1 q.2 s hs with y | y
      · exact .inr (by rw [← e, y.1]; exact List.mem_cons_self)
      · exact .inl (by rw [← e]; exact List.mem_map.mpr ⟨s, y, rfl⟩)
    · exact .inr (List.mem_cons_of_mem _ z)
theorem joinF_pos : ∀ (l d : Nm), (∀ q ∈ d, 1 ≤ q.2) → (∀ q ∈ l, 1 ≤ q.2) → ∀ r ∈ joinF d l, 1 ≤ r.2
  | [], d, hd, _, r, h => hd r h
  | q :: l, d, hd, hl, r, h => by
    refine joinF_pos l (addK d q.1 q.2) (fun s hs => ?_) (fun s hs => hl s (List.mem_cons_of_mem _ hs)) r h
    rcases addK_mem d q.1 q.2 s hs with y | y
    · exact Nat.le_trans (hl q List.mem_cons_self) y.2
    · exact hd s y
theorem joinF_nodup : ∀ (l d : Nm), (d.map (·.1)).Nodup → ((joinF d l).map (·.1)).Nodup
  | [], d, h => h
  | q :: l, d, h => joinF_nodup l (addK d q.1 q.2) (addK_nodup h)
theorem joinF_len : ∀ (l d : Nm), (joinF d l).length ≤ d.length + l.length
  | [], d => Nat.le_refl _
  | q :: l, d => by
    have a := joinF_len l (addK d q.1 q.2)
    have b := addK_len d q.1 q.2
    show (joinF (addK d q.1 q.2) l).length ≤ d.length + (l.length + 1)
    omega
theorem joinF_gx (x : Int) : ∀ (l d : Nm), PosP d → PosP l → pr (gx x) d ≤ pr (gx x) (joinF d l)
  | [], d, _, _ => Int.le_refl _
  | q :: l, d, hd, hl => by
    have hq := hl q List.mem_cons_self
    refine Int.le_trans (addK_gx x d q.1 q.2 hd hq) (joinF_gx x l (addK d q.1 q.2) (fun s hs => ?_) fun s hs => hl s (List.mem_cons_of_mem _ hs))
    rcases addK_mem d q.1 q.2 s hs with y | y
    · rw [y.1]; exact hq
    · exact hd s y
theorem joinF_new : ∀ (l d : Nm), Rise (d ++ l) → joinF d l = d ++ l
  | [], d, _ => (List.append_nil d).symm
  | q :: l, d, h => by
    have hn : q.1 ∉ d.map (·.1) := fun z => by
      obtain ⟨r, hr, e⟩ := List.mem_map.mp z
      have := (List.pairwise_append.mp h).2.2 r hr q List.mem_cons_self
      omega
    show joinF (addK d q.1 q.2) l = d ++ q :: l
    rw [addK_new d q.1 q.2 hn, joinF_new l (d ++ [(q.1, q.2)]) (by rw [List.append_assoc]; exact h), List.append_assoc]
    rfl
theorem joinF_app (d l m : Nm) : joinF d (l ++ m) = joinF (joinF d l) m := by unfold joinF; rw [List.foldl_append]
/-- both, in the order of the dict -/
def both (n o : Nm) : Nm := joinF [] (n ++ o)
theorem both_eq {n o : Nm} (h : Rise n) : both n o = joinF n o := by
  unfold both
  rw [joinF_app, joinF_new n [] h]
  rfl
def keysS (d : Nm) : List Int := (d.map (·.1)).mergeSort leB
def jn (n o : Nm) : Nm := (keysS (both n o)).map fun k => (k, dget (both n o) k)
theorem dget_map : ∀ d : Nm, (d.map (·.1)).Nodup → (d.map (·.1)).map (fun k => (k, dget d k)) = d
  | [], _ => rfl
  | q :: d, h => by
    obtain ⟨h1, h2⟩ := List.nodup_cons.mp h
    have e1 : dget (q :: d) q.1 = q.2 := by unfold dget; rw [List.find?_cons_of_pos (by simp)]; rfl
    have e2 : (d.map (·.1)).map (fun k => (k, dget (q :: d) k)) = (d.map (·.1)).map (fun k => (k, dget d k)) := List.map_congr_left fun k hk => by
      have : q.1 ≠ k := fun z => h1 (by
        have z' : q.1 = k := z
        show q.1 ∈ _
        rw [z']; exact hk)
      unfold dget
      rw [List.find?_cons_of_neg (by simpa using this)]
    show (q.1, dget (q :: d) q.1) :: (d.map (·.1)).map (fun k => (k, dget (q :: d) k)) = q :: d
    rw [e1, e2, dget_map d h2]
theorem both_nodup (n o : Nm) : ((both n o).map (·.1)).Nodup := joinF_nodup _ [] List.nodup_nil
theorem keysS_perm (d : Nm) : (keysS d).Perm (d.map (·.1)) := List.mergeSort_perm _ _
theorem jn_perm (n o : Nm) : (jn n o).Perm (both n o) := by
  have h := (keysS_perm (both n o)).map fun k => (k, dget (both n o) k)
  rw [dget_map _ (both_nodup n o)] at h
  exact h
theorem jn_rise (n o : Nm) : Rise (jn n o) := by
  unfold jn Rise
  rw [List.pairwise_map]
  have s := sorted_is ((both n o).map (·.1))
  have d : (keysS (both n o)).Nodup := (keysS_perm _).nodup_iff.mpr (both_nodup n o)
  have : (keysS (both n o)).Pairwise fun a b => a ≤ b ∧ a ≠ b := List.Pairwise.and s d
  exact this.imp fun {a b} h => by have := h.1; have := h.2; show a < b; omega
theorem jn_wth (n o : Nm) : wth (jn n o) = wth n * wth o := by
  rw [wth_pr, pr_perm pw (jn_perm n o), both, joinF_pw, pr_append, wth_pr, wth_pr]
  exact Int.one_mul _
theorem jn_mny (n o : Nm) : mny (jn n o) ≤ mny n * mny o := by
  have h : ((mny (jn n o) : Nat) : Int) ≤ ((mny n * mny o : Nat) : Int) := by
    rw [mny_pr, pr_perm mn (jn_perm n o), Int.natCast_mul, mny_pr, mny_pr, ← pr_append]
    have := joinF_mn (n ++ o) []
    rw [show pr mn [] = 1 from rfl, Int.one_mul] at this
    exact this
  exact_mod_cast h
theorem jn_ok {n o : Nm} (hn : Ok n) (ho : Ok o) (hm : mny (jn n o) ≤ 500) : Ok (jn n o) := by
  have key : ∀ q ∈ jn n o, (∃ r ∈ n, r.1 = q.1) ∨ ∃ r ∈ o, r.1 = q.1 := fun q hq => by
    have hb := (jn_perm n o).mem_iff.mp hq
    rcases joinF_mem _ [] q hb with z | z
    · cases z
    · rw [List.map_append] at z
      rcases List.mem_append.mp z with y | y
      · obtain ⟨r, hr, e⟩ := List.mem_map.mp y; exact .inl ⟨r, hr, e⟩
      · obtain ⟨r, hr, e⟩ := List.mem_map.mp y; exact .inr ⟨r, hr, e⟩
  refine ⟨jn_rise n o, fun q hq => ?_, fun q hq => ?_, fun q hq => ?_, hm⟩
  · rcases key q hq with ⟨r, hr, e⟩ | ⟨r, hr, e⟩
    · rw [← e]; exact hn.le r hr
    · rw [← e]; exact ho.le r hr
  · rcases key q hq with ⟨r, hr, e⟩ | ⟨r, hr, e⟩
    · rw [← e]; exact hn.prime r hr
    · rw [← e]; exact ho.prime r hr
  · refine joinF_pos (n ++ o) [] (fun _ z => by cases z) (fun r hr => ?_) q ((jn_perm n o).mem_iff.mp hq)
    rcases List.mem_append.mp hr with y | y
    · exact hn.pos r y
    · exact ho.pos r y
/-- the bar by the lesser primes' total -/
theorem bar_all : ∀ (suf pre : Nm), Rise (pre ++ suf) → PosP (pre ++ suf) → (barF (pr ge pre) suf = 0 ↔ ∀ q ∈ suf, q.1 ≤ pr (gx q.1) (pre ++ suf) + 1)
  | [], pre, _, _ => ⟨fun _ q h => (nomatch h), fun _ => rfl⟩
  | q :: s, pre, h, hp => by
    have tp : 1 ≤ pr ge pre := pr_ge1 pre fun r hr => geo_pos (hp r (List.mem_append_left _ hr)) _
    have e1 : pr (gx q.1) (pre ++ q :: s) = pr ge pre := by
      rw [pr_append, pr_congr (g := ge) pre fun r hr => by
        have := (List.pairwise_append.mp h).2.2 r hr q List.mem_cons_self
        unfold gx ge
        rw [if_pos this], pr_one (q :: s) fun r hr => by
        have : ¬ r.1 < q.1 := by
          rcases List.mem_cons.mp hr with z | z
          · rw [z]; omega
          · have := (List.pairwise_cons.mp (List.pairwise_append.mp h).2.1).1 r z
            omega
        unfold gx
        rw [if_neg this], Int.mul_one]
    have e2 : pr ge (pre ++ [q]) = pr ge pre * geo q.1 q.2 := by
      rw [pr_append]
      show _ * (geo q.1 q.2 * 1) = _
      rw [Int.mul_one]
    have ih := bar_all s (pre ++ [q]) (by rw [List.append_assoc]; exact h) (by rw [List.append_assoc]; exact hp)
    rw [List.append_assoc, e2] at ih
    have ih : barF (pr ge pre * geo q.1 q.2) s = 0 ↔ ∀ r ∈ s, r.1 ≤ pr (gx r.1) (pre ++ q :: s) + 1 := ih
    show (if q.1 > pr ge pre + 1 then pr ge pre + 1 else barF (pr ge pre * geo q.1 q.2) s) = 0 ↔ _
    by_cases c : q.1 > pr ge pre + 1
    · rw [if_pos c]
      constructor
      · intro z; omega
      · intro z
        have := z q List.mem_cons_self
        rw [e1] at this
        omega
    · rw [if_neg c, ih]
      constructor
      · intro z r hr
        rcases List.mem_cons.mp hr with y | y
        · rw [y, e1]; omega
        · exact z r y
      · exact fun z r hr => z r (List.mem_cons_of_mem _ hr)
theorem bar_zero {ns : Nm} (h : Rise ns) (hp : PosP ns) : bar ns = 0 ↔ ∀ q ∈ ns, q.1 ≤ pr (gx q.1) ns + 1 := bar_all ns [] h hp
theorem split_at (x : Int) : ∀ n : Nm, Rise n → (∀ r ∈ n, r.1 ≠ x) → (∀ r ∈ n, r.1 < x) ∨ ∃ r ∈ n, x < r.1 ∧ ∀ s ∈ n, s.1 < r.1 → s.1 < x
  | [], _, _ => .inl fun r h => by cases h
  | a :: l, h, hx => by
    obtain ⟨h1, h2⟩ := List.pairwise_cons.mp h
    have ax := hx a List.mem_cons_self
    by_cases c : x < a.1
    · refine .inr ⟨a, List.mem_cons_self, c, fun s hs hlt => ?_⟩
      rcases List.mem_cons.mp hs with z | z
      · rw [z] at hlt; omega
      · have := h1 s z; omega
    · have al : a.1 < x := by omega
      rcases split_at x l h2 (fun r hr => hx r (List.mem_cons_of_mem _ hr)) with z | ⟨r, hr, h3, h4⟩
      · refine .inl fun r hr => ?_
        rcases List.mem_cons.mp hr with y | y
        · rw [y]; exact al
        · exact z r y
      · refine .inr ⟨r, List.mem_cons_of_mem _ hr, h3, fun s hs hlt => ?_⟩
        rcases List.mem_cons.mp hs with y | y
        · rw [y]; exact al
        · exact h4 s y hlt
theorem pw_pos {q : Int × Nat} (h : 1 ≤ q.1) : 1 ≤ pw q := by
  unfold pw
  have : ∀ k : Nat, 1 ≤ q.1 ^ k := fun k => by
    induction k with
    | zero => rw [Int.pow_zero]; decide
    | succ k ih =>
      rw [Int.pow_succ]
      have : 1 * 1 ≤ q.1 ^ k * q.1 := Int.mul_le_mul ih h (by decide) (by omega)
      omega
  exact this _
theorem key_le_pw : ∀ (l : Nm), PosP l → (∀ q ∈ l, 1 ≤ q.2) → ∀ q ∈ l, q.1 ≤ pr pw l
  | [], _, _, q, h => by cases h
  | a :: l, hp, he, q, h => by
    have a1 := hp a List.mem_cons_self
    have a2 := pw_pos a1
    have l1 : 1 ≤ pr pw l := pr_ge1 l fun r hr => pw_pos (hp r (List.mem_cons_of_mem _ hr))
    show q.1 ≤ pw a * pr pw l
    rcases List.mem_cons.mp h with z | z
    · have : q.1 ≤ pw a := by
        rw [z]
        obtain ⟨k, hk⟩ : ∃ k, a.2 = k + 1 := ⟨a.2 - 1, by have := he a List.mem_cons_self; omega⟩
        have b := pw_pos (q := (a.1, k)) a1
        show a.1 ≤ a.1 ^ a.2
        rw [hk, Int.pow_succ]
        have : 1 * a.1 ≤ a.1 ^ k * a.1 := Int.mul_le_mul_of_nonneg_right b (by omega)
        omega
      have : pw a * 1 ≤ pw a * pr pw l := Int.mul_le_mul_of_nonneg_left l1 (by omega)
      omega
    · have ih := key_le_pw l (fun r hr => hp r (List.mem_cons_of_mem _ hr)) (fun r hr => he r (List.mem_cons_of_mem _ hr)) q z
      have : 1 * pr pw l ≤ pw a * pr pw l := Int.mul_le_mul_of_nonneg_right a2 (by omega)
      omega
/-- point 6: all sums stay made -/
theorem jn_all {n o : Nm} (hn : Ok n) (ho : Ok o) (hm : mny (jn n o) ≤ 500) (hb : bar n = 0) (hw : wth o ≤ tot n + 1) : bar (jn n o) = 0 := by
  have okj := jn_ok hn ho hm
  refine (bar_zero okj.rise okj.posP).mpr fun q hq => ?_
  have nb := (bar_zero hn.rise hn.posP).mp hb
  have up : pr (gx q.1) n ≤ pr (gx q.1) (jn n o) := by
    rw [pr_perm _ (jn_perm n o), both_eq hn.rise]
    exact joinF_gx q.1 o n hn.posP ho.posP
  suffices h : q.1 ≤ pr (gx q.1) n + 1 by omega
  by_cases c : ∃ r ∈ n, r.1 = q.1
  · obtain ⟨r, hr, e⟩ := c
    rw [← e]
    exact nb r hr
  · have hk : ∃ r ∈ o, r.1 = q.1 := by
      rcases joinF_mem _ [] q ((jn_perm n o).mem_iff.mp hq) with z | z
      · cases z
      · rw [List.map_append] at z
        rcases List.mem_append.mp z with y | y
        · obtain ⟨r, hr, e⟩ := List.mem_map.mp y; exact absurd ⟨r, hr, e⟩ c
        · obtain ⟨r, hr, e⟩ := List.mem_map.mp y; exact ⟨r, hr, e⟩
    obtain ⟨r, hr, e⟩ := hk
    have ql : q.1 ≤ wth o := by rw [← e, wth_pr]; exact key_le_pw o ho.posP ho.pos r hr
    rcases split_at q.1 n hn.rise (fun s hs z => c ⟨s, hs, z⟩) with z | ⟨s, hs, h1, h2⟩
    · have : pr (gx q.1) n = tot n := by
        rw [tot_pr]
        exact pr_congr n fun s hs => by unfold gx ge; rw [if_pos (z s hs)]
      omega
    · have e2 : pr (gx s.1) n = pr (gx q.1) n := pr_congr n fun t ht => by
        unfold gx
        by_cases y : t.1 < s.1
        · rw [if_pos y, if_pos (h2 t ht y)]
        · rw [if_neg y, if_neg (by omega)]
      have := nb s hs
      rw [e2] at this
      omega
theorem rise_eq : ∀ (l m : Nm), Rise l → Rise m → (∀ k, k ∈ l ↔ k ∈ m) → l = m
  | [], [], _, _, _ => rfl
  | [], y :: m, _, _, h => by have := (h y).mpr List.mem_cons_self; cases this
  | x :: l, [], _, _, h => by have := (h x).mp List.mem_cons_self; cases this
  | x :: l, y :: m, hl, hm, h => by
    obtain ⟨l1, l2⟩ := List.pairwise_cons.mp hl
    obtain ⟨m1, m2⟩ := List.pairwise_cons.mp hm
    have e : x = y := by
      have a := (h x).mp List.mem_cons_self
      have b := (h y).mpr List.mem_cons_self
      rcases List.mem_cons.mp a with a | a
      · exact a
      · rcases List.mem_cons.mp b with b | b
        · exact b.symm
        · have := m1 _ a
          have := l1 _ b
          omega
    subst e
    rw [rise_eq l m l2 m2 fun k => ?_]
    have hk := h k
    rw [List.mem_cons, List.mem_cons] at hk
    constructor
    · intro z
      rcases hk.mp (.inr z) with q | q
      · have := l1 _ z; rw [q] at this; omega
      · exact q
    · intro z
      rcases hk.mpr (.inr z) with q | q
      · have := m1 _ z; rw [q] at this; omega
      · exact q
theorem jn_is {n o m : Nm} (h : m.Perm (both n o)) (r : Rise m) : jn n o = m := rise_eq _ _ (jn_rise n o) r fun k => ((jn_perm n o).trans h.symm).mem_iff
theorem jn_len {n o : Nm} (hn : Ok n) (ho : Ok o) : (both n o).length ≤ 16 := by
  have a := joinF_len (n ++ o) []
  have b := hn.len
  have c := ho.len
  rw [List.length_append] at a
  show (joinF [] (n ++ o)).length ≤ 16
  have z : ([] : Nm).length = 0 := rfl
  omega
end Evm
namespace Ew
open PySem PySem.Spec PyProof.Rows L2
/-! ### a def of the text; a def that keeps its promise, as its callers need it -/
structure Df (K : PySem.W.Frag) (mg : Str → Option Value) (x : Str) (st : Stmt) (ps : List Str) : Prop where
  ex : ∃ (f : Addr) (fd : FuncData), Fun K x x st f fd ∧ mg x = some (.ref f) ∧ Binds K fd ps []
structure Fd (P : Program) (w : World) (K : PySem.W.Frag) (mg : Str → Option Value) (base : Heap) (CX : CXT) (x : Str) (k : Nat) (ps : List Str) (sp : Sp) : Prop where
  ex : ∃ (f : Addr) (fd : FuncData), FnOk P w K mg base CX k f fd ps sp ∧ mg x = some (.ref f) ∧ PySem.W.keepIn K (.ref f) = true ∧ Binds K fd ps []
section
variable {P : Program} {w : World} {K : PySem.W.Frag} {mg : Str → Option Value} {base : Heap}
theorem Df.ok {x : Str} {st : Stmt} {N ps : List Str} {k : Nat} {sp : Sp} (D : Df K mg x st ps) (S : FnScope N ps (defScope st)) (len : ∀ vs H Q E, sp vs H Q E → vs.length = ps.length)
    (hbody : ∀ (f : Addr) (cdv : Value) (A : Around) (outer : List Env) (s : Shared) (H : Hp) (vs : List V) (Q : VK) (E : XK), Room k (A.deeper (envOfC x (defScope st) s.heap.objs.size f cdv)) → sp vs H Q E →
      ∃ t, PSs (cxOf CX0 P w K mg base N x (defScope st) f cdv A outer s H E).nox (defBody st) t ∧ t { nx := fun _ H' => Q .non H', rt := Q } (start N vs) H) : Fd P w K mg base CX0 x (k + 1) ps sp := by
  obtain ⟨f, fd, F, m, b⟩ := D.ex
  exact ⟨f, fd, F.ok S len (hbody f), m, F.kp, b⟩
theorem Fd.mono {CX : CXT} {x : Str} {ps : List Str} {j k : Nat} {sp : Sp} (F : Fd P w K mg base CX x j ps sp) (h : j ≤ k) : Fd P w K mg base CX x k ps sp := by
  obtain ⟨f, fd, F, m, b⟩ := F.ex
  exact ⟨f, fd, F.mono h, m, b⟩
end
section
variable {X : Cx}
theorem pe_fd {CX : CXT} {x : Str} {k j : Nat} {ps : List Str} {sp : Sp} {E : XK} {e : Expr} {es : List Expr} {t : TA} {p pos : Pos} (F : Fd X.prog X.w X.K X.mg X.base CX x k ps sp) (hr : Room j X.A) (hj : k ≤ j) (hx : Passes CX X E) (ha : PA X (e :: es) t) (hg : Gl X x := by rfl)
    (hdb : (x == ("__debug__" : Str)) = false := by decide) (he : starEach (e :: es) X.env = (false, eval e X.env) :: starEach es X.env := by rfl) (hpl : (backTo pos (starEach es X.env)).any (·.1) = false := by rfl) :
    PE X (.Call (.Name x p) (e :: es) [] pos) (tCall sp [] E t) := by
  obtain ⟨f, fd, F, m, kp, b⟩ := F.ex
  exact pe_call F (hr.mono hj) hg m kp b .nil hx ha hdb he hpl
/-! ### * of great numbers, in place too -/
def CMulX (i j : Int) : Prop := i.natAbs.log2 + j.natAbs.log2 < 100000000
theorem CMulX.ok {i j : Int} (h : CMulX i j) : IntMulOk i j := by
  have b : ∀ x : Int, Builtin.Int.intBits x ≤ x.natAbs.log2 + 1 := fun x => by
    unfold Builtin.Int.intBits
    split <;> omega
  have h1 := b i
  have h2 := b j
  have h3 : i.natAbs.log2 + j.natAbs.log2 < 100000000 := h
  have e : bitsLine = 134217728 := by decide
  unfold IntMulOk
  intro z
  rw [Bool.and_eq_true] at z
  have z2 := z.2
  unfold Builtin.Int.intTooBig at z2
  have z3 := of_decide_eq_true z2
  rw [e] at z3
  omega
theorem op_mulX : OpR X (binaryOp .Mult) (rI CMulX fun i j => .int (i * j)) := opI fun _ _ _ _ _ _ _ hc q => mul_int q hc.ok
theorem iop_mulX : OpR X (inplaceOp .Mult) (rI CMulX fun i j => .int (i * j)) := opI fun _ _ _ _ _ _ _ hc q => imul_int q hc.ok
theorem log2_small {n a : Nat} (h : n < 2 ^ a) : n.log2 ≤ a := by
  rcases Nat.eq_zero_or_pos n with e | e
  · rw [e]; exact Nat.zero_le _
  · exact Nat.le_of_lt ((Nat.log2_lt (Nat.ne_of_gt e)).mpr h)
theorem mulX {i j : Int} {a b : Nat} (ha : i.natAbs < 2 ^ a) (hb : j.natAbs < 2 ^ b) (h : a + b < 100000000) : CMulX i j := by
  have x := log2_small ha
  have y := log2_small hb
  unfold CMulX
  omega
/-- a number from 0 on, below 2 ^ a -/
theorem nat_lt {i : Int} {a : Nat} (h0 : 0 ≤ i) (h : i < 2 ^ a) : i.natAbs < 2 ^ a := by
  have : ((i.natAbs : Nat) : Int) < ((2 ^ a : Nat) : Int) := by
    rw [Int.natCast_pow]
    have : ((i.natAbs : Nat) : Int) = i := Int.natAbs_of_nonneg h0
    rw [this]
    exact h
  exact_mod_cast this
theorem mulN {i j : Int} {a b : Nat} (h0 : 0 ≤ i) (h : i < 2 ^ a) (g0 : 0 ≤ j) (g : j < 2 ^ b) (hs : a + b < 100000000) : CMulX i j := mulX (nat_lt h0 h) (nat_lt g0 g) hs
end
section
variable {X : Cx}
/-! ### own classes: C() without an own __init__, C(..), o.m(..) -/
theorem run_makeN {pins : List (Addr × Obj)} {σ : L2.St} {H : Hp} {s : Shared} {Q : VK} {C : Addr} (hm : PySem.W.makesIn X.K C = true) (hi : PySem.W.findIn X.K (.ref C) "__init__" = some (some (.builtin "object.__init__"))) (I : Inv X pins σ H s)
    (h : ∀ x dx, H x = none → H dx = none → dx ≠ x → Q (.ref x) (upd (upd H dx (.own x)) x (.ins C dx []))) : wpAny (model X.prog X.w) X.A (call (.ref C) []) (EP X pins σ Q) X.xe s := by
  have hq := h (s.heap.objs.size + 1) s.heap.objs.size (I.hok.fresh (Nat.le_succ _)) (I.hok.fresh (Nat.le_refl _)) (Nat.ne_of_lt (Nat.lt_succ_self _))
  have I2 := Inv.made (C := C) I
  have Y := PySem.W.makes_of (M := model X.prog X.w) I.kIn hm
  refine wpAny_call (make_map0 I.kIn hm hi (fun self => PySem.W.Looks.of_pure (PySem.W.oi_bind self)) ?_)
  have hx : ((s.heap.push PySem.W.emptyDict).push (PySem.W.instObj C s.heap.objs.size)).get? (s.heap.objs.size + 1) = some (PySem.W.instObj C s.heap.objs.size) := by heap_get
  have t1 : PySem.W.Looks (model X.prog X.w) ((s.heap.push PySem.W.emptyDict).push (PySem.W.instObj C s.heap.objs.size)) (typeOf (.ref (s.heap.objs.size + 1))) (.ref C) := (PySem.W.Looks.ld hx).andThen .now
  have t2 : PySem.W.Looks (model X.prog X.w) ((s.heap.push PySem.W.emptyDict).push (PySem.W.instObj C s.heap.objs.size)) (isInstance (.ref (s.heap.objs.size + 1)) (.type "object")) true := t1.andThen (Y.top.keeps fun b o e => Heap.get?_push_of_some _ (Heap.get?_push_of_some _ e))
  refine codeAny_call_builtin PySem.W.oi_plain PySem.W.entry_oi (@PySem.W.check_slot (model X.prog X.w) _ _ _ "object.__init__" "object" "__init__" (.ref (s.heap.objs.size + 1)) [] [] _ PySem.W.oi_kind PySem.W.oi_split t2 (PySem.W.oi_args (.ref (s.heap.objs.size + 1))) ?_)
  rw [PySem.W.oi_run]
  exact wpAny_pure (And.intro rfl ⟨V.ref (s.heap.objs.size + 1), _, I2, rfl, hq⟩)
/-- what a class without an own __init__ must have to be made -/
structure MkN (K : PySem.W.Frag) (C : Addr) : Prop where
  makes : PySem.W.makesIn K C = true
  init : PySem.W.findIn K (.ref C) "__init__" = some (some (.builtin "object.__init__"))
  kp : PySem.W.keepIn K (.ref C) = true
def tMakeN (C : Addr) : TE := fun σ H Q => ∀ x dx, H x = none → H dx = none → dx ≠ x → Q (.ref x) (upd (upd H dx (.own x)) x (.ins C dx []))
theorem pe_makeN {C : Addr} {x : Str} {p pos : Pos} (M : MkN X.K C) (hg : Gl X x) (hm : X.mg x = some (.ref C)) (hdb : (x == ("__debug__" : Str)) = false := by decide) : PE X (.Call (.Name x p) [] [] pos) (tMakeN C) := by
  refine ⟨fun pins s σ H Q I h => ?_⟩
  refine wpAny_Call_Name_kw (ld_glob I hg hm ?_ hdb)
  exact PySem.W.callWith_K0 I.kIn M.kp (run_makeN M.makes M.init I h)
end
/-- a method, a def of a class -/
structure Dm (K : PySem.W.Frag) (C : Addr) (m qual : Str) (st : Stmt) (ps : List Str) : Prop where
  ex : ∃ (f : Addr) (fd : FuncData), Fun K m qual st f fd ∧ Meth K C m f ∧ Binds K fd ps []
structure Fm (P : Program) (w : World) (K : PySem.W.Frag) (mg : Str → Option Value) (base : Heap) (CX : CXT) (C : Addr) (m : Str) (k : Nat) (ps : List Str) (sp : Sp) : Prop where
  ex : ∃ (f : Addr) (fd : FuncData), FnOk P w K mg base CX k f fd ps sp ∧ Meth K C m f ∧ Binds K fd ps []
section
variable {P : Program} {w : World} {K : PySem.W.Frag} {mg : Str → Option Value} {base : Heap}
theorem Dm.ok {C : Addr} {m qual : Str} {st : Stmt} {N ps : List Str} {k : Nat} {sp : Sp} (D : Dm K C m qual st ps) (S : FnScope N ps (defScope st)) (len : ∀ vs H Q E, sp vs H Q E → vs.length = ps.length)
    (hbody : ∀ (f : Addr) (cdv : Value) (A : Around) (outer : List Env) (s : Shared) (H : Hp) (vs : List V) (Q : VK) (E : XK), Room k (A.deeper (envOfC qual (defScope st) s.heap.objs.size f cdv)) → sp vs H Q E →
      ∃ t, PSs (cxOf CX0 P w K mg base N qual (defScope st) f cdv A outer s H E).nox (defBody st) t ∧ t { nx := fun _ H' => Q .non H', rt := Q } (start N vs) H) : Fm P w K mg base CX0 C m (k + 1) ps sp := by
  obtain ⟨f, fd, F, m, b⟩ := D.ex
  exact ⟨f, fd, F.ok S len (hbody f), m, b⟩
end
section
variable {X : Cx}
theorem pe_mth {CX : CXT} {C : Addr} {m : Str} {k j : Nat} {ps : List Str} {sp : Sp} {E : XK} {o e : Expr} {es : List Expr} {ta : TE} {t : TA} {apos pos : Pos} {pl : Sem Bool} (he : PE X o ta) (c : Cls X.K C) (F : Fm X.prog X.w X.K X.mg X.base CX C m k ps sp) (hr : Room j X.A) (hj : k ≤ j) (hx : Passes CX X E) (ha : PA X (e :: es) t)
    (hst : starEach (e :: es) X.env = (false, eval e X.env) :: starEach es X.env := by rfl) (hpl : (backTo pos (starEach es X.env)).any (·.1) = false := by rfl)
    (ht : eval (.Call (.Attribute o m apos) (e :: es) [] pos) X.env = (do
      let ov ← eval o X.env
      standAt apos.atName
      let (f, first) ← holding [ov] (getMethod ov m pl)
      callWith pos f first (backTo pos (starEach (e :: es) X.env)) (backToKw pos (keywordEach [] X.env))) := by rfl) :
    PE X (.Call (.Attribute o m apos) (e :: es) [] pos) (tMeth C m sp [] E ta t) := by
  obtain ⟨f, fd, F, M, b⟩ := F.ex
  exact pe_meth he c M F (hr.mono hj) b .nil hx ha hst hpl ht
/-- the __init__ of a class that is made -/
structure Fi (P : Program) (w : World) (K : PySem.W.Frag) (mg : Str → Option Value) (base : Heap) (CX : CXT) (C : Addr) (k : Nat) (ps : List Str) (sp : Sp) : Prop where
  ex : ∃ (f : Addr) (fd : FuncData), FnOk P w K mg base CX k f fd ps sp ∧ Mk K C f ∧ Binds K fd ps []
theorem pe_mkF {CX : CXT} {C : Addr} {x : Str} {k j : Nat} {ps : List Str} {sp : Sp} {E : XK} {e : Expr} {es : List Expr} {t : TA} {p pos : Pos} (F : Fi X.prog X.w X.K X.mg X.base CX C k ps sp) (hr : Room j X.A) (hj : k + 1 ≤ j) (hg : Gl X x) (hm : X.mg x = some (.ref C)) (hx : Passes CX X E)
    (ha : PA X (e :: es) t) (hdb : (x == ("__debug__" : Str)) = false := by decide) (he : starEach (e :: es) X.env = (false, eval e X.env) :: starEach es X.env := by rfl) (hpl : (backTo pos (starEach es X.env)).any (·.1) = false := by rfl) :
    PE X (.Call (.Name x p) (e :: es) [] pos) (tMake C sp [] E t) := by
  obtain ⟨f, fd, F, M, b⟩ := F.ex
  exact pe_make M F (hr.mono hj) hg hm b .nil hx ha hdb he hpl
/-- either of two readings -/
theorem PE.or {e : Expr} {t u : TE} (h1 : PE X e t) (h2 : PE X e u) : PE X e (fun σ H Q => t σ H Q ∨ u σ H Q) :=
  ⟨fun pins s σ H Q I h => h.elim (h1.run pins s σ H Q I) (h2.run pins s σ H Q I)⟩
end
structure Di (K : PySem.W.Frag) (C : Addr) (qual : Str) (st : Stmt) (ps : List Str) : Prop where
  ex : ∃ (f : Addr) (fd : FuncData), Fun K "__init__" qual st f fd ∧ Mk K C f ∧ Binds K fd ps []
section
variable {P : Program} {w : World} {K : PySem.W.Frag} {mg : Str → Option Value} {base : Heap}
theorem Di.ok {C : Addr} {qual : Str} {st : Stmt} {N ps : List Str} {k : Nat} {sp : Sp} (D : Di K C qual st ps) (S : FnScope N ps (defScope st)) (len : ∀ vs H Q E, sp vs H Q E → vs.length = ps.length)
    (hbody : ∀ (f : Addr) (cdv : Value) (A : Around) (outer : List Env) (s : Shared) (H : Hp) (vs : List V) (Q : VK) (E : XK), Room k (A.deeper (envOfC qual (defScope st) s.heap.objs.size f cdv)) → sp vs H Q E →
      ∃ t, PSs (cxOf CX0 P w K mg base N qual (defScope st) f cdv A outer s H E).nox (defBody st) t ∧ t { nx := fun _ H' => Q .non H', rt := Q } (start N vs) H) : Fi P w K mg base CX0 C (k + 1) ps sp := by
  obtain ⟨f, fd, F, m, b⟩ := D.ex
  exact ⟨f, fd, F.ok S len (hbody f), m, b⟩
end
/-- for i, x in enumerate(xs) -/
theorem for_enum {K : PySem.W.Frag} {a : Addr} {xs : List V} {g : TG} {tb : TS} {D : Ends} {σ : L2.St} {H : Hp} (Pv : Nat → L2.St → Hp → Prop) (h0 : Pv 0 σ H) (hl : ∀ i σ H, i ≤ xs.length → Pv i σ H → SqL K H a xs)
    (hs : ∀ (i : Nat) x T σ H, xs[i]? = some x → Pv i σ H → H T = none → g (.ref T) σ (upd H T (.tup [.int (i : Int), x])) fun σ2 H2 => tb { D with nx := Pv (i + 1), ct := Pv (i + 1), bk := D.nx } σ2 H2) (hd : ∀ σ H, Pv xs.length σ H → D.nx σ H) :
    ∃ W : Nat → Nat → L2.St → Hp → Prop, (∃ m, W 0 m σ H) ∧ ∀ i m σ H, W i m σ H →
      ((Ite K a).stop i H ∧ D.nx σ H) ∨ ((Ite K a).go i H ∧ ∃ N : L2.St → Hp → Prop, (∀ σ' H', N σ' H' → ∃ m', m' < m ∧ W (i + 1) m' σ' H') ∧ ∀ x H', (Ite K a).yld i H x H' → g x σ H' fun σ2 H2 => tb { D with nx := N, ct := N, bk := D.nx } σ2 H2) := by
  refine ⟨fun i m σ H => m = xs.length - i ∧ i ≤ xs.length ∧ Pv i σ H, ⟨xs.length, by simp, Nat.zero_le _, h0⟩, ?_⟩
  rintro i m σ H ⟨rfl, hi, p⟩
  have q := hl i σ H hi p
  by_cases hlt : i < xs.length
  · refine .inr ⟨⟨xs, xs[i], q, by simp [hlt]⟩, Pv (i + 1), fun σ' H' p' => ⟨xs.length - (i + 1), by omega, rfl, hlt, p'⟩, fun x H' y => ?_⟩
    obtain ⟨T, z, rfl, nT, rfl, y⟩ := y
    exact hs i z T σ H (y xs q) p nT
  · have e : i = xs.length := by omega
    subst e
    exact .inl ⟨⟨xs, q, Nat.le_refl _⟩, hd σ H p⟩
theorem cut_to (xs : List V) (k : Nat) : cutV xs none (some (k : Int)) = xs.take k := by
  unfold cutV
  rw [HT.sIx_none, HT.sIx_nat, List.drop_zero, Nat.sub_zero]
  by_cases h : k ≤ xs.length
  · rw [Nat.min_eq_left h]
  · rw [Nat.min_eq_right (by omega), List.take_length, List.take_of_length_le (by omega)]
theorem cut_from (xs : List V) (k : Nat) : cutV xs (some (k : Int)) none = xs.drop k := by
  unfold cutV
  rw [HT.sIx_none, HT.sIx_nat]
  by_cases h : k ≤ xs.length
  · rw [Nat.min_eq_left h]
    exact List.take_of_length_le (by simp)
  · rw [Nat.min_eq_right (by omega), List.drop_of_length_le (Nat.le_refl _), List.drop_of_length_le (by omega)]
    simp
/-! ### the layer's rules with the written part named -/
section
variable {X : Cx} {K : PySem.W.Frag}
theorem sl_listE (hK : X.K = K := by rfl) : SlR X (rSlL K) := by subst hK; exact sl_list
theorem ix_listE (hK : X.K = K := by rfl) : IxR X (rIxL K) := by subst hK; exact ix_list
theorem ix_tupE (hK : X.K = K := by rfl) : IxR X (rIxT K) := by subst hK; exact ix_tup
theorem call_lenE (hK : X.K = K := by rfl) : CallR X (.builtin "len") (Evl.rLenS K) := by subst hK; exact call_len_seq
theorem call_listE (hK : X.K = K := by rfl) : CallR X (.type "list") (Evl.rListS K) := by subst hK; exact call_list_of
theorem cr_sumE (hc : X.calm = true) (hK : X.K = K := by rfl) : CallR X (.builtin "sum") (rSum K) := by subst hK; exact cr_sum hc
theorem cr_anyE (hc : X.calm = true) (hK : X.K = K := by rfl) : CallR X (.builtin "any") (rAny K) := by subst hK; exact cr_any hc
theorem cr_allE (hc : X.calm = true) (hK : X.K = K := by rfl) : CallR X (.builtin "all") (rAll K) := by subst hK; exact cr_all hc
theorem cr_sortedE (hK : X.K = K := by rfl) : CallR X (.builtin "sorted") (rSortedI K) := by subst hK; exact cr_sortedI
theorem call_isiE (hK : X.K = K := by rfl) : CallR X (.builtin "isinstance") (rIsi K) := by subst hK; exact call_isi
theorem op_inE (hK : X.K = K := by rfl) : OpR X (compareOp .In) (rIn K false) := by subst hK; exact op_in_seq
theorem op_notInE (hK : X.K = K := by rfl) : OpR X (compareOp .NotIn) (rIn K true) := by subst hK; exact op_notIn_seq
theorem op_eqDE (hu : X.A.units + 64 < cLine) (hK : X.K = K := by rfl) : OpR X (compareOp .Eq) (rEqD K) := by subst hK; exact op_eqD hu
theorem op_neDE (hu : X.A.units + 64 < cLine) (hK : X.K = K := by rfl) : OpR X (compareOp .NotEq) (rNeD K) := by subst hK; exact op_neD hu
end
end Ew
namespace Ew
open PySem PySem.Spec PyProof.Rows L2 Evl Evm
/-! ### numbers in the heap -/
def PairsAt (H : Hp) (xs : List V) (ns : Nm) : Prop := xs.length = ns.length ∧ ∀ (i : Nat) (q : Int × Nat), ns[i]? = some q → ∃ t : Addr, xs[i]? = some (.ref t) ∧ H t = some (.tup [.int q.1, .int (q.2 : Int)])
def NumAt (H : Hp) (a : Addr) (ns : Nm) : Prop := ∃ xs, H a = some (.lst xs) ∧ PairsAt H xs ns
abbrev IntsAt (H : Hp) (a : Addr) (l : List Int) : Prop := H a = some (.lst (l.map V.int))
theorem PairsAt.ex {H H' : Hp} {xs : List V} {ns : Nm} (e : Ex H H') (h : PairsAt H xs ns) : PairsAt H' xs ns :=
  ⟨h.1, fun i q hi => let ⟨t, h1, h2⟩ := h.2 i q hi; ⟨t, h1, e _ _ h2⟩⟩
theorem NumAt.ex {H H' : Hp} {a : Addr} {ns : Nm} (e : Ex H H') (h : NumAt H a ns) : NumAt H' a ns :=
  let ⟨xs, h1, h2⟩ := h; ⟨xs, e _ _ h1, h2.ex e⟩
theorem PairsAt.at {H : Hp} {xs : List V} {ns : Nm} (h : PairsAt H xs ns) {i : Nat} {x : V} (hx : xs[i]? = some x) : ∃ q t, ns[i]? = some q ∧ x = .ref t ∧ H t = some (.tup [.int q.1, .int (q.2 : Int)]) := by
  have hi : i < ns.length := by
    have := (List.getElem?_eq_some_iff.mp hx).1
    rw [h.1] at this
    exact this
  obtain ⟨t, h1, h2⟩ := h.2 i ns[i] (List.getElem?_eq_getElem hi)
  rw [hx] at h1
  exact ⟨ns[i], t, List.getElem?_eq_getElem hi, Option.some.inj h1, h2⟩
theorem PairsAt.nil {H : Hp} : PairsAt H [] [] := ⟨rfl, fun i q h => by simp at h⟩
theorem PairsAt.snoc {H : Hp} {xs : List V} {ns : Nm} {t : Addr} {q : Int × Nat} (h : PairsAt H xs ns) (ht : H t = some (.tup [.int q.1, .int (q.2 : Int)])) : PairsAt H (xs ++ [.ref t]) (ns ++ [q]) := by
  refine ⟨by simp [h.1], fun i z hz => ?_⟩
  by_cases c : i < ns.length
  · rw [List.getElem?_append_left c] at hz
    obtain ⟨u, h1, h2⟩ := h.2 i z hz
    exact ⟨u, by rw [List.getElem?_append_left (by rw [h.1]; exact c)]; exact h1, h2⟩
  · have e : i = ns.length := by
      have := (List.getElem?_eq_some_iff.mp hz).1
      simp at this
      omega
    subst e
    have : z = q := by simpa using hz.symm
    subst this
    exact ⟨t, by rw [← h.1]; simp, ht⟩
theorem PairsAt.take {H : Hp} {xs : List V} {ns : Nm} (h : PairsAt H xs ns) (k : Nat) : PairsAt H (xs.take k) (ns.take k) := by
  refine ⟨by simp [h.1], fun i z hz => ?_⟩
  rw [List.getElem?_take] at hz
  by_cases c : i < k
  · rw [if_pos c] at hz
    obtain ⟨u, h1, h2⟩ := h.2 i z hz
    exact ⟨u, by rw [List.getElem?_take, if_pos c]; exact h1, h2⟩
  · rw [if_neg c] at hz; cases hz
theorem PairsAt.cons {H : Hp} {xs : List V} {ns : Nm} {t : Addr} {q : Int × Nat} (ht : H t = some (.tup [.int q.1, .int (q.2 : Int)])) (h : PairsAt H xs ns) : PairsAt H (.ref t :: xs) (q :: ns) := by
  refine ⟨by simp [h.1], fun i z hz => ?_⟩
  cases i with
  | zero => cases hz; exact ⟨t, rfl, ht⟩
  | succ i => exact h.2 i z hz
/-- a new tracked list, a number or a value behind a call -/
theorem ex_upd {H H' : Hp} {p : Addr} {o : HO} (e : Ex H H') (h : H' p = none) : Ex H (upd H' p o) := e.trans (Ex.new h)
theorem take_get {α : Type} {l : List α} {i : Nat} {x : α} (h : l[i]? = some x) : l.take (i + 1) = l.take i ++ [x] := by
  rw [List.take_add_one, h]
  rfl
theorem rawF_snoc (f : List Int) (ns : Nm) (q : Int × Nat) : rawF f (ns ++ [q]) = stp (rawF f ns) q.1 q.2 := by
  unfold rawF
  rw [List.foldl_append]
  rfl
theorem totF_snoc (t : Int) (ns : Nm) (q : Int × Nat) : totF t (ns ++ [q]) = totF t ns * geo q.1 q.2 := by
  unfold totF
  rw [List.foldl_append]
  rfl
def stpN (f : List Int) (p : Int) (n : Nat) : List Int := (List.range n).flatMap fun i => f.map fun x => p ^ i * x
theorem stpN_up (f : List Int) (p : Int) (n : Nat) : stpN f p (n + 1) = stpN f p n ++ f.map fun x => p ^ n * x := by
  unfold stpN
  rw [List.range_succ, List.flatMap_append]
  simp
theorem stpN_len (f : List Int) (p : Int) : ∀ n, (stpN f p n).length = f.length * n
  | 0 => rfl
  | n + 1 => by rw [stpN_up, List.length_append, List.length_map, stpN_len f p n, Nat.mul_succ]
theorem mem_get {α : Type} {l : List α} {i : Nat} {x : α} (h : l[i]? = some x) : x ∈ l := List.mem_of_getElem? h
theorem mnyF_snoc (t : Nat) (ns : Nm) (q : Int × Nat) : mnyF t (ns ++ [q]) = mnyF t ns * (q.2 + 1) := by
  unfold mnyF
  rw [List.foldl_append]
  rfl
theorem sizeL {n : Nat} (h : n ≤ 100000) : n ≤ sizeLine := Nat.le_trans h (by decide)
/-- what is asked of a number ahead of its divisors -/
structure Lo (ns : Nm) : Prop where
  low : Low ns
  many : mny ns ≤ 500
theorem Lo.take {ns : Nm} (h : Lo ns) (i : Nat) : Lo (ns.take i) := ⟨h.low.take i, Nat.le_trans (mny_take ns i) h.many⟩
theorem Lo.exp {ns : Nm} (h : Lo ns) : ∀ q ∈ ns, q.2 ≤ 499 := fun q hq => by
  have h1 := mnyF_ge ns 1 (by decide)
  have h2 : mnyF 1 ns ≤ 500 := h.many
  have h3 : q.2 ≤ exps ns := by
    unfold exps
    exact le_sum_nat (List.mem_map.mpr ⟨q, hq, rfl⟩)
  omega
theorem okLo {ns : Nm} (h : Ok ns) : Lo ns := ⟨h.low, h.many⟩
theorem pow_lt {p : Int} (h1 : 1 ≤ p) (h2 : p ≤ 1024) {e : Nat} (h : e ≤ 1000) : 1 ≤ p ^ e ∧ p ^ e < 2 ^ 10001 := by
  obtain ⟨a, b⟩ := pow_le h1 h2 e
  refine ⟨b, ?_⟩
  have c : (2 : Int) ^ (10 * e) ≤ 2 ^ 10000 := pow2_mono (by omega)
  rw [← pow1024] at c
  have d : (2 : Int) ^ 10001 = 2 ^ 10000 * 2 := Int.pow_succ ..
  have f : (0 : Int) < 2 ^ 10000 := Int.pow_pos (by decide)
  omega
theorem geo_ge (p : Int) (hp : 2 ≤ p) (e : Nat) : geo p e ≤ p ^ (e + 1) := by
  have h := geo_mul p e
  have g := geo_pos (p := p) (by omega) e
  have : 1 * geo p e ≤ (p - 1) * geo p e := Int.mul_le_mul_of_nonneg_right (by omega) (by omega)
  omega
theorem et_yes {σ : L2.St} {H : Hp} : EvT tYes σ H true := fun H1 _ _ q => q H1 (Ex.refl H1)
theorem given_list {α : Type} (l : List α) (d : α) (c : α → Bool) (g : α → V) : given l.length (fun i => c (l.getD i d)) (fun i => g (l.getD i d)) = (l.filter c).map g := by
  have e : l = (List.range l.length).map fun i => l.getD i d := by
    refine List.ext_getElem? fun i => ?_
    rw [List.getElem?_map]
    by_cases h : i < l.length
    · rw [List.getElem?_range h, List.getElem?_eq_getElem h]
      simp [h]
    · rw [List.getElem?_eq_none (by omega), List.getElem?_eq_none (by simp; omega)]
      rfl
  unfold given
  conv => rhs; rw [e]
  rw [List.filter_map, List.map_map]
  rfl
/-- [te for x in l if t], l given by emb *-/
theorem el_lcM {K : PySem.W.Frag} {σ : L2.St} {H : Hp} {α : Type} (emb : α → V) (l : List α) (c : α → Bool) (g : α → V) {a : Addr} {tl te : TE} {t : TT} {j : Nat} {vs : List Nat} (h : Evl.Ev tl σ H (.ref a)) (hx : SqL K H a (l.map emb)) (hz : l.length ≤ 40000)
    (hw : ∀ x, wipe ((wipe σ vs).set j (some x)) vs = wipe σ vs) (ht : ∀ x ∈ l, ∀ H1, Ex H H1 → EvT t ((wipe σ vs).set j (some (emb x))) H1 (c x)) (he : ∀ x ∈ l, ∀ H1, Ex H H1 → c x = true → Evl.Ev te ((wipe σ vs).set j (some (emb x))) H1 (g x)) :
    EvL (tLc (iList K tl) (gName j) t te vs) σ H ((l.filter c).map g) := by
  cases l with
  | nil =>
    refine (el_lcL (K := K) (xs := []) (fun _ => true) (fun _ => .non) h hx (by decide) hw (fun i x H1 _ e => by simp at e) (fun i x H1 _ e => by simp at e))
  | cons z r =>
    have q := el_lcL (K := K) (xs := (z :: r).map emb) (fun i => c ((z :: r).getD i z)) (fun i => g ((z :: r).getD i z)) h hx (by simpa using hz) hw (t := t) (te := te) (fun i x H1 e hi => ?_) (fun i x H1 e hi hc => ?_)
    · rw [List.length_map, given_list (z :: r) z c g] at q
      exact q
    · rw [List.getElem?_map] at hi
      cases hy : (z :: r)[i]? with
      | none => rw [hy] at hi; cases hi
      | some y =>
        rw [hy] at hi
        cases hi
        have : (z :: r).getD i z = y := by rw [List.getD_eq_getElem?_getD, hy]; rfl
        rw [this]
        exact ht y (List.mem_of_getElem? hy) H1 e
    · rw [List.getElem?_map] at hi
      cases hy : (z :: r)[i]? with
      | none => rw [hy] at hi; cases hi
      | some y =>
        rw [hy] at hi
        cases hi
        have e2 : (z :: r).getD i z = y := by rw [List.getD_eq_getElem?_getD, hy]; rfl
        rw [e2] at hc ⊢
        exact he y (List.mem_of_getElem? hy) H1 e hc
end Ew
namespace Ew
open PySem PySem.Spec PyProof.Rows L2 Evl Evm
/-! ### the law's own numbers -/
def scB : Nat := 1048576
theorem sz_add {x y : Int} {a : Nat} (hx : x.natAbs < 2 ^ a) (hy : y.natAbs < 2 ^ a) : (x + y).natAbs < 2 ^ (a + 1) := by
  have := Int.natAbs_add_le x y
  rw [Nat.pow_succ]
  omega
theorem sz_mul {x y : Int} {a b : Nat} (hx : x.natAbs < 2 ^ a) (hy : y.natAbs < 2 ^ b) : (x * y).natAbs < 2 ^ (a + b) := by
  rw [Int.natAbs_mul, Nat.pow_add]
  exact Nat.mul_lt_mul'' hx hy
theorem sz_mono {x : Int} {a b : Nat} (hx : x.natAbs < 2 ^ a) (h : a ≤ b) : x.natAbs < 2 ^ b := Nat.lt_of_lt_of_le hx (Nat.pow_le_pow_right (by decide) h)
theorem okNil : Ok [] := ⟨List.Pairwise.nil, by simp, by simp, by simp, by decide⟩
theorem okSnoc {ms : Nm} {p : Int} {e : Nat} (h : Ok ms) (hp : 2 ≤ p ∧ p ≤ 997) (hpr : parted p = false) (hl : ∀ q ∈ ms, q.1 < p) (he : 1 ≤ e) (hm : mny ms * (e + 1) ≤ 500) : Ok (ms ++ [(p, e)]) := by
  refine ⟨?_, ?_, ?_, ?_, ?_⟩
  · refine List.pairwise_append.mpr ⟨h.rise, List.pairwise_singleton .., fun a ha b hb => ?_⟩
    rw [List.mem_singleton.mp hb]
    exact hl a ha
  · intro q hq
    rcases List.mem_append.mp hq with z | z
    · exact h.le q z
    · rw [List.mem_singleton.mp z]; exact hp
  · intro q hq
    rcases List.mem_append.mp hq with z | z
    · exact h.prime q z
    · rw [List.mem_singleton.mp z]; exact hpr
  · intro q hq
    rcases List.mem_append.mp hq with z | z
    · exact h.pos q z
    · rw [List.mem_singleton.mp z]; exact he
  · unfold mny
    rw [mnyF_snoc]
    exact hm
theorem tab_a : ∀ k : Nat, k < 6 → ∃ v : Int, ([.int 1, .int 2, .int 4, .int 40, .int 300, .int 3] : List V)[k]? = some (.int v) ∧ 1 ≤ v ∧ v ≤ 300
  | 0, _ => ⟨_, rfl, by decide, by decide⟩
  | 1, _ => ⟨_, rfl, by decide, by decide⟩
  | 2, _ => ⟨_, rfl, by decide, by decide⟩
  | 3, _ => ⟨_, rfl, by decide, by decide⟩
  | 4, _ => ⟨_, rfl, by decide, by decide⟩
  | 5, _ => ⟨_, rfl, by decide, by decide⟩
  | n + 6, h => absurd h (by omega)
theorem tab_b : ∀ k : Nat, k < 6 → ∃ v : Int, ([.int 6, .int 3, .int 2, .int 2, .int 1, .int 2] : List V)[k]? = some (.int v) ∧ 1 ≤ v ∧ v ≤ 6
  | 0, _ => ⟨_, rfl, by decide, by decide⟩
  | 1, _ => ⟨_, rfl, by decide, by decide⟩
  | 2, _ => ⟨_, rfl, by decide, by decide⟩
  | 3, _ => ⟨_, rfl, by decide, by decide⟩
  | 4, _ => ⟨_, rfl, by decide, by decide⟩
  | 5, _ => ⟨_, rfl, by decide, by decide⟩
  | n + 6, h => absurd h (by omega)
theorem tab_c : ∀ k : Nat, k < 4 → ∃ v : Int, ([.int 1, .int 7, .int 49, .int 343] : List V)[k]? = some (.int v) ∧ 1 ≤ v ∧ v ≤ 343
  | 0, _ => ⟨_, rfl, by decide, by decide⟩
  | 1, _ => ⟨_, rfl, by decide, by decide⟩
  | 2, _ => ⟨_, rfl, by decide, by decide⟩
  | 3, _ => ⟨_, rfl, by decide, by decide⟩
  | n + 4, h => absurd h (by omega)
def prms : List Int := [1000003, 1000033, 1000037, 1000039, 1000081, 1000099, 1000117, 1000121, 1000133, 1000151, 1000159, 1000171, 1000183, 1000187, 1000193, 1000199]
theorem tab_d (k : Nat) (h : k < 16) : ∃ v : Int, (prms.map V.int)[k]? = some (.int v) ∧ 1 ≤ v := by
  have hk : k < prms.length := h
  refine ⟨prms[k], by rw [List.getElem?_map, List.getElem?_eq_getElem hk]; rfl, ?_⟩
  have : ∀ x ∈ prms, 1 ≤ x := by decide
  exact this _ (List.getElem_mem hk)
theorem atI_of {xs : List V} {i : Int} {k : Nat} {v : V} (e : i = (k : Int)) (h : xs[k]? = some v) : atI xs i = some v := by
  rw [e]
  exact atI_nat h
theorem parted_1301 : parted 1301 = false := by decide +kernel
def pwl (p : Int) (n : Nat) : List Int := (List.range n).map fun i => p ^ i
theorem pwl_up (p : Int) (n : Nat) : pwl p (n + 1) = pwl p n ++ [p ^ n] := by
  unfold pwl
  rw [List.range_succ, List.map_append]
  rfl
theorem pwl_one (p : Int) : pwl p 1 = [1] := by rw [pwl_up, Int.pow_zero]; rfl
theorem pwl_len (p : Int) (n : Nat) : (pwl p n).length = n := by unfold pwl; simp
theorem pwl_sum (p : Int) : ∀ e, (pwl p (e + 1)).sum = geo p e
  | 0 => by rw [pwl_up]; simp [pwl, geo]
  | e + 1 => by
    have ih := pwl_sum p e
    have h1 : pwl p (e + 1 + 1) = 1 :: (pwl p (e + 1)).map fun x => p * x := by
      unfold pwl
      rw [List.range_succ_eq_map, List.map_cons, List.map_map, List.map_map, Int.pow_zero]
      congr 1
      refine List.map_congr_left fun i _ => ?_
      show p ^ (i + 1) = p * p ^ i
      rw [Int.pow_succ, Int.mul_comm]
    rw [h1, List.sum_cons, sum_mul, ih]
    rfl
theorem barF_step {t : Int} {ns : Nm} {i : Nat} {q : Int × Nat} (h : ns[i]? = some q) : barF t (ns.drop i) = if q.1 > t + 1 then t + 1 else barF (t * geo q.1 q.2) (ns.drop (i + 1)) := by
  obtain ⟨hi, e⟩ := List.getElem?_eq_some_iff.mp h
  rw [List.drop_eq_getElem_cons hi, e]
  rfl
theorem allF_step {t : Int} {l : List Int} {i : Nat} {x : Int} (h : l[i]? = some x) : allF t (l.drop i) = if x > t + 1 then false else allF (t + x) (l.drop (i + 1)) := by
  obtain ⟨hi, e⟩ := List.getElem?_eq_some_iff.mp h
  rw [List.drop_eq_getElem_cons hi, e]
  rfl
theorem int_at {l : List Int} {i : Nat} {x : V} (h : (l.map V.int)[i]? = some x) : ∃ z, l[i]? = some z ∧ x = .int z := by
  rw [List.getElem?_map] at h
  cases e : l[i]? with
  | none => rw [e] at h; cases h
  | some z => rw [e] at h; exact ⟨z, rfl, (Option.some.inj h).symm⟩
theorem sum_snoc {l : List Int} {i : Nat} {z : Int} (h : l[i]? = some z) : (l.take (i + 1)).sum = (l.take i).sum + z := by
  rw [take_get h, List.sum_append]
  simp
theorem tot_snoc {ns : Nm} {i : Nat} {q : Int × Nat} (h : ns[i]? = some q) : tot (ns.take (i + 1)) = tot (ns.take i) * geo q.1 q.2 := by
  rw [take_get h]
  exact totF_snoc _ _ _
theorem kit_int : kitB "int" "int" = some true := by decide +kernel
theorem kit_int_bool : kitB "int" "bool" = some false := by decide +kernel
theorem kit_bool : kitB "bool" "bool" = some true := by decide +kernel
theorem ipow {k : Nat} : ((10 : Int) ^ k) = ((10 ^ k : Nat) : Int) := by rw [Int.natCast_pow]; rfl
end Ew
namespace Ew
open PySem PySem.Spec PyProof.Rows L2 Evl Evm
theorem given_parts (p : Int) : given (30 : Nat) (fun i => decide ((2 : Int) + (i : Int) < p)) (fun i => V.bl (decide (V.int (p % ((2 : Int) + (i : Int))) = V.int 0))) = ((parts p).map fun d => decide (p % d = 0)).map V.bl := by
  unfold given parts
  rw [List.map_map, List.map_map]
  refine List.map_congr_left fun i _ => ?_
  show V.bl _ = V.bl _
  congr 1
  rw [dec_int]
  exact Bool.beq_eq_decide_eq ..
/-- any([p % part == 0 for part in range(2, 32) if part < p]) -/
theorem ev_anyParts {K : PySem.W.Frag} {σ : L2.St} {H : Hp} {i j : Nat} {p : Int} {vs : List Nat} (h0 : ∀ x : V, wipe ((wipe σ vs).set j (some x)) vs = wipe σ vs) (h1 : ∀ x : V, ((wipe σ vs).set j (some x))[i]? = some (some (.int p))) (h2 : ∀ x : V, ((wipe σ vs).set j (some x))[j]? = some (some x)) :
    Evl.Ev (tCB (rAny K) (tCons (tLc (iRng2 (tCons (tC (.int 2)) (tCons (tC (.int 32)) tNil))) (gName j) (tTest (tOp (rI0 fun i j => .bl (decide (i < j))) (tVar j) (tVar i))) (tOp rEq (tOp (rI (fun _ j => 0 < j) fun i j => .int (i % j)) (tVar i) (tVar j)) (tC (.int 0))) vs) tNil)) σ H (.bl (parted p)) := by
  intro H1 e Q q
  refine ⟨2, 32, rfl, ⟨by decide, by decide, by decide, by decide⟩, fun D hD => lc_range (lo := 2) (n := ((32 : Int) - 2).toNat) (Cw H1 (fun i => decide ((2 : Int) + (i : Int) < p)) (fun i => V.bl (decide (V.int (p % ((2 : Int) + (i : Int))) = V.int 0))) D) ⟨hD, Ex.new hD, upd_same⟩ ?_ ?_⟩
  · intro k H' hk pw
    refine ⟨h0 _, cw_turn pw (by have : k < 30 := hk; omega) (et_test (ev_op (ev_var (h2 _)) (ev_var (h1 _)) rv_I0)) fun _ => ev_op (ev_op (ev_var (h1 _)) (ev_var (h2 _)) (rv_I (by omega))) ev_c (rv_eq rfl)⟩
  · rintro H' ⟨_, e1, hl⟩
    have hl' : H' D = some (.lst (given (30 : Nat) (fun i => decide ((2 : Int) + (i : Int) < p)) (fun i => V.bl (decide (V.int (p % ((2 : Int) + (i : Int))) = V.int 0))))) := hl
    rw [given_parts] at hl'
    refine ⟨D, _, rfl, SqL.of hl', ?_⟩
    have : ((parts p).map fun d => decide (p % d = 0)).any id = parted p := by
      unfold parted
      rw [List.any_map]
      rfl
    rw [this]
    exact q H' e1
section
variable {K : PySem.W.Frag} {σ : L2.St} {H : Hp} {ta : TE}
theorem ev_sumL {l : List Int} (h : EvL ta σ H (l.map V.int)) : Evl.Ev (tCB (rSum K) (tCons ta tNil)) σ H (.int l.sum) := fun H1 e Q q =>
  h H1 e _ fun p H2 _ e2 hp => ⟨p, l, rfl, SqL.of hp, q H2 e2⟩
theorem ev_sumI {l : List Int} {a : Addr} (h : Evl.Ev ta σ H (.ref a)) (hl : SqL K H a (l.map V.int)) : Evl.Ev (tCB (rSum K) (tCons ta tNil)) σ H (.int l.sum) := fun H1 e Q q =>
  h H1 e _ fun H2 e2 => ⟨a, l, rfl, ex_l (e.trans e2) hl, q H2 e2⟩
theorem ev_allL {bs : List Bool} (h : EvL ta σ H (bs.map V.bl)) : Evl.Ev (tCB (rAll K) (tCons ta tNil)) σ H (.bl (bs.all id)) := fun H1 e Q q =>
  h H1 e _ fun p H2 _ e2 hp => ⟨p, bs, rfl, SqL.of hp, q H2 e2⟩
theorem ev_anyL {bs : List Bool} (h : EvL ta σ H (bs.map V.bl)) : Evl.Ev (tCB (rAny K) (tCons ta tNil)) σ H (.bl (bs.any id)) := fun H1 e Q q =>
  h H1 e _ fun p H2 _ e2 hp => ⟨p, bs, rfl, SqL.of hp, q H2 e2⟩
theorem el_is {xs ys : List V} (h : EvL ta σ H xs) (e : xs = ys) : EvL ta σ H ys := by rw [← e]; exact h
end
end Ew
namespace Ew
open PySem PySem.Spec PyProof.Rows L2 Evl Evm
theorem low_y {z n : Int} (h : z ≤ n) : (lowF n [z]).sum = z := by
  unfold lowF
  rw [List.filter_cons_of_pos (p := fun x => decide (x ≤ n)) (decide_eq_true h)]
  simp
theorem low_n {z n : Int} (h : ¬ z ≤ n) : (lowF n [z]).sum = 0 := by
  unfold lowF
  rw [List.filter_cons_of_neg (p := fun x => decide (x ≤ n)) (by rw [decide_eq_false h]; decide)]
  simp
/-! ### cuts of lists -/
def cutG {α : Type} (xs : List α) (lo hi : Option Int) : List α := (xs.drop (HT.sIx xs.length 0 lo)).take (HT.sIx xs.length xs.length hi - HT.sIx xs.length 0 lo)
theorem cut_map {α : Type} (f : α → V) (l : List α) (lo hi : Option Int) : cutV (l.map f) lo hi = (cutG l lo hi).map f := by
  unfold cutV cutG
  rw [List.length_map, List.map_take, List.map_drop]
theorem cutG_len {α : Type} (xs : List α) (lo hi : Option Int) : (cutG xs lo hi).length ≤ xs.length := by
  unfold cutG
  rw [List.length_take, List.length_drop]
  omega
section
variable {K : PySem.W.Frag} {σ : L2.St} {H : Hp} {ta tb te tl : TE}
/-! ### lists made on the way -/
theorem el_cat {xs ys : List V} (ha : EvL ta σ H xs) (hb : EvL tb σ H ys) (hz : xs.length + ys.length ≤ 100000) : EvL (tOp rCat ta tb) σ H (xs ++ ys) := fun H1 e Q q =>
  ha H1 e _ fun p H2 np e2 hp => hb H2 (e.trans e2) _ fun r H3 nr e3 hr => ⟨p, r, xs, ys, rfl, rfl, e3 _ _ hp, hr, sz_of hz, fun l nl => q l _ (fresh_back (e2.trans e3) nl) ((e2.trans e3).trans (Ex.new nl)) upd_same⟩
theorem el_catV {xs ys : List V} {a : Addr} (ha : Evl.Ev ta σ H (.ref a)) (hx : H a = some (.lst xs)) (hb : EvL tb σ H ys) (hz : xs.length + ys.length ≤ 100000) : EvL (tOp rCat ta tb) σ H (xs ++ ys) := fun H1 e Q q =>
  ha H1 e _ fun H2 e2 => hb H2 (e.trans e2) _ fun r H3 nr e3 hr => ⟨a, r, xs, ys, rfl, rfl, ((e.trans e2).trans e3) _ _ hx, hr, sz_of hz, fun l nl => q l _ (fresh_back (e2.trans e3) nl) ((e2.trans e3).trans (Ex.new nl)) upd_same⟩
theorem el_catVV {xs ys : List V} {a b : Addr} (ha : Evl.Ev ta σ H (.ref a)) (hx : H a = some (.lst xs)) (hb : Evl.Ev tb σ H (.ref b)) (hy : H b = some (.lst ys)) (hz : xs.length + ys.length ≤ 100000) : EvL (tOp rCat ta tb) σ H (xs ++ ys) := fun H1 e Q q =>
  ha H1 e _ fun H2 e2 => hb H2 (e.trans e2) _ fun H3 e3 => ⟨a, b, xs, ys, rfl, rfl, ((e.trans e2).trans e3) _ _ hx, ((e.trans e2).trans e3) _ _ hy, sz_of hz, fun l nl => q l _ (fresh_back (e2.trans e3) nl) ((e2.trans e3).trans (Ex.new nl)) upd_same⟩
def rgI (a b : Int) : List Int := (List.range (b - a).toNat).map fun i => a + (i : Nat)
theorem el_rg {i j : Int} (ha : Evl.Ev ta σ H (.int i)) (hb : Evl.Ev tb σ H (.int j)) (ok : RgOk i j) : EvL (tLstRg (tRg2 ta tb)) σ H ((rgI i j).map V.int) := fun H1 e Q q =>
  ha H1 e _ fun H2 e2 => hb H2 (e.trans e2) _ fun H3 e3 => ⟨i, j, rfl, rfl, ok, fun p np => q p _ (fresh_back (e2.trans e3) np) ((e2.trans e3).trans (Ex.new np)) (by
    rw [upd_same]
    unfold rgV rgI
    rw [List.map_map]
    rfl)⟩
theorem el_slI {tl th : TO} {a : Addr} {l : List Int} {lo hi : Option Int} (h : Evl.Ev te σ H (.ref a)) (h1 : EvO tl σ H lo) (h2 : EvO th σ H hi) (hs : IntsAt H a l) : EvL (tSl (rSlL K) te tl th) σ H ((cutG l lo hi).map V.int) :=
  el_is (el_sl h h1 h2 (SqL.of hs)) (cut_map V.int l lo hi)
/-- [te for x in l if t], l a new list -/
theorem el_lcMN {α : Type} (emb : α → V) (l : List α) (c : α → Bool) (g : α → V) {t : TT} {j : Nat} {vs : List Nat} (h : EvL tl σ H (l.map emb)) (hz : l.length ≤ 40000)
    (hw : ∀ x, wipe ((wipe σ vs).set j (some x)) vs = wipe σ vs) (ht : ∀ x ∈ l, ∀ H1, Ex H H1 → EvT t ((wipe σ vs).set j (some (emb x))) H1 (c x)) (he : ∀ x ∈ l, ∀ H1, Ex H H1 → c x = true → Evl.Ev te ((wipe σ vs).set j (some (emb x))) H1 (g x)) :
    EvL (tLc (iList K tl) (gName j) t te vs) σ H ((l.filter c).map g) := by
  cases l with
  | nil =>
    refine (el_lcNL (K := K) (xs := []) (fun _ => true) (fun _ => .non) h (by decide) hw (fun i x H1 _ e => by simp at e) (fun i x H1 _ e => by simp at e))
  | cons z r =>
    have q := el_lcNL (K := K) (xs := (z :: r).map emb) (fun i => c ((z :: r).getD i z)) (fun i => g ((z :: r).getD i z)) h (by simpa using hz) hw (t := t) (te := te) (fun i x H1 e hi => ?_) (fun i x H1 e hi hc => ?_)
    · rw [List.length_map, given_list (z :: r) z c g] at q
      exact q
    · rw [List.getElem?_map] at hi
      cases hy : (z :: r)[i]? with
      | none => rw [hy] at hi; cases hi
      | some y =>
        rw [hy] at hi
        cases hi
        have : (z :: r).getD i z = y := by rw [List.getD_eq_getElem?_getD, hy]; rfl
        rw [this]
        exact ht y (List.mem_of_getElem? hy) H1 e
    · rw [List.getElem?_map] at hi
      cases hy : (z :: r)[i]? with
      | none => rw [hy] at hi; cases hi
      | some y =>
        rw [hy] at hi
        cases hi
        have e2 : (z :: r).getD i z = y := by rw [List.getD_eq_getElem?_getD, hy]; rfl
        rw [e2] at hc ⊢
        exact he y (List.mem_of_getElem? hy) H1 e hc
/-- [te for x in l] -/
theorem el_map {α : Type} (emb : α → V) (l : List α) (g : α → V) {a : Addr} {j : Nat} {vs : List Nat} (h : Evl.Ev tl σ H (.ref a)) (hx : SqL K H a (l.map emb)) (hz : l.length ≤ 40000)
    (hw : ∀ x, wipe ((wipe σ vs).set j (some x)) vs = wipe σ vs) (he : ∀ x ∈ l, ∀ H1, Ex H H1 → Evl.Ev te ((wipe σ vs).set j (some (emb x))) H1 (g x)) : EvL (tLc (iList K tl) (gName j) tYes te vs) σ H (l.map g) :=
  el_is (el_lcM emb l (fun _ => true) g h hx hz hw (fun _ _ _ _ => et_yes) fun x hx H1 e _ => he x hx H1 e) (by rw [List.filter_eq_self.mpr (fun _ _ => rfl)])
theorem el_mapN {α : Type} (emb : α → V) (l : List α) (g : α → V) {j : Nat} {vs : List Nat} (h : EvL tl σ H (l.map emb)) (hz : l.length ≤ 40000)
    (hw : ∀ x, wipe ((wipe σ vs).set j (some x)) vs = wipe σ vs) (he : ∀ x ∈ l, ∀ H1, Ex H H1 → Evl.Ev te ((wipe σ vs).set j (some (emb x))) H1 (g x)) : EvL (tLc (iList K tl) (gName j) tYes te vs) σ H (l.map g) :=
  el_is (el_lcMN emb l (fun _ => true) g h hz hw (fun _ _ _ _ => et_yes) fun x hx H1 e _ => he x hx H1 e) (by rw [List.filter_eq_self.mpr (fun _ _ => rfl)])
/-- [te for i in range(n)] -/
theorem el_mapR {ta : TA} {n : Nat} (g : Nat → V) {j : Nat} {vs : List Nat} (h : EvA ta σ H [.int (n : Int)]) (hz : n ≤ 40000)
    (hw : ∀ x, wipe ((wipe σ vs).set j (some x)) vs = wipe σ vs) (he : ∀ i : Nat, i < n → ∀ H1, Ex H H1 → Evl.Ev te ((wipe σ vs).set j (some (.int (i : Int)))) H1 (g i)) : EvL (tLc (iRng1 ta) (gName j) tYes te vs) σ H ((List.range n).map g) := by
  have q := el_lcR1 (te := te) (fun _ => true) g h ⟨by omega, by omega⟩ hw (fun i H1 e hi => et_yes) (fun i H1 e hi _ => he i (by omega) H1 e)
  refine el_is q ?_
  unfold given
  rw [List.filter_eq_self.mpr (fun _ _ => rfl), Int.toNat_natCast]
/-! ### numbers as values -/
def EvN (te : TE) (σ : L2.St) (H : Hp) (ns : Nm) : Prop := ∀ H1, Ex H H1 → ∀ Q : VK, (∀ a H2, Ex H1 H2 → NumAt H2 a ns → Q (.ref a) H2) → te σ H1 Q
theorem en_var {i : Nat} {a : Addr} {ns : Nm} (h : σ[i]? = some (some (.ref a))) (hn : NumAt H a ns) : EvN (tVar i) σ H ns := fun H1 e Q q => ⟨_, h, q a H1 (Ex.refl _) (hn.ex e)⟩
theorem en_nil : EvN (tLst tNil) σ H [] := fun H1 e Q q => ⟨sizeL (by decide), fun p np => q p _ (Ex.new np) ⟨[], upd_same, PairsAt.nil⟩⟩
theorem en_1 {p e : Int} {k : Nat} (he : e = (k : Int)) : EvN (tLst (tCons (tTup (tCons (tC (.int p)) (tCons (tC (.int e)) tNil))) tNil)) σ H [(p, k)] := fun H1 ex Q q =>
  ⟨sizeL (by show 2 ≤ 100000; decide), fun t nt => ⟨sizeL (by show 1 ≤ 100000; decide), fun l nl => by
    have ntl : t ≠ l := ne_of_none (upd_same (H := H1) (a := t)) nl
    refine q l _ ((Ex.new nt).trans (Ex.new nl)) ⟨_, upd_same, PairsAt.cons ?_ PairsAt.nil⟩
    rw [upd_ne ntl, upd_same, he]⟩⟩
theorem en_2 {p e p2 e2 : Int} {k k2 : Nat} (he : e = (k : Int)) (he2 : e2 = (k2 : Int)) : EvN (tLst (tCons (tTup (tCons (tC (.int p)) (tCons (tC (.int e)) tNil))) (tCons (tTup (tCons (tC (.int p2)) (tCons (tC (.int e2)) tNil))) tNil))) σ H [(p, k), (p2, k2)] := fun H1 ex Q q =>
  ⟨sizeL (by show 2 ≤ 100000; decide), fun t nt => ⟨sizeL (by show 2 ≤ 100000; decide), fun t2 nt2 => ⟨sizeL (by show 2 ≤ 100000; decide), fun l nl => by
    have n1 : t ≠ t2 := ne_of_none (upd_same (H := H1) (a := t)) nt2
    have n2 : t2 ≠ l := ne_of_none (upd_same (a := t2)) nl
    have n3 : t ≠ l := ne_of_none (o := .tup [.int p, .int e]) (by rw [upd_ne n1]; exact upd_same) nl
    refine q l _ (((Ex.new nt).trans (Ex.new nt2)).trans (Ex.new nl)) ⟨_, upd_same, PairsAt.cons ?_ (PairsAt.cons ?_ PairsAt.nil)⟩
    · rw [upd_ne n3, upd_ne n1, upd_same, he]
    · rw [upd_ne n2, upd_same, he2]⟩⟩⟩
theorem q_asgN {D : Ends} {tz : TS} {i : Nat} {ns : Nm} (h : EvN te σ H ns) (k : ∀ a H1, Ex H H1 → NumAt H1 a ns → tz D (σ.set i (some (.ref a))) H1) : tSeq (tAsg te (gName i)) tz D σ H := h H (Ex.refl H) _ fun a H1 e hn => k a H1 e hn
end
theorem rg_small (c : Nat) (hc : c = 3 ∨ c = 5) : ∀ l : Nat, l < 64 → Builtin.Range.small 0 (l : Int) (1 + (l : Int) / (c : Int)) = true := by
  rcases hc with rfl | rfl <;> decide +kernel
def rgN (c l : Nat) : Nat := (Builtin.Range.rangeSize 0 (l : Int) (1 + (l : Int) / (c : Int))).toNat
theorem rg_nat (c : Nat) (hc : c = 3 ∨ c = 5) : ∀ l : Nat, l < 64 → Builtin.Range.rangeSize 0 (l : Int) (1 + (l : Int) / (c : Int)) = (rgN c l : Int) := by
  rcases hc with rfl | rfl <;> decide +kernel
theorem rg_ok (c : Nat) (hc : c = 3 ∨ c = 5) {l : Nat} (h : l < 64) : RgC 0 (l : Int) (1 + (l : Int) / (c : Int)) (rgN c l) := by
  refine ⟨?_, ?_, rg_small c hc l h, rg_nat c hc l h⟩ <;> rcases hc with rfl | rfl <;> omega
theorem rg_max (c : Nat) (hc : c = 3 ∨ c = 5) : ∀ l : Nat, l < 64 → (rgN c l) * (1 + l / c) ≤ 90 := by
  rcases hc with rfl | rfl <;> decide +kernel
theorem bars_raw (ns : Nm) (n : Int) : barsB (divs ns) n = barsB (raw ns) n := by
  unfold barsB
  rw [low_perm (divs_perm ns), sum_perm (divs_perm ns)]
end Ew
namespace Ew
open PySem PySem.Spec PyProof.Rows L2
/-! ### the end: what the top has written -/
section
variable {K : PySem.W.Frag} {h : Heap} {mg : Str → Option Value}
theorem df_mk {x : Str} {st : Stmt} {ps : List Str} {f : Addr} {oc : Value} {od an : Option Addr} {osl : Array (Option Value)} {kV doc pm cdv ct : Value} (X : K.In h) (G : h.Ns mainGlobals mg) (a : PySem.W.nsIn K mainGlobals x = some (some (.ref f)))
    (l : K.lookup f = some ⟨oc, od, .func (PySem.W.fnOf x x (defArgs st) (defBody st) (defScope st) .none kV doc pm an cdv ct), osl⟩) (c : PySem.W.codeIn K cdv x = true) (k : PySem.W.keepIn K (.ref f) = true)
    (hb : ∀ (kV doc pm : Value) (an : Option Addr) (cdv ct : Value) (us : List Value), us.length = ps.length → bindArgs (PySem.W.fnOf x x (defArgs st) (defBody st) (defScope st) .none kV doc pm an cdv ct) ⟨us, []⟩ = pure (ps.zip us)) : Df K mg x st ps :=
  ⟨f, _, fun_mk l c k, PySem.W.mg_of X G a, (fun_mk l c k).binds hb⟩
theorem dm_mk {C : Addr} {m qual : Str} {st : Stmt} {ps : List Str} {f : Addr} {oc : Value} {od an : Option Addr} {osl : Array (Option Value)} {kV doc pm cdv ct : Value} (a : PySem.W.findIn K (.ref C) m = some (some (.ref f))) (i : PySem.W.isFn K (.ref f) = true)
    (l : K.lookup f = some ⟨oc, od, .func (PySem.W.fnOf m qual (defArgs st) (defBody st) (defScope st) .none kV doc pm an cdv ct), osl⟩) (c : PySem.W.codeIn K cdv qual = true) (k : PySem.W.keepIn K (.ref f) = true)
    (hb : ∀ (kV doc pm : Value) (an : Option Addr) (cdv ct : Value) (us : List Value), us.length = ps.length → bindArgs (PySem.W.fnOf m qual (defArgs st) (defBody st) (defScope st) .none kV doc pm an cdv ct) ⟨us, []⟩ = pure (ps.zip us)) : Dm K C m qual st ps :=
  ⟨f, _, fun_mk l c k, ⟨a, i, k⟩, (fun_mk l c k).binds hb⟩
theorem di_mk {C : Addr} {qual : Str} {st : Stmt} {ps : List Str} {f : Addr} {oc : Value} {od an : Option Addr} {osl : Array (Option Value)} {kV doc pm cdv ct : Value} (mk : PySem.W.makesIn K C = true) (a : PySem.W.findIn K (.ref C) "__init__" = some (some (.ref f))) (i : PySem.W.isFn K (.ref f) = true) (kc : PySem.W.keepIn K (.ref C) = true)
    (l : K.lookup f = some ⟨oc, od, .func (PySem.W.fnOf "__init__" qual (defArgs st) (defBody st) (defScope st) .none kV doc pm an cdv ct), osl⟩) (c : PySem.W.codeIn K cdv qual = true) (k : PySem.W.keepIn K (.ref f) = true)
    (hb : ∀ (kV doc pm : Value) (an : Option Addr) (cdv ct : Value) (us : List Value), us.length = ps.length → bindArgs (PySem.W.fnOf "__init__" qual (defArgs st) (defBody st) (defScope st) .none kV doc pm an cdv ct) ⟨us, []⟩ = pure (ps.zip us)) : Di K C qual st ps :=
  ⟨f, _, fun_mk l c k, ⟨mk, a, i, kc⟩, (fun_mk l c k).binds hb⟩
theorem law_mk {st : Stmt} {x : Str} {f : Addr} {oc : Value} {od an : Option Addr} {osl : Array (Option Value)} {kV doc pm cdv ct : Value}
    (l : K.lookup f = some ⟨oc, od, .func (PySem.W.fnOf "law" "law" (defArgs st) (defBody st) (defScope st) .none kV doc pm an cdv ct), osl⟩) (c : PySem.W.codeIn K cdv "law" = true) (k : PySem.W.keepIn K (.ref f) = true)
    (hb : ∀ (kV doc pm : Value) (an : Option Addr) (cdv ct : Value) (u : Value), bindArgs (PySem.W.fnOf "law" "law" (defArgs st) (defBody st) (defScope st) .none kV doc pm an cdv ct) ⟨[u], []⟩ = pure [(x, u)]) :
    ∃ fd : FuncData, (∀ (s : Shared) (u : Value), BindsTo s fd ⟨[u], []⟩ [(x, u)]) ∧ Fun K "law" "law" st f fd :=
  ⟨_, fun s u => .of_eq (hb kV doc pm an cdv ct u), fun_mk l c k⟩
theorem bits_lt {z : Int} (h : Builtin.Int.intBits z ≤ 1048576) : z.natAbs < 2 ^ scB := by
  unfold Builtin.Int.intBits at h
  split at h
  · rename_i e
    have : z.natAbs = 0 := by
      first
        | (have e' : z = 0 := by simpa using e
           rw [e']; rfl)
        | (have e' := beq_iff_eq.mp e; rw [e']; rfl)
    rw [this]
    exact Nat.two_pow_pos _
  · rename_i e
    have ne : z.natAbs ≠ 0 := fun q => e (by
      have : z = 0 := Int.natAbs_eq_zero.mp q
      rw [this] <;> rfl)
    exact (Nat.log2_lt ne).mp (show z.natAbs.log2 < scB from h)
end
end Ew
namespace Ew
open PySem PySem.Spec PyProof.Rows L2 Evl Evm
theorem ifT {c : Bool} {A B : Prop} (hc : c = true) (h : A) : if c = true then A else B := by rw [if_pos hc]; exact h
theorem ifF {c : Bool} {A B : Prop} (hc : c = false) (h : B) : if c = true then A else B := by rw [hc]; exact iteF h
/-! ### data of whole numbers and of pairs, compared -/
def dints (l : List Int) : PyData := .list (l.map PyData.int)
def dq (q : Int × Nat) : PyData := .tuple [.int q.1, .int (q.2 : Int)]
def dnum (ns : Nm) : PyData := .list (ns.map dq)
theorem eqvAll_ints : ∀ l m : List Int, PyData.eqvAll (l.map PyData.int) (m.map PyData.int) = decide (l = m)
  | [], [] => by simp [PyData.eqvAll]
  | [], _ :: _ => by simp [PyData.eqvAll]
  | _ :: _, [] => by simp [PyData.eqvAll]
  | a :: r, b :: t => by
    simp only [List.map_cons, PyData.eqvAll, PyData.eqv, eqvAll_ints r t]
    by_cases h : a = b <;> by_cases h' : r = t <;> simp [h, h']
theorem eqv_ints (l m : List Int) : PyData.eqv (dints l) (dints m) = decide (l = m) := by
  unfold dints
  rw [PyData.eqv]
  exact eqvAll_ints l m
theorem eqv_dq (a b : Int × Nat) : PyData.eqv (dq a) (dq b) = decide (a = b) := by
  obtain ⟨p, e⟩ := a
  obtain ⟨p2, e2⟩ := b
  unfold dq
  simp only [PyData.eqv, PyData.eqvAll]
  by_cases h : p = p2 <;> by_cases h' : e = e2 <;> simp [h, h', Int.ofNat_inj]
theorem eqvAll_nums : ∀ l m : Nm, PyData.eqvAll (l.map dq) (m.map dq) = decide (l = m)
  | [], [] => by simp [PyData.eqvAll]
  | [], _ :: _ => by simp [PyData.eqvAll]
  | _ :: _, [] => by simp [PyData.eqvAll]
  | a :: r, b :: t => by
    rw [List.map_cons, List.map_cons, PyData.eqvAll, eqv_dq, eqvAll_nums r t]
    by_cases h : a = b <;> by_cases h' : r = t <;> simp [h, h']
theorem eqv_nums (l m : Nm) : PyData.eqv (dnum l) (dnum m) = decide (l = m) := by
  unfold dnum
  rw [PyData.eqv]
  exact eqvAll_nums l m
theorem lay_ints : ∀ l : List Int, PyData.canLayAll0 (l.map PyData.int) = true
  | [] => rfl
  | _ :: r => by simp [PyData.canLayAll0, PyData.canLay0, lay_ints r]
theorem deep_ints : ∀ l : List Int, PyData.depthAll (l.map PyData.int) = 0
  | [] => rfl
  | _ :: r => by simp [PyData.depthAll, PyData.depth, deep_ints r]
theorem shaped_ints (l : List Int) : SeqAt.shaped (dints l) = true := by
  simp [SeqAt.shaped, dints, PyData.canLay0, PyData.depth, lay_ints, deep_ints]
theorem lay_nums : ∀ l : Nm, PyData.canLayAll0 (l.map dq) = true
  | [] => rfl
  | _ :: r => by simp [PyData.canLayAll0, PyData.canLay0, dq, lay_nums r]
theorem deep_nums : ∀ l : Nm, PyData.depthAll (l.map dq) ≤ 1
  | [] => by simp [PyData.depthAll]
  | _ :: r => by
    have := deep_nums r
    simp only [List.map_cons, PyData.depthAll, dq, PyData.depth]
    omega
theorem shaped_num (l : Nm) : SeqAt.shaped (dnum l) = true := by
  have := deep_nums l
  simp only [SeqAt.shaped, dnum, PyData.canLay0, PyData.depth, lay_nums, Bool.true_and, decide_eq_true_eq]
  omega
theorem dpall_ints {K : PySem.W.Frag} {H : Hp} : ∀ l : List Int, DpAll K H (l.map V.int) (l.map PyData.int)
  | [] => .nil
  | x :: r => .cons (.int x) (dpall_ints r)
theorem dp_ints {K : PySem.W.Frag} {H : Hp} {a : Addr} {l : List Int} (h : IntsAt H a l) : Dp K H (.ref a) (dints l) := .lst (SqL.of h) (dpall_ints l)
theorem PairsAt.tail {H : Hp} {x : V} {xs : List V} {q : Int × Nat} {ns : Nm} (h : PairsAt H (x :: xs) (q :: ns)) : PairsAt H xs ns :=
  ⟨by have := h.1; simpa using this, fun i z hz => h.2 (i + 1) z hz⟩
theorem dpall_num {K : PySem.W.Frag} {H : Hp} : ∀ (xs : List V) (ns : Nm), PairsAt H xs ns → DpAll K H xs (ns.map dq)
  | [], [], _ => .nil
  | [], _ :: _, h => by have := h.1; simp at this
  | _ :: _, [], h => by have := h.1; simp at this
  | x :: xs, q :: ns, h => by
    obtain ⟨t, h1, h2⟩ := h.2 0 q rfl
    have e : x = .ref t := Option.some.inj h1
    subst e
    exact .cons (.tup (SqT.of h2) (.cons (.int _) (.cons (.int _) .nil))) (dpall_num xs ns h.tail)
theorem dp_num {K : PySem.W.Frag} {H : Hp} {a : Addr} {ns : Nm} (h : NumAt H a ns) : Dp K H (.ref a) (dnum ns) :=
  let ⟨xs, h1, h2⟩ := h; .lst (SqL.of h1) (dpall_num xs ns h2)
section
variable {K : PySem.W.Frag} {σ : L2.St} {H : Hp} {ta tb te tl : TE}
theorem rv_eqI {a b : Addr} {l m : List Int} (h : IntsAt H a l) (h' : IntsAt H b m) : RV (rEqD K) (.ref a) (.ref b) H (.bl (decide (l = m))) := fun H1 e Q q =>
  ⟨_, _, dp_ints (e _ _ h), dp_ints (e _ _ h'), shaped_ints l, shaped_ints m, by rw [eqv_ints]; exact q H1 (Ex.refl _)⟩
theorem rv_neI {a b : Addr} {l m : List Int} (h : IntsAt H a l) (h' : IntsAt H b m) : RV (rNeD K) (.ref a) (.ref b) H (.bl (!decide (l = m))) := fun H1 e Q q =>
  ⟨_, _, dp_ints (e _ _ h), dp_ints (e _ _ h'), shaped_ints l, shaped_ints m, by rw [eqv_ints]; exact q H1 (Ex.refl _)⟩
theorem rv_eqN {a b : Addr} {l m : Nm} (h : NumAt H a l) (h' : NumAt H b m) : RV (rEqD K) (.ref a) (.ref b) H (.bl (decide (l = m))) := fun H1 e Q q =>
  ⟨_, _, dp_num (h.ex e), dp_num (h'.ex e), shaped_num l, shaped_num m, by rw [eqv_nums]; exact q H1 (Ex.refl _)⟩
theorem rv_neN {a b : Addr} {l m : Nm} (h : NumAt H a l) (h' : NumAt H b m) : RV (rNeD K) (.ref a) (.ref b) H (.bl (!decide (l = m))) := fun H1 e Q q =>
  ⟨_, _, dp_num (h.ex e), dp_num (h'.ex e), shaped_num l, shaped_num m, by rw [eqv_nums]; exact q H1 (Ex.refl _)⟩
/-- both operands numbers, made or at hand -/
theorem ev_opN {r : R2} {ns ms : Nm} {z : V} (ha : EvN ta σ H ns) (hb : EvN tb σ H ms) (hr : ∀ a b H1, NumAt H1 a ns → NumAt H1 b ms → Ex H H1 → RV r (.ref a) (.ref b) H1 z) : Evl.Ev (tOp r ta tb) σ H z := fun H1 e Q k =>
  ha H1 e _ fun a H2 e2 hp => hb H2 (e.trans e2) _ fun b H3 e3 hq => hr a b H3 (hp.ex e3) hq ((e.trans e2).trans e3) H3 (Ex.refl H3) Q fun H4 e4 => k H4 ((e2.trans e3).trans e4)
theorem ev_eqN {ns ms : Nm} (ha : EvN ta σ H ns) (hb : EvN tb σ H ms) : Evl.Ev (tOp (rEqD K) ta tb) σ H (.bl (decide (ns = ms))) := ev_opN ha hb fun _ _ _ h1 h2 _ => rv_eqN h1 h2
theorem ev_neN {ns ms : Nm} (ha : EvN ta σ H ns) (hb : EvN tb σ H ms) : Evl.Ev (tOp (rNeD K) ta tb) σ H (.bl (!decide (ns = ms))) := ev_opN ha hb fun _ _ _ h1 h2 _ => rv_neN h1 h2
/-- [te for i in range(lo, hi)] -/
theorem el_mapR2 {ta : TA} {lo hi : Int} (g : Nat → V) {j : Nat} {vs : List Nat} (h : EvA ta σ H [.int lo, .int hi]) (hb : -(2 ^ 62) ≤ lo ∧ lo < 2 ^ 62 ∧ -(2 ^ 62) ≤ hi ∧ hi < 2 ^ 62) (hz : (hi - lo).toNat ≤ 40000)
    (hw : ∀ x, wipe ((wipe σ vs).set j (some x)) vs = wipe σ vs) (he : ∀ i : Nat, lo + (i : Int) < hi → ∀ H1, Ex H H1 → Evl.Ev te ((wipe σ vs).set j (some (.int (lo + (i : Int))))) H1 (g i)) : EvL (tLc (iRng2 ta) (gName j) tYes te vs) σ H ((List.range (hi - lo).toNat).map g) := fun H0 e Q q =>
  h H0 e _ fun H1 e1 => ⟨lo, hi, rfl, hb, fun D hD => lc_range (lo := lo) (n := (hi - lo).toNat) (Cw H1 (fun _ => true) g D) ⟨hD, Ex.new hD, upd_same⟩
    (fun k H' hk pw => ⟨hw _, cw_turn pw (by omega) et_yes fun _ => he k (by omega) H1 (e.trans e1)⟩)
    (fun H' pw => q D H' (fresh_back e1 hD) (e1.trans pw.2.1) (by
      have := pw.2.2
      unfold given at this
      rw [List.filter_eq_self.mpr (fun _ _ => rfl)] at this
      exact this))⟩
end
theorem all_true {α : Type} (l : List α) : (l.map fun _ => true).all id = true := by
  rw [List.all_map]
  exact List.all_eq_true.mpr fun _ _ => rfl
theorem Nm.drop_last (ns : Nm) : ns.dropLast = ns.take (ns.length - 1) := List.dropLast_eq_take
theorem PairsAt.dropLast {H : Hp} {xs : List V} {ns : Nm} (h : PairsAt H xs ns) : PairsAt H xs.dropLast ns.dropLast := by
  rw [List.dropLast_eq_take, List.dropLast_eq_take, h.1]
  exact h.take _
theorem cut_last (xs : List V) : cutV xs none (some (-1)) = xs.dropLast := by
  unfold cutV
  rw [HT.sIx_none, List.drop_zero, Nat.sub_zero, List.dropLast_eq_take]
  congr 1
  unfold HT.sIx
  simp only
  rw [if_pos (by decide)]
  omega
end Ew
namespace Ew
open PySem PySem.Spec PyProof.Rows L2 Evl Evm
/-! ### answers -/
inductive Ans where
  | all
  | bar (n : Int)
def tells (ns : Nm) : Ans := if bar ns = 0 then .all else .bar (bar ns)
def dueB (ns : Nm) : Ans → Bool
  | .all => isAll (divs ns)
  | .bar n => barsB (divs ns) n
def showB (ns : Nm) : Ans → Bool
  | .all => bar ns == 0
  | .bar n => barsB (divs ns) n
theorem show_due {ns : Nm} (h : Ok ns) : ∀ a, showB ns a = dueB ns a
  | .all => by
    show (bar ns == 0) = isAll (divs ns)
    rw [h.isAll, Bool.beq_eq_decide_eq (bar ns) 0]
  | .bar n => rfl
theorem due_tells {ns : Nm} (h : Ok ns) : dueB ns (tells ns) = true := by
  unfold tells
  by_cases c : bar ns = 0
  · rw [if_pos c]
    show isAll (divs ns) = true
    rw [h.isAll, decide_eq_true c]
  · rw [if_neg c]
    exact (bar_barred h.posP h.rise h.pos c).2
theorem tells_all {ns : Nm} (c : bar ns = 0) : tells ns = .all := if_pos c
theorem tells_bar {ns : Nm} (c : bar ns ≠ 0) : tells ns = .bar (bar ns) := if_neg c
theorem bar_nn {ns : Nm} (h : Ok ns) : 0 ≤ bar ns := barF_nn ns 1 h.posP (by decide)
theorem Ok.dropLast {ns : Nm} (h : Ok ns) : Ok ns.dropLast := by
  rw [List.dropLast_eq_take]
  exact h.take _
theorem atI_end {xs : List V} {v : V} (h : xs[xs.length - 1]? = some v) : atI xs (-1) = some v := by
  have ne : xs ≠ [] := by intro e; subst e; simp at h
  have e : xs = xs.dropLast ++ [xs.getLast ne] := (List.dropLast_concat_getLast ne).symm
  have l : xs.getLast ne = v := by
    rw [List.getLast_eq_getElem]
    obtain ⟨h1, h2⟩ := List.getElem?_eq_some_iff.mp h
    exact h2
  rw [l] at e
  rw [e]
  exact atI_last _ _
/-! ### what is made on the way, as a reference -/
def EvR (te : TE) (σ : L2.St) (H : Hp) (P : Hp → Addr → Prop) : Prop := ∀ H1, Ex H H1 → ∀ Q : VK, (∀ x H2, Ex H1 H2 → P H2 x → Q (.ref x) H2) → te σ H1 Q
section
variable {K : PySem.W.Frag} {σ : L2.St} {H : Hp} {ta tb te tl : TE}
theorem er_var {i : Nat} {x : Addr} {P : Hp → Addr → Prop} (h : σ[i]? = some (some (.ref x))) (hp : P H x) (mono : ∀ H1 H2, Ex H1 H2 → P H1 x → P H2 x) : EvR (tVar i) σ H P := fun H1 e Q q => ⟨_, h, q x H1 (Ex.refl _) (mono _ _ e hp)⟩
theorem q_asgR {D : Ends} {tz : TS} {i : Nat} {P : Hp → Addr → Prop} (h : EvR te σ H P) (k : ∀ x H1, Ex H H1 → P H1 x → tz D (σ.set i (some (.ref x))) H1) : tSeq (tAsg te (gName i)) tz D σ H := h H (Ex.refl H) _ fun x H1 e hp => k x H1 e hp
theorem en_of {ns : Nm} (h : EvN te σ H ns) : EvR te σ H (fun H x => NumAt H x ns) := h
/-- number[:-1], number[:k] -/
theorem en_last {ns : Nm} {a : Addr} (h : Evl.Ev te σ H (.ref a)) (hn : NumAt H a ns) : EvN (tSl (rSlL K) te tNoPart (tPart (tUn (rU fun i => .int (-i)) (tC (.int 1))))) σ H ns.dropLast := fun H1 e Q q => by
  obtain ⟨xs, hx, hp⟩ := hn
  refine el_sl h eo_none (eo_some (ev_un ev_c ru_neg)) (SqL.of hx) H1 e _ fun p H2 np e2 hp2 => ?_
  rw [cut_last] at hp2
  exact q p H2 e2 ⟨xs.dropLast, hp2, (hp.ex (e.trans e2)).dropLast⟩
theorem en_take {ns : Nm} {a : Addr} {k : Nat} {i : Int} (hi : i = (k : Int)) (h : Evl.Ev te σ H (.ref a)) (hn : NumAt H a ns) : EvN (tSl (rSlL K) te tNoPart (tPart (tC (.int i)))) σ H (ns.take k) := fun H1 e Q q => by
  obtain ⟨xs, hx, hp⟩ := hn
  subst hi
  refine el_sl h eo_none (eo_some ev_c) (SqL.of hx) H1 e _ fun p H2 np e2 hp2 => ?_
  rw [cut_to] at hp2
  exact q p H2 e2 ⟨xs.take k, hp2, (hp.ex (e.trans e2)).take k⟩
/-- lists of numbers -/
def OsAt (H : Hp) (vs : List V) : Prop := ∀ v ∈ vs, ∃ c ms, v = .ref c ∧ NumAt H c ms ∧ Ok ms
theorem OsAt.ex {H H' : Hp} {vs : List V} (e : Ex H H') (h : OsAt H vs) : OsAt H' vs := fun v hv => let ⟨c, ms, h1, h2, h3⟩ := h v hv; ⟨c, ms, h1, h2.ex e, h3⟩
def EvOs (ta : TA) (σ : L2.St) (H : Hp) (n : Nat) : Prop := ∀ H1, Ex H H1 → ∀ Q : List V → Hp → Prop, (∀ vs H2, Ex H1 H2 → vs.length = n → OsAt H2 vs → Q vs H2) → ta σ H1 Q
theorem eo_nil : EvOs tNil σ H 0 := fun H1 e Q q => q [] H1 (Ex.refl _) rfl (fun v hv => by cases hv)
theorem eo_cons {n : Nat} {ta : TA} {ms : Nm} (h : EvN te σ H ms) (ok : Ok ms) (hr : EvOs ta σ H n) : EvOs (tCons te ta) σ H (n + 1) := fun H1 e Q q =>
  h H1 e _ fun a H2 e2 ha => hr H2 (e.trans e2) _ fun vs H3 e3 hl hv => q _ H3 (e2.trans e3) (by simp [hl]) fun v m => by
    rcases List.mem_cons.mp m with z | z
    · subst z; exact ⟨a, ms, rfl, ha.ex e3, ok⟩
    · exact hv v z
theorem er_os {n : Nat} {ta : TA} (h : EvOs ta σ H n) (hn : n ≤ 1000) : EvR (tLst ta) σ H (fun H x => ∃ vs, H x = some (.lst vs) ∧ vs.length = n ∧ OsAt H vs) := fun H1 e Q q =>
  h H1 e _ fun vs H2 e2 hl hv => ⟨sizeL (by omega), fun p np => q p _ (e2.trans (Ex.new np)) ⟨vs, upd_same, hl, hv.ex (Ex.new np)⟩⟩
end
/-! ### a whole number by its primes -/
def inF : Nat → Int → Int → Nat → Option (Int × Nat)
  | 0, _, _, _ => none
  | f + 1, n, p, o => if n % p = 0 then inF f (n / p) p (o + 1) else some (n, o)
def outF : Nat → Int → Int → Nm → Option Nm
  | 0, _, _, _ => none
  | f + 1, n, p, acc => if n > 1 then (match inF 20 n p 0 with
      | none => none
      | some (m, o) => outF f m (p + 1) (if o > 0 then acc ++ [(p, o)] else acc)) else some acc
def okB (ns : Nm) : Bool := decide (ns.Pairwise fun a b => a.1 < b.1) && ns.all (fun q => decide (2 ≤ q.1) && decide (q.1 ≤ 997) && !parted q.1 && decide (1 ≤ q.2)) && decide (mny ns ≤ 500)
theorem okB_ok {ns : Nm} (h : okB ns = true) : Ok ns := by
  unfold okB at h
  simp only [Bool.and_eq_true, List.all_eq_true, decide_eq_true_eq, Bool.not_eq_true'] at h
  obtain ⟨⟨h1, h2⟩, h3⟩ := h
  exact ⟨h1, fun q hq => ⟨(h2 q hq).1.1.1, (h2 q hq).1.1.2⟩, fun q hq => (h2 q hq).1.2, fun q hq => (h2 q hq).2, h3⟩
theorem by_primes : ∀ n : Nat, n < 80 → (match outF 1000 (n : Int) 2 [] with
    | none => false
    | some R => okB R) = true := by decide +kernel
theorem by_primes_ok {n : Nat} (h : n < 80) : ∃ R, outF 1000 (n : Int) 2 [] = some R ∧ Ok R := by
  have := by_primes n h
  cases e : outF 1000 (n : Int) 2 [] with
  | none => rw [e] at this; cases this
  | some R => rw [e] at this; exact ⟨R, rfl, okB_ok this⟩
end Ew
/-! set(xs) of a list of ints, sorted of it; any() in an except suite -/
namespace L2
open PySem PySem.Spec PyProof.Rows
section
variable {P : Program} {w : World} {A : Around} {E : Value → Shared → Prop} {s : Shared}
theorem set_of_ints {l : Addr} {items : Array Value} (ns : List Int) {Q : Value → Shared → Prop} (hh : A.handled = none) (hl : s.heap.IsList l items) (hit : IntsAre items.toList ns) (hb : ns.length + 1 < scanBound)
    (h : ∀ (h' : Heap) (tk c : Nat), SetR w h' s.heap.objs.size (fun j => decide (j ∈ ns)) c → c ≤ ns.length → (∀ b o, s.heap.get? b = some o → h'.get? b = some o) → Q (.ref s.heap.objs.size) { s with heap := h', toks := tk }) :
    wpAny (model P w) A (call (.type "set") [.ref l]) Q E s := by
  have hisz : items.size = ns.length := by
    have q := IntsAre.length hit
    rw [Array.length_toList] at q
    exact q
  obtain ⟨c, tl, hmro⟩ := F.called_set.mro
  have hmade := F.called_set.made
  have hsub := F.called_set.sub
  refine wpAny_call (codeAny_of_tree ?_)
  show wpAny _ _ (callAny (.type "set") _) _ _ _
  refine wpAny_pure ⟨Code.quiet_builtin _ (by decide +kernel), codeAny_builtin F.entry_type_call ?_⟩
  rw [Around.under_plain (weight_type_call_type "set" [.ref l] []) rfl]
  have h1 := F.called_set.notType
  have h2 := F.called_set.canCreate
  have hct := F.typeCall_set_1 (.ref l)
  repeat (any_goals (first | assumption | wp_step))
  refine codeAny_mono (code_set_led1 (.ref l) (E := E) (Q₁ := fun obj s₁ => obj = .ref s.heap.objs.size ∧ s₁ = { s with heap := s.heap.push { cls := .type "set", dict := none, data := .set #[] 0 (.fresh 0 0 (!w.params.followText "set-order")) } }) ⟨rfl, rfl⟩) fun r s₁ hr => ?_
  cases r with
  | error e => exact hr
  | ok fl =>
    cases fl with
    | ret obj =>
      obtain ⟨rfl, rfl⟩ := hr
      have hS : (s.heap.push { cls := .type "set", dict := none, data := .set #[] 0 (.fresh 0 0 (!w.params.followText "set-order")) }).get? s.heap.objs.size = some { cls := .type "set", dict := none, data := .set #[] 0 (.fresh 0 0 (!w.params.followText "set-order")) } := Heap.get?_push_size _ rfl
      have hT : Shared.TypeIs { s with heap := s.heap.push { cls := .type "set", dict := none, data := .set #[] 0 (.fresh 0 0 (!w.params.followText "set-order")) } } (.ref s.heap.objs.size) "set" := ⟨_, hS, rfl⟩
      have hli := F.called_set.init.lookup
      have hbi := F.called_set.init.bind (.ref s.heap.objs.size)
      repeat (any_goals (first | assumption | wp_step))
      refine codeAny_mono (codeAny_call_builtin (R := wants (fun r s₂ => r = .none ∧ ∃ h' tk c, s₂ = { s with heap := h', toks := tk } ∧ SetR w h' s.heap.objs.size (fun j => decide (j ∈ ns)) c ∧ c ≤ ns.length ∧
          (∀ b o, s.heap.get? b = some o → h'.get? b = some o)) E) F.called_set.init.plain F.entry_set_init (check_set_init_1 hT ?_)) fun r₂ s₂ hr₂ => ?_
      · obtain ⟨ol, hol, hcl, nl, hdl⟩ := hl
        obtain ⟨ocls, odict, odata, oslots⟩ := ol
        simp only at hcl hdl
        subst hcl; subst hdl
        have hol' : (s.heap.push { cls := .type "set", dict := none, data := .set #[] 0 (.fresh 0 0 (!w.params.followText "set-order")) }).get? l = some { cls := .type "list", dict := odict, data := .seq items nl, slots := oslots } := Heap.get?_push_of_some _ hol
        have hsls := F.sub_list_set
        have hslf := F.sub_list_frozenset
        have hne : (Value.type "list" == Value.type "dict") = false := by decide
        have hl1 : (s.heap.push { cls := .type "set", dict := none, data := .set #[] 0 (.fresh 0 0 (!w.params.followText "set-order")) }).IsList l items := ⟨_, hol', rfl, nl, rfl⟩
        unfold Builtin.«set.__init__» noKeywords Builtin.Frozenset.updateFrom
        generalize hPI : pyIter = PI
        wp_walk
        subst hPI
        refine wpAny_pyIter_list hl1 ?_
        refine wpAny_bind (wpAny_runValue ?_)
        have hlS : l < s.heap.objs.size := Heap.lt_size hol
        have hh3 : A.in1.in1.in1.handled = none := by simp [hh]
        have sz : (s.heap.push { cls := .type "set", dict := none, data := .set #[] 0 (.fresh 0 0 (!w.params.followText "set-order")) }).objs.size = s.heap.objs.size + 1 := Heap.size_push ..
        have hneI : l ≠ (s.heap.push { cls := .type "set", dict := none, data := .set #[] 0 (.fresh 0 0 (!w.params.followText "set-order")) }).objs.size := by rw [sz]; exact Nat.ne_of_lt (Nat.lt_succ_of_lt hlS)
        have hSf : s.heap.objs.size ∉ [(s.heap.push { cls := .type "set", dict := none, data := .set #[] 0 (.fresh 0 0 (!w.params.followText "set-order")) }).objs.size, l] := by
          rw [sz]; simp only [List.mem_cons, List.mem_singleton, List.not_mem_nil, or_false, not_or]
          exact ⟨Nat.ne_of_lt (Nat.lt_succ_self _), Nat.ne_of_gt hlS⟩
        have hval : ∀ (i : Nat) (v : Value), items[i]? = some v → ∃ k t, ns[i]? = some k ∧ v = .int k t := fun i v hv => by
          have hi : i < ns.length := by rw [← hisz]; exact (Array.getElem?_eq_some_iff.mp hv).1
          obtain ⟨t, e⟩ := PyProof.Rows.IntsAre.int_at hit i v (by rw [Array.getElem?_toList]; exact hv)
          refine ⟨ns[i], t, List.getElem?_eq_getElem hi, ?_⟩
          rw [e, List.getD_eq_getElem?_getD, List.getElem?_eq_getElem hi] <;> rfl
        refine set_update_ints ((Walks.list hh3 _ l hneI items).toS) s.heap.objs.size hSf ns hisz hb hval (items.size - 0) 0 _ (by omega) (Nat.zero_le _) ⟨⟨_, Heap.get?_push_size _ rfl, rfl, rfl⟩, (hl1.push _)⟩
          ⟨0, Nat.le_refl 0, setR_new_at (Heap.get?_push_of_some _ hS)⟩ fun s' c' hm hc' hS' => ?_
        obtain ⟨h', g2, d', tk', os'⟩ := s'
        have eg : g2 = s.gens := hm.gens
        have ed : d' = s.drawn := hm.drawn
        have eo : os' = s.os := hm.os
        subst eg; subst ed; subst eo
        show wpAny _ _ _ _ _ _
        refine wpAny_pure ?_
        show wpAny _ _ (ret Value.none) _ _ _
        rw [hisz] at hc'
        refine wpAny_pure ⟨rfl, h', tk', c', rfl, hS', hc', fun b o e => ?_⟩
        have hb0 : b < s.heap.objs.size := Heap.lt_size e
        refine hm.heap b o ?_ (Heap.get?_push_of_some _ (Heap.get?_push_of_some _ e))
        rw [sz]
        simp only [List.mem_cons, List.mem_singleton, List.not_mem_nil, or_false, not_or]
        exact ⟨Nat.ne_of_lt hb0, Nat.ne_of_lt (Nat.lt_succ_of_lt hb0)⟩
      · cases r₂ with
        | error e => exact hr₂
        | ok fl2 =>
          cases fl2 with
          | ret v =>
            obtain ⟨rfl, h', tk', c', rfl, hS', hc', hk⟩ := hr₂
            repeat (any_goals (first | assumption | wp_step))
            all_goals exact h h' tk' c' hS' hc' hk
          | _ => exact False.elim hr₂
    | _ => exact False.elim hr
/-- sorted(set), any number of members -/
theorem sorted_set_any {a : Addr} {S : Int → Bool} {n : Nat} {Q : Value → Shared → Prop} (R : SetR w s.heap a S n) (hh : A.handled = none) (hz : n ≤ sizeLine)
    (hQ : ∀ s' p (out : Array Value) (c : Nat) (ns : List Int), (∀ b o, s.heap.get? b = some o → s'.heap.get? b = some o) → s'.gens = s.gens → s'.os = s.os → s.heap.objs.size ≤ p →
      s'.heap.get? p = some (seqObj "list" out c) → IntsAre out.toList ns → ns.Pairwise (· < ·) → (∀ k, k ∈ ns ↔ S k = true) → ns.length = n → Q (.ref p) s') :
    wpAny (model P w) A (call (.builtin "sorted") [.ref a]) Q E s := by
  obtain ⟨o, es, ep, t, ho, hex, hd, g, nd, hm, hb, hf, hn, hr, hl⟩ := R
  refine Calls.call_function_entry kind_sorted plain_sorted entry_sorted (args_sorted1 _) ?_
  unfold Builtin.«sorted»
  refine wpAny_bind (m := checkCount "sorted" 1 1 _) (wpAny_pure ?_)
  refine wpAny_bind (collect_set (A := A.in1) hh ⟨o, ho, hex.1, hd⟩ hf hb hr hl fun s1 vs k1 hz1 g1 o1 pm => ?_)
  have hvl : vs.length = n := by rw [pm.length_eq, List.length_map, Array.length_toList]; exact hn
  have hI : IntsAre vs (vs.map Builtin.Re.reRawOf) := ints_of vs fun v hv => by
    obtain ⟨e, he, q⟩ := List.mem_map.mp (pm.mem_iff.mp hv)
    obtain ⟨k, tk, h1, _⟩ := g e he
    exact ⟨k, tk, by rw [← q]; exact h1⟩
  have pk : (vs.map Builtin.Re.reRawOf).Perm (es.toList.map keyOf) := by
    have q := pm.map Builtin.Re.reRawOf
    rw [List.map_map] at q
    exact q
  refine wpAny_bind (wpAny_newList ?_ (by rw [hvl]; exact hz))
  have hoL : (s1.heap.push (seqObj "list" vs.toArray 0)).get? s1.heap.objs.size = some (seqObj "list" vs.toArray 0) := Heap.get?_push_size _ rfl
  refine wpAny_bind (wpAny_holding (wpAny_call_entry slot_list_sort ⟨_, hoL, rfl⟩ entry_list_sort (SrtO.list_sort_ord SrtO.swo_int hoL (by rw [hvl]; exact hz) (fun h2 => SrtO.ints_sortable hI h2) fun out a1 a2 => ⟨_, rfl, ?_⟩) (args_list_sort _)))
  obtain ⟨m1, m2, m3⟩ := SrtO.ints_out hI a1 a2
  obtain ⟨c, hc⟩ := sortedHeap_at (vs := vs) (out := out.toArray) hoL
  have pn : (out.map SrtO.iv).Perm (es.toList.map keyOf) := m2.trans pk
  refine wpAny_pure ⟨_, rfl, hQ _ s1.heap.objs.size out.toArray c (out.map SrtO.iv) (fun b u e => ?_) g1 o1 hz1 hc m1 (lt_of_le_nodup _ m3 (pn.nodup_iff.mpr nd)) (fun k => by rw [pn.mem_iff, ← hm k]) ?_⟩
  · have q := k1 b u e
    have hlt := Heap.lt_size q
    show (sortedHeap (s1.heap.push (seqObj "list" vs.toArray 0)) s1.heap.objs.size vs out.toArray).get? b = some u
    rw [sortedHeap_old (Nat.ne_of_lt hlt) (by rw [size_push']; exact Nat.lt_succ_of_lt hlt)]
    exact Heap.get?_push_of_some _ q
  · rw [pn.length_eq, List.length_map, Array.length_toList]; exact hn
end
section
variable {X : Cx}
def rSetIs (K : PySem.W.Frag) (w : World) : List V → Hp → VK → Prop := fun vs H Q => ∃ (a : Addr) (ns : List Int), vs = [V.ref a] ∧ SqL K H a (ns.map V.int) ∧ ns.length ≤ 1000 ∧
  ∀ (p : Addr) (c : Nat), c ≤ ns.length → H p = none → Q (.ref p) (upd H p (SetO w p (fun j => decide (j ∈ ns)) c))
theorem cr_setIs (hc : X.calm = true) : CallR X (.type "set") (rSetIs X.K X.w) := by
  intro pins s σ H vs us Q I r h
  obtain ⟨a, ns, rfl, hs, hz, q⟩ := h
  obtain ⟨its, rv, hl, _⟩ := I.list hs
  rw [Vals.ref1 r]
  have hi : IntsAre its.toArray.toList ns := ints_of_vals rv
  refine set_of_ints ns (I.ok.hd hc) hl.isList hi (by unfold scanBound; omega) fun h' tk c R hcn k => ?_
  exact ⟨.ref _, upd H s.heap.objs.size (SetO X.w s.heap.objs.size (fun j => decide (j ∈ ns)) c), I.laid (t' := tk) k (Nat.le_refl _) (setO_new R), rfl, q _ c hcn (I.hok.fresh (Nat.le_refl _))⟩
/-- sorted(found), to a thousand members -/
def rSortedSetA (w : World) : List V → Hp → VK → Prop := fun vs H Q => ∃ (a : Addr) (S : Int → Bool) (n : Nat), vs = [V.ref a] ∧ H a = some (SetO w a S n) ∧ n ≤ 1000 ∧
  ∀ (ns : List Int) (p : Addr), ns.Pairwise (· < ·) → (∀ k : Int, k ∈ ns ↔ S k = true) → ns.length = n → H p = none → Q (.ref p) (upd H p (.lst (ns.map V.int)))
theorem cr_sortedSetA (hc : X.calm = true) : CallR X (.builtin "sorted") (rSortedSetA X.w) := by
  intro pins s σ H vs us Q I r h
  obtain ⟨a, S, n, rfl, ha, hz, q⟩ := h
  have R := setO_get I ha
  rw [Vals.ref1 r]
  refine sorted_set_any R (I.ok.hd hc) (by rw [sizeLine_eq]; omega) fun s' p out c ns k g o hp hg hi hs hm hl => ?_
  have hlen : (ns.map V.int).length ≤ sizeLine := by rw [List.length_map, hl, sizeLine_eq]; omega
  have hn : H p = none := I.hok.fresh hp
  have J : Inv X pins σ (upd H p (.lst (ns.map V.int))) { s with heap := s'.heap, gens := s'.gens, drawn := s'.drawn, toks := s'.toks } :=
    I.call (ch := []) (Un.laid k hp hn) (I.hok.laid k hp ⟨hlen, out.toList, c, vals_of_ints hi, hg⟩) (by rw [g]; exact I.bare) (fun _ z => nomatch z)
  have e : s' = { s with heap := s'.heap, gens := s'.gens, drawn := s'.drawn, toks := s'.toks } := by
    cases s'
    cases s
    cases o
    rfl
  rw [e]
  exact ⟨.ref p, _, J, rfl, q ns p hs hm hl hn⟩
end
/-! ### any(xs) while an exception is handled -/
section
variable {P : Program} {w : World} {A : Around} {E : Value → Shared → Prop} {s : Shared}
theorem next_list_end_hot {it l x1 : Addr} {i : Nat} {items : Array Value} {Q : Option Value → Shared → Prop} (hot : HotX.HotAt A x1 s.heap) (hne : x1 ≠ it)
    (hit : s.heap.IsListIter it l i) (hl : s.heap.IsList l items) (hx : items[i]? = none)
    (hQ : ∀ h', (∀ b o, b ≠ it → s.heap.get? b = some o → h'.get? b = some o) → Q none { s with heap := h' }) : wpAny (model P w) A (pyNext (.ref it)) Q E s := by
  obtain ⟨o, ho, hc, hd⟩ := id hit
  obtain ⟨ol, hol, _, nl, hdl⟩ := hl
  obtain ⟨hh, o1, vs1, g1, d1, c1⟩ := hot
  unfold pyNext
  refine wpAny_bind (wpAny_attempt (wpAny_callSpecial?_slot (name := Str.ofString "__next__") hit.typeIs slot_listiter_next
    (wpAny_call_entry slot_listiter_next hit.typeIs entry_listiter_next ?_ (args_listiter_next _))))
  show wpAny _ _ (field (.ref it) 0 >>= _) _ _ s
  refine wpAny_bind (wpAny_field ho hd (x := .ref l) rfl ?_)
  show wpAny _ _ (if (Value.ref l == Value.none) = true then _ else _) _ _ s
  rw [if_neg (show ¬ ((Value.ref l == Value.none) = true) from Bool.false_ne_true)]
  show wpAny _ _ (field (.ref it) 1 >>= _) _ _ s
  refine wpAny_bind (wpAny_field ho hd (x := .int i 0) rfl ?_)
  show wpAny _ _ (seqItems? (.ref l) >>= _) _ _ s
  refine wpAny_bind (wpAny_seqItems hol hdl ?_)
  simp only [Int.toNat_natCast, hx]
  refine wpAny_bind (wpAny_rule (wpAny_bind (wpAny_setField ho hd (by simp) ?_)))
  have k : ∀ b u, b ≠ it → s.heap.get? b = some u → (s.heap.update it (Obj.mapFields (·.setIfInBounds 0 Value.none))).get? b = some u := fun b u hb e => by
    rw [Heap.get?_update_other _ _ (Ne.symm hb)]; exact e
  have g2 := k _ _ hne g1
  show wpAny _ _ (newExc (.type "StopIteration") [] >>= _) _ _ _
  refine wpAny_bind ?_
  simp only [newExc, newTuple]
  refine wpAny_bind (wpAny_newObj_type ?_ (by size_fits))
  refine wpAny_bind (m := firstArgMember _ _) (wpAny_of_eq (a := Value.none) (by first | rfl | (simp only [firstArgMember]; rfl)) ?_)
  refine wpAny_newObj_type ?_ (by size_fits)
  refine HotX.raiseNew_hot ⟨hh, o1, vs1, Heap.get?_push_of_some _ (Heap.get?_push_of_some _ g2), d1, c1⟩ (Nat.ne_of_lt (Heap.lt_size (Heap.get?_push_of_some _ g2))) (Heap.get?_push_size _ rfl) rfl (by first | (simp; done) | (simp; omega) | (simp only [Array.size_append]; simp; omega)) ?_
  refine wpAny_bind (wpAny_isInstance (T := "StopIteration") (b := true) ⟨_, Heap.get?_update_self _ (Heap.get?_push_size _ rfl) rfl, rfl⟩ isSubtype_stop ?_)
  refine wpAny_pure (hQ _ fun b o hb e => ?_)
  have z := k _ _ hb e
  rw [Heap.get?_update_other _ _ (Nat.ne_of_gt (Heap.lt_size (Heap.get?_push_of_some _ z)))]
  exact Heap.get?_push_of_some _ (Heap.get?_push_of_some _ z)
theorem walks_list_hot {x1 : Addr} {o1 : Obj} {vs1 : Array Value} (hh : A.handled = some (.ref x1)) (d1 : o1.data = .fields vs1) (c1 : vs1[2]? = some .none) (I ax : Addr) (hne : ax ≠ I) (hn1 : x1 ≠ I) (items : Array Value) :
    Walks P w A I [I, ax, x1] [I] items.size (fun i v => items[i]? = some v) (fun i h => h.IsListIter I ax i ∧ h.IsList ax items ∧ h.get? x1 = some o1) where
  sub := fun b hb => by simp at hb; simp [hb]
  frame := fun _ _ _ st hk => ⟨st.1.at fun o e => hk I (by simp) o e, st.2.1.at fun o e => hk ax (by simp) o e, hk x1 (by simp) _ st.2.2⟩
  item := fun i s Q E hi st hQ => by
    refine wpAny_pyNext_list_item st.1 st.2.1 (x := items[i]) (by simp [hi]) fun h' hit' hs' => ?_
    exact hQ _ h' s.toks (by simp [hi]) ⟨hit', st.2.1.extBut hs'.extBut hne, hs'.extBut x1 _ hn1 st.2.2⟩ fun b o hb e => hs'.extBut b o (fun h => hb (by simp [h])) e
  done := fun s Q E st hQ => next_list_end_hot ⟨hh, o1, vs1, st.2.2, d1, c1⟩ hn1 st.1 st.2.1 (by simp) fun h' he' => hQ h' s.toks fun b o hb e => he' b o (fun h => hb (by simp [h])) e
  self := fun _ _ _ _ st hQ => wpAny_pyIter_listiter st.1 hQ
end
section
variable {X : Cx}
theorem cr_anyH (c : L2H.HotC X) : CallR X (.builtin "any") (rAny X.K) := by
  intro pins s σ H vs us Q I r h
  obtain ⟨a, bs, rfl, hs, q⟩ := h
  obtain ⟨its, rv, hl, _⟩ := I.list hs
  obtain ⟨p, ⟨hh, v1, e1, c1⟩, hp⟩ := c
  have gp := (I.pin p (List.mem_append_left _ hp)).1
  rw [Vals.ref1 r]
  have hb := rv.bls
  refine call_any_walk (iter_any hl.isList fun s₂ e2 st hne => ?_)
  subst e2
  refine ⟨_, _, _, _, _, _, _, rfl, walks_list_hot (A := X.A.in1) hh e1 c1 _ a hne (Nat.ne_of_lt (Heap.lt_size gp)) its.toArray, ⟨st.1, st.2, Heap.get?_push_of_some _ gp⟩, truth_bools hb, fun h' tk hk => ?_⟩
  refine ⟨.bl _, H, I.kept fun b o eo => hk b o (fun hmem => ?_) (Heap.get?_push_of_some _ eo), ?_, q⟩
  · rcases List.mem_cons.mp hmem with e1 | hmem
    · exact absurd (e1 ▸ Heap.lt_size eo) (Nat.lt_irrefl _)
    · cases hmem
  · show Value.bool _ = Value.bool _
    rw [← any_range, hb, List.size_toArray, List.length_map]
end
end L2
/-! exceptions: defs that raise, try .. as, isinstance of what is caught -/
namespace Ew
open PySem PySem.Spec PyProof.Rows L2 Evl Evm
theorem takes0N {X : Cx} : L2N.Takes X (fun _ _ _ _ => False) := fun _ _ x => by
  obtain ⟨_, _, _, _, _, _, _, _, _, _, _, _, _, _, _, _, z⟩ := x
  exact z.elim
section
variable {P : Program} {w : World} {K : PySem.W.Frag} {mg : Str → Option Value} {base : Heap}
theorem Df.okX {x : Str} {st : Stmt} {N ps : List Str} {k : Nat} {sp : Sp} (D : Df K mg x st ps) (S : FnScope N ps (defScope st)) (len : ∀ vs H Q E, sp vs H Q E → vs.length = ps.length)
    (hbody : ∀ (f : Addr) (cdv : Value) (A : Around) (outer : List Env) (s : Shared) (H : Hp) (vs : List V) (Q : VK) (E : XK), Room k (A.deeper (envOfC x (defScope st) s.heap.objs.size f cdv)) → sp vs H Q E →
      ∃ t, PSs (cxOf (L2N.CX P w) P w K mg base N x (defScope st) f cdv A outer s H E) (defBody st) t ∧ t { nx := fun _ H' => Q .non H', rt := Q } (start N vs) H) : Fd P w K mg base (L2N.CX P w) x (k + 1) ps sp := by
  obtain ⟨f, fd, F, m, b⟩ := D.ex
  obtain ⟨oc, od, kV, doc, pm, an, cdv, ct, osl, rfl, lk, hcd⟩ := F.ex
  exact ⟨f, _, fn_of lk hcd S len fun A outer s H vs Q E hr hsp => hbody f cdv A outer s H vs Q E hr hsp, m, F.kp, b⟩
end
section
variable {X : Cx}
theorem pe_fdS {CX : CXT} {x : Str} {k j : Nat} {ps : List Str} {sp : Sp} {E : L2.St → XK} {e : Expr} {es : List Expr} {t : TA} {p pos : Pos} (F : Fd X.prog X.w X.K X.mg X.base CX x k ps sp) (hr : Room j X.A) (hj : k ≤ j) (hx : ∀ σ, PassesAt CX X σ (E σ)) (ha : PA X (e :: es) t) (hg : Gl X x := by rfl)
    (hdb : (x == ("__debug__" : Str)) = false := by decide) (he : starEach (e :: es) X.env = (false, eval e X.env) :: starEach es X.env := by rfl) (hpl : (backTo pos (starEach es X.env)).any (·.1) = false := by rfl) :
    PE X (.Call (.Name x p) (e :: es) [] pos) (tCallS sp E t) := by
  obtain ⟨f, fd, F, m, kp, b⟩ := F.ex
  exact pe_callS F (hr.mono hj) hg m kp b hx ha hdb he hpl
/-- a def that raises, where its exceptions go the same way out -/
theorem passE {W : WX} (tk : L2N.Takes X W) : ∀ σ, PassesAt (L2N.CX X.prog X.w) X σ (WE W σ) := fun σ => L2N.passAt tk σ
/-- where nothing is let out, no exception comes -/
theorem passN : Passes (L2N.CX X.prog X.w) X E0 := fun _ _ _ _ _ _ _ h => by
  obtain ⟨_, _, _, _, _, _, _, _, _, _, _, _, z⟩ := h
  exact z.elim
def rIsX (K : PySem.W.Frag) (cls : Value) (d : Option Addr) (a : Addr) : List V → Hp → VK → Prop := fun xs H Q => ∃ D, cls = .ref D ∧ d = none ∧ ExcC K D ∧ rIsE K D a xs H Q
theorem call_isX {a : Addr} {cls : Value} {d : Option Addr} {oe : Obj} {pn : List (Addr × Obj)} {K : PySem.W.Frag} (hz : L2N.Zn cls d oe) (hf : ∃ vs, oe.data = .fields vs) (hK : X.K = K := by rfl) : CallR (X.suite a ((a, oe) :: pn)) (.builtin "isinstance") (rIsX K cls d a) := by
  subst hK
  intro pins s σ H xs us Q I r h
  obtain ⟨D, rfl, rfl, C, h⟩ := h
  exact call_isE C hz.zc hf pins s σ H xs us Q I r h
theorem hot_suite {a : Addr} {cls : Value} {d : Option Addr} {oe : Obj} {pn : List (Addr × Obj)} (hz : L2N.Zn cls d oe) (hf : ∃ vs, oe.data = .fields vs) : L2H.HotC (X.suite a ((a, oe) :: pn)) := by
  obtain ⟨vs, hd⟩ := hf
  exact ⟨(a, oe), ⟨rfl, vs, hd, hz.2.2 vs hd⟩, List.mem_cons_self⟩
theorem cr_anyHE {K : PySem.W.Frag} (c : L2H.HotC X) (hK : X.K = K := by rfl) : CallR X (.builtin "any") (rAny K) := by subst hK; exact cr_anyH c
theorem cr_setE {K : PySem.W.Frag} {w : World} (hc : X.calm = true) (hK : X.K = K := by rfl) (hw : X.w = w := by rfl) : CallR X (.type "set") (rSetIs K w) := by subst hK hw; exact cr_setIs hc
theorem cr_sortedSetE {w : World} (hc : X.calm = true) (hw : X.w = w := by rfl) : CallR X (.builtin "sorted") (rSortedSetA w) := by subst hw; exact cr_sortedSetA hc
theorem pe_revE {K : PySem.W.Frag} {e : Expr} {te : TE} {k : Nat} {p1 p2 p3 pos : Pos} (he : PE X e te) (hK : X.K = K := by rfl) : PE X (.Subscript e (.Slice none none (some (.UnaryOp .USub (.Constant (.int 1) k p1) p2)) p3) pos) (tRevL K te) := by subst hK; exact pe_revL he
end
/-- what is known of an exception's class -/
structure Xc (K : PySem.W.Frag) (C : Addr) : Prop where
  ex : PySem.W.excIn K C [.type "ValueError", .type "Exception", .type "BaseException", .type "object"] "ValueError.__new__" = true
  kp : PySem.W.keepIn K (.ref C) = true
  ty : PySem.W.typeIn K (.ref C) = some (.type "type")
  is : ExcC K C
theorem rising_eq : ∀ (l m : List Int), l.Pairwise (· < ·) → m.Pairwise (· < ·) → (∀ k, k ∈ l ↔ k ∈ m) → l = m
  | [], [], _, _, _ => rfl
  | [], y :: m, _, _, h => by have := (h y).mpr List.mem_cons_self; cases this
  | x :: l, [], _, _, h => by have := (h x).mp List.mem_cons_self; cases this
  | x :: l, y :: m, hl, hm, h => by
    obtain ⟨l1, l2⟩ := List.pairwise_cons.mp hl
    obtain ⟨m1, m2⟩ := List.pairwise_cons.mp hm
    have e : x = y := by
      have a := (h x).mp List.mem_cons_self
      have b := (h y).mpr List.mem_cons_self
      rcases List.mem_cons.mp a with a | a
      · exact a
      · rcases List.mem_cons.mp b with b | b
        · exact b.symm
        · have := m1 _ a
          have := l1 _ b
          omega
    subst e
    rw [rising_eq l m l2 m2 fun k => ?_]
    have hk := h k
    rw [List.mem_cons, List.mem_cons] at hk
    constructor
    · intro z
      rcases hk.mp (.inr z) with q | q
      · have := l1 _ z; omega
      · exact q
    · intro z
      rcases hk.mpr (.inr z) with q | q
      · have := m1 _ z; omega
      · exact q
/-- sorted(set(xs)) of a rising list -/
theorem el_sortedSet {K : PySem.W.Frag} {w : World} {σ : L2.St} {H : Hp} {te : TE} {a : Addr} {l : List Int} (h : Evl.Ev te σ H (.ref a)) (hl : IntsAt H a l) (hz : l.length ≤ 1000) (hr : l.Pairwise (· < ·)) :
    EvL (tCB (rSortedSetA w) (tCons (tCB (rSetIs K w) (tCons te tNil)) tNil)) σ H (l.map V.int) := fun H1 e Q q =>
  h H1 e _ fun H2 e2 => ⟨a, l, rfl, SqL.of ((e.trans e2) _ _ hl), hz, fun p c hc np => ⟨p, _, c, rfl, upd_same, Nat.le_trans hc hz, fun ns p2 hs hm hn np2 => by
    have en : ns = l := rising_eq _ _ hs hr fun k => by rw [hm k, decide_eq_true_eq]
    subst en
    have e3 : Ex H2 (upd (upd H2 p (SetO w p (fun j => decide (j ∈ ns)) c)) p2 (.lst (ns.map V.int))) := (Ex.new np).trans (Ex.new np2)
    exact q p2 _ (fresh_back (Ex.new np) np2 |> fun z => fresh_back e2 z) (e2.trans e3) upd_same⟩⟩
/-! ### the greedy sum -/
def mk (ns : Nm) (a : Int) : List Int := (gr a (divs ns).reverse).1.reverse
theorem mk_ok {ns : Nm} {a : Int} (ok : Ok ns) (hb : bar ns = 0) (h0 : 0 ≤ a) (h1 : a ≤ tot ns) : (mk ns a).Sublist (divs ns) ∧ (mk ns a).sum = a := by
  have ia : Evm.isAll (divs ns) = true := by rw [ok.isAll, hb]; rfl
  obtain ⟨_, s1, s2⟩ := gr_made _ (divs ns) a rfl (divs_pos ok.posP) ia h0 (by rw [divs_sum]; exact h1)
  exact ⟨s1, s2⟩
theorem divs_rising {ns : Nm} (ok : Ok ns) : (divs ns).Pairwise (· < ·) := lt_of_le_nodup _ (divs_sorted ns) ok.nodup
end Ew
/-! displays of numbers, each with what is known of it -/
namespace Ew
open PySem PySem.Spec PyProof.Rows L2 Evl Evm
section
variable {K : PySem.W.Frag} {σ : L2.St} {H : Hp} {te : TE}
def PsAt (P : Nm → Prop) (H : Hp) (vs : List V) : Prop := ∀ v ∈ vs, ∃ c ms, v = .ref c ∧ NumAt H c ms ∧ P ms
theorem PsAt.ex {P : Nm → Prop} {H H' : Hp} {vs : List V} (e : Ex H H') (h : PsAt P H vs) : PsAt P H' vs := fun v hv => let ⟨c, ms, h1, h2, h3⟩ := h v hv; ⟨c, ms, h1, h2.ex e, h3⟩
def EvPs (P : Nm → Prop) (ta : TA) (σ : L2.St) (H : Hp) (n : Nat) : Prop := ∀ H1, Ex H H1 → ∀ Q : List V → Hp → Prop, (∀ vs H2, Ex H1 H2 → vs.length = n → PsAt P H2 vs → Q vs H2) → ta σ H1 Q
theorem ep_nil {P : Nm → Prop} : EvPs P tNil σ H 0 := fun H1 e Q q => q [] H1 (Ex.refl _) rfl (fun v hv => by cases hv)
theorem ep_cons {P : Nm → Prop} {n : Nat} {ta : TA} {ms : Nm} (h : EvN te σ H ms) (ok : P ms) (hr : EvPs P ta σ H n) : EvPs P (tCons te ta) σ H (n + 1) := fun H1 e Q q =>
  h H1 e _ fun a H2 e2 ha => hr H2 (e.trans e2) _ fun vs H3 e3 hl hv => q _ H3 (e2.trans e3) (by simp [hl]) fun v m => by
    rcases List.mem_cons.mp m with z | z
    · subst z; exact ⟨a, ms, rfl, ha.ex e3, ok⟩
    · exact hv v z
/-- for x in (a, b, ..) of numbers -/
theorem s_forPs {P : Nm → Prop} {n : Nat} {ta : TA} {g : TG} {tu : TS} {D : Ends} (h : EvPs P ta σ H n) (hn : n ≤ 1000) (Pv : Addr → List V → Nat → L2.St → Hp → Prop) (h0 : ∀ t vs H1, Ex H H1 → H1 t = some (.tup vs) → PsAt P H1 vs → Pv t vs 0 σ H1) (hl : ∀ t vs i σ' H', Pv t vs i σ' H' → H' t = some (.tup vs))
    (hs : ∀ t vs i x σ' H', vs[i]? = some x → Pv t vs i σ' H' → g x σ' H' fun σ2 H2 => tu { D with nx := Pv t vs (i + 1), ct := Pv t vs (i + 1), bk := D.nx } σ2 H2) (hd : ∀ t vs σ' H', Pv t vs vs.length σ' H' → D.nx σ' H') : tFor (iTup K (tTup ta)) g tu D σ H :=
  h H (Ex.refl H) _ fun vs H1 e1 hlen hv => ⟨sizeL (by omega), fun t nt => ⟨t, rfl, ⟨vs, SqT.of upd_same⟩, for_tup (xs := vs) (Pv t vs) (h0 t vs _ (e1.trans (Ex.new nt)) upd_same (hv.ex (Ex.new nt))) (fun i σ' H' _ z => SqT.of (hl _ _ _ _ _ z)) (hs t vs) (hd t vs)⟩⟩
theorem q_forPs {P : Nm → Prop} {n : Nat} {ta : TA} {g : TG} {tu tz : TS} {D : Ends} (h : EvPs P ta σ H n) (hn : n ≤ 1000) (Pv : Addr → List V → Nat → L2.St → Hp → Prop) (h0 : ∀ t vs H1, Ex H H1 → H1 t = some (.tup vs) → PsAt P H1 vs → Pv t vs 0 σ H1) (hl : ∀ t vs i σ' H', Pv t vs i σ' H' → H' t = some (.tup vs))
    (hs : ∀ t vs i x σ' H', vs[i]? = some x → Pv t vs i σ' H' → g x σ' H' fun σ2 H2 => tu { D with nx := Pv t vs (i + 1), ct := Pv t vs (i + 1), bk := tz D } σ2 H2) (hd : ∀ t vs σ' H', Pv t vs vs.length σ' H' → tz D σ' H') : tSeq (tFor (iTup K (tTup ta)) g tu) tz D σ H :=
  s_forPs (D := { D with nx := tz D }) h hn Pv h0 hl hs hd
/-- members of a list of numbers from 0 on -/
theorem mem_sum : ∀ (l : List Int), (∀ x ∈ l, 0 ≤ x) → ∀ x ∈ l, x ≤ l.sum
  | [], _, x, h => by cases h
  | y :: l, hp, x, h => by
    have ih := mem_sum l fun z hz => hp z (List.mem_cons_of_mem _ hz)
    have y0 := hp y List.mem_cons_self
    have s0 : ∀ l : List Int, (∀ x ∈ l, 0 ≤ x) → 0 ≤ l.sum := fun l => by
      induction l with
      | nil => intro _; exact Int.le_refl 0
      | cons a l ih2 =>
        intro q
        have a1 := q a List.mem_cons_self
        have a2 := ih2 fun z hz => q z (List.mem_cons_of_mem _ hz)
        rw [List.sum_cons]
        omega
    have s1 := s0 l fun z hz => hp z (List.mem_cons_of_mem _ hz)
    rw [List.sum_cons]
    rcases List.mem_cons.mp h with e | e
    · omega
    · have := ih x e
      omega
end
end Ew
/-! dicts of prime and how often; lists of pairs made -/
namespace Ew
open PySem PySem.Spec PyProof.Rows L2 Evl Evm
theorem PS_nox {X : Cx} {st : Stmt} {t : TS} (h : PS X.nox st t) : PS X st t := ⟨fun pins s σ H D I hw =>
  wpAny_mono (h.run pins s σ H D (I.wish _) hw) (fun _ _ q => q.unwish) fun _ _ z => False.elim z⟩
def emb (d : Nm) : List (Key × V) := d.map fun q => ((Sum.inl q.1 : Key), V.int (q.2 : Int))
theorem emb_val (p : Int) : ∀ d : Nm, valV (emb d) (Sum.inl p) = (d.find? fun q => decide (q.1 = p)).map fun q => V.int (q.2 : Int)
  | [] => rfl
  | q :: d => by
    by_cases h : q.1 = p
    · rw [List.find?_cons_of_pos (by simpa using h)]
      exact valV_pos (p := ((Sum.inl q.1 : Key), V.int (q.2 : Int))) (by rw [h])
    · rw [List.find?_cons_of_neg (by simpa using h), ← emb_val p d]
      exact valV_neg (p := ((Sum.inl q.1 : Key), V.int (q.2 : Int))) (fun z => h (Sum.inl.inj z))
theorem emb_get (d : Nm) (p : Int) : (valV (emb d) (Sum.inl p)).getD (.int 0) = .int (dget d p : Int) := by
  rw [emb_val]
  unfold dget
  cases d.find? fun q => decide (q.1 = p) <;> rfl
theorem emb_there {d : Nm} {p : Int} (h : p ∈ d.map (·.1)) : valV (emb d) (Sum.inl p) = some (.int (dget d p : Int)) := by
  rw [emb_val]
  unfold dget
  cases e : d.find? fun q => decide (q.1 = p) with
  | some q => rfl
  | none =>
    obtain ⟨q, hq, hp⟩ := List.mem_map.mp h
    exact absurd (decide_eq_true hp) (List.find?_eq_none.mp e q hq)
theorem emb_any (d : Nm) (p : Int) : ((emb d).any fun kv => decide (kv.1 = (Sum.inl p : Key))) = true ↔ p ∈ d.map (·.1) := by
  unfold emb
  rw [List.any_map, List.any_eq_true, List.mem_map]
  constructor
  · rintro ⟨q, hq, h⟩
    exact ⟨q, hq, Sum.inl.inj (of_decide_eq_true h)⟩
  · rintro ⟨q, hq, h⟩
    exact ⟨q, hq, decide_eq_true (congrArg Sum.inl h)⟩
theorem emb_map (p : Int) (v : V) : ∀ d : Nm, p ∉ d.map (·.1) → (emb d).map (fun kv => if kv.1 = (Sum.inl p : Key) then (kv.1, v) else kv) = emb d
  | [], _ => rfl
  | q :: d, h => by
    have h1 : q.1 ≠ p := fun z => h (by rw [← z]; exact List.mem_cons_self)
    show (if (Sum.inl q.1 : Key) = Sum.inl p then _ else _) :: (emb d).map _ = _
    rw [if_neg (fun z => h1 (Sum.inl.inj z)), emb_map p v d fun z => h (List.mem_cons_of_mem _ z)]
    rfl
theorem emb_put : ∀ (d : Nm) (p : Int) (e : Nat), (d.map (·.1)).Nodup → putK (emb d) (Sum.inl p) (.int ((dget d p : Int) + (e : Int))) = emb (addK d p e)
  | d, p, e, nd => by
    unfold putK
    by_cases h : p ∈ d.map (·.1)
    · rw [if_pos ((emb_any d p).mpr h)]
      induction d with
      | nil => cases h
      | cons q d ih =>
        obtain ⟨n1, n2⟩ := List.nodup_cons.mp nd
        by_cases hq : q.1 = p
        · have hd : p ∉ d.map (·.1) := by rw [← hq]; exact n1
          have eg : dget (q :: d) p = q.2 := by unfold dget; rw [List.find?_cons_of_pos (by simpa using hq)]; rfl
          rw [addK_y hq, eg]
          show (if (Sum.inl q.1 : Key) = Sum.inl p then _ else _) :: (emb d).map _ = _
          rw [if_pos (by rw [hq]), emb_map p _ d hd]
          show _ = ((Sum.inl q.1 : Key), V.int ((q.2 + e : Nat) : Int)) :: emb d
          rw [Int.natCast_add]
        · have hm : p ∈ d.map (·.1) := by
            rcases List.mem_cons.mp h with z | z
            · exact absurd z.symm hq
            · exact z
          have eg : dget (q :: d) p = dget d p := by unfold dget; rw [List.find?_cons_of_neg (by simpa using hq)]
          have ih2 := ih n2 hm
          rw [addK_n hq, eg]
          show (if (Sum.inl q.1 : Key) = Sum.inl p then _ else _) :: (emb d).map _ = _
          rw [if_neg (fun z => hq (Sum.inl.inj z)), ih2]
          rfl
    · have h0 : dget d p = 0 := by
        unfold dget
        rw [List.find?_eq_none.mpr fun q hq z => h (List.mem_map.mpr ⟨q, hq, of_decide_eq_true z⟩)]
        rfl
      rw [if_neg (fun z => h ((emb_any d p).mp z)), addK_new d p e h, h0]
      unfold emb
      rw [List.map_append]
      show _ ++ [((Sum.inl p : Key), V.int (((0 : Nat) : Int) + (e : Int)))] = _ ++ [((Sum.inl p : Key), V.int (e : Int))]
      rw [show ((0 : Nat) : Int) + (e : Int) = (e : Int) from Int.zero_add _]
/-- sorted(d), d's keys ints -/
def rSortedDI : List V → Hp → VK → Prop := fun xs H Q => ∃ (a : Addr) (kvs : List (Key × V)) (ks : List Int), xs = [.ref a] ∧ Rd H a (.dK kvs) ∧ kvs.map (·.1) = ks.map Sum.inl ∧ ks.length < 64 ∧
    ∀ (ys : List Int) (p : Addr), ys.Perm ks → ys.Pairwise (· ≤ ·) → H p = none → Q (.ref p) (upd H p (.lst (ys.map V.int)))
theorem cr_sortedDI {X : Cx} (hc : X.calm = true) : CallR X (.builtin "sorted") rSortedDI := call_sortedDI hc
section
variable {K : PySem.W.Frag} {σ : L2.St} {H : Hp} {ta' tl te : TE}
theorem el_sortedD {a : Addr} {d : Nm} (h : Evl.Ev te σ H (.ref a)) (hd : H a = some (.dK (emb d))) (hz : d.length < 64) : EvL (tCB rSortedDI (tCons te tNil)) σ H ((keysS d).map V.int) := fun H1 e Q q =>
  h H1 e _ fun H2 e2 => ⟨a, emb d, d.map (·.1), rfl, .inl ((e.trans e2) _ _ hd), by unfold emb; rw [List.map_map, List.map_map]; rfl, by rw [List.length_map]; exact hz, fun ys p pm so np => by
    rw [sorted_eq pm so]
    exact q p _ (fresh_back e2 np) (e2.trans (Ex.new np)) upd_same⟩
theorem PairsAt.append {H : Hp} {xs ys : List V} {ns ms : Nm} (h : PairsAt H xs ns) (h2 : PairsAt H ys ms) : PairsAt H (xs ++ ys) (ns ++ ms) := by
  refine ⟨by rw [List.length_append, List.length_append, h.1, h2.1], fun i q hq => ?_⟩
  by_cases c : i < ns.length
  · rw [List.getElem?_append_left c] at hq
    rw [List.getElem?_append_left (by rw [h.1]; exact c)]
    exact h.2 i q hq
  · rw [List.getElem?_append_right (by omega)] at hq
    rw [List.getElem?_append_right (by rw [h.1]; omega), h.1]
    exact h2.2 _ q hq
/-- a number's new list -/
def EvF (te : TE) (σ : L2.St) (H : Hp) (ns : Nm) : Prop := ∀ H1, Ex H H1 → ∀ Q : VK, (∀ a H2, H1 a = none → Ex H1 H2 → NumAt H2 a ns → Q (.ref a) H2) → te σ H1 Q
theorem EvF.n {ns : Nm} (h : EvF te σ H ns) : EvN te σ H ns := fun H1 e Q q => h H1 e Q fun a H2 _ e2 hn => q a H2 e2 hn
theorem q_asgF {D : Ends} {tz : TS} {i : Nat} {ns : Nm} (h : EvF te σ H ns) (k : ∀ a H1, H a = none → Ex H H1 → NumAt H1 a ns → tz D (σ.set i (some (.ref a))) H1) : tSeq (tAsg te (gName i)) tz D σ H := h H (Ex.refl H) _ fun a H1 na e hn => k a H1 na e hn
theorem s_retF {D : Ends} {ns : Nm} (h : EvF te σ H ns) (k : ∀ a H1, H a = none → Ex H H1 → NumAt H1 a ns → D.rt (.ref a) H1) : tRet te D σ H := h H (Ex.refl H) _ fun a H1 na e hn => k a H1 na e hn
theorem ef_list {ns : Nm} {a : Addr} (h : Evl.Ev te σ H (.ref a)) (hn : NumAt H a ns) : EvF (tCB (rListS K) (tCons te tNil)) σ H ns := fun H1 e Q q =>
  let ⟨xs, hx, hp⟩ := hn
  el_list h (SqL.of hx) H1 e Q fun p H2 np e2 hp2 => q p H2 np e2 ⟨xs, hp2, hp.ex (e.trans e2)⟩
/-- a list of two numbers -/
def TwoAt (n o : Nm) (H : Hp) (x : Addr) : Prop := ∃ c d, H x = some (.lst [.ref c, .ref d]) ∧ NumAt H c n ∧ NumAt H d o
theorem TwoAt.ex {n o : Nm} {H H' : Hp} {x : Addr} (e : Ex H H') (h : TwoAt n o H x) : TwoAt n o H' x := let ⟨c, d, h1, h2, h3⟩ := h; ⟨c, d, e _ _ h1, h2.ex e, h3.ex e⟩
theorem er_two {n o : Nm} (h1 : EvN ta' σ H n) (h2 : EvN te σ H o) : EvR (tLst (tCons ta' (tCons te tNil))) σ H (TwoAt n o) := fun H1 e Q q =>
  h1 H1 e _ fun c H2 e2 hc => h2 H2 (e.trans e2) _ fun d H3 e3 hd => ⟨sizeL (by show 2 ≤ 100000; decide), fun p np => q p _ ((e2.trans e3).trans (Ex.new np)) ⟨c, d, upd_same, (hc.ex e3).ex (Ex.new np), hd.ex (Ex.new np)⟩⟩
theorem ev_opR {r : R2} {P Q' : Hp → Addr → Prop} {z : V} (ha : EvR tl σ H P) (hb : EvR te σ H Q') (mono : ∀ a H1 H2, Ex H1 H2 → P H1 a → P H2 a) (hr : ∀ a b H1, P H1 a → Q' H1 b → RV r (.ref a) (.ref b) H1 z) : Evl.Ev (tOp r tl te) σ H z := fun H1 e Q k =>
  ha H1 e _ fun a H2 e2 h1 => hb H2 (e.trans e2) _ fun b H3 e3 h2 => hr a b H3 (mono _ _ _ e3 h1) h2 H3 (Ex.refl _) Q fun H4 e4 => k H4 ((e2.trans e3).trans e4)
theorem rv_neTwo {n o : Nm} {a b : Addr} (h : TwoAt n o H a) (h' : TwoAt n o H b) : RV (rNeD K) (.ref a) (.ref b) H (.bl false) := fun H1 e Q q => by
  have sh : SeqAt.shaped (.list [dnum n, dnum o]) = true := by
    have a1 := shaped_num n
    have a2 := shaped_num o
    have b1 := deep_nums n
    have b2 := deep_nums o
    simp only [SeqAt.shaped, dnum, PyData.canLay0, PyData.canLayAll0, PyData.depth, PyData.depthAll, lay_nums, Bool.true_and, Bool.and_true, decide_eq_true_eq] at *
    omega
  have dp : ∀ {x}, TwoAt n o H x → Dp K H1 (.ref x) (.list [dnum n, dnum o]) := fun h => by
    obtain ⟨c, d, h1, h2, h3⟩ := h
    exact .lst (SqL.of (e _ _ h1)) (.cons (dp_num (h2.ex e)) (.cons (dp_num (h3.ex e)) .nil))
  refine ⟨_, _, dp h, dp h', sh, sh, ?_⟩
  have : PyData.eqv (.list [dnum n, dnum o]) (.list [dnum n, dnum o]) = true := by
    rw [PyData.eqv, PyData.eqvAll, PyData.eqvAll, PyData.eqvAll, eqv_nums, eqv_nums, decide_eq_true rfl, decide_eq_true rfl]
    rfl
  rw [this]
  exact q H1 (Ex.refl _)
/-- [(x, g x) for x in l] -/
theorem ef_lcPairs {l : List Int} {g : Int → Nat} {j : Nat} {vs : List Nat} (h : EvL tl σ H (l.map V.int)) (hz : l.length ≤ 40000) (hw : ∀ x, wipe ((wipe σ vs).set j (some x)) vs = wipe σ vs)
    (he : ∀ x ∈ l, ∀ H1, Ex H H1 → EvU te ((wipe σ vs).set j (some (.int x))) H1 [.int x, .int (g x : Int)]) : EvF (tLc (iList K tl) (gName j) tYes te vs) σ H (l.map fun x => (x, g x)) := fun H1 e Q q =>
  h H1 e _ fun p H2 np e2 hp => ⟨p, rfl, ⟨_, SqL.of hp⟩, fun D hD => by
    have dp : p ≠ D := ne_of_none hp hD
    refine lc_list (xs := l.map V.int) (fun i H' => Ex H2 H' ∧ ∃ acc, H' D = some (.lst acc) ∧ PairsAt H' acc ((l.take i).map fun x => (x, g x))) ⟨Ex.new hD, [], upd_same, PairsAt.nil⟩ (fun i H' _ z => SqL.of (z.1 _ _ hp)) ?_ ?_
    · rintro i x H' hx ⟨e3, acc, ha, hpa⟩
      obtain ⟨z, hz2, rfl⟩ := int_at hx
      have hil : i < l.length := (List.getElem?_eq_some_iff.mp hz2).1
      refine ⟨hw _, ?_⟩
      delta tYes
      dsimp only
      rw [if_pos rfl]
      have hlen : acc.length = i := by rw [hpa.1, List.length_map, List.length_take]; omega
      refine he z (mem_get hz2) H' ((e.trans e2).trans e3) H' (Ex.refl _) _ fun t H4 nt e4 ht => ⟨acc, e4 _ _ ha, sizeL (by omega), Ex.mut (e3.trans e4) hD, acc ++ [.ref t], upd_same, ?_⟩
      have ha4 := e4 _ _ ha
      have tD : t ≠ D := ne_of ht ha4 (by intro z; cases z)
      have hp4 : PairsAt (upd H4 D (.lst (acc ++ [.ref t]))) acc ((l.take i).map fun x => (x, g x)) := ⟨hpa.1, fun j r hj => by
        obtain ⟨u, h1, h2⟩ := hpa.2 j r hj
        refine ⟨u, h1, ?_⟩
        rw [upd_ne (ne_of h2 ha (by intro z; cases z))]
        exact e4 _ _ h2⟩
      rw [take_get hz2, List.map_append]
      exact hp4.snoc (q := (z, g z)) (by rw [upd_ne tD]; exact ht)
    · rintro H' ⟨e3, acc, ha, hpa⟩
      rw [List.length_map, List.take_length] at hpa
      exact q D H' (fresh_back e2 hD) (e2.trans e3) ⟨acc, ha, hpa⟩⟩
end
end Ew
/-! defs called in an except suite with the exception itself; a call of a local that holds a def that raises -/
namespace Ew
open PySem PySem.Spec PyProof.Rows L2 L2H Evl Evm
/-- what a def promises in a suite, of the handled exception p -/
structure FnHp (P : Program) (w : World) (K : PySem.W.Frag) (mg : Str → Option Value) (base : Heap) (CX : CXT) (k : Nat) (f : Addr) (fd : FuncData) (ps : List Str) (sp : Addr × Obj → Sp) : Prop where
  len : ∀ p vs H Q E, sp p vs H Q E → vs.length = ps.length
  run : ∀ (A : Around) (outer : List Env) (s : Shared) (H : Hp) (args : Args) (us : List Value) (vs : List V) (Q : VK) (E : XK) (p : Addr × Obj), RoomH k A → Hot1 A p → PinOk outer H s p → Env0 P w K mg base A outer s H → BindsTo s fd args (ps.zip us) → Vals vs us → sp p vs H Q E →
    codeAny (model P w) A (.call (.ref f) args) (CR CX outer P w H s Q E) s
theorem fn_ofHp {CX : CXT} {P : Program} {w : World} {K : PySem.W.Frag} {mg : Str → Option Value} {base : Heap} {k : Nat} {f : Addr} {name qual : Str} {params : Arguments} {body : List Stmt} {scope : Scope} {dV kV doc pm cdv ct oc : Value} {an od : Option Addr}
    {osl : Array (Option Value)} {N ps : List Str} {sp : Addr × Obj → Sp} (lk : K.lookup f = some ⟨oc, od, .func (PySem.W.fnOf name qual params body scope dV kV doc pm an cdv ct), osl⟩) (hcd : PySem.W.codeIn K cdv qual = true) (S : FnScope N ps scope)
    (len : ∀ p vs H Q E, sp p vs H Q E → vs.length = ps.length)
    (hbody : ∀ (A : Around) (outer : List Env) (s : Shared) (H : Hp) (vs : List V) (Q : VK) (E : XK) (p : Addr × Obj), Hot1 A p → RoomH k (A.deeper (envOfC qual scope s.heap.objs.size f cdv)) → sp p vs H Q E →
      ∃ t, PSs (cxH CX P w K mg base N qual scope f cdv A outer s H E p) body t ∧ t { nx := fun _ H' => Q .non H', rt := Q } (L2.start N vs) H) :
    FnHp P w K mg base CX (k + 1) f (PySem.W.fnOf name qual params body scope dV kV doc pm an cdv ct) ps sp := by
  refine ⟨len, fun A outer s H args us vs Q E p hr hot hpin e0 hb r hsp => ?_⟩
  -- for this one exception it is the library's own promise
  have F : FnH P w K mg base CX (k + 1) f (PySem.W.fnOf name qual params body scope dV kV doc pm an cdv ct) ps (fun vs H Q E => False) :=
    fn_ofH lk hcd S (fun _ _ _ _ z => z.elim) (fun _ _ _ _ _ _ _ _ _ _ z => z.elim)
  have hl := len _ _ _ _ _ hsp
  have KX : K.In s.heap := e0.mod.kin.keeps fun b o e => (e0.bs b o e).1
  have lim : s.heap.NoLimit := e0.mod.nolimit.keeps fun b o e => (e0.bs b o e).1
  have hkind : ∀ y ∈ ps.zip us, scope.names.lookup y.1 = some .local ∨ (scope.names.lookup y.1 = some .cell ∧ ((cellsFrom (s.heap.objs.size + 1) scope.names []).lookup y.1).isSome = true) := fun ⟨n, v⟩ hy => by
    rcases S.par n (List.of_mem_zip hy).1 with q | q
    · exact .inl q
    · exact .inr ⟨q, PySem.W.cellsFrom_some _ _ _ (.inl q)⟩
  refine codeAny_call_function hr.depth (KX _ _ lk) rfl S.co S.gen rfl (PySem.W.codeRec_of KX hcd) (hb _ _ _ _ ?_)
  refine wpAny_newFunctionEnv_cells S.kind hkind fun env he s1 x => ?_
  subst he
  refine ⟨lim.keeps x.toInCall.keep, codeAny_func ?_⟩
  obtain ⟨t, ht, hq⟩ := hbody A outer s H vs Q E p hot (hr.deeper _) hsp
  have I := inv_startH (CX := CX) (qual := qual) (f := f) (cd := cdv) (E := E) S hpin e0 hl r x
  refine wpAny_mono (ht.run [] s1 (L2.start N vs) H _ I hq) (fun fl s' hs => ?_) fun e s' hs => hs
  have fin : ∀ {σ' : L2.St} {H' : Hp} {v : V} {u : Value}, Inv (cxH CX P w K mg base N qual scope f cdv A outer s H E p) [] σ' H' s' → RelV v u → Q v H' → CE outer P w H s Q u s' :=
    fun {σ' H' v u} J rv q => ⟨v, H', J.os, J.bare, J.base, J.hok, rv, q⟩
  cases fl with
  | ret u =>
    obtain ⟨v, σ', H', J, rv, q⟩ := hs
    exact fin J rv q
  | next =>
    obtain ⟨σ', H', J, q⟩ := hs
    exact fin (v := V.non) (u := Value.none) J rfl q
  | brk =>
    obtain ⟨_, _, _, q⟩ := hs
    exact False.elim q
  | cont =>
    obtain ⟨_, _, _, q⟩ := hs
    exact False.elim q
/-- such a def, by its name -/
structure FdH (P : Program) (w : World) (K : PySem.W.Frag) (mg : Str → Option Value) (base : Heap) (x : Str) (k : Nat) (ps : List Str) (sp : Addr × Obj → Sp) : Prop where
  ex : ∃ (f : Addr) (fd : FuncData), FnHp P w K mg base CX0 k f fd ps sp ∧ mg x = some (.ref f) ∧ PySem.W.keepIn K (.ref f) = true ∧ Binds K fd ps []
theorem Df.okH {P : Program} {w : World} {K : PySem.W.Frag} {mg : Str → Option Value} {base : Heap} {x : Str} {st : Stmt} {N ps : List Str} {k : Nat} {sp : Addr × Obj → Sp} (D : Df K mg x st ps) (S : FnScope N ps (defScope st)) (len : ∀ p vs H Q E, sp p vs H Q E → vs.length = ps.length)
    (hbody : ∀ (f : Addr) (cdv : Value) (A : Around) (outer : List Env) (s : Shared) (H : Hp) (vs : List V) (Q : VK) (E : XK) (p : Addr × Obj), Hot1 A p → RoomH k (A.deeper (envOfC x (defScope st) s.heap.objs.size f cdv)) → sp p vs H Q E →
      ∃ t, PSs (cxH CX0 P w K mg base N x (defScope st) f cdv A outer s H E p) (defBody st) t ∧ t { nx := fun _ H' => Q .non H', rt := Q } (L2.start N vs) H) : FdH P w K mg base x (k + 1) ps sp := by
  obtain ⟨f, fd, F, m, b⟩ := D.ex
  obtain ⟨oc, od, kV, doc, pm, an, cdv, ct, osl, rfl, lk, hcd⟩ := F.ex
  exact ⟨f, _, fn_ofHp lk hcd S len fun A outer s H vs Q E p h1 h2 h3 => hbody f cdv A outer s H vs Q E p h1 h2 h3, m, F.kp, b⟩
section
variable {X : Cx}
def tCallHp (R : List V → Hp → VK → Prop) (t : TA) : TE := fun σ H Q => t σ H fun vs H1 => R vs H1 Q
theorem pe_fdH {R : List V → Hp → VK → Prop} {x : Str} {k : Nat} {ps : List Str} {sp : Addr × Obj → Sp} {q : Addr × Obj} {e : Expr} {es : List Expr} {t : TA} {p pos : Pos} (F : FdH X.prog X.w X.K X.mg X.base x k ps sp) (hr : RoomH k X.A) (hot : Hot1 X.A q) (hq : q ∈ X.pn) (hR : ∀ vs H Q, R vs H Q → sp q vs H Q E0) (ha : PA X (e :: es) t) (hg : Gl X x := by rfl)
    (hdb : (x == ("__debug__" : Str)) = false := by decide) (he : starEach (e :: es) X.env = (false, eval e X.env) :: starEach es X.env := by rfl) (hpl : (backTo pos (starEach es X.env)).any (·.1) = false := by rfl) :
    PE X (.Call (.Name x p) (e :: es) [] pos) (tCallHp R t) := by
  obtain ⟨f, fd, F, hm, hk, hb⟩ := F.ex
  refine ⟨fun pins s σ H Q I h => ?_⟩
  refine wpAny_Call_Name_kw (ld_glob I hg hm ?_ hdb)
  refine PySem.W.callWith_K (h₀ := X.base) I.ok.mod.kin hk (thn (ha.run pos pins s σ H _ I h) fun us s1 ⟨vs, H1, I1, r, h3⟩ => ⟨I1.kIn, ?_⟩) he hpl
  have h2 := hR _ _ _ h3
  have hl : us.length = ps.length := by rw [← r.length]; exact F.len _ _ _ _ _ h2
  have b := hb s1 us I1.kIn (by rw [List.append_nil]; exact hl)
  rw [List.append_nil] at b
  have P1 := I1.pin q (List.mem_append_left _ hq)
  have hpin : PinOk X.stack H1 s1 q := ⟨P1.1, P1.2.1, fun hm => (List.mem_cons.mp (I1.stkSub q.1 hm)).elim P1.2.2.1 P1.2.2.2.1, P1.2.2.2.2⟩
  refine wpAny_call (codeAny_mono (F.run X.A X.stack s1 H1 ⟨us, []⟩ us vs Q E0 q hr hot hpin I1.env0 b r h2) fun r s' hq => ?_)
  cases r with
  | error e => exact False.elim hq
  | ok fl =>
    cases fl with
    | ret u => exact I1.after hq
    | next => exact False.elim hq
    | brk => exact False.elim hq
    | cont => exact False.elim hq
/-- isinstance(e, c), e the exception p that is handled -/
def rIsP (K : PySem.W.Frag) (p : Addr × Obj) : List V → Hp → VK → Prop := fun xs H Q => ∃ (D : Addr) (c : V) (cv : Value) (b : Bool), xs = [.ref p.1, c] ∧ Zc (.ref D) none p.2 ∧ (∃ vs, p.2.data = .fields vs) ∧ ExcC K D ∧ (∀ u, RelV c u → u = cv) ∧ PySem.W.kitOne K (.ref D) cv = some b ∧ Q (.bl b) H
theorem call_isP {K : PySem.W.Frag} {p : Addr × Obj} (hp : p ∈ X.pn) (hK : X.K = K := by rfl) : CallR X (.builtin "isinstance") (rIsP K p) := by
  subst hK
  intro pins s σ H xs us Q I r h
  obtain ⟨D, c, cv, b, rfl, hz, hf, C, hcv, e, q⟩ := h
  cases r with
  | cons rx rr =>
    cases rr with
    | cons rt rr =>
      cases rr
      cases rx
      have ec := hcv _ rt
      subst ec
      obtain ⟨a, oe⟩ := p
      obtain ⟨hget, _⟩ := I.pin (a, oe) (List.mem_append_left _ hp)
      obtain ⟨vs, hv⟩ := hf
      have J : PySem.W.InstAt s.heap a oe D none := by
        obtain ⟨oc, od, oda, osl⟩ := oe
        obtain ⟨h1, h2⟩ := hz
        dsimp only at h1 h2 hv
        subst h1 h2 hv
        exact ⟨hget, rfl, rfl, trivial⟩
      exact PySem.W.kia_one (PySem.W.handS_kitx_exc C.hg C.hk C.hs C.hd C.ha C.hn C.ht C.hm) I.kIn J e (fun z => nomatch z) fun tk => ⟨.bl b, H, I.kept (t' := tk) fun _ _ z => z, rfl, q⟩
/-- a def that may raise, at its address -/
structure HeldX (P : Program) (w : World) (K : PySem.W.Frag) (mg : Str → Option Value) (base : Heap) (k : Nat) (f : Addr) (sp : Sp) : Prop where
  ex : ∃ (fd : FuncData) (ps : List Str), FnOk P w K mg base (L2N.CX P w) k f fd ps sp ∧ PySem.W.keepIn K (.ref f) = true ∧ Binds K fd ps []
def tCallX (P : Program) (w : World) (K : PySem.W.Frag) (mg : Str → Option Value) (base : Heap) (k i : Nat) (W : WX) (t : TA) : TE := fun σ H Q => ∃ (f : Addr) (sp : Sp), σ[i]? = some (some (.ref f)) ∧ HeldX P w K mg base k f sp ∧ t σ H fun vs H1 => sp vs H1 Q (WE W σ)
/-- the i-th slot's def is called where its exceptions are caught -/
theorem pe_callX {k j i : Nat} {W : WX} {x : Str} {p pos : Pos} {e : Expr} {es : List Expr} {t : TA} (tk : L2N.Takes X W) (hr : Room j X.A) (hj : k ≤ j) (hN : X.N[i]? = some x) (hv : Vis X.env.scope x) (ha : PA X (e :: es) t)
    (hdb : (x == ("__debug__" : Str)) = false := by decide) (hcd : (x == ("__classdict__" : Str)) = false := by decide)
    (he : starEach (e :: es) X.env = (false, eval e X.env) :: starEach es X.env := by rfl) (hpl : (backTo pos (starEach es X.env)).any (·.1) = false := by rfl) : PE X (.Call (.Name x p) (e :: es) [] pos) (tCallX X.prog X.w X.K X.mg X.base k i W t) := by
  refine ⟨fun pins s σ H Q I h => ?_⟩
  obtain ⟨f, sp, hs, ⟨fd, ps, F, hk, hb⟩, ht⟩ := h
  refine wpAny_Call_Name_kw (thn ((pe_var (pos := p) hN hv hdb hcd).run pins s σ H (fun v H1 => v = .ref f ∧ H1 = H) I ⟨.ref f, hs, rfl, rfl⟩) fun u s1 ⟨v, H1, I1, r1, q1⟩ => ?_)
  obtain ⟨rfl, rfl⟩ := q1
  cases r1
  refine PySem.W.callWith_K (h₀ := X.base) I.ok.mod.kin hk (thn (ha.run pos pins s1 σ _ _ I1 ht) fun us s2 ⟨vs, H2, I2, r, q⟩ => ⟨I2.kIn, ?_⟩) he hpl
  exact run_fnS (F.mono hj) hr hb (L2N.passAt tk σ) I2 r q
end
end Ew
/-! what is handed to the doors: any thing -/
namespace Ew
open PySem PySem.Spec PyProof.Rows L2 Evl Evm
/-- of a built-in class, and so it stays -/
def ExTy (K : PySem.W.Frag) (H : Hp) (x : V) (n : String) : Prop := ∀ H', Ex H H' → TyX K H' x (.type n)
theorem ExTy.ex {K : PySem.W.Frag} {H H' : Hp} {x : V} {n : String} (e : Ex H H') (h : ExTy K H x n) : ExTy K H' x n := fun H2 e2 => h H2 (e.trans e2)
theorem ExTy.ty {K : PySem.W.Frag} {H : Hp} {x : V} {n : String} (h : ExTy K H x n) : TyX K H x (.type n) := h H (Ex.refl H)
section
variable {K : PySem.W.Frag} {H H' : Hp}
theorem xt_non : ExTy K H .non "NoneType" := fun _ _ => .base .non
theorem xt_int (i : Int) : ExTy K H (.int i) "int" := fun _ _ => .base (.int i)
theorem xt_bl (b : Bool) : ExTy K H (.bl b) "bool" := fun _ _ => .base (.bl b)
theorem xt_str (x : Str) : ExTy K H (.str x) "str" := fun _ _ => .base (.str x)
theorem xt_lst {a : Addr} {xs : List V} (h : H a = some (.lst xs)) : ExTy K H (.ref a) "list" := fun _ e => .base (.lst (e _ _ h))
theorem xt_tup {a : Addr} {xs : List V} (h : H a = some (.tup xs)) : ExTy K H (.ref a) "tuple" := fun _ e => .base (.tup (e _ _ h))
/-- no whole number -/
def NoInt (K : PySem.W.Frag) (H : Hp) (x : V) : Prop := ∃ (n : String) (b1 b2 : Bool), ExTy K H x n ∧ kitB n "int" = some b1 ∧ kitB n "bool" = some b2 ∧ (b1 && !b2) = false
theorem NoInt.ex {x : V} (e : Ex H H') (h : NoInt K H x) : NoInt K H' x := let ⟨n, b1, b2, h1, h2, h3, h4⟩ := h; ⟨n, b1, b2, h1.ex e, h2, h3, h4⟩
theorem ni_non : NoInt K H .non := ⟨_, false, false, xt_non, by decide +kernel, by decide +kernel, rfl⟩
theorem ni_bl (b : Bool) : NoInt K H (.bl b) := ⟨_, true, true, xt_bl b, by decide +kernel, by decide +kernel, rfl⟩
theorem ni_str (x : Str) : NoInt K H (.str x) := ⟨_, false, false, xt_str x, by decide +kernel, by decide +kernel, rfl⟩
theorem ni_lst {a : Addr} {xs : List V} (h : H a = some (.lst xs)) : NoInt K H (.ref a) := ⟨_, false, false, xt_lst h, by decide +kernel, by decide +kernel, rfl⟩
theorem ni_tup {a : Addr} {xs : List V} (h : H a = some (.tup xs)) : NoInt K H (.ref a) := ⟨_, false, false, xt_tup h, by decide +kernel, by decide +kernel, rfl⟩
def isPr (i : Int) : Bool := decide (2 ≤ i) && (decide (i ≤ 997) && !parted i)
/-- whether x is a prime number -/
inductive PrD (K : PySem.W.Frag) (H : Hp) : V → Bool → Prop
  | no {x : V} : NoInt K H x → PrD K H x false
  | int (i : Int) : PrD K H (.int i) (isPr i)
theorem PrD.ex {x : V} {r : Bool} (e : Ex H H') (h : PrD K H x r) : PrD K H' x r := by
  cases h with
  | no h => exact .no (h.ex e)
  | int i => exact .int i
/-- whether x is a pair of a prime and how often -/
inductive PairD (K : PySem.W.Frag) (H : Hp) : V → Bool → Prop
  | no {x : V} {n : String} : ExTy K H x n → kitB n "tuple" = some false → PairD K H x false
  | len {t : Addr} {ys : List V} : H t = some (.tup ys) → ys.length ≠ 2 → PairD K H (.ref t) false
  | fst {t : Addr} {u v : V} : H t = some (.tup [u, v]) → PrD K H u false → PairD K H (.ref t) false
  | snd {t : Addr} {u v : V} : H t = some (.tup [u, v]) → PrD K H u true → NoInt K H v → PairD K H (.ref t) false
  | int {t : Addr} {u : V} {e : Int} : H t = some (.tup [u, .int e]) → PrD K H u true → PairD K H (.ref t) (decide (1 ≤ e))
theorem PairD.ex {x : V} {r : Bool} (e : Ex H H') (h : PairD K H x r) : PairD K H' x r := by
  cases h with
  | no h k => exact .no (h.ex e) k
  | len h k => exact .len (e _ _ h) k
  | fst h k => exact .fst (e _ _ h) (k.ex e)
  | snd h k l => exact .snd (e _ _ h) (k.ex e) (l.ex e)
  | int h k => exact .int (e _ _ h) (k.ex e)
/-- pairs, each with whether it is one -/
inductive PairsD (K : PySem.W.Frag) (H : Hp) : List V → List Bool → Prop
  | nil : PairsD K H [] []
  | cons {x : V} {xs : List V} {r : Bool} {rs : List Bool} : PairD K H x r → PairsD K H xs rs → PairsD K H (x :: xs) (r :: rs)
theorem PairsD.ex (e : Ex H H') {xs : List V} {rs : List Bool} (h : PairsD K H xs rs) : PairsD K H' xs rs := by
  induction h with
  | nil => exact .nil
  | cons h _ ih => exact .cons (h.ex e) ih
theorem PairsD.len {xs : List V} {rs : List Bool} (h : PairsD K H xs rs) : xs.length = rs.length := by
  induction h with
  | nil => rfl
  | cons _ _ ih => rw [List.length_cons, List.length_cons, ih]
theorem PairsD.at {xs : List V} {rs : List Bool} (h : PairsD K H xs rs) : ∀ {i : Nat} {x : V}, xs[i]? = some x → ∃ r, rs[i]? = some r ∧ PairD K H x r := by
  induction h with
  | nil => intro i x hx; simp at hx
  | cons h _ ih =>
    intro i x hx
    cases i with
    | zero => cases hx; exact ⟨_, rfl, h⟩
    | succ i => exact ih hx
theorem PairsD.append {xs ys : List V} {rs ss : List Bool} (h : PairsD K H xs rs) (h2 : PairsD K H ys ss) : PairsD K H (xs ++ ys) (rs ++ ss) := by
  induction h with
  | nil => exact h2
  | cons h _ ih => exact .cons h ih
/-- a number's pairs, primes and often at least once, in any order -/
structure Pairy (ns : Nm) : Prop where
  pr : ∀ q ∈ ns, isPr q.1 = true ∧ 1 ≤ q.2
  exp : ∀ q ∈ ns, q.2 < 2 ^ 200
  few : ns.length ≤ 10
theorem pairy_d : ∀ {xs : List V} {ns : Nm}, PairsAt H xs ns → (∀ q ∈ ns, isPr q.1 = true ∧ 1 ≤ q.2) → PairsD K H xs (ns.map fun _ => true)
  | [], [], _, _ => .nil
  | [], _ :: _, h, _ => by have := h.1; simp at this
  | _ :: _, [], h, _ => by have := h.1; simp at this
  | x :: xs, q :: ns, h, hp => by
    obtain ⟨t, h1, h2⟩ := h.2 0 q rfl
    have e : x = .ref t := Option.some.inj h1
    subst e
    obtain ⟨p1, p2⟩ := hp q List.mem_cons_self
    have pd : PrD K H (.int q.1) true := by have := PrD.int (K := K) (H := H) q.1; rw [p1] at this; exact this
    have z := PairD.int h2 pd
    rw [decide_eq_true (show (1 : Int) ≤ (q.2 : Int) by omega)] at z
    exact .cons z (pairy_d h.tail fun r hr => hp r (List.mem_cons_of_mem _ hr))
theorem Ok.pairy {ns : Nm} (h : Ok ns) : Pairy ns := ⟨fun q hq => ⟨by
    have a := h.le q hq
    unfold isPr
    rw [decide_eq_true a.1, decide_eq_true a.2, h.prime q hq]
    rfl, h.pos q hq⟩, fun q hq => Nat.lt_of_le_of_lt (okLo h |>.exp q hq) (by decide), Nat.le_trans h.len (by decide)⟩
/-- no number: refused -/
inductive BadAt (K : PySem.W.Frag) (H : Hp) : V → Prop
  | no {x : V} {n : String} : ExTy K H x n → kitB n "list" = some false → BadAt K H x
  | pairs {a : Addr} {xs : List V} {rs : List Bool} : H a = some (.lst xs) → PairsD K H xs rs → xs.length ≤ 1000 → rs.all id = false → BadAt K H (.ref a)
  | falls {a : Addr} {ns : Nm} : NumAt H a ns → Pairy ns → ¬ Rise ns → BadAt K H (.ref a)
  | many {a : Addr} {ns : Nm} : NumAt H a ns → Pairy ns → Rise ns → 500 < mny ns → BadAt K H (.ref a)
theorem BadAt.ex {x : V} (e : Ex H H') (h : BadAt K H x) : BadAt K H' x := by
  cases h with
  | no h k => exact .no (h.ex e) k
  | pairs h k l m => exact .pairs (e _ _ h) (k.ex e) l m
  | falls h k l => exact .falls (h.ex e) k l
  | many h k l m => exact .many (h.ex e) k l m
end
end Ew
namespace Ew
open PySem PySem.Spec PyProof.Rows L2 Evl Evm
section
variable {K : PySem.W.Frag} {σ : L2.St} {H : Hp} {ta tb tc : TE}
/-- a < b < c -/
theorem ev_chain {r r' : R2} {x y z : V} {k1 k2 : Bool} (ha : Evl.Ev ta σ H x) (hb : Evl.Ev tb σ H y) (hr : RV r x y H (.bl k1)) (hc : k1 = true → Evl.Ev tc σ H z) (hr2 : k1 = true → RV r' y z H (.bl k2)) : Evl.Ev (tChain r r' ta tb tc) σ H (.bl (k1 && k2)) := fun H1 e Q q =>
  ha H1 e _ fun H2 e2 => hb H2 (e.trans e2) _ fun H3 e3 => hr H3 ((e.trans e2).trans e3) _ fun H4 e4 => ⟨k1, rfl, by
    have e14 := (e2.trans e3).trans e4
    cases k1 with
    | false =>
      show (if false = true then _ else _)
      rw [if_neg (by decide)]
      exact q H4 e14
    | true =>
      rw [if_pos rfl]
      exact hc rfl H4 (e.trans e14) _ fun H5 e5 => hr2 rfl H5 ((e.trans e14).trans e5) _ fun H6 e6 => q H6 ((e14.trans e5).trans e6)⟩
theorem rc_isi {x : V} {n c : String} {b : Bool} (h : ExTy K H x n) (k : kitB n c = some b) : RC (rIsi K) [x, .ty c] H (.bl b) := fun H1 e Q q => ⟨_, _, _, _, b, rfl, .ty _, h H1 e, kit_ty k, q H1 (Ex.refl _)⟩
end
end Ew
/-! displays of any things, each with what is known of it -/
namespace Ew
open PySem PySem.Spec PyProof.Rows L2 Evl Evm
section
variable {K : PySem.W.Frag} {σ : L2.St} {H : Hp} {ta : TA} {te tb : TE}
/-- a value with what is known of it -/
def EvP (te : TE) (σ : L2.St) (H : Hp) (P : Hp → V → Prop) : Prop := ∀ H1, Ex H H1 → ∀ Q : VK, (∀ x H2, Ex H1 H2 → P H2 x → Q x H2) → te σ H1 Q
theorem evp_ev {x : V} {P : Hp → V → Prop} (h : Evl.Ev te σ H x) (hp : ∀ H1, Ex H H1 → P H1 x) : EvP te σ H P := fun H1 e Q q => h H1 e _ fun H2 e2 => q x H2 e2 (hp H2 (e.trans e2))
theorem evp_imp {P R : Hp → V → Prop} (h : EvP te σ H P) (i : ∀ H1 x, P H1 x → R H1 x) : EvP te σ H R := fun H1 e Q q => h H1 e Q fun x H2 e2 hp => q x H2 e2 (i H2 x hp)
theorem evp_tup {xs : List V} {P : Hp → V → Prop} (h : EvA ta σ H xs) (hl : xs.length ≤ 100000) (hp : ∀ H1 t, Ex H H1 → H1 t = some (.tup xs) → P H1 (.ref t)) : EvP (tTup ta) σ H P := fun H1 e Q q =>
  eu_tup h hl H1 e Q fun p H2 np e2 hp2 => q _ H2 e2 (hp H2 p (e.trans e2) hp2)
theorem evp_lst {xs : List V} {P : Hp → V → Prop} (h : EvA ta σ H xs) (hl : xs.length ≤ 100000) (hp : ∀ H1 t, Ex H H1 → H1 t = some (.lst xs) → P H1 (.ref t)) : EvP (tLst ta) σ H P := fun H1 e Q q =>
  el_lst h hl H1 e Q fun p H2 np e2 hp2 => q _ H2 e2 (hp H2 p (e.trans e2) hp2)
/-- a list of one thing -/
theorem evp_lst1 {R P : Hp → V → Prop} (h : EvP te σ H R) (mono : ∀ H1 H2 x, Ex H1 H2 → R H1 x → R H2 x) (hp : ∀ H1 t x, H1 t = some (.lst [x]) → R H1 x → P H1 (.ref t)) : EvP (tLst (tCons te tNil)) σ H P := fun H1 e Q q =>
  h H1 e _ fun x H2 e2 hx => ⟨sizeL (by show 1 ≤ 100000; decide), fun p np => q _ _ (e2.trans (Ex.new np)) (hp _ p x upd_same (mono _ _ _ (Ex.new np) hx))⟩
/-- many things, each with the same -/
def EvPl (P : Hp → V → Prop) (ta : TA) (σ : L2.St) (H : Hp) (n : Nat) : Prop := ∀ H1, Ex H H1 → ∀ Q : List V → Hp → Prop, (∀ vs H2, Ex H1 H2 → vs.length = n → (∀ v ∈ vs, P H2 v) → Q vs H2) → ta σ H1 Q
theorem pl_nil {P : Hp → V → Prop} : EvPl P tNil σ H 0 := fun H1 e Q q => q [] H1 (Ex.refl _) rfl (fun v hv => by cases hv)
theorem pl_cons {P : Hp → V → Prop} {n : Nat} (mono : ∀ H1 H2 x, Ex H1 H2 → P H1 x → P H2 x) (h : EvP te σ H P) (hr : EvPl P ta σ H n) : EvPl P (tCons te ta) σ H (n + 1) := fun H1 e Q q =>
  h H1 e _ fun x H2 e2 hx => hr H2 (e.trans e2) _ fun vs H3 e3 hl hv => q _ H3 (e2.trans e3) (by simp [hl]) fun v m => by
    rcases List.mem_cons.mp m with z | z
    · subst z; exact mono _ _ _ e3 hx
    · exact hv v z
/-- a list of so many such things -/
def LsAt (P : Hp → V → Prop) (n : Nat) (H : Hp) (l : Addr) : Prop := ∃ xs, H l = some (.lst xs) ∧ xs.length = n ∧ ∀ x ∈ xs, P H x
theorem LsAt.ex {P : Hp → V → Prop} (mono : ∀ H1 H2 x, Ex H1 H2 → P H1 x → P H2 x) {n : Nat} {H' : Hp} {l : Addr} (e : Ex H H') (h : LsAt P n H l) : LsAt P n H' l := let ⟨xs, h1, h2, h3⟩ := h; ⟨xs, e _ _ h1, h2, fun x hx => mono _ _ _ e (h3 x hx)⟩
theorem er_pl {P : Hp → V → Prop} (mono : ∀ H1 H2 x, Ex H1 H2 → P H1 x → P H2 x) {n : Nat} (h : EvPl P ta σ H n) (hn : n ≤ 1000) : EvR (tLst ta) σ H (LsAt P n) := fun H1 e Q q =>
  h H1 e _ fun vs H2 e2 hl hv => ⟨sizeL (by omega), fun p np => q p _ (e2.trans (Ex.new np)) ⟨vs, upd_same, hl, fun x hx => mono _ _ _ (Ex.new np) (hv x hx)⟩⟩
theorem er_catP {P : Hp → V → Prop} (mono : ∀ H1 H2 x, Ex H1 H2 → P H1 x → P H2 x) {n m : Nat} (ha : EvR te σ H (LsAt P n)) (hb : EvR tb σ H (LsAt P m)) (hn : n + m ≤ 1000) : EvR (tOp rCat te tb) σ H (LsAt P (n + m)) := fun H1 e Q q =>
  ha H1 e _ fun a H2 e2 h1 => hb H2 (e.trans e2) _ fun b H3 e3 h2 => by
    obtain ⟨xs, x1, x2, x3⟩ := h1.ex mono e3
    obtain ⟨ys, y1, y2, y3⟩ := h2
    refine ⟨a, b, xs, ys, rfl, rfl, x1, y1, sizeL (by omega), fun l nl => q l _ ((e2.trans e3).trans (Ex.new nl)) ⟨xs ++ ys, upd_same, by rw [List.length_append, x2, y2], fun x hx => mono _ _ _ (Ex.new nl) ?_⟩⟩
    rcases List.mem_append.mp hx with z | z
    · exact x3 x z
    · exact y3 x z
theorem bad_mono : ∀ H1 H2 x, Ex H1 H2 → BadAt K H1 x → BadAt K H2 x := fun _ _ _ e h => h.ex e
theorem pairF_mono : ∀ H1 H2 x, Ex H1 H2 → PairD K H1 x false → PairD K H2 x false := fun _ _ _ e h => h.ex e
/-- [x], x no pair -/
theorem bad_1 (h : EvP te σ H (fun H x => PairD K H x false)) : EvP (tLst (tCons te tNil)) σ H (BadAt K) :=
  evp_lst1 h pairF_mono fun H1 t x ht hx => .pairs ht (.cons hx .nil) (by show 1 ≤ 1000; decide) rfl
/-- a number's display that is none -/
theorem bad_n {ns : Nm} (h : EvN te σ H ns) (hb : ∀ H1 a, NumAt H1 a ns → BadAt K H1 (.ref a)) : EvP te σ H (BadAt K) := fun H1 e Q q => h H1 e Q fun a H2 e2 hn => q _ H2 e2 (hb H2 a hn)
theorem evp_tup1 {P : Hp → V → Prop} (h : EvP te σ H (fun _ _ => True)) (hp : ∀ H1 t x, H1 t = some (.tup [x]) → P H1 (.ref t)) : EvP (tTup (tCons te tNil)) σ H P := fun H1 e Q q =>
  h H1 e _ fun x H2 e2 _ => ⟨sizeL (by show 1 ≤ 100000; decide), fun p np => q _ _ (e2.trans (Ex.new np)) (hp _ p x upd_same)⟩
theorem evp_dict {P : Hp → V → Prop} (hp : ∀ H1 t, H1 t = some (.dK []) → P H1 (.ref t)) : EvP tDNewK σ H P := fun H1 e Q q p np => q _ _ (Ex.new np) (hp _ p upd_same)
theorem pr2 : PrD K H (.int 2) true := by
  have h := PrD.int (K := K) (H := H) 2
  rw [show isPr 2 = true by decide +kernel] at h
  exact h
theorem prN {i : Int} (h : isPr i = false) : PrD K H (.int i) false := by
  have z := PrD.int (K := K) (H := H) i
  rw [h] at z
  exact z
theorem pair_low {t : Addr} {u : V} {e : Int} (h : H t = some (.tup [u, .int e])) (hp : PrD K H u true) (he : e < 1) : PairD K H (.ref t) false := by
  have z := PairD.int h hp
  rw [decide_eq_false (show ¬ (1 : Int) ≤ e by omega)] at z
  exact z
/-- (u, v), no pair -/
theorem evp_pair {u v : V} (hu : Evl.Ev te σ H u) (hv : Evl.Ev tb σ H v) (hp : ∀ H1 t, H1 t = some (.tup [u, v]) → PairD K H1 (.ref t) false) : EvP (tTup (tCons te (tCons tb tNil))) σ H (fun H x => PairD K H x false) :=
  evp_tup (ea_cons hu (ea_cons hv ea_nil)) (by show 2 ≤ 100000; decide) fun H1 t _ h => hp H1 t h
/-- for x in (a, b, ..) of things -/
theorem q_forPl {P : Hp → V → Prop} (mono : ∀ H1 H2 x, Ex H1 H2 → P H1 x → P H2 x) {n : Nat} {g : TG} {tu tz : TS} {D : Ends} (h : EvPl P ta σ H n) (hn : n ≤ 1000) (Pv : Addr → List V → Nat → L2.St → Hp → Prop) (h0 : ∀ t vs H1, Ex H H1 → H1 t = some (.tup vs) → vs.length = n → (∀ v ∈ vs, P H1 v) → Pv t vs 0 σ H1) (hl : ∀ t vs i σ' H', Pv t vs i σ' H' → H' t = some (.tup vs))
    (hs : ∀ t vs i x σ' H', vs[i]? = some x → Pv t vs i σ' H' → g x σ' H' fun σ2 H2 => tu { D with nx := Pv t vs (i + 1), ct := Pv t vs (i + 1), bk := tz D } σ2 H2) (hd : ∀ t vs σ' H', Pv t vs vs.length σ' H' → tz D σ' H') : tSeq (tFor (iTup K (tTup ta)) g tu) tz D σ H :=
  h H (Ex.refl H) _ fun vs H1 e1 hlen hv => ⟨sizeL (by omega), fun t nt => ⟨t, rfl, ⟨vs, SqT.of upd_same⟩, for_tup (D := { D with nx := tz D }) (xs := vs) (Pv t vs) (h0 t vs _ (e1.trans (Ex.new nt)) upd_same hlen fun v hv2 => mono _ _ _ (Ex.new nt) (hv v hv2)) (fun i σ' H' _ z => SqT.of (hl _ _ _ _ _ z)) (hs t vs) (hd t vs)⟩⟩
theorem PairsD.take {xs : List V} {rs : List Bool} (h : PairsD K H xs rs) : ∀ k, PairsD K H (xs.take k) (rs.take k) := by
  induction h with
  | nil => intro k; cases k <;> exact .nil
  | cons h _ ih =>
    intro k
    cases k with
    | zero => exact .nil
    | succ k => exact .cons h (ih k)
theorem PairsD.drop {xs : List V} {rs : List Bool} (h : PairsD K H xs rs) : ∀ k, PairsD K H (xs.drop k) (rs.drop k) := by
  induction h with
  | nil => intro k; cases k <;> exact .nil
  | cons h r ih =>
    intro k
    cases k with
    | zero => exact .cons h r
    | succ k => exact ih k
end
end Ew
/-! a heap without one of its objects; lists of bools compared -/
namespace Ew
open PySem PySem.Spec PyProof.Rows L2 Evl Evm
def era (H : Hp) (l : Addr) : Hp := fun a => if a = l then none else H a
theorem era_at {H : Hp} {a l : Addr} (h : a ≠ l) : era H l a = H a := if_neg h
theorem era_out {H : Hp} {l : Addr} : era H l l = none := if_pos rfl
theorem era_mono {H1 H2 : Hp} {l : Addr} (e : Ex H1 H2) : Ex (era H1 l) (era H2 l) := fun a o h => by
  by_cases c : a = l
  · subst c
    rw [era_out] at h
    cases h
  · rw [era_at c] at h ⊢
    exact e _ _ h
theorem era_le {H : Hp} {l : Addr} : Ex (era H l) H := fun a o h => by
  by_cases c : a = l
  · subst c
    rw [era_out] at h
    cases h
  · rw [era_at c] at h
    exact h
theorem era_upd {H : Hp} {l : Addr} {o : HO} : era (upd H l o) l = era H l := funext fun a => by
  by_cases c : a = l
  · subst c
    rw [era_out, era_out]
  · rw [era_at c, era_at c, upd_ne c]
theorem era_no {H : Hp} {l : Addr} (h : H l = none) : era H l = H := funext fun a => by
  by_cases c : a = l
  · subst c
    rw [era_out, h]
  · exact era_at c
theorem ex_era {H H' : Hp} {l : Addr} (e : Ex H H') (h : H l = none) : Ex H (era H' l) := by
  have z := era_mono (l := l) e
  rw [era_no h] at z
  exact z
section
variable {K : PySem.W.Frag} {σ : L2.St} {H : Hp} {ta tb te : TE}
/-- a new object -/
def EvG (te : TE) (σ : L2.St) (H : Hp) (P : Hp → Addr → Prop) : Prop := ∀ H1, Ex H H1 → ∀ Q : VK, (∀ x H2, H1 x = none → Ex H1 H2 → P H2 x → Q (.ref x) H2) → te σ H1 Q
theorem q_asgG {D : Ends} {tz : TS} {i : Nat} {P : Hp → Addr → Prop} (h : EvG te σ H P) (k : ∀ x H1, H x = none → Ex H H1 → P H1 x → tz D (σ.set i (some (.ref x))) H1) : tSeq (tAsg te (gName i)) tz D σ H := h H (Ex.refl H) _ fun x H1 nx e hp => k x H1 nx e hp
/-- a list of so many things, none of which leans on the list -/
def LsE (P : Hp → V → Prop) (n : Nat) (H : Hp) (l : Addr) : Prop := ∃ xs, H l = some (.lst xs) ∧ xs.length = n ∧ ∀ x ∈ xs, P (era H l) x
theorem eg_catP {P : Hp → V → Prop} (mono : ∀ H1 H2 x, Ex H1 H2 → P H1 x → P H2 x) {n m : Nat} (ha : EvR te σ H (LsAt P n)) (hb : EvR tb σ H (LsAt P m)) (hn : n + m ≤ 1000) : EvG (tOp rCat te tb) σ H (LsE P (n + m)) := fun H1 e Q q =>
  ha H1 e _ fun a H2 e2 h1 => hb H2 (e.trans e2) _ fun b H3 e3 h2 => by
    obtain ⟨xs, x1, x2, x3⟩ := h1.ex mono e3
    obtain ⟨ys, y1, y2, y3⟩ := h2
    refine ⟨a, b, xs, ys, rfl, rfl, x1, y1, sizeL (by omega), fun l nl => q l _ (fresh_back (e2.trans e3) nl) ((e2.trans e3).trans (Ex.new nl)) ⟨xs ++ ys, upd_same, by rw [List.length_append, x2, y2], fun x hx => ?_⟩⟩
    rw [era_upd, era_no nl]
    rcases List.mem_append.mp hx with z | z
    · exact x3 x z
    · exact y3 x z
theorem pairE_mono {l : Addr} : ∀ H1 H2 x, Ex H1 H2 → PairD K (era H1 l) x false → PairD K (era H2 l) x false := fun _ _ _ e h => h.ex (era_mono e)
/-- (u, v), no pair, beside a list -/
theorem evp_pairE {l : Addr} {ys : List V} {u v : V} (hl : H l = some (.lst ys)) (hu : Evl.Ev te σ H u) (hv : Evl.Ev tb σ H v) (hp : ∀ H1 t, H1 t = some (.tup [u, v]) → PairD K H1 (.ref t) false) : EvP (tTup (tCons te (tCons tb tNil))) σ H (fun H x => PairD K (era H l) x false) :=
  evp_tup (ea_cons hu (ea_cons hv ea_nil)) (by show 2 ≤ 100000; decide) fun H1 t e h => hp (era H1 l) t ((era_at (ne_of h (e _ _ hl) (by intro z; cases z))).trans h)
/-- [u, v], no pair, beside a longer list -/
theorem evp_lstE {l : Addr} {ys : List V} {u v : V} (hl : H l = some (.lst ys)) (hn : ys.length ≠ 2) (hu : Evl.Ev te σ H u) (hv : Evl.Ev tb σ H v) : EvP (tLst (tCons te (tCons tb tNil))) σ H (fun H x => PairD K (era H l) x false) :=
  evp_lst (ea_cons hu (ea_cons hv ea_nil)) (by show 2 ≤ 100000; decide) fun H1 t e h => by
    have ne : t ≠ l := fun z => by
      subst z
      have y := h.symm.trans (e _ _ hl)
      have y2 := HO.lst.inj (Option.some.inj y)
      exact hn (by rw [← y2]; rfl)
    exact .no (xt_lst ((era_at ne).trans h)) (by decide +kernel)
/-! ### lists of bools -/
abbrev BlsAt (H : Hp) (a : Addr) (l : List Bool) : Prop := H a = some (.lst (l.map V.bl))
def dbls (l : List Bool) : PyData := .list (l.map PyData.bool)
theorem eqvAll_bls : ∀ l : List Bool, PyData.eqvAll (l.map PyData.bool) (l.map PyData.bool) = true
  | [] => by simp [PyData.eqvAll]
  | a :: r => by simp [PyData.eqvAll, PyData.eqv, eqvAll_bls r]
theorem lay_bls : ∀ l : List Bool, PyData.canLayAll0 (l.map PyData.bool) = true
  | [] => rfl
  | _ :: r => by simp [PyData.canLayAll0, PyData.canLay0, lay_bls r]
theorem deep_bls : ∀ l : List Bool, PyData.depthAll (l.map PyData.bool) = 0
  | [] => rfl
  | _ :: r => by simp [PyData.depthAll, PyData.depth, deep_bls r]
theorem shaped_bls (l : List Bool) : SeqAt.shaped (dbls l) = true := by
  simp [SeqAt.shaped, dbls, PyData.canLay0, PyData.depth, lay_bls, deep_bls]
theorem eqv_bls (l : List Bool) : PyData.eqv (dbls l) (dbls l) = true := by
  unfold dbls
  rw [PyData.eqv]
  exact eqvAll_bls l
theorem dpall_bls : ∀ l : List Bool, DpAll K H (l.map V.bl) (l.map PyData.bool)
  | [] => .nil
  | x :: r => .cons (.bl x) (dpall_bls r)
theorem dp_bls {a : Addr} {l : List Bool} (h : BlsAt H a l) : Dp K H (.ref a) (dbls l) := .lst (SqL.of h) (dpall_bls l)
theorem rv_eqB {a b : Addr} {l : List Bool} (h : BlsAt H a l) (h' : BlsAt H b l) : RV (rEqD K) (.ref a) (.ref b) H (.bl true) := fun H1 e Q q =>
  ⟨_, _, dp_bls (e _ _ h), dp_bls (e _ _ h'), shaped_bls l, shaped_bls l, by rw [eqv_bls]; exact q H1 (Ex.refl _)⟩
theorem rv_neB {a b : Addr} {l : List Bool} (h : BlsAt H a l) (h' : BlsAt H b l) : RV (rNeD K) (.ref a) (.ref b) H (.bl false) := fun H1 e Q q =>
  ⟨_, _, dp_bls (e _ _ h), dp_bls (e _ _ h'), shaped_bls l, shaped_bls l, by rw [eqv_bls]; exact q H1 (Ex.refl _)⟩
theorem ev_eqB {l : List Bool} (ha : EvR ta σ H (fun H x => BlsAt H x l)) (hb : EvR tb σ H (fun H x => BlsAt H x l)) : Evl.Ev (tOp (rEqD K) ta tb) σ H (.bl true) := ev_opR ha hb (fun _ _ _ e h => e _ _ h) fun _ _ _ h1 h2 => rv_eqB h1 h2
theorem ev_neB {l : List Bool} (ha : EvR ta σ H (fun H x => BlsAt H x l)) (hb : EvR tb σ H (fun H x => BlsAt H x l)) : Evl.Ev (tOp (rNeD K) ta tb) σ H (.bl false) := ev_opR ha hb (fun _ _ _ e h => e _ _ h) fun _ _ _ h1 h2 => rv_neB h1 h2
/-- what is due: of the j-th class alone -/
def dueL (j : Nat) : List Bool := [decide (V.int (j : Int) = V.int 0), decide (V.int (j : Int) = V.int 1), decide (V.int (j : Int) = V.int 2), decide (V.int (j : Int) = V.int 3), true]
def DueAt (n : Nat) (H : Hp) (d : Addr) : Prop := ∃ acc, H d = some (.lst acc) ∧ acc.length = n ∧ ∀ j, j < n → ∃ p, acc[j]? = some (.ref p) ∧ p ≠ d ∧ BlsAt H p (dueL j)
theorem DueAt.ex {n : Nat} {H' : Hp} {d : Addr} (e : Ex H H') (h : DueAt n H d) : DueAt n H' d := let ⟨acc, h1, h2, h3⟩ := h; ⟨acc, e _ _ h1, h2, fun j hj => let ⟨p, k1, k2, k3⟩ := h3 j hj; ⟨p, k1, k2, e _ _ k3⟩⟩
theorem er_due {n i : Nat} {d : Addr} {j : Nat} {c : Int} (hc : c = (j : Int)) (h : σ[i]? = some (some (.ref d))) (hd : DueAt n H d) (hj : j < n) : EvR (tOp (rIxL K) (tVar i) (tC (.int c))) σ H (fun H x => BlsAt H x (dueL j)) := fun H1 e Q q => by
  obtain ⟨acc, h1, h2, h3⟩ := hd
  obtain ⟨p, k1, k2, k3⟩ := h3 j hj
  subst hc
  exact ⟨_, h, d, acc, _, _, rfl, rfl, SqL.of (e _ _ h1), atI_nat k1, q p H1 (Ex.refl _) (e _ _ k3)⟩
theorem DueAt.snoc {n : Nat} {H' : Hp} {d p : Addr} {acc : List V} (h : DueAt n H d) (ha : H d = some (.lst acc)) (e : Ex H H') (np : H p = none) (hp : BlsAt H' p (dueL n)) : DueAt (n + 1) (upd H' d (.lst (acc ++ [.ref p]))) d := by
  obtain ⟨acc2, h1, h2, h3⟩ := h
  have ea : acc2 = acc := HO.lst.inj (Option.some.inj (h1.symm.trans ha))
  subst ea
  have pd : p ≠ d := fun z => by rw [z, h1] at np; cases np
  refine ⟨acc2 ++ [.ref p], upd_same, by rw [List.length_append, h2]; rfl, fun j hj => ?_⟩
  by_cases c : j < n
  · obtain ⟨r, k1, k2, k3⟩ := h3 j c
    exact ⟨r, by rw [List.getElem?_append_left (by omega)]; exact k1, k2, by show upd _ _ _ _ = _; rw [upd_ne k2]; exact e _ _ k3⟩
  · have ej : j = n := by omega
    subst ej
    exact ⟨p, by rw [← h2]; simp, pd, by show upd _ _ _ _ = _; rw [upd_ne pd]; exact hp⟩
/-- [(p, e)] of what is evaluated -/
theorem en_1V {p : Int} {k : Nat} (hp : Evl.Ev te σ H (.int p)) (he : Evl.Ev tb σ H (.int (k : Int))) : EvN (tLst (tCons (tTup (tCons te (tCons tb tNil))) tNil)) σ H [(p, k)] := fun H1 ex Q q =>
  hp H1 ex _ fun H2 e2 => he H2 (ex.trans e2) _ fun H3 e3 => ⟨sizeL (by show 2 ≤ 100000; decide), fun t nt => ⟨sizeL (by show 1 ≤ 100000; decide), fun l nl => q l _ (((e2.trans e3).trans (Ex.new nt)).trans (Ex.new nl)) ⟨[.ref t], upd_same, PairsAt.cons (q := (p, k)) (by rw [upd_ne (ne_of_none upd_same nl)]; exact upd_same) PairsAt.nil⟩⟩⟩
theorem ni_dict {a : Addr} (h : H a = some (.dK [])) : NoInt K H (.ref a) := ⟨_, false, false, fun _ e => .base (.dK (e _ _ h)), by decide +kernel, by decide +kernel, rfl⟩
end
end Ew
namespace Ew
open PySem PySem.Spec PyProof.Rows L2 Evl Evm
def topS (i : Nat) : Stmt := PySem.Challenge.pw_everysum_k05_refused.main.body.getD i (.Pass ⟨0, 0, 0, 0⟩)
/-- names that are still the built-ins' -/
structure Txt (K : PySem.W.Frag) (mg : Str → Option Value) : Prop where
  b_len : mg "len" = none
  b_range : mg "range" = none
  b_isinstance : mg "isinstance" = none
  b_int : mg "int" = none
  b_bool : mg "bool" = none
  b_list : mg "list" = none
  b_tuple : mg "tuple" = none
  b_set : mg "set" = none
  b_sum : mg "sum" = none
  b_any : mg "any" = none
  b_all : mg "all" = none
  b_sorted : mg "sorted" = none
  b_min : mg "min" = none
  b_max : mg "max" = none
  b_enumerate : mg "enumerate" = none
  b_ValueError : mg "ValueError" = none
  gGREATEST : ∃ t, mg "GREATEST" = some (.int 997 t)
  gMOST : ∃ t, mg "MOST" = some (.int 500 t)
/-- the answers' classes -/
structure Cs (K : PySem.W.Frag) (mg : Str → Option Value) (cAll cBarred : Addr) : Prop where
  gAll : mg "All" = some (.ref cAll)
  gBarred : mg "Barred" = some (.ref cBarred)
  lAll : Cls K cAll
  lBarred : Cls K cBarred
  nAll : MkN K cAll
  aBarred : NoAttr K cBarred "amount"
section
variable {P : Program} {w : World} {K : PySem.W.Frag} {mg : Str → Option Value} {base : Heap} {cAll cBarred cAnswer cSumError cBadNumber cBadSum cNotAll cTooMany : Addr}
/-! ### is_whole -/
abbrev st_is_whole : Stmt := topS 10
abbrev nn_is_whole : List Str := ["thing"]
abbrev pp_is_whole : List Str := ["thing"]
theorem sc_is_whole : FnScope nn_is_whole pp_is_whole (defScope st_is_whole) := ⟨rfl, rfl, rfl, by decide +kernel, rfl, by decide +kernel, by decide +kernel⟩
def spWhole (K : PySem.W.Frag) : Sp := fun vs H Q _ => ∃ (x : V) (n : String) (b1 b2 : Bool), vs = [x] ∧ TyX K H x (.type n) ∧ kitB n "int" = some b1 ∧ kitB n "bool" = some b2 ∧ Q (.bl (b1 && !b2)) H
theorem ok_is_whole (T : Txt K mg) (D_is_whole : Df K mg "is_whole" st_is_whole pp_is_whole) : Fd P w K mg base CX0 "is_whole" 1 pp_is_whole (spWhole K) := by
  refine D_is_whole.ok sc_is_whole (fun vs H Q E h => ?_) (fun f cdv A outer s H vs Q E hr h => ?_)
  · obtain ⟨x, n, b1, b2, rfl, _⟩ := h; rfl
  · obtain ⟨x, n, b1, b2, rfl, ty, k1, k2, q⟩ := h
    refine ⟨_, (pss_one (ps_ret (pe_and (pe_callB (call_isiE (K := K)) (by rfl) T.b_isinstance (by decide +kernel) (pa_cons (pv 0) (pa_cons (pe_bltn (v := .ty "int") (u := .type "int") (by rfl) T.b_int (by decide +kernel) rfl) pa_nil))) (pe_one (pe_not (pe_callB (call_isiE (K := K)) (by rfl) T.b_isinstance (by decide +kernel) (pa_cons (pv 0) (pa_cons (pe_bltn (v := .ty "bool") (u := .type "bool") (by rfl) T.b_bool (by decide +kernel) rfl) pa_nil)))))))), ?_⟩
    refine ⟨_, rfl, _, _, _, _, b1, rfl, .ty _, ty, kit_ty k1, b1, rfl, ?_⟩
    cases b1 with
    | false => exact q
    | true => exact ⟨_, rfl, _, _, _, _, b2, rfl, .ty _, ty, kit_ty k2, b2, rfl, q⟩
/-! ### power_of -/
abbrev st_power_of : Stmt := topS 17
abbrev nn_power_of : List Str := ["prime", "often", "found", "turn"]
abbrev pp_power_of : List Str := ["prime", "often"]
theorem sc_power_of : FnScope nn_power_of pp_power_of (defScope st_power_of) := ⟨rfl, rfl, rfl, by decide +kernel, rfl, by decide +kernel, by decide +kernel⟩
def spPow : Sp := fun vs H Q _ => ∃ (p : Int) (e : Nat), vs = [.int p, .int (e : Int)] ∧ 1 ≤ p ∧ p ≤ 1024 ∧ e ≤ 1000 ∧ Q (.int (p ^ e)) H
theorem ok_power_of (T : Txt K mg) (D_power_of : Df K mg "power_of" st_power_of pp_power_of) : Fd P w K mg base CX0 "power_of" 1 pp_power_of spPow := by
  refine D_power_of.ok sc_power_of (fun vs H Q E h => ?_) (fun f cdv A outer s H vs Q E hr h => ?_)
  · obtain ⟨p, e, rfl, _⟩ := h; rfl
  · obtain ⟨p, e, rfl, h1, h2, he, q⟩ := h
    refine ⟨_, (pss_cons (ps_set (i := 2) sc_power_of.nd rfl (by first | exact Or.inl rfl | exact Or.inr rfl) pe_int) (pss_cons (ps_for PassesOwn.never rfl (pi_range1 rfl T.b_range (pa_cons (pv 1) pa_nil)) (pg_name (i := 3) sc_power_of.nd rfl (by first | exact Or.inl rfl | exact Or.inr rfl)) (pss_one (ps_aug (i := 2) sc_power_of.nd rfl (by first | exact Or.inl rfl | exact Or.inr rfl) (pv 0) iop_mulX))) (pss_one (ps_ret (pv 2))))), ?_⟩
    refine ⟨.int (e : Int), rfl, (e : Int), rfl, by omega, by omega, for_range (lo := 0) (n := ((e : Int)).toNat) (fun i σ H' => ∃ y, σ = [some (.int p), some (.int (e : Int)), some (.int (p ^ i)), y] ∧ H' = H) ⟨none, by rw [Int.pow_zero]; rfl, rfl⟩ ?_ ?_⟩
    · rintro i σ H' hi ⟨y, rfl, rfl⟩
      obtain ⟨a, b⟩ := pow_lt h1 h2 (e := i) (by omega)
      refine ⟨_, rfl, _, rfl, _, _, rfl, rfl, mulN (a := 10001) (b := 11) (by omega) b (by omega) (by omega) (by decide), ?_⟩
      exact ⟨_, by rw [Int.pow_succ]; rfl, rfl⟩
    · rintro σ H' ⟨y, rfl, rfl⟩
      refine ⟨_, rfl, ?_⟩
      rw [Int.toNat_natCast]
      exact q
/-! ### total_of -/
abbrev st_total_of : Stmt := topS 20
abbrev nn_total_of : List Str := ["number", "found", "prime", "often"]
abbrev pp_total_of : List Str := ["number"]
theorem sc_total_of : FnScope nn_total_of pp_total_of (defScope st_total_of) := ⟨rfl, rfl, rfl, by decide +kernel, rfl, by decide +kernel, by decide +kernel⟩
def spTotal : Sp := fun vs H Q _ => ∃ (a : Addr) (ns : Nm), vs = [.ref a] ∧ NumAt H a ns ∧ Lo ns ∧ Q (.int (tot ns)) H
theorem ok_total_of (T : Txt K mg) (D_total_of : Df K mg "total_of" st_total_of pp_total_of) (F_power_of : Fd P w K mg base CX0 "power_of" 1 pp_power_of spPow) : Fd P w K mg base CX0 "total_of" 2 pp_total_of spTotal := by
  refine D_total_of.ok sc_total_of (fun vs H Q E h => ?_) (fun f cdv A outer s H vs Q E hr h => ?_)
  · obtain ⟨a, ns, rfl, _⟩ := h; rfl
  · obtain ⟨a, ns, rfl, ⟨xs, hx, hp⟩, L, q⟩ := h
    refine ⟨_, (pss_cons (ps_set (i := 1) sc_total_of.nd rfl (by first | exact Or.inl rfl | exact Or.inr rfl) pe_int) (pss_cons (ps_for PassesOwn.never rfl (pi_list (pv 0)) (pg_tup (by rfl) (pgs_cons (pg_name (i := 2) sc_total_of.nd rfl (by first | exact Or.inl rfl | exact Or.inr rfl)) (pgs_cons (pg_name (i := 3) sc_total_of.nd rfl (by first | exact Or.inl rfl | exact Or.inr rfl)) pgs_nil))) (pss_one (ps_aug (i := 1) sc_total_of.nd rfl (by first | exact Or.inl rfl | exact Or.inr rfl) (pe_op op_fdiv (pe_op op_sub (pe_fd F_power_of hr (by decide) pass0 (pa_cons (pv 2) (pa_cons (pe_op op_add (pv 3) pe_int) pa_nil))) pe_int) (pe_op op_sub (pv 2) pe_int)) iop_mulX))) (pss_one (ps_ret (pv 1))))), ?_⟩
    refine ⟨.ref a, rfl, a, rfl, ⟨_, SqL.of hx⟩, for_list (xs := xs) (fun i σ H' => ∃ y z, σ = [some (.ref a), some (.int (tot (ns.take i))), y, z] ∧ H' = H) ⟨none, none, rfl, rfl⟩ (fun i σ H' _ ⟨_, _, _, e⟩ => by rw [e]; exact SqL.of hx) ?_ ?_⟩
    · rintro i x σ H' hi ⟨y, z, rfl, rfl⟩
      obtain ⟨r, t, hq, rfl, ht⟩ := hp.at hi
      have l1 := L.low r (mem_get hq)
      have l2 := L.exp r (mem_get hq)
      have L1 := L.take i
      have t1 := tot_pos L1.low.pos
      have t2 := tot_lt L1.low L1.many
      have g1 := geo_pos (p := r.1) (by omega) r.2
      have g2 := geo_ge r.1 l1.1 r.2
      obtain ⟨p1, p2⟩ := pow_lt (p := r.1) (by omega) l1.2 (e := r.2 + 1) (by omega)
      refine ⟨t, _, rfl, .inl (.inl ht), rfl, _, _, rfl, _, _, rfl, rfl, ?_⟩
      refine ⟨_, rfl, _, rfl, _, rfl, _, _, rfl, rfl, r.1, r.2 + 1, rfl, by omega, by omega, by omega, _, _, rfl, rfl, _, rfl, _, _, rfl, rfl, _, _, rfl, rfl, ⟨by omega, by omega⟩, ?_⟩
      show rI CMulX _ (V.int _) (V.int ((r.1 ^ (r.2 + 1) - 1) / (r.1 - 1))) _ _
      rw [geo_div l1.1]
      refine ⟨_, _, rfl, rfl, mulN (a := 5000) (b := 10001) (by omega) t2 (by omega) (by omega) (by decide), ?_⟩
      refine ⟨some (.int r.1), some (.int (r.2 : Int)), ?_, rfl⟩
      rw [take_get hq]
      unfold tot
      rw [totF_snoc]
      rfl
    · rintro σ H' ⟨y, z, rfl, rfl⟩
      refine ⟨_, rfl, ?_⟩
      rw [hp.1, List.take_length]
      exact q
/-- what the divisors' list is -/
def spDivs : Sp := fun vs H Q _ => ∃ (a : Addr) (ns : Nm), vs = [.ref a] ∧ NumAt H a ns ∧ Lo ns ∧ ∀ p H', Ex H H' → H p = none → IntsAt H' p (divs ns) → Q (.ref p) H'
/-! ### divisors_of -/
abbrev st_divisors_of : Stmt := topS 15
abbrev nn_divisors_of : List Str := ["number", "found", "prime", "often", "longer", "power", "turn", "one"]
abbrev pp_divisors_of : List Str := ["number"]
theorem sc_divisors_of : FnScope nn_divisors_of pp_divisors_of (defScope st_divisors_of) := ⟨rfl, rfl, rfl, by decide +kernel, rfl, by decide +kernel, by decide +kernel⟩
theorem ok_divisors_of (T : Txt K mg) (D_divisors_of : Df K mg "divisors_of" st_divisors_of pp_divisors_of) : Fd P w K mg base CX0 "divisors_of" 1 pp_divisors_of spDivs := by
  refine D_divisors_of.ok sc_divisors_of (fun vs H Q E h => ?_) (fun f cdv A outer s H vs Q E hr h => ?_)
  · obtain ⟨a, ns, rfl, _⟩ := h; rfl
  · obtain ⟨a, ns, rfl, ⟨xs, hx, hp⟩, L, q⟩ := h
    refine ⟨_, (pss_cons (ps_set (i := 1) sc_divisors_of.nd rfl (by first | exact Or.inl rfl | exact Or.inr rfl) (pe_lst (pa_cons pe_int pa_nil))) (pss_cons (ps_for PassesOwn.never rfl (pi_list (pv 0)) (pg_tup (by rfl) (pgs_cons (pg_name (i := 2) sc_divisors_of.nd rfl (by first | exact Or.inl rfl | exact Or.inr rfl)) (pgs_cons (pg_name (i := 3) sc_divisors_of.nd rfl (by first | exact Or.inl rfl | exact Or.inr rfl)) pgs_nil))) (pss_cons (ps_set (i := 4) sc_divisors_of.nd rfl (by first | exact Or.inl rfl | exact Or.inr rfl) (pe_lst pa_nil)) (pss_cons (ps_set (i := 5) sc_divisors_of.nd rfl (by first | exact Or.inl rfl | exact Or.inr rfl) pe_int) (pss_cons (ps_for PassesOwn.never rfl (pi_range1 rfl T.b_range (pa_cons (pe_op op_add (pv 3) pe_int) pa_nil)) (pg_name (i := 6) sc_divisors_of.nd rfl (by first | exact Or.inl rfl | exact Or.inr rfl)) (pss_cons (ps_expr (pe_bm PySem.F.plainAttrs_list PySem.F.slot_list_extend PySem.F.type_list_extend mt_extend (pv 4) (pa_cons (pe_lc (own := [("one", 7)]) (g := gName 7) (by rfl) sc_divisors_of.nd (pi_list (pv 1)) (blkOk_by (own := [("one", 7)]) (N := nn_divisors_of) (sc := defScope st_divisors_of) (by decide +kernel)) (fun _ _ _ _ _ => pg_name (i := 7) sc_divisors_of.nd rfl (Or.inl rfl)) (fun _ _ _ _ _ => pts_nil) (fun _ _ _ _ _ => (pe_op op_mulX (pv 5) (pv 7)))) pa_nil))) (pss_one (ps_aug (i := 5) sc_divisors_of.nd rfl (by first | exact Or.inl rfl | exact Or.inr rfl) (pv 2) iop_mulX)))) (pss_one (ps_set (i := 1) sc_divisors_of.nd rfl (by first | exact Or.inl rfl | exact Or.inr rfl) (pv 4))))))) (pss_one (ps_ret (pe_callB (cr_sortedE (K := K)) (by rfl) T.b_sorted (by decide +kernel) (pa_cons (pv 1) pa_nil)))))), ?_⟩
    refine ⟨sizeL (by decide), fun f0 nf0 => ?_⟩
    refine ⟨.ref a, rfl, a, rfl, ⟨xs, SqL.of (Ex.new nf0 _ _ hx)⟩, for_list (xs := xs) (fun i σ H' => ∃ f y2 y3 y4 y5 y6, σ = [some (.ref a), some (.ref f), y2, y3, y4, y5, y6, none] ∧ Ex H H' ∧ H f = none ∧ IntsAt H' f (raw (ns.take i)))
      ⟨f0, none, none, none, none, none, rfl, Ex.new nf0, nf0, upd_same⟩ (fun i σ H' _ ⟨_, _, _, _, _, _, _, e, _⟩ => SqL.of (e _ _ hx)) ?_ ?_⟩
    · rintro i x σ H' hi ⟨f, y2, y3, y4, y5, y6, rfl, e, nf, hf⟩
      obtain ⟨r, t, hq, rfl, ht⟩ := hp.at hi
      have l1 := L.low r (mem_get hq)
      have l2 := L.exp r (mem_get hq)
      have L1 := L.take i
      have L2 := L.take (i + 1)
      have hm : mny (ns.take i) * (r.2 + 1) ≤ 500 := by
        have := L2.many
        rw [take_get hq] at this
        unfold mny at this
        rw [mnyF_snoc] at this
        exact this
      have hlen : (raw (ns.take i)).length = mny (ns.take i) := raw_len _ _
      refine ⟨t, _, rfl, .inl (.inl (e _ _ ht)), rfl, _, _, rfl, _, _, rfl, rfl, ?_⟩
      refine ⟨sizeL (by decide), fun l nl => ?_⟩
      refine ⟨_, rfl, _, _, rfl, rfl, (r.2 : Int) + 1, rfl, by omega, by omega, for_range (lo := 0) (n := ((r.2 : Int) + 1).toNat) (fun k σ H2 => ∃ y6, σ = [some (.ref a), some (.ref f), some (.int r.1), some (.int (r.2 : Int)), some (.ref l), some (.int (r.1 ^ k)), y6, none] ∧ Ex H' H2 ∧ IntsAt H2 l (stpN (raw (ns.take i)) r.1 k))
        ⟨y6, by rw [Int.pow_zero]; rfl, Ex.new nl, upd_same⟩ ?_ ?_⟩
      · rintro k σ H2 hk ⟨y6, rfl, e2, hl⟩
        obtain ⟨p1, p2⟩ := pow_lt (p := r.1) (by omega) l1.2 (e := k) (by omega)
        have hk1 : mny (ns.take i) * (k + 1) ≤ 500 := Nat.le_trans (Nat.mul_le_mul_left _ (by omega)) hm
        refine ⟨.ref l, rfl, .inl ⟨rfl, _, SqL.of hl⟩, ?_⟩
        refine el_lcM V.int (raw (ns.take i)) (fun _ => true) (fun x => V.int (r.1 ^ k * x)) (ev_var rfl) (SqL.of (e2 _ _ hf)) (by have := L1.many; omega) (fun _ => rfl) (fun _ _ _ _ => et_yes) (fun x hx H3 e3 _ => ev_op (ev_var rfl) (ev_var rfl) (rv_I ?_)) H2 (Ex.refl _) _ fun D H3 nD e3 hD => ?_
        · have := mem_lt L1.low L1.many x hx
          exact mulN (a := 10001) (b := 5000) (by omega) p2 (by omega) this.2 (by decide)
        · rw [List.filter_eq_self.mpr (fun _ _ => rfl)] at hD
          refine ⟨l, D, _, _, rfl, rfl, e3 _ _ hl, hD, sizeL (by rw [List.length_map, List.length_map, stpN_len, hlen]; rw [Nat.mul_succ] at hk1; omega), ?_⟩
          refine ⟨_, rfl, _, rfl, _, _, rfl, rfl, mulN (a := 10001) (b := 11) (by omega) p2 (by omega) (by omega) (by decide), ?_⟩
          refine ⟨_, by rw [Int.pow_succ]; rfl, Ex.mut (e2.trans e3) nl, ?_⟩
          show upd H3 l _ l = some (.lst ((stpN (raw (ns.take i)) r.1 (k + 1)).map V.int))
          rw [stpN_up, List.map_append, List.map_map]
          exact upd_same
      · rintro σ H2 ⟨y6, rfl, e2, hl⟩
        refine ⟨_, rfl, l, _, _, _, _, _, rfl, e.trans e2, fresh_back e nl, ?_⟩
        rw [take_get hq]
        unfold raw
        rw [rawF_snoc]
        exact hl
    · rintro σ H' ⟨f, y2, y3, y4, y5, y6, rfl, e, nf, hf⟩
      rw [hp.1, List.take_length] at hf
      refine ⟨_, rfl, f, _, rfl, SqL.of hf, fun ns' p pm so np => ?_⟩
      rw [sorted_eq pm so]
      exact q p _ (e.trans (Ex.new np)) (fresh_back e np) upd_same
/-! ### bar_of -/
abbrev st_bar_of : Stmt := topS 25
abbrev nn_bar_of : List Str := ["number", "together", "at", "prime", "often"]
abbrev pp_bar_of : List Str := ["number"]
theorem sc_bar_of : FnScope nn_bar_of pp_bar_of (defScope st_bar_of) := ⟨rfl, rfl, rfl, by decide +kernel, rfl, by decide +kernel, by decide +kernel⟩
def spBar : Sp := fun vs H Q _ => ∃ (a : Addr) (ns : Nm), vs = [.ref a] ∧ NumAt H a ns ∧ Lo ns ∧ ∀ H', Ex H H' → Q (.int (bar ns)) H'
theorem ok_bar_of (T : Txt K mg) (D_bar_of : Df K mg "bar_of" st_bar_of pp_bar_of) (F_total_of : Fd P w K mg base CX0 "total_of" 2 pp_total_of spTotal) : Fd P w K mg base CX0 "bar_of" 3 pp_bar_of spBar := by
  refine D_bar_of.ok sc_bar_of (fun vs H Q E h => ?_) (fun f cdv A outer s H vs Q E hr h => ?_)
  · obtain ⟨a, ns, rfl, _⟩ := h; rfl
  · obtain ⟨a, ns, rfl, ⟨xs, hx, hp⟩, L, q⟩ := h
    refine ⟨_, (pss_cons (ps_set (i := 1) sc_bar_of.nd rfl (by first | exact Or.inl rfl | exact Or.inr rfl) pe_int) (pss_cons (ps_for PassesOwn.never rfl (pi_enum (by rfl) T.b_enumerate (pa_cons (pv 0) pa_nil)) (pg_tup (by rfl) (pgs_cons (pg_name (i := 2) sc_bar_of.nd rfl (by first | exact Or.inl rfl | exact Or.inr rfl)) (pgs_cons (pg_tup (by rfl) (pgs_cons (pg_name (i := 3) sc_bar_of.nd rfl (by first | exact Or.inl rfl | exact Or.inr rfl)) (pgs_cons (pg_name (i := 4) sc_bar_of.nd rfl (by first | exact Or.inl rfl | exact Or.inr rfl)) pgs_nil))) pgs_nil))) (pss_cons (ps_if (pt_cmpR op_gt (pv 3) (pe_op op_add (pv 1) pe_int) (nomark _)) (pss_one (ps_ret (pe_op op_add (pv 1) pe_int))) pss_nil) (pss_one (ps_set (i := 1) sc_bar_of.nd rfl (by first | exact Or.inl rfl | exact Or.inr rfl) (pe_fd F_total_of hr (by decide) pass0 (pa_cons (pe_slice (sl_listE (K := K)) (pv 0) po_none (po_some (pe_op op_add (pv 2) pe_int))) pa_nil)))))) (pss_one (ps_ret pe_int)))), ?_⟩
    refine ⟨.ref a, rfl, a, xs, rfl, SqL.of hx, for_enum (xs := xs) (fun i σ H' => ∃ y2 y3 y4, σ = [some (.ref a), some (.int (tot (ns.take i))), y2, y3, y4] ∧ Ex H H' ∧ bar ns = barF (tot (ns.take i)) (ns.drop i))
      ⟨none, none, none, rfl, Ex.refl H, rfl⟩ (fun i σ H' _ ⟨_, _, _, _, e, _⟩ => SqL.of (e _ _ hx)) ?_ ?_⟩
    · rintro i x Tq σ H' hi ⟨y2, y3, y4, rfl, e, eb⟩ nT
      obtain ⟨r, t, hq, rfl, ht⟩ := hp.at hi
      have e1 : Ex H (upd H' Tq (.tup [.int (i : Int), .ref t])) := ex_upd e nT
      refine ⟨Tq, _, rfl, .inl (.inl upd_same), rfl, _, _, rfl, _, _, rfl, t, _, rfl, .inl (.inl (e1 _ _ ht)), rfl, _, _, rfl, _, _, rfl, rfl, rfl, ?_⟩
      rw [barF_step hq] at eb
      refine ⟨_, rfl, _, rfl, _, _, rfl, rfl, _, _, rfl, rfl, _, rfl, ite2 (fun c => ?_) (fun c => ?_)⟩
      · have c' : r.1 > tot (ns.take i) + 1 := of_decide_eq_true c
        rw [if_pos c'] at eb
        refine ⟨_, rfl, _, _, rfl, rfl, ?_⟩
        have z := q _ e1
        rw [eb] at z
        exact z
      · have c' : ¬ r.1 > tot (ns.take i) + 1 := fun z => c (decide_eq_true z)
        rw [if_neg c'] at eb
        refine ⟨.ref a, rfl, _, rfl, _, _, rfl, rfl, (i : Int) + 1, rfl, a, xs, rfl, SqL.of (e1 _ _ hx), fun p np => ?_⟩
        have e2 := ex_upd (o := .lst (cutV xs none (some ((i : Int) + 1)))) e1 np
        have ec : cutV xs none (some ((i : Int) + 1)) = xs.take (i + 1) := cut_to xs (i + 1)
        refine ⟨p, ns.take (i + 1), rfl, ⟨xs.take (i + 1), by rw [ec]; exact upd_same, (hp.ex e2).take (i + 1)⟩, L.take (i + 1), ?_⟩
        refine ⟨_, _, _, rfl, e2, ?_⟩
        rw [tot_snoc hq]
        exact eb
    · rintro σ H' ⟨y2, y3, y4, rfl, e, eb⟩
      rw [hp.1, List.drop_length] at eb
      have := q H' e
      rw [eb] at this
      exact this
/-! ### _law_cell_at -/
abbrev st__law_cell_at : Stmt := topS 32
abbrev nn__law_cell_at : List Str := ["_law_script", "_law_k"]
abbrev pp__law_cell_at : List Str := ["_law_script", "_law_k"]
theorem sc__law_cell_at : FnScope nn__law_cell_at pp__law_cell_at (defScope st__law_cell_at) := ⟨rfl, rfl, rfl, by decide +kernel, rfl, by decide +kernel, by decide +kernel⟩
def spCell (K : PySem.W.Frag) : Sp := fun vs H Q _ => ∃ (a : Addr) (ns : List Int) (k : Nat), vs = [.ref a, .int (k : Int)] ∧ SqL K H a (ns.map V.int) ∧ (∀ z ∈ ns, z.natAbs < 2 ^ scB) ∧ ∀ z : Int, z.natAbs < 2 ^ scB → Q (.int z) H
theorem ok__law_cell_at (T : Txt K mg) (D__law_cell_at : Df K mg "_law_cell_at" st__law_cell_at pp__law_cell_at) : Fd P w K mg base CX0 "_law_cell_at" 1 pp__law_cell_at (spCell K) := by
  refine D__law_cell_at.ok sc__law_cell_at (fun vs H Q E h => ?_) (fun f cdv A outer s H vs Q E hr h => ?_)
  · obtain ⟨a, ns, k, rfl, _⟩ := h; rfl
  · obtain ⟨a, ns, k, rfl, hS, hz, q⟩ := h
    refine ⟨_, (pss_cons (ps_if (pt_cmpR op_lt (pv 1) (pe_callB (call_lenE (K := K)) (by rfl) T.b_len PySem.boot_len (pa_cons (pv 0) pa_nil)) (nomark _)) (pss_one (ps_ret (pe_ix (ix_listE (K := K)) (pv 0) (pv 1) (fun _ _ => rfl)))) pss_nil) (pss_one (ps_ret pe_int))), ?_⟩
    refine ⟨_, rfl, .ref a, rfl, a, _, rfl, .inl hS, _, _, rfl, rfl, _, rfl, ite2 (fun c => ?_) (fun c => ?_)⟩
    · have c' : (k : Int) < ((ns.map V.int).length : Int) := of_decide_eq_true c
      rw [List.length_map] at c'
      have hk : k < ns.length := by omega
      refine ⟨.ref a, rfl, _, rfl, a, _, (k : Int), .int ns[k], rfl, rfl, hS, atI_nat (by rw [List.getElem?_map, List.getElem?_eq_getElem hk]; rfl), q _ (hz _ (List.getElem_mem hk))⟩
    · exact q 0 (by show 0 < 2 ^ scB; exact Nat.two_pow_pos _)
/-! ### _law_draw -/
abbrev st__law_draw : Stmt := topS 33
abbrev nn__law_draw : List Str := ["_law_cell", "_law_k", "_law_many", "_law_primes"]
abbrev pp__law_draw : List Str := ["_law_cell", "_law_k", "_law_many"]
theorem sc__law_draw : FnScope nn__law_draw pp__law_draw (defScope st__law_draw) := ⟨rfl, rfl, rfl, by decide +kernel, rfl, by decide +kernel, by decide +kernel⟩
def spDraw : Sp := fun vs H Q _ => ∃ (c m : Int) (k : Nat), vs = [.int c, .int (k : Int), .int m] ∧ c.natAbs < 2 ^ (scB + 1 + (scB + 1 + 1)) ∧ k ≤ 100000 ∧ 0 < m ∧ ∀ H' r, Ex H H' → 0 ≤ r → r < m → Q (.int r) H'
theorem ok__law_draw (T : Txt K mg) (D__law_draw : Df K mg "_law_draw" st__law_draw pp__law_draw) : Fd P w K mg base CX0 "_law_draw" 1 pp__law_draw spDraw := by
  refine D__law_draw.ok sc__law_draw (fun vs H Q E h => ?_) (fun f cdv A outer s H vs Q E hr h => ?_)
  · obtain ⟨c, m, k, rfl, _⟩ := h; rfl
  · obtain ⟨c, m, k, rfl, hc, hk, hm, q⟩ := h
    refine ⟨_, (pss_cons (ps_set (i := 3) sc__law_draw.nd rfl (by first | exact Or.inl rfl | exact Or.inr rfl) (pe_tup (pa_cons pe_int (pa_cons pe_int (pa_cons pe_int (pa_cons pe_int (pa_cons pe_int (pa_cons pe_int (pa_cons pe_int (pa_cons pe_int (pa_cons pe_int (pa_cons pe_int (pa_cons pe_int (pa_cons pe_int (pa_cons pe_int (pa_cons pe_int (pa_cons pe_int (pa_cons pe_int pa_nil)))))))))))))))))) (pss_one (ps_ret (pe_op op_mod (pe_op op_mod (pe_op op_add (pe_op op_mulX (pv 0) pe_int) (pe_op op_mulX (pv 1) pe_int)) (pe_ix (ix_tupE (K := K)) (pv 3) (pe_op op_mod (pv 1) pe_int) (fun _ _ => rfl))) (pv 2))))), ?_⟩
    refine ⟨sizeL (by show 16 ≤ 100000; decide), fun t nt => ?_⟩
    obtain ⟨v, hv, hv0⟩ := tab_d (k % 16) (Nat.mod_lt _ (by decide))
    refine ⟨_, rfl, _, _, rfl, rfl, mulX (a := scB + 1 + (scB + 1 + 1)) (b := 16) hc (by decide) (by decide), _, rfl, _, _, rfl, rfl, mulX (a := 17) (b := 17) (by show (k : Int).natAbs < 131072; omega) (by decide) (by decide), _, _, rfl, rfl, ?_⟩
    refine ⟨.ref t, rfl, _, rfl, _, _, rfl, rfl, (by show (0 : Int) < 16; decide), t, prms.map V.int, (k : Int) % 16, .int v, rfl, rfl, .inl (.inl upd_same), atI_of (by omega) hv, _, v, rfl, rfl, by omega, ?_⟩
    exact ⟨_, rfl, _, _, rfl, rfl, hm, q _ _ (Ex.new nt) (Int.emod_nonneg _ (by omega)) (Int.emod_lt_of_pos _ hm)⟩
/-! ### _law_value -/
abbrev st__law_value : Stmt := topS 34
abbrev nn__law_value : List Str := ["_law_cell", "_law_k", "_law_limit"]
abbrev pp__law_value : List Str := ["_law_cell", "_law_k", "_law_limit"]
theorem sc__law_value : FnScope nn__law_value pp__law_value (defScope st__law_value) := ⟨rfl, rfl, rfl, by decide +kernel, rfl, by decide +kernel, by decide +kernel⟩
def spValue : Sp := fun vs H Q _ => ∃ (c m : Int) (k : Nat), vs = [.int c, .int (k : Int), .int m] ∧ c.natAbs < 2 ^ scB ∧ k ≤ 1000 ∧ 0 < m ∧ m ≤ 1000000 ∧ ∀ H' r, Ex H H' → 0 ≤ r → r < 10000000000000000000000000000000000000000 → Q (.int r) H'
theorem ok__law_value (T : Txt K mg) (D__law_value : Df K mg "_law_value" st__law_value pp__law_value) (F__law_draw : Fd P w K mg base CX0 "_law_draw" 1 pp__law_draw spDraw) : Fd P w K mg base CX0 "_law_value" 2 pp__law_value spValue := by
  refine D__law_value.ok sc__law_value (fun vs H Q E h => ?_) (fun f cdv A outer s H vs Q E hr h => ?_)
  · obtain ⟨c, m, k, rfl, _⟩ := h; rfl
  · obtain ⟨c, m, k, rfl, hc, hk, hm, hm2, q⟩ := h
    refine ⟨_, (pss_cons (ps_if (pt_cmpR op_ge (pv 0) (pe_op op_pow pe_int pe_int) (nomark _)) (pss_one (ps_ret (pe_op op_mod (pe_op op_fdiv (pe_op op_sub (pv 0) (pe_op op_pow pe_int pe_int)) (pe_ix (ix_tupE (K := K)) (pe_tup (pa_cons pe_int (pa_cons pe_int (pa_cons pe_int (pa_cons pe_int pa_nil))))) (pe_op op_mod (pv 1) pe_int) (fun _ _ => rfl))) (pe_op op_pow pe_int pe_int)))) pss_nil) (pss_one (ps_ret (pe_fd F__law_draw hr (by decide) pass0 (pa_cons (pe_op op_mulX (pe_op op_add (pv 0) (pe_op op_mulX pe_int (pv 1))) (pe_op op_add (pe_op op_add (pv 0) (pe_op op_mulX pe_int (pv 1))) pe_int)) (pa_cons (pe_op op_add (pe_op op_mod (pv 1) pe_int) pe_int) (pa_cons (pv 2) pa_nil))))))), ?_⟩
    refine ⟨_, rfl, _, _, rfl, rfl, ⟨by decide, by decide, by decide⟩, _, _, rfl, rfl, _, rfl, ite2 (fun _ => ?_) (fun _ => ?_)⟩
    · obtain ⟨v, hv, hv0, hv1⟩ := tab_c (k % 4) (Nat.mod_lt _ (by decide))
      refine ⟨_, rfl, _, _, rfl, rfl, ⟨by decide, by decide, by decide⟩, _, _, rfl, rfl, ?_⟩
      refine ⟨sizeL (by show 4 ≤ 100000; decide), fun t nt => ?_⟩
      refine ⟨_, rfl, _, _, rfl, rfl, (by show (0 : Int) < 4; decide), t, _, (k : Int) % 4, .int v, rfl, rfl, .inl (.inl upd_same), atI_of (by omega) hv, _, v, rfl, rfl, ⟨by omega, by omega⟩, ?_⟩
      have e40 : (10 : Int) ^ (40 : Int).toNat = 10000000000000000000000000000000000000000 := by decide
      have p40 : (0 : Int) < (10 : Int) ^ (40 : Int).toNat := by rw [e40]; decide
      refine ⟨_, _, rfl, rfl, ⟨by decide, by decide, by decide⟩, _, _, rfl, rfl, p40, q _ _ (Ex.new nt) (Int.emod_nonneg _ (Int.ne_of_gt p40)) ?_⟩
      rw [← e40]
      exact Int.emod_lt_of_pos _ p40
    · have s1 : (977 * (k : Int)).natAbs < 2 ^ scB := by
        refine sz_mono (a := 20) ?_ (by decide)
        show _ < 1048576
        omega
      have s2 : (31 * (k : Int)).natAbs < 2 ^ scB := by
        refine sz_mono (a := 15) ?_ (by decide)
        show _ < 32768
        omega
      have a1 := sz_add hc s1
      have a2 := sz_add (sz_add hc s2) (show (5 : Int).natAbs < 2 ^ (scB + 1) from sz_mono (a := 3) (by decide) (by decide))
      refine ⟨_, rfl, _, rfl, _, _, rfl, rfl, mulX (a := 10) (b := 11) (by decide) (by show _ < 2048; omega) (by decide), _, _, rfl, rfl, ?_⟩
      refine ⟨_, rfl, _, rfl, _, _, rfl, rfl, mulX (a := 5) (b := 11) (by decide) (by show _ < 2048; omega) (by decide), _, _, rfl, rfl, _, _, rfl, rfl, _, _, rfl, rfl, mulX a1 a2 (by decide), ?_⟩
      refine ⟨_, rfl, _, _, rfl, rfl, (by show (0 : Int) < 9; decide), _, _, rfl, rfl, _, rfl, ?_⟩
      refine ⟨_, m, k % 9 + 1, ?_, sz_mul a1 a2, by omega, hm, fun H' r e h0 h1 => q H' r e h0 (by omega)⟩
      have : ((k : Int) % 9 + 1) = ((k % 9 + 1 : Nat) : Int) := by omega
      rw [← this]
      rfl
/-! ### _law_prime -/
abbrev st__law_prime : Stmt := topS 35
abbrev nn__law_prime : List Str := ["_law_number_here", "_law_part"]
abbrev pp__law_prime : List Str := ["_law_number_here"]
theorem sc__law_prime : FnScope nn__law_prime pp__law_prime (defScope st__law_prime) := ⟨rfl, rfl, rfl, by decide +kernel, rfl, by decide +kernel, by decide +kernel⟩
def spPrime : Sp := fun vs H Q _ => ∃ n : Int, vs = [.int n] ∧ 0 ≤ n ∧ n ≤ 1301 ∧ ∀ H' p, Ex H H' → n ≤ p → 2 ≤ p → p ≤ 1301 → parted p = false → Q (.int p) H'
theorem ok__law_prime (T : Txt K mg) (D__law_prime : Df K mg "_law_prime" st__law_prime pp__law_prime) : Fd P w K mg base CX0 "_law_prime" 1 pp__law_prime spPrime := by
  refine D__law_prime.ok sc__law_prime (fun vs H Q E h => ?_) (fun f cdv A outer s H vs Q E hr h => ?_)
  · obtain ⟨n, rfl, _⟩ := h; rfl
  · obtain ⟨n, rfl, h0, h1, q⟩ := h
    refine ⟨_, (pss_cons (ps_while PassesOwn.never (PW.pt (pw_or (pt_cmpR op_lt (pv 0) pe_int (nomark _)) (pw_or1 (pt_val (pe_callB (cr_anyE (K := K) rfl) (by rfl) T.b_any (by decide +kernel) (pa_cons (pe_lc (own := [("_law_part", 1)]) (g := gName 1) (by rfl) sc__law_prime.nd (pi_range2 rfl T.b_range (pa_cons pe_int (pa_cons pe_int pa_nil))) (blkOk_by (own := [("_law_part", 1)]) (N := nn__law_prime) (sc := defScope st__law_prime) (by decide +kernel)) (fun _ _ _ _ _ => pg_name (i := 1) sc__law_prime.nd rfl (Or.inl rfl)) (fun _ _ _ _ _ => pts_one (pt_cmpR op_lt (pv 1) (pv 0) (nomark _))) (fun _ _ _ _ _ => (pe_cmpR op_eq (pe_op op_mod (pv 0) (pv 1)) pe_int (nomark _)))) pa_nil)))))) (pss_one (ps_set (i := 0) sc__law_prime.nd rfl (by first | exact Or.inl rfl | exact Or.inr rfl) (pe_op op_add (pv 0) pe_int)))) (pss_one (ps_ret (pv 0)))), ?_⟩
    refine q_while (fun m σ H' => ∃ p : Int, σ = [some (.int p), none] ∧ Ex H H' ∧ n ≤ p ∧ p ≤ 1301 ∧ m = (1301 - p).toNat) (1301 - n).toNat ⟨n, rfl, Ex.refl H, Int.le_refl _, h1, rfl⟩ ?_
    rintro m σ H' ⟨p, rfl, e, n1, n2, rfl⟩
    refine ⟨decide (p < 2) || parted p, et_or (et_test (ev_op (ev_var rfl) ev_c rv_I0)) (fun _ => et_B ?_), fun hb H2 e2 => ?_, fun hb H2 e2 => ?_⟩
    · exact ev_anyParts (fun _ => rfl) (fun _ => rfl) (fun _ => rfl)
    · have ne : p ≠ 1301 := by
        intro z
        rw [z, parted_1301] at hb
        exact absurd hb (by decide)
      refine ⟨fun σ H' => σ = [some (.int (p + 1)), none] ∧ Ex H H', ?_, _, rfl, _, _, rfl, rfl, rfl, e.trans e2⟩
      rintro σ2 H3 ⟨rfl, e3⟩
      exact ⟨(1301 - (p + 1)).toNat, by omega, p + 1, rfl, e3, by omega, by omega, rfl⟩
    · rw [Bool.or_eq_false_iff] at hb
      have := of_decide_eq_false hb.1
      exact ⟨_, rfl, q H2 p (e.trans e2) n1 (by omega) n2 hb.2⟩
/-! ### _law_powers -/
abbrev st__law_powers : Stmt := topS 37
abbrev nn__law_powers : List Str := ["_law_prime_here", "_law_often", "_law_found", "_law_turn"]
abbrev pp__law_powers : List Str := ["_law_prime_here", "_law_often"]
theorem sc__law_powers : FnScope nn__law_powers pp__law_powers (defScope st__law_powers) := ⟨rfl, rfl, rfl, by decide +kernel, rfl, by decide +kernel, by decide +kernel⟩
def spPowers : Sp := fun vs H Q _ => ∃ (p : Int) (e : Nat), vs = [.int p, .int (e : Int)] ∧ 1 ≤ p ∧ p ≤ 1024 ∧ e ≤ 1000 ∧ ∀ H' a, Ex H H' → H a = none → IntsAt H' a (pwl p (e + 1)) → Q (.ref a) H'
theorem ok__law_powers (T : Txt K mg) (D__law_powers : Df K mg "_law_powers" st__law_powers pp__law_powers) : Fd P w K mg base CX0 "_law_powers" 1 pp__law_powers spPowers := by
  refine D__law_powers.ok sc__law_powers (fun vs H Q E h => ?_) (fun f cdv A outer s H vs Q E hr h => ?_)
  · obtain ⟨p, e, rfl, _⟩ := h; rfl
  · obtain ⟨p, e, rfl, h1, h2, he, q⟩ := h
    refine ⟨_, (pss_cons (ps_set (i := 2) sc__law_powers.nd rfl (by first | exact Or.inl rfl | exact Or.inr rfl) (pe_lst (pa_cons pe_int pa_nil))) (pss_cons (ps_for PassesOwn.never rfl (pi_range1 rfl T.b_range (pa_cons (pv 1) pa_nil)) (pg_name (i := 3) sc__law_powers.nd rfl (by first | exact Or.inl rfl | exact Or.inr rfl)) (pss_one (ps_expr (pe_bm PySem.F.plainAttrs_list PySem.F.slot_list_append PySem.F.type_list_append mt_append (pv 2) (pa_cons (pe_op op_mulX (pe_ix (ix_listE (K := K)) (pv 2) (pe_un un_neg pe_int) (fun _ _ => rfl)) (pv 0)) pa_nil))))) (pss_one (ps_ret (pv 2))))), ?_⟩
    refine ⟨sizeL (by decide), fun a na => ?_⟩
    refine ⟨.int (e : Int), rfl, (e : Int), rfl, by omega, by omega, for_range (lo := 0) (n := ((e : Int)).toNat) (fun i σ H' => ∃ y, σ = [some (.int p), some (.int (e : Int)), some (.ref a), y] ∧ Ex H H' ∧ IntsAt H' a (pwl p (i + 1))) ⟨none, rfl, Ex.new na, by show upd H a _ a = some (.lst ((pwl p 1).map V.int)); rw [pwl_one]; exact upd_same⟩ ?_ ?_⟩
    · rintro i σ H' hi ⟨y, rfl, ex, ha⟩
      obtain ⟨b1, b2⟩ := pow_lt h1 h2 (e := i) (by omega)
      have la : atI ((pwl p (i + 1)).map V.int) (-1) = some (.int (p ^ i)) := by
        rw [pwl_up, List.map_append]
        exact atI_last _ _
      refine ⟨.ref a, rfl, .inl ⟨rfl, _, SqL.of ha⟩, .ref a, rfl, 1, rfl, a, _, -1, _, rfl, rfl, SqL.of ha, la, _, rfl, _, _, rfl, rfl, mulN (a := 10001) (b := 11) (by omega) b2 (by omega) (by omega) (by decide), ?_⟩
      refine ⟨a, _, _, rfl, rfl, ha, sz_lt (by rw [List.length_map, pwl_len]; omega), ?_⟩
      refine ⟨_, rfl, Ex.mut ex na, ?_⟩
      show upd H' a _ a = some (.lst ((pwl p (i + 1 + 1)).map V.int))
      rw [pwl_up p (i + 1), List.map_append, Int.pow_succ]
      exact upd_same
    · rintro σ H' ⟨y, rfl, ex, ha⟩
      exact ⟨_, rfl, q H' a ex na ha⟩
/-! ### _law_number -/
abbrev st__law_number : Stmt := topS 36
abbrev nn__law_number : List Str := ["_law_script", "_law_k", "_law_most", "_law_kind", "_law_found", "_law_much", "_law_whole", "_law_least", "_law_turn", "_law_drawn", "_law_prime_here", "_law_often"]
abbrev pp__law_number : List Str := ["_law_script", "_law_k", "_law_most"]
theorem sc__law_number : FnScope nn__law_number pp__law_number (defScope st__law_number) := ⟨rfl, rfl, rfl, by decide +kernel, rfl, by decide +kernel, by decide +kernel⟩
/-- the law's number as far as it has come -/
structure NumIs (ms : Nm) (most : Int) (least : Int) : Prop where
  ok : Ok ms
  most : (mny ms : Int) ≤ most
  lt : ∀ q ∈ ms, q.1 < least
  l0 : 2 ≤ least
  l1 : least ≤ 998
def spNumber (K : PySem.W.Frag) : Sp := fun vs H Q _ => ∃ (a : Addr) (ns : List Int) (k : Nat) (most : Int), vs = [.ref a, .int (k : Int), .int most] ∧ SqL K H a (ns.map V.int) ∧ (∀ z ∈ ns, z.natAbs < 2 ^ scB) ∧ k ≤ 100 ∧ 1 ≤ most ∧ most ≤ 500 ∧
  ∀ H' p ms, Ex H H' → H p = none → NumAt H' p ms → Ok ms → (mny ms : Int) ≤ most → Q (.ref p) H'
theorem ok__law_number (T : Txt K mg) (D__law_number : Df K mg "_law_number" st__law_number pp__law_number) (F__law_cell_at : Fd P w K mg base CX0 "_law_cell_at" 1 pp__law_cell_at (spCell K)) (F__law_draw : Fd P w K mg base CX0 "_law_draw" 1 pp__law_draw spDraw)
    (F__law_value : Fd P w K mg base CX0 "_law_value" 2 pp__law_value spValue) (F__law_prime : Fd P w K mg base CX0 "_law_prime" 1 pp__law_prime spPrime) (F__law_powers : Fd P w K mg base CX0 "_law_powers" 1 pp__law_powers spPowers) : Fd P w K mg base CX0 "_law_number" 3 pp__law_number (spNumber K) := by
  refine D__law_number.ok sc__law_number (fun vs H Q E h => ?_) (fun f cdv A outer s H vs Q E hr h => ?_)
  · obtain ⟨a, ns, k, most, rfl, _⟩ := h; rfl
  · obtain ⟨a, ns, k, most, rfl, hS, hz, hk, hm0, hm1, q⟩ := h
    refine ⟨_, (pss_cons (ps_set (i := 3) sc__law_number.nd rfl (by first | exact Or.inl rfl | exact Or.inr rfl) (pe_fd F__law_draw hr (by decide) pass0 (pa_cons (pe_op op_add (pe_op op_mod (pe_fd F__law_cell_at hr (by decide) pass0 (pa_cons (pv 0) (pa_cons (pv 1) pa_nil))) (pe_op op_pow pe_int pe_int)) (pe_op op_mulX pe_int (pv 1))) (pa_cons pe_int (pa_cons pe_int pa_nil))))) (pss_cons (ps_asg (pe_tup (pa_cons (pe_lst pa_nil) (pa_cons pe_int (pa_cons pe_int (pa_cons pe_int pa_nil))))) (pg_tup (by rfl) (pgs_cons (pg_name (i := 4) sc__law_number.nd rfl (by first | exact Or.inl rfl | exact Or.inr rfl)) (pgs_cons (pg_name (i := 5) sc__law_number.nd rfl (by first | exact Or.inl rfl | exact Or.inr rfl)) (pgs_cons (pg_name (i := 6) sc__law_number.nd rfl (by first | exact Or.inl rfl | exact Or.inr rfl)) (pgs_cons (pg_name (i := 7) sc__law_number.nd rfl (by first | exact Or.inl rfl | exact Or.inr rfl)) pgs_nil)))))) (pss_cons (ps_for PassesOwn.never rfl (pi_range1 rfl T.b_range (pa_cons pe_int pa_nil)) (pg_name (i := 8) sc__law_number.nd rfl (by first | exact Or.inl rfl | exact Or.inr rfl)) (pss_cons (ps_set (i := 9) sc__law_number.nd rfl (by first | exact Or.inl rfl | exact Or.inr rfl) (pe_fd F__law_value hr (by decide) pass0 (pa_cons (pe_fd F__law_cell_at hr (by decide) pass0 (pa_cons (pv 0) (pa_cons (pe_op op_add (pv 1) (pv 8)) pa_nil))) (pa_cons (pe_op op_add (pv 1) (pe_op op_mulX pe_int (pv 8))) (pa_cons pe_int pa_nil))))) (pss_cons (ps_set (i := 10) sc__law_number.nd rfl (by first | exact Or.inl rfl | exact Or.inr rfl) (pe_fd F__law_prime hr (by decide) pass0 (pa_cons (pe_op op_add (pv 7) (pe_op op_mod (pv 9) (pe_ix (ix_tupE (K := K)) (pe_tup (pa_cons pe_int (pa_cons pe_int (pa_cons pe_int (pa_cons pe_int (pa_cons pe_int (pa_cons pe_int pa_nil))))))) (pv 3) (fun _ _ => rfl)))) pa_nil))) (Evl.pss_cut (ps_if (PW.pt (pw_and (pt_cmpR op_eq (pv 3) pe_int (nomark _)) (pw_and1 (pt_cmpR op_gt (pv 8) pe_int (nomark _))))) (pss_one (ps_set (i := 10) sc__law_number.nd rfl (by first | exact Or.inl rfl | exact Or.inr rfl) (pe_fd F__law_prime hr (by decide) pass0 (pa_cons (pe_callB (call_max2 rfl) (by rfl) T.b_max (by decide +kernel) (pa_cons (pv 7) (pa_cons (pe_callB (call_min2 rfl) (by rfl) T.b_min (by decide +kernel) (pa_cons (pe_op op_add (pv 6) (pe_op op_mod (pe_op op_fdiv (pv 9) pe_int) pe_int)) (pa_cons pe_int pa_nil))) pa_nil))) pa_nil)))) pss_nil) (Evl.pss_cut (ps_set (i := 11) sc__law_number.nd rfl (by first | exact Or.inl rfl | exact Or.inr rfl) (pe_op op_add (pe_op op_add pe_int (pe_op op_mod (pe_op op_fdiv (pv 9) pe_int) (pe_ix (ix_tupE (K := K)) (pe_tup (pa_cons pe_int (pa_cons pe_int (pa_cons pe_int (pa_cons pe_int (pa_cons pe_int (pa_cons pe_int pa_nil))))))) (pv 3) (fun _ _ => rfl)))) (pe_ifExp (PW.pt (pw_and (pt_cmpR op_eq (pv 3) pe_int (nomark _)) (pw_and (pt_cmpR op_eq (pv 8) pe_int (nomark _)) (pw_and1 (pt_cmpR op_eq (pe_op op_mod (pv 9) pe_int) pe_int (nomark _)))))) pe_int pe_int))) (pss_one (ps_if (PW.pt (pw_and (pt_cmpR op_lt (pv 10) pe_int (nomark _)) (pw_and (pt_cmpR op_le (pe_op op_mulX (pv 5) (pe_op op_add (pv 11) pe_int)) (pv 2) (nomark _)) (pw_and1 (PW.pt (pw_or (pt_cmpR op_lt (pv 8) pe_int (nomark _)) (pw_or1 (pt_cmpR op_gt (pe_op op_mod (pe_op op_fdiv (pv 9) pe_int) pe_int) pe_int (nomark _))))))))) (pss_cons (ps_expr (pe_bm PySem.F.plainAttrs_list PySem.F.slot_list_append PySem.F.type_list_append mt_append (pv 4) (pa_cons (pe_tup (pa_cons (pv 10) (pa_cons (pv 11) pa_nil))) pa_nil))) (pss_cons (ps_par (i := 5) (j := 7) (by rfl) sc__law_number.nd rfl rfl (by decide) rfl rfl (pa_cons (pe_op op_mulX (pv 5) (pe_op op_add (pv 11) pe_int)) (pa_cons (pe_op op_add (pv 10) pe_int) pa_nil)) (by rfl)) (pss_one (ps_set (i := 6) sc__law_number.nd rfl (by first | exact Or.inl rfl | exact Or.inr rfl) (pe_op op_mulX (pv 6) (pe_callB (cr_sumE (K := K) rfl) (by rfl) T.b_sum (by decide +kernel) (pa_cons (pe_fd F__law_powers hr (by decide) pass0 (pa_cons (pv 10) (pa_cons (pv 11) pa_nil))) pa_nil))))))) pss_nil))))))) (pss_one (ps_ret (pv 4)))))), ?_⟩
    -- the kind
    refine ⟨.ref a, rfl, _, rfl, a, ns, k, rfl, hS, hz, fun z sz => ?_⟩
    have p18 : (0 : Int) < (10 : Int) ^ (18 : Int).toNat := by decide
    have e18 : (10 : Int) ^ (18 : Int).toNat = 1000000000000000000 := by decide
    refine ⟨_, _, rfl, rfl, ⟨by decide, by decide, by decide⟩, _, _, rfl, rfl, p18, _, rfl, _, _, rfl, rfl, mulX (a := 5) (b := 7) (by decide) (by show _ < 128; omega) (by decide), _, _, rfl, rfl, ?_⟩
    have z0 := Int.emod_nonneg z (Int.ne_of_gt p18)
    have z1 := Int.emod_lt_of_pos z p18
    rw [e18] at z0 z1
    refine ⟨_, 6, 6, rfl, ?_, by decide, by decide, fun H1 kd e1 kd0 kd1 => ?_⟩
    · refine sz_mono (a := 64) ?_ (by decide)
      show (z % 10 ^ (18 : Int).toNat + 31 * (k : Int)).natAbs < 18446744073709551616
      rw [e18]
      omega
    obtain ⟨kn, rfl⟩ : ∃ kn : Nat, kd = (kn : Int) := ⟨kd.toNat, by omega⟩
    -- found, much, whole, least
    refine ⟨sizeL (by decide), fun f nf => ⟨sizeL (by show 4 ≤ 100000; decide), fun t nt => ?_⟩⟩
    have e2 : Ex H (upd H1 f (.lst [])) := ex_upd e1 nf
    have e3 : Ex H (upd (upd H1 f (.lst [])) t (.tup [.ref f, .int 1, .int 1, .int 2])) := ex_upd e2 nt
    have nft : f ≠ t := ne_of_none (upd_same (H := H1) (a := f) (o := .lst [])) nt
    refine ⟨t, _, rfl, .inl (.inl upd_same), rfl, _, _, rfl, _, _, rfl, _, _, rfl, _, _, rfl, rfl, ?_⟩
    refine ⟨8, rfl, by decide, by decide, for_range (lo := 0) (n := (8 : Int).toNat) (fun i σ H' => ∃ (ms : Nm) (least : Int) (y8 y9 y10 y11 : Option V), σ = [some (.ref a), some (.int (k : Int)), some (.int most), some (.int (kn : Int)), some (.ref f), some (.int (mny ms : Int)), some (.int (tot ms)), some (.int least), y8, y9, y10, y11] ∧ Ex H H' ∧ H f = none ∧ NumAt H' f ms ∧ NumIs ms most least)
      ⟨[], 2, none, none, none, none, rfl, e3, fresh_back e1 nf, ⟨[], by rw [upd_ne nft]; exact upd_same, PairsAt.nil⟩, okNil, hm0, by simp, by decide, by decide⟩ ?_ ?_⟩
    · rintro i σ H' hi ⟨ms, least, y8, y9, y10, y11, rfl, e, nf0, ⟨xs, hx, hp⟩, N⟩
      have hi8 : i < 8 := hi
      obtain ⟨v1, hv1, a1, b1⟩ := tab_a kn (by omega)
      obtain ⟨v2, hv2, a2, b2⟩ := tab_b kn (by omega)
      have T0 := tot_pos N.ok.posP
      -- drawn
      refine ⟨.ref a, rfl, _, rfl, _, rfl, _, _, rfl, rfl, a, ns, k + i, by rw [Int.natCast_add]; simp, ex_l e hS, hz, fun z2 sz2 => ?_⟩
      refine ⟨_, rfl, _, rfl, _, _, rfl, rfl, mulX (a := 3) (b := 4) (by decide) (by show _ < 16; simp; omega) (by decide), _, _, rfl, rfl, ?_⟩
      refine ⟨z2, 999983, k + 5 * i, ?_, sz2, by omega, by decide, by decide, fun H2 dr e4 dr0 _ => ?_⟩
      · have : ((k + 5 * i : Nat) : Int) = (k : Int) + 5 * (0 + (i : Int)) := by omega
        rw [this]
        rfl
      -- prime_here
      refine ⟨_, rfl, _, rfl, sizeL (by show 6 ≤ 100000; decide), fun t1 nt1 => ⟨_, rfl, t1, _, _, _, rfl, rfl, .inl (.inl upd_same), atI_nat hv1, _, _, rfl, rfl, by omega, _, _, rfl, rfl, ?_⟩⟩
      have d0 := Int.emod_nonneg dr (b := v1) (by omega)
      have d1 := Int.emod_lt_of_pos dr (b := v1) (by omega)
      have N0 := N.l0
      have N1 := N.l1
      have e5 : Ex H' (upd H2 t1 (.tup [.int 1, .int 2, .int 4, .int 40, .int 300, .int 3])) := ex_upd e4 nt1
      refine ⟨_, rfl, by omega, by omega, fun H3 pr e6 pr1 pr2 pr3 pr4 => ?_⟩
      -- if kind == 5 and turn > 0
      refine ⟨fun σ H4 => ∃ pr : Int, σ = [some (.ref a), some (.int (k : Int)), some (.int most), some (.int (kn : Int)), some (.ref f), some (.int (mny ms : Int)), some (.int (tot ms)), some (.int least), some (.int (0 + (i : Int))), some (.int dr), some (.int pr), y11] ∧ Ex H' H4 ∧ least ≤ pr ∧ 2 ≤ pr ∧ parted pr = false, ?_, ?_⟩
      · refine et_and (b := decide ((0 : Int) < 0 + (i : Int))) (et_test (ev_op (ev_var rfl) ev_c (rv_eq rfl))) (fun _ => et_test (ev_op (ev_var rfl) ev_c rv_I0)) H3 (Ex.refl _) _ fun H4 e7 => ite2 (fun _ => ?_) (fun _ => ⟨pr, rfl, (e5.trans e6).trans e7, by omega, pr2, pr4⟩)
        refine ⟨_, rfl, _, rfl, _, rfl, _, _, rfl, rfl, ⟨by decide, by decide⟩, _, _, rfl, rfl, (by show (0 : Int) < 2; decide), _, _, rfl, rfl, _, _, rfl, _, _, rfl, ?_⟩
        generalize hm : (if (990 : Int) < tot ms + dr / 7 % 2 then (990 : Int) else tot ms + dr / 7 % 2) = mn
        have m1 : mn ≤ 990 := by rw [← hm]; split <;> omega
        have m0 : 0 ≤ mn := by rw [← hm]; split <;> omega
        generalize hM : (if mn > least then mn else least) = mx
        have M1 : mx ≤ 998 := by rw [← hM]; split <;> omega
        have M0 : least ≤ mx := by rw [← hM]; split <;> omega
        refine ⟨_, rfl, by omega, by omega, fun H5 pr' e8 q1 q2 q3 q4 => ⟨pr', rfl, ((e5.trans e6).trans e7).trans e8, by omega, q2, q4⟩⟩
      · rintro σ H4 ⟨pr, rfl, e7, l1, l2, l3⟩
        -- often
        refine ⟨fun σ H5 => ∃ of : Nat, σ = [some (.ref a), some (.int (k : Int)), some (.int most), some (.int (kn : Int)), some (.ref f), some (.int (mny ms : Int)), some (.int (tot ms)), some (.int least), some (.int (0 + (i : Int))), some (.int dr), some (.int pr), some (.int (of : Int))] ∧ Ex H' H5 ∧ 1 ≤ of ∧ of ≤ 26, ?_, ?_⟩
        · have o0 := Int.emod_nonneg (dr / 11) (b := v2) (by omega)
          have o1 := Int.emod_lt_of_pos (dr / 11) (b := v2) (by omega)
          refine ⟨_, rfl, _, _, rfl, rfl, ⟨by decide, by decide⟩, sizeL (by show 6 ≤ 100000; decide), fun t2 nt2 => ⟨_, rfl, t2, _, _, _, rfl, rfl, .inl (.inl upd_same), atI_nat hv2, _, _, rfl, rfl, by omega, _, _, rfl, rfl, ?_⟩⟩
          have e8 : Ex H' (upd H4 t2 (.tup [.int 6, .int 3, .int 2, .int 2, .int 1, .int 2])) := ex_upd e7 nt2
          refine et_and (et_test (ev_op (ev_var rfl) ev_c (rv_eq rfl))) (fun _ => et_and (et_test (ev_op (ev_var rfl) ev_c (rv_eq rfl))) (fun _ => et_test (ev_op (ev_op (ev_var rfl) ev_c (rv_I (by decide))) ev_c (rv_eq rfl)))) _ (Ex.refl _) _ fun H5 e9 => ite2 (fun _ => ?_) (fun _ => ?_)
          · refine ⟨_, _, rfl, rfl, (1 + dr / 11 % v2 + 20).toNat, ?_, e8.trans e9, by omega, by omega⟩
            rw [Int.toNat_of_nonneg (by omega)]
            rfl
          · refine ⟨_, _, rfl, rfl, (1 + dr / 11 % v2 + 0).toNat, ?_, e8.trans e9, by omega, by omega⟩
            rw [Int.toNat_of_nonneg (by omega)]
            rfl
        · rintro σ H5 ⟨of, rfl, e8, o1, o2⟩
          have M5 := N.ok.many
          refine et_and (et_test (ev_op (ev_var rfl) ev_c rv_I0)) (fun _ => et_and (et_test (ev_op (ev_op (ev_var rfl) (ev_op (ev_var rfl) ev_c rv_I0) (rv_I (mulX (a := 10) (b := 10) (by show _ < 1024; omega) (by show _ < 1024; omega) (by decide)))) (ev_var rfl) rv_I0)) (fun _ => et_or (b := decide ((0 : Int) < dr / 5 % 4)) (et_test (ev_op (ev_var rfl) ev_c rv_I0)) (fun _ => et_test (ev_op (ev_op (ev_op (ev_var rfl) ev_c (rv_I ⟨by decide, by decide⟩)) ev_c (rv_I (by decide))) ev_c rv_I0)))) H5 (Ex.refl _) _ fun H6 e9 => ite2 (fun c => ?_) (fun _ => ?_)
          · rw [Bool.and_eq_true, Bool.and_eq_true] at c
            have c1 : pr < 998 := of_decide_eq_true c.1
            have c2 : (mny ms : Int) * ((of : Int) + 1) ≤ most := of_decide_eq_true c.2.1
            have c3 : ((mny ms * (of + 1) : Nat) : Int) = (mny ms : Int) * ((of : Int) + 1) := by rw [Int.natCast_mul]; rfl
            have e10 := e8.trans e9
            have hx6 := e10 _ _ hx
            refine ⟨.ref f, rfl, .inl ⟨rfl, _, SqL.of hx6⟩, _, rfl, _, rfl, sizeL (by show 2 ≤ 100000; decide), fun t3 nt3 => ?_⟩
            have nf3 : f ≠ t3 := ne_of_none hx6 nt3
            have e11 : Ex H' (upd H6 t3 (.tup [.int pr, .int (of : Int)])) := ex_upd e10 nt3
            refine ⟨f, xs, _, rfl, rfl, (by rw [upd_ne nf3]; exact hx6), sz_lt (by have := N.ok.len; rw [hp.1]; omega), ?_⟩
            have e12 : Ex H (upd (upd H6 t3 (.tup [.int pr, .int (of : Int)])) f (.lst (xs ++ [.ref t3]))) := Ex.mut (e.trans e11) nf0
            -- much, least
            refine ⟨_, rfl, _, rfl, _, _, rfl, rfl, _, _, rfl, rfl, mulX (a := 10) (b := 10) (by show _ < 1024; omega) (by show _ < 1024; omega) (by decide), _, rfl, _, _, rfl, rfl, _, _, rfl, ?_⟩
            -- whole
            refine ⟨_, rfl, _, rfl, _, rfl, pr, of, rfl, by omega, by omega, by omega, fun H7 b e13 nb hb => ?_⟩
            have okn : Ok (ms ++ [(pr, of)]) := okSnoc N.ok ⟨l2, by omega⟩ l3 (fun z hz => by have := N.lt z hz; omega) o1 (by omega)
            have g0 := geo_pos (p := pr) (by omega) of
            have g1 := geo_ge pr l2 of
            obtain ⟨p1, p2⟩ := pow_lt (p := pr) (by omega) (by omega) (e := of + 1) (by omega)
            refine ⟨b, _, rfl, SqL.of hb, _, _, rfl, rfl, ?_, ?_⟩
            · rw [pwl_sum]
              exact mulN (a := 5000) (b := 10001) (by omega) (tot_lt N.ok.low N.ok.many) (by omega) (by omega) (by decide)
            refine ⟨ms ++ [(pr, of)], pr + 1, some (.int (0 + (i : Int))), some (.int dr), some (.int pr), some (.int (of : Int)), ?_, e12.trans e13, nf0, ⟨xs ++ [.ref t3], e13 _ _ upd_same, ?_⟩, okn, ?_, ?_, by omega, by omega⟩
            · have t1 : tot (ms ++ [(pr, of)]) = tot ms * geo pr of := totF_snoc _ _ _
              have t2 : mny (ms ++ [(pr, of)]) = mny ms * (of + 1) := mnyF_snoc _ _ _
              rw [t1, t2, c3, pwl_sum]
              rfl
            · have s3 : Ex H' (upd (upd H6 t3 (.tup [.int pr, .int (of : Int)])) f (.lst (xs ++ [.ref t3]))) → True := fun _ => trivial
              have keep : ∀ b o, b ≠ f → (upd H6 t3 (.tup [.int pr, .int (of : Int)])) b = some o → H7 b = some o := fun b o nb hb => e13 _ _ (by rw [upd_ne nb]; exact hb)
              have hp' : PairsAt H7 xs ms := ⟨hp.1, fun j z hj => by
                obtain ⟨u, h1, h2⟩ := hp.2 j z hj
                refine ⟨u, h1, keep _ _ ?_ (e11 _ _ h2)⟩
                exact ne_of h2 hx (by intro z; cases z)⟩
              exact hp'.snoc (q := (pr, of)) (keep _ _ nf3.symm upd_same)
            · have t2 : mny (ms ++ [(pr, of)]) = mny ms * (of + 1) := mnyF_snoc _ _ _
              rw [t2, c3]
              exact c2
            · intro z hz
              rcases List.mem_append.mp hz with h | h
              · have := N.lt z h
                show z.1 < pr + 1
                omega
              · rw [List.mem_singleton.mp h]
                show pr < pr + 1
                omega
          · exact ⟨ms, least, _, _, _, _, rfl, e.trans (e8.trans e9), nf0, ⟨xs, (e8.trans e9) _ _ hx, hp.ex (e8.trans e9)⟩, N⟩
    · rintro σ H' ⟨ms, least, y8, y9, y10, y11, rfl, e, nf0, hn, N⟩
      exact ⟨_, rfl, q H' f ms e nf0 hn N.ok N.most⟩
/-! ### the errors' classes -/
structure Xs (K : PySem.W.Frag) (mg : Str → Option Value) (cSumError cBadNumber cBadSum cNotAll cTooMany : Addr) : Prop where
  gSumError : mg "SumError" = some (.ref cSumError)
  gBadNumber : mg "BadNumber" = some (.ref cBadNumber)
  gBadSum : mg "BadSum" = some (.ref cBadSum)
  gNotAll : mg "NotAll" = some (.ref cNotAll)
  gTooMany : mg "TooMany" = some (.ref cTooMany)
  xBadNumber : Xc K cBadNumber
  xBadSum : Xc K cBadSum
  xNotAll : Xc K cNotAll
  xTooMany : Xc K cTooMany
  mBadNumber : PySem.W.exmOne K (.ref cBadNumber) (.ref cSumError) = some true
  mBadSum : PySem.W.exmOne K (.ref cBadSum) (.ref cSumError) = some true
  mNotAll : PySem.W.exmOne K (.ref cNotAll) (.ref cSumError) = some true
  mTooMany : PySem.W.exmOne K (.ref cTooMany) (.ref cSumError) = some true
  kBadNumber_BadNumber : PySem.W.kitOne K (.ref cBadNumber) (.ref cBadNumber) = some true
  kBadNumber_BadSum : PySem.W.kitOne K (.ref cBadNumber) (.ref cBadSum) = some false
  kBadNumber_NotAll : PySem.W.kitOne K (.ref cBadNumber) (.ref cNotAll) = some false
  kBadNumber_TooMany : PySem.W.kitOne K (.ref cBadNumber) (.ref cTooMany) = some false
  kBadSum_BadNumber : PySem.W.kitOne K (.ref cBadSum) (.ref cBadNumber) = some false
  kBadSum_BadSum : PySem.W.kitOne K (.ref cBadSum) (.ref cBadSum) = some true
  kBadSum_NotAll : PySem.W.kitOne K (.ref cBadSum) (.ref cNotAll) = some false
  kBadSum_TooMany : PySem.W.kitOne K (.ref cBadSum) (.ref cTooMany) = some false
  kNotAll_BadNumber : PySem.W.kitOne K (.ref cNotAll) (.ref cBadNumber) = some false
  kNotAll_BadSum : PySem.W.kitOne K (.ref cNotAll) (.ref cBadSum) = some false
  kNotAll_NotAll : PySem.W.kitOne K (.ref cNotAll) (.ref cNotAll) = some true
  kNotAll_TooMany : PySem.W.kitOne K (.ref cNotAll) (.ref cTooMany) = some false
  kTooMany_BadNumber : PySem.W.kitOne K (.ref cTooMany) (.ref cBadNumber) = some false
  kTooMany_BadSum : PySem.W.kitOne K (.ref cTooMany) (.ref cBadSum) = some false
  kTooMany_NotAll : PySem.W.kitOne K (.ref cTooMany) (.ref cNotAll) = some false
  kTooMany_TooMany : PySem.W.kitOne K (.ref cTooMany) (.ref cTooMany) = some true
  vBadNumber : PySem.W.kitOne K (.ref cBadNumber) (.type "ValueError") = some true
  vBadSum : PySem.W.kitOne K (.ref cBadSum) (.type "ValueError") = some true
  vNotAll : PySem.W.kitOne K (.ref cNotAll) (.type "ValueError") = some true
  vTooMany : PySem.W.kitOne K (.ref cTooMany) (.type "ValueError") = some true
/-! ### any thing looked at -/
abbrev st_is_prime : Stmt := topS 11
abbrev nn_is_prime : List Str := ["thing", "part"]
abbrev pp_is_prime : List Str := ["thing"]
theorem sc_is_prime : FnScope nn_is_prime pp_is_prime (defScope st_is_prime) := ⟨rfl, rfl, rfl, by decide +kernel, rfl, by decide +kernel, by decide +kernel⟩
def spIsPrime (K : PySem.W.Frag) : Sp := fun vs H Q _ => ∃ (x : V) (r : Bool), vs = [x] ∧ PrD K H x r ∧ ∀ H', Ex H H' → Q (.bl r) H'
theorem sv_wholeNo {H : Hp} {x : V} (h : NoInt K H x) : SpV (spWhole K) ([x] ++ []) H (.bl false) := fun H1 e Q q E => by
  obtain ⟨n, b1, b2, h1, h2, h3, h4⟩ := h
  exact ⟨x, n, b1, b2, rfl, h1 H1 e, h2, h3, by rw [h4]; exact q H1 (Ex.refl _)⟩
theorem sv_wholeInt {H : Hp} {i : Int} : SpV (spWhole K) ([.int i] ++ []) H (.bl true) := fun H1 e Q q E => ⟨.int i, "int", true, false, rfl, .base (.int i), kit_int, kit_int_bool, q H1 (Ex.refl _)⟩
theorem ok_is_prime (T : Txt K mg) (D_is_prime : Df K mg "is_prime" st_is_prime pp_is_prime) (F_is_whole : Fd P w K mg base CX0 "is_whole" 1 pp_is_whole (spWhole K)) : Fd P w K mg base CX0 "is_prime" 2 pp_is_prime (spIsPrime K) := by
  refine D_is_prime.ok sc_is_prime (fun vs H Q E h => ?_) (fun f cdv A outer s H vs Q E hr h => ?_)
  · obtain ⟨p, r, rfl, _⟩ := h; rfl
  · obtain ⟨x, r, rfl, hx, q⟩ := h
    obtain ⟨tG, gGREATEST⟩ := T.gGREATEST
    refine ⟨_, (pss_cons (ps_if (PW.pt (pw_or (pt_not (pt_val (pe_fd F_is_whole hr (by decide) pass0 (pa_cons (pv 0) pa_nil)))) (pw_or1 (pt_not (pt_chain op_le op_le pe_int (pv 0) (pe_glob (v := .int 997) (by rfl) gGREATEST ⟨_, rfl⟩)))))) (pss_one (ps_ret pe_bl)) pss_nil) (pss_one (ps_ret (pe_not (pe_callB (cr_anyE (K := K) rfl) (by rfl) T.b_any (by decide +kernel) (pa_cons (pe_lc (own := [("part", 1)]) (g := gName 1) (by rfl) sc_is_prime.nd (pi_range2 rfl T.b_range (pa_cons pe_int (pa_cons pe_int pa_nil))) (blkOk_by (own := [("part", 1)]) (N := nn_is_prime) (sc := defScope st_is_prime) (by decide +kernel)) (fun _ _ _ _ _ => pg_name (i := 1) sc_is_prime.nd rfl (Or.inl rfl)) (fun _ _ _ _ _ => pts_one (pt_cmpR op_lt (pv 1) (pv 0) (nomark _))) (fun _ _ _ _ _ => (pe_cmpR op_eq (pe_op op_mod (pv 0) (pv 1)) pe_int (nomark _)))) pa_nil)))))), ?_⟩
    cases hx with
    | no hx =>
      exact q_when (b := true) (et_is (et_or (a := !false) (b := true) (et_not (et_B (ev_call (sp := spWhole K) (ea_cons (ev_var rfl) ea_nil) (sv_wholeNo hx)))) (fun c => by cases c)) rfl) (fun _ H1 e1 => s_ret ev_c fun H2 e2 => q H2 (e1.trans e2)) (fun c => by cases c)
    | int i =>
      refine q_when (b := !(decide (2 ≤ i) && decide (i ≤ 997))) (et_is (et_or (a := !true) (et_not (et_B (ev_call (sp := spWhole K) (ea_cons (ev_var rfl) ea_nil) sv_wholeInt))) fun _ => et_not (et_test (ev_chain (k1 := decide (2 ≤ i)) (k2 := decide (i ≤ 997)) ev_c (ev_var rfl) rv_I0 (fun _ => ev_c) (fun _ => rv_I0)))) rfl) (fun c H1 e1 => s_ret ev_c fun H2 e2 => ?_) fun c H1 e1 => ?_
      · have z := q H2 (e1.trans e2)
        have e : isPr i = false := by
          unfold isPr
          rw [← Bool.and_assoc]
          cases h : (decide (2 ≤ i) && decide (i ≤ 997)) with
          | false => rfl
          | true => rw [h] at c; cases c
        rw [e] at z
        exact z
      · refine s_ret (ev_is (ev_notV (ev_anyParts (p := i) (fun _ => rfl) (fun _ => rfl) (fun _ => rfl))) ?_) fun H2 e2 => q H2 (e1.trans e2)
        unfold isPr
        rw [← Bool.and_assoc]
        cases h : (decide (2 ≤ i) && decide (i ≤ 997)) with
        | false => rw [h] at c; cases c
        | true => rfl
abbrev st_is_pair : Stmt := topS 12
abbrev nn_is_pair : List Str := ["thing"]
abbrev pp_is_pair : List Str := ["thing"]
theorem sc_is_pair : FnScope nn_is_pair pp_is_pair (defScope st_is_pair) := ⟨rfl, rfl, rfl, by decide +kernel, rfl, by decide +kernel, by decide +kernel⟩
def spIsPair (K : PySem.W.Frag) : Sp := fun vs H Q _ => ∃ (x : V) (r : Bool), vs = [x] ∧ PairD K H x r ∧ ∀ H', Ex H H' → Q (.bl r) H'
section
variable {σ : L2.St} {H : Hp} {te : TE}
theorem ev_lenT {t : Addr} {ys : List V} (h : Evl.Ev te σ H (.ref t)) (ht : H t = some (.tup ys)) : Evl.Ev (tCB (Evl.rLenS K) (tCons te tNil)) σ H (.int (ys.length : Int)) := fun H1 e Q q =>
  h H1 e _ fun H2 e2 => ⟨t, ys, rfl, .inr (.inl (.inl ((e.trans e2) _ _ ht))), q H2 e2⟩
theorem sv_prime {x : V} {r : Bool} (h : PrD K H x r) : SpV (spIsPrime K) ([x] ++ []) H (.bl r) := fun H1 e Q q E => ⟨x, r, rfl, h.ex e, fun H2 e2 => q H2 e2⟩
theorem rv_geI {i j : Int} : RV (rI0 fun i j => .bl (decide (j ≤ i))) (.int i) (.int j) H (.bl (decide (j ≤ i))) := rv_I0
end
theorem ok_is_pair (T : Txt K mg) (D_is_pair : Df K mg "is_pair" st_is_pair pp_is_pair) (F_is_whole : Fd P w K mg base CX0 "is_whole" 1 pp_is_whole (spWhole K)) (F_is_prime : Fd P w K mg base CX0 "is_prime" 2 pp_is_prime (spIsPrime K)) : Fd P w K mg base CX0 "is_pair" 3 pp_is_pair (spIsPair K) := by
  refine D_is_pair.ok sc_is_pair (fun vs H Q E h => ?_) (fun f cdv A outer s H vs Q E hr h => ?_)
  · obtain ⟨p, r, rfl, _⟩ := h; rfl
  · obtain ⟨x, r, rfl, hx, q⟩ := h
    have kt : kitB "tuple" "tuple" = some true := by decide +kernel
    refine ⟨_, (pss_cons (ps_if (PW.pt (pw_or (pt_not (pt_val (pe_callB (call_isiE (K := K)) (by rfl) T.b_isinstance (by decide +kernel) (pa_cons (pv 0) (pa_cons (pe_bltn (v := .ty "tuple") (u := .type "tuple") (by rfl) T.b_tuple (by decide +kernel) rfl) pa_nil))))) (pw_or (pt_cmpR op_ne (pe_callB (call_lenE (K := K)) (by rfl) T.b_len PySem.boot_len (pa_cons (pv 0) pa_nil)) pe_int (nomark _)) (pw_or1 (pt_not (pt_val (pe_fd F_is_prime hr (by decide) pass0 (pa_cons (pe_ix (ix_tupE (K := K)) (pv 0) pe_int (fun _ _ => rfl)) pa_nil)))))))) (pss_one (ps_ret pe_bl)) pss_nil) (pss_one (ps_ret (pe_and (pe_fd F_is_whole hr (by decide) pass0 (pa_cons (pe_ix (ix_tupE (K := K)) (pv 0) pe_int (fun _ _ => rfl)) pa_nil)) (pe_one (pe_cmpR op_ge (pe_ix (ix_tupE (K := K)) (pv 0) pe_int (fun _ _ => rfl)) pe_int (nomark _))))))), ?_⟩
    have isT : ∀ {t : Addr} {ys : List V}, H t = some (.tup ys) → RC (rIsi K) [.ref t, .ty "tuple"] H (.bl true) := fun h => rc_isi (xt_tup h) kt
    cases hx with
    | no h k =>
      exact q_when (b := true) (et_is (et_or (a := !false) (b := true) (et_not (et_B (ev_cb (ea_cons (ev_var rfl) (ea_cons ev_c ea_nil)) (rc_isi h k)))) (fun c => by cases c)) rfl) (fun _ H1 e1 => s_ret ev_c fun H2 e2 => q H2 (e1.trans e2)) (fun c => by cases c)
    | @len t ys h k =>
      exact q_when (b := true) (et_is (et_or (a := !true) (b := true) (et_not (et_B (ev_cb (ea_cons (ev_var rfl) (ea_cons ev_c ea_nil)) (isT h)))) (fun _ => et_is (et_or (a := !decide (V.int (ys.length : Int) = V.int 2)) (b := true) (et_test (ev_op (ev_lenT (ev_var rfl) h) ev_c (rv_ne rfl))) (fun c => by
        have : ¬ (V.int (ys.length : Int) = V.int 2) := fun z => k (by have := V.int.inj z; omega)
        rw [decide_eq_false this] at c; cases c)) (by
        have : ¬ (V.int (ys.length : Int) = V.int 2) := fun z => k (by have := V.int.inj z; omega)
        rw [decide_eq_false this]; rfl))) rfl) (fun _ H1 e1 => s_ret ev_c fun H2 e2 => q H2 (e1.trans e2)) (fun c => by cases c)
    | @fst t u v h k =>
      exact q_when (b := true) (et_is (et_or (a := !true) (b := true) (et_not (et_B (ev_cb (ea_cons (ev_var rfl) (ea_cons ev_c ea_nil)) (isT h)))) (fun _ => et_is (et_or (a := !decide (V.int (([u, v].length : Nat) : Int) = V.int 2)) (b := !false) (et_test (ev_op (ev_lenT (ev_var rfl) h) ev_c (rv_ne rfl))) (fun _ => et_not (et_B (ev_call (sp := spIsPrime K) (ea_cons (ev_op (ev_var rfl) ev_c (rv_ixT (SqT.of h) (atI_nat (j := 0) rfl))) ea_nil) (sv_prime k))))) (by rw [Bool.or_comm]; rfl))) rfl) (fun _ H1 e1 => s_ret ev_c fun H2 e2 => q H2 (e1.trans e2)) (fun c => by cases c)
    | @snd t u v h k l =>
      refine q_when (b := false) (et_is (et_or (a := !true) (b := false) (et_not (et_B (ev_cb (ea_cons (ev_var rfl) (ea_cons ev_c ea_nil)) (isT h)))) (fun _ => et_is (et_or (a := !decide (V.int (([u, v].length : Nat) : Int) = V.int 2)) (b := !true) (et_test (ev_op (ev_lenT (ev_var rfl) h) ev_c (rv_ne rfl))) (fun _ => et_not (et_B (ev_call (sp := spIsPrime K) (ea_cons (ev_op (ev_var rfl) ev_c (rv_ixT (SqT.of h) (atI_nat (j := 0) rfl))) ea_nil) (sv_prime k))))) (by rw [show decide (V.int (([u, v].length : Nat) : Int) = V.int 2) = true from decide_eq_true rfl]; rfl))) rfl) (fun c => by cases c) fun _ H1 e1 => ?_
      exact s_ret (ev_is (ev_andV (a := false) (b := true) (ev_call (sp := spWhole K) (ea_cons (ev_op (ev_var rfl) ev_c (rv_ixT (SqT.of (e1 _ _ h)) (atI_nat (j := 1) rfl))) ea_nil) (sv_wholeNo (l.ex e1))) (fun c => by cases c)) rfl) fun H2 e2 => q H2 (e1.trans e2)
    | @int t u e h k =>
      refine q_when (b := false) (et_is (et_or (a := !true) (b := false) (et_not (et_B (ev_cb (ea_cons (ev_var rfl) (ea_cons ev_c ea_nil)) (isT h)))) (fun _ => et_is (et_or (a := !decide (V.int (([u, .int e].length : Nat) : Int) = V.int 2)) (b := !true) (et_test (ev_op (ev_lenT (ev_var rfl) h) ev_c (rv_ne rfl))) (fun _ => et_not (et_B (ev_call (sp := spIsPrime K) (ea_cons (ev_op (ev_var rfl) ev_c (rv_ixT (SqT.of h) (atI_nat (j := 0) rfl))) ea_nil) (sv_prime k))))) (by rw [show decide (V.int (([u, .int e].length : Nat) : Int) = V.int 2) = true from decide_eq_true rfl]; rfl))) rfl) (fun c => by cases c) fun _ H1 e1 => ?_
      exact s_ret (ev_is (ev_andV (a := true) (b := decide (1 ≤ e)) (ev_call (sp := spWhole K) (ea_cons (ev_op (ev_var rfl) ev_c (rv_ixT (SqT.of (e1 _ _ h)) (atI_nat (j := 1) rfl))) ea_nil) sv_wholeInt) (fun _ => ev_op (ev_op (ev_var rfl) ev_c (rv_ixT (SqT.of (e1 _ _ h)) (atI_nat (j := 1) rfl))) ev_c rv_I0)) rfl) fun H2 e2 => q H2 (e1.trans e2)
abbrev st_many_of : Stmt := topS 13
abbrev nn_many_of : List Str := ["number", "found", "prime", "often"]
abbrev pp_many_of : List Str := ["number"]
theorem sc_many_of : FnScope nn_many_of pp_many_of (defScope st_many_of) := ⟨rfl, rfl, rfl, by decide +kernel, rfl, by decide +kernel, by decide +kernel⟩
def spMany : Sp := fun vs H Q _ => ∃ (a : Addr) (ns : Nm), vs = [.ref a] ∧ NumAt H a ns ∧ Pairy ns ∧ Q (.int (mny ns : Int)) H
theorem Pairy.take_le {ns : Nm} (h : Pairy ns) : ∀ i, i ≤ ns.length → mny (ns.take i) ≤ 2 ^ (200 * i)
  | 0, _ => Nat.le_refl 1
  | i + 1, hi => by
    have ih := h.take_le i (by omega)
    have hg : ns[i]? = some ns[i] := List.getElem?_eq_getElem (by omega)
    have hx := h.exp ns[i] (List.getElem_mem (by omega))
    rw [take_get hg]
    have e : mny (ns.take i ++ [ns[i]]) = mny (ns.take i) * (ns[i].2 + 1) := mnyF_snoc _ _ _
    rw [e, show 200 * (i + 1) = 200 * i + 200 by omega, Nat.pow_add]
    exact Nat.mul_le_mul ih hx
theorem ok_many_of (T : Txt K mg) (D_many_of : Df K mg "many_of" st_many_of pp_many_of) : Fd P w K mg base CX0 "many_of" 1 pp_many_of spMany := by
  refine D_many_of.ok sc_many_of (fun vs H Q E h => ?_) (fun f cdv A outer s H vs Q E hr h => ?_)
  · obtain ⟨a, ns, rfl, _⟩ := h; rfl
  · obtain ⟨a, ns, rfl, ⟨xs, hx, hp⟩, pn, q⟩ := h
    refine ⟨_, (pss_cons (ps_set (i := 1) sc_many_of.nd rfl (by first | exact Or.inl rfl | exact Or.inr rfl) pe_int) (pss_cons (ps_for PassesOwn.never rfl (pi_list (pv 0)) (pg_tup (by rfl) (pgs_cons (pg_name (i := 2) sc_many_of.nd rfl (by first | exact Or.inl rfl | exact Or.inr rfl)) (pgs_cons (pg_name (i := 3) sc_many_of.nd rfl (by first | exact Or.inl rfl | exact Or.inr rfl)) pgs_nil))) (pss_one (ps_aug (i := 1) sc_many_of.nd rfl (by first | exact Or.inl rfl | exact Or.inr rfl) (pe_op op_add (pv 3) pe_int) iop_mulX))) (pss_one (ps_ret (pv 1))))), ?_⟩
    refine ⟨.ref a, rfl, a, rfl, ⟨_, SqL.of hx⟩, for_list (xs := xs) (fun i σ H' => ∃ y z, σ = [some (.ref a), some (.int (mny (ns.take i) : Int)), y, z] ∧ H' = H) ⟨none, none, rfl, rfl⟩ (fun i σ H' _ ⟨_, _, _, e⟩ => by rw [e]; exact SqL.of hx) ?_ ?_⟩
    · rintro i x σ H' hi ⟨y, z, rfl, rfl⟩
      obtain ⟨r, t, hq, rfl, ht⟩ := hp.at hi
      have il : i < ns.length := (List.getElem?_eq_some_iff.mp hq).1
      have m1 := pn.take_le i (by omega)
      have few := pn.few
      have m2 : mny (ns.take i) < 2 ^ 2001 := Nat.lt_of_le_of_lt (Nat.le_trans m1 (Nat.pow_le_pow_right (by decide) (show 200 * i ≤ 2000 by omega))) (Nat.pow_lt_pow_right (by decide) (by decide))
      have x1 := pn.exp r (mem_get hq)
      have x2 : r.2 + 1 < 2 ^ 201 := Nat.lt_of_le_of_lt x1 (Nat.pow_lt_pow_right (by decide) (by decide))
      have em : mny (ns.take (i + 1)) = mny (ns.take i) * (r.2 + 1) := by
        rw [take_get hq]
        exact mnyF_snoc _ _ _
      refine ⟨t, _, rfl, .inl (.inl ht), rfl, _, _, rfl, _, _, rfl, rfl, ?_⟩
      refine ⟨_, rfl, _, rfl, _, _, rfl, rfl, _, _, rfl, rfl, mulX (a := 2001) (b := 201) (by rw [Int.natAbs_natCast]; exact m2) (by show ((r.2 + 1 : Nat) : Int).natAbs < _; rw [Int.natAbs_natCast]; exact x2) (by decide), ?_⟩
      refine ⟨some (.int r.1), some (.int (r.2 : Int)), ?_, rfl⟩
      rw [em, Int.natCast_mul]
      rfl
    · rintro σ H' ⟨y, z, rfl, rfl⟩
      refine ⟨_, rfl, ?_⟩
      rw [hp.1, List.take_length]
      exact q
/-! ### check_number -/
def risL (ns : Nm) : List Bool := (List.range (ns.length - 1)).map fun i => decide ((ns.getD i (0, 0)).1 < (ns.getD (i + 1) (0, 0)).1)
theorem risL_iff (ns : Nm) : (risL ns).all id = true ↔ Rise ns := by
  unfold risL Rise
  rw [List.all_map, List.all_eq_true, List.pairwise_iff_getElem]
  constructor
  · intro h
    have step : ∀ i (h1 : i + 1 < ns.length), ns[i].1 < ns[i + 1].1 := fun i h1 => by
      have z := of_decide_eq_true (h i (List.mem_range.mpr (by omega)))
      rw [List.getD_eq_getElem?_getD, List.getD_eq_getElem?_getD, List.getElem?_eq_getElem (by omega), List.getElem?_eq_getElem h1] at z
      exact z
    have far : ∀ d i (h1 : i + d + 1 < ns.length), ns[i].1 < ns[i + d + 1].1 := fun d => by
      induction d with
      | zero => intro i h1; exact step i h1
      | succ d ih =>
        intro i h1
        have a := ih i (by omega)
        have b := step (i + d + 1) (by omega)
        exact Int.lt_trans a b
    intro i j hi hj hij
    have z := far (j - i - 1) i (by omega)
    have e : i + (j - i - 1) + 1 = j := by omega
    simpa [e] using z
  · intro h i hi
    have hi := List.mem_range.mp hi
    show decide _ = true
    rw [List.getD_eq_getElem?_getD, List.getD_eq_getElem?_getD, List.getElem?_eq_getElem (by omega), List.getElem?_eq_getElem (by omega)]
    exact decide_eq_true (h i (i + 1) (by omega) (by omega) (by omega))
theorem pairy_ok {ns : Nm} (h : Pairy ns) (r : Rise ns) (m : mny ns ≤ 500) : Ok ns := by
  have hp : ∀ q ∈ ns, (2 ≤ q.1 ∧ q.1 ≤ 997) ∧ parted q.1 = false := fun q hq => by
    have z := (h.pr q hq).1
    unfold isPr at z
    rw [Bool.and_eq_true, Bool.and_eq_true] at z
    exact ⟨⟨of_decide_eq_true z.1, of_decide_eq_true z.2.1⟩, by simpa using z.2.2⟩
  exact ⟨r, fun q hq => (hp q hq).1, fun q hq => (hp q hq).2, fun q hq => (h.pr q hq).2, m⟩
abbrev st_check_number : Stmt := topS 14
abbrev nn_check_number : List Str := ["number", "pair", "at"]
abbrev pp_check_number : List Str := ["number"]
theorem sc_check_number : FnScope nn_check_number pp_check_number (defScope st_check_number) := ⟨rfl, rfl, rfl, by decide +kernel, rfl, by decide +kernel, by decide +kernel⟩
def spCheck (K : PySem.W.Frag) (cBadNumber : Addr) : Sp := fun vs H Q E => ∃ x : V, vs = [x] ∧ ((∃ (a : Addr) (ns : Nm), x = .ref a ∧ NumAt H a ns ∧ Ok ns ∧ ∀ H', Ex H H' → Q .non H') ∨ (BadAt K H x ∧ ∀ H', Ex H H' → E (.ref cBadNumber) none H'))
theorem ok_check_number (T : Txt K mg) (XC : Xs K mg cSumError cBadNumber cBadSum cNotAll cTooMany) (D_check_number : Df K mg "check_number" st_check_number pp_check_number) (F_is_pair : Fd P w K mg base CX0 "is_pair" 3 pp_is_pair (spIsPair K)) (F_many_of : Fd P w K mg base CX0 "many_of" 1 pp_many_of spMany) : Fd P w K mg base (L2N.CX P w) "check_number" 4 pp_check_number (spCheck K cBadNumber) := by
  refine D_check_number.okX sc_check_number (fun vs H Q E h => ?_) (fun f cdv A outer s H vs Q E hr h => ?_)
  · obtain ⟨x, rfl, _⟩ := h; rfl
  · obtain ⟨x, rfl, h⟩ := h
    obtain ⟨tM, gMOST⟩ := T.gMOST
    have kl : kitB "list" "list" = some true := by decide +kernel
    refine ⟨_, (pss_cons (ps_if (PW.pt (pw_or (pt_not (pt_val (pe_callB (call_isiE (K := K)) (by rfl) T.b_isinstance (by decide +kernel) (pa_cons (pv 0) (pa_cons (pe_bltn (v := .ty "list") (u := .type "list") (by rfl) T.b_list (by decide +kernel) rfl) pa_nil))))) (pw_or1 (pt_not (pt_val (pe_callB (cr_allE (K := K) rfl) (by rfl) T.b_all (by decide +kernel) (pa_cons (pe_lc (own := [("pair", 1)]) (g := gName 1) (by rfl) sc_check_number.nd (pi_list (pv 0)) (blkOk_by (own := [("pair", 1)]) (N := nn_check_number) (sc := defScope st_check_number) (by decide +kernel)) (fun _ _ _ _ _ => pg_name (i := 1) sc_check_number.nd rfl (Or.inl rfl)) (fun _ _ _ _ _ => pts_nil) (fun _ _ _ _ _ => (pe_fd F_is_pair hr (by decide) pass0 (pa_cons (pv 1) pa_nil)))) pa_nil))))))) (pss_one (L2N.ps_raise rfl (L2N.takes_of rfl rfl rfl rfl) (L2N.pmk_own PySem.F.excBase_ValueError XC.xBadNumber.ex XC.gBadNumber XC.xBadNumber.kp (raises_own XC.xBadNumber.is.hs XC.xBadNumber.ty) rfl))) pss_nil) (pss_cons (ps_if (pt_not (pt_val (pe_callB (cr_allE (K := K) rfl) (by rfl) T.b_all (by decide +kernel) (pa_cons (pe_lc (own := [("at", 2)]) (g := gName 2) (by rfl) sc_check_number.nd (pi_range2 rfl T.b_range (pa_cons pe_int (pa_cons (pe_callB (call_lenE (K := K)) (by rfl) T.b_len PySem.boot_len (pa_cons (pv 0) pa_nil)) pa_nil))) (blkOk_by (own := [("at", 2)]) (N := nn_check_number) (sc := defScope st_check_number) (by decide +kernel)) (fun _ _ _ _ _ => pg_name (i := 2) sc_check_number.nd rfl (Or.inl rfl)) (fun _ _ _ _ _ => pts_nil) (fun _ _ _ _ _ => (pe_cmpR op_lt (pe_ix (ix_tupE (K := K)) (pe_ix (ix_listE (K := K)) (pv 0) (pe_op op_sub (pv 2) pe_int) (fun _ _ => rfl)) pe_int (fun _ _ => rfl)) (pe_ix (ix_tupE (K := K)) (pe_ix (ix_listE (K := K)) (pv 0) (pv 2) (fun _ _ => rfl)) pe_int (fun _ _ => rfl)) (nomark _)))) pa_nil)))) (pss_one (L2N.ps_raise rfl (L2N.takes_of rfl rfl rfl rfl) (L2N.pmk_own PySem.F.excBase_ValueError XC.xBadNumber.ex XC.gBadNumber XC.xBadNumber.kp (raises_own XC.xBadNumber.is.hs XC.xBadNumber.ty) rfl))) pss_nil) (pss_one (ps_if (pt_cmpR op_gt (pe_fd F_many_of hr (by decide) pass0 (pa_cons (pv 0) pa_nil)) (pe_glob (v := .int 500) (by rfl) gMOST ⟨_, rfl⟩) (nomark _)) (pss_one (L2N.ps_raise rfl (L2N.takes_of rfl rfl rfl rfl) (L2N.pmk_own PySem.F.excBase_ValueError XC.xBadNumber.ex XC.gBadNumber XC.xBadNumber.kp (raises_own XC.xBadNumber.is.hs XC.xBadNumber.ty) rfl))) pss_nil)))), ?_⟩
    have cases2 : (∃ n, ExTy K H x n ∧ kitB n "list" = some false ∧ ∀ H', Ex H H' → E (.ref cBadNumber) none H') ∨ (∃ (a : Addr) (xs : List V) (rs : List Bool), x = .ref a ∧ H a = some (.lst xs) ∧ PairsD K H xs rs ∧ xs.length ≤ 1000 ∧ (rs.all id = false → ∀ H', Ex H H' → E (.ref cBadNumber) none H') ∧
        (rs.all id = true → ∃ ns, PairsAt H xs ns ∧ Pairy ns ∧ (¬ Rise ns ∨ 500 < mny ns → ∀ H', Ex H H' → E (.ref cBadNumber) none H') ∧ (Rise ns → mny ns ≤ 500 → ∀ H', Ex H H' → Q .non H'))) := by
      have alls : ∀ ns : Nm, (ns.map fun _ => true).all id = true := fun ns => by rw [all_true]
      rcases h with ⟨a, ns, rfl, ⟨xs, hx, hp⟩, okn, q⟩ | ⟨hb, qE⟩
      · have pn := Ew.Ok.pairy okn
        refine .inr ⟨a, xs, ns.map fun _ => true, rfl, hx, pairy_d hp pn.pr, by rw [hp.1]; have := pn.few; omega, fun z => (by rw [alls] at z; cases z), fun _ => ⟨ns, hp, pn, fun z => ?_, fun _ _ => q⟩⟩
        rcases z with z | z
        · exact absurd okn.rise z
        · have := okn.many; omega
      · cases hb with
        | no h k => exact .inl ⟨_, h, k, qE⟩
        | pairs h k l m => exact .inr ⟨_, _, _, rfl, h, k, l, fun _ => qE, fun z => by rw [m] at z; cases z⟩
        | @falls a ns hn pn nr =>
          obtain ⟨xs, hx, hp⟩ := hn
          exact .inr ⟨_, xs, ns.map fun _ => true, rfl, hx, pairy_d hp pn.pr, by rw [hp.1]; have := pn.few; omega, fun z => (by rw [alls] at z; cases z), fun _ => ⟨ns, hp, pn, fun _ => qE, fun z => absurd z nr⟩⟩
        | @many a ns hn pn r m =>
          obtain ⟨xs, hx, hp⟩ := hn
          exact .inr ⟨_, xs, ns.map fun _ => true, rfl, hx, pairy_d hp pn.pr, by rw [hp.1]; have := pn.few; omega, fun z => (by rw [alls] at z; cases z), fun _ => ⟨ns, hp, pn, fun _ => qE, fun _ z => absurd m (by omega)⟩⟩
    clear h
    rcases cases2 with ⟨n, hn, k, qE⟩ | ⟨a, xs, rs, rfl, hx, hd, hl, k1, k2⟩
    · exact q_when (b := true) (et_is (et_or (a := !false) (b := true) (et_not (et_B (ev_cb (ea_cons (ev_var rfl) (ea_cons ev_c ea_nil)) (rc_isi hn k)))) (fun c => by cases c)) rfl) (fun _ H1 e1 => qE H1 e1) (fun c => by cases c)
    have gv : given xs.length (fun _ => true) (fun i => V.bl (rs.getD i false)) = rs.map V.bl := by
      unfold given
      rw [List.filter_eq_self.mpr (fun _ _ => rfl), hd.len]
      refine List.ext_getElem (by simp) fun i h1 h2 => ?_
      rw [List.getElem_map, List.getElem_map, List.getElem_range, List.getD_eq_getElem?_getD, List.getElem?_eq_getElem (by simpa using h2)]
      rfl
    refine q_when (b := !rs.all id) (et_is (et_or (a := !true) (et_not (et_B (ev_cb (ea_cons (ev_var rfl) (ea_cons ev_c ea_nil)) (rc_isi (xt_lst hx) kl)))) fun _ => et_not (et_B (ev_allL (bs := rs) (el_is (el_lcL (fun _ => true) (fun i => V.bl (rs.getD i false)) (ev_var rfl) (SqL.of hx) (by omega) (fun _ => rfl) (fun _ _ _ _ _ => et_yes) fun i x H1 e1 hi _ => ?_) gv)))) rfl) (fun c H1 e1 => k1 (by simpa using c) H1 e1) fun c H1 e1 => ?_
    · obtain ⟨r, hr, hp⟩ := hd.at hi
      have : rs.getD i false = r := by rw [List.getD_eq_getElem?_getD, hr]; rfl
      rw [this]
      exact ev_call (sp := spIsPair K) (ea_cons (ev_var rfl) ea_nil) fun H2 e2 Q2 q2 E => ⟨x, r, rfl, hp.ex (e1.trans e2), fun H3 e3 => q2 H3 e3⟩
    obtain ⟨ns, hp, pn, kE, kQ⟩ := k2 (by simpa using c)
    have hx1 := e1 _ _ hx
    have hp1 := hp.ex e1
    have few := pn.few
    refine q_when (b := !(risL ns).all id) (et_not (et_B (ev_allL (bs := risL ns) (el_is (el_mapR2 (lo := 1) (hi := (xs.length : Int)) (fun i => V.bl (decide ((ns.getD i (0, 0)).1 < (ns.getD (i + 1) (0, 0)).1))) (ea_cons ev_c (ea_cons (ev_len (ev_var rfl) (SqL.of hx1)) ea_nil)) ⟨by decide, by decide, by rw [hp.1]; omega, by rw [hp.1]; omega⟩ (by rw [hp.1]; omega) (fun _ => rfl) fun i hi H2 e2 => ?_) ?_)))) (fun c H2 e2 => kE (.inl fun z => by rw [(risL_iff ns).mpr z] at c; cases c) H2 (e1.trans e2)) fun c H2 e2 => ?_
    · have hl := hp.1
      have i0 : i < ns.length := by omega
      have i1 : i + 1 < ns.length := by omega
      obtain ⟨t0, x0, h0⟩ := hp1.2 i _ (List.getElem?_eq_getElem i0)
      obtain ⟨t1, x1, h1⟩ := hp1.2 (i + 1) _ (List.getElem?_eq_getElem i1)
      refine ev_is (ev_op (ev_op (ev_op (ev_var rfl) (ev_op (ev_var rfl) ev_c rv_I0) (rv_ixL (SqL.of (e2 _ _ hx1)) (atI_of (k := i) (by omega) x0))) ev_c (rv_ixT (SqT.of (e2 _ _ h0)) (atI_nat (j := 0) rfl))) (ev_op (ev_op (ev_var rfl) (ev_var rfl) (rv_ixL (SqL.of (e2 _ _ hx1)) (atI_of (k := i + 1) (by omega) x1))) ev_c (rv_ixT (SqT.of (e2 _ _ h1)) (atI_nat (j := 0) rfl))) rv_I0) ?_
      rw [List.getD_eq_getElem?_getD, List.getD_eq_getElem?_getD, List.getElem?_eq_getElem i0, List.getElem?_eq_getElem i1]
      rfl
    · unfold risL
      rw [List.map_map, hp.1, show ((ns.length : Int) - 1).toNat = ns.length - 1 by omega]
      rfl
    have ris : Rise ns := (risL_iff ns).mp (by simpa using c)
    refine s_when (b := decide ((mny ns : Int) > 500)) (et_test (ev_op (ev_call (sp := spMany) (z := .int (mny ns : Int)) (ea_cons (ev_var rfl) ea_nil) fun H3 e3 Q3 q3 E => ⟨a, ns, rfl, ⟨xs, (e2.trans e3) _ _ hx1, hp1.ex (e2.trans e3)⟩, pn, q3 H3 (Ex.refl _)⟩) ev_c rv_I0)) (fun c H3 e3 => kE (.inr (by have := of_decide_eq_true c; omega)) H3 ((e1.trans e2).trans e3)) fun c H3 e3 => kQ ris (by have := of_decide_eq_false c; omega) H3 ((e1.trans e2).trans e3)
abbrev st_worth_of : Stmt := topS 18
abbrev nn_worth_of : List Str := ["number", "found", "prime", "often"]
abbrev pp_worth_of : List Str := ["number"]
theorem sc_worth_of : FnScope nn_worth_of pp_worth_of (defScope st_worth_of) := ⟨rfl, rfl, rfl, by decide +kernel, rfl, by decide +kernel, by decide +kernel⟩
def spWorth : Sp := fun vs H Q _ => ∃ (a : Addr) (ns : Nm), vs = [.ref a] ∧ NumAt H a ns ∧ Lo ns ∧ Q (.int (wth ns)) H
theorem ok_worth_of (T : Txt K mg) (D_worth_of : Df K mg "worth_of" st_worth_of pp_worth_of) (F_power_of : Fd P w K mg base CX0 "power_of" 1 pp_power_of spPow) : Fd P w K mg base CX0 "worth_of" 2 pp_worth_of spWorth := by
  refine D_worth_of.ok sc_worth_of (fun vs H Q E h => ?_) (fun f cdv A outer s H vs Q E hr h => ?_)
  · obtain ⟨a, ns, rfl, _⟩ := h; rfl
  · obtain ⟨a, ns, rfl, ⟨xs, hx, hp⟩, L, q⟩ := h
    refine ⟨_, (pss_cons (ps_set (i := 1) sc_worth_of.nd rfl (by first | exact Or.inl rfl | exact Or.inr rfl) pe_int) (pss_cons (ps_for PassesOwn.never rfl (pi_list (pv 0)) (pg_tup (by rfl) (pgs_cons (pg_name (i := 2) sc_worth_of.nd rfl (by first | exact Or.inl rfl | exact Or.inr rfl)) (pgs_cons (pg_name (i := 3) sc_worth_of.nd rfl (by first | exact Or.inl rfl | exact Or.inr rfl)) pgs_nil))) (pss_one (ps_aug (i := 1) sc_worth_of.nd rfl (by first | exact Or.inl rfl | exact Or.inr rfl) (pe_fd F_power_of hr (by decide) pass0 (pa_cons (pv 2) (pa_cons (pv 3) pa_nil))) iop_mulX))) (pss_one (ps_ret (pv 1))))), ?_⟩
    refine ⟨.ref a, rfl, a, rfl, ⟨_, SqL.of hx⟩, for_list (xs := xs) (fun i σ H' => ∃ y z, σ = [some (.ref a), some (.int (wth (ns.take i))), y, z] ∧ H' = H) ⟨none, none, rfl, rfl⟩ (fun i σ H' _ ⟨_, _, _, e⟩ => by rw [e]; exact SqL.of hx) ?_ ?_⟩
    · rintro i x σ H' hi ⟨y, z, rfl, rfl⟩
      obtain ⟨r, t, hq, rfl, ht⟩ := hp.at hi
      have l1 := L.low r (mem_get hq)
      have l2 := L.exp r (mem_get hq)
      obtain ⟨w1, w2⟩ := wth_lt (L.take i).low (L.take i).many
      have w3 : (2 : Int) ^ 4990 < 2 ^ 5000 := by
        have := two4990
        rw [two5000]
        omega
      obtain ⟨p1, p2⟩ := pow_lt (p := r.1) (by omega) l1.2 (e := r.2) (by omega)
      refine ⟨t, _, rfl, .inl (.inl ht), rfl, _, _, rfl, _, _, rfl, rfl, ?_⟩
      refine ⟨_, rfl, _, rfl, _, rfl, r.1, r.2, rfl, by omega, by omega, by omega, _, _, rfl, rfl, mulN (a := 5000) (b := 10001) (by omega) (by omega) (by omega) p2 (by decide), ?_⟩
      refine ⟨some (.int r.1), some (.int (r.2 : Int)), ?_, rfl⟩
      rw [take_get hq]
      unfold wth wthF
      rw [List.foldl_append]
      rfl
    · rintro σ H' ⟨y, z, rfl, rfl⟩
      refine ⟨_, rfl, ?_⟩
      rw [hp.1, List.take_length]
      exact q
/-! ### the answers -/
def AllAt (C : Addr) (H : Hp) (x : Addr) : Prop := ∃ dx, H x = some (.ins C dx [])
def BarAt (C : Addr) (H : Hp) (x : Addr) (n : Int) : Prop := ∃ dx, H x = some (.ins C dx [(("amount" : Str), .int n)])
theorem AllAt.ex {C : Addr} {H H' : Hp} {x : Addr} (e : Ex H H') (h : AllAt C H x) : AllAt C H' x := let ⟨dx, h⟩ := h; ⟨dx, e _ _ h⟩
theorem BarAt.ex {C : Addr} {H H' : Hp} {x : Addr} {n : Int} (e : Ex H H') (h : BarAt C H x n) : BarAt C H' x n := let ⟨dx, h⟩ := h; ⟨dx, e _ _ h⟩
abbrev st_Barred___init__ : Stmt := inClass (topS 27) 0
abbrev nn_Barred___init__ : List Str := ["self", "amount"]
abbrev pp_Barred___init__ : List Str := ["self", "amount"]
theorem sc_Barred___init__ : FnScope nn_Barred___init__ pp_Barred___init__ (defScope st_Barred___init__) := ⟨rfl, rfl, rfl, by decide +kernel, rfl, by decide +kernel, by decide +kernel⟩
def spInit (cBarred : Addr) : Sp := fun vs H Q _ => ∃ (x dx : Addr) (v : V), vs = [.ref x, v] ∧ H x = some (.ins cBarred dx []) ∧ Q .non (upd H x (.ins cBarred dx [(("amount" : Str), v)]))
theorem ok_Barred___init__ (T : Txt K mg) (C : Cs K mg cAll cBarred) (D_Barred___init__ : Di K cBarred "Barred.__init__" st_Barred___init__ pp_Barred___init__) : Fi P w K mg base CX0 cBarred 1 pp_Barred___init__ (spInit cBarred) := by
  refine D_Barred___init__.ok sc_Barred___init__ (fun vs H Q E h => ?_) (fun f cdv A outer s H vs Q E hr h => ?_)
  · obtain ⟨x, dx, v, rfl, _⟩ := h; rfl
  · obtain ⟨x, dx, v, rfl, hx, q⟩ := h
    refine ⟨_, (pss_one (ps_fld (pv 0) (pv 1) rfl)), ?_⟩
    exact ⟨_, rfl, .ref x, rfl, x, cBarred, dx, [], rfl, hx, C.lBarred, C.aBarred, by decide, q⟩
/-- a new instance leaves all as it was -/
theorem ex_made {H : Hp} {x dx C : Addr} {o : HO} (nx : H x = none) (nd : H dx = none) (ne : dx ≠ x) : Ex H (upd (upd (upd H dx (.own x)) x (.ins C dx [])) x o) :=
  Ex.mut ((Ex.new nd).trans (Ex.new (by rw [upd_ne ne.symm]; exact nx))) nx
/-! ### the doors -/
theorem ev_checkOk {σ : L2.St} {H : Hp} {te : TE} {E : L2.St → XK} {ns : Nm} (h : EvN te σ H ns) (ok : Ok ns) : Evl.Ev (tCallS (spCheck K cBadNumber) E (tCons te tNil)) σ H .non := fun H1 e Q q =>
  h H1 e _ fun a H2 e2 hn => ⟨.ref a, rfl, .inl ⟨a, ns, rfl, hn, ok, fun H3 e3 => q H3 (e2.trans e3)⟩⟩
abbrev st_worth : Stmt := topS 19
abbrev nn_worth : List Str := ["number"]
abbrev pp_worth : List Str := ["number"]
theorem sc_worth : FnScope nn_worth pp_worth (defScope st_worth) := ⟨rfl, rfl, rfl, by decide +kernel, rfl, by decide +kernel, by decide +kernel⟩
def spWorthX (K : PySem.W.Frag) (cBadNumber : Addr) : Sp := fun vs H Q E => ∃ x : V, vs = [x] ∧ ((∃ (a : Addr) (ns : Nm), x = .ref a ∧ NumAt H a ns ∧ Ok ns ∧ ∀ H', Ex H H' → Q (.int (wth ns)) H') ∨ (BadAt K H x ∧ ∀ H', Ex H H' → E (.ref cBadNumber) none H'))
theorem ok_worth (T : Txt K mg) (XC : Xs K mg cSumError cBadNumber cBadSum cNotAll cTooMany) (D_worth : Df K mg "worth" st_worth pp_worth) (F_check_number : Fd P w K mg base (L2N.CX P w) "check_number" 4 pp_check_number (spCheck K cBadNumber)) (F_worth_of : Fd P w K mg base CX0 "worth_of" 2 pp_worth_of spWorth) : Fd P w K mg base (L2N.CX P w) "worth" 5 pp_worth (spWorthX K cBadNumber) := by
  refine D_worth.okX sc_worth (fun vs H Q E h => ?_) (fun f cdv A outer s H vs Q E hr h => ?_)
  · obtain ⟨x, rfl, _⟩ := h; rfl
  · obtain ⟨x, rfl, h⟩ := h
    refine ⟨_, (pss_cons (ps_expr (pe_fdS F_check_number hr (by decide) (fun σ => L2N.passAt (L2N.takes_of rfl rfl rfl rfl) σ) (pa_cons (pv 0) pa_nil))) (PSs.nox (pss_one (ps_ret (pe_fd F_worth_of hr (by decide) pass0 (pa_cons (pv 0) pa_nil)))))), ?_⟩
    rcases h with ⟨a, ns, rfl, hn, okn, q⟩ | ⟨hb, qE⟩
    · exact ⟨_, rfl, .ref a, rfl, .inl ⟨a, ns, rfl, hn, okn, fun H1 e1 => ⟨_, rfl, a, ns, rfl, hn.ex e1, okLo okn, q H1 e1⟩⟩⟩
    · exact ⟨_, rfl, x, rfl, .inr ⟨hb, fun H1 e1 => qE H1 e1⟩⟩
abbrev st_total : Stmt := topS 21
abbrev nn_total : List Str := ["number"]
abbrev pp_total : List Str := ["number"]
theorem sc_total : FnScope nn_total pp_total (defScope st_total) := ⟨rfl, rfl, rfl, by decide +kernel, rfl, by decide +kernel, by decide +kernel⟩
def spTotalX (K : PySem.W.Frag) (cBadNumber : Addr) : Sp := fun vs H Q E => ∃ x : V, vs = [x] ∧ ((∃ (a : Addr) (ns : Nm), x = .ref a ∧ NumAt H a ns ∧ Ok ns ∧ ∀ H', Ex H H' → Q (.int (tot ns)) H') ∨ (BadAt K H x ∧ ∀ H', Ex H H' → E (.ref cBadNumber) none H'))
theorem ok_total (T : Txt K mg) (XC : Xs K mg cSumError cBadNumber cBadSum cNotAll cTooMany) (D_total : Df K mg "total" st_total pp_total) (F_check_number : Fd P w K mg base (L2N.CX P w) "check_number" 4 pp_check_number (spCheck K cBadNumber)) (F_total_of : Fd P w K mg base CX0 "total_of" 2 pp_total_of spTotal) : Fd P w K mg base (L2N.CX P w) "total" 5 pp_total (spTotalX K cBadNumber) := by
  refine D_total.okX sc_total (fun vs H Q E h => ?_) (fun f cdv A outer s H vs Q E hr h => ?_)
  · obtain ⟨x, rfl, _⟩ := h; rfl
  · obtain ⟨x, rfl, h⟩ := h
    refine ⟨_, (pss_cons (ps_expr (pe_fdS F_check_number hr (by decide) (fun σ => L2N.passAt (L2N.takes_of rfl rfl rfl rfl) σ) (pa_cons (pv 0) pa_nil))) (PSs.nox (pss_one (ps_ret (pe_fd F_total_of hr (by decide) pass0 (pa_cons (pv 0) pa_nil)))))), ?_⟩
    rcases h with ⟨a, ns, rfl, hn, okn, q⟩ | ⟨hb, qE⟩
    · exact ⟨_, rfl, .ref a, rfl, .inl ⟨a, ns, rfl, hn, okn, fun H1 e1 => ⟨_, rfl, a, ns, rfl, hn.ex e1, okLo okn, q H1 e1⟩⟩⟩
    · exact ⟨_, rfl, x, rfl, .inr ⟨hb, fun H1 e1 => qE H1 e1⟩⟩
abbrev st_divisors : Stmt := topS 16
abbrev nn_divisors : List Str := ["number"]
abbrev pp_divisors : List Str := ["number"]
theorem sc_divisors : FnScope nn_divisors pp_divisors (defScope st_divisors) := ⟨rfl, rfl, rfl, by decide +kernel, rfl, by decide +kernel, by decide +kernel⟩
def spDivisorsX (K : PySem.W.Frag) (cBadNumber : Addr) : Sp := fun vs H Q E => ∃ x : V, vs = [x] ∧ ((∃ (a : Addr) (ns : Nm), x = .ref a ∧ NumAt H a ns ∧ Ok ns ∧ ∀ p H', Ex H H' → H p = none → IntsAt H' p (divs ns) → Q (.ref p) H') ∨ (BadAt K H x ∧ ∀ H', Ex H H' → E (.ref cBadNumber) none H'))
theorem ok_divisors (T : Txt K mg) (XC : Xs K mg cSumError cBadNumber cBadSum cNotAll cTooMany) (D_divisors : Df K mg "divisors" st_divisors pp_divisors) (F_check_number : Fd P w K mg base (L2N.CX P w) "check_number" 4 pp_check_number (spCheck K cBadNumber)) (F_divisors_of : Fd P w K mg base CX0 "divisors_of" 1 pp_divisors_of spDivs) : Fd P w K mg base (L2N.CX P w) "divisors" 5 pp_divisors (spDivisorsX K cBadNumber) := by
  refine D_divisors.okX sc_divisors (fun vs H Q E h => ?_) (fun f cdv A outer s H vs Q E hr h => ?_)
  · obtain ⟨x, rfl, _⟩ := h; rfl
  · obtain ⟨x, rfl, h⟩ := h
    refine ⟨_, (pss_cons (ps_expr (pe_fdS F_check_number hr (by decide) (fun σ => L2N.passAt (L2N.takes_of rfl rfl rfl rfl) σ) (pa_cons (pv 0) pa_nil))) (PSs.nox (pss_one (ps_ret (pe_fd F_divisors_of hr (by decide) pass0 (pa_cons (pv 0) pa_nil)))))), ?_⟩
    rcases h with ⟨a, ns, rfl, hn, okn, q⟩ | ⟨hb, qE⟩
    · exact ⟨_, rfl, .ref a, rfl, .inl ⟨a, ns, rfl, hn, okn, fun H1 e1 => ⟨_, rfl, a, ns, rfl, hn.ex e1, okLo okn, fun p H2 e2 np hp => q p H2 (e1.trans e2) (fresh_back e1 np) hp⟩⟩⟩
    · exact ⟨_, rfl, x, rfl, .inr ⟨hb, fun H1 e1 => qE H1 e1⟩⟩
abbrev st_told : Stmt := topS 29
abbrev nn_told : List Str := ["number", "bar"]
abbrev pp_told : List Str := ["number"]
theorem sc_told : FnScope nn_told pp_told (defScope st_told) := ⟨rfl, rfl, rfl, by decide +kernel, rfl, by decide +kernel, by decide +kernel⟩
def spToldX (K : PySem.W.Frag) (cBadNumber : Addr) : Sp := fun vs H Q E => ∃ x : V, vs = [x] ∧ BadAt K H x ∧ ∀ H', Ex H H' → E (.ref cBadNumber) none H'
theorem ok_told (T : Txt K mg) (C : Cs K mg cAll cBarred) (XC : Xs K mg cSumError cBadNumber cBadSum cNotAll cTooMany) (D_told : Df K mg "told" st_told pp_told) (F_check_number : Fd P w K mg base (L2N.CX P w) "check_number" 4 pp_check_number (spCheck K cBadNumber)) (F_bar_of : Fd P w K mg base CX0 "bar_of" 3 pp_bar_of spBar) (F_Barred___init__ : Fi P w K mg base CX0 cBarred 1 pp_Barred___init__ (spInit cBarred)) : Fd P w K mg base (L2N.CX P w) "told" 5 pp_told (spToldX K cBadNumber) := by
  refine D_told.okX sc_told (fun vs H Q E h => ?_) (fun f cdv A outer s H vs Q E hr h => ?_)
  · obtain ⟨x, rfl, _⟩ := h; rfl
  · obtain ⟨x, rfl, hb, qE⟩ := h
    refine ⟨_, (pss_cons (ps_expr (pe_fdS F_check_number hr (by decide) (fun σ => L2N.passAt (L2N.takes_of rfl rfl rfl rfl) σ) (pa_cons (pv 0) pa_nil))) (PSs.nox (pss_cons (ps_set (i := 1) sc_told.nd rfl (by first | exact Or.inl rfl | exact Or.inr rfl) (pe_fd F_bar_of hr (by decide) pass0 (pa_cons (pv 0) pa_nil))) (pss_one (ps_ret (pe_ifExp (pt_cmpR op_gt (pv 1) pe_int (nomark _)) (pe_mkF F_Barred___init__ hr (by decide) (by rfl) C.gBarred pass0 (pa_cons (pv 1) pa_nil)) (pe_makeN C.nAll (by rfl) C.gAll))))))), ?_⟩
    exact ⟨_, rfl, x, rfl, .inr ⟨hb, fun H1 e1 => qE H1 e1⟩⟩
abbrev st_made : Stmt := topS 30
abbrev nn_made : List Str := ["number", "amount", "found", "left", "one"]
abbrev pp_made : List Str := ["number", "amount"]
theorem sc_made : FnScope nn_made pp_made (defScope st_made) := ⟨rfl, rfl, rfl, by decide +kernel, rfl, by decide +kernel, by decide +kernel⟩
/-- no sum of the number -/
def BadAmt (K : PySem.W.Frag) (H : Hp) (ns : Nm) (y : V) : Prop := NoInt K H y ∨ ∃ i : Int, y = .int i ∧ (i < 0 ∨ tot ns < i)
theorem BadAmt.ex {H H' : Hp} {ns : Nm} {y : V} (e : Ex H H') (h : BadAmt K H ns y) : BadAmt K H' ns y := h.elim (fun h => .inl (h.ex e)) .inr
def spMadeX (K : PySem.W.Frag) (cBadNumber cBadSum cNotAll : Addr) : Sp := fun vs H Q E => ∃ x y : V, vs = [x, y] ∧ ((BadAt K H x ∧ ∀ H', Ex H H' → E (.ref cBadNumber) none H') ∨ (∃ (a : Addr) (ns : Nm), x = .ref a ∧ NumAt H a ns ∧ Ok ns ∧
  ((BadAmt K H ns y ∧ ∀ H', Ex H H' → E (.ref cBadSum) none H') ∨ ∃ i : Int, y = .int i ∧ 0 ≤ i ∧ i ≤ tot ns ∧ bar ns ≠ 0 ∧ ∀ H', Ex H H' → E (.ref cNotAll) none H')))
theorem ok_made (T : Txt K mg) (XC : Xs K mg cSumError cBadNumber cBadSum cNotAll cTooMany) (D_made : Df K mg "made" st_made pp_made) (F_check_number : Fd P w K mg base (L2N.CX P w) "check_number" 4 pp_check_number (spCheck K cBadNumber)) (F_is_whole : Fd P w K mg base CX0 "is_whole" 1 pp_is_whole (spWhole K)) (F_total_of : Fd P w K mg base CX0 "total_of" 2 pp_total_of spTotal)
    (F_bar_of : Fd P w K mg base CX0 "bar_of" 3 pp_bar_of spBar) (F_divisors_of : Fd P w K mg base CX0 "divisors_of" 1 pp_divisors_of spDivs) : Fd P w K mg base (L2N.CX P w) "made" 5 pp_made (spMadeX K cBadNumber cBadSum cNotAll) := by
  refine D_made.okX sc_made (fun vs H Q E h => ?_) (fun f cdv A outer s H vs Q E hr h => ?_)
  · obtain ⟨x, y, rfl, _⟩ := h; rfl
  · obtain ⟨x, y, rfl, h⟩ := h
    refine ⟨_, (pss_cons (ps_expr (pe_fdS F_check_number hr (by decide) (fun σ => L2N.passAt (L2N.takes_of rfl rfl rfl rfl) σ) (pa_cons (pv 0) pa_nil))) (pss_cons (ps_if (PW.pt (pw_or (pt_not (pt_val (pe_fd F_is_whole hr (by decide) pass0 (pa_cons (pv 1) pa_nil)))) (pw_or1 (pt_not (pt_chain op_le op_le pe_int (pv 1) (pe_fd F_total_of hr (by decide) pass0 (pa_cons (pv 0) pa_nil))))))) (pss_one (L2N.ps_raise rfl (L2N.takes_of rfl rfl rfl rfl) (L2N.pmk_own PySem.F.excBase_ValueError XC.xBadSum.ex XC.gBadSum XC.xBadSum.kp (raises_own XC.xBadSum.is.hs XC.xBadSum.ty) rfl))) pss_nil) (pss_cons (ps_if (pt_cmpR op_gt (pe_fd F_bar_of hr (by decide) pass0 (pa_cons (pv 0) pa_nil)) pe_int (nomark _)) (pss_one (L2N.ps_raise rfl (L2N.takes_of rfl rfl rfl rfl) (L2N.pmk_own PySem.F.excBase_ValueError XC.xNotAll.ex XC.gNotAll XC.xNotAll.kp (raises_own XC.xNotAll.is.hs XC.xNotAll.ty) rfl))) pss_nil) (PSs.nox (pss_cons (ps_set (i := 2) sc_made.nd rfl (by first | exact Or.inl rfl | exact Or.inr rfl) (pe_lst pa_nil)) (pss_cons (ps_set (i := 3) sc_made.nd rfl (by first | exact Or.inl rfl | exact Or.inr rfl) (pv 1)) (pss_cons (PS_nox (ps_for PassesOwn.never rfl (pi_list (pe_revE (K := K) (pe_fd F_divisors_of hr (by decide) pass0 (pa_cons (pv 0) pa_nil)))) (pg_name (i := 4) sc_made.nd rfl (by first | exact Or.inl rfl | exact Or.inr rfl)) (pss_one (ps_if (pt_cmpR op_le (pv 4) (pv 3) (nomark _)) (pss_cons (ps_expr (pe_bm PySem.F.plainAttrs_list PySem.F.slot_list_append PySem.F.type_list_append mt_append (pv 2) (pa_cons (pv 4) pa_nil))) (pss_one (ps_aug (i := 3) sc_made.nd rfl (by first | exact Or.inl rfl | exact Or.inr rfl) (pv 4) ip_sub))) pss_nil)))) (pss_one (ps_ret (pe_revE (K := K) (pv 2))))))))))), ?_⟩
    rcases h with ⟨hb, qE⟩ | ⟨a, ns, rfl, hn, okn, h⟩
    · exact ⟨_, rfl, x, rfl, .inr ⟨hb, fun H1 e1 => qE H1 e1⟩⟩
    refine q_drop (ev_checkOk (en_var rfl hn) okn) fun H1 e1 => ?_
    have L := okLo okn
    have ct : ∀ {σ : L2.St} {te : TE} {H1 : Hp}, EvN te σ H1 ns → Evl.Ev (tCall spTotal [] E0 (tCons te tNil)) σ H1 (.int (tot ns)) := fun h H2 e2 Q q => h H2 e2 _ fun a H3 e3 hn => ⟨a, ns, rfl, hn, L, q H3 e3⟩
    rcases h with ⟨hb, qE⟩ | ⟨i, rfl, i0, i1, nb, qE⟩
    · rcases hb with hb | ⟨i, rfl, hi⟩
      · exact q_when (b := true) (et_is (et_or (a := !false) (b := true) (et_not (et_B (ev_call (sp := spWhole K) (ea_cons (ev_var rfl) ea_nil) (sv_wholeNo (hb.ex e1))))) (fun c => by cases c)) rfl) (fun _ H2 e2 => qE H2 (e1.trans e2)) (fun c => by cases c)
      · refine q_when (b := !(decide (0 ≤ i) && decide (i ≤ tot ns))) (et_is (et_or (a := !true) (et_not (et_B (ev_call (sp := spWhole K) (ea_cons (ev_var rfl) ea_nil) sv_wholeInt))) fun _ => et_not (et_test (ev_chain (k1 := decide (0 ≤ i)) (k2 := decide (i ≤ tot ns)) ev_c (ev_var rfl) rv_I0 (fun _ => ct (en_var rfl (hn.ex e1))) (fun _ => rv_I0)))) rfl) (fun c H2 e2 => qE H2 (e1.trans e2)) (fun c => ?_)
        exfalso
        have c2 : (decide (0 ≤ i) && decide (i ≤ tot ns)) = true := by simpa using c
        rw [Bool.and_eq_true] at c2
        have := of_decide_eq_true c2.1
        have := of_decide_eq_true c2.2
        omega
    · refine q_when (b := !(decide (0 ≤ i) && decide (i ≤ tot ns))) (et_is (et_or (a := !true) (et_not (et_B (ev_call (sp := spWhole K) (ea_cons (ev_var rfl) ea_nil) sv_wholeInt))) fun _ => et_not (et_test (ev_chain (k1 := decide (0 ≤ i)) (k2 := decide (i ≤ tot ns)) ev_c (ev_var rfl) rv_I0 (fun _ => ct (en_var rfl (hn.ex e1))) (fun _ => rv_I0)))) rfl) (fun c => by rw [decide_eq_true i0, decide_eq_true i1] at c; cases c) fun c H2 e2 => ?_
      refine ⟨_, rfl, a, ns, rfl, hn.ex (e1.trans e2), L, fun H3 e3 => ⟨_, _, rfl, rfl, _, rfl, ite2 (fun c => ?_) (fun c => ?_)⟩⟩
      · exact qE H3 ((e1.trans e2).trans e3)
      · have := bar_nn okn
        exact absurd (decide_eq_true (show bar ns > 0 by omega)) c
/-! ### joined, refused -/
theorem jmany {n o : Nm} (hn : Ok n) (ho : Ok o) : mny (jn n o) ≤ 250000 := Nat.le_trans (jn_mny n o) (Nat.mul_le_mul hn.many ho.many)
section
variable {σ : L2.St} {H : Hp} {td ty : TE}
theorem ev_dget {a : Addr} {d : Nm} {x : Int} (h : Evl.Ev td σ H (.ref a)) (hx : Evl.Ev ty σ H (.int x)) (hd : H a = some (.dK (emb d))) (m : x ∈ d.map (·.1)) : Evl.Ev (tDGet td ty) σ H (.int (dget d x : Int)) := fun H1 e Q q =>
  h H1 e _ fun H2 e2 => hx H2 (e.trans e2) _ fun H3 e3 => ⟨a, _, rfl, by rw [← emb_there m]; exact DGet.k (k := Sum.inl x) (((e.trans e2).trans e3) _ _ hd), q H3 (e2.trans e3)⟩
end
theorem join_step {n : Nm} {i : Nat} {r : Int × Nat} (h : n[i]? = some r) : joinF [] (n.take (i + 1)) = addK (joinF [] (n.take i)) r.1 r.2 := by
  rw [take_get h, joinF_app]
  rfl
abbrev st_joined : Stmt := topS 22
abbrev nn_joined : List Str := ["one", "other", "both", "prime", "often", "found"]
abbrev pp_joined : List Str := ["one", "other"]
theorem sc_joined : FnScope nn_joined pp_joined (defScope st_joined) := ⟨rfl, rfl, rfl, by decide +kernel, rfl, by decide +kernel, by decide +kernel⟩
def spJoinX (K : PySem.W.Frag) (cBadNumber cTooMany : Addr) : Sp := fun vs H Q E => ∃ x y : V, vs = [x, y] ∧ ((BadAt K H x ∧ ∀ H', Ex H H' → E (.ref cBadNumber) none H') ∨ (∃ (a : Addr) (n : Nm), x = .ref a ∧ NumAt H a n ∧ Ok n ∧
  ((BadAt K H y ∧ ∀ H', Ex H H' → E (.ref cBadNumber) none H') ∨ ∃ (b : Addr) (o : Nm), y = .ref b ∧ NumAt H b o ∧ Ok o ∧ Pairy (jn n o) ∧ 500 < mny (jn n o) ∧ ∀ H', Ex H H' → E (.ref cTooMany) none H')))
theorem ok_joined (T : Txt K mg) (XC : Xs K mg cSumError cBadNumber cBadSum cNotAll cTooMany) (D_joined : Df K mg "joined" st_joined pp_joined) (F_check_number : Fd P w K mg base (L2N.CX P w) "check_number" 4 pp_check_number (spCheck K cBadNumber)) (F_many_of : Fd P w K mg base CX0 "many_of" 1 pp_many_of spMany) : Fd P w K mg base (L2N.CX P w) "joined" 5 pp_joined (spJoinX K cBadNumber cTooMany) := by
  refine D_joined.okX sc_joined (fun vs H Q E h => ?_) (fun f cdv A outer s H vs Q E hr h => ?_)
  · obtain ⟨x, y, rfl, _⟩ := h; rfl
  · obtain ⟨x, y, rfl, h⟩ := h
    obtain ⟨tM, gMOST⟩ := T.gMOST
    refine ⟨_, (pss_cons (ps_expr (pe_fdS F_check_number hr (by decide) (fun σ => L2N.passAt (L2N.takes_of rfl rfl rfl rfl) σ) (pa_cons (pv 0) pa_nil))) (pss_cons (ps_expr (pe_fdS F_check_number hr (by decide) (fun σ => L2N.passAt (L2N.takes_of rfl rfl rfl rfl) σ) (pa_cons (pv 1) pa_nil))) (pss_cons (ps_set (i := 2) sc_joined.nd rfl (by first | exact Or.inl rfl | exact Or.inr rfl) pe_dnewK) (pss_cons (PS_nox (ps_for PassesOwn.never rfl (pi_list (pe_op op_cat (pv 0) (pv 1))) (pg_tup (by rfl) (pgs_cons (pg_name (i := 3) sc_joined.nd rfl (by first | exact Or.inl rfl | exact Or.inr rfl)) (pgs_cons (pg_name (i := 4) sc_joined.nd rfl (by first | exact Or.inl rfl | exact Or.inr rfl)) pgs_nil))) (pss_one (ps_dput (hu_of hr) (pv 2) (pv 3) (pe_op op_add (pe_dget2 (hu_of hr) (pv 2) (pv 3) pe_int ⟨by rfl, by rfl, by rfl, by rfl⟩) (pv 4)) rfl)))) (pss_cons (ps_setLc (i := 5) (own := [("prime", 3)]) (g := gName 3) (by rfl) sc_joined.nd rfl rfl (sw_true rfl rfl rfl (by decide +kernel)) (pi_list (pe_callB (cr_sortedDI rfl) (by rfl) T.b_sorted (by decide +kernel) (pa_cons (pv 2) pa_nil))) (blkOk_by (own := [("prime", 3)]) (N := nn_joined) (sc := defScope st_joined) (by decide +kernel)) (fun _ _ _ _ _ => pg_name (i := 3) sc_joined.nd rfl (Or.inl rfl)) (fun _ _ _ _ _ => pts_nil) (fun _ _ _ _ _ => (pe_tup (pa_cons (pv 3) (pa_cons (pe_dget (hu_of hr) (pv 2) (pv 3) (fun _ _ => rfl)) pa_nil))))) (pss_cons (ps_if (pt_cmpR op_gt (pe_fd F_many_of hr (by decide) pass0 (pa_cons (pv 5) pa_nil)) (pe_glob (v := .int 500) (by rfl) gMOST ⟨_, rfl⟩) (nomark _)) (pss_one (L2N.ps_raise rfl (L2N.takes_of rfl rfl rfl rfl) (L2N.pmk_own PySem.F.excBase_ValueError XC.xTooMany.ex XC.gTooMany XC.xTooMany.kp (raises_own XC.xTooMany.is.hs XC.xTooMany.ty) rfl))) pss_nil) (PSs.nox (pss_one (ps_ret (pv 5)))))))))), ?_⟩
    rcases h with ⟨hb, qE⟩ | ⟨a, n, rfl, hn, okn, h⟩
    · exact ⟨_, rfl, x, rfl, .inr ⟨hb, fun H1 e1 => qE H1 e1⟩⟩
    refine q_drop (ev_checkOk (en_var rfl hn) okn) fun H1 e1 => ?_
    rcases h with ⟨hb, qE⟩ | ⟨b, o, rfl, ho, oko, pj, mj, qE⟩
    · exact ⟨_, rfl, y, rfl, .inr ⟨hb.ex e1, fun H2 e2 => qE H2 (e1.trans e2)⟩⟩
    refine q_drop (ev_checkOk (en_var rfl (ho.ex e1)) oko) fun H2 e2 => ?_
    have ln := okn.len
    have lo := oko.len
    have lno : (n ++ o).length ≤ 16 := by rw [List.length_append]; omega
    obtain ⟨xs, hx, hpx⟩ := hn.ex (e1.trans e2)
    obtain ⟨ys, hy, hpy⟩ := (ho.ex e1).ex e2
    intro dk ndk
    have e3 : Ex H2 (upd H2 dk (.dK [])) := Ex.new ndk
    have hdk : (upd H2 dk (.dK [])) dk = some (.dK (emb [])) := upd_same
    revert e3 hdk
    generalize upd H2 dk (.dK []) = H3
    intro e3 hdk
    have pall := hpx.append hpy
    refine q_forNL (xs := xs ++ ys) (el_catVV (ev_var rfl) (e3 _ _ hx) (ev_var rfl) (e3 _ _ hy) (by rw [hpx.1, hpy.1]; omega)) (fun r i σ H' => ∃ y3 y4, σ = [some (.ref a), some (.ref b), some (.ref dk), y3, y4, none] ∧ Ex H2 H' ∧ H' r = some (.lst (xs ++ ys)) ∧ H' dk = some (.dK (emb (joinF [] ((n ++ o).take i))))) (fun r H4 nr e4 hr => ⟨none, none, rfl, e3.trans e4, hr, e4 _ _ hdk⟩) (fun r i σ H' _ ⟨_, _, _, _, z, _⟩ => SqL.of z) ?_ ?_
    · rintro r i x σ H' hi ⟨y3, y4, rfl, e4, hr, hd⟩
      obtain ⟨z, t, hq, rfl, ht⟩ := pall.at hi
      refine ⟨t, _, rfl, .inl (.inl (e4 _ _ ht)), rfl, _, _, rfl, _, _, rfl, rfl, ?_⟩
      refine ⟨_, rfl, dk, rfl, .inl ⟨_, .inl hd⟩, _, rfl, _, DGet.k (k := Sum.inl z.1) hd, _, rfl, ((dget (joinF [] ((n ++ o).take i)) z.1 : Nat) : Int), (z.2 : Int), emb_get _ _, rfl, ?_⟩
      refine ⟨_, rfl, _, rfl, dk, _, rfl, DPut.k (k := Sum.inl z.1) hd (Nat.lt_of_le_of_lt (show (emb (joinF [] ((n ++ o).take i))).length ≤ 16 by
        have := joinF_len ((n ++ o).take i) []
        have zz : ([] : Nm).length = 0 := rfl
        have l := List.length_take (i := i) (l := n ++ o)
        unfold emb
        rw [List.length_map]
        omega) (by decide)), ?_⟩
      rw [emb_put _ _ _ (joinF_nodup _ [] List.nodup_nil), ← join_step hq]
      have rd : r ≠ dk := ne_of hr hd (by intro z; cases z)
      exact ⟨_, _, rfl, Ex.mut e4 ndk, by rw [upd_ne rd]; exact hr, upd_same⟩
    rintro r σ H' ⟨y3, y4, rfl, e4, hr, hd⟩
    rw [List.take_of_length_le (by rw [← pall.1]; exact Nat.le_refl _)] at hd
    refine q_asgF (ef_lcPairs (l := keysS (both n o)) (g := dget (both n o)) (el_sortedD (ev_var rfl) hd (by have := jn_len okn oko; omega)) (by have := (keysS_perm (both n o)).length_eq; have := jn_len okn oko; rw [List.length_map] at *; omega) (fun _ => rfl) fun x hx H5 e5 => eu_tup (ea_cons (ev_var rfl) (ea_cons (ev_dget (ev_var rfl) (ev_var rfl) (e5 _ _ hd) ((keysS_perm _).mem_iff.mp hx)) ea_nil)) (by show 2 ≤ 100000; decide)) fun fa H5 nfa e5 hf => ?_
    have hf : NumAt H5 fa (jn n o) := hf
    have e15 := ((e1.trans e2).trans e4).trans e5
    refine q_when (b := decide ((mny (jn n o) : Int) > 500)) (et_test (ev_op (ev_call (sp := spMany) (z := .int (mny (jn n o) : Int)) (ea_cons (ev_var rfl) ea_nil) fun H6 e6 Q3 q3 E => ⟨fa, jn n o, rfl, hf.ex e6, pj, q3 H6 (Ex.refl _)⟩) ev_c rv_I0)) (fun c H6 e6 => qE H6 (e15.trans e6)) fun c H6 e6 => ?_
    exact absurd mj (by have := of_decide_eq_false c; omega)
/-! ### what is asked -/
section
variable {σ : L2.St} {H : Hp} {t : TT} {ta tb te : TE}
/-- never comes back -/
def Evr (te : TE) (σ : L2.St) (H : Hp) : Prop := ∀ H1, Ex H H1 → ∀ Q : VK, te σ H1 Q
theorem er_ifX {b : Bool} (h : EvT t σ H b) (h1 : Evr ta σ H) (h2 : Evr tb σ H) : Evr (tIf t ta tb) σ H := fun H1 e Q =>
  h H1 e _ fun H2 e2 => by
    cases b with
    | true => exact iteT (h1 H2 (e.trans e2) Q)
    | false => exact iteF (h2 H2 (e.trans e2) Q)
theorem s_retX {D : Ends} (h : Evr te σ H) : tRet te D σ H := h H (Ex.refl H) _
end
abbrev st__law_with_number : Stmt := topS 39
abbrev nn__law_with_number : List Str := ["_law_door", "_law_number_here"]
abbrev pp__law_with_number : List Str := ["_law_door", "_law_number_here"]
theorem sc__law_with_number : FnScope nn__law_with_number pp__law_with_number (defScope st__law_with_number) := ⟨rfl, rfl, rfl, by decide +kernel, rfl, by decide +kernel, by decide +kernel⟩
def spWithN (K : PySem.W.Frag) (cBadNumber : Addr) : Sp := fun vs H Q E => ∃ (d : Int) (x : V), vs = [.int d, x] ∧ BadAt K H x ∧ ∀ H', Ex H H' → E (.ref cBadNumber) none H'
theorem ok__law_with_number (T : Txt K mg) (D__law_with_number : Df K mg "_law_with_number" st__law_with_number pp__law_with_number) (F_worth : Fd P w K mg base (L2N.CX P w) "worth" 5 pp_worth (spWorthX K cBadNumber)) (F_total : Fd P w K mg base (L2N.CX P w) "total" 5 pp_total (spTotalX K cBadNumber)) (F_divisors : Fd P w K mg base (L2N.CX P w) "divisors" 5 pp_divisors (spDivisorsX K cBadNumber))
    (F_told : Fd P w K mg base (L2N.CX P w) "told" 5 pp_told (spToldX K cBadNumber)) (F_made : Fd P w K mg base (L2N.CX P w) "made" 5 pp_made (spMadeX K cBadNumber cBadSum cNotAll)) (F_joined : Fd P w K mg base (L2N.CX P w) "joined" 5 pp_joined (spJoinX K cBadNumber cTooMany)) : Fd P w K mg base (L2N.CX P w) "_law_with_number" 6 pp__law_with_number (spWithN K cBadNumber) := by
  refine D__law_with_number.okX sc__law_with_number (fun vs H Q E h => ?_) (fun f cdv A outer s H vs Q E hr h => ?_)
  · obtain ⟨d, x, rfl, _⟩ := h; rfl
  · obtain ⟨d, x, rfl, hb, qE⟩ := h
    refine ⟨_, (pss_cons (ps_if (pt_cmpR op_lt (pv 0) pe_int (nomark _)) (pss_one (ps_ret (pe_ifExp (pt_cmpR op_eq (pv 0) pe_int (nomark _)) (pe_fdS F_worth hr (by decide) (fun σ => L2N.passAt (L2N.takes_of rfl rfl rfl rfl) σ) (pa_cons (pv 1) pa_nil)) (pe_ifExp (pt_cmpR op_eq (pv 0) pe_int (nomark _)) (pe_fdS F_total hr (by decide) (fun σ => L2N.passAt (L2N.takes_of rfl rfl rfl rfl) σ) (pa_cons (pv 1) pa_nil)) (pe_fdS F_divisors hr (by decide) (fun σ => L2N.passAt (L2N.takes_of rfl rfl rfl rfl) σ) (pa_cons (pv 1) pa_nil)))))) pss_nil) (pss_cons (ps_if (pt_cmpR op_lt (pv 0) pe_int (nomark _)) (pss_one (ps_ret (pe_ifExp (pt_cmpR op_eq (pv 0) pe_int (nomark _)) (pe_fdS F_told hr (by decide) (fun σ => L2N.passAt (L2N.takes_of rfl rfl rfl rfl) σ) (pa_cons (pv 1) pa_nil)) (pe_fdS F_made hr (by decide) (fun σ => L2N.passAt (L2N.takes_of rfl rfl rfl rfl) σ) (pa_cons (pv 1) (pa_cons (pe_un un_neg pe_int) pa_nil)))))) pss_nil) (pss_one (ps_ret (pe_ifExp (pt_cmpR op_eq (pv 0) pe_int (nomark _)) (pe_fdS F_joined hr (by decide) (fun σ => L2N.passAt (L2N.takes_of rfl rfl rfl rfl) σ) (pa_cons (pv 1) (pa_cons (pe_lst (pa_cons (pe_tup (pa_cons pe_int (pa_cons pe_int pa_nil))) pa_nil)) pa_nil))) (pe_fdS F_joined hr (by decide) (fun σ => L2N.passAt (L2N.takes_of rfl rfl rfl rfl) σ) (pa_cons (pe_lst (pa_cons (pe_tup (pa_cons pe_int (pa_cons pe_int pa_nil))) pa_nil)) (pa_cons (pv 1) pa_nil)))))))), ?_⟩
    have okG : Ok [(2, 499)] := okB_ok (by decide +kernel)
    refine q_when (b := decide (d < 3)) (et_test (ev_op (ev_var rfl) ev_c rv_I0)) (fun _ H1 e1 => s_retX (er_ifX (et_test (ev_op (ev_var rfl) ev_c (rv_eq rfl))) (fun H2 e2 Q2 => ⟨_, rfl, x, rfl, .inr ⟨hb.ex (e1.trans e2), fun H3 e3 => qE H3 ((e1.trans e2).trans e3)⟩⟩) (er_ifX (et_test (ev_op (ev_var rfl) ev_c (rv_eq rfl)))
      (fun H2 e2 Q2 => ⟨_, rfl, x, rfl, .inr ⟨hb.ex (e1.trans e2), fun H3 e3 => qE H3 ((e1.trans e2).trans e3)⟩⟩) (fun H2 e2 Q2 => ⟨_, rfl, x, rfl, .inr ⟨hb.ex (e1.trans e2), fun H3 e3 => qE H3 ((e1.trans e2).trans e3)⟩⟩)))) fun _ H1 e1 => ?_
    refine q_when (b := decide (d < 5)) (et_test (ev_op (ev_var rfl) ev_c rv_I0)) (fun _ H2 e2 => s_retX (er_ifX (et_test (ev_op (ev_var rfl) ev_c (rv_eq rfl))) (fun H3 e3 Q2 => ⟨_, rfl, x, rfl, hb.ex ((e1.trans e2).trans e3), fun H4 e4 => qE H4 (((e1.trans e2).trans e3).trans e4)⟩)
      (fun H3 e3 Q2 => ⟨_, rfl, 1, rfl, x, _, rfl, .inl ⟨hb.ex ((e1.trans e2).trans e3), fun H4 e4 => qE H4 (((e1.trans e2).trans e3).trans e4)⟩⟩))) fun _ H2 e2 => ?_
    exact s_retX (er_ifX (et_test (ev_op (ev_var rfl) ev_c (rv_eq rfl))) (fun H3 e3 Q2 => ⟨_, rfl, en_1 (k := 1) rfl H3 (Ex.refl _) _ fun b H4 e4 hn => ⟨x, _, rfl, .inl ⟨hb.ex (((e1.trans e2).trans e3).trans e4), fun H5 e5 => qE H5 ((((e1.trans e2).trans e3).trans e4).trans e5)⟩⟩⟩)
      (fun H3 e3 Q2 => by
        delta tCallS tCons
        exact en_1 (p := 2) (k := 499) rfl H3 (Ex.refl _) _ fun b H4 e4 hn => ⟨_, rfl, .ref b, x, rfl, .inr ⟨b, [(2, 499)], rfl, hn, okG, .inl ⟨hb.ex (((e1.trans e2).trans e3).trans e4), fun H5 e5 => qE H5 ((((e1.trans e2).trans e3).trans e4).trans e5)⟩⟩⟩))
abbrev st__law_with_amount : Stmt := topS 40
abbrev nn__law_with_amount : List Str := ["_law_number_here", "_law_amount"]
abbrev pp__law_with_amount : List Str := ["_law_number_here", "_law_amount"]
theorem sc__law_with_amount : FnScope nn__law_with_amount pp__law_with_amount (defScope st__law_with_amount) := ⟨rfl, rfl, rfl, by decide +kernel, rfl, by decide +kernel, by decide +kernel⟩
theorem ok__law_with_amount (T : Txt K mg) (D__law_with_amount : Df K mg "_law_with_amount" st__law_with_amount pp__law_with_amount) (F_made : Fd P w K mg base (L2N.CX P w) "made" 5 pp_made (spMadeX K cBadNumber cBadSum cNotAll)) : Fd P w K mg base (L2N.CX P w) "_law_with_amount" 6 pp__law_with_amount (spMadeX K cBadNumber cBadSum cNotAll) := by
  refine D__law_with_amount.okX sc__law_with_amount (fun vs H Q E h => ?_) (fun f cdv A outer s H vs Q E hr h => ?_)
  · obtain ⟨d, x, rfl, _⟩ := h; rfl
  · obtain ⟨x, y, rfl, h⟩ := h
    refine ⟨_, (pss_one (ps_ret (pe_fdS F_made hr (by decide) (fun σ => L2N.passAt (L2N.takes_of rfl rfl rfl rfl) σ) (pa_cons (pv 0) (pa_cons (pv 1) pa_nil))))), ?_⟩
    exact ⟨_, rfl, _, rfl, x, y, rfl, h⟩
/-! ### the refusal's class, told -/
theorem room_suite {k j : Nat} {A : Around} {v : Option Value} (hr : Room j A) (h : k ≤ j) : L2H.RoomH k (A.mark v) := ⟨((L2H.roomH_of hr).mono h).dp, ((L2H.roomH_of hr).mono h).un⟩
theorem hot1_suite {A : Around} {a : Addr} {cls : Value} {d : Option Addr} {oe : Obj} (hz : L2N.Zn cls d oe) (hf : ∃ vs, oe.data = .fields vs) : L2H.Hot1 (A.mark (some (.ref a))) (a, oe) := by
  obtain ⟨vs, hd⟩ := hf
  exact ⟨rfl, vs, hd, hz.2.2 vs hd⟩
theorem pe_callXE {X : Cx} {P : Program} {w : World} {K : PySem.W.Frag} {mg : Str → Option Value} {base : Heap} {k j i : Nat} {W : WX} {x : Str} {p pos : Pos} {e : Expr} {es : List Expr} {t : TA} (tk : L2N.Takes X W) (hr : Room j X.A) (hj : k ≤ j) (hN : X.N[i]? = some x) (hv : Vis X.env.scope x) (ha : PA X (e :: es) t)
    (hP : X.prog = P := by rfl) (hw : X.w = w := by rfl) (hK : X.K = K := by rfl) (hmg : X.mg = mg := by rfl) (hba : X.base = base := by rfl)
    (hdb : (x == ("__debug__" : Str)) = false := by decide) (hcd : (x == ("__classdict__" : Str)) = false := by decide)
    (he : starEach (e :: es) X.env = (false, eval e X.env) :: starEach es X.env := by rfl) (hpl : (backTo pos (starEach es X.env)).any (·.1) = false := by rfl) : PE X (.Call (.Name x p) (e :: es) [] pos) (tCallX P w K mg base k i W t) := by
  subst hP hw hK hmg hba
  exact pe_callX tk hr hj hN hv ha hdb hcd he hpl
/-- of which classes the errors of the class D are -/
structure Kinds (K : PySem.W.Frag) (cBadNumber cBadSum cNotAll cTooMany D : Addr) (b1 b2 b3 b4 : Bool) : Prop where
  is : ExcC K D
  k1 : PySem.W.kitOne K (.ref D) (.ref cBadNumber) = some b1
  k2 : PySem.W.kitOne K (.ref D) (.ref cBadSum) = some b2
  k3 : PySem.W.kitOne K (.ref D) (.ref cNotAll) = some b3
  k4 : PySem.W.kitOne K (.ref D) (.ref cTooMany) = some b4
  k5 : PySem.W.kitOne K (.ref D) (.type "ValueError") = some true
abbrev st__law_kinds : Stmt := topS 38
abbrev nn__law_kinds : List Str := ["_law_error", "_law_found"]
abbrev pp__law_kinds : List Str := ["_law_error"]
theorem sc__law_kinds : FnScope nn__law_kinds pp__law_kinds (defScope st__law_kinds) := ⟨rfl, rfl, rfl, by decide +kernel, rfl, by decide +kernel, by decide +kernel⟩
def spKinds (K : PySem.W.Frag) (cBadNumber cBadSum cNotAll cTooMany : Addr) (p : Addr × Obj) : Sp := fun vs H Q _ => ∃ (D : Addr) (b1 b2 b3 b4 : Bool), vs = [.ref p.1] ∧ Zc (.ref D) none p.2 ∧ (∃ vs, p.2.data = .fields vs) ∧ Kinds K cBadNumber cBadSum cNotAll cTooMany D b1 b2 b3 b4 ∧
  ∀ H' l, Ex H H' → H l = none → H' l = some (.lst [.bl b1, .bl b2, .bl b3, .bl b4, .bl true]) → Q (.ref l) H'
theorem ok__law_kinds (T : Txt K mg) (XC : Xs K mg cSumError cBadNumber cBadSum cNotAll cTooMany) (D__law_kinds : Df K mg "_law_kinds" st__law_kinds pp__law_kinds) : FdH P w K mg base "_law_kinds" 1 pp__law_kinds (spKinds K cBadNumber cBadSum cNotAll cTooMany) := by
  refine D__law_kinds.okH sc__law_kinds (fun p vs H Q E h => ?_) (fun f cdv A outer s H vs Q E p hot hr h => ?_)
  · obtain ⟨D, b1, b2, b3, b4, rfl, _⟩ := h; rfl
  · obtain ⟨D, b1, b2, b3, b4, rfl, hz, hf, k, q⟩ := h
    have rc : ∀ {c : V} {cv : Value} {b : Bool} {H1 : Hp}, (∀ u, RelV c u → u = cv) → PySem.W.kitOne K (.ref D) cv = some b → RC (rIsP K p) [.ref p.1, c] H1 (.bl b) := fun hc hk H2 e Q q => ⟨D, _, _, _, rfl, hz, hf, k.is, hc, hk, q H2 (Ex.refl _)⟩
    refine ⟨_, (pss_cons (ps_set (i := 1) sc__law_kinds.nd rfl (by first | exact Or.inl rfl | exact Or.inr rfl) (pe_lst (pa_cons (pe_callB (call_isP (K := K) (p := p) List.mem_cons_self) (by rfl) T.b_isinstance (by decide +kernel) (pa_cons (pv 0) (pa_cons (pe_glob (v := .ref cBadNumber) (by rfl) XC.gBadNumber rfl) pa_nil))) (pa_cons (pe_callB (call_isP (K := K) (p := p) List.mem_cons_self) (by rfl) T.b_isinstance (by decide +kernel) (pa_cons (pv 0) (pa_cons (pe_glob (v := .ref cBadSum) (by rfl) XC.gBadSum rfl) pa_nil))) (pa_cons (pe_callB (call_isP (K := K) (p := p) List.mem_cons_self) (by rfl) T.b_isinstance (by decide +kernel) (pa_cons (pv 0) (pa_cons (pe_glob (v := .ref cNotAll) (by rfl) XC.gNotAll rfl) pa_nil))) pa_nil))))) (pss_one (ps_ret (pe_op op_cat (pv 1) (pe_lst (pa_cons (pe_callB (call_isP (K := K) (p := p) List.mem_cons_self) (by rfl) T.b_isinstance (by decide +kernel) (pa_cons (pv 0) (pa_cons (pe_glob (v := .ref cTooMany) (by rfl) XC.gTooMany rfl) pa_nil))) (pa_cons (pe_callB (call_isP (K := K) (p := p) List.mem_cons_self) (by rfl) T.b_isinstance (by decide +kernel) (pa_cons (pv 0) (pa_cons (pe_bltn (v := .ty "ValueError") (u := .type "ValueError") (by rfl) T.b_ValueError (by decide +kernel) rfl) pa_nil))) pa_nil))))))), ?_⟩
    refine q_asgL (el_lst (vs := [.bl b1, .bl b2, .bl b3]) (ea_cons (ev_cb (ea_cons (ev_var rfl) (ea_cons ev_c ea_nil)) (rc (fun _ r => r) k.k1)) (ea_cons (ev_cb (ea_cons (ev_var rfl) (ea_cons ev_c ea_nil)) (rc (fun _ r => r) k.k2)) (ea_cons (ev_cb (ea_cons (ev_var rfl) (ea_cons ev_c ea_nil)) (rc (fun _ r => r) k.k3)) ea_nil))) (by show 3 ≤ 100000; decide)) fun l H1 nl e1 hl => ?_
    exact s_retL (el_catV (ev_var rfl) hl (el_lst (vs := [.bl b4, .bl true]) (ea_cons (ev_cb (ea_cons (ev_var rfl) (ea_cons ev_c ea_nil)) (rc (fun _ r => r) k.k4)) (ea_cons (ev_cb (ea_cons (ev_var rfl) (ea_cons ev_c ea_nil)) (rc (fun _ r => r) k.k5)) ea_nil)) (by show 2 ≤ 100000; decide)) (by show 3 + 2 ≤ 100000; decide)) fun p H2 np e2 hp => q H2 p (e1.trans e2) (fresh_back e1 np) hp
/-- the suite's reading of it -/
def rKinds (K : PySem.W.Frag) (cBadNumber cBadSum cNotAll cTooMany : Addr) (a : Addr) (cls : Value) (d : Option Addr) : List V → Hp → VK → Prop := fun vs H Q => ∃ (D : Addr) (b1 b2 b3 b4 : Bool), vs = [.ref a] ∧ cls = .ref D ∧ d = none ∧ Kinds K cBadNumber cBadSum cNotAll cTooMany D b1 b2 b3 b4 ∧
  ∀ H' l, Ex H H' → H l = none → H' l = some (.lst [.bl b1, .bl b2, .bl b3, .bl b4, .bl true]) → Q (.ref l) H'
theorem rKinds_sp {a : Addr} {cls : Value} {d : Option Addr} {oe : Obj} (hz : L2N.Zn cls d oe) (hf : ∃ vs, oe.data = .fields vs) : ∀ vs H Q, rKinds K cBadNumber cBadSum cNotAll cTooMany a cls d vs H Q → spKinds K cBadNumber cBadSum cNotAll cTooMany (a, oe) vs H Q E0 := fun vs H Q h => by
  obtain ⟨D, b1, b2, b3, b4, rfl, rfl, rfl, k, q⟩ := h
  exact ⟨D, b1, b2, b3, b4, rfl, hz.zc, hf, k, q⟩
abbrev st__law_told : Stmt := topS 41
abbrev nn__law_told : List Str := ["_law_ask", "_law_one", "_law_other", "_law_error"]
abbrev pp__law_told : List Str := ["_law_ask", "_law_one", "_law_other"]
theorem sc__law_told : FnScope nn__law_told pp__law_told (defScope st__law_told) := ⟨rfl, rfl, rfl, by decide +kernel, rfl, by decide +kernel, by decide +kernel⟩
def spToldL (P : Program) (w : World) (K : PySem.W.Frag) (mg : Str → Option Value) (base : Heap) (cSumError cBadNumber cBadSum cNotAll cTooMany : Addr) : Sp := fun vs H Q _ => ∃ (f : Addr) (sp : Sp) (x y : V) (D : Addr) (b1 b2 b3 b4 : Bool), vs = [.ref f, x, y] ∧ HeldX P w K mg base 6 f sp ∧
  PySem.W.exmOne K (.ref D) (.ref cSumError) = some true ∧ Kinds K cBadNumber cBadSum cNotAll cTooMany D b1 b2 b3 b4 ∧ (∀ E : XK, (∀ H', Ex H H' → E (.ref D) none H') → ∀ Q : VK, sp [x, y] H Q E) ∧ ∀ H' l, Ex H H' → H l = none → H' l = some (.lst [.bl b1, .bl b2, .bl b3, .bl b4, .bl true]) → Q (.ref l) H'
theorem ok__law_told (T : Txt K mg) (XC : Xs K mg cSumError cBadNumber cBadSum cNotAll cTooMany) (D__law_told : Df K mg "_law_told" st__law_told pp__law_told) (F__law_kinds : FdH P w K mg base "_law_kinds" 1 pp__law_kinds (spKinds K cBadNumber cBadSum cNotAll cTooMany)) : Fd P w K mg base CX0 "_law_told" 7 pp__law_told (spToldL P w K mg base cSumError cBadNumber cBadSum cNotAll cTooMany) := by
  refine D__law_told.ok sc__law_told (fun vs H Q E h => ?_) (fun f cdv A outer s H vs Q E hr h => ?_)
  · obtain ⟨f, sp, x, y, D, b1, b2, b3, b4, rfl, _⟩ := h; rfl
  · obtain ⟨f1, sp, x, y, D, b1, b2, b3, b4, rfl, hF, hm, k, hsp, q⟩ := h
    refine ⟨_, (pss_cons (L2N.ps_try_as (i := 3) rfl rfl sc__law_told.nd rfl rfl ⟨rfl, by decide, .inl XC.gSumError⟩ takes0N (fun W pn xe tk _ => (pss_one (ps_expr (pe_callXE (P := P) (w := w) (K := K) (mg := mg) (base := base) (k := 6) (i := 0) tk hr (by decide) rfl (Or.inl rfl) (pa_cons (pv 1) (pa_cons (pv 2) pa_nil)))))) (fun a oe cls d pn hz hf => (pss_one (ps_ret (pe_fdH (q := (a, oe)) F__law_kinds (room_suite (k := 1) hr (by decide)) (hot1_suite hz hf) List.mem_cons_self (rKinds_sp hz hf) (pa_cons (pv 3) pa_nil)))))) (pss_one (ps_ret (pe_lst pa_nil)))), ?_⟩
    refine ⟨f1, sp, rfl, hF, _, rfl, _, rfl, hsp _ (fun H1 e1 => ⟨true, hm, fun _ a na => ?_, fun z => nomatch z⟩) _⟩
    exact ⟨_, rfl, D, b1, b2, b3, b4, rfl, rfl, rfl, k, fun H2 l e2 nl hl => q H2 l (e1.trans e2) (fresh_back e1 nl) hl⟩
/-! ### what is refused, listed -/
instance (ns : Nm) : Decidable (Rise ns) := inferInstanceAs (Decidable (List.Pairwise _ ns))
def pairyb (ns : Nm) : Bool := ns.all (fun q => isPr q.1 && (decide (1 ≤ q.2) && decide (q.2 < 1000))) && decide (ns.length ≤ 10)
theorem pairyB {ns : Nm} (h : pairyb ns = true) : Pairy ns := by
  unfold pairyb at h
  rw [Bool.and_eq_true, List.all_eq_true] at h
  have z : ∀ q ∈ ns, isPr q.1 = true ∧ 1 ≤ q.2 ∧ q.2 < 1000 := fun q hq => by
    have y := h.1 q hq
    rw [Bool.and_eq_true, Bool.and_eq_true] at y
    exact ⟨y.1, of_decide_eq_true y.2.1, of_decide_eq_true y.2.2⟩
  exact ⟨fun q hq => ⟨(z q hq).1, (z q hq).2.1⟩, fun q hq => Nat.lt_of_lt_of_le (z q hq).2.2 (by decide), of_decide_eq_true h.2⟩
theorem pairy1 {k : Nat} (h1 : 1 ≤ k) (h2 : k < 2 ^ 200) : Pairy [(2, k)] := ⟨fun q hq => by rw [List.mem_singleton.mp hq]; exact ⟨by show isPr 2 = true; decide +kernel, h1⟩, fun q hq => by rw [List.mem_singleton.mp hq]; exact h2, by show 1 ≤ 10; decide⟩
theorem mny1 (k : Nat) : mny [(2, k)] = k + 1 := by show 1 * (k + 1) = k + 1; omega
section
variable {σ : L2.St} {H : Hp} {te : TE}
theorem pr3 : PrD K H (.int 3) true := by
  have h := PrD.int (K := K) (H := H) 3
  rw [show isPr 3 = true by decide +kernel] at h
  exact h
theorem en_1E {p : Int} {k : Nat} (he : Evl.Ev te σ H (.int (k : Int))) : EvN (tLst (tCons (tTup (tCons (tC (.int p)) (tCons te tNil))) tNil)) σ H [(p, k)] := fun H1 ex Q q =>
  he H1 ex _ fun H2 e2 => ⟨sizeL (by show 2 ≤ 100000; decide), fun t nt => ⟨sizeL (by show 1 ≤ 100000; decide), fun l nl => q l _ ((e2.trans (Ex.new nt)).trans (Ex.new nl)) ⟨[.ref t], upd_same, PairsAt.cons (q := (p, k)) (by rw [upd_ne (ne_of_none upd_same nl)]; exact upd_same) PairsAt.nil⟩⟩⟩
end
abbrev st__law_bad_numbers : Stmt := topS 42
abbrev nn__law_bad_numbers : List Str := ["_law_number_here", "_law_far", "_law_bad", "_law_at", "_law_pair"]
abbrev pp__law_bad_numbers : List Str := ["_law_number_here", "_law_far"]
theorem sc__law_bad_numbers : FnScope nn__law_bad_numbers pp__law_bad_numbers (defScope st__law_bad_numbers) := ⟨rfl, rfl, rfl, by decide +kernel, rfl, by decide +kernel, by decide +kernel⟩
def spBadN (K : PySem.W.Frag) : Sp := fun vs H Q _ => ∃ (a : Addr) (ns : Nm) (far : Int), vs = [.ref a, .int far] ∧ NumAt H a ns ∧ Ok ns ∧ 0 ≤ far ∧ far < 10000000000000000000000000000000000000000 ∧ ∀ H' l, Ex H H' → LsAt (BadAt K) 35 H' l → Q (.ref l) H'
theorem ok__law_bad_numbers (T : Txt K mg) (D__law_bad_numbers : Df K mg "_law_bad_numbers" st__law_bad_numbers pp__law_bad_numbers) : Fd P w K mg base CX0 "_law_bad_numbers" 1 pp__law_bad_numbers (spBadN K) := by
  refine D__law_bad_numbers.ok sc__law_bad_numbers (fun vs H Q E h => ?_) (fun f cdv A outer s H vs Q E hr h => ?_)
  · obtain ⟨a, ns, far, rfl, _⟩ := h; rfl
  · obtain ⟨a, ns, far, rfl, hn, okn, f0, f1, q⟩ := h
    have far200 : 500 + far.toNat < 2 ^ 200 := by
      have : far.toNat < 10000000000000000000000000000000000000000 := by omega
      exact Nat.lt_of_lt_of_le (show 500 + far.toNat < 10000000000000000000000000000000000000500 by omega) (by decide +kernel)
    refine ⟨_, (pss_cons (ps_set (i := 2) sc__law_bad_numbers.nd rfl (by first | exact Or.inl rfl | exact Or.inr rfl) (pe_lst (pa_cons pe_non (pa_cons (pe_tup pa_nil) (pa_cons (pe_tup (pa_cons (pe_tup (pa_cons pe_int (pa_cons pe_int pa_nil))) pa_nil)) (pa_cons pe_str (pa_cons pe_dnewK (pa_cons pe_int (pa_cons (pe_lst (pa_cons pe_non pa_nil)) (pa_cons (pe_lst (pa_cons pe_int pa_nil)) (pa_cons (pe_lst (pa_cons (pe_tup (pa_cons pe_int pa_nil)) pa_nil)) (pa_cons (pe_lst (pa_cons (pe_tup (pa_cons pe_int (pa_cons pe_int (pa_cons pe_int pa_nil)))) pa_nil)) (pa_cons (pe_lst (pa_cons (pe_lst (pa_cons pe_int (pa_cons pe_int pa_nil))) pa_nil)) (pa_cons (pe_lst (pa_cons (pe_tup (pa_cons pe_int (pa_cons pe_int pa_nil))) pa_nil)) (pa_cons (pe_lst (pa_cons (pe_tup (pa_cons pe_int (pa_cons (pe_op op_sub (pe_un un_neg pe_int) (pv 1)) pa_nil))) pa_nil)) pa_nil))))))))))))))) (pss_cons (ps_set (i := 2) sc__law_bad_numbers.nd rfl (by first | exact Or.inl rfl | exact Or.inr rfl) (pe_op op_cat (pv 2) (pe_lst (pa_cons (pe_lst (pa_cons (pe_tup (pa_cons pe_bl (pa_cons pe_int pa_nil))) pa_nil)) (pa_cons (pe_lst (pa_cons (pe_tup (pa_cons pe_int (pa_cons pe_bl pa_nil))) pa_nil)) (pa_cons (pe_lst (pa_cons (pe_tup (pa_cons pe_int (pa_cons pe_int pa_nil))) pa_nil)) (pa_cons (pe_lst (pa_cons (pe_tup (pa_cons pe_int (pa_cons pe_int pa_nil))) pa_nil)) (pa_cons (pe_lst (pa_cons (pe_tup (pa_cons (pe_un un_neg pe_int) (pa_cons pe_int pa_nil))) pa_nil)) (pa_cons (pe_lst (pa_cons (pe_tup (pa_cons pe_int (pa_cons pe_int pa_nil))) pa_nil)) (pa_cons (pe_lst (pa_cons (pe_tup (pa_cons pe_int (pa_cons pe_int pa_nil))) pa_nil)) (pa_cons (pe_lst (pa_cons (pe_tup (pa_cons pe_str (pa_cons pe_int pa_nil))) pa_nil)) pa_nil))))))))))) (pss_cons (ps_set (i := 2) sc__law_bad_numbers.nd rfl (by first | exact Or.inl rfl | exact Or.inr rfl) (pe_op op_cat (pv 2) (pe_lst (pa_cons (pe_lst (pa_cons (pe_tup (pa_cons pe_int (pa_cons pe_non pa_nil))) pa_nil)) (pa_cons (pe_lst (pa_cons (pe_tup (pa_cons pe_int (pa_cons pe_int pa_nil))) (pa_cons (pe_tup (pa_cons pe_int (pa_cons pe_int pa_nil))) pa_nil))) (pa_cons (pe_lst (pa_cons (pe_tup (pa_cons pe_int (pa_cons pe_int pa_nil))) (pa_cons (pe_tup (pa_cons pe_int (pa_cons pe_int pa_nil))) pa_nil))) (pa_cons (pe_lst (pa_cons (pe_tup (pa_cons pe_int (pa_cons pe_int pa_nil))) pa_nil)) (pa_cons (pe_lst (pa_cons (pe_tup (pa_cons pe_int (pa_cons pe_int pa_nil))) (pa_cons (pe_tup (pa_cons pe_int (pa_cons pe_int pa_nil))) pa_nil))) (pa_cons (pe_lst (pa_cons (pe_tup (pa_cons pe_int (pa_cons (pe_op op_add pe_int (pv 1)) pa_nil))) pa_nil)) pa_nil))))))))) (pss_cons (ps_set (i := 2) sc__law_bad_numbers.nd rfl (by first | exact Or.inl rfl | exact Or.inr rfl) (pe_op op_cat (pv 2) (pe_lst (pa_cons (pe_lst (pa_cons (pe_tup (pa_cons pe_int (pa_cons pe_int pa_nil))) pa_nil)) (pa_cons (pe_lst (pa_cons (pe_tup (pa_cons pe_int (pa_cons pe_int pa_nil))) pa_nil)) pa_nil))))) (pss_cons (ps_set (i := 3) sc__law_bad_numbers.nd rfl (by first | exact Or.inl rfl | exact Or.inr rfl) (pe_op op_mod (pv 1) (pe_op op_add (pe_callB (call_lenE (K := K)) (by rfl) T.b_len PySem.boot_len (pa_cons (pv 0) pa_nil)) pe_int))) (pss_cons (ps_for PassesOwn.never rfl (pi_tup (pe_tup (pa_cons pe_non (pa_cons (pe_tup (pa_cons pe_int (pa_cons pe_int pa_nil))) (pa_cons (pe_tup (pa_cons (pe_op op_add pe_int (pv 1)) (pa_cons pe_int pa_nil))) (pa_cons (pe_tup (pa_cons pe_int (pa_cons pe_int pa_nil))) (pa_cons (pe_tup (pa_cons pe_str (pa_cons pe_int pa_nil))) (pa_cons (pe_lst (pa_cons pe_int (pa_cons pe_int pa_nil))) pa_nil)))))))) (pg_name (i := 4) sc__law_bad_numbers.nd rfl (by first | exact Or.inl rfl | exact Or.inr rfl)) (pss_one (ps_expr (pe_bm PySem.F.plainAttrs_list PySem.F.slot_list_append PySem.F.type_list_append mt_append (pv 2) (pa_cons (pe_op op_cat (pe_op op_cat (pe_slice (sl_listE (K := K)) (pv 0) po_none (po_some (pv 3))) (pe_lst (pa_cons (pv 4) pa_nil))) (pe_slice (sl_listE (K := K)) (pv 0) (po_some (pv 3)) po_none)) pa_nil))))) (pss_one (ps_ret (pv 2))))))))), ?_⟩
    refine q_asgR (er_pl (bad_mono (K := K)) (pl_cons (bad_mono (K := K)) (evp_ev ev_c fun _ _ => .no xt_non (by decide +kernel)) (pl_cons (bad_mono (K := K)) (evp_tup (xs := []) ea_nil (by decide) fun _ _ _ h => .no (xt_tup h) (by decide +kernel)) (pl_cons (bad_mono (K := K)) (evp_tup1 (evp_tup (xs := [.int 2, .int 1]) (ea_cons ev_c (ea_cons ev_c ea_nil)) (by show 2 ≤ 100000; decide) fun _ _ _ _ => trivial) fun _ _ _ h => .no (xt_tup h) (by decide +kernel)) (pl_cons (bad_mono (K := K)) (evp_ev ev_c fun _ _ => .no (xt_str _) (by decide +kernel)) (pl_cons (bad_mono (K := K)) (evp_dict fun _ _ h => .no (fun _ e => .base (.dK (e _ _ h))) (by decide +kernel)) (pl_cons (bad_mono (K := K)) (evp_ev ev_c fun _ _ => .no (xt_int _) (by decide +kernel)) (pl_cons (bad_mono (K := K)) (bad_1 (evp_ev ev_c fun _ _ => .no xt_non (by decide +kernel))) (pl_cons (bad_mono (K := K)) (bad_1 (evp_ev ev_c fun _ _ => .no (xt_int _) (by decide +kernel))) (pl_cons (bad_mono (K := K)) (bad_1 (evp_tup (xs := [.int 2]) (ea_cons ev_c ea_nil) (by show 1 ≤ 100000; decide) fun _ _ _ h => .len h (by decide))) (pl_cons (bad_mono (K := K)) (bad_1 (evp_tup (xs := [.int 2, .int 1, .int 1]) (ea_cons ev_c (ea_cons ev_c (ea_cons ev_c ea_nil))) (by show 3 ≤ 100000; decide) fun _ _ _ h => .len h (by decide))) (pl_cons (bad_mono (K := K)) (bad_1 (evp_lst (xs := [.int 2, .int 1]) (ea_cons ev_c (ea_cons ev_c ea_nil)) (by show 2 ≤ 100000; decide) fun _ _ _ h => .no (xt_lst h) (by decide +kernel))) (pl_cons (bad_mono (K := K)) (bad_1 (evp_pair ev_c ev_c fun _ _ h => pair_low h pr2 (by decide))) (pl_cons (bad_mono (K := K)) (bad_1 (evp_pair ev_c (ev_op (ev_un ev_c ru_neg) (ev_var rfl) rv_I0) fun _ _ h => pair_low h pr2 (by omega))) pl_nil))))))))))))) (by decide)) fun l1 H1 e1 h1 => ?_
    refine q_asgR (er_catP (bad_mono (K := K)) (er_var rfl h1 fun _ _ e h => h.ex (bad_mono (K := K)) e) (er_pl (bad_mono (K := K)) (pl_cons (bad_mono (K := K)) (bad_1 (evp_pair ev_c ev_c fun _ _ h => .fst h (.no (ni_bl _)))) (pl_cons (bad_mono (K := K)) (bad_1 (evp_pair ev_c ev_c fun _ _ h => .snd h pr2 (ni_bl _))) (pl_cons (bad_mono (K := K)) (bad_1 (evp_pair ev_c ev_c fun _ _ h => .fst h (prN (by decide +kernel)))) (pl_cons (bad_mono (K := K)) (bad_1 (evp_pair ev_c ev_c fun _ _ h => .fst h (prN (by decide +kernel)))) (pl_cons (bad_mono (K := K)) (bad_1 (evp_pair (ev_un ev_c ru_neg) ev_c fun _ _ h => .fst h (prN (by decide +kernel)))) (pl_cons (bad_mono (K := K)) (bad_1 (evp_pair ev_c ev_c fun _ _ h => .fst h (prN (by decide +kernel)))) (pl_cons (bad_mono (K := K)) (bad_1 (evp_pair ev_c ev_c fun _ _ h => .fst h (prN (by decide +kernel)))) (pl_cons (bad_mono (K := K)) (bad_1 (evp_pair ev_c ev_c fun _ _ h => .fst h (.no (ni_str _)))) pl_nil)))))))) (by decide)) (by decide)) fun l2 H2 e2 h2 => ?_
    refine q_asgR (er_catP (bad_mono (K := K)) (er_var rfl h2 fun _ _ e h => h.ex (bad_mono (K := K)) e) (er_pl (bad_mono (K := K)) (pl_cons (bad_mono (K := K)) (bad_1 (evp_pair ev_c ev_c fun _ _ h => .snd h pr2 ni_non)) (pl_cons (bad_mono (K := K)) (bad_n (en_2 (k := 1) (k2 := 1) rfl rfl) fun _ _ h => .falls h (pairyB (by decide +kernel)) (by decide +kernel)) (pl_cons (bad_mono (K := K)) (bad_n (en_2 (k := 1) (k2 := 1) rfl rfl) fun _ _ h => .falls h (pairyB (by decide +kernel)) (by decide +kernel)) (pl_cons (bad_mono (K := K)) (bad_n (en_1 (k := 500) rfl) fun _ _ h => .many h (pairyB (by decide +kernel)) (by decide +kernel) (by decide +kernel)) (pl_cons (bad_mono (K := K)) (bad_n (en_2 (k := 99) (k2 := 5) rfl rfl) fun _ _ h => .many h (pairyB (by decide +kernel)) (by decide +kernel) (by decide +kernel)) (pl_cons (bad_mono (K := K)) (bad_n (en_1E (k := 500 + far.toNat) (ev_is (ev_op ev_c (ev_var rfl) rv_I0) (by rw [Int.natCast_add, Int.toNat_of_nonneg f0]; rfl))) fun _ _ h => .many h (pairy1 (by omega) far200) (List.pairwise_singleton _ _) (by rw [mny1]; omega)) pl_nil)))))) (by decide)) (by decide)) fun l3 H3 e3 h3 => ?_
    refine q_asgG (eg_catP (bad_mono (K := K)) (er_var rfl h3 fun _ _ e h => h.ex (bad_mono (K := K)) e) (er_pl (bad_mono (K := K)) (pl_cons (bad_mono (K := K)) (bad_1 (evp_pair ev_c ev_c fun _ _ h => .fst h (prN (by decide +kernel)))) (pl_cons (bad_mono (K := K)) (bad_1 (evp_pair ev_c ev_c fun _ _ h => .fst h (prN (by decide +kernel)))) pl_nil)) (by decide)) (by decide)) fun l4 H4 n4 e4 h4 => ?_
    have e14 := ((e1.trans e2).trans e3).trans e4
    have hnl : H l4 = none := fresh_back ((e1.trans e2).trans e3) n4
    obtain ⟨xs, hx, hp⟩ := hn
    have hx4 := e14 _ _ hx
    refine q_asg (ev_op (ev_var rfl) (ev_op (ev_len (ev_var rfl) (SqL.of hx4)) ev_c rv_I0) (rv_I (by omega))) fun H5 e5 => ?_
    obtain ⟨k, hk⟩ : ∃ k : Nat, far % ((xs.length : Int) + 1) = (k : Int) := ⟨(far % ((xs.length : Int) + 1)).toNat, by rw [Int.toNat_of_nonneg (Int.emod_nonneg _ (by omega))]⟩
    rw [hk]
    obtain ⟨acc0, ha0, hl0, hb0⟩ := h4
    have ha5 := e5 _ _ ha0
    have len6 : acc0.length ≠ 2 := by rw [hl0]; decide
    refine q_forPl (P := fun H x => PairD K (era H l4) x false) pairE_mono (pl_cons pairE_mono (evp_ev ev_c fun _ _ => .no xt_non (by decide +kernel)) (pl_cons pairE_mono (evp_pairE ha5 ev_c ev_c fun _ _ h => .fst h (prN (by decide +kernel))) (pl_cons pairE_mono (evp_pairE ha5 (ev_op ev_c (ev_var rfl) rv_I0) ev_c fun _ _ h => .fst h (prN (by unfold isPr; rw [decide_eq_false (show ¬ (1009 : Int) + far ≤ 997 by omega), Bool.false_and, Bool.and_false]))) (pl_cons pairE_mono (evp_pairE ha5 ev_c ev_c fun _ _ h => pair_low h pr3 (by decide)) (pl_cons pairE_mono (evp_pairE ha5 ev_c ev_c fun _ _ h => .fst h (.no (ni_str _))) (pl_cons pairE_mono (evp_lstE ha5 len6 ev_c ev_c) pl_nil)))))) (by decide)
      (fun t vs i σ' H' => ∃ y acc, σ' = [some (.ref a), some (.int far), some (.ref l4), some (.int (k : Int)), y] ∧ H' t = some (.tup vs) ∧ vs.length = 6 ∧ (∀ v ∈ vs, PairD K (era H' l4) v false) ∧ Ex H H' ∧ H' l4 = some (.lst acc) ∧ acc.length = 29 + i ∧ ∀ x ∈ acc, BadAt K (era H' l4) x) (fun t vs H6 e6 ht hlv hv => ⟨none, acc0, rfl, ht, hlv, hv, (e14.trans e5).trans e6, e6 _ _ ha5, hl0, fun x hx => (hb0 x hx).ex (era_mono (e5.trans e6))⟩) (fun t vs i σ' H' ⟨_, _, _, z, _⟩ => z) ?_ ?_
    · rintro t vs i x σ' H' hxi ⟨y, acc, rfl, ht, hlv, hv, e6, ha, hla, hb⟩
      have ilt : i < 6 := by
        have := (List.getElem?_eq_some_iff.mp hxi).1
        omega
      have hx6 := e6 _ _ hx
      have few : xs.length ≤ 10 := by rw [hp.1]; exact (Ew.Ok.pairy okn).few
      have l1 : (cutV xs none (some (k : Int))).length ≤ 10 := by rw [cut_to, List.length_take]; omega
      have l2 : (cutV xs (some (k : Int)) none).length ≤ 10 := by rw [cut_from, List.length_drop]; omega
      refine s_appL ha (ev_var rfl) (el_cat (el_cat (el_sl (ev_var rfl) eo_none (eo_some (ev_var rfl)) (SqL.of hx6)) (el_lst (ea_cons (ev_var rfl) ea_nil) (by show 1 ≤ 100000; decide)) (by show _ + 1 ≤ 100000; omega)) (el_sl (ev_var rfl) (eo_some (ev_var rfl)) eo_none (SqL.of hx6)) (by rw [List.length_append]; show _ + 1 + _ ≤ 100000; omega)) (by omega) fun p H7 np e7 hp7 => ?_
      have pl : p ≠ l4 := fun z => by rw [z, ha] at np; cases np
      have tl : t ≠ l4 := ne_of ht ha (by intro z; cases z)
      have hpE : era H7 l4 p = some (.lst ((cutV xs none (some (k : Int)) ++ [x]) ++ cutV xs (some (k : Int)) none)) := (era_at pl).trans hp7
      have eE : Ex H (era H7 l4) := ex_era (e6.trans e7) hnl
      have pd := pairy_d (K := K) (hp.ex eE) (Ew.Ok.pairy okn).pr
      have pdx : PairD K (era H7 l4) x false := (hv x (List.mem_of_getElem? hxi)).ex (era_mono e7)
      have bad : BadAt K (era H7 l4) (.ref p) := .pairs hpE (((by rw [cut_to]; exact pd.take k : PairsD K (era H7 l4) (cutV xs none (some (k : Int))) _).append (.cons pdx .nil)).append (by rw [cut_from]; exact pd.drop k : PairsD K (era H7 l4) (cutV xs (some (k : Int)) none) _)) (by rw [List.length_append, List.length_append]; show _ + 1 + _ ≤ 1000; omega) (by rw [List.all_append, List.all_append, show ([false] : List Bool).all id = false from rfl, Bool.and_false, Bool.false_and])
      refine ⟨_, acc ++ [.ref p], rfl, by rw [upd_ne tl]; exact e7 _ _ ht, hlv, fun v m => by rw [era_upd]; exact (hv v m).ex (era_mono e7), Ex.mut (e6.trans e7) hnl, upd_same, by rw [List.length_append, hla]; rfl, fun z m => ?_⟩
      rw [era_upd]
      rcases List.mem_append.mp m with c | c
      · exact (hb z c).ex (era_mono e7)
      · rw [List.mem_singleton.mp c]; exact bad
    · rintro t vs σ' H' ⟨y, acc, rfl, ht, hlv, hv, e6, ha, hla, hb⟩
      exact s_ret (ev_var rfl) fun H8 e8 => q H8 l4 (e6.trans e8) ⟨acc, e8 _ _ ha, by rw [hla, hlv], fun z m => (hb z m).ex (era_le.trans e8)⟩
/-! ### the law -/
section
variable {σ : L2.St} {H : Hp} {tf td te tn : TE} {ta : TA}
theorem ev_worthX {ns : Nm} (h : EvN te σ H ns) (ok : Ok ns) : Evl.Ev (tCall (spWorthX K cBadNumber) [] E0 (tCons te tNil)) σ H (.int (wth ns)) := fun H1 e Q q =>
  h H1 e _ fun a H2 e2 hn => ⟨.ref a, rfl, .inl ⟨a, ns, rfl, hn, ok, fun H3 e3 => q H3 (e2.trans e3)⟩⟩
theorem ev_totalX {ns : Nm} (h : EvN te σ H ns) (ok : Ok ns) : Evl.Ev (tCall (spTotalX K cBadNumber) [] E0 (tCons te tNil)) σ H (.int (tot ns)) := fun H1 e Q q =>
  h H1 e _ fun a H2 e2 hn => ⟨.ref a, rfl, .inl ⟨a, ns, rfl, hn, ok, fun H3 e3 => q H3 (e2.trans e3)⟩⟩
theorem el_divX {ns : Nm} (h : EvN te σ H ns) (ok : Ok ns) : EvL (tCall (spDivisorsX K cBadNumber) [] E0 (tCons te tNil)) σ H ((divs ns).map V.int) := fun H1 e Q q =>
  h H1 e _ fun a H2 e2 hn => ⟨.ref a, rfl, .inl ⟨a, ns, rfl, hn, ok, fun p H3 e3 np hp => q p H3 (fresh_back e2 np) (e2.trans e3) hp⟩⟩
/-- _law_told, asked of what is refused -/
theorem er_told {f : Addr} {sp : Sp} {D : Addr} {j : Nat} {b1 b2 b3 b4 : Bool} {R : Hp → V → V → Prop} (hF : HeldX P w K mg base 6 f sp) (hm : PySem.W.exmOne K (.ref D) (.ref cSumError) = some true) (k : Kinds K cBadNumber cBadSum cNotAll cTooMany D b1 b2 b3 b4) (hd : dueL j = [b1, b2, b3, b4, true]) (h1 : Evl.Ev tf σ H (.ref f))
    (ha : ∀ H1, Ex H H1 → ∀ Q : List V → Hp → Prop, (∀ x y H2, Ex H1 H2 → R H2 x y → Q [x, y] H2) → ta σ H1 Q) (hs : ∀ H1 x y, R H1 x y → ∀ E : XK, (∀ H', Ex H1 H' → E (.ref D) none H') → ∀ Q : VK, sp [x, y] H1 Q E) :
    EvR (tCall (spToldL P w K mg base cSumError cBadNumber cBadSum cNotAll cTooMany) [] E0 (tCons tf ta)) σ H (fun H x => BlsAt H x (dueL j)) := fun H1 e Q q =>
  h1 H1 e _ fun H2 e2 => ha H2 (e.trans e2) _ fun x y H3 e3 hr => ⟨f, sp, x, y, D, b1, b2, b3, b4, rfl, hF, hm, k, hs H3 x y hr, fun H4 l e4 _ hl => q l H4 ((e2.trans e3).trans e4) (by rw [hd]; exact hl)⟩
theorem ea_2 {P1 P2 : Hp → V → Prop} (m : ∀ H1 H2 x, Ex H1 H2 → P1 H1 x → P1 H2 x) (h1 : EvP td σ H P1) (h2 : EvP te σ H P2) : ∀ H1, Ex H H1 → ∀ Q : List V → Hp → Prop, (∀ x y H2, Ex H1 H2 → (P1 H2 x ∧ P2 H2 y) → Q [x, y] H2) → tCons td (tCons te tNil) σ H1 Q := fun H1 e Q q =>
  h1 H1 e _ fun x H2 e2 p1 => h2 H2 (e.trans e2) _ fun y H3 e3 p2 => q x y H3 (e2.trans e3) ⟨m _ _ _ e3 p1, p2⟩
def IsNum (ns : Nm) (H : Hp) (x : V) : Prop := ∃ a, x = .ref a ∧ NumAt H a ns
theorem isNum_mono {ns : Nm} : ∀ H1 H2 x, Ex H1 H2 → IsNum ns H1 x → IsNum ns H2 x := fun _ _ _ e ⟨a, h1, h2⟩ => ⟨a, h1, h2.ex e⟩
theorem evp_n {ns : Nm} (h : EvN te σ H ns) : EvP te σ H (IsNum ns) := fun H1 e Q q => h H1 e Q fun a H2 e2 hn => q _ H2 e2 ⟨a, rfl, hn⟩
theorem er_tN {f : Addr} {d : Int} (XC : Xs K mg cSumError cBadNumber cBadSum cNotAll cTooMany) (hF : HeldX P w K mg base 6 f (spWithN K cBadNumber)) (h1 : Evl.Ev tf σ H (.ref f)) (h2 : Evl.Ev td σ H (.int d)) (h3 : EvP te σ H (BadAt K)) :
    EvR (tCall (spToldL P w K mg base cSumError cBadNumber cBadSum cNotAll cTooMany) [] E0 (tCons tf (tCons td (tCons te tNil)))) σ H (fun H x => BlsAt H x (dueL 0)) :=
  er_told hF XC.mBadNumber ⟨XC.xBadNumber.is, XC.kBadNumber_BadNumber, XC.kBadNumber_BadSum, XC.kBadNumber_NotAll, XC.kBadNumber_TooMany, XC.vBadNumber⟩ (by simp [dueL]) h1 (ea_2 (P1 := fun _ x => x = .int d) (fun _ _ _ _ h => h) (evp_ev h2 fun _ _ => rfl) h3) fun H1 x y ⟨hx, hy⟩ E hE Q => ⟨d, y, by rw [hx], hy, hE⟩
theorem er_tA {f : Addr} {ns : Nm} (XC : Xs K mg cSumError cBadNumber cBadSum cNotAll cTooMany) (hF : HeldX P w K mg base 6 f (spMadeX K cBadNumber cBadSum cNotAll)) (h1 : Evl.Ev tf σ H (.ref f)) (h2 : EvN td σ H ns) (ok : Ok ns) (h3 : EvP te σ H (fun H y => BadAmt K H ns y)) :
    EvR (tCall (spToldL P w K mg base cSumError cBadNumber cBadSum cNotAll cTooMany) [] E0 (tCons tf (tCons td (tCons te tNil)))) σ H (fun H x => BlsAt H x (dueL 1)) :=
  er_told hF XC.mBadSum ⟨XC.xBadSum.is, XC.kBadSum_BadNumber, XC.kBadSum_BadSum, XC.kBadSum_NotAll, XC.kBadSum_TooMany, XC.vBadSum⟩ (by simp [dueL]) h1 (ea_2 isNum_mono (evp_n h2) h3) fun H1 x y ⟨⟨a, hx, hn⟩, hy⟩ E hE Q => ⟨x, y, rfl, .inr ⟨a, ns, hx, hn, ok, .inl ⟨hy, hE⟩⟩⟩
theorem er_tB {f : Addr} {ns : Nm} {i : Int} (XC : Xs K mg cSumError cBadNumber cBadSum cNotAll cTooMany) (hF : HeldX P w K mg base 6 f (spMadeX K cBadNumber cBadSum cNotAll)) (h1 : Evl.Ev tf σ H (.ref f)) (h2 : EvN td σ H ns) (ok : Ok ns) (h3 : Evl.Ev te σ H (.int i)) (i0 : 0 ≤ i) (i1 : i ≤ tot ns) (hb : bar ns ≠ 0) :
    EvR (tCall (spToldL P w K mg base cSumError cBadNumber cBadSum cNotAll cTooMany) [] E0 (tCons tf (tCons td (tCons te tNil)))) σ H (fun H x => BlsAt H x (dueL 2)) :=
  er_told hF XC.mNotAll ⟨XC.xNotAll.is, XC.kNotAll_BadNumber, XC.kNotAll_BadSum, XC.kNotAll_NotAll, XC.kNotAll_TooMany, XC.vNotAll⟩ (by simp [dueL]) h1 (ea_2 (P2 := fun _ y => y = .int i) isNum_mono (evp_n h2) (evp_ev h3 fun _ _ => rfl)) fun H1 x y ⟨⟨a, hx, hn⟩, hy⟩ E hE Q => ⟨x, y, rfl, .inr ⟨a, ns, hx, hn, ok, .inr ⟨i, hy, i0, i1, hb, hE⟩⟩⟩
theorem er_tJ {f : Addr} {n o : Nm} (XC : Xs K mg cSumError cBadNumber cBadSum cNotAll cTooMany) (hF : HeldX P w K mg base 6 f (spJoinX K cBadNumber cTooMany)) (h1 : Evl.Ev tf σ H (.ref f)) (h2 : EvN td σ H n) (okn : Ok n) (h3 : EvN te σ H o) (oko : Ok o) (pj : Pairy (jn n o)) (hm : 500 < mny (jn n o)) :
    EvR (tCall (spToldL P w K mg base cSumError cBadNumber cBadSum cNotAll cTooMany) [] E0 (tCons tf (tCons td (tCons te tNil)))) σ H (fun H x => BlsAt H x (dueL 3)) :=
  er_told hF XC.mTooMany ⟨XC.xTooMany.is, XC.kTooMany_BadNumber, XC.kTooMany_BadSum, XC.kTooMany_NotAll, XC.kTooMany_TooMany, XC.vTooMany⟩ (by simp [dueL]) h1 (ea_2 isNum_mono (evp_n h2) (evp_n h3)) fun H1 x y ⟨⟨a, hx, hn⟩, ⟨b, hy, ho⟩⟩ E hE Q => ⟨x, y, rfl, .inr ⟨a, n, hx, hn, okn, .inr ⟨b, o, hy, ho, oko, pj, hm, hE⟩⟩⟩
theorem amt_mono {ns : Nm} : ∀ H1 H2 x, Ex H1 H2 → BadAmt K H1 ns x → BadAmt K H2 ns x := fun _ _ _ e h => h.ex e
end
abbrev st_law : Stmt := topS 43
abbrev nn_law : List Str := ["_law_script", "_law_far", "_law_due", "_law_k", "_law_number_here", "_law_kept", "_law_bad", "_law_door", "_law_one", "_law_parted", "_law_whole", "_law_amounts", "_law_thing", "_law_part"]
abbrev pp_law : List Str := ["_law_script"]
theorem sc_law : FnScope nn_law pp_law (defScope st_law) := ⟨rfl, rfl, rfl, by decide +kernel, rfl, by decide +kernel, by decide +kernel⟩
def spLaw (K : PySem.W.Frag) : Sp := fun vs H Q _ => ∃ (a : Addr) (ns : List Int), vs = [.ref a] ∧ SqL K H a (ns.map V.int) ∧ ns.length ≤ 63 ∧ (∀ z ∈ ns, z.natAbs < 2 ^ scB) ∧ ∀ H', Q (.bl true) H'
theorem ok_law {fa : Addr} {fd : FuncData} (T : Txt K mg) (XC : Xs K mg cSumError cBadNumber cBadSum cNotAll cTooMany) (D_law : Fun K "law" "law" st_law fa fd) (F__law_cell_at : Fd P w K mg base CX0 "_law_cell_at" 1 pp__law_cell_at (spCell K)) (F__law_value : Fd P w K mg base CX0 "_law_value" 2 pp__law_value spValue) (F__law_number : Fd P w K mg base CX0 "_law_number" 3 pp__law_number (spNumber K))
    (F__law_bad_numbers : Fd P w K mg base CX0 "_law_bad_numbers" 1 pp__law_bad_numbers (spBadN K)) (F__law_told : Fd P w K mg base CX0 "_law_told" 7 pp__law_told (spToldL P w K mg base cSumError cBadNumber cBadSum cNotAll cTooMany)) (F__law_with_number : Fd P w K mg base (L2N.CX P w) "_law_with_number" 6 pp__law_with_number (spWithN K cBadNumber)) (F__law_with_amount : Fd P w K mg base (L2N.CX P w) "_law_with_amount" 6 pp__law_with_amount (spMadeX K cBadNumber cBadSum cNotAll))
    (F_joined : Fd P w K mg base (L2N.CX P w) "joined" 5 pp_joined (spJoinX K cBadNumber cTooMany)) (F_worth : Fd P w K mg base (L2N.CX P w) "worth" 5 pp_worth (spWorthX K cBadNumber)) (F_total : Fd P w K mg base (L2N.CX P w) "total" 5 pp_total (spTotalX K cBadNumber)) (F_divisors : Fd P w K mg base (L2N.CX P w) "divisors" 5 pp_divisors (spDivisorsX K cBadNumber)) : FnOk P w K mg base CX0 8 fa fd pp_law (spLaw K) := by
  obtain ⟨f__law_with_number, fdN, okN, m__law_with_number, kpN, bN⟩ := F__law_with_number.ex
  obtain ⟨f__law_with_amount, fdA, okA, m__law_with_amount, kpA, bA⟩ := F__law_with_amount.ex
  obtain ⟨f_joined, fdJ, okJ, m_joined, kpJ, bJ⟩ := F_joined.ex
  have hN : HeldX P w K mg base 6 f__law_with_number (spWithN K cBadNumber) := ⟨fdN, _, okN, kpN, bN⟩
  have hA : HeldX P w K mg base 6 f__law_with_amount (spMadeX K cBadNumber cBadSum cNotAll) := ⟨fdA, _, okA, kpA, bA⟩
  have hJ : HeldX P w K mg base 6 f_joined (spJoinX K cBadNumber cTooMany) := ⟨fdJ, _, okJ.mono (by decide), kpJ, bJ⟩
  refine D_law.ok sc_law (fun vs H Q E h => ?_) (fun cdv A outer s H vs Q E hr h => ?_)
  · obtain ⟨a, ns, rfl, _⟩ := h; rfl
  · obtain ⟨a, ns, rfl, hS, hlen, hz, q⟩ := h
    refine ⟨_, (pss_cons (ps_asg (pe_tup (pa_cons (pe_fd F__law_value hr (by decide) pass0 (pa_cons (pe_fd F__law_cell_at hr (by decide) pass0 (pa_cons (pv 0) (pa_cons pe_int pa_nil))) (pa_cons pe_int (pa_cons pe_int pa_nil)))) (pa_cons (pe_lst pa_nil) pa_nil))) (pg_tup (by rfl) (pgs_cons (pg_name (i := 1) sc_law.nd rfl (by first | exact Or.inl rfl | exact Or.inr rfl)) (pgs_cons (pg_name (i := 2) sc_law.nd rfl (by first | exact Or.inl rfl | exact Or.inr rfl)) pgs_nil)))) (pss_cons (ps_for PassesOwn.never rfl (pi_range1 rfl T.b_range (pa_cons pe_int pa_nil)) (pg_name (i := 3) sc_law.nd rfl (by first | exact Or.inl rfl | exact Or.inr rfl)) (pss_one (ps_expr (pe_bm PySem.F.plainAttrs_list PySem.F.slot_list_append PySem.F.type_list_append mt_append (pv 2) (pa_cons (pe_lst (pa_cons (pe_cmpR op_eq (pv 3) pe_int (nomark _)) (pa_cons (pe_cmpR op_eq (pv 3) pe_int (nomark _)) (pa_cons (pe_cmpR op_eq (pv 3) pe_int (nomark _)) (pa_cons (pe_cmpR op_eq (pv 3) pe_int (nomark _)) (pa_cons pe_bl pa_nil)))))) pa_nil))))) (pss_cons (ps_set (i := 4) sc_law.nd rfl (by first | exact Or.inl rfl | exact Or.inr rfl) (pe_fd F__law_number hr (by decide) pass0 (pa_cons (pv 0) (pa_cons pe_int (pa_cons pe_int pa_nil))))) (pss_cons (ps_set (i := 5) sc_law.nd rfl (by first | exact Or.inl rfl | exact Or.inr rfl) (pe_callTy (call_listE (K := K)) (by rfl) T.b_list (by decide +kernel) (pa_cons (pv 4) pa_nil))) (pss_cons (ps_set (i := 6) sc_law.nd rfl (by first | exact Or.inl rfl | exact Or.inr rfl) (pe_fd F__law_bad_numbers hr (by decide) pass0 (pa_cons (pv 4) (pa_cons (pv 1) pa_nil)))) (pss_cons (ps_for PassesOwn.never rfl (pi_range1 rfl T.b_range (pa_cons pe_int pa_nil)) (pg_name (i := 7) sc_law.nd rfl (by first | exact Or.inl rfl | exact Or.inr rfl)) (pss_one (ps_if (pt_not (pt_val (pe_callB (cr_allE (K := K) rfl) (by rfl) T.b_all (by decide +kernel) (pa_cons (pe_lc (own := [("_law_thing", 12)]) (g := gName 12) (by rfl) sc_law.nd (pi_list (pv 6)) (blkOk_by (own := [("_law_thing", 12)]) (N := nn_law) (sc := defScope st_law) (by decide +kernel)) (fun _ _ _ _ _ => pg_name (i := 12) sc_law.nd rfl (Or.inl rfl)) (fun _ _ _ _ _ => pts_nil) (fun _ _ _ _ _ => (pe_cmpR (op_eqDE (K := K) hr.units) (pe_fd F__law_told hr (by decide) pass0 (pa_cons (pe_glob (v := .ref f__law_with_number) (by rfl) m__law_with_number rfl) (pa_cons (pv 7) (pa_cons (pv 12) pa_nil)))) (pe_ix (ix_listE (K := K)) (pv 2) pe_int (fun _ _ => rfl)) (nomark _)))) pa_nil)))) (pss_one (ps_ret pe_bl)) pss_nil))) (pss_cons (ps_for PassesOwn.never rfl (pi_range2 rfl T.b_range (pa_cons pe_int (pa_cons pe_int pa_nil))) (pg_name (i := 8) sc_law.nd rfl (by first | exact Or.inl rfl | exact Or.inr rfl)) (pss_cons (ps_set (i := 9) sc_law.nd rfl (by first | exact Or.inl rfl | exact Or.inr rfl) (pe_callB (cr_anyE (K := K) rfl) (by rfl) T.b_any (by decide +kernel) (pa_cons (pe_lc (own := [("_law_part", 13)]) (g := gName 13) (by rfl) sc_law.nd (pi_range2 rfl T.b_range (pa_cons pe_int (pa_cons pe_int pa_nil))) (blkOk_by (own := [("_law_part", 13)]) (N := nn_law) (sc := defScope st_law) (by decide +kernel)) (fun _ _ _ _ _ => pg_name (i := 13) sc_law.nd rfl (Or.inl rfl)) (fun _ _ _ _ _ => pts_one (pt_cmpR op_lt (pv 13) (pv 8) (nomark _))) (fun _ _ _ _ _ => (pe_cmpR op_eq (pe_op op_mod (pv 8) (pv 13)) pe_int (nomark _)))) pa_nil))) (pss_cons (ps_if (PW.pt (pw_and (pt_val (pv 9)) (pw_and1 (pt_cmpR (op_neDE (K := K) hr.units) (pe_fd F__law_told hr (by decide) pass0 (pa_cons (pe_glob (v := .ref f__law_with_number) (by rfl) m__law_with_number rfl) (pa_cons (pe_op op_mod (pe_op op_fdiv (pv 8) pe_int) pe_int) (pa_cons (pe_lst (pa_cons (pe_tup (pa_cons (pv 8) (pa_cons pe_int pa_nil))) pa_nil)) pa_nil)))) (pe_ix (ix_listE (K := K)) (pv 2) pe_int (fun _ _ => rfl)) (nomark _))))) (pss_one (ps_ret pe_bl)) pss_nil) (pss_one (ps_if (PW.pt (pw_and (pt_not (pt_val (pv 9))) (pw_and1 (pt_cmpR op_ne (pe_fd F_worth hr (by decide) passN (pa_cons (pe_lst (pa_cons (pe_tup (pa_cons (pv 8) (pa_cons pe_int pa_nil))) pa_nil)) pa_nil)) (pv 8) (nomark _))))) (pss_one (ps_ret pe_bl)) pss_nil))))) (pss_cons (ps_set (i := 10) sc_law.nd rfl (by first | exact Or.inl rfl | exact Or.inr rfl) (pe_fd F_total hr (by decide) passN (pa_cons (pv 4) pa_nil))) (pss_cons (ps_set (i := 11) sc_law.nd rfl (by first | exact Or.inl rfl | exact Or.inr rfl) (pe_lst (pa_cons pe_non (pa_cons pe_str (pa_cons pe_bl (pa_cons pe_bl (pa_cons (pe_lst (pa_cons pe_int pa_nil)) (pa_cons (pe_tup (pa_cons pe_int pa_nil)) (pa_cons pe_dnewK (pa_cons (pe_un un_neg pe_int) (pa_cons (pe_op op_sub (pe_un un_neg pe_int) (pv 1)) (pa_cons (pe_op op_add (pv 10) pe_int) (pa_cons (pe_op op_add (pe_op op_add (pv 10) pe_int) (pv 1)) pa_nil))))))))))))) (pss_cons (ps_if (pt_not (pt_val (pe_callB (cr_allE (K := K) rfl) (by rfl) T.b_all (by decide +kernel) (pa_cons (pe_lc (own := [("_law_thing", 12)]) (g := gName 12) (by rfl) sc_law.nd (pi_list (pv 11)) (blkOk_by (own := [("_law_thing", 12)]) (N := nn_law) (sc := defScope st_law) (by decide +kernel)) (fun _ _ _ _ _ => pg_name (i := 12) sc_law.nd rfl (Or.inl rfl)) (fun _ _ _ _ _ => pts_nil) (fun _ _ _ _ _ => (pe_cmpR (op_eqDE (K := K) hr.units) (pe_fd F__law_told hr (by decide) pass0 (pa_cons (pe_glob (v := .ref f__law_with_amount) (by rfl) m__law_with_amount rfl) (pa_cons (pv 4) (pa_cons (pv 12) pa_nil)))) (pe_ix (ix_listE (K := K)) (pv 2) pe_int (fun _ _ => rfl)) (nomark _)))) pa_nil)))) (pss_one (ps_ret pe_bl)) pss_nil) (pss_cons (ps_if (PW.pt (pw_or (pt_cmpR (op_neDE (K := K) hr.units) (pe_fd F__law_told hr (by decide) pass0 (pa_cons (pe_glob (v := .ref f__law_with_amount) (by rfl) m__law_with_amount rfl) (pa_cons (pe_lst (pa_cons (pe_tup (pa_cons pe_int (pa_cons pe_int pa_nil))) pa_nil)) (pa_cons pe_int pa_nil)))) (pe_ix (ix_listE (K := K)) (pv 2) pe_int (fun _ _ => rfl)) (nomark _)) (pw_or1 (pt_cmpR (op_neDE (K := K) hr.units) (pe_fd F__law_told hr (by decide) pass0 (pa_cons (pe_glob (v := .ref f_joined) (by rfl) m_joined rfl) (pa_cons (pe_lst (pa_cons (pe_tup (pa_cons pe_int (pa_cons pe_int pa_nil))) pa_nil)) (pa_cons (pe_lst (pa_cons (pe_tup (pa_cons pe_int (pa_cons pe_int pa_nil))) pa_nil)) pa_nil)))) (pe_ix (ix_listE (K := K)) (pv 2) pe_int (fun _ _ => rfl)) (nomark _))))) (pss_one (ps_ret pe_bl)) pss_nil) (pss_one (ps_ret (pe_and (pe_cmpR (op_eqDE (K := K) hr.units) (pv 4) (pv 5) (nomark _)) (pe_and (pe_cmpR op_eq (pe_callB (call_lenE (K := K)) (by rfl) T.b_len PySem.boot_len (pa_cons (pe_fd F_divisors hr (by decide) passN (pa_cons (pe_lst (pa_cons (pe_tup (pa_cons pe_int (pa_cons pe_int pa_nil))) pa_nil)) pa_nil)) pa_nil)) pe_int (nomark _)) (pe_one (pe_cmpR op_eq (pe_fd F_total hr (by decide) passN (pa_cons (pe_lst (pa_cons (pe_tup (pa_cons pe_int (pa_cons pe_int pa_nil))) pa_nil)) pa_nil)) pe_int (nomark _)))))))))))))))))), ?_⟩
    -- far, due
    refine ⟨.ref a, rfl, a, ns, 0, rfl, hS, hz, fun z sz => ⟨z, 900000, 3, rfl, sz, by decide, by decide, by decide, fun H1 far e1 f0 f1 => ⟨sizeL (by decide), fun du ndu => ⟨sizeL (by show 2 ≤ 100000; decide), fun t nt => ?_⟩⟩⟩⟩
    have e3 : Ex H (upd (upd H1 du (.lst [])) t (.tup [.int far, .ref du])) := ex_upd (ex_upd e1 ndu) nt
    have dt : du ≠ t := ne_of_none (upd_same (H := H1) (a := du) (o := .lst [])) nt
    have hdu : (upd (upd H1 du (.lst [])) t (.tup [.int far, .ref du])) du = some (.lst []) := by rw [upd_ne dt]; exact upd_same
    have nd0 : H du = none := fresh_back e1 ndu
    refine ⟨t, _, rfl, .inl (.inl upd_same), rfl, _, _, rfl, _, _, rfl, rfl, ?_⟩
    revert e3 hdu
    generalize upd (upd H1 du (.lst [])) t (.tup [.int far, .ref du]) = H2
    intro e2 hdu
    refine q_forR1 (ea_cons ev_c ea_nil) (by decide) (fun i σ H' => ∃ y3, σ = [some (.ref a), some (.int far), some (.ref du), y3, none, none, none, none, none, none, none, none, none, none] ∧ Ex H H' ∧ DueAt i H' du) (fun H3 e3 => ⟨none, rfl, e2.trans e3, [], e3 _ _ hdu, rfl, fun j hj => absurd hj (Nat.not_lt_zero _)⟩) ?_ ?_
    · rintro i σ H3 hi ⟨y3, rfl, e3, hd⟩
      obtain ⟨acc, ha, hl, _⟩ := id hd
      refine s_appL ha (ev_var rfl) (el_lst (vs := (dueL i).map V.bl) (ea_cons (ev_op (ev_var rfl) ev_c (rv_eq rfl)) (ea_cons (ev_op (ev_var rfl) ev_c (rv_eq rfl)) (ea_cons (ev_op (ev_var rfl) ev_c (rv_eq rfl)) (ea_cons (ev_op (ev_var rfl) ev_c (rv_eq rfl)) (ea_cons ev_c ea_nil))))) (by show 5 ≤ 100000; decide)) (by omega) fun p H4 np e4 hp => ?_
      exact ⟨_, rfl, Ex.mut (e3.trans e4) nd0, hd.snoc ha e4 np hp⟩
    rintro σ H3 ⟨y3, rfl, e3, hd⟩
    have hd : DueAt 4 H3 du := hd
    -- number, kept, bad
    refine ⟨.ref a, rfl, a, ns, 0, 100, rfl, ex_l e3 hS, hz, by decide, by decide, by decide, fun H4 nu ms e4 nn hn okn hm => ?_⟩
    refine q_asgF (ef_list (ev_var rfl) hn) fun ke H5 nk e5 hk => ?_
    refine ⟨.ref nu, rfl, _, rfl, nu, ms, far, rfl, hn.ex e5, okn, f0, f1, fun H6 ba e6 hb => ?_⟩
    obtain ⟨xs, hx, hlx, hbx⟩ := hb
    have hd6 := hd.ex ((e4.trans e5).trans e6)
    have hn6 := hn.ex (e5.trans e6)
    have hk6 := hk.ex e6
    -- all doors
    refine q_forR1 (ea_cons ev_c ea_nil) (by decide) (fun i σ H' => ∃ y7, σ = [some (.ref a), some (.int far), some (.ref du), y3, some (.ref nu), some (.ref ke), some (.ref ba), y7, none, none, none, none, none, none] ∧ Ex H6 H') (fun H7 e7 => ⟨none, rfl, e7⟩) ?_ ?_
    · rintro i σ H7 hi ⟨y7, rfl, e7⟩
      refine s_when (b := false) (et_is (et_not (et_B (ev_allL (bs := xs.map fun _ => true) (el_is (el_map (fun v => v) xs (fun _ => V.bl true) (ev_var rfl) (by rw [List.map_id']; exact SqL.of (e7 _ _ hx)) (by omega) (fun _ => rfl) fun x hxm H8 e8 => ?_) (by rw [List.map_map]; rfl))))) (by rw [all_true]; rfl)) (fun c => by cases c) fun _ H8 e8 => ⟨_, rfl, e7.trans e8⟩
      exact ev_eqB (er_tN XC hN ev_c (ev_var rfl) (evp_ev (ev_var rfl) fun H9 e9 => (hbx x hxm).ex ((e7.trans e8).trans e9))) (er_due rfl rfl (hd6.ex (e7.trans e8)) (by decide))
    rintro σ H7 ⟨y7, rfl, e7⟩
    have hd7 := hd6.ex e7
    have hn7 := hn6.ex e7
    have hk7 := hk6.ex e7
    -- all from 2 to 997
    refine q_forR2 (ea_cons ev_c (ea_cons ev_c ea_nil)) (by decide) (fun i σ H' => ∃ y8 y9, σ = [some (.ref a), some (.int far), some (.ref du), y3, some (.ref nu), some (.ref ke), some (.ref ba), y7, y8, y9, none, none, none, none] ∧ Ex H7 H') (fun H8 e8 => ⟨none, none, rfl, e8⟩) ?_ ?_
    · rintro i σ H8 hi ⟨y8, y9, rfl, e8⟩
      obtain ⟨one, hone⟩ : ∃ one : Int, one = 2 + (i : Int) := ⟨_, rfl⟩
      rw [← hone]
      have o1 : 2 ≤ one := by omega
      have o2 : one ≤ 997 := by omega
      refine q_asg (ev_anyParts (p := one) (fun _ => rfl) (fun _ => rfl) (fun _ => rfl)) fun H9 e9 => ?_
      have hd9 := hd7.ex (e8.trans e9)
      refine q_when (b := false) (et_is (et_and (a := parted one) (b := false) (et_B (ev_var rfl)) fun c => et_test (ev_neB (er_tN XC hN ev_c (ev_op (ev_op (ev_var rfl) ev_c (rv_I ⟨by decide, by decide⟩)) ev_c (rv_I (by show (0 : Int) < 7; decide))) (bad_1 (evp_pair (ev_var rfl) ev_c fun _ _ h => .fst h (prN (by unfold isPr; rw [c]; simp))))) (er_due rfl rfl hd9 (by decide)))) (Bool.and_false _)) (fun c => by cases c) fun _ H10 e10 => ?_
      refine s_when (b := false) (et_is (et_and (a := !parted one) (b := false) (et_not (et_B (ev_var rfl))) fun c => et_test ?_) (Bool.and_false _)) (fun c => by cases c) fun _ H11 e11 => ⟨_, _, rfl, ((e8.trans e9).trans e10).trans e11⟩
      have okp : Ok [(one, 1)] := okSnoc okNil ⟨o1, o2⟩ (by simpa using c) (by simp) (by decide) (by decide)
      refine ev_is (ev_op (ev_worthX (en_1V (k := 1) (ev_var rfl) ev_c) okp) (ev_var rfl) (rv_ne rfl)) ?_
      have ew : wth [(one, 1)] = one := by show 1 * one ^ 1 = one; rw [Int.one_mul, Int.pow_succ, Int.pow_zero, Int.one_mul]
      rw [ew, decide_eq_true rfl]
      rfl
    rintro σ H8 ⟨y8, y9, rfl, e8⟩
    have hd8 := hd7.ex e8
    have hn8 := hn7.ex e8
    have hk8 := hk7.ex e8
    -- whole, amounts
    refine q_asg (ev_totalX (en_var rfl hn8) okn) fun H9 e9 => ?_
    refine q_asgR (er_pl (amt_mono (K := K) (ns := ms)) (pl_cons (amt_mono (K := K) (ns := ms)) (evp_ev ev_c fun _ _ => .inl ni_non) (pl_cons (amt_mono (K := K) (ns := ms)) (evp_ev ev_c fun _ _ => .inl (ni_str _)) (pl_cons (amt_mono (K := K) (ns := ms)) (evp_ev ev_c fun _ _ => .inl (ni_bl _)) (pl_cons (amt_mono (K := K) (ns := ms)) (evp_ev ev_c fun _ _ => .inl (ni_bl _)) (pl_cons (amt_mono (K := K) (ns := ms)) (evp_lst (xs := [.int 1]) (ea_cons ev_c ea_nil) (by show 1 ≤ 100000; decide) fun _ _ _ h => .inl (ni_lst h)) (pl_cons (amt_mono (K := K) (ns := ms)) (evp_tup (xs := [.int 1]) (ea_cons ev_c ea_nil) (by show 1 ≤ 100000; decide) fun _ _ _ h => .inl (ni_tup h)) (pl_cons (amt_mono (K := K) (ns := ms)) (evp_dict fun _ _ h => .inl (ni_dict h))
      (pl_cons (amt_mono (K := K) (ns := ms)) (evp_ev (ev_un ev_c ru_neg) fun _ _ => .inr ⟨-1, rfl, .inl (by decide)⟩) (pl_cons (amt_mono (K := K) (ns := ms)) (evp_ev (ev_op (ev_un ev_c ru_neg) (ev_var rfl) rv_I0) fun _ _ => .inr ⟨_, rfl, .inl (by omega)⟩) (pl_cons (amt_mono (K := K) (ns := ms)) (evp_ev (ev_op (ev_var rfl) ev_c rv_I0) fun _ _ => .inr ⟨_, rfl, .inr (by omega)⟩) (pl_cons (amt_mono (K := K) (ns := ms)) (evp_ev (ev_op (ev_op (ev_var rfl) ev_c rv_I0) (ev_var rfl) rv_I0) fun _ _ => .inr ⟨_, rfl, .inr (by omega)⟩) pl_nil))))))))))) (by decide)) fun am H10 e10 hb => ?_
    obtain ⟨ys, hy, hly, hby⟩ := hb
    have hd10 := hd8.ex (e9.trans e10)
    have hn10 := hn8.ex (e9.trans e10)
    have hk10 := hk8.ex (e9.trans e10)
    refine q_when (b := false) (et_is (et_not (et_B (ev_allL (bs := ys.map fun _ => true) (el_is (el_map (fun v => v) ys (fun _ => V.bl true) (ev_var rfl) (by rw [List.map_id']; exact SqL.of hy) (by omega) (fun _ => rfl) fun x hxm H11 e11 => ?_) (by rw [List.map_map]; rfl))))) (by rw [all_true]; rfl)) (fun c => by cases c) fun _ H11 e11 => ?_
    · exact ev_eqB (er_tA XC hA ev_c (en_var rfl (hn10.ex e11)) okn (evp_ev (ev_var rfl) fun H12 e12 => (hby x hxm).ex (e11.trans e12))) (er_due rfl rfl (hd10.ex e11) (by decide))
    have hd11 := hd10.ex e11
    have okB3 : Ok [(3, 1)] := okB_ok (by decide +kernel)
    have okC : Ok [(2, 249)] := okB_ok (by decide +kernel)
    have okD : Ok [(3, 2)] := okB_ok (by decide +kernel)
    have okG : Ok [(2, 499)] := okB_ok (by decide +kernel)
    have okL : Ok [(997, 1)] := okB_ok (by decide +kernel)
    have rs : ∀ {a b : Int × Nat}, a.1 < b.1 → Rise [a, b] := fun h => List.pairwise_cons.mpr ⟨fun x hx => by rw [List.mem_singleton.mp hx]; exact h, List.pairwise_singleton _ _⟩
    have j1 : jn [(2, 249)] [(3, 2)] = [(2, 249), (3, 2)] := jn_is (by decide +kernel) (rs (by decide))
    refine q_when (b := false) (et_is (et_or (a := false) (b := false) (et_test (ev_neB (er_tB XC hA ev_c (en_1 (k := 1) rfl) okB3 ev_c (by decide) (by decide +kernel) (by decide +kernel)) (er_due rfl rfl hd11 (by decide)))) fun _ => et_test (ev_neB (er_tJ XC hJ ev_c (en_1 (k := 249) rfl) okC (en_1 (k := 2) rfl) okD (by rw [j1]; exact pairyB (by decide +kernel)) (by rw [j1]; decide +kernel)) (er_due rfl rfl hd11 (by decide)))) rfl) (fun c => by cases c) fun _ H12 e12 => ?_
    refine s_ret (ev_is (ev_andV (ev_eqN (en_var rfl (hn10.ex (e11.trans e12))) (en_var rfl (hk10.ex (e11.trans e12)))) fun _ => ev_andV (ev_op (ev_lenN (el_divX (cBadNumber := cBadNumber) (en_1 (k := 499) rfl) okG)) ev_c (rv_eq rfl)) fun _ => ev_op (ev_totalX (cBadNumber := cBadNumber) (en_1 (k := 1) rfl) okL) ev_c (rv_eq rfl)) ?_) fun H13 _ => q H13
    have l1 : ((divs [(2, 499)]).map V.int).length = 500 := by rw [List.length_map, divs_len]; decide +kernel
    have t1 : tot [(997, 1)] = 998 := by decide +kernel
    rw [l1, t1, decide_eq_true rfl]
    simp
theorem chain {fa : Addr} {fd : FuncData} (T : Txt K mg) (C : Cs K mg cAll cBarred) (XC : Xs K mg cSumError cBadNumber cBadSum cNotAll cTooMany) (D_is_whole : Df K mg "is_whole" st_is_whole pp_is_whole) (D_power_of : Df K mg "power_of" st_power_of pp_power_of) (D_total_of : Df K mg "total_of" st_total_of pp_total_of) (D_divisors_of : Df K mg "divisors_of" st_divisors_of pp_divisors_of) (D_bar_of : Df K mg "bar_of" st_bar_of pp_bar_of) (D__law_cell_at : Df K mg "_law_cell_at" st__law_cell_at pp__law_cell_at) (D__law_draw : Df K mg "_law_draw" st__law_draw pp__law_draw) (D__law_value : Df K mg "_law_value" st__law_value pp__law_value) (D__law_prime : Df K mg "_law_prime" st__law_prime pp__law_prime) (D__law_powers : Df K mg "_law_powers" st__law_powers pp__law_powers) (D__law_number : Df K mg "_law_number" st__law_number pp__law_number) (D_is_prime : Df K mg "is_prime" st_is_prime pp_is_prime) (D_is_pair : Df K mg "is_pair" st_is_pair pp_is_pair) (D_many_of : Df K mg "many_of" st_many_of pp_many_of) (D_check_number : Df K mg "check_number" st_check_number pp_check_number) (D_worth_of : Df K mg "worth_of" st_worth_of pp_worth_of) (D_Barred___init__ : Di K cBarred "Barred.__init__" st_Barred___init__ pp_Barred___init__) (D_worth : Df K mg "worth" st_worth pp_worth) (D_total : Df K mg "total" st_total pp_total) (D_divisors : Df K mg "divisors" st_divisors pp_divisors) (D_told : Df K mg "told" st_told pp_told) (D_made : Df K mg "made" st_made pp_made) (D_joined : Df K mg "joined" st_joined pp_joined) (D__law_with_number : Df K mg "_law_with_number" st__law_with_number pp__law_with_number) (D__law_with_amount : Df K mg "_law_with_amount" st__law_with_amount pp__law_with_amount) (D__law_kinds : Df K mg "_law_kinds" st__law_kinds pp__law_kinds) (D__law_told : Df K mg "_law_told" st__law_told pp__law_told) (D__law_bad_numbers : Df K mg "_law_bad_numbers" st__law_bad_numbers pp__law_bad_numbers) (D_law : Fun K "law" "law" st_law fa fd) : FnOk P w K mg base CX0 8 fa fd pp_law (spLaw K) := by
  have F_is_whole := ok_is_whole (P := P) (w := w) (base := base) T D_is_whole
  have F_power_of := ok_power_of (P := P) (w := w) (base := base) T D_power_of
  have F_total_of := ok_total_of (P := P) (w := w) (base := base) T D_total_of F_power_of
  have F_divisors_of := ok_divisors_of (P := P) (w := w) (base := base) T D_divisors_of
  have F_bar_of := ok_bar_of (P := P) (w := w) (base := base) T D_bar_of F_total_of
  have F__law_cell_at := ok__law_cell_at (P := P) (w := w) (base := base) T D__law_cell_at
  have F__law_draw := ok__law_draw (P := P) (w := w) (base := base) T D__law_draw
  have F__law_value := ok__law_value (P := P) (w := w) (base := base) T D__law_value F__law_draw
  have F__law_prime := ok__law_prime (P := P) (w := w) (base := base) T D__law_prime
  have F__law_powers := ok__law_powers (P := P) (w := w) (base := base) T D__law_powers
  have F__law_number := ok__law_number (P := P) (w := w) (base := base) T D__law_number F__law_cell_at F__law_draw F__law_value F__law_prime F__law_powers
  have F_is_prime := ok_is_prime (P := P) (w := w) (base := base) T D_is_prime F_is_whole
  have F_is_pair := ok_is_pair (P := P) (w := w) (base := base) T D_is_pair F_is_whole F_is_prime
  have F_many_of := ok_many_of (P := P) (w := w) (base := base) T D_many_of
  have F_check_number := ok_check_number (P := P) (w := w) (base := base) T XC D_check_number F_is_pair F_many_of
  have F_worth_of := ok_worth_of (P := P) (w := w) (base := base) T D_worth_of F_power_of
  have F_Barred___init__ := ok_Barred___init__ (P := P) (w := w) (base := base) T C D_Barred___init__
  have F_worth := ok_worth (P := P) (w := w) (base := base) T XC D_worth F_check_number F_worth_of
  have F_total := ok_total (P := P) (w := w) (base := base) T XC D_total F_check_number F_total_of
  have F_divisors := ok_divisors (P := P) (w := w) (base := base) T XC D_divisors F_check_number F_divisors_of
  have F_told := ok_told (P := P) (w := w) (base := base) T C XC D_told F_check_number F_bar_of F_Barred___init__
  have F_made := ok_made (P := P) (w := w) (base := base) T XC D_made F_check_number F_is_whole F_total_of F_bar_of F_divisors_of
  have F_joined := ok_joined (P := P) (w := w) (base := base) T XC D_joined F_check_number F_many_of
  have F__law_with_number := ok__law_with_number (P := P) (w := w) (base := base) T D__law_with_number F_worth F_total F_divisors F_told F_made F_joined
  have F__law_with_amount := ok__law_with_amount (P := P) (w := w) (base := base) T D__law_with_amount F_made
  have F__law_kinds := ok__law_kinds (P := P) (w := w) (base := base) T XC D__law_kinds
  have F__law_told := ok__law_told (P := P) (w := w) (base := base) T XC D__law_told F__law_kinds
  have F__law_bad_numbers := ok__law_bad_numbers (P := P) (w := w) (base := base) T D__law_bad_numbers
  exact ok_law T XC D_law F__law_cell_at F__law_value F__law_number F__law_bad_numbers F__law_told F__law_with_number F__law_with_amount F_joined F_worth F_total F_divisors
theorem fin {h : Heap} {fa f : Addr} (X : K.In h) (G : h.Ns mainGlobals mg) (hfa : mg "law" = some (.ref fa)) (aL : PySem.W.nsIn K mainGlobals "law" = some (some (.ref f)))
    (L : ∃ fd : FuncData, (∀ (s : Shared) (u : Value), BindsTo s fd ⟨[u], []⟩ [("_law_script", u)]) ∧ Fun K "law" "law" st_law f fd) (T : Txt K mg) (C : Cs K mg cAll cBarred) (XC : Xs K mg cSumError cBadNumber cBadSum cNotAll cTooMany) (D_is_whole : Df K mg "is_whole" st_is_whole pp_is_whole) (D_power_of : Df K mg "power_of" st_power_of pp_power_of) (D_total_of : Df K mg "total_of" st_total_of pp_total_of) (D_divisors_of : Df K mg "divisors_of" st_divisors_of pp_divisors_of) (D_bar_of : Df K mg "bar_of" st_bar_of pp_bar_of) (D__law_cell_at : Df K mg "_law_cell_at" st__law_cell_at pp__law_cell_at) (D__law_draw : Df K mg "_law_draw" st__law_draw pp__law_draw) (D__law_value : Df K mg "_law_value" st__law_value pp__law_value) (D__law_prime : Df K mg "_law_prime" st__law_prime pp__law_prime) (D__law_powers : Df K mg "_law_powers" st__law_powers pp__law_powers) (D__law_number : Df K mg "_law_number" st__law_number pp__law_number) (D_is_prime : Df K mg "is_prime" st_is_prime pp_is_prime) (D_is_pair : Df K mg "is_pair" st_is_pair pp_is_pair) (D_many_of : Df K mg "many_of" st_many_of pp_many_of) (D_check_number : Df K mg "check_number" st_check_number pp_check_number) (D_worth_of : Df K mg "worth_of" st_worth_of pp_worth_of) (D_Barred___init__ : Di K cBarred "Barred.__init__" st_Barred___init__ pp_Barred___init__) (D_worth : Df K mg "worth" st_worth pp_worth) (D_total : Df K mg "total" st_total pp_total) (D_divisors : Df K mg "divisors" st_divisors pp_divisors) (D_told : Df K mg "told" st_told pp_told) (D_made : Df K mg "made" st_made pp_made) (D_joined : Df K mg "joined" st_joined pp_joined) (D__law_with_number : Df K mg "_law_with_number" st__law_with_number pp__law_with_number) (D__law_with_amount : Df K mg "_law_with_amount" st__law_with_amount pp__law_with_amount) (D__law_kinds : Df K mg "_law_kinds" st__law_kinds pp__law_kinds) (D__law_told : Df K mg "_law_told" st__law_told pp__law_told) (D__law_bad_numbers : Df K mg "_law_bad_numbers" st__law_bad_numbers pp__law_bad_numbers) :
    ∃ fd : FuncData, (∀ (s : Shared) (u : Value), BindsTo s fd ⟨[u], []⟩ [("_law_script", u)]) ∧ ∀ base : Heap, K.In base → base.Ns mainGlobals mg → FnOk P w K mg base CX0 8 fa fd ["_law_script"] (spLaw K) := by
  have e := hfa.symm.trans (PySem.W.mg_of X G aL)
  cases e
  obtain ⟨fd, hb, D_law⟩ := L
  exact ⟨fd, hb, fun base _ _ => chain T C XC D_is_whole D_power_of D_total_of D_divisors_of D_bar_of D__law_cell_at D__law_draw D__law_value D__law_prime D__law_powers D__law_number D_is_prime D_is_pair D_many_of D_check_number D_worth_of D_Barred___init__ D_worth D_total D_divisors D_told D_made D_joined D__law_with_number D__law_with_amount D__law_kinds D__law_told D__law_bad_numbers D_law⟩
end
end Ew
open PySem PySem.W PyProof.Rows
set_option maxHeartbeats 0 in
theorem PySem.Challenge.cw_everysum_k05_refused_holds : PySem.Challenge.rw_everysum_k05_refused.Holds := by
  w_on; o_law; k_head; (case hw => w_witness2)
  k_fill
  refine L2.walk_ofB (l := PySem.Challenge.rw_everysum_k05_refused) (n := 63) (k := 8) (x := "_law_script") (CX := fun _ => L2.CX0) (sp := fun w => Ew.spLaw _) rfl (by decide) rfl ⟨rfl, by decide, by decide⟩ (fun w h Y => PySem.W.kIn_of Y) ?F (fun _ _ a ns hl hb _ hS => ⟨a, ns, rfl, hS, hl, fun z hz => Ew.bits_lt (hb z hz), fun _ => rfl⟩) (fun _ _ _ _ _ h => h)
  case F =>
    intro w mg fa h KX G hmg
    refine' Ew.fin KX G hmg ?aL
      (Ew.law_mk ?lL ?cL ?kL (fun _ _ _ _ _ _ _ => rfl))
      ⟨PySem.W.mg_none_of KX G ?z_b_len, PySem.W.mg_none_of KX G ?z_b_range, PySem.W.mg_none_of KX G ?z_b_isinstance, PySem.W.mg_none_of KX G ?z_b_int, PySem.W.mg_none_of KX G ?z_b_bool, PySem.W.mg_none_of KX G ?z_b_list, PySem.W.mg_none_of KX G ?z_b_tuple, PySem.W.mg_none_of KX G ?z_b_set, PySem.W.mg_none_of KX G ?z_b_sum, PySem.W.mg_none_of KX G ?z_b_any, PySem.W.mg_none_of KX G ?z_b_all, PySem.W.mg_none_of KX G ?z_b_sorted, PySem.W.mg_none_of KX G ?z_b_min, PySem.W.mg_none_of KX G ?z_b_max, PySem.W.mg_none_of KX G ?z_b_enumerate, PySem.W.mg_none_of KX G ?z_b_ValueError, ⟨_, PySem.W.mg_of KX G ?gc_gGREATEST⟩, ⟨_, PySem.W.mg_of KX G ?gc_gMOST⟩⟩
      ⟨PySem.W.mg_of KX G ?gc_gAll, PySem.W.mg_of KX G ?gc_gBarred, ⟨?pg_lAll, ?hd_lAll, ?po_lAll, ?sa_lAll⟩, ⟨?pg_lBarred, ?hd_lBarred, ?po_lBarred, ?sa_lBarred⟩, ⟨?mk_nAll, ?in_nAll, ?kp_nAll⟩, ?x_aBarred⟩
      ⟨PySem.W.mg_of KX G ?gc_gSumError, PySem.W.mg_of KX G ?gc_gBadNumber, PySem.W.mg_of KX G ?gc_gBadSum, PySem.W.mg_of KX G ?gc_gNotAll, PySem.W.mg_of KX G ?gc_gTooMany, ⟨?ex_xBadNumber, ?kp_xBadNumber, ?ty_xBadNumber, ⟨?e0_xBadNumber, ?e1_xBadNumber, ?e2_xBadNumber, ?e3_xBadNumber, ?e4_xBadNumber, ?e5_xBadNumber, ?e6_xBadNumber, ?e7_xBadNumber⟩⟩, ⟨?ex_xBadSum, ?kp_xBadSum, ?ty_xBadSum, ⟨?e0_xBadSum, ?e1_xBadSum, ?e2_xBadSum, ?e3_xBadSum, ?e4_xBadSum, ?e5_xBadSum, ?e6_xBadSum, ?e7_xBadSum⟩⟩, ⟨?ex_xNotAll, ?kp_xNotAll, ?ty_xNotAll, ⟨?e0_xNotAll, ?e1_xNotAll, ?e2_xNotAll, ?e3_xNotAll, ?e4_xNotAll, ?e5_xNotAll, ?e6_xNotAll, ?e7_xNotAll⟩⟩, ⟨?ex_xTooMany, ?kp_xTooMany, ?ty_xTooMany, ⟨?e0_xTooMany, ?e1_xTooMany, ?e2_xTooMany, ?e3_xTooMany, ?e4_xTooMany, ?e5_xTooMany, ?e6_xTooMany, ?e7_xTooMany⟩⟩, ?x_mBadNumber, ?x_mBadSum, ?x_mNotAll, ?x_mTooMany, ?x_kBadNumber_BadNumber, ?x_kBadNumber_BadSum, ?x_kBadNumber_NotAll, ?x_kBadNumber_TooMany, ?x_kBadSum_BadNumber, ?x_kBadSum_BadSum, ?x_kBadSum_NotAll, ?x_kBadSum_TooMany, ?x_kNotAll_BadNumber, ?x_kNotAll_BadSum, ?x_kNotAll_NotAll, ?x_kNotAll_TooMany, ?x_kTooMany_BadNumber, ?x_kTooMany_BadSum, ?x_kTooMany_NotAll, ?x_kTooMany_TooMany, ?x_vBadNumber, ?x_vBadSum, ?x_vNotAll, ?x_vTooMany⟩
      (Ew.df_mk KX G ?a_is_whole ?l_is_whole ?c_is_whole ?k_is_whole (fun _ _ _ _ _ _ us hl => match us, hl with | [_], _ => rfl))
      (Ew.df_mk KX G ?a_power_of ?l_power_of ?c_power_of ?k_power_of (fun _ _ _ _ _ _ us hl => match us, hl with | [_, _], _ => rfl))
      (Ew.df_mk KX G ?a_total_of ?l_total_of ?c_total_of ?k_total_of (fun _ _ _ _ _ _ us hl => match us, hl with | [_], _ => rfl))
      (Ew.df_mk KX G ?a_divisors_of ?l_divisors_of ?c_divisors_of ?k_divisors_of (fun _ _ _ _ _ _ us hl => match us, hl with | [_], _ => rfl))
      (Ew.df_mk KX G ?a_bar_of ?l_bar_of ?c_bar_of ?k_bar_of (fun _ _ _ _ _ _ us hl => match us, hl with | [_], _ => rfl))
      (Ew.df_mk KX G ?a__law_cell_at ?l__law_cell_at ?c__law_cell_at ?k__law_cell_at (fun _ _ _ _ _ _ us hl => match us, hl with | [_, _], _ => rfl))
      (Ew.df_mk KX G ?a__law_draw ?l__law_draw ?c__law_draw ?k__law_draw (fun _ _ _ _ _ _ us hl => match us, hl with | [_, _, _], _ => rfl))
      (Ew.df_mk KX G ?a__law_value ?l__law_value ?c__law_value ?k__law_value (fun _ _ _ _ _ _ us hl => match us, hl with | [_, _, _], _ => rfl))
      (Ew.df_mk KX G ?a__law_prime ?l__law_prime ?c__law_prime ?k__law_prime (fun _ _ _ _ _ _ us hl => match us, hl with | [_], _ => rfl))
      (Ew.df_mk KX G ?a__law_powers ?l__law_powers ?c__law_powers ?k__law_powers (fun _ _ _ _ _ _ us hl => match us, hl with | [_, _], _ => rfl))
      (Ew.df_mk KX G ?a__law_number ?l__law_number ?c__law_number ?k__law_number (fun _ _ _ _ _ _ us hl => match us, hl with | [_, _, _], _ => rfl))
      (Ew.df_mk KX G ?a_is_prime ?l_is_prime ?c_is_prime ?k_is_prime (fun _ _ _ _ _ _ us hl => match us, hl with | [_], _ => rfl))
      (Ew.df_mk KX G ?a_is_pair ?l_is_pair ?c_is_pair ?k_is_pair (fun _ _ _ _ _ _ us hl => match us, hl with | [_], _ => rfl))
      (Ew.df_mk KX G ?a_many_of ?l_many_of ?c_many_of ?k_many_of (fun _ _ _ _ _ _ us hl => match us, hl with | [_], _ => rfl))
      (Ew.df_mk KX G ?a_check_number ?l_check_number ?c_check_number ?k_check_number (fun _ _ _ _ _ _ us hl => match us, hl with | [_], _ => rfl))
      (Ew.df_mk KX G ?a_worth_of ?l_worth_of ?c_worth_of ?k_worth_of (fun _ _ _ _ _ _ us hl => match us, hl with | [_], _ => rfl))
      (Ew.di_mk ?m_Barred___init__ ?a_Barred___init__ ?i_Barred___init__ ?kc_Barred___init__ ?l_Barred___init__ ?c_Barred___init__ ?k_Barred___init__ (fun _ _ _ _ _ _ us hl => match us, hl with | [_, _], _ => rfl))
      (Ew.df_mk KX G ?a_worth ?l_worth ?c_worth ?k_worth (fun _ _ _ _ _ _ us hl => match us, hl with | [_], _ => rfl))
      (Ew.df_mk KX G ?a_total ?l_total ?c_total ?k_total (fun _ _ _ _ _ _ us hl => match us, hl with | [_], _ => rfl))
      (Ew.df_mk KX G ?a_divisors ?l_divisors ?c_divisors ?k_divisors (fun _ _ _ _ _ _ us hl => match us, hl with | [_], _ => rfl))
      (Ew.df_mk KX G ?a_told ?l_told ?c_told ?k_told (fun _ _ _ _ _ _ us hl => match us, hl with | [_], _ => rfl))
      (Ew.df_mk KX G ?a_made ?l_made ?c_made ?k_made (fun _ _ _ _ _ _ us hl => match us, hl with | [_, _], _ => rfl))
      (Ew.df_mk KX G ?a_joined ?l_joined ?c_joined ?k_joined (fun _ _ _ _ _ _ us hl => match us, hl with | [_, _], _ => rfl))
      (Ew.df_mk KX G ?a__law_with_number ?l__law_with_number ?c__law_with_number ?k__law_with_number (fun _ _ _ _ _ _ us hl => match us, hl with | [_, _], _ => rfl))
      (Ew.df_mk KX G ?a__law_with_amount ?l__law_with_amount ?c__law_with_amount ?k__law_with_amount (fun _ _ _ _ _ _ us hl => match us, hl with | [_, _], _ => rfl))
      (Ew.df_mk KX G ?a__law_kinds ?l__law_kinds ?c__law_kinds ?k__law_kinds (fun _ _ _ _ _ _ us hl => match us, hl with | [_], _ => rfl))
      (Ew.df_mk KX G ?a__law_told ?l__law_told ?c__law_told ?k__law_told (fun _ _ _ _ _ _ us hl => match us, hl with | [_, _, _], _ => rfl))
      (Ew.df_mk KX G ?a__law_bad_numbers ?l__law_bad_numbers ?c__law_bad_numbers ?k__law_bad_numbers (fun _ _ _ _ _ _ us hl => match us, hl with | [_, _], _ => rfl))
    (case gc_gGREATEST => first | k_is | rfl)
    (case gc_gMOST => first | k_is | rfl)
    (case gc_gAll => first | k_is | rfl)
    (case gc_gBarred => first | k_is | rfl)
    (case gc_gSumError => first | k_is | rfl)
    (case gc_gBadNumber => first | k_is | rfl)
    (case gc_gBadSum => first | k_is | rfl)
    (case gc_gNotAll => first | k_is | rfl)
    (case gc_gTooMany => first | k_is | rfl)
    (case aL => first | k_is | rfl)
    (case lL => first | k_is | rfl)
    (case cL => first | k_is | rfl)
    (case kL => first | k_is | rfl)
    (case z_b_len => first | k_is | rfl)
    (case z_b_range => first | k_is | rfl)
    (case z_b_isinstance => first | k_is | rfl)
    (case z_b_int => first | k_is | rfl)
    (case z_b_bool => first | k_is | rfl)
    (case z_b_list => first | k_is | rfl)
    (case z_b_tuple => first | k_is | rfl)
    (case z_b_set => first | k_is | rfl)
    (case z_b_sum => first | k_is | rfl)
    (case z_b_any => first | k_is | rfl)
    (case z_b_all => first | k_is | rfl)
    (case z_b_sorted => first | k_is | rfl)
    (case z_b_min => first | k_is | rfl)
    (case z_b_max => first | k_is | rfl)
    (case z_b_enumerate => first | k_is | rfl)
    (case z_b_ValueError => first | k_is | rfl)
    (case pg_lAll => first | k_is | rfl)
    (case hd_lAll => first | k_is | rfl)
    (case po_lAll => first | k_is | rfl)
    (case sa_lAll => first | k_is | rfl)
    (case pg_lBarred => first | k_is | rfl)
    (case hd_lBarred => first | k_is | rfl)
    (case po_lBarred => first | k_is | rfl)
    (case sa_lBarred => first | k_is | rfl)
    (case mk_nAll => first | k_is | rfl)
    (case in_nAll => first | k_is | rfl)
    (case kp_nAll => first | k_is | rfl)
    (case x_aBarred => first | k_is | rfl)
    (case ex_xBadNumber => first | k_exc | k_is | rfl)
    (case kp_xBadNumber => first | k_is | rfl)
    (case ty_xBadNumber => first | k_is | rfl)
    (case e0_xBadNumber => first | k_is | rfl)
    (case e1_xBadNumber => first | k_is | rfl)
    (case e2_xBadNumber => first | k_is | rfl)
    (case e3_xBadNumber => first | k_is | rfl)
    (case e4_xBadNumber => first | k_is | rfl)
    (case e5_xBadNumber => first | k_is | rfl)
    (case e6_xBadNumber => first | k_is | rfl)
    (case e7_xBadNumber => first | k_is | rfl)
    (case ex_xBadSum => first | k_exc | k_is | rfl)
    (case kp_xBadSum => first | k_is | rfl)
    (case ty_xBadSum => first | k_is | rfl)
    (case e0_xBadSum => first | k_is | rfl)
    (case e1_xBadSum => first | k_is | rfl)
    (case e2_xBadSum => first | k_is | rfl)
    (case e3_xBadSum => first | k_is | rfl)
    (case e4_xBadSum => first | k_is | rfl)
    (case e5_xBadSum => first | k_is | rfl)
    (case e6_xBadSum => first | k_is | rfl)
    (case e7_xBadSum => first | k_is | rfl)
    (case ex_xNotAll => first | k_exc | k_is | rfl)
    (case kp_xNotAll => first | k_is | rfl)
    (case ty_xNotAll => first | k_is | rfl)
    (case e0_xNotAll => first | k_is | rfl)
    (case e1_xNotAll => first | k_is | rfl)
    (case e2_xNotAll => first | k_is | rfl)
    (case e3_xNotAll => first | k_is | rfl)
    (case e4_xNotAll => first | k_is | rfl)
    (case e5_xNotAll => first | k_is | rfl)
    (case e6_xNotAll => first | k_is | rfl)
    (case e7_xNotAll => first | k_is | rfl)
    (case ex_xTooMany => first | k_exc | k_is | rfl)
    (case kp_xTooMany => first | k_is | rfl)
    (case ty_xTooMany => first | k_is | rfl)
    (case e0_xTooMany => first | k_is | rfl)
    (case e1_xTooMany => first | k_is | rfl)
    (case e2_xTooMany => first | k_is | rfl)
    (case e3_xTooMany => first | k_is | rfl)
    (case e4_xTooMany => first | k_is | rfl)
    (case e5_xTooMany => first | k_is | rfl)
    (case e6_xTooMany => first | k_is | rfl)
    (case e7_xTooMany => first | k_is | rfl)
    (case x_mBadNumber => first | k_is | rfl)
    (case x_mBadSum => first | k_is | rfl)
    (case x_mNotAll => first | k_is | rfl)
    (case x_mTooMany => first | k_is | rfl)
    (case x_kBadNumber_BadNumber => first | k_is | rfl)
    (case x_kBadNumber_BadSum => first | k_is | rfl)
    (case x_kBadNumber_NotAll => first | k_is | rfl)
    (case x_kBadNumber_TooMany => first | k_is | rfl)
    (case x_kBadSum_BadNumber => first | k_is | rfl)
    (case x_kBadSum_BadSum => first | k_is | rfl)
    (case x_kBadSum_NotAll => first | k_is | rfl)
    (case x_kBadSum_TooMany => first | k_is | rfl)
    (case x_kNotAll_BadNumber => first | k_is | rfl)
    (case x_kNotAll_BadSum => first | k_is | rfl)
    (case x_kNotAll_NotAll => first | k_is | rfl)
    (case x_kNotAll_TooMany => first | k_is | rfl)
    (case x_kTooMany_BadNumber => first | k_is | rfl)
    (case x_kTooMany_BadSum => first | k_is | rfl)
    (case x_kTooMany_NotAll => first | k_is | rfl)
    (case x_kTooMany_TooMany => first | k_is | rfl)
    (case x_vBadNumber => first | k_is | rfl)
    (case x_vBadSum => first | k_is | rfl)
    (case x_vNotAll => first | k_is | rfl)
    (case x_vTooMany => first | k_is | rfl)
    (case a_is_whole => first | k_is | rfl)
    (case l_is_whole => first | k_is | rfl)
    (case c_is_whole => first | k_is | rfl)
    (case k_is_whole => first | k_is | rfl)
    (case a_power_of => first | k_is | rfl)
    (case l_power_of => first | k_is | rfl)
    (case c_power_of => first | k_is | rfl)
    (case k_power_of => first | k_is | rfl)
    (case a_total_of => first | k_is | rfl)
    (case l_total_of => first | k_is | rfl)
    (case c_total_of => first | k_is | rfl)
    (case k_total_of => first | k_is | rfl)
    (case a_divisors_of => first | k_is | rfl)
    (case l_divisors_of => first | k_is | rfl)
    (case c_divisors_of => first | k_is | rfl)
    (case k_divisors_of => first | k_is | rfl)
    (case a_bar_of => first | k_is | rfl)
    (case l_bar_of => first | k_is | rfl)
    (case c_bar_of => first | k_is | rfl)
    (case k_bar_of => first | k_is | rfl)
    (case a__law_cell_at => first | k_is | rfl)
    (case l__law_cell_at => first | k_is | rfl)
    (case c__law_cell_at => first | k_is | rfl)
    (case k__law_cell_at => first | k_is | rfl)
    (case a__law_draw => first | k_is | rfl)
    (case l__law_draw => first | k_is | rfl)
    (case c__law_draw => first | k_is | rfl)
    (case k__law_draw => first | k_is | rfl)
    (case a__law_value => first | k_is | rfl)
    (case l__law_value => first | k_is | rfl)
    (case c__law_value => first | k_is | rfl)
    (case k__law_value => first | k_is | rfl)
    (case a__law_prime => first | k_is | rfl)
    (case l__law_prime => first | k_is | rfl)
    (case c__law_prime => first | k_is | rfl)
    (case k__law_prime => first | k_is | rfl)
    (case a__law_powers => first | k_is | rfl)
    (case l__law_powers => first | k_is | rfl)
    (case c__law_powers => first | k_is | rfl)
    (case k__law_powers => first | k_is | rfl)
    (case a__law_number => first | k_is | rfl)
    (case l__law_number => first | k_is | rfl)
    (case c__law_number => first | k_is | rfl)
    (case k__law_number => first | k_is | rfl)
    (case a_is_prime => first | k_is | rfl)
    (case l_is_prime => first | k_is | rfl)
    (case c_is_prime => first | k_is | rfl)
    (case k_is_prime => first | k_is | rfl)
    (case a_is_pair => first | k_is | rfl)
    (case l_is_pair => first | k_is | rfl)
    (case c_is_pair => first | k_is | rfl)
    (case k_is_pair => first | k_is | rfl)
    (case a_many_of => first | k_is | rfl)
    (case l_many_of => first | k_is | rfl)
    (case c_many_of => first | k_is | rfl)
    (case k_many_of => first | k_is | rfl)
    (case a_check_number => first | k_is | rfl)
    (case l_check_number => first | k_is | rfl)
    (case c_check_number => first | k_is | rfl)
    (case k_check_number => first | k_is | rfl)
    (case a_worth_of => first | k_is | rfl)
    (case l_worth_of => first | k_is | rfl)
    (case c_worth_of => first | k_is | rfl)
    (case k_worth_of => first | k_is | rfl)
    (case m_Barred___init__ => first | k_is | rfl)
    (case a_Barred___init__ => first | k_is | rfl)
    (case i_Barred___init__ => first | k_is | rfl)
    (case kc_Barred___init__ => first | k_is | rfl)
    (case l_Barred___init__ => first | k_is | rfl)
    (case c_Barred___init__ => first | k_is | rfl)
    (case k_Barred___init__ => first | k_is | rfl)
    (case a_worth => first | k_is | rfl)
    (case l_worth => first | k_is | rfl)
    (case c_worth => first | k_is | rfl)
    (case k_worth => first | k_is | rfl)
    (case a_total => first | k_is | rfl)
    (case l_total => first | k_is | rfl)
    (case c_total => first | k_is | rfl)
    (case k_total => first | k_is | rfl)
    (case a_divisors => first | k_is | rfl)
    (case l_divisors => first | k_is | rfl)
    (case c_divisors => first | k_is | rfl)
    (case k_divisors => first | k_is | rfl)
    (case a_told => first | k_is | rfl)
    (case l_told => first | k_is | rfl)
    (case c_told => first | k_is | rfl)
    (case k_told => first | k_is | rfl)
    (case a_made => first | k_is | rfl)
    (case l_made => first | k_is | rfl)
    (case c_made => first | k_is | rfl)
    (case k_made => first | k_is | rfl)
    (case a_joined => first | k_is | rfl)
    (case l_joined => first | k_is | rfl)
    (case c_joined => first | k_is | rfl)
    (case k_joined => first | k_is | rfl)
    (case a__law_with_number => first | k_is | rfl)
    (case l__law_with_number => first | k_is | rfl)
    (case c__law_with_number => first | k_is | rfl)
    (case k__law_with_number => first | k_is | rfl)
    (case a__law_with_amount => first | k_is | rfl)
    (case l__law_with_amount => first | k_is | rfl)
    (case c__law_with_amount => first | k_is | rfl)
    (case k__law_with_amount => first | k_is | rfl)
    (case a__law_kinds => first | k_is | rfl)
    (case l__law_kinds => first | k_is | rfl)
    (case c__law_kinds => first | k_is | rfl)
    (case k__law_kinds => first | k_is | rfl)
    (case a__law_told => first | k_is | rfl)
    (case l__law_told => first | k_is | rfl)
    (case c__law_told => first | k_is | rfl)
    (case k__law_told => first | k_is | rfl)
    (case a__law_bad_numbers => first | k_is | rfl)
    (case l__law_bad_numbers => first | k_is | rfl)
    (case c__law_bad_numbers => first | k_is | rfl)
    (case k__law_bad_numbers => first | k_is | rfl)

import PyProof.Rows.All
import Wide.All
import OpenK.AllK
import Wide.FinOn
import HandS.ForMost
import HandS.IsInst
import HandS.Codes
import HandS.TupLe
import HandS.TupAny
import HandS.Zip
import HandS.Deep
import HandS.Star
import HandS.Style
import HandS.SortInts
import HandS.WideMore
import HandS.DictComp
import HandS.EndBits
import KE.GoesNew
import KE.GoesMore
import HandS.Walk
import KE.DataFind
import KE.KDictSum
import KE.KDictCopyH
import KE.KeyNested
import KE.KDictKeyed
import HandS.TupSets
import KE.KTupSum
import PySem.Challenge.RW_middlerows_k74_whole_bounds_from_both_si
set_option linter.all false
set_option maxHeartbeats 4000000
/-! The plain law: half rows, payments, a flow that can't be led on, and what it bounds. -/
namespace K74
abbrev Wt := Int × Int
abbrev Rl := Wt × Wt
def off (w : Wt) : Wt := (w.1, 1 - w.2)
def OkW (n : Nat) (w : Wt) : Prop := 0 ≤ w.1 ∧ w.1 < (n : Int) ∧ (w.2 = 0 ∨ w.2 = 1)
theorem off_off (w : Wt) : off (off w) = w := by
  cases w with
  | mk a b =>
    show ((a, 1 - (1 - b)) : Wt) = (a, b)
    have e : 1 - (1 - b) = b := by omega
    rw [e]
theorem OkW.off {n : Nat} {w : Wt} (h : OkW n w) : OkW n (off w) := by
  obtain ⟨h1, h2, h3⟩ := h
  exact ⟨h1, h2, by show 1 - w.2 = 0 ∨ 1 - w.2 = 1; omega⟩
theorem off_inj {a b : Wt} (h : off a = off b) : a = b := by
  have e := congrArg off h
  rw [off_off, off_off] at e
  exact e
theorem off_ne (w : Wt) : off w ≠ w := by
  cases w with
  | mk a b =>
    intro h
    have e : 1 - b = b := congrArg Prod.snd h
    omega
/-! ### sums -/
def sumN : Nat → (Nat → Int) → Int
  | 0, _ => 0
  | n + 1, f => sumN n f + f n
theorem sumN_congr {f g : Nat → Int} : ∀ {n : Nat}, (∀ i, i < n → f i = g i) → sumN n f = sumN n g
  | 0, _ => rfl
  | n + 1, h => by
    show sumN n f + f n = sumN n g + g n
    rw [sumN_congr (fun i hi => h i (Nat.lt_succ_of_lt hi)), h n (Nat.lt_succ_self n)]
theorem sumN_add (f g : Nat → Int) : ∀ n, sumN n (fun i => f i + g i) = sumN n f + sumN n g
  | 0 => rfl
  | n + 1 => by
    show sumN n (fun i => f i + g i) + (f n + g n) = (sumN n f + f n) + (sumN n g + g n)
    rw [sumN_add f g n]; omega
theorem sumN_sub (f g : Nat → Int) : ∀ n, sumN n (fun i => f i - g i) = sumN n f - sumN n g
  | 0 => rfl
  | n + 1 => by
    show sumN n (fun i => f i - g i) + (f n - g n) = (sumN n f + f n) - (sumN n g + g n)
    rw [sumN_sub f g n]; omega
theorem sumN_mul (c : Int) (f : Nat → Int) : ∀ n, sumN n (fun i => c * f i) = c * sumN n f
  | 0 => by show (0 : Int) = c * 0; omega
  | n + 1 => by
    show sumN n (fun i => c * f i) + c * f n = c * (sumN n f + f n)
    rw [sumN_mul c f n, Int.mul_add]
theorem sumN_zero (n : Nat) : sumN n (fun _ => 0) = 0 := by
  induction n with
  | zero => rfl
  | succ n ih => show sumN n (fun _ => 0) + 0 = 0; rw [ih]; rfl
theorem sumN_le {f g : Nat → Int} : ∀ {n : Nat}, (∀ i, i < n → f i ≤ g i) → sumN n f ≤ sumN n g
  | 0, _ => Int.le_refl 0
  | n + 1, h => by
    show sumN n f + f n ≤ sumN n g + g n
    have h1 := sumN_le (fun i hi => h i (Nat.lt_succ_of_lt hi)) (n := n)
    have h2 := h n (Nat.lt_succ_self n)
    omega
/-- just one place counts -/
theorem sumN_one {f : Nat → Int} {k : Nat} : ∀ {n : Nat}, k < n → (∀ i, i < n → i ≠ k → f i = 0) → sumN n f = f k
  | 0, h, _ => absurd h (Nat.not_lt_zero _)
  | n + 1, h, z => by
    show sumN n f + f n = f k
    by_cases e : k = n
    · subst e
      have h0 : sumN k f = 0 := by
        rw [sumN_congr (g := fun _ => 0) (fun i hi => z i (Nat.lt_succ_of_lt hi) (Nat.ne_of_lt hi)), sumN_zero]
      rw [h0]; omega
    · rw [sumN_one (n := n) (by omega) (fun i hi hk => z i (Nat.lt_succ_of_lt hi) hk), z n (Nat.lt_succ_self n) (fun q => e q.symm)]; omega
/-- over both wants of each place -/
def wsum (n : Nat) (f : Wt → Int) : Int := sumN n fun i => f ((i : Int), 0) + f ((i : Int), 1)
theorem okN {n : Nat} {i : Nat} (h : i < n) (v : Int) (hv : v = 0 ∨ v = 1) : OkW n ((i : Int), v) := ⟨by show (0 : Int) ≤ (i : Int); omega, by show (i : Int) < (n : Int); omega, hv⟩
theorem wsum_congr {n : Nat} {f g : Wt → Int} (h : ∀ w, OkW n w → f w = g w) : wsum n f = wsum n g :=
  sumN_congr fun i hi => by rw [h _ (okN hi 0 (.inl rfl)), h _ (okN hi 1 (.inr rfl))]
theorem wsum_add (n : Nat) (f g : Wt → Int) : wsum n (fun w => f w + g w) = wsum n f + wsum n g := by
  unfold wsum
  rw [← sumN_add]
  exact sumN_congr fun i _ => by dsimp only; omega
theorem wsum_mul (n : Nat) (c : Int) (f : Wt → Int) : wsum n (fun w => c * f w) = c * wsum n f := by
  unfold wsum
  rw [← sumN_mul]
  exact sumN_congr fun i _ => by rw [Int.mul_add]
theorem wsum_le {n : Nat} {f g : Wt → Int} (h : ∀ w, OkW n w → f w ≤ g w) : wsum n f ≤ wsum n g :=
  sumN_le fun i hi => by
    have h1 := h _ (okN hi 0 (.inl rfl))
    have h2 := h _ (okN hi 1 (.inr rfl))
    omega
theorem wsum_zero (n : Nat) : wsum n (fun _ => 0) = 0 := sumN_zero n
theorem ok_form {n : Nat} {w : Wt} (h : OkW n w) : ∃ k : Nat, k < n ∧ (w = ((k : Int), 0) ∨ w = ((k : Int), 1)) := by
  obtain ⟨h1, h2, h3⟩ := h
  refine ⟨w.1.toNat, by omega, ?_⟩
  cases w with
  | mk a b =>
    have e : ((a.toNat : Nat) : Int) = a := Int.toNat_of_nonneg h1
    rcases h3 with h3 | h3
    · exact .inl (by rw [e]; exact congrArg (Prod.mk a) h3)
    · exact .inr (by rw [e]; exact congrArg (Prod.mk a) h3)
theorem wsum_one {n : Nat} {f : Wt → Int} {w : Wt} (hw : OkW n w) (z : ∀ u, OkW n u → u ≠ w → f u = 0) : wsum n f = f w := by
  obtain ⟨k, hk, e⟩ := ok_form hw
  have ne : ∀ i, i < n → i ≠ k → f ((i : Int), 0) + f ((i : Int), 1) = 0 := fun i hi hn => by
    have a1 : ((i : Int), (0 : Int)) ≠ w := fun q => by
      rcases e with e | e <;> rw [e] at q <;> exact hn (Int.ofNat.inj (congrArg Prod.fst q))
    have a2 : ((i : Int), (1 : Int)) ≠ w := fun q => by
      rcases e with e | e <;> rw [e] at q <;> exact hn (Int.ofNat.inj (congrArg Prod.fst q))
    rw [z _ (okN hi 0 (.inl rfl)) a1, z _ (okN hi 1 (.inr rfl)) a2]; rfl
  have s : wsum n f = f ((k : Int), 0) + f ((k : Int), 1) := sumN_one hk ne
  rcases e with e | e
  · have a2 : ((k : Int), (1 : Int)) ≠ w := fun q => by
      rw [e] at q
      have q2 : (1 : Int) = 0 := congrArg Prod.snd q
      omega
    rw [s, z _ (okN hk 1 (.inr rfl)) a2, e]; omega
  · have a2 : ((k : Int), (0 : Int)) ≠ w := fun q => by
      rw [e] at q
      have q2 : (0 : Int) = 1 := congrArg Prod.snd q
      omega
    rw [s, z _ (okN hk 0 (.inl rfl)) a2, e]; omega
/-! ### rows of halves, payments -/
def hv (h : List Int) (w : Wt) : Int := if w.2 = 1 then h.getD w.1.toNat 0 else 2 - h.getD w.1.toNat 0
def Half (n : Nat) (h : List Int) : Prop := h.length = n ∧ ∀ x ∈ h, 0 ≤ x ∧ x ≤ 2
def KeptH (told : List Rl) (h : List Int) : Prop := ∀ r ∈ told, 2 ≤ hv h r.1 + hv h r.2
def cost (p h : List Int) : Int := (List.zipWith (fun a b => a * b) p h).sum
def cnt (r : Rl) (w : Wt) : Int := (if r.1 = w then 1 else 0) + (if r.2 = w then 1 else 0)
def gets (told : List Rl) (ys : List Int) (w : Wt) : Int := (List.zipWith (fun r y => y * cnt r w) told ys).sum
def mx (a b : Int) : Int := if a < b then b else a
def bterm (p : List Int) (told : List Rl) (ys : List Int) (i : Nat) : Int := mx (gets told ys ((i : Int), 0)) (gets told ys ((i : Int), 1) - 2 * p.getD i 0)
def bound (p : List Int) (told : List Rl) (ys : List Int) : Int := ys.sum - sumN p.length (bterm p told ys)
theorem getD_bound {h : List Int} {n : Nat} (H : Half n h) (i : Nat) (hi : i < n) : 0 ≤ h.getD i 0 ∧ h.getD i 0 ≤ 2 := by
  have e : h.getD i 0 = h[i]'(by rw [H.1]; exact hi) := by
    rw [List.getD_eq_getElem?_getD, List.getElem?_eq_getElem (by rw [H.1]; exact hi)]; rfl
  rw [e]
  exact H.2 _ (List.getElem_mem _)
theorem cost_sumN : ∀ (p h : List Int), p.length = h.length → cost p h = sumN p.length fun i => p.getD i 0 * h.getD i 0 := by
  have shift : ∀ (n : Nat) (f : Nat → Int), sumN (n + 1) f = f 0 + sumN n (fun i => f (i + 1)) := by
    intro n f
    induction n with
    | zero => show 0 + f 0 = f 0 + 0; omega
    | succ n ih =>
      show sumN (n + 1) f + f (n + 1) = f 0 + (sumN n (fun i => f (i + 1)) + f (n + 1))
      rw [ih]; omega
  intro p
  induction p with
  | nil => intro h _; rfl
  | cons a p ih =>
    intro h hl
    cases h with
    | nil => cases hl
    | cons b h =>
      have e := ih h (Nat.succ.inj hl)
      show a * b + cost p h = sumN (p.length + 1) _
      rw [e, shift]
      rfl
/-- the one rule's share -/
theorem cnt_sum {n : Nat} {r : Rl} (h1 : OkW n r.1) (h2 : OkW n r.2) (ψ : Wt → Int) : wsum n (fun w => cnt r w * ψ w) = ψ r.1 + ψ r.2 := by
  have e : (fun w => cnt r w * ψ w) = fun w => (if r.1 = w then 1 else 0) * ψ w + (if r.2 = w then 1 else 0) * ψ w := funext fun w => by
    unfold cnt; rw [Int.add_mul]
  rw [e, wsum_add]
  have one : ∀ u : Wt, OkW n u → wsum n (fun w => (if u = w then 1 else 0) * ψ w) = ψ u := fun u hu => by
    rw [wsum_one (f := fun w => (if u = w then 1 else 0) * ψ w) hu fun v _ hn => by
      show (if u = v then (1 : Int) else 0) * ψ v = 0
      rw [if_neg (fun q => hn q.symm)]; omega]
    show (if u = u then (1 : Int) else 0) * ψ u = ψ u
    rw [if_pos rfl]; omega
  rw [one _ h1, one _ h2]
/-- what the wants get, weighed -/
theorem gets_sum {n : Nat} (ψ : Wt → Int) : ∀ (told : List Rl) (ys : List Int), (∀ r ∈ told, OkW n r.1 ∧ OkW n r.2) →
    wsum n (fun w => gets told ys w * ψ w) = (List.zipWith (fun r y => y * (ψ r.1 + ψ r.2)) told ys).sum
  | [], ys, _ => by
    have e : (fun w => gets [] ys w * ψ w) = fun _ => 0 := funext fun w => by
      show (List.zipWith _ [] ys).sum * ψ w = 0
      rw [List.zipWith_nil_left]; show (0 : Int) * ψ w = 0; omega
    rw [e, wsum_zero, List.zipWith_nil_left]; rfl
  | r :: told, [], _ => by
    have e : (fun w => gets (r :: told) [] w * ψ w) = fun _ => 0 := funext fun w => by
      show (0 : Int) * ψ w = 0; omega
    rw [e, wsum_zero]; rfl
  | r :: told, y :: ys, h => by
    have e : (fun w => gets (r :: told) (y :: ys) w * ψ w) = fun w => y * (cnt r w * ψ w) + gets told ys w * ψ w := funext fun w => by
      show (y * cnt r w + gets told ys w) * ψ w = _
      rw [Int.add_mul, Int.mul_assoc]
    rw [e, wsum_add, wsum_mul, cnt_sum (h r List.mem_cons_self).1 (h r List.mem_cons_self).2, gets_sum ψ told ys fun q hq => h q (List.mem_cons_of_mem _ hq)]
    rfl
theorem zip_le {f g : Rl → Int → Int} : ∀ (told : List Rl) (ys : List Int), told.length = ys.length → (∀ r ∈ told, ∀ y ∈ ys, f r y ≤ g r y) → (List.zipWith f told ys).sum ≤ (List.zipWith g told ys).sum
  | [], ys, _, _ => by rw [List.zipWith_nil_left, List.zipWith_nil_left]; exact Int.le_refl _
  | r :: told, [], h, _ => by cases h
  | r :: told, y :: ys, h, k => by
    show f r y + (List.zipWith f told ys).sum ≤ g r y + (List.zipWith g told ys).sum
    have h1 := k r List.mem_cons_self y List.mem_cons_self
    have h2 := zip_le told ys (Nat.succ.inj h) fun q hq z hz => k q (List.mem_cons_of_mem _ hq) z (List.mem_cons_of_mem _ hz)
    omega
theorem zip_snd : ∀ (told : List Rl) (ys : List Int), told.length = ys.length → (List.zipWith (fun (_ : Rl) y => y * 2) told ys).sum = 2 * ys.sum
  | [], [], _ => rfl
  | [], _ :: _, h => by cases h
  | r :: told, [], h => by cases h
  | r :: told, y :: ys, h => by
    show y * 2 + (List.zipWith (fun (_ : Rl) y => y * 2) told ys).sum = 2 * (y + ys.sum)
    rw [zip_snd told ys (Nat.succ.inj h)]; omega
/-- no payments bound more than any kept half row costs -/
theorem weak {n : Nat} {p h ys : List Int} {told : List Rl} (hp : p.length = n) (H : Half n h) (hk : KeptH told h) (hr : ∀ r ∈ told, OkW n r.1 ∧ OkW n r.2)
    (hy : ys.length = told.length) (hy0 : ∀ y ∈ ys, 0 ≤ y) : bound p told ys ≤ cost p h := by
  have e1 := gets_sum (n := n) (hv h) told ys hr
  have e2 : (List.zipWith (fun (_ : Rl) y => y * 2) told ys).sum ≤ (List.zipWith (fun r y => y * (hv h r.1 + hv h r.2)) told ys).sum :=
    zip_le told ys hy.symm fun r hr' y hy' => Int.mul_le_mul_of_nonneg_left (hk r hr') (hy0 y hy')
  rw [zip_snd told ys hy.symm] at e2
  have e3 : wsum n (fun w => gets told ys w * hv h w) ≤ sumN n (fun i => 2 * bterm p told ys i + 2 * (p.getD i 0 * h.getD i 0)) := by
    refine sumN_le fun i hi => ?_
    obtain ⟨b0, b2⟩ := getD_bound H i hi
    have v0 : hv h ((i : Int), 0) = 2 - h.getD i 0 := by
      unfold hv; rw [if_neg (by show ¬ (0 : Int) = 1; decide)]; rfl
    have v1 : hv h ((i : Int), 1) = h.getD i 0 := by
      unfold hv; rw [if_pos rfl]; rfl
    dsimp only
    rw [v0, v1]
    unfold bterm mx
    generalize gets told ys ((i : Int), 0) = a
    generalize gets told ys ((i : Int), 1) = b
    generalize p.getD i 0 = c
    generalize h.getD i 0 = x at b0 b2 ⊢
    have hx : x = 0 ∨ x = 1 ∨ x = 2 := by omega
    rcases hx with rfl | rfl | rfl
    · split <;> omega
    · split <;> omega
    · split <;> omega
  rw [sumN_add, sumN_mul, sumN_mul] at e3
  have e4 := cost_sumN p h (by rw [hp, H.1])
  unfold bound
  rw [e4, hp]
  omega
end K74

set_option linter.all false
set_option maxHeartbeats 4000000
/-! A flow along steps: what holds of it, and that it is best where it can't be led on. -/
namespace K74
abbrev Ed := Wt × Wt
/-- the steps of a rule -/
def eds (r : Rl) : List Ed := if (off r.1, r.2) = ((off r.2, r.1) : Ed) then [(off r.1, r.2)] else [(off r.1, r.2), (off r.2, r.1)]
def allE (told : List Rl) : List Ed := told.flatMap eds
theorem mem_eds {r : Rl} {e : Ed} : e ∈ eds r ↔ e = (off r.1, r.2) ∨ e = (off r.2, r.1) := by
  unfold eds
  split
  · rename_i h
    constructor
    · intro q; exact .inl (List.mem_singleton.mp q)
    · rintro (q | q)
      · exact List.mem_singleton.mpr q
      · exact List.mem_singleton.mpr (q.trans h.symm)
  · constructor
    · intro q
      rcases List.mem_cons.mp q with q | q
      · exact .inl q
      · exact .inr (List.mem_singleton.mp q)
    · rintro (q | q)
      · exact List.mem_cons.mpr (.inl q)
      · exact List.mem_cons.mpr (.inr (List.mem_singleton.mpr q))
def wlt (a b : Wt) : Prop := a.1 < b.1 ∨ (a.1 = b.1 ∧ a.2 < b.2)
def OkR (n : Nat) (r : Rl) : Prop := OkW n r.1 ∧ OkW n r.2 ∧ ¬ wlt r.2 r.1 ∧ r.2 ≠ off r.1
structure Told (n : Nat) (told : List Rl) : Prop where
  ok : ∀ r ∈ told, OkR n r
  nd : told.Nodup
theorem Told.ends {n : Nat} {told : List Rl} (T : Told n told) : ∀ r ∈ told, OkW n r.1 ∧ OkW n r.2 := fun r hr => ⟨(T.ok r hr).1, (T.ok r hr).2.1⟩
theorem Told.edge {n : Nat} {told : List Rl} (T : Told n told) {e : Ed} (h : e ∈ allE told) : OkW n e.1 ∧ OkW n e.2 := by
  obtain ⟨r, hr, he⟩ := List.mem_flatMap.mp h
  obtain ⟨h1, h2⟩ := T.ends r hr
  rcases mem_eds.mp he with q | q <;> subst q
  · exact ⟨h1.off, h2⟩
  · exact ⟨h2.off, h1⟩
/-- the steps come in twos -/
theorem edge_back {told : List Rl} {e : Ed} (h : e ∈ allE told) : (off e.2, off e.1) ∈ allE told := by
  obtain ⟨r, hr, he⟩ := List.mem_flatMap.mp h
  refine List.mem_flatMap.mpr ⟨r, hr, ?_⟩
  rcases mem_eds.mp he with q | q <;> subst q
  · exact mem_eds.mpr (.inr (by rw [off_off]))
  · exact mem_eds.mpr (.inl (by rw [off_off]))
theorem rule_of {n : Nat} {r s : Rl} (hr : OkR n r) (hs : OkR n s) {e : Ed} (h1 : e ∈ eds r) (h2 : e ∈ eds s) : r = s := by
  have lt2 : ∀ a b : Wt, ¬ wlt a b → ¬ wlt b a → a = b := fun a b p q => by
    unfold wlt at p q
    have e1 : a.1 = b.1 := by omega
    have e2 : a.2 = b.2 := by omega
    exact Prod.ext e1 e2
  rcases mem_eds.mp h1 with a | a <;> rcases mem_eds.mp h2 with b | b <;> rw [a] at b
  · have e1 : r.1 = s.1 := off_inj (congrArg Prod.fst b)
    have e2 : r.2 = s.2 := (Prod.mk.inj b).2
    exact Prod.ext e1 e2
  · have e1 : r.1 = s.2 := off_inj (congrArg Prod.fst b)
    have e2 : r.2 = s.1 := congrArg Prod.snd b
    have x := hr.2.2.1
    have y := hs.2.2.1
    rw [e1, e2] at x
    have e3 := lt2 _ _ x y
    exact Prod.ext (e1.trans e3.symm) (e2.trans e3)
  · have e1 : r.2 = s.1 := off_inj (congrArg Prod.fst b)
    have e2 : r.1 = s.2 := congrArg Prod.snd b
    have x := hr.2.2.1
    have y := hs.2.2.1
    rw [e1, e2] at x
    have e3 := lt2 _ _ x y
    exact Prod.ext (e2.trans e3.symm) (e1.trans e3)
  · have e1 : r.2 = s.2 := off_inj (congrArg Prod.fst b)
    have e2 : r.1 = s.1 := congrArg Prod.snd b
    exact Prod.ext e2 e1
theorem eds_nodup (r : Rl) : (eds r).Nodup := by
  unfold eds
  split
  · exact List.nodup_cons.mpr ⟨by simp, List.nodup_nil⟩
  · rename_i h
    exact List.nodup_cons.mpr ⟨fun q => h (List.mem_singleton.mp q), List.nodup_cons.mpr ⟨by simp, List.nodup_nil⟩⟩
theorem allE_nodup {n : Nat} : ∀ {told : List Rl}, (∀ r ∈ told, OkR n r) → told.Nodup → (allE told).Nodup
  | [], _, _ => List.nodup_nil
  | r :: told, h, nd => by
    show (eds r ++ allE told).Nodup
    have nd' := List.nodup_cons.mp nd
    refine List.nodup_append.mpr ⟨eds_nodup r, allE_nodup (fun q hq => h q (List.mem_cons_of_mem _ hq)) nd'.2, fun a ha b hb e => ?_⟩
    subst e
    obtain ⟨s, hs, he⟩ := List.mem_flatMap.mp hb
    have := rule_of (h r List.mem_cons_self) (h s (List.mem_cons_of_mem _ hs)) ha he
    exact nd'.1 (this ▸ hs)
/-! ### sums over a list -/
def lsum {α : Type} (l : List α) (f : α → Int) : Int := (l.map f).sum
theorem lsum_nil {α : Type} (f : α → Int) : lsum [] f = 0 := rfl
theorem lsum_cons {α : Type} (a : α) (l : List α) (f : α → Int) : lsum (a :: l) f = f a + lsum l f := rfl
theorem lsum_append {α : Type} (l m : List α) (f : α → Int) : lsum (l ++ m) f = lsum l f + lsum m f := by
  induction l with
  | nil => show lsum m f = 0 + lsum m f; omega
  | cons a l ih => show f a + lsum (l ++ m) f = f a + lsum l f + lsum m f; rw [ih]; omega
theorem lsum_congr {α : Type} {l : List α} {f g : α → Int} (h : ∀ a ∈ l, f a = g a) : lsum l f = lsum l g := by
  induction l with
  | nil => rfl
  | cons a l ih => rw [lsum_cons, lsum_cons, h a List.mem_cons_self, ih fun b hb => h b (List.mem_cons_of_mem _ hb)]
theorem lsum_zero {α : Type} {l : List α} {f : α → Int} (h : ∀ a ∈ l, f a = 0) : lsum l f = 0 := by
  induction l with
  | nil => rfl
  | cons a l ih => rw [lsum_cons, h a List.mem_cons_self, ih fun b hb => h b (List.mem_cons_of_mem _ hb)]; rfl
theorem lsum_add {α : Type} (l : List α) (f g : α → Int) : lsum l (fun a => f a + g a) = lsum l f + lsum l g := by
  induction l with
  | nil => rfl
  | cons a l ih => rw [lsum_cons, lsum_cons, lsum_cons, ih]; omega
theorem lsum_flat {α β : Type} (l : List α) (k : α → List β) (f : β → Int) : lsum (l.flatMap k) f = lsum l fun a => lsum (k a) f := by
  induction l with
  | nil => rfl
  | cons a l ih => rw [List.flatMap_cons, lsum_append, lsum_cons, ih]
/-- one place raised -/
theorem lsum_bump {α : Type} [DecidableEq α] {l : List α} {a : α} (f : α → Int) (d : Int) (nd : l.Nodup) (h : a ∈ l) : lsum l (fun b => f b + if b = a then d else 0) = lsum l f + d := by
  induction l with
  | nil => cases h
  | cons b l ih =>
    have nd' := List.nodup_cons.mp nd
    rw [lsum_cons, lsum_cons]
    by_cases e : b = a
    · subst e
      rw [if_pos rfl, lsum_congr (g := f) fun c hc => by
        have hn : ¬ c = b := fun q => nd'.1 (by rw [← q]; exact hc)
        rw [if_neg hn]; omega]
      omega
    · have hm : a ∈ l := by
        rcases List.mem_cons.mp h with q | q
        · exact absurd q.symm e
        · exact q
      rw [if_neg e, ih nd'.2 hm]; omega
/-! ### the flow -/
def gsum (told : List Rl) (G : Ed → Int) (φ : Wt → Int) : Int := lsum (allE told) fun e => G e * (φ e.2 - φ e.1)
def left0 (p : List Int) (w : Wt) : Int := p.getD w.1.toNat 0 * (1 - 2 * w.2)
def pos (x : Int) : Int := if 0 ≤ x then x else 0
def total (n : Nat) (L : Wt → Int) : Int := wsum n fun w => pos (L w)
/-- what holds of the purses between two payments: G what was given, L what is left -/
structure Flow (n : Nat) (p : List Int) (told : List Rl) (G : Ed → Int) (L : Wt → Int) : Prop where
  bal : ∀ φ : Wt → Int, wsum n (fun w => L w * φ w) = wsum n (fun w => left0 p w * φ w) + gsum told G φ
  up : ∀ w, OkW n w → 0 ≤ left0 p w → 0 ≤ L w
  dn : ∀ w, OkW n w → left0 p w ≤ 0 → L w ≤ 0
  gp : ∀ e, 0 ≤ G e
  gm : ∀ e, G e + total n L ≤ total n (left0 p)
theorem Flow.start {n : Nat} {p : List Int} {told : List Rl} : Flow n p told (fun _ => 0) (left0 p) where
  bal := fun φ => by
    have e : gsum told (fun _ => 0) φ = 0 := lsum_zero fun e _ => by show (0 : Int) * _ = 0; omega
    rw [e]; omega
  up := fun _ _ h => h
  dn := fun _ _ h => h
  gp := fun _ => Int.le_refl 0
  gm := fun _ => by show (0 : Int) + _ ≤ _; omega
theorem total_nonneg (n : Nat) (L : Wt → Int) : 0 ≤ total n L := by
  have h := wsum_le (n := n) (f := fun _ => 0) (g := fun w => pos (L w)) fun w _ => by
    show (0 : Int) ≤ pos (L w)
    unfold pos; split <;> omega
  rw [wsum_zero] at h
  exact h
theorem total_start {n : Nat} {p : List Int} (hp : p.length = n) (hb : ∀ x ∈ p, -50 ≤ x ∧ x ≤ 50) (hn : n ≤ 8) : total n (left0 p) ≤ 400 := by
  have h : total n (left0 p) ≤ sumN n (fun _ => 50) := sumN_le fun i hi => by
    have e : p.getD i 0 = p[i]'(by rw [hp]; exact hi) := by
      rw [List.getD_eq_getElem?_getD, List.getElem?_eq_getElem (by rw [hp]; exact hi)]; rfl
    have b := hb (p[i]'(by rw [hp]; exact hi)) (List.getElem_mem _)
    rw [← e] at b
    show pos (p.getD (Int.toNat (i : Int)) 0 * (1 - 2 * 0)) + pos (p.getD (Int.toNat (i : Int)) 0 * (1 - 2 * 1)) ≤ 50
    rw [Int.toNat_natCast]
    unfold pos
    split <;> split <;> omega
  have k : ∀ m, sumN m (fun _ => 50) = 50 * (m : Int) := fun m => by
    induction m with
    | zero => rfl
    | succ m ih => show sumN m (fun _ => 50) + 50 = _; rw [ih]; omega
  rw [k] at h
  omega
/-! ### the end: what can't be led on is best -/
def ysOf (told : List Rl) (G : Ed → Int) : List Int := told.map fun r => lsum (eds r) G
theorem ys_sum (told : List Rl) (G : Ed → Int) (ψ : Wt → Int) : (List.zipWith (fun r y => y * (ψ r.1 + ψ r.2)) told (ysOf told G)).sum = lsum (allE told) fun e => G e * (ψ (off e.1) + ψ e.2) := by
  unfold allE
  rw [lsum_flat]
  induction told with
  | nil => rfl
  | cons r told ih =>
    show lsum (eds r) G * (ψ r.1 + ψ r.2) + (List.zipWith (fun r y => y * (ψ r.1 + ψ r.2)) told (ysOf told G)).sum = _
    rw [ih, lsum_cons]
    have k : lsum (eds r) (fun e => G e * (ψ (off e.1) + ψ e.2)) = lsum (eds r) G * (ψ r.1 + ψ r.2) := by
      unfold eds
      split
      · show G _ * (ψ (off (off r.1)) + ψ r.2) + 0 = (G _ + 0) * (ψ r.1 + ψ r.2)
        rw [off_off]; simp
      · show G _ * (ψ (off (off r.1)) + ψ r.2) + (G _ * (ψ (off (off r.2)) + ψ r.1) + 0) = (G _ + (G _ + 0)) * (ψ r.1 + ψ r.2)
        rw [off_off, off_off, Int.add_comm (ψ r.2) (ψ r.1), Int.add_zero, Int.add_zero, Int.add_mul]
    rw [k]
/-- a lot R of wants that no want beyond can be paid from, all that have in it, none that lacks -/
structure Cut (n : Nat) (told : List Rl) (G : Ed → Int) (L : Wt → Int) (R : Wt → Bool) : Prop where
  has : ∀ w, OkW n w → 0 < L w → R w = true
  no : ∀ w, OkW n w → R w = true → 0 ≤ L w
  fwd : ∀ e ∈ allE told, R e.1 = true → R e.2 = true
  back : ∀ e ∈ allE told, 0 < G e → R e.2 = true → R e.1 = true
def bb (R : Wt → Bool) (w : Wt) : Int := if R w = true then 1 else 0
theorem bb_cases (R : Wt → Bool) (w : Wt) : (R w = true ∧ bb R w = 1) ∨ (R w = false ∧ bb R w = 0) := by
  unfold bb
  cases h : R w
  · exact .inr ⟨rfl, by simp⟩
  · exact .inl ⟨rfl, by simp⟩
def bestH (n : Nat) (R : Wt → Bool) : List Int := (List.range n).map fun (i : Nat) => 1 + bb R ((i : Int), 1) - bb R ((i : Int), 0)
theorem bestH_get {n : Nat} {R : Wt → Bool} {i : Nat} (hi : i < n) : (bestH n R).getD i 0 = 1 + bb R ((i : Int), 1) - bb R ((i : Int), 0) := by
  unfold bestH
  rw [List.getD_eq_getElem?_getD, List.getElem?_map, List.getElem?_range hi]; rfl
theorem bestH_hv {n : Nat} {R : Wt → Bool} {w : Wt} (h : OkW n w) : hv (bestH n R) w = 1 + bb R w - bb R (off w) := by
  obtain ⟨k, hk, e⟩ := ok_form h
  rcases e with e | e <;> subst e
  · unfold hv
    rw [if_neg (by show ¬ (0 : Int) = 1; decide)]
    show 2 - (bestH n R).getD (Int.toNat (k : Int)) 0 = _
    rw [Int.toNat_natCast, bestH_get hk]
    have e2 : off ((k : Int), 0) = ((k : Int), 1) := rfl
    rw [e2]; omega
  · unfold hv
    rw [if_pos rfl]
    show (bestH n R).getD (Int.toNat (k : Int)) 0 = _
    rw [Int.toNat_natCast, bestH_get hk]
    have e2 : off ((k : Int), 1) = ((k : Int), 0) := rfl
    rw [e2]
theorem bestH_half (n : Nat) (R : Wt → Bool) : Half n (bestH n R) := by
  refine ⟨by unfold bestH; rw [List.length_map, List.length_range], fun x hx => ?_⟩
  obtain ⟨i, _, e⟩ := List.mem_map.mp hx
  rcases bb_cases R ((i : Int), 1) with ⟨_, a⟩ | ⟨_, a⟩ <;> rcases bb_cases R ((i : Int), 0) with ⟨_, b⟩ | ⟨_, b⟩ <;> rw [a, b] at e <;> omega
theorem best {n : Nat} {p : List Int} {told : List Rl} {G : Ed → Int} {L : Wt → Int} {R : Wt → Bool} (hp : p.length = n) (T : Told n told) (F : Flow n p told G L) (C : Cut n told G L R) :
    ∃ h, Half n h ∧ KeptH told h ∧ cost p h = bound p told (ysOf told G) := by
  refine ⟨bestH n R, bestH_half n R, fun r hr => ?_, ?_⟩
  · obtain ⟨h1, h2⟩ := T.ends r hr
    rw [bestH_hv h1, bestH_hv h2]
    have e1 : ((off r.1, r.2) : Ed) ∈ allE told := List.mem_flatMap.mpr ⟨r, hr, mem_eds.mpr (.inl rfl)⟩
    have e2 : ((off r.2, r.1) : Ed) ∈ allE told := List.mem_flatMap.mpr ⟨r, hr, mem_eds.mpr (.inr rfl)⟩
    have f1 : bb R (off r.1) ≤ bb R r.2 := by
      have := C.fwd _ e1
      rcases bb_cases R (off r.1) with ⟨a, b⟩ | ⟨a, b⟩ <;> rcases bb_cases R r.2 with ⟨c, d⟩ | ⟨c, d⟩ <;> rw [b, d]
      · exact Int.le_refl _
      · rw [this a] at c; cases c
      · decide
      · exact Int.le_refl _
    have f2 : bb R (off r.2) ≤ bb R r.1 := by
      have := C.fwd _ e2
      rcases bb_cases R (off r.2) with ⟨a, b⟩ | ⟨a, b⟩ <;> rcases bb_cases R r.1 with ⟨c, d⟩ | ⟨c, d⟩ <;> rw [b, d]
      · exact Int.le_refl _
      · rw [this a] at c; cases c
      · decide
      · exact Int.le_refl _
    omega
  · -- the cost
    have c1 : cost p (bestH n R) = sumN n fun i => p.getD i 0 * (1 + bb R ((i : Int), 1) - bb R ((i : Int), 0)) := by
      rw [cost_sumN p _ (by rw [hp, (bestH_half n R).1]), hp]
      exact sumN_congr fun i hi => by rw [bestH_get hi]
    -- nothing is given across
    have g0 : gsum told G (fun w => 2 * bb R w - 1) = 0 := lsum_zero fun e he => by
      dsimp only
      have h0 := F.gp e
      by_cases q : G e = 0
      · rw [q]; omega
      · have q1 : 0 < G e := by omega
        have a1 := C.fwd e he
        have a2 := C.back e he q1
        rcases bb_cases R e.1 with ⟨a, b⟩ | ⟨a, b⟩ <;> rcases bb_cases R e.2 with ⟨c, d⟩ | ⟨c, d⟩ <;> rw [b, d]
        · show G e * 0 = 0; omega
        · rw [a1 a] at c; cases c
        · rw [a2 c] at a; cases a
        · show G e * 0 = 0; omega
    have b1 := F.bal fun w => 2 * bb R w - 1
    rw [g0] at b1
    -- what the wants of a place get, one less the other
    have d1 : ∀ i, i < n → gets told (ysOf told G) ((i : Int), 0) - gets told (ysOf told G) ((i : Int), 1) + 2 * p.getD i 0 = L ((i : Int), 0) - L ((i : Int), 1) := fun i hi => by
      have h0 := okN hi 0 (.inl rfl)
      have h1 := okN hi 1 (.inr rfl)
      have ne01 : (((i : Int), (0 : Int)) : Wt) ≠ ((i : Int), 1) := fun q => by
        have z : (0 : Int) = 1 := congrArg Prod.snd q
        omega
      have pick : ∀ f : Wt → Int, wsum n (fun w => f w * ((if w = ((i : Int), 0) then 1 else 0) - (if w = ((i : Int), 1) then 1 else 0))) = f ((i : Int), 0) - f ((i : Int), 1) := fun f => by
        have k1 : wsum n (fun w => f w * (if w = ((i : Int), 0) then 1 else 0)) = f ((i : Int), 0) := by
          rw [wsum_one (f := fun w => f w * (if w = ((i : Int), 0) then 1 else 0)) h0 fun u _ hu => by
            show f u * (if u = ((i : Int), 0) then 1 else 0) = 0
            rw [if_neg hu]; omega]
          show f ((i : Int), 0) * (if ((i : Int), (0 : Int)) = ((i : Int), 0) then 1 else 0) = _
          rw [if_pos rfl]; omega
        have k2 : wsum n (fun w => (-1) * (f w * (if w = ((i : Int), 1) then 1 else 0))) = - f ((i : Int), 1) := by
          rw [wsum_mul, wsum_one (f := fun w => f w * (if w = ((i : Int), 1) then 1 else 0)) h1 fun u _ hu => by
            show f u * (if u = ((i : Int), 1) then 1 else 0) = 0
            rw [if_neg hu]; omega]
          show (-1) * (f ((i : Int), 1) * (if ((i : Int), (1 : Int)) = ((i : Int), 1) then 1 else 0)) = _
          rw [if_pos rfl]; omega
        have k3 : (fun w => f w * ((if w = ((i : Int), 0) then (1 : Int) else 0) - (if w = ((i : Int), 1) then 1 else 0))) = fun w => f w * (if w = ((i : Int), 0) then 1 else 0) + (-1) * (f w * (if w = ((i : Int), 1) then 1 else 0)) := funext fun w => by
          rw [Int.mul_sub]; omega
        rw [k3, wsum_add, k1, k2]; omega
      have s1 := gets_sum (n := n) (fun w => (if w = ((i : Int), 0) then 1 else 0) - (if w = ((i : Int), 1) then 1 else 0)) told (ysOf told G) T.ends
      rw [pick] at s1
      replace s1 := s1.trans (ys_sum told G (fun w => (if w = ((i : Int), 0) then 1 else 0) - (if w = ((i : Int), 1) then 1 else 0)))
      have s2 := F.bal fun w => (if w = ((i : Int), 0) then 1 else 0) - (if w = ((i : Int), 1) then 1 else 0)
      rw [pick, pick] at s2
      have s3 : lsum (allE told) (fun e => G e * (((if off e.1 = ((i : Int), 0) then (1 : Int) else 0) - (if off e.1 = ((i : Int), 1) then 1 else 0)) + ((if e.2 = ((i : Int), 0) then 1 else 0) - (if e.2 = ((i : Int), 1) then 1 else 0)))) =
          gsum told G (fun w => (if w = ((i : Int), 0) then 1 else 0) - (if w = ((i : Int), 1) then 1 else 0)) := lsum_congr fun e he => by
        have sw : ∀ u : Wt, (if off u = ((i : Int), 0) then (1 : Int) else 0) - (if off u = ((i : Int), 1) then 1 else 0) = - ((if u = ((i : Int), 0) then 1 else 0) - (if u = ((i : Int), 1) then 1 else 0)) := fun u => by
          have e0 : off u = ((i : Int), 0) ↔ u = ((i : Int), 1) := ⟨fun q => by
            have := congrArg off q
            rw [off_off] at this
            exact this, fun q => by rw [q]; rfl⟩
          have e1 : off u = ((i : Int), 1) ↔ u = ((i : Int), 0) := ⟨fun q => by
            have := congrArg off q
            rw [off_off] at this
            exact this, fun q => by rw [q]; rfl⟩
          simp only [e0, e1]
          omega
        rw [sw e.1]
        congr 1
        dsimp only
        omega
      have l0 : left0 p ((i : Int), 0) = p.getD i 0 := by
        show p.getD (Int.toNat (i : Int)) 0 * (1 - 2 * 0) = _
        rw [Int.toNat_natCast]; omega
      have l1 : left0 p ((i : Int), 1) = - p.getD i 0 := by
        show p.getD (Int.toNat (i : Int)) 0 * (1 - 2 * 1) = _
        rw [Int.toNat_natCast]; omega
      rw [l0, l1] at s2
      rw [s3] at s1
      omega
    have t1 := gets_sum (n := n) (fun _ => 1) told (ysOf told G) T.ends
    have t2 : (List.zipWith (fun (r : Rl) y => y * ((1 : Int) + 1)) told (ysOf told G)).sum = 2 * (ysOf told G).sum := zip_snd told (ysOf told G) (by unfold ysOf; rw [List.length_map])
    rw [t2] at t1
    have t3 : wsum n (fun w => gets told (ysOf told G) w * 1) = sumN n fun i => gets told (ysOf told G) ((i : Int), 0) + gets told (ysOf told G) ((i : Int), 1) := sumN_congr fun i _ => by dsimp only; omega
    rw [t3] at t1
    -- place by place
    have z : sumN n (fun i => 2 * bterm p told (ysOf told G) i) = sumN n (fun i => (gets told (ysOf told G) ((i : Int), 0) + gets told (ysOf told G) ((i : Int), 1)) + (L ((i : Int), 0) * (2 * bb R ((i : Int), 0) - 1) + L ((i : Int), 1) * (2 * bb R ((i : Int), 1) - 1) - 2 * p.getD i 0)) := by
      refine sumN_congr fun i hi => ?_
      have h0 := okN hi 0 (.inl rfl)
      have h1 := okN hi 1 (.inr rfl)
      have l0 : left0 p ((i : Int), 0) = p.getD i 0 := by
        show p.getD (Int.toNat (i : Int)) 0 * (1 - 2 * 0) = _
        rw [Int.toNat_natCast]; omega
      have l1 : left0 p ((i : Int), 1) = - p.getD i 0 := by
        show p.getD (Int.toNat (i : Int)) 0 * (1 - 2 * 1) = _
        rw [Int.toNat_natCast]; omega
      have u0 := F.up _ h0
      have u1 := F.up _ h1
      have v0 := F.dn _ h0
      have v1 := F.dn _ h1
      rw [l0] at u0 v0
      rw [l1] at u1 v1
      have d := d1 i hi
      have x0 : L ((i : Int), 0) * (2 * bb R ((i : Int), 0) - 1) = if 0 ≤ L ((i : Int), 0) then L ((i : Int), 0) else - L ((i : Int), 0) := by
        have a := C.has _ h0
        have b := C.no _ h0
        rcases bb_cases R ((i : Int), 0) with ⟨c, e⟩ | ⟨c, e⟩ <;> rw [e]
        · have := b c
          split <;> omega
        · have : ¬ 0 < L ((i : Int), 0) := fun q => by rw [a q] at c; cases c
          split <;> omega
      have x1 : L ((i : Int), 1) * (2 * bb R ((i : Int), 1) - 1) = if 0 ≤ L ((i : Int), 1) then L ((i : Int), 1) else - L ((i : Int), 1) := by
        have a := C.has _ h1
        have b := C.no _ h1
        rcases bb_cases R ((i : Int), 1) with ⟨c, e⟩ | ⟨c, e⟩ <;> rw [e]
        · have := b c
          split <;> omega
        · have : ¬ 0 < L ((i : Int), 1) := fun q => by rw [a q] at c; cases c
          split <;> omega
      rw [x0, x1]
      unfold bterm mx
      generalize gets told (ysOf told G) ((i : Int), 0) = a at d ⊢
      generalize gets told (ysOf told G) ((i : Int), 1) = b at d ⊢
      generalize L ((i : Int), 0) = c at d u0 v0 ⊢
      generalize L ((i : Int), 1) = e at d u1 v1 ⊢
      generalize p.getD i 0 = q at d u0 v0 u1 v1 ⊢
      split <;> split <;> split <;> omega
    rw [sumN_mul, sumN_add, sumN_sub, sumN_mul, t1] at z
    have b2 : sumN n (fun i => L ((i : Int), 0) * (2 * bb R ((i : Int), 0) - 1) + L ((i : Int), 1) * (2 * bb R ((i : Int), 1) - 1)) = wsum n (fun w => left0 p w * (2 * bb R w - 1)) := by
      have := b1
      rw [Int.add_zero] at this
      exact this
    have b3 : wsum n (fun w => left0 p w * (2 * bb R w - 1)) = sumN n (fun i => 2 * p.getD i 0 - 2 * (p.getD i 0 * (1 + bb R ((i : Int), 1) - bb R ((i : Int), 0)))) := sumN_congr fun i hi => by
      show p.getD (Int.toNat (i : Int)) 0 * (1 - 2 * 0) * (2 * bb R ((i : Int), 0) - 1) + p.getD (Int.toNat (i : Int)) 0 * (1 - 2 * 1) * (2 * bb R ((i : Int), 1) - 1) = _
      rw [Int.toNat_natCast]
      rcases bb_cases R ((i : Int), 0) with ⟨_, e⟩ | ⟨_, e⟩ <;> rcases bb_cases R ((i : Int), 1) with ⟨_, f⟩ | ⟨_, f⟩ <;> rw [e, f] <;> omega
    rw [b3, sumN_sub, sumN_mul, sumN_mul, ← c1] at b2
    rw [b2] at z
    unfold bound
    rw [hp]
    omega
end K74

set_option Elab.async false
set_option linter.all false
set_option maxRecDepth 100000
set_option maxHeartbeats 4000000
namespace K74
open PySem PySem.Spec PyProof.Rows L2
/-! ### the text by places -/
def topS (i : Nat) : Stmt := PySem.Challenge.pw_middlerows_k74_whole_bounds_from_both_si.main.body.getD i (.Pass ⟨0, 0, 0, 0⟩)
/-! ### what a caller needs of a def -/
structure At (K : PySem.W.Frag) (mg : Str → Option Value) (x qual : Str) (st : Stmt) (ps : List Str) : Prop where
  ex : ∃ (f : Addr) (fd : FuncData), Fun K x qual st f fd ∧ mg x = some (.ref f) ∧ Binds K fd ps []
structure Cal (P : Program) (w : World) (K : PySem.W.Frag) (mg : Str → Option Value) (base : Heap) (k : Nat) (x : Str) (ps : List Str) (sp : Sp) : Prop where
  ex : ∃ (f : Addr) (fd : FuncData), FnOk P w K mg base CX0 k f fd ps sp ∧ mg x = some (.ref f) ∧ PySem.W.keepIn K (.ref f) = true ∧ Binds K fd ps []
section
variable {P : Program} {w : World} {K : PySem.W.Frag} {mg : Str → Option Value} {base : Heap} {k : Nat} {x qual : Str} {st : Stmt} {N ps : List Str} {sp : Sp}
theorem At.cal (A : At K mg x qual st ps) (S : FnScope N ps (defScope st)) (len : ∀ vs H Q E, sp vs H Q E → vs.length = ps.length)
    (hbody : ∀ (f : Addr) (cdv : Value) (A : Around) (outer : List Env) (s : Shared) (H : Hp) (vs : List V) (Q : VK) (E : XK), Room k (A.deeper (envOfC qual (defScope st) s.heap.objs.size f cdv)) → sp vs H Q E →
      ∃ t, PSs (cxOf CX0 P w K mg base N qual (defScope st) f cdv A outer s H E).nox (defBody st) t ∧ t { nx := fun _ H' => Q .non H', rt := Q } (start N vs) H) : Cal P w K mg base (k + 1) x ps sp := by
  obtain ⟨f, fd, F, hm, hb⟩ := A.ex
  exact ⟨f, fd, F.ok S len (hbody f), hm, F.kp, hb⟩
theorem pe_cl {X : Cx} {e : Expr} {es : List Expr} {p pos : Pos} {t : TA} (c : Cal X.prog X.w X.K X.mg X.base k x ps sp) (hr : Room k X.A) (hg : Gl X x) (ha : PA X (e :: es) t) (hdb : (x == ("__debug__" : Str)) = false := by decide)
    (he : starEach (e :: es) X.env = (false, eval e X.env) :: starEach es X.env := by rfl) (hpl : (backTo pos (starEach es X.env)).any (·.1) = false := by rfl) : PE X (.Call (.Name x p) (e :: es) [] pos) (tCall sp [] E0 t) := by
  obtain ⟨f, fd, F, hm, hk, hb⟩ := c.ex
  exact pe_call F hr hg hm hk hb .nil pass0 ha hdb he hpl
end
/-! ### built-in names that the top leaves alone; constants -/
structure Bl (mg : Str → Option Value) : Prop where
  isi : mg "isinstance" = none
  int : mg "int" = none
  bool : mg "bool" = none
  tuple : mg "tuple" = none
  len : mg "len" = none
  all : mg "all" = none
  enum : mg "enumerate" = none
  range : mg "range" = none
  sum : mg "sum" = none
  zip : mg "zip" = none
  min : mg "min" = none
  max : mg "max" = none
  list : mg "list" = none
  sorted : mg "sorted" = none
  set : mg "set" = none
  c8 : ∃ t, mg "MOST_PLACES" = some (.int 8 t)
  c50 : ∃ t, mg "MOST_PRICE" = some (.int 50 t)
  c1000 : ∃ t, mg "MOST_PAYMENT" = some (.int 1000 t)
/-! ### a call's value by a weaker reading -/
theorem callR_of {X : Cx} {f : Value} {r r' : List V → Hp → VK → Prop} (h : CallR X f r) (k : ∀ xs H Q, r' xs H Q → r xs H Q) : CallR X f r' := fun pins s σ H xs us Q I rv q => h pins s σ H xs us Q I rv (k xs H Q q)
theorem opR_of {X : Cx} {f : Value → Value → Sem Value} {r r' : R2} (h : OpR X f r) (k : ∀ x y H Q, r' x y H Q → r x y H Q) : OpR X f r' := fun pins s σ H x y v u Q I rx ry q => h pins s σ H x y v u Q I rx ry (k x y H Q q)
section
variable {X : Cx}
theorem isi_int : CallR X (.builtin "isinstance") (fun xs H Q => ∃ i, xs = [.int i, .ty "int"] ∧ Q (.bl true) H) := callR_of call_isi fun xs H Q ⟨i, e, q⟩ =>
  ⟨_, _, _, _, true, e, .ty "int", .base (.int i), kit_ty (by decide +kernel), q⟩
theorem isi_bool : CallR X (.builtin "isinstance") (fun xs H Q => ∃ i, xs = [.int i, .ty "bool"] ∧ Q (.bl false) H) := callR_of call_isi fun xs H Q ⟨i, e, q⟩ =>
  ⟨_, _, _, _, false, e, .ty "bool", .base (.int i), kit_ty (by decide +kernel), q⟩
theorem isi_tup : CallR X (.builtin "isinstance") (fun xs H Q => ∃ a ys, xs = [.ref a, .ty "tuple"] ∧ SqT X.K H a ys ∧ Q (.bl true) H) := callR_of call_isi fun xs H Q ⟨a, ys, e, hs, q⟩ => by
  rcases hs with (h | ⟨o, h⟩) | ⟨o, its, n, hk, hc, _⟩
  · exact ⟨_, _, _, _, true, e, .ty "tuple", .base (.tup h), kit_ty (by decide +kernel), q⟩
  · exact ⟨_, _, _, _, true, e, .ty "tuple", .fTuple h, kit_ty (by decide +kernel), q⟩
  · exact ⟨_, _, _, _, true, e, .ty "tuple", .kTuple hk hc, kit_ty (by decide +kernel), q⟩
end
theorem boot_isi : bootBuiltins "isinstance" = some (.builtin "isinstance") := by decide +kernel
theorem boot_ty_int : bootBuiltins "int" = some (.type "int") := by decide +kernel
theorem boot_ty_bool : bootBuiltins "bool" = some (.type "bool") := by decide +kernel
theorem boot_ty_tuple : bootBuiltins "tuple" = some (.type "tuple") := by decide +kernel
/-! ### is_from -/
abbrev sIsFrom : Stmt := topS 10
/-- asked only where it is so -/
def spIsFrom : Sp := fun vs H Q _ => ∃ v lo hi : Int, vs = [.int v, .int lo, .int hi] ∧ lo ≤ v ∧ v ≤ hi ∧ Q (.bl true) H
section
variable {P : Program} {w : World} {K : PySem.W.Frag} {mg : Str → Option Value} {base : Heap}
theorem scIsFrom : FnScope ["value", "low", "high"] ["value", "low", "high"] (defScope sIsFrom) := ⟨rfl, rfl, rfl, by decide +kernel, rfl, by decide +kernel, by decide +kernel⟩
theorem cIsFrom (B : Bl mg) (A : At K mg "is_from" "is_from" sIsFrom ["value", "low", "high"]) : Cal P w K mg base 1 "is_from" ["value", "low", "high"] spIsFrom := by
  refine A.cal scIsFrom (fun vs H Q E h => ?_) (fun f cdv A outer s H vs Q E hr h => ?_)
  · obtain ⟨v, lo, hi, rfl, _⟩ := h
    rfl
  · obtain ⟨v, lo, hi, rfl, h1, h2, q⟩ := h
    refine ⟨_, pss_one (ps_ret (pe_and (pe_callB isi_int (by rfl) B.isi boot_isi (pa_cons (pv 0) (pa_cons (pe_bltn (v := .ty "int") (by rfl) B.int boot_ty_int rfl) pa_nil)))
      (pe_and (pe_not (pe_callB isi_bool (by rfl) B.isi boot_isi (pa_cons (pv 0) (pa_cons (pe_bltn (v := .ty "bool") (by rfl) B.bool boot_ty_bool rfl) pa_nil))))
        (pe_one (pe_chain op_le op_le (pv 1) (pv 0) (pv 2)))))), ?_⟩
    refine ⟨_, rfl, _, rfl, true, rfl, iteT ?_⟩
    refine ⟨_, rfl, _, rfl, false, rfl, true, rfl, iteT ?_⟩
    refine ⟨_, rfl, _, rfl, _, _, rfl, rfl, _, rfl, ?_⟩
    rw [if_pos (decide_eq_true h1)]
    refine ⟨_, rfl, _, _, rfl, rfl, ?_⟩
    show Q (V.bl (decide (v ≤ hi))) H
    rw [decide_eq_true h2]
    exact q
end
end K74

set_option Elab.async false
set_option linter.all false
set_option maxRecDepth 100000
set_option maxHeartbeats 4000000
namespace K74
open PySem PySem.Spec PyProof.Rows L2
/-! ### lists of pairs, place by place -/
theorem Paired.at1 {α β : Type} {F : α → β → Prop} : ∀ {xs : List α} {ys : List β} {i : Nat} {x : α}, Paired F xs ys → xs[i]? = some x → ∃ y, ys[i]? = some y ∧ F x y
  | _, _, _, _, .nil, h => by simp at h
  | _, _, 0, _, .cons r _, h => by simp at h; subst h; exact ⟨_, rfl, r⟩
  | _, _, i + 1, x, .cons _ t, h => by
    obtain ⟨y, e, r⟩ := Paired.at1 (i := i) (x := x) t (by simpa using h)
    exact ⟨y, by simpa using e, r⟩
theorem Paired.at2 {α β : Type} {F : α → β → Prop} : ∀ {xs : List α} {ys : List β} {i : Nat} {y : β}, Paired F xs ys → ys[i]? = some y → ∃ x, xs[i]? = some x ∧ F x y
  | _, _, _, _, .nil, h => by simp at h
  | _, _, 0, _, .cons r _, h => by simp at h; subst h; exact ⟨_, rfl, r⟩
  | _, _, i + 1, y, .cons _ t, h => by
    obtain ⟨x, e, r⟩ := Paired.at2 (i := i) (y := y) t (by simpa using h)
    exact ⟨x, by simpa using e, r⟩
theorem Paired.len {α β : Type} {F : α → β → Prop} : ∀ {xs : List α} {ys : List β}, Paired F xs ys → xs.length = ys.length
  | _, _, .nil => rfl
  | _, _, .cons _ t => by rw [List.length_cons, List.length_cons, Paired.len t]
theorem Paired.mono {α β : Type} {F G : α → β → Prop} (k : ∀ a b, F a b → G a b) : ∀ {xs : List α} {ys : List β}, Paired F xs ys → Paired G xs ys
  | _, _, .nil => .nil
  | _, _, .cons r t => .cons (k _ _ r) (Paired.mono k t)
theorem Paired.app {α β : Type} {F : α → β → Prop} : ∀ {xs xs' : List α} {ys ys' : List β}, Paired F xs ys → Paired F xs' ys' → Paired F (xs ++ xs') (ys ++ ys')
  | _, _, _, _, .nil, k => k
  | _, _, _, _, .cons r t, k => .cons r (Paired.app t k)
theorem Paired.one {α β : Type} {F : α → β → Prop} {x : α} {y : β} (h : F x y) : Paired F [x] [y] := .cons h .nil
/-! ### tuples stand for good -/
/-- all tuples that were tracked are as they were -/
def Tk (H H' : Hp) : Prop := (∀ a xs, H a = some (.tup xs) → H' a = some (.tup xs)) ∧ ∀ a o u, H a = some (.frz o u) → H' a = some (.frz o u)
theorem Tk.refl (H : Hp) : Tk H H := ⟨fun _ _ h => h, fun _ _ _ h => h⟩
theorem Tk.trans {H H1 H2 : Hp} (a : Tk H H1) (b : Tk H1 H2) : Tk H H2 := ⟨fun x xs h => b.1 x xs (a.1 x xs h), fun x o u h => b.2 x o u (a.2 x o u h)⟩
theorem tkS {H H' : Hp} (s : Same H H') : Tk H H' := ⟨fun a xs h => s a _ h, fun a o u h => s a _ h⟩
theorem samePut {H : Hp} {p : Addr} {o : HO} (h : H p = none) : Same H (upd H p o) := fun b u e => by
  rw [upd_ne (ne_of_none e h)]; exact e
/-- what may be written over -/
def Soft : HO → Prop
  | .tup _ => False
  | .frz _ _ => False
  | _ => True
theorem Tk.write {H : Hp} {p : Addr} {o u : HO} (h : H p = some u) (s : Soft u) : Tk H (upd H p o) :=
  ⟨fun a xs e => by
    have hn : a ≠ p := fun q => by
      subst q
      rw [h] at e
      cases e
      exact s
    rw [upd_ne hn]; exact e, fun a ob v e => by
    have hn : a ≠ p := fun q => by
      subst q
      rw [h] at e
      cases e
      exact s
    rw [upd_ne hn]; exact e⟩
theorem Tk.new {H : Hp} {p : Addr} {o : HO} (h : H p = none) : Tk H (upd H p o) := tkS (samePut h)
theorem Tk.sq {K : PySem.W.Frag} {H H' : Hp} {a : Addr} {xs : List V} (t : Tk H H') (h : SqT K H a xs) : SqT K H' a xs := by
  rcases h with (h | ⟨o, h⟩) | h
  · exact .inl (.inl (t.1 _ _ h))
  · exact .inl (.inr ⟨o, t.2 _ _ _ h⟩)
  · exact .inr h
/-- what stood stands, but at the places of S -/
def Kp (S : Addr → Prop) (H H' : Hp) : Prop := ∀ b o, ¬ S b → H b = some o → H' b = some o
theorem Kp.trans {S : Addr → Prop} {H H1 H2 : Hp} (a : Kp S H H1) (b : Kp S H1 H2) : Kp S H H2 := fun c o n h => b c o n (a c o n h)
theorem kpS {S : Addr → Prop} {H H' : Hp} (s : Same H H') : Kp S H H' := fun b o _ h => s b o h
theorem Kp.refl (S : Addr → Prop) (H : Hp) : Kp S H H := fun _ _ _ h => h
theorem Kp.tk {S : Addr → Prop} {H H' : Hp} (k : Kp S H H') (hs : ∀ a, S a → ∃ u, H a = some u ∧ Soft u) : Tk H H' :=
  ⟨fun a xs e => k a _ (fun q => by
    obtain ⟨u, hu, s⟩ := hs a q
    rw [e] at hu
    cases hu
    exact s) e, fun a o u e => k a _ (fun q => by
    obtain ⟨u, hu, s⟩ := hs a q
    rw [e] at hu
    cases hu
    exact s) e⟩
/-! ### wants, rules, and what bears them -/
def IsW (K : PySem.W.Frag) (H : Hp) (v : V) (u : Wt) : Prop := ∃ a, v = .ref a ∧ SqT K H a [.int u.1, .int u.2]
def IsR (K : PySem.W.Frag) (H : Hp) (v : V) (r : Rl) : Prop := ∃ a x y, v = .ref a ∧ SqT K H a [x, y] ∧ IsW K H x r.1 ∧ IsW K H y r.2
/-- a rule whose own object is known to have no dict -/
def IsRf (K : PySem.W.Frag) (H : Hp) (v : V) (r : Rl) : Prop := IsR K H v r ∧ ∃ a o u, v = .ref a ∧ H a = some (.frz o u) ∧ o.dict = none
/-- a tuple of rules -/
def IsTl (K : PySem.W.Frag) (H : Hp) (v : V) (told : List Rl) : Prop := ∃ a vs, v = .ref a ∧ SqT K H a vs ∧ Paired (IsRf K H) vs told
/-- a tuple of ints -/
def IsTi (K : PySem.W.Frag) (H : Hp) (v : V) (ns : List Int) : Prop := ∃ a, v = .ref a ∧ SqT K H a (ns.map V.int)
section
variable {K : PySem.W.Frag} {H H' : Hp} {v : V}
theorem IsW.tk {u : Wt} (h : IsW K H v u) (t : Tk H H') : IsW K H' v u := let ⟨a, e, s⟩ := h; ⟨a, e, t.sq s⟩
theorem IsR.tk {r : Rl} (h : IsR K H v r) (t : Tk H H') : IsR K H' v r := let ⟨a, x, y, e, s, h1, h2⟩ := h; ⟨a, x, y, e, t.sq s, h1.tk t, h2.tk t⟩
theorem IsRf.tk {r : Rl} (h : IsRf K H v r) (t : Tk H H') : IsRf K H' v r := let ⟨h1, a, o, u, e, s, d⟩ := h; ⟨h1.tk t, a, o, u, e, t.2 _ _ _ s, d⟩
theorem IsTl.tk {told : List Rl} (h : IsTl K H v told) (t : Tk H H') : IsTl K H' v told := let ⟨a, vs, e, s, p⟩ := h; ⟨a, vs, e, t.sq s, Paired.mono (fun _ _ q => IsRf.tk q t) p⟩
theorem IsTi.tk {ns : List Int} (h : IsTi K H v ns) (t : Tk H H') : IsTi K H' v ns := let ⟨a, e, s⟩ := h; ⟨a, e, t.sq s⟩
theorem IsW.new {p : Addr} {x y : Int} (h : H p = none) : IsW K (upd H p (.tup [.int x, .int y])) (.ref p) (x, y) := ⟨p, rfl, SqT.of upd_same⟩
end
/-! ### as data -/
def dW (u : Wt) : PyData := .tuple [.int u.1, .int u.2]
def dR (r : Rl) : PyData := .tuple [dW r.1, dW r.2]
theorem IsW.dp {K : PySem.W.Frag} {H : Hp} {v : V} {u : Wt} (h : IsW K H v u) : Dp K H v (dW u) := by
  obtain ⟨a, rfl, s⟩ := h
  exact .tup s (.cons (.int _) (.cons (.int _) .nil))
theorem IsR.dp {K : PySem.W.Frag} {H : Hp} {v : V} {r : Rl} (h : IsR K H v r) : Dp K H v (dR r) := by
  obtain ⟨a, x, y, rfl, s, h1, h2⟩ := h
  exact .tup s (.cons h1.dp (.cons h2.dp .nil))
theorem dW_lay (u : Wt) : (dW u).canLay0 = true := by simp [dW, PyData.canLay0, PyData.canLayAll0]
theorem dW_depth (u : Wt) : (dW u).depth = 1 := by simp [dW, PyData.depth, PyData.depthAll]
theorem dR_lay (r : Rl) : (dR r).canLay0 = true := by simp [dR, PyData.canLay0, PyData.canLayAll0, dW_lay]
theorem dR_depth (r : Rl) : (dR r).depth = 2 := by simp [dR, PyData.depth, PyData.depthAll, dW_depth]
theorem dW_sh (u : Wt) : SeqAt.shaped (dW u) = true := by unfold SeqAt.shaped; rw [dW_lay, dW_depth]; decide
theorem dR_sh (r : Rl) : SeqAt.shaped (dR r) = true := by unfold SeqAt.shaped; rw [dR_lay, dR_depth]; decide
theorem dW_eqv (u v : Wt) : PyData.eqv (dW u) (dW v) = decide (u = v) := by
  obtain ⟨a, b⟩ := u
  obtain ⟨c, d⟩ := v
  have e : PyData.eqv (dW (a, b)) (dW (c, d)) = ((a == c) && ((b == d) && true)) := by simp only [dW, PyData.eqv, PyData.eqvAll]
  rw [e]
  by_cases h : ((a, b) : Wt) = (c, d)
  · cases h
    simp
  · rw [decide_eq_false h]
    by_cases h1 : a = c
    · have h2 : ¬ b = d := fun q => h (by rw [h1, q])
      simp [h2]
    · simp [h1]
theorem dR_eqv (r q : Rl) : PyData.eqv (dR r) (dR q) = decide (r = q) := by
  obtain ⟨a, b⟩ := r
  obtain ⟨c, d⟩ := q
  have e : PyData.eqv (dR (a, b)) (dR (c, d)) = (PyData.eqv (dW a) (dW c) && (PyData.eqv (dW b) (dW d) && true)) := by simp only [dR, PyData.eqv, PyData.eqvAll]
  rw [e, dW_eqv, dW_eqv]
  by_cases h : ((a, b) : Rl) = (c, d)
  · cases h
    simp
  · rw [decide_eq_false h]
    by_cases h1 : a = c
    · have h2 : ¬ b = d := fun q => h (by rw [h1, q])
      simp [h2]
    · simp [h1]
/-! ### wants compared -/
def rEqW (K : PySem.W.Frag) : R2 := fun x y H Q => ∃ u v, IsW K H x u ∧ IsW K H y v ∧ Q (.bl (decide (u = v))) H
def rNeW (K : PySem.W.Frag) : R2 := fun x y H Q => ∃ u v, IsW K H x u ∧ IsW K H y v ∧ Q (.bl (!decide (u = v))) H
theorem wlt_dec (a b : Wt) : (if a.1 = b.1 then decide (a.2 < b.2) else decide (a.1 < b.1)) = true ↔ wlt a b := by
  unfold wlt
  split <;> rw [decide_eq_true_iff] <;> omega
section
variable {X : Cx}
theorem op_eqW (hu : X.A.units + 64 < cLine) : OpR X (compareOp .Eq) (rEqW X.K) := opR_of (op_eqD hu) fun x y H Q ⟨u, v, h1, h2, q⟩ =>
  ⟨_, _, h1.dp, h2.dp, dW_sh u, dW_sh v, by rw [dW_eqv]; exact q⟩
theorem op_neW (hu : X.A.units + 64 < cLine) : OpR X (compareOp .NotEq) (rNeW X.K) := opR_of (op_neD hu) fun x y H Q ⟨u, v, h1, h2, q⟩ =>
  ⟨_, _, h1.dp, h2.dp, dW_sh u, dW_sh v, by rw [dW_eqv]; exact q⟩
/-- want <= want, where it is so -/
def rLeW (K : PySem.W.Frag) : R2 := fun x y H Q => ∃ u v, IsW K H x u ∧ IsW K H y v ∧ ¬ wlt v u ∧ Q (.bl true) H
theorem op_leW (hu : X.A.units < cLine) : OpR X (compareOp .LtE) (rLeW X.K) := opR_of (op_leT hu) fun x y H Q ⟨u, v, ⟨a, ea, sa⟩, ⟨b, eb, sb⟩, hn, q⟩ => by
  refine ⟨a, b, [u.1, u.2], [v.1, v.2], ea, eb, sa, sb, ?_⟩
  have e : Ob.lexAt (fun j => decide (([u.1, u.2] : List Int).getD j 0 = ([v.1, v.2] : List Int).getD j 0)) (fun j => decide (([u.1, u.2] : List Int).getD j 0 ≤ ([v.1, v.2] : List Int).getD j 0)) (decide (([u.1, u.2] : List Int).length ≤ ([v.1, v.2] : List Int).length)) 0 (min ([u.1, u.2] : List Int).length ([v.1, v.2] : List Int).length) = true := by
    show (if decide (u.1 = v.1) = true then (if decide (u.2 = v.2) = true then decide (2 ≤ 2) else decide (u.2 ≤ v.2)) else decide (u.1 ≤ v.1)) = true
    unfold wlt at hn
    by_cases h1 : u.1 = v.1
    · rw [if_pos (decide_eq_true h1)]
      by_cases h2 : u.2 = v.2
      · rw [if_pos (decide_eq_true h2)]; rfl
      · rw [if_neg (by rw [decide_eq_true_iff]; exact h2), decide_eq_true_iff]; omega
    · rw [if_neg (by rw [decide_eq_true_iff]; exact h1), decide_eq_true_iff]; omega
  rw [e]
  exact q
end
/-! ### on the heap itself -/
def WIs (h : Heap) (a : Addr) (u : Wt) : Prop := ∃ t t', h.IsTuple a #[.int u.1 t, .int u.2 t']
def RIs (h : Heap) (a : Addr) (r : Rl) : Prop := ∃ x y, h.IsTuple a #[.ref x, .ref y] ∧ WIs h x r.1 ∧ WIs h y r.2
section
variable {X : Cx} {pins : List (Addr × Obj)} {σ : L2.St} {H : Hp} {s : Shared} {a : Addr}
theorem IsW.at (I : Inv X pins σ H s) {u : Wt} (h : IsW X.K H (.ref a) u) : WIs s.heap a u := by
  obtain ⟨b, e, sq⟩ := h
  cases e
  obtain ⟨its, r, p, _⟩ := I.tuple sq
  obtain ⟨u1, u2, rfl, ⟨t, rfl⟩, ⟨t', rfl⟩⟩ := vals2 r
  exact ⟨t, t', p⟩
theorem IsR.at (I : Inv X pins σ H s) {r : Rl} (h : IsR X.K H (.ref a) r) : RIs s.heap a r := by
  obtain ⟨b, x, y, e, sq, h1, h2⟩ := h
  cases e
  obtain ⟨p, rfl, _⟩ := id h1
  obtain ⟨q, rfl, _⟩ := id h2
  obtain ⟨its, rv, tp, _⟩ := I.tuple sq
  obtain ⟨u1, u2, rfl, e1, e2⟩ := vals2 rv
  cases e1
  cases e2
  exact ⟨p, q, tp, h1.at I, h2.at I⟩
end
theorem WIs.reads {h : Heap} {a : Addr} {u : Wt} (x : WIs h a u) : Reads h (.ref a) (dW u) [] := by
  obtain ⟨t, t', o, ho, hc, n, hd⟩ := x
  exact .tuple ho hc hd (.cons (.int _ _) (.cons (.int _ _) .nil))
theorem WIs.eq {A : Around} {s : Shared} {a b : Addr} {u v : Wt} (x : WIs s.heap a u) (y : WIs s.heap b v) (hu : A.units + 1 < cLine) : SeqAt.EqAt A s (.ref a) (.ref b) (decide (u = v)) := by
  have q := SeqAt.eqAt_reads (dW u) (dW v) A s (.ref a) (.ref b) [] [] x.reads y.reads (dW_lay u) (dW_lay v) (by rw [dW_depth, dW_depth]; exact hu)
  rw [dW_eqv] at q
  exact q
theorem RIs.reads {h : Heap} {a : Addr} {r : Rl} (x : RIs h a r) : Reads h (.ref a) (dR r) [] := by
  obtain ⟨p, q, ⟨o, ho, hc, n, hd⟩, h1, h2⟩ := x
  exact .tuple ho hc hd (.cons h1.reads (.cons h2.reads .nil))
theorem RIs.eq {A : Around} {s : Shared} {a b : Addr} {r q : Rl} (x : RIs s.heap a r) (y : RIs s.heap b q) (hu : A.units + 2 < cLine) : SeqAt.EqAt A s (.ref a) (.ref b) (decide (r = q)) := by
  have z := SeqAt.eqAt_reads (dR r) (dR q) A s (.ref a) (.ref b) [] [] x.reads y.reads (dR_lay r) (dR_lay q) (by rw [dR_depth, dR_depth]; exact hu)
  rw [dR_eqv] at z
  exact z
/-! ### order: < and >= -/
def bwlt (a b : Wt) : Bool := if a.1 = b.1 then decide (a.2 < b.2) else decide (a.1 < b.1)
def brlt (a b : Rl) : Bool := if a.1 = b.1 then bwlt a.2 b.2 else bwlt a.1 b.1
theorem lex_two {e0 e1 : Bool} {e r : Nat → Bool} {z : Bool} (h0 : e 0 = e0) (h1 : e 1 = e1) : Ob.lexAt e r z 0 2 = if e0 = true then (if e1 = true then z else r 1) else r 0 := by
  show (if e 0 = true then (if e 1 = true then z else r 1) else r 0) = _
  rw [h0, h1]
section
variable {A : Around} {s : Shared} {a b : Addr}
theorem two_at {α : Type} (x y : α) (P : Nat → α → Prop) (h0 : P 0 x) (h1 : P 1 y) : ∀ j (h : j < (#[x, y] : Array α).size), P j (#[x, y])[j]
  | 0, _ => h0
  | 1, _ => h1
  | n + 2, h => absurd h (by simp)
theorem WIs.lt {u v : Wt} (x : WIs s.heap a u) (y : WIs s.heap b v) (hu : A.units < cLine) : Ob.RcOp .Lt A s (.ref a) (.ref b) (bwlt u v) := by
  obtain ⟨t1, t2, hx⟩ := x
  obtain ⟨t3, t4, hy⟩ := y
  have R := Ob.RcOp.tuples_lt (A := A) (s := s) (e := fun j => if j = 0 then decide (u.1 = v.1) else decide (u.2 = v.2)) (r := fun j => if j = 0 then decide (u.1 < v.1) else decide (u.2 < v.2)) hx hy hu
    (fun j h1 h2 => by
      match j, h1, h2 with
      | 0, _, _ => exact SeqAt.EqAt.int_int u.1 t1 v.1 t3
      | 1, _, _ => exact SeqAt.EqAt.int_int u.2 t2 v.2 t4
      | n + 2, h, _ => exact absurd h (by simp))
    (fun j h1 h2 _ => by
      match j, h1, h2 with
      | 0, _, _ => exact Ob.RcOp.lt_int u.1 v.1 t1 t3
      | 1, _, _ => exact Ob.RcOp.lt_int u.2 v.2 t2 t4
      | n + 2, h, _ => exact absurd h (by simp))
  have e : Ob.lexAt (fun j => if j = 0 then decide (u.1 = v.1) else decide (u.2 = v.2)) (fun j => if j = 0 then decide (u.1 < v.1) else decide (u.2 < v.2)) (decide ((#[Value.int u.1 t1, .int u.2 t2] : Array Value).size < (#[Value.int v.1 t3, .int v.2 t4] : Array Value).size)) 0 (min (#[Value.int u.1 t1, .int u.2 t2] : Array Value).size (#[Value.int v.1 t3, .int v.2 t4] : Array Value).size) = bwlt u v := by
    refine (lex_two (e0 := decide (u.1 = v.1)) (e1 := decide (u.2 = v.2)) rfl rfl).trans ?_
    unfold bwlt
    by_cases h1 : u.1 = v.1
    · rw [if_pos (decide_eq_true h1), if_pos h1]
      by_cases h2 : u.2 = v.2
      · rw [if_pos (decide_eq_true h2)]
        have : ¬ u.2 < v.2 := by omega
        rw [decide_eq_false this]; rfl
      · rw [if_neg (by rw [decide_eq_true_iff]; exact h2)]; rfl
    · rw [if_neg (by rw [decide_eq_true_iff]; exact h1), if_neg h1]; rfl
  rw [e] at R
  exact R
theorem WIs.ge {u v : Wt} (x : WIs s.heap a u) (y : WIs s.heap b v) (hu : A.units < cLine) : Ob.RcOp .GtE A s (.ref a) (.ref b) (!bwlt u v) := by
  obtain ⟨t1, t2, hx⟩ := x
  obtain ⟨t3, t4, hy⟩ := y
  have R := Ob.RcOp.tuples_ge (A := A) (s := s) (e := fun j => if j = 0 then decide (u.1 = v.1) else decide (u.2 = v.2)) (r := fun j => if j = 0 then decide (v.1 ≤ u.1) else decide (v.2 ≤ u.2)) hx hy hu
    (fun j h1 h2 => by
      match j, h1, h2 with
      | 0, _, _ => exact SeqAt.EqAt.int_int u.1 t1 v.1 t3
      | 1, _, _ => exact SeqAt.EqAt.int_int u.2 t2 v.2 t4
      | n + 2, h, _ => exact absurd h (by simp))
    (fun j h1 h2 _ => by
      match j, h1, h2 with
      | 0, _, _ => exact Ob.RcOp.ge_int u.1 v.1 t1 t3
      | 1, _, _ => exact Ob.RcOp.ge_int u.2 v.2 t2 t4
      | n + 2, h, _ => exact absurd h (by simp))
  have e : Ob.lexAt (fun j => if j = 0 then decide (u.1 = v.1) else decide (u.2 = v.2)) (fun j => if j = 0 then decide (v.1 ≤ u.1) else decide (v.2 ≤ u.2)) (decide ((#[Value.int u.1 t1, .int u.2 t2] : Array Value).size ≥ (#[Value.int v.1 t3, .int v.2 t4] : Array Value).size)) 0 (min (#[Value.int u.1 t1, .int u.2 t2] : Array Value).size (#[Value.int v.1 t3, .int v.2 t4] : Array Value).size) = !bwlt u v := by
    refine (lex_two (e0 := decide (u.1 = v.1)) (e1 := decide (u.2 = v.2)) rfl rfl).trans ?_
    unfold bwlt
    by_cases h1 : u.1 = v.1
    · rw [if_pos (decide_eq_true h1), if_pos h1]
      by_cases h2 : u.2 = v.2
      · rw [if_pos (decide_eq_true h2)]
        have : ¬ u.2 < v.2 := by omega
        rw [decide_eq_false this]; rfl
      · rw [if_neg (by rw [decide_eq_true_iff]; exact h2)]
        show decide (v.2 ≤ u.2) = _
        by_cases h3 : u.2 < v.2
        · rw [decide_eq_true h3, decide_eq_false (by omega)]; rfl
        · rw [decide_eq_false h3, decide_eq_true (by omega)]; rfl
    · rw [if_neg (by rw [decide_eq_true_iff]; exact h1), if_neg h1]
      show decide (v.1 ≤ u.1) = _
      by_cases h3 : u.1 < v.1
      · rw [decide_eq_true h3, decide_eq_false (by omega)]; rfl
      · rw [decide_eq_false h3, decide_eq_true (by omega)]; rfl
  rw [e] at R
  exact R
theorem in1_units (A : Around) : A.in1.units ≤ A.units + 1 := by
  show A.units + 1 ≤ A.units + 1
  exact Nat.le_refl _
theorem RIs.lt {r q : Rl} (x : RIs s.heap a r) (y : RIs s.heap b q) (hu : A.units + 3 < cLine) : Ob.RcOp .Lt A s (.ref a) (.ref b) (brlt r q) := by
  obtain ⟨x1, x2, hx, hx1, hx2⟩ := x
  obtain ⟨y1, y2, hy, hy1, hy2⟩ := y
  have hi := in1_units A
  have R := Ob.RcOp.tuples_lt (A := A) (s := s) (e := fun j => if j = 0 then decide (r.1 = q.1) else decide (r.2 = q.2)) (r := fun j => if j = 0 then bwlt r.1 q.1 else bwlt r.2 q.2) hx hy (by omega)
    (fun j h1 h2 => by
      match j, h1, h2 with
      | 0, _, _ => exact WIs.eq hx1 hy1 (by omega)
      | 1, _, _ => exact WIs.eq hx2 hy2 (by omega)
      | n + 2, h, _ => exact absurd h (by simp))
    (fun j h1 h2 _ => by
      match j, h1, h2 with
      | 0, _, _ => exact WIs.lt hx1 hy1 (by omega)
      | 1, _, _ => exact WIs.lt hx2 hy2 (by omega)
      | n + 2, h, _ => exact absurd h (by simp))
  have e : Ob.lexAt (fun j => if j = 0 then decide (r.1 = q.1) else decide (r.2 = q.2)) (fun j => if j = 0 then bwlt r.1 q.1 else bwlt r.2 q.2) (decide ((#[Value.ref x1, .ref x2] : Array Value).size < (#[Value.ref y1, .ref y2] : Array Value).size)) 0 (min (#[Value.ref x1, .ref x2] : Array Value).size (#[Value.ref y1, .ref y2] : Array Value).size) = brlt r q := by
    refine (lex_two (e0 := decide (r.1 = q.1)) (e1 := decide (r.2 = q.2)) rfl rfl).trans ?_
    unfold brlt
    by_cases h1 : r.1 = q.1
    · rw [if_pos (decide_eq_true h1), if_pos h1]
      by_cases h2 : r.2 = q.2
      · rw [if_pos (decide_eq_true h2), h2]
        show decide (2 < 2) = bwlt q.2 q.2
        unfold bwlt
        rw [if_pos rfl, decide_eq_false (Int.lt_irrefl _)]; rfl
      · rw [if_neg (by rw [decide_eq_true_iff]; exact h2)]; rfl
    · rw [if_neg (by rw [decide_eq_true_iff]; exact h1), if_neg h1]; rfl
  rw [e] at R
  exact R
theorem RIs.ge {r q : Rl} (x : RIs s.heap a r) (y : RIs s.heap b q) (hu : A.units + 3 < cLine) : Ob.RcOp .GtE A s (.ref a) (.ref b) (!brlt r q) := by
  obtain ⟨x1, x2, hx, hx1, hx2⟩ := x
  obtain ⟨y1, y2, hy, hy1, hy2⟩ := y
  have hi := in1_units A
  have R := Ob.RcOp.tuples_ge (A := A) (s := s) (e := fun j => if j = 0 then decide (r.1 = q.1) else decide (r.2 = q.2)) (r := fun j => if j = 0 then !bwlt r.1 q.1 else !bwlt r.2 q.2) hx hy (by omega)
    (fun j h1 h2 => by
      match j, h1, h2 with
      | 0, _, _ => exact WIs.eq hx1 hy1 (by omega)
      | 1, _, _ => exact WIs.eq hx2 hy2 (by omega)
      | n + 2, h, _ => exact absurd h (by simp))
    (fun j h1 h2 _ => by
      match j, h1, h2 with
      | 0, _, _ => exact WIs.ge hx1 hy1 (by omega)
      | 1, _, _ => exact WIs.ge hx2 hy2 (by omega)
      | n + 2, h, _ => exact absurd h (by simp))
  have e : Ob.lexAt (fun j => if j = 0 then decide (r.1 = q.1) else decide (r.2 = q.2)) (fun j => if j = 0 then !bwlt r.1 q.1 else !bwlt r.2 q.2) (decide ((#[Value.ref x1, .ref x2] : Array Value).size ≥ (#[Value.ref y1, .ref y2] : Array Value).size)) 0 (min (#[Value.ref x1, .ref x2] : Array Value).size (#[Value.ref y1, .ref y2] : Array Value).size) = !brlt r q := by
    refine (lex_two (e0 := decide (r.1 = q.1)) (e1 := decide (r.2 = q.2)) rfl rfl).trans ?_
    unfold brlt
    by_cases h1 : r.1 = q.1
    · rw [if_pos (decide_eq_true h1), if_pos h1]
      by_cases h2 : r.2 = q.2
      · rw [if_pos (decide_eq_true h2), h2]
        show decide (2 ≥ 2) = !bwlt q.2 q.2
        unfold bwlt
        rw [if_pos rfl, decide_eq_false (Int.lt_irrefl _)]; rfl
      · rw [if_neg (by rw [decide_eq_true_iff]; exact h2)]; rfl
    · rw [if_neg (by rw [decide_eq_true_iff]; exact h1), if_neg h1]; rfl
  rw [e] at R
  exact R
end
/-- rule >= rule -/
def rGeR (K : PySem.W.Frag) : R2 := fun x y H Q => ∃ r q, IsR K H x r ∧ IsR K H y q ∧ Q (.bl (!brlt r q)) H
theorem op_geR {X : Cx} (hu : X.A.units + 3 < cLine) : OpR X (compareOp .GtE) (rGeR X.K) := by
  intro pins s σ H x y v u Q I rx ry h
  obtain ⟨r, q, h1, h2, k⟩ := h
  obtain ⟨a, _, _, rfl, _⟩ := id h1
  obtain ⟨b, _, _, rfl, _⟩ := id h2
  cases rx
  cases ry
  exact RIs.ge (h1.at I) (h2.at I) hu X.prog X.w _ _ ⟨.bl _, H, I, rfl, k⟩
end K74

set_option Elab.async false
set_option linter.all false
set_option maxRecDepth 100000
set_option maxHeartbeats 4000000
namespace K74
open PySem PySem.Spec PyProof.Rows L2
/-! ### what a comprehension has made after i items -/
def PvAll (F : Nat → V → Hp → Prop) (H1 : Hp) (D : Addr) (i : Nat) (H : Hp) : Prop :=
  Same H1 H ∧ ∃ ys, H D = some (.lst ys) ∧ ys.length = i ∧ ∀ k y, ys[k]? = some y → F k y H
/-- a description that tuples alone bear -/
def ByT (F : Nat → V → Hp → Prop) : Prop := ∀ i y H H', Tk H H' → F i y H → F i y H'
theorem sameOver {H1 H : Hp} {D : Addr} {o : HO} (hD : H1 D = none) (s : Same H1 H) : Same H1 (upd H D o) := fun b u e => by
  rw [upd_ne (ne_of_none e hD)]; exact s b u e
theorem PvAll.zero {F : Nat → V → Hp → Prop} {H1 : Hp} {D : Addr} (hD : H1 D = none) : PvAll F H1 D 0 (upd H1 D (.lst [])) :=
  ⟨samePut hD, [], upd_same, rfl, fun k y e => by simp at e⟩
theorem PvAll.next {F : Nat → V → Hp → Prop} {H1 H H4 : Hp} {D : Addr} {i : Nat} {y : V} (kf : ByT F) (hD : H1 D = none) (p : PvAll F H1 D i H) (s : Same H H4) (f : F i y H4) (hi : i < sizeLine) :
    ∃ acc, H4 D = some (.lst acc) ∧ acc.length < sizeLine ∧ PvAll F H1 D (i + 1) (upd H4 D (.lst (acc ++ [y]))) := by
  obtain ⟨s1, ys, e, hl, hf⟩ := p
  have e4 := s _ _ e
  have t : Tk H4 (upd H4 D (.lst (ys ++ [y]))) := Tk.write e4 True.intro
  refine ⟨ys, e4, by rw [hl]; exact hi, sameOver hD (s1.trans s), _, upd_same, by rw [List.length_append, hl]; rfl, fun k z hz => ?_⟩
  by_cases hk : k < ys.length
  · rw [List.getElem?_append_left hk] at hz
    exact kf _ _ _ _ t (kf _ _ _ _ (tkS s) (hf k z hz))
  · rw [List.getElem?_append_right (by omega)] at hz
    have hk0 : k - ys.length = 0 := by
      cases q : k - ys.length with
      | zero => rfl
      | succ m => rw [q] at hz; simp at hz
    rw [hk0] at hz
    have hzy : y = z := by simpa using hz
    subst hzy
    have : k = i := by omega
    subst this
    exact kf _ _ _ _ t f
def PvFil (p : Nat → Prop) (xs : List V) (H1 : Hp) (D : Addr) (i : Nat) (H : Hp) : Prop :=
  Same H1 H ∧ ∃ (ys : List V) (ks : List Nat), H D = some (.lst ys) ∧ ys.length ≤ i ∧ Paired (fun y k => xs[k]? = some y) ys ks ∧ ∀ k, k ∈ ks ↔ k < i ∧ p k
theorem PvFil.zero {p : Nat → Prop} {xs : List V} {H1 : Hp} {D : Addr} (hD : H1 D = none) : PvFil p xs H1 D 0 (upd H1 D (.lst [])) :=
  ⟨samePut hD, [], [], upd_same, Nat.le_refl _, .nil, fun k => ⟨(fun h => by cases h), (fun h => absurd h.1 (Nat.not_lt_zero _))⟩⟩
theorem PvFil.yes {p : Nat → Prop} {xs : List V} {H1 H H4 : Hp} {D : Addr} {i : Nat} {x : V} (hD : H1 D = none) (q : PvFil p xs H1 D i H) (s : Same H H4) (hx : xs[i]? = some x) (hp : p i) (hi : i < sizeLine) :
    ∃ acc, H4 D = some (.lst acc) ∧ acc.length < sizeLine ∧ PvFil p xs H1 D (i + 1) (upd H4 D (.lst (acc ++ [x]))) := by
  obtain ⟨s1, ys, ks, e, hl, h1, h2⟩ := q
  refine ⟨ys, s _ _ e, Nat.lt_of_le_of_lt hl hi, sameOver hD (s1.trans s), _, ks ++ [i], upd_same, by rw [List.length_append]; exact Nat.succ_le_succ hl, Paired.app h1 (Paired.one hx), fun k => ?_⟩
  rw [List.mem_append, List.mem_singleton, h2 k]
  constructor
  · rintro (⟨a, b⟩ | rfl)
    · exact ⟨Nat.lt_succ_of_lt a, b⟩
    · exact ⟨Nat.lt_succ_self _, hp⟩
  · rintro ⟨a, b⟩
    rcases Nat.lt_or_ge k i with c | c
    · exact .inl ⟨c, b⟩
    · exact .inr (by omega)
theorem PvFil.no {p : Nat → Prop} {xs : List V} {H1 H H3 : Hp} {D : Addr} {i : Nat} (q : PvFil p xs H1 D i H) (s : Same H H3) (hp : ¬ p i) : PvFil p xs H1 D (i + 1) H3 := by
  obtain ⟨s1, ys, ks, e, hl, h1, h2⟩ := q
  refine ⟨s1.trans s, ys, ks, s _ _ e, Nat.le_succ_of_le hl, h1, fun k => ?_⟩
  rw [h2 k]
  constructor
  · rintro ⟨a, b⟩
    exact ⟨Nat.lt_succ_of_lt a, b⟩
  · rintro ⟨a, b⟩
    rcases Nat.lt_or_ge k i with c | c
    · exact ⟨c, b⟩
    · exact absurd (show p i by have : k = i := by omega
                                rw [← this]; exact b) hp
/-- all made are True -/
abbrev allT : Nat → V → Hp → Prop := fun _ y _ => y = .bl true
theorem allT_by : ByT allT := fun _ _ _ _ _ h => h
theorem allT_rep {ys : List V} {H : Hp} (h : ∀ k y, ys[k]? = some y → allT k y H) : ys = (List.replicate ys.length true).map V.bl := by
  rw [List.map_replicate]
  refine List.eq_replicate_iff.mpr ⟨rfl, fun b hb => ?_⟩
  obtain ⟨k, hk, e⟩ := List.mem_iff_getElem.mp hb
  exact h k b (by rw [← e]; exact List.getElem?_eq_getElem hk)
theorem all_rep (n : Nat) : (List.replicate n true).all id = true := by
  induction n with
  | zero => rfl
  | succ n ih => rw [List.replicate_succ, List.all_cons, ih]; rfl
/-- what a callee at H promises: things stand, and it goes on from whatever stands more -/
abbrev sizeL : Nat := sizeLine
theorem szBig {n : Nat} (h : n ≤ 100000) : n < sizeLine := Nat.lt_of_le_of_lt h (by decide)
end K74

set_option Elab.async false
set_option linter.all false
set_option maxRecDepth 100000
set_option maxHeartbeats 4000000
/-! enumerate over a tuple -/
namespace K74
open PySem PySem.Spec PyProof.Rows L2
open AutoSeq1 (wpAny_loadPart')
def tIt (l : Addr) : Obj := { cls := .type "tuple_iterator", data := .fields #[.ref l, .int 0 0] }
def eOb (c : Addr) : Obj := { cls := .type "enumerate", data := .fields #[.none, .bool false, .ref c, rawInt 0, .none, .none] }
theorem enumT_new (l : Addr) (its : Array Value) :
    Meets (Builtin.«enumerate.__new__» ⟨[.type "enumerate", .ref l], []⟩) (fun _ R s => s.heap.IsTuple l its ∧
      R (.ok (.ret (.ref (s.heap.push (tIt l)).objs.size))) { s with heap := (s.heap.push (tIt l)).push (eOb s.heap.objs.size) }) :=
  .of_wp fun prog w A R s h => by
    obtain ⟨hp, gs, dr, tk, os⟩ := s
    obtain ⟨hT, k⟩ := h
    have hsub := sub_enumerate
    obtain ⟨⟨c0, d0, dt0, sl0⟩, hl, hc, n, hd⟩ := id hT
    replace hc : c0 = .type "tuple" := hc
    replace hd : dt0 = .seq its n := hd
    subst hc hd
    wp_walk using wpAny_loadPart' hl
    refine wpAny_stack_any fun st => wpAny_pure ?_
    split
    · rename_i c _ _ _ _ _
      cases (c == Value.type "enumerate")
      · wp_walk using wpAny_loadPart' hl, wpAny_pyIter_tuple hT
        exact ⟨_, rfl, k⟩
      · wp_walk using wpAny_loadPart' hl, wpAny_pyIter_tuple hT
        exact ⟨_, rfl, k⟩
    · wp_walk using wpAny_loadPart' hl, wpAny_pyIter_tuple hT
      exact ⟨_, rfl, k⟩
theorem call_enumT {prog : Program} {w : World} {A : Around} {E : Value → Shared → Prop} {s : Shared} {l : Addr} {its : Array Value} {Q : Value → Shared → Prop} (hT : s.heap.IsTuple l its)
    (k : ∀ h', IsEnum h' (s.heap.objs.size + 1) s.heap.objs.size 0 .none → h'.IsTupleIter s.heap.objs.size l 0 → (∀ b o, s.heap.get? b = some o → h'.get? b = some o) → Q (.ref (s.heap.objs.size + 1)) { s with heap := h' }) :
    wpAny (model prog w) A (call (.type "enumerate") [.ref l]) Q E s := by
  refine callType_new F.called_enumerate (by decide) (F.typeCall_enumerate_1 _) (F.newCall_enumerate_1 _) (fun obj => F.args_object_init_2 obj _) F.entry_enumerate_new (enumT_new l its) ⟨hT, ?_⟩
  have sz : (s.heap.push (tIt l)).objs.size = s.heap.objs.size + 1 := Heap.size_push ..
  show _ ∧ _
  rw [sz]
  have he : IsEnum ((s.heap.push (tIt l)).push (eOb s.heap.objs.size)) (s.heap.objs.size + 1) s.heap.objs.size 0 .none := by
    have q := Heap.get?_push_size (s.heap.push (tIt l)) (o := eOb s.heap.objs.size) rfl
    rw [sz] at q
    exact q
  exact ⟨⟨_, he, rfl⟩, k _ he ⟨_, Heap.get?_push_of_some _ (Heap.get?_push_size _ rfl), rfl, rfl⟩ fun b o x => Heap.get?_push_of_some _ (Heap.get?_push_of_some _ x)⟩
/-- the tuple at a, each item in a new pair -/
def ItE (K : PySem.W.Frag) (a : Addr) : It :=
  ⟨fun i H => ∃ (xs : List V) (x : V), SqT K H a xs ∧ xs[i]? = some x, fun i H v H' => ∃ T x, v = .ref T ∧ H T = none ∧ H' = upd H T (.tup [.int (i : Nat), x]) ∧ ∀ xs, SqT K H a xs → xs[i]? = some x,
    fun i H => ∃ xs : List V, SqT K H a xs ∧ xs.length = i⟩
theorem st_obj {h : Heap} {e it a : Addr} {i : Nat} {k : Int} (he : ∃ old, IsEnum h e it k old) (hi : h.IsTupleIter it a i) : ∀ b ∈ [e, it], ∃ c ob, h.get? b = some ob ∧ c = ob.cls ∧ ob.cls ≠ .type "tuple" := fun b hb => by
  rcases List.mem_cons.mp hb with z | z
  · subst z
    obtain ⟨old, q⟩ := he
    exact ⟨_, _, q, rfl, fun z => by
      have y : ("enumerate" : String) = "tuple" := Value.type.inj z
      exact absurd y (by decide)⟩
  · rw [List.mem_singleton.mp z]
    obtain ⟨o, ho, hc, _⟩ := hi
    exact ⟨_, o, ho, rfl, fun z => by
      rw [hc] at z
      have y : ("tuple_iterator" : String) = "tuple" := Value.type.inj z
      exact absurd y (by decide)⟩
theorem turn_enumT {P : Program} {w : World} {K : PySem.W.Frag} {elts : List Expr} {kk : Nat} {tpos : Pos} (a e it : Addr) :
    Turn P w K (.Tuple elts kk tpos) (ItE K a) [e, it] e (fun i h => (∃ old, IsEnum h e it ((0 : Int) + (i : Int)) old) ∧ h.IsTupleIter it a i ∧ e ≠ it) where
  mem := List.mem_cons_self
  obj := fun i h st b hb => by
    obtain ⟨⟨old, he⟩, ⟨o, ho, hc, hd⟩, _⟩ := st
    rcases List.mem_cons.mp hb with z | z
    · subst z
      exact ⟨_, he, fun v q => by cases q⟩
    · rw [List.mem_singleton.mp z]
      exact ⟨o, ho, fun v q => by rw [hd] at q; cases q⟩
  keep := fun i h h' st k => by
    obtain ⟨⟨old, he⟩, hi, hne⟩ := st
    exact ⟨⟨old, k e List.mem_cons_self _ he⟩, hi.at fun o q => k it (List.mem_cons_of_mem _ List.mem_cons_self) o q, hne⟩
  item := by
    intro X hP hw hK hc i pins s σ H E I hf st hg
    subst hP hw hK
    obtain ⟨hen, hit, hne⟩ := st
    obtain ⟨xs, x, hq, hx⟩ := hg
    obtain ⟨its, rv, tp, hz⟩ := I.tuple hq
    obtain ⟨u, hu, ru⟩ := rv.get hx
    have hlt : i < its.toArray.size := by
      have q := (List.getElem?_eq_some_iff.mp hu).1
      rw [List.size_toArray]; exact q
    have nae : ∀ b ∈ [e, it], a ≠ b := fun b hb z => by
      have hn := (hf b hb).1
      have hb' := (hf b hb)
      rcases hq with (r | ⟨o, r⟩) | ⟨o, its', n, hk, _⟩
      · rw [z, hn] at r; cases r
      · rw [z, hn] at r; cases r
      · obtain ⟨_, ob, hob, _, hcc⟩ := st_obj hen hit b hb
        have q := I.kIn a o hk
        rw [z] at q
        obtain ⟨o2, ho2, hc2, _⟩ := id tp
        rw [z] at ho2
        have : ob = o2 := Option.some.inj (hob.symm.trans ho2)
        subst this
        exact hcc hc2
    have W := GoesN.enumFrom (prog := X.prog) (w := X.w) (A := X.A) (elts := elts) (x1 := kk) (pos := tpos) (0 : Int) (Draws.tuple (prog := X.prog) (w := X.w) (A := X.A.in1) (by rw [Around.in1]; exact I.ok.hd hc) it a (nae it (List.mem_cons_of_mem _ List.mem_cons_self)) its.toArray) e hne
      (by intro z; rcases List.mem_cons.mp z with z | z; exact hne z; exact nae e List.mem_cons_self (List.mem_singleton.mp z).symm) List.mem_cons_self
    refine W.goes i s _ E hlt ⟨hen, hit, tp⟩ fun v h' tk ⟨T, t, y, ev, hT, hy, hTt⟩ st' kp htk => ?_
    subst ev
    have ey : y = u := by
      have q : its.toArray[i]? = some u := by rw [List.getElem?_toArray]; exact hu
      exact Option.some.inj (hy.symm.trans q)
    subst ey
    have new : ObjOk X.prog X.w (upd H T (.tup [.int (i : Nat), x])) h' T (.tup [.int (i : Nat), x]) :=
      ⟨by show 2 ≤ sizeLine; decide, [.int ((0 : Int) + (i : Int)) t, y], .cons ⟨t, by rw [Int.zero_add]⟩ (.cons ru .nil), hTt⟩
    have I1 : Inv X pins σ (upd H T (.tup [.int (i : Nat), x])) { s with heap := h', toks := tk } := I.turnedNew (ch := [e, it]) kp hf hT new
    refine ⟨.ref T, _, I1, rfl, ⟨T, x, rfl, I.hok.fresh hT, rfl, fun ys hys => by rw [I.tuple_inj hys hq]; exact hx⟩, ⟨st'.1, st'.2.1, hne⟩, fun b hb => ?_⟩
    have hb' : b < s.heap.objs.size := by
      obtain ⟨_, ob, hob, _, _⟩ := st_obj hen hit b hb
      exact Heap.lt_size hob
    rw [upd_ne (Nat.ne_of_lt (Nat.lt_of_lt_of_le hb' hT))]
    exact (hf b hb).1
  done := by
    intro X hP hw hK hc i pins s σ H E I hf st hg
    subst hP hw hK
    obtain ⟨hen, hit, hne⟩ := st
    obtain ⟨xs, hq, hx⟩ := hg
    obtain ⟨its, rv, tp, hz⟩ := I.tuple hq
    have nae : ∀ b ∈ [e, it], a ≠ b := fun b hb z => by
      have hn := (hf b hb).1
      have hb' := (hf b hb)
      rcases hq with (r | ⟨o, r⟩) | ⟨o, its', n, hk, _⟩
      · rw [z, hn] at r; cases r
      · rw [z, hn] at r; cases r
      · obtain ⟨_, ob, hob, _, hcc⟩ := st_obj hen hit b hb
        have q := I.kIn a o hk
        rw [z] at q
        obtain ⟨o2, ho2, hc2, _⟩ := id tp
        rw [z] at ho2
        have : ob = o2 := Option.some.inj (hob.symm.trans ho2)
        subst this
        exact hcc hc2
    have W := GoesN.enumFrom (prog := X.prog) (w := X.w) (A := X.A) (elts := elts) (x1 := kk) (pos := tpos) (0 : Int) (Draws.tuple (prog := X.prog) (w := X.w) (A := X.A.in1) (by rw [Around.in1]; exact I.ok.hd hc) it a (nae it (List.mem_cons_of_mem _ List.mem_cons_self)) its.toArray) e hne
      (by intro z; rcases List.mem_cons.mp z with z | z; exact hne z; exact nae e List.mem_cons_self (List.mem_singleton.mp z).symm) List.mem_cons_self
    have en : its.toArray.size = i := by rw [List.size_toArray, ← rv.length]; exact hx
    have st0 : (∃ old, IsEnum s.heap e it ((0 : Int) + ((its.toArray.size : Nat) : Int)) old) ∧ s.heap.IsTupleIter it a its.toArray.size ∧ s.heap.IsTuple a its.toArray := by rw [en]; exact ⟨hen, hit, tp⟩
    exact W.stops s (fun s1 => Inv X pins σ H s1) E st0 fun h' tk kp _ => I.turnedL kp hf
  self := fun A i s Q E st h => by
    obtain ⟨⟨_, he⟩, _⟩ := st
    exact wpAny_pyIter_enum he h
def iEnumT (K : PySem.W.Frag) (ta : TA) : TI := fun σ H R => ta σ H fun vs H1 => ∃ a xs, vs = [.ref a] ∧ SqT K H1 a xs ∧ R (ItE K a) H1
theorem pi_enumT {X : Cx} {e : Expr} {ta : TA} {p pos tpos : Pos} {elts : List Expr} {kk : Nat} (hg : Gl X "enumerate") (hm : X.mg "enumerate" = none) (ha : PA X [e] ta) (hs : starEach [e] X.env = [(false, eval e X.env)] := by rfl) :
    PI X (.Tuple elts kk tpos) (.Call (.Name "enumerate" p) [e] [] pos) (iEnumT X.K ta) := by
  refine ⟨fun pins s σ H R I h => Call_ (ld_blt I hg hm boot_enumerate (callWith_type1 (thn (ha.run pos pins s σ H _ I h) fun us s1 ⟨vs, H1, I1, r1, a, xs, ex, hq, q⟩ => ?_) hs rfl))⟩
  subst ex
  rw [Vals.ref1 r1]
  obtain ⟨its, rv, tp, _⟩ := I1.tuple hq
  refine call_enumT tp fun h' he hit hk => wpAny_pyIter_enum he ?_
  have I2 : Inv X pins σ H1 { s1 with heap := h' } := I1.kept (t' := s1.toks) hk
  refine ⟨_, [s1.heap.objs.size + 1, s1.heap.objs.size], _, _, H1, rfl, I2, turn_enumT a (s1.heap.objs.size + 1) s1.heap.objs.size, ⟨⟨.none, by rw [Int.zero_add]; exact he⟩, hit, Nat.succ_ne_self _⟩, fun b hb => ?_, q⟩
  have big : s1.heap.objs.size ≤ b := by
    rcases List.mem_cons.mp hb with z | z
    · rw [z]; exact Nat.le_succ _
    · rw [List.mem_singleton.mp z]; exact Nat.le_refl _
  exact I1.fpOk big (I1.hok.fresh big)
/-- for i, x in enumerate(t): an invariant over the turn -/
theorem for_enumT {K : PySem.W.Frag} {a : Addr} {xs : List V} {g : TG} {tb : TS} {D : Ends} {σ : L2.St} {H : Hp} (Pv : Nat → L2.St → Hp → Prop) (h0 : Pv 0 σ H) (hl : ∀ i σ H, Pv i σ H → SqT K H a xs)
    (hs : ∀ i x T σ H, xs[i]? = some x → Pv i σ H → H T = none → g (.ref T) σ (upd H T (.tup [.int (i : Nat), x])) fun σ2 H2 => tb { D with nx := Pv (i + 1), bk := D.nx, ct := Pv (i + 1) } σ2 H2) (hd : ∀ σ H, Pv xs.length σ H → D.nx σ H) :
    ∃ W : Nat → Nat → L2.St → Hp → Prop, (∃ m, W 0 m σ H) ∧ ∀ i m σ H, W i m σ H →
      ((ItE K a).stop i H ∧ D.nx σ H) ∨ ((ItE K a).go i H ∧ ∃ N : L2.St → Hp → Prop, (∀ σ' H', N σ' H' → ∃ m', m' < m ∧ W (i + 1) m' σ' H') ∧ ∀ v H', (ItE K a).yld i H v H' → g v σ H' fun σ2 H2 => tb { D with nx := N, bk := D.nx, ct := N } σ2 H2) := by
  refine ⟨fun i m σ H => m = xs.length - i ∧ i ≤ xs.length ∧ Pv i σ H, ⟨_, rfl, Nat.zero_le _, h0⟩, ?_⟩
  rintro i m σ H ⟨rfl, hi, p⟩
  have sq := hl i σ H p
  rcases Nat.lt_or_ge i xs.length with lt | ge
  · refine .inr ⟨⟨xs, xs[i], sq, List.getElem?_eq_getElem lt⟩, Pv (i + 1), fun σ' H' p' => ⟨xs.length - (i + 1), by omega, rfl, lt, p'⟩, ?_⟩
    rintro v H' ⟨T, x, rfl, hT, rfl, hx⟩
    exact hs i x T σ H (hx xs sq) p hT
  · have e : i = xs.length := by omega
    subst e
    exact .inl ⟨⟨xs, sq, rfl⟩, hd σ H p⟩
end K74

set_option Elab.async false
set_option linter.all false
set_option maxRecDepth 100000
set_option maxHeartbeats 4000000
namespace K74
open PySem PySem.Spec PyProof.Rows L2
/-! ### short words for terms -/
section
variable {X : Cx} {e a b : Expr} {te ta tb : TE} {p p2 pos : Pos}
theorem x_isT (B : Bl X.mg) (he : PE X e te) (hg : Gl X "isinstance" := by rfl) (hg2 : Gl X "tuple" := by rfl)
    (h1 : starEach [e, .Name "tuple" p2] X.env = (false, eval e X.env) :: starEach [.Name "tuple" p2] X.env := by rfl) (h2 : (backTo pos (starEach [.Name "tuple" p2] X.env)).any (·.1) = false := by rfl) :
    PE X (.Call (.Name "isinstance" p) [e, .Name "tuple" p2] [] pos) (tCB (fun xs H Q => ∃ a ys, xs = [.ref a, .ty "tuple"] ∧ SqT X.K H a ys ∧ Q (.bl true) H) (tCons te (tCons (tC (.ty "tuple")) tNil))) :=
  pe_callB isi_tup hg B.isi boot_isi (pa_cons he (pa_cons (pe_bltn (v := .ty "tuple") hg2 B.tuple boot_ty_tuple rfl) pa_nil) (hs := h1)) (he := h1) (hpl := h2)
theorem x_len (B : Bl X.mg) (he : PE X e te) (hg : Gl X "len" := by rfl) (h1 : starEach [e] X.env = (false, eval e X.env) :: starEach [] X.env := by rfl) (h2 : (backTo pos (starEach [] X.env)).any (·.1) = false := by rfl) :
    PE X (.Call (.Name "len" p) [e] [] pos) (tCB (fun xs H Q => ∃ p ys, xs = [.ref p] ∧ (SqL X.K H p ys ∨ SqT X.K H p ys) ∧ Q (.int ys.length) H) (tCons te tNil)) :=
  pe_callB call_len_seq hg B.len PySem.boot_len (pa_cons he pa_nil (hs := h1)) (he := h1) (hpl := h2)
theorem x_ix (ha : PE X a ta) (hb : PE X b tb) (h : PlainIx b := by intro _ _; rfl) : PE X (.Subscript a b pos) (tOp (rIxT X.K) ta tb) := pe_ix ix_tup ha hb h
theorem x_ixL (ha : PE X a ta) (hb : PE X b tb) (h : PlainIx b := by intro _ _; rfl) : PE X (.Subscript a b pos) (tOp (rIxL X.K) ta tb) := pe_ix ix_list ha hb h
theorem hu3 {k : Nat} {A : Around} (hr : Room k A) : A.units + 3 < cLine := by have := hr.un; omega
theorem hu65 {k : Nat} {A : Around} (hr : Room k A) : A.units + 65 < cLine := by have := hr.un; omega
theorem hu100 {k : Nat} {A : Around} (hr : Room k A) : A.units + 100 < cLine := by have := hr.un; omega
theorem boot_all : bootBuiltins "all" = some (.builtin "all") := by decide +kernel
theorem boot_sum : bootBuiltins "sum" = some (.builtin "sum") := by decide +kernel
theorem boot_min : bootBuiltins "min" = some (.builtin "min") := by decide +kernel
theorem boot_max : bootBuiltins "max" = some (.builtin "max") := by decide +kernel
theorem boot_sorted : bootBuiltins "sorted" = some (.builtin "sorted") := by decide +kernel
theorem x_all (B : Bl X.mg) (he : PE X e te) (hc : X.calm = true := by rfl) (hg : Gl X "all" := by rfl) (h1 : starEach [e] X.env = (false, eval e X.env) :: starEach [] X.env := by rfl) (h2 : (backTo pos (starEach [] X.env)).any (·.1) = false := by rfl) :
    PE X (.Call (.Name "all" p) [e] [] pos) (tCB (rAll X.K) (tCons te tNil)) := pe_callB (cr_all hc) hg B.all boot_all (pa_cons he pa_nil (hs := h1)) (he := h1) (hpl := h2)
theorem x_sum (B : Bl X.mg) (he : PE X e te) (hc : X.calm = true := by rfl) (hg : Gl X "sum" := by rfl) (h1 : starEach [e] X.env = (false, eval e X.env) :: starEach [] X.env := by rfl) (h2 : (backTo pos (starEach [] X.env)).any (·.1) = false := by rfl) :
    PE X (.Call (.Name "sum" p) [e] [] pos) (tCB (rSum X.K) (tCons te tNil)) := pe_callB (cr_sum hc) hg B.sum boot_sum (pa_cons he pa_nil (hs := h1)) (he := h1) (hpl := h2)
theorem x_min (B : Bl X.mg) (he : PE X e te) (hc : X.calm = true := by rfl) (hg : Gl X "min" := by rfl) (h1 : starEach [e] X.env = (false, eval e X.env) :: starEach [] X.env := by rfl) (h2 : (backTo pos (starEach [] X.env)).any (·.1) = false := by rfl) :
    PE X (.Call (.Name "min" p) [e] [] pos) (tCB (rMin X.K) (tCons te tNil)) := pe_callB (cr_min hc) hg B.min boot_min (pa_cons he pa_nil (hs := h1)) (he := h1) (hpl := h2)
theorem boot_ty_list : bootBuiltins "list" = some (.type "list") := by decide +kernel
theorem boot_ty_set : bootBuiltins "set" = some (.type "set") := by decide +kernel
end
end K74

set_option Elab.async false
set_option linter.all false
set_option maxRecDepth 100000
set_option maxHeartbeats 4000000
namespace K74
open PySem PySem.Spec PyProof.Rows L2
section
variable {P : Program} {w : World} {K : PySem.W.Frag} {mg : Str → Option Value} {base : Heap}
/-! ### is_want_of -/
abbrev sIsWantOf : Stmt := topS 11
def spIsWantOf (K : PySem.W.Frag) : Sp := fun vs H Q _ => ∃ (n : Nat) (v : V) (u : Wt), vs = [.int n, v] ∧ IsW K H v u ∧ OkW n u ∧ Q (.bl true) H
theorem scIsWantOf : FnScope ["many", "value"] ["many", "value"] (defScope sIsWantOf) := ⟨rfl, rfl, rfl, by decide +kernel, rfl, by decide +kernel, by decide +kernel⟩
theorem cIsWantOf (B : Bl mg) (c1 : Cal P w K mg base 1 "is_from" ["value", "low", "high"] spIsFrom) (A : At K mg "is_want_of" "is_want_of" sIsWantOf ["many", "value"]) : Cal P w K mg base 2 "is_want_of" ["many", "value"] (spIsWantOf K) := by
  refine A.cal scIsWantOf (fun vs H Q E h => ?_) (fun f cdv A outer s H vs Q E hr h => ?_)
  · obtain ⟨n, v, u, rfl, _⟩ := h
    rfl
  · obtain ⟨n, v, u, rfl, ⟨a, rfl, sq⟩, ⟨h1, h2, h3⟩, q⟩ := h
    refine ⟨_, pss_cons (ps_if (PW.pt (pw_or (pt_not (pt_val (pe_callB isi_tup (by rfl) B.isi boot_isi (pa_cons (pv 1) (pa_cons (pe_bltn (v := .ty "tuple") (by rfl) B.tuple boot_ty_tuple rfl) pa_nil)))))
        (pw_or1 (pt_cmpR op_ne (pe_callB call_len_seq (by rfl) B.len PySem.boot_len (pa_cons (pv 1) pa_nil)) pe_int (nomark _))))) pss_never pss_nil)
      (pss_one (ps_ret (pe_and (pe_cl c1 hr (by rfl) (pa_cons (pe_ix ix_tup (pv 1) pe_int (fun _ _ => rfl)) (pa_cons pe_int (pa_cons (pe_op op_sub (pv 0) pe_int) pa_nil))))
        (pe_one (pe_cl c1 hr (by rfl) (pa_cons (pe_ix ix_tup (pv 1) pe_int (fun _ _ => rfl)) (pa_cons pe_int (pa_cons pe_int pa_nil)))))))), ?_⟩
    refine ⟨_, rfl, a, _, rfl, sq, true, rfl, iteF ?_⟩
    refine ⟨_, rfl, a, _, rfl, .inr sq, rfl, false, rfl, iteF ?_⟩
    refine ⟨_, rfl, a, _, _, _, rfl, rfl, sq, rfl, _, rfl, _, _, rfl, rfl, u.1, 0, (n : Int) - 1, rfl, h1, by omega, true, rfl, iteT ?_⟩
    exact ⟨_, rfl, a, _, _, _, rfl, rfl, sq, rfl, u.2, 0, 1, rfl, by omega, by omega, q⟩
/-! ### off -/
abbrev sOff : Stmt := topS 12
def spOff (K : PySem.W.Frag) : Sp := fun vs H Q _ => ∃ (v : V) (u : Wt), vs = [v] ∧ IsW K H v u ∧ ∀ p, H p = none → Q (.ref p) (upd H p (.tup [.int u.1, .int (1 - u.2)]))
theorem scOff : FnScope ["want"] ["want"] (defScope sOff) := ⟨rfl, rfl, rfl, by decide +kernel, rfl, by decide +kernel, by decide +kernel⟩
theorem cOff (A : At K mg "off" "off" sOff ["want"]) : Cal P w K mg base 1 "off" ["want"] (spOff K) := by
  refine A.cal scOff (fun vs H Q E h => ?_) (fun f cdv A outer s H vs Q E hr h => ?_)
  · obtain ⟨v, u, rfl, _⟩ := h
    rfl
  · obtain ⟨v, u, rfl, ⟨a, rfl, sq⟩, q⟩ := h
    refine ⟨_, pss_one (ps_ret (pe_tup (pa_cons (x_ix (pv 0) pe_int) (pa_cons (pe_op op_sub pe_int (x_ix (pv 0) pe_int)) pa_nil)))), ?_⟩
    exact ⟨_, rfl, a, _, _, _, rfl, rfl, sq, rfl, _, rfl, a, _, _, _, rfl, rfl, sq, rfl, _, _, rfl, rfl, by show 2 ≤ sizeLine; decide, fun p hp => q p hp⟩
/-! ### is_rule_of -/
abbrev sIsRuleOf : Stmt := topS 13
def spIsRuleOf (K : PySem.W.Frag) : Sp := fun vs H Q _ => ∃ (n : Nat) (v : V) (r : Rl), vs = [.int n, v] ∧ IsR K H v r ∧ OkR n r ∧ ∀ H', Same H H' → Q (.bl true) H'
theorem scIsRuleOf : FnScope ["many", "value", "want"] ["many", "value"] (defScope sIsRuleOf) := ⟨rfl, rfl, rfl, by decide +kernel, rfl, by decide +kernel, by decide +kernel⟩
theorem cIsRuleOf (B : Bl mg) (c1 : Cal P w K mg base 2 "is_want_of" ["many", "value"] (spIsWantOf K)) (c2 : Cal P w K mg base 1 "off" ["want"] (spOff K)) (A : At K mg "is_rule_of" "is_rule_of" sIsRuleOf ["many", "value"]) : Cal P w K mg base 3 "is_rule_of" ["many", "value"] (spIsRuleOf K) := by
  refine A.cal scIsRuleOf (fun vs H Q E h => ?_) (fun f cdv A outer s H vs Q E hr h => ?_)
  · obtain ⟨n, v, r, rfl, _⟩ := h
    rfl
  · obtain ⟨n, v, r, rfl, ⟨a, x, y, rfl, sq, hx, hy⟩, ⟨h1, h2, h3, h4⟩, q⟩ := h
    refine ⟨_, pss_cons (ps_if (PW.pt (pw_or (pt_not (pt_val (x_isT B (pv 1)))) (pw_or (pt_cmpR op_ne (x_len B (pv 1)) pe_int (nomark _))
        (pw_or1 (pt_not (pt_val (x_all B (pe_lc (own := [("want", 2)]) (g := gName 2) (tt := tYes) (by rfl) scIsRuleOf.nd (pi_tup (pv 1)) (blkOk_by (own := [("want", 2)]) (N := ["many", "value", "want"]) (sc := defScope sIsRuleOf) (by decide +kernel))
          (fun _ _ _ _ _ => pg_name (i := 2) scIsRuleOf.nd rfl (Or.inl rfl)) (fun _ _ _ _ _ => pts_nil) (fun _ _ _ _ _ => pe_cl c1 hr (by rfl) (pa_cons (pv 0) (pa_cons (pv 2) pa_nil)))))))))))
        pss_never pss_nil)
      (pss_one (ps_ret (pe_and (pe_cmpR (op_leW hr.units0) (x_ix (pv 1) pe_int) (x_ix (pv 1) pe_int) (nomark _))
        (pe_one (pe_cmpR (op_neW hr.units) (x_ix (pv 1) pe_int) (pe_cl c2 (hr.mono (by decide)) (by rfl) (pa_cons (x_ix (pv 1) pe_int) pa_nil)) (nomark _)))))), ?_⟩
    refine ⟨_, rfl, a, _, rfl, sq, true, rfl, iteF ?_⟩
    refine ⟨_, rfl, a, _, rfl, .inr sq, rfl, false, rfl, iteF ?_⟩
    refine ⟨_, rfl, a, rfl, ⟨_, sq⟩, fun D hD => ?_⟩
    refine lc_tup (K := K) (a := a) (xs := [x, y]) (PvAll allT H D) (PvAll.zero hD) (fun i H' _ p => (tkS p.1).sq sq) (fun i z H' hz p => ?_) (fun H' p => ?_)
    · refine ⟨rfl, ?_⟩
      have hw : ∃ u, IsW K H' z u ∧ OkW n u := by
        match i, hz with
        | 0, hz => cases hz; exact ⟨r.1, hx.tk (tkS p.1), h1⟩
        | 1, hz => cases hz; exact ⟨r.2, hy.tk (tkS p.1), h2⟩
        | k + 2, hz => simp at hz
      have hi : i < 2 := (List.getElem?_eq_some_iff.mp hz).1
      obtain ⟨u, hu, ou⟩ := hw
      exact ⟨_, rfl, _, rfl, n, z, u, rfl, hu, ou, PvAll.next allT_by hD p (Same.refl _) rfl (szBig (by omega))⟩
    · obtain ⟨s1, ys, e, hl, hy'⟩ := p
      refine ⟨D, _, rfl, SqL.of (by rw [e, allT_rep hy']), ?_⟩
      rw [all_rep]
      refine ⟨true, rfl, iteF ?_⟩
      have t1 := tkS s1
      refine ⟨_, rfl, a, _, _, _, rfl, rfl, t1.sq sq, rfl, _, rfl, a, _, _, _, rfl, rfl, t1.sq sq, rfl, r.1, r.2, hx.tk t1, hy.tk t1, h3, true, rfl, iteT ?_⟩
      refine ⟨_, rfl, a, _, _, _, rfl, rfl, t1.sq sq, rfl, _, rfl, a, _, _, _, rfl, rfl, t1.sq sq, rfl, x, r.1, rfl, hx.tk t1, fun p hp => ?_⟩
      refine ⟨r.2, off r.1, (hy.tk t1).tk (Tk.new hp), IsW.new hp, ?_⟩
      rw [decide_eq_false h4]
      exact q _ (s1.trans (samePut hp))
end
end K74

set_option Elab.async false
set_option linter.all false
set_option maxRecDepth 100000
set_option maxHeartbeats 4000000
namespace K74
open PySem PySem.Spec PyProof.Rows L2
/-! ### methods, classes -/
structure MAt (K : PySem.W.Frag) (C : Addr) (m qual : Str) (st : Stmt) (ps : List Str) : Prop where
  ex : ∃ (f : Addr) (fd : FuncData), Fun K m qual st f fd ∧ Meth K C m f ∧ Binds K fd ps []
structure MCal (P : Program) (w : World) (K : PySem.W.Frag) (mg : Str → Option Value) (base : Heap) (C : Addr) (k : Nat) (m : Str) (ps : List Str) (sp : Sp) : Prop where
  ex : ∃ (f : Addr) (fd : FuncData), FnOk P w K mg base CX0 k f fd ps sp ∧ Meth K C m f ∧ Binds K fd ps []
structure IAt (K : PySem.W.Frag) (C : Addr) (qual : Str) (st : Stmt) (ps : List Str) : Prop where
  ex : ∃ (f : Addr) (fd : FuncData), Fun K "__init__" qual st f fd ∧ Mk K C f ∧ Binds K fd ps []
structure ICal (P : Program) (w : World) (K : PySem.W.Frag) (mg : Str → Option Value) (base : Heap) (C : Addr) (k : Nat) (ps : List Str) (sp : Sp) : Prop where
  ex : ∃ (f : Addr) (fd : FuncData), FnOk P w K mg base CX0 k f fd ps sp ∧ Mk K C f ∧ Binds K fd ps []
section
variable {P : Program} {w : World} {K : PySem.W.Frag} {mg : Str → Option Value} {base : Heap} {k : Nat} {x m qual : Str} {st : Stmt} {N ps : List Str} {sp : Sp} {C : Addr}
theorem MAt.cal (A : MAt K C m qual st ps) (S : FnScope N ps (defScope st)) (len : ∀ vs H Q E, sp vs H Q E → vs.length = ps.length)
    (hbody : ∀ (f : Addr) (cdv : Value) (A : Around) (outer : List Env) (s : Shared) (H : Hp) (vs : List V) (Q : VK) (E : XK), Room k (A.deeper (envOfC qual (defScope st) s.heap.objs.size f cdv)) → sp vs H Q E →
      ∃ t, PSs (cxOf CX0 P w K mg base N qual (defScope st) f cdv A outer s H E).nox (defBody st) t ∧ t { nx := fun _ H' => Q .non H', rt := Q } (start N vs) H) : MCal P w K mg base C (k + 1) m ps sp := by
  obtain ⟨f, fd, F, hm, hb⟩ := A.ex
  exact ⟨f, fd, F.ok S len (hbody f), hm, hb⟩
theorem IAt.cal (A : IAt K C qual st ps) (S : FnScope N ps (defScope st)) (len : ∀ vs H Q E, sp vs H Q E → vs.length = ps.length)
    (hbody : ∀ (f : Addr) (cdv : Value) (A : Around) (outer : List Env) (s : Shared) (H : Hp) (vs : List V) (Q : VK) (E : XK), Room k (A.deeper (envOfC qual (defScope st) s.heap.objs.size f cdv)) → sp vs H Q E →
      ∃ t, PSs (cxOf CX0 P w K mg base N qual (defScope st) f cdv A outer s H E).nox (defBody st) t ∧ t { nx := fun _ H' => Q .non H', rt := Q } (start N vs) H) : ICal P w K mg base C (k + 1) ps sp := by
  obtain ⟨f, fd, F, hm, hb⟩ := A.ex
  exact ⟨f, fd, F.ok S len (hbody f), hm, hb⟩
theorem pe_mt {X : Cx} {o e : Expr} {es : List Expr} {apos pos : Pos} {ta : TE} {t : TA} {pl : Sem Bool} (he : PE X o ta) (c : Cls X.K C) (M : MCal X.prog X.w X.K X.mg X.base C k m ps sp) (hr : Room k X.A) (ha : PA X (e :: es) t)
    (hst : starEach (e :: es) X.env = (false, eval e X.env) :: starEach es X.env := by rfl) (hpl : (backTo pos (starEach es X.env)).any (·.1) = false := by rfl)
    (ht : eval (.Call (.Attribute o m apos) (e :: es) [] pos) X.env = (do
      let ov ← eval o X.env
      standAt apos.atName
      let (f, first) ← holding [ov] (getMethod ov m pl)
      callWith pos f first (backTo pos (starEach (e :: es) X.env)) (backToKw pos (keywordEach [] X.env))) := by rfl) :
    PE X (.Call (.Attribute o m apos) (e :: es) [] pos) (tMeth C m sp [] E0 ta t) := by
  obtain ⟨f, fd, F, hm, hb⟩ := M.ex
  exact pe_meth he c hm F hr hb .nil pass0 ha hst hpl ht
theorem pe_mt0 {X : Cx} {o : Expr} {apos pos : Pos} {ta : TE} {pl : Sem Bool} (he : PE X o ta) (c : Cls X.K C) (M : MCal X.prog X.w X.K X.mg X.base C k m ps sp) (hr : Room k X.A)
    (ht : eval (.Call (.Attribute o m apos) [] [] pos) X.env = (do
      let ov ← eval o X.env
      standAt apos.atName
      let (f, first) ← holding [ov] (getMethod ov m pl)
      callWith pos f first (backTo pos (starEach [] X.env)) (backToKw pos (keywordEach [] X.env))) := by rfl) :
    PE X (.Call (.Attribute o m apos) [] [] pos) (tMeth C m sp [] E0 ta tNil) := by
  obtain ⟨f, fd, F, hm, hb⟩ := M.ex
  exact pe_meth0 he c hm F hr hb .nil pass0 ht
theorem pe_mk {X : Cx} {e : Expr} {es : List Expr} {p pos : Pos} {t : TA} (M : ICal X.prog X.w X.K X.mg X.base C k ps sp) (hr : Room (k + 1) X.A) (hg : Gl X x) (hm : X.mg x = some (.ref C)) (ha : PA X (e :: es) t) (hdb : (x == ("__debug__" : Str)) = false := by decide)
    (he : starEach (e :: es) X.env = (false, eval e X.env) :: starEach es X.env := by rfl) (hpl : (backTo pos (starEach es X.env)).any (·.1) = false := by rfl) : PE X (.Call (.Name x p) (e :: es) [] pos) (tMake C sp [] E0 t) := by
  obtain ⟨f, fd, F, mk, hb⟩ := M.ex
  exact pe_make mk F hr hg hm hb .nil pass0 ha hdb he hpl
end
/-! ### the class Rules -/
structure ClR (K : PySem.W.Frag) (mg : Str → Option Value) (C : Addr) : Prop where
  cl : Cls K C
  nW : NoAttr K C "wide"
  nT : NoAttr K C "told"
  mgC : mg "Rules" = some (.ref C)
  inC : C8.InsC K C
theorem wt_ : ¬ (("wide" : Str) = "told") := by decide +kernel
def rf (n : Nat) (t : V) : List (Str × V) := putF "told" t (putF "wide" (.int n) [])
theorem rf_wide (n : Nat) (t : V) : (rf n t).lookup ("wide" : Str) = some (.int n) := by
  unfold rf
  rw [lookup_putF, if_neg wt_, lookup_putF, if_pos rfl]
theorem rf_told (n : Nat) (t : V) : (rf n t).lookup ("told" : Str) = some t := by
  unfold rf
  rw [lookup_putF, if_pos rfl]
/-- rules at v: n places, told -/
def IsRs (K : PySem.W.Frag) (C : Addr) (H : Hp) (v : V) (n : Nat) (told : List Rl) : Prop := ∃ a dx t, v = .ref a ∧ H a = some (.ins C dx (rf n t)) ∧ IsTl K H t told
theorem IsRs.same {K : PySem.W.Frag} {C : Addr} {H H' : Hp} {v : V} {n : Nat} {told : List Rl} (h : IsRs K C H v n told) (s : Same H H') : IsRs K C H' v n told := by
  obtain ⟨a, dx, t, e, ha, ht⟩ := h
  exact ⟨a, dx, t, e, s _ _ ha, ht.tk (tkS s)⟩
/-- what rules are: as the document says -/
structure Ruled (n : Nat) (told : List Rl) : Prop where
  n1 : 1 ≤ n
  n8 : n ≤ 8
  ok : ∀ r ∈ told, OkR n r
  asc : told.Pairwise fun a b => brlt a b = true
theorem brlt_irr (r : Rl) : brlt r r = false := by
  unfold brlt bwlt
  rw [if_pos rfl, if_pos rfl, decide_eq_false (Int.lt_irrefl _)]
theorem Ruled.told {n : Nat} {told : List Rl} (R : Ruled n told) : Told n told := ⟨R.ok, R.asc.imp fun {a b} h e => by
  subst e
  rw [brlt_irr] at h
  cases h⟩
section
variable {P : Program} {w : World} {K : PySem.W.Frag} {mg : Str → Option Value} {base : Heap} {C : Addr}
abbrev sRInit : Stmt := inClass (topS 14) 0
def spRInit (K : PySem.W.Frag) (C : Addr) : Sp := fun vs H Q _ => ∃ (p dx : Addr) (n : Nat) (t : V) (told : List Rl), vs = [.ref p, .int n, t] ∧ H p = some (.ins C dx []) ∧ IsTl K H t told ∧ Ruled n told ∧
  ∀ H', Kp (· = p) H H' → H' p = some (.ins C dx (rf n t)) → Q .non H'
theorem scRInit : FnScope ["self", "many", "rules", "index", "rule"] ["self", "many", "rules"] (defScope sRInit) := ⟨rfl, rfl, rfl, by decide +kernel, rfl, by decide +kernel, by decide +kernel⟩
theorem cRInit (B : Bl mg) (L : ClR K mg C) (c1 : Cal P w K mg base 1 "is_from" ["value", "low", "high"] spIsFrom) (c3 : Cal P w K mg base 3 "is_rule_of" ["many", "value"] (spIsRuleOf K)) (A : IAt K C "Rules.__init__" sRInit ["self", "many", "rules"]) :
    ICal P w K mg base C 4 ["self", "many", "rules"] (spRInit K C) := by
  refine A.cal scRInit (fun vs H Q E h => ?_) (fun f cdv A outer s H vs Q E hr h => ?_)
  · obtain ⟨p, dx, n, t, told, rfl, _⟩ := h
    rfl
  · obtain ⟨p, dx, n, t, told, rfl, hp, ⟨a, xs, rfl, sq, pr⟩, R, q⟩ := h
    obtain ⟨t8, m8⟩ := B.c8
    have hlen : xs.length = told.length := Paired.len pr
    refine ⟨_, pss_cons (ps_if (pt_not (pt_val (pe_cl c1 (hr.mono (by decide)) (by rfl) (pa_cons (pv 1) (pa_cons pe_int (pa_cons (pe_glob (v := .int 8) (by rfl) m8 ⟨t8, rfl⟩) pa_nil)))))) pss_never pss_nil)
      (pss_cons (ps_if (pt_not (pt_val (x_isT B (pv 2)))) pss_never pss_nil)
      (pss_cons (ps_for PassesOwn.never rfl (pi_enumT (by rfl) B.enum (pa_cons (pv 2) pa_nil)) (pg_tup rfl (pgs_cons (pg_name (i := 3) scRInit.nd rfl (Or.inl rfl)) (pgs_cons (pg_name (i := 4) scRInit.nd rfl (Or.inl rfl)) pgs_nil)))
        (pss_one (ps_if (PW.pt (pw_or (pt_not (pt_val (pe_cl c3 hr (by rfl) (pa_cons (pv 1) (pa_cons (pv 4) pa_nil)))))
          (pw_or1 (PW.pt (pw_and (pt_cmpR op_gt (pv 3) pe_int (nomark _)) (pw_and1 (pt_cmpR (op_geR (hu3 hr)) (x_ix (pv 2) (pe_op op_sub (pv 3) pe_int)) (pv 4) (nomark _)))))))) pss_never pss_nil)))
      (pss_cons (ps_fld (pv 0) (pv 1) rfl) (pss_one (ps_fld (pv 0) (pv 2) rfl))))), ?_⟩
    refine ⟨_, rfl, n, 1, 8, rfl, by have := R.n1; omega, by have := R.n8; omega, true, rfl, iteF ?_⟩
    refine ⟨_, rfl, a, _, rfl, sq, true, rfl, iteF ?_⟩
    refine ⟨_, rfl, a, _, rfl, sq, for_enumT (K := K) (a := a) (xs := xs) (fun i σ H' => Same H H' ∧ ∃ u v, σ = [some (.ref p), some (.int n), some (.ref a), u, v]) ⟨Same.refl H, none, none, rfl⟩ (fun i σ H' p => (tkS p.1).sq sq) ?_ ?_⟩
    · rintro i x T σ H' hx ⟨s1, u, v, rfl⟩ hT
      obtain ⟨r, hr', ir0⟩ := Paired.at1 pr hx
      have ir := ir0.1
      have s2 : Same H (upd H' T (.tup [.int (i : Nat), x])) := s1.trans (samePut hT)
      refine ⟨T, _, rfl, SqT.of upd_same, rfl, _, _, rfl, _, _, rfl, rfl, ?_⟩
      have ir2 : IsR K (upd H' T (.tup [.int (i : Nat), x])) x r := ir.tk (tkS s2)
      refine ⟨_, rfl, _, rfl, n, x, r, rfl, ir2, R.ok r (List.mem_of_getElem? hr'), fun H2 s3 => ⟨true, rfl, iteF ?_⟩⟩
      have s4 := s2.trans s3
      refine ⟨_, rfl, _, _, rfl, rfl, _, rfl, ?_⟩
      refine ite2 (fun hi => ?_) (fun hi => ?_)
      · have hi' : (0 : Int) < (i : Int) := of_decide_eq_true hi
        obtain ⟨y, hy⟩ : ∃ y, xs[i - 1]? = some y := ⟨xs[i - 1]'(by have := (List.getElem?_eq_some_iff.mp hx).1; omega), List.getElem?_eq_getElem _⟩
        obtain ⟨z, hz, iz0⟩ := Paired.at1 pr hy
        have iz := iz0.1
        have ei : ((i : Nat) : Int) - 1 = ((i - 1 : Nat) : Int) := by omega
        have lt : brlt z r = true := by
          have h1 := (List.getElem?_eq_some_iff.mp hz)
          have h2 := (List.getElem?_eq_some_iff.mp hr')
          obtain ⟨l1, e1⟩ := h1
          obtain ⟨l2, e2⟩ := h2
          rw [← e1, ← e2]
          exact List.pairwise_iff_getElem.mp R.asc (i - 1) i l1 l2 (by omega)
        refine ⟨_, rfl, _, rfl, _, _, rfl, rfl, a, xs, _, y, rfl, rfl, (tkS s4).sq sq, by rw [ei]; exact atI_nat hy, _, rfl, z, r, iz.tk (tkS s4), ir.tk (tkS s4), _, rfl, ?_⟩
        rw [lt]
        exact ⟨s4, _, _, rfl⟩
      · exact ⟨s4, _, _, rfl⟩
    · rintro σ H' ⟨s1, u, v, rfl⟩
      refine ⟨_, rfl, _, rfl, p, C, dx, [], rfl, s1 _ _ hp, L.cl, L.nW, (by show 0 < 1000; decide), _, rfl, _, rfl, p, C, dx, _, rfl, upd_same, L.cl, L.nT, (by show 1 < 1000; decide), ?_⟩
      rw [upd_upd]
      exact q _ (fun b o hb e => by rw [upd_ne hb]; exact s1 _ _ e) upd_same
/-! ### need_rules -/
abbrev sNeedR : Stmt := topS 15
def spNeedR (K : PySem.W.Frag) (C : Addr) : Sp := fun vs H Q _ => ∃ (v : V) (n : Nat) (told : List Rl), vs = [v] ∧ IsRs K C H v n told ∧ Q .non H
theorem scNeedR : FnScope ["rules"] ["rules"] (defScope sNeedR) := ⟨rfl, rfl, rfl, by decide +kernel, rfl, by decide +kernel, by decide +kernel⟩
theorem cNeedR (B : Bl mg) (L : ClR K mg C) (A : At K mg "need_rules" "need_rules" sNeedR ["rules"]) : Cal P w K mg base 1 "need_rules" ["rules"] (spNeedR K C) := by
  refine A.cal scNeedR (fun vs H Q E h => ?_) (fun f cdv A outer s H vs Q E hr h => ?_)
  · obtain ⟨v, n, told, rfl, _⟩ := h
    rfl
  · obtain ⟨v, n, told, rfl, ⟨a, dx, t, rfl, ha, _⟩, q⟩ := h
    refine ⟨_, pss_one (ps_if (pt_not (pt_val (pe_callB (C8.call_isC L.inC) (by rfl) B.isi boot_isi (pa_cons (pv 0) (pa_cons (pe_glob (v := .ref C) (by rfl) L.mgC rfl) pa_nil))))) pss_never pss_nil), ?_⟩
    exact ⟨_, rfl, a, dx, _, rfl, ha, true, rfl, iteF q⟩
end
end K74

set_option Elab.async false
set_option linter.all false
set_option maxRecDepth 100000
set_option maxHeartbeats 4000000
namespace K74
open PySem PySem.Spec PyProof.Rows L2
/-! ### rows, plainly -/
def hasR (ns : List Int) (u : Wt) : Bool := decide (ns.getD u.1.toNat 0 = u.2)
def keptR (ns : List Int) (r : Rl) : Bool := hasR ns r.1 || hasR ns r.2
def Row (n : Nat) (r : List Int) : Prop := r.length = n ∧ ∀ x ∈ r, x = 0 ∨ x = 1
def next2 (rs : List (List Int)) : List (List Int) := rs.flatMap fun r => [r ++ [0], r ++ [1]]
def allRows : Nat → List (List Int)
  | 0 => [[]]
  | n + 1 => next2 (allRows n)
theorem next2_get : ∀ (rs : List (List Int)) (k : Nat), (next2 rs)[k]? = (rs[k / 2]?).map fun r => r ++ [((k % 2 : Nat) : Int)]
  | [], k => rfl
  | r :: rs, 0 => rfl
  | r :: rs, 1 => rfl
  | r :: rs, k + 2 => by
    have ih := next2_get rs k
    have e1 : (k + 2) / 2 = k / 2 + 1 := by omega
    have e2 : (k + 2) % 2 = k % 2 := by omega
    rw [e1, e2]
    show (next2 rs)[k]? = _
    rw [ih]
    rfl
theorem next2_len (rs : List (List Int)) : (next2 rs).length = 2 * rs.length := by
  induction rs with
  | nil => rfl
  | cons r rs ih =>
    show (next2 rs).length + 1 + 1 = 2 * (rs.length + 1)
    rw [ih]; omega
theorem allRows_len (n : Nat) : (allRows n).length = 2 ^ n := by
  induction n with
  | zero => rfl
  | succ n ih => show (next2 (allRows n)).length = _; rw [next2_len, ih, Nat.pow_succ]; omega
theorem mem_allRows : ∀ {n : Nat} {r : List Int}, r ∈ allRows n ↔ Row n r
  | 0, r => by
    constructor
    · intro h
      rw [List.mem_singleton.mp h]
      exact ⟨rfl, fun x hx => by cases hx⟩
    · intro h
      exact List.mem_singleton.mpr (List.eq_nil_of_length_eq_zero h.1)
  | n + 1, r => by
    constructor
    · intro h
      obtain ⟨q, hq, hr⟩ := List.mem_flatMap.mp h
      obtain ⟨l, k⟩ := mem_allRows.mp hq
      rcases List.mem_cons.mp hr with e | e
      · subst e
        exact ⟨by rw [List.length_append, l]; rfl, fun x hx => by
          rcases List.mem_append.mp hx with m | m
          · exact k x m
          · exact .inl (List.mem_singleton.mp m)⟩
      · rw [List.mem_singleton.mp e]
        exact ⟨by rw [List.length_append, l]; rfl, fun x hx => by
          rcases List.mem_append.mp hx with m | m
          · exact k x m
          · exact .inr (List.mem_singleton.mp m)⟩
    · rintro ⟨l, k⟩
      have hne : r ≠ [] := fun e => by rw [e] at l; cases l
      have e := List.dropLast_concat_getLast hne
      refine List.mem_flatMap.mpr ⟨r.dropLast, mem_allRows.mpr ⟨by rw [List.length_dropLast, l]; rfl, fun x hx => k x ((List.dropLast_sublist r).subset hx)⟩, ?_⟩
      have hl := k _ (List.getLast_mem hne)
      rw [← e]
      rcases hl with z | z
      · rw [z, List.dropLast_concat]
        exact List.mem_cons_self
      · rw [z, List.dropLast_concat]
        exact List.mem_cons_of_mem _ List.mem_cons_self
theorem Paired.ofIx {α β : Type} {F : α → β → Prop} : ∀ {xs : List α} {ys : List β}, xs.length = ys.length → (∀ (k : Nat) x, xs[k]? = some x → ∃ y, ys[k]? = some y ∧ F x y) → Paired F xs ys
  | [], [], _, _ => .nil
  | [], _ :: _, h, _ => by cases h
  | _ :: _, [], h, _ => by cases h
  | x :: xs, y :: ys, h, k => by
    obtain ⟨y', e, f⟩ := k 0 x rfl
    cases e
    exact .cons f (Paired.ofIx (Nat.succ.inj h) fun j z hz => k (j + 1) z hz)
/-- the second for of a comprehension: an invariant by its turn -/
theorem in_it {J : It} {n : Nat} {G : Hp → Prop} {Y : Nat → Hp → V → Hp → Prop} (wk : Walk J n G Y) {H4 : Hp} {Nx : Hp → Prop} {step : (Hp → Prop) → V → Hp → Prop} (Pv : Nat → Hp → Prop) (h0 : Pv 0 H4) (hG : ∀ i H, i ≤ n → Pv i H → G H)
    (hs : ∀ i x H H', i < n → Pv i H → Y i H x H' → step (Pv (i + 1)) x H') (hd : ∀ H, Pv n H → Nx H) :
    ∃ W1 : Nat → Nat → Hp → Prop, (∃ m, W1 0 m H4) ∧ ∀ j k H, W1 j k H → (J.stop j H ∧ Nx H) ∨ (J.go j H ∧ ∃ Nx1 : Hp → Prop, (∀ H', Nx1 H' → ∃ k', k' < k ∧ W1 (j + 1) k' H') ∧ ∀ x H', J.yld j H x H' → step Nx1 x H') := by
  refine ⟨fun j k H => k = n - j ∧ j ≤ n ∧ Pv j H, ⟨_, rfl, Nat.zero_le _, h0⟩, ?_⟩
  rintro j k H ⟨rfl, hj, p⟩
  have gg := hG j H hj p
  rcases Nat.lt_or_ge j n with lt | ge
  · exact .inr ⟨wk.goes j H lt gg, Pv (j + 1), fun H' p' => ⟨n - (j + 1), by omega, rfl, lt, p'⟩, fun x H' y => hs j x H H' lt p (wk.yields j H x H' lt gg y)⟩
  · have e : j = n := by omega
    subst e
    exact .inl ⟨wk.stops H gg, hd H p⟩
section
variable {P : Program} {w : World} {K : PySem.W.Frag} {mg : Str → Option Value} {base : Heap} {C : Addr}
theorem dec_int (a b : Int) : decide (V.int a = V.int b) = decide (a = b) := by
  by_cases h : a = b
  · rw [h]; simp
  · rw [decide_eq_false h, decide_eq_false fun e => h (V.int.inj e)]
theorem atI_getD {ns : List Int} {i : Int} (h0 : 0 ≤ i) (h1 : i < (ns.length : Int)) : atI (ns.map V.int) i = some (.int (ns.getD i.toNat 0)) := by
  have e : ((i.toNat : Nat) : Int) = i := Int.toNat_of_nonneg h0
  have hl : i.toNat < ns.length := by omega
  have q : (ns.map V.int)[i.toNat]? = some (.int (ns.getD i.toNat 0)) := by
    rw [List.getElem?_map, List.getD_eq_getElem?_getD, List.getElem?_eq_getElem hl]; rfl
  have z := atI_nat q
  rw [e] at z
  exact z
/-! ### has, is_kept, are_kept -/
abbrev sHas : Stmt := topS 16
def spHas (K : PySem.W.Frag) : Sp := fun vs H Q _ => ∃ (v z : V) (ns : List Int) (u : Wt), vs = [v, z] ∧ IsTi K H v ns ∧ IsW K H z u ∧ 0 ≤ u.1 ∧ u.1 < (ns.length : Int) ∧ Q (.bl (hasR ns u)) H
theorem scHas : FnScope ["row", "want"] ["row", "want"] (defScope sHas) := ⟨rfl, rfl, rfl, by decide +kernel, rfl, by decide +kernel, by decide +kernel⟩
theorem cHas (A : At K mg "has" "has" sHas ["row", "want"]) : Cal P w K mg base 1 "has" ["row", "want"] (spHas K) := by
  refine A.cal scHas (fun vs H Q E h => ?_) (fun f cdv A outer s H vs Q E hr h => ?_)
  · obtain ⟨v, z, ns, u, rfl, _⟩ := h
    rfl
  · obtain ⟨v, z, ns, u, rfl, ⟨a, rfl, sa⟩, ⟨b, rfl, sb⟩, h0, h1, q⟩ := h
    refine ⟨_, pss_one (ps_ret (pe_cmpR op_eq (x_ix (pv 0) (x_ix (pv 1) pe_int)) (x_ix (pv 1) pe_int) (nomark _))), ?_⟩
    refine ⟨_, rfl, _, rfl, b, _, _, _, rfl, rfl, sb, rfl, a, _, _, _, rfl, rfl, sa, atI_getD h0 h1, _, rfl, b, _, _, _, rfl, rfl, sb, rfl, rfl, ?_⟩
    rw [dec_int]
    exact q
abbrev sIsKept : Stmt := topS 17
def spIsKept (K : PySem.W.Frag) : Sp := fun vs H Q _ => ∃ (v z : V) (ns : List Int) (r : Rl), vs = [z, v] ∧ IsTi K H v ns ∧ IsR K H z r ∧ OkW ns.length r.1 ∧ OkW ns.length r.2 ∧ Q (.bl (keptR ns r)) H
theorem scIsKept : FnScope ["rule", "row"] ["rule", "row"] (defScope sIsKept) := ⟨rfl, rfl, rfl, by decide +kernel, rfl, by decide +kernel, by decide +kernel⟩
theorem cIsKept (c : Cal P w K mg base 1 "has" ["row", "want"] (spHas K)) (A : At K mg "is_kept" "is_kept" sIsKept ["rule", "row"]) : Cal P w K mg base 2 "is_kept" ["rule", "row"] (spIsKept K) := by
  refine A.cal scIsKept (fun vs H Q E h => ?_) (fun f cdv A outer s H vs Q E hr h => ?_)
  · obtain ⟨v, z, ns, r, rfl, _⟩ := h
    rfl
  · obtain ⟨v, z, ns, r, rfl, hv, ⟨a, x, y, rfl, sa, hx, hy⟩, o1, o2, q⟩ := h
    refine ⟨_, pss_one (ps_ret (pe_or (pe_cl c hr (by rfl) (pa_cons (pv 1) (pa_cons (x_ix (pv 0) pe_int) pa_nil))) (pe_one (pe_cl c hr (by rfl) (pa_cons (pv 1) (pa_cons (x_ix (pv 0) pe_int) pa_nil)))))), ?_⟩
    refine ⟨_, rfl, _, rfl, a, _, _, _, rfl, rfl, sa, rfl, v, x, ns, r.1, rfl, hv, hx, o1.1, o1.2.1, _, rfl, ?_⟩
    unfold keptR at q
    refine ite2 (fun h => ?_) (fun h => ?_)
    · rw [h, Bool.true_or] at q
      exact q
    · refine ⟨_, rfl, _, rfl, a, _, _, _, rfl, rfl, sa, rfl, v, y, ns, r.2, rfl, hv, hy, o2.1, o2.2.1, ?_⟩
      rw [Bool.eq_false_iff.mpr h, Bool.false_or] at q
      exact q
abbrev sAreKept : Stmt := topS 18
def spAreKept (K : PySem.W.Frag) : Sp := fun vs H Q _ => ∃ (v t : V) (ns : List Int) (told : List Rl), vs = [t, v] ∧ IsTi K H v ns ∧ IsTl K H t told ∧ told.length ≤ 1000 ∧ (∀ r ∈ told, OkW ns.length r.1 ∧ OkW ns.length r.2) ∧ ∀ H', Same H H' → Q (.bl (told.all (keptR ns))) H'
theorem scAreKept : FnScope ["told", "row", "rule"] ["told", "row"] (defScope sAreKept) := ⟨rfl, rfl, rfl, by decide +kernel, rfl, by decide +kernel, by decide +kernel⟩
theorem cAreKept (B : Bl mg) (c : Cal P w K mg base 2 "is_kept" ["rule", "row"] (spIsKept K)) (A : At K mg "are_kept" "are_kept" sAreKept ["told", "row"]) : Cal P w K mg base 3 "are_kept" ["told", "row"] (spAreKept K) := by
  refine A.cal scAreKept (fun vs H Q E h => ?_) (fun f cdv A outer s H vs Q E hr h => ?_)
  · obtain ⟨v, t, ns, told, rfl, _⟩ := h
    rfl
  · obtain ⟨v, t, ns, told, rfl, hv, ⟨a, xs, rfl, sa, pr⟩, hz, ok, q⟩ := h
    have hlen : xs.length = told.length := Paired.len pr
    refine ⟨_, pss_one (ps_ret (x_all B (pe_lc (own := [("rule", 2)]) (g := gName 2) (tt := tYes) (by rfl) scAreKept.nd (pi_tup (pv 0)) (blkOk_by (own := [("rule", 2)]) (N := ["told", "row", "rule"]) (sc := defScope sAreKept) (by decide +kernel))
          (fun _ _ _ _ _ => pg_name (i := 2) scAreKept.nd rfl (Or.inl rfl)) (fun _ _ _ _ _ => pts_nil) (fun _ _ _ _ _ => pe_cl c hr (by rfl) (pa_cons (pv 2) (pa_cons (pv 1) pa_nil)))))), ?_⟩
    refine ⟨_, rfl, a, rfl, ⟨_, sa⟩, fun D hD => ?_⟩
    have kf : ByT (fun i y _ => ∃ r, told[i]? = some r ∧ y = V.bl (keptR ns r)) := fun _ _ _ _ _ h => h
    refine lc_tup (K := K) (a := a) (xs := xs) (PvAll (fun i y _ => ∃ r, told[i]? = some r ∧ y = V.bl (keptR ns r)) H D) (PvAll.zero hD) (fun i H' _ p => (tkS p.1).sq sa) (fun i z H' hz' p => ?_) (fun H' p => ?_)
    · obtain ⟨r, hr', ir0⟩ := Paired.at1 pr hz'
      have ir := ir0.1
      have om := ok r (List.mem_of_getElem? hr')
      refine ⟨rfl, ?_⟩
      exact ⟨_, rfl, _, rfl, v, z, ns, r, rfl, hv.tk (tkS p.1), ir.tk (tkS p.1), om.1, om.2, PvAll.next kf hD p (Same.refl _) ⟨r, hr', rfl⟩ (szBig (by have := (List.getElem?_eq_some_iff.mp hz').1; omega))⟩
    · obtain ⟨s1, ys, e, hl, hy⟩ := p
      have ey : ys = (told.map (keptR ns)).map V.bl := by
        refine List.ext_getElem? fun k => ?_
        rw [List.map_map, List.getElem?_map]
        cases hk : ys[k]? with
        | none =>
          have : told[k]? = none := List.getElem?_eq_none_iff.mpr (by rw [← hlen, ← hl]; exact List.getElem?_eq_none_iff.mp hk)
          rw [this]; rfl
        | some y =>
          obtain ⟨r, hr', e'⟩ := hy k y hk
          rw [hr', e']; rfl
      refine ⟨D, _, rfl, SqL.of (by rw [e, ey]), ?_⟩
      have ea : (told.map (keptR ns)).all id = told.all (keptR ns) := by rw [List.all_map]; rfl
      rw [ea]
      exact q _ s1
/-! ### all_rows -/
abbrev sAllRows : Stmt := topS 19
def spAllRows (K : PySem.W.Frag) : Sp := fun vs H Q _ => ∃ n : Nat, vs = [.int n] ∧ n ≤ 8 ∧ ∀ H' D ys, Same H H' → H' D = some (.lst ys) → Paired (IsTi K H') ys (allRows n) → Q (.ref D) H'
theorem scAllRows : FnScope ["many", "found", "place", "row", "value"] ["many"] (defScope sAllRows) := ⟨rfl, rfl, rfl, by decide +kernel, rfl, by decide +kernel, by decide +kernel⟩
theorem cAllRows (B : Bl mg) (A : At K mg "all_rows" "all_rows" sAllRows ["many"]) : Cal P w K mg base 1 "all_rows" ["many"] (spAllRows K) := by
  refine A.cal scAllRows (fun vs H Q E h => ?_) (fun f cdv A outer s H vs Q E hr h => ?_)
  · obtain ⟨n, rfl, _⟩ := h
    rfl
  · obtain ⟨n, rfl, hn, q⟩ := h
    refine ⟨_, pss_cons (ps_set (i := 1) scAllRows.nd rfl (Or.inl rfl) (pe_lst (pa_cons (pe_tup pa_nil) pa_nil)))
      (pss_cons (ps_for PassesOwn.never rfl (pi_range1 (by rfl) B.range (pa_cons (pv 0) pa_nil)) (pg_name (i := 2) scAllRows.nd rfl (Or.inl rfl))
        (pss_one (ps_setLc2 (i := 1) (own := [("row", 3), ("value", 4)]) (vs1 := [4]) (g := gName 3) (tt := tYes) (g1 := gName 4) (tt1 := tYes) (te := tTup (StX.tStar K (tVar 3) (tCons (tVar 4) tNil))) (wi1 := iTup K (tTup (tCons (tC (.int 0)) (tCons (tC (.int 1)) tNil)))) rfl scAllRows.nd rfl rfl (sw_true rfl rfl rfl (by decide +kernel)) (pi_list (pv 1))
          (blkOk_by (own := [("row", 3), ("value", 4)]) (N := ["many", "found", "place", "row", "value"]) (sc := defScope sAllRows) (by decide +kernel)) (by decide)
          (fun _ _ _ _ _ => pg_name (i := 3) scAllRows.nd rfl (Or.inl rfl)) (fun _ _ _ _ _ => pts_nil) (fun _ _ _ _ _ => pi_tup (pe_tup (pa_cons pe_int (pa_cons pe_int pa_nil))))
          (fun _ _ _ _ _ => pg_name (i := 4) scAllRows.nd rfl (Or.inl rfl)) (fun _ _ _ _ _ => pts_nil) (fun _ _ _ _ _ => pe_tup (StX.pa_star (pv 3) (pa_cons (pv 4) pa_nil))))))
      (pss_one (ps_ret (pv 1)))), ?_⟩
    refine ⟨Nat.zero_le _, fun t ht => ⟨by show 1 ≤ sizeLine; decide, fun l hl => ?_⟩⟩
    have s0 : Same H (upd (upd H t (.tup [])) l (.lst [.ref t])) := (samePut ht).trans (samePut hl)
    refine ⟨_, rfl, n, rfl, by omega, by omega, for_range (lo := 0) (n := n) (fun i σ H' => Same H H' ∧ ∃ D ys pl v1 v2, σ = [some (.int n), some (.ref D), pl, v1, v2] ∧ H' D = some (.lst ys) ∧ Paired (IsTi K H') ys (allRows i))
      ⟨s0, l, _, none, none, none, rfl, upd_same, .cons ⟨t, rfl, SqT.of (by rw [upd_ne (ne_of_none upd_same hl)]; exact upd_same)⟩ .nil⟩ ?_ ?_⟩
    · rintro i σ H1 hi ⟨s1, D0, xs, pl, v1, v2, rfl, hD0, pr⟩
      have hxl : xs.length = 2 ^ i := by rw [Paired.len pr, allRows_len]
      have hi8 : 2 ^ i ≤ 256 := Nat.le_trans (Nat.pow_le_pow_right (by decide) (show i ≤ 8 by omega)) (by decide)
      refine ⟨_, rfl, D0, rfl, ⟨xs, SqL.of hD0⟩, fun D hD => ?_⟩
      let F : Nat → V → Hp → Prop := fun k y H' => ∃ r, (allRows i)[k / 2]? = some r ∧ IsTi K H' y (r ++ [((k % 2 : Nat) : Int)])
      have kf : ByT F := fun k y Ha Hb t ⟨r, e, h⟩ => ⟨r, e, h.tk t⟩
      have wk := walk_list (K := K) (a := D0) (xs := xs)
      refine ⟨fun j m H' => m = xs.length - j ∧ j ≤ xs.length ∧ PvAll F H1 D (2 * j) H', ⟨_, rfl, Nat.zero_le _, PvAll.zero hD⟩, ?_⟩
      rintro j m H2 ⟨rfl, hj, p2⟩
      have sq2 : SqL K H2 D0 xs := SqL.of (p2.1 _ _ hD0)
      rcases Nat.lt_or_ge j xs.length with lt | ge
      · refine .inr ⟨wk.goes j H2 lt sq2, fun H' => PvAll F H1 D (2 * (j + 1)) H', fun H' p' => ⟨xs.length - (j + 1), by omega, rfl, lt, p'⟩, fun x H3 y3 => ?_⟩
        obtain ⟨rfl, hx⟩ := wk.yields j H2 x H3 lt sq2 y3
        obtain ⟨r, hr', ir⟩ := Paired.at1 pr hx
        refine ⟨rfl, ?_⟩
        refine ⟨by show 2 ≤ sizeLine; decide, fun T hT => ⟨T, rfl, ⟨_, SqT.of upd_same⟩, ?_⟩⟩
        have p3 : PvAll F H1 D (2 * j) (upd H3 T (.tup [.int 0, .int 1])) := by
          obtain ⟨a1, ys, a2, a3, a4⟩ := p2
          exact ⟨a1.trans (samePut hT), ys, samePut hT _ _ a2, a3, fun k y hk => kf _ _ _ _ (Tk.new hT) (a4 k y hk)⟩
        refine in_it (walk_tup (K := K) (a := T) (xs := [.int 0, .int 1])) (fun k H' => PvAll F H1 D (2 * j + k) H' ∧ SqT K H' T [.int 0, .int 1] ∧ IsTi K H' x r) ⟨p3, SqT.of upd_same, (ir.tk (tkS p2.1)).tk (Tk.new hT)⟩ (fun k H' _ p => p.2.1) ?_ (fun H' p => p.1)
        rintro k z H4 H5 hk ⟨p5, sT, ix⟩ ⟨rfl, hz⟩
        obtain ⟨ax, rfl, sx⟩ := id ix
        have ez : z = .int (k : Nat) := by
          match k, hz with
          | 0, hz => exact (Option.some.inj hz).symm
          | 1, hz => exact (Option.some.inj hz).symm
          | m + 2, hz => simp at hz
        subst ez
        have hrl : r.length = i := (mem_allRows.mp (List.mem_of_getElem? hr')).1
        refine ⟨rfl, ⟨_, rfl, ax, _, rfl, .inl sx, _, rfl, ?_, fun q5 hq5 => ?_⟩⟩
        · show (r.map V.int ++ [V.int (k : Nat)]).length ≤ sizeLine
          rw [List.length_append, List.length_map, hrl]
          exact Nat.le_of_lt (szBig (by simp; omega))
        · have t6 : Tk H5 (upd H5 q5 (.tup (r.map V.int ++ [V.int (k : Nat)]))) := Tk.new hq5
          have e1 : (2 * j + k) / 2 = j := by have : k < 2 := hk; omega
          have e2 : (2 * j + k) % 2 = k := by have : k < 2 := hk; omega
          obtain ⟨acc, b1, b2, b3⟩ := PvAll.next kf hD p5 (samePut hq5) (show F (2 * j + k) (.ref q5) (upd H5 q5 (.tup (r.map V.int ++ [V.int (k : Nat)]))) from ⟨r, by rw [e1]; exact hr', q5, rfl, SqT.of (by rw [upd_same, e2, List.map_append]; rfl)⟩) (szBig (by omega))
          have t7 : Tk (upd H5 q5 (.tup (r.map V.int ++ [V.int (k : Nat)]))) (upd (upd H5 q5 (.tup (r.map V.int ++ [V.int (k : Nat)]))) D (.lst (acc ++ [.ref q5]))) := Tk.write b1 True.intro
          exact ⟨acc, b1, b2, b3, t7.sq (t6.sq sT), (ix.tk t6).tk t7⟩
      · have e : j = xs.length := by omega
        subst e
        refine .inl ⟨wk.stops H2 sq2, ?_⟩
        obtain ⟨a1, ys, a2, a3, a4⟩ := p2
        refine ⟨s1.trans a1, D, ys, _, _, _, rfl, a2, Paired.ofIx ?_ fun k y hk => ?_⟩
        · show ys.length = (next2 (allRows i)).length
          rw [a3, next2_len, allRows_len, hxl]
        · obtain ⟨r, hr', ir⟩ := a4 k y hk
          refine ⟨_, ?_, ir⟩
          show (next2 (allRows i))[k]? = _
          rw [next2_get, hr']; rfl
    · rintro σ H1 ⟨s1, D0, xs, pl, v1, v2, rfl, hD0, pr⟩
      exact ⟨_, rfl, q _ _ _ s1 hD0 pr⟩
end
end K74

set_option Elab.async false
set_option linter.all false
set_option maxRecDepth 100000
set_option maxHeartbeats 4000000
namespace K74
open PySem PySem.Spec PyProof.Rows L2
theorem walk_zipT {K : PySem.W.Frag} {a b : Addr} {xs ys : List V} {n : Nat} (hx : xs.length = n) (hy : ys.length = n) : Walk (RZ.ItzT K a b) n (fun H => SqT K H a xs ∧ SqT K H b ys) (YPair (fun i => xs[i]?) (fun i => ys[i]?)) where
  goes := fun i H hi q => ⟨xs, ys, xs[i]'(by omega), ys[i]'(by omega), q.1, q.2, List.getElem?_eq_getElem _, List.getElem?_eq_getElem _⟩
  stops := fun H q => ⟨xs, ys, q.1, q.2, .inl (by omega)⟩
  yields := fun i H v H' hi q y => by
    obtain ⟨T, x, z, h1, h2, h3, h4, h5⟩ := y
    exact ⟨T, x, z, h1, h2, h3, h4 xs q.1, h5 ys q.2⟩
/-! ### list == [] -/
def DOk (d : PyData) : Prop := d.canLay0 = true ∧ d.depth ≤ 3
theorem lays : ∀ {ds : List PyData}, (∀ d ∈ ds, DOk d) → PyData.canLayAll0 ds = true ∧ PyData.depthAll ds ≤ 3
  | [], _ => ⟨by simp [PyData.canLayAll0], by simp [PyData.depthAll]⟩
  | d :: ds, h => by
    obtain ⟨a, b⟩ := lays fun e he => h e (List.mem_cons_of_mem _ he)
    obtain ⟨c, e⟩ := h d List.mem_cons_self
    refine ⟨by rw [PyData.canLayAll0, c, a]; rfl, ?_⟩
    rw [PyData.depthAll]
    omega
theorem sh_list {ds : List PyData} (h : ∀ d ∈ ds, DOk d) : SeqAt.shaped (.list ds) = true := by
  obtain ⟨a, b⟩ := lays h
  unfold SeqAt.shaped
  rw [Bool.and_eq_true]
  refine ⟨by rw [PyData.canLay0]; exact a, decide_eq_true ?_⟩
  rw [PyData.depth]
  omega
def rNil (K : PySem.W.Frag) (neg : Bool) : R2 := fun x y H Q => ∃ a b xs ds, x = .ref a ∧ y = .ref b ∧ SqL K H a xs ∧ DpAll K H xs ds ∧ (∀ d ∈ ds, DOk d) ∧ SqL K H b [] ∧ Q (.bl (neg != xs.isEmpty)) H
theorem dp_empty {K : PySem.W.Frag} {H : Hp} : ∀ {xs : List V} {ds : List PyData}, DpAll K H xs ds → PyData.eqvAll ds [] = xs.isEmpty
  | _, _, .nil => by simp [PyData.eqvAll]
  | _, _, .cons _ _ => by simp [PyData.eqvAll]
theorem op_eqNil {X : Cx} (hu : X.A.units + 64 < cLine) : OpR X (compareOp .Eq) (rNil X.K false) := opR_of (op_eqD hu) fun x y H Q ⟨a, b, xs, ds, e1, e2, h1, h2, h3, h4, q⟩ => by
  subst e1 e2
  refine ⟨.list ds, .list [], .lst h1 h2, .lst h4 .nil, sh_list h3, sh_list (fun d hd => by cases hd), ?_⟩
  rw [PyData.eqv, dp_empty h2]
  have e : (false != xs.isEmpty) = xs.isEmpty := by cases xs.isEmpty <;> rfl
  rw [e] at q
  exact q
theorem op_neNil {X : Cx} (hu : X.A.units + 64 < cLine) : OpR X (compareOp .NotEq) (rNil X.K true) := opR_of (op_neD hu) fun x y H Q ⟨a, b, xs, ds, e1, e2, h1, h2, h3, h4, q⟩ => by
  subst e1 e2
  refine ⟨.list ds, .list [], .lst h1 h2, .lst h4 .nil, sh_list h3, sh_list (fun d hd => by cases hd), ?_⟩
  rw [PyData.eqv, dp_empty h2]
  have e : (true != xs.isEmpty) = !xs.isEmpty := by cases xs.isEmpty <;> rfl
  rw [e] at q
  exact q
/-- ints as data -/
theorem dp_ints {K : PySem.W.Frag} {H : Hp} : ∀ ns : List Int, DpAll K H (ns.map V.int) (ns.map PyData.int)
  | [] => .nil
  | n :: ns => .cons (.int n) (dp_ints ns)
theorem ints_ok : ∀ ns : List Int, PyData.canLayAll0 (ns.map PyData.int) = true ∧ PyData.depthAll (ns.map PyData.int) = 0
  | [] => ⟨by simp [PyData.canLayAll0], by simp [PyData.depthAll]⟩
  | n :: ns => by
    obtain ⟨a, b⟩ := ints_ok ns
    exact ⟨by rw [List.map_cons, PyData.canLayAll0, a]; simp [PyData.canLay0], by rw [List.map_cons, PyData.depthAll, b]; simp [PyData.depth]⟩
def dT (ns : List Int) : PyData := .tuple (ns.map PyData.int)
theorem dT_ok (ns : List Int) : DOk (dT ns) := by
  obtain ⟨a, b⟩ := ints_ok ns
  refine ⟨by unfold dT; rw [PyData.canLay0]; exact a, ?_⟩
  unfold dT
  rw [PyData.depth, b]
  decide
theorem dW_ok (u : Wt) : DOk (dW u) := ⟨dW_lay u, by rw [dW_depth]; decide⟩
theorem dR_ok (r : Rl) : DOk (dR r) := ⟨dR_lay r, by rw [dR_depth]; decide⟩
theorem IsTi.dp {K : PySem.W.Frag} {H : Hp} {v : V} {ns : List Int} (h : IsTi K H v ns) : Dp K H v (dT ns) := by
  obtain ⟨a, rfl, s⟩ := h
  exact .tup s (dp_ints ns)
theorem dp_all {K : PySem.W.Frag} {H : Hp} {R : V → PyData → Prop} (hR : ∀ v d, R v d → Dp K H v d) : ∀ {xs : List V}, (∀ x ∈ xs, ∃ d, R x d ∧ DOk d) → ∃ ds, DpAll K H xs ds ∧ ∀ d ∈ ds, DOk d
  | [], _ => ⟨[], .nil, fun d h => by cases h⟩
  | x :: xs, h => by
    obtain ⟨d, r, o⟩ := h x List.mem_cons_self
    obtain ⟨ds, a, b⟩ := dp_all hR fun y hy => h y (List.mem_cons_of_mem _ hy)
    exact ⟨d :: ds, .cons (hR _ _ r) a, fun e he => by
      rcases List.mem_cons.mp he with z | z
      · rw [z]; exact o
      · exact b e z⟩
def Priced (n : Nat) (ps : List Int) : Prop := ps.length = n ∧ ∀ x ∈ ps, -50 ≤ x ∧ x ≤ 50
def KeptList (K : PySem.W.Frag) (H : Hp) (ys : List V) (n : Nat) (told : List Rl) : Prop :=
  ∃ rs : List (List Int), Paired (IsTi K H) ys rs ∧ (∀ r, r ∈ rs ↔ Row n r ∧ told.all (keptR r) = true) ∧ ys.length ≤ 256
theorem KeptList.tk {K : PySem.W.Frag} {H H' : Hp} {ys : List V} {n : Nat} {told : List Rl} (h : KeptList K H ys n told) (t : Tk H H') : KeptList K H' ys n told :=
  let ⟨rs, a, b, c⟩ := h
  ⟨rs, Paired.mono (fun _ _ q => IsTi.tk q t) a, b, c⟩
theorem dp_paired {K : PySem.W.Frag} {H : Hp} {α : Type} {R : V → α → Prop} {g : α → PyData} (hR : ∀ v d, R v d → Dp K H v (g d)) : ∀ {xs : List V} {ds : List α}, Paired R xs ds → DpAll K H xs (ds.map g)
  | _, _, .nil => .nil
  | _, _, .cons r t => .cons (hR _ _ r) (dp_paired hR t)
section
variable {P : Program} {w : World} {K : PySem.W.Frag} {mg : Str → Option Value} {base : Heap} {C : Addr}
/-! ### kept_rows -/
abbrev sKeptRows : Stmt := topS 20
def spKeptRows (K : PySem.W.Frag) (C : Addr) : Sp := fun vs H Q _ => ∃ (v : V) (n : Nat) (told : List Rl), vs = [v] ∧ IsRs K C H v n told ∧ Ruled n told ∧ told.length ≤ 1000 ∧ ∀ H' D ys, Same H H' → H' D = some (.lst ys) → KeptList K H' ys n told → Q (.ref D) H'
theorem scKeptRows : FnScope ["rules", "row"] ["rules"] (defScope sKeptRows) := ⟨rfl, rfl, rfl, by decide +kernel, rfl, by decide +kernel, by decide +kernel⟩
theorem cKeptRows (L : ClR K mg C) (c1 : Cal P w K mg base 1 "all_rows" ["many"] (spAllRows K)) (c2 : Cal P w K mg base 3 "are_kept" ["told", "row"] (spAreKept K)) (A : At K mg "kept_rows" "kept_rows" sKeptRows ["rules"]) : Cal P w K mg base 4 "kept_rows" ["rules"] (spKeptRows K C) := by
  refine A.cal scKeptRows (fun vs H Q E h => ?_) (fun f cdv A outer s H vs Q E hr h => ?_)
  · obtain ⟨v, n, told, rfl, _⟩ := h
    rfl
  · obtain ⟨v, n, told, rfl, ⟨a, dx, t, rfl, ha, ht⟩, R, hz, q⟩ := h
    refine ⟨_, pss_one (ps_ret (pe_lc (own := [("row", 1)]) (g := gName 1) (tt := tB (tCall (spAreKept K) [] E0 (tCons (tFld K (tVar 0) "told") (tCons (tVar 1) tNil)))) (by rfl) scKeptRows.nd (pi_list (pe_cl c1 (hr.mono (by decide)) (by rfl) (pa_cons (pe_fld (pv 0) rfl) pa_nil)))
      (blkOk_by (own := [("row", 1)]) (N := ["rules", "row"]) (sc := defScope sKeptRows) (by decide +kernel)) (fun _ _ _ _ _ => pg_name (i := 1) scKeptRows.nd rfl (Or.inl rfl)) (fun _ _ _ _ _ => pts_one (pt_val (pe_cl c2 hr (by rfl) (pa_cons (pe_fld (pv 0) rfl) (pa_cons (pv 1) pa_nil))))) (fun _ _ _ _ _ => pv 1))), ?_⟩
    refine ⟨_, rfl, a, C, dx, _, _, rfl, ha, L.cl, L.nW, rf_wide n t, n, rfl, R.n8, fun H1 D1 xs s1 hD1 pr => ⟨D1, rfl, ⟨xs, SqL.of hD1⟩, fun D hD => ?_⟩⟩
    have hxl : xs.length ≤ 256 := by
      rw [Paired.len pr, allRows_len]
      exact Nat.le_trans (Nat.pow_le_pow_right (by decide) R.n8) (by decide)
    let p : Nat → Prop := fun i => ∃ r, (allRows n)[i]? = some r ∧ told.all (keptR r) = true
    refine lc_it (walk_list (K := K) (a := D1) (xs := xs)) (PvFil p xs H1 D) (PvFil.zero hD) (fun i H' _ p => SqL.of (p.1 _ _ hD1)) ?_ ?_
    · rintro i x H2 H3 hi p2 ⟨rfl, hx⟩
      obtain ⟨r, hr', ir⟩ := Paired.at1 pr hx
      have s2 := s1.trans p2.1
      have hrow := mem_allRows.mp (List.mem_of_getElem? hr')
      refine ⟨rfl, ?_⟩
      refine ⟨_, rfl, a, C, dx, _, _, rfl, s2 _ _ ha, L.cl, L.nT, rf_told n t, _, rfl, x, t, r, told, rfl, ir.tk (tkS p2.1), ht.tk (tkS s2), hz, fun u hu => ?_, fun H4 s4 => ⟨_, rfl, ?_⟩⟩
      · have o := R.ok u hu
        rw [hrow.1]
        exact ⟨o.1, o.2.1⟩
      · refine ite2 (fun h => ?_) (fun h => ?_)
        · exact ⟨_, rfl, PvFil.yes hD p2 s4 hx ⟨r, hr', h⟩ (szBig (by omega))⟩
        · refine PvFil.no p2 s4 fun ⟨r', e, hk⟩ => h ?_
          rw [hr'] at e
          cases e
          exact hk
    · rintro H2 ⟨s2, ys, ks, e, hl, h1, h2⟩
      refine q H2 D ys (s1.trans s2) e ⟨ks.map fun k => (allRows n).getD k [], ?_, fun r => ?_, by omega⟩
      · have pk : ∀ (ys : List V) (ks : List Nat), Paired (fun y k => xs[k]? = some y) ys ks → Paired (IsTi K H2) ys (ks.map fun k => (allRows n).getD k []) := by
          intro ys ks pp
          induction pp with
          | nil => exact .nil
          | @cons y k _ _ hyk _ ih =>
            refine .cons ?_ ih
            obtain ⟨r, hr', ir⟩ := Paired.at1 pr hyk
            have er : (allRows n).getD k [] = r := by rw [List.getD_eq_getElem?_getD, hr']; rfl
            show IsTi K H2 y ((allRows n).getD k [])
            rw [er]
            exact ir.tk (tkS s2)
        exact pk ys ks h1
      · rw [List.mem_map]
        constructor
        · rintro ⟨k, hk, rfl⟩
          obtain ⟨_, r, hr', hkept⟩ := (h2 k).mp hk
          have er : (allRows n).getD k [] = r := by rw [List.getD_eq_getElem?_getD, hr']; rfl
          rw [er]
          exact ⟨mem_allRows.mp (List.mem_of_getElem? hr'), hkept⟩
        · rintro ⟨hrow, hk⟩
          obtain ⟨k, hk'⟩ := List.mem_iff_getElem?.mp (mem_allRows.mpr hrow)
          have hkl : k < xs.length := by rw [Paired.len pr]; exact (List.getElem?_eq_some_iff.mp hk').1
          exact ⟨k, (h2 k).mpr ⟨hkl, r, hk', hk⟩, by rw [List.getD_eq_getElem?_getD, hk']; rfl⟩
end
end K74

set_option Elab.async false
set_option linter.all false
set_option maxRecDepth 100000
set_option maxHeartbeats 4000000
namespace K74
open PySem PySem.Spec PyProof.Rows L2
section
variable {P : Program} {w : World} {K : PySem.W.Frag} {mg : Str → Option Value} {base : Heap} {C : Addr}
/-! ### need_prices -/
abbrev sNeedP : Stmt := topS 23
def spNeedP (K : PySem.W.Frag) (C : Addr) : Sp := fun vs H Q _ => ∃ (v p : V) (n : Nat) (told : List Rl) (ps : List Int), vs = [v, p] ∧ IsRs K C H v n told ∧ IsTi K H p ps ∧ Priced n ps ∧ n ≤ 8 ∧ ∀ H', Same H H' → Q .non H'
theorem scNeedP : FnScope ["rules", "prices", "price"] ["rules", "prices"] (defScope sNeedP) := ⟨rfl, rfl, rfl, by decide +kernel, rfl, by decide +kernel, by decide +kernel⟩
theorem cNeedP (B : Bl mg) (L : ClR K mg C) (c1 : Cal P w K mg base 1 "is_from" ["value", "low", "high"] spIsFrom) (c2 : Cal P w K mg base 1 "need_rules" ["rules"] (spNeedR K C)) (A : At K mg "need_prices" "need_prices" sNeedP ["rules", "prices"]) : Cal P w K mg base 2 "need_prices" ["rules", "prices"] (spNeedP K C) := by
  refine A.cal scNeedP (fun vs H Q E h => ?_) (fun f cdv A outer s H vs Q E hr h => ?_)
  · obtain ⟨v, p, n, told, ps, rfl, _⟩ := h
    rfl
  · obtain ⟨v, p, n, told, ps, rfl, hv, ⟨b, rfl, sb⟩, ⟨hl, hb⟩, hn8, q⟩ := h
    obtain ⟨t50, m50⟩ := B.c50
    obtain ⟨a, dx, t, rfl, ha, ht⟩ := id hv
    refine ⟨_, pss_cons (ps_expr (pe_cl c2 hr (by rfl) (pa_cons (pv 0) pa_nil)))
      (pss_cons (ps_if (PW.pt (pw_or (pt_not (pt_val (x_isT B (pv 1)))) (pw_or1 (pt_cmpR op_ne (x_len B (pv 1)) (pe_fld (pv 0) rfl) (nomark _))))) pss_never pss_nil)
      (pss_one (ps_if (pt_not (pt_val (x_all B (pe_lc (own := [("price", 2)]) (g := gName 2) (tt := tYes) (te := tCall spIsFrom [] E0 (tCons (tVar 2) (tCons (tUn (rU fun i => .int (-i)) (tC (.int 50))) (tCons (tC (.int 50)) tNil)))) (by rfl) scNeedP.nd (pi_tup (pv 1)) (blkOk_by (own := [("price", 2)]) (N := ["rules", "prices", "price"]) (sc := defScope sNeedP) (by decide +kernel))
          (fun _ _ _ _ _ => pg_name (i := 2) scNeedP.nd rfl (Or.inl rfl)) (fun _ _ _ _ _ => pts_nil) (fun _ _ _ _ _ => pe_cl c1 hr (by rfl) (pa_cons (pv 2) (pa_cons (pe_un un_neg (pe_glob (v := .int 50) (by rfl) m50 ⟨t50, rfl⟩)) (pa_cons (pe_glob (v := .int 50) (by rfl) m50 ⟨t50, rfl⟩) pa_nil)))))))) pss_never pss_nil))), ?_⟩
    refine ⟨_, rfl, .ref a, n, told, rfl, hv, ?_⟩
    refine ⟨_, rfl, b, _, rfl, sb, true, rfl, iteF ?_⟩
    refine ⟨_, rfl, b, _, rfl, .inr sb, _, rfl, a, C, dx, _, _, rfl, ha, L.cl, L.nW, rf_wide n t, rfl, _, rfl, ?_⟩
    have e1 : (!decide (V.int ((ps.map V.int).length : Nat) = V.int (n : Nat))) = false := by rw [List.length_map, hl, decide_eq_true rfl]; rfl
    rw [e1]
    refine iteF ?_
    refine ⟨_, rfl, b, rfl, ⟨_, sb⟩, fun D hD => ?_⟩
    refine lc_it (walk_tup (K := K) (a := b) (xs := ps.map V.int)) (PvAll allT H D) (PvAll.zero hD) (fun i H' _ p => (tkS p.1).sq sb) ?_ ?_
    · rintro i x H2 H3 hi p2 ⟨rfl, hx⟩
      obtain ⟨z, hz, rfl⟩ : ∃ z, ps[i]? = some z ∧ x = .int z := by
        rw [List.getElem?_map] at hx
        cases e : ps[i]? with
        | none => rw [e] at hx; cases hx
        | some z => rw [e] at hx; exact ⟨z, rfl, (Option.some.inj hx).symm⟩
      have bz := hb z (List.mem_of_getElem? hz)
      have hi8 : i < 8 := by rw [List.length_map, hl] at hi; omega
      exact ⟨rfl, _, rfl, _, rfl, z, -50, 50, rfl, bz.1, bz.2, PvAll.next allT_by hD p2 (Same.refl _) rfl (szBig (by omega))⟩
    · rintro H2 ⟨s2, ys, e, hyl, hy⟩
      refine ⟨D, _, rfl, SqL.of (by rw [e, allT_rep hy]), ?_⟩
      rw [all_rep]
      exact ⟨true, rfl, iteF (q _ s2)⟩
/-! ### cost_of -/
abbrev sCostOf : Stmt := topS 24
def spCostOf (K : PySem.W.Frag) : Sp := fun vs H Q _ => ∃ (p v : V) (n : Nat) (ps hs : List Int), vs = [p, v] ∧ IsTi K H p ps ∧ IsTi K H v hs ∧ Priced n ps ∧ hs.length = n ∧ n ≤ 8 ∧ ∀ H', Same H H' → Q (.int (cost ps hs)) H'
theorem scCostOf : FnScope ["prices", "row", "price", "value"] ["prices", "row"] (defScope sCostOf) := ⟨rfl, rfl, rfl, by decide +kernel, rfl, by decide +kernel, by decide +kernel⟩
theorem ints_list {ys : List V} {ms : List Int} (hl : ys.length = ms.length) (h : ∀ (k : Nat) y, ys[k]? = some y → ∃ m, ms[k]? = some m ∧ y = V.int m) : ys = ms.map V.int := by
  refine List.ext_getElem? fun k => ?_
  rw [List.getElem?_map]
  cases hk : ys[k]? with
  | none =>
    have : ms[k]? = none := List.getElem?_eq_none_iff.mpr (by rw [← hl]; exact List.getElem?_eq_none_iff.mp hk)
    rw [this]; rfl
  | some y =>
    obtain ⟨m, hm, e⟩ := h k y hk
    rw [hm, e]; rfl
theorem map_int_get {ps : List Int} {i : Nat} {x : V} (hx : (ps.map V.int)[i]? = some x) : ∃ z, ps[i]? = some z ∧ x = .int z := by
  rw [List.getElem?_map] at hx
  cases e : ps[i]? with
  | none => rw [e] at hx; cases hx
  | some z => rw [e] at hx; exact ⟨z, rfl, (Option.some.inj hx).symm⟩
theorem cCostOf (B : Bl mg) (A : At K mg "cost_of" "cost_of" sCostOf ["prices", "row"]) : Cal P w K mg base 1 "cost_of" ["prices", "row"] (spCostOf K) := by
  refine A.cal scCostOf (fun vs H Q E h => ?_) (fun f cdv A outer s H vs Q E hr h => ?_)
  · obtain ⟨p, v, n, ps, hs, rfl, _⟩ := h
    rfl
  · obtain ⟨p, v, n, ps, hs, rfl, ⟨a, rfl, sa⟩, ⟨b, rfl, sb⟩, ⟨hl, hb⟩, hl2, hn8, q⟩ := h
    refine ⟨_, pss_one (ps_ret (x_sum B (pe_lc (own := [("price", 2), ("value", 3)]) (g := gTup K 2 (gCons (gName 2) (gCons (gName 3) gNil))) (tt := tYes) (by rfl) scCostOf.nd (RZ.pi_zipA (by rfl) B.zip (pa_cons (pv 0) (pa_cons (pv 1) pa_nil)))
      (blkOk_by (own := [("price", 2), ("value", 3)]) (N := ["prices", "row", "price", "value"]) (sc := defScope sCostOf) (by decide +kernel))
      (fun _ _ _ _ _ => pg_tup rfl (pgs_cons (pg_name (i := 2) scCostOf.nd rfl (Or.inl rfl)) (pgs_cons (pg_name (i := 3) scCostOf.nd rfl (Or.inl rfl)) pgs_nil))) (fun _ _ _ _ _ => pts_nil) (fun _ _ _ _ _ => pe_op op_mul (pv 2) (pv 3))))), ?_⟩
    refine ⟨_, rfl, _, rfl, a, b, _, _, rfl, .inr ⟨sa, sb, fun D hD => ?_⟩⟩
    let F : Nat → V → Hp → Prop := fun i y _ => ∃ m, (List.zipWith (fun a b => a * b) ps hs)[i]? = some m ∧ y = V.int m
    have kf : ByT F := fun _ _ _ _ _ h => h
    have zl : (List.zipWith (fun a b => a * b) ps hs).length = n := by rw [List.length_zipWith, hl, hl2]; omega
    refine lc_it (walk_zipT (K := K) (a := a) (b := b) (xs := ps.map V.int) (ys := hs.map V.int) (n := n) (by rw [List.length_map, hl]) (by rw [List.length_map, hl2])) (PvAll F H D) (PvAll.zero hD) (fun i H' _ p => ⟨(tkS p.1).sq sa, (tkS p.1).sq sb⟩) ?_ ?_
    · rintro i x H2 H3 hi p2 ⟨T, y, z, rfl, hT, rfl, hy, hz⟩
      obtain ⟨c, hc, rfl⟩ := map_int_get hy
      obtain ⟨d, hd, rfl⟩ := map_int_get hz
      have bc := hb c (List.mem_of_getElem? hc)
      refine ⟨T, _, rfl, SqT.of upd_same, rfl, _, _, rfl, _, _, rfl, rfl, rfl, ?_⟩
      refine ⟨_, rfl, _, rfl, _, _, rfl, rfl, .inl ⟨by omega, by omega⟩, ?_⟩
      exact PvAll.next kf hD p2 (samePut hT) ⟨c * d, by rw [List.getElem?_zipWith, hc, hd], rfl⟩ (szBig (by omega))
    · rintro H2 ⟨s2, ys, e, hyl, hy⟩
      refine ⟨D, List.zipWith (fun a b => a * b) ps hs, rfl, SqL.of (by rw [e, ints_list (by rw [hyl, zl]) hy]), q _ s2⟩
/-! ### best_rows -/
def IsBest (n : Nat) (told : List Rl) (ps : List Int) (m : Int) : Prop := (∃ r, Row n r ∧ told.all (keptR r) = true ∧ cost ps r = m) ∧ ∀ r, Row n r → told.all (keptR r) = true → m ≤ cost ps r
abbrev sBest : Stmt := topS 25
def spBest (K : PySem.W.Frag) (C : Addr) : Sp := fun vs H Q _ => ∃ (v p : V) (n : Nat) (told : List Rl) (ps : List Int), vs = [v, p] ∧ IsRs K C H v n told ∧ Ruled n told ∧ told.length ≤ 1000 ∧ IsTi K H p ps ∧ Priced n ps ∧
  ((∀ r, Row n r → told.all (keptR r) = false) → ∀ H', Same H H' → Q .non H') ∧ ((∃ r, Row n r ∧ told.all (keptR r) = true) → ∀ H' T D m, Same H H' → H' T = some (.tup [.int m, .ref D]) → IsBest n told ps m → Q (.ref T) H')
theorem scBest : FnScope ["rules", "prices", "rows", "least", "row"] ["rules", "prices"] (defScope sBest) := ⟨rfl, rfl, rfl, by decide +kernel, rfl, by decide +kernel, by decide +kernel⟩
theorem cBest (B : Bl mg) (c1 : Cal P w K mg base 4 "kept_rows" ["rules"] (spKeptRows K C)) (c2 : Cal P w K mg base 1 "cost_of" ["prices", "row"] (spCostOf K)) (A : At K mg "best_rows" "best_rows" sBest ["rules", "prices"]) : Cal P w K mg base 5 "best_rows" ["rules", "prices"] (spBest K C) := by
  refine A.cal scBest (fun vs H Q E h => ?_) (fun f cdv A outer s H vs Q E hr h => ?_)
  · obtain ⟨v, p, n, told, ps, rfl, _⟩ := h
    rfl
  · obtain ⟨v, p, n, told, ps, rfl, hv, R, hz, hp, pr, q1, q2⟩ := h
    have hr1 : Room 1 (A.deeper (envOfC "best_rows" (defScope sBest) s.heap.objs.size f cdv)) := hr.mono (by decide)
    refine ⟨_, pss_cons (ps_set (i := 2) scBest.nd rfl (Or.inl rfl) (pe_cl c1 hr (by rfl) (pa_cons (pv 0) pa_nil)))
      (pss_cons (ps_if (pt_cmpR (op_eqNil hr.units) (pv 2) (pe_lst pa_nil) (nomark _)) (pss_one (ps_ret pe_non)) pss_nil)
      (pss_cons (ps_set (i := 3) scBest.nd rfl (Or.inr rfl) (x_min B (pe_lc (own := [("row", 4)]) (g := gName 4) (tt := tYes) (te := tCall (spCostOf K) [] E0 (tCons (tVar 1) (tCons (tVar 4) tNil))) (by rfl) scBest.nd (pi_list (pv 2)) (blkOk_by (own := [("row", 4)]) (N := ["rules", "prices", "rows", "least", "row"]) (sc := defScope sBest) (by decide +kernel))
          (fun _ _ _ _ _ => pg_name (i := 4) scBest.nd rfl (Or.inl rfl)) (fun _ _ _ _ _ => pts_nil) (fun _ _ _ _ _ => pe_cl c2 hr1 (by rfl) (pa_cons (pv 1) (pa_cons (pv 4) pa_nil))))))
      (pss_one (ps_ret (pe_tup (pa_cons (pv 3) (pa_cons (pe_lc (own := [("row", 4)]) (g := gName 4) (tt := tTest (tOp rEq (tCall (spCostOf K) [] E0 (tCons (tVar 1) (tCons (tVar 4) tNil))) (tVar 3))) (by rfl) scBest.nd (pi_list (pv 2)) (blkOk_by (own := [("row", 4)]) (N := ["rules", "prices", "rows", "least", "row"]) (sc := defScope sBest) (by decide +kernel))
          (fun _ _ _ _ _ => pg_name (i := 4) scBest.nd rfl (Or.inl rfl)) (fun _ _ _ _ _ => pts_one (pt_cmpR op_eq (pe_cl c2 hr1 (by rfl) (pa_cons (pv 1) (pa_cons (pv 4) pa_nil))) (pv 3) (nomark _))) (fun _ _ _ _ _ => pv 4)) pa_nil))))))), ?_⟩
    refine ⟨_, rfl, v, n, told, rfl, hv, R, hz, fun H1 D1 ys s1 hD1 kl => ?_⟩
    have kl0 := kl
    obtain ⟨rs, pr1, hrs, hlen⟩ := kl
    refine ⟨_, rfl, Nat.zero_le _, fun e he => ⟨D1, e, ys, rs.map dT, rfl, rfl, SqL.of (samePut he _ _ hD1), dp_paired (R := IsTi K (upd H1 e (.lst []))) (fun v d h => h.dp) (Paired.mono (fun _ _ q => IsTi.tk q (Tk.new he)) pr1), fun d hd => ?_, SqL.of upd_same, _, rfl, ?_⟩⟩
    · obtain ⟨r, _, e'⟩ := List.mem_map.mp hd
      rw [← e']
      exact dT_ok r
    have s2 : Same H (upd H1 e (.lst [])) := s1.trans (samePut he)
    have pr2 := Paired.mono (fun _ _ q => IsTi.tk q (Tk.new (o := .lst []) he)) pr1
    have hD2 := samePut (o := .lst []) he _ _ hD1
    have hyl : ys.length = rs.length := Paired.len pr1
    generalize upd H1 e (.lst []) = H2 at s2 pr2 hD2 ⊢
    by_cases hnil : ys = []
    · have e1 : (false != ys.isEmpty) = true := by rw [hnil]; rfl
      rw [e1]
      refine iteT (q1 (fun r hr' => ?_) _ s2)
      cases hk : told.all (keptR r) with
      | false => rfl
      | true =>
        have hm := (hrs r).mpr ⟨hr', hk⟩
        have : rs = [] := List.eq_nil_of_length_eq_zero (by rw [← hyl, hnil]; rfl)
        rw [this] at hm
        cases hm
    · have hpos : 0 < ys.length := List.length_pos_iff.mpr hnil
      have e1 : (false != ys.isEmpty) = false := by
        cases q : ys with
        | nil => exact absurd q hnil
        | cons _ _ => rfl
      rw [e1]
      refine iteF ?_
      refine ⟨_, rfl, D1, rfl, ⟨ys, SqL.of hD2⟩, fun D hD => ?_⟩
      let F : Nat → V → Hp → Prop := fun i y _ => ∃ m, (rs.map (cost ps))[i]? = some m ∧ y = V.int m
      have kf : ByT F := fun _ _ _ _ _ h => h
      refine lc_it (walk_list (K := K) (a := D1) (xs := ys)) (PvAll F H2 D) (PvAll.zero hD) (fun i H' _ p => SqL.of (p.1 _ _ hD2)) ?_ ?_
      · rintro i x H3 H4 hi p3 ⟨rfl, hx⟩
        obtain ⟨r, hr', ir⟩ := Paired.at1 pr2 hx
        have a1 := ((hrs r).mp (List.mem_of_getElem? hr')).1
        refine ⟨rfl, _, rfl, _, rfl, p, x, n, ps, r, rfl, hp.tk (tkS (s2.trans p3.1)), ir.tk (tkS p3.1), pr, a1.1, R.n8, fun H5 s5 => ?_⟩
        exact PvAll.next kf hD p3 s5 ⟨cost ps r, by rw [List.getElem?_map, hr']; rfl, rfl⟩ (szBig (by omega))
      · rintro H3 ⟨s3, zs, ez, hzl, hz'⟩
        have hzs : zs = (rs.map (cost ps)).map V.int := ints_list (by rw [hzl, hyl, List.length_map]) hz'
        refine ⟨D, _, rfl, SqL.of (by rw [ez, hzs]), by rw [List.length_map]; omega, fun m hm hle => ?_⟩
        have best : IsBest n told ps m := by
          obtain ⟨r, hr', er⟩ := List.mem_map.mp hm
          obtain ⟨a1, a2⟩ := (hrs r).mp hr'
          exact ⟨⟨r, a1, a2, er⟩, fun r' b1 b2 => hle _ (List.mem_map.mpr ⟨r', (hrs r').mpr ⟨b1, b2⟩, rfl⟩)⟩
        have hex : ∃ r, Row n r ∧ told.all (keptR r) = true := let ⟨⟨r, a, b, _⟩, _⟩ := best; ⟨r, a, b⟩
        have s23 := s2.trans s3
        have hD3 := s3 _ _ hD2
        refine ⟨_, rfl, _, rfl, D1, rfl, ⟨ys, SqL.of hD3⟩, fun D5 hD5 => ?_⟩
        let p5 : Nat → Prop := fun i => ∃ r, rs[i]? = some r ∧ cost ps r = m
        refine lc_it (walk_list (K := K) (a := D1) (xs := ys)) (PvFil p5 ys H3 D5) (PvFil.zero hD5) (fun i H' _ p => SqL.of (p.1 _ _ hD3)) ?_ ?_
        · rintro i x H4 H5 hi p4 ⟨rfl, hx⟩
          obtain ⟨r, hr', ir⟩ := Paired.at1 pr2 hx
          have a1 := ((hrs r).mp (List.mem_of_getElem? hr')).1
          refine ⟨rfl, _, rfl, _, rfl, p, x, n, ps, r, rfl, hp.tk (tkS (s23.trans p4.1)), ir.tk (tkS (s3.trans p4.1)), pr, a1.1, R.n8, fun H6 s6 => ⟨_, rfl, rfl, _, rfl, ?_⟩⟩
          rw [dec_int]
          refine ite2 (fun h => ?_) (fun h => ?_)
          · exact ⟨_, rfl, PvFil.yes hD5 p4 s6 hx ⟨r, hr', of_decide_eq_true h⟩ (szBig (by omega))⟩
          · refine PvFil.no p4 s6 fun ⟨r', e', hk⟩ => h ?_
            rw [hr'] at e'
            cases e'
            exact decide_eq_true hk
        · rintro H4 ⟨s4, us, ks, eu, _⟩
          refine ⟨by show 2 ≤ sizeLine; decide, fun T hT => ?_⟩
          exact q2 hex _ T D5 m ((s23.trans s4).trans (samePut hT)) upd_same best
/-! ### cheapest, where no row keeps the rules -/
abbrev sCheapest : Stmt := topS 26
def spCheapest (K : PySem.W.Frag) (C : Addr) : Sp := fun vs H Q _ => ∃ (v p : V) (n : Nat) (told : List Rl) (ps : List Int), vs = [v, p] ∧ IsRs K C H v n told ∧ Ruled n told ∧ told.length ≤ 1000 ∧ IsTi K H p ps ∧ Priced n ps ∧
  (∀ r, Row n r → told.all (keptR r) = false) ∧ ∀ H', Same H H' → Q .non H'
theorem scCheapest : FnScope ["rules", "prices", "found"] ["rules", "prices"] (defScope sCheapest) := ⟨rfl, rfl, rfl, by decide +kernel, rfl, by decide +kernel, by decide +kernel⟩
theorem cCheapest (c1 : Cal P w K mg base 2 "need_prices" ["rules", "prices"] (spNeedP K C)) (c2 : Cal P w K mg base 5 "best_rows" ["rules", "prices"] (spBest K C)) (A : At K mg "cheapest" "cheapest" sCheapest ["rules", "prices"]) : Cal P w K mg base 6 "cheapest" ["rules", "prices"] (spCheapest K C) := by
  refine A.cal scCheapest (fun vs H Q E h => ?_) (fun f cdv A outer s H vs Q E hr h => ?_)
  · obtain ⟨v, p, n, told, ps, rfl, _⟩ := h
    rfl
  · obtain ⟨v, p, n, told, ps, rfl, hv, R, hz, hp, pr, no, q⟩ := h
    refine ⟨_, pss_cons (ps_expr (pe_cl c1 (hr.mono (by decide)) (by rfl) (pa_cons (pv 0) (pa_cons (pv 1) pa_nil))))
      (pss_cons (ps_set (i := 2) scCheapest.nd rfl (Or.inl rfl) (pe_cl c2 hr (by rfl) (pa_cons (pv 0) (pa_cons (pv 1) pa_nil))))
      (pss_one (ps_ret (pe_ifExp (pt_cmpR op_notN (pv 2) pe_non (nomark _)) (pe_tup (pa_cons (x_ix (pv 2) pe_int) (pa_cons (x_ixL (x_ix (pv 2) pe_int) pe_int) pa_nil))) pe_non)))), ?_⟩
    refine ⟨_, rfl, _, rfl, v, p, n, told, ps, rfl, hv, hp, pr, R.n8, fun H1 s1 => ?_⟩
    refine ⟨_, rfl, _, rfl, v, p, n, told, ps, rfl, hv.same s1, R, hz, hp.tk (tkS s1), pr, fun _ H2 s2 => ?_, fun ⟨r, a, b⟩ => ?_⟩
    · exact ⟨_, rfl, rfl, false, rfl, iteF (q _ (s1.trans s2))⟩
    · rw [no r a] at b
      cases b
end
end K74

set_option Elab.async false
set_option linter.all false
set_option maxRecDepth 100000
set_option maxHeartbeats 4000000
namespace K74
open PySem PySem.Spec PyProof.Rows L2
/-! ### rule.count(want); a tuple whose object is told -/
theorem dW_plain (u : Wt) : (dW u).plain = true := by simp [dW, PyData.plain, PyData.plainAll]
theorem cnt_eq (r : Rl) (u : Wt) : ((([dW r.1, dW r.2] : List PyData).countP (fun y => PyData.eqv y (dW u)) : Nat) : Int) = cnt r u := by
  rw [List.countP_cons, List.countP_cons, List.countP_nil]
  simp only [dW_eqv, decide_eq_true_eq]
  unfold cnt
  by_cases h1 : r.1 = u <;> by_cases h2 : r.2 = u <;> simp [h1, h2]
def tCnt (K : PySem.W.Frag) (to : TE) (t : TA) : TE := fun σ H Q => to σ H fun x H1 => (∃ r, IsRf K H1 x r) ∧ t σ H1 fun xs H2 => ∃ r y u, xs = [y] ∧ IsRf K H2 x r ∧ IsW K H2 y u ∧ Q (.int (cnt r u)) H2
section
variable {X : Cx} {o e : Expr} {es : List Expr} {to te : TE} {t : TA} {apos cpos pos : Pos}
theorem pe_tcount (ho : PE X o to) (ha : PA X [e] t) (hu : X.A.units + 100 < cLine) (hbase : attributeBase o "count" X.env (eval o X.env) = eval o X.env := by rfl)
    (hfew : ((backTo cpos (starEach [e] X.env)).all (fun x => !x.1) && (backToKw cpos (keywordEach [] X.env)).all (fun x => x.1.isSome) && decide (([e] : List Expr).length + ([] : List Keyword).length + (if ([] : List Keyword).isEmpty then 0 else 1) < 30)) = true := by rfl)
    (hline : (apos.endLine == cpos.line) = true := by rfl) (hs : starEach [e] X.env = (false, eval e X.env) :: starEach [] X.env := by rfl) (hplain : (backTo cpos (starEach [] X.env)).any (·.1) = false := by rfl) :
    PE X (.Call (.Attribute o "count" apos) [e] [] cpos) (tCnt X.K to t) := by
  refine ⟨fun pins s σ H Q I h => wpAny_Call_method_late hbase hfew hline rfl (thn (ho.run pins s σ H _ I h) fun v s1 ⟨x, H1, I1, r1, ⟨r0, ir0⟩, q1⟩ => ?_)⟩
  obtain ⟨hr0, a, ob, u, rfl, hob, hnd⟩ := ir0
  cases r1
  have g : s1.heap.get? a = some ob := (I1.hok a _ hob).1
  obtain ⟨a', x1, y1, e1, sq, _⟩ := id hr0
  cases e1
  obtain ⟨its, _, tp, _⟩ := I1.tuple sq
  refine ⟨"tuple", "tuple.count", F.plainAttrs_tuple, F.slot_tuple_count, F.type_tuple_count, tp.typeIs, fun b hb => ?_, ?_⟩
  · cases hb
    exact ⟨ob, g, hnd⟩
  · have hA := ha.run cpos pins s1 σ H1 _ I1 q1
    rw [hs] at hA ⊢
    refine Calls.callWith_builtin (by show (false || (backTo cpos (starEach [] X.env)).any (·.1)) = false; rw [hplain] <;> rfl) (Calls.evalArgs_plain (thn hA fun us s2 ⟨vs, H2, I2, r2, r, y, u, ev, ⟨ir, _⟩, iw, q⟩ => ?_))
    subst ev
    obtain ⟨b, rfl, sb⟩ := id iw
    rw [Vals.ref1 r2]
    have rr := (ir.at I2)
    obtain ⟨p, q', ⟨oo, ho1, ho2, n, ho3⟩, h1, h2⟩ := id rr
    have rs : ReadsAll s2.heap (#[Value.ref p, .ref q'] : Array Value).toList [dW r.1, dW r.2] [] := .cons h1.reads (.cons h2.reads .nil)
    refine SeqAt.count_tuple_data ⟨oo, ho1, ho2, n, ho3⟩ rs (iw.at I2).reads (by simp [PyData.plainAll, dW_plain]) (dW_plain u) ?_ ?_
    · have d1 : PyData.depthAll [dW r.1, dW r.2] = 1 := by simp [PyData.depthAll, dW_depth]
      rw [d1, dW_depth]
      show X.A.units + 1 + 1 < cLine
      omega
    · rw [cnt_eq]
      exact ⟨.int (cnt r u), H2, I2.tok _, ⟨_, rfl⟩, q⟩
/-- a display whose new object is told whole -/
def tTupF (t : TA) : TE := fun σ H Q => t σ H fun xs H1 => xs.length ≤ sizeLine ∧ ∀ p o, H1 p = none → o.dict = none → Q (.ref p) (upd H1 p (.frz o (.tup xs)))
theorem pe_tupF {k : Nat} (h : PA X es t) : PE X (.Tuple es k pos) (tTupF t) := by
  refine ⟨fun pins s σ H Q I hq => wpAny_Tuple_spliced (thn (h.run pos pins s σ H _ I hq) fun us s1 ⟨xs, H1, I1, r, z, q⟩ => ⟨by rw [← r.length]; exact z, ?_⟩)⟩
  refine ⟨.ref s1.heap.objs.size, _, I1.laid (t' := s1.toks) (fun b u e => Heap.get?_push_of_some _ e) (Nat.le_refl _) ?_, rfl, q s1.heap.objs.size { cls := .type "tuple", data := .seq us.toArray } (I1.hok.fresh (Nat.le_refl _)) rfl⟩
  exact ⟨Heap.get?_push_size _ rfl, z, us, r, ⟨_, Heap.get?_push_size _ rfl, rfl, _, rfl⟩⟩
end
end K74

set_option Elab.async false
set_option linter.all false
set_option maxRecDepth 100000
set_option maxHeartbeats 4000000
namespace K74
open PySem PySem.Spec PyProof.Rows L2
def wAt (k : Nat) : Wt := (((k / 2 : Nat) : Int), ((k % 2 : Nat) : Int))
def allW (n : Nat) : List Wt := (List.range (2 * n)).map wAt
theorem allW_len (n : Nat) : (allW n).length = 2 * n := by unfold allW; rw [List.length_map, List.length_range]
theorem allW_get {n k : Nat} (h : k < 2 * n) : (allW n)[k]? = some (wAt k) := by
  unfold allW
  rw [List.getElem?_map, List.getElem?_range h]; rfl
theorem mem_allW {n : Nat} {u : Wt} : u ∈ allW n ↔ OkW n u := by
  unfold allW
  rw [List.mem_map]
  constructor
  · rintro ⟨k, hk, rfl⟩
    have hk' : k < 2 * n := List.mem_range.mp hk
    refine ⟨by show (0 : Int) ≤ ((k / 2 : Nat) : Int); omega, by show ((k / 2 : Nat) : Int) < (n : Int); omega, ?_⟩
    show ((k % 2 : Nat) : Int) = 0 ∨ ((k % 2 : Nat) : Int) = 1
    omega
  · intro h
    obtain ⟨k, hk, e⟩ := ok_form h
    rcases e with e | e <;> subst e
    · refine ⟨2 * k, List.mem_range.mpr (by omega), ?_⟩
      unfold wAt
      rw [show 2 * k / 2 = k by omega, show 2 * k % 2 = 0 by omega]; rfl
    · refine ⟨2 * k + 1, List.mem_range.mpr (by omega), ?_⟩
      unfold wAt
      rw [show (2 * k + 1) / 2 = k by omega, show (2 * k + 1) % 2 = 1 by omega]; rfl
theorem wAt_inj {i j : Nat} (h : wAt i = wAt j) : i = j := by
  have h1 : ((i / 2 : Nat) : Int) = ((j / 2 : Nat) : Int) := congrArg Prod.fst h
  have h2 : ((i % 2 : Nat) : Int) = ((j % 2 : Nat) : Int) := congrArg Prod.snd h
  omega
theorem allW_nodup (n : Nat) : (allW n).Nodup := by
  unfold allW
  refine List.pairwise_map.mpr (List.Pairwise.imp (fun {a b} hne e => hne (wAt_inj e)) List.nodup_range)
def keptHb (hs : List Int) (r : Rl) : Bool := decide (2 ≤ hv hs r.1 + hv hs r.2)
section
variable {P : Program} {w : World} {K : PySem.W.Frag} {mg : Str → Option Value} {base : Heap} {C : Addr}
/-! ### all_wants -/
abbrev sAllWants : Stmt := topS 28
def spAllWants (K : PySem.W.Frag) : Sp := fun vs H Q _ => ∃ n : Nat, vs = [.int n] ∧ n ≤ 8 ∧ ∀ H' D ys, Same H H' → H' D = some (.lst ys) → Paired (IsW K H') ys (allW n) → Q (.ref D) H'
theorem scAllWants : FnScope ["many", "place", "value"] ["many"] (defScope sAllWants) := ⟨rfl, rfl, rfl, by decide +kernel, rfl, by decide +kernel, by decide +kernel⟩
theorem cAllWants (B : Bl mg) (A : At K mg "all_wants" "all_wants" sAllWants ["many"]) : Cal P w K mg base 1 "all_wants" ["many"] (spAllWants K) := by
  refine A.cal scAllWants (fun vs H Q E h => ?_) (fun f cdv A outer s H vs Q E hr h => ?_)
  · obtain ⟨n, rfl, _⟩ := h
    rfl
  · obtain ⟨n, rfl, hn, q⟩ := h
    refine ⟨_, pss_one (ps_ret (pe_lc2 (own := [("place", 1), ("value", 2)]) (vs1 := [2]) (g := gName 1) (tt := tYes) (g1 := gName 2) (tt1 := tYes) (te := tTup (tCons (tVar 1) (tCons (tVar 2) tNil))) (wi1 := iTup K (tTup (tCons (tC (.int 0)) (tCons (tC (.int 1)) tNil)))) rfl scAllWants.nd (pi_range1 (by rfl) B.range (pa_cons (pv 0) pa_nil))
          (blkOk_by (own := [("place", 1), ("value", 2)]) (N := ["many", "place", "value"]) (sc := defScope sAllWants) (by decide +kernel)) (by decide)
          (fun _ _ _ _ _ => pg_name (i := 1) scAllWants.nd rfl (Or.inl rfl)) (fun _ _ _ _ _ => pts_nil) (fun _ _ _ _ _ => pi_tup (pe_tup (pa_cons pe_int (pa_cons pe_int pa_nil))))
          (fun _ _ _ _ _ => pg_name (i := 2) scAllWants.nd rfl (Or.inl rfl)) (fun _ _ _ _ _ => pts_nil) (fun _ _ _ _ _ => pe_tup (pa_cons (pv 1) (pa_cons (pv 2) pa_nil))))), ?_⟩
    refine ⟨_, rfl, n, rfl, by omega, by omega, fun D hD => ?_⟩
    let F : Nat → V → Hp → Prop := fun k y H' => IsW K H' y (wAt k)
    have kf : ByT F := fun k y Ha Hb t h => h.tk t
    refine ⟨fun j m H' => m = n - j ∧ j ≤ n ∧ PvAll F H D (2 * j) H', ⟨_, rfl, Nat.zero_le _, PvAll.zero hD⟩, ?_⟩
    rintro j m H2 ⟨rfl, hj, p2⟩
    rcases Nat.lt_or_ge j n with lt | ge
    · refine .inr ⟨lt, fun H' => PvAll F H D (2 * (j + 1)) H', fun H' p' => ⟨n - (j + 1), by omega, rfl, lt, p'⟩, ?_⟩
      rintro x H3 ⟨rfl, rfl⟩
      refine ⟨rfl, by show 2 ≤ sizeLine; decide, fun T hT => ⟨T, rfl, ⟨_, SqT.of upd_same⟩, ?_⟩⟩
      have p3 : PvAll F H D (2 * j) (upd H3 T (.tup [.int 0, .int 1])) := by
        obtain ⟨a1, ys, a2, a3, a4⟩ := p2
        exact ⟨a1.trans (samePut hT), ys, samePut hT _ _ a2, a3, fun k y hk => kf _ _ _ _ (Tk.new hT) (a4 k y hk)⟩
      refine in_it (walk_tup (K := K) (a := T) (xs := [.int 0, .int 1])) (fun k H' => PvAll F H D (2 * j + k) H' ∧ SqT K H' T [.int 0, .int 1]) ⟨p3, SqT.of upd_same⟩ (fun k H' _ p => p.2) ?_ (fun H' p => p.1)
      rintro k z H4 H5 hk ⟨p5, sT⟩ ⟨rfl, hz⟩
      have ez : z = .int (k : Nat) := by
        match k, hz with
        | 0, hz => exact (Option.some.inj hz).symm
        | 1, hz => exact (Option.some.inj hz).symm
        | m + 2, hz => simp at hz
      subst ez
      refine ⟨rfl, _, rfl, _, rfl, by show 2 ≤ sizeLine; decide, fun q5 hq5 => ?_⟩
      have hk2 : k < 2 := hk
      have ew : wAt (2 * j + k) = ((j : Int), (k : Int)) := by
        unfold wAt
        rw [show (2 * j + k) / 2 = j by omega, show (2 * j + k) % 2 = k by omega]
      have t6 : Tk H5 (upd H5 q5 (.tup [.int ((0 : Int) + (j : Int)), .int (k : Nat)])) := Tk.new hq5
      obtain ⟨acc, b1, b2, b3⟩ := PvAll.next kf hD p5 (samePut hq5) (show F (2 * j + k) (.ref q5) (upd H5 q5 (.tup [.int ((0 : Int) + (j : Int)), .int (k : Nat)])) from by
        show IsW K _ _ (wAt (2 * j + k))
        rw [ew, Int.zero_add]
        exact IsW.new hq5) (szBig (by omega))
      exact ⟨acc, b1, b2, b3, (Tk.write b1 True.intro).sq (t6.sq sT)⟩
    · have e : j = n := by omega
      subst e
      refine .inl ⟨Nat.le_refl _, ?_⟩
      obtain ⟨a1, ys, a2, a3, a4⟩ := p2
      refine q _ D ys a1 a2 (Paired.ofIx (by rw [a3, allW_len]) fun k y hk => ⟨wAt k, allW_get ?_, a4 k y hk⟩)
      rw [← a3]
      exact (List.getElem?_eq_some_iff.mp hk).1
/-! ### are_halves, halves_of, are_kept_by -/
abbrev sAreHalves : Stmt := topS 32
def spAreHalves (K : PySem.W.Frag) (C : Addr) : Sp := fun vs H Q _ => ∃ (v z : V) (n : Nat) (told : List Rl) (hs : List Int), vs = [v, z] ∧ IsRs K C H v n told ∧ IsTi K H z hs ∧ Half n hs ∧ n ≤ 8 ∧ ∀ H', Same H H' → Q (.bl true) H'
theorem scAreHalves : FnScope ["rules", "value", "one"] ["rules", "value"] (defScope sAreHalves) := ⟨rfl, rfl, rfl, by decide +kernel, rfl, by decide +kernel, by decide +kernel⟩
theorem cAreHalves (B : Bl mg) (L : ClR K mg C) (c1 : Cal P w K mg base 1 "is_from" ["value", "low", "high"] spIsFrom) (A : At K mg "are_halves" "are_halves" sAreHalves ["rules", "value"]) : Cal P w K mg base 2 "are_halves" ["rules", "value"] (spAreHalves K C) := by
  refine A.cal scAreHalves (fun vs H Q E h => ?_) (fun f cdv A outer s H vs Q E hr h => ?_)
  · obtain ⟨v, z, n, told, hs, rfl, _⟩ := h
    rfl
  · obtain ⟨v, z, n, told, hs, rfl, ⟨a, dx, t, rfl, ha, ht⟩, ⟨b, rfl, sb⟩, ⟨hl, hb⟩, hn8, q⟩ := h
    refine ⟨_, pss_one (ps_ret (pe_and (x_isT B (pv 1)) (pe_and (pe_cmpR op_eq (x_len B (pv 1)) (pe_fld (pv 0) rfl) (nomark _))
      (pe_one (x_all B (pe_lc (own := [("one", 2)]) (g := gName 2) (tt := tYes) (by rfl) scAreHalves.nd (pi_tup (pv 1)) (blkOk_by (own := [("one", 2)]) (N := ["rules", "value", "one"]) (sc := defScope sAreHalves) (by decide +kernel))
          (fun _ _ _ _ _ => pg_name (i := 2) scAreHalves.nd rfl (Or.inl rfl)) (fun _ _ _ _ _ => pts_nil) (fun _ _ _ _ _ => pe_cl c1 hr (by rfl) (pa_cons (pv 2) (pa_cons pe_int (pa_cons pe_int pa_nil)))))))))), ?_⟩
    refine ⟨_, rfl, b, _, rfl, sb, true, rfl, iteT ?_⟩
    refine ⟨_, rfl, b, _, rfl, .inr sb, _, rfl, a, C, dx, _, _, rfl, ha, L.cl, L.nW, rf_wide n t, rfl, _, rfl, ?_⟩
    have e1 : decide (V.int ((hs.map V.int).length : Nat) = V.int (n : Nat)) = true := by rw [List.length_map, hl, decide_eq_true rfl]
    rw [e1]
    refine iteT ?_
    refine ⟨_, rfl, b, rfl, ⟨_, sb⟩, fun D hD => ?_⟩
    refine lc_it (walk_tup (K := K) (a := b) (xs := hs.map V.int)) (PvAll allT H D) (PvAll.zero hD) (fun i H' _ p => (tkS p.1).sq sb) ?_ ?_
    · rintro i x H2 H3 hi p2 ⟨rfl, hx⟩
      obtain ⟨z, hz, rfl⟩ := map_int_get hx
      have bz := hb z (List.mem_of_getElem? hz)
      have hi8 : i < 8 := by rw [List.length_map, hl] at hi; omega
      exact ⟨rfl, _, rfl, z, 0, 2, rfl, bz.1, bz.2, PvAll.next allT_by hD p2 (Same.refl _) rfl (szBig (by omega))⟩
    · rintro H2 ⟨s2, ys, e, hyl, hy⟩
      refine ⟨D, _, rfl, SqL.of (by rw [e, allT_rep hy]), ?_⟩
      rw [all_rep]
      exact q _ s2
abbrev sHalvesOf : Stmt := topS 33
def spHalvesOf (K : PySem.W.Frag) : Sp := fun vs H Q _ => ∃ (z x : V) (hs : List Int) (u : Wt), vs = [z, x] ∧ IsTi K H z hs ∧ IsW K H x u ∧ OkW hs.length u ∧ Q (.int (hv hs u)) H
theorem scHalvesOf : FnScope ["halves", "want"] ["halves", "want"] (defScope sHalvesOf) := ⟨rfl, rfl, rfl, by decide +kernel, rfl, by decide +kernel, by decide +kernel⟩
theorem cHalvesOf (A : At K mg "halves_of" "halves_of" sHalvesOf ["halves", "want"]) : Cal P w K mg base 1 "halves_of" ["halves", "want"] (spHalvesOf K) := by
  refine A.cal scHalvesOf (fun vs H Q E h => ?_) (fun f cdv A outer s H vs Q E hr h => ?_)
  · obtain ⟨z, x, hs, u, rfl, _⟩ := h
    rfl
  · obtain ⟨z, x, hs, u, rfl, ⟨a, rfl, sa⟩, ⟨b, rfl, sb⟩, ok, q⟩ := h
    refine ⟨_, pss_one (ps_ret (pe_ifExp (pt_cmpR op_eq (x_ix (pv 1) pe_int) pe_int (nomark _)) (x_ix (pv 0) (x_ix (pv 1) pe_int)) (pe_op op_sub pe_int (x_ix (pv 0) (x_ix (pv 1) pe_int))))), ?_⟩
    refine ⟨_, rfl, b, _, _, _, rfl, rfl, sb, rfl, rfl, _, rfl, ?_⟩
    rw [dec_int]
    unfold hv at q
    refine ite2 (fun h => ?_) (fun h => ?_)
    · rw [if_pos (of_decide_eq_true h)] at q
      exact ⟨_, rfl, _, rfl, b, _, _, _, rfl, rfl, sb, rfl, a, _, _, _, rfl, rfl, sa, atI_getD ok.1 ok.2.1, q⟩
    · rw [if_neg (fun e => h (decide_eq_true e))] at q
      exact ⟨_, rfl, _, rfl, b, _, _, _, rfl, rfl, sb, rfl, a, _, _, _, rfl, rfl, sa, atI_getD ok.1 ok.2.1, _, _, rfl, rfl, q⟩
abbrev sAreKeptBy : Stmt := topS 34
def spAreKeptBy (K : PySem.W.Frag) : Sp := fun vs H Q _ => ∃ (t z : V) (told : List Rl) (hs : List Int), vs = [t, z] ∧ IsTl K H t told ∧ IsTi K H z hs ∧ told.length ≤ 1000 ∧ (∀ r ∈ told, OkW hs.length r.1 ∧ OkW hs.length r.2) ∧ ∀ H', Same H H' → Q (.bl (told.all (keptHb hs))) H'
theorem scAreKeptBy : FnScope ["told", "halves", "one", "other"] ["told", "halves"] (defScope sAreKeptBy) := ⟨rfl, rfl, rfl, by decide +kernel, rfl, by decide +kernel, by decide +kernel⟩
theorem bools_list {ys : List V} {ms : List Bool} (hl : ys.length = ms.length) (h : ∀ (k : Nat) y, ys[k]? = some y → ∃ m, ms[k]? = some m ∧ y = V.bl m) : ys = ms.map V.bl := by
  refine List.ext_getElem? fun k => ?_
  rw [List.getElem?_map]
  cases hk : ys[k]? with
  | none =>
    have : ms[k]? = none := List.getElem?_eq_none_iff.mpr (by rw [← hl]; exact List.getElem?_eq_none_iff.mp hk)
    rw [this]; rfl
  | some y =>
    obtain ⟨m, hm, e⟩ := h k y hk
    rw [hm, e]; rfl
theorem cAreKeptBy (B : Bl mg) (c : Cal P w K mg base 1 "halves_of" ["halves", "want"] (spHalvesOf K)) (A : At K mg "are_kept_by" "are_kept_by" sAreKeptBy ["told", "halves"]) : Cal P w K mg base 2 "are_kept_by" ["told", "halves"] (spAreKeptBy K) := by
  refine A.cal scAreKeptBy (fun vs H Q E h => ?_) (fun f cdv A outer s H vs Q E hr h => ?_)
  · obtain ⟨t, z, told, hs, rfl, _⟩ := h
    rfl
  · obtain ⟨t, z, told, hs, rfl, ⟨a, xs, rfl, sa, pr⟩, hz, hl, ok, q⟩ := h
    have hlen : xs.length = told.length := Paired.len pr
    refine ⟨_, pss_one (ps_ret (x_all B (pe_lc (own := [("one", 2), ("other", 3)]) (g := gTup K 2 (gCons (gName 2) (gCons (gName 3) gNil))) (tt := tYes) (by rfl) scAreKeptBy.nd (pi_tup (pv 0)) (blkOk_by (own := [("one", 2), ("other", 3)]) (N := ["told", "halves", "one", "other"]) (sc := defScope sAreKeptBy) (by decide +kernel))
          (fun _ _ _ _ _ => pg_tup rfl (pgs_cons (pg_name (i := 2) scAreKeptBy.nd rfl (Or.inl rfl)) (pgs_cons (pg_name (i := 3) scAreKeptBy.nd rfl (Or.inl rfl)) pgs_nil))) (fun _ _ _ _ _ => pts_nil)
          (fun _ _ _ _ _ => pe_cmpR op_ge (pe_op op_add (pe_cl c hr (by rfl) (pa_cons (pv 1) (pa_cons (pv 2) pa_nil))) (pe_cl c hr (by rfl) (pa_cons (pv 1) (pa_cons (pv 3) pa_nil)))) pe_int (nomark _))))), ?_⟩
    refine ⟨_, rfl, a, rfl, ⟨_, sa⟩, fun D hD => ?_⟩
    let F : Nat → V → Hp → Prop := fun i y _ => ∃ m, (told.map (keptHb hs))[i]? = some m ∧ y = V.bl m
    have kf : ByT F := fun _ _ _ _ _ h => h
    refine lc_it (walk_tup (K := K) (a := a) (xs := xs)) (PvAll F H D) (PvAll.zero hD) (fun i H' _ p => (tkS p.1).sq sa) ?_ ?_
    · rintro i x H2 H3 hi p2 ⟨rfl, hx⟩
      obtain ⟨r, hr', ir0⟩ := Paired.at1 pr hx
      obtain ⟨b, x1, x2, rfl, sb, h1, h2⟩ := (ir0.1).tk (tkS p2.1)
      have om := ok r (List.mem_of_getElem? hr')
      refine ⟨b, _, rfl, sb, rfl, _, _, rfl, _, _, rfl, rfl, rfl, ?_⟩
      refine ⟨_, rfl, _, rfl, z, x1, hs, r.1, rfl, hz.tk (tkS p2.1), h1, om.1, _, rfl, _, rfl, z, x2, hs, r.2, rfl, hz.tk (tkS p2.1), h2, om.2, _, _, rfl, rfl, _, _, rfl, rfl, ?_⟩
      exact PvAll.next kf hD p2 (Same.refl _) ⟨keptHb hs r, by rw [List.getElem?_map, hr']; rfl, rfl⟩ (szBig (by omega))
    · rintro H2 ⟨s2, ys, e, hyl, hy⟩
      have ey : ys = (told.map (keptHb hs)).map V.bl := bools_list (by rw [hyl, hlen, List.length_map]) hy
      refine ⟨D, _, rfl, SqL.of (by rw [e, ey]), ?_⟩
      have ea : (told.map (keptHb hs)).all id = told.all (keptHb hs) := by rw [List.all_map]; rfl
      rw [ea]
      exact q _ s2
/-! ### are_payments, gets, bound_of, payment_bound -/
def Paid (told : List Rl) (ys : List Int) : Prop := ys.length = told.length ∧ ∀ y ∈ ys, 0 ≤ y ∧ y ≤ 1000
abbrev sArePay : Stmt := topS 35
def spArePay (K : PySem.W.Frag) (C : Addr) : Sp := fun vs H Q _ => ∃ (v z : V) (n : Nat) (told : List Rl) (ys : List Int), vs = [v, z] ∧ IsRs K C H v n told ∧ IsTi K H z ys ∧ Paid told ys ∧ told.length ≤ 1000 ∧ ∀ H', Same H H' → Q (.bl true) H'
theorem scArePay : FnScope ["rules", "value", "one"] ["rules", "value"] (defScope sArePay) := ⟨rfl, rfl, rfl, by decide +kernel, rfl, by decide +kernel, by decide +kernel⟩
theorem cArePay (B : Bl mg) (L : ClR K mg C) (c1 : Cal P w K mg base 1 "is_from" ["value", "low", "high"] spIsFrom) (A : At K mg "are_payments" "are_payments" sArePay ["rules", "value"]) : Cal P w K mg base 2 "are_payments" ["rules", "value"] (spArePay K C) := by
  refine A.cal scArePay (fun vs H Q E h => ?_) (fun f cdv A outer s H vs Q E hr h => ?_)
  · obtain ⟨v, z, n, told, ys, rfl, _⟩ := h
    rfl
  · obtain ⟨v, z, n, told, ys, rfl, ⟨a, dx, t, rfl, ha, ⟨ta, tx, rfl, st, pt⟩⟩, ⟨b, rfl, sb⟩, ⟨hl, hb⟩, hz, q⟩ := h
    obtain ⟨tk, mk⟩ := B.c1000
    refine ⟨_, pss_cons (ps_if (PW.pt (pw_or (pt_not (pt_val (x_isT B (pv 1)))) (pw_or1 (pt_cmpR op_ne (x_len B (pv 1)) (x_len B (pe_fld (pv 0) rfl)) (nomark _))))) pss_never pss_nil)
      (pss_one (ps_ret (x_all B (pe_lc (own := [("one", 2)]) (g := gName 2) (tt := tYes) (te := tCall spIsFrom [] E0 (tCons (tVar 2) (tCons (tC (.int 0)) (tCons (tC (.int 1000)) tNil)))) (by rfl) scArePay.nd (pi_tup (pv 1)) (blkOk_by (own := [("one", 2)]) (N := ["rules", "value", "one"]) (sc := defScope sArePay) (by decide +kernel))
          (fun _ _ _ _ _ => pg_name (i := 2) scArePay.nd rfl (Or.inl rfl)) (fun _ _ _ _ _ => pts_nil) (fun _ _ _ _ _ => pe_cl c1 hr (by rfl) (pa_cons (pv 2) (pa_cons pe_int (pa_cons (pe_glob (v := .int 1000) (by rfl) mk ⟨tk, rfl⟩) pa_nil)))))))), ?_⟩
    refine ⟨_, rfl, b, _, rfl, sb, true, rfl, iteF ?_⟩
    refine ⟨_, rfl, b, _, rfl, .inr sb, _, rfl, a, C, dx, _, _, rfl, ha, L.cl, L.nT, rf_told n _, ta, tx, rfl, .inr st, rfl, _, rfl, ?_⟩
    have e1 : (!decide (V.int ((ys.map V.int).length : Nat) = V.int (tx.length : Nat))) = false := by rw [List.length_map, hl, Paired.len pt, decide_eq_true rfl]; rfl
    rw [e1]
    refine iteF ?_
    refine ⟨_, rfl, b, rfl, ⟨_, sb⟩, fun D hD => ?_⟩
    refine lc_it (walk_tup (K := K) (a := b) (xs := ys.map V.int)) (PvAll allT H D) (PvAll.zero hD) (fun i H' _ p => (tkS p.1).sq sb) ?_ ?_
    · rintro i x H2 H3 hi p2 ⟨rfl, hx⟩
      obtain ⟨y, hy, rfl⟩ := map_int_get hx
      have bz := hb y (List.mem_of_getElem? hy)
      have hi8 : i < 1000 := by rw [List.length_map, hl] at hi; omega
      exact ⟨rfl, _, rfl, y, 0, 1000, rfl, bz.1, bz.2, PvAll.next allT_by hD p2 (Same.refl _) rfl (szBig (by omega))⟩
    · rintro H2 ⟨s2, zs, e, hyl, hy⟩
      refine ⟨D, _, rfl, SqL.of (by rw [e, allT_rep hy]), ?_⟩
      rw [all_rep]
      exact q _ s2
abbrev sGets : Stmt := topS 36
def spGets (K : PySem.W.Frag) (C : Addr) : Sp := fun vs H Q _ => ∃ (v z x : V) (n : Nat) (told : List Rl) (ys : List Int) (u : Wt), vs = [v, z, x] ∧ IsRs K C H v n told ∧ IsTi K H z ys ∧ Paid told ys ∧ told.length ≤ 1000 ∧ IsW K H x u ∧ ∀ H', Same H H' → Q (.int (gets told ys u)) H'
theorem scGets : FnScope ["rules", "payments", "want", "rule", "many"] ["rules", "payments", "want"] (defScope sGets) := ⟨rfl, rfl, rfl, by decide +kernel, rfl, by decide +kernel, by decide +kernel⟩
theorem cGets (B : Bl mg) (L : ClR K mg C) (A : At K mg "gets" "gets" sGets ["rules", "payments", "want"]) : Cal P w K mg base 1 "gets" ["rules", "payments", "want"] (spGets K C) := by
  refine A.cal scGets (fun vs H Q E h => ?_) (fun f cdv A outer s H vs Q E hr h => ?_)
  · obtain ⟨v, z, x, n, told, ys, u, rfl, _⟩ := h
    rfl
  · obtain ⟨v, z, x, n, told, ys, u, rfl, ⟨a, dx, t, rfl, ha, ⟨ta, tx, rfl, st, pt⟩⟩, ⟨b, rfl, sb⟩, ⟨hl, hb⟩, hz, hx, q⟩ := h
    refine ⟨_, pss_one (ps_ret (x_sum B (pe_lc (own := [("rule", 3), ("many", 4)]) (g := gTup K 2 (gCons (gName 3) (gCons (gName 4) gNil))) (tt := tYes) (te := tOp (rI CMul fun i j => .int (i * j)) (tVar 4) (tCnt K (tVar 3) (tCons (tVar 2) tNil))) (by rfl) scGets.nd (RZ.pi_zipA (by rfl) B.zip (pa_cons (pe_fld (pv 0) rfl) (pa_cons (pv 1) pa_nil)))
      (blkOk_by (own := [("rule", 3), ("many", 4)]) (N := ["rules", "payments", "want", "rule", "many"]) (sc := defScope sGets) (by decide +kernel))
      (fun _ _ _ _ _ => pg_tup rfl (pgs_cons (pg_name (i := 3) scGets.nd rfl (Or.inl rfl)) (pgs_cons (pg_name (i := 4) scGets.nd rfl (Or.inl rfl)) pgs_nil))) (fun _ _ _ _ _ => pts_nil)
      (fun _ _ _ _ _ => pe_op op_mul (pv 4) (pe_tcount (pv 3) (pa_cons (pv 2) pa_nil) (hu100 hr)))))), ?_⟩
    refine ⟨_, rfl, a, C, dx, _, _, rfl, ha, L.cl, L.nT, rf_told n _, _, rfl, ta, b, _, _, rfl, .inr ⟨st, sb, fun D hD => ?_⟩⟩
    let F : Nat → V → Hp → Prop := fun i y _ => ∃ m, (List.zipWith (fun r y => y * cnt r u) told ys)[i]? = some m ∧ y = V.int m
    have kf : ByT F := fun _ _ _ _ _ h => h
    have tl := Paired.len pt
    have zl : (List.zipWith (fun r y => y * cnt r u) told ys).length = told.length := by rw [List.length_zipWith, hl]; omega
    refine lc_it (walk_zipT (K := K) (a := ta) (b := b) (xs := tx) (ys := ys.map V.int) (n := told.length) tl (by rw [List.length_map, hl])) (PvAll F H D) (PvAll.zero hD) (fun i H' _ p => ⟨(tkS p.1).sq st, (tkS p.1).sq sb⟩) ?_ ?_
    · rintro i p H2 H3 hi p2 ⟨T, y, z, rfl, hT, rfl, hy, hz'⟩
      obtain ⟨r, hr', ir⟩ := Paired.at1 pt hy
      obtain ⟨d, hd, rfl⟩ := map_int_get hz'
      have bd := hb d (List.mem_of_getElem? hd)
      have tk := (tkS p2.1).trans (Tk.new (o := .tup [y, .int d]) hT)
      refine ⟨T, _, rfl, SqT.of upd_same, rfl, _, _, rfl, _, _, rfl, rfl, rfl, ?_⟩
      refine ⟨_, rfl, _, rfl, ⟨r, ir.tk tk⟩, _, rfl, r, x, u, rfl, ir.tk tk, hx.tk tk, _, _, rfl, rfl, .inl ⟨by omega, by omega⟩, ?_⟩
      exact PvAll.next kf hD p2 (samePut hT) ⟨d * cnt r u, by rw [List.getElem?_zipWith, hr', hd], rfl⟩ (szBig (by omega))
    · rintro H2 ⟨s2, zs, e, hyl, hy⟩
      exact ⟨D, List.zipWith (fun r y => y * cnt r u) told ys, rfl, SqL.of (by rw [e, ints_list (by rw [hyl, zl]) hy]), q _ s2⟩
abbrev sBoundOf : Stmt := topS 37
def spBoundOf (K : PySem.W.Frag) (C : Addr) : Sp := fun vs H Q _ => ∃ (v p z : V) (n : Nat) (told : List Rl) (ps ys : List Int), vs = [v, p, z] ∧ IsRs K C H v n told ∧ IsTi K H p ps ∧ Priced n ps ∧ IsTi K H z ys ∧ Paid told ys ∧ told.length ≤ 1000 ∧ ∀ H', Same H H' → Q (.int (bound ps told ys)) H'
theorem scBoundOf : FnScope ["rules", "prices", "payments", "found", "place", "price"] ["rules", "prices", "payments"] (defScope sBoundOf) := ⟨rfl, rfl, rfl, by decide +kernel, rfl, by decide +kernel, by decide +kernel⟩
theorem cBoundOf (B : Bl mg) (c : Cal P w K mg base 1 "gets" ["rules", "payments", "want"] (spGets K C)) (A : At K mg "bound_of" "bound_of" sBoundOf ["rules", "prices", "payments"]) : Cal P w K mg base 2 "bound_of" ["rules", "prices", "payments"] (spBoundOf K C) := by
  refine A.cal scBoundOf (fun vs H Q E h => ?_) (fun f cdv A outer s H vs Q E hr h => ?_)
  · obtain ⟨v, p, z, n, told, ps, ys, rfl, _⟩ := h
    rfl
  · obtain ⟨v, p, z, n, told, ps, ys, rfl, hv, ⟨a, rfl, sa⟩, ⟨hpl, hpb⟩, ⟨b, rfl, sb⟩, hpd, hz, q⟩ := h
    refine ⟨_, pss_cons (ps_set (i := 3) scBoundOf.nd rfl (Or.inl rfl) (x_sum B (pe_callTy call_list_of (by rfl) B.list boot_ty_list (pa_cons (pv 2) pa_nil))))
      (pss_cons (ps_for PassesOwn.never rfl (pi_enumT (by rfl) B.enum (pa_cons (pv 1) pa_nil)) (pg_tup rfl (pgs_cons (pg_name (i := 4) scBoundOf.nd rfl (Or.inl rfl)) (pgs_cons (pg_name (i := 5) scBoundOf.nd rfl (Or.inl rfl)) pgs_nil)))
        (pss_one (ps_aug (i := 3) scBoundOf.nd rfl (Or.inl rfl) (pe_callB (call_max2 rfl) (by rfl) B.max boot_max (pa_cons (pe_cl c hr (by rfl) (pa_cons (pv 0) (pa_cons (pv 2) (pa_cons (pe_tup (pa_cons (pv 4) (pa_cons pe_int pa_nil))) pa_nil))))
          (pa_cons (pe_op op_sub (pe_cl c hr (by rfl) (pa_cons (pv 0) (pa_cons (pv 2) (pa_cons (pe_tup (pa_cons (pv 4) (pa_cons pe_int pa_nil))) pa_nil)))) (pe_op op_mul pe_int (pv 5))) pa_nil))) ip_sub)))
      (pss_one (ps_ret (pv 3)))), ?_⟩
    refine ⟨_, rfl, b, _, rfl, .inr sb, fun l hl => ⟨l, ys, rfl, SqL.of upd_same, ?_⟩⟩
    have s0 := samePut (o := .lst (ys.map V.int)) hl
    refine ⟨_, rfl, a, _, rfl, (tkS s0).sq sa, for_enumT (K := K) (a := a) (xs := ps.map V.int) (fun i σ H' => Same H H' ∧ ∃ u v', σ = [some v, some (.ref a), some (.ref b), some (.int (ys.sum - sumN i (bterm ps told ys))), u, v'])
      ⟨s0, none, none, by rw [show sumN 0 (bterm ps told ys) = 0 from rfl, Int.sub_zero]; rfl⟩ (fun i σ H' p => (tkS p.1).sq sa) ?_ ?_⟩
    · rintro i x T σ H' hx ⟨s1, u, v', rfl⟩ hT
      obtain ⟨d, hd, rfl⟩ := map_int_get hx
      have bd := hpb d (List.mem_of_getElem? hd)
      have s2 := s1.trans (samePut (o := .tup [.int (i : Nat), .int d]) hT)
      refine ⟨T, _, rfl, SqT.of upd_same, rfl, _, _, rfl, _, _, rfl, rfl, ?_⟩
      generalize upd H' T (.tup [.int (i : Nat), .int d]) = H2 at s2 ⊢
      refine ⟨_, rfl, _, rfl, _, rfl, _, rfl, by show 2 ≤ sizeLine; decide, fun w1 hw1 => ?_⟩
      have s3 := s2.trans (samePut (o := .tup [.int (i : Nat), .int 0]) hw1)
      refine ⟨v, .ref b, .ref w1, n, told, ys, ((i : Nat), 0), rfl, hv.same s3, ⟨b, rfl, (tkS s3).sq sb⟩, hpd, hz, IsW.new hw1, fun H3 s4 => ?_⟩
      have s5 := s3.trans s4
      refine ⟨_, rfl, _, rfl, _, rfl, by show 2 ≤ sizeLine; decide, fun w2 hw2 => ?_⟩
      have s6 := s5.trans (samePut (o := .tup [.int (i : Nat), .int 1]) hw2)
      refine ⟨v, .ref b, .ref w2, n, told, ys, ((i : Nat), 1), rfl, hv.same s6, ⟨b, rfl, (tkS s6).sq sb⟩, hpd, hz, IsW.new hw2, fun H4 s7 => ?_⟩
      have s8 := s6.trans s7
      refine ⟨_, rfl, _, _, rfl, rfl, .inl ⟨by decide, by decide⟩, _, _, rfl, rfl, _, _, rfl, _, _, rfl, rfl, s8, some (.int (i : Nat)), some (.int d), ?_⟩
      have ed : ps.getD i 0 = d := by rw [List.getD_eq_getElem?_getD, hd]; rfl
      have eb : bterm ps told ys i = (if gets told ys ((i : Nat), 1) - 2 * d > gets told ys ((i : Nat), 0) then gets told ys ((i : Nat), 1) - 2 * d else gets told ys ((i : Nat), 0)) := by
        unfold bterm mx
        rw [ed]
      have es : ys.sum - sumN (i + 1) (bterm ps told ys) = ys.sum - sumN i (bterm ps told ys) - bterm ps told ys i := by
        show ys.sum - (sumN i (bterm ps told ys) + bterm ps told ys i) = _
        omega
      rw [es, eb]
      rfl
    · rintro σ H' ⟨s1, u, v', rfl⟩
      refine ⟨_, rfl, ?_⟩
      have e : ys.sum - sumN (ps.map V.int).length (bterm ps told ys) = bound ps told ys := by
        unfold bound
        rw [List.length_map]
      rw [e]
      exact q _ s1
abbrev sPayBound : Stmt := topS 38
theorem scPayBound : FnScope ["rules", "prices", "payments"] ["rules", "prices", "payments"] (defScope sPayBound) := ⟨rfl, rfl, rfl, by decide +kernel, rfl, by decide +kernel, by decide +kernel⟩
def spPayBound (K : PySem.W.Frag) (C : Addr) : Sp := fun vs H Q _ => ∃ (v p z : V) (n : Nat) (told : List Rl) (ps ys : List Int), vs = [v, p, z] ∧ IsRs K C H v n told ∧ IsTi K H p ps ∧ Priced n ps ∧ n ≤ 8 ∧ IsTi K H z ys ∧ Paid told ys ∧ told.length ≤ 1000 ∧ ∀ H', Same H H' → Q (.int (bound ps told ys)) H'
theorem cPayBound (c1 : Cal P w K mg base 2 "need_prices" ["rules", "prices"] (spNeedP K C)) (c2 : Cal P w K mg base 2 "are_payments" ["rules", "value"] (spArePay K C)) (c3 : Cal P w K mg base 2 "bound_of" ["rules", "prices", "payments"] (spBoundOf K C)) (A : At K mg "payment_bound" "payment_bound" sPayBound ["rules", "prices", "payments"]) :
    Cal P w K mg base 3 "payment_bound" ["rules", "prices", "payments"] (spPayBound K C) := by
  refine A.cal scPayBound (fun vs H Q E h => ?_) (fun f cdv A outer s H vs Q E hr h => ?_)
  · obtain ⟨v, p, z, n, told, ps, ys, rfl, _⟩ := h
    rfl
  · obtain ⟨v, p, z, n, told, ps, ys, rfl, hv, hp, pr, hn8, hy, hpd, hz, q⟩ := h
    refine ⟨_, pss_cons (ps_expr (pe_cl c1 hr (by rfl) (pa_cons (pv 0) (pa_cons (pv 1) pa_nil))))
      (pss_cons (ps_if (pt_not (pt_val (pe_cl c2 hr (by rfl) (pa_cons (pv 0) (pa_cons (pv 2) pa_nil))))) pss_never pss_nil)
      (pss_one (ps_ret (pe_cl c3 hr (by rfl) (pa_cons (pv 0) (pa_cons (pv 1) (pa_cons (pv 2) pa_nil))))))), ?_⟩
    refine ⟨_, rfl, _, rfl, v, p, n, told, ps, rfl, hv, hp, pr, hn8, fun H1 s1 => ?_⟩
    refine ⟨_, rfl, _, rfl, v, z, n, told, ys, rfl, hv.same s1, hy.tk (tkS s1), hpd, hz, fun H2 s2 => ⟨true, rfl, iteF ?_⟩⟩
    have s3 := s1.trans s2
    exact ⟨_, rfl, _, rfl, _, rfl, v, p, z, n, told, ps, ys, rfl, hv.same s3, hp.tk (tkS s3), pr, hy.tk (tkS s3), hpd, hz, fun H3 s4 => q _ (s3.trans s4)⟩
end
end K74

set_option Elab.async false
set_option linter.all false
set_option maxRecDepth 100000
set_option maxHeartbeats 4000000
namespace K74
open PySem PySem.Spec PyProof.Rows L2
/-! ### sorted of whatever is collected -/
theorem sorted_gen {prog : Program} {w : World} {A : Around} {E : Value → Shared → Prop} {s : Shared} {arg : Value} {Q : Value → Shared → Prop} {ltv : Value → Value → Bool} (O : SrtO.Swo ltv) (G : List Value → Shared → Prop)
    (hc : ∀ R : List Value → Shared → Prop, (∀ acc s1, G acc s1 → R acc s1) → wpAny (model prog w) A.in1 (collect arg) R E s) (hz : ∀ acc s1, G acc s1 → acc.length ≤ sizeLine)
    (hS : ∀ acc s1, G acc s1 → 2 ≤ acc.length → ∀ (h₁ : Heap) (a : Addr), h₁.get? a = some (seqObj "list" acc.toArray 0) → (∀ b o, s1.heap.get? b = some o → b ≠ a ∧ h₁.get? b = some o) → SrtO.SortableO prog w A.in1.in1 { s1 with heap := h₁ } a acc ltv)
    (k : ∀ acc s1 out h' d n, G acc s1 → SrtO.Srtd ltv out → SrtO.Stb ltv out acc → (∀ b o, s1.heap.get? b = some o → h'.get? b = some o) → s1.heap.objs.size ≤ d → h'.get? d = some (seqObj "list" out.toArray n) → Q (.ref d) { s1 with heap := h' }) :
    wpAny (model prog w) A (call (.builtin "sorted") [arg]) Q E s := by
  refine Calls.call_function_entry kind_sorted plain_sorted entry_sorted (args_sorted1 _) ?_
  unfold Builtin.«sorted»
  refine wpAny_bind (m := checkCount "sorted" 1 1 _) (wpAny_pure ?_)
  refine wpAny_bind (hc _ fun acc s1 g => ?_)
  refine wpAny_bind (wpAny_newList ?_ (hz acc s1 g))
  have hL : (s1.heap.push (seqObj "list" acc.toArray 0)).get? s1.heap.objs.size = some (seqObj "list" acc.toArray 0) := Heap.get?_push_size _ rfl
  have kp : ∀ b o, s1.heap.get? b = some o → b ≠ s1.heap.objs.size ∧ (s1.heap.push (seqObj "list" acc.toArray 0)).get? b = some o := fun b o q => ⟨Nat.ne_of_lt (Heap.lt_size q), Heap.get?_push_of_some _ q⟩
  refine wpAny_bind (wpAny_holding (wpAny_call_entry slot_list_sort ⟨_, hL, rfl⟩ entry_list_sort (SrtO.list_sort_ord (s := { s1 with heap := s1.heap.push (seqObj "list" acc.toArray 0) }) O hL (hz acc s1 g) (fun h2 => hS acc s1 g h2 _ _ hL kp) fun out a1 a2 => ⟨_, rfl, ?_⟩) (args_list_sort _)))
  obtain ⟨n, hn⟩ := sortedHeap_at (vs := acc) (out := out.toArray) hL
  refine wpAny_pure ⟨_, rfl, k acc s1 out _ s1.heap.objs.size n g a1 a2 (fun b o q => ?_) (Nat.le_refl _) hn⟩
  have hb := Heap.lt_size q
  show (sortedHeap (s1.heap.push (seqObj "list" acc.toArray 0)) s1.heap.objs.size acc out.toArray).get? b = some o
  rw [sortedHeap_old (Nat.ne_of_lt hb) (by rw [size_push']; exact Nat.lt_succ_of_lt hb)]
  exact Heap.get?_push_of_some _ q
/-! ### kinds of tuples that are sorted -/
structure KT (α : Type) where
  Is : PySem.W.Frag → Hp → Addr → α → Prop
  At : Heap → Addr → α → Prop
  lt : α → α → Bool
  kind : SortKind
  tk : ∀ {K : PySem.W.Frag} {H H' : Hp} {p : Addr} {a : α}, Is K H p a → Tk H H' → Is K H' p a
  at_ : ∀ {X : Cx} {pins : List (Addr × Obj)} {σ : L2.St} {H : Hp} {s : Shared} {p : Addr} {a : α}, Inv X pins σ H s → Is X.K H p a → At s.heap p a
  keep : ∀ {h h' : Heap} {p : Addr} {a : α}, At h p a → (∀ b o, h.get? b = some o → o.cls = .type "tuple" → h'.get? b = some o) → At h' p a
  fn : ∀ {h : Heap} {p : Addr} {a b : α}, At h p a → At h p b → a = b
  swo : SrtO.Swo lt
  kinds : ∀ {M : Model} {A : Around} {s : Shared} {vs : List Value} {Q : SortKind → Shared → Prop} {E : Value → Shared → Prop}, (∀ v ∈ vs, ∃ p a, v = Value.ref p ∧ At s.heap p a) → 0 < vs.length → Q kind s → wpAny M A (keyKind' vs.toArray) Q E s
  cmp : ∀ {prog : Program} {w : World} {A : Around} {s : Shared} {p q : Addr} {a b : α}, At s.heap p a → At s.heap q b → A.units + 8 < cLine → wpAny (model prog w) A (keyLt' kind (.ref p) (.ref q)) (fun r s' => s' = s ∧ r = lt a b) (fun _ _ => False) s
section
variable {α : Type} (T : KT α) (dflt : α)
/-- which datum a value bears, of a list of such -/
def KT.of (L : List (Addr × α)) (v : Value) : α := match v with
  | .ref p => ((L.find? fun e => decide (e.1 = p)).map (·.2)).getD dflt
  | _ => dflt
theorem KT.of_eq {h : Heap} {L : List (Addr × α)} (hL : ∀ e ∈ L, T.At h e.1 e.2) {e : Addr × α} (he : e ∈ L) : KT.of dflt L (.ref e.1) = e.2 := by
  show ((L.find? fun z => decide (z.1 = e.1)).map (·.2)).getD dflt = e.2
  cases q : L.find? fun z => decide (z.1 = e.1) with
  | none =>
    have := List.find?_eq_none.mp q e he
    simp at this
  | some z =>
    have hz := List.mem_of_find?_eq_some q
    have e1 : z.1 = e.1 := by
      have := List.find?_some q
      simpa using this
    have a1 := hL z hz
    rw [e1] at a1
    show z.2 = e.2
    exact T.fn a1 (hL e he)
theorem KT.sortable {prog : Program} {w : World} {A : Around} {s : Shared} {a : Addr} {L : List (Addr × α)} (hL : ∀ e ∈ L, T.At s.heap e.1 e.2) (h0 : 0 < L.length) (ha : ∀ o, s.heap.get? a = some o → o.cls ≠ .type "tuple") (hu : A.units + 8 < cLine) :
    SrtO.SortableO prog w A s a (L.map fun e => Value.ref e.1) fun v u => T.lt (KT.of dflt L v) (KT.of dflt L u) := by
  intro h' kp
  have hL' : ∀ e ∈ L, T.At h' e.1 e.2 := fun e he => T.keep (hL e he) fun b o q hc => kp b o (fun z => by subst z; exact ha o q hc) q
  refine ⟨T.kind, fun Q E hq => T.kinds (s := { s with heap := h' }) (fun v hv => ?_) (by rw [List.length_map]; exact h0) hq, fun p q hp hq => ?_⟩
  · obtain ⟨e, he, rfl⟩ := List.mem_map.mp hv
    exact ⟨e.1, e.2, rfl, hL' e he⟩
  · obtain ⟨e, he, e1⟩ := List.mem_map.mp hp
    obtain ⟨g, hg, g1⟩ := List.mem_map.mp hq
    show wpAny (model prog w) A (keyLt' T.kind p.1 q.1) (fun r s' => s' = { s with heap := h' } ∧ r = T.lt (KT.of dflt L p.1) (KT.of dflt L q.1)) (fun _ _ => False) { s with heap := h' }
    rw [← e1, ← g1, KT.of_eq T dflt hL he, KT.of_eq T dflt hL hg]
    exact T.cmp (s := { s with heap := h' }) (hL' e he) (hL' g hg) hu
theorem KT.swo_of (L : List (Addr × α)) : SrtO.Swo fun v u => T.lt (KT.of dflt L v) (KT.of dflt L u) := ⟨fun x y => T.swo.asym _ _, fun x y z => T.swo.tr _ _ _⟩
/-- what comes, with the data -/
theorem KT.out {h : Heap} {L : List (Addr × α)} (hL : ∀ e ∈ L, T.At h e.1 e.2) {out : List Value} (hs : SrtO.Srtd (fun v u => T.lt (KT.of dflt L v) (KT.of dflt L u)) out) (hp : out.Perm (L.map fun e => Value.ref e.1)) :
    ∃ L' : List (Addr × α), out = L'.map (fun e => Value.ref e.1) ∧ L'.Perm L ∧ L'.Pairwise fun a b => T.lt b.2 a.2 = false := by
  let g : Value → Addr × α := fun v => (match v with | .ref p => p | _ => 0, KT.of dflt L v)
  have gL : (L.map fun e => Value.ref e.1).map g = L := by
    rw [List.map_map]
    refine (List.map_congr_left fun e he => ?_).trans (List.map_id L)
    exact Prod.ext rfl (KT.of_eq T dflt hL he)
  have mem : ∀ v ∈ out, ∃ e ∈ L, v = Value.ref e.1 := fun v hv => by
    obtain ⟨e, he, q⟩ := List.mem_map.mp (hp.mem_iff.mp hv)
    exact ⟨e, he, q.symm⟩
  refine ⟨out.map g, ?_, ?_, ?_⟩
  · rw [List.map_map]
    refine (List.map_id out).symm.trans (List.map_congr_left fun v hv => ?_)
    obtain ⟨e, _, rfl⟩ := mem v hv
    rfl
  · have q := hp.map g
    rw [gL] at q
    exact q
  · exact List.pairwise_map.mpr hs
end
theorem vals_refs {α : Type} : ∀ (L : List (Addr × α)), Vals (L.map fun e => V.ref e.1) (L.map fun e => Value.ref e.1)
  | [] => .nil
  | e :: L => .cons rfl (vals_refs L)
theorem refs_vals {α : Type} : ∀ {L : List (Addr × α)} {us : List Value}, Vals (L.map fun e => V.ref e.1) us → us = L.map fun e => Value.ref e.1
  | [], _, .nil => rfl
  | e :: L, _, .cons r t => by
    cases r
    rw [refs_vals t]; rfl
/-- sorted(xs), xs a list of tuples of one kind -/
def rSortL {α : Type} (T : KT α) (K : PySem.W.Frag) : List V → Hp → VK → Prop := fun vs H Q => ∃ (l : Addr) (L : List (Addr × α)), vs = [V.ref l] ∧ SqL K H l (L.map fun e => V.ref e.1) ∧ (∀ e ∈ L, T.Is K H e.1 e.2) ∧
  ∀ (L' : List (Addr × α)) p, L'.Perm L → (L'.Pairwise fun a b => T.lt b.2 a.2 = false) → H p = none → Q (.ref p) (upd H p (.lst (L'.map fun e => V.ref e.1)))
theorem not_tup {a : Addr} {h : Heap} {vs : Array Value} {n : Nat} (ha : h.get? a = some (seqObj "list" vs n)) : ∀ o, h.get? a = some o → o.cls ≠ .type "tuple" := fun o e => by
  have q : some o = some (seqObj "list" vs n) := e.symm.trans ha
  cases q
  intro c
  exact absurd (Value.type.inj c) (by decide)
theorem cr_sortL {α : Type} (T : KT α) [Inhabited α] {X : Cx} (hu : X.A.units + 100 < cLine) : CallR X (.builtin "sorted") (rSortL T X.K) := by
  intro pins s σ H vs us Q I r h
  obtain ⟨l, L, rfl, hs, hi, q⟩ := h
  obtain ⟨its, rv, hl, hz⟩ := I.list hs
  rw [Vals.ref1 r]
  have e := refs_vals rv
  subst e
  have hat : ∀ e ∈ L, T.At s.heap e.1 e.2 := fun e he => T.at_ I (hi e he)
  refine SrtO.sorted_ord (KT.swo_of T default L) hl.isList (by rw [← rv.length]; exact hz) (fun h2 h₁ a ha kk => ?_) fun out h1 h2 => ?_
  · refine KT.sortable T default (s := { s with heap := h₁ }) (fun e he => T.keep (hat e he) fun b o q _ => (kk b o q).2) ?_ (not_tup ha) ?_
    · rw [List.length_map] at h2
      omega
    · show X.A.units + 1 + 1 + 8 < cLine
      omega
  · obtain ⟨L', e', pm, sr⟩ := KT.out T default hat h1 h2.perm
    subst e'
    obtain ⟨n, hn⟩ := sortedAll_at s.heap (L.map fun e => Value.ref e.1) (L'.map fun e => Value.ref e.1).toArray
    refine ⟨.ref (s.heap.objs.size + 1), upd H (s.heap.objs.size + 1) (.lst (L'.map fun e => V.ref e.1)), I.laid (t' := s.toks) (fun b o z => sortedAll_old z) (Nat.le_succ _) ⟨?_, _, n, vals_refs L', hn⟩, rfl, q L' _ pm sr (I.hok.fresh (Nat.le_succ _))⟩
    rw [List.length_map, pm.length_eq, ← List.length_map (f := fun e : Addr × α => V.ref e.1)]
    exact hz
end K74

set_option Elab.async false
set_option linter.all false
set_option maxRecDepth 100000
set_option maxHeartbeats 4000000
namespace K74
open PySem PySem.Spec PyProof.Rows L2
def lexL : List Int → List Int → Bool
  | _, [] => false
  | [], _ :: _ => true
  | x :: xs, y :: ys => if x = y then lexL xs ys else decide (x < y)
theorem lexL_asym : ∀ x y : List Int, lexL x y = true → lexL y x = false
  | [], [], h => by simp [lexL] at h
  | _ :: _, [], h => by simp [lexL] at h
  | [], _ :: _, _ => by simp [lexL]
  | x :: xs, y :: ys, h => by
    unfold lexL at h ⊢
    by_cases e : x = y
    · rw [if_pos e] at h
      rw [if_pos e.symm]
      exact lexL_asym xs ys h
    · rw [if_neg e] at h
      rw [if_neg (fun q => e q.symm)]
      have := of_decide_eq_true h
      exact decide_eq_false (by omega)
theorem lexL_tr : ∀ x y z : List Int, lexL y x = false → lexL z y = false → lexL z x = false
  | [], _, z, _, _ => by unfold lexL; rfl
  | x :: xs, [], z, h, _ => by simp [lexL] at h
  | x :: xs, y :: ys, [], _, h => by simp [lexL] at h
  | x :: xs, y :: ys, z :: zs, h1, h2 => by
    unfold lexL at h1 h2 ⊢
    by_cases e : z = x
    · rw [if_pos e]
      by_cases e1 : y = x
      · rw [if_pos e1] at h1
        rw [if_pos (e.trans e1.symm)] at h2
        exact lexL_tr xs ys zs h1 h2
      · rw [if_neg e1] at h1
        rw [if_neg (fun q => e1 (q.symm.trans e))] at h2
        have a := of_decide_eq_false h1
        have b := of_decide_eq_false h2
        omega
    · rw [if_neg e]
      refine decide_eq_false fun lt => ?_
      by_cases e1 : y = x
      · rw [if_neg (fun q => e (q.trans e1))] at h2
        have b := of_decide_eq_false h2
        omega
      · rw [if_neg e1] at h1
        have a := of_decide_eq_false h1
        by_cases e2 : z = y
        · omega
        · rw [if_neg e2] at h2
          have b := of_decide_eq_false h2
          omega
theorem lexL_swo : SrtO.Swo lexL := ⟨lexL_asym, lexL_tr⟩
theorem bwlt_lex (a b : Wt) : lexL [a.1, a.2] [b.1, b.2] = bwlt a b := by
  unfold bwlt
  show (if a.1 = b.1 then (if a.2 = b.2 then lexL [] [] else decide (a.2 < b.2)) else decide (a.1 < b.1)) = _
  by_cases h1 : a.1 = b.1
  · rw [if_pos h1, if_pos h1]
    by_cases h2 : a.2 = b.2
    · rw [if_pos h2, decide_eq_false (by omega)]; rfl
    · rw [if_neg h2]
  · rw [if_neg h1, if_neg h1]
theorem bwlt_swo : SrtO.Swo bwlt := ⟨fun x y => by rw [← bwlt_lex, ← bwlt_lex]; exact lexL_asym _ _, fun x y z => by rw [← bwlt_lex, ← bwlt_lex, ← bwlt_lex]; exact lexL_tr _ _ _⟩
theorem bwlt_tri {a b : Wt} (h1 : bwlt a b = false) (h2 : bwlt b a = false) : a = b := by
  unfold bwlt at h1 h2
  by_cases e : a.1 = b.1
  · rw [if_pos e] at h1
    rw [if_pos e.symm] at h2
    have p := of_decide_eq_false h1
    have q := of_decide_eq_false h2
    exact Prod.ext e (by omega)
  · rw [if_neg e] at h1
    rw [if_neg (fun z => e z.symm)] at h2
    have p := of_decide_eq_false h1
    have q := of_decide_eq_false h2
    omega
theorem brlt_swo : SrtO.Swo brlt := by
  refine ⟨fun x y h => ?_, fun x y z h1 h2 => ?_⟩
  · unfold brlt at h ⊢
    by_cases e : x.1 = y.1
    · rw [if_pos e] at h
      rw [if_pos e.symm]
      exact bwlt_swo.asym _ _ h
    · rw [if_neg e] at h
      rw [if_neg (fun q => e q.symm)]
      exact bwlt_swo.asym _ _ h
  · unfold brlt at h1 h2 ⊢
    by_cases e : z.1 = x.1
    · rw [if_pos e]
      by_cases e1 : y.1 = x.1
      · rw [if_pos e1] at h1
        rw [if_pos (e.trans e1.symm)] at h2
        exact bwlt_swo.tr _ _ _ h1 h2
      · rw [if_neg e1] at h1
        rw [if_neg (fun q => e1 (q.symm.trans e))] at h2
        rw [e] at h2
        exact absurd (bwlt_tri h1 h2) e1
    · rw [if_neg e]
      by_cases e1 : y.1 = x.1
      · rw [if_neg (fun q => e (q.trans e1))] at h2
        rw [e1] at h2
        exact h2
      · rw [if_neg e1] at h1
        by_cases e2 : z.1 = y.1
        · rw [e2]; exact h1
        · rw [if_neg e2] at h2
          exact bwlt_swo.tr _ _ _ h1 h2
theorem brlt_tri {a b : Rl} (h1 : brlt a b = false) (h2 : brlt b a = false) : a = b := by
  unfold brlt at h1 h2
  by_cases e : a.1 = b.1
  · rw [if_pos e] at h1
    rw [if_pos e.symm] at h2
    exact Prod.ext e (bwlt_tri h1 h2)
  · rw [if_neg e] at h1
    rw [if_neg (fun z => e z.symm)] at h2
    exact absurd (bwlt_tri h1 h2) e
/-! ### the machine's comparison of int tuples in a sort -/
theorem kat_mono {prog : Program} {w : World} {A : Around} {b fin : Bool} {Q Q' : Bool → Shared → Prop} (k : ∀ r s, Q r s → Q' r s) : ∀ {l : List (Value × Value)} {i : Nat} {s : Shared}, PySem.W.KatLex prog w A b fin Q l i s → PySem.W.KatLex prog w A b fin Q' l i s
  | [], _, s, h => k fin s h
  | (p, q) :: r, i, s, h => by
    refine wpAny_mono (show wpAny (model prog w) A (eqBool p q) _ _ s from h) (fun e s' he => ?_) fun _ _ x => x
    cases e with
    | true => exact kat_mono k he
    | false => exact wpAny_mono (show wpAny (model prog w) A (oneLt' (b && i == 0) p q) Q (fun _ _ => False) s' from he) (fun c s'' hc => k c s'' hc) fun _ _ x => x
theorem kat_ints {prog : Program} {w : World} {A : Around} {s : Shared} : ∀ {us vs : List Value} {ns ms : List Int} (i : Nat) (fin : Bool), IntsAre us ns → IntsAre vs ms → fin = decide (ns.length < ms.length) →
    PySem.W.KatLex prog w A true fin (fun r s' => s' = s ∧ r = lexL ns ms) (us.zip vs) i s
  | _, _, _, _, i, fin, .nil, .nil, h => PySem.W.kat_nil ⟨rfl, by rw [h]; rfl⟩
  | _, _, _, _, i, fin, .cons _ _ _, .nil, h => PySem.W.kat_nil ⟨rfl, by rw [h]; simp [lexL]⟩
  | _, _, _, _, i, fin, .nil, .cons _ _ _, h => PySem.W.kat_nil ⟨rfl, by rw [h]; simp [lexL]⟩
  | _, _, _, _, i, fin, IntsAre.cons a t r, IntsAre.cons b t' r', h => by
    refine PySem.W.kat_cons (SeqAt.EqAt.int_int a t b t' prog w _ _ ?_)
    refine PySem.W.kat_go (fun e1 => PySem.W.kat_yes ?_) (fun e1 => PySem.W.kat_no ?_)
    · have ea : a = b := by simpa using e1
      have ih := kat_ints (prog := prog) (w := w) (A := A) (s := s) (i + 1) fin r r' (by rw [h, List.length_cons, List.length_cons]; simp)
      refine kat_mono (fun z s' hz => ⟨hz.1, hz.2.trans ?_⟩) ih
      show _ = if a = b then _ else _
      rw [if_pos ea]
    · have ea : ¬ a = b := by simpa using e1
      have el : ∀ ns ms, lexL (a :: ns) (b :: ms) = decide (a < b) := fun ns ms => by
        show (if a = b then _ else _) = _
        rw [if_neg ea]
      cases q : (true && i == 0) with
      | true => exact oneLt_int ⟨rfl, (el _ _).symm⟩
      | false => exact PySem.W.kat_one _ _ (PyProof.Rows.lt_int (show s = s ∧ decide (a < b) = _ from ⟨rfl, (el _ _).symm⟩))
/-! ### the kinds -/
theorem kat_of {h : Heap} {F : Value → Prop} : ∀ vs : List Value, (∀ v ∈ vs, ∃ a o xs n f, v = Value.ref a ∧ h.get? a = some o ∧ o.cls = .type "tuple" ∧ o.data = .seq xs n ∧ xs[0]? = some f ∧ F f) → ∃ fs, PySem.W.KatTups h vs fs ∧ fs.length = vs.length ∧ ∀ f ∈ fs, F f
  | [], _ => ⟨[], PySem.W.KatTups.nil, rfl, fun f hf => by cases hf⟩
  | v :: vs, x => by
    obtain ⟨fs, k, hl, hi⟩ := kat_of vs fun u hu => x u (List.mem_cons_of_mem _ hu)
    obtain ⟨a, o, xs, n, f, rfl, ho, hc, hd, hf, ff⟩ := x v List.mem_cons_self
    refine ⟨f :: fs, PySem.W.KatTups.cons ho hc hd hf k, by rw [List.length_cons, List.length_cons, hl], fun g hg => ?_⟩
    rcases List.mem_cons.mp hg with z | z
    · rw [z]; exact ff
    · exact hi g z
theorem WIs.keep {h h' : Heap} {p : Addr} {u : Wt} (x : WIs h p u) (k : ∀ b o, h.get? b = some o → o.cls = .type "tuple" → h'.get? b = some o) : WIs h' p u := by
  obtain ⟨t, t', o, ho, hc, r⟩ := x
  exact ⟨t, t', o, k p o ho hc, hc, r⟩
theorem RIs.keep {h h' : Heap} {p : Addr} {r : Rl} (x : RIs h p r) (k : ∀ b o, h.get? b = some o → o.cls = .type "tuple" → h'.get? b = some o) : RIs h' p r := by
  obtain ⟨a, b, ⟨o, ho, hc, q⟩, h1, h2⟩ := x
  exact ⟨a, b, ⟨o, k p o ho hc, hc, q⟩, h1.keep k, h2.keep k⟩
theorem tup_fn {h : Heap} {p : Addr} {xs ys : Array Value} (a : h.IsTuple p xs) (b : h.IsTuple p ys) : xs = ys := by
  obtain ⟨o, ho, _, n, hd⟩ := a
  obtain ⟨o', ho', _, n', hd'⟩ := b
  rw [ho] at ho'
  cases ho'
  rw [hd] at hd'
  injection hd' with e _
theorem WIs.fn {h : Heap} {p : Addr} {u v : Wt} (a : WIs h p u) (b : WIs h p v) : u = v := by
  obtain ⟨t1, t2, a⟩ := a
  obtain ⟨t3, t4, b⟩ := b
  have e := congrArg Array.toList (tup_fn a b)
  simp only [List.cons.injEq] at e
  obtain ⟨e1, e2, _⟩ := e
  injection e1 with e1 _
  injection e2 with e2 _
  exact Prod.ext e1 e2
theorem RIs.fn {h : Heap} {p : Addr} {r q : Rl} (a : RIs h p r) (b : RIs h p q) : r = q := by
  obtain ⟨x1, x2, a, a1, a2⟩ := a
  obtain ⟨y1, y2, b, b1, b2⟩ := b
  have e := congrArg Array.toList (tup_fn a b)
  simp only [List.cons.injEq] at e
  obtain ⟨e1, e2, _⟩ := e
  injection e1 with e1
  injection e2 with e2
  subst e1 e2
  exact Prod.ext (a1.fn b1) (a2.fn b2)
theorem int_looks {M : Model} {h : Heap} {v : Value} (x : ∃ n t, v = Value.int n t) : PySem.W.Looks M h (typeOf v) (.type "int") := by
  obtain ⟨n, t, rfl⟩ := x
  exact PySem.W.Looks.now
/-- wants -/
def ktW : KT Wt where
  Is := fun K H p u => IsW K H (.ref p) u
  At := WIs
  lt := bwlt
  kind := tuples' true
  tk := fun h t => h.tk t
  at_ := fun I h => h.at I
  keep := fun x k => x.keep k
  fn := fun a b => a.fn b
  swo := bwlt_swo
  kinds := fun {M A s vs Q E} hv h0 hq => by
    obtain ⟨fs, k, hl, hf⟩ := kat_of (h := s.heap) (F := fun f => ∃ n t, f = Value.int n t) vs fun v hm => by
      obtain ⟨p, a, rfl, t, t', o, ho, hc, n, hd⟩ := hv v hm
      exact ⟨p, o, _, n, _, rfl, ho, hc, hd, rfl, _, _, rfl⟩
    refine PySem.W.kat_kind (T := .type "int") k (by omega) (fun f hm => int_looks (hf f hm)) (by rfl) ?_
    have e : (Value.type "int" != Value.type "tuple") = true := by decide
    rw [e]
    exact hq
  cmp := fun {prog w A s p q a b} ha hb hu => by
    obtain ⟨t1, t2, o, ho, hc, n, hd⟩ := ha
    obtain ⟨t3, t4, o', ho', hc', n', hd'⟩ := hb
    refine PySem.W.kat_lt ho hd ho' hd' ?_
    have r := kat_ints (prog := prog) (w := w) (A := A) (s := s) 0 (decide ((#[Value.int a.1 t1, .int a.2 t2] : Array Value).size < (#[Value.int b.1 t3, .int b.2 t4] : Array Value).size)) (.cons a.1 t1 (.cons a.2 t2 .nil)) (.cons b.1 t3 (.cons b.2 t4 .nil)) rfl
    rw [bwlt_lex] at r
    exact r
/-- pairs of wants -/
def ktP : KT Rl where
  Is := fun K H p r => IsR K H (.ref p) r
  At := RIs
  lt := brlt
  kind := tuples' false
  tk := fun h t => h.tk t
  at_ := fun I h => h.at I
  keep := fun x k => x.keep k
  fn := fun a b => a.fn b
  swo := brlt_swo
  kinds := fun {M A s vs Q E} hv h0 hq => by
    obtain ⟨fs, k, hl, hf⟩ := kat_of (h := s.heap) (F := fun f => ∃ x o, f = Value.ref x ∧ s.heap.get? x = some o ∧ o.cls = .type "tuple") vs fun v hm => by
      obtain ⟨p, a, rfl, x, y, ⟨o, ho, hc, n, hd⟩, ⟨t, t', o2, ho2, hc2, _⟩, _⟩ := hv v hm
      exact ⟨p, o, _, n, _, rfl, ho, hc, hd, rfl, x, o2, rfl, ho2, hc2⟩
    refine PySem.W.kat_kind (T := .type "tuple") k (by omega) (fun f hm => ?_) (by rfl) ?_
    · obtain ⟨x, o, rfl, ho, hc⟩ := hf f hm
      rw [← hc]
      exact (PySem.W.Looks.ld ho).andThen .now
    · have e : (Value.type "tuple" != Value.type "tuple") = false := by decide
      rw [e]
      exact hq
  cmp := fun {prog w A s p q a b} ha hb hu => by
    obtain ⟨x1, x2, ⟨o, ho, hc, n, hd⟩, h1, h2⟩ := ha
    obtain ⟨y1, y2, ⟨o', ho', hc', n', hd'⟩, g1, g2⟩ := hb
    refine PySem.W.kat_lt ho hd ho' hd' ?_
    show PySem.W.KatLex prog w A false (decide (2 < 2)) _ [(.ref x1, .ref y1), (.ref x2, .ref y2)] 0 s
    have b1 : ∀ (z : Rl → Rl → Bool) (r : Bool), r = brlt a b → s = s ∧ r = brlt a b := fun _ _ e => ⟨rfl, e⟩
    refine PySem.W.kat_cons (WIs.eq h1 g1 (by omega) prog w _ _ ?_)
    refine PySem.W.kat_go (fun e1 => PySem.W.kat_yes (PySem.W.kat_cons (WIs.eq h2 g2 (by omega) prog w _ _ ?_))) (fun e1 => PySem.W.kat_no (PySem.W.kat_one _ _ (WIs.lt h1 g1 (by omega) prog w _ _ ⟨rfl, ?_⟩)))
    · have ea : a.1 = b.1 := by simpa using e1
      refine PySem.W.kat_go (fun e2 => PySem.W.kat_yes (PySem.W.kat_nil ⟨rfl, ?_⟩)) (fun e2 => PySem.W.kat_no (PySem.W.kat_one _ _ (WIs.lt h2 g2 (by omega) prog w _ _ ⟨rfl, ?_⟩)))
      · have eb : a.2 = b.2 := by simpa using e2
        have : a = b := Prod.ext ea eb
        rw [this, brlt_irr]; rfl
      · unfold brlt
        rw [if_pos ea]
    · have ea : ¬ a.1 = b.1 := by simpa using e1
      unfold brlt
      rw [if_neg ea]
def LIs (h : Heap) (p : Addr) (ns : List Int) : Prop := ns ≠ [] ∧ ∃ its : List Value, h.IsTuple p its.toArray ∧ IntsAre its ns
theorem ints_fn : ∀ {vs : List Value} {ns ms : List Int}, IntsAre vs ns → IntsAre vs ms → ns = ms
  | _, _, _, .nil, .nil => rfl
  | _, _, _, .cons a t r, h => by
    cases h with
    | cons _ _ r' => rw [ints_fn r r']
/-- rows -/
def ktL : KT (List Int) where
  Is := fun K H p ns => ns ≠ [] ∧ IsTi K H (.ref p) ns
  At := LIs
  lt := lexL
  kind := tuples' true
  tk := fun h t => ⟨h.1, h.2.tk t⟩
  at_ := fun I h => by
    obtain ⟨h0, a, e, sq⟩ := h
    cases e
    obtain ⟨its, r, tp, _⟩ := I.tuple sq
    exact ⟨h0, its, tp, Vals.ints r⟩
  keep := fun {h h' p a} x k => by
    obtain ⟨h0, its, ⟨o, ho, hc, r⟩, i⟩ := x
    exact ⟨h0, its, ⟨o, k p o ho hc, hc, r⟩, i⟩
  fn := fun {h p a b} x y => by
    obtain ⟨_, its, hx, ix⟩ := x
    obtain ⟨_, jts, hy, iy⟩ := y
    have e : its = jts := by simpa using congrArg Array.toList (tup_fn hx hy)
    subst e
    exact ints_fn ix iy
  swo := lexL_swo
  kinds := fun {M A s vs Q E} hv h0 hq => by
    obtain ⟨fs, k, hl, hf⟩ := kat_of (h := s.heap) (F := fun f => ∃ n t, f = Value.int n t) vs fun v hm => by
      obtain ⟨p, a, rfl, hne, its, ⟨o, ho, hc, n, hd⟩, i⟩ := hv v hm
      cases i with
      | nil => exact absurd rfl hne
      | cons z t r => exact ⟨p, o, _, n, .int z t, rfl, ho, hc, hd, rfl, z, t, rfl⟩
    refine PySem.W.kat_kind (T := .type "int") k (by omega) (fun f hm => int_looks (hf f hm)) (by rfl) ?_
    have e : (Value.type "int" != Value.type "tuple") = true := by decide
    rw [e]
    exact hq
  cmp := fun {prog w A s p q a b} ha hb hu => by
    obtain ⟨_, its, ⟨o, ho, hc, n, hd⟩, i⟩ := ha
    obtain ⟨_, jts, ⟨o', ho', hc', n', hd'⟩, j⟩ := hb
    refine PySem.W.kat_lt ho hd ho' hd' ?_
    exact kat_ints (prog := prog) (w := w) (A := A) (s := s) 0 _ i j (by rw [List.size_toArray, List.size_toArray, i.length, j.length])
end K74

set_option Elab.async false
set_option linter.all false
set_option maxRecDepth 100000
set_option maxHeartbeats 4000000
namespace K74
open PySem PySem.Spec PyProof.Rows L2
/-! ### dicts whose keys are tuples of a kind -/
structure KK (α : Type) [DecidableEq α] extends KT α where
  key : α → NestedKey
  kinj : ∀ {a b : α}, key a = key b → a = b
  dep : ∀ a, (key a).depth ≤ 8
  nest : ∀ {h : Heap} {p : Addr} {a : α}, At h p a → NestedIs h (key a) (.ref p)
def kW (u : Wt) : NestedKey := .tup [.num u.1, .num u.2]
def kR (r : Rl) : NestedKey := .tup [kW r.1, kW r.2]
theorem kW_inj {a b : Wt} (h : kW a = kW b) : a = b := by
  unfold kW at h
  injection h with h
  injection h with h1 h2
  injection h2 with h2 _
  injection h1 with h1
  injection h2 with h2
  exact Prod.ext h1 h2
theorem kR_inj {a b : Rl} (h : kR a = kR b) : a = b := by
  unfold kR at h
  injection h with h
  injection h with h1 h2
  injection h2 with h2 _
  exact Prod.ext (kW_inj h1) (kW_inj h2)
theorem WIs.nest {h : Heap} {p : Addr} {u : Wt} (x : WIs h p u) : NestedIs h (kW u) (.ref p) := by
  obtain ⟨t, t', o, ho, hc, n, hd⟩ := x
  exact .tup ho hc hd (.cons (.int _ _) (.cons (.int _ _) .nil))
theorem RIs.nest {h : Heap} {p : Addr} {r : Rl} (x : RIs h p r) : NestedIs h (kR r) (.ref p) := by
  obtain ⟨a, b, ⟨o, ho, hc, n, hd⟩, h1, h2⟩ := x
  exact .tup ho hc hd (.cons h1.nest (.cons h2.nest .nil))
theorem kW_dep (u : Wt) : (kW u).depth = 1 := by simp [kW, NestedKey.depth, NestedKey.depthAll]
theorem kR_dep (r : Rl) : (kR r).depth = 2 := by simp [kR, NestedKey.depth, NestedKey.depthAll, kW_dep]
def kkW : KK Wt := { ktW with key := kW, kinj := kW_inj, dep := fun u => by rw [kW_dep]; decide, nest := fun x => WIs.nest x }
def kkP : KK Rl := { ktP with key := kR, kinj := kR_inj, dep := fun r => by rw [kR_dep]; decide, nest := fun x => RIs.nest x }
section
variable {α : Type} [DecidableEq α]
abbrev Ent (α : Type) := α × Addr × V
def getE (L : List (Ent α)) (a : α) : Option V := (L.find? fun e => decide (e.1 = a)).map (·.2.2)
def putE (L : List (Ent α)) (a : α) (p : Addr) (v : V) : List (Ent α) := if (getE L a).isSome then L.map (fun e => if e.1 = a then (e.1, e.2.1, v) else e) else L ++ [(a, p, v)]
theorem getE_nil (a : α) : getE ([] : List (Ent α)) a = none := rfl
theorem getE_cons (e : Ent α) (L : List (Ent α)) (a : α) : getE (e :: L) a = if e.1 = a then some e.2.2 else getE L a := by
  unfold getE
  rw [List.find?_cons]
  by_cases h : e.1 = a
  · rw [if_pos h, decide_eq_true h]; rfl
  · rw [if_neg h, decide_eq_false h]
theorem getE_app (L : List (Ent α)) (e : Ent α) (a : α) : getE (L ++ [e]) a = (getE L a).or (if e.1 = a then some e.2.2 else none) := by
  induction L with
  | nil => rw [List.nil_append, getE_cons, getE_nil]; rfl
  | cons f L ih =>
    rw [List.cons_append, getE_cons, getE_cons, ih]
    by_cases h : f.1 = a
    · rw [if_pos h, if_pos h]; rfl
    · rw [if_neg h, if_neg h]
theorem getE_upd (L : List (Ent α)) (a b : α) (v : V) : getE (L.map fun e => if e.1 = a then (e.1, e.2.1, v) else e) b = if a = b then (getE L b).map (fun _ => v) else getE L b := by
  induction L with
  | nil => rw [List.map_nil, getE_nil]; split <;> rfl
  | cons f L ih =>
    rw [List.map_cons, getE_cons, ih, getE_cons]
    by_cases h : f.1 = a
    · rw [if_pos h]
      by_cases k : f.1 = b
      · have : a = b := h.symm.trans k
        rw [if_pos k, if_pos this, if_pos k]; rfl
      · have : ¬ a = b := fun q => k (h.trans q)
        simp [k, this]
    · rw [if_neg h]
      by_cases k : f.1 = b
      · have : ¬ a = b := fun q => h (k.trans q.symm)
        rw [if_pos k, if_neg this, if_pos k]
      · by_cases e : a = b
        · rw [if_neg k, if_pos e, if_pos e, if_neg k]
        · rw [if_neg k, if_neg e, if_neg e, if_neg k]
theorem getE_put (L : List (Ent α)) (a b : α) (p : Addr) (v : V) : getE (putE L a p v) b = if a = b then some v else getE L b := by
  unfold putE
  cases h : getE L a with
  | none =>
    show getE (L ++ [(a, p, v)]) b = _
    rw [getE_app]
    by_cases e : a = b
    · subst e
      rw [h, if_pos rfl]; rfl
    · rw [if_neg e, if_neg e, Option.or_none]
  | some x =>
    show getE (L.map _) b = _
    rw [getE_upd]
    by_cases e : a = b
    · subst e
      rw [if_pos rfl, if_pos rfl, h]; rfl
    · rw [if_neg e, if_neg e]
theorem putE_len (L : List (Ent α)) (a : α) (p : Addr) (v : V) : (putE L a p v).length ≤ L.length + 1 := by
  unfold putE
  split
  · rw [List.length_map]; exact Nat.le_succ _
  · rw [List.length_append]; exact Nat.le_refl _
theorem mem_putE {L : List (Ent α)} {a : α} {p : Addr} {v : V} {e : Ent α} (h : e ∈ putE L a p v) : (∃ f ∈ L, f.1 = e.1 ∧ f.2.1 = e.2.1) ∨ (e.1 = a ∧ e.2.1 = p) := by
  unfold putE at h
  split at h
  · obtain ⟨f, hf, q⟩ := List.mem_map.mp h
    refine .inl ⟨f, hf, ?_⟩
    split at q
    · rw [← q]; exact ⟨rfl, rfl⟩
    · rw [q]; exact ⟨rfl, rfl⟩
  · rcases List.mem_append.mp h with m | m
    · exact .inl ⟨e, m, rfl, rfl⟩
    · rw [List.mem_singleton.mp m]; exact .inr ⟨rfl, rfl⟩
theorem getE_mem {L : List (Ent α)} {a : α} {v : V} (h : getE L a = some v) : ∃ p, (a, p, v) ∈ L := by
  unfold getE at h
  cases q : L.find? fun e => decide (e.1 = a) with
  | none => rw [q] at h; cases h
  | some e =>
    rw [q] at h
    have h1 : e.1 = a := by simpa using List.find?_some q
    have h2 : e.2.2 = v := Option.some.inj h
    have h3 := List.mem_of_find?_eq_some q
    subst h1 h2
    exact ⟨e.2.1, h3⟩
theorem mem_getE {L : List (Ent α)} (nd : (L.map (·.1)).Nodup) {e : Ent α} (h : e ∈ L) : getE L e.1 = some e.2.2 := by
  induction L with
  | nil => cases h
  | cons f L ih =>
    have nd' := List.nodup_cons.mp (by rw [List.map_cons] at nd; exact nd)
    rw [getE_cons]
    rcases List.mem_cons.mp h with q | q
    · subst q
      rw [if_pos rfl]
    · have : ¬ f.1 = e.1 := fun z => nd'.1 (by rw [z]; exact List.mem_map.mpr ⟨e, q, rfl⟩)
      rw [if_neg this]
      exact ih nd'.2 q
/-- an entry here and one of the machine's -/
def Rent (T : KK α) (e : Ent α) (x : NestedKey × Addr × Value) : Prop := x.1 = T.key e.1 ∧ x.2.1 = e.2.1 ∧ RelV e.2.2 x.2.2
variable {T : KK α}
theorem rent_at {L : List (Ent α)} {xs : List (NestedKey × Addr × Value)} (p : Paired (Rent T) L xs) (a : α) : (∀ v, getE L a = some v → ∃ q u, atKey xs (T.key a) = some (q, u) ∧ RelV v u) ∧ (getE L a = none → atKey xs (T.key a) = none) := by
  induction p with
  | nil => exact ⟨fun v h => (by cases h), fun _ => rfl⟩
  | @cons e x L xs r t ih =>
    obtain ⟨r1, r2, r3⟩ := r
    have ax : atKey (x :: xs) (T.key a) = if x.1 = T.key a then some x.2 else atKey xs (T.key a) := by
      unfold atKey
      rw [List.find?_cons]
      by_cases h : x.1 = T.key a
      · rw [if_pos h, decide_eq_true h]; rfl
      · rw [if_neg h, decide_eq_false h]
    rw [getE_cons, ax, r1]
    by_cases h : e.1 = a
    · rw [if_pos h, if_pos (by rw [h])]
      refine ⟨fun v hv => ?_, fun q => by cases q⟩
      cases hv
      exact ⟨x.2.1, x.2.2, rfl, r3⟩
    · rw [if_neg h, if_neg (fun q => h (T.kinj q))]
      exact ih
theorem rent_put {L : List (Ent α)} {xs : List (NestedKey × Addr × Value)} (p : Paired (Rent T) L xs) (a : α) (q : Addr) {v : V} {u : Value} (rv : RelV v u) : Paired (Rent T) (putE L a q v) (storedH xs (T.key a) q u) := by
  have ra := rent_at p a
  unfold putE storedH
  cases h : getE L a with
  | none =>
    rw [ra.2 h]
    exact Paired.app p (Paired.one ⟨rfl, rfl, rv⟩)
  | some z =>
    obtain ⟨q', u', e, _⟩ := ra.1 z h
    rw [e]
    show Paired (Rent T) (L.map _) (xs.map (putAt (T.key a) u))
    clear ra h e
    induction p with
    | nil => exact .nil
    | @cons e x L xs r t ih =>
      obtain ⟨r1, r2, r3⟩ := r
      refine .cons ?_ ih
      unfold putAt
      dsimp only
      by_cases h : e.1 = a
      · rw [if_pos h, if_pos (by rw [r1, h])]
        exact ⟨r1, r2, rv⟩
      · rw [if_neg h, if_neg (fun q => h (T.kinj (r1.symm.trans q)))]
        exact ⟨r1, r2, r3⟩
/-- at d a dict with the entries L, apart from what its keys' own tuples hold -/
structure NDp (P : Program) (w : World) (T : KK α) (d : Addr) (L : List (Ent α)) (h : Heap) : Prop where
  len : L.length ≤ sizeLine
  low : (d == sysModules) = false
  ex : ∃ xs, Paired (Rent T) L xs ∧ (xs.map (·.1)).Nodup ∧ ∃ o es ep, h.get? d = some o ∧ o.ExactDict ∧ o.data = .dict es ep ∧ es.toList = xs.map (entryOfKey (nestedKind P w))
def NDo (P : Program) (w : World) (T : KK α) (d : Addr) (L : List (Ent α)) : HO := .ext (NDp P w T d L)
/-- the keys are what they say -/
def Keyed (T : KK α) (K : PySem.W.Frag) (H : Hp) (L : List (Ent α)) : Prop := ∀ e ∈ L, T.Is K H e.2.1 e.1
theorem Keyed.tk {K : PySem.W.Frag} {H H' : Hp} {L : List (Ent α)} (h : Keyed T K H L) (t : Tk H H') : Keyed T K H' L := fun e he => T.tk (h e he) t
theorem Keyed.put {K : PySem.W.Frag} {H : Hp} {L : List (Ent α)} {a : α} {p : Addr} {v : V} (h : Keyed T K H L) (hp : T.Is K H p a) : Keyed T K H (putE L a p v) := fun e he => by
  rcases mem_putE he with ⟨f, hf, e1, e2⟩ | ⟨e1, e2⟩
  · rw [← e1, ← e2]; exact h f hf
  · rw [e1, e2]; exact hp
section
variable {P : Program} {w : World} {X : Cx} {pins : List (Addr × Obj)} {σ : L2.St} {H : Hp} {s : Shared} {d p : Addr} {L : List (Ent α)} {a : α}
theorem NDp.ok {h : Heap} {H : Hp} (x : NDp P w T d L h) : ObjOk P w H h d (NDo P w T d L) := by
  obtain ⟨xs, _, _, o, _, _, ho, _⟩ := x.ex
  refine ⟨x, ⟨o, ho⟩, fun h1 h2 y k => ?_⟩
  obtain ⟨xs, p1, p2, o, es, ep, ho, r⟩ := y.ex
  exact ⟨y.len, y.low, xs, p1, p2, o, es, ep, k o ho, r⟩
theorem nd_of (I : Inv X pins σ H s) (hd : H d = some (NDo X.prog X.w T d L)) (hk : Keyed T X.K H L) : ∃ xs, Paired (Rent T) L xs ∧ s.heap.DictOfH (nestedKind X.prog X.w) d xs ∧ L.length ≤ sizeLine ∧ (d == sysModules) = false := by
  obtain ⟨xs, p1, p2, o, es, ep, ho, hx, hdt, he⟩ := (I.hok d _ hd).1.ex
  refine ⟨xs, p1, ⟨o, es, ep, ho, hx, hdt, he, fun x hx => ?_, p2⟩, (I.hok d _ hd).1.len, (I.hok d _ hd).1.low⟩
  obtain ⟨i, hi⟩ := List.mem_iff_getElem?.mp hx
  obtain ⟨e, he', r1, r2, _⟩ := Paired.at2 p1 hi
  rw [r1, r2]
  exact ⟨T.nest (T.at_ I (hk e (List.mem_of_getElem? he'))), T.dep _⟩
theorem nd_key (I : Inv X pins σ H s) (hp : T.Is X.K H p a) : (nestedKind X.prog X.w).is s.heap (T.key a) p := ⟨T.nest (T.at_ I hp), T.dep _⟩
theorem nd_room (hu : X.A.units + 100 < cLine) : (nestedKind X.prog X.w).room X.A.in1 := by
  show X.A.units + 1 + 8 < cLine
  omega
theorem nd_new {h' : Heap} {H' : Hp} {xs : List (NestedKey × Addr × Value)} (hl : L.length ≤ sizeLine) (low : (d == sysModules) = false) (pr : Paired (Rent T) L xs) (dd : h'.DictOfH (nestedKind P w) d xs) : ObjOk P w H' h' d (NDo P w T d L) := by
  obtain ⟨o, es, ep, ho, hx, hdt, he, _, nd⟩ := dd
  exact NDp.ok ⟨hl, low, xs, pr, nd, o, es, ep, ho, hx, hdt, he⟩
end
end
end K74

set_option Elab.async false
set_option linter.all false
set_option maxRecDepth 100000
set_option maxHeartbeats 4000000
namespace K74
open PySem PySem.Spec PyProof.Rows L2
section
variable {α : Type} [DecidableEq α] (T : KK α)
/-- at d the dict L, its keys as they say -/
def NDAt (P : Program) (w : World) (K : PySem.W.Frag) (H : Hp) (d : Addr) (L : List (Ent α)) : Prop := H d = some (NDo P w T d L) ∧ Keyed T K H L
variable {T}
theorem NDAt.same {P : Program} {w : World} {K : PySem.W.Frag} {H H' : Hp} {d : Addr} {L : List (Ent α)} (h : NDAt T P w K H d L) (s : Same H H') : NDAt T P w K H' d L := ⟨s _ _ h.1, h.2.tk (tkS s)⟩
theorem nd_isSome {L : List (Ent α)} {xs : List (NestedKey × Addr × Value)} (pr : Paired (Rent T) L xs) (a : α) : (atKey xs (T.key a)).isSome = (getE L a).isSome := by
  have r := rent_at pr a
  cases h : getE L a with
  | none => rw [r.2 h]; rfl
  | some v =>
    obtain ⟨q, u, e, _⟩ := r.1 v h
    rw [e]; rfl
variable (T)
def rNIn (P : Program) (w : World) (K : PySem.W.Frag) (neg : Bool) : R2 := fun x y H Q => ∃ p a d L, x = .ref p ∧ y = .ref d ∧ T.Is K H p a ∧ NDAt T P w K H d L ∧ Q (.bl (neg != (getE L a).isSome)) H
def tNDNew (P : Program) (w : World) : TE := fun _ H Q => ∀ p, H p = none → Q (.ref p) (upd H p (NDo P w T p []))
def tNGet (P : Program) (w : World) (K : PySem.W.Frag) (td ty : TE) : TE := fun σ H Q => td σ H fun x H1 => ty σ H1 fun y H2 => ∃ d p a L v, x = .ref d ∧ y = .ref p ∧ T.Is K H2 p a ∧ NDAt T P w K H2 d L ∧ getE L a = some v ∧ Q v H2
def rNGet (P : Program) (w : World) (K : PySem.W.Frag) : V → V → Hp → VK → Prop := fun o i H Q => ∃ d p a L v, o = .ref d ∧ i = .ref p ∧ T.Is K H p a ∧ NDAt T P w K H d L ∧ getE L a = some v ∧ Q v H
def rNSet (P : Program) (w : World) (K : PySem.W.Frag) : TSet := fun o i v H Q => ∃ d p a L, o = .ref d ∧ i = .ref p ∧ T.Is K H p a ∧ NDAt T P w K H d L ∧ L.length < sizeLine ∧ Q (upd H d (NDo P w T d (putE L a p v)))
def tNGetOr (P : Program) (w : World) (K : PySem.W.Frag) (td : TE) (t : TA) : TE := fun σ H Q => td σ H fun x H1 => (∃ d L, x = .ref d ∧ NDAt T P w K H1 d L) ∧ t σ H1 fun ys H2 => ∃ d p a L z, x = .ref d ∧ ys = [.ref p, z] ∧ T.Is K H2 p a ∧ NDAt T P w K H2 d L ∧ Q ((getE L a).getD z) H2
def rSortD (P : Program) (w : World) (K : PySem.W.Frag) : List V → Hp → VK → Prop := fun vs H Q => ∃ d L, vs = [.ref d] ∧ NDAt T P w K H d L ∧
  ∀ (L' : List (Addr × α)) q, L'.Perm (L.map fun e => (e.2.1, e.1)) → (L'.Pairwise fun a b => T.lt b.2 a.2 = false) → H q = none → Q (.ref q) (upd H q (.lst (L'.map fun e => V.ref e.1)))
section
variable {X : Cx} {o i e f : Expr} {td ty : TE} {t : TA} {pos apos cpos : Pos}
theorem pe_ndNew : PE X (.Dict [] [] pos) (tNDNew T X.prog X.w) := ⟨fun pins s σ H Q I h => by
  refine wpAny_Dict_empty ⟨.ref s.heap.objs.size, upd H s.heap.objs.size (NDo X.prog X.w T s.heap.objs.size []), I.laid (t' := s.toks) (fun _ _ q => Heap.get?_push_of_some _ q) (Nat.le_refl _) ?_, rfl, h _ (I.hok.fresh (Nat.le_refl _))⟩
  exact NDp.ok ⟨Nat.zero_le _, beq_eq_false_iff_ne.mpr (Ne.symm (Nat.ne_of_lt I.big)), [], .nil, List.nodup_nil, _, #[], 0, Heap.get?_push_size _ rfl, ⟨rfl, rfl, rfl⟩, rfl, rfl⟩⟩
theorem op_ndIn (hu : X.A.units + 100 < cLine) : OpR X (compareOp .In) (rNIn T X.prog X.w X.K false) := by
  intro pins s σ H x y v u Q I rx ry h
  obtain ⟨p, a, d, L, rfl, rfl, hp, hd, q⟩ := h
  cases rx
  cases ry
  obtain ⟨xs, pr, dd, hl, low⟩ := nd_of I hd.1 hd.2
  refine wpAny_in_heap (nd_room hu) (nd_key I hp) low dd ?_
  rw [nd_isSome pr]
  exact ⟨.bl _, H, I.tok _, rfl, by rw [Bool.false_bne] at q; exact q⟩
theorem op_ndNotIn (hu : X.A.units + 100 < cLine) : OpR X (compareOp .NotIn) (rNIn T X.prog X.w X.K true) := by
  intro pins s σ H x y v u Q I rx ry h
  obtain ⟨p, a, d, L, rfl, rfl, hp, hd, q⟩ := h
  cases rx
  cases ry
  obtain ⟨xs, pr, dd, hl, low⟩ := nd_of I hd.1 hd.2
  show wpAny _ _ (do return (Value.bool (!(← contains (.ref d) (.ref p))))) _ _ s
  refine wpAny_bind (wpAny_contains_heap (nd_room hu) (nd_key I hp) low dd (wpAny_pure ?_))
  rw [nd_isSome pr]
  exact ⟨.bl _, H, I.tok _, rfl, by rw [Bool.true_bne] at q; exact q⟩
theorem pget_nd (hu : X.A.units + 100 < cLine) : PGet X (rNGet T X.prog X.w X.K) := by
  intro pins s σ H o i ov iv Q I ro ri h
  obtain ⟨d, p, a, L, v, rfl, rfl, hp, hd, hv, q⟩ := h
  cases ro
  cases ri
  obtain ⟨xs, pr, dd, hl, low⟩ := nd_of I hd.1 hd.2
  obtain ⟨q', u, e, rv⟩ := (rent_at pr a).1 v hv
  exact wpAny_getItem_heap (nd_room hu) (nd_key I hp) dd e ⟨v, H, I.tok _, rv, q⟩
theorem pe_ndGet (hu : X.A.units + 100 < cLine) (ho : PE X o td) (hi : PE X i ty) (hs : NoSl i) : PE X (.Subscript o i pos) (tNGet T X.prog X.w X.K td ty) := by
  refine ⟨fun pins s σ H Q I h => subD_of PySem.F.slot_dict_getitem.lookup hs (thn (ho.run pins s σ H _ I h) fun u s1 ⟨x, H1, I1, rx, q1⟩ => thn (hi.run pins s1 σ H1 _ I1 q1) fun iv s2 ⟨y, H2, I2, ry, d, p, a, L, v, ex, ey, hp, hd, hv, q2⟩ => ?_)⟩
  subst ex ey
  refine ⟨?_, pget_nd T hu pins s2 σ H2 (.ref d) (.ref p) u iv Q I2 rx ry ⟨d, p, a, L, v, rfl, rfl, hp, hd, hv, q2⟩⟩
  cases rx
  obtain ⟨xs, _, dd, _⟩ := nd_of I2 hd.1 hd.2
  exact dd.typeIs
theorem set_nd (hu : X.A.units + 100 < cLine) : PSet X (rNSet T X.prog X.w X.K) := by
  intro pins s σ H o i v ov iv u Q I ro ri rv h
  obtain ⟨d, p, a, L, rfl, rfl, hp, hd, hz, q⟩ := h
  cases ro
  cases ri
  obtain ⟨xs, pr, dd, hl, low⟩ := nd_of I hd.1 hd.2
  have hz2 : xs.length ≤ sizeLine := by rw [← Paired.len pr]; exact hl
  refine wpAny_setItem_heap (hsz := hz2) (nd_room hu) (nd_key I hp) dd fun h' dd' sb => ⟨_, d_write (t' := s.toks + (nestedKind X.prog X.w).draws (T.key a)) I (by rw [hd.1]; exact True.intro) sb (let ⟨o, _, _, ho, _⟩ := dd'; ⟨o, ho⟩) (nd_new (Nat.le_trans (putE_len L a p v) hz) low (rent_put pr a p rv) dd'), q⟩
theorem nd_dictSet (hu : X.A.units + 100 < cLine) {pins : List (Addr × Obj)} {σ : L2.St} {H : Hp} {s : Shared} {E : Value → Shared → Prop} {d p : Addr} {L : List (Ent α)} {a : α} {v : V} {u : Value} {Q : Unit → Shared → Prop} (I : Inv X pins σ H s) (hd : NDAt T X.prog X.w X.K H d L) (hp : T.Is X.K H p a) (hz : L.length < sizeLine) (rv : RelV v u)
    (k : ∀ s', Inv X pins σ (upd H d (NDo X.prog X.w T d (putE L a p v))) s' → Q () s') : wpAny (model X.prog X.w) X.A (dictSet d (.ref p) u) Q E s := by
  obtain ⟨xs, pr, dd, hl, low⟩ := nd_of I hd.1 hd.2
  have hz2 : xs.length ≤ sizeLine := by rw [← Paired.len pr]; exact hl
  refine wpAny_dictSet_heap (hsz := hz2) (show X.A.units + 8 < cLine by omega) (nd_key I hp) dd fun h' dd' sb => k _ (d_write (t' := s.toks + (nestedKind X.prog X.w).draws (T.key a)) I (by rw [hd.1]; exact True.intro) sb (let ⟨o, _, _, ho, _⟩ := dd'; ⟨o, ho⟩) (nd_new (Nat.le_trans (putE_len L a p v) hz) low (rent_put pr a p rv) dd'))
theorem pe_ndGetOr (hu : X.A.units + 100 < cLine) (ho : PE X o td) (ha : PA X [e, f] t) (hbase : attributeBase o "get" X.env (eval o X.env) = eval o X.env := by rfl)
    (hfew : ((backTo cpos (starEach [e, f] X.env)).all (fun x => !x.1) && (backToKw cpos (keywordEach [] X.env)).all (fun x => x.1.isSome) && decide (([e, f] : List Expr).length + ([] : List Keyword).length + (if ([] : List Keyword).isEmpty then 0 else 1) < 30)) = true := by rfl)
    (hline : (apos.endLine == cpos.line) = true := by rfl) (hs : starEach [e, f] X.env = (false, eval e X.env) :: starEach [f] X.env := by rfl) (hplain : (backTo cpos (starEach [f] X.env)).any (·.1) = false := by rfl) :
    PE X (.Call (.Attribute o "get" apos) [e, f] [] cpos) (tNGetOr T X.prog X.w X.K td t) := by
  refine ⟨fun pins s σ H Q I h => wpAny_Call_method_late hbase hfew hline rfl (thn (ho.run pins s σ H _ I h) fun v s1 ⟨x, H1, I1, r1, ⟨d, L, ex, hd⟩, q1⟩ => ?_)⟩
  subst ex
  cases r1
  obtain ⟨xs, pr, dd, hl, low⟩ := nd_of I1 hd.1 hd.2
  obtain ⟨ob, es, ep, hob, hex, _⟩ := id dd
  refine ⟨"dict", "dict.get", PySem.F.plainAttrs_dict, PySem.F.slot_dict_get, PySem.F.type_dict_get, dd.typeIs, fun b hb => ?_, ?_⟩
  · cases hb
    exact ⟨ob, hob, hex.2.1⟩
  · have hA := ha.run cpos pins s1 σ H1 _ I1 q1
    rw [hs] at hA ⊢
    refine Calls.callWith_builtin (by show (false || (backTo cpos (starEach [f] X.env)).any (·.1)) = false; rw [hplain] <;> rfl) (Calls.evalArgs_plain (thn hA fun us s2 ⟨vs, H2, I2, r2, d', p, a, L2, z, e1, ev, hp, hd2, q⟩ => ?_))
    cases e1
    subst ev
    obtain ⟨u1, u2, rfl, ru1, ru2⟩ := vals2 r2
    cases ru1
    obtain ⟨ys, pr2, dd2, hl2, low2⟩ := nd_of I2 hd2.1 hd2.2
    refine call_meetsIn PySem.F.slot_dict_get dd2.typeIs PySem.F.entry_dict_get (PySem.F.args_dict_get_3 _ _ _) (meetsH_dict_get_default (nestedKind X.prog X.w) d p low2 u2) ⟨nd_room hu, T.key a, ys, nd_key I2 hp, dd2, ?_⟩
    have r := rent_at pr2 a
    cases hg : getE L2 a with
    | none =>
      rw [hg] at q
      rw [r.2 hg]
      exact ⟨z, H2, I2.tok _, ru2, q⟩
    | some y =>
      rw [hg] at q
      obtain ⟨q', u, e, rv⟩ := r.1 y hg
      rw [e]
      exact ⟨y, H2, I2.tok _, rv, q⟩
theorem cr_sortD [Inhabited α] (hc : X.calm = true) (hu : X.A.units + 100 < cLine) : CallR X (.builtin "sorted") (rSortD T X.prog X.w X.K) := by
  intro pins s σ H vs us Q I r h
  obtain ⟨d, L, rfl, hd, q⟩ := h
  rw [Vals.ref1 r]
  obtain ⟨xs, pr, dd, hl, low⟩ := nd_of I hd.1 hd.2
  obtain ⟨es, ep, raw, hes, hent⟩ := dd.raw
  have hn : es.size ≤ sizeLine := by rw [hes, ← Paired.len pr]; exact hl
  let A0 : List (Addr × α) := L.map fun e => (e.2.1, e.1)
  have hat : ∀ e ∈ A0, T.At s.heap e.1 e.2 := fun e he => by
    obtain ⟨f, hf, q⟩ := List.mem_map.mp he
    rw [← q]
    exact T.at_ I (hd.2 f hf)
  refine sorted_gen (KT.swo_of T.toKT default A0) (fun acc s1 => acc = A0.map (fun e => Value.ref e.1) ∧ ∃ h' tk, s1 = { s with heap := h', toks := tk } ∧ ∀ b o, s.heap.get? b = some o → h'.get? b = some o) (fun R hR => ?_) (fun acc s1 g => ?_) (fun acc s1 g h2 h₁ a ha kk => ?_) (fun acc s1 out h' dl n g h1 h2 kp hdl hn' => ?_)
  · refine PySem.W.kdu_collect (A := X.A.in1) (KdlSrc.rawDict (es := es) (ep := ep) low) (I.ok.hd hc) raw hn fun h' tk acc hk hacc => hR _ _ ⟨?_, h', tk, rfl, hk⟩
    refine List.ext_getElem? fun j => ?_
    rw [List.map_map, List.getElem?_map]
    cases hj : L[j]? with
    | none =>
      have : ¬ j < acc.toList.length := by
        rw [Array.length_toList, hacc.1, hes, ← Paired.len pr]
        exact Nat.not_lt.mpr (List.getElem?_eq_none_iff.mp hj)
      rw [List.getElem?_eq_none_iff.mpr (Nat.not_lt.mp this)]; rfl
    | some e =>
      have hjl : j < L.length := (List.getElem?_eq_some_iff.mp hj).1
      have hje : j < es.size := by rw [hes, ← Paired.len pr]; exact hjl
      have hja : j < acc.size := by rw [hacc.1]; exact hje
      obtain ⟨hi, ev⟩ := hacc.2 j acc[j] (by rw [Array.getElem?_eq_getElem hja])
      obtain ⟨y, hy, k1, _⟩ := hent j hi
      obtain ⟨x', hx', rr⟩ := Paired.at1 pr hj
      rw [hy] at hx'
      cases hx'
      rw [Array.getElem?_toList, Array.getElem?_eq_getElem hja, ev, k1, rr.2.1]; rfl
  · rw [g.1, List.length_map, List.length_map]; exact hl
  · obtain ⟨e1, h', tk, e2, hk⟩ := g
    subst e2
    rw [e1]
    refine KT.sortable T.toKT default (s := { s with heap := h₁, toks := tk }) (fun e he => T.keep (hat e he) fun b o z _ => (kk b o (hk b o z)).2) ?_ (not_tup ha) ?_
    · rw [e1, List.length_map] at h2
      omega
    · show X.A.units + 1 + 1 + 8 < cLine
      omega
  · obtain ⟨e1, h0, tk, e2, hk⟩ := g
    subst e2
    rw [e1] at h2
    obtain ⟨L', e', pm, sr⟩ := KT.out T.toKT default hat h1 h2.perm
    subst e'
    have I1 : Inv X pins σ H { s with heap := h0, toks := tk } := I.kept hk
    refine ⟨.ref dl, upd H dl (.lst (L'.map fun e => V.ref e.1)), I1.laid (t' := tk) (fun b o z => kp b o z) hdl ⟨?_, _, n, vals_refs L', hn'⟩, rfl, q L' dl pm sr (I1.hok.fresh hdl)⟩
    rw [List.length_map, pm.length_eq, List.length_map]
    exact hl
end
end
end K74

set_option Elab.async false
set_option linter.all false
set_option maxRecDepth 100000
set_option maxHeartbeats 4000000
/-! {k: v for ..}: the keys tuples of a kind -/
namespace K74
open PySem PySem.Spec PyProof.Rows L2
section
variable {α : Type} [DecidableEq α] (T : KK α)
def tNdc (P : Program) (w : World) (K : PySem.W.Frag) (wi : TI) (g : TG) (tk tv : TE) (vs : List Nat) : TE := fun σ H Q => wi σ H fun J H1 => ∀ D, H1 D = none → ∃ W : Nat → Nat → Hp → Prop, (∃ m, W 0 m (upd H1 D (NDo P w T D []))) ∧
  ∀ i m H2, W i m H2 → (J.stop i H2 ∧ Q (.ref D) H2) ∨ (J.go i H2 ∧ ∃ Nx : Hp → Prop, (∀ H3, Nx H3 → ∃ m3, m3 < m ∧ W (i + 1) m3 H3) ∧
    ∀ x H3, J.yld i H2 x H3 → g x (wipe σ vs) H3 fun ρ H4 => wipe ρ vs = wipe σ vs ∧ tk ρ H4 fun y H5 => tv ρ H5 fun z H6 => ∃ p a L, y = .ref p ∧ T.Is K H6 p a ∧ NDAt T P w K H6 D L ∧ L.length < sizeLine ∧ Nx (upd H6 D (NDo P w T D (putE L a p z))))
variable {X : Cx}
theorem ndc_run (hu : X.A.units + 100 < cLine) {kx vx tg iter : Expr} {scope : Scope} {own : List (Str × Nat)} {p1 p2 : Pos} {wi : TI} {g : TG} {tk tv : TE} {use : Option (Value → Sem Unit)} {Qf : Value → Shared → Prop} {pins : List (Addr × Obj)} {s0 : Shared} {σ : L2.St} {H : Hp} {Q : VK}
    (calm : X.calm = true) (nd : X.N.Nodup) (I0 : Inv X pins σ H s0) (it_ : PI X tg iter wi) (bo : BlkOk X.N X.env.scope scope own)
    (pg : ∀ (a : Shared) (b : Hp) (c : Addr) (d : List (Str × Addr)) (e : List Addr), PG (X.blk a b scope (compEnvC scope d c X.env) e) tg g)
    (pk : ∀ (a : Shared) (b : Hp) (c : Addr) (d : List (Str × Addr)) (e : List Addr), PE (X.blk a b scope (compEnvC scope d c X.env) e) kx tk)
    (pv' : ∀ (a : Shared) (b : Hp) (c : Addr) (d : List (Str × Addr)) (e : List Addr), PE (X.blk a b scope (compEnvC scope d c X.env) e) vx tv)
    (fold : ∀ x, foldedSetIterable iter X.env x = pure x) (rd : tNdc T X.prog X.w X.K wi g tk tv (own.map (·.2)) σ H Q)
    (fin : ∀ D c s' m H', Inv X pins σ H' s' → Q (.ref D) H' → s'.heap.Ns c m → FpOk X pins H' c → compPost (model X.prog X.w) X.A X.xe use Qf (.ref D) c (.ok .next) s') :
    wpAny (model X.prog X.w) X.A (comprehension (.DictComp kx vx [⟨tg, iter, [], 0⟩] scope p1) scope X.env p2 newDict false (eval iter X.env) use) Qf X.xe s0 := by
  have cellsOk : ∀ y ∈ scope.names, y.2 = .free → ∃ c, X.env.cells.lookup y.1 = some c := fun y hy fr => (bo.free y hy fr).elim (fun z => I0.ok.has _ (.inl z)) fun z => I0.ok.has _ (.inr z)
  have step0 := it_.run pins s0 σ H _ I0 rd
  refine wpAny_comprehension_free (use := use) rfl fold (closure_ok cellsOk) bo.kind (fun y hy fr => by rw [bo.uniq y hy, fr]) (thn step0 fun _ _ hx => thn hx fun _ s2 got => ?_)
  obtain ⟨it, fp, tn, J, H2, rfl, I2, TT, at0, fpok, cont⟩ := got
  refine wpAny_newObj_type (newEnv_comp ?_)
  -- the new dict at D
  obtain ⟨D, eD⟩ : ∃ D, s2.heap.objs.size = D := ⟨_, rfl⟩
  rw [eD]
  have dNone : H2 D = none := I2.hok.fresh (Nat.le_of_eq eD)
  obtain ⟨W, ⟨m0, w0⟩, turn⟩ := cont D dNone
  obtain ⟨s3, e3⟩ : ∃ s3 : Shared, ({ s2 with heap := s2.heap.push { cls := .type "dict", data := .dict #[] } } : Shared) = s3 := ⟨_, rfl⟩
  obtain ⟨H3, eH3⟩ : ∃ H3, upd H2 D (NDo X.prog X.w T D []) = H3 := ⟨_, rfl⟩
  have heap3 : s3.heap = s2.heap.push { cls := .type "dict", data := .dict #[] } := by rw [← e3]
  have I3 : Inv X pins σ H3 s3 := by
    rw [← e3, ← eH3]
    refine I2.laid (t' := s2.toks) (fun b o q => Heap.get?_push_of_some _ q) (Nat.le_of_eq eD) ?_
    rw [← eD]
    exact NDp.ok ⟨Nat.zero_le _, beq_eq_false_iff_ne.mpr (Ne.symm (Nat.ne_of_lt I2.big)), [], .nil, List.nodup_nil, _, #[], 0, Heap.get?_push_size _ rfl, ⟨rfl, rfl, rfl⟩, rfl, rfl⟩
  have below : ∀ b ∈ fp, b < s2.heap.objs.size := fun b hb => let ⟨o, q, _⟩ := TT.obj _ _ at0 b hb; Heap.lt_size q
  have fp3 : ∀ b ∈ fp, FpOk X pins H3 b ∧ b < s3.heap.objs.size := fun b hb => by
    have lt := below b hb
    refine ⟨⟨?_, (fpok b hb).2⟩, by rw [heap3, Heap.size_push]; exact Nat.lt_succ_of_lt lt⟩
    rw [← eH3, upd_ne (by rw [← eD]; exact Nat.ne_of_lt lt)]
    exact (fpok b hb).1
  have at3 : tn 0 s3.heap := TT.keep _ _ _ at0 fun b _ o q => by rw [heap3]; exact Heap.get?_push_of_some _ q
  have I4 := block_start I3 bo nd fp3
  have g4 := pg s3 H3 s3.heap.objs.size (cellsFrom (s3.heap.objs.size + 1) scope.names (cloFrom X.env.cells scope.names [])) fp
  have k4 := pk s3 H3 s3.heap.objs.size (cellsFrom (s3.heap.objs.size + 1) scope.names (cloFrom X.env.cells scope.names [])) fp
  have v4 := pv' s3 H3 s3.heap.objs.size (cellsFrom (s3.heap.objs.size + 1) scope.names (cloFrom X.env.cells scope.names [])) fp
  rw [eH3] at w0
  rw [e3]
  show codeAny _ _ (.compStart (.DictComp kx vx [⟨tg, iter, [], 0⟩] scope p1) 0 (.ref it) (.ref D) (compEnvC scope (cellsFrom (s3.heap.objs.size + 1) scope.names (cloFrom X.env.cells scope.names [])) s3.heap.objs.size X.env)) (compPost (model X.prog X.w) X.A X.xe use Qf (.ref D) s3.heap.objs.size) _
  obtain ⟨ce, ece⟩ : ∃ ce, compEnvC scope (cellsFrom (s3.heap.objs.size + 1) scope.names (cloFrom X.env.cells scope.names [])) s3.heap.objs.size X.env = ce := ⟨_, rfl⟩
  have loc : ce.locals = s3.heap.objs.size := by rw [← ece]; rfl
  rw [ece] at I4 g4 k4 v4 ⊢
  obtain ⟨s4, e4⟩ : ∃ s4 : Shared, ({ s3 with heap := pushCells (s3.heap.push { cls := .type "dict", data := .dict #[] }) scope.names } : Shared) = s4 := ⟨_, rfl⟩
  rw [e4] at I4 ⊢
  have at4 : tn 0 s4.heap := TT.keep _ _ _ at3 fun b _ o q => by rw [← e4]; exact pushCells_keeps _ _ _ _ (Heap.get?_push_of_some _ q)
  have quiet : ∀ {ρ : L2.St} {G : Hp} {z : Shared}, Inv (X.blk s3 H3 scope ce fp) [] ρ G z → (∀ b ∈ fp, G b = none) → ∀ b ∈ fp, FpOk (X.blk s3 H3 scope ce fp) [] G b := fun {ρ G z} J' hn b hb =>
    ⟨hn b hb, (J'.ok.exf b hb).1, J'.ok.exfs b hb, .inl hb, fun x c q => (J'.ok.exf b hb).2 x c q, fun e he => absurd (show e ∈ ([] : List (Addr × Obj)) ++ [] from he) (by simp)⟩
  refine codeAny_compStart_dict ?loop (TT.self X.A 0 _ _ _ at4 ?loop)
  refine compLoop_anyD (fun n z => ∃ i G, Inv (X.blk s3 H3 scope ce fp) [] (wipe σ (own.map (·.2))) G z ∧ tn i z.heap ∧ (∀ b ∈ fp, G b = none) ∧ W i n G) ?_ m0 ⟨0, H3, I4, at4, fun b hb => (fp3 b hb).1.1, w0⟩
  rintro n s5 ⟨i, H5, I5, at5, none5, w5⟩
  rcases turn i n H5 w5 with ⟨stop, last⟩ | ⟨go, Nx, toNext, body⟩
  · refine thnF (TT.done (X.blk s3 H3 scope ce fp) rfl rfl rfl calm i [] s5 _ H5 (fun _ _ => False) I5 (quiet I5 none5) at5 stop) fun r s6 ⟨er, I6⟩ => ?_
    subst er
    have I7 : Inv X pins σ H5 s6 := I3.call' (ch := fp) I6.os I6.base I6.hok I6.bare fun b hb => ⟨(fp3 b hb).1.2.2.2.1, (fp3 b hb).1.2.1, (fp3 b hb).1.2.2.2.2.1, (fp3 b hb).1.2.2.2.2.2⟩
    have hf : H5 s3.heap.objs.size = none := by
      have q : H5 ce.locals = none := I6.free
      rwa [loc] at q
    obtain ⟨m, hns, _⟩ := I6.loc
    replace hns : s6.heap.Ns ce.locals m := hns
    rw [loc] at hns
    exact fin D s3.heap.objs.size s6 m H5 I7 last hns (I3.fpOk (Nat.le_refl _) hf)
  · refine thnF (TT.item (X.blk s3 H3 scope ce fp) rfl rfl rfl calm i [] s5 _ H5 (fun _ _ => False) I5 (quiet I5 none5) at5 go) fun r s6 ⟨u, er, nxt⟩ => ?_
    subst er
    refine thnF nxt fun _ s7 ⟨x, H7, I7, rx, yl, at7, none7⟩ => ?_
    have I7p := I7.pinned (quiet I7 none7) (TT.obj _ _ at7)
    refine thnF (g4.run _ s7 _ H7 x u _ I7p rx (body x H7 yl)) fun _ s8 ⟨ρ, H8, I8, ew, q8⟩ => ?_
    refine thnF (Q := fun b z => b = true ∧ z = s8) (wpAny_tests_nil ⟨rfl, rfl⟩) fun b s9 ⟨eb, ez⟩ => ?_
    subst eb ez
    simp only [if_true]
    refine thnF (k4.run _ s9 ρ H8 _ I8 q8) fun kv s10 ⟨yk, H10, I10, rk, q10⟩ => ?_
    refine thnF (v4.run _ s10 ρ H10 _ I10 q10) fun vv s11 ⟨yv, H11, I11, rv, p, a, L, ey, isK, atD, short, nx⟩ => ?_
    subst ey
    cases rk
    refine nd_dictSet (X := X.blk s3 H3 scope ce fp) T hu I11 atD isK short rv fun s12 I12 => ?_
    obtain ⟨m', lt, w'⟩ := toNext _ nx
    have stay : ∀ b ∈ fp, ∀ o, s7.heap.get? b = some o → s12.heap.get? b = some o ∧ upd H11 D (NDo X.prog X.w T D (putE L a p yv)) b = none := fun b hb o q =>
      let z := I12.pin (b, o) (List.mem_append_right _ (List.mem_append_right _ (mem_pinsAt hb q)))
      ⟨z.1, z.2.1⟩
    have len : (wipe σ (own.map (·.2))).length = ρ.length := by rw [← ew, wipe_length]
    refine ⟨m', lt, i + 1, _, (I12.unpinned (pins := [])).weak len (fun j v q => ?_), TT.keep _ _ _ at7 fun b hb o q => (stay b hb o q).1, fun b hb => ?_, w'⟩
    · rw [← ew] at q
      exact (wipe_some q).1
    · obtain ⟨o, q, _⟩ := TT.obj _ _ at7 b hb
      exact (stay b hb o q).2
theorem pe_ndc (hu : X.A.units + 100 < cLine) {kx vx tg iter : Expr} {scope : Scope} {own : List (Str × Nat)} {pos : Pos} {wi : TI} {g : TG} {tk tv : TE} (calm : X.calm = true) (nd : X.N.Nodup) (it_ : PI X tg iter wi) (bo : BlkOk X.N X.env.scope scope own)
    (pg : ∀ (a : Shared) (b : Hp) (c : Addr) (d : List (Str × Addr)) (e : List Addr), PG (X.blk a b scope (compEnvC scope d c X.env) e) tg g)
    (pk : ∀ (a : Shared) (b : Hp) (c : Addr) (d : List (Str × Addr)) (e : List Addr), PE (X.blk a b scope (compEnvC scope d c X.env) e) kx tk)
    (pv' : ∀ (a : Shared) (b : Hp) (c : Addr) (d : List (Str × Addr)) (e : List Addr), PE (X.blk a b scope (compEnvC scope d c X.env) e) vx tv)
    (fold : ∀ x, foldedSetIterable iter X.env x = pure x := by intro _; rfl) : PE X (.DictComp kx vx [⟨tg, iter, [], 0⟩] scope pos) (tNdc T X.prog X.w X.K wi g tk tv (own.map (·.2))) := ⟨fun pins s σ H Q I h => by
  rw [arm_eval_DictComp]
  refine ndc_run T hu calm nd I it_ bo pg pk pv' fold h fun D c s' m H' J q hns f => ⟨m, hns, fun h2 sb => ?_⟩
  obtain ⟨f0, f1, f2, f3, f4, f5⟩ := f
  exact ⟨.ref D, H', J.turned (t' := s'.toks) (fun b o hb z => (sb.2 b hb).trans z) f0 f1 f3 f4 f5, rfl, q⟩⟩
/-- over a walk -/
theorem dc_it {J : It} {n : Nat} {G : Hp → Prop} {Y : Nat → Hp → V → Hp → Prop} (wk : Walk J n G Y) {P : Program} {w : World} {K : PySem.W.Frag} {g : TG} {tk tv : TE} {vs : List Nat} {σ : L2.St} {H1 : Hp} {D : Addr} {Qd : Hp → Prop} (Pv : Nat → Hp → Prop) (h0 : Pv 0 (upd H1 D (NDo P w T D [])))
    (hG : ∀ i H2, i ≤ n → Pv i H2 → G H2) (hs : ∀ i x H2 H3, i < n → Pv i H2 → Y i H2 x H3 → g x (wipe σ vs) H3 fun ρ H4 => wipe ρ vs = wipe σ vs ∧ tk ρ H4 fun y H5 => tv ρ H5 fun z H6 => ∃ p a L, y = .ref p ∧ T.Is K H6 p a ∧ NDAt T P w K H6 D L ∧ L.length < sizeLine ∧ Pv (i + 1) (upd H6 D (NDo P w T D (putE L a p z))))
    (hd : ∀ H2, Pv n H2 → Qd H2) : ∃ W : Nat → Nat → Hp → Prop, (∃ m, W 0 m (upd H1 D (NDo P w T D []))) ∧
      ∀ i m H2, W i m H2 → (J.stop i H2 ∧ Qd H2) ∨ (J.go i H2 ∧ ∃ Nx : Hp → Prop, (∀ H3, Nx H3 → ∃ m3, m3 < m ∧ W (i + 1) m3 H3) ∧
        ∀ x H3, J.yld i H2 x H3 → g x (wipe σ vs) H3 fun ρ H4 => wipe ρ vs = wipe σ vs ∧ tk ρ H4 fun y H5 => tv ρ H5 fun z H6 => ∃ p a L, y = .ref p ∧ T.Is K H6 p a ∧ NDAt T P w K H6 D L ∧ L.length < sizeLine ∧ Nx (upd H6 D (NDo P w T D (putE L a p z)))) := by
  refine ⟨fun i m H2 => m = n - i ∧ i ≤ n ∧ Pv i H2, ⟨_, rfl, Nat.zero_le _, h0⟩, ?_⟩
  rintro i m H2 ⟨rfl, hi, p⟩
  have gg := hG i H2 hi p
  rcases Nat.lt_or_ge i n with lt | ge
  · exact .inr ⟨wk.goes i H2 lt gg, Pv (i + 1), fun H3 p3 => ⟨n - (i + 1), by omega, rfl, lt, p3⟩, fun x H3 y => hs i x H2 H3 lt p (wk.yields i H2 x H3 lt gg y)⟩
  · have e : i = n := by omega
    subst e
    exact .inl ⟨wk.stops H2 gg, hd H2 p⟩
end
end K74

set_option linter.all false
set_option maxHeartbeats 4000000
/-! Plain: leading some on along a way, and what it does to a flow. -/
namespace K74
def bk (e : Ed) : Ed := (e.2, e.1)
theorem bk_bk (e : Ed) : bk (bk e) = e := rfl
theorem bk_inj {a b : Ed} (h : bk a = bk b) : a = b := by
  have := congrArg bk h
  exact this
/-- more can be led from a to b -/
def Res (told : List Rl) (G : Ed → Int) (a b : Wt) : Prop := (a, b) ∈ allE told ∨ ((b, a) ∈ allE told ∧ 0 < G (b, a))
/-- one next to the other -/
def prs : List Wt → List Ed
  | a :: b :: l => (a, b) :: prs (b :: l)
  | _ => []
def payE (told : List Rl) (m : Int) (G : Ed → Int) (e : Ed) : Ed → Int := if e ∈ allE told then fun x => G x + (if x = e then m else 0) else fun x => G x - (if x = bk e then m else 0)
def payAll (told : List Rl) (m : Int) (G : Ed → Int) (es : List Ed) : Ed → Int := es.foldl (payE told m) G
def payL (m : Int) (s t : Wt) (L : Wt → Int) : Wt → Int := fun w => (L w - if w = s then m else 0) + if w = t then m else 0
theorem prs_fst {us : List Wt} : ∀ e ∈ prs us, e.1 ∈ us ∧ e.2 ∈ us := by
  induction us with
  | nil => intro e h; cases h
  | cons a us ih =>
    cases us with
    | nil => intro e h; cases h
    | cons b l =>
      intro e h
      rcases List.mem_cons.mp h with q | q
      · subst q; exact ⟨List.mem_cons_self, List.mem_cons_of_mem _ List.mem_cons_self⟩
      · have := ih e q
        exact ⟨List.mem_cons_of_mem _ this.1, List.mem_cons_of_mem _ this.2⟩
theorem prs_nodup {us : List Wt} (h : us.Nodup) : (prs us).Nodup := by
  induction us with
  | nil => exact List.nodup_nil
  | cons a us ih =>
    cases us with
    | nil => exact List.nodup_nil
    | cons b l =>
      have h' := List.nodup_cons.mp h
      exact List.nodup_cons.mpr ⟨fun q => h'.1 (prs_fst _ q).1, ih h'.2⟩
theorem payE_at (told : List Rl) (m : Int) (G : Ed → Int) (e x : Ed) :
    payE told m G e x = G x + (if e ∈ allE told ∧ x = e then m else 0) - (if e ∉ allE told ∧ x = bk e then m else 0) := by
  unfold payE
  by_cases h : e ∈ allE told
  · rw [if_pos h, if_neg (show ¬ (e ∉ allE told ∧ x = bk e) from fun q => q.1 h)]
    have e1 : (e ∈ allE told ∧ x = e) = (x = e) := propext ⟨fun q => q.2, fun q => ⟨h, q⟩⟩
    simp only [e1]; omega
  · rw [if_neg h, if_neg (show ¬ (e ∈ allE told ∧ x = e) from fun q => h q.1)]
    have e1 : (e ∉ allE told ∧ x = bk e) = (x = bk e) := propext ⟨fun q => q.2, fun q => ⟨h, q⟩⟩
    simp only [e1]; omega
/-- all at once -/
theorem payAll_at (told : List Rl) (m : Int) : ∀ (es : List Ed) (G : Ed → Int) (x : Ed), es.Nodup →
    payAll told m G es x = G x + (if x ∈ es ∧ x ∈ allE told then m else 0) - (if bk x ∈ es ∧ bk x ∉ allE told then m else 0)
  | [], G, x, _ => by
    show G x = _
    have n1 : ¬ (x ∈ ([] : List Ed) ∧ x ∈ allE told) := fun q => by cases q.1
    have n2 : ¬ (bk x ∈ ([] : List Ed) ∧ bk x ∉ allE told) := fun q => by cases q.1
    rw [if_neg n1, if_neg n2]; omega
  | e :: es, G, x, nd => by
    have nd' := List.nodup_cons.mp nd
    show payAll told m (payE told m G e) es x = _
    rw [payAll_at told m es _ x nd'.2, payE_at]
    have a1 : (if e ∈ allE told ∧ x = e then m else 0) + (if x ∈ es ∧ x ∈ allE told then m else 0) = if x ∈ e :: es ∧ x ∈ allE told then m else 0 := by
      by_cases q : x = e
      · subst q
        rw [if_neg (fun z => nd'.1 z.1 : ¬ (x ∈ es ∧ x ∈ allE told))]
        by_cases r : x ∈ allE told
        · rw [if_pos ⟨r, rfl⟩, if_pos ⟨List.mem_cons_self, r⟩]; omega
        · rw [if_neg fun z => r z.1, if_neg fun z => r z.2]; rfl
      · rw [if_neg fun z => q z.2]
        by_cases r : x ∈ es ∧ x ∈ allE told
        · rw [if_pos r, if_pos ⟨List.mem_cons_of_mem _ r.1, r.2⟩]; omega
        · rw [if_neg r, if_neg fun z => r ⟨(List.mem_cons.mp z.1).resolve_left q, z.2⟩]; rfl
    have a2 : (if e ∉ allE told ∧ x = bk e then m else 0) + (if bk x ∈ es ∧ bk x ∉ allE told then m else 0) = if bk x ∈ e :: es ∧ bk x ∉ allE told then m else 0 := by
      by_cases q : x = bk e
      · have q' : bk x = e := by rw [q]; rfl
        rw [if_neg (fun z => nd'.1 (q' ▸ z.1) : ¬ (bk x ∈ es ∧ bk x ∉ allE told))]
        by_cases r : e ∈ allE told
        · rw [if_neg fun z => z.1 r, if_neg fun z => z.2 (by rw [q']; exact r)]; rfl
        · rw [if_pos ⟨r, q⟩, if_pos ⟨by rw [q']; exact List.mem_cons_self, by rw [q']; exact r⟩]; omega
      · have q' : ¬ bk x = e := fun z => q (by rw [← z]; rfl)
        rw [if_neg fun z => q z.2]
        by_cases r : bk x ∈ es ∧ bk x ∉ allE told
        · rw [if_pos r, if_pos ⟨List.mem_cons_of_mem _ r.1, r.2⟩]; omega
        · rw [if_neg r, if_neg fun z => r ⟨(List.mem_cons.mp z.1).resolve_left q', z.2⟩]; rfl
    omega
theorem gsum_payE {told : List Rl} (nd : (allE told).Nodup) (m : Int) (G : Ed → Int) (e : Ed) (h : e ∈ allE told ∨ bk e ∈ allE told) (φ : Wt → Int) :
    gsum told (payE told m G e) φ = gsum told G φ + m * (φ e.2 - φ e.1) := by
  unfold gsum payE
  by_cases q : e ∈ allE told
  · rw [if_pos q, ← lsum_bump (fun x => G x * (φ x.2 - φ x.1)) (m * (φ e.2 - φ e.1)) nd q]
    refine lsum_congr fun x _ => ?_
    by_cases r : x = e
    · subst r; rw [if_pos rfl, if_pos rfl, Int.add_mul]
    · rw [if_neg r, if_neg r, Int.add_zero, Int.add_zero]
  · have q' : bk e ∈ allE told := h.resolve_left q
    have z := lsum_bump (fun x => G x * (φ x.2 - φ x.1)) (m * (φ e.2 - φ e.1)) nd q'
    rw [if_neg q, ← z]
    refine lsum_congr fun x _ => ?_
    by_cases r : x = bk e
    · subst r
      rw [if_pos rfl, if_pos rfl, Int.sub_mul]
      show G (bk e) * (φ e.1 - φ e.2) - m * (φ e.1 - φ e.2) = G (bk e) * (φ e.1 - φ e.2) + m * (φ e.2 - φ e.1)
      have : φ e.2 - φ e.1 = - (φ e.1 - φ e.2) := by omega
      rw [this, Int.mul_neg]; omega
    · rw [if_neg r, if_neg r, Int.sub_zero, Int.add_zero]
theorem gsum_payAll {told : List Rl} (nd : (allE told).Nodup) (m : Int) (φ : Wt → Int) : ∀ (l : List Wt) (a : Wt) (G : Ed → Int), (∀ e ∈ prs (a :: l), e ∈ allE told ∨ bk e ∈ allE told) →
    gsum told (payAll told m G (prs (a :: l))) φ = gsum told G φ + m * (φ ((a :: l).getLast (by simp)) - φ a)
  | [], a, G, _ => by
    show gsum told G φ = gsum told G φ + m * (φ a - φ a)
    rw [Int.sub_self, Int.mul_zero, Int.add_zero]
  | b :: l, a, G, h => by
    show gsum told (payAll told m (payE told m G (a, b)) (prs (b :: l))) φ = _
    rw [gsum_payAll nd m φ l b _ fun e he => h e (List.mem_cons_of_mem _ he), gsum_payE nd m G (a, b) (h _ List.mem_cons_self)]
    show gsum told G φ + m * (φ b - φ a) + m * (φ ((b :: l).getLast (by simp)) - φ b) = gsum told G φ + m * (φ ((a :: b :: l).getLast (by simp)) - φ a)
    have e : (a :: b :: l).getLast (by simp) = (b :: l).getLast (by simp) := List.getLast_cons (by simp)
    rw [e]
    generalize φ ((b :: l).getLast _) = z
    rw [Int.add_assoc, ← Int.mul_add]
    congr 2; omega
theorem wsum_bump {n : Nat} (f : Wt → Int) (a : Wt) (ha : OkW n a) (d : Int) : wsum n (fun w => f w + if w = a then d else 0) = wsum n f + d := by
  rw [wsum_add, wsum_one (f := fun w => if w = a then d else 0) ha fun u _ hu => if_neg hu, if_pos rfl]
/-- what there is to lead along -/
def roomOf (told : List Rl) (G : Ed → Int) (e : Ed) : Int := if e ∈ allE told then 1000 else G (bk e)
/-- a way: from one that has to one that owes, each step open -/
structure Way (n : Nat) (told : List Rl) (G : Ed → Int) (L : Wt → Int) (us : List Wt) (s t : Wt) : Prop where
  ok : ∀ w ∈ us, OkW n w
  nd : us.Nodup
  hs : us.head? = some s
  ht : us.getLast? = some t
  ls : 0 < L s
  lt : L t < 0
  st : ∀ e ∈ prs us, Res told G e.1 e.2
theorem Way.room {n : Nat} {told : List Rl} {G : Ed → Int} {L : Wt → Int} {us : List Wt} {s t : Wt} (W : Way n told G L us s t) : ∀ e ∈ prs us, 1 ≤ roomOf told G e := fun e he => by
  unfold roomOf
  split
  · decide
  · rename_i h
    rcases W.st e he with q | q
    · exact absurd q h
    · exact q.2
/-- leading on along a way keeps all that holds, and less is left -/
theorem Flow.pay {n : Nat} {p : List Int} {told : List Rl} {G : Ed → Int} {L : Wt → Int} {us : List Wt} {s t : Wt} {m : Int} (T : Told n told) (F : Flow n p told G L) (W : Way n told G L us s t)
    (h1 : 1 ≤ m) (h2 : m ≤ L s) (h3 : m ≤ - L t) (h4 : ∀ e ∈ prs us, m ≤ roomOf told G e) :
    Flow n p told (payAll told m G (prs us)) (payL m s t L) ∧ total n (payL m s t L) + m = total n L := by
  have ne : s ≠ t := fun q => by
    have a := W.ls
    have b := W.lt
    rw [q] at a; omega
  have hsm : s ∈ us := List.mem_of_mem_head? W.hs
  have htm : t ∈ us := List.mem_of_getLast? W.ht
  have hso := W.ok s hsm
  have hto := W.ok t htm
  have gat := fun x => payAll_at told m (prs us) G x (prs_nodup W.nd)
  have tot : total n (payL m s t L) + m = total n L := by
    have e : total n (payL m s t L) = wsum n fun w => pos (L w) + if w = s then -m else 0 := wsum_congr fun w _ => by
      unfold payL pos
      by_cases q : w = s
      · rw [if_pos q, if_pos q, if_neg (fun z => ne (q.symm.trans z)), q]
        split <;> split <;> omega
      · rw [if_neg q, if_neg q]
        by_cases r : w = t
        · have b := W.lt
          rw [if_pos r, r]; split <;> split <;> omega
        · rw [if_neg r, Int.sub_zero, Int.add_zero, Int.add_zero]
    rw [e, wsum_bump _ s hso]
    show total n L + -m + m = total n L
    omega
  refine ⟨⟨fun φ => ?_, fun w hw h => ?_, fun w hw h => ?_, fun x => ?_, fun x => ?_⟩, tot⟩
  · have hst : ∀ e ∈ prs us, e ∈ allE told ∨ bk e ∈ allE told := fun e he => (W.st e he).imp id fun q => q.1
    obtain ⟨l, rfl⟩ : ∃ l, us = s :: l := by
      have q := W.hs
      cases us with
      | nil => cases q
      | cons a l => exact ⟨l, by rw [show a = s from Option.some.inj q]⟩
    have gl : (s :: l).getLast (by simp) = t := by
      have q := W.ht
      rw [List.getLast?_eq_some_getLast (by simp)] at q
      exact Option.some.inj q
    rw [gsum_payAll (allE_nodup T.ok T.nd) m φ l s G hst, gl]
    have e : wsum n (fun w => payL m s t L w * φ w) = wsum n fun w => (L w * φ w + if w = s then - (m * φ s) else 0) + if w = t then m * φ t else 0 := wsum_congr fun w _ => by
      unfold payL
      by_cases q : w = s
      · rw [if_pos q, if_pos q, if_neg (fun z => ne (q.symm.trans z)), if_neg (fun z => ne (q.symm.trans z)), q, Int.add_zero, Int.add_zero, Int.sub_mul]; omega
      · rw [if_neg q, if_neg q]
        by_cases r : w = t
        · rw [if_pos r, if_pos r, r, Int.sub_zero, Int.add_zero, Int.add_mul]
        · rw [if_neg r, if_neg r, Int.sub_zero, Int.add_zero, Int.add_zero, Int.add_zero]
    rw [e, wsum_bump _ t hto, wsum_bump _ s hso, F.bal φ, Int.mul_sub]; omega
  · have u := F.up w hw h
    unfold payL
    have b := W.lt
    by_cases q : w = s
    · rw [if_pos q, if_neg (fun z => ne (q.symm.trans z)), q]; omega
    · rw [if_neg q]
      by_cases r : w = t
      · rw [r] at u; omega
      · rw [if_neg r]; omega
  · have u := F.dn w hw h
    unfold payL
    have a := W.ls
    by_cases q : w = s
    · rw [q] at u; omega
    · rw [if_neg q]
      by_cases r : w = t
      · rw [if_pos r, r]; omega
      · rw [if_neg r]; omega
  · rw [gat]
    have g := F.gp x
    by_cases q : bk x ∈ prs us ∧ bk x ∉ allE told
    · have r := h4 _ q.1
      unfold roomOf at r
      rw [if_neg q.2, bk_bk] at r
      rw [if_pos q]; split <;> omega
    · rw [if_neg q]; split <;> omega
  · rw [gat]
    have g := F.gm x
    split <;> split <;> omega
/-- the places that were come by, where no way leads on -/
theorem Cut.of {n : Nat} {told : List Rl} {G : Ed → Int} {L : Wt → Int} (T : Told n told) (R : List Wt) (has : ∀ w, OkW n w → 0 < L w → w ∈ R) (no : ∀ w ∈ R, 0 ≤ L w)
    (cl : ∀ a ∈ R, ∀ b, Res told G a b → b ∈ R) : Cut n told G L fun w => decide (w ∈ R) where
  has := fun w h q => decide_eq_true (has w h q)
  no := fun w _ q => no w (of_decide_eq_true q)
  fwd := fun e he q => decide_eq_true (cl e.1 (of_decide_eq_true q) e.2 (.inl he))
  back := fun e he h q => decide_eq_true (cl e.2 (of_decide_eq_true q) e.1 (.inr ⟨he, h⟩))
end K74

set_option Elab.async false
set_option linter.all false
set_option maxRecDepth 100000
set_option maxHeartbeats 4000000
namespace K74
open PySem PySem.Spec PyProof.Rows L2
section
variable {α : Type} [DecidableEq α]
def Has (L : List (Ent α)) (y : α) : Prop := ∃ e ∈ L, e.1 = y
theorem has_nil (y : α) : ¬ Has ([] : List (Ent α)) y := fun ⟨_, h, _⟩ => by cases h
theorem has_get {L : List (Ent α)} {y : α} : Has L y ↔ (getE L y).isSome = true := by
  constructor
  · rintro ⟨e, he, rfl⟩
    unfold getE
    cases h : L.find? fun z => decide (z.1 = e.1) with
    | none =>
      have := List.find?_eq_none.mp h e he
      simp at this
    | some z => rfl
  · intro h
    obtain ⟨v, hv⟩ := Option.isSome_iff_exists.mp h
    obtain ⟨p, hp⟩ := getE_mem hv
    exact ⟨_, hp, rfl⟩
theorem has_put {L : List (Ent α)} {a y : α} {p : Addr} {v : V} : Has (putE L a p v) y ↔ y = a ∨ Has L y := by
  rw [has_get, has_get, getE_put]
  by_cases h : a = y
  · rw [if_pos h]
    exact ⟨fun _ => .inl h.symm, fun _ => rfl⟩
  · rw [if_neg h]
    exact ⟨.inr, fun z => z.resolve_left fun q => h q.symm⟩
end
section
variable {P : Program} {w : World} {K : PySem.W.Frag} {mg : Str → Option Value} {base : Heap} {C : Addr}
abbrev sSteps : Stmt := topS 29
/-- the wants one step from u -/
def StepsAt (told : List Rl) (u : Wt) (ws : List Wt) : Prop := ws.length ≤ 2 * told.length ∧ ∀ y, y ∈ ws ↔ (u, y) ∈ allE told
def spSteps (K : PySem.W.Frag) (C : Addr) : Sp := fun vs H Q _ => ∃ (v z : V) (n : Nat) (told : List Rl) (u : Wt), vs = [v, z] ∧ IsRs K C H v n told ∧ told.length ≤ 1000 ∧ IsW K H z u ∧
  ∀ H' a xs ws, Same H H' → H' a = some (.tup xs) → Paired (IsW K H') xs ws → StepsAt told u ws → Q (.ref a) H'
theorem scSteps : FnScope ["rules", "want", "found", "one", "other"] ["rules", "want"] (defScope sSteps) := ⟨rfl, rfl, rfl, by decide +kernel, rfl, by decide +kernel, by decide +kernel⟩
theorem mem_take_succ {told : List Rl} {i : Nat} {r : Rl} (h : told[i]? = some r) {e : Ed} : e ∈ allE (told.take (i + 1)) ↔ e ∈ allE (told.take i) ∨ e ∈ eds r := by
  unfold allE
  rw [List.take_succ, h, List.flatMap_append, List.mem_append]
  show _ ∨ e ∈ [r].flatMap eds ↔ _
  rw [List.flatMap_cons, List.flatMap_nil, List.append_nil]
theorem ndPut {α : Type} [DecidableEq α] {T : KK α} {H : Hp} {d p : Addr} {L : List (Ent α)} {a : α} {v : V} (h : NDAt T P w K H d L) (hp : T.Is K H p a) : NDAt T P w K (upd H d (NDo P w T d (putE L a p v))) d (putE L a p v) :=
  ⟨upd_same, (h.2.put hp).tk (Tk.write h.1 True.intro)⟩
theorem cSteps (B : Bl mg) (L : ClR K mg C) (c : Cal P w K mg base 1 "off" ["want"] (spOff K)) (A : At K mg "steps_of" "steps_of" sSteps ["rules", "want"]) : Cal P w K mg base 2 "steps_of" ["rules", "want"] (spSteps K C) := by
  refine A.cal scSteps (fun vs H Q E h => ?_) (fun f cdv A outer s H vs Q E hr h => ?_)
  · obtain ⟨v, z, n, told, u, rfl, _⟩ := h
    rfl
  · obtain ⟨v, z, n, told, u, rfl, ⟨a, dx, t, rfl, ha, ⟨ta, tx, rfl, st, pt⟩⟩, hlz, hz, q⟩ := h
    have hlen : tx.length = told.length := Paired.len pt
    refine ⟨_, pss_cons (ps_set (i := 2) scSteps.nd rfl (Or.inl rfl) (pe_ndNew kkW))
      (pss_cons (ps_for PassesOwn.never rfl (pi_tup (pe_fld (pv 0) rfl)) (pg_tup rfl (pgs_cons (pg_name (i := 3) scSteps.nd rfl (Or.inl rfl)) (pgs_cons (pg_name (i := 4) scSteps.nd rfl (Or.inl rfl)) pgs_nil)))
        (pss_cons (ps_if (pt_cmpR (op_eqW hr.units) (pe_cl c hr (by rfl) (pa_cons (pv 3) pa_nil)) (pv 1) (nomark _)) (pss_one (ps_asg pe_bl (pg_sub (pv 2) (pv 4) (set_nd kkW (hu100 hr))))) pss_nil)
          (pss_one (ps_if (pt_cmpR (op_eqW hr.units) (pe_cl c hr (by rfl) (pa_cons (pv 4) pa_nil)) (pv 1) (nomark _)) (pss_one (ps_asg pe_bl (pg_sub (pv 2) (pv 3) (set_nd kkW (hu100 hr))))) pss_nil))))
      (pss_one (ps_ret (pe_callTy call_tuple_of (by rfl) B.tuple boot_ty_tuple (pa_cons (pe_callB (cr_sortD kkW rfl (hu100 hr)) (by rfl) B.sorted boot_sorted (pa_cons (pv 2) pa_nil)) pa_nil))))), ?_⟩
    intro d hd
    let Pv : Nat → L2.St → Hp → Prop := fun i σ H' => Same H H' ∧ ∃ v1 v2 L, σ = [some (.ref a), some z, some (.ref d), v1, v2] ∧ NDAt kkW P w K H' d L ∧ L.length ≤ 2 * i ∧ ∀ y, Has L y ↔ (u, y) ∈ allE (told.take i)
    refine ⟨_, rfl, a, C, dx, _, _, rfl, samePut hd _ _ ha, L.cl, L.nT, rf_told n _, ta, rfl, ⟨_, (Tk.new hd).sq st⟩, for_tup (K := K) (a := ta) (xs := tx) Pv ?_ ?_ ?_ ?_⟩
    · refine ⟨samePut hd, none, none, [], rfl, ⟨upd_same, fun e he => by cases he⟩, Nat.le_refl _, fun y => ⟨fun h => absurd h (has_nil y), fun h => by cases h⟩⟩
    · rintro i σ H' hi ⟨s1, _⟩
      exact (tkS s1).sq st
    · rintro i x σ H1 hx ⟨s1, v1, v2, L, rfl, hL, hl, hk⟩
      obtain ⟨r, hr', ⟨⟨b, x1, x2, rfl, sb, w1, w2⟩, _⟩⟩ := Paired.at1 pt hx
      have hi : i < 1000 := by
        have := (List.getElem?_eq_some_iff.mp hr').1
        omega
      have t1 := tkS s1
      obtain ⟨p1, rfl, sq1⟩ := w1
      obtain ⟨p2, rfl, sq2⟩ := w2
      have w1 : IsW K H (.ref p1) r.1 := ⟨p1, rfl, sq1⟩
      have w2 : IsW K H (.ref p2) r.2 := ⟨p2, rfl, sq2⟩
      refine ⟨b, _, rfl, t1.sq sb, rfl, _, _, rfl, _, _, rfl, rfl, ?_⟩
      refine ⟨_, rfl, .ref p1, r.1, rfl, w1.tk t1, fun o1 ho1 => ⟨_, rfl, off r.1, u, IsW.new ho1, (hz.tk t1).tk (Tk.new ho1), _, rfl, ?_⟩⟩
      have s2 := s1.trans (samePut ho1 (o := .tup [.int r.1.1, .int (1 - r.1.2)]))
      have hL2 := hL.same (samePut ho1 (o := .tup [.int r.1.1, .int (1 - r.1.2)]))
      generalize upd H1 o1 (.tup [.int r.1.1, .int (1 - r.1.2)]) = H2 at s2 hL2 ⊢
      have mid : ∀ (H3 : Hp) (L3 : List (Ent Wt)), Same H H3 → NDAt kkW P w K H3 d L3 → L3.length ≤ 2 * i + 1 → (∀ y, Has L3 y ↔ (u, y) ∈ allE (told.take i) ∨ (u, y) = (off r.1, r.2)) →
          ∀ o2, H3 o2 = none → let H4 := upd H3 o2 (.tup [.int r.2.1, .int (1 - r.2.2)])
          (off r.2 = u → Pv (i + 1) [some (.ref a), some z, some (.ref d), some (.ref p1), some (.ref p2)] (upd H4 d (NDo P w kkW d (putE L3 r.1 p1 (.bl true))))) ∧
          (¬ off r.2 = u → Pv (i + 1) [some (.ref a), some z, some (.ref d), some (.ref p1), some (.ref p2)] H4) := fun H3 L3 s3 h3 l3 k3 o2 ho2 => by
        intro H4
        have s4 := s3.trans (samePut ho2 (o := .tup [.int r.2.1, .int (1 - r.2.2)]))
        have h4 := h3.same (samePut ho2 (o := .tup [.int r.2.1, .int (1 - r.2.2)]))
        refine ⟨fun e => ⟨sameOver hd s4, _, _, _, rfl, ndPut h4 (w1.tk (tkS s4)), ?_, fun y => ?_⟩, fun e => ⟨s4, _, _, _, rfl, h4, by omega, fun y => ?_⟩⟩
        · have := putE_len L3 r.1 p1 (.bl true)
          omega
        · rw [has_put, k3, mem_take_succ hr', mem_eds, ← e]
          constructor
          · rintro (rfl | q | q)
            · exact .inr (.inr rfl)
            · exact .inl q
            · exact .inr (.inl q)
          · rintro (q | q | q)
            · exact .inr (.inl q)
            · exact .inr (.inr q)
            · exact .inl (Prod.mk.inj q).2
        · rw [k3, mem_take_succ hr', mem_eds]
          constructor
          · rintro (q | q)
            · exact .inl q
            · exact .inr (.inl q)
          · rintro (q | q | q)
            · exact .inl q
            · exact .inr q
            · exact absurd (Prod.mk.inj q).1.symm e
      refine ite2 (fun h => ?_) (fun h => ?_)
      · have e := of_decide_eq_true h
        refine ⟨_, rfl, _, rfl, d, p2, r.2, L, rfl, rfl, w2.tk (tkS s2), hL2, szBig (by omega), ?_⟩
        have h3 := ndPut (v := .bl true) hL2 (show kkW.Is K H2 p2 r.2 from w2.tk (tkS s2))
        have s3 : Same H (upd H2 d (NDo P w kkW d (putE L r.2 p2 (.bl true)))) := sameOver hd s2
        have l3 := putE_len L r.2 p2 (.bl true)
        have md := mid _ _ s3 h3 (by omega) fun y => by
          rw [has_put, hk, ← e]
          constructor
          · rintro (rfl | q)
            · exact .inr rfl
            · exact .inl q
          · rintro (q | q)
            · exact .inr q
            · exact .inl (Prod.mk.inj q).2
        refine ⟨_, rfl, .ref p2, r.2, rfl, w2.tk (tkS s3), fun o2 ho2 => ⟨_, rfl, off r.2, u, IsW.new ho2, (hz.tk (tkS s3)).tk (Tk.new ho2), _, rfl, ?_⟩⟩
        have md2 := md o2 ho2
        refine ite2 (fun h => ?_) (fun h => ?_)
        · exact ⟨_, rfl, _, rfl, d, p1, r.1, _, rfl, rfl, (w1.tk (tkS s3)).tk (Tk.new ho2), h3.same (samePut ho2), szBig (by omega), md2.1 (of_decide_eq_true h)⟩
        · exact md2.2 fun q => h (decide_eq_true q)
      · have ne : ¬ off r.1 = u := fun q => h (decide_eq_true q)
        have md := mid _ _ s2 hL2 (by omega) fun y => by
          rw [hk]
          exact ⟨.inl, fun q => q.resolve_right fun z => ne (Prod.mk.inj z).1.symm⟩
        refine ⟨_, rfl, .ref p2, r.2, rfl, w2.tk (tkS s2), fun o2 ho2 => ⟨_, rfl, off r.2, u, IsW.new ho2, (hz.tk (tkS s2)).tk (Tk.new ho2), _, rfl, ?_⟩⟩
        have md2 := md o2 ho2
        refine ite2 (fun h => ?_) (fun h => ?_)
        · exact ⟨_, rfl, _, rfl, d, p1, r.1, _, rfl, rfl, (w1.tk (tkS s2)).tk (Tk.new ho2), hL2.same (samePut ho2), szBig (by omega), md2.1 (of_decide_eq_true h)⟩
        · exact md2.2 fun q => h (decide_eq_true q)
    · rintro σ H1 ⟨s1, v1, v2, L, rfl, hL, hl, hk⟩
      refine ⟨_, rfl, d, L, rfl, hL, fun L' l pm sr hl0 => ⟨l, _, rfl, .inl ⟨SqL.of upd_same, fun a' ha' => ?_⟩⟩⟩
      have s2 := s1.trans (samePut hl0 (o := .lst (L'.map fun e => V.ref e.1)))
      have s3 := s2.trans (samePut ha' (o := .tup (L'.map fun e => V.ref e.1)))
      refine q _ a' _ (L'.map (·.2)) s3 upd_same ?_ ⟨?_, fun y => ?_⟩
      · have iw : ∀ e ∈ L', IsW K H1 (.ref e.1) e.2 := fun e he => by
          obtain ⟨f, hf, e1⟩ := List.mem_map.mp (pm.mem_iff.mp he)
          have := hL.2 f hf
          rw [← e1]
          exact this
        have t3 : Tk H1 (upd (upd H1 l (.lst (L'.map fun e => V.ref e.1))) a' (.tup (L'.map fun e => V.ref e.1))) := (Tk.new hl0).trans (Tk.new ha')
        clear sr pm ha' s2 s3 
        revert iw t3
        generalize upd (upd H1 l (.lst (L'.map fun e => V.ref e.1))) a' (.tup (L'.map fun e => V.ref e.1)) = H9
        intro iw t3
        induction L' with
        | nil => exact .nil
        | cons e L' ih => exact .cons ((iw e List.mem_cons_self).tk t3) (ih fun e' he => iw e' (List.mem_cons_of_mem _ he))
      · rw [List.length_map, pm.length_eq, List.length_map, ← hlen]; exact hl
      · have e1 : y ∈ L'.map (·.2) ↔ Has L y := by
          rw [List.mem_map]
          constructor
          · rintro ⟨e, he, rfl⟩
            obtain ⟨f, hf, e1⟩ := List.mem_map.mp (pm.mem_iff.mp he)
            exact ⟨f, hf, by rw [← e1]⟩
          · rintro ⟨f, hf, rfl⟩
            exact ⟨(f.2.1, f.1), pm.mem_iff.mpr (List.mem_map.mpr ⟨f, hf, rfl⟩), rfl⟩
        rw [e1, hk, hlen, List.take_length]
end
end K74

set_option Elab.async false
set_option linter.all false
set_option maxRecDepth 100000
set_option maxHeartbeats 4000000
namespace K74
open PySem PySem.Spec PyProof.Rows L2
/-! ### the class Purses -/
structure ClP (K : PySem.W.Frag) (mg : Str → Option Value) (C : Addr) : Prop where
  cl : Cls K C
  nS : NoAttr K C "steps"
  nL : NoAttr K C "left"
  nG : NoAttr K C "given"
  mgC : mg "Purses" = some (.ref C)
def pf (a b c : Addr) : List (Str × V) := putF "given" (.ref c) (putF "left" (.ref b) (putF "steps" (.ref a) []))
theorem pf_ne1 : ¬ (("steps" : Str) = "given") := by decide +kernel
theorem pf_ne2 : ¬ (("steps" : Str) = "left") := by decide +kernel
theorem pf_ne3 : ¬ (("left" : Str) = "given") := by decide +kernel
theorem pf_given (a b c : Addr) : (pf a b c).lookup ("given" : Str) = some (.ref c) := by
  unfold pf
  rw [lookup_putF, if_pos rfl]
theorem pf_left (a b c : Addr) : (pf a b c).lookup ("left" : Str) = some (.ref b) := by
  unfold pf
  rw [lookup_putF, if_neg pf_ne3, lookup_putF, if_pos rfl]
theorem pf_steps (a b c : Addr) : (pf a b c).lookup ("steps" : Str) = some (.ref a) := by
  unfold pf
  rw [lookup_putF, if_neg pf_ne1, lookup_putF, if_neg pf_ne2, lookup_putF, if_pos rfl]
theorem pf_no {a b c : Addr} {m : Str} (h1 : ¬ (m = "given")) (h2 : ¬ (m = "left")) (h3 : ¬ (m = "steps")) : (pf a b c).lookup m = none := by
  unfold pf
  rw [lookup_putF, if_neg h1, lookup_putF, if_neg h2, lookup_putF, if_neg h3]; rfl
structure Pud where
  p : Addr
  dp : Addr
  ds : Addr
  dl : Addr
  dg : Addr
  Ls : List (Ent Wt)
  Ll : List (Ent Wt)
  Lg : List (Ent Rl)
def StepsOk (K : PySem.W.Frag) (H : Hp) (n : Nat) (told : List Rl) (L : List (Ent Wt)) : Prop := ∀ u, OkW n u → ∃ a xs ws, getE L u = some (.ref a) ∧ SqT K H a xs ∧ Paired (IsW K H) xs ws ∧ StepsAt told u ws
structure Pu (P : Program) (w : World) (K : PySem.W.Frag) (C : Addr) (H0 H : Hp) (n : Nat) (told : List Rl) (G : Ed → Int) (L : Wt → Int) (x : Pud) : Prop where
  obj : H x.p = some (.ins C x.dp (pf x.ds x.dl x.dg))
  st : NDAt kkW P w K H x.ds x.Ls
  lt : NDAt kkW P w K H x.dl x.Ll
  gv : NDAt kkP P w K H x.dg x.Lg
  sl : x.ds ≠ x.dl
  sg : x.ds ≠ x.dg
  lg : x.dl ≠ x.dg
  same : Same H0 H
  n0l : H0 x.dl = none
  n0g : H0 x.dg = none
  steps : StepsOk K H n told x.Ls
  left : ∀ u, OkW n u → getE x.Ll u = some (.int (L u))
  lok : ∀ e ∈ x.Ll, OkW n e.1
  llen : x.Ll.length ≤ 2 * n
  given : ∀ e, getE x.Lg e = some (.int (G e)) ∨ (getE x.Lg e = none ∧ G e = 0)
  gok : ∀ e ∈ x.Lg, e.1 ∈ allE told
  gnd : (x.Lg.map (·.1)).Nodup
structure Few (n : Nat) (told : List Rl) : Prop where
  n8 : n ≤ 8
  tl : told.length ≤ 1000
  T : Told n told
theorem StepsOk.tk {K : PySem.W.Frag} {H H' : Hp} {n : Nat} {told : List Rl} {L : List (Ent Wt)} (h : StepsOk K H n told L) (t : Tk H H') : StepsOk K H' n told L := fun u hu =>
  let ⟨a, xs, ws, e, s, p, q⟩ := h u hu
  ⟨a, xs, ws, e, t.sq s, Paired.mono (fun _ _ z => IsW.tk z t) p, q⟩
theorem Pu.go {P : Program} {w : World} {K : PySem.W.Frag} {C : Addr} {H0 H H' : Hp} {n : Nat} {told : List Rl} {G : Ed → Int} {L : Wt → Int} {x : Pud} (h : Pu P w K C H0 H n told G L x) (s : Same H H') : Pu P w K C H0 H' n told G L x :=
  { h with obj := s _ _ h.obj, st := h.st.same s, lt := h.lt.same s, gv := h.gv.same s, same := h.same.trans s, steps := h.steps.tk (tkS s) }
theorem allE_len (told : List Rl) : (allE told).length ≤ 2 * told.length := by
  unfold allE
  induction told with
  | nil => exact Nat.le_refl _
  | cons r told ih =>
    rw [List.flatMap_cons, List.length_append, List.length_cons]
    have : (eds r).length ≤ 2 := by unfold eds; split <;> exact Nat.le_of_ble_eq_true rfl
    omega
theorem nd_len {α : Type} [DecidableEq α] : ∀ {l m : List α}, l.Nodup → (∀ a ∈ l, a ∈ m) → l.length ≤ m.length
  | [], m, _, _ => Nat.zero_le _
  | a :: l, m, nd, h => by
    have nd' := List.nodup_cons.mp nd
    have h1 := h a List.mem_cons_self
    have h2 := nd_len (m := m.erase a) nd'.2 fun b hb => (List.mem_erase_of_ne (fun e => nd'.1 (by rw [← e]; exact hb))).mpr (h b (List.mem_cons_of_mem _ hb))
    rw [List.length_erase_of_mem h1] at h2
    have : 0 < m.length := List.length_pos_of_mem h1
    rw [List.length_cons]
    omega
theorem Pu.glen {P : Program} {w : World} {K : PySem.W.Frag} {C : Addr} {H0 H : Hp} {n : Nat} {told : List Rl} {G : Ed → Int} {L : Wt → Int} {x : Pud} (h : Pu P w K C H0 H n told G L x) : x.Lg.length ≤ 2 * told.length := by
  have q := nd_len h.gnd fun e he => by
    obtain ⟨f, hf, rfl⟩ := List.mem_map.mp he
    exact h.gok f hf
  rw [List.length_map] at q
  exact Nat.le_trans q (allE_len told)
theorem okw_ix {n : Nat} {u : Wt} (h : OkW n u) : ∃ k, k < 2 * n ∧ u = wAt k := by
  have m := mem_allW.mpr h
  unfold allW at m
  obtain ⟨k, hk, e⟩ := List.mem_map.mp m
  exact ⟨k, List.mem_range.mp hk, e.symm⟩
theorem ndAt_mv {α : Type} [DecidableEq α] {T : KK α} {P : Program} {w : World} {K : PySem.W.Frag} {H H' : Hp} {d : Addr} {L : List (Ent α)} (h : NDAt T P w K H d L) (e : H' d = H d) (t : Tk H H') : NDAt T P w K H' d L := ⟨e.trans h.1, h.2.tk t⟩
section
variable {P : Program} {w : World} {K : PySem.W.Frag} {mg : Str → Option Value} {base : Heap} {C C2 : Addr}
abbrev sPInit : Stmt := inClass (topS 39) 0
def spPInit (P : Program) (w : World) (K : PySem.W.Frag) (C C2 : Addr) : Sp := fun vs H Q _ => ∃ (p dx : Addr) (v z : V) (n : Nat) (told : List Rl) (ps : List Int), vs = [.ref p, v, z] ∧ H p = some (.ins C2 dx []) ∧ IsRs K C H v n told ∧ IsTi K H z ps ∧ Priced n ps ∧ n ≤ 8 ∧ told.length ≤ 1000 ∧
  ∃ H0, Same H0 H ∧ H0 p = none ∧ ∀ H' x, x.p = p → Pu P w K C2 H0 H' n told (fun _ => 0) (left0 ps) x → Q .non H'
theorem scPInit : FnScope ["self", "rules", "prices", "want"] ["self", "rules", "prices"] (defScope sPInit) := ⟨rfl, rfl, rfl, by decide +kernel, rfl, by decide +kernel, by decide +kernel⟩
theorem cPInit (B : Bl mg) (L : ClR K mg C) (L2 : ClP K mg C2) (c1 : Cal P w K mg base 1 "all_wants" ["many"] (spAllWants K)) (c2 : Cal P w K mg base 2 "steps_of" ["rules", "want"] (spSteps K C)) (A : IAt K C2 "Purses.__init__" sPInit ["self", "rules", "prices"]) :
    ICal P w K mg base C2 3 ["self", "rules", "prices"] (spPInit P w K C C2) := by
  refine A.cal scPInit (fun vs H Q E h => ?_) (fun f cdv A outer s H vs Q E hr h => ?_)
  · obtain ⟨p, dx, v, z, n, told, ps, rfl, _⟩ := h
    rfl
  · obtain ⟨p, dx, v, z, n, told, ps, rfl, hp, hv, ⟨za, rfl, hz⟩, ⟨pl, pb⟩, hn8, htl, H0, s0, hp0, q⟩ := h
    have hr1 : Room 1 (A.deeper (envOfC "Purses.__init__" (defScope sPInit) s.heap.objs.size f cdv)) := hr.mono (by decide)
    refine ⟨_, pss_cons (ps_fld (pv 0) (pe_ndc kkW (own := [("want", 3)]) (g := gName 3) (tk := tVar 3) (tv := tCall (spSteps K C) [] E0 (tCons (tVar 1) (tCons (tVar 3) tNil))) (hu100 hr) rfl scPInit.nd (pi_list (pe_cl c1 hr1 (by rfl) (pa_cons (pe_fld (pv 1) rfl) pa_nil))) (blkOk_by (own := [("want", 3)]) (N := ["self", "rules", "prices", "want"]) (sc := defScope sPInit) (by decide +kernel))
          (fun _ _ _ _ _ => pg_name (i := 3) scPInit.nd rfl (Or.inl rfl)) (fun _ _ _ _ _ => pv 3) (fun _ _ _ _ _ => pe_cl c2 hr (by rfl) (pa_cons (pv 1) (pa_cons (pv 3) pa_nil)))) rfl)
      (pss_cons (ps_fld (pv 0) (pe_ndc kkW (own := [("want", 3)]) (g := gName 3) (tk := tVar 3) (tv := tOp (rI CMul fun i j => .int (i * j)) (tOp (rIxT K) (tVar 2) (tOp (rIxT K) (tVar 3) (tC (.int 0)))) (tOp (rI0 fun i j => .int (i - j)) (tC (.int 1)) (tOp (rI CMul fun i j => .int (i * j)) (tC (.int 2)) (tOp (rIxT K) (tVar 3) (tC (.int 1)))))) (hu100 hr) rfl scPInit.nd (pi_list (pe_cl c1 hr1 (by rfl) (pa_cons (pe_fld (pv 1) rfl) pa_nil))) (blkOk_by (own := [("want", 3)]) (N := ["self", "rules", "prices", "want"]) (sc := defScope sPInit) (by decide +kernel))
          (fun _ _ _ _ _ => pg_name (i := 3) scPInit.nd rfl (Or.inl rfl)) (fun _ _ _ _ _ => pv 3) (fun _ _ _ _ _ => pe_op op_mul (x_ix (pv 2) (x_ix (pv 3) pe_int)) (pe_op op_sub pe_int (pe_op op_mul pe_int (x_ix (pv 3) pe_int))))) rfl)
      (pss_one (ps_fld (pv 0) (pe_ndNew kkP) rfl))), ?_⟩
    obtain ⟨ra, rdx, t, rfl, hra, htl'⟩ := hv
    have rap : ra ≠ p := fun e => by
      rw [e, hp] at hra
      have z : (rf n t).lookup ("wide" : Str) = some (.int n) := rf_wide n t
      have e2 : ([] : List (Str × V)) = rf n t := (HO.ins.inj (Option.some.inj hra)).2.2
      rw [← e2] at z
      cases z
    -- the steps
    refine ⟨_, rfl, ra, C, rdx, _, _, rfl, hra, L.cl, L.nW, rf_wide n t, n, rfl, hn8, fun H1 D0 ys s1 hD0 pr => ⟨D0, rfl, ⟨_, SqL.of hD0⟩, fun D hD => ?_⟩⟩
    have hyl : ys.length = 2 * n := by rw [Paired.len pr, allW_len]
    have atw : ∀ {i x}, ys[i]? = some x → i < 16 ∧ IsW K H1 x (wAt i) := fun {i x} hx => by
      have hi := (List.getElem?_eq_some_iff.mp hx).1
      obtain ⟨u, hu, iw⟩ := Paired.at1 pr hx
      rw [allW_get (by omega)] at hu
      cases hu
      exact ⟨by omega, iw⟩
    let Pv : Nat → Hp → Prop := fun i H2 => Same H1 H2 ∧ ∃ Ls, NDAt kkW P w K H2 D Ls ∧ Ls.length ≤ i ∧ ∀ k, k < i → ∃ a xs ws, getE Ls (wAt k) = some (.ref a) ∧ SqT K H2 a xs ∧ Paired (IsW K H2) xs ws ∧ StepsAt told (wAt k) ws
    refine dc_it (T := kkW) (walk_list (K := K) (a := D0) (xs := ys)) Pv ⟨samePut hD, [], ⟨upd_same, fun e he => by cases he⟩, Nat.le_refl _, fun k hk => absurd hk (Nat.not_lt_zero _)⟩ (fun i H2 _ p => SqL.of (p.1 _ _ hD0)) ?_ ?_
    · rintro i x H2 H3 hi ⟨s2, Ls, a1, a2, a3⟩ ⟨rfl, hx⟩
      obtain ⟨hi16, iw⟩ := atw hx
      obtain ⟨pk, rfl, sk⟩ := id iw
      have s3 := s1.trans s2
      refine ⟨rfl, _, rfl, _, rfl, _, rfl, .ref ra, .ref pk, n, told, wAt i, rfl, ⟨ra, rdx, t, rfl, s3 _ _ hra, htl'.tk (tkS s3)⟩, htl, iw.tk (tkS s2), fun H' a xs ws s4 ha pw sa => ?_⟩
      have b1 := a1.same s4
      have ik : kkW.Is K H' pk (wAt i) := iw.tk (tkS (s2.trans s4))
      refine ⟨pk, wAt i, Ls, rfl, ik, b1, szBig (by omega), ?_⟩
      have s5 : Same H1 (upd H' D (NDo P w kkW D (putE Ls (wAt i) pk (.ref a)))) := sameOver hD (s2.trans s4)
      have t5 : Tk H' (upd H' D (NDo P w kkW D (putE Ls (wAt i) pk (.ref a)))) := Tk.write b1.1 True.intro
      refine ⟨s5, _, ndPut b1 ik, Nat.le_trans (putE_len _ _ _ _) (Nat.succ_le_succ a2), fun k hk => ?_⟩
      by_cases e : wAt i = wAt k
      · rw [← e]
        exact ⟨a, xs, ws, by rw [getE_put, if_pos rfl], t5.sq (SqT.of ha), Paired.mono (fun _ _ z => IsW.tk z t5) pw, sa⟩
      · have hk' : k < i := Nat.lt_of_le_of_ne (Nat.le_of_lt_succ hk) fun z => e (by rw [z])
        obtain ⟨a', xs', ws', e1, e2, e3, e4⟩ := a3 k hk'
        exact ⟨a', xs', ws', by rw [getE_put, if_neg e]; exact e1, t5.sq ((tkS s4).sq e2), Paired.mono (fun _ _ z => IsW.tk z ((tkS s4).trans t5)) e3, e4⟩
    · rintro H2 ⟨s2, Ls, a1, a2, a3⟩
      rw [hyl] at a2 a3
      have s3 := s1.trans s2
      have hp2 := s3 _ _ hp
      refine ⟨_, rfl, p, C2, dx, [], rfl, hp2, L2.cl, L2.nS, (by show 0 < 1000; decide), ?_⟩
      obtain ⟨f1, ef1⟩ : ∃ f1, putF ("steps" : Str) (.ref D) ([] : List (Str × V)) = f1 := ⟨_, rfl⟩
      rw [ef1]
      obtain ⟨Ha, eHa⟩ : ∃ Ha, upd H2 p (.ins C2 dx f1) = Ha := ⟨_, rfl⟩
      rw [eHa]
      have hpa : Ha p = some (.ins C2 dx f1) := by rw [← eHa]; exact upd_same
      have ka : Kp (· = p) H Ha := fun b o hb e => by rw [← eHa, upd_ne hb]; exact s3 _ _ e
      have ta : Tk H2 Ha := by rw [← eHa]; exact Tk.write hp2 True.intro
      have Dp : D ≠ p := fun e => by
        have z := s1 _ _ hp
        rw [← e, hD] at z
        cases z
      have da : NDAt kkW P w K Ha D Ls := ndAt_mv a1 (by rw [← eHa, upd_ne Dp]) ta
      have soka : StepsOk K Ha n told Ls := fun u hu => by
        obtain ⟨k, hk2, rfl⟩ := okw_ix hu
        obtain ⟨a', xs', ws', e1, e2, e3, e4⟩ := a3 k hk2
        exact ⟨a', xs', ws', e1, ta.sq e2, Paired.mono (fun _ _ z => IsW.tk z ta) e3, e4⟩
      have tHa : Tk H Ha := (tkS s3).trans ta
      -- what is left
      refine ⟨_, rfl, ra, C, rdx, _, _, rfl, ka _ _ rap hra, L.cl, L.nW, rf_wide n t, n, rfl, hn8, fun H3 D3 zs s4 hD3 pz => ⟨D3, rfl, ⟨_, SqL.of hD3⟩, fun D2 hD2 => ?_⟩⟩
      have hzl : zs.length = 2 * n := by rw [Paired.len pz, allW_len]
      let Pw : Nat → Hp → Prop := fun i H4 => Same H3 H4 ∧ ∃ Ll, NDAt kkW P w K H4 D2 Ll ∧ Ll.length ≤ i ∧ (∀ e ∈ Ll, OkW n e.1) ∧ ∀ k, k < i → getE Ll (wAt k) = some (.int (left0 ps (wAt k)))
      refine dc_it (T := kkW) (walk_list (K := K) (a := D3) (xs := zs)) Pw ⟨samePut hD2, [], ⟨upd_same, fun e he => by cases he⟩, Nat.le_refl _, (fun e he => by cases he), fun k hk => absurd hk (Nat.not_lt_zero _)⟩ (fun i H2 _ p => SqL.of (p.1 _ _ hD3)) ?_ ?_
      · rintro i x H4 H5 hi ⟨s5, Ll, b1, b2, b3, b4⟩ ⟨rfl, hx⟩
        have hi2 : i < 2 * n := by omega
        obtain ⟨u, hu, iw⟩ := Paired.at1 pz hx
        rw [allW_get hi2] at hu
        cases hu
        have ow : OkW n (wAt i) := mem_allW.mp (List.mem_of_getElem? (allW_get hi2))
        obtain ⟨pk, rfl, sk⟩ := id iw
        have t6 : Tk Ha H5 := tkS (s4.trans s5)
        have ok1 : (0 : Int) ≤ (wAt i).1 := ow.1
        have ok2 : (wAt i).1 < (ps.length : Int) := by rw [pl]; exact ow.2.1
        have sk5 := (tkS s5).sq sk
        refine ⟨rfl, _, rfl, _, rfl, _, rfl, pk, _, _, _, rfl, rfl, sk5, rfl, za, _, _, _, rfl, rfl, t6.sq (tHa.sq hz), atI_getD ok1 ok2, _, rfl, pk, _, _, _, rfl, rfl, sk5, rfl, _, _, rfl, rfl, .inl ⟨by decide, by decide⟩, _, _, rfl, rfl, _, _, rfl, rfl, ?_, ?_⟩
        · have hb : ∀ y : Int, -50 ≤ y → y ≤ 50 → CMul y (1 - 2 * (wAt i).2) := fun y y1 y2 => .inl ⟨by omega, by omega⟩
          have hl : (wAt i).1.toNat < ps.length := by omega
          have := pb _ (List.getElem_mem hl)
          have e : ps.getD (wAt i).1.toNat 0 = ps[(wAt i).1.toNat] := by
            rw [List.getD_eq_getElem?_getD, List.getElem?_eq_getElem hl]; rfl
          rw [e]
          exact hb _ this.1 this.2
        have ik : kkW.Is K H5 pk (wAt i) := iw.tk (tkS s5)
        refine ⟨pk, wAt i, Ll, rfl, ik, b1, szBig (by omega), ?_⟩
        refine ⟨sameOver hD2 s5, _, ndPut b1 ik, Nat.le_trans (putE_len _ _ _ _) (Nat.succ_le_succ b2), fun e he => ?_, fun k hk => ?_⟩
        · rcases mem_putE he with ⟨f, hf, e1, _⟩ | ⟨e1, _⟩
          · rw [← e1]; exact b3 f hf
          · rw [e1]; exact ow
        · rw [getE_put]
          by_cases e : wAt i = wAt k
          · rw [if_pos e, ← e]; rfl
          · rw [if_neg e]
            exact b4 k (Nat.lt_of_le_of_ne (Nat.le_of_lt_succ hk) fun z => e (by rw [z]))
      · rintro H4 ⟨s5, Ll, b1, b2, b3, b4⟩
        rw [hzl] at b2 b4
        have s6 := s4.trans s5
        have hp4 := s6 _ _ hpa
        refine ⟨_, rfl, p, C2, dx, f1, rfl, hp4, L2.cl, L2.nL, (by rw [← ef1]; show 1 < 1000; decide), ?_⟩
        obtain ⟨f2, ef2⟩ : ∃ f2, putF ("left" : Str) (.ref D2) f1 = f2 := ⟨_, rfl⟩
        rw [ef2]
        obtain ⟨Hc, eHc⟩ : ∃ Hc, upd H4 p (.ins C2 dx f2) = Hc := ⟨_, rfl⟩
        rw [eHc]
        have hpc : Hc p = some (.ins C2 dx f2) := by rw [← eHc]; exact upd_same
        have kc : Kp (· = p) H Hc := fun b o hb e => by rw [← eHc, upd_ne hb]; exact s6 _ _ (ka _ _ hb e)
        have tc : Tk H4 Hc := by rw [← eHc]; exact Tk.write hp4 True.intro
        have D2p : D2 ≠ p := fun e => by
          have z := s4 _ _ hpa
          rw [← e, hD2] at z
          cases z
        have DD2 : D ≠ D2 := fun e => by
          have z := s4 _ _ da.1
          rw [e, hD2] at z
          cases z
        have dc1 : NDAt kkW P w K Hc D Ls := ndAt_mv (da.same s6) (by rw [← eHc, upd_ne Dp]) tc
        have dc2 : NDAt kkW P w K Hc D2 Ll := ndAt_mv b1 (by rw [← eHc, upd_ne D2p]) tc
        -- given
        intro D4 hD4
        have hp5 : upd Hc D4 (NDo P w kkP D4 []) p = some (.ins C2 dx f2) := samePut hD4 _ _ hpc
        refine ⟨_, rfl, p, C2, dx, f2, rfl, hp5, L2.cl, L2.nG, (by rw [← ef2, ← ef1]; show 2 < 1000; decide), ?_⟩
        have ef3 : putF ("given" : Str) (.ref D4) f2 = pf D D2 D4 := by rw [← ef2, ← ef1]; rfl
        rw [ef3]
        have ke : Kp (· = p) H (upd (upd Hc D4 (NDo P w kkP D4 [])) p (.ins C2 dx (pf D D2 D4))) := fun b o hb e => by rw [upd_ne hb]; exact samePut hD4 _ _ (kc _ _ hb e)
        have te : Tk Hc (upd (upd Hc D4 (NDo P w kkP D4 [])) p (.ins C2 dx (pf D D2 D4))) := (Tk.new hD4).trans (Tk.write hp5 True.intro)
        have ne4 : ∀ {b : Addr} {o : HO}, Hc b = some o → b ≠ D4 := fun {b o} e z => by rw [z, hD4] at e; cases e
        have D4p : D4 ≠ p := (ne4 hpc).symm
        have gen : ∀ b, b ≠ p → H0 b ≠ none → H b = H0 b := fun b hb hn => by
          cases e : H0 b with
          | none => exact absurd e hn
          | some o => exact s0 b o e
        have fresh0 : ∀ {b : Addr}, b ≠ p → (∀ o, H b = some o → False) → H0 b = none := fun {b} hb hn => by
          cases e : H0 b with
          | none => rfl
          | some o => exact (hn o (s0 b o e)).elim
        refine q _ ⟨p, dx, D, D2, D4, Ls, Ll, []⟩ rfl
          { obj := upd_same
            st := ndAt_mv dc1 (by rw [upd_ne Dp, upd_ne (ne4 dc1.1)]) te
            lt := ndAt_mv dc2 (by rw [upd_ne D2p, upd_ne (ne4 dc2.1)]) te
            gv := ⟨by rw [upd_ne D4p]; exact upd_same, fun e he => by cases he⟩
            sl := DD2
            sg := ne4 dc1.1
            lg := ne4 dc2.1
            same := fun b o e => ke b o (fun z => by rw [z, hp0] at e; cases e) (s0 b o e)
            n0l := fresh0 D2p fun o e => by
              have z := s4 _ _ (ka _ _ D2p e)
              rw [hD2] at z; cases z
            n0g := fresh0 D4p fun o e => by
              have z := kc _ _ D4p e
              rw [hD4] at z; cases z
            steps := (soka.tk (tkS s6)).tk (tc.trans te)
            left := fun u hu => by
              obtain ⟨k, hk2, rfl⟩ := okw_ix hu
              exact b4 k hk2
            lok := b3
            llen := b2
            given := fun e => .inr ⟨rfl, rfl⟩
            gok := fun e he => by cases he
            gnd := List.nodup_nil }
end
end K74

set_option Elab.async false
set_option linter.all false
set_option maxRecDepth 100000
set_option maxHeartbeats 4000000
namespace K74
open PySem PySem.Spec PyProof.Rows L2
section
variable {P : Program} {w : World} {K : PySem.W.Frag} {mg : Str → Option Value} {base : Heap} {C C2 : Addr}
abbrev sBeside : Stmt := inClass (topS 39) 1
def spBeside (P : Program) (w : World) (K : PySem.W.Frag) (C2 : Addr) : Sp := fun vs H Q _ => ∃ (z : V) (u : Wt) (n : Nat) (told : List Rl) (G : Ed → Int) (L : Wt → Int) (H0 : Hp) (x : Pud), vs = [.ref x.p, z] ∧ Pu P w K C2 H0 H n told G L x ∧ Few n told ∧ IsW K H z u ∧ OkW n u ∧
  ∀ H' l xs ws, Same H H' → H l = none → H' l = some (.lst xs) → Paired (IsW K H') xs ws → ws.length ≤ 4000 → (∀ y, y ∈ ws ↔ Res told G u y) → Q (.ref l) H'
theorem scBeside : FnScope ["self", "want", "back", "pair"] ["self", "want"] (defScope sBeside) := ⟨rfl, rfl, rfl, by decide +kernel, rfl, by decide +kernel, by decide +kernel⟩
theorem cBeside (B : Bl mg) (L2 : ClP K mg C2) (A : MAt K C2 "beside" "Purses.beside" sBeside ["self", "want"]) : MCal P w K mg base C2 1 "beside" ["self", "want"] (spBeside P w K C2) := by
  refine A.cal scBeside (fun vs H Q E h => ?_) (fun f cdv A outer s H vs Q E hr h => ?_)
  · obtain ⟨z, u, n, told, G, L, H0, x, rfl, _⟩ := h
    rfl
  · obtain ⟨z, u, n, told, G, L, H0, x, rfl, pu, few, iz, ou, q⟩ := h
    refine ⟨_, pss_cons (ps_setLc (i := 2) (own := [("pair", 3)]) (g := gName 3) (tt := tAnd (tTest (tOp (rEqW K) (tOp (rIxT K) (tVar 3) (tC (.int 1))) (tVar 1))) (tTest (tOp (rI0 fun i j => .bl (decide (j < i))) (tNGet kkP P w K (tFld K (tVar 0) "given") (tVar 3)) (tC (.int 0))))) (te := tOp (rIxT K) (tVar 3) (tC (.int 0))) rfl scBeside.nd rfl rfl (sw_true rfl rfl rfl (by decide +kernel))
          (pi_list (pe_callB (cr_sortD kkP rfl (hu100 hr)) (by rfl) B.sorted boot_sorted (pa_cons (pe_fld (pv 0) rfl) pa_nil))) (blkOk_by (own := [("pair", 3)]) (N := ["self", "want", "back", "pair"]) (sc := defScope sBeside) (by decide +kernel))
          (fun _ _ _ _ _ => pg_name (i := 3) scBeside.nd rfl (Or.inl rfl))
          (fun _ _ _ _ _ => pts_one (PW.pt (pw_and (pt_cmpR (op_eqW hr.units) (x_ix (pv 3) pe_int) (pv 1) (nomark _)) (pw_and1 (pt_cmpR op_gt (pe_ndGet kkP (hu100 hr) (pe_fld (pv 0) rfl) (pv 3) (fun _ _ => rfl)) pe_int (nomark _))))))
          (fun _ _ _ _ _ => x_ix (pv 3) pe_int))
      (pss_one (ps_ret (pe_op op_cat (pe_callTy call_list_of (by rfl) B.list boot_ty_list (pa_cons (pe_ndGet kkW (hu100 hr) (pe_fld (pv 0) rfl) (pv 1) (fun _ _ => rfl)) pa_nil)) (pv 2)))), ?_⟩
    have glen := pu.glen
    have tl := few.tl
    refine ⟨_, rfl, x.p, C2, x.dp, _, _, rfl, pu.obj, L2.cl, L2.nG, pf_given _ _ _, x.dg, x.Lg, rfl, pu.gv, fun L' l0 pm sr hl0 => ⟨l0, rfl, ⟨_, SqL.of upd_same⟩, fun D hD => ?_⟩⟩
    have s1 : Same H (upd H l0 (.lst (L'.map fun e => V.ref e.1))) := samePut hl0
    have hl1 : upd H l0 (.lst (L'.map fun e => V.ref e.1)) l0 = some (.lst (L'.map fun e => V.ref e.1)) := upd_same
    generalize upd H l0 (.lst (L'.map fun e => V.ref e.1)) = H1 at s1 hl1 hD ⊢
    have p1 := pu.go s1
    have inL : ∀ e ∈ L', IsR K H1 (.ref e.1) e.2 ∧ Has x.Lg e.2 := fun e he => by
      obtain ⟨f, hf, e1⟩ := List.mem_map.mp (pm.mem_iff.mp he)
      have z : kkP.Is K H1 f.2.1 f.1 := p1.gv.2 f hf
      rw [← e1]
      exact ⟨z, f, hf, rfl⟩
    have lL : L'.length ≤ 2000 := by
      rw [pm.length_eq, List.length_map]; omega
    let Pv : Nat → Hp → Prop := fun i H2 => Same H1 H2 ∧ ∃ ys ks, H2 D = some (.lst ys) ∧ ys.length ≤ i ∧ Paired (IsW K H2) ys ks ∧ ∀ y, y ∈ ks ↔ ∃ e ∈ L'.take i, e.2 = (y, u) ∧ 0 < G e.2
    refine lc_it (walk_list (K := K) (a := l0) (xs := L'.map fun e => V.ref e.1)) Pv ⟨samePut hD, [], [], upd_same, Nat.le_refl _, .nil, fun y => ⟨(fun h => by cases h), (fun ⟨e, he, _⟩ => by cases he)⟩⟩ (fun i H2 _ p => SqL.of (p.1 _ _ hl1)) ?_ ?_
    · rintro i y H9 H2 hi ⟨s2, ys, ks, a1, a2, a3, a4⟩ ⟨rfl, hx⟩
      rw [List.getElem?_map] at hx
      obtain ⟨e, he, rfl⟩ := Option.map_eq_some_iff.mp hx
      obtain ⟨ir, has⟩ := inL e (List.mem_of_getElem? he)
      have hi2 : i < 2000 := by rw [List.length_map] at hi; omega
      have ir2 := ir.tk (tkS s2)
      obtain ⟨b, xa, xb, eb, sb, wa, wb⟩ := id ir2
      cases eb
      have p2 := p1.go s2
      have tk1 : L'.take (i + 1) = L'.take i ++ [e] := by rw [List.take_succ, he]; rfl
      have no : ¬ (e.2.2 = u ∧ 0 < G e.2) → Pv (i + 1) H2 := fun hn => ⟨s2, ys, ks, a1, Nat.le_succ_of_le a2, a3, fun y => by
        rw [a4, tk1]
        constructor
        · rintro ⟨f, hf, g⟩
          exact ⟨f, List.mem_append_left _ hf, g⟩
        · rintro ⟨f, hf, g1, g2⟩
          rcases List.mem_append.mp hf with m | m
          · exact ⟨f, m, g1, g2⟩
          · rw [List.mem_singleton.mp m] at g1 g2
            exact absurd ⟨congrArg Prod.snd g1, g2⟩ hn⟩
      have gv := pu.given e.2
      rw [has_get] at has
      rcases gv with gv | ⟨gv, _⟩
      · refine ⟨rfl, _, rfl, e.1, _, _, _, rfl, rfl, sb, rfl, _, rfl, e.2.2, u, wb, (iz.tk (tkS s1)).tk (tkS s2), _, rfl, ?_⟩
        refine ite2 (fun h1 => ?_) (fun h1 => no fun z => h1 (decide_eq_true z.1))
        refine ⟨_, rfl, x.p, C2, x.dp, _, _, rfl, p2.obj, L2.cl, L2.nG, pf_given _ _ _, _, rfl, x.dg, e.1, e.2, x.Lg, _, rfl, rfl, ir2, p2.gv, gv, _, _, rfl, rfl, _, rfl, ?_⟩
        refine ite2 (fun h2 => ?_) (fun h2 => no fun z => h2 (decide_eq_true z.2))
        refine ⟨_, rfl, e.1, _, _, _, rfl, rfl, sb, rfl, ?_⟩
        have t4 : Tk H2 (upd H2 D (.lst (ys ++ [xa]))) := Tk.write a1 True.intro
        refine ⟨ys, a1, szBig (by omega), sameOver hD s2, ys ++ [xa], ks ++ [e.2.1], upd_same, by rw [List.length_append]; exact Nat.succ_le_succ a2, Paired.app (Paired.mono (fun _ _ z => IsW.tk z t4) a3) (Paired.one (wa.tk t4)), fun y => ?_⟩
        rw [List.mem_append, List.mem_singleton, a4, tk1]
        constructor
        · rintro (⟨f, hf, g⟩ | rfl)
          · exact ⟨f, List.mem_append_left _ hf, g⟩
          · exact ⟨e, List.mem_append_right _ List.mem_cons_self, by rw [← of_decide_eq_true h1], of_decide_eq_true h2⟩
        · rintro ⟨f, hf, g1, g2⟩
          rcases List.mem_append.mp hf with m | m
          · exact .inl ⟨f, m, g1, g2⟩
          · rw [List.mem_singleton.mp m] at g1
            exact .inr (by rw [g1])
      · rw [gv] at has
        cases has
    · rintro H2 ⟨s2, ys, ks, a1, a2, a3, a4⟩
      rw [List.length_map] at a2 a4
      rw [List.take_length] at a4
      have p2 := p1.go s2
      obtain ⟨a, xs, ws, b1, b2, b3, b4, b5⟩ := p2.steps u ou
      obtain ⟨pk, rfl, sk⟩ := id iz
      have izt : IsW K H2 (.ref pk) u := (iz.tk (tkS s1)).tk (tkS s2)
      have len1 : xs.length = ws.length := Paired.len b3
      have len2 : ys.length = ks.length := Paired.len a3
      refine ⟨_, rfl, x.p, C2, x.dp, _, _, rfl, p2.obj, L2.cl, L2.nS, pf_steps _ _ _, _, rfl, x.ds, pk, u, x.Ls, _, rfl, rfl, izt, p2.st, b1, a, xs, rfl, .inr b2, fun l hl => ⟨_, rfl, l, D, xs, ys, rfl, rfl, upd_same, samePut hl _ _ a1, Nat.le_of_lt (szBig (by omega)), fun o ho => ?_⟩⟩
      have t3 : Tk H2 (upd (upd H2 l (.lst xs)) o (.lst (xs ++ ys))) := (Tk.new hl).trans (Tk.new ho)
      have nH : H o = none := by
        cases e : H o with
        | none => rfl
        | some ob =>
          have z := (s1.trans s2).trans (samePut hl (o := .lst xs)) _ _ e
          rw [ho] at z
          cases z
      refine q _ o (xs ++ ys) (ws ++ ks) ((s1.trans s2).trans ((samePut hl).trans (samePut ho))) nH upd_same (Paired.mono (fun _ _ z => IsW.tk z t3) (Paired.app b3 a3)) (by rw [List.length_append]; omega) fun y => ?_
      rw [List.mem_append, b5, a4]
      unfold Res
      constructor
      · rintro (h | ⟨e, he, e1, e2⟩)
        · exact .inl h
        · obtain ⟨f, hf, e3⟩ := (inL e he).2
          have := pu.gok f hf
          rw [e3, e1] at this
          rw [e1] at e2
          exact .inr ⟨this, e2⟩
      · rintro (h | ⟨h1, h2⟩)
        · exact .inl h
        · refine .inr ?_
          have hs : Has x.Lg (y, u) := by
            rw [has_get]
            rcases pu.given (y, u) with g | ⟨_, g⟩
            · rw [g]; rfl
            · rw [g] at h2; cases h2
          obtain ⟨f, hf, e1⟩ := hs
          have m : (f.2.1, f.1) ∈ L' := pm.mem_iff.mpr (List.mem_map.mpr ⟨f, hf, rfl⟩)
          exact ⟨_, m, e1, by show 0 < G f.1; rw [e1]; exact h2⟩
end
end K74

set_option Elab.async false
set_option linter.all false
set_option maxRecDepth 100000
set_option maxHeartbeats 4000000
namespace K74
open PySem PySem.Spec PyProof.Rows L2
/-! ### name = {k: v for ..}, the name a local -/
section
variable {α : Type} [DecidableEq α] (T : KK α)
variable {X : Cx}
theorem sw_trueD {kx vx : Expr} {gs : List Comprehension} {scope : Scope} {pos py : Pos} {y : Str} {l : Nat} {env : Env} (hk : env.scope.kind = .function) (hy : env.scope.names.lookup y = some .local) (hl : (py.line == pos.line) = true)
    (ha : (scope.names.any fun (n, k) => n == y && (k == .local || k == .cell)) = false) : swapsWith (.DictComp kx vx gs scope pos) (some (.Name y py)) l env = pure true := by
  have k1 : env.blockKind = .function := by unfold Env.blockKind; rw [hk]; rfl
  have k2 : env.kindOf y = some .local := hy
  unfold swapsWith
  simp only [k1, k2, ha, Expr.pos, hl]
  rfl
theorem ps_setNdc (hu : X.A.units + 100 < cLine) {i : Nat} {y : Str} {py : Pos} {kx vx tg iter : Expr} {scope : Scope} {own : List (Str × Nat)} {pos spos : Pos} {wi : TI} {g : TG} {tk tv : TE} (calm : X.calm = true) (nd : X.N.Nodup) (hy : X.N[i]? = some y) (hyl : X.env.scope.names.lookup y = some .local)
    (hsw : swapsWith (.DictComp kx vx [⟨tg, iter, [], 0⟩] scope pos) (some (.Name y py)) spos.line X.env = pure true) (it_ : PI X tg iter wi) (bo : BlkOk X.N X.env.scope scope own)
    (pg : ∀ (a : Shared) (b : Hp) (c : Addr) (d : List (Str × Addr)) (e : List Addr), PG (X.blk a b scope (compEnvC scope d c X.env) e) tg g)
    (pk : ∀ (a : Shared) (b : Hp) (c : Addr) (d : List (Str × Addr)) (e : List Addr), PE (X.blk a b scope (compEnvC scope d c X.env) e) kx tk)
    (pv' : ∀ (a : Shared) (b : Hp) (c : Addr) (d : List (Str × Addr)) (e : List Addr), PE (X.blk a b scope (compEnvC scope d c X.env) e) vx tv)
    (fold : ∀ x, foldedSetIterable iter X.env x = pure x := by intro _; rfl) : PS X (.Assign [.Name y py] (.DictComp kx vx [⟨tg, iter, [], 0⟩] scope pos) spos) (tAsg (tNdc T X.prog X.w X.K wi g tk tv (own.map (·.2))) (gName i)) := by
  refine ⟨fun pins s σ H D I h => ?_⟩
  rw [exec_Assign_Name_used _ _ _ _ hsw]
  refine wpAny_bind (wpAny_standAt (wpAny_bind ?_))
  show wpAny _ X.A (do let _ ← comprehension (.DictComp kx vx [⟨tg, iter, [], 0⟩] scope pos) scope X.env (firstIterPos [⟨tg, iter, [], 0⟩] pos) newDict false (eval iter X.env) (some (assign (.Name y py) X.env))) _ _ s
  have h : tNdc T X.prog X.w X.K wi g tk tv (own.map (·.2)) σ H (fun x H1 => gName i x σ H1 D.nx) := h
  refine wpAny_bind (thn (ndc_run T hu (Qf := fun _ s' => SP X pins D .next s') calm nd I it_ bo pg pk pv' fold h fun d c s' m H' J q hns f => ?_) fun _ s' z => wpAny_pure (wpAny_pure z))
  show wpAny _ _ (assign (.Name y py) X.env (.ref d)) _ _ _
  refine wpAny_assign_Name (store_ok2 (v := V.ref d) J nd hy (.inl hyl) rfl (fun s2 J2 ⟨a, sb, ha⟩ => ?_) (.inr hyl))
  obtain ⟨f0, f1, f2, f3, f4, f5⟩ := f
  have ne : c ≠ a := by
    rcases ha with z | z
    · rw [z]; exact f1
    · exact fun e => f4 y a z e.symm
  exact ⟨m, hns.sameBut sb ne, fun h3 sb3 => ⟨_, H', J2.turned (t' := s2.toks) (fun b o hb z => (sb3.2 b hb).trans z) f0 f1 f3 f4 f5, q⟩⟩
end
/-! ### going about from those that have: what stands between two turns -/
theorem nd_put {α : Type} [DecidableEq α] {L : List (Ent α)} {a : α} {p : Addr} {v : V} (h : (L.map (·.1)).Nodup) : ((putE L a p v).map (·.1)).Nodup := by
  unfold putE
  cases e : getE L a with
  | some x =>
    show ((L.map fun e => if e.1 = a then (e.1, e.2.1, v) else e).map (·.1)).Nodup
    have z : (L.map fun e => if e.1 = a then (e.1, e.2.1, v) else e).map (·.1) = L.map (·.1) := by
      rw [List.map_map]
      refine List.map_congr_left fun f _ => ?_
      show (if f.1 = a then (f.1, f.2.1, v) else f).1 = f.1
      split <;> rfl
    rw [z]
    exact h
  | none =>
    show ((L ++ [(a, p, v)]).map (·.1)).Nodup
    rw [List.map_append]
    refine List.nodup_append.mpr ⟨h, List.nodup_cons.mpr ⟨by simp, List.nodup_nil⟩, fun x hx y hy z => ?_⟩
    have hy' : y = a := List.mem_singleton.mp hy
    obtain ⟨f, hf, rfl⟩ := List.mem_map.mp hx
    have : Has L a := ⟨f, hf, z.trans hy'⟩
    rw [has_get, e] at this
    cases this
theorem put_new {α : Type} [DecidableEq α] {L : List (Ent α)} {a : α} {p : Addr} {v : V} (h : ¬ Has L a) : putE L a p v = L ++ [(a, p, v)] := by
  unfold putE
  rw [if_neg fun e => h (has_get.mpr e)]
structure Bfs (K : PySem.W.Frag) (H : Hp) (n : Nat) (told : List Rl) (G : Ed → Int) (L : Wt → Int) (ws : List Wt) (Lc : List (Ent Wt)) (ex : Wt → Prop) : Prop where
  nd : (Lc.map (·.1)).Nodup
  ok : ∀ e ∈ Lc, OkW n e.1
  line : ∀ w ∈ ws, Has Lc w
  has : ∀ w, OkW n w → 0 < L w → Has Lc w
  done : ∀ w, Has Lc w → w ∈ ws ∨ ex w ∨ (0 ≤ L w ∧ ∀ y, Res told G w y → Has Lc y)
  par : ∀ (i : Nat) e, Lc[i]? = some e → (e.2.2 = .non ∧ 0 < L e.1) ∨ ∃ j f pw, j < i ∧ Lc[j]? = some f ∧ e.2.2 = .ref pw ∧ IsW K H (.ref pw) f.1 ∧ Res told G f.1 e.1
section
variable {K : PySem.W.Frag} {H H' : Hp} {n : Nat} {told : List Rl} {G : Ed → Int} {L : Wt → Int} {ws : List Wt} {Lc : List (Ent Wt)} {ex : Wt → Prop}
theorem Bfs.tk (b : Bfs K H n told G L ws Lc ex) (t : Tk H H') : Bfs K H' n told G L ws Lc ex :=
  { b with par := fun i e h => (b.par i e h).imp id fun ⟨j, f, pw, h1, h2, h3, h4, h5⟩ => ⟨j, f, pw, h1, h2, h3, h4.tk t, h5⟩ }
theorem Bfs.len (b : Bfs K H n told G L ws Lc ex) : Lc.length ≤ 2 * n := by
  have q := nd_len b.nd (m := allW n) fun w hw => by
    obtain ⟨e, he, rfl⟩ := List.mem_map.mp hw
    exact mem_allW.mpr (b.ok e he)
  rw [List.length_map, allW_len] at q
  exact q
theorem Bfs.pop {h : Wt} (b : Bfs K H n told G L (h :: ws) Lc fun _ => False) : Bfs K H n told G L ws Lc (· = h) :=
  { b with line := fun w hw => b.line w (List.mem_cons_of_mem _ hw)
           done := fun w hw => by
             rcases b.done w hw with q | q | q
             · rcases List.mem_cons.mp q with r | r
               · exact .inr (.inl r)
               · exact .inl r
             · exact q.elim
             · exact .inr (.inr q) }
theorem Bfs.close {h : Wt} (b : Bfs K H n told G L ws Lc (· = h)) (h0 : 0 ≤ L h) (hy : ∀ y, Res told G h y → Has Lc y) : Bfs K H n told G L ws Lc fun _ => False :=
  { b with done := fun w hw => by
             rcases b.done w hw with q | q | q
             · exact .inl q
             · subst q; exact .inr (.inr ⟨h0, hy⟩)
             · exact .inr (.inr q) }
theorem has_app {L : List (Ent Wt)} {e : Ent Wt} {y : Wt} : Has (L ++ [e]) y ↔ Has L y ∨ y = e.1 := by
  constructor
  · rintro ⟨f, hf, rfl⟩
    rcases List.mem_append.mp hf with m | m
    · exact .inl ⟨f, m, rfl⟩
    · rw [List.mem_singleton.mp m]; exact .inr rfl
  · rintro (⟨f, hf, rfl⟩ | rfl)
    · exact ⟨f, List.mem_append_left _ hf, rfl⟩
    · exact ⟨e, List.mem_append_right _ List.mem_cons_self, rfl⟩
theorem Bfs.add {h y : Wt} {ph py : Addr} (b : Bfs K H n told G L ws Lc ex) (ih : IsW K H (.ref ph) h) (hh : Has Lc h) (r : Res told G h y) (ny : ¬ Has Lc y) (oy : OkW n y) : Bfs K H n told G L (ws ++ [y]) (Lc ++ [(y, py, .ref ph)]) ex where
  nd := by
    rw [← put_new ny]
    exact nd_put b.nd
  ok := fun e he => by
    rcases List.mem_append.mp he with m | m
    · exact b.ok e m
    · rw [List.mem_singleton.mp m]; exact oy
  line := fun w hw => by
    rw [has_app]
    rcases List.mem_append.mp hw with m | m
    · exact .inl (b.line w m)
    · exact .inr (List.mem_singleton.mp m)
  has := fun w ow hw => has_app.mpr (.inl (b.has w ow hw))
  done := fun w hw => by
    rcases has_app.mp hw with q | q
    · rcases b.done w q with q | q | ⟨q1, q2⟩
      · exact .inl (List.mem_append_left _ q)
      · exact .inr (.inl q)
      · exact .inr (.inr ⟨q1, fun z hz => has_app.mpr (.inl (q2 z hz))⟩)
    · exact .inl (by rw [q]; exact List.mem_append_right _ List.mem_cons_self)
  par := fun i e he => by
    rcases Nat.lt_or_ge i Lc.length with lt | ge
    · rw [List.getElem?_append_left lt] at he
      rcases b.par i e he with q | ⟨j, f, pw, h1, h2, h3⟩
      · exact .inl q
      · exact .inr ⟨j, f, pw, h1, by rw [List.getElem?_append_left (by omega)]; exact h2, h3⟩
    · rw [List.getElem?_append_right ge] at he
      have i0 : i - Lc.length = 0 := by
        have := (List.getElem?_eq_some_iff.mp he).1
        simp at this
        omega
      rw [i0] at he
      cases he
      obtain ⟨f, hf, e1⟩ := hh
      obtain ⟨j, hj⟩ := List.mem_iff_getElem?.mp hf
      have jl := (List.getElem?_eq_some_iff.mp hj).1
      exact .inr ⟨j, f, ph, by omega, by rw [List.getElem?_append_left jl]; exact hj, rfl, by rw [e1]; exact ih, by rw [e1]; exact r⟩
/-- a way back, from the want found -/
structure Bak (told : List Rl) (G : Ed → Int) (Lc : List (Ent Wt)) (t : Wt) (j : Nat) (r0 : Wt) (rest : List Wt) : Prop where
  at0 : (Lc[j]?).map (·.1) = some r0
  idx : ∀ r ∈ rest, ∃ i, j < i ∧ (Lc[i]?).map (·.1) = some r
  nd : (r0 :: rest).Nodup
  st : ∀ e ∈ prs (r0 :: rest), Res told G e.1 e.2
  last : (r0 :: rest).getLast? = some t
theorem key_ix {Lc : List (Ent Wt)} (nd : (Lc.map (·.1)).Nodup) {i j : Nat} {r : Wt} (hi : (Lc[i]?).map (·.1) = some r) (hj : (Lc[j]?).map (·.1) = some r) : i = j := by
  rw [← List.getElem?_map] at hi hj
  have li := (List.getElem?_eq_some_iff.mp hi).1
  have lj := (List.getElem?_eq_some_iff.mp hj).1
  have e : (Lc.map (·.1))[i]? = (Lc.map (·.1))[j]? := hi.trans hj.symm
  exact (List.getElem?_inj li nd).mp e
theorem Bak.more {t r0 r1 : Wt} {j i : Nat} {rest : List Wt} (b : Bak told G Lc t j r0 rest) (nd : (Lc.map (·.1)).Nodup) (hi : i < j) (h1 : (Lc[i]?).map (·.1) = some r1) (r : Res told G r1 r0) : Bak told G Lc t i r1 (r0 :: rest) where
  at0 := h1
  idx := fun z hz => by
    rcases List.mem_cons.mp hz with q | q
    · subst q; exact ⟨j, hi, b.at0⟩
    · obtain ⟨k, hk, e⟩ := b.idx z q
      exact ⟨k, by omega, e⟩
  nd := List.nodup_cons.mpr ⟨fun hz => by
    rcases List.mem_cons.mp hz with q | q
    · rw [← q] at b
      have := key_ix nd h1 b.at0
      omega
    · obtain ⟨k, hk, e⟩ := b.idx _ q
      have := key_ix nd h1 e
      omega, b.nd⟩
  st := fun e he => by
    rcases List.mem_cons.mp he with q | q
    · subst q; exact r
    · exact b.st e q
  last := by
    rw [List.getLast?_cons_cons]
    exact b.last
theorem Bak.way {t r0 : Wt} {j : Nat} {rest : List Wt} (b : Bak told G Lc t j r0 rest) (ok : ∀ e ∈ Lc, OkW n e.1) (h0 : 0 < L r0) (ht : L t < 0) : Way n told G L (r0 :: rest) r0 t where
  ok := fun z hz => by
    have k : ∃ i : Nat, (Lc[i]?).map (fun e => e.1) = some z := by
      rcases List.mem_cons.mp hz with q | q
      · subst q; exact ⟨j, b.at0⟩
      · obtain ⟨i, _, e⟩ := b.idx z q
        exact ⟨i, e⟩
    obtain ⟨i, e⟩ := k
    obtain ⟨f, hf, e1⟩ := Option.map_eq_some_iff.mp e
    rw [← e1]
    exact ok f (List.mem_of_getElem? hf)
  nd := b.nd
  hs := rfl
  ht := b.last
  ls := h0
  lt := ht
  st := b.st
end
end K74

set_option Elab.async false
set_option linter.all false
set_option maxRecDepth 100000
set_option maxHeartbeats 4000000
namespace K74
open PySem PySem.Spec PyProof.Rows L2
theorem wants_dp {K : PySem.W.Frag} {H : Hp} {xs : List V} {ws : List Wt} (p : Paired (IsW K H) xs ws) : ∃ ds, DpAll K H xs ds ∧ ∀ d ∈ ds, DOk d :=
  dp_all (R := fun v d => ∃ u, IsW K H v u ∧ d = dW u) (fun v d ⟨u, h, e⟩ => by rw [e]; exact h.dp) fun x hx => by
    obtain ⟨i, hi⟩ := List.mem_iff_getElem?.mp hx
    obtain ⟨u, _, iw⟩ := Paired.at1 p hi
    exact ⟨dW u, ⟨u, iw, rfl⟩, dW_ok u⟩
theorem seq0 (n : Nat) : seqIndex? 0 (n + 1) = some 0 := by
  unfold seqIndex?
  simp
section
variable {P : Program} {w : World} {K : PySem.W.Frag} {mg : Str → Option Value} {base : Heap} {C C2 : Addr}
abbrev sWay : Stmt := inClass (topS 39) 2
def spWay (P : Program) (w : World) (K : PySem.W.Frag) (C2 : Addr) : Sp := fun vs H Q _ => ∃ (n : Nat) (told : List Rl) (G : Ed → Int) (L : Wt → Int) (H0 : Hp) (x : Pud), vs = [.ref x.p] ∧ Pu P w K C2 H0 H n told G L x ∧ Few n told ∧
  (∀ H' R, Same H H' → Cut n told G L R → Q .non H') ∧
  (∀ H' l fs us s t, Same H H' → H' l = some (.lst fs) → Paired (IsW K H') fs us.reverse → Way n told G L us s t → Q (.ref l) H')
theorem scWay : FnScope ["self", "want", "line", "came", "here", "found"] ["self"] (defScope sWay) := ⟨rfl, rfl, rfl, by decide +kernel, rfl, by decide +kernel, by decide +kernel⟩
theorem cWay (B : Bl mg) (LP : ClP K mg C2) (c : MCal P w K mg base C2 1 "beside" ["self", "want"] (spBeside P w K C2)) (A : MAt K C2 "way" "Purses.way" sWay ["self"]) : MCal P w K mg base C2 2 "way" ["self"] (spWay P w K C2) := by
  refine A.cal scWay (fun vs H Q E h => ?_) (fun f cdv A outer s H vs Q E hr h => ?_)
  · obtain ⟨n, told, G, L, H0, x, rfl, _⟩ := h
    rfl
  · obtain ⟨n, told, G, L, H0, x, rfl, pu, few, qc, qw⟩ := h
    refine ⟨_, pss_cons (ps_setLc (i := 2) (own := [("want", 1)]) (g := gName 1) (tt := tTest (tOp (rI0 fun i j => .bl (decide (j < i))) (tNGet kkW P w K (tFld K (tVar 0) "left") (tVar 1)) (tC (.int 0)))) (te := tVar 1) rfl scWay.nd rfl rfl (sw_true rfl rfl rfl (by decide +kernel))
          (pi_list (pe_callB (cr_sortD kkW rfl (hu100 hr)) (by rfl) B.sorted boot_sorted (pa_cons (pe_fld (pv 0) rfl) pa_nil))) (blkOk_by (own := [("want", 1)]) (N := ["self", "want", "line", "came", "here", "found"]) (sc := defScope sWay) (by decide +kernel))
          (fun _ _ _ _ _ => pg_name (i := 1) scWay.nd rfl (Or.inl rfl))
          (fun _ _ _ _ _ => pts_one (pt_cmpR op_gt (pe_ndGet kkW (hu100 hr) (pe_fld (pv 0) rfl) (pv 1) (fun _ _ => rfl)) pe_int (nomark _)))
          (fun _ _ _ _ _ => pv 1))
      (pss_cons (ps_setNdc kkW (hu100 hr) (i := 3) (own := [("want", 1)]) (g := gName 1) (tk := tVar 1) (tv := tC .non) rfl scWay.nd rfl rfl (sw_trueD rfl rfl rfl (by decide +kernel))
          (pi_list (pv 2)) (blkOk_by (own := [("want", 1)]) (N := ["self", "want", "line", "came", "here", "found"]) (sc := defScope sWay) (by decide +kernel))
          (fun _ _ _ _ _ => pg_name (i := 1) scWay.nd rfl (Or.inl rfl)) (fun _ _ _ _ _ => pv 1) (fun _ _ _ _ _ => pe_non))
      (pss_cons (ps_while PassesOwn.never (pt_cmpR (op_neNil hr.units) (pv 2) (pe_lst pa_nil) (nomark _))
        (pss_cons (ps_set (i := 4) scWay.nd rfl (Or.inl rfl) (pe_bm PySem.F.plainAttrs_list PySem.F.slot_list_pop PySem.F.type_list_pop mt_popAt (pv 2) (pa_cons pe_int pa_nil)))
        (pss_cons (ps_if (pt_cmpR op_lt (pe_ndGet kkW (hu100 hr) (pe_fld (pv 0) rfl) (pv 4) (fun _ _ => rfl)) pe_int (nomark _))
            (pss_cons (ps_set (i := 5) scWay.nd rfl (Or.inl rfl) (pe_lst (pa_cons (pv 4) pa_nil)))
            (pss_cons (ps_while PassesOwn.never (pt_cmpR op_notN (pe_ndGet kkW (hu100 hr) (pv 3) (x_ixL (pv 5) (pe_un un_neg pe_int)) (fun _ _ => rfl)) pe_non (nomark _))
              (pss_one (ps_expr (pe_bm PySem.F.plainAttrs_list PySem.F.slot_list_append PySem.F.type_list_append mt_append (pv 5) (pa_cons (pe_ndGet kkW (hu100 hr) (pv 3) (x_ixL (pv 5) (pe_un un_neg pe_int)) (fun _ _ => rfl)) pa_nil)))))
            (pss_one (ps_ret (pv 5))))) pss_nil)
        (pss_one (ps_for PassesOwn.never rfl (pi_list (pe_mt (pv 0) LP.cl c hr (pa_cons (pv 4) pa_nil))) (pg_name (i := 1) scWay.nd rfl (Or.inl rfl))
          (pss_one (ps_if (pt_cmpR (op_ndNotIn kkW (hu100 hr)) (pv 1) (pv 3) rfl)
            (pss_cons (ps_asg (pv 4) (pg_sub (pv 3) (pv 1) (set_nd kkW (hu100 hr))))
            (pss_one (ps_expr (pe_bm PySem.F.plainAttrs_list PySem.F.slot_list_append PySem.F.type_list_append mt_append (pv 2) (pa_cons (pv 1) pa_nil))))) pss_nil)))))))
      (pss_one (ps_ret pe_non)))), ?_⟩
    have tl := few.tl
    have n8 := few.n8
    have ll := pu.llen
    refine ⟨_, rfl, x.p, C2, x.dp, _, _, rfl, pu.obj, LP.cl, LP.nL, pf_left _ _ _, x.dl, x.Ll, rfl, pu.lt, fun L' l0 pm sr hl0 => ⟨l0, rfl, ⟨_, SqL.of upd_same⟩, fun D hD => ?_⟩⟩
    have s1 : Same H (upd H l0 (.lst (L'.map fun e => V.ref e.1))) := samePut hl0
    have hl1 : upd H l0 (.lst (L'.map fun e => V.ref e.1)) l0 = some (.lst (L'.map fun e => V.ref e.1)) := upd_same
    generalize upd H l0 (.lst (L'.map fun e => V.ref e.1)) = H1 at s1 hl1 hD ⊢
    have p1 := pu.go s1
    have inL : ∀ e ∈ L', IsW K H1 (.ref e.1) e.2 ∧ OkW n e.2 := fun e he => by
      obtain ⟨f, hf, e1⟩ := List.mem_map.mp (pm.mem_iff.mp he)
      have z : kkW.Is K H1 f.2.1 f.1 := p1.lt.2 f hf
      rw [← e1]
      exact ⟨z, pu.lok f hf⟩
    have lL : L'.length ≤ 16 := by
      rw [pm.length_eq, List.length_map]; omega
    let Pv : Nat → Hp → Prop := fun i H2 => Same H1 H2 ∧ ∃ ys ks, H2 D = some (.lst ys) ∧ ys.length ≤ i ∧ Paired (IsW K H2) ys ks ∧ ∀ y, y ∈ ks ↔ ∃ e ∈ L'.take i, e.2 = y ∧ 0 < L e.2
    refine lc_it (walk_list (K := K) (a := l0) (xs := L'.map fun e => V.ref e.1)) Pv ⟨samePut hD, [], [], upd_same, Nat.le_refl _, .nil, fun y => ⟨(fun h => by cases h), (fun ⟨e, he, _⟩ => by cases he)⟩⟩ (fun i H2 _ p => SqL.of (p.1 _ _ hl1)) ?_ ?_
    · rintro i y H9 H2 hi ⟨s2, ys, ks, a1, a2, a3, a4⟩ ⟨rfl, hx⟩
      rw [List.getElem?_map] at hx
      obtain ⟨e, he, rfl⟩ := Option.map_eq_some_iff.mp hx
      obtain ⟨iw, ow⟩ := inL e (List.mem_of_getElem? he)
      have iw2 := iw.tk (tkS s2)
      have hi2 : i < 16 := by rw [List.length_map] at hi; omega
      have p2 := p1.go s2
      have tk1 : L'.take (i + 1) = L'.take i ++ [e] := by rw [List.take_succ, he]; rfl
      refine ⟨rfl, _, rfl, x.p, C2, x.dp, _, _, rfl, p2.obj, LP.cl, LP.nL, pf_left _ _ _, _, rfl, x.dl, e.1, e.2, x.Ll, _, rfl, rfl, iw2, p2.lt, p2.left _ ow, _, _, rfl, rfl, _, rfl, ?_⟩
      refine ite2 (fun h2 => ?_) (fun h2 => ?_)
      · refine ⟨_, rfl, ?_⟩
        have t4 : Tk H2 (upd H2 D (.lst (ys ++ [V.ref e.1]))) := Tk.write a1 True.intro
        refine ⟨ys, a1, szBig (by omega), sameOver hD s2, ys ++ [V.ref e.1], ks ++ [e.2], upd_same, by rw [List.length_append]; exact Nat.succ_le_succ a2, Paired.app (Paired.mono (fun _ _ z => IsW.tk z t4) a3) (Paired.one (iw2.tk t4)), fun y => ?_⟩
        rw [List.mem_append, List.mem_singleton, a4, tk1]
        constructor
        · rintro (⟨f, hf, g⟩ | rfl)
          · exact ⟨f, List.mem_append_left _ hf, g⟩
          · exact ⟨e, List.mem_append_right _ List.mem_cons_self, rfl, of_decide_eq_true h2⟩
        · rintro ⟨f, hf, g1, g2⟩
          rcases List.mem_append.mp hf with m | m
          · exact .inl ⟨f, m, g1, g2⟩
          · rw [List.mem_singleton.mp m] at g1
            exact .inr g1.symm
      · refine ⟨s2, ys, ks, a1, Nat.le_succ_of_le a2, a3, fun y => ?_⟩
        rw [a4, tk1]
        constructor
        · rintro ⟨f, hf, g⟩
          exact ⟨f, List.mem_append_left _ hf, g⟩
        · rintro ⟨f, hf, g1, g2⟩
          rcases List.mem_append.mp hf with m | m
          · exact ⟨f, m, g1, g2⟩
          · rw [List.mem_singleton.mp m] at g2
            exact absurd (decide_eq_true g2) h2
    · rintro H2 ⟨s2, ys, ks, a1, a2, a3, a4⟩
      rw [List.length_map] at a2 a4
      rw [List.take_length] at a4
      have kpos : ∀ y, y ∈ ks ↔ OkW n y ∧ 0 < L y := fun y => by
        rw [a4]
        constructor
        · rintro ⟨e, he, rfl, h⟩
          exact ⟨(inL e he).2, h⟩
        · rintro ⟨o, h⟩
          obtain ⟨f, hf, e⟩ := has_get.mpr (by rw [pu.left y o]; rfl)
          exact ⟨_, pm.mem_iff.mpr (List.mem_map.mpr ⟨f, hf, rfl⟩), e, by show 0 < L f.1; rw [e]; exact h⟩
      have len2 : ys.length = ks.length := Paired.len a3
      -- came
      refine ⟨_, rfl, D, rfl, ⟨_, SqL.of a1⟩, fun Dc hDc => ?_⟩
      let Pc : Nat → Hp → Prop := fun i H3 => Same H2 H3 ∧ ∃ Lc, NDAt kkW P w K H3 Dc Lc ∧ Lc.length ≤ i ∧ (Lc.map (·.1)).Nodup ∧ (∀ e ∈ Lc, e.2.2 = .non) ∧ ∀ y, Has Lc y ↔ y ∈ ks.take i
      refine dc_it (T := kkW) (walk_list (K := K) (a := D) (xs := ys)) Pc ⟨samePut hDc, [], ⟨upd_same, fun e he => by cases he⟩, Nat.le_refl _, List.nodup_nil, (fun e he => by cases he), fun y => ⟨(fun h => absurd h (has_nil y)), (fun h => by cases h)⟩⟩ (fun i H3 _ p => SqL.of (p.1 _ _ a1)) ?_ ?_
      · rintro i y H9 H3 hi ⟨s3, Lc, b1, b2, b3, b4, b5⟩ ⟨rfl, hx⟩
        obtain ⟨u, hu, iw⟩ := Paired.at1 a3 hx
        obtain ⟨pk, rfl, sk⟩ := id iw
        have ik : kkW.Is K H3 pk u := iw.tk (tkS s3)
        refine ⟨rfl, _, rfl, pk, u, Lc, rfl, ik, b1, szBig (by omega), sameOver hDc s3, _, ndPut b1 ik, Nat.le_trans (putE_len _ _ _ _) (Nat.succ_le_succ b2), nd_put b3, fun e he => ?_, fun z => ?_⟩
        · unfold putE at he
          split at he
          · obtain ⟨f, hf, e1⟩ := List.mem_map.mp he
            split at e1
            · rw [← e1]
            · rw [← e1]; exact b4 f hf
          · rcases List.mem_append.mp he with m | m
            · exact b4 e m
            · rw [List.mem_singleton.mp m]
        · rw [has_put, b5, List.take_succ, hu]
          show _ ↔ z ∈ ks.take i ++ [u]
          rw [List.mem_append, List.mem_singleton]
          exact Or.comm
      · rintro H3 ⟨s3, Lc0, b1, b2, b3, b4, b5⟩
        rw [len2, List.take_length] at b5
        have s4 : Same H H3 := (s1.trans s2).trans s3
        have D3 := s3 _ _ a1
        have Dn : ∀ o, H D ≠ some o := fun o e => by
          have := s1 _ _ e
          rw [hD] at this
          cases this
        have start : Bfs K H3 n told G L ks Lc0 fun _ => False :=
          { nd := b3
            ok := fun e he => ((kpos e.1).mp ((b5 e.1).mp ⟨e, he, rfl⟩)).1
            line := fun y hy => (b5 y).mpr hy
            has := fun y o h => (b5 y).mpr ((kpos y).mpr ⟨o, h⟩)
            done := fun y hy => .inl ((b5 y).mp hy)
            par := fun i e he => by
              have m := List.mem_of_getElem? he
              exact .inl ⟨b4 e m, ((kpos e.1).mp ((b5 e.1).mp ⟨e, m, rfl⟩)).2⟩ }
        have hDn : H D = none := by
          cases e : H D with
          | none => rfl
          | some o => exact absurd e (Dn o)
        have hDcn : H Dc = none := by
          cases e : H Dc with
          | none => rfl
          | some o =>
            have z := (s1.trans s2) _ _ e
            rw [hDc] at z
            cases z
        have DDc : D ≠ Dc := ne_of_none a1 hDc
        have kl : ks.length ≤ 16 := by omega
        let W : Nat → L2.St → Hp → Prop := fun m σ H4 => Same H H4 ∧ ∃ vw vh vf xs ws Lc, σ = [some (.ref x.p), vw, some (.ref D), some (.ref Dc), vh, vf] ∧ H4 D = some (.lst xs) ∧ Paired (IsW K H4) xs ws ∧ NDAt kkW P w K H4 Dc Lc ∧ Bfs K H4 n told G L ws Lc (fun _ => False) ∧ m + Lc.length = 2 * n + ws.length ∧ m ≤ 32
        have l0 := start.len
        refine ⟨W, ⟨2 * n + ks.length - Lc0.length, s4, none, none, none, ys, ks, Lc0, rfl, D3, Paired.mono (fun _ _ z => IsW.tk z (tkS s3)) a3, b1, start, by omega, by omega⟩, ?_⟩
        clear start b2 b3 b4 b5 l0
        rintro m σ H4 ⟨s4, vw, vh, vf, xs, ws, Lc, rfl, d1, d2, d3, bf, hm, m32⟩
        have cl := bf.len
        have wl : xs.length = ws.length := Paired.len d2
        have nil_ : ∀ {b : Addr} {o : HO}, H b = none → ¬ H b = some o := fun e z => by rw [e] at z; cases z
        refine ⟨_, rfl, Nat.zero_le _, fun e he => ?_⟩
        obtain ⟨H5, eH5⟩ : ∃ H5, upd H4 e (.lst []) = H5 := ⟨_, rfl⟩
        rw [eH5]
        have s5 : Same H4 H5 := by rw [← eH5]; exact samePut he
        have e5 : H5 e = some (.lst []) := by rw [← eH5]; exact upd_same
        have d5 : Paired (IsW K H5) xs ws := Paired.mono (fun _ _ z => IsW.tk z (tkS s5)) d2
        have D5 := s5 _ _ d1
        obtain ⟨ds, dp1, dp2⟩ := wants_dp d5
        refine ⟨D, e, xs, ds, rfl, rfl, SqL.of D5, dp1, dp2, SqL.of e5, _, rfl, ?_⟩
        refine ite2 (fun hne => ?_) (fun hemp => ?_)
        · refine ⟨fun σ' H' => ∃ m', m' < m ∧ W m' σ' H', fun _ _ h => h, ?_⟩
          cases d5 with
          | nil => exact absurd hne (by decide)
          | @cons v h xs ws iv d6 =>
            obtain ⟨ph, rfl, sph⟩ := iv
            have iv : IsW K H5 (.ref ph) h := ⟨ph, rfl, sph⟩
            refine ⟨_, rfl, .inl ⟨rfl, _, SqL.of D5⟩, D, _, 0, 0, _, rfl, rfl, D5, by decide, by decide, seq0 _, rfl, ?_⟩
            have w4 : 0 < (h :: ws).length := Nat.succ_pos _
            have wl2 : ws.length + 1 = (h :: ws).length := rfl
            obtain ⟨H6, eH6⟩ : ∃ H6, upd H5 D (.lst ((V.ref ph :: xs).eraseIdx 0)) = H6 := ⟨_, rfl⟩
            rw [eH6]
            have D6 : H6 D = some (.lst xs) := by rw [← eH6]; exact upd_same
            have t6 : Tk H5 H6 := by rw [← eH6]; exact Tk.write D5 True.intro
            have s6 : Same H H6 := by rw [← eH6]; exact sameOver hDn (s4.trans s5)
            have c6 : NDAt kkW P w K H6 Dc Lc := ndAt_mv (d3.same s5) (by rw [← eH6, upd_ne DDc.symm]) t6
            have x6 : Paired (IsW K H6) xs ws := Paired.mono (fun _ _ z => IsW.tk z t6) d6
            have iv6 : IsW K H6 (.ref ph) h := iv.tk t6
            have bf6 : Bfs K H6 n told G L (h :: ws) Lc fun _ => False := bf.tk ((tkS s5).trans t6)
            have hh : Has Lc h := bf6.line h List.mem_cons_self
            have oh : OkW n h := by
              obtain ⟨f, hf, e1⟩ := hh
              rw [← e1]
              exact bf6.ok f hf
            have p6 := pu.go s6
            refine ⟨_, rfl, x.p, C2, x.dp, _, _, rfl, p6.obj, LP.cl, LP.nL, pf_left _ _ _, _, rfl, x.dl, ph, h, x.Ll, _, rfl, rfl, iv6, p6.lt, p6.left _ oh, _, _, rfl, rfl, _, rfl, ?_⟩
            refine ite2 (fun hneg => ?_) (fun hpos => ?_)
            · -- found: back to where it came from
              have hlt : L h < 0 := of_decide_eq_true hneg
              refine ⟨_, rfl, by show 1 ≤ sizeLine; decide, fun lf hlf => ?_⟩
              obtain ⟨j0, hj0⟩ : ∃ j : Nat, (Lc[j]?).map (·.1) = some h := by
                obtain ⟨f, hf, e1⟩ := hh
                obtain ⟨j, hj⟩ := List.mem_iff_getElem?.mp hf
                exact ⟨j, by rw [hj]; exact congrArg some e1⟩
              have j0l : j0 < 16 := by
                obtain ⟨f, hf, _⟩ := Option.map_eq_some_iff.mp hj0
                have := (List.getElem?_eq_some_iff.mp hf).1
                omega
              let Wf : Nat → L2.St → Hp → Prop := fun j σ H7 => Same H6 H7 ∧ σ = [some (.ref x.p), vw, some (.ref D), some (.ref Dc), some (.ref ph), some (.ref lf)] ∧ ∃ fs v0 r0 rest, H7 lf = some (.lst (fs ++ [v0])) ∧ Paired (IsW K H7) fs rest.reverse ∧ IsW K H7 v0 r0 ∧ Bak told G Lc h j r0 rest ∧ rest.length + j < 16
              refine ⟨Wf, ⟨j0, samePut hlf, rfl, [], .ref ph, h, [], upd_same, .nil, iv6.tk (Tk.new hlf), ⟨hj0, (fun r hr => by cases hr), List.nodup_cons.mpr ⟨by simp, List.nodup_nil⟩, (fun e he => by cases he), rfl⟩, by rw [List.length_nil]; omega⟩, ?_⟩
              rintro j σ H7 ⟨s7, rfl, fs, v0, r0, rest, e7, pf7, iv0, bk, lj⟩
              obtain ⟨f, hf, e1⟩ := Option.map_eq_some_iff.mp bk.at0
              have bf7 := bf6.tk (tkS s7)
              have gf : getE Lc r0 = some f.2.2 := by
                rw [← e1]
                exact mem_getE bf7.nd (List.mem_of_getElem? hf)
              obtain ⟨p0, rfl, sp0⟩ := iv0
              have iv0 : IsW K H7 (.ref p0) r0 := ⟨p0, rfl, sp0⟩
              have c7 := c6.same s7
              refine ⟨_, rfl, _, rfl, _, rfl, lf, _, _, _, rfl, rfl, SqL.of e7, atI_last fs (.ref p0), Dc, p0, r0, Lc, _, rfl, rfl, iv0, c7, gf, rfl, _, rfl, ?_⟩
              rcases bf7.par j f hf with ⟨hn, hp⟩ | ⟨i, g, pw, hi, hg, hr', ig, rg⟩
              · rw [hn]
                have lf7 : H7 lf = some (.lst (fs ++ [V.ref p0])) := e7
                refine iteF ?_
                refine ⟨_, rfl, qw H7 lf _ (r0 :: rest) r0 h (s6.trans s7) lf7 ?_ (bk.way bf7.ok (by rw [← e1]; exact hp) hlt)⟩
                rw [List.reverse_cons]
                exact Paired.app pf7 (Paired.one iv0)
              · rw [hr'] at gf ⊢
                refine iteT ⟨fun σ' H' => ∃ m', m' < j ∧ Wf m' σ' H', fun _ _ h => h, ?_⟩
                refine ⟨_, rfl, .inl ⟨rfl, _, SqL.of e7⟩, _, rfl, _, rfl, _, rfl, lf, _, _, _, rfl, rfl, SqL.of e7, atI_last fs (.ref p0), Dc, p0, r0, Lc, _, rfl, rfl, iv0, c7, gf, lf, _, _, rfl, rfl, e7, ?_, i, hi, ?_⟩
                · have := Paired.len pf7
                  rw [List.length_reverse] at this
                  exact szBig (by rw [List.length_append, this, List.length_singleton]; omega)
                · have hlfn : H6 lf = none := hlf
                  have t7 : Tk H7 (upd H7 lf (.lst (fs ++ [V.ref p0] ++ [V.ref pw]))) := Tk.write e7 True.intro
                  refine ⟨sameOver hlfn s7, rfl, fs ++ [V.ref p0], .ref pw, g.1, r0 :: rest, upd_same, ?_, ig.tk t7, bk.more bf7.nd hi (by rw [hg]; rfl) (by rw [e1] at rg; exact rg), by rw [List.length_cons]; omega⟩
                  rw [List.reverse_cons]
                  exact Paired.mono (fun _ _ z => IsW.tk z t7) (Paired.app pf7 (Paired.one iv0))
            · -- on to those beside
              have h0 : 0 ≤ L h := by
                have : ¬ L h < 0 := fun z => hpos (decide_eq_true z)
                omega
              refine ⟨_, rfl, x.p, x.dp, _, rfl, p6.obj, pf_no (by decide +kernel) (by decide +kernel) (by decide +kernel), _, rfl, .ref ph, h, n, told, G, L, H0, x, rfl, p6, few, iv6, oh, fun H7 lb nb us s7 nlb hb pb lb2 mb => ⟨lb, rfl, ⟨_, SqL.of hb⟩, ?_⟩⟩
              have lbD : D ≠ lb := ne_of_none D6 nlb
              have lbDc : Dc ≠ lb := ne_of_none c6.1 nlb
              let Pf : Nat → L2.St → Hp → Prop := fun i σ H8 => Same H H8 ∧ Tk H7 H8 ∧ H8 lb = some (.lst nb) ∧ ∃ vw xs ws Lc, σ = [some (.ref x.p), vw, some (.ref D), some (.ref Dc), some (.ref ph), vf] ∧ H8 D = some (.lst xs) ∧ Paired (IsW K H8) xs ws ∧ NDAt kkW P w K H8 Dc Lc ∧ Bfs K H8 n told G L ws Lc (· = h) ∧ Has Lc h ∧ m + Lc.length = 2 * n + ws.length + 1 ∧ ∀ y ∈ us.take i, Has Lc y
              have st : Pf 0 [some (.ref x.p), vw, some (.ref D), some (.ref Dc), some (.ref ph), vf] H7 :=
                ⟨s6.trans s7, Tk.refl _, hb, vw, xs, ws, Lc, rfl, s7 _ _ D6, Paired.mono (fun _ _ z => IsW.tk z (tkS s7)) x6, c6.same s7, bf6.pop.tk (tkS s7), hh, by omega, fun y hy => by cases hy⟩
              have nl : nb.length = us.length := Paired.len pb
              refine for_list (K := K) (a := lb) (xs := nb) Pf st (fun i σ H8 _ p => SqL.of p.2.2.1) ?_ ?_
              · rintro i v σ H8 hx ⟨s8, t8, hb8, vw, xs, ws, Lc, rfl, e1, e2, e3, e4, e5, e6, e7⟩
                obtain ⟨y, hy, iy0⟩ := Paired.at1 pb hx
                obtain ⟨py, rfl, spy⟩ := id iy0
                have iy := iy0.tk t8
                have ry : Res told G h y := (mb y).mp (List.mem_of_getElem? hy)
                have oy : OkW n y := by
                  rcases ry with q | q
                  · exact (few.T.edge q).2
                  · exact (few.T.edge q.1).1
                have tk1 : us.take (i + 1) = us.take i ++ [y] := by rw [List.take_succ, hy]; rfl
                refine ⟨_, rfl, _, rfl, py, y, Dc, Lc, rfl, rfl, iy, e3, _, rfl, ?_⟩
                refine ite2 (fun hno => ?_) (fun hyes => ?_)
                · have ny : ¬ Has Lc y := fun z => by
                    rw [has_get] at z
                    rw [z] at hno
                    exact absurd hno (by decide)
                  have iph : IsW K H8 (.ref ph) h := (iv6.tk (tkS s7)).tk t8
                  have l8 := e4.len
                  have xl : xs.length = ws.length := Paired.len e2
                  refine ⟨_, rfl, _, rfl, _, rfl, Dc, py, y, Lc, rfl, rfl, iy, e3, szBig (by omega), ?_⟩
                  let H9 : Hp := upd H8 Dc (NDo P w kkW Dc (putE Lc y py (V.ref ph)))
                  have D9 : H9 D = some (.lst xs) := (upd_ne DDc).trans e1
                  have t9 : Tk H8 H9 := Tk.write e3.1 True.intro
                  have c9 : NDAt kkW P w K H9 Dc (putE Lc y py (V.ref ph)) := ndPut e3 iy
                  refine ⟨_, rfl, .inl ⟨rfl, _, SqL.of D9⟩, _, rfl, D, xs, .ref py, rfl, rfl, D9, szBig (by omega), ?_⟩
                  have t10 : Tk H9 (upd H9 D (.lst (xs ++ [V.ref py]))) := Tk.write D9 True.intro
                  have tt := t9.trans t10
                  have nbf := (e4.add iph e5 ry ny oy (py := py)).tk tt
                  have nl2 := nbf.len
                  rw [List.length_append, List.length_singleton] at nl2
                  refine ⟨sameOver hDn (sameOver hDcn s8), t8.trans tt, ?_, some (.ref py), xs ++ [V.ref py], ws ++ [y], Lc ++ [(y, py, V.ref ph)], rfl, upd_same, Paired.app (Paired.mono (fun _ _ z => IsW.tk z tt) e2) (Paired.one (iy.tk tt)), ?_, nbf, has_app.mpr (.inl e5), ?_, fun z hz => ?_⟩
                  · exact (upd_ne lbD.symm).trans ((upd_ne lbDc.symm).trans hb8)
                  · rw [← put_new ny]
                    exact ndAt_mv c9 (upd_ne DDc.symm) t10
                  · rw [List.length_append, List.length_append, List.length_singleton, List.length_singleton]; omega
                  · rw [tk1] at hz
                    rcases List.mem_append.mp hz with q | q
                    · exact has_app.mpr (.inl (e7 z q))
                    · exact has_app.mpr (.inr (List.mem_singleton.mp q))
                · refine ⟨s8, t8, hb8, some (.ref py), xs, ws, Lc, rfl, e1, e2, e3, e4, e5, e6, fun z hz => ?_⟩
                  rw [tk1] at hz
                  rcases List.mem_append.mp hz with q | q
                  · exact e7 z q
                  · rw [List.mem_singleton.mp q, has_get]
                    cases hs : (getE Lc y).isSome with
                    | true => rfl
                    | false =>
                      rw [hs] at hyes
                      exact absurd rfl hyes
              · rintro σ H8 ⟨s8, t8, hb8, vw, xs, ws, Lc, rfl, e1, e2, e3, e4, e5, e6, e7⟩
                rw [nl, List.take_length] at e7
                have l8 := e4.len
                have hb9 := e4.close h0 fun y ry => e7 y ((mb y).mpr ry)
                exact ⟨m - 1, by omega, s8, vw, some (.ref ph), vf, xs, ws, Lc, rfl, e1, e2, e3, hb9, by omega, by omega⟩
        · have hx : xs = [] := by
            cases xs with
            | nil => rfl
            | cons a b => exact absurd rfl hemp
          subst hx
          cases d2
          have cut : Cut n told G L fun w => decide (w ∈ Lc.map (·.1)) := Cut.of few.T (Lc.map (·.1))
            (fun w ow hw => by
              obtain ⟨e, he, q⟩ := bf.has w ow hw
              exact List.mem_map.mpr ⟨e, he, q⟩)
            (fun w hw => by
              obtain ⟨e, he, rfl⟩ := List.mem_map.mp hw
              rcases bf.done e.1 ⟨e, he, rfl⟩ with q | q | q
              · cases q
              · exact q.elim
              · exact q.1)
            (fun a ha b r => by
              obtain ⟨e, he, rfl⟩ := List.mem_map.mp ha
              rcases bf.done e.1 ⟨e, he, rfl⟩ with q | q | q
              · cases q
              · exact q.elim
              · obtain ⟨g, hg, e2⟩ := q.2 b r
                exact List.mem_map.mpr ⟨g, hg, e2⟩)
          exact qc H5 _ (s4.trans s5) cut
end
end K74

set_option Elab.async false
set_option linter.all false
set_option maxRecDepth 100000
set_option maxHeartbeats 4000000
namespace K74
open PySem PySem.Spec PyProof.Rows L2
/-! ### want in wants, a tuple -/
def rInW (K : PySem.W.Frag) (neg : Bool) : R2 := fun x y H Q => ∃ u a xs ws, IsW K H x u ∧ y = .ref a ∧ SqT K H a xs ∧ Paired (IsW K H) xs ws ∧ Q (.bl (neg != decide (u ∈ ws))) H
theorem wants_all {K : PySem.W.Frag} {H : Hp} {xs : List V} {ws : List Wt} (p : Paired (IsW K H) xs ws) : DpAll K H xs (ws.map dW) := by
  induction p with
  | nil => exact .nil
  | cons h _ ih => exact .cons h.dp ih
theorem wants_lay (ws : List Wt) : PyData.canLayAll0 (ws.map dW) = true := by
  induction ws with
  | nil => simp [PyData.canLayAll0]
  | cons u ws ih => rw [List.map_cons, PyData.canLayAll0, dW_lay, ih]; rfl
theorem wants_any (ws : List Wt) (u : Wt) : ((ws.map dW).any fun y => PyData.eqv y (dW u)) = decide (u ∈ ws) := by
  induction ws with
  | nil => simp
  | cons v ws ih =>
    rw [List.map_cons, List.any_cons, ih, dW_eqv]
    by_cases h : v = u
    · subst h; simp
    · have h2 : ¬ u = v := fun e => h e.symm
      simp [h, h2]
section
variable {X : Cx}
theorem op_inW (hu : X.A.units + 65 < cLine) : OpR X (compareOp .In) (rInW X.K false) := by
  intro pins s σ H x y v u Q I rx ry h
  obtain ⟨t, a, xs, ws, h1, rfl, h2, h3, q⟩ := h
  obtain ⟨as, r1⟩ := Dp.reads I (dW t) x v h1.dp rx
  obtain ⟨bs, r2⟩ := Dp.reads I (.tuple (ws.map dW)) (.ref a) u (.tup h2 (wants_all h3)) ry
  rw [Bool.false_bne] at q
  exact SeqAt.in_tuple_reads r2 r1 (wants_lay ws) (dW_lay t) (by rw [dW_depth]; have := Nat.min_le_right (PyData.depthAll (ws.map dW)) 1; omega) ⟨.bl _, H, I, by rw [wants_any]; rfl, q⟩
theorem op_notInW (hu : X.A.units + 65 < cLine) : OpR X (compareOp .NotIn) (rInW X.K true) := by
  intro pins s σ H x y v u Q I rx ry h
  obtain ⟨t, a, xs, ws, h1, rfl, h2, h3, q⟩ := h
  obtain ⟨as, r1⟩ := Dp.reads I (dW t) x v h1.dp rx
  obtain ⟨bs, r2⟩ := Dp.reads I (.tuple (ws.map dW)) (.ref a) u (.tup h2 (wants_all h3)) ry
  rw [Bool.true_bne] at q
  exact SeqAt.notIn_tuple_reads r2 r1 (wants_lay ws) (dW_lay t) (by rw [dW_depth]; have := Nat.min_le_right (PyData.depthAll (ws.map dW)) 1; omega) ⟨.bl _, H, I, by rw [wants_any]; rfl, q⟩
end
section
variable {P : Program} {w : World} {K : PySem.W.Frag} {mg : Str → Option Value} {base : Heap} {C C2 : Addr}
abbrev sRoom : Stmt := inClass (topS 39) 3
def spRoom (P : Program) (w : World) (K : PySem.W.Frag) (C2 : Addr) : Sp := fun vs H Q _ => ∃ (y z : V) (e : Ed) (n : Nat) (told : List Rl) (G : Ed → Int) (L : Wt → Int) (H0 : Hp) (x : Pud), vs = [.ref x.p, y, z] ∧ Pu P w K C2 H0 H n told G L x ∧ IsW K H y e.1 ∧ IsW K H z e.2 ∧ OkW n e.1 ∧ Res told G e.1 e.2 ∧
  ∀ H', Same H H' → Q (.int (roomOf told G e)) H'
theorem scRoom : FnScope ["self", "one", "other"] ["self", "one", "other"] (defScope sRoom) := ⟨rfl, rfl, rfl, by decide +kernel, rfl, by decide +kernel, by decide +kernel⟩
theorem pairNew {K : PySem.W.Frag} {H : Hp} {p a b : Addr} {u v : Wt} (hp : H p = none) (h1 : IsW K H (.ref a) u) (h2 : IsW K H (.ref b) v) : IsR K (upd H p (.tup [.ref a, .ref b])) (.ref p) (u, v) :=
  ⟨p, .ref a, .ref b, rfl, SqT.of upd_same, h1.tk (Tk.new hp), h2.tk (Tk.new hp)⟩
theorem cRoom (LP : ClP K mg C2) (A : MAt K C2 "room" "Purses.room" sRoom ["self", "one", "other"]) : MCal P w K mg base C2 1 "room" ["self", "one", "other"] (spRoom P w K C2) := by
  refine A.cal scRoom (fun vs H Q E h => ?_) (fun f cdv A outer s H vs Q E hr h => ?_)
  · obtain ⟨y, z, e, n, told, G, L, H0, x, rfl, _⟩ := h
    rfl
  · obtain ⟨y, z, e, n, told, G, L, H0, x, rfl, pu, iy, iz, oy, rs, q⟩ := h
    refine ⟨_, pss_one (ps_ret (pe_ifExp (pt_cmpR (op_notInW (hu65 hr)) (pv 2) (pe_ndGet kkW (hu100 hr) (pe_fld (pv 0) rfl) (pv 1) (fun _ _ => rfl)) rfl)
      (pe_ndGet kkP (hu100 hr) (pe_fld (pv 0) rfl) (pe_tup (pa_cons (pv 2) (pa_cons (pv 1) pa_nil))) (fun _ _ => rfl)) pe_int)), ?_⟩
    obtain ⟨a, xs, ws, b1, b2, b3, b4, b5⟩ := pu.steps e.1 oy
    obtain ⟨py, rfl, sy⟩ := id iy
    obtain ⟨pz, rfl, sz⟩ := id iz
    refine ⟨_, rfl, _, rfl, x.p, C2, x.dp, _, _, rfl, pu.obj, LP.cl, LP.nS, pf_steps _ _ _, _, rfl, x.ds, py, e.1, x.Ls, _, rfl, rfl, iy, pu.st, b1, e.2, a, xs, ws, iz, rfl, b2, b3, _, rfl, ?_⟩
    have mem : e.2 ∈ ws ↔ e ∈ allE told := b5 e.2
    unfold roomOf at q
    refine ite2 (fun h => ?_) (fun h => ?_)
    · have hn : e ∉ allE told := fun z => by
        rw [decide_eq_true (mem.mpr z)] at h
        exact absurd h (by decide)
      rw [if_neg hn] at q
      refine ⟨_, rfl, x.p, C2, x.dp, _, _, rfl, pu.obj, LP.cl, LP.nG, pf_given _ _ _, _, rfl, _, rfl, by show 2 ≤ sizeLine; decide, fun p hp => ⟨x.dg, p, bk e, x.Lg, .int (G (bk e)), rfl, rfl, pairNew hp iz iy, pu.gv.same (samePut hp), ?_, q _ (samePut hp)⟩⟩
      rcases rs with z | z
      · exact absurd z hn
      · rcases pu.given (bk e) with g | ⟨_, g⟩
        · exact g
        · have z2 : 0 < G (bk e) := z.2
          rw [g] at z2
          cases z2
    · have hy : e ∈ allE told := Decidable.byContradiction fun z => h (by rw [decide_eq_false fun w => z (mem.mp w)]; rfl)
      rw [if_pos hy] at q
      exact q H (Same.refl H)
end
/-! ### writing to the dicts of a purse -/
section
variable {P : Program} {w : World} {K : PySem.W.Frag} {C : Addr} {H0 H : Hp} {n : Nat} {told : List Rl} {G : Ed → Int} {L : Wt → Int} {x : Pud}
theorem ins_ne {H : Hp} {a b C d : Addr} {fs : List (Str × V)} {q : Heap → Prop} (h1 : H a = some (.ins C d fs)) (h2 : H b = some (.ext q)) : a ≠ b := fun e => by
  rw [e, h2] at h1
  cases h1
theorem putE_has {α : Type} [DecidableEq α] {L : List (Ent α)} {a : α} {p : Addr} {v : V} (h : Has L a) : (putE L a p v).length = L.length := by
  unfold putE
  rw [if_pos (has_get.mp h), List.length_map]
theorem Pu.putG (pu : Pu P w K C H0 H n told G L x) {e : Ed} {p : Addr} {v : Int} {G' : Ed → Int} (he : e ∈ allE told) (hp : IsR K H (.ref p) e) (hG : ∀ y, G' y = if e = y then v else G y) :
    Pu P w K C H0 (upd H x.dg (NDo P w kkP x.dg (putE x.Lg e p (.int v)))) n told G' L { x with Lg := putE x.Lg e p (.int v) } := by
  have t : Tk H (upd H x.dg (NDo P w kkP x.dg (putE x.Lg e p (.int v)))) := Tk.write pu.gv.1 True.intro
  exact
  { obj := (upd_ne (ins_ne pu.obj pu.gv.1)).trans pu.obj
    st := ndAt_mv pu.st (upd_ne pu.sg) t
    lt := ndAt_mv pu.lt (upd_ne pu.lg) t
    gv := ndPut pu.gv hp
    sl := pu.sl
    sg := pu.sg
    lg := pu.lg
    same := sameOver pu.n0g pu.same
    n0l := pu.n0l
    n0g := pu.n0g
    steps := pu.steps.tk t
    left := pu.left
    lok := pu.lok
    llen := pu.llen
    given := fun y => by
      show getE (putE x.Lg e p (.int v)) y = _ ∨ _
      rw [getE_put, hG]
      by_cases h : e = y
      · rw [if_pos h, if_pos h]; exact .inl rfl
      · rw [if_neg h, if_neg h]
        exact pu.given y
    gok := fun f hf => by
      rcases mem_putE hf with ⟨g, hg, e1, _⟩ | ⟨e1, _⟩
      · rw [← e1]; exact pu.gok g hg
      · rw [e1]; exact he
    gnd := nd_put pu.gnd }
theorem Pu.putL (pu : Pu P w K C H0 H n told G L x) {u : Wt} {p : Addr} {v : Int} {L' : Wt → Int} (hu : OkW n u) (hp : IsW K H (.ref p) u) (hL : ∀ y, L' y = if u = y then v else L y) :
    Pu P w K C H0 (upd H x.dl (NDo P w kkW x.dl (putE x.Ll u p (.int v)))) n told G L' { x with Ll := putE x.Ll u p (.int v) } := by
  have t : Tk H (upd H x.dl (NDo P w kkW x.dl (putE x.Ll u p (.int v)))) := Tk.write pu.lt.1 True.intro
  have hs : Has x.Ll u := has_get.mpr (by rw [pu.left u hu]; rfl)
  exact
  { obj := (upd_ne (ins_ne pu.obj pu.lt.1)).trans pu.obj
    st := ndAt_mv pu.st (upd_ne pu.sl) t
    lt := ndPut pu.lt hp
    gv := ndAt_mv pu.gv (upd_ne pu.lg.symm) t
    sl := pu.sl
    sg := pu.sg
    lg := pu.lg
    same := sameOver pu.n0l pu.same
    n0l := pu.n0l
    n0g := pu.n0g
    steps := pu.steps.tk t
    left := fun y hy => by
      show getE (putE x.Ll u p (.int v)) y = _
      rw [getE_put, hL]
      by_cases h : u = y
      · rw [if_pos h, if_pos h]
      · rw [if_neg h, if_neg h]
        exact pu.left y hy
    lok := fun f hf => by
      rcases mem_putE hf with ⟨g, hg, e1, _⟩ | ⟨e1, _⟩
      · rw [← e1]; exact pu.lok g hg
      · rw [e1]; exact hu
    llen := by
      show (putE x.Ll u p (.int v)).length ≤ _
      rw [putE_has hs]
      exact pu.llen
    given := pu.given
    gok := pu.gok
    gnd := pu.gnd }
end
end K74

set_option Elab.async false
set_option linter.all false
set_option maxRecDepth 100000
set_option maxHeartbeats 4000000
namespace K74
open PySem PySem.Spec PyProof.Rows L2
theorem prs_len : ∀ us : List Wt, (prs us).length = us.length - 1
  | [] => rfl
  | [_] => rfl
  | a :: b :: l => by
    show (prs (b :: l)).length + 1 = _
    rw [prs_len (b :: l)]; rfl
theorem prs_get : ∀ {us : List Wt} {i : Nat} {a b : Wt}, us[i]? = some a → us[i + 1]? = some b → (prs us)[i]? = some (a, b)
  | [], _, _, _, h, _ => by simp at h
  | [c], i, a, b, _, h => by simp at h
  | c :: d :: l, 0, a, b, h1, h2 => by
    cases h1
    cases h2
    rfl
  | c :: d :: l, i + 1, a, b, h1, h2 => by
    show (prs (d :: l))[i]? = _
    exact prs_get (us := d :: l) h1 h2
theorem rev_at {F : V → Wt → Prop} {fs : List V} {us : List Wt} (p : Paired F fs us.reverse) {i : Nat} {a : Wt} (h : us[i]? = some a) : ∃ v, fs[fs.length - 1 - i]? = some v ∧ F v a := by
  have hl := Paired.len p
  rw [List.length_reverse] at hl
  have hi := (List.getElem?_eq_some_iff.mp h).1
  have e : us.reverse[fs.length - 1 - i]? = some a := by
    rw [List.getElem?_reverse (by omega)]
    rw [show us.length - 1 - (fs.length - 1 - i) = i by omega]
    exact h
  exact Paired.at2 p e
theorem paired_snoc {F : V → Wt → Prop} {y : Wt} : ∀ {xs : List V} {ys : List Wt}, Paired F xs (ys ++ [y]) → ∃ xs' x, xs = xs' ++ [x] ∧ Paired F xs' ys ∧ F x y
  | _, [], .cons h .nil => ⟨[], _, rfl, .nil, h⟩
  | _, z :: ys, .cons h t => by
    obtain ⟨xs', x, e, p, f⟩ := paired_snoc t
    exact ⟨_ :: xs', x, by rw [e]; rfl, .cons h p, f⟩
theorem payAll_succ {told : List Rl} {m : Int} {G : Ed → Int} {es : List Ed} {i : Nat} {e : Ed} (h : es[i]? = some e) : payAll told m G (es.take (i + 1)) = payE told m (payAll told m G (es.take i)) e := by
  unfold payAll
  rw [List.take_succ, h, List.foldl_append]
  rfl
section
variable {P : Program} {w : World} {K : PySem.W.Frag} {mg : Str → Option Value} {base : Heap} {C C2 : Addr}
abbrev sPay : Stmt := inClass (topS 39) 4
def spPay (P : Program) (w : World) (K : PySem.W.Frag) (C2 : Addr) : Sp := fun vs H Q _ => ∃ (l : Addr) (fs : List V) (us : List Wt) (s t : Wt) (n : Nat) (told : List Rl) (G : Ed → Int) (L : Wt → Int) (H0 : Hp) (x : Pud), vs = [.ref x.p, .ref l] ∧ Pu P w K C2 H0 H n told G L x ∧ Few n told ∧ H l = some (.lst fs) ∧ Paired (IsW K H) fs us.reverse ∧ Way n told G L us s t ∧
  ∀ H' x' m, 1 ≤ m → m ≤ L s → m ≤ - L t → (∀ e ∈ prs us, m ≤ roomOf told G e) → x'.p = x.p → Pu P w K C2 H0 H' n told (payAll told m G (prs us)) (payL m s t L) x' → Q .non H'
theorem scPay : FnScope ["self", "way", "pairs", "one", "other", "many", "at"] ["self", "way"] (defScope sPay) := ⟨rfl, rfl, rfl, by decide +kernel, rfl, by decide +kernel, by decide +kernel⟩
theorem cPay (B : Bl mg) (LP : ClP K mg C2) (c : MCal P w K mg base C2 1 "room" ["self", "one", "other"] (spRoom P w K C2)) (A : MAt K C2 "pay" "Purses.pay" sPay ["self", "way"]) : MCal P w K mg base C2 2 "pay" ["self", "way"] (spPay P w K C2) := by
  refine A.cal scPay (fun vs H Q E h => ?_) (fun f cdv A outer st H vs Q E hr h => ?_)
  · obtain ⟨l, fs, us, s, t, n, told, G, L, H0, x, rfl, _⟩ := h
    rfl
  · obtain ⟨l, fs, us, s, t, n, told, G, L, H0, x, rfl, pu, few, hl, pf, W, q⟩ := h
    refine ⟨_, pss_cons (ps_setLc (i := 2) (own := [("at", 6)]) (g := gName 6) (tt := tYes) (te := tTup (tCons (tOp (rIxL K) (tVar 1) (tVar 6)) (tCons (tOp (rIxL K) (tVar 1) (tOp (rI0 fun i j => .int (i - j)) (tVar 6) (tC (.int 1)))) tNil))) rfl scPay.nd rfl rfl (sw_true rfl rfl rfl (by decide +kernel))
          (pi_range3 (by rfl) B.range (pa_cons (pe_op op_sub (x_len B (pv 1)) pe_int) (pa_cons pe_int (pa_cons (pe_un un_neg pe_int) pa_nil)))) (blkOk_by (own := [("at", 6)]) (N := ["self", "way", "pairs", "one", "other", "many", "at"]) (sc := defScope sPay) (by decide +kernel))
          (fun _ _ _ _ _ => pg_name (i := 6) scPay.nd rfl (Or.inl rfl)) (fun _ _ _ _ _ => pts_nil)
          (fun _ _ _ _ _ => pe_tup (pa_cons (x_ixL (pv 1) (pv 6)) (pa_cons (x_ixL (pv 1) (pe_op op_sub (pv 6) pe_int)) pa_nil))))
      (pss_cons (ps_set (i := 5) scPay.nd rfl (Or.inl rfl) (x_min B (pe_op op_cat (pe_lst (pa_cons (pe_ndGet kkW (hu100 hr) (pe_fld (pv 0) rfl) (x_ixL (pv 1) (pe_un un_neg pe_int)) (fun _ _ => rfl)) (pa_cons (pe_un un_neg (pe_ndGet kkW (hu100 hr) (pe_fld (pv 0) rfl) (x_ixL (pv 1) pe_int) (fun _ _ => rfl))) pa_nil)))
          (pe_lc (own := [("one", 3), ("other", 4)]) (g := gTup K 2 (gCons (gName 3) (gCons (gName 4) gNil))) (tt := tYes) (te := tMeth C2 "room" (spRoom P w K C2) [] E0 (tVar 0) (tCons (tVar 3) (tCons (tVar 4) tNil))) (by rfl) scPay.nd (pi_list (pv 2)) (blkOk_by (own := [("one", 3), ("other", 4)]) (N := ["self", "way", "pairs", "one", "other", "many", "at"]) (sc := defScope sPay) (by decide +kernel))
            (fun _ _ _ _ _ => pg_tup rfl (pgs_cons (pg_name (i := 3) scPay.nd rfl (Or.inl rfl)) (pgs_cons (pg_name (i := 4) scPay.nd rfl (Or.inl rfl)) pgs_nil))) (fun _ _ _ _ _ => pts_nil)
            (fun _ _ _ _ _ => pe_mt (pv 0) LP.cl c hr (pa_cons (pv 3) (pa_cons (pv 4) pa_nil)))))))
      (pss_cons (ps_for PassesOwn.never rfl (pi_list (pv 2)) (pg_tup rfl (pgs_cons (pg_name (i := 3) scPay.nd rfl (Or.inl rfl)) (pgs_cons (pg_name (i := 4) scPay.nd rfl (Or.inl rfl)) pgs_nil)))
        (pss_one (ps_if (pt_cmpR (op_inW (hu65 hr)) (pv 4) (pe_ndGet kkW (hu100 hr) (pe_fld (pv 0) rfl) (pv 3) (fun _ _ => rfl)) rfl)
          (pss_one (ps_asg (pe_op op_add (pe_ndGetOr kkP (hu100 hr) (pe_fld (pv 0) rfl) (pa_cons (pe_tup (pa_cons (pv 3) (pa_cons (pv 4) pa_nil))) (pa_cons pe_int pa_nil))) (pv 5)) (pg_sub (pe_fld (pv 0) rfl) (pe_tup (pa_cons (pv 3) (pa_cons (pv 4) pa_nil))) (set_nd kkP (hu100 hr)))))
          (pss_one (ps_augS (pe_fld (pv 0) rfl) (pe_tup (pa_cons (pv 4) (pa_cons (pv 3) pa_nil))) (pget_nd kkP (hu100 hr)) (pv 5) ip_sub (set_nd kkP (hu100 hr)))))))
      (pss_cons (ps_augS (pe_fld (pv 0) rfl) (x_ixL (pv 1) (pe_un un_neg pe_int)) (pget_nd kkW (hu100 hr)) (pv 5) ip_sub (set_nd kkW (hu100 hr)))
      (pss_one (ps_augS (pe_fld (pv 0) rfl) (x_ixL (pv 1) pe_int) (pget_nd kkW (hu100 hr)) (pv 5) ip_add (set_nd kkW (hu100 hr))))))), ?_⟩
    have n8 := few.n8
    have tl := few.tl
    have glen := pu.glen
    have ul : us.length ≤ 16 := by
      have z := nd_len W.nd fun a ha => mem_allW.mpr (W.ok a ha)
      rw [allW_len] at z
      omega
    have fl : fs.length = us.length := by rw [Paired.len pf, List.length_reverse]
    -- its ends
    have hsm : s ∈ us := List.mem_of_mem_head? W.hs
    have htm : t ∈ us := List.mem_of_getLast? W.ht
    obtain ⟨fs0, vs0, efs, _, ivs⟩ : ∃ fs0 vs0, fs = fs0 ++ [vs0] ∧ True ∧ IsW K H vs0 s := by
      have z := W.hs
      cases us with
      | nil => cases z
      | cons a us =>
        cases z
        rw [List.reverse_cons] at pf
        obtain ⟨a1, a2, a3, _, a5⟩ := paired_snoc pf
        exact ⟨a1, a2, a3, True.intro, a5⟩
    obtain ⟨vt0, eft, ivt⟩ : ∃ vt0, fs[0]? = some vt0 ∧ IsW K H vt0 t := by
      have z : us.reverse[0]? = some t := by
        rw [← List.head?_eq_getElem?, List.head?_reverse]
        exact W.ht
      exact Paired.at2 pf z
    obtain ⟨as, rfl, sas⟩ := id ivs
    obtain ⟨at_, rfl, sat⟩ := id ivt
    have pl := prs_len us
    have sq0 := SqL.of (K := K) hl
    refine ⟨_, rfl, l, fs, rfl, .inl sq0, _, _, rfl, rfl, 1, rfl, _, _, _, _, rfl, RgC.neg (by omega) (by omega) (by decide) (by decide), fun D hD => ?_⟩
    have en : (((fs.length : Nat) : Int) - 1 - 0).toNat = (prs us).length := by rw [pl, fl]; omega
    rw [en]
    let F : Nat → V → Hp → Prop := fun i y H' => ∃ e, (prs us)[i]? = some e ∧ IsR K H' y e
    have kf : ByT F := fun k y Ha Hb t ⟨e, h1, h2⟩ => ⟨e, h1, h2.tk t⟩
    refine lc_it (walk_rangeC (lo := ((fs.length : Nat) : Int) - 1) (c := -1) (n := (prs us).length)) (PvAll F H D) (PvAll.zero hD) (fun _ _ _ _ => True.intro) ?_ ?_
    · rintro i y H2 H3 hi p2 ⟨rfl, rfl⟩
      have hi2 : i + 1 < us.length := by omega
      obtain ⟨va, ha1, ha2⟩ := rev_at pf (List.getElem?_eq_getElem (show i < us.length by omega))
      obtain ⟨vb, hb1, hb2⟩ := rev_at pf (List.getElem?_eq_getElem hi2)
      have e1 : ((fs.length : Nat) : Int) - 1 + (i : Nat) * (-1) = ((fs.length - 1 - i : Nat) : Int) := by omega
      have e2 : ((fs.length - 1 - i : Nat) : Int) - 1 = ((fs.length - 1 - (i + 1) : Nat) : Int) := by omega
      have s2 := p2.1
      have sq2 := SqL.of (K := K) (s2 _ _ hl)
      refine ⟨rfl, _, rfl, _, rfl, l, fs, _, va, rfl, rfl, sq2, by rw [e1]; exact atI_nat ha1, _, rfl, _, rfl, _, _, rfl, rfl, l, fs, _, vb, rfl, rfl, sq2, by rw [e1, e2]; exact atI_nat hb1, by show 2 ≤ sizeLine; decide, fun p hp => ?_⟩
      have t3 : Tk H (upd _ p (.tup [va, vb])) := (tkS s2).trans (Tk.new hp)
      exact PvAll.next kf hD p2 (samePut hp) ⟨_, prs_get (List.getElem?_eq_getElem (show i < us.length by omega)) (List.getElem?_eq_getElem hi2), p, va, vb, rfl, SqT.of upd_same, ha2.tk t3, hb2.tk t3⟩ (szBig (by omega))
    · rintro H2 ⟨s2, ys, hys, hyl, hy⟩
      have py : Paired (IsR K H2) ys (prs us) := Paired.ofIx hyl fun k z hz => hy k z hz
      have p2 := pu.go s2
      have l2 := s2 _ _ hl
      have sq2 := SqL.of (K := K) l2
      have iv2 := ivs.tk (tkS s2)
      have it2 := ivt.tk (tkS s2)
      have os := W.ok s hsm
      have ot := W.ok t htm
      have at0 : atI fs 0 = some (.ref at_) := atI_nat (j := 0) eft
      have at1 : atI fs (-1) = some (.ref as) := by rw [efs]; exact atI_last fs0 (.ref as)
      -- how many
      refine ⟨_, rfl, x.p, C2, x.dp, _, _, rfl, p2.obj, LP.cl, LP.nL, pf_left _ _ _, _, rfl, _, rfl, l, fs, _, _, rfl, rfl, sq2, at1, x.dl, as, s, x.Ll, _, rfl, rfl, iv2, p2.lt, p2.left _ os, _, rfl, x.p, C2, x.dp, _, _, rfl, p2.obj, LP.cl, LP.nL, pf_left _ _ _, _, rfl, l, fs, _, _, rfl, rfl, sq2, at0, x.dl, at_, t, x.Ll, _, rfl, rfl, it2, p2.lt, p2.left _ ot, _, rfl, by show 2 ≤ sizeLine; decide, fun l1 hl1 => ?_⟩
      obtain ⟨H3, eH3⟩ : ∃ H3, upd H2 l1 (.lst [.int (L s), .int (- L t)]) = H3 := ⟨_, rfl⟩
      rw [eH3]
      have s3 : Same H2 H3 := by rw [← eH3]; exact samePut hl1
      have e3 : H3 l1 = some (.lst [.int (L s), .int (- L t)]) := by rw [← eH3]; exact upd_same
      have D3 := s3 _ _ hys
      refine ⟨_, rfl, D, rfl, ⟨_, SqL.of D3⟩, fun D2 hD2 => ?_⟩
      let F2 : Nat → V → Hp → Prop := fun i y _ => ∃ z, ((prs us).map (roomOf told G))[i]? = some z ∧ y = V.int z
      have kf2 : ByT F2 := fun _ _ _ _ _ h => h
      have p3 := p2.go s3
      refine lc_it (walk_list (K := K) (a := D) (xs := ys)) (PvAll F2 H3 D2) (PvAll.zero hD2) (fun i H' _ p => SqL.of (p.1 _ _ D3)) ?_ ?_
      · rintro i y H8 H4 hi p4 ⟨rfl, hx⟩
        obtain ⟨e, he, ir⟩ := Paired.at1 py hx
        have t4 : Tk H2 H4 := tkS (s3.trans p4.1)
        obtain ⟨b, xa, xb, rfl, sb, wa, wb⟩ := ir.tk t4
        refine ⟨b, _, rfl, sb, rfl, _, _, rfl, _, _, rfl, rfl, rfl, _, rfl, x.p, x.dp, _, rfl, (p3.go p4.1).obj, pf_no (by decide +kernel) (by decide +kernel) (by decide +kernel), _, rfl, _, rfl, xa, xb, e, n, told, G, L, H0, x, rfl, p3.go p4.1, wa, wb, ?_, W.st e (List.mem_of_getElem? he), fun H5 s5 => ?_⟩
        · exact W.ok _ (prs_fst e (List.mem_of_getElem? he)).1
        · exact PvAll.next kf2 hD2 p4 s5 ⟨_, by rw [List.getElem?_map, he]; rfl, rfl⟩ (szBig (by omega))
      · rintro H4 ⟨s4, zs, hzs, hzl, hz⟩
        have ez : zs = ((prs us).map (roomOf told G)).map V.int := ints_list (by rw [hzl, hyl, List.length_map]) hz
        have p4 := p3.go s4
        refine ⟨l1, D2, _, zs, rfl, rfl, s4 _ _ e3, hzs, Nat.le_of_lt (szBig (by rw [hzl, hyl]; show 2 + _ ≤ _; omega)), fun o ho => ?_⟩
        refine ⟨o, (L s :: - L t :: (prs us).map (roomOf told G)), rfl, SqL.of (by rw [upd_same, ez]; rfl), Nat.succ_pos _, fun m hm hle => ?_⟩
        have m1 : 1 ≤ m := by
          rcases List.mem_cons.mp hm with q | q
          · have := W.ls; omega
          · rcases List.mem_cons.mp q with q | q
            · have := W.lt; omega
            · obtain ⟨e, he, q⟩ := List.mem_map.mp q
              rw [← q]
              exact W.room e he
        have m2 := hle (L s) List.mem_cons_self
        have m3 := hle (- L t) (List.mem_cons_of_mem _ List.mem_cons_self)
        have m4 : ∀ e ∈ prs us, m ≤ roomOf told G e := fun e he => hle _ (List.mem_cons_of_mem _ (List.mem_cons_of_mem _ (List.mem_map.mpr ⟨e, he, rfl⟩)))
        have q := fun H' x' => q H' x' m m1 m2 m3 m4
        have s5 : Same H4 (upd H4 o (.lst ([.int (L s), .int (- L t)] ++ zs))) := samePut ho
        obtain ⟨H5, eH5⟩ : ∃ H5, upd H4 o (.lst ([.int (L s), .int (- L t)] ++ zs)) = H5 := ⟨_, rfl⟩
        rw [eH5] at s5 ⊢
        have p5 := p4.go s5
        have s25 : Same H2 H5 := (s3.trans s4).trans s5
        have D5 := s25 _ _ hys
        have l5 := s25 _ _ l2
        have py5 : Paired (IsR K H5) ys (prs us) := Paired.mono (fun _ _ z => IsR.tk z (tkS s25)) py
        have Dne : D ≠ x.dg := fun e => by rw [e, p5.gv.1] at D5; cases D5
        have lne : l ≠ x.dg := fun e => by rw [e, p5.gv.1] at l5; cases l5
        have lne2 : l ≠ x.dl := fun e => by rw [e, p5.lt.1] at l5; cases l5
        clear hle hz ez hzl m2 m3 m4 hm
        -- along it
        let Pv : Nat → L2.St → Hp → Prop := fun i σ H6 => ∃ Lg, Pu P w K C2 H0 H6 n told (payAll told m G ((prs us).take i)) L { x with Lg := Lg } ∧ (∀ e, Has x.Lg e → Has Lg e) ∧ Kp (· = x.dg) H5 H6 ∧ Tk H5 H6 ∧ ∃ v3 v4 v6, σ = [some (.ref x.p), some (.ref l), some (.ref D), v3, v4, some (.int m), v6]
        refine ⟨_, rfl, D, rfl, ⟨_, SqL.of D5⟩, for_list (K := K) (a := D) (xs := ys) Pv ⟨x.Lg, p5, fun _ h => h, Kp.refl _ _, Tk.refl _, none, none, none, rfl⟩ (fun i σ H6 _ p => by
          obtain ⟨Lg, _, _, k, _⟩ := p
          exact SqL.of (k _ _ Dne D5)) ?_ ?_⟩
        · rintro i v σ H6 hx ⟨Lg, p6, g6, k6, t6, v3, v4, v6, rfl⟩
          obtain ⟨e, he, ir⟩ := Paired.at1 py5 hx
          have hem := List.mem_of_getElem? he
          obtain ⟨b, xa, xb, rfl, sb, wa, wb⟩ := ir.tk t6
          obtain ⟨pa, rfl, spa⟩ := id wa
          obtain ⟨pb, rfl, spb⟩ := id wb
          have oa := W.ok _ (prs_fst e hem).1
          obtain ⟨a, xs, ws, b1, b2, b3, b4, b5⟩ := p6.steps e.1 oa
          have mem : e.2 ∈ ws ↔ e ∈ allE told := b5 e.2
          have gl6 := p6.glen
          have gl7 : Lg.length ≤ 2 * told.length := gl6
          refine ⟨b, _, rfl, sb, rfl, _, _, rfl, _, _, rfl, rfl, ?_⟩
          refine ⟨_, rfl, _, rfl, x.p, C2, x.dp, _, _, rfl, p6.obj, LP.cl, LP.nS, pf_steps _ _ _, _, rfl, x.ds, pa, e.1, x.Ls, _, rfl, rfl, wa, p6.st, b1, e.2, a, xs, ws, wb, rfl, b2, b3, _, rfl, ?_⟩
          refine ite2 (fun h => ?_) (fun h => ?_)
          · have hy : e ∈ allE told := mem.mp (Decidable.byContradiction fun z => by
              rw [decide_eq_false z] at h
              exact absurd h (by decide))
            have gd : (getE Lg e).getD (.int 0) = .int (payAll told m G ((prs us).take i) e) := by
              rcases p6.given e with g | ⟨g1, g2⟩
              · have g' : getE Lg e = _ := g
                rw [g']; rfl
              · have g' : getE Lg e = none := g1
                rw [g', g2]; rfl
            refine ⟨_, rfl, x.p, C2, x.dp, _, _, rfl, p6.obj, LP.cl, LP.nG, pf_given _ _ _, ⟨x.dg, Lg, rfl, p6.gv⟩, _, rfl, _, rfl, by show 2 ≤ sizeLine; decide, fun T1 hT1 => ⟨x.dg, T1, e, Lg, .int 0, rfl, rfl, pairNew hT1 wa wb, p6.gv.same (samePut hT1), _, rfl, _, _, gd, rfl, ?_⟩⟩
            have p7 := p6.go (samePut hT1 (o := .tup [.ref pa, .ref pb]))
            have wa7 := wa.tk (Tk.new hT1 (o := .tup [.ref pa, .ref pb]))
            have wb7 := wb.tk (Tk.new hT1 (o := .tup [.ref pa, .ref pb]))
            refine ⟨_, rfl, x.p, C2, x.dp, _, _, rfl, p7.obj, LP.cl, LP.nG, pf_given _ _ _, _, rfl, _, rfl, by show 2 ≤ sizeLine; decide, fun T2 hT2 => ⟨x.dg, T2, e, Lg, rfl, rfl, pairNew hT2 wa7 wb7, p7.gv.same (samePut hT2), szBig (by omega), ?_⟩⟩
            have p8 := p7.go (samePut hT2 (o := .tup [.ref pa, .ref pb]))
            refine ⟨_, p8.putG hy (pairNew hT2 wa7 wb7) fun y => ?_, fun y hy' => has_put.mpr (.inr (g6 y hy')), fun b' o' hb' e' => ?_, ?_, _, _, v6, rfl⟩
            · rw [payAll_succ he]
              unfold payE
              rw [if_pos hy]
              by_cases h : e = y
              · subst h; rw [if_pos rfl, if_pos rfl]
              · rw [if_neg h, if_neg fun z => h z.symm, Int.add_zero]
            · exact (upd_ne hb').trans (samePut hT2 _ _ (samePut hT1 _ _ (k6 _ _ hb' e')))
            · exact ((t6.trans (Tk.new hT1)).trans (Tk.new hT2)).trans (Tk.write p8.gv.1 True.intro)
          · have hn : e ∉ allE told := fun z => h (by rw [decide_eq_true (mem.mpr z)]; rfl)
            have hb : bk e ∈ allE told ∧ 0 < G (bk e) := (W.st e hem).resolve_left hn
            have hs : Has Lg (bk e) := g6 _ (has_get.mpr (by
              rcases pu.given (bk e) with g | ⟨_, g⟩
              · rw [g]; rfl
              · rw [g] at hb; exact absurd hb.2 (by decide)))
            have gd : getE Lg (bk e) = some (.int (payAll told m G ((prs us).take i) (bk e))) := by
              rcases p6.given (bk e) with g | ⟨g1, _⟩
              · exact g
              · have g' : getE Lg (bk e) = none := g1
                rw [has_get, g'] at hs
                cases hs
            refine ⟨_, rfl, x.p, C2, x.dp, _, _, rfl, p6.obj, LP.cl, LP.nG, pf_given _ _ _, _, rfl, _, rfl, by show 2 ≤ sizeLine; decide, fun T hT => ⟨x.dg, T, bk e, Lg, _, rfl, rfl, pairNew hT wb wa, p6.gv.same (samePut hT), gd, _, rfl, _, _, rfl, rfl, x.dg, T, bk e, Lg, rfl, rfl, pairNew hT wb wa, p6.gv.same (samePut hT), szBig (by omega), ?_⟩⟩
            have p8 := p6.go (samePut hT (o := .tup [.ref pb, .ref pa]))
            refine ⟨_, p8.putG hb.1 (pairNew hT wb wa) fun y => ?_, fun y hy' => has_put.mpr (.inr (g6 y hy')), fun b' o' hb' e' => ?_, ?_, _, _, v6, rfl⟩
            · rw [payAll_succ he]
              unfold payE
              rw [if_neg hn]
              by_cases h : bk e = y
              · subst h; rw [if_pos rfl, if_pos rfl]
              · rw [if_neg h, if_neg fun z => h z.symm, Int.sub_zero]
            · exact (upd_ne hb').trans (samePut hT _ _ (k6 _ _ hb' e'))
            · exact (t6.trans (Tk.new hT)).trans (Tk.write p8.gv.1 True.intro)
        · rintro σ H6 ⟨Lg, p6, g6, k6, t6, v3, v4, v6, rfl⟩
          rw [hyl, List.take_length] at p6
          have l6 := k6 _ _ lne l5
          have t26 : Tk H2 H6 := (tkS s25).trans t6
          have iv6 := iv2.tk t26
          have it6 := it2.tk t26
          have llen := pu.llen
          refine ⟨_, rfl, x.p, C2, x.dp, _, _, rfl, p6.obj, LP.cl, LP.nL, pf_left _ _ _, _, rfl, _, rfl, l, fs, _, _, rfl, rfl, SqL.of l6, at1, x.dl, as, s, x.Ll, _, rfl, rfl, iv6, p6.lt, p6.left _ os, _, rfl, _, _, rfl, rfl, x.dl, as, s, x.Ll, rfl, rfl, iv6, p6.lt, szBig (by omega), ?_⟩
          have t7 : Tk H6 (upd H6 x.dl (NDo P w kkW x.dl (putE x.Ll s as (.int (L s - m))))) := Tk.write p6.lt.1 True.intro
          have p7 := p6.putL (L' := fun y => if s = y then L s - m else L y) os iv6 fun y => rfl
          have l7 : (upd H6 x.dl (NDo P w kkW x.dl (putE x.Ll s as (.int (L s - m))))) l = some (.lst fs) := (upd_ne lne2).trans l6
          have it7 := it6.tk t7
          have ll7 : (putE x.Ll s as (.int (L s - m))).length ≤ 2 * n := p7.llen
          refine ⟨_, rfl, x.p, C2, x.dp, _, _, rfl, p7.obj, LP.cl, LP.nL, pf_left _ _ _, _, rfl, l, fs, _, _, rfl, rfl, SqL.of l7, at0, x.dl, at_, t, _, _, rfl, rfl, it7, p7.lt, p7.left _ ot, _, rfl, _, _, rfl, rfl, x.dl, at_, t, _, rfl, rfl, it7, p7.lt, szBig (Nat.le_trans ll7 (by omega)), ?_⟩
          refine q _ { x with Lg := Lg, Ll := putE (putE x.Ll s as (.int (L s - m))) t at_ (.int ((if s = t then L s - m else L t) + m)) } rfl (p7.putL ot it7 fun y => ?_)
          show (L y - if y = s then m else 0) + (if y = t then m else 0) = if t = y then (if s = t then L s - m else L t) + m else if s = y then L s - m else L y
          by_cases h1 : t = y
          · subst h1
            by_cases h2 : s = t
            · subst h2; simp
            · have h3 : ¬ t = s := fun z => h2 z.symm
              simp [h2, h3]
          · have h4 : ¬ y = t := fun z => h1 z.symm
            by_cases h2 : s = y
            · subst h2; simp [h1, h4]
            · have h3 : ¬ y = s := fun z => h2 z.symm
              simp [h1, h2, h3, h4]
end
end K74

set_option Elab.async false
set_option linter.all false
set_option maxRecDepth 100000
set_option maxHeartbeats 4000000
/-! A set of rules (pairs of pairs of ints): what looking one up and putting one in does. -/
namespace K74
open PySem PySem.Spec PyProof.Rows L2
abbrev El := Addr × Rl
def rh (P : Program) (w : World) (r : Rl) : Int := (nestedKind P w).hash (kR r)
def rrows (P : Program) (w : World) (L : List El) : List (Int × Value) := L.map fun e => (rh P w e.2, Value.ref e.1)
theorem nk_is {P : Program} {w : World} {h : Heap} {a : Addr} {r : Rl} (x : RIs h a r) : (nestedKind P w).is h (kR r) a := ⟨x.nest, by rw [kR_dep]; decide⟩
theorem RIs.kept {h h' : Heap} {a : Addr} {r : Rl} (x : RIs h a r) (k : ∀ b o, h.get? b = some o → h'.get? b = some o) : RIs h' a r := kkP.keep (a := r) x fun b o e _ => k b o e
/-- what is a tuple isn't the set -/
theorem RIs.beside {h h' : Heap} {a b : Addr} {r : Rl} {o : Obj} (x : RIs h b r) (ho : h.get? a = some o) (hc : o.cls = .type "set") (sb : Heap.SameBut a h h') : RIs h' b r := kkP.keep (a := r) x fun c u e hu => by
  refine (sb.2 c fun q => ?_).trans e
  rw [q, ho] at e
  cases e
  rw [hc] at hu
  exact absurd (Value.type.inj hu) (by decide)
section
variable {P : Program} {w : World} {A : Around} {E : Value → Shared → Prop} {s : Shared}
/-! ### questions that a set asks of its elements -/
theorem ofA_tuple {n : Nat} {b : Addr} {its : Array Value} (ht : s.heap.IsTuple b its) (each : ∀ v ∈ its.toList, ∀ {Z : Bool → Shared → Prop}, Z false s → wpAny (model P w) A (ofAClassStatement n v) Z E s) {Q : Bool → Shared → Prop} (q : Q false s) :
    wpAny (model P w) A (ofAClassStatement (n + 1) (.ref b)) Q E s := by
  obtain ⟨o, ho, hc, m, hd⟩ := ht
  unfold ofAClassStatement
  refine wpAny_bind (wpAny_typeOf (T := "tuple") ⟨o, ho, hc⟩ ?_)
  have yes : (("tuple" : String) == "tuple") = true := by decide
  simp only [yes, if_true, Bool.not_true, Bool.false_eq_true, if_false]
  try refine wpAny_bind (wpAny_pure ?_)
  try simp only [Bool.not_true, Bool.false_eq_true, if_false]
  refine wpAny_bind (m := seqItems? (.ref b)) (wpAny_seqItems ho hd ?_)
  refine wpAny_bind (m := forIn its _ _) ?_
  rw [← Array.forIn_toList]
  refine wpAny_forIn_list _ (fun todo acc z => (∀ v ∈ todo, v ∈ its.toList) ∧ acc.1 = none ∧ z = s) _ (fun v todo acc z hz => ?_) (fun acc z hz => ?_) _ _ ⟨fun _ h => h, rfl, rfl⟩
  · obtain ⟨sub, a0, rfl⟩ := hz
    refine wpAny_bind (each v (sub v List.mem_cons_self) ?_)
    simp only [Bool.false_eq_true, if_false]
    exact wpAny_pure ⟨fun u hu => sub u (List.mem_cons_of_mem _ hu), rfl, rfl⟩
  · obtain ⟨_, a0, rfl⟩ := hz
    obtain ⟨a1, a2⟩ := acc
    cases a0
    exact wpAny_pure q
theorem hbv_tuple {n : Nat} {b : Addr} {its : Array Value} (ht : s.heap.IsTuple b its) (each : ∀ v ∈ its.toList, ∀ {Z : Bool → Shared → Prop}, Z true s → wpAny (model P w) A (hashByValue n v) Z E s) {Q : Bool → Shared → Prop} (q : Q true s) :
    wpAny (model P w) A (hashByValue (n + 1) (.ref b)) Q E s := by
  obtain ⟨o, ho, hc, m, hd⟩ := ht
  unfold hashByValue
  refine wpAny_bind (wpAny_specialOf (T := "tuple") ⟨o, ho, hc⟩ F.slot_tuple_hash.lookup ?_)
  refine wpAny_bind (m := seqItems? (.ref b)) (wpAny_seqItems ho hd ?_)
  refine wpAny_bind (m := forIn its _ _) ?_
  rw [← Array.forIn_toList]
  refine wpAny_forIn_list _ (fun todo acc z => (∀ v ∈ todo, v ∈ its.toList) ∧ acc.1 = none ∧ z = s) _ (fun v todo acc z hz => ?_) (fun acc z hz => ?_) _ _ ⟨fun _ h => h, rfl, rfl⟩
  · obtain ⟨sub, a0, rfl⟩ := hz
    refine wpAny_bind (each v (sub v List.mem_cons_self) ?_)
    simp only [Bool.not_true, Bool.false_eq_true, if_false]
    exact wpAny_pure ⟨fun u hu => sub u (List.mem_cons_of_mem _ hu), rfl, rfl⟩
  · obtain ⟨_, a0, rfl⟩ := hz
    obtain ⟨a1, a2⟩ := acc
    cases a0
    exact wpAny_pure q
theorem two_of {x y : Value} {p : Value → Prop} (hx : p x) (hy : p y) : ∀ v ∈ (#[x, y] : Array Value).toList, p v := fun v hv => by
  rcases List.mem_cons.mp hv with e | hv
  · rw [e]; exact hx
  · rw [List.mem_singleton.mp hv]; exact hy
theorem ofA_rule {b : Addr} {r : Rl} (x : RIs s.heap b r) {Q : Bool → Shared → Prop} (q : Q false s) : wpAny (model P w) A (ofAClassStatement 8 (.ref b)) Q E s := by
  obtain ⟨p, p', ht, ⟨t1, t2, h1⟩, ⟨t3, t4, h2⟩⟩ := x
  have lv : ∀ (i : Int) (t : Tok) {Z : Bool → Shared → Prop}, Z false s → wpAny (model P w) A (ofAClassStatement 6 (.int i t)) Z E s := fun i t Z z => by
    rw [ofAClass_int]; exact wpAny_pure z
  refine ofA_tuple (n := 7) ht (two_of (p := fun v => ∀ {Z : Bool → Shared → Prop}, Z false s → wpAny (model P w) A (ofAClassStatement 7 v) Z E s) (fun z => ?_) (fun z => ?_)) q
  · exact ofA_tuple (n := 6) h1 (two_of (p := fun v => ∀ {Z : Bool → Shared → Prop}, Z false s → wpAny (model P w) A (ofAClassStatement 6 v) Z E s) (lv _ _) (lv _ _)) z
  · exact ofA_tuple (n := 6) h2 (two_of (p := fun v => ∀ {Z : Bool → Shared → Prop}, Z false s → wpAny (model P w) A (ofAClassStatement 6 v) Z E s) (lv _ _) (lv _ _)) z
theorem hbv_rule {b : Addr} {r : Rl} (x : RIs s.heap b r) {Q : Bool → Shared → Prop} (q : Q true s) : wpAny (model P w) A (hashByValue 8 (.ref b)) Q E s := by
  obtain ⟨p, p', ht, ⟨t1, t2, h1⟩, ⟨t3, t4, h2⟩⟩ := x
  have lv : ∀ (i : Int) (t : Tok) {Z : Bool → Shared → Prop}, Z true s → wpAny (model P w) A (hashByValue 6 (.int i t)) Z E s := fun i t Z z => by
    rw [hashBy_int]; exact wpAny_pure z
  refine hbv_tuple (n := 7) ht (two_of (p := fun v => ∀ {Z : Bool → Shared → Prop}, Z true s → wpAny (model P w) A (hashByValue 7 v) Z E s) (fun z => ?_) (fun z => ?_)) q
  · exact hbv_tuple (n := 6) h1 (two_of (p := fun v => ∀ {Z : Bool → Shared → Prop}, Z true s → wpAny (model P w) A (hashByValue 6 v) Z E s) (lv _ _) (lv _ _)) z
  · exact hbv_tuple (n := 6) h2 (two_of (p := fun v => ∀ {Z : Bool → Shared → Prop}, Z true s → wpAny (model P w) A (hashByValue 6 v) Z E s) (lv _ _) (lv _ _)) z
/-- looking one rule up among rules is not seen -/
theorem unseen {b : Addr} {r : Rl} (x : RIs s.heap b r) {ys : List Value} (hy : ∀ y ∈ ys, ∃ c q, y = Value.ref c ∧ RIs s.heap c q) {Q : Bool → Shared → Prop} (q : Q false s) : wpAny (model P w) A (searchCouldBeSeen (.ref b) ys) Q E s := by
  unfold searchCouldBeSeen
  refine wpAny_bind (wpAny_forIn_list _ (fun todo acc z => (∀ y ∈ todo, ∃ c q, y = Value.ref c ∧ RIs s.heap c q) ∧ acc.1 = none ∧ z = s) _ (fun v todo acc z hz => ?_) (fun acc z hz => ?_) _ _ ⟨hy, rfl, rfl⟩)
  · obtain ⟨all, a0, rfl⟩ := hz
    obtain ⟨c, q', rfl, xc⟩ := all v List.mem_cons_self
    have tl : ∀ y ∈ todo, ∃ c q, y = Value.ref c ∧ RIs z.heap c q := fun y h => all y (List.mem_cons_of_mem _ h)
    dsimp only
    rcases Bool.eq_false_or_eq_true (b == c || (carriedByValue (.ref b) && carriedByValue (.ref c))) with e | e
    · exact wp_if_pos e (wpAny_pure ⟨tl, rfl, rfl⟩)
    · refine wp_if_neg (by rw [e]; decide) (wpAny_bind ((nestedKind P w).quiet (nk_is x) ?_))
      simp only [Bool.not_true, Bool.false_eq_true, if_false]
      refine wpAny_bind ((nestedKind P w).quiet (nk_is xc) ?_)
      simp only [Bool.not_true, Bool.false_eq_true, if_false]
      refine wpAny_bind (ofA_rule x ?_)
      simp only [Bool.false_eq_true, if_false]
      refine wpAny_bind (ofA_rule xc ?_)
      simp only [Bool.false_eq_true, if_false]
      exact wpAny_pure ⟨tl, rfl, rfl⟩
  · obtain ⟨_, a0, rfl⟩ := hz
    obtain ⟨a1, a2⟩ := acc
    cases a0
    exact wpAny_pure q
end
/-! ### the set -/
structure RSet (P : Program) (w : World) (h : Heap) (a : Addr) (L : List El) (es : Array (Int × Value)) (ep : Nat) (t : SetTable) : Prop where
  obj : ∃ o, h.get? a = some o ∧ o.ExactSet ∧ o.data = .set es ep t
  rows : es.toList = rrows P w L
  tab : TabOk t (L.map fun e => rh P w e.2)
  nd : (L.map (·.2)).Nodup
  has : ∀ e ∈ L, RIs h e.1 e.2
  plain : t.plain = true
  led : w.params.followText "set-order" = true ∨ t.led = true
  room : L.length * 5 < t.mask * 3
  few : L.length < 64
/-- the c-th step of a search -/
def pth (m : Nat) (h : Int) (c : Nat) : SetTable.Probe := nth m (runAt m (SetTable.bits h % (m + 1)) (SetTable.bits h)) c
theorem pth_add (m : Nat) (h : Int) (c q : Nat) : nth m (pth m h c) q = pth m h (c + q) := (nth_add m c _ q).symm
theorem nth_clean (m : Nat) : ∀ (n : Nat) (p : SetTable.Probe), p.dummy = none → (nth m p n).dummy = none
  | 0, _, h => h
  | n + 1, p, h => nth_clean m n (adv m p) (by unfold adv; split <;> exact h)
theorem pth_clean (m : Nat) (h : Int) (c : Nat) : (pth m h c).dummy = none := nth_clean m c _ rfl
section
variable {P : Program} {w : World} {A : Around} {E : Value → Shared → Prop} {s : Shared} {h : Heap} {a : Addr} {L : List El} {es : Array (Int × Value)} {ep : Nat} {t : SetTable}
theorem rrows_len {P : Program} {w : World} {L : List El} {es : Array (Int × Value)} (r : es.toList = rrows P w L) : es.size = L.length := by
  rw [← Array.length_toList, r]
  exact List.length_map ..
theorem rrows_at {P : Program} {w : World} {L : List El} {es : Array (Int × Value)} (r : es.toList = rrows P w L) {i : Nat} {e : El} (he : L[i]? = some e) : es[i]? = some (rh P w e.2, Value.ref e.1) := by
  rw [← Array.getElem?_toList, r]
  unfold rrows
  rw [List.getElem?_map, he, Option.map_some]
theorem fits_of {t : SetTable} {n : Nat} (d : t.dummies = #[]) (z : t.place.size = n) (m : n ≤ t.mask) : t.fits n = true := by
  unfold SetTable.fits SetTable.fill
  rw [d, Bool.and_eq_true, beq_iff_eq, decide_eq_true_eq]
  exact ⟨z, by show t.place.size + 0 ≤ _; omega⟩
theorem RSet.sz (R : RSet P w h a L es ep t) : t.place.size = L.length := by
  have q := R.tab.sz
  rwa [List.length_map] at q
theorem opt1 (z : Int) (v : Value) : ((some (z, v)).map (·.1)).getD 0 = z := rfl
theorem map_at2 {P : Program} {w : World} {L : List El} {i : Nat} {e : El} {r : Rl} (he : L[i]? = some e) (e2 : e.2 = r) : (L.map fun e => rh P w e.2)[i]? = some (rh P w r) := by
  rw [List.getElem?_map, he, ← e2, Option.map_some]
theorem probe_go (t : SetTable) (f : Nat → Int) (z : Int) (p : SetTable.Probe) : t.probe f z p = SetTable.probe.go t f z (10 * SetTable.turns t.mask) p := by
  unfold SetTable.probe
  rfl
theorem RSet.fits (R : RSet P w h a L es ep t) : t.fits es.size = true := by
  rw [rrows_len R.rows]
  exact fits_of R.tab.dm R.sz (by have := R.room; omega)
theorem RSet.firm (R : RSet P w h a L es ep t) : ¬ t.gaveWay = true := by
  unfold SetTable.gaveWay
  rw [mask_odd R.tab.mok]
  decide
/-- what a probe from the c-th step on says -/
theorem RSet.probe (R : RSet P w h a L es ep t) {z : Int} {K c : Nat} (hc : c ≤ K) (Kf : K < 10 * SetTable.turns t.mask) (end_ : way t.mask z K ∉ t.place.toList) (on_ : ∀ c, c < K → way t.mask z c ∈ t.place.toList) :
    (∃ (q i : Nat) (e : El), c + q < K ∧ t.place.toList[i]? = some (way t.mask z (c + q)) ∧ L[i]? = some e ∧ (∀ (q' i' : Nat) (e' : El), q' < q → t.place.toList[i']? = some (way t.mask z (c + q')) → L[i']? = some e' → rh P w e'.2 ≠ z) ∧
      t.probe (fun i => (es[i]?.map (·.1)).getD 0) z (pth t.mask z c) = some (.candidate (way t.mask z (c + q)) i (pth t.mask z (c + (q + 1))))) ∨
    ((∀ (q' i' : Nat) (e' : El), c + q' < K → t.place.toList[i']? = some (way t.mask z (c + q')) → L[i']? = some e' → rh P w e'.2 ≠ z) ∧ t.probe (fun i => (es[i]?.map (·.1)).getD 0) z (pth t.mask z c) = some (.empty (way t.mask z K) none)) := by
  have ej : ∀ q, (nth t.mask (pth t.mask z c) q).j = way t.mask z (c + q) := fun q => congrArg SetTable.Probe.j (pth_add t.mask z c q)
  have hh : ∀ {i : Nat} {e : El}, L[i]? = some e → (es[i]?.map (·.1)).getD 0 = rh P w e.2 := fun he => by rw [rrows_at R.rows he]; exact opt1 _ _
  have ek : c + (K - c) = K := by omega
  rcases go_spec t R.tab.ris R.tab.dm (fun i => (es[i]?.map (·.1)).getD 0) z (10 * SetTable.turns t.mask) (K - c) (pth t.mask z c) (pth_clean ..) (by omega) (fun q hq => by rw [ej]; exact on_ _ (by omega)) (by rw [ej, ek]; exact end_) with
    ⟨q, i, hq, hi, _, no, pr⟩ | ⟨no, pr⟩
  · rw [ej] at hi
    have il : i < L.length := by
      have := (List.getElem?_eq_some_iff.mp hi).1
      rw [Array.length_toList, R.sz] at this
      exact this
    refine .inl ⟨q, i, L[i], by omega, hi, List.getElem?_eq_getElem il, fun q' i' e' h1 h2 h3 => ?_, ?_⟩
    · have := no q' i' h1 (by rw [ej]; exact h2)
      rwa [hh h3] at this
    · rw [probe_go, pr, ej, pth_add]
  · refine .inr ⟨fun q' i' e' h1 h2 h3 => ?_, ?_⟩
    · have := no q' i' (by omega) (by rw [ej]; exact h2)
      rwa [hh h3] at this
    · rw [probe_go, pr, ej, ek]
/-- THE SEARCH, from the c-th step on -/
theorem RSet.search (R : RSet P w s.heap a L es ep t) {x : Addr} {r : Rl} (hx : RIs s.heap x r) (hu : A.units + 8 < cLine) {K : Nat} (Kf : K < 10 * SetTable.turns t.mask) (end_ : way t.mask (rh P w r) K ∉ t.place.toList)
    (on_ : ∀ c, c < K → way t.mask (rh P w r) c ∈ t.place.toList) {Q : SetFound → Shared → Prop} (yes : r ∈ L.map (·.2) → Q (.there none) s) (no : r ∉ L.map (·.2) → Q (.free (way t.mask (rh P w r) K) false) s) :
    ∀ (f c : Nat), c ≤ K → K < c + f → (∀ (i : Nat) (e : El), L[i]? = some e → e.2 = r → ∃ d, c ≤ d ∧ d < K ∧ t.place.toList[i]? = some (way t.mask (rh P w r) d)) →
      ∀ stand : Option SetTable.Probe, stand.getD (t.probeStart (rh P w r)) = pth t.mask (rh P w r) c → wpAny (model P w) A (setSearchFrom a (.ref x) (rh P w r) true f stand) Q E s := by
  obtain ⟨o, ho, ex, dt⟩ := R.obj
  intro f
  induction f with
  | zero => intro c h1 h2; exact absurd h2 (by omega)
  | succ f ih =>
    intro c hc hf ahead stand st
    rw [setSearchFrom_succ]
    refine wpAny_bind (wpAny_setState_of ho dt R.fits (wp_if_neg R.firm ?_))
    try refine wpAny_bind (wpAny_pure ?_)
    rw [st]
    rcases R.probe hc Kf end_ on_ with ⟨q, i, e, hq, hi, he, before, pr⟩ | ⟨before, pr⟩ <;> rw [pr] <;> dsimp only
    · have me := List.mem_of_getElem? he
      have xe := R.has e me
      have live : t.slot (way t.mask (rh P w r) (c + q)) = .live i := slot_live R.tab.ris hi
      have after : wpAny (model P w) A (searchRest a (.ref x) (rh P w r) true f es t (way t.mask (rh P w r) (c + q)) i (pth t.mask (rh P w r) (c + (q + 1)))) Q E s := by
        unfold searchRest
        rw [rrows_at R.rows he]
        refine wpAny_bind (wpAny_holding ((nestedKind P w).eqBool hu (nk_is xe) (nk_is hx) (wpAny_bind (wpAny_setState_of ho dt R.fits ?_))))
        by_cases same : e.2 = r
        · exact wp_if_pos (by rw [same]; simp) (wpAny_pure (yes (List.mem_map.mpr ⟨e, me, same⟩)))
        · have ne : ¬ kR e.2 = kR r := fun z => same (kR_inj z)
          refine wp_if_neg (by simp [ne]) ?_
          try refine wpAny_bind (wpAny_pure ?_)
          rw [sameMem]
          simp only [if_true, live, rrows_at R.rows he]
          refine wpAny_bind (wpAny_isSame_ref_self (wpAny_bind (wpAny_pure ?_)))
          simp only [if_true]
          refine wp_if_neg (by simp [ne]) (ih (c + (q + 1)) (by omega) (by omega) (fun i' e' h1 h2 => ?_) _ rfl)
          obtain ⟨d, d1, d2, d3⟩ := ahead i' e' h1 h2
          refine ⟨d, ?_, d2, d3⟩
          rcases Nat.lt_trichotomy d (c + q) with lt | eq | gt
          · exact absurd (by rw [h2]) (before (d - c) i' e' (by omega) (by rw [show c + (d - c) = d by omega]; exact d3) h1)
          · rw [eq] at d3
            have l2 := slot_live R.tab.ris d3
            rw [live] at l2
            injection l2 with l2
            rw [← l2, he] at h1
            exact absurd ((congrArg Prod.snd (Option.some.inj h1)).trans h2) same
          · omega
      rcases Bool.eq_false_or_eq_true t.led with ld | ld
      · refine wp_if_neg (by rw [ld]; decide) ?_
        try refine wpAny_bind (wpAny_pure ?_)
        exact after
      · refine wp_if_pos (by rw [ld]; decide) (wpAny_bind (unseen hx (fun y hy => ?_) (wp_if_neg (by decide) ?_)))
        · obtain ⟨p, hp, rfl⟩ := List.mem_map.mp hy
          have hp2 : p ∈ es.toList := by simp only [Array.mem_toList_iff, Array.mem_filter] at hp; exact Array.mem_toList_iff.mpr hp.1
          rw [R.rows] at hp2
          obtain ⟨g, hg, rfl⟩ := List.mem_map.mp hp2
          exact ⟨g.1, g.2, rfl, R.has g hg⟩
        · try refine wpAny_bind (wpAny_pure ?_)
          exact after
    · refine wpAny_pure (no fun m => ?_)
      obtain ⟨e, he, e2⟩ := List.mem_map.mp m
      obtain ⟨i, hi⟩ := List.mem_iff_getElem?.mp he
      obtain ⟨d, d1, d2, d3⟩ := ahead i e hi e2
      exact before (d - c) i e (by omega) (by rw [show c + (d - c) = d by omega]; exact d3) hi (by rw [e2])
/-- the search as adding asks for it -/
theorem RSet.find (R : RSet P w s.heap a L es ep t) {x : Addr} {r : Rl} (hx : RIs s.heap x r) (hu : A.units + 8 < cLine) {Q : SetFound → Shared → Prop} (yes : r ∈ L.map (·.2) → Q (.there none) s)
    (no : ∀ K, r ∉ L.map (·.2) → way t.mask (rh P w r) K ∉ t.place.toList → (∀ c, c < K → way t.mask (rh P w r) c ∈ t.place.toList) → Q (.free (way t.mask (rh P w r) K) false) s) :
    wpAny (model P w) A (setSearch a (.ref x) (rh P w r) true) Q E s := by
  obtain ⟨K, Kf, end_, on_⟩ := R.tab.first (by have := R.room; rw [List.length_map]; omega) (rh P w r)
  have few : 10 * SetTable.turns t.mask < 100000 := by
    unfold SetTable.turns
    rcases R.tab.mok with e | e | e <;> rw [e] <;> decide
  unfold setSearch
  refine R.search hx hu Kf end_ on_ yes (fun n => no K n end_ on_) 100000 0 (Nat.zero_le _) (by omega) (fun i e he e2 => ?_) none rfl
  have il : i < t.place.toList.length := by
    rw [Array.length_toList, R.sz]
    exact (List.getElem?_eq_some_iff.mp he).1
  have pj := List.getElem?_eq_getElem il
  obtain ⟨d, dK, de⟩ := R.tab.before end_ (i := i) (h := rh P w r) (map_at2 he e2) pj
  exact ⟨d, Nat.zero_le _, dK, by rw [pj, de]⟩
end
end K74

set_option Elab.async false
set_option linter.all false
set_option maxRecDepth 100000
set_option maxHeartbeats 4000000
/-! A set of rules: putting one in. -/
namespace K74
open PySem PySem.Spec PyProof.Rows L2
theorem fm_congr {α β : Type} {f g : α → Option β} : ∀ {l : List α}, (∀ a ∈ l, f a = g a) → l.filterMap f = l.filterMap g
  | [], _ => rfl
  | a :: l, h => by
    rw [List.filterMap_cons, List.filterMap_cons, h a List.mem_cons_self, fm_congr fun b hb => h b (List.mem_cons_of_mem _ hb)]
theorem fm_range {α : Type} (L : List α) : ∀ n, n ≤ L.length → (List.range n).filterMap (fun i => L[i]?) = L.take n
  | 0, _ => rfl
  | n + 1, h => by
    have hn : n < L.length := h
    rw [List.range_succ, List.filterMap_append, fm_range L n (by omega), List.take_succ, List.filterMap_cons, List.getElem?_eq_getElem hn]; rfl
theorem perm_order {P : Program} {w : World} {L : List El} {es : Array (Int × Value)} {order : Array Nat} (r : es.toList = rrows P w L) (hp : order.toList.Perm (List.range L.length)) :
    ∃ L', (order.filterMap (es[·]?)).toList = rrows P w L' ∧ L'.Perm L ∧ (L'.map fun e => rh P w e.2) = order.toList.map fun i => (es.map (·.1)).getD i 0 := by
  have get : ∀ i : Nat, es[i]? = (L[i]?).map fun e => (rh P w e.2, Value.ref e.1) := fun i => by
    rw [← Array.getElem?_toList, r]
    exact List.getElem?_map ..
  refine ⟨order.toList.filterMap fun i => L[i]?, ?_, ?_, ?_⟩
  · rw [Array.toList_filterMap]
    unfold rrows
    rw [List.map_filterMap]
    exact fm_congr fun i _ => get i
  · have q := hp.filterMap fun i => L[i]?
    rw [fm_range L L.length (Nat.le_refl _), List.take_length] at q
    exact q
  · rw [List.map_filterMap]
    have e : ∀ i ∈ order.toList, (L[i]?).map (fun e => rh P w e.2) = some ((es.map (·.1)).getD i 0) := fun i hi => by
      have il : i < L.length := List.mem_range.mp (hp.mem_iff.mp hi)
      have e2 : (es.map (·.1))[i]? = some (rh P w L[i].2) := by
        rw [Array.getElem?_map, get, List.getElem?_eq_getElem il, Option.map_some, Option.map_some]
      rw [List.getElem?_eq_getElem il, Option.map_some, Array.getD_eq_getD_getElem?, e2, Option.getD_some]
    rw [fm_congr e]
    exact congrFun (List.filterMap_eq_map (f := fun i => (es.map (·.1)).getD i 0)) order.toList
theorem put_in (L : List El) (k : Nat) (x : El) : (L.take k ++ x :: L.drop k).Perm (x :: L) := by
  have q : (L.take k ++ x :: L.drop k).Perm (x :: (L.take k ++ L.drop k)) := List.perm_middle
  rwa [List.take_append_drop] at q
section
variable {P : Program} {w : World} {A : Around} {E : Value → Shared → Prop} {s : Shared} {h : Heap} {a : Addr} {L : List El} {es : Array (Int × Value)} {ep : Nat} {t : SetTable}
theorem exact_at {o : Obj} (x : o.ExactSet) (d : Data) : Obj.ExactSet { o with data := d } := ⟨x.1, x.2.1, x.2.2⟩
/-- the table laid anew -/
theorem relay_rules {o : Obj} (ho : s.heap.get? a = some o) (ex : o.ExactSet) (dt : o.data = .set es ep t) (rows : es.toList = rrows P w L) (z : t.place.size = es.size) (dm : t.dummies = #[]) (fl : es.size ≤ t.mask) (nd : (L.map (·.2)).Nodup)
    (has : ∀ e ∈ L, RIs s.heap e.1 e.2) (pl : t.plain = true) (ld : w.params.followText "set-order" = true ∨ t.led = true) (few : L.length < 64) {wanted M : Nat} (hw : SetTable.sizeAbove wanted - 1 = M) (hM : MaskOk M) (h128 : SetTable.sizeAbove wanted ≤ 128)
    (rm : L.length * 5 < M * 3) {Q : Unit → Shared → Prop} (q : ∀ h' L' es' ep' t', Heap.SameBut a s.heap h' → RSet P w h' a L' es' ep' t' → L'.Perm L → Q () { s with heap := h' }) : wpAny (model P w) A (setRelay a wanted) Q E s := by
  have n1 := rrows_len rows
  obtain ⟨t', order, e, hp, T, em, el, epl, ed⟩ := relaid_ok t (hs := es.map (·.1)) (wanted := wanted) hw hM (by rw [Array.size_map, n1]; omega)
  rw [Array.size_map, n1] at hp
  obtain ⟨L', r1, pm, r3⟩ := perm_order rows hp
  rw [← r3] at T
  have n2 : (order.filterMap (es[·]?)).size = L.length := (rrows_len r1).trans pm.length_eq
  rw [setRelay_eq]
  refine wpAny_bind (wpAny_setState_of ho dt (fits_of dm z fl) ?_)
  dsimp only
  refine wp_if_neg (by rw [sizeLine_eq]; omega) ?_
  try refine wpAny_bind (wpAny_pure ?_)
  rw [e]
  refine wpAny_bind (wp_if_neg (by rw [n2, n1]; simp) ?_)
  try refine wpAny_bind (wpAny_pure ?_)
  refine wpAny_pure (wpAny_storeSet_of ho dt ?_ (by rw [n2, sizeLine_eq]; omega))
  have sb : Heap.SameBut a s.heap (s.heap.update a (Obj.putSet (order.filterMap (es[·]?)) t')) := Heap.SameBut.update ..
  exact q _ L' _ (ep + 1) t' sb ⟨⟨_, store_at ho dt, exact_at ex _, rfl⟩, r1, T, (pm.map (·.2)).nodup_iff.mpr nd, fun g hg => (has g (pm.mem_iff.mp hg)).beside ho ex.1 sb, by rw [epl]; exact pl, by rw [el]; exact ld, by rw [pm.length_eq, em]; exact rm, by rw [pm.length_eq]; exact few⟩ pm
/-- PUTTING IN -/
theorem RSet.add (R : RSet P w s.heap a L es ep t) {x : Addr} {r : Rl} (hx : RIs s.heap x r) (hu : A.units + 8 < cLine) (few : L.length + 1 < 64) {Q : Bool → Shared → Prop}
    (q : ∀ b h' L' es' ep' t', Heap.SameBut a s.heap h' → RSet P w h' a L' es' ep' t' → (r ∈ L.map (·.2) → L' = L) → (r ∉ L.map (·.2) → L'.Perm ((x, r) :: L)) → Q b { s with heap := h' }) :
    wpAny (model P w) A (setAddHashed a (.ref x) (rh P w r)) Q E s := by
  obtain ⟨o, ho, ex, dt⟩ := R.obj
  have room := R.room
  unfold setAddHashed
  refine wpAny_holding ?_
  rw [show (100000 : Nat) = 99999 + 1 from rfl, setAddHashedIn_succ]
  refine wpAny_bind (wpAny_setState_of ho dt R.fits ?_)
  dsimp only
  refine wp_if_neg (by simp [byScan, Value.scannable]) ?_
  try refine wpAny_bind (wpAny_pure ?_)
  refine wpAny_bind (R.find hx hu (fun m => wpAny_pure (q false s.heap L es ep t (Heap.SameBut.refl a s.heap) R (fun _ => rfl) fun n => absurd m n)) fun K m end_ on_ => ?_)
  refine wpAny_bind (wpAny_setState_of ho dt R.fits ?_)
  dsimp only
  obtain ⟨c1, c2, c3, c4, c5, c6, _, _, c9⟩ := R.tab.put end_ on_
  have pl1 : (t.put (way t.mask (rh P w r) K)).1.plain = true := c6.trans R.plain
  obtain ⟨pt, ept⟩ : ∃ pt, t.put (way t.mask (rh P w r) K) = pt := ⟨_, rfl⟩
  rw [ept] at c1 c3 c4 c5 c9 pl1 ⊢
  obtain ⟨t1, k⟩ := pt
  dsimp only at c1 c3 c4 c5 c9 pl1 ⊢
  obtain ⟨k', ek⟩ : ∃ k', SetTable.below t.place (way t.mask (rh P w r) K) = k' := ⟨_, rfl⟩
  rw [ek] at c1 c2 c3
  subst c1
  first
    | (refine wpAny_bind ?_; refine wp_if_pos pl1 (hbv_rule hx ?_))
    | refine wp_if_pos pl1 (wpAny_bind (hbv_rule hx ?_))
  simp only [if_true]
  have pm := put_in L k (x, r)
  have e1 : (SetTable.insertAt es k (rh P w r, Value.ref x)).toList = rrows P w (L.take k ++ (x, r) :: L.drop k) := by
    rw [SetTable.toList_insertAt, R.rows]
    unfold rrows
    rw [List.map_append, List.map_cons, List.map_take, List.map_drop]
  have T1 : TabOk t1 ((L.take k ++ (x, r) :: L.drop k).map fun e => rh P w e.2) := by
    rw [List.map_append, List.map_cons, List.map_take, List.map_drop]
    exact c3
  have nd1 : ((L.take k ++ (x, r) :: L.drop k).map (·.2)).Nodup := (pm.map (·.2)).nodup_iff.mpr (List.nodup_cons.mpr ⟨m, R.nd⟩)
  rw [List.length_map] at c9
  generalize L.take k ++ (x, r) :: L.drop k = L1 at pm e1 T1 nd1
  generalize SetTable.insertAt es k (rh P w r, Value.ref x) = es1 at e1 ⊢
  have n1 : L1.length = L.length + 1 := pm.length_eq
  have z1 : es1.size = L.length + 1 := (rrows_len e1).trans n1
  refine wpAny_bind (wpAny_storeSet_of ho dt ?_ (by rw [z1, sizeLine_eq]; omega))
  have sb : Heap.SameBut a s.heap (s.heap.update a (Obj.putSet es1 t1)) := Heap.SameBut.update ..
  have ho1 := store_at (es' := es1) (t' := t1) ho dt
  generalize s.heap.update a (Obj.putSet es1 t1) = h1 at sb ho1 ⊢
  have has1 : ∀ e ∈ L1, RIs h1 e.1 e.2 := fun e he => by
    rcases List.mem_cons.mp (pm.mem_iff.mp he) with g | g
    · rw [g]; exact hx.beside ho ex.1 sb
    · exact (R.has e g).beside ho ex.1 sb
  have ld1 : w.params.followText "set-order" = true ∨ t1.led = true := by rw [c5]; exact R.led
  have full : t1.tooFull = decide ((L.length + 1) * 5 ≥ t1.mask * 3) := by
    unfold SetTable.tooFull
    rw [c9]
  rcases Bool.eq_false_or_eq_true t1.tooFull with hf | hf
  · have big : (L.length + 1) * 5 ≥ t1.mask * 3 := by rw [full] at hf; exact of_decide_eq_true hf
    rw [c4] at big
    have place : t1.place.size = es1.size := by
      have := T1.sz
      rw [List.length_map, n1] at this
      rw [this, z1]
    have anew : ∀ M, SetTable.sizeAbove (SetTable.grown (L.length + 1)) - 1 = M → MaskOk M → SetTable.sizeAbove (SetTable.grown (L.length + 1)) ≤ 128 → (L.length + 1) * 5 < M * 3 → L.length + 1 ≤ t.mask →
        wpAny (model P w) A (setRelay a (SetTable.grown (L.length + 1))) (fun _ s' => wpAny (model P w) A (pure true) Q E s') E { s with heap := h1 } := fun M m1 m2 m3 m4 m5 =>
      relay_rules (s := { s with heap := h1 }) ho1 (exact_at ex _) rfl e1 place T1.dm (by rw [z1, c4]; exact m5) nd1 has1 pl1 ld1 (by rw [n1]; exact few) m1 m2 m3 (by rw [n1]; exact m4)
        fun h2 L2 es2 ep2 t2 sb2 R2 pm2 => wpAny_pure (q true h2 L2 es2 ep2 t2 (sb.trans sb2) R2 (fun y => absurd y m) fun _ => pm2.trans pm)
    have go : wpAny (model P w) A (setRelay a (SetTable.grown (es.size + 1))) (fun _ s' => wpAny (model P w) A (pure true) Q E s') E { s with heap := h1 } := by
      rw [rrows_len R.rows]
      rcases R.tab.mok with e | e | e <;> rw [e] at big room anew
      · have l4 : L.length = 4 := by omega
        exact anew 31 (by rw [l4, size_20]) (.inr (.inl rfl)) (by rw [l4, size_20]; decide) (by omega) (by omega)
      · have l18 : L.length = 18 := by omega
        exact anew 127 (by rw [l18, size_76]) (.inr (.inr rfl)) (by rw [l18, size_76]; decide) (by omega) (by omega)
      · omega
    first
      | exact wpAny_bind (wp_if_pos (by simp [hf]) go)
      | exact wp_if_pos (by simp [hf]) (wpAny_bind go)
  · have done : wpAny (model P w) A (pure true) Q E { s with heap := h1 } := by
      refine wpAny_pure (q true h1 L1 es1 (ep + 1) t1 sb ⟨⟨_, ho1, exact_at ex _, rfl⟩, e1, T1, nd1, has1, pl1, ld1, ?_, by rw [n1]; exact few⟩ (fun y => absurd y m) fun _ => pm)
      rw [full] at hf
      have := of_decide_eq_false hf
      rw [n1]
      omega
    first
      | exact wp_if_neg (by simp [hf]) done
      | exact wpAny_bind (wp_if_neg (by simp [hf]) (wpAny_pure done))
end
end K74

set_option Elab.async false
set_option linter.all false
set_option maxRecDepth 100000
set_option maxHeartbeats 4000000
/-! set(rules). -/
namespace K74
open PySem PySem.Spec PyProof.Rows L2
theorem RSet.kept {P : Program} {w : World} {h h' : Heap} {a : Addr} {L : List El} {es : Array (Int × Value)} {ep : Nat} {t : SetTable} (R : RSet P w h a L es ep t) (ka : ∀ o, h.get? a = some o → h'.get? a = some o) (k : ∀ e ∈ L, RIs h' e.1 e.2) : RSet P w h' a L es ep t :=
  let ⟨o, ho, z⟩ := R.obj
  { R with obj := ⟨o, ka o ho, z⟩, has := k }
abbrev bare (w : World) : SetTable := .fresh 0 0 (!w.params.followText "set-order")
abbrev bareSet (w : World) : Obj := { cls := .type "set", dict := none, data := .set #[] 0 (bare w) }
theorem rset_new {P : Program} {w : World} {h : Heap} {a : Addr} (ho : h.get? a = some (bareSet w)) : RSet P w h a [] #[] 0 (bare w) where
  obj := ⟨_, ho, ⟨rfl, rfl, rfl⟩, rfl⟩
  rows := rfl
  tab := ⟨List.Pairwise.nil, rfl, rfl, .inl rfl, (fun x hx => nomatch hx), fun i z j hi => nomatch (show ([] : List Int)[i]? = some z from hi)⟩
  nd := List.nodup_nil
  has := fun e he => nomatch he
  plain := rfl
  led := by
    show w.params.followText "set-order" = true ∨ (!w.params.followText "set-order") = true
    cases w.params.followText "set-order" <;> simp
  room := (by decide : 0 * 5 < 7 * 3)
  few := (by decide : 0 < 64)
/-- what has come of the first i items -/
structure From (ks : List El) (i : Nat) (L : List El) : Prop where
  of : ∀ e ∈ L, e ∈ ks.take i
  got : ∀ e ∈ ks.take i, e.2 ∈ L.map (·.2)
  len : L.length ≤ i
theorem tk1 {α : Type} {l : List α} {i : Nat} {x : α} (h : l[i]? = some x) : l.take (i + 1) = l.take i ++ [x] := by
  rw [List.take_succ, h]; rfl
theorem From.next {ks L L' : List El} {i : Nat} {x : El} (f : From ks i L) (h : ks[i]? = some x) (c1 : x.2 ∈ L.map (·.2) → L' = L) (c2 : x.2 ∉ L.map (·.2) → L'.Perm (x :: L)) : From ks (i + 1) L' := by
  rcases Classical.em (x.2 ∈ L.map (·.2)) with m | m
  · rw [c1 m]
    refine ⟨fun e he => ?_, fun e he => ?_, Nat.le_succ_of_le f.len⟩ <;> rw [tk1 h] at *
    · exact List.mem_append_left _ (f.of e he)
    · rcases List.mem_append.mp he with q | q
      · exact f.got e q
      · rw [List.mem_singleton.mp q]; exact m
  · have pm := c2 m
    refine ⟨fun e he => ?_, fun e he => ?_, by rw [pm.length_eq]; exact Nat.succ_le_succ f.len⟩ <;> rw [tk1 h] at *
    · rcases List.mem_cons.mp (pm.mem_iff.mp he) with q | q
      · rw [q]; exact List.mem_append_right _ List.mem_cons_self
      · exact List.mem_append_left _ (f.of e q)
    · refine (pm.map (·.2)).mem_iff.mpr ?_
      rcases List.mem_append.mp he with q | q
      · exact List.mem_cons_of_mem _ (f.got e q)
      · rw [List.mem_singleton.mp q]; exact List.mem_cons_self
section
variable {P : Program} {w : World} {A : Around} {E : Value → Shared → Prop}
/-- the loop that puts in what comes -/
theorem loop_rules {I S : Addr} {fp wr : List Addr} {G : Array GenState → Array GenState → Prop} {n : Nat} {Pv : Nat → Value → Prop} {St : Nat → Shared → Prop} {Z : Result → Shared → Prop} (W : WalksS P w A.in1 I fp wr G n Pv St) (hS : S ∉ fp) {ks : List El} (hn : n = ks.length) (few : ks.length < 64)
    (val : ∀ i v, Pv i v → ∃ e, ks[i]? = some e ∧ v = .ref e.1) {h0 : Heap} (hk : ∀ e ∈ ks, RIs h0 e.1 e.2) (S0 : h0.get? S = none) (w0 : ∀ b ∈ wr, h0.get? b = none) (hu : A.units + 11 < cLine) :
    ∀ (k i : Nat) (s : Shared), k + i = n → St i s → (∀ b o, h0.get? b = some o → s.heap.get? b = some o) → (∃ L es ep t, RSet P w s.heap S L es ep t ∧ From ks i L) →
      (∀ s' L es ep t, Moved (S :: wr) G s s' → RSet P w s'.heap S L es ep t → From ks n L → (∀ b o, h0.get? b = some o → s'.heap.get? b = some o) → Z (.ok (.ret .none)) s') →
      codeAny (model P w) A (.builtin "set.update.loop" ⟨[.ref S, .ref I], []⟩) Z s := by
  have S1 : S ∉ wr := fun q => hS (W.sub S q)
  have mv : ∀ {s s' : Shared}, Moved wr G s s' → Moved (S :: wr) G s s' := fun m => m.mono fun b hb => List.mem_cons_of_mem S hb
  have stay : ∀ {s s' : Shared}, Moved wr G s s' → (∀ b o, h0.get? b = some o → s.heap.get? b = some o) → ∀ b o, h0.get? b = some o → s'.heap.get? b = some o := fun m k b o q => m.heap b o (fun hb => by rw [w0 b hb] at q; cases q) (k b o q)
  intro k
  induction k with
  | zero =>
    intro i s hi st kp ⟨L, es, ep, t, R, f⟩ q
    obtain rfl : i = n := by omega
    refine codeAny_builtin PyProof.Rows.F.entry_set_update_loop ?_
    rw [Around.under_plainId PyProof.Rows.F.plain_set_update_loop _]
    refine wpAny_bind (m := pyNext (.ref I)) (W.done s _ _ st fun s' m => ?_)
    have kp' := stay m kp
    refine wpAny_pure (q s' L es ep t (mv m) (R.kept (fun o z => m.heap S o S1 z) fun e he => ?_) f kp')
    exact (hk e (List.mem_of_mem_take (f.of e he))).kept kp'
  | succ k ih =>
    intro i s hi st kp ⟨L, es, ep, t, R, f⟩ q
    have lt : i < n := by omega
    refine codeAny_builtin PyProof.Rows.F.entry_set_update_loop ?_
    rw [Around.under_plainId PyProof.Rows.F.plain_set_update_loop _]
    refine wpAny_bind (m := pyNext (.ref I)) (W.item i s _ _ lt st fun v s' pv st' m => ?_)
    obtain ⟨e, he, rfl⟩ := val i v pv
    have kp' := stay m kp
    have R' : RSet P w s'.heap S L es ep t := R.kept (fun o z => m.heap S o S1 z) fun g hg => (hk g (List.mem_of_mem_take (f.of g hg))).kept kp'
    have xe : RIs s'.heap e.1 e.2 := (hk e (List.mem_of_getElem? he)).kept kp'
    refine wpAny_bind (m := holding [Value.ref e.1] (setAdd S (.ref e.1))) (wpAny_holding ?_)
    unfold setAdd
    refine wpAny_holding (wpAny_bind ((nestedKind P w).pyHash (show A.in1.units + 8 < cLine by have := in1_units A; omega) (nk_is xe) ?_))
    refine RSet.add (s := { s' with toks := s'.toks + (nestedKind P w).draws (kR e.2) }) R' xe (by have := in1_units A; omega) (by have := f.len; omega) fun b h' L' es' ep' t' sb R2 c1 c2 => ?_
    have kp2 : ∀ b o, h0.get? b = some o → h'.get? b = some o := fun b o z => (sb.2 b fun y => by rw [y, S0] at z; cases z).trans (kp' b o z)
    have off_ : ∀ b ∈ fp, b ≠ S := fun b hb y => hS (y ▸ hb)
    refine wpAny_pure ⟨plainId_quiet PyProof.Rows.F.plain_set_update_loop _, ih (i + 1) _ (by omega) (W.frame _ s' _ _ st' (Nat.le_add_right _ _) fun b hb o z => (sb.2 b (off_ b hb)).trans z) kp2 ⟨L', es', ep', t', R2, f.next he c1 c2⟩ fun s2 L2 es2 ep2 t2 m2 R3 f2 k3 => ?_⟩
    exact q s2 L2 es2 ep2 t2 (Moved.trans W.gtrans ((mv m).then_heap (Nat.le_add_right _ _) fun b o hb z => (sb.2 b fun y => hb (by rw [y]; exact List.mem_cons_self)).trans z) m2) R3 f2 k3
end
end K74

set_option Elab.async false
set_option linter.all false
set_option maxRecDepth 100000
set_option maxHeartbeats 8000000
/-! set(rules) and sorted(set(rules)), as the hand layer reads them. -/
namespace K74
open PySem PySem.Spec PyProof.Rows L2
section
variable {P : Program} {w : World} {A : Around} {E : Value → Shared → Prop} {s : Shared}
theorem set_of_rules {l : Addr} {its : Array Value} {ks : List El} {Q : Value → Shared → Prop} (hh : A.handled = none) (hl : s.heap.IsList l its) (e0 : its.toList = ks.map fun e => Value.ref e.1) (hk : ∀ e ∈ ks, RIs s.heap e.1 e.2) (few : ks.length < 64) (hu : A.units + 20 < cLine)
    (q : ∀ (h' : Heap) (tk : Nat) L es ep t, RSet P w h' s.heap.objs.size L es ep t → From ks ks.length L → (∀ b o, s.heap.get? b = some o → h'.get? b = some o) → Q (.ref s.heap.objs.size) { s with heap := h', toks := tk }) :
    wpAny (model P w) A (call (.type "set") [.ref l]) Q E s := by
  have zi : its.size = ks.length := by rw [← Array.length_toList, e0, List.length_map]
  have at_ : ∀ (i : Nat) (v : Value), its[i]? = some v → ∃ e, ks[i]? = some e ∧ v = .ref e.1 := fun i v hv => by
    rw [← Array.getElem?_toList, e0, List.getElem?_map] at hv
    obtain ⟨e, h1, h2⟩ := Option.map_eq_some_iff.mp hv
    exact ⟨e, h1, h2.symm⟩
  have beyond : ∀ {b : Addr}, s.heap.objs.size ≤ b → s.heap.get? b = none := fun {b} hb => by
    cases z : s.heap.get? b with
    | none => rfl
    | some o => exact absurd (Heap.lt_size z) (Nat.not_lt.mpr hb)
  have S_at : (s.heap.push (bareSet w)).get? s.heap.objs.size = some (bareSet w) := Heap.get?_push_size _ rfl
  have S_ty : Shared.TypeIs { s with heap := s.heap.push (bareSet w) } (.ref s.heap.objs.size) "set" := ⟨_, S_at, rfl⟩
  obtain ⟨c, tl, hmro⟩ := PySem.F.called_set.mro
  have hmade := PySem.F.called_set.made
  have hsub := PySem.F.called_set.sub
  have h1 := PySem.F.called_set.notType
  have h2 := PySem.F.called_set.canCreate
  have hct := PySem.F.typeCall_set_1 (.ref l)
  have hli := PySem.F.called_set.init.lookup
  have hbi := PySem.F.called_set.init.bind (.ref s.heap.objs.size)
  refine wpAny_call (codeAny_of_tree ?_)
  show wpAny _ _ (callAny (.type "set") _) _ _ _
  refine wpAny_pure ⟨Code.quiet_builtin _ (by decide +kernel), codeAny_builtin PySem.F.entry_type_call ?_⟩
  rw [Around.under_plain (weight_type_call_type "set" [.ref l] []) rfl]
  repeat (any_goals (first | assumption | wp_step))
  refine codeAny_mono (code_set_led1 (.ref l) (E := E) (Q₁ := fun ob s1 => ob = .ref s.heap.objs.size ∧ s1 = { s with heap := s.heap.push (bareSet w) }) ⟨rfl, rfl⟩) fun r s1 got => ?_
  match r, got with
  | .error e, got => exact got
  | .ok (.ret ob), got =>
    obtain ⟨rfl, rfl⟩ := got
    repeat (any_goals (first | assumption | wp_step))
    refine codeAny_mono (codeAny_call_builtin (R := wants (fun r z => r = .none ∧ ∃ h' tk L es ep t, z = { s with heap := h', toks := tk } ∧ RSet P w h' s.heap.objs.size L es ep t ∧ From ks ks.length L ∧ ∀ b o, s.heap.get? b = some o → h'.get? b = some o) E)
      PySem.F.called_set.init.plain PySem.F.entry_set_init (check_set_init_1 S_ty ?_)) fun r2 s2 got2 => ?_
    · have hl1 : (s.heap.push (bareSet w)).IsList l its := hl.push _
      have lS : l < s.heap.objs.size := by
        obtain ⟨o, ho, _⟩ := hl
        exact Heap.lt_size ho
      have nI : l ≠ (s.heap.push (bareSet w)).objs.size := by rw [Heap.size_push]; exact Nat.ne_of_lt (Nat.lt_succ_of_lt lS)
      have offI : s.heap.objs.size ∉ [(s.heap.push (bareSet w)).objs.size, l] := by
        rw [Heap.size_push]
        intro m
        rcases List.mem_cons.mp m with e | m
        · exact absurd e (Nat.ne_of_lt (Nat.lt_succ_self _))
        · exact absurd (List.mem_singleton.mp m) (Nat.ne_of_gt lS)
      have h3 : A.in1.in1.in1.handled = none := by simp [hh]
      obtain ⟨⟨ocl, od, odt, osl⟩, hol, hcl, nl, hdl⟩ := hl1
      simp only at hcl hdl
      subst hcl hdl
      have sb1 := PySem.F.sub_list_set
      have sb2 := PySem.F.sub_list_frozenset
      have nd : (Value.type "list" == Value.type "dict") = false := by decide
      have hl2 : (s.heap.push (bareSet w)).IsList l its := ⟨_, hol, rfl, nl, rfl⟩
      unfold Builtin.«set.__init__» noKeywords Builtin.Frozenset.updateFrom
      generalize hPI : pyIter = PI
      wp_walk
      subst hPI
      refine wpAny_pyIter_list hl2 (wpAny_bind (wpAny_runValue ?_))
      have walk := (Walks.list (prog := P) (w := w) h3 _ l nI its).toS
      refine loop_rules walk offI zi few at_ hk (beyond (Nat.le_refl _)) (fun b hb => beyond (by rw [List.mem_singleton.mp hb, Heap.size_push]; omega)) ?_ its.size 0 _ rfl ⟨⟨_, Heap.get?_push_size _ rfl, rfl, rfl⟩, hl2.push _⟩ (fun b o z => Heap.get?_push_of_some _ (Heap.get?_push_of_some _ z))
        ⟨[], #[], 0, _, rset_new (Heap.get?_push_of_some _ S_at), ⟨(fun e he => nomatch he), (fun e he => nomatch (show e ∈ ([] : List El) from he)), Nat.le_refl _⟩⟩ ?_
      · have := in1_units A
        have := in1_units A.in1
        have := in1_units A.in1.in1
        omega
      · intro z L es ep t m R f kp
        obtain ⟨h', gg, dd, tk', oo⟩ := z
        obtain rfl : gg = s.gens := m.gens
        obtain rfl : dd = s.drawn := m.drawn
        obtain rfl : oo = s.os := m.os
        rw [zi] at f
        refine wpAny_pure ?_
        exact wpAny_pure ⟨rfl, h', tk', L, es, ep, t, rfl, R, f, kp⟩
    · match r2, got2 with
      | .error e, got2 => exact got2
      | .ok (.ret v), got2 =>
        obtain ⟨rfl, h', tk, L, es, ep, t, rfl, R, f, kp⟩ := got2
        repeat (any_goals (first | assumption | wp_step))
        exact q _ _ _ _ _ _ R f kp
      | .ok .next, got2 => exact got2.elim
      | .ok .brk, got2 => exact got2.elim
      | .ok .cont, got2 => exact got2.elim
  | .ok .next, got => exact got.elim
  | .ok .brk, got => exact got.elim
  | .ok .cont, got => exact got.elim
end
end K74

set_option Elab.async false
set_option linter.all false
set_option maxRecDepth 100000
set_option maxHeartbeats 4000000
namespace K74
open PySem PySem.Spec PyProof.Rows L2
/-- at a the set of the rules L, apart from the tuples -/
structure RSp (P : Program) (w : World) (a : Addr) (L : List El) (h : Heap) : Prop where
  ex : ∃ es ep t, (∃ o, h.get? a = some o ∧ o.ExactSet ∧ o.data = .set es ep t) ∧ es.toList = rrows P w L ∧ TabOk t (L.map fun e => rh P w e.2) ∧ (L.map (·.2)).Nodup ∧ t.plain = true ∧ (w.params.followText "set-order" = true ∨ t.led = true) ∧ L.length * 5 < t.mask * 3 ∧ L.length < 64
def RSo (P : Program) (w : World) (a : Addr) (L : List El) : HO := .ext (RSp P w a L)
theorem RSp.ok {P : Program} {w : World} {H : Hp} {h : Heap} {a : Addr} {L : List El} (x : RSp P w a L h) : ObjOk P w H h a (RSo P w a L) := by
  obtain ⟨_, _, _, ⟨o, ho, _⟩, _⟩ := x.ex
  refine ⟨x, ⟨o, ho⟩, fun h1 h2 y k => ?_⟩
  obtain ⟨es, ep, t, ⟨o2, ho2, z⟩, r⟩ := RSp.ex y
  exact ⟨es, ep, t, ⟨o2, k o2 ho2, z⟩, r⟩
theorem RSet.sp {P : Program} {w : World} {h : Heap} {a : Addr} {L : List El} {es : Array (Int × Value)} {ep : Nat} {t : SetTable} (R : RSet P w h a L es ep t) : RSp P w a L h := ⟨es, ep, t, R.obj, R.rows, R.tab, R.nd, R.plain, R.led, R.room, R.few⟩
theorem RSp.full {P : Program} {w : World} {h : Heap} {a : Addr} {L : List El} (x : RSp P w a L h) (k : ∀ e ∈ L, RIs h e.1 e.2) : ∃ es ep t, RSet P w h a L es ep t :=
  let ⟨es, ep, t, h1, h2, h3, h4, h5, h6, h7, h8⟩ := x.ex
  ⟨es, ep, t, h1, h2, h3, h4, k, h5, h6, h7, h8⟩
theorem perm_map {β : Type} [DecidableEq β] {γ : Type} (f : β → γ) : ∀ {l : List γ} {L : List β}, l.Perm (L.map f) → ∃ A : List β, l = A.map f ∧ A.Perm L
  | [], L, p => by
    have := p.length_eq
    rw [List.length_nil, List.length_map] at this
    have e : L = [] := List.eq_nil_of_length_eq_zero this.symm
    subst e
    exact ⟨[], rfl, .nil⟩
  | v :: l, L, p => by
    obtain ⟨x, hx, rfl⟩ := List.mem_map.mp (p.mem_iff.mp List.mem_cons_self)
    have q := List.perm_cons_erase hx
    have q2 := p.trans (q.map f)
    rw [List.map_cons] at q2
    obtain ⟨A, e, pa⟩ := perm_map f q2.cons_inv
    exact ⟨x :: A, by rw [e]; rfl, (pa.cons x).trans q.symm⟩
section
variable {X : Cx}
def rSetR (P : Program) (w : World) (K : PySem.W.Frag) : List V → Hp → VK → Prop := fun vs H Q => ∃ (l : Addr) (ks : List El), vs = [V.ref l] ∧ SqL K H l (ks.map fun e => V.ref e.1) ∧ (∀ e ∈ ks, IsR K H (.ref e.1) e.2) ∧ ks.length < 64 ∧
  ∀ S L, H S = none → (∀ e ∈ L, e ∈ ks) → (∀ e ∈ ks, e.2 ∈ L.map (·.2)) → (L.map (·.2)).Nodup → Q (.ref S) (upd H S (RSo P w S L))
theorem cr_setR (hc : X.calm = true) (hu : X.A.units + 100 < cLine) : CallR X (.type "set") (rSetR X.prog X.w X.K) := by
  intro pins s σ H vs us Q I r h
  obtain ⟨l, ks, rfl, hl, hk, few, q⟩ := h
  rw [Vals.ref1 r]
  obtain ⟨its, rv, pl, _⟩ := I.list hl
  have e := refs_vals rv
  subst e
  refine set_of_rules (P := X.prog) (w := X.w) (ks := ks) (I.ok.hd hc) pl.isList rfl (fun e he => (hk e he).at I) few (by omega) fun h' tk L es ep t R f kp => ?_
  refine ⟨.ref s.heap.objs.size, upd H s.heap.objs.size (RSo X.prog X.w s.heap.objs.size L), I.laid (t' := tk) kp (Nat.le_refl _) R.sp.ok, rfl, q _ L (I.hok.fresh (Nat.le_refl _)) (fun e he => List.mem_of_mem_take (f.of e he)) (fun e he => f.got e (by rw [List.take_length]; exact he)) R.nd⟩
def rSortS (P : Program) (w : World) (K : PySem.W.Frag) : List V → Hp → VK → Prop := fun vs H Q => ∃ (S : Addr) (L : List El), vs = [V.ref S] ∧ H S = some (RSo P w S L) ∧ (∀ e ∈ L, IsR K H (.ref e.1) e.2) ∧
  ∀ (L' : List El) q, L'.Perm L → (L'.map (·.2)).Nodup → (L'.Pairwise fun a b => brlt b.2 a.2 = false) → H q = none → Q (.ref q) (upd H q (.lst (L'.map fun e => V.ref e.1)))
theorem cr_sortS (hc : X.calm = true) (hu : X.A.units + 100 < cLine) : CallR X (.builtin "sorted") (rSortS X.prog X.w X.K) := by
  intro pins s σ H vs us Q I r h
  obtain ⟨S, L, rfl, hS, hk, q⟩ := h
  rw [Vals.ref1 r]
  have hat : ∀ e ∈ L, RIs s.heap e.1 e.2 := fun e he => (hk e he).at I
  have sp : RSp X.prog X.w S L s.heap := (I.hok S _ hS).1
  obtain ⟨es, ep, t, R⟩ := sp.full hat
  have few := R.few
  have er : es.toList.map (·.2) = L.map fun e => Value.ref e.1 := by
    rw [R.rows]
    unfold rrows
    rw [List.map_map]; rfl
  obtain ⟨ob, ho, ex, dt⟩ := R.obj
  refine sorted_gen (KT.swo_of kkP.toKT default L) (fun acc s1 => acc.Perm (L.map fun e => Value.ref e.1) ∧ s1.gens = s.gens ∧ s1.os = s.os ∧ (∀ b o, s.heap.get? b = some o → s1.heap.get? b = some o) ∧ s.heap.objs.size ≤ s1.heap.objs.size) (fun Z hZ => ?_) (fun acc s1 g => ?_) (fun acc s1 g h2 h₁ a ha kk => ?_) (fun acc s1 out h' d n g h1 h2 kp hd hn => ?_)
  · refine collect_set (A := X.A.in1) (I.ok.hd hc) ⟨ob, ho, ex.1, dt⟩ R.fits (by rw [rrows_len R.rows]; unfold scanBound; omega) R.tab.ris R.led fun s1 acc k1 z1 g1 o1 pm => hZ acc s1 ⟨by rw [er] at pm; exact pm, g1, o1, k1, z1⟩
  · rw [g.1.length_eq, List.length_map, sizeLine_eq]; omega
  · obtain ⟨pm, _, _, k1, _⟩ := g
    obtain ⟨A0, e1, p1⟩ := perm_map (fun e : El => Value.ref e.1) pm
    rw [e1]
    have hb : ∀ e ∈ A0, RIs h₁ e.1 e.2 := fun e he => (hat e (p1.mem_iff.mp he)).kept fun b o z => (kk b o (k1 b o z)).2
    have same : ∀ v, KT.of default A0 v = KT.of default L v ∨ ¬ v ∈ A0.map fun e => Value.ref e.1 := fun v => by
      rcases Classical.em (v ∈ A0.map fun e => Value.ref e.1) with m | m
      · refine .inl ?_
        obtain ⟨e, he, rfl⟩ := List.mem_map.mp m
        rw [KT.of_eq kkP.toKT default hb he, KT.of_eq kkP.toKT (h := s.heap) default hat (p1.mem_iff.mp he)]
      · exact .inr m
    have srt := KT.sortable (prog := X.prog) (w := X.w) (A := X.A.in1.in1) kkP.toKT default (s := { s1 with heap := h₁ }) (a := a) hb (by rw [e1, List.length_map] at h2; omega) (not_tup ha) (by show X.A.units + 1 + 1 + 8 < cLine; omega)
    intro h3 k3
    obtain ⟨kd, a1, a2⟩ := srt h3 k3
    refine ⟨kd, a1, fun p q hp hq => ?_⟩
    have z := a2 p q hp hq
    rcases same p.1 with x1 | x1
    · rcases same q.1 with x2 | x2
      · have e2 : SrtO.lt2 (fun v u => kkP.toKT.lt (KT.of default A0 v) (KT.of default A0 u)) p q = SrtO.lt2 (fun v u => kkP.toKT.lt (KT.of default L v) (KT.of default L u)) p q := by
          show kkP.toKT.lt (KT.of default A0 p.1) (KT.of default A0 q.1) = kkP.toKT.lt (KT.of default L p.1) (KT.of default L q.1)
          rw [x1, x2]
        rw [e2] at z
        exact z
      · exact absurd hq x2
    · exact absurd hp x1
  · obtain ⟨pm, g1, o1, k1, z1⟩ := g
    obtain ⟨L', e', pl, sr⟩ := KT.out kkP.toKT default hat h1 (h2.perm.trans pm)
    subst e'
    have kall : ∀ b o, s.heap.get? b = some o → h'.get? b = some o := fun b o z => kp b o (k1 b o z)
    have hn0 : H d = none := I.hok.fresh (Nat.le_trans z1 hd)
    have J : Inv X pins σ (upd H d (.lst (L'.map fun e => V.ref e.1))) { s with heap := h', gens := s1.gens, drawn := s1.drawn, toks := s1.toks } :=
      I.call (ch := []) (Un.laid kall (Nat.le_trans z1 hd) hn0) (I.hok.laid kall (Nat.le_trans z1 hd) ⟨by rw [List.length_map, pl.length_eq, sizeLine_eq]; omega, _, n, vals_refs L', hn⟩) (by rw [g1]; exact I.bare) (fun _ z => nomatch z)
    have e : ({ s1 with heap := h' } : Shared) = { s with heap := h', gens := s1.gens, drawn := s1.drawn, toks := s1.toks } := by
      cases s1
      cases s
      cases o1
      rfl
    rw [e]
    exact ⟨.ref d, _, J, rfl, q L' d pl ((pl.map (·.2)).nodup_iff.mpr R.nd) sr hn0⟩
end
end K74

set_option Elab.async false
set_option linter.all false
set_option maxRecDepth 100000
set_option maxHeartbeats 4000000
namespace K74
open PySem PySem.Spec PyProof.Rows L2
theorem perm_lsum {α : Type} (f : α → Int) {l m : List α} (p : l.Perm m) : lsum l f = lsum m f := by
  induction p with
  | nil => rfl
  | cons a _ ih => rw [lsum_cons, lsum_cons, ih]
  | swap a b l => rw [lsum_cons, lsum_cons, lsum_cons, lsum_cons]; omega
  | trans _ _ h1 h2 => exact h1.trans h2
theorem eds_sum {n : Nat} {p : List Int} {told : List Rl} {G : Ed → Int} {L : Wt → Int} (hp : Priced n p) (hn : n ≤ 8) (F : Flow n p told G L) (r : Rl) : 0 ≤ lsum (eds r) G ∧ lsum (eds r) G ≤ 1000 := by
  have each : ∀ e, 0 ≤ G e ∧ G e ≤ 400 := fun e => by
    have a := F.gm e
    have b := total_nonneg n L
    have c := total_start hp.1 hp.2 hn
    exact ⟨F.gp e, by omega⟩
  have a := each (off r.1, r.2)
  have b := each (off r.2, r.1)
  unfold eds
  split
  · show 0 ≤ G _ + 0 ∧ G _ + 0 ≤ 1000
    omega
  · show 0 ≤ G _ + (G _ + 0) ∧ G _ + (G _ + 0) ≤ 1000
    omega
theorem paid_ys {n : Nat} {p : List Int} {told : List Rl} {G : Ed → Int} {L : Wt → Int} (hp : Priced n p) (hn : n ≤ 8) (F : Flow n p told G L) : Paid told (ysOf told G) := by
  refine ⟨List.length_map .., fun y hy => ?_⟩
  obtain ⟨r, _, rfl⟩ := List.mem_map.mp hy
  exact eds_sum hp hn F r
section
variable {P : Program} {w : World} {K : PySem.W.Frag} {mg : Str → Option Value} {base : Heap} {C C2 : Addr}
abbrev sBpay : Stmt := topS 40
/-- payments that meet the cost of a half row that keeps all -/
def Meets (n : Nat) (ps : List Int) (told : List Rl) (ys : List Int) : Prop := Paid told ys ∧ ∃ h, Half n h ∧ KeptH told h ∧ cost ps h = bound ps told ys
def spBpay (K : PySem.W.Frag) (C : Addr) : Sp := fun vs H Q _ => ∃ (v z : V) (n : Nat) (told : List Rl) (ps : List Int), vs = [v, z] ∧ IsRs K C H v n told ∧ IsTi K H z ps ∧ Priced n ps ∧ Few n told ∧
  ∀ H' a ys, Same H H' → H' a = some (.tup (ys.map V.int)) → Meets n ps told ys → Q (.ref a) H'
theorem scBpay : FnScope ["rules", "prices", "purses", "way", "found", "one", "other", "steps", "step"] ["rules", "prices"] (defScope sBpay) := ⟨rfl, rfl, rfl, by decide +kernel, rfl, by decide +kernel, by decide +kernel⟩
theorem cBpay (B : Bl mg) (LR : ClR K mg C) (LP : ClP K mg C2) (c0 : Cal P w K mg base 1 "off" ["want"] (spOff K)) (cI : ICal P w K mg base C2 3 ["self", "rules", "prices"] (spPInit P w K C C2)) (cW : MCal P w K mg base C2 2 "way" ["self"] (spWay P w K C2)) (cP : MCal P w K mg base C2 2 "pay" ["self", "way"] (spPay P w K C2))
    (A : At K mg "best_payments" "best_payments" sBpay ["rules", "prices"]) : Cal P w K mg base 5 "best_payments" ["rules", "prices"] (spBpay K C) := by
  refine A.cal scBpay (fun vs H Q E h => ?_) (fun f cdv A outer st H vs Q E hr h => ?_)
  · obtain ⟨v, z, n, told, ps, rfl, _⟩ := h
    rfl
  · obtain ⟨v, z, n, told, ps, rfl, hv, hz, pr, few, q⟩ := h
    have hr2 : Room 2 (A.deeper (envOfC "best_payments" (defScope sBpay) st.heap.objs.size f cdv)) := hr.mono (by decide)
    have hr1 : Room 1 (A.deeper (envOfC "best_payments" (defScope sBpay) st.heap.objs.size f cdv)) := hr.mono (by decide)
    refine ⟨_, pss_cons (ps_set (i := 2) scBpay.nd rfl (Or.inr rfl) (pe_mk cI hr (by rfl) LP.mgC (pa_cons (pv 0) (pa_cons (pv 1) pa_nil))))
      (pss_cons (ps_set (i := 3) scBpay.nd rfl (Or.inl rfl) (pe_mt0 (pv 2) LP.cl cW hr2))
      (pss_cons (ps_while PassesOwn.never (pt_cmpR op_notN (pv 3) pe_non (nomark _))
        (pss_cons (ps_expr (pe_mt (pv 2) LP.cl cP hr2 (pa_cons (pv 3) pa_nil))) (pss_one (ps_set (i := 3) scBpay.nd rfl (Or.inl rfl) (pe_mt0 (pv 2) LP.cl cW hr2)))))
      (pss_cons (ps_set (i := 4) scBpay.nd rfl (Or.inl rfl) (pe_lst pa_nil))
      (pss_cons (ps_for PassesOwn.never rfl (pi_tup (pe_fld (pv 0) rfl)) (pg_tup rfl (pgs_cons (pg_name (i := 5) scBpay.nd rfl (Or.inl rfl)) (pgs_cons (pg_name (i := 6) scBpay.nd rfl (Or.inl rfl)) pgs_nil)))
        (pss_cons (ps_set (i := 7) scBpay.nd rfl (Or.inl rfl) (pe_callB (cr_sortS rfl (hu100 hr)) (by rfl) B.sorted boot_sorted (pa_cons (pe_callTy (cr_setR rfl (hu100 hr)) (by rfl) B.set boot_ty_set
            (pa_cons (pe_lst (pa_cons (pe_tup (pa_cons (pe_cl c0 hr1 (by rfl) (pa_cons (pv 5) pa_nil)) (pa_cons (pv 6) pa_nil))) (pa_cons (pe_tup (pa_cons (pe_cl c0 hr1 (by rfl) (pa_cons (pv 6) pa_nil)) (pa_cons (pv 5) pa_nil))) pa_nil))) pa_nil)) pa_nil)))
        (pss_one (ps_expr (pe_bm PySem.F.plainAttrs_list PySem.F.slot_list_append PySem.F.type_list_append mt_append (pv 4) (pa_cons
          (x_sum B (pe_lc (own := [("step", 8)]) (g := gName 8) (tt := tYes) (te := tNGetOr kkP P w K (tFld K (tVar 2) "given") (tCons (tVar 8) (tCons (tC (.int 0)) tNil))) (by rfl) scBpay.nd (pi_list (pv 7)) (blkOk_by (own := [("step", 8)]) (N := ["rules", "prices", "purses", "way", "found", "one", "other", "steps", "step"]) (sc := defScope sBpay) (by decide +kernel))
            (fun _ _ _ _ _ => pg_name (i := 8) scBpay.nd rfl (Or.inl rfl)) (fun _ _ _ _ _ => pts_nil) (fun _ _ _ _ _ => pe_ndGetOr kkP (hu100 hr) (pe_fld (pv 2) rfl) (pa_cons (pv 8) (pa_cons pe_int pa_nil))))) pa_nil))))))
      (pss_one (ps_ret (pe_callTy call_tuple_of (by rfl) B.tuple boot_ty_tuple (pa_cons (pv 4) pa_nil)))))))), ?_⟩
    refine ⟨_, rfl, _, rfl, fun x0 dx hx hdx ne => ?_⟩
    have hx2 : upd H dx (.own x0) x0 = none := (upd_ne ne.symm).trans hx
    have s0 : Same H (upd (upd H dx (.own x0)) x0 (.ins C2 dx [])) := (samePut hdx).trans (samePut hx2)
    refine ⟨x0, dx, v, z, n, told, ps, rfl, upd_same, hv.same s0, hz.tk (tkS s0), pr, few.n8, few.tl, H, s0, hx, fun H1 xd exd pu => ⟨rfl, ?_⟩⟩
    subst exd
    clear s0 hx2
    have hps := few.tl
    let Ok : V → Hp → Nat → Prop := fun y H2 m => ∃ G L x, x.p = xd.p ∧ Pu P w K C2 H H2 n told G L x ∧ Flow n ps told G L ∧ m = (total n L).toNat ∧
      ((y = .non ∧ ∃ R, Cut n told G L R) ∨ ∃ l fs us s t, y = .ref l ∧ H2 l = some (.lst fs) ∧ Paired (IsW K H2) fs us.reverse ∧ Way n told G L us s t)
    let W : Nat → L2.St → Hp → Prop := fun m σ H2 => ∃ y, σ = [some v, some z, some (.ref xd.p), some y, none, none, none, none, none] ∧ Ok y H2 m
    refine ⟨_, rfl, xd.p, xd.dp, _, rfl, pu.obj, pf_no (by decide +kernel) (by decide +kernel) (by decide +kernel), n, told, _, _, H, xd, rfl, pu, few, fun H2 R s cut => ?_, fun H2 l fs us s t sm hl pf0 wy => ?_⟩
    all_goals
      refine ⟨W, ⟨_, _, rfl, _, _, xd, rfl, pu.go (by assumption), Flow.start, rfl, ?_⟩, ?_⟩
      first
        | exact .inl ⟨rfl, _, by assumption⟩
        | exact .inr ⟨_, _, _, _, _, rfl, by assumption, by assumption, by assumption⟩
    all_goals
      rintro m σ H3 ⟨y, rfl, G, L, x, ex, p3, fl, em, hy⟩
      refine ⟨_, rfl, rfl, _, rfl, ?_⟩
      have obj3 : H3 xd.p = some (.ins C2 x.dp (pf x.ds x.dl x.dg)) := by rw [← ex]; exact p3.obj
      rcases hy with ⟨rfl, R, cut⟩ | ⟨l, fs, us, s, t, rfl, hl, pf_, wy⟩
      · -- the end
        have sm := p3.same
        refine iteF ⟨Nat.zero_le _, fun lf hlf => ?_⟩
        obtain ⟨a, dx, t, rfl, ha, ⟨ta, tx, rfl, st, pt⟩⟩ := hv
        have hlen : tx.length = told.length := Paired.len pt
        have s4 : Same H3 (upd H3 lf (.lst [])) := samePut hlf
        let Pf : Nat → L2.St → Hp → Prop := fun i σ H4 => Same H3 H4 ∧ ∃ u5 u6 u7 u8, σ = [some (.ref a), some z, some (.ref xd.p), some .non, some (.ref lf), u5, u6, u7, u8] ∧ H4 lf = some (.lst (((ysOf told G).take i).map V.int))
        refine ⟨_, rfl, a, C, dx, _, _, rfl, (sm.trans s4) _ _ ha, LR.cl, LR.nT, rf_told n _, ta, rfl, ⟨_, (tkS (sm.trans s4)).sq st⟩, for_tup (K := K) (a := ta) (xs := tx) Pf ⟨s4, none, none, none, none, rfl, upd_same⟩ (fun i σ H4 _ p => (tkS (sm.trans p.1)).sq st) ?_ ?_⟩
        · rintro i y σ H4 hx ⟨s5, u5, u6, u7, u8, rfl, hf⟩
          obtain ⟨r, hr', ⟨⟨b, x1, x2, rfl, sb, w1, w2⟩, _⟩⟩ := Paired.at1 pt hx
          have hi : i < told.length := (List.getElem?_eq_some_iff.mp hr').1
          obtain ⟨p1, rfl, sq1⟩ := w1
          obtain ⟨p2, rfl, sq2⟩ := w2
          have w1 : IsW K H (.ref p1) r.1 := ⟨p1, rfl, sq1⟩
          have w2 : IsW K H (.ref p2) r.2 := ⟨p2, rfl, sq2⟩
          have t4 : Tk H H4 := tkS (sm.trans s5)
          refine ⟨b, _, rfl, t4.sq sb, rfl, _, _, rfl, _, _, rfl, rfl, ?_⟩
          refine ⟨_, rfl, .ref p1, r.1, rfl, w1.tk t4, fun o1 ho1 => ⟨_, rfl, by show 2 ≤ sizeLine; decide, fun T1 hT1 => ?_⟩⟩
          have v1 := (IsW.new (K := K) (x := r.1.1) (y := 1 - r.1.2) ho1).tk (Tk.new hT1 (o := .tup [.ref o1, .ref p2]))
          have r1 := pairNew (u := off r.1) (v := r.2) hT1 (IsW.new (K := K) (x := r.1.1) (y := 1 - r.1.2) ho1) (w2.tk (t4.trans (Tk.new ho1)))
          have s6 : Same H4 (upd (upd H4 o1 (.tup [.int r.1.1, .int (1 - r.1.2)])) T1 (.tup [.ref o1, .ref p2])) := (samePut ho1).trans (samePut hT1)
          generalize upd (upd H4 o1 (.tup [.int r.1.1, .int (1 - r.1.2)])) T1 (.tup [.ref o1, .ref p2]) = H6 at s6 r1 v1 ⊢
          have t6 := t4.trans (tkS s6)
          refine ⟨_, rfl, .ref p2, r.2, rfl, w2.tk t6, fun o2 ho2 => ⟨_, rfl, by show 2 ≤ sizeLine; decide, fun T2 hT2 => ?_⟩⟩
          have r2 := pairNew (u := off r.2) (v := r.1) hT2 (IsW.new (K := K) (x := r.2.1) (y := 1 - r.2.2) ho2) (w1.tk (t6.trans (Tk.new ho2)))
          have s7 : Same H6 (upd (upd H6 o2 (.tup [.int r.2.1, .int (1 - r.2.2)])) T2 (.tup [.ref o2, .ref p1])) := (samePut ho2).trans (samePut hT2)
          generalize upd (upd H6 o2 (.tup [.int r.2.1, .int (1 - r.2.2)])) T2 (.tup [.ref o2, .ref p1]) = H7 at s7 r2 ⊢
          have r1' := r1.tk (tkS s7)
          refine ⟨by show 2 ≤ sizeLine; decide, fun l1 hl1 => ⟨l1, [(T1, (off r.1, r.2)), (T2, (off r.2, r.1))], rfl, SqL.of upd_same, fun e he => ?_, by show 2 < 64; decide, fun S Ls hS sub got nd => ?_⟩⟩
          · rcases List.mem_cons.mp he with q1 | q1
            · rw [q1]; exact r1'.tk (Tk.new hl1)
            · rw [List.mem_singleton.mp q1]; exact r2.tk (Tk.new hl1)
          have s8 : Same H7 (upd H7 l1 (.lst [.ref T1, .ref T2])) := samePut hl1
          have isE : ∀ e ∈ Ls, IsR K H7 (.ref e.1) e.2 := fun e he => by
            rcases List.mem_cons.mp (sub e he) with q1 | q1
            · rw [q1]; exact r1'
            · rw [List.mem_singleton.mp q1]; exact r2
          refine ⟨S, Ls, rfl, upd_same, fun e he => ((isE e he).tk (tkS s8)).tk (Tk.new hS), fun L' ql pm nd2 _ hql => ?_⟩
          have mem : ∀ e : Ed, e ∈ L'.map (·.2) ↔ e ∈ eds r := fun e => by
            rw [(pm.map (·.2)).mem_iff, mem_eds]
            constructor
            · intro m1
              obtain ⟨g, hg, rfl⟩ := List.mem_map.mp m1
              rcases List.mem_cons.mp (sub g hg) with q1 | q1
              · rw [q1]; exact .inl rfl
              · rw [List.mem_singleton.mp q1]; exact .inr rfl
            · rintro (rfl | rfl)
              · exact got _ List.mem_cons_self
              · exact got _ (List.mem_cons_of_mem _ List.mem_cons_self)
          have pe : (L'.map (·.2)).Perm (eds r) := (List.perm_ext_iff_of_nodup nd2 (eds_nodup r)).mpr mem
          have len2 : L'.length ≤ 2 := by
            have := pe.length_eq
            rw [List.length_map] at this
            rw [this]
            unfold eds; split <;> exact Nat.le_of_ble_eq_true rfl
          have isE' : ∀ e ∈ L', IsR K H7 (.ref e.1) e.2 := fun e he => isE e (pm.mem_iff.mp he)
          have s9 : Same H7 (upd (upd (upd H7 l1 (.lst [.ref T1, .ref T2])) S (RSo P w S Ls)) ql (.lst (L'.map fun e => V.ref e.1))) := (s8.trans (samePut hS)).trans (samePut hql)
          have hq9 : (upd (upd (upd H7 l1 (.lst [.ref T1, .ref T2])) S (RSo P w S Ls)) ql (.lst (L'.map fun e => V.ref e.1))) ql = some (.lst (L'.map fun e => V.ref e.1)) := upd_same
          obtain ⟨H9, e9⟩ : ∃ H9, (upd (upd (upd H7 l1 (.lst [.ref T1, .ref T2])) S (RSo P w S Ls)) ql (.lst (L'.map fun e => V.ref e.1))) = H9 := ⟨_, rfl⟩
          have s39 : Same H3 H9 := by rw [← e9]; exact ((s5.trans s6).trans s7).trans s9
          have s49 : Same H4 H9 := by rw [← e9]; exact (s6.trans s7).trans s9
          have isE9 : ∀ e ∈ L', IsR K H9 (.ref e.1) e.2 := fun e he => by rw [← e9]; exact (isE' e he).tk (tkS s9)
          rw [e9] at hq9
          have hf9 := s49 _ _ hf
          have ge : gName 7 (V.ref ql) = gName 7 (V.ref ql) := rfl
          refine (?_ : ∀ Hx, Hx = H9 → _) _ e9
          rintro _ rfl
          refine ⟨_, rfl, .inl ⟨rfl, _, SqL.of hf9⟩, _, rfl, ql, rfl, ⟨_, SqL.of hq9⟩, fun D hD => ?_⟩
          let F : Nat → V → Hp → Prop := fun i y _ => ∃ m, ((L'.map (·.2)).map G)[i]? = some m ∧ y = V.int m
          have kf : ByT F := fun _ _ _ _ _ h => h
          have p9 := p3.go s39
          refine lc_it (walk_list (K := K) (a := ql) (xs := L'.map fun e => V.ref e.1)) (PvAll F _ D) (PvAll.zero hD) (fun i H' _ p => SqL.of (p.1 _ _ hq9)) ?_ ?_
          · rintro k y H8 H10 hk p10 ⟨rfl, hx2⟩
            rw [List.getElem?_map] at hx2
            obtain ⟨e, he, rfl⟩ := Option.map_eq_some_iff.mp hx2
            have p11 := p9.go p10.1
            have obj11 : H10 xd.p = some (.ins C2 x.dp (pf x.ds x.dl x.dg)) := by rw [← ex]; exact p11.obj
            have gd : (getE x.Lg e.2).getD (.int 0) = .int (G e.2) := by
              rcases p11.given e.2 with g | ⟨g1, g2⟩
              · rw [g]; rfl
              · rw [g1, g2]; rfl
            refine ⟨rfl, _, rfl, xd.p, C2, x.dp, _, _, rfl, obj11, LP.cl, LP.nG, pf_given _ _ _, ⟨x.dg, x.Lg, rfl, p11.gv⟩, _, rfl, x.dg, e.1, e.2, x.Lg, .int 0, rfl, rfl, (isE9 e (List.mem_of_getElem? he)).tk (tkS p10.1), p11.gv, ?_⟩
            rw [gd]
            refine PvAll.next kf hD p10 (Same.refl _) ⟨G e.2, by rw [List.map_map, List.getElem?_map, he]; rfl, rfl⟩ (szBig ?_)
            have : k < L'.length := by rw [List.length_map] at hk; exact hk
            omega
          · rintro H10 ⟨s10, zs, ez, hzl, hz'⟩
            have hzs : zs = ((L'.map (·.2)).map G).map V.int := ints_list (by rw [hzl, List.length_map, List.length_map, List.length_map]) hz'
            have hsum : ((L'.map (·.2)).map G).sum = lsum (eds r) G := perm_lsum G pe
            refine ⟨D, _, rfl, SqL.of (by rw [ez, hzs]), lf, _, _, rfl, rfl, s10 _ _ hf9, ?_, ?_⟩
            · rw [List.length_map, List.length_take]
              exact szBig (by omega)
            · refine ⟨sameOver hlf (s39.trans s10), _, _, _, _, rfl, ?_⟩
              have e1 : (ysOf told G)[i]? = some (lsum (eds r) G) := by
                unfold ysOf
                rw [List.getElem?_map, hr']; rfl
              rw [upd_same, hsum, List.take_succ, e1, List.map_append]
              rfl
        · rintro σ H4 ⟨s5, u5, u6, u7, u8, rfl, hf⟩
          have yl : (ysOf told G).length = told.length := List.length_map ..
          rw [hlen, ← yl, List.take_length] at hf
          refine ⟨_, rfl, lf, _, rfl, .inl ⟨SqL.of hf, fun a' ha' => ?_⟩⟩
          exact q _ a' (ysOf told G) ((sm.trans s5).trans (samePut ha')) upd_same ⟨paid_ys pr few.n8 fl, best pr.1 few.T fl cut⟩
      · refine iteT ⟨fun σ' H' => ∃ m', m' < m ∧ W m' σ' H', fun _ _ h => h, ?_⟩
        refine ⟨_, rfl, xd.p, x.dp, _, rfl, obj3, pf_no (by decide +kernel) (by decide +kernel) (by decide +kernel), _, rfl, l, fs, us, s, t, n, told, G, L, H, x, by rw [ex]; rfl, p3, few, hl, pf_, wy, fun H4 x' k k1 k2 k3 k4 ex' p4 => ?_⟩
        obtain ⟨fl2, tot⟩ := fl.pay few.T wy k1 k2 k3 k4
        have ex2 : x'.p = xd.p := ex'.trans ex
        have obj4 : H4 xd.p = some (.ins C2 x'.dp (pf x'.ds x'.dl x'.dg)) := by rw [← ex2]; exact p4.obj
        have tn := total_nonneg n (payL k s t L)
        have less : (total n (payL k s t L)).toNat < m := by omega
        refine ⟨_, rfl, xd.p, x'.dp, _, rfl, obj4, pf_no (by decide +kernel) (by decide +kernel) (by decide +kernel), n, told, _, _, H, x', by rw [ex2]; rfl, p4, few, fun H5 R s5 cut => ?_, fun H5 l5 fs5 us5 s5' t5 sm5 hl5 pf5 wy5 => ?_⟩
        · exact ⟨_, less, _, rfl, _, _, x', ex2, p4.go s5, fl2, rfl, .inl ⟨rfl, R, cut⟩⟩
        · exact ⟨_, less, _, rfl, _, _, x', ex2, p4.go sm5, fl2, rfl, .inr ⟨l5, fs5, us5, s5', t5, rfl, hl5, pf5, wy5⟩⟩
end
end K74

set_option Elab.async false
set_option linter.all false
set_option maxRecDepth 100000
set_option maxHeartbeats 4000000
namespace K74
open PySem PySem.Spec PyProof.Rows L2
/-- the least cost of the half rows that keep all -/
def IsLeast (n : Nat) (ps : List Int) (told : List Rl) (m : Int) : Prop := (∀ h, Half n h → KeptH told h → m ≤ cost ps h) ∧ (∃ h, Half n h ∧ KeptH told h ∧ cost ps h = m) ∧ ∀ ys, Paid told ys → bound ps told ys ≤ m
theorem Meets.least {n : Nat} {ps : List Int} {told : List Rl} {ys : List Int} (pr : Priced n ps) (T : Told n told) (M : Meets n ps told ys) : IsLeast n ps told (bound ps told ys) := by
  obtain ⟨pd, h, h1, h2, h3⟩ := M
  refine ⟨fun h' a b => weak pr.1 a b T.ends pd.1 fun y hy => (pd.2 y hy).1, ⟨h, h1, h2, h3⟩, fun zs pz => ?_⟩
  rw [← h3]
  exact weak pr.1 h1 h2 T.ends pz.1 fun y hy => (pz.2 y hy).1
theorem IsLeast.uniq {n : Nat} {ps : List Int} {told : List Rl} {a b : Int} (x : IsLeast n ps told a) (y : IsLeast n ps told b) : a = b := by
  obtain ⟨x1, ⟨h, h1, h2, h3⟩, _⟩ := x
  obtain ⟨y1, ⟨g, g1, g2, g3⟩, _⟩ := y
  have := x1 g g1 g2
  have := y1 h h1 h2
  omega
section
variable {P : Program} {w : World} {K : PySem.W.Frag} {mg : Str → Option Value} {base : Heap} {C C2 : Addr}
abbrev sPayFor : Stmt := topS 41
theorem scPayFor : FnScope ["rules", "prices"] ["rules", "prices"] (defScope sPayFor) := ⟨rfl, rfl, rfl, by decide +kernel, rfl, by decide +kernel, by decide +kernel⟩
theorem cPayFor (c1 : Cal P w K mg base 2 "need_prices" ["rules", "prices"] (spNeedP K C)) (c2 : Cal P w K mg base 5 "best_payments" ["rules", "prices"] (spBpay K C)) (A : At K mg "payments_for" "payments_for" sPayFor ["rules", "prices"]) : Cal P w K mg base 6 "payments_for" ["rules", "prices"] (spBpay K C) := by
  refine A.cal scPayFor (fun vs H Q E h => ?_) (fun f cdv A outer s H vs Q E hr h => ?_)
  · obtain ⟨v, z, n, told, ps, rfl, _⟩ := h
    rfl
  · obtain ⟨v, z, n, told, ps, rfl, hv, hz, pr, few, q⟩ := h
    refine ⟨_, pss_cons (ps_expr (pe_cl c1 (hr.mono (by decide)) (by rfl) (pa_cons (pv 0) (pa_cons (pv 1) pa_nil)))) (pss_one (ps_ret (pe_cl c2 hr (by rfl) (pa_cons (pv 0) (pa_cons (pv 1) pa_nil))))), ?_⟩
    refine ⟨_, rfl, _, rfl, v, z, n, told, ps, rfl, hv, hz, pr, few.n8, fun H1 s1 => ?_⟩
    exact ⟨_, rfl, _, rfl, v, z, n, told, ps, rfl, hv.same s1, hz.tk (tkS s1), pr, few, fun H2 a ys s2 h2 m => q H2 a ys (s1.trans s2) h2 m⟩
abbrev sKeepsH : Stmt := topS 43
def spKeepsH (K : PySem.W.Frag) (C : Addr) : Sp := fun vs H Q _ => ∃ (v z : V) (n : Nat) (told : List Rl) (hs : List Int), vs = [v, z] ∧ IsRs K C H v n told ∧ IsTi K H z hs ∧ Half n hs ∧ Few n told ∧ ∀ H', Same H H' → Q (.bl (told.all (keptHb hs))) H'
theorem scKeepsH : FnScope ["rules", "value"] ["rules", "value"] (defScope sKeepsH) := ⟨rfl, rfl, rfl, by decide +kernel, rfl, by decide +kernel, by decide +kernel⟩
theorem cKeepsH (L : ClR K mg C) (c1 : Cal P w K mg base 1 "need_rules" ["rules"] (spNeedR K C)) (c2 : Cal P w K mg base 2 "are_halves" ["rules", "value"] (spAreHalves K C)) (c3 : Cal P w K mg base 2 "are_kept_by" ["told", "halves"] (spAreKeptBy K)) (A : At K mg "keeps_halves" "keeps_halves" sKeepsH ["rules", "value"]) :
    Cal P w K mg base 3 "keeps_halves" ["rules", "value"] (spKeepsH K C) := by
  refine A.cal scKeepsH (fun vs H Q E h => ?_) (fun f cdv A outer s H vs Q E hr h => ?_)
  · obtain ⟨v, z, n, told, hs, rfl, _⟩ := h
    rfl
  · obtain ⟨v, z, n, told, hs, rfl, hv, hz, hh, few, q⟩ := h
    refine ⟨_, pss_cons (ps_expr (pe_cl c1 (hr.mono (by decide)) (by rfl) (pa_cons (pv 0) pa_nil)))
      (pss_one (ps_ret (pe_and (pe_cl c2 hr (by rfl) (pa_cons (pv 0) (pa_cons (pv 1) pa_nil))) (pe_one (pe_cl c3 hr (by rfl) (pa_cons (pe_fld (pv 0) rfl) (pa_cons (pv 1) pa_nil))))))), ?_⟩
    refine ⟨_, rfl, v, n, told, rfl, hv, ?_⟩
    refine ⟨_, rfl, _, rfl, v, z, n, told, hs, rfl, hv, hz, hh, few.n8, fun H2 s2 => ⟨true, rfl, iteT ?_⟩⟩
    obtain ⟨a, dx, t, rfl, ha, ht⟩ := hv.same s2
    exact ⟨_, rfl, a, C, dx, _, _, rfl, ha, L.cl, L.nT, rf_told n t, _, rfl, t, z, told, hs, rfl, ht, hz.tk (tkS s2), few.tl, by rw [hh.1]; exact few.T.ends, fun H3 s3 => q _ (s2.trans s3)⟩
abbrev sHalfCost : Stmt := topS 44
def spHalfCost (K : PySem.W.Frag) (C : Addr) : Sp := fun vs H Q _ => ∃ (v p z : V) (n : Nat) (told : List Rl) (ps hs : List Int), vs = [v, p, z] ∧ IsRs K C H v n told ∧ IsTi K H p ps ∧ Priced n ps ∧ IsTi K H z hs ∧ Half n hs ∧ Few n told ∧ ∀ H', Same H H' → Q (.int (cost ps hs)) H'
theorem scHalfCost : FnScope ["rules", "prices", "halves"] ["rules", "prices", "halves"] (defScope sHalfCost) := ⟨rfl, rfl, rfl, by decide +kernel, rfl, by decide +kernel, by decide +kernel⟩
theorem cHalfCost (c1 : Cal P w K mg base 2 "need_prices" ["rules", "prices"] (spNeedP K C)) (c2 : Cal P w K mg base 2 "are_halves" ["rules", "value"] (spAreHalves K C)) (c3 : Cal P w K mg base 1 "cost_of" ["prices", "row"] (spCostOf K)) (A : At K mg "half_cost" "half_cost" sHalfCost ["rules", "prices", "halves"]) :
    Cal P w K mg base 3 "half_cost" ["rules", "prices", "halves"] (spHalfCost K C) := by
  refine A.cal scHalfCost (fun vs H Q E h => ?_) (fun f cdv A outer s H vs Q E hr h => ?_)
  · obtain ⟨v, p, z, n, told, ps, hs, rfl, _⟩ := h
    rfl
  · obtain ⟨v, p, z, n, told, ps, hs, rfl, hv, hp, pr, hz, hh, few, q⟩ := h
    refine ⟨_, pss_cons (ps_expr (pe_cl c1 hr (by rfl) (pa_cons (pv 0) (pa_cons (pv 1) pa_nil))))
      (pss_cons (ps_if (pt_not (pt_val (pe_cl c2 hr (by rfl) (pa_cons (pv 0) (pa_cons (pv 2) pa_nil))))) pss_never pss_nil)
      (pss_one (ps_ret (pe_cl c3 (hr.mono (by decide)) (by rfl) (pa_cons (pv 1) (pa_cons (pv 2) pa_nil)))))), ?_⟩
    refine ⟨_, rfl, _, rfl, v, p, n, told, ps, rfl, hv, hp, pr, few.n8, fun H1 s1 => ?_⟩
    refine ⟨_, rfl, _, rfl, v, z, n, told, hs, rfl, hv.same s1, hz.tk (tkS s1), hh, few.n8, fun H2 s2 => ⟨true, rfl, iteF ?_⟩⟩
    have s3 := s1.trans s2
    exact ⟨_, rfl, _, rfl, p, z, n, ps, hs, rfl, hp.tk (tkS s3), hz.tk (tkS s3), pr, hh.1, few.n8, fun H3 s4 => q _ (s3.trans s4)⟩
abbrev sLeast : Stmt := topS 45
def spLeast (K : PySem.W.Frag) (C : Addr) : Sp := fun vs H Q _ => ∃ (v z : V) (n : Nat) (told : List Rl) (ps : List Int), vs = [v, z] ∧ IsRs K C H v n told ∧ IsTi K H z ps ∧ Priced n ps ∧ Few n told ∧ ∀ H' m, Same H H' → IsLeast n ps told m → Q (.int m) H'
theorem scLeast : FnScope ["rules", "prices"] ["rules", "prices"] (defScope sLeast) := ⟨rfl, rfl, rfl, by decide +kernel, rfl, by decide +kernel, by decide +kernel⟩
theorem cLeast (c1 : Cal P w K mg base 2 "bound_of" ["rules", "prices", "payments"] (spBoundOf K C)) (c2 : Cal P w K mg base 5 "best_payments" ["rules", "prices"] (spBpay K C)) (A : At K mg "least_cost" "least_cost" sLeast ["rules", "prices"]) : Cal P w K mg base 6 "least_cost" ["rules", "prices"] (spLeast K C) := by
  refine A.cal scLeast (fun vs H Q E h => ?_) (fun f cdv A outer s H vs Q E hr h => ?_)
  · obtain ⟨v, z, n, told, ps, rfl, _⟩ := h
    rfl
  · obtain ⟨v, z, n, told, ps, rfl, hv, hz, pr, few, q⟩ := h
    refine ⟨_, pss_one (ps_ret (pe_cl c1 (hr.mono (by decide)) (by rfl) (pa_cons (pv 0) (pa_cons (pv 1) (pa_cons (pe_cl c2 hr (by rfl) (pa_cons (pv 0) (pa_cons (pv 1) pa_nil))) pa_nil))))), ?_⟩
    refine ⟨_, rfl, _, rfl, _, rfl, _, rfl, v, z, n, told, ps, rfl, hv, hz, pr, few, fun H2 a ys s2 h2 m => ?_⟩
    exact ⟨v, z, .ref a, n, told, ps, ys, rfl, hv.same s2, hz.tk (tkS s2), pr, ⟨a, rfl, SqT.of h2⟩, m.1, few.tl, fun H3 s3 => q _ _ (s2.trans s3) (m.least pr few.T)⟩
abbrev sLeastH : Stmt := topS 46
theorem scLeastH : FnScope ["rules", "prices"] ["rules", "prices"] (defScope sLeastH) := ⟨rfl, rfl, rfl, by decide +kernel, rfl, by decide +kernel, by decide +kernel⟩
theorem cLeastH (c1 : Cal P w K mg base 2 "need_prices" ["rules", "prices"] (spNeedP K C)) (c2 : Cal P w K mg base 6 "least_cost" ["rules", "prices"] (spLeast K C)) (A : At K mg "least_half_cost" "least_half_cost" sLeastH ["rules", "prices"]) : Cal P w K mg base 7 "least_half_cost" ["rules", "prices"] (spLeast K C) := by
  refine A.cal scLeastH (fun vs H Q E h => ?_) (fun f cdv A outer s H vs Q E hr h => ?_)
  · obtain ⟨v, z, n, told, ps, rfl, _⟩ := h
    rfl
  · obtain ⟨v, z, n, told, ps, rfl, hv, hz, pr, few, q⟩ := h
    refine ⟨_, pss_cons (ps_expr (pe_cl c1 (hr.mono (by decide)) (by rfl) (pa_cons (pv 0) (pa_cons (pv 1) pa_nil)))) (pss_one (ps_ret (pe_cl c2 hr (by rfl) (pa_cons (pv 0) (pa_cons (pv 1) pa_nil))))), ?_⟩
    refine ⟨_, rfl, _, rfl, v, z, n, told, ps, rfl, hv, hz, pr, few.n8, fun H1 s1 => ?_⟩
    exact ⟨_, rfl, _, rfl, v, z, n, told, ps, rfl, hv.same s1, hz.tk (tkS s1), pr, few, fun H2 m s2 h => q _ m (s1.trans s2) h⟩
abbrev sGap : Stmt := topS 47
def spGap (K : PySem.W.Frag) (C : Addr) : Sp := fun vs H Q _ => ∃ (v z : V) (n : Nat) (told : List Rl) (ps : List Int), vs = [v, z] ∧ IsRs K C H v n told ∧ IsTi K H z ps ∧ Priced n ps ∧ Ruled n told ∧ told.length ≤ 1000 ∧
  ((∀ r, Row n r → told.all (keptR r) = false) → ∀ H', Same H H' → Q .non H') ∧ ∀ H' b m, Same H H' → IsBest n told ps b → IsLeast n ps told m → Q (.int (2 * b - m)) H'
theorem scGap : FnScope ["rules", "prices", "found"] ["rules", "prices"] (defScope sGap) := ⟨rfl, rfl, rfl, by decide +kernel, rfl, by decide +kernel, by decide +kernel⟩
theorem cGap (c1 : Cal P w K mg base 2 "need_prices" ["rules", "prices"] (spNeedP K C)) (c2 : Cal P w K mg base 5 "best_rows" ["rules", "prices"] (spBest K C)) (c3 : Cal P w K mg base 6 "least_cost" ["rules", "prices"] (spLeast K C)) (A : At K mg "gap" "gap" sGap ["rules", "prices"]) : Cal P w K mg base 7 "gap" ["rules", "prices"] (spGap K C) := by
  refine A.cal scGap (fun vs H Q E h => ?_) (fun f cdv A outer s H vs Q E hr h => ?_)
  · obtain ⟨v, z, n, told, ps, rfl, _⟩ := h
    rfl
  · obtain ⟨v, z, n, told, ps, rfl, hv, hz, pr, R, tl, q1, q2⟩ := h
    have few : Few n told := ⟨R.n8, tl, R.told⟩
    refine ⟨_, pss_cons (ps_expr (pe_cl c1 (hr.mono (by decide)) (by rfl) (pa_cons (pv 0) (pa_cons (pv 1) pa_nil))))
      (pss_cons (ps_set (i := 2) scGap.nd rfl (Or.inl rfl) (pe_cl c2 (hr.mono (by decide)) (by rfl) (pa_cons (pv 0) (pa_cons (pv 1) pa_nil))))
      (pss_one (ps_ret (pe_ifExp (pt_cmpR op_notN (pv 2) pe_non (nomark _)) (pe_op op_sub (pe_op op_mul pe_int (x_ix (pv 2) pe_int)) (pe_cl c3 hr (by rfl) (pa_cons (pv 0) (pa_cons (pv 1) pa_nil)))) pe_non)))), ?_⟩
    refine ⟨_, rfl, _, rfl, v, z, n, told, ps, rfl, hv, hz, pr, R.n8, fun H1 s1 => ?_⟩
    refine ⟨_, rfl, _, rfl, v, z, n, told, ps, rfl, hv.same s1, R, tl, hz.tk (tkS s1), pr, fun no H2 s2 => ?_, fun ex H2 T D b s2 hT hb => ?_⟩
    · exact ⟨_, rfl, rfl, false, rfl, iteF (q1 no _ (s1.trans s2))⟩
    · refine ⟨_, rfl, rfl, true, rfl, iteT ?_⟩
      have s3 := s1.trans s2
      exact ⟨_, rfl, T, _, _, _, rfl, rfl, SqT.of hT, rfl, _, _, rfl, rfl, .inl ⟨by decide, by decide⟩, _, rfl, _, rfl, v, z, n, told, ps, rfl, hv.same s3, hz.tk (tkS s3), pr, few, fun H3 m s4 hm => ⟨_, _, rfl, rfl, q2 _ b m (s3.trans s4) hb hm⟩⟩
end
end K74

set_option Elab.async false
set_option linter.all false
set_option maxRecDepth 100000
set_option maxHeartbeats 4000000
namespace K74
open PySem PySem.Spec PyProof.Rows L2
/-! ### what the law draws from -/
def RowAt (K : PySem.W.Frag) (R : Addr × List Int) (H : Hp) (l : Addr) : Prop := ∃ i m r : Int, H l = some (.lst [.ref R.1, .int i, .int m, .int r]) ∧ SqL K H R.1 (R.2.map V.int) ∧ R.2.length ≤ 63 ∧ 0 ≤ i
theorem sql_same {K : PySem.W.Frag} {H H' : Hp} {a : Addr} {xs : List V} (h : SqL K H a xs) (s : Same H H') : SqL K H' a xs := by
  rcases h with (h | ⟨o, h⟩) | h
  · exact .inl (.inl (s _ _ h))
  · exact .inl (.inr ⟨o, s _ _ h⟩)
  · exact .inr h
theorem RowAt.same {K : PySem.W.Frag} {R : Addr × List Int} {H H' : Hp} {l : Addr} (h : RowAt K R H l) (s : Same H H') : RowAt K R H' l :=
  let ⟨i, m, r, h1, h2, h3⟩ := h
  ⟨i, m, r, s _ _ h1, sql_same h2 s, h3⟩
theorem RowAt.put {K : PySem.W.Frag} {R : Addr × List Int} {H H2 : Hp} {l f : Addr} {o : HO} (row0 : RowAt K R H l) (nf : H f = none) (row2 : RowAt K R H2 l) (ne : f ≠ l) : RowAt K R (upd H2 f o) l := by
  obtain ⟨_, _, _, _, s0, _⟩ := row0
  obtain ⟨i, m, r, h1, s2, h3⟩ := row2
  refine ⟨i, m, r, (upd_ne ne.symm).trans h1, ?_, h3⟩
  rcases s0 with s0 | s0
  · have ns : R.1 ≠ f := by
      rcases s0 with s0 | ⟨_, s0⟩ <;> exact ne_of_none s0 nf
    rcases s2 with (s2 | ⟨u, s2⟩) | s2
    · exact .inl (.inl ((upd_ne ns).trans s2))
    · exact .inl (.inr ⟨u, (upd_ne ns).trans s2⟩)
    · exact .inr s2
  · exact .inr s0
theorem script_kp {K : PySem.W.Frag} {H H' : Hp} {l sl a : Addr} {rest : List V} {ns : List Int} (hl : H l = some (.lst (.ref a :: rest))) (h : SqL K H sl (ns.map V.int)) (k : Kp (· = l) H H') : SqL K H' sl (ns.map V.int) := by
  rcases h with (h | ⟨o, h⟩) | h
  · refine .inl (.inl (k _ _ (fun e => ?_) h))
    rw [e, hl] at h
    have h := HO.lst.inj (Option.some.inj h)
    cases ns with
    | nil => cases h
    | cons n ns => exact nomatch (List.cons.inj h).1
  · refine .inl (.inr ⟨o, k _ _ (fun e => ?_) h⟩)
    rw [e, hl] at h
    cases h
  · exact .inr h
theorem kp_put {H : Hp} {l : Addr} {o : HO} : Kp (· = l) H (upd H l o) := fun b u hb e => (upd_ne hb).trans e
section
variable {P : Program} {w : World} {K : PySem.W.Frag} {mg : Str → Option Value} {base : Heap} {C C2 : Addr}
abbrev sTaken : Stmt := topS 49
def spTaken (K : PySem.W.Frag) : Sp := fun vs H Q _ => ∃ (l : Addr) (n : Int) (R : Addr × List Int), vs = [.ref l, .int n] ∧ RowAt K R H l ∧ 0 < n ∧ n < 1000000 ∧ ∀ H' x, Kp (· = l) H H' → RowAt K R H' l → 0 ≤ x → x < n → Q (.int x) H'
theorem scTaken : FnScope ["_law_row", "_law_many", "_law_found", "_law_cell"] ["_law_row", "_law_many"] (defScope sTaken) := ⟨rfl, rfl, rfl, by decide +kernel, rfl, by decide +kernel, by decide +kernel⟩
theorem cTaken (B : Bl mg) (A : At K mg "_law_taken" "_law_taken" sTaken ["_law_row", "_law_many"]) : Cal P w K mg base 1 "_law_taken" ["_law_row", "_law_many"] (spTaken K) := by
  refine A.cal scTaken (fun vs H Q E h => ?_) (fun f cdv A outer s H vs Q E hr h => ?_)
  · obtain ⟨l, n, R, rfl, _⟩ := h
    rfl
  · obtain ⟨l, n, ⟨sl, ns⟩, rfl, ⟨i, m, r, hl, hs, hn, hi⟩, n0, n9, q⟩ := h
    replace hl : H l = some (.lst [.ref sl, .int i, .int m, .int r]) := hl
    replace hs : SqL K H sl (ns.map V.int) := hs
    replace hn : ns.length ≤ 63 := hn
    refine ⟨_, pss_cons (ps_if (pt_cmpR op_gt (x_ixL (pv 0) pe_int) pe_int (nomark _))
        (pss_cons (ps_set (i := 2) scTaken.nd rfl (Or.inl rfl) (pe_op op_mod (pe_callTy call_int1 (by rfl) B.int boot_ty_int (pa_cons (x_ixL (pv 0) pe_int) pa_nil)) (pv 1)))
        (pss_cons (ps_asg (pe_op op_fdiv (x_ixL (pv 0) pe_int) (pv 1)) (pg_sub (pv 0) pe_int set_list))
        (pss_one (ps_ret (pv 2))))) pss_nil)
      (pss_cons (ps_asg (pe_op op_add (x_ixL (pv 0) pe_int) pe_int) (pg_sub (pv 0) pe_int set_list))
      (pss_cons (ps_if (pt_cmpR op_gt (x_ixL (pv 0) pe_int) (x_len B (x_ixL (pv 0) pe_int)) (nomark _))
        (pss_cons (ps_asg (pe_op op_mod (pe_callTy call_int1 (by rfl) B.int boot_ty_int (pa_cons (pe_op op_add (pe_op op_mul (x_ixL (pv 0) pe_int) pe_int) pe_int) pa_nil)) pe_int) (pg_sub (pv 0) pe_int set_list))
        (pss_one (ps_ret (pe_op op_mod (pe_callTy call_int1 (by rfl) B.int boot_ty_int (pa_cons (pe_op op_fdiv (x_ixL (pv 0) pe_int) pe_int) pa_nil)) (pv 1))))) pss_nil)
      (pss_cons (ps_set (i := 3) scTaken.nd rfl (Or.inl rfl) (x_ixL (x_ixL (pv 0) pe_int) (pe_op op_sub (x_ixL (pv 0) pe_int) pe_int)))
      (pss_cons (ps_asg (pe_op op_mod (pe_callTy call_int1 (by rfl) B.int boot_ty_int (pa_cons (pe_op op_add (pe_op op_add (pe_op op_mul (x_ixL (pv 0) pe_int) pe_int) (pv 3)) pe_int) pa_nil)) pe_int) (pg_sub (pv 0) pe_int set_list))
      (pss_cons (ps_if (pt_cmpR op_ge (pv 3) (pe_op op_pow pe_int pe_int) (nomark _))
        (pss_one (ps_asg (pe_op op_fdiv (pv 3) (pv 1)) (pg_sub (pv 0) pe_int set_list))) pss_nil)
      (pss_one (ps_ret (pe_op op_mod (pe_callTy call_int1 (by rfl) B.int boot_ty_int (pa_cons (pv 3) pa_nil)) (pv 1))))))))), ?_⟩
    have dv : CDiv r n := ⟨n0, by omega⟩
    have ans : ∀ (y : Int), 0 ≤ y % n ∧ y % n < n := fun y => ⟨Int.emod_nonneg _ (by omega), Int.emod_lt_of_pos _ n0⟩
    refine ⟨_, rfl, l, _, _, _, rfl, rfl, SqL.of hl, rfl, _, _, rfl, rfl, _, rfl, ?_⟩
    refine ite2 (fun _ => ?_) (fun _ => ?_)
    · refine ⟨_, rfl, l, _, _, _, rfl, rfl, SqL.of hl, rfl, .inl ⟨_, rfl, _, rfl, _, _, rfl, rfl, n0, ?_⟩⟩
      refine ⟨_, rfl, l, _, _, _, rfl, rfl, SqL.of hl, rfl, _, rfl, _, _, rfl, rfl, dv, _, rfl, l, _, 3, 3, rfl, rfl, hl, rfl, ?_⟩
      have k := kp_put (H := H) (l := l) (o := .lst [.ref sl, .int i, .int m, .int (r / n)])
      exact ⟨_, rfl, q _ _ k ⟨i, m, r / n, upd_same, script_kp hl hs k, hn, hi⟩ (ans r).1 (ans r).2⟩
    · refine ⟨_, rfl, l, _, _, _, rfl, rfl, SqL.of hl, rfl, _, _, rfl, rfl, _, rfl, l, _, 1, 1, rfl, rfl, hl, rfl, ?_⟩
      have k1 := kp_put (H := H) (l := l) (o := .lst [.ref sl, .int (i + 1), .int m, .int r])
      have h1 : upd H l (.lst [.ref sl, .int (i + 1), .int m, .int r]) l = some (.lst [.ref sl, .int (i + 1), .int m, .int r]) := upd_same
      have c1 := script_kp hl hs k1
      show (fun H1 => _) (upd H l (.lst [.ref sl, .int (i + 1), .int m, .int r]))
      generalize upd H l (.lst [.ref sl, .int (i + 1), .int m, .int r]) = H1 at k1 h1 c1 ⊢
      refine ⟨_, rfl, l, _, _, _, rfl, rfl, SqL.of h1, rfl, _, rfl, l, _, _, _, rfl, rfl, SqL.of h1, rfl, sl, _, rfl, .inl c1, _, _, rfl, rfl, _, rfl, ?_⟩
      refine ite2 (fun _ => ?_) (fun hle => ?_)
      · refine ⟨_, rfl, l, _, _, _, rfl, rfl, SqL.of h1, rfl, _, _, rfl, rfl, .inr ⟨by decide, by decide⟩, _, _, rfl, rfl, .inl ⟨_, rfl, _, _, rfl, rfl, by show (0 : Int) < 2147483647; decide, _, rfl, l, _, 2, 2, rfl, rfl, h1, rfl, ?_⟩⟩
        have k2 := kp_put (H := H1) (l := l) (o := .lst [.ref sl, .int (i + 1), .int ((m * 48271 + 11) % 2147483647), .int r])
        refine ⟨_, rfl, l, _, _, _, rfl, rfl, SqL.of upd_same, rfl, _, _, rfl, rfl, ⟨by decide, by decide⟩, .inl ⟨_, rfl, _, rfl, _, _, rfl, rfl, n0, ?_⟩⟩
        exact q _ _ (k1.trans k2) ⟨i + 1, _, r, upd_same, script_kp h1 c1 k2, hn, by omega⟩ (ans _).1 (ans _).2
      · have il : i < (ns.length : Int) := by
          have z : ¬ ((ns.map V.int).length : Int) < i + 1 := fun y => hle (decide_eq_true y)
          rw [List.length_map] at z
          omega
        have ei : i + 1 - 1 = i := by omega
        have cell := atI_getD hi il
        refine ⟨_, rfl, l, _, _, _, rfl, rfl, SqL.of h1, rfl, _, rfl, l, _, _, _, rfl, rfl, SqL.of h1, rfl, _, _, rfl, rfl, sl, _, _, _, rfl, rfl, c1, by rw [ei]; exact cell, ?_⟩
        generalize ns.getD i.toNat 0 = c
        refine ⟨_, rfl, l, _, _, _, rfl, rfl, SqL.of h1, rfl, _, _, rfl, rfl, .inr ⟨by decide, by decide⟩, _, rfl, _, _, rfl, rfl, _, _, rfl, rfl, .inl ⟨_, rfl, _, _, rfl, rfl, by show (0 : Int) < 2147483647; decide, _, rfl, l, _, 2, 2, rfl, rfl, h1, rfl, ?_⟩⟩
        have k2 := kp_put (H := H1) (l := l) (o := .lst [.ref sl, .int (i + 1), .int ((m * 48271 + c + 11) % 2147483647), .int r])
        have c2 := script_kp h1 c1 k2
        have h2 : upd H1 l (.lst [.ref sl, .int (i + 1), .int ((m * 48271 + c + 11) % 2147483647), .int r]) l = some (.lst [.ref sl, .int (i + 1), .int ((m * 48271 + c + 11) % 2147483647), .int r]) := upd_same
        refine ⟨_, rfl, _, _, rfl, rfl, ⟨by decide, by decide, by decide⟩, _, _, rfl, rfl, _, rfl, ?_⟩
        refine ite2 (fun _ => ?_) (fun _ => ?_)
        · refine ⟨_, rfl, _, rfl, _, _, rfl, rfl, ⟨n0, by omega⟩, _, rfl, l, _, 3, 3, rfl, rfl, h2, rfl, ?_⟩
          refine ⟨_, rfl, .inl ⟨_, rfl, _, rfl, _, _, rfl, rfl, n0, ?_⟩⟩
          have k3 := kp_put (H := upd H1 l (.lst [.ref sl, .int (i + 1), .int ((m * 48271 + c + 11) % 2147483647), .int r])) (l := l) (o := .lst [.ref sl, .int (i + 1), .int ((m * 48271 + c + 11) % 2147483647), .int (c / n)])
          exact q _ _ ((k1.trans k2).trans k3) ⟨i + 1, _, c / n, upd_same, script_kp h2 c2 k3, hn, by omega⟩ (ans _).1 (ans _).2
        · refine ⟨_, rfl, .inl ⟨_, rfl, _, rfl, _, _, rfl, rfl, n0, ?_⟩⟩
          exact q _ _ (k1.trans k2) ⟨i + 1, _, r, h2, c2, hn, by omega⟩ (ans _).1 (ans _).2
end
end K74

set_option Elab.async false
set_option linter.all false
set_option maxRecDepth 100000
set_option maxHeartbeats 4000000
namespace K74
open PySem PySem.Spec PyProof.Rows L2
theorem ixN_nat {n j : Nat} (h : j < n) : ixN n (j : Int) = some j := by
  unfold ixN
  rw [if_pos (by omega), if_pos (by omega), Int.toNat_natCast]
theorem tk_kp {H H' : Hp} {l : Addr} {xs : List V} (hl : H l = some (.lst xs)) (k : Kp (· = l) H H') : Tk H H' := k.tk fun a e => ⟨.lst xs, (show a = l from e) ▸ hl, True.intro⟩
theorem RowAt.tk {K : PySem.W.Frag} {R : Addr × List Int} {H H' : Hp} {l : Addr} (r : RowAt K R H l) (k : Kp (· = l) H H') : Tk H H' := by
  obtain ⟨i, m, x, h, _⟩ := r
  exact tk_kp h k
theorem kp_same {H H1 H2 : Hp} {l : Addr} (k : Kp (· = l) H H1) (s : Same H1 H2) : Kp (· = l) H H2 := fun b o hb e => s _ _ (k b o hb e)
theorem kp_over {H H1 : Hp} {l D : Addr} {o : HO} (hD : H D = none) (k : Kp (· = l) H H1) : Kp (· = l) H (upd H1 D o) := fun b u hb e => (upd_ne (ne_of_none e hD)).trans (k b u hb e)
theorem cut_from (xs : List V) (i : Nat) (h : i ≤ xs.length) : cutV xs (some (i : Int)) none = xs.drop i := by
  unfold cutV
  rw [HT.sIx_nat, HT.sIx_none, Nat.min_eq_left h, ← List.length_drop, List.take_length]
theorem cut_to (xs : List V) (i : Nat) : cutV xs none (some (i : Int)) = xs.take i := by
  unfold cutV
  rw [HT.sIx_nat, HT.sIx_none, List.drop_zero, Nat.sub_zero]
  rcases Nat.le_total i xs.length with h | h
  · rw [Nat.min_eq_left h]
  · rw [Nat.min_eq_right h, List.take_length, List.take_of_length_le h]
section
variable {P : Program} {w : World} {K : PySem.W.Frag} {mg : Str → Option Value} {base : Heap} {C C2 : Addr}
/-! ### one of some -/
abbrev sPick : Stmt := topS 50
def spPick (K : PySem.W.Frag) : Sp := fun vs H Q _ => ∃ (l t : Addr) (xs : List V) (R : Addr × List Int), vs = [.ref l, .ref t] ∧ RowAt K R H l ∧ t ≠ l ∧ H t = some (.lst xs) ∧ 0 < xs.length ∧ xs.length < 1000000 ∧ ∀ H' y, Kp (· = l) H H' → RowAt K R H' l → y ∈ xs → Q y H'
theorem scPick : FnScope ["_law_row", "_law_things"] ["_law_row", "_law_things"] (defScope sPick) := ⟨rfl, rfl, rfl, by decide +kernel, rfl, by decide +kernel, by decide +kernel⟩
theorem cPick (B : Bl mg) (c : Cal P w K mg base 1 "_law_taken" ["_law_row", "_law_many"] (spTaken K)) (A : At K mg "_law_pick" "_law_pick" sPick ["_law_row", "_law_things"]) : Cal P w K mg base 2 "_law_pick" ["_law_row", "_law_things"] (spPick K) := by
  refine A.cal scPick (fun vs H Q E h => ?_) (fun f cdv A outer s H vs Q E hr h => ?_)
  · obtain ⟨l, t, xs, R, rfl, _⟩ := h
    rfl
  · obtain ⟨l, t, xs, R, rfl, rw_, ne, ht, h0, h1, q⟩ := h
    refine ⟨_, pss_one (ps_ret (x_ixL (pv 1) (pe_cl c hr (by rfl) (pa_cons (pv 0) (pa_cons (x_len B (pv 1)) pa_nil))))), ?_⟩
    refine ⟨_, rfl, _, rfl, _, rfl, t, xs, rfl, .inl (SqL.of ht), l, _, R, rfl, rw_, by omega, by omega, fun H' x k r x0 x1 => ?_⟩
    obtain ⟨j, rfl⟩ : ∃ j : Nat, x = (j : Int) := ⟨x.toNat, by omega⟩
    have hj : j < xs.length := by omega
    exact ⟨t, xs, _, xs[j], rfl, rfl, SqL.of (k _ _ ne ht), atI_nat (List.getElem?_eq_getElem hj), q _ _ k r (List.getElem_mem hj)⟩
/-! ### all rules -/
abbrev sAllR : Stmt := topS 52
def EveryR (n : Nat) (rs : List Rl) : Prop := (∀ r ∈ rs, OkR n r) ∧ ∀ k, k < 2 * n → (wAt k, wAt k) ∈ rs
def spAllR (K : PySem.W.Frag) : Sp := fun vs H Q _ => ∃ n : Nat, vs = [.int n] ∧ n ≤ 8 ∧ ∀ H' D xs rs, Same H H' → H D = none → H' D = some (.lst xs) → Paired (IsRf K H') xs rs → EveryR n rs → xs.length ≤ 256 → Q (.ref D) H'
theorem scAllR : FnScope ["_law_many", "_law_wants", "_law_found", "_law_place", "_law_at", "_law_other"] ["_law_many"] (defScope sAllR) := ⟨rfl, rfl, rfl, by decide +kernel, rfl, by decide +kernel, by decide +kernel⟩
theorem allW_succ (n : Nat) : allW (n + 1) = allW n ++ [((n : Int), 0), ((n : Int), 1)] := by
  unfold allW
  rw [show 2 * (n + 1) = 2 * n + 1 + 1 by omega, List.range_succ, List.range_succ, List.map_append, List.map_append, List.append_assoc]
  congr 1
  show [wAt (2 * n), wAt (2 * n + 1)] = _
  unfold wAt
  rw [show 2 * n / 2 = n by omega, show 2 * n % 2 = 0 by omega, show (2 * n + 1) / 2 = n by omega, show (2 * n + 1) % 2 = 1 by omega]; rfl
theorem okR_at {n i j : Nat} (hi : i < 2 * n) (hj : j < 2 * n) (h : i ≤ j) (d : (wAt j).1 ≠ (wAt i).1 ∨ wAt j = wAt i) : OkR n (wAt i, wAt j) := by
  have oi := mem_allW.mp (List.mem_of_getElem? (allW_get hi))
  have oj := mem_allW.mp (List.mem_of_getElem? (allW_get hj))
  refine ⟨oi, oj, fun z => ?_, fun z => ?_⟩
  · have z' : ((j / 2 : Nat) : Int) < ((i / 2 : Nat) : Int) ∨ (((j / 2 : Nat) : Int) = ((i / 2 : Nat) : Int) ∧ ((j % 2 : Nat) : Int) < ((i % 2 : Nat) : Int)) := z
    omega
  · have z' : wAt j = off (wAt i) := z
    rcases d with d | d
    · exact d (by rw [z']; rfl)
    · exact off_ne _ (z'.symm.trans d)
theorem rfNew {H : Hp} {p a b : Addr} {o : Obj} {u v : Wt} (hp : H p = none) (hd : o.dict = none) (h1 : IsW K H (.ref a) u) (h2 : IsW K H (.ref b) v) : IsRf K (upd H p (.frz o (.tup [.ref a, .ref b]))) (.ref p) (u, v) :=
  ⟨⟨p, .ref a, .ref b, rfl, .inl (.inr ⟨o, upd_same⟩), h1.tk (Tk.new hp), h2.tk (Tk.new hp)⟩, p, o, _, rfl, upd_same, hd⟩
theorem cAllR (B : Bl mg) (A : At K mg "_law_all_rules" "_law_all_rules" sAllR ["_law_many"]) : Cal P w K mg base 1 "_law_all_rules" ["_law_many"] (spAllR K) := by
  refine A.cal scAllR (fun vs H Q E h => ?_) (fun f cdv A outer s H vs Q E hr h => ?_)
  · obtain ⟨n, rfl, _⟩ := h
    rfl
  · obtain ⟨n, rfl, n8, q⟩ := h
    refine ⟨_, pss_cons (ps_asg (pe_tup (pa_cons (pe_lst pa_nil) (pa_cons (pe_lst pa_nil) pa_nil))) (pg_tup rfl (pgs_cons (pg_name (i := 1) scAllR.nd rfl (Or.inr rfl)) (pgs_cons (pg_name (i := 2) scAllR.nd rfl (Or.inl rfl)) pgs_nil))))
      (pss_cons (ps_for PassesOwn.never rfl (pi_range1 (by rfl) B.range (pa_cons (pv 0) pa_nil)) (pg_name (i := 3) scAllR.nd rfl (Or.inl rfl))
        (pss_one (ps_set (i := 1) scAllR.nd rfl (Or.inr rfl) (pe_op op_cat (pv 1) (pe_lst (pa_cons (pe_tup (pa_cons (pv 3) (pa_cons pe_int pa_nil))) (pa_cons (pe_tup (pa_cons (pv 3) (pa_cons pe_int pa_nil))) pa_nil)))))))
      (pss_cons (ps_for PassesOwn.never rfl (pi_range1 (by rfl) B.range (pa_cons (x_len B (pv 1)) pa_nil)) (pg_name (i := 4) scAllR.nd rfl (Or.inr rfl))
        (pss_one (ps_set (i := 2) scAllR.nd rfl (Or.inl rfl) (pe_op op_cat (pv 2) (pe_lc (own := [("_law_other", 5)]) (g := gName 5) (tt := tOr (tTest (tOp rNe (tOp (rIxT K) (tVar 5) (tC (.int 0))) (tOp (rIxT K) (tOp (rIxL K) (tVar 1) (tVar 4)) (tC (.int 0))))) (tTest (tOp (rEqW K) (tVar 5) (tOp (rIxL K) (tVar 1) (tVar 4)))))
            (te := tTupF (tCons (tOp (rIxL K) (tVar 1) (tVar 4)) (tCons (tVar 5) tNil))) (by rfl) scAllR.nd (pi_list (pe_slice sl_list (pv 1) (po_some (pv 4)) po_none)) (blkOk_by (own := [("_law_other", 5)]) (N := ["_law_many", "_law_wants", "_law_found", "_law_place", "_law_at", "_law_other"]) (sc := defScope sAllR) (by decide +kernel))
            (fun _ _ _ _ _ => pg_name (i := 5) scAllR.nd rfl (Or.inl rfl))
            (fun _ _ _ _ _ => pts_one (PW.pt (pw_or (pt_cmpR op_ne (x_ix (pv 5) pe_int) (x_ix (x_ixL (pv 1) (pv 4)) pe_int) (nomark _)) (pw_or1 (pt_cmpR (op_eqW hr.units) (pv 5) (x_ixL (pv 1) (pv 4)) (nomark _))))))
            (fun _ _ _ _ _ => pe_tupF (pa_cons (x_ixL (pv 1) (pv 4)) (pa_cons (pv 5) pa_nil))))))))
      (pss_one (ps_ret (pv 2))))), ?_⟩
    refine ⟨Nat.zero_le _, fun l1 hl1 => ⟨Nat.zero_le _, fun l2 hl2 => ⟨by show 2 ≤ sizeLine; decide, fun T hT => ?_⟩⟩⟩
    have s0 := ((samePut hl1 (o := .lst [])).trans (samePut hl2 (o := .lst []))).trans (samePut hT (o := .tup [.ref l1, .ref l2]))
    have e1 : upd (upd (upd H l1 (.lst [])) l2 (.lst [])) T (.tup [.ref l1, .ref l2]) l1 = some (.lst []) := ((samePut hl2).trans (samePut hT)) _ _ upd_same
    have e2 : upd (upd (upd H l1 (.lst [])) l2 (.lst [])) T (.tup [.ref l1, .ref l2]) l2 = some (.lst []) := samePut hT _ _ upd_same
    have eT : upd (upd (upd H l1 (.lst [])) l2 (.lst [])) T (.tup [.ref l1, .ref l2]) T = some (.tup [.ref l1, .ref l2]) := upd_same
    have n2 : H l2 = none := by
      cases e : H l2 with
      | none => rfl
      | some o =>
        have z := samePut hl1 (o := .lst []) _ _ e
        rw [hl2] at z
        cases z
    refine ⟨T, _, rfl, SqT.of eT, rfl, _, _, rfl, _, _, rfl, rfl, ?_⟩
    clear eT
    generalize upd (upd (upd H l1 (.lst [])) l2 (.lst [])) T (.tup [.ref l1, .ref l2]) = H0 at s0 e1 e2 ⊢
    -- the wants
    let Pv : Nat → L2.St → Hp → Prop := fun i σ H' => Same H0 H' ∧ ∃ lw xs pl, σ = [some (.int (n : Nat)), some (.ref lw), some (.ref l2), pl, none, none] ∧ H' lw = some (.lst xs) ∧ Paired (IsW K H') xs (allW i)
    refine ⟨_, rfl, n, rfl, by omega, by omega, for_range (lo := 0) (n := n) Pv ⟨Same.refl _, l1, [], none, rfl, e1, .nil⟩ ?_ ?_⟩
    · rintro i σ H1 hi ⟨s1, lw, xs, pl, rfl, hw, px⟩
      have xl : xs.length = 2 * i := by rw [Paired.len px, allW_len]
      refine ⟨_, rfl, _, rfl, by show 2 ≤ sizeLine; decide, fun T1 hT1 => ⟨_, rfl, by show 2 ≤ sizeLine; decide, fun T2 hT2 => ⟨by show 2 ≤ sizeLine; decide, fun l3 hl3 => ?_⟩⟩⟩
      have w1 := (IsW.new (K := K) (x := 0 + (i : Nat)) (y := 0) hT1).tk (Tk.new hT2 (o := .tup [.int (0 + (i : Nat)), .int 1]))
      have w2 := IsW.new (K := K) (x := 0 + (i : Nat)) (y := 1) hT2
      have s2 : Same H1 (upd (upd H1 T1 (.tup [.int (0 + (i : Nat)), .int 0])) T2 (.tup [.int (0 + (i : Nat)), .int 1])) := (samePut hT1).trans (samePut hT2)
      have s3 := s2.trans (samePut hl3 (o := .lst [.ref T1, .ref T2]))
      refine ⟨lw, l3, xs, _, rfl, rfl, s3 _ _ hw, upd_same, Nat.le_of_lt (szBig (by rw [xl]; show 2 * i + 2 ≤ _; omega)), fun p hp => ⟨(s1.trans s3).trans (samePut hp), p, _, _, rfl, upd_same, ?_⟩⟩
      rw [allW_succ]
      have t4 := (Tk.new hl3 (o := .lst [.ref T1, .ref T2])).trans (Tk.new hp (o := .lst (xs ++ [.ref T1, .ref T2])))
      have t5 := (tkS s2).trans t4
      have z : (0 : Int) + (i : Nat) = (i : Nat) := Int.zero_add _
      rw [z] at w1 w2
      rw [z] at t4 t5 ⊢
      exact Paired.app (Paired.mono (fun _ _ y => IsW.tk y t5) px) (.cons (w1.tk t4) (.cons (w2.tk t4) .nil))
    · rintro σ H1 ⟨s1, lw, xs, pl, rfl, hw, px⟩
      have xl : xs.length = 2 * n := by rw [Paired.len px, allW_len]
      -- the rules
      let Pr : Nat → L2.St → Hp → Prop := fun i σ H' => Same H1 H' ∧ ∃ lf ys rs at_, σ = [some (.int (n : Nat)), some (.ref lw), some (.ref lf), pl, at_, none] ∧ H lf = none ∧ H' lf = some (.lst ys) ∧ Paired (IsRf K H') ys rs ∧ (∀ r ∈ rs, OkR n r) ∧ (∀ k, k < i → (wAt k, wAt k) ∈ rs) ∧ ys.length ≤ 16 * i
      refine ⟨_, rfl, lw, xs, rfl, .inl (SqL.of hw), xs.length, rfl, by omega, by omega, for_range (lo := 0) (n := xs.length) Pr ⟨Same.refl _, l2, [], [], none, rfl, n2, s1 _ _ e2, .nil, (fun r hr => nomatch hr), (fun k hk => absurd hk (Nat.not_lt_zero _)), Nat.le_refl _⟩ ?_ ?_⟩
      · rintro i σ H2 hi ⟨s2, lf, ys, rs, at_, rfl, nf, hf, py, okr, idr, yl⟩
        have ei : (0 : Int) + (i : Nat) = (i : Nat) := Int.zero_add _
        rw [ei]
        have hi2 : i < 2 * n := by omega
        have hw2 := s2 _ _ hw
        obtain ⟨vi, hvi⟩ : ∃ v, xs[i]? = some v := ⟨xs[i], List.getElem?_eq_getElem hi⟩
        obtain ⟨ui, hui, iwi⟩ := Paired.at1 px hvi
        rw [allW_get hi2] at hui
        cases hui
        obtain ⟨pi, rfl, spi⟩ := id iwi
        refine ⟨_, rfl, _, rfl, _, rfl, _, rfl, lw, xs, rfl, SqL.of hw2, fun lc hlc => ⟨lc, rfl, ⟨_, SqL.of upd_same⟩, fun D hD => ?_⟩⟩
        rw [cut_from xs i (by omega)] at *
        have s3 : Same H2 (upd H2 lc (.lst (xs.drop i))) := samePut hlc
        have hc3 : upd H2 lc (.lst (xs.drop i)) lc = some (.lst (xs.drop i)) := upd_same
        generalize upd H2 lc (.lst (xs.drop i)) = H3 at s3 hc3 hD ⊢
        have hw3 := s3 _ _ hw2
        let Pc : Nat → Hp → Prop := fun j H4 => Same H3 H4 ∧ ∃ zs qs, H4 D = some (.lst zs) ∧ zs.length ≤ j ∧ Paired (IsRf K H4) zs qs ∧ (∀ r ∈ qs, OkR n r) ∧ (0 < j → (wAt i, wAt i) ∈ qs)
        refine lc_it (walk_list (K := K) (a := lc) (xs := xs.drop i)) Pc ⟨samePut hD, [], [], upd_same, Nat.le_refl _, .nil, (fun r hr => nomatch hr), (fun h => absurd h (Nat.lt_irrefl _))⟩ (fun j H4 _ p => SqL.of (p.1 _ _ hc3)) ?_ ?_
        · rintro j y H9 H4 hj ⟨s4, zs, qs, d1, d2, d3, d4, d5⟩ ⟨rfl, hy⟩
          rw [List.getElem?_drop] at hy
          obtain ⟨uj, huj, iwj⟩ := Paired.at1 px hy
          have hij : i + j < 2 * n := by
            have := (List.getElem?_eq_some_iff.mp hy).1
            omega
          rw [allW_get hij] at huj
          cases huj
          obtain ⟨pj, rfl, spj⟩ := id iwj
          have t4 : Tk H1 H4 := tkS ((s2.trans s3).trans s4)
          have wi := iwi.tk t4
          have wj := iwj.tk t4
          have hw4 := s4 _ _ hw3
          have at4 : atI xs (i : Nat) = some (.ref pi) := atI_nat hvi
          have zl : zs.length < 100 := by rw [List.length_drop] at hj; omega
          have yes : ((wAt (i + j)).1 ≠ (wAt i).1 ∨ wAt (i + j) = wAt i) → tTupF (tCons (tOp (rIxL K) (tVar 1) (tVar 4)) (tCons (tVar 5) tNil)) [some (.int (n : Nat)), some (.ref lw), some (.ref lf), pl, some (.int (i : Nat)), some (.ref pj)] H4 fun y H5 => ∃ acc, H5 D = some (.lst acc) ∧ acc.length < sizeLine ∧ Pc (j + 1) (upd H5 D (.lst (acc ++ [y]))) := fun d => by
            refine ⟨_, rfl, _, rfl, lw, xs, _, _, rfl, rfl, SqL.of hw4, at4, _, rfl, by show 2 ≤ sizeLine; decide, fun p o hp ho => ?_⟩
            have s5 : Same H4 (upd H4 p (.frz o (.tup [.ref pi, .ref pj]))) := samePut hp
            have d5' := s5 _ _ d1
            have t6 := Tk.write (o := .lst (zs ++ [.ref p])) d5' True.intro
            refine ⟨zs, d5', szBig (by omega), sameOver hD (s4.trans s5), _, qs ++ [(wAt i, wAt (i + j))], upd_same, by rw [List.length_append]; exact Nat.succ_le_succ d2, Paired.app (Paired.mono (fun _ _ y => IsRf.tk (IsRf.tk y (tkS s5)) t6) d3) (Paired.one ((rfNew hp ho wi wj).tk t6)), fun r hr' => ?_, fun _ => ?_⟩
            · rcases List.mem_append.mp hr' with m | m
              · exact d4 r m
              · rw [List.mem_singleton.mp m]
                exact okR_at hi2 hij (by omega) d
            · rcases Nat.eq_zero_or_pos j with z | z
              · subst z
                exact List.mem_append_right _ (List.mem_singleton.mpr rfl)
              · exact List.mem_append_left _ (d5 z)
          refine ⟨rfl, _, rfl, pj, _, _, _, rfl, rfl, t4.sq spj, rfl, _, rfl, _, rfl, lw, xs, _, _, rfl, rfl, SqL.of hw4, at4, pi, _, _, _, rfl, rfl, t4.sq spi, rfl, rfl, _, rfl, ?_⟩
          rw [dec_int]
          refine ite2 (fun h1 => ?_) (fun h1 => ?_)
          · have ne : (wAt (i + j)).1 ≠ (wAt i).1 := fun z => by
              rw [decide_eq_true z] at h1
              exact absurd h1 (by decide)
            exact yes (.inl ne)
          · refine ⟨_, rfl, _, rfl, _, rfl, lw, xs, _, _, rfl, rfl, SqL.of hw4, at4, _, _, wj, wi, _, rfl, ?_⟩
            refine ite2 (fun h2 => yes (.inr (of_decide_eq_true h2))) (fun h2 => ?_)
            refine ⟨s4, zs, qs, d1, Nat.le_succ_of_le d2, d3, d4, fun _ => ?_⟩
            rcases Nat.eq_zero_or_pos j with z | z
            · subst z
              exact absurd (decide_eq_true rfl) h2
            · exact d5 z
        · rintro H4 ⟨s4, zs, qs, d1, d2, d3, d4, d5⟩
          rw [List.length_drop] at d2 d5
          have s24 := s3.trans s4
          have hf4 := s24 _ _ hf
          refine ⟨lf, D, ys, zs, rfl, rfl, hf4, d1, Nat.le_of_lt (szBig (by omega)), fun p hp => ⟨(s2.trans s24).trans (samePut hp), p, _, rs ++ qs, _, rfl, ?_, upd_same, ?_, fun r hr' => ?_, fun k hk => ?_, ?_⟩⟩
          · cases e : H p with
            | none => rfl
            | some o =>
              have z := (((s0.trans s1).trans s2).trans s24) _ _ e
              rw [hp] at z
              cases z
          · have t5 := Tk.new hp (o := .lst (ys ++ zs))
            exact Paired.app (Paired.mono (fun _ _ y => IsRf.tk y ((tkS s24).trans t5)) py) (Paired.mono (fun _ _ y => IsRf.tk y t5) d3)
          · rcases List.mem_append.mp hr' with m | m
            · exact okr r m
            · exact d4 r m
          · rcases Nat.lt_or_ge k i with z | z
            · exact List.mem_append_left _ (idr k z)
            · have : k = i := by omega
              subst this
              exact List.mem_append_right _ (d5 (by omega))
          · rw [List.length_append]; omega
      · rintro σ H2 ⟨s2, lf, ys, rs, at_, rfl, nf, hf, py, okr, idr, yl⟩
        rw [xl] at idr yl
        exact ⟨_, rfl, q H2 lf ys rs ((s0.trans s1).trans s2) nf hf py ⟨okr, idr⟩ (by omega)⟩
end
end K74

set_option Elab.async false
set_option linter.all false
set_option maxRecDepth 100000
set_option maxHeartbeats 4000000
namespace K74
open PySem PySem.Spec PyProof.Rows L2
theorem rows_next {i : Nat} {rs : List (List Int)} (h : ∀ r, r ∈ rs ↔ Row i r) (r : List Int) : r ∈ rs.map (· ++ [0]) ++ rs.map (· ++ [1]) ↔ Row (i + 1) r := by
  rw [← mem_allRows, List.mem_append, List.mem_map, List.mem_map]
  show _ ↔ r ∈ next2 (allRows i)
  unfold next2
  rw [List.mem_flatMap]
  constructor
  · rintro (⟨q, hq, rfl⟩ | ⟨q, hq, rfl⟩)
    · exact ⟨q, mem_allRows.mpr ((h q).mp hq), List.mem_cons_self⟩
    · exact ⟨q, mem_allRows.mpr ((h q).mp hq), List.mem_cons_of_mem _ List.mem_cons_self⟩
  · rintro ⟨q, hq, hr⟩
    have hq' := (h q).mpr (mem_allRows.mp hq)
    rcases List.mem_cons.mp hr with e | e
    · exact .inl ⟨q, hq', e.symm⟩
    · exact .inr ⟨q, hq', (List.mem_singleton.mp e).symm⟩
theorem pairs_of {α : Type} {F : V → α → Prop} (ref : ∀ v a, F v a → ∃ p : Addr, v = .ref p) : ∀ {ys : List V} {rs : List α}, Paired F ys rs → ∃ L : List (Addr × α), ys = L.map (fun e => V.ref e.1) ∧ rs = L.map (·.2) ∧ ∀ e ∈ L, F (.ref e.1) e.2
  | _, _, .nil => ⟨[], rfl, rfl, fun e he => nomatch he⟩
  | _, _, .cons h t => by
    obtain ⟨p, rfl⟩ := ref _ _ h
    obtain ⟨L, e1, e2, e3⟩ := pairs_of ref t
    exact ⟨(p, _) :: L, by rw [e1]; rfl, by rw [e2]; rfl, fun e he => by
      rcases List.mem_cons.mp he with z | z
      · rw [z]; exact h
      · exact e3 e z⟩
theorem paired_of {α : Type} {F : V → α → Prop} : ∀ {L : List (Addr × α)}, (∀ e ∈ L, F (.ref e.1) e.2) → Paired F (L.map fun e => V.ref e.1) (L.map (·.2))
  | [], _ => .nil
  | e :: L, h => .cons (h e List.mem_cons_self) (paired_of fun g hg => h g (List.mem_cons_of_mem _ hg))
section
variable {P : Program} {w : World} {K : PySem.W.Frag} {mg : Str → Option Value} {base : Heap} {C C2 : Addr}
/-- row + (v,) -/
theorem add_one {σ : L2.St} {H : Hp} {x : V} {r : List Int} {v : Int} {Q : VK} (ix : IsTi K H x r) (hl : r.length ≤ 100) (q : ∀ y H', Same H H' → IsTi K H' y (r ++ [v]) → Q y H') : tOp (rCatA K) (fun _ H Q => Q x H) (tTup (tCons (tC (.int v)) tNil)) σ H Q := by
  obtain ⟨a, rfl, sa⟩ := ix
  refine ⟨by show 1 ≤ sizeLine; decide, fun T hT => ?_⟩
  have s1 : Same H (upd H T (.tup [.int v])) := samePut hT
  refine ⟨a, T, _, _, rfl, rfl, (tkS s1).sq sa, SqT.of upd_same, ?_, fun e => ?_, (fun _ e => nomatch e), fun _ _ p hp => ?_⟩
  · rw [List.length_map]
    exact Nat.le_of_lt (szBig (by show r.length + 1 ≤ _; omega))
  · have er : r = [] := List.map_eq_nil_iff.mp e
    subst er
    exact q _ _ s1 ⟨T, rfl, SqT.of upd_same⟩
  · refine q _ _ (s1.trans (samePut hp)) ⟨p, rfl, ?_⟩
    rw [List.map_append]
    exact SqT.of upd_same
abbrev sRows : Stmt := topS 53
def RowsAt (K : PySem.W.Frag) (H : Hp) (D : Addr) (ok : List Int → Prop) : Prop := ∃ ys rs, H D = some (.lst ys) ∧ Paired (IsTi K H) ys rs ∧ (∀ r, r ∈ rs ↔ ok r) ∧ ys.length ≤ 256
def spRows (K : PySem.W.Frag) : Sp := fun vs H Q _ => ∃ n : Nat, vs = [.int n] ∧ 1 ≤ n ∧ n ≤ 8 ∧ ∀ H' D, Same H H' → H D = none → RowsAt K H' D (Row n) → Q (.ref D) H'
theorem scRows : FnScope ["_law_many", "_law_found", "_law_place", "_law_row"] ["_law_many"] (defScope sRows) := ⟨rfl, rfl, rfl, by decide +kernel, rfl, by decide +kernel, by decide +kernel⟩
theorem cRows (B : Bl mg) (A : At K mg "_law_rows" "_law_rows" sRows ["_law_many"]) : Cal P w K mg base 1 "_law_rows" ["_law_many"] (spRows K) := by
  refine A.cal scRows (fun vs H Q E h => ?_) (fun f cdv A outer s H vs Q E hr h => ?_)
  · obtain ⟨n, rfl, _⟩ := h
    rfl
  · obtain ⟨n, rfl, n1, n8, q⟩ := h
    refine ⟨_, pss_cons (ps_set (i := 1) scRows.nd rfl (Or.inl rfl) (pe_lst (pa_cons (pe_tup pa_nil) pa_nil)))
      (pss_cons (ps_for PassesOwn.never rfl (pi_range1 (by rfl) B.range (pa_cons (pv 0) pa_nil)) (pg_name (i := 2) scRows.nd rfl (Or.inl rfl))
        (pss_one (ps_set (i := 1) scRows.nd rfl (Or.inl rfl) (pe_op op_cat
          (pe_lc (own := [("_law_row", 3)]) (g := gName 3) (tt := tYes) (te := tOp (rCatA K) (tVar 3) (tTup (tCons (tC (.int 0)) tNil))) (by rfl) scRows.nd (pi_list (pv 1)) (blkOk_by (own := [("_law_row", 3)]) (N := ["_law_many", "_law_found", "_law_place", "_law_row"]) (sc := defScope sRows) (by decide +kernel))
            (fun _ _ _ _ _ => pg_name (i := 3) scRows.nd rfl (Or.inl rfl)) (fun _ _ _ _ _ => pts_nil) (fun _ _ _ _ _ => pe_op op_catA (pv 3) (pe_tup (pa_cons pe_int pa_nil))))
          (pe_lc (own := [("_law_row", 3)]) (g := gName 3) (tt := tYes) (te := tOp (rCatA K) (tVar 3) (tTup (tCons (tC (.int 1)) tNil))) (by rfl) scRows.nd (pi_list (pv 1)) (blkOk_by (own := [("_law_row", 3)]) (N := ["_law_many", "_law_found", "_law_place", "_law_row"]) (sc := defScope sRows) (by decide +kernel))
            (fun _ _ _ _ _ => pg_name (i := 3) scRows.nd rfl (Or.inl rfl)) (fun _ _ _ _ _ => pts_nil) (fun _ _ _ _ _ => pe_op op_catA (pv 3) (pe_tup (pa_cons pe_int pa_nil))))))))
      (pss_one (ps_ret (pe_callB (cr_sortL ktL (hu100 hr)) (by rfl) B.sorted boot_sorted (pa_cons (pv 1) pa_nil))))), ?_⟩
    refine ⟨Nat.zero_le _, fun t ht => ⟨by show 1 ≤ sizeLine; decide, fun l hl => ?_⟩⟩
    have s0 : Same H (upd (upd H t (.tup [])) l (.lst [.ref t])) := (samePut ht).trans (samePut hl)
    let Pv : Nat → L2.St → Hp → Prop := fun i σ H' => Same H H' ∧ ∃ D ys rs pl, σ = [some (.int (n : Nat)), some (.ref D), pl, none] ∧ H' D = some (.lst ys) ∧ Paired (IsTi K H') ys rs ∧ (∀ r, r ∈ rs ↔ Row i r) ∧ rs.length = 2 ^ i
    refine ⟨_, rfl, n, rfl, by omega, by omega, for_range (lo := 0) (n := n) Pv ⟨s0, l, [.ref t], [[]], none, rfl, upd_same, .cons ⟨t, rfl, SqT.of ((upd_ne (ne_of_none upd_same hl)).trans upd_same)⟩ .nil, fun r => ?_, rfl⟩ ?_ ?_⟩
    · rw [List.mem_singleton]
      exact ⟨fun e => by rw [e]; exact ⟨rfl, fun x hx => nomatch hx⟩, fun e => List.eq_nil_of_length_eq_zero e.1⟩
    · rintro i σ H1 hi ⟨s1, D0, ys, rs, pl, rfl, hD0, py, mem, len⟩
      have yl : ys.length = 2 ^ i := by rw [Paired.len py, len]
      have y8 : 2 ^ i ≤ 256 := Nat.le_trans (Nat.pow_le_pow_right (by decide) (show i ≤ 8 by omega)) (by decide)
      have rl : ∀ r ∈ rs, r.length ≤ 100 := fun r hr' => by rw [((mem r).mp hr').1]; omega
      let F : Int → Nat → V → Hp → Prop := fun v k y H' => ∃ r, (rs.map (· ++ [v]))[k]? = some r ∧ IsTi K H' y r
      have kf : ∀ v, ByT (F v) := fun v k y Ha Hb t ⟨r, e, h⟩ => ⟨r, e, h.tk t⟩
      refine ⟨_, rfl, D0, rfl, ⟨ys, SqL.of hD0⟩, fun D1 hD1 => ?_⟩
      refine lc_it (walk_list (K := K) (a := D0) (xs := ys)) (PvAll (F 0) H1 D1) (PvAll.zero hD1) (fun i H' _ p => SqL.of (p.1 _ _ hD0)) ?_ ?_
      · rintro k x H9 H2 hk p2 ⟨rfl, hx⟩
        obtain ⟨r, hr', ir⟩ := Paired.at1 py hx
        exact ⟨rfl, _, rfl, add_one (σ := []) (ir.tk (tkS p2.1)) (rl r (List.mem_of_getElem? hr')) fun y H3 s3 iy => PvAll.next (kf 0) hD1 p2 s3 ⟨_, by rw [List.getElem?_map, hr']; rfl, iy⟩ (szBig (by omega))⟩
      · rintro H2 ⟨s2, za, hza, zal, hz⟩
        have pa_ : Paired (IsTi K H2) za (rs.map (· ++ [0])) := Paired.ofIx (by rw [zal, yl, List.length_map, len]) fun k y hy => hz k y hy
        have hD2 := s2 _ _ hD0
        refine ⟨_, rfl, D0, rfl, ⟨ys, SqL.of hD2⟩, fun D3 hD3 => ?_⟩
        refine lc_it (walk_list (K := K) (a := D0) (xs := ys)) (PvAll (F 1) H2 D3) (PvAll.zero hD3) (fun i H' _ p => SqL.of (p.1 _ _ hD2)) ?_ ?_
        · rintro k x H9 H4 hk p4 ⟨rfl, hx⟩
          obtain ⟨r, hr', ir⟩ := Paired.at1 py hx
          exact ⟨rfl, _, rfl, add_one (σ := []) (ir.tk (tkS (s2.trans p4.1))) (rl r (List.mem_of_getElem? hr')) fun y H3 s3 iy => PvAll.next (kf 1) hD3 p4 s3 ⟨_, by rw [List.getElem?_map, hr']; rfl, iy⟩ (szBig (by omega))⟩
        · rintro H4 ⟨s4, zb, hzb, zbl, hz'⟩
          have pb_ : Paired (IsTi K H4) zb (rs.map (· ++ [1])) := Paired.ofIx (by rw [zbl, yl, List.length_map, len]) fun k y hy => hz' k y hy
          refine ⟨D1, D3, za, zb, rfl, rfl, s4 _ _ hza, hzb, Nat.le_of_lt (szBig (by omega)), fun p hp => ⟨((s1.trans s2).trans s4).trans (samePut hp), p, za ++ zb, _, _, rfl, upd_same, ?_, rows_next mem, ?_⟩⟩
          · have t5 := Tk.new hp (o := .lst (za ++ zb))
            exact Paired.app (Paired.mono (fun _ _ y => IsTi.tk y ((tkS s4).trans t5)) pa_) (Paired.mono (fun _ _ y => IsTi.tk y t5) pb_)
          · rw [List.length_append, List.length_map, List.length_map, len, Nat.pow_succ]; omega
    · rintro σ H1 ⟨s1, D0, ys, rs, pl, rfl, hD0, py, mem, len⟩
      obtain ⟨L, rfl, rfl, hL⟩ := pairs_of (fun v a h => let ⟨p, e, _⟩ := h; ⟨p, e⟩) py
      refine ⟨_, rfl, D0, L, rfl, SqL.of hD0, fun e he => ⟨?_, hL e he⟩, fun L' p pm sr hp => ?_⟩
      · have := ((mem e.2).mp (List.mem_map.mpr ⟨e, he, rfl⟩)).1
        intro z
        rw [z] at this
        have : (0 : Nat) = n := this
        omega
      · refine q _ p (s1.trans (samePut hp)) ?_ ⟨_, L'.map (·.2), upd_same, paired_of fun e he => (hL e (pm.mem_iff.mp he)).tk (Tk.new hp), fun r => ?_, ?_⟩
        · cases e : H p with
          | none => rfl
          | some o =>
            have z := s1 _ _ e
            rw [hp] at z
            cases z
        · rw [(pm.map (·.2)).mem_iff]; exact mem r
        · rw [List.length_map, pm.length_eq]
          rw [List.length_map] at len
          rw [len]
          exact Nat.le_trans (Nat.pow_le_pow_right (by decide) n8) (by decide)
/-! ### keeps -/
abbrev sKeeps : Stmt := topS 54
theorem scKeeps : FnScope ["_law_rules", "_law_row", "_law_one", "_law_other"] ["_law_rules", "_law_row"] (defScope sKeeps) := ⟨rfl, rfl, rfl, by decide +kernel, rfl, by decide +kernel, by decide +kernel⟩
def spKeepsT (K : PySem.W.Frag) : Sp := fun vs H Q _ => ∃ (v z : V) (told : List Rl) (ns : List Int), vs = [v, z] ∧ IsTl K H v told ∧ IsTi K H z ns ∧ (∀ r ∈ told, OkW ns.length r.1 ∧ OkW ns.length r.2) ∧ Q (.bl (told.all (keptR ns))) H
def spKeepsL (K : PySem.W.Frag) : Sp := fun vs H Q _ => ∃ (l : Addr) (z x : V) (r : Rl) (ns : List Int), vs = [.ref l, z] ∧ H l = some (.lst [x]) ∧ IsR K H x r ∧ IsTi K H z ns ∧ OkW ns.length r.1 ∧ OkW ns.length r.2 ∧ Q (.bl (keptR ns r)) H
theorem notKept {ns : List Int} {r : Rl} : ((!decide (ns.getD r.1.1.toNat 0 = r.1.2)) = true ∧ (!decide (ns.getD r.2.1.toNat 0 = r.2.2)) = true) ↔ keptR ns r = false := by
  unfold keptR hasR
  cases decide (ns.getD r.1.1.toNat 0 = r.1.2) <;> cases decide (ns.getD r.2.1.toNat 0 = r.2.2) <;> simp
theorem cKeepsT (A : At K mg "_law_keeps" "_law_keeps" sKeeps ["_law_rules", "_law_row"]) : Cal P w K mg base 1 "_law_keeps" ["_law_rules", "_law_row"] (spKeepsT K) := by
  refine A.cal scKeeps (fun vs H Q E h => ?_) (fun f cdv A outer s H vs Q E hr h => ?_)
  · obtain ⟨v, z, told, ns, rfl, _⟩ := h
    rfl
  · obtain ⟨v, z, told, ns, rfl, ⟨a, xs, rfl, sa, pr⟩, ⟨b, rfl, sb⟩, ok, q⟩ := h
    refine ⟨_, pss_cons (ps_for PassesOwn.never rfl (pi_tup (pv 0)) (pg_tup rfl (pgs_cons (pg_name (i := 2) scKeeps.nd rfl (Or.inl rfl)) (pgs_cons (pg_name (i := 3) scKeeps.nd rfl (Or.inl rfl)) pgs_nil)))
        (pss_one (ps_if (PW.pt (pw_and (pt_cmpR op_ne (x_ix (pv 1) (x_ix (pv 2) pe_int)) (x_ix (pv 2) pe_int) (nomark _)) (pw_and1 (pt_cmpR op_ne (x_ix (pv 1) (x_ix (pv 3) pe_int)) (x_ix (pv 3) pe_int) (nomark _))))) (pss_one (ps_ret pe_bl)) pss_nil)))
      (pss_one (ps_ret pe_bl)), ?_⟩
    let Pv : Nat → L2.St → Hp → Prop := fun i σ H' => H' = H ∧ (∃ u v, σ = [some (.ref a), some (.ref b), u, v]) ∧ (told.take i).all (keptR ns) = true
    refine ⟨_, rfl, a, rfl, ⟨_, sa⟩, for_tup (K := K) (a := a) (xs := xs) Pv ⟨rfl, ⟨none, none, rfl⟩, rfl⟩ (fun i σ H' _ p => by rw [p.1]; exact sa) ?_ ?_⟩
    · rintro i x σ H' hx ⟨rfl, ⟨u, v, rfl⟩, ks⟩
      obtain ⟨r, hr', ⟨⟨c, x1, x2, rfl, sc, ⟨c1, rfl, s1⟩, ⟨c2, rfl, s2⟩⟩, _⟩⟩ := Paired.at1 pr hx
      have o := ok r (List.mem_of_getElem? hr')
      have tk1 : told.take (i + 1) = told.take i ++ [r] := by rw [List.take_succ, hr']; rfl
      have all1 : (told.take (i + 1)).all (keptR ns) = keptR ns r := by rw [tk1, List.all_append, ks]; simp
      refine ⟨c, _, rfl, sc, rfl, _, _, rfl, _, _, rfl, rfl, _, rfl, _, rfl, c1, _, _, _, rfl, rfl, s1, rfl, b, _, _, _, rfl, rfl, sb, atI_getD o.1.1 o.1.2.1, _, rfl, c1, _, _, _, rfl, rfl, s1, rfl, rfl, _, rfl, ?_⟩
      rw [dec_int]
      refine ite2 (fun h1 => ?_) (fun h1 => ⟨rfl, ⟨_, _, rfl⟩, ?_⟩)
      · refine ⟨_, rfl, _, rfl, c2, _, _, _, rfl, rfl, s2, rfl, b, _, _, _, rfl, rfl, sb, atI_getD o.2.1 o.2.2.1, _, rfl, c2, _, _, _, rfl, rfl, s2, rfl, rfl, _, rfl, ?_⟩
        rw [dec_int]
        refine ite2 (fun h2 => ?_) (fun h2 => ⟨rfl, ⟨_, _, rfl⟩, ?_⟩)
        · have nk := notKept.mp ⟨h1, h2⟩
          have e : told.all (keptR ns) = false := by
            cases z : told.all (keptR ns) with
            | false => rfl
            | true =>
              have := List.all_eq_true.mp z r (List.mem_of_getElem? hr')
              rw [nk] at this
              cases this
          rw [e] at q
          exact q
        · rw [all1]
          cases z : keptR ns r with
          | true => rfl
          | false => exact absurd (notKept.mpr z).2 h2
      · rw [all1]
        cases z : keptR ns r with
        | true => rfl
        | false => exact absurd (notKept.mpr z).1 h1
    · rintro σ H' ⟨rfl, ⟨u, v, rfl⟩, ks⟩
      rw [Paired.len pr, List.take_length] at ks
      rw [ks] at q
      exact q
theorem cKeepsL (A : At K mg "_law_keeps" "_law_keeps" sKeeps ["_law_rules", "_law_row"]) : Cal P w K mg base 1 "_law_keeps" ["_law_rules", "_law_row"] (spKeepsL K) := by
  refine A.cal scKeeps (fun vs H Q E h => ?_) (fun f cdv A outer s H vs Q E hr h => ?_)
  · obtain ⟨l, z, x, r, ns, rfl, _⟩ := h
    rfl
  · obtain ⟨l, z, x, r, ns, rfl, hl, ⟨c, x1, x2, rfl, sc, ⟨c1, rfl, s1⟩, ⟨c2, rfl, s2⟩⟩, ⟨b, rfl, sb⟩, o1, o2, q⟩ := h
    refine ⟨_, pss_cons (ps_for PassesOwn.never rfl (pi_list (pv 0)) (pg_tup rfl (pgs_cons (pg_name (i := 2) scKeeps.nd rfl (Or.inl rfl)) (pgs_cons (pg_name (i := 3) scKeeps.nd rfl (Or.inl rfl)) pgs_nil)))
        (pss_one (ps_if (PW.pt (pw_and (pt_cmpR op_ne (x_ix (pv 1) (x_ix (pv 2) pe_int)) (x_ix (pv 2) pe_int) (nomark _)) (pw_and1 (pt_cmpR op_ne (x_ix (pv 1) (x_ix (pv 3) pe_int)) (x_ix (pv 3) pe_int) (nomark _))))) (pss_one (ps_ret pe_bl)) pss_nil)))
      (pss_one (ps_ret pe_bl)), ?_⟩
    let Pv : Nat → L2.St → Hp → Prop := fun i σ H' => H' = H ∧ (∃ u v, σ = [some (.ref l), some (.ref b), u, v]) ∧ (0 < i → keptR ns r = true)
    refine ⟨_, rfl, l, rfl, ⟨_, SqL.of hl⟩, for_list (K := K) (a := l) (xs := [.ref c]) Pv ⟨rfl, ⟨none, none, rfl⟩, fun h => absurd h (Nat.lt_irrefl _)⟩ (fun i σ H' _ p => by rw [p.1]; exact SqL.of hl) ?_ ?_⟩
    · rintro i x σ H' hx ⟨rfl, ⟨u, v, rfl⟩, ks⟩
      obtain rfl : x = .ref c := List.mem_singleton.mp (List.mem_of_getElem? hx)
      refine ⟨c, _, rfl, sc, rfl, _, _, rfl, _, _, rfl, rfl, _, rfl, _, rfl, c1, _, _, _, rfl, rfl, s1, rfl, b, _, _, _, rfl, rfl, sb, atI_getD o1.1 o1.2.1, _, rfl, c1, _, _, _, rfl, rfl, s1, rfl, rfl, _, rfl, ?_⟩
      rw [dec_int]
      refine ite2 (fun h1 => ?_) (fun h1 => ⟨rfl, ⟨_, _, rfl⟩, fun _ => ?_⟩)
      · refine ⟨_, rfl, _, rfl, c2, _, _, _, rfl, rfl, s2, rfl, b, _, _, _, rfl, rfl, sb, atI_getD o2.1 o2.2.1, _, rfl, c2, _, _, _, rfl, rfl, s2, rfl, rfl, _, rfl, ?_⟩
        rw [dec_int]
        refine ite2 (fun h2 => ?_) (fun h2 => ⟨rfl, ⟨_, _, rfl⟩, fun _ => ?_⟩)
        · rw [notKept.mp ⟨h1, h2⟩] at q
          exact q
        · cases z : keptR ns r with
          | true => rfl
          | false => exact absurd (notKept.mpr z).2 h2
      · cases z : keptR ns r with
        | true => rfl
        | false => exact absurd (notKept.mpr z).1 h1
    · rintro σ H' ⟨rfl, ⟨u, v, rfl⟩, ks⟩
      rw [ks (Nat.succ_pos _)] at q
      exact q
end
end K74

set_option Elab.async false
set_option linter.all false
set_option maxRecDepth 100000
set_option maxHeartbeats 4000000
namespace K74
open PySem PySem.Spec PyProof.Rows L2
/-! ### what a comprehension keeps of a list -/
def PvKeep {α : Type} (F : Hp → V → α → Prop) (keep : α → Prop) (rs : List α) (H1 : Hp) (D : Addr) (i : Nat) (H2 : Hp) : Prop := Same H1 H2 ∧ ∃ zs qs, H2 D = some (.lst zs) ∧ zs.length ≤ i ∧ Paired (F H2) zs qs ∧ ∀ r, r ∈ qs ↔ r ∈ rs.take i ∧ keep r
section
variable {α : Type} {F : Hp → V → α → Prop} {keep : α → Prop} {rs : List α} {H1 : Hp} {D : Addr}
theorem PvKeep.zero (hD : H1 D = none) : PvKeep F keep rs H1 D 0 (upd H1 D (.lst [])) := ⟨samePut hD, [], [], upd_same, Nat.le_refl _, .nil, fun r => ⟨(fun h => nomatch h), (fun h => nomatch h.1)⟩⟩
theorem PvKeep.yes {i : Nat} {H2 H3 : Hp} {v : V} {r : α} (tk : ∀ {H H' : Hp} {v : V} {a : α}, Tk H H' → F H v a → F H' v a) (hD : H1 D = none) (p : PvKeep F keep rs H1 D i H2) (s : Same H2 H3) (hr : rs[i]? = some r) (f : F H3 v r) (k : keep r) (hi : i < sizeLine) :
    ∃ acc, H3 D = some (.lst acc) ∧ acc.length < sizeLine ∧ PvKeep F keep rs H1 D (i + 1) (upd H3 D (.lst (acc ++ [v]))) := by
  obtain ⟨s1, zs, qs, e, l, pq, mem⟩ := p
  have e3 := s _ _ e
  have t := Tk.write (o := .lst (zs ++ [v])) e3 True.intro
  refine ⟨zs, e3, Nat.lt_of_le_of_lt l hi, sameOver hD (s1.trans s), _, qs ++ [r], upd_same, by rw [List.length_append]; exact Nat.succ_le_succ l, Paired.app (Paired.mono (fun _ _ y => tk t (tk (tkS s) y)) pq) (Paired.one (tk t f)), fun x => ?_⟩
  rw [List.mem_append, List.mem_singleton, mem, List.take_succ, hr]
  show _ ↔ x ∈ rs.take i ++ [r] ∧ keep x
  rw [List.mem_append, List.mem_singleton]
  constructor
  · rintro (⟨a, b⟩ | rfl)
    · exact ⟨.inl a, b⟩
    · exact ⟨.inr rfl, k⟩
  · rintro ⟨a | a, b⟩
    · exact .inl ⟨a, b⟩
    · exact .inr a
theorem PvKeep.no {i : Nat} {H2 H3 : Hp} {r : α} (tk : ∀ {H H' : Hp} {v : V} {a : α}, Tk H H' → F H v a → F H' v a) (p : PvKeep F keep rs H1 D i H2) (s : Same H2 H3) (hr : rs[i]? = some r) (k : ¬ keep r) : PvKeep F keep rs H1 D (i + 1) H3 := by
  obtain ⟨s1, zs, qs, e, l, pq, mem⟩ := p
  refine ⟨s1.trans s, zs, qs, s _ _ e, Nat.le_succ_of_le l, Paired.mono (fun _ _ y => tk (tkS s) y) pq, fun x => ?_⟩
  rw [mem, List.take_succ, hr]
  show _ ↔ x ∈ rs.take i ++ [r] ∧ keep x
  rw [List.mem_append, List.mem_singleton]
  constructor
  · rintro ⟨a, b⟩
    exact ⟨.inl a, b⟩
  · rintro ⟨a | a, b⟩
    · exact ⟨a, b⟩
    · rw [a] at b; exact absurd b k
end
section
variable {P : Program} {w : World} {K : PySem.W.Frag} {mg : Str → Option Value} {base : Heap} {C C2 : Addr}
abbrev sKept : Stmt := topS 55
def spKept (K : PySem.W.Frag) : Sp := fun vs H Q _ => ∃ (v : V) (n : Nat) (told : List Rl), vs = [.int n, v] ∧ 1 ≤ n ∧ n ≤ 8 ∧ IsTl K H v told ∧ (∀ r ∈ told, OkW n r.1 ∧ OkW n r.2) ∧ ∀ H' D, Same H H' → RowsAt K H' D (fun r => Row n r ∧ told.all (keptR r) = true) → Q (.ref D) H'
theorem scKept : FnScope ["_law_many", "_law_rules", "_law_row"] ["_law_many", "_law_rules"] (defScope sKept) := ⟨rfl, rfl, rfl, by decide +kernel, rfl, by decide +kernel, by decide +kernel⟩
theorem cKept (c1 : Cal P w K mg base 1 "_law_rows" ["_law_many"] (spRows K)) (c2 : Cal P w K mg base 1 "_law_keeps" ["_law_rules", "_law_row"] (spKeepsT K)) (A : At K mg "_law_kept" "_law_kept" sKept ["_law_many", "_law_rules"]) : Cal P w K mg base 2 "_law_kept" ["_law_many", "_law_rules"] (spKept K) := by
  refine A.cal scKept (fun vs H Q E h => ?_) (fun f cdv A outer s H vs Q E hr h => ?_)
  · obtain ⟨v, n, told, rfl, _⟩ := h
    rfl
  · obtain ⟨v, n, told, rfl, n1, n8, ht, ok, q⟩ := h
    refine ⟨_, pss_one (ps_ret (pe_lc (own := [("_law_row", 2)]) (g := gName 2) (tt := tB (tCall (spKeepsT K) [] E0 (tCons (tVar 1) (tCons (tVar 2) tNil)))) (by rfl) scKept.nd (pi_list (pe_cl c1 hr (by rfl) (pa_cons (pv 0) pa_nil)))
      (blkOk_by (own := [("_law_row", 2)]) (N := ["_law_many", "_law_rules", "_law_row"]) (sc := defScope sKept) (by decide +kernel)) (fun _ _ _ _ _ => pg_name (i := 2) scKept.nd rfl (Or.inl rfl)) (fun _ _ _ _ _ => pts_one (pt_val (pe_cl c2 hr (by rfl) (pa_cons (pv 1) (pa_cons (pv 2) pa_nil))))) (fun _ _ _ _ _ => pv 2))), ?_⟩
    refine ⟨_, rfl, n, rfl, n1, n8, fun H1 D1 s1 _ ⟨ys, rs, e1, py, mem, yl⟩ => ⟨D1, rfl, ⟨_, SqL.of e1⟩, fun D hD => ?_⟩⟩
    have tk : ∀ {H H' : Hp} {v : V} {a : List Int}, Tk H H' → IsTi K H v a → IsTi K H' v a := fun t y => IsTi.tk y t
    refine lc_it (walk_list (K := K) (a := D1) (xs := ys)) (PvKeep (IsTi K) (fun r => told.all (keptR r) = true) rs H1 D) (PvKeep.zero hD) (fun i H' _ p => SqL.of (p.1 _ _ e1)) ?_ ?_
    · rintro i x H9 H2 hi p2 ⟨rfl, hx⟩
      obtain ⟨r, hr', ir⟩ := Paired.at1 py hx
      have ir2 := ir.tk (tkS p2.1)
      have rowr := (mem r).mp (List.mem_of_getElem? hr')
      refine ⟨rfl, _, rfl, _, rfl, v, x, told, r, rfl, ht.tk (tkS (s1.trans p2.1)), ir2, by rw [rowr.1]; exact ok, _, rfl, ?_⟩
      refine ite2 (fun h => ?_) (fun h => PvKeep.no tk p2 (Same.refl _) hr' h)
      exact ⟨_, rfl, PvKeep.yes tk hD p2 (Same.refl _) hr' ir2 h (szBig (by omega))⟩
    · rintro H2 ⟨s2, zs, qs, e, l, pq, m2⟩
      refine q H2 D (s1.trans s2) ⟨zs, qs, e, pq, fun r => ?_, by omega⟩
      rw [m2, Paired.len py, List.take_length, mem]
end
end K74

set_option Elab.async false
set_option linter.all false
set_option maxRecDepth 100000
set_option maxHeartbeats 4000000
namespace K74
open PySem PySem.Spec PyProof.Rows L2
theorem ite_no {a b : Int} {p q : Prop} (h : a ≠ b) (x : q) : if decide (V.int a = V.int b) = true then p else q := by
  rw [if_neg]
  · exact x
  · intro z
    exact h (V.int.inj (of_decide_eq_true z))
theorem ite_yes {a b : Int} {p q : Prop} (h : a = b) (x : p) : if decide (V.int a = V.int b) = true then p else q := by
  rw [if_pos]
  · exact x
  · rw [h]; exact decide_eq_true rfl
/-- the rules at hand -/
def Hand (K : PySem.W.Frag) (H : Hp) (n m : Nat) (le : Addr) (es : List V) (rs : List Rl) : Prop := H le = some (.lst es) ∧ Paired (IsRf K H) es rs ∧ (∀ r ∈ rs, OkR n r) ∧ 0 < es.length ∧ es.length ≤ m
theorem Hand.kp {K : PySem.W.Frag} {H H' : Hp} {n m : Nat} {le l : Addr} {es : List V} {rs : List Rl} (h : Hand K H n m le es rs) (ne : le ≠ l) (k : Kp (· = l) H H') (t : Tk H H') : Hand K H' n m le es rs :=
  ⟨k _ _ ne h.1, Paired.mono (fun _ _ y => IsRf.tk y t) h.2.1, h.2.2⟩
/-- what was found so far -/
def Found (K : PySem.W.Frag) (H : Hp) (n : Nat) (lf : Addr) (k : Nat) : Prop := ∃ ys qs, H lf = some (.lst ys) ∧ Paired (IsRf K H) ys qs ∧ (∀ r ∈ qs, OkR n r) ∧ ys.length ≤ k
theorem Found.kp {K : PySem.W.Frag} {H H' : Hp} {n k : Nat} {lf l : Addr} (h : Found K H n lf k) (ne : lf ≠ l) (kp : Kp (· = l) H H') (t : Tk H H') : Found K H' n lf k :=
  let ⟨ys, qs, a, b, c, d⟩ := h
  ⟨ys, qs, kp _ _ ne a, Paired.mono (fun _ _ y => IsRf.tk y t) b, c, d⟩
theorem Found.same {K : PySem.W.Frag} {H H' : Hp} {n k : Nat} {lf : Addr} (h : Found K H n lf k) (s : Same H H') : Found K H' n lf k :=
  let ⟨ys, qs, a, b, c, d⟩ := h
  ⟨ys, qs, s _ _ a, Paired.mono (fun _ _ y => IsRf.tk y (tkS s)) b, c, d⟩
theorem Found.put {K : PySem.W.Frag} {H : Hp} {n k : Nat} {lf : Addr} {v : V} {r : Rl} {ys : List V} {qs : List Rl} (a : H lf = some (.lst ys)) (b : Paired (IsRf K H) ys qs) (c : ∀ r ∈ qs, OkR n r) (d : ys.length ≤ k) (iv : IsRf K H v r) (ok : OkR n r) : Found K (upd H lf (.lst (ys ++ [v]))) n lf (k + 1) := by
  have t := Tk.write (o := .lst (ys ++ [v])) a True.intro
  refine ⟨_, qs ++ [r], upd_same, Paired.app (Paired.mono (fun _ _ y => IsRf.tk y t) b) (Paired.one (iv.tk t)), fun x hx => ?_, by rw [List.length_append]; exact Nat.succ_le_succ d⟩
  rcases List.mem_append.mp hx with m | m
  · exact c x m
  · rw [List.mem_singleton.mp m]; exact ok
theorem nil_kp {H H1 : Hp} {l p : Addr} {o : HO} (k : Kp (· = l) H H1) (hl : H1 l = some o) (hp : H1 p = none) : H p = none := by
  cases e : H p with
  | none => rfl
  | some u =>
    have ne : p ≠ l := fun z => by rw [z, hl] at hp; cases hp
    rw [k _ _ ne e] at hp
    cases hp
/-- a rule of two next places -/
theorem okR_next {n i : Nat} (hi : i + 1 < n) {a b : Int} (ha : a = 0 ∨ a = 1) (hb : b = 0 ∨ b = 1) : OkR n (((i : Int), a), ((i : Int) + 1, b)) := by
  refine ⟨⟨by show (0 : Int) ≤ i; omega, by show (i : Int) < n; omega, ha⟩, ⟨by show (0 : Int) ≤ (i : Int) + 1; omega, by show (i : Int) + 1 < n; omega, hb⟩, fun z => ?_, fun z => ?_⟩
  · have z' : (i : Int) + 1 < (i : Int) ∨ ((i : Int) + 1 = (i : Int) ∧ b < a) := z
    omega
  · have z' : (i : Int) + 1 = (i : Int) := congrArg Prod.fst z
    omega
section
variable {P : Program} {w : World} {K : PySem.W.Frag} {mg : Str → Option Value} {base : Heap} {C C2 : Addr}
abbrev sSome : Stmt := topS 56
def spSome (K : PySem.W.Frag) : Sp := fun vs H Q _ => ∃ (l : Addr) (n : Nat) (R : Addr × List Int), vs = [.ref l, .int n] ∧ RowAt K R H l ∧ 1 ≤ n ∧ n ≤ 8 ∧ ∀ H' T told, Kp (· = l) H H' → RowAt K R H' l → IsTl K H' (.ref T) told → Ruled n told → told.length ≤ 100 → Q (.ref T) H'
theorem scSome : FnScope ["_law_row", "_law_many", "_law_every", "_law_found", "_law_way", "_law_planted", "_law_size", "_law_turn", "_law_at", "_law_rule"] ["_law_row", "_law_many"] (defScope sSome) := ⟨rfl, rfl, rfl, by decide +kernel, rfl, by decide +kernel, by decide +kernel⟩
/-- what holds between the choices -/
def SomeAt (K : PySem.W.Frag) (R : Addr × List Int) (H : Hp) (l : Addr) (n k : Nat) (σ : L2.St) (H1 : Hp) : Prop := ∃ le lf es rs way pl size ns, σ = [some (.ref l), some (.int (n : Nat)), some (.ref le), some (.ref lf), some (.int way), some pl, some (.int size), none, none, none] ∧ Kp (· = l) H H1 ∧ RowAt K R H1 l ∧ le ≠ l ∧ lf ≠ l ∧ lf ≠ le ∧ H lf = none ∧
  Hand K H1 n (256 + 2 * k) le es rs ∧ ((∀ j : Nat, 1 ≤ j → j ≤ k → way ≠ (j : Int)) → EveryR n rs) ∧ H1 lf = some (.lst []) ∧ IsTi K H1 pl ns ∧ Row n ns ∧ 0 ≤ size ∧ size ≤ 18
theorem Paired.take {α β : Type} {F : α → β → Prop} : ∀ {xs : List α} {ys : List β} (k : Nat), Paired F xs ys → Paired F (xs.take k) (ys.take k)
  | _, _, 0, _ => by rw [List.take_zero, List.take_zero]; exact .nil
  | _, _, _ + 1, .nil => .nil
  | _, _, k + 1, .cons h t => .cons h (Paired.take k t)
theorem someAt_to {K : PySem.W.Frag} {R : Addr × List Int} {H H1 H2 : Hp} {l lf D : Addr} {n k : Nat} {zs : List V} {qs : List Rl} {way size : Int} {pl : V} {ns : List Int} (kp : Kp (· = l) H H1) (row : RowAt K R H1 l) (nfl : lf ≠ l) (nf : H lf = none) (hf : H1 lf = some (.lst [])) (hp : IsTi K H1 pl ns) (rn : Row n ns) (s0 : 0 ≤ size) (s18 : size ≤ 18)
    (hw : way = ((k + 1 : Nat) : Int)) (s : Same H1 H2) (hD : H1 D = none) (e : H2 D = some (.lst zs)) (pz : Paired (IsRf K H2) zs qs) (ok : ∀ r ∈ qs, OkR n r) (h0 : 0 < zs.length) (h1 : zs.length ≤ 256 + 2 * (k + 1)) :
    SomeAt K R H l n (k + 1) [some (.ref l), some (.int (n : Nat)), some (.ref D), some (.ref lf), some (.int way), some pl, some (.int size), none, none, none] H2 := by
  have nD : D ≠ l := fun z => by
    obtain ⟨_, _, _, hl, _⟩ := row
    rw [← z, hD] at hl
    cases hl
  have nfD : lf ≠ D := fun z => by rw [z, hD] at hf; cases hf
  exact ⟨D, lf, zs, qs, way, pl, size, ns, rfl, kp_same kp s, row.same s, nD, nfl, nfD, nf, ⟨e, pz, ok, h0, h1⟩, fun z => absurd hw (z (k + 1) (by omega) (Nat.le_refl _)), s _ _ hf, hp.tk (tkS s), rn, s0, s18⟩
theorem cSome (B : Bl mg) (c1 : Cal P w K mg base 1 "_law_taken" ["_law_row", "_law_many"] (spTaken K)) (c2 : Cal P w K mg base 2 "_law_pick" ["_law_row", "_law_things"] (spPick K)) (c3 : Cal P w K mg base 1 "_law_all_rules" ["_law_many"] (spAllR K)) (c4 : Cal P w K mg base 1 "_law_rows" ["_law_many"] (spRows K))
    (c5 : Cal P w K mg base 1 "_law_keeps" ["_law_rules", "_law_row"] (spKeepsL K)) (A : At K mg "_law_some_rules" "_law_some_rules" sSome ["_law_row", "_law_many"]) : Cal P w K mg base 3 "_law_some_rules" ["_law_row", "_law_many"] (spSome K) := by
  refine A.cal scSome (fun vs H Q E h => ?_) (fun f cdv A outer s H vs Q E hr h => ?_)
  · obtain ⟨l, n, R, rfl, _⟩ := h
    rfl
  · obtain ⟨l, n, R, rfl, row, n1, n8, q⟩ := h
    have hr1 : Room 1 (A.deeper (envOfC "_law_some_rules" (defScope sSome) s.heap.objs.size f cdv)) := hr.mono (by decide)
    have tkF : ∀ {H H' : Hp} {v : V} {a : Rl}, Tk H H' → IsRf K H v a → IsRf K H' v a := fun t y => IsRf.tk y t
    have ret : ∃ t, PSs (cxOf CX0 P w K mg base ["_law_row", "_law_many", "_law_every", "_law_found", "_law_way", "_law_planted", "_law_size", "_law_turn", "_law_at", "_law_rule"] "_law_some_rules" (defScope sSome) f cdv A outer s H E).nox ((defBody sSome).drop 8) t ∧ ∀ σ H3 f, Kp (· = l) H H3 → RowAt K R H3 l → Found K H3 n f 40 → (∃ a1 a2 a4 a5 a6 a7 a8, σ = [some (.ref l), a1, a2, some (.ref f), a4, a5, a6, a7, a8, none]) → t { nx := fun _ H' => Q .non H', rt := Q } σ H3 := by
      refine ⟨_, pss_one (ps_ret (pe_callTy call_tuple_of (by rfl) B.tuple boot_ty_tuple (pa_cons (pe_callB (cr_sortS rfl (hu100 hr)) (by rfl) B.sorted boot_sorted (pa_cons (pe_callTy (cr_setR rfl (hu100 hr)) (by rfl) B.set boot_ty_set (pa_cons (pv 3) pa_nil)) pa_nil)) pa_nil))), ?_⟩
      rintro σ H3 f k3 r3 ⟨ys, qs, f1, f2, f3, f4⟩ ⟨a1, a2, a4, a5, a6, a7, a8, rfl⟩
      obtain ⟨L, rfl, rfl, hL⟩ := pairs_of (fun v a h => let ⟨⟨p, _, _, e, _⟩, _⟩ := h; ⟨p, e⟩) f2
      rw [List.length_map] at f4
      refine ⟨_, rfl, f, L, rfl, SqL.of f1, fun e he => (hL e he).1, by omega, fun S Ls hS sub got nd => ?_⟩
      refine ⟨S, Ls, rfl, upd_same, fun e he => ((hL e (sub e he)).1).tk (Tk.new hS), fun L' p pm nd2 sr hp => ⟨p, _, rfl, .inl ⟨SqL.of upd_same, fun T hT => ?_⟩⟩⟩
      have s4 : Same H3 (upd (upd (upd H3 S (RSo P w S Ls)) p (.lst (L'.map fun e => V.ref e.1))) T (.tup (L'.map fun e => V.ref e.1))) := ((samePut hS).trans (samePut hp)).trans (samePut hT)
      have inL : ∀ e ∈ L', e ∈ L := fun e he => sub e (pm.mem_iff.mp he)
      refine q (upd (upd (upd H3 S (RSo P w S Ls)) p (.lst (L'.map fun e => V.ref e.1))) T (.tup (L'.map fun e => V.ref e.1))) T (L'.map (·.2)) (kp_same k3 s4) (r3.same s4) ⟨T, _, rfl, SqT.of upd_same, paired_of fun e he => (hL e (inL e he)).tk (tkS s4)⟩ ⟨n1, n8, fun r hr' => ?_, ?_⟩ ?_
      · obtain ⟨e, he, rfl⟩ := List.mem_map.mp hr'
        exact f3 _ (List.mem_map.mpr ⟨e, inL e he, rfl⟩)
      · refine List.pairwise_map.mpr (List.Pairwise.imp (fun {a b} z => ?_) (List.Pairwise.and sr (List.pairwise_map.mp nd2)))
        cases e : brlt a.2 b.2 with
        | true => rfl
        | false => exact absurd (brlt_tri e z.1) z.2
      · have c1 := nd_len nd2 (m := L.map (·.2)) fun r hr' => by
          obtain ⟨e, he, rfl⟩ := List.mem_map.mp hr'
          exact List.mem_map.mpr ⟨e, inL e he, rfl⟩
        rw [List.length_map (as := L)] at c1
        omega
    obtain ⟨tR, pR, hR⟩ := ret
    have six : ∃ t, PSs (cxOf CX0 P w K mg base ["_law_row", "_law_many", "_law_every", "_law_found", "_law_way", "_law_planted", "_law_size", "_law_turn", "_law_at", "_law_rule"] "_law_some_rules" (defScope sSome) f cdv A outer s H E).nox ((defBody sSome).drop 7) t ∧ ∀ σ H1 lf (way : Int) pl ns, Kp (· = l) H H1 → RowAt K R H1 l → lf ≠ l → H lf = none → Found K H1 n lf 20 → IsTi K H1 pl ns → Row n ns → (∃ a2 a6 a7, σ = [some (.ref l), some (.int (n : Nat)), a2, some (.ref lf), some (.int way), some pl, a6, a7, none, none]) → t { nx := fun _ H' => Q .non H', rt := Q } σ H1 := by
      refine ⟨_, pss_cons (ps_if (pt_cmpR op_eq (pv 4) pe_int (nomark _))
          (pss_one (ps_for PassesOwn.never rfl (pi_range1 (by rfl) B.range (pa_cons (pe_op op_sub (pv 1) pe_int) pa_nil)) (pg_name (i := 8) scSome.nd rfl (Or.inl rfl))
            (pss_cons (ps_expr (pe_bm PySem.F.plainAttrs_list PySem.F.slot_list_append PySem.F.type_list_append mt_append (pv 3) (pa_cons (pe_tupF (pa_cons (pe_tup (pa_cons (pv 8) (pa_cons (x_ix (pv 5) (pv 8)) pa_nil))) (pa_cons (pe_tup (pa_cons (pe_op op_add (pv 8) pe_int) (pa_cons (pe_op op_sub pe_int (x_ix (pv 5) (pe_op op_add (pv 8) pe_int))) pa_nil))) pa_nil))) pa_nil)))
            (pss_one (ps_set (i := 3) scSome.nd rfl (Or.inl rfl) (pe_op op_cat (pv 3) (pe_op op_rep (pe_lst (pa_cons (pe_tupF (pa_cons (pe_tup (pa_cons (pv 8) (pa_cons (pe_op op_sub pe_int (x_ix (pv 5) (pv 8))) pa_nil))) (pa_cons (pe_tup (pa_cons (pe_op op_add (pv 8) pe_int) (pa_cons (x_ix (pv 5) (pe_op op_add (pv 8) pe_int)) pa_nil))) pa_nil))) pa_nil))
              (pe_callTy call_int1 (by rfl) B.int boot_ty_int (pa_cons (pe_cmpR op_gt (pe_cl c1 hr1 (by rfl) (pa_cons (pv 0) (pa_cons pe_int pa_nil))) pe_int (nomark _)) pa_nil))))))))) pss_nil) pR, ?_⟩
      rintro σ H1 lf way pl ns k row1 nfl nf fd hp rn ⟨a2, a6, a7, rfl⟩
      have fd40 : Found K H1 n lf 40 := by
        obtain ⟨ys, qs, a, b, c, d⟩ := fd
        exact ⟨ys, qs, a, b, c, by omega⟩
      by_cases hw : way = 6
      · refine ⟨_, rfl, rfl, _, rfl, ite_yes hw ?_⟩
        let Pw : Nat → L2.St → Hp → Prop := fun i σ H2 => Kp (· = l) H H2 ∧ RowAt K R H2 l ∧ Tk H1 H2 ∧ ∃ fl v8, fl ≠ l ∧ H fl = none ∧ Found K H2 n fl (20 + 2 * i) ∧ σ = [some (.ref l), some (.int (n : Nat)), a2, some (.ref fl), some (.int way), some pl, a6, a7, v8, none]
        refine ⟨_, rfl, _, _, rfl, rfl, _, rfl, by omega, by omega, for_range (lo := 0) Pw ⟨k, row1, Tk.refl _, lf, none, nfl, nf, fd, rfl⟩ ?_ ?_⟩
        · rintro i σ H2 hi ⟨k2, r2, t2, fl, v8, nll, nlf, ⟨ys, qs, f1, f2, f3, f4⟩, rfl⟩
          have ei : (0 : Int) + (i : Nat) = (i : Nat) := Int.zero_add _
          rw [ei]
          have hin : i + 1 < n := by omega
          obtain ⟨pa, rfl, sp⟩ := id hp
          have g0 : (0 : Int) ≤ (i : Nat) := by omega
          have g1 : ((i : Nat) : Int) < (ns.length : Int) := by rw [rn.1]; omega
          have g2 : (0 : Int) ≤ (i : Nat) + 1 := by omega
          have g3 : ((i : Nat) : Int) + 1 < (ns.length : Int) := by rw [rn.1]; omega
          have val : ∀ j : Nat, j < n → ns.getD j 0 = 0 ∨ ns.getD j 0 = 1 := fun j hj => by
            have hj' : j < ns.length := by rw [rn.1]; exact hj
            have e : ns.getD j 0 = ns[j] := by rw [List.getD_eq_getElem?_getD, List.getElem?_eq_getElem hj']; rfl
            rw [e]
            exact rn.2 _ (List.getElem_mem hj')
          have va := val ((i : Nat) : Int).toNat (by omega)
          have vb := val (((i : Nat) : Int) + 1).toNat (by omega)
          have sp2 := t2.sq sp
          refine ⟨_, rfl, .inl ⟨rfl, _, SqL.of f1⟩, _, rfl, _, rfl, _, rfl, pa, _, _, _, rfl, rfl, sp2, atI_getD g0 g1, by show 2 ≤ sizeLine; decide, fun T1 h1 => ?_⟩
          have sA := samePut h1 (o := .tup [.int (i : Nat), .int (ns.getD ((i : Nat) : Int).toNat 0)])
          refine ⟨_, rfl, _, _, rfl, rfl, _, rfl, _, rfl, _, _, rfl, rfl, pa, _, _, _, rfl, rfl, (tkS sA).sq sp2, atI_getD g2 g3, _, _, rfl, rfl, by show 2 ≤ sizeLine; decide, fun T2 h2 => ⟨by show 2 ≤ sizeLine; decide, fun p o hp' ho => ?_⟩⟩
          have w1 := (IsW.new (K := K) h1 (x := (i : Nat)) (y := ns.getD ((i : Nat) : Int).toNat 0)).tk (Tk.new h2 (o := .tup [.int ((i : Nat) + 1), .int (1 - ns.getD (((i : Nat) : Int) + 1).toNat 0)]))
          have w2 := IsW.new (K := K) h2 (x := (i : Nat) + 1) (y := 1 - ns.getD (((i : Nat) : Int) + 1).toNat 0)
          have rA := rfNew hp' ho w1 w2
          have sB := (sA.trans (samePut h2 (o := .tup [.int ((i : Nat) + 1), .int (1 - ns.getD (((i : Nat) : Int) + 1).toNat 0)]))).trans (samePut hp' (o := .frz o (.tup [.ref T1, .ref T2])))
          generalize upd (upd (upd H2 T1 (.tup [.int (i : Nat), .int (ns.getD ((i : Nat) : Int).toNat 0)])) T2 (.tup [.int ((i : Nat) + 1), .int (1 - ns.getD (((i : Nat) : Int) + 1).toNat 0)])) p (.frz o (.tup [.ref T1, .ref T2])) = H3 at rA sB ⊢
          have f1' := sB _ _ f1
          refine ⟨fl, ys, .ref p, rfl, rfl, f1', szBig (by omega), ?_⟩
          have fdA := Found.put f1' (Paired.mono (fun _ _ z => IsRf.tk z (tkS sB)) f2) f3 f4 rA (okR_next hin va (by omega))
          have kA : Kp (· = l) H (upd H3 fl (.lst (ys ++ [.ref p]))) := kp_over nlf (kp_same k2 sB)
          have rwA : RowAt K R (upd H3 fl (.lst (ys ++ [.ref p]))) l := RowAt.put row nlf (r2.same sB) nll
          have tA : Tk H1 (upd H3 fl (.lst (ys ++ [.ref p]))) := (t2.trans (tkS sB)).trans (Tk.write f1' True.intro)
          clear f1 f2 f3 f4 f1' w1 w2 rA h1 h2 hp' ho sA sB sp2
          generalize upd H3 fl (.lst (ys ++ [.ref p])) = H4 at fdA kA rwA tA ⊢
          obtain ⟨ys, qs, f1, f2, f3, f4⟩ := fdA
          have sp4 := tA.sq sp
          refine ⟨_, rfl, _, rfl, _, rfl, _, rfl, pa, _, _, _, rfl, rfl, sp4, atI_getD g0 g1, _, _, rfl, rfl, by show 2 ≤ sizeLine; decide, fun T1 h1 => ?_⟩
          have sA := samePut h1 (o := .tup [.int (i : Nat), .int (1 - ns.getD ((i : Nat) : Int).toNat 0)])
          refine ⟨_, rfl, _, _, rfl, rfl, _, rfl, _, rfl, _, _, rfl, rfl, pa, _, _, _, rfl, rfl, (tkS sA).sq sp4, atI_getD g2 g3, by show 2 ≤ sizeLine; decide, fun T2 h2 => ⟨by show 2 ≤ sizeLine; decide, fun p o hp' ho => ?_⟩⟩
          have w1 := (IsW.new (K := K) h1 (x := (i : Nat)) (y := 1 - ns.getD ((i : Nat) : Int).toNat 0)).tk (Tk.new h2 (o := .tup [.int ((i : Nat) + 1), .int (ns.getD (((i : Nat) : Int) + 1).toNat 0)]))
          have w2 := IsW.new (K := K) h2 (x := (i : Nat) + 1) (y := ns.getD (((i : Nat) : Int) + 1).toNat 0)
          have rA := rfNew hp' ho w1 w2
          have sB := (sA.trans (samePut h2 (o := .tup [.int ((i : Nat) + 1), .int (ns.getD (((i : Nat) : Int) + 1).toNat 0)]))).trans (samePut hp' (o := .frz o (.tup [.ref T1, .ref T2])))
          generalize upd (upd (upd H4 T1 (.tup [.int (i : Nat), .int (1 - ns.getD ((i : Nat) : Int).toNat 0)])) T2 (.tup [.int ((i : Nat) + 1), .int (ns.getD (((i : Nat) : Int) + 1).toNat 0)])) p (.frz o (.tup [.ref T1, .ref T2])) = H5 at rA sB ⊢
          refine ⟨by show 1 ≤ sizeLine; decide, fun l3 hl3 => ?_⟩
          have sC := sB.trans (samePut hl3 (o := .lst [.ref p]))
          have e3 : upd H5 l3 (.lst [.ref p]) l3 = some (.lst [.ref p]) := upd_same
          have rC := rA.tk (Tk.new hl3 (o := .lst [.ref p]))
          generalize upd H5 l3 (.lst [.ref p]) = H6 at sC e3 rC ⊢
          have rw6 := rwA.same sC
          have nl3 : l3 ≠ l := fun z => by
            obtain ⟨_, _, _, hl, _⟩ := rwA.same sB
            rw [← z, hl3] at hl
            cases hl
          refine ⟨_, rfl, l, 3, R, rfl, rw6, by decide, by decide, fun H7 x k7 r7 x0 x3 => ⟨_, _, rfl, rfl, .inr ⟨_, rfl, ?_⟩⟩⟩
          have t7 := rw6.tk k7
          have f7 := k7 _ _ nll (sC _ _ f1)
          generalize decide ((0 : Int) < x) = bb
          refine ⟨l3, _, _, rfl, rfl, k7 _ _ nl3 e3, by cases bb <;> decide, by cases bb <;> decide, by cases bb <;> exact Nat.le_of_ble_eq_true rfl, fun p4 hp4 => ?_⟩
          have len4 : ((List.replicate (if bb = true then (1 : Int) else 0).toNat [V.ref p]).flatten).length ≤ 1 := by cases bb <;> exact Nat.le_of_ble_eq_true rfl
          refine ⟨fl, p4, ys, _, rfl, rfl, samePut hp4 _ _ f7, upd_same, Nat.le_of_lt (szBig (by omega)), fun p5 hp5 => ?_⟩
          have s8 : Same H7 (upd (upd H7 p4 (.lst (List.replicate (if bb = true then (1 : Int) else 0).toNat [V.ref p]).flatten)) p5 (.lst (ys ++ (List.replicate (if bb = true then (1 : Int) else 0).toNat [V.ref p]).flatten))) := (samePut hp4).trans (samePut hp5)
          have k8 := kp_same ((kp_same kA sC).trans k7) s8
          have r7' := r7
          obtain ⟨_, _, _, hl7, _⟩ := r7
          have k6' : Kp (· = l) H (upd H7 p4 (.lst (List.replicate (if bb = true then (1 : Int) else 0).toNat [V.ref p]).flatten)) := kp_same ((kp_same kA sC).trans k7) (samePut hp4)
          have n5 : H p5 = none := nil_kp k6' (samePut hp4 _ _ hl7) hp5
          have n5l : p5 ≠ l := fun z => by
            have y := samePut hp4 (o := .lst (List.replicate (if bb = true then (1 : Int) else 0).toNat [V.ref p]).flatten) _ _ hl7
            rw [← z, hp5] at y
            cases y
          have tC := ((tkS sC).trans t7).trans (tkS s8)
          refine ⟨k8, r7'.same s8, tA.trans tC, p5, _, n5l, n5, ⟨_, qs ++ (if bb = true then [((((i : Nat) : Int), 1 - ns.getD ((i : Nat) : Int).toNat 0), ((((i : Nat) : Int) + 1), ns.getD (((i : Nat) : Int) + 1).toNat 0))] else []), upd_same, ?_, fun r hr' => ?_, ?_⟩, rfl⟩
          · refine Paired.app (Paired.mono (fun _ _ z => IsRf.tk z tC) f2) ?_
            cases bb
            · exact .nil
            · exact .cons (rC.tk (t7.trans (tkS s8))) .nil
          · rcases List.mem_append.mp hr' with m | m
            · exact f3 r m
            · cases bb
              · cases m
              · rw [List.mem_singleton.mp m]
                exact okR_next hin (by omega) vb
          · rw [List.length_append]; omega
        · rintro σ H2 ⟨k2, r2, t2, fl, v8, nll, nlf, ⟨ys, qs, f1, f2, f3, f4⟩, rfl⟩
          exact hR _ H2 fl k2 r2 ⟨ys, qs, f1, f2, f3, by omega⟩ ⟨_, _, _, _, _, _, _, rfl⟩
      · exact ⟨_, rfl, rfl, _, rfl, ite_no hw (hR _ H1 lf k row1 fd40 ⟨_, _, _, _, _, _, _, rfl⟩)⟩
    obtain ⟨tS, pS, hS⟩ := six
    have tail : ∃ t, PSs (cxOf CX0 P w K mg base ["_law_row", "_law_many", "_law_every", "_law_found", "_law_way", "_law_planted", "_law_size", "_law_turn", "_law_at", "_law_rule"] "_law_some_rules" (defScope sSome) f cdv A outer s H E).nox ((defBody sSome).drop 6) t ∧ ∀ σ H1, SomeAt K R H l n 4 σ H1 → t { nx := fun _ H' => Q .non H', rt := Q } σ H1 := by
      refine ⟨_, pss_cons (ps_for PassesOwn.never rfl (pi_range1 (by rfl) B.range (pa_cons (pe_op op_add (pv 6) (pe_op op_mul pe_int (pe_callTy call_int1 (by rfl) B.int boot_ty_int (pa_cons (pe_cmpR op_eq (pv 4) pe_int (nomark _)) pa_nil)))) pa_nil)) (pg_name (i := 7) scSome.nd rfl (Or.inl rfl))
          (pss_one (ps_expr (pe_bm PySem.F.plainAttrs_list PySem.F.slot_list_append PySem.F.type_list_append mt_append (pv 3) (pa_cons (pe_cl c2 hr (by rfl) (pa_cons (pv 0) (pa_cons (pv 2) pa_nil))) pa_nil))))) pS, ?_⟩
      rintro σ H1 ⟨le, lf, es, rs, way, pl, size, ns, rfl, k, row1, nel, nfl, nfe, nf, ⟨he, pr, okr, e0, e3⟩, ev, hf, hp, rn, s0, s18⟩
      clear ev
      have jb : ∀ b : Bool, 0 ≤ size + 2 * (if b = true then (1 : Int) else 0) ∧ size + 2 * (if b = true then (1 : Int) else 0) ≤ 20 := fun b => by cases b <;> simp <;> omega
      let Pv : Nat → L2.St → Hp → Prop := fun i σ H2 => Kp (· = l) H H2 ∧ RowAt K R H2 l ∧ Tk H1 H2 ∧ H2 le = some (.lst es) ∧ Found K H2 n lf i ∧ ∃ v7, σ = [some (.ref l), some (.int (n : Nat)), some (.ref le), some (.ref lf), some (.int way), some pl, some (.int size), v7, none, none]
      refine ⟨_, rfl, _, rfl, rfl, .inr ⟨_, rfl, _, _, rfl, rfl, .inl ⟨by decide, by decide⟩, _, _, rfl, rfl, _, rfl, by have := jb (decide (V.int way = V.int 5)); omega, by have := jb (decide (V.int way = V.int 5)); omega, for_range (lo := 0) Pv ⟨k, row1, Tk.refl _, he, ⟨[], [], hf, .nil, (fun r hr' => nomatch hr'), Nat.le_refl _⟩, none, rfl⟩ ?_ ?_⟩⟩
      · rintro i σ H2 hi ⟨k2, r2, t2, he2, ⟨ys, qs, f1, f2, f3, f4⟩, v7, rfl⟩
        have jb5 := jb (decide (V.int way = V.int 5))
        refine ⟨_, rfl, .inl ⟨rfl, _, SqL.of f1⟩, _, rfl, _, rfl, l, le, es, R, rfl, r2, nel, he2, e0, by omega, fun H3 y k3 r3 my => ?_⟩
        obtain ⟨iy, hiy⟩ := List.mem_iff_getElem?.mp my
        obtain ⟨r, hr', ir⟩ := Paired.at1 pr hiy
        have t3 := r2.tk k3
        have f1' := k3 _ _ nfl f1
        have w3 := Tk.write (o := .lst (ys ++ [y])) f1' True.intro
        refine ⟨lf, ys, y, rfl, rfl, f1', szBig (by omega), kp_over nf (k2.trans k3), RowAt.put row nf r3 nfl, (t2.trans t3).trans w3, (upd_ne (fun z => nfe z.symm)).trans (k3 _ _ nel he2), ?_, _, rfl⟩
        exact Found.put f1' (Paired.mono (fun _ _ z => IsRf.tk z t3) f2) f3 f4 (ir.tk (t2.trans t3)) (okr r (List.mem_of_getElem? hr'))
      · rintro σ H2 ⟨k2, r2, t2, he2, fd, v7, rfl⟩
        have jb5 := jb (decide (V.int way = V.int 5))
        refine hS _ H2 lf way pl ns k2 r2 nfl nf ?_ (hp.tk t2) rn ⟨_, _, _, rfl⟩
        obtain ⟨ys, qs, a, b, c, d⟩ := fd
        exact ⟨ys, qs, a, b, c, by omega⟩
    obtain ⟨tC_, pC, hC⟩ := tail
    have four : ∃ t, PSs (cxOf CX0 P w K mg base ["_law_row", "_law_many", "_law_every", "_law_found", "_law_way", "_law_planted", "_law_size", "_law_turn", "_law_at", "_law_rule"] "_law_some_rules" (defScope sSome) f cdv A outer s H E).nox ((defBody sSome).drop 5) t ∧ ∀ σ H1, SomeAt K R H l n 3 σ H1 → t { nx := fun _ H' => Q .non H', rt := Q } σ H1 := by
      refine ⟨_, pss_cons (ps_if (pt_cmpR op_eq (pv 4) pe_int (nomark _)) (pss_one (ps_setLc (i := 2) (own := [("_law_rule", 9)]) (g := gName 9) (tt := tTest (tOp rEq (tOp (rI (fun _ j => 0 < j) fun i j => .int (i % j)) (tOp (rI0 fun i j => .int (i - j)) (tOp (rIxT K) (tOp (rIxT K) (tVar 9) (tC (.int 0))) (tC (.int 0))) (tOp (rIxT K) (tOp (rIxT K) (tVar 9) (tC (.int 1))) (tC (.int 0)))) (tC (.int 2))) (tC (.int 0)))) (te := tVar 9) rfl scSome.nd rfl rfl (sw_true rfl rfl rfl (by decide +kernel)) (pi_list (pv 2)) (blkOk_by (own := [("_law_rule", 9)]) (N := ["_law_row", "_law_many", "_law_every", "_law_found", "_law_way", "_law_planted", "_law_size", "_law_turn", "_law_at", "_law_rule"]) (sc := defScope sSome) (by decide +kernel)) (fun _ _ _ _ _ => pg_name (i := 9) scSome.nd rfl (Or.inl rfl))
          (fun _ _ _ _ _ => pts_one (pt_cmpR op_eq (pe_op op_mod (pe_op op_sub (x_ix (x_ix (pv 9) pe_int) pe_int) (x_ix (x_ix (pv 9) pe_int) pe_int)) pe_int) pe_int (nomark _))) (fun _ _ _ _ _ => pv 9))) pss_nil) pC, ?_⟩
      rintro σ H1 ⟨le, lf, es, rs, way, pl, size, ns, rfl, k, row1, nel, nfl, nfe, nf, hd, ev, hf, hp, rn, s0, s18⟩
      obtain ⟨he, pr, okr, e0, e3⟩ := hd
      by_cases hw : way = 4
      · refine ⟨_, rfl, rfl, _, rfl, ite_yes hw ⟨_, rfl, le, rfl, ⟨_, SqL.of he⟩, fun D hD => ?_⟩⟩
        refine lc_it (walk_list (K := K) (a := le) (xs := es)) (PvKeep (IsRf K) (fun r => (r.1.1 - r.2.1) % 2 = 0) rs H1 D) (PvKeep.zero hD) (fun i H' _ p => SqL.of (p.1 _ _ he)) ?_ ?_
        · rintro i x H9 H2 hi p2 ⟨rfl, hx⟩
          obtain ⟨r, hr', ir⟩ := Paired.at1 pr hx
          have irf := ir.tk (tkS p2.1)
          obtain ⟨⟨b, xa, xb, rfl, sb, ⟨c1, rfl, s1⟩, ⟨c2, rfl, s2⟩⟩, _⟩ := id irf
          have hiz : i < sizeLine := szBig (by omega)
          refine ⟨rfl, _, rfl, b, _, _, _, rfl, rfl, sb, rfl, c1, _, _, _, rfl, rfl, s1, rfl, _, rfl, b, _, _, _, rfl, rfl, sb, rfl, c2, _, _, _, rfl, rfl, s2, rfl, _, _, rfl, rfl, _, _, rfl, rfl, by show (0 : Int) < 2; decide, rfl, _, rfl, ?_⟩
          rw [dec_int]
          exact ite2 (fun h => ⟨_, rfl, PvKeep.yes tkF hD p2 (Same.refl _) hr' irf (of_decide_eq_true h) hiz⟩) (fun h => PvKeep.no tkF p2 (Same.refl _) hr' fun z => h (decide_eq_true z))
        · rintro H2 ⟨s2, zs, qs, e, len, pq, mem⟩
          rw [Paired.len pr, List.take_length] at mem
          refine hC _ _ (someAt_to k row1 nfl nf hf hp rn s0 s18 hw s2 hD e pq (fun r hr' => okr r ((mem r).mp hr').1) ?_ (by omega))
          rw [Paired.len pq]
          exact List.length_pos_of_mem ((mem _).mpr ⟨(ev fun j a b z => by omega).2 0 (by omega), by show ((wAt 0).1 - (wAt 0).1) % 2 = 0; rw [Int.sub_self]; rfl⟩)
      · exact ⟨_, rfl, rfl, _, rfl, ite_no hw (hC _ _ ⟨le, lf, es, rs, way, pl, size, ns, rfl, k, row1, nel, nfl, nfe, nf, ⟨he, pr, okr, e0, by omega⟩, fun z => ev fun j a b => z j a (by omega), hf, hp, rn, s0, s18⟩)⟩
    obtain ⟨t4, p4, h4⟩ := four
    have three : ∃ t, PSs (cxOf CX0 P w K mg base ["_law_row", "_law_many", "_law_every", "_law_found", "_law_way", "_law_planted", "_law_size", "_law_turn", "_law_at", "_law_rule"] "_law_some_rules" (defScope sSome) f cdv A outer s H E).nox ((defBody sSome).drop 4) t ∧ ∀ σ H1, SomeAt K R H l n 2 σ H1 → t { nx := fun _ H' => Q .non H', rt := Q } σ H1 := by
      refine ⟨_, pss_cons (ps_if (pt_cmpR op_eq (pv 4) pe_int (nomark _)) (pss_one (ps_set (i := 2) scSome.nd rfl (Or.inl rfl) (pe_op op_cat (pe_lc (own := [("_law_rule", 9)]) (g := gName 9) (tt := tAnd (tTest (tOp rEq (tOp (rIxT K) (tOp (rIxT K) (tVar 9) (tC (.int 0))) (tC (.int 1))) (tOp (rIxT K) (tOp (rIxT K) (tVar 9) (tC (.int 1))) (tC (.int 1))))) (tTest (tOp rNe (tOp (rIxT K) (tOp (rIxT K) (tVar 9) (tC (.int 0))) (tC (.int 0))) (tOp (rIxT K) (tOp (rIxT K) (tVar 9) (tC (.int 1))) (tC (.int 0)))))) (te := tVar 9) (by rfl) scSome.nd (pi_list (pv 2)) (blkOk_by (own := [("_law_rule", 9)]) (N := ["_law_row", "_law_many", "_law_every", "_law_found", "_law_way", "_law_planted", "_law_size", "_law_turn", "_law_at", "_law_rule"]) (sc := defScope sSome) (by decide +kernel)) (fun _ _ _ _ _ => pg_name (i := 9) scSome.nd rfl (Or.inl rfl))
          (fun _ _ _ _ _ => pts_one (PW.pt (pw_and (pt_cmpR op_eq (x_ix (x_ix (pv 9) pe_int) pe_int) (x_ix (x_ix (pv 9) pe_int) pe_int) (nomark _)) (pw_and1 (pt_cmpR op_ne (x_ix (x_ix (pv 9) pe_int) pe_int) (x_ix (x_ix (pv 9) pe_int) pe_int) (nomark _)))))) (fun _ _ _ _ _ => pv 9)) (pe_slice sl_list (pv 2) po_none (po_some pe_int))))) pss_nil) p4, ?_⟩
      rintro σ H1 ⟨le, lf, es, rs, way, pl, size, ns, rfl, k, row1, nel, nfl, nfe, nf, hd, ev, hf, hp, rn, s0, s18⟩
      obtain ⟨he, pr, okr, e0, e3⟩ := hd
      by_cases hw : way = 3
      · refine ⟨_, rfl, rfl, _, rfl, ite_yes hw ⟨_, rfl, le, rfl, ⟨_, SqL.of he⟩, fun D hD => ?_⟩⟩
        refine lc_it (walk_list (K := K) (a := le) (xs := es)) (PvKeep (IsRf K) (fun r => r.1.2 = r.2.2 ∧ r.1.1 ≠ r.2.1) rs H1 D) (PvKeep.zero hD) (fun i H' _ p => SqL.of (p.1 _ _ he)) ?_ ?_
        · rintro i x H9 H2 hi p2 ⟨rfl, hx⟩
          obtain ⟨r, hr', ir⟩ := Paired.at1 pr hx
          have irf := ir.tk (tkS p2.1)
          obtain ⟨⟨b, xa, xb, rfl, sb, ⟨c1, rfl, s1⟩, ⟨c2, rfl, s2⟩⟩, _⟩ := id irf
          have hiz : i < sizeLine := szBig (by omega)
          refine ⟨rfl, _, rfl, b, _, _, _, rfl, rfl, sb, rfl, c1, _, _, _, rfl, rfl, s1, rfl, _, rfl, b, _, _, _, rfl, rfl, sb, rfl, c2, _, _, _, rfl, rfl, s2, rfl, rfl, _, rfl, ?_⟩
          rw [dec_int]
          refine ite2 (fun ha => ?_) (fun ha => PvKeep.no tkF p2 (Same.refl _) hr' fun z => ha (decide_eq_true z.1))
          refine ⟨_, rfl, b, _, _, _, rfl, rfl, sb, rfl, c1, _, _, _, rfl, rfl, s1, rfl, _, rfl, b, _, _, _, rfl, rfl, sb, rfl, c2, _, _, _, rfl, rfl, s2, rfl, rfl, _, rfl, ?_⟩
          rw [dec_int]
          exact ite2 (fun hb => ⟨_, rfl, PvKeep.yes tkF hD p2 (Same.refl _) hr' irf ⟨of_decide_eq_true ha, fun z => by rw [decide_eq_true z] at hb; exact absurd hb (by decide)⟩ hiz⟩) (fun hb => PvKeep.no tkF p2 (Same.refl _) hr' fun z => hb (by rw [decide_eq_false z.2]; rfl))
        · rintro H2 ⟨s2, zs, qs, e, len, pq, mem⟩
          rw [Paired.len pr, List.take_length] at mem
          have he2 := s2 _ _ he
          refine ⟨_, rfl, 1, rfl, le, es, rfl, SqL.of he2, fun p hp' => ⟨D, p, zs, _, rfl, rfl, samePut hp' _ _ e, upd_same, ?_, fun o ho => ?_⟩⟩
          · rw [show (1 : Int) = ((1 : Nat) : Int) from rfl, cut_to, List.length_take]
            exact Nat.le_of_lt (szBig (by omega))
          · have sa : Same H2 (upd (upd H2 p (.lst (cutV es none (some 1)))) o (.lst (zs ++ cutV es none (some 1)))) := (samePut hp').trans (samePut ho)
            have on : H1 o = none := by
              cases eo : H1 o with
              | none => rfl
              | some u =>
                have z := (s2.trans (samePut hp' (o := .lst (cutV es none (some 1))))) _ _ eo
                rw [ho] at z
                cases z
            have ec : cutV es none (some (1 : Int)) = es.take 1 := cut_to es 1
            refine h4 _ _ (someAt_to (qs := qs ++ rs.take 1) k row1 nfl nf hf hp rn s0 s18 hw (s2.trans sa) on upd_same ?_ (fun r hr' => ?_) ?_ ?_)
            · rw [ec]
              rw [ec] at sa
              exact Paired.app (Paired.mono (fun _ _ y => IsRf.tk y (tkS sa)) pq) (Paired.take 1 (Paired.mono (fun _ _ y => IsRf.tk y (tkS (s2.trans sa))) pr))
            · rcases List.mem_append.mp hr' with m | m
              · exact okr r ((mem r).mp m).1
              · exact okr r (List.mem_of_mem_take m)
            · rw [ec, List.length_append, List.length_take]; omega
            · rw [ec, List.length_append, List.length_take]; omega
      · exact ⟨_, rfl, rfl, _, rfl, ite_no hw (h4 _ _ ⟨le, lf, es, rs, way, pl, size, ns, rfl, k, row1, nel, nfl, nfe, nf, ⟨he, pr, okr, e0, by omega⟩, fun z => ev fun j a b => z j a (by omega), hf, hp, rn, s0, s18⟩)⟩
    obtain ⟨t3, p3, h3⟩ := three
    have two : ∃ t, PSs (cxOf CX0 P w K mg base ["_law_row", "_law_many", "_law_every", "_law_found", "_law_way", "_law_planted", "_law_size", "_law_turn", "_law_at", "_law_rule"] "_law_some_rules" (defScope sSome) f cdv A outer s H E).nox ((defBody sSome).drop 3) t ∧ ∀ σ H1, SomeAt K R H l n 1 σ H1 → t { nx := fun _ H' => Q .non H', rt := Q } σ H1 := by
      refine ⟨_, pss_cons (ps_if (pt_cmpR op_eq (pv 4) pe_int (nomark _)) (pss_one (ps_set (i := 2) scSome.nd rfl (Or.inl rfl) (pe_op op_cat (pe_lc (own := [("_law_rule", 9)]) (g := gName 9) (tt := tAnd (tTest (tOp rNe (tOp (rIxT K) (tOp (rIxT K) (tVar 9) (tC (.int 0))) (tC (.int 1))) (tOp (rIxT K) (tOp (rIxT K) (tVar 9) (tC (.int 1))) (tC (.int 1))))) (tTest (tOp rNe (tOp (rIxT K) (tOp (rIxT K) (tVar 9) (tC (.int 0))) (tC (.int 0))) (tOp (rIxT K) (tOp (rIxT K) (tVar 9) (tC (.int 1))) (tC (.int 0)))))) (te := tVar 9) (by rfl) scSome.nd (pi_list (pv 2)) (blkOk_by (own := [("_law_rule", 9)]) (N := ["_law_row", "_law_many", "_law_every", "_law_found", "_law_way", "_law_planted", "_law_size", "_law_turn", "_law_at", "_law_rule"]) (sc := defScope sSome) (by decide +kernel)) (fun _ _ _ _ _ => pg_name (i := 9) scSome.nd rfl (Or.inl rfl))
          (fun _ _ _ _ _ => pts_one (PW.pt (pw_and (pt_cmpR op_ne (x_ix (x_ix (pv 9) pe_int) pe_int) (x_ix (x_ix (pv 9) pe_int) pe_int) (nomark _)) (pw_and1 (pt_cmpR op_ne (x_ix (x_ix (pv 9) pe_int) pe_int) (x_ix (x_ix (pv 9) pe_int) pe_int) (nomark _)))))) (fun _ _ _ _ _ => pv 9)) (pe_slice sl_list (pv 2) po_none (po_some pe_int))))) pss_nil) p3, ?_⟩
      rintro σ H1 ⟨le, lf, es, rs, way, pl, size, ns, rfl, k, row1, nel, nfl, nfe, nf, hd, ev, hf, hp, rn, s0, s18⟩
      obtain ⟨he, pr, okr, e0, e3⟩ := hd
      by_cases hw : way = 2
      · refine ⟨_, rfl, rfl, _, rfl, ite_yes hw ⟨_, rfl, le, rfl, ⟨_, SqL.of he⟩, fun D hD => ?_⟩⟩
        refine lc_it (walk_list (K := K) (a := le) (xs := es)) (PvKeep (IsRf K) (fun r => r.1.2 ≠ r.2.2 ∧ r.1.1 ≠ r.2.1) rs H1 D) (PvKeep.zero hD) (fun i H' _ p => SqL.of (p.1 _ _ he)) ?_ ?_
        · rintro i x H9 H2 hi p2 ⟨rfl, hx⟩
          obtain ⟨r, hr', ir⟩ := Paired.at1 pr hx
          have irf := ir.tk (tkS p2.1)
          obtain ⟨⟨b, xa, xb, rfl, sb, ⟨c1, rfl, s1⟩, ⟨c2, rfl, s2⟩⟩, _⟩ := id irf
          have hiz : i < sizeLine := szBig (by omega)
          refine ⟨rfl, _, rfl, b, _, _, _, rfl, rfl, sb, rfl, c1, _, _, _, rfl, rfl, s1, rfl, _, rfl, b, _, _, _, rfl, rfl, sb, rfl, c2, _, _, _, rfl, rfl, s2, rfl, rfl, _, rfl, ?_⟩
          rw [dec_int]
          refine ite2 (fun ha => ?_) (fun ha => PvKeep.no tkF p2 (Same.refl _) hr' fun z => ha (by rw [decide_eq_false z.1]; rfl))
          refine ⟨_, rfl, b, _, _, _, rfl, rfl, sb, rfl, c1, _, _, _, rfl, rfl, s1, rfl, _, rfl, b, _, _, _, rfl, rfl, sb, rfl, c2, _, _, _, rfl, rfl, s2, rfl, rfl, _, rfl, ?_⟩
          rw [dec_int]
          exact ite2 (fun hb => ⟨_, rfl, PvKeep.yes tkF hD p2 (Same.refl _) hr' irf ⟨fun z => by rw [decide_eq_true z] at ha; exact absurd ha (by decide), fun z => by rw [decide_eq_true z] at hb; exact absurd hb (by decide)⟩ hiz⟩) (fun hb => PvKeep.no tkF p2 (Same.refl _) hr' fun z => hb (by rw [decide_eq_false z.2]; rfl))
        · rintro H2 ⟨s2, zs, qs, e, len, pq, mem⟩
          rw [Paired.len pr, List.take_length] at mem
          have he2 := s2 _ _ he
          refine ⟨_, rfl, 2, rfl, le, es, rfl, SqL.of he2, fun p hp' => ⟨D, p, zs, _, rfl, rfl, samePut hp' _ _ e, upd_same, ?_, fun o ho => ?_⟩⟩
          · rw [show (2 : Int) = ((2 : Nat) : Int) from rfl, cut_to, List.length_take]
            exact Nat.le_of_lt (szBig (by omega))
          · have sa : Same H2 (upd (upd H2 p (.lst (cutV es none (some 2)))) o (.lst (zs ++ cutV es none (some 2)))) := (samePut hp').trans (samePut ho)
            have on : H1 o = none := by
              cases eo : H1 o with
              | none => rfl
              | some u =>
                have z := (s2.trans (samePut hp' (o := .lst (cutV es none (some 2))))) _ _ eo
                rw [ho] at z
                cases z
            have ec : cutV es none (some (2 : Int)) = es.take 2 := cut_to es 2
            refine h3 _ _ (someAt_to (qs := qs ++ rs.take 2) k row1 nfl nf hf hp rn s0 s18 hw (s2.trans sa) on upd_same ?_ (fun r hr' => ?_) ?_ ?_)
            · rw [ec]
              rw [ec] at sa
              exact Paired.app (Paired.mono (fun _ _ y => IsRf.tk y (tkS sa)) pq) (Paired.take 2 (Paired.mono (fun _ _ y => IsRf.tk y (tkS (s2.trans sa))) pr))
            · rcases List.mem_append.mp hr' with m | m
              · exact okr r ((mem r).mp m).1
              · exact okr r (List.mem_of_mem_take m)
            · rw [ec, List.length_append, List.length_take]; omega
            · rw [ec, List.length_append, List.length_take]; omega
      · exact ⟨_, rfl, rfl, _, rfl, ite_no hw (h3 _ _ ⟨le, lf, es, rs, way, pl, size, ns, rfl, k, row1, nel, nfl, nfe, nf, ⟨he, pr, okr, e0, by omega⟩, fun z => ev fun j a b => z j a (by omega), hf, hp, rn, s0, s18⟩)⟩
    obtain ⟨t2, p2, h2⟩ := two
    have one : ∃ t, PSs (cxOf CX0 P w K mg base ["_law_row", "_law_many", "_law_every", "_law_found", "_law_way", "_law_planted", "_law_size", "_law_turn", "_law_at", "_law_rule"] "_law_some_rules" (defScope sSome) f cdv A outer s H E).nox ((defBody sSome).drop 2) t ∧ ∀ σ H1, SomeAt K R H l n 0 σ H1 → t { nx := fun _ H' => Q .non H', rt := Q } σ H1 := by
      refine ⟨_, pss_cons (ps_if (pt_cmpR op_eq (pv 4) pe_int (nomark _)) (pss_one (ps_setLc (i := 2) (own := [("_law_rule", 9)]) (g := gName 9) (tt := tB (tCall (spKeepsL K) [] E0 (tCons (tLst (tCons (tVar 9) tNil)) (tCons (tVar 5) tNil)))) (te := tVar 9) rfl scSome.nd rfl rfl (sw_true rfl rfl rfl (by decide +kernel)) (pi_list (pv 2)) (blkOk_by (own := [("_law_rule", 9)]) (N := ["_law_row", "_law_many", "_law_every", "_law_found", "_law_way", "_law_planted", "_law_size", "_law_turn", "_law_at", "_law_rule"]) (sc := defScope sSome) (by decide +kernel)) (fun _ _ _ _ _ => pg_name (i := 9) scSome.nd rfl (Or.inl rfl))
          (fun _ _ _ _ _ => pts_one (pt_val (pe_cl c5 hr1 (by rfl) (pa_cons (pe_lst (pa_cons (pv 9) pa_nil)) (pa_cons (pv 5) pa_nil))))) (fun _ _ _ _ _ => pv 9))) pss_nil) p2, ?_⟩
      rintro σ H1 ⟨le, lf, es, rs, way, pl, size, ns, rfl, k, row1, nel, nfl, nfe, nf, hd, ev, hf, hp, rn, s0, s18⟩
      obtain ⟨he, pr, okr, e0, e3⟩ := hd
      by_cases hw : way = 1
      · refine ⟨_, rfl, rfl, _, rfl, ite_yes hw ⟨_, rfl, le, rfl, ⟨_, SqL.of he⟩, fun D hD => ?_⟩⟩
        refine lc_it (walk_list (K := K) (a := le) (xs := es)) (PvKeep (IsRf K) (fun r => keptR ns r = true) rs H1 D) (PvKeep.zero hD) (fun i H' _ p => SqL.of (p.1 _ _ he)) ?_ ?_
        · rintro i x H9 H2 hi p2 ⟨rfl, hx⟩
          obtain ⟨r, hr', ir⟩ := Paired.at1 pr hx
          have irf := ir.tk (tkS p2.1)
          have hiz : i < sizeLine := szBig (by omega)
          have ok := okr r (List.mem_of_getElem? hr')
          refine ⟨rfl, _, rfl, by show 1 ≤ sizeLine; decide, fun l1 hl1 => ⟨_, rfl, l1, pl, x, r, ns, rfl, upd_same, irf.1.tk (Tk.new hl1), (hp.tk (tkS p2.1)).tk (Tk.new hl1), by rw [rn.1]; exact ok.1, by rw [rn.1]; exact ok.2.1, _, rfl, ?_⟩⟩
          exact ite2 (fun h => ⟨_, rfl, PvKeep.yes tkF hD p2 (samePut hl1) hr' (irf.tk (Tk.new hl1)) h hiz⟩) (fun h => PvKeep.no tkF p2 (samePut hl1) hr' h)
        · rintro H2 ⟨s2, zs, qs, e, len, pq, mem⟩
          rw [Paired.len pr, List.take_length] at mem
          refine h2 _ _ (someAt_to k row1 nfl nf hf hp rn s0 s18 hw s2 hD e pq (fun r hr' => okr r ((mem r).mp hr').1) ?_ (by omega))
          have ev1 : EveryR n rs := ev fun j a b z => by omega
          have n0 : 0 < ns.length := by rw [rn.1]; omega
          have v0 : ns.getD 0 0 = ns[0] := by rw [List.getD_eq_getElem?_getD, List.getElem?_eq_getElem n0]; rfl
          rw [Paired.len pq]
          rcases rn.2 ns[0] (List.getElem_mem n0) with z | z
          · refine List.length_pos_of_mem ((mem _).mpr ⟨ev1.2 0 (by omega), ?_⟩)
            have : hasR ns (wAt 0) = true := decide_eq_true (v0.trans z)
            show (hasR ns (wAt 0) || hasR ns (wAt 0)) = true
            rw [this]; rfl
          · refine List.length_pos_of_mem ((mem _).mpr ⟨ev1.2 1 (by omega), ?_⟩)
            have : hasR ns (wAt 1) = true := decide_eq_true (v0.trans z)
            show (hasR ns (wAt 1) || hasR ns (wAt 1)) = true
            rw [this]; rfl
      · exact ⟨_, rfl, rfl, _, rfl, ite_no hw (h2 _ _ ⟨le, lf, es, rs, way, pl, size, ns, rfl, k, row1, nel, nfl, nfe, nf, ⟨he, pr, okr, e0, by omega⟩, fun z => ev fun j a b => z j a (by omega), hf, hp, rn, s0, s18⟩)⟩
    obtain ⟨t1, p1, h1⟩ := one
    refine ⟨_, pss_cons (ps_par3 (i := 2) (j := 3) (l := 4) rfl scSome.nd rfl rfl rfl (by decide) (by decide) (by decide) rfl rfl rfl (pa_cons (pe_cl c3 hr1 (by rfl) (pa_cons (pv 1) pa_nil)) (pa_cons (pe_lst pa_nil) (pa_cons (pe_cl c1 hr1 (by rfl) (pa_cons (pv 0) (pa_cons pe_int pa_nil))) pa_nil))) (by rfl))
      (pss_cons (ps_asg (pe_tup (pa_cons (pe_cl c2 hr (by rfl) (pa_cons (pv 0) (pa_cons (pe_cl c4 hr1 (by rfl) (pa_cons (pv 1) pa_nil)) pa_nil))) (pa_cons (pe_cl c1 hr1 (by rfl) (pa_cons (pv 0) (pa_cons (pe_op op_add (pe_op op_mul pe_int (pv 1)) pe_int) pa_nil))) pa_nil)))
        (pg_tup rfl (pgs_cons (pg_name (i := 5) scSome.nd rfl (Or.inr rfl)) (pgs_cons (pg_name (i := 6) scSome.nd rfl (Or.inl rfl)) pgs_nil)))) p1), ?_⟩
    refine ⟨_, rfl, n, rfl, n8, fun H1 D1 es rs s1 nD1 e1 pr ev len => ⟨Nat.zero_le _, fun lf hlf => ?_⟩⟩
    have s2 : Same H1 (upd H1 lf (.lst [])) := samePut hlf
    have f2 : upd H1 lf (.lst []) lf = some (.lst []) := upd_same
    generalize upd H1 lf (.lst []) = H2 at s2 f2 ⊢
    have row2 := row.same (s1.trans s2)
    refine ⟨_, rfl, l, 7, R, rfl, row2, by decide, by decide, fun H3 x k3 r3 x0 x7 => ⟨_, _, _, rfl, ?_⟩⟩
    refine ⟨_, rfl, _, rfl, n, rfl, n1, n8, fun H4 Dr s4 nDr ⟨ys, qs, e4, py, mem, yl⟩ => ?_⟩
    have hlS : ∀ {H : Hp}, RowAt K R H l → ∃ u, H l = some u := fun ⟨_, _, _, h, _⟩ => ⟨_, h⟩
    have nDl : Dr ≠ l := fun z => by
      obtain ⟨u, hu⟩ := hlS r3
      rw [← z, nDr] at hu
      cases hu
    have ypos : 0 < ys.length := by
      rw [Paired.len py]
      exact List.length_pos_of_mem ((mem (List.replicate n 0)).mpr ⟨List.length_replicate, fun x hx => .inl (List.eq_of_mem_replicate hx)⟩)
    have r4 := r3.same s4
    refine ⟨l, Dr, ys, R, rfl, r4, nDl, e4, ypos, by omega, fun H5 y k5 r5 my => ?_⟩
    obtain ⟨iy, hiy⟩ := List.mem_iff_getElem?.mp my
    obtain ⟨ns, hns, iyn⟩ := Paired.at1 py hiy
    have rown := (mem ns).mp (List.mem_of_getElem? hns)
    refine ⟨_, rfl, _, rfl, _, _, rfl, rfl, .inl ⟨by decide, by decide⟩, _, _, rfl, rfl, l, _, R, rfl, r5, by omega, by omega, fun H6 x6 k6 r6 x60 x61 => ⟨by show 2 ≤ sizeLine; decide, fun T hT => ?_⟩⟩
    have t3 := row2.tk k3
    have t5 := r4.tk k5
    have t6 := r5.tk k6
    have eT : upd H6 T (.tup [y, .int x6]) T = some (.tup [y, .int x6]) := upd_same
    have s7 : Same H6 (upd H6 T (.tup [y, .int x6])) := samePut hT
    refine ⟨T, _, rfl, SqT.of eT, rfl, _, _, rfl, _, _, rfl, rfl, ?_⟩
    generalize upd H6 T (.tup [y, .int x6]) = H7 at eT s7 ⊢
    have k37 : Kp (· = l) H3 H7 := kp_same ((kpS s4).trans (k5.trans k6)) s7
    have k27 : Kp (· = l) H2 H7 := k3.trans k37
    have k07 : Kp (· = l) H H7 := (kpS (s1.trans s2)).trans k27
    have t27 : Tk H2 H7 := t3.trans ((tkS s4).trans (t5.trans (t6.trans (tkS s7))))
    have nD1l : D1 ≠ l := fun z => by
      obtain ⟨u, hu⟩ := hlS row
      rw [← z, nD1] at hu
      cases hu
    have nlf : H lf = none := by
      cases e : H lf with
      | none => rfl
      | some o =>
        have z := s1 _ _ e
        rw [hlf] at z
        cases z
    have nlfl : lf ≠ l := fun z => by
      obtain ⟨u, hu⟩ := hlS row
      rw [← z, nlf] at hu
      cases hu
    have nlfD : lf ≠ D1 := fun z => by rw [z, e1] at hlf; cases hlf
    have epos : 0 < es.length := by
      rw [Paired.len pr]
      exact List.length_pos_of_mem (ev.2 0 (by omega))
    have pr7 : Paired (IsRf K H7) es rs := Paired.mono (fun _ _ y => IsRf.tk y ((tkS s2).trans t27)) pr
    exact h1 _ _ ⟨D1, lf, es, rs, x, y, x6, ns, rfl, k07, r6.same s7, nD1l, nlfl, nlfD, nlf, ⟨k27 _ _ nD1l (s2 _ _ e1), pr7, ev.1, epos, by omega⟩, fun _ => ev, k27 _ _ nlfl f2, iyn.tk (t5.trans (t6.trans (tkS s7))), rown, x60, by omega⟩
end
end K74

set_option Elab.async false
set_option linter.all false
set_option maxRecDepth 100000
set_option maxHeartbeats 4000000
namespace K74
open PySem PySem.Spec PyProof.Rows L2
/-- a lowest and a highest price -/
def LoHi (K : PySem.W.Frag) (H : Hp) (y : V) : Prop := ∃ p lo hi, y = .ref p ∧ SqT K H p [.int lo, .int hi] ∧ -50 ≤ lo ∧ lo ≤ hi ∧ hi ≤ 50
theorem LoHi.tk {K : PySem.W.Frag} {H H' : Hp} {y : V} (h : LoHi K H y) (t : Tk H H') : LoHi K H' y :=
  let ⟨p, lo, hi, e, s, b⟩ := h
  ⟨p, lo, hi, e, t.sq s, b⟩
theorem loHi_new {K : PySem.W.Frag} {H : Hp} {p : Addr} {lo hi : Int} (b1 : -50 ≤ lo) (b2 : lo ≤ hi) (b3 : hi ≤ 50) : LoHi K (upd H p (.tup [.int lo, .int hi])) (.ref p) := ⟨p, lo, hi, rfl, SqT.of upd_same, b1, b2, b3⟩
theorem allLo {K : PySem.W.Frag} {H : Hp} {p : Addr} {lo hi : Int} {ys : List V} (hp : H p = none) (h : ∀ y ∈ ys, LoHi K H y) (b1 : -50 ≤ lo) (b2 : lo ≤ hi) (b3 : hi ≤ 50) : ∀ y ∈ ys ++ [V.ref p], LoHi K (upd H p (.tup [.int lo, .int hi])) y := fun y hy => by
  rcases List.mem_append.mp hy with m | m
  · exact (h y m).tk (Tk.new hp)
  · rw [List.mem_singleton.mp m]; exact loHi_new b1 b2 b3
theorem rules_dp {K : PySem.W.Frag} {H : Hp} {xs : List V} {rs : List Rl} (p : Paired (IsRf K H) xs rs) : ∃ ds, DpAll K H xs ds ∧ ∀ d ∈ ds, DOk d :=
  dp_all (R := fun v d => ∃ u, IsR K H v u ∧ d = dR u) (fun v d ⟨u, h, e⟩ => by rw [e]; exact h.dp) fun x hx => by
    obtain ⟨i, hi⟩ := List.mem_iff_getElem?.mp hx
    obtain ⟨u, _, iw⟩ := Paired.at1 p hi
    exact ⟨dR u, ⟨u, iw.1, rfl⟩, dR_ok u⟩
section
variable {P : Program} {w : World} {K : PySem.W.Frag} {mg : Str → Option Value} {base : Heap} {C C2 : Addr}
abbrev sDrawn : Stmt := topS 57
def spDrawn (K : PySem.W.Frag) : Sp := fun vs H Q _ => ∃ (l : Addr) (R : Addr × List Int), vs = [.ref l, .int 8] ∧ RowAt K R H l ∧ ∀ H' T U n told, Kp (· = l) H H' → RowAt K R H' l → H' T = some (.tup [.int (n : Nat), .ref U]) → IsTl K H' (.ref U) told → Ruled n told → told.length ≤ 100 → Q (.ref T) H'
theorem scDrawn : FnScope ["_law_row", "_law_most", "_law_many"] ["_law_row", "_law_most"] (defScope sDrawn) := ⟨rfl, rfl, rfl, by decide +kernel, rfl, by decide +kernel, by decide +kernel⟩
theorem cDrawn (c1 : Cal P w K mg base 1 "_law_taken" ["_law_row", "_law_many"] (spTaken K)) (c2 : Cal P w K mg base 3 "_law_some_rules" ["_law_row", "_law_many"] (spSome K)) (A : At K mg "_law_drawn" "_law_drawn" sDrawn ["_law_row", "_law_most"]) : Cal P w K mg base 4 "_law_drawn" ["_law_row", "_law_most"] (spDrawn K) := by
  refine A.cal scDrawn (fun vs H Q E h => ?_) (fun f cdv A outer s H vs Q E hr h => ?_)
  · obtain ⟨l, R, rfl, _⟩ := h
    rfl
  · obtain ⟨l, R, rfl, row, q⟩ := h
    refine ⟨_, pss_cons (ps_set (i := 2) scDrawn.nd rfl (Or.inl rfl) (pe_op op_add pe_int (pe_cl c1 (hr.mono (by decide)) (by rfl) (pa_cons (pv 0) (pa_cons (pv 1) pa_nil)))))
      (pss_one (ps_ret (pe_tup (pa_cons (pv 2) (pa_cons (pe_cl c2 hr (by rfl) (pa_cons (pv 0) (pa_cons (pv 2) pa_nil))) pa_nil))))), ?_⟩
    refine ⟨_, rfl, _, rfl, l, 8, R, rfl, row, by decide, by decide, fun H1 x k1 r1 x0 x8 => ⟨_, _, rfl, rfl, ?_⟩⟩
    obtain ⟨n, hn⟩ : ∃ n : Nat, 1 + x = (n : Int) := ⟨(1 + x).toNat, by omega⟩
    refine ⟨_, rfl, _, rfl, _, rfl, l, n, R, by show [V.ref l, V.int (1 + x)] = _; rw [hn], r1, by omega, by omega, fun H2 U told k2 r2 ht ru tl => ⟨by show 2 ≤ sizeLine; decide, fun T hT => ?_⟩⟩
    have s3 : Same H2 (upd H2 T (.tup [.int (1 + x), .ref U])) := samePut hT
    have e3 : upd H2 T (.tup [.int (1 + x), .ref U]) T = some (.tup [.int (n : Nat), .ref U]) := by rw [← hn]; exact upd_same
    exact q _ T U n told (kp_same (k1.trans k2) s3) (r2.same s3) e3 (ht.tk (tkS s3)) ru tl
abbrev sPrices : Stmt := topS 58
def spPrices (K : PySem.W.Frag) : Sp := fun vs H Q _ => ∃ (l : Addr) (n : Nat) (R : Addr × List Int), vs = [.ref l, .int n] ∧ RowAt K R H l ∧ n ≤ 8 ∧ ∀ H' T ps, Kp (· = l) H H' → RowAt K R H' l → H' T = some (.tup (ps.map V.int)) → Priced n ps → Q (.ref T) H'
theorem scPrices : FnScope ["_law_row", "_law_many", "_law_low", "_law_high", "_law_place"] ["_law_row", "_law_many"] (defScope sPrices) := ⟨rfl, rfl, rfl, by decide +kernel, rfl, by decide +kernel, by decide +kernel⟩
theorem cPrices (B : Bl mg) (c1 : Cal P w K mg base 1 "_law_taken" ["_law_row", "_law_many"] (spTaken K)) (c2 : Cal P w K mg base 2 "_law_pick" ["_law_row", "_law_things"] (spPick K)) (A : At K mg "_law_prices" "_law_prices" sPrices ["_law_row", "_law_many"]) : Cal P w K mg base 3 "_law_prices" ["_law_row", "_law_many"] (spPrices K) := by
  refine A.cal scPrices (fun vs H Q E h => ?_) (fun f cdv A outer s H vs Q E hr h => ?_)
  · obtain ⟨l, n, R, rfl, _⟩ := h
    rfl
  · obtain ⟨l, n, R, rfl, row, n8, q⟩ := h
    have hr1 : Room 1 (A.deeper (envOfC "_law_prices" (defScope sPrices) s.heap.objs.size f cdv)) := hr.mono (by decide)
    refine ⟨_, pss_cons (ps_asg (pe_cl c2 hr (by rfl) (pa_cons (pv 0) (pa_cons (pe_lst (pa_cons (pe_tup (pa_cons pe_int (pa_cons pe_int pa_nil))) (pa_cons (pe_tup (pa_cons pe_int (pa_cons pe_int pa_nil))) (pa_cons (pe_tup (pa_cons pe_int (pa_cons pe_int pa_nil)))
          (pa_cons (pe_tup (pa_cons (pe_un un_neg pe_int) (pa_cons pe_int pa_nil))) (pa_cons (pe_tup (pa_cons (pe_un un_neg pe_int) (pa_cons pe_int pa_nil))) (pa_cons (pe_tup (pa_cons pe_int (pa_cons pe_int pa_nil))) pa_nil))))))) pa_nil)))
        (pg_tup rfl (pgs_cons (pg_name (i := 2) scPrices.nd rfl (Or.inr rfl)) (pgs_cons (pg_name (i := 3) scPrices.nd rfl (Or.inr rfl)) pgs_nil))))
      (pss_one (ps_ret (pe_callTy call_tuple_of (by rfl) B.tuple boot_ty_tuple (pa_cons (pe_lc (own := [("_law_place", 4)]) (g := gName 4) (tt := tYes) (te := tOp (rI0 fun i j => .int (i + j)) (tVar 2) (tCall (spTaken K) [] E0 (tCons (tVar 0) (tCons (tOp (rI0 fun i j => .int (i + j)) (tOp (rI0 fun i j => .int (i - j)) (tVar 3) (tVar 2)) (tC (.int 1))) tNil))))
          (by rfl) scPrices.nd (pi_range1 (by rfl) B.range (pa_cons (pv 1) pa_nil)) (blkOk_by (own := [("_law_place", 4)]) (N := ["_law_row", "_law_many", "_law_low", "_law_high", "_law_place"]) (sc := defScope sPrices) (by decide +kernel))
          (fun _ _ _ _ _ => pg_name (i := 4) scPrices.nd rfl (Or.inl rfl)) (fun _ _ _ _ _ => pts_nil) (fun _ _ _ _ _ => pe_op op_add (pv 2) (pe_cl c1 hr1 (by rfl) (pa_cons (pv 0) (pa_cons (pe_op op_add (pe_op op_sub (pv 3) (pv 2)) pe_int) pa_nil))))) pa_nil)))), ?_⟩
    refine ⟨_, rfl, by show 2 ≤ sizeLine; decide, fun t1 h1 => ⟨by show 2 ≤ sizeLine; decide, fun t2 h2 => ⟨by show 2 ≤ sizeLine; decide, fun t3 h3 => ⟨_, rfl, by show 2 ≤ sizeLine; decide, fun t4 h4 => ⟨_, rfl, by show 2 ≤ sizeLine; decide, fun t5 h5 => ⟨by show 2 ≤ sizeLine; decide, fun t6 h6 => ⟨by show 6 ≤ sizeLine; decide, fun lt hlt => ?_⟩⟩⟩⟩⟩⟩⟩
    have a1 := allLo (K := K) (ys := []) (lo := 0) (hi := 4) h1 (fun y hy => nomatch hy) (by decide) (by decide) (by decide)
    have a2 := allLo (lo := 0) (hi := 2) h2 a1 (by decide) (by decide) (by decide)
    have a3 := allLo (lo := 0) (hi := 50) h3 a2 (by decide) (by decide) (by decide)
    have a4 := allLo (lo := -3) (hi := 3) h4 a3 (by decide) (by decide) (by decide)
    have a5 := allLo (lo := -50) (hi := 50) h5 a4 (by decide) (by decide) (by decide)
    have a6 := allLo (lo := 1) (hi := 1) h6 a5 (by decide) (by decide) (by decide)
    have s6 := ((((samePut h1 (o := .tup [.int 0, .int 4])).trans (samePut h2 (o := .tup [.int 0, .int 2]))).trans (samePut h3 (o := .tup [.int 0, .int 50]))).trans (samePut h4 (o := .tup [.int (-3), .int 3]))).trans ((samePut h5 (o := .tup [.int (-50), .int 50])).trans (samePut h6 (o := .tup [.int 1, .int 1])))
    have s7 := s6.trans (samePut hlt (o := .lst [.ref t1, .ref t2, .ref t3, .ref t4, .ref t5, .ref t6]))
    have nl : lt ≠ l := fun z => by
      obtain ⟨_, _, _, hl, _⟩ := row.same s6
      rw [← z] at hl
      rw [hlt] at hl
      cases hl
    have row7 := row.same s7
    refine ⟨l, lt, _, R, rfl, row7, nl, upd_same, by show 0 < 6; decide, by show 6 < 1000000; decide, fun H8 y k8 r8 my => ?_⟩
    obtain ⟨p, lo, hi, rfl, sp, b1, b2, b3⟩ := ((a6 y my).tk (Tk.new hlt (o := .lst [.ref t1, .ref t2, .ref t3, .ref t4, .ref t5, .ref t6]))).tk (row7.tk k8)
    have k08 : Kp (· = l) H H8 := (kpS s7).trans k8
    refine ⟨p, _, rfl, sp, rfl, _, _, rfl, _, _, rfl, rfl, ?_⟩
    clear a1 a2 a3 a4 a5 a6 h1 h2 h3 h4 h5 h6 s6 s7 row7 k8 my hlt
    refine ⟨_, rfl, n, rfl, by omega, by omega, fun D hD => ?_⟩
    have nD : D ≠ l := fun z => by
      obtain ⟨_, _, _, hl, _⟩ := r8
      rw [← z, hD] at hl
      cases hl
    let Pv : Nat → Hp → Prop := fun i H2 => Kp (· = l) H8 H2 ∧ RowAt K R H2 l ∧ ∃ ms : List Int, H2 D = some (.lst (ms.map V.int)) ∧ ms.length = i ∧ ∀ m ∈ ms, -50 ≤ m ∧ m ≤ 50
    refine lc_it (walk_range (lo := 0) (n := n)) Pv ⟨kpS (samePut hD), r8.same (samePut hD), [], upd_same, rfl, fun m hm => nomatch hm⟩ (fun _ _ _ _ => True.intro) ?_ ?_
    · rintro i x H9 H2 hi' ⟨k2, r2, ms, e, ml, mb⟩ ⟨rfl, rfl⟩
      refine ⟨rfl, _, rfl, _, rfl, _, rfl, _, rfl, _, _, rfl, rfl, _, _, rfl, rfl, l, _, R, rfl, r2, by omega, by omega, fun H3 x k3 r3 x0 x1 => ⟨_, _, rfl, rfl, ?_⟩⟩
      have e3 := k3 _ _ nD e
      refine ⟨_, e3, szBig (by rw [List.length_map, ml]; omega), kp_over hD (k2.trans k3), RowAt.put r8 hD r3 nD, ms ++ [lo + x], by rw [upd_same, List.map_append]; rfl, by rw [List.length_append, ml]; rfl, fun m hm => ?_⟩
      rcases List.mem_append.mp hm with z | z
      · exact mb m z
      · rw [List.mem_singleton.mp z]; omega
    · rintro H2 ⟨k2, r2, ms, e, ml, mb⟩
      refine ⟨D, _, rfl, .inl ⟨SqL.of e, fun T hT => ?_⟩⟩
      exact q _ T ms (kp_same (k08.trans k2) (samePut hT)) (r2.same (samePut hT)) upd_same ⟨ml, mb⟩
abbrev sLCost : Stmt := topS 59
def spLCost (K : PySem.W.Frag) : Sp := fun vs H Q _ => ∃ (p v : V) (n : Nat) (ps hs : List Int), vs = [p, v] ∧ IsTi K H p ps ∧ IsTi K H v hs ∧ Priced n ps ∧ hs.length = n ∧ n ≤ 8 ∧ ∀ H', Same H H' → Q (.int (cost ps hs)) H'
theorem scLCost : FnScope ["_law_prices_here", "_law_row", "_law_at"] ["_law_prices_here", "_law_row"] (defScope sLCost) := ⟨rfl, rfl, rfl, by decide +kernel, rfl, by decide +kernel, by decide +kernel⟩
theorem cLCost (B : Bl mg) (A : At K mg "_law_cost" "_law_cost" sLCost ["_law_prices_here", "_law_row"]) : Cal P w K mg base 1 "_law_cost" ["_law_prices_here", "_law_row"] (spLCost K) := by
  refine A.cal scLCost (fun vs H Q E h => ?_) (fun f cdv A outer s H vs Q E hr h => ?_)
  · obtain ⟨p, v, n, ps, hs, rfl, _⟩ := h
    rfl
  · obtain ⟨p, v, n, ps, hs, rfl, ⟨a, rfl, sa⟩, ⟨b, rfl, sb⟩, pr, hl, n8, q⟩ := h
    refine ⟨_, pss_one (ps_ret (x_sum B (pe_lc (own := [("_law_at", 2)]) (g := gName 2) (tt := tYes) (te := tOp (rI CMul fun i j => .int (i * j)) (tOp (rIxT K) (tVar 0) (tVar 2)) (tOp (rIxT K) (tVar 1) (tVar 2))) (by rfl) scLCost.nd (pi_range1 (by rfl) B.range (pa_cons (x_len B (pv 1)) pa_nil)) (blkOk_by (own := [("_law_at", 2)]) (N := ["_law_prices_here", "_law_row", "_law_at"]) (sc := defScope sLCost) (by decide +kernel))
          (fun _ _ _ _ _ => pg_name (i := 2) scLCost.nd rfl (Or.inl rfl)) (fun _ _ _ _ _ => pts_nil) (fun _ _ _ _ _ => pe_op op_mul (x_ix (pv 0) (pv 2)) (x_ix (pv 1) (pv 2)))))), ?_⟩
    refine ⟨_, rfl, b, _, rfl, .inr sb, n, by rw [List.length_map, hl], by omega, by omega, fun D hD => ?_⟩
    let F : Nat → V → Hp → Prop := fun i y _ => ∃ m, (List.zipWith (fun a b => a * b) ps hs)[i]? = some m ∧ y = V.int m
    have kf : ByT F := fun _ _ _ _ _ h => h
    have zl : (List.zipWith (fun a b => a * b) ps hs).length = n := by rw [List.length_zipWith, pr.1, hl, Nat.min_self]
    refine lc_it (walk_range (lo := 0) (n := n)) (PvAll F H D) (PvAll.zero hD) (fun _ _ _ _ => True.intro) ?_ ?_
    · rintro i x H9 H2 hi' p2 ⟨rfl, rfl⟩
      have ei : (0 : Int) + (i : Nat) = (i : Nat) := Int.zero_add _
      have ip : i < ps.length := by rw [pr.1]; exact hi'
      have ih : i < hs.length := by rw [hl]; exact hi'
      have t2 := tkS p2.1
      have bp := pr.2 _ (List.getElem_mem ip)
      have e1 : (ps.map V.int)[i]? = some (.int ps[i]) := by rw [List.getElem?_map, List.getElem?_eq_getElem ip]; rfl
      have e2 : (hs.map V.int)[i]? = some (.int hs[i]) := by rw [List.getElem?_map, List.getElem?_eq_getElem ih]; rfl
      refine ⟨rfl, _, rfl, _, rfl, a, _, _, _, rfl, rfl, t2.sq sa, by show atI (ps.map V.int) ((0 : Int) + (i : Nat)) = _; rw [ei]; exact atI_nat e1, _, rfl, _, rfl, b, _, _, _, rfl, rfl, t2.sq sb, by show atI (hs.map V.int) ((0 : Int) + (i : Nat)) = _; rw [ei]; exact atI_nat e2, _, _, rfl, rfl, .inl ⟨by omega, by omega⟩, ?_⟩
      exact PvAll.next kf hD p2 (Same.refl _) ⟨ps[i] * hs[i], by rw [List.getElem?_zipWith, List.getElem?_eq_getElem ip, List.getElem?_eq_getElem ih], rfl⟩ (szBig (by omega))
    · rintro H2 ⟨s2, ys, e, hyl, hy⟩
      refine ⟨D, List.zipWith (fun a b => a * b) ps hs, rfl, SqL.of (by rw [e, ints_list (by rw [hyl, zl]) hy]), q _ s2⟩
abbrev sHave : Stmt := topS 60
theorem scHave : FnScope ["_law_row", "_law_want"] ["_law_row", "_law_want"] (defScope sHave) := ⟨rfl, rfl, rfl, by decide +kernel, rfl, by decide +kernel, by decide +kernel⟩
theorem cHave (A : At K mg "_law_have" "_law_have" sHave ["_law_row", "_law_want"]) : Cal P w K mg base 1 "_law_have" ["_law_row", "_law_want"] (spHalvesOf K) := by
  refine A.cal scHave (fun vs H Q E h => ?_) (fun f cdv A outer s H vs Q E hr h => ?_)
  · obtain ⟨z, x, hs, u, rfl, _⟩ := h
    rfl
  · obtain ⟨z, x, hs, u, rfl, ⟨a, rfl, sa⟩, ⟨b, rfl, sb⟩, ok, q⟩ := h
    refine ⟨_, pss_one (ps_ret (pe_ifExp (pt_cmpR op_eq (x_ix (pv 1) pe_int) pe_int (nomark _)) (x_ix (pv 0) (x_ix (pv 1) pe_int)) (pe_op op_sub pe_int (x_ix (pv 0) (x_ix (pv 1) pe_int))))), ?_⟩
    have at0 := atI_getD ok.1 ok.2.1
    refine ⟨_, rfl, b, _, _, _, rfl, rfl, sb, rfl, rfl, _, rfl, ?_⟩
    rw [dec_int]
    unfold hv at q
    by_cases e : u.2 = 1
    · rw [if_pos e] at q
      rw [if_pos (decide_eq_true e)]
      exact ⟨_, rfl, _, rfl, b, _, _, _, rfl, rfl, sb, rfl, a, _, _, _, rfl, rfl, sa, at0, q⟩
    · rw [if_neg e] at q
      rw [if_neg (fun h => e (of_decide_eq_true h))]
      exact ⟨_, rfl, _, rfl, b, _, _, _, rfl, rfl, sb, rfl, a, _, _, _, rfl, rfl, sa, at0, _, _, rfl, rfl, q⟩
abbrev sLKeepsH : Stmt := topS 61
def spLKeepsH (K : PySem.W.Frag) : Sp := fun vs H Q _ => ∃ (t z : V) (told : List Rl) (hs : List Int), vs = [t, z] ∧ IsTl K H t told ∧ IsTi K H z hs ∧ told.length ≤ 1000 ∧ (∀ r ∈ told, OkW hs.length r.1 ∧ OkW hs.length r.2) ∧ ∀ H', Same H H' → Q (.bl (told.all (keptHb hs))) H'
theorem scLKeepsH : FnScope ["_law_rules", "_law_row", "_law_rule"] ["_law_rules", "_law_row"] (defScope sLKeepsH) := ⟨rfl, rfl, rfl, by decide +kernel, rfl, by decide +kernel, by decide +kernel⟩
theorem cLKeepsH (c : Cal P w K mg base 1 "_law_have" ["_law_row", "_law_want"] (spHalvesOf K)) (A : At K mg "_law_keeps_halves" "_law_keeps_halves" sLKeepsH ["_law_rules", "_law_row"]) : Cal P w K mg base 2 "_law_keeps_halves" ["_law_rules", "_law_row"] (spLKeepsH K) := by
  refine A.cal scLKeepsH (fun vs H Q E h => ?_) (fun f cdv A outer s H vs Q E hr h => ?_)
  · obtain ⟨t, z, told, hs, rfl, _⟩ := h
    rfl
  · obtain ⟨t, z, told, hs, rfl, ⟨a, xs, rfl, sa, pr⟩, hz, tl, ok, q⟩ := h
    refine ⟨_, pss_one (ps_ret (pe_cmpR (op_eqNil hr.units) (pe_lc (own := [("_law_rule", 2)]) (g := gName 2) (tt := tTest (tOp (rI0 fun i j => .bl (decide (i < j))) (tOp (rI0 fun i j => .int (i + j)) (tCall (spHalvesOf K) [] E0 (tCons (tVar 1) (tCons (tOp (rIxT K) (tVar 2) (tC (.int 0))) tNil))) (tCall (spHalvesOf K) [] E0 (tCons (tVar 1) (tCons (tOp (rIxT K) (tVar 2) (tC (.int 1))) tNil)))) (tC (.int 2)))) (te := tVar 2) (by rfl) scLKeepsH.nd (pi_tup (pv 0)) (blkOk_by (own := [("_law_rule", 2)]) (N := ["_law_rules", "_law_row", "_law_rule"]) (sc := defScope sLKeepsH) (by decide +kernel))
          (fun _ _ _ _ _ => pg_name (i := 2) scLKeepsH.nd rfl (Or.inl rfl)) (fun _ _ _ _ _ => pts_one (pt_cmpR op_lt (pe_op op_add (pe_cl c hr (by rfl) (pa_cons (pv 1) (pa_cons (x_ix (pv 2) pe_int) pa_nil))) (pe_cl c hr (by rfl) (pa_cons (pv 1) (pa_cons (x_ix (pv 2) pe_int) pa_nil)))) pe_int (nomark _))) (fun _ _ _ _ _ => pv 2)) (pe_lst pa_nil) (nomark _))), ?_⟩
    have tkF : ∀ {H H' : Hp} {v : V} {a : Rl}, Tk H H' → IsRf K H v a → IsRf K H' v a := fun t y => IsRf.tk y t
    have xl := Paired.len pr
    refine ⟨_, rfl, a, rfl, ⟨_, sa⟩, fun D hD => ?_⟩
    refine lc_it (walk_tup (K := K) (a := a) (xs := xs)) (PvKeep (IsRf K) (fun r => keptHb hs r = false) told H D) (PvKeep.zero hD) (fun i H' _ p => (tkS p.1).sq sa) ?_ ?_
    · rintro i x H9 H2 hi p2 ⟨rfl, hx⟩
      obtain ⟨r, hr', ir⟩ := Paired.at1 pr hx
      have irf := ir.tk (tkS p2.1)
      obtain ⟨⟨b, x1, x2, rfl, sb, w1, w2⟩, _⟩ := id irf
      have o := ok r (List.mem_of_getElem? hr')
      have hz2 := hz.tk (tkS p2.1)
      refine ⟨rfl, _, rfl, _, rfl, b, _, _, _, rfl, rfl, sb, rfl, z, x1, hs, r.1, rfl, hz2, w1, o.1, _, rfl, _, rfl, b, _, _, _, rfl, rfl, sb, rfl, z, x2, hs, r.2, rfl, hz2, w2, o.2, _, _, rfl, rfl, _, _, rfl, rfl, _, rfl, ?_⟩
      refine ite2 (fun h => ⟨_, rfl, PvKeep.yes tkF hD p2 (Same.refl _) hr' irf ?_ (szBig (by omega))⟩) (fun h => PvKeep.no tkF p2 (Same.refl _) hr' fun y => h ?_)
      · have := of_decide_eq_true h
        exact decide_eq_false (by omega)
      · have := of_decide_eq_false y
        exact decide_eq_true (by omega)
    · rintro H2 ⟨s2, zs, qs, e, len, pq, mem⟩
      rw [xl, List.take_length] at mem
      refine ⟨Nat.zero_le _, fun e2 he2 => ?_⟩
      have s3 : Same H2 (upd H2 e2 (.lst [])) := samePut he2
      obtain ⟨ds, d1, d2⟩ := rules_dp (Paired.mono (fun _ _ y => IsRf.tk y (tkS s3)) pq)
      refine ⟨D, e2, zs, ds, rfl, rfl, SqL.of (s3 _ _ e), d1, d2, SqL.of upd_same, ?_⟩
      have ans : (false != zs.isEmpty) = told.all (keptHb hs) := by
        cases hq : zs with
        | nil =>
          have q0 : qs = [] := by
            have := Paired.len pq
            rw [hq] at this
            exact List.eq_nil_of_length_eq_zero this.symm
          have : told.all (keptHb hs) = true := List.all_eq_true.mpr fun r hr' => by
            cases k : keptHb hs r with
            | true => rfl
            | false =>
              have := (mem r).mpr ⟨hr', k⟩
              rw [q0] at this
              cases this
          rw [this]; rfl
        | cons y ys =>
          have : told.all (keptHb hs) = false := by
            cases k : told.all (keptHb hs) with
            | false => rfl
            | true =>
              cases qs with
              | nil => rw [hq] at pq; cases pq
              | cons r rs =>
                have m := (mem r).mp List.mem_cons_self
                have := List.all_eq_true.mp k r m.1
                rw [m.2] at this
                cases this
          rw [this]; rfl
      rw [ans]
      exact q _ (s2.trans s3)
end
end K74

set_option Elab.async false
set_option linter.all false
set_option maxRecDepth 100000
set_option maxHeartbeats 4000000
namespace K74
open PySem PySem.Spec PyProof.Rows L2
/-! ### sum of a tuple of ints -/
def rSumT (K : PySem.W.Frag) : List V → Hp → VK → Prop := fun vs H Q => ∃ (a : Addr) (ns : List Int), vs = [V.ref a] ∧ SqT K H a (ns.map V.int) ∧ Q (.int ns.sum) H
theorem cr_sumT {X : Cx} (hc : X.calm = true) : CallR X (.builtin "sum") (rSumT X.K) := by
  intro pins s σ H vs us Q I r h
  obtain ⟨a, ns, rfl, hs, q⟩ := h
  obtain ⟨its, rv, ht, _⟩ := I.tuple hs
  rw [Vals.ref1 r]
  obtain ⟨xs, e⟩ := rv.ints.allInts.items
  have hn : numsOf (intItems xs).toList = ns := by rw [← e]; exact rv.ints.numsOf
  rw [nums_intItems] at hn
  rw [e] at ht
  refine PySem.W.ktm_sumG (I.ok.hd hc) ht fun h' tk t' hk => ?_
  rw [preSum_eq, List.take_of_length_le (by simp), hn]
  exact ⟨.int _, H, I.kept hk, ⟨_, rfl⟩, q⟩
/-! ### half rows: all ones; a row doubled -/
theorem hv_ones {n : Nat} {u : Wt} (h : OkW n u) : hv (List.replicate n 1) u = 1 := by
  have hl : u.1.toNat < n := by
    have := h.1
    have := h.2.1
    omega
  have e : (List.replicate n (1 : Int)).getD u.1.toNat 0 = 1 := by
    rw [List.getD_eq_getElem?_getD, List.getElem?_replicate, if_pos hl]; rfl
  unfold hv
  rw [e]
  split <;> rfl
theorem ones_cost : ∀ (ps : List Int), cost ps (List.replicate ps.length 1) = ps.sum
  | [] => rfl
  | p :: ps => by
    have ih := ones_cost ps
    unfold cost at ih ⊢
    rw [List.length_cons, List.replicate_succ, List.zipWith_cons_cons, List.sum_cons, List.sum_cons, ih, Int.mul_one]
theorem least_ones {n : Nat} {ps : List Int} {told : List Rl} {m : Int} (pr : Priced n ps) (T : Told n told) (h : IsLeast n ps told m) : m ≤ ps.sum := by
  have q := h.1 (List.replicate ps.length 1) ⟨by rw [List.length_replicate, pr.1], fun x hx => by rw [List.eq_of_mem_replicate hx]; decide⟩ fun r hr => by
    have o := T.ends r hr
    rw [pr.1, hv_ones o.1, hv_ones o.2]; decide
  rw [ones_cost] at q
  exact q
theorem dbl_cost : ∀ (ps r : List Int), cost ps (r.map (2 * ·)) = 2 * cost ps r
  | [], _ => by simp [cost]
  | _ :: _, [] => by simp [cost]
  | p :: ps, x :: r => by
    have ih := dbl_cost ps r
    unfold cost at ih ⊢
    rw [List.map_cons, List.zipWith_cons_cons, List.zipWith_cons_cons, List.sum_cons, List.sum_cons, ih, Int.mul_add, ← Int.mul_assoc, Int.mul_comm p 2, Int.mul_assoc]
theorem hv_dbl {n : Nat} {r : List Int} {u : Wt} (R : Row n r) (h : OkW n u) : 0 ≤ hv (r.map (2 * ·)) u ∧ (hasR r u = true → hv (r.map (2 * ·)) u = 2) := by
  have hl : u.1.toNat < r.length := by
    rw [R.1]
    have := h.1
    have := h.2.1
    omega
  have e1 : r.getD u.1.toNat 0 = r[u.1.toNat] := by rw [List.getD_eq_getElem?_getD, List.getElem?_eq_getElem hl]; rfl
  have e2 : (r.map (2 * ·)).getD u.1.toNat 0 = 2 * r[u.1.toNat] := by rw [List.getD_eq_getElem?_getD, List.getElem?_map, List.getElem?_eq_getElem hl]; rfl
  have b := R.2 _ (List.getElem_mem hl)
  unfold hv hasR
  rw [e1, e2]
  refine ⟨by split <;> omega, fun z => ?_⟩
  have z := of_decide_eq_true z
  rcases h.2.2 with k | k
  · rw [if_neg (by omega)]; omega
  · rw [if_pos k]; omega
theorem least_row {n : Nat} {ps : List Int} {told : List Rl} {m : Int} {r : List Int} (T : Told n told) (h : IsLeast n ps told m) (R : Row n r) (k : told.all (keptR r) = true) : m ≤ 2 * cost ps r := by
  rw [← dbl_cost]
  refine h.1 _ ⟨by rw [List.length_map, R.1], fun x hx => ?_⟩ fun q hq => ?_
  · obtain ⟨y, hy, rfl⟩ := List.mem_map.mp hx
    rcases R.2 y hy with z | z <;> rw [z] <;> decide
  · have o := T.ends q hq
    have a := hv_dbl R o.1
    have b := hv_dbl R o.2
    have c := List.all_eq_true.mp k q hq
    unfold keptR at c
    rcases Bool.or_eq_true_iff.mp c with z | z
    · have := a.2 z
      have := b.1
      omega
    · have := b.2 z
      have := a.1
      omega
theorem IsBest.uniq {n : Nat} {told : List Rl} {ps : List Int} {a b : Int} (x : IsBest n told ps a) (y : IsBest n told ps b) : a = b := by
  obtain ⟨⟨r, r1, r2, r3⟩, x2⟩ := x
  obtain ⟨⟨q, q1, q2, q3⟩, y2⟩ := y
  have := x2 q q1 q2
  have := y2 r r1 r2
  omega
theorem kept_iff {told : List Rl} {hs : List Int} : told.all (keptHb hs) = true ↔ KeptH told hs := by
  rw [List.all_eq_true]
  exact ⟨fun h r hr => of_decide_eq_true (h r hr), fun h r hr => decide_eq_true (h r hr)⟩
/-! ### what stands while the law asks -/
structure LawS (K : PySem.W.Frag) (C : Addr) (R : Addr × List Int) (H : Hp) (l : Addr) (n : Nat) (told : List Rl) (ps : List Int) (m : Int) (t v p : V) (D : Addr) : Prop where
  row : RowAt K R H l
  tl : IsTl K H t told
  ru : Ruled n told
  len : told.length ≤ 100
  rs : IsRs K C H v n told
  pr : IsTi K H p ps
  prc : Priced n ps
  least : IsLeast n ps told m
  rows : RowsAt K H D (fun r => Row n r ∧ told.all (keptR r) = true)
  nD : D ≠ l
theorem RowsAt.kp {K : PySem.W.Frag} {H H' : Hp} {D l : Addr} {ok : List Int → Prop} (h : RowsAt K H D ok) (ne : D ≠ l) (k : Kp (· = l) H H') (t : Tk H H') : RowsAt K H' D ok :=
  let ⟨ys, rs, a, b, c⟩ := h
  ⟨ys, rs, k _ _ ne a, Paired.mono (fun _ _ y => IsTi.tk y t) b, c⟩
theorem IsRs.kp {K : PySem.W.Frag} {C : Addr} {H H' : Hp} {v : V} {n l : Nat} {told : List Rl} {xs : List V} (h : IsRs K C H v n told) (hl : H l = some (.lst xs)) (k : Kp (· = l) H H') : IsRs K C H' v n told := by
  have t := tk_kp hl k
  obtain ⟨a, dx, t0, e, ha, ht⟩ := h
  exact ⟨a, dx, t0, e, k _ _ (fun z => by rw [z, hl] at ha; cases ha) ha, ht.tk t⟩
theorem LawS.kp {K : PySem.W.Frag} {C : Addr} {R : Addr × List Int} {H H' : Hp} {l : Addr} {n : Nat} {told : List Rl} {ps : List Int} {m : Int} {t v p : V} {D : Addr} (h : LawS K C R H l n told ps m t v p D) (k : Kp (· = l) H H') (r : RowAt K R H' l) : LawS K C R H' l n told ps m t v p D := by
  have tk := h.row.tk k
  obtain ⟨_, _, _, hl, _⟩ := h.row
  exact { h with row := r, tl := h.tl.tk tk, rs := h.rs.kp hl k, pr := h.pr.tk tk, rows := h.rows.kp h.nD k tk }
theorem LawS.same {K : PySem.W.Frag} {C : Addr} {R : Addr × List Int} {H H' : Hp} {l : Addr} {n : Nat} {told : List Rl} {ps : List Int} {m : Int} {t v p : V} {D : Addr} (h : LawS K C R H l n told ps m t v p D) (s : Same H H') : LawS K C R H' l n told ps m t v p D := h.kp (kpS s) (h.row.same s)
end K74

set_option Elab.async false
set_option linter.all false
set_option maxRecDepth 100000
set_option maxHeartbeats 4000000
namespace K74
open PySem PySem.Spec PyProof.Rows L2
section
variable {P : Program} {w : World} {K : PySem.W.Frag} {mg : Str → Option Value} {base : Heap} {C C2 : Addr}
abbrev sLaw : Stmt := topS 62
def spLaw (K : PySem.W.Frag) : Sp := fun vs H Q _ => ∃ (a : Addr) (ns : List Int), vs = [.ref a] ∧ SqL K H a (ns.map V.int) ∧ ns.length ≤ 63 ∧ ∀ H', Q (.bl true) H'
theorem scLaw : FnScope ["_law_script", "_law_row", "_law_many", "_law_told", "_law_rules", "_law_prices_here", "_law_least", "_law_rows_here", "_law_turn", "_law_payments", "_law_halves", "_law_best", "_law_rule", "_law_place", "_law_one"] ["_law_script"] (defScope sLaw) := ⟨rfl, rfl, rfl, by decide +kernel, rfl, by decide +kernel, by decide +kernel⟩
theorem pick3 {y : V} (h : y ∈ [V.int 1, V.int 3, V.int 60]) : ∃ i : Int, y = .int i ∧ 1 ≤ i ∧ i ≤ 60 := by
  rcases List.mem_cons.mp h with e | h
  · exact ⟨1, e, by decide, by decide⟩
  · rcases List.mem_cons.mp h with e | h
    · exact ⟨3, e, by decide, by decide⟩
    · exact ⟨60, List.mem_singleton.mp h, by decide, by decide⟩
theorem cLaw (B : Bl mg) (LR : ClR K mg C)
    (cTk : Cal P w K mg base 1 "_law_taken" ["_law_row", "_law_many"] (spTaken K)) (cPk : Cal P w K mg base 2 "_law_pick" ["_law_row", "_law_things"] (spPick K)) (cDr : Cal P w K mg base 4 "_law_drawn" ["_law_row", "_law_most"] (spDrawn K))
    (cRI : ICal P w K mg base C 4 ["self", "many", "rules"] (spRInit K C)) (cPr : Cal P w K mg base 3 "_law_prices" ["_law_row", "_law_many"] (spPrices K)) (cLH : Cal P w K mg base 7 "least_half_cost" ["rules", "prices"] (spLeast K C)) (cKp : Cal P w K mg base 2 "_law_kept" ["_law_many", "_law_rules"] (spKept K))
    (cPB : Cal P w K mg base 3 "payment_bound" ["rules", "prices", "payments"] (spPayBound K C)) (cKH : Cal P w K mg base 3 "keeps_halves" ["rules", "value"] (spKeepsH K C)) (cLK : Cal P w K mg base 2 "_law_keeps_halves" ["_law_rules", "_law_row"] (spLKeepsH K)) (cHC : Cal P w K mg base 3 "half_cost" ["rules", "prices", "halves"] (spHalfCost K C))
    (cPF : Cal P w K mg base 6 "payments_for" ["rules", "prices"] (spBpay K C)) (cLC : Cal P w K mg base 1 "_law_cost" ["_law_prices_here", "_law_row"] (spLCost K)) (cGp : Cal P w K mg base 7 "gap" ["rules", "prices"] (spGap K C)) (cCh : Cal P w K mg base 6 "cheapest" ["rules", "prices"] (spCheapest K C))
    {f : Addr} {fd : FuncData} (F0 : Fun K "law" "law" sLaw f fd) : FnOk P w K mg base CX0 8 f fd ["_law_script"] (spLaw K) := by
  refine F0.ok scLaw (fun vs H Q E h => ?_) (fun cdv A outer s H vs Q E hr h => ?_)
  · obtain ⟨a, ns, rfl, _⟩ := h
    rfl
  · obtain ⟨sl, ns, rfl, hs, hn, q⟩ := h
    have R6 : Room 6 (A.deeper (envOfC "law" (defScope sLaw) s.heap.objs.size f cdv)) := hr.mono (by decide)
    have R5 : Room 5 (A.deeper (envOfC "law" (defScope sLaw) s.heap.objs.size f cdv)) := hr.mono (by decide)
    have R4 : Room 4 (A.deeper (envOfC "law" (defScope sLaw) s.heap.objs.size f cdv)) := hr.mono (by decide)
    have R3 : Room 3 (A.deeper (envOfC "law" (defScope sLaw) s.heap.objs.size f cdv)) := hr.mono (by decide)
    have R2 : Room 2 (A.deeper (envOfC "law" (defScope sLaw) s.heap.objs.size f cdv)) := hr.mono (by decide)
    have R1 : Room 1 (A.deeper (envOfC "law" (defScope sLaw) s.heap.objs.size f cdv)) := hr.mono (by decide)
    -- the last answer
    have t8 : ∃ tt, PSs (cxOf CX0 P w K mg base ["_law_script", "_law_row", "_law_many", "_law_told", "_law_rules", "_law_prices_here", "_law_least", "_law_rows_here", "_law_turn", "_law_payments", "_law_halves", "_law_best", "_law_rule", "_law_place", "_law_one"] "law" (defScope sLaw) f cdv A outer s H E).nox ((defBody sLaw).drop 7) tt ∧ ∀ (σ : L2.St) H1 R l n told ps m t v p D v0 a8 a9 a10 (b : V), LawS K C R H1 l n told ps m t v p D → ((b = .non ∧ ∀ r, Row n r → told.all (keptR r) = false) ∨ ∃ k, b = .int k ∧ IsBest n told ps k) →
        σ = [v0, some (.ref l), some (.int (n : Nat)), some t, some v, some p, some (.int m), some (.ref D), a8, a9, a10, some b, none, none, none] → tt { nx := fun _ H' => Q .non H', rt := Q } σ H1 := by
      refine ⟨_, pss_cons (ps_if (pt_cmpR op_isN (pv 11) pe_non (nomark _))
          (pss_one (ps_ret (pe_and (pe_cmpR op_isN (pe_cl cGp hr (by rfl) (pa_cons (pv 4) (pa_cons (pv 5) pa_nil))) pe_non (nomark _)) (pe_one (pe_cmpR op_isN (pe_cl cCh R6 (by rfl) (pa_cons (pv 4) (pa_cons (pv 5) pa_nil))) pe_non (nomark _)))))) pss_nil)
        (pss_one (ps_ret (pe_and (pe_cmpR op_eq (pe_cl cGp hr (by rfl) (pa_cons (pv 4) (pa_cons (pv 5) pa_nil))) (pe_op op_sub (pe_op op_mul pe_int (pv 11)) (pv 6)) (nomark _)) (pe_one (pe_cmpR op_ge (pe_op op_mul pe_int (pv 11)) (pv 6) (nomark _)))))), ?_⟩
      rintro σ H1 R l n told ps m t v p D v0 a8 a9 a10 b L hb rfl
      rcases hb with ⟨rfl, no⟩ | ⟨k, rfl, best⟩
      · refine ⟨_, rfl, rfl, true, rfl, iteT ?_⟩
        refine ⟨_, rfl, _, rfl, v, p, n, told, ps, rfl, L.rs, L.pr, L.prc, L.ru, by have := L.len; omega, fun _ H2 s2 => ⟨rfl, true, rfl, iteT ?_⟩, fun H2 b' m' s2 hb' hm' => ?_⟩
        · have L2' := L.same s2
          exact ⟨_, rfl, _, rfl, v, p, n, told, ps, rfl, L2'.rs, L.ru, by have := L.len; omega, L2'.pr, L.prc, no, fun H3 s3 => ⟨rfl, q _⟩⟩
        · obtain ⟨⟨r, r1, r2, _⟩, _⟩ := hb'
          rw [no r r1] at r2
          cases r2
      · refine ⟨_, rfl, rfl, false, rfl, iteF ?_⟩
        refine ⟨_, rfl, _, rfl, v, p, n, told, ps, rfl, L.rs, L.pr, L.prc, L.ru, by have := L.len; omega, fun no H2 s2 => ?_, fun H2 b' m' s2 hb' hm' => ?_⟩
        · obtain ⟨⟨r, r1, r2, _⟩, _⟩ := best
          rw [no r r1] at r2
          cases r2
        · have e1 := hb'.uniq best
          have e2 := hm'.uniq L.least
          subst e1 e2
          have ge : m' ≤ 2 * b' := by
            obtain ⟨⟨r, r1, r2, r3⟩, _⟩ := best
            rw [← r3]
            exact least_row L.ru.told L.least r1 r2
          refine ⟨_, rfl, _, _, rfl, rfl, .inl ⟨by decide, by decide⟩, _, rfl, _, _, rfl, rfl, rfl, _, rfl, ?_⟩
          rw [decide_eq_true rfl]
          refine iteT ⟨_, rfl, _, _, rfl, rfl, .inl ⟨by decide, by decide⟩, _, rfl, _, _, rfl, rfl, ?_⟩
          show Q (.bl (decide (m' ≤ 2 * b'))) H2
          rw [decide_eq_true ge]
          exact q _
    obtain ⟨t8_, p8, h8⟩ := t8
    -- the best row
    have t7 : ∃ tt, PSs (cxOf CX0 P w K mg base ["_law_script", "_law_row", "_law_many", "_law_told", "_law_rules", "_law_prices_here", "_law_least", "_law_rows_here", "_law_turn", "_law_payments", "_law_halves", "_law_best", "_law_rule", "_law_place", "_law_one"] "law" (defScope sLaw) f cdv A outer s H E).nox ((defBody sLaw).drop 6) tt ∧ ∀ (σ : L2.St) H1 R l n told ps m t v p D v0 a8 a9 a10 a11, LawS K C R H1 l n told ps m t v p D → σ = [v0, some (.ref l), some (.int (n : Nat)), some t, some v, some p, some (.int m), some (.ref D), a8, a9, a10, a11, none, none, none] → tt { nx := fun _ H' => Q .non H', rt := Q } σ H1 := by
      refine ⟨_, pss_cons (ps_set (i := 11) scLaw.nd rfl (Or.inl rfl) (pe_ifExp (pt_cmpR (op_neNil hr.units) (pv 7) (pe_lst pa_nil) (nomark _))
          (x_min B (pe_lc (own := [("_law_one", 14)]) (g := gName 14) (tt := tYes) (te := tCall (spLCost K) [] E0 (tCons (tVar 5) (tCons (tVar 14) tNil))) (by rfl) scLaw.nd (pi_list (pv 7)) (blkOk_by (own := [("_law_one", 14)]) (N := ["_law_script", "_law_row", "_law_many", "_law_told", "_law_rules", "_law_prices_here", "_law_least", "_law_rows_here", "_law_turn", "_law_payments", "_law_halves", "_law_best", "_law_rule", "_law_place", "_law_one"]) (sc := defScope sLaw) (by decide +kernel))
            (fun _ _ _ _ _ => pg_name (i := 14) scLaw.nd rfl (Or.inl rfl)) (fun _ _ _ _ _ => pts_nil) (fun _ _ _ _ _ => pe_cl cLC R1 (by rfl) (pa_cons (pv 5) (pa_cons (pv 14) pa_nil))))) pe_non)) p8, ?_⟩
      rintro σ H1 R l n told ps m t v p D v0 a8 a9 a10 a11 L rfl
      obtain ⟨ys, rs, e1, py, mem, yl⟩ := L.rows
      refine ⟨_, rfl, Nat.zero_le _, fun e he => ?_⟩
      have s2 : Same H1 (upd H1 e (.lst [])) := samePut he
      have e2 : upd H1 e (.lst []) e = some (.lst []) := upd_same
      generalize upd H1 e (.lst []) = H2 at s2 e2 ⊢
      have py2 : Paired (IsTi K H2) ys rs := Paired.mono (fun _ _ y => IsTi.tk y (tkS s2)) py
      obtain ⟨ds, d1, d2⟩ := dp_all (K := K) (H := H2) (xs := ys) (R := fun v d => ∃ u, IsTi K H2 v u ∧ d = dT u) (fun v d ⟨u, h, e⟩ => by rw [e]; exact h.dp) fun x hx => by
        obtain ⟨i, hi⟩ := List.mem_iff_getElem?.mp hx
        obtain ⟨u, _, iw⟩ := Paired.at1 py2 hi
        exact ⟨dT u, ⟨u, iw, rfl⟩, dT_ok u⟩
      have Lx := L.same s2
      have eD := s2 _ _ e1
      refine ⟨D, e, ys, ds, rfl, rfl, SqL.of eD, d1, d2, SqL.of e2, _, rfl, ?_⟩
      refine ite2 (fun hne => ?_) (fun hemp => ?_)
      · refine ⟨_, rfl, D, rfl, ⟨_, SqL.of eD⟩, fun D2 hD2 => ?_⟩
        let F : Nat → V → Hp → Prop := fun i y _ => ∃ z, (rs.map (cost ps))[i]? = some z ∧ y = V.int z
        have kf : ByT F := fun _ _ _ _ _ h => h
        refine lc_it (walk_list (K := K) (a := D) (xs := ys)) (PvAll F H2 D2) (PvAll.zero hD2) (fun i H' _ p => SqL.of (p.1 _ _ eD)) ?_ ?_
        · rintro i x H9 H3 hi p3 ⟨rfl, hx⟩
          obtain ⟨r, hr', ir⟩ := Paired.at1 py2 hx
          have rowr := ((mem r).mp (List.mem_of_getElem? hr')).1
          exact ⟨rfl, _, rfl, _, rfl, p, x, n, ps, r, rfl, (Lx.same p3.1).pr, ir.tk (tkS p3.1), L.prc, rowr.1, L.ru.n8, fun H4 s4 => PvAll.next kf hD2 p3 s4 ⟨cost ps r, by rw [List.getElem?_map, hr']; rfl, rfl⟩ (szBig (by omega))⟩
        · rintro H3 ⟨s3, zs, ez, zl, hz⟩
          have hzs : zs = (rs.map (cost ps)).map V.int := ints_list (by rw [zl, Paired.len py, List.length_map]) hz
          refine ⟨D2, _, rfl, SqL.of (by rw [ez, hzs]), ?_, fun k hk hle => ?_⟩
          · rw [List.length_map, ← Paired.len py]
            cases ys with
            | nil => exact absurd hne (by decide)
            | cons _ _ => exact Nat.succ_pos _
          · obtain ⟨r, hr', er⟩ := List.mem_map.mp hk
            obtain ⟨b1, b2⟩ := (mem r).mp hr'
            exact h8 _ H3 R l n told ps m t v p D v0 a8 a9 a10 _ (Lx.same s3) (.inr ⟨k, rfl, ⟨r, b1, b2, er⟩, fun r' c1 c2 => hle _ (List.mem_map.mpr ⟨r', (mem r').mpr ⟨c1, c2⟩, rfl⟩)⟩) rfl
      · refine h8 _ H2 R l n told ps m t v p D v0 a8 a9 a10 _ Lx (.inl ⟨rfl, fun r hr' => ?_⟩) rfl
        have y0 : ys = [] := by
          cases ys with
          | nil => rfl
          | cons _ _ => exact absurd rfl hemp
        have r0 : rs = [] := by
          have := Paired.len py
          rw [y0] at this
          exact List.eq_nil_of_length_eq_zero this.symm
        cases k : told.all (keptR r) with
        | false => rfl
        | true =>
          have := (mem r).mpr ⟨hr', k⟩
          rw [r0] at this
          cases this
    obtain ⟨t7_, p7, h7⟩ := t7
    -- the payments that are best
    have t6 : ∃ tt, PSs (cxOf CX0 P w K mg base ["_law_script", "_law_row", "_law_many", "_law_told", "_law_rules", "_law_prices_here", "_law_least", "_law_rows_here", "_law_turn", "_law_payments", "_law_halves", "_law_best", "_law_rule", "_law_place", "_law_one"] "law" (defScope sLaw) f cdv A outer s H E).nox ((defBody sLaw).drop 5) tt ∧ ∀ (σ : L2.St) H1 R l n told ps m t v p D v0 a8 a9 a10 a11, LawS K C R H1 l n told ps m t v p D → σ = [v0, some (.ref l), some (.int (n : Nat)), some t, some v, some p, some (.int m), some (.ref D), a8, a9, a10, a11, none, none, none] → tt { nx := fun _ H' => Q .non H', rt := Q } σ H1 := by
      refine ⟨_, pss_cons (ps_if (PW.pt (pw_or (pt_cmpR op_ne (pe_cl cPB R3 (by rfl) (pa_cons (pv 4) (pa_cons (pv 5) (pa_cons (pe_cl cPF R6 (by rfl) (pa_cons (pv 4) (pa_cons (pv 5) pa_nil))) pa_nil)))) (pv 6) (nomark _))
          (pw_or1 (pt_cmpR op_gt (pv 6) (pe_callB (cr_sumT rfl) (by rfl) B.sum boot_sum (pa_cons (pv 5) pa_nil)) (nomark _))))) (pss_one (ps_ret pe_bl)) pss_nil) p7, ?_⟩
      rintro σ H1 R l n told ps m t v p D v0 a8 a9 a10 a11 L rfl
      have tl : told.length ≤ 1000 := by have := L.len; omega
      have few : Few n told := ⟨L.ru.n8, tl, L.ru.told⟩
      refine ⟨_, rfl, _, rfl, _, rfl, _, rfl, v, p, n, told, ps, rfl, L.rs, L.pr, L.prc, few, fun H2 a ys s2 h2 mt => ?_⟩
      have L2' := L.same s2
      refine ⟨v, p, .ref a, n, told, ps, ys, rfl, L2'.rs, L2'.pr, L.prc, L.ru.n8, ⟨a, rfl, SqT.of h2⟩, mt.1, tl, fun H3 s3 => ⟨_, rfl, rfl, _, rfl, ?_⟩⟩
      have L3 := L2'.same s3
      have eq : bound ps told ys = m := (mt.least L.prc L.ru.told).uniq L.least
      rw [eq, decide_eq_true rfl]
      refine iteF ?_
      obtain ⟨pa, e, sp⟩ := L3.pr
      subst e
      refine ⟨_, rfl, _, rfl, pa, ps, rfl, sp, _, _, rfl, rfl, _, rfl, ?_⟩
      have le := least_ones L.prc L.ru.told L.least
      rw [decide_eq_false (by omega)]
      exact iteF (h7 _ H3 R l n told ps m t v (.ref pa) D v0 a8 a9 a10 a11 L3 rfl)
    obtain ⟨t6_, p6, h6⟩ := t6
    -- five turns
    have t5 : ∃ tt, PSs (cxOf CX0 P w K mg base ["_law_script", "_law_row", "_law_many", "_law_told", "_law_rules", "_law_prices_here", "_law_least", "_law_rows_here", "_law_turn", "_law_payments", "_law_halves", "_law_best", "_law_rule", "_law_place", "_law_one"] "law" (defScope sLaw) f cdv A outer s H E).nox ((defBody sLaw).drop 4) tt ∧ ∀ (σ : L2.St) H1 R l n told ps m t v p D v0 a8 a9 a10 a11, LawS K C R H1 l n told ps m t v p D → σ = [v0, some (.ref l), some (.int (n : Nat)), some t, some v, some p, some (.int m), some (.ref D), a8, a9, a10, a11, none, none, none] → tt { nx := fun _ H' => Q .non H', rt := Q } σ H1 := by
      refine ⟨_, pss_cons (ps_for PassesOwn.never rfl (pi_range1 (by rfl) B.range (pa_cons pe_int pa_nil)) (pg_name (i := 8) scLaw.nd rfl (Or.inl rfl))
        (pss_cons (ps_set (i := 9) scLaw.nd rfl (Or.inl rfl) (pe_callTy call_tuple_of (by rfl) B.tuple boot_ty_tuple (pa_cons (pe_lc (own := [("_law_rule", 12)]) (g := gName 12) (tt := tYes)
            (te := tCall (spTaken K) [] E0 (tCons (tVar 1) (tCons (tCall (spPick K) [] E0 (tCons (tVar 1) (tCons (tLst (tCons (tC (.int 1)) (tCons (tC (.int 3)) (tCons (tC (.int 60)) tNil)))) tNil))) tNil))) (by rfl) scLaw.nd (pi_tup (pv 3)) (blkOk_by (own := [("_law_rule", 12)]) (N := ["_law_script", "_law_row", "_law_many", "_law_told", "_law_rules", "_law_prices_here", "_law_least", "_law_rows_here", "_law_turn", "_law_payments", "_law_halves", "_law_best", "_law_rule", "_law_place", "_law_one"]) (sc := defScope sLaw) (by decide +kernel))
            (fun _ _ _ _ _ => pg_name (i := 12) scLaw.nd rfl (Or.inl rfl)) (fun _ _ _ _ _ => pts_nil) (fun _ _ _ _ _ => pe_cl cTk R1 (by rfl) (pa_cons (pv 1) (pa_cons (pe_cl cPk R2 (by rfl) (pa_cons (pv 1) (pa_cons (pe_lst (pa_cons pe_int (pa_cons pe_int (pa_cons pe_int pa_nil)))) pa_nil))) pa_nil)))) pa_nil)))
        (pss_cons (ps_if (pt_cmpR op_gt (pe_cl cPB R3 (by rfl) (pa_cons (pv 4) (pa_cons (pv 5) (pa_cons (pv 9) pa_nil)))) (pv 6) (nomark _)) (pss_one (ps_ret pe_bl)) pss_nil)
        (pss_cons (ps_set (i := 10) scLaw.nd rfl (Or.inl rfl) (pe_callTy call_tuple_of (by rfl) B.tuple boot_ty_tuple (pa_cons (pe_lc (own := [("_law_place", 13)]) (g := gName 13) (tt := tYes)
            (te := tCall (spTaken K) [] E0 (tCons (tVar 1) (tCons (tC (.int 3)) tNil))) (by rfl) scLaw.nd (pi_range1 (by rfl) B.range (pa_cons (pv 2) pa_nil)) (blkOk_by (own := [("_law_place", 13)]) (N := ["_law_script", "_law_row", "_law_many", "_law_told", "_law_rules", "_law_prices_here", "_law_least", "_law_rows_here", "_law_turn", "_law_payments", "_law_halves", "_law_best", "_law_rule", "_law_place", "_law_one"]) (sc := defScope sLaw) (by decide +kernel))
            (fun _ _ _ _ _ => pg_name (i := 13) scLaw.nd rfl (Or.inl rfl)) (fun _ _ _ _ _ => pts_nil) (fun _ _ _ _ _ => pe_cl cTk R1 (by rfl) (pa_cons (pv 1) (pa_cons pe_int pa_nil)))) pa_nil)))
        (pss_cons (ps_set (i := 10) scLaw.nd rfl (Or.inl rfl) (pe_callTy call_tuple_of (by rfl) B.tuple boot_ty_tuple (pa_cons (pe_lc (own := [("_law_one", 14)]) (g := gName 14) (tt := tYes)
            (te := tIf (tTest (tOp rEq (tCall (spTaken K) [] E0 (tCons (tVar 1) (tCons (tC (.int 2)) tNil))) (tC (.int 0)))) (tC (.int 1)) (tVar 14)) (by rfl) scLaw.nd (pi_tup (pv 10)) (blkOk_by (own := [("_law_one", 14)]) (N := ["_law_script", "_law_row", "_law_many", "_law_told", "_law_rules", "_law_prices_here", "_law_least", "_law_rows_here", "_law_turn", "_law_payments", "_law_halves", "_law_best", "_law_rule", "_law_place", "_law_one"]) (sc := defScope sLaw) (by decide +kernel))
            (fun _ _ _ _ _ => pg_name (i := 14) scLaw.nd rfl (Or.inl rfl)) (fun _ _ _ _ _ => pts_nil) (fun _ _ _ _ _ => pe_ifExp (pt_cmpR op_eq (pe_cl cTk R1 (by rfl) (pa_cons (pv 1) (pa_cons pe_int pa_nil))) pe_int (nomark _)) pe_int (pv 14))) pa_nil)))
        (pss_cons (ps_if (pt_cmpR op_ne (pe_cl cKH R3 (by rfl) (pa_cons (pv 4) (pa_cons (pv 10) pa_nil))) (pe_cl cLK R2 (by rfl) (pa_cons (pv 3) (pa_cons (pv 10) pa_nil))) (nomark _)) (pss_one (ps_ret pe_bl)) pss_nil)
        (pss_one (ps_if (PW.pt (pw_and (pt_val (pe_cl cKH R3 (by rfl) (pa_cons (pv 4) (pa_cons (pv 10) pa_nil)))) (pw_and1 (pt_cmpR op_lt (pe_cl cHC R3 (by rfl) (pa_cons (pv 4) (pa_cons (pv 5) (pa_cons (pv 10) pa_nil)))) (pv 6) (nomark _))))) (pss_one (ps_ret pe_bl)) pss_nil)))))))) p6, ?_⟩
      rintro σ H1 R l n told ps m t v p D v0 a8 a9 a10 a11 L0 rfl
      let Pv : Nat → L2.St → Hp → Prop := fun i σ H2 => ∃ a8 a9 a10, LawS K C R H2 l n told ps m t v p D ∧ σ = [v0, some (.ref l), some (.int (n : Nat)), some t, some v, some p, some (.int m), some (.ref D), a8, a9, a10, a11, none, none, none]
      refine ⟨5, rfl, by decide, by decide, for_range (lo := 0) (n := 5) Pv ⟨_, _, _, L0, rfl⟩ ?_ ?_⟩
      · clear L0 a8 a9 a10 H1
        rintro i σ H1 hi ⟨a8, a9, a10, L, rfl⟩
        have tl : told.length ≤ 1000 := by have := L.len; omega
        have few : Few n told := ⟨L.ru.n8, tl, L.ru.told⟩
        obtain ⟨ta, tx, rfl, st, pt⟩ := L.tl
        have txl := Paired.len pt
        have lnone : ∀ {Hx : Hp} {d : Addr}, RowAt K R Hx l → Hx d = none → d ≠ l := fun r hd z => by
          obtain ⟨_, _, _, hl, _⟩ := r
          rw [← z, hd] at hl
          cases hl
        -- payments
        refine ⟨_, rfl, ta, rfl, ⟨_, st⟩, fun D2 hD2 => ?_⟩
        have nD2 := lnone L.row hD2
        let Pc : Nat → Hp → Prop := fun i H3 => Kp (· = l) H1 H3 ∧ RowAt K R H3 l ∧ ∃ ms : List Int, H3 D2 = some (.lst (ms.map V.int)) ∧ ms.length = i ∧ ∀ z ∈ ms, 0 ≤ z ∧ z ≤ 1000
        refine lc_it (walk_tup (K := K) (a := ta) (xs := tx)) Pc ⟨kpS (samePut hD2), L.row.same (samePut hD2), [], upd_same, rfl, fun z hz => nomatch hz⟩ (fun i H' _ p => (L.row.tk p.1).sq st) ?_ ?_
        · rintro j x H9 H3 hj ⟨k3, r3, ms, e3, ml, mb⟩ ⟨rfl, hx⟩
          refine ⟨rfl, _, rfl, _, rfl, by show 3 ≤ sizeLine; decide, fun lt hlt => ?_⟩
          have s4 : Same H3 (upd H3 lt (.lst [.int 1, .int 3, .int 60])) := samePut hlt
          refine ⟨l, lt, _, R, rfl, r3.same s4, lnone r3 hlt, upd_same, by show 0 < 3; decide, by show 3 < 1000000; decide, fun H5 y k5 r5 my => ?_⟩
          obtain ⟨i0, rfl, b1, b2⟩ := pick3 my
          refine ⟨l, i0, R, rfl, r5, by omega, by omega, fun H6 z k6 r6 z0 z1 => ?_⟩
          have k36 : Kp (· = l) H3 H6 := (kpS s4).trans (k5.trans k6)
          have e6 := k36 _ _ nD2 e3
          refine ⟨_, e6, szBig (by rw [List.length_map, ml]; omega), kp_over hD2 (k3.trans k36), RowAt.put L.row hD2 r6 nD2, ms ++ [z], by rw [upd_same, List.map_append]; rfl, by rw [List.length_append, ml]; rfl, fun y hy => ?_⟩
          rcases List.mem_append.mp hy with q1 | q1
          · exact mb y q1
          · rw [List.mem_singleton.mp q1]; omega
        rintro H2 ⟨k2, r2, ms, e2, ml, mb⟩
        have L2' := L.kp k2 r2
        refine ⟨D2, _, rfl, .inl ⟨SqL.of e2, fun T hT => ?_⟩⟩
        have s3 : Same H2 (upd H2 T (.tup (ms.map V.int))) := samePut hT
        have eT : upd H2 T (.tup (ms.map V.int)) T = some (.tup (ms.map V.int)) := upd_same
        have L3 := L2'.same s3
        have paid : Paid told ms := ⟨by rw [ml, txl], mb⟩
        generalize upd H2 T (.tup (ms.map V.int)) = H3 at s3 eT L3 ⊢
        refine ⟨_, rfl, _, rfl, _, rfl, v, p, .ref T, n, told, ps, ms, rfl, L3.rs, L3.pr, L.prc, L.ru.n8, ⟨T, rfl, SqT.of eT⟩, paid, tl, fun H4 s4 => ⟨_, rfl, _, _, rfl, rfl, _, rfl, ?_⟩⟩
        have le1 := L.least.2.2 ms paid
        rw [decide_eq_false (by omega)]
        refine iteF ?_
        have L4 := L3.same s4
        clear L3 L2' s3 eT s4 k2 r2 e2 hT
        -- halves
        refine ⟨_, rfl, n, rfl, by have := L.ru.n8; omega, by have := L.ru.n8; omega, fun D3 hD3 => ?_⟩
        have nD3 := lnone L4.row hD3
        have n8 := L.ru.n8
        let Pd : Nat → Hp → Prop := fun i H5 => Kp (· = l) H4 H5 ∧ RowAt K R H5 l ∧ ∃ ms : List Int, H5 D3 = some (.lst (ms.map V.int)) ∧ ms.length = i ∧ ∀ z ∈ ms, 0 ≤ z ∧ z ≤ 2
        refine lc_it (walk_range (lo := 0) (n := n)) Pd ⟨kpS (samePut hD3), L4.row.same (samePut hD3), [], upd_same, rfl, fun z hz => nomatch hz⟩ (fun _ _ _ _ => True.intro) ?_ ?_
        · rintro j x H9 H5 hj ⟨k5, r5, hs', e5, ml5, mb5⟩ ⟨rfl, rfl⟩
          refine ⟨rfl, _, rfl, l, 3, R, rfl, r5, by decide, by decide, fun H6 z k6 r6 z0 z1 => ?_⟩
          have e6 := k6 _ _ nD3 e5
          refine ⟨_, e6, szBig (by rw [List.length_map, ml5]; omega), kp_over hD3 (k5.trans k6), RowAt.put L4.row hD3 r6 nD3, hs' ++ [z], by rw [upd_same, List.map_append]; rfl, by rw [List.length_append, ml5]; rfl, fun y hy => ?_⟩
          rcases List.mem_append.mp hy with q1 | q1
          · exact mb5 y q1
          · rw [List.mem_singleton.mp q1]; omega
        rintro H5 ⟨k5, r5, h1, e5, ml5, mb5⟩
        have L5 := L4.kp k5 r5
        refine ⟨D3, _, rfl, .inl ⟨SqL.of e5, fun T2 hT2 => ?_⟩⟩
        have eT2 : upd H5 T2 (.tup (h1.map V.int)) T2 = some (.tup (h1.map V.int)) := upd_same
        have L6 := L5.same (samePut hT2 (o := .tup (h1.map V.int)))
        generalize upd H5 T2 (.tup (h1.map V.int)) = H6 at eT2 L6 ⊢
        clear L5 L4 k5 r5 e5 hT2 hD3 nD3
        -- halves again
        refine ⟨_, rfl, T2, rfl, ⟨_, SqT.of eT2⟩, fun D4 hD4 => ?_⟩
        have nD4 := lnone L6.row hD4
        let Pe : Nat → Hp → Prop := fun i H7 => Kp (· = l) H6 H7 ∧ RowAt K R H7 l ∧ ∃ ms : List Int, H7 D4 = some (.lst (ms.map V.int)) ∧ ms.length = i ∧ ∀ z ∈ ms, 0 ≤ z ∧ z ≤ 2
        refine lc_it (walk_tup (K := K) (a := T2) (xs := h1.map V.int)) Pe ⟨kpS (samePut hD4), L6.row.same (samePut hD4), [], upd_same, rfl, fun z hz => nomatch hz⟩ (fun i H' _ p => (L6.row.tk p.1).sq (SqT.of eT2)) ?_ ?_
        · rintro j x H9 H7 hj ⟨k7, r7, ms7, e7, ml7, mb7⟩ ⟨rfl, hx⟩
          obtain ⟨z, hz, rfl⟩ := map_int_get hx
          have bz := mb5 z (List.mem_of_getElem? hz)
          have jl : j < 100 := by rw [List.length_map, ml5] at hj; omega
          have put : ∀ (H8 : Hp) (y : Int), Kp (· = l) H7 H8 → RowAt K R H8 l → 0 ≤ y → y ≤ 2 → ∃ acc, H8 D4 = some (.lst acc) ∧ acc.length < sizeLine ∧ Pe (j + 1) (upd H8 D4 (.lst (acc ++ [V.int y]))) := fun H8 y k8 r8 y0 y2 => by
            have e8 := k8 _ _ nD4 e7
            refine ⟨_, e8, szBig (by rw [List.length_map, ml7]; omega), kp_over hD4 (k7.trans k8), RowAt.put L6.row hD4 r8 nD4, ms7 ++ [y], by rw [upd_same, List.map_append]; rfl, by rw [List.length_append, ml7]; rfl, fun u hu => ?_⟩
            rcases List.mem_append.mp hu with q1 | q1
            · exact mb7 u q1
            · rw [List.mem_singleton.mp q1]; omega
          refine ⟨rfl, _, rfl, l, 2, R, rfl, r7, by decide, by decide, fun H8 y k8 r8 y0 y1 => ⟨rfl, _, rfl, ?_⟩⟩
          exact ite2 (fun _ => put H8 1 k8 r8 (by decide) (by decide)) (fun _ => ⟨_, rfl, put H8 z k8 r8 bz.1 bz.2⟩)
        rintro H7 ⟨k7, r7, h2, e7, ml7, mb7⟩
        have L7 := L6.kp k7 r7
        refine ⟨D4, _, rfl, .inl ⟨SqL.of e7, fun T3 hT3 => ?_⟩⟩
        have eT3 : upd H7 T3 (.tup (h2.map V.int)) T3 = some (.tup (h2.map V.int)) := upd_same
        have L8 := L7.same (samePut hT3 (o := .tup (h2.map V.int)))
        generalize upd H7 T3 (.tup (h2.map V.int)) = H8 at eT3 L8 ⊢
        have half : Half n h2 := ⟨by rw [ml7, List.length_map, ml5], mb7⟩
        have ti8 : IsTi K H8 (.ref T3) h2 := ⟨T3, rfl, SqT.of eT3⟩
        refine ⟨_, rfl, _, rfl, v, .ref T3, n, told, h2, rfl, L8.rs, ti8, half, few, fun H9 s9 => ?_⟩
        have L9 := L8.same s9
        refine ⟨_, rfl, _, rfl, .ref ta, .ref T3, told, h2, rfl, L9.tl, ti8.tk (tkS s9), tl, by rw [half.1]; exact L.ru.told.ends, fun H10 s10 => ⟨rfl, _, rfl, ?_⟩⟩
        have L10 := L9.same s10
        have ti10 := ti8.tk (tkS (s9.trans s10))
        rw [decide_eq_true rfl]
        refine iteF ?_
        refine ⟨_, rfl, _, rfl, v, .ref T3, n, told, h2, rfl, L10.rs, ti10, half, few, fun H11 s11 => ⟨_, rfl, ?_⟩⟩
        have L11 := L10.same s11
        refine ite2 (fun hk => ?_) (fun hk => ⟨_, _, _, L11, rfl⟩)
        refine ⟨_, rfl, _, rfl, _, rfl, v, p, .ref T3, n, told, ps, h2, rfl, L11.rs, L11.pr, L.prc, ti10.tk (tkS s11), half, few, fun H12 s12 => ⟨_, rfl, _, _, rfl, rfl, _, rfl, ?_⟩⟩
        have le2 := L.least.1 h2 half (kept_iff.mp hk)
        rw [decide_eq_false (by omega)]
        exact iteF ⟨_, _, _, L11.same s12, rfl⟩
      · rintro σ H2 ⟨b8, b9, b10, L, rfl⟩
        exact h6 _ H2 R l n told ps m t v p D v0 b8 b9 b10 a11 L rfl
    obtain ⟨t5_, p5, h5⟩ := t5
    -- the beginning
    refine ⟨_, pss_cons (ps_set (i := 1) scLaw.nd rfl (Or.inr rfl) (pe_lst (pa_cons (pv 0) (pa_cons pe_int (pa_cons pe_int (pa_cons pe_int pa_nil))))))
      (pss_cons (ps_asg (pe_cl cDr R4 (by rfl) (pa_cons (pv 1) (pa_cons pe_int pa_nil))) (pg_tup rfl (pgs_cons (pg_name (i := 2) scLaw.nd rfl (Or.inl rfl)) (pgs_cons (pg_name (i := 3) scLaw.nd rfl (Or.inl rfl)) pgs_nil))))
      (pss_cons (ps_asg (pe_tup (pa_cons (pe_mk cRI R5 (by rfl) LR.mgC (pa_cons (pv 2) (pa_cons (pv 3) pa_nil))) (pa_cons (pe_cl cPr R3 (by rfl) (pa_cons (pv 1) (pa_cons (pv 2) pa_nil))) pa_nil))) (pg_tup rfl (pgs_cons (pg_name (i := 4) scLaw.nd rfl (Or.inl rfl)) (pgs_cons (pg_name (i := 5) scLaw.nd rfl (Or.inr rfl)) pgs_nil))))
      (pss_cons (ps_par (i := 6) (j := 7) rfl scLaw.nd rfl rfl (by decide) rfl rfl (pa_cons (pe_cl cLH hr (by rfl) (pa_cons (pv 4) (pa_cons (pv 5) pa_nil))) (pa_cons (pe_cl cKp R2 (by rfl) (pa_cons (pv 2) (pa_cons (pv 3) pa_nil))) pa_nil)) (by rfl)) p5))), ?_⟩
    refine ⟨_, rfl, by show 4 ≤ sizeLine; decide, fun l hl => ?_⟩
    have row1 : RowAt K (sl, ns) (upd H l (.lst [.ref sl, .int 0, .int 2774, .int 0])) l := ⟨0, 2774, 0, upd_same, sql_same hs (samePut hl), hn, Int.le_refl 0⟩
    refine ⟨_, rfl, l, (sl, ns), rfl, row1, fun H2 T U n told k2 r2 hT ht ru len => ⟨T, _, rfl, SqT.of hT, rfl, _, _, rfl, _, _, rfl, rfl, ?_⟩⟩
    refine ⟨_, rfl, _, rfl, fun x dx hx hdx ne => ?_⟩
    have hx2 : upd H2 dx (.own x) x = none := (upd_ne ne.symm).trans hx
    have s0 : Same H2 (upd (upd H2 dx (.own x)) x (.ins C dx [])) := (samePut hdx).trans (samePut hx2)
    refine ⟨x, dx, n, .ref U, told, rfl, upd_same, ht.tk (tkS s0), ru, fun H3 kp hp => ⟨rfl, ?_⟩⟩
    have s3 : Same H2 H3 := fun b o e => kp b o (fun z => by rw [z, hx] at e; cases e) (s0 b o e)
    have ht3 := ht.tk (tkS s3)
    have rs3 : IsRs K C H3 (.ref x) n told := ⟨x, dx, .ref U, rfl, hp, ht3⟩
    have r3 := r2.same s3
    refine ⟨_, rfl, _, rfl, l, n, (sl, ns), rfl, r3, ru.n8, fun H4 T4 ps k4 r4 hT4 prc => ⟨by show 2 ≤ sizeLine; decide, fun T5 hT5 => ?_⟩⟩
    have t4 := r3.tk k4
    have s5 : Same H4 (upd H4 T5 (.tup [.ref x, .ref T4])) := samePut hT5
    have e5 : upd H4 T5 (.tup [.ref x, .ref T4]) T5 = some (.tup [.ref x, .ref T4]) := upd_same
    refine ⟨T5, _, rfl, SqT.of e5, rfl, _, _, rfl, _, _, rfl, rfl, ?_⟩
    obtain ⟨_, _, _, hl3, _⟩ := id r3
    have rs5 := (rs3.kp hl3 k4).same s5
    have ht5 := (ht3.tk t4).tk (tkS s5)
    have pr5 : IsTi K (upd H4 T5 (.tup [.ref x, .ref T4])) (.ref T4) ps := ⟨T4, rfl, SqT.of (s5 _ _ hT4)⟩
    have r5 := r4.same s5
    have few : Few n told := ⟨ru.n8, by omega, ru.told⟩
    refine ⟨_, rfl, _, rfl, .ref x, .ref T4, n, told, ps, rfl, rs5, pr5, prc, few, fun H6 m s6 hm => ?_⟩
    refine ⟨_, rfl, _, rfl, .ref U, n, told, rfl, ru.n1, ru.n8, ht5.tk (tkS s6), ru.told.ends, fun H7 D s7 rows => ⟨_, _, rfl, ?_⟩⟩
    have s67 := s6.trans s7
    have r7 := r5.same s67
    have nD : D ≠ l := fun z => by
      obtain ⟨ys, rs, e, py, _⟩ := rows
      obtain ⟨_, _, _, hl7, _⟩ := r7
      rw [← z, e] at hl7
      have e2 := HO.lst.inj (Option.some.inj hl7)
      rw [e2] at py
      cases py with
      | cons _ t1 =>
        cases t1 with
        | cons h2 _ =>
          obtain ⟨_, e3, _⟩ := h2
          exact nomatch e3
    exact h5 _ H7 (sl, ns) l n told ps m (.ref U) (.ref x) (.ref T4) D _ none none none none ⟨r7, ht5.tk (tkS s67), ru, len, rs5.same s67, pr5.tk (tkS s67), prc, hm, rows, nD⟩ rfl
end
end K74

set_option Elab.async false
set_option linter.all false
set_option maxRecDepth 100000
set_option maxHeartbeats 4000000
namespace K74
open PySem PySem.Spec PyProof.Rows L2
/-! ### what the top has written -/
theorem kit_self (K : PySem.W.Frag) (C : Addr) : PySem.W.kitOne K (.ref C) (.ref C) = some true := by
  have e : (Value.ref C == Value.ref C) = true := beq_self_eq_true (Value.ref C)
  unfold PySem.W.kitOne
  rw [if_pos e]
theorem all_mk {l : PySem.W.OpenLaw} {w : World} {K : PySem.W.Frag} {h : Heap} {mg : Str → Option Value} {fa C C2 f1 f2 f3 f4 f5 f6 f11 f12 f13 f14 f15 f16 f17 f18 f19 f20 f21 f22 f23 f24 f25 f26 f27 f28 f29 f30 f31 f32 f33 f34 f35 f36 f37 f38 f39 f40 f41 f42 f43 f44 f45 f46 f47 f48 f49 f50 f51 f52 f53 : Addr} (X : K.In h) (G : h.Ns mainGlobals mg) (hfa : mg "law" = some (.ref fa))
    {od1 an1 od2 an2 od3 an3 od4 an4 od5 an5 od6 an6 od11 an11 od12 an12 od13 an13 od14 an14 od15 an15 od16 an16 od17 an17 od18 an18 od19 an19 od20 an20 od21 an21 od22 an22 od23 an23 od24 an24 od25 an25 od26 an26 od27 an27 od28 an28 od29 an29 od30 an30 od31 an31 od32 an32 od33 an33 od34 an34 od35 an35 od36 an36 od37 an37 od38 an38 od39 an39 od40 an40 od41 an41 od42 an42 od43 an43 od44 an44 od45 an45 od46 an46 od47 an47 od48 an48 od49 an49 od50 an50 od51 an51 od52 an52 od53 an53 : Option Addr} {sl1 sl2 sl3 sl4 sl5 sl6 sl11 sl12 sl13 sl14 sl15 sl16 sl17 sl18 sl19 sl20 sl21 sl22 sl23 sl24 sl25 sl26 sl27 sl28 sl29 sl30 sl31 sl32 sl33 sl34 sl35 sl36 sl37 sl38 sl39 sl40 sl41 sl42 sl43 sl44 sl45 sl46 sl47 sl48 sl49 sl50 sl51 sl52 sl53 : Array (Option Value)} {oc1 kV1 dc1 pm1 cd1 ct1 oc2 kV2 dc2 pm2 cd2 ct2 oc3 kV3 dc3 pm3 cd3 ct3 oc4 kV4 dc4 pm4 cd4 ct4 oc5 kV5 dc5 pm5 cd5 ct5 oc6 kV6 dc6 pm6 cd6 ct6 oc11 kV11 dc11 pm11 cd11 ct11 oc12 kV12 dc12 pm12 cd12 ct12 oc13 kV13 dc13 pm13 cd13 ct13 oc14 kV14 dc14 pm14 cd14 ct14 oc15 kV15 dc15 pm15 cd15 ct15 oc16 kV16 dc16 pm16 cd16 ct16 oc17 kV17 dc17 pm17 cd17 ct17 oc18 kV18 dc18 pm18 cd18 ct18 oc19 kV19 dc19 pm19 cd19 ct19 oc20 kV20 dc20 pm20 cd20 ct20 oc21 kV21 dc21 pm21 cd21 ct21 oc22 kV22 dc22 pm22 cd22 ct22 oc23 kV23 dc23 pm23 cd23 ct23 oc24 kV24 dc24 pm24 cd24 ct24 oc25 kV25 dc25 pm25 cd25 ct25 oc26 kV26 dc26 pm26 cd26 ct26 oc27 kV27 dc27 pm27 cd27 ct27 oc28 kV28 dc28 pm28 cd28 ct28 oc29 kV29 dc29 pm29 cd29 ct29 oc30 kV30 dc30 pm30 cd30 ct30 oc31 kV31 dc31 pm31 cd31 ct31 oc32 kV32 dc32 pm32 cd32 ct32 oc33 kV33 dc33 pm33 cd33 ct33 oc34 kV34 dc34 pm34 cd34 ct34 oc35 kV35 dc35 pm35 cd35 ct35 oc36 kV36 dc36 pm36 cd36 ct36 oc37 kV37 dc37 pm37 cd37 ct37 oc38 kV38 dc38 pm38 cd38 ct38 oc39 kV39 dc39 pm39 cd39 ct39 oc40 kV40 dc40 pm40 cd40 ct40 oc41 kV41 dc41 pm41 cd41 ct41 oc42 kV42 dc42 pm42 cd42 ct42 oc43 kV43 dc43 pm43 cd43 ct43 oc44 kV44 dc44 pm44 cd44 ct44 oc45 kV45 dc45 pm45 cd45 ct45 oc46 kV46 dc46 pm46 cd46 ct46 oc47 kV47 dc47 pm47 cd47 ct47 oc48 kV48 dc48 pm48 cd48 ct48 oc49 kV49 dc49 pm49 cd49 ct49 oc50 kV50 dc50 pm50 cd50 ct50 oc51 kV51 dc51 pm51 cd51 ct51 oc52 kV52 dc52 pm52 cd52 ct52 oc53 kV53 dc53 pm53 cd53 ct53 : Value} {t8 t50 t1000 : Tok}
    (aC : PySem.W.nsIn K mainGlobals "Rules" = some (some (.ref C)))
    (aC2 : PySem.W.nsIn K mainGlobals "Purses" = some (some (.ref C2)))
    (a1 : PySem.W.findIn K (.ref C) "__init__" = some (some (.ref f1)))
    (i1 : PySem.W.isFn K (.ref f1) = true)
    (l1 : K.lookup f1 = some ⟨oc1, od1, .func (PySem.W.fnOf "__init__" "Rules.__init__" (defArgs sRInit) (defBody sRInit) (defScope sRInit) .none kV1 dc1 pm1 an1 cd1 ct1), sl1⟩)
    (c1 : PySem.W.codeIn K cd1 "Rules.__init__" = true)
    (k1 : PySem.W.keepIn K (.ref f1) = true)
    (a2 : PySem.W.findIn K (.ref C2) "__init__" = some (some (.ref f2)))
    (i2 : PySem.W.isFn K (.ref f2) = true)
    (l2 : K.lookup f2 = some ⟨oc2, od2, .func (PySem.W.fnOf "__init__" "Purses.__init__" (defArgs sPInit) (defBody sPInit) (defScope sPInit) .none kV2 dc2 pm2 an2 cd2 ct2), sl2⟩)
    (c2 : PySem.W.codeIn K cd2 "Purses.__init__" = true)
    (k2 : PySem.W.keepIn K (.ref f2) = true)
    (a3 : PySem.W.findIn K (.ref C2) "beside" = some (some (.ref f3)))
    (i3 : PySem.W.isFn K (.ref f3) = true)
    (l3 : K.lookup f3 = some ⟨oc3, od3, .func (PySem.W.fnOf "beside" "Purses.beside" (defArgs sBeside) (defBody sBeside) (defScope sBeside) .none kV3 dc3 pm3 an3 cd3 ct3), sl3⟩)
    (c3 : PySem.W.codeIn K cd3 "Purses.beside" = true)
    (k3 : PySem.W.keepIn K (.ref f3) = true)
    (a4 : PySem.W.findIn K (.ref C2) "way" = some (some (.ref f4)))
    (i4 : PySem.W.isFn K (.ref f4) = true)
    (l4 : K.lookup f4 = some ⟨oc4, od4, .func (PySem.W.fnOf "way" "Purses.way" (defArgs sWay) (defBody sWay) (defScope sWay) .none kV4 dc4 pm4 an4 cd4 ct4), sl4⟩)
    (c4 : PySem.W.codeIn K cd4 "Purses.way" = true)
    (k4 : PySem.W.keepIn K (.ref f4) = true)
    (a5 : PySem.W.findIn K (.ref C2) "room" = some (some (.ref f5)))
    (i5 : PySem.W.isFn K (.ref f5) = true)
    (l5 : K.lookup f5 = some ⟨oc5, od5, .func (PySem.W.fnOf "room" "Purses.room" (defArgs sRoom) (defBody sRoom) (defScope sRoom) .none kV5 dc5 pm5 an5 cd5 ct5), sl5⟩)
    (c5 : PySem.W.codeIn K cd5 "Purses.room" = true)
    (k5 : PySem.W.keepIn K (.ref f5) = true)
    (a6 : PySem.W.findIn K (.ref C2) "pay" = some (some (.ref f6)))
    (i6 : PySem.W.isFn K (.ref f6) = true)
    (l6 : K.lookup f6 = some ⟨oc6, od6, .func (PySem.W.fnOf "pay" "Purses.pay" (defArgs sPay) (defBody sPay) (defScope sPay) .none kV6 dc6 pm6 an6 cd6 ct6), sl6⟩)
    (c6 : PySem.W.codeIn K cd6 "Purses.pay" = true)
    (k6 : PySem.W.keepIn K (.ref f6) = true)
    (a11 : PySem.W.nsIn K mainGlobals "is_from" = some (some (.ref f11)))
    (l11 : K.lookup f11 = some ⟨oc11, od11, .func (PySem.W.fnOf "is_from" "is_from" (defArgs sIsFrom) (defBody sIsFrom) (defScope sIsFrom) .none kV11 dc11 pm11 an11 cd11 ct11), sl11⟩)
    (c11 : PySem.W.codeIn K cd11 "is_from" = true)
    (k11 : PySem.W.keepIn K (.ref f11) = true)
    (a12 : PySem.W.nsIn K mainGlobals "is_want_of" = some (some (.ref f12)))
    (l12 : K.lookup f12 = some ⟨oc12, od12, .func (PySem.W.fnOf "is_want_of" "is_want_of" (defArgs sIsWantOf) (defBody sIsWantOf) (defScope sIsWantOf) .none kV12 dc12 pm12 an12 cd12 ct12), sl12⟩)
    (c12 : PySem.W.codeIn K cd12 "is_want_of" = true)
    (k12 : PySem.W.keepIn K (.ref f12) = true)
    (a13 : PySem.W.nsIn K mainGlobals "off" = some (some (.ref f13)))
    (l13 : K.lookup f13 = some ⟨oc13, od13, .func (PySem.W.fnOf "off" "off" (defArgs sOff) (defBody sOff) (defScope sOff) .none kV13 dc13 pm13 an13 cd13 ct13), sl13⟩)
    (c13 : PySem.W.codeIn K cd13 "off" = true)
    (k13 : PySem.W.keepIn K (.ref f13) = true)
    (a14 : PySem.W.nsIn K mainGlobals "is_rule_of" = some (some (.ref f14)))
    (l14 : K.lookup f14 = some ⟨oc14, od14, .func (PySem.W.fnOf "is_rule_of" "is_rule_of" (defArgs sIsRuleOf) (defBody sIsRuleOf) (defScope sIsRuleOf) .none kV14 dc14 pm14 an14 cd14 ct14), sl14⟩)
    (c14 : PySem.W.codeIn K cd14 "is_rule_of" = true)
    (k14 : PySem.W.keepIn K (.ref f14) = true)
    (a15 : PySem.W.nsIn K mainGlobals "need_rules" = some (some (.ref f15)))
    (l15 : K.lookup f15 = some ⟨oc15, od15, .func (PySem.W.fnOf "need_rules" "need_rules" (defArgs sNeedR) (defBody sNeedR) (defScope sNeedR) .none kV15 dc15 pm15 an15 cd15 ct15), sl15⟩)
    (c15 : PySem.W.codeIn K cd15 "need_rules" = true)
    (k15 : PySem.W.keepIn K (.ref f15) = true)
    (a16 : PySem.W.nsIn K mainGlobals "has" = some (some (.ref f16)))
    (l16 : K.lookup f16 = some ⟨oc16, od16, .func (PySem.W.fnOf "has" "has" (defArgs sHas) (defBody sHas) (defScope sHas) .none kV16 dc16 pm16 an16 cd16 ct16), sl16⟩)
    (c16 : PySem.W.codeIn K cd16 "has" = true)
    (k16 : PySem.W.keepIn K (.ref f16) = true)
    (a17 : PySem.W.nsIn K mainGlobals "is_kept" = some (some (.ref f17)))
    (l17 : K.lookup f17 = some ⟨oc17, od17, .func (PySem.W.fnOf "is_kept" "is_kept" (defArgs sIsKept) (defBody sIsKept) (defScope sIsKept) .none kV17 dc17 pm17 an17 cd17 ct17), sl17⟩)
    (c17 : PySem.W.codeIn K cd17 "is_kept" = true)
    (k17 : PySem.W.keepIn K (.ref f17) = true)
    (a18 : PySem.W.nsIn K mainGlobals "are_kept" = some (some (.ref f18)))
    (l18 : K.lookup f18 = some ⟨oc18, od18, .func (PySem.W.fnOf "are_kept" "are_kept" (defArgs sAreKept) (defBody sAreKept) (defScope sAreKept) .none kV18 dc18 pm18 an18 cd18 ct18), sl18⟩)
    (c18 : PySem.W.codeIn K cd18 "are_kept" = true)
    (k18 : PySem.W.keepIn K (.ref f18) = true)
    (a19 : PySem.W.nsIn K mainGlobals "all_rows" = some (some (.ref f19)))
    (l19 : K.lookup f19 = some ⟨oc19, od19, .func (PySem.W.fnOf "all_rows" "all_rows" (defArgs sAllRows) (defBody sAllRows) (defScope sAllRows) .none kV19 dc19 pm19 an19 cd19 ct19), sl19⟩)
    (c19 : PySem.W.codeIn K cd19 "all_rows" = true)
    (k19 : PySem.W.keepIn K (.ref f19) = true)
    (a20 : PySem.W.nsIn K mainGlobals "kept_rows" = some (some (.ref f20)))
    (l20 : K.lookup f20 = some ⟨oc20, od20, .func (PySem.W.fnOf "kept_rows" "kept_rows" (defArgs sKeptRows) (defBody sKeptRows) (defScope sKeptRows) .none kV20 dc20 pm20 an20 cd20 ct20), sl20⟩)
    (c20 : PySem.W.codeIn K cd20 "kept_rows" = true)
    (k20 : PySem.W.keepIn K (.ref f20) = true)
    (a21 : PySem.W.nsIn K mainGlobals "need_prices" = some (some (.ref f21)))
    (l21 : K.lookup f21 = some ⟨oc21, od21, .func (PySem.W.fnOf "need_prices" "need_prices" (defArgs sNeedP) (defBody sNeedP) (defScope sNeedP) .none kV21 dc21 pm21 an21 cd21 ct21), sl21⟩)
    (c21 : PySem.W.codeIn K cd21 "need_prices" = true)
    (k21 : PySem.W.keepIn K (.ref f21) = true)
    (a22 : PySem.W.nsIn K mainGlobals "cost_of" = some (some (.ref f22)))
    (l22 : K.lookup f22 = some ⟨oc22, od22, .func (PySem.W.fnOf "cost_of" "cost_of" (defArgs sCostOf) (defBody sCostOf) (defScope sCostOf) .none kV22 dc22 pm22 an22 cd22 ct22), sl22⟩)
    (c22 : PySem.W.codeIn K cd22 "cost_of" = true)
    (k22 : PySem.W.keepIn K (.ref f22) = true)
    (a23 : PySem.W.nsIn K mainGlobals "best_rows" = some (some (.ref f23)))
    (l23 : K.lookup f23 = some ⟨oc23, od23, .func (PySem.W.fnOf "best_rows" "best_rows" (defArgs sBest) (defBody sBest) (defScope sBest) .none kV23 dc23 pm23 an23 cd23 ct23), sl23⟩)
    (c23 : PySem.W.codeIn K cd23 "best_rows" = true)
    (k23 : PySem.W.keepIn K (.ref f23) = true)
    (a24 : PySem.W.nsIn K mainGlobals "cheapest" = some (some (.ref f24)))
    (l24 : K.lookup f24 = some ⟨oc24, od24, .func (PySem.W.fnOf "cheapest" "cheapest" (defArgs sCheapest) (defBody sCheapest) (defScope sCheapest) .none kV24 dc24 pm24 an24 cd24 ct24), sl24⟩)
    (c24 : PySem.W.codeIn K cd24 "cheapest" = true)
    (k24 : PySem.W.keepIn K (.ref f24) = true)
    (a25 : PySem.W.nsIn K mainGlobals "all_wants" = some (some (.ref f25)))
    (l25 : K.lookup f25 = some ⟨oc25, od25, .func (PySem.W.fnOf "all_wants" "all_wants" (defArgs sAllWants) (defBody sAllWants) (defScope sAllWants) .none kV25 dc25 pm25 an25 cd25 ct25), sl25⟩)
    (c25 : PySem.W.codeIn K cd25 "all_wants" = true)
    (k25 : PySem.W.keepIn K (.ref f25) = true)
    (a26 : PySem.W.nsIn K mainGlobals "steps_of" = some (some (.ref f26)))
    (l26 : K.lookup f26 = some ⟨oc26, od26, .func (PySem.W.fnOf "steps_of" "steps_of" (defArgs sSteps) (defBody sSteps) (defScope sSteps) .none kV26 dc26 pm26 an26 cd26 ct26), sl26⟩)
    (c26 : PySem.W.codeIn K cd26 "steps_of" = true)
    (k26 : PySem.W.keepIn K (.ref f26) = true)
    (a27 : PySem.W.nsIn K mainGlobals "are_halves" = some (some (.ref f27)))
    (l27 : K.lookup f27 = some ⟨oc27, od27, .func (PySem.W.fnOf "are_halves" "are_halves" (defArgs sAreHalves) (defBody sAreHalves) (defScope sAreHalves) .none kV27 dc27 pm27 an27 cd27 ct27), sl27⟩)
    (c27 : PySem.W.codeIn K cd27 "are_halves" = true)
    (k27 : PySem.W.keepIn K (.ref f27) = true)
    (a28 : PySem.W.nsIn K mainGlobals "halves_of" = some (some (.ref f28)))
    (l28 : K.lookup f28 = some ⟨oc28, od28, .func (PySem.W.fnOf "halves_of" "halves_of" (defArgs sHalvesOf) (defBody sHalvesOf) (defScope sHalvesOf) .none kV28 dc28 pm28 an28 cd28 ct28), sl28⟩)
    (c28 : PySem.W.codeIn K cd28 "halves_of" = true)
    (k28 : PySem.W.keepIn K (.ref f28) = true)
    (a29 : PySem.W.nsIn K mainGlobals "are_kept_by" = some (some (.ref f29)))
    (l29 : K.lookup f29 = some ⟨oc29, od29, .func (PySem.W.fnOf "are_kept_by" "are_kept_by" (defArgs sAreKeptBy) (defBody sAreKeptBy) (defScope sAreKeptBy) .none kV29 dc29 pm29 an29 cd29 ct29), sl29⟩)
    (c29 : PySem.W.codeIn K cd29 "are_kept_by" = true)
    (k29 : PySem.W.keepIn K (.ref f29) = true)
    (a30 : PySem.W.nsIn K mainGlobals "are_payments" = some (some (.ref f30)))
    (l30 : K.lookup f30 = some ⟨oc30, od30, .func (PySem.W.fnOf "are_payments" "are_payments" (defArgs sArePay) (defBody sArePay) (defScope sArePay) .none kV30 dc30 pm30 an30 cd30 ct30), sl30⟩)
    (c30 : PySem.W.codeIn K cd30 "are_payments" = true)
    (k30 : PySem.W.keepIn K (.ref f30) = true)
    (a31 : PySem.W.nsIn K mainGlobals "gets" = some (some (.ref f31)))
    (l31 : K.lookup f31 = some ⟨oc31, od31, .func (PySem.W.fnOf "gets" "gets" (defArgs sGets) (defBody sGets) (defScope sGets) .none kV31 dc31 pm31 an31 cd31 ct31), sl31⟩)
    (c31 : PySem.W.codeIn K cd31 "gets" = true)
    (k31 : PySem.W.keepIn K (.ref f31) = true)
    (a32 : PySem.W.nsIn K mainGlobals "bound_of" = some (some (.ref f32)))
    (l32 : K.lookup f32 = some ⟨oc32, od32, .func (PySem.W.fnOf "bound_of" "bound_of" (defArgs sBoundOf) (defBody sBoundOf) (defScope sBoundOf) .none kV32 dc32 pm32 an32 cd32 ct32), sl32⟩)
    (c32 : PySem.W.codeIn K cd32 "bound_of" = true)
    (k32 : PySem.W.keepIn K (.ref f32) = true)
    (a33 : PySem.W.nsIn K mainGlobals "payment_bound" = some (some (.ref f33)))
    (l33 : K.lookup f33 = some ⟨oc33, od33, .func (PySem.W.fnOf "payment_bound" "payment_bound" (defArgs sPayBound) (defBody sPayBound) (defScope sPayBound) .none kV33 dc33 pm33 an33 cd33 ct33), sl33⟩)
    (c33 : PySem.W.codeIn K cd33 "payment_bound" = true)
    (k33 : PySem.W.keepIn K (.ref f33) = true)
    (a34 : PySem.W.nsIn K mainGlobals "best_payments" = some (some (.ref f34)))
    (l34 : K.lookup f34 = some ⟨oc34, od34, .func (PySem.W.fnOf "best_payments" "best_payments" (defArgs sBpay) (defBody sBpay) (defScope sBpay) .none kV34 dc34 pm34 an34 cd34 ct34), sl34⟩)
    (c34 : PySem.W.codeIn K cd34 "best_payments" = true)
    (k34 : PySem.W.keepIn K (.ref f34) = true)
    (a35 : PySem.W.nsIn K mainGlobals "payments_for" = some (some (.ref f35)))
    (l35 : K.lookup f35 = some ⟨oc35, od35, .func (PySem.W.fnOf "payments_for" "payments_for" (defArgs sPayFor) (defBody sPayFor) (defScope sPayFor) .none kV35 dc35 pm35 an35 cd35 ct35), sl35⟩)
    (c35 : PySem.W.codeIn K cd35 "payments_for" = true)
    (k35 : PySem.W.keepIn K (.ref f35) = true)
    (a36 : PySem.W.nsIn K mainGlobals "keeps_halves" = some (some (.ref f36)))
    (l36 : K.lookup f36 = some ⟨oc36, od36, .func (PySem.W.fnOf "keeps_halves" "keeps_halves" (defArgs sKeepsH) (defBody sKeepsH) (defScope sKeepsH) .none kV36 dc36 pm36 an36 cd36 ct36), sl36⟩)
    (c36 : PySem.W.codeIn K cd36 "keeps_halves" = true)
    (k36 : PySem.W.keepIn K (.ref f36) = true)
    (a37 : PySem.W.nsIn K mainGlobals "half_cost" = some (some (.ref f37)))
    (l37 : K.lookup f37 = some ⟨oc37, od37, .func (PySem.W.fnOf "half_cost" "half_cost" (defArgs sHalfCost) (defBody sHalfCost) (defScope sHalfCost) .none kV37 dc37 pm37 an37 cd37 ct37), sl37⟩)
    (c37 : PySem.W.codeIn K cd37 "half_cost" = true)
    (k37 : PySem.W.keepIn K (.ref f37) = true)
    (a38 : PySem.W.nsIn K mainGlobals "least_cost" = some (some (.ref f38)))
    (l38 : K.lookup f38 = some ⟨oc38, od38, .func (PySem.W.fnOf "least_cost" "least_cost" (defArgs sLeast) (defBody sLeast) (defScope sLeast) .none kV38 dc38 pm38 an38 cd38 ct38), sl38⟩)
    (c38 : PySem.W.codeIn K cd38 "least_cost" = true)
    (k38 : PySem.W.keepIn K (.ref f38) = true)
    (a39 : PySem.W.nsIn K mainGlobals "least_half_cost" = some (some (.ref f39)))
    (l39 : K.lookup f39 = some ⟨oc39, od39, .func (PySem.W.fnOf "least_half_cost" "least_half_cost" (defArgs sLeastH) (defBody sLeastH) (defScope sLeastH) .none kV39 dc39 pm39 an39 cd39 ct39), sl39⟩)
    (c39 : PySem.W.codeIn K cd39 "least_half_cost" = true)
    (k39 : PySem.W.keepIn K (.ref f39) = true)
    (a40 : PySem.W.nsIn K mainGlobals "gap" = some (some (.ref f40)))
    (l40 : K.lookup f40 = some ⟨oc40, od40, .func (PySem.W.fnOf "gap" "gap" (defArgs sGap) (defBody sGap) (defScope sGap) .none kV40 dc40 pm40 an40 cd40 ct40), sl40⟩)
    (c40 : PySem.W.codeIn K cd40 "gap" = true)
    (k40 : PySem.W.keepIn K (.ref f40) = true)
    (a41 : PySem.W.nsIn K mainGlobals "_law_taken" = some (some (.ref f41)))
    (l41 : K.lookup f41 = some ⟨oc41, od41, .func (PySem.W.fnOf "_law_taken" "_law_taken" (defArgs sTaken) (defBody sTaken) (defScope sTaken) .none kV41 dc41 pm41 an41 cd41 ct41), sl41⟩)
    (c41 : PySem.W.codeIn K cd41 "_law_taken" = true)
    (k41 : PySem.W.keepIn K (.ref f41) = true)
    (a42 : PySem.W.nsIn K mainGlobals "_law_pick" = some (some (.ref f42)))
    (l42 : K.lookup f42 = some ⟨oc42, od42, .func (PySem.W.fnOf "_law_pick" "_law_pick" (defArgs sPick) (defBody sPick) (defScope sPick) .none kV42 dc42 pm42 an42 cd42 ct42), sl42⟩)
    (c42 : PySem.W.codeIn K cd42 "_law_pick" = true)
    (k42 : PySem.W.keepIn K (.ref f42) = true)
    (a43 : PySem.W.nsIn K mainGlobals "_law_all_rules" = some (some (.ref f43)))
    (l43 : K.lookup f43 = some ⟨oc43, od43, .func (PySem.W.fnOf "_law_all_rules" "_law_all_rules" (defArgs sAllR) (defBody sAllR) (defScope sAllR) .none kV43 dc43 pm43 an43 cd43 ct43), sl43⟩)
    (c43 : PySem.W.codeIn K cd43 "_law_all_rules" = true)
    (k43 : PySem.W.keepIn K (.ref f43) = true)
    (a44 : PySem.W.nsIn K mainGlobals "_law_rows" = some (some (.ref f44)))
    (l44 : K.lookup f44 = some ⟨oc44, od44, .func (PySem.W.fnOf "_law_rows" "_law_rows" (defArgs sRows) (defBody sRows) (defScope sRows) .none kV44 dc44 pm44 an44 cd44 ct44), sl44⟩)
    (c44 : PySem.W.codeIn K cd44 "_law_rows" = true)
    (k44 : PySem.W.keepIn K (.ref f44) = true)
    (a45 : PySem.W.nsIn K mainGlobals "_law_keeps" = some (some (.ref f45)))
    (l45 : K.lookup f45 = some ⟨oc45, od45, .func (PySem.W.fnOf "_law_keeps" "_law_keeps" (defArgs sKeeps) (defBody sKeeps) (defScope sKeeps) .none kV45 dc45 pm45 an45 cd45 ct45), sl45⟩)
    (c45 : PySem.W.codeIn K cd45 "_law_keeps" = true)
    (k45 : PySem.W.keepIn K (.ref f45) = true)
    (a46 : PySem.W.nsIn K mainGlobals "_law_kept" = some (some (.ref f46)))
    (l46 : K.lookup f46 = some ⟨oc46, od46, .func (PySem.W.fnOf "_law_kept" "_law_kept" (defArgs sKept) (defBody sKept) (defScope sKept) .none kV46 dc46 pm46 an46 cd46 ct46), sl46⟩)
    (c46 : PySem.W.codeIn K cd46 "_law_kept" = true)
    (k46 : PySem.W.keepIn K (.ref f46) = true)
    (a47 : PySem.W.nsIn K mainGlobals "_law_some_rules" = some (some (.ref f47)))
    (l47 : K.lookup f47 = some ⟨oc47, od47, .func (PySem.W.fnOf "_law_some_rules" "_law_some_rules" (defArgs sSome) (defBody sSome) (defScope sSome) .none kV47 dc47 pm47 an47 cd47 ct47), sl47⟩)
    (c47 : PySem.W.codeIn K cd47 "_law_some_rules" = true)
    (k47 : PySem.W.keepIn K (.ref f47) = true)
    (a48 : PySem.W.nsIn K mainGlobals "_law_drawn" = some (some (.ref f48)))
    (l48 : K.lookup f48 = some ⟨oc48, od48, .func (PySem.W.fnOf "_law_drawn" "_law_drawn" (defArgs sDrawn) (defBody sDrawn) (defScope sDrawn) .none kV48 dc48 pm48 an48 cd48 ct48), sl48⟩)
    (c48 : PySem.W.codeIn K cd48 "_law_drawn" = true)
    (k48 : PySem.W.keepIn K (.ref f48) = true)
    (a49 : PySem.W.nsIn K mainGlobals "_law_prices" = some (some (.ref f49)))
    (l49 : K.lookup f49 = some ⟨oc49, od49, .func (PySem.W.fnOf "_law_prices" "_law_prices" (defArgs sPrices) (defBody sPrices) (defScope sPrices) .none kV49 dc49 pm49 an49 cd49 ct49), sl49⟩)
    (c49 : PySem.W.codeIn K cd49 "_law_prices" = true)
    (k49 : PySem.W.keepIn K (.ref f49) = true)
    (a50 : PySem.W.nsIn K mainGlobals "_law_cost" = some (some (.ref f50)))
    (l50 : K.lookup f50 = some ⟨oc50, od50, .func (PySem.W.fnOf "_law_cost" "_law_cost" (defArgs sLCost) (defBody sLCost) (defScope sLCost) .none kV50 dc50 pm50 an50 cd50 ct50), sl50⟩)
    (c50 : PySem.W.codeIn K cd50 "_law_cost" = true)
    (k50 : PySem.W.keepIn K (.ref f50) = true)
    (a51 : PySem.W.nsIn K mainGlobals "_law_have" = some (some (.ref f51)))
    (l51 : K.lookup f51 = some ⟨oc51, od51, .func (PySem.W.fnOf "_law_have" "_law_have" (defArgs sHave) (defBody sHave) (defScope sHave) .none kV51 dc51 pm51 an51 cd51 ct51), sl51⟩)
    (c51 : PySem.W.codeIn K cd51 "_law_have" = true)
    (k51 : PySem.W.keepIn K (.ref f51) = true)
    (a52 : PySem.W.nsIn K mainGlobals "_law_keeps_halves" = some (some (.ref f52)))
    (l52 : K.lookup f52 = some ⟨oc52, od52, .func (PySem.W.fnOf "_law_keeps_halves" "_law_keeps_halves" (defArgs sLKeepsH) (defBody sLKeepsH) (defScope sLKeepsH) .none kV52 dc52 pm52 an52 cd52 ct52), sl52⟩)
    (c52 : PySem.W.codeIn K cd52 "_law_keeps_halves" = true)
    (k52 : PySem.W.keepIn K (.ref f52) = true)
    (a53 : PySem.W.nsIn K mainGlobals "law" = some (some (.ref f53)))
    (l53 : K.lookup f53 = some ⟨oc53, od53, .func (PySem.W.fnOf "law" "law" (defArgs sLaw) (defBody sLaw) (defScope sLaw) .none kV53 dc53 pm53 an53 cd53 ct53), sl53⟩)
    (c53 : PySem.W.codeIn K cd53 "law" = true)
    (k53 : PySem.W.keepIn K (.ref f53) = true)
    (pgC : PySem.W.plainGet K C Str.empty = true)
    (hdC : PySem.W.hasDictIn K C = true)
    (poC : PySem.W.plainOver K C = true)
    (saC : PySem.W.findIn K (.ref C) "__setattr__" = some (some (.builtin "object.__setattr__")))
    (mkC : PySem.W.makesIn K C = true)
    (kcC : PySem.W.keepIn K (.ref C) = true)
    (pgC2 : PySem.W.plainGet K C2 Str.empty = true)
    (hdC2 : PySem.W.hasDictIn K C2 = true)
    (poC2 : PySem.W.plainOver K C2 = true)
    (saC2 : PySem.W.findIn K (.ref C2) "__setattr__" = some (some (.builtin "object.__setattr__")))
    (mkC2 : PySem.W.makesIn K C2 = true)
    (kcC2 : PySem.W.keepIn K (.ref C2) = true)
    (nW : PySem.W.findIn K (.ref C) "wide" = some none)
    (nT : PySem.W.findIn K (.ref C) "told" = some none)
    (nS : PySem.W.findIn K (.ref C2) "steps" = some none)
    (nL : PySem.W.findIn K (.ref C2) "left" = some none)
    (nG : PySem.W.findIn K (.ref C2) "given" = some none)
    (ha : PySem.W.findIn K (.ref C) "__class__" = some (some (.builtin "object.__class__")))
    (hn : PySem.W.specialIn K (.builtin "object.__class__") "__get__" = some (some (.builtin "getset_descriptor.__get__")))
    (htk : PySem.W.takesIn K (.builtin "object.__class__") = some true)
    (hm : PySem.W.mroIn K C (.type "object") = some true)
    (z_isinstance : PySem.W.nsIn K mainGlobals "isinstance" = some none)
    (z_int : PySem.W.nsIn K mainGlobals "int" = some none)
    (z_bool : PySem.W.nsIn K mainGlobals "bool" = some none)
    (z_tuple : PySem.W.nsIn K mainGlobals "tuple" = some none)
    (z_len : PySem.W.nsIn K mainGlobals "len" = some none)
    (z_all : PySem.W.nsIn K mainGlobals "all" = some none)
    (z_enumerate : PySem.W.nsIn K mainGlobals "enumerate" = some none)
    (z_range : PySem.W.nsIn K mainGlobals "range" = some none)
    (z_sum : PySem.W.nsIn K mainGlobals "sum" = some none)
    (z_zip : PySem.W.nsIn K mainGlobals "zip" = some none)
    (z_min : PySem.W.nsIn K mainGlobals "min" = some none)
    (z_max : PySem.W.nsIn K mainGlobals "max" = some none)
    (z_list : PySem.W.nsIn K mainGlobals "list" = some none)
    (z_sorted : PySem.W.nsIn K mainGlobals "sorted" = some none)
    (z_set : PySem.W.nsIn K mainGlobals "set" = some none)
    (m8 : PySem.W.nsIn K mainGlobals "MOST_PLACES" = some (some (.int 8 t8)))
    (m50 : PySem.W.nsIn K mainGlobals "MOST_PRICE" = some (some (.int 50 t50)))
    (m1000 : PySem.W.nsIn K mainGlobals "MOST_PAYMENT" = some (some (.int 1000 t1000))) :
    ∃ fd : FuncData, (∀ (s : Shared) (v : Value), BindsTo s fd ⟨[v], []⟩ [("_law_script", v)]) ∧ ∀ base : Heap, K.In base → base.Ns mainGlobals mg → FnOk l.prog w K mg base CX0 8 fa fd ["_law_script"] (spLaw K) := by
  have F1 := fun_mk (st := sRInit) l1 c1 k1
  have b1 := F1.binds (ps := ["self", "many", "rules"]) fun _ _ _ _ _ _ us hl => match us, hl with | [_, _, _], _ => rfl
  have A1 : IAt K C "Rules.__init__" sRInit ["self", "many", "rules"] := ⟨_, _, F1, ⟨mkC, a1, i1, kcC⟩, b1⟩
  have F2 := fun_mk (st := sPInit) l2 c2 k2
  have b2 := F2.binds (ps := ["self", "rules", "prices"]) fun _ _ _ _ _ _ us hl => match us, hl with | [_, _, _], _ => rfl
  have A2 : IAt K C2 "Purses.__init__" sPInit ["self", "rules", "prices"] := ⟨_, _, F2, ⟨mkC2, a2, i2, kcC2⟩, b2⟩
  have F3 := fun_mk (st := sBeside) l3 c3 k3
  have b3 := F3.binds (ps := ["self", "want"]) fun _ _ _ _ _ _ us hl => match us, hl with | [_, _], _ => rfl
  have A3 : MAt K C2 "beside" "Purses.beside" sBeside ["self", "want"] := ⟨_, _, F3, ⟨a3, i3, k3⟩, b3⟩
  have F4 := fun_mk (st := sWay) l4 c4 k4
  have b4 := F4.binds (ps := ["self"]) fun _ _ _ _ _ _ us hl => match us, hl with | [_], _ => rfl
  have A4 : MAt K C2 "way" "Purses.way" sWay ["self"] := ⟨_, _, F4, ⟨a4, i4, k4⟩, b4⟩
  have F5 := fun_mk (st := sRoom) l5 c5 k5
  have b5 := F5.binds (ps := ["self", "one", "other"]) fun _ _ _ _ _ _ us hl => match us, hl with | [_, _, _], _ => rfl
  have A5 : MAt K C2 "room" "Purses.room" sRoom ["self", "one", "other"] := ⟨_, _, F5, ⟨a5, i5, k5⟩, b5⟩
  have F6 := fun_mk (st := sPay) l6 c6 k6
  have b6 := F6.binds (ps := ["self", "way"]) fun _ _ _ _ _ _ us hl => match us, hl with | [_, _], _ => rfl
  have A6 : MAt K C2 "pay" "Purses.pay" sPay ["self", "way"] := ⟨_, _, F6, ⟨a6, i6, k6⟩, b6⟩
  have F11 := fun_mk (st := sIsFrom) l11 c11 k11
  have A11 : At K mg "is_from" "is_from" sIsFrom ["value", "low", "high"] := ⟨_, _, F11, PySem.W.mg_of X G a11, F11.binds (ps := ["value", "low", "high"]) fun _ _ _ _ _ _ us hl => match us, hl with | [_, _, _], _ => rfl⟩
  have F12 := fun_mk (st := sIsWantOf) l12 c12 k12
  have A12 : At K mg "is_want_of" "is_want_of" sIsWantOf ["many", "value"] := ⟨_, _, F12, PySem.W.mg_of X G a12, F12.binds (ps := ["many", "value"]) fun _ _ _ _ _ _ us hl => match us, hl with | [_, _], _ => rfl⟩
  have F13 := fun_mk (st := sOff) l13 c13 k13
  have A13 : At K mg "off" "off" sOff ["want"] := ⟨_, _, F13, PySem.W.mg_of X G a13, F13.binds (ps := ["want"]) fun _ _ _ _ _ _ us hl => match us, hl with | [_], _ => rfl⟩
  have F14 := fun_mk (st := sIsRuleOf) l14 c14 k14
  have A14 : At K mg "is_rule_of" "is_rule_of" sIsRuleOf ["many", "value"] := ⟨_, _, F14, PySem.W.mg_of X G a14, F14.binds (ps := ["many", "value"]) fun _ _ _ _ _ _ us hl => match us, hl with | [_, _], _ => rfl⟩
  have F15 := fun_mk (st := sNeedR) l15 c15 k15
  have A15 : At K mg "need_rules" "need_rules" sNeedR ["rules"] := ⟨_, _, F15, PySem.W.mg_of X G a15, F15.binds (ps := ["rules"]) fun _ _ _ _ _ _ us hl => match us, hl with | [_], _ => rfl⟩
  have F16 := fun_mk (st := sHas) l16 c16 k16
  have A16 : At K mg "has" "has" sHas ["row", "want"] := ⟨_, _, F16, PySem.W.mg_of X G a16, F16.binds (ps := ["row", "want"]) fun _ _ _ _ _ _ us hl => match us, hl with | [_, _], _ => rfl⟩
  have F17 := fun_mk (st := sIsKept) l17 c17 k17
  have A17 : At K mg "is_kept" "is_kept" sIsKept ["rule", "row"] := ⟨_, _, F17, PySem.W.mg_of X G a17, F17.binds (ps := ["rule", "row"]) fun _ _ _ _ _ _ us hl => match us, hl with | [_, _], _ => rfl⟩
  have F18 := fun_mk (st := sAreKept) l18 c18 k18
  have A18 : At K mg "are_kept" "are_kept" sAreKept ["told", "row"] := ⟨_, _, F18, PySem.W.mg_of X G a18, F18.binds (ps := ["told", "row"]) fun _ _ _ _ _ _ us hl => match us, hl with | [_, _], _ => rfl⟩
  have F19 := fun_mk (st := sAllRows) l19 c19 k19
  have A19 : At K mg "all_rows" "all_rows" sAllRows ["many"] := ⟨_, _, F19, PySem.W.mg_of X G a19, F19.binds (ps := ["many"]) fun _ _ _ _ _ _ us hl => match us, hl with | [_], _ => rfl⟩
  have F20 := fun_mk (st := sKeptRows) l20 c20 k20
  have A20 : At K mg "kept_rows" "kept_rows" sKeptRows ["rules"] := ⟨_, _, F20, PySem.W.mg_of X G a20, F20.binds (ps := ["rules"]) fun _ _ _ _ _ _ us hl => match us, hl with | [_], _ => rfl⟩
  have F21 := fun_mk (st := sNeedP) l21 c21 k21
  have A21 : At K mg "need_prices" "need_prices" sNeedP ["rules", "prices"] := ⟨_, _, F21, PySem.W.mg_of X G a21, F21.binds (ps := ["rules", "prices"]) fun _ _ _ _ _ _ us hl => match us, hl with | [_, _], _ => rfl⟩
  have F22 := fun_mk (st := sCostOf) l22 c22 k22
  have A22 : At K mg "cost_of" "cost_of" sCostOf ["prices", "row"] := ⟨_, _, F22, PySem.W.mg_of X G a22, F22.binds (ps := ["prices", "row"]) fun _ _ _ _ _ _ us hl => match us, hl with | [_, _], _ => rfl⟩
  have F23 := fun_mk (st := sBest) l23 c23 k23
  have A23 : At K mg "best_rows" "best_rows" sBest ["rules", "prices"] := ⟨_, _, F23, PySem.W.mg_of X G a23, F23.binds (ps := ["rules", "prices"]) fun _ _ _ _ _ _ us hl => match us, hl with | [_, _], _ => rfl⟩
  have F24 := fun_mk (st := sCheapest) l24 c24 k24
  have A24 : At K mg "cheapest" "cheapest" sCheapest ["rules", "prices"] := ⟨_, _, F24, PySem.W.mg_of X G a24, F24.binds (ps := ["rules", "prices"]) fun _ _ _ _ _ _ us hl => match us, hl with | [_, _], _ => rfl⟩
  have F25 := fun_mk (st := sAllWants) l25 c25 k25
  have A25 : At K mg "all_wants" "all_wants" sAllWants ["many"] := ⟨_, _, F25, PySem.W.mg_of X G a25, F25.binds (ps := ["many"]) fun _ _ _ _ _ _ us hl => match us, hl with | [_], _ => rfl⟩
  have F26 := fun_mk (st := sSteps) l26 c26 k26
  have A26 : At K mg "steps_of" "steps_of" sSteps ["rules", "want"] := ⟨_, _, F26, PySem.W.mg_of X G a26, F26.binds (ps := ["rules", "want"]) fun _ _ _ _ _ _ us hl => match us, hl with | [_, _], _ => rfl⟩
  have F27 := fun_mk (st := sAreHalves) l27 c27 k27
  have A27 : At K mg "are_halves" "are_halves" sAreHalves ["rules", "value"] := ⟨_, _, F27, PySem.W.mg_of X G a27, F27.binds (ps := ["rules", "value"]) fun _ _ _ _ _ _ us hl => match us, hl with | [_, _], _ => rfl⟩
  have F28 := fun_mk (st := sHalvesOf) l28 c28 k28
  have A28 : At K mg "halves_of" "halves_of" sHalvesOf ["halves", "want"] := ⟨_, _, F28, PySem.W.mg_of X G a28, F28.binds (ps := ["halves", "want"]) fun _ _ _ _ _ _ us hl => match us, hl with | [_, _], _ => rfl⟩
  have F29 := fun_mk (st := sAreKeptBy) l29 c29 k29
  have A29 : At K mg "are_kept_by" "are_kept_by" sAreKeptBy ["told", "halves"] := ⟨_, _, F29, PySem.W.mg_of X G a29, F29.binds (ps := ["told", "halves"]) fun _ _ _ _ _ _ us hl => match us, hl with | [_, _], _ => rfl⟩
  have F30 := fun_mk (st := sArePay) l30 c30 k30
  have A30 : At K mg "are_payments" "are_payments" sArePay ["rules", "value"] := ⟨_, _, F30, PySem.W.mg_of X G a30, F30.binds (ps := ["rules", "value"]) fun _ _ _ _ _ _ us hl => match us, hl with | [_, _], _ => rfl⟩
  have F31 := fun_mk (st := sGets) l31 c31 k31
  have A31 : At K mg "gets" "gets" sGets ["rules", "payments", "want"] := ⟨_, _, F31, PySem.W.mg_of X G a31, F31.binds (ps := ["rules", "payments", "want"]) fun _ _ _ _ _ _ us hl => match us, hl with | [_, _, _], _ => rfl⟩
  have F32 := fun_mk (st := sBoundOf) l32 c32 k32
  have A32 : At K mg "bound_of" "bound_of" sBoundOf ["rules", "prices", "payments"] := ⟨_, _, F32, PySem.W.mg_of X G a32, F32.binds (ps := ["rules", "prices", "payments"]) fun _ _ _ _ _ _ us hl => match us, hl with | [_, _, _], _ => rfl⟩
  have F33 := fun_mk (st := sPayBound) l33 c33 k33
  have A33 : At K mg "payment_bound" "payment_bound" sPayBound ["rules", "prices", "payments"] := ⟨_, _, F33, PySem.W.mg_of X G a33, F33.binds (ps := ["rules", "prices", "payments"]) fun _ _ _ _ _ _ us hl => match us, hl with | [_, _, _], _ => rfl⟩
  have F34 := fun_mk (st := sBpay) l34 c34 k34
  have A34 : At K mg "best_payments" "best_payments" sBpay ["rules", "prices"] := ⟨_, _, F34, PySem.W.mg_of X G a34, F34.binds (ps := ["rules", "prices"]) fun _ _ _ _ _ _ us hl => match us, hl with | [_, _], _ => rfl⟩
  have F35 := fun_mk (st := sPayFor) l35 c35 k35
  have A35 : At K mg "payments_for" "payments_for" sPayFor ["rules", "prices"] := ⟨_, _, F35, PySem.W.mg_of X G a35, F35.binds (ps := ["rules", "prices"]) fun _ _ _ _ _ _ us hl => match us, hl with | [_, _], _ => rfl⟩
  have F36 := fun_mk (st := sKeepsH) l36 c36 k36
  have A36 : At K mg "keeps_halves" "keeps_halves" sKeepsH ["rules", "value"] := ⟨_, _, F36, PySem.W.mg_of X G a36, F36.binds (ps := ["rules", "value"]) fun _ _ _ _ _ _ us hl => match us, hl with | [_, _], _ => rfl⟩
  have F37 := fun_mk (st := sHalfCost) l37 c37 k37
  have A37 : At K mg "half_cost" "half_cost" sHalfCost ["rules", "prices", "halves"] := ⟨_, _, F37, PySem.W.mg_of X G a37, F37.binds (ps := ["rules", "prices", "halves"]) fun _ _ _ _ _ _ us hl => match us, hl with | [_, _, _], _ => rfl⟩
  have F38 := fun_mk (st := sLeast) l38 c38 k38
  have A38 : At K mg "least_cost" "least_cost" sLeast ["rules", "prices"] := ⟨_, _, F38, PySem.W.mg_of X G a38, F38.binds (ps := ["rules", "prices"]) fun _ _ _ _ _ _ us hl => match us, hl with | [_, _], _ => rfl⟩
  have F39 := fun_mk (st := sLeastH) l39 c39 k39
  have A39 : At K mg "least_half_cost" "least_half_cost" sLeastH ["rules", "prices"] := ⟨_, _, F39, PySem.W.mg_of X G a39, F39.binds (ps := ["rules", "prices"]) fun _ _ _ _ _ _ us hl => match us, hl with | [_, _], _ => rfl⟩
  have F40 := fun_mk (st := sGap) l40 c40 k40
  have A40 : At K mg "gap" "gap" sGap ["rules", "prices"] := ⟨_, _, F40, PySem.W.mg_of X G a40, F40.binds (ps := ["rules", "prices"]) fun _ _ _ _ _ _ us hl => match us, hl with | [_, _], _ => rfl⟩
  have F41 := fun_mk (st := sTaken) l41 c41 k41
  have A41 : At K mg "_law_taken" "_law_taken" sTaken ["_law_row", "_law_many"] := ⟨_, _, F41, PySem.W.mg_of X G a41, F41.binds (ps := ["_law_row", "_law_many"]) fun _ _ _ _ _ _ us hl => match us, hl with | [_, _], _ => rfl⟩
  have F42 := fun_mk (st := sPick) l42 c42 k42
  have A42 : At K mg "_law_pick" "_law_pick" sPick ["_law_row", "_law_things"] := ⟨_, _, F42, PySem.W.mg_of X G a42, F42.binds (ps := ["_law_row", "_law_things"]) fun _ _ _ _ _ _ us hl => match us, hl with | [_, _], _ => rfl⟩
  have F43 := fun_mk (st := sAllR) l43 c43 k43
  have A43 : At K mg "_law_all_rules" "_law_all_rules" sAllR ["_law_many"] := ⟨_, _, F43, PySem.W.mg_of X G a43, F43.binds (ps := ["_law_many"]) fun _ _ _ _ _ _ us hl => match us, hl with | [_], _ => rfl⟩
  have F44 := fun_mk (st := sRows) l44 c44 k44
  have A44 : At K mg "_law_rows" "_law_rows" sRows ["_law_many"] := ⟨_, _, F44, PySem.W.mg_of X G a44, F44.binds (ps := ["_law_many"]) fun _ _ _ _ _ _ us hl => match us, hl with | [_], _ => rfl⟩
  have F45 := fun_mk (st := sKeeps) l45 c45 k45
  have A45 : At K mg "_law_keeps" "_law_keeps" sKeeps ["_law_rules", "_law_row"] := ⟨_, _, F45, PySem.W.mg_of X G a45, F45.binds (ps := ["_law_rules", "_law_row"]) fun _ _ _ _ _ _ us hl => match us, hl with | [_, _], _ => rfl⟩
  have F46 := fun_mk (st := sKept) l46 c46 k46
  have A46 : At K mg "_law_kept" "_law_kept" sKept ["_law_many", "_law_rules"] := ⟨_, _, F46, PySem.W.mg_of X G a46, F46.binds (ps := ["_law_many", "_law_rules"]) fun _ _ _ _ _ _ us hl => match us, hl with | [_, _], _ => rfl⟩
  have F47 := fun_mk (st := sSome) l47 c47 k47
  have A47 : At K mg "_law_some_rules" "_law_some_rules" sSome ["_law_row", "_law_many"] := ⟨_, _, F47, PySem.W.mg_of X G a47, F47.binds (ps := ["_law_row", "_law_many"]) fun _ _ _ _ _ _ us hl => match us, hl with | [_, _], _ => rfl⟩
  have F48 := fun_mk (st := sDrawn) l48 c48 k48
  have A48 : At K mg "_law_drawn" "_law_drawn" sDrawn ["_law_row", "_law_most"] := ⟨_, _, F48, PySem.W.mg_of X G a48, F48.binds (ps := ["_law_row", "_law_most"]) fun _ _ _ _ _ _ us hl => match us, hl with | [_, _], _ => rfl⟩
  have F49 := fun_mk (st := sPrices) l49 c49 k49
  have A49 : At K mg "_law_prices" "_law_prices" sPrices ["_law_row", "_law_many"] := ⟨_, _, F49, PySem.W.mg_of X G a49, F49.binds (ps := ["_law_row", "_law_many"]) fun _ _ _ _ _ _ us hl => match us, hl with | [_, _], _ => rfl⟩
  have F50 := fun_mk (st := sLCost) l50 c50 k50
  have A50 : At K mg "_law_cost" "_law_cost" sLCost ["_law_prices_here", "_law_row"] := ⟨_, _, F50, PySem.W.mg_of X G a50, F50.binds (ps := ["_law_prices_here", "_law_row"]) fun _ _ _ _ _ _ us hl => match us, hl with | [_, _], _ => rfl⟩
  have F51 := fun_mk (st := sHave) l51 c51 k51
  have A51 : At K mg "_law_have" "_law_have" sHave ["_law_row", "_law_want"] := ⟨_, _, F51, PySem.W.mg_of X G a51, F51.binds (ps := ["_law_row", "_law_want"]) fun _ _ _ _ _ _ us hl => match us, hl with | [_, _], _ => rfl⟩
  have F52 := fun_mk (st := sLKeepsH) l52 c52 k52
  have A52 : At K mg "_law_keeps_halves" "_law_keeps_halves" sLKeepsH ["_law_rules", "_law_row"] := ⟨_, _, F52, PySem.W.mg_of X G a52, F52.binds (ps := ["_law_rules", "_law_row"]) fun _ _ _ _ _ _ us hl => match us, hl with | [_, _], _ => rfl⟩
  have F53 := fun_mk (st := sLaw) l53 c53 k53
  have e := hfa.symm.trans (PySem.W.mg_of X G a53)
  cases e
  have B : Bl mg := ⟨PySem.W.mg_none_of X G z_isinstance, PySem.W.mg_none_of X G z_int, PySem.W.mg_none_of X G z_bool, PySem.W.mg_none_of X G z_tuple, PySem.W.mg_none_of X G z_len, PySem.W.mg_none_of X G z_all, PySem.W.mg_none_of X G z_enumerate, PySem.W.mg_none_of X G z_range, PySem.W.mg_none_of X G z_sum, PySem.W.mg_none_of X G z_zip, PySem.W.mg_none_of X G z_min, PySem.W.mg_none_of X G z_max, PySem.W.mg_none_of X G z_list, PySem.W.mg_none_of X G z_sorted, PySem.W.mg_none_of X G z_set, ⟨_, PySem.W.mg_of X G m8⟩, ⟨_, PySem.W.mg_of X G m50⟩, ⟨_, PySem.W.mg_of X G m1000⟩⟩
  have cl : Cls K C := ⟨pgC, hdC, poC, saC⟩
  have LR : ClR K mg C := ⟨cl, nW, nT, PySem.W.mg_of X G aC, ⟨cl, ha, hn, htk, hm, kit_self K C⟩⟩
  have LP : ClP K mg C2 := ⟨⟨pgC2, hdC2, poC2, saC2⟩, nS, nL, nG, PySem.W.mg_of X G aC2⟩
  refine ⟨PySem.W.fnOf "law" "law" (defArgs sLaw) (defBody sLaw) (defScope sLaw) .none kV53 dc53 pm53 an53 cd53 ct53, fun s v => .of_eq rfl, fun base _ _ => ?_⟩
  have isFrom := cIsFrom (P := l.prog) (w := w) (base := base) B A11
  have isWant := cIsWantOf (P := l.prog) (w := w) (base := base) B isFrom A12
  have off_ := cOff (P := l.prog) (w := w) (base := base) A13
  have isRule := cIsRuleOf (P := l.prog) (w := w) (base := base) B isWant off_ A14
  have rInit := cRInit (P := l.prog) (w := w) (base := base) B LR isFrom isRule A1
  have needR := cNeedR (P := l.prog) (w := w) (base := base) B LR A15
  have has_ := cHas (P := l.prog) (w := w) (base := base) A16
  have isKept := cIsKept (P := l.prog) (w := w) (base := base) has_ A17
  have areKept := cAreKept (P := l.prog) (w := w) (base := base) B isKept A18
  have allRows_ := cAllRows (P := l.prog) (w := w) (base := base) B A19
  have keptRows := cKeptRows (P := l.prog) (w := w) (base := base) LR allRows_ areKept A20
  have needP := cNeedP (P := l.prog) (w := w) (base := base) B LR isFrom needR A21
  have costOf := cCostOf (P := l.prog) (w := w) (base := base) B A22
  have best_ := cBest (P := l.prog) (w := w) (base := base) B keptRows costOf A23
  have cheap := cCheapest (P := l.prog) (w := w) (base := base) needP best_ A24
  have allWants := cAllWants (P := l.prog) (w := w) (base := base) B A25
  have steps_ := cSteps (P := l.prog) (w := w) (base := base) B LR off_ A26
  have areH := cAreHalves (P := l.prog) (w := w) (base := base) B LR isFrom A27
  have halvesOf := cHalvesOf (P := l.prog) (w := w) (base := base) A28
  have areKB := cAreKeptBy (P := l.prog) (w := w) (base := base) B halvesOf A29
  have areP := cArePay (P := l.prog) (w := w) (base := base) B LR isFrom A30
  have gets_ := cGets (P := l.prog) (w := w) (base := base) B LR A31
  have boundOf := cBoundOf (P := l.prog) (w := w) (base := base) B gets_ A32
  have payB := cPayBound (P := l.prog) (w := w) (base := base) needP areP boundOf A33
  have pInit := cPInit (P := l.prog) (w := w) (base := base) B LR LP allWants steps_ A2
  have beside_ := cBeside (P := l.prog) (w := w) (base := base) B LP A3
  have way_ := cWay (P := l.prog) (w := w) (base := base) B LP beside_ A4
  have room_ := cRoom (P := l.prog) (w := w) (base := base) LP A5
  have pay_ := cPay (P := l.prog) (w := w) (base := base) B LP room_ A6
  have bpay := cBpay (P := l.prog) (w := w) (base := base) B LR LP off_ pInit way_ pay_ A34
  have payFor := cPayFor (P := l.prog) (w := w) (base := base) needP bpay A35
  have keepsH := cKeepsH (P := l.prog) (w := w) (base := base) LR needR areH areKB A36
  have halfCost := cHalfCost (P := l.prog) (w := w) (base := base) needP areH costOf A37
  have least_ := cLeast (P := l.prog) (w := w) (base := base) boundOf bpay A38
  have leastH := cLeastH (P := l.prog) (w := w) (base := base) needP least_ A39
  have gap_ := cGap (P := l.prog) (w := w) (base := base) needP best_ least_ A40
  have taken := cTaken (P := l.prog) (w := w) (base := base) B A41
  have pick := cPick (P := l.prog) (w := w) (base := base) B taken A42
  have allR := cAllR (P := l.prog) (w := w) (base := base) B A43
  have rows_ := cRows (P := l.prog) (w := w) (base := base) B A44
  have keepsT := cKeepsT (P := l.prog) (w := w) (base := base) A45
  have keepsL := cKeepsL (P := l.prog) (w := w) (base := base) A45
  have kept_ := cKept (P := l.prog) (w := w) (base := base) rows_ keepsT A46
  have some_ := cSome (P := l.prog) (w := w) (base := base) B taken pick allR rows_ keepsL A47
  have drawn := cDrawn (P := l.prog) (w := w) (base := base) taken some_ A48
  have prices_ := cPrices (P := l.prog) (w := w) (base := base) B taken pick A49
  have lcost := cLCost (P := l.prog) (w := w) (base := base) B A50
  have have_ := cHave (P := l.prog) (w := w) (base := base) A51
  have lkeeps := cLKeepsH (P := l.prog) (w := w) (base := base) have_ A52
  exact cLaw (P := l.prog) (w := w) (base := base) B LR taken pick drawn rInit prices_ leastH kept_ payB keepsH lkeeps halfCost payFor lcost gap_ cheap F53
theorem walk {l : PySem.W.OpenLaw} {q : Program} {loose : List Str} {XP : (Str → Option Value) → Heap → Prop} {YP : World → Heap → Prop} {d : DefRec} {K : Params → PySem.W.Frag} (hn : l.most = some 63) (hdf : d.params.defaults = [])
    (hY : ∀ (w : World) (h : Heap), YP w h → (K w.params).In h)
    (F : ∀ (w : World) (mg : Str → Option Value) (fa : Addr) (h : Heap), (K w.params).In h → h.Ns mainGlobals mg → mg d.name = some (.ref fa) →
      ∃ fd : FuncData, (∀ (s : Shared) (u : Value), BindsTo s fd ⟨[u], []⟩ [("_law_script", u)]) ∧ ∀ base : Heap, (K w.params).In base → base.Ns mainGlobals mg → FnOk l.prog w (K w.params) mg base CX0 8 fa fd ["_law_script"] (spLaw (K w.params))) :
    PySem.W.WalkO q loose XP YP l.row.toRowW d [] (fun f vs => PySem.call f vs) :=
  L2.walk_of (n := 63) (k := 8) (x := "_law_script") (CX := fun _ => CX0) (sp := fun w => spLaw (K w.params)) hn (by decide) hdf ⟨rfl, by decide, by decide⟩ hY F (fun _ _ a ns hl _ hS => ⟨a, ns, rfl, hS, hl, fun _ => rfl⟩) fun _ _ _ _ _ z => z
end K74

set_option Elab.async false
set_option maxRecDepth 100000
open PySem PySem.W PyProof.Rows in
set_option maxRecDepth 100000 in
set_option maxHeartbeats 0 in
theorem PySem.Challenge.cw_middlerows_k74_whole_bounds_from_both_si_holds : PySem.Challenge.rw_middlerows_k74_whole_bounds_from_both_si.Holds := by
  w_on; o_law; k_head; (case hw => w_witness2)
  k_fill
  refine K74.walk (l := PySem.Challenge.rw_middlerows_k74_whole_bounds_from_both_si) rfl rfl (fun w h Y => PySem.W.kIn_of Y) ?F
  case F =>
    intro w mg fa h KX G hmg
    refine' K74.all_mk KX G hmg ?aC ?aC2 ?a1 ?i1 ?l1 ?c1 ?k1 ?a2 ?i2 ?l2 ?c2 ?k2 ?a3 ?i3 ?l3 ?c3 ?k3 ?a4 ?i4 ?l4 ?c4 ?k4 ?a5 ?i5 ?l5 ?c5 ?k5 ?a6 ?i6 ?l6 ?c6 ?k6 ?a11 ?l11 ?c11 ?k11 ?a12 ?l12 ?c12 ?k12 ?a13 ?l13 ?c13 ?k13 ?a14 ?l14 ?c14 ?k14 ?a15 ?l15 ?c15 ?k15 ?a16 ?l16 ?c16 ?k16 ?a17 ?l17 ?c17 ?k17 ?a18 ?l18 ?c18 ?k18 ?a19 ?l19 ?c19 ?k19 ?a20 ?l20 ?c20 ?k20 ?a21 ?l21 ?c21 ?k21 ?a22 ?l22 ?c22 ?k22 ?a23 ?l23 ?c23 ?k23 ?a24 ?l24 ?c24 ?k24 ?a25 ?l25 ?c25 ?k25 ?a26 ?l26 ?c26 ?k26 ?a27 ?l27 ?c27 ?k27 ?a28 ?l28 ?c28 ?k28 ?a29 ?l29 ?c29 ?k29 ?a30 ?l30 ?c30 ?k30 ?a31 ?l31 ?c31 ?k31 ?a32 ?l32 ?c32 ?k32 ?a33 ?l33 ?c33 ?k33 ?a34 ?l34 ?c34 ?k34 ?a35 ?l35 ?c35 ?k35 ?a36 ?l36 ?c36 ?k36 ?a37 ?l37 ?c37 ?k37 ?a38 ?l38 ?c38 ?k38 ?a39 ?l39 ?c39 ?k39 ?a40 ?l40 ?c40 ?k40 ?a41 ?l41 ?c41 ?k41 ?a42 ?l42 ?c42 ?k42 ?a43 ?l43 ?c43 ?k43 ?a44 ?l44 ?c44 ?k44 ?a45 ?l45 ?c45 ?k45 ?a46 ?l46 ?c46 ?k46 ?a47 ?l47 ?c47 ?k47 ?a48 ?l48 ?c48 ?k48 ?a49 ?l49 ?c49 ?k49 ?a50 ?l50 ?c50 ?k50 ?a51 ?l51 ?c51 ?k51 ?a52 ?l52 ?c52 ?k52 ?a53 ?l53 ?c53 ?k53 ?pgC ?hdC ?poC ?saC ?mkC ?kcC ?pgC2 ?hdC2 ?poC2 ?saC2 ?mkC2 ?kcC2 ?nW ?nT ?nS ?nL ?nG ?ha ?hn ?htk ?hm ?z_isinstance ?z_int ?z_bool ?z_tuple ?z_len ?z_all ?z_enumerate ?z_range ?z_sum ?z_zip ?z_min ?z_max ?z_list ?z_sorted ?z_set ?m8 ?m50 ?m1000
    (case aC => k_is)
    (case aC2 => k_is)
    (case a1 => k_is)
    (case i1 => k_is)
    (case l1 => k_is)
    (case c1 => k_is)
    (case k1 => k_is)
    (case a2 => k_is)
    (case i2 => k_is)
    (case l2 => k_is)
    (case c2 => k_is)
    (case k2 => k_is)
    (case a3 => k_is)
    (case i3 => k_is)
    (case l3 => k_is)
    (case c3 => k_is)
    (case k3 => k_is)
    (case a4 => k_is)
    (case i4 => k_is)
    (case l4 => k_is)
    (case c4 => k_is)
    (case k4 => k_is)
    (case a5 => k_is)
    (case i5 => k_is)
    (case l5 => k_is)
    (case c5 => k_is)
    (case k5 => k_is)
    (case a6 => k_is)
    (case i6 => k_is)
    (case l6 => k_is)
    (case c6 => k_is)
    (case k6 => k_is)
    (case a11 => k_is)
    (case l11 => k_is)
    (case c11 => k_is)
    (case k11 => k_is)
    (case a12 => k_is)
    (case l12 => k_is)
    (case c12 => k_is)
    (case k12 => k_is)
    (case a13 => k_is)
    (case l13 => k_is)
    (case c13 => k_is)
    (case k13 => k_is)
    (case a14 => k_is)
    (case l14 => k_is)
    (case c14 => k_is)
    (case k14 => k_is)
    (case a15 => k_is)
    (case l15 => k_is)
    (case c15 => k_is)
    (case k15 => k_is)
    (case a16 => k_is)
    (case l16 => k_is)
    (case c16 => k_is)
    (case k16 => k_is)
    (case a17 => k_is)
    (case l17 => k_is)
    (case c17 => k_is)
    (case k17 => k_is)
    (case a18 => k_is)
    (case l18 => k_is)
    (case c18 => k_is)
    (case k18 => k_is)
    (case a19 => k_is)
    (case l19 => k_is)
    (case c19 => k_is)
    (case k19 => k_is)
    (case a20 => k_is)
    (case l20 => k_is)
    (case c20 => k_is)
    (case k20 => k_is)
    (case a21 => k_is)
    (case l21 => k_is)
    (case c21 => k_is)
    (case k21 => k_is)
    (case a22 => k_is)
    (case l22 => k_is)
    (case c22 => k_is)
    (case k22 => k_is)
    (case a23 => k_is)
    (case l23 => k_is)
    (case c23 => k_is)
    (case k23 => k_is)
    (case a24 => k_is)
    (case l24 => k_is)
    (case c24 => k_is)
    (case k24 => k_is)
    (case a25 => k_is)
    (case l25 => k_is)
    (case c25 => k_is)
    (case k25 => k_is)
    (case a26 => k_is)
    (case l26 => k_is)
    (case c26 => k_is)
    (case k26 => k_is)
    (case a27 => k_is)
    (case l27 => k_is)
    (case c27 => k_is)
    (case k27 => k_is)
    (case a28 => k_is)
    (case l28 => k_is)
    (case c28 => k_is)
    (case k28 => k_is)
    (case a29 => k_is)
    (case l29 => k_is)
    (case c29 => k_is)
    (case k29 => k_is)
    (case a30 => k_is)
    (case l30 => k_is)
    (case c30 => k_is)
    (case k30 => k_is)
    (case a31 => k_is)
    (case l31 => k_is)
    (case c31 => k_is)
    (case k31 => k_is)
    (case a32 => k_is)
    (case l32 => k_is)
    (case c32 => k_is)
    (case k32 => k_is)
    (case a33 => k_is)
    (case l33 => k_is)
    (case c33 => k_is)
    (case k33 => k_is)
    (case a34 => k_is)
    (case l34 => k_is)
    (case c34 => k_is)
    (case k34 => k_is)
    (case a35 => k_is)
    (case l35 => k_is)
    (case c35 => k_is)
    (case k35 => k_is)
    (case a36 => k_is)
    (case l36 => k_is)
    (case c36 => k_is)
    (case k36 => k_is)
    (case a37 => k_is)
    (case l37 => k_is)
    (case c37 => k_is)
    (case k37 => k_is)
    (case a38 => k_is)
    (case l38 => k_is)
    (case c38 => k_is)
    (case k38 => k_is)
    (case a39 => k_is)
    (case l39 => k_is)
    (case c39 => k_is)
    (case k39 => k_is)
    (case a40 => k_is)
    (case l40 => k_is)
    (case c40 => k_is)
    (case k40 => k_is)
    (case a41 => k_is)
    (case l41 => k_is)
    (case c41 => k_is)
    (case k41 => k_is)
    (case a42 => k_is)
    (case l42 => k_is)
    (case c42 => k_is)
    (case k42 => k_is)
    (case a43 => k_is)
    (case l43 => k_is)
    (case c43 => k_is)
    (case k43 => k_is)
    (case a44 => k_is)
    (case l44 => k_is)
    (case c44 => k_is)
    (case k44 => k_is)
    (case a45 => k_is)
    (case l45 => k_is)
    (case c45 => k_is)
    (case k45 => k_is)
    (case a46 => k_is)
    (case l46 => k_is)
    (case c46 => k_is)
    (case k46 => k_is)
    (case a47 => k_is)
    (case l47 => k_is)
    (case c47 => k_is)
    (case k47 => k_is)
    (case a48 => k_is)
    (case l48 => k_is)
    (case c48 => k_is)
    (case k48 => k_is)
    (case a49 => k_is)
    (case l49 => k_is)
    (case c49 => k_is)
    (case k49 => k_is)
    (case a50 => k_is)
    (case l50 => k_is)
    (case c50 => k_is)
    (case k50 => k_is)
    (case a51 => k_is)
    (case l51 => k_is)
    (case c51 => k_is)
    (case k51 => k_is)
    (case a52 => k_is)
    (case l52 => k_is)
    (case c52 => k_is)
    (case k52 => k_is)
    (case a53 => k_is)
    (case l53 => k_is)
    (case c53 => k_is)
    (case k53 => k_is)
    (case pgC => k_is)
    (case hdC => k_is)
    (case poC => k_is)
    (case saC => k_is)
    (case mkC => k_is)
    (case kcC => k_is)
    (case pgC2 => k_is)
    (case hdC2 => k_is)
    (case poC2 => k_is)
    (case saC2 => k_is)
    (case mkC2 => k_is)
    (case kcC2 => k_is)
    (case nW => k_is)
    (case nT => k_is)
    (case nS => k_is)
    (case nL => k_is)
    (case nG => k_is)
    (case ha => k_is)
    (case hn => k_is)
    (case htk => k_is)
    (case hm => k_is)
    (case z_isinstance => k_is)
    (case z_int => k_is)
    (case z_bool => k_is)
    (case z_tuple => k_is)
    (case z_len => k_is)
    (case z_all => k_is)
    (case z_enumerate => k_is)
    (case z_range => k_is)
    (case z_sum => k_is)
    (case z_zip => k_is)
    (case z_min => k_is)
    (case z_max => k_is)
    (case z_list => k_is)
    (case z_sorted => k_is)
    (case z_set => k_is)
    (case m8 => k_is)
    (case m50 => k_is)
    (case m1000 => k_is)


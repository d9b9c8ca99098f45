import PyProof.Rows.All
import HandS.ForMost
import HandS.Wide
import HandS.Deep
import HandS.IsInst
import HandS.TupAny
import HandS.Style
import HandS.Walk
import HandS.Zip
import HandS.More
import HandS.FStrTup
import KE.KIndexOf
import KE.GoesMore
import KE.GoesEnum
import PyProof.ReprRoads
import Wide.All
import OpenK.AllK
import Wide.FinOn
import PySem.Challenge.RW_bentplane_k32_whole_places_and_steps_cou
import HandS.RaiseMore
set_option Elab.async false
set_option linter.all false
set_option maxRecDepth 100000
/-! K32Math: the plain mathematics of the law, no program in sight. -/
namespace K32
/-! ### fields -/
def fields : List Nat := [2, 3, 4, 5, 7, 8, 9, 11, 13, 16]
/-- the powers of the root -/
def pows (q : Nat) : List Nat :=
  if q = 4 then [1, 2, 3] else if q = 8 then [1, 2, 4, 3, 6, 7, 5] else if q = 9 then [1, 3, 4, 7, 2, 6, 8, 5]
  else if q = 16 then [1, 2, 4, 8, 3, 6, 12, 11, 5, 10, 7, 14, 15, 13, 9] else []
/-- the place of a number in a list (its length, if it is not there) -/
def ixOf (a : Nat) : List Nat → Nat
  | [] => 0
  | x :: r => if x = a then 0 else ixOf a r + 1
def ft (q a b : Nat) : Nat :=
  if pows q = [] then a * b % q
  else if a = 0 ∨ b = 0 then 0
  else (pows q).getD ((ixOf a (pows q) + ixOf b (pows q)) % (q - 1)) 0
def isTab (q : Nat) : Bool := q == 4 || q == 8 || q == 9 || q == 16
def fopp (q a : Nat) : Nat := if q = 9 then (9 - a / 3) % 3 * 3 + (9 - a) % 3 else if isTab q then a else (q - a) % q
def fplus (q a b : Nat) : Nat := if q = 9 then (a / 3 + b / 3) % 3 * 3 + (a + b) % 3 else if isTab q then Nat.xor a b else (a + b) % q
def fminus (q a b : Nat) : Nat := fplus q a (fopp q b)

def all2 (q : Nat) (f : Nat → Nat → Bool) : Bool := (List.range q).all fun a => (List.range q).all fun b => f a b
theorem all2_of {q : Nat} {f : Nat → Nat → Bool} (h : all2 q f = true) {a b : Nat} (ha : a < q) (hb : b < q) : f a b = true := by
  unfold all2 at h
  have h1 := List.all_eq_true.mp h a (List.mem_range.mpr ha)
  exact List.all_eq_true.mp h1 b (List.mem_range.mpr hb)
theorem fields_all {f : Nat → Bool} (h : fields.all f = true) {q : Nat} (hq : q ∈ fields) : f q = true := List.all_eq_true.mp h q hq
theorem fields_ge {q : Nat} (hq : q ∈ fields) : 2 ≤ q ∧ q ≤ 16 := by
  have := fields_all (f := fun q => decide (2 ≤ q ∧ q ≤ 16)) (by decide +kernel) hq
  exact of_decide_eq_true this
theorem ft_lt {q a b : Nat} (hq : q ∈ fields) (ha : a < q) (hb : b < q) : ft q a b < q := by
  have h := fields_all (f := fun q => all2 q fun a b => decide (ft q a b < q)) (by decide +kernel) hq
  exact of_decide_eq_true (all2_of h ha hb)
theorem fminus_ne {q a b : Nat} (hq : q ∈ fields) (ha : a < q) (hb : b < q) : fminus q a b ≠ 0 ↔ a ≠ b := by
  have h := fields_all (f := fun q => all2 q fun a b => decide (fminus q a b ≠ 0 ↔ a ≠ b)) (by decide +kernel) hq
  exact of_decide_eq_true (all2_of h ha hb)
/-- counting: for a that is not 0 and each t just one e is left out -/
def cnt (q a t : Nat) : Nat := (List.range q).countP fun e => ft q a e != t
theorem cnt_eq {q a t : Nat} (hq : q ∈ fields) (ha : a < q) (ht : t < q) (h0 : a ≠ 0) : cnt q a t = q - 1 := by
  have h := fields_all (f := fun q => all2 q fun a t => decide (a ≠ 0 → cnt q a t = q - 1)) (by decide +kernel) hq
  exact of_decide_eq_true (all2_of h ha ht) h0
theorem ft_zero {q e : Nat} (hq : q ∈ fields) (he : e < q) : ft q 0 e = 0 := by
  have h := fields_all (f := fun q => all2 q fun e _ => decide (ft q 0 e = 0)) (by decide +kernel) hq
  exact of_decide_eq_true (all2_of h he he)

/-! ### the pairs (d, e) for which a e - b d is not 0 -/
def secRow (q a b d : Nat) : List (Nat × Nat) := ((List.range q).filter fun e => ft q a e != ft q b d).map fun e => (d, e)
def secs (q a b : Nat) : List (Nat × Nat) := (List.range q).flatMap fun d => secRow q a b d
theorem secRow_len (q a b d : Nat) : (secRow q a b d).length = cnt q a (ft q b d) := by
  unfold secRow cnt
  rw [List.length_map, List.countP_eq_length_filter]
theorem sum_const : ∀ (l : List Nat) (f : Nat → Nat) (c : Nat), (∀ x ∈ l, f x = c) → (l.map f).sum = l.length * c
  | [], _, _, _ => by simp
  | x :: r, f, c, h => by
    rw [List.map_cons, List.sum_cons, sum_const r f c (fun y hy => h y (List.mem_cons_of_mem _ hy)), h x List.mem_cons_self, List.length_cons, Nat.succ_mul]
    omega
theorem sum_ite : ∀ (l : List Nat) (p : Nat → Bool) (c : Nat), (l.map fun x => if p x then c else 0).sum = l.countP p * c
  | [], _, _ => by simp
  | x :: r, p, c => by
    rw [List.map_cons, List.sum_cons, sum_ite r p c, List.countP_cons]
    cases p x with
    | true => simp [Nat.add_mul]; omega
    | false => simp
theorem secs_len {q a b : Nat} (hq : q ∈ fields) (ha : a < q) (hb : b < q) (h : a ≠ 0 ∨ b ≠ 0) : (secs q a b).length = q * q - q := by
  have e1 : (secs q a b).length = ((List.range q).map fun d => cnt q a (ft q b d)).sum := by
    unfold secs
    rw [List.length_flatMap]
    congr 1
    refine List.map_congr_left fun d _ => ?_
    exact secRow_len q a b d
  have e3 : q * (q - 1) = q * q - q := by rw [Nat.mul_sub, Nat.mul_one]
  rw [e1]
  by_cases h0 : a = 0
  · subst h0
    have hb0 : b ≠ 0 := by omega
    have e2 : ((List.range q).map fun d => cnt q 0 (ft q b d)) = (List.range q).map fun d => if (fun d => ft q b d != 0) d then q else 0 := by
      refine List.map_congr_left fun d hd => ?_
      have hd' := List.mem_range.mp hd
      have ec : cnt q 0 (ft q b d) = (List.range q).countP fun _ => ft q b d != 0 := by
        unfold cnt
        refine List.countP_congr fun e he => ?_
        rw [ft_zero hq (List.mem_range.mp he)]
        simp only [bne_iff_ne, ne_eq]
        exact ⟨fun z w => z w.symm, fun z w => z w.symm⟩
      rw [ec]
      cases hz : (ft q b d != 0) with
      | true => simp [hz]
      | false => simp [hz]
    rw [e2, sum_ite]
    have e4 : (List.range q).countP (fun d => ft q b d != 0) = q - 1 := cnt_eq hq hb (by have := fields_ge hq; omega) hb0
    rw [e4, Nat.mul_comm]
    exact e3
  · rw [sum_const _ _ (q - 1) fun d hd => cnt_eq hq ha (ft_lt hq hb (List.mem_range.mp hd)) h0, List.length_range]
    exact e3
theorem secs_mem {q a b : Nat} {p : Nat × Nat} : p ∈ secs q a b ↔ p.1 < q ∧ p.2 < q ∧ ft q a p.2 ≠ ft q b p.1 := by
  unfold secs secRow
  rw [List.mem_flatMap]
  constructor
  · rintro ⟨d, hd, h⟩
    obtain ⟨e, he, rfl⟩ := List.mem_map.mp h
    obtain ⟨h1, h2⟩ := List.mem_filter.mp he
    exact ⟨List.mem_range.mp hd, List.mem_range.mp h1, bne_iff_ne.mp h2⟩
  · rintro ⟨h1, h2, h3⟩
    exact ⟨p.1, List.mem_range.mpr h1, List.mem_map.mpr ⟨p.2, List.mem_filter.mpr ⟨List.mem_range.mpr h2, bne_iff_ne.mpr h3⟩, rfl⟩⟩
/-- the pairs ascend -/
def ltP (x y : Nat × Nat) : Prop := x.1 < y.1 ∨ (x.1 = y.1 ∧ x.2 < y.2)
theorem ltP_ne {x y : Nat × Nat} (h : ltP x y) : x ≠ y := by
  rintro rfl
  rcases h with h | ⟨_, h⟩ <;> omega
theorem secRow_pw (q a b d : Nat) : (secRow q a b d).Pairwise ltP := by
  unfold secRow
  rw [List.pairwise_map]
  refine List.Pairwise.imp (fun h => .inr ⟨rfl, h⟩) ?_
  exact List.Pairwise.filter _ List.pairwise_lt_range
theorem secs_pw (q a b : Nat) : (secs q a b).Pairwise ltP := by
  unfold secs
  rw [List.pairwise_flatMap]
  refine ⟨fun d _ => secRow_pw q a b d, ?_⟩
  refine List.Pairwise.imp ?_ (List.pairwise_lt_range (n := q))
  intro d d' h x hx y hy
  unfold secRow at hx hy
  obtain ⟨_, _, rfl⟩ := List.mem_map.mp hx
  obtain ⟨_, _, rfl⟩ := List.mem_map.mp hy
  exact .inl h
/-- the first place of a pair -/
def ixP (p : Nat × Nat) : List (Nat × Nat) → Nat
  | [] => 0
  | x :: r => if x = p then 0 else ixP p r + 1
theorem ixP_mem {p : Nat × Nat} : ∀ {l : List (Nat × Nat)}, p ∈ l → l[ixP p l]? = some p ∧ ∀ m z, m < ixP p l → l[m]? = some z → z ≠ p
  | [], h => absurd h List.not_mem_nil
  | x :: r, h => by
    unfold ixP
    by_cases e : x = p
    · rw [if_pos e]
      subst e
      exact ⟨rfl, fun m _ hm _ => absurd hm (Nat.not_lt_zero m)⟩
    · rw [if_neg e]
      have h' : p ∈ r := by
        rcases List.mem_cons.mp h with z | z
        · exact absurd z.symm e
        · exact z
      obtain ⟨h1, h2⟩ := ixP_mem h'
      refine ⟨by simpa using h1, fun m z hm hz => ?_⟩
      cases m with
      | zero =>
        have : x = z := by simpa using hz
        rw [← this]
        exact e
      | succ m => exact h2 m z (by omega) (by simpa using hz)
theorem ixP_at {l : List (Nat × Nat)} (h : l.Pairwise ltP) {i : Nat} {p : Nat × Nat} (hi : l[i]? = some p) : ixP p l = i := by
  have hm : p ∈ l := List.mem_of_getElem? hi
  obtain ⟨h1, h2⟩ := ixP_mem hm
  rcases Nat.lt_trichotomy (ixP p l) i with z | z | z
  · obtain ⟨a1, b1⟩ := List.getElem?_eq_some_iff.mp h1
    obtain ⟨a2, b2⟩ := List.getElem?_eq_some_iff.mp hi
    have := List.pairwise_iff_getElem.mp h _ _ a1 a2 z
    rw [b1, b2] at this
    exact absurd rfl (ltP_ne this)
  · exact z
  · exact absurd rfl (h2 i p z hi)

/-! ### numbers by mixed digits -/
def mst (q : Nat) : Nat := (q * q - 1) * (q * q - q) * q * q
def mb (q d : Nat) : Nat := (q - 1) * q ^ (d - 2)
/-- the k lowest digits, the lowest first -/
def digs (q : Nat) : Nat → Nat → List Nat
  | 0, _ => []
  | k + 1, n => n % q :: digs q k (n / q)
/-- reading on -/
def rd (q : Nat) (r : Nat) (l : List Nat) : Nat := l.foldl (fun r x => r * q + x) r
theorem digs_len (q : Nat) : ∀ k n, (digs q k n).length = k
  | 0, _ => rfl
  | k + 1, n => by
    unfold digs
    rw [List.length_cons, digs_len q k]
theorem digs_lt {q : Nat} (hq : 0 < q) : ∀ k n x, x ∈ digs q k n → x < q
  | 0, _, _, h => absurd h List.not_mem_nil
  | k + 1, n, x, h => by
    unfold digs at h
    rcases List.mem_cons.mp h with e | e
    · rw [e]
      exact Nat.mod_lt _ hq
    · exact digs_lt hq k _ x e
theorem digs_last (q : Nat) : ∀ k n, digs q (k + 1) n = digs q k n ++ [n / q ^ k % q]
  | 0, n => by simp [digs]
  | k + 1, n => by
    have h := digs_last q k (n / q)
    show n % q :: digs q (k + 1) (n / q) = n % q :: digs q k (n / q) ++ [n / q ^ (k + 1) % q]
    rw [h, Nat.div_div_eq_div_mul, Nat.pow_succ, Nat.mul_comm (q ^ k) q]
    rfl
theorem rd_app (q r : Nat) (a b : List Nat) : rd q r (a ++ b) = rd q (rd q r a) b := by
  unfold rd
  rw [List.foldl_append]
theorem rd_digs {q : Nat} (hq : 0 < q) : ∀ k n r, n < q ^ k → rd q r (digs q k n).reverse = r * q ^ k + n
  | 0, n, r, h => by
    have : n = 0 := by simpa using h
    subst this
    simp [digs, rd]
  | k + 1, n, r, h => by
    unfold digs
    have h2 : n / q < q ^ k := by
      rw [Nat.div_lt_iff_lt_mul hq]
      rw [Nat.pow_succ] at h
      exact h
    rw [List.reverse_cons, rd_app, rd_digs hq k (n / q) r h2]
    show (r * q ^ k + n / q) * q + n % q = r * q ^ (k + 1) + n
    rw [Nat.add_mul, Nat.pow_succ, Nat.mul_assoc, Nat.add_assoc]
    have := Nat.div_add_mod n q
    rw [Nat.mul_comm] at this
    rw [this]
/-- a bend: its middle numbers, its last number -/
abbrev Bend := List Nat × Nat
def Bend.nums (b : Bend) : List Nat := 0 :: 0 :: (b.1 ++ [b.2])
def Bend.deg (b : Bend) : Nat := b.1.length + 2
theorem Bend.nums_len (b : Bend) : b.nums.length = b.deg + 1 := by
  unfold Bend.nums Bend.deg
  simp
structure Bend.Good (q : Nat) (b : Bend) : Prop where
  len : b.1.length ≤ 4
  mid : ∀ x ∈ b.1, x < q
  lst : b.2 < q
  nz : b.2 ≠ 0
def bendAt (q d n : Nat) : Bend := ((digs q (d - 2) (n / (q - 1))).reverse, n % (q - 1) + 1)
/-- reading a bend on -/
def bendOn (q : Nat) (r : Nat) (b : Bend) : Nat := rd q r b.1 * (q - 1) + (b.2 - 1)
theorem bendAt_deg {q d n : Nat} (hd : 2 ≤ d) : (bendAt q d n).deg = d := by
  unfold bendAt Bend.deg
  simp only [List.length_reverse, digs_len]
  omega
theorem bendAt_good {q d n : Nat} (hq : 2 ≤ q) (hd : 2 ≤ d) (h6 : d ≤ 6) : (bendAt q d n).Good q where
  len := by
    unfold bendAt
    simp only [List.length_reverse, digs_len]
    omega
  mid := fun x hx => digs_lt (by omega) _ _ x (List.mem_reverse.mp hx)
  lst := by
    show n % (q - 1) + 1 < q
    have := Nat.mod_lt n (show 0 < q - 1 by omega)
    omega
  nz := by
    show n % (q - 1) + 1 ≠ 0
    omega
theorem bendOn_at {q d n r : Nat} (hq : 2 ≤ q) (hd : 2 ≤ d) (hn : n < mb q d) : bendOn q r (bendAt q d n) = r * mb q d + n := by
  unfold bendOn bendAt
  have h1 : 0 < q - 1 := by omega
  have h2 : n / (q - 1) < q ^ (d - 2) := by
    rw [Nat.div_lt_iff_lt_mul h1]
    unfold mb at hn
    rw [Nat.mul_comm]
    exact hn
  simp only
  rw [rd_digs (by omega) _ _ _ h2]
  unfold mb
  have h3 := Nat.div_add_mod n (q - 1)
  have h4 : n % (q - 1) + 1 - 1 = n % (q - 1) := by omega
  rw [h4, Nat.add_mul, Nat.mul_assoc, Nat.mul_comm (q ^ (d - 2)) (q - 1), Nat.add_assoc, Nat.mul_comm (n / (q - 1))]
  omega
theorem mb_pos {q d : Nat} (hq : 2 ≤ q) : 0 < mb q d := Nat.mul_pos (by omega) (Nat.pow_pos (by omega))
/-- the bends of step_at's second loop, in the order of its appends -/
def loopB (q : Nat) : List Nat → Nat → Nat × List Bend
  | [], n => (n, [])
  | d :: r, n => ((loopB q r (n / mb q d)).1, bendAt q d (n % mb q d) :: (loopB q r (n / mb q d)).2)
def prodB (q : Nat) : List Nat → Nat
  | [] => 1
  | d :: r => mb q d * prodB q r
theorem prodB_app (q : Nat) : ∀ a b, prodB q (a ++ b) = prodB q a * prodB q b
  | [], b => by simp [prodB]
  | d :: a, b => by
    show mb q d * prodB q (a ++ b) = mb q d * prodB q a * prodB q b
    rw [prodB_app q a b, Nat.mul_assoc]
theorem prodB_rev (q : Nat) : ∀ a, prodB q a.reverse = prodB q a
  | [] => rfl
  | d :: a => by
    rw [List.reverse_cons, prodB_app, prodB_rev q a]
    show prodB q a * (mb q d * 1) = mb q d * prodB q a
    rw [Nat.mul_one, Nat.mul_comm]
theorem loopB_lt {q : Nat} (hq : 2 ≤ q) : ∀ (ds : List Nat) (n k : Nat), n < k * prodB q ds → (loopB q ds n).1 < k
  | [], n, k, h => by simpa [loopB, prodB] using h
  | d :: r, n, k, h => by
    show (loopB q r (n / mb q d)).1 < k
    refine loopB_lt hq r _ k ?_
    rw [Nat.div_lt_iff_lt_mul (mb_pos hq)]
    have e : k * (mb q d * prodB q r) = k * prodB q r * mb q d := by
      rw [Nat.mul_comm (mb q d), Nat.mul_assoc]
    unfold prodB at h
    rw [e] at h
    exact h
theorem loopB_len (q : Nat) : ∀ (ds : List Nat) (n : Nat), (loopB q ds n).2.length = ds.length
  | [], _ => rfl
  | d :: r, n => by
    show (loopB q r (n / mb q d)).2.length + 1 = r.length + 1
    rw [loopB_len q r]
theorem loopB_deg {q : Nat} : ∀ (ds : List Nat) (n : Nat), (∀ d ∈ ds, 2 ≤ d) → (loopB q ds n).2.map Bend.deg = ds
  | [], _, _ => rfl
  | d :: r, n, h => by
    show (bendAt q d (n % mb q d)).deg :: (loopB q r (n / mb q d)).2.map Bend.deg = d :: r
    rw [loopB_deg r _ fun x hx => h x (List.mem_cons_of_mem _ hx), bendAt_deg (h d List.mem_cons_self)]
theorem loopB_good {q : Nat} (hq : 2 ≤ q) : ∀ (ds : List Nat) (n : Nat), (∀ d ∈ ds, 2 ≤ d ∧ d ≤ 6) → ∀ b ∈ (loopB q ds n).2, b.Good q
  | [], _, _, _, hb => absurd hb List.not_mem_nil
  | d :: r, n, h, b, hb => by
    have hd := h d List.mem_cons_self
    rcases List.mem_cons.mp (show b ∈ bendAt q d (n % mb q d) :: (loopB q r (n / mb q d)).2 from hb) with e | e
    · rw [e]
      exact bendAt_good hq hd.1 hd.2
    · exact loopB_good hq r _ (fun x hx => h x (List.mem_cons_of_mem _ hx)) b e
/-- two ways of reading bends on, from the first one -/
def onB (q : Nat) (r : Nat) (bs : List Bend) : Nat := bs.foldl (bendOn q) r
def onN (q : Nat) (r : Nat) (bs : List Bend) : Nat := bs.foldl (fun r b => r * mb q b.deg + bendOn q 0 b) r
theorem onB_loop {q : Nat} (hq : 2 ≤ q) : ∀ (ds : List Nat) (n : Nat), (∀ d ∈ ds, 2 ≤ d) → onB q (loopB q ds n).1 (loopB q ds n).2.reverse = n
  | [], _, _ => rfl
  | d :: r, n, h => by
    have hd := h d List.mem_cons_self
    show onB q (loopB q r (n / mb q d)).1 (bendAt q d (n % mb q d) :: (loopB q r (n / mb q d)).2).reverse = n
    have ih := onB_loop hq r (n / mb q d) fun x hx => h x (List.mem_cons_of_mem _ hx)
    unfold onB at ih ⊢
    rw [List.reverse_cons, List.foldl_append, ih]
    show bendOn q (n / mb q d) (bendAt q d (n % mb q d)) = n
    rw [bendOn_at hq hd (Nat.mod_lt _ (mb_pos hq)), Nat.mul_comm]
    exact Nat.div_add_mod n (mb q d)
theorem onN_loop {q : Nat} (hq : 2 ≤ q) : ∀ (ds : List Nat) (n : Nat), (∀ d ∈ ds, 2 ≤ d) → onN q (loopB q ds n).1 (loopB q ds n).2.reverse = n
  | [], _, _ => rfl
  | d :: r, n, h => by
    have hd := h d List.mem_cons_self
    show onN q (loopB q r (n / mb q d)).1 (bendAt q d (n % mb q d) :: (loopB q r (n / mb q d)).2).reverse = n
    have ih := onN_loop hq r (n / mb q d) fun x hx => h x (List.mem_cons_of_mem _ hx)
    unfold onN at ih ⊢
    rw [List.reverse_cons, List.foldl_append, ih]
    show n / mb q d * mb q (bendAt q d (n % mb q d)).deg + bendOn q 0 (bendAt q d (n % mb q d)) = n
    rw [bendAt_deg hd, bendOn_at hq hd (Nat.mod_lt _ (mb_pos hq)), Nat.zero_mul, Nat.zero_add, Nat.mul_comm]
    exact Nat.div_add_mod n (mb q d)
/-! ### straight maps -/
/-- a straight map's six numbers -/
structure Map6 where
  a : Nat
  b : Nat
  c : Nat
  d : Nat
  e : Nat
  f : Nat
def Map6.nums (m : Map6) : List Nat := [m.a, m.b, m.c, m.d, m.e, m.f]
structure Map6.Good (q : Nat) (m : Map6) : Prop where
  a : m.a < q
  b : m.b < q
  c : m.c < q
  d : m.d < q
  e : m.e < q
  f : m.f < q
  det : ft q m.a m.e ≠ ft q m.b m.d
def mapAt (q n : Nat) : Map6 :=
  let f := n % q
  let l := n / q
  let i := l % (q * q - q)
  let l := l / (q * q - q)
  let c := l % q
  let l := l / q
  let a := (l + 1) / q
  let b := (l + 1) % q
  let p := (secs q a b).getD i (0, 0)
  ⟨a, b, c, p.1, p.2, f⟩
def mapNum (q : Nat) (m : Map6) : Nat := (((m.a * q + m.b - 1) * q + m.c) * (q * q - q) + ixP (m.d, m.e) (secs q m.a m.b)) * q + m.f
theorem qq_pos {q : Nat} (hq : 2 ≤ q) : 0 < q * q - q := by
  have : q * 2 ≤ q * q := Nat.mul_le_mul_left q hq
  omega
theorem mapAt_all {q n : Nat} (hq : q ∈ fields) (hn : n < mst q) : (mapAt q n).Good q ∧ mapNum q (mapAt q n) = n ∧
    (secs q (mapAt q n).a (mapAt q n).b)[n / q % (q * q - q)]? = some ((mapAt q n).d, (mapAt q n).e) := by
  have h2 := (fields_ge hq).1
  have hq0 : 0 < q := by omega
  have hqq := qq_pos h2
  have hb : (n / q / (q * q - q) / q + 1) % q < q := Nat.mod_lt _ hq0
  have hl : n / q / (q * q - q) / q < q * q - 1 := by
    rw [Nat.div_lt_iff_lt_mul hq0, Nat.div_lt_iff_lt_mul hqq, Nat.div_lt_iff_lt_mul hq0]
    have e : (q * q - 1) * q * (q * q - q) * q = mst q := by
      unfold mst
      rw [Nat.mul_assoc (q * q - 1) q, Nat.mul_comm q (q * q - q), ← Nat.mul_assoc]
    rw [e]
    exact hn
  have ha : (n / q / (q * q - q) / q + 1) / q < q := by
    rw [Nat.div_lt_iff_lt_mul hq0]
    exact Nat.add_lt_of_lt_sub hl
  have hdm := Nat.div_add_mod (n / q / (q * q - q) / q + 1) q
  have h0 : (n / q / (q * q - q) / q + 1) / q ≠ 0 ∨ (n / q / (q * q - q) / q + 1) % q ≠ 0 := by
    by_cases z : (n / q / (q * q - q) / q + 1) / q = 0
    · right
      intro w
      rw [z, w] at hdm
      simp at hdm
    · exact .inl z
  have hlen := secs_len hq ha hb h0
  have hi : n / q % (q * q - q) < (secs q ((n / q / (q * q - q) / q + 1) / q) ((n / q / (q * q - q) / q + 1) % q)).length := by
    rw [hlen]
    exact Nat.mod_lt _ hqq
  have hg : (secs q ((n / q / (q * q - q) / q + 1) / q) ((n / q / (q * q - q) / q + 1) % q))[n / q % (q * q - q)]? = some ((mapAt q n).d, (mapAt q n).e) := by
    rw [List.getElem?_eq_getElem hi]
    show _ = some ((secs q _ _).getD _ (0, 0))
    rw [List.getD_eq_getElem?_getD, List.getElem?_eq_getElem hi]
    rfl
  have hm := secs_mem.mp (List.mem_of_getElem? hg)
  refine ⟨⟨ha, hb, Nat.mod_lt _ hq0, hm.1, hm.2.1, Nat.mod_lt _ hq0, hm.2.2⟩, ?_, hg⟩
  have hx := ixP_at (secs_pw q _ _) hg
  show (((((n / q / (q * q - q) / q + 1) / q) * q + (n / q / (q * q - q) / q + 1) % q - 1) * q + n / q / (q * q - q) % q) * (q * q - q) + ixP ((mapAt q n).d, (mapAt q n).e) (secs q ((n / q / (q * q - q) / q + 1) / q) ((n / q / (q * q - q) / q + 1) % q))) * q + n % q = n
  rw [hx]
  have e1 : (n / q / (q * q - q) / q + 1) / q * q + (n / q / (q * q - q) / q + 1) % q - 1 = n / q / (q * q - q) / q := by
    rw [Nat.mul_comm, hdm]
    exact Nat.add_sub_cancel _ _
  rw [e1]
  have e2 := Nat.div_add_mod (n / q / (q * q - q)) q
  have e3 := Nat.div_add_mod (n / q) (q * q - q)
  have e4 := Nat.div_add_mod n q
  rw [Nat.mul_comm (n / q / (q * q - q) / q) q, e2, Nat.mul_comm (n / q / (q * q - q)), e3, Nat.mul_comm (n / q) q, e4]

/-! ### how many there are -/
def prodD (q : Nat) : List Nat → Nat
  | [] => 1
  | d :: r => prodD q r * mb q d
/-- the straight places with bends of these degrees -/
def mpl (q : Nat) (ds : List Nat) : Nat := if ds = [] then 1 else (q + 1) * q ^ (ds.length - 1) * prodB q ds
theorem mpl_pos {q : Nat} (hq : 2 ≤ q) (ds : List Nat) : 0 < mpl q ds := by
  have hp : ∀ l, 0 < prodB q l := fun l => by
    induction l with
    | nil => exact Nat.one_pos
    | cons d r ih => exact Nat.mul_pos (mb_pos hq) ih
  unfold mpl
  split
  · exact Nat.one_pos
  · exact Nat.mul_pos (Nat.mul_pos (by omega) (Nat.pow_pos (by omega))) (hp _)
theorem mst_pos {q : Nat} (hq : 2 ≤ q) : 0 < mst q := by
  have h1 := qq_pos hq
  have : q * 2 ≤ q * q := Nat.mul_le_mul_left q hq
  exact Nat.mul_pos (Nat.mul_pos (Nat.mul_pos (by omega) h1) (by omega)) (by omega)
/-- .. one after the other, as many_steps does -/
theorem mpl_snoc {q : Nat} (ds : List Nat) (d : Nat) : mpl q (ds ++ [d]) = mpl q ds * mb q d * (if ds.length = 0 then q + 1 else q) := by
  unfold mpl
  rw [if_neg (by simp)]
  cases ds with
  | nil => simp [prodB]; rw [Nat.mul_comm]
  | cons x r =>
    rw [if_neg (by simp), if_neg (by simp), prodB_app]
    have e1 : ((x :: r) ++ [d]).length - 1 = (x :: r).length - 1 + 1 := by simp
    rw [e1, Nat.pow_succ]
    show (q + 1) * (q ^ ((x :: r).length - 1) * q) * (prodB q (x :: r) * (mb q d * 1)) = (q + 1) * q ^ ((x :: r).length - 1) * prodB q (x :: r) * mb q d * q
    rw [Nat.mul_one]
    ac_rfl

/-! ### steps -/
structure StepD where
  s1 : Nat
  bs : List Bend
  ts : List Nat
  m : Map6
structure StepD.Good (q : Nat) (s : StepD) : Prop where
  s1 : s.s1 ≤ q
  bs : ∀ b ∈ s.bs, b.Good q
  ts : ∀ t ∈ s.ts, t < q
  m : s.m.Good q
  len : s.ts.length = s.bs.length - 1
  few : s.bs.length ≤ 12
  nil : s.bs = [] → s.s1 = 0
/-- the rank of a step's straight place -/
def rank (q : Nat) (s : StepD) : Nat := rd q (onB q s.s1 s.bs) s.ts
def head (q : Nat) (s : StepD) : Nat := rd q (onN q s.s1 s.bs) s.ts
def stepNum (q : Nat) (s : StepD) : Nat := head q s * mst q + mapNum q s.m
def stepAt (q : Nat) (ds : List Nat) (n : Nat) : StepD :=
  if ds = [] then ⟨0, [], [], mapAt q (n % mst q)⟩
  else
    let left := n / mst q
    let p := loopB q ds.reverse (left / q ^ (ds.length - 1))
    ⟨p.1, p.2.reverse, (digs q (ds.length - 1) left).reverse, mapAt q (n % mst q)⟩
theorem rd_digs_mod {q : Nat} (hq : 0 < q) (k n : Nat) : rd q (n / q ^ k) (digs q k n).reverse = n := by
  have h : ∀ k n, digs q k n = digs q k (n % q ^ k) := by
    intro k
    induction k with
    | zero => intro n; rfl
    | succ k ih =>
      intro n
      show n % q :: digs q k (n / q) = n % q ^ (k + 1) % q :: digs q k (n % q ^ (k + 1) / q)
      have e1 : n % q ^ (k + 1) % q = n % q := Nat.mod_mod_of_dvd n ⟨q ^ k, by rw [Nat.pow_succ, Nat.mul_comm]⟩
      have e2 : n % q ^ (k + 1) / q = n / q % q ^ k := by
        rw [Nat.pow_succ, Nat.mul_comm (q ^ k) q, Nat.mod_mul_right_div_self]
      rw [e1, e2, ih (n / q)]
  rw [h, rd_digs hq k _ _ (Nat.mod_lt _ (Nat.pow_pos hq)), Nat.mul_comm]
  exact Nat.div_add_mod n (q ^ k)
section
variable {q : Nat} {ds : List Nat} {n : Nat}
theorem div_lt_places (hq : 2 ≤ q) (hn : n < mpl q ds * mst q) : n / mst q < mpl q ds := by
  rw [Nat.div_lt_iff_lt_mul (mst_pos hq)]
  exact hn
theorem stepAt_all (hq : q ∈ fields) (hd : ∀ d ∈ ds, 2 ≤ d ∧ d ≤ 6) (h12 : ds.length ≤ 12) (hn : n < mpl q ds * mst q) :
    (stepAt q ds n).Good q ∧ (stepAt q ds n).bs.map Bend.deg = ds ∧ rank q (stepAt q ds n) = n / mst q ∧ head q (stepAt q ds n) = n / mst q ∧ (stepAt q ds n).m = mapAt q (n % mst q) := by
  have h2 := (fields_ge hq).1
  have hq0 : 0 < q := by omega
  have hm := (mapAt_all hq (Nat.mod_lt n (mst_pos h2))).1
  have hl := div_lt_places h2 hn
  unfold stepAt
  by_cases e : ds = []
  · subst e
    rw [if_pos rfl]
    have h0 : n / mst q = 0 := by
      have e1 : mpl q [] = 1 := rfl
      rw [e1] at hl
      exact Nat.lt_one_iff.mp hl
    refine ⟨⟨Nat.zero_le _, fun b hb => absurd hb List.not_mem_nil, fun t ht => absurd ht List.not_mem_nil, hm, rfl, Nat.zero_le _, fun _ => rfl⟩, rfl, ?_, ?_, rfl⟩
    · rw [h0]
      rfl
    · rw [h0]
      rfl
  · rw [if_neg e]
    have hdr : ∀ d ∈ ds.reverse, 2 ≤ d ∧ d ≤ 6 := fun d h => hd d (List.mem_reverse.mp h)
    have hb : n / mst q / q ^ (ds.length - 1) < (q + 1) * prodB q ds.reverse := by
      rw [Nat.div_lt_iff_lt_mul (Nat.pow_pos hq0), prodB_rev]
      unfold mpl at hl
      rw [if_neg e] at hl
      have ec : (q + 1) * prodB q ds * q ^ (ds.length - 1) = (q + 1) * q ^ (ds.length - 1) * prodB q ds := by ac_rfl
      rw [ec]
      exact hl
    refine ⟨⟨?_, fun b h => ?_, fun t ht => ?_, hm, ?_, ?_, fun z => ?_⟩, ?_, ?_, ?_, rfl⟩
    · exact Nat.le_of_lt_succ (loopB_lt h2 _ _ _ hb)
    · exact loopB_good h2 _ _ hdr b (List.mem_reverse.mp h)
    · exact digs_lt hq0 _ _ t (List.mem_reverse.mp ht)
    · show (digs q _ _).reverse.length = (loopB q _ _).2.reverse.length - 1
      rw [List.length_reverse, List.length_reverse, digs_len, loopB_len, List.length_reverse]
    · show (loopB q _ _).2.reverse.length ≤ 12
      rw [List.length_reverse, loopB_len, List.length_reverse]
      exact h12
    · have : (loopB q ds.reverse (n / mst q / q ^ (ds.length - 1))).2.reverse.length = 0 := by
        rw [show (loopB q ds.reverse (n / mst q / q ^ (ds.length - 1))).2.reverse = [] from z]
        rfl
      rw [List.length_reverse, loopB_len, List.length_reverse] at this
      exact absurd (List.length_eq_zero_iff.mp this) e
    · show (loopB q _ _).2.reverse.map Bend.deg = ds
      rw [List.map_reverse, loopB_deg _ _ fun d h => (hdr d h).1, List.reverse_reverse]
    · show rd q (onB q _ _) _ = _
      rw [onB_loop h2 _ _ fun d h => (hdr d h).1]
      exact rd_digs_mod hq0 _ _
    · show rd q (onN q _ _) _ = _
      rw [onN_loop h2 _ _ fun d h => (hdr d h).1]
      exact rd_digs_mod hq0 _ _
theorem stepNum_at (hq : q ∈ fields) (hd : ∀ d ∈ ds, 2 ≤ d ∧ d ≤ 6) (h12 : ds.length ≤ 12) (hn : n < mpl q ds * mst q) : stepNum q (stepAt q ds n) = n := by
  obtain ⟨_, _, _, h4, h5⟩ := stepAt_all hq hd h12 hn
  unfold stepNum
  rw [h4, h5, (mapAt_all hq (Nat.mod_lt n (mst_pos (fields_ge hq).1))).2.1, Nat.mul_comm]
  exact Nat.div_add_mod n (mst q)
end

/-! ### sizes -/
theorem pow_shift (e k : Nat) : 2 ^ (e + k) = 2 ^ e * 2 ^ k := Nat.pow_add 2 e k
theorem mul_bd {a b e k : Nat} (ha : a < 2 ^ e) (hb : b < 2 ^ k) : a * b < 2 ^ (e + k) := by
  rw [pow_shift]
  exact Nat.mul_lt_mul'' ha hb
theorem bd_mono {a e k : Nat} (h : a < 2 ^ e) (l : e ≤ k) : a < 2 ^ k := Nat.lt_of_lt_of_le h (Nat.pow_le_pow_right (by decide) l)
theorem add_bd {a b e : Nat} (ha : a < 2 ^ e) (hb : b < 2 ^ e) : a + b < 2 ^ (e + 1) := by
  rw [Nat.pow_succ]
  omega
theorem rd_step {q r x e : Nat} (hq : q ≤ 16) (hr : r < 2 ^ e) (hx : x < 16) : r * q + x < 2 ^ (e + 5) := by
  rw [pow_shift]
  have h1 : r * q ≤ r * 16 := Nat.mul_le_mul_left r hq
  have h2 : 0 < 2 ^ e := Nat.pow_pos (by decide)
  have h3 : (2 : Nat) ^ 5 = 32 := by decide
  rw [h3]
  omega
theorem rd_lt {q : Nat} (hq : q ≤ 16) : ∀ (l : List Nat) (r e : Nat), (∀ x ∈ l, x < q) → r < 2 ^ e → rd q r l < 2 ^ (e + 5 * l.length)
  | [], r, e, _, h => h
  | x :: l, r, e, hl, h => by
    have hx := hl x List.mem_cons_self
    have := rd_lt hq l (r * q + x) (e + 5) (fun y hy => hl y (List.mem_cons_of_mem _ hy)) (rd_step hq h (by omega))
    rw [List.length_cons, Nat.mul_succ]
    have e2 : e + (5 * l.length + 5) = e + 5 + 5 * l.length := by omega
    rw [e2]
    exact this
theorem mb_lt {q d : Nat} (hq : q ∈ fields) (hd : d ≤ 6) : mb q d < 2 ^ 20 := by
  have h := fields_all (f := fun q => all2 7 fun d _ => decide (mb q d < 2 ^ 20)) (by decide +kernel) hq
  exact of_decide_eq_true (all2_of h (show d < 7 by omega) (show d < 7 by omega))
theorem mst_facts {q : Nat} (hq : q ∈ fields) : 1 ≤ q * q ∧ q ≤ q * q ∧ q * q ≤ 256 ∧ (q * q - 1) * (q * q - q) ≤ 65536 ∧ (q * q - 1) * (q * q - q) * q ≤ 1048576 ∧ mst q ≤ 16777216 := by
  have h := fields_all (f := fun q => decide (1 ≤ q * q ∧ q ≤ q * q ∧ q * q ≤ 256 ∧ (q * q - 1) * (q * q - q) ≤ 65536 ∧ (q * q - 1) * (q * q - q) * q ≤ 1048576 ∧ mst q ≤ 16777216)) (by decide +kernel) hq
  exact of_decide_eq_true h
theorem bend_bd {q r e : Nat} {b : Bend} (hq : q ≤ 16) (g : b.Good q) (h : r < 2 ^ e) : bendOn q r b < 2 ^ (e + 26) := by
  unfold bendOn
  have h1 := rd_lt hq b.1 r e g.mid h
  have h2 := g.len
  have h3 : rd q r b.1 < 2 ^ (e + 20) := bd_mono h1 (by omega)
  have h4 := g.lst
  have h5 : rd q r b.1 * (q - 1) ≤ rd q r b.1 * 15 := Nat.mul_le_mul_left _ (by omega)
  have h6 : (2 : Nat) ^ (e + 26) = 2 ^ (e + 20) * 64 := by
    rw [show e + 26 = e + 20 + 6 by omega, pow_shift (e + 20) 6]
  have h7 : 0 < (2 : Nat) ^ (e + 20) := Nat.pow_pos (by decide)
  rw [h6]
  omega
theorem onB_bd {q : Nat} (hq : q ≤ 16) : ∀ (bs : List Bend) (r e : Nat), (∀ b ∈ bs, b.Good q) → r < 2 ^ e → onB q r bs < 2 ^ (e + 26 * bs.length)
  | [], r, e, _, h => h
  | b :: bs, r, e, hb, h => by
    have := onB_bd hq bs (bendOn q r b) (e + 26) (fun c hc => hb c (List.mem_cons_of_mem _ hc)) (bend_bd hq (hb b List.mem_cons_self) h)
    rw [List.length_cons, Nat.mul_succ]
    have e2 : e + (26 * bs.length + 26) = e + 26 + 26 * bs.length := by omega
    rw [e2]
    exact this
theorem onN_step {q r e : Nat} {b : Bend} (hq : q ∈ fields) (g : b.Good q) (h : r < 2 ^ e) : r * mb q b.deg + bendOn q 0 b < 2 ^ (e + 27) := by
  have h16 := (fields_ge hq).2
  have h1 := mul_bd h (mb_lt hq (show b.deg ≤ 6 by have := g.len; unfold Bend.deg; omega))
  have h2 := bend_bd (r := 0) (e := 0) h16 g (by decide)
  exact add_bd (bd_mono h1 (by omega)) (bd_mono h2 (by omega))
theorem onN_bd {q : Nat} (hq : q ∈ fields) : ∀ (bs : List Bend) (r e : Nat), (∀ b ∈ bs, b.Good q) → r < 2 ^ e → onN q r bs < 2 ^ (e + 27 * bs.length)
  | [], r, e, _, h => h
  | b :: bs, r, e, hb, h => by
    have := onN_bd hq bs (r * mb q b.deg + bendOn q 0 b) (e + 27) (fun c hc => hb c (List.mem_cons_of_mem _ hc)) (onN_step hq (hb b List.mem_cons_self) h)
    rw [List.length_cons, Nat.mul_succ]
    have e2 : e + (27 * bs.length + 27) = e + 27 + 27 * bs.length := by omega
    rw [e2]
    exact this
theorem mpl_step {q d r e l : Nat} (hq : q ∈ fields) (hd : d ≤ 6) (h : r < 2 ^ e) : r * mb q d * (if l = 0 then q + 1 else q) < 2 ^ (e + 25) := by
  have h16 := (fields_ge hq).2
  have h1 := mul_bd h (mb_lt hq hd)
  have h2 : (if l = 0 then q + 1 else q) < 2 ^ 5 := by
    have : (2 : Nat) ^ 5 = 32 := by decide
    rw [this]
    split <;> omega
  rw [show e + 25 = e + 20 + 5 by omega]
  exact mul_bd h1 h2
theorem take_snoc {α : Type} {l : List α} {i : Nat} {x : α} (h : l[i]? = some x) : l.take (i + 1) = l.take i ++ [x] := by
  rw [List.take_add_one, h]
  rfl
theorem mpl_take_bd {q : Nat} (hq : q ∈ fields) {ds : List Nat} (hd : ∀ d ∈ ds, 2 ≤ d ∧ d ≤ 6) : ∀ i, i ≤ ds.length → mpl q (ds.take i) < 2 ^ (1 + 25 * i)
  | 0, _ => by
    rw [List.take_zero]
    show 1 < 2 ^ 1
    decide
  | i + 1, h => by
    have hi : i < ds.length := by omega
    have ih := mpl_take_bd hq hd i (by omega)
    have hx : ds[i]? = some ds[i] := List.getElem?_eq_getElem hi
    rw [take_snoc hx, mpl_snoc]
    have := mpl_step (l := (ds.take i).length) hq (hd _ (List.mem_of_getElem? hx)).2 ih
    rw [show 1 + 25 * (i + 1) = 1 + 25 * i + 25 by omega]
    exact this
theorem mpl_bd {q : Nat} (hq : q ∈ fields) {ds : List Nat} (hd : ∀ d ∈ ds, 2 ≤ d ∧ d ≤ 6) : mpl q ds < 2 ^ (1 + 25 * ds.length) := by
  have := mpl_take_bd hq hd ds.length (Nat.le_refl _)
  rwa [List.take_length] at this
theorem mst_bd {q : Nat} (hq : q ∈ fields) : mst q < 2 ^ 25 := Nat.lt_of_le_of_lt (mst_facts hq).2.2.2.2.2 (by decide)
end K32
/-! K32Rules: rules of our own over the layer. -/
namespace K32
open PySem PySem.Spec PyProof.Rows L2

/-! ### the text -/
abbrev PWd : PySem.Program := PySem.Challenge.pw_bentplane_k32_whole_places_and_steps_cou
def topS (i : Nat) : Stmt := PWd.main.body.getD i (.Pass ⟨0, 0, 0, 0⟩)

/-! ### a def that is there, with its promise -/
structure Has (P : Program) (w : World) (K : PySem.W.Frag) (mg : Str → Option Value) (base : Heap) (k : Nat) (nm : Str) (st : Stmt) (ps : List Str) (sp : Sp) : Prop where
  ex : ∃ (f : Addr) (fd : FuncData), FnOk P w K mg base CX0 k f fd ps sp ∧ mg nm = some (.ref f) ∧ PySem.W.keepIn K (.ref f) = true ∧ Binds K fd ps [] ∧
    ∃ (kV doc pm : Value) (an : Option Addr) (cdv ct : Value), fd = PySem.W.fnOf nm nm (defArgs st) (defBody st) (defScope st) .none kV doc pm an cdv ct
section
variable {P : Program} {w : World} {K : PySem.W.Frag} {mg : Str → Option Value} {base : Heap} {j k : Nat} {nm : Str} {st : Stmt} {ps : List Str} {sp : Sp}
theorem Has.mk' {f : Addr} {fd : FuncData} (F : Fun K nm nm st f fd) (o : FnOk P w K mg base CX0 k f fd ps sp) (g : mg nm = some (.ref f)) (b : Binds K fd ps []) : Has P w K mg base k nm st ps sp := by
  obtain ⟨oc, od, kV, doc, pm, an, cdv, ct, osl, e, _, _⟩ := F.ex
  exact ⟨f, fd, o, g, F.kp, b, kV, doc, pm, an, cdv, ct, e⟩
theorem Has.mono (h : Has P w K mg base j nm st ps sp) (l : j ≤ k) : Has P w K mg base k nm st ps sp := by
  obtain ⟨f, fd, o, r⟩ := h.ex
  exact ⟨f, fd, o.mono l, r⟩
end
section
variable {X : Cx} {k : Nat} {nm : Str} {st : Stmt} {ps ks : List Str} {sp : Sp} {p pos : Pos} {e : Expr} {es : List Expr} {kws : List Keyword} {t : TA}
/-- a call of such a def -/
theorem pe_callH (h : Has X.prog X.w X.K X.mg X.base k nm st ps sp) (hr : Room k X.A) (hg : Gl X nm) (ha : PA X (e :: es) t) (hdb : (nm == ("__debug__" : Str)) = false := by decide)
    (he : starEach (e :: es) X.env = (false, eval e X.env) :: starEach es X.env := by rfl) (hpl : (backTo pos (starEach es X.env)).any (·.1) = false := by rfl) :
    PE X (.Call (.Name nm p) (e :: es) [] pos) (tCall sp [] E0 t) := by
  obtain ⟨f, fd, o, g, kp, b, _⟩ := h.ex
  exact pe_call o hr hg g kp b .nil pass0 ha hdb he hpl
theorem pe_callH0 (h : Has X.prog X.w X.K X.mg X.base k nm st ps sp) (hr : Room k X.A) (hg : Gl X nm) (hdb : (nm == ("__debug__" : Str)) = false := by decide) :
    PE X (.Call (.Name nm p) [] [] pos) (tCall sp [] E0 tNil) := by
  obtain ⟨f, fd, o, g, kp, b, _⟩ := h.ex
  exact pe_call0 o hr hg g kp b .nil pass0 hdb
/-- a call by keywords alone: g puts their values in the parameters' order -/
def tCallKw (sp : Sp) (gV : List V → List V) (tk : TA) : TE := fun σ H Q => tk σ H fun zs H1 => sp (gV zs) H1 Q E0
theorem pe_callHK {g : List Value → List Value} {gV : List V → List V} (h : Has X.prog X.w X.K X.mg X.base k nm st ps sp) (hr : Room k X.A) (hg : Gl X nm)
    (hb : ∀ (kV doc pm : Value) (an : Option Addr) (cdv ct : Value) (ws : List Value), (g ws).length = ps.length → bindArgs (PySem.W.fnOf nm nm (defArgs st) (defBody st) (defScope st) .none kV doc pm an cdv ct) ⟨[], ks.zip ws⟩ = pure (ps.zip (g ws)))
    (hv : ∀ {zs : List V} {ws : List Value}, Vals zs ws → Vals (gV zs) (g ws)) (hkw : PK X kws t) (hall : (backToKw pos (keywordEach kws X.env)).all (·.1.isSome) = true := by rfl)
    (hks : (backToKw pos (keywordEach kws X.env)).filterMap (·.1) = ks := by rfl) (hdb : (nm == ("__debug__" : Str)) = false := by decide)
    (hpl : ((backTo pos (starEach [] X.env)).any (·.1) || (backToKw pos (keywordEach kws X.env)).any (·.1.isNone)) = false := by rfl) :
    PE X (.Call (.Name nm p) [] kws pos) (tCallKw sp gV t) := by
  obtain ⟨f, fd, o, gm, kp, _, kV, doc, pm, an, cdv, ct, efd⟩ := h.ex
  subst efd
  refine ⟨fun pins s σ H Q I hq => wpAny_Call_Name_kw (ld_glob I hg gm ?_ hdb)⟩
  refine PySem.W.callWith_KW0 (h₀ := X.base) I.ok.mod.kin kp hall (thn (hkw.run pos pins s σ H _ I hq) fun ws s2 ⟨zs, H2, I2, rz, q2⟩ => ⟨I2.kIn, ?_⟩) hpl
  rw [hks]
  have r2 := hv rz
  have hl : (g ws).length = ps.length := r2.length.symm.trans (o.len _ _ _ _ q2)
  have run := o.run X.A X.stack s2 H2 ⟨[], ks.zip ws⟩ (g ws) (gV zs) Q E0 hr I2.env0 (.of_eq (hb kV doc pm an cdv ct ws hl)) r2 q2
  refine wpAny_call (codeAny_mono run fun res s3 hres => ?_)
  match res, hres with
  | .ok (.ret u), hres => exact I2.after hres
end

/-! ### the top's dict of powers -/
abbrev nV (n : Nat) : V := V.int (n : Int)
/-- a tuple of the written part -/
def KTup (K : PySem.W.Frag) (a : Addr) (xs : List V) : Prop := (∀ H, SqT K H a xs) ∧ ∃ o, K.lookup a = some o ∧ o.cls = .type "tuple" ∧ o.dict = none
structure PowD (K : PySem.W.Frag) (d : Addr) : Prop where
  ex : ∃ (es : Array DictEntry) (n : Nat), K.lookup d = some ⟨.type "dict", none, .dict es n, #[]⟩ ∧ (d == sysModules) = false ∧
    (∀ e ∈ es, ∃ (i : Int) (t : Tok), e.key = .int i t ∧ e.hash = hashInt i) ∧
    ∀ q ∈ fields, (isTab q = false → findBy Value.isInt es (q : Int) = none) ∧
      (isTab q = true → ∃ a : Addr, findBy Value.isInt es (q : Int) = some (.ref a) ∧ KTup K a ((pows q).map nV))
section
variable {X : Cx} {d : Addr}
theorem PowD.map {pins : List (Addr × Obj)} {σ : L2.St} {H : Hp} {s : Shared} (D : PowD X.K d) (I : Inv X pins σ H s) : ∃ f, s.heap.MapOf (intKind X.prog X.w) d f ∧ (d == sysModules) = false ∧
    ∀ q ∈ fields, (isTab q = false → f (q : Int) = none) ∧ (isTab q = true → ∃ a : Addr, f (q : Int) = some (.ref a) ∧ KTup X.K a ((pows q).map nV)) := by
  obtain ⟨es, n, hl, low, hk, hf⟩ := D.ex
  refine ⟨fun k => findBy Value.isInt es k, ⟨⟨.type "dict", none, .dict es n, #[]⟩, es, n, I.kIn _ _ hl, ⟨rfl, rfl, rfl⟩, rfl, fun e he => ?_, fun _ => rfl⟩, low, hf⟩
  obtain ⟨i, t, e1, e2⟩ := hk e he
  exact ⟨i, by rw [e1]; exact intKind_is X.prog X.w i t, e2⟩
def rPowIn : Addr → R2 := fun d x y H Q => ∃ q ∈ fields, x = nV q ∧ y = .ref d ∧ Q (.bl (isTab q)) H
def rPowNotIn : Addr → R2 := fun d x y H Q => ∃ q ∈ fields, x = nV q ∧ y = .ref d ∧ Q (.bl (!isTab q)) H
theorem PowD.some_ {f : Int → Option Value} {K : PySem.W.Frag} {q : Nat} (h : (isTab q = false → f (q : Int) = none) ∧ (isTab q = true → ∃ a : Addr, f (q : Int) = some (.ref a) ∧ KTup K a ((pows q).map nV))) : (f (q : Int)).isSome = isTab q := by
  cases e : isTab q with
  | false => rw [h.1 e]; rfl
  | true =>
    obtain ⟨a, ha, _⟩ := h.2 e
    rw [ha]
    rfl
theorem op_powIn (D : PowD X.K d) : OpR X (compareOp .In) (rPowIn d) := by
  intro pins s σ H x y v u Q I rx ry h
  obtain ⟨q, hq, rfl, rfl, k⟩ := h
  obtain ⟨f, hm, low, hf⟩ := D.map I
  obtain ⟨t, rfl⟩ := rx
  cases ry
  refine wpAny_in_of (intKind_is X.prog X.w q t) low hm ⟨.bl (isTab q), H, I.tok _, ?_, k⟩
  show Value.bool _ = Value.bool _
  rw [PowD.some_ (hf q hq)]
theorem op_powNotIn (D : PowD X.K d) : OpR X (compareOp .NotIn) (rPowNotIn d) := by
  intro pins s σ H x y v u Q I rx ry h
  obtain ⟨q, hq, rfl, rfl, k⟩ := h
  obtain ⟨f, hm, low, hf⟩ := D.map I
  obtain ⟨t, rfl⟩ := rx
  cases ry
  refine wpAny_notIn_of (intKind_is X.prog X.w q t) low hm ⟨.bl (!isTab q), H, I.tok _, ?_, k⟩
  show Value.bool _ = Value.bool _
  rw [PowD.some_ (hf q hq)]
def rPowIx (K : PySem.W.Frag) : Addr → R2 := fun d x y H Q => ∃ q ∈ fields, x = .ref d ∧ y = nV q ∧ isTab q = true ∧ ∀ a, KTup K a ((pows q).map nV) → Q (.ref a) H
theorem ix_pow (D : PowD X.K d) : IxR X (rPowIx X.K d) := by
  intro value slice pins s σ H x y v u Q I rx ry h hs
  obtain ⟨q, hq, rfl, rfl, e, k⟩ := h
  obtain ⟨f, hm, low, hf⟩ := D.map I
  obtain ⟨a, ha, hT⟩ := (hf q hq).2 e
  cases rx
  obtain ⟨t, rfl⟩ := ry
  exact tail_any hm.typeIs slot_dict_getitem.lookup (wpAny_getItem_of (intKind_is X.prog X.w q t) hm ha ⟨.ref a, H, I.tok _, rfl, k a hT⟩) hs
end
/-! ### the place of an int in a tuple of ints -/
def rTIx (K : PySem.W.Frag) : V → List V → Hp → VK → Prop := fun x xs H Q => ∃ (p : Addr) (ns : List Nat) (k : Nat), x = .ref p ∧ xs = [nV k] ∧ SqT K H p (ns.map nV) ∧ k ∈ ns ∧ Q (nV (ixOf k ns)) H
theorem idx_ix (k : Nat) : ∀ ns : List Nat, (ns.map fun n : Nat => (n : Int)).idxOf (k : Int) = ixOf k ns
  | [] => rfl
  | n :: r => by
    rw [List.map_cons, List.idxOf_cons]
    unfold ixOf
    by_cases e : n = k
    · subst e
      simp
    · have e2 : ((n : Int) == (k : Int)) = false := beq_eq_false_iff_ne.mpr (by omega)
      rw [e2, if_neg e, idx_ix k r]
      rfl
theorem mt_tix {X : Cx} : MtR X "tuple.index" (rTIx X.K) := by
  intro pins s σ H x xs v us Q I rx rs h
  obtain ⟨p, ns, k, rfl, rfl, hT, hk, q⟩ := h
  cases rx
  obtain ⟨u, rfl, t, rfl⟩ := vals1 rs
  obtain ⟨its, r, ht, hz⟩ := I.tuple hT
  have r' : Vals ((ns.map fun n : Nat => (n : Int)).map V.int) its := by
    rw [List.map_map]
    exact r
  refine SeqAt.tuple_index_ints (ns := ns.map fun n : Nat => (n : Int)) ht (intsAre_of r') (List.mem_map.mpr ⟨k, hk, rfl⟩) ⟨nV ((ns.map fun n : Nat => (n : Int)).idxOf (k : Int)), H, I.tok _, ⟨_, rfl⟩, ?_⟩
  rw [idx_ix]
  exact q
/-! ### repr of data -/
def rRepr (K : PySem.W.Frag) : List V → Hp → VK → Prop := fun xs H Q => ∃ (a : Addr) (d : PyData), xs = [.ref a] ∧ Dp K H (.ref a) d ∧ d.showable = true ∧ d.hasDict = false ∧ d.depth ≤ 60 ∧ d.shown.length ≤ sizeLine ∧ Q (.str d.shown) H
theorem call_repr {X : Cx} (hg : X.A.guards = some []) (hu : X.A.units + 64 < cLine) : CallR X (.builtin "repr") (rRepr X.K) := by
  intro pins s σ H xs us Q I r h
  obtain ⟨a, d, rfl, hd, h1, h2, h3, h4, q⟩ := h
  obtain ⟨u, rfl, ru⟩ := vals1 r
  obtain ⟨as, rr⟩ := Dp.reads I d _ u hd ru
  cases ru
  exact repr_of_reads' rr h1 (PyData.noDict_hsm h2) hg (by omega) (fun _ _ e => e) (fun h' u tk hk => ⟨.str d.shown, H, I.kept (t' := tk) hk, ⟨u, rfl⟩, q⟩) h4

/-! ### the other end of a tuple: t[::-1] -/
theorem adj_back (n : Nat) : Builtin.Slice.sliceAdjust none none (-1) (n : Int) = ((n : Int) - 1, -1) := rfl
theorem places_back (n : Nat) : Builtin.Slice.slicePlaces ((n : Int) - 1) (-1) (-1) = n := by
  unfold Builtin.Slice.slicePlaces
  rw [if_neg (by decide)]
  by_cases h : (-1 : Int) < (n : Int) - 1
  · rw [if_pos h]
    have e : ((n : Int) - 1 - -1 - 1) / (- -1) + 1 = n := by
      rw [show (- -1 : Int) = 1 by decide, Int.ediv_one]
      omega
    rw [e]
    exact Int.toNat_natCast n
  · rw [if_neg h]
    have : n = 0 := by omega
    rw [this]
    rfl
theorem pick_back (xs : Array Value) : (List.range xs.size).filterMap (fun (m : Nat) => xs[((xs.size : Int) - 1 + (m : Int) * -1).toNat]?) = xs.toList.reverse := by
  have h := PySem.W.krv_all xs
  have h2 := PySem.W.krv_range xs.size
  rw [← h, ← List.filterMap_reverse, ← h2, List.filterMap_map]
  congr 1
  funext m
  show xs[((xs.size : Int) - 1 + (m : Int) * -1).toNat]? = xs[xs.size - 1 - m]?
  congr 1
  omega

section
variable {prog : Program} {w : World} {A : Around} {E : Value → Shared → Prop} {s : Shared}
theorem applied_back {sl : Addr} {vs : Value} {n : Nat} {R : Int × Int × Nat → Shared → Prop} (hs : s.heap.IsSliceOf sl .none .none vs) (p : IsPart vs (some (-1))) (h : R ((n : Int) - 1, -1, n) s) :
    wpAny (model prog w) A (Builtin.Slice.sliceApplied (.ref sl) (pure (n : Int))) R E s := by
  obtain ⟨ob, h1, h2, h3⟩ := id hs
  unfold Builtin.Slice.sliceApplied
  unfold Builtin.Slice.sliceFields
  refine wpAny_bind (wpAny_bind ?_)
  refine wpAny_field h1 h3 (i := 0) (x := .none) rfl (wpAny_bind ?_)
  refine wpAny_field h1 h3 (i := 1) (x := .none) rfl (wpAny_bind ?_)
  refine wpAny_field h1 h3 (i := 2) (x := vs) rfl (wpAny_pure (wpAny_bind (HT.slicePart_ p ?_)))
  show wpAny _ _ (if ((-1 : Int) == 0) = true then _ else _) _ _ s
  rw [if_neg (show ¬ (((-1 : Int) == 0) = true) by decide)]
  refine wpAny_bind (slicePart_none (wpAny_bind (slicePart_none (wpAny_bind (wpAny_pure ?_)))))
  show wpAny _ _ (match Builtin.Slice.sliceAdjust none none (-1) (n : Int) with | (a, b) => pure (a, (-1 : Int), Builtin.Slice.slicePlaces a b (-1))) _ _ s
  rw [adj_back n]
  show wpAny _ _ (pure ((n : Int) - 1, (-1 : Int), Builtin.Slice.slicePlaces ((n : Int) - 1) (-1) (-1))) _ _ s
  rw [places_back n]
  exact wpAny_pure h

theorem getItem_back {t sl : Addr} {its : List Value} {vs : Value} {Q : Value → Shared → Prop} (ht : IsTup s.heap t its.toArray) (hs : s.heap.IsSliceOf sl .none .none vs) (p : IsPart vs (some (-1)))
    (h : Q (.ref s.heap.objs.size) { s with heap := s.heap.push { cls := .type "tuple", data := .seq its.reverse.toArray } }) (hz : its.length ≤ sizeLine) : wpAny (model prog w) A (getItem (.ref t) (.ref sl)) Q E s := by
  have hok : sizeOk (.seq its.reverse.toArray) := by
    show its.reverse.toArray.size ≤ sizeLine
    rw [List.size_toArray, List.length_reverse]
    exact hz
  have hT : s.TypeIs (.ref sl) "slice" := by
    obtain ⟨ob, h1, h2, _⟩ := hs
    exact ⟨ob, h1, h2⟩
  unfold getItem
  first | (with_reducible refine wpAny_holding ?_) | skip
  refine wpAny_bind (wpAny_sequenceKey ht.typeIs (by decide) (wpAny_bind ?_))
  refine wpAny_callSpecial?_slot (name := Str.ofString "__getitem__") ht.typeIs PyProof.Rows.slot_tuple_getitem ?_
  refine wpAny_call_entry PyProof.Rows.slot_tuple_getitem ht.typeIs entry_tuple_getitem ?_ (args_tuple_getitem _ _)
  show wpAny _ _ (Builtin.Tuple.tupleItemsOf (.ref t) >>= _) _ _ s
  refine wpAny_bind (tupleItemsOf_ ht (wpAny_bind (wpAny_typeOf hT ?_)))
  rw [if_pos (show ((Value.type "slice" == Value.type "slice") = true) by decide)]
  refine wpAny_bind (applied_back hs p ?_)
  show wpAny _ _ (if ((((its.toArray.size : Nat) : Int) - 1) == 0 && (-1 : Int) == 1 && its.toArray.size == its.toArray.size) = true then _ else _) _ _ s
  rw [if_neg (by rw [show ((-1 : Int) == 1) = false by decide, Bool.and_false, Bool.false_and]; exact Bool.false_ne_true), pick_back]
  first
    | exact wpAny_bind (m := Builtin.Tuple.tupleExact _) (wpAny_newObj_type (wpAny_pure ⟨_, rfl, wpAny_pure h⟩) hok)
    | exact wpAny_bind (wpAny_bind (m := Builtin.Tuple.tupleExact _) (wpAny_newObj_type (wpAny_pure ⟨_, rfl, wpAny_pure h⟩) hok))
end

def tRevT (K : PySem.W.Frag) (te : TE) : TE := fun σ H Q => te σ H fun x H1 => ∃ (a : Addr) (xs : List V), x = .ref a ∧ SqT K H1 a xs ∧ ∀ q, H1 q = none → Q (.ref q) (upd H1 q (.tup xs.reverse))
theorem pe_revT {X : Cx} {e : Expr} {te : TE} {k : Nat} {p1 p2 p3 pos : Pos} (he : PE X e te) : PE X (.Subscript e (.Slice none none (some (.UnaryOp .USub (.Constant (.int 1) k p1) p2)) p3) pos) (tRevT X.K te) := by
  have st : PO X (some (.UnaryOp .USub (.Constant (.int 1) k p1) p2)) (tPart (tUn (rU fun i => .int (-i)) (tC (.int 1)))) := po_some (pe_un un_neg pe_int)
  refine ⟨fun pins s σ H Q I h => Subscript_ (thn (he.run pins s σ H _ I h) fun v s1 hv => ?_)⟩
  obtain ⟨_, H1, I1, r1, a, xs, rfl, hx, q⟩ := hv
  cases r1
  refine wpAny_Slice (thn (po_none.run pins s1 σ H1 (fun o h2 => o = none ∧ h2 = H1) I1 ⟨rfl, rfl⟩) fun vl s2 hl => ?_)
  obtain ⟨_, _, I2, pl, rfl, rfl⟩ := hl
  refine thn (po_none.run pins s2 σ _ (fun o h2 => o = none ∧ h2 = _) I2 ⟨rfl, rfl⟩) fun vu s3 hu => ?_
  obtain ⟨_, _, I3, pu, rfl, rfl⟩ := hu
  refine thn (st.run pins s3 σ _ (fun o h2 => o = some (-1) ∧ h2 = _) I3 ⟨1, rfl, -1, rfl, rfl, rfl⟩) fun vs s4 hs => ?_
  obtain ⟨_, _, I4, pt, rfl, rfl⟩ := hs
  cases pl
  cases pu
  have I5 := I4.kept (t' := s4.toks) (h' := s4.heap.push { cls := .type "slice", data := .fields #[.none, .none, vs] }) fun b u e => Heap.get?_push_of_some _ e
  obtain ⟨its, r, ht, hz⟩ := I5.tuple hx
  have hlen := r.length
  refine tail_any (ops := [.ref a, .ref s4.heap.objs.size]) ht.typeIs (PyProof.Rows.slot_tuple_getitem.lookup) (getItem_back ht (Heap.IsSliceOf.new _ .none .none vs) pt ?_ (by omega)) (by with_unfolding_all rfl)
  refine ⟨.ref _, _, I5.laid (t' := s4.toks) (o := .tup xs.reverse) (fun b u e => Heap.get?_push_of_some _ e) (Nat.le_refl _) ⟨by rw [List.length_reverse]; exact hz, its.reverse, r.reverse, IsTup.new _ _⟩, rfl, q _ (I5.hok.fresh (Nat.le_refl _))⟩

end K32
/-! K32Enum: enumerate over a tuple. -/
namespace K32
open PySem PySem.Spec PyProof.Rows L2
/-! ### enumerate(t), t a tuple -/
set_option maxHeartbeats 1000000 in
theorem meets_enumT (t : Addr) (items : Array Value) : Meets (Builtin.«enumerate.__new__» ⟨[.type "enumerate", .ref t], []⟩) (fun _ R s => s.heap.IsTuple t items ∧
    R (.ok (.ret (.ref (s.heap.push { cls := .type "tuple_iterator", data := .fields #[.ref t, .int 0 0] }).objs.size)))
      { s with heap := (s.heap.push { cls := .type "tuple_iterator", data := .fields #[.ref t, .int 0 0] }).push { cls := .type "enumerate", data := .fields #[.none, .bool false, .ref s.heap.objs.size, rawInt 0, .none, .none] } }) :=
  .of_wp fun prog w A R s h => by
    obtain ⟨hp, g, d, tk, os⟩ := s
    obtain ⟨ht, h⟩ := h
    have h0 := sub_enumerate
    wp_walk
    refine wpAny_stack_any fun _ => wpAny_pure ?_
    split
    · rename_i c _ _ _ _ _
      cases (c == Value.type "enumerate") <;> (wp_walk using wpAny_pyIter_tuple ht; exact ⟨_, rfl, h⟩)
    · wp_walk using wpAny_pyIter_tuple ht
      exact ⟨_, rfl, h⟩

section
variable {prog : Program} {w : World} {A : Around} {E : Value → Shared → Prop} {s : Shared}
theorem call_enumT {t : Addr} {items : Array Value} {Q : Value → Shared → Prop} (ht : s.heap.IsTuple t items)
    (h : ∀ h', IsEnum h' (s.heap.objs.size + 1) s.heap.objs.size 0 .none → h'.IsTupleIter s.heap.objs.size t 0 → (∀ b o, s.heap.get? b = some o → h'.get? b = some o) → Q (.ref (s.heap.objs.size + 1)) { s with heap := h' }) :
    wpAny (model prog w) A (call (.type "enumerate") [.ref t]) Q E s := by
  refine callType_new F.called_enumerate (by decide) (F.typeCall_enumerate_1 _) (F.newCall_enumerate_1 _) (fun obj => F.args_object_init_2 obj _) F.entry_enumerate_new (meets_enumT t items) ⟨ht, ?_⟩
  have z1 : (s.heap.push { cls := .type "tuple_iterator", data := .fields #[.ref t, .int 0 0] }).objs.size = s.heap.objs.size + 1 := Heap.size_push ..
  have e1 : ((s.heap.push { cls := .type "tuple_iterator", data := .fields #[.ref t, .int 0 0] }).push { cls := .type "enumerate", data := .fields #[.none, .bool false, .ref s.heap.objs.size, rawInt 0, .none, .none] }).get? (s.heap.objs.size + 1) = some { cls := .type "enumerate", data := .fields #[.none, .bool false, .ref s.heap.objs.size, rawInt 0, .none, .none] } := by
    rw [← z1]
    exact Heap.get?_push_size _ rfl
  show _ ∧ _
  rw [z1]
  exact ⟨⟨_, e1, rfl⟩, h _ e1 ⟨_, Heap.get?_push_of_some _ (Heap.get?_push_size _ rfl), rfl, rfl⟩ fun b o x => Heap.get?_push_of_some _ (Heap.get?_push_of_some _ x)⟩
end
/-- the tuple at a, each item in a new pair -/
def IteT (K : PySem.W.Frag) (a : Addr) (xs : List V) : It where
  go := fun i H => i < xs.length ∧ SqT K H a xs
  yld := fun i H v H' => ∃ T x, v = .ref T ∧ H T = none ∧ H' = upd H T (.tup [nV i, x]) ∧ xs[i]? = some x
  stop := fun i H => i = xs.length ∧ SqT K H a xs
def enT (a e it : Addr) (i : Nat) (h : Heap) : Prop := (∃ old, IsEnum h e it ((i : Nat) : Int) old) ∧ h.IsTupleIter it a i ∧ e ≠ it ∧ a ≠ it ∧ e ≠ a
theorem turn_enT {P : Program} {w : World} {K : PySem.W.Frag} {elts : List Expr} {kk : Nat} {tpos : Pos} (a e it : Addr) (xs : List V) : Turn P w K (.Tuple elts kk tpos) (IteT K a xs) [e, it] e (enT a e it) where
  mem := List.mem_cons_self
  obj := fun i h ⟨⟨old, he⟩, ⟨o, ho, hc, hd⟩, _⟩ b hb => by
    rcases List.mem_cons.mp hb with rfl | hb
    · exact ⟨_, he, fun v q => nomatch q⟩
    · obtain rfl := List.mem_singleton.mp hb
      exact ⟨o, ho, fun v q => by rw [hd] at q; cases q⟩
  keep := fun i h h' ⟨⟨old, he⟩, hi, n⟩ k => ⟨⟨old, k e (by simp) _ he⟩, hi.at fun o q => k it (by simp) o q, n⟩
  item := by
    intro X hP hw hK hc i pins s σ H E I hf st hg
    subst hP hw hK
    obtain ⟨⟨old, he⟩, hit, n1, n2, n3⟩ := st
    obtain ⟨hlt, hq⟩ := hg
    obtain ⟨its, rv, ht, hz⟩ := I.tuple hq
    have hl := rv.length
    have hel : e < s.heap.objs.size := Heap.lt_size he
    have hil : it < s.heap.objs.size := by
      obtain ⟨_, q, _⟩ := hit
      exact Heap.lt_size q
    refine wpAny_pyNext_enum_itemC (c := (i : Int)) (Draws.tuple (A := X.A.in1) (I.ok.hd hc) it a n2 its.toArray) he ⟨hit, ht⟩ (by rw [List.size_toArray]; omega) n1 (by simp [n1, n3]) fun u h1 tk hu ho hst hT hsz hk => ?_
    refine ⟨_, rfl, wpAny_letOwnedTupleGo_enum (s := { s with heap := h1, toks := tk + 1 }) ho fun h2 he2 sb => ?_⟩
    have hu' : its[i]? = some u := by simpa using hu
    have hT2 := (sb.2 _ (Nat.ne_of_gt hel)).trans hT
    obtain ⟨v, hv⟩ : ∃ v, xs[i]? = some v := ⟨_, List.getElem?_eq_getElem hlt⟩
    obtain ⟨u2, hu2, ru⟩ := rv.get hv
    rw [hu'] at hu2
    cases hu2
    have new : ObjOk X.prog X.w (upd H s.heap.objs.size (.tup [nV i, v])) h2 s.heap.objs.size (.tup [nV i, v]) := ⟨by show 2 ≤ sizeLine; decide, [.int i tk, u], .cons ⟨_, rfl⟩ (.cons ru .nil), ⟨_, hT2, rfl, _, rfl⟩⟩
    have kp : ∀ b ob, b ∉ [e, it] → s.heap.get? b = some ob → h2.get? b = some ob := fun b ob hb q =>
      (sb.2 b fun z => hb (by rw [z]; exact List.mem_cons_self)).trans (hk b ob (fun z => hb (by rw [z]; exact List.mem_cons_self)) (fun z => hb (by rw [z]; exact List.mem_cons_of_mem _ List.mem_cons_self)) q)
    refine ⟨.ref s.heap.objs.size, _, I.turnedNew (ch := [e, it]) kp hf (Nat.le_refl _) new, rfl, ⟨_, v, rfl, I.hok.fresh (Nat.le_refl _), rfl, hv⟩, ⟨⟨u, ?_⟩, hst.1.at fun o q => (sb.2 it (Ne.symm n1)).trans q, n1, n2, n3⟩, fun b hb => ?_⟩
    · rw [show ((i + 1 : Nat) : Int) = (i : Int) + 1 by omega]
      exact he2
    · have hlt2 : b < s.heap.objs.size := by
        rcases List.mem_cons.mp hb with rfl | hb
        · exact hel
        · rw [List.mem_singleton.mp hb]
          exact hil
      rw [upd_ne (Nat.ne_of_lt hlt2)]
      exact (hf b hb).1
  done := by
    intro X hP hw hK hc i pins s σ H E I hf st hg
    subst hP hw hK
    obtain ⟨⟨old, he⟩, hit, n1, n2, n3⟩ := st
    obtain ⟨rfl, hq⟩ := hg
    obtain ⟨its, rv, ht, hz⟩ := I.tuple hq
    have hl := rv.length
    obtain ⟨f0, f1, f2, f3, f4, f5⟩ := hf it (by simp)
    rw [hl] at hit
    exact wpAny_pyNext_enum_endD (Draws.tuple (A := X.A.in1) (I.ok.hd hc) it a n2 its.toArray) he ⟨hit, ht⟩ fun h1 eb => ⟨rfl, I.turned (t' := s.toks) (fun b o hb q => eb b o hb q) f0 f1 f3 f4 f5⟩
  self := fun A i s Q E st h => wpAny_pyIter_enum st.1.choose_spec h
def iEnT (K : PySem.W.Frag) (ta : TA) : TI := fun σ H R => ta σ H fun vs H1 => ∃ a xs, vs = [.ref a] ∧ SqT K H1 a xs ∧ R (IteT K a xs) H1
theorem pi_enumT {X : Cx} {e : Expr} {ta : TA} {p pos tpos : Pos} {elts : List Expr} {kk : Nat} (hg : Gl X "enumerate") (hm : X.mg "enumerate" = none) (ha : PA X [e] ta) (hs : starEach [e] X.env = [(false, eval e X.env)] := by rfl) :
    PI X (.Tuple elts kk tpos) (.Call (.Name "enumerate" p) [e] [] pos) (iEnT X.K ta) := by
  refine ⟨fun pins s σ H R I h => Call_ (ld_blt I hg hm boot_enumerate (PyProof.Rows.callWith_type1 (thn (ha.run pos pins s σ H _ I h) fun us s1 hv => ?_) hs rfl))⟩
  obtain ⟨_, H1, I1, r1, a, xs, rfl, hq, q⟩ := hv
  obtain ⟨u, rfl, ru⟩ := vals1 r1
  cases ru
  obtain ⟨its, rv, ht, hz⟩ := I1.tuple hq
  have hal := ht.lt
  refine call_enumT ht fun h1 he hit hk => wpAny_pyIter_enum he ?_
  refine ⟨s1.heap.objs.size + 1, [s1.heap.objs.size + 1, s1.heap.objs.size], _, _, H1, rfl, I1.kept (t' := s1.toks) hk, turn_enT a (s1.heap.objs.size + 1) s1.heap.objs.size xs, ⟨⟨.none, he⟩, hit, Nat.succ_ne_self _, Nat.ne_of_lt hal, Nat.ne_of_gt (Nat.lt_succ_of_lt hal)⟩, fun b hb => ?_, q⟩
  have hle : s1.heap.objs.size ≤ b := by
    rcases List.mem_cons.mp hb with rfl | hb
    · exact Nat.le_add_right _ _
    · rw [List.mem_singleton.mp hb]
      exact Nat.le_refl _
  exact I1.fpOk hle (I1.hok.fresh hle)
/-- a for over enumerate(t) -/
theorem for_enT {K : PySem.W.Frag} {a : Addr} {xs : List V} {g : TG} {tb : TS} {D : Ends} {σ : L2.St} {H : Hp} (Pv : Nat → L2.St → Hp → Prop) (h0 : Pv 0 σ H) (hq : ∀ i σ H, Pv i σ H → SqT K H a xs)
    (hs : ∀ (i : Nat) (x : V) (T : Addr) (σ : L2.St) (H : Hp), xs[i]? = some x → Pv i σ H → H T = none → g (.ref T) σ (upd H T (.tup [nV i, x])) fun σ2 H2 => tb { D with nx := Pv (i + 1), ct := Pv (i + 1), bk := D.nx } σ2 H2)
    (hd : ∀ σ H, Pv xs.length σ H → D.nx σ H) :
    ∃ W : Nat → Nat → L2.St → Hp → Prop, (∃ m, W 0 m σ H) ∧ ∀ i m σ H, W i m σ H → ((IteT K a xs).stop i H ∧ D.nx σ H) ∨ ((IteT K a xs).go i H ∧ ∃ N : L2.St → Hp → Prop, (∀ σ' H', N σ' H' → ∃ m', m' < m ∧ W (i + 1) m' σ' H') ∧
      ∀ x H', (IteT K a xs).yld i H x H' → g x σ H' fun σ2 H2 => tb { D with nx := N, ct := N, bk := D.nx } σ2 H2) := by
  refine ⟨fun i m σ H => i + m = xs.length ∧ Pv i σ H, ⟨xs.length, Nat.zero_add _, h0⟩, fun i m σ H hw => ?_⟩
  obtain ⟨em, hp⟩ := hw
  by_cases hi : i < xs.length
  · refine .inr ⟨⟨hi, hq i σ H hp⟩, Pv (i + 1), fun σ' H' p' => ⟨m - 1, by omega, by omega, p'⟩, fun v H' hy => ?_⟩
    obtain ⟨T, x, rfl, hn, rfl, hx⟩ := hy
    exact hs i x T σ H hx hp hn
  · obtain rfl : i = xs.length := by omega
    exact .inl ⟨⟨rfl, hq _ σ H hp⟩, hd σ H hp⟩
end K32
/-! K32Guard: defs that are called while no repr runs; the end of the row over such a law. -/
namespace K32
open PySem PySem.Spec PyProof.Rows L2
/-- a promise for calls at which no repr is under way -/
structure FnG (P : Program) (w : World) (K : PySem.W.Frag) (mg : Str → Option Value) (base : Heap) (k : Nat) (f : Addr) (fd : FuncData) (ps : List Str) (sp : Sp) : Prop where
  len : ∀ vs H Q E, sp vs H Q E → vs.length = ps.length
  run : ∀ (A : Around) (outer : List Env) (s : Shared) (H : Hp) (args : Args) (us : List Value) (vs : List V) (Q : VK) (E : XK), A.guards = some [] → Room k A → Env0 P w K mg base A outer s H → BindsTo s fd args (ps.zip us) → Vals vs us → sp vs H Q E →
    codeAny (model P w) A (.call (.ref f) args) (CR CX0 outer P w H s Q E) s
theorem FnG.of {P : Program} {w : World} {K : PySem.W.Frag} {mg : Str → Option Value} {base : Heap} {x qual : Str} {st : Stmt} {f : Addr} {fd : FuncData} {N ps : List Str} {k : Nat} {sp : Sp} (F : Fun K x qual st f fd) (S : FnScope N ps (defScope st))
    (len : ∀ vs H Q E, sp vs H Q E → vs.length = ps.length)
    (body : ∀ (cdv : Value) (A : Around) (outer : List Env) (s : Shared) (H : Hp) (vs : List V) (Q : VK) (E : XK), A.guards = some [] → Room k (A.deeper (envOfC qual (defScope st) s.heap.objs.size f cdv)) → sp vs H Q E →
      ∃ t, PSs (cxOf CX0 P w K mg base N qual (defScope st) f cdv A outer s H E).nox (defBody st) t ∧ t { nx := fun _ H' => Q .non H', rt := Q } (start N vs) H) : FnG P w K mg base (k + 1) f fd ps sp := by
  obtain ⟨oc, od, kV, doc, pm, an, cdv, ct, osl, rfl, lk, hcd⟩ := F.ex
  refine ⟨len, ?_⟩
  intro A outer s H args us vs Q E hG hr e0 hb r hsp
  have keep0 := fun b o e => (e0.bs b o e).1
  have KX := e0.mod.kin.keeps keep0
  have lim := e0.mod.nolimit.keeps keep0
  have kinds : ∀ y ∈ ps.zip us, (defScope st).names.lookup y.1 = some .local ∨ ((defScope st).names.lookup y.1 = some .cell ∧ ((cellsFrom (s.heap.objs.size + 1) (defScope st).names []).lookup y.1).isSome = true) := by
    rintro ⟨n, v⟩ hy
    cases S.par n (List.of_mem_zip hy).1 with
    | inl q => exact .inl q
    | inr q => exact .inr ⟨q, PySem.W.cellsFrom_some _ _ _ (.inl q)⟩
  obtain ⟨t, ht, hq⟩ := body cdv A outer s H vs Q E hG (hr.deeper _) hsp
  refine codeAny_call_function hr.depth (KX _ _ lk) rfl S.co S.gen rfl (PySem.W.codeRec_of KX hcd) (hb _ _ _ _ (wpAny_newFunctionEnv_cells S.kind kinds fun env he s1 x => ?_))
  subst he
  have I := inv_start (CX := CX0) (E := E) S hr.hd e0 (len _ _ _ _ hsp) r x
  refine ⟨lim.keeps x.toInCall.keep, codeAny_func (wpAny_mono (ht.nox.run [] s1 (start N vs) H _ I hq) (fun fl s' hs => ?_) fun e s' hs => hs)⟩
  match fl, hs with
  | .ret u, hs =>
    obtain ⟨v, _, H', J, rv, z⟩ := hs
    exact ⟨v, H', J.os, J.bare, J.base, J.hok, rv, z⟩
  | .next, hs =>
    obtain ⟨_, H', J, z⟩ := hs
    exact ⟨.non, H', J.os, J.bare, J.base, J.hok, rfl, z⟩
  | .brk, hs => exact hs.choose_spec.choose_spec.2.elim
  | .cont, hs => exact hs.choose_spec.choose_spec.2.elim
structure HasG (P : Program) (w : World) (K : PySem.W.Frag) (mg : Str → Option Value) (base : Heap) (k : Nat) (nm : Str) (ps : List Str) (sp : Sp) : Prop where
  ex : ∃ (f : Addr) (fd : FuncData), FnG P w K mg base k f fd ps sp ∧ mg nm = some (.ref f) ∧ PySem.W.keepIn K (.ref f) = true ∧ Binds K fd ps []
section
variable {X : Cx} {k : Nat} {nm : Str} {ps : List Str} {sp : Sp} {p pos : Pos} {e : Expr} {es : List Expr} {t : TA}
theorem pe_callG (h : HasG X.prog X.w X.K X.mg X.base k nm ps sp) (hG : X.A.guards = some []) (hr : Room k X.A) (hg : Gl X nm) (ha : PA X (e :: es) t) (hdb : (nm == ("__debug__" : Str)) = false := by decide)
    (he : starEach (e :: es) X.env = (false, eval e X.env) :: starEach es X.env := by rfl) (hpl : (backTo pos (starEach es X.env)).any (·.1) = false := by rfl) :
    PE X (.Call (.Name nm p) (e :: es) [] pos) (tCall sp [] E0 t) := by
  obtain ⟨f, fd, o, g, kp, b⟩ := h.ex
  refine ⟨fun pins s σ H Q I hq => wpAny_Call_Name_kw (ld_glob I hg g ?_ hdb)⟩
  refine PySem.W.callWith_K (h₀ := X.base) I.ok.mod.kin kp (thn (ha.run pos pins s σ H _ I hq) fun us s1 ⟨vs, H1, I1, r, q1⟩ => ⟨I1.kIn, ?_⟩) he hpl
  have q1 : sp (vs ++ []) H1 Q E0 := q1
  rw [List.append_nil] at q1
  have hl : us.length = ps.length := r.length.symm.trans (o.len _ _ _ _ q1)
  have bd := b s1 us I1.kIn (by rw [List.append_nil]; exact hl)
  rw [List.append_nil] at bd
  refine wpAny_call (codeAny_mono (o.run X.A X.stack s1 H1 ⟨us, []⟩ us vs Q E0 hG hr I1.env0 bd r q1) fun res s3 hres => ?_)
  match res, hres with
  | .ok (.ret u), hres => exact I1.after hres
end

/-! ### the end of the row -/
/-- what is tracked at the law's entry: the script alone, or nothing -/
theorem lawG {P : Program} {w : World} {K : PySem.W.Frag} {mg mb : Str → Option Value} {k : Nat} {fa a : Addr} {fd : FuncData} {x : Str} {sp : Sp} {s1 : Shared} {vs : List Value} {ns : List Int}
    (KX : K.In s1.heap) (hns : s1.heap.Ns mainGlobals mg) (hb : s1.heap.Ns builtinsNs mb) (hbb : ∀ x : Str, x ≠ "__name__" → mb x = bootBuiltins x) (hlim : s1.heap.NoLimit) (hg : s1.gens = #[])
    (ha : s1.heap.get? a = some { cls := .type "list", data := .seq vs.toArray }) (hi : IntsAre vs ns) (hl : ns.length ≤ sizeLine) (hr : Room k callerA)
    (F : ∀ base : Heap, K.In base → base.Ns mainGlobals mg → FnG P w K mg base k fa fd [x] sp) (hbind : ∀ (s : Shared) (u : Value), BindsTo s fd ⟨[u], []⟩ [(x, u)])
    (hsp : ∀ H : Hp, Only H → SqL K H a (ns.map V.int) → sp [.ref a] H (fun v _ => v = .bl true) fun _ _ _ => False) :
    codeAny (model P w) callerA (.call (.ref fa) ⟨[.ref a], []⟩) (fun r s' => r = .ok (.ret (.bool true)) ∧ OldK s1.heap s'.heap ∧ s'.os = s1.os ∧ AllBare s'.gens) s1 := by
  have rv := vals_ints hi
  have lenV := hi.length
  have key : ∀ H : Hp, Only H → SqL K H a (ns.map V.int) → HOk P w H s1.heap → (∀ b u, H b = some u → b = a ∧ K.lookup a = none) →
      codeAny (model P w) callerA (.call (.ref fa) ⟨[.ref a], []⟩) (fun r s' => r = .ok (.ret (.bool true)) ∧ OldK s1.heap s'.heap ∧ s'.os = s1.os ∧ AllBare s'.gens) s1 := by
    intro H hO hS hok hA
    -- a dict of the top, an object of the written part, is not the script
    have free : ∀ {b : Addr} {o : Obj}, s1.heap.get? b = some o → (b = a → K.lookup a = none → False) → (hidT s1.heap H).get? b = some o := fun {b o} e n => by
      refine hidT_get e ?_
      cases q : H b with
      | none => rfl
      | some u => exact (n (hA b u q).1 (hA b u q).2).elim
    have nsF : ∀ {b : Addr} {m : Str → Option Value}, s1.heap.Ns b m → (hidT s1.heap H).Ns b m := fun {b m} h => by
      obtain ⟨o, es, ep, e, d, r⟩ := h
      refine ⟨o, es, ep, free e (fun z _ => ?_), d, r⟩
      rw [z, ha] at e
      cases e
      exact nomatch d
    have hK : K.In (hidT s1.heap H) := fun b o e => free (KX b o e) fun z n => by
      rw [z, n] at e
      cases e
    obtain ⟨mc, l1, l2⟩ := hlim
    have e0 : Env0 P w K mg (hidT s1.heap H) callerA [] s1 H :=
      ⟨rfl, ⟨hK, nsF hns, ⟨mb, nsF hb, hbb⟩, ⟨mc, nsF l1, l2⟩⟩, fun b o e => of_hidT e, Nat.le_of_eq (hidT_size _ _), trivial, fun b z => (List.not_mem_nil z).elim, hok, .of_eq hg⟩
    have run := (F _ hK (nsF hns)).run callerA [] s1 H ⟨[.ref a], []⟩ [.ref a] [.ref a] _ _ rfl hr e0 (hbind s1 (.ref a)) (.cons rfl .nil) (hsp H hO hS)
    refine codeAny_mono run fun res s' hres => ?_
    match res, hres with
    | .ok (.ret u), hres =>
      obtain ⟨v, H', os, bare, un, hok', r', q⟩ := hres
      obtain rfl : v = .bl true := q
      obtain rfl : u = Value.bool true := r'
      refine ⟨rfl, OldK.of_keep fun b o e => ?_, os, bare⟩
      rcases hO b with z | ⟨ob, xs, z⟩
      · exact un.keep b o e z List.not_mem_nil List.not_mem_nil
      · have e1 := (hok b _ z).1
        have e2 := (hok' b _ (un.frzs b ob _ z)).1
        rw [e] at e1
        cases e1
        exact e2
  match hk : K.lookup a with
  | some o =>
    have e := KX a o hk
    rw [ha] at e
    cases e
    exact key (fun _ => none) (fun _ => .inl rfl) (.inr ⟨_, vs.toArray, _, hk, rfl, rfl, rfl, by rw [List.size_toArray, lenV]; exact hl, rv⟩) (fun _ _ z => nomatch z) fun _ _ z => nomatch z
  | none =>
    have at_ : ∀ {b : Addr} {u : HO}, (if b = a then some (HO.frz { cls := .type "list", data := .seq vs.toArray } (.lst (ns.map V.int))) else none) = some u → b = a ∧ u = HO.frz { cls := .type "list", data := .seq vs.toArray } (.lst (ns.map V.int)) := fun {b u} z => by
      split at z
      · cases z
        exact ⟨by assumption, rfl⟩
      · cases z
    refine key (fun b => if b = a then some (.frz { cls := .type "list", data := .seq vs.toArray } (.lst (ns.map V.int))) else none) (fun b => ?_) (.inl (.inr ⟨_, if_pos rfl⟩)) (fun b u z => ?_) fun b u z => ⟨(at_ z).1, hk⟩
    · show (if b = a then _ else none) = none ∨ _
      by_cases hb : b = a
      · exact .inr ⟨_, _, if_pos hb⟩
      · exact .inl (if_neg hb)
    · obtain ⟨rfl, rfl⟩ := at_ z
      exact ⟨ha, by rw [List.length_map]; exact hl, vs, _, rv, ha⟩
theorem walkG {l : PySem.W.OpenLaw} {n k : Nat} {q : Program} {loose : List Str} {XP : (Str → Option Value) → Heap → Prop} {YP : World → Heap → Prop} {d : DefRec} {K : Params → PySem.W.Frag} {sp : PySem.W.Frag → Sp} {x : Str}
    (hn : l.most = some n) (hn2 : n ≤ sizeLine) (hdf : d.params.defaults = []) (hr : Room k callerA) (hY : ∀ (w : World) (h : Heap), YP w h → (K w.params).In h)
    (F : ∀ (w : World) (mg : Str → Option Value) (fa : Addr) (h : Heap), (K w.params).In h → h.Ns mainGlobals mg → mg d.name = some (.ref fa) → ∃ fd : FuncData, (∀ (s : Shared) (u : Value), BindsTo s fd ⟨[u], []⟩ [(x, u)]) ∧
        ∀ base : Heap, (K w.params).In base → base.Ns mainGlobals mg → FnG l.prog w (K w.params) mg base k fa fd [x] (sp (K w.params)))
    (hsp : ∀ (K : PySem.W.Frag) (H : Hp) (a : Addr) (ns : List Int), ns.length ≤ n → Only H → SqL K H a (ns.map V.int) → sp K [.ref a] H (fun v _ => v = .bl true) fun _ _ _ => False) :
    PySem.W.WalkO q loose XP YP l.row.toRowW d [] (fun f vs => PySem.call f vs) :=
  Att.attach_call hn hdf fun w s0 s1 mg mb fa o pm cd doc a vs ns G Y _ _ _ hmg hobj hints hlen hg =>
    have KX := hY w _ Y
    have ⟨_, hb, hF⟩ := F w mg fa _ KX G.T.g hmg
    lawG KX G.T.g G.T.b G.T.builtins G.T.nolimit hg hobj hints (Nat.le_trans hlen hn2) hr hF hb fun H hO hS => hsp _ H a ns hlen hO hS
end K32
/-! K32Data: data, its growth, numbers; the names that are the built-ins'. -/
namespace K32
open PySem PySem.Spec PyProof.Rows L2

/-! ### the built-ins that the text calls -/
structure Blt (mg : Str → Option Value) : Prop where
  isi : mg "isinstance" = none
  int : mg "int" = none
  bool : mg "bool" = none
  tup : mg "tuple" = none
  all : mg "all" = none
  range : mg "range" = none
  enum : mg "enumerate" = none
  len : mg "len" = none
  max : mg "max" = none
  list : mg "list" = none
  zip : mg "zip" = none
  repr : mg "repr" = none

/-! ### heaps -/
theorem sameU {H : Hp} {p : Addr} {o : HO} (h : H p = none) : Same H (upd H p o) := fun b x e => by
  rw [upd_ne (ne_of_none e h)]
  exact e
theorem snu {H H1 : Hp} {p : Addr} {o : HO} (s : Same H H1) (h : H1 p = none) : Same H (upd H1 p o) := s.trans (sameU h)
theorem Same.rd {H H' : Hp} {a : Addr} {u : HO} (e : Same H H') (h : Rd H a u) : Rd H' a u := by
  rcases h with h | ⟨o, h⟩
  · exact .inl (e _ _ h)
  · exact .inr ⟨o, e _ _ h⟩
theorem Same.sqT {K : PySem.W.Frag} {H H' : Hp} {a : Addr} {xs : List V} (e : Same H H') (h : SqT K H a xs) : SqT K H' a xs := by
  rcases h with h | h
  · exact .inl (Same.rd e h)
  · exact .inr h
/-- the tuples are kept -/
def KeepT (H H' : Hp) : Prop := ∀ a xs, Rd H a (.tup xs) → Rd H' a (.tup xs)
theorem Same.keepT {H H' : Hp} (e : Same H H') : KeepT H H' := fun _ _ h => Same.rd e h
theorem KeepT.refl (H : Hp) : KeepT H H := fun _ _ h => h
theorem KeepT.trans {H H1 H2 : Hp} (a : KeepT H H1) (b : KeepT H1 H2) : KeepT H H2 := fun x xs h => b x xs (a x xs h)
theorem KeepT.sqT {K : PySem.W.Frag} {H H' : Hp} {a : Addr} {xs : List V} (e : KeepT H H') (h : SqT K H a xs) : SqT K H' a xs := by
  rcases h with h | h
  · exact .inl (e _ _ h)
  · exact .inr h
/-- a list, a dict is written: the tuples are kept -/
theorem KeepT.wr {H : Hp} {p : Addr} {o : HO} (h : ∀ xs, ¬ Rd H p (.tup xs)) : KeepT H (upd H p o) := fun a xs r => by
  have ne : a ≠ p := fun z => h xs (by rw [← z]; exact r)
  rcases r with r | ⟨u, r⟩
  · exact .inl (by rw [upd_ne ne]; exact r)
  · exact .inr ⟨u, by rw [upd_ne ne]; exact r⟩
theorem no_tup_lst {H : Hp} {p : Addr} {ys : List V} (h : H p = some (.lst ys)) : ∀ xs, ¬ Rd H p (.tup xs) := fun xs r => by
  rcases r with r | ⟨u, r⟩ <;> (rw [h] at r; cases r)
theorem no_tup_dK {H : Hp} {p : Addr} {kvs : List (Key × V)} (h : H p = some (.dK kvs)) : ∀ xs, ¬ Rd H p (.tup xs) := fun xs r => by
  rcases r with r | ⟨u, r⟩ <;> (rw [h] at r; cases r)

/-! ### data -/
/-- data made of tuples, ints, texts alone -/
inductive TD where
  | int (i : Int) | str (x : Str) | tup (ds : List TD)
mutual
def TD.py : TD → PyData
  | .int i => .int i
  | .str x => .str x
  | .tup ds => .tuple (TD.pys ds)
def TD.pys : List TD → List PyData
  | [] => []
  | d :: ds => TD.py d :: TD.pys ds
end
mutual
/-- v is the data d -/
inductive Tv (K : PySem.W.Frag) (H : Hp) : V → TD → Prop
  | int (i : Int) : Tv K H (.int i) (.int i)
  | str (x : Str) : Tv K H (.str x) (.str x)
  | tup {a : Addr} {xs : List V} {ds : List TD} : SqT K H a xs → Tvs K H xs ds → Tv K H (.ref a) (.tup ds)
inductive Tvs (K : PySem.W.Frag) (H : Hp) : List V → List TD → Prop
  | nil : Tvs K H [] []
  | cons {v : V} {vs : List V} {d : TD} {ds : List TD} : Tv K H v d → Tvs K H vs ds → Tvs K H (v :: vs) (d :: ds)
end
section
variable {K : PySem.W.Frag} {H H' : Hp}
mutual
theorem Tv.keep (k : KeepT H H') : ∀ (d : TD) (v : V), Tv K H v d → Tv K H' v d
  | .int i, _, h => by cases h; exact .int i
  | .str x, _, h => by cases h; exact .str x
  | .tup ds, _, h => by
    cases h with
    | tup h1 h2 => exact .tup (KeepT.sqT k h1) (Tvs.keep k ds _ h2)
theorem Tvs.keep (k : KeepT H H') : ∀ (ds : List TD) (vs : List V), Tvs K H vs ds → Tvs K H' vs ds
  | [], _, h => by cases h; exact .nil
  | d :: ds, _, h => by
    cases h with
    | cons h1 h2 => exact .cons (Tv.keep k d _ h1) (Tvs.keep k ds _ h2)
end
mutual
theorem Tv.dp : ∀ (d : TD) (v : V), Tv K H v d → Dp K H v d.py
  | .int i, _, h => by cases h; exact .int i
  | .str x, _, h => by cases h; exact .str x
  | .tup ds, _, h => by
    cases h with
    | tup h1 h2 => exact .tup h1 (Tvs.dp ds _ h2)
theorem Tvs.dp : ∀ (ds : List TD) (vs : List V), Tvs K H vs ds → DpAll K H vs (TD.pys ds)
  | [], _, h => by cases h; exact .nil
  | d :: ds, _, h => by
    cases h with
    | cons h1 h2 => exact .cons (Tv.dp d _ h1) (Tvs.dp ds _ h2)
end
theorem Tv.sm {d : TD} {v : V} (s : Same H H') (h : Tv K H v d) : Tv K H' v d := Tv.keep (Same.keepT s) d v h
theorem Tvs.sm {ds : List TD} {vs : List V} (s : Same H H') (h : Tvs K H vs ds) : Tvs K H' vs ds := Tvs.keep (Same.keepT s) ds vs h
theorem Tv.tup_inv {ds : List TD} {v : V} (h : Tv K H v (.tup ds)) : ∃ (a : Addr) (xs : List V), v = .ref a ∧ SqT K H a xs ∧ Tvs K H xs ds := by
  cases h with
  | tup h1 h2 => exact ⟨_, _, rfl, h1, h2⟩
theorem Tv.int_inv {i : Int} {v : V} (h : Tv K H v (.int i)) : v = .int i := by cases h; rfl
theorem Tv.str_inv {x : Str} {v : V} (h : Tv K H v (.str x)) : v = .str x := by cases h; rfl
theorem Tvs.length : ∀ {ds : List TD} {vs : List V}, Tvs K H vs ds → vs.length = ds.length
  | [], _, h => by cases h; rfl
  | d :: ds, _, h => by
    cases h with
    | cons h1 h2 => rw [List.length_cons, List.length_cons, Tvs.length h2]
theorem Tvs.get : ∀ {ds : List TD} {vs : List V} {i : Nat} {d : TD}, Tvs K H vs ds → ds[i]? = some d → ∃ v, vs[i]? = some v ∧ Tv K H v d
  | [], _, i, d, h, e => by simp at e
  | _ :: ds, _, 0, d, h, e => by
    cases h with
    | cons h1 h2 =>
      cases e
      exact ⟨_, rfl, h1⟩
  | _ :: ds, _, i + 1, d, h, e => by
    cases h with
    | cons h1 h2 => exact Tvs.get (i := i) h2 e
theorem Tvs.app : ∀ {ds es : List TD} {vs us : List V}, Tvs K H vs ds → Tvs K H us es → Tvs K H (vs ++ us) (ds ++ es)
  | [], _, _, _, h, g => by cases h; exact g
  | _ :: ds, _, _, _, h, g => by
    cases h with
    | cons h1 h2 => exact .cons h1 (Tvs.app h2 g)
theorem Tvs.take : ∀ {ds : List TD} {vs : List V} (n : Nat), Tvs K H vs ds → Tvs K H (vs.take n) (ds.take n)
  | _, _, 0, _ => by rw [List.take_zero, List.take_zero]; exact .nil
  | [], _, n + 1, h => by cases h; exact .nil
  | _ :: ds, _, n + 1, h => by
    cases h with
    | cons h1 h2 => exact .cons h1 (Tvs.take n h2)
theorem Tvs.drop : ∀ {ds : List TD} {vs : List V} (n : Nat), Tvs K H vs ds → Tvs K H (vs.drop n) (ds.drop n)
  | _, _, 0, h => h
  | [], _, n + 1, h => by cases h; exact .nil
  | _ :: ds, _, n + 1, h => by
    cases h with
    | cons h1 h2 => exact Tvs.drop n h2
theorem Tvs.rev : ∀ {ds : List TD} {vs : List V}, Tvs K H vs ds → Tvs K H vs.reverse ds.reverse
  | [], _, h => by cases h; exact .nil
  | _ :: ds, _, h => by
    cases h with
    | cons h1 h2 =>
      rw [List.reverse_cons, List.reverse_cons]
      exact Tvs.app (Tvs.rev h2) (.cons h1 .nil)
/-- from the values' end: which data stands at a place -/
theorem Tvs.at {ds : List TD} {vs : List V} {i : Nat} {v : V} (h : Tvs K H vs ds) (e : vs[i]? = some v) : ∃ d, ds[i]? = some d ∧ Tv K H v d := by
  have hi := (List.getElem?_eq_some_iff.mp e).1
  rw [Tvs.length h] at hi
  obtain ⟨u, hu, t⟩ := Tvs.get h (List.getElem?_eq_getElem hi)
  rw [e] at hu
  cases hu
  exact ⟨_, List.getElem?_eq_getElem hi, t⟩
end
/-- numbers; tuples of numbers; bends; steps; places -/
abbrev dN (n : Nat) : TD := .int (n : Int)
def dNs (ns : List Nat) : TD := .tup (ns.map dN)
def dBs (bs : List Bend) : TD := .tup (bs.map fun b => dNs b.nums)
abbrev dS (s1 : Nat) : TD := .int ((s1 : Int) - 1)
def dStep (s : StepD) : TD := .tup [dS s.s1, dBs s.bs, dNs s.ts, dNs s.m.nums]
def dPl (sort : Str) (s1 : Nat) (bs : List Bend) (ts : List Nat) : TD := .tup [.str sort, dS s1, dBs bs, dNs ts]
theorem Tvs.nums {K : PySem.W.Frag} {H : Hp} : ∀ {ns : List Nat} {vs : List V}, Tvs K H vs (ns.map dN) → vs = ns.map nV
  | [], _, h => by cases h; rfl
  | n :: ns, _, h => by
    cases h with
    | cons h1 h2 =>
      rw [Tv.int_inv h1, Tvs.nums h2]
      rfl
theorem Tvs.ofNums {K : PySem.W.Frag} {H : Hp} : ∀ (ns : List Nat), Tvs K H (ns.map nV) (ns.map dN)
  | [] => .nil
  | n :: ns => .cons (.int _) (Tvs.ofNums ns)
theorem Tv.ns {K : PySem.W.Frag} {H : Hp} {v : V} {ns : List Nat} (h : Tv K H v (dNs ns)) : ∃ a : Addr, v = .ref a ∧ SqT K H a (ns.map nV) := by
  obtain ⟨a, xs, rfl, h1, h2⟩ := Tv.tup_inv h
  obtain rfl := Tvs.nums h2
  exact ⟨a, rfl, h1⟩
theorem Tv.ofNs {K : PySem.W.Frag} {H : Hp} {a : Addr} {ns : List Nat} (h : SqT K H a (ns.map nV)) : Tv K H (.ref a) (dNs ns) := .tup h (Tvs.ofNums ns)

/-! ### numbers by the operators -/
def rN (C : Nat → Nat → Prop) (g : Nat → Nat → V) : R2 := fun x y H Q => ∃ n m : Nat, x = nV n ∧ y = nV m ∧ C n m ∧ Q (g n m) H
def rN0 (g : Nat → Nat → V) : R2 := fun x y H Q => ∃ n m : Nat, x = nV n ∧ y = nV m ∧ Q (g n m) H
def Big (n : Nat) : Prop := n < 2 ^ 1000
theorem Big.log {n : Nat} (h : Big n) : (n : Int).natAbs.log2 < 1000 := by
  rw [Int.natAbs_natCast]
  exact PySem.Flt.log2_lt_of (by decide) h
section
variable {X : Cx}
theorem opN_add : OpR X (binaryOp .Add) (rN0 fun n m => nV (n + m)) := fun pins s σ H x y v u Q I rx ry ⟨n, m, e1, e2, q⟩ => op_add pins s σ H x y v u Q I rx ry ⟨_, _, e1, e2, q⟩
theorem opN_sub : OpR X (binaryOp .Sub) (rN (fun n m => m ≤ n) fun n m => nV (n - m)) := fun pins s σ H x y v u Q I rx ry ⟨n, m, e1, e2, c, q⟩ => op_sub pins s σ H x y v u Q I rx ry ⟨_, _, e1, e2, by
  show Q (.int ((n : Int) - (m : Int))) H
  rw [← Int.ofNat_sub c]
  exact q⟩
theorem opN_mul : OpR X (binaryOp .Mult) (rN (fun n m => Big n ∧ Big m) fun n m => nV (n * m)) := fun pins s σ H x y v u Q I rx ry ⟨n, m, e1, e2, c, q⟩ => op_mulW pins s σ H x y v u Q I rx ry ⟨_, _, e1, e2, by
  have h1 := c.1.log
  have h2 := c.2.log
  show _ + _ < 1000000
  omega, q⟩
theorem opN_div : OpR X (binaryOp .FloorDiv) (rN (fun _ m => 0 < m ∧ Big m) fun n m => nV (n / m)) := fun pins s σ H x y v u Q I rx ry ⟨n, m, e1, e2, c, q⟩ => op_fdivW pins s σ H x y v u Q I rx ry ⟨_, _, e1, e2, ⟨by omega, by
  have h2 := c.2.log
  omega⟩, q⟩
theorem opN_mod : OpR X (binaryOp .Mod) (rN (fun _ m => 0 < m) fun n m => nV (n % m)) := fun pins s σ H x y v u Q I rx ry ⟨n, m, e1, e2, c, q⟩ => op_mod pins s σ H x y v u Q I rx ry ⟨_, _, e1, e2, by omega, q⟩
theorem nV_inj {n m : Nat} : (nV n = nV m) ↔ n = m := ⟨fun h => by have := V.int.inj h; omega, fun h => by rw [h]⟩
theorem opN_eq : OpR X (compareOp .Eq) (rN0 fun n m => .bl (decide (n = m))) := fun pins s σ H x y v u Q I rx ry ⟨n, m, e1, e2, q⟩ => op_eq pins s σ H x y v u Q I rx ry (by
  subst e1 e2
  refine ⟨rfl, ?_⟩
  rw [show decide (nV n = nV m) = decide (n = m) from decide_eq_decide.mpr nV_inj]
  exact q)
theorem opN_ne : OpR X (compareOp .NotEq) (rN0 fun n m => .bl (!decide (n = m))) := fun pins s σ H x y v u Q I rx ry ⟨n, m, e1, e2, q⟩ => op_ne pins s σ H x y v u Q I rx ry (by
  subst e1 e2
  refine ⟨rfl, ?_⟩
  rw [show decide (nV n = nV m) = decide (n = m) from decide_eq_decide.mpr nV_inj]
  exact q)
theorem opN_lt : OpR X (compareOp .Lt) (rN0 fun n m => .bl (decide (n < m))) := fun pins s σ H x y v u Q I rx ry ⟨n, m, e1, e2, q⟩ => op_lt pins s σ H x y v u Q I rx ry ⟨_, _, e1, e2, by
  show Q (.bl (decide ((n : Int) < (m : Int)))) H
  rw [show decide ((n : Int) < (m : Int)) = decide (n < m) from decide_eq_decide.mpr (by omega)]
  exact q⟩
theorem opN_gt : OpR X (compareOp .Gt) (rN0 fun n m => .bl (decide (m < n))) := fun pins s σ H x y v u Q I rx ry ⟨n, m, e1, e2, q⟩ => op_gt pins s σ H x y v u Q I rx ry ⟨_, _, e1, e2, by
  show Q (.bl (decide ((m : Int) < (n : Int)))) H
  rw [show decide ((m : Int) < (n : Int)) = decide (m < n) from decide_eq_decide.mpr (by omega)]
  exact q⟩
end
/-- a module's name that holds an object -/
theorem pe_gref {X : Cx} {x : Str} {a : Addr} {pos : Pos} (hg : Gl X x) (hm : X.mg x = some (.ref a)) (hd : (x == ("__debug__" : Str)) = false := by decide) : PE X (.Name x pos) (tC (.ref a)) := pe_glob (v := .ref a) hg hm rfl hd
theorem to {Q : VK} {v u : V} {H : Hp} (k : Q v H) (e : v = u) : Q u H := e ▸ k
theorem big_of {n : Nat} (h : n ≤ 100) : Big n := Nat.lt_of_le_of_lt h (by decide +kernel)

/-! ### a comprehension, item by item -/
theorem smut {H H1 : Hp} {p : Addr} {o : HO} (s : Same H H1) (h : H p = none) : Same H (upd H1 p o) := fun b x e => by
  rw [upd_ne (ne_of_none e h)]
  exact s b x e
theorem lc_map {J : It} {n : Nat} {G : Hp → Prop} {Y : Nat → Hp → V → Hp → Prop} (w : Walk J n G Y) {g : TG} {tt : TT} {te : TE} {vs : List Nat} {σ : L2.St} {H1 : Hp} {D : Addr} {Qd : Hp → Prop} {Itm : Nat → V → Prop} (hn : n ≤ 1000) (nD : H1 D = none)
    (hY : ∀ i H x H', Y i H x H' → H' = H ∧ Itm i x) (hG : ∀ H, Same H1 H → G H) (R : Nat → V → Hp → Prop) (hR : ∀ i y H H', KeepT H H' → R i y H → R i y H')
    (el : ∀ i x H (Rr : VK) (Z : Hp → Prop), i < n → Itm i x → Same H1 H → (∀ y H4, Same H H4 → R i y H4 → Rr y H4) →
      g x (wipe σ vs) H fun σ2 H2 => wipe σ2 vs = wipe σ vs ∧ tt σ2 H2 fun b H3 => if b = true then te σ2 H3 Rr else Z H3)
    (done : ∀ ys H, Same H1 H → H D = some (.lst ys) → ys.length = n → (∀ i y, ys[i]? = some y → R i y H) → Qd H) :
    ∃ W : Nat → Nat → Hp → Prop, (∃ m, W 0 m (upd H1 D (.lst []))) ∧ ∀ i m H, W i m H →
      (J.stop i H ∧ Qd H) ∨ (J.go i H ∧ ∃ Nx : Hp → Prop, (∀ H', Nx H' → ∃ m', m' < m ∧ W (i + 1) m' H') ∧ ∀ x H', J.yld i H x H' → g x (wipe σ vs) H' fun σ2 H2 => wipe σ2 vs = wipe σ vs ∧ tt σ2 H2 fun b H3 =>
        if b = true then te σ2 H3 fun y H4 => ∃ acc, H4 D = some (.lst acc) ∧ acc.length < sizeLine ∧ Nx (upd H4 D (.lst (acc ++ [y]))) else Nx H3) := by
  refine lc_it w (fun i H => ∃ ys, Same H1 H ∧ H D = some (.lst ys) ∧ ys.length = i ∧ ∀ j y, ys[j]? = some y → R j y H) ⟨[], sameU nD, upd_same, rfl, fun j y e => by simp at e⟩ (fun i H _ ⟨_, s, _⟩ => hG H s) (fun i x H H' hi p y => ?_) fun H ⟨ys, s, e, l, r⟩ => done ys H s e l r
  obtain ⟨rfl, hx⟩ := hY i H x H' y
  obtain ⟨ys, s, e, l, r⟩ := p
  refine el i x H' _ _ hi hx s fun y H4 s4 ry => ?_
  have e4 := s4 _ _ e
  have kt : KeepT H4 (upd H4 D (.lst (ys ++ [y]))) := KeepT.wr (no_tup_lst e4)
  refine ⟨ys, e4, small1000 (by omega), ys ++ [y], smut (s.trans s4) nD, upd_same, by rw [List.length_append, l]; rfl, fun j z hz => ?_⟩
  by_cases hj : j < ys.length
  · rw [List.getElem?_append_left hj] at hz
    exact hR j z H' _ ((Same.keepT s4).trans kt) (r j z hz)
  · rw [List.getElem?_append_right (by omega)] at hz
    have hj2 : j - ys.length = 0 := by
      by_cases z0 : j - ys.length = 0
      · exact z0
      · rw [List.getElem?_eq_none (by show 1 ≤ _; omega)] at hz
        cases hz
    rw [hj2] at hz
    cases hz
    obtain rfl : j = i := by omega
    exact hR _ _ _ _ kt ry
theorem bls_of {ys : List V} {n : Nat} (l : ys.length = n) (r : ∀ (i : Nat) (y : V), ys[i]? = some y → y = .bl true) : ys = (List.replicate n true).map V.bl := by
  refine List.ext_getElem? fun i => ?_
  rw [List.getElem?_map, List.getElem?_replicate]
  by_cases h : i < n
  · rw [if_pos h, List.getElem?_eq_getElem (by omega)]
    exact congrArg some (r i _ (List.getElem?_eq_getElem (by omega)))
  · rw [if_neg h, List.getElem?_eq_none (by omega)]
    rfl
theorem all_rep (n : Nat) : (List.replicate n true).all id = true := by
  rw [List.all_replicate]
  simp
/-- its type -/
theorem tyT {K : PySem.W.Frag} {H : Hp} {a : Addr} {xs : List V} (h : SqT K H a xs) : TyX K H (.ref a) (.type "tuple") := by
  rcases h with (h | ⟨o, h⟩) | ⟨o, its, n, h, hc, _⟩
  · exact .base (.tup h)
  · exact .fTuple h
  · exact .kTuple h hc
theorem kit_tup {K : PySem.W.Frag} : PySem.W.kitOne K (.type "tuple") (.type "tuple") = some true := kit_ty (by decide +kernel)

/-! ### data's shape -/
mutual
def TD.okS : TD → Bool
  | .int _ => true
  | .str x => PyData.strOk x
  | .tup ds => TD.okSs ds
def TD.okSs : List TD → Bool
  | [] => true
  | d :: ds => TD.okS d && TD.okSs ds
end
mutual
def TD.dep : TD → Nat
  | .int _ => 0
  | .str _ => 0
  | .tup ds => TD.deps ds + 1
def TD.deps : List TD → Nat
  | [] => 0
  | d :: ds => max (TD.dep d) (TD.deps ds)
end
mutual
theorem TD.lay : ∀ d : TD, d.py.canLay0 = d.okS
  | .int _ => by simp only [TD.py, TD.okS, PyData.canLay0]
  | .str _ => by simp only [TD.py, TD.okS, PyData.canLay0]
  | .tup ds => by simp only [TD.py, TD.okS, PyData.canLay0, TD.lays ds]
theorem TD.lays : ∀ ds : List TD, PyData.canLayAll0 (TD.pys ds) = TD.okSs ds
  | [] => by simp only [TD.pys, TD.okSs, PyData.canLayAll0]
  | d :: ds => by simp only [TD.pys, TD.okSs, PyData.canLayAll0, TD.lay d, TD.lays ds]
end
mutual
theorem TD.depth : ∀ d : TD, d.py.depth = d.dep
  | .int _ => by simp only [TD.py, TD.dep, PyData.depth]
  | .str _ => by simp only [TD.py, TD.dep, PyData.depth]
  | .tup ds => by simp only [TD.py, TD.dep, PyData.depth, TD.depths ds]
theorem TD.depths : ∀ ds : List TD, PyData.depthAll (TD.pys ds) = TD.deps ds
  | [] => by simp only [TD.pys, TD.deps, PyData.depthAll]
  | d :: ds => by simp only [TD.pys, TD.deps, PyData.depthAll, TD.depth d, TD.depths ds]
end
structure TD.Sh (d : TD) (n : Nat) : Prop where
  ok : d.okS = true
  dep : d.dep ≤ n
theorem TD.Sh.shaped {d : TD} {n : Nat} (h : d.Sh n) (hn : n ≤ 60) : SeqAt.shaped d.py = true := by
  unfold SeqAt.shaped
  rw [TD.lay, h.ok, TD.depth, decide_eq_true (show d.dep ≤ 64 by have := h.dep; omega)]
  rfl
theorem TD.Sh.mono {d : TD} {n m : Nat} (h : d.Sh n) (hn : n ≤ m) : d.Sh m := ⟨h.ok, Nat.le_trans h.dep hn⟩
theorem TD.Sh.int (i : Int) : (TD.int i).Sh 0 := ⟨rfl, Nat.le_refl _⟩
theorem TD.Sh.str {x : Str} (h : PyData.strOk x = true) : (TD.str x).Sh 0 := ⟨h, Nat.le_refl _⟩
theorem TD.Sh.tup {ds : List TD} {n : Nat} (h : ∀ d ∈ ds, d.Sh n) : (TD.tup ds).Sh (n + 1) := by
  have key : ∀ ds : List TD, (∀ d ∈ ds, d.Sh n) → TD.okSs ds = true ∧ TD.deps ds ≤ n := by
    intro ds
    induction ds with
    | nil => intro _; exact ⟨rfl, Nat.zero_le _⟩
    | cons d ds ih =>
      intro h
      have h1 := h d List.mem_cons_self
      have h2 := ih fun e he => h e (List.mem_cons_of_mem _ he)
      refine ⟨?_, ?_⟩
      · show (d.okS && TD.okSs ds) = true
        rw [h1.ok, h2.1]
        rfl
      · show max d.dep (TD.deps ds) ≤ n
        exact Nat.max_le.mpr ⟨h1.dep, h2.2⟩
  exact ⟨(key ds h).1, Nat.succ_le_succ (key ds h).2⟩
theorem sh_ns (ns : List Nat) : (dNs ns).Sh 1 := TD.Sh.tup fun d hd => by
  obtain ⟨n, _, rfl⟩ := List.mem_map.mp hd
  exact .int _
theorem sh_bs (bs : List Bend) : (dBs bs).Sh 2 := TD.Sh.tup fun d hd => by
  obtain ⟨b, _, rfl⟩ := List.mem_map.mp hd
  exact sh_ns _
theorem sh_nil : (TD.tup []).Sh 1 := ⟨rfl, by decide⟩
theorem eqv_nil : ∀ ds : List TD, PyData.eqv (TD.tup ds).py (TD.tup []).py = ds.isEmpty
  | [] => by simp [TD.py, TD.pys, PyData.eqv, PyData.eqvAll]
  | d :: ds => by simp [TD.py, TD.pys, PyData.eqv, PyData.eqvAll]
theorem tv_nil {K : PySem.W.Frag} {H : Hp} {p : Addr} (h : H p = some (.tup [])) : Tv K H (.ref p) (.tup []) := .tup (SqT.of h) .nil
/-- == of data by an operator's rule -/
def rEqT (K : PySem.W.Frag) : R2 := fun x y H Q => ∃ d e : TD, Tv K H x d ∧ Tv K H y e ∧ d.Sh 60 ∧ e.Sh 60 ∧ Q (.bl (PyData.eqv d.py e.py)) H
theorem op_eqT {X : Cx} {k : Nat} (hr : Room k X.A) : OpR X (compareOp .Eq) (rEqT X.K) := fun pins s σ H x y v u Q I rx ry ⟨d, e, h1, h2, s1, s2, q⟩ =>
  op_eqD hr.units pins s σ H x y v u Q I rx ry ⟨_, _, Tv.dp d _ h1, Tv.dp e _ h2, s1.shaped (Nat.le_refl _), s2.shaped (Nat.le_refl _), q⟩
def rNeT (K : PySem.W.Frag) : R2 := fun x y H Q => ∃ d e : TD, Tv K H x d ∧ Tv K H y e ∧ d.Sh 60 ∧ e.Sh 60 ∧ Q (.bl (!PyData.eqv d.py e.py)) H
theorem op_neT {X : Cx} {k : Nat} (hr : Room k X.A) : OpR X (compareOp .NotEq) (rNeT X.K) := fun pins s σ H x y v u Q I rx ry ⟨d, e, h1, h2, s1, s2, q⟩ =>
  op_neD hr.units pins s σ H x y v u Q I rx ry ⟨_, _, Tv.dp d _ h1, Tv.dp e _ h2, s1.shaped (Nat.le_refl _), s2.shaped (Nat.le_refl _), q⟩
end K32
/-! K32A: fields. -/
namespace K32
open PySem PySem.Spec PyProof.Rows L2
abbrev s_is_integer : Stmt := topS 2
abbrev N_is_integer : List Str := ["thing"]
theorem sc_is_integer : FnScope N_is_integer ["thing"] (defScope s_is_integer) := ⟨rfl, rfl, rfl, by decide +kernel, rfl, by decide +kernel, by decide +kernel⟩
abbrev s_is_number : Stmt := topS 3
abbrev N_is_number : List Str := ["q", "thing"]
theorem sc_is_number : FnScope N_is_number ["q", "thing"] (defScope s_is_number) := ⟨rfl, rfl, rfl, by decide +kernel, rfl, by decide +kernel, by decide +kernel⟩
section
variable {P : Program} {w : World} {K : PySem.W.Frag} {mg : Str → Option Value} {base : Heap} {f : Addr} {fd : FuncData}
def spIsInt : Sp := fun vs H Q _ => ∃ i : Int, vs = [.int i] ∧ Q (.bl true) H
theorem ok_is_integer (F : Fun K "is_integer" "is_integer" s_is_integer f fd) (B : Blt mg) : FnOk P w K mg base CX0 1 f fd ["thing"] spIsInt := by
  refine F.ok sc_is_integer (fun vs H Q E h => ?_) (fun cdv A outer s H vs Q E hr h => ?_)
  · obtain ⟨i, rfl, _⟩ := h
    rfl
  · obtain ⟨i, rfl, q⟩ := h
    refine ⟨_, (pss_one (ps_ret (pe_and (pe_callB call_isi (by rfl) B.isi (by decide +kernel) (pa_cons (pv 0) (pa_cons (pe_bltn (v := .ty "int") (by rfl) B.int (by decide +kernel) rfl) pa_nil))) (pe_one (pe_not (pe_callB call_isi (by rfl) B.isi (by decide +kernel) (pa_cons (pv 0) (pa_cons (pe_bltn (v := .ty "bool") (by rfl) B.bool (by decide +kernel) rfl) pa_nil)))))))), ?_⟩
    have e1 : PySem.W.kitOne K (.type "int") (.type "int") = some true := kit_ty (by decide +kernel)
    have e2 : PySem.W.kitOne K (.type "int") (.type "bool") = some false := kit_ty (by decide +kernel)
    refine ⟨_, rfl, _, _, _, _, _, rfl, .ty _, .base (.int i), e1, _, rfl, iteT ?_⟩
    exact ⟨_, rfl, _, _, _, _, _, rfl, .ty _, .base (.int i), e2, _, rfl, q⟩
def spIsNum : Sp := fun vs H Q _ => ∃ (q i : Nat), vs = [nV q, nV i] ∧ i < q ∧ Q (.bl true) H
theorem ok_is_number (F : Fun K "is_number" "is_number" s_is_number f fd) (B : Blt mg) (h_is_integer : Has P w K mg base 1 "is_integer" s_is_integer ["thing"] spIsInt) : FnOk P w K mg base CX0 2 f fd ["q", "thing"] spIsNum := by
  refine F.ok sc_is_number (fun vs H Q E h => ?_) (fun cdv A outer s H vs Q E hr h => ?_)
  · obtain ⟨q, i, rfl, _⟩ := h
    rfl
  · obtain ⟨q, i, rfl, hi, k⟩ := h
    refine ⟨_, (pss_one (ps_ret (pe_and (pe_callH h_is_integer hr (by rfl) (pa_cons (pv 1) pa_nil)) (pe_one (pe_chain op_le op_lt pe_int (pv 1) (pv 0)))))), ?_⟩
    refine ⟨_, rfl, _, rfl, _, rfl, iteT ?_⟩
    refine ⟨_, rfl, _, _, rfl, rfl, _, rfl, ?_⟩
    rw [decide_eq_true (by omega : (0 : Int) ≤ (i : Int))]
    refine iteT ⟨_, rfl, _, _, rfl, rfl, to k ?_⟩
    exact congrArg V.bl (decide_eq_true (by omega : (i : Int) < (q : Int))).symm
/-! ### sums, differences -/
theorem xor_eq {a b : Nat} (ha : a < 16) (hb : b < 16) : Builtin.bitXor (a : Int) (b : Int) = ((Nat.xor a b : Nat) : Int) := by
  have h : all2 16 (fun a b => decide (Builtin.bitXor (a : Int) (b : Int) = ((Nat.xor a b : Nat) : Int))) = true := by decide +kernel
  exact of_decide_eq_true (all2_of h ha hb)
theorem fopp_lt {q a : Nat} (hq : q ∈ fields) (ha : a < q) : fopp q a < q := by
  have h := fields_all (f := fun q => all2 q fun a _ => decide (fopp q a < q)) (by decide +kernel) hq
  exact of_decide_eq_true (all2_of h ha ha)
theorem opp_mod {q a : Nat} (hq : q ∈ fields) (ha : a < q) : (0 - (a : Int)) % (q : Int) = (((q - a) % q : Nat) : Int) := by
  have h := fields_all (f := fun q => all2 q fun a _ => decide ((0 - (a : Int)) % (q : Int) = (((q - a) % q : Nat) : Int))) (by decide +kernel) hq
  exact of_decide_eq_true (all2_of h ha ha)
def spPlus : Sp := fun vs H Q _ => ∃ q a b : Nat, vs = [nV q, nV a, nV b] ∧ q ∈ fields ∧ a < q ∧ b < q ∧ Q (nV (fplus q a b)) H
def spOpp : Sp := fun vs H Q _ => ∃ q a : Nat, vs = [nV q, nV a] ∧ q ∈ fields ∧ a < q ∧ Q (nV (fopp q a)) H
def spMinus : Sp := fun vs H Q _ => ∃ q a b : Nat, vs = [nV q, nV a, nV b] ∧ q ∈ fields ∧ a < q ∧ b < q ∧ Q (nV (fminus q a b)) H
def spTimes : Sp := fun vs H Q _ => ∃ q a b : Nat, vs = [nV q, nV a, nV b] ∧ q ∈ fields ∧ a < q ∧ b < q ∧ Q (nV (ft q a b)) H
end
abbrev s_plus : Stmt := topS 4
abbrev N_plus : List Str := ["q", "a", "b"]
theorem sc_plus : FnScope N_plus ["q", "a", "b"] (defScope s_plus) := ⟨rfl, rfl, rfl, by decide +kernel, rfl, by decide +kernel, by decide +kernel⟩
abbrev s_opposite : Stmt := topS 5
abbrev N_opposite : List Str := ["q", "a"]
theorem sc_opposite : FnScope N_opposite ["q", "a"] (defScope s_opposite) := ⟨rfl, rfl, rfl, by decide +kernel, rfl, by decide +kernel, by decide +kernel⟩
abbrev s_minus : Stmt := topS 6
abbrev N_minus : List Str := ["q", "a", "b"]
theorem sc_minus : FnScope N_minus ["q", "a", "b"] (defScope s_minus) := ⟨rfl, rfl, rfl, by decide +kernel, rfl, by decide +kernel, by decide +kernel⟩
abbrev s_times : Stmt := topS 7
abbrev N_times : List Str := ["q", "a", "b", "powers"]
theorem sc_times : FnScope N_times ["q", "a", "b"] (defScope s_times) := ⟨rfl, rfl, rfl, by decide +kernel, rfl, by decide +kernel, by decide +kernel⟩
section
variable {P : Program} {w : World} {K : PySem.W.Frag} {mg : Str → Option Value} {base : Heap} {f d : Addr} {fd : FuncData}
theorem ok_plus (F : Fun K "plus" "plus" s_plus f fd) (D : PowD K d) (gPOWERS : mg "POWERS" = some (.ref d)) : FnOk P w K mg base CX0 1 f fd ["q", "a", "b"] spPlus := by
  refine F.ok sc_plus (fun vs H Q E h => ?_) (fun cdv A outer s H vs Q E hr h => ?_)
  · obtain ⟨q, a, b, rfl, _⟩ := h
    rfl
  · obtain ⟨q, a, b, rfl, hq, ha, hb, k⟩ := h
    refine ⟨_, (pss_cons (ps_if (pt_cmpR opN_eq (pv 0) pe_int (nomark _)) (pss_one (ps_ret (pe_op opN_add (pe_op opN_mul (pe_op opN_mod (pe_op opN_add (pe_op opN_div (pv 1) pe_int) (pe_op opN_div (pv 2) pe_int)) pe_int) pe_int) (pe_op opN_mod (pe_op opN_add (pv 1) (pv 2)) pe_int)))) pss_nil)
      (pss_one (ps_ret (pe_ifExp (pt_cmpR (op_powIn D) (pv 0) (pe_gref (by rfl) gPOWERS) (by rfl)) (pe_op op_xor (pv 1) (pv 2)) (pe_op opN_mod (pe_op opN_add (pv 1) (pv 2)) (pv 0)))))), ?_⟩
    have hqb := fields_ge hq
    refine ⟨_, rfl, q, 9, rfl, rfl, _, rfl, ite2 (fun e => ?_) (fun e => ?_)⟩
    · have e9 : q = 9 := of_decide_eq_true e
      refine ⟨_, rfl, a, 3, rfl, rfl, ⟨by decide, big_of (by decide)⟩, _, rfl, b, 3, rfl, rfl, ⟨by decide, big_of (by decide)⟩, _, _, rfl, rfl, _, 3, rfl, rfl, Nat.succ_pos _, _, 3, rfl, rfl, ⟨big_of (by omega), big_of (by decide)⟩, _, rfl, _, rfl, _, _, rfl, rfl, _, 3, rfl, rfl, Nat.succ_pos _, _, _, rfl, rfl, to k ?_⟩
      rw [fplus, if_pos e9]
    · have e9 : ¬ q = 9 := fun z => e (decide_eq_true z)
      refine ⟨_, rfl, q, hq, rfl, rfl, _, rfl, ite2 (fun e2 => ?_) (fun e2 => ?_)⟩
      · refine ⟨_, rfl, _, rfl, _, _, rfl, rfl, to k ?_⟩
        show nV (fplus q a b) = V.int (Builtin.bitXor (a : Int) (b : Int))
        rw [xor_eq (by omega) (by omega), fplus, if_neg e9, if_pos e2]
      · refine ⟨_, rfl, _, rfl, _, _, rfl, rfl, _, rfl, _, _, rfl, rfl, by omega, to k ?_⟩
        rw [fplus, if_neg e9, if_neg e2]
theorem ok_opposite (F : Fun K "opposite" "opposite" s_opposite f fd) (D : PowD K d) (gPOWERS : mg "POWERS" = some (.ref d)) : FnOk P w K mg base CX0 1 f fd ["q", "a"] spOpp := by
  refine F.ok sc_opposite (fun vs H Q E h => ?_) (fun cdv A outer s H vs Q E hr h => ?_)
  · obtain ⟨q, a, rfl, _⟩ := h
    rfl
  · obtain ⟨q, a, rfl, hq, ha, k⟩ := h
    refine ⟨_, (pss_cons (ps_if (pt_cmpR opN_eq (pv 0) pe_int (nomark _)) (pss_one (ps_ret (pe_op op_add (pe_op op_mul (pe_op op_mod (pe_op op_sub pe_int (pe_op op_fdiv (pv 1) pe_int)) pe_int) pe_int) (pe_op op_mod (pe_op op_sub pe_int (pv 1)) pe_int)))) pss_nil)
      (pss_one (ps_ret (pe_ifExp (pt_cmpR (op_powIn D) (pv 0) (pe_gref (by rfl) gPOWERS) (by rfl)) (pv 1) (pe_op op_mod (pe_op op_sub pe_int (pv 1)) (pv 0)))))), ?_⟩
    have hqb := fields_ge hq
    refine ⟨_, rfl, q, 9, rfl, rfl, _, rfl, ite2 (fun e => ?_) (fun e => ?_)⟩
    · have e9 : q = 9 := of_decide_eq_true e
      refine ⟨_, rfl, _, _, rfl, rfl, ⟨by decide, by decide⟩, _, _, rfl, rfl, _, _, rfl, rfl, (by show (0 : Int) < 3; decide), _, _, rfl, rfl, .inr ⟨by omega, by omega⟩, _, rfl, _, _, rfl, rfl, _, _, rfl, rfl, (by show (0 : Int) < 3; decide), _, _, rfl, rfl, to k ?_⟩
      show nV (fopp q a) = V.int ((0 - (a : Int) / 3) % 3 * 3 + (0 - (a : Int)) % 3)
      rw [fopp, if_pos e9]
      refine congrArg V.int ?_
      omega
    · have e9 : ¬ q = 9 := fun z => e (decide_eq_true z)
      refine ⟨_, rfl, q, hq, rfl, rfl, _, rfl, ite2 (fun e2 => ?_) (fun e2 => ?_)⟩
      · refine ⟨_, rfl, to k ?_⟩
        rw [fopp, if_neg e9, if_pos e2]
      · refine ⟨_, rfl, _, _, rfl, rfl, _, rfl, _, _, rfl, rfl, (by show (0 : Int) < (q : Int); omega), to k ?_⟩
        show nV (fopp q a) = V.int ((0 - (a : Int)) % (q : Int))
        rw [fopp, if_neg e9, if_neg e2, opp_mod hq ha]
theorem ok_minus (F : Fun K "minus" "minus" s_minus f fd) (h_plus : Has P w K mg base 1 "plus" s_plus ["q", "a", "b"] spPlus) (h_opposite : Has P w K mg base 1 "opposite" s_opposite ["q", "a"] spOpp) : FnOk P w K mg base CX0 2 f fd ["q", "a", "b"] spMinus := by
  refine F.ok sc_minus (fun vs H Q E h => ?_) (fun cdv A outer s H vs Q E hr h => ?_)
  · obtain ⟨q, a, b, rfl, _⟩ := h
    rfl
  · obtain ⟨q, a, b, rfl, hq, ha, hb, k⟩ := h
    refine ⟨_, (pss_one (ps_ret (pe_callH h_plus hr (by rfl) (pa_cons (pv 0) (pa_cons (pv 1) (pa_cons (pe_callH h_opposite hr (by rfl) (pa_cons (pv 0) (pa_cons (pv 2) pa_nil))) pa_nil)))))), ?_⟩
    exact ⟨_, rfl, _, rfl, _, rfl, _, rfl, q, b, rfl, hq, hb, q, a, _, rfl, hq, ha, fopp_lt hq hb, k⟩
theorem tab_pows {q : Nat} (hq : q ∈ fields) : isTab q = false ↔ pows q = [] := by
  have h := fields_all (f := fun q => decide (isTab q = false ↔ pows q = [])) (by decide +kernel) hq
  exact of_decide_eq_true h
theorem pows_mem {q a : Nat} (hq : q ∈ fields) (ht : isTab q = true) (ha : a < q) (h0 : a ≠ 0) : a ∈ pows q ∧ (pows q).length = q - 1 := by
  have h := fields_all (f := fun q => all2 q fun a _ => decide (isTab q = true → a ≠ 0 → a ∈ pows q ∧ (pows q).length = q - 1)) (by decide +kernel) hq
  exact of_decide_eq_true (all2_of h ha ha) ht h0
theorem ok_times (F : Fun K "times" "times" s_times f fd) (D : PowD K d) (gPOWERS : mg "POWERS" = some (.ref d)) : FnOk P w K mg base CX0 1 f fd ["q", "a", "b"] spTimes := by
  refine F.ok sc_times (fun vs H Q E h => ?_) (fun cdv A outer s H vs Q E hr h => ?_)
  · obtain ⟨q, a, b, rfl, _⟩ := h
    rfl
  · obtain ⟨q, a, b, rfl, hq, ha, hb, k⟩ := h
    refine ⟨_, (pss_cons (ps_if (pt_cmpR (op_powNotIn D) (pv 0) (pe_gref (by rfl) gPOWERS) (by rfl)) (pss_one (ps_ret (pe_op opN_mod (pe_op opN_mul (pv 1) (pv 2)) (pv 0)))) pss_nil)
      (pss_cons (ps_if (PW.pt (pw_or (pt_cmpR opN_eq (pv 1) pe_int (nomark _)) (pw_or1 (pt_cmpR opN_eq (pv 2) pe_int (nomark _))))) (pss_one (ps_ret pe_int)) pss_nil)
      (pss_cons (ps_set (i := 3) sc_times.nd rfl (Or.inl rfl) (pe_ix (ix_pow D) (pe_gref (by rfl) gPOWERS) (pv 0) (fun _ _ => rfl)))
      (pss_one (ps_ret (pe_ix ix_tup (pv 3) (pe_op opN_mod (pe_op opN_add (pe_bm PySem.F.plainAttrs_tuple PySem.F.slot_tuple_index PySem.F.type_tuple_index mt_tix (pv 3) (pa_cons (pv 1) pa_nil)) (pe_bm PySem.F.plainAttrs_tuple PySem.F.slot_tuple_index PySem.F.type_tuple_index mt_tix (pv 3) (pa_cons (pv 2) pa_nil))) (pe_op opN_sub (pv 0) pe_int)) (fun _ _ => rfl))))))), ?_⟩
    have hqb := fields_ge hq
    refine ⟨_, rfl, q, hq, rfl, rfl, _, rfl, ite2 (fun e => ?_) (fun e => ?_)⟩
    · have e1 : isTab q = false := by simpa using e
      refine ⟨_, rfl, _, rfl, a, b, rfl, rfl, ⟨big_of (by omega), big_of (by omega)⟩, _, rfl, _, _, rfl, rfl, by omega, to k ?_⟩
      rw [ft, if_pos ((tab_pows hq).mp e1)]
    · have e1 : isTab q = true := by simpa using e
      have e2 : ¬ pows q = [] := fun z => by rw [(tab_pows hq).mpr z] at e1; cases e1
      refine ⟨_, rfl, a, 0, rfl, rfl, _, rfl, ite2 (fun z => ?_) (fun z => ⟨_, rfl, b, 0, rfl, rfl, _, rfl, ite2 (fun z2 => ?_) (fun z2 => ?_)⟩)⟩
      · refine iteT (to k ?_)
        rw [ft, if_neg e2, if_pos (.inl (of_decide_eq_true z))]
        rfl
      · refine (to k ?_)
        rw [ft, if_neg e2, if_pos (.inr (of_decide_eq_true z2))]
        rfl
      · have za : a ≠ 0 := fun y => z (decide_eq_true y)
        have zb : b ≠ 0 := fun y => z2 (decide_eq_true y)
        obtain ⟨ma, hl⟩ := pows_mem hq e1 ha za
        have mb := (pows_mem hq e1 hb zb).1
        refine ⟨_, rfl, q, hq, rfl, rfl, e1, fun p hp => ?_⟩
        have hlt : (ixOf a (pows q) + ixOf b (pows q)) % (q - 1) < (pows q).length := by
          rw [hl]
          exact Nat.mod_lt _ (by omega)
        have ty : ∀ H, tyV K "tuple" (.ref p) H := fun _ => .inr (.inl ⟨rfl, hp.2⟩)
        refine ⟨_, rfl, _, rfl, ty _, _, rfl, p, pows q, a, rfl, rfl, hp.1 _, ma, _, rfl, ty _, _, rfl, p, pows q, b, rfl, rfl, hp.1 _, mb, _, _, rfl, rfl, _, rfl, q, 1, rfl, rfl, by omega, _, _, rfl, rfl, by omega, ?_⟩
        refine ⟨p, _, _, _, rfl, rfl, hp.1 _, atI_nat (v := nV ((pows q).getD ((ixOf a (pows q) + ixOf b (pows q)) % (q - 1)) 0)) ?_, to k ?_⟩
        · rw [List.getElem?_map, List.getElem?_eq_getElem hlt, List.getD_eq_getElem?_getD, List.getElem?_eq_getElem hlt]
          rfl
        · rw [ft, if_neg e2, if_neg (by omega)]
end
end K32
/-! K32B: which values are steps. -/
namespace K32
open PySem PySem.Spec PyProof.Rows L2
abbrev s_are_numbers : Stmt := topS 15
abbrev N_are_numbers : List Str := ["q", "thing", "part"]
theorem sc_are_numbers : FnScope N_are_numbers ["q", "thing"] (defScope s_are_numbers) := ⟨rfl, rfl, rfl, by decide +kernel, rfl, by decide +kernel, by decide +kernel⟩
abbrev s_is_one_letter : Stmt := topS 16
abbrev N_is_one_letter : List Str := ["q", "thing"]
theorem sc_is_one_letter : FnScope N_is_one_letter ["q", "thing"] (defScope s_is_one_letter) := ⟨rfl, rfl, rfl, by decide +kernel, rfl, by decide +kernel, by decide +kernel⟩
abbrev s_map_determinant : Stmt := topS 18
abbrev N_map_determinant : List Str := ["q", "m"]
theorem sc_map_determinant : FnScope N_map_determinant ["q", "m"] (defScope s_map_determinant) := ⟨rfl, rfl, rfl, by decide +kernel, rfl, by decide +kernel, by decide +kernel⟩
abbrev s_is_straight : Stmt := topS 19
abbrev N_is_straight : List Str := ["q", "thing"]
theorem sc_is_straight : FnScope N_is_straight ["q", "thing"] (defScope s_is_straight) := ⟨rfl, rfl, rfl, by decide +kernel, rfl, by decide +kernel, by decide +kernel⟩
abbrev s_is_bend : Stmt := topS 20
abbrev N_is_bend : List Str := ["q", "thing"]
theorem sc_is_bend : FnScope N_is_bend ["q", "thing"] (defScope s_is_bend) := ⟨rfl, rfl, rfl, by decide +kernel, rfl, by decide +kernel, by decide +kernel⟩
abbrev s_are_bends : Stmt := topS 29
abbrev N_are_bends : List Str := ["q", "thing", "part"]
theorem sc_are_bends : FnScope N_are_bends ["q", "thing"] (defScope s_are_bends) := ⟨rfl, rfl, rfl, by decide +kernel, rfl, by decide +kernel, by decide +kernel⟩
abbrev s_are_turns : Stmt := topS 30
abbrev N_are_turns : List Str := ["q", "thing", "many", "part"]
theorem sc_are_turns : FnScope N_are_turns ["q", "thing", "many"] (defScope s_are_turns) := ⟨rfl, rfl, rfl, by decide +kernel, rfl, by decide +kernel, by decide +kernel⟩
abbrev s_is_start : Stmt := topS 31
abbrev N_is_start : List Str := ["q", "thing"]
theorem sc_is_start : FnScope N_is_start ["q", "thing"] (defScope s_is_start) := ⟨rfl, rfl, rfl, by decide +kernel, rfl, by decide +kernel, by decide +kernel⟩
abbrev s_is_step_value : Stmt := topS 32
abbrev N_is_step_value : List Str := ["q", "thing"]
theorem sc_is_step_value : FnScope N_is_step_value ["q", "thing"] (defScope s_is_step_value) := ⟨rfl, rfl, rfl, by decide +kernel, rfl, by decide +kernel, by decide +kernel⟩
abbrev s_check_step : Stmt := topS 33
abbrev N_check_step : List Str := ["q", "thing"]
theorem sc_check_step : FnScope N_check_step ["q", "thing"] (defScope s_check_step) := ⟨rfl, rfl, rfl, by decide +kernel, rfl, by decide +kernel, by decide +kernel⟩
section
variable {P : Program} {w : World} {K : PySem.W.Frag} {mg : Str → Option Value} {base : Heap} {f d : Addr} {fd : FuncData}
/-- a promise: the value of data, the heap grown -/
def spYes (K : PySem.W.Frag) (args : List V → Hp → Prop) : Sp := fun vs H Q _ => args vs H ∧ ∀ H', Same H H' → Q (.bl true) H'
def spAreNum (K : PySem.W.Frag) : Sp := fun vs H Q _ => ∃ (q : Nat) (v : V) (ns : List Nat), vs = [nV q, v] ∧ Tv K H v (dNs ns) ∧ (∀ n ∈ ns, n < q) ∧ ns.length ≤ 100 ∧ ∀ H', Same H H' → Q (.bl true) H'
theorem ok_are_numbers (F : Fun K "are_numbers" "are_numbers" s_are_numbers f fd) (B : Blt mg) (h_is_number : Has P w K mg base 2 "is_number" s_is_number ["q", "thing"] spIsNum) : FnOk P w K mg base CX0 3 f fd ["q", "thing"] (spAreNum K) := by
  refine F.ok sc_are_numbers (fun vs H Q E h => ?_) (fun cdv A outer s H vs Q E hr h => ?_)
  · obtain ⟨q, v, ns, rfl, _⟩ := h
    rfl
  · obtain ⟨q, v, ns, rfl, hv, hn, hl, k⟩ := h
    refine ⟨_, (pss_one (ps_ret (pe_and (pe_callB call_isi (by rfl) B.isi (by decide +kernel) (pa_cons (pv 1) (pa_cons (pe_bltn (v := .ty "tuple") (by rfl) B.tup (by decide +kernel) rfl) pa_nil))) (pe_one (pe_callB (cr_all rfl) (by rfl) B.all (by decide +kernel) (pa_cons (pe_lc (own := [("part", 2)]) (by rfl) sc_are_numbers.nd (pi_tup (pv 1)) (blkOk_by (own := [("part", 2)]) (N := N_are_numbers) (sc := defScope s_are_numbers) (by decide +kernel)) (fun _ _ _ _ _ => pg_name (i := 2) sc_are_numbers.nd rfl (Or.inl rfl)) (fun _ _ _ _ _ => pts_nil) (fun _ _ _ _ _ => (pe_callH h_is_number hr (by rfl) (pa_cons (pv 0) (pa_cons (pv 2) pa_nil))))) pa_nil)))))), ?_⟩
    obtain ⟨a, rfl, hT⟩ := Tv.ns hv
    refine ⟨_, rfl, _, _, _, _, _, rfl, .ty _, tyT hT, kit_tup, _, rfl, iteT ?_⟩
    refine ⟨_, rfl, a, rfl, ⟨_, hT⟩, fun D nD => ?_⟩
    refine lc_map (Itm := fun i x => (ns.map nV)[i]? = some x) walk_tup (by rw [List.length_map]; omega) nD (fun i H x H' y => y) (fun H s => Same.sqT s hT) (fun _ y _ => y = .bl true) (fun _ _ _ _ _ e => e) (fun i x H2 Rr Z hi hx s2 rr => ?_) fun ys H2 s2 e2 l2 r2 => ?_
    · rw [List.getElem?_map] at hx
      obtain ⟨n, hn2, rfl⟩ := Option.map_eq_some_iff.mp hx
      refine ⟨rfl, iteT (B := Z H2) ⟨_, rfl, _, rfl, q, n, rfl, hn n (List.mem_of_getElem? hn2), rr _ _ (Same.refl _) rfl⟩⟩
    · refine ⟨D, _, rfl, SqL.of (e2.trans (by rw [bls_of l2 r2])), to (k _ s2) ?_⟩
      exact congrArg V.bl (all_rep _).symm

/-! ### bends -/
theorem nums_ne (b : Bend) : b.nums ≠ [] := by
  unfold Bend.nums
  simp
theorem nums_last (b : Bend) : (b.nums.map nV) = (0 :: 0 :: b.1).map nV ++ [nV b.2] := by
  unfold Bend.nums
  show List.map nV ((0 :: 0 :: b.1) ++ [b.2]) = _
  rw [List.map_append]
  rfl
theorem nums_lt {q : Nat} {b : Bend} (hq : 0 < q) (g : b.Good q) : ∀ n ∈ b.nums, n < q := fun n hn => by
  unfold Bend.nums at hn
  rcases List.mem_cons.mp hn with e | hn
  · omega
  rcases List.mem_cons.mp hn with e | hn
  · omega
  rcases List.mem_append.mp hn with hn | hn
  · exact g.mid n hn
  · rw [List.mem_singleton.mp hn]
    exact g.lst
def spBend (K : PySem.W.Frag) : Sp := fun vs H Q _ => ∃ (q : Nat) (v : V) (b : Bend), vs = [nV q, v] ∧ 0 < q ∧ Tv K H v (dNs b.nums) ∧ b.Good q ∧ ∀ H', Same H H' → Q (.bl true) H'
theorem ok_is_one_letter (F : Fun K "is_one_letter" "is_one_letter" s_is_one_letter f fd) (h_are_numbers : Has P w K mg base 3 "are_numbers" s_are_numbers ["q", "thing"] (spAreNum K)) : FnOk P w K mg base CX0 4 f fd ["q", "thing"] (spBend K) := by
  refine F.ok sc_is_one_letter (fun vs H Q E h => ?_) (fun cdv A outer s H vs Q E hr h => ?_)
  · obtain ⟨q, v, b, rfl, _⟩ := h
    rfl
  · obtain ⟨q, v, b, rfl, hq, hv, hb, k⟩ := h
    refine ⟨_, (pss_one (ps_ret (pe_and (pe_callH h_are_numbers hr (by rfl) (pa_cons (pv 0) (pa_cons (pv 1) pa_nil))) (pe_one (pe_or (pe_cmpR (op_eqT hr) (pv 1) (pe_tup pa_nil) (nomark _)) (pe_one (pe_cmpR opN_ne (pe_ix ix_tup (pv 1) (pe_un un_neg pe_int) (fun _ _ => rfl)) pe_int (nomark _)))))))), ?_⟩
    obtain ⟨a, rfl, hT⟩ := Tv.ns hv
    have hl := hb.len
    have hlen := b.nums_len
    unfold Bend.deg at hlen
    refine ⟨_, rfl, _, rfl, q, _, b.nums, rfl, hv, nums_lt hq hb, by omega, fun H1 s1 => ⟨_, rfl, iteT ?_⟩⟩
    refine ⟨_, rfl, Nat.zero_le _, fun p np => ⟨_, _, Tv.sm (snu s1 np) hv, tv_nil upd_same, (sh_ns _).mono (by decide), sh_nil.mono (by decide), _, rfl, ?_⟩⟩
    have s2 := snu (o := .tup []) s1 np
    unfold dNs
    rw [eqv_nil, show (b.nums.map dN).isEmpty = false from rfl]
    refine iteF ⟨_, rfl, 1, rfl, a, _, _, _, rfl, rfl, Same.sqT s2 hT, (by rw [nums_last]; exact atI_last _ _), b.2, 0, rfl, rfl, to (k _ s2) ?_⟩
    exact congrArg V.bl (by rw [decide_eq_false hb.nz]; rfl)
theorem cut2 (b : Bend) : cutV (b.nums.map nV) none (some 2) = [nV 0, nV 0] := by
  unfold cutV
  rw [HT.sIx_none]
  have e : HT.sIx (b.nums.map nV).length (b.nums.map nV).length (some 2) = min 2 (b.nums.map nV).length := HT.sIx_nat _ _ 2
  rw [e]
  have h3 : 3 ≤ (b.nums.map nV).length := by
    rw [List.length_map, Bend.nums_len]
    unfold Bend.deg
    omega
  rw [Nat.min_eq_left (by omega)]
  rfl
theorem ok_is_bend (F : Fun K "is_bend" "is_bend" s_is_bend f fd) (B : Blt mg) (h_is_one_letter : Has P w K mg base 4 "is_one_letter" s_is_one_letter ["q", "thing"] (spBend K)) : FnOk P w K mg base CX0 5 f fd ["q", "thing"] (spBend K) := by
  refine F.ok sc_is_bend (fun vs H Q E h => ?_) (fun cdv A outer s H vs Q E hr h => ?_)
  · obtain ⟨q, v, b, rfl, _⟩ := h
    rfl
  · obtain ⟨q, v, b, rfl, hq, hv, hb, k⟩ := h
    refine ⟨_, (pss_one (ps_ret (pe_and (pe_callH h_is_one_letter hr (by rfl) (pa_cons (pv 0) (pa_cons (pv 1) pa_nil))) (pe_and (pe_chain op_le op_le pe_int (pe_callB call_len_seq (by rfl) B.len (by decide +kernel) (pa_cons (pv 1) pa_nil)) pe_int) (pe_one (pe_cmpR (op_eqT hr) (pe_slice sl_tup (pv 1) po_none (po_some pe_int)) (pe_tup (pa_cons pe_int (pa_cons pe_int pa_nil))) (nomark _))))))), ?_⟩
    obtain ⟨a, rfl, hT⟩ := Tv.ns hv
    have hl := hb.len
    have hlen : (b.nums.map nV).length = b.1.length + 3 := by
      rw [List.length_map, b.nums_len]
      rfl
    refine ⟨_, rfl, _, rfl, q, _, b, rfl, hq, hv, hb, fun H1 s1 => ⟨_, rfl, iteT ?_⟩⟩
    refine ⟨_, rfl, a, _, rfl, .inr (Same.sqT s1 hT), _, _, rfl, rfl, _, rfl, ?_⟩
    rw [decide_eq_true (by rw [hlen]; omega : (3 : Int) ≤ ((b.nums.map nV).length : Int))]
    refine iteT ⟨_, _, rfl, rfl, _, rfl, ?_⟩
    rw [decide_eq_true (by rw [hlen]; omega : ((b.nums.map nV).length : Int) ≤ 7)]
    refine iteT ⟨_, rfl, 2, rfl, a, _, rfl, Same.sqT s1 hT, ?_, fun p np => ⟨by decide, fun p2 np2 => ?_⟩⟩
    · have e2 : HT.sIx (b.nums.map nV).length (b.nums.map nV).length (some 2) = min 2 (b.nums.map nV).length := HT.sIx_nat _ _ 2
      rw [e2, hlen]
      omega
    · rw [cut2] at np2 ⊢
      have z1 : Tv K (upd (upd H1 p (.tup [nV 0, nV 0])) p2 (.tup [nV 0, nV 0])) (.ref p) (dNs [0, 0]) := Tv.ofNs (SqT.of ((sameU np2) _ _ upd_same))
      have z2 : Tv K (upd (upd H1 p (.tup [nV 0, nV 0])) p2 (.tup [nV 0, nV 0])) (.ref p2) (dNs [0, 0]) := Tv.ofNs (SqT.of upd_same)
      exact ⟨_, _, z1, z2, (sh_ns _).mono (by decide), (sh_ns _).mono (by decide), k _ (snu (snu s1 np) np2)⟩
/-! ### straight maps -/
def Map6.Lt (q : Nat) (m : Map6) : Prop := ∀ n ∈ m.nums, n < q
theorem Map6.Good.lt {q : Nat} {m : Map6} (g : m.Good q) : m.Lt q := fun n hn => by
  have ha := g.a
  have hb := g.b
  have hc := g.c
  have hd := g.d
  have he := g.e
  have hf := g.f
  unfold Map6.nums at hn
  simp only [List.mem_cons, List.not_mem_nil, or_false] at hn
  omega
def spDet (K : PySem.W.Frag) : Sp := fun vs H Q _ => ∃ (q : Nat) (v : V) (m : Map6), vs = [nV q, v] ∧ q ∈ fields ∧ Tv K H v (dNs m.nums) ∧ m.Good q ∧ Q (nV (fminus q (ft q m.a m.e) (ft q m.b m.d))) H
theorem ok_map_determinant (F : Fun K "map_determinant" "map_determinant" s_map_determinant f fd) (h_minus : Has P w K mg base 2 "minus" s_minus ["q", "a", "b"] spMinus) (h_times : Has P w K mg base 2 "times" s_times ["q", "a", "b"] spTimes) : FnOk P w K mg base CX0 3 f fd ["q", "m"] (spDet K) := by
  refine F.ok sc_map_determinant (fun vs H Q E h => ?_) (fun cdv A outer s H vs Q E hr h => ?_)
  · obtain ⟨q, v, m, rfl, _⟩ := h
    rfl
  · obtain ⟨q, v, m, rfl, hq, hv, hm, k⟩ := h
    refine ⟨_, (pss_one (ps_ret (pe_callH h_minus hr (by rfl) (pa_cons (pv 0) (pa_cons (pe_callH h_times hr (by rfl) (pa_cons (pv 0) (pa_cons (pe_ix ix_tup (pv 1) pe_int (fun _ _ => rfl)) (pa_cons (pe_ix ix_tup (pv 1) pe_int (fun _ _ => rfl)) pa_nil)))) (pa_cons (pe_callH h_times hr (by rfl) (pa_cons (pv 0) (pa_cons (pe_ix ix_tup (pv 1) pe_int (fun _ _ => rfl)) (pa_cons (pe_ix ix_tup (pv 1) pe_int (fun _ _ => rfl)) pa_nil)))) pa_nil)))))), ?_⟩
    obtain ⟨a, rfl, hT⟩ := Tv.ns hv
    refine ⟨_, rfl, _, rfl, _, rfl, a, _, _, _, rfl, rfl, hT, atI_nat (j := 0) rfl, _, rfl, a, _, _, _, rfl, rfl, hT, atI_nat (j := 4) rfl, q, m.a, m.e, rfl, hq, hm.a, hm.e, ?_⟩
    exact ⟨_, rfl, _, rfl, a, _, _, _, rfl, rfl, hT, atI_nat (j := 1) rfl, _, rfl, a, _, _, _, rfl, rfl, hT, atI_nat (j := 3) rfl, q, m.b, m.d, rfl, hq, hm.b, hm.d, q, _, _, rfl, hq, ft_lt hq hm.a hm.e, ft_lt hq hm.b hm.d, k⟩
def spStraight (K : PySem.W.Frag) : Sp := fun vs H Q _ => ∃ (q : Nat) (v : V) (m : Map6), vs = [nV q, v] ∧ q ∈ fields ∧ Tv K H v (dNs m.nums) ∧ m.Good q ∧ ∀ H', Same H H' → Q (.bl true) H'
theorem ok_is_straight (F : Fun K "is_straight" "is_straight" s_is_straight f fd) (B : Blt mg) (h_are_numbers : Has P w K mg base 3 "are_numbers" s_are_numbers ["q", "thing"] (spAreNum K)) (h_map_determinant : Has P w K mg base 3 "map_determinant" s_map_determinant ["q", "m"] (spDet K)) :
    FnOk P w K mg base CX0 4 f fd ["q", "thing"] (spStraight K) := by
  refine F.ok sc_is_straight (fun vs H Q E h => ?_) (fun cdv A outer s H vs Q E hr h => ?_)
  · obtain ⟨q, v, m, rfl, _⟩ := h
    rfl
  · obtain ⟨q, v, m, rfl, hq, hv, hm, k⟩ := h
    refine ⟨_, (pss_one (ps_ret (pe_and (pe_callH h_are_numbers hr (by rfl) (pa_cons (pv 0) (pa_cons (pv 1) pa_nil))) (pe_and (pe_cmpR opN_eq (pe_callB call_len_seq (by rfl) B.len (by decide +kernel) (pa_cons (pv 1) pa_nil)) pe_int (nomark _)) (pe_one (pe_cmpR opN_ne (pe_callH h_map_determinant hr (by rfl) (pa_cons (pv 0) (pa_cons (pv 1) pa_nil))) pe_int (nomark _))))))), ?_⟩
    obtain ⟨a, rfl, hT⟩ := Tv.ns hv
    refine ⟨_, rfl, _, rfl, q, _, m.nums, rfl, hv, hm.lt, (by show 6 ≤ 100; decide), fun H1 s1 => ⟨_, rfl, iteT ?_⟩⟩
    refine ⟨_, rfl, a, _, rfl, .inr (Same.sqT s1 hT), 6, 6, rfl, rfl, _, rfl, iteT ?_⟩
    refine ⟨_, rfl, _, rfl, q, _, m, rfl, hq, Tv.sm s1 hv, hm, _, 0, rfl, rfl, to (k _ s1) ?_⟩
    exact congrArg V.bl (by rw [decide_eq_false ((fminus_ne hq (ft_lt hq hm.a hm.e) (ft_lt hq hm.b hm.d)).mpr hm.det)]; rfl)
/-! ### rows of bends, of turns; starts -/
def spBends (K : PySem.W.Frag) : Sp := fun vs H Q _ => ∃ (q : Nat) (v : V) (bs : List Bend), vs = [nV q, v] ∧ 0 < q ∧ Tv K H v (dBs bs) ∧ (∀ b ∈ bs, b.Good q) ∧ bs.length ≤ 100 ∧ ∀ H', Same H H' → Q (.bl true) H'
theorem ok_are_bends (F : Fun K "are_bends" "are_bends" s_are_bends f fd) (B : Blt mg) (h_is_bend : Has P w K mg base 5 "is_bend" s_is_bend ["q", "thing"] (spBend K)) : FnOk P w K mg base CX0 6 f fd ["q", "thing"] (spBends K) := by
  refine F.ok sc_are_bends (fun vs H Q E h => ?_) (fun cdv A outer s H vs Q E hr h => ?_)
  · obtain ⟨q, v, bs, rfl, _⟩ := h
    rfl
  · obtain ⟨q, v, bs, rfl, hq, hv, hn, hl, k⟩ := h
    refine ⟨_, (pss_one (ps_ret (pe_and (pe_callB call_isi (by rfl) B.isi (by decide +kernel) (pa_cons (pv 1) (pa_cons (pe_bltn (v := .ty "tuple") (by rfl) B.tup (by decide +kernel) rfl) pa_nil))) (pe_one (pe_callB (cr_all rfl) (by rfl) B.all (by decide +kernel) (pa_cons (pe_lc (own := [("part", 2)]) (by rfl) sc_are_bends.nd (pi_tup (pv 1)) (blkOk_by (own := [("part", 2)]) (N := N_are_bends) (sc := defScope s_are_bends) (by decide +kernel)) (fun _ _ _ _ _ => pg_name (i := 2) sc_are_bends.nd rfl (Or.inl rfl)) (fun _ _ _ _ _ => pts_nil) (fun _ _ _ _ _ => (pe_callH h_is_bend hr (by rfl) (pa_cons (pv 0) (pa_cons (pv 2) pa_nil))))) pa_nil)))))), ?_⟩
    obtain ⟨a, xs, rfl, hT, hX⟩ := Tv.tup_inv hv
    have hxl := Tvs.length hX
    rw [List.length_map] at hxl
    refine ⟨_, rfl, _, _, _, _, _, rfl, .ty _, tyT hT, kit_tup, _, rfl, iteT ?_⟩
    refine ⟨_, rfl, a, rfl, ⟨_, hT⟩, fun D nD => ?_⟩
    refine lc_map (Itm := fun i x => xs[i]? = some x) walk_tup (by omega) nD (fun i H x H' y => y) (fun H s => Same.sqT s hT) (fun _ y _ => y = .bl true) (fun _ _ _ _ _ e => e) (fun i x H2 Rr Z hi hx s2 rr => ?_) fun ys H2 s2 e2 l2 r2 => ?_
    · obtain ⟨d, hd, tv⟩ := Tvs.at hX hx
      rw [List.getElem?_map] at hd
      obtain ⟨b, hb, rfl⟩ := Option.map_eq_some_iff.mp hd
      refine ⟨rfl, iteT (B := Z H2) ⟨_, rfl, _, rfl, q, x, b, rfl, hq, Tv.sm s2 tv, hn b (List.mem_of_getElem? hb), fun H3 s3 => rr _ _ s3 rfl⟩⟩
    · refine ⟨D, _, rfl, SqL.of (e2.trans (by rw [bls_of l2 r2])), to (k _ s2) ?_⟩
      exact congrArg V.bl (all_rep _).symm
def spTurns (K : PySem.W.Frag) : Sp := fun vs H Q _ => ∃ (q : Nat) (v : V) (ns : List Nat), vs = [nV q, v, nV ns.length] ∧ Tv K H v (dNs ns) ∧ (∀ n ∈ ns, n < q) ∧ ns.length ≤ 100 ∧ ∀ H', Same H H' → Q (.bl true) H'
theorem ok_are_turns (F : Fun K "are_turns" "are_turns" s_are_turns f fd) (B : Blt mg) (h_is_integer : Has P w K mg base 1 "is_integer" s_is_integer ["thing"] spIsInt) : FnOk P w K mg base CX0 2 f fd ["q", "thing", "many"] (spTurns K) := by
  refine F.ok sc_are_turns (fun vs H Q E h => ?_) (fun cdv A outer s H vs Q E hr h => ?_)
  · obtain ⟨q, v, ns, rfl, _⟩ := h
    rfl
  · obtain ⟨q, v, ns, rfl, hv, hn, hl, k⟩ := h
    refine ⟨_, (pss_cons (ps_if (PW.pt (pw_or (pt_not (pt_val (pe_callB call_isi (by rfl) B.isi (by decide +kernel) (pa_cons (pv 1) (pa_cons (pe_bltn (v := .ty "tuple") (by rfl) B.tup (by decide +kernel) rfl) pa_nil))))) (pw_or1 (pt_cmpR opN_ne (pe_callB call_len_seq (by rfl) B.len (by decide +kernel) (pa_cons (pv 1) pa_nil)) (pv 2) (nomark _))))) (pss_one (ps_ret pe_bl)) pss_nil)
      (pss_one (ps_ret (pe_callB (cr_all rfl) (by rfl) B.all (by decide +kernel) (pa_cons (pe_lc (own := [("part", 3)]) (by rfl) sc_are_turns.nd (pi_tup (pv 1)) (blkOk_by (own := [("part", 3)]) (N := N_are_turns) (sc := defScope s_are_turns) (by decide +kernel)) (fun _ _ _ _ _ => pg_name (i := 3) sc_are_turns.nd rfl (Or.inl rfl)) (fun _ _ _ _ _ => pts_nil) (fun _ _ _ _ _ => (pe_and (pe_callH h_is_integer hr (by rfl) (pa_cons (pv 3) pa_nil)) (pe_one (pe_chain op_le op_lt pe_int (pv 3) (pv 0)))))) pa_nil))))), ?_⟩
    obtain ⟨a, rfl, hT⟩ := Tv.ns hv
    refine ⟨_, rfl, _, _, _, _, _, rfl, .ty _, tyT hT, kit_tup, _, rfl, iteF ?_⟩
    refine ⟨_, rfl, a, _, rfl, .inr hT, _, rfl, (ns.map nV).length, ns.length, rfl, rfl, _, rfl, ?_⟩
    rw [decide_eq_true (List.length_map _ : (ns.map nV).length = ns.length)]
    refine iteF ⟨_, rfl, a, rfl, ⟨_, hT⟩, fun D nD => ?_⟩
    refine lc_map (Itm := fun i x => (ns.map nV)[i]? = some x) walk_tup (by rw [List.length_map]; omega) nD (fun i H x H' y => y) (fun H s => Same.sqT s hT) (fun _ y _ => y = .bl true) (fun _ _ _ _ _ e => e) (fun i x H2 Rr Z hi hx s2 rr => ?_) fun ys H2 s2 e2 l2 r2 => ?_
    · rw [List.getElem?_map] at hx
      obtain ⟨n, hn2, rfl⟩ := Option.map_eq_some_iff.mp hx
      have hlt := hn n (List.mem_of_getElem? hn2)
      refine ⟨rfl, iteT (B := Z H2) ⟨_, rfl, _, rfl, _, rfl, iteT ⟨_, rfl, _, _, rfl, rfl, _, rfl, ?_⟩⟩⟩
      rw [decide_eq_true (by omega : (0 : Int) ≤ (n : Int))]
      refine iteT ⟨_, rfl, _, _, rfl, rfl, rr _ _ (Same.refl _) ?_⟩
      exact congrArg V.bl (decide_eq_true (by omega : (n : Int) < (q : Int)))
    · refine ⟨D, _, rfl, SqL.of (e2.trans (by rw [bls_of l2 r2])), to (k _ s2) ?_⟩
      exact congrArg V.bl (all_rep _).symm
def spStart : Sp := fun vs H Q _ => ∃ (q s1 : Nat), vs = [nV q, .int ((s1 : Int) - 1)] ∧ s1 ≤ q ∧ Q (.bl true) H
theorem ok_is_start (F : Fun K "is_start" "is_start" s_is_start f fd) (h_is_integer : Has P w K mg base 1 "is_integer" s_is_integer ["thing"] spIsInt) : FnOk P w K mg base CX0 2 f fd ["q", "thing"] spStart := by
  refine F.ok sc_is_start (fun vs H Q E h => ?_) (fun cdv A outer s H vs Q E hr h => ?_)
  · obtain ⟨q, i, rfl, _⟩ := h
    rfl
  · obtain ⟨q, i, rfl, hi, k⟩ := h
    refine ⟨_, (pss_one (ps_ret (pe_and (pe_callH h_is_integer hr (by rfl) (pa_cons (pv 1) pa_nil)) (pe_one (pe_chain op_le op_lt (pe_un un_neg pe_int) (pv 1) (pv 0)))))), ?_⟩
    refine ⟨_, rfl, _, rfl, _, rfl, iteT ⟨1, rfl, _, rfl, _, _, rfl, rfl, _, rfl, ?_⟩⟩
    rw [decide_eq_true (by omega : (-1 : Int) ≤ (i : Int) - 1)]
    refine iteT ⟨_, rfl, _, _, rfl, rfl, to k ?_⟩
    exact congrArg V.bl (decide_eq_true (by omega : (i : Int) - 1 < (q : Int))).symm
end
end K32
/-! K32C: steps. -/
namespace K32
open PySem PySem.Spec PyProof.Rows L2
section
variable {P : Program} {w : World} {K : PySem.W.Frag} {mg : Str → Option Value} {base : Heap} {f d : Addr} {fd : FuncData}
theorem step_inv {H : Hp} {v : V} {s : StepD} (h : Tv K H v (dStep s)) : ∃ (a b t m : Addr), v = .ref a ∧ SqT K H a [.int ((s.s1 : Int) - 1), .ref b, .ref t, .ref m] ∧ Tv K H (.ref b) (dBs s.bs) ∧ Tv K H (.ref t) (dNs s.ts) ∧ Tv K H (.ref m) (dNs s.m.nums) := by
  obtain ⟨a, xs, rfl, h1, h2⟩ := Tv.tup_inv h
  cases h2 with
  | cons a1 h2 =>
  cases h2 with
  | cons a2 h2 =>
  cases h2 with
  | cons a3 h2 =>
  cases h2 with
  | cons a4 h2 =>
  cases h2
  obtain rfl := Tv.int_inv a1
  obtain ⟨b, _, rfl, _⟩ := Tv.tup_inv a2
  obtain ⟨t, _, rfl, _⟩ := Tv.tup_inv a3
  obtain ⟨m, _, rfl, _⟩ := Tv.tup_inv a4
  exact ⟨a, b, t, m, rfl, h1, a2, a3, a4⟩
def spStepYes (K : PySem.W.Frag) : Sp := fun vs H Q _ => ∃ (q : Nat) (v : V) (s : StepD), vs = [nV q, v] ∧ q ∈ fields ∧ Tv K H v (dStep s) ∧ s.Good q ∧ ∀ H', Same H H' → Q (.bl true) H'
theorem ok_is_step_value (F : Fun K "is_step_value" "is_step_value" s_is_step_value f fd) (B : Blt mg) (h_is_start : Has P w K mg base 6 "is_start" s_is_start ["q", "thing"] spStart) (h_are_bends : Has P w K mg base 6 "are_bends" s_are_bends ["q", "thing"] (spBends K))
    (h_is_straight : Has P w K mg base 6 "is_straight" s_is_straight ["q", "thing"] (spStraight K)) (h_are_turns : Has P w K mg base 6 "are_turns" s_are_turns ["q", "thing", "many"] (spTurns K)) : FnOk P w K mg base CX0 7 f fd ["q", "thing"] (spStepYes K) := by
  refine F.ok sc_is_step_value (fun vs H Q E h => ?_) (fun cdv A outer s H vs Q E hr h => ?_)
  · obtain ⟨q, v, s, rfl, _⟩ := h
    rfl
  · obtain ⟨q, v, s, rfl, hq, hv, hs, k⟩ := h
    refine ⟨_, (pss_cons (ps_if (PW.pt (pw_or (pt_not (pt_val (pe_callB call_isi (by rfl) B.isi (by decide +kernel) (pa_cons (pv 1) (pa_cons (pe_bltn (v := .ty "tuple") (by rfl) B.tup (by decide +kernel) rfl) pa_nil))))) (pw_or1 (pt_cmpR opN_ne (pe_callB call_len_seq (by rfl) B.len (by decide +kernel) (pa_cons (pv 1) pa_nil)) pe_int (nomark _))))) (pss_one (ps_ret pe_bl)) pss_nil)
      (pss_cons (ps_if (PW.pt (pw_or (pt_not (pt_val (pe_callH h_is_start hr (by rfl) (pa_cons (pv 0) (pa_cons (pe_ix ix_tup (pv 1) pe_int (fun _ _ => rfl)) pa_nil))))) (pw_or (pt_not (pt_val (pe_callH h_are_bends hr (by rfl) (pa_cons (pv 0) (pa_cons (pe_ix ix_tup (pv 1) pe_int (fun _ _ => rfl)) pa_nil))))) (pw_or1 (pt_not (pt_val (pe_callH h_is_straight hr (by rfl) (pa_cons (pv 0) (pa_cons (pe_ix ix_tup (pv 1) pe_int (fun _ _ => rfl)) pa_nil))))))))) (pss_one (ps_ret pe_bl)) pss_nil)
      (pss_cons (ps_if (PW.pt (pw_and (pt_cmpR (op_eqT hr) (pe_ix ix_tup (pv 1) pe_int (fun _ _ => rfl)) (pe_tup pa_nil) (nomark _)) (pw_and1 (pt_cmpR op_ne (pe_ix ix_tup (pv 1) pe_int (fun _ _ => rfl)) (pe_un un_neg pe_int) (nomark _))))) (pss_one (ps_ret pe_bl)) pss_nil)
      (pss_one (ps_ret (pe_callH h_are_turns hr (by rfl) (pa_cons (pv 0) (pa_cons (pe_ix ix_tup (pv 1) pe_int (fun _ _ => rfl)) (pa_cons (pe_callB (call_max2 rfl) (by rfl) B.max (by decide +kernel) (pa_cons pe_int (pa_cons (pe_op op_sub (pe_callB call_len_seq (by rfl) B.len (by decide +kernel) (pa_cons (pe_ix ix_tup (pv 1) pe_int (fun _ _ => rfl)) pa_nil)) pe_int) pa_nil))) pa_nil))))))))), ?_⟩
    have hq0 : 0 < q := by
      have := fields_ge hq
      omega
    obtain ⟨a, b, t, m, rfl, hT, hB, hTs, hM⟩ := step_inv hv
    refine ⟨_, rfl, _, _, _, _, _, rfl, .ty _, tyT hT, kit_tup, _, rfl, iteF ?_⟩
    refine ⟨_, rfl, a, _, rfl, .inr hT, 4, 4, rfl, rfl, _, rfl, iteF ?_⟩
    refine ⟨_, rfl, _, rfl, a, _, _, _, rfl, rfl, hT, atI_nat (j := 0) rfl, q, s.s1, rfl, hs.s1, _, rfl, iteF ?_⟩
    refine ⟨_, rfl, _, rfl, a, _, _, _, rfl, rfl, hT, atI_nat (j := 1) rfl, q, _, s.bs, rfl, hq0, hB, hs.bs, by have := hs.few; omega, fun H1 s1 => ⟨_, rfl, iteF ?_⟩⟩
    refine ⟨_, rfl, _, rfl, a, _, _, _, rfl, rfl, Same.sqT s1 hT, atI_nat (j := 3) rfl, q, _, s.m, rfl, hq, Tv.sm s1 hM, hs.m, fun H2 s2 => ⟨_, rfl, iteF ?_⟩⟩
    have s12 := s1.trans s2
    -- behind both ways of the test
    have fin : ∀ H3, Same H H3 → tRet (tCall (spTurns K) [] E0 (tCons (tVar 0) (tCons (tOp (rIxT K) (tVar 1) (tC (.int 2))) (tCons (tCB (fun xs H Q => ∃ i j, xs = [.int i, .int j] ∧ Q (.int (if j > i then j else i)) H) (tCons (tC (.int 0)) (tCons (tOp (rI0 fun i j => .int (i - j)) (tCB (fun xs H Q => ∃ p ys, xs = [.ref p] ∧ (SqL K H p ys ∨ SqT K H p ys) ∧ Q (.int ys.length) H) (tCons (tOp (rIxT K) (tVar 1) (tC (.int 1))) tNil)) (tC (.int 1))) tNil))) tNil))))
        { nx := fun _ H' => Q .non H', rt := Q } (start N_is_step_value [nV q, .ref a]) H3 := fun H3 s3 => by
      obtain ⟨b', xs, e, hX, hL⟩ := Tv.tup_inv hB
      cases e
      have hxl := Tvs.length hL
      rw [List.length_map] at hxl
      refine ⟨_, rfl, _, rfl, a, _, _, _, rfl, rfl, Same.sqT s3 hT, atI_nat (j := 2) rfl, _, rfl, a, _, _, _, rfl, rfl, Same.sqT s3 hT, atI_nat (j := 1) rfl, _, _, rfl, .inr (Same.sqT s3 hX), _, _, rfl, rfl, _, _, rfl, ?_⟩
      refine ⟨q, _, s.ts, ?_, Tv.sm s3 hTs, hs.ts, by have := hs.few; have := hs.len; omega, fun H4 s4 => k _ (s3.trans s4)⟩
      have e2 : (if ((xs.length : Int) - 1) > 0 then ((xs.length : Int) - 1) else 0) = (s.ts.length : Int) := by
        rw [hxl, hs.len]
        split <;> omega
      rw [e2]
      rfl
    refine ⟨_, rfl, _, _, _, _, rfl, rfl, Same.sqT s12 hT, atI_nat (j := 1) rfl, Nat.zero_le _, fun p np => ⟨_, _, Tv.sm (snu s12 np) hB, tv_nil upd_same, (sh_bs _).mono (by decide), sh_nil.mono (by decide), _, rfl, ?_⟩⟩
    have s4 := snu (o := .tup []) s12 np
    unfold dBs
    rw [eqv_nil]
    refine ite2 (fun e => ?_) (fun e => iteF (fin _ s4))
    have e1 : s.bs = [] := by
      have := List.isEmpty_iff.mp e
      exact List.map_eq_nil_iff.mp this
    refine ⟨_, rfl, _, _, _, _, rfl, rfl, Same.sqT s4 hT, atI_nat (j := 0) rfl, 1, rfl, rfl, _, rfl, ?_⟩
    rw [hs.nil e1]
    exact iteF (fin _ s4)
def spCheck (K : PySem.W.Frag) : Sp := fun vs H Q _ => ∃ (q : Nat) (v : V) (s : StepD), vs = [nV q, v] ∧ q ∈ fields ∧ Tv K H v (dStep s) ∧ s.Good q ∧ ∀ H', Same H H' → Q .non H'
theorem ok_check_step (F : Fun K "check_step" "check_step" s_check_step f fd) (h_is_step_value : Has P w K mg base 7 "is_step_value" s_is_step_value ["q", "thing"] (spStepYes K)) : FnOk P w K mg base CX0 8 f fd ["q", "thing"] (spCheck K) := by
  refine F.ok sc_check_step (fun vs H Q E h => ?_) (fun cdv A outer s H vs Q E hr h => ?_)
  · obtain ⟨q, v, s, rfl, _⟩ := h
    rfl
  · obtain ⟨q, v, s, rfl, hq, hv, hs, k⟩ := h
    refine ⟨_, (pss_one (ps_if (pt_not (pt_val (pe_callH h_is_step_value hr (by rfl) (pa_cons (pv 0) (pa_cons (pv 1) pa_nil))))) (pss_one ps_never) pss_nil)), ?_⟩
    exact ⟨_, rfl, _, rfl, q, v, s, rfl, hq, hv, hs, fun H1 s1 => ⟨_, rfl, iteF (k _ s1)⟩⟩
end
end K32
/-! K32D: how many there are; straight maps by numbers. -/
namespace K32
set_option exponentiation.threshold 2000
open PySem PySem.Spec PyProof.Rows L2
abbrev s_many_straight : Stmt := topS 35
abbrev N_many_straight : List Str := ["q"]
theorem sc_many_straight : FnScope N_many_straight ["q"] (defScope s_many_straight) := ⟨rfl, rfl, rfl, by decide +kernel, rfl, by decide +kernel, by decide +kernel⟩
abbrev s_many_bends : Stmt := topS 36
abbrev N_many_bends : List Str := ["q", "degree", "found", "_"]
theorem sc_many_bends : FnScope N_many_bends ["q", "degree"] (defScope s_many_bends) := ⟨rfl, rfl, rfl, by decide +kernel, rfl, by decide +kernel, by decide +kernel⟩
abbrev s_many_steps : Stmt := topS 37
abbrev N_many_steps : List Str := ["q", "degrees", "found", "place", "degree"]
theorem sc_many_steps : FnScope N_many_steps ["q", "degrees"] (defScope s_many_steps) := ⟨rfl, rfl, rfl, by decide +kernel, rfl, by decide +kernel, by decide +kernel⟩
abbrev s_seconds : Stmt := topS 38
abbrev N_seconds : List Str := ["q", "a", "b", "d", "e"]
theorem sc_seconds : FnScope N_seconds ["q", "a", "b"] (defScope s_seconds) := ⟨rfl, rfl, rfl, by decide +kernel, rfl, by decide +kernel, by decide +kernel⟩
abbrev s_map_number : Stmt := topS 39
abbrev N_map_number : List Str := ["q", "m", "a", "b", "c", "d", "e", "f", "found"]
theorem sc_map_number : FnScope N_map_number ["q", "m"] (defScope s_map_number) := ⟨rfl, rfl, rfl, by decide +kernel, rfl, by decide +kernel, by decide +kernel⟩
abbrev s_map_at : Stmt := topS 40
abbrev N_map_at : List Str := ["q", "number", "left", "f", "at", "c", "a", "b", "d", "e"]
theorem sc_map_at : FnScope N_map_at ["q", "number"] (defScope s_map_at) := ⟨rfl, rfl, rfl, by decide +kernel, rfl, by decide +kernel, by decide +kernel⟩
theorem big9 {n : Nat} (h : n ≤ 1000000000) : Big n := Nat.lt_of_le_of_lt h (by decide +kernel)
theorem bigE {n e : Nat} (h : n < 2 ^ e) (he : e ≤ 1000) : Big n := bd_mono h he
section
variable {P : Program} {w : World} {K : PySem.W.Frag} {mg : Str → Option Value} {base : Heap} {f d : Addr} {fd : FuncData}
def spMst : Sp := fun vs H Q _ => ∃ q : Nat, vs = [nV q] ∧ q ∈ fields ∧ Q (nV (mst q)) H
theorem ok_many_straight (F : Fun K "many_straight" "many_straight" s_many_straight f fd) : FnOk P w K mg base CX0 1 f fd ["q"] spMst := by
  refine F.ok sc_many_straight (fun vs H Q E h => ?_) (fun cdv A outer s H vs Q E hr h => ?_)
  · obtain ⟨q, rfl, _⟩ := h
    rfl
  · obtain ⟨q, rfl, hq, k⟩ := h
    refine ⟨_, (pss_one (ps_ret (pe_op opN_mul (pe_op opN_mul (pe_op opN_mul (pe_op opN_sub (pe_op opN_mul (pv 0) (pv 0)) pe_int) (pe_op opN_sub (pe_op opN_mul (pv 0) (pv 0)) (pv 0))) (pv 0)) (pv 0)))), ?_⟩
    obtain ⟨f1, f2, f3, f4, f5, f6⟩ := mst_facts hq
    have hb := fields_ge hq
    have bq : Big q := big9 (by omega)
    exact ⟨_, rfl, _, rfl, _, _, rfl, rfl, ⟨bq, bq⟩, _, 1, rfl, rfl, f1, _, rfl, _, rfl, _, _, rfl, rfl, ⟨bq, bq⟩, _, rfl, _, _, rfl, rfl, f2, _, _, rfl, rfl, ⟨big9 (by omega), big9 (by omega)⟩, _, rfl, _, _, rfl, rfl, ⟨big9 (Nat.le_trans f4 (by decide)), bq⟩, _, rfl, _, _, rfl, rfl, ⟨big9 (Nat.le_trans f5 (by decide)), bq⟩, k⟩
def spMb : Sp := fun vs H Q _ => ∃ q d : Nat, vs = [nV q, nV d] ∧ q ∈ fields ∧ 2 ≤ d ∧ d ≤ 6 ∧ Q (nV (mb q d)) H
theorem pw_bd {q i : Nat} (hq : q ∈ fields) (hi : i ≤ 4) : (q - 1) * q ^ i < 2 ^ 20 := by
  have := mb_lt hq (show i + 2 ≤ 6 by omega)
  exact this
theorem ok_many_bends (F : Fun K "many_bends" "many_bends" s_many_bends f fd) (B : Blt mg) : FnOk P w K mg base CX0 1 f fd ["q", "degree"] spMb := by
  refine F.ok sc_many_bends (fun vs H Q E h => ?_) (fun cdv A outer s H vs Q E hr h => ?_)
  · obtain ⟨q, d, rfl, _⟩ := h
    rfl
  · obtain ⟨q, d, rfl, hq, h2, h6, k⟩ := h
    refine ⟨_, (pss_cons (ps_set (i := 2) sc_many_bends.nd rfl (Or.inl rfl) (pe_op opN_sub (pv 0) pe_int))
      (pss_cons (ps_for PassesOwn.never rfl (pi_range1 rfl B.range (pa_cons (pe_op opN_sub (pv 1) pe_int) pa_nil)) (pg_name (i := 3) sc_many_bends.nd rfl (Or.inl rfl)) (pss_one (ps_set (i := 2) sc_many_bends.nd rfl (Or.inl rfl) (pe_op opN_mul (pv 2) (pv 0)))))
      (pss_one (ps_ret (pv 2))))), ?_⟩
    have hb := fields_ge hq
    refine ⟨_, rfl, _, 1, rfl, rfl, (by show 1 ≤ q; omega), _, rfl, _, 2, rfl, rfl, h2, _, rfl, by omega, by omega, ?_⟩
    refine for_it walk_range (fun i σ H2 => H2 = H ∧ ∃ z, σ = [some (nV q), some (nV d), some (nV ((q - 1) * q ^ i)), z]) ⟨rfl, none, by rw [Nat.pow_zero, Nat.mul_one]; rfl⟩ (fun _ _ _ _ _ => trivial) (fun i x σ H2 H3 hi p y => ?_) fun σ H2 p => ?_
    · obtain ⟨rfl, rfl⟩ := y
      obtain ⟨rfl, z, rfl⟩ := p
      have hi4 : i ≤ 4 := by
        rw [Int.toNat_natCast] at hi
        omega
      refine ⟨_, rfl, _, rfl, _, _, rfl, rfl, ⟨bigE (pw_bd hq hi4) (by decide), big9 (by omega)⟩, rfl, some (.int (0 + (i : Int))), ?_⟩
      rw [Nat.pow_succ, ← Nat.mul_assoc]
      rfl
    · obtain ⟨rfl, z, rfl⟩ := p
      exact ⟨_, rfl, to k (by rw [Int.toNat_natCast]; rfl)⟩
def spMany (K : PySem.W.Frag) : Sp := fun vs H Q _ => ∃ (q : Nat) (v : V) (ds : List Nat), vs = [nV q, v] ∧ q ∈ fields ∧ Tv K H v (dNs ds) ∧ (∀ d ∈ ds, 2 ≤ d ∧ d ≤ 6) ∧ ds.length ≤ 12 ∧ ∀ H', Same H H' → Q (nV (mpl q ds * mst q)) H'
theorem ok_many_steps (F : Fun K "many_steps" "many_steps" s_many_steps f fd) (B : Blt mg) (h_many_straight : Has P w K mg base 1 "many_straight" s_many_straight ["q"] spMst) (h_many_bends : Has P w K mg base 1 "many_bends" s_many_bends ["q", "degree"] spMb) :
    FnOk P w K mg base CX0 2 f fd ["q", "degrees"] (spMany K) := by
  refine F.ok sc_many_steps (fun vs H Q E h => ?_) (fun cdv A outer s H vs Q E hr h => ?_)
  · obtain ⟨q, v, ds, rfl, _⟩ := h
    rfl
  · obtain ⟨q, v, ds, rfl, hq, hv, hd, hl, k⟩ := h
    refine ⟨_, (pss_cons (ps_set (i := 2) sc_many_steps.nd rfl (Or.inl rfl) (pe_callH h_many_straight hr (by rfl) (pa_cons (pv 0) pa_nil)))
      (pss_cons (ps_for PassesOwn.never rfl (pi_enumT (by rfl) B.enum (pa_cons (pv 1) pa_nil)) (pg_tup (by rfl) (pgs_cons (pg_name (i := 3) sc_many_steps.nd rfl (Or.inl rfl)) (pgs_cons (pg_name (i := 4) sc_many_steps.nd rfl (Or.inl rfl)) pgs_nil))) (pss_one (ps_set (i := 2) sc_many_steps.nd rfl (Or.inl rfl) (pe_op opN_mul (pe_op opN_mul (pv 2) (pe_callH h_many_bends hr (by rfl) (pa_cons (pv 0) (pa_cons (pv 4) pa_nil)))) (pe_ifExp (pt_cmpR opN_eq (pv 3) pe_int (nomark _)) (pe_op opN_add (pv 0) pe_int) (pv 0))))))
      (pss_one (ps_ret (pv 2))))), ?_⟩
    obtain ⟨a, rfl, hT⟩ := Tv.ns hv
    have hb := fields_ge hq
    refine ⟨_, rfl, q, rfl, hq, _, rfl, a, _, rfl, hT, ?_⟩
    refine for_enT (fun i σ H2 => i ≤ ds.length ∧ Same H H2 ∧ ∃ y z, σ = [some (nV q), some (.ref a), some (nV (mpl q (ds.take i) * mst q)), y, z]) ⟨Nat.zero_le _, Same.refl _, none, none, by rw [List.take_zero, show mpl q [] = 1 from rfl, Nat.one_mul]; rfl⟩ (fun i σ H2 p => Same.sqT p.2.1 hT) (fun i x T σ H2 hx p nT => ?_) fun σ H2 p => ?_
    · obtain ⟨hi, s2, y, z, rfl⟩ := p
      rw [List.getElem?_map] at hx
      obtain ⟨n, hn, rfl⟩ := Option.map_eq_some_iff.mp hx
      have hil := (List.getElem?_eq_some_iff.mp hn).1
      have hdn := hd n (List.mem_of_getElem? hn)
      have b1 := mpl_take_bd hq hd i hi
      have b2 : mpl q (ds.take i) * mst q < 2 ^ (1 + 25 * i + 25) := mul_bd b1 (mst_bd hq)
      have b3 := mb_lt hq hdn.2
      have b4 := mul_bd b2 b3
      have e3 : mpl q (ds.take i) * mst q * mb q n * (if i = 0 then q + 1 else q) = mpl q (ds.take (i + 1)) * mst q := by
        rw [take_snoc hn, mpl_snoc, List.length_take, Nat.min_eq_left hi]
        ac_rfl
      refine ⟨T, _, rfl, SqT.of upd_same, rfl, nV i, _, rfl, nV n, [], rfl, rfl, ?_⟩
      refine ⟨_, rfl, _, rfl, _, rfl, q, n, rfl, hq, hdn.1, hdn.2, _, _, rfl, rfl, ⟨bigE b2 (by omega), bigE b3 (by decide)⟩, ?_⟩
      have fin : nV (mpl q (ds.take i) * mst q * mb q n * (if i = 0 then q + 1 else q)) = nV (mpl q (ds.take (i + 1)) * mst q) := by rw [e3]
      refine ⟨_, rfl, i, 0, rfl, rfl, _, rfl, ite2 (fun e => ?_) (fun e => ?_)⟩
      · have e0 := of_decide_eq_true e
        rw [if_pos e0] at fin
        refine ⟨_, rfl, _, 1, rfl, rfl, _, _, rfl, rfl, ⟨bigE b4 (by omega), big9 (by omega)⟩, by omega, snu s2 nT, some (nV i), some (nV n), ?_⟩
        exact congrArg (fun v => [some (nV q), some (.ref a), some v, some (nV i), some (nV n)]) fin
      · have e0 : ¬ i = 0 := fun z => e (decide_eq_true z)
        rw [if_neg e0] at fin
        refine ⟨_, rfl, _, _, rfl, rfl, ⟨bigE b4 (by omega), big9 (by omega)⟩, by omega, snu s2 nT, some (nV i), some (nV n), ?_⟩
        exact congrArg (fun v => [some (nV q), some (.ref a), some v, some (nV i), some (nV n)]) fin
    · obtain ⟨_, s2, y, z, rfl⟩ := p
      refine ⟨_, rfl, to (k _ s2) ?_⟩
      rw [List.length_map, List.take_length]

/-! ### seconds -/
abbrev pD (p : Nat × Nat) : TD := dNs [p.1, p.2]
def spSecs (K : PySem.W.Frag) : Sp := fun vs H Q _ => ∃ q a b : Nat, vs = [nV q, nV a, nV b] ∧ q ∈ fields ∧ a < q ∧ b < q ∧ ∀ (H' : Hp) (p : Addr) (xs : List V), Same H H' → H' p = some (.lst xs) → Tvs K H' xs ((secs q a b).map pD) → Q (.ref p) H'
theorem range_snoc (i : Nat) : List.range (i + 1) = List.range i ++ [i] := List.range_succ
theorem ok_seconds (F : Fun K "seconds" "seconds" s_seconds f fd) (B : Blt mg) (h_times : Has P w K mg base 2 "times" s_times ["q", "a", "b"] spTimes) : FnOk P w K mg base CX0 3 f fd ["q", "a", "b"] (spSecs K) := by
  refine F.ok sc_seconds (fun vs H Q E h => ?_) (fun cdv A outer s H vs Q E hr h => ?_)
  · obtain ⟨q, a, b, rfl, _⟩ := h
    rfl
  · obtain ⟨q, a, b, rfl, hq, ha, hb, k⟩ := h
    refine ⟨_, (pss_one (ps_ret (pe_lc2 (own := [("d", 3), ("e", 4)]) (vs1 := [4]) (by rfl) sc_seconds.nd (pi_range1 rfl B.range (pa_cons (pv 0) pa_nil)) (blkOk_by (own := [("d", 3), ("e", 4)]) (N := N_seconds) (sc := defScope s_seconds) (by decide +kernel)) (by decide) (fun _ _ _ _ _ => pg_name (i := 3) sc_seconds.nd rfl (Or.inl rfl)) (fun _ _ _ _ _ => pts_nil) (fun _ _ _ _ _ => (pi_range1 rfl B.range (pa_cons (pv 0) pa_nil))) (fun _ _ _ _ _ => pg_name (i := 4) sc_seconds.nd rfl (Or.inl rfl)) (fun _ _ _ _ _ => (pts_one (pt_cmpR opN_ne (pe_callH h_times hr (by rfl) (pa_cons (pv 0) (pa_cons (pv 1) (pa_cons (pv 4) pa_nil)))) (pe_callH h_times hr (by rfl) (pa_cons (pv 0) (pa_cons (pv 2) (pa_cons (pv 3) pa_nil)))) (nomark _)))) (fun _ _ _ _ _ => (pe_tup (pa_cons (pv 3) (pa_cons (pv 4) pa_nil))))))), ?_⟩
    have hqb := fields_ge hq
    refine ⟨_, rfl, _, rfl, by omega, by omega, fun D nD => ?_⟩
    -- what the list holds ahead of the row i, and in it behind j
    have small : ∀ (i j : Nat), i ≤ q → ((List.range i).flatMap (fun d => secRow q a b d) ++ ((List.range j).filter fun e => ft q a e != ft q b i).map fun e => (i, e)).length ≤ i * 16 + j := fun i j _ => by
      rw [List.length_append, List.length_map]
      have h1 : ∀ i, ((List.range i).flatMap (fun d => secRow q a b d)).length ≤ i * 16 := by
        intro i
        induction i with
        | zero => simp
        | succ i ih =>
          rw [range_snoc, List.flatMap_append, List.length_append]
          have : ([i].flatMap fun d => secRow q a b d).length ≤ 16 := by
            rw [List.flatMap_singleton]
            unfold secRow
            rw [List.length_map]
            exact Nat.le_trans (List.length_filter_le _ _) (by rw [List.length_range]; omega)
          omega
      have h2 := List.length_filter_le (fun e => ft q a e != ft q b i) (List.range j)
      rw [List.length_range] at h2
      have := h1 i
      omega
    let St := fun (l : List (Nat × Nat)) (H2 : Hp) => ∃ xs, Same H H2 ∧ H2 D = some (.lst xs) ∧ Tvs K H2 xs (l.map pD)
    refine ⟨fun i m H2 => i + m = q ∧ St ((List.range i).flatMap fun d => secRow q a b d) H2, ⟨q, by omega, [], sameU nD, upd_same, .nil⟩, fun i m H2 hw => ?_⟩
    obtain ⟨em, xs, s2, e2, t2⟩ := hw
    rw [Int.toNat_natCast]
    by_cases hi : i < q
    · refine .inr ⟨hi, St ((List.range (i + 1)).flatMap fun d => secRow q a b d), fun H' h' => ⟨m - 1, by omega, by omega, h'⟩, fun x H' hy => ?_⟩
      obtain ⟨rfl, rfl⟩ := hy
      refine ⟨rfl, iteT (B := St ((List.range (i + 1)).flatMap fun d => secRow q a b d) H') ⟨_, rfl, _, rfl, by omega, by omega, ?_⟩⟩
      refine ⟨fun j m2 H3 => j + m2 = q ∧ St ((List.range i).flatMap (fun d => secRow q a b d) ++ ((List.range j).filter fun e => ft q a e != ft q b i).map fun e => (i, e)) H3, ⟨q, by omega, xs, s2, e2, by simpa using t2⟩, fun j m2 H3 hw => ?_⟩
      obtain ⟨em2, ys, s3, e3, t3⟩ := hw
      rw [Int.toNat_natCast]
      by_cases hj : j < q
      · refine .inr ⟨hj, St ((List.range i).flatMap (fun d => secRow q a b d) ++ ((List.range (j + 1)).filter fun e => ft q a e != ft q b i).map fun e => (i, e)), fun H' h' => ⟨m2 - 1, by omega, by omega, h'⟩, fun x H'' hy => ?_⟩
        obtain ⟨rfl, rfl⟩ := hy
        have hm := range_snoc j
        have t1 : ft q a j < q := ft_lt hq ha hj
        have t2 : ft q b i < q := ft_lt hq hb hi
        refine ⟨rfl, _, rfl, _, rfl, _, rfl, q, a, j, ?_, hq, ha, hj, _, rfl, _, rfl, _, rfl, q, b, i, ?_, hq, hb, hi, _, _, rfl, rfl, _, rfl, ?_⟩
        · rw [Int.zero_add]
          rfl
        · rw [Int.zero_add]
          rfl
        · by_cases ne : ft q a j = ft q b i
          · rw [decide_eq_true ne, hm, List.filter_append, List.filter_cons_of_neg (by rw [ne]; simp), List.filter_nil, List.append_nil]
            exact iteF ⟨ys, s3, e3, t3⟩
          · rw [decide_eq_false ne, hm, List.filter_append, List.filter_cons_of_pos (by simpa using ne), List.filter_nil, List.map_append, ← List.append_assoc]
            refine iteT ⟨_, rfl, _, rfl, (by show 2 ≤ sizeLine; decide), fun p np => ?_⟩
            have e4 := (sameU (o := .tup [.int (0 + (i : Int)), .int (0 + (j : Int))]) np) _ _ e3
            have kt := KeepT.wr (o := .lst (ys ++ [.ref p])) (no_tup_lst e4)
            refine ⟨ys, e4, ?_, ys ++ [.ref p], smut (snu s3 np) nD, upd_same, ?_⟩
            · have h1 := small i j (by omega)
              have h2 := Tvs.length t3
              rw [List.length_map] at h2
              exact small1000 (by rw [h2]; omega)
            · rw [List.map_append]
              refine Tvs.app (Tvs.keep ((Same.keepT (sameU np)).trans kt) _ _ t3) (.cons (Tv.keep kt _ _ (Tv.ofNs (SqT.of ?_))) .nil)
              rw [upd_same, Int.zero_add, Int.zero_add]
              rfl
      · have ej : j = q := by omega
        subst ej
        refine .inl ⟨by show j ≤ j; omega, ?_⟩
        rw [range_snoc, List.flatMap_append, List.flatMap_singleton]
        exact ⟨ys, s3, e3, t3⟩
    · have ei : i = q := by omega
      subst ei
      exact .inl ⟨by show i ≤ i; omega, k _ _ _ s2 e2 t2⟩

/-! ### straight maps by numbers -/
theorem pys_map : ∀ l : List TD, TD.pys l = l.map TD.py
  | [] => by simp [TD.pys]
  | d :: l => by simp [TD.pys, pys_map l]
theorem eqv_pD (p r : Nat × Nat) : PyData.eqv (pD p).py (pD r).py = decide (p = r) := by
  obtain ⟨a, b⟩ := p
  obtain ⟨c, d⟩ := r
  have h1 : ((a : Int) == (c : Int)) = decide (a = c) := by
    rw [Bool.beq_eq_decide_eq]
    exact decide_eq_decide.mpr (by omega)
  have h2 : ((b : Int) == (d : Int)) = decide (b = d) := by
    rw [Bool.beq_eq_decide_eq]
    exact decide_eq_decide.mpr (by omega)
  simp only [pD, dNs, List.map_cons, List.map_nil, TD.py, TD.pys, PyData.eqv, PyData.eqvAll, Bool.and_true, h1, h2, Prod.mk.injEq]
  exact (Bool.decide_and _ _).symm
theorem shaped_lst {l : List TD} {n : Nat} (h : ∀ d ∈ l, d.Sh n) (hn : n ≤ 50) : SeqAt.shaped (.list (l.map TD.py)) = true := by
  have h0 := (TD.Sh.tup h).shaped (by omega)
  rw [TD.py, pys_map] at h0
  have h1 := SeqAt.canLay_of_shaped h0
  have h2 := SeqAt.depth_of_shaped h0
  unfold SeqAt.shaped
  rw [PyData.canLay0, PyData.depth]
  rw [PyData.canLay0] at h1
  rw [PyData.depth] at h2
  rw [h1, decide_eq_true h2]
  rfl
theorem room65 {A : Around} {k : Nat} (hr : Room k A) : A.units + 65 < cLine := by
  have := hr.un
  omega
def spMapNum (K : PySem.W.Frag) : Sp := fun vs H Q _ => ∃ (q : Nat) (v : V) (m : Map6), vs = [nV q, v] ∧ q ∈ fields ∧ Tv K H v (dNs m.nums) ∧ m.Good q ∧ ∀ H', Same H H' → Q (nV (mapNum q m)) H'
theorem ok_map_number (F : Fun K "map_number" "map_number" s_map_number f fd) (h_seconds : Has P w K mg base 3 "seconds" s_seconds ["q", "a", "b"] (spSecs K)) : FnOk P w K mg base CX0 4 f fd ["q", "m"] (spMapNum K) := by
  refine F.ok sc_map_number (fun vs H Q E h => ?_) (fun cdv A outer s H vs Q E hr h => ?_)
  · obtain ⟨q, v, m, rfl, _⟩ := h
    rfl
  · obtain ⟨q, v, m, rfl, hq, hv, hm, k⟩ := h
    refine ⟨_, (pss_cons (ps_asg (pv 1) (pg_tup (by rfl) (pgs_cons (pg_name (i := 2) sc_map_number.nd rfl (Or.inl rfl)) (pgs_cons (pg_name (i := 3) sc_map_number.nd rfl (Or.inl rfl)) (pgs_cons (pg_name (i := 4) sc_map_number.nd rfl (Or.inl rfl)) (pgs_cons (pg_name (i := 5) sc_map_number.nd rfl (Or.inl rfl)) (pgs_cons (pg_name (i := 6) sc_map_number.nd rfl (Or.inl rfl)) (pgs_cons (pg_name (i := 7) sc_map_number.nd rfl (Or.inl rfl)) pgs_nil))))))))
      (pss_cons (ps_set (i := 8) sc_map_number.nd rfl (Or.inl rfl) (pe_op opN_add (pe_op opN_mul (pe_op opN_sub (pe_op opN_add (pe_op opN_mul (pv 2) (pv 0)) (pv 3)) pe_int) (pv 0)) (pv 4)))
      (pss_one (ps_ret (pe_op opN_add (pe_op opN_mul (pe_op opN_add (pe_op opN_mul (pv 8) (pe_op opN_sub (pe_op opN_mul (pv 0) (pv 0)) (pv 0))) (pe_bm PySem.F.plainAttrs_list PySem.F.slot_list_index PySem.F.type_list_index (mt_indexD (room65 hr)) (pe_callH h_seconds hr (by rfl) (pa_cons (pv 0) (pa_cons (pv 2) (pa_cons (pv 3) pa_nil)))) (pa_cons (pe_tup (pa_cons (pv 5) (pa_cons (pv 6) pa_nil))) pa_nil))) (pv 0)) (pv 7)))))), ?_⟩
    obtain ⟨p, rfl, hT⟩ := Tv.ns hv
    have hqb := fields_ge hq
    obtain ⟨f1, f2, f3, _⟩ := mst_facts hq
    have ha := hm.a
    have hb := hm.b
    have hc := hm.c
    have hab : 1 ≤ m.a * q + m.b := by
      by_cases z : m.a = 0
      · by_cases z2 : m.b = 0
        · have hd := hm.det
          rw [z, z2, ft_zero hq hm.e, ft_zero hq hm.d] at hd
          exact absurd rfl hd
        · omega
      · have := Nat.mul_le_mul (show 1 ≤ m.a by omega) (show 1 ≤ q by omega)
        omega
    have b1 : m.a * q ≤ 16 * 16 := Nat.mul_le_mul (by omega) (by omega)
    have b2 : (m.a * q + m.b - 1) * q ≤ 272 * 16 := Nat.mul_le_mul (by omega) (by omega)
    have b3 : ((m.a * q + m.b - 1) * q + m.c) * (q * q - q) ≤ 5000 * 256 := Nat.mul_le_mul (by omega) (by omega)
    have bq : Big q := big9 (by omega)
    refine ⟨_, rfl, p, _, rfl, hT, rfl, _, _, rfl, _, _, rfl, _, _, rfl, _, _, rfl, _, _, rfl, _, _, rfl, rfl, ?_⟩
    refine ⟨_, rfl, _, rfl, m.a, q, rfl, rfl, ⟨big9 (by omega), bq⟩, _, rfl, _, m.b, rfl, rfl, _, 1, rfl, rfl, hab, _, rfl, _, _, rfl, rfl, ⟨big9 (by omega), bq⟩, _, rfl, _, m.c, rfl, rfl, ?_⟩
    refine ⟨_, rfl, _, rfl, _, rfl, q, q, rfl, rfl, ⟨bq, bq⟩, _, rfl, _, _, rfl, rfl, f2, _, _, rfl, rfl, ⟨big9 (by omega), big9 (by omega)⟩, ?_⟩
    refine ⟨_, rfl, _, rfl, _, rfl, q, m.a, m.b, rfl, hq, ha, hb, fun H1 l xs s1 e1 t1 => ?_⟩
    refine ⟨.inl ⟨rfl, _, SqL.of e1⟩, _, rfl, _, rfl, (by show 2 ≤ sizeLine; decide), fun r nr => ?_⟩
    have s2 := snu (o := .tup [nV m.d, nV m.e]) s1 nr
    have e2 := sameU (o := .tup [nV m.d, nV m.e]) nr _ _ e1
    have t2 := Tvs.sm (sameU (o := .tup [nV m.d, nV m.e]) nr) t1
    have tr : Tv K (upd H1 r (.tup [nV m.d, nV m.e])) (.ref r) (pD (m.d, m.e)) := Tv.ofNs (SqT.of upd_same)
    have dl := Tvs.dp _ _ t2
    rw [pys_map] at dl
    have hmem : (m.d, m.e) ∈ secs q m.a m.b := secs_mem.mpr ⟨hm.d, hm.e, hm.det⟩
    obtain ⟨g1, g2⟩ := ixP_mem hmem
    have hab0 : m.a ≠ 0 ∨ m.b ≠ 0 := by
      by_cases z : m.a = 0
      · rw [z, Nat.zero_mul] at hab
        exact .inr (by omega)
      · exact .inl z
    have hlen := secs_len hq ha hb hab0
    have gl := (List.getElem?_eq_some_iff.mp g1).1
    have hat : ∀ i : Nat, (((secs q m.a m.b).map pD).map TD.py)[i]? = ((secs q m.a m.b)[i]?).map fun z => (pD z).py := fun i => by
      rw [List.getElem?_map, List.getElem?_map, Option.map_map]
      rfl
    refine ⟨l, .ref r, _, _, ixP (m.d, m.e) (secs q m.a m.b), (pD (m.d, m.e)).py, rfl, rfl, .lst (SqL.of e2) dl, Tv.dp _ _ tr, shaped_lst (n := 1) (fun d hd => ?_) (by decide), (sh_ns _).shaped (by decide), ?_, ?_, fun i z hi hz => ?_, ?_⟩
    · obtain ⟨z, _, rfl⟩ := List.mem_map.mp hd
      exact sh_ns _
    · rw [hat, g1]
      rfl
    · rw [eqv_pD]
      exact decide_eq_true rfl
    · rw [hat] at hz
      obtain ⟨y, hy, rfl⟩ := Option.map_eq_some_iff.mp hz
      rw [eqv_pD]
      exact decide_eq_false (g2 i y hi hy)
    · have b4 : ((m.a * q + m.b - 1) * q + m.c) * (q * q - q) + ixP (m.d, m.e) (secs q m.a m.b) ≤ 2000000 := by omega
      exact ⟨_, ixP (m.d, m.e) (secs q m.a m.b), rfl, rfl, _, rfl, ((m.a * q + m.b - 1) * q + m.c) * (q * q - q) + ixP (m.d, m.e) (secs q m.a m.b), q, rfl, rfl, ⟨big9 (Nat.le_trans b4 (by decide)), bq⟩, _, rfl, _, m.f, rfl, rfl, k _ s2⟩
theorem map_key (q n : Nat) : (mapAt q n).nums.map nV = [nV ((n / q / (q * q - q) / q + 1) / q), nV ((n / q / (q * q - q) / q + 1) % q), nV (n / q / (q * q - q) % q), nV (mapAt q n).d, nV (mapAt q n).e, nV (n % q)] := rfl
def spMapAt (K : PySem.W.Frag) : Sp := fun vs H Q _ => ∃ q n : Nat, vs = [nV q, nV n] ∧ q ∈ fields ∧ n < mst q ∧ ∀ (v : V) (H' : Hp), Same H H' → Tv K H' v (dNs (mapAt q n).nums) → Q v H'
theorem ok_map_at (F : Fun K "map_at" "map_at" s_map_at f fd) (h_seconds : Has P w K mg base 3 "seconds" s_seconds ["q", "a", "b"] (spSecs K)) : FnOk P w K mg base CX0 4 f fd ["q", "number"] (spMapAt K) := by
  refine F.ok sc_map_at (fun vs H Q E h => ?_) (fun cdv A outer s H vs Q E hr h => ?_)
  · obtain ⟨q, n, rfl, _⟩ := h
    rfl
  · obtain ⟨q, n, rfl, hq, hn, k⟩ := h
    refine ⟨_, (pss_cons (ps_par (i := 2) (j := 3) (by rfl) sc_map_at.nd rfl rfl (by decide) rfl rfl (pa_cons (pe_op opN_div (pv 1) (pv 0)) (pa_cons (pe_op opN_mod (pv 1) (pv 0)) pa_nil)) (by rfl))
      (pss_cons (ps_par (i := 2) (j := 4) (by rfl) sc_map_at.nd rfl rfl (by decide) rfl rfl (pa_cons (pe_op opN_div (pv 2) (pe_op opN_sub (pe_op opN_mul (pv 0) (pv 0)) (pv 0))) (pa_cons (pe_op opN_mod (pv 2) (pe_op opN_sub (pe_op opN_mul (pv 0) (pv 0)) (pv 0))) pa_nil)) (by rfl))
      (pss_cons (ps_par (i := 2) (j := 5) (by rfl) sc_map_at.nd rfl rfl (by decide) rfl rfl (pa_cons (pe_op opN_div (pv 2) (pv 0)) (pa_cons (pe_op opN_mod (pv 2) (pv 0)) pa_nil)) (by rfl))
      (pss_cons (ps_par (i := 6) (j := 7) (by rfl) sc_map_at.nd rfl rfl (by decide) rfl rfl (pa_cons (pe_op opN_div (pe_op opN_add (pv 2) pe_int) (pv 0)) (pa_cons (pe_op opN_mod (pe_op opN_add (pv 2) pe_int) (pv 0)) pa_nil)) (by rfl))
      (pss_cons (ps_asg (pe_ix ix_list (pe_callH h_seconds hr (by rfl) (pa_cons (pv 0) (pa_cons (pv 6) (pa_cons (pv 7) pa_nil)))) (pv 4) (fun _ _ => rfl)) (pg_tup (by rfl) (pgs_cons (pg_name (i := 8) sc_map_at.nd rfl (Or.inl rfl)) (pgs_cons (pg_name (i := 9) sc_map_at.nd rfl (Or.inl rfl)) pgs_nil))))
      (pss_one (ps_ret (pe_tup (pa_cons (pv 6) (pa_cons (pv 7) (pa_cons (pv 5) (pa_cons (pv 8) (pa_cons (pv 9) (pa_cons (pv 3) pa_nil)))))))))))))), ?_⟩
    rw [show L2.start N_map_at [nV q, nV n] = [some (nV q), some (nV n), none, none, none, none, none, none, none, none] from rfl]
    have hqb := fields_ge hq
    obtain ⟨f1, f2, f3, _⟩ := mst_facts hq
    have hq0 : 0 < q := by omega
    have bq : Big q := big9 (by omega)
    have qq := qq_pos hqb.1
    have bqq : Big (q * q - q) := big9 (by omega)
    obtain ⟨g, _, hat⟩ := mapAt_all hq hn
    refine ⟨_, rfl, _, rfl, n, q, rfl, rfl, ⟨hq0, bq⟩, _, rfl, _, rfl, n, q, rfl, rfl, hq0, _, _, rfl, ?_⟩
    refine ⟨_, rfl, _, rfl, _, rfl, q, q, rfl, rfl, ⟨bq, bq⟩, _, rfl, _, _, rfl, rfl, f2, _, _, rfl, rfl, ⟨qq, bqq⟩, _, rfl, _, rfl, _, rfl, q, q, rfl, rfl, ⟨bq, bq⟩, _, rfl, _, _, rfl, rfl, f2, _, _, rfl, rfl, qq, _, _, rfl, ?_⟩
    refine ⟨_, rfl, _, rfl, _, q, rfl, rfl, ⟨hq0, bq⟩, _, rfl, _, rfl, _, q, rfl, rfl, hq0, _, _, rfl, ?_⟩
    refine ⟨_, rfl, _, 1, rfl, rfl, _, rfl, _, q, rfl, rfl, ⟨hq0, bq⟩, _, rfl, _, 1, rfl, rfl, _, rfl, _, q, rfl, rfl, hq0, _, _, rfl, ?_⟩
    refine ⟨_, rfl, _, rfl, _, rfl, q, (mapAt q n).a, (mapAt q n).b, rfl, hq, g.a, g.b, fun H1 l xs s1 e1 t1 => ?_⟩
    have key := map_key q n
    obtain ⟨D, hD⟩ : ∃ D, (mapAt q n).d = D := ⟨_, rfl⟩
    obtain ⟨E, hE⟩ : ∃ E, (mapAt q n).e = E := ⟨_, rfl⟩
    rw [hD, hE] at hat key
    obtain ⟨v, hv, tv⟩ := Tvs.get t1 (i := n / q % (q * q - q)) (d := pD (D, E)) (by rw [List.getElem?_map, hat]; rfl)
    obtain ⟨r, rfl, hr2⟩ := Tv.ns tv
    refine ⟨_, rfl, l, xs, _, _, rfl, rfl, SqL.of e1, atI_nat hv, r, [nV D, nV E], rfl, hr2, rfl, nV D, [nV E], rfl, nV E, [], rfl, rfl, ?_⟩
    refine ⟨nV ((n / q / (q * q - q) / q + 1) / q), rfl, ?_⟩
    refine ⟨nV ((n / q / (q * q - q) / q + 1) % q), rfl, ?_⟩
    refine ⟨nV (n / q / (q * q - q) % q), rfl, ?_⟩
    refine ⟨nV D, rfl, ?_⟩
    refine ⟨nV E, rfl, ?_⟩
    refine ⟨nV (n % q), rfl, ?_⟩
    refine ⟨(by show 6 ≤ sizeLine; decide), fun z nz => ?_⟩
    refine k (.ref z) _ (snu s1 nz) ?_
    refine Tv.ofNs (ns := (mapAt q n).nums) (SqT.of (upd_same.trans (congrArg (fun l => some (HO.tup l)) key.symm)))
end
end K32
/-! K32E: bends and steps by numbers. -/
namespace K32
set_option exponentiation.threshold 2000
open PySem PySem.Spec PyProof.Rows L2
abbrev s_bend_number : Stmt := topS 41
abbrev N_bend_number : List Str := ["q", "bend", "found", "a"]
theorem sc_bend_number : FnScope N_bend_number ["q", "bend"] (defScope s_bend_number) := ⟨rfl, rfl, rfl, by decide +kernel, rfl, by decide +kernel, by decide +kernel⟩
abbrev s_bend_at : Stmt := topS 42
abbrev N_bend_at : List Str := ["q", "degree", "number", "found", "left", "_"]
theorem sc_bend_at : FnScope N_bend_at ["q", "degree", "number"] (defScope s_bend_at) := ⟨rfl, rfl, rfl, by decide +kernel, rfl, by decide +kernel, by decide +kernel⟩
abbrev s_step_number : Stmt := topS 43
abbrev N_step_number : List Str := ["q", "step", "start", "bends", "turns", "last", "found", "bend", "e"]
theorem sc_step_number : FnScope N_step_number ["q", "step"] (defScope s_step_number) := ⟨rfl, rfl, rfl, by decide +kernel, rfl, by decide +kernel, by decide +kernel⟩
abbrev s_step_at : Stmt := topS 44
abbrev N_step_at : List Str := ["q", "degrees", "number", "left", "last", "turns", "bends", "_", "degree", "many"]
theorem sc_step_at : FnScope N_step_at ["q", "degrees", "number"] (defScope s_step_at) := ⟨rfl, rfl, rfl, by decide +kernel, rfl, by decide +kernel, by decide +kernel⟩
/-! ### cuts -/
theorem sIx_neg (n d : Nat) : HT.sIx n d (some (-1)) = n - 1 := by
  show (if (-1 : Int) < 0 then ((-1 : Int) + (n : Int)).toNat else min (-1 : Int).toNat n) = n - 1
  rw [if_pos (by decide)]
  omega
theorem cut_mid (b : Bend) : cutV (b.nums.map nV) (some 2) (some (-1)) = b.1.map nV := by
  unfold cutV
  have hl : (b.nums.map nV).length = b.1.length + 3 := by
    rw [List.length_map, b.nums_len]
    rfl
  have e2 : HT.sIx (b.nums.map nV).length 0 (some 2) = min 2 (b.nums.map nV).length := HT.sIx_nat _ _ 2
  rw [e2, sIx_neg, hl, Nat.min_eq_left (by omega), show b.1.length + 3 - 1 - 2 = b.1.length from by omega]
  show ((b.1 ++ [b.2]).map nV).take b.1.length = _
  rw [List.map_append, List.take_left' (List.length_map _)]
theorem whole_mid (b : Bend) : ¬ (HT.sIx (b.nums.map nV).length 0 (some 2) = 0 ∧ HT.sIx (b.nums.map nV).length (b.nums.map nV).length (some (-1)) = (b.nums.map nV).length) := by
  rw [sIx_neg, List.length_map, b.nums_len]
  unfold Bend.deg
  omega
theorem cut_tail (xs : List V) : cutV xs (some 1) none = xs.drop 1 := by
  unfold cutV
  have e2 : HT.sIx xs.length 0 (some 1) = min 1 xs.length := HT.sIx_nat _ _ 1
  rw [e2, HT.sIx_none]
  cases xs with
  | nil => rfl
  | cons x xs =>
    rw [Nat.min_eq_left (by simp)]
    show xs.take (xs.length + 1 - 1) = xs
    rw [Nat.add_sub_cancel, List.take_length]
theorem cut_init (xs : List V) : cutV xs none (some (-1)) = xs.take (xs.length - 1) := by
  unfold cutV
  rw [sIx_neg, HT.sIx_none]
  rfl
theorem loopB_snoc (q d : Nat) : ∀ (pre : List Nat) (n : Nat), loopB q (pre ++ [d]) n = ((loopB q pre n).1 / mb q d, (loopB q pre n).2 ++ [bendAt q d ((loopB q pre n).1 % mb q d)])
  | [], n => rfl
  | x :: pre, n => by
    show ((loopB q (pre ++ [d]) (n / mb q x)).1, bendAt q x (n % mb q x) :: (loopB q (pre ++ [d]) (n / mb q x)).2) = _
    rw [loopB_snoc q d pre]
    rfl
section
variable {P : Program} {w : World} {K : PySem.W.Frag} {mg : Str → Option Value} {base : Heap} {f d : Addr} {fd : FuncData}
def spBendNum (K : PySem.W.Frag) : Sp := fun vs H Q _ => ∃ (q : Nat) (v : V) (b : Bend), vs = [nV q, v] ∧ q ∈ fields ∧ Tv K H v (dNs b.nums) ∧ b.Good q ∧ ∀ H', Same H H' → Q (nV (bendOn q 0 b)) H'
theorem ok_bend_number (F : Fun K "bend_number" "bend_number" s_bend_number f fd) : FnOk P w K mg base CX0 1 f fd ["q", "bend"] (spBendNum K) := by
  refine F.ok sc_bend_number (fun vs H Q E h => ?_) (fun cdv A outer s H vs Q E hr h => ?_)
  · obtain ⟨q, v, b, rfl, _⟩ := h
    rfl
  · obtain ⟨q, v, b, rfl, hq, hv, hb, k⟩ := h
    refine ⟨_, (pss_cons (ps_set (i := 2) sc_bend_number.nd rfl (Or.inl rfl) pe_int)
      (pss_cons (ps_for PassesOwn.never rfl (pi_tup (pe_slice sl_tup (pv 1) (po_some pe_int) (po_some (pe_un un_neg pe_int)))) (pg_name (i := 3) sc_bend_number.nd rfl (Or.inl rfl)) (pss_one (ps_set (i := 2) sc_bend_number.nd rfl (Or.inl rfl) (pe_op opN_add (pe_op opN_mul (pv 2) (pv 0)) (pv 3)))))
      (pss_one (ps_ret (pe_op opN_sub (pe_op opN_add (pe_op opN_mul (pv 2) (pe_op opN_sub (pv 0) pe_int)) (pe_ix ix_tup (pv 1) (pe_un un_neg pe_int) (fun _ _ => rfl))) pe_int))))), ?_⟩
    obtain ⟨a, rfl, hT⟩ := Tv.ns hv
    have hqb := fields_ge hq
    have bq : Big q := big9 (by omega)
    have hl4 := hb.len
    have hrd : ∀ i, rd q 0 (b.1.take i) < 2 ^ 20 := fun i => by
      have h1 := rd_lt hqb.2 (b.1.take i) 0 0 (fun x hx => hb.mid x (List.mem_of_mem_take hx)) (by decide)
      refine bd_mono h1 ?_
      rw [List.length_take]
      omega
    refine ⟨_, rfl, 2, rfl, 1, rfl, _, rfl, a, _, rfl, hT, whole_mid b, fun p np => ?_⟩
    rw [show cutV (b.nums.map nV) (some 2) (some (-1)) = b.1.map nV from cut_mid b]
    have s1 := sameU (o := .tup (b.1.map nV)) np
    refine ⟨p, rfl, ⟨_, SqT.of upd_same⟩, ?_⟩
    refine for_it walk_tup (fun i σ H2 => H2 = upd H p (.tup (b.1.map nV)) ∧ ∃ z, σ = [some (nV q), some (.ref a), some (nV (rd q 0 (b.1.take i))), z]) ⟨rfl, none, rfl⟩ (fun i σ H2 _ p => by rw [p.1]; exact SqT.of upd_same) (fun i x σ H2 H3 hi p y => ?_) fun σ H2 p => ?_
    · obtain ⟨rfl, hx⟩ := y
      obtain ⟨rfl, z, rfl⟩ := p
      rw [List.getElem?_map] at hx
      obtain ⟨n, hn, rfl⟩ := Option.map_eq_some_iff.mp hx
      refine ⟨_, rfl, _, rfl, _, q, rfl, rfl, ⟨bigE (hrd i) (by decide), bq⟩, _, rfl, _, n, rfl, rfl, rfl, some (nV n), ?_⟩
      have e3 : rd q 0 (b.1.take (i + 1)) = rd q 0 (b.1.take i) * q + n := by
        rw [take_snoc hn, rd_app]
        rfl
      rw [e3]
      rfl
    · obtain ⟨rfl, z, rfl⟩ := p
      have hr0 := hrd b.1.length
      rw [List.take_length] at hr0
      have hlst : (b.nums.map nV).length = b.1.length + 3 := by
        rw [List.length_map, b.nums_len]
        rfl
      have nz := hb.nz
      refine ⟨_, rfl, _, rfl, q, 1, rfl, rfl, by omega, _, _, rfl, rfl, ⟨?_, big9 (by omega)⟩, _, rfl, 1, rfl, a, b.nums.map nV, -1, nV b.2, rfl, rfl, Same.sqT s1 hT, (by rw [nums_last]; exact atI_last _ _), _, b.2, rfl, rfl, _, 1, rfl, rfl, ?_, to (k _ s1) ?_⟩
      · rw [List.length_map, List.take_length]
        exact bigE hr0 (by decide)
      · exact Nat.le_trans (by omega : 1 ≤ b.2) (Nat.le_add_left _ _)
      · rw [List.length_map, List.take_length]
        unfold bendOn
        show nV _ = nV (rd q 0 b.1 * (q - 1) + b.2 - 1)
        rw [Nat.add_sub_assoc (by omega)]
def spBendAt (K : PySem.W.Frag) : Sp := fun vs H Q _ => ∃ q d n : Nat, vs = [nV q, nV d, nV n] ∧ q ∈ fields ∧ 2 ≤ d ∧ d ≤ 6 ∧ ∀ (v : V) (H' : Hp), Same H H' → Tv K H' v (dNs (bendAt q d n).nums) → Q v H'
theorem ok_bend_at (F : Fun K "bend_at" "bend_at" s_bend_at f fd) (B : Blt mg) : FnOk P w K mg base CX0 1 f fd ["q", "degree", "number"] (spBendAt K) := by
  refine F.ok sc_bend_at (fun vs H Q E h => ?_) (fun cdv A outer s H vs Q E hr h => ?_)
  · obtain ⟨q, d, n, rfl, _⟩ := h
    rfl
  · obtain ⟨q, d, n, rfl, hq, h2, h6, k⟩ := h
    refine ⟨_, (pss_cons (ps_par (i := 3) (j := 4) (by rfl) sc_bend_at.nd rfl rfl (by decide) rfl rfl (pa_cons (pe_lst (pa_cons (pe_op opN_add (pe_op opN_mod (pv 2) (pe_op opN_sub (pv 0) pe_int)) pe_int) pa_nil)) (pa_cons (pe_op opN_div (pv 2) (pe_op opN_sub (pv 0) pe_int)) pa_nil)) (by rfl))
      (pss_cons (ps_for PassesOwn.never rfl (pi_range1 rfl B.range (pa_cons (pe_op opN_sub (pv 1) pe_int) pa_nil)) (pg_name (i := 5) sc_bend_at.nd rfl (Or.inl rfl)) (pss_cons (ps_expr (pe_bm PySem.F.plainAttrs_list PySem.F.slot_list_append PySem.F.type_list_append mt_append (pv 3) (pa_cons (pe_op opN_mod (pv 4) (pv 0)) pa_nil)))
      (pss_one (ps_set (i := 4) sc_bend_at.nd rfl (Or.inl rfl) (pe_op opN_div (pv 4) (pv 0))))))
      (pss_one (ps_ret (pe_op op_catT (pe_tup (pa_cons pe_int (pa_cons pe_int pa_nil))) (pe_callTy call_tuple_of (by rfl) B.tup (by decide +kernel) (pa_cons (pe_revL (pv 3)) pa_nil))))))), ?_⟩
    have hqb := fields_ge hq
    have bq : Big q := big9 (by omega)
    have q1 : 0 < q - 1 := by omega
    refine ⟨_, rfl, _, rfl, q, 1, rfl, rfl, by omega, n, q - 1, rfl, rfl, q1, _, 1, rfl, rfl, (by show 1 ≤ sizeLine; decide), fun D nD => ?_⟩
    refine ⟨_, rfl, _, rfl, q, 1, rfl, rfl, by omega, n, q - 1, rfl, rfl, ⟨q1, big9 (by omega)⟩, _, _, rfl, ?_⟩
    refine ⟨_, rfl, d, 2, rfl, rfl, h2, _, rfl, by omega, by omega, ?_⟩
    refine for_it walk_range (fun i σ H2 => Same H H2 ∧ H2 D = some (.lst ([nV (n % (q - 1) + 1)] ++ (digs q i (n / (q - 1))).map nV)) ∧ ∃ z, σ = [some (nV q), some (nV d), some (nV n), some (.ref D), some (nV (n / (q - 1) / q ^ i)), z])
      ⟨sameU nD, upd_same, none, by rw [Nat.pow_zero, Nat.div_one]; rfl⟩ (fun _ _ _ _ _ => trivial) (fun i x σ H2 H3 hi p y => ?_) fun σ H2 p => ?_
    · obtain ⟨rfl, rfl⟩ := y
      obtain ⟨s2, e2, z, rfl⟩ := p
      rw [Int.toNat_natCast] at hi
      refine ⟨_, rfl, .inl ⟨rfl, _, SqL.of e2⟩, _, rfl, _, rfl, _, q, rfl, rfl, (by show 0 < q; omega), D, _, _, rfl, rfl, e2, ?_, ?_⟩
      · refine small1000 ?_
        rw [List.length_append, List.length_map, digs_len]
        rw [show [nV (n % (q - 1) + 1)].length = 1 from rfl]
        omega
      · refine ⟨_, rfl, _, rfl, _, q, rfl, rfl, ⟨(by show 0 < q; omega), bq⟩, smut s2 nD, ?_, some (.int (0 + (i : Int))), ?_⟩
        · rw [upd_same, digs_last, List.map_append, List.append_assoc]
          rfl
        · rw [Nat.pow_succ, ← Nat.div_div_eq_div_mul]
          rfl
    · obtain ⟨s2, e2, z, rfl⟩ := p
      rw [Int.toNat_natCast] at e2
      refine ⟨(by show 2 ≤ sizeLine; decide), fun p1 np1 => ?_⟩
      have e3 := (sameU (o := .tup [nV 0, nV 0]) np1) _ _ e2
      refine ⟨_, rfl, D, _, rfl, SqL.of e3, fun p2 np2 => ?_⟩
      refine ⟨p2, _, rfl, .inl ⟨SqL.of upd_same, fun p3 np3 => ?_⟩⟩
      have s3 := snu (o := .tup [nV 0, nV 0]) s2 np1
      have s23 : Same (upd H2 p1 (.tup [nV 0, nV 0])) _ := sameU (o := .lst ([nV (n % (q - 1) + 1)] ++ (digs q (d - 2) (n / (q - 1))).map nV).reverse) np2
      have s34 := snu (o := .tup ([nV (n % (q - 1) + 1)] ++ (digs q (d - 2) (n / (q - 1))).map nV).reverse) s23 np3
      have hlen : ([nV (n % (q - 1) + 1)] ++ (digs q (d - 2) (n / (q - 1))).map nV).reverse.length ≤ 10 := by
        rw [List.length_reverse, List.length_append, List.length_map, digs_len]
        show 1 + (d - 2) ≤ 10
        omega
      refine ⟨p1, p3, [nV 0, nV 0], _, rfl, rfl, SqT.of (s34 _ _ upd_same), SqT.of upd_same, (fun z => by cases z), ?_, fun z => ?_, fun _ p4 np4 => ?_⟩
      · exact Nat.le_of_lt (small1000 (by rw [show [nV 0, nV 0].length = 2 from rfl]; omega))
      · have := congrArg List.length z
        rw [List.length_reverse, List.length_append] at this
        simp at this
      · refine k (.ref p4) _ (snu (s3.trans s34) np4) (Tv.ofNs (ns := (bendAt q d n).nums) (SqT.of (upd_same.trans (congrArg (fun l => some (HO.tup l)) ?_))))
        rw [List.reverse_append, ← List.map_reverse]
        unfold bendAt Bend.nums
        show [nV 0, nV 0] ++ (List.map nV (digs q (d - 2) (n / (q - 1))).reverse ++ [nV (n % (q - 1) + 1)]) = nV 0 :: nV 0 :: List.map nV ((digs q (d - 2) (n / (q - 1))).reverse ++ [n % (q - 1) + 1])
        rw [List.map_append]
        rfl
/-! ### steps by numbers -/
theorem onN_snoc (q : Nat) (r : Nat) (bs : List Bend) (b : Bend) : onN q r (bs ++ [b]) = onN q r bs * mb q b.deg + bendOn q 0 b := by
  unfold onN
  rw [List.foldl_append]
  rfl
def spStepNum (K : PySem.W.Frag) : Sp := fun vs H Q _ => ∃ (q : Nat) (v : V) (s : StepD), vs = [nV q, v] ∧ q ∈ fields ∧ Tv K H v (dStep s) ∧ s.Good q ∧ ∀ H', Same H H' → Q (nV (stepNum q s)) H'
theorem ok_step_number (F : Fun K "step_number" "step_number" s_step_number f fd) (B : Blt mg) (h_check_step : Has P w K mg base 8 "check_step" s_check_step ["q", "thing"] (spCheck K)) (h_many_bends : Has P w K mg base 8 "many_bends" s_many_bends ["q", "degree"] spMb)
    (h_bend_number : Has P w K mg base 8 "bend_number" s_bend_number ["q", "bend"] (spBendNum K)) (h_many_straight : Has P w K mg base 8 "many_straight" s_many_straight ["q"] spMst) (h_map_number : Has P w K mg base 8 "map_number" s_map_number ["q", "m"] (spMapNum K)) : FnOk P w K mg base CX0 9 f fd ["q", "step"] (spStepNum K) := by
  refine F.ok sc_step_number (fun vs H Q E h => ?_) (fun cdv A outer s H vs Q E hr h => ?_)
  · obtain ⟨q, v, s, rfl, _⟩ := h
    rfl
  · obtain ⟨q, v, s, rfl, hq, hv, hs, k⟩ := h
    refine ⟨_, (pss_cons (ps_expr (pe_callH h_check_step hr (by rfl) (pa_cons (pv 0) (pa_cons (pv 1) pa_nil))))
      (pss_cons (ps_asg (pv 1) (pg_tup (by rfl) (pgs_cons (pg_name (i := 2) sc_step_number.nd rfl (Or.inl rfl)) (pgs_cons (pg_name (i := 3) sc_step_number.nd rfl (Or.inl rfl)) (pgs_cons (pg_name (i := 4) sc_step_number.nd rfl (Or.inl rfl)) (pgs_cons (pg_name (i := 5) sc_step_number.nd rfl (Or.inl rfl)) pgs_nil))))))
      (pss_cons (ps_set (i := 6) sc_step_number.nd rfl (Or.inl rfl) (pe_op op_add (pv 2) pe_int))
      (pss_cons (ps_for PassesOwn.never rfl (pi_tup (pv 3)) (pg_name (i := 7) sc_step_number.nd rfl (Or.inl rfl)) (pss_one (ps_set (i := 6) sc_step_number.nd rfl (Or.inl rfl) (pe_op opN_add (pe_op opN_mul (pv 6) (pe_callH h_many_bends hr (by rfl) (pa_cons (pv 0) (pa_cons (pe_op opN_sub (pe_callB call_len_seq (by rfl) B.len (by decide +kernel) (pa_cons (pv 7) pa_nil)) pe_int) pa_nil)))) (pe_callH h_bend_number hr (by rfl) (pa_cons (pv 0) (pa_cons (pv 7) pa_nil)))))))
      (pss_cons (ps_for PassesOwn.never rfl (pi_tup (pv 4)) (pg_name (i := 8) sc_step_number.nd rfl (Or.inl rfl)) (pss_one (ps_set (i := 6) sc_step_number.nd rfl (Or.inl rfl) (pe_op opN_add (pe_op opN_mul (pv 6) (pv 0)) (pv 8)))))
      (pss_one (ps_ret (pe_op opN_add (pe_op opN_mul (pv 6) (pe_callH h_many_straight hr (by rfl) (pa_cons (pv 0) pa_nil))) (pe_callH h_map_number hr (by rfl) (pa_cons (pv 0) (pa_cons (pv 5) pa_nil))))))))))), ?_⟩
    rw [show L2.start N_step_number [nV q, v] = [some (nV q), some v, none, none, none, none, none, none, none] from rfl]
    have hqb := fields_ge hq
    have bq : Big q := big9 (by omega)
    obtain ⟨a, b, t, m, rfl, hT, hB, hTs, hM⟩ := step_inv hv
    refine ⟨_, rfl, _, rfl, q, _, s, rfl, hq, hv, hs, fun H1 s1 => ?_⟩
    refine ⟨_, rfl, a, _, rfl, Same.sqT s1 hT, rfl, _, _, rfl, _, _, rfl, _, _, rfl, _, _, rfl, rfl, ?_⟩
    refine ⟨_, rfl, _, _, rfl, rfl, ?_⟩
    obtain ⟨b', xs, eb, hX, hL⟩ := Tv.tup_inv hB
    cases eb
    have hxl := Tvs.length hL
    rw [List.length_map] at hxl
    obtain ⟨t', et, hTT⟩ := Tv.ns hTs
    cases et
    have few := hs.few
    have tl := hs.len
    have hs1 := hs.s1
    have bB : ∀ i, i ≤ s.bs.length → onN q s.s1 (s.bs.take i) < 2 ^ 329 := fun i hi => by
      have h1 := onN_bd hq (s.bs.take i) s.s1 5 (fun x hx => hs.bs x (List.mem_of_mem_take hx)) (Nat.lt_of_le_of_lt (by omega : s.s1 ≤ 16) (by decide))
      refine bd_mono h1 ?_
      rw [List.length_take]
      omega
    have bT : ∀ i, rd q (onN q s.s1 s.bs) (s.ts.take i) < 2 ^ 400 := fun i => by
      have h0 := bB s.bs.length (Nat.le_refl _)
      rw [List.take_length] at h0
      have h1 := rd_lt hqb.2 (s.ts.take i) _ 329 (fun x hx => hs.ts x (List.mem_of_mem_take hx)) h0
      refine bd_mono h1 ?_
      rw [List.length_take]
      omega
    have e0 : V.int ((s.s1 : Int) - 1 + 1) = nV s.s1 := congrArg V.int (by omega)
    refine ⟨_, rfl, b, rfl, ⟨_, Same.sqT s1 hX⟩, ?_⟩
    refine for_it walk_tup (fun i σ H2 => i ≤ s.bs.length ∧ Same H H2 ∧ ∃ z y, σ = [some (nV q), some (.ref a), some (.int ((s.s1 : Int) - 1)), some (.ref b), some (.ref t), some (.ref m), some (nV (onN q s.s1 (s.bs.take i))), z, y])
      ⟨Nat.zero_le _, s1, none, none, by rw [List.take_zero]; exact congrArg (fun v => [some (nV q), some (.ref a), some (.int ((s.s1 : Int) - 1)), some (.ref b), some (.ref t), some (.ref m), some v, none, none]) e0⟩ (fun i σ H2 _ p => Same.sqT p.2.1 hX) (fun i x σ H2 H3 hi p y => ?_) fun σ H2 p => ?_
    · obtain ⟨rfl, hx⟩ := y
      obtain ⟨hi1, s2, z, y, rfl⟩ := p
      obtain ⟨d, hd, tv⟩ := Tvs.at hL hx
      rw [List.getElem?_map] at hd
      obtain ⟨bb, hb, rfl⟩ := Option.map_eq_some_iff.mp hd
      have gb := hs.bs bb (List.mem_of_getElem? hb)
      have hil := (List.getElem?_eq_some_iff.mp hb).1
      have hdg : 2 ≤ bb.deg ∧ bb.deg ≤ 6 := by
        have := gb.len
        unfold Bend.deg
        omega
      obtain ⟨c, rfl, hC⟩ := Tv.ns tv
      have hcl : (bb.nums.map nV).length = bb.deg + 1 := by rw [List.length_map, bb.nums_len]
      refine ⟨_, rfl, _, rfl, _, rfl, c, _, rfl, .inr (Same.sqT s2 hC), (bb.nums.map nV).length, 1, rfl, rfl, by omega, q, bb.deg, ?_, hq, hdg.1, hdg.2, ?_⟩
      · show [nV q, nV ((bb.nums.map nV).length - 1)] = _
        rw [hcl, Nat.add_sub_cancel]
      · refine ⟨onN q s.s1 (s.bs.take i), mb q bb.deg, rfl, rfl, ⟨bigE (bB i hi1) (by decide), bigE (mb_lt hq hdg.2) (by decide)⟩, _, rfl, _, rfl, q, _, bb, rfl, hq, Tv.sm s2 tv, gb, fun H4 s4 => ?_⟩
        refine ⟨_, _, rfl, rfl, by omega, s2.trans s4, some (.ref c), y, ?_⟩
        rw [take_snoc hb, onN_snoc]
        rfl
    · obtain ⟨_, s2, z, y, rfl⟩ := p
      rw [show s.bs.take xs.length = s.bs by rw [hxl, List.take_length]]
      refine ⟨_, rfl, t, rfl, ⟨_, Same.sqT s2 hTT⟩, ?_⟩
      refine for_it walk_tup (fun i σ H3 => Same H H3 ∧ ∃ z y, σ = [some (nV q), some (.ref a), some (.int ((s.s1 : Int) - 1)), some (.ref b), some (.ref t), some (.ref m), some (nV (rd q (onN q s.s1 s.bs) (s.ts.take i))), z, y])
        ⟨s2, z, y, rfl⟩ (fun i σ H2 _ p => Same.sqT p.1 hTT) (fun i x σ H2 H3 hi p y => ?_) fun σ H2 p => ?_
      · obtain ⟨rfl, hx⟩ := y
        obtain ⟨s3, z, y, rfl⟩ := p
        rw [List.getElem?_map] at hx
        obtain ⟨n, hn, rfl⟩ := Option.map_eq_some_iff.mp hx
        refine ⟨_, rfl, _, rfl, _, q, rfl, rfl, ⟨bigE (bT i) (by decide), bq⟩, _, rfl, _, n, rfl, rfl, s3, z, some (nV n), ?_⟩
        rw [take_snoc hn, rd_app]
        rfl
      · obtain ⟨s3, z, y, rfl⟩ := p
        rw [List.length_map, List.take_length]
        have h0 := bT s.ts.length
        rw [List.take_length] at h0
        refine ⟨_, rfl, _, rfl, q, rfl, hq, _, _, rfl, rfl, ⟨bigE h0 (by decide), bigE (mst_bd hq) (by decide)⟩, _, rfl, _, rfl, q, _, s.m, rfl, hq, Tv.sm s3 hM, hs.m, fun H4 s4 => ?_⟩
        exact ⟨_, _, rfl, rfl, k _ (s3.trans s4)⟩
theorem none_back {H H' : Hp} {p : Addr} (s : Same H H') (h : H' p = none) : H p = none := by
  cases e : H p with
  | none => rfl
  | some o =>
    have := s _ _ e
    rw [h] at this
    cases this
theorem whole_tail {xs : List V} (h : xs ≠ []) : ¬ (HT.sIx xs.length 0 (some 1) = 0 ∧ HT.sIx xs.length xs.length none = xs.length) := fun z => by
  have e2 : HT.sIx xs.length 0 (some 1) = min 1 xs.length := HT.sIx_nat _ _ 1
  have h1 := z.1
  rw [e2] at h1
  have h2 : xs.length ≠ 0 := fun z => h (List.length_eq_zero_iff.mp z)
  omega
def DsOk (ds : List Nat) : Prop := (∀ d ∈ ds, 2 ≤ d ∧ d ≤ 6) ∧ ds.length ≤ 12
def spStepAt (K : PySem.W.Frag) : Sp := fun vs H Q _ => ∃ (q : Nat) (v : V) (ds : List Nat) (n : Nat), vs = [nV q, v, nV n] ∧ q ∈ fields ∧ Tv K H v (dNs ds) ∧ DsOk ds ∧ n < mpl q ds * mst q ∧ ∀ (u : V) (H' : Hp), Same H H' → Tv K H' u (dStep (stepAt q ds n)) → Q u H'
theorem ok_step_at (F : Fun K "step_at" "step_at" s_step_at f fd) (B : Blt mg) (h_many_straight : Has P w K mg base 8 "many_straight" s_many_straight ["q"] spMst) (h_many_bends : Has P w K mg base 8 "many_bends" s_many_bends ["q", "degree"] spMb)
    (h_bend_at : Has P w K mg base 8 "bend_at" s_bend_at ["q", "degree", "number"] (spBendAt K)) (h_map_at : Has P w K mg base 8 "map_at" s_map_at ["q", "number"] (spMapAt K)) : FnOk P w K mg base CX0 9 f fd ["q", "degrees", "number"] (spStepAt K) := by
  refine F.ok sc_step_at (fun vs H Q E h => ?_) (fun cdv A outer s H vs Q E hr h => ?_)
  · obtain ⟨q, v, ds, n, rfl, _⟩ := h
    rfl
  · obtain ⟨q, v, ds, n, rfl, hq, hv, hd, hn, k⟩ := h
    refine ⟨_, (pss_cons (ps_par (i := 3) (j := 4) (by rfl) sc_step_at.nd rfl rfl (by decide) rfl rfl (pa_cons (pe_op opN_div (pv 2) (pe_callH h_many_straight hr (by rfl) (pa_cons (pv 0) pa_nil))) (pa_cons (pe_callH h_map_at hr (by rfl) (pa_cons (pv 0) (pa_cons (pe_op opN_mod (pv 2) (pe_callH h_many_straight hr (by rfl) (pa_cons (pv 0) pa_nil))) pa_nil))) pa_nil)) (by rfl))
      (pss_cons (ps_if (pt_cmpR (op_eqT hr) (pv 1) (pe_tup pa_nil) (nomark _)) (pss_one (ps_ret (pe_tup (pa_cons (pe_un un_neg pe_int) (pa_cons (pe_tup pa_nil) (pa_cons (pe_tup pa_nil) (pa_cons (pv 4) pa_nil))))))) pss_nil)
      (pss_cons (ps_par (i := 5) (j := 6) (by rfl) sc_step_at.nd rfl rfl (by decide) rfl rfl (pa_cons (pe_lst pa_nil) (pa_cons (pe_lst pa_nil) pa_nil)) (by rfl))
      (pss_cons (ps_for PassesOwn.never rfl (pi_tup (pe_slice sl_tup (pv 1) (po_some pe_int) po_none)) (pg_name (i := 7) sc_step_at.nd rfl (Or.inl rfl)) (pss_cons (ps_expr (pe_bm PySem.F.plainAttrs_list PySem.F.slot_list_append PySem.F.type_list_append mt_append (pv 5) (pa_cons (pe_op opN_mod (pv 3) (pv 0)) pa_nil)))
      (pss_one (ps_set (i := 3) sc_step_at.nd rfl (Or.inl rfl) (pe_op opN_div (pv 3) (pv 0))))))
      (pss_cons (ps_for PassesOwn.never rfl (pi_tup (pe_revT (pv 1))) (pg_name (i := 8) sc_step_at.nd rfl (Or.inl rfl)) (pss_cons (ps_set (i := 9) sc_step_at.nd rfl (Or.inl rfl) (pe_callH h_many_bends hr (by rfl) (pa_cons (pv 0) (pa_cons (pv 8) pa_nil))))
      (pss_cons (ps_expr (pe_bm PySem.F.plainAttrs_list PySem.F.slot_list_append PySem.F.type_list_append mt_append (pv 6) (pa_cons (pe_callH h_bend_at hr (by rfl) (pa_cons (pv 0) (pa_cons (pv 8) (pa_cons (pe_op opN_mod (pv 3) (pv 9)) pa_nil)))) pa_nil)))
      (pss_one (ps_set (i := 3) sc_step_at.nd rfl (Or.inl rfl) (pe_op opN_div (pv 3) (pv 9)))))))
      (pss_one (ps_ret (pe_tup (pa_cons (pe_op op_sub (pv 3) pe_int) (pa_cons (pe_callTy call_tuple_of (by rfl) B.tup (by decide +kernel) (pa_cons (pe_revL (pv 6)) pa_nil)) (pa_cons (pe_callTy call_tuple_of (by rfl) B.tup (by decide +kernel) (pa_cons (pe_revL (pv 5)) pa_nil)) (pa_cons (pv 4) pa_nil)))))))))))), ?_⟩
    rw [show L2.start N_step_at [nV q, v, nV n] = [some (nV q), some v, some (nV n), none, none, none, none, none, none, none] from rfl]
    have hqb := fields_ge hq
    have hq0 : 0 < q := by omega
    have bq : Big q := big9 (by omega)
    have mp := mst_pos hqb.1
    have bm : Big (mst q) := bigE (mst_bd hq) (by decide)
    obtain ⟨a, rfl, hT⟩ := Tv.ns hv
    obtain ⟨L, hL⟩ : ∃ L, n / mst q = L := ⟨_, rfl⟩
    obtain ⟨M, hM⟩ : ∃ M, n % mst q = M := ⟨_, rfl⟩
    have hMl : M < mst q := by
      rw [← hM]
      exact Nat.mod_lt _ mp
    refine ⟨_, rfl, _, rfl, q, rfl, hq, n, mst q, rfl, rfl, ⟨mp, bm⟩, _, rfl, _, rfl, _, rfl, q, rfl, hq, n, mst q, rfl, rfl, mp, q, M, congrArg (fun z => [nV q, nV z]) hM, hq, hMl, fun v H1 s1 tv => ?_⟩
    refine ⟨nV L, v, congrArg (fun z => [nV z, v]) hL, ?_⟩
    refine ⟨_, rfl, Nat.zero_le _, fun p0 np0 => ⟨_, _, Tv.sm (snu s1 np0) hv, tv_nil upd_same, (sh_ns _).mono (by decide), sh_nil.mono (by decide), _, rfl, ?_⟩⟩
    have s2 := snu (o := .tup []) s1 np0
    have s02 := sameU (o := .tup []) np0
    unfold dNs
    rw [eqv_nil]
    refine ite2 (fun e => ?_) (fun e => ?_)
    · have e1 : ds = [] := List.map_eq_nil_iff.mp (List.isEmpty_iff.mp e)
      subst e1
      refine ⟨1, rfl, Nat.zero_le _, fun p1 np1 => ⟨Nat.zero_le _, fun p2 np2 => ⟨_, rfl, (by show 4 ≤ sizeLine; decide), fun p3 np3 => ?_⟩⟩⟩
      have s12 := sameU (o := .tup []) np1
      have s23 := sameU (o := .tup []) np2
      have s34 := sameU (o := .tup [.int (-1), .ref p1, .ref p2, v]) np3
      refine k (.ref p3) _ (((s2.trans s12).trans s23).trans s34) ?_
      rw [show stepAt q [] n = ⟨0, [], [], mapAt q M⟩ by rw [← hM]; rfl]
      exact .tup (SqT.of upd_same) (.cons (.int _) (.cons (Tv.sm (s23.trans s34) (tv_nil upd_same)) (.cons (Tv.sm s34 (tv_nil upd_same)) (.cons (Tv.sm (((s02.trans s12).trans s23).trans s34) tv) .nil))))
    · have hne : ds ≠ [] := fun z => e (by rw [z]; rfl)
      have hne2 : ds.map nV ≠ [] := fun z => hne (List.map_eq_nil_iff.mp z)
      refine ⟨Nat.zero_le _, fun T nT => ⟨Nat.zero_le _, fun D nD => ⟨_, _, rfl, ?_⟩⟩⟩
      have nT1 : H1 T = none := none_back s02 nT
      have nTD : T ≠ D := ne_of_none upd_same nD
      have s2T : Same H1 (upd (upd H1 p0 (.tup [])) T (.lst [])) := snu s02 nT
      have nD1 : H1 D = none := none_back s2T nD
      have s2D : Same H1 (upd (upd (upd H1 p0 (.tup [])) T (.lst [])) D (.lst [])) := snu s2T nD
      have eT : upd (upd (upd H1 p0 (.tup [])) T (.lst [])) D (.lst []) T = some (.lst []) := by rw [upd_ne nTD, upd_same]
      have hT1 := Same.sqT s1 hT
      refine ⟨_, rfl, 1, rfl, a, _, rfl, Same.sqT s2D hT1, whole_tail hne2, fun p np => ?_⟩
      rw [show cutV (ds.map nV) (some 1) none = (ds.map nV).drop 1 from cut_tail _]
      refine ⟨p, rfl, ⟨_, SqT.of upd_same⟩, ?_⟩
      have hl12 := hd.2
      refine for_it walk_tup (fun i σ H2 => Same H1 H2 ∧ H2 T = some (.lst ((digs q i L).map nV)) ∧ H2 D = some (.lst []) ∧ SqT K H2 p ((ds.map nV).drop 1) ∧ ∃ z, σ = [some (nV q), some (.ref a), some (nV n), some (nV (L / q ^ i)), some v, some (.ref T), some (.ref D), z, none, none])
        ⟨snu s2D np, sameU np _ _ eT, sameU np _ _ upd_same, SqT.of upd_same, none, by rw [Nat.pow_zero, Nat.div_one]; rfl⟩ (fun i σ H2 _ p => p.2.2.2.1) (fun i x σ H2 H3 hi p y => ?_) fun σ H2 p => ?_
      · obtain ⟨rfl, hx⟩ := y
        obtain ⟨t2, eT2, eD2, hp, z, rfl⟩ := p
        rw [List.length_drop, List.length_map] at hi
        refine ⟨_, rfl, .inl ⟨rfl, _, SqL.of eT2⟩, _, rfl, _, rfl, _, q, rfl, rfl, hq0, T, _, _, rfl, rfl, eT2, ?_, ?_⟩
        · refine small1000 ?_
          rw [List.length_map, digs_len]
          omega
        · refine ⟨_, rfl, _, rfl, _, q, rfl, rfl, ⟨hq0, bq⟩, smut t2 nT1, ?_, ?_, (KeepT.wr (no_tup_lst eT2)).sqT hp, some x, ?_⟩
          · rw [upd_same, digs_last, List.map_append]
            rfl
          · rw [upd_ne (Ne.symm nTD)]
            exact eD2
          · rw [Nat.pow_succ, ← Nat.div_div_eq_div_mul]
            rfl
      · obtain ⟨t2, eT2, eD2, hp, z, rfl⟩ := p
        rw [List.length_drop, List.length_map] at eT2 ⊢
        obtain ⟨L2, hL2⟩ : ∃ L2, L / q ^ (ds.length - 1) = L2 := ⟨_, rfl⟩
        rw [hL2]
        refine ⟨_, rfl, a, _, rfl, Same.sqT t2 hT1, fun p2 np2 => ?_⟩
        rw [← List.map_reverse]
        refine ⟨p2, rfl, ⟨_, SqT.of upd_same⟩, ?_⟩
        refine for_it walk_tup (fun i σ H3 => Same H1 H3 ∧ H3 T = some (.lst ((digs q (ds.length - 1) L).map nV)) ∧ (∃ xs, H3 D = some (.lst xs) ∧ Tvs K H3 xs ((loopB q (ds.reverse.take i) L2).2.map fun b => dNs b.nums)) ∧ SqT K H3 p2 (ds.reverse.map nV) ∧
            ∃ z y x, σ = [some (nV q), some (.ref a), some (nV n), some (nV (loopB q (ds.reverse.take i) L2).1), some v, some (.ref T), some (.ref D), z, y, x])
          ⟨snu t2 np2, sameU np2 _ _ eT2, ⟨[], sameU np2 _ _ eD2, .nil⟩, SqT.of upd_same, z, none, none, rfl⟩ (fun i σ H2 _ p => p.2.2.2.1) (fun i x σ H3 H4 hi p y => ?_) fun σ H3 p => ?_
        · obtain ⟨rfl, hx⟩ := y
          obtain ⟨t3, eT3, ⟨xs, eD3, tx⟩, hp3, z, y, x', rfl⟩ := p
          rw [List.getElem?_map] at hx
          obtain ⟨dg, hdg, rfl⟩ := Option.map_eq_some_iff.mp hx
          have dg2 := hd.1 dg (List.mem_reverse.mp (List.mem_of_getElem? hdg))
          have hil := (List.getElem?_eq_some_iff.mp hdg).1
          rw [List.length_reverse] at hil
          have hxl := Tvs.length tx
          rw [List.length_map, loopB_len, List.length_take, List.length_reverse] at hxl
          refine ⟨_, rfl, _, rfl, q, dg, rfl, hq, dg2.1, dg2.2, ?_⟩
          have mbp := mb_pos (d := dg) hqb.1
          refine ⟨_, rfl, .inl ⟨rfl, _, SqL.of eD3⟩, _, rfl, _, rfl, _, rfl, _, rfl, _, mb q dg, rfl, rfl, mbp, q, dg, _, rfl, hq, dg2.1, dg2.2, fun vb H5 s5 tb => ?_⟩
          have eD5 := s5 _ _ eD3
          have kt := KeepT.wr (o := .lst (xs ++ [vb])) (no_tup_lst eD5)
          refine ⟨D, xs, vb, rfl, rfl, eD5, small1000 (by omega), ?_⟩
          refine ⟨_, rfl, _, rfl, _, mb q dg, rfl, rfl, ⟨mbp, bigE (mb_lt hq dg2.2) (by decide)⟩, smut (t3.trans s5) nD1, ?_, ⟨xs ++ [vb], upd_same, ?_⟩, kt.sqT (Same.sqT s5 hp3), z, some (nV dg), some (nV (mb q dg)), ?_⟩
          · rw [upd_ne nTD]
            exact s5 _ _ eT3
          · rw [take_snoc hdg, loopB_snoc, List.map_append]
            exact Tvs.app (Tvs.keep ((Same.keepT s5).trans kt) _ _ tx) (.cons (Tv.keep kt _ _ tb) .nil)
          · rw [take_snoc hdg, loopB_snoc]
            rfl
        · obtain ⟨t3, eT3, ⟨xs, eD3, tx⟩, hp3, z, y, x', rfl⟩ := p
          rw [List.length_map, List.take_length] at tx ⊢
          refine ⟨_, rfl, _, _, rfl, rfl, _, rfl, D, _, rfl, SqL.of eD3, fun p3 np3 => ?_⟩
          refine ⟨p3, _, rfl, .inl ⟨SqL.of upd_same, fun p4 np4 => ?_⟩⟩
          have u1 := sameU (o := .lst xs.reverse) np3
          have u2 := snu (o := .tup xs.reverse) u1 np4
          refine ⟨_, rfl, T, _, rfl, SqL.of (u2 _ _ eT3), fun p5 np5 => ?_⟩
          refine ⟨p5, _, rfl, .inl ⟨SqL.of upd_same, fun p6 np6 => ?_⟩⟩
          have u3 := sameU (o := .lst ((digs q (ds.length - 1) L).map nV).reverse) np5
          have u4 := snu (o := .tup ((digs q (ds.length - 1) L).map nV).reverse) u3 np6
          refine ⟨_, rfl, (by show 4 ≤ sizeLine; decide), fun p7 np7 => ?_⟩
          refine k (.ref p7) _ (s1.trans (t3.trans (snu (u2.trans u4) np7))) ?_
          have e2 : stepAt q ds n = ⟨(loopB q ds.reverse L2).1, (loopB q ds.reverse L2).2.reverse, (digs q (ds.length - 1) L).reverse, mapAt q M⟩ := by
            unfold stepAt
            rw [if_neg hne, hL, hM, ← hL2]
          rw [e2]
          unfold dStep
          refine .tup (SqT.of upd_same) (.cons (.int _) (.cons ?_ (.cons ?_ (.cons (Tv.sm (t3.trans (snu (u2.trans u4) np7)) tv) .nil))))
          · show Tv K _ (.ref p4) (.tup ((loopB q ds.reverse L2).2.reverse.map fun b => dNs b.nums))
            refine .tup (SqT.of ((snu u4 np7) _ _ upd_same)) ?_
            rw [List.map_reverse]
            exact Tvs.sm (snu (u2.trans u4) np7) (Tvs.rev tx)
          · refine Tv.ofNs (SqT.of ((sameU np7) _ _ ?_))
            rw [List.map_reverse]
            exact upd_same
end
end K32
/-! K32Place: places, plainly. -/
namespace K32
open PySem PySem.Spec PyProof.Rows L2
/-- a place: whether straight, its start + 1, its bends, its turns -/
structure PlD where
  st : Bool
  s1 : Nat
  bs : List Bend
  ts : List Nat
def sortOf (b : Bool) : Str := bif b then "straight" else "bent"
def dPlace (p : PlD) : TD := dPl (sortOf p.st) p.s1 p.bs p.ts
structure PlD.Good (q : Nat) (p : PlD) : Prop where
  s1 : p.s1 ≤ q
  bs : ∀ b ∈ p.bs, b.Good q
  ts : ∀ t ∈ p.ts, t < q
  len : p.ts.length = if p.st then p.bs.length - 1 else p.bs.length
  few : p.bs.length ≤ 12
  nil : p.st = true → p.bs = [] → p.s1 = 0
def root : PlD := ⟨true, 0, [], []⟩
def aheadD (p : PlD) : PlD := if p.st then ⟨false, p.s1, p.bs.dropLast, p.ts⟩ else ⟨true, if p.bs = [] then 0 else p.s1, p.bs, p.ts.dropLast⟩
theorem aheadD_good {q : Nat} {p : PlD} (g : p.Good q) (h : ¬ (p.st = true ∧ p.bs = [])) : (aheadD p).Good q := by
  obtain ⟨st, s1, bs, ts⟩ := p
  have h1 := g.s1
  have h2 := g.len
  have h3 := g.few
  cases st
  · refine ⟨?_, g.bs, fun t ht => g.ts t (List.dropLast_subset _ ht), ?_, h3, fun _ e => if_pos e⟩
    · show (if bs = [] then 0 else s1) ≤ q
      split
      · exact Nat.zero_le _
      · exact h1
    · show ts.dropLast.length = bs.length - 1
      rw [List.length_dropLast]
      simp only [Bool.false_eq_true, if_false] at h2
      rw [h2]
  · have hb : bs ≠ [] := fun z => h ⟨rfl, z⟩
    have hl : bs.length ≠ 0 := fun z => hb (List.length_eq_zero_iff.mp z)
    refine ⟨h1, fun b hb => g.bs b (List.dropLast_subset _ hb), g.ts, ?_, ?_, fun e => absurd e Bool.false_ne_true⟩
    · show ts.length = bs.dropLast.length
      rw [List.length_dropLast]
      exact h2
    · show bs.dropLast.length ≤ 12
      rw [List.length_dropLast]
      have : bs.length ≤ 12 := h3
      omega
/-! ### items -/
def weave : List TD → List TD → List TD
  | [], _ => []
  | b :: bs, [] => b :: weave bs []
  | b :: bs, t :: ts => b :: t :: weave bs ts
theorem weave_snoc2 (b t : TD) : ∀ (a c : List TD), a.length = c.length → weave (a ++ [b]) (c ++ [t]) = weave a c ++ [b, t]
  | [], [], _ => rfl
  | x :: a, y :: c, h => by
    show x :: y :: weave (a ++ [b]) (c ++ [t]) = x :: y :: (weave a c ++ [b, t])
    rw [weave_snoc2 b t a c (by simpa using h)]
  | [], _ :: _, h => by simp at h
  | _ :: _, [], h => by simp at h
theorem weave_snoc1 (b : TD) : ∀ (a c : List TD), a.length = c.length → weave (a ++ [b]) c = weave a c ++ [b]
  | [], [], _ => rfl
  | x :: a, y :: c, h => by
    show x :: y :: weave (a ++ [b]) c = x :: y :: (weave a c ++ [b])
    rw [weave_snoc1 b a c (by simpa using h)]
  | [], _ :: _, h => by simp at h
  | _ :: _, [], h => by simp at h
theorem weave_b : ∀ (bs ts : List TD) (i : Nat), i < bs.length → i ≤ ts.length → (weave bs ts)[2 * i]? = bs[i]?
  | [], _, i, h, _ => by simp at h
  | b :: bs, ts, 0, _, _ => by cases ts <;> rfl
  | b :: bs, [], i + 1, _, h2 => by simp at h2
  | b :: bs, t :: ts, i + 1, h, h2 => by
    have := weave_b bs ts i (by simpa using h) (by simpa using h2)
    rw [show 2 * (i + 1) = 2 * i + 1 + 1 from by omega]
    exact this
theorem weave_t : ∀ (bs ts : List TD) (i : Nat), i < ts.length → i < bs.length → (weave bs ts)[2 * i + 1]? = ts[i]?
  | _, [], i, h, _ => by simp at h
  | [], _, i, _, h => by simp at h
  | b :: bs, t :: ts, 0, _, _ => rfl
  | b :: bs, t :: ts, i + 1, h, h2 => by
    have := weave_t bs ts i (by simpa using h) (by simpa using h2)
    rw [show 2 * (i + 1) + 1 = 2 * i + 1 + 1 + 1 from by omega]
    exact this
theorem weave_len : ∀ (bs ts : List TD), ts.length ≤ bs.length → (weave bs ts).length = bs.length + ts.length
  | [], ts, h => by
    have : ts = [] := by simpa using h
    subst this
    rfl
  | b :: bs, [], _ => by
    show (weave bs []).length + 1 = _
    rw [weave_len bs [] (by simp)]
    simp
  | b :: bs, t :: ts, h => by
    show (weave bs ts).length + 1 + 1 = _
    rw [weave_len bs ts (by simpa using h)]
    simp
    omega
abbrev bD (b : Bend) : TD := dNs b.nums
def itemsD (p : PlD) : List TD := if p.st = true ∧ p.bs = [] then [] else dS p.s1 :: weave (p.bs.map bD) (p.ts.map dN)
theorem itemsD_ne {p : PlD} (h : ¬ (p.st = true ∧ p.bs = [])) : itemsD p = dS p.s1 :: weave (p.bs.map bD) (p.ts.map dN) := if_neg h
theorem items_ahead {q : Nat} {p : PlD} (g : p.Good q) (h : ¬ (p.st = true ∧ p.bs = [])) : itemsD (aheadD p) = (itemsD p).dropLast := by
  obtain ⟨st, s1, bs, ts⟩ := p
  have h2 := g.len
  rw [itemsD_ne h]
  cases st
  · have h2 : ts.length = bs.length := h2
    by_cases e : bs = []
    · subst e
      have : ts = [] := List.length_eq_zero_iff.mp h2
      subst this
      rfl
    · rw [show aheadD ⟨false, s1, bs, ts⟩ = ⟨true, if bs = [] then 0 else s1, bs, ts.dropLast⟩ from rfl, if_neg e, itemsD_ne (fun z => e z.2)]
      have e2 : ts ≠ [] := fun z => e (List.length_eq_zero_iff.mp (by rw [← h2, z]; rfl))
      obtain ⟨c, t, rfl⟩ := (List.eq_nil_or_concat ts).resolve_left e2
      obtain ⟨a, b, rfl⟩ := (List.eq_nil_or_concat bs).resolve_left e
      have hl : a.length = c.length := by simpa using h2.symm
      simp only [List.concat_eq_append, List.dropLast_concat, List.map_append, List.map_cons, List.map_nil]
      rw [weave_snoc1 _ _ _ (by simpa using hl), weave_snoc2 _ _ _ _ (by simpa using hl)]
      rw [show dS s1 :: (weave (a.map bD) (c.map dN) ++ [bD b, dN t]) = (dS s1 :: (weave (a.map bD) (c.map dN) ++ [bD b])) ++ [dN t] by simp, List.dropLast_concat]
  · have e : bs ≠ [] := fun z => h ⟨rfl, z⟩
    have h2 : ts.length = bs.length - 1 := h2
    rw [show aheadD ⟨true, s1, bs, ts⟩ = ⟨false, s1, bs.dropLast, ts⟩ from rfl, itemsD_ne (fun z => Bool.false_ne_true z.1)]
    obtain ⟨a, b, rfl⟩ := (List.eq_nil_or_concat bs).resolve_left e
    have hl : a.length = ts.length := by simpa using h2.symm
    simp only [List.concat_eq_append, List.dropLast_concat, List.map_append, List.map_cons, List.map_nil]
    rw [weave_snoc1 _ _ _ (by simpa using hl)]
    rw [show dS s1 :: (weave (a.map bD) (ts.map dN) ++ [bD b]) = (dS s1 :: weave (a.map bD) (ts.map dN)) ++ [bD b] by simp, List.dropLast_concat]
def depthD (p : PlD) : Nat := if p.st then 2 * p.bs.length else 2 * p.bs.length + 1
theorem items_len {q : Nat} {p : PlD} (g : p.Good q) : (itemsD p).length = depthD p := by
  obtain ⟨st, s1, bs, ts⟩ := p
  have h2 := g.len
  unfold itemsD depthD
  cases st
  · have h2 : ts.length = bs.length := h2
    rw [if_neg (by simp), List.length_cons, weave_len _ _ (by simp [h2])]
    simp [h2]
    omega
  · have h2 : ts.length = bs.length - 1 := h2
    by_cases e : bs = []
    · subst e
      rfl
    · have : bs.length ≠ 0 := fun z => e (List.length_eq_zero_iff.mp z)
      rw [if_neg (by simp [e]), List.length_cons, weave_len _ _ (by simp [h2])]
      simp [h2]
      omega
theorem Tvs.ofAll {K : PySem.W.Frag} {H : Hp} : ∀ {ds : List TD} {vs : List V}, vs.length = ds.length → (∀ (i : Nat) (v : V), vs[i]? = some v → ∃ d, ds[i]? = some d ∧ Tv K H v d) → Tvs K H vs ds
  | [], [], _, _ => .nil
  | [], _ :: _, h, _ => by simp at h
  | _ :: _, [], h, _ => by simp at h
  | d :: ds, v :: vs, h, k => by
    obtain ⟨e, he, t⟩ := k 0 v rfl
    cases he
    exact .cons t (Tvs.ofAll (by simpa using h) fun i u hu => k (i + 1) u hu)
theorem rg_c (lo m : Nat) (hl : lo ≤ 2) (hm : m ≤ 40) : RgC (lo : Int) (m : Int) 2 ((m + 1 - lo) / 2) := by
  have h : ∀ lo : Nat, lo ≤ 2 → ∀ m : Nat, m ≤ 40 → (Builtin.Range.small (lo : Int) (m : Int) 2 = true ∧ Builtin.Range.rangeSize (lo : Int) (m : Int) 2 = (((m + 1 - lo) / 2 : Nat) : Int)) := by decide +kernel
  exact ⟨by decide, by decide, (h lo hl m hm).1, (h lo hl m hm).2⟩
/-! ### the sorts -/
theorem eqSS : decide (V.str "straight" = V.str "straight") = true := decide_eq_true rfl
theorem eqBS : decide (V.str "bent" = V.str "straight") = false := by decide +kernel
theorem eqBB : decide (V.str "bent" = V.str "bent") = true := decide_eq_true rfl
theorem eqSB : decide (V.str "straight" = V.str "bent") = false := by decide +kernel
theorem inSort (b : Bool) : inV (.str (sortOf b)) [.str "straight", .str "bent"] = true := by
  cases b <;> decide +kernel
end K32
/-! K32F: places, walked. -/
namespace K32
set_option exponentiation.threshold 2000
open PySem PySem.Spec PyProof.Rows L2
abbrev s_is_place : Stmt := topS 47
abbrev N_is_place : List Str := ["q", "thing", "sort", "start", "bends", "turns"]
theorem sc_is_place : FnScope N_is_place ["q", "thing"] (defScope s_is_place) := ⟨rfl, rfl, rfl, by decide +kernel, rfl, by decide +kernel, by decide +kernel⟩
abbrev s_check_place : Stmt := topS 48
abbrev N_check_place : List Str := ["q", "thing"]
theorem sc_check_place : FnScope N_check_place ["q", "thing"] (defScope s_check_place) := ⟨rfl, rfl, rfl, by decide +kernel, rfl, by decide +kernel, by decide +kernel⟩
abbrev s_items_of : Stmt := topS 49
abbrev N_items_of : List Str := ["place", "sort", "start", "bends", "turns", "items", "number", "bend"]
theorem sc_items_of : FnScope N_items_of ["place"] (defScope s_items_of) := ⟨rfl, rfl, rfl, by decide +kernel, rfl, by decide +kernel, by decide +kernel⟩
abbrev s_place_at : Stmt := topS 50
abbrev N_place_at : List Str := ["items", "bends", "turns", "number"]
theorem sc_place_at : FnScope N_place_at ["items"] (defScope s_place_at) := ⟨rfl, rfl, rfl, by decide +kernel, rfl, by decide +kernel, by decide +kernel⟩
theorem eqv_root (p : PlD) (st : p.st = true) (n : p.bs = [] → p.s1 = 0 ∧ p.ts = []) : PyData.eqv (dPlace p).py (dPlace root).py = decide (p.bs = []) := by
  obtain ⟨t, s1, bs, ts⟩ := p
  obtain rfl : t = true := st
  cases bs with
  | nil =>
    obtain ⟨e1, e2⟩ := n rfl
    have e1 : s1 = 0 := e1
    have e2 : ts = [] := e2
    subst e1 e2
    simp [dPlace, dPl, root, sortOf, TD.py, TD.pys, PyData.eqv, PyData.eqvAll, dBs, dNs]
  | cons b bs => simp [dPlace, dPl, root, sortOf, TD.py, TD.pys, PyData.eqv, PyData.eqvAll, dBs, dNs]
theorem sh_str {b : Bool} : (TD.str (sortOf b)).Sh 0 := TD.Sh.str (by cases b <;> decide +kernel)
theorem sh_place (p : PlD) : (dPlace p).Sh 3 := TD.Sh.tup fun d hd => by
  simp only [List.mem_cons, List.not_mem_nil, or_false] at hd
  rcases hd with rfl | rfl | rfl | rfl
  · exact sh_str.mono (by decide)
  · exact (TD.Sh.int _).mono (by decide)
  · exact (sh_bs _)
  · exact (sh_ns _).mono (by decide)
theorem sortEq (b : Bool) : decide (V.str (sortOf b) = V.str "straight") = b := by
  cases b
  · exact eqBS
  · exact eqSS
theorem seq_fin {ta : TT} {tb tr : TS} {D : Ends} {σ : L2.St} {H : Hp} (A : Prop) (fin : ∀ H1, Same H H1 → A → tr D σ H1) (k : (∀ H1, Same H H1 → A → tr D σ H1) → tIfS ta tb tNext { D with nx := tr D } σ H) : tSeq (tIfS ta tb tNext) tr D σ H := k fin
theorem Same.sqL {K : PySem.W.Frag} {H H' : Hp} {a : Addr} {xs : List V} (e : Same H H') (h : SqL K H a xs) : SqL K H' a xs := by
  rcases h with h | h
  · exact .inl (Same.rd e h)
  · exact .inr h
section
variable {P : Program} {w : World} {K : PySem.W.Frag} {mg : Str → Option Value} {base : Heap} {f d : Addr} {fd : FuncData} {rt : Addr}
theorem place_inv {H : Hp} {v : V} {p : PlD} (h : Tv K H v (dPlace p)) : ∃ (a b t : Addr), v = .ref a ∧ SqT K H a [.str (sortOf p.st), .int ((p.s1 : Int) - 1), .ref b, .ref t] ∧ Tv K H (.ref b) (dBs p.bs) ∧ Tv K H (.ref t) (dNs p.ts) := by
  obtain ⟨a, xs, rfl, h1, h2⟩ := Tv.tup_inv h
  cases h2 with
  | cons a1 h2 =>
  cases h2 with
  | cons a2 h2 =>
  cases h2 with
  | cons a3 h2 =>
  cases h2 with
  | cons a4 h2 =>
  cases h2
  obtain rfl := Tv.str_inv a1
  obtain rfl := Tv.int_inv a2
  obtain ⟨b, _, rfl, _⟩ := Tv.tup_inv a3
  obtain ⟨t, _, rfl, _⟩ := Tv.tup_inv a4
  exact ⟨a, b, t, rfl, h1, a3, a4⟩
theorem place_mk {H : Hp} {a : Addr} {sv : V} {b t : V} {p : PlD} (h : H a = some (.tup [sv, .int ((p.s1 : Int) - 1), b, t])) (hs : sv = .str (sortOf p.st)) (hb : Tv K H b (dBs p.bs)) (ht : Tv K H t (dNs p.ts)) : Tv K H (.ref a) (dPlace p) := by
  subst hs
  exact .tup (SqT.of h) (.cons (.str _) (.cons (.int _) (.cons hb (.cons ht .nil))))
def spPlaceYes (K : PySem.W.Frag) : Sp := fun vs H Q _ => ∃ (q : Nat) (v : V) (p : PlD), vs = [nV q, v] ∧ q ∈ fields ∧ Tv K H v (dPlace p) ∧ p.Good q ∧ ∀ H', Same H H' → Q (.bl true) H'
theorem ok_is_place (F : Fun K "is_place" "is_place" s_is_place f fd) (B : Blt mg) (gROOT : mg "ROOT" = some (.ref rt)) (tROOT : ∀ H, Tv K H (.ref rt) (dPlace root)) (h_is_start : Has P w K mg base 6 "is_start" s_is_start ["q", "thing"] spStart) (h_are_bends : Has P w K mg base 6 "are_bends" s_are_bends ["q", "thing"] (spBends K))
    (h_are_turns : Has P w K mg base 6 "are_turns" s_are_turns ["q", "thing", "many"] (spTurns K)) : FnOk P w K mg base CX0 7 f fd ["q", "thing"] (spPlaceYes K) := by
  refine F.ok sc_is_place (fun vs H Q E h => ?_) (fun cdv A outer s H vs Q E hr h => ?_)
  · obtain ⟨q, v, p, rfl, _⟩ := h
    rfl
  · obtain ⟨q, v, p, rfl, hq, hv, hp, k⟩ := h
    refine ⟨_, (pss_cons (ps_if (PW.pt (pw_or (pt_not (pt_val (pe_callB call_isi (by rfl) B.isi (by decide +kernel) (pa_cons (pv 1) (pa_cons (pe_bltn (v := .ty "tuple") (by rfl) B.tup (by decide +kernel) rfl) pa_nil))))) (pw_or1 (pt_cmpR opN_ne (pe_callB call_len_seq (by rfl) B.len (by decide +kernel) (pa_cons (pv 1) pa_nil)) pe_int (nomark _))))) (pss_one (ps_ret pe_bl)) pss_nil)
      (pss_cons (ps_asg (pv 1) (pg_tup (by rfl) (pgs_cons (pg_name (i := 2) sc_is_place.nd rfl (Or.inl rfl)) (pgs_cons (pg_name (i := 3) sc_is_place.nd rfl (Or.inl rfl)) (pgs_cons (pg_name (i := 4) sc_is_place.nd rfl (Or.inl rfl)) (pgs_cons (pg_name (i := 5) sc_is_place.nd rfl (Or.inl rfl)) pgs_nil))))))
      (pss_cons (ps_if (PW.pt (pw_or (pt_cmpR op_notIn_seq (pv 2) (pe_tup (pa_cons pe_str (pa_cons pe_str pa_nil))) (by rfl)) (pw_or (pt_not (pt_val (pe_callH h_is_start hr (by rfl) (pa_cons (pv 0) (pa_cons (pv 3) pa_nil))))) (pw_or1 (pt_not (pt_val (pe_callH h_are_bends hr (by rfl) (pa_cons (pv 0) (pa_cons (pv 4) pa_nil))))))))) (pss_one (ps_ret pe_bl)) pss_nil)
      (pss_cons (ps_if (pt_cmpR op_eq (pv 2) pe_str (nomark _)) (pss_one (ps_ret (pe_callH h_are_turns hr (by rfl) (pa_cons (pv 0) (pa_cons (pv 5) (pa_cons (pe_callB call_len_seq (by rfl) B.len (by decide +kernel) (pa_cons (pv 4) pa_nil)) pa_nil)))))) pss_nil)
      (pss_cons (ps_if (pt_cmpR (op_eqT hr) (pv 4) (pe_tup pa_nil) (nomark _)) (pss_one (ps_ret (pe_cmpR (op_eqT hr) (pv 1) (pe_gref (by rfl) gROOT) (nomark _)))) pss_nil)
      (pss_one (ps_ret (pe_callH h_are_turns hr (by rfl) (pa_cons (pv 0) (pa_cons (pv 5) (pa_cons (pe_op opN_sub (pe_callB call_len_seq (by rfl) B.len (by decide +kernel) (pa_cons (pv 4) pa_nil)) pe_int) pa_nil))))))))))), ?_⟩
    have hq0 : 0 < q := by
      have := fields_ge hq
      omega
    obtain ⟨a, b, t, rfl, hT, hB, hTs⟩ := place_inv hv
    obtain ⟨b', xs, eb, hX, hL⟩ := Tv.tup_inv hB
    cases eb
    have hxl := Tvs.length hL
    rw [List.length_map] at hxl
    have few := hp.few
    have len := hp.len
    refine ⟨_, rfl, _, _, _, _, _, rfl, .ty _, tyT hT, kit_tup, _, rfl, iteF ?_⟩
    refine ⟨_, rfl, a, _, rfl, .inr hT, 4, 4, rfl, rfl, _, rfl, iteF ?_⟩
    refine ⟨_, rfl, a, _, rfl, hT, rfl, _, _, rfl, _, _, rfl, _, _, rfl, _, _, rfl, rfl, ?_⟩
    refine ⟨_, rfl, (by show 2 ≤ sizeLine; decide), fun p1 np1 => ⟨p1, _, rfl, .inr (SqT.of upd_same), rfl, rfl, _, rfl, ?_⟩⟩
    have s1 := sameU (o := .tup [.str "straight", .str "bent"]) np1
    rw [inSort]
    refine iteF ⟨_, rfl, _, rfl, q, p.s1, rfl, hp.s1, _, rfl, iteF ?_⟩
    refine ⟨_, rfl, _, rfl, q, _, p.bs, rfl, hq0, Tv.sm s1 hB, hp.bs, by omega, fun H1 s2 => ⟨_, rfl, iteF ?_⟩⟩
    have s12 := s1.trans s2
    obtain ⟨st, ps1, bs, ts⟩ := p
    cases st
    · refine ⟨_, rfl, rfl, _, rfl, ?_⟩
      rw [show decide (V.str (sortOf false) = V.str "bent") = true from eqBB]
      refine iteT ⟨_, rfl, _, rfl, _, rfl, b, _, rfl, .inr (Same.sqT s12 hX), q, _, ts, ?_, Tv.sm s12 hTs, hp.ts, ?_, fun H2 s3 => k _ (s12.trans s3)⟩
      · have e : ts.length = bs.length := len
        rw [e, ← hxl]
        rfl
      · have e : ts.length = bs.length := len
        have few : bs.length ≤ 12 := few
        omega
    · refine ⟨_, rfl, rfl, _, rfl, ?_⟩
      rw [show decide (V.str (sortOf true) = V.str "bent") = false from eqSB]
      refine iteF ⟨_, rfl, Nat.zero_le _, fun p2 np2 => ⟨_, _, Tv.sm (snu s12 np2) hB, tv_nil upd_same, (sh_bs _).mono (by decide), sh_nil.mono (by decide), _, rfl, ?_⟩⟩
      have s3 := snu (o := .tup []) s12 np2
      unfold dBs
      rw [eqv_nil]
      have len : ts.length = bs.length - 1 := len
      have few : bs.length ≤ 12 := few
      have xl : xs.length = bs.length := hxl
      refine ite2 (fun e => ?_) (fun e => ?_)
      · have e1 : bs = [] := List.map_eq_nil_iff.mp (List.isEmpty_iff.mp e)
        subst e1
        refine ⟨_, rfl, _, _, Tv.sm s3 hv, tROOT _, (sh_place _).mono (by decide), (sh_place _).mono (by decide), to (k _ s3) ?_⟩
        rw [eqv_root _ rfl fun _ => ⟨hp.nil rfl rfl, List.length_eq_zero_iff.mp len⟩]
        rfl
      · have e1 : bs ≠ [] := fun z => e (by rw [show ({ st := true, s1 := ps1, bs := bs, ts := ts } : PlD).bs = bs from rfl, z]; rfl)
        have e2 : bs.length ≠ 0 := fun z => e1 (List.length_eq_zero_iff.mp z)
        refine ⟨_, rfl, _, rfl, _, rfl, b, _, rfl, .inr (Same.sqT s3 hX), xs.length, 1, rfl, rfl, by omega, q, _, ts, ?_, Tv.sm s3 hTs, hp.ts, by omega, fun H2 s4 => k _ (s3.trans s4)⟩
        rw [len, ← xl]
        rfl
def spPlaceCheck (K : PySem.W.Frag) : Sp := fun vs H Q _ => ∃ (q : Nat) (v : V) (p : PlD), vs = [nV q, v] ∧ q ∈ fields ∧ Tv K H v (dPlace p) ∧ p.Good q ∧ ∀ H', Same H H' → Q .non H'
theorem ok_check_place (F : Fun K "check_place" "check_place" s_check_place f fd) (h_is_place : Has P w K mg base 7 "is_place" s_is_place ["q", "thing"] (spPlaceYes K)) : FnOk P w K mg base CX0 8 f fd ["q", "thing"] (spPlaceCheck K) := by
  refine F.ok sc_check_place (fun vs H Q E h => ?_) (fun cdv A outer s H vs Q E hr h => ?_)
  · obtain ⟨q, v, s, rfl, _⟩ := h
    rfl
  · obtain ⟨q, v, s, rfl, hq, hv, hs, k⟩ := h
    refine ⟨_, (pss_one (ps_if (pt_not (pt_val (pe_callH h_is_place hr (by rfl) (pa_cons (pv 0) (pa_cons (pv 1) pa_nil))))) (pss_one ps_never) pss_nil)), ?_⟩
    exact ⟨_, rfl, _, rfl, q, v, s, rfl, hq, hv, hs, fun H1 s1 => ⟨_, rfl, iteF (k _ s1)⟩⟩
def spItems (K : PySem.W.Frag) : Sp := fun vs H Q _ => ∃ (q : Nat) (v : V) (p : PlD), vs = [v] ∧ Tv K H v (dPlace p) ∧ p.Good q ∧ ∀ (D : Addr) (xs : List V) (H' : Hp), Same H H' → H' D = some (.lst xs) → Tvs K H' xs (itemsD p) → Q (.ref D) H'
theorem ok_items_of (F : Fun K "items_of" "items_of" s_items_of f fd) (B : Blt mg) : FnOk P w K mg base CX0 1 f fd ["place"] (spItems K) := by
  refine F.ok sc_items_of (fun vs H Q E h => ?_) (fun cdv A outer s H vs Q E hr h => ?_)
  · obtain ⟨q, v, p, rfl, _⟩ := h
    rfl
  · obtain ⟨q, v, p, rfl, hv, hp, k⟩ := h
    refine ⟨_, (pss_cons (ps_asg (pv 0) (pg_tup (by rfl) (pgs_cons (pg_name (i := 1) sc_items_of.nd rfl (Or.inl rfl)) (pgs_cons (pg_name (i := 2) sc_items_of.nd rfl (Or.inl rfl)) (pgs_cons (pg_name (i := 3) sc_items_of.nd rfl (Or.inl rfl)) (pgs_cons (pg_name (i := 4) sc_items_of.nd rfl (Or.inl rfl)) pgs_nil))))))
      (pss_cons (ps_if (PW.pt (pw_and (pt_cmpR op_eq (pv 1) pe_str (nomark _)) (pw_and1 (pt_cmpR (op_eqT hr) (pv 3) (pe_tup pa_nil) (nomark _))))) (pss_one (ps_ret (pe_lst pa_nil))) pss_nil)
      (pss_cons (ps_set (i := 5) sc_items_of.nd rfl (Or.inl rfl) (pe_lst (pa_cons (pv 2) pa_nil)))
      (pss_cons (ps_for PassesOwn.never rfl (pi_enumT (by rfl) B.enum (pa_cons (pv 3) pa_nil)) (pg_tup (by rfl) (pgs_cons (pg_name (i := 6) sc_items_of.nd rfl (Or.inl rfl)) (pgs_cons (pg_name (i := 7) sc_items_of.nd rfl (Or.inl rfl)) pgs_nil))) (pss_cons (ps_expr (pe_bm PySem.F.plainAttrs_list PySem.F.slot_list_append PySem.F.type_list_append mt_append (pv 5) (pa_cons (pv 7) pa_nil)))
      (pss_one (ps_if (pt_cmpR opN_lt (pv 6) (pe_callB call_len_seq (by rfl) B.len (by decide +kernel) (pa_cons (pv 4) pa_nil)) (nomark _)) (pss_one (ps_expr (pe_bm PySem.F.plainAttrs_list PySem.F.slot_list_append PySem.F.type_list_append mt_append (pv 5) (pa_cons (pe_ix ix_tup (pv 4) (pv 6) (fun _ _ => rfl)) pa_nil)))) pss_nil))))
      (pss_one (ps_ret (pv 5))))))), ?_⟩
    rw [show L2.start N_items_of [v] = [some v, none, none, none, none, none, none, none] from rfl]
    obtain ⟨a, b, t, rfl, hT, hB, hTs⟩ := place_inv hv
    obtain ⟨b', xs, eb, hX, hL⟩ := Tv.tup_inv hB
    cases eb
    obtain ⟨t', et, hTT⟩ := Tv.ns hTs
    cases et
    have hxl := Tvs.length hL
    rw [List.length_map] at hxl
    have few := hp.few
    have len := hp.len
    refine ⟨_, rfl, a, _, rfl, hT, rfl, _, _, rfl, _, _, rfl, _, _, rfl, _, _, rfl, rfl, ?_⟩
    dsimp only
    refine seq_fin (¬ (p.st = true ∧ p.bs = [])) ?later (fun fin => ?main)
    case main =>
      refine ⟨_, rfl, rfl, _, rfl, ?_⟩
      rw [sortEq]
      refine ite2 (fun hst => ?_) (fun hst => iteF (fin H (Same.refl _) (fun z => hst z.1)))
      · refine ⟨_, rfl, Nat.zero_le _, fun p0 np0 => ⟨_, _, Tv.sm (sameU np0) hB, tv_nil upd_same, (sh_bs _).mono (by decide), sh_nil.mono (by decide), _, rfl, ?_⟩⟩
        have s0 := sameU (o := .tup []) np0
        unfold dBs
        rw [eqv_nil]
        refine ite2 (fun e => ?_) (fun e => fin _ s0 fun z => e (by rw [z.2]; rfl))
        have e1 : p.bs = [] := List.map_eq_nil_iff.mp (List.isEmpty_iff.mp e)
        refine ⟨Nat.zero_le _, fun D nD => k D [] _ (snu s0 nD) upd_same ?_⟩
        unfold itemsD
        rw [if_pos ⟨hst, e1⟩]
        exact .nil
    case later =>
      intro H1 s1 hne
      refine ⟨_, rfl, (by show 1 ≤ sizeLine; decide), fun D nD => ?_⟩
      have s2 := snu (o := .lst [.int ((p.s1 : Int) - 1)]) s1 nD
      have nD1 := none_back s1 nD
      refine ⟨_, rfl, b, _, rfl, Same.sqT s2 hX, ?_⟩
      refine for_enT (fun i σ H2 => i ≤ p.bs.length ∧ Same H H2 ∧ (∃ ys, H2 D = some (.lst ys) ∧ Tvs K H2 ys (dS p.s1 :: weave ((p.bs.take i).map bD) ((p.ts.take i).map dN))) ∧ ∃ y z, σ = [some (.ref a), some (.str (sortOf p.st)), some (.int ((p.s1 : Int) - 1)), some (.ref b), some (.ref t), some (.ref D), y, z])
        ⟨Nat.zero_le _, s2, ⟨_, upd_same, .cons (.int _) .nil⟩, none, none, rfl⟩ (fun i σ H2 p => Same.sqT p.2.1 hX) (fun i x T σ H2 hx pp nT => ?_) fun σ H2 pp => ?_
      · obtain ⟨hi, s3, ⟨ys, eD, ty⟩, y, z, rfl⟩ := pp
        obtain ⟨dd, hd, tv⟩ := Tvs.at hL hx
        rw [List.getElem?_map] at hd
        obtain ⟨bb, hb, rfl⟩ := Option.map_eq_some_iff.mp hd
        have hil := (List.getElem?_eq_some_iff.mp hb).1
        have yl := Tvs.length ty
        have hwl : (weave ((p.bs.take i).map bD) ((p.ts.take i).map dN)).length ≤ 30 := by
          have hq : (p.ts.take i).length ≤ (p.bs.take i).length := by
            rw [List.length_take, List.length_take, len]
            split <;> omega
          rw [weave_len _ _ (by rw [List.length_map, List.length_map]; exact hq), List.length_map, List.length_map]
          rw [List.length_take] at hq ⊢
          rw [List.length_take] at hq ⊢
          omega
        rw [List.length_cons] at yl
        have s4 := snu (o := .tup [nV i, x]) s3 nT
        have eD4 := (sameU (o := .tup [nV i, x]) nT) _ _ eD
        have kt := KeepT.wr (o := .lst (ys ++ [x])) (no_tup_lst eD4)
        have s5 : Same H _ := smut (o := .lst (ys ++ [x])) s4 nD1
        refine ⟨T, _, rfl, SqT.of upd_same, rfl, nV i, [x], rfl, x, [], rfl, rfl, ?_⟩
        refine ⟨_, rfl, .inl ⟨rfl, _, SqL.of eD4⟩, _, rfl, D, ys, x, rfl, rfl, eD4, small1000 (by omega), ?_⟩
        have tys : Tvs K (upd (upd H2 T (.tup [nV i, x])) D (.lst (ys ++ [x]))) ys _ := Tvs.keep ((Same.keepT (sameU nT)).trans kt) _ _ ty
        have txx : Tv K (upd (upd H2 T (.tup [nV i, x])) D (.lst (ys ++ [x]))) x (bD bb) := Tv.sm s5 (Tv.keep (KeepT.refl _) _ _ tv)
        have htk : (p.bs.take i).length = i := by rw [List.length_take]; omega
        refine ⟨_, rfl, _, rfl, t, _, rfl, .inr (Same.sqT s5 hTT), i, (p.ts.map nV).length, rfl, rfl, _, rfl, ?_⟩
        rw [List.length_map]
        by_cases hlt : i < p.ts.length
        · rw [decide_eq_true hlt]
          have eD5 : upd (upd H2 T (.tup [nV i, x])) D (.lst (ys ++ [x])) D = some (.lst (ys ++ [x])) := upd_same
          have kt2 := KeepT.wr (o := .lst (ys ++ [x] ++ [nV p.ts[i]])) (no_tup_lst eD5)
          refine iteT ⟨_, rfl, .inl ⟨rfl, _, SqL.of eD5⟩, _, rfl, _, rfl, t, _, i, nV p.ts[i], rfl, rfl, Same.sqT s5 hTT, atI_nat (by rw [List.getElem?_map, List.getElem?_eq_getElem hlt]; rfl), D, ys ++ [x], nV p.ts[i], rfl, rfl, eD5, small1000 (by rw [List.length_append, List.length_singleton]; omega), ?_⟩
          refine ⟨by omega, smut s5 nD1, ⟨_, upd_same, ?_⟩, some (nV i), some x, rfl⟩
          rw [take_snoc hb, take_snoc (List.getElem?_eq_getElem hlt), List.map_append, List.map_append, List.map_cons, List.map_cons, List.map_nil, List.map_nil, weave_snoc2 _ _ _ _ (by rw [List.length_map, List.length_map, List.length_take, List.length_take]; omega)]
          have r1 := Tvs.app (Tvs.app (Tvs.keep kt2 _ _ tys) (.cons (Tv.keep kt2 _ _ txx) .nil)) (.cons (.int (p.ts[i] : Nat)) .nil)
          rw [List.append_assoc, List.append_assoc] at r1
          rw [List.append_assoc]
          exact r1
        · rw [decide_eq_false hlt]
          refine iteF ⟨by omega, s5, ⟨_, upd_same, ?_⟩, some (nV i), some x, rfl⟩
          have ht : p.ts.length = i := by
            rw [len] at hlt ⊢
            split at hlt <;> split <;> first | omega | simp_all <;> omega
          rw [take_snoc hb, List.take_of_length_le (by omega : p.ts.length ≤ i + 1), ← List.take_of_length_le (by omega : p.ts.length ≤ i), List.map_append, List.map_cons, List.map_nil, weave_snoc1 _ _ _ (by rw [List.length_map, List.length_map, List.length_take, List.length_take]; omega)]
          exact Tvs.app tys (.cons txx .nil)
      · obtain ⟨hi, s3, ⟨ys, eD, ty⟩, y, z, rfl⟩ := pp
        rw [hxl, List.take_length, List.take_of_length_le (by rw [len]; split <;> omega)] at ty
        refine ⟨_, rfl, k D ys H2 s3 eD ?_⟩
        rw [itemsD_ne hne]
        exact ty
def spPlaceAt (K : PySem.W.Frag) : Sp := fun vs H Q _ => ∃ (q : Nat) (D : Addr) (xs : List V) (p : PlD), vs = [.ref D] ∧ p.Good q ∧ SqL K H D xs ∧ Tvs K H xs (itemsD p) ∧ ∀ (v : V) (H' : Hp), Same H H' → Tv K H' v (dPlace p) → Q v H'
theorem ok_place_at (F : Fun K "place_at" "place_at" s_place_at f fd) (B : Blt mg) (gROOT : mg "ROOT" = some (.ref rt)) (tROOT : ∀ H, Tv K H (.ref rt) (dPlace root)) : FnOk P w K mg base CX0 1 f fd ["items"] (spPlaceAt K) := by
  refine F.ok sc_place_at (fun vs H Q E h => ?_) (fun cdv A outer s H vs Q E hr h => ?_)
  · obtain ⟨q, D, xs, p, rfl, _⟩ := h
    rfl
  · obtain ⟨q, D, xs, p, rfl, hp, hD, hX, k⟩ := h
    refine ⟨_, (pss_cons (ps_if (pt_cmpR opN_eq (pe_callB call_len_seq (by rfl) B.len (by decide +kernel) (pa_cons (pv 0) pa_nil)) pe_int (nomark _)) (pss_one (ps_ret (pe_gref (by rfl) gROOT))) pss_nil)
      (pss_cons (ps_set (i := 1) sc_place_at.nd rfl (Or.inl rfl) (pe_callTy call_tuple_of (by rfl) B.tup (by decide +kernel) (pa_cons (pe_lc (own := [("number", 3)]) (by rfl) sc_place_at.nd (pi_range3 rfl B.range (pa_cons pe_int (pa_cons (pe_callB call_len_seq (by rfl) B.len (by decide +kernel) (pa_cons (pv 0) pa_nil)) (pa_cons pe_int pa_nil)))) (blkOk_by (own := [("number", 3)]) (N := N_place_at) (sc := defScope s_place_at) (by decide +kernel)) (fun _ _ _ _ _ => pg_name (i := 3) sc_place_at.nd rfl (Or.inl rfl)) (fun _ _ _ _ _ => pts_nil) (fun _ _ _ _ _ => (pe_ix (show IxR _ (rIxL K) from ix_list) (pv 0) (pv 3) (fun _ _ => rfl)))) pa_nil)))
      (pss_cons (ps_set (i := 2) sc_place_at.nd rfl (Or.inl rfl) (pe_callTy call_tuple_of (by rfl) B.tup (by decide +kernel) (pa_cons (pe_lc (own := [("number", 3)]) (by rfl) sc_place_at.nd (pi_range3 rfl B.range (pa_cons pe_int (pa_cons (pe_callB call_len_seq (by rfl) B.len (by decide +kernel) (pa_cons (pv 0) pa_nil)) (pa_cons pe_int pa_nil)))) (blkOk_by (own := [("number", 3)]) (N := N_place_at) (sc := defScope s_place_at) (by decide +kernel)) (fun _ _ _ _ _ => pg_name (i := 3) sc_place_at.nd rfl (Or.inl rfl)) (fun _ _ _ _ _ => pts_nil) (fun _ _ _ _ _ => (pe_ix (show IxR _ (rIxL K) from ix_list) (pv 0) (pv 3) (fun _ _ => rfl)))) pa_nil)))
      (pss_cons (ps_if (pt_cmpR opN_eq (pe_op opN_mod (pe_callB call_len_seq (by rfl) B.len (by decide +kernel) (pa_cons (pv 0) pa_nil)) pe_int) pe_int (nomark _)) (pss_one (ps_ret (pe_tup (pa_cons pe_str (pa_cons (pe_ix ix_list (pv 0) pe_int (fun _ _ => rfl)) (pa_cons (pv 1) (pa_cons (pv 2) pa_nil))))))) pss_nil)
      (pss_one (ps_ret (pe_tup (pa_cons pe_str (pa_cons (pe_ix ix_list (pv 0) pe_int (fun _ _ => rfl)) (pa_cons (pv 1) (pa_cons (pv 2) pa_nil))))))))))), ?_⟩
    have il := items_len hp
    have xl := Tvs.length hX
    rw [il] at xl
    have few := hp.few
    have len := hp.len
    refine ⟨_, rfl, D, _, rfl, .inl hD, xs.length, 0, rfl, rfl, _, rfl, ?_⟩
    by_cases h0 : p.st = true ∧ p.bs = []
    · have hx0 : xs.length = 0 := by
        rw [xl]
        unfold depthD
        rw [if_pos h0.1, h0.2]
        rfl
      rw [decide_eq_true hx0]
      refine iteT (k _ _ (Same.refl _) ?_)
      have e : p = root := by
        obtain ⟨st, s1, bs, ts⟩ := p
        obtain ⟨e1, e2⟩ := h0
        have e1 : st = true := e1
        have e2 : bs = [] := e2
        subst e1 e2
        have e3 : s1 = 0 := hp.nil rfl rfl
        have e4 : ts = [] := List.length_eq_zero_iff.mp len
        rw [e3, e4]
        rfl
      rw [e]
      exact tROOT _
    · have hit := itemsD_ne h0
      rw [hit] at hX
      have hx0 : xs.length ≠ 0 := by
        rw [Tvs.length hX]
        simp
      have hpos : p.st = true → p.bs.length ≠ 0 := fun z1 z2 => h0 ⟨z1, List.length_eq_zero_iff.mp z2⟩
      have m1 : (xs.length + 1 - 1) / 2 = p.bs.length := by
        rw [xl]
        unfold depthD
        split <;> omega
      have m2 : (xs.length + 1 - 2) / 2 = p.ts.length := by
        rw [xl, len]
        unfold depthD
        split <;> rename_i z
        · have := hpos z
          omega
        · omega
      have tsl : p.ts.length ≤ p.bs.length := by
        rw [len]
        split <;> omega
      have xs40 : xs.length ≤ 40 := by
        rw [xl]
        unfold depthD
        split <;> omega
      have wl : (weave (p.bs.map bD) (p.ts.map dN)).length = p.bs.length + p.ts.length := by
        rw [weave_len _ _ (by rw [List.length_map, List.length_map]; exact tsl), List.length_map, List.length_map]
      rw [decide_eq_false hx0]
      refine iteF ?_
      -- the bends
      refine ⟨_, rfl, D, _, rfl, .inl hD, 1, (xs.length : Int), 2, (xs.length + 1 - 1) / 2, rfl, rg_c 1 _ (by decide) xs40, fun D1 nD1 => ?_⟩
      refine lc_map (Itm := fun i x => x = .int (1 + (i : Nat) * 2)) walk_rangeC (by omega) nD1 (fun i H x H' y => y) (fun _ _ => trivial) (fun i y H => ∃ b, p.bs[i]? = some b ∧ Tv K H y (bD b)) (fun i y H H' kt ⟨b, hb, t⟩ => ⟨b, hb, Tv.keep kt _ _ t⟩) (fun i x H2 Rr Z hi hx s2 rr => ?_) fun ys H2 s2 e2 l2 r2 => ?_
      · subst hx
        have hib : i < p.bs.length := by omega
        have hw : (weave (p.bs.map bD) (p.ts.map dN))[2 * i]? = some (bD p.bs[i]) := by
          rw [weave_b _ _ _ (by rw [List.length_map]; exact hib) (by
            rw [List.length_map, len]
            split <;> rename_i z
            · omega
            · omega), List.getElem?_map, List.getElem?_eq_getElem hib]
          rfl
        obtain ⟨v, hv, tv⟩ := Tvs.get hX (i := 2 * i + 1) (d := bD p.bs[i]) hw
        refine ⟨rfl, iteT (B := Z H2) ⟨_, rfl, _, rfl, D, xs, _, v, rfl, rfl, ?_, ?_, rr _ _ (Same.refl _) ⟨_, List.getElem?_eq_getElem hib, Tv.sm s2 tv⟩⟩⟩
        · exact Same.sqL s2 hD
        · rw [show (1 : Int) + (i : Nat) * 2 = ((2 * i + 1 : Nat) : Int) by omega]
          exact atI_nat hv
      refine ⟨D1, ys, rfl, .inl ⟨SqL.of e2, fun p1 np1 => ?_⟩⟩
      have tb : Tv K H2 _ _ := Tv.int 0
      have s3 := snu (o := .tup ys) s2 np1
      have tbs : Tv K (upd H2 p1 (.tup ys)) (.ref p1) (dBs p.bs) := .tup (SqT.of upd_same) (Tvs.sm (sameU np1) (Tvs.ofAll (by rw [List.length_map]; omega) fun i v hv => by
        obtain ⟨b, hb, t⟩ := r2 i v hv
        exact ⟨_, by rw [List.getElem?_map, hb]; rfl, t⟩))
      refine ⟨_, rfl, D, _, rfl, .inl (Same.sqL s3 hD), 2, (xs.length : Int), 2, (xs.length + 1 - 2) / 2, rfl, rg_c 2 _ (by decide) xs40, fun D2 nD2 => ?_⟩
      refine lc_map (Itm := fun i x => x = .int (2 + (i : Nat) * 2)) walk_rangeC (by omega) nD2 (fun i H x H' y => y) (fun _ _ => trivial) (fun i y H => ∃ b, p.ts[i]? = some b ∧ Tv K H y (dN b)) (fun i y H H' kt ⟨b, hb, t⟩ => ⟨b, hb, Tv.keep kt _ _ t⟩) (fun i x H4 Rr Z hi hx s4 rr => ?_) fun zs H4 s4 e4 l4 r4 => ?_
      · subst hx
        have hib : i < p.ts.length := by omega
        have hw : (weave (p.bs.map bD) (p.ts.map dN))[2 * i + 1]? = some (dN p.ts[i]) := by
          rw [weave_t _ _ _ (by rw [List.length_map]; exact hib) (by
            rw [List.length_map]
            omega), List.getElem?_map, List.getElem?_eq_getElem hib]
          rfl
        obtain ⟨v, hv, tv⟩ := Tvs.get hX (i := 2 * i + 1 + 1) (d := dN p.ts[i]) hw
        refine ⟨rfl, iteT (B := Z H4) ⟨_, rfl, _, rfl, D, xs, _, v, rfl, rfl, ?_, ?_, rr _ _ (Same.refl _) ⟨_, List.getElem?_eq_getElem hib, Tv.sm (s3.trans s4) tv⟩⟩⟩
        · exact Same.sqL (s3.trans s4) hD
        · rw [show (2 : Int) + (i : Nat) * 2 = ((2 * i + 1 + 1 : Nat) : Int) by omega]
          exact atI_nat hv
      refine ⟨D2, zs, rfl, .inl ⟨SqL.of e4, fun p2 np2 => ?_⟩⟩
      have s5 := snu (o := .tup zs) (s3.trans s4) np2
      have tts : Tv K (upd H4 p2 (.tup zs)) (.ref p2) (dNs p.ts) := .tup (SqT.of upd_same) (Tvs.sm (sameU np2) (Tvs.ofAll (by rw [List.length_map]; omega) fun i v hv => by
        obtain ⟨b, hb, t⟩ := r4 i v hv
        exact ⟨_, by rw [List.getElem?_map, hb]; rfl, t⟩))
      have tb5 := Tv.sm (snu (o := .tup zs) s4 np2) tbs
      obtain ⟨v0, hv0, tv0⟩ := Tvs.get hX (i := 0) (d := dS p.s1) rfl
      obtain rfl := Tv.int_inv tv0
      refine ⟨_, rfl, D, _, rfl, .inl (Same.sqL s5 hD), xs.length, 2, rfl, rfl, (by show 0 < 2; decide), _, 1, rfl, rfl, _, rfl, ?_⟩
      cases hst : p.st
      · have hm : xs.length % 2 = 1 := by
          rw [xl]
          unfold depthD
          rw [hst, if_neg Bool.false_ne_true]
          omega
        rw [decide_eq_true hm]
        refine iteT ⟨_, rfl, D, xs, 0, _, rfl, rfl, Same.sqL s5 hD, atI_nat (j := 0) hv0, _, rfl, _, rfl, (by show 4 ≤ sizeLine; decide), fun p3 np3 => ?_⟩
        exact k _ _ (snu s5 np3) (place_mk upd_same (by rw [hst]; rfl) (Tv.sm (sameU np3) tb5) (Tv.sm (sameU np3) tts))
      · have hm : ¬ xs.length % 2 = 1 := by
          rw [xl]
          unfold depthD
          rw [hst, if_pos rfl]
          omega
        rw [decide_eq_false hm]
        refine iteF ⟨_, rfl, D, xs, 0, _, rfl, rfl, Same.sqL s5 hD, atI_nat (j := 0) hv0, _, rfl, _, rfl, (by show 4 ≤ sizeLine; decide), fun p3 np3 => ?_⟩
        exact k _ _ (snu s5 np3) (place_mk upd_same (by rw [hst]; rfl) (Tv.sm (sameU np3) tb5) (Tv.sm (sameU np3) tts))
end
end K32
/-! K32G: places of steps, ways between places. -/
namespace K32
set_option exponentiation.threshold 2000
open PySem PySem.Spec PyProof.Rows L2
abbrev s_row_step : Stmt := topS 51
abbrev N_row_step : List Str := ["place", "sort", "start", "bends", "turns"]
theorem sc_row_step : FnScope N_row_step ["place"] (defScope s_row_step) := ⟨rfl, rfl, rfl, by decide +kernel, rfl, by decide +kernel, by decide +kernel⟩
abbrev s_place_in : Stmt := topS 52
abbrev N_place_in : List Str := ["q", "step", "sort", "start", "bends", "turns", "last", "turn"]
theorem sc_place_in : FnScope N_place_in ["q", "step", "sort"] (defScope s_place_in) := ⟨rfl, rfl, rfl, by decide +kernel, rfl, by decide +kernel, by decide +kernel⟩
abbrev s_step_of_place : Stmt := topS 53
abbrev N_step_of_place : List Str := ["q", "place"]
theorem sc_step_of_place : FnScope N_step_of_place ["q", "place"] (defScope s_step_of_place) := ⟨rfl, rfl, rfl, by decide +kernel, rfl, by decide +kernel, by decide +kernel⟩
abbrev s_place_of : Stmt := topS 54
abbrev N_place_of : List Str := ["q", "step", "sort"]
theorem sc_place_of : FnScope N_place_of ["q", "step", "sort"] (defScope s_place_of) := ⟨rfl, rfl, rfl, by decide +kernel, rfl, by decide +kernel, by decide +kernel⟩
abbrev s_ahead : Stmt := topS 55
abbrev N_ahead : List Str := ["q", "place", "items"]
theorem sc_ahead : FnScope N_ahead ["q", "place"] (defScope s_ahead) := ⟨rfl, rfl, rfl, by decide +kernel, rfl, by decide +kernel, by decide +kernel⟩
abbrev s_depth : Stmt := topS 56
abbrev N_depth : List Str := ["q", "place"]
theorem sc_depth : FnScope N_depth ["q", "place"] (defScope s_depth) := ⟨rfl, rfl, rfl, by decide +kernel, rfl, by decide +kernel, by decide +kernel⟩
abbrev s_many_behind : Stmt := topS 57
abbrev N_many_behind : List Str := ["q", "place", "degree", "many", "_"]
theorem sc_many_behind : FnScope N_many_behind ["q", "place", "degree"] (defScope s_many_behind) := ⟨rfl, rfl, rfl, by decide +kernel, rfl, by decide +kernel, by decide +kernel⟩
abbrev s_nothing : Stmt := topS 59
abbrev N_nothing : List Str := []
theorem sc_nothing : FnScope N_nothing [] (defScope s_nothing) := ⟨rfl, rfl, rfl, by decide +kernel, rfl, by decide +kernel, by decide +kernel⟩
abbrev s_bend_degrees : Stmt := topS 60
abbrev N_bend_degrees : List Str := ["step", "bend"]
theorem sc_bend_degrees : FnScope N_bend_degrees ["step"] (defScope s_bend_degrees) := ⟨rfl, rfl, rfl, by decide +kernel, rfl, by decide +kernel, by decide +kernel⟩
abbrev s_degrees_of : Stmt := topS 61
abbrev N_degrees_of : List Str := ["q", "step"]
theorem sc_degrees_of : FnScope N_degrees_of ["q", "step"] (defScope s_degrees_of) := ⟨rfl, rfl, rfl, by decide +kernel, rfl, by decide +kernel, by decide +kernel⟩
def ident : Map6 := ⟨1, 0, 0, 0, 1, 0⟩
def noStep : StepD := ⟨0, [], [], ident⟩
/-- the straight place of a step -/
def placeOf (s : StepD) : PlD := ⟨true, s.s1, s.bs, s.ts⟩
def stepOf (p : PlD) : StepD := ⟨p.s1, p.bs, p.ts, ident⟩
theorem placeOf_good {q : Nat} {s : StepD} (g : s.Good q) : (placeOf s).Good q := ⟨g.s1, g.bs, g.ts, g.len, g.few, fun _ => g.nil⟩
theorem ident_good {q : Nat} (hq : q ∈ fields) : ident.Good q := by
  have hb := fields_ge hq
  refine ⟨?_, ?_, ?_, ?_, ?_, ?_, ?_⟩
  · show 1 < q; omega
  · show 0 < q; omega
  · show 0 < q; omega
  · show 0 < q; omega
  · show 1 < q; omega
  · show 0 < q; omega
  · have h : ∀ q ∈ fields, ft q ident.a ident.e ≠ ft q ident.b ident.d := by decide +kernel
    exact h q hq
abbrev rLenK (K : PySem.W.Frag) : List V → Hp → VK → Prop := fun xs H Q => ∃ p ys, xs = [.ref p] ∧ (SqL K H p ys ∨ SqT K H p ys) ∧ Q (.int ys.length) H
section
variable {P : Program} {w : World} {K : PySem.W.Frag} {mg : Str → Option Value} {base : Heap} {f d : Addr} {fd : FuncData} {rt nt it : Addr}
def spRow (K : PySem.W.Frag) : Sp := fun vs H Q _ => ∃ (v : V) (p : PlD), vs = [v] ∧ Tv K H v (dPlace p) ∧ p.st = true ∧ ∀ (u : V) (H' : Hp), Same H H' → Tv K H' u (dStep (stepOf p)) → Q u H'
theorem ok_row_step (F : Fun K "row_step" "row_step" s_row_step f fd) (gIDENTITY : mg "IDENTITY" = some (.ref it)) (tIDENTITY : ∀ H, Tv K H (.ref it) (dNs ident.nums)) : FnOk P w K mg base CX0 1 f fd ["place"] (spRow K) := by
  refine F.ok sc_row_step (fun vs H Q E h => ?_) (fun cdv A outer s H vs Q E hr h => ?_)
  · obtain ⟨v, p, rfl, _⟩ := h
    rfl
  · obtain ⟨v, p, rfl, hv, hst, k⟩ := h
    refine ⟨_, (pss_cons (ps_asg (pv 0) (pg_tup (by rfl) (pgs_cons (pg_name (i := 1) sc_row_step.nd rfl (Or.inl rfl)) (pgs_cons (pg_name (i := 2) sc_row_step.nd rfl (Or.inl rfl)) (pgs_cons (pg_name (i := 3) sc_row_step.nd rfl (Or.inl rfl)) (pgs_cons (pg_name (i := 4) sc_row_step.nd rfl (Or.inl rfl)) pgs_nil))))))
      (pss_cons (ps_if (pt_cmpR op_eq (pv 1) pe_str (nomark _)) (pss_one (ps_ret (pe_tup (pa_cons (pv 2) (pa_cons (pv 3) (pa_cons (pv 4) (pa_cons (pe_gref (by rfl) gIDENTITY) pa_nil))))))) pss_nil)
      pss_never)), ?_⟩
    obtain ⟨a, b, t, rfl, hT, hB, hTs⟩ := place_inv hv
    refine ⟨_, rfl, a, _, rfl, hT, rfl, _, _, rfl, _, _, rfl, _, _, rfl, _, _, rfl, rfl, ?_⟩
    refine ⟨_, rfl, rfl, _, rfl, ?_⟩
    rw [sortEq, hst]
    refine iteT ⟨_, rfl, _, rfl, _, rfl, (by show 4 ≤ sizeLine; decide), fun p1 np1 => k _ _ (sameU np1) ?_⟩
    exact .tup (SqT.of upd_same) (.cons (.int _) (.cons (Tv.sm (sameU np1) hB) (.cons (Tv.sm (sameU np1) hTs) (.cons (tIDENTITY _) .nil))))
def spPlaceIn (K : PySem.W.Frag) : Sp := fun vs H Q _ => ∃ (q : Nat) (v : V) (s : StepD), vs = [nV q, v, .str "straight"] ∧ Tv K H v (dStep s) ∧ ∀ (u : V) (H' : Hp), Same H H' → Tv K H' u (dPlace (placeOf s)) → Q u H'
theorem ok_place_in (F : Fun K "place_in" "place_in" s_place_in f fd) : FnOk P w K mg base CX0 1 f fd ["q", "step", "sort"] (spPlaceIn K) := by
  refine F.ok sc_place_in (fun vs H Q E h => ?_) (fun cdv A outer s H vs Q E hr h => ?_)
  · obtain ⟨q, v, s, rfl, _⟩ := h
    rfl
  · obtain ⟨q, v, s, rfl, hv, k⟩ := h
    refine ⟨_, (pss_cons (ps_asg (pv 1) (pg_tup (by rfl) (pgs_cons (pg_name (i := 3) sc_place_in.nd rfl (Or.inl rfl)) (pgs_cons (pg_name (i := 4) sc_place_in.nd rfl (Or.inl rfl)) (pgs_cons (pg_name (i := 5) sc_place_in.nd rfl (Or.inl rfl)) (pgs_cons (pg_name (i := 6) sc_place_in.nd rfl (Or.inl rfl)) pgs_nil))))))
      (pss_cons (ps_if (pt_cmpR op_eq (pv 2) pe_str (nomark _)) (pss_one (ps_ret (pe_tup (pa_cons pe_str (pa_cons (pv 3) (pa_cons (pv 4) (pa_cons (pv 5) pa_nil))))))) pss_nil)
      pss_never)), ?_⟩
    obtain ⟨a, b, t, m, rfl, hT, hB, hTs, hM⟩ := step_inv hv
    refine ⟨_, rfl, a, _, rfl, hT, rfl, _, _, rfl, _, _, rfl, _, _, rfl, _, _, rfl, rfl, ?_⟩
    refine ⟨_, rfl, rfl, _, rfl, ?_⟩
    rw [show decide (V.str "straight" = V.str "straight") = true from eqSS]
    refine iteT ⟨_, rfl, _, rfl, _, rfl, (by show 4 ≤ sizeLine; decide), fun p1 np1 => k _ _ (sameU np1) ?_⟩
    exact place_mk (p := placeOf s) upd_same rfl (Tv.sm (sameU np1) hB) (Tv.sm (sameU np1) hTs)
def spStepOfPlace (K : PySem.W.Frag) : Sp := fun vs H Q _ => ∃ (q : Nat) (v : V) (p : PlD), vs = [nV q, v] ∧ q ∈ fields ∧ Tv K H v (dPlace p) ∧ p.Good q ∧ p.st = true ∧ ∀ (u : V) (H' : Hp), Same H H' → Tv K H' u (dStep (stepOf p)) → Q u H'
theorem ok_step_of_place (F : Fun K "step_of_place" "step_of_place" s_step_of_place f fd) (h_check_place : Has P w K mg base 8 "check_place" s_check_place ["q", "thing"] (spPlaceCheck K)) (h_row_step : Has P w K mg base 8 "row_step" s_row_step ["place"] (spRow K)) : FnOk P w K mg base CX0 9 f fd ["q", "place"] (spStepOfPlace K) := by
  refine F.ok sc_step_of_place (fun vs H Q E h => ?_) (fun cdv A outer s H vs Q E hr h => ?_)
  · obtain ⟨q, v, p, rfl, _⟩ := h
    rfl
  · obtain ⟨q, v, p, rfl, hq, hv, hp, hst, k⟩ := h
    refine ⟨_, (pss_cons (ps_expr (pe_callH h_check_place hr (by rfl) (pa_cons (pv 0) (pa_cons (pv 1) pa_nil))))
      (pss_one (ps_ret (pe_callH h_row_step hr (by rfl) (pa_cons (pv 1) pa_nil))))), ?_⟩
    exact ⟨_, rfl, _, rfl, q, v, p, rfl, hq, hv, hp, fun H1 s1 => ⟨_, rfl, v, p, rfl, Tv.sm s1 hv, hst, fun u H2 s2 tu => k _ _ (s1.trans s2) tu⟩⟩
def spPlaceOf (K : PySem.W.Frag) : Sp := fun vs H Q _ => ∃ (q : Nat) (v : V) (s : StepD), vs = [nV q, v, .str "straight"] ∧ q ∈ fields ∧ Tv K H v (dStep s) ∧ s.Good q ∧ ∀ (u : V) (H' : Hp), Same H H' → Tv K H' u (dPlace (placeOf s)) → Q u H'
theorem ok_place_of (F : Fun K "place_of" "place_of" s_place_of f fd) (h_check_step : Has P w K mg base 8 "check_step" s_check_step ["q", "thing"] (spCheck K)) (h_place_in : Has P w K mg base 8 "place_in" s_place_in ["q", "step", "sort"] (spPlaceIn K)) : FnOk P w K mg base CX0 9 f fd ["q", "step", "sort"] (spPlaceOf K) := by
  refine F.ok sc_place_of (fun vs H Q E h => ?_) (fun cdv A outer s H vs Q E hr h => ?_)
  · obtain ⟨q, v, s, rfl, _⟩ := h
    rfl
  · obtain ⟨q, v, s, rfl, hq, hv, hs, k⟩ := h
    refine ⟨_, (pss_cons (ps_expr (pe_callH h_check_step hr (by rfl) (pa_cons (pv 0) (pa_cons (pv 1) pa_nil))))
      (pss_cons (ps_if (pt_cmpR op_notIn_seq (pv 2) (pe_tup (pa_cons pe_str (pa_cons pe_str pa_nil))) (by rfl)) (pss_one ps_never) pss_nil)
      (pss_one (ps_ret (pe_callH h_place_in hr (by rfl) (pa_cons (pv 0) (pa_cons (pv 1) (pa_cons (pv 2) pa_nil)))))))), ?_⟩
    refine ⟨_, rfl, _, rfl, q, v, s, rfl, hq, hv, hs, fun H1 s1 => ?_⟩
    refine ⟨_, rfl, (by show 2 ≤ sizeLine; decide), fun p1 np1 => ⟨p1, _, rfl, .inr (SqT.of upd_same), rfl, rfl, _, rfl, ?_⟩⟩
    have s2 := snu (o := .tup [.str "straight", .str "bent"]) s1 np1
    rw [show inV (V.str "straight") [.str "straight", .str "bent"] = true from inSort true]
    refine iteF ⟨_, rfl, _, rfl, _, rfl, q, v, s, rfl, Tv.sm s2 hv, fun u H2 s3 tu => k _ _ (s2.trans s3) tu⟩
def spAhead (K : PySem.W.Frag) : Sp := fun vs H Q _ => ∃ (q : Nat) (v : V) (p : PlD), vs = [nV q, v] ∧ q ∈ fields ∧ Tv K H v (dPlace p) ∧ p.Good q ∧ ¬ (p.st = true ∧ p.bs = []) ∧ ∀ (u : V) (H' : Hp), Same H H' → Tv K H' u (dPlace (aheadD p)) → Q u H'
theorem ok_ahead (F : Fun K "ahead" "ahead" s_ahead f fd) (h_check_place : Has P w K mg base 8 "check_place" s_check_place ["q", "thing"] (spPlaceCheck K)) (h_items_of : Has P w K mg base 8 "items_of" s_items_of ["place"] (spItems K)) (h_place_at : Has P w K mg base 8 "place_at" s_place_at ["items"] (spPlaceAt K)) (B : Blt mg) : FnOk P w K mg base CX0 9 f fd ["q", "place"] (spAhead K) := by
  refine F.ok sc_ahead (fun vs H Q E h => ?_) (fun cdv A outer s H vs Q E hr h => ?_)
  · obtain ⟨q, v, p, rfl, _⟩ := h
    rfl
  · obtain ⟨q, v, p, rfl, hq, hv, hp, hne, k⟩ := h
    refine ⟨_, (pss_cons (ps_expr (pe_callH h_check_place hr (by rfl) (pa_cons (pv 0) (pa_cons (pv 1) pa_nil))))
      (pss_cons (ps_set (i := 2) sc_ahead.nd rfl (Or.inl rfl) (pe_callH h_items_of hr (by rfl) (pa_cons (pv 1) pa_nil)))
      (pss_cons (ps_if (pt_cmpR opN_eq (pe_callB call_len_seq (by rfl) B.len (by decide +kernel) (pa_cons (pv 2) pa_nil)) pe_int (nomark _)) (pss_one (ps_ret pe_non)) pss_nil)
      (pss_one (ps_ret (pe_callH h_place_at hr (by rfl) (pa_cons (pe_slice sl_list (pv 2) po_none (po_some (pe_un un_neg pe_int))) pa_nil))))))), ?_⟩
    refine ⟨_, rfl, _, rfl, q, v, p, rfl, hq, hv, hp, fun H1 s1 => ?_⟩
    refine ⟨_, rfl, q, v, p, rfl, Tv.sm s1 hv, hp, fun D xs H2 s2 eD tx => ?_⟩
    have hx0 : xs.length ≠ 0 := by
      rw [Tvs.length tx, itemsD_ne hne]
      simp
    refine ⟨_, rfl, D, _, rfl, .inl (SqL.of eD), xs.length, 0, rfl, rfl, _, rfl, ?_⟩
    rw [decide_eq_false hx0]
    refine iteF ⟨_, rfl, 1, rfl, _, rfl, D, xs, rfl, SqL.of eD, fun p1 np1 => ?_⟩
    rw [show cutV xs none (some (-1)) = xs.take (xs.length - 1) from cut_init xs] at *
    have s12 := s1.trans s2
    refine ⟨q, p1, _, aheadD p, rfl, aheadD_good hp hne, SqL.of upd_same, ?_, fun u H3 s3 tu => k _ _ ((snu s12 np1).trans s3) tu⟩
    rw [items_ahead hp hne, List.dropLast_eq_take, ← Tvs.length tx]
    exact Tvs.take _ (Tvs.sm (sameU np1) tx)
def spDepth (K : PySem.W.Frag) : Sp := fun vs H Q _ => ∃ (q : Nat) (v : V) (p : PlD), vs = [nV q, v] ∧ q ∈ fields ∧ Tv K H v (dPlace p) ∧ p.Good q ∧ ∀ (H' : Hp), Same H H' → Q (nV (depthD p)) H'
theorem ok_depth (F : Fun K "depth" "depth" s_depth f fd) (B : Blt mg) (h_check_place : Has P w K mg base 8 "check_place" s_check_place ["q", "thing"] (spPlaceCheck K)) (h_items_of : Has P w K mg base 8 "items_of" s_items_of ["place"] (spItems K)) : FnOk P w K mg base CX0 9 f fd ["q", "place"] (spDepth K) := by
  refine F.ok sc_depth (fun vs H Q E h => ?_) (fun cdv A outer s H vs Q E hr h => ?_)
  · obtain ⟨q, v, p, rfl, _⟩ := h
    rfl
  · obtain ⟨q, v, p, rfl, hq, hv, hp, k⟩ := h
    refine ⟨_, (pss_cons (ps_expr (pe_callH h_check_place hr (by rfl) (pa_cons (pv 0) (pa_cons (pv 1) pa_nil))))
      (pss_one (ps_ret (pe_callB call_len_seq (by rfl) B.len (by decide +kernel) (pa_cons (pe_callH h_items_of hr (by rfl) (pa_cons (pv 1) pa_nil)) pa_nil))))), ?_⟩
    refine ⟨_, rfl, _, rfl, q, v, p, rfl, hq, hv, hp, fun H1 s1 => ?_⟩
    refine ⟨_, rfl, q, v, p, rfl, Tv.sm s1 hv, hp, fun D xs H2 s2 eD tx => ?_⟩
    refine ⟨D, _, rfl, .inl (SqL.of eD), to (k _ (s1.trans s2)) ?_⟩
    rw [← items_len hp, ← Tvs.length tx]
def behindD (q : Nat) (p : PlD) (d : Nat) : Nat := if p.st then (if p.bs = [] then q + 1 else q) else q ^ (d - 1) - 1
def spBehind (K : PySem.W.Frag) : Sp := fun vs H Q _ => ∃ (q : Nat) (v : V) (p : PlD) (d : Nat), vs = [nV q, v, nV d] ∧ q ∈ fields ∧ Tv K H v (dPlace p) ∧ p.Good q ∧ 1 ≤ d ∧ d ≤ 6 ∧ ∀ (H' : Hp), Same H H' → Q (nV (behindD q p d)) H'
theorem ok_many_behind (F : Fun K "many_behind" "many_behind" s_many_behind f fd) (B : Blt mg) (gROOT : mg "ROOT" = some (.ref rt)) (tROOT : ∀ H, Tv K H (.ref rt) (dPlace root)) (h_check_place : Has P w K mg base 8 "check_place" s_check_place ["q", "thing"] (spPlaceCheck K)) : FnOk P w K mg base CX0 9 f fd ["q", "place", "degree"] (spBehind K) := by
  refine F.ok sc_many_behind (fun vs H Q E h => ?_) (fun cdv A outer s H vs Q E hr h => ?_)
  · obtain ⟨q, v, p, d, rfl, _⟩ := h
    rfl
  · obtain ⟨q, v, p, d, rfl, hq, hv, hp, d1, d6, k⟩ := h
    refine ⟨_, (pss_cons (ps_expr (pe_callH h_check_place hr (by rfl) (pa_cons (pv 0) (pa_cons (pv 1) pa_nil))))
      (pss_cons (ps_if (pt_cmpR op_eq (pe_ix ix_tup (pv 1) pe_int (fun _ _ => rfl)) pe_str (nomark _)) (pss_one (ps_ret (pe_ifExp (pt_cmpR (op_eqT hr) (pv 1) (pe_gref (by rfl) gROOT) (nomark _)) (pe_op opN_add (pv 0) pe_int) (pv 0)))) pss_nil)
      (pss_cons (ps_set (i := 3) sc_many_behind.nd rfl (Or.inl rfl) pe_int)
      (pss_cons (ps_for PassesOwn.never rfl (pi_range1 rfl B.range (pa_cons (pe_op opN_sub (pv 2) pe_int) pa_nil)) (pg_name (i := 4) sc_many_behind.nd rfl (Or.inl rfl)) (pss_one (ps_set (i := 3) sc_many_behind.nd rfl (Or.inl rfl) (pe_op opN_mul (pv 3) (pv 0)))))
      (pss_one (ps_ret (pe_op opN_sub (pv 3) pe_int))))))), ?_⟩
    have hqb := fields_ge hq
    have bq : Big q := big9 (by omega)
    obtain ⟨a, b, t, e, hT, hB, hTs⟩ := place_inv hv
    subst e
    refine ⟨_, rfl, _, rfl, q, _, p, rfl, hq, hv, hp, fun H1 s1 => ?_⟩
    refine ⟨_, rfl, a, _, _, _, rfl, rfl, Same.sqT s1 hT, atI_nat (j := 0) rfl, rfl, _, rfl, ?_⟩
    rw [sortEq]
    have len := hp.len
    refine ite2 (fun hst => ?_) (fun hst => ?_)
    · refine ⟨_, rfl, _, _, Tv.sm s1 hv, tROOT _, (sh_place _).mono (by decide), (sh_place _).mono (by decide), _, rfl, ?_⟩
      rw [eqv_root _ hst fun e => ⟨hp.nil hst e, List.length_eq_zero_iff.mp (by rw [len, if_pos hst, e]; rfl)⟩]
      refine ite2 (fun e => ?_) (fun e => ?_)
      · refine ⟨_, rfl, q, 1, rfl, rfl, to (k _ s1) ?_⟩
        unfold behindD
        rw [if_pos hst, if_pos (of_decide_eq_true e)]
      · refine ⟨_, rfl, to (k _ s1) ?_⟩
        unfold behindD
        rw [if_pos hst, if_neg (fun z => e (decide_eq_true z))]
    · have qp : ∀ i, i ≤ 5 → q ^ i < 2 ^ 25 := fun i hi => by
        have h : ∀ q ∈ fields, ∀ i ≤ 5, q ^ i < 2 ^ 25 := by decide +kernel
        exact h q hq i hi
      refine ⟨_, rfl, d, 1, rfl, rfl, d1, _, rfl, by omega, by omega, ?_⟩
      refine for_it walk_range (fun i σ H2 => H2 = H1 ∧ ∃ z, σ = [some (nV q), some (.ref a), some (nV d), some (nV (q ^ i)), z]) ⟨rfl, none, rfl⟩ (fun _ _ _ _ _ => trivial) (fun i x σ H2 H3 hi p y => ?_) fun σ H2 p => ?_
      · obtain ⟨rfl, rfl⟩ := y
        obtain ⟨rfl, z, rfl⟩ := p
        rw [Int.toNat_natCast] at hi
        refine ⟨_, rfl, _, rfl, _, q, rfl, rfl, ⟨bigE (qp i (by omega)) (by decide), bq⟩, rfl, some (.int (0 + (i : Int))), ?_⟩
        rw [Nat.pow_succ]
        rfl
      · obtain ⟨rfl, z, rfl⟩ := p
        rw [Int.toNat_natCast]
        refine ⟨_, rfl, q ^ (d - 1), 1, rfl, rfl, Nat.pow_pos (by omega), to (k _ s1) ?_⟩
        unfold behindD
        rw [if_neg hst]
def spNothing (K : PySem.W.Frag) : Sp := fun vs H Q _ => vs = [] ∧ ∀ u, Tv K H u (dStep noStep) → Q u H
theorem ok_nothing (F : Fun K "nothing" "nothing" s_nothing f fd) (gNOTHING : mg "NOTHING" = some (.ref nt)) (tNOTHING : ∀ H, Tv K H (.ref nt) (dStep noStep)) : FnOk P w K mg base CX0 1 f fd [] (spNothing K) := by
  refine F.ok sc_nothing (fun vs H Q E h => ?_) (fun cdv A outer s H vs Q E hr h => ?_)
  · obtain ⟨rfl, _⟩ := h
    rfl
  · obtain ⟨rfl, k⟩ := h
    refine ⟨_, (pss_one (ps_ret (pe_gref (by rfl) gNOTHING))), ?_⟩
    exact k _ (tNOTHING _)
def spDeg (K : PySem.W.Frag) : Sp := fun vs H Q _ => ∃ (v : V) (s : StepD), vs = [v] ∧ Tv K H v (dStep s) ∧ s.bs.length ≤ 12 ∧ ∀ (u : V) (H' : Hp), Same H H' → Tv K H' u (dNs (s.bs.map Bend.deg)) → Q u H'
theorem ok_bend_degrees (F : Fun K "bend_degrees" "bend_degrees" s_bend_degrees f fd) (B : Blt mg) : FnOk P w K mg base CX0 1 f fd ["step"] (spDeg K) := by
  refine F.ok sc_bend_degrees (fun vs H Q E h => ?_) (fun cdv A outer s H vs Q E hr h => ?_)
  · obtain ⟨v, s, rfl, _⟩ := h
    rfl
  · obtain ⟨v, s, rfl, hv, few, k⟩ := h
    refine ⟨_, (pss_one (ps_ret (pe_callTy call_tuple_of (by rfl) B.tup (by decide +kernel) (pa_cons (pe_lc (own := [("bend", 1)]) (by rfl) sc_bend_degrees.nd (pi_tup (pe_ix ix_tup (pv 0) pe_int (fun _ _ => rfl))) (blkOk_by (own := [("bend", 1)]) (N := N_bend_degrees) (sc := defScope s_bend_degrees) (by decide +kernel)) (fun _ _ _ _ _ => pg_name (i := 1) sc_bend_degrees.nd rfl (Or.inl rfl)) (fun _ _ _ _ _ => pts_nil) (fun _ _ _ _ _ => (pe_op opN_sub (pe_callB (show CallR _ (.builtin "len") (rLenK K) from call_len_seq) (by rfl) B.len (by decide +kernel) (pa_cons (pv 1) pa_nil)) pe_int))) pa_nil)))), ?_⟩
    obtain ⟨a, b, t, m, rfl, hT, hB, hTs, hM⟩ := step_inv hv
    obtain ⟨b', xs, eb, hX, hL⟩ := Tv.tup_inv hB
    cases eb
    have hxl := Tvs.length hL
    rw [List.length_map] at hxl
    refine ⟨_, rfl, a, _, _, _, rfl, rfl, hT, atI_nat (j := 1) rfl, b, rfl, ⟨_, hX⟩, fun D nD => ?_⟩
    refine lc_map (Itm := fun i x => xs[i]? = some x) walk_tup (by omega) nD (fun i H x H' y => y) (fun H s => Same.sqT s hX) (fun i y H => ∃ b, s.bs[i]? = some b ∧ Tv K H y (dN b.deg)) (fun i y H H' kt ⟨b, hb, t⟩ => ⟨b, hb, Tv.keep kt _ _ t⟩) (fun i x H2 Rr Z hi hx s2 rr => ?_) fun ys H2 s2 e2 l2 r2 => ?_
    · obtain ⟨d, hd, tv⟩ := Tvs.at hL hx
      rw [List.getElem?_map] at hd
      obtain ⟨bb, hb, rfl⟩ := Option.map_eq_some_iff.mp hd
      obtain ⟨c, rfl, hC⟩ := Tv.ns tv
      have hcl : (bb.nums.map nV).length = bb.deg + 1 := by rw [List.length_map, bb.nums_len]
      refine ⟨rfl, iteT (B := Z H2) ⟨_, rfl, c, _, rfl, .inr (Same.sqT s2 hC), (bb.nums.map nV).length, 1, rfl, rfl, by omega, rr _ _ (Same.refl _) ⟨bb, hb, ?_⟩⟩⟩
      show Tv K H2 (nV ((bb.nums.map nV).length - 1)) _
      rw [hcl, Nat.add_sub_cancel]
      exact .int _
    · refine ⟨D, ys, rfl, .inl ⟨SqL.of e2, fun p1 np1 => k _ _ (snu s2 np1) ?_⟩⟩
      refine .tup (SqT.of upd_same) (Tvs.sm (sameU np1) (Tvs.ofAll (by rw [List.length_map, List.length_map]; omega) fun i v hv => ?_))
      obtain ⟨bb, hb, t⟩ := r2 i v hv
      exact ⟨_, by rw [List.getElem?_map, List.getElem?_map, hb]; rfl, t⟩
def spDegs (K : PySem.W.Frag) : Sp := fun vs H Q _ => ∃ (q : Nat) (v : V) (s : StepD), vs = [nV q, v] ∧ q ∈ fields ∧ Tv K H v (dStep s) ∧ s.Good q ∧ ∀ (u : V) (H' : Hp), Same H H' → Tv K H' u (dNs (s.bs.map Bend.deg)) → Q u H'
theorem ok_degrees_of (F : Fun K "degrees_of" "degrees_of" s_degrees_of f fd) (h_check_step : Has P w K mg base 8 "check_step" s_check_step ["q", "thing"] (spCheck K)) (h_bend_degrees : Has P w K mg base 8 "bend_degrees" s_bend_degrees ["step"] (spDeg K)) : FnOk P w K mg base CX0 9 f fd ["q", "step"] (spDegs K) := by
  refine F.ok sc_degrees_of (fun vs H Q E h => ?_) (fun cdv A outer s H vs Q E hr h => ?_)
  · obtain ⟨q, v, s, rfl, _⟩ := h
    rfl
  · obtain ⟨q, v, s, rfl, hq, hv, hs, k⟩ := h
    refine ⟨_, (pss_cons (ps_expr (pe_callH h_check_step hr (by rfl) (pa_cons (pv 0) (pa_cons (pv 1) pa_nil))))
      (pss_one (ps_ret (pe_callH h_bend_degrees hr (by rfl) (pa_cons (pv 1) pa_nil))))), ?_⟩
    exact ⟨_, rfl, _, rfl, q, v, s, rfl, hq, hv, hs, fun H1 s1 => ⟨_, rfl, v, s, rfl, Tv.sm s1 hv, hs.few, fun u H2 s2 tu => k _ _ (s1.trans s2) tu⟩⟩
end
end K32
/-! K32L: the deck and what is drawn. -/
namespace K32
set_option exponentiation.threshold 2000
open PySem PySem.Spec PyProof.Rows L2
abbrev s__law_deck : Stmt := topS 63
abbrev N__law_deck : List Str := ["_law_script", "_law_mixed", "_law_cell"]
theorem sc__law_deck : FnScope N__law_deck ["_law_script"] (defScope s__law_deck) := ⟨rfl, rfl, rfl, by decide +kernel, rfl, by decide +kernel, by decide +kernel⟩
abbrev s__law_draw : Stmt := topS 64
abbrev N__law_draw : List Str := ["_law_deck_here", "_law_many", "_law_number", "_law_cell"]
theorem sc__law_draw : FnScope N__law_draw ["_law_deck_here", "_law_many"] (defScope s__law_draw) := ⟨rfl, rfl, rfl, by decide +kernel, rfl, by decide +kernel, by decide +kernel⟩
abbrev s__law_pick : Stmt := topS 65
abbrev N__law_pick : List Str := ["_law_deck_here", "_law_some"]
theorem sc__law_pick : FnScope N__law_pick ["_law_deck_here", "_law_some"] (defScope s__law_pick) := ⟨rfl, rfl, rfl, by decide +kernel, rfl, by decide +kernel, by decide +kernel⟩
abbrev s__law_some_field : Stmt := topS 69
abbrev N__law_some_field : List Str := ["_law_deck_here"]
theorem sc__law_some_field : FnScope N__law_some_field ["_law_deck_here"] (defScope s__law_some_field) := ⟨rfl, rfl, rfl, by decide +kernel, rfl, by decide +kernel, by decide +kernel⟩
abbrev s__law_great : Stmt := topS 70
abbrev N__law_great : List Str := ["_law_deck_here", "_law_many", "_law_number", "_law_turn"]
theorem sc__law_great : FnScope N__law_great ["_law_deck_here", "_law_many"] (defScope s__law_great) := ⟨rfl, rfl, rfl, by decide +kernel, rfl, by decide +kernel, by decide +kernel⟩
abbrev s__law_edge : Stmt := topS 71
abbrev N__law_edge : List Str := ["_law_deck_here", "_law_many", "_law_way"]
theorem sc__law_edge : FnScope N__law_edge ["_law_deck_here", "_law_many"] (defScope s__law_edge) := ⟨rfl, rfl, rfl, by decide +kernel, rfl, by decide +kernel, by decide +kernel⟩
abbrev s__law_power : Stmt := topS 72
abbrev N__law_power : List Str := ["_law_number", "_law_exponent", "_law_found", "_law_turn"]
theorem sc__law_power : FnScope N__law_power ["_law_number", "_law_exponent"] (defScope s__law_power) := ⟨rfl, rfl, rfl, by decide +kernel, rfl, by decide +kernel, by decide +kernel⟩
abbrev s__law_many_places : Stmt := topS 73
abbrev N__law_many_places : List Str := ["_law_q", "_law_degrees", "_law_found", "_law_degree"]
theorem sc__law_many_places : FnScope N__law_many_places ["_law_q", "_law_degrees"] (defScope s__law_many_places) := ⟨rfl, rfl, rfl, by decide +kernel, rfl, by decide +kernel, by decide +kernel⟩
def dkv (c : Addr) (m d : Int) : List (Key × V) := [(.inr "cells", .ref c), (.inr "mixed", .int m), (.inr "draws", .int d)]
theorem k_cm : ¬ (Sum.inr "cells" : Key) = (Sum.inr "mixed" : Key) := by decide +kernel
theorem k_cd : ¬ (Sum.inr "cells" : Key) = (Sum.inr "draws" : Key) := by decide +kernel
theorem k_md : ¬ (Sum.inr "mixed" : Key) = (Sum.inr "draws" : Key) := by decide +kernel
theorem get_c {c : Addr} {m d : Int} : valV (dkv c m d) (.inr "cells") = some (.ref c) := valV_pos rfl
theorem get_m {c : Addr} {m d : Int} : valV (dkv c m d) (.inr "mixed") = some (.int m) := (valV_neg k_cm).trans (valV_pos rfl)
theorem get_d {c : Addr} {m d : Int} : valV (dkv c m d) (.inr "draws") = some (.int d) := (valV_neg k_cd).trans ((valV_neg k_md).trans (valV_pos rfl))
theorem put_d {c : Addr} {m d e : Int} : putK (dkv c m d) (.inr "draws") (.int e) = dkv c m e := by
  unfold putK dkv
  rw [if_pos (by simp)]
  simp only [List.map_cons, List.map_nil, if_neg k_cd, if_neg k_md, if_true]
def Deck (H : Hp) (dk c : Addr) : Prop := ∃ (ns : List Int) (m d : Int), H dk = some (.dK (dkv c m d)) ∧ H c = some (.lst (ns.map V.int)) ∧ ns.length ≤ 63
def Exc (dk c : Addr) (H H' : Hp) : Prop := ∀ a o, H a = some o → a ≠ dk → a ≠ c → H' a = some o
theorem Exc.refl (dk c : Addr) (H : Hp) : Exc dk c H H := fun _ _ h _ _ => h
theorem Exc.trans {dk c : Addr} {H H1 H2 : Hp} (a : Exc dk c H H1) (b : Exc dk c H1 H2) : Exc dk c H H2 := fun x o h h1 h2 => b x o (a x o h h1 h2) h1 h2
theorem excS {dk c : Addr} {H H' : Hp} (s : Same H H') : Exc dk c H H' := fun x o h _ _ => s x o h
theorem Exc.wc {dk c : Addr} {H : Hp} {o : HO} : Exc dk c H (upd H c o) := fun x u h _ h2 => by rw [upd_ne h2]; exact h
theorem Exc.wd {dk c : Addr} {H : Hp} {o : HO} : Exc dk c H (upd H dk o) := fun x u h h1 _ => by rw [upd_ne h1]; exact h
theorem Deck.ne {H : Hp} {dk c : Addr} (h : Deck H dk c) : dk ≠ c := fun e => by
  obtain ⟨ns, m, d, h1, h2, _⟩ := h
  rw [e, h2] at h1
  cases h1
theorem Deck.sm {H H' : Hp} {dk c : Addr} (h : Deck H dk c) (s : Same H H') : Deck H' dk c := by
  obtain ⟨ns, m, d, h1, h2, h3⟩ := h
  exact ⟨ns, m, d, s _ _ h1, s _ _ h2, h3⟩
theorem Exc.keepT {H H' : Hp} {dk c : Addr} (h : Deck H dk c) (e : Exc dk c H H') : KeepT H H' := fun a xs r => by
  obtain ⟨ns, m, d, h1, h2, h3⟩ := h
  have n1 : a ≠ dk := fun z => by
    subst z
    exact no_tup_dK h1 xs r
  have n2 : a ≠ c := fun z => by
    subst z
    exact no_tup_lst h2 xs r
  rcases r with r | ⟨u, r⟩
  · exact .inl (e a _ r n1 n2)
  · exact .inr ⟨u, e a _ r n1 n2⟩
theorem Exc.tup {H H' : Hp} {dk c a : Addr} {xs : List V} (h : Deck H dk c) (e : Exc dk c H H') (t : H a = some (.tup xs)) : H' a = some (.tup xs) := by
  obtain ⟨ns, m, d, h1, h2, h3⟩ := h
  refine e a _ t (fun z => ?_) (fun z => ?_)
  · subst z
    rw [h1] at t
    cases t
  · subst z
    rw [h2] at t
    cases t
/-- what is new lies elsewhere -/
theorem Deck.new {H : Hp} {dk c p : Addr} (h : Deck H dk c) (e : H p = none) : p ≠ dk ∧ p ≠ c := by
  obtain ⟨ns, m, d, h1, h2, h3⟩ := h
  exact ⟨(ne_of_none h1 e).symm, (ne_of_none h2 e).symm⟩
theorem modN (i : Int) {n : Nat} (h : 0 < n) : ∃ r : Nat, r < n ∧ V.int (i % (n : Int)) = nV r := by
  have h1 := Int.emod_nonneg i (show (n : Int) ≠ 0 by omega)
  have h2 := Int.emod_lt_of_pos i (show (0 : Int) < n by omega)
  refine ⟨(i % (n : Int)).toNat, by omega, congrArg V.int ?_⟩
  rw [Int.toNat_of_nonneg h1]
theorem seq_fin2 {ta : TT} {tb tr : TS} {D : Ends} {σ : L2.St} {H : Hp} (A : L2.St → Hp → Prop) (fin : ∀ σ1 H1, A σ1 H1 → tr D σ1 H1) (k : (∀ σ1 H1, A σ1 H1 → tr D σ1 H1) → tIfS ta tb tNext { D with nx := tr D } σ H) : tSeq (tIfS ta tb tNext) tr D σ H := k fin
theorem eqv_ints (ns : List Int) : PyData.eqv (.list (ns.map PyData.int)) (.list []) = ns.isEmpty := by
  cases ns <;> simp [PyData.eqv, PyData.eqvAll]
theorem Tvs.ints {K : PySem.W.Frag} {H : Hp} : ∀ (ns : List Int), Tvs K H (ns.map V.int) (ns.map TD.int)
  | [] => .nil
  | n :: ns => .cons (.int _) (Tvs.ints ns)
theorem dp_ints {K : PySem.W.Frag} {H : Hp} (ns : List Int) : DpAll K H (ns.map V.int) (ns.map PyData.int) := by
  have h := Tvs.dp (K := K) (H := H) _ _ (Tvs.ints ns)
  rw [pys_map, List.map_map] at h
  have e : (TD.py ∘ TD.int) = PyData.int := by
    funext i
    simp [TD.py]
  rw [e] at h
  exact h
theorem sh_ints (ns : List Int) : SeqAt.shaped (.list (ns.map PyData.int)) = true := by
  have h := shaped_lst (l := ns.map TD.int) (n := 0) (fun d hd => by
    obtain ⟨i, _, rfl⟩ := List.mem_map.mp hd
    exact .int _) (by decide)
  rw [List.map_map] at h
  have e : (TD.py ∘ TD.int) = PyData.int := by
    funext i
    simp [TD.py]
  rw [e] at h
  exact h
theorem opN_mulS {X : Cx} : OpR X (binaryOp .Mult) (rN (fun _ m => m < 2 ^ 60) fun n m => nV (n * m)) := fun pins s σ H x y v u Q I rx ry ⟨n, m, e1, e2, c, q⟩ => op_mul pins s σ H x y v u Q I rx ry ⟨_, _, e1, e2, .inr ⟨by omega, by
  have c : m < 2 ^ 60 := c
  have : (2 : Int) ^ 64 = 18446744073709551616 := by decide
  have : (2 : Nat) ^ 60 = 1152921504606846976 := by decide
  omega⟩, q⟩
section
variable {P : Program} {w : World} {K : PySem.W.Frag} {mg : Str → Option Value} {base : Heap} {f : Addr} {fd : FuncData}
def spDraw : Sp := fun vs H Q _ => ∃ (dk c : Addr) (n : Nat), vs = [.ref dk, nV n] ∧ 0 < n ∧ n ≤ 2000000 ∧ Deck H dk c ∧ ∀ (r : Nat) (H' : Hp), r < n → Deck H' dk c → Exc dk c H H' → Q (nV r) H'
theorem ok_draw (F : Fun K "_law_draw" "_law_draw" s__law_draw f fd) (B : Blt mg) : FnOk P w K mg base CX0 1 f fd ["_law_deck_here", "_law_many"] spDraw := by
  refine F.ok sc__law_draw (fun vs H Q E h => ?_) (fun cdv A outer s H vs Q E hr h => ?_)
  · obtain ⟨dk, c, n, rfl, _⟩ := h
    rfl
  · obtain ⟨dk, c, n, rfl, hn, hn2, hD, k⟩ := h
    refine ⟨_, (pss_cons (ps_dput (hu_of hr) (pv 0) pe_str (pe_op op_add (pe_dget (hu_of hr) (pv 0) pe_str (fun _ _ => rfl)) pe_int) rfl)
      (pss_cons (ps_set (i := 2) sc__law_draw.nd rfl (Or.inl rfl) (pe_op op_add (pe_dget (hu_of hr) (pv 0) pe_str (fun _ _ => rfl)) (pe_op op_mul pe_int (pe_dget (hu_of hr) (pv 0) pe_str (fun _ _ => rfl)))))
      (pss_cons (ps_if (pt_cmpR (op_neD hr.units) (pe_dget (hu_of hr) (pv 0) pe_str (fun _ _ => rfl)) (pe_lst pa_nil) (nomark _)) (pss_cons (ps_set (i := 3) sc__law_draw.nd rfl (Or.inl rfl) (pe_bm0 PySem.F.plainAttrs_list PySem.F.slot_list_pop PySem.F.type_list_pop mt_pop (pe_dget (hu_of hr) (pv 0) pe_str (fun _ _ => rfl))))
      (pss_cons (ps_if (pt_cmpR op_ge (pv 3) (pe_op op_pow pe_int pe_int) (nomark _)) (pss_cons (ps_expr (pe_bm PySem.F.plainAttrs_list PySem.F.slot_list_append PySem.F.type_list_append mt_append (pe_dget (hu_of hr) (pv 0) pe_str (fun _ _ => rfl)) (pa_cons (pe_op op_fdivW (pv 3) (pe_callB (call_max2 rfl) (by rfl) B.max (by decide +kernel) (pa_cons pe_int (pa_cons (pv 1) pa_nil)))) pa_nil)))
      (pss_one (ps_ret (pe_op op_mod (pe_callTy call_int1 (by rfl) B.int (by decide +kernel) (pa_cons (pv 3) pa_nil)) (pv 1))))) pss_nil)
      (pss_one (ps_set (i := 2) sc__law_draw.nd rfl (Or.inl rfl) (pe_op op_add (pv 2) (pe_op op_mod (pe_callTy call_int1 (by rfl) B.int (by decide +kernel) (pa_cons (pv 3) pa_nil)) pe_int)))))) pss_nil)
      (pss_cons (ps_set (i := 2) sc__law_draw.nd rfl (Or.inl rfl) (pe_op op_mod (pe_callTy call_int1 (by rfl) B.int (by decide +kernel) (pa_cons (pe_op op_add (pe_op op_mul (pv 2) pe_int) pe_int) pa_nil)) pe_int))
      (pss_cons (ps_set (i := 2) sc__law_draw.nd rfl (Or.inl rfl) (pe_op op_mod (pe_callTy call_int1 (by rfl) B.int (by decide +kernel) (pa_cons (pe_op op_add (pe_op op_add (pe_op op_mul (pv 2) (pv 2)) (pe_op op_mul pe_int (pe_dget (hu_of hr) (pv 0) pe_str (fun _ _ => rfl)))) pe_int) pa_nil)) pe_int))
      (pss_cons (ps_set (i := 2) sc__law_draw.nd rfl (Or.inl rfl) (pe_op op_mod (pe_callTy call_int1 (by rfl) B.int (by decide +kernel) (pa_cons (pe_op op_mul (pv 2) pe_int) pa_nil)) pe_int))
      (pss_one (ps_ret (pe_op op_mod (pe_callTy call_int1 (by rfl) B.int (by decide +kernel) (pa_cons (pe_op op_fdivW (pv 2) pe_int) pa_nil)) (pv 1)))))))))), ?_⟩
    have hne := hD.ne
    have hD0 := hD
    obtain ⟨ns, m, d, h1, h2, h3⟩ := hD
    have sm : ∀ i : Int, i.natAbs < 1000000000 → CMul i i := fun i hi => .inl ⟨by omega, by omega⟩
    refine ⟨_, rfl, dk, .int d, rfl, .inl ⟨_, .inr "draws", .inl h1, rfl, get_d.symm⟩, d, 1, rfl, rfl, _, rfl, dk, _, rfl, .inl ⟨_, .inr "draws", h1, rfl, (by show 3 < sizeLine; decide), rfl⟩, ?_⟩
    rw [put_d]
    have e1 : upd H dk (.dK (dkv c m (d + 1))) dk = some (.dK (dkv c m (d + 1))) := upd_same
    have e2 : upd H dk (.dK (dkv c m (d + 1))) c = some (.lst (ns.map V.int)) := by rw [upd_ne hne.symm]; exact h2
    refine ⟨_, rfl, dk, .int m, rfl, .inl ⟨_, .inr "mixed", .inl e1, rfl, get_m.symm⟩, _, rfl, dk, _, rfl, .inl ⟨_, .inr "draws", .inl e1, rfl, get_d.symm⟩, 64627, _, rfl, rfl, .inl ⟨by decide, by decide⟩, _, _, rfl, rfl, ?_⟩
    dsimp only
    refine seq_fin2 (fun σ1 H1 => Deck H1 dk c ∧ Exc dk c H H1 ∧ ∃ i z, σ1 = [some (.ref dk), some (nV n), some (.int i), z]) ?rest (fun fin => ?main)
    case rest =>
      rintro σ1 H1 ⟨hD1, hE1, i, z, rfl⟩
      have hD2 := hD1
      obtain ⟨ns1, m1, d1, g1, g2, g3⟩ := hD2
      refine ⟨_, rfl, i, 39373, rfl, rfl, .inr ⟨by decide, by decide⟩, _, 71, rfl, rfl, .inl ⟨_, rfl, _, 2147483647, rfl, rfl, (by show (0 : Int) < 2147483647; decide), ?_⟩⟩
      have b1 := Int.emod_nonneg (i * 39373 + 71) (show (2147483647 : Int) ≠ 0 by decide)
      have b2 := Int.emod_lt_of_pos (i * 39373 + 71) (show (0 : Int) < 2147483647 by decide)
      refine ⟨_, rfl, _, rfl, _, _, rfl, rfl, .inl ⟨by omega, by omega⟩, _, rfl, dk, _, rfl, .inl ⟨_, .inr "draws", .inl g1, rfl, get_d.symm⟩, 52919, _, rfl, rfl, .inl ⟨by decide, by decide⟩, _, _, rfl, rfl, _, 43, rfl, rfl, .inl ⟨_, rfl, _, 2147483587, rfl, rfl, (by show (0 : Int) < 2147483587; decide), ?_⟩⟩
      refine ⟨_, rfl, _, 40692, rfl, rfl, .inr ⟨by decide, by decide⟩, .inl ⟨_, rfl, _, 2147483563, rfl, rfl, (by show (0 : Int) < 2147483563; decide), ?_⟩⟩
      refine ⟨_, rfl, _, 64, rfl, rfl, ⟨by decide, by decide⟩, .inl ⟨_, rfl, _, rfl, _, (n : Int), rfl, rfl, ?_, ?_⟩⟩
      · show (0 : Int) < n
        omega
      · obtain ⟨r, hr1, hr2⟩ := modN (((((i * 39373 + 71) % 2147483647 * ((i * 39373 + 71) % 2147483647) + 52919 * d1 + 43) % 2147483587) * 40692) % 2147483563 / 64) hn
        exact to (k r _ hr1 hD1 hE1) hr2.symm
    case main =>
      refine ⟨_, rfl, dk, .ref c, rfl, .inl ⟨_, .inr "cells", .inl e1, rfl, get_c.symm⟩, (by show 0 ≤ sizeLine; decide), fun p np => ?_⟩
      have f1 := (sameU (o := .lst []) np) _ _ e1
      have f2 := (sameU (o := .lst []) np) _ _ e2
      refine ⟨_, _, .lst (SqL.of f2) (dp_ints ns), .lst (SqL.of upd_same) .nil, sh_ints ns, sh_ints [], _, rfl, ?_⟩
      rw [eqv_ints]
      have ex0 : Exc dk c H (upd (upd H dk (.dK (dkv c m (d + 1)))) p (.lst [])) := Exc.wd.trans (excS (sameU np))
      by_cases hns : ns = []
      · subst hns
        exact iteF (fin _ _ ⟨⟨[], m, d + 1, f1, f2, h3⟩, ex0, _, none, rfl⟩)
      · obtain ⟨ini, z, rfl⟩ := (List.eq_nil_or_concat ns).resolve_left hns
        rw [List.concat_eq_append] at *
        rw [List.map_append] at f2
        have hl2 : ini.length + 1 ≤ 63 := by simpa using h3
        rw [show (!(ini ++ [z]).isEmpty) = true by simp]
        refine iteT ⟨_, rfl, dk, .ref c, rfl, .inl ⟨_, .inr "cells", .inl f1, rfl, get_c.symm⟩, .inl ⟨rfl, _, SqL.of f2⟩, c, _, .int z, rfl, rfl, f2, ?_, ?_⟩
        · show (ini.map V.int ++ [V.int z])[(ini.map V.int ++ [V.int z]).length - 1]? = _
          rw [List.length_append, List.length_singleton, Nat.add_sub_cancel, List.getElem?_append_right (Nat.le_refl _), Nat.sub_self]
          rfl
        · rw [show (ini.map V.int ++ [z].map V.int).dropLast = ini.map V.int from List.dropLast_concat]
          have i1 : upd (upd (upd H dk (.dK (dkv c m (d + 1)))) p (.lst [])) c (.lst (ini.map V.int)) dk = some (.dK (dkv c m (d + 1))) := by rw [upd_ne hne]; exact f1
          have i2 : upd (upd (upd H dk (.dK (dkv c m (d + 1)))) p (.lst [])) c (.lst (ini.map V.int)) c = some (.lst (ini.map V.int)) := upd_same
          refine ⟨_, rfl, 10, 18, rfl, rfl, ⟨by decide, by decide, by decide⟩, z, _, rfl, rfl, _, rfl, ite2 (fun e => ?_) (fun e => ?_)⟩
          · refine ⟨_, rfl, dk, .ref c, rfl, .inl ⟨_, .inr "cells", .inl i1, rfl, get_c.symm⟩, .inl ⟨rfl, _, SqL.of i2⟩, _, rfl, _, rfl, 2, (n : Int), rfl, z, _, rfl, rfl, ⟨?_, ?_⟩, c, _, _, rfl, rfl, i2, ?_, ?_⟩
            · split <;> omega
            · have hb : (if (n : Int) > 2 then (n : Int) else 2).natAbs < 2 ^ 30 := by
                have : (2 : Nat) ^ 30 = 1073741824 := by decide
                split <;> omega
              exact Nat.lt_trans (PySem.Flt.log2_lt_of (by decide) hb) (by decide)
            · exact small1000 (by rw [List.length_map]; omega)
            · refine ⟨_, rfl, .inl ⟨_, rfl, _, rfl, _, (n : Int), rfl, rfl, ?_, ?_⟩⟩
              · show (0 : Int) < n
                omega
              · obtain ⟨r, hr1, hr2⟩ := modN z hn
                refine to (k r _ hr1 ⟨ini ++ [z / (if (n : Int) > 2 then (n : Int) else 2)], m, d + 1, ?_, ?_, ?_⟩ ?_) hr2.symm
                · rw [upd_ne hne]
                  exact i1
                · rw [upd_same, List.map_append]
                  rfl
                · rw [List.length_append]
                  exact hl2
                · exact (ex0.trans Exc.wc).trans Exc.wc
          · refine ⟨_, rfl, _, rfl, .inl ⟨_, rfl, _, 2147483629, rfl, rfl, (by show (0 : Int) < 2147483629; decide), _, _, rfl, rfl, ?_⟩⟩
            exact fin _ _ ⟨⟨ini, m, d + 1, i1, i2, by omega⟩, ex0.trans Exc.wc, _, _, rfl⟩
end
end K32
/-! K32M: what is drawn, how many places there are. -/
namespace K32
set_option exponentiation.threshold 2000
open PySem PySem.Spec PyProof.Rows L2
theorem opN_mulL {X : Cx} : OpR X (binaryOp .Mult) (rN (fun n _ => n < 2 ^ 60) fun n m => nV (n * m)) := fun pins s σ H x y v u Q I rx ry ⟨n, m, e1, e2, c, q⟩ => op_mul pins s σ H x y v u Q I rx ry ⟨_, _, e1, e2, .inl ⟨by omega, by
  have c : n < 2 ^ 60 := c
  have : (2 : Int) ^ 64 = 18446744073709551616 := by decide
  have : (2 : Nat) ^ 60 = 1152921504606846976 := by decide
  omega⟩, q⟩
theorem merge_d (c : Addr) (m d : Int) : mergeK [] (dkv c m d) = dkv c m d := by
  unfold mergeK dkv
  simp only [List.foldl_cons, List.foldl_nil]
  have a1 : putK ([] : List (Key × V)) (.inr "cells") (.ref c) = [(.inr "cells", .ref c)] := putK_new _ valV_nil
  have a2 : putK ([(.inr "cells", .ref c)] : List (Key × V)) (.inr "mixed") (.int m) = [(.inr "cells", .ref c), (.inr "mixed", .int m)] := putK_new _ ((valV_neg k_cm).trans valV_nil)
  have a3 : putK ([(.inr "cells", .ref c), (.inr "mixed", .int m)] : List (Key × V)) (.inr "draws") (.int d) = [(.inr "cells", .ref c), (.inr "mixed", .int m), (.inr "draws", .int d)] := putK_new _ ((valV_neg k_cd).trans ((valV_neg k_md).trans valV_nil))
  rw [a1, a2, a3]
theorem cut_63 {xs : List V} (h : xs.length ≤ 63) : cutV xs none (some 63) = xs := by
  unfold cutV
  have e2 : HT.sIx xs.length xs.length (some 63) = min 63 xs.length := HT.sIx_nat _ _ 63
  rw [e2, HT.sIx_none, Nat.min_eq_right h]
  show (xs.drop 0).take (xs.length - 0) = xs
  rw [List.drop_zero, Nat.sub_zero, List.take_length]
section
variable {P : Program} {w : World} {K : PySem.W.Frag} {mg : Str → Option Value} {base : Heap} {f : Addr} {fd : FuncData}
def spDeck (K : PySem.W.Frag) : Sp := fun vs H Q _ => ∃ (a : Addr) (ns : List Int), vs = [.ref a] ∧ SqL K H a (ns.map V.int) ∧ ns.length ≤ 63 ∧ ∀ (dk c : Addr) (H' : Hp), Same H H' → Deck H' dk c → Q (.ref dk) H'
theorem ok_deck (F : Fun K "_law_deck" "_law_deck" s__law_deck f fd) (B : Blt mg) : FnOk P w K mg base CX0 1 f fd ["_law_script"] (spDeck K) := by
  refine F.ok sc__law_deck (fun vs H Q E h => ?_) (fun cdv A outer s H vs Q E hr h => ?_)
  · obtain ⟨a, ns, rfl, _⟩ := h
    rfl
  · obtain ⟨a, ns, rfl, hL, hl, k⟩ := h
    refine ⟨_, (pss_cons (ps_set (i := 1) sc__law_deck.nd rfl (Or.inl rfl) pe_int)
      (pss_cons (ps_for PassesOwn.never rfl (pi_list (pe_slice sl_list (pv 0) po_none (po_some pe_int))) (pg_name (i := 2) sc__law_deck.nd rfl (Or.inl rfl)) (pss_one (ps_set (i := 1) sc__law_deck.nd rfl (Or.inl rfl) (pe_op op_mod (pe_callTy call_int1 (by rfl) B.int (by decide +kernel) (pa_cons (pe_op op_add (pe_op op_add (pe_op op_mul (pv 1) pe_int) (pe_op op_mod (pe_callTy call_int1 (by rfl) B.int (by decide +kernel) (pa_cons (pv 2) pa_nil)) pe_int)) pe_int) pa_nil)) pe_int))))
      (pss_one (ps_ret (pe_disp (pps_cons pe_str (pe_revL (pe_callTy call_list_of (by rfl) B.list (by decide +kernel) (pa_cons (pe_slice sl_list (pv 0) po_none (po_some pe_int)) pa_nil))) (pps_cons pe_str (pv 1) (pps_cons pe_str pe_int pps_nil))) (by rfl) (by rfl) (fun z => by cases z) (by decide)))))), ?_⟩
    have hl2 : (ns.map V.int).length ≤ 63 := by rw [List.length_map]; exact hl
    refine ⟨_, rfl, 63, rfl, a, _, rfl, hL, fun p np => ?_⟩
    rw [show cutV (ns.map V.int) none (some 63) = ns.map V.int from cut_63 hl2]
    refine ⟨p, rfl, ⟨_, SqL.of upd_same⟩, ?_⟩
    refine for_it walk_list (fun i σ H2 => H2 = upd H p (.lst (ns.map V.int)) ∧ ∃ m z, σ = [some (.ref a), some (.int m), z]) ⟨rfl, _, none, rfl⟩ (fun i σ H2 _ p => by rw [p.1]; exact SqL.of upd_same) (fun i x σ H2 H3 hi p y => ?_) fun σ H2 p => ?_
    · obtain ⟨rfl, hx⟩ := y
      obtain ⟨rfl, m, z, rfl⟩ := p
      rw [List.getElem?_map] at hx
      obtain ⟨n, hn, rfl⟩ := Option.map_eq_some_iff.mp hx
      exact ⟨_, rfl, m, 48271, rfl, rfl, .inr ⟨by decide, by decide⟩, _, rfl, .inl ⟨n, rfl, n, 2147483629, rfl, rfl, (by show (0 : Int) < 2147483629; decide), _, _, rfl, rfl, _, 71, rfl, rfl, .inl ⟨_, rfl, _, 2147483587, rfl, rfl, (by show (0 : Int) < 2147483587; decide), rfl, _, _, rfl⟩⟩⟩
    · obtain ⟨rfl, m, z, rfl⟩ := p
      have s1 := sameU (o := .lst (ns.map V.int)) np
      intro p0 np0
      have s2 := snu (o := .dK []) s1 np0
      refine ⟨_, rfl, 63, rfl, a, _, rfl, Same.sqL s2 hL, fun p2 np2 => ?_⟩
      rw [show cutV (ns.map V.int) none (some 63) = ns.map V.int from cut_63 hl2] at *
      refine ⟨p2, _, rfl, .inl (SqL.of upd_same), fun p3 np3 => ⟨p3, _, rfl, SqL.of upd_same, fun p4 np4 => ?_⟩⟩
      have s3 := snu (o := .lst (ns.map V.int)) (sameU (o := .lst (ns.map V.int)) np2) np3
      have s4 := snu (o := .lst (ns.map V.int).reverse) s3 np4
      have e0 := s4 _ _ (upd_same (H := upd H p (.lst (ns.map V.int))) (a := p0) (o := .dK []))
      have ne : p0 ≠ p4 := ne_of_none (s3 _ _ upd_same) np4
      refine ⟨_, rfl, e0, dkv p4 m 0, rfl, (by show 3 ≤ 15; decide), ?_⟩
      rw [merge_d]
      refine k p0 p4 _ (smut (s2.trans s4) (none_back s1 np0)) ⟨ns.reverse, m, 0, upd_same, ?_, ?_⟩
      · rw [upd_ne (Ne.symm ne), upd_same, List.map_reverse]
      · rw [List.length_reverse]
        exact hl
def spPick : Sp := fun vs H Q _ => ∃ (dk c p : Addr) (qs : List Nat), vs = [.ref dk, .ref p] ∧ Deck H dk c ∧ H p = some (.lst (qs.map nV)) ∧ p ≠ dk ∧ p ≠ c ∧ 0 < qs.length ∧ qs.length ≤ 100 ∧ ∀ (q : Nat) (H' : Hp), q ∈ qs → Deck H' dk c → Exc dk c H H' → Q (nV q) H'
theorem ok_pick (F : Fun K "_law_pick" "_law_pick" s__law_pick f fd) (B : Blt mg) (h__law_draw : Has P w K mg base 1 "_law_draw" s__law_draw ["_law_deck_here", "_law_many"] spDraw) : FnOk P w K mg base CX0 2 f fd ["_law_deck_here", "_law_some"] spPick := by
  refine F.ok sc__law_pick (fun vs H Q E h => ?_) (fun cdv A outer s H vs Q E hr h => ?_)
  · obtain ⟨dk, c, p, qs, rfl, _⟩ := h
    rfl
  · obtain ⟨dk, c, p, qs, rfl, hD, hp, n1, n2, l0, l1, k⟩ := h
    refine ⟨_, (pss_one (ps_ret (pe_ix ix_list (pv 1) (pe_callH h__law_draw hr (by rfl) (pa_cons (pv 0) (pa_cons (pe_callB call_len_seq (by rfl) B.len (by decide +kernel) (pa_cons (pv 1) pa_nil)) pa_nil))) (fun _ _ => rfl)))), ?_⟩
    refine ⟨_, rfl, _, rfl, _, rfl, p, _, rfl, .inl (SqL.of hp), dk, c, qs.length, ?_, l0, by omega, hD, fun r H1 hr1 hD1 hE1 => ?_⟩
    · rw [List.length_map]
      rfl
    · have hp1 := hE1 _ _ hp n1 n2
      exact ⟨p, _, _, nV qs[r], rfl, rfl, SqL.of hp1, atI_nat (by rw [List.getElem?_map, List.getElem?_eq_getElem hr1]; rfl), k _ _ (List.getElem_mem hr1) hD1 hE1⟩
def spField : Sp := fun vs H Q _ => ∃ (dk c : Addr), vs = [.ref dk] ∧ Deck H dk c ∧ ∀ (q : Nat) (H' : Hp), q ∈ fields → Deck H' dk c → Exc dk c H H' → Q (nV q) H'
theorem ok_some_field (F : Fun K "_law_some_field" "_law_some_field" s__law_some_field f fd) (h__law_draw : Has P w K mg base 2 "_law_draw" s__law_draw ["_law_deck_here", "_law_many"] spDraw) (h__law_pick : Has P w K mg base 2 "_law_pick" s__law_pick ["_law_deck_here", "_law_some"] spPick) : FnOk P w K mg base CX0 3 f fd ["_law_deck_here"] spField := by
  refine F.ok sc__law_some_field (fun vs H Q E h => ?_) (fun cdv A outer s H vs Q E hr h => ?_)
  · obtain ⟨dk, c, rfl, _⟩ := h
    rfl
  · obtain ⟨dk, c, rfl, hD, k⟩ := h
    refine ⟨_, (pss_cons (ps_if (pt_cmpR opN_eq (pe_callH h__law_draw hr (by rfl) (pa_cons (pv 0) (pa_cons pe_int pa_nil))) pe_int (nomark _)) (pss_one (ps_ret (pe_callH h__law_pick hr (by rfl) (pa_cons (pv 0) (pa_cons (pe_lst (pa_cons pe_int (pa_cons pe_int (pa_cons pe_int (pa_cons pe_int (pa_cons pe_int (pa_cons pe_int (pa_cons pe_int (pa_cons pe_int (pa_cons pe_int (pa_cons pe_int pa_nil))))))))))) pa_nil))))) pss_nil)
      (pss_one (ps_ret (pe_callH h__law_pick hr (by rfl) (pa_cons (pv 0) (pa_cons (pe_lst (pa_cons pe_int (pa_cons pe_int (pa_cons pe_int (pa_cons pe_int (pa_cons pe_int (pa_cons pe_int pa_nil))))))) pa_nil)))))), ?_⟩
    refine ⟨_, rfl, dk, c, 5, rfl, by decide, by decide, hD, fun r H1 hr1 hD1 hE1 => ⟨r, 0, rfl, rfl, _, rfl, ite2 (fun e => ?_) (fun e => ?_)⟩⟩
    · refine ⟨_, rfl, (by show 10 ≤ sizeLine; decide), fun p np => ?_⟩
      have nn := hD1.new np
      exact ⟨dk, c, p, [7, 8, 9, 11, 13, 16, 2, 3, 4, 5], rfl, hD1.sm (sameU np), upd_same, nn.1, nn.2, by decide, by decide, fun q H' hq hD2 hE2 => k q H' ((by decide : ∀ q ∈ [7, 8, 9, 11, 13, 16, 2, 3, 4, 5], q ∈ fields) q hq) hD2 ((hE1.trans (excS (sameU np))).trans hE2)⟩
    · refine ⟨_, rfl, (by show 6 ≤ sizeLine; decide), fun p np => ?_⟩
      have nn := hD1.new np
      exact ⟨dk, c, p, [2, 3, 4, 5, 2, 3], rfl, hD1.sm (sameU np), upd_same, nn.1, nn.2, by decide, by decide, fun q H' hq hD2 hE2 => k q H' ((by decide : ∀ q ∈ [2, 3, 4, 5, 2, 3], q ∈ fields) q hq) hD2 ((hE1.trans (excS (sameU np))).trans hE2)⟩
def spBelow : Sp := fun vs H Q _ => ∃ (dk c : Addr) (n : Nat), vs = [.ref dk, nV n] ∧ 0 < n ∧ Deck H dk c ∧ ∀ (r : Nat) (H' : Hp), r < n → Deck H' dk c → Exc dk c H H' → Q (nV r) H'
theorem ok_great (F : Fun K "_law_great" "_law_great" s__law_great f fd) (B : Blt mg) (h__law_draw : Has P w K mg base 1 "_law_draw" s__law_draw ["_law_deck_here", "_law_many"] spDraw) : FnOk P w K mg base CX0 2 f fd ["_law_deck_here", "_law_many"] spBelow := by
  refine F.ok sc__law_great (fun vs H Q E h => ?_) (fun cdv A outer s H vs Q E hr h => ?_)
  · obtain ⟨dk, c, n, rfl, _⟩ := h
    rfl
  · obtain ⟨dk, c, n, rfl, hn, hD, k⟩ := h
    refine ⟨_, (pss_cons (ps_set (i := 2) sc__law_great.nd rfl (Or.inl rfl) pe_int)
      (pss_cons (ps_for PassesOwn.never rfl (pi_range1 rfl B.range (pa_cons pe_int pa_nil)) (pg_name (i := 3) sc__law_great.nd rfl (Or.inl rfl)) (pss_one (ps_set (i := 2) sc__law_great.nd rfl (Or.inl rfl) (pe_op opN_add (pe_op opN_mulS (pv 2) pe_int) (pe_callH h__law_draw hr (by rfl) (pa_cons (pv 0) (pa_cons pe_int pa_nil)))))))
      (pss_one (ps_ret (pe_op opN_mod (pe_callTy call_int1 (by rfl) B.int (by decide +kernel) (pa_cons (pv 2) pa_nil)) (pv 1)))))), ?_⟩
    refine ⟨17, rfl, by decide, by decide, ?_⟩
    refine for_it walk_range (fun i σ H2 => Deck H2 dk c ∧ Exc dk c H H2 ∧ ∃ m z, σ = [some (.ref dk), some (nV n), some (nV m), z]) ⟨hD, Exc.refl _ _ _, 0, none, rfl⟩ (fun _ _ _ _ _ => trivial) (fun i x σ H2 H3 hi p y => ?_) fun σ H2 p => ?_
    · obtain ⟨rfl, rfl⟩ := y
      obtain ⟨hD2, hE2, m, z, rfl⟩ := p
      exact ⟨_, rfl, m, 1000003, rfl, rfl, (by show 1000003 < 2 ^ 60; decide), _, rfl, dk, c, 1000003, rfl, by decide, by decide, hD2, fun r H4 hr4 hD4 hE4 => ⟨_, r, rfl, rfl, hD4, hE2.trans hE4, _, _, rfl⟩⟩
    · obtain ⟨hD2, hE2, m, z, rfl⟩ := p
      exact ⟨_, rfl, .inl ⟨_, rfl, _, rfl, m, n, rfl, rfl, hn, k _ _ (Nat.mod_lt _ hn) hD2 hE2⟩⟩
theorem ok_edge (F : Fun K "_law_edge" "_law_edge" s__law_edge f fd) (h__law_draw : Has P w K mg base 2 "_law_draw" s__law_draw ["_law_deck_here", "_law_many"] spDraw) (h__law_great : Has P w K mg base 2 "_law_great" s__law_great ["_law_deck_here", "_law_many"] spBelow) : FnOk P w K mg base CX0 3 f fd ["_law_deck_here", "_law_many"] spBelow := by
  refine F.ok sc__law_edge (fun vs H Q E h => ?_) (fun cdv A outer s H vs Q E hr h => ?_)
  · obtain ⟨dk, c, n, rfl, _⟩ := h
    rfl
  · obtain ⟨dk, c, n, rfl, hn, hD, k⟩ := h
    refine ⟨_, (pss_cons (ps_set (i := 2) sc__law_edge.nd rfl (Or.inl rfl) (pe_callH h__law_draw hr (by rfl) (pa_cons (pv 0) (pa_cons pe_int pa_nil))))
      (pss_cons (ps_if (pt_cmpR opN_lt (pv 2) pe_int (nomark _)) (pss_one (ps_ret (pe_op opN_mulL (pv 2) (pe_op opN_sub (pv 1) pe_int)))) pss_nil)
      (pss_one (ps_ret (pe_callH h__law_great hr (by rfl) (pa_cons (pv 0) (pa_cons (pv 1) pa_nil))))))), ?_⟩
    refine ⟨_, rfl, dk, c, 5, rfl, by decide, by decide, hD, fun r H1 hr1 hD1 hE1 => ⟨_, rfl, r, 2, rfl, rfl, _, rfl, ite2 (fun e => ?_) (fun e => ?_)⟩⟩
    · have e2 : r < 2 := of_decide_eq_true e
      refine ⟨_, rfl, _, rfl, n, 1, rfl, rfl, hn, r, n - 1, rfl, rfl, Nat.lt_trans e2 (by decide), k _ _ ?_ hD1 hE1⟩
      have : r = 0 ∨ r = 1 := by omega
      rcases this with rfl | rfl
      · rw [Nat.zero_mul]
        exact hn
      · rw [Nat.one_mul]
        omega
    · exact ⟨_, rfl, _, rfl, dk, c, n, rfl, hn, hD1, fun r2 H2 hr2 hD2 hE2 => k _ _ hr2 hD2 (hE1.trans hE2)⟩
def spPower : Sp := fun vs H Q _ => ∃ n e : Nat, vs = [nV n, nV e] ∧ n < 2 ^ 60 ∧ e ≤ 1000 ∧ Q (nV (n ^ e)) H
theorem ok_power (F : Fun K "_law_power" "_law_power" s__law_power f fd) (B : Blt mg) : FnOk P w K mg base CX0 1 f fd ["_law_number", "_law_exponent"] spPower := by
  refine F.ok sc__law_power (fun vs H Q E h => ?_) (fun cdv A outer s H vs Q E hr h => ?_)
  · obtain ⟨n, e, rfl, _⟩ := h
    rfl
  · obtain ⟨n, e, rfl, hn, he, k⟩ := h
    refine ⟨_, (pss_cons (ps_set (i := 2) sc__law_power.nd rfl (Or.inl rfl) pe_int)
      (pss_cons (ps_for PassesOwn.never rfl (pi_range1 rfl B.range (pa_cons (pv 1) pa_nil)) (pg_name (i := 3) sc__law_power.nd rfl (Or.inl rfl)) (pss_one (ps_set (i := 2) sc__law_power.nd rfl (Or.inl rfl) (pe_op opN_mulS (pv 2) (pv 0)))))
      (pss_one (ps_ret (pv 2))))), ?_⟩
    refine ⟨_, rfl, _, rfl, by omega, by omega, ?_⟩
    refine for_it walk_range (fun i σ H2 => H2 = H ∧ ∃ z, σ = [some (nV n), some (nV e), some (nV (n ^ i)), z]) ⟨rfl, none, rfl⟩ (fun _ _ _ _ _ => trivial) (fun i x σ H2 H3 hi p y => ?_) fun σ H2 p => ?_
    · obtain ⟨rfl, rfl⟩ := y
      obtain ⟨rfl, z, rfl⟩ := p
      refine ⟨_, rfl, _, rfl, _, n, rfl, rfl, hn, rfl, some (.int (0 + (i : Int))), ?_⟩
      rw [Nat.pow_succ]
      rfl
    · obtain ⟨rfl, z, rfl⟩ := p
      exact ⟨_, rfl, to k (by rw [Int.toNat_natCast])⟩
def spMpl (K : PySem.W.Frag) : Sp := fun vs H Q _ => ∃ (q : Nat) (v : V) (ds : List Nat), vs = [nV q, v] ∧ q ∈ fields ∧ Tv K H v (dNs ds) ∧ DsOk ds ∧ ∀ H', Same H H' → Q (nV (mpl q ds)) H'
theorem pow_small {q i : Nat} (hq : q ≤ 16) (hi : i ≤ 12) : q ^ i < 2 ^ 60 := by
  have h1 : q ^ i ≤ 16 ^ i := Nat.pow_le_pow_left hq i
  have h2 : 16 ^ i ≤ 16 ^ 12 := Nat.pow_le_pow_right (by decide) hi
  exact Nat.lt_of_le_of_lt (Nat.le_trans h1 h2) (by decide)
theorem ok_many_places (F : Fun K "_law_many_places" "_law_many_places" s__law_many_places f fd) (B : Blt mg) (h__law_power : Has P w K mg base 1 "_law_power" s__law_power ["_law_number", "_law_exponent"] spPower) : FnOk P w K mg base CX0 2 f fd ["_law_q", "_law_degrees"] (spMpl K) := by
  refine F.ok sc__law_many_places (fun vs H Q E h => ?_) (fun cdv A outer s H vs Q E hr h => ?_)
  · obtain ⟨q, v, ds, rfl, _⟩ := h
    rfl
  · obtain ⟨q, v, ds, rfl, hq, hv, hd, k⟩ := h
    refine ⟨_, (pss_cons (ps_if (pt_cmpR (op_eqT hr) (pv 1) (pe_tup pa_nil) (nomark _)) (pss_one (ps_ret pe_int)) pss_nil)
      (pss_cons (ps_set (i := 2) sc__law_many_places.nd rfl (Or.inl rfl) (pe_op opN_mulS (pe_op opN_add (pv 0) pe_int) (pe_callH h__law_power hr (by rfl) (pa_cons (pv 0) (pa_cons (pe_op opN_sub (pe_callB call_len_seq (by rfl) B.len (by decide +kernel) (pa_cons (pv 1) pa_nil)) pe_int) pa_nil)))))
      (pss_cons (ps_for PassesOwn.never rfl (pi_tup (pv 1)) (pg_name (i := 3) sc__law_many_places.nd rfl (Or.inl rfl)) (pss_one (ps_set (i := 2) sc__law_many_places.nd rfl (Or.inl rfl) (pe_op opN_mulS (pe_op opN_mulS (pv 2) (pe_op opN_sub (pv 0) pe_int)) (pe_callH h__law_power hr (by rfl) (pa_cons (pv 0) (pa_cons (pe_op opN_sub (pv 3) pe_int) pa_nil)))))))
      (pss_one (ps_ret (pv 2)))))), ?_⟩
    have hqb := fields_ge hq
    have q60 : q < 2 ^ 60 := Nat.lt_of_le_of_lt hqb.2 (by decide)
    have hl := hd.2
    obtain ⟨a, rfl, hT⟩ := Tv.ns hv
    refine ⟨_, rfl, Nat.zero_le _, fun p0 np0 => ⟨_, _, Tv.sm (sameU np0) hv, tv_nil upd_same, (sh_ns _).mono (by decide), sh_nil.mono (by decide), _, rfl, ?_⟩⟩
    have s0 := sameU (o := .tup []) np0
    unfold dNs
    rw [eqv_nil]
    refine ite2 (fun e => ?_) (fun e => ?_)
    · have e1 : ds = [] := List.map_eq_nil_iff.mp (List.isEmpty_iff.mp e)
      subst e1
      exact k _ s0
    · have hne : ds ≠ [] := fun z => e (by rw [z]; rfl)
      have hlen : ds.length ≠ 0 := fun z => hne (List.length_eq_zero_iff.mp z)
      refine ⟨_, rfl, q, 1, rfl, rfl, _, rfl, _, rfl, a, _, rfl, .inr (Same.sqT s0 hT), (ds.map nV).length, 1, rfl, rfl, by rw [List.length_map]; omega, q, (ds.map nV).length - 1, rfl, q60, by rw [List.length_map]; omega, q + 1, _, rfl, rfl, ?_, ?_⟩
      · exact pow_small hqb.2 (by rw [List.length_map]; omega)
      · rw [List.length_map]
        refine ⟨_, rfl, a, rfl, ⟨_, Same.sqT s0 hT⟩, ?_⟩
        refine for_it walk_tup (fun i σ H2 => H2 = upd H p0 (.tup []) ∧ ∃ z, σ = [some (nV q), some (.ref a), some (nV ((q + 1) * q ^ (ds.length - 1) * prodB q (ds.take i))), z]) ⟨rfl, none, by rw [List.take_zero, show prodB q [] = 1 from rfl, Nat.mul_one]; rfl⟩ (fun i σ H2 _ p => by rw [p.1]; exact Same.sqT s0 hT) (fun i x σ H2 H3 hi p y => ?_) fun σ H2 p => ?_
        · obtain ⟨rfl, hx⟩ := y
          obtain ⟨rfl, z, rfl⟩ := p
          rw [List.getElem?_map] at hx
          obtain ⟨n, hn, rfl⟩ := Option.map_eq_some_iff.mp hx
          have hdn := hd.1 n (List.mem_of_getElem? hn)
          refine ⟨_, rfl, _, rfl, q, 1, rfl, rfl, by omega, _, q - 1, rfl, rfl, (by show q - 1 < 2 ^ 60; omega), _, rfl, _, rfl, n, 2, rfl, rfl, hdn.1, q, n - 2, rfl, q60, by omega, _, _, rfl, rfl, pow_small hqb.2 (by omega), rfl, some (nV n), ?_⟩
          rw [take_snoc hn, prodB_app]
          have e3 : (q + 1) * q ^ (ds.length - 1) * (prodB q (ds.take i) * prodB q [n]) = (q + 1) * q ^ (ds.length - 1) * prodB q (ds.take i) * (q - 1) * q ^ (n - 2) := by
            show (q + 1) * q ^ (ds.length - 1) * (prodB q (ds.take i) * (mb q n * 1)) = _
            unfold mb
            rw [Nat.mul_one]
            ac_rfl
          rw [e3]
          rfl
        · obtain ⟨rfl, z, rfl⟩ := p
          refine ⟨_, rfl, to (k _ s0) ?_⟩
          rw [List.length_map, List.take_length]
          unfold mpl
          rw [if_neg hne]
end
end K32
/-! K32N: rank, depth, the chain to the root. -/
namespace K32
set_option exponentiation.threshold 2000
open PySem PySem.Spec PyProof.Rows L2
abbrev s__law_rank : Stmt := topS 74
abbrev N__law_rank : List Str := ["_law_q", "_law_place", "_law_sort", "_law_start", "_law_bends", "_law_turns", "_law_rank_here", "_law_bend", "_law_number", "_law_turn"]
theorem sc__law_rank : FnScope N__law_rank ["_law_q", "_law_place"] (defScope s__law_rank) := ⟨rfl, rfl, rfl, by decide +kernel, rfl, by decide +kernel, by decide +kernel⟩
abbrev s__law_depth : Stmt := topS 66
abbrev N__law_depth : List Str := ["_law_place"]
theorem sc__law_depth : FnScope N__law_depth ["_law_place"] (defScope s__law_depth) := ⟨rfl, rfl, rfl, by decide +kernel, rfl, by decide +kernel, by decide +kernel⟩
abbrev s__law_ahead : Stmt := topS 67
abbrev N__law_ahead : List Str := ["_law_place", "_law_sort", "_law_start", "_law_bends", "_law_turns"]
theorem sc__law_ahead : FnScope N__law_ahead ["_law_place"] (defScope s__law_ahead) := ⟨rfl, rfl, rfl, by decide +kernel, rfl, by decide +kernel, by decide +kernel⟩
abbrev s__law_chain : Stmt := topS 68
abbrev N__law_chain : List Str := ["_law_place", "_law_found", "_law_level"]
theorem sc__law_chain : FnScope N__law_chain ["_law_place"] (defScope s__law_chain) := ⟨rfl, rfl, rfl, by decide +kernel, rfl, by decide +kernel, by decide +kernel⟩
def rankP (q : Nat) (p : PlD) : Nat := rd q (onB q p.s1 p.bs) p.ts
theorem onB_snoc (q r : Nat) (bs : List Bend) (b : Bend) : onB q r (bs ++ [b]) = rd q (onB q r bs) b.1 * (q - 1) + (b.2 - 1) := by
  unfold onB
  rw [List.foldl_append]
  rfl
def itA : Nat → PlD → PlD
  | 0, p => p
  | n + 1, p => aheadD (itA n p)
theorem sIx_neg' (n d : Nat) : HT.sIx n d (some (-1)) = n - 1 := sIx_neg n d
/-- the first i + 1 of the chain -/
def chainTo (p : PlD) (i : Nat) : List PlD := (List.range (i + 1)).map fun j => itA j p
theorem depth_ahead {q : Nat} {p : PlD} (g : p.Good q) (h : ¬ (p.st = true ∧ p.bs = [])) : depthD (aheadD p) + 1 = depthD p := by
  have h1 := items_len (aheadD_good g h)
  have h2 := items_len g
  rw [items_ahead g h, List.length_dropLast] at h1
  have : (itemsD p).length ≠ 0 := by
    rw [itemsD_ne h]
    simp
  omega
theorem not_root {p : PlD} (h : depthD p ≠ 0) : ¬ (p.st = true ∧ p.bs = []) := fun z => h (by
  unfold depthD
  rw [if_pos z.1, z.2]
  rfl)
theorem itA_good {q : Nat} {p : PlD} (g : p.Good q) : ∀ i, i ≤ depthD p → (itA i p).Good q ∧ depthD (itA i p) + i = depthD p
  | 0, _ => ⟨g, rfl⟩
  | i + 1, h => by
    obtain ⟨h1, h2⟩ := itA_good g i (by omega)
    have hn := not_root (p := itA i p) (by omega)
    have h3 := depth_ahead h1 hn
    exact ⟨aheadD_good h1 hn, by show depthD (aheadD (itA i p)) + (i + 1) = _; omega⟩
section
variable {P : Program} {w : World} {K : PySem.W.Frag} {mg : Str → Option Value} {base : Heap} {f : Addr} {fd : FuncData}
def spRank (K : PySem.W.Frag) : Sp := fun vs H Q _ => ∃ (q : Nat) (v : V) (p : PlD), vs = [nV q, v] ∧ q ∈ fields ∧ Tv K H v (dPlace p) ∧ p.Good q ∧ ∀ H', Same H H' → Q (nV (rankP q p)) H'
theorem ok_rank (F : Fun K "_law_rank" "_law_rank" s__law_rank f fd) : FnOk P w K mg base CX0 1 f fd ["_law_q", "_law_place"] (spRank K) := by
  refine F.ok sc__law_rank (fun vs H Q E h => ?_) (fun cdv A outer s H vs Q E hr h => ?_)
  · obtain ⟨q, v, p, rfl, _⟩ := h
    rfl
  · obtain ⟨q, v, p, rfl, hq, hv, hp, k⟩ := h
    refine ⟨_, (pss_cons (ps_asg (pv 1) (pg_tup (by rfl) (pgs_cons (pg_name (i := 2) sc__law_rank.nd rfl (Or.inl rfl)) (pgs_cons (pg_name (i := 3) sc__law_rank.nd rfl (Or.inl rfl)) (pgs_cons (pg_name (i := 4) sc__law_rank.nd rfl (Or.inl rfl)) (pgs_cons (pg_name (i := 5) sc__law_rank.nd rfl (Or.inl rfl)) pgs_nil))))))
      (pss_cons (ps_set (i := 6) sc__law_rank.nd rfl (Or.inl rfl) (pe_op op_add (pv 3) pe_int))
      (pss_cons (ps_for PassesOwn.never rfl (pi_tup (pv 4)) (pg_name (i := 7) sc__law_rank.nd rfl (Or.inl rfl)) (pss_cons (ps_for PassesOwn.never rfl (pi_tup (pe_slice sl_tup (pv 7) (po_some pe_int) (po_some (pe_un un_neg pe_int)))) (pg_name (i := 8) sc__law_rank.nd rfl (Or.inl rfl)) (pss_one (ps_set (i := 6) sc__law_rank.nd rfl (Or.inl rfl) (pe_op opN_add (pe_op opN_mulS (pv 6) (pv 0)) (pv 8)))))
      (pss_one (ps_set (i := 6) sc__law_rank.nd rfl (Or.inl rfl) (pe_op opN_sub (pe_op opN_add (pe_op opN_mulS (pv 6) (pe_op opN_sub (pv 0) pe_int)) (pe_ix ix_tup (pv 7) (pe_un un_neg pe_int) (fun _ _ => rfl))) pe_int)))))
      (pss_cons (ps_for PassesOwn.never rfl (pi_tup (pv 5)) (pg_name (i := 9) sc__law_rank.nd rfl (Or.inl rfl)) (pss_one (ps_set (i := 6) sc__law_rank.nd rfl (Or.inl rfl) (pe_op opN_add (pe_op opN_mulS (pv 6) (pv 0)) (pv 9)))))
      (pss_one (ps_ret (pv 6))))))), ?_⟩
    rw [show L2.start N__law_rank [nV q, v] = [some (nV q), some v, none, none, none, none, none, none, none, none] from rfl]
    have hqb := fields_ge hq
    have q60 : q < 2 ^ 60 := Nat.lt_of_le_of_lt hqb.2 (by decide)
    obtain ⟨a, b, t, rfl, hT, hB, hTs⟩ := place_inv hv
    obtain ⟨b', xs, eb, hX, hL⟩ := Tv.tup_inv hB
    cases eb
    have hxl := Tvs.length hL
    rw [List.length_map] at hxl
    obtain ⟨t', et, hTT⟩ := Tv.ns hTs
    cases et
    have e0 : V.int ((p.s1 : Int) - 1 + 1) = nV p.s1 := congrArg V.int (by omega)
    refine ⟨_, rfl, a, _, rfl, hT, rfl, _, _, rfl, _, _, rfl, _, _, rfl, _, _, rfl, rfl, ?_⟩
    refine ⟨_, rfl, _, _, rfl, rfl, ?_⟩
    refine ⟨_, rfl, b, rfl, ⟨_, hX⟩, ?_⟩
    refine for_it walk_tup (fun i σ H2 => Same H H2 ∧ ∃ z y x, σ = [some (nV q), some (.ref a), some (.str (sortOf p.st)), some (.int ((p.s1 : Int) - 1)), some (.ref b), some (.ref t), some (nV (onB q p.s1 (p.bs.take i))), z, y, x])
      ⟨Same.refl _, none, none, none, by rw [List.take_zero]; exact congrArg (fun v => [some (nV q), some (.ref a), some (.str (sortOf p.st)), some (.int ((p.s1 : Int) - 1)), some (.ref b), some (.ref t), some v, none, none, none]) e0⟩ (fun i σ H2 _ p => Same.sqT p.1 hX) (fun i x σ H2 H3 hi pp y => ?_) fun σ H2 pp => ?_
    · obtain ⟨rfl, hx⟩ := y
      obtain ⟨s2, z, y, x', rfl⟩ := pp
      obtain ⟨d, hd, tv⟩ := Tvs.at hL hx
      rw [List.getElem?_map] at hd
      obtain ⟨bb, hb, rfl⟩ := Option.map_eq_some_iff.mp hd
      have gb := hp.bs bb (List.mem_of_getElem? hb)
      obtain ⟨c, rfl, hC⟩ := Tv.ns tv
      have nz := gb.nz
      refine ⟨_, rfl, 2, rfl, 1, rfl, _, rfl, c, _, rfl, Same.sqT s2 hC, whole_mid bb, fun p1 np1 => ?_⟩
      rw [show cutV (bb.nums.map nV) (some 2) (some (-1)) = bb.1.map nV from cut_mid bb]
      have s3 := snu (o := .tup (bb.1.map nV)) s2 np1
      refine ⟨p1, rfl, ⟨_, SqT.of upd_same⟩, ?_⟩
      refine for_it walk_tup (fun j σ H4 => H4 = upd H3 p1 (.tup (bb.1.map nV)) ∧ ∃ y x, σ = [some (nV q), some (.ref a), some (.str (sortOf p.st)), some (.int ((p.s1 : Int) - 1)), some (.ref b), some (.ref t), some (nV (rd q (onB q p.s1 (p.bs.take i)) (bb.1.take j))), some (.ref c), y, x])
        ⟨rfl, y, x', rfl⟩ (fun i σ H2 _ p => by rw [p.1]; exact SqT.of upd_same) (fun j u σ H4 H5 hj pp yy => ?_) fun σ H4 pp => ?_
      · obtain ⟨rfl, hu⟩ := yy
        obtain ⟨rfl, y, x', rfl⟩ := pp
        rw [List.getElem?_map] at hu
        obtain ⟨n, hn, rfl⟩ := Option.map_eq_some_iff.mp hu
        refine ⟨_, rfl, _, rfl, _, q, rfl, rfl, q60, _, rfl, _, n, rfl, rfl, rfl, some (nV n), x', ?_⟩
        rw [take_snoc hn, rd_app]
        rfl
      · obtain ⟨rfl, y, x', rfl⟩ := pp
        rw [List.length_map, List.take_length]
        refine ⟨_, rfl, _, rfl, q, 1, rfl, rfl, by omega, _, q - 1, rfl, rfl, (by show q - 1 < 2 ^ 60; omega), _, rfl, 1, rfl, c, bb.nums.map nV, -1, nV bb.2, rfl, rfl, Same.sqT s3 hC, (by rw [nums_last]; exact atI_last _ _), _, bb.2, rfl, rfl, _, 1, rfl, rfl, Nat.le_trans (by omega : 1 ≤ bb.2) (Nat.le_add_left _ _), s3, some (.ref c), y, x', ?_⟩
        rw [take_snoc hb, onB_snoc]
        refine congrArg (fun v => [some (nV q), some (.ref a), some (.str (sortOf p.st)), some (.int ((p.s1 : Int) - 1)), some (.ref b), some (.ref t), some v, some (.ref c), y, x']) ?_
        show nV (rd q (onB q p.s1 (p.bs.take i)) bb.1 * (q - 1) + bb.2 - 1) = nV _
        rw [Nat.add_sub_assoc (by omega)]
    · obtain ⟨s2, z, y, x', rfl⟩ := pp
      rw [hxl, List.take_length]
      refine ⟨_, rfl, t, rfl, ⟨_, Same.sqT s2 hTT⟩, ?_⟩
      refine for_it walk_tup (fun i σ H3 => H3 = H2 ∧ ∃ x, σ = [some (nV q), some (.ref a), some (.str (sortOf p.st)), some (.int ((p.s1 : Int) - 1)), some (.ref b), some (.ref t), some (nV (rd q (onB q p.s1 p.bs) (p.ts.take i))), z, y, x])
        ⟨rfl, x', rfl⟩ (fun i σ H2 _ p => by rw [p.1]; exact Same.sqT s2 hTT) (fun i x σ H3 H4 hi pp yy => ?_) fun σ H3 pp => ?_
      · obtain ⟨rfl, hu⟩ := yy
        obtain ⟨rfl, x', rfl⟩ := pp
        rw [List.getElem?_map] at hu
        obtain ⟨n, hn, rfl⟩ := Option.map_eq_some_iff.mp hu
        refine ⟨_, rfl, _, rfl, _, q, rfl, rfl, q60, _, rfl, _, n, rfl, rfl, rfl, some (nV n), ?_⟩
        rw [take_snoc hn, rd_app]
        rfl
      · obtain ⟨rfl, x', rfl⟩ := pp
        refine ⟨_, rfl, to (k _ s2) ?_⟩
        rw [List.length_map, List.take_length]
        rfl
def spLDepth (K : PySem.W.Frag) : Sp := fun vs H Q _ => ∃ (v : V) (p : PlD), vs = [v] ∧ Tv K H v (dPlace p) ∧ p.bs.length ≤ 12 ∧ Q (nV (depthD p)) H
theorem ok_ldepth (F : Fun K "_law_depth" "_law_depth" s__law_depth f fd) (B : Blt mg) : FnOk P w K mg base CX0 1 f fd ["_law_place"] (spLDepth K) := by
  refine F.ok sc__law_depth (fun vs H Q E h => ?_) (fun cdv A outer s H vs Q E hr h => ?_)
  · obtain ⟨v, p, rfl, _⟩ := h
    rfl
  · obtain ⟨v, p, rfl, hv, hl, k⟩ := h
    refine ⟨_, (pss_one (ps_ret (pe_op op_add (pe_op op_mul pe_int (pe_callB call_len_seq (by rfl) B.len (by decide +kernel) (pa_cons (pe_ix ix_tup (pv 0) pe_int (fun _ _ => rfl)) pa_nil))) (pe_callTy call_int1 (by rfl) B.int (by decide +kernel) (pa_cons (pe_cmpR op_eq (pe_ix ix_tup (pv 0) pe_int (fun _ _ => rfl)) pe_str (nomark _)) pa_nil))))), ?_⟩
    obtain ⟨a, b, t, rfl, hT, hB, hTs⟩ := place_inv hv
    obtain ⟨b', xs, eb, hX, hL⟩ := Tv.tup_inv hB
    cases eb
    have hxl := Tvs.length hL
    rw [List.length_map] at hxl
    refine ⟨_, rfl, a, _, _, _, rfl, rfl, hT, atI_nat (j := 2) rfl, b, _, rfl, .inr hX, 2, _, rfl, rfl, .inl ⟨by decide, by decide⟩, ?_⟩
    refine ⟨_, rfl, a, _, _, _, rfl, rfl, hT, atI_nat (j := 0) rfl, rfl, .inr ⟨_, rfl, ?_⟩⟩
    refine ⟨_, _, rfl, rfl, to k ?_⟩
    unfold depthD
    rw [hxl]
    cases hst : p.st
    · rw [show decide (V.str (sortOf false) = V.str "bent") = true from eqBB, if_neg Bool.false_ne_true]
      exact congrArg V.int (by simp)
    · rw [show decide (V.str (sortOf true) = V.str "bent") = false from eqSB, if_pos rfl]
      exact congrArg V.int (by simp)
def spLAhead (K : PySem.W.Frag) : Sp := fun vs H Q _ => ∃ (v : V) (p : PlD), vs = [v] ∧ Tv K H v (dPlace p) ∧ ¬ (p.st = true ∧ p.bs = []) ∧ ∀ (u : V) (H' : Hp), Same H H' → Tv K H' u (dPlace (aheadD p)) → Q u H'
theorem whole_init {xs : List V} (h : xs ≠ []) : ¬ (HT.sIx xs.length 0 none = 0 ∧ HT.sIx xs.length xs.length (some (-1)) = xs.length) := fun z => by
  have h1 := z.2
  rw [sIx_neg] at h1
  have h2 : xs.length ≠ 0 := fun z => h (List.length_eq_zero_iff.mp z)
  omega
theorem ok_lahead (F : Fun K "_law_ahead" "_law_ahead" s__law_ahead f fd) : FnOk P w K mg base CX0 1 f fd ["_law_place"] (spLAhead K) := by
  refine F.ok sc__law_ahead (fun vs H Q E h => ?_) (fun cdv A outer s H vs Q E hr h => ?_)
  · obtain ⟨v, p, rfl, _⟩ := h
    rfl
  · obtain ⟨v, p, rfl, hv, hne, k⟩ := h
    refine ⟨_, (pss_cons (ps_asg (pv 0) (pg_tup (by rfl) (pgs_cons (pg_name (i := 1) sc__law_ahead.nd rfl (Or.inl rfl)) (pgs_cons (pg_name (i := 2) sc__law_ahead.nd rfl (Or.inl rfl)) (pgs_cons (pg_name (i := 3) sc__law_ahead.nd rfl (Or.inl rfl)) (pgs_cons (pg_name (i := 4) sc__law_ahead.nd rfl (Or.inl rfl)) pgs_nil))))))
      (pss_cons (ps_if (pt_cmpR op_eq (pv 1) pe_str (nomark _)) (pss_one (ps_ret (pe_tup (pa_cons pe_str (pa_cons (pv 2) (pa_cons (pe_slice sl_tup (pv 3) po_none (po_some (pe_un un_neg pe_int))) (pa_cons (pv 4) pa_nil))))))) pss_nil)
      (pss_one (ps_ret (pe_tup (pa_cons pe_str (pa_cons (pe_ifExp (pt_cmpR (op_eqT hr) (pv 3) (pe_tup pa_nil) (nomark _)) (pe_un un_neg pe_int) (pv 2)) (pa_cons (pv 3) (pa_cons (pe_slice sl_tupA (pv 4) po_none (po_some (pe_un un_neg pe_int))) pa_nil))))))))), ?_⟩
    obtain ⟨a, b, t, rfl, hT, hB, hTs⟩ := place_inv hv
    obtain ⟨b', xs, eb, hX, hL⟩ := Tv.tup_inv hB
    cases eb
    have hxl := Tvs.length hL
    rw [List.length_map] at hxl
    obtain ⟨t', et, hTT⟩ := Tv.ns hTs
    cases et
    obtain ⟨st, s1, bs, ts⟩ := p
    refine ⟨_, rfl, a, _, rfl, hT, rfl, _, _, rfl, _, _, rfl, _, _, rfl, _, _, rfl, rfl, ?_⟩
    refine ⟨_, rfl, rfl, _, rfl, ?_⟩
    rw [sortEq]
    cases st
    · refine iteF ⟨_, rfl, Nat.zero_le _, fun p0 np0 => ⟨_, _, Tv.sm (sameU np0) hB, tv_nil upd_same, (sh_bs _).mono (by decide), sh_nil.mono (by decide), _, rfl, ?_⟩⟩
      have s0 := sameU (o := .tup []) np0
      -- behind the start
      have fin : ∀ u, u = V.int (((if bs = [] then 0 else s1 : Nat) : Int) - 1) → ∃ v, some (V.ref b) = some v ∧ ∃ v2, some (V.ref t) = some v2 ∧ True := fun u _ => ⟨_, rfl, _, rfl, trivial⟩
      have fin2 : ∀ (u : V) (H1 : Hp), u = V.int (((if bs = [] then 0 else s1 : Nat) : Int) - 1) → Same H H1 →
          (HT.sIx (ts.map nV).length 0 none = 0 ∧ HT.sIx (ts.map nV).length (ts.map nV).length (some (-1)) = (ts.map nV).length → ∀ p2, H1 p2 = none → Q (.ref p2) (upd H1 p2 (.tup [.str "straight", u, .ref b, .ref t]))) ∧
          (¬ (HT.sIx (ts.map nV).length 0 none = 0 ∧ HT.sIx (ts.map nV).length (ts.map nV).length (some (-1)) = (ts.map nV).length) → ∀ p1, H1 p1 = none → ∀ p2, upd H1 p1 (.tup (cutV (ts.map nV) none (some (-1)))) p2 = none → Q (.ref p2) (upd (upd H1 p1 (.tup (cutV (ts.map nV) none (some (-1))))) p2 (.tup [.str "straight", u, .ref b, .ref p1]))) := fun u H1 hu sH => by
        subst hu
        refine ⟨fun wh p2 np2 => ?_, fun nw p1 np1 p2 np2 => ?_⟩
        · have e : ts = [] := by
            have h1 := wh.2
            rw [sIx_neg, List.length_map] at h1
            exact List.length_eq_zero_iff.mp (by omega)
          subst e
          exact k _ _ (snu sH np2) (place_mk (p := ⟨true, if bs = [] then 0 else s1, bs, []⟩) upd_same rfl (Tv.sm (snu sH np2) hB) (Tv.sm (snu sH np2) hTs))
        · have s1' := snu (o := .tup (cutV (ts.map nV) none (some (-1)))) sH np1
          refine k _ _ (snu s1' np2) (place_mk (p := ⟨true, if bs = [] then 0 else s1, bs, ts.dropLast⟩) upd_same rfl (Tv.sm (snu s1' np2) hB) ?_)
          refine Tv.ofNs (SqT.of ((sameU np2) _ _ (upd_same.trans ?_)))
          rw [cut_init, List.dropLast_eq_take, List.map_take, List.length_map]
      unfold dBs
      rw [eqv_nil]
      refine ite2 (fun e => ?_) (fun e => ?_)
      · have e1 : bs = [] := List.map_eq_nil_iff.mp (List.isEmpty_iff.mp e)
        have f2 := fin2 (.int (-1)) _ (by rw [if_pos e1]; rfl) s0
        exact ⟨1, rfl, _, rfl, _, rfl, 1, rfl, _, rfl, t, _, rfl, Same.sqT s0 hTT, fun wh => ⟨(by show 4 ≤ sizeLine; decide), f2.1 wh⟩, fun nw p1 np1 => ⟨(by show 4 ≤ sizeLine; decide), f2.2 nw p1 np1⟩⟩
      · have e1 : bs ≠ [] := fun z => e (by rw [show ({ st := false, s1 := s1, bs := bs, ts := ts } : PlD).bs = bs from rfl, z]; rfl)
        have f2 := fin2 (.int ((s1 : Int) - 1)) _ (by rw [if_neg e1]) s0
        exact ⟨_, rfl, _, rfl, _, rfl, 1, rfl, _, rfl, t, _, rfl, Same.sqT s0 hTT, fun wh => ⟨(by show 4 ≤ sizeLine; decide), f2.1 wh⟩, fun nw p1 np1 => ⟨(by show 4 ≤ sizeLine; decide), f2.2 nw p1 np1⟩⟩
    · have hb : bs ≠ [] := fun z => hne ⟨rfl, z⟩
      have xl : xs.length = bs.length := hxl
      have hx : xs ≠ [] := fun z => hb (List.length_eq_zero_iff.mp (by rw [← xl, z]; rfl))
      refine iteT ⟨_, rfl, _, rfl, 1, rfl, _, rfl, b, _, rfl, hX, whole_init hx, fun p1 np1 => ?_⟩
      have s1' := sameU (o := .tup (cutV xs none (some (-1)))) np1
      refine ⟨_, rfl, (by show 4 ≤ sizeLine; decide), fun p2 np2 => k _ _ (snu s1' np2) (place_mk (p := ⟨false, s1, bs.dropLast, ts⟩) upd_same rfl ?_ (Tv.sm (snu s1' np2) hTs))⟩
      have e : Tvs K H (cutV xs none (some (-1))) (bs.dropLast.map fun b => dNs b.nums) := by
        rw [cut_init, List.dropLast_eq_take, List.map_take, ← xl]
        exact Tvs.take _ hL
      exact .tup (SqT.of ((sameU np2) _ _ upd_same)) (Tvs.sm (snu s1' np2) e)
def spChain (K : PySem.W.Frag) : Sp := fun vs H Q _ => ∃ (q : Nat) (v : V) (p : PlD), vs = [v] ∧ Tv K H v (dPlace p) ∧ p.Good q ∧ ∀ (D : Addr) (xs : List V) (H' : Hp), Same H H' → H' D = some (.lst xs) → Tvs K H' xs ((chainTo p (depthD p)).map dPlace) → Q (.ref D) H'
theorem ok_chain (F : Fun K "_law_chain" "_law_chain" s__law_chain f fd) (B : Blt mg) (h__law_depth : Has P w K mg base 1 "_law_depth" s__law_depth ["_law_place"] (spLDepth K)) (h__law_ahead : Has P w K mg base 1 "_law_ahead" s__law_ahead ["_law_place"] (spLAhead K)) : FnOk P w K mg base CX0 2 f fd ["_law_place"] (spChain K) := by
  refine F.ok sc__law_chain (fun vs H Q E h => ?_) (fun cdv A outer s H vs Q E hr h => ?_)
  · obtain ⟨q, v, p, rfl, _⟩ := h
    rfl
  · obtain ⟨q, v, p, rfl, hv, hp, k⟩ := h
    refine ⟨_, (pss_cons (ps_set (i := 1) sc__law_chain.nd rfl (Or.inl rfl) (pe_lst (pa_cons (pv 0) pa_nil)))
      (pss_cons (ps_for PassesOwn.never rfl (pi_range1 rfl B.range (pa_cons (pe_callH h__law_depth hr (by rfl) (pa_cons (pv 0) pa_nil)) pa_nil)) (pg_name (i := 2) sc__law_chain.nd rfl (Or.inl rfl)) (pss_one (ps_expr (pe_bm PySem.F.plainAttrs_list PySem.F.slot_list_append PySem.F.type_list_append mt_append (pv 1) (pa_cons (pe_callH h__law_ahead hr (by rfl) (pa_cons (pe_ix ix_list (pv 1) (pe_un un_neg pe_int) (fun _ _ => rfl)) pa_nil)) pa_nil)))))
      (pss_one (ps_ret (pv 1))))), ?_⟩
    have few := hp.few
    have dl : depthD p ≤ 25 := by
      unfold depthD
      split <;> omega
    refine ⟨_, rfl, (by show 1 ≤ sizeLine; decide), fun D nD => ?_⟩
    have s1 := sameU (o := .lst [v]) nD
    refine ⟨_, rfl, v, p, rfl, Tv.sm s1 hv, few, _, rfl, by omega, by omega, ?_⟩
    refine for_it walk_range (fun i σ H2 => Same H H2 ∧ (∃ xs, H2 D = some (.lst xs) ∧ Tvs K H2 xs ((chainTo p i).map dPlace)) ∧ ∃ z, σ = [some v, some (.ref D), z]) ⟨s1, ⟨[v], upd_same, .cons (Tv.sm s1 hv) .nil⟩, none, rfl⟩ (fun _ _ _ _ _ => trivial) (fun i x σ H2 H3 hi pp y => ?_) fun σ H2 pp => ?_
    · obtain ⟨rfl, rfl⟩ := y
      obtain ⟨s2, ⟨xs, eD, tx⟩, z, rfl⟩ := pp
      rw [Int.toNat_natCast] at hi
      have xl := Tvs.length tx
      have cl : ((chainTo p i).map dPlace).length = i + 1 := by
        unfold chainTo
        rw [List.length_map, List.length_map, List.length_range]
      rw [cl] at xl
      have cg : ((chainTo p i).map dPlace)[i]? = some (dPlace (itA i p)) := by
        unfold chainTo
        rw [List.getElem?_map, List.getElem?_map, List.getElem?_range (by omega)]
        rfl
      obtain ⟨u, hu, tu⟩ := Tvs.get tx cg
      obtain ⟨g1, g2⟩ := itA_good hp i (by omega)
      have hn := not_root (p := itA i p) (by omega)
      have ini : xs = xs.take i ++ [u] := by
        have h1 := take_snoc hu
        rw [List.take_of_length_le (by omega)] at h1
        exact h1
      refine ⟨_, rfl, .inl ⟨rfl, _, SqL.of eD⟩, _, rfl, 1, rfl, D, xs, -1, u, rfl, rfl, SqL.of eD, (by rw [ini]; exact atI_last _ _), u, itA i p, rfl, tu, hn, fun u2 H4 s4 tu2 => ?_⟩
      have eD4 := s4 _ _ eD
      have kt := KeepT.wr (o := .lst (xs ++ [u2])) (no_tup_lst eD4)
      refine ⟨D, xs, u2, rfl, rfl, eD4, small1000 (by omega), smut (s2.trans s4) nD, ⟨_, upd_same, ?_⟩, _, rfl⟩
      have e5 : chainTo p (i + 1) = chainTo p i ++ [aheadD (itA i p)] := by
        unfold chainTo
        rw [List.range_succ, List.map_append]
        rfl
      rw [e5, List.map_append]
      exact Tvs.app (Tvs.keep ((Same.keepT s4).trans kt) _ _ tx) (.cons (Tv.keep kt _ _ tu2) .nil)
    · obtain ⟨s2, ⟨xs, eD, tx⟩, z, rfl⟩ := pp
      rw [Int.toNat_natCast] at tx
      exact ⟨_, rfl, k D xs H2 s2 eD tx⟩
end
end K32
/-! K32O: what is shown; the steps of a block. -/
namespace K32
set_option exponentiation.threshold 2000
open PySem PySem.Spec PyProof.Rows L2
abbrev s__law_in_block : Stmt := topS 75
abbrev N__law_in_block : List Str := ["_law_q", "_law_degrees", "_law_at", "_law_part", "_law_straights", "_law_step", "_law_place", "_law_told", "_law_same"]
theorem sc__law_in_block : FnScope N__law_in_block ["_law_q", "_law_degrees", "_law_at", "_law_part", "_law_straights"] (defScope s__law_in_block) := ⟨rfl, rfl, rfl, by decide +kernel, rfl, by decide +kernel, by decide +kernel⟩
/-! ### data's text -/
structure Shw (d : TD) (W D : Nat) : Prop where
  sh : d.py.showable = true
  lay : d.py.canLay0 = true
  leaf : d.py.leavesShort 1921 = true
  wt : d.py.weight ≤ W
  dep : d.py.depth ≤ D
theorem Shw.mono {d : TD} {W D W2 D2 : Nat} (h : Shw d W D) (h1 : W ≤ W2) (h2 : D ≤ D2) : Shw d W2 D2 := ⟨h.sh, h.lay, h.leaf, Nat.le_trans h.wt h1, Nat.le_trans h.dep h2⟩
theorem Shw.int {i : Int} {k : Nat} (h : i.natAbs < 2 ^ k) (h0 : 0 < k) (h1 : k ≤ 1000) : Shw (.int i) k 0 := by
  have hl := PySem.Flt.log2_lt_of h0 h
  have e : (TD.int i).py = .int i := by simp [TD.py]
  have h2 : i.natAbs.log2 < 1920 := by omega
  refine ⟨?_, ?_, ?_, ?_, ?_⟩ <;> rw [e]
  · simp only [PyData.showable, decide_eq_true_eq]
    exact h2
  · simp only [PyData.canLay0]
  · simp only [PyData.leavesShort, decide_eq_true_eq]
    rw [PyData.shown_int]
    exact int_text_len_1921 h2
  · simp only [PyData.weight]
    split <;> omega
  · simp only [PyData.depth]
    exact Nat.le_refl _
theorem Shw.str (b : Bool) : Shw (.str (sortOf b)) 8 0 := by
  have e : (TD.str (sortOf b)).py = .str (sortOf b) := by simp [TD.py]
  refine ⟨?_, ?_, ?_, ?_, ?_⟩ <;> rw [e]
  · simp only [PyData.showable]
  · simp only [PyData.canLay0]
    cases b <;> decide +kernel
  · simp only [PyData.leavesShort]
    cases b <;> decide +kernel
  · simp only [PyData.weight]
    cases b <;> decide +kernel
  · simp only [PyData.depth]
    exact Nat.le_refl _
theorem Shw.tup {ds : List TD} {W D : Nat} (h : ∀ d ∈ ds, Shw d W D) : Shw (.tup ds) (ds.length * (W + 1)) (D + 1) := by
  have e : (TD.tup ds).py = .tuple (TD.pys ds) := by simp [TD.py]
  have key : ∀ ds : List TD, (∀ d ∈ ds, Shw d W D) → PyData.showableAll (TD.pys ds) = true ∧ PyData.canLayAll0 (TD.pys ds) = true ∧ PyData.leavesShortAll 1921 (TD.pys ds) = true ∧ PyData.weightAll (TD.pys ds) ≤ ds.length * (W + 1) ∧ PyData.depthAll (TD.pys ds) ≤ D := by
    intro ds
    induction ds with
    | nil => intro _; refine ⟨?_, ?_, ?_, ?_, ?_⟩ <;> simp [TD.pys, PyData.showableAll, PyData.canLayAll0, PyData.leavesShortAll, PyData.weightAll, PyData.depthAll]
    | cons d ds ih =>
      intro h
      have h1 := h d List.mem_cons_self
      obtain ⟨a1, a2, a3, a4, a5⟩ := ih fun e he => h e (List.mem_cons_of_mem _ he)
      simp only [TD.pys, PyData.showableAll, PyData.canLayAll0, PyData.leavesShortAll, PyData.weightAll, PyData.depthAll, h1.sh, h1.lay, h1.leaf, a1, a2, a3, Bool.and_true, true_and]
      have h2 := h1.wt
      refine ⟨?_, Nat.max_le.mpr ⟨h1.dep, a5⟩⟩
      rw [List.length_cons, Nat.succ_mul]
      omega
  obtain ⟨a1, a2, a3, a4, a5⟩ := key ds h
  refine ⟨?_, ?_, ?_, ?_, ?_⟩ <;> rw [e]
  · simpa only [PyData.showable] using a1
  · simpa only [PyData.canLay0] using a2
  · simpa only [PyData.leavesShort] using a3
  · simpa only [PyData.weight] using a4
  · simp only [PyData.depth]
    omega
theorem Shw.len {d : TD} {W D : Nat} (h : Shw d W D) (hW : W ≤ 8000) : d.py.shown.length ≤ sizeLine := by
  have h1 := PyData.shown_le 1921 (by decide) d.py h.leaf
  have h2 := h.wt
  have h3 : sizeLine = 16777216 := by decide
  omega
def rReprT (K : PySem.W.Frag) : List V → Hp → VK → Prop := fun xs H Q => ∃ (a : Addr) (d : TD), xs = [.ref a] ∧ Tv K H (.ref a) d ∧ Shw d 8000 60 ∧ Q (.str d.py.shown) H
theorem call_reprT {X : Cx} (hg : X.A.guards = some []) (hu : X.A.units + 64 < cLine) : CallR X (.builtin "repr") (rReprT X.K) := fun pins s σ H xs us Q I r ⟨a, d, e, t, h, q⟩ =>
  call_repr hg hu pins s σ H xs us Q I r ⟨a, d.py, e, Tv.dp _ _ t, h.sh, PyData.hasDict_of_canLay _ h.lay, h.dep, h.len (Nat.le_refl _), q⟩
theorem shw_ns {ns : List Nat} {k m : Nat} (h : ∀ n ∈ ns, n < 2 ^ k) (h0 : 0 < k) (h1 : k ≤ 1000) (hm : ns.length ≤ m) : Shw (dNs ns) (m * (k + 1)) 1 := by
  refine (Shw.tup (W := k) (D := 0) fun d hd => ?_).mono ?_ (Nat.le_refl _)
  · obtain ⟨n, hn, rfl⟩ := List.mem_map.mp hd
    exact Shw.int (by rw [Int.natAbs_natCast]; exact h n hn) h0 h1
  · rw [List.length_map]
    exact Nat.mul_le_mul_right _ hm
theorem shw_place {q : Nat} {p : PlD} (hq : q ∈ fields) (g : p.Good q) : Shw (dPlace p) 2500 3 := by
  have hb := fields_ge hq
  have few := g.few
  have len := g.len
  have tl : p.ts.length ≤ 12 := by
    rw [len]
    split <;> omega
  refine (Shw.tup (W := 600) (D := 2) fun d hd => ?_).mono (by show 4 * 601 ≤ 2500; decide) (by decide)
  simp only [List.mem_cons, List.not_mem_nil, or_false] at hd
  rcases hd with rfl | rfl | rfl | rfl
  · exact (Shw.str _).mono (by decide) (by decide)
  · have h1 := g.s1
    exact (Shw.int (k := 6) (Nat.lt_of_le_of_lt (by omega : ((p.s1 : Int) - 1).natAbs ≤ 17) (by decide)) (by decide) (by decide)).mono (by decide) (by decide)
  · refine (Shw.tup (W := 49) (D := 1) fun d hd => ?_).mono ?_ (by decide)
    · obtain ⟨b, hb2, rfl⟩ := List.mem_map.mp hd
      have gb := g.bs b hb2
      have hl := gb.len
      exact (shw_ns (k := 6) (m := 7) (fun n hn => Nat.lt_of_lt_of_le (nums_lt (by omega) gb n hn) (Nat.le_trans hb.2 (by decide))) (by decide) (by decide) (by rw [b.nums_len]; unfold Bend.deg; omega))
    · rw [List.length_map]
      exact Nat.le_trans (Nat.mul_le_mul_right _ few) (by decide)
  · exact (shw_ns (k := 6) (m := 12) (fun n hn => Nat.lt_of_lt_of_le (g.ts n hn) (Nat.le_trans hb.2 (by decide))) (by decide) (by decide) tl).mono (by decide) (by decide)
theorem shw_ds {ds : List Nat} (h : DsOk ds) : Shw (dNs ds) 2500 3 := (shw_ns (k := 6) (m := 12) (fun n hn => Nat.lt_of_le_of_lt (h.1 n hn).2 (by decide)) (by decide) (by decide) h.2).mono (by decide) (by decide)
theorem shw_pair {d e : TD} (h1 : Shw d 2500 3) (h2 : Shw e 2500 3) : Shw (.tup [d, e]) 8000 60 := by
  refine (Shw.tup (W := 2500) (D := 3) fun x hx => ?_).mono (by show 2 * 2501 ≤ 8000; decide) (by decide)
  simp only [List.mem_cons, List.not_mem_nil, or_false] at hx
  rcases hx with rfl | rfl
  · exact h1
  · exact h2
theorem shw_nums {a b : Nat} (h1 : Big a) (h2 : Big b) : Shw (dNs [a, b]) 8000 60 := (shw_ns (k := 1000) (m := 2) (fun n hn => by
  simp only [List.mem_cons, List.not_mem_nil, or_false] at hn
  rcases hn with rfl | rfl
  · exact h1
  · exact h2) (by decide) (by decide) (Nat.le_refl _)).mono (by decide) (by decide)
/-! ### calls by keywords -/
def swap2 {α : Type} : List α → List α
  | [a, b] => [b, a]
  | _ => []
def rev3 {α : Type} : List α → List α
  | [a, b, c] => [c, b, a]
  | _ => []
def rot3 {α : Type} : List α → List α
  | [a, b, c] => [c, a, b]
  | _ => []
theorem len_swap2 {α : Type} {ws : List α} (h : (swap2 ws).length = 2) : ∃ a b, ws = [a, b] := by
  match ws, h with
  | [], h => cases h
  | [_], h => cases h
  | [a, b], _ => exact ⟨a, b, rfl⟩
  | _ :: _ :: _ :: _, h => cases h
theorem len_rev3 {α : Type} {ws : List α} (h : (rev3 ws).length = 3) : ∃ a b c, ws = [a, b, c] := by
  match ws, h with
  | [], h => cases h
  | [_], h => cases h
  | [_, _], h => cases h
  | [a, b, c], _ => exact ⟨a, b, c, rfl⟩
  | _ :: _ :: _ :: _ :: _, h => cases h
theorem len_rot3 {α : Type} {ws : List α} (h : (rot3 ws).length = 3) : ∃ a b c, ws = [a, b, c] := by
  match ws, h with
  | [], h => cases h
  | [_], h => cases h
  | [_, _], h => cases h
  | [a, b, c], _ => exact ⟨a, b, c, rfl⟩
  | _ :: _ :: _ :: _ :: _, h => cases h
theorem vals_swap2 {zs : List V} {ws : List Value} (r : Vals zs ws) : Vals (swap2 zs) (swap2 ws) := by
  cases r with
  | nil => exact .nil
  | cons a r =>
  cases r with
  | nil => exact .nil
  | cons b r =>
  cases r with
  | nil => exact .cons b (.cons a .nil)
  | cons c r => exact .nil
theorem vals_rev3 {zs : List V} {ws : List Value} (r : Vals zs ws) : Vals (rev3 zs) (rev3 ws) := by
  cases r with
  | nil => exact .nil
  | cons a r =>
  cases r with
  | nil => exact .nil
  | cons b r =>
  cases r with
  | nil => exact .nil
  | cons c r =>
  cases r with
  | nil => exact .cons c (.cons b (.cons a .nil))
  | cons d r => exact .nil
theorem vals_rot3 {zs : List V} {ws : List Value} (r : Vals zs ws) : Vals (rot3 zs) (rot3 ws) := by
  cases r with
  | nil => exact .nil
  | cons a r =>
  cases r with
  | nil => exact .nil
  | cons b r =>
  cases r with
  | nil => exact .nil
  | cons c r =>
  cases r with
  | nil => exact .cons c (.cons a (.cons b .nil))
  | cons d r => exact .nil
theorem kb_step_number (kV doc pm : Value) (an : Option Addr) (cdv ct : Value) (ws : List Value) (h : (swap2 ws).length = 2) :
    bindArgs (PySem.W.fnOf "step_number" "step_number" (defArgs s_step_number) (defBody s_step_number) (defScope s_step_number) .none kV doc pm an cdv ct) ⟨[], (["step", "q"] : List Str).zip ws⟩ = pure ((["q", "step"] : List Str).zip (swap2 ws)) := by
  obtain ⟨a, b, rfl⟩ := len_swap2 h
  rfl
/-! ### the steps of a block -/
theorem cut_3 (a b c d : V) : cutV [a, b, c, d] none (some 3) = [a, b, c] := by
  unfold cutV
  have e2 : HT.sIx [a, b, c, d].length [a, b, c, d].length (some 3) = min 3 [a, b, c, d].length := HT.sIx_nat _ _ 3
  rw [e2, HT.sIx_none]
  rfl
theorem whole_3 (a b c d : V) : ¬ (HT.sIx [a, b, c, d].length 0 none = 0 ∧ HT.sIx [a, b, c, d].length [a, b, c, d].length (some 3) = [a, b, c, d].length) := fun z => by
  have e2 : HT.sIx [a, b, c, d].length [a, b, c, d].length (some 3) = min 3 [a, b, c, d].length := HT.sIx_nat _ _ 3
  have h1 := z.2
  rw [e2] at h1
  exact absurd h1 (by show ¬ min 3 4 = 4; decide)
section
variable {P : Program} {w : World} {K : PySem.W.Frag} {mg : Str → Option Value} {base : Heap} {f : Addr} {fd : FuncData}
def spInBlock (K : PySem.W.Frag) : Sp := fun vs H Q _ => ∃ (q : Nat) (v : V) (ds : List Nat) (a p : Nat), vs = [nV q, v, nV a, nV p, nV (mst q)] ∧ q ∈ fields ∧ Tv K H v (dNs ds) ∧ DsOk ds ∧ a < mpl q ds ∧ p < mst q ∧ ∀ H', Same H H' → Q (.bl true) H'
theorem ok_in_block (F : Fun K "_law_in_block" "_law_in_block" s__law_in_block f fd) (B : Blt mg) (h_step_at : Has P w K mg base 9 "step_at" s_step_at ["q", "degrees", "number"] (spStepAt K)) (h_place_of : Has P w K mg base 9 "place_of" s_place_of ["q", "step", "sort"] (spPlaceOf K))
    (h_degrees_of : Has P w K mg base 9 "degrees_of" s_degrees_of ["q", "step"] (spDegs K)) (h__law_rank : Has P w K mg base 9 "_law_rank" s__law_rank ["_law_q", "_law_place"] (spRank K)) (h_step_number : Has P w K mg base 9 "step_number" s_step_number ["q", "step"] (spStepNum K))
    (h_step_of_place : Has P w K mg base 9 "step_of_place" s_step_of_place ["q", "place"] (spStepOfPlace K)) (h_nothing : Has P w K mg base 9 "nothing" s_nothing [] (spNothing K)) : FnG P w K mg base 10 f fd ["_law_q", "_law_degrees", "_law_at", "_law_part", "_law_straights"] (spInBlock K) := by
  refine FnG.of F sc__law_in_block (fun vs H Q E h => ?_) (fun cdv A outer s H vs Q E hG hr h => ?_)
  · obtain ⟨q, v, ds, a, p, rfl, _⟩ := h
    rfl
  · obtain ⟨q, v, ds, a, p, rfl, hq, hv, hd, ha, hp, k⟩ := h
    refine ⟨_, (pss_cons (ps_set (i := 5) sc__law_in_block.nd rfl (Or.inl rfl) (pe_callH h_step_at hr (by rfl) (pa_cons (pv 0) (pa_cons (pv 1) (pa_cons (pe_op opN_add (pe_op opN_mulS (pv 2) (pv 4)) (pv 3)) pa_nil)))))
      (pss_cons (ps_set (i := 6) sc__law_in_block.nd rfl (Or.inl rfl) (pe_callH h_place_of hr (by rfl) (pa_cons (pv 0) (pa_cons (pv 5) (pa_cons pe_str pa_nil)))))
      (pss_cons (ps_if (PW.pt (pw_or (pt_cmpR op_ne (pe_callB (call_reprT hG hr.units) (by rfl) B.repr (by decide +kernel) (pa_cons (pe_tup (pa_cons (pv 6) (pa_cons (pe_callH h_degrees_of hr (by rfl) (pa_cons (pv 0) (pa_cons (pv 5) pa_nil))) pa_nil))) pa_nil)) (pe_callB (call_reprT hG hr.units) (by rfl) B.repr (by decide +kernel) (pa_cons (pe_tup (pa_cons (pe_op op_catT (pe_tup (pa_cons pe_str pa_nil)) (pe_slice sl_tup (pv 5) po_none (po_some pe_int))) (pa_cons (pv 1) pa_nil))) pa_nil)) (nomark _)) (pw_or1 (pt_cmpR opN_ne (pe_callH h__law_rank hr (by rfl) (pa_cons (pv 0) (pa_cons (pv 6) pa_nil))) (pv 2) (nomark _))))) (pss_one (ps_ret pe_bl)) pss_nil)
      (pss_cons (ps_set (i := 7) sc__law_in_block.nd rfl (Or.inl rfl) (pe_tup (pa_cons (pe_callH h_step_number hr (by rfl) (pa_cons (pv 0) (pa_cons (pv 5) pa_nil))) (pa_cons (pe_callHK (g := swap2) (gV := swap2) h_step_number hr (by rfl) kb_step_number vals_swap2 (pk_cons (pe_tup (pa_cons (pe_un un_neg pe_int) (pa_cons (pe_tup pa_nil) (pa_cons (pe_tup pa_nil) (pa_cons (pe_ix ix_tup (pv 5) pe_int (fun _ _ => rfl)) pa_nil))))) (pk_cons (pv 0) pk_nil))) pa_nil))))
      (pss_cons (ps_if (pt_cmpR op_ne (pe_callB (call_reprT hG hr.units) (by rfl) B.repr (by decide +kernel) (pa_cons (pv 7) pa_nil)) (pe_callB (call_reprT hG hr.units) (by rfl) B.repr (by decide +kernel) (pa_cons (pe_tup (pa_cons (pe_op opN_add (pe_op opN_mulS (pv 2) (pv 4)) (pv 3)) (pa_cons (pv 3) pa_nil))) pa_nil)) (nomark _)) (pss_one (ps_ret pe_bl)) pss_nil)
      (pss_cons (ps_set (i := 8) sc__law_in_block.nd rfl (Or.inl rfl) (pe_op opN_sub (pe_callH h_step_number hr (by rfl) (pa_cons (pv 0) (pa_cons (pe_callH h_step_of_place hr (by rfl) (pa_cons (pv 0) (pa_cons (pv 6) pa_nil))) pa_nil))) (pe_op opN_mulS (pv 2) (pv 4))))
      (pss_one (ps_ret (pe_cmpR opN_eq (pv 8) (pe_callH h_step_number hr (by rfl) (pa_cons (pv 0) (pa_cons (pe_callH0 h_nothing hr (by rfl)) pa_nil))) (nomark _)))))))))), ?_⟩
    rw [show L2.start N__law_in_block [nV q, v, nV a, nV p, nV (mst q)] = [some (nV q), some v, some (nV a), some (nV p), some (nV (mst q)), none, none, none, none] from rfl]
    have hqb := fields_ge hq
    have mp := mst_pos hqb.1
    have m60 : mst q < 2 ^ 60 := bd_mono (mst_bd hq) (by decide)
    obtain ⟨n, hn⟩ : ∃ n, a * mst q + p = n := ⟨_, rfl⟩
    have hnb : n < mpl q ds * mst q := by
      have h1 : (a + 1) * mst q ≤ mpl q ds * mst q := Nat.mul_le_mul_right _ ha
      rw [Nat.add_mul, Nat.one_mul] at h1
      omega
    have hdv : n / mst q = a := by
      rw [← hn, Nat.mul_comm, Nat.mul_add_div mp, Nat.div_eq_of_lt hp, Nat.add_zero]
    have hmd : n % mst q = p := by
      rw [← hn, Nat.mul_comm, Nat.mul_add_mod, Nat.mod_eq_of_lt hp]
    have hnB : Big n := by
      have h1 := mul_bd (mpl_bd hq hd.1) (mst_bd hq)
      exact bigE (Nat.lt_trans hnb h1) (by have := hd.2; omega)
    have hpB : Big p := bigE (Nat.lt_trans hp (mst_bd hq)) (by decide)
    have all := stepAt_all hq hd.1 hd.2 hnb
    have num := stepNum_at hq hd.1 hd.2 hnb
    have mal := (mapAt_all hq hp).2.1
    obtain ⟨S, hS⟩ : ∃ S, stepAt q ds n = S := ⟨_, rfl⟩
    rw [hS] at all num
    obtain ⟨g, sdeg, srank, shead, sm⟩ := all
    rw [hdv] at srank shead
    rw [hmd] at sm
    rw [← sm] at mal
    refine ⟨_, rfl, _, rfl, _, rfl, _, rfl, a, mst q, rfl, rfl, m60, _, rfl, _, p, rfl, rfl, q, v, ds, n, congrArg (fun z => [nV q, v, nV z]) hn, hq, hv, hd, hnb, fun u H1 s1 tu => ?_⟩
    rw [hS] at tu
    refine ⟨_, rfl, _, rfl, q, u, S, rfl, hq, tu, g, fun pl H2 s2 tp => ?_⟩
    have tu2 := Tv.sm s2 tu
    have hv2 := Tv.sm (s1.trans s2) hv
    refine ⟨_, rfl, _, rfl, _, rfl, q, u, S, rfl, hq, tu2, g, fun dg H3 s3 tdg => ?_⟩
    rw [sdeg] at tdg
    refine ⟨(by show 2 ≤ sizeLine; decide), fun p1 np1 => ?_⟩
    have s4 := snu (o := .tup [pl, dg]) s3 np1
    have t1 : Tv K (upd H3 p1 (.tup [pl, dg])) (.ref p1) (.tup [dPlace (placeOf S), dNs ds]) := .tup (SqT.of upd_same) (.cons (Tv.sm s4 tp) (.cons (Tv.sm (sameU np1) tdg) .nil))
    have sh1 : Shw (.tup [dPlace (placeOf S), dNs ds]) 8000 60 := shw_pair (shw_place hq (placeOf_good g)) (shw_ds hd)
    refine ⟨p1, _, rfl, t1, sh1, ?_⟩
    have tu4 := Tv.sm s4 tu2
    have hv4 := Tv.sm s4 hv2
    obtain ⟨ua, ub, ut, um, rfl, uT, uB, uTs, uM⟩ := step_inv tu4
    refine ⟨(by show 1 ≤ sizeLine; decide), fun p2 np2 => ?_⟩
    have s5 := snu (o := .tup [.str "straight"]) (sameU (o := .tup [pl, dg]) np1) np2
    have sA := sameU (o := .tup [.str "straight"]) np2
    refine ⟨_, rfl, 3, rfl, ua, _, rfl, Same.sqT sA uT, whole_3 _ _ _ _, fun p3 np3 => ?_⟩
    rw [show cutV [V.int ((S.s1 : Int) - 1), .ref ub, .ref ut, .ref um] none (some 3) = [V.int ((S.s1 : Int) - 1), .ref ub, .ref ut] from cut_3 _ _ _ _]
    have sB := sameU (o := .tup [.int ((S.s1 : Int) - 1), .ref ub, .ref ut]) np3
    refine ⟨p2, p3, _, _, rfl, rfl, SqT.of (sB _ _ upd_same), SqT.of upd_same, (fun z => by cases z), (by show 4 ≤ sizeLine; decide), (fun z => by cases z), fun _ p4 np4 => ?_⟩
    have sC := sameU (o := .tup ([.str "straight"] ++ [.int ((S.s1 : Int) - 1), .ref ub, .ref ut])) np4
    have sABC := (sA.trans sB).trans sC
    refine ⟨_, rfl, (by show 2 ≤ sizeLine; decide), fun p5 np5 => ?_⟩
    have sD := sameU (o := .tup [.ref p4, v]) np5
    have sAD := sABC.trans sD
    have t4 : Tv K _ (.ref p4) (dPlace (placeOf S)) := place_mk (p := placeOf S) (sv := .str "straight") (sD _ _ upd_same) rfl (Tv.sm sAD uB) (Tv.sm sAD uTs)
    refine ⟨p5, .tup [dPlace (placeOf S), dNs ds], rfl, .tup (SqT.of upd_same) (.cons t4 (.cons (Tv.sm sAD hv4) .nil)), sh1, rfl, _, rfl, ?_⟩
    rw [show decide (V.str (TD.tup [dPlace (placeOf S), dNs ds]).py.shown = V.str (TD.tup [dPlace (placeOf S), dNs ds]).py.shown) = true from decide_eq_true rfl]
    have s25 : Same H2 _ := s4.trans sAD
    refine iteF ⟨_, rfl, _, rfl, q, pl, placeOf S, rfl, hq, Tv.sm s25 tp, placeOf_good g, fun H6 s6 => ⟨_, rfl, rankP q (placeOf S), a, rfl, rfl, _, rfl, ?_⟩⟩
    rw [show decide (rankP q (placeOf S) = a) = true from decide_eq_true srank]
    have s26 := s25.trans s6
    refine iteF ?_
    -- the numbers that are told
    refine ⟨_, rfl, _, rfl, q, _, S, rfl, hq, Tv.sm s26 tu2, g, fun H7 s7 => ?_⟩
    have s27 := s26.trans s7
    obtain ⟨ua', ub', ut', um', e', uT2, uB2, uTs2, uM2⟩ := step_inv (Tv.sm s27 tu2)
    cases e'
    refine ⟨1, rfl, Nat.zero_le _, fun r1 nr1 => ⟨Nat.zero_le _, fun r2 nr2 => ?_⟩⟩
    have sE := snu (o := .tup []) (sameU (o := .tup []) nr1) nr2
    refine ⟨_, rfl, ua, _, _, _, rfl, rfl, Same.sqT sE uT2, atI_nat (j := 3) rfl, (by show 4 ≤ sizeLine; decide), fun r3 nr3 => ?_⟩
    have sF := snu (o := .tup [.int (-1), .ref r1, .ref r2, .ref um']) sE nr3
    refine ⟨_, rfl, q, .ref r3, ⟨0, [], [], S.m⟩, rfl, hq, ?_, ?_, fun H8 s8 => ?_⟩
    · refine .tup (SqT.of upd_same) (.cons (.int _) (.cons (Tv.sm (snu (sameU nr2) nr3) (tv_nil upd_same)) (.cons (Tv.sm (sameU nr3) (tv_nil upd_same)) (.cons (Tv.sm sF uM2) .nil))))
    · exact ⟨Nat.zero_le _, (fun b hb => absurd hb List.not_mem_nil), (fun t ht => absurd ht List.not_mem_nil), g.m, rfl, Nat.zero_le _, fun _ => rfl⟩
    · have e0 : stepNum q ⟨0, [], [], S.m⟩ = p := by
        show 0 * mst q + mapNum q S.m = p
        rw [Nat.zero_mul, Nat.zero_add]
        exact mal
      refine ⟨(by show 2 ≤ sizeLine; decide), fun r4 nr4 => ?_⟩
      have s28 := (s27.trans sF).trans s8
      have s29 := snu (o := .tup [nV (stepNum q S), nV (stepNum q ⟨0, [], [], S.m⟩)]) s28 nr4
      have t6 : Tv K (upd H8 r4 (.tup [nV (stepNum q S), nV (stepNum q ⟨0, [], [], S.m⟩)])) (.ref r4) (dNs [n, p]) := Tv.ofNs (SqT.of (upd_same.trans (by rw [num, e0]; rfl)))
      refine ⟨_, rfl, r4, _, rfl, t6, shw_nums hnB hpB, ?_⟩
      refine ⟨_, rfl, _, rfl, a, mst q, rfl, rfl, m60, _, rfl, _, p, rfl, rfl, _, rfl, (by show 2 ≤ sizeLine; decide), fun r5 nr5 => ?_⟩
      refine ⟨r5, dNs [n, p], rfl, Tv.ofNs (SqT.of (upd_same.trans (by show some (HO.tup [nV (a * mst q + p), nV p]) = _; rw [hn]; rfl))), shw_nums hnB hpB, rfl, _, rfl, ?_⟩
      rw [show decide (V.str (dNs [n, p]).py.shown = V.str (dNs [n, p]).py.shown) = true from decide_eq_true rfl]
      have s210 := snu (o := .tup [nV (a * mst q + p), nV p]) s29 nr5
      refine iteF ?_
      refine ⟨_, rfl, _, rfl, _, rfl, q, pl, placeOf S, rfl, hq, Tv.sm s210 tp, placeOf_good g, rfl, fun us H9 s9 tus => ?_⟩
      have gs : (stepOf (placeOf S)).Good q := ⟨g.s1, g.bs, g.ts, ident_good hq, g.len, g.few, g.nil⟩
      refine ⟨q, us, stepOf (placeOf S), rfl, hq, tus, gs, fun H10 s10 => ?_⟩
      have e1 : stepNum q (stepOf (placeOf S)) = a * mst q + mapNum q ident := by
        show head q S * mst q + mapNum q ident = _
        rw [shead]
      refine ⟨_, rfl, _, rfl, a, mst q, rfl, rfl, m60, stepNum q (stepOf (placeOf S)), a * mst q, rfl, rfl, by rw [e1]; exact Nat.le_add_right _ _, ?_⟩
      refine ⟨_, rfl, _, rfl, rfl, fun un tun => ?_⟩
      have gn : noStep.Good q := ⟨Nat.zero_le _, (fun b hb => absurd hb List.not_mem_nil), (fun t ht => absurd ht List.not_mem_nil), ident_good hq, rfl, Nat.zero_le _, fun _ => rfl⟩
      refine ⟨q, un, noStep, rfl, hq, tun, gn, fun H11 s11 => ?_⟩
      refine ⟨_, _, rfl, rfl, to (k _ (((s1.trans s2).trans s210).trans ((s9.trans s10).trans s11))) ?_⟩
      refine congrArg V.bl (decide_eq_true ?_).symm
      rw [e1, Nat.add_sub_cancel_left]
      show mapNum q ident = 0 * mst q + mapNum q ident
      rw [Nat.zero_mul, Nat.zero_add]
end
end K32
/-! K32P: along the chain. -/
namespace K32
set_option exponentiation.threshold 2000
open PySem PySem.Spec PyProof.Rows L2
abbrev s__law_along_chain : Stmt := topS 76
abbrev N__law_along_chain : List Str := ["_law_deck_here", "_law_q", "_law_place", "_law_found", "_law_chain_here", "_law_near", "_law_far", "_law_degree", "_law_less"]
theorem sc__law_along_chain : FnScope N__law_along_chain ["_law_deck_here", "_law_q", "_law_place"] (defScope s__law_along_chain) := ⟨rfl, rfl, rfl, by decide +kernel, rfl, by decide +kernel, by decide +kernel⟩
/-- the place at a depth of the chain, its form -/
theorem itA_form {q : Nat} {p : PlD} (g : p.Good q) (hst : p.st = true) : ∀ k, k ≤ depthD p → (itA k p).st = decide ((depthD p - k) % 2 = 0) ∧ (itA k p).bs = p.bs.take ((depthD p - k) / 2) := by
  have hd : depthD p = 2 * p.bs.length := by
    unfold depthD
    rw [if_pos hst]
  intro k
  induction k with
  | zero =>
    intro _
    refine ⟨?_, ?_⟩
    · rw [Nat.sub_zero, hd, Nat.mul_mod_right]
      exact hst
    · rw [Nat.sub_zero, hd, Nat.mul_div_cancel_left _ (by decide : 0 < 2), List.take_length]
      rfl
  | succ k ih =>
    intro hk
    obtain ⟨h1, h2⟩ := ih (by omega)
    show (aheadD (itA k p)).st = _ ∧ (aheadD (itA k p)).bs = _
    obtain ⟨j, hj⟩ : ∃ j, depthD p - k = j + 1 := ⟨depthD p - k - 1, by omega⟩
    have hj2 : depthD p - (k + 1) = j := by omega
    rw [hj] at h1 h2
    rw [hj2]
    have hjl : j + 1 ≤ 2 * p.bs.length := by omega
    by_cases e : (j + 1) % 2 = 0
    · rw [decide_eq_true e] at h1
      unfold aheadD
      rw [if_pos h1]
      refine ⟨?_, ?_⟩
      · rw [decide_eq_false (by omega)]
      · show (itA k p).bs.dropLast = _
        rw [h2, List.dropLast_eq_take, List.take_take, List.length_take]
        congr 1
        omega
    · rw [decide_eq_false e] at h1
      unfold aheadD
      rw [if_neg (by rw [h1]; exact Bool.false_ne_true)]
      refine ⟨?_, ?_⟩
      · rw [decide_eq_true (by omega)]
      · show (itA k p).bs = _
        rw [h2]
        congr 1
        omega
def prodJ (q : Nat) (ds : List Nat) (j : Nat) : Nat := mpl q (ds.take (j / 2)) * (if j % 2 = 1 then (if j / 2 = 0 then q + 1 else q) else 1)
theorem prodJ_even {q : Nat} {ds : List Nat} {j : Nat} (h : j % 2 = 0) : prodJ q ds (j + 1) = prodJ q ds j * (if j / 2 = 0 then q + 1 else q) := by
  unfold prodJ
  rw [if_neg (by omega : ¬ j % 2 = 1), if_pos (by omega : (j + 1) % 2 = 1), Nat.mul_one, show (j + 1) / 2 = j / 2 by omega]
theorem prodJ_odd {q : Nat} {ds : List Nat} {j d : Nat} (h : j % 2 = 1) (hd : ds[j / 2]? = some d) : prodJ q ds (j + 1) = prodJ q ds j * mb q d := by
  unfold prodJ
  have hl := (List.getElem?_eq_some_iff.mp hd).1
  rw [if_pos h, if_neg (by omega : ¬ (j + 1) % 2 = 1), Nat.mul_one, show (j + 1) / 2 = j / 2 + 1 by omega, take_snoc hd, mpl_snoc, List.length_take, Nat.min_eq_left (by omega)]
  split <;> ac_rfl
theorem mb_less {q d : Nat} (hq : 2 ≤ q) (h2 : 2 ≤ d) : (if 2 < d then q ^ (d - 1 - 1) - 1 else 0) ≤ q ^ (d - 1) - 1 ∧ q ^ (d - 1) - 1 - (if 2 < d then q ^ (d - 1 - 1) - 1 else 0) = mb q d := by
  obtain ⟨e, rfl⟩ : ∃ e, d = e + 2 := ⟨d - 2, by omega⟩
  have p1 : 0 < q ^ e := Nat.pow_pos (by omega)
  have p2 : q ^ e * 2 ≤ q ^ e * q := Nat.mul_le_mul_left _ hq
  have hm : mb q (e + 2) = q ^ e * q - q ^ e := by
    unfold mb
    rw [show e + 2 - 2 = e by omega, Nat.mul_comm, Nat.mul_sub, Nat.mul_one]
  rw [hm, show e + 2 - 1 = e + 1 by omega, Nat.pow_succ, show e + 1 - 1 = e by omega]
  by_cases h : 2 < e + 2
  · rw [if_pos h]
    omega
  · rw [if_neg h]
    have : e = 0 := by omega
    subst this
    simp
theorem kb_many_behind (kV doc pm : Value) (an : Option Addr) (cdv ct : Value) (ws : List Value) (h : (rot3 ws).length = 3) :
    bindArgs (PySem.W.fnOf "many_behind" "many_behind" (defArgs s_many_behind) (defBody s_many_behind) (defScope s_many_behind) .none kV doc pm an cdv ct) ⟨[], (["place", "degree", "q"] : List Str).zip ws⟩ = pure ((["q", "place", "degree"] : List Str).zip (rot3 ws)) := by
  obtain ⟨a, b, c, rfl⟩ := len_rot3 h
  rfl
section
variable {P : Program} {w : World} {K : PySem.W.Frag} {mg : Str → Option Value} {base : Heap} {f : Addr} {fd : FuncData}
def spAlong (K : PySem.W.Frag) : Sp := fun vs H Q _ => ∃ (dk c : Addr) (q : Nat) (v : V) (p : PlD), vs = [.ref dk, nV q, v] ∧ q ∈ fields ∧ Tv K H v (dPlace p) ∧ p.Good q ∧ p.st = true ∧ Deck H dk c ∧ ∀ H', Deck H' dk c → Exc dk c H H' → Q (nV (mpl q (p.bs.map Bend.deg))) H'
theorem ok_along (F : Fun K "_law_along_chain" "_law_along_chain" s__law_along_chain f fd) (B : Blt mg) (h__law_chain : Has P w K mg base 9 "_law_chain" s__law_chain ["_law_place"] (spChain K)) (h_ahead : Has P w K mg base 9 "ahead" s_ahead ["q", "place"] (spAhead K))
    (h_many_behind : Has P w K mg base 9 "many_behind" s_many_behind ["q", "place", "degree"] (spBehind K)) (h__law_draw : Has P w K mg base 9 "_law_draw" s__law_draw ["_law_deck_here", "_law_many"] spDraw) : FnG P w K mg base 10 f fd ["_law_deck_here", "_law_q", "_law_place"] (spAlong K) := by
  refine FnG.of F sc__law_along_chain (fun vs H Q E h => ?_) (fun cdv A outer s H vs Q E hG hr h => ?_)
  · obtain ⟨dk, c, q, v, p, rfl, _⟩ := h
    rfl
  · obtain ⟨dk, c, q, v, p, rfl, hq, hv, hp, hst, hD, k⟩ := h
    refine ⟨_, (pss_cons (ps_par (i := 3) (j := 4) (by rfl) sc__law_along_chain.nd rfl rfl (by decide) rfl rfl (pa_cons pe_int (pa_cons (pe_revL (pe_callH h__law_chain hr (by rfl) (pa_cons (pv 2) pa_nil))) pa_nil)) (by rfl))
      (pss_cons (ps_for PassesOwn.never rfl (pi_zip (by rfl) B.zip (pa_cons (pv 4) (pa_cons (pe_slice sl_list (pv 4) (po_some pe_int) po_none) pa_nil))) (pg_tup (by rfl) (pgs_cons (pg_name (i := 5) sc__law_along_chain.nd rfl (Or.inl rfl)) (pgs_cons (pg_name (i := 6) sc__law_along_chain.nd rfl (Or.inl rfl)) pgs_nil))) (pss_cons (ps_if (pt_cmpR op_ne (pe_callB (call_reprT hG hr.units) (by rfl) B.repr (by decide +kernel) (pa_cons (pe_callH h_ahead hr (by rfl) (pa_cons (pv 1) (pa_cons (pv 6) pa_nil))) pa_nil)) (pe_callB (call_reprT hG hr.units) (by rfl) B.repr (by decide +kernel) (pa_cons (pv 5) pa_nil)) (nomark _)) (pss_one (ps_ret (pe_un un_neg pe_int))) pss_nil)
      (pss_one (ps_if (pt_cmpR op_eq (pe_ix ix_tup (pv 6) pe_int (fun _ _ => rfl)) pe_str (nomark _)) (pss_one (ps_set (i := 3) sc__law_along_chain.nd rfl (Or.inl rfl) (pe_op opN_mulS (pv 3) (pe_callH h_many_behind hr (by rfl) (pa_cons (pv 1) (pa_cons (pv 5) (pa_cons (pe_op opN_add pe_int (pe_callH h__law_draw hr (by rfl) (pa_cons (pv 0) (pa_cons pe_int pa_nil)))) pa_nil))))))) (pss_cons (ps_set (i := 7) sc__law_along_chain.nd rfl (Or.inl rfl) (pe_op opN_sub (pe_callB call_len_seq (by rfl) B.len (by decide +kernel) (pa_cons (pe_ix ix_tup (pe_ix ix_tup (pv 6) pe_int (fun _ _ => rfl)) (pe_un un_neg pe_int) (fun _ _ => rfl)) pa_nil)) pe_int))
      (pss_cons (ps_set (i := 8) sc__law_along_chain.nd rfl (Or.inl rfl) (pe_ifExp (pt_cmpR opN_gt (pv 7) pe_int (nomark _)) (pe_callHK (g := rot3) (gV := rot3) h_many_behind hr (by rfl) kb_many_behind vals_rot3 (pk_cons (pv 5) (pk_cons (pe_op opN_sub (pv 7) pe_int) (pk_cons (pv 1) pk_nil)))) pe_int))
      (pss_one (ps_set (i := 3) sc__law_along_chain.nd rfl (Or.inl rfl) (pe_op opN_mulS (pv 3) (pe_op opN_sub (pe_callH h_many_behind hr (by rfl) (pa_cons (pv 1) (pa_cons (pv 5) (pa_cons (pv 7) pa_nil)))) (pv 8)))))))))))
      (pss_one (ps_ret (pv 3))))), ?_⟩
    rw [show L2.start N__law_along_chain [.ref dk, nV q, v] = [some (.ref dk), some (nV q), some v, none, none, none, none, none, none] from rfl]
    have hqb := fields_ge hq
    have hd : depthD p = 2 * p.bs.length := by
      unfold depthD
      rw [if_pos hst]
    have few := hp.few
    refine ⟨_, rfl, q, v, p, rfl, hv, hp, fun D xs H1 s1 eD tx => ⟨D, xs, rfl, SqL.of eD, fun R nR => ⟨_, _, rfl, ?_⟩⟩⟩
    have s2 := snu (o := .lst xs.reverse) s1 nR
    refine ⟨_, rfl, _, rfl, 1, rfl, R, _, rfl, SqL.of upd_same, fun Z nZ => ?_⟩
    rw [show cutV xs.reverse (some 1) none = xs.reverse.drop 1 from cut_tail _]
    have s3 := snu (o := .lst (xs.reverse.drop 1)) s2 nZ
    have eR := (sameU (o := .lst (xs.reverse.drop 1)) nZ) _ _ (upd_same (H := H1) (a := R) (o := .lst xs.reverse))
    have eZ : upd (upd H1 R (.lst xs.reverse)) Z (.lst (xs.reverse.drop 1)) Z = some (.lst (xs.reverse.drop 1)) := upd_same
    obtain ⟨H3, hH3⟩ : ∃ H3, upd (upd H1 R (.lst xs.reverse)) Z (.lst (xs.reverse.drop 1)) = H3 := ⟨_, rfl⟩
    rw [hH3] at s3 eR eZ ⊢
    have hD3 := hD.sm s3
    have nR2 := (hD.sm s1).new nR
    have nZ2 := (hD.sm s2).new nZ
    have tx3 := Tvs.rev (Tvs.sm ((sameU (o := .lst xs.reverse) nR).trans (by rw [← hH3]; exact sameU nZ) : Same H1 H3) tx)
    have xl := Tvs.length tx
    have cl : ((chainTo p (depthD p)).map dPlace).length = depthD p + 1 := by
      unfold chainTo
      rw [List.length_map, List.length_map, List.length_range]
    rw [cl] at xl
    have rl : xs.reverse.length = depthD p + 1 := by rw [List.length_reverse, xl]
    -- which place stands in the row
    have at_ : ∀ j, j ≤ depthD p → ((chainTo p (depthD p)).map dPlace).reverse[j]? = some (dPlace (itA (depthD p - j) p)) := fun j hj => by
      rw [List.getElem?_reverse (by rw [cl]; omega), cl]
      unfold chainTo
      rw [List.getElem?_map, List.getElem?_map, List.getElem?_range (by omega)]
      rw [show depthD p + 1 - 1 - j = depthD p - j by omega]
      rfl
    refine ⟨R, Z, _, _, rfl, SqL.of eR, SqL.of eZ, ?_⟩
    have hn : depthD p = min xs.reverse.length (xs.reverse.drop 1).length := by
      rw [List.length_drop, rl]
      omega
    have s03 : Same H H3 := s3
    refine for_it (walk_zip hn) (fun j σ H4 => j ≤ depthD p ∧ Deck H4 dk c ∧ Exc dk c H3 H4 ∧ ∃ w1 w2 w3 w4, σ = [some (.ref dk), some (nV q), some v, some (nV (prodJ q (p.bs.map Bend.deg) j)), some (.ref R), w1, w2, w3, w4])
      ⟨Nat.zero_le _, hD3, Exc.refl _ _ _, none, none, none, none, rfl⟩ (fun j σ H4 _ pp => ⟨SqL.of (pp.2.2.1 _ _ eR nR2.1 nR2.2), SqL.of (pp.2.2.1 _ _ eZ nZ2.1 nZ2.2)⟩) (fun j x σ H4 H5 hj pp y => ?_) fun σ H4 pp => ?_
    · obtain ⟨_, hD4, hE4, w1, w2, w3, w4, rfl⟩ := pp
      obtain ⟨T, nr, fr, rfl, nT, rfl, hx1, hx2⟩ := y
      have hx2 : (xs.reverse.drop 1)[j]? = some fr := hx2
      rw [List.getElem?_drop, Nat.add_comm] at hx2
      obtain ⟨d1, hd1, tn⟩ := Tvs.at tx3 hx1
      obtain ⟨d2, hd2, tf⟩ := Tvs.at tx3 hx2
      rw [at_ j (by omega)] at hd1
      rw [at_ (j + 1) (by omega)] at hd2
      cases hd1
      cases hd2
      obtain ⟨kk, hk⟩ : ∃ kk, depthD p - (j + 1) = kk := ⟨_, rfl⟩
      have hk1 : depthD p - j = kk + 1 := by omega
      rw [hk] at tf
      rw [hk1] at tn
      obtain ⟨g1, gd1⟩ := itA_good hp kk (by omega)
      obtain ⟨g2, gd2⟩ := itA_good hp (kk + 1) (by omega)
      obtain ⟨fst, fbs⟩ := itA_form hp hst kk (by omega)
      obtain ⟨nst, nbs⟩ := itA_form hp hst (kk + 1) (by omega)
      rw [show depthD p - kk = j + 1 by omega] at fst fbs
      rw [show depthD p - (kk + 1) = j by omega] at nst nbs
      have hnr := not_root (p := itA kk p) (by omega)
      have kt4 : KeepT H3 H4 := Exc.keepT hD3 hE4
      have s5 := sameU (o := .tup [nr, fr]) nT
      have hD5 := hD4.sm s5
      have hE5 := hE4.trans (excS (dk := dk) (c := c) s5)
      have tn5 := Tv.sm s5 (Tv.keep kt4 _ _ tn)
      have tf5 := Tv.sm s5 (Tv.keep kt4 _ _ tf)
      refine ⟨T, _, rfl, SqT.of upd_same, rfl, nr, [fr], rfl, fr, [], rfl, rfl, ?_⟩
      obtain ⟨na, _, _, ena, _⟩ := place_inv tn5
      subst ena
      obtain ⟨fa, fb, ft', efa, fT, fB, fTs⟩ := place_inv tf5
      subst efa
      refine ⟨_, rfl, _, rfl, q, _, itA kk p, rfl, hq, tf5, g1, hnr, fun u H6 s6 tu => ?_⟩
      obtain ⟨ua, _, _, eua, _⟩ := place_inv tu
      subst eua
      refine ⟨ua, _, rfl, tu, (shw_place hq (aheadD_good g1 hnr)).mono (by decide) (by decide), ?_⟩
      have tn6 : Tv K H6 (.ref na) (dPlace (aheadD (itA kk p))) := Tv.sm s6 tn5
      refine ⟨_, rfl, na, _, rfl, tn6, (shw_place hq (aheadD_good g1 hnr)).mono (by decide) (by decide), rfl, _, rfl, ?_⟩
      rw [show decide (V.str (dPlace (aheadD (itA kk p))).py.shown = V.str (dPlace (aheadD (itA kk p))).py.shown) = true from decide_eq_true rfl]
      refine iteF ?_
      have fT6 := Same.sqT s6 fT
      have hD6 := hD5.sm s6
      have hE6 := hE5.trans (excS (dk := dk) (c := c) s6)
      refine ⟨_, rfl, fa, _, _, _, rfl, rfl, fT6, atI_nat (j := 0) rfl, rfl, _, rfl, ?_⟩
      have bl : j / 2 < p.bs.length := by omega
      by_cases he : j % 2 = 0
      · have fst2 : (itA kk p).st = false := by rw [fst, decide_eq_false (by omega)]
        have nst2 : (aheadD (itA kk p)).st = true := by
          rw [show (aheadD (itA kk p)).st = (itA (kk + 1) p).st from rfl, nst, decide_eq_true he]
        rw [fst2, show decide (V.str (sortOf false) = V.str "bent") = true from eqBB]
        refine iteT ⟨_, rfl, _, rfl, _, rfl, _, rfl, dk, c, 5, rfl, by decide, by decide, hD6, fun r H7 hr7 hD7 hE7 => ?_⟩
        refine ⟨2, r, rfl, rfl, q, _, aheadD (itA kk p), 2 + r, rfl, hq, Tv.keep (Exc.keepT hD6 hE7) _ _ tn6, g2, by omega, by omega, fun H8 s8 => ?_⟩
        have eb : behindD q (aheadD (itA kk p)) (2 + r) = if j / 2 = 0 then q + 1 else q := by
          unfold behindD
          rw [if_pos nst2, show (aheadD (itA kk p)).bs = (itA (kk + 1) p).bs from rfl, nbs]
          by_cases z : j / 2 = 0
          · rw [if_pos z, z, if_pos (List.take_zero)]
          · rw [if_neg z, if_neg (fun y => ?_)]
            have : min (j / 2) p.bs.length = 0 := by
              rw [← List.length_take, y]
              rfl
            omega
        refine ⟨_, _, rfl, rfl, ?_, by omega, hD7.sm s8, (hE6.trans hE7).trans (excS s8), some (.ref na), some (.ref fa), w3, w4, ?_⟩
        · show behindD q (aheadD (itA kk p)) (2 + r) < 2 ^ 60
          rw [eb]
          refine Nat.lt_of_le_of_lt (?_ : _ ≤ 17) (by decide)
          split <;> omega
        · rw [prodJ_even he, ← eb]
          rfl
      · have fst2 : (itA kk p).st = true := by rw [fst, decide_eq_true (by omega)]
        have nst2 : (aheadD (itA kk p)).st = false := by
          rw [show (aheadD (itA kk p)).st = (itA (kk + 1) p).st from rfl, nst, decide_eq_false he]
        rw [fst2, show decide (V.str (sortOf true) = V.str "bent") = false from eqSB]
        rw [show (j + 1) / 2 = j / 2 + 1 by omega, take_snoc (List.getElem?_eq_getElem bl)] at fbs
        obtain ⟨fb', ys, efb, fX, fL⟩ := Tv.tup_inv (Tv.sm s6 fB)
        cases efb
        rw [fbs, List.map_append] at fL
        have yl := Tvs.length fL
        rw [List.length_append, List.length_map, List.length_map, List.length_singleton] at yl
        obtain ⟨lv, hlv, tlv⟩ := Tvs.get fL (i := (p.bs.take (j / 2)).length) (d := dNs p.bs[j / 2].nums) (by
          rw [List.getElem?_append_right (by rw [List.length_map]; exact Nat.le_refl _), List.length_map, Nat.sub_self]
          rfl)
        have ini : ys = ys.take (p.bs.take (j / 2)).length ++ [lv] := by
          have h1 := take_snoc hlv
          rw [List.take_of_length_le (by omega)] at h1
          exact h1
        obtain ⟨lc, rfl, lC⟩ := Tv.ns tlv
        have gb := hp.bs p.bs[j / 2] (List.getElem_mem bl)
        have hcl : (p.bs[j / 2].nums.map nV).length = p.bs[j / 2].deg + 1 := by rw [List.length_map, Bend.nums_len]
        obtain ⟨dd, hdd⟩ : ∃ dd, p.bs[j / 2].deg = dd := ⟨_, rfl⟩
        have d26 : 2 ≤ dd ∧ dd ≤ 6 := by
          have := gb.len
          rw [← hdd]
          unfold Bend.deg
          omega
        rw [hdd] at hcl
        refine iteF ⟨_, rfl, fa, _, _, _, rfl, rfl, fT6, atI_nat (j := 2) rfl, 1, rfl, fb, ys, -1, .ref lc, rfl, rfl, fX, (by rw [ini]; exact atI_last _ _), lc, _, rfl, .inr lC, (p.bs[j / 2].nums.map nV).length, 1, rfl, rfl, by omega, ?_⟩
        have ed : nV ((p.bs[j / 2].nums.map nV).length - 1) = nV dd := by rw [hcl, Nat.add_sub_cancel]
        have hdeg : (p.bs.map Bend.deg)[j / 2]? = some dd := by
          rw [List.getElem?_map, List.getElem?_eq_getElem bl, ← hdd]
          rfl
        obtain ⟨ml1, ml2⟩ := mb_less hqb.1 d26.1
        have eb : behindD q (aheadD (itA kk p)) dd = q ^ (dd - 1) - 1 := by
          unfold behindD
          rw [if_neg (by rw [nst2]; exact Bool.false_ne_true)]
        have eb2 : behindD q (aheadD (itA kk p)) (dd - 1) = q ^ (dd - 1 - 1) - 1 := by
          unfold behindD
          rw [if_neg (by rw [nst2]; exact Bool.false_ne_true)]
        have hl1 : (p.bs[j / 2].nums.map nV).length - 1 = dd := by rw [hcl, Nat.add_sub_cancel]
        have mbB : mb q dd < 2 ^ 60 := bd_mono (mb_lt hq d26.2) (by decide)
        have nxt : prodJ q (p.bs.map Bend.deg) j * (behindD q (aheadD (itA kk p)) dd - (if 2 < dd then q ^ (dd - 1 - 1) - 1 else 0)) = prodJ q (p.bs.map Bend.deg) (j + 1) := by
          rw [prodJ_odd (by omega) hdeg, eb, ml2]
        refine ⟨_, rfl, (p.bs[j / 2].nums.map nV).length - 1, 2, rfl, rfl, _, rfl, ite2 (fun e => ?_) (fun e => ?_)⟩
        · have e2 : 2 < (p.bs[j / 2].nums.map nV).length - 1 := of_decide_eq_true e
          rw [hl1] at e2
          rw [if_pos e2, ← eb2] at ml1 ml2 nxt
          refine ⟨_, rfl, _, rfl, (p.bs[j / 2].nums.map nV).length - 1, 1, rfl, rfl, by omega, _, rfl, q, .ref na, aheadD (itA kk p), dd - 1, ?_, hq, tn6, g2, by omega, by omega, fun H7 s7 => ?_⟩
          · show [nV q, V.ref na, nV ((p.bs[j / 2].nums.map nV).length - 1 - 1)] = _
            rw [hl1]
          · refine ⟨_, rfl, _, rfl, _, rfl, _, rfl, q, .ref na, aheadD (itA kk p), dd, ?_, hq, Tv.sm s7 tn6, g2, by omega, by omega, fun H8 s8 => ?_⟩
            · show [nV q, V.ref na, nV ((p.bs[j / 2].nums.map nV).length - 1)] = _
              rw [hl1]
            · refine ⟨_, rfl, behindD q (aheadD (itA kk p)) dd, behindD q (aheadD (itA kk p)) (dd - 1), rfl, rfl, by rw [eb]; exact ml1, _, behindD q (aheadD (itA kk p)) dd - behindD q (aheadD (itA kk p)) (dd - 1), rfl, rfl, ?_, by omega, hD6.sm (s7.trans s8), hE6.trans (excS (s7.trans s8)), some (.ref na), some (.ref fa), some (nV ((p.bs[j / 2].nums.map nV).length - 1)), some (nV (behindD q (aheadD (itA kk p)) (dd - 1))), ?_⟩
              · show behindD q (aheadD (itA kk p)) dd - behindD q (aheadD (itA kk p)) (dd - 1) < 2 ^ 60
                rw [eb, ml2]
                exact mbB
              · rw [← nxt]
                rfl
        · have e2 : ¬ 2 < (p.bs[j / 2].nums.map nV).length - 1 := fun z => e (decide_eq_true z)
          rw [hl1] at e2
          rw [if_neg e2] at ml1 ml2 nxt
          refine ⟨_, rfl, _, rfl, _, rfl, _, rfl, q, .ref na, aheadD (itA kk p), dd, ?_, hq, tn6, g2, by omega, by omega, fun H8 s8 => ?_⟩
          · show [nV q, V.ref na, nV ((p.bs[j / 2].nums.map nV).length - 1)] = _
            rw [hl1]
          · refine ⟨_, rfl, behindD q (aheadD (itA kk p)) dd, 0, rfl, rfl, Nat.zero_le _, _, behindD q (aheadD (itA kk p)) dd - 0, rfl, rfl, ?_, by omega, hD6.sm s8, hE6.trans (excS s8), some (.ref na), some (.ref fa), some (nV ((p.bs[j / 2].nums.map nV).length - 1)), some (.int 0), ?_⟩
            · show behindD q (aheadD (itA kk p)) dd - 0 < 2 ^ 60
              rw [eb, ml2]
              exact mbB
            · rw [← nxt]
              rfl
    · obtain ⟨_, hD4, hE4, w1, w2, w3, w4, rfl⟩ := pp
      refine ⟨_, rfl, to (k _ hD4 ((excS s03).trans hE4)) ?_⟩
      unfold prodJ
      rw [hd, Nat.mul_mod_right, if_neg (by decide), Nat.mul_div_cancel_left _ (by decide : 0 < 2), Nat.mul_one, List.take_of_length_le (by rw [List.length_map]; exact Nat.le_refl _)]
end
end K32
/-! K32Q: the law. -/
namespace K32
set_option exponentiation.threshold 2000
open PySem PySem.Spec PyProof.Rows L2
abbrev s_law : Stmt := topS 77
abbrev N_law : List Str := ["_law_script", "_law_deck_here", "_law_q", "_law_many", "_law_degrees", "_law_straights", "_law_places", "_law_at", "_law_part", "_law_place", "_law_turn"]
theorem sc_law : FnScope N_law ["_law_script"] (defScope s_law) := ⟨rfl, rfl, rfl, by decide +kernel, rfl, by decide +kernel, by decide +kernel⟩
theorem kb_many_steps (kV doc pm : Value) (an : Option Addr) (cdv ct : Value) (ws : List Value) (h : (swap2 ws).length = 2) :
    bindArgs (PySem.W.fnOf "many_steps" "many_steps" (defArgs s_many_steps) (defBody s_many_steps) (defScope s_many_steps) .none kV doc pm an cdv ct) ⟨[], (["degrees", "q"] : List Str).zip ws⟩ = pure ((["q", "degrees"] : List Str).zip (swap2 ws)) := by
  obtain ⟨a, b, rfl⟩ := len_swap2 h
  rfl
theorem kb_step_at (kV doc pm : Value) (an : Option Addr) (cdv ct : Value) (ws : List Value) (h : (rev3 ws).length = 3) :
    bindArgs (PySem.W.fnOf "step_at" "step_at" (defArgs s_step_at) (defBody s_step_at) (defScope s_step_at) .none kV doc pm an cdv ct) ⟨[], (["number", "degrees", "q"] : List Str).zip ws⟩ = pure ((["q", "degrees", "number"] : List Str).zip (rev3 ws)) := by
  obtain ⟨a, b, c, rfl⟩ := len_rev3 h
  rfl
theorem Deck.wr {H : Hp} {dk c p : Addr} {o : HO} (h : Deck H dk c) (n1 : p ≠ dk) (n2 : p ≠ c) : Deck (upd H p o) dk c := by
  obtain ⟨ns, m, d, h1, h2, h3⟩ := h
  exact ⟨ns, m, d, by rw [upd_ne n1.symm]; exact h1, by rw [upd_ne n2.symm]; exact h2, h3⟩
theorem Exc.wn {H H' : Hp} {dk c p : Addr} {o : HO} (e : Exc dk c H H') (h : H p = none) : Exc dk c H (upd H' p o) := fun a u ha h1 h2 => by
  rw [upd_ne (ne_of_none ha h)]
  exact e a u ha h1 h2
theorem next_fin {D : Ends} {σ : L2.St} {H : Hp} (h : D.nx σ H) : tNext D σ H := h
section
variable {P : Program} {w : World} {K : PySem.W.Frag} {mg : Str → Option Value} {base : Heap} {f : Addr} {fd : FuncData}
def spLaw (K : PySem.W.Frag) : Sp := fun vs H Q _ => ∃ (a : Addr) (ns : List Int), vs = [.ref a] ∧ SqL K H a (ns.map V.int) ∧ ns.length ≤ 63 ∧ ∀ H', Q (.bl true) H'
theorem ok_law (F : Fun K "law" "law" s_law f fd) (B : Blt mg) (h__law_deck : Has P w K mg base 10 "_law_deck" s__law_deck ["_law_script"] (spDeck K)) (h__law_some_field : Has P w K mg base 10 "_law_some_field" s__law_some_field ["_law_deck_here"] spField)
    (h__law_draw : Has P w K mg base 10 "_law_draw" s__law_draw ["_law_deck_here", "_law_many"] spDraw) (h__law_many_places : Has P w K mg base 10 "_law_many_places" s__law_many_places ["_law_q", "_law_degrees"] (spMpl K))
    (h_many_straight : Has P w K mg base 10 "many_straight" s_many_straight ["q"] spMst) (h_many_steps : Has P w K mg base 10 "many_steps" s_many_steps ["q", "degrees"] (spMany K)) (h__law_edge : Has P w K mg base 10 "_law_edge" s__law_edge ["_law_deck_here", "_law_many"] spBelow)
    (h__law_in_block : HasG P w K mg base 10 "_law_in_block" ["_law_q", "_law_degrees", "_law_at", "_law_part", "_law_straights"] (spInBlock K)) (h_place_of : Has P w K mg base 10 "place_of" s_place_of ["q", "step", "sort"] (spPlaceOf K)) (h_step_at : Has P w K mg base 10 "step_at" s_step_at ["q", "degrees", "number"] (spStepAt K))
    (h_depth : Has P w K mg base 10 "depth" s_depth ["q", "place"] (spDepth K)) (h__law_along_chain : HasG P w K mg base 10 "_law_along_chain" ["_law_deck_here", "_law_q", "_law_place"] (spAlong K)) : FnG P w K mg base 11 f fd ["_law_script"] (spLaw K) := by
  refine FnG.of F sc_law (fun vs H Q E h => ?_) (fun cdv A outer s H vs Q E hG hr h => ?_)
  · obtain ⟨a, ns, rfl, _⟩ := h
    rfl
  · obtain ⟨a, ns, rfl, hL, hl, k⟩ := h
    refine ⟨_, (pss_cons (ps_set (i := 1) sc_law.nd rfl (Or.inr rfl) (pe_callH h__law_deck hr (by rfl) (pa_cons (pv 0) pa_nil)))
      (pss_cons (ps_par (i := 2) (j := 3) (by rfl) sc_law.nd rfl rfl (by decide) rfl rfl (pa_cons (pe_callH h__law_some_field hr (by rfl) (pa_cons (pv 1) pa_nil)) (pa_cons (pe_callH h__law_draw hr (by rfl) (pa_cons (pv 1) (pa_cons pe_int pa_nil))) pa_nil)) (by rfl))
      (pss_cons (ps_if (pt_cmpR opN_eq (pe_callH h__law_draw hr (by rfl) (pa_cons (pv 1) (pa_cons pe_int pa_nil))) pe_int (nomark _)) (pss_one (ps_set (i := 3) sc_law.nd rfl (Or.inl rfl) (pe_op opN_sub pe_int (pe_callH h__law_draw hr (by rfl) (pa_cons (pv 1) (pa_cons pe_int pa_nil)))))) pss_nil)
      (pss_cons (ps_set (i := 4) sc_law.nd rfl (Or.inl rfl) (pe_callTy call_tuple_of (by rfl) B.tup (by decide +kernel) (pa_cons (pe_lc (own := [("_law_turn", 10)]) (by rfl) sc_law.nd (pi_range1 rfl B.range (pa_cons (pv 3) pa_nil)) (blkOk_by (own := [("_law_turn", 10)]) (N := N_law) (sc := defScope s_law) (by decide +kernel)) (fun _ _ _ _ _ => pg_name (i := 10) sc_law.nd rfl (Or.inl rfl)) (fun _ _ _ _ _ => pts_nil) (fun _ _ _ _ _ => (pe_op opN_add pe_int (pe_callH h__law_draw hr (by rfl) (pa_cons (pv 1) (pa_cons pe_int pa_nil)))))) pa_nil)))
      (pss_cons (ps_par (i := 5) (j := 6) (by rfl) sc_law.nd rfl rfl (by decide) rfl rfl (pa_cons (pe_op opN_mul (pe_op opN_mul (pe_op opN_mul (pe_op opN_sub (pe_op opN_mul (pv 2) (pv 2)) pe_int) (pe_op opN_sub (pe_op opN_mul (pv 2) (pv 2)) (pv 2))) (pv 2)) (pv 2)) (pa_cons (pe_callH h__law_many_places hr (by rfl) (pa_cons (pv 2) (pa_cons (pv 4) pa_nil))) pa_nil)) (by rfl))
      (pss_cons (ps_if (pt_cmpR op_ne (pe_callB (call_reprT hG hr.units) (by rfl) B.repr (by decide +kernel) (pa_cons (pe_tup (pa_cons (pe_callH h_many_straight hr (by rfl) (pa_cons (pv 2) pa_nil)) (pa_cons (pe_callH h_many_steps hr (by rfl) (pa_cons (pv 2) (pa_cons (pv 4) pa_nil))) pa_nil))) pa_nil)) (pe_callB (call_reprT hG hr.units) (by rfl) B.repr (by decide +kernel) (pa_cons (pe_tup (pa_cons (pv 5) (pa_cons (pe_op opN_mulS (pv 6) (pv 5)) pa_nil))) pa_nil)) (nomark _)) (pss_one (ps_ret pe_bl)) pss_nil)
      (pss_cons (ps_par (i := 7) (j := 8) (by rfl) sc_law.nd rfl rfl (by decide) rfl rfl (pa_cons (pe_callH h__law_edge hr (by rfl) (pa_cons (pv 1) (pa_cons (pv 6) pa_nil))) (pa_cons (pe_callH h__law_edge hr (by rfl) (pa_cons (pv 1) (pa_cons (pv 5) pa_nil))) pa_nil)) (by rfl))
      (pss_cons (ps_if (pt_not (pt_val (pe_callG h__law_in_block hG hr (by rfl) (pa_cons (pv 2) (pa_cons (pv 4) (pa_cons (pv 7) (pa_cons (pv 8) (pa_cons (pv 5) pa_nil)))))))) (pss_one (ps_ret pe_bl)) pss_nil)
      (pss_cons (ps_set (i := 9) sc_law.nd rfl (Or.inl rfl) (pe_callH h_place_of hr (by rfl) (pa_cons (pv 2) (pa_cons (pe_callHK (g := rev3) (gV := rev3) h_step_at hr (by rfl) kb_step_at vals_rev3 (pk_cons (pe_op opN_add (pe_op opN_mulS (pv 7) (pv 5)) (pv 8)) (pk_cons (pv 4) (pk_cons (pv 2) pk_nil)))) (pa_cons pe_str pa_nil)))))
      (pss_cons (ps_if (PW.pt (pw_or (pt_not (pt_val (pe_callG h__law_in_block hG hr (by rfl) (pa_cons (pv 2) (pa_cons (pv 4) (pa_cons (pv 7) (pa_cons pe_int (pa_cons (pv 5) pa_nil)))))))) (pw_or1 (pt_not (pt_val (pe_callG h__law_in_block hG hr (by rfl) (pa_cons (pv 2) (pa_cons (pv 4) (pa_cons (pv 7) (pa_cons (pe_op opN_sub (pv 5) pe_int) (pa_cons (pv 5) pa_nil))))))))))) (pss_one (ps_ret pe_bl)) pss_nil)
      (pss_cons (ps_if (PW.pt (pw_and (pt_cmpR opN_gt (pv 7) pe_int (nomark _)) (pw_and1 (pt_not (pt_val (pe_callG h__law_in_block hG hr (by rfl) (pa_cons (pv 2) (pa_cons (pv 4) (pa_cons (pe_op opN_sub (pv 7) pe_int) (pa_cons (pe_op opN_sub (pv 5) pe_int) (pa_cons (pv 5) pa_nil))))))))))) (pss_one (ps_ret pe_bl)) pss_nil)
      (pss_cons (ps_if (PW.pt (pw_and (pt_cmpR opN_lt (pe_op opN_add (pv 7) pe_int) (pv 6) (nomark _)) (pw_and1 (pt_not (pt_val (pe_callG h__law_in_block hG hr (by rfl) (pa_cons (pv 2) (pa_cons (pv 4) (pa_cons (pe_op opN_add (pv 7) pe_int) (pa_cons pe_int (pa_cons (pv 5) pa_nil))))))))))) (pss_one (ps_ret pe_bl)) pss_nil)
      (pss_cons (ps_if (pt_cmpR op_ne (pe_callB SkE.call_repr_int (by rfl) B.repr (by decide +kernel) (pa_cons (pe_callH h_depth hr (by rfl) (pa_cons (pv 2) (pa_cons (pv 9) pa_nil))) pa_nil)) (pe_callB SkE.call_repr_int (by rfl) B.repr (by decide +kernel) (pa_cons (pe_op opN_mulS pe_int (pv 3)) pa_nil)) (nomark _)) (pss_one (ps_ret pe_bl)) pss_nil)
      (pss_one (ps_ret (pe_cmpR opN_eq (pe_op opN_mulS (pe_callG h__law_along_chain hG hr (by rfl) (pa_cons (pv 1) (pa_cons (pv 2) (pa_cons (pv 9) pa_nil)))) (pv 5)) (pe_callHK (g := swap2) (gV := swap2) h_many_steps hr (by rfl) kb_many_steps vals_swap2 (pk_cons (pv 4) (pk_cons (pv 2) pk_nil))) (nomark _))))))))))))))))), ?_⟩
    rw [show L2.start N_law [.ref a] = [some (.ref a), none, none, none, none, none, none, none, none, none, none] from rfl]
    refine ⟨_, rfl, a, ns, rfl, hL, hl, fun dk c H1 s1 hD1 => ?_⟩
    refine ⟨_, rfl, dk, c, rfl, hD1, fun q H2 hq hD2 hE2 => ⟨_, rfl, dk, c, 5, rfl, by decide, by decide, hD2, fun m0 H3 hm0 hD3 hE3 => ⟨_, _, rfl, ?_⟩⟩⟩
    have hqb := fields_ge hq
    have bq : Big q := big9 (by omega)
    have mp := mst_pos hqb.1
    have m60 : mst q < 2 ^ 60 := bd_mono (mst_bd hq) (by decide)
    dsimp only
    refine seq_fin2 (fun σ1 H4 => Deck H4 dk c ∧ ∃ m, m ≤ 12 ∧ σ1 = [some (.ref a), some (.ref dk), some (nV q), some (nV m), none, none, none, none, none, none, none]) ?rest (fun fin => ?main)
    case main =>
      refine ⟨_, rfl, dk, c, 8, rfl, by decide, by decide, hD3, fun r H4 hr4 hD4 hE4 => ⟨r, 0, rfl, rfl, _, rfl, ite2 (fun e => ?_) (fun e => fin _ _ ⟨hD4, m0, by omega, rfl⟩)⟩⟩
      exact ⟨_, rfl, dk, c, 3, rfl, by decide, by decide, hD4, fun r2 H5 hr5 hD5 hE5 => ⟨12, r2, rfl, rfl, (by show r2 ≤ 12; omega), fin _ _ ⟨hD5, 12 - r2, by omega, rfl⟩⟩⟩
    case rest =>
    rintro σ1 H4 ⟨hD4, m, hm, rfl⟩
    refine ⟨_, rfl, _, rfl, by omega, by omega, fun D nD => ?_⟩
    have nn := hD4.new nD
    refine lc_it walk_range (fun i H => Deck H dk c ∧ ∃ ds : List Nat, H D = some (.lst (ds.map nV)) ∧ ds.length = i ∧ ∀ d ∈ ds, 2 ≤ d ∧ d ≤ 6) ⟨hD4.sm (sameU nD), [], upd_same, rfl, fun d hd => absurd hd List.not_mem_nil⟩ (fun _ _ _ _ => trivial) (fun i x H5 H6 hi p y => ?_) fun H5 p => ?_
    · obtain ⟨rfl, rfl⟩ := y
      obtain ⟨hD5, ds, eD, dl, dok⟩ := p
      rw [Int.toNat_natCast] at hi
      refine ⟨rfl, iteT (B := Deck H6 dk c ∧ ∃ ds : List Nat, H6 D = some (.lst (ds.map nV)) ∧ ds.length = i + 1 ∧ ∀ d ∈ ds, 2 ≤ d ∧ d ≤ 6) ⟨_, rfl, dk, c, 5, rfl, by decide, by decide, hD5, fun r H7 hr7 hD7 hE7 => ⟨2, r, rfl, rfl, ds.map nV, hE7 _ _ eD nn.1 nn.2, small1000 (by rw [List.length_map]; omega), hD7.wr nn.1 nn.2, ds ++ [2 + r], ?_, ?_, ?_⟩⟩⟩
      · rw [upd_same, List.map_append]
        rfl
      · rw [List.length_append, dl]
        rfl
      · intro d hd
        rcases List.mem_append.mp hd with hd | hd
        · exact dok d hd
        · rw [List.mem_singleton.mp hd]
          omega
    obtain ⟨hD5, ds, eD, dl, dok⟩ := p
    rw [Int.toNat_natCast] at dl
    refine ⟨D, _, rfl, .inl ⟨SqL.of eD, fun p6 np6 => ?_⟩⟩
    have hd : DsOk ds := ⟨dok, by omega⟩
    have hD6 := hD5.sm (sameU (o := .tup (ds.map nV)) np6)
    have tds : Tv K (upd H5 p6 (.tup (ds.map nV))) (.ref p6) (dNs ds) := Tv.ofNs (SqT.of upd_same)
    obtain ⟨H6, hH6⟩ : ∃ H6, upd H5 p6 (.tup (ds.map nV)) = H6 := ⟨_, rfl⟩
    rw [hH6] at hD6 tds ⊢
    -- how many there are
    obtain ⟨f1, f2, f3, f4, f5, f6⟩ := mst_facts hq
    refine ⟨_, rfl, _, rfl, _, _, rfl, rfl, ⟨bq, bq⟩, _, 1, rfl, rfl, f1, _, rfl, _, rfl, _, _, rfl, rfl, ⟨bq, bq⟩, _, rfl, _, _, rfl, rfl, f2, _, _, rfl, rfl, ⟨big9 (by omega), big9 (by omega)⟩, _, rfl, _, _, rfl, rfl, ⟨big9 (Nat.le_trans f4 (by decide)), bq⟩, _, rfl, _, _, rfl, rfl, ⟨big9 (Nat.le_trans f5 (by decide)), bq⟩, _, rfl, _, rfl, q, _, ds, rfl, hq, tds, hd, fun H7 s7 => ⟨nV (mst q), nV (mpl q ds), rfl, ?_⟩⟩
    have tds7 := Tv.sm s7 tds
    have hD7 := hD6.sm s7
    have hmplB := mpl_bd hq dok
    have hl12 := hd.2
    have bp : Big (mpl q ds) := bigE hmplB (by omega)
    have bpm : Big (mpl q ds * mst q) := bigE (mul_bd hmplB (mst_bd hq)) (by omega)
    have bm : Big (mst q) := bigE (mst_bd hq) (by decide)
    have pp := mpl_pos hqb.1 ds
    refine ⟨_, rfl, q, rfl, hq, _, rfl, _, rfl, q, _, ds, rfl, hq, tds7, dok, hl12, fun H8 s8 => ⟨(by show 2 ≤ sizeLine; decide), fun p9 np9 => ?_⟩⟩
    refine ⟨p9, dNs [mst q, mpl q ds * mst q], rfl, Tv.ofNs (SqT.of upd_same), shw_nums bm bpm, ?_⟩
    refine ⟨_, rfl, _, rfl, _, rfl, mpl q ds, mst q, rfl, rfl, m60, (by show 2 ≤ sizeLine; decide), fun p10 np10 => ?_⟩
    refine ⟨p10, dNs [mst q, mpl q ds * mst q], rfl, Tv.ofNs (SqT.of upd_same), shw_nums bm bpm, rfl, _, rfl, ?_⟩
    rw [show decide (V.str (dNs [mst q, mpl q ds * mst q]).py.shown = V.str (dNs [mst q, mpl q ds * mst q]).py.shown) = true from decide_eq_true rfl]
    have s10 := snu (o := .tup [nV (mst q), nV (mpl q ds * mst q)]) (snu (o := .tup [nV (mst q), nV (mpl q ds * mst q)]) s8 np9) np10
    have hD10 := hD7.sm s10
    have tds10 := Tv.sm s10 tds7
    obtain ⟨H10, hH10⟩ : ∃ H10, upd (upd H8 p9 (.tup [nV (mst q), nV (mpl q ds * mst q)])) p10 (.tup [nV (mst q), nV (mpl q ds * mst q)]) = H10 := ⟨_, rfl⟩
    rw [hH10] at hD10 tds10
    refine iteF ?_
    have goalH : ∀ {G : Hp → Prop}, G H10 → G (upd (upd H8 p9 (.tup [nV (mst q), nV (mpl q ds * mst q)])) p10 (.tup [nV (mst q), nV (mpl q ds * mst q)])) := fun g => hH10 ▸ g
    refine ⟨_, rfl, _, rfl, dk, c, mpl q ds, rfl, pp, (by rw [← hH10] at hD10; exact hD10), fun at_ H11 hat hD11 hE11 => ?_⟩
    rw [hH10] at hE11
    have tds11 := Tv.keep (Exc.keepT hD10 hE11) _ _ tds10
    refine ⟨_, rfl, _, rfl, dk, c, mst q, rfl, mp, hD11, fun pt H12 hpt hD12 hE12 => ⟨nV at_, nV pt, rfl, ?_⟩⟩
    have tds12 := Tv.keep (Exc.keepT hD11 hE12) _ _ tds11
    -- the step itself
    refine ⟨_, rfl, _, rfl, _, rfl, _, rfl, _, rfl, q, _, ds, at_, pt, rfl, hq, tds12, hd, hat, hpt, fun H13 s13 => ⟨_, rfl, iteF ?_⟩⟩
    have tds13 := Tv.sm s13 tds12
    have hD13 := hD12.sm s13
    obtain ⟨n, hn⟩ : ∃ n, at_ * mst q + pt = n := ⟨_, rfl⟩
    have hnb : n < mpl q ds * mst q := by
      have h1 : (at_ + 1) * mst q ≤ mpl q ds * mst q := Nat.mul_le_mul_right _ hat
      rw [Nat.add_mul, Nat.one_mul] at h1
      omega
    have all := stepAt_all hq hd.1 hd.2 hnb
    obtain ⟨S, hS⟩ : ∃ S, stepAt q ds n = S := ⟨_, rfl⟩
    rw [hS] at all
    obtain ⟨g, sdeg, _, _, _⟩ := all
    refine ⟨_, rfl, _, rfl, _, rfl, at_, mst q, rfl, rfl, m60, _, rfl, _, pt, rfl, rfl, _, rfl, _, rfl, q, _, ds, n, congrArg (fun z => [nV q, .ref p6, nV z]) hn, hq, tds13, hd, hnb, fun u H14 s14 tu => ?_⟩
    rw [hS] at tu
    refine ⟨q, u, S, rfl, hq, tu, g, fun pl H15 s15 tp => ?_⟩
    have s1315 := s14.trans s15
    have tds15 := Tv.sm s1315 tds13
    have hD15 := hD13.sm s1315
    -- the block's ends
    have m1 : mst q - 1 < mst q := by omega
    refine ⟨_, rfl, _, rfl, _, rfl, _, rfl, q, _, ds, at_, 0, rfl, hq, tds15, hd, hat, mp, fun H16 s16 => ⟨_, rfl, iteF ?_⟩⟩
    have tds16 := Tv.sm s16 tds15
    refine ⟨_, rfl, _, rfl, _, rfl, _, rfl, mst q, 1, rfl, rfl, mp, _, rfl, q, _, ds, at_, mst q - 1, rfl, hq, tds16, hd, hat, m1, fun H17 s17 => ⟨_, rfl, iteF ?_⟩⟩
    have s1517 := s16.trans s17
    -- the steps beside the block
    refine next_fin ?_
    dsimp only
    refine seq_fin True ?rest2 (fun fin => ?main2)
    case main2 =>
      refine ⟨_, rfl, at_, 0, rfl, rfl, _, rfl, ite2 (fun e => ?_) (fun e => iteF (fin _ (Same.refl _) trivial))⟩
      have e2 : 0 < at_ := of_decide_eq_true e
      exact ⟨_, rfl, _, rfl, _, rfl, at_, 1, rfl, rfl, e2, _, rfl, mst q, 1, rfl, rfl, mp, _, rfl, q, _, ds, at_ - 1, mst q - 1, rfl, hq, Tv.sm s1517 tds15, hd, by omega, m1, fun H18 s18 => ⟨_, rfl, iteF (fin _ s18 trivial)⟩⟩
    case rest2 =>
    intro H18 s18 _
    have s1518 := s1517.trans s18
    refine seq_fin True ?rest3 (fun fin => ?main3)
    case main3 =>
      refine ⟨_, rfl, at_, 1, rfl, rfl, _, rfl, at_ + 1, mpl q ds, rfl, rfl, _, rfl, ite2 (fun e => ?_) (fun e => iteF (fin _ (Same.refl _) trivial))⟩
      have e2 : at_ + 1 < mpl q ds := of_decide_eq_true e
      exact ⟨_, rfl, _, rfl, _, rfl, at_, 1, rfl, rfl, _, rfl, q, _, ds, at_ + 1, 0, rfl, hq, Tv.sm s1518 tds15, hd, e2, mp, fun H19 s19 => ⟨_, rfl, iteF (fin _ s19 trivial)⟩⟩
    case rest3 =>
    intro H19 s19 _
    have s1519 := s1518.trans s19
    -- the depth
    have hdep : depthD (placeOf S) = 2 * m := by
      show 2 * S.bs.length = 2 * m
      rw [← dl, ← sdeg, List.length_map]
    refine ⟨_, rfl, _, rfl, q, pl, placeOf S, rfl, hq, Tv.sm s1519 tp, placeOf_good g, fun H20 s20 => ⟨_, rfl, ?_, ?_⟩⟩
    · have : ((depthD (placeOf S) : Nat) : Int).natAbs < 2 ^ 10 := by
        rw [Int.natAbs_natCast, hdep]
        have : (2 : Nat) ^ 10 = 1024 := by decide
        omega
      exact Nat.lt_trans (PySem.Flt.log2_lt_of (by decide) this) (by decide)
    · refine ⟨_, rfl, 2, m, rfl, rfl, (by show m < 2 ^ 60; omega), _, rfl, ?_, rfl, _, rfl, ?_⟩
      · have : ((2 * m : Nat) : Int).natAbs < 2 ^ 10 := by
          rw [Int.natAbs_natCast]
          have : (2 : Nat) ^ 10 = 1024 := by decide
          omega
        exact Nat.lt_trans (PySem.Flt.log2_lt_of (by decide) this) (by decide)
      · rw [hdep, decide_eq_true rfl]
        refine iteF ?_
        have s1520 := s1519.trans s20
        refine ⟨_, rfl, _, rfl, _, rfl, dk, c, q, pl, placeOf S, rfl, hq, Tv.sm s1520 tp, placeOf_good g, rfl, hD15.sm s1520, fun H21 hD21 hE21 => ?_⟩
        have tds21 := Tv.keep (Exc.keepT (hD15.sm s1520) hE21) _ _ (Tv.sm s1520 tds15)
        refine ⟨_, rfl, _, mst q, rfl, rfl, m60, _, rfl, _, rfl, q, _, ds, rfl, hq, tds21, dok, hl12, fun H22 s22 => ⟨_, _, rfl, rfl, to (k _) ?_⟩⟩
        refine congrArg V.bl (decide_eq_true ?_).symm
        rw [show (placeOf S).bs.map Bend.deg = ds from sdeg]
end
end K32
/-! K32R: what the top has left. -/
namespace K32
open PySem PySem.Spec PyProof.Rows L2
section
variable {K : PySem.W.Frag}
theorem KTup.mk {a : Addr} {xs : List V} {its : Array Value} {n : Nat} {sl : Array (Option Value)} (h : K.lookup a = some ⟨.type "tuple", none, .seq its n, sl⟩) (hz : Nat.ble xs.length 20 = true) (v : Vals xs its.toList) : KTup K a xs := by
  have e : its.size = xs.length := by
    rw [← Array.length_toList]
    exact v.length.symm
  have z := Nat.le_of_ble_eq_true hz
  exact ⟨fun H => .inr ⟨_, its, n, h, rfl, rfl, by rw [e]; exact Nat.le_trans z (by decide), v⟩, _, h, rfl, rfl⟩
theorem powD_mk {d p4 p8 p9 p16 : Addr} {t4 t8 t9 t16 : Tok} {n : Nat} (h : K.lookup d = some ⟨.type "dict", none, .dict #[⟨4, .int 4 t4, .ref p4⟩, ⟨8, .int 8 t8, .ref p8⟩, ⟨9, .int 9 t9, .ref p9⟩, ⟨16, .int 16 t16, .ref p16⟩] n, #[]⟩) (low : (d == sysModules) = false)
    (k4 : KTup K p4 ((pows 4).map nV)) (k8 : KTup K p8 ((pows 8).map nV)) (k9 : KTup K p9 ((pows 9).map nV)) (k16 : KTup K p16 ((pows 16).map nV)) : PowD K d := by
  refine ⟨_, n, h, low, fun e he => ?_, fun q hq => ?_⟩
  · simp only [List.mem_toArray, List.mem_cons, List.not_mem_nil, or_false] at he
    rcases he with rfl | rfl | rfl | rfl
    · exact ⟨4, t4, rfl, (by decide +kernel : (4 : Int) = hashInt 4)⟩
    · exact ⟨8, t8, rfl, (by decide +kernel : (8 : Int) = hashInt 8)⟩
    · exact ⟨9, t9, rfl, (by decide +kernel : (9 : Int) = hashInt 9)⟩
    · exact ⟨16, t16, rfl, (by decide +kernel : (16 : Int) = hashInt 16)⟩
  · unfold fields at hq
    simp only [List.mem_cons, List.not_mem_nil, or_false] at hq
    rcases hq with rfl | rfl | rfl | rfl | rfl | rfl | rfl | rfl | rfl | rfl
    all_goals first
      | exact ⟨fun _ => rfl, fun e => absurd e (by decide)⟩
      | exact ⟨fun e => absurd e (by decide), fun _ => ⟨p4, rfl, k4⟩⟩
      | exact ⟨fun e => absurd e (by decide), fun _ => ⟨p8, rfl, k8⟩⟩
      | exact ⟨fun e => absurd e (by decide), fun _ => ⟨p9, rfl, k9⟩⟩
      | exact ⟨fun e => absurd e (by decide), fun _ => ⟨p16, rfl, k16⟩⟩
theorem nil_mk {a : Addr} {n : Nat} {sl : Array (Option Value)} (h : K.lookup a = some ⟨.type "tuple", none, .seq #[] n, sl⟩) (H : Hp) : Tv K H (.ref a) (.tup []) :=
  .tup ((KTup.mk (xs := []) h rfl .nil).1 H) .nil
end
set_option maxHeartbeats 0 in
theorem all_mk {l : PySem.W.OpenLaw} {w : World} {K : PySem.W.Frag} {h : Heap} {mg : Str → Option Value} {fa : Addr} (X : K.In h) (G : h.Ns mainGlobals mg) (hfa : mg "law" = some (.ref fa))
    {f0 : Addr} {od0 an0 : Option Addr} {sl0 : Array (Option Value)} {oc0 kV0 dc0 pm0 cd0 ct0 : Value}
    {f1 : Addr} {od1 an1 : Option Addr} {sl1 : Array (Option Value)} {oc1 kV1 dc1 pm1 cd1 ct1 : Value}
    {f2 : Addr} {od2 an2 : Option Addr} {sl2 : Array (Option Value)} {oc2 kV2 dc2 pm2 cd2 ct2 : Value}
    {f3 : Addr} {od3 an3 : Option Addr} {sl3 : Array (Option Value)} {oc3 kV3 dc3 pm3 cd3 ct3 : Value}
    {f4 : Addr} {od4 an4 : Option Addr} {sl4 : Array (Option Value)} {oc4 kV4 dc4 pm4 cd4 ct4 : Value}
    {f5 : Addr} {od5 an5 : Option Addr} {sl5 : Array (Option Value)} {oc5 kV5 dc5 pm5 cd5 ct5 : Value}
    {f6 : Addr} {od6 an6 : Option Addr} {sl6 : Array (Option Value)} {oc6 kV6 dc6 pm6 cd6 ct6 : Value}
    {f7 : Addr} {od7 an7 : Option Addr} {sl7 : Array (Option Value)} {oc7 kV7 dc7 pm7 cd7 ct7 : Value}
    {f8 : Addr} {od8 an8 : Option Addr} {sl8 : Array (Option Value)} {oc8 kV8 dc8 pm8 cd8 ct8 : Value}
    {f9 : Addr} {od9 an9 : Option Addr} {sl9 : Array (Option Value)} {oc9 kV9 dc9 pm9 cd9 ct9 : Value}
    {f10 : Addr} {od10 an10 : Option Addr} {sl10 : Array (Option Value)} {oc10 kV10 dc10 pm10 cd10 ct10 : Value}
    {f11 : Addr} {od11 an11 : Option Addr} {sl11 : Array (Option Value)} {oc11 kV11 dc11 pm11 cd11 ct11 : Value}
    {f12 : Addr} {od12 an12 : Option Addr} {sl12 : Array (Option Value)} {oc12 kV12 dc12 pm12 cd12 ct12 : Value}
    {f13 : Addr} {od13 an13 : Option Addr} {sl13 : Array (Option Value)} {oc13 kV13 dc13 pm13 cd13 ct13 : Value}
    {f14 : Addr} {od14 an14 : Option Addr} {sl14 : Array (Option Value)} {oc14 kV14 dc14 pm14 cd14 ct14 : Value}
    {f15 : Addr} {od15 an15 : Option Addr} {sl15 : Array (Option Value)} {oc15 kV15 dc15 pm15 cd15 ct15 : Value}
    {f16 : Addr} {od16 an16 : Option Addr} {sl16 : Array (Option Value)} {oc16 kV16 dc16 pm16 cd16 ct16 : Value}
    {f17 : Addr} {od17 an17 : Option Addr} {sl17 : Array (Option Value)} {oc17 kV17 dc17 pm17 cd17 ct17 : Value}
    {f18 : Addr} {od18 an18 : Option Addr} {sl18 : Array (Option Value)} {oc18 kV18 dc18 pm18 cd18 ct18 : Value}
    {f19 : Addr} {od19 an19 : Option Addr} {sl19 : Array (Option Value)} {oc19 kV19 dc19 pm19 cd19 ct19 : Value}
    {f20 : Addr} {od20 an20 : Option Addr} {sl20 : Array (Option Value)} {oc20 kV20 dc20 pm20 cd20 ct20 : Value}
    {f21 : Addr} {od21 an21 : Option Addr} {sl21 : Array (Option Value)} {oc21 kV21 dc21 pm21 cd21 ct21 : Value}
    {f22 : Addr} {od22 an22 : Option Addr} {sl22 : Array (Option Value)} {oc22 kV22 dc22 pm22 cd22 ct22 : Value}
    {f23 : Addr} {od23 an23 : Option Addr} {sl23 : Array (Option Value)} {oc23 kV23 dc23 pm23 cd23 ct23 : Value}
    {f24 : Addr} {od24 an24 : Option Addr} {sl24 : Array (Option Value)} {oc24 kV24 dc24 pm24 cd24 ct24 : Value}
    {f25 : Addr} {od25 an25 : Option Addr} {sl25 : Array (Option Value)} {oc25 kV25 dc25 pm25 cd25 ct25 : Value}
    {f26 : Addr} {od26 an26 : Option Addr} {sl26 : Array (Option Value)} {oc26 kV26 dc26 pm26 cd26 ct26 : Value}
    {f27 : Addr} {od27 an27 : Option Addr} {sl27 : Array (Option Value)} {oc27 kV27 dc27 pm27 cd27 ct27 : Value}
    {f28 : Addr} {od28 an28 : Option Addr} {sl28 : Array (Option Value)} {oc28 kV28 dc28 pm28 cd28 ct28 : Value}
    {f29 : Addr} {od29 an29 : Option Addr} {sl29 : Array (Option Value)} {oc29 kV29 dc29 pm29 cd29 ct29 : Value}
    {f30 : Addr} {od30 an30 : Option Addr} {sl30 : Array (Option Value)} {oc30 kV30 dc30 pm30 cd30 ct30 : Value}
    {f31 : Addr} {od31 an31 : Option Addr} {sl31 : Array (Option Value)} {oc31 kV31 dc31 pm31 cd31 ct31 : Value}
    {f32 : Addr} {od32 an32 : Option Addr} {sl32 : Array (Option Value)} {oc32 kV32 dc32 pm32 cd32 ct32 : Value}
    {f33 : Addr} {od33 an33 : Option Addr} {sl33 : Array (Option Value)} {oc33 kV33 dc33 pm33 cd33 ct33 : Value}
    {f34 : Addr} {od34 an34 : Option Addr} {sl34 : Array (Option Value)} {oc34 kV34 dc34 pm34 cd34 ct34 : Value}
    {f35 : Addr} {od35 an35 : Option Addr} {sl35 : Array (Option Value)} {oc35 kV35 dc35 pm35 cd35 ct35 : Value}
    {f36 : Addr} {od36 an36 : Option Addr} {sl36 : Array (Option Value)} {oc36 kV36 dc36 pm36 cd36 ct36 : Value}
    {f37 : Addr} {od37 an37 : Option Addr} {sl37 : Array (Option Value)} {oc37 kV37 dc37 pm37 cd37 ct37 : Value}
    {f38 : Addr} {od38 an38 : Option Addr} {sl38 : Array (Option Value)} {oc38 kV38 dc38 pm38 cd38 ct38 : Value}
    {f39 : Addr} {od39 an39 : Option Addr} {sl39 : Array (Option Value)} {oc39 kV39 dc39 pm39 cd39 ct39 : Value}
    {f40 : Addr} {od40 an40 : Option Addr} {sl40 : Array (Option Value)} {oc40 kV40 dc40 pm40 cd40 ct40 : Value}
    {f41 : Addr} {od41 an41 : Option Addr} {sl41 : Array (Option Value)} {oc41 kV41 dc41 pm41 cd41 ct41 : Value}
    {f42 : Addr} {od42 an42 : Option Addr} {sl42 : Array (Option Value)} {oc42 kV42 dc42 pm42 cd42 ct42 : Value}
    {f43 : Addr} {od43 an43 : Option Addr} {sl43 : Array (Option Value)} {oc43 kV43 dc43 pm43 cd43 ct43 : Value}
    {f44 : Addr} {od44 an44 : Option Addr} {sl44 : Array (Option Value)} {oc44 kV44 dc44 pm44 cd44 ct44 : Value}
    {f45 : Addr} {od45 an45 : Option Addr} {sl45 : Array (Option Value)} {oc45 kV45 dc45 pm45 cd45 ct45 : Value}
    {f46 : Addr} {od46 an46 : Option Addr} {sl46 : Array (Option Value)} {oc46 kV46 dc46 pm46 cd46 ct46 : Value}
    {f47 : Addr} {od47 an47 : Option Addr} {sl47 : Array (Option Value)} {oc47 kV47 dc47 pm47 cd47 ct47 : Value}
    {f48 : Addr} {od48 an48 : Option Addr} {sl48 : Array (Option Value)} {oc48 kV48 dc48 pm48 cd48 ct48 : Value}
    {f49 : Addr} {od49 an49 : Option Addr} {sl49 : Array (Option Value)} {oc49 kV49 dc49 pm49 cd49 ct49 : Value}
    {f50 : Addr} {od50 an50 : Option Addr} {sl50 : Array (Option Value)} {oc50 kV50 dc50 pm50 cd50 ct50 : Value}
    {f51 : Addr} {od51 an51 : Option Addr} {sl51 : Array (Option Value)} {oc51 kV51 dc51 pm51 cd51 ct51 : Value}
    {f52 : Addr} {od52 an52 : Option Addr} {sl52 : Array (Option Value)} {oc52 kV52 dc52 pm52 cd52 ct52 : Value}
    {f53 : Addr} {od53 an53 : Option Addr} {sl53 : Array (Option Value)} {oc53 kV53 dc53 pm53 cd53 ct53 : Value}
    {f54 : Addr} {od54 an54 : Option Addr} {sl54 : Array (Option Value)} {oc54 kV54 dc54 pm54 cd54 ct54 : Value}
    {aP aR aN aI r1 r2 m1 m2 p4 p8 p9 p16 : Addr} {tR1 tR2 tN tP4 tP8 tP9 tP16 : Tok} {nP : Nat}
    {t_p4_0 t_p4_1 t_p4_2 : Tok}
    {n_p4 : Nat} {sl_p4 : Array (Option Value)}
    {t_p8_0 t_p8_1 t_p8_2 t_p8_3 t_p8_4 t_p8_5 t_p8_6 : Tok}
    {n_p8 : Nat} {sl_p8 : Array (Option Value)}
    {t_p9_0 t_p9_1 t_p9_2 t_p9_3 t_p9_4 t_p9_5 t_p9_6 t_p9_7 : Tok}
    {n_p9 : Nat} {sl_p9 : Array (Option Value)}
    {t_p16_0 t_p16_1 t_p16_2 t_p16_3 t_p16_4 t_p16_5 t_p16_6 t_p16_7 t_p16_8 t_p16_9 t_p16_10 t_p16_11 t_p16_12 t_p16_13 t_p16_14 : Tok}
    {n_p16 : Nat} {sl_p16 : Array (Option Value)}
    {n_R : Nat} {sl_R : Array (Option Value)}
    {n_r1 : Nat} {sl_r1 : Array (Option Value)}
    {n_r2 : Nat} {sl_r2 : Array (Option Value)}
    {n_N : Nat} {sl_N : Array (Option Value)}
    {n_m1 : Nat} {sl_m1 : Array (Option Value)}
    {n_m2 : Nat} {sl_m2 : Array (Option Value)}
    {t_I_0 t_I_1 t_I_2 t_I_3 t_I_4 t_I_5 : Tok}
    {n_I : Nat} {sl_I : Array (Option Value)}
    (a0 : PySem.W.nsIn K mainGlobals "is_integer" = some (some (.ref f0))) (l0 : K.lookup f0 = some ⟨oc0, od0, .func (PySem.W.fnOf "is_integer" "is_integer" (defArgs s_is_integer) (defBody s_is_integer) (defScope s_is_integer) .none kV0 dc0 pm0 an0 cd0 ct0), sl0⟩) (c0 : PySem.W.codeIn K cd0 "is_integer" = true) (k0 : PySem.W.keepIn K (.ref f0) = true)
    (a1 : PySem.W.nsIn K mainGlobals "is_number" = some (some (.ref f1))) (l1 : K.lookup f1 = some ⟨oc1, od1, .func (PySem.W.fnOf "is_number" "is_number" (defArgs s_is_number) (defBody s_is_number) (defScope s_is_number) .none kV1 dc1 pm1 an1 cd1 ct1), sl1⟩) (c1 : PySem.W.codeIn K cd1 "is_number" = true) (k1 : PySem.W.keepIn K (.ref f1) = true)
    (a2 : PySem.W.nsIn K mainGlobals "plus" = some (some (.ref f2))) (l2 : K.lookup f2 = some ⟨oc2, od2, .func (PySem.W.fnOf "plus" "plus" (defArgs s_plus) (defBody s_plus) (defScope s_plus) .none kV2 dc2 pm2 an2 cd2 ct2), sl2⟩) (c2 : PySem.W.codeIn K cd2 "plus" = true) (k2 : PySem.W.keepIn K (.ref f2) = true)
    (a3 : PySem.W.nsIn K mainGlobals "opposite" = some (some (.ref f3))) (l3 : K.lookup f3 = some ⟨oc3, od3, .func (PySem.W.fnOf "opposite" "opposite" (defArgs s_opposite) (defBody s_opposite) (defScope s_opposite) .none kV3 dc3 pm3 an3 cd3 ct3), sl3⟩) (c3 : PySem.W.codeIn K cd3 "opposite" = true) (k3 : PySem.W.keepIn K (.ref f3) = true)
    (a4 : PySem.W.nsIn K mainGlobals "minus" = some (some (.ref f4))) (l4 : K.lookup f4 = some ⟨oc4, od4, .func (PySem.W.fnOf "minus" "minus" (defArgs s_minus) (defBody s_minus) (defScope s_minus) .none kV4 dc4 pm4 an4 cd4 ct4), sl4⟩) (c4 : PySem.W.codeIn K cd4 "minus" = true) (k4 : PySem.W.keepIn K (.ref f4) = true)
    (a5 : PySem.W.nsIn K mainGlobals "times" = some (some (.ref f5))) (l5 : K.lookup f5 = some ⟨oc5, od5, .func (PySem.W.fnOf "times" "times" (defArgs s_times) (defBody s_times) (defScope s_times) .none kV5 dc5 pm5 an5 cd5 ct5), sl5⟩) (c5 : PySem.W.codeIn K cd5 "times" = true) (k5 : PySem.W.keepIn K (.ref f5) = true)
    (a6 : PySem.W.nsIn K mainGlobals "are_numbers" = some (some (.ref f6))) (l6 : K.lookup f6 = some ⟨oc6, od6, .func (PySem.W.fnOf "are_numbers" "are_numbers" (defArgs s_are_numbers) (defBody s_are_numbers) (defScope s_are_numbers) .none kV6 dc6 pm6 an6 cd6 ct6), sl6⟩) (c6 : PySem.W.codeIn K cd6 "are_numbers" = true) (k6 : PySem.W.keepIn K (.ref f6) = true)
    (a7 : PySem.W.nsIn K mainGlobals "is_one_letter" = some (some (.ref f7))) (l7 : K.lookup f7 = some ⟨oc7, od7, .func (PySem.W.fnOf "is_one_letter" "is_one_letter" (defArgs s_is_one_letter) (defBody s_is_one_letter) (defScope s_is_one_letter) .none kV7 dc7 pm7 an7 cd7 ct7), sl7⟩) (c7 : PySem.W.codeIn K cd7 "is_one_letter" = true) (k7 : PySem.W.keepIn K (.ref f7) = true)
    (a8 : PySem.W.nsIn K mainGlobals "is_bend" = some (some (.ref f8))) (l8 : K.lookup f8 = some ⟨oc8, od8, .func (PySem.W.fnOf "is_bend" "is_bend" (defArgs s_is_bend) (defBody s_is_bend) (defScope s_is_bend) .none kV8 dc8 pm8 an8 cd8 ct8), sl8⟩) (c8 : PySem.W.codeIn K cd8 "is_bend" = true) (k8 : PySem.W.keepIn K (.ref f8) = true)
    (a9 : PySem.W.nsIn K mainGlobals "map_determinant" = some (some (.ref f9))) (l9 : K.lookup f9 = some ⟨oc9, od9, .func (PySem.W.fnOf "map_determinant" "map_determinant" (defArgs s_map_determinant) (defBody s_map_determinant) (defScope s_map_determinant) .none kV9 dc9 pm9 an9 cd9 ct9), sl9⟩) (c9 : PySem.W.codeIn K cd9 "map_determinant" = true) (k9 : PySem.W.keepIn K (.ref f9) = true)
    (a10 : PySem.W.nsIn K mainGlobals "is_straight" = some (some (.ref f10))) (l10 : K.lookup f10 = some ⟨oc10, od10, .func (PySem.W.fnOf "is_straight" "is_straight" (defArgs s_is_straight) (defBody s_is_straight) (defScope s_is_straight) .none kV10 dc10 pm10 an10 cd10 ct10), sl10⟩) (c10 : PySem.W.codeIn K cd10 "is_straight" = true) (k10 : PySem.W.keepIn K (.ref f10) = true)
    (a11 : PySem.W.nsIn K mainGlobals "are_bends" = some (some (.ref f11))) (l11 : K.lookup f11 = some ⟨oc11, od11, .func (PySem.W.fnOf "are_bends" "are_bends" (defArgs s_are_bends) (defBody s_are_bends) (defScope s_are_bends) .none kV11 dc11 pm11 an11 cd11 ct11), sl11⟩) (c11 : PySem.W.codeIn K cd11 "are_bends" = true) (k11 : PySem.W.keepIn K (.ref f11) = true)
    (a12 : PySem.W.nsIn K mainGlobals "are_turns" = some (some (.ref f12))) (l12 : K.lookup f12 = some ⟨oc12, od12, .func (PySem.W.fnOf "are_turns" "are_turns" (defArgs s_are_turns) (defBody s_are_turns) (defScope s_are_turns) .none kV12 dc12 pm12 an12 cd12 ct12), sl12⟩) (c12 : PySem.W.codeIn K cd12 "are_turns" = true) (k12 : PySem.W.keepIn K (.ref f12) = true)
    (a13 : PySem.W.nsIn K mainGlobals "is_start" = some (some (.ref f13))) (l13 : K.lookup f13 = some ⟨oc13, od13, .func (PySem.W.fnOf "is_start" "is_start" (defArgs s_is_start) (defBody s_is_start) (defScope s_is_start) .none kV13 dc13 pm13 an13 cd13 ct13), sl13⟩) (c13 : PySem.W.codeIn K cd13 "is_start" = true) (k13 : PySem.W.keepIn K (.ref f13) = true)
    (a14 : PySem.W.nsIn K mainGlobals "is_step_value" = some (some (.ref f14))) (l14 : K.lookup f14 = some ⟨oc14, od14, .func (PySem.W.fnOf "is_step_value" "is_step_value" (defArgs s_is_step_value) (defBody s_is_step_value) (defScope s_is_step_value) .none kV14 dc14 pm14 an14 cd14 ct14), sl14⟩) (c14 : PySem.W.codeIn K cd14 "is_step_value" = true) (k14 : PySem.W.keepIn K (.ref f14) = true)
    (a15 : PySem.W.nsIn K mainGlobals "check_step" = some (some (.ref f15))) (l15 : K.lookup f15 = some ⟨oc15, od15, .func (PySem.W.fnOf "check_step" "check_step" (defArgs s_check_step) (defBody s_check_step) (defScope s_check_step) .none kV15 dc15 pm15 an15 cd15 ct15), sl15⟩) (c15 : PySem.W.codeIn K cd15 "check_step" = true) (k15 : PySem.W.keepIn K (.ref f15) = true)
    (a16 : PySem.W.nsIn K mainGlobals "many_straight" = some (some (.ref f16))) (l16 : K.lookup f16 = some ⟨oc16, od16, .func (PySem.W.fnOf "many_straight" "many_straight" (defArgs s_many_straight) (defBody s_many_straight) (defScope s_many_straight) .none kV16 dc16 pm16 an16 cd16 ct16), sl16⟩) (c16 : PySem.W.codeIn K cd16 "many_straight" = true) (k16 : PySem.W.keepIn K (.ref f16) = true)
    (a17 : PySem.W.nsIn K mainGlobals "many_bends" = some (some (.ref f17))) (l17 : K.lookup f17 = some ⟨oc17, od17, .func (PySem.W.fnOf "many_bends" "many_bends" (defArgs s_many_bends) (defBody s_many_bends) (defScope s_many_bends) .none kV17 dc17 pm17 an17 cd17 ct17), sl17⟩) (c17 : PySem.W.codeIn K cd17 "many_bends" = true) (k17 : PySem.W.keepIn K (.ref f17) = true)
    (a18 : PySem.W.nsIn K mainGlobals "many_steps" = some (some (.ref f18))) (l18 : K.lookup f18 = some ⟨oc18, od18, .func (PySem.W.fnOf "many_steps" "many_steps" (defArgs s_many_steps) (defBody s_many_steps) (defScope s_many_steps) .none kV18 dc18 pm18 an18 cd18 ct18), sl18⟩) (c18 : PySem.W.codeIn K cd18 "many_steps" = true) (k18 : PySem.W.keepIn K (.ref f18) = true)
    (a19 : PySem.W.nsIn K mainGlobals "seconds" = some (some (.ref f19))) (l19 : K.lookup f19 = some ⟨oc19, od19, .func (PySem.W.fnOf "seconds" "seconds" (defArgs s_seconds) (defBody s_seconds) (defScope s_seconds) .none kV19 dc19 pm19 an19 cd19 ct19), sl19⟩) (c19 : PySem.W.codeIn K cd19 "seconds" = true) (k19 : PySem.W.keepIn K (.ref f19) = true)
    (a20 : PySem.W.nsIn K mainGlobals "map_number" = some (some (.ref f20))) (l20 : K.lookup f20 = some ⟨oc20, od20, .func (PySem.W.fnOf "map_number" "map_number" (defArgs s_map_number) (defBody s_map_number) (defScope s_map_number) .none kV20 dc20 pm20 an20 cd20 ct20), sl20⟩) (c20 : PySem.W.codeIn K cd20 "map_number" = true) (k20 : PySem.W.keepIn K (.ref f20) = true)
    (a21 : PySem.W.nsIn K mainGlobals "map_at" = some (some (.ref f21))) (l21 : K.lookup f21 = some ⟨oc21, od21, .func (PySem.W.fnOf "map_at" "map_at" (defArgs s_map_at) (defBody s_map_at) (defScope s_map_at) .none kV21 dc21 pm21 an21 cd21 ct21), sl21⟩) (c21 : PySem.W.codeIn K cd21 "map_at" = true) (k21 : PySem.W.keepIn K (.ref f21) = true)
    (a22 : PySem.W.nsIn K mainGlobals "bend_number" = some (some (.ref f22))) (l22 : K.lookup f22 = some ⟨oc22, od22, .func (PySem.W.fnOf "bend_number" "bend_number" (defArgs s_bend_number) (defBody s_bend_number) (defScope s_bend_number) .none kV22 dc22 pm22 an22 cd22 ct22), sl22⟩) (c22 : PySem.W.codeIn K cd22 "bend_number" = true) (k22 : PySem.W.keepIn K (.ref f22) = true)
    (a23 : PySem.W.nsIn K mainGlobals "bend_at" = some (some (.ref f23))) (l23 : K.lookup f23 = some ⟨oc23, od23, .func (PySem.W.fnOf "bend_at" "bend_at" (defArgs s_bend_at) (defBody s_bend_at) (defScope s_bend_at) .none kV23 dc23 pm23 an23 cd23 ct23), sl23⟩) (c23 : PySem.W.codeIn K cd23 "bend_at" = true) (k23 : PySem.W.keepIn K (.ref f23) = true)
    (a24 : PySem.W.nsIn K mainGlobals "step_number" = some (some (.ref f24))) (l24 : K.lookup f24 = some ⟨oc24, od24, .func (PySem.W.fnOf "step_number" "step_number" (defArgs s_step_number) (defBody s_step_number) (defScope s_step_number) .none kV24 dc24 pm24 an24 cd24 ct24), sl24⟩) (c24 : PySem.W.codeIn K cd24 "step_number" = true) (k24 : PySem.W.keepIn K (.ref f24) = true)
    (a25 : PySem.W.nsIn K mainGlobals "step_at" = some (some (.ref f25))) (l25 : K.lookup f25 = some ⟨oc25, od25, .func (PySem.W.fnOf "step_at" "step_at" (defArgs s_step_at) (defBody s_step_at) (defScope s_step_at) .none kV25 dc25 pm25 an25 cd25 ct25), sl25⟩) (c25 : PySem.W.codeIn K cd25 "step_at" = true) (k25 : PySem.W.keepIn K (.ref f25) = true)
    (a26 : PySem.W.nsIn K mainGlobals "is_place" = some (some (.ref f26))) (l26 : K.lookup f26 = some ⟨oc26, od26, .func (PySem.W.fnOf "is_place" "is_place" (defArgs s_is_place) (defBody s_is_place) (defScope s_is_place) .none kV26 dc26 pm26 an26 cd26 ct26), sl26⟩) (c26 : PySem.W.codeIn K cd26 "is_place" = true) (k26 : PySem.W.keepIn K (.ref f26) = true)
    (a27 : PySem.W.nsIn K mainGlobals "check_place" = some (some (.ref f27))) (l27 : K.lookup f27 = some ⟨oc27, od27, .func (PySem.W.fnOf "check_place" "check_place" (defArgs s_check_place) (defBody s_check_place) (defScope s_check_place) .none kV27 dc27 pm27 an27 cd27 ct27), sl27⟩) (c27 : PySem.W.codeIn K cd27 "check_place" = true) (k27 : PySem.W.keepIn K (.ref f27) = true)
    (a28 : PySem.W.nsIn K mainGlobals "items_of" = some (some (.ref f28))) (l28 : K.lookup f28 = some ⟨oc28, od28, .func (PySem.W.fnOf "items_of" "items_of" (defArgs s_items_of) (defBody s_items_of) (defScope s_items_of) .none kV28 dc28 pm28 an28 cd28 ct28), sl28⟩) (c28 : PySem.W.codeIn K cd28 "items_of" = true) (k28 : PySem.W.keepIn K (.ref f28) = true)
    (a29 : PySem.W.nsIn K mainGlobals "place_at" = some (some (.ref f29))) (l29 : K.lookup f29 = some ⟨oc29, od29, .func (PySem.W.fnOf "place_at" "place_at" (defArgs s_place_at) (defBody s_place_at) (defScope s_place_at) .none kV29 dc29 pm29 an29 cd29 ct29), sl29⟩) (c29 : PySem.W.codeIn K cd29 "place_at" = true) (k29 : PySem.W.keepIn K (.ref f29) = true)
    (a30 : PySem.W.nsIn K mainGlobals "row_step" = some (some (.ref f30))) (l30 : K.lookup f30 = some ⟨oc30, od30, .func (PySem.W.fnOf "row_step" "row_step" (defArgs s_row_step) (defBody s_row_step) (defScope s_row_step) .none kV30 dc30 pm30 an30 cd30 ct30), sl30⟩) (c30 : PySem.W.codeIn K cd30 "row_step" = true) (k30 : PySem.W.keepIn K (.ref f30) = true)
    (a31 : PySem.W.nsIn K mainGlobals "place_in" = some (some (.ref f31))) (l31 : K.lookup f31 = some ⟨oc31, od31, .func (PySem.W.fnOf "place_in" "place_in" (defArgs s_place_in) (defBody s_place_in) (defScope s_place_in) .none kV31 dc31 pm31 an31 cd31 ct31), sl31⟩) (c31 : PySem.W.codeIn K cd31 "place_in" = true) (k31 : PySem.W.keepIn K (.ref f31) = true)
    (a32 : PySem.W.nsIn K mainGlobals "step_of_place" = some (some (.ref f32))) (l32 : K.lookup f32 = some ⟨oc32, od32, .func (PySem.W.fnOf "step_of_place" "step_of_place" (defArgs s_step_of_place) (defBody s_step_of_place) (defScope s_step_of_place) .none kV32 dc32 pm32 an32 cd32 ct32), sl32⟩) (c32 : PySem.W.codeIn K cd32 "step_of_place" = true) (k32 : PySem.W.keepIn K (.ref f32) = true)
    (a33 : PySem.W.nsIn K mainGlobals "place_of" = some (some (.ref f33))) (l33 : K.lookup f33 = some ⟨oc33, od33, .func (PySem.W.fnOf "place_of" "place_of" (defArgs s_place_of) (defBody s_place_of) (defScope s_place_of) .none kV33 dc33 pm33 an33 cd33 ct33), sl33⟩) (c33 : PySem.W.codeIn K cd33 "place_of" = true) (k33 : PySem.W.keepIn K (.ref f33) = true)
    (a34 : PySem.W.nsIn K mainGlobals "ahead" = some (some (.ref f34))) (l34 : K.lookup f34 = some ⟨oc34, od34, .func (PySem.W.fnOf "ahead" "ahead" (defArgs s_ahead) (defBody s_ahead) (defScope s_ahead) .none kV34 dc34 pm34 an34 cd34 ct34), sl34⟩) (c34 : PySem.W.codeIn K cd34 "ahead" = true) (k34 : PySem.W.keepIn K (.ref f34) = true)
    (a35 : PySem.W.nsIn K mainGlobals "depth" = some (some (.ref f35))) (l35 : K.lookup f35 = some ⟨oc35, od35, .func (PySem.W.fnOf "depth" "depth" (defArgs s_depth) (defBody s_depth) (defScope s_depth) .none kV35 dc35 pm35 an35 cd35 ct35), sl35⟩) (c35 : PySem.W.codeIn K cd35 "depth" = true) (k35 : PySem.W.keepIn K (.ref f35) = true)
    (a36 : PySem.W.nsIn K mainGlobals "many_behind" = some (some (.ref f36))) (l36 : K.lookup f36 = some ⟨oc36, od36, .func (PySem.W.fnOf "many_behind" "many_behind" (defArgs s_many_behind) (defBody s_many_behind) (defScope s_many_behind) .none kV36 dc36 pm36 an36 cd36 ct36), sl36⟩) (c36 : PySem.W.codeIn K cd36 "many_behind" = true) (k36 : PySem.W.keepIn K (.ref f36) = true)
    (a37 : PySem.W.nsIn K mainGlobals "nothing" = some (some (.ref f37))) (l37 : K.lookup f37 = some ⟨oc37, od37, .func (PySem.W.fnOf "nothing" "nothing" (defArgs s_nothing) (defBody s_nothing) (defScope s_nothing) .none kV37 dc37 pm37 an37 cd37 ct37), sl37⟩) (c37 : PySem.W.codeIn K cd37 "nothing" = true) (k37 : PySem.W.keepIn K (.ref f37) = true)
    (a38 : PySem.W.nsIn K mainGlobals "bend_degrees" = some (some (.ref f38))) (l38 : K.lookup f38 = some ⟨oc38, od38, .func (PySem.W.fnOf "bend_degrees" "bend_degrees" (defArgs s_bend_degrees) (defBody s_bend_degrees) (defScope s_bend_degrees) .none kV38 dc38 pm38 an38 cd38 ct38), sl38⟩) (c38 : PySem.W.codeIn K cd38 "bend_degrees" = true) (k38 : PySem.W.keepIn K (.ref f38) = true)
    (a39 : PySem.W.nsIn K mainGlobals "degrees_of" = some (some (.ref f39))) (l39 : K.lookup f39 = some ⟨oc39, od39, .func (PySem.W.fnOf "degrees_of" "degrees_of" (defArgs s_degrees_of) (defBody s_degrees_of) (defScope s_degrees_of) .none kV39 dc39 pm39 an39 cd39 ct39), sl39⟩) (c39 : PySem.W.codeIn K cd39 "degrees_of" = true) (k39 : PySem.W.keepIn K (.ref f39) = true)
    (a40 : PySem.W.nsIn K mainGlobals "_law_draw" = some (some (.ref f40))) (l40 : K.lookup f40 = some ⟨oc40, od40, .func (PySem.W.fnOf "_law_draw" "_law_draw" (defArgs s__law_draw) (defBody s__law_draw) (defScope s__law_draw) .none kV40 dc40 pm40 an40 cd40 ct40), sl40⟩) (c40 : PySem.W.codeIn K cd40 "_law_draw" = true) (k40 : PySem.W.keepIn K (.ref f40) = true)
    (a41 : PySem.W.nsIn K mainGlobals "_law_deck" = some (some (.ref f41))) (l41 : K.lookup f41 = some ⟨oc41, od41, .func (PySem.W.fnOf "_law_deck" "_law_deck" (defArgs s__law_deck) (defBody s__law_deck) (defScope s__law_deck) .none kV41 dc41 pm41 an41 cd41 ct41), sl41⟩) (c41 : PySem.W.codeIn K cd41 "_law_deck" = true) (k41 : PySem.W.keepIn K (.ref f41) = true)
    (a42 : PySem.W.nsIn K mainGlobals "_law_pick" = some (some (.ref f42))) (l42 : K.lookup f42 = some ⟨oc42, od42, .func (PySem.W.fnOf "_law_pick" "_law_pick" (defArgs s__law_pick) (defBody s__law_pick) (defScope s__law_pick) .none kV42 dc42 pm42 an42 cd42 ct42), sl42⟩) (c42 : PySem.W.codeIn K cd42 "_law_pick" = true) (k42 : PySem.W.keepIn K (.ref f42) = true)
    (a43 : PySem.W.nsIn K mainGlobals "_law_some_field" = some (some (.ref f43))) (l43 : K.lookup f43 = some ⟨oc43, od43, .func (PySem.W.fnOf "_law_some_field" "_law_some_field" (defArgs s__law_some_field) (defBody s__law_some_field) (defScope s__law_some_field) .none kV43 dc43 pm43 an43 cd43 ct43), sl43⟩) (c43 : PySem.W.codeIn K cd43 "_law_some_field" = true) (k43 : PySem.W.keepIn K (.ref f43) = true)
    (a44 : PySem.W.nsIn K mainGlobals "_law_great" = some (some (.ref f44))) (l44 : K.lookup f44 = some ⟨oc44, od44, .func (PySem.W.fnOf "_law_great" "_law_great" (defArgs s__law_great) (defBody s__law_great) (defScope s__law_great) .none kV44 dc44 pm44 an44 cd44 ct44), sl44⟩) (c44 : PySem.W.codeIn K cd44 "_law_great" = true) (k44 : PySem.W.keepIn K (.ref f44) = true)
    (a45 : PySem.W.nsIn K mainGlobals "_law_edge" = some (some (.ref f45))) (l45 : K.lookup f45 = some ⟨oc45, od45, .func (PySem.W.fnOf "_law_edge" "_law_edge" (defArgs s__law_edge) (defBody s__law_edge) (defScope s__law_edge) .none kV45 dc45 pm45 an45 cd45 ct45), sl45⟩) (c45 : PySem.W.codeIn K cd45 "_law_edge" = true) (k45 : PySem.W.keepIn K (.ref f45) = true)
    (a46 : PySem.W.nsIn K mainGlobals "_law_power" = some (some (.ref f46))) (l46 : K.lookup f46 = some ⟨oc46, od46, .func (PySem.W.fnOf "_law_power" "_law_power" (defArgs s__law_power) (defBody s__law_power) (defScope s__law_power) .none kV46 dc46 pm46 an46 cd46 ct46), sl46⟩) (c46 : PySem.W.codeIn K cd46 "_law_power" = true) (k46 : PySem.W.keepIn K (.ref f46) = true)
    (a47 : PySem.W.nsIn K mainGlobals "_law_many_places" = some (some (.ref f47))) (l47 : K.lookup f47 = some ⟨oc47, od47, .func (PySem.W.fnOf "_law_many_places" "_law_many_places" (defArgs s__law_many_places) (defBody s__law_many_places) (defScope s__law_many_places) .none kV47 dc47 pm47 an47 cd47 ct47), sl47⟩) (c47 : PySem.W.codeIn K cd47 "_law_many_places" = true) (k47 : PySem.W.keepIn K (.ref f47) = true)
    (a48 : PySem.W.nsIn K mainGlobals "_law_rank" = some (some (.ref f48))) (l48 : K.lookup f48 = some ⟨oc48, od48, .func (PySem.W.fnOf "_law_rank" "_law_rank" (defArgs s__law_rank) (defBody s__law_rank) (defScope s__law_rank) .none kV48 dc48 pm48 an48 cd48 ct48), sl48⟩) (c48 : PySem.W.codeIn K cd48 "_law_rank" = true) (k48 : PySem.W.keepIn K (.ref f48) = true)
    (a49 : PySem.W.nsIn K mainGlobals "_law_depth" = some (some (.ref f49))) (l49 : K.lookup f49 = some ⟨oc49, od49, .func (PySem.W.fnOf "_law_depth" "_law_depth" (defArgs s__law_depth) (defBody s__law_depth) (defScope s__law_depth) .none kV49 dc49 pm49 an49 cd49 ct49), sl49⟩) (c49 : PySem.W.codeIn K cd49 "_law_depth" = true) (k49 : PySem.W.keepIn K (.ref f49) = true)
    (a50 : PySem.W.nsIn K mainGlobals "_law_ahead" = some (some (.ref f50))) (l50 : K.lookup f50 = some ⟨oc50, od50, .func (PySem.W.fnOf "_law_ahead" "_law_ahead" (defArgs s__law_ahead) (defBody s__law_ahead) (defScope s__law_ahead) .none kV50 dc50 pm50 an50 cd50 ct50), sl50⟩) (c50 : PySem.W.codeIn K cd50 "_law_ahead" = true) (k50 : PySem.W.keepIn K (.ref f50) = true)
    (a51 : PySem.W.nsIn K mainGlobals "_law_chain" = some (some (.ref f51))) (l51 : K.lookup f51 = some ⟨oc51, od51, .func (PySem.W.fnOf "_law_chain" "_law_chain" (defArgs s__law_chain) (defBody s__law_chain) (defScope s__law_chain) .none kV51 dc51 pm51 an51 cd51 ct51), sl51⟩) (c51 : PySem.W.codeIn K cd51 "_law_chain" = true) (k51 : PySem.W.keepIn K (.ref f51) = true)
    (a52 : PySem.W.nsIn K mainGlobals "_law_in_block" = some (some (.ref f52))) (l52 : K.lookup f52 = some ⟨oc52, od52, .func (PySem.W.fnOf "_law_in_block" "_law_in_block" (defArgs s__law_in_block) (defBody s__law_in_block) (defScope s__law_in_block) .none kV52 dc52 pm52 an52 cd52 ct52), sl52⟩) (c52 : PySem.W.codeIn K cd52 "_law_in_block" = true) (k52 : PySem.W.keepIn K (.ref f52) = true)
    (a53 : PySem.W.nsIn K mainGlobals "_law_along_chain" = some (some (.ref f53))) (l53 : K.lookup f53 = some ⟨oc53, od53, .func (PySem.W.fnOf "_law_along_chain" "_law_along_chain" (defArgs s__law_along_chain) (defBody s__law_along_chain) (defScope s__law_along_chain) .none kV53 dc53 pm53 an53 cd53 ct53), sl53⟩) (c53 : PySem.W.codeIn K cd53 "_law_along_chain" = true) (k53 : PySem.W.keepIn K (.ref f53) = true)
    (a54 : PySem.W.nsIn K mainGlobals "law" = some (some (.ref f54))) (l54 : K.lookup f54 = some ⟨oc54, od54, .func (PySem.W.fnOf "law" "law" (defArgs s_law) (defBody s_law) (defScope s_law) .none kV54 dc54 pm54 an54 cd54 ct54), sl54⟩) (c54 : PySem.W.codeIn K cd54 "law" = true) (k54 : PySem.W.keepIn K (.ref f54) = true)
    (z_isi : PySem.W.nsIn K mainGlobals "isinstance" = some none)
    (z_int : PySem.W.nsIn K mainGlobals "int" = some none)
    (z_bool : PySem.W.nsIn K mainGlobals "bool" = some none)
    (z_tup : PySem.W.nsIn K mainGlobals "tuple" = some none)
    (z_all : PySem.W.nsIn K mainGlobals "all" = some none)
    (z_range : PySem.W.nsIn K mainGlobals "range" = some none)
    (z_enum : PySem.W.nsIn K mainGlobals "enumerate" = some none)
    (z_len : PySem.W.nsIn K mainGlobals "len" = some none)
    (z_max : PySem.W.nsIn K mainGlobals "max" = some none)
    (z_list : PySem.W.nsIn K mainGlobals "list" = some none)
    (z_zip : PySem.W.nsIn K mainGlobals "zip" = some none)
    (z_repr : PySem.W.nsIn K mainGlobals "repr" = some none)
    (g_P : PySem.W.nsIn K mainGlobals "POWERS" = some (some (.ref aP)))
    (g_R : PySem.W.nsIn K mainGlobals "ROOT" = some (some (.ref aR)))
    (g_N : PySem.W.nsIn K mainGlobals "NOTHING" = some (some (.ref aN)))
    (g_I : PySem.W.nsIn K mainGlobals "IDENTITY" = some (some (.ref aI)))
    (w_P : K.lookup aP = some ⟨.type "dict", none, .dict #[⟨4, .int 4 tP4, .ref p4⟩, ⟨8, .int 8 tP8, .ref p8⟩, ⟨9, .int 9 tP9, .ref p9⟩, ⟨16, .int 16 tP16, .ref p16⟩] nP, #[]⟩) (low : (aP == sysModules) = false)
    (w_p4 : K.lookup p4 = some ⟨.type "tuple", none, .seq #[.int 1 t_p4_0, .int 2 t_p4_1, .int 3 t_p4_2] n_p4, sl_p4⟩)
    (w_p8 : K.lookup p8 = some ⟨.type "tuple", none, .seq #[.int 1 t_p8_0, .int 2 t_p8_1, .int 4 t_p8_2, .int 3 t_p8_3, .int 6 t_p8_4, .int 7 t_p8_5, .int 5 t_p8_6] n_p8, sl_p8⟩)
    (w_p9 : K.lookup p9 = some ⟨.type "tuple", none, .seq #[.int 1 t_p9_0, .int 3 t_p9_1, .int 4 t_p9_2, .int 7 t_p9_3, .int 2 t_p9_4, .int 6 t_p9_5, .int 8 t_p9_6, .int 5 t_p9_7] n_p9, sl_p9⟩)
    (w_p16 : K.lookup p16 = some ⟨.type "tuple", none, .seq #[.int 1 t_p16_0, .int 2 t_p16_1, .int 4 t_p16_2, .int 8 t_p16_3, .int 3 t_p16_4, .int 6 t_p16_5, .int 12 t_p16_6, .int 11 t_p16_7, .int 5 t_p16_8, .int 10 t_p16_9, .int 7 t_p16_10, .int 14 t_p16_11, .int 15 t_p16_12, .int 13 t_p16_13, .int 9 t_p16_14] n_p16, sl_p16⟩)
    (w_R : K.lookup aR = some ⟨.type "tuple", none, .seq #[.str "straight" tR1, .int (-1) tR2, .ref r1, .ref r2] n_R, sl_R⟩)
    (w_r1 : K.lookup r1 = some ⟨.type "tuple", none, .seq #[] n_r1, sl_r1⟩)
    (w_r2 : K.lookup r2 = some ⟨.type "tuple", none, .seq #[] n_r2, sl_r2⟩)
    (w_N : K.lookup aN = some ⟨.type "tuple", none, .seq #[.int (-1) tN, .ref m1, .ref m2, .ref aI] n_N, sl_N⟩)
    (w_m1 : K.lookup m1 = some ⟨.type "tuple", none, .seq #[] n_m1, sl_m1⟩)
    (w_m2 : K.lookup m2 = some ⟨.type "tuple", none, .seq #[] n_m2, sl_m2⟩)
    (w_I : K.lookup aI = some ⟨.type "tuple", none, .seq #[.int 1 t_I_0, .int 0 t_I_1, .int 0 t_I_2, .int 0 t_I_3, .int 1 t_I_4, .int 0 t_I_5] n_I, sl_I⟩) :
    ∃ fd : FuncData, (∀ (s : Shared) (v : Value), BindsTo s fd ⟨[v], []⟩ [("_law_script", v)]) ∧ ∀ base : Heap, K.In base → base.Ns mainGlobals mg → FnG l.prog w K mg base 11 fa fd ["_law_script"] (spLaw K) := by
  have e := hfa.symm.trans (PySem.W.mg_of X G a54)
  cases e
  have B : Blt mg := ⟨PySem.W.mg_none_of X G z_isi, PySem.W.mg_none_of X G z_int, PySem.W.mg_none_of X G z_bool, PySem.W.mg_none_of X G z_tup, PySem.W.mg_none_of X G z_all, PySem.W.mg_none_of X G z_range, PySem.W.mg_none_of X G z_enum, PySem.W.mg_none_of X G z_len, PySem.W.mg_none_of X G z_max, PySem.W.mg_none_of X G z_list, PySem.W.mg_none_of X G z_zip, PySem.W.mg_none_of X G z_repr⟩
  have D : PowD K aP := powD_mk w_P low (KTup.mk (w_p4) rfl (.cons ⟨_, rfl⟩ (.cons ⟨_, rfl⟩ (.cons ⟨_, rfl⟩ (.nil))))) (KTup.mk (w_p8) rfl (.cons ⟨_, rfl⟩ (.cons ⟨_, rfl⟩ (.cons ⟨_, rfl⟩ (.cons ⟨_, rfl⟩ (.cons ⟨_, rfl⟩ (.cons ⟨_, rfl⟩ (.cons ⟨_, rfl⟩ (.nil))))))))) (KTup.mk (w_p9) rfl (.cons ⟨_, rfl⟩ (.cons ⟨_, rfl⟩ (.cons ⟨_, rfl⟩ (.cons ⟨_, rfl⟩ (.cons ⟨_, rfl⟩ (.cons ⟨_, rfl⟩ (.cons ⟨_, rfl⟩ (.cons ⟨_, rfl⟩ (.nil)))))))))) (KTup.mk (w_p16) rfl (.cons ⟨_, rfl⟩ (.cons ⟨_, rfl⟩ (.cons ⟨_, rfl⟩ (.cons ⟨_, rfl⟩ (.cons ⟨_, rfl⟩ (.cons ⟨_, rfl⟩ (.cons ⟨_, rfl⟩ (.cons ⟨_, rfl⟩ (.cons ⟨_, rfl⟩ (.cons ⟨_, rfl⟩ (.cons ⟨_, rfl⟩ (.cons ⟨_, rfl⟩ (.cons ⟨_, rfl⟩ (.cons ⟨_, rfl⟩ (.cons ⟨_, rfl⟩ (.nil)))))))))))))))))
  have gPOWERS := PySem.W.mg_of X G g_P
  have gROOT := PySem.W.mg_of X G g_R
  have gNOTHING := PySem.W.mg_of X G g_N
  have gIDENTITY := PySem.W.mg_of X G g_I
  have tROOT : ∀ H, Tv K H (.ref aR) (dPlace root) := fun H =>
    .tup ((KTup.mk (xs := [.str "straight", .int (-1), .ref r1, .ref r2]) w_R rfl (.cons ⟨_, rfl⟩ (.cons ⟨_, rfl⟩ (.cons rfl (.cons rfl .nil))))).1 H) (.cons (.str _) (.cons (.int _) (.cons (nil_mk w_r1 H) (.cons (nil_mk w_r2 H) .nil))))
  have kI : KTup K aI (ident.nums.map nV) := KTup.mk (w_I) rfl (.cons ⟨_, rfl⟩ (.cons ⟨_, rfl⟩ (.cons ⟨_, rfl⟩ (.cons ⟨_, rfl⟩ (.cons ⟨_, rfl⟩ (.cons ⟨_, rfl⟩ (.nil)))))))
  have tIDENTITY : ∀ H, Tv K H (.ref aI) (dNs ident.nums) := fun H => Tv.ofNs (kI.1 H)
  have tNOTHING : ∀ H, Tv K H (.ref aN) (dStep noStep) := fun H =>
    .tup ((KTup.mk (xs := [.int (-1), .ref m1, .ref m2, .ref aI]) w_N rfl (.cons ⟨_, rfl⟩ (.cons rfl (.cons rfl (.cons rfl .nil))))).1 H) (.cons (.int _) (.cons (nil_mk w_m1 H) (.cons (nil_mk w_m2 H) (.cons (tIDENTITY H) .nil))))
  refine ⟨PySem.W.fnOf "law" "law" (defArgs s_law) (defBody s_law) (defScope s_law) .none kV54 dc54 pm54 an54 cd54 ct54, fun s v => .of_eq rfl, fun base _ _ => ?_⟩
  have F0 := fun_mk (st := s_is_integer) l0 c0 k0
  have H_is_integer : Has l.prog w K mg base 1 "is_integer" s_is_integer ["thing"] spIsInt := Has.mk' F0 (ok_is_integer (P := l.prog) (w := w) (mg := mg) (base := base) F0 B) (PySem.W.mg_of X G a0) (F0.binds (ps := ["thing"]) fun _ _ _ _ _ _ us hl => match us, hl with | [_], _ => rfl)
  have F1 := fun_mk (st := s_is_number) l1 c1 k1
  have H_is_number : Has l.prog w K mg base 2 "is_number" s_is_number ["q", "thing"] spIsNum := Has.mk' F1 (ok_is_number (P := l.prog) (w := w) (mg := mg) (base := base) F1 B (H_is_integer.mono (by decide))) (PySem.W.mg_of X G a1) (F1.binds (ps := ["q", "thing"]) fun _ _ _ _ _ _ us hl => match us, hl with | [_, _], _ => rfl)
  have F2 := fun_mk (st := s_plus) l2 c2 k2
  have H_plus : Has l.prog w K mg base 1 "plus" s_plus ["q", "a", "b"] spPlus := Has.mk' F2 (ok_plus (P := l.prog) (w := w) (mg := mg) (base := base) F2 D gPOWERS) (PySem.W.mg_of X G a2) (F2.binds (ps := ["q", "a", "b"]) fun _ _ _ _ _ _ us hl => match us, hl with | [_, _, _], _ => rfl)
  have F3 := fun_mk (st := s_opposite) l3 c3 k3
  have H_opposite : Has l.prog w K mg base 1 "opposite" s_opposite ["q", "a"] spOpp := Has.mk' F3 (ok_opposite (P := l.prog) (w := w) (mg := mg) (base := base) F3 D gPOWERS) (PySem.W.mg_of X G a3) (F3.binds (ps := ["q", "a"]) fun _ _ _ _ _ _ us hl => match us, hl with | [_, _], _ => rfl)
  have F4 := fun_mk (st := s_minus) l4 c4 k4
  have H_minus : Has l.prog w K mg base 2 "minus" s_minus ["q", "a", "b"] spMinus := Has.mk' F4 (ok_minus (P := l.prog) (w := w) (mg := mg) (base := base) F4 (H_plus.mono (by decide)) (H_opposite.mono (by decide))) (PySem.W.mg_of X G a4) (F4.binds (ps := ["q", "a", "b"]) fun _ _ _ _ _ _ us hl => match us, hl with | [_, _, _], _ => rfl)
  have F5 := fun_mk (st := s_times) l5 c5 k5
  have H_times : Has l.prog w K mg base 1 "times" s_times ["q", "a", "b"] spTimes := Has.mk' F5 (ok_times (P := l.prog) (w := w) (mg := mg) (base := base) F5 D gPOWERS) (PySem.W.mg_of X G a5) (F5.binds (ps := ["q", "a", "b"]) fun _ _ _ _ _ _ us hl => match us, hl with | [_, _, _], _ => rfl)
  have F6 := fun_mk (st := s_are_numbers) l6 c6 k6
  have H_are_numbers : Has l.prog w K mg base 3 "are_numbers" s_are_numbers ["q", "thing"] (spAreNum K) := Has.mk' F6 (ok_are_numbers (P := l.prog) (w := w) (mg := mg) (base := base) F6 B (H_is_number.mono (by decide))) (PySem.W.mg_of X G a6) (F6.binds (ps := ["q", "thing"]) fun _ _ _ _ _ _ us hl => match us, hl with | [_, _], _ => rfl)
  have F7 := fun_mk (st := s_is_one_letter) l7 c7 k7
  have H_is_one_letter : Has l.prog w K mg base 4 "is_one_letter" s_is_one_letter ["q", "thing"] (spBend K) := Has.mk' F7 (ok_is_one_letter (P := l.prog) (w := w) (mg := mg) (base := base) F7 (H_are_numbers.mono (by decide))) (PySem.W.mg_of X G a7) (F7.binds (ps := ["q", "thing"]) fun _ _ _ _ _ _ us hl => match us, hl with | [_, _], _ => rfl)
  have F8 := fun_mk (st := s_is_bend) l8 c8 k8
  have H_is_bend : Has l.prog w K mg base 5 "is_bend" s_is_bend ["q", "thing"] (spBend K) := Has.mk' F8 (ok_is_bend (P := l.prog) (w := w) (mg := mg) (base := base) F8 B (H_is_one_letter.mono (by decide))) (PySem.W.mg_of X G a8) (F8.binds (ps := ["q", "thing"]) fun _ _ _ _ _ _ us hl => match us, hl with | [_, _], _ => rfl)
  have F9 := fun_mk (st := s_map_determinant) l9 c9 k9
  have H_map_determinant : Has l.prog w K mg base 3 "map_determinant" s_map_determinant ["q", "m"] (spDet K) := Has.mk' F9 (ok_map_determinant (P := l.prog) (w := w) (mg := mg) (base := base) F9 (H_minus.mono (by decide)) (H_times.mono (by decide))) (PySem.W.mg_of X G a9) (F9.binds (ps := ["q", "m"]) fun _ _ _ _ _ _ us hl => match us, hl with | [_, _], _ => rfl)
  have F10 := fun_mk (st := s_is_straight) l10 c10 k10
  have H_is_straight : Has l.prog w K mg base 4 "is_straight" s_is_straight ["q", "thing"] (spStraight K) := Has.mk' F10 (ok_is_straight (P := l.prog) (w := w) (mg := mg) (base := base) F10 B (H_are_numbers.mono (by decide)) (H_map_determinant.mono (by decide))) (PySem.W.mg_of X G a10) (F10.binds (ps := ["q", "thing"]) fun _ _ _ _ _ _ us hl => match us, hl with | [_, _], _ => rfl)
  have F11 := fun_mk (st := s_are_bends) l11 c11 k11
  have H_are_bends : Has l.prog w K mg base 6 "are_bends" s_are_bends ["q", "thing"] (spBends K) := Has.mk' F11 (ok_are_bends (P := l.prog) (w := w) (mg := mg) (base := base) F11 B (H_is_bend.mono (by decide))) (PySem.W.mg_of X G a11) (F11.binds (ps := ["q", "thing"]) fun _ _ _ _ _ _ us hl => match us, hl with | [_, _], _ => rfl)
  have F12 := fun_mk (st := s_are_turns) l12 c12 k12
  have H_are_turns : Has l.prog w K mg base 2 "are_turns" s_are_turns ["q", "thing", "many"] (spTurns K) := Has.mk' F12 (ok_are_turns (P := l.prog) (w := w) (mg := mg) (base := base) F12 B (H_is_integer.mono (by decide))) (PySem.W.mg_of X G a12) (F12.binds (ps := ["q", "thing", "many"]) fun _ _ _ _ _ _ us hl => match us, hl with | [_, _, _], _ => rfl)
  have F13 := fun_mk (st := s_is_start) l13 c13 k13
  have H_is_start : Has l.prog w K mg base 2 "is_start" s_is_start ["q", "thing"] spStart := Has.mk' F13 (ok_is_start (P := l.prog) (w := w) (mg := mg) (base := base) F13 (H_is_integer.mono (by decide))) (PySem.W.mg_of X G a13) (F13.binds (ps := ["q", "thing"]) fun _ _ _ _ _ _ us hl => match us, hl with | [_, _], _ => rfl)
  have F14 := fun_mk (st := s_is_step_value) l14 c14 k14
  have H_is_step_value : Has l.prog w K mg base 7 "is_step_value" s_is_step_value ["q", "thing"] (spStepYes K) := Has.mk' F14 (ok_is_step_value (P := l.prog) (w := w) (mg := mg) (base := base) F14 B (H_is_start.mono (by decide)) (H_are_bends.mono (by decide)) (H_is_straight.mono (by decide)) (H_are_turns.mono (by decide))) (PySem.W.mg_of X G a14) (F14.binds (ps := ["q", "thing"]) fun _ _ _ _ _ _ us hl => match us, hl with | [_, _], _ => rfl)
  have F15 := fun_mk (st := s_check_step) l15 c15 k15
  have H_check_step : Has l.prog w K mg base 8 "check_step" s_check_step ["q", "thing"] (spCheck K) := Has.mk' F15 (ok_check_step (P := l.prog) (w := w) (mg := mg) (base := base) F15 (H_is_step_value.mono (by decide))) (PySem.W.mg_of X G a15) (F15.binds (ps := ["q", "thing"]) fun _ _ _ _ _ _ us hl => match us, hl with | [_, _], _ => rfl)
  have F16 := fun_mk (st := s_many_straight) l16 c16 k16
  have H_many_straight : Has l.prog w K mg base 1 "many_straight" s_many_straight ["q"] spMst := Has.mk' F16 (ok_many_straight (P := l.prog) (w := w) (mg := mg) (base := base) F16 ) (PySem.W.mg_of X G a16) (F16.binds (ps := ["q"]) fun _ _ _ _ _ _ us hl => match us, hl with | [_], _ => rfl)
  have F17 := fun_mk (st := s_many_bends) l17 c17 k17
  have H_many_bends : Has l.prog w K mg base 1 "many_bends" s_many_bends ["q", "degree"] spMb := Has.mk' F17 (ok_many_bends (P := l.prog) (w := w) (mg := mg) (base := base) F17 B) (PySem.W.mg_of X G a17) (F17.binds (ps := ["q", "degree"]) fun _ _ _ _ _ _ us hl => match us, hl with | [_, _], _ => rfl)
  have F18 := fun_mk (st := s_many_steps) l18 c18 k18
  have H_many_steps : Has l.prog w K mg base 2 "many_steps" s_many_steps ["q", "degrees"] (spMany K) := Has.mk' F18 (ok_many_steps (P := l.prog) (w := w) (mg := mg) (base := base) F18 B (H_many_straight.mono (by decide)) (H_many_bends.mono (by decide))) (PySem.W.mg_of X G a18) (F18.binds (ps := ["q", "degrees"]) fun _ _ _ _ _ _ us hl => match us, hl with | [_, _], _ => rfl)
  have F19 := fun_mk (st := s_seconds) l19 c19 k19
  have H_seconds : Has l.prog w K mg base 3 "seconds" s_seconds ["q", "a", "b"] (spSecs K) := Has.mk' F19 (ok_seconds (P := l.prog) (w := w) (mg := mg) (base := base) F19 B (H_times.mono (by decide))) (PySem.W.mg_of X G a19) (F19.binds (ps := ["q", "a", "b"]) fun _ _ _ _ _ _ us hl => match us, hl with | [_, _, _], _ => rfl)
  have F20 := fun_mk (st := s_map_number) l20 c20 k20
  have H_map_number : Has l.prog w K mg base 4 "map_number" s_map_number ["q", "m"] (spMapNum K) := Has.mk' F20 (ok_map_number (P := l.prog) (w := w) (mg := mg) (base := base) F20 (H_seconds.mono (by decide))) (PySem.W.mg_of X G a20) (F20.binds (ps := ["q", "m"]) fun _ _ _ _ _ _ us hl => match us, hl with | [_, _], _ => rfl)
  have F21 := fun_mk (st := s_map_at) l21 c21 k21
  have H_map_at : Has l.prog w K mg base 4 "map_at" s_map_at ["q", "number"] (spMapAt K) := Has.mk' F21 (ok_map_at (P := l.prog) (w := w) (mg := mg) (base := base) F21 (H_seconds.mono (by decide))) (PySem.W.mg_of X G a21) (F21.binds (ps := ["q", "number"]) fun _ _ _ _ _ _ us hl => match us, hl with | [_, _], _ => rfl)
  have F22 := fun_mk (st := s_bend_number) l22 c22 k22
  have H_bend_number : Has l.prog w K mg base 1 "bend_number" s_bend_number ["q", "bend"] (spBendNum K) := Has.mk' F22 (ok_bend_number (P := l.prog) (w := w) (mg := mg) (base := base) F22 ) (PySem.W.mg_of X G a22) (F22.binds (ps := ["q", "bend"]) fun _ _ _ _ _ _ us hl => match us, hl with | [_, _], _ => rfl)
  have F23 := fun_mk (st := s_bend_at) l23 c23 k23
  have H_bend_at : Has l.prog w K mg base 1 "bend_at" s_bend_at ["q", "degree", "number"] (spBendAt K) := Has.mk' F23 (ok_bend_at (P := l.prog) (w := w) (mg := mg) (base := base) F23 B) (PySem.W.mg_of X G a23) (F23.binds (ps := ["q", "degree", "number"]) fun _ _ _ _ _ _ us hl => match us, hl with | [_, _, _], _ => rfl)
  have F24 := fun_mk (st := s_step_number) l24 c24 k24
  have H_step_number : Has l.prog w K mg base 9 "step_number" s_step_number ["q", "step"] (spStepNum K) := Has.mk' F24 (ok_step_number (P := l.prog) (w := w) (mg := mg) (base := base) F24 B (H_check_step.mono (by decide)) (H_many_bends.mono (by decide)) (H_bend_number.mono (by decide)) (H_many_straight.mono (by decide)) (H_map_number.mono (by decide))) (PySem.W.mg_of X G a24) (F24.binds (ps := ["q", "step"]) fun _ _ _ _ _ _ us hl => match us, hl with | [_, _], _ => rfl)
  have F25 := fun_mk (st := s_step_at) l25 c25 k25
  have H_step_at : Has l.prog w K mg base 9 "step_at" s_step_at ["q", "degrees", "number"] (spStepAt K) := Has.mk' F25 (ok_step_at (P := l.prog) (w := w) (mg := mg) (base := base) F25 B (H_many_straight.mono (by decide)) (H_many_bends.mono (by decide)) (H_bend_at.mono (by decide)) (H_map_at.mono (by decide))) (PySem.W.mg_of X G a25) (F25.binds (ps := ["q", "degrees", "number"]) fun _ _ _ _ _ _ us hl => match us, hl with | [_, _, _], _ => rfl)
  have F26 := fun_mk (st := s_is_place) l26 c26 k26
  have H_is_place : Has l.prog w K mg base 7 "is_place" s_is_place ["q", "thing"] (spPlaceYes K) := Has.mk' F26 (ok_is_place (P := l.prog) (w := w) (mg := mg) (base := base) F26 B gROOT tROOT (H_is_start.mono (by decide)) (H_are_bends.mono (by decide)) (H_are_turns.mono (by decide))) (PySem.W.mg_of X G a26) (F26.binds (ps := ["q", "thing"]) fun _ _ _ _ _ _ us hl => match us, hl with | [_, _], _ => rfl)
  have F27 := fun_mk (st := s_check_place) l27 c27 k27
  have H_check_place : Has l.prog w K mg base 8 "check_place" s_check_place ["q", "thing"] (spPlaceCheck K) := Has.mk' F27 (ok_check_place (P := l.prog) (w := w) (mg := mg) (base := base) F27 (H_is_place.mono (by decide))) (PySem.W.mg_of X G a27) (F27.binds (ps := ["q", "thing"]) fun _ _ _ _ _ _ us hl => match us, hl with | [_, _], _ => rfl)
  have F28 := fun_mk (st := s_items_of) l28 c28 k28
  have H_items_of : Has l.prog w K mg base 1 "items_of" s_items_of ["place"] (spItems K) := Has.mk' F28 (ok_items_of (P := l.prog) (w := w) (mg := mg) (base := base) F28 B) (PySem.W.mg_of X G a28) (F28.binds (ps := ["place"]) fun _ _ _ _ _ _ us hl => match us, hl with | [_], _ => rfl)
  have F29 := fun_mk (st := s_place_at) l29 c29 k29
  have H_place_at : Has l.prog w K mg base 1 "place_at" s_place_at ["items"] (spPlaceAt K) := Has.mk' F29 (ok_place_at (P := l.prog) (w := w) (mg := mg) (base := base) F29 B gROOT tROOT) (PySem.W.mg_of X G a29) (F29.binds (ps := ["items"]) fun _ _ _ _ _ _ us hl => match us, hl with | [_], _ => rfl)
  have F30 := fun_mk (st := s_row_step) l30 c30 k30
  have H_row_step : Has l.prog w K mg base 1 "row_step" s_row_step ["place"] (spRow K) := Has.mk' F30 (ok_row_step (P := l.prog) (w := w) (mg := mg) (base := base) F30 gIDENTITY tIDENTITY) (PySem.W.mg_of X G a30) (F30.binds (ps := ["place"]) fun _ _ _ _ _ _ us hl => match us, hl with | [_], _ => rfl)
  have F31 := fun_mk (st := s_place_in) l31 c31 k31
  have H_place_in : Has l.prog w K mg base 1 "place_in" s_place_in ["q", "step", "sort"] (spPlaceIn K) := Has.mk' F31 (ok_place_in (P := l.prog) (w := w) (mg := mg) (base := base) F31 ) (PySem.W.mg_of X G a31) (F31.binds (ps := ["q", "step", "sort"]) fun _ _ _ _ _ _ us hl => match us, hl with | [_, _, _], _ => rfl)
  have F32 := fun_mk (st := s_step_of_place) l32 c32 k32
  have H_step_of_place : Has l.prog w K mg base 9 "step_of_place" s_step_of_place ["q", "place"] (spStepOfPlace K) := Has.mk' F32 (ok_step_of_place (P := l.prog) (w := w) (mg := mg) (base := base) F32 (H_check_place.mono (by decide)) (H_row_step.mono (by decide))) (PySem.W.mg_of X G a32) (F32.binds (ps := ["q", "place"]) fun _ _ _ _ _ _ us hl => match us, hl with | [_, _], _ => rfl)
  have F33 := fun_mk (st := s_place_of) l33 c33 k33
  have H_place_of : Has l.prog w K mg base 9 "place_of" s_place_of ["q", "step", "sort"] (spPlaceOf K) := Has.mk' F33 (ok_place_of (P := l.prog) (w := w) (mg := mg) (base := base) F33 (H_check_step.mono (by decide)) (H_place_in.mono (by decide))) (PySem.W.mg_of X G a33) (F33.binds (ps := ["q", "step", "sort"]) fun _ _ _ _ _ _ us hl => match us, hl with | [_, _, _], _ => rfl)
  have F34 := fun_mk (st := s_ahead) l34 c34 k34
  have H_ahead : Has l.prog w K mg base 9 "ahead" s_ahead ["q", "place"] (spAhead K) := Has.mk' F34 (ok_ahead (P := l.prog) (w := w) (mg := mg) (base := base) F34 (H_check_place.mono (by decide)) (H_items_of.mono (by decide)) (H_place_at.mono (by decide)) B) (PySem.W.mg_of X G a34) (F34.binds (ps := ["q", "place"]) fun _ _ _ _ _ _ us hl => match us, hl with | [_, _], _ => rfl)
  have F35 := fun_mk (st := s_depth) l35 c35 k35
  have H_depth : Has l.prog w K mg base 9 "depth" s_depth ["q", "place"] (spDepth K) := Has.mk' F35 (ok_depth (P := l.prog) (w := w) (mg := mg) (base := base) F35 B (H_check_place.mono (by decide)) (H_items_of.mono (by decide))) (PySem.W.mg_of X G a35) (F35.binds (ps := ["q", "place"]) fun _ _ _ _ _ _ us hl => match us, hl with | [_, _], _ => rfl)
  have F36 := fun_mk (st := s_many_behind) l36 c36 k36
  have H_many_behind : Has l.prog w K mg base 9 "many_behind" s_many_behind ["q", "place", "degree"] (spBehind K) := Has.mk' F36 (ok_many_behind (P := l.prog) (w := w) (mg := mg) (base := base) F36 B gROOT tROOT (H_check_place.mono (by decide))) (PySem.W.mg_of X G a36) (F36.binds (ps := ["q", "place", "degree"]) fun _ _ _ _ _ _ us hl => match us, hl with | [_, _, _], _ => rfl)
  have F37 := fun_mk (st := s_nothing) l37 c37 k37
  have H_nothing : Has l.prog w K mg base 1 "nothing" s_nothing [] (spNothing K) := Has.mk' F37 (ok_nothing (P := l.prog) (w := w) (mg := mg) (base := base) F37 gNOTHING tNOTHING) (PySem.W.mg_of X G a37) (F37.binds (ps := []) fun _ _ _ _ _ _ us hl => match us, hl with | [], _ => rfl)
  have F38 := fun_mk (st := s_bend_degrees) l38 c38 k38
  have H_bend_degrees : Has l.prog w K mg base 1 "bend_degrees" s_bend_degrees ["step"] (spDeg K) := Has.mk' F38 (ok_bend_degrees (P := l.prog) (w := w) (mg := mg) (base := base) F38 B) (PySem.W.mg_of X G a38) (F38.binds (ps := ["step"]) fun _ _ _ _ _ _ us hl => match us, hl with | [_], _ => rfl)
  have F39 := fun_mk (st := s_degrees_of) l39 c39 k39
  have H_degrees_of : Has l.prog w K mg base 9 "degrees_of" s_degrees_of ["q", "step"] (spDegs K) := Has.mk' F39 (ok_degrees_of (P := l.prog) (w := w) (mg := mg) (base := base) F39 (H_check_step.mono (by decide)) (H_bend_degrees.mono (by decide))) (PySem.W.mg_of X G a39) (F39.binds (ps := ["q", "step"]) fun _ _ _ _ _ _ us hl => match us, hl with | [_, _], _ => rfl)
  have F40 := fun_mk (st := s__law_draw) l40 c40 k40
  have H__law_draw : Has l.prog w K mg base 1 "_law_draw" s__law_draw ["_law_deck_here", "_law_many"] spDraw := Has.mk' F40 (ok_draw (P := l.prog) (w := w) (mg := mg) (base := base) F40 B) (PySem.W.mg_of X G a40) (F40.binds (ps := ["_law_deck_here", "_law_many"]) fun _ _ _ _ _ _ us hl => match us, hl with | [_, _], _ => rfl)
  have F41 := fun_mk (st := s__law_deck) l41 c41 k41
  have H__law_deck : Has l.prog w K mg base 1 "_law_deck" s__law_deck ["_law_script"] (spDeck K) := Has.mk' F41 (ok_deck (P := l.prog) (w := w) (mg := mg) (base := base) F41 B) (PySem.W.mg_of X G a41) (F41.binds (ps := ["_law_script"]) fun _ _ _ _ _ _ us hl => match us, hl with | [_], _ => rfl)
  have F42 := fun_mk (st := s__law_pick) l42 c42 k42
  have H__law_pick : Has l.prog w K mg base 2 "_law_pick" s__law_pick ["_law_deck_here", "_law_some"] spPick := Has.mk' F42 (ok_pick (P := l.prog) (w := w) (mg := mg) (base := base) F42 B (H__law_draw.mono (by decide))) (PySem.W.mg_of X G a42) (F42.binds (ps := ["_law_deck_here", "_law_some"]) fun _ _ _ _ _ _ us hl => match us, hl with | [_, _], _ => rfl)
  have F43 := fun_mk (st := s__law_some_field) l43 c43 k43
  have H__law_some_field : Has l.prog w K mg base 3 "_law_some_field" s__law_some_field ["_law_deck_here"] spField := Has.mk' F43 (ok_some_field (P := l.prog) (w := w) (mg := mg) (base := base) F43 (H__law_draw.mono (by decide)) (H__law_pick.mono (by decide))) (PySem.W.mg_of X G a43) (F43.binds (ps := ["_law_deck_here"]) fun _ _ _ _ _ _ us hl => match us, hl with | [_], _ => rfl)
  have F44 := fun_mk (st := s__law_great) l44 c44 k44
  have H__law_great : Has l.prog w K mg base 2 "_law_great" s__law_great ["_law_deck_here", "_law_many"] spBelow := Has.mk' F44 (ok_great (P := l.prog) (w := w) (mg := mg) (base := base) F44 B (H__law_draw.mono (by decide))) (PySem.W.mg_of X G a44) (F44.binds (ps := ["_law_deck_here", "_law_many"]) fun _ _ _ _ _ _ us hl => match us, hl with | [_, _], _ => rfl)
  have F45 := fun_mk (st := s__law_edge) l45 c45 k45
  have H__law_edge : Has l.prog w K mg base 3 "_law_edge" s__law_edge ["_law_deck_here", "_law_many"] spBelow := Has.mk' F45 (ok_edge (P := l.prog) (w := w) (mg := mg) (base := base) F45 (H__law_draw.mono (by decide)) (H__law_great.mono (by decide))) (PySem.W.mg_of X G a45) (F45.binds (ps := ["_law_deck_here", "_law_many"]) fun _ _ _ _ _ _ us hl => match us, hl with | [_, _], _ => rfl)
  have F46 := fun_mk (st := s__law_power) l46 c46 k46
  have H__law_power : Has l.prog w K mg base 1 "_law_power" s__law_power ["_law_number", "_law_exponent"] spPower := Has.mk' F46 (ok_power (P := l.prog) (w := w) (mg := mg) (base := base) F46 B) (PySem.W.mg_of X G a46) (F46.binds (ps := ["_law_number", "_law_exponent"]) fun _ _ _ _ _ _ us hl => match us, hl with | [_, _], _ => rfl)
  have F47 := fun_mk (st := s__law_many_places) l47 c47 k47
  have H__law_many_places : Has l.prog w K mg base 2 "_law_many_places" s__law_many_places ["_law_q", "_law_degrees"] (spMpl K) := Has.mk' F47 (ok_many_places (P := l.prog) (w := w) (mg := mg) (base := base) F47 B (H__law_power.mono (by decide))) (PySem.W.mg_of X G a47) (F47.binds (ps := ["_law_q", "_law_degrees"]) fun _ _ _ _ _ _ us hl => match us, hl with | [_, _], _ => rfl)
  have F48 := fun_mk (st := s__law_rank) l48 c48 k48
  have H__law_rank : Has l.prog w K mg base 1 "_law_rank" s__law_rank ["_law_q", "_law_place"] (spRank K) := Has.mk' F48 (ok_rank (P := l.prog) (w := w) (mg := mg) (base := base) F48 ) (PySem.W.mg_of X G a48) (F48.binds (ps := ["_law_q", "_law_place"]) fun _ _ _ _ _ _ us hl => match us, hl with | [_, _], _ => rfl)
  have F49 := fun_mk (st := s__law_depth) l49 c49 k49
  have H__law_depth : Has l.prog w K mg base 1 "_law_depth" s__law_depth ["_law_place"] (spLDepth K) := Has.mk' F49 (ok_ldepth (P := l.prog) (w := w) (mg := mg) (base := base) F49 B) (PySem.W.mg_of X G a49) (F49.binds (ps := ["_law_place"]) fun _ _ _ _ _ _ us hl => match us, hl with | [_], _ => rfl)
  have F50 := fun_mk (st := s__law_ahead) l50 c50 k50
  have H__law_ahead : Has l.prog w K mg base 1 "_law_ahead" s__law_ahead ["_law_place"] (spLAhead K) := Has.mk' F50 (ok_lahead (P := l.prog) (w := w) (mg := mg) (base := base) F50 ) (PySem.W.mg_of X G a50) (F50.binds (ps := ["_law_place"]) fun _ _ _ _ _ _ us hl => match us, hl with | [_], _ => rfl)
  have F51 := fun_mk (st := s__law_chain) l51 c51 k51
  have H__law_chain : Has l.prog w K mg base 2 "_law_chain" s__law_chain ["_law_place"] (spChain K) := Has.mk' F51 (ok_chain (P := l.prog) (w := w) (mg := mg) (base := base) F51 B (H__law_depth.mono (by decide)) (H__law_ahead.mono (by decide))) (PySem.W.mg_of X G a51) (F51.binds (ps := ["_law_place"]) fun _ _ _ _ _ _ us hl => match us, hl with | [_], _ => rfl)
  have F52 := fun_mk (st := s__law_in_block) l52 c52 k52
  have H__law_in_block : HasG l.prog w K mg base 10 "_law_in_block" ["_law_q", "_law_degrees", "_law_at", "_law_part", "_law_straights"] (spInBlock K) := ⟨_, _, (ok_in_block (P := l.prog) (w := w) (mg := mg) (base := base) F52 B (H_step_at.mono (by decide)) (H_place_of.mono (by decide)) (H_degrees_of.mono (by decide)) (H__law_rank.mono (by decide)) (H_step_number.mono (by decide)) (H_step_of_place.mono (by decide)) (H_nothing.mono (by decide))), PySem.W.mg_of X G a52, F52.kp, (F52.binds (ps := ["_law_q", "_law_degrees", "_law_at", "_law_part", "_law_straights"]) fun _ _ _ _ _ _ us hl => match us, hl with | [_, _, _, _, _], _ => rfl)⟩
  have F53 := fun_mk (st := s__law_along_chain) l53 c53 k53
  have H__law_along_chain : HasG l.prog w K mg base 10 "_law_along_chain" ["_law_deck_here", "_law_q", "_law_place"] (spAlong K) := ⟨_, _, (ok_along (P := l.prog) (w := w) (mg := mg) (base := base) F53 B (H__law_chain.mono (by decide)) (H_ahead.mono (by decide)) (H_many_behind.mono (by decide)) (H__law_draw.mono (by decide))), PySem.W.mg_of X G a53, F53.kp, (F53.binds (ps := ["_law_deck_here", "_law_q", "_law_place"]) fun _ _ _ _ _ _ us hl => match us, hl with | [_, _, _], _ => rfl)⟩
  have F54 := fun_mk (st := s_law) l54 c54 k54
  exact (ok_law (P := l.prog) (w := w) (mg := mg) (base := base) F54 B (H__law_deck.mono (by decide)) (H__law_some_field.mono (by decide)) (H__law_draw.mono (by decide)) (H__law_many_places.mono (by decide)) (H_many_straight.mono (by decide)) (H_many_steps.mono (by decide)) (H__law_edge.mono (by decide)) H__law_in_block (H_place_of.mono (by decide)) (H_step_at.mono (by decide)) (H_depth.mono (by decide)) H__law_along_chain)
end K32
open PySem PySem.W PyProof.Rows
set_option maxHeartbeats 0 in
theorem PySem.Challenge.cw_bentplane_k32_whole_places_and_steps_cou_holds : PySem.Challenge.rw_bentplane_k32_whole_places_and_steps_cou.Holds := by
  w_on; o_law; k_head; (case hw => w_witness2)
  k_fill
  refine K32.walkG (l := PySem.Challenge.rw_bentplane_k32_whole_places_and_steps_cou) (n := 63) (k := 11) (x := "_law_script") (sp := fun K => K32.spLaw K) rfl (by decide) rfl ⟨rfl, by decide, by decide⟩ (fun w h Y => PySem.W.kIn_of Y) ?F (fun _ _ a ns hl _ hS => ⟨a, ns, rfl, hS, hl, fun _ => rfl⟩)
  case F =>
    intro w mg fa h KX G hmg
    refine' K32.all_mk KX G hmg ?a0 ?l0 ?c0 ?k0 ?a1 ?l1 ?c1 ?k1 ?a2 ?l2 ?c2 ?k2 ?a3 ?l3 ?c3 ?k3 ?a4 ?l4 ?c4 ?k4 ?a5 ?l5 ?c5 ?k5 ?a6 ?l6 ?c6 ?k6 ?a7 ?l7 ?c7 ?k7 ?a8 ?l8 ?c8 ?k8 ?a9 ?l9 ?c9 ?k9 ?a10 ?l10 ?c10 ?k10 ?a11 ?l11 ?c11 ?k11 ?a12 ?l12 ?c12 ?k12 ?a13 ?l13 ?c13 ?k13 ?a14 ?l14 ?c14 ?k14 ?a15 ?l15 ?c15 ?k15 ?a16 ?l16 ?c16 ?k16 ?a17 ?l17 ?c17 ?k17 ?a18 ?l18 ?c18 ?k18 ?a19 ?l19 ?c19 ?k19 ?a20 ?l20 ?c20 ?k20 ?a21 ?l21 ?c21 ?k21 ?a22 ?l22 ?c22 ?k22 ?a23 ?l23 ?c23 ?k23 ?a24 ?l24 ?c24 ?k24 ?a25 ?l25 ?c25 ?k25 ?a26 ?l26 ?c26 ?k26 ?a27 ?l27 ?c27 ?k27 ?a28 ?l28 ?c28 ?k28 ?a29 ?l29 ?c29 ?k29 ?a30 ?l30 ?c30 ?k30 ?a31 ?l31 ?c31 ?k31 ?a32 ?l32 ?c32 ?k32 ?a33 ?l33 ?c33 ?k33 ?a34 ?l34 ?c34 ?k34 ?a35 ?l35 ?c35 ?k35 ?a36 ?l36 ?c36 ?k36 ?a37 ?l37 ?c37 ?k37 ?a38 ?l38 ?c38 ?k38 ?a39 ?l39 ?c39 ?k39 ?a40 ?l40 ?c40 ?k40 ?a41 ?l41 ?c41 ?k41 ?a42 ?l42 ?c42 ?k42 ?a43 ?l43 ?c43 ?k43 ?a44 ?l44 ?c44 ?k44 ?a45 ?l45 ?c45 ?k45 ?a46 ?l46 ?c46 ?k46 ?a47 ?l47 ?c47 ?k47 ?a48 ?l48 ?c48 ?k48 ?a49 ?l49 ?c49 ?k49 ?a50 ?l50 ?c50 ?k50 ?a51 ?l51 ?c51 ?k51 ?a52 ?l52 ?c52 ?k52 ?a53 ?l53 ?c53 ?k53 ?a54 ?l54 ?c54 ?k54 ?z_isi ?z_int ?z_bool ?z_tup ?z_all ?z_range ?z_enum ?z_len ?z_max ?z_list ?z_zip ?z_repr ?g_P ?g_R ?g_N ?g_I ?w_P ?low ?w_p4 ?w_p8 ?w_p9 ?w_p16 ?w_R ?w_r1 ?w_r2 ?w_N ?w_m1 ?w_m2 ?w_I
    (case a0 => k_is)
    (case l0 => k_is)
    (case c0 => k_is)
    (case k0 => k_is)
    (case a1 => k_is)
    (case l1 => k_is)
    (case c1 => k_is)
    (case k1 => k_is)
    (case a2 => k_is)
    (case l2 => k_is)
    (case c2 => k_is)
    (case k2 => k_is)
    (case a3 => k_is)
    (case l3 => k_is)
    (case c3 => k_is)
    (case k3 => k_is)
    (case a4 => k_is)
    (case l4 => k_is)
    (case c4 => k_is)
    (case k4 => k_is)
    (case a5 => k_is)
    (case l5 => k_is)
    (case c5 => k_is)
    (case k5 => k_is)
    (case a6 => k_is)
    (case l6 => k_is)
    (case c6 => k_is)
    (case k6 => k_is)
    (case a7 => k_is)
    (case l7 => k_is)
    (case c7 => k_is)
    (case k7 => k_is)
    (case a8 => k_is)
    (case l8 => k_is)
    (case c8 => k_is)
    (case k8 => k_is)
    (case a9 => k_is)
    (case l9 => k_is)
    (case c9 => k_is)
    (case k9 => k_is)
    (case a10 => k_is)
    (case l10 => k_is)
    (case c10 => k_is)
    (case k10 => k_is)
    (case a11 => k_is)
    (case l11 => k_is)
    (case c11 => k_is)
    (case k11 => k_is)
    (case a12 => k_is)
    (case l12 => k_is)
    (case c12 => k_is)
    (case k12 => k_is)
    (case a13 => k_is)
    (case l13 => k_is)
    (case c13 => k_is)
    (case k13 => k_is)
    (case a14 => k_is)
    (case l14 => k_is)
    (case c14 => k_is)
    (case k14 => k_is)
    (case a15 => k_is)
    (case l15 => k_is)
    (case c15 => k_is)
    (case k15 => k_is)
    (case a16 => k_is)
    (case l16 => k_is)
    (case c16 => k_is)
    (case k16 => k_is)
    (case a17 => k_is)
    (case l17 => k_is)
    (case c17 => k_is)
    (case k17 => k_is)
    (case a18 => k_is)
    (case l18 => k_is)
    (case c18 => k_is)
    (case k18 => k_is)
    (case a19 => k_is)
    (case l19 => k_is)
    (case c19 => k_is)
    (case k19 => k_is)
    (case a20 => k_is)
    (case l20 => k_is)
    (case c20 => k_is)
    (case k20 => k_is)
    (case a21 => k_is)
    (case l21 => k_is)
    (case c21 => k_is)
    (case k21 => k_is)
    (case a22 => k_is)
    (case l22 => k_is)
    (case c22 => k_is)
    (case k22 => k_is)
    (case a23 => k_is)
    (case l23 => k_is)
    (case c23 => k_is)
    (case k23 => k_is)
    (case a24 => k_is)
    (case l24 => k_is)
    (case c24 => k_is)
    (case k24 => k_is)
    (case a25 => k_is)
    (case l25 => k_is)
    (case c25 => k_is)
    (case k25 => k_is)
    (case a26 => k_is)
    (case l26 => k_is)
    (case c26 => k_is)
    (case k26 => k_is)
    (case a27 => k_is)
    (case l27 => k_is)
    (case c27 => k_is)
    (case k27 => k_is)
    (case a28 => k_is)
    (case l28 => k_is)
    (case c28 => k_is)
    (case k28 => k_is)
    (case a29 => k_is)
    (case l29 => k_is)
    (case c29 => k_is)
    (case k29 => k_is)
    (case a30 => k_is)
    (case l30 => k_is)
    (case c30 => k_is)
    (case k30 => k_is)
    (case a31 => k_is)
    (case l31 => k_is)
    (case c31 => k_is)
    (case k31 => k_is)
    (case a32 => k_is)
    (case l32 => k_is)
    (case c32 => k_is)
    (case k32 => k_is)
    (case a33 => k_is)
    (case l33 => k_is)
    (case c33 => k_is)
    (case k33 => k_is)
    (case a34 => k_is)
    (case l34 => k_is)
    (case c34 => k_is)
    (case k34 => k_is)
    (case a35 => k_is)
    (case l35 => k_is)
    (case c35 => k_is)
    (case k35 => k_is)
    (case a36 => k_is)
    (case l36 => k_is)
    (case c36 => k_is)
    (case k36 => k_is)
    (case a37 => k_is)
    (case l37 => k_is)
    (case c37 => k_is)
    (case k37 => k_is)
    (case a38 => k_is)
    (case l38 => k_is)
    (case c38 => k_is)
    (case k38 => k_is)
    (case a39 => k_is)
    (case l39 => k_is)
    (case c39 => k_is)
    (case k39 => k_is)
    (case a40 => k_is)
    (case l40 => k_is)
    (case c40 => k_is)
    (case k40 => k_is)
    (case a41 => k_is)
    (case l41 => k_is)
    (case c41 => k_is)
    (case k41 => k_is)
    (case a42 => k_is)
    (case l42 => k_is)
    (case c42 => k_is)
    (case k42 => k_is)
    (case a43 => k_is)
    (case l43 => k_is)
    (case c43 => k_is)
    (case k43 => k_is)
    (case a44 => k_is)
    (case l44 => k_is)
    (case c44 => k_is)
    (case k44 => k_is)
    (case a45 => k_is)
    (case l45 => k_is)
    (case c45 => k_is)
    (case k45 => k_is)
    (case a46 => k_is)
    (case l46 => k_is)
    (case c46 => k_is)
    (case k46 => k_is)
    (case a47 => k_is)
    (case l47 => k_is)
    (case c47 => k_is)
    (case k47 => k_is)
    (case a48 => k_is)
    (case l48 => k_is)
    (case c48 => k_is)
    (case k48 => k_is)
    (case a49 => k_is)
    (case l49 => k_is)
    (case c49 => k_is)
    (case k49 => k_is)
    (case a50 => k_is)
    (case l50 => k_is)
    (case c50 => k_is)
    (case k50 => k_is)
    (case a51 => k_is)
    (case l51 => k_is)
    (case c51 => k_is)
    (case k51 => k_is)
    (case a52 => k_is)
    (case l52 => k_is)
    (case c52 => k_is)
    (case k52 => k_is)
    (case a53 => k_is)
    (case l53 => k_is)
    (case c53 => k_is)
    (case k53 => k_is)
    (case a54 => k_is)
    (case l54 => k_is)
    (case c54 => k_is)
    (case k54 => k_is)
    (case z_isi => k_is)
    (case z_int => k_is)
    (case z_bool => k_is)
    (case z_tup => k_is)
    (case z_all => k_is)
    (case z_range => k_is)
    (case z_enum => k_is)
    (case z_len => k_is)
    (case z_max => k_is)
    (case z_list => k_is)
    (case z_zip => k_is)
    (case z_repr => k_is)
    (case g_P => k_is)
    (case g_R => k_is)
    (case g_N => k_is)
    (case g_I => k_is)
    (case w_P => k_is)
    (case low => rfl)
    (case w_p4 => k_is)
    (case w_p8 => k_is)
    (case w_p9 => k_is)
    (case w_p16 => k_is)
    (case w_R => k_is)
    (case w_r1 => k_is)
    (case w_r2 => k_is)
    (case w_N => k_is)
    (case w_m1 => k_is)
    (case w_m2 => k_is)
    (case w_I => k_is)

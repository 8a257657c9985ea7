import PyProof.Rows.All
import Wide.All
import OpenK.AllK
import Wide.FinOn
import KE.KLam
import KE.KMinKey
import HandS.ForMost
import HandS.Lambda
import HandS.Evl
import HandS.Walk
import HandS.Wide
import HandS.WideBits
import PySem.Challenge.RW_measurewise_k11_whole_open_and_put_in
import HandS.Defaults
import HandS.IsInst
import HandS.EndTab
-- MwLin
set_option linter.all false
namespace Mw
/-! sums -/
def S : Nat → (Nat → Int) → Int
  | 0, _ => 0
  | n + 1, f => S n f + f n
theorem S_congr {f g : Nat → Int} : ∀ {n : Nat}, (∀ k, k < n → f k = g k) → S n f = S n g
  | 0, _ => rfl
  | n + 1, h => by
    show S n f + f n = S n g + g n
    rw [S_congr (n := n) fun k hk => h k (by omega), h n (by omega)]
theorem S_zero {f : Nat → Int} : ∀ {n : Nat}, (∀ k, k < n → f k = 0) → S n f = 0
  | 0, _ => rfl
  | n + 1, h => by
    show S n f + f n = 0
    rw [S_zero (n := n) fun k hk => h k (by omega), h n (by omega)]
    rfl
theorem S_add {f g : Nat → Int} : ∀ {n : Nat}, S n (fun k => f k + g k) = S n f + S n g
  | 0 => rfl
  | n + 1 => by
    show S n (fun k => f k + g k) + (f n + g n) = (S n f + f n) + (S n g + g n)
    rw [S_add (n := n)]
    omega
theorem S_sub {f g : Nat → Int} : ∀ {n : Nat}, S n (fun k => f k - g k) = S n f - S n g
  | 0 => rfl
  | n + 1 => by
    show S n (fun k => f k - g k) + (f n - g n) = (S n f + f n) - (S n g + g n)
    rw [S_sub (n := n)]
    omega
theorem S_mul {c : Int} {f : Nat → Int} : ∀ {n : Nat}, S n (fun k => c * f k) = c * S n f
  | 0 => (Int.mul_zero c).symm
  | n + 1 => by
    show S n (fun k => c * f k) + c * f n = c * (S n f + f n)
    rw [S_mul (n := n), Int.mul_add]
theorem S_mulr {c : Int} {f : Nat → Int} {n : Nat} : S n (fun k => f k * c) = S n f * c := by
  rw [Int.mul_comm, ← S_mul]
  exact S_congr fun k _ => Int.mul_comm _ _
theorem S_swap {f : Nat → Nat → Int} : ∀ {n m : Nat}, S n (fun i => S m (fun j => f i j)) = S m (fun j => S n (fun i => f i j))
  | 0, m => (S_zero fun _ _ => rfl).symm
  | n + 1, m => by
    show S n (fun i => S m (fun j => f i j)) + S m (fun j => f n j) = S m (fun j => S n (fun i => f i j) + f n j)
    rw [S_swap (n := n), ← S_add]
theorem S_single {f : Nat → Int} : ∀ {n j : Nat}, j < n → (∀ k, k < n → k ≠ j → f k = 0) → S n f = f j
  | 0, j, h, _ => absurd h (by omega)
  | n + 1, j, h, hz => by
    show S n f + f n = f j
    by_cases e : j = n
    · subst e
      rw [S_zero (n := j) fun k hk => hz k (by omega) (by omega)]
      omega
    · rw [S_single (n := n) (j := j) (by omega) fun k hk hj => hz k (by omega) hj, hz n (by omega) (by omega)]
      omega
theorem S_split {f : Nat → Int} {a : Nat} : ∀ {b : Nat}, S (a + b) f = S a f + S b (fun k => f (a + k))
  | 0 => (Int.add_zero _).symm
  | b + 1 => by
    show S (a + b) f + f (a + b) = S a f + (S b (fun k => f (a + k)) + f (a + b))
    rw [S_split (b := b)]
    omega
theorem S_head {f : Nat → Int} {n : Nat} : S (n + 1) f = f 0 + S n (fun k => f (k + 1)) := by
  have h := S_split (f := f) (a := 1) (b := n)
  rw [Nat.add_comm 1 n] at h
  rw [h]
  show 0 + f 0 + _ = _
  rw [Int.zero_add]
  congr 1
  exact S_congr fun k _ => by rw [Nat.add_comm]
theorem S_delta {j n : Nat} {c : Int} (h : j < n) : S n (fun k => if k = j then c else 0) = c := by
  rw [S_single h fun k _ hk => if_neg hk, if_pos rfl]
/-! columns -/
abbrev Cols := Nat → Nat → Int
def Lin (n : Nat) (C : Cols) (y : Nat → Int) (i : Nat) : Int := S n fun k => y k * C k i
def Ind (n : Nat) (C : Cols) : Prop := ∀ y : Nat → Int, (∀ i, Lin n C y i = 0) → ∀ k, k < n → y k = 0
structure Uni (n : Nat) (C C' : Cols) : Prop where
  fwd : ∀ y : Nat → Int, ∃ z : Nat → Int, ∀ i, Lin n C y i = Lin n C' z i
  bwd : ∀ z : Nat → Int, ∃ y : Nat → Int, ∀ i, Lin n C' z i = Lin n C y i
  ind : Ind n C → Ind n C'
theorem Uni.refl (n : Nat) (C : Cols) : Uni n C C := ⟨fun y => ⟨y, fun _ => rfl⟩, fun y => ⟨y, fun _ => rfl⟩, fun h => h⟩
theorem Uni.trans {n : Nat} {C D E : Cols} (a : Uni n C D) (b : Uni n D E) : Uni n C E :=
  ⟨fun y => let ⟨z, h⟩ := a.fwd y; let ⟨w, k⟩ := b.fwd z; ⟨w, fun i => (h i).trans (k i)⟩, fun y => let ⟨z, h⟩ := b.bwd y; let ⟨w, k⟩ := a.bwd z; ⟨w, fun i => (h i).trans (k i)⟩, fun h => b.ind (a.ind h)⟩
theorem Lin_congr {n : Nat} {C D : Cols} {y z : Nat → Int} {i : Nat} (h : ∀ k, k < n → C k i = D k i) (hy : ∀ k, k < n → y k = z k) : Lin n C y i = Lin n D z i := S_congr fun k hk => by rw [h k hk, hy k hk]
theorem Uni.of_eq {n : Nat} {C D : Cols} (h : ∀ k, k < n → ∀ i, C k i = D k i) : Uni n C D :=
  ⟨fun y => ⟨y, fun i => Lin_congr (fun k hk => h k hk i) fun _ _ => rfl⟩, fun y => ⟨y, fun i => Lin_congr (fun k hk => (h k hk i).symm) fun _ _ => rfl⟩, fun hI y hy => hI y fun i => (Lin_congr (fun k hk => h k hk i) fun _ _ => rfl).trans (hy i)⟩
theorem Uni.of_map {n : Nat} {C C' : Cols} (T T' : (Nat → Int) → Nat → Int) (h1 : ∀ y i, Lin n C' y i = Lin n C (T y) i) (h2 : ∀ y i, Lin n C y i = Lin n C' (T' y) i) (h3 : ∀ y, (∀ k, k < n → T y k = 0) → ∀ k, k < n → y k = 0) : Uni n C C' :=
  ⟨fun y => ⟨T' y, h2 y⟩, fun y => ⟨T y, h1 y⟩, fun hI y hy => h3 y (hI (T y) fun i => (h1 y i).symm.trans (hy i))⟩
theorem Lin_addy {n : Nat} {C : Cols} {y : Nat → Int} {b : Nat} {c : Int} {i : Nat} (hb : b < n) : Lin n C (fun k => y k + (if k = b then c else 0)) i = Lin n C y i + c * C b i := by
  have e : ∀ k, k < n → (y k + (if k = b then c else 0)) * C k i = y k * C k i + (if k = b then c * C b i else 0) := fun k _ => by
    by_cases h : k = b
    · subst h
      rw [if_pos rfl, if_pos rfl, Int.add_mul]
    · rw [if_neg h, if_neg h, Int.add_zero, Int.add_zero]
  show S n _ = _
  rw [S_congr e, S_add, S_delta hb]
  rfl
/-- a column with another put to it -/
theorem Uni.add {n a b : Nat} {C C' : Cols} {q : Int} (ha : a < n) (hb : b < n) (hne : a ≠ b) (h : ∀ i, C' a i = C a i + q * C b i) (ho : ∀ k, k < n → k ≠ a → ∀ i, C' k i = C k i) : Uni n C C' := by
  have e1 : ∀ y i, Lin n C' y i = Lin n C y i + (q * y a) * C b i := fun y i => by
    have e : ∀ k, k < n → y k * C' k i = y k * C k i + (if k = a then (q * y a) * C b i else 0) := fun k hk => by
      by_cases z : k = a
      · subst z
        rw [if_pos rfl, h, Int.mul_add, Int.mul_comm q (y k), Int.mul_assoc]
      · rw [if_neg z, ho k hk z, Int.add_zero]
    show S n _ = _
    rw [S_congr e, S_add, S_delta ha]
    rfl
  refine Uni.of_map (fun y k => y k + (if k = b then q * y a else 0)) (fun y k => y k + (if k = b then - (q * y a) else 0)) (fun y i => ?_) (fun y i => ?_) fun y hy k hk => ?_
  · rw [e1, Lin_addy hb]
  · have e2 : Lin n C' (fun k => y k + (if k = b then - (q * y a) else 0)) i = Lin n C (fun k => y k + (if k = b then - (q * y a) else 0)) i + (q * (y a + (if a = b then - (q * y a) else 0))) * C b i := e1 _ i
    have e3 : (y a + (if a = b then - (q * y a) else 0)) = y a := by rw [if_neg hne, Int.add_zero]
    have e5 := Lin_addy (n := n) (C := C) (y := y) (c := - (q * y a)) (i := i) hb
    rw [e3, e5, Int.neg_mul] at e2
    show _ = Lin n C' (fun k => y k + (if k = b then - (q * y a) else 0)) i
    rw [e2]
    omega
  · have ya : y a = 0 := by
      have := hy a ha
      rw [if_neg hne, Int.add_zero] at this
      exact this
    have := hy k hk
    rw [ya, Int.mul_zero] at this
    have z : (if k = b then (0 : Int) else 0) = 0 := by split <;> rfl
    rw [z, Int.add_zero] at this
    exact this
theorem Uni.neg {n a : Nat} {C C' : Cols} (ha : a < n) (h : ∀ i, C' a i = - C a i) (ho : ∀ k, k < n → k ≠ a → ∀ i, C' k i = C k i) : Uni n C C' := by
  have T : ∀ (y : Nat → Int) (C D : Cols), (∀ i, D a i = - C a i) → (∀ k, k < n → k ≠ a → ∀ i, D k i = C k i) → ∀ i, Lin n D y i = Lin n C (fun k => if k = a then - y k else y k) i := fun y C D h ho i => S_congr fun k hk => by
    by_cases z : k = a
    · subst z
      rw [h]
      show _ = (if k = k then _ else _) * _
      rw [if_pos rfl, Int.mul_neg, Int.neg_mul]
    · rw [ho k hk z]
      show _ = (if k = a then _ else _) * _
      rw [if_neg z]
  refine Uni.of_map (fun y k => if k = a then - y k else y k) (fun y k => if k = a then - y k else y k) (fun y i => T y C C' h ho i) (fun y i => T y C' C (fun i => by rw [h, Int.neg_neg]) (fun k hk z i => (ho k hk z i).symm) i) fun y hy k hk => ?_
  have := hy k hk
  by_cases z : k = a
  · rw [if_pos z] at this
    omega
  · rw [if_neg z] at this
    exact this
def sw (a b k : Nat) : Nat := if k = a then b else if k = b then a else k
theorem sw_a (a b : Nat) : sw a b a = b := if_pos rfl
theorem sw_b (a b : Nat) : sw a b b = a := by
  unfold sw
  by_cases h : b = a
  · rw [if_pos h, h]
  · rw [if_neg h, if_pos rfl]
theorem sw_o {a b k : Nat} (h : k ≠ a) (h' : k ≠ b) : sw a b k = k := by
  unfold sw
  rw [if_neg h, if_neg h']
theorem sw_sw (a b k : Nat) : sw a b (sw a b k) = k := by
  by_cases z : k = a
  · rw [z, sw_a, sw_b]
  · by_cases w : k = b
    · rw [w, sw_b, sw_a]
    · rw [sw_o z w, sw_o z w]
theorem sw_lt {a b k n : Nat} (ha : a < n) (hb : b < n) (hk : k < n) : sw a b k < n := by
  by_cases z : k = a
  · rw [z, sw_a]; exact hb
  · by_cases w : k = b
    · rw [w, sw_b]; exact ha
    · rw [sw_o z w]; exact hk
theorem S_swapix {n a b : Nat} {f : Nat → Int} (ha : a < n) (hb : b < n) : S n (fun k => f (sw a b k)) = S n f := by
  by_cases hab : a = b
  · subst hab
    exact S_congr fun k _ => by
      by_cases z : k = a
      · rw [z, sw_a]
      · rw [sw_o z z]
  have e : ∀ k, k < n → f (sw a b k) = f k + ((if k = a then f b - f a else 0) + (if k = b then f a - f b else 0)) := fun k _ => by
    by_cases z : k = a
    · rw [if_pos z, if_neg (by omega), z, sw_a]
      omega
    · by_cases w : k = b
      · rw [if_neg z, if_pos w, w, sw_b]
        omega
      · rw [if_neg z, if_neg w, sw_o z w]
        omega
  rw [S_congr e, S_add, S_add, S_delta ha, S_delta hb]
  omega
theorem Uni.swap {n a b : Nat} {C C' : Cols} (ha : a < n) (hb : b < n) (h1 : ∀ i, C' a i = C b i) (h2 : ∀ i, C' b i = C a i) (ho : ∀ k, k < n → k ≠ a → k ≠ b → ∀ i, C' k i = C k i) : Uni n C C' := by
  have hC : ∀ k, k < n → ∀ i, C' k i = C (sw a b k) i := fun k hk i => by
    by_cases z : k = a
    · rw [z, sw_a, h1]
    · by_cases w : k = b
      · rw [w, sw_b, h2]
      · rw [sw_o z w, ho k hk z w]
  have T : ∀ (y : Nat → Int) i, Lin n C' y i = Lin n C (fun k => y (sw a b k)) i := fun y i => by
    have e := S_swapix (f := fun k => y (sw a b k) * C k i) ha hb
    show _ = S n _
    rw [← e]
    refine S_congr fun k hk => ?_
    show _ = y (sw a b (sw a b k)) * C (sw a b k) i
    rw [hC k hk i, sw_sw]
  refine Uni.of_map (fun y k => y (sw a b k)) (fun y k => y (sw a b k)) T (fun y i => ?_) fun y hy k hk => ?_
  · rw [T]
    refine Lin_congr (fun _ _ => rfl) fun k _ => ?_
    show y k = y (sw a b (sw a b k))
    rw [sw_sw]
  · have h := hy _ (sw_lt ha hb hk)
    have h' : y (sw a b (sw a b k)) = 0 := h
    rw [sw_sw] at h'
    exact h'
end Mw

-- MwMs
set_option linter.all false
namespace Mw
/-! lists of columns -/
def at2 (L : List (List Int)) : Cols := fun k i => (L.getD k []).getD i 0
def vadd (a b : List Int) (q : Int) : List Int := List.zipWith (fun h t => h + q * t) a b
theorem vadd_len {a b : List Int} {q : Int} {d : Nat} (ha : a.length = d) (hb : b.length = d) : (vadd a b q).length = d := by
  unfold vadd
  rw [List.length_zipWith, ha, hb, Nat.min_self]
theorem getD_of {α : Type} {l : List α} {i : Nat} {x d : α} (h : l[i]? = some x) : l.getD i d = x := by
  rw [List.getD_eq_getElem?_getD, h]
  rfl
theorem getD_out {α : Type} {l : List α} {i : Nat} {d : α} (h : l.length ≤ i) : l.getD i d = d := by
  rw [List.getD_eq_getElem?_getD, List.getElem?_eq_none h]
  rfl
theorem vadd_at {a b : List Int} {q : Int} (hl : a.length = b.length) (i : Nat) : (vadd a b q).getD i 0 = a.getD i 0 + q * b.getD i 0 := by
  by_cases h : i < a.length
  · have h2 : i < b.length := by omega
    have e : (vadd a b q)[i]? = some (a[i] + q * b[i]) := by
      unfold vadd
      rw [List.getElem?_zipWith, List.getElem?_eq_getElem h, List.getElem?_eq_getElem h2]
    rw [getD_of e, getD_of (List.getElem?_eq_getElem h), getD_of (List.getElem?_eq_getElem h2)]
  · have h3 : (vadd a b q).length ≤ i := by
      unfold vadd
      rw [List.length_zipWith]
      omega
    rw [getD_out h3, getD_out (by omega), getD_out (by omega), Int.mul_zero]
    rfl
def vneg (a : List Int) : List Int := a.map fun x => 0 - x
theorem vneg_at (a : List Int) (i : Nat) : (vneg a).getD i 0 = - a.getD i 0 := by
  by_cases h : i < a.length
  · have e : (vneg a)[i]? = some (0 - a[i]) := by
      unfold vneg
      rw [List.getElem?_map, List.getElem?_eq_getElem h]
      rfl
    rw [getD_of e, getD_of (List.getElem?_eq_getElem h)]
    omega
  · rw [getD_out (by unfold vneg; rw [List.length_map]; omega), getD_out (by omega)]
    rfl
theorem getD_set_self {α : Type} {l : List α} {k : Nat} {x d : α} (h : k < l.length) : (l.set k x).getD k d = x := getD_of (List.getElem?_set_self h)
theorem getD_set_ne {α : Type} {l : List α} {k j : Nat} {x d : α} (h : k ≠ j) : (l.set k x).getD j d = l.getD j d := by
  rw [List.getD_eq_getElem?_getD, List.getElem?_set_ne h, ← List.getD_eq_getElem?_getD]
theorem at2_set_self {L : List (List Int)} {k : Nat} {c : List Int} (h : k < L.length) (i : Nat) : at2 (L.set k c) k i = c.getD i 0 := by
  unfold at2
  rw [getD_set_self h]
theorem at2_set_ne {L : List (List Int)} {k j : Nat} {c : List Int} (h : k ≠ j) (i : Nat) : at2 (L.set k c) j i = at2 L j i := by
  unfold at2
  rw [getD_set_ne h]
theorem at2_out {L : List (List Int)} {k i : Nat} (h : L.length ≤ k) : at2 L k i = 0 := by
  unfold at2
  rw [getD_out h]
  rfl
def Wid (L : List (List Int)) (d : Nat) : Prop := ∀ (k : Nat) (c : List Int), L[k]? = some c → c.length = d
theorem Wid.getD {L : List (List Int)} {d k : Nat} (h : Wid L d) (hk : k < L.length) : (L.getD k []).length = d := by
  rw [getD_of (List.getElem?_eq_getElem hk)]
  exact h k _ (List.getElem?_eq_getElem hk)
theorem Wid.set {L : List (List Int)} {d k : Nat} {c : List Int} (h : Wid L d) (hc : c.length = d) : Wid (L.set k c) d := fun j c' e => by
  by_cases hj : k = j
  · subst hj
    by_cases hk : k < L.length
    · rw [List.getElem?_set_self hk] at e
      cases e
      exact hc
    · rw [List.getElem?_eq_none (by rw [List.length_set]; omega)] at e
      cases e
  · rw [List.getElem?_set_ne hj] at e
    exact h j c' e
theorem least {P : Nat → Prop} (h : ∃ n, P n) : ∃ n, P n ∧ ∀ m, P m → n ≤ m := by
  obtain ⟨n, hn⟩ := h
  induction n using Nat.strongRecOn with
  | ind n ih =>
    by_cases q : ∃ m, m < n ∧ P m
    · obtain ⟨m, hm, pm⟩ := q
      exact ih m hm pm
    · exact ⟨n, hn, fun m pm => Nat.le_of_not_lt fun z => q ⟨m, z, pm⟩⟩
/-! what every stage keeps -/
structure Kept (L0 L : List (List Int)) (first d : Nat) : Prop where
  len : L.length = L0.length
  wid : Wid L d
  pre : ∀ k, k < first → L[k]? = L0[k]?
  uni : Uni L0.length (at2 L0) (at2 L)
  zer : ∀ r, (∀ k, first ≤ k → k < L0.length → at2 L0 k r = 0) → ∀ k, first ≤ k → k < L0.length → at2 L k r = 0
theorem Kept.refl {L : List (List Int)} {first d : Nat} (h : Wid L d) : Kept L L first d := ⟨rfl, h, fun _ _ => rfl, Uni.refl _ _, fun _ h => h⟩
theorem Kept.trans {L0 L1 L2 : List (List Int)} {first d : Nat} (a : Kept L0 L1 first d) (b : Kept L1 L2 first d) : Kept L0 L2 first d :=
  ⟨b.len.trans a.len, b.wid, fun k hk => (b.pre k hk).trans (a.pre k hk), a.uni.trans (by have := b.uni; rw [a.len] at this; exact this),
    fun r h => by have := b.zer r; rw [a.len] at this; exact this (a.zer r h)⟩
/-- a column k with the one at j put to it -/
theorem Kept.add {L : List (List Int)} {first d k j : Nat} {q : Int} (h : Wid L d) (hk : k < L.length) (hj : j < L.length) (fk : first ≤ k) (fj : first ≤ j) (hne : k ≠ j) : Kept L (L.set k (vadd (L.getD k []) (L.getD j []) q)) first d := by
  have hl : (L.getD k []).length = (L.getD j []).length := (h.getD hk).trans (h.getD hj).symm
  have e1 : ∀ i, at2 (L.set k (vadd (L.getD k []) (L.getD j []) q)) k i = at2 L k i + q * at2 L j i := fun i => by
    rw [at2_set_self hk, vadd_at hl]
    rfl
  have e2 : ∀ k', k' ≠ k → ∀ i, at2 (L.set k (vadd (L.getD k []) (L.getD j []) q)) k' i = at2 L k' i := fun k' hk' i => at2_set_ne (Ne.symm hk') i
  refine ⟨List.length_set .., h.set (vadd_len (h.getD hk) (h.getD hj)), fun k' hk' => List.getElem?_set_ne (by omega), Uni.add hk hj hne e1 fun k' _ hk' i => e2 k' hk' i, fun r hz k' h1 h2 => ?_⟩
  by_cases z : k' = k
  · subst z
    rw [e1, hz k' h1 h2, hz j fj hj]
    omega
  · rw [e2 k' z]
    exact hz k' h1 h2
theorem Kept.neg {L : List (List Int)} {first d k : Nat} (h : Wid L d) (hk : k < L.length) (fk : first ≤ k) : Kept L (L.set k (vneg (L.getD k []))) first d := by
  have e1 : ∀ i, at2 (L.set k (vneg (L.getD k []))) k i = - at2 L k i := fun i => by
    rw [at2_set_self hk, vneg_at]
    rfl
  have e2 : ∀ k', k' ≠ k → ∀ i, at2 (L.set k (vneg (L.getD k []))) k' i = at2 L k' i := fun k' hk' i => at2_set_ne (Ne.symm hk') i
  refine ⟨List.length_set .., h.set (by unfold vneg; rw [List.length_map]; exact h.getD hk), fun k' hk' => List.getElem?_set_ne (by omega), Uni.neg hk e1 fun k' _ hk' i => e2 k' hk' i, fun r hz k' h1 h2 => ?_⟩
  by_cases z : k' = k
  · subst z
    rw [e1, hz k' h1 h2]
    rfl
  · rw [e2 k' z]
    exact hz k' h1 h2
/-- the columns at a, b change places (a first, as the program stores) -/
def swp (L : List (List Int)) (a b : Nat) : List (List Int) := (L.set a (L.getD b [])).set b (L.getD a [])
theorem swp_at {L : List (List Int)} {a b : Nat} (ha : a < L.length) (hb : b < L.length) (k i : Nat) : at2 (swp L a b) k i = at2 L (sw a b k) i := by
  unfold swp
  by_cases z : k = b
  · subst z
    rw [at2_set_self (by rw [List.length_set]; exact hb), sw_b]
    rfl
  · rw [at2_set_ne (Ne.symm z)]
    by_cases w : k = a
    · subst w
      rw [at2_set_self ha, sw_a]
      rfl
    · rw [at2_set_ne (Ne.symm w), sw_o w z]
theorem Kept.swap {L : List (List Int)} {first d a b : Nat} (h : Wid L d) (ha : a < L.length) (hb : b < L.length) (fa : first ≤ a) (fb : first ≤ b) : Kept L (swp L a b) first d := by
  have e := fun k i => swp_at ha hb k i
  refine ⟨by unfold swp; rw [List.length_set, List.length_set], (h.set (h.getD hb)).set (h.getD ha), fun k hk => by unfold swp; rw [List.getElem?_set_ne (by omega), List.getElem?_set_ne (by omega)],
    Uni.swap ha hb (fun i => by rw [e, sw_a]) (fun i => by rw [e, sw_b]) fun k _ h1 h2 i => by rw [e, sw_o h1 h2], fun r hz k h1 h2 => ?_⟩
  rw [e]
  refine hz _ ?_ (sw_lt ha hb h2)
  by_cases z : k = a
  · rw [z, sw_a]; exact fb
  · by_cases w : k = b
    · rw [w, sw_b]; exact fa
    · rw [sw_o z w]; exact h1
/-! the phases of the while -/
def Bd (L : List (List Int)) (first W : Nat) : Prop := ∀ k i, first ≤ k → k < L.length → (at2 L k i).natAbs ≤ W
def Low (L : List (List Int)) (first row p : Nat) : Prop := ∀ k, first ≤ k → k < L.length → at2 L k row ≠ 0 → p ≤ (at2 L k row).natAbs
/-- behind a round -/
structure PhB (L : List (List Int)) (first row M : Nat) (W m p : Nat) : Prop where
  two : first + 1 < L.length
  bd : Bd L first W
  at1 : at2 L first row = (m : Int)
  oth : ∀ k, first < k → k < L.length → 0 ≤ at2 L k row ∧ at2 L k row < (m : Int)
  low : Low L first row p
  pos : 0 < p
  hit : ∃ k, first ≤ k ∧ k < L.length ∧ (at2 L k row).natAbs = p
  pm : p ≤ m
  mM : m ≤ M
  pot : W * (m * p) ^ 2 ≤ 3 * M ^ 5
structure PhF (L : List (List Int)) (first row M : Nat) : Prop where
  two : first + 1 < L.length
  bd : Bd L first (6 * M ^ 5)
  pos : 0 < at2 L first row
  le : (at2 L first row).natAbs ≤ M
  oth : ∀ k, first < k → k < L.length → at2 L k row = 0
/-- what stands at the while's head: m is the measure -/
def Ph (L0 L : List (List Int)) (first row M n : Nat) : Prop :=
  (L = L0 ∧ n = M + 1 ∧ Bd L0 first M) ∨ (∃ W p, PhB L first row M W n p) ∨ (PhF L first row M ∧ n = 0)
/-- behind the swap and the sign: the column at first has p in the row, the least one -/
structure Sw (L L1 : List (List Int)) (first row l : Nat) : Prop where
  pos : 0 < at2 L1 first row
  mag : (at2 L1 first row).natAbs = (at2 L l row).natAbs
  bd : ∀ W, Bd L first W → Bd L1 first W
  oth : ∀ k, first < k → k < L1.length → ∃ k', first ≤ k' ∧ k' < L.length ∧ k' ≠ l ∧ at2 L1 k row = at2 L k' row
  len : L1.length = L.length
  cnt : ∀ k, first ≤ k → k < L.length → k ≠ l → ∃ k', first < k' ∧ k' < L.length ∧ at2 L1 k' row = at2 L k row
theorem sw_mk {L : List (List Int)} {first row l d : Nat} (h : Wid L d) (hf : first < L.length) (hl : l < L.length) (fl : first ≤ l) (hn : at2 L l row ≠ 0) :
    Sw L (if at2 (swp L first l) first row < 0 then (swp L first l).set first (vneg ((swp L first l).getD first [])) else swp L first l) first row l := by
  have e := fun k i => swp_at hf hl k i
  have e0 : ∀ i, at2 (swp L first l) first i = at2 L l i := fun i => by rw [e, sw_a]
  have hlen : (swp L first l).length = L.length := by unfold swp; rw [List.length_set, List.length_set]
  have ix : ∀ k, first < k → k < L.length → first ≤ sw first l k ∧ sw first l k < L.length ∧ sw first l k ≠ l := fun k h1 h2 => by
    refine ⟨?_, sw_lt hf hl h2, ?_⟩
    · by_cases w : k = l
      · rw [w, sw_b]; exact Nat.le_refl _
      · rw [sw_o (by omega) w]; omega
    · by_cases w : k = l
      · rw [w, sw_b]; omega
      · rw [sw_o (by omega) w]; exact w
  have ixc : ∀ k, first ≤ k → k < L.length → k ≠ l → first < sw first l k ∧ sw first l k < L.length ∧ sw first l (sw first l k) = k := fun k h1 h2 h3 => by
    refine ⟨?_, sw_lt hf hl h2, sw_sw _ _ _⟩
    by_cases w : k = first
    · rw [w, sw_a]
      have : l ≠ first := fun z => h3 (w.trans z.symm)
      omega
    · rw [sw_o w h3]; omega
  by_cases hs : at2 (swp L first l) first row < 0
  · rw [if_pos hs]
    have hf2 : first < (swp L first l).length := by omega
    have s0 : ∀ i, at2 ((swp L first l).set first (vneg ((swp L first l).getD first []))) first i = - at2 L l i := fun i => by
      rw [at2_set_self hf2, vneg_at]
      show - at2 (swp L first l) first i = _
      rw [e0]
    have s1 : ∀ k, k ≠ first → ∀ i, at2 ((swp L first l).set first (vneg ((swp L first l).getD first []))) k i = at2 L (sw first l k) i := fun k hk i => by
      rw [at2_set_ne (Ne.symm hk), e]
    rw [e0] at hs
    refine ⟨by rw [s0]; omega, by rw [s0, Int.natAbs_neg], fun W hW k i h1 h2 => ?_, fun k h1 h2 => ?_, by rw [List.length_set, hlen], fun k h1 h2 h3 => ?_⟩
    · rw [List.length_set, hlen] at h2
      by_cases z : k = first
      · rw [z, s0, Int.natAbs_neg]
        exact hW l i fl hl
      · rw [s1 k z]
        have := ix k (by omega) h2
        exact hW _ i this.1 this.2.1
    · rw [List.length_set, hlen] at h2
      have := ix k h1 h2
      exact ⟨_, this.1, this.2.1, this.2.2, s1 k (by omega) row⟩
    · obtain ⟨a, b, c⟩ := ixc k h1 h2 h3
      exact ⟨_, a, b, by rw [s1 _ (by omega), c]⟩
  · rw [if_neg hs]
    rw [e0] at hs
    refine ⟨by rw [e0]; omega, by rw [e0], fun W hW k i h1 h2 => ?_, fun k h1 h2 => ?_, hlen, fun k h1 h2 h3 => ?_⟩
    · rw [hlen] at h2
      rw [e]
      by_cases z : k = first
      · rw [z, sw_a]
        exact hW l i fl hl
      · have := ix k (by omega) h2
        exact hW _ i this.1 this.2.1
    · rw [hlen] at h2
      have := ix k h1 h2
      exact ⟨_, this.1, this.2.1, this.2.2, e k row⟩
    · obtain ⟨a, b, c⟩ := ixc k h1 h2 h3
      exact ⟨_, a, b, by rw [e, c]⟩
/-- behind the inner loop -/
structure Rd (L1 L2 : List (List Int)) (first row : Nat) : Prop where
  len : L2.length = L1.length
  at1 : ∀ i, at2 L2 first i = at2 L1 first i
  red : ∀ k, first < k → k < L1.length → ∀ i, at2 L2 k i = at2 L1 k i - at2 L1 k row / at2 L1 first row * at2 L1 first i
theorem rd_row {L1 L2 : List (List Int)} {first row : Nat} (h : Rd L1 L2 first row) {k : Nat} (h1 : first < k) (h2 : k < L1.length) : at2 L2 k row = at2 L1 k row % at2 L1 first row := by
  rw [h.red k h1 h2, Int.emod_def, Int.mul_comm]
/-- the least number of a row -/
theorem low_mk {L : List (List Int)} {first row : Nat} (hf : first < L.length) (hn : at2 L first row ≠ 0) : ∃ p, 0 < p ∧ Low L first row p ∧ (∃ k, first ≤ k ∧ k < L.length ∧ (at2 L k row).natAbs = p) ∧ p ≤ (at2 L first row).natAbs := by
  obtain ⟨p, ⟨h0, k, h1, h2, h3⟩, hm⟩ := least (P := fun p => 0 < p ∧ ∃ k, first ≤ k ∧ k < L.length ∧ (at2 L k row).natAbs = p) ⟨_, by omega, first, Nat.le_refl _, hf, rfl⟩
  exact ⟨p, h0, fun k' a b c => hm _ ⟨by omega, k', a, b, rfl⟩, ⟨k, h1, h2, h3⟩, hm _ ⟨by omega, first, Nat.le_refl _, hf, rfl⟩⟩

/-! numbers -/
theorem quot_le {c : Int} {p M : Nat} (hp : 0 < p) (hc : c.natAbs ≤ M) : (c / (p : Int)).natAbs ≤ M / p + 1 := by
  have hp' : (0 : Int) < (p : Int) := by omega
  have h1 : c / (p : Int) ≤ ((M / p : Nat) : Int) := by
    have h := Int.ediv_le_ediv hp' (show c ≤ (M : Int) by omega)
    have e : ((M / p : Nat) : Int) = (M : Int) / (p : Int) := Int.natCast_ediv M p
    omega
  have h2 : -((M / p : Nat) : Int) - 1 ≤ c / (p : Int) := by
    refine (Int.le_ediv_iff_mul_le hp').mpr ?_
    have hlt : M < (M / p + 1) * p := by
      rw [Nat.add_mul, Nat.one_mul, Nat.mul_comm]
      have := Nat.div_add_mod M p
      have := Nat.mod_lt M hp
      omega
    have e : (-((M / p : Nat) : Int) - 1) * (p : Int) = - (((M / p + 1) * p : Nat) : Int) := by
      rw [Int.natCast_mul, ← Int.neg_mul]
      congr 1
      omega
    rw [e]
    omega
  omega
theorem quot_le' {c : Int} {p M : Nat} (hp : 0 < p) (h0 : 0 ≤ c) (hc : c.natAbs ≤ M) : (c / (p : Int)).natAbs ≤ M / p := by
  have hp' : (0 : Int) < (p : Int) := by omega
  have h1 : c / (p : Int) ≤ ((M / p : Nat) : Int) := by
    have h := Int.ediv_le_ediv hp' (show c ≤ (M : Int) by omega)
    have e : ((M / p : Nat) : Int) = (M : Int) / (p : Int) := Int.natCast_ediv M p
    omega
  have h2 : 0 ≤ c / (p : Int) := Int.ediv_nonneg h0 (by omega)
  omega
theorem comb_le {a b q : Int} {A B Q : Nat} (ha : a.natAbs ≤ A) (hb : b.natAbs ≤ B) (hq : q.natAbs ≤ Q) : (a - q * b).natAbs ≤ A + Q * B := by
  have h := Int.natAbs_mul q b
  have h2 : q.natAbs * b.natAbs ≤ Q * B := Nat.mul_le_mul hq hb
  omega
theorem pow5 (M : Nat) : M ^ 5 = M * (M * (M * (M * M))) := by
  simp only [Nat.pow_succ, Nat.pow_zero, Nat.one_mul, Nat.mul_assoc]
theorem le_pow5 {M : Nat} (h : 0 < M) : M ≤ M ^ 5 := Nat.le_self_pow (by decide) M
theorem potB {W m p p' M : Nat} (hp : 0 < p) (pm : p ≤ m) (h2 : 2 * p' ≤ m) (hpp : p' ≤ p) (h : W * (m * p) ^ 2 ≤ 3 * M ^ 5) : (W + m / p * W) * (p * p') ^ 2 ≤ 3 * M ^ 5 := by
  refine Nat.le_trans ?_ h
  have e1 : W + m / p * W = W * (1 + m / p) := by rw [Nat.mul_add, Nat.mul_one, Nat.mul_comm W (m / p)]
  have key : (1 + m / p) * (p' * p') ≤ m * m := by
    have a1 : m / p * p' ≤ m := Nat.le_trans (Nat.mul_le_mul_left _ hpp) (Nat.div_mul_le_self m p)
    have a2 : (1 + m / p) * (p' * p') = p' * p' + m / p * p' * p' := by rw [Nat.add_mul, Nat.one_mul, Nat.mul_assoc]
    have a3 : m / p * p' * p' ≤ m * p' := Nat.mul_le_mul_right _ a1
    have a4 : p' * p' ≤ m * p' := Nat.mul_le_mul_right _ (by omega)
    have a5 : m * (2 * p') ≤ m * m := Nat.mul_le_mul_left _ h2
    have a6 : m * (2 * p') = m * p' + m * p' := by rw [Nat.two_mul, Nat.mul_add]
    omega
  have e2 : (W + m / p * W) * (p * p') ^ 2 = W * ((1 + m / p) * (p' * p')) * (p * p) := by
    rw [e1, Nat.pow_two]
    simp only [Nat.mul_assoc, Nat.mul_comm, Nat.mul_left_comm]
  have e3 : W * (m * p) ^ 2 = W * (m * m) * (p * p) := by
    rw [Nat.pow_two]
    simp only [Nat.mul_assoc, Nat.mul_comm, Nat.mul_left_comm]
  rw [e2, e3]
  exact Nat.mul_le_mul_right _ (Nat.mul_le_mul_left _ key)
theorem potF {W m p M : Nat} (hp : 0 < p) (pm : p ≤ m) (h : W * (m * p) ^ 2 ≤ 3 * M ^ 5) : W + m / p * W ≤ 6 * M ^ 5 := by
  have a1 : m / p ≤ m := Nat.div_le_self m p
  have a2 : W + m / p * W ≤ 2 * (W * m) := by
    have b1 : m / p * W ≤ W * m := by
      rw [Nat.mul_comm]
      exact Nat.mul_le_mul_left _ a1
    have b2 : W ≤ W * m := Nat.le_mul_of_pos_right _ (by omega)
    omega
  have a3 : m ≤ (m * p) ^ 2 := by
    rw [Nat.pow_two]
    have c1 : m ≤ m * p := Nat.le_mul_of_pos_right _ hp
    exact Nat.le_trans c1 (Nat.le_mul_of_pos_right _ (Nat.mul_pos (by omega) hp))
  have a4 : W * m ≤ W * (m * p) ^ 2 := Nat.mul_le_mul_left _ a3
  omega
theorem potA {p p' M : Nat} (hp : 0 < p) (pM : p ≤ M) (hpp : p' ≤ p) : (M + (M / p + 1) * M) * (p * p') ^ 2 ≤ 3 * M ^ 5 := by
  have d1 : 1 ≤ M / p := (Nat.le_div_iff_mul_le hp).mpr (by omega)
  have a1 : M + (M / p + 1) * M ≤ 3 * (M / p * M) := by
    have b1 : M ≤ M / p * M := by
      have := Nat.mul_le_mul_right M d1
      omega
    have b2 : (M / p + 1) * M = M / p * M + M := by rw [Nat.add_mul, Nat.one_mul]
    omega
  have a2 : (p * p') ^ 2 ≤ (p * p) ^ 2 := Nat.pow_le_pow_left (Nat.mul_le_mul_left _ hpp) 2
  have a3 : M / p * M * (p * p) ^ 2 ≤ M ^ 5 := by
    have e : M / p * M * (p * p) ^ 2 = (M / p * p) * (M * (p * (p * p))) := by
      rw [Nat.pow_two]
      simp only [Nat.mul_assoc, Nat.mul_comm, Nat.mul_left_comm]
    rw [e, pow5]
    refine Nat.mul_le_mul (Nat.div_mul_le_self M p) (Nat.mul_le_mul_left _ (Nat.mul_le_mul pM (Nat.mul_le_mul pM pM)))
  have a4 : (M + (M / p + 1) * M) * (p * p') ^ 2 ≤ 3 * (M / p * M) * (p * p) ^ 2 := Nat.mul_le_mul a1 a2
  have a5 : 3 * (M / p * M) * (p * p) ^ 2 = 3 * (M / p * M * (p * p) ^ 2) := by rw [Nat.mul_assoc]
  omega
/-! a round -/
structure LowAt (L : List (List Int)) (first row l : Nat) : Prop where
  fl : first ≤ l
  ll : l < L.length
  ne : at2 L l row ≠ 0
  low : Low L first row (at2 L l row).natAbs
theorem rd_bd {L1 L2 : List (List Int)} {first row W Q : Nat} (h : Rd L1 L2 first row) (hf : first < L1.length) (hb : Bd L1 first W) (hq : ∀ k, first < k → k < L1.length → (at2 L1 k row / at2 L1 first row).natAbs ≤ Q) : Bd L2 first (W + Q * W) := fun k i h1 h2 => by
  rw [h.len] at h2
  by_cases z : k = first
  · rw [z, h.at1]
    exact Nat.le_trans (hb first i (Nat.le_refl _) hf) (Nat.le_add_right _ _)
  · rw [h.red k (by omega) h2]
    exact comb_le (hb k i h1 h2) (hb first i (Nat.le_refl _) hf) (hq k (by omega) h2)
theorem round_A {L L1 L2 : List (List Int)} {first row l M : Nat} (h2c : first + 1 < L.length) (hb : Bd L first M) (lo : LowAt L first row l) (hs : Sw L L1 first row l) (hr : Rd L1 L2 first row) :
    ∃ n W p, n ≤ M ∧ PhB L2 first row M W n p := by
  have hl1 : L1.length = L.length := hs.len
  have hl2 : L2.length = L.length := hr.len.trans hl1
  obtain ⟨n, hn⟩ : ∃ n : Nat, at2 L1 first row = (n : Int) := ⟨(at2 L1 first row).toNat, by have := hs.pos; omega⟩
  have hn0 : 0 < n := by have := hs.pos; omega
  have hnl : n = (at2 L l row).natAbs := by
    have := hs.mag
    rw [hn] at this
    omega
  have hnM : n ≤ M := by rw [hnl]; exact hb l row lo.fl lo.ll
  have hb1 : Bd L1 first M := hs.bd M hb
  have hq : ∀ k, first < k → k < L1.length → (at2 L1 k row / at2 L1 first row).natAbs ≤ M / n + 1 := fun k h1 h2 => by
    rw [hn]
    exact quot_le hn0 (hb1 k row (by omega) h2)
  have hb2 := rd_bd hr (by omega) hb1 hq
  have hat : at2 L2 first row = (n : Int) := by rw [hr.at1, hn]
  obtain ⟨p, p0, plow, phit, ple⟩ := low_mk (L := L2) (first := first) (row := row) (by omega) (by rw [hat]; omega)
  have hpn : p ≤ n := by rw [hat] at ple; omega
  refine ⟨n, M + (M / n + 1) * M, p, hnM, ⟨by omega, hb2, hat, fun k h1 h2 => ?_, plow, p0, phit, hpn, hnM, potA hn0 hnM hpn⟩⟩
  rw [rd_row hr h1 (by omega), hn]
  exact ⟨Int.emod_nonneg _ (by omega), Int.emod_lt_of_pos _ (by omega)⟩
theorem round_B {L L1 L2 : List (List Int)} {first row l M W m p : Nat} (B : PhB L first row M W m p) (lo : LowAt L first row l) (more : ∃ k, first ≤ k ∧ k < L.length ∧ k ≠ l ∧ at2 L k row ≠ 0) (hs : Sw L L1 first row l) (hr : Rd L1 L2 first row) :
    (∃ n W p, n < m ∧ PhB L2 first row M W n p) ∨ PhF L2 first row M := by
  have hl1 : L1.length = L.length := hs.len
  have hl2 : L2.length = L.length := hr.len.trans hl1
  have two := B.two
  have hn : at2 L1 first row = (p : Int) := by
    have h1 := hs.mag
    have h2 := hs.pos
    have h3 : (at2 L l row).natAbs = p := by
      obtain ⟨k, a, b, c⟩ := B.hit
      have h4 := lo.low k a b (by have := B.pos; omega)
      have h5 := B.low l lo.fl lo.ll lo.ne
      omega
    omega
  have hp0 := B.pos
  have hrow : ∀ k, first ≤ k → k < L.length → 0 ≤ at2 L k row ∧ (at2 L k row).natAbs ≤ m := fun k h1 h2 => by
    by_cases z : k = first
    · rw [z, B.at1]
      omega
    · have := B.oth k (by omega) h2
      omega
  have hpm : p < m := by
    refine Nat.lt_of_le_of_ne B.pm fun e => ?_
    have only : ∀ k, first ≤ k → k < L.length → at2 L k row ≠ 0 → k = first := fun k h1 h2 h3 => by
      by_cases z : k = first
      · exact z
      · have a := B.oth k (by omega) h2
        have b := B.low k h1 h2 h3
        omega
    obtain ⟨k, a, b, c, d⟩ := more
    exact c ((only k a b d).trans (only l lo.fl lo.ll lo.ne).symm)
  have hb1 : Bd L1 first W := hs.bd W B.bd
  have hrow1 : ∀ k, first < k → k < L1.length → 0 ≤ at2 L1 k row ∧ (at2 L1 k row).natAbs ≤ m ∧ (at2 L1 k row ≠ 0 → p ≤ (at2 L1 k row).natAbs) := fun k h1 h2 => by
    obtain ⟨k', a, b, _, e⟩ := hs.oth k h1 h2
    rw [e]
    have := hrow k' a b
    exact ⟨this.1, this.2, B.low k' a b⟩
  have hq : ∀ k, first < k → k < L1.length → (at2 L1 k row / at2 L1 first row).natAbs ≤ m / p := fun k h1 h2 => by
    rw [hn]
    have := hrow1 k h1 h2
    exact quot_le' hp0 this.1 this.2.1
  have hb2 := rd_bd hr (by omega) hb1 hq
  have hat : at2 L2 first row = (p : Int) := by rw [hr.at1, hn]
  have hoth : ∀ k, first < k → k < L2.length → 0 ≤ at2 L2 k row ∧ at2 L2 k row < (p : Int) := fun k h1 h2 => by
    rw [rd_row hr h1 (by omega), hn]
    exact ⟨Int.emod_nonneg _ (by omega), Int.emod_lt_of_pos _ (by omega)⟩
  have hpM : p ≤ M := Nat.le_trans B.pm B.mM
  obtain ⟨p', p0, plow, ⟨k, ka, kb, kc⟩, ple⟩ := low_mk (L := L2) (first := first) (row := row) (by omega) (by rw [hat]; omega)
  have hpn : p' ≤ p := by rw [hat] at ple; omega
  by_cases hlt : p' < p
  · refine .inl ⟨p, W + m / p * W, p', hpm, ⟨by omega, hb2, hat, hoth, plow, p0, ⟨k, ka, kb, kc⟩, hpn, hpM, potB hp0 B.pm ?_ hpn B.pot⟩⟩
    have kf : k ≠ first := fun z => by
      rw [z, hat] at kc
      omega
    have hk1 : first < k := by omega
    have hk2 : k < L1.length := by omega
    have e := rd_row hr hk1 hk2
    rw [hn] at e
    have r1 := hrow1 k hk1 hk2
    have hc0 : at2 L1 k row ≠ 0 := fun z => by
      rw [z] at e
      have : at2 L2 k row = 0 := by rw [e]; exact Int.zero_emod _
      omega
    have hcp := r1.2.2 hc0
    have hd := Int.mul_ediv_add_emod (at2 L1 k row) (p : Int)
    have hq1 : 1 ≤ at2 L1 k row / (p : Int) := (Int.le_ediv_iff_mul_le (by omega)).mpr (by omega)
    have hq2 : (p : Int) * 1 ≤ (p : Int) * (at2 L1 k row / (p : Int)) := Int.mul_le_mul_of_nonneg_left hq1 (by omega)
    have hh := hoth k hk1 (by omega)
    have r11 := r1.1
    have r12 := r1.2.1
    rw [← e] at hd
    rw [Int.mul_one] at hq2
    generalize (p : Int) * (at2 L1 k row / (p : Int)) = J at hd hq2
    omega
  · refine .inr ⟨by omega, fun k i h1 h2 => Nat.le_trans (hb2 k i h1 h2) (potF hp0 B.pm B.pot), by rw [hat]; omega, by rw [hat]; omega, fun k h1 h2 => ?_⟩
    have a := hoth k h1 h2
    by_cases z : at2 L2 k row = 0
    · exact z
    · have := plow k (by omega) h2 z
      omega
/-- what a round may ask of the numbers, at any phase -/
theorem ph_row {L0 L : List (List Int)} {first row M n : Nat} (h : Ph L0 L first row M n) (hf : first < L.length) : ∀ k, first ≤ k → k < L.length → (at2 L k row).natAbs ≤ M := fun k h1 h2 => by
  rcases h with ⟨e, _, b⟩ | ⟨W, p, B⟩ | ⟨F, _⟩
  · rw [e] at h2 ⊢
    exact b k row h1 h2
  · by_cases z : k = first
    · rw [z, B.at1]
      have := B.mM
      omega
    · have := B.oth k (by omega) h2
      have := B.mM
      omega
  · by_cases z : k = first
    · rw [z]
      exact F.le
    · rw [F.oth k (by omega) h2]
      exact Nat.zero_le _
def MsB (n first M : Nat) : Nat := if first + 1 < n then 6 * M ^ 5 else M
theorem ph_bd {L0 L : List (List Int)} {first row M n : Nat} (h : Ph L0 L first row M n) (hM : 0 < M) : Bd L first (MsB L.length first M) := by
  unfold MsB
  rcases h with ⟨e, _, b⟩ | ⟨W, p, B⟩ | ⟨F, _⟩
  · rw [e]
    split
    · exact fun k i h1 h2 => Nat.le_trans (b k i h1 h2) (by have := le_pow5 hM; omega)
    · exact b
  · rw [if_pos B.two]
    refine fun k i h1 h2 => Nat.le_trans (B.bd k i h1 h2) ?_
    have h1 := B.pot
    have h2 : ∀ z : Nat, 0 < z → W ≤ W * z := fun z h => Nat.le_mul_of_pos_right _ h
    have h3 : 0 < (n * p) ^ 2 := Nat.pow_pos (Nat.mul_pos (by have := B.pos; have := B.pm; omega) B.pos)
    have := h2 _ h3
    omega
  · rw [if_pos F.two]
    exact F.bd
end Mw

-- MwEch
set_option linter.all false
namespace Mw
/-! steps -/
structure Ech (n m : Nat) (C : Cols) (ps : List Nat) : Prop where
  le : ps.length ≤ n
  lt : ∀ k, k < ps.length → ps.getD k 0 < m
  inc : ∀ k k', k < k' → k' < ps.length → ps.getD k 0 < ps.getD k' 0
  pos : ∀ k, k < ps.length → 0 < C k (ps.getD k 0)
  up : ∀ k, k < ps.length → ∀ i, i < ps.getD k 0 → C k i = 0
  rest : ∀ k, ps.length ≤ k → k < n → ∀ i, i < m → C k i = 0
/-- at the k-th pivot's row, where the first ones are not taken -/
theorem Ech.at_piv {n m : Nat} {C : Cols} {ps : List Nat} (E : Ech n m C ps) {y : Nat → Int} {k : Nat} (hk : k < ps.length) (hz : ∀ j, j < k → y j = 0) : Lin n C y (ps.getD k 0) = y k * C k (ps.getD k 0) := by
  refine S_single (by have := E.le; omega) fun j hj hne => ?_
  by_cases h1 : j < k
  · rw [hz j h1, Int.zero_mul]
  · by_cases h2 : j < ps.length
    · rw [E.up j h2 _ (E.inc k j (by omega) h2), Int.mul_zero]
    · rw [E.rest j (by omega) hj _ (E.lt k hk), Int.mul_zero]
/-- the first pivots are not taken where nothing stands ahead of a row -/
theorem Ech.no_above {n m : Nat} {C : Cols} {ps : List Nat} (E : Ech n m C ps) {y : Nat → Int} {i : Nat} (h : ∀ j, j < i → Lin n C y j = 0) : ∀ k, k < ps.length → ps.getD k 0 < i → y k = 0 := by
  intro k
  induction k using Nat.strongRecOn with
  | ind k ih =>
    intro hk hp
    have e := E.at_piv (y := y) hk fun j hj => ih j hj (by omega) (by have := E.inc j k hj hk; omega)
    rw [h _ hp] at e
    have hpos := E.pos k hk
    rcases Int.mul_eq_zero.mp e.symm with z | z
    · exact z
    · omega
theorem Ech.ind_top {n m : Nat} {C : Cols} {ps : List Nat} (E : Ech n m C ps) {y : Nat → Int} (h : ∀ j, j < m → Lin n C y j = 0) : ∀ k, k < ps.length → y k = 0 := fun k hk => E.no_above (i := m) h k hk (E.lt k hk)
theorem Ech.at_row {n m : Nat} {C : Cols} {ps : List Nat} (E : Ech n m C ps) {y : Nat → Int} {i : Nat} (hi : i < m) (h : ∀ j, j < i → Lin n C y j = 0) :
    (∃ k, k < ps.length ∧ ps.getD k 0 = i ∧ Lin n C y i = y k * C k i) ∨ ((∀ k, k < ps.length → ps.getD k 0 ≠ i) ∧ Lin n C y i = 0) := by
  have hz := E.no_above h
  by_cases q : ∃ k, k < ps.length ∧ ps.getD k 0 = i
  · obtain ⟨k, hk, e⟩ := q
    refine .inl ⟨k, hk, e, ?_⟩
    have := E.at_piv (y := y) hk fun j hj => hz j (by omega) (by have := E.inc j k hj hk; omega)
    rw [e] at this
    exact this
  · refine .inr ⟨fun k hk e => q ⟨k, hk, e⟩, S_zero fun k hk => ?_⟩
    by_cases h1 : k < ps.length
    · by_cases h2 : ps.getD k 0 < i
      · rw [hz k h1 h2, Int.zero_mul]
      · have h3 : ps.getD k 0 ≠ i := fun e => q ⟨k, h1, e⟩
        rw [E.up k h1 i (by omega), Int.mul_zero]
    · rw [E.rest k (by omega) hk i hi, Int.mul_zero]
/-- a combination that is small at each pivot is nothing -/
theorem Ech.small {n m : Nat} {C : Cols} {ps : List Nat} (E : Ech n m C ps) {y : Nat → Int} (h : ∀ k, k < ps.length → (Lin n C y (ps.getD k 0)).natAbs < (C k (ps.getD k 0)).natAbs) : ∀ i, i < m → Lin n C y i = 0 := by
  have hy : ∀ k, k < ps.length → y k = 0 := by
    intro k
    induction k using Nat.strongRecOn with
    | ind k ih =>
      intro hk
      have e := E.at_piv (y := y) hk fun j hj => ih j hj (by omega)
      have hs := h k hk
      rw [e, Int.natAbs_mul] at hs
      by_cases z : y k = 0
      · exact z
      · have h1 : 1 * (C k (ps.getD k 0)).natAbs ≤ (y k).natAbs * (C k (ps.getD k 0)).natAbs := Nat.mul_le_mul_right _ (by omega)
        omega
  intro i hi
  refine S_zero fun k hk => ?_
  by_cases h1 : k < ps.length
  · rw [hy k h1, Int.zero_mul]
  · rw [E.rest k (by omega) hk i hi, Int.mul_zero]
def unit (k : Nat) : Nat → Int := fun j => if j = k then 1 else 0
theorem Lin_unit {n : Nat} {C : Cols} {k i : Nat} (hk : k < n) : Lin n C (unit k) i = C k i := by
  have := S_single (f := fun j => unit k j * C j i) hk fun j _ hj => by
    show (if j = k then (1 : Int) else 0) * C j i = 0
    rw [if_neg hj, Int.zero_mul]
  show S n _ = _
  rw [this]
  show (if k = k then (1 : Int) else 0) * C k i = _
  rw [if_pos rfl, Int.one_mul]
/-- the same combinations on the rows up to m -/
def Spans (m n : Nat) (C : Cols) (n' : Nat) (C' : Cols) : Prop := ∀ y : Nat → Int, ∃ z : Nat → Int, ∀ i, i < m → Lin n C y i = Lin n' C' z i
theorem Spans.trans {m n n' n'' : Nat} {C C' C'' : Cols} (a : Spans m n C n' C') (b : Spans m n' C' n'' C'') : Spans m n C n'' C'' := fun y => by
  obtain ⟨z, h⟩ := a y
  obtain ⟨w, k⟩ := b z
  exact ⟨w, fun i hi => (h i hi).trans (k i hi)⟩
theorem Ech.piv_of {n m n' : Nat} {C C' : Cols} {ps ps' : List Nat} (E : Ech n m C ps) (E' : Ech n' m C' ps') (h : Spans m n C n' C') {k : Nat} (hk : k < ps.length) :
    ∃ k', k' < ps'.length ∧ ps'.getD k' 0 = ps.getD k 0 ∧ ∃ t, C k (ps.getD k 0) = t * C' k' (ps.getD k 0) := by
  obtain ⟨z, hz⟩ := h (unit k)
  have hkn : k < n := by have := E.le; omega
  have hpm := E.lt k hk
  have hz' : ∀ i, i < m → C k i = Lin n' C' z i := fun i hi => by
    rw [← hz i hi, Lin_unit hkn]
  rcases E'.at_row hpm (fun j hj => by rw [← hz' j (by omega), E.up k hk j hj]) with ⟨k', a, b, c⟩ | ⟨_, c⟩
  · exact ⟨k', a, b, z k', (hz' _ hpm).trans c⟩
  · have := E.pos k hk
    rw [hz' _ hpm, c] at this
    omega
theorem inc_eq : ∀ {ps ps' : List Nat}, (∀ k k', k < k' → k' < ps.length → ps.getD k 0 < ps.getD k' 0) → (∀ k k', k < k' → k' < ps'.length → ps'.getD k 0 < ps'.getD k' 0) →
    (∀ k, k < ps.length → ∃ k', k' < ps'.length ∧ ps'.getD k' 0 = ps.getD k 0) → (∀ k, k < ps'.length → ∃ k', k' < ps.length ∧ ps.getD k' 0 = ps'.getD k 0) → ps = ps'
  | [], [], _, _, _, _ => rfl
  | [], b :: r, _, _, _, h => by
    obtain ⟨k', h1, _⟩ := h 0 (by simp)
    simp at h1
  | a :: r, [], _, _, h, _ => by
    obtain ⟨k', h1, _⟩ := h 0 (by simp)
    simp at h1
  | a :: r, b :: r', i1, i2, h, h' => by
    have ge1 : ∀ k, k < (a :: r).length → a ≤ (a :: r).getD k 0 := fun k hk => by
      by_cases z : k = 0
      · rw [z]; exact Nat.le_refl _
      · exact Nat.le_of_lt (i1 0 k (by omega) hk)
    have ge2 : ∀ k, k < (b :: r').length → b ≤ (b :: r').getD k 0 := fun k hk => by
      by_cases z : k = 0
      · rw [z]; exact Nat.le_refl _
      · exact Nat.le_of_lt (i2 0 k (by omega) hk)
    have eab : a = b := by
      obtain ⟨k, hk, e⟩ := h 0 (by simp)
      obtain ⟨k', hk', e'⟩ := h' 0 (by simp)
      have e : (b :: r').getD k 0 = a := e
      have e' : (a :: r).getD k' 0 = b := e'
      have := ge2 k hk
      have := ge1 k' hk'
      omega
    subst eab
    have sub : ∀ (u w : List Nat), (∀ k k', k < k' → k' < (a :: u).length → (a :: u).getD k 0 < (a :: u).getD k' 0) → (∀ k, k < (a :: u).length → ∃ k', k' < (a :: w).length ∧ (a :: w).getD k' 0 = (a :: u).getD k 0) →
        ∀ k, k < u.length → ∃ k', k' < w.length ∧ w.getD k' 0 = u.getD k 0 := fun u w iu hu k hk => by
      obtain ⟨k', hk', e⟩ := hu (k + 1) (by simp; omega)
      have gt := iu 0 (k + 1) (by omega) (by simp; omega)
      cases k' with
      | zero =>
        have e : a = u.getD k 0 := e
        have gt : a < u.getD k 0 := gt
        omega
      | succ k' => exact ⟨k', by simpa using hk', e⟩
    have tl : ∀ (u : List Nat), (∀ k k', k < k' → k' < (a :: u).length → (a :: u).getD k 0 < (a :: u).getD k' 0) → ∀ k k', k < k' → k' < u.length → u.getD k 0 < u.getD k' 0 := fun u hu k k' h1 h2 => hu (k + 1) (k' + 1) (by omega) (by simp; omega)
    rw [inc_eq (tl r i1) (tl r' i2) (sub r r' i1 h) (sub r' r i2 h')]
theorem pos_dvd {a b t s : Int} (ha : 0 < a) (hb : 0 < b) (h1 : a = t * b) (h2 : b = s * a) : a = b := by
  have ht : 0 < t := by
    by_cases z : 0 < t
    · exact z
    · have : t * b ≤ 0 * b := Int.mul_le_mul_of_nonneg_right (by omega) (by omega)
      omega
  have hs : 0 < s := by
    by_cases z : 0 < s
    · exact z
    · have : s * a ≤ 0 * a := Int.mul_le_mul_of_nonneg_right (by omega) (by omega)
      omega
  have k1 : 1 * b ≤ t * b := Int.mul_le_mul_of_nonneg_right (by omega) (by omega)
  have k2 : 1 * a ≤ s * a := Int.mul_le_mul_of_nonneg_right (by omega) (by omega)
  omega
theorem Ech.same {n m n' : Nat} {C C' : Cols} {ps ps' : List Nat} (E : Ech n m C ps) (E' : Ech n' m C' ps') (h : Spans m n C n' C') (h' : Spans m n' C' n C) : ps = ps' ∧ ∀ k, k < ps.length → C k (ps.getD k 0) = C' k (ps.getD k 0) := by
  have e : ps = ps' := inc_eq E.inc E'.inc (fun k hk => let ⟨k', a, b, _⟩ := E.piv_of E' h hk; ⟨k', a, b⟩) fun k hk => let ⟨k', a, b, _⟩ := E'.piv_of E h' hk; ⟨k', a, b⟩
  subst e
  have ix : ∀ k k', k < ps.length → k' < ps.length → ps.getD k 0 = ps.getD k' 0 → k = k' := fun k k' hk hk' e => by
    rcases Nat.lt_trichotomy k k' with z | z | z
    · have := E.inc k k' z hk'
      omega
    · exact z
    · have := E.inc k' k z hk
      omega
  refine ⟨rfl, fun k hk => ?_⟩
  obtain ⟨k1, a1, b1, t, e1⟩ := E.piv_of E' h hk
  obtain ⟨k2, a2, b2, s, e2⟩ := E'.piv_of E h' hk
  rw [ix k1 k a1 hk b1] at e1
  rw [ix k2 k a2 hk b2] at e2
  exact pos_dvd (E.pos k hk) (E'.pos k hk) e1 e2
/-! the normal form -/
def Nf (m r names : Nat) (T : Cols) (ps : List Nat) : Prop := Ech r m T ps ∧ ps.length = r ∧ (∀ j k, k < j → j < r → 0 ≤ T k (ps.getD j 0) ∧ T k (ps.getD j 0) < T j (ps.getD j 0)) ∧
  ∀ a j, a < names → j < r → 0 ≤ T (r + a) (ps.getD j 0) ∧ T (r + a) (ps.getD j 0) < T j (ps.getD j 0)
theorem Lin_sub {n : Nat} {C : Cols} {y z : Nat → Int} {i : Nat} : Lin n C y i - Lin n C z i = Lin n C (fun k => y k - z k) i := by
  show S n _ - S n _ = S n _
  rw [← S_sub]
  exact S_congr fun k _ => (Int.sub_mul _ _ _).symm
/-- two normal forms of the same combinations, and of numbers that are the same up to these -/
theorem nf_same {m r r' names : Nat} {T T' : Cols} {ps ps' : List Nat} (N : Nf m r names T ps) (N' : Nf m r' names T' ps') (h : Spans m r T r' T') (h' : Spans m r' T' r T)
    (hb : ∀ a, a < names → ∃ y, ∀ i, i < m → T (r + a) i - T' (r' + a) i = Lin r T y i) : r = r' ∧ (∀ k i, k < r → i < m → T k i = T' k i) ∧ ∀ a i, a < names → i < m → T (r + a) i = T' (r' + a) i := by
  obtain ⟨E, hl, hr, hbs⟩ := N
  obtain ⟨E', hl', hr', hbs'⟩ := N'
  obtain ⟨e, hv⟩ := E.same E' h h'
  subst e
  have er : r = r' := hl.symm.trans hl'
  subst er
  refine ⟨rfl, fun k i hk hi => ?_, fun a i ha hi => ?_⟩
  · obtain ⟨z, hz⟩ := h' (unit k)
    have hd : ∀ i, i < m → T k i - T' k i = Lin r T (fun j => unit k j - z j) i := fun i hi => by
      rw [← Lin_sub, Lin_unit hk, ← hz i hi, Lin_unit hk]
    have z0 := E.small (y := fun j => unit k j - z j) (fun j hj => by
      rw [← hd _ (E.lt j hj)]
      have p0 := E.pos j hj
      rcases Nat.lt_trichotomy j k with q | q | q
      · have a1 : T k (ps.getD j 0) = 0 := E.up k (by omega) _ (E.inc j k q (by omega))
        have a2 : T' k (ps.getD j 0) = 0 := E'.up k (by omega) _ (E.inc j k q (by omega))
        rw [a1, a2]
        omega
      · subst q
        rw [hv j hj]
        have := E'.pos j hj
        omega
      · have a1 := hr j k q (by omega)
        have a2 := hr' j k q (by omega)
        rw [← hv j hj] at a2
        omega) i hi
    rw [← hd i hi] at z0
    omega
  · obtain ⟨y, hy⟩ := hb a ha
    have z0 := E.small (y := y) (fun j hj => by
      rw [← hy _ (E.lt j hj)]
      have a1 := hbs a j ha (by omega)
      have a2 := hbs' a j ha (by omega)
      rw [← hv j hj] at a2
      omega) i hi
    rw [← hy i hi] at z0
    omega
end Mw

-- MwSol
set_option linter.all false
namespace Mw
/-! lists by places -/
theorem getD_map_range {α : Type} {n k : Nat} {f : Nat → α} {d : α} (h : k < n) : ((List.range n).map f).getD k d = f k := by
  refine getD_of ?_
  rw [List.getElem?_map, List.getElem?_range h]
  rfl
theorem getD_app_l {α : Type} {a b : List α} {k : Nat} {d : α} (h : k < a.length) : (a ++ b).getD k d = a.getD k d := by
  rw [List.getD_eq_getElem?_getD, List.getElem?_append_left h, ← List.getD_eq_getElem?_getD]
theorem getD_app_r {α : Type} {a b : List α} {k : Nat} {d : α} : (a ++ b).getD (a.length + k) d = b.getD k d := by
  rw [List.getD_eq_getElem?_getD, List.getElem?_append_right (by omega), Nat.add_sub_cancel_left, ← List.getD_eq_getElem?_getD]
theorem getD_map {α β : Type} {l : List α} {f : α → β} {k : Nat} {d : α} {d' : β} (h : k < l.length) : (l.map f).getD k d' = f (l.getD k d) := by
  rw [getD_of (List.getElem?_eq_getElem h)]
  refine getD_of ?_
  rw [List.getElem?_map, List.getElem?_eq_getElem h]
  rfl
theorem getD_drop {α : Type} {l : List α} {a k : Nat} {d : α} : (l.drop a).getD k d = l.getD (a + k) d := by
  rw [List.getD_eq_getElem?_getD, List.getElem?_drop, ← List.getD_eq_getElem?_getD]
/-! the columns at the start -/
def col0 (eqs : List (List Int)) (n k : Nat) : List Int := eqs.map (fun r => r.getD k 0) ++ (List.range n).map fun j => if j = k then 1 else 0
def cols0 (eqs : List (List Int)) (n : Nat) : List (List Int) := (List.range n).map (col0 eqs n)
theorem cols0_len (eqs : List (List Int)) (n : Nat) : (cols0 eqs n).length = n := by unfold cols0; rw [List.length_map, List.length_range]
theorem cols0_wid (eqs : List (List Int)) (n : Nat) : Wid (cols0 eqs n) (eqs.length + n) := fun k c e => by
  unfold cols0 at e
  rw [List.getElem?_map] at e
  cases h : (List.range n)[k]? with
  | none => rw [h] at e; cases e
  | some j =>
    rw [h] at e
    cases e
    unfold col0
    rw [List.length_append, List.length_map, List.length_map, List.length_range]
theorem c0_top {eqs : List (List Int)} {n k i : Nat} (hk : k < n) (hi : i < eqs.length) : at2 (cols0 eqs n) k i = at2 eqs i k := by
  unfold at2 cols0
  rw [getD_map_range hk]
  unfold col0
  rw [getD_app_l (by rw [List.length_map]; exact hi), getD_map (d := []) hi]
theorem c0_bot {eqs : List (List Int)} {n k u : Nat} (hk : k < n) (hu : u < n) : at2 (cols0 eqs n) k (eqs.length + u) = if u = k then 1 else 0 := by
  unfold at2 cols0
  rw [getD_map_range hk]
  unfold col0
  have e : eqs.length = (eqs.map fun r => r.getD k 0).length := (List.length_map ..).symm
  rw [e, getD_app_r, getD_map_range hu]
theorem at2_wid {L : List (List Int)} {d k i : Nat} (h : Wid L d) (hi : d ≤ i) : at2 L k i = 0 := by
  by_cases hk : k < L.length
  · unfold at2
    exact getD_out (by rw [h.getD hk]; exact hi)
  · exact at2_out (by omega)
theorem l0_top {eqs : List (List Int)} {n i : Nat} {z : Nat → Int} (hi : i < eqs.length) : Lin n (at2 (cols0 eqs n)) z i = S n fun u => at2 eqs i u * z u := S_congr fun k hk => by rw [c0_top hk hi, Int.mul_comm]
theorem l0_bot {eqs : List (List Int)} {n u : Nat} {z : Nat → Int} (hu : u < n) : Lin n (at2 (cols0 eqs n)) z (eqs.length + u) = z u := by
  have := S_single (f := fun k => z k * at2 (cols0 eqs n) k (eqs.length + u)) hu fun k hk hne => by
    show z k * at2 (cols0 eqs n) k (eqs.length + u) = 0
    rw [c0_bot hk hu, if_neg (Ne.symm hne), Int.mul_zero]
  show S n _ = _
  rw [this]
  show z u * at2 (cols0 eqs n) u (eqs.length + u) = z u
  rw [c0_bot hu hu, if_pos rfl, Int.mul_one]
theorem ind0 (eqs : List (List Int)) (n : Nat) : Ind n (at2 (cols0 eqs n)) := fun y h k hk => by
  rw [← l0_bot (eqs := eqs) (z := y) hk]
  exact h _
/-! behind the steps -/
section
variable {eqs L : List (List Int)} {n : Nat} {ps : List Nat}
theorem sol_top (U : Uni n (at2 (cols0 eqs n)) (at2 L)) (y : Nat → Int) {i : Nat} (hi : i < eqs.length) : Lin n (at2 L) y i = S n fun u => at2 eqs i u * Lin n (at2 L) y (eqs.length + u) := by
  obtain ⟨z, hz⟩ := U.bwd y
  rw [hz, l0_top hi]
  exact S_congr fun u hu => by rw [hz, l0_bot hu]
theorem sol_surj (U : Uni n (at2 (cols0 eqs n)) (at2 L)) (z : Nat → Int) : ∃ y : Nat → Int, ∀ u, u < n → Lin n (at2 L) y (eqs.length + u) = z u := by
  obtain ⟨y, hy⟩ := U.fwd z
  exact ⟨y, fun u hu => by rw [← hy, l0_bot hu]⟩
theorem sol_ker (U : Uni n (at2 (cols0 eqs n)) (at2 L)) (E : Ech n eqs.length (at2 L) ps) {k i : Nat} (h1 : ps.length ≤ k) (h2 : k < n) (hi : i < eqs.length) : (S n fun u => at2 eqs i u * at2 L k (eqs.length + u)) = 0 := by
  have h := sol_top U (unit k) hi
  rw [Lin_unit h2, E.rest k h1 h2 i hi] at h
  rw [h]
  exact S_congr fun u hu => by rw [Lin_unit h2]
theorem sol_all (U : Uni n (at2 (cols0 eqs n)) (at2 L)) (E : Ech n eqs.length (at2 L) ps) {f : Nat} (hf : ps.length + f = n) (z : Nat → Int) (hz : ∀ i, i < eqs.length → (S n fun u => at2 eqs i u * z u) = 0) :
    ∃ y : Nat → Int, ∀ u, u < n → z u = S f fun j => y j * at2 L (ps.length + j) (eqs.length + u) := by
  obtain ⟨y, hy⟩ := sol_surj U z
  have h0 : ∀ i, i < eqs.length → Lin n (at2 L) y i = 0 := fun i hi => by
    rw [sol_top U y hi, ← hz i hi]
    exact S_congr fun u hu => by rw [hy u hu]
  have hk := E.ind_top h0
  refine ⟨fun j => y (ps.length + j), fun u hu => ?_⟩
  rw [← hy u hu]
  show S n _ = _
  rw [← hf, S_split, S_zero (n := ps.length) fun k h => by rw [hk k h, Int.zero_mul], Int.zero_add]
theorem sol_ind (U : Uni n (at2 (cols0 eqs n)) (at2 L)) (E : Ech n eqs.length (at2 L) ps) (W : Wid L (eqs.length + n)) {f : Nat} (hf : ps.length + f = n) (y : Nat → Int) (hy : ∀ u, u < n → (S f fun j => y j * at2 L (ps.length + j) (eqs.length + u)) = 0) : ∀ j, j < f → y j = 0 := by
  have hI := U.ind (ind0 eqs n) (fun k => if k < ps.length then 0 else y (k - ps.length)) (fun i => ?_)
  · intro j hj
    have := hI (ps.length + j) (by omega)
    rw [if_neg (by omega), Nat.add_sub_cancel_left] at this
    exact this
  · have e : Lin n (at2 L) (fun k => if k < ps.length then 0 else y (k - ps.length)) i = S f fun j => y j * at2 L (ps.length + j) i := by
      show S n _ = _
      rw [← hf, S_split, S_zero (n := ps.length) fun k h => by
        show (if k < ps.length then (0 : Int) else y (k - ps.length)) * _ = 0
        rw [if_pos h, Int.zero_mul], Int.zero_add]
      exact S_congr fun j _ => by
        show (if ps.length + j < ps.length then (0 : Int) else y (ps.length + j - ps.length)) * _ = _
        rw [if_neg (by omega), Nat.add_sub_cancel_left]
    rw [e]
    by_cases h1 : i < eqs.length
    · exact S_zero fun j hj => by rw [E.rest (ps.length + j) (by omega) (by omega) i h1, Int.mul_zero]
    · by_cases h2 : i < eqs.length + n
      · obtain ⟨u, rfl⟩ : ∃ u, i = eqs.length + u := ⟨i - eqs.length, by omega⟩
        exact hy u (by omega)
      · exact S_zero fun j hj => by rw [at2_wid W (by omega), Int.mul_zero]
/-- what is taken of the steps gives a solution -/
theorem sol_par (U : Uni n (at2 (cols0 eqs n)) (at2 L)) (hl : ps.length ≤ n) {w : Nat → Int} {y : Nat → Int} (h : ∀ i, i < eqs.length → (S ps.length fun k => y k * at2 L k i) = w i) {i : Nat} (hi : i < eqs.length) :
    (S n fun u => at2 eqs i u * S ps.length fun k => y k * at2 L k (eqs.length + u)) = w i := by
  have e : ∀ i, Lin n (at2 L) (fun k => if k < ps.length then y k else 0) i = S ps.length fun k => y k * at2 L k i := fun i => by
    obtain ⟨f, hf⟩ : ∃ f, ps.length + f = n := ⟨n - ps.length, by omega⟩
    show S n _ = _
    rw [← hf, S_split, S_zero (n := f) fun j _ => by
      show (if ps.length + j < ps.length then y (ps.length + j) else 0) * _ = 0
      rw [if_neg (by omega), Int.zero_mul], Int.add_zero]
    exact S_congr fun k hk => by
      show (if k < ps.length then y k else 0) * _ = _
      rw [if_pos hk]
  rw [← h i hi, ← e, sol_top U _ hi]
  exact S_congr fun u hu => by rw [e]
end
/-! the steps taken one by one -/
section
variable {n m : Nat} {C : Cols} {ps : List Nat}
theorem stp_piv (E : Ech n m C ps) (y : Nat → Int) {c : Nat} (hc : c < ps.length) : Lin n C y (ps.getD c 0) - (S c fun k => y k * C k (ps.getD c 0)) = y c * C c (ps.getD c 0) := by
  obtain ⟨f, hf⟩ : ∃ f, c + (f + 1) = n := ⟨n - c - 1, by have := E.le; omega⟩
  show S n _ - _ = _
  rw [← hf, S_split, S_head, S_zero (n := f) fun j hj => ?_]
  · show _ + (y (c + 0) * C (c + 0) _ + 0) - _ = _
    rw [Nat.add_zero]
    omega
  · show y (c + (j + 1)) * C (c + (j + 1)) _ = 0
    by_cases h : c + (j + 1) < ps.length
    · rw [E.up _ h _ (E.inc c _ (by omega) h), Int.mul_zero]
    · rw [E.rest _ (by omega) (by omega) _ (E.lt c hc), Int.mul_zero]
theorem stp_no (E : Ech n m C ps) (y : Nat → Int) {c i : Nat} (hc : c ≤ ps.length) (hi : i < m) (h : ∀ k, c ≤ k → k < ps.length → i < ps.getD k 0) : Lin n C y i - (S c fun k => y k * C k i) = 0 := by
  obtain ⟨f, hf⟩ : ∃ f, c + f = n := ⟨n - c, by have := E.le; omega⟩
  show S n _ - _ = _
  rw [← hf, S_split, S_zero (n := f) fun j hj => ?_]
  · omega
  · show y (c + j) * C (c + j) _ = 0
    by_cases q : c + j < ps.length
    · rw [E.up _ q _ (h _ (by omega) q), Int.mul_zero]
    · rw [E.rest _ (by omega) (by omega) _ hi, Int.mul_zero]
end
/-! bounds by powers of two -/
theorem two_pow_mono {a b : Nat} (h : a ≤ b) : 2 ^ a ≤ 2 ^ b := Nat.pow_le_pow_right (by decide) h
theorem msb_pow (b : Nat) : 6 * (2 ^ b) ^ 5 ≤ 2 ^ (5 * b + 3) := by
  rw [← Nat.pow_mul, Nat.pow_add, Nat.mul_comm b 5]
  have : (2 : Nat) ^ 3 = 8 := by decide
  rw [this]
  omega
structure Grow (e : Nat → Nat) : Prop where
  up : ∀ j, 5 * e j + 3 ≤ e (j + 1)
theorem Grow.mono {e : Nat → Nat} (h : Grow e) {i : Nat} : ∀ {j : Nat}, i ≤ j → e i ≤ e j := by
  intro j hj
  induction j with
  | zero =>
    have : i = 0 := by omega
    rw [this]
    exact Nat.le_refl _
  | succ j ih =>
    by_cases q : i = j + 1
    · rw [q]
      exact Nat.le_refl _
    · have a := ih (by omega)
      have b := h.up j
      omega
/-! stepped -/
structure Stp (L0 L : List (List Int)) (ps : List Nat) (row d : Nat) (e : Nat → Nat) (j0 : Nat) : Prop where
  len : L.length = L0.length
  wid : Wid L d
  uni : Uni L0.length (at2 L0) (at2 L)
  ech : Ech L0.length row (at2 L) ps
  bd : ∀ k i, k < L0.length → (at2 L k i).natAbs ≤ 2 ^ e (j0 + min ps.length (L0.length - 1))
  pb : ∀ k, k < ps.length → (at2 L k (ps.getD k 0)).natAbs ≤ 2 ^ e (j0 + k)
theorem stp_start {L0 : List (List Int)} {d : Nat} {e : Nat → Nat} {j0 : Nat} (W : Wid L0 d) (hb : ∀ k i, k < L0.length → (at2 L0 k i).natAbs ≤ 2 ^ e j0) : Stp L0 L0 [] 0 d e j0 :=
  ⟨rfl, W, Uni.refl _ _, ⟨Nat.zero_le _, fun k h => absurd h (Nat.not_lt_zero _), fun _ k _ h => absurd h (Nat.not_lt_zero _), fun k h => absurd h (Nat.not_lt_zero _), fun k h => absurd h (Nat.not_lt_zero _), fun _ _ _ i h => absurd h (Nat.not_lt_zero _)⟩,
    fun k i hk => by
      have := hb k i hk
      rw [show ([] : List Nat).length = 0 from rfl, Nat.zero_min, Nat.add_zero]
      exact this, fun k h => absurd h (Nat.not_lt_zero _)⟩
structure MsPost (L L' : List (List Int)) (first row d M : Nat) (res : Bool) : Prop where
  kept : Kept L L' first d
  yes : res = true → first < L.length ∧ 0 < at2 L' first row ∧ (at2 L' first row).natAbs ≤ M ∧ ∀ k, first < k → k < L.length → at2 L' k row = 0
  no : res = false → L' = L ∧ ∀ k, first ≤ k → k < L.length → at2 L k row = 0
  bd : Bd L' first (MsB L.length first M)
theorem ms_no {L0 L : List (List Int)} {first row d M n : Nat} (h : Ph L0 L first row M n) (K : Kept L0 L first d) (hf : first < L0.length) (hM : 0 < M) (hz : ∀ k, first ≤ k → k < L.length → at2 L k row = 0) : MsPost L0 L first row d M false := by
  have hl := K.len
  refine ⟨K, fun z => Bool.noConfusion z, fun _ => ?_, by rw [← hl]; exact ph_bd h hM⟩
  have z0 := hz first (Nat.le_refl _) (by omega)
  rcases h with ⟨e, _, _⟩ | ⟨W, p, B⟩ | ⟨F, _⟩
  · rw [e] at hz
    exact ⟨e, hz⟩
  · rw [B.at1] at z0
    have := B.pos
    have := B.pm
    omega
  · have := F.pos
    omega
theorem ms_yes {L0 L L1 : List (List Int)} {first row d M n l : Nat} (h : Ph L0 L first row M n) (K : Kept L0 L first d) (K1 : Kept L L1 first d) (hM : 0 < M) (lo : LowAt L first row l) (hs : Sw L L1 first row l) (none : ∀ k, first ≤ k → k < L.length → k ≠ l → at2 L k row = 0) :
    MsPost L0 L1 first row d M true := by
  have hl := K.len
  have hf : first < L.length := by have := lo.fl; have := lo.ll; omega
  refine ⟨K.trans K1, fun _ => ⟨by omega, hs.pos, by rw [hs.mag]; exact ph_row h hf l lo.fl lo.ll, fun k h1 h2 => ?_⟩, fun z => Bool.noConfusion z, by rw [← hl, ← hs.len]; exact (by rw [hs.len]; exact hs.bd _ (ph_bd h hM))⟩
  obtain ⟨k', a, b, c, e⟩ := hs.oth k h1 (by rw [hs.len]; omega)
  rw [e]
  exact none k' a b c
theorem getD_snoc_lt {ps : List Nat} {r k : Nat} (h : k < ps.length) : (ps ++ [r]).getD k 0 = ps.getD k 0 := getD_app_l h
theorem getD_snoc_eq {ps : List Nat} {r : Nat} : (ps ++ [r]).getD ps.length 0 = r := by
  have := getD_app_r (a := ps) (b := [r]) (k := 0) (d := 0)
  rw [Nat.add_zero] at this
  rw [this]
  rfl
theorem stp_skip {L0 L : List (List Int)} {ps : List Nat} {row d : Nat} {e : Nat → Nat} {j0 : Nat} (St : Stp L0 L ps row d e j0) (h : ∀ k, ps.length ≤ k → k < L0.length → at2 L k row = 0) : Stp L0 L ps (row + 1) d e j0 :=
  ⟨St.len, St.wid, St.uni, ⟨St.ech.le, fun k hk => Nat.lt_succ_of_lt (St.ech.lt k hk), St.ech.inc, St.ech.pos, St.ech.up, fun k h1 h2 i hi => by
    by_cases z : i = row
    · rw [z]
      exact h k h1 h2
    · exact St.ech.rest k h1 h2 i (by omega)⟩, St.bd, St.pb⟩
theorem stp_yes {L0 L L' : List (List Int)} {ps : List Nat} {row d : Nat} {e : Nat → Nat} {j0 : Nat} (he : Grow e) (St : Stp L0 L ps row d e j0) (hr : ps.length < L0.length) (P : MsPost L L' ps.length row d (2 ^ e (j0 + ps.length)) true) : Stp L0 L' (ps ++ [row]) (row + 1) d e j0 := by
  obtain ⟨_, y1, y2, y3⟩ := P.yes rfl
  have K := P.kept
  have hl := St.len
  have hE := St.ech
  rw [hl] at y3
  have same : ∀ k, k < ps.length → ∀ i, at2 L' k i = at2 L k i := fun k hk i => by
    have e : L'.getD k [] = L.getD k [] := by rw [List.getD_eq_getElem?_getD, K.pre k hk, ← List.getD_eq_getElem?_getD]
    unfold at2
    rw [e]
  have zr : ∀ i, i < row → ∀ k, ps.length ≤ k → k < L0.length → at2 L' k i = 0 := fun i hi k h1 h2 => K.zer i (fun k h1 h2 => hE.rest k h1 (by omega) i hi) k h1 (by omega)
  have hlen : (ps ++ [row]).length = ps.length + 1 := by simp
  have U := K.uni
  rw [hl] at U
  refine ⟨K.len.trans hl, K.wid, St.uni.trans U, ⟨by omega, fun k hk => ?_, fun k k' h1 h2 => ?_, fun k hk => ?_, fun k hk i hi => ?_, fun k h1 h2 i hi => ?_⟩, fun k i hk => ?_, fun k hk => ?_⟩
  · by_cases z : k = ps.length
    · rw [z, getD_snoc_eq]
      omega
    · rw [getD_snoc_lt (by omega)]
      exact Nat.lt_succ_of_lt (hE.lt k (by omega))
  · by_cases z : k' = ps.length
    · rw [z, getD_snoc_eq, getD_snoc_lt (by omega)]
      exact hE.lt k (by omega)
    · rw [getD_snoc_lt (by omega), getD_snoc_lt (by omega)]
      exact hE.inc k k' h1 (by omega)
  · by_cases z : k = ps.length
    · rw [z, getD_snoc_eq]
      exact y1
    · rw [getD_snoc_lt (by omega), same k (by omega)]
      exact hE.pos k (by omega)
  · by_cases z : k = ps.length
    · rw [z, getD_snoc_eq] at hi
      rw [z]
      exact zr i hi _ (Nat.le_refl _) hr
    · rw [getD_snoc_lt (by omega)] at hi
      rw [same k (by omega)]
      exact hE.up k (by omega) i hi
  · rw [hlen] at h1
    by_cases z : i = row
    · rw [z]
      exact y3 k (by omega) h2
    · exact zr i (by omega) k (by omega) h2
  · rw [hlen]
    by_cases z : k < ps.length
    · rw [same k z]
      exact Nat.le_trans (St.bd k i hk) (two_pow_mono (he.mono (by omega)))
    · refine Nat.le_trans (P.bd k i (by omega) (by rw [K.len, hl]; exact hk)) ?_
      unfold MsB
      rw [hl]
      split
      · refine Nat.le_trans (msb_pow _) (two_pow_mono ?_)
        have a := he.up (j0 + ps.length)
        rw [show j0 + min (ps.length + 1) (L0.length - 1) = j0 + ps.length + 1 by omega]
        exact a
      · rw [show j0 + min (ps.length + 1) (L0.length - 1) = j0 + ps.length by omega]
        exact Nat.le_refl _
  · by_cases z : k = ps.length
    · rw [z, getD_snoc_eq]
      exact y2
    · rw [getD_snoc_lt (by omega), same k (by omega)]
      exact St.pb k (by omega)
theorem stp_bd1 {L0 L : List (List Int)} {ps : List Nat} {row d : Nat} {e : Nat → Nat} {j0 : Nat} (St : Stp L0 L ps row d e j0) (hr : ps.length < L0.length) : Bd L ps.length (2 ^ e (j0 + ps.length)) := fun k i h1 h2 => by
  have := St.bd k i (by rw [← St.len]; exact h2)
  rw [show j0 + min ps.length (L0.length - 1) = j0 + ps.length by omega] at this
  exact this
end Mw

-- MwMin
set_option Elab.async false
set_option linter.all false
set_option maxRecDepth 100000
set_option maxHeartbeats 2000000
/-! min(xs, key=lambda a: (.., ..)) over whole numbers -/
namespace Mw
open PySem PySem.Spec PyProof.Rows L2 LamX

/-- a lambda of one parameter a: captured names, globals, no cells -/
structure LamS1 (sc scope : Scope) (a : Str) : Prop where
  kind : scope.kind = .function
  co : scope.isCoroutine = false
  gen : scope.isGenerator = false
  par : scope.names.lookup a = some .local
  own : ∀ y ∈ scope.names, (y.2 = .local → y.1 = a) ∧ y.2 ≠ .cell
  free : ∀ y ∈ scope.names, y.2 = .free → sc.names.lookup y.1 = some .cell ∨ sc.names.lookup y.1 = some .free
def lamSB1 (sc scope : Scope) (a : Str) : Bool :=
  decide (scope.kind = .function) && !scope.isCoroutine && !scope.isGenerator && decide (scope.names.lookup a = some .local) &&
    scope.names.all fun y => (!decide (y.2 = .local) || decide (y.1 = a)) && !decide (y.2 = .cell) && (!decide (y.2 = .free) || decide (sc.names.lookup y.1 = some .cell) || decide (sc.names.lookup y.1 = some .free))
theorem lamS1_by {sc scope : Scope} {a : Str} (h : lamSB1 sc scope a = true) : LamS1 sc scope a := by
  unfold lamSB1 at h
  simp only [Bool.and_eq_true, Bool.or_eq_true, Bool.not_eq_true', decide_eq_true_eq, decide_eq_false_iff_not, List.all_eq_true] at h
  obtain ⟨⟨⟨⟨h1, h2⟩, h3⟩, h5⟩, h4⟩ := h
  refine ⟨h1, h2, h3, h5, fun y hy => ⟨fun e => ?_, (h4 y hy).1.2⟩, fun y hy e => ?_⟩
  · rcases (h4 y hy).1.1 with z | z
    · exact absurd e z
    · exact z
  · rcases (h4 y hy).2 with (z | z) | z
    · exact absurd e z
    · exact .inl z
    · exact .inr z
theorem LamS1.has {X : Cx} {scope : Scope} {a : Str} (L : LamS1 X.env.scope scope a) (ok : X.Ok) : ∀ y ∈ scope.names, y.2 = .free → ∃ c, X.env.cells.lookup y.1 = some c := fun y hy e => by
  rcases L.free y hy e with k | k
  · exact ok.has _ (.inl k)
  · exact ok.has _ (.inr k)
section
variable {X : Cx} {pins : List (Addr × Obj)} {σ : L2.St} {H : Hp} {s : Shared}
theorem lam_start1 {A : Around} {outer : List Env} {E : XK} {scope : Scope} {a : Str} {f c' : Addr} {h₁ : Heap} {tk : Nat} {i : Nat} {x : V} {u : Value} (I : Inv X pins σ H s) (L : LamS1 X.env.scope scope a) (hN : X.N.Nodup) (hi : X.N[i]? = some a) (r : RelV x u)
    (e0 : Env0 X.prog X.w X.K X.mg X.base A outer s H) (hd : A.handled = none)
    (hns : h₁.Ns s.heap.objs.size fun y => ([(a, u)] : List (Str × Value)).reverse.lookup y) (kp : ∀ b o, s.heap.get? b = some o → h₁.get? b = some o) :
    Inv (lamCx X A outer s H E scope f c') [] (σ.set i (some x)) H { s with heap := h₁, toks := tk } := by
  have hfree := L.has I.ok
  have hiσ : i < σ.length := by rw [I.len]; exact (List.getElem?_eq_some_iff.mp hi).1
  have cm : ∀ {y c}, (cloFrom X.env.cells scope.names []).lookup y = some c → X.env.cells.lookup y = some c := fun {y c} e => by
    rcases cloFrom_mem (PySem.mem_of_lookup e) with hm | ⟨h1, h2⟩
    · cases hm
    · obtain ⟨c1, hc⟩ := hfree _ h1 rfl
      have hc : X.env.cells.lookup y = some c1 := hc
      have e2 : c = c1 := by
        rw [h2, hc] <;> rfl
      rw [e2]
      exact hc
  have look : ∀ {y}, scope.names.lookup y = some .free → ∃ c, (cloFrom X.env.cells scope.names []).lookup y = some c := fun {y} hl => by
    have hy : (y, NameKind.free) ∈ scope.names := PySem.mem_of_lookup hl
    exact mem_lookup (cloFrom_has (cells := X.env.cells) (acc := []) hy)
  have cellK : ∀ {c : Addr} {v : Option Value}, s.heap.IsCell c v → h₁.IsCell c v := fun {c v} ⟨o, ho, hd⟩ => ⟨_, kp _ _ ho, hd⟩
  have noA : ∀ b : Addr, b ∉ (lamCx X A outer s H E scope f c').ex := fun b z => absurd (show b ∈ ([] : List Addr) from z) (by simp)
  refine ⟨⟨e0.mod, L.kind, rfl, rfl, Nat.le_refl _, fun y z c e1 e2 => I.ok.inj y z c (cm e1) (cm e2), fun y hy => ?_, fun y c z _ => ?_, fun _ => hd, Around.frames_deeper e0.frames, .inr ⟨rfl, rfl⟩, fun b z => absurd z (noA b), e0.bs, e0.bsz, fun b _ _ => noA b,
      fun b z => absurd z (noA b), e0.funs, e0.frf⟩,
    rfl, e0.bare, Un.kept kp, ⟨_, hns, fun j y v e1 e2 e3 => ?_⟩, fun y c e => ?_, e0.hok.fresh (Nat.le_refl _), fun y c e => I.freeC y c (cm e), fun q hq => absurd (show q ∈ ([] : List (Addr × Obj)) ++ [] from hq) (by simp), e0.hok.kept kp, by rw [List.length_set]; exact I.len⟩
  · have hy : scope.names.lookup y = some .cell ∨ scope.names.lookup y = some .free := hy
    rcases hy with hy | hy
    · exact absurd rfl (L.own _ (PySem.mem_of_lookup hy)).2
    · exact look hy
  · have z : false = true := z
    cases z
  · have e1 : X.N[j]? = some y := e1
    have e3 : Vis scope y := e3
    by_cases hj : j = i
    · subst hj
      rw [hi] at e1
      cases e1
      rw [List.getElem?_set_self hiσ] at e2
      cases e2
      exact ⟨u, r, .inl ⟨L.par, by simp [List.lookup]⟩⟩
    · rw [List.getElem?_set_ne (Ne.symm hj)] at e2
      rcases e3 with k | k | k
      · have ey : y = a := (L.own _ (PySem.mem_of_lookup k)).1 rfl
        subst ey
        exact absurd (L2.nodup_ix hN e1 hi) hj
      · exact absurd rfl (L.own _ (PySem.mem_of_lookup k)).2
      · obtain ⟨m, hn, hl⟩ := I.loc
        have hvis : Vis X.env.scope y := (L.free _ (PySem.mem_of_lookup k) rfl).elim (fun k => .inr (.inl k)) (fun k => .inr (.inr k))
        obtain ⟨w', r', q⟩ := hl j y v e1 e2 hvis
        obtain ⟨c2, h2⟩ := look k
        refine ⟨w', r', .inr ⟨.inr k, c2, h2, ?_⟩⟩
        have c1 := cm h2
        rcases q with ⟨k', _⟩ | ⟨_, c3, e', z⟩
        · have k' : X.env.scope.names.lookup y = some .local := k'
          rcases L.free _ (PySem.mem_of_lookup k) rfl with k2 | k2 <;> rw [show X.env.scope.names.lookup y = _ from k2] at k' <;> cases k'
        · rw [c1] at e'
          cases e'
          exact cellK z
  · obtain ⟨w', z⟩ := I.cell y c (cm e)
    exact ⟨w', cellK z⟩
/-- the lambda at f called with one value, from any around -/
theorem lam_call1 {A : Around} {params : Arguments} {body : Expr} {scope : Scope} {a : Str} {f c' : Addr} {pm ctv : Value} {k i : Nat} {x : V} {u : Value} {tb : TE} {Q : VK} (I : Inv X pins σ H s) (L : LamS1 X.env.scope scope a) (hN : X.N.Nodup) (hi : X.N[i]? = some a) (r : RelV x u)
    (hA : A.frames = X.A.frames) (hr : Room (k + 1) A)
    (hf : s.heap.get? f = some (PySem.W.kla_obj "<lambda>" (X.env.qual ++ "<lambda>") params body scope (cloFrom X.env.cells scope.names []) pm c' ctv)) (hc : H c' = some (CodeO c' (X.env.qual ++ "<lambda>")))
    (hbind : ∀ (u : Value), bindArgs (PySem.W.kla_fn "<lambda>" (X.env.qual ++ "<lambda>") params body scope (cloFrom X.env.cells scope.names []) pm (.ref c') ctv) ⟨[u], []⟩ = pure [(a, u)])
    (hbody : ∀ (A : Around) (outer : List Env) (s : Shared) (H : Hp), Room k (A.deeper (lamEnv X scope s.heap.objs.size f c')) → PE (lamCx X A outer s H E0 scope f c').nox body tb)
    (ht : tb (σ.set i (some x)) H Q) : wpAny (model X.prog X.w) A (call (.ref f) [u]) (EP X pins σ Q) (fun _ _ => False) s := by
  obtain ⟨⟨oc, vs, t, hoc, hdc, hvc⟩, _, _⟩ := I.hok c' _ hc
  have e0 : Env0 X.prog X.w X.K X.mg X.base A X.stack s H := ⟨hA.trans I.ok.frames, I.env0.mod, I.env0.bs, I.env0.bsz, I.env0.funs, I.env0.frf, I.env0.hok, I.env0.bare⟩
  have rc : codeAny (model X.prog X.w) A (.call (.ref f) ⟨[u], []⟩) (CR CX0 X.stack X.prog X.w H s Q E0) s := by
    refine PySem.W.kla_callFunE hr.depth hf rfl L.co L.gen rfl ⟨c', oc, vs, t, rfl, hoc, hdc, hvc⟩ ?_
    rw [hbind]
    refine wpAny_pure (wpAny_newFunctionEnv (fun y hy => (L.own y hy).2) (fun y hy => ?_) (fun h₁ hns hsb => ⟨I.nolimit.fresh _ hsb, ?_⟩) L.kind)
    · have ey : y = (a, u) := by simpa using hy
      rw [ey]
      exact L.par
    show codeAny _ _ (.expr body (lamEnv X scope s.heap.objs.size f c')) _ _
    have kp : ∀ b o, s.heap.get? b = some o → h₁.get? b = some o := fun b o e => hsb.extBut b o (Nat.ne_of_lt (Heap.lt_size e)) (Heap.get?_push_of_some _ e)
    have J : Inv (lamCx X A X.stack s H E0 scope f c') [] (σ.set i (some x)) H { s with heap := h₁, toks := s.toks + ([(a, u)] : List (Str × Value)).length } := lam_start1 I L hN hi r e0 hr.hd hns kp
    refine PySem.W.kla_codeExpr (wpAny_mono ((hbody _ _ s H (hr.deeper _)).run [] _ _ H Q (J.wish _) ht) (fun v s' hq => ?_) fun e s' hq => hq.elim)
    obtain ⟨w', H', J', rv, q⟩ := hq
    exact ⟨w', H', J'.os, J'.bare, J'.base, J'.hok, rv, q⟩
  refine wpAny_call (codeAny_mono rc fun r s' hq => ?_)
  cases r with
  | error e => exact hq
  | ok fl =>
    cases fl with
    | ret u => exact I.after hq
    | next => exact False.elim hq
    | brk => exact False.elim hq
    | cont => exact False.elim hq
end

/-! ### the around of a built-in's body -/
abbrev in1X (X : Cx) : Cx := { X with A := X.A.in1 }
theorem inv_in1 {X : Cx} {pins : List (Addr × Obj)} {σ : L2.St} {H : Hp} {s : Shared} (I : Inv X pins σ H s) : Inv (in1X X) pins σ H s :=
  ⟨⟨I.ok.mod, I.ok.kind, I.ok.glob, I.ok.blt, I.ok.above, I.ok.inj, I.ok.has, I.ok.cab, I.ok.hd, I.ok.frames, I.ok.stk, I.ok.exf, I.ok.bs, I.ok.bsz, I.ok.noex, I.ok.exfs, I.ok.funs, I.ok.frf⟩, I.os, I.bare, I.base, I.loc, I.cell, I.free, I.freeC, I.pin, I.hok, I.len⟩
theorem exn_l {K : PySem.W.Frag} {H H' : Hp} {a : Addr} {xs : List V} (e : ExtN H H') (h : SqL K H a xs) : SqL K H' a xs := by
  rcases h with (h | ⟨o, h⟩) | h
  · exact .inl (.inl (e _ _ h (fun _ z => by cases z)))
  · exact .inl (.inr ⟨o, e _ _ h (fun _ z => by cases z)⟩)
  · exact .inr h
theorem lex2 {a b c d : Int} : HT.lexLt [a, b] [c, d] = decide (a < c ∨ (a = c ∧ b < d)) := by
  rw [HT.lexLt_cons, HT.lexLt_cons, HT.lexLt_nil_nil]
  by_cases h : a = c
  · rw [if_pos h]
    by_cases h2 : b = d
    · rw [if_pos h2]
      exact (decide_eq_false (by omega)).symm
    · rw [if_neg h2]
      by_cases h3 : b < d
      · rw [decide_eq_true h3]
        exact (decide_eq_true (.inr ⟨h, h3⟩)).symm
      · rw [decide_eq_false h3]
        exact (decide_eq_false (by omega)).symm
  · rw [if_neg h]
    by_cases h3 : a < c
    · rw [decide_eq_true h3]
      exact (decide_eq_true (.inl h3)).symm
    · rw [decide_eq_false h3]
      exact (decide_eq_false (by omega)).symm
theorem fp_mono {X : Cx} {pins : List (Addr × Obj)} {H H' : Hp} {b : Addr} (h : FpOk X pins H b) (n : H' b = none) : FpOk X pins H' b := ⟨n, h.2⟩
section
variable {X : Cx} {pins : List (Addr × Obj)} {σ : L2.St} {T : List (Addr × Str)} {l f it S : Addr} {fo : Obj} {ns : List Int} {g : Int → Int} {H1 : Hp} {R : Result → Shared → Prop}
theorem min_loop_tup (hcalm : X.calm = true) (hu : X.A.in1.units < cLine) (hl : SqL X.K H1 l (ns.map V.int))
    (turn : ∀ (pins' : List (Addr × Obj)) (H2 : Hp) (s2 : Shared) (n : Int) (u : Value), n ∈ ns → RelV (.int n) u → Inv X (((f, fo) :: pins) ++ pins') σ H2 s2 → ExtN H1 H2 → Tabs T H2 →
      wpAny (model X.prog X.w) X.A.in1 (call (.ref f) [u]) (EP X (((f, fo) :: pins) ++ pins') σ (fun v H3 => ∃ t, v = .ref t ∧ Same H2 H3 ∧ H3 t = some (.tup [.int (g n), .int n]))) (fun _ _ => False) s2)
    (hR : ∀ (m : Int) (H2 : Hp) (u : Value) (s2 : Shared), m ∈ ns → (∀ n ∈ ns, HT.lexLt [g n, n] [g m, m] = false) → RelV (.int m) u → Inv X ((f, fo) :: pins) σ H2 s2 → ExtN H1 H2 → Tabs T H2 → R (.ok (.ret u)) s2) :
    ∀ (r j : Nat) (H2 : Hp) (s : Shared) (i : Nat) (m : Int) (vb : Value) (tb : Addr) (c : Nat), ns.length - (j + 1) = r → j + 1 ≤ ns.length → Inv X ((f, fo) :: pins) σ H2 s → s.heap.IsListIter it l (j + 1) → s.heap.get? S = some (seqObj "list" #[vb, .ref tb] c) →
      FpOk X ((f, fo) :: pins) H2 it → FpOk X ((f, fo) :: pins) H2 S → it ≠ S → ExtN H1 H2 → Tabs T H2 → RelV (.int m) vb → ns[i]? = some m → H2 tb = some (.tup [.int (g m), .int m]) → (∀ (j' : Nat) (n : Int), j' ≤ j → ns[j']? = some n → HT.lexLt [g n, n] [g m, m] = false) →
      codeAny (model X.prog X.w) X.A (.builtin "min.loop" ⟨[.ref it, .ref f, .ref S], []⟩) R s := by
  have hname : (toString "min" ++ toString ".loop" : String) = "min.loop" := by decide
  intro r
  induction r with
  | zero =>
    intro j H2 s i m vb tb c hr hj I hit hS fit fS hne eN hT rb hi htb hbest
    have hin : j + 1 = ns.length := by omega
    obtain ⟨its, rv, p, hz⟩ := I.list (exn_l eN hl)
    have hlen := rv.length
    rw [List.length_map] at hlen
    obtain ⟨f0, f1, f2, f3, f4, f5⟩ := fit
    refine codeAny_builtin PySem.F.entry_min_loop ?_
    rw [Around.under_plainId PySem.F.plain_min_loop _]
    show wpAny _ X.A.in1 (seqItems? (.ref S) >>= _) _ _ _
    refine wpAny_bind (wpAny_seqItems hS rfl ?_)
    show wpAny _ X.A.in1 (tryCatch (pyNext (.ref it)) _ >>= _) _ _ _
    refine wpAny_bind (wpAny_tryCatch (wpAny_pyNext_list_end (I.ok.hd hcalm) hit p.isList (by simp; omega) fun h' eb => ?_))
    have I1 : Inv X ((f, fo) :: pins) σ H2 { s with heap := h' } := I.turned (t' := s.toks) (fun b o hb e => eb b o hb e) f0 f1 f3 f4 f5
    obtain ⟨g0, g1, g2, g3, g4, g5⟩ := fS
    have hS' : h'.get? S = some (seqObj "list" #[vb, .ref tb] c) := eb S _ hne.symm hS
    have s1 := Heap.SameBut.update h' S (Obj.mapSeq fun _ => (#[] : Array Value))
    show wpAny _ X.A.in1 (updateSeq S (fun _ => #[]) >>= _) _ _ _
    refine wpAny_bind ?_
    refine wpAny_updateSeq hS' rfl (wpAny_bind (wpAny_letGo (wpAny_pure ?_)))
    refine hR m H2 vb _ (List.mem_of_getElem? hi) (fun n hn => ?_) rb (I1.turned (t' := s.toks) (fun b o hb e => (s1.2 b hb).trans e) g0 g1 g3 g4 g5) eN hT
    obtain ⟨j', hj', ej⟩ := List.getElem_of_mem hn
    exact hbest j' n (by omega) (by rw [List.getElem?_eq_getElem hj', ej])
  | succ r ih =>
    intro j H2 s i m vb tb c hr hj I hit hS fit fS hne eN hT rb hi htb hbest
    have hlt : j + 1 < ns.length := by omega
    obtain ⟨its, rv, p, hz⟩ := I.list (exn_l eN hl)
    obtain ⟨n, hn⟩ : ∃ n, ns[j + 1]? = some n := ⟨_, List.getElem?_eq_getElem hlt⟩
    have hxn : (ns.map V.int)[j + 1]? = some (.int n) := by
      rw [List.getElem?_map, hn]
      rfl
    obtain ⟨u, hu', ru⟩ := rv.get hxn
    obtain ⟨f0, f1, f2, f3, f4, f5⟩ := id fit
    obtain ⟨g0, g1, g2, g3, g4, g5⟩ := id fS
    refine codeAny_builtin PySem.F.entry_min_loop ?_
    rw [Around.under_plainId PySem.F.plain_min_loop _]
    show wpAny _ X.A.in1 (seqItems? (.ref S) >>= _) _ _ _
    refine wpAny_bind (wpAny_seqItems hS rfl ?_)
    show wpAny _ X.A.in1 (tryCatch (pyNext (.ref it)) _ >>= _) _ _ _
    refine wpAny_bind (wpAny_tryCatch (wpAny_pyNext_list_item hit p.isList (x := u) (by simpa using hu') fun h' st' sb => ?_))
    have I1 : Inv X ((f, fo) :: pins) σ H2 { s with heap := h' } := I.turned (t' := s.toks) (fun b o hb e => (sb.2 b hb).trans e) f0 f1 f3 f4 f5
    have hS' : h'.get? S = some (seqObj "list" #[vb, .ref tb] c) := (sb.2 S hne.symm).trans hS
    obtain ⟨oI, hoI, hoc, hod⟩ := id st'
    have nfp : ∀ b ∈ [it, S], FpOk X ((f, fo) :: pins) H2 b := fun b hb => by
      rcases List.mem_cons.mp hb with rfl | hb
      · exact fit
      · rw [List.mem_singleton.mp hb]
        exact fS
    have I2 := I1.pinned nfp (fun b hb => by
      rcases List.mem_cons.mp hb with rfl | hb
      · exact ⟨oI, hoI, fun v z => by rw [hod] at z; cases z⟩
      · rw [List.mem_singleton.mp hb]
        exact ⟨_, hS', fun v z => by cases z⟩)
    show wpAny _ X.A.in1 (tryCatch (holding [u] (call (.ref f) [u])) _ >>= _) _ _ _
    refine wpAny_bind (wpAny_tryCatch (wpAny_holding (wpAny_mono (turn _ H2 _ n u (List.mem_of_getElem? hn) ru I2 eN hT) (fun x s'' he => ?_) fun _ _ hF => hF.elim)))
    obtain ⟨kv, H3, I3, rk, t, rfl, e3, ht⟩ := he
    obtain rfl : x = Value.ref t := rk
    have pI := I3.pin (it, oI) (List.mem_append_right _ (List.mem_append_right _ (mem_pinsAt (by simp) hoI)))
    have pS := I3.pin (S, seqObj "list" #[vb, .ref tb] c) (List.mem_append_right _ (List.mem_append_right _ (mem_pinsAt (by simp) hS')))
    have I4 := I3.unpinned
    have eN3 : ExtN H1 H3 := eN.trans (ExtN.of e3)
    have hT3 : Tabs T H3 := hT.ext e3
    have htb3 := e3 _ _ htb
    have hit3 : s''.heap.IsListIter it l (j + 1 + 1) := ⟨oI, pI.1, hoc, hod⟩
    have fit3 : FpOk X ((f, fo) :: pins) H3 it := fp_mono fit pI.2.1
    have fS3 : FpOk X ((f, fo) :: pins) H3 S := fp_mono fS pS.2.1
    show wpAny _ X.A.in1 (tryCatch (holding [u, .ref t] (richCompare .Lt (.ref t) (.ref tb) >>= _)) _ >>= _) _ _ _
    refine wpAny_bind (wpAny_tryCatch (wpAny_holding (wpAny_bind ?_)))
    obtain ⟨its1, r1, p1, _⟩ := I4.tuple (SqT.of (xs := [g n, n].map V.int) ht)
    obtain ⟨its2, r2, p2, _⟩ := I4.tuple (SqT.of (xs := [g m, m].map V.int) htb3)
    refine HT.lt_tupInts (s := s'') p1 p2 (intsAre_of r1) (intsAre_of r2) hu ?_
    refine wpAny_bind (wpAny_holding (wpAny_truthy_bool ?_))
    refine wpAny_bind (wpAny_letGo (wpAny_pure ?_))
    by_cases hb' : HT.lexLt [g n, n] [g m, m] = true
    · have s1 := Heap.SameBut.update s''.heap S (Obj.mapSeq fun _ => #[u, .ref t])
      obtain ⟨c2, hc2⟩ : ∃ c2, (s''.heap.update S (Obj.mapSeq fun _ => #[u, .ref t])).get? S = some (seqObj "list" #[u, .ref t] c2) := ⟨_, get?_update_seq pS.1 fun _ => #[u, .ref t]⟩
      simp only [hb', if_true]
      refine wpAny_bind ?_
      refine wpAny_updateSeq pS.1 rfl (wpAny_bind (wpAny_letGo ?_))
      rw [hname]
      have I5 : Inv X ((f, fo) :: pins) σ H3 { s'' with heap := s''.heap.update S (Obj.mapSeq fun _ => #[u, .ref t]) } := I4.turned (t' := s''.toks) (fun b o hb e => (s1.2 b hb).trans e) pS.2.1 g1 g3 g4 g5
      refine wpAny_pure ⟨plainId_quiet PySem.F.plain_min_loop _, ih (j + 1) H3 _ (j + 1) n u t c2 (by omega) hlt I5 ⟨oI, (s1.2 it hne).trans pI.1, hoc, hod⟩ hc2 fit3 fS3 hne eN3 hT3 ru hn ht fun j' n' hj' hn' => ?_⟩
      by_cases e : j' = j + 1
      · subst e
        rw [hn] at hn'
        cases hn'
        rw [lex2]
        exact decide_eq_false (by omega)
      · have hb1 := hbest j' n' (by omega) hn'
        rw [lex2] at hb1 hb' ⊢
        have h1 := of_decide_eq_false hb1
        have h2 := of_decide_eq_true hb'
        exact decide_eq_false (by omega)
    · have hbf : HT.lexLt [g n, n] [g m, m] = false := by
        cases q : HT.lexLt [g n, n] [g m, m] with
        | true => exact absurd q hb'
        | false => rfl
      simp only [hbf, Bool.false_eq_true, if_false]
      refine wpAny_bind (wpAny_letGo ?_)
      rw [hname]
      refine wpAny_pure ⟨plainId_quiet PySem.F.plain_min_loop _, ih (j + 1) H3 _ i m vb tb c (by omega) hlt I4 hit3 pS.1 fit3 fS3 hne eN3 hT3 rb hi htb3 fun j' n' hj' hn' => ?_⟩
      by_cases e : j' = j + 1
      · subst e
        rw [hn] at hn'
        cases hn'
        exact hbf
      · exact hbest j' n' (by omega) hn'
end

/-- min(e, key=lambda a: body): the keys are the tuples (g n, n) -/
def tMin (K : PySem.W.Frag) (T : List (Addr × Str)) (i : Nat) (te tb : TE) : TE := fun σ H Q => te σ H fun x H1 => ∃ (l : Addr) (ns : List Int) (g : Int → Int), x = .ref l ∧ SqL K H1 l (ns.map V.int) ∧ 0 < ns.length ∧ Tabs T H1 ∧
  (∀ n ∈ ns, ∀ H2, ExtN H1 H2 → Tabs T H2 → ∀ Q' : VK, (∀ t H3, Same H2 H3 → H3 t = some (.tup [.int (g n), .int n]) → Q' (.ref t) H3) → tb (σ.set i (some (.int n))) H2 Q') ∧
  (∀ m H2, m ∈ ns → (∀ n ∈ ns, HT.lexLt [g n, n] [g m, m] = false) → ExtN H1 H2 → Tabs T H2 → Q (.int m) H2)
section
variable {X : Cx}
theorem pe_minlam {T : List (Addr × Str)} {c P : Addr} {k i : Nat} {a : Str} {e : Expr} {params : Arguments} {body : Expr} {scope : Scope} {te tb : TE} {p lpos kpos pos : Pos} (hcalm : X.calm = true) (hg : Gl X "min") (hm : X.mg "min" = none) (he : PE X e te) (hN : X.N.Nodup) (hi : X.N[i]? = some a)
    (TB : TabB X.base X.mg c P) (hcode : X.env.code = .ref c) (hmT : (P, X.env.qual ++ "<lambda>") ∈ T) (hu : ∀ p ∈ T, p.1 = P → p.2 = X.env.qual ++ "<lambda>") (hr : Room (k + 2) X.A) (L : LamS1 X.env.scope scope a) (hdef : defaultsOf params X.env = ([], []))
    (hbind : ∀ (q : Str) (cl : List (Str × Addr)) (pm cv ctv u : Value), bindArgs (PySem.W.kla_fn "<lambda>" q params body scope cl pm cv ctv) ⟨[u], []⟩ = pure [(a, u)])
    (hbody : ∀ (A : Around) (outer : List Env) (s : Shared) (H : Hp) (f c' : Addr), Room k (A.deeper (lamEnv X scope s.heap.objs.size f c')) → PE (lamCx X A outer s H E0 scope f c').nox body tb)
    (hs : starEach [e] X.env = [(false, eval e X.env)] := by rfl) :
    PE X (.Call (.Name "min" p) [e] [⟨some "key", .Lambda params body scope lpos, kpos⟩] pos) (tMin X.K T i te tb) := by
  have hname : (toString "min" ++ toString ".loop" : String) = "min.loop" := by decide
  refine ⟨fun pins s σ H Q I h => ?_⟩
  refine wpAny_Call_Name_kw (ld_blt I hg hm (show bootBuiltins "min" = some (.builtin "min") by decide +kernel) ?_ (by decide) (by decide))
  refine PyProof.Rows.callWith_kw ?_ (by rw [hs]; rfl) (by rw [hs]; rfl) (by rfl) (by rfl)
  rw [hs]
  show wpAny _ _ (spliced ((false, eval e X.env) :: [])) _ _ s
  refine Calls.spliced_cons (thn (he.run pins s σ H _ I h) fun v0 s1 ⟨x0, H1, I1, r1, q1⟩ => Calls.spliced_nil ?_)
  show wpAny _ _ (evalAll ((do let v ← eval (.Lambda params body scope lpos) X.env; standAt pos; pure v) :: [])) _ _ s1
  obtain ⟨l, ns, g, rfl, hl, hlen, hT, hkey, hend⟩ := q1
  obtain rfl : v0 = Value.ref l := r1
  refine wpAny_evalAll_cons (wpAny_bind (lam_make2 (Q := _) I1 TB hcode hmT hu hT hdef (L.has I.ok) fun f c' pm ctv H2 s2 I2 eN T2 hf hfn hfr hco => wpAny_bind (wpAny_standAt (wpAny_pure (wpAny_evalAll_nil ?_)))))
  show wpAny _ X.A (call (.builtin "min") [.ref l] [(Str.ofString "key", .ref f)]) _ _ s2
  -- the lambda is pinned
  have hfL : f ≠ X.env.locals := fun z => by
    obtain ⟨m, ⟨o, es, ep, ho, hd, _⟩, _⟩ := I2.loc
    rw [← z, hf] at ho
    cases ho
    cases hd
  have hfs : f ∉ X.fs := fun z => hfr (by
    rcases I2.ok.stk with q | ⟨q, _⟩
    · rw [q]; exact z
    · rw [q]
      unfold frs
      rw [List.filterMap_cons]
      cases X.env.frame with
      | none => exact z
      | some b => exact List.mem_cons_of_mem _ z)
  have hl2 : SqL X.K H2 l (ns.map V.int) := exn_l eN hl
  obtain ⟨its, rv, p, hz⟩ := I2.list hl2
  have hrl := rv.length
  rw [List.length_map] at hrl
  have I3 : Inv X ((f, PySem.W.kla_obj "<lambda>" (X.env.qual ++ "<lambda>") params body scope (cloFrom X.env.cells scope.names []) pm c' ctv) :: pins) σ H2 s2 := I2.pins_of fun q hq => by
    rcases List.mem_cons.mp hq with rfl | hq
    · exact ⟨hf, hfn, hfL, hfs, fun v z => by cases z⟩
    · exact I2.pin q (List.mem_append_right _ hq)
  generalize hfo : PySem.W.kla_obj "<lambda>" (X.env.qual ++ "<lambda>") params body scope (cloFrom X.env.cells scope.names []) pm c' ctv = fo at I3
  have hr1 : Room (k + 1) X.A.in1 := Room.in1 hr
  have turn : ∀ (pins' : List (Addr × Obj)) (H3 : Hp) (s3 : Shared) (n : Int) (u : Value), n ∈ ns → RelV (.int n) u → Inv X (((f, fo) :: pins) ++ pins') σ H3 s3 → ExtN H2 H3 → Tabs T H3 →
      wpAny (model X.prog X.w) X.A.in1 (call (.ref f) [u]) (EP X (((f, fo) :: pins) ++ pins') σ (fun v H4 => ∃ t, v = .ref t ∧ Same H3 H4 ∧ H4 t = some (.tup [.int (g n), .int n]))) (fun _ _ => False) s3 := by
    intro pins' H3 s3 n u hn ru J eJ tJ
    have pf := (J.pin (f, fo) (List.mem_append_right _ (by simp))).1
    rw [← hfo] at pf
    exact lam_call1 J L hN hi ru rfl hr1 pf (eJ _ _ hco codeO_ne) (fun u => hbind _ _ _ _ _ u) (fun A outer s H hr => hbody A outer s H f c' hr) (hkey n hn H3 (eN.trans eJ) tJ _ fun t H4 e4 h4 => ⟨t, rfl, e4, h4⟩)
  refine kmk_tree PySem.F.kind_min PySem.F.plain_min PySem.F.entry_min (kmk_min_key _ _) ?_
  show wpAny _ X.A.in1 (Builtin.Builtins.bindParams "min" ["key", "default"] 0 ⟨[], [(Str.ofString "key", .ref f)]⟩ >>= _) _ _ s2
  refine wpAny_bind (wpAny_of_eq (show Builtin.Builtins.bindParams "min" ["key", "default"] 0 ⟨[], [(Str.ofString "key", .ref f)]⟩ = pure [some (.ref f), none] from rfl) ?_)
  refine wpAny_bind (wpAny_pure ?_)
  refine wpAny_bind (wpAny_pyIter_list p.isList ?_)
  refine wpAny_bind (wpAny_newList ?_ (Nat.zero_le _))
  rw [hname]
  refine wpAny_pure ⟨plainId_quiet PySem.F.plain_min_loop _, ?_⟩
  generalize hIo : ({ cls := .type "list_iterator", data := .fields #[.ref l, .int 0 0] } : Obj) = Io
  have hSsz : (s2.heap.push Io).objs.size = s2.heap.objs.size + 1 := size_push' ..
  have k1 : ∀ b o, s2.heap.get? b = some o → (s2.heap.push Io).get? b = some o := fun b o e => Heap.get?_push_of_some _ e
  have I4 : Inv X ((f, fo) :: pins) σ H2 { s2 with heap := s2.heap.push Io } := I3.kept (t' := s2.toks) k1
  have fit := I3.fpOk (b := s2.heap.objs.size) (H' := H2) (Nat.le_refl _) (I3.hok.fresh (Nat.le_refl _))
  have fS := I4.fpOk (b := (s2.heap.push Io).objs.size) (H' := H2) (Nat.le_refl _) (I4.hok.fresh (Nat.le_refl _))
  have gI : (s2.heap.push Io).get? s2.heap.objs.size = some Io := Heap.get?_push_size _ (by rw [← hIo]; rfl)
  have k2 : ∀ b o, (s2.heap.push Io).get? b = some o → ((s2.heap.push Io).push (seqObj "list" #[] 0)).get? b = some o := fun b o e => Heap.get?_push_of_some _ e
  have I5 : Inv X ((f, fo) :: pins) σ H2 { s2 with heap := (s2.heap.push Io).push (seqObj "list" #[] 0) } := I4.kept (t' := s2.toks) k2
  have gS : ((s2.heap.push Io).push (seqObj "list" #[] 0)).get? (s2.heap.push Io).objs.size = some (seqObj "list" #[] 0) := Heap.get?_push_size _ rfl
  have hne : s2.heap.objs.size ≠ (s2.heap.push Io).objs.size := by
    rw [hSsz]
    exact Nat.ne_of_lt (Nat.lt_succ_self _)
  have hit : Heap.IsListIter ((s2.heap.push Io).push (seqObj "list" #[] 0)) s2.heap.objs.size l 0 := by
    refine ⟨Io, k2 _ _ gI, ?_, ?_⟩
    · rw [← hIo]
    · rw [← hIo]
      rfl
  generalize (s2.heap.push Io).objs.size = S at fS gS hne ⊢
  generalize s2.heap.objs.size = it at fit hit hne ⊢
  generalize (s2.heap.push Io).push (seqObj "list" #[] 0) = h5 at I5 hit gS
  obtain ⟨its, rv, p, hz⟩ := I5.list hl2
  have hrl := rv.length
  rw [List.length_map] at hrl
  obtain ⟨n, hn⟩ : ∃ n, ns[0]? = some n := ⟨_, List.getElem?_eq_getElem hlen⟩
  have hxn : (ns.map V.int)[0]? = some (.int n) := by
    rw [List.getElem?_map, hn]
    rfl
  obtain ⟨u, hu', ru⟩ := rv.get hxn
  obtain ⟨f0, f1, f2, f3, f4, f5⟩ := id fit
  obtain ⟨g0, g1, g2, g3, g4, g5⟩ := id fS
  refine codeAny_builtin PySem.F.entry_min_loop ?_
  rw [Around.under_plainId PySem.F.plain_min_loop _]
  show wpAny _ X.A.in1 (seqItems? (.ref S) >>= _) _ _ _
  refine wpAny_bind (wpAny_seqItems gS rfl ?_)
  show wpAny _ X.A.in1 (tryCatch (pyNext (.ref it)) _ >>= _) _ _ _
  refine wpAny_bind (wpAny_tryCatch (wpAny_pyNext_list_item hit p.isList (x := u) (by simpa using hu') fun h' st' sb => ?_))
  have I6 : Inv X ((f, fo) :: pins) σ H2 { s2 with heap := h' } := I5.turned (t' := s2.toks) (fun b o hb e => (sb.2 b hb).trans e) f0 f1 f3 f4 f5
  have hS' : h'.get? S = some (seqObj "list" #[] 0) := (sb.2 S hne.symm).trans gS
  obtain ⟨oI, hoI, hoc, hod⟩ := id st'
  have nfp : ∀ b ∈ [it, S], FpOk X ((f, fo) :: pins) H2 b := fun b hb => by
    rcases List.mem_cons.mp hb with rfl | hb
    · exact fit
    · rw [List.mem_singleton.mp hb]
      exact fS
  have I7 := I6.pinned nfp (fun b hb => by
    rcases List.mem_cons.mp hb with rfl | hb
    · exact ⟨oI, hoI, fun v z => by rw [hod] at z; cases z⟩
    · rw [List.mem_singleton.mp hb]
      exact ⟨_, hS', fun v z => by cases z⟩)
  show wpAny _ X.A.in1 (tryCatch (holding [u] (call (.ref f) [u])) _ >>= _) _ _ _
  refine wpAny_bind (wpAny_tryCatch (wpAny_holding (wpAny_mono (turn _ H2 _ n u (List.mem_of_getElem? hn) ru I7 (ExtN.refl H2) T2) (fun x s'' he => ?_) fun _ _ hF => hF.elim)))
  obtain ⟨kv, H3, I8, rk, t, rfl, e3, ht⟩ := he
  obtain rfl : x = Value.ref t := rk
  have pI := I8.pin (it, oI) (List.mem_append_right _ (List.mem_append_right _ (mem_pinsAt (by simp) hoI)))
  have pS := I8.pin (S, seqObj "list" #[] 0) (List.mem_append_right _ (List.mem_append_right _ (mem_pinsAt (by simp) hS')))
  have I9 := I8.unpinned
  have s1 := Heap.SameBut.update s''.heap S (Obj.mapSeq fun _ => #[u, .ref t])
  obtain ⟨c2, hc2⟩ : ∃ c2, (s''.heap.update S (Obj.mapSeq fun _ => #[u, .ref t])).get? S = some (seqObj "list" #[u, .ref t] c2) := ⟨_, get?_update_seq pS.1 fun _ => #[u, .ref t]⟩
  show wpAny _ X.A.in1 (updateSeq S (fun _ => #[u, .ref t]) >>= _) _ _ _
  refine wpAny_bind ?_
  refine wpAny_updateSeq pS.1 rfl ?_
  rw [hname]
  have I10 : Inv X ((f, fo) :: pins) σ H3 { s'' with heap := s''.heap.update S (Obj.mapSeq fun _ => #[u, .ref t]) } := I9.turned (t' := s''.toks) (fun b o hb e => (s1.2 b hb).trans e) pS.2.1 g1 g3 g4 g5
  refine wpAny_pure ⟨plainId_quiet PySem.F.plain_min_loop _, min_loop_tup (T := T) (g := g) hcalm hr1.units0 hl2 turn (fun m H4 v s4 hm hb rv I' eN' hT' => ?_) _ 0 H3 _ 0 n u t c2 rfl hlen I10 ⟨oI, (s1.2 it hne).trans pI.1, hoc, hod⟩ hc2 (fp_mono fit pI.2.1) (fp_mono fS pS.2.1) hne (ExtN.of e3) (T2.ext e3) ru hn ht fun j' n' hj' hn' => ?_⟩
  · exact ⟨.int m, H4, I'.pins_of fun q hq => I'.pin q (List.mem_append_right _ (List.mem_cons_of_mem _ hq)), rv, hend m H4 hm hb (eN.trans eN') hT'⟩
  · obtain rfl : j' = 0 := by omega
    rw [hn] at hn'
    cases hn'
    rw [lex2]
    exact decide_eq_false (by omega)
end
end Mw

-- MwEv
set_option Elab.async false
set_option linter.all false
set_option maxRecDepth 100000
set_option maxHeartbeats 2000000
/-! words for lists of lists of whole numbers -/
namespace Mw
open PySem PySem.Spec PyProof.Rows L2 Evl
/-! matrices in the heap -/
def MatA (H : Hp) (as : List Addr) (L : List (List Int)) : Prop := as.length = L.length ∧ ∀ (k : Nat) (b : Addr) (c : List Int), as[k]? = some b → L[k]? = some c → H b = some (.lst (c.map V.int))
def Mat (H : Hp) (p : Addr) (L : List (List Int)) : Prop := ∃ as : List Addr, H p = some (.lst (as.map V.ref)) ∧ MatA H as L
theorem MatA.ex {H H' : Hp} {as : List Addr} {L : List (List Int)} (h : MatA H as L) (e : Ex H H') : MatA H' as L := ⟨h.1, fun k b c h1 h2 => e _ _ (h.2 k b c h1 h2)⟩
theorem Mat.ex {H H' : Hp} {p : Addr} {L : List (List Int)} (h : Mat H p L) (e : Ex H H') : Mat H' p L := by
  obtain ⟨as, h1, h2⟩ := h
  exact ⟨as, e _ _ h1, h2.ex e⟩
theorem exn_lst {H H' : Hp} {a : Addr} {xs : List V} (e : LamX.ExtN H H') (h : H a = some (.lst xs)) : H' a = some (.lst xs) := e _ _ h (fun _ z => by cases z)
theorem exn_tup {H H' : Hp} {a : Addr} {xs : List V} (e : LamX.ExtN H H') (h : H a = some (.tup xs)) : H' a = some (.tup xs) := e _ _ h (fun _ z => by cases z)
theorem MatA.exn {H H' : Hp} {as : List Addr} {L : List (List Int)} (h : MatA H as L) (e : LamX.ExtN H H') : MatA H' as L := ⟨h.1, fun k b c h1 h2 => exn_lst e (h.2 k b c h1 h2)⟩
theorem Mat.exn {H H' : Hp} {p : Addr} {L : List (List Int)} (h : Mat H p L) (e : LamX.ExtN H H') : Mat H' p L := by
  obtain ⟨as, h1, h2⟩ := h
  exact ⟨as, exn_lst e h1, h2.exn e⟩
theorem MatA.row {H : Hp} {as : List Addr} {L : List (List Int)} (h : MatA H as L) {k : Nat} (hk : k < L.length) : ∃ b, as[k]? = some b ∧ H b = some (.lst ((L.getD k []).map V.int)) := by
  have h1 : k < as.length := by rw [h.1]; exact hk
  refine ⟨as[k], List.getElem?_eq_getElem h1, ?_⟩
  rw [getD_of (List.getElem?_eq_getElem hk)]
  exact h.2 k _ _ (List.getElem?_eq_getElem h1) (List.getElem?_eq_getElem hk)
theorem refs_at {as : List Addr} {k : Nat} {b : Addr} (h : as[k]? = some b) : (as.map V.ref)[k]? = some (.ref b) := by
  rw [List.getElem?_map, h]
  rfl
theorem ints_at {c : List Int} {k : Nat} (h : k < c.length) : (c.map V.int)[k]? = some (.int (c.getD k 0)) := by
  rw [List.getElem?_map, List.getElem?_eq_getElem h, getD_of (List.getElem?_eq_getElem h)]
  rfl
/-! new objects of a kind -/
def EvN (te : TE) (σ : L2.St) (H : Hp) (P : Addr → Hp → Prop) : Prop := ∀ H1, Ex H H1 → ∀ Q : VK, (∀ p H2, H1 p = none → Ex H1 H2 → P p H2 → Q (.ref p) H2) → te σ H1 Q
abbrev EvM (te : TE) (σ : L2.St) (H : Hp) (L : List (List Int)) : Prop := EvN te σ H fun p H2 => Mat H2 p L
section
variable {K : PySem.W.Frag} {σ : L2.St} {H H' : Hp} {ta tb tc te : TE} {D : Ends} {tz tu : TS}
theorem EvN.mono {P : Addr → Hp → Prop} (e : Ex H H') (h : EvN te σ H P) : EvN te σ H' P := fun H1 a Q q => h H1 (e.trans a) Q q
theorem q_asgN {i : Nat} {P : Addr → Hp → Prop} (h : EvN te σ H P) (k : ∀ p H1, H p = none → Ex H H1 → P p H1 → tz D (σ.set i (some (.ref p))) H1) : tSeq (tAsg te (gName i)) tz D σ H := h H (Ex.refl H) _ fun p H1 hp e h1 => k p H1 hp e h1
theorem s_asgN {i : Nat} {P : Addr → Hp → Prop} (h : EvN te σ H P) (k : ∀ p H1, H p = none → Ex H H1 → P p H1 → D.nx (σ.set i (some (.ref p))) H1) : tAsg te (gName i) D σ H := h H (Ex.refl H) _ fun p H1 hp e h1 => k p H1 hp e h1
theorem s_retN {P : Addr → Hp → Prop} (h : EvN te σ H P) (k : ∀ p H1, H p = none → Ex H H1 → P p H1 → D.rt (.ref p) H1) : tRet te D σ H := h H (Ex.refl H) _ fun p H1 hp e h1 => k p H1 hp e h1
/-- L[k][i] -/
theorem ev_row {p : Addr} {L : List (List Int)} {k : Nat} (ha : Ev ta σ H (.ref p)) (hM : Mat H p L) (hb : Ev tb σ H (.int (k : Int))) (hk : k < L.length) : ∃ b, H b = some (.lst ((L.getD k []).map V.int)) ∧ Ev (tOp (rIxL K) ta tb) σ H (.ref b) := by
  obtain ⟨as, h1, h2⟩ := hM
  obtain ⟨b, hb1, hb2⟩ := h2.row hk
  exact ⟨b, hb2, ev_op ha hb (rv_ixL (sq_of h1) (atI_nat (refs_at hb1)))⟩
theorem ev_at2 {p : Addr} {L : List (List Int)} {k i : Nat} (ha : Ev ta σ H (.ref p)) (hM : Mat H p L) (hb : Ev tb σ H (.int (k : Int))) (hk : k < L.length) (hc : Ev tc σ H (.int (i : Int))) (hi : i < (L.getD k []).length) :
    Ev (tOp (rIxL K) (tOp (rIxL K) ta tb) tc) σ H (.int (at2 L k i)) := by
  obtain ⟨b, h1, h2⟩ := ev_row (K := K) ha hM hb hk
  exact ev_op h2 hc (rv_ixL (sq_of h1) (atI_nat (ints_at hi)))
theorem ev_ixI {p : Addr} {c : List Int} {i : Nat} (ha : Ev ta σ H (.ref p)) (hp : SqL K H p (c.map V.int)) (hb : Ev tb σ H (.int (i : Int))) (hi : i < c.length) : Ev (tOp (rIxL K) ta tb) σ H (.int (c.getD i 0)) :=
  ev_op ha hb (rv_ixL hp (atI_nat (ints_at hi)))
theorem ev_add {i j : Int} (ha : Ev ta σ H (.int i)) (hb : Ev tb σ H (.int j)) : Ev (tOp (rI0 fun i j => .int (i + j)) ta tb) σ H (.int (i + j)) := ev_op ha hb rv_I0
theorem ev_sub {i j : Int} (ha : Ev ta σ H (.int i)) (hb : Ev tb σ H (.int j)) : Ev (tOp (rI0 fun i j => .int (i - j)) ta tb) σ H (.int (i - j)) := ev_op ha hb rv_I0
theorem ev_mulX {i j : Int} (ha : Ev ta σ H (.int i)) (hb : Ev tb σ H (.int j)) (hc : CMulX i j) : Ev (tOp (rI CMulX fun i j => .int (i * j)) ta tb) σ H (.int (i * j)) := ev_op ha hb (rv_I hc)
theorem ev_divW {i j : Int} (ha : Ev ta σ H (.int i)) (hb : Ev tb σ H (.int j)) (hc : CDivW i j) : Ev (tOp (rI CDivW fun i j => .int (i / j)) ta tb) σ H (.int (i / j)) := ev_op ha hb (rv_I hc)
end
/-! comprehensions -/
section
variable {K : PySem.W.Frag} {J : It} {n : Nat} {G : Hp → Prop} {Y : Nat → Hp → V → Hp → Prop} {g : TG} {te : TE} {vs : List Nat} {σ : L2.St} {H1 : Hp} {Dl : Addr} {Qd : Hp → Prop}
/-- a turn that yields: the target stored, then the element -/
def Yld (g : TG) (vs : List Nat) (σ : L2.St) (x : V) (H2 H3 : Hp) (R : L2.St → Hp → Prop) : Prop := ∀ Q2 : L2.St → Hp → Prop, (∀ σ2 H4, Ex H2 H4 → wipe σ2 vs = wipe σ vs → R σ2 H4 → Q2 σ2 H4) → g x (wipe σ vs) H3 Q2
theorem lc_ints (w : Walk J n G Y) (hG : ∀ H', Ex H1 H' → G H') (hD : H1 Dl = none) (rs : List Int) (hl : rs.length = n) (hz : n ≤ 40000)
    (ht : ∀ (i : Nat) (x : V) (H2 H3 : Hp) (r : Int), Ex H1 H2 → Y i H2 x H3 → rs[i]? = some r → Yld g vs σ x H2 H3 fun σ2 H4 => Ev te σ2 H4 (.int r))
    (hq : ∀ H', Ex H1 H' → H' Dl = some (.lst (rs.map V.int)) → Qd H') :
    ∃ W : Nat → Nat → Hp → Prop, (∃ m, W 0 m (upd H1 Dl (.lst []))) ∧ ∀ i m H, W i m H →
      (J.stop i H ∧ Qd H) ∨ (J.go i H ∧ ∃ Nx : Hp → Prop, (∀ H', Nx H' → ∃ m', m' < m ∧ W (i + 1) m' H') ∧ ∀ x H', J.yld i H x H' → g x (wipe σ vs) H' fun σ2 H2 => wipe σ2 vs = wipe σ vs ∧ tYes σ2 H2 fun b H3 =>
        if b = true then te σ2 H3 fun y H4 => ∃ acc, H4 Dl = some (.lst acc) ∧ acc.length < sizeLine ∧ Nx (upd H4 Dl (.lst (acc ++ [y]))) else Nx H3) := by
  refine lc_it w (fun i H' => Ex H1 H' ∧ H' Dl = some (.lst ((rs.take i).map V.int))) ⟨Ex.new hD, upd_same⟩ (fun i H' _ p => hG H' p.1) (fun i x H2 H3 hi p y => ?_) (fun H' p => hq H' p.1 (by
    have := p.2
    rw [← hl, List.take_length] at this
    exact this))
  obtain ⟨p1, p2⟩ := p
  have hr : rs[i]? = some rs[i] := List.getElem?_eq_getElem (by omega)
  refine ht i x H2 H3 _ p1 y hr _ fun σ2 H4 e4 hw he => ⟨hw, ?_⟩
  show te σ2 H4 fun y H4 => _
  refine he H4 (Ex.refl H4) _ fun H5 e5 => ⟨_, e5 _ _ (e4 _ _ p2), ?_, ?_, ?_⟩
  · rw [List.length_map, List.length_take]
    exact Nat.lt_of_le_of_lt (Nat.min_le_left _ _) (sz_lt (by omega))
  · exact Ex.mut ((p1.trans e4).trans e5) hD
  · rw [upd_same, List.take_add_one, hr, List.map_append]
    rfl
theorem lc_rows (w : Walk J n G Y) (hG : ∀ H', Ex H1 H' → G H') (hD : H1 Dl = none) (L : List (List Int)) (hl : L.length = n) (hz : n ≤ 40000)
    (ht : ∀ (i : Nat) (x : V) (H2 H3 : Hp) (c : List Int), Ex H1 H2 → Y i H2 x H3 → L[i]? = some c → Yld g vs σ x H2 H3 fun σ2 H4 => EvL te σ2 H4 (c.map V.int))
    (hq : ∀ H', Ex H1 H' → Mat H' Dl L → Qd H') :
    ∃ W : Nat → Nat → Hp → Prop, (∃ m, W 0 m (upd H1 Dl (.lst []))) ∧ ∀ i m H, W i m H →
      (J.stop i H ∧ Qd H) ∨ (J.go i H ∧ ∃ Nx : Hp → Prop, (∀ H', Nx H' → ∃ m', m' < m ∧ W (i + 1) m' H') ∧ ∀ x H', J.yld i H x H' → g x (wipe σ vs) H' fun σ2 H2 => wipe σ2 vs = wipe σ vs ∧ tYes σ2 H2 fun b H3 =>
        if b = true then te σ2 H3 fun y H4 => ∃ acc, H4 Dl = some (.lst acc) ∧ acc.length < sizeLine ∧ Nx (upd H4 Dl (.lst (acc ++ [y]))) else Nx H3) := by
  refine lc_it w (fun i H' => Ex H1 H' ∧ ∃ as : List Addr, H' Dl = some (.lst (as.map V.ref)) ∧ as.length = i ∧ ∀ (k : Nat) (b : Addr) (c : List Int), as[k]? = some b → L[k]? = some c → b ≠ Dl ∧ H' b = some (.lst (c.map V.int)))
    ⟨Ex.new hD, [], upd_same, rfl, fun k b c h _ => by simp at h⟩ (fun i H' _ p => hG H' p.1) (fun i x H2 H3 hi p y => ?_) (fun H' p => ?_)
  · obtain ⟨p1, as, p2, p3, p4⟩ := p
    have hr : L[i]? = some L[i] := List.getElem?_eq_getElem (by omega)
    refine ht i x H2 H3 _ p1 y hr _ fun σ2 H4 e4 hw he => ⟨hw, ?_⟩
    show te σ2 H4 fun y H4 => _
    refine he H4 (Ex.refl H4) _ fun q H5 hq0 e5 hq5 => ⟨_, e5 _ _ (e4 _ _ p2), ?_, ?_, as ++ [q], ?_, ?_, fun k b c h1 h2 => ?_⟩
    · rw [List.length_map]
      exact sz_lt (by omega)
    · exact Ex.mut ((p1.trans e4).trans e5) hD
    · rw [upd_same, List.map_append]
      rfl
    · rw [List.length_append, p3]
      rfl
    · have hqD : q ≠ Dl := fun z => by
        rw [z, e4 _ _ p2] at hq0
        cases hq0
      by_cases hk : k < as.length
      · rw [List.getElem?_append_left hk] at h1
        obtain ⟨n1, n2⟩ := p4 k b c h1 h2
        exact ⟨n1, by rw [upd_ne n1]; exact e5 _ _ (e4 _ _ n2)⟩
      · have ek : k = as.length := by
          have := (List.getElem?_eq_some_iff.mp h1).1
          rw [List.length_append] at this
          simp at this
          omega
        subst ek
        rw [List.getElem?_append_right (Nat.le_refl _), Nat.sub_self] at h1
        have eb : q = b := by simpa using h1
        subst eb
        rw [p3, hr] at h2
        cases h2
        exact ⟨hqD, by rw [upd_ne hqD]; exact hq5⟩
  · obtain ⟨p1, as, p2, p3, p4⟩ := p
    exact hq H' p1 ⟨as, p2, p3.trans hl.symm, fun k b c h1 h2 => (p4 k b c h1 h2).2⟩
/-! .. over a list, a range, two lists -/
variable {H : Hp} {ta : TA} {tl : TE} {j : Nat}
/-- a name as the target -/
theorem yld_name {x : V} {H2 : Hp} {R : L2.St → Hp → Prop} (hw : ∀ x, wipe ((wipe σ vs).set j (some x)) vs = wipe σ vs) (hr : R ((wipe σ vs).set j (some x)) H2) : Yld (gName j) vs σ x H2 H2 R := fun Q2 q => q _ H2 (Ex.refl H2) (hw x) hr
theorem el_lcLi {a : Addr} {xs : List V} (rs : List Int) (h : Ev tl σ H (.ref a)) (hx : SqL K H a xs) (hl : rs.length = xs.length) (hz : xs.length ≤ 40000) (hw : ∀ x, wipe ((wipe σ vs).set j (some x)) vs = wipe σ vs)
    (he : ∀ (i : Nat) (x : V) (r : Int) H1, Ex H H1 → xs[i]? = some x → rs[i]? = some r → Ev te ((wipe σ vs).set j (some x)) H1 (.int r)) : EvL (tLc (iList K tl) (gName j) tYes te vs) σ H (rs.map V.int) := fun H0 e Q q => h H0 e _ fun H1 e1 =>
  ⟨a, rfl, ⟨xs, ex_l (e.trans e1) hx⟩, fun Dl hD => lc_ints (walk_list (K := K) (a := a) (xs := xs)) (fun H' e' => ex_l ((e.trans e1).trans e') hx) hD rs hl hz
    (fun i x H2 H3 r e2 y hr => by
      obtain ⟨rfl, hy⟩ := y
      exact yld_name hw (he i x r _ ((e.trans e1).trans e2) hy hr)) fun H' e' h' => q Dl H' (fresh_back e1 hD) (e1.trans e') h'⟩
theorem em_lcL {a : Addr} {xs : List V} (L : List (List Int)) (h : Ev tl σ H (.ref a)) (hx : SqL K H a xs) (hl : L.length = xs.length) (hz : xs.length ≤ 40000) (hw : ∀ x, wipe ((wipe σ vs).set j (some x)) vs = wipe σ vs)
    (he : ∀ (i : Nat) (x : V) (c : List Int) H1, Ex H H1 → xs[i]? = some x → L[i]? = some c → EvL te ((wipe σ vs).set j (some x)) H1 (c.map V.int)) : EvM (tLc (iList K tl) (gName j) tYes te vs) σ H L := fun H0 e Q q => h H0 e _ fun H1 e1 =>
  ⟨a, rfl, ⟨xs, ex_l (e.trans e1) hx⟩, fun Dl hD => lc_rows (walk_list (K := K) (a := a) (xs := xs)) (fun H' e' => ex_l ((e.trans e1).trans e') hx) hD L hl hz
    (fun i x H2 H3 r e2 y hr => by
      obtain ⟨rfl, hy⟩ := y
      exact yld_name hw (he i x r _ ((e.trans e1).trans e2) hy hr)) fun H' e' h' => q Dl H' (fresh_back e1 hD) (e1.trans e') h'⟩
theorem el_lcRi {n : Nat} (rs : List Int) (h : EvA ta σ H [.int (n : Int)]) (hl : rs.length = n) (hz : n ≤ 40000) (hw : ∀ x, wipe ((wipe σ vs).set j (some x)) vs = wipe σ vs)
    (he : ∀ (i : Nat) (r : Int) H1, Ex H H1 → i < n → rs[i]? = some r → Ev te ((wipe σ vs).set j (some (.int (i : Int)))) H1 (.int r)) : EvL (tLc (iRng1 ta) (gName j) tYes te vs) σ H (rs.map V.int) := fun H0 e Q q => h H0 e _ fun H1 e1 =>
  ⟨n, rfl, by omega, by omega, fun Dl hD => lc_ints (by rw [Int.toNat_natCast]; exact walk_range (lo := 0) (n := n)) (fun H' e' => True.intro) hD rs hl hz
    (fun i x H2 H3 r e2 y hr => by
      obtain ⟨rfl, rfl⟩ := y
      have hi := (List.getElem?_eq_some_iff.mp hr).1
      have e0 : (0 : Int) + (i : Int) = (i : Int) := Int.zero_add _
      show Yld (gName j) vs σ (V.int ((0 : Int) + (i : Int))) H3 H3 _
      rw [e0]
      exact yld_name hw (he i r _ ((e.trans e1).trans e2) (by omega) hr)) fun H' e' h' => q Dl H' (fresh_back e1 hD) (e1.trans e') h'⟩
theorem em_lcR {n : Nat} (L : List (List Int)) (h : EvA ta σ H [.int (n : Int)]) (hl : L.length = n) (hz : n ≤ 40000) (hw : ∀ x, wipe ((wipe σ vs).set j (some x)) vs = wipe σ vs)
    (he : ∀ (i : Nat) (c : List Int) H1, Ex H H1 → i < n → L[i]? = some c → EvL te ((wipe σ vs).set j (some (.int (i : Int)))) H1 (c.map V.int)) : EvM (tLc (iRng1 ta) (gName j) tYes te vs) σ H L := fun H0 e Q q => h H0 e _ fun H1 e1 =>
  ⟨n, rfl, by omega, by omega, fun Dl hD => lc_rows (by rw [Int.toNat_natCast]; exact walk_range (lo := 0) (n := n)) (fun H' e' => True.intro) hD L hl hz
    (fun i x H2 H3 r e2 y hr => by
      obtain ⟨rfl, rfl⟩ := y
      have hi := (List.getElem?_eq_some_iff.mp hr).1
      have e0 : (0 : Int) + (i : Int) = (i : Int) := Int.zero_add _
      show Yld (gName j) vs σ (V.int ((0 : Int) + (i : Int))) H3 H3 _
      rw [e0]
      exact yld_name hw (he i r _ ((e.trans e1).trans e2) (by omega) hr)) fun H' e' h' => q Dl H' (fresh_back e1 hD) (e1.trans e') h'⟩
/-- two names as the target -/
abbrev g2 (K : PySem.W.Frag) (i j : Nat) : TG := gTup K 2 (gCons (gName i) (gCons (gName j) gNil))
theorem el_lcZ {i j : Nat} {a b : Addr} {xs ys : List V} (rs : List Int) (h : EvA ta σ H [.ref a, .ref b]) (hx : SqL K H a xs) (hy : SqL K H b ys) (hl : rs.length = min xs.length ys.length) (hz : rs.length ≤ 40000) (hw : ∀ x y, wipe (((wipe σ vs).set i (some x)).set j (some y)) vs = wipe σ vs)
    (he : ∀ (k : Nat) (x y : V) (r : Int) H1, Ex H H1 → xs[k]? = some x → ys[k]? = some y → rs[k]? = some r → Ev te (((wipe σ vs).set i (some x)).set j (some y)) H1 (.int r)) : EvL (tLc (iZip K ta) (g2 K i j) tYes te vs) σ H (rs.map V.int) := fun H0 e Q q => h H0 e _ fun H1 e1 =>
  ⟨a, b, xs, ys, rfl, ex_l (e.trans e1) hx, ex_l (e.trans e1) hy, fun Dl hD => lc_ints (walk_zip (K := K) (a := a) (b := b) (xs := xs) (ys := ys) rfl) (fun H' e' => ⟨ex_l ((e.trans e1).trans e') hx, ex_l ((e.trans e1).trans e') hy⟩) hD rs hl (by omega)
    (fun k v H2 H3 r e2 y hr => by
      obtain ⟨T, x, z, rfl, hT, rfl, h1, h2⟩ := y
      intro Q2 q2
      have e3 : Ex H2 (upd H2 T (.tup [x, z])) := Ex.new hT
      exact ⟨T, [x, z], rfl, st_of upd_same, rfl, x, [z], rfl, z, [], rfl, rfl, q2 _ _ e3 (hw x z) (he k x z r _ (((e.trans e1).trans e2).trans e3) h1 h2 hr)⟩) fun H' e' h' => q Dl H' (fresh_back e1 hD) (e1.trans e') h'⟩
end
end Mw

-- MwD1
set_option Elab.async false
set_option linter.all false
set_option maxRecDepth 100000
set_option maxHeartbeats 2000000
namespace Mw
open PySem PySem.Spec PyProof.Rows L2 Evl
def topS (i : Nat) : Stmt := PySem.Challenge.pw_measurewise_k11_whole_open_and_put_in.main.body.getD i (.Pass ⟨0, 0, 0, 0⟩)
abbrev sAdded : Stmt := topS 1
theorem scAdded : FnScope ["one", "other", "often", "here", "there"] ["one", "other", "often"] (defScope sAdded) := ⟨rfl, rfl, rfl, by decide +kernel, rfl, by decide +kernel, by decide +kernel⟩
section
variable {P : Program} {w : World} {K : PySem.W.Frag} {mg : Str → Option Value} {base : Heap}
def spAdded (K : PySem.W.Frag) : Sp := fun vs H Q _ => ∃ (a b : Addr) (xs ys : List Int) (q : Int), vs = [.ref a, .ref b, .int q] ∧ SqL K H a (xs.map V.int) ∧ SqL K H b (ys.map V.int) ∧ xs.length ≤ 1000 ∧ (∀ i, i < xs.length → CMulX q (ys.getD i 0)) ∧ RetL ((vadd xs ys q).map V.int) H Q
theorem ok_added {f : Addr} {fd : FuncData} {k : Nat} (F : Fun K "added" "added" sAdded f fd) (mz : mg "zip" = none) : FnOk P w K mg base CX0 (k + 1) f fd ["one", "other", "often"] (spAdded K) := by
  refine F.ok scAdded (fun vs H Q E h => ?_) (fun cdv A outer s H vs Q E hr h => ?_)
  · obtain ⟨a, b, xs, ys, q, rfl, _⟩ := h
    rfl
  · obtain ⟨a, b, xs, ys, q, rfl, hx, hy, hz, hm, hq⟩ := h
    refine ⟨_, pss_one (ps_ret (pe_lc (own := [("here", 3), ("there", 4)]) (g := g2 K 3 4) (tt := tYes) rfl scAdded.nd (pi_zip (by rfl) mz (pa_cons (pv 0) (pa_cons (pv 1) pa_nil))) (blkOk_by (by kernel_rfl))
      (fun _ _ _ _ _ => pg_tup rfl (pgs_cons (pg_name (i := 3) scAdded.nd rfl (.inl rfl)) (pgs_cons (pg_name (i := 4) scAdded.nd rfl (.inl rfl)) pgs_nil))) (fun _ _ _ _ _ => pts_nil)
      (fun _ _ _ _ _ => pe_op op_add (pv 3) (pe_op op_mulX (pv 2) (pv 4))))), ?_⟩
    refine s_retL (el_lcZ (K := K) (i := 3) (j := 4) (vadd xs ys q) (ea_cons (ev_var rfl) (ea_cons (ev_var rfl) ea_nil)) hx hy ?_ ?_ (fun x y => rfl) (fun k x y r H1 e1 h1 h2 h3 => ?_)) hq
    · unfold vadd
      rw [List.length_zipWith, List.length_map, List.length_map]
    · unfold vadd
      rw [List.length_zipWith]
      omega
    · unfold vadd at h3
      rw [List.getElem?_zipWith] at h3
      rw [List.getElem?_map] at h1 h2
      cases ex : xs[k]? with
      | none => rw [ex] at h1; cases h1
      | some x' =>
        cases ey : ys[k]? with
        | none => rw [ey] at h2; cases h2
        | some y' =>
          rw [ex] at h1 h3
          rw [ey] at h2 h3
          cases h1
          cases h2
          cases h3
          have := hm k (List.getElem?_eq_some_iff.mp ex).1
          rw [getD_of ey] at this
          exact ev_add (ev_var rfl) (ev_mulX (ev_var rfl) (ev_var rfl) this)
end
end Mw

-- MwDat
set_option Elab.async false
set_option linter.all false
set_option maxRecDepth 100000
set_option maxHeartbeats 2000000
/-! lists of lists as data, for == -/
namespace Mw
open PySem PySem.Spec PyProof.Rows L2 Evl
abbrev dI (ns : List Int) : PyData := .list (ns.map PyData.int)
abbrev dM (L : List (List Int)) : PyData := .list (L.map dI)
section
variable {K : PySem.W.Frag} {H : Hp}
theorem dp_ints : ∀ ns : List Int, DpAll K H (ns.map V.int) (ns.map PyData.int)
  | [] => .nil
  | n :: r => .cons (.int n) (dp_ints r)
theorem dp_dI {p : Addr} {ns : List Int} (h : SqL K H p (ns.map V.int)) : Dp K H (.ref p) (dI ns) := .lst h (dp_ints ns)
theorem dp_rows : ∀ (as : List Addr) (L : List (List Int)), MatA H as L → DpAll K H (as.map V.ref) (L.map dI)
  | [], [], _ => .nil
  | [], c :: r, h => by
    have := h.1
    simp at this
  | b :: as, [], h => by
    have := h.1
    simp at this
  | b :: as, c :: r, h => .cons (dp_dI (sq_of (h.2 0 b c rfl rfl))) (dp_rows as r ⟨by have := h.1; simpa using this, fun k b' c' h1 h2 => h.2 (k + 1) b' c' (by simpa using h1) (by simpa using h2)⟩)
theorem dp_dM {p : Addr} {L : List (List Int)} (h : Mat H p L) : Dp K H (.ref p) (dM L) := by
  obtain ⟨as, h1, h2⟩ := h
  exact .lst (sq_of h1) (dp_rows as L h2)
end
theorem can_ints : ∀ ns : List Int, PyData.canLayAll0 (ns.map PyData.int) = true ∧ PyData.depthAll (ns.map PyData.int) = 0
  | [] => ⟨by simp [PyData.canLayAll0], by simp [PyData.depthAll]⟩
  | n :: r => by
    obtain ⟨h1, h2⟩ := can_ints r
    refine ⟨?_, ?_⟩
    · rw [List.map_cons]
      simp [PyData.canLayAll0, PyData.canLay0, h1]
    · rw [List.map_cons]
      simp [PyData.depthAll, PyData.depth, h2]
theorem can_dI (ns : List Int) : PyData.canLay0 (dI ns) = true ∧ PyData.depth (dI ns) = 1 := by
  obtain ⟨h1, h2⟩ := can_ints ns
  exact ⟨by simp [PyData.canLay0, h1], by simp [PyData.depth, h2]⟩
theorem can_rows : ∀ L : List (List Int), PyData.canLayAll0 (L.map dI) = true ∧ PyData.depthAll (L.map dI) ≤ 1
  | [] => ⟨by simp [PyData.canLayAll0], by simp [PyData.depthAll]⟩
  | c :: r => by
    obtain ⟨h1, h2⟩ := can_rows r
    obtain ⟨h3, h4⟩ := can_dI c
    refine ⟨?_, ?_⟩
    · rw [List.map_cons, PyData.canLayAll0, h1, h3]
      rfl
    · rw [List.map_cons, PyData.depthAll, h4]
      omega
theorem can_dM (L : List (List Int)) : PyData.canLay0 (dM L) = true ∧ PyData.depth (dM L) ≤ 2 := by
  obtain ⟨h1, h2⟩ := can_rows L
  exact ⟨by rw [dM, PyData.canLay0, h1], by rw [dM, PyData.depth]; omega⟩
theorem sh_dI (ns : List Int) : SeqAt.shaped (dI ns) = true := by
  obtain ⟨h1, h2⟩ := can_dI ns
  unfold SeqAt.shaped
  rw [h1, h2]
  rfl
theorem sh_dM (L : List (List Int)) : SeqAt.shaped (dM L) = true := by
  obtain ⟨h1, h2⟩ := can_dM L
  unfold SeqAt.shaped
  rw [h1, decide_eq_true (show PyData.depth (dM L) ≤ 64 by omega)]
  rfl
theorem sh_tup (r : Int) (L : List (List Int)) : SeqAt.shaped (.tuple [.int r, dM L]) = true := by
  obtain ⟨h1, h2⟩ := can_dM L
  have e1 : PyData.canLay0 (.tuple [.int r, dM L]) = true := by
    rw [PyData.canLay0, PyData.canLayAll0, PyData.canLayAll0, PyData.canLayAll0, h1, PyData.canLay0]
    rfl
  have e2 : PyData.depth (.tuple [.int r, dM L]) ≤ 64 := by
    have e3 : PyData.depth (.int r) = 0 := by simp [PyData.depth]
    have e4 : PyData.depth (.tuple [.int r, dM L]) = max (PyData.depth (.int r)) (max (PyData.depth (dM L)) 0) + 1 := rfl
    rw [e4, e3]
    omega
  unfold SeqAt.shaped
  rw [e1, decide_eq_true e2]
  rfl
theorem eqv_nilI (ns : List Int) : PyData.eqv (dI ns) (dI []) = decide (ns = []) := by
  cases ns with
  | nil => simp [PyData.eqv, PyData.eqvAll]
  | cons n r => simp [PyData.eqv, PyData.eqvAll]
theorem eqv_nilM (L : List (List Int)) : PyData.eqv (dM L) (dI []) = decide (L = []) := by
  cases L with
  | nil => simp [PyData.eqv, PyData.eqvAll]
  | cons n r => simp [PyData.eqv, PyData.eqvAll]
theorem eqv_ints : ∀ ns : List Int, PyData.eqvAll (ns.map PyData.int) (ns.map PyData.int) = true
  | [] => by simp [PyData.eqvAll]
  | n :: r => by
    rw [List.map_cons, PyData.eqvAll, eqv_ints r, PyData.eqv]
    simp
theorem eqv_dI (ns : List Int) : PyData.eqv (dI ns) (dI ns) = true := by rw [dI, PyData.eqv, eqv_ints]
theorem eqv_rows : ∀ L : List (List Int), PyData.eqvAll (L.map dI) (L.map dI) = true
  | [] => by simp [PyData.eqvAll]
  | n :: r => by
    rw [List.map_cons, PyData.eqvAll, eqv_rows r, eqv_dI]
    rfl
theorem eqv_dM (L : List (List Int)) : PyData.eqv (dM L) (dM L) = true := by rw [dM, PyData.eqv, eqv_rows]
theorem eqv_tup (r : Int) (L : List (List Int)) : PyData.eqv (.tuple [.int r, dM L]) (.tuple [.int r, dM L]) = true := by
  rw [PyData.eqv, PyData.eqvAll, PyData.eqvAll, PyData.eqvAll, eqv_dM, PyData.eqv]
  simp
section
variable {K : PySem.W.Frag} {σ : L2.St} {H : Hp} {ta tb : TE}
/-- ns == [] -/
theorem rv_eqI {p : Addr} {ns : List Int} (h : SqL K H p (ns.map V.int)) {q : Addr} (hq : SqL K H q []) : RV (rEqD K) (.ref p) (.ref q) H (.bl (decide (ns = []))) := fun H1 e Q k =>
  ⟨dI ns, dI [], dp_dI (ex_l e h), dp_dI (ns := []) (ex_l e hq), sh_dI ns, sh_dI [], by rw [eqv_nilI]; exact k H1 (Ex.refl H1)⟩
theorem rv_neM {p : Addr} {L : List (List Int)} (h : Mat H p L) {q : Addr} (hq : SqL K H q []) : RV (rNeD K) (.ref p) (.ref q) H (.bl (!decide (L = []))) := fun H1 e Q k =>
  ⟨dM L, dI [], dp_dM (h.ex e), dp_dI (ns := []) (ex_l e hq), sh_dM L, sh_dI [], by rw [eqv_nilM]; exact k H1 (Ex.refl H1)⟩
end
end Mw

-- MwD2
set_option Elab.async false
set_option linter.all false
set_option maxRecDepth 100000
set_option maxHeartbeats 4000000
namespace Mw
open PySem PySem.Spec PyProof.Rows L2 Evl LamX
abbrev sMs : Stmt := topS 2
theorem scMs : FnScope ["columns", "first", "row", "k", "some", "least", "number"] ["columns", "first", "row"] (defScope sMs) := ⟨rfl, rfl, rfl, by decide +kernel, rfl, by decide +kernel, by decide +kernel⟩
/-- all but the tables and the list at a stay -/
def ExA (a : Addr) (H H' : Hp) : Prop := ∀ b o, b ≠ a → H b = some o → (∀ ps, o ≠ .tbl ps) → H' b = some o
theorem ExA.refl (a : Addr) (H : Hp) : ExA a H H := fun _ _ _ h _ => h
theorem ExA.trans {a : Addr} {H H1 H2 : Hp} (x : ExA a H H1) (y : ExA a H1 H2) : ExA a H H2 := fun b o n h t => y b o n (x b o n h t) t
theorem ExA.ex {a : Addr} {H H1 H2 : Hp} (x : ExA a H H1) (y : Ex H1 H2) : ExA a H H2 := fun b o n h t => y b o (x b o n h t)
theorem ExA.exn {a : Addr} {H H1 H2 : Hp} (x : ExA a H H1) (y : ExtN H1 H2) : ExA a H H2 := fun b o n h t => y b o (x b o n h t) t
theorem ExA.upd {a : Addr} {H H1 : Hp} {o : HO} (x : ExA a H H1) : ExA a H (upd H1 a o) := fun b u n h t => by
  rw [upd_ne n]
  exact x b u n h t
theorem Tabs.updA {T : List (Addr × Str)} {H : Hp} {a : Addr} {xs ys : List V} (hT : Tabs T H) (h : H a = some (.lst xs)) : Tabs T (upd H a (.lst ys)) := fun p hp => by
  obtain ⟨ps, h1, h2, h3⟩ := hT p hp
  refine ⟨ps, by rw [upd_ne (ne_of h1 h (fun z => by cases z))]; exact h1, h2, fun pos cv hc => ?_⟩
  obtain ⟨c, e1, e2⟩ := h3 pos cv hc
  exact ⟨c, e1, by rw [upd_ne (ne_of e2 h (fun z => by unfold CodeO at z; cases z))]; exact e2⟩
/-- a row of refs is no row of whole numbers -/
theorem ref_ne {H : Hp} {a b : Addr} {as : List Addr} {c : List Int} (ha : H a = some (.lst (as.map V.ref))) (hb : H b = some (.lst (c.map V.int))) (hn : 0 < as.length) : b ≠ a := fun z => by
  rw [z, ha] at hb
  have e : as.map V.ref = c.map V.int := HO.lst.inj (Option.some.inj hb)
  cases as with
  | nil => simp at hn
  | cons x r =>
    cases c with
    | nil => simp at e
    | cons y r' =>
      rw [List.map_cons, List.map_cons] at e
      injection e with e1 _
      cases e1
theorem mat_set {H : Hp} {a b : Addr} {as : List Addr} {L : List (List Int)} {c : List Int} {k : Nat} (h1 : H a = some (.lst (as.map V.ref))) (h2 : MatA H as L) (hb : H b = some (.lst (c.map V.int))) (hk : k < L.length) :
    MatA (upd H a (.lst ((as.map V.ref).set k (.ref b)))) (as.set k b) (L.set k c) := by
  have hn : 0 < as.length := by rw [h2.1]; omega
  refine ⟨by rw [List.length_set, List.length_set]; exact h2.1, fun j b' c' e1 e2 => ?_⟩
  by_cases hj : k = j
  · subst hj
    rw [List.getElem?_set_self (by rw [h2.1]; exact hk)] at e1
    rw [List.getElem?_set_self hk] at e2
    cases e1
    cases e2
    rw [upd_ne (ref_ne h1 hb hn)]
    exact hb
  · rw [List.getElem?_set_ne hj] at e1 e2
    have q := h2.2 j b' c' e1 e2
    rw [upd_ne (ref_ne h1 q hn)]
    exact q
theorem mat_at {H : Hp} {a b : Addr} {as : List Addr} {k : Nat} : (upd H a (.lst ((as.map V.ref).set k (.ref b)))) a = some (.lst ((as.set k b).map V.ref)) := by
  rw [upd_same, List.map_set]
abbrev msQ : Str := ("made_single" : Str) ++ ".<locals>." ++ "<lambda>"
abbrev tIx (K : PySem.W.Frag) (a b : TE) : TE := tOp (rIxL K) a b
def tKey (K : PySem.W.Frag) : TE := tTup (tCons (tCB (fun xs H Q => ∃ i, xs = [.int i] ∧ Q (.int (if i < 0 then -i else i)) H) (tCons (tOp (rIxL K) (tOp (rIxL K) (tVar 0) (tVar 3)) (tVar 2)) tNil)) (tCons (tVar 3) tNil))
def T1 (Pt : Addr) : List (Addr × Str) := [(Pt, msQ)]
/-- b holds no list in H -/
def New (H : Hp) (b : Addr) : Prop := ∀ xs, H b ≠ some (.lst xs)
/-- .. the rows' places told of by R -/
def MatP (H : Hp) (p : Addr) (L : List (List Int)) (R : Addr → Prop) : Prop := ∃ as : List Addr, H p = some (.lst (as.map V.ref)) ∧ MatA H as L ∧ ∀ b, b ∈ as → R b
theorem MatP.mat {H : Hp} {p : Addr} {L : List (List Int)} {R : Addr → Prop} (h : MatP H p L R) : Mat H p L := by
  obtain ⟨as, h1, h2, _⟩ := h
  exact ⟨as, h1, h2⟩
theorem MatP.ex {H H' : Hp} {p : Addr} {L : List (List Int)} {R : Addr → Prop} (h : MatP H p L R) (e : Ex H H') : MatP H' p L R := by
  obtain ⟨as, h1, h2, h3⟩ := h
  exact ⟨as, e _ _ h1, h2.ex e, h3⟩
theorem MatP.exn {H H' : Hp} {p : Addr} {L : List (List Int)} {R : Addr → Prop} (h : MatP H p L R) (e : ExtN H H') : MatP H' p L R := by
  obtain ⟨as, h1, h2, h3⟩ := h
  exact ⟨as, exn_lst e h1, h2.exn e, h3⟩
theorem new_of {a q : Addr} {H H1 : Hp} {o : HO} (x : ExA a H H1) (ha : H1 a = some o) (hq : H1 q = none) : New H q := fun xs z => by
  have hn : q ≠ a := fun e => by
    rw [e, ha] at hq
    cases hq
  rw [x q _ hn z (fun _ e => by cases e)] at hq
  cases hq
theorem all_set {as : List Addr} {k : Nat} {b : Addr} {R : Addr → Prop} (h : ∀ b, b ∈ as → R b) (hb : R b) : ∀ c, c ∈ as.set k b → R c := fun c hc => by
  rcases List.mem_or_eq_of_mem_set hc with z | z
  · exact h c z
  · rw [z]
    exact hb
/-! the numbers of the row that are not 0 -/
def nsL (L : List (List Int)) (first row : Nat) : List Int := ((List.range (L.length - first)).filter fun i => !decide (at2 L (first + i) row = 0)).map fun (i : Nat) => (first : Int) + (i : Int)
theorem mem_ns {L : List (List Int)} {first row : Nat} {x : Int} : x ∈ nsL L first row ↔ ∃ k, first ≤ k ∧ k < L.length ∧ at2 L k row ≠ 0 ∧ x = (k : Int) := by
  unfold nsL
  rw [List.mem_map]
  refine ⟨fun ⟨i, hi, e⟩ => ?_, fun ⟨k, h1, h2, h3, e⟩ => ⟨k - first, ?_, ?_⟩⟩
  · obtain ⟨h1, h2⟩ := List.mem_filter.mp hi
    rw [List.mem_range] at h1
    refine ⟨first + i, by omega, by omega, fun z => ?_, by omega⟩
    rw [decide_eq_true z] at h2
    cases h2
  · refine List.mem_filter.mpr ⟨List.mem_range.mpr (by omega), ?_⟩
    rw [show first + (k - first) = k by omega, decide_eq_false h3]
    rfl
  · omega
theorem ns_nodup (L : List (List Int)) (first row : Nat) : (nsL L first row).Nodup := by
  unfold nsL
  refine (List.nodup_range.filter _).map (fun (i : Nat) => (first : Int) + (i : Int)) ?_
  intro a b hab z
  exact hab (by omega)
theorem one_of {l : List Int} (hn : l.Nodup) (h1 : l.length = 1) {x y : Int} (hx : x ∈ l) (hy : y ∈ l) : x = y := by
  match l, h1 with
  | [a], _ =>
    rw [List.mem_singleton] at hx hy
    rw [hx, hy]
theorem more_of {l : List Int} (hn : l.Nodup) {x : Int} (hx : x ∈ l) (h1 : l.length ≠ 1) : ∃ y, y ∈ l ∧ y ≠ x := by
  match l, hx, h1, hn with
  | [a], _, h, _ => exact absurd rfl h
  | a :: b :: r, hx, _, hn =>
    by_cases z : a = x
    · refine ⟨b, by simp, fun e => ?_⟩
      rw [← z] at e
      rw [List.nodup_cons] at hn
      exact hn.1 (by simp [e])
    · exact ⟨a, by simp, z⟩
theorem ms_round {L0 L1 L2 L3 : List (List Int)} {first row M m l : Nat} (h : Ph L0 L1 first row M m) (lo : LowAt L1 first row l) (more : ∃ k, first ≤ k ∧ k < L1.length ∧ k ≠ l ∧ at2 L1 k row ≠ 0) (hs : Sw L1 L2 first row l) (hr : Rd L2 L3 first row) : ∃ m', m' < m ∧ Ph L0 L3 first row M m' := by
  rcases h with ⟨e, em, hb⟩ | ⟨W, p, B⟩ | ⟨F, _⟩
  · have two : first + 1 < L1.length := by
      obtain ⟨k, a, b, c, _⟩ := more
      have := lo.fl
      have := lo.ll
      omega
    rw [← e] at hb
    obtain ⟨n, W, p, hn, B⟩ := round_A two hb lo hs hr
    exact ⟨n, by omega, .inr (.inl ⟨W, p, B⟩)⟩
  · rcases round_B B lo more hs hr with ⟨n, W', p', hn, B'⟩ | F
    · exact ⟨n, hn, .inr (.inl ⟨W', p', B'⟩)⟩
    · exact ⟨0, by have := B.pos; have := B.pm; omega, .inr (.inr ⟨F, rfl⟩)⟩
  · obtain ⟨k, a, b, c, d⟩ := more
    have e1 : k = first := by
      by_cases z : k = first
      · exact z
      · exact absurd (F.oth k (by omega) b) d
    have e2 : l = first := by
      by_cases z : l = first
      · exact z
      · exact absurd (F.oth l (by have := lo.fl; omega) lo.ll) lo.ne
    exact absurd (e1.trans e2.symm) c
/-- part of the inner loop -/
structure Prt (L2 L3 : List (List Int)) (first row k0 : Nat) : Prop where
  same : ∀ k, (k ≤ first ∨ k0 ≤ k) → L3.getD k [] = L2.getD k []
  red : ∀ k, first < k → k < k0 → ∀ i, at2 L3 k i = at2 L2 k i - at2 L2 k row / at2 L2 first row * at2 L2 first i
theorem prt_end {L2 L3 : List (List Int)} {first row : Nat} (h : Prt L2 L3 first row L2.length) (hl : L3.length = L2.length) : Rd L2 L3 first row :=
  ⟨hl, fun i => by unfold at2; rw [h.same first (.inl (Nat.le_refl _))], fun k h1 h2 i => h.red k h1 h2 i⟩
theorem prt_skip {L2 L3 : List (List Int)} {first row k : Nat} (h : Prt L2 L3 first row k) (hk : first < k) (hz : at2 L2 k row = 0) : Prt L2 L3 first row (k + 1) :=
  ⟨fun j hj => h.same j (by omega), fun j h1 h2 i => by
    by_cases z : j = k
    · subst z
      rw [hz, Int.zero_ediv, Int.zero_mul, Int.sub_zero]
      unfold at2
      rw [h.same j (.inr (Nat.le_refl _))]
    · exact h.red j h1 (by omega) i⟩
theorem prt_step {L2 L3 : List (List Int)} {first row k d : Nat} (h : Prt L2 L3 first row k) (hk : first < k) (hl : k < L3.length) (hW : Wid L3 d) (hf : first < L3.length) :
    Prt L2 (L3.set k (vadd (L3.getD k []) (L3.getD first []) (0 - at2 L3 k row / at2 L3 first row))) first row (k + 1) := by
  have s1 : ∀ i, at2 L3 k i = at2 L2 k i := fun i => by unfold at2; rw [h.same k (.inr (Nat.le_refl _))]
  have s2 : ∀ i, at2 L3 first i = at2 L2 first i := fun i => by unfold at2; rw [h.same first (.inl (Nat.le_refl _))]
  refine ⟨fun j hj => by rw [getD_set_ne (by omega)]; exact h.same j (by omega), fun j h1 h2 i => ?_⟩
  by_cases z : j = k
  · subst z
    rw [at2_set_self hl, vadd_at ((hW.getD hl).trans (hW.getD hf).symm)]
    show at2 L3 j i + _ * at2 L3 first i = _
    rw [s1, s1, s2, s2, Int.zero_sub, Int.neg_mul]
    omega
  · rw [at2_set_ne (Ne.symm z)]
    exact h.red j h1 (by omega) i
theorem dec_int (i j : Int) : decide (V.int i = V.int j) = decide (i = j) := by
  by_cases h : i = j
  · rw [h, decide_eq_true rfl, decide_eq_true rfl]
  · rw [decide_eq_false h, decide_eq_false fun z => h (V.int.inj z)]
theorem rv_neN {H : Hp} {i j : Int} : RV rNe (.int i) (.int j) H (.bl (!decide (i = j))) := by
  rw [← dec_int]
  exact rv_ne rfl
theorem rv_eqN {H : Hp} {i j : Int} : RV rEq (.int i) (.int j) H (.bl (decide (i = j))) := by
  rw [← dec_int]
  exact rv_eq rfl
theorem abs_is (i : Int) : (if i < 0 then -i else i) = ((i.natAbs : Nat) : Int) := by split <;> omega
section
variable {σ : L2.St} {H : Hp} {ta : TA} {te : TE} {t : TT} {j : Nat} {vs : List Nat}
theorem el_lcR2 {lo n : Int} (f : Nat → Bool) (v : Nat → V) (h : EvA ta σ H [.int lo, .int n]) (hn : 0 ≤ lo ∧ lo ≤ 10000 ∧ 0 ≤ n ∧ n ≤ 10000) (hw : ∀ x, wipe ((wipe σ vs).set j (some x)) vs = wipe σ vs)
    (ht : ∀ (i : Nat) H1, Ex H H1 → lo + (i : Int) < n → EvT t ((wipe σ vs).set j (some (.int (lo + (i : Int))))) H1 (f i)) (he : ∀ (i : Nat) H1, Ex H H1 → lo + (i : Int) < n → f i = true → Ev te ((wipe σ vs).set j (some (.int (lo + (i : Int))))) H1 (v i)) :
    EvL (tLc (iRng2 ta) (gName j) t te vs) σ H (given (n - lo).toNat f v) := fun H0 e Q q => h H0 e _ fun H1 e1 => ⟨lo, n, rfl, ⟨by omega, by omega, by omega, by omega⟩, fun Dl hD =>
  lc_range (lo := lo) (n := (n - lo).toNat) (Cw H1 f v Dl) ⟨hD, Ex.new hD, upd_same⟩ (fun i H' hi p => ⟨hw _, cw_turn p (by omega) (ht i H1 (e.trans e1) (by omega)) (fun hf => he i H1 (e.trans e1) (by omega) hf)⟩) (fun H' p => q Dl H' (fresh_back e1 p.1) (e1.trans p.2.1) p.2.2)⟩
end
section
variable {K : PySem.W.Frag} {T : List (Addr × Str)} {σ : L2.St} {H : Hp} {te tb : TE} {ta : TA} {g : TG} {tz : TS} {D : Ends} {i j : Nat}
theorem q_min (h : tMin K T i te tb σ H (fun x H1 => tz D (σ.set j (some x)) H1)) : tSeq (tAsg (tMin K T i te tb) (gName j)) tz D σ H := h
theorem q_tup {vs : List V} (h : EvA ta σ H vs) (hl : vs.length ≤ 100000) (k : ∀ p H1, H p = none → Ex H H1 → H1 p = some (.tup vs) → g (.ref p) σ H1 (fun σ' H' => tz D σ' H')) : tSeq (tAsg (tTup ta) g) tz D σ H := eu_tup h hl H (Ex.refl H) (fun x H1 => g x σ H1 (fun σ' H' => tz D σ' H')) fun p H1 hp e h1 => k p H1 hp e h1
theorem s_asgL' {xs : List V} (h : EvL te σ H xs) (k : ∀ p H1, H p = none → Ex H H1 → H1 p = some (.lst xs) → g (.ref p) σ H1 (fun σ' H' => D.nx σ' H')) : tAsg te g D σ H := h H (Ex.refl H) _ fun p H1 hp e h1 => k p H1 hp e h1
end
theorem given_ns (L : List (List Int)) (first row : Nat) : given (((L.length : Nat) : Int) - (first : Int)).toNat (fun i => !decide (at2 L (first + i) row = 0)) (fun i => V.int ((first : Int) + (i : Int))) = (nsL L first row).map V.int := by
  unfold given nsL
  rw [List.map_map, show (((L.length : Nat) : Int) - (first : Int)).toNat = L.length - first by omega]
  rfl
section
variable {P : Program} {w : World} {K : PySem.W.Frag} {mg : Str → Option Value} {base : Heap}
def spMs (K : PySem.W.Frag) (Pt : Addr) : Sp := fun vs H Q _ => ∃ (a : Addr) (as0 : List Addr) (L : List (List Int)) (first row d b : Nat), vs = [.ref a, .int (first : Int), .int (row : Int)] ∧ H a = some (.lst (as0.map V.ref)) ∧ MatA H as0 L ∧ Wid L d ∧ row < d ∧ d ≤ 1000 ∧ first < L.length ∧ L.length ≤ 1000 ∧ Bd L first (2 ^ b) ∧
  (first + 1 < L.length → b ≤ 8990) ∧ b ≤ 100000 ∧ Tabs (T1 Pt) H ∧ ∀ (res : Bool) (L' : List (List Int)) (H' : Hp), MsPost L L' first row d (2 ^ b) res → MatP H' a L' (fun b => b ∈ as0 ∨ New H b) → ExA a H H' → Tabs (T1 Pt) H' → Q (.bl res) H'
theorem fn_c {qual : Str} {st : Stmt} {f c : Addr} {N ps : List Str} {k : Nat} {sp : Sp} {oc kV doc pm ct : Value} {od an : Option Addr} {osl : Array (Option Value)} (lk : K.lookup f = some ⟨oc, od, .func (PySem.W.fnOf qual qual (defArgs st) (defBody st) (defScope st) .none kV doc pm an (.ref c) ct), osl⟩) (hcd : PySem.W.codeIn K (.ref c) qual = true)
    (S : FnScope N ps (defScope st)) (len : ∀ vs H Q E, sp vs H Q E → vs.length = ps.length)
    (hbody : ∀ (A : Around) (outer : List Env) (s : Shared) (H : Hp) (vs : List V) (Q : VK) (E : XK), Room k (A.deeper (envOfC qual (defScope st) s.heap.objs.size f (.ref c))) → sp vs H Q E →
      ∃ t, PSs (cxOf CX0 P w K mg base N qual (defScope st) f (.ref c) A outer s H E).nox (defBody st) t ∧ t { nx := fun _ H' => Q .non H', rt := Q } (start N vs) H) : FnOk P w K mg base CX0 (k + 1) f (PySem.W.fnOf qual qual (defArgs st) (defBody st) (defScope st) .none kV doc pm an (.ref c) ct) ps sp :=
  fn_of lk hcd S len fun A outer s H vs Q E hr hsp => by
    obtain ⟨t, h, q⟩ := hbody A outer s H vs Q E hr hsp
    exact ⟨t, h.nox, q⟩
theorem ok_ms {f c Pt fA : Addr} {fdA : FuncData} {oc kV doc pm ct : Value} {od an : Option Addr} {osl : Array (Option Value)} (lk : K.lookup f = some ⟨oc, od, .func (PySem.W.fnOf "made_single" "made_single" (defArgs sMs) (defBody sMs) (defScope sMs) .none kV doc pm an (.ref c) ct), osl⟩) (hcd : PySem.W.codeIn K (.ref c) "made_single" = true)
    (FA : Fun K "added" "added" sAdded fA fdA) (bA : Binds K fdA ["one", "other", "often"] []) (gA : mg "added" = some (.ref fA)) (mz : mg "zip" = none) (mr : mg "range" = none) (ml : mg "len" = none) (mm : mg "min" = none) (ma : mg "abs" = none) (TB : TabB base mg c Pt) :
    FnOk P w K mg base CX0 4 f (PySem.W.fnOf "made_single" "made_single" (defArgs sMs) (defBody sMs) (defScope sMs) .none kV doc pm an (.ref c) ct) ["columns", "first", "row"] (spMs K Pt) := by
  have GA : FnOk P w K mg base CX0 1 fA fdA ["one", "other", "often"] (spAdded K) := ok_added FA mz
  refine fn_c lk hcd scMs (fun vs H Q E h => ?_) (fun A outer s H vs Q E hr h => ?_)
  · obtain ⟨a, as0, L, first, row, d, b, rfl, _⟩ := h
    rfl
  · obtain ⟨a, as0, L, first, row, d, b, rfl, h00, h01, hW, hrow, hd, hf, hL, hB, hb1, hb2, hT, hQ⟩ := h
    refine ⟨_, pss_one (ps_while PassesOwn.never (pt_val pe_bl)
      (pss_cons (ps_setLc (i := 4) (own := [("k", 3)]) (g := gName 3) (tt := tTest (tOp rNe (tIx K (tIx K (tVar 0) (tVar 3)) (tVar 2)) (tC (.int 0)))) rfl scMs.nd rfl rfl (sw_true rfl rfl rfl (by decide +kernel)) (pi_range2 (by rfl) mr (pa_cons (pv 1) (pa_cons (pe_callB call_len_seq (by rfl) ml PySem.boot_len (pa_cons (pv 0) pa_nil)) pa_nil))) (blkOk_by (by kernel_rfl))
          (fun _ _ _ _ _ => pg_name (i := 3) scMs.nd rfl (.inl rfl)) (fun _ _ _ _ _ => pts_one (pt_cmpR op_ne (pe_ix ix_list (pe_ix ix_list (pv 0) (pv 3) (fun _ _ => rfl)) (pv 2) (fun _ _ => rfl)) pe_int (nomark _))) (fun _ _ _ _ _ => pv 3))
      (pss_cons (ps_if (pt_cmpR (op_eqD hr.units) (pv 4) (pe_lst pa_nil) (nomark _)) (pss_one (ps_ret pe_bl)) pss_nil)
      (pss_cons (ps_set (i := 5) scMs.nd rfl (.inl rfl) (pe_minlam (tb := tKey K) (T := T1 Pt) (c := c) (P := Pt) (k := 1) (i := 3) (a := "k") rfl (by rfl) mm (pv 4) scMs.nd rfl TB rfl (List.mem_singleton.mpr rfl) (fun p hp _ => by rw [List.mem_singleton.mp hp]; rfl) hr (lamS1_by (by kernel_rfl)) rfl (fun _ _ _ _ _ _ => rfl)
          (fun A outer s H f c' hr2 => pe_tup (pa_cons (pe_callB call_abs (by rfl) ma (by decide +kernel) (pa_cons (pe_ix ix_list (pe_ix ix_list (pv 0) (pv 3) (fun _ _ => rfl)) (pv 2) (fun _ _ => rfl)) pa_nil)) (pa_cons (pv 3) pa_nil)))))
      (pss_cons (ps_asg (pe_tup (pa_cons (pe_ix ix_list (pv 0) (pv 5) (fun _ _ => rfl)) (pa_cons (pe_ix ix_list (pv 0) (pv 1) (fun _ _ => rfl)) pa_nil))) (pg_tup rfl (pgs_cons (pg_sub (pv 0) (pv 1) set_list) (pgs_cons (pg_sub (pv 0) (pv 5) set_list) pgs_nil))))
      (pss_cut (ps_if (pt_cmpR op_lt (pe_ix ix_list (pe_ix ix_list (pv 0) (pv 1) (fun _ _ => rfl)) (pv 2) (fun _ _ => rfl)) pe_int (nomark _))
          (pss_one (ps_asg (pe_lc (own := [("number", 6)]) (g := gName 6) (tt := tYes) rfl scMs.nd (pi_list (pe_ix ix_list (pv 0) (pv 1) (fun _ _ => rfl))) (blkOk_by (by kernel_rfl)) (fun _ _ _ _ _ => pg_name (i := 6) scMs.nd rfl (.inl rfl)) (fun _ _ _ _ _ => pts_nil) (fun _ _ _ _ _ => pe_op op_sub pe_int (pv 6)))
            (pg_sub (pv 0) (pv 1) set_list))) pss_nil)
      (pss_cons (ps_if (pt_cmpR op_eq (pe_callB call_len_seq (by rfl) ml PySem.boot_len (pa_cons (pv 4) pa_nil)) pe_int (nomark _)) (pss_one (ps_ret pe_bl)) pss_nil)
      (pss_one (ps_for PassesOwn.never rfl (pi_range2 (by rfl) mr (pa_cons (pe_op op_add (pv 1) pe_int) (pa_cons (pe_callB call_len_seq (by rfl) ml PySem.boot_len (pa_cons (pv 0) pa_nil)) pa_nil))) (pg_name (i := 3) scMs.nd rfl (.inl rfl))
        (pss_one (ps_if (pt_cmpR op_ne (pe_ix ix_list (pe_ix ix_list (pv 0) (pv 3) (fun _ _ => rfl)) (pv 2) (fun _ _ => rfl)) pe_int (nomark _))
          (pss_one (ps_asg (pe_call GA (hr.mono (by decide)) (by rfl) gA FA.kp bA .nil pass0 (pa_cons (pe_ix ix_list (pv 0) (pv 3) (fun _ _ => rfl)) (pa_cons (pe_ix ix_list (pv 0) (pv 1) (fun _ _ => rfl)) (pa_cons (pe_op op_sub pe_int (pe_op op_fdivW (pe_ix ix_list (pe_ix ix_list (pv 0) (pv 3) (fun _ _ => rfl)) (pv 2) (fun _ _ => rfl)) (pe_ix ix_list (pe_ix ix_list (pv 0) (pv 1) (fun _ _ => rfl)) (pv 2) (fun _ _ => rfl)))) pa_nil))))
            (pg_sub (pv 0) (pv 3) set_list))) pss_nil))))))))))), ?_⟩
    refine s_while (fun m σ' H' => ∃ x3 x4 x5 x6 L1, σ' = [some (.ref a), some (.int (first : Int)), some (.int (row : Int)), x3, x4, x5, x6] ∧ MatP H' a L1 (fun b => b ∈ as0 ∨ New H b) ∧ Kept L L1 first d ∧ Ph L L1 first row (2 ^ b) m ∧ ExA a H H' ∧ Tabs (T1 Pt) H') (2 ^ b + 1)
      ⟨none, none, none, none, L, rfl, ⟨as0, h00, h01, fun b hb => .inl hb⟩, Kept.refl hW, .inl ⟨rfl, rfl, hB⟩, ExA.refl a H, hT⟩ ?_
    rintro m σ1 H1 ⟨x3, x4, x5, x6, L1, rfl, hMP1, hK, hPh, hX1, hT1⟩
    refine ⟨true, et_B ev_c, fun _ H2 e2 => ⟨_, fun _ _ h => h, ?_⟩, fun z => Bool.noConfusion z⟩
    have hM1 := hMP1.mat
    have hl1 : L1.length = L.length := hK.len
    have hM2 : (0 : Nat) < 2 ^ b := Nat.pow_pos (by decide)
    have hW1 := hK.wid
    -- some
    refine q_asgL (xs := (nsL L1 first row).map V.int) ?_ (fun p4 H3 n4 e3 h4 => ?_)
    · rw [← given_ns]
      refine el_lcR2 _ _ (ea_cons (ev_var rfl) (ea_cons ?_ ea_nil)) (by omega) (fun x => rfl) (fun i H' e' hi => ?_) (fun i H' e' hi _ => ev_var rfl)
      · obtain ⟨as, a1, a2⟩ := hM1.ex e2
        have := ev_len (K := K) (σ := [some (.ref a), some (.int (first : Int)), some (.int (row : Int)), x3, x4, x5, x6]) (ta := tVar 0) (ev_var rfl) (sq_of a1)
        rw [List.length_map, a2.1] at this
        exact this
      · refine et_test (ev_op (ev_at2 (k := first + i) (i := row) (ev_var rfl) ((hM1.ex e2).ex e') (ev_var ?_) (by omega) (ev_var rfl) (by rw [hW1.getD (by omega)]; exact hrow)) ev_c rv_neN)
        rfl
    have h4' : H3 p4 = some (.lst ((nsL L1 first row).map V.int)) := h4
    -- if some == []
    refine q_when (b := decide (nsL L1 first row = [])) (et_test (ev_opL (ev_var rfl) (el_lst ea_nil (by simp)) fun q H5 hq e5 => rv_eqI (sq_of (e5 _ _ h4')) (sq_of hq))) (fun hb H4 e4 => ?_) (fun hb H4 e4 => ?_)
    · have hz : ∀ k, first ≤ k → k < L1.length → at2 L1 k row = 0 := fun k h1 h2 => by
        by_cases z : at2 L1 k row = 0
        · exact z
        · have := mem_ns.mpr ⟨k, h1, h2, z, rfl⟩
          rw [of_decide_eq_true hb] at this
          simp at this
      exact s_ret ev_c fun H5 e5 => hQ false L1 H5 (ms_no hPh hK hf hM2 hz) (hMP1.ex (((e2.trans e3).trans e4).trans e5)) (hX1.ex (((e2.trans e3).trans e4).trans e5)) (hT1.ext (((e2.trans e3).trans e4).trans e5))
    have hne : nsL L1 first row ≠ [] := of_decide_eq_false hb
    have e24 := (e2.trans e3).trans e4
    have hM4 := hM1.ex e24
    have hMP4 := hMP1.ex e24
    have h44 := e4 _ _ h4'
    -- least
    refine q_min ⟨.ref p4, rfl, p4, nsL L1 first row, fun n => ((at2 L1 n.toNat row).natAbs : Int), rfl, sq_of h44, by
      cases q : nsL L1 first row with
      | nil => exact absurd q hne
      | cons _ _ => simp, hT1.ext e24, fun n hn H5 eN hT5 Q' hq' => ?_, fun lv H5 hlv hmin eN hT5 => ?_⟩
    · obtain ⟨k, k1, k2, k3, rfl⟩ := mem_ns.mp hn
      have hM5 := hM4.exn eN
      refine eu_tup (σ := [some (.ref a), some (.int (first : Int)), some (.int (row : Int)), some (.int (k : Int)), some (.ref p4), x5, x6]) (ea_cons (x := .int ((at2 L1 k row).natAbs : Int)) (ev_cb (ea_cons (ev_at2 (k := k) (i := row) (ev_var rfl) hM5 (ev_var rfl) k2 (ev_var rfl) (by rw [hW1.getD k2]; exact hrow)) ea_nil) (fun H6 e6 Q6 q6 => ⟨_, rfl, by rw [abs_is]; exact q6 H6 (Ex.refl H6)⟩)) (ea_cons (ev_var rfl) ea_nil)) (by simp) H5 (Ex.refl H5) _ fun t H6 nt e6 ht => hq' t H6 e6 ?_
      exact ht
    obtain ⟨l, l1, l2, l3, rfl⟩ := mem_ns.mp hlv
    have lo : LowAt L1 first row l := ⟨l1, l2, l3, fun k h1 h2 h3 => by
      have := hmin _ (mem_ns.mpr ⟨k, h1, h2, h3, rfl⟩)
      rw [lex2] at this
      have := of_decide_eq_false this
      simp only [Int.toNat_natCast] at this
      omega⟩
    have hf1 : first < L1.length := by omega
    obtain ⟨as, a1, a2, a3⟩ := hMP4.exn eN
    obtain ⟨bl, bl1, bl2⟩ := a2.row l2
    obtain ⟨bf, bf1, bf2⟩ := a2.row hf1
    have h45 := exn_lst eN h44
    have hX5 : ExA a H H5 := (hX1.ex e24).exn eN
    -- the swap
    refine q_tup (ea_cons (x := .ref bl) (ev_op (ev_var rfl) (ev_var rfl) (rv_ixL (sq_of a1) (atI_nat (refs_at bl1)))) (ea_cons (x := .ref bf) (ev_op (ev_var rfl) (ev_var rfl) (rv_ixL (sq_of a1) (atI_nat (refs_at bf1)))) ea_nil)) (by simp) fun t H6 nt e6 ht => ?_
    have c1 := e6 _ _ a1
    have c2 := a2.ex e6
    have d1 := mat_set c1 c2 (e6 _ _ bl2) hf1
    have hn : 0 < as.length := by rw [a2.1]; omega
    have f1 := mat_set (a := a) (as := as.set first bl) (k := l) mat_at d1 (b := bf) (c := L1.getD first []) (by rw [upd_ne (ref_ne c1 (e6 _ _ bf2) hn)]; exact e6 _ _ bf2) (by rw [List.length_set]; exact l2)
    refine ⟨t, [.ref bl, .ref bf], rfl, st_of ht, rfl, .ref bl, [.ref bf], rfl, ⟨.ref a, rfl, .int (first : Int), rfl, a, _, (first : Int), first, rfl, rfl, c1, ixN_nat (by rw [List.length_map, a2.1]; exact hf1), .ref bf, [], rfl,
      ⟨.ref a, rfl, .int (l : Int), rfl, a, _, (l : Int), l, rfl, rfl, mat_at, ixN_nat (by rw [List.length_map, List.length_set, a2.1]; exact l2), rfl, ?_⟩⟩⟩
    have hMs : MatP (upd (upd H6 a (.lst ((as.map V.ref).set first (.ref bl)))) a (.lst (((as.set first bl).map V.ref).set l (.ref bf)))) a (swp L1 first l) (fun b => b ∈ as0 ∨ New H b) := ⟨_, mat_at, f1, all_set (all_set a3 (a3 _ (List.mem_of_getElem? bl1))) (a3 _ (List.mem_of_getElem? bf1))⟩
    have hXs := ((hX5.ex e6).upd (o := .lst ((as.map V.ref).set first (.ref bl)))).upd (o := .lst (((as.set first bl).map V.ref).set l (.ref bf)))
    have hTs := Tabs.updA (ys := ((as.set first bl).map V.ref).set l (.ref bf)) (Tabs.updA (ys := (as.map V.ref).set first (.ref bl)) (hT5.ext e6) c1) upd_same
    have hn4 : p4 ≠ a := by
      obtain ⟨as0, z1, _⟩ := hM1.ex e2
      exact (ne_of_none z1 n4).symm
    have h4s : (upd (upd H6 a (.lst ((as.map V.ref).set first (.ref bl)))) a (.lst (((as.set first bl).map V.ref).set l (.ref bf)))) p4 = some (.lst ((nsL L1 first row).map V.int)) := by
      rw [upd_ne hn4, upd_ne hn4]
      exact e6 _ _ h45
    generalize upd (upd H6 a (.lst ((as.map V.ref).set first (.ref bl)))) a (.lst (((as.set first bl).map V.ref).set l (.ref bf))) = H7 at hMs hXs hTs h4s ⊢
    have K1 := Kept.swap (first := first) hW1 hf1 l2 (Nat.le_refl _) l1
    have hls : (swp L1 first l).length = L1.length := K1.len
    have hSw := sw_mk (row := row) hW1 hf1 l2 l1 l3
    -- the sign
    refine q_cut (M := fun σ' H' => ∃ L2, σ' = [some (.ref a), some (.int (first : Int)), some (.int (row : Int)), x3, some (.ref p4), some (.int (l : Int)), x6] ∧ MatP H' a L2 (fun b => b ∈ as0 ∨ New H b) ∧ Kept L1 L2 first d ∧ Sw L1 L2 first row l ∧ H' p4 = some (.lst ((nsL L1 first row).map V.int)) ∧ ExA a H H' ∧ Tabs (T1 Pt) H') ?_ (fun σ8 H8 h8 => ?_)
    · refine s_when (b := decide (at2 (swp L1 first l) first row < 0)) (et_test (ev_op (ev_at2 (k := first) (i := row) (ev_var rfl) hMs.mat (ev_var rfl) (by omega) (ev_var rfl) (by rw [K1.wid.getD (by omega)]; exact hrow)) ev_c rv_I0)) (fun hb H8 e8 => ?_) (fun hb H8 e8 => ?_)
      · rw [if_pos (of_decide_eq_true hb)] at hSw
        obtain ⟨as2, b1, b2, b3⟩ := hMs.ex e8
        obtain ⟨br, br1, br2⟩ := b2.row (k := first) (by omega)
        refine s_asgL' (el_lcLi (K := K) (vneg ((swp L1 first l).getD first [])) (ev_op (ev_var rfl) (ev_var rfl) (rv_ixL (sq_of b1) (atI_nat (refs_at br1)))) (sq_of br2) (by unfold vneg; rw [List.length_map, List.length_map]) (by rw [List.length_map, K1.wid.getD (by omega)]; omega) (fun x => rfl) (fun i x r H9 e9 hx hr9 => ?_)) fun q H9 nq e9 hq9 => ?_
        · unfold vneg at hr9
          rw [List.getElem?_map] at hr9 hx
          cases z : ((swp L1 first l).getD first [])[i]? with
          | none => rw [z] at hr9; cases hr9
          | some y =>
            rw [z] at hr9 hx
            cases hr9
            cases hx
            exact ev_sub ev_c (ev_var rfl)
        · have b1' := e9 _ _ b1
          refine ⟨.ref a, rfl, .int (first : Int), rfl, a, _, (first : Int), first, rfl, rfl, b1', ixN_nat (by rw [List.length_map, b2.1]; omega), (swp L1 first l).set first (vneg ((swp L1 first l).getD first [])), rfl, ⟨_, mat_at, mat_set b1' (b2.ex e9) hq9 (by omega), all_set b3 (.inr (new_of (hXs.ex e8) b1 nq))⟩, K1.trans (Kept.neg K1.wid (by omega) (Nat.le_refl _)), hSw, ?_, ((hXs.ex e8).ex e9).upd, Tabs.updA ((hTs.ext e8).ext e9) b1'⟩
          rw [upd_ne hn4]
          exact e9 _ _ (e8 _ _ h4s)
      · rw [if_neg (of_decide_eq_false hb)] at hSw
        exact ⟨swp L1 first l, rfl, hMs.ex e8, K1, hSw, e8 _ _ h4s, hXs.ex e8, hTs.ext e8⟩
    obtain ⟨L2, rfl, hMP8, K2, hS8, h48, hX8, hT8⟩ := h8
    have hM8 := hMP8.mat
    have hl2 : L2.length = L1.length := K2.len
    -- if len(some) == 1
    refine q_when (b := decide ((((nsL L1 first row).map V.int).length : Int) = 1)) (et_test (ev_op (ev_len (ev_var rfl) (sq_of h48)) ev_c rv_eqN)) (fun hb H9 e9 => ?_) (fun hb H9 e9 => ?_)
    · have h1 : (nsL L1 first row).length = 1 := by
        have := of_decide_eq_true hb
        rw [List.length_map] at this
        omega
      refine s_ret ev_c fun H10 e10 => hQ true L2 H10 (ms_yes hPh hK K2 hM2 lo hS8 fun k k1 k2 k3 => ?_) ((hMP8.ex e9).ex e10) ((hX8.ex e9).ex e10) ((hT8.ext e9).ext e10)
      by_cases z : at2 L1 k row = 0
      · exact z
      · have := one_of (ns_nodup L1 first row) h1 (mem_ns.mpr ⟨k, k1, k2, z, rfl⟩) hlv
        omega
    have h1 : (nsL L1 first row).length ≠ 1 := fun z => by
      have := of_decide_eq_false hb
      rw [List.length_map] at this
      omega
    obtain ⟨y, hy, hyl⟩ := more_of (ns_nodup L1 first row) hlv h1
    obtain ⟨k, k1, k2, k3, rfl⟩ := mem_ns.mp hy
    have more : ∃ k, first ≤ k ∧ k < L1.length ∧ k ≠ l ∧ at2 L1 k row ≠ 0 := ⟨k, k1, k2, fun z => hyl (by rw [z]), k3⟩
    have two : first + 1 < L.length := by
      have : k ≠ l := fun z => hyl (by rw [z])
      omega
    have hb3 := hb1 two
    have hbd2 : Bd L2 first (MsB L1.length first (2 ^ b)) := hS8.bd _ (ph_bd hPh hM2)
    have hrow2 : ∀ k, first ≤ k → k < L2.length → (at2 L2 k row).natAbs ≤ 2 ^ b := fun k q1 q2 => by
      by_cases z : k = first
      · rw [z, hS8.mag]
        exact ph_row hPh hf1 l l1 l2
      · obtain ⟨k', s1, s2, _, s4⟩ := hS8.oth k (by omega) q2
        rw [s4]
        exact ph_row hPh hf1 k' s1 s2
    have hp2 := hS8.pos
    have hbd3 : ∀ i, (at2 L2 first i).natAbs < 2 ^ (5 * b + 4) := fun i => by
      refine Nat.lt_of_le_of_lt (hbd2 first i (Nat.le_refl _) (by omega)) ?_
      unfold MsB
      rw [if_pos (by omega)]
      exact Nat.lt_of_le_of_lt (msb_pow b) (Nat.pow_lt_pow_right (by decide) (by omega))
    have hlt : ∀ z : Nat, z ≤ 2 ^ b → z < 2 ^ (b + 1) := fun z hz => Nat.lt_of_le_of_lt hz (Nat.pow_lt_pow_right (by decide) (by omega))
    -- the columns behind
    refine s_forR2 (lo := (first : Int) + 1) (n := ((L2.length : Nat) : Int)) (ea_cons (ev_add (ev_var rfl) ev_c) (ea_cons ?_ ea_nil)) (by omega)
      (fun i σ' H' => ∃ x3 L3, σ' = [some (.ref a), some (.int (first : Int)), some (.int (row : Int)), x3, some (.ref p4), some (.int (l : Int)), x6] ∧ MatP H' a L3 (fun b => b ∈ as0 ∨ New H b) ∧ Kept L2 L3 first d ∧ Prt L2 L3 first row (first + 1 + i) ∧ ExA a H H' ∧ Tabs (T1 Pt) H')
      (fun H10 e10 => ⟨x3, L2, rfl, (hMP8.ex e9).ex e10, Kept.refl K2.wid, ⟨fun _ _ => rfl, fun k q1 q2 => by omega⟩, (hX8.ex e9).ex e10, (hT8.ext e9).ext e10⟩) (fun i σ' H' hi hP => ?_) (fun σ' H' hP => ?_)
    · obtain ⟨as3, g1, g2⟩ := hM8.ex e9
      have := ev_len (K := K) (σ := [some (.ref a), some (.int (first : Int)), some (.int (row : Int)), x3, some (.ref p4), some (.int (l : Int)), x6]) (ta := tVar 0) (ev_var rfl) (sq_of g1)
      rw [List.length_map, g2.1] at this
      exact this
    · obtain ⟨y3, L3, rfl, hMP9, K3, hPr, hX9, hT9⟩ := hP
      have hM9 := hMP9.mat
      have hl3 : L3.length = L2.length := K3.len
      have ek : (first : Int) + 1 + (i : Int) = ((first + 1 + i : Nat) : Int) := by omega
      rw [ek]
      have hi2 : first + 1 + i < L3.length := by omega
      have s1 : ∀ j, at2 L3 (first + 1 + i) j = at2 L2 (first + 1 + i) j := fun j => by unfold at2; rw [hPr.same _ (.inr (Nat.le_refl _))]
      have s2 : ∀ j, at2 L3 first j = at2 L2 first j := fun j => by unfold at2; rw [hPr.same first (.inl (Nat.le_refl _))]
      refine s_when (b := !decide (at2 L3 (first + 1 + i) row = 0)) (et_test (ev_op (ev_at2 (k := first + 1 + i) (i := row) (ev_var rfl) hM9 (ev_var rfl) hi2 (ev_var rfl) (by rw [K3.wid.getD hi2]; exact hrow)) ev_c rv_neN)) (fun hb H10 e10 => ?_) (fun hb H10 e10 => ?_)
      · obtain ⟨as3, g1, g2, g3⟩ := hMP9.ex e10
        obtain ⟨bk, bk1, bk2⟩ := g2.row hi2
        obtain ⟨bf, bf1, bf2⟩ := g2.row (k := first) (by omega)
        have hM10 : Mat H10 a L3 := ⟨as3, g1, g2⟩
        have hq : (0 - at2 L3 (first + 1 + i) row / at2 L3 first row).natAbs < 2 ^ (b + 2) := by
          have r1 := hrow2 (first + 1 + i) (by omega) (by omega)
          obtain ⟨pp, hpp⟩ : ∃ pp : Nat, at2 L2 first row = (pp : Int) := ⟨(at2 L2 first row).toNat, by omega⟩
          have r2 := quot_le (p := pp) (M := 2 ^ b) (by omega) r1
          rw [← s1, ← hpp, ← s2] at r2
          have r3 := Nat.div_le_self (2 ^ b) pp
          have r4 : 2 ^ (b + 2) = 4 * 2 ^ b := by rw [Nat.pow_add]; omega
          omega
        refine s_asgL' (el_call (dvs := []) (ea_cons (ev_op (ev_var rfl) (ev_var rfl) (rv_ixL (sq_of g1) (atI_nat (refs_at bk1)))) (ea_cons (ev_op (ev_var rfl) (ev_var rfl) (rv_ixL (sq_of g1) (atI_nat (refs_at bf1))))
          (ea_cons (ev_sub ev_c (ev_divW (ev_at2 (k := first + 1 + i) (i := row) (ev_var rfl) hM10 (ev_var rfl) hi2 (ev_var rfl) (by rw [K3.wid.getD hi2]; exact hrow)) (ev_at2 (k := first) (i := row) (ev_var rfl) hM10 (ev_var rfl) (by omega) (ev_var rfl) (by rw [K3.wid.getD (by omega)]; exact hrow)) ?_)) ea_nil)))
          (xs := (vadd (L3.getD (first + 1 + i) []) (L3.getD first []) (0 - at2 L3 (first + 1 + i) row / at2 L3 first row)).map V.int) ?_) fun q H11 nq e11 hq11 => ?_
        · rw [s2]
          exact wide_div hp2 (hlt _ (hrow2 first (Nat.le_refl _) (by omega))) (by omega) (by omega)
        · intro H11 e11 Q11 q11 E11
          refine ⟨bk, bf, L3.getD (first + 1 + i) [], L3.getD first [], _, rfl, sq_of (e11 _ _ bk2), sq_of (e11 _ _ bf2), by rw [K3.wid.getD hi2]; exact hd, fun j hj => ?_, q11⟩
          have r3 := hbd3 j
          rw [← s2] at r3
          exact mulx_ok hq r3 (by omega)
        · have g1' := e11 _ _ g1
          refine ⟨.ref a, rfl, .int ((first + 1 + i : Nat) : Int), rfl, a, _, ((first + 1 + i : Nat) : Int), first + 1 + i, rfl, rfl, g1', ixN_nat (by rw [List.length_map, g2.1]; exact hi2), ?_⟩
          exact ⟨_, L3.set (first + 1 + i) (vadd (L3.getD (first + 1 + i) []) (L3.getD first []) (0 - at2 L3 (first + 1 + i) row / at2 L3 first row)), rfl, ⟨_, mat_at, mat_set g1' (g2.ex e11) hq11 hi2, all_set g3 (.inr (new_of (hX9.ex e10) g1 nq))⟩, K3.trans (Kept.add K3.wid hi2 (by omega) (by omega) (Nat.le_refl _) (by omega)), prt_step (k := first + 1 + i) hPr (by omega) hi2 K3.wid (by omega), ((hX9.ex e10).ex e11).upd, Tabs.updA ((hT9.ext e10).ext e11) g1'⟩
      · have hz : at2 L2 (first + 1 + i) row = 0 := by
          rw [← s1]
          cases z : decide (at2 L3 (first + 1 + i) row = 0) with
          | true => exact of_decide_eq_true z
          | false => rw [z] at hb; cases hb
        exact ⟨_, L3, rfl, hMP9.ex e10, K3, prt_skip (k := first + 1 + i) hPr (by omega) hz, hX9.ex e10, hT9.ext e10⟩
    · obtain ⟨y3, L3, rfl, hM9, K3, hPr, hX9, hT9⟩ := hP
      have hl3 : L3.length = L2.length := K3.len
      have ee : first + 1 + (((L2.length : Nat) : Int) - ((first : Int) + 1)).toNat = L2.length := by omega
      rw [ee] at hPr
      obtain ⟨m', hm', hPh'⟩ := ms_round hPh lo more hS8 (prt_end hPr hl3)
      exact ⟨m', hm', y3, _, _, _, L3, rfl, hM9, hK.trans (K2.trans K3), hPh', hX9, hT9⟩
end
end Mw

-- MwD3
set_option Elab.async false
set_option linter.all false
set_option maxRecDepth 100000
set_option maxHeartbeats 4000000
namespace Mw
open PySem PySem.Spec PyProof.Rows L2 Evl LamX
abbrev sSt : Stmt := topS 3
theorem scSt : FnScope ["columns", "rows", "pivots", "row"] ["columns", "rows"] (defScope sSt) := ⟨rfl, rfl, rfl, by decide +kernel, rfl, by decide +kernel, by decide +kernel⟩
theorem exn_exa {p : Addr} {H H1 H2 : Hp} (x : ExtN H H1) (hp : H p = none) (y : ExA p H1 H2) : ExtN H H2 := fun b o e n => y b o (ne_of_none e hp) (x b o e n) n
abbrev nV (ps : List Nat) : List V := ps.map fun (k : Nat) => V.int (k : Int)
theorem tb_call {sp : Sp} {dvs vs : List V} {E : XK} {ta : TA} {σ : L2.St} {H : Hp} {R : Bool → Hp → Prop} (h : EvA ta σ H vs) (k : ∀ H1, Ex H H1 → sp (vs ++ dvs) H1 (fun x H2 => ∃ c, x = .bl c ∧ R c H2) E) : tB (tCall sp dvs E ta) σ H R := h H (Ex.refl H) _ k
section
variable {P : Program} {w : World} {K : PySem.W.Frag} {mg : Str → Option Value} {base : Heap}
def spSt (K : PySem.W.Frag) (Pt : Addr) : Sp := fun vs H Q _ => ∃ (a : Addr) (L : List (List Int)) (rows d j0 : Nat) (e : Nat → Nat), vs = [.ref a, .int (rows : Int)] ∧ Mat H a L ∧ Wid L d ∧ rows ≤ d ∧ d ≤ 1000 ∧ L.length ≤ 1000 ∧ Grow e ∧ (∀ k i, k < L.length → (at2 L k i).natAbs ≤ 2 ^ e j0) ∧
  (1 < L.length → e (j0 + (L.length - 2)) ≤ 8990) ∧ e (j0 + (L.length - 1)) ≤ 100000 ∧ Tabs (T1 Pt) H ∧ ∀ (t p q : Addr) (L' : List (List Int)) (ps : List Nat) (H' : Hp), H' t = some (.tup [.ref p, .ref q]) → Mat H' p L' → H' q = some (.lst (nV ps)) → Stp L L' ps rows d e j0 → ExtN H H' → Tabs (T1 Pt) H' → Q (.ref t) H'
theorem ok_st {f fM : Addr} {fd fdM : FuncData} {Pt : Addr} (F : Fun K "stepped" "stepped" sSt f fd) (GM : FnOk P w K mg base CX0 4 fM fdM ["columns", "first", "row"] (spMs K Pt)) (kM : PySem.W.keepIn K (.ref fM) = true) (bM : Binds K fdM ["columns", "first", "row"] []) (gM : mg "made_single" = some (.ref fM))
    (mr : mg "range" = none) (ml : mg "len" = none) (mL : mg "list" = none) : FnOk P w K mg base CX0 5 f fd ["columns", "rows"] (spSt K Pt) := by
  refine F.ok scSt (fun vs H Q E h => ?_) (fun cdv A outer s H vs Q E hr h => ?_)
  · obtain ⟨a, L, rows, d, j0, e, rfl, _⟩ := h
    rfl
  · obtain ⟨a, L, rows, d, j0, e, rfl, hM, hW, hrd, hd, hL, he, hB, hb1, hb2, hT, hQ⟩ := h
    refine ⟨_, pss_cons (ps_set (i := 0) scSt.nd rfl (.inl rfl) (pe_callTy call_list_of (by rfl) mL (by decide +kernel) (pa_cons (pv 0) pa_nil)))
      (pss_cons (ps_set (i := 2) scSt.nd rfl (.inl rfl) (pe_lst pa_nil))
      (pss_cons (ps_for PassesOwn.never rfl (pi_range1 (by rfl) mr (pa_cons (pv 1) pa_nil)) (pg_name (i := 3) scSt.nd rfl (.inl rfl))
        (pss_one (ps_if (PW.pt (pw_and (pt_cmpR op_lt (pe_callB call_len_seq (by rfl) ml PySem.boot_len (pa_cons (pv 2) pa_nil)) (pe_callB call_len_seq (by rfl) ml PySem.boot_len (pa_cons (pv 0) pa_nil)) (nomark _))
            (pw_and1 (pt_val (pe_call GM hr (by rfl) gM kM bM .nil pass0 (pa_cons (pv 0) (pa_cons (pe_callB call_len_seq (by rfl) ml PySem.boot_len (pa_cons (pv 2) pa_nil)) (pa_cons (pv 3) pa_nil))))))))
          (pss_one (ps_expr (pe_bm PySem.F.plainAttrs_list PySem.F.slot_list_append PySem.F.type_list_append mt_append (pv 2) (pa_cons (pv 3) pa_nil)))) pss_nil)))
      (pss_one (ps_ret (pe_tup (pa_cons (pv 0) (pa_cons (pv 2) pa_nil))))))), ?_⟩
    obtain ⟨as, a1, a2⟩ := id hM
    refine q_asgL (el_list (ev_var rfl) (sq_of a1)) (fun p H1 np e1 hp1 => ?_)
    refine q_asgL (el_lst ea_nil (by simp)) (fun q H2 nq e2 hq2 => ?_)
    have hpq : p ≠ q := ne_of_none hp1 nq
    have nq0 : H q = none := fresh_back e1 nq
    refine q_forR1 (n := (rows : Int)) (ea_cons (ev_var rfl) ea_nil) (by omega) (fun i σ' H' => ∃ x3 ps L1, σ' = [some (.ref p), some (.int (rows : Int)), some (.ref q), x3] ∧ MatP H' p L1 (fun b => b ≠ q) ∧ H' q = some (.lst (nV ps)) ∧ Stp L L1 ps i d e j0 ∧ ExtN H H' ∧ Tabs (T1 Pt) H')
      (fun H3 e3 => ⟨_, [], L, rfl, ⟨as, e3 _ _ (e2 _ _ hp1), a2.ex ((e1.trans e2).trans e3), fun b hb z => ?_⟩, e3 _ _ hq2, stp_start hW hB, ExtN.of ((e1.trans e2).trans e3), hT.ext ((e1.trans e2).trans e3)⟩) (fun i σ' H' hi hP => ?_) (fun σ' H' hP => ?_)
    · rw [z] at hb
      obtain ⟨k, hk, ek⟩ := List.getElem_of_mem hb
      have hk2 : k < L.length := by rw [← a2.1]; exact hk
      have := e1 _ _ (a2.2 k q _ (by rw [List.getElem?_eq_getElem hk, ek]) (List.getElem?_eq_getElem hk2))
      rw [this] at nq
      cases nq
    · obtain ⟨x3, ps, L1, rfl, hMP1, hq1, hS, hX, hT1⟩ := hP
      have hM1 := hMP1.mat
      have hl1 : L1.length = L.length := hS.len
      have hle := hS.ech.le
      obtain ⟨as1, c1, c2, c3⟩ := id hMP1
      have hlenq : ∀ H3, Ex H' H3 → Ev (tCB (rLenS K) (tCons (tVar 2) tNil)) [some (.ref p), some (.int (rows : Int)), some (.ref q), some (.int (i : Int))] H3 (.int (ps.length : Int)) := fun H3 e3 => by
        have := ev_len (K := K) (σ := [some (.ref p), some (.int (rows : Int)), some (.ref q), some (.int (i : Int))]) (ta := tVar 2) (ev_var rfl) (sq_of (e3 _ _ hq1))
        rw [List.length_map] at this
        exact this
      have hlenp : Ev (tCB (rLenS K) (tCons (tVar 0) tNil)) [some (.ref p), some (.int (rows : Int)), some (.ref q), some (.int (i : Int))] H' (.int (L.length : Int)) := by
        have := ev_len (K := K) (σ := [some (.ref p), some (.int (rows : Int)), some (.ref q), some (.int (i : Int))]) (ta := tVar 0) (ev_var rfl) (sq_of c1)
        rw [List.length_map, c2.1, hl1] at this
        exact this
      refine (et_test (ev_op (hlenq H' (Ex.refl H')) hlenp (rv_I0 (g := fun i j => .bl (decide (i < j)))))) H' (Ex.refl H') _ fun H3 e3 => ?_
      by_cases hlt : ps.length < L.length
      · rw [decide_eq_true (show ((ps.length : Nat) : Int) < (L.length : Int) by omega)]
        refine iteT ?_
        have hf1 : ps.length < L1.length := by omega
        refine tb_call (ea_cons (ev_var rfl) (ea_cons (hlenq H3 e3) (ea_cons (ev_var rfl) ea_nil))) fun H4 e4 => ?_
        have e34 := e3.trans e4
        refine ⟨p, as1, L1, ps.length, i, d, e (j0 + ps.length), rfl, e34 _ _ c1, c2.ex e34, hS.wid, by omega, hd, hf1, by omega, stp_bd1 hS hlt, fun h2 => ?_, ?_, hT1.ext e34, fun res L2 H5 hpost hMP5 hX5 hT5 => ⟨res, rfl, ?_⟩⟩
        · refine Nat.le_trans (he.mono ?_) (hb1 (by omega))
          omega
        · refine Nat.le_trans (he.mono ?_) hb2
          omega
        have hM5 : MatP H5 p L2 (fun b => b ≠ q) := by
          obtain ⟨as5, g1, g2, g3⟩ := hMP5
          refine ⟨as5, g1, g2, fun b hb => ?_⟩
          rcases g3 b hb with z | z
          · exact c3 b z
          · exact fun zz => z _ (by rw [zz]; exact e34 _ _ hq1)
        have hX6 : ExtN H H5 := exn_exa (hX.trans (ExtN.of e34)) np hX5
        have hq5 : H5 q = some (.lst (nV ps)) := hX5 _ _ hpq.symm (e34 _ _ hq1) (fun _ z => by cases z)
        cases res with
        | true =>
          refine iteT ?_
          refine s_app (l := q) (xs := nV ps) hq5 (ev_var rfl) (ev_var rfl) (by rw [List.length_map]; omega) fun H6 e6 => ?_
          have hM6 := hM5.ex e6
          obtain ⟨as6, z1, z2, z3⟩ := hM6
          refine ⟨_, ps ++ [i], L2, rfl, ⟨as6, by rw [upd_ne hpq]; exact z1, ⟨z2.1, fun k b c k1 k2 => ?_⟩, z3⟩, by rw [upd_same]; show _ = some (HO.lst ((ps ++ [i]).map fun (k : Nat) => V.int (k : Int))); rw [List.map_append]; rfl, stp_yes he hS hlt hpost, ?_, ?_⟩
          · rw [upd_ne (z3 b (List.mem_of_getElem? k1))]
            exact z2.2 k b c k1 k2
          · intro b o hb n
            rw [upd_ne (ne_of_none hb nq0)]
            exact e6 _ _ (hX6 b o hb n)
          · exact Tabs.updA (hT5.ext e6) (e6 _ _ hq5)
        | false =>
          refine iteF ?_
          obtain ⟨z1, z2⟩ := hpost.no rfl
          subst z1
          exact ⟨_, ps, L2, rfl, hM5, hq5, stp_skip hS (fun k k1 k2 => z2 k k1 (by omega)), hX6, hT5⟩
      · rw [decide_eq_false (show ¬ ((ps.length : Nat) : Int) < (L.length : Int) by omega)]
        refine iteF ?_
        refine iteF ?_
        exact ⟨_, ps, L1, rfl, hMP1.ex e3, e3 _ _ hq1, stp_skip hS (fun k k1 k2 => by omega), hX.trans (ExtN.of e3), hT1.ext e3⟩
    · obtain ⟨x3, ps, L1, rfl, hM1, hq1, hS, hX, hT1⟩ := hP
      rw [Int.toNat_natCast] at hS
      exact s_retU (eu_tup (ea_cons (ev_var rfl) (ea_cons (ev_var rfl) ea_nil)) (by simp)) fun t H3 nt e3 ht => hQ t p q L1 ps H3 ht (hM1.mat.ex e3) (e3 _ _ hq1) hS (hX.trans (ExtN.of e3)) (hT1.ext e3)
end
end Mw

-- MwD4
set_option Elab.async false
set_option linter.all false
set_option maxRecDepth 100000
set_option maxHeartbeats 4000000
namespace Mw
open PySem PySem.Spec PyProof.Rows L2 Evl LamX
abbrev sIw : Stmt := topS 8
theorem scIw : FnScope ["thing"] ["thing"] (defScope sIw) := ⟨rfl, rfl, rfl, by decide +kernel, rfl, by decide +kernel, by decide +kernel⟩
abbrev sNw : Stmt := topS 9
theorem scNw : FnScope ["thing", "least", "most"] ["thing", "least", "most"] (defScope sNw) := ⟨rfl, rfl, rfl, by decide +kernel, rfl, by decide +kernel, by decide +kernel⟩
abbrev sNe : Stmt := topS 19
theorem scNe : FnScope ["unknowns", "names", "equations", "row", "number"] ["unknowns", "names", "equations"] (defScope sNe) := ⟨rfl, rfl, rfl, by decide +kernel, rfl, by decide +kernel, by decide +kernel⟩
abbrev sCo : Stmt := topS 20
theorem scCo : FnScope ["equations", "unknowns", "at", "row", "k"] ["equations", "unknowns", "at"] (defScope sCo) := ⟨rfl, rfl, rfl, by decide +kernel, rfl, by decide +kernel, by decide +kernel⟩
section
variable {K : PySem.W.Frag} {σ : L2.St} {H : Hp} {ta tb te : TE}
theorem et_yes : EvT tYes σ H true := fun H1 _ _ q => q H1 (Ex.refl H1)
theorem rc_isi {x : V} {t : String} {c : String} {b : Bool} (ht : ∀ H1, Ex H H1 → TyX K H1 x (.type t)) (h : kitB t c = some b) : RC (rIsi K) [x, .ty c] H (.bl b) := fun H1 e Q q => ⟨x, .ty c, .type t, .type c, b, rfl, .ty c, ht H1 e, kit_ty h, q H1 (Ex.refl H1)⟩
theorem ty_int {i : Int} : TyX K H (.int i) (.type "int") := .base (.int i)
theorem ty_lst {a : Addr} {xs : List V} (h : H a = some (.lst xs)) : TyX K H (.ref a) (.type "list") := .base (.lst h)
end
section
variable {P : Program} {w : World} {K : PySem.W.Frag} {mg : Str → Option Value} {base : Heap}
def spIw : Sp := fun vs H Q _ => ∃ i : Int, vs = [.int i] ∧ RetV (.bl true) H Q
theorem ok_iw {f : Addr} {fd : FuncData} (F : Fun K "is_whole" "is_whole" sIw f fd) (mi : mg "isinstance" = none) (mI : mg "int" = none) (mB : mg "bool" = none) : FnOk P w K mg base CX0 1 f fd ["thing"] spIw := by
  refine F.ok scIw (fun vs H Q E h => ?_) (fun cdv A outer s H vs Q E hr h => ?_)
  · obtain ⟨i, rfl, _⟩ := h
    rfl
  · obtain ⟨i, rfl, hQ⟩ := h
    refine ⟨_, pss_one (ps_ret (pe_and (pe_callB call_isi (by rfl) mi (by decide +kernel) (pa_cons (pv 0) (pa_cons (pe_bltn (v := .ty "int") (by rfl) mI (by decide +kernel) rfl) pa_nil)))
      (pe_one (pe_not (pe_callB call_isi (by rfl) mi (by decide +kernel) (pa_cons (pv 0) (pa_cons (pe_bltn (v := .ty "bool") (by rfl) mB (by decide +kernel) rfl) pa_nil))))))), ?_⟩
    exact s_ret (v := .bl (true && !false)) (ev_andV (ev_cb (ea_cons (ev_var rfl) (ea_cons ev_c ea_nil)) (rc_isi (fun _ _ => ty_int) (by decide +kernel))) fun _ => ev_notV (ev_cb (ea_cons (ev_var rfl) (ea_cons ev_c ea_nil)) (rc_isi (fun _ _ => ty_int) (by decide +kernel)))) hQ
theorem sv_iw {i : Int} {H : Hp} : SpV spIw [.int i] H (.bl true) := fun H1 e Q q E => ⟨i, rfl, q⟩
def spNw : Sp := fun vs H Q _ => ∃ i lo hi : Int, vs = [.int i, .int lo, .int hi] ∧ lo ≤ i ∧ i ≤ hi ∧ RetV (.int i) H Q
theorem ok_nw {f fI T : Addr} {fdI : FuncData} {oc kV doc pm cdv ct : Value} {od an : Option Addr} {osl : Array (Option Value)} (lk : K.lookup f = some ⟨oc, od, .func (PySem.W.fnOf "need_whole" "need_whole" (defArgs sNw) (defBody sNw) (defScope sNw) (.ref T) kV doc pm an cdv ct), osl⟩) (hcd : PySem.W.codeIn K cdv "need_whole" = true)
    (FI : Fun K "is_whole" "is_whole" sIw fI fdI) (bI : Binds K fdI ["thing"] []) (gI : mg "is_whole" = some (.ref fI)) (mi : mg "isinstance" = none) (mI : mg "int" = none) (mB : mg "bool" = none) :
    FnOk P w K mg base CX0 2 f (PySem.W.fnOf "need_whole" "need_whole" (defArgs sNw) (defBody sNw) (defScope sNw) (.ref T) kV doc pm an cdv ct) ["thing", "least", "most"] spNw := by
  have GI : FnOk P w K mg base CX0 1 fI fdI ["thing"] spIw := ok_iw FI mi mI mB
  refine fn_of lk hcd scNw (fun vs H Q E h => ?_) (fun A outer s H vs Q E hr h => ?_)
  · obtain ⟨i, lo, hi, rfl, _⟩ := h
    rfl
  · obtain ⟨i, lo, hi, rfl, h1, h2, hQ⟩ := h
    have hp : PSs (cxOf CX0 P w K mg base ["thing", "least", "most"] "need_whole" (defScope sNw) f cdv A outer s H E).nox (defBody sNw) _ := pss_cons (ps_if (PW.pt (pw_or (pt_not (pt_val (pe_call GI hr (by rfl) gI FI.kp bI .nil pass0 (pa_cons (pv 0) pa_nil)))) (pw_or1 (pt_cmpR op_lt (pv 0) (pv 1) (nomark _))))) (pss_one ps_never) pss_nil)
      (pss_cons (ps_if (PW.pt (pw_and (pt_cmp (pc_notN (pv 2))) (pw_and1 (pt_cmpR op_gt (pv 0) (pv 2) (nomark _))))) (pss_one ps_never) pss_nil) (pss_one (ps_ret (pv 0))))
    refine ⟨_, hp.nox, ?_⟩
    refine q_when (et_or (et_not (et_B (ev_call (dvs := []) (ea_cons (ev_var rfl) ea_nil) sv_iw))) fun _ => et_test (ev_op (ev_var rfl) (ev_var rfl) (rv_I0 (g := fun i j => .bl (decide (i < j)))))) (fun hb => ?_) (fun _ H1 e1 => ?_)
    · have : ¬ i < lo := by omega
      rw [decide_eq_false this] at hb
      cases hb
    · refine q_when (et_and (et_B (b := true) (fun H2 e2 Q2 q2 => ⟨.int hi, rfl, q2 H2 (Ex.refl H2)⟩)) fun _ => et_test (ev_op (ev_var rfl) (ev_var rfl) (rv_I0 (g := fun i j => .bl (decide (j < i)))))) (fun hb => ?_) (fun _ H2 e2 => ?_)
      · have : ¬ hi < i := by omega
        rw [decide_eq_false this] at hb
        cases hb
      · exact s_ret (ev_var rfl) fun H3 e3 => hQ H3 ((e1.trans e2).trans e3)
theorem sv_nw {i lo hi : Int} {H : Hp} (h1 : lo ≤ i) (h2 : i ≤ hi) : SpV spNw [.int i, .int lo, .int hi] H (.int i) := fun H1 e Q q E => ⟨i, lo, hi, rfl, h1, h2, q⟩
end
end Mw

-- MwD5
set_option Elab.async false
set_option linter.all false
set_option maxRecDepth 100000
set_option maxHeartbeats 4000000
namespace Mw
open PySem PySem.Spec PyProof.Rows L2 Evl LamX
section
variable {K : PySem.W.Frag} {σ : L2.St} {H : Hp} {ta tb te : TE}
/-- xs + ys, both new -/
theorem el_cat {xs ys : List V} (ha : EvL ta σ H xs) (hb : EvL tb σ H ys) (hl : xs.length + ys.length ≤ 100000) : EvL (tOp rCat ta tb) σ H (xs ++ ys) := fun H1 e Q q =>
  ha H1 e _ fun a H2 na e2 h2 => hb H2 (e.trans e2) _ fun b H3 nb e3 h3 => ⟨a, b, xs, ys, rfl, rfl, e3 _ _ h2, h3, sz_of hl, fun p np => q p _ (fresh_back (e2.trans e3) np) ((e2.trans e3).trans (Ex.new np)) upd_same⟩
/-- f(xs), xs new -/
theorem ev_cbL {r : List V → Hp → VK → Prop} {xs : List V} {z : V} (h : EvL te σ H xs) (k : ∀ p H1, H1 p = some (.lst xs) → Ex H H1 → RC r [.ref p] H1 z) : Ev (tCB r (tCons te tNil)) σ H z := fun H1 e Q q =>
  h H1 e _ fun p H2 _ e2 h2 => k p H2 h2 (e.trans e2) H2 (Ex.refl H2) Q fun H3 e3 => q H3 (e2.trans e3)
/-- all([True, ..]) -/
theorem rc_all {p : Addr} {bs : List Bool} (h : SqL K H p (bs.map V.bl)) : RC (rAll K) [.ref p] H (.bl (bs.all id)) := fun H1 e Q q => ⟨p, bs, rfl, ex_l e h, q H1 (Ex.refl H1)⟩
theorem trues (n : Nat) : given n (fun _ => true) (fun _ => V.bl true) = (List.replicate n true).map V.bl := by
  unfold given
  rw [List.map_replicate]
  have e : (List.range n).filter (fun _ => true) = List.range n := List.filter_eq_self.mpr fun _ _ => rfl
  rw [e]
  exact List.eq_replicate_iff.mpr ⟨by simp, fun b hb => by
    obtain ⟨_, _, e⟩ := List.mem_map.mp hb
    exact e.symm⟩
theorem all_trues (n : Nat) : (List.replicate n true).all id = true := by
  rw [List.all_eq_true]
  intro x hx
  rw [(List.mem_replicate.mp hx).2]
  rfl
end
section
variable {P : Program} {w : World} {K : PySem.W.Frag} {mg : Str → Option Value} {base : Heap}
def spNe : Sp := fun vs H Q _ => ∃ (a : Addr) (n names : Nat) (eqs : List (List Int)), vs = [.int (n : Int), .int (names : Int), .ref a] ∧ n ≤ 240 ∧ names ≤ 6 ∧ Mat H a eqs ∧ Wid eqs (n + names) ∧ eqs.length ≤ 240 ∧ RetV .non H Q
theorem ok_ne {f fI fN : Addr} {fd fdI fdN : FuncData} (F : Fun K "need_equations" "need_equations" sNe f fd) (GI : FnOk P w K mg base CX0 1 fI fdI ["thing"] spIw) (kI : PySem.W.keepIn K (.ref fI) = true) (bI : Binds K fdI ["thing"] []) (gI : mg "is_whole" = some (.ref fI))
    (GN : FnOk P w K mg base CX0 2 fN fdN ["thing", "least", "most"] spNw) (kN : PySem.W.keepIn K (.ref fN) = true) (bN : Binds K fdN ["thing", "least", "most"] []) (gN : mg "need_whole" = some (.ref fN))
    {t1 t2 t3 : Tok} (c1 : mg "MOST_UNKNOWNS" = some (.int 240 t1)) (c2 : mg "MOST_NAMES" = some (.int 6 t2)) (c3 : mg "MOST_EQUATIONS" = some (.int 240 t3))
    (mi : mg "isinstance" = none) (mL : mg "list" = none) (ml : mg "len" = none) (ma : mg "all" = none) : FnOk P w K mg base CX0 3 f fd ["unknowns", "names", "equations"] spNe := by
  refine F.ok scNe (fun vs H Q E h => ?_) (fun cdv A outer s H vs Q E hr h => ?_)
  · obtain ⟨a, n, names, eqs, rfl, _⟩ := h
    rfl
  · obtain ⟨a, n, names, eqs, rfl, hn, hnm, hM, hW, hl, hQ⟩ := h
    refine ⟨_, pss_cons (ps_expr (pe_call GN hr (by rfl) gN kN bN .nil pass0 (pa_cons (pv 0) (pa_cons pe_int (pa_cons (pe_glob (v := .int 240) rfl c1 ⟨_, rfl⟩) pa_nil)))))
      (pss_cons (ps_expr (pe_call GN hr (by rfl) gN kN bN .nil pass0 (pa_cons (pv 1) (pa_cons pe_int (pa_cons (pe_glob (v := .int 6) rfl c2 ⟨_, rfl⟩) pa_nil)))))
      (pss_cons (ps_if (PW.pt (pw_or (pt_not (pt_val (pe_callB call_isi (by rfl) mi (by decide +kernel) (pa_cons (pv 2) (pa_cons (pe_bltn (v := .ty "list") (by rfl) mL (by decide +kernel) rfl) pa_nil)))))
          (pw_or1 (pt_cmpR op_gt (pe_callB call_len_seq (by rfl) ml PySem.boot_len (pa_cons (pv 2) pa_nil)) (pe_glob (v := .int 240) rfl c3 ⟨_, rfl⟩) (nomark _))))) (pss_one ps_never) pss_nil)
      (pss_one (ps_for PassesOwn.never rfl (pi_list (pv 2)) (pg_name (i := 3) scNe.nd rfl (.inl rfl))
        (pss_one (ps_if (PW.pt (pw_or (pt_not (pt_val (pe_callB call_isi (by rfl) mi (by decide +kernel) (pa_cons (pv 3) (pa_cons (pe_bltn (v := .ty "list") (by rfl) mL (by decide +kernel) rfl) pa_nil)))))
          (pw_or (pt_cmpR op_ne (pe_callB call_len_seq (by rfl) ml PySem.boot_len (pa_cons (pv 3) pa_nil)) (pe_op op_add (pv 0) (pv 1)) (nomark _))
          (pw_or1 (pt_not (pt_val (pe_callB (cr_all rfl) (by rfl) ma (by decide +kernel) (pa_cons (pe_lc (own := [("number", 4)]) (g := gName 4) (tt := tYes) rfl scNe.nd (pi_list (pv 3)) (blkOk_by (by kernel_rfl)) (fun _ _ _ _ _ => pg_name (i := 4) scNe.nd rfl (.inl rfl)) (fun _ _ _ _ _ => pts_nil)
              (fun _ _ _ _ _ => pe_call GI (hr.mono (by decide)) (by rfl) gI kI bI .nil pass0 (pa_cons (pv 4) pa_nil))) pa_nil))))))))
          (pss_one ps_never) pss_nil)))))), ?_⟩
    refine q_drop (ev_call (dvs := []) (z := .int n) (ea_cons (ev_var rfl) (ea_cons ev_c (ea_cons ev_c ea_nil))) (sv_nw (by omega) (by omega))) (fun H1 e1 => ?_)
    refine q_drop (ev_call (dvs := []) (z := .int names) (ea_cons (ev_var rfl) (ea_cons ev_c (ea_cons ev_c ea_nil))) (sv_nw (by omega) (by omega))) (fun H2 e2 => ?_)
    have hM2 := hM.ex (e1.trans e2)
    obtain ⟨as, a1, a2⟩ := id hM2
    refine q_when (b := !true || decide ((240 : Int) < ((as.map V.ref).length : Int))) (et_or (et_not (et_B (ev_cb (ea_cons (ev_var rfl) (ea_cons ev_c ea_nil)) (rc_isi (fun _ e => ty_lst (e _ _ a1)) (by decide +kernel))))) fun _ => et_test (ev_op (ev_len (ev_var rfl) (sq_of a1)) ev_c (rv_I0 (g := fun i j => .bl (decide (j < i)))))) (fun hb => ?_) (fun _ H3 e3 => ?_)
    · have : ¬ (240 : Int) < ((as.map V.ref).length : Int) := by
        rw [List.length_map, a2.1]
        omega
      rw [decide_eq_false this] at hb
      cases hb
    · refine s_forLn (ev_var rfl) (sq_of (e3 _ _ a1)) (fun i σ' H' => ∃ x3, σ' = [some (.int (n : Int)), some (.int (names : Int)), some (.ref a), x3, none] ∧ Ex H3 H') (fun H4 e4 => ⟨_, rfl, e4⟩) (fun i σ' H' _ hP => ?_) (fun i x σ' H' hx hP => ?_) (fun σ' H' hP => ?_)
      · obtain ⟨_, _, e4⟩ := hP
        exact sq_of (e4 _ _ (e3 _ _ a1))
      · obtain ⟨x3, rfl, e4⟩ := hP
        have e24 := e3.trans e4
        rw [List.getElem?_map] at hx
        cases hb : as[i]? with
        | none => rw [hb] at hx; cases hx
        | some b =>
          rw [hb] at hx
          cases hx
          have hi : i < eqs.length := by rw [← a2.1]; exact (List.getElem?_eq_some_iff.mp hb).1
          have hr1 := e24 _ _ (a2.2 i b _ hb (List.getElem?_eq_getElem hi))
          have hw := hW i _ (List.getElem?_eq_getElem hi)
          refine s_when (b := !true || (!decide (((eqs[i].map V.int).length : Int) = (n : Int) + (names : Int)) || !((List.replicate (eqs[i].map V.int).length true).all id))) (et_or (et_not (et_B (ev_cb (ea_cons (ev_var rfl) (ea_cons ev_c ea_nil)) (rc_isi (fun _ e => ty_lst (e _ _ hr1)) (by decide +kernel))))) fun _ =>
            et_or (et_test (ev_op (ev_len (ev_var rfl) (sq_of hr1)) (ev_add (ev_var rfl) (ev_var rfl)) rv_neN)) fun _ => et_not (et_B (ev_cbL (xs := (List.replicate (eqs[i].map V.int).length true).map V.bl) (by
              rw [← trues]
              refine el_lcL (fun _ => true) (fun _ => .bl true) (ev_var rfl) (sq_of hr1) (by rw [List.length_map, hw]; omega) (fun x => rfl) (fun _ _ _ _ _ => et_yes) (fun k x H6 e6 hk _ => ?_)
              rw [List.getElem?_map] at hk
              cases hy : eqs[i][k]? with
              | none => rw [hy] at hk; cases hk
              | some y =>
                rw [hy] at hk
                cases hk
                exact ev_call (dvs := []) (ea_cons (ev_var rfl) ea_nil) sv_iw) fun p H6 hp e6 => rc_all (sq_of hp)))) (fun hb => ?_) (fun _ H5 e5 => ⟨_, rfl, e4.trans e5⟩)
          · rw [all_trues, List.length_map, hw, decide_eq_true (show (((n + names : Nat) : Int) = (n : Int) + (names : Int)) by omega)] at hb
            cases hb
      · obtain ⟨_, _, e4⟩ := hP
        exact hQ H' (((e1.trans e2).trans e3).trans e4)
def spCo : Sp := fun vs H Q _ => ∃ (a : Addr) (n k : Nat) (eqs : List (List Int)), vs = [.ref a, .int (n : Int), .int (k : Int)] ∧ Mat H a eqs ∧ (∀ i, i < eqs.length → k < (eqs.getD i []).length) ∧ n ≤ 240 ∧ eqs.length ≤ 240 ∧ RetL ((col0 eqs n k).map V.int) H Q
theorem ok_co {f : Addr} {fd : FuncData} (F : Fun K "column_of" "column_of" sCo f fd) (mr : mg "range" = none) (mI : mg "int" = none) : FnOk P w K mg base CX0 1 f fd ["equations", "unknowns", "at"] spCo := by
  refine F.ok scCo (fun vs H Q E h => ?_) (fun cdv A outer s H vs Q E hr h => ?_)
  · obtain ⟨a, n, k, eqs, rfl, _⟩ := h
    rfl
  · obtain ⟨a, n, k, eqs, rfl, hM, hk, hn, hl, hQ⟩ := h
    refine ⟨_, pss_one (ps_ret (pe_op op_cat
      (pe_lc (own := [("row", 3)]) (g := gName 3) (tt := tYes) (te := tOp (rIxL K) (tVar 3) (tVar 2)) rfl scCo.nd (pi_list (pv 0)) (blkOk_by (by kernel_rfl)) (fun _ _ _ _ _ => pg_name (i := 3) scCo.nd rfl (.inl rfl)) (fun _ _ _ _ _ => pts_nil) (fun _ _ _ _ _ => pe_ix ix_list (pv 3) (pv 2) (fun _ _ => rfl)))
      (pe_lc (own := [("k", 4)]) (g := gName 4) (tt := tYes) rfl scCo.nd (pi_range1 (by rfl) mr (pa_cons (pv 1) pa_nil)) (blkOk_by (by kernel_rfl)) (fun _ _ _ _ _ => pg_name (i := 4) scCo.nd rfl (.inl rfl)) (fun _ _ _ _ _ => pts_nil)
        (fun _ _ _ _ _ => pe_callTy call_int1 (by rfl) mI (by decide +kernel) (pa_cons (pe_cmpR op_eq (pv 4) (pv 2) (nomark _)) pa_nil))))), ?_⟩
    obtain ⟨as, a1, a2⟩ := id hM
    have ec : (col0 eqs n k).map V.int = (eqs.map fun (r : List Int) => r.getD k 0).map V.int ++ ((List.range n).map fun j => if j = k then (1 : Int) else 0).map V.int := by
      unfold col0
      rw [List.map_append]
    rw [ec] at hQ
    refine s_retL (el_cat (el_lcLi (eqs.map fun (r : List Int) => r.getD k 0) (ev_var rfl) (sq_of a1) (by rw [List.length_map, List.length_map, a2.1]) (by rw [List.length_map, a2.1]; omega) (fun x => rfl) (fun i x r H1 e1 h1 h2 => ?_))
      (el_lcRi (n := n) ((List.range n).map fun j => if j = k then (1 : Int) else 0) (ea_cons (ev_var rfl) ea_nil) (by simp) (by omega) (fun x => rfl) (fun i r H2 e2 hi hr2 => ?_)) ?_) hQ
    · rw [List.getElem?_map] at h1 h2
      cases hb : as[i]? with
      | none => rw [hb] at h1; cases h1
      | some b =>
        cases hc : eqs[i]? with
        | none => rw [hc] at h2; cases h2
        | some c =>
          rw [hb] at h1
          rw [hc] at h2
          cases h1
          cases h2
          have hrow := e1 _ _ (a2.2 i b c hb hc)
          have hk2 := hk i (List.getElem?_eq_some_iff.mp hc).1
          rw [getD_of hc] at hk2
          exact ev_ixI (ev_var rfl) (sq_of hrow) (ev_var rfl) hk2
    · rw [List.getElem?_map, List.getElem?_range hi] at hr2
      cases hr2
      refine ev_cb (ea_cons (ev_op (ev_var rfl) (ev_var rfl) rv_eqN) ea_nil) fun H3 e3 Q3 q3 => .inr ⟨_, rfl, ?_⟩
      have q3 : ∀ H2, Ex H3 H2 → Q3 (V.int (if i = k then 1 else 0)) H2 := q3
      by_cases z : i = k
      · rw [if_pos z] at q3
        rw [decide_eq_true (show ((i : Int) = (k : Int)) by omega)]
        exact q3 H3 (Ex.refl H3)
      · rw [if_neg z] at q3
        rw [decide_eq_false (show ¬ ((i : Int) = (k : Int)) by omega)]
        exact q3 H3 (Ex.refl H3)
    · simp only [List.length_map, List.length_range]
      omega
end
end Mw

-- MwD6
set_option Elab.async false
set_option linter.all false
set_option maxRecDepth 100000
set_option maxHeartbeats 4000000
namespace Mw
open PySem PySem.Spec PyProof.Rows L2 Evl LamX
theorem vadd_at_lt {a b : List Int} {q : Int} {i : Nat} (h : i < a.length) (h2 : i < b.length) : (vadd a b q).getD i 0 = a.getD i 0 + q * b.getD i 0 := by
  have e : (vadd a b q)[i]? = some (a[i] + q * b[i]) := by
    unfold vadd
    rw [List.getElem?_zipWith, List.getElem?_eq_getElem h, List.getElem?_eq_getElem h2]
  rw [getD_of e, getD_of (List.getElem?_eq_getElem h), getD_of (List.getElem?_eq_getElem h2)]
theorem lt_two {a : Int} {n : Nat} (h : a.natAbs ≤ 2 ^ n) : a.natAbs < 2 ^ (n + 1) := Nat.lt_of_le_of_lt h (Nat.pow_lt_pow_right (by decide) (by omega))
theorem step_bd {l y c : Int} {B E : Nat} (hl : l.natAbs ≤ 2 ^ B) (hy : y.natAbs ≤ 2 ^ B) (hc : c.natAbs ≤ 2 ^ E) : (l + (0 - y) * c).natAbs ≤ 2 ^ (B + (E + 1)) := by
  have h1 := Int.natAbs_mul (0 - y) c
  have h2 : (0 - y).natAbs * c.natAbs ≤ 2 ^ B * 2 ^ E := Nat.mul_le_mul (by omega) hc
  have h3 : 2 ^ (B + (E + 1)) = 2 * (2 ^ B * 2 ^ E) := by rw [← Nat.add_assoc, Nat.pow_succ, Nat.pow_add, Nat.mul_comm]
  have h4 : 2 ^ B * 1 ≤ 2 ^ B * 2 ^ E := Nat.mul_le_mul_left _ (Nat.one_le_two_pow)
  omega
abbrev sSf : Stmt := topS 25
theorem scSf : FnScope ["columns", "pivots", "wanted", "left", "found", "row", "at", "often", "rest"] ["columns", "pivots", "wanted"] (defScope sSf) := ⟨rfl, rfl, rfl, by decide +kernel, rfl, by decide +kernel, by decide +kernel⟩
def rDm : List V → Hp → VK → Prop := fun xs H Q => ∃ i j, xs = [.int i, .int j] ∧ CDivP i j ∧ ∀ p, H p = none → Q (.ref p) (upd H p (.tup [.int (i / j), .int (i % j)]))
section
variable {K : PySem.W.Frag} {σ : L2.St} {H : Hp} {ta tb te : TE} {g : TG} {tz : TS} {D : Ends}
theorem eu_dm {i j : Int} (ha : Ev ta σ H (.int i)) (hb : Ev tb σ H (.int j)) (h0 : 0 < j) (h1 : j.natAbs.log2 < 9000) : EvU (tCB rDm (tCons ta (tCons tb tNil))) σ H [.int (i / j), .int (i % j)] := fun H1 e Q q =>
  ha H1 e _ fun H2 e2 => hb H2 (e.trans e2) _ fun H3 e3 => ⟨i, j, rfl, ⟨h0, PyProof.noPylong_of_log2 h1⟩, fun p np => q p _ (fresh_back (e2.trans e3) np) ((e2.trans e3).trans (Ex.new np)) upd_same⟩
theorem q_asgU' {xs : List V} (h : EvU te σ H xs) (k : ∀ p H1, H p = none → Ex H H1 → H1 p = some (.tup xs) → g (.ref p) σ H1 (fun σ' H' => tz D σ' H')) : tSeq (tAsg te g) tz D σ H := h H (Ex.refl H) (fun x H1 => g x σ H1 (fun σ' H' => tz D σ' H')) fun p H1 hp e h1 => k p H1 hp e h1
theorem sl_added {a b : Addr} {xs ys : List Int} {q : Int} (hx : SqL K H a (xs.map V.int)) (hy : SqL K H b (ys.map V.int)) (hz : xs.length ≤ 1000) (hm : ∀ i, i < xs.length → CMulX q (ys.getD i 0)) : SpL (spAdded K) [.ref a, .ref b, .int q] H ((vadd xs ys q).map V.int) := fun H1 e Q q' E =>
  ⟨a, b, xs, ys, q, rfl, ex_l e hx, ex_l e hy, hz, hm, q'⟩
theorem rc_len {p : Addr} {xs : List V} (h : SqL K H p xs) {n : Int} (hn : (xs.length : Int) = n) {te : TE} (ha : Ev te σ H (.ref p)) : Ev (tCB (rLenS K) (tCons te tNil)) σ H (.int n) := by
  rw [← hn]
  exact ev_len ha h
end
section
variable {P : Program} {w : World} {K : PySem.W.Frag} {mg : Str → Option Value} {base : Heap}
def spSf (K : PySem.W.Frag) : Sp := fun vs H Q _ => ∃ (ac ap aw : Addr) (L : List (List Int)) (ps : List Nat) (wn : List Int) (d : Nat) (y : Nat → Int) (E g : Nat), vs = [.ref ac, .ref ap, .ref aw] ∧ Mat H ac L ∧ H ap = some (.lst (nV ps)) ∧ H aw = some (.lst (wn.map V.int)) ∧ Wid L d ∧ wn.length ≤ d ∧ d ≤ 1000 ∧
  Ech L.length wn.length (at2 L) ps ∧ (∀ i, i < wn.length → Lin L.length (at2 L) y i = wn.getD i 0) ∧ (∀ k i, k < L.length → (at2 L k i).natAbs ≤ 2 ^ E) ∧ (∀ k, k < ps.length → (at2 L k (ps.getD k 0)).natAbs ≤ 2 ^ 8990) ∧ (∀ i, (wn.getD i 0).natAbs ≤ 2 ^ g) ∧
  L.length ≤ 240 ∧ g + 240 * (E + 1) ≤ 60000000 ∧ ∀ (t q : Addr) (H' : Hp), Ex H H' → H' t = some (.tup [.ref q, .non, .bl false]) → H' q = some (.lst (((List.range ps.length).map y).map V.int)) → (∀ k, k < ps.length → (y k).natAbs ≤ 2 ^ (g + ps.length * (E + 1))) → Q (.ref t) H'
theorem ok_sf {f fA : Addr} {fd fdA : FuncData} (F : Fun K "steps_for" "steps_for" sSf f fd) (GA : FnOk P w K mg base CX0 1 fA fdA ["one", "other", "often"] (spAdded K)) (kA : PySem.W.keepIn K (.ref fA) = true) (bA : Binds K fdA ["one", "other", "often"] []) (gA : mg "added" = some (.ref fA))
    (mr : mg "range" = none) (ml : mg "len" = none) (mL : mg "list" = none) (md : mg "divmod" = none) : FnOk P w K mg base CX0 2 f fd ["columns", "pivots", "wanted"] (spSf K) := by
  refine F.ok scSf (fun vs H Q E h => ?_) (fun cdv A outer s H vs Q E' hr h => ?_)
  · obtain ⟨ac, ap, aw, L, ps, wn, d, y, E, g, rfl, _⟩ := h
    rfl
  · obtain ⟨ac, ap, aw, L, ps, wn, d, y, E, g, rfl, hM, hp, hw, hW, hwd, hd, hE, hy, hbL, hbp, hbw, hL, hgE, hQ⟩ := h
    refine ⟨_, pss_cons (ps_set (i := 3) scSf.nd rfl (.inl rfl) (pe_callTy call_list_of (by rfl) mL (by decide +kernel) (pa_cons (pv 2) pa_nil)))
      (pss_cons (ps_set (i := 4) scSf.nd rfl (.inl rfl) (pe_lst pa_nil))
      (pss_cons (ps_for PassesOwn.never rfl (pi_range1 (by rfl) mr (pa_cons (pe_callB call_len_seq (by rfl) ml PySem.boot_len (pa_cons (pv 2) pa_nil)) pa_nil)) (pg_name (i := 5) scSf.nd rfl (.inl rfl))
        (pss_cons (ps_set (i := 6) scSf.nd rfl (.inl rfl) (pe_callB call_len_seq (by rfl) ml PySem.boot_len (pa_cons (pv 4) pa_nil)))
        (pss_one (ps_if (PW.pt (pw_and (pt_cmpR op_lt (pv 6) (pe_callB call_len_seq (by rfl) ml PySem.boot_len (pa_cons (pv 1) pa_nil)) (nomark _)) (pw_and1 (pt_cmpR op_eq (pe_ix ix_list (pv 1) (pv 6) (fun _ _ => rfl)) (pv 5) (nomark _)))))
          (pss_cons (ps_asg (pe_callB call_divmodW (by rfl) md (by decide +kernel) (pa_cons (pe_ix ix_list (pv 3) (pv 5) (fun _ _ => rfl)) (pa_cons (pe_ix ix_list (pe_ix ix_list (pv 0) (pv 6) (fun _ _ => rfl)) (pv 5) (fun _ _ => rfl)) pa_nil)))
              (pg_tup rfl (pgs_cons (pg_name (i := 7) scSf.nd rfl (.inl rfl)) (pgs_cons (pg_name (i := 8) scSf.nd rfl (.inl rfl)) pgs_nil))))
          (pss_cons (ps_if (pt_cmpR op_ne (pv 8) pe_int (nomark _)) (pss_one ps_never) pss_nil)
          (pss_cons (ps_expr (pe_bm PySem.F.plainAttrs_list PySem.F.slot_list_append PySem.F.type_list_append mt_append (pv 4) (pa_cons (pv 7) pa_nil)))
          (pss_one (ps_set (i := 3) scSf.nd rfl (.inl rfl) (pe_call GA hr (by rfl) gA kA bA .nil pass0 (pa_cons (pv 3) (pa_cons (pe_ix ix_list (pv 0) (pv 6) (fun _ _ => rfl)) (pa_cons (pe_op op_sub pe_int (pv 7)) pa_nil)))))))))
          (pss_one (ps_if (pt_cmpR op_ne (pe_ix ix_list (pv 3) (pv 5) (fun _ _ => rfl)) pe_int (nomark _)) (pss_one ps_never) pss_nil))))))
      (pss_one (ps_ret (pe_tup (pa_cons (pv 4) (pa_cons pe_non (pa_cons pe_bl pa_nil)))))))), ?_⟩
    have hle := hE.le
    refine q_asgL (el_list (ev_var rfl) (sq_of hw)) (fun pl H1 npl e1 hpl => ?_)
    refine q_asgL (el_lst ea_nil (by simp)) (fun pf H2 npf e2 hpf => ?_)
    have nlf : pl ≠ pf := ne_of_none hpl npf
    have npf0 : H pf = none := fresh_back e1 npf
    have e12 := e1.trans e2
    refine q_forR1 (n := (wn.length : Int)) (ea_cons (rc_len (sq_of (e12 _ _ hw)) (by rw [List.length_map]) (ev_var rfl)) ea_nil) (by omega)
      (fun i σ' H' => ∃ x5 x6 x7 x8 pl c, ∃ lf : List Int, σ' = [some (.ref ac), some (.ref ap), some (.ref aw), some (.ref pl), some (.ref pf), x5, x6, x7, x8] ∧ H' pl = some (.lst (lf.map V.int)) ∧ H' pf = some (.lst (((List.range c).map y).map V.int)) ∧ pl ≠ pf ∧ c ≤ ps.length ∧ (∀ k, k < c → ps.getD k 0 < i) ∧ (∀ k, c ≤ k → k < ps.length → i ≤ ps.getD k 0) ∧
        lf.length = wn.length ∧ (∀ j, j < wn.length → lf.getD j 0 = wn.getD j 0 - S c fun k => y k * at2 L k j) ∧ (∀ j, (lf.getD j 0).natAbs ≤ 2 ^ (g + c * (E + 1))) ∧ (∀ k, k < c → (y k).natAbs ≤ 2 ^ (g + c * (E + 1))) ∧ Ex H H')
      (fun H3 e3 => ⟨none, none, none, none, pl, 0, wn, rfl, e3 _ _ (e2 _ _ hpl), e3 _ _ hpf, nlf, Nat.zero_le _, fun k hk => absurd hk (Nat.not_lt_zero _), fun k _ _ => Nat.zero_le _, rfl, fun j _ => by show _ = _ - (0 : Int); omega, fun j => by rw [Nat.zero_mul, Nat.add_zero]; exact hbw j, fun k hk => absurd hk (Nat.not_lt_zero _), e12.trans e3⟩)
      (fun i σ' H' hi hP => ?_) (fun σ' H' hP => ?_)
    · obtain ⟨x5, x6, x7, x8, pl, c, lf, rfl, hl, hf, nlf, hc, hlo, hhi, hlen, hlf, hbl, hby, eX⟩ := hP
      have hiw : i < wn.length := by omega
      have hcc : c * (E + 1) ≤ 240 * (E + 1) := Nat.mul_le_mul_right _ (by omega)
      refine q_asg (v := .int (c : Int)) (rc_len (sq_of hf) (by rw [List.length_map, List.length_map, List.length_range]) (ev_var rfl)) (fun H3 e3 => ?_)
      have hpt : EvT (tTest (tOp (rI0 fun i j => V.bl (decide (i < j))) (tVar 6) (tCB (rLenS K) (tCons (tVar 1) tNil)))) [some (.ref ac), some (.ref ap), some (.ref aw), some (.ref pl), some (.ref pf), some (.int (i : Int)), some (.int (c : Int)), x7, x8] H3 (decide ((c : Int) < (ps.length : Int))) :=
        et_test (ev_op (ev_var rfl) (rc_len (sq_of ((eX.trans e3) _ _ hp)) (by rw [List.length_map]) (ev_var rfl)) (rv_I0 (g := fun i j => .bl (decide (i < j)))))
      by_cases hpv : c < ps.length ∧ ps.getD c 0 = i
      · obtain ⟨hc1, hc2⟩ := hpv
        have hce : (c : Int) < (ps.length : Int) := by omega
        have hcL : c < L.length := by omega
        refine s_if (b := true) (et_is (et_and hpt fun _ => et_test (ev_op (ev_op (ev_var rfl) (ev_var rfl) (rv_ixL (v := .int (ps.getD c 0 : Nat)) (sq_of ((eX.trans e3) _ _ hp)) (atI_nat ?_))) (ev_var rfl) rv_eqN)) ?_) (fun _ H4 e4 => ?_) (fun hb => Bool.noConfusion hb)
        · rw [List.getElem?_map, List.getElem?_eq_getElem hc1, getD_of (List.getElem?_eq_getElem hc1)]
          rfl
        · rw [decide_eq_true hce, hc2, decide_eq_true rfl]
          rfl
        have e34 := e3.trans e4
        have hM4 := hM.ex (eX.trans e34)
        have hdv : lf.getD i 0 = y c * at2 L c i := by
          rw [hlf i hiw, ← hy i hiw]
          have := stp_piv hE y hc1
          rw [hc2] at this
          exact this
        have hpos : 0 < at2 L c i := by
          have := hE.pos c hc1
          rw [hc2] at this
          exact this
        have hplim : (at2 L c i).natAbs.log2 < 9000 := by
          have := hbp c hc1
          rw [hc2] at this
          exact PySem.Flt.log2_lt_of (show 0 < 9000 by decide) (Nat.lt_of_le_of_lt this (Nat.pow_lt_pow_right (by decide) (show 8990 < 9000 by decide)))
        have hid : i < (L.getD c []).length := by rw [hW.getD hcL]; omega
        refine q_asgU' (eu_dm (ev_ixI (ev_var rfl) (sq_of (e34 _ _ hl)) (ev_var rfl) (by rw [hlen]; exact hiw)) (ev_at2 (ev_var rfl) hM4 (ev_var rfl) hcL (ev_var rfl) hid) hpos hplim) (fun t H5 nt e5 ht => ?_)
        rw [hdv, Int.mul_ediv_cancel _ (by omega), Int.mul_emod_left] at ht
        refine ⟨t, _, rfl, st_of ht, rfl, .int (y c), _, rfl, .int 0, [], rfl, rfl, ?_⟩
        refine q_when (b := !decide ((0 : Int) = 0)) (et_test (ev_op (ev_var rfl) ev_c rv_neN)) (fun hb => Bool.noConfusion hb) (fun _ H6 e6 => ?_)
        have e36 := (e34.trans e5).trans e6
        refine q_app (l := pf) (xs := ((List.range c).map y).map V.int) (e36 _ _ hf) (ev_var rfl) (ev_var rfl) (by rw [List.length_map, List.length_map, List.length_range]; omega) (fun H7 e7 => ?_)
        have e37 := e36.trans e7
        have eX7 : Ex H (upd H7 pf (.lst (((List.range c).map y).map V.int ++ [.int (y c)]))) := Ex.mut (eX.trans e37) npf0
        have hl8 : (upd H7 pf (.lst (((List.range c).map y).map V.int ++ [.int (y c)]))) pl = some (.lst (lf.map V.int)) := by
          rw [upd_ne nlf]
          exact e37 _ _ hl
        have hf8 : (upd H7 pf (.lst (((List.range c).map y).map V.int ++ [.int (y c)]))) pf = some (.lst (((List.range (c + 1)).map y).map V.int)) := by
          rw [upd_same, List.range_succ, List.map_append, List.map_append]
          rfl
        generalize upd H7 pf (.lst (((List.range c).map y).map V.int ++ [.int (y c)])) = H8 at eX7 hl8 hf8 ⊢
        obtain ⟨br, br1, br2⟩ := ev_row (K := K) (k := c) (σ := [some (.ref ac), some (.ref ap), some (.ref aw), some (.ref pl), some (.ref pf), some (.int (i : Int)), some (.int (c : Int)), some (.int (y c)), some (.int 0)]) (ta := tVar 0) (tb := tVar 6) (ev_var rfl) (hM.ex eX7) (ev_var rfl) hcL
        have hyc : (y c).natAbs ≤ 2 ^ (g + c * (E + 1)) := by
          have h1 := hbl i
          rw [hdv, Int.natAbs_mul] at h1
          have h2 : (y c).natAbs * 1 ≤ (y c).natAbs * (at2 L c i).natAbs := Nat.mul_le_mul_left _ (by omega)
          omega
        have hgc : g + (c + 1) * (E + 1) = g + c * (E + 1) + (E + 1) := by rw [Nat.succ_mul, Nat.add_assoc]
        refine s_asgL (xs := (vadd lf (L.getD c []) (0 - y c)).map V.int) (el_call (dvs := []) (ea_cons (ev_var rfl) (ea_cons br2 (ea_cons (ev_sub ev_c (ev_var rfl)) ea_nil))) (sl_added (sq_of hl8) (sq_of br1) (by omega) fun j hj => ?_)) (fun q H9 nq e9 hq9 => ?_)
        · exact mulx_ok (a := g + c * (E + 1) + 1) (b := E + 1) (by rw [Int.zero_sub, Int.natAbs_neg]; exact lt_two hyc) (lt_two (hbL c j hcL)) (by omega)
        · refine ⟨_, _, _, _, q, c + 1, vadd lf (L.getD c []) (0 - y c), rfl, hq9, e9 _ _ hf8, fun z => ?_, by omega, fun k hk => ?_, fun k k1 k2 => ?_, ?_, fun j hj => ?_, fun j => ?_, fun k hk => ?_, eX7.trans e9⟩
          · rw [z, hf8] at nq
            cases nq
          · by_cases z : k = c
            · rw [z, hc2]
              omega
            · have := hlo k (by omega)
              omega
          · have := hE.inc c k (by omega) k2
            omega
          · unfold vadd
            rw [List.length_zipWith, hlen, hW.getD hcL]
            omega
          · rw [vadd_at_lt (by omega) (by rw [hW.getD hcL]; omega), hlf j hj]
            show _ - _ + (0 - y c) * at2 L c j = wn.getD j 0 - (S c (fun k => y k * at2 L k j) + y c * at2 L c j)
            rw [Int.zero_sub, Int.neg_mul]
            omega
          · rw [hgc]
            by_cases hj : j < wn.length
            · rw [vadd_at_lt (by omega) (by rw [hW.getD hcL]; omega)]
              exact step_bd (hbl j) hyc (hbL c j hcL)
            · rw [getD_out (by unfold vadd; rw [List.length_zipWith]; omega)]
              exact Nat.zero_le _
          · rw [hgc]
            by_cases z : k = c
            · rw [z]
              exact Nat.le_trans hyc (two_pow_mono (by omega))
            · exact Nat.le_trans (hby k (by omega)) (two_pow_mono (by omega))
      · have hz : lf.getD i 0 = 0 := by
          rw [hlf i hiw, ← hy i hiw]
          exact stp_no hE y hc hiw fun k k1 k2 => by
            have h1 := hhi k k1 k2
            by_cases z : ps.getD k 0 = i
            · exfalso
              by_cases w : k = c
              · exact hpv ⟨by omega, by rw [← w]; exact z⟩
              · have := hE.inc c k (by omega) k2
                have := hhi c (Nat.le_refl _) (by omega)
                omega
            · omega
        refine s_if (b := false) ?_ (fun hb => Bool.noConfusion hb) (fun _ H4 e4 => ?_)
        · by_cases hc1 : c < ps.length
          · have hce : (c : Int) < (ps.length : Int) := by omega
            refine et_is (et_and hpt fun _ => et_test (ev_op (ev_op (ev_var rfl) (ev_var rfl) (rv_ixL (v := .int (ps.getD c 0 : Nat)) (sq_of ((eX.trans e3) _ _ hp)) (atI_nat ?_))) (ev_var rfl) rv_eqN)) ?_
            · rw [List.getElem?_map, List.getElem?_eq_getElem hc1, getD_of (List.getElem?_eq_getElem hc1)]
              rfl
            · rw [decide_eq_false (show ¬ ((ps.getD c 0 : Nat) : Int) = (i : Int) from fun z => hpv ⟨hc1, by omega⟩), Bool.and_false]
          · refine et_is (et_and (b := false) hpt fun hb => ?_) (by rw [Bool.and_false])
            exact absurd (of_decide_eq_true hb) (by omega)
        · have e34 := e3.trans e4
          refine s_when (b := !decide (lf.getD i 0 = 0)) (et_test (ev_op (ev_ixI (ev_var rfl) (sq_of (e34 _ _ hl)) (ev_var rfl) (by rw [hlen]; exact hiw)) ev_c rv_neN)) (fun hb => ?_) (fun _ H5 e5 => ?_)
          · rw [hz] at hb
            cases hb
          · have e35 := e34.trans e5
            refine ⟨_, _, _, _, pl, c, lf, rfl, e35 _ _ hl, e35 _ _ hf, nlf, hc, fun k hk => by have := hlo k hk; omega, fun k k1 k2 => ?_, hlen, hlf, hbl, hby, eX.trans e35⟩
            have h1 := hhi k k1 k2
            by_cases z : ps.getD k 0 = i
            · exfalso
              by_cases w : k = c
              · exact hpv ⟨by omega, by rw [← w]; exact z⟩
              · have := hE.inc c k (by omega) k2
                have := hhi c (Nat.le_refl _) (by omega)
                omega
            · omega
    · obtain ⟨x5, x6, x7, x8, pl, c, lf, rfl, hl, hf, nlf, hc, hlo, hhi, hlen, hlf, hbl, hby, eX⟩ := hP
      rw [Int.toNat_natCast] at hhi
      have hcr : c = ps.length := by
        by_cases z : c < ps.length
        · have h1 := hhi c (Nat.le_refl _) z
          have h2 := hE.lt c z
          omega
        · omega
      subst hcr
      exact s_retU (eu_tup (ea_cons (ev_var rfl) (ea_cons ev_c (ea_cons ev_c ea_nil))) (by simp)) fun t H3 nt e3 ht => hQ t pf H3 (eX.trans e3) ht (e3 _ _ hf) hby
end
end Mw

-- MwD7
set_option Elab.async false
set_option linter.all false
set_option maxRecDepth 100000
set_option maxHeartbeats 4000000
namespace Mw
open PySem PySem.Spec PyProof.Rows L2 Evl LamX
/-! what solved tells -/
structure Sol (n names : Nat) (eqs : List (List Int)) (free : Nat) (rows : List (List Int)) (e : Nat → Nat) (j0 G : Nat) : Prop where
  len : rows.length = n
  wid : Wid rows (free + names)
  cnt : ∃ r, r + free = n ∧ r ≤ eqs.length ∧ ∀ u j, u < n → j < free → (at2 rows u j).natAbs ≤ 2 ^ e (j0 + min r (n - 1))
  ker : ∀ j, j < free → ∀ i, i < eqs.length → (S n fun u => at2 eqs i u * at2 rows u j) = 0
  all : ∀ z : Nat → Int, (∀ i, i < eqs.length → (S n fun u => at2 eqs i u * z u) = 0) → ∃ y : Nat → Int, ∀ u, u < n → z u = S free fun j => y j * at2 rows u j
  ind : ∀ y : Nat → Int, (∀ u, u < n → (S free fun j => y j * at2 rows u j) = 0) → ∀ j, j < free → y j = 0
  par : ∀ a, a < names → ∀ i, i < eqs.length → (S n fun u => at2 eqs i u * at2 rows u (free + a)) + at2 eqs i (n + a) = 0
  bd : ∀ a u, a < names → u < n → (at2 rows u (free + a)).natAbs ≤ 2 ^ G
theorem ech_le {n m : Nat} {C : Cols} {ps : List Nat} (E : Ech n m C ps) : ps.length ≤ m := by
  have h : ∀ k, k < ps.length → k ≤ ps.getD k 0 := by
    intro k
    induction k with
    | zero => intro _; exact Nat.zero_le _
    | succ k ih =>
      intro hk
      have := ih (by omega)
      have := E.inc k (k + 1) (by omega) hk
      omega
  by_cases z : ps.length = 0
  · omega
  · have h1 := h (ps.length - 1) (by omega)
    have h2 := E.lt (ps.length - 1) (by omega)
    omega
theorem cut_drop (xs : List V) (m : Nat) : cutV xs (some (m : Int)) none = xs.drop m := by
  unfold cutV
  rw [HT.sIx_nat, HT.sIx_none]
  by_cases h : m ≤ xs.length
  · rw [Nat.min_eq_left h]
    exact List.take_of_length_le (by rw [List.length_drop]; exact Nat.le_refl _)
  · rw [Nat.min_eq_right (by omega), List.drop_of_length_le (Nat.le_refl _), List.drop_of_length_le (by omega), List.take_nil]
theorem cut_take (xs : List V) (m : Nat) : cutV xs none (some (m : Int)) = xs.take m := by
  unfold cutV
  rw [HT.sIx_nat, HT.sIx_none, List.drop_zero, Nat.sub_zero]
  by_cases h : m ≤ xs.length
  · rw [Nat.min_eq_left h]
  · rw [Nat.min_eq_right (by omega), List.take_of_length_le (Nat.le_refl _), List.take_of_length_le (by omega)]
section
variable {K : PySem.W.Frag} {σ : L2.St} {H : Hp} {ta tb tc te tl : TE} {tA : TA} {g : TG} {tz tu : TS} {D : Ends} {sp : Sp} {E : XK}
theorem q_raw (h : te σ H (fun x H1 => g x σ H1 (fun σ' H' => tz D σ' H'))) : tSeq (tAsg te g) tz D σ H := h
theorem tcall_A {vs dvs : List V} {Q : VK} (h : EvA tA σ H vs) (k : ∀ H1, Ex H H1 → sp (vs ++ dvs) H1 Q E) : tCall sp dvs E tA σ H Q := h H (Ex.refl H) (fun vs H1 => sp (vs ++ dvs) H1 Q E) k
theorem tcall_N {dvs : List V} {P : Addr → Hp → Prop} {Q : VK} (h : EvN ta σ H P) (k : ∀ p H1, H p = none → Ex H H1 → P p H1 → tA σ H1 (fun vs H2 => sp ((.ref p :: vs) ++ dvs) H2 Q E)) : tCall sp dvs E (tCons ta tA) σ H Q := h H (Ex.refl H) (fun x H1 => tA σ H1 (fun vs H2 => sp ((x :: vs) ++ dvs) H2 Q E)) k
/-- the second argument new -/
theorem el_call3m {x z : V} {ys zs : List V} (ha : Ev ta σ H x) (hb : EvL tb σ H ys) (hc : Ev tc σ H z) (hs : ∀ q H1, Ex H H1 → H1 q = some (.lst ys) → SpL sp [x, .ref q, z] H1 zs) : EvL (tCall sp [] E (tCons ta (tCons tb (tCons tc tNil)))) σ H zs := fun H1 e Q q =>
  ha H1 e _ fun H2 e2 => hb H2 (e.trans e2) _ fun p H3 np e3 hp => hc H3 ((e.trans e2).trans e3) _ fun H4 e4 => hs p H4 (((e.trans e2).trans e3).trans e4) (e4 _ _ hp) H4 (Ex.refl H4) Q (fun r H5 hr e5 h5 => q r H5 (fresh_back ((e2.trans e3).trans e4) hr) (((e2.trans e3).trans e4).trans e5) h5) E
/-- a list of refs' rows, the list new -/
theorem em_lcNL {xs : List V} {j : Nat} {vs : List Nat} (L : List (List Int)) (h : EvL tl σ H xs) (hl : L.length = xs.length) (hz : xs.length ≤ 40000) (hw : ∀ x, wipe ((wipe σ vs).set j (some x)) vs = wipe σ vs)
    (he : ∀ (i : Nat) (x : V) (c : List Int) H1, Ex H H1 → xs[i]? = some x → L[i]? = some c → EvL te ((wipe σ vs).set j (some x)) H1 (c.map V.int)) : EvM (tLc (iList K tl) (gName j) tYes te vs) σ H L := fun H0 e Q q => h H0 e _ fun a H1 na e1 ha =>
  ⟨a, rfl, ⟨xs, sq_of ha⟩, fun Dl hD => lc_rows (walk_list (K := K) (a := a) (xs := xs)) (fun H' e' => sq_of (e' _ _ ha)) hD L hl hz
    (fun i x H2 H3 r e2 y hr => by
      obtain ⟨rfl, hy⟩ := y
      exact yld_name hw (he i x r _ ((e.trans e1).trans e2) hy hr)) fun H' e' h' => q Dl H' (fresh_back e1 hD) (e1.trans e') h'⟩
/-- for x, y in zip(xs, ys) -/
theorem q_forZ {i j : Nat} {a b : Addr} {xs ys : List V} (h : EvA tA σ H [.ref a, .ref b]) (hx : SqL K H a xs) (hy : SqL K H b ys) (Pv : Nat → L2.St → Hp → Prop) (h0 : ∀ H1, Ex H H1 → Pv 0 σ H1) (hG : ∀ k σ' H', k ≤ min xs.length ys.length → Pv k σ' H' → SqL K H' a xs ∧ SqL K H' b ys)
    (hs : ∀ (k : Nat) (x y : V) σ' H' H1, xs[k]? = some x → ys[k]? = some y → Pv k σ' H' → Ex H' H1 → tu { D with nx := Pv (k + 1), ct := Pv (k + 1), bk := tz D } ((σ'.set i (some x)).set j (some y)) H1) (hd : ∀ σ' H', Pv (min xs.length ys.length) σ' H' → tz D σ' H') :
    tSeq (tFor (iZip K tA) (g2 K i j) tu) tz D σ H := h H (Ex.refl H) _ fun H1 e1 =>
  ⟨a, b, xs, ys, rfl, ex_l e1 hx, ex_l e1 hy, for_it (walk_zip (K := K) (a := a) (b := b) (xs := xs) (ys := ys) rfl) (D := { D with nx := tz D }) Pv (h0 H1 e1) hG (fun k v σ' H' H2 hk hp y => by
    obtain ⟨T, x, z, rfl, hT, rfl, h1, h2⟩ := y
    exact ⟨T, [x, z], rfl, st_of upd_same, rfl, x, [z], rfl, z, [], rfl, rfl, hs k x z σ' H' _ h1 h2 hp (Ex.new hT)⟩) hd⟩
/-- a row put behind -/
theorem mat_app {p w : Addr} {as : List Addr} {L : List (List Int)} {c : List Int} (h1 : H p = some (.lst (as.map V.ref))) (h2 : MatA H as L) (hw : H w = some (.lst (c.map V.int))) (hn : w ≠ p) :
    Mat (upd H p (.lst (as.map V.ref ++ [.ref w]))) p (L ++ [c]) := by
  refine ⟨as ++ [w], by rw [upd_same, List.map_append]; rfl, by rw [List.length_append, List.length_append, h2.1]; rfl, fun k b c' e1 e2 => ?_⟩
  by_cases hk : k < as.length
  · rw [List.getElem?_append_left hk] at e1
    rw [List.getElem?_append_left (by rw [← h2.1]; exact hk)] at e2
    have q := h2.2 k b c' e1 e2
    rw [upd_ne (ref_ne h1 q (by omega))]
    exact q
  · have ek : k = as.length := by
      have := (List.getElem?_eq_some_iff.mp e1).1
      rw [List.length_append] at this
      simp at this
      omega
    subst ek
    rw [List.getElem?_append_right (Nat.le_refl _), Nat.sub_self] at e1
    rw [List.getElem?_append_right (by rw [h2.1]; exact Nat.le_refl _), ← h2.1, Nat.sub_self] at e2
    have eb : w = b := by simpa using e1
    have ec : c = c' := by simpa using e2
    subst eb
    subst ec
    rw [upd_ne hn]
    exact hw
end
theorem matP_app {H : Hp} {p w : Addr} {as : List Addr} {L : List (List Int)} {c : List Int} {R : Addr → Prop} (h1 : H p = some (.lst (as.map V.ref))) (h2 : MatA H as L) (h3 : ∀ b, b ∈ as → R b) (hw : H w = some (.lst (c.map V.int))) (hn : w ≠ p) (hr : R w) :
    MatP (upd H p (.lst (as.map V.ref ++ [.ref w]))) p (L ++ [c]) R := by
  refine ⟨as ++ [w], by rw [upd_same, List.map_append]; rfl, ⟨by rw [List.length_append, List.length_append, h2.1]; rfl, fun k b c' e1 e2 => ?_⟩, fun b hb => ?_⟩
  · by_cases hk : k < as.length
    · rw [List.getElem?_append_left hk] at e1
      rw [List.getElem?_append_left (by rw [← h2.1]; exact hk)] at e2
      have q := h2.2 k b c' e1 e2
      rw [upd_ne (ref_ne h1 q (by omega))]
      exact q
    · have ek : k = as.length := by
        have := (List.getElem?_eq_some_iff.mp e1).1
        rw [List.length_append] at this
        simp at this
        omega
      subst ek
      rw [List.getElem?_append_right (Nat.le_refl _), Nat.sub_self] at e1
      rw [List.getElem?_append_right (by rw [h2.1]; exact Nat.le_refl _), ← h2.1, Nat.sub_self] at e2
      have eb : w = b := by simpa using e1
      have ec : c = c' := by simpa using e2
      subst eb
      subst ec
      rw [upd_ne hn]
      exact hw
  · rcases List.mem_append.mp hb with z | z
    · exact h3 b z
    · rw [List.mem_singleton.mp z]
      exact hr
theorem wid_app {L : List (List Int)} {c : List Int} {d : Nat} (h : Wid L d) (hc : c.length = d) : Wid (L ++ [c]) d := fun k c' e => by
  by_cases hk : k < L.length
  · rw [List.getElem?_append_left hk] at e
    exact h k c' e
  · have := (List.getElem?_eq_some_iff.mp e).1
    rw [List.length_append] at this
    simp at this
    have ek : k = L.length := by omega
    subst ek
    rw [List.getElem?_append_right (Nat.le_refl _), Nat.sub_self] at e
    have ec : c = c' := by simpa using e
    rw [← ec]
    exact hc
theorem at2_app_lt {L : List (List Int)} {c : List Int} {k i : Nat} (h : k < L.length) : at2 (L ++ [c]) k i = at2 L k i := by
  unfold at2
  rw [getD_app_l h]
theorem at2_app_eq {L : List (List Int)} {c : List Int} {i : Nat} : at2 (L ++ [c]) L.length i = c.getD i 0 := by
  unfold at2
  have := getD_app_r (a := L) (b := [c]) (k := 0) (d := [])
  rw [Nat.add_zero] at this
  rw [this]
  rfl
end Mw

-- MwSol2
set_option Elab.async false
set_option linter.all false
set_option maxRecDepth 100000
namespace Mw
def opens (many r : Nat) (L : List (List Int)) : List (List Int) := (L.drop r).map fun (c : List Int) => c.drop many
def rowOf (O B : List (List Int)) (u : Nat) : List Int := (O.map fun (c : List Int) => c.getD u 0) ++ B.map fun (c : List Int) => c.getD u 0
theorem opens_len {many r : Nat} {L : List (List Int)} : (opens many r L).length = L.length - r := by unfold opens; rw [List.length_map, List.length_drop]
theorem at2_opens {many r : Nat} {L : List (List Int)} {j u : Nat} (h : r + j < L.length) : at2 (opens many r L) j u = at2 L (r + j) (many + u) := by
  unfold at2 opens
  rw [getD_map (d := []) (by rw [List.length_drop]; omega), getD_drop, getD_drop]
theorem row_l {O B : List (List Int)} {u j : Nat} (h : j < O.length) : (rowOf O B u).getD j 0 = at2 O j u := by
  unfold rowOf
  rw [getD_app_l (by rw [List.length_map]; exact h), getD_map (d := []) h]
  rfl
theorem row_r {O B : List (List Int)} {u a : Nat} (h : a < B.length) : (rowOf O B u).getD (O.length + a) 0 = at2 B a u := by
  unfold rowOf
  have e : O.length = (O.map fun (c : List Int) => c.getD u 0).length := (List.length_map ..).symm
  rw [e, getD_app_r, getD_map (d := []) h]
  rfl
theorem row_len {O B : List (List Int)} {u : Nat} : (rowOf O B u).length = O.length + B.length := by
  unfold rowOf
  rw [List.length_append, List.length_map, List.length_map]
theorem c0_bd {eqs : List (List Int)} {n E : Nat} (h : ∀ i k, i < eqs.length → k < n → (at2 eqs i k).natAbs ≤ 2 ^ E) : ∀ k i, k < (cols0 eqs n).length → (at2 (cols0 eqs n) k i).natAbs ≤ 2 ^ E := fun k i hk => by
  rw [cols0_len] at hk
  by_cases h1 : i < eqs.length
  · rw [c0_top hk h1]
    exact h i k h1 hk
  · by_cases h2 : i < eqs.length + n
    · obtain ⟨u, rfl⟩ : ∃ u, i = eqs.length + u := ⟨i - eqs.length, by omega⟩
      rw [c0_bot hk (by omega)]
      have := Nat.one_le_two_pow (n := E)
      split <;> simp <;> omega
    · rw [at2_wid (cols0_wid eqs n) (by omega)]
      exact Nat.zero_le _
theorem lin_top {n m : Nat} {C : Cols} {ps : List Nat} (E : Ech n m C ps) (y : Nat → Int) {i : Nat} (hi : i < m) : Lin n C y i = S ps.length fun k => y k * C k i := by
  obtain ⟨f, hf⟩ : ∃ f, ps.length + f = n := ⟨n - ps.length, by have := E.le; omega⟩
  show S n _ = _
  rw [← hf, S_split, S_zero (n := f) fun j hj => by rw [E.rest (ps.length + j) (by omega) (by omega) i hi, Int.mul_zero], Int.add_zero]
theorem sol_mk {n names G : Nat} {eqs L B : List (List Int)} {ps : List Nat} {e : Nat → Nat} {j0 : Nat} (U : Uni n (at2 (cols0 eqs n)) (at2 L)) (E : Ech n eqs.length (at2 L) ps) (W : Wid L (eqs.length + n)) (hL : L.length = n) (hB : B.length = names)
    (hb : ∀ k i, k < n → (at2 L k i).natAbs ≤ 2 ^ e (j0 + min ps.length (n - 1))) (hp : ∀ a, a < names → ∀ i, i < eqs.length → (S n fun u => at2 eqs i u * at2 B a u) + at2 eqs i (n + a) = 0) (hg : ∀ a u, (at2 B a u).natAbs ≤ 2 ^ G) :
    Sol n names eqs (n - ps.length) ((List.range n).map (rowOf (opens eqs.length ps.length L) B)) e j0 G := by
  have hr := E.le
  have ho : (opens eqs.length ps.length L).length = n - ps.length := by rw [opens_len, hL]
  have hR : ∀ u, u < n → ((List.range n).map (rowOf (opens eqs.length ps.length L) B)).getD u [] = rowOf (opens eqs.length ps.length L) B u := fun u hu => getD_map_range hu
  have l : ∀ u j, u < n → j < n - ps.length → at2 ((List.range n).map (rowOf (opens eqs.length ps.length L) B)) u j = at2 L (ps.length + j) (eqs.length + u) := fun u j hu hj => by
    show (((List.range n).map (rowOf (opens eqs.length ps.length L) B)).getD u []).getD j 0 = _
    rw [hR u hu, row_l (by omega), at2_opens (by omega)]
  have r : ∀ u a, u < n → a < names → at2 ((List.range n).map (rowOf (opens eqs.length ps.length L) B)) u (n - ps.length + a) = at2 B a u := fun u a hu ha => by
    show (((List.range n).map (rowOf (opens eqs.length ps.length L) B)).getD u []).getD _ 0 = _
    rw [hR u hu, ← ho, row_r (by omega)]
  refine ⟨by rw [List.length_map, List.length_range], fun k c hc => ?_, ⟨ps.length, by omega, ech_le E, fun u j hu hj => by rw [l u j hu hj]; exact hb _ _ (by omega)⟩, fun j hj i hi => ?_, fun z hz => ?_, fun y hy => ?_, fun a ha i hi => ?_, fun a u ha hu => by rw [r u a hu ha]; exact hg a u⟩
  · rw [List.getElem?_map] at hc
    cases h : (List.range n)[k]? with
    | none => rw [h] at hc; cases hc
    | some v =>
      rw [h] at hc
      cases hc
      rw [row_len, ho, hB]
  · rw [← sol_ker U E (k := ps.length + j) (by omega) (by omega) hi]
    exact S_congr fun u hu => by rw [l u j hu hj]
  · obtain ⟨y, hy⟩ := sol_all U E (f := n - ps.length) (by omega) z hz
    exact ⟨y, fun u hu => by rw [hy u hu]; exact S_congr fun j hj => by rw [l u j hu hj]⟩
  · refine sol_ind U E W (f := n - ps.length) (by omega) y fun u hu => ?_
    rw [← hy u hu]
    exact S_congr fun j hj => by rw [l u j hu hj]
  · rw [← hp a ha i hi]
    congr 1
    exact S_congr fun u hu => by rw [r u a hu ha]
end Mw

-- MwD8
set_option Elab.async false
set_option linter.all false
set_option maxRecDepth 100000
set_option maxHeartbeats 8000000
namespace Mw
open PySem PySem.Spec PyProof.Rows L2 Evl LamX
abbrev sSo : Stmt := topS 26
theorem scSo : FnScope ["unknowns", "names", "equations", "many", "columns", "pivots", "beside", "name", "wanted", "found", "at", "is_pivot", "own", "whole", "column", "often", "open_ones", "rows", "row", "pivot"] ["unknowns", "names", "equations"] (defScope sSo) := ⟨rfl, rfl, rfl, by decide +kernel, rfl, by decide +kernel, by decide +kernel⟩
section
variable {K : PySem.W.Frag} {σ : L2.St} {H : Hp} {ta tb te : TE}
theorem ev_isN {p : Addr} (h : Ev ta σ H (.ref p)) : Ev (tIsN ta) σ H (.bl false) := fun H1 e Q q => h H1 e _ fun H2 e2 => by
  rw [decide_eq_false (show ¬ V.ref p = V.non from fun z => by cases z)]
  exact q H2 e2
theorem el_rep {xs : List V} {n : Nat} (ha : EvL ta σ H xs) (hb : Ev tb σ H (.int (n : Int))) (h1 : n ≤ 1000) (h2 : xs.length ≤ 10) : EvL (tOp rRep ta tb) σ H (List.replicate n xs).flatten := fun H1 e Q q =>
  ha H1 e _ fun a H2 na e2 h2' => hb H2 (e.trans e2) _ fun H3 e3 => ⟨a, n, xs, rfl, rfl, e3 _ _ h2', by omega, by omega, by
    rw [Int.toNat_natCast]
    exact Nat.le_trans (Nat.mul_le_mul h2 h1) (sz_of (by decide)), fun p np => by
    rw [Int.toNat_natCast]
    exact q p _ (fresh_back (e2.trans e3) np) ((e2.trans e3).trans (Ex.new np)) upd_same⟩
theorem rep_one {n : Nat} : (List.replicate n [V.int 0]).flatten = (List.replicate n (0 : Int)).map V.int := by
  induction n with
  | zero => rfl
  | succ n ih =>
    rw [List.replicate_succ, List.replicate_succ, List.flatten_cons, List.map_cons, ih]
    rfl
end
theorem sv_ne {a : Addr} {n names : Nat} {eqs : List (List Int)} {H : Hp} (hn : n ≤ 240) (hnm : names ≤ 6) (hM : Mat H a eqs) (hW : Wid eqs (n + names)) (hl : eqs.length ≤ 240) : SpV spNe [.int (n : Int), .int (names : Int), .ref a] H .non := fun H1 e Q q E => ⟨a, n, names, eqs, rfl, hn, hnm, hM.ex e, hW, hl, q⟩
theorem sl_co {a : Addr} {n k : Nat} {eqs : List (List Int)} {H : Hp} (hM : Mat H a eqs) (hk : ∀ i, i < eqs.length → k < (eqs.getD i []).length) (hn : n ≤ 240) (hl : eqs.length ≤ 240) : SpL spCo [.ref a, .int (n : Int), .int (k : Int)] H ((col0 eqs n k).map V.int) := fun H1 e Q q E => ⟨a, n, k, eqs, rfl, hM.ex e, hk, hn, hl, q⟩
theorem add_step {a y c : Int} {m Y E : Nat} (ha : a.natAbs ≤ m * 2 ^ (Y + E)) (hy : y.natAbs ≤ 2 ^ Y) (hc : c.natAbs ≤ 2 ^ E) : (a + y * c).natAbs ≤ (m + 1) * 2 ^ (Y + E) := by
  have h1 := Int.natAbs_mul y c
  have h2 : y.natAbs * c.natAbs ≤ 2 ^ Y * 2 ^ E := Nat.mul_le_mul hy hc
  rw [← Nat.pow_add] at h2
  rw [Nat.succ_mul]
  omega
/-- G of what stands beside -/
abbrev gB (g E : Nat) : Nat := g + 240 * (E + 1) + E + 8
section
variable {P : Program} {w : World} {K : PySem.W.Frag} {mg : Str → Option Value} {base : Heap}
def spSo (K : PySem.W.Frag) (Pt : Addr) : Sp := fun vs H Q _ => ∃ (a : Addr) (n names : Nat) (eqs : List (List Int)) (e : Nat → Nat) (j0 g : Nat), vs = [.int (n : Int), .int (names : Int), .ref a] ∧ n ≤ 240 ∧ names ≤ 6 ∧ Mat H a eqs ∧ Wid eqs (n + names) ∧ eqs.length ≤ 240 ∧ Grow e ∧
  (∀ i k, i < eqs.length → k < n → (at2 eqs i k).natAbs ≤ 2 ^ e j0) ∧ (∀ i k, i < eqs.length → k < names → (at2 eqs i (n + k)).natAbs ≤ 2 ^ g) ∧ (∃ wv : Nat → Nat → Int, ∀ a, a < names → ∀ i, i < eqs.length → (S n fun u => at2 eqs i u * wv a u) + at2 eqs i (n + a) = 0) ∧
  (1 < n → e (j0 + (n - 2)) ≤ 8990) ∧ e (j0 + (n - 1)) ≤ 100000 ∧ g + 240 * (e (j0 + (n - 1)) + 1) ≤ 60000000 ∧ (e (j0 + (n - 1)) ≤ 8990 ∨ ∃ z : Nat → Int, (∃ u, u < n ∧ z u ≠ 0) ∧ ∀ i, i < eqs.length → (S n fun u => at2 eqs i u * z u) = 0) ∧ Tabs (T1 Pt) H ∧
  ∀ (t q : Addr) (free : Nat) (rows : List (List Int)) (H' : Hp), H' t = some (.tup [.str "solved", .int (free : Int), .ref q]) → MatP H' q rows (New H) → Sol n names eqs free rows e j0 (gB g (e (j0 + (n - 1)))) → ExtN H H' → Tabs (T1 Pt) H' → Q (.ref t) H'
theorem ok_so {f fNe fS fC fF fA Pt : Addr} {fd fdNe fdS fdC fdF fdA : FuncData} (F : Fun K "solved" "solved" sSo f fd)
    (GNe : FnOk P w K mg base CX0 3 fNe fdNe ["unknowns", "names", "equations"] spNe) (kNe : PySem.W.keepIn K (.ref fNe) = true) (bNe : Binds K fdNe ["unknowns", "names", "equations"] []) (gNe : mg "need_equations" = some (.ref fNe))
    (GS : FnOk P w K mg base CX0 5 fS fdS ["columns", "rows"] (spSt K Pt)) (kS : PySem.W.keepIn K (.ref fS) = true) (bS : Binds K fdS ["columns", "rows"] []) (gS : mg "stepped" = some (.ref fS))
    (GC : FnOk P w K mg base CX0 1 fC fdC ["equations", "unknowns", "at"] spCo) (kC : PySem.W.keepIn K (.ref fC) = true) (bC : Binds K fdC ["equations", "unknowns", "at"] []) (gC : mg "column_of" = some (.ref fC))
    (GF : FnOk P w K mg base CX0 2 fF fdF ["columns", "pivots", "wanted"] (spSf K)) (kF : PySem.W.keepIn K (.ref fF) = true) (bF : Binds K fdF ["columns", "pivots", "wanted"] []) (gF : mg "steps_for" = some (.ref fF))
    (GA : FnOk P w K mg base CX0 1 fA fdA ["one", "other", "often"] (spAdded K)) (kA : PySem.W.keepIn K (.ref fA) = true) (bA : Binds K fdA ["one", "other", "often"] []) (gA : mg "added" = some (.ref fA))
    (mr : mg "range" = none) (ml : mg "len" = none) (mz : mg "zip" = none) : FnOk P w K mg base CX0 6 f fd ["unknowns", "names", "equations"] (spSo K Pt) := by
  refine F.ok scSo (fun vs H Q E h => ?_) (fun cdv A outer s H vs Q E' hr h => ?_)
  · obtain ⟨a, n, names, eqs, e, j0, g, rfl, _⟩ := h
    rfl
  · obtain ⟨a, n, names, eqs, e, j0, g, rfl, hn, hnm, hM, hW, hlen, he, hbc, hbg, ⟨wv, hwv⟩, he1, he2, hge, hpv, hT, hQ⟩ := h
    have nd := scSo.nd
    refine ⟨_, pss_cons (ps_expr (pe_call GNe (hr.mono (by decide)) (by rfl) gNe kNe bNe .nil pass0 (pa_cons (pv 0) (pa_cons (pv 1) (pa_cons (pv 2) pa_nil)))))
      (pss_cons (ps_set (i := 3) nd rfl (.inr rfl) (pe_callB call_len_seq (by rfl) ml PySem.boot_len (pa_cons (pv 2) pa_nil)))
      (pss_cons (ps_asg (pe_call GS hr (by rfl) gS kS bS .nil pass0 (pa_cons (pe_lc (own := [("at", 10)]) (g := gName 10) (tt := tYes) (te := tCall spCo [] E0 (tCons (tVar 2) (tCons (tVar 0) (tCons (tVar 10) tNil)))) rfl nd (pi_range1 (by rfl) mr (pa_cons (pv 0) pa_nil)) (blkOk_by (by kernel_rfl))
            (fun _ _ _ _ _ => pg_name (i := 10) nd rfl (.inl rfl)) (fun _ _ _ _ _ => pts_nil) (fun _ _ _ _ _ => pe_call GC (hr.mono (by decide)) (by rfl) gC kC bC .nil pass0 (pa_cons (pv 2) (pa_cons (pv 0) (pa_cons (pv 10) pa_nil))))) (pa_cons (pv 3) pa_nil)))
          (pg_tup rfl (pgs_cons (pg_name (i := 4) nd rfl (.inl rfl)) (pgs_cons (pg_name (i := 5) nd rfl (.inl rfl)) pgs_nil))))
      (pss_cons (ps_set (i := 6) nd rfl (.inl rfl) (pe_lst pa_nil))
      (pss_cons (ps_for PassesOwn.never rfl (pi_range1 (by rfl) mr (pa_cons (pv 1) pa_nil)) (pg_name (i := 7) nd rfl (.inr rfl))
        (pss_cons (ps_setLc (i := 8) (own := [("row", 18)]) (g := gName 18) (tt := tYes) (te := tOp (rI0 fun i j => .int (i - j)) (tC (.int 0)) (tIx K (tVar 18) (tOp (rI0 fun i j => .int (i + j)) (tVar 0) (tVar 7)))) rfl nd rfl rfl (sw_true rfl rfl rfl (by decide +kernel)) (pi_list (pv 2)) (blkOk_by (by kernel_rfl))
            (fun _ _ _ _ _ => pg_name (i := 18) nd rfl (.inl rfl)) (fun _ _ _ _ _ => pts_nil) (fun _ _ _ _ _ => pe_op op_sub pe_int (pe_ix ix_list (pv 18) (pe_op op_add (pv 0) (pv 7)) (fun _ _ => rfl))))
        (pss_cons (ps_asg (pe_call GF (hr.mono (by decide)) (by rfl) gF kF bF .nil pass0 (pa_cons (pv 4) (pa_cons (pv 5) (pa_cons (pv 8) pa_nil)))) (pg_tup rfl (pgs_cons (pg_name (i := 9) nd rfl (.inl rfl)) (pgs_cons (pg_name (i := 10) nd rfl (.inr rfl)) (pgs_cons (pg_name (i := 11) nd rfl (.inl rfl)) pgs_nil)))))
        (pss_cons (ps_if (PW.pt (pw_and (pt_cmp (pc_isN (pv 9))) (pw_and1 (pt_val (pv 11))))) pss_never pss_nil)
        (pss_cons (ps_if (pt_cmp (pc_isN (pv 9))) pss_never pss_nil)
        (pss_cons (ps_set (i := 13) nd rfl (.inl rfl) (pe_op op_rep (pe_lst (pa_cons pe_int pa_nil)) (pv 0)))
        (pss_cons (ps_for PassesOwn.never rfl (pi_zip (by rfl) mz (pa_cons (pv 4) (pa_cons (pv 9) pa_nil))) (pg_tup rfl (pgs_cons (pg_name (i := 14) nd rfl (.inl rfl)) (pgs_cons (pg_name (i := 15) nd rfl (.inl rfl)) pgs_nil)))
          (pss_one (ps_set (i := 13) nd rfl (.inl rfl) (pe_call GA (hr.mono (by decide)) (by rfl) gA kA bA .nil pass0 (pa_cons (pv 13) (pa_cons (pe_slice sl_list (pv 14) (po_some (pv 3)) po_none) (pa_cons (pv 15) pa_nil)))))))
        (pss_one (ps_expr (pe_bm PySem.F.plainAttrs_list PySem.F.slot_list_append PySem.F.type_list_append mt_append (pv 6) (pa_cons (pv 13) pa_nil)))))))))))
      (pss_cons (ps_setLc (i := 16) (own := [("column", 14)]) (g := gName 14) (tt := tYes) (te := tSl (rSlL K) (tVar 14) (tPart (tVar 3)) tNoPart) rfl nd rfl rfl (sw_true rfl rfl rfl (by decide +kernel)) (pi_list (pe_slice sl_list (pv 4) (po_some (pe_callB call_len_seq (by rfl) ml PySem.boot_len (pa_cons (pv 5) pa_nil))) po_none)) (blkOk_by (by kernel_rfl))
          (fun _ _ _ _ _ => pg_name (i := 14) nd rfl (.inl rfl)) (fun _ _ _ _ _ => pts_nil) (fun _ _ _ _ _ => pe_slice sl_list (pv 14) (po_some (pv 3)) po_none))
      (pss_cons (ps_set (i := 17) nd rfl (.inl rfl) (pe_lst pa_nil))
      (pss_cons (ps_for PassesOwn.never rfl (pi_range1 (by rfl) mr (pa_cons (pv 0) pa_nil)) (pg_name (i := 10) nd rfl (.inr rfl))
        (pss_one (ps_expr (pe_bm PySem.F.plainAttrs_list PySem.F.slot_list_append PySem.F.type_list_append mt_append (pv 17) (pa_cons (pe_op op_cat
            (pe_lc (own := [("column", 14)]) (g := gName 14) (tt := tYes) (te := tIx K (tVar 14) (tVar 10)) rfl nd (pi_list (pv 16)) (blkOk_by (by kernel_rfl)) (fun _ _ _ _ _ => pg_name (i := 14) nd rfl (.inl rfl)) (fun _ _ _ _ _ => pts_nil) (fun _ _ _ _ _ => pe_ix ix_list (pv 14) (pv 10) (fun _ _ => rfl)))
            (pe_lc (own := [("column", 14)]) (g := gName 14) (tt := tYes) (te := tIx K (tVar 14) (tVar 10)) rfl nd (pi_list (pv 6)) (blkOk_by (by kernel_rfl)) (fun _ _ _ _ _ => pg_name (i := 14) nd rfl (.inl rfl)) (fun _ _ _ _ _ => pts_nil) (fun _ _ _ _ _ => pe_ix ix_list (pv 14) (pv 10) (fun _ _ => rfl)))) pa_nil)))))
      (pss_one (ps_ret (pe_tup (pa_cons pe_str (pa_cons (pe_callB call_len_seq (by rfl) ml PySem.boot_len (pa_cons (pv 16) pa_nil)) (pa_cons (pv 17) pa_nil))))))))))))), ?_⟩
    refine q_drop (ev_call (dvs := []) (z := .non) (ea_cons (ev_var rfl) (ea_cons (ev_var rfl) (ea_cons (ev_var rfl) ea_nil))) (sv_ne hn hnm hM hW hlen)) (fun H1 e1 => ?_)
    obtain ⟨as, a1, a2⟩ := hM.ex e1
    refine q_asg (v := .int (eqs.length : Int)) (rc_len (sq_of a1) (by rw [List.length_map, a2.1]) (ev_var rfl)) (fun H2 e2 => ?_)
    have hM2 := hM.ex (e1.trans e2)
    have hkW : ∀ k, k < n → ∀ i, i < eqs.length → k < (eqs.getD i []).length := fun k hk i hi => by
      rw [hW.getD hi]
      omega
    refine q_raw (tcall_N (P := fun p H' => Mat H' p (cols0 eqs n)) (em_lcR (n := n) (cols0 eqs n) (ea_cons (ev_var rfl) ea_nil) (cols0_len _ _) (by omega) (fun x => rfl) (fun k c H3 e3 hk hc => ?_)) (fun pc H3 npc e3 hMc => ?_))
    · unfold cols0 at hc
      rw [List.getElem?_map, List.getElem?_range hk] at hc
      cases hc
      exact el_call (dvs := []) (ea_cons (ev_var rfl) (ea_cons (ev_var rfl) (ea_cons (ev_var rfl) ea_nil))) (sl_co (hM2.ex e3) (hkW k hk) hn hlen)
    have e13 := (e1.trans e2).trans e3
    have hc0 := cols0_len eqs n
    refine ⟨.int (eqs.length : Int), rfl, pc, cols0 eqs n, eqs.length, eqs.length + n, j0, e, rfl, hMc, cols0_wid eqs n, by omega, by omega, by omega, he, c0_bd hbc, fun h => by rw [hc0] at h ⊢; exact he1 h, by rw [hc0]; exact he2, hT.ext e13, fun t p q L ps H4 ht hML hq hS eN hT4 => ?_⟩
    refine ⟨t, [.ref p, .ref q], rfl, st_of ht, rfl, .ref p, _, rfl, .ref q, [], rfl, rfl, ?_⟩
    have eN4 : ExtN H H4 := (ExtN.of e13).trans eN
    have hM4 : Mat H4 a eqs := hM.exn eN4
    have hL : L.length = n := hS.len.trans hc0
    have U : Uni n (at2 (cols0 eqs n)) (at2 L) := by have := hS.uni; rw [hc0] at this; exact this
    have EE : Ech n eqs.length (at2 L) ps := by have := hS.ech; rw [hc0] at this; exact this
    have hbL : ∀ k i, k < n → (at2 L k i).natAbs ≤ 2 ^ e (j0 + min ps.length (n - 1)) := fun k i hk => by have := hS.bd k i (by omega); rw [hc0] at this; exact this
    have hbL2 : ∀ k i, k < n → (at2 L k i).natAbs ≤ 2 ^ e (j0 + (n - 1)) := fun k i hk => Nat.le_trans (hbL k i hk) (two_pow_mono (he.mono (by omega)))
    have hrn := EE.le
    have hpv2 : ∀ k, k < ps.length → (at2 L k (ps.getD k 0)).natAbs ≤ 2 ^ 8990 := fun k hk => by
      refine Nat.le_trans (hS.pb k hk) (two_pow_mono ?_)
      rcases hpv with hp | ⟨z, ⟨u, hu, hzu⟩, hz⟩
      · exact Nat.le_trans (he.mono (by omega)) hp
      · have hlt : ps.length < n := by
          refine Nat.lt_of_le_of_ne hrn fun z' => hzu ?_
          obtain ⟨y, hy⟩ := sol_all U EE (f := 0) (by omega) z hz
          exact hy u hu
        exact Nat.le_trans (he.mono (by omega)) (he1 (by omega))
    generalize hEE : e (j0 + (n - 1)) = EB at hge hbL2 hQ
    generalize hYY : g + 240 * (EB + 1) = Y at hge
    have hG : gB g EB = Y + EB + 8 := by rw [← hYY]
    rw [hG] at hQ
    -- beside
    refine q_asgL (el_lst ea_nil (by simp)) (fun pb H5 npb e5 hpb => ?_)
    refine q_forR1 (n := (names : Int)) (ea_cons (ev_var rfl) ea_nil) (by omega) (fun i σ' H' => ∃ x7 x8 x9 x10 x11 x13 x14 x15, ∃ B : List (List Int), σ' = [some (.int (n : Int)), some (.int (names : Int)), some (.ref a), some (.int (eqs.length : Int)), some (.ref p), some (.ref q), some (.ref pb), x7, x8, x9, x10, x11, none, x13, x14, x15, none, none, none, none] ∧
        Mat H' pb B ∧ B.length = i ∧ Wid B n ∧ (∀ b, b < i → ∀ k, k < eqs.length → (S n fun u => at2 eqs k u * at2 B b u) + at2 eqs k (n + b) = 0) ∧ (∀ b u, (at2 B b u).natAbs ≤ 2 ^ (Y + EB + 8)) ∧ Ex H4 H')
      (fun H6 e6 => ⟨none, none, none, none, none, none, none, none, [], rfl, ⟨[], e6 _ _ hpb, rfl, fun k b c h _ => by simp at h⟩, rfl, fun k c h => by simp at h, fun b h => absurd h (Nat.not_lt_zero _), fun b u => by rw [at2_out (Nat.zero_le _)]; exact Nat.zero_le _, e5.trans e6⟩)
      (fun i σ' H' hi hP => ?_) (fun σ' H' hP => ?_)
    · obtain ⟨x7, x8, x9, x10, x11, x13, x14, x15, B, rfl, hMB, hBl, hWB, hBp, hBb, eX⟩ := hP
      have hin : i < names := by omega
      obtain ⟨as4, b1, b2⟩ := hM4.ex eX
      -- wanted
      refine q_asgL (xs := (eqs.map fun (r : List Int) => 0 - r.getD (n + i) 0).map V.int) (el_lcLi _ (ev_var rfl) (sq_of b1) (by rw [List.length_map, List.length_map, b2.1]) (by rw [List.length_map, b2.1]; omega) (fun x => rfl) (fun k x r H6 e6 hx hr => ?_)) (fun pw H6 npw e6 hpw => ?_)
      · rw [List.getElem?_map] at hx hr
        cases hb : as4[k]? with
        | none => rw [hb] at hx; cases hx
        | some b =>
          cases hc : eqs[k]? with
          | none => rw [hc] at hr; cases hr
          | some c =>
            rw [hb] at hx
            rw [hc] at hr
            cases hx
            cases hr
            have hrow := e6 _ _ (b2.2 k b c hb hc)
            have hcl := hW k c hc
            exact ev_sub ev_c (ev_ixI (i := n + i) (ev_var rfl) (sq_of hrow) (ev_is (ev_add (ev_var rfl) (ev_var rfl)) (by rw [Int.natCast_add])) (by omega))
      have hwn : ∀ k, k < eqs.length → (eqs.map fun (r : List Int) => 0 - r.getD (n + i) 0).getD k 0 = 0 - at2 eqs k (n + i) := fun k hk => by rw [getD_map (d := []) hk]; rfl
      obtain ⟨y, hy⟩ := sol_surj U (wv i)
      have hyl : ∀ k, k < eqs.length → Lin n (at2 L) y k = 0 - at2 eqs k (n + i) := fun k hk => by
        rw [sol_top U y hk]
        have := hwv i hin k hk
        rw [S_congr (n := n) (f := fun u => at2 eqs k u * Lin n (at2 L) y (eqs.length + u)) (g := fun u => at2 eqs k u * wv i u) fun u hu => by rw [hy u hu]]
        omega
      -- steps_for
      refine q_raw (tcall_A (ea_cons (ev_var rfl) (ea_cons (ev_var rfl) (ea_cons (ev_var rfl) ea_nil))) (fun H7 e7 => ⟨p, q, pw, L, ps, _, eqs.length + n, y, EB, g, rfl, ((hML.ex eX).ex e6).ex e7, e7 _ _ (e6 _ _ (eX _ _ hq)), e7 _ _ hpw, hS.wid, ?_, by omega, ?_, ?_, ?_, hpv2, ?_, by omega, by omega, fun t2 qf H8 e8 ht2 hqf hyb => ?_⟩))
      · rw [List.length_map]
        omega
      · rw [List.length_map, hL]
        exact EE
      · intro k hk
        rw [List.length_map] at hk
        rw [hwn k hk, hL]
        exact hyl k hk
      · intro k u hk
        exact hbL2 k u (by omega)
      · intro k
        by_cases hk : k < eqs.length
        · rw [hwn k hk]
          have := hbg k i hk hin
          omega
        · rw [getD_out (by rw [List.length_map]; omega)]
          exact Nat.zero_le _
      refine ⟨t2, [.ref qf, .non, .bl false], rfl, st_of ht2, rfl, .ref qf, _, rfl, .non, _, rfl, .bl false, [], rfl, rfl, ?_⟩
      refine q_when (b := false && true) (et_and (et_B (ev_isN (ev_var rfl))) fun hb => Bool.noConfusion hb) (fun hb => Bool.noConfusion hb) (fun _ H9 e9 => ?_)
      refine q_when (b := false) (et_B (ev_isN (ev_var rfl))) (fun hb => Bool.noConfusion hb) (fun _ H10 e10 => ?_)
      have e4_10 := (((eX.trans e6).trans e7).trans e8).trans (e9.trans e10)
      have e'_10 := ((e6.trans e7).trans e8).trans (e9.trans e10)
      obtain ⟨asB, g1, g2⟩ := hMB.ex e'_10
      refine q_asgL (el_rep (el_lst (ea_cons ev_c ea_nil) (by simp)) (ev_var rfl) (by omega) (by simp)) (fun pz H11 npz e11 hpz => ?_)
      rw [rep_one] at hpz
      obtain ⟨as5, c1, c2⟩ := hML.ex (e4_10.trans e11)
      have hqf11 := e11 _ _ (e10 _ _ (e9 _ _ hqf))
      have hyb2 : ∀ k, k < ps.length → (y k).natAbs ≤ 2 ^ Y := fun k hk => Nat.le_trans (hyb k hk) (two_pow_mono (by
        have := Nat.mul_le_mul_right (EB + 1) (show ps.length ≤ 240 by omega)
        omega))
      -- whole
      refine q_forZ (i := 14) (j := 15) (ea_cons (ev_var rfl) (ea_cons (ev_var rfl) ea_nil)) (sq_of c1) (sq_of hqf11) (fun c σ' H' => ∃ x14 x15 pw2, ∃ wl : List Int, σ' = [some (.int (n : Int)), some (.int (names : Int)), some (.ref a), some (.int (eqs.length : Int)), some (.ref p), some (.ref q), some (.ref pb), some (.int (i : Int)), some (.ref pw), some (.ref qf), some .non, some (.bl false), none, some (.ref pw2), x14, x15, none, none, none, none] ∧
          H' pw2 = some (.lst (wl.map V.int)) ∧ pw2 ≠ pb ∧ wl.length = n ∧ (∀ u, u < n → wl.getD u 0 = S c fun k => y k * at2 L k (eqs.length + u)) ∧ (∀ u, (wl.getD u 0).natAbs ≤ c * 2 ^ (Y + EB)) ∧ Ex H11 H')
        (fun H12 e12 => ⟨x14, x15, pz, List.replicate n 0, rfl, e12 _ _ hpz, (ne_of_none g1 npz).symm, List.length_replicate, fun u hu => by rw [getD_of (List.getElem?_replicate_of_lt hu)]; rfl, fun u => ?_, e12⟩)
        (fun c σ' H' hc hP => ?_) (fun c x yv σ' H' H12 hx hyv hP e12 => ?_) (fun σ' H' hP => ?_)
      · by_cases hu : u < n
        · rw [getD_of (List.getElem?_replicate_of_lt hu)]
          exact Nat.zero_le _
        · rw [getD_out (by rw [List.length_replicate]; omega)]
          exact Nat.zero_le _
      · obtain ⟨_, _, _, _, rfl, _, _, _, _, _, eY⟩ := hP
        exact ⟨sq_of (eY _ _ c1), sq_of (eY _ _ hqf11)⟩
      · obtain ⟨y14, y15, pw2, wl, rfl, hw2, nw2, hwl, hwv2, hwb, eY⟩ := hP
        rw [List.getElem?_map] at hx hyv
        cases hb : as5[c]? with
        | none => rw [hb] at hx; cases hx
        | some bk =>
          rw [hb] at hx
          cases hx
          have hcn : c < L.length := by rw [← c2.1]; exact (List.getElem?_eq_some_iff.mp hb).1
          have hcr : c < ps.length := by
            cases hz : ((List.range ps.length).map y)[c]? with
            | none => rw [hz] at hyv; cases hyv
            | some _ =>
              have := (List.getElem?_eq_some_iff.mp hz).1
              rw [List.length_map, List.length_range] at this
              exact this
          rw [List.getElem?_map, List.getElem?_range hcr] at hyv
          cases hyv
          have hrow := e12 _ _ (eY _ _ (c2.2 c bk _ hb (List.getElem?_eq_getElem hcn)))
          have hLc : L[c].length = eqs.length + n := hS.wid c _ (List.getElem?_eq_getElem hcn)
          have hdl : (L[c].drop eqs.length).length = n := by rw [List.length_drop]; omega
          have hdat : ∀ u, (L[c].drop eqs.length).getD u 0 = at2 L c (eqs.length + u) := fun u => by
            rw [getD_drop]
            unfold at2
            rw [getD_of (List.getElem?_eq_getElem hcn)]
          refine s_asgL (xs := (vadd wl (L[c].drop eqs.length) (y c)).map V.int) (el_call3m (ys := (L[c].drop eqs.length).map V.int) (ev_var rfl) ?_ (ev_var rfl) (fun qq H13 e13' hqq => sl_added (sq_of (e13' _ _ (e12 _ _ hw2))) (sq_of hqq) (by omega) fun u hu => ?_)) (fun qn H13 nqn e13' hqn => ?_)
          · have := el_sl (K := K) (σ := ([some (.int (n : Int)), some (.int (names : Int)), some (.ref a), some (.int (eqs.length : Int)), some (.ref p), some (.ref q), some (.ref pb), some (.int (i : Int)), some (.ref pw), some (.ref qf), some .non, some (.bl false), none, some (.ref pw2), some (.ref bk), some (.int (y c)), none, none, none, none] : L2.St)) (te := tVar 14) (tl := tPart (tVar 3)) (th := tNoPart) (ev_var rfl) (eo_some (ev_var rfl)) eo_none (sq_of hrow)
            rw [cut_drop, ← List.map_drop] at this
            exact this
          · rw [hdat]
            exact mulx_ok (a := Y + 1) (b := EB + 1) (lt_two (hyb2 c hcr)) (lt_two (hbL2 c _ (by omega))) (by omega)
          · refine ⟨_, _, qn, vadd wl (L[c].drop eqs.length) (y c), rfl, hqn, fun z => ?_, ?_, fun u hu => ?_, fun u => ?_, (eY.trans e12).trans e13'⟩
            · rw [z] at nqn
              rw [e12 _ _ (eY _ _ (e11 _ _ g1))] at nqn
              cases nqn
            · unfold vadd
              rw [List.length_zipWith, hwl, hdl, Nat.min_self]
            · rw [vadd_at (hwl.trans hdl.symm), hwv2 u hu, hdat]
              rfl
            · rw [vadd_at (hwl.trans hdl.symm), hdat]
              exact add_step (hwb u) (hyb2 c hcr) (hbL2 c _ (by omega))
      · obtain ⟨y14, y15, pw2, wl, rfl, hw2, nw2, hwl, hwv2, hwb, eY⟩ := hP
        have hmin : min (as5.map V.ref).length (((List.range ps.length).map y).map V.int).length = ps.length := by
          rw [List.length_map, List.length_map, List.length_map, List.length_range, c2.1]
          omega
        rw [hmin] at hwv2 hwb
        have g1' := eY _ _ (e11 _ _ g1)
        refine s_app (l := pb) g1' (ev_var rfl) (ev_var rfl) (by rw [List.length_map, g2.1]; omega) (fun H13 e13' => ?_)
        refine ⟨_, _, _, _, _, _, _, _, B ++ [wl], rfl, mat_app (e13' _ _ g1') (g2.ex ((e11.trans eY).trans e13')) (e13' _ _ hw2) nw2, by rw [List.length_append, hBl]; rfl, wid_app hWB hwl, fun b hb k hk => ?_, fun b u => ?_, ?_⟩
        · by_cases z : b = i
          · subst z
            have h1 := sol_par U hrn (w := fun k => 0 - at2 eqs k (n + b)) (y := y) (fun k hk => by rw [← lin_top EE y hk]; exact hyl k hk) hk
            rw [S_congr (n := n) (f := fun u => at2 eqs k u * at2 (B ++ [wl]) b u) (g := fun u => at2 eqs k u * S ps.length fun k => y k * at2 L k (eqs.length + u)) fun u hu => by
              have := at2_app_eq (L := B) (c := wl) (i := u)
              rw [hBl] at this
              rw [this, hwv2 u hu]]
            rw [h1]
            omega
          · rw [← hBp b (by omega) k hk]
            congr 1
            exact S_congr fun u hu => by rw [at2_app_lt (by omega)]
        · by_cases z : b < B.length
          · rw [at2_app_lt z]
            exact hBb b u
          · by_cases z2 : b = B.length
            · rw [z2, at2_app_eq]
              refine Nat.le_trans (hwb u) ?_
              have e8 : 2 ^ (Y + EB + 8) = 2 ^ 8 * 2 ^ (Y + EB) := by rw [Nat.add_comm, Nat.pow_add]
              rw [e8]
              have e9 : (2 : Nat) ^ 8 = 256 := by decide
              exact Nat.mul_le_mul_right _ (by omega)
            · rw [at2_out (by rw [List.length_append]; simp; omega)]
              exact Nat.zero_le _
        · exact Ex.mut (((e4_10.trans e11).trans eY).trans e13') npb
    · obtain ⟨x7, x8, x9, x10, x11, x13, x14, x15, B, rfl, hMB, hBl, hWB, hBp, hBb, eX⟩ := hP
      rw [Int.toNat_natCast] at hBl hBp
      obtain ⟨as4, b1, b2⟩ := hML.ex eX
      -- open_ones
      refine q_asgN (em_lcNL (opens eqs.length ps.length L) (el_sl (ev_var rfl) (eo_some (rc_len (n := (ps.length : Int)) (sq_of (eX _ _ hq)) (by rw [List.length_map]) (ev_var rfl))) eo_none (sq_of b1)) ?_ ?_ (fun x => rfl) (fun k x c H6 e6 hx hc => ?_)) (fun po H6 npo e6 hMo => ?_)
      · rw [cut_drop, List.length_drop, List.length_map, opens_len, b2.1]
      · rw [cut_drop, List.length_drop, List.length_map, b2.1]
        omega
      · rw [cut_drop, List.getElem?_drop, List.getElem?_map] at hx
        unfold opens at hc
        rw [List.getElem?_map, List.getElem?_drop] at hc
        cases hb : as4[ps.length + k]? with
        | none => rw [hb] at hx; cases hx
        | some b =>
          cases hc' : L[ps.length + k]? with
          | none => rw [hc'] at hc; cases hc
          | some c' =>
            rw [hb] at hx
            rw [hc'] at hc
            cases hx
            cases hc
            have hrow := e6 _ _ (b2.2 _ b c' hb hc')
            have := el_sl (K := K) (σ := ([some (.int (n : Int)), some (.int (names : Int)), some (.ref a), some (.int (eqs.length : Int)), some (.ref p), some (.ref q), some (.ref pb), x7, x8, x9, x10, x11, none, x13, some (.ref b), x15, none, none, none, none] : L2.St)) (te := tVar 14) (tl := tPart (tVar 3)) (th := tNoPart) (ev_var rfl) (eo_some (ev_var rfl)) eo_none (sq_of hrow)
            rw [cut_drop, ← List.map_drop] at this
            exact this
      refine q_asgL (el_lst ea_nil (by simp)) (fun pr H7 npr e7 hpr => ?_)
      have hMo7 := hMo.ex e7
      have hMB7 := (hMB.ex e6).ex e7
      have hol : (opens eqs.length ps.length L).length = n - ps.length := by rw [opens_len, hL]
      have hoW : ∀ (k : Nat) (c : List Int), (opens eqs.length ps.length L)[k]? = some c → c.length = n := fun k c hc => by
        unfold opens at hc
        rw [List.getElem?_map, List.getElem?_drop] at hc
        cases hc' : L[ps.length + k]? with
        | none => rw [hc'] at hc; cases hc
        | some c' =>
          rw [hc'] at hc
          cases hc
          rw [List.length_drop, hS.wid _ c' hc']
          omega
      refine q_forR1 (n := (n : Int)) (ea_cons (ev_var rfl) ea_nil) (by omega) (fun u σ' H' => ∃ x10, σ' = [some (.int (n : Int)), some (.int (names : Int)), some (.ref a), some (.int (eqs.length : Int)), some (.ref p), some (.ref q), some (.ref pb), x7, x8, x9, x10, x11, none, x13, x14, x15, some (.ref po), some (.ref pr), none, none] ∧
          MatP H' pr ((List.range u).map (rowOf (opens eqs.length ps.length L) B)) (New H) ∧ Ex H6 H' ∧ Mat H' po (opens eqs.length ps.length L) ∧ Mat H' pb B)
        (fun H8 e8 => ⟨x10, rfl, ⟨[], e8 _ _ hpr, ⟨rfl, fun k b c h _ => by simp at h⟩, fun b hb => by simp at hb⟩, e7.trans e8, hMo7.ex e8, hMB7.ex e8⟩)
        (fun u σ' H' hu hP => ?_) (fun σ' H' hP => ?_)
      · obtain ⟨y10, rfl, ⟨asr, r1, r2, r3⟩, eZ, ⟨aso, o1, o2⟩, ⟨asb, q1, q2⟩⟩ := hP
        have hun : u < n := by omega
        have hrow : (rowOf (opens eqs.length ps.length L) B u).map V.int = ((opens eqs.length ps.length L).map fun (c : List Int) => c.getD u 0).map V.int ++ (B.map fun (c : List Int) => c.getD u 0).map V.int := by
          unfold rowOf
          rw [List.map_append]
        refine s_appL (l := pr) (ys := (rowOf (opens eqs.length ps.length L) B u).map V.int) r1 (ev_var rfl) (by
          rw [hrow]
          refine el_cat (el_lcLi _ (ev_var rfl) (sq_of o1) (by rw [List.length_map, List.length_map, o2.1]) (by rw [List.length_map, o2.1]; omega) (fun x => rfl) (fun k x r H8 e8 hx hr => ?_)) (el_lcLi _ (ev_var rfl) (sq_of q1) (by rw [List.length_map, List.length_map, q2.1]) (by rw [List.length_map, q2.1]; omega) (fun x => rfl) (fun k x r H8 e8 hx hr => ?_)) (by simp only [List.length_map]; omega)
          · rw [List.getElem?_map] at hx hr
            cases hb : aso[k]? with
            | none => rw [hb] at hx; cases hx
            | some b =>
              cases hc : (opens eqs.length ps.length L)[k]? with
              | none => rw [hc] at hr; cases hr
              | some c =>
                rw [hb] at hx
                rw [hc] at hr
                cases hx
                cases hr
                exact ev_ixI (ev_var rfl) (sq_of (e8 _ _ (o2.2 k b c hb hc))) (ev_var rfl) (by rw [hoW k c hc]; exact hun)
          · rw [List.getElem?_map] at hx hr
            cases hb : asb[k]? with
            | none => rw [hb] at hx; cases hx
            | some b =>
              cases hc : B[k]? with
              | none => rw [hc] at hr; cases hr
              | some c =>
                rw [hb] at hx
                rw [hc] at hr
                cases hx
                cases hr
                exact ev_ixI (ev_var rfl) (sq_of (e8 _ _ (q2.2 k b c hb hc))) (ev_var rfl) (by rw [hWB k c hc]; exact hun)) (by rw [List.length_map, r2.1, List.length_map, List.length_range]; omega) (fun w H8 nw e8 hw8 => ?_)
        have nwr : w ≠ pr := fun z => by
          rw [z, r1] at nw
          cases nw
        have nor : po ≠ pr := fun z => by
          rw [z] at hMo
          obtain ⟨_, h1, _⟩ := hMo
          rw [h1] at npr
          cases npr
        have nbr : pb ≠ pr := fun z => by
          obtain ⟨_, h1, _⟩ := hMB.ex e6
          rw [z, npr] at h1
          cases h1
        have keep : ∀ b xs, H8 b = some (.lst xs) → b ≠ pr → upd H8 pr (.lst (asr.map V.ref ++ [.ref w])) b = some (.lst xs) := fun b xs h n => by rw [upd_ne n]; exact h
        have npr6 : H6 pr = none := npr
        refine ⟨_, rfl, ?_, Ex.mut (eZ.trans e8) npr6, ?_, ?_⟩
        · have := matP_app (R := New H) (e8 _ _ r1) (r2.ex e8) r3 hw8 nwr fun xs z => by
            have h0 := exn_lst (eN4.trans (ExtN.of ((eX.trans e6).trans eZ))) z
            rw [nw] at h0
            cases h0
          rw [List.range_succ, List.map_append]
          exact this
        · obtain ⟨aso', p1, p2⟩ := hMo
          refine ⟨aso', keep _ _ (e8 _ _ (eZ _ _ p1)) nor, p2.1, fun k b c h1 h2 => keep _ _ (e8 _ _ (eZ _ _ (p2.2 k b c h1 h2))) fun z => ?_⟩
          have := p2.2 k b c h1 h2
          rw [z, npr6] at this
          cases this
        · obtain ⟨asb', p1, p2⟩ := hMB.ex e6
          refine ⟨asb', keep _ _ (e8 _ _ (eZ _ _ p1)) nbr, p2.1, fun k b c h1 h2 => keep _ _ (e8 _ _ (eZ _ _ (p2.2 k b c h1 h2))) fun z => ?_⟩
          have := p2.2 k b c h1 h2
          rw [z, npr6] at this
          cases this
      · obtain ⟨y10, rfl, hMr, eZ, ⟨aso, o1, o2⟩, _⟩ := hP
        rw [Int.toNat_natCast] at hMr
        refine s_retU (eu_tup (ea_cons ev_c (ea_cons (rc_len (n := ((n - ps.length : Nat) : Int)) (sq_of o1) (by rw [List.length_map, o2.1, hol]) (ev_var rfl)) (ea_cons (ev_var rfl) ea_nil))) (by simp)) fun t2 H8 nt2 e8 ht2 => hQ t2 pr (n - ps.length) _ H8 ht2 (hMr.ex e8) (sol_mk U EE hS.wid hL hBl hbL hBp hBb) (eN4.trans (ExtN.of ((eX.trans (e6.trans ?_)).trans e8))) (hT4.ext ((eX.trans (e6.trans ?_)).trans e8))
        · exact eZ
        · exact eZ
end
end Mw

-- MwD9
set_option Elab.async false
set_option linter.all false
set_option maxRecDepth 100000
set_option maxHeartbeats 8000000
namespace Mw
open PySem PySem.Spec PyProof.Rows L2 Evl LamX
theorem ext_range {l : List Int} {n : Nat} {f : Nat → Int} (hl : l.length = n) (h : ∀ i, i < n → l.getD i 0 = f i) : l = (List.range n).map f := by
  refine List.ext_getElem? fun i => ?_
  by_cases hi : i < n
  · rw [List.getElem?_eq_getElem (by omega), List.getElem?_map, List.getElem?_range hi]
    have := h i hi
    rw [getD_of (List.getElem?_eq_getElem (by omega))] at this
    rw [this]
    rfl
  · rw [List.getElem?_eq_none (by omega), List.getElem?_eq_none (by rw [List.length_map, List.length_range]; omega)]
theorem mat_ext {L L' : List (List Int)} {n d : Nat} (h1 : L.length = n) (h2 : L'.length = n) (w1 : Wid L d) (w2 : Wid L' d) (h : ∀ k i, k < n → i < d → at2 L k i = at2 L' k i) : L = L' := by
  refine List.ext_getElem? fun k => ?_
  by_cases hk : k < n
  · rw [List.getElem?_eq_getElem (by omega), List.getElem?_eq_getElem (by omega)]
    congr 1
    have e1 := ext_range (f := fun i => at2 L' k i) (w1 k _ (List.getElem?_eq_getElem (by omega))) fun i hi => by
      have := h k i hk hi
      unfold at2 at this ⊢
      rw [← this, getD_of (List.getElem?_eq_getElem (show k < L.length by omega))]
    have e2 := ext_range (f := fun i => at2 L' k i) (w2 k _ (List.getElem?_eq_getElem (by omega))) fun i hi => by
      unfold at2
      rw [getD_of (List.getElem?_eq_getElem (show k < L'.length by omega))]
    rw [e1, e2]
  · rw [List.getElem?_eq_none (by omega), List.getElem?_eq_none (by omega)]
theorem refs_inj : ∀ {as bs : List Addr}, as.map V.ref = bs.map V.ref → as = bs
  | [], [], _ => rfl
  | [], _ :: _, h => by cases h
  | _ :: _, [], h => by cases h
  | a :: as, b :: bs, h => by
    rw [List.map_cons, List.map_cons] at h
    have h1 := List.cons.inj h
    rw [V.ref.inj h1.1, refs_inj h1.2]
abbrev sPi : Stmt := topS 28
theorem scPi : FnScope ["rows", "free", "names", "found", "told", "row", "whole", "at", "here", "there"] ["rows", "free", "names", "found"] (defScope sPi) := ⟨rfl, rfl, rfl, by decide +kernel, rfl, by decide +kernel, by decide +kernel⟩
def putV (free : Nat) (R Fd : List (List Int)) (u a : Nat) : Int := at2 R u (free + a) + S free fun j => at2 R u j * at2 Fd j a
def putT (free names : Nat) (R Fd : List (List Int)) : List (List Int) := (List.range R.length).map fun u => (List.range names).map fun a => putV free R Fd u a
theorem putT_len {free names : Nat} {R Fd : List (List Int)} : (putT free names R Fd).length = R.length := by unfold putT; rw [List.length_map, List.length_range]
theorem putT_wid {free names : Nat} {R Fd : List (List Int)} : Wid (putT free names R Fd) names := fun k c e => by
  unfold putT at e
  rw [List.getElem?_map] at e
  cases h : (List.range R.length)[k]? with
  | none => rw [h] at e; cases e
  | some j =>
    rw [h] at e
    cases e
    rw [List.length_map, List.length_range]
theorem putT_at {free names : Nat} {R Fd : List (List Int)} {u a : Nat} (hu : u < R.length) (ha : a < names) : at2 (putT free names R Fd) u a = putV free R Fd u a := by
  unfold at2 putT
  rw [getD_map_range hu, getD_map_range ha]
section
variable {K : PySem.W.Frag} {σ : L2.St} {H : Hp} {ta tb te : TE}
theorem el_listN {xs : List V} (h : EvL te σ H xs) : EvL (tCB (rListS K) (tCons te tNil)) σ H xs := fun H1 e Q q =>
  h H1 e _ fun p H2 np e2 hp => ⟨p, xs, rfl, .inl (sq_of hp), fun l hl => q l _ (fresh_back e2 hl) (e2.trans (Ex.new hl)) upd_same⟩
/-- zip of a new list and another -/
theorem el_lcZN {vs : List Nat} {i j : Nat} {b : Addr} {xs ys : List V} (rs : List Int) (h1 : EvL ta σ H xs) (h2 : Ev tb σ H (.ref b)) (hy : SqL K H b ys) (hl : rs.length = min xs.length ys.length) (hz : rs.length ≤ 40000) (hw : ∀ x y, wipe (((wipe σ vs).set i (some x)).set j (some y)) vs = wipe σ vs)
    (he : ∀ (k : Nat) (x y : V) (r : Int) H1, Ex H H1 → xs[k]? = some x → ys[k]? = some y → rs[k]? = some r → Ev te (((wipe σ vs).set i (some x)).set j (some y)) H1 (.int r)) : EvL (tLc (iZip K (tCons ta (tCons tb tNil))) (g2 K i j) tYes te vs) σ H (rs.map V.int) := fun H0 e Q q =>
  h1 H0 e _ fun a H1 na e1 ha => (el_lcZ (K := K) (i := i) (j := j) (a := a) (b := b) (ta := tCons (tC (.ref a)) (tCons tb tNil)) rs (ea_cons ev_c (ea_cons (h2.mono (e.trans e1)) ea_nil)) (sq_of ha) (ex_l (e.trans e1) hy) hl hz hw (fun k x y r H2 e2 => he k x y r H2 ((e.trans e1).trans e2))) H1 (Ex.refl H1) Q fun p H2 np e2 hp => q p H2 (fresh_back e1 np) (e1.trans e2) hp
end
theorem drop_eq {c : List Int} {free names : Nat} (h : c.length = free + names) : c.drop free = (List.range names).map fun a => c.getD (free + a) 0 := ext_range (by rw [List.length_drop]; omega) fun i _ => by rw [getD_drop]
section
variable {P : Program} {w : World} {K : PySem.W.Frag} {mg : Str → Option Value} {base : Heap}
def spPi : Sp := fun vs H Q _ => ∃ (ar af : Addr) (R Fd : List (List Int)) (free names X : Nat), vs = [.ref ar, .int (free : Int), .int (names : Int), .ref af] ∧ Mat H ar R ∧ Mat H af Fd ∧ R.length ≤ 240 ∧ free ≤ 240 ∧ names ≤ 6 ∧ Wid R (free + names) ∧ Fd.length = free ∧ Wid Fd names ∧
  (∀ u j, u < R.length → j < free → (at2 R u j).natAbs ≤ 2 ^ X) ∧ X ≤ 100000000 ∧ (∀ j a, (at2 Fd j a).natAbs ≤ 2 ^ 10) ∧ ∀ p H2, H p = none → Ex H H2 → Mat H2 p (putT free names R Fd) → Q (.ref p) H2
theorem ok_pi {f : Addr} {fd : FuncData} (F : Fun K "put_in" "put_in" sPi f fd) (mr : mg "range" = none) (mz : mg "zip" = none) (mL : mg "list" = none) : FnOk P w K mg base CX0 1 f fd ["rows", "free", "names", "found"] spPi := by
  refine F.ok scPi (fun vs H Q E h => ?_) (fun cdv A outer s H vs Q E hr h => ?_)
  · obtain ⟨ar, af, R, Fd, free, names, X, rfl, _⟩ := h
    rfl
  · obtain ⟨ar, af, R, Fd, free, names, X, rfl, hR, hF, hRl, hfr, hnm, hWR, hFl, hWF, hbR, hX, hbF, hQ⟩ := h
    have nd := scPi.nd
    refine ⟨_, pss_cons (ps_set (i := 4) nd rfl (.inl rfl) (pe_lst pa_nil))
      (pss_cons (ps_for PassesOwn.never rfl (pi_list (pv 0)) (pg_name (i := 5) nd rfl (.inr rfl))
        (pss_cons (ps_set (i := 6) nd rfl (.inl rfl) (pe_callTy call_list_of (by rfl) mL (by decide +kernel) (pa_cons (pe_slice sl_list (pv 5) (po_some (pv 1)) po_none) pa_nil)))
        (pss_cons (ps_for PassesOwn.never rfl (pi_range1 (by rfl) mr (pa_cons (pv 1) pa_nil)) (pg_name (i := 7) nd rfl (.inr rfl))
          (pss_one (ps_setLc (i := 6) (own := [("here", 8), ("there", 9)]) (g := g2 K 8 9) (tt := tYes) (te := tOp (rI0 fun i j => .int (i + j)) (tVar 8) (tOp (rI CMulX fun i j => .int (i * j)) (tIx K (tVar 5) (tVar 7)) (tVar 9))) rfl nd rfl rfl (sw_true rfl rfl rfl (by decide +kernel))
              (pi_zip (by rfl) mz (pa_cons (pv 6) (pa_cons (pe_ix ix_list (pv 3) (pv 7) (fun _ _ => rfl)) pa_nil))) (blkOk_by (by kernel_rfl)) (fun _ _ _ _ _ => pg_tup rfl (pgs_cons (pg_name (i := 8) nd rfl (.inl rfl)) (pgs_cons (pg_name (i := 9) nd rfl (.inl rfl)) pgs_nil))) (fun _ _ _ _ _ => pts_nil)
              (fun _ _ _ _ _ => pe_op op_add (pv 8) (pe_op op_mulX (pe_ix ix_list (pv 5) (pv 7) (fun _ _ => rfl)) (pv 9))))))
        (pss_one (ps_expr (pe_bm PySem.F.plainAttrs_list PySem.F.slot_list_append PySem.F.type_list_append mt_append (pv 4) (pa_cons (pv 6) pa_nil)))))))
      (pss_one (ps_ret (pv 4)))), ?_⟩
    refine q_asgL (el_lst ea_nil (by simp)) (fun pt H1 npt e1 hpt => ?_)
    obtain ⟨as, a1, a2⟩ := hR.ex e1
    refine q_forLn (ev_var rfl) (sq_of a1) (fun u σ' H' => ∃ x5 x6 x7, ∃ T : List (List Int), σ' = [some (.ref ar), some (.int (free : Int)), some (.int (names : Int)), some (.ref af), some (.ref pt), x5, x6, x7, none, none] ∧ Mat H' pt T ∧ T = (List.range u).map (fun u => (List.range names).map fun a => putV free R Fd u a) ∧ Ex H H' ∧ Ex H1 (upd H' pt (.lst [])))
      (fun H2 e2 => ⟨none, none, none, [], rfl, ⟨[], e2 _ _ hpt, rfl, fun k b c h _ => by simp at h⟩, rfl, e1.trans e2, fun b o hb => by
        by_cases z : b = pt
        · rw [z] at hb ⊢
          rw [hpt] at hb
          rw [upd_same, ← hb]
        · rw [upd_ne z]
          exact e2 b o hb⟩)
      (fun u σ' H' _ hP => ?_) (fun u x σ' H' hx hP => ?_) (fun σ' H' hP => ?_)
    · obtain ⟨_, _, _, _, _, _, _, eX, _⟩ := hP
      obtain ⟨as', b1, b2⟩ := hR
      have : as' = as := by
        have h1 := e1 _ _ b1
        rw [a1] at h1
        have h2 := HO.lst.inj (Option.some.inj h1)
        exact refs_inj h2.symm
      rw [← this]
      exact sq_of (eX _ _ b1)
    · obtain ⟨x5, x6, x7, T, rfl, hMT, hTe, eX, eX1⟩ := hP
      rw [List.getElem?_map] at hx
      cases hb : as[u]? with
      | none => rw [hb] at hx; cases hx
      | some b =>
        rw [hb] at hx
        cases hx
        have hu : u < R.length := by rw [← a2.1]; exact (List.getElem?_eq_some_iff.mp hb).1
        have hbpt : b ≠ pt := by
          have h0 := a2.2 u b _ hb (List.getElem?_eq_getElem hu)
          intro z
          obtain ⟨as', b1, b2⟩ := hR
          have : as' = as := by
            have h1 := e1 _ _ b1
            rw [a1] at h1
            have h2 := HO.lst.inj (Option.some.inj h1)
            exact refs_inj h2.symm
          rw [this] at b2
          have h3 := b2.2 u b _ hb (List.getElem?_eq_getElem hu)
          have h4 : H pt = none := npt
          rw [z, h4] at h3
          cases h3
        have hrow : H' b = some (.lst (R[u].map V.int)) := by
          have := eX1 _ _ (a2.2 u b _ hb (List.getElem?_eq_getElem hu))
          rw [upd_ne hbpt] at this
          exact this
        have hRu : R[u].length = free + names := hWR u _ (List.getElem?_eq_getElem hu)
        have hRat : ∀ i, R[u].getD i 0 = at2 R u i := fun i => by
          unfold at2
          rw [getD_of (List.getElem?_eq_getElem hu)]
        obtain ⟨asT, t1, t2⟩ := hMT
        refine q_asgL (xs := ((List.range names).map fun a => at2 R u (free + a) + S 0 fun j => at2 R u j * at2 Fd j a).map V.int) ?_ (fun pw H2 npw e2 hpw => ?_)
        · have e : ((List.range names).map fun a => at2 R u (free + a) + S 0 fun j => at2 R u j * at2 Fd j a) = R[u].drop free := by
            rw [drop_eq hRu]
            exact List.map_congr_left fun a _ => by
              rw [hRat]
              exact Int.add_zero _
          rw [e]
          refine el_listN ?_
          have := el_sl (K := K) (σ := ([some (.ref ar), some (.int (free : Int)), some (.int (names : Int)), some (.ref af), some (.ref pt), some (.ref b), x6, x7, none, none] : L2.St)) (te := tVar 5) (tl := tPart (tVar 1)) (th := tNoPart) (ev_var rfl) (eo_some (ev_var rfl)) eo_none (sq_of hrow)
          rw [cut_drop, ← List.map_drop] at this
          exact this
        · refine q_forR1 (n := (free : Int)) (ea_cons (ev_var rfl) ea_nil) (by omega) (fun j σ' H'' => ∃ x7 pw, σ' = [some (.ref ar), some (.int (free : Int)), some (.int (names : Int)), some (.ref af), some (.ref pt), some (.ref b), some (.ref pw), x7, none, none] ∧ H'' pw = some (.lst (((List.range names).map fun a => at2 R u (free + a) + S j fun j => at2 R u j * at2 Fd j a).map V.int)) ∧ pw ≠ pt ∧ Ex H2 H'')
            (fun H3 e3 => ⟨x7, pw, rfl, e3 _ _ hpw, (ne_of_none t1 npw).symm, e3⟩) (fun j σ' H3 hj hP => ?_) (fun σ' H3 hP => ?_)
          · obtain ⟨y7, pw2, rfl, hw2, nw2, e3⟩ := hP
            have hjf : j < free := by omega
            obtain ⟨bF, f1, f2⟩ := ev_row (K := K) (k := j) (σ := ([some (.ref ar), some (.int (free : Int)), some (.int (names : Int)), some (.ref af), some (.ref pt), some (.ref b), some (.ref pw2), some (.int (j : Int)), none, none] : L2.St)) (ta := tVar 3) (tb := tVar 7) (ev_var rfl) (hF.ex ((eX.trans e2).trans e3)) (ev_var rfl) (by omega)
            have hFj : (Fd.getD j []).length = names := hWF.getD (by omega)
            refine s_asgL (xs := ((List.range names).map fun a => at2 R u (free + a) + S (j + 1) fun j => at2 R u j * at2 Fd j a).map V.int) (el_lcZ (K := K) _ (ea_cons (ev_var rfl) (ea_cons f2 ea_nil)) (sq_of hw2) (sq_of f1) (by rw [List.length_map, List.length_range, List.length_map, List.length_map, List.length_range, List.length_map, hFj, Nat.min_self]) (by rw [List.length_map, List.length_range]; omega) (fun x y => rfl) (fun k x y r H4 e4 hx hy hr => ?_)) (fun pw3 H4 npw3 e4 hpw3 => ⟨_, pw3, rfl, hpw3, fun z => ?_, e3.trans e4⟩)
            · have hk : k < names := by
                have := (List.getElem?_eq_some_iff.mp hr).1
                simpa using this
              rw [List.map_map, List.getElem?_map, List.getElem?_range hk] at hx
              rw [List.getElem?_map, List.getElem?_range hk] at hr
              rw [ints_at (by omega)] at hy
              cases hx
              cases hr
              cases hy
              have hm : CMulX (at2 R u j) ((Fd.getD j []).getD k 0) := mulx_ok (a := X + 1) (b := 11) (lt_two (hbR u j hu hjf)) (lt_two (hbF j k)) (by omega)
              refine ev_is (ev_add (ev_var rfl) (ev_mulX (ev_ixI (i := j) (ev_var rfl) (sq_of (e4 _ _ (e3 _ _ (e2 _ _ hrow)))) (ev_var rfl) (by omega)) (ev_var rfl) (by rw [hRat]; exact hm))) ?_
              rw [hRat]
              show V.int (_ + _ + _) = V.int (_ + (_ + _))
              rw [Int.add_assoc]
              rfl
            · rw [z, e3 _ _ (e2 _ _ t1)] at npw3
              cases npw3
          · obtain ⟨y7, pw2, rfl, hw2, nw2, e3⟩ := hP
            rw [Int.toNat_natCast] at hw2
            have e23 := e2.trans e3
            refine s_app (l := pt) (e23 _ _ t1) (ev_var rfl) (ev_var rfl) (by rw [List.length_map, t2.1, hTe, List.length_map, List.length_range]; omega) (fun H4 e4 => ?_)
            refine ⟨_, _, _, T ++ [(List.range names).map fun a => putV free R Fd u a], rfl, mat_app (e4 _ _ (e23 _ _ t1)) (t2.ex (e23.trans e4)) (e4 _ _ hw2) nw2, ?_, Ex.mut ((eX.trans e23).trans e4) npt, fun c o hc => ?_⟩
            · rw [hTe, List.range_succ, List.map_append]
              rfl
            · by_cases z : c = pt
              · have := eX1 c o hc
                rw [z] at this ⊢
                rw [upd_same] at this ⊢
                exact this
              · have := eX1 c o hc
                rw [upd_ne z] at this
                rw [upd_ne z, upd_ne z]
                exact e4 _ _ (e23 _ _ this)
    · obtain ⟨x5, x6, x7, T, rfl, hMT, hTe, eX, eX1⟩ := hP
      refine s_ret (ev_var rfl) fun H2 e2 => hQ pt H2 npt (eX.trans e2) ?_
      have := hMT.ex e2
      rw [hTe, List.length_map, a2.1] at this
      exact this
end
end Mw

-- MwD9b
set_option Elab.async false
set_option linter.all false
set_option maxRecDepth 100000
set_option maxHeartbeats 8000000
namespace Mw
open PySem PySem.Spec PyProof.Rows L2 Evl LamX
abbrev sMb : Stmt := topS 29
theorem scMb : FnScope ["rows", "free", "names", "wanted", "equations", "row", "due", "told", "here", "there"] ["rows", "free", "names", "wanted"] (defScope sMb) := ⟨rfl, rfl, rfl, by decide +kernel, rfl, by decide +kernel, by decide +kernel⟩
theorem take_eq {c : List Int} {free d : Nat} (h : c.length = d) (hd : free ≤ d) : c.take free = (List.range free).map fun a => c.getD a 0 := ext_range (by rw [List.length_take]; omega) fun i hi => by
  rw [List.getD_eq_getElem?_getD, List.getElem?_take_of_lt hi, ← List.getD_eq_getElem?_getD]
def eqRow (free names : Nat) (R W : List (List Int)) (i : Nat) : List Int := ((List.range free).map fun j => at2 R i j) ++ (List.range names).map fun a => at2 R i (free + a) - at2 W i a
def eqsOf (free names : Nat) (R W : List (List Int)) : List (List Int) := (List.range R.length).map (eqRow free names R W)
section
variable {free names : Nat} {R W : List (List Int)}
theorem eqRow_len {i : Nat} : (eqRow free names R W i).length = free + names := by
  unfold eqRow
  rw [List.length_append, List.length_map, List.length_map, List.length_range, List.length_range]
theorem eqsOf_len : (eqsOf free names R W).length = R.length := by unfold eqsOf; rw [List.length_map, List.length_range]
theorem eqsOf_wid : Wid (eqsOf free names R W) (free + names) := fun k c e => by
  unfold eqsOf at e
  rw [List.getElem?_map] at e
  cases h : (List.range R.length)[k]? with
  | none => rw [h] at e; cases e
  | some j =>
    rw [h] at e
    cases e
    exact eqRow_len
theorem eqsOf_l {i k : Nat} (hi : i < R.length) (hk : k < free) : at2 (eqsOf free names R W) i k = at2 R i k := by
  show ((eqsOf free names R W).getD i []).getD k 0 = _
  unfold eqsOf
  rw [getD_map_range hi]
  unfold eqRow
  rw [getD_app_l (by rw [List.length_map, List.length_range]; exact hk), getD_map_range hk]
theorem eqsOf_r {i a : Nat} (hi : i < R.length) (ha : a < names) : at2 (eqsOf free names R W) i (free + a) = at2 R i (free + a) - at2 W i a := by
  show ((eqsOf free names R W).getD i []).getD (free + a) 0 = _
  unfold eqsOf
  rw [getD_map_range hi]
  unfold eqRow
  have e : free = ((List.range free).map fun j => at2 R i j).length := by rw [List.length_map, List.length_range]
  have := getD_app_r (a := (List.range free).map fun j => at2 R i j) (b := (List.range names).map fun a => at2 R i (free + a) - at2 W i a) (k := a) (d := 0)
  rw [← e] at this
  rw [this, getD_map_range ha]
end
/-- the rows told of equations with one solution -/
theorem sol_one {n free names free' : Nat} {R W Pu rows : List (List Int)} {e : Nat → Nat} {j0 G : Nat} (hRl : R.length = n) (ind : ∀ y : Nat → Int, (∀ u, u < n → (S free fun j => y j * at2 R u j) = 0) → ∀ j, j < free → y j = 0)
    (hPl : Pu.length = free) (hWP : Wid Pu names) (hput : ∀ u a, u < n → a < names → at2 W u a = at2 R u (free + a) + S free fun j => at2 R u j * at2 Pu j a)
    (hS : Sol free names (eqsOf free names R W) free' rows e j0 G) : free' = 0 ∧ rows = Pu := by
  have hl : (eqsOf free names R W).length = n := eqsOf_len.trans hRl
  have f0 : free' = 0 := by
    by_cases z : free' = 0
    · exact z
    · have h0 : ∀ u, u < free → at2 rows u 0 = 0 := by
        refine ind (fun u => at2 rows u 0) fun i hi => ?_
        have := hS.ker 0 (by omega) i (by omega)
        rw [← this]
        exact S_congr fun u hu => by rw [eqsOf_l (by omega) hu, Int.mul_comm]
      have := hS.ind (unit 0) (fun u hu => S_zero fun j hj => by
        by_cases z2 : j = 0
        · rw [z2, h0 u hu, Int.mul_zero]
        · show (if j = 0 then (1 : Int) else 0) * _ = 0
          rw [if_neg z2, Int.zero_mul]) 0 (by omega)
      have e1 : unit 0 0 = 1 := rfl
      omega
  refine ⟨f0, ?_⟩
  subst f0
  have hw : Wid rows names := by have := hS.wid; rw [Nat.zero_add] at this; exact this
  refine mat_ext hS.len hPl hw hWP fun u a hu ha => ?_
  have hd := ind (fun u => at2 rows u a - at2 Pu u a) (fun i hi => by
    have h1 := hS.par a ha i (by omega)
    rw [eqsOf_r (by omega) ha, hput i a hi ha, S_congr (n := free) (f := fun u => at2 (eqsOf free names R W) i u * at2 rows u (0 + a)) (g := fun u => at2 R i u * at2 rows u a) fun u hu => by rw [eqsOf_l (by omega) hu, Nat.zero_add]] at h1
    have h2 : (S free fun j => (at2 rows j a - at2 Pu j a) * at2 R i j) = (S free fun u => at2 R i u * at2 rows u a) - S free fun j => at2 R i j * at2 Pu j a := by
      rw [← S_sub]
      exact S_congr fun j _ => by rw [← Int.mul_sub, Int.mul_comm]
    show (S free fun j => (at2 rows j a - at2 Pu j a) * at2 R i j) = 0
    rw [h2]
    omega) u hu
  have : at2 rows u a - at2 Pu u a = 0 := hd
  omega
section
variable {P : Program} {w : World} {K : PySem.W.Frag} {mg : Str → Option Value} {base : Heap}
def spMb (Pt : Addr) : Sp := fun vs H Q _ => ∃ (ar aw : Addr) (R W Pu : List (List Int)) (free names : Nat) (e : Nat → Nat) (j0 g : Nat), vs = [.ref ar, .int (free : Int), .int (names : Int), .ref aw] ∧ Mat H ar R ∧ Mat H aw W ∧ R.length ≤ 240 ∧ free ≤ 240 ∧ names ≤ 6 ∧ Wid R (free + names) ∧ W.length = R.length ∧ Wid W names ∧ Pu.length = free ∧ Wid Pu names ∧
  (∀ u a, u < R.length → a < names → at2 W u a = at2 R u (free + a) + S free fun j => at2 R u j * at2 Pu j a) ∧ (∀ y : Nat → Int, (∀ u, u < R.length → (S free fun j => y j * at2 R u j) = 0) → ∀ j, j < free → y j = 0) ∧ Grow e ∧
  (∀ u j, u < R.length → j < free → (at2 R u j).natAbs ≤ 2 ^ e j0) ∧ (∀ u a, u < R.length → a < names → (at2 R u (free + a) - at2 W u a).natAbs ≤ 2 ^ g) ∧ e (j0 + (free - 1)) ≤ 8990 ∧ g ≤ 50000000 ∧ Tabs (T1 Pt) H ∧
  ∀ p H', Mat H' p Pu → ExtN H H' → Tabs (T1 Pt) H' → Q (.ref p) H'
theorem ok_mb {f fSo Pt : Addr} {fd fdSo : FuncData} (F : Fun K "met_by" "met_by" sMb f fd)
    (GSo : FnOk P w K mg base CX0 6 fSo fdSo ["unknowns", "names", "equations"] (spSo K Pt)) (kSo : PySem.W.keepIn K (.ref fSo) = true) (bSo : Binds K fdSo ["unknowns", "names", "equations"] []) (gSo : mg "solved" = some (.ref fSo))
    (mz : mg "zip" = none) (mL : mg "list" = none) : FnOk P w K mg base CX0 7 f fd ["rows", "free", "names", "wanted"] (spMb Pt) := by
  refine F.ok scMb (fun vs H Q E h => ?_) (fun cdv A outer s H vs Q E hr h => ?_)
  · obtain ⟨ar, aw, R, W, Pu, free, names, e, j0, g, rfl, _⟩ := h
    rfl
  · obtain ⟨ar, aw, R, W, Pu, free, names, e, j0, g, rfl, hR, hW, hRl, hfr, hnm, hWR, hWl, hWW, hPl, hWP, hput, hind, he, hbR, hbg, h89, hg, hT, hQ⟩ := h
    have nd := scMb.nd
    refine ⟨_, pss_cons (ps_set (i := 4) nd rfl (.inl rfl) (pe_lst pa_nil))
      (pss_cons (ps_for PassesOwn.never rfl (pi_zip (by rfl) mz (pa_cons (pv 0) (pa_cons (pv 3) pa_nil))) (pg_tup rfl (pgs_cons (pg_name (i := 5) nd rfl (.inl rfl)) (pgs_cons (pg_name (i := 6) nd rfl (.inl rfl)) pgs_nil)))
        (pss_one (ps_expr (pe_bm PySem.F.plainAttrs_list PySem.F.slot_list_append PySem.F.type_list_append mt_append (pv 4) (pa_cons (pe_op op_cat
          (pe_callTy call_list_of (by rfl) mL (by decide +kernel) (pa_cons (pe_slice sl_list (pv 5) po_none (po_some (pv 1))) pa_nil))
          (pe_lc (own := [("here", 8), ("there", 9)]) (g := g2 K 8 9) (tt := tYes) (te := tOp (rI0 fun i j => .int (i - j)) (tVar 8) (tVar 9)) rfl nd (pi_zip (by rfl) mz (pa_cons (pe_slice sl_list (pv 5) (po_some (pv 1)) po_none) (pa_cons (pv 6) pa_nil))) (blkOk_by (by kernel_rfl))
            (fun _ _ _ _ _ => pg_tup rfl (pgs_cons (pg_name (i := 8) nd rfl (.inl rfl)) (pgs_cons (pg_name (i := 9) nd rfl (.inl rfl)) pgs_nil))) (fun _ _ _ _ _ => pts_nil) (fun _ _ _ _ _ => pe_op op_sub (pv 8) (pv 9)))) pa_nil)))))
      (pss_cons (ps_set (i := 7) nd rfl (.inr rfl) (pe_call GSo hr (by rfl) gSo kSo bSo .nil pass0 (pa_cons (pv 1) (pa_cons (pv 2) (pa_cons (pv 4) pa_nil)))))
      (pss_cons (ps_if (pt_cmpR op_eq (pe_ix ix_tup (pv 7) pe_int (fun _ _ => rfl)) pe_str (nomark _)) pss_never pss_nil)
      (pss_one (ps_ret (pe_lc (own := [("row", 5)]) (g := gName 5) (tt := tYes) (te := tCB (rListS K) (tCons (tSl (rSlL K) (tVar 5) (tPart (tOp (rIxT K) (tVar 7) (tC (.int 1)))) tNoPart) tNil)) rfl nd (pi_list (pe_ix ix_tup (pv 7) pe_int (fun _ _ => rfl))) (blkOk_by (by kernel_rfl))
          (fun _ _ _ _ _ => pg_name (i := 5) nd rfl (.inl rfl)) (fun _ _ _ _ _ => pts_nil) (fun _ _ _ _ _ => pe_callTy call_list_of (by rfl) mL (by decide +kernel) (pa_cons (pe_slice sl_list (pv 5) (po_some (pe_ix ix_tup (pv 7) pe_int (fun _ _ => rfl))) po_none) pa_nil)))))))), ?_⟩
    refine q_asgL (el_lst ea_nil (by simp)) (fun pe H1 npe e1 hpe => ?_)
    have hR0 := hR
    have hW0 := hW
    obtain ⟨as, a1, a2⟩ := hR
    obtain ⟨bs, b1, b2⟩ := hW
    have lA : (as.map V.ref).length = R.length := by rw [List.length_map, a2.1]
    have lB : (bs.map V.ref).length = R.length := by rw [List.length_map, b2.1, hWl]
    refine q_forZ (i := 5) (j := 6) (ea_cons (ev_var rfl) (ea_cons (ev_var rfl) ea_nil)) (sq_of (e1 _ _ a1)) (sq_of (e1 _ _ b1)) (fun k σ' H' => ∃ x5 x6, ∃ T : List (List Int), σ' = [some (.ref ar), some (.int (free : Int)), some (.int (names : Int)), some (.ref aw), some (.ref pe), x5, x6, none, none, none] ∧ Mat H' pe T ∧ T = (List.range k).map (eqRow free names R W) ∧ Ex H H')
      (fun H2 e2 => ⟨none, none, [], rfl, ⟨[], e2 _ _ hpe, rfl, fun k b c h _ => by simp at h⟩, rfl, e1.trans e2⟩)
      (fun k σ' H' _ hP => ?_) (fun k x y σ' H' H2 hx hy hP e2 => ?_) (fun σ' H' hP => ?_)
    · obtain ⟨_, _, _, _, _, _, eX⟩ := hP
      exact ⟨sq_of (eX _ _ a1), sq_of (eX _ _ b1)⟩
    · obtain ⟨x5, x6, T, rfl, hMT, hTe, eX⟩ := hP
      rw [List.getElem?_map] at hx hy
      cases ha : as[k]? with
      | none => rw [ha] at hx; cases hx
      | some ra =>
        cases hb : bs[k]? with
        | none => rw [hb] at hy; cases hy
        | some rb =>
          rw [ha] at hx
          rw [hb] at hy
          cases hx
          cases hy
          have hk : k < R.length := by rw [← a2.1]; exact (List.getElem?_eq_some_iff.mp ha).1
          have hk2 : k < W.length := by omega
          have hrow := e2 _ _ (eX _ _ (a2.2 k ra _ ha (List.getElem?_eq_getElem hk)))
          have hdue := e2 _ _ (eX _ _ (b2.2 k rb _ hb (List.getElem?_eq_getElem hk2)))
          have hRk : R[k].length = free + names := hWR k _ (List.getElem?_eq_getElem hk)
          have hWk : W[k].length = names := hWW k _ (List.getElem?_eq_getElem hk2)
          have hRat : ∀ i, R[k].getD i 0 = at2 R k i := fun i => by
            unfold at2
            rw [getD_of (List.getElem?_eq_getElem hk)]
          have hWat : ∀ i, W[k].getD i 0 = at2 W k i := fun i => by
            unfold at2
            rw [getD_of (List.getElem?_eq_getElem hk2)]
          obtain ⟨asT, t1, t2⟩ := hMT.ex e2
          have hrw : (eqRow free names R W k).map V.int = ((List.range free).map fun j => at2 R k j).map V.int ++ ((List.range names).map fun a => at2 R k (free + a) - at2 W k a).map V.int := by
            unfold eqRow
            rw [List.map_append]
          refine s_appL (l := pe) (ys := (eqRow free names R W k).map V.int) t1 (ev_var rfl) (by
            rw [hrw]
            refine el_cat ?_ (el_lcZN (xs := (R[k].drop free).map V.int) (ys := W[k].map V.int) (i := 8) (j := 9) (b := rb) _ ?_ (ev_var rfl) (sq_of hdue) ?_ ?_ (fun x y => rfl) (fun i x y r H4 e4 hx hy hr => ?_)) (by simp only [List.length_map, List.length_range]; omega)
            · have e : ((List.range free).map fun j => at2 R k j) = R[k].take free := by
                rw [take_eq hRk (by omega)]
                exact List.map_congr_left fun a _ => (hRat a).symm
              rw [e]
              refine el_listN ?_
              have := el_sl (K := K) (σ := ([some (.ref ar), some (.int (free : Int)), some (.int (names : Int)), some (.ref aw), some (.ref pe), some (.ref ra), some (.ref rb), none, none, none] : L2.St)) (te := tVar 5) (tl := tNoPart) (th := tPart (tVar 1)) (ev_var rfl) eo_none (eo_some (ev_var rfl)) (sq_of hrow)
              rw [cut_take, ← List.map_take] at this
              exact this
            · have := el_sl (K := K) (σ := ([some (.ref ar), some (.int (free : Int)), some (.int (names : Int)), some (.ref aw), some (.ref pe), some (.ref ra), some (.ref rb), none, none, none] : L2.St)) (te := tVar 5) (tl := tPart (tVar 1)) (th := tNoPart) (ev_var rfl) (eo_some (ev_var rfl)) eo_none (sq_of hrow)
              rw [cut_drop, ← List.map_drop] at this
              exact this
            · rw [List.length_map, List.length_range, List.length_map, List.length_map, List.length_drop, hRk, hWk]
              omega
            · rw [List.length_map, List.length_range]
              omega
            · have hi : i < names := by
                have := (List.getElem?_eq_some_iff.mp hr).1
                rw [List.length_map, List.length_range] at this
                exact this
              rw [ints_at (by rw [List.length_drop]; omega), getD_drop, hRat] at hx
              rw [ints_at (by omega), hWat] at hy
              rw [List.getElem?_map, List.getElem?_range hi] at hr
              cases hx
              cases hy
              cases hr
              exact ev_sub (ev_var rfl) (ev_var rfl)) (by rw [List.length_map, t2.1, hTe, List.length_map, List.length_range]; omega) (fun w H4 nw e4 hw4 => ?_)
          have nwp : w ≠ pe := fun z => by
            rw [z, t1] at nw
            cases nw
          refine ⟨_, _, T ++ [eqRow free names R W k], rfl, mat_app (e4 _ _ t1) (t2.ex e4) hw4 nwp, ?_, Ex.mut ((eX.trans e2).trans e4) npe⟩
          rw [hTe, List.range_succ, List.map_append]
          rfl
    · obtain ⟨x5, x6, T, rfl, hMT, hTe, eX⟩ := hP
      rw [lA, lB, Nat.min_self] at hTe
      have hTe' : T = eqsOf free names R W := hTe
      subst hTe'
      have hel : (eqsOf free names R W).length = R.length := eqsOf_len
      refine q_raw (tcall_A (ea_cons (ev_var rfl) (ea_cons (ev_var rfl) (ea_cons (ev_var rfl) ea_nil))) (fun H7 e7 => ⟨pe, free, names, eqsOf free names R W, e, j0, g, rfl, hfr, hnm, hMT.ex e7, eqsOf_wid, by omega, he, ?_, ?_, ⟨fun a u => at2 Pu u a, fun a ha i hi => ?_⟩, ?_, by omega, by omega, .inl h89, hT.ext (eX.trans e7), fun t q free' rows H8 ht hMr hS eN hT8 => ?_⟩))
      · intro i k hi hk
        rw [eqsOf_l (by omega) hk]
        exact hbR i k (by omega) hk
      · intro i k hi hk
        rw [eqsOf_r (by omega) hk]
        exact hbg i k (by omega) hk
      · rw [eqsOf_r (by omega) ha, hput i a (by omega) ha, S_congr (n := free) (f := fun u => at2 (eqsOf free names R W) i u * at2 Pu u a) (g := fun j => at2 R i j * at2 Pu j a) fun u hu => by rw [eqsOf_l (by omega) hu]]
        omega
      · intro h1
        exact Nat.le_trans (he.mono (by omega)) h89
      · obtain ⟨f0, hr0⟩ := sol_one (n := R.length) rfl hind hPl hWP hput hS
        subst f0
        subst hr0
        refine q_when (b := false) (et_test (ev_op (ev_op (ev_var rfl) ev_c (rv_ixT (st_of ht) (v := .str "solved") rfl)) ev_c (show RV rEq (.str "solved") (.str "clash") H8 (.bl false) by
          have := rv_eq (x := .str "solved") (y := .str "clash") (H := H8) (by decide)
          rw [show decide ((V.str "solved") = V.str "clash") = false by decide +kernel] at this
          exact this))) (fun hb => Bool.noConfusion hb) (fun _ H9 e9 => ?_)
        obtain ⟨cs, c1, c2⟩ := hMr.mat.ex e9
        refine s_retN (P := fun p H' => Mat H' p rows) (em_lcL (K := K) (a := q) rows (ev_op (ev_var rfl) ev_c (rv_ixT (st_of (e9 _ _ ht)) (v := .ref q) rfl)) (sq_of c1) (by rw [List.length_map, c2.1]) (by rw [List.length_map, c2.1]; omega) (fun x => rfl) (fun k x c H10 e10 hx hc => ?_)) (fun p H10 np e10 hMp => hQ p H10 hMp ?_ ?_)
        · rw [List.getElem?_map] at hx
          cases hb : cs[k]? with
          | none => rw [hb] at hx; cases hx
          | some b =>
            rw [hb] at hx
            cases hx
            refine el_listN ?_
            have := el_sl (K := K) (σ := ([some (.ref ar), some (.int (free : Int)), some (.int (names : Int)), some (.ref aw), some (.ref pe), some (.ref b), x6, some (.ref t), none, none] : L2.St)) (te := tVar 5) (tl := tPart (tOp (rIxT K) (tVar 7) (tC (.int 1)))) (th := tNoPart) (ev_var rfl) (eo_some (ev_op (ev_var rfl) ev_c (rv_ixT (st_of (e10 _ _ (e9 _ _ ht))) (v := .int ((0 : Nat) : Int)) rfl))) eo_none (sq_of (e10 _ _ (c2.2 k b c hb hc)))
            rw [cut_drop, List.drop_zero] at this
            exact this
        · exact ((ExtN.of (eX.trans e7)).trans eN).trans (ExtN.of (e9.trans e10))
        · exact hT8.ext (e9.trans e10)
end
end Mw

-- MwNf
set_option Elab.async false
set_option linter.all false
set_option maxRecDepth 100000
namespace Mw
theorem div_abs {x p : Int} : (x / p).natAbs ≤ x.natAbs := Int.natAbs_ediv_le_natAbs x p
theorem neg_div_abs {x p : Int} {b : Nat} (h : x.natAbs ≤ 2 ^ b) : (0 - x / p).natAbs ≤ 2 ^ b := by
  have := div_abs (x := x) (p := p)
  omega
theorem rem_in {x p : Int} (h : 0 < p) : 0 ≤ x + (0 - x / p) * p ∧ x + (0 - x / p) * p < p := by
  have e : x + (0 - x / p) * p = x % p := by
    rw [Int.emod_def, Int.sub_mul, Int.zero_mul, Int.mul_comm p]
    omega
  rw [e]
  exact ⟨Int.emod_nonneg _ (by omega), Int.emod_lt_of_pos _ h⟩
theorem red_bd {x q c : Int} {b E : Nat} (hx : x.natAbs ≤ 2 ^ b) (hq : q.natAbs ≤ 2 ^ b) (hc : c.natAbs ≤ 2 ^ E) : (x + q * c).natAbs ≤ 2 ^ (b + (E + 1)) := by
  have h1 := Int.natAbs_mul q c
  have h2 : q.natAbs * c.natAbs ≤ 2 ^ b * 2 ^ E := Nat.mul_le_mul hq hc
  have h3 : 2 ^ (b + (E + 1)) = 2 ^ b * 2 ^ E * 2 := by rw [Nat.pow_add, Nat.pow_succ, Nat.mul_assoc]
  have h4 : 2 ^ b * 1 ≤ 2 ^ b * 2 ^ E := Nat.mul_le_mul_left _ (Nat.one_le_two_pow)
  omega
def redV (c cA : List Int) (p : Nat) : List Int := vadd c cA (0 - c.getD p 0 / cA.getD p 0)
structure CI (m r : Nat) (L : List (List Int)) (ps : List Nat) (E A K : Nat) (C : List (List Int)) : Prop where
  len : C.length = r
  wid : Wid C m
  ech : Ech r m (at2 C) ps
  sp : Spans m r (at2 C) r (at2 L)
  sp' : Spans m r (at2 L) r (at2 C)
  old : ∀ k, k < r → A ≤ k → ∀ i, at2 C k i = at2 L k i
  piv : ∀ k, k < r → at2 C k (ps.getD k 0) = at2 L k (ps.getD k 0)
  red : ∀ j k, k < j → j < A → 0 ≤ at2 C k (ps.getD j 0) ∧ at2 C k (ps.getD j 0) < at2 L j (ps.getD j 0)
  redA : ∀ k, k < K → 0 ≤ at2 C k (ps.getD A 0) ∧ at2 C k (ps.getD A 0) < at2 L A (ps.getD A 0)
  bd : ∀ k i, k < r → K ≤ k → (at2 C k i).natAbs ≤ 2 ^ (E + A * (E + 1))
  bd' : ∀ k i, k < K → (at2 C k i).natAbs ≤ 2 ^ (E + (A + 1) * (E + 1))
section
variable {m r E A K : Nat} {L C : List (List Int)} {ps : List Nat}
theorem ci_next (h : CI m r L ps E A A C) : CI m r L ps E (A + 1) 0 C :=
  ⟨h.len, h.wid, h.ech, h.sp, h.sp', fun k hk ha i => h.old k hk (by omega) i, h.piv, fun j k h1 h2 => by
    by_cases z : j = A
    · rw [z]
      exact h.redA k (by omega)
    · exact h.red j k h1 (by omega), fun k hk => by omega, fun k i hk _ => by
    by_cases z : k < A
    · exact h.bd' k i z
    · exact Nat.le_trans (h.bd k i hk (by omega)) (two_pow_mono (by rw [Nat.succ_mul]; omega)), fun k i hk => by omega⟩
theorem ci_step (h : CI m r L ps E A K C) (hr : ps.length = r) (hK : K < A) (hA : A < r) (hbL : ∀ i, (at2 L A i).natAbs ≤ 2 ^ E) : CI m r L ps E A (K + 1) (C.set K (redV (C.getD K []) (C.getD A []) (ps.getD A 0))) := by
  have hlK : K < C.length := by rw [h.len]; omega
  have hlA : A < C.length := by rw [h.len]; omega
  have wK := h.wid.getD hlK
  have wA := h.wid.getD hlA
  have hE := h.ech
  have s1 : ∀ i, at2 (C.set K (redV (C.getD K []) (C.getD A []) (ps.getD A 0))) K i = at2 C K i + (0 - at2 C K (ps.getD A 0) / at2 C A (ps.getD A 0)) * at2 C A i := fun i => by
    rw [at2_set_self hlK]
    unfold redV
    rw [vadd_at (wK.trans wA.symm)]
    rfl
  have s2 : ∀ k, k ≠ K → ∀ i, at2 (C.set K (redV (C.getD K []) (C.getD A []) (ps.getD A 0))) k i = at2 C k i := fun k hk i => at2_set_ne (Ne.symm hk) i
  have hincA : ∀ j, j < A → ps.getD j 0 < ps.getD A 0 := fun j hj => hE.inc j A hj (by omega)
  have zA : ∀ i, i < ps.getD A 0 → at2 C A i = 0 := fun i hi => hE.up A (by omega) i hi
  have s3 : ∀ k i, i < ps.getD A 0 → at2 (C.set K (redV (C.getD K []) (C.getD A []) (ps.getD A 0))) k i = at2 C k i := fun k i hi => by
    by_cases z : k = K
    · rw [z, s1, zA i hi, Int.mul_zero, Int.add_zero]
    · exact s2 k z i
  have pA := hE.pos A (by omega)
  have hpv := h.piv A hA
  have U : Uni r (at2 C) (at2 (C.set K (redV (C.getD K []) (C.getD A []) (ps.getD A 0)))) := Uni.add (a := K) (b := A) (by omega) hA (by omega) s1 (fun k _ hk i => s2 k hk i)
  refine ⟨by rw [List.length_set]; exact h.len, h.wid.set (by unfold redV; exact vadd_len wK wA), ⟨hE.le, hE.lt, hE.inc, fun k hk => ?_, fun k hk i hi => ?_, fun k h1 h2 => by omega⟩, fun y => ?_, fun y => ?_, fun k hk ha i => by rw [s2 k (by omega)]; exact h.old k hk ha i, fun k hk => ?_, fun j k h1 h2 => ?_, fun k hk => ?_, fun k i hk hk2 => by rw [s2 k (by omega)]; exact h.bd k i hk (by omega), fun k i hk => ?_⟩
  · by_cases z : k = K
    · rw [z, s3 K _ (hincA K hK)]
      exact hE.pos K (by omega)
    · rw [s2 k z]
      exact hE.pos k hk
  · by_cases z : k = K
    · rw [z] at hi ⊢
      rw [s3 K i (by have := hincA K hK; omega)]
      exact hE.up K (by omega) i hi
    · rw [s2 k z]
      exact hE.up k hk i hi
  · obtain ⟨z, hz⟩ := U.bwd y
    obtain ⟨z2, hz2⟩ := h.sp z
    exact ⟨z2, fun i hi => (hz i).trans (hz2 i hi)⟩
  · obtain ⟨z, hz⟩ := h.sp' y
    obtain ⟨z2, hz2⟩ := U.fwd z
    exact ⟨z2, fun i hi => (hz i hi).trans (hz2 i)⟩
  · by_cases z : k = K
    · rw [z, s3 K _ (hincA K hK)]
      exact h.piv K (by omega)
    · rw [s2 k z]
      exact h.piv k hk
  · rw [s3 k _ (hincA j h2)]
    exact h.red j k h1 h2
  · by_cases z : k = K
    · rw [z, s1, ← hpv]
      exact rem_in pA
    · rw [s2 k z]
      exact h.redA k (by omega)
  · by_cases z : k = K
    · rw [z, s1]
      have b1 := h.bd K i (by omega) (Nat.le_refl _)
      have b2 := neg_div_abs (p := at2 C A (ps.getD A 0)) (h.bd K (ps.getD A 0) (by omega) (Nat.le_refl _))
      have b3 := hbL i
      rw [← h.old A hA (Nat.le_refl _) i] at b3
      have := red_bd b1 b2 b3
      rw [Nat.succ_mul]
      rw [show E + (A * (E + 1) + (E + 1)) = E + A * (E + 1) + (E + 1) by omega]
      exact this
    · rw [s2 k z]
      exact h.bd' k i (by omega)
theorem ci_start {n d : Nat} (hL : L.length = n) (hE : Ech n m (at2 L) ps) (hW : Wid L m) (hb : ∀ k i, k < n → (at2 L k i).natAbs ≤ 2 ^ E) : CI m ps.length L ps E 0 0 (L.take ps.length) := by
  have hle := hE.le
  have s : ∀ k i, k < ps.length → at2 (L.take ps.length) k i = at2 L k i := fun k i hk => by
    have e : (L.take ps.length).getD k [] = L.getD k [] := by rw [List.getD_eq_getElem?_getD, List.getElem?_take_of_lt hk, ← List.getD_eq_getElem?_getD]
    show ((L.take ps.length).getD k []).getD i 0 = (L.getD k []).getD i 0
    rw [e]
  refine ⟨by rw [List.length_take]; omega, fun k c hc => ?_, ⟨Nat.le_refl _, hE.lt, hE.inc, fun k hk => by rw [s k _ hk]; exact hE.pos k hk, fun k hk i hi => by rw [s k _ hk]; exact hE.up k hk i hi, fun k h1 h2 => by omega⟩, fun y => ⟨y, fun i _ => Lin_congr (fun k hk => s k i hk) fun _ _ => rfl⟩, fun y => ⟨y, fun i _ => Lin_congr (fun k hk => (s k i hk).symm) fun _ _ => rfl⟩,
    fun k hk _ i => s k i hk, fun k hk => s k _ hk, fun j k _ h2 => by omega, fun k hk => by omega, fun k i hk _ => ?_, fun k i hk => by omega⟩
  · by_cases hk : k < ps.length
    · rw [List.getElem?_take_of_lt hk] at hc
      exact hW k c hc
    · rw [List.getElem?_eq_none (by rw [List.length_take]; omega)] at hc
      cases hc
  · rw [s k i hk, Nat.zero_mul, Nat.add_zero]
    exact hb k i (by omega)
end
structure BI (m r names : Nat) (L : List (List Int)) (ps : List Nat) (B0 : List (List Int)) (E G A : Nat) (B : List (List Int)) : Prop where
  len : B.length = names
  wid : Wid B m
  red : ∀ a j, a < names → j < A → 0 ≤ at2 B a (ps.getD j 0) ∧ at2 B a (ps.getD j 0) < at2 L j (ps.getD j 0)
  dif : ∀ a, a < names → ∃ y : Nat → Int, ∀ i, i < m → at2 B a i - at2 B0 a i = Lin r (at2 L) y i
  bd : ∀ a i, a < names → (at2 B a i).natAbs ≤ 2 ^ (G + A * (E + 1))
section
variable {m r names E G A : Nat} {L B0 B : List (List Int)} {ps : List Nat}
theorem bi_start (h1 : B0.length = names) (h2 : Wid B0 m) (h3 : ∀ a i, a < names → (at2 B0 a i).natAbs ≤ 2 ^ G) : BI m r names L ps B0 E G 0 B0 :=
  ⟨h1, h2, fun a j _ h => by omega, fun a _ => ⟨fun _ => 0, fun i _ => by
    rw [Int.sub_self]
    exact (S_zero fun k _ => Int.zero_mul _).symm⟩, fun a i ha => by rw [Nat.zero_mul]; exact h3 a i ha⟩
theorem bi_step {cA : List Int} (h : BI m r names L ps B0 E G A B) (hr : ps.length = r) (hA : A < r) (hE : Ech r m (at2 L) ps) (hc : cA.length = m) (hcA : ∀ i, cA.getD i 0 = at2 L A i) (hbL : ∀ i, (at2 L A i).natAbs ≤ 2 ^ E) :
    BI m r names L ps B0 E G (A + 1) (B.map fun c => redV c cA (ps.getD A 0)) := by
  have s : ∀ a i, a < names → at2 (B.map fun c => redV c cA (ps.getD A 0)) a i = at2 B a i + (0 - at2 B a (ps.getD A 0) / at2 L A (ps.getD A 0)) * at2 L A i := fun a i ha => by
    have ha2 : a < B.length := by rw [h.len]; exact ha
    show ((B.map fun c => redV c cA (ps.getD A 0)).getD a []).getD i 0 = _
    rw [getD_map (d := []) ha2]
    unfold redV
    rw [vadd_at ((h.wid.getD ha2).trans hc.symm), hcA, hcA]
    rfl
  refine ⟨by rw [List.length_map]; exact h.len, fun k c hk => ?_, fun a j ha hj => ?_, fun a ha => ?_, fun a i ha => ?_⟩
  · rw [List.getElem?_map] at hk
    cases hb : B[k]? with
    | none => rw [hb] at hk; cases hk
    | some b =>
      rw [hb] at hk
      cases hk
      exact vadd_len (h.wid k b hb) hc
  · rw [s a _ ha]
    by_cases z : j = A
    · rw [z]
      exact rem_in (hE.pos A (by omega))
    · rw [hE.up A (by omega) _ (hE.inc j A (by omega) (by omega)), Int.mul_zero, Int.add_zero]
      exact h.red a j ha (by omega)
  · obtain ⟨y, hy⟩ := h.dif a ha
    refine ⟨fun k => y k + if k = A then 0 - at2 B a (ps.getD A 0) / at2 L A (ps.getD A 0) else 0, fun i hi => ?_⟩
    rw [Lin_addy hA, ← hy i hi, s a i ha]
    omega
  · rw [s a i ha, Nat.succ_mul, ← Nat.add_assoc]
    exact red_bd (h.bd a i ha) (neg_div_abs (h.bd a _ ha)) (hbL i)
end
/-- what normal tells -/
structure NfP (m free names : Nat) (R N : List (List Int)) (r : Nat) (ps : List Nat) : Prop where
  len : N.length = m
  wid : Wid N (r + names)
  nf : Nf m r names (fun k i => at2 N i k) ps
  sp : Spans m r (fun k i => at2 N i k) free (fun j i => at2 R i j)
  sp' : Spans m free (fun j i => at2 R i j) r (fun k i => at2 N i k)
  dif : ∀ a, a < names → ∃ y : Nat → Int, ∀ i, i < m → at2 N i (r + a) - at2 R i (free + a) = Lin free (fun j i => at2 R i j) y i
  pb : ∀ k, k < r → (at2 N (ps.getD k 0) k).natAbs ≤ 2 ^ 8990
theorem told_l {m k i : Nat} {C B : List (List Int)} (hi : i < m) (hk : k < C.length) : at2 ((List.range m).map (rowOf C B)) i k = at2 C k i := by
  show (((List.range m).map (rowOf C B)).getD i []).getD k 0 = _
  rw [getD_map_range hi, row_l hk]
theorem told_r {m a i : Nat} {C B : List (List Int)} (hi : i < m) (ha : a < B.length) : at2 ((List.range m).map (rowOf C B)) i (C.length + a) = at2 B a i := by
  show (((List.range m).map (rowOf C B)).getD i []).getD _ 0 = _
  rw [getD_map_range hi, row_r ha]
theorem told_wid {m : Nat} {C B : List (List Int)} : Wid ((List.range m).map (rowOf C B)) (C.length + B.length) := fun k c hc => by
  rw [List.getElem?_map] at hc
  cases h : (List.range m)[k]? with
  | none => rw [h] at hc; cases hc
  | some v =>
    rw [h] at hc
    cases hc
    exact row_len
theorem ech_r {n m : Nat} {C : Cols} {ps : List Nat} (hE : Ech n m C ps) : Ech ps.length m C ps := ⟨Nat.le_refl _, hE.lt, hE.inc, hE.pos, hE.up, fun k h1 h2 => by omega⟩
theorem spans_r {n m : Nat} {C : Cols} {ps : List Nat} (hE : Ech n m C ps) : Spans m n C ps.length C ∧ Spans m ps.length C n C :=
  ⟨fun y => ⟨y, fun i hi => lin_top hE y hi⟩, fun y => ⟨fun k => if k < ps.length then y k else 0, fun i hi => by
    rw [lin_top hE _ hi]
    exact S_congr fun k hk => by
      show _ = (if k < ps.length then y k else 0) * _
      rw [if_pos hk]⟩⟩
/-- the columns of rows -/
def colsR (n off : Nat) (R : List (List Int)) : List (List Int) := (List.range n).map fun j => (List.range R.length).map fun i => at2 R i (off + j)
theorem colsR_len {n off : Nat} {R : List (List Int)} : (colsR n off R).length = n := by unfold colsR; rw [List.length_map, List.length_range]
theorem colsR_wid {n off : Nat} {R : List (List Int)} : Wid (colsR n off R) R.length := fun k c e => by
  unfold colsR at e
  rw [List.getElem?_map] at e
  cases h : (List.range n)[k]? with
  | none => rw [h] at e; cases e
  | some j =>
    rw [h] at e
    cases e
    rw [List.length_map, List.length_range]
theorem colsR_at {n off k i : Nat} {R : List (List Int)} (hk : k < n) (hi : i < R.length) : at2 (colsR n off R) k i = at2 R i (off + k) := by
  show ((colsR n off R).getD k []).getD i 0 = _
  unfold colsR
  rw [getD_map_range hk, getD_map_range hi]
theorem nfp_mk {free names E G : Nat} {R L C B : List (List Int)} {ps : List Nat} (hEL : Ech free R.length (at2 L) ps) (U : Uni free (at2 (colsR free 0 R)) (at2 L)) (hC : CI R.length ps.length L ps E ps.length 0 C) (hB : BI R.length ps.length names L ps (colsR names free R) E G ps.length B)
    (hp : ∀ k, k < ps.length → (at2 L k (ps.getD k 0)).natAbs ≤ 2 ^ 8990) : NfP R.length free names R ((List.range R.length).map (rowOf C B)) ps.length ps := by
  have hcl := hC.len
  have hbl := hB.len
  have tl : ∀ k i, k < ps.length → i < R.length → at2 ((List.range R.length).map (rowOf C B)) i k = at2 C k i := fun k i hk hi => told_l hi (by omega)
  have tr : ∀ a i, a < names → i < R.length → at2 ((List.range R.length).map (rowOf C B)) i (ps.length + a) = at2 B a i := fun a i ha hi => by
    have := told_r (C := C) (B := B) (m := R.length) (a := a) hi (by omega)
    rw [hcl] at this
    exact this
  have c0 : ∀ j i, j < free → i < R.length → at2 (colsR free 0 R) j i = at2 R i j := fun j i hj hi => by rw [colsR_at hj hi, Nat.zero_add]
  obtain ⟨sr1, sr2⟩ := spans_r hEL
  have a1 : Spans R.length ps.length (fun k i => at2 ((List.range R.length).map (rowOf C B)) i k) ps.length (at2 C) := fun y => ⟨y, fun i hi => Lin_congr (fun k hk => tl k i hk hi) fun _ _ => rfl⟩
  have a1' : Spans R.length ps.length (at2 C) ps.length (fun k i => at2 ((List.range R.length).map (rowOf C B)) i k) := fun y => ⟨y, fun i hi => Lin_congr (fun k hk => (tl k i hk hi).symm) fun _ _ => rfl⟩
  have a2 : Spans R.length free (at2 L) free (fun j i => at2 R i j) := fun y => by
    obtain ⟨z, hz⟩ := U.bwd y
    exact ⟨z, fun i hi => (hz i).trans (Lin_congr (fun k hk => c0 k i hk hi) fun _ _ => rfl)⟩
  have a2' : Spans R.length free (fun j i => at2 R i j) free (at2 L) := fun y => by
    obtain ⟨z, hz⟩ := U.fwd y
    exact ⟨z, fun i hi => (Lin_congr (fun k hk => (c0 k i hk hi).symm) fun _ _ => rfl).trans (hz i)⟩
  have hE := hC.ech
  refine ⟨by rw [List.length_map, List.length_range], ?_, ⟨⟨Nat.le_refl _, hE.lt, hE.inc, fun k hk => ?_, fun k hk i hi => ?_, fun k h1 h2 => by omega⟩, rfl, fun j k h1 h2 => ?_, fun a j ha hj => ?_⟩, ((a1.trans hC.sp).trans sr2).trans a2, ((a2'.trans sr1).trans hC.sp').trans a1', fun a ha => ?_, fun k hk => ?_⟩
  · have := told_wid (m := R.length) (C := C) (B := B)
    rw [hcl, hbl] at this
    exact this
  · show 0 < at2 _ _ _
    rw [tl k _ hk (hE.lt k hk)]
    exact hE.pos k hk
  · show at2 _ _ _ = 0
    rw [tl k i hk (by have := hE.lt k hk; omega)]
    exact hE.up k hk i hi
  · show 0 ≤ at2 _ _ _ ∧ at2 _ _ _ < at2 _ _ _
    rw [tl k _ (by omega) (hE.lt j h2), tl j _ h2 (hE.lt j h2), hC.piv j h2]
    exact hC.red j k h1 h2
  · show 0 ≤ at2 _ _ _ ∧ at2 _ _ _ < at2 _ _ _
    rw [tr a _ ha (hE.lt j hj), tl j _ hj (hE.lt j hj), hC.piv j hj]
    exact hB.red a j ha hj
  · obtain ⟨y, hy⟩ := hB.dif a ha
    obtain ⟨z, hz⟩ := (sr2.trans a2) y
    refine ⟨z, fun i hi => ?_⟩
    rw [tr a i ha hi, ← hz i hi, ← hy i hi, colsR_at ha hi]
  · rw [tl k _ hk (hE.lt k hk), hC.piv k hk]
    exact hp k hk
/-- the pivots are those of the other steps -/
theorem piv_le {m n n' X : Nat} {C C' : Cols} {ps ps' : List Nat} (E : Ech n m C ps) (E' : Ech n' m C' ps') (h : Spans m n C n' C') (h' : Spans m n' C' n C) (hb : ∀ k, k < ps'.length → (C' k (ps'.getD k 0)).natAbs ≤ X) : ∀ k, k < ps.length → (C k (ps.getD k 0)).natAbs ≤ X := fun k hk => by
  obtain ⟨e, hv⟩ := E.same E' h h'
  rw [hv k hk]
  subst e
  exact hb k hk
end Mw

-- MwD10
set_option Elab.async false
set_option linter.all false
set_option maxRecDepth 100000
set_option maxHeartbeats 8000000
namespace Mw
open PySem PySem.Spec PyProof.Rows L2 Evl LamX
abbrev sRd : Stmt := topS 31
theorem scRd : FnScope ["columns", "at", "pivot", "numbers"] ["columns", "at", "pivot", "numbers"] (defScope sRd) := ⟨rfl, rfl, rfl, by decide +kernel, rfl, by decide +kernel, by decide +kernel⟩
abbrev sNo : Stmt := topS 32
theorem scNo : FnScope ["free", "names", "rows", "columns", "pivots", "beside", "at", "pivot", "k", "told", "place", "row", "name", "numbers", "column"] ["free", "names", "rows"] (defScope sNo) := ⟨rfl, rfl, rfl, by decide +kernel, rfl, by decide +kernel, by decide +kernel⟩
theorem matA_take {H : Hp} {as : List Addr} {L : List (List Int)} (h : MatA H as L) (r : Nat) : MatA H (as.take r) (L.take r) :=
  ⟨by rw [List.length_take, List.length_take, h.1], fun k b c h1 h2 => by
    by_cases hk : k < r
    · rw [List.getElem?_take_of_lt hk] at h1 h2
      exact h.2 k b c h1 h2
    · rw [List.getElem?_eq_none (by rw [List.length_take]; omega)] at h1
      cases h1⟩
/-- a matrix beside the list that is changed -/
theorem mat_beside {H : Hp} {a p : Addr} {as : List Addr} {B : List (List Int)} {ys : List V} (ha : H a = some (.lst (as.map V.ref))) (hn : 0 < as.length) (hB : Mat H p B) (hp : p ≠ a) : Mat (upd H a (.lst ys)) p B := by
  obtain ⟨bs, b1, b2⟩ := hB
  exact ⟨bs, by rw [upd_ne hp]; exact b1, b2.1, fun k b c h1 h2 => by
    have h3 := b2.2 k b c h1 h2
    rw [upd_ne (ref_ne ha h3 hn)]
    exact h3⟩
section
variable {K : PySem.W.Frag} {σ : L2.St} {H : Hp} {ta tb tc te tl : TE} {tA : TA} {tz tu : TS} {D : Ends}
/-- for i, x in enumerate(xs) -/
theorem q_forE {i j : Nat} {a : Addr} {xs : List V} (h : EvA tA σ H [.ref a]) (hx : SqL K H a xs) (Pv : Nat → L2.St → Hp → Prop) (h0 : ∀ H1, Ex H H1 → Pv 0 σ H1) (hG : ∀ k σ' H', k ≤ xs.length → Pv k σ' H' → SqL K H' a xs)
    (hs : ∀ (k : Nat) (x : V) σ' H' H1, xs[k]? = some x → Pv k σ' H' → Ex H' H1 → tu { D with nx := Pv (k + 1), ct := Pv (k + 1), bk := tz D } ((σ'.set i (some (.int (k : Nat)))).set j (some x)) H1) (hd : ∀ σ' H', Pv xs.length σ' H' → tz D σ' H') :
    tSeq (tFor (iEnum K tA) (g2 K i j) tu) tz D σ H := h H (Ex.refl H) _ fun H1 e1 =>
  ⟨a, xs, rfl, ex_l e1 hx, for_it (walk_enum (K := K) (a := a) (xs := xs)) (D := { D with nx := tz D }) Pv (h0 H1 e1) hG (fun k v σ' H' H2 hk hp y => by
    obtain ⟨T, x, z, rfl, hT, rfl, h1, h2⟩ := y
    cases h1
    exact ⟨T, [_, z], rfl, st_of upd_same, rfl, _, [z], rfl, z, [], rfl, rfl, hs k z σ' H' _ h2 hp (Ex.new hT)⟩) hd⟩
end
section
variable {P : Program} {w : World} {K : PySem.W.Frag} {mg : Str → Option Value} {base : Heap}
def spRd (K : PySem.W.Frag) : Sp := fun vs H Q _ => ∃ (ac an : Addr) (at_ pivot : Nat) (C : List (List Int)) (xs : List Int), vs = [.ref ac, .int (at_ : Int), .int (pivot : Int), .ref an] ∧ Mat H ac C ∧ at_ < C.length ∧ SqL K H an (xs.map V.int) ∧ xs.length ≤ 1000 ∧ pivot < xs.length ∧ pivot < (C.getD at_ []).length ∧
  CDivW (xs.getD pivot 0) (at2 C at_ pivot) ∧ (∀ i, i < xs.length → CMulX (0 - xs.getD pivot 0 / at2 C at_ pivot) (at2 C at_ i)) ∧ RetL ((redV xs (C.getD at_ []) pivot).map V.int) H Q
theorem ok_rd {f fA : Addr} {fd fdA : FuncData} (F : Fun K "reduced" "reduced" sRd f fd)
    (GA : FnOk P w K mg base CX0 1 fA fdA ["one", "other", "often"] (spAdded K)) (kA : PySem.W.keepIn K (.ref fA) = true) (bA : Binds K fdA ["one", "other", "often"] []) (gA : mg "added" = some (.ref fA)) : FnOk P w K mg base CX0 2 f fd ["columns", "at", "pivot", "numbers"] (spRd K) := by
  refine F.ok scRd (fun vs H Q E h => ?_) (fun cdv A outer s H vs Q E hr h => ?_)
  · obtain ⟨ac, an, at_, pivot, C, xs, rfl, _⟩ := h
    rfl
  · obtain ⟨ac, an, at_, pivot, C, xs, rfl, hC, hat, hx, hxl, hp, hp2, hdv, hml, hq⟩ := h
    refine ⟨_, pss_one (ps_ret (pe_call GA hr (by rfl) gA kA bA .nil pass0 (pa_cons (pv 3) (pa_cons (pe_ix ix_list (pv 0) (pv 1) (fun _ _ => rfl)) (pa_cons (pe_op op_sub pe_int (pe_op op_fdivW (pe_ix ix_list (pv 3) (pv 2) (fun _ _ => rfl)) (pe_ix ix_list (pe_ix ix_list (pv 0) (pv 1) (fun _ _ => rfl)) (pv 2) (fun _ _ => rfl)))) pa_nil))))), ?_⟩
    obtain ⟨b, b1, b2⟩ := ev_row (K := K) (k := at_) (σ := ([some (.ref ac), some (.int (at_ : Int)), some (.int (pivot : Int)), some (.ref an)] : L2.St)) (ta := tVar 0) (tb := tVar 1) (ev_var rfl) hC (ev_var rfl) hat
    refine s_retL (el_call (dvs := []) (ea_cons (ev_var rfl) (ea_cons b2 (ea_cons (ev_sub ev_c (ev_divW (ev_ixI (ev_var rfl) hx (ev_var rfl) hp) (ev_at2 (ev_var rfl) hC (ev_var rfl) hat (ev_var rfl) hp2) hdv)) ea_nil))) (fun H1 e1 Q1 q1 E1 => ?_)) hq
    exact ⟨an, b, xs, C.getD at_ [], _, rfl, ex_l e1 hx, sq_of (e1 _ _ b1), hxl, hml, q1⟩
def spNo (K : PySem.W.Frag) (Pt : Addr) : Sp := fun vs H Q _ => ∃ (ar : Addr) (R : List (List Int)) (free names : Nat) (e : Nat → Nat) (j0 G : Nat), vs = [.int (free : Int), .int (names : Int), .ref ar] ∧ Mat H ar R ∧ R.length ≤ 240 ∧ free ≤ 240 ∧ names ≤ 6 ∧ Wid R (free + names) ∧ Grow e ∧
  (∀ i j, i < R.length → j < free → (at2 R i j).natAbs ≤ 2 ^ e j0) ∧ (∀ i a, i < R.length → a < names → (at2 R i (free + a)).natAbs ≤ 2 ^ G) ∧ (1 < free → e (j0 + (free - 2)) ≤ 8990) ∧ e (j0 + (free - 1)) ≤ 100000 ∧ G ≤ 90000000 ∧
  (e (j0 + (free - 1)) ≤ 8990 ∨ ∃ (n' : Nat) (C' : Cols) (ps' : List Nat), Ech n' R.length C' ps' ∧ Spans R.length free (fun j i => at2 R i j) n' C' ∧ Spans R.length n' C' free (fun j i => at2 R i j) ∧ ∀ k, k < ps'.length → (C' k (ps'.getD k 0)).natAbs ≤ 2 ^ 8990) ∧ Tabs (T1 Pt) H ∧
  ∀ (t q : Addr) (N : List (List Int)) (r : Nat) (ps : List Nat) (H' : Hp), H' t = some (.tup [.int (r : Int), .ref q]) → Mat H' q N → NfP R.length free names R N r ps → ExtN H H' → Tabs (T1 Pt) H' → Q (.ref t) H'
theorem ok_no {f fR fS Pt : Addr} {fd fdR fdS : FuncData} (F : Fun K "normal" "normal" sNo f fd)
    (GS : FnOk P w K mg base CX0 5 fS fdS ["columns", "rows"] (spSt K Pt)) (kS : PySem.W.keepIn K (.ref fS) = true) (bS : Binds K fdS ["columns", "rows"] []) (gS : mg "stepped" = some (.ref fS))
    (GR : FnOk P w K mg base CX0 2 fR fdR ["columns", "at", "pivot", "numbers"] (spRd K)) (kR : PySem.W.keepIn K (.ref fR) = true) (bR : Binds K fdR ["columns", "at", "pivot", "numbers"] []) (gR : mg "reduced" = some (.ref fR))
    (mr : mg "range" = none) (ml : mg "len" = none) (me : mg "enumerate" = none) : FnOk P w K mg base CX0 6 f fd ["free", "names", "rows"] (spNo K Pt) := by
  refine F.ok scNo (fun vs H Q E h => ?_) (fun cdv A outer s H vs Q E' hr h => ?_)
  · obtain ⟨ar, R, free, names, e, j0, G, rfl, _⟩ := h
    rfl
  · obtain ⟨ar, R, free, names, e, j0, G, rfl, hR, hRl, hfr, hnm, hWR, he, hbR, hbG, he1, he2, hG, hpv, hT, hQ⟩ := h
    have nd := scNo.nd
    refine ⟨_, pss_cons (ps_asg (pe_call GS hr (by rfl) gS kS bS .nil pass0 (pa_cons
          (pe_lc (own := [("at", 6)]) (g := gName 6) (tt := tYes) (te := tLc (iList K (tVar 2)) (gName 11) tYes (tIx K (tVar 11) (tVar 6)) [11]) rfl nd (pi_range1 (by rfl) mr (pa_cons (pv 0) pa_nil)) (blkOk_by (by kernel_rfl))
            (fun _ _ _ _ _ => pg_name (i := 6) nd rfl (.inr rfl)) (fun _ _ _ _ _ => pts_nil)
            (fun _ _ _ _ _ => pe_lc (own := [("row", 11)]) (g := gName 11) (tt := tYes) (te := tIx K (tVar 11) (tVar 6)) rfl nd (pi_list (pv 2)) (blkOk_by (by kernel_rfl)) (fun _ _ _ _ _ => pg_name (i := 11) nd rfl (.inl rfl)) (fun _ _ _ _ _ => pts_nil) (fun _ _ _ _ _ => pe_ix ix_list (pv 11) (pv 6) (fun _ _ => rfl))))
          (pa_cons (pe_callB call_len_seq (by rfl) ml PySem.boot_len (pa_cons (pv 2) pa_nil)) pa_nil)))
        (pg_tup rfl (pgs_cons (pg_name (i := 3) nd rfl (.inr rfl)) (pgs_cons (pg_name (i := 4) nd rfl (.inl rfl)) pgs_nil))))
      (pss_cons (ps_set (i := 3) nd rfl (.inr rfl) (pe_slice sl_list (pv 3) po_none (po_some (pe_callB call_len_seq (by rfl) ml PySem.boot_len (pa_cons (pv 4) pa_nil)))))
      (pss_cons (ps_setLc (i := 5) (own := [("name", 12)]) (g := gName 12) (tt := tYes) (te := tLc (iList K (tVar 2)) (gName 11) tYes (tIx K (tVar 11) (tOp (rI0 fun i j => .int (i + j)) (tVar 0) (tVar 12))) [11]) rfl nd rfl rfl (sw_true rfl rfl rfl (by decide +kernel)) (pi_range1 (by rfl) mr (pa_cons (pv 1) pa_nil)) (blkOk_by (by kernel_rfl))
            (fun _ _ _ _ _ => pg_name (i := 12) nd rfl (.inr rfl)) (fun _ _ _ _ _ => pts_nil)
            (fun _ _ _ _ _ => pe_lc (own := [("row", 11)]) (g := gName 11) (tt := tYes) (te := tIx K (tVar 11) (tOp (rI0 fun i j => .int (i + j)) (tVar 0) (tVar 12))) rfl nd (pi_list (pv 2)) (blkOk_by (by kernel_rfl)) (fun _ _ _ _ _ => pg_name (i := 11) nd rfl (.inl rfl)) (fun _ _ _ _ _ => pts_nil) (fun _ _ _ _ _ => pe_ix ix_list (pv 11) (pe_op op_add (pv 0) (pv 12)) (fun _ _ => rfl))))
      (pss_cons (ps_for PassesOwn.never rfl (pi_enum (by rfl) me (pa_cons (pv 4) pa_nil)) (pg_tup rfl (pgs_cons (pg_name (i := 6) nd rfl (.inr rfl)) (pgs_cons (pg_name (i := 7) nd rfl (.inr rfl)) pgs_nil)))
        (pss_cons (ps_for PassesOwn.never rfl (pi_range1 (by rfl) mr (pa_cons (pv 6) pa_nil)) (pg_name (i := 8) nd rfl (.inl rfl))
          (pss_one (ps_asg (pe_call GR (hr.mono (by decide)) (by rfl) gR kR bR .nil pass0 (pa_cons (pv 3) (pa_cons (pv 6) (pa_cons (pv 7) (pa_cons (pe_ix ix_list (pv 3) (pv 8) (fun _ _ => rfl)) pa_nil))))) (pg_sub (pv 3) (pv 8) set_list))))
        (pss_one (ps_setLc (i := 5) (own := [("numbers", 13)]) (g := gName 13) (tt := tYes) (te := tCall (spRd K) [] E0 (tCons (tVar 3) (tCons (tVar 6) (tCons (tVar 7) (tCons (tVar 13) tNil))))) rfl nd rfl rfl (sw_true rfl rfl rfl (by decide +kernel)) (pi_list (pv 5)) (blkOk_by (by kernel_rfl))
            (fun _ _ _ _ _ => pg_name (i := 13) nd rfl (.inl rfl)) (fun _ _ _ _ _ => pts_nil) (fun _ _ _ _ _ => pe_call GR (hr.mono (by decide)) (by rfl) gR kR bR .nil pass0 (pa_cons (pv 3) (pa_cons (pv 6) (pa_cons (pv 7) (pa_cons (pv 13) pa_nil)))))))))
      (pss_cons (ps_set (i := 9) nd rfl (.inl rfl) (pe_lst pa_nil))
      (pss_cons (ps_for PassesOwn.never rfl (pi_range1 (by rfl) mr (pa_cons (pe_callB call_len_seq (by rfl) ml PySem.boot_len (pa_cons (pv 2) pa_nil)) pa_nil)) (pg_name (i := 10) nd rfl (.inr rfl))
        (pss_one (ps_expr (pe_bm PySem.F.plainAttrs_list PySem.F.slot_list_append PySem.F.type_list_append mt_append (pv 9) (pa_cons (pe_op op_cat
            (pe_lc (own := [("column", 14)]) (g := gName 14) (tt := tYes) (te := tIx K (tVar 14) (tVar 10)) rfl nd (pi_list (pv 3)) (blkOk_by (by kernel_rfl)) (fun _ _ _ _ _ => pg_name (i := 14) nd rfl (.inl rfl)) (fun _ _ _ _ _ => pts_nil) (fun _ _ _ _ _ => pe_ix ix_list (pv 14) (pv 10) (fun _ _ => rfl)))
            (pe_lc (own := [("numbers", 13)]) (g := gName 13) (tt := tYes) (te := tIx K (tVar 13) (tVar 10)) rfl nd (pi_list (pv 5)) (blkOk_by (by kernel_rfl)) (fun _ _ _ _ _ => pg_name (i := 13) nd rfl (.inl rfl)) (fun _ _ _ _ _ => pts_nil) (fun _ _ _ _ _ => pe_ix ix_list (pv 13) (pv 10) (fun _ _ => rfl)))) pa_nil)))))
      (pss_one (ps_ret (pe_tup (pa_cons (pe_callB call_len_seq (by rfl) ml PySem.boot_len (pa_cons (pv 4) pa_nil)) (pa_cons (pv 9) pa_nil)))))))))), ?_⟩
    have hc0 : (colsR free 0 R).length = free := colsR_len
    refine q_raw (tcall_N (P := fun p H' => Mat H' p (colsR free 0 R)) (em_lcR (n := free) (colsR free 0 R) (ea_cons (ev_var rfl) ea_nil) hc0 (by omega) (fun x => rfl) (fun k c H3 e3 hk hc => ?_)) (fun pc0 H3 npc0 e3 hMc => ?_))
    · unfold colsR at hc
      rw [List.getElem?_map, List.getElem?_range hk] at hc
      cases hc
      obtain ⟨as, a1, a2⟩ := hR.ex e3
      refine el_lcLi _ (ev_var rfl) (sq_of a1) (by rw [List.length_map, List.length_range, List.length_map, a2.1]) (by rw [List.length_map, a2.1]; omega) (fun x => rfl) (fun i x r H4 e4 hx hr => ?_)
      have hi : i < R.length := by
        have := (List.getElem?_eq_some_iff.mp hr).1
        rw [List.length_map, List.length_range] at this
        exact this
      obtain ⟨b, hb1, hb2⟩ := a2.row hi
      rw [refs_at hb1] at hx
      rw [List.getElem?_map, List.getElem?_range hi] at hr
      cases hx
      cases hr
      rw [Nat.zero_add]
      exact ev_ixI (ev_var rfl) (sq_of (e4 _ _ hb2)) (ev_var rfl) (by rw [hWR.getD hi]; omega)
    obtain ⟨as0, a01, a02⟩ := hR.ex e3
    refine (ea_cons (rc_len (n := (R.length : Int)) (sq_of a01) (by rw [List.length_map, a02.1]) (ev_var rfl)) ea_nil) H3 (Ex.refl H3) _ fun H3' e3' => ?_
    have hbc0 : ∀ k i, k < (colsR free 0 R).length → (at2 (colsR free 0 R) k i).natAbs ≤ 2 ^ e j0 := fun k i hk => by
      rw [hc0] at hk
      by_cases hi : i < R.length
      · rw [colsR_at hk hi, Nat.zero_add]
        exact hbR i k hi hk
      · rw [at2_wid colsR_wid (by omega)]
        exact Nat.zero_le _
    refine ⟨pc0, colsR free 0 R, R.length, R.length, j0, e, rfl, hMc.ex e3', colsR_wid, Nat.le_refl _, by omega, by omega, he, hbc0, fun h => by rw [hc0] at h ⊢; exact he1 h, by rw [hc0]; exact he2, hT.ext (e3.trans e3'), fun t p q L ps H4 ht hML hq hS eN hT4 => ?_⟩
    refine ⟨t, [.ref p, .ref q], rfl, st_of ht, rfl, .ref p, _, rfl, .ref q, [], rfl, rfl, ?_⟩
    have eN4 : ExtN H H4 := (ExtN.of (e3.trans e3')).trans eN
    have hR4 : Mat H4 ar R := hR.exn eN4
    have hL : L.length = free := hS.len.trans hc0
    have U : Uni free (at2 (colsR free 0 R)) (at2 L) := by have := hS.uni; rw [hc0] at this; exact this
    have EE : Ech free R.length (at2 L) ps := by have := hS.ech; rw [hc0] at this; exact this
    have hbL2 : ∀ k i, k < free → (at2 L k i).natAbs ≤ 2 ^ e (j0 + (free - 1)) := fun k i hk => by
      have := hS.bd k i (by omega)
      rw [hc0] at this
      exact Nat.le_trans this (two_pow_mono (he.mono (by omega)))
    have hrn := EE.le
    have sRL : Spans R.length free (at2 L) free (fun j i => at2 R i j) := fun y => by
      obtain ⟨z, hz⟩ := U.bwd y
      exact ⟨z, fun i hi => (hz i).trans (Lin_congr (fun k hk => by rw [colsR_at hk hi, Nat.zero_add]) fun _ _ => rfl)⟩
    have sLR : Spans R.length free (fun j i => at2 R i j) free (at2 L) := fun y => by
      obtain ⟨z, hz⟩ := U.fwd y
      exact ⟨z, fun i hi => (Lin_congr (fun k hk => by rw [colsR_at hk hi, Nat.zero_add]) fun _ _ => rfl).trans (hz i)⟩
    have hpv2 : ∀ k, k < ps.length → (at2 L k (ps.getD k 0)).natAbs ≤ 2 ^ 8990 := by
      rcases hpv with hp | ⟨n', C', ps', E', s1, s2, hb'⟩
      · exact fun k hk => Nat.le_trans (hbL2 k _ (by omega)) (two_pow_mono hp)
      · exact piv_le EE E' (sRL.trans s1) (s2.trans sLR) hb'
    -- the first columns
    obtain ⟨as4, l1, l2⟩ := id hML
    refine q_asgL (xs := (as4.take ps.length).map V.ref) ?_ (fun pc H5 npc e5 hpc => ?_)
    · have := el_sl (K := K) (σ := ([some (.int (free : Int)), some (.int (names : Int)), some (.ref ar), some (.ref p), some (.ref q), none, none, none, none, none, none, none, none, none, none] : L2.St)) (te := tVar 3) (tl := tNoPart) (th := tPart (tCB (rLenS K) (tCons (tVar 4) tNil))) (ev_var rfl) eo_none (eo_some (rc_len (n := (ps.length : Int)) (sq_of hq) (by rw [List.length_map]) (ev_var rfl))) (sq_of l1)
      rw [cut_take, ← List.map_take] at this
      exact this
    have hMC5 : Mat H5 pc (L.take ps.length) := ⟨as4.take ps.length, hpc, matA_take (l2.ex e5) _⟩
    -- beside
    refine q_asgN (em_lcR (n := names) (colsR names free R) (ea_cons (ev_var rfl) ea_nil) colsR_len (by omega) (fun x => rfl) (fun k c H6 e6 hk hc => ?_)) (fun pb H6 npb e6 hMB => ?_)
    · unfold colsR at hc
      rw [List.getElem?_map, List.getElem?_range hk] at hc
      cases hc
      obtain ⟨as, a1, a2⟩ := (hR4.ex e5).ex e6
      refine el_lcLi _ (ev_var rfl) (sq_of a1) (by rw [List.length_map, List.length_range, List.length_map, a2.1]) (by rw [List.length_map, a2.1]; omega) (fun x => rfl) (fun i x r H7 e7 hx hr => ?_)
      have hi : i < R.length := by
        have := (List.getElem?_eq_some_iff.mp hr).1
        rw [List.length_map, List.length_range] at this
        exact this
      obtain ⟨b, hb1, hb2⟩ := a2.row hi
      rw [refs_at hb1] at hx
      rw [List.getElem?_map, List.getElem?_range hi] at hr
      cases hx
      cases hr
      have hlt : free + k < (R.getD i []).length := by rw [hWR.getD hi]; omega
      exact ev_op (ev_var rfl) (ev_add (i := (free : Int)) (j := (k : Int)) (ev_var rfl) (ev_var rfl)) (rv_ixL (sq_of (e7 _ _ hb2)) (by
        have e0 : (free : Int) + (k : Int) = ((free + k : Nat) : Int) := by omega
        rw [e0]
        exact atI_nat (ints_at hlt)))
    have npc4 : H4 pc = none := npc
    have hEbd : e (j0 + (free - 1)) ≤ 100000 := he2
    generalize hEd : e (j0 + (free - 1)) = EB at *
    have hbB0 : ∀ a i, a < names → (at2 (colsR names free R) a i).natAbs ≤ 2 ^ G := fun a i ha => by
      by_cases hi : i < R.length
      · rw [colsR_at ha hi]
        exact hbG i a hi ha
      · rw [at2_wid colsR_wid (by omega)]
        exact Nat.zero_le _
    have hLm : ∀ A, A < ps.length → (nV ps)[A]? = some (.int (ps.getD A 0 : Nat)) := fun A hA => by
      rw [List.getElem?_map, List.getElem?_eq_getElem hA, getD_of (List.getElem?_eq_getElem hA)]
      rfl
    refine q_forE (i := 6) (j := 7) (ea_cons (ev_var rfl) ea_nil) (sq_of (e6 _ _ (e5 _ _ hq))) (fun A σ' H' => ∃ x6 x7 x8 pb, ∃ C B : List (List Int), σ' = [some (.int (free : Int)), some (.int (names : Int)), some (.ref ar), some (.ref pc), some (.ref q), some (.ref pb), x6, x7, x8, none, none, none, none, none, none] ∧
        Mat H' pc C ∧ Mat H' pb B ∧ pb ≠ pc ∧ CI R.length ps.length L ps EB A 0 C ∧ BI R.length ps.length names L ps (colsR names free R) EB G A B ∧ Ex H4 H')
      (fun H7 e7 => ⟨none, none, none, pb, _, _, rfl, (hMC5.ex e6).ex e7, hMB.ex e7, fun z => ?_, ci_start (d := 0) hL EE hS.wid hbL2, bi_start colsR_len colsR_wid hbB0, (e5.trans e6).trans e7⟩)
      (fun A σ' H' _ hP => ?_) (fun A x σ' H' H7 hx hP e7 => ?_) (fun σ' H' hP => ?_)
    · rw [z, hpc] at npb
      cases npb
    · obtain ⟨_, _, _, _, _, _, _, _, _, _, _, _, eX⟩ := hP
      exact sq_of (eX _ _ hq)
    · obtain ⟨x6, x7, x8, pb1, C, B, rfl, hMC, hMB1, nbc, hCI, hBI, eX⟩ := hP
      have hA : A < ps.length := by
        have := (List.getElem?_eq_some_iff.mp hx).1
        rw [List.length_map] at this
        exact this
      rw [hLm A hA] at hx
      cases hx
      have hp_m : ps.getD A 0 < R.length := EE.lt A hA
      have hpos := EE.pos A hA
      have hbA : ∀ i, (at2 L A i).natAbs ≤ 2 ^ EB := fun i => hbL2 A i (by omega)
      have hA240 : A * (EB + 1) ≤ 240 * (EB + 1) := Nat.mul_le_mul_right _ (by omega)
      have hdvW : ∀ x : Int, CDivW x (at2 L A (ps.getD A 0)) := fun x => wide_div hpos (lt_two (hpv2 A hA)) (by omega) (by omega)
      refine q_forR1 (n := (A : Int)) (ea_cons (ev_var rfl) ea_nil) (by omega) (fun k σ' H' => ∃ x8, ∃ C : List (List Int), σ' = [some (.int (free : Int)), some (.int (names : Int)), some (.ref ar), some (.ref pc), some (.ref q), some (.ref pb1), some (.int (A : Int)), some (.int (ps.getD A 0 : Nat)), x8, none, none, none, none, none, none] ∧
          Mat H' pc C ∧ Mat H' pb1 B ∧ CI R.length ps.length L ps EB A k C ∧ Ex H4 H')
        (fun H8 e8 => ⟨x8, C, rfl, (hMC.ex e7).ex e8, (hMB1.ex e7).ex e8, hCI, (eX.trans e7).trans e8⟩) (fun k σ' H' hk hP => ?_) (fun σ' H' hP => ?_)
      · obtain ⟨y8, C1, rfl, hMC1, hMB2, hCI1, eY⟩ := hP
        have hkA : k < A := by omega
        have hlC := hCI1.len
        obtain ⟨as1, g1, g2⟩ := id hMC1
        obtain ⟨bk, bk1, bk2⟩ := g2.row (k := k) (by omega)
        have wk := hCI1.wid.getD (k := k) (by omega)
        have wA := hCI1.wid.getD (k := A) (by omega)
        have hq1 := neg_div_abs (p := at2 C1 A (ps.getD A 0)) (hCI1.bd k (ps.getD A 0) (by omega) (Nat.le_refl _))
        refine s_asgL' (el_call (dvs := []) (ea_cons (ev_var rfl) (ea_cons (ev_var rfl) (ea_cons (ev_var rfl) (ea_cons (ev_op (ev_var rfl) (ev_var rfl) (rv_ixL (sq_of g1) (atI_nat (refs_at bk1)))) ea_nil)))) (xs := (redV (C1.getD k []) (C1.getD A []) (ps.getD A 0)).map V.int) (fun H11 e11 Q11 q11 E11 => ?_)) (fun w H11 nq e11 hq11 => ?_)
        · refine ⟨pc, bk, A, ps.getD A 0, C1, C1.getD k [], rfl, hMC1.ex e11, by omega, sq_of (e11 _ _ bk2), by rw [wk]; omega, by rw [wk]; exact hp_m, by rw [wA]; exact hp_m, ?_, fun i hi => ?_, q11⟩
          · rw [hCI1.old A hA (Nat.le_refl _)]
            exact hdvW _
          · rw [hCI1.old A hA (Nat.le_refl _) i]
            exact mulx_ok (a := EB + A * (EB + 1) + 1) (b := EB + 1) (lt_two hq1) (lt_two (hbA i)) (by omega)
        · have g1' := e11 _ _ g1
          refine ⟨.ref pc, rfl, .int ((k : Nat) : Int), rfl, pc, _, ((k : Nat) : Int), k, rfl, rfl, g1', ixN_nat (by rw [List.length_map, g2.1]; omega), ?_⟩
          exact ⟨_, _, rfl, ⟨_, mat_at, mat_set g1' (g2.ex e11) hq11 (by omega)⟩, mat_beside g1' (by rw [g2.1]; omega) (hMB2.ex e11) nbc, ci_step hCI1 rfl hkA hA hbA, Ex.mut (eY.trans e11) npc4⟩
      · obtain ⟨y8, C1, rfl, hMC1, hMB2, hCI1, eY⟩ := hP
        rw [Int.toNat_natCast] at hCI1
        have hlC := hCI1.len
        have hlB := hBI.len
        have wA := hCI1.wid.getD (k := A) (by omega)
        obtain ⟨bsB, b1, b2⟩ := id hMB2
        refine s_asgN (em_lcL (K := K) (a := pb1) (B.map fun c => redV c (C1.getD A []) (ps.getD A 0)) (ev_var rfl) (sq_of b1) (by rw [List.length_map, List.length_map, b2.1]) (by rw [List.length_map, b2.1]; omega) (fun x => rfl) (fun k x c H8 e8 hx hc => ?_)) (fun pb2 H8 npb2 e8 hMB3 => ?_)
        · have hk : k < B.length := by
            have := (List.getElem?_eq_some_iff.mp hc).1
            rw [List.length_map] at this
            exact this
          obtain ⟨b, hb1, hb2⟩ := b2.row hk
          rw [refs_at hb1] at hx
          rw [List.getElem?_map, List.getElem?_eq_getElem hk] at hc
          cases hx
          cases hc
          have hBk : B.getD k [] = B[k] := getD_of (List.getElem?_eq_getElem hk)
          have wk := hBI.wid.getD hk
          have hq1 := neg_div_abs (p := at2 C1 A (ps.getD A 0)) (hBI.bd k (ps.getD A 0) (by omega))
          refine el_call (dvs := []) (ea_cons (ev_var rfl) (ea_cons (ev_var rfl) (ea_cons (ev_var rfl) (ea_cons (ev_var rfl) ea_nil)))) (fun H11 e11 Q11 q11 E11 => ?_)
          rw [← hBk] at q11
          refine ⟨pc, b, A, ps.getD A 0, C1, B.getD k [], rfl, (hMC1.ex e8).ex e11, by omega, sq_of (e11 _ _ (e8 _ _ hb2)), by rw [wk]; omega, by rw [wk]; exact hp_m, by rw [wA]; exact hp_m, ?_, fun i hi => ?_, q11⟩
          · rw [hCI1.old A hA (Nat.le_refl _)]
            exact hdvW _
          · rw [hCI1.old A hA (Nat.le_refl _) i]
            exact mulx_ok (a := G + A * (EB + 1) + 1) (b := EB + 1) (lt_two hq1) (lt_two (hbA i)) (by omega)
        · refine ⟨_, _, _, pb2, _, _, rfl, hMC1.ex e8, hMB3, fun z => ?_, ci_next hCI1, bi_step hBI rfl hA (ech_r EE) wA (fun i => hCI1.old A hA (Nat.le_refl _) i) hbA, eY.trans e8⟩
          obtain ⟨_, m1, _⟩ := hMC1
          rw [z, m1] at npb2
          cases npb2
    · obtain ⟨x6, x7, x8, pb1, C, B, rfl, hMC, hMB1, nbc, hCI, hBI, eX⟩ := hP
      rw [List.length_map] at hCI hBI
      have hlC := hCI.len
      have hlB := hBI.len
      refine q_asgL (el_lst ea_nil (by simp)) (fun pr H7 npr e7 hpr => ?_)
      obtain ⟨asR, r01, r02⟩ := (hR4.ex eX).ex e7
      have npr' : H' pr = none := npr
      refine q_forR1 (n := (R.length : Int)) (ea_cons (rc_len (n := (R.length : Int)) (sq_of r01) (by rw [List.length_map, r02.1]) (ev_var rfl)) ea_nil) (by omega) (fun u σ' H'' => ∃ x10, σ' = [some (.int (free : Int)), some (.int (names : Int)), some (.ref ar), some (.ref pc), some (.ref q), some (.ref pb1), x6, x7, x8, some (.ref pr), x10, none, none, none, none] ∧
          Mat H'' pr ((List.range u).map (rowOf C B)) ∧ Ex H' H'')
        (fun H8 e8 => ⟨none, rfl, ⟨[], e8 _ _ hpr, rfl, fun k b c h _ => by simp at h⟩, e7.trans e8⟩)
        (fun u σ' H'' hu hP => ?_) (fun σ' H'' hP => ?_)
      · obtain ⟨y10, rfl, ⟨asr, r1, r2⟩, eZ⟩ := hP
        have hun : u < R.length := by omega
        obtain ⟨aso, o1, o2⟩ := hMC.ex eZ
        obtain ⟨asb, q1, q2⟩ := hMB1.ex eZ
        have hrow : (rowOf C B u).map V.int = (C.map fun (c : List Int) => c.getD u 0).map V.int ++ (B.map fun (c : List Int) => c.getD u 0).map V.int := by
          unfold rowOf
          rw [List.map_append]
        refine s_appL (l := pr) (ys := (rowOf C B u).map V.int) r1 (ev_var rfl) (by
          rw [hrow]
          refine el_cat (el_lcLi _ (ev_var rfl) (sq_of o1) (by rw [List.length_map, List.length_map, o2.1]) (by rw [List.length_map, o2.1]; omega) (fun x => rfl) (fun k x r H8 e8 hx hr => ?_)) (el_lcLi _ (ev_var rfl) (sq_of q1) (by rw [List.length_map, List.length_map, q2.1]) (by rw [List.length_map, q2.1]; omega) (fun x => rfl) (fun k x r H8 e8 hx hr => ?_)) (by simp only [List.length_map]; omega)
          · rw [List.getElem?_map] at hx hr
            cases hb : aso[k]? with
            | none => rw [hb] at hx; cases hx
            | some b =>
              cases hc : C[k]? with
              | none => rw [hc] at hr; cases hr
              | some c =>
                rw [hb] at hx
                rw [hc] at hr
                cases hx
                cases hr
                exact ev_ixI (ev_var rfl) (sq_of (e8 _ _ (o2.2 k b c hb hc))) (ev_var rfl) (by rw [hCI.wid k c hc]; exact hun)
          · rw [List.getElem?_map] at hx hr
            cases hb : asb[k]? with
            | none => rw [hb] at hx; cases hx
            | some b =>
              cases hc : B[k]? with
              | none => rw [hc] at hr; cases hr
              | some c =>
                rw [hb] at hx
                rw [hc] at hr
                cases hx
                cases hr
                exact ev_ixI (ev_var rfl) (sq_of (e8 _ _ (q2.2 k b c hb hc))) (ev_var rfl) (by rw [hBI.wid k c hc]; exact hun)) (by rw [List.length_map, r2.1, List.length_map, List.length_range]; omega) (fun w H8 nw e8 hw8 => ?_)
        have nwr : w ≠ pr := fun z => by
          rw [z, r1] at nw
          cases nw
        refine ⟨_, rfl, ?_, Ex.mut (eZ.trans e8) npr'⟩
        have := mat_app (e8 _ _ r1) (r2.ex e8) hw8 nwr
        rw [List.range_succ, List.map_append]
        exact this
      · obtain ⟨y10, rfl, hMr, eZ⟩ := hP
        rw [Int.toNat_natCast] at hMr
        refine s_retU (eu_tup (ea_cons (rc_len (n := ((ps.length : Nat) : Int)) (sq_of (eZ _ _ (eX _ _ hq))) (by rw [List.length_map]) (ev_var rfl)) (ea_cons (ev_var rfl) ea_nil)) (by simp)) fun t2 H8 nt2 e8 ht2 => hQ t2 pr _ ps.length ps H8 ht2 (hMr.ex e8) (nfp_mk EE U hCI hBI hpv2) (eN4.trans (ExtN.of ((eX.trans eZ).trans e8))) (hT4.ext ((eX.trans eZ).trans e8))
end
end Mw

-- MwForm
set_option Elab.async false
set_option linter.all false
set_option maxRecDepth 100000
namespace Mw
/-! systems with the same answers have the same normal form -/
def Null (d : Nat) (E : List (List Int)) (v : Nat → Int) : Prop := ∀ i, i < E.length → (S d fun k => at2 E i k * v k) = 0
def Same (d : Nat) (E E' : List (List Int)) : Prop := ∀ v : Nat → Int, Null d E v ↔ Null d E' v
theorem Same.refl (d : Nat) (E : List (List Int)) : Same d E E := fun _ => Iff.rfl
theorem Same.trans {d : Nat} {E E' E'' : List (List Int)} (a : Same d E E') (b : Same d E' E'') : Same d E E'' := fun v => (a v).trans (b v)
theorem Same.symm {d : Nat} {E E' : List (List Int)} (a : Same d E E') : Same d E' E := fun v => (a v).symm
theorem null_row {n names i : Nat} {E : List (List Int)} {z : Nat → Int} : (S (n + names) fun k => at2 E i k * (if k < n then z k else 0)) = S n fun u => at2 E i u * z u := by
  rw [S_split, S_zero (n := names) fun k _ => by rw [if_neg (by omega), Int.mul_zero], Int.add_zero]
  exact S_congr fun k hk => by rw [if_pos hk]
theorem par_row {n names i a : Nat} {E : List (List Int)} {w : Nat → Int} (ha : a < names) : (S (n + names) fun k => at2 E i k * (if k < n then w k else if k = n + a then 1 else 0)) = (S n fun u => at2 E i u * w u) + at2 E i (n + a) := by
  rw [S_split]
  have h2 : (S names fun k => at2 E i (n + k) * (if n + k < n then w (n + k) else if n + k = n + a then 1 else 0)) = at2 E i (n + a) := by
    have := S_single (f := fun k => at2 E i (n + k) * (if n + k < n then w (n + k) else if n + k = n + a then 1 else 0)) ha fun k hk hne => by
      show at2 E i (n + k) * (if n + k < n then w (n + k) else if n + k = n + a then 1 else 0) = 0
      rw [if_neg (by omega), if_neg (by omega), Int.mul_zero]
    rw [this]
    show at2 E i (n + a) * (if n + a < n then w (n + a) else if n + a = n + a then 1 else 0) = _
    rw [if_neg (by omega), if_pos rfl, Int.mul_one]
  rw [h2]
  congr 1
  exact S_congr fun k hk => by rw [if_pos hk]
theorem same_ker {n names : Nat} {E E' : List (List Int)} (h : Same (n + names) E E') {z : Nat → Int} (hz : ∀ i, i < E.length → (S n fun u => at2 E i u * z u) = 0) : ∀ i, i < E'.length → (S n fun u => at2 E' i u * z u) = 0 := fun i hi => by
  have := (h fun k => if k < n then z k else 0).mp (fun i hi => by rw [null_row]; exact hz i hi) i hi
  rw [null_row] at this
  exact this
theorem same_par {n names a : Nat} {E E' : List (List Int)} (h : Same (n + names) E E') (ha : a < names) {w : Nat → Int} (hz : ∀ i, i < E.length → (S n fun u => at2 E i u * w u) + at2 E i (n + a) = 0) : ∀ i, i < E'.length → (S n fun u => at2 E' i u * w u) + at2 E' i (n + a) = 0 := fun i hi => by
  have := (h fun k => if k < n then w k else if k = n + a then 1 else 0).mp (fun i hi => by rw [par_row ha]; exact hz i hi) i hi
  rw [par_row ha] at this
  exact this
section
variable {n names f f' j0 j0' G G' : Nat} {E E' rows rows' : List (List Int)} {e e' : Nat → Nat}
theorem ker_lin (h : Sol n names E f rows e j0 G) (y : Nat → Int) : ∀ i, i < E.length → (S n fun u => at2 E i u * S f fun j => y j * at2 rows u j) = 0 := fun i hi => by
  have e1 : (S n fun u => at2 E i u * S f fun j => y j * at2 rows u j) = S n fun u => S f fun j => y j * (at2 E i u * at2 rows u j) := S_congr fun u _ => by
    rw [← S_mul]
    exact S_congr fun j _ => by rw [Int.mul_left_comm]
  rw [e1, S_swap]
  exact S_zero fun j hj => by rw [S_mul, h.ker j hj i hi, Int.mul_zero]
theorem ker_move (h : Sol n names E f rows e j0 G) (h' : Sol n names E' f' rows' e' j0' G') (hs : Same (n + names) E E') (y : Nat → Int) : ∃ y' : Nat → Int, ∀ u, u < n → (S f fun j => y j * at2 rows u j) = S f' fun j => y' j * at2 rows' u j :=
  h'.all _ (same_ker hs (ker_lin h y))
theorem par_move (h : Sol n names E f rows e j0 G) (h' : Sol n names E' f' rows' e' j0' G') (hs : Same (n + names) E E') {a : Nat} (ha : a < names) : ∃ y : Nat → Int, ∀ u, u < n → at2 rows u (f + a) - at2 rows' u (f' + a) = S f fun j => y j * at2 rows u j := by
  refine h.all (fun u => at2 rows u (f + a) - at2 rows' u (f' + a)) fun i hi => ?_
  have h1 := h.par a ha i hi
  have h2 := same_par hs.symm ha (h'.par a ha) i hi
  have h3 : (S n fun u => at2 E i u * (at2 rows u (f + a) - at2 rows' u (f' + a))) = (S n fun u => at2 E i u * at2 rows u (f + a)) - S n fun u => at2 E i u * at2 rows' u (f' + a) := by
    rw [← S_sub]
    exact S_congr fun u _ => Int.mul_sub _ _ _
  rw [h3]
  omega
end
def pick (some : List Nat) (rows : List (List Int)) : List (List Int) := some.map fun u => rows.getD u []
theorem pick_len {some : List Nat} {rows : List (List Int)} : (pick some rows).length = some.length := by unfold pick; rw [List.length_map]
theorem pick_at {some : List Nat} {rows : List (List Int)} {i j : Nat} (hi : i < some.length) : at2 (pick some rows) i j = at2 rows (some.getD i 0) j := by
  show ((pick some rows).getD i []).getD j 0 = _
  unfold pick
  rw [getD_map (d := 0) hi]
  rfl
theorem pick_wid {some : List Nat} {rows : List (List Int)} {n d : Nat} (hl : rows.length = n) (hW : Wid rows d) (hs : ∀ u, u ∈ some → u < n) : Wid (pick some rows) d := fun k c hc => by
  unfold pick at hc
  rw [List.getElem?_map] at hc
  cases h : some[k]? with
  | none => rw [h] at hc; cases hc
  | some u =>
    rw [h] at hc
    cases hc
    exact hW.getD (by rw [hl]; exact hs u (List.mem_of_getElem? h))
theorem mem_getD {some : List Nat} {n i : Nat} (hs : ∀ u, u ∈ some → u < n) (hi : i < some.length) : some.getD i 0 < n := by
  rw [getD_of (List.getElem?_eq_getElem hi)]
  exact hs _ (List.getElem_mem hi)
section
variable {n names f f' j0 j0' G G' r r' : Nat} {E E' rows rows' N N' : List (List Int)} {e e' : Nat → Nat} {some ps ps' : List Nat}
theorem pick_span (h : Sol n names E f rows e j0 G) (h' : Sol n names E' f' rows' e' j0' G') (hs : Same (n + names) E E') (hm : ∀ u, u ∈ some → u < n) : Spans some.length f (fun j i => at2 (pick some rows) i j) f' (fun j i => at2 (pick some rows') i j) := fun y => by
  obtain ⟨y', hy⟩ := ker_move h h' hs y
  refine ⟨y', fun i hi => ?_⟩
  show (S f fun j => y j * at2 (pick some rows) i j) = S f' fun j => y' j * at2 (pick some rows') i j
  rw [S_congr (n := f) (f := fun j => y j * at2 (pick some rows) i j) (g := fun j => y j * at2 rows (some.getD i 0) j) fun j _ => by rw [pick_at hi], hy _ (mem_getD hm hi)]
  exact S_congr fun j _ => by rw [pick_at hi]
theorem form_same (h : Sol n names E f rows e j0 G) (h' : Sol n names E' f' rows' e' j0' G') (hs : Same (n + names) E E') (hm : ∀ u, u ∈ some → u < n) (hN : NfP some.length f names (pick some rows) N r ps) (hN' : NfP some.length f' names (pick some rows') N' r' ps') : r = r' ∧ N = N' := by
  have p1 := pick_span h h' hs hm
  have p2 := pick_span h' h hs.symm hm
  obtain ⟨er, c1, c2⟩ := nf_same hN.nf hN'.nf ((hN.sp.trans p1).trans hN'.sp') ((hN'.sp.trans p2).trans hN.sp') (fun a ha => by
    obtain ⟨y1, d1⟩ := hN.dif a ha
    obtain ⟨y2, d2⟩ := hN'.dif a ha
    obtain ⟨y3, d3⟩ := par_move h h' hs ha
    obtain ⟨y4, d4⟩ := p2 y2
    obtain ⟨z, hz⟩ := hN.sp' (fun k => (y1 k + y3 k) - y4 k)
    refine ⟨z, fun i hi => ?_⟩
    rw [← hz i hi, ← Lin_sub (y := fun k => y1 k + y3 k), ← d4 i hi, ← d2 i hi]
    have e1 : Lin f (fun j i => at2 (pick some rows) i j) (fun k => y1 k + y3 k) i = Lin f (fun j i => at2 (pick some rows) i j) y1 i + Lin f (fun j i => at2 (pick some rows) i j) y3 i := by
      show S f _ = S f _ + S f _
      rw [← S_add]
      exact S_congr fun k _ => Int.add_mul _ _ _
    rw [e1, ← d1 i hi]
    have e3 : Lin f (fun j i => at2 (pick some rows) i j) y3 i = at2 (pick some rows) i (f + a) - at2 (pick some rows') i (f' + a) := by
      rw [pick_at hi, pick_at hi, d3 _ (mem_getD hm hi)]
      exact S_congr fun j _ => by
        show y3 j * at2 (pick some rows) i j = _
        rw [pick_at hi]
    rw [e3]
    show at2 N i (r + a) - at2 N' i (r' + a) = _
    omega)
  refine ⟨er, ?_⟩
  subst er
  refine mat_ext hN.len hN'.len hN.wid hN'.wid fun k i hk hi => ?_
  by_cases z : i < r
  · exact c1 i k z hk
  · obtain ⟨a, rfl⟩ : ∃ a, i = r + a := ⟨i - r, by omega⟩
    exact c2 a k (by omega) hk
end
end Mw

-- MwD11a
set_option Elab.async false
set_option linter.all false
set_option maxRecDepth 100000
set_option maxHeartbeats 8000000
namespace Mw
open PySem PySem.Spec PyProof.Rows L2 Evl LamX
abbrev sMx : Stmt := topS 34
theorem scMx : FnScope ["_law_number_here", "_law_k"] ["_law_number_here", "_law_k"] (defScope sMx) := ⟨rfl, rfl, rfl, by decide +kernel, rfl, by decide +kernel, by decide +kernel⟩
abbrev sNm : Stmt := topS 35
theorem scNm : FnScope ["_law_script", "_law_k"] ["_law_script", "_law_k"] (defScope sNm) := ⟨rfl, rfl, rfl, by decide +kernel, rfl, by decide +kernel, by decide +kernel⟩
abbrev sWh : Stmt := topS 36
theorem scWh : FnScope ["_law_found"] ["_law_found"] (defScope sWh) := ⟨rfl, rfl, rfl, by decide +kernel, rfl, by decide +kernel, by decide +kernel⟩
abbrev sWs : Stmt := topS 37
theorem scWs : FnScope ["_law_found", "_law_size", "_law_number_here"] ["_law_found", "_law_size"] (defScope sWs) := ⟨rfl, rfl, rfl, by decide +kernel, rfl, by decide +kernel, by decide +kernel⟩
abbrev sDr : Stmt := topS 38
theorem scDr : FnScope ["_law_script", "_law_spot", "_law_size", "_law_most", "_law_found", "_law_k", "_law_number_here"] ["_law_script", "_law_spot", "_law_size", "_law_most"] (defScope sDr) := ⟨rfl, rfl, rfl, by decide +kernel, rfl, by decide +kernel, by decide +kernel⟩
abbrev sSu : Stmt := topS 39
theorem scSu : FnScope ["_law_row", "_law_values", "_law_here", "_law_there"] ["_law_row", "_law_values"] (defScope sSu) := ⟨rfl, rfl, rfl, by decide +kernel, rfl, by decide +kernel, by decide +kernel⟩
def mixF (x k : Int) : Int := (x % 2147483647 + 7919 * k * k + 31 * k) * 48271 % 2147483647 * (69621 + 2 * k) % 2147483629
theorem mixF_in (x k : Int) : 0 ≤ mixF x k ∧ mixF x k < 2147483629 := ⟨Int.emod_nonneg _ (by decide), Int.emod_lt_of_pos _ (by decide)⟩
def numF (ns : List Int) (k : Int) : Int := if ns = [] then mixF 17 k else mixF (ns.getD (k % (ns.length : Int)).toNat 0) k
theorem numF_in (ns : List Int) (k : Int) : 0 ≤ numF ns k ∧ numF ns k < 2147483629 := by
  unfold numF
  split <;> exact mixF_in _ _
section
variable {K : PySem.W.Frag} {σ : L2.St} {H : Hp} {ta tb te : TE}
theorem ev_mul {i j : Int} (ha : Ev ta σ H (.int i)) (hb : Ev tb σ H (.int j)) (hc : CMul i j) : Ev (tOp (rI CMul fun i j => .int (i * j)) ta tb) σ H (.int (i * j)) := ev_op ha hb (rv_I hc)
theorem ev_mod {i j : Int} (ha : Ev ta σ H (.int i)) (hb : Ev tb σ H (.int j)) (hc : 0 < j) : Ev (tOp (rI (fun _ j => 0 < j) fun i j => .int (i % j)) ta tb) σ H (.int (i % j)) := ev_op ha hb (rv_I (C := fun _ j => 0 < j) hc)
theorem ev_div {i j : Int} (ha : Ev ta σ H (.int i)) (hb : Ev tb σ H (.int j)) (hc : CDiv i j) : Ev (tOp (rI CDiv fun i j => .int (i / j)) ta tb) σ H (.int (i / j)) := ev_op ha hb (rv_I hc)
theorem ev_gt {i j : Int} (ha : Ev ta σ H (.int i)) (hb : Ev tb σ H (.int j)) : Ev (tOp (rI0 fun i j => .bl (decide (j < i))) ta tb) σ H (.bl (decide (j < i))) := ev_op ha hb (rv_I0 (g := fun i j => .bl (decide (j < i))))
theorem ev_int {b : Bool} (h : Ev te σ H (.bl b)) : Ev (tCB (fun xs H Q => (∃ i, xs = [V.int i] ∧ Q (.int i) H) ∨ ∃ k, xs = [V.bl k] ∧ Q (.int (if k then 1 else 0)) H) (tCons te tNil)) σ H (.int (if b then 1 else 0)) := ev_cb (ea_cons h ea_nil) fun H3 e3 Q3 q3 => .inr ⟨_, rfl, q3 H3 (Ex.refl H3)⟩
end
section
variable {P : Program} {w : World} {K : PySem.W.Frag} {mg : Str → Option Value} {base : Heap}
def spMx : Sp := fun vs H Q _ => ∃ x k : Int, vs = [.int x, .int k] ∧ 0 ≤ k ∧ k ≤ 100000 ∧ RetV (.int (mixF x k)) H Q
theorem ok_mx {f : Addr} {fd : FuncData} (F : Fun K "_law_mixed" "_law_mixed" sMx f fd) : FnOk P w K mg base CX0 1 f fd ["_law_number_here", "_law_k"] spMx := by
  refine F.ok scMx (fun vs H Q E h => ?_) (fun cdv A outer s H vs Q E hr h => ?_)
  · obtain ⟨x, k, rfl, _⟩ := h
    rfl
  · obtain ⟨x, k, rfl, h0, h1, hQ⟩ := h
    have nd := scMx.nd
    refine ⟨_, pss_cons (ps_set (i := 0) nd rfl (.inl rfl) (pe_op op_mod (pe_op op_mul (pe_op op_add (pe_op op_add (pe_op op_mod (pv 0) pe_int) (pe_op op_mul (pe_op op_mul pe_int (pv 1)) (pv 1))) (pe_op op_mul pe_int (pv 1))) pe_int) pe_int))
      (pss_one (ps_ret (pe_op op_mod (pe_op op_mul (pv 0) (pe_op op_add pe_int (pe_op op_mul pe_int (pv 1)))) pe_int))), ?_⟩
    refine q_asg (ev_mod (ev_mul (ev_add (ev_add (ev_mod (ev_var rfl) ev_c (by decide)) (ev_mul (ev_mul ev_c (ev_var rfl) (.inl (by decide))) (ev_var rfl) (.inr (by omega)))) (ev_mul ev_c (ev_var rfl) (.inl (by decide)))) ev_c (.inr (by decide))) ev_c (by decide)) (fun H1 e1 => ?_)
    refine s_ret (ev_mod (ev_mul (ev_var rfl) (ev_add ev_c (ev_mul ev_c (ev_var rfl) (.inl (by decide)))) (.inr (by omega))) ev_c (by decide)) fun H2 e2 => ?_
    exact hQ H2 (e1.trans e2)
theorem sv_mx {x k : Int} {H : Hp} (h0 : 0 ≤ k) (h1 : k ≤ 100000) : SpV spMx [.int x, .int k] H (.int (mixF x k)) := fun H1 e Q q E => ⟨x, k, rfl, h0, h1, q⟩
def spNm (K : PySem.W.Frag) : Sp := fun vs H Q _ => ∃ (a : Addr) (ns : List Int) (k : Int), vs = [.ref a, .int k] ∧ SqL K H a (ns.map V.int) ∧ 0 ≤ k ∧ k ≤ 100000 ∧ RetV (.int (numF ns k)) H Q
theorem ok_nm {f fM : Addr} {fd fdM : FuncData} (F : Fun K "_law_number" "_law_number" sNm f fd)
    (GM : FnOk P w K mg base CX0 1 fM fdM ["_law_number_here", "_law_k"] spMx) (kM : PySem.W.keepIn K (.ref fM) = true) (bM : Binds K fdM ["_law_number_here", "_law_k"] []) (gM : mg "_law_mixed" = some (.ref fM)) (ml : mg "len" = none) : FnOk P w K mg base CX0 2 f fd ["_law_script", "_law_k"] (spNm K) := by
  refine F.ok scNm (fun vs H Q E h => ?_) (fun cdv A outer s H vs Q E hr h => ?_)
  · obtain ⟨a, ns, k, rfl, _⟩ := h
    rfl
  · obtain ⟨a, ns, k, rfl, hx, h0, h1, hQ⟩ := h
    refine ⟨_, pss_cons (ps_if (pt_cmpR (op_eqD hr.units) (pv 0) (pe_lst pa_nil) (nomark _)) (pss_one (ps_ret (pe_call GM hr (by rfl) gM kM bM .nil pass0 (pa_cons pe_int (pa_cons (pv 1) pa_nil))))) pss_nil)
      (pss_one (ps_ret (pe_call GM hr (by rfl) gM kM bM .nil pass0 (pa_cons (pe_ix ix_list (pv 0) (pe_op op_mod (pv 1) (pe_callB call_len_seq (by rfl) ml PySem.boot_len (pa_cons (pv 0) pa_nil))) (fun _ _ => rfl)) (pa_cons (pv 1) pa_nil))))), ?_⟩
    refine q_when (b := decide (ns = [])) (et_test (ev_opL (ev_var rfl) (el_lst ea_nil (by simp)) fun q H5 hq e5 => rv_eqI (ex_l e5 hx) (sq_of hq))) (fun hb H2 e2 => ?_) (fun hb H2 e2 => ?_)
    · have hn := of_decide_eq_true hb
      refine s_ret (ev_call (dvs := []) (ea_cons ev_c (ea_cons (ev_var rfl) ea_nil)) (sv_mx h0 h1)) fun H3 e3 => ?_
      have := hQ H3 (e2.trans e3)
      unfold numF at this
      rw [if_pos hn] at this
      exact this
    · have hn := of_decide_eq_false hb
      have hl : 0 < ns.length := List.length_pos_iff.mpr hn
      have hm0 : 0 ≤ k % (ns.length : Int) := Int.emod_nonneg _ (by omega)
      have hm1 : k % (ns.length : Int) < ns.length := Int.emod_lt_of_pos _ (by omega)
      have hlen : Ev (tCB (rLenS K) (tCons (tVar 0) tNil)) [some (.ref a), some (.int k)] H2 (.int (ns.length : Int)) := by
        have := ev_len (K := K) (σ := [some (.ref a), some (.int k)]) (ta := tVar 0) (ev_var rfl) (ex_l e2 hx)
        rw [List.length_map] at this
        exact this
      refine s_ret (ev_call (dvs := []) (ea_cons (ev_op (ev_var rfl) (ev_mod (ev_var rfl) hlen (by omega)) (rv_ixL (v := .int (ns.getD (k % (ns.length : Int)).toNat 0)) (ex_l e2 hx) ?_)) (ea_cons (ev_var rfl) ea_nil)) (sv_mx h0 h1)) fun H3 e3 => ?_
      · have e0 : k % (ns.length : Int) = (((k % (ns.length : Int)).toNat : Nat) : Int) := by omega
        have := ints_at (c := ns) (k := (k % (ns.length : Int)).toNat) (by omega)
        have h4 := atI_nat this
        rw [← e0] at h4
        exact h4
      · have := hQ H3 (e2.trans e3)
        unfold numF at this
        rw [if_neg hn] at this
        exact this
theorem sv_nm {a : Addr} {ns : List Int} {k : Int} {H : Hp} (hx : SqL K H a (ns.map V.int)) (h0 : 0 ≤ k) (h1 : k ≤ 100000) : SpV (spNm K) [.ref a, .int k] H (.int (numF ns k)) := fun H1 e Q q E => ⟨a, ns, k, rfl, ex_l e hx, h0, h1, q⟩
def spWh : Sp := fun vs H Q _ => ∃ i : Int, vs = [.int i] ∧ RetV (.bl true) H Q
theorem ok_wh {f : Addr} {fd : FuncData} (F : Fun K "_law_whole" "_law_whole" sWh f fd) (mi : mg "isinstance" = none) (mI : mg "int" = none) (mB : mg "bool" = none) : FnOk P w K mg base CX0 1 f fd ["_law_found"] spWh := by
  refine F.ok scWh (fun vs H Q E h => ?_) (fun cdv A outer s H vs Q E hr h => ?_)
  · obtain ⟨i, rfl, _⟩ := h
    rfl
  · obtain ⟨i, rfl, hQ⟩ := h
    refine ⟨_, pss_one (ps_ret (pe_and (pe_callB call_isi (by rfl) mi (by decide +kernel) (pa_cons (pv 0) (pa_cons (pe_bltn (v := .ty "int") (by rfl) mI (by decide +kernel) rfl) pa_nil)))
      (pe_one (pe_not (pe_callB call_isi (by rfl) mi (by decide +kernel) (pa_cons (pv 0) (pa_cons (pe_bltn (v := .ty "bool") (by rfl) mB (by decide +kernel) rfl) pa_nil))))))), ?_⟩
    exact s_ret (v := .bl (true && !false)) (ev_andV (ev_cb (ea_cons (ev_var rfl) (ea_cons ev_c ea_nil)) (rc_isi (fun _ _ => ty_int) (by decide +kernel))) fun _ => ev_notV (ev_cb (ea_cons (ev_var rfl) (ea_cons ev_c ea_nil)) (rc_isi (fun _ _ => ty_int) (by decide +kernel)))) hQ
theorem sv_wh {i : Int} {H : Hp} : SpV spWh [.int i] H (.bl true) := fun H1 e Q q E => ⟨i, rfl, q⟩
def spWs : Sp := fun vs H Q _ => ∃ (a : Addr) (c : List Int), vs = [.ref a, .int (c.length : Int)] ∧ H a = some (.lst (c.map V.int)) ∧ c.length ≤ 1000 ∧ RetV (.bl true) H Q
theorem ok_ws {f fW : Addr} {fd fdW : FuncData} (F : Fun K "_law_wholes" "_law_wholes" sWs f fd)
    (GW : FnOk P w K mg base CX0 1 fW fdW ["_law_found"] spWh) (kW : PySem.W.keepIn K (.ref fW) = true) (bW : Binds K fdW ["_law_found"] []) (gW : mg "_law_whole" = some (.ref fW))
    (mi : mg "isinstance" = none) (mL : mg "list" = none) (ml : mg "len" = none) (ma : mg "all" = none) : FnOk P w K mg base CX0 2 f fd ["_law_found", "_law_size"] spWs := by
  refine F.ok scWs (fun vs H Q E h => ?_) (fun cdv A outer s H vs Q E hr h => ?_)
  · obtain ⟨a, c, rfl, _⟩ := h
    rfl
  · obtain ⟨a, c, rfl, hx, hl, hQ⟩ := h
    refine ⟨_, pss_one (ps_ret (pe_and (pe_callB call_isi (by rfl) mi (by decide +kernel) (pa_cons (pv 0) (pa_cons (pe_bltn (v := .ty "list") (by rfl) mL (by decide +kernel) rfl) pa_nil)))
      (pe_and (pe_cmpR op_eq (pe_callB call_len_seq (by rfl) ml PySem.boot_len (pa_cons (pv 0) pa_nil)) (pv 1) (nomark _))
      (pe_one (pe_callB (cr_all rfl) (by rfl) ma (by decide +kernel) (pa_cons (pe_lc (own := [("_law_number_here", 2)]) (g := gName 2) (tt := tYes) rfl scWs.nd (pi_list (pv 0)) (blkOk_by (by kernel_rfl)) (fun _ _ _ _ _ => pg_name (i := 2) scWs.nd rfl (.inl rfl)) (fun _ _ _ _ _ => pts_nil)
              (fun _ _ _ _ _ => pe_call GW hr (by rfl) gW kW bW .nil pass0 (pa_cons (pv 2) pa_nil))) pa_nil)))))), ?_⟩
    refine s_ret (v := .bl (true && (decide (((c.map V.int).length : Int) = (c.length : Int)) && (List.replicate (c.map V.int).length true).all id))) (ev_andV (ev_cb (ea_cons (ev_var rfl) (ea_cons ev_c ea_nil)) (rc_isi (fun _ e => ty_lst (e _ _ hx)) (by decide +kernel))) fun _ =>
      ev_andV (ev_op (ev_len (ev_var rfl) (sq_of hx)) (ev_var rfl) rv_eqN) fun _ => (ev_cbL (xs := (List.replicate (c.map V.int).length true).map V.bl) (by
              rw [← trues]
              refine el_lcL (fun _ => true) (fun _ => .bl true) (ev_var rfl) (sq_of hx) (by rw [List.length_map]; omega) (fun x => rfl) (fun _ _ _ _ _ => et_yes) (fun k x H6 e6 hk _ => ?_)
              rw [List.getElem?_map] at hk
              cases hy : c[k]? with
              | none => rw [hy] at hk; cases hk
              | some y =>
                rw [hy] at hk
                cases hk
                exact ev_call (dvs := []) (ea_cons (ev_var rfl) ea_nil) sv_wh) fun p H6 hp e6 => rc_all (sq_of hp))) ?_
    rw [all_trues, List.length_map, decide_eq_true rfl]
    exact hQ
theorem sv_ws {a : Addr} {c : List Int} {n : Nat} {H : Hp} (hx : H a = some (.lst (c.map V.int))) (hn : c.length = n) (hl : c.length ≤ 1000) : SpV spWs [.ref a, .int (n : Int)] H (.bl true) := fun H1 e Q q E => ⟨a, c, by rw [hn], e _ _ hx, hl, q⟩
def spSu (K : PySem.W.Frag) : Sp := fun vs H Q _ => ∃ (a b : Addr) (xs ys : List Int), vs = [.ref a, .ref b] ∧ SqL K H a (xs.map V.int) ∧ SqL K H b (ys.map V.int) ∧ xs.length ≤ 1000 ∧ (∀ k, (xs.getD k 0).natAbs ≤ 1000) ∧ RetV (.int (S (min xs.length ys.length) fun k => xs.getD k 0 * ys.getD k 0)) H Q
theorem sum_app (a b : List Int) : (a ++ b).sum = a.sum + b.sum := by
  induction a with
  | nil => simp
  | cons x r ih => rw [List.cons_append, List.sum_cons, List.sum_cons, ih, Int.add_assoc]
theorem sum_S {f : Nat → Int} : ∀ n : Nat, ((List.range n).map f).sum = S n f
  | 0 => rfl
  | n + 1 => by
    rw [List.range_succ, List.map_append, sum_app, sum_S n]
    show _ + (f n + 0) = S n f + f n
    omega
theorem ok_su {f : Addr} {fd : FuncData} (F : Fun K "_law_sum" "_law_sum" sSu f fd) (ms : mg "sum" = none) (mz : mg "zip" = none) : FnOk P w K mg base CX0 1 f fd ["_law_row", "_law_values"] (spSu K) := by
  refine F.ok scSu (fun vs H Q E h => ?_) (fun cdv A outer s H vs Q E hr h => ?_)
  · obtain ⟨a, b, xs, ys, rfl, _⟩ := h
    rfl
  · obtain ⟨a, b, xs, ys, rfl, hx, hy, hl, hb, hQ⟩ := h
    refine ⟨_, pss_one (ps_ret (pe_callB (cr_sum rfl) (by rfl) ms (by decide +kernel) (pa_cons (pe_lc (own := [("_law_here", 2), ("_law_there", 3)]) (g := g2 K 2 3) (tt := tYes) (te := tOp (rI CMul fun i j => .int (i * j)) (tVar 2) (tVar 3)) rfl scSu.nd (pi_zip (by rfl) mz (pa_cons (pv 0) (pa_cons (pv 1) pa_nil))) (blkOk_by (by kernel_rfl))
      (fun _ _ _ _ _ => pg_tup rfl (pgs_cons (pg_name (i := 2) scSu.nd rfl (.inl rfl)) (pgs_cons (pg_name (i := 3) scSu.nd rfl (.inl rfl)) pgs_nil))) (fun _ _ _ _ _ => pts_nil)
      (fun _ _ _ _ _ => pe_op op_mul (pv 2) (pv 3))) pa_nil))), ?_⟩
    refine s_ret (ev_cbL (xs := ((List.range (min xs.length ys.length)).map fun k => xs.getD k 0 * ys.getD k 0).map V.int) (el_lcZ (K := K) _ (ea_cons (ev_var rfl) (ea_cons (ev_var rfl) ea_nil)) hx hy (by rw [List.length_map, List.length_range, List.length_map, List.length_map]) (by rw [List.length_map, List.length_range]; omega) (fun x y => rfl) (fun k x y r H1 e1 h1 h2 h3 => ?_)) fun p H6 hp e6 => ?_) hQ
    · have hk : k < min xs.length ys.length := by
        have := (List.getElem?_eq_some_iff.mp h3).1
        rw [List.length_map, List.length_range] at this
        exact this
      rw [ints_at (by omega)] at h1 h2
      rw [List.getElem?_map, List.getElem?_range hk] at h3
      cases h1
      cases h2
      cases h3
      have := hb k
      exact ev_mul (ev_var rfl) (ev_var rfl) (.inl (by omega))
    · rw [← sum_S]
      exact fun H7 e7 Q7 q7 => ⟨p, _, rfl, sq_of (e7 _ _ hp), q7 H7 (Ex.refl H7)⟩
theorem sv_su {a b : Addr} {xs ys : List Int} {m : Nat} {H : Hp} (hx : SqL K H a (xs.map V.int)) (hy : SqL K H b (ys.map V.int)) (hm : min xs.length ys.length = m) (hl : xs.length ≤ 1000) (hb : ∀ k, (xs.getD k 0).natAbs ≤ 1000) : SpV (spSu K) [.ref a, .ref b] H (.int (S m fun k => xs.getD k 0 * ys.getD k 0)) := fun H1 e Q q E => ⟨a, b, xs, ys, rfl, ex_l e hx, ex_l e hy, hl, hb, by rw [hm]; exact q⟩
/-- all but the list at a stay -/
def ExB (a : Addr) (H H' : Hp) : Prop := ∀ b o, b ≠ a → H b = some o → H' b = some o
theorem ExB.refl (a : Addr) (H : Hp) : ExB a H H := fun _ _ _ h => h
theorem ExB.trans {a : Addr} {H H1 H2 : Hp} (x : ExB a H H1) (y : ExB a H1 H2) : ExB a H H2 := fun b o n h => y b o n (x b o n h)
theorem ExB.ex {a : Addr} {H H1 H2 : Hp} (x : ExB a H H1) (y : Ex H1 H2) : ExB a H H2 := fun b o n h => y b o (x b o n h)
theorem ExB.of {a : Addr} {H H1 : Hp} (x : Ex H H1) : ExB a H H1 := fun b o _ h => x b o h
theorem ExB.upd {a : Addr} {H H1 : Hp} {o : HO} (x : ExB a H H1) : ExB a H (upd H1 a o) := fun b u n h => by
  rw [upd_ne n]
  exact x b u n h
theorem ExB.new {a p : Addr} {H H1 : Hp} {o : HO} (x : ExB a H H1) (hp : H p = none) : ExB a H (L2.upd H1 p o) := fun b u n h => by
  rw [upd_ne (ne_of_none h hp)]
  exact x b u n h
/-- a list that stays where all but the list at sp do -/
def SqB (K : PySem.W.Frag) (sp : Addr) (H : Hp) (a : Addr) (xs : List V) : Prop := ∀ H', ExB sp H H' → SqL K H' a xs
theorem SqB.sq {sp a : Addr} {H : Hp} {xs : List V} (h : SqB K sp H a xs) : SqL K H a xs := h H (ExB.refl sp H)
theorem SqB.mono {sp a : Addr} {H H1 : Hp} {xs : List V} (h : SqB K sp H a xs) (x : ExB sp H H1) : SqB K sp H1 a xs := fun H' y => h H' (x.trans y)
theorem ExB.back {sp : Addr} {H0 H H' : Hp} (hn : H0 sp = none) (e : Ex H0 H) (x : ExB sp H H') : Ex H0 H' := fun b o h => x b o (ne_of_none h hn) (e b o h)
theorem SqB.of {sp a : Addr} {H0 H : Hp} {xs : List V} (h : SqL K H0 a xs) (hn : H0 sp = none) (e : Ex H0 H) : SqB K sp H a xs := fun H' x => ex_l (x.back hn e) h
theorem Tabs.exB {T : List (Addr × Str)} {H H' : Hp} {a : Addr} {xs : List V} (hT : Tabs T H) (h : H a = some (.lst xs)) (x : ExB a H H') : Tabs T H' := fun p hp => by
  obtain ⟨ps, h1, h2, h3⟩ := hT p hp
  refine ⟨ps, x _ _ (ne_of h1 h (fun z => by cases z)) h1, h2, fun pos cv hc => ?_⟩
  obtain ⟨c, e1, e2⟩ := h3 pos cv hc
  exact ⟨c, e1, x _ _ (ne_of e2 h (fun z => by unfold CodeO at z; cases z)) e2⟩
end
end Mw

-- MwD11b
set_option Elab.async false
set_option linter.all false
set_option maxRecDepth 100000
set_option maxHeartbeats 8000000
namespace Mw
open PySem PySem.Spec PyProof.Rows L2 Evl LamX
abbrev sFu : Stmt := topS 40
theorem scFu : FnScope ["_law_script", "_law_spot", "_law_wanted", "_law_names", "_law_many", "_law_found", "_law_k", "_law_row", "_law_name", "_law_own"] ["_law_script", "_law_spot", "_law_wanted", "_law_names", "_law_many"] (defScope sFu) := ⟨rfl, rfl, rfl, by decide +kernel, rfl, by decide +kernel, by decide +kernel⟩
theorem MatP.exB {H H' : Hp} {p sp : Addr} {L : List (List Int)} (h : MatP H p L (fun b => b ≠ sp)) (hp : p ≠ sp) (x : ExB sp H H') : MatP H' p L (fun b => b ≠ sp) := by
  obtain ⟨as, h1, h2, h3⟩ := h
  exact ⟨as, x _ _ hp h1, ⟨h2.1, fun k b c e1 e2 => x _ _ (h3 b (List.mem_of_getElem? e1)) (h2.2 k b c e1 e2)⟩, h3⟩
theorem ne_spot {H : Hp} {p sp : Addr} {o : HO} (h : H sp = some o) (hp : H p = none) : p ≠ sp := fun z => by
  rw [z, h] at hp
  cases hp
section
variable {K : PySem.W.Frag} {σ : L2.St} {H : Hp} {ta tb te : TE} {sp : Sp} {E : XK}
/-- a list that stands, and a new one -/
theorem el_cat1 {p : Addr} {xs ys : List V} (ha : Ev ta σ H (.ref p)) (hx : H p = some (.lst xs)) (hb : EvL tb σ H ys) (hl : xs.length + ys.length ≤ 100000) : EvL (tOp rCat ta tb) σ H (xs ++ ys) := fun H1 e Q q =>
  ha H1 e _ fun H2 e2 => hb H2 (e.trans e2) _ fun b H3 nb e3 h3 => ⟨p, b, xs, ys, rfl, rfl, ((e.trans e2).trans e3) _ _ hx, h3, sz_of hl, fun p np => q p _ (fresh_back (e2.trans e3) np) ((e2.trans e3).trans (Ex.new np)) upd_same⟩
/-- the second of two arguments new -/
theorem ev_call2L {x z : V} {ys : List Int} (ha : Ev ta σ H x) (hb : EvL tb σ H (ys.map V.int)) (hs : ∀ q H1, Ex H H1 → H1 q = some (.lst (ys.map V.int)) → SpV sp [x, .ref q] H1 z) : Ev (tCall sp [] E (tCons ta (tCons tb tNil))) σ H z := fun H1 e Q q =>
  ha H1 e _ fun H2 e2 => hb H2 (e.trans e2) _ fun p H3 np e3 hp => hs p H3 ((e.trans e2).trans e3) hp H3 (Ex.refl H3) Q (fun H4 e4 => q H4 ((e2.trans e3).trans e4)) E
end
def drF (m most : Int) : Int := (m / 3 % (2 * most + 1) - most) * (if decide (0 < m % 3) then 1 else 0)
theorem drF_bd {m : Int} {most : Nat} : (drF m most).natAbs ≤ most := by
  unfold drF
  have h1 : 0 ≤ m / 3 % (2 * (most : Int) + 1) := Int.emod_nonneg _ (by omega)
  have h2 : m / 3 % (2 * (most : Int) + 1) < 2 * (most : Int) + 1 := Int.emod_lt_of_pos _ (by omega)
  split
  · rw [Int.mul_one]
    omega
  · rw [Int.mul_zero]
    exact Nat.zero_le _
section
variable {P : Program} {w : World} {K : PySem.W.Frag} {mg : Str → Option Value} {base : Heap}
def spDr (K : PySem.W.Frag) : Sp := fun vs H Q _ => ∃ (a sp : Addr) (ns : List Int) (c size most : Nat), vs = [.ref a, .ref sp, .int (size : Int), .int (most : Int)] ∧ SqB K sp H a (ns.map V.int) ∧ H sp = some (.lst [.int (c : Int)]) ∧ c + size ≤ 90000 ∧ size ≤ 240 ∧ most ≤ 10 ∧
  ∀ (p : Addr) (cs : List Int) (H' : Hp), H p = none → H' p = some (.lst (cs.map V.int)) → cs.length = size → (∀ k, (cs.getD k 0).natAbs ≤ most) → ExB sp H H' → H' sp = some (.lst [.int ((c + size : Nat) : Int)]) → Q (.ref p) H'
theorem ok_dr {f fN : Addr} {fd fdN : FuncData} (F : Fun K "_law_drawn" "_law_drawn" sDr f fd)
    (GN : FnOk P w K mg base CX0 2 fN fdN ["_law_script", "_law_k"] (spNm K)) (kN : PySem.W.keepIn K (.ref fN) = true) (bN : Binds K fdN ["_law_script", "_law_k"] []) (gN : mg "_law_number" = some (.ref fN)) (mr : mg "range" = none) (mI : mg "int" = none) : FnOk P w K mg base CX0 3 f fd ["_law_script", "_law_spot", "_law_size", "_law_most"] (spDr K) := by
  refine F.ok scDr (fun vs H Q E h => ?_) (fun cdv A outer s H vs Q E hr h => ?_)
  · obtain ⟨a, sp, ns, c, size, most, rfl, _⟩ := h
    rfl
  · obtain ⟨a, sp, ns, c, size, most, rfl, hx, hs, hc, hz, hm, hQ⟩ := h
    have nd := scDr.nd
    refine ⟨_, pss_cons (ps_set (i := 4) nd rfl (.inl rfl) (pe_lst pa_nil))
      (pss_cons (ps_for PassesOwn.never rfl (pi_range1 (by rfl) mr (pa_cons (pv 2) pa_nil)) (pg_name (i := 5) nd rfl (.inl rfl))
        (pss_cons (ps_asg (pe_op op_add (pe_ix ix_list (pv 1) pe_int (fun _ _ => rfl)) pe_int) (pg_sub (pv 1) pe_int set_list))
        (pss_cons (ps_set (i := 6) nd rfl (.inl rfl) (pe_call GN hr (by rfl) gN kN bN .nil pass0 (pa_cons (pv 0) (pa_cons (pe_ix ix_list (pv 1) pe_int (fun _ _ => rfl)) pa_nil))))
        (pss_one (ps_expr (pe_bm PySem.F.plainAttrs_list PySem.F.slot_list_append PySem.F.type_list_append mt_append (pv 4) (pa_cons (pe_op op_mul (pe_op op_sub (pe_op op_mod (pe_op op_fdiv (pv 6) pe_int) (pe_op op_add (pe_op op_mul pe_int (pv 3)) pe_int)) (pv 3))
            (pe_callTy call_int1 (by rfl) mI (by decide +kernel) (pa_cons (pe_cmpR op_gt (pe_op op_mod (pv 6) pe_int) pe_int (nomark _)) pa_nil))) pa_nil)))))))
      (pss_one (ps_ret (pv 4)))), ?_⟩
    refine q_asgL (el_lst ea_nil (by simp)) (fun pf H1 npf e1 hpf => ?_)
    have nfs : pf ≠ sp := ne_spot hs npf
    refine q_forR1 (n := (size : Int)) (ea_cons (ev_var rfl) ea_nil) (by omega) (fun i σ' H' => ∃ x5 x6, ∃ cs : List Int, σ' = [some (.ref a), some (.ref sp), some (.int (size : Int)), some (.int (most : Int)), some (.ref pf), x5, x6] ∧ H' pf = some (.lst (cs.map V.int)) ∧ cs.length = i ∧ (∀ k, (cs.getD k 0).natAbs ≤ most) ∧ ExB sp H H' ∧ H' sp = some (.lst [.int ((c + i : Nat) : Int)]))
      (fun H2 e2 => ⟨none, none, [], rfl, e2 _ _ hpf, rfl, fun k => Nat.zero_le _, ExB.of (e1.trans e2), e2 _ _ (e1 _ _ hs)⟩)
      (fun i σ' H' hi hP => ?_) (fun σ' H' hP => ?_)
    · obtain ⟨x5, x6, cs, rfl, hf, hcl, hb, eX, hsp⟩ := hP
      refine q_setL (l := sp) (j := 0) (xs := [.int ((c + i : Nat) : Int)]) hsp (ev_add (ev_op (ev_var rfl) ev_c (rv_ixL (v := .int ((c + i : Nat) : Int)) (sq_of hsp) rfl)) ev_c) (ev_var rfl) ev_c (Nat.succ_pos _) (fun H2 e2 => ?_)
      have eX2 : ExB sp H (upd H2 sp (.lst ([V.int ((c + i : Nat) : Int)].set 0 (.int (((c + i : Nat) : Int) + 1))))) := (eX.ex e2).upd
      have hsp2 : (upd H2 sp (.lst ([V.int ((c + i : Nat) : Int)].set 0 (.int (((c + i : Nat) : Int) + 1))))) sp = some (.lst [.int ((c + (i + 1) : Nat) : Int)]) := by
        rw [upd_same]
        show _ = some (HO.lst [V.int ((c + i + 1 : Nat) : Int)])
        rw [Int.natCast_succ]
        rfl
      have hf2 : (upd H2 sp (.lst ([V.int ((c + i : Nat) : Int)].set 0 (.int (((c + i : Nat) : Int) + 1))))) pf = some (.lst (cs.map V.int)) := by
        rw [upd_ne nfs]
        exact e2 _ _ hf
      generalize upd H2 sp (.lst ([V.int ((c + i : Nat) : Int)].set 0 (.int (((c + i : Nat) : Int) + 1)))) = H3 at *
      refine q_asg (v := .int (numF ns ((c + (i + 1) : Nat) : Int))) (ev_call (dvs := []) (ea_cons (ev_var rfl) (ea_cons (ev_op (ev_var rfl) ev_c (rv_ixL (v := .int ((c + (i + 1) : Nat) : Int)) (sq_of hsp2) rfl)) ea_nil)) (sv_nm (hx H3 eX2) (by omega) (by omega))) (fun H4 e4 => ?_)
      have hmi := numF_in ns ((c + (i + 1) : Nat) : Int)
      generalize numF ns ((c + (i + 1) : Nat) : Int) = m at *
      refine s_app (l := pf) (xs := cs.map V.int) (v := .int (drF m most)) (e4 _ _ hf2) (ev_var rfl) (ev_mul (ev_sub (ev_mod (ev_div (ev_var rfl) ev_c ⟨by decide, by decide⟩) (ev_add (ev_mul ev_c (ev_var rfl) (.inl (by decide))) ev_c) (by omega)) (ev_var rfl)) (ev_int (ev_gt (ev_mod (ev_var rfl) ev_c (by decide)) ev_c)) (.inr (by split <;> decide))) (by rw [List.length_map]; omega) (fun H5 e5 => ?_)
      refine ⟨_, _, cs ++ [drF m most], rfl, by rw [upd_same, List.map_append]; rfl, by rw [List.length_append, hcl]; rfl, fun k => ?_, ((eX2.ex e4).ex e5).new npf, by rw [upd_ne (Ne.symm nfs)]; exact e5 _ _ (e4 _ _ hsp2)⟩
      by_cases hk : k < cs.length
      · rw [getD_app_l hk]
        exact hb k
      · by_cases hk2 : k = cs.length
        · have := getD_app_r (a := cs) (b := [drF m most]) (k := 0) (d := 0)
          rw [Nat.add_zero] at this
          rw [hk2, this]
          exact drF_bd
        · rw [getD_out (by rw [List.length_append]; simp; omega)]
          exact Nat.zero_le _
    · obtain ⟨x5, x6, cs, rfl, hf, hcl, hb, eX, hsp⟩ := hP
      rw [Int.toNat_natCast] at hcl hsp
      exact s_ret (ev_var rfl) fun H2 e2 => hQ pf cs H2 npf (e2 _ _ hf) hcl hb (eX.ex e2) (e2 _ _ hsp)
def fuRow (names : Nat) (W : List (List Int)) (cs : List Int) : List Int := cs ++ (List.range names).map fun a => 0 - S W.length fun k => cs.getD k 0 * at2 W k a
def spFu (K : PySem.W.Frag) : Sp := fun vs H Q _ => ∃ (a sp aw : Addr) (ns : List Int) (W : List (List Int)) (c names many : Nat), vs = [.ref a, .ref sp, .ref aw, .int (names : Int), .int (many : Int)] ∧ SqB K sp H a (ns.map V.int) ∧ H sp = some (.lst [.int (c : Int)]) ∧ MatP H aw W (fun b => b ≠ sp) ∧ aw ≠ sp ∧ Wid W names ∧ names ≤ 6 ∧ W.length ≤ 10 ∧ many ≤ 10 ∧ c ≤ 80000 ∧
  ∀ (p : Addr) (E : List (List Int)) (c' : Nat) (H' : Hp), H p = none → MatP H' p E (fun b => b ≠ sp) → E.length = many → Wid E (W.length + names) → (∀ i k, k < W.length → (at2 E i k).natAbs ≤ 2) → (∀ i a, i < many → a < names → at2 E i (W.length + a) = 0 - S W.length fun k => at2 E i k * at2 W k a) → ExB sp H H' → H' sp = some (.lst [.int (c' : Int)]) → c' ≤ c + 100 → Q (.ref p) H'
theorem ok_fu {f fD fS : Addr} {fd fdD fdS : FuncData} (F : Fun K "_law_fulfilled" "_law_fulfilled" sFu f fd)
    (GD : FnOk P w K mg base CX0 3 fD fdD ["_law_script", "_law_spot", "_law_size", "_law_most"] (spDr K)) (kD : PySem.W.keepIn K (.ref fD) = true) (bD : Binds K fdD ["_law_script", "_law_spot", "_law_size", "_law_most"] []) (gD : mg "_law_drawn" = some (.ref fD))
    (GS : FnOk P w K mg base CX0 1 fS fdS ["_law_row", "_law_values"] (spSu K)) (kS : PySem.W.keepIn K (.ref fS) = true) (bS : Binds K fdS ["_law_row", "_law_values"] []) (gS : mg "_law_sum" = some (.ref fS))
    (mr : mg "range" = none) (ml : mg "len" = none) : FnOk P w K mg base CX0 4 f fd ["_law_script", "_law_spot", "_law_wanted", "_law_names", "_law_many"] (spFu K) := by
  refine F.ok scFu (fun vs H Q E h => ?_) (fun cdv A outer s H vs Q E' hr h => ?_)
  · obtain ⟨a, sp, aw, ns, W, c, names, many, rfl, _⟩ := h
    rfl
  · obtain ⟨a, sp, aw, ns, W, c, names, many, rfl, hx, hs, hMW, nws, hWW, hnm, hWl, hmn, hc, hQ⟩ := h
    have nd := scFu.nd
    refine ⟨_, pss_cons (ps_set (i := 5) nd rfl (.inl rfl) (pe_lst pa_nil))
      (pss_cons (ps_for PassesOwn.never rfl (pi_range1 (by rfl) mr (pa_cons (pv 4) pa_nil)) (pg_name (i := 6) nd rfl (.inl rfl))
        (pss_cons (ps_set (i := 7) nd rfl (.inr rfl) (pe_call GD hr (by rfl) gD kD bD .nil pass0 (pa_cons (pv 0) (pa_cons (pv 1) (pa_cons (pe_callB call_len_seq (by rfl) ml PySem.boot_len (pa_cons (pv 2) pa_nil)) (pa_cons pe_int pa_nil))))))
        (pss_one (ps_expr (pe_bm PySem.F.plainAttrs_list PySem.F.slot_list_append PySem.F.type_list_append mt_append (pv 5) (pa_cons (pe_op op_cat (pv 7)
          (pe_lc (own := [("_law_name", 8)]) (g := gName 8) (tt := tYes) (te := tOp (rI0 fun i j => .int (i - j)) (tC (.int 0)) (tCall (spSu K) [] E0 (tCons (tVar 7) (tCons (tLc (iList K (tVar 2)) (gName 9) tYes (tIx K (tVar 9) (tVar 8)) [9]) tNil)))) rfl nd (pi_range1 (by rfl) mr (pa_cons (pv 3) pa_nil)) (blkOk_by (by kernel_rfl))
            (fun _ _ _ _ _ => pg_name (i := 8) nd rfl (.inr rfl)) (fun _ _ _ _ _ => pts_nil) (fun _ _ _ _ _ => pe_op op_sub pe_int (pe_call GS (hr.mono (by decide)) (by rfl) gS kS bS .nil pass0 (pa_cons (pv 7) (pa_cons
              (pe_lc (own := [("_law_own", 9)]) (g := gName 9) (tt := tYes) (te := tIx K (tVar 9) (tVar 8)) rfl nd (pi_list (pv 2)) (blkOk_by (by kernel_rfl)) (fun _ _ _ _ _ => pg_name (i := 9) nd rfl (.inl rfl)) (fun _ _ _ _ _ => pts_nil) (fun _ _ _ _ _ => pe_ix ix_list (pv 9) (pv 8) (fun _ _ => rfl))) pa_nil)))))) pa_nil))))))
      (pss_one (ps_ret (pv 5)))), ?_⟩
    refine q_asgL (el_lst ea_nil (by simp)) (fun pf H1 npf e1 hpf => ?_)
    have nfs : pf ≠ sp := ne_spot hs npf
    refine q_forR1 (n := (many : Int)) (ea_cons (ev_var rfl) ea_nil) (by omega) (fun i σ' H' => ∃ x6 x7, ∃ (T : List (List Int)) (c' : Nat), σ' = [some (.ref a), some (.ref sp), some (.ref aw), some (.int (names : Int)), some (.int (many : Int)), some (.ref pf), x6, x7, none, none] ∧ MatP H' pf T (fun b => b ≠ sp) ∧ T.length = i ∧ Wid T (W.length + names) ∧
        (∀ i k, k < W.length → (at2 T i k).natAbs ≤ 2) ∧ (∀ u a, u < i → a < names → at2 T u (W.length + a) = 0 - S W.length fun k => at2 T u k * at2 W k a) ∧ ExB sp H H' ∧ H' sp = some (.lst [.int (c' : Int)]) ∧ c' = c + i * W.length)
      (fun H2 e2 => ⟨none, none, [], c, rfl, ⟨[], e2 _ _ hpf, ⟨rfl, fun k b c h _ => by simp at h⟩, fun b hb => by simp at hb⟩, rfl, fun k c h => by simp at h, fun i k _ => Nat.zero_le _, fun u a h => absurd h (Nat.not_lt_zero _), ExB.of (e1.trans e2), e2 _ _ (e1 _ _ hs), by omega⟩)
      (fun i σ' H' hi hP => ?_) (fun σ' H' hP => ?_)
    · obtain ⟨x6, x7, T, c', rfl, hMT, hTl, hTW, hTb, hTp, eX, hsp, hcc⟩ := hP
      obtain ⟨asW, w1, w2, w3⟩ := hMW.exB nws eX
      have him : i * W.length ≤ 10 * W.length := Nat.mul_le_mul_right _ (by omega)
      refine q_raw (tcall_A (ea_cons (ev_var rfl) (ea_cons (ev_var rfl) (ea_cons (rc_len (n := (W.length : Int)) (sq_of w1) (by rw [List.length_map, w2.1]) (ev_var rfl)) (ea_cons ev_c ea_nil)))) (fun H2 e2 => ⟨a, sp, ns, c', W.length, 2, rfl, (hx.mono eX).mono (ExB.of e2), e2 _ _ hsp, by omega, by omega, by decide, fun p cs H3 np hp hcl hcb eX3 hsp3 => ?_⟩))
      have eX23 : ExB sp H H3 := (eX.ex e2).trans eX3
      have nps : p ≠ sp := ne_spot (e2 _ _ hsp) np
      obtain ⟨asW, w1, w2, w3⟩ := hMW.exB nws eX23
      obtain ⟨asT, t1, t2, t3⟩ := (hMT.ex e2).exB nfs eX3
      have hrow : (fuRow names W cs).map V.int = cs.map V.int ++ ((List.range names).map fun a => 0 - S W.length fun k => cs.getD k 0 * at2 W k a).map V.int := by
        unfold fuRow
        rw [List.map_append]
      refine s_appL (l := pf) (ys := (fuRow names W cs).map V.int) t1 (ev_var rfl) (by
        rw [hrow]
        refine el_cat1 (ev_var rfl) hp (el_lcRi (n := names) _ (ea_cons (ev_var rfl) ea_nil) (by rw [List.length_map, List.length_range]) (by omega) (fun x => rfl) (fun j r H4 e4 hj hr => ?_)) (by simp only [List.length_map, List.length_range]; omega)
        rw [List.getElem?_map, List.getElem?_range hj] at hr
        cases hr
        refine ev_sub ev_c (ev_call2L (ys := (List.range W.length).map fun k => at2 W k j) (ev_var rfl) (el_lcLi _ (ev_var rfl) (sq_of (e4 _ _ w1)) (by rw [List.length_map, List.length_range, List.length_map, w2.1]) (by rw [List.length_map, w2.1]; omega) (fun x => rfl) (fun k x r H5 e5 hx hr => ?_)) (fun q H5 e5 hq => ?_))
        · have hk : k < W.length := by
            have := (List.getElem?_eq_some_iff.mp hr).1
            rw [List.length_map, List.length_range] at this
            exact this
          obtain ⟨b, hb1, hb2⟩ := w2.row hk
          rw [refs_at hb1] at hx
          rw [List.getElem?_map, List.getElem?_range hk] at hr
          cases hx
          cases hr
          exact ev_ixI (ev_var rfl) (sq_of (e5 _ _ (e4 _ _ hb2))) (ev_var rfl) (by rw [hWW.getD hk]; exact hj)
        · have := sv_su (K := K) (a := p) (b := q) (xs := cs) (ys := (List.range W.length).map fun k => at2 W k j) (m := W.length) (sq_of (e5 _ _ (e4 _ _ hp))) (sq_of hq) (by rw [List.length_map, List.length_range, hcl, Nat.min_self]) (by omega) (fun k => by have := hcb k; omega)
          rw [S_congr (n := W.length) (f := fun k => cs.getD k 0 * ((List.range W.length).map fun k => at2 W k j).getD k 0) (g := fun k => cs.getD k 0 * at2 W k j) fun k hk => by rw [getD_map_range hk]] at this
          exact this) (by rw [List.length_map, t2.1]; omega) (fun wv H4 nw e4 hw4 => ?_)
      have nwp : wv ≠ pf := fun z => by
        rw [z, t1] at nw
        cases nw
      have nws2 : wv ≠ sp := ne_spot hsp3 nw
      have hfl : (fuRow names W cs).length = W.length + names := by
        unfold fuRow
        rw [List.length_append, List.length_map, List.length_range, hcl]
      have hfk : ∀ k, k < W.length → (fuRow names W cs).getD k 0 = cs.getD k 0 := fun k hk => by
        unfold fuRow
        rw [getD_app_l (by omega)]
      refine ⟨_, _, T ++ [fuRow names W cs], _, rfl, matP_app (e4 _ _ t1) (t2.ex e4) t3 hw4 nwp nws2, by rw [List.length_append, hTl]; rfl, wid_app hTW hfl, fun u k hk => ?_, fun u b hu hb => ?_, (eX23.ex e4).new npf, by rw [upd_ne (Ne.symm nfs)]; exact e4 _ _ hsp3, ?_⟩
      · by_cases z : u < T.length
        · rw [at2_app_lt z]
          exact hTb u k hk
        · by_cases z2 : u = T.length
          · rw [z2, at2_app_eq, hfk k hk]
            exact hcb k
          · rw [at2_out (by rw [List.length_append]; simp; omega)]
            exact Nat.zero_le _
      · by_cases z : u < T.length
        · rw [at2_app_lt z, hTp u b (by omega) hb]
          congr 1
          exact S_congr fun k hk => by rw [at2_app_lt z]
        · have z2 : u = T.length := by omega
          rw [z2, at2_app_eq]
          have h1 : (fuRow names W cs).getD (W.length + b) 0 = 0 - S W.length fun k => cs.getD k 0 * at2 W k b := by
            unfold fuRow
            have := getD_app_r (a := cs) (b := (List.range names).map fun a => 0 - S W.length fun k => cs.getD k 0 * at2 W k a) (k := b) (d := 0)
            rw [hcl] at this
            rw [this, getD_map_range hb]
          rw [h1]
          congr 1
          exact S_congr fun k hk => by rw [at2_app_eq, hfk k hk]
      · rw [hcc, Nat.succ_mul]
        omega
    · obtain ⟨x6, x7, T, c', rfl, hMT, hTl, hTW, hTb, hTp, eX, hsp, hcc⟩ := hP
      rw [Int.toNat_natCast] at hTl hTp hcc
      have him : many * W.length ≤ 10 * W.length := Nat.mul_le_mul_right _ (by omega)
      exact s_ret (ev_var rfl) fun H2 e2 => hQ pf T c' H2 npf (hMT.ex e2) hTl hTW hTb hTp (eX.ex e2) (e2 _ _ hsp) (by omega)
end
end Mw

-- MwD11c
set_option Elab.async false
set_option linter.all false
set_option maxRecDepth 100000
set_option maxHeartbeats 8000000
namespace Mw
open PySem PySem.Spec PyProof.Rows L2 Evl LamX
/-! systems turned into others -/
theorem null_mem {d : Nat} {E : List (List Int)} {v : Nat → Int} : Null d E v ↔ ∀ c, c ∈ E → (S d fun k => c.getD k 0 * v k) = 0 := by
  constructor
  · intro h c hc
    obtain ⟨i, hi, e⟩ := List.getElem_of_mem hc
    have := h i hi
    unfold at2 at this
    rw [getD_of (List.getElem?_eq_getElem hi), e] at this
    exact this
  · intro h i hi
    have := h _ (List.getElem_mem hi)
    unfold at2
    rw [getD_of (List.getElem?_eq_getElem hi)]
    exact this
theorem bd_mem {E : List (List Int)} {k X : Nat} : (∀ i, (at2 E i k).natAbs ≤ X) ↔ ∀ c, c ∈ E → (c.getD k 0).natAbs ≤ X := by
  constructor
  · intro h c hc
    obtain ⟨i, hi, e⟩ := List.getElem_of_mem hc
    have := h i
    unfold at2 at this
    rw [getD_of (List.getElem?_eq_getElem hi), e] at this
    exact this
  · intro h i
    by_cases hi : i < E.length
    · have := h _ (List.getElem_mem hi)
      unfold at2
      rw [getD_of (List.getElem?_eq_getElem hi)]
      exact this
    · rw [at2_out (by omega)]
      exact Nat.zero_le _
structure OtI (d : Nat) (E E1 : List (List Int)) (t : Nat) : Prop where
  len : E1.length ≤ E.length + t
  wid : Wid E1 d
  same : Same d E E1
  bd : ∀ k X, (∀ i, (at2 E i k).natAbs ≤ X) → ∀ i, (at2 E1 i k).natAbs ≤ 3 ^ t * X
section
variable {d t one other : Nat} {E E1 : List (List Int)} {q : Int}
theorem oti_start (h : Wid E d) : OtI d E E 0 := ⟨Nat.le_refl _, h, Same.refl d E, fun k X h i => by rw [Nat.pow_zero, Nat.one_mul]; exact h i⟩
theorem oti_none (h : OtI d E E1 t) : OtI d E E1 (t + 1) := ⟨by have := h.len; omega, h.wid, h.same, fun k X hb i => by
  have := h.bd k X hb i
  rw [Nat.pow_succ]
  have : 3 ^ t * X ≤ 3 ^ t * 3 * X := Nat.mul_le_mul_right _ (by omega)
  omega⟩
theorem dot_add {a b v : Nat → Int} : (S d fun k => (a k + q * b k) * v k) = (S d fun k => a k * v k) + q * S d fun k => b k * v k := by
  rw [← S_mul, ← S_add]
  exact S_congr fun k _ => by rw [Int.add_mul, Int.mul_assoc]
theorem dot_neg {a v : Nat → Int} : (S d fun k => (- a k) * v k) = - S d fun k => a k * v k := by
  have := S_sub (n := d) (f := fun _ => 0) (g := fun k => a k * v k)
  rw [S_zero (n := d) (f := fun _ => (0 : Int)) fun _ _ => rfl] at this
  rw [Int.zero_sub] at this
  rw [← this]
  exact S_congr fun k _ => by rw [Int.neg_mul, Int.zero_sub]
theorem oti_add (h : OtI d E E1 t) (h1 : one < E1.length) (h2 : other < E1.length) (hne : one ≠ other) (hq : q.natAbs ≤ 2) : OtI d E (E1.set one (vadd (E1.getD one []) (E1.getD other []) q)) (t + 1) := by
  have w1 := h.wid.getD h1
  have w2 := h.wid.getD h2
  have s1 : ∀ k, at2 (E1.set one (vadd (E1.getD one []) (E1.getD other []) q)) one k = at2 E1 one k + q * at2 E1 other k := fun k => by
    rw [at2_set_self h1, vadd_at (w1.trans w2.symm)]
    rfl
  have s2 : ∀ i, i ≠ one → ∀ k, at2 (E1.set one (vadd (E1.getD one []) (E1.getD other []) q)) i k = at2 E1 i k := fun i hi k => at2_set_ne (Ne.symm hi) k
  refine ⟨by rw [List.length_set]; have := h.len; omega, h.wid.set (vadd_len w1 w2), h.same.trans fun v => ⟨fun hv i hi => ?_, fun hv i hi => ?_⟩, fun k X hb i => ?_⟩
  · rw [List.length_set] at hi
    by_cases z : i = one
    · rw [z, S_congr (n := d) (g := fun k => (at2 E1 one k + q * at2 E1 other k) * v k) fun k _ => by rw [s1], dot_add (a := at2 E1 one) (b := at2 E1 other), hv one h1, hv other h2, Int.mul_zero]
      rfl
    · rw [S_congr (n := d) (g := fun k => at2 E1 i k * v k) fun k _ => by rw [s2 i z]]
      exact hv i hi
  · have ho : (S d fun k => at2 E1 other k * v k) = 0 := by
      have := hv other (by rw [List.length_set]; exact h2)
      rw [S_congr (n := d) (g := fun k => at2 E1 other k * v k) fun k _ => by rw [s2 other (Ne.symm hne)]] at this
      exact this
    by_cases z : i = one
    · have := hv one (by rw [List.length_set]; exact h1)
      rw [S_congr (n := d) (g := fun k => (at2 E1 one k + q * at2 E1 other k) * v k) fun k _ => by rw [s1], dot_add (a := at2 E1 one) (b := at2 E1 other), ho, Int.mul_zero, Int.add_zero] at this
      rw [z]
      exact this
    · have := hv i (by rw [List.length_set]; exact hi)
      rw [S_congr (n := d) (g := fun k => at2 E1 i k * v k) fun k _ => by rw [s2 i z]] at this
      exact this
  · have b0 := h.bd k X hb
    have e3 : 3 ^ (t + 1) * X = 3 * (3 ^ t * X) := by rw [Nat.pow_succ, Nat.mul_comm (3 ^ t) 3, Nat.mul_assoc]
    rw [e3]
    by_cases z : i = one
    · rw [z, s1]
      have b1 := b0 one
      have b2 := b0 other
      have b3 := Int.natAbs_mul q (at2 E1 other k)
      have b4 : q.natAbs * (at2 E1 other k).natAbs ≤ 2 * (3 ^ t * X) := Nat.mul_le_mul hq b2
      omega
    · rw [s2 i z]
      have := b0 i
      omega
theorem oti_neg (h : OtI d E E1 t) (h1 : one < E1.length) : OtI d E (E1.set one (vneg (E1.getD one []))) (t + 1) := by
  have w1 := h.wid.getD h1
  have s1 : ∀ k, at2 (E1.set one (vneg (E1.getD one []))) one k = - at2 E1 one k := fun k => by
    rw [at2_set_self h1, vneg_at]
    rfl
  have s2 : ∀ i, i ≠ one → ∀ k, at2 (E1.set one (vneg (E1.getD one []))) i k = at2 E1 i k := fun i hi k => at2_set_ne (Ne.symm hi) k
  refine ⟨by rw [List.length_set]; have := h.len; omega, h.wid.set (by unfold vneg; rw [List.length_map]; exact w1), h.same.trans fun v => ⟨fun hv i hi => ?_, fun hv i hi => ?_⟩, fun k X hb i => ?_⟩
  · rw [List.length_set] at hi
    by_cases z : i = one
    · rw [z, S_congr (n := d) (g := fun k => (- at2 E1 one k) * v k) fun k _ => by rw [s1], dot_neg, hv one h1]
      rfl
    · rw [S_congr (n := d) (g := fun k => at2 E1 i k * v k) fun k _ => by rw [s2 i z]]
      exact hv i hi
  · by_cases z : i = one
    · have := hv one (by rw [List.length_set]; exact h1)
      rw [S_congr (n := d) (g := fun k => (- at2 E1 one k) * v k) fun k _ => by rw [s1], dot_neg] at this
      rw [z]
      omega
    · have := hv i (by rw [List.length_set]; exact hi)
      rw [S_congr (n := d) (g := fun k => at2 E1 i k * v k) fun k _ => by rw [s2 i z]] at this
      exact this
  · have b0 := h.bd k X hb
    have e3 : 3 ^ (t + 1) * X = 3 * (3 ^ t * X) := by rw [Nat.pow_succ, Nat.mul_comm (3 ^ t) 3, Nat.mul_assoc]
    rw [e3]
    by_cases z : i = one
    · rw [z, s1]
      have b1 := b0 one
      omega
    · rw [s2 i z]
      have := b0 i
      omega
theorem oti_rot (h : OtI d E E1 t) (h2 : other < E1.length) : OtI d E (E1.drop one ++ E1.take one ++ [E1.getD other []]) (t + 1) := by
  have hm : ∀ c, c ∈ E1.drop one ++ E1.take one ++ [E1.getD other []] ↔ c ∈ E1 := fun c => by
    have hg : E1.getD other [] ∈ E1 := by
      rw [getD_of (List.getElem?_eq_getElem h2)]
      exact List.getElem_mem h2
    constructor
    · intro hc
      rcases List.mem_append.mp hc with hc | hc
      · rcases List.mem_append.mp hc with hc | hc
        · exact List.mem_of_mem_drop hc
        · exact List.mem_of_mem_take hc
      · rw [List.mem_singleton.mp hc]
        exact hg
    · intro hc
      rw [← List.take_append_drop one E1] at hc
      rcases List.mem_append.mp hc with hc | hc
      · exact List.mem_append_left _ (List.mem_append_right _ hc)
      · exact List.mem_append_left _ (List.mem_append_left _ hc)
  refine ⟨?_, fun k c hk => ?_, h.same.trans fun v => ?_, fun k X hb => ?_⟩
  · rw [List.length_append, List.length_append, List.length_drop, List.length_take]
    have := h.len
    simp
    omega
  · obtain ⟨j, hj, e⟩ := List.getElem_of_mem ((hm c).mp (List.mem_of_getElem? hk))
    exact h.wid j c (by rw [List.getElem?_eq_getElem hj, e])
  · rw [null_mem, null_mem]
    exact ⟨fun hv c hc => hv c ((hm c).mp hc), fun hv c hc => hv c ((hm c).mpr hc)⟩
  · have b0 := bd_mem.mp (h.bd k X hb)
    refine bd_mem.mpr fun c hc => ?_
    have := b0 c ((hm c).mp hc)
    have e3 : 3 ^ (t + 1) * X = 3 * (3 ^ t * X) := by rw [Nat.pow_succ, Nat.mul_comm (3 ^ t) 3, Nat.mul_assoc]
    omega
end
theorem matA_snoc {H : Hp} {as : List Addr} {L : List (List Int)} {w : Addr} {c : List Int} (h2 : MatA H as L) (hw : H w = some (.lst (c.map V.int))) : MatA H (as ++ [w]) (L ++ [c]) :=
  ⟨by rw [List.length_append, List.length_append, h2.1]; rfl, fun k b c' e1 e2 => by
    by_cases hk : k < as.length
    · rw [List.getElem?_append_left hk] at e1
      rw [List.getElem?_append_left (by rw [← h2.1]; exact hk)] at e2
      exact h2.2 k b c' e1 e2
    · have ek : k = as.length := by
        have := (List.getElem?_eq_some_iff.mp e1).1
        rw [List.length_append] at this
        simp at this
        omega
      subst ek
      rw [List.getElem?_append_right (Nat.le_refl _), Nat.sub_self] at e1
      rw [List.getElem?_append_right (by rw [h2.1]; exact Nat.le_refl _), ← h2.1, Nat.sub_self] at e2
      have eb : w = b := by simpa using e1
      have ec : c = c' := by simpa using e2
      subst eb
      subst ec
      exact hw⟩
theorem matA_app {H : Hp} {as bs : List Addr} {L M : List (List Int)} (h : MatA H as L) (h' : MatA H bs M) : MatA H (as ++ bs) (L ++ M) :=
  ⟨by rw [List.length_append, List.length_append, h.1, h'.1], fun k b c' e1 e2 => by
    by_cases hk : k < as.length
    · rw [List.getElem?_append_left hk] at e1
      rw [List.getElem?_append_left (by rw [← h.1]; exact hk)] at e2
      exact h.2 k b c' e1 e2
    · rw [List.getElem?_append_right (by omega)] at e1
      rw [List.getElem?_append_right (by rw [← h.1]; omega), ← h.1] at e2
      exact h'.2 _ b c' e1 e2⟩
theorem matA_drop {H : Hp} {as : List Addr} {L : List (List Int)} (h : MatA H as L) (r : Nat) : MatA H (as.drop r) (L.drop r) :=
  ⟨by rw [List.length_drop, List.length_drop, h.1], fun k b c h1 h2 => by
    rw [List.getElem?_drop] at h1 h2
    exact h.2 _ b c h1 h2⟩
section
variable {K : PySem.W.Frag} {σ : L2.St} {H : Hp} {ta tb tc te : TE}
/-- refs + [xs], xs new -/
theorem en_cat {as : List Addr} {L : List (List Int)} {c : List Int} (ha : EvL ta σ H (as.map V.ref)) (h2 : MatA H as L) (hc : EvL tc σ H (c.map V.int)) (hl : as.length + 1 ≤ 100000) : EvM (tOp rCat ta (tLst (tCons tc tNil))) σ H (L ++ [c]) := fun H1 e Q q =>
  ha H1 e _ fun a H2 na e2 ha2 => hc H2 (e.trans e2) _ fun w H3 nw e3 hw => ⟨sz_of (show [V.ref w].length ≤ 100000 by simp), fun p np => ⟨a, p, as.map V.ref, [.ref w], rfl, rfl, (Ex.new np) _ _ (e3 _ _ ha2), upd_same, sz_of (by rw [List.length_map]; exact hl), fun p' np' => by
    have e4 : Ex H3 (upd (upd H3 p (.lst [.ref w])) p' (.lst (as.map V.ref ++ [.ref w]))) := (Ex.new np).trans (Ex.new np')
    refine q p' _ (fresh_back ((e2.trans e3).trans (Ex.new np)) np') ((e2.trans e3).trans e4) ⟨as ++ [w], by rw [upd_same, List.map_append]; rfl, ?_⟩
    exact matA_snoc (h2.ex (((e.trans e2).trans e3).trans e4)) (e4 _ _ hw)⟩⟩
end
section
variable {P : Program} {w : World} {K : PySem.W.Frag} {mg : Str → Option Value} {base : Heap}
abbrev sOt : Stmt := topS 41
theorem scOt : FnScope ["_law_script", "_law_equations", "_law_found", "_law_k", "_law_number_here", "_law_one", "_law_other", "_law_often", "_law_more", "_law_row", "_law_here", "_law_there"] ["_law_script", "_law_equations"] (defScope sOt) := ⟨rfl, rfl, rfl, by decide +kernel, rfl, by decide +kernel, by decide +kernel⟩
def spOt (K : PySem.W.Frag) : Sp := fun vs H Q _ => ∃ (a ae : Addr) (ns : List Int) (E : List (List Int)) (d : Nat), vs = [.ref a, .ref ae] ∧ SqL K H a (ns.map V.int) ∧ Mat H ae E ∧ Wid E d ∧ d ≤ 100 ∧ E.length ≤ 10 ∧
  ∀ (p : Addr) (E1 : List (List Int)) (H' : Hp), H p = none → Mat H' p E1 → OtI d E E1 5 → Ex H H' → Q (.ref p) H'
theorem oti_more {d t u : Nat} {E E1 : List (List Int)} (h : OtI d E E1 t) : ∀ u, t ≤ u → OtI d E E1 u := by
  intro u hu
  induction u with
  | zero =>
    have : t = 0 := by omega
    rw [← this]
    exact h
  | succ u ih =>
    by_cases z : t = u + 1
    · rw [← z]
      exact h
    · exact oti_none (ih (by omega))
theorem ok_ot {f fN : Addr} {fd fdN : FuncData} (F : Fun K "_law_otherwise" "_law_otherwise" sOt f fd)
    (GN : FnOk P w K mg base CX0 2 fN fdN ["_law_script", "_law_k"] (spNm K)) (kN : PySem.W.keepIn K (.ref fN) = true) (bN : Binds K fdN ["_law_script", "_law_k"] []) (gN : mg "_law_number" = some (.ref fN))
    (mr : mg "range" = none) (ml : mg "len" = none) (mz : mg "zip" = none) (mL : mg "list" = none) (mM : mg "max" = none) : FnOk P w K mg base CX0 3 f fd ["_law_script", "_law_equations"] (spOt K) := by
  refine F.ok scOt (fun vs H Q E h => ?_) (fun cdv A outer s H vs Q E' hr h => ?_)
  · obtain ⟨a, ae, ns, E, d, rfl, _⟩ := h
    rfl
  · obtain ⟨a, ae, ns, E, d, rfl, hx, hM, hW, hd, hl, hQ⟩ := h
    have nd := scOt.nd
    refine ⟨_, pss_cons (ps_setLc (i := 2) (own := [("_law_row", 9)]) (g := gName 9) (tt := tYes) (te := tCB (rListS K) (tCons (tVar 9) tNil)) rfl nd rfl rfl (sw_true rfl rfl rfl (by decide +kernel)) (pi_list (pv 1)) (blkOk_by (by kernel_rfl))
          (fun _ _ _ _ _ => pg_name (i := 9) nd rfl (.inl rfl)) (fun _ _ _ _ _ => pts_nil) (fun _ _ _ _ _ => pe_callTy call_list_of (by rfl) mL (by decide +kernel) (pa_cons (pv 9) pa_nil)))
      (pss_cons (ps_for PassesOwn.never rfl (pi_range1 (by rfl) mr (pa_cons (pe_op op_mod (pe_call GN hr (by rfl) gN kN bN .nil pass0 (pa_cons (pv 0) (pa_cons pe_int pa_nil))) pe_int) pa_nil)) (pg_name (i := 3) nd rfl (.inl rfl))
        (pss_cons (ps_set (i := 4) nd rfl (.inl rfl) (pe_call GN hr (by rfl) gN kN bN .nil pass0 (pa_cons (pv 0) (pa_cons (pe_op op_add pe_int (pv 3)) pa_nil))))
        (pss_cons (ps_set (i := 5) nd rfl (.inl rfl) (pe_op op_mod (pv 4) (pe_callB (call_max2 rfl) (by rfl) mM (by decide +kernel) (pa_cons pe_int (pa_cons (pe_callB call_len_seq (by rfl) ml PySem.boot_len (pa_cons (pv 2) pa_nil)) pa_nil)))))
        (pss_cons (ps_set (i := 6) nd rfl (.inl rfl) (pe_op op_mod (pe_op op_fdiv (pv 4) pe_int) (pe_callB (call_max2 rfl) (by rfl) mM (by decide +kernel) (pa_cons pe_int (pa_cons (pe_callB call_len_seq (by rfl) ml PySem.boot_len (pa_cons (pv 2) pa_nil)) pa_nil)))))
        (pss_one (ps_if (PW.pt (pw_and (pt_cmpR (op_neD hr.units) (pv 2) (pe_lst pa_nil) (nomark _)) (pw_and (pt_cmpR op_ne (pv 5) (pv 6) (nomark _)) (pw_and1 (pt_cmpR op_eq (pe_op op_mod (pe_op op_fdiv (pv 4) pe_int) pe_int) pe_int (nomark _))))))
          (pss_cons (ps_set (i := 7) nd rfl (.inr rfl) (pe_op op_sub (pe_op op_mod (pe_op op_fdiv (pv 4) pe_int) pe_int) pe_int))
          (pss_cons (ps_set (i := 8) nd rfl (.inl rfl) (pe_ix ix_list (pv 2) (pv 6) (fun _ _ => rfl)))
          (pss_one (ps_asg (pe_lc (own := [("_law_here", 10), ("_law_there", 11)]) (g := g2 K 10 11) (tt := tYes) (te := tOp (rI0 fun i j => .int (i + j)) (tVar 10) (tOp (rI CMul fun i j => .int (i * j)) (tVar 7) (tVar 11))) rfl nd (pi_zip (by rfl) mz (pa_cons (pe_ix ix_list (pv 2) (pv 5) (fun _ _ => rfl)) (pa_cons (pv 8) pa_nil))) (blkOk_by (by kernel_rfl))
              (fun _ _ _ _ _ => pg_tup rfl (pgs_cons (pg_name (i := 10) nd rfl (.inl rfl)) (pgs_cons (pg_name (i := 11) nd rfl (.inl rfl)) pgs_nil))) (fun _ _ _ _ _ => pts_nil) (fun _ _ _ _ _ => pe_op op_add (pv 10) (pe_op op_mul (pv 7) (pv 11)))) (pg_sub (pv 2) (pv 5) set_list)))))
          (pss_one (ps_if (PW.pt (pw_and (pt_cmpR (op_neD hr.units) (pv 2) (pe_lst pa_nil) (nomark _)) (pw_and1 (pt_cmpR op_eq (pe_op op_mod (pe_op op_fdiv (pv 4) pe_int) pe_int) pe_int (nomark _)))))
            (pss_one (ps_asg (pe_lc (own := [("_law_here", 10)]) (g := gName 10) (tt := tYes) (te := tOp (rI0 fun i j => .int (i - j)) (tC (.int 0)) (tVar 10)) rfl nd (pi_list (pe_ix ix_list (pv 2) (pv 5) (fun _ _ => rfl))) (blkOk_by (by kernel_rfl))
              (fun _ _ _ _ _ => pg_name (i := 10) nd rfl (.inl rfl)) (fun _ _ _ _ _ => pts_nil) (fun _ _ _ _ _ => pe_op op_sub pe_int (pv 10))) (pg_sub (pv 2) (pv 5) set_list)))
            (pss_one (ps_if (pt_cmpR (op_neD hr.units) (pv 2) (pe_lst pa_nil) (nomark _))
              (pss_one (ps_set (i := 2) nd rfl (.inl rfl) (pe_op op_cat (pe_op op_cat (pe_slice sl_list (pv 2) (po_some (pv 5)) po_none) (pe_slice sl_list (pv 2) po_none (po_some (pv 5)))) (pe_lst (pa_cons (pe_callTy call_list_of (by rfl) mL (by decide +kernel) (pa_cons (pe_ix ix_list (pv 2) (pv 6) (fun _ _ => rfl)) pa_nil)) pa_nil))))) pss_nil))))))))))
      (pss_one (ps_ret (pv 2)))), ?_⟩
    obtain ⟨as0, a1, a2⟩ := id hM
    refine q_asgN (em_lcL (K := K) (a := ae) E (ev_var rfl) (sq_of a1) (by rw [List.length_map, a2.1]) (by rw [List.length_map, a2.1]; omega) (fun x => rfl) (fun k x c H1 e1 hx hc => ?_)) (fun pf0 H1 npf0 e1 hMf => ?_)
    · rw [List.getElem?_map] at hx
      cases hb : as0[k]? with
      | none => rw [hb] at hx; cases hx
      | some b =>
        rw [hb] at hx
        cases hx
        exact el_list (ev_var rfl) (sq_of (e1 _ _ (a2.2 k b c hb hc)))
    have hn3 := numF_in ns 3
    have hm6 : 0 ≤ numF ns 3 % 6 ∧ numF ns 3 % 6 < 6 := ⟨Int.emod_nonneg _ (by decide), Int.emod_lt_of_pos _ (by decide)⟩
    refine q_forR1 (n := numF ns 3 % 6) (ea_cons (ev_mod (ev_call (dvs := []) (ea_cons (ev_var rfl) (ea_cons ev_c ea_nil)) (sv_nm (ex_l e1 hx) (by decide) (by decide))) ev_c (by decide)) ea_nil) (by omega) (fun t σ' H' => ∃ x3 x4 x5 x6 x7 x8 pf E1, σ' = [some (.ref a), some (.ref ae), some (.ref pf), x3, x4, x5, x6, x7, x8, none, none, none] ∧ H pf = none ∧ Mat H' pf E1 ∧ OtI d E E1 t ∧ Ex H H')
      (fun H2 e2 => ⟨none, none, none, none, none, none, pf0, E, rfl, npf0, hMf.ex e2, oti_start hW, e1.trans e2⟩)
      (fun t σ' H' ht hP => ?_) (fun σ' H' hP => ?_)
    · obtain ⟨x3, x4, x5, x6, x7, x8, pf, E1, rfl, npf, hM1, hO, eX⟩ := hP
      refine q_asg (v := .int (numF ns (170 + (t : Int)))) (ev_call (dvs := []) (ea_cons (ev_var rfl) (ea_cons (ev_add ev_c (ev_var rfl)) ea_nil)) (sv_nm (ex_l eX hx) (by omega) (by omega))) (fun H2 e2 => ?_)
      have hmi := numF_in ns (170 + (t : Int))
      generalize numF ns (170 + (t : Int)) = m at *
      obtain ⟨asf, f1, f2⟩ := hM1.ex e2
      have hlen := hO.len
      -- the places
      have hMx : ∃ M : Int, 1 ≤ M ∧ (0 < E1.length → M = (E1.length : Int)) ∧ M = (if (E1.length : Int) > 1 then (E1.length : Int) else 1) := ⟨_, by split <;> omega, fun _ => by split <;> omega, rfl⟩
      obtain ⟨M, hM1', hM2', hMe⟩ := hMx
      refine q_asg (v := .int (m % M)) (ev_mod (ev_var rfl) (by rw [hMe]; exact ev_max2 ev_c (rc_len (sq_of f1) (by rw [List.length_map, f2.1]) (ev_var rfl))) (by omega)) (fun H3 e3 => ?_)
      refine q_asg (v := .int (m / 7 % M)) (ev_mod (ev_div (ev_var rfl) ev_c ⟨by decide, by decide⟩) (by rw [hMe]; exact ev_max2 ev_c (rc_len (sq_of (e3 _ _ f1)) (by rw [List.length_map, f2.1]) (ev_var rfl))) (by omega)) (fun H4 e4 => ?_)
      have ho0 : 0 ≤ m % M ∧ m % M < M := ⟨Int.emod_nonneg _ (by omega), Int.emod_lt_of_pos _ (by omega)⟩
      have hp0 : 0 ≤ m / 7 % M ∧ m / 7 % M < M := ⟨Int.emod_nonneg _ (by omega), Int.emod_lt_of_pos _ (by omega)⟩
      obtain ⟨one, hone⟩ : ∃ one : Nat, m % M = (one : Int) := ⟨(m % M).toNat, by omega⟩
      obtain ⟨other, hother⟩ : ∃ other : Nat, m / 7 % M = (other : Int) := ⟨(m / 7 % M).toNat, by omega⟩
      rw [hone, hother]
      rw [hone] at ho0
      rw [hother] at hp0
      have e24 := (e2.trans e3).trans e4
      have f1' := e4 _ _ (e3 _ _ f1)
      have f2' := f2.ex (e3.trans e4)
      have hM4 : Mat H4 pf E1 := ⟨asf, f1', f2'⟩
      have tNe : ∀ (σ : L2.St) (H5 : Hp), σ[2]? = some (some (.ref pf)) → Ex H4 H5 → EvT (tTest (tOp (rNeD K) (tVar 2) (tLst tNil))) σ H5 (!decide (E1 = [])) := fun σ H5 hσ e5 =>
        et_test (ev_opL (ev_var hσ) (el_lst ea_nil (by simp)) fun q H6 hq e6 => rv_neM (hM4.ex (e5.trans e6)) (sq_of hq))
      have hne : ∀ b : Bool, (!decide (E1 = []) && b) = true → 0 < E1.length := fun b hb => by
        cases z : E1 with
        | nil => rw [z] at hb; cases hb
        | cons c r => exact Nat.succ_pos _
      refine s_if (et_and (tNe _ _ rfl (Ex.refl H4)) fun _ => et_and (et_test (ev_op (ev_var rfl) (ev_var rfl) rv_neN)) fun _ => et_test (ev_op (ev_mod (ev_div (ev_var rfl) ev_c ⟨by decide, by decide⟩) ev_c (by decide)) ev_c rv_eqN)) (fun hb H5 e5 => ?_) (fun _ H5 e5 => ?_)
      · have hpos := hne _ hb
        have hMl := hM2' hpos
        have hneq : one ≠ other := fun z => by
          rw [z, decide_eq_true rfl] at hb
          cases h : (!decide (E1 = [])) with
          | true => rw [h] at hb; cases hb
          | false => rw [h] at hb; cases hb
        have h1 : one < E1.length := by omega
        have h2 : other < E1.length := by omega
        refine q_asg (v := .int (m / 100 % 5 - 2)) (ev_sub (ev_mod (ev_div (ev_var rfl) ev_c ⟨by decide, by decide⟩) ev_c (by decide)) ev_c) (fun H6 e6 => ?_)
        have hq0 : 0 ≤ m / 100 % 5 ∧ m / 100 % 5 < 5 := ⟨Int.emod_nonneg _ (by decide), Int.emod_lt_of_pos _ (by decide)⟩
        obtain ⟨bo, bo1, bo2⟩ := f2'.row h2
        obtain ⟨bn, bn1, bn2⟩ := f2'.row h1
        have e46 := e5.trans e6
        refine q_asg (v := .ref bo) (ev_op (ev_var rfl) (ev_var rfl) (rv_ixL (sq_of (e46 _ _ f1')) (atI_nat (refs_at bo1)))) (fun H7 e7 => ?_)
        have e47 := e46.trans e7
        have w1 := hO.wid.getD h1
        have w2 := hO.wid.getD h2
        refine s_asgL' (xs := (vadd (E1.getD one []) (E1.getD other []) (m / 100 % 5 - 2)).map V.int) (el_lcZ (K := K) _ (ea_cons (ev_op (ev_var rfl) (ev_var rfl) (rv_ixL (sq_of (e47 _ _ f1')) (atI_nat (refs_at bn1)))) (ea_cons (ev_var rfl) ea_nil)) (sq_of (e47 _ _ bn2)) (sq_of (e47 _ _ bo2)) ?_ ?_ (fun x y => rfl) (fun k x y r H8 e8 hx hy hr => ?_)) (fun q H8 nq e8 hq8 => ?_)
        · rw [vadd_len w1 w2, List.length_map, List.length_map, w1, w2, Nat.min_self]
        · rw [vadd_len w1 w2]
          omega
        · have hk : k < d := by
            have := (List.getElem?_eq_some_iff.mp hr).1
            rw [vadd_len w1 w2] at this
            exact this
          rw [ints_at (by omega)] at hx hy
          cases hx
          cases hy
          have hv := vadd_at (q := m / 100 % 5 - 2) (w1.trans w2.symm) k
          rw [getD_of hr] at hv
          rw [hv]
          exact ev_add (ev_var rfl) (ev_mul (ev_var rfl) (ev_var rfl) (.inl (by omega)))
        · have g1' := e8 _ _ (e47 _ _ f1')
          refine ⟨.ref pf, rfl, .int ((one : Nat) : Int), rfl, pf, _, ((one : Nat) : Int), one, rfl, rfl, g1', ixN_nat (by rw [List.length_map, f2'.1]; exact h1), ?_⟩
          exact ⟨_, _, _, _, _, _, pf, _, rfl, npf, ⟨_, mat_at, mat_set g1' (f2'.ex (e47.trans e8)) hq8 h1⟩, oti_add hO h1 h2 hneq (by omega), Ex.mut ((eX.trans e24).trans (e47.trans e8)) npf⟩
      · refine s_if (et_and (tNe _ _ rfl e5) fun _ => et_test (ev_op (ev_mod (ev_div (ev_var rfl) ev_c ⟨by decide, by decide⟩) ev_c (by decide)) ev_c rv_eqN)) (fun hb H6 e6 => ?_) (fun _ H6 e6 => ?_)
        · have hpos := hne _ hb
          have hMl := hM2' hpos
          have h1 : one < E1.length := by omega
          obtain ⟨bn, bn1, bn2⟩ := f2'.row h1
          have e46 := e5.trans e6
          have w1 := hO.wid.getD h1
          refine s_asgL' (xs := (vneg (E1.getD one [])).map V.int) (el_lcLi _ (ev_op (ev_var rfl) (ev_var rfl) (rv_ixL (sq_of (e46 _ _ f1')) (atI_nat (refs_at bn1)))) (sq_of (e46 _ _ bn2)) (by unfold vneg; rw [List.length_map, List.length_map]) (by rw [List.length_map]; omega) (fun x => rfl) (fun k x r H8 e8 hx hr => ?_)) (fun q H8 nq e8 hq8 => ?_)
          · unfold vneg at hr
            rw [List.getElem?_map] at hx hr
            cases hc : (E1.getD one [])[k]? with
            | none => rw [hc] at hr; cases hr
            | some y =>
              rw [hc] at hx hr
              cases hx
              cases hr
              exact ev_sub ev_c (ev_var rfl)
          · have g1' := e8 _ _ (e46 _ _ f1')
            refine ⟨.ref pf, rfl, .int ((one : Nat) : Int), rfl, pf, _, ((one : Nat) : Int), one, rfl, rfl, g1', ixN_nat (by rw [List.length_map, f2'.1]; exact h1), ?_⟩
            exact ⟨_, _, _, _, _, _, pf, _, rfl, npf, ⟨_, mat_at, mat_set g1' (f2'.ex (e46.trans e8)) hq8 h1⟩, oti_neg hO h1, Ex.mut ((eX.trans e24).trans (e46.trans e8)) npf⟩
        · refine s_when (tNe _ _ rfl (e5.trans e6)) (fun hb H7 e7 => ?_) (fun _ H7 e7 => ?_)
          · have hpos := hne true (by rw [hb]; rfl)
            have hMl := hM2' hpos
            have h2 : other < E1.length := by omega
            obtain ⟨bo, bo1, bo2⟩ := f2'.row h2
            have e47 := (e5.trans e6).trans e7
            have s1 : ∀ H8, Ex H7 H8 → SqL K H8 pf (asf.map V.ref) := fun H8 e8 => sq_of (e8 _ _ (e47 _ _ f1'))
            refine s_asgN (en_cat (as := asf.drop one ++ asf.take one) (L := E1.drop one ++ E1.take one) (c := E1.getD other []) ?_ (matA_app (matA_drop (f2'.ex e47) one) (matA_take (f2'.ex e47) one)) (el_list (ev_op (ev_var rfl) (ev_var rfl) (rv_ixL (s1 H7 (Ex.refl H7)) (atI_nat (refs_at bo1)))) (sq_of (e47 _ _ bo2))) ?_) (fun q H8 nq e8 hMq => ?_)
            · rw [List.map_append, List.map_drop, List.map_take, ← cut_drop, ← cut_take]
              exact el_cat (el_sl (ev_var rfl) (eo_some (ev_var rfl)) eo_none (s1 H7 (Ex.refl H7))) (el_sl (ev_var rfl) eo_none (eo_some (ev_var rfl)) (s1 H7 (Ex.refl H7))) (by
                rw [cut_drop, cut_take, List.length_drop, List.length_take, List.length_map, f2'.1]
                omega)
            · rw [List.length_append, List.length_drop, List.length_take, f2'.1]
              omega
            · exact ⟨_, _, _, _, _, _, q, _, rfl, fresh_back ((eX.trans e24).trans e47) nq, hMq, oti_rot hO h2, (eX.trans e24).trans (e47.trans e8)⟩
          · exact ⟨_, _, _, _, _, _, pf, _, rfl, npf, hM4.ex ((e5.trans e6).trans e7), oti_none hO, (eX.trans e24).trans ((e5.trans e6).trans e7)⟩
    · obtain ⟨x3, x4, x5, x6, x7, x8, pf, E1, rfl, npf, hM1, hO, eX⟩ := hP
      exact s_ret (ev_var rfl) fun H2 e2 => hQ pf E1 H2 npf (hM1.ex e2) (oti_more (u := 5) hO 5 (by omega)) (eX.trans e2)
end
end Mw

-- MwD11d
set_option Elab.async false
set_option linter.all false
set_option maxRecDepth 100000
set_option maxHeartbeats 8000000
namespace Mw
open PySem PySem.Spec PyProof.Rows L2 Evl LamX
abbrev sFo : Stmt := topS 42
theorem scFo : FnScope ["_law_unknowns", "_law_names", "_law_equations", "_law_some", "_law_told", "_law_row", "_law_at"] ["_law_unknowns", "_law_names", "_law_equations", "_law_some"] (defScope sFo) := ⟨rfl, rfl, rfl, by decide +kernel, rfl, by decide +kernel, by decide +kernel⟩
section
variable {K : PySem.W.Frag} {σ : L2.St} {H : Hp} {ta tb tc te tl : TE} {tA : TA} {g : TG} {tz tu : TS} {D : Ends} {sp : Sp} {E : XK} {Q : VK}
theorem s_raw (h : te σ H (fun x H1 => D.rt x H1)) : tRet te D σ H := h
theorem tcall_3L {x y : V} {zs : List V} (ha : Ev ta σ H x) (hb : Ev tb σ H y) (hc : EvL tc σ H zs) (k : ∀ p H1, Ex H H1 → H1 p = some (.lst zs) → sp [x, y, .ref p] H1 Q E) : tCall sp [] E (tCons ta (tCons tb (tCons tc tNil))) σ H Q :=
  ha H (Ex.refl H) _ fun H1 e1 => hb H1 e1 _ fun H2 e2 => hc H2 (e1.trans e2) _ fun p H3 np e3 hp => k p H3 ((e1.trans e2).trans e3) hp
theorem tcall_3N {x y : V} {P : Addr → Hp → Prop} (ha : Ev ta σ H x) (hb : Ev tb σ H y) (hc : EvN tc σ H P) (k : ∀ p H1, Ex H H1 → P p H1 → sp [x, y, .ref p] H1 Q E) : tCall sp [] E (tCons ta (tCons tb (tCons tc tNil))) σ H Q :=
  ha H (Ex.refl H) _ fun H1 e1 => hb H1 e1 _ fun H2 e2 => hc H2 (e1.trans e2) _ fun p H3 np e3 hp => k p H3 ((e1.trans e2).trans e3) hp
theorem given_all {n : Nat} {v : Nat → V} : given n (fun _ => true) v = (List.range n).map v := by
  unfold given
  have e : (List.range n).filter (fun _ => true) = List.range n := List.filter_eq_self.mpr fun _ _ => rfl
  rw [e]
/-- [list(row) for row in rows] -/
theorem em_copy {j : Nat} {vs : List Nat} {a : Addr} {L : List (List Int)} (h : Ev tl σ H (.ref a)) (hM : Mat H a L) (hz : L.length ≤ 40000) (hw : ∀ x, wipe ((wipe σ vs).set j (some x)) vs = wipe σ vs) (hj : ∀ x, ((wipe σ vs).set j (some x))[j]? = some (some x)) : EvM (tLc (iList K tl) (gName j) tYes (tCB (rListS K) (tCons (tVar j) tNil)) vs) σ H L := by
  obtain ⟨as0, a1, a2⟩ := hM
  refine em_lcL (K := K) (a := a) L h (sq_of a1) (by rw [List.length_map, a2.1]) (by rw [List.length_map, a2.1]; exact hz) hw (fun k x c H1 e1 hx hc => ?_)
  rw [List.getElem?_map] at hx
  cases hb : as0[k]? with
  | none => rw [hb] at hx; cases hx
  | some b =>
    rw [hb] at hx
    cases hx
    exact el_list (ev_var (hj _)) (sq_of (e1 _ _ (a2.2 k b c hb hc)))
end
abbrev nU (some : List Nat) : List V := some.map fun (u : Nat) => V.int (u : Int)
theorem nU_at {some : List Nat} {k : Nat} {x : V} (h : (nU some)[k]? = Option.some x) : k < some.length ∧ x = .int ((some.getD k 0 : Nat) : Int) := by
  have h0 := (List.getElem?_eq_some_iff.mp h).1
  rw [List.length_map] at h0
  rw [List.getElem?_map, List.getElem?_eq_getElem h0] at h
  cases h
  exact ⟨h0, by rw [getD_of (List.getElem?_eq_getElem h0)]⟩
theorem matA_pick {H : Hp} {as : List Addr} {rows : List (List Int)} {some : List Nat} {n : Nat} (h : MatA H as rows) (hl : rows.length = n) (hm : ∀ u, u ∈ some → u < n) : MatA H ((List.range some.length).map fun i => as.getD (some.getD i 0) 0) (pick some rows) :=
  ⟨by rw [List.length_map, List.length_range, pick_len], fun k b c h1 h2 => by
    have hk : k < some.length := by
      have := (List.getElem?_eq_some_iff.mp h1).1
      rw [List.length_map, List.length_range] at this
      exact this
    rw [List.getElem?_map, List.getElem?_range hk] at h1
    unfold pick at h2
    rw [List.getElem?_map, List.getElem?_eq_getElem hk] at h2
    have hu := mem_getD hm hk
    obtain ⟨b', hb1, hb2⟩ := h.row (k := some.getD k 0) (by omega)
    cases h1
    cases h2
    show H (as.getD (some.getD k 0) 0) = Option.some (HO.lst ((rows.getD some[k] []).map V.int))
    have e0 : some.getD k 0 = some[k] := getD_of (List.getElem?_eq_getElem hk)
    rw [getD_of hb1, ← e0]
    exact hb2⟩
section
variable {P : Program} {w : World} {K : PySem.W.Frag} {mg : Str → Option Value} {base : Heap}
def spFo (K : PySem.W.Frag) (Pt : Addr) : Sp := fun vs H Q _ => ∃ (ae as_ : Addr) (n names : Nat) (E : List (List Int)) (some : List Nat) (e : Nat → Nat) (g : Nat), vs = [.int (n : Int), .int (names : Int), .ref ae, .ref as_] ∧ Mat H ae E ∧ Wid E (n + names) ∧ E.length ≤ 240 ∧ n ≤ 6 ∧ names ≤ 6 ∧ H as_ = Option.some (.lst (nU some)) ∧ (∀ u, u ∈ some → u < n) ∧ some.length ≤ 240 ∧ Grow e ∧
  (∀ i k, i < E.length → k < n → (at2 E i k).natAbs ≤ 2 ^ e 0) ∧ (∀ i k, i < E.length → k < names → (at2 E i (n + k)).natAbs ≤ 2 ^ g) ∧ (∃ wv : Nat → Nat → Int, ∀ a, a < names → ∀ i, i < E.length → (S n fun u => at2 E i u * wv a u) + at2 E i (n + a) = 0) ∧
  (1 < n → e (0 + (n - 2)) ≤ 8990) ∧ e (0 + (n - 1)) ≤ 100000 ∧ g ≤ 1000 ∧ (e (0 + (n - 1)) ≤ 8990 ∨ (∃ z : Nat → Int, (∃ u, u < n ∧ z u ≠ 0) ∧ ∀ i, i < E.length → (S n fun u => at2 E i u * z u) = 0) ∧ ∃ (n' : Nat) (C' : Cols) (ps' : List Nat), Ech n' some.length C' ps' ∧
    (∀ free rows, Sol n names E free rows e 0 (gB g (e (0 + (n - 1)))) → Spans some.length free (fun j i => at2 (pick some rows) i j) n' C' ∧ Spans some.length n' C' free (fun j i => at2 (pick some rows) i j)) ∧ ∀ k, k < ps'.length → (C' k (ps'.getD k 0)).natAbs ≤ 2 ^ 8990) ∧ Tabs (T1 Pt) H ∧
  ∀ (t q : Addr) (N : List (List Int)) (r : Nat) (ps : List Nat) (free : Nat) (rows : List (List Int)) (H' : Hp), H' t = Option.some (.tup [.int (r : Int), .ref q]) → Mat H' q N → Sol n names E free rows e 0 (gB g (e (0 + (n - 1)))) → NfP some.length free names (pick some rows) N r ps → ExtN H H' → Tabs (T1 Pt) H' → Q (.ref t) H'
theorem ok_fo {f fSo fNo Pt : Addr} {fd fdSo fdNo : FuncData} (F : Fun K "_law_form" "_law_form" sFo f fd)
    (GSo : FnOk P w K mg base CX0 6 fSo fdSo ["unknowns", "names", "equations"] (spSo K Pt)) (kSo : PySem.W.keepIn K (.ref fSo) = true) (bSo : Binds K fdSo ["unknowns", "names", "equations"] []) (gSo : mg "solved" = some (.ref fSo))
    (GNo : FnOk P w K mg base CX0 6 fNo fdNo ["free", "names", "rows"] (spNo K Pt)) (kNo : PySem.W.keepIn K (.ref fNo) = true) (bNo : Binds K fdNo ["free", "names", "rows"] []) (gNo : mg "normal" = some (.ref fNo))
    (mL : mg "list" = none) : FnOk P w K mg base CX0 7 f fd ["_law_unknowns", "_law_names", "_law_equations", "_law_some"] (spFo K Pt) := by
  refine F.ok scFo (fun vs H Q E h => ?_) (fun cdv A outer s H vs Q E' hr h => ?_)
  · obtain ⟨ae, as_, n, names, E, some, e, g, rfl, _⟩ := h
    rfl
  · obtain ⟨ae, as_, n, names, E, some, e, g, rfl, hM, hW, hEl, hn, hnm, hs, hsm, hsl, he, hbc, hbg, hwv, he1, he2, hg, hpv, hT, hQ⟩ := h
    have nd := scFo.nd
    refine ⟨_, pss_cons (ps_set (i := 4) nd rfl (.inr rfl) (pe_call GSo hr (by rfl) gSo kSo bSo .nil pass0 (pa_cons (pv 0) (pa_cons (pv 1) (pa_cons
          (pe_lc (own := [("_law_row", 5)]) (g := gName 5) (tt := tYes) (te := tCB (rListS K) (tCons (tVar 5) tNil)) rfl nd (pi_list (pv 2)) (blkOk_by (by kernel_rfl)) (fun _ _ _ _ _ => pg_name (i := 5) nd rfl (.inl rfl)) (fun _ _ _ _ _ => pts_nil)
            (fun _ _ _ _ _ => pe_callTy call_list_of (by rfl) mL (by decide +kernel) (pa_cons (pv 5) pa_nil))) pa_nil)))))
      (pss_cons (ps_if (pt_cmpR op_ne (pe_ix ix_tup (pv 4) pe_int (fun _ _ => rfl)) pe_str (nomark _)) pss_never pss_nil)
      (pss_one (ps_ret (pe_call GNo hr (by rfl) gNo kNo bNo .nil pass0 (pa_cons (pe_ix ix_tup (pv 4) pe_int (fun _ _ => rfl)) (pa_cons (pv 1) (pa_cons
          (pe_lc (own := [("_law_at", 6)]) (g := gName 6) (tt := tYes) (te := tIx K (tOp (rIxT K) (tVar 4) (tC (.int 2))) (tVar 6)) rfl nd (pi_list (pv 3)) (blkOk_by (by kernel_rfl)) (fun _ _ _ _ _ => pg_name (i := 6) nd rfl (.inl rfl)) (fun _ _ _ _ _ => pts_nil)
            (fun _ _ _ _ _ => pe_ix ix_list (pe_ix ix_tup (pv 4) pe_int (fun _ _ => rfl)) (pv 6) (fun _ _ => rfl))) pa_nil))))))), ?_⟩
    refine q_raw (tcall_3N (P := fun p H' => Mat H' p E) (ev_var rfl) (ev_var rfl) (em_copy (ev_var rfl) hM (by omega) (fun x => rfl) (fun x => rfl)) (fun pe H1 e1 hMe => ?_))
    refine ⟨pe, n, names, E, e, 0, g, rfl, by omega, hnm, hMe, hW, hEl, he, hbc, hbg, hwv, he1, he2, by omega, ?_, hT.ext e1, fun t q free rows H2 ht hMr hS eN hT2 => ?_⟩
    · rcases hpv with h | ⟨h, _⟩
      · exact .inl h
      · exact .inr h
    refine q_when (b := false) (et_test (ev_op (ev_op (ev_var rfl) ev_c (rv_ixT (st_of ht) (v := .str "solved") rfl)) ev_c (show RV rNe (.str "solved") (.str "solved") H2 (.bl false) by
          have := rv_ne (x := .str "solved") (y := .str "solved") (H := H2) (by decide)
          rw [decide_eq_true rfl] at this
          exact this))) (fun hb => Bool.noConfusion hb) (fun _ H3 e3 => ?_)
    have eN3 : ExtN H H3 := ((ExtN.of e1).trans eN).trans (ExtN.of e3)
    have hs3 : H3 as_ = Option.some (.lst (nU some)) := exn_lst eN3 hs
    obtain ⟨asr, r1, r2⟩ := hMr.mat.ex e3
    have hrl := hS.len
    obtain ⟨r, hrf, hrE, hrb⟩ := hS.cnt
    refine s_raw (tcall_3L (zs := ((List.range some.length).map fun i => asr.getD (some.getD i 0) 0).map V.ref) (ev_op (ev_var rfl) ev_c (rv_ixT (st_of (e3 _ _ ht)) (v := .int (free : Int)) rfl)) (ev_var rfl) ?_ (fun pr H4 e4 hpr => ?_))
    · have := el_lcL (K := K) (σ := [Option.some (V.int (n : Int)), Option.some (.int (names : Int)), Option.some (.ref ae), Option.some (.ref as_), Option.some (.ref t), none, none]) (H := H3) (te := tIx K (tOp (rIxT K) (tVar 4) (tC (.int 2))) (tVar 6)) (t := tYes) (tl := tVar 3) (a := as_) (xs := nU some) (j := 6) (vs := [6]) (fun _ => true) (fun i => .ref (asr.getD (some.getD i 0) 0)) (ev_var rfl) (sq_of hs3) (by rw [List.length_map]; omega) (fun x => rfl) (fun _ _ _ _ _ => et_yes) (fun k x H5 e5 hx _ => by
        obtain ⟨hk, rfl⟩ := nU_at hx
        have hu := mem_getD hsm hk
        have hu2 : some.getD k 0 < asr.length := by rw [r2.1]; omega
        refine ev_op (ev_op (ev_var rfl) ev_c (rv_ixT (st_of (e5 _ _ (e3 _ _ ht))) (v := .ref q) rfl)) (ev_var rfl) (rv_ixL (sq_of (e5 _ _ r1)) (atI_nat (refs_at ?_)))
        rw [getD_of (List.getElem?_eq_getElem hu2)]
        exact List.getElem?_eq_getElem hu2)
      rw [given_all, List.length_map] at this
      rw [List.map_map]
      exact this
    · have hj : 0 + min r (n - 1) + (free - 1) = 0 + (n - 1) := by omega
      have hpl : (pick some rows).length = some.length := pick_len
      have hbd : ∀ i j, i < (pick some rows).length → j < free → (at2 (pick some rows) i j).natAbs ≤ 2 ^ e (0 + min r (n - 1)) := fun i j hi hj => by
        rw [hpl] at hi
        rw [pick_at hi]
        exact hrb _ j (mem_getD hsm hi) hj
      have hbG : ∀ i a, i < (pick some rows).length → a < names → (at2 (pick some rows) i (free + a)).natAbs ≤ 2 ^ gB g (e (0 + (n - 1))) := fun i a hi ha => by
        rw [hpl] at hi
        rw [pick_at hi]
        exact hS.bd a _ ha (mem_getD hsm hi)
      refine ⟨pr, pick some rows, free, names, e, 0 + min r (n - 1), gB g (e (0 + (n - 1))), rfl, ⟨_, hpr, (matA_pick r2 hrl hsm).ex e4⟩, by omega, by omega, hnm, pick_wid hrl hS.wid hsm, he, hbd, hbG, fun h1 => ?_, by rw [hj]; exact he2, ?_, ?_, (hT2.ext e3).ext e4, fun t2 q2 N r2' ps H5 ht2 hMN hN eN5 hT5 => ?_⟩
      · have e0 : 0 + min r (n - 1) + (free - 2) = 0 + (n - 2) := by omega
        rw [e0]
        exact he1 (by omega)
      · show g + 240 * (e (0 + (n - 1)) + 1) + e (0 + (n - 1)) + 8 ≤ 90000000
        omega
      · rw [hj, hpl]
        rcases hpv with h | ⟨_, n', C', ps', h1, h2, h3⟩
        · exact .inl h
        · exact .inr ⟨n', C', ps', h1, (h2 free rows hS).1, (h2 free rows hS).2, h3⟩
      · rw [hpl] at hN
        exact hQ t2 q2 N r2' ps free rows H5 ht2 hMN hS hN ((eN3.trans (ExtN.of e4)).trans eN5) hT5
end
end Mw

-- MwD12a
set_option Elab.async false
set_option linter.all false
set_option maxRecDepth 100000
set_option maxHeartbeats 8000000
namespace Mw
open PySem PySem.Spec PyProof.Rows L2 Evl LamX
def eA : Nat → Nat
  | 0 => 2
  | j + 1 => 5 * eA j + 3
def eB : Nat → Nat
  | 0 => 9
  | j + 1 => 5 * eB j + 3
theorem growA : Grow eA := ⟨fun j => Nat.le_refl _⟩
theorem growB : Grow eB := ⟨fun j => Nat.le_refl _⟩
theorem eA_le {n : Nat} (h : n ≤ 6) : eA (0 + (n - 1)) ≤ 8593 := Nat.le_trans (growA.mono (show 0 + (n - 1) ≤ 5 by omega)) (by decide)
theorem eA_le2 {n : Nat} (h : n ≤ 6) : eA (0 + (n - 2)) ≤ 8593 := Nat.le_trans (growA.mono (show 0 + (n - 2) ≤ 5 by omega)) (by decide)
theorem eB_le {n : Nat} (h : n ≤ 6) : eB (0 + (n - 1)) ≤ 30468 := Nat.le_trans (growB.mono (show 0 + (n - 1) ≤ 5 by omega)) (by decide)
theorem eB_le2 {n : Nat} (h : n ≤ 6) : eB (0 + (n - 2)) ≤ 8990 := Nat.le_trans (growB.mono (show 0 + (n - 2) ≤ 4 by omega)) (by decide)
theorem eB_le5 {n : Nat} (h : n ≤ 5) : eB (0 + (n - 1)) ≤ 8990 := Nat.le_trans (growB.mono (show 0 + (n - 1) ≤ 4 by omega)) (by decide)
theorem S_bd {f : Nat → Int} {B : Nat} : ∀ {n : Nat}, (∀ k, k < n → (f k).natAbs ≤ B) → (S n f).natAbs ≤ n * B
  | 0, _ => by
    show (0 : Int).natAbs ≤ _
    exact Nat.zero_le _
  | n + 1, h => by
    have h1 := S_bd (n := n) fun k hk => h k (by omega)
    have h2 := h n (by omega)
    show (S n f + f n).natAbs ≤ _
    rw [Nat.succ_mul]
    omega
theorem mul_bd {a b : Int} {x y : Nat} (ha : a.natAbs ≤ x) (hb : b.natAbs ≤ y) : (a * b).natAbs ≤ x * y := by
  rw [Int.natAbs_mul]
  exact Nat.mul_le_mul ha hb
/-- what is put in fulfils the equations -/
theorem put_ok {n names free : Nat} {E rows Pu : List (List Int)} {e : Nat → Nat} {j0 G : Nat} (hS : Sol n names E free rows e j0 G) {i a : Nat} (hi : i < E.length) (ha : a < names) : (S n fun u => at2 E i u * at2 (putT free names rows Pu) u a) + at2 E i (n + a) = 0 := by
  have hl := hS.len
  have h1 := hS.par a ha i hi
  have h2 := ker_lin hS (fun j => at2 Pu j a) i hi
  have h3 : (S n fun u => at2 E i u * at2 (putT free names rows Pu) u a) = (S n fun u => at2 E i u * at2 rows u (free + a)) + S n fun u => at2 E i u * S free fun j => at2 Pu j a * at2 rows u j := by
    rw [← S_add]
    refine S_congr fun u hu => ?_
    rw [putT_at (by omega) ha]
    unfold putV
    rw [Int.mul_add]
    congr 2
    exact S_congr fun j _ => Int.mul_comm _ _
  rw [h3, h2]
  omega
theorem put_bd {rows Pu : List (List Int)} {free u a X : Nat} (hf : free ≤ 6) (h1 : ∀ j, j < free → (at2 rows u j).natAbs ≤ 2 ^ X) (h2 : ∀ j, (at2 Pu j a).natAbs ≤ 5) {names : Nat} (hu : u < rows.length) (ha : a < names) : (at2 rows u (free + a) - at2 (putT free names rows Pu) u a).natAbs ≤ 2 ^ (X + 5) := by
  rw [putT_at hu ha]
  unfold putV
  have hb := S_bd (n := free) (f := fun j => at2 rows u j * at2 Pu j a) (B := 2 ^ X * 5) fun j hj => mul_bd (h1 j hj) (h2 j)
  have h3 : free * (2 ^ X * 5) ≤ 6 * (2 ^ X * 5) := Nat.mul_le_mul_right _ hf
  have h4 : 2 ^ (X + 5) = 32 * 2 ^ X := by rw [Nat.pow_add]; omega
  have h5 : (at2 rows u (free + a) - (at2 rows u (free + a) + S free fun j => at2 rows u j * at2 Pu j a)).natAbs = (S free fun j => at2 rows u j * at2 Pu j a).natAbs := by omega
  rw [h5]
  omega
theorem exn_sq {K : PySem.W.Frag} {H H' : Hp} {a : Addr} {xs : List V} (e : ExtN H H') (h : SqL K H a xs) : SqL K H' a xs := by
  rcases h with (h | ⟨o, h⟩) | h
  · exact .inl (.inl (exn_lst e h))
  · exact .inl (.inr ⟨o, e _ _ h (fun _ z => by cases z)⟩)
  · exact .inr h
theorem SqB.ofN {K : PySem.W.Frag} {sp a : Addr} {H0 H : Hp} {xs : List V} (h : SqL K H0 a xs) (hn : H0 sp = none) (e : ExtN H0 H) : SqB K sp H a xs := fun H' x => by
  refine exn_sq (H := H0) (fun b o hb n => x b o (ne_of_none hb hn) (e b o hb n)) h
theorem exn_exb {H0 H H' : Hp} {sp : Addr} (e : ExtN H0 H) (hn : H0 sp = none) (x : ExB sp H H') : ExtN H0 H' := fun b o hb n => x b o (ne_of_none hb hn) (e b o hb n)
theorem ref_ne_spot {H : Hp} {p sp : Addr} {as : List Addr} {c : Int} (h : H p = some (.lst (as.map V.ref))) (hs : H sp = some (.lst [.int c])) : p ≠ sp := fun z => by
  rw [z, hs] at h
  have e : [V.int c] = as.map V.ref := HO.lst.inj (Option.some.inj h)
  cases as with
  | nil => cases e
  | cons x r =>
    rw [List.map_cons] at e
    cases e
section
variable {K : PySem.W.Frag} {σ : L2.St} {H : Hp} {te tl : TE} {ta : TA} {vs : List Nat} {Q : VK}
/-- drawn rows -/
theorem en_drawn {n size most c j : Nat} {sp : Addr} (h : EvA ta σ H [.int (n : Int)]) (hs : H sp = some (.lst [.int (c : Int)])) (hz : n ≤ 10) (hw : ∀ x, wipe ((wipe σ vs).set j (some x)) vs = wipe σ vs)
    (he : ∀ (i c' : Nat) (H1 : Hp), ExB sp H H1 → H1 sp = some (.lst [.int (c' : Int)]) → c' = c + i * size → i < n → ∀ Q : VK, (∀ (p : Addr) (cs : List Int) (H2 : Hp), H1 p = none → H2 p = some (.lst (cs.map V.int)) → cs.length = size → (∀ k, (cs.getD k 0).natAbs ≤ most) → ExB sp H1 H2 → H2 sp = some (.lst [.int ((c' + size : Nat) : Int)]) → Q (.ref p) H2) → te ((wipe σ vs).set j (some (.int (i : Int)))) H1 Q)
    (q : ∀ (p : Addr) (L : List (List Int)) (H2 : Hp), H p = none → MatP H2 p L (fun b => b ≠ sp) → p ≠ sp → L.length = n → Wid L size → (∀ u k, (at2 L u k).natAbs ≤ most) → ExB sp H H2 → H2 sp = some (.lst [.int ((c + n * size : Nat) : Int)]) → Q (.ref p) H2) :
    tLc (iRng1 ta) (gName j) tYes te vs σ H Q := h H (Ex.refl H) _ fun H1 e1 => ⟨n, rfl, by omega, by omega, fun Dl hD => by
  have hDs : Dl ≠ sp := ne_spot (e1 _ _ hs) hD
  refine lc_it (J := Itr 0 (n : Int).toNat) (by rw [Int.toNat_natCast]; exact walk_range (lo := 0) (n := n)) (fun i H' => ∃ L : List (List Int), MatP H' Dl L (fun b => b ≠ sp ∧ b ≠ Dl) ∧ L.length = i ∧ Wid L size ∧ (∀ u k, (at2 L u k).natAbs ≤ most) ∧ ExB sp H H' ∧ H' sp = some (.lst [.int ((c + i * size : Nat) : Int)]))
    ⟨[], ⟨[], upd_same, ⟨rfl, fun k b c h _ => by simp at h⟩, fun b hb => by simp at hb⟩, rfl, fun k c h => by simp at h, fun u k => Nat.zero_le _, (ExB.of e1).new (by
      cases z : H Dl with
      | none => rfl
      | some o => rw [e1 _ _ z] at hD; cases hD), by rw [upd_ne (Ne.symm hDs), Nat.zero_mul]; exact e1 _ _ hs⟩
    (fun _ _ _ _ => True.intro) (fun i x H2 H3 hi hp y => ?_) (fun H' hp => ?_)
  · obtain ⟨rfl, rfl⟩ := y
    obtain ⟨L, ⟨as, m1, m2, m3⟩, hl, hW, hb, eX, hsp⟩ := hp
    have e0 : (0 : Int) + (i : Int) = (i : Int) := Int.zero_add _
    refine ⟨hw _, ?_⟩
    show te ((wipe σ vs).set j (some (.int ((0 : Int) + (i : Int))))) H3 fun y H4 => _
    rw [e0]
    refine he i _ H3 eX hsp rfl hi _ fun p cs H4 np hp hcl hcb eX4 hsp4 => ?_
    have npD : p ≠ Dl := fun z => by
      rw [z, m1] at np
      cases np
    have nps : p ≠ sp := ne_spot hsp np
    refine ⟨as.map V.ref, eX4 _ _ hDs m1, by rw [List.length_map]; exact sz_lt (by rw [m2.1]; omega), L ++ [cs], ?_, by rw [List.length_append, hl]; rfl, wid_app hW hcl, fun u k => ?_, ?_, ?_⟩
    · exact matP_app (eX4 _ _ hDs m1) ⟨m2.1, fun k b c k1 k2 => eX4 _ _ (m3 b (List.mem_of_getElem? k1)).1 (m2.2 k b c k1 k2)⟩ m3 hp npD ⟨nps, npD⟩
    · by_cases z : u < L.length
      · rw [at2_app_lt z]
        exact hb u k
      · by_cases z2 : u = L.length
        · rw [z2, at2_app_eq]
          exact hcb k
        · rw [at2_out (by rw [List.length_append]; simp; omega)]
          exact Nat.zero_le _
    · have eX' := eX.trans eX4
      intro b o hbs hbo
      by_cases z : b = Dl
      · rw [z] at hbo
        have := e1 _ _ hbo
        rw [hD] at this
        cases this
      · rw [upd_ne z]
        exact eX' b o hbs hbo
    · rw [upd_ne (Ne.symm hDs), hsp4, Nat.succ_mul, Nat.add_assoc]
  · obtain ⟨L, ⟨as, m1, m2, m3⟩, hl, hW, hb, eX, hsp⟩ := hp
    exact q Dl L H' (fresh_back e1 hD) ⟨as, m1, m2, fun b hb => (m3 b hb).1⟩ hDs hl hW hb eX hsp⟩
end
end Mw

-- MwD12
set_option Elab.async false
set_option linter.all false
set_option maxRecDepth 100000
set_option maxHeartbeats 16000000
namespace Mw
open PySem PySem.Spec PyProof.Rows L2 Evl LamX
abbrev sLw : Stmt := topS 43
abbrev nLw : List Str := ["_law_script", "_law_number_here", "_law_unknowns", "_law_names", "_law_spot", "_law_wanted", "_law_equations", "_law_row", "_law_told", "_law_free", "_law_rows", "_law_put", "_law_found", "_law_name", "_law_at", "_law_some", "_law_due", "_law_other", "_law_k", "_law_one", "_law_own"]
theorem scLw : FnScope nLw ["_law_script"] (defScope sLw) := ⟨rfl, rfl, rfl, by decide +kernel, rfl, by decide +kernel, by decide +kernel⟩
abbrev tCopy (K : PySem.W.Frag) (i j : Nat) : TE := tLc (iList K (tVar i)) (gName j) tYes (tCB (rListS K) (tCons (tVar j) tNil)) [j]
section
variable {K : PySem.W.Frag} {σ : L2.St} {H : Hp} {ta tb tc td te : TE} {tz tu : TS} {D : Ends} {sp : Sp} {E : XK} {Q : VK}
theorem q_test (h : te σ H (fun x H1 => ∃ b, x = .bl b ∧ if b = true then tu { D with nx := tz D } σ H1 else tz D σ H1)) : tSeq (tIfS (tTest te) tu tNext) tz D σ H := h
theorem tcall_4N {y z : V} {P P' : Addr → Hp → Prop} (ha : EvN ta σ H P) (hb : Ev tb σ H y) (hc : Ev tc σ H z) (hd : EvN td σ H P') (k : ∀ p q H1 H2, Ex H H1 → Ex H1 H2 → P p H1 → P' q H2 → sp [.ref p, y, z, .ref q] H2 Q E) : tCall sp [] E (tCons ta (tCons tb (tCons tc (tCons td tNil)))) σ H Q :=
  ha H (Ex.refl H) _ fun p H1 np e1 hp => hb H1 e1 _ fun H2 e2 => hc H2 (e1.trans e2) _ fun H3 e3 => hd H3 ((e1.trans e2).trans e3) _ fun q H4 nq e4 hq => k p q H1 H4 e1 ((e2.trans e3).trans e4) hp hq
theorem eu_slT {tl th : TO} {a : Addr} {xs : List V} {lo hi : Option Int} (h : Ev te σ H (.ref a)) (h1 : EvO tl σ H lo) (h2 : EvO th σ H hi) (hs : SqT K H a xs) (hn : ¬ (HT.sIx xs.length 0 lo = 0 ∧ HT.sIx xs.length xs.length hi = xs.length)) : EvU (tSl (rSlT K) te tl th) σ H (cutV xs lo hi) := fun H1 e _ q =>
  h H1 e _ fun H2 e2 => h1 H2 (e.trans e2) _ fun H3 e3 => h2 H3 ((e.trans e2).trans e3) _ fun H4 e4 =>
    ⟨a, xs, rfl, ex_t (((e.trans e2).trans e3).trans e4) hs, hn, fun p hp => q p _ (fresh_back ((e2.trans e3).trans e4) hp) (((e2.trans e3).trans e4).trans (Ex.new hp)) upd_same⟩
theorem dp_tup2 {t q : Addr} {r : Int} {N : List (List Int)} (ht : H t = some (.tup [.int r, .ref q])) (hM : Mat H q N) : Dp K H (.ref t) (.tuple [.int r, dM N]) := .tup (st_of ht) (.cons (.int r) (.cons (dp_dM hM) .nil))
end
section
variable {P : Program} {w : World} {K : PySem.W.Frag} {mg : Str → Option Value} {base : Heap}
def spLw (K : PySem.W.Frag) (Pt : Addr) : Sp := fun vs H Q _ => ∃ (a : Addr) (ns : List Int), vs = [.ref a] ∧ SqL K H a (ns.map V.int) ∧ Tabs (T1 Pt) H ∧ ∀ H', Q (.bl true) H'
theorem ok_lw {f fN fD fFu fSo fPi fWs fSu fMb fFo fOt Pt : Addr} {fd fdN fdD fdFu fdSo fdPi fdWs fdSu fdMb fdFo fdOt : FuncData} (F : Fun K "law" "law" sLw f fd)
    (GN : FnOk P w K mg base CX0 2 fN fdN ["_law_script", "_law_k"] (spNm K)) (kN : PySem.W.keepIn K (.ref fN) = true) (bN : Binds K fdN ["_law_script", "_law_k"] []) (gN : mg "_law_number" = some (.ref fN))
    (GD : FnOk P w K mg base CX0 3 fD fdD ["_law_script", "_law_spot", "_law_size", "_law_most"] (spDr K)) (kD : PySem.W.keepIn K (.ref fD) = true) (bD : Binds K fdD ["_law_script", "_law_spot", "_law_size", "_law_most"] []) (gD : mg "_law_drawn" = some (.ref fD))
    (GFu : FnOk P w K mg base CX0 4 fFu fdFu ["_law_script", "_law_spot", "_law_wanted", "_law_names", "_law_many"] (spFu K)) (kFu : PySem.W.keepIn K (.ref fFu) = true) (bFu : Binds K fdFu ["_law_script", "_law_spot", "_law_wanted", "_law_names", "_law_many"] []) (gFu : mg "_law_fulfilled" = some (.ref fFu))
    (GSo : FnOk P w K mg base CX0 6 fSo fdSo ["unknowns", "names", "equations"] (spSo K Pt)) (kSo : PySem.W.keepIn K (.ref fSo) = true) (bSo : Binds K fdSo ["unknowns", "names", "equations"] []) (gSo : mg "solved" = some (.ref fSo))
    (GPi : FnOk P w K mg base CX0 1 fPi fdPi ["rows", "free", "names", "found"] spPi) (kPi : PySem.W.keepIn K (.ref fPi) = true) (bPi : Binds K fdPi ["rows", "free", "names", "found"] []) (gPi : mg "put_in" = some (.ref fPi))
    (GWs : FnOk P w K mg base CX0 2 fWs fdWs ["_law_found", "_law_size"] spWs) (kWs : PySem.W.keepIn K (.ref fWs) = true) (bWs : Binds K fdWs ["_law_found", "_law_size"] []) (gWs : mg "_law_wholes" = some (.ref fWs))
    (GSu : FnOk P w K mg base CX0 1 fSu fdSu ["_law_row", "_law_values"] (spSu K)) (kSu : PySem.W.keepIn K (.ref fSu) = true) (bSu : Binds K fdSu ["_law_row", "_law_values"] []) (gSu : mg "_law_sum" = some (.ref fSu))
    (GMb : FnOk P w K mg base CX0 7 fMb fdMb ["rows", "free", "names", "wanted"] (spMb Pt)) (kMb : PySem.W.keepIn K (.ref fMb) = true) (bMb : Binds K fdMb ["rows", "free", "names", "wanted"] []) (gMb : mg "met_by" = some (.ref fMb))
    (GFo : FnOk P w K mg base CX0 7 fFo fdFo ["_law_unknowns", "_law_names", "_law_equations", "_law_some"] (spFo K Pt)) (kFo : PySem.W.keepIn K (.ref fFo) = true) (bFo : Binds K fdFo ["_law_unknowns", "_law_names", "_law_equations", "_law_some"] []) (gFo : mg "_law_form" = some (.ref fFo))
    (GOt : FnOk P w K mg base CX0 3 fOt fdOt ["_law_script", "_law_equations"] (spOt K)) (kOt : PySem.W.keepIn K (.ref fOt) = true) (bOt : Binds K fdOt ["_law_script", "_law_equations"] []) (gOt : mg "_law_otherwise" = some (.ref fOt))
    (mr : mg "range" = none) (ml : mg "len" = none) (mL : mg "list" = none) (ma : mg "all" = none) (mM : mg "max" = none) : FnOk P w K mg base CX0 8 f fd ["_law_script"] (spLw K Pt) := by
  refine F.ok scLw (fun vs H Q E h => ?_) (fun cdv A outer s H vs Q E' hr h => ?_)
  · obtain ⟨a, ns, rfl, _⟩ := h
    rfl
  · obtain ⟨a, ns, rfl, hx, hT, hQ⟩ := h
    have nd := scLw.nd
    refine ⟨_, pss_cons (ps_set (i := 1) nd rfl (.inl rfl) (pe_call GN (hr.mono (by decide)) (by rfl) gN kN bN .nil pass0 (pa_cons (pv 0) (pa_cons pe_int pa_nil))))
      (pss_cons (ps_set (i := 2) nd rfl (.inl rfl) (pe_op op_mod (pv 1) pe_int))
      (pss_cons (ps_set (i := 3) nd rfl (.inr rfl) (pe_op op_add pe_int (pe_op op_mod (pe_op op_fdiv (pv 1) pe_int) pe_int)))
      (pss_cons (ps_set (i := 4) nd rfl (.inr rfl) (pe_lst (pa_cons pe_int pa_nil)))
      (pss_cons (ps_setLc (i := 5) (own := [("_law_k", 18)]) (g := gName 18) (tt := tYes) (te := tCall (spDr K) [] E0 (tCons (tVar 0) (tCons (tVar 4) (tCons (tVar 3) (tCons (tC (.int 3)) tNil))))) rfl nd rfl rfl (sw_true rfl rfl rfl (by decide +kernel)) (pi_range1 (by rfl) mr (pa_cons (pv 2) pa_nil)) (blkOk_by (by kernel_rfl))
            (fun _ _ _ _ _ => pg_name (i := 18) nd rfl (.inl rfl)) (fun _ _ _ _ _ => pts_nil) (fun _ _ _ _ _ => pe_call GD (hr.mono (by decide)) (by rfl) gD kD bD .nil pass0 (pa_cons (pv 0) (pa_cons (pv 4) (pa_cons (pv 3) (pa_cons pe_int pa_nil))))))
      (pss_cons (ps_set (i := 6) nd rfl (.inl rfl) (pe_call GFu (hr.mono (by decide)) (by rfl) gFu kFu bFu .nil pass0 (pa_cons (pv 0) (pa_cons (pv 4) (pa_cons (pv 5) (pa_cons (pv 3) (pa_cons (pe_op op_mod (pe_op op_fdiv (pv 1) pe_int) pe_int) pa_nil)))))))
      (pss_cons (ps_set (i := 8) nd rfl (.inl rfl) (pe_call GSo (hr.mono (by decide)) (by rfl) gSo kSo bSo .nil pass0 (pa_cons (pv 2) (pa_cons (pv 3) (pa_cons
            (pe_lc (own := [("_law_row", 7)]) (g := gName 7) (tt := tYes) (te := tCB (rListS K) (tCons (tVar 7) tNil)) rfl nd (pi_list (pv 6)) (blkOk_by (by kernel_rfl)) (fun _ _ _ _ _ => pg_name (i := 7) nd rfl (.inl rfl)) (fun _ _ _ _ _ => pts_nil)
              (fun _ _ _ _ _ => pe_callTy call_list_of (by rfl) mL (by decide +kernel) (pa_cons (pv 7) pa_nil))) pa_nil)))))
      (pss_cons (ps_if (pt_cmpR op_ne (pe_ix ix_tup (pv 8) pe_int (fun _ _ => rfl)) pe_str (nomark _)) pss_never pss_nil)
      (pss_cons (ps_asg (pe_slice sl_tup (pv 8) (po_some pe_int) po_none) (pg_tup rfl (pgs_cons (pg_name (i := 9) nd rfl (.inl rfl)) (pgs_cons (pg_name (i := 10) nd rfl (.inl rfl)) pgs_nil))))
      (pss_cons (ps_setLc (i := 11) (own := [("_law_k", 18)]) (g := gName 18) (tt := tYes) (te := tCall (spDr K) [] E0 (tCons (tVar 0) (tCons (tVar 4) (tCons (tVar 3) (tCons (tC (.int 5)) tNil))))) rfl nd rfl rfl (sw_true rfl rfl rfl (by decide +kernel)) (pi_range1 (by rfl) mr (pa_cons (pv 9) pa_nil)) (blkOk_by (by kernel_rfl))
            (fun _ _ _ _ _ => pg_name (i := 18) nd rfl (.inl rfl)) (fun _ _ _ _ _ => pts_nil) (fun _ _ _ _ _ => pe_call GD (hr.mono (by decide)) (by rfl) gD kD bD .nil pass0 (pa_cons (pv 0) (pa_cons (pv 4) (pa_cons (pv 3) (pa_cons pe_int pa_nil))))))
      (pss_cons (ps_set (i := 12) nd rfl (.inl rfl) (pe_call GPi (hr.mono (by decide)) (by rfl) gPi kPi bPi .nil pass0 (pa_cons
            (pe_lc (own := [("_law_row", 7)]) (g := gName 7) (tt := tYes) (te := tCB (rListS K) (tCons (tVar 7) tNil)) rfl nd (pi_list (pv 10)) (blkOk_by (by kernel_rfl)) (fun _ _ _ _ _ => pg_name (i := 7) nd rfl (.inl rfl)) (fun _ _ _ _ _ => pts_nil)
              (fun _ _ _ _ _ => pe_callTy call_list_of (by rfl) mL (by decide +kernel) (pa_cons (pv 7) pa_nil))) (pa_cons (pv 9) (pa_cons (pv 3) (pa_cons
            (pe_lc (own := [("_law_one", 19)]) (g := gName 19) (tt := tYes) (te := tCB (rListS K) (tCons (tVar 19) tNil)) rfl nd (pi_list (pv 11)) (blkOk_by (by kernel_rfl)) (fun _ _ _ _ _ => pg_name (i := 19) nd rfl (.inl rfl)) (fun _ _ _ _ _ => pts_nil)
              (fun _ _ _ _ _ => pe_callTy call_list_of (by rfl) mL (by decide +kernel) (pa_cons (pv 19) pa_nil))) pa_nil))))))
      (pss_cons (ps_if (PW.pt (pw_or (pt_cmpR op_ne (pe_callB call_len_seq (by rfl) ml PySem.boot_len (pa_cons (pv 12) pa_nil)) (pv 2) (nomark _)) (pw_or1 (pt_not (pt_val (pe_callB (cr_all rfl) (by rfl) ma (by decide +kernel) (pa_cons
            (pe_lc (own := [("_law_row", 7)]) (g := gName 7) (tt := tYes) (te := tCall spWs [] E0 (tCons (tVar 7) (tCons (tVar 3) tNil))) rfl nd (pi_list (pv 12)) (blkOk_by (by kernel_rfl)) (fun _ _ _ _ _ => pg_name (i := 7) nd rfl (.inl rfl)) (fun _ _ _ _ _ => pts_nil)
              (fun _ _ _ _ _ => pe_call GWs (hr.mono (by decide)) (by rfl) gWs kWs bWs .nil pass0 (pa_cons (pv 7) (pa_cons (pv 3) pa_nil)))) pa_nil))))))) pss_never pss_nil)
      (pss_cons (ps_for PassesOwn.never rfl (pi_list (pv 6)) (pg_name (i := 7) nd rfl (.inl rfl))
        (pss_one (ps_for PassesOwn.never rfl (pi_range1 (by rfl) mr (pa_cons (pv 3) pa_nil)) (pg_name (i := 13) nd rfl (.inr rfl))
          (pss_one (ps_if (pt_cmpR op_ne (pe_op op_add (pe_call GSu (hr.mono (by decide)) (by rfl) gSu kSu bSu .nil pass0 (pa_cons (pv 7) (pa_cons
              (pe_lc (own := [("_law_own", 20)]) (g := gName 20) (tt := tYes) (te := tIx K (tVar 20) (tVar 13)) rfl nd (pi_list (pv 12)) (blkOk_by (by kernel_rfl)) (fun _ _ _ _ _ => pg_name (i := 20) nd rfl (.inl rfl)) (fun _ _ _ _ _ => pts_nil)
                (fun _ _ _ _ _ => pe_ix ix_list (pv 20) (pv 13) (fun _ _ => rfl))) pa_nil))) (pe_ix ix_list (pv 7) (pe_op op_add (pv 2) (pv 13)) (fun _ _ => rfl))) pe_int (nomark _)) pss_never pss_nil)))))
      (pss_cons (ps_if (pt_cmpR (op_neD hr.units) (pe_call GMb (hr.mono (by decide)) (by rfl) gMb kMb bMb .nil pass0 (pa_cons
            (pe_lc (own := [("_law_row", 7)]) (g := gName 7) (tt := tYes) (te := tCB (rListS K) (tCons (tVar 7) tNil)) rfl nd (pi_list (pv 10)) (blkOk_by (by kernel_rfl)) (fun _ _ _ _ _ => pg_name (i := 7) nd rfl (.inl rfl)) (fun _ _ _ _ _ => pts_nil)
              (fun _ _ _ _ _ => pe_callTy call_list_of (by rfl) mL (by decide +kernel) (pa_cons (pv 7) pa_nil))) (pa_cons (pv 9) (pa_cons (pv 3) (pa_cons
            (pe_lc (own := [("_law_row", 7)]) (g := gName 7) (tt := tYes) (te := tCB (rListS K) (tCons (tVar 7) tNil)) rfl nd (pi_list (pv 12)) (blkOk_by (by kernel_rfl)) (fun _ _ _ _ _ => pg_name (i := 7) nd rfl (.inl rfl)) (fun _ _ _ _ _ => pts_nil)
              (fun _ _ _ _ _ => pe_callTy call_list_of (by rfl) mL (by decide +kernel) (pa_cons (pv 7) pa_nil))) pa_nil))))) (pv 11) (nomark _)) pss_never pss_nil)
      (pss_cons (ps_setLc (i := 15) (own := [("_law_at", 14)]) (g := gName 14) (tt := tTest (tOp (rI0 fun i j => .bl (decide (j < i))) (tOp (rI (fun _ j => 0 < j) fun i j => .int (i % j)) (tCall (spNm K) [] E0 (tCons (tVar 0) (tCons (tOp (rI0 fun i j => .int (i + j)) (tC (.int 190)) (tVar 14)) tNil))) (tC (.int 3))) (tC (.int 0)))) rfl nd rfl rfl (sw_true rfl rfl rfl (by decide +kernel)) (pi_range1 (by rfl) mr (pa_cons (pv 2) pa_nil)) (blkOk_by (by kernel_rfl))
            (fun _ _ _ _ _ => pg_name (i := 14) nd rfl (.inl rfl)) (fun _ _ _ _ _ => pts_one (pt_cmpR op_gt (pe_op op_mod (pe_call GN (hr.mono (by decide)) (by rfl) gN kN bN .nil pass0 (pa_cons (pv 0) (pa_cons (pe_op op_add pe_int (pv 14)) pa_nil))) pe_int) pe_int (nomark _))) (fun _ _ _ _ _ => pv 14))
      (pss_cons (ps_set (i := 14) nd rfl (.inl rfl) (pe_op op_mod (pv 1) (pe_callB (call_max2 rfl) (by rfl) mM (by decide +kernel) (pa_cons pe_int (pa_cons (pe_callB call_len_seq (by rfl) ml PySem.boot_len (pa_cons (pv 15) pa_nil)) pa_nil)))))
      (pss_cons (ps_set (i := 15) nd rfl (.inl rfl) (pe_op op_cat (pe_slice sl_list (pv 15) (po_some (pv 14)) po_none) (pe_slice sl_list (pv 15) po_none (po_some (pv 14)))))
      (pss_cons (ps_set (i := 16) nd rfl (.inl rfl) (pe_call GFo hr (by rfl) gFo kFo bFo .nil pass0 (pa_cons (pv 2) (pa_cons (pv 3) (pa_cons (pv 6) (pa_cons (pv 15) pa_nil))))))
      (pss_cons (ps_set (i := 17) nd rfl (.inl rfl) (pe_call GOt (hr.mono (by decide)) (by rfl) gOt kOt bOt .nil pass0 (pa_cons (pv 0) (pa_cons (pv 6) pa_nil))))
      (pss_one (ps_ret (pe_and (pe_cmp (pc_notN (pv 16))) (pe_one (pe_cmpR (op_eqD hr.units) (pe_call GFo hr (by rfl) gFo kFo bFo .nil pass0 (pa_cons (pv 2) (pa_cons (pv 3) (pa_cons (pv 17) (pa_cons (pv 15) pa_nil))))) (pv 16) (nomark _)))))))))))))))))))))))), ?_⟩
    refine q_asg (v := .int (numF ns 0)) (ev_call (dvs := []) (ea_cons (ev_var rfl) (ea_cons ev_c ea_nil)) (sv_nm hx (by decide) (by decide))) (fun H1 e1 => ?_)
    have hmi := numF_in ns 0
    generalize numF ns 0 = m at *
    refine q_asg (v := .int (m % 7)) (ev_mod (ev_var rfl) ev_c (by decide)) (fun H2 e2 => ?_)
    have hn0 : 0 ≤ m % 7 ∧ m % 7 < 7 := ⟨Int.emod_nonneg _ (by decide), Int.emod_lt_of_pos _ (by decide)⟩
    obtain ⟨n, hn⟩ : ∃ n : Nat, m % 7 = (n : Int) := ⟨(m % 7).toNat, by omega⟩
    refine q_asg (v := .int (1 + m / 7 % 2)) (ev_add ev_c (ev_mod (ev_div (ev_var rfl) ev_c ⟨by decide, by decide⟩) ev_c (by decide))) (fun H3 e3 => ?_)
    have hk0 : 0 ≤ m / 7 % 2 ∧ m / 7 % 2 < 2 := ⟨Int.emod_nonneg _ (by decide), Int.emod_lt_of_pos _ (by decide)⟩
    obtain ⟨names, hnames⟩ : ∃ names : Nat, 1 + m / 7 % 2 = (names : Int) := ⟨(1 + m / 7 % 2).toNat, by omega⟩
    rw [hn, hnames]
    have hn6 : n ≤ 6 := by omega
    have hnm : names ≤ 2 := by omega
    have hnm1 : 1 ≤ names := by omega
    have hmy0 : 0 ≤ m / 14 % 6 ∧ m / 14 % 6 < 6 := ⟨Int.emod_nonneg _ (by decide), Int.emod_lt_of_pos _ (by decide)⟩
    obtain ⟨many, hmany⟩ : ∃ many : Nat, m / 14 % 6 = (many : Int) := ⟨(m / 14 % 6).toNat, by omega⟩
    refine q_asgL (xs := [.int 200]) (el_lst (ea_cons ev_c ea_nil) (by simp)) (fun sp H4 nsp3 e4 hsp4 => ?_)
    have eX4 : Ex H H4 := ((e1.trans e2).trans e3).trans e4
    have nsp : H sp = none := fresh_back ((e1.trans e2).trans e3) nsp3
    have sB4 : SqB K sp H4 a (ns.map V.int) := SqB.of hx nsp eX4
    -- wanted
    refine q_raw (en_drawn (n := n) (size := names) (most := 3) (c := 200) (j := 18) (sp := sp) (ea_cons (ev_var rfl) ea_nil) hsp4 (by omega) (fun x => rfl) (fun i c' H5 eX hs5 hc' hi Q5 q5 => ?_) (fun aw W H5 nw hMW nws hWl hWW hWb eX5 hs5 => ?_))
    · have hin : i * names ≤ 6 * 2 := Nat.mul_le_mul (by omega) hnm
      exact tcall_A (ea_cons (ev_var rfl) (ea_cons (ev_var rfl) (ea_cons (ev_var rfl) (ea_cons ev_c ea_nil)))) (fun H6 e6 => ⟨a, sp, ns, c', names, 3, rfl, (sB4.mono eX).mono (ExB.of e6), e6 _ _ hs5, by omega, by omega, by decide, fun p cs H7 np hp hcl hcb eX7 hs7 => q5 p cs H7 (fresh_back e6 np) hp hcl hcb ((ExB.of e6).trans eX7) hs7⟩)
    have hnn : n * names ≤ 6 * 2 := Nat.mul_le_mul hn6 hnm
    have eB5 : Ex H H5 := ExB.back nsp eX4 eX5
    -- the equations
    refine q_raw (tcall_A (ea_cons (ev_var rfl) (ea_cons (ev_var rfl) (ea_cons (ev_var rfl) (ea_cons (ev_var rfl) (ea_cons (ev_mod (ev_div (ev_var rfl) ev_c ⟨by decide, by decide⟩) ev_c (by decide)) ea_nil))))) (fun H6 e6 => ⟨a, sp, aw, ns, W, 200 + n * names, names, many, by rw [hmany]; rfl, (sB4.mono eX5).mono (ExB.of e6), e6 _ _ hs5, hMW.ex e6, nws, hWW, by omega, by omega, by omega, by omega, fun ae E c7 H7 nae hME hEl hEW hEb hEc eX7 hs7 hc7 => ?_⟩))
    rw [hWl] at hEW hEb hEc
    have eX67 : ExB sp H5 H7 := (ExB.of e6).trans eX7
    have eB7 : Ex H H7 := ExB.back nsp eB5 eX67
    have hT7 : Tabs (T1 Pt) H7 := hT.ext eB7
    have hEl5 : E.length ≤ 5 := by omega
    have nae5 : ae ≠ sp := ne_spot (e6 _ _ hs5) nae
    have hEcb : ∀ i a, a < names → (at2 E i (n + a)).natAbs ≤ 36 := fun i b hb => by
      by_cases hi : i < many
      · rw [hEc i b hi hb]
        have h1 := S_bd (n := n) (f := fun k => at2 E i k * at2 W k b) (B := 2 * 3) fun k hk => mul_bd (hEb i k hk) (hWb k b)
        have h2 : n * (2 * 3) ≤ 6 * (2 * 3) := Nat.mul_le_mul_right _ hn6
        omega
      · rw [at2_out (by omega)]
        exact Nat.zero_le _
    have hEv : ∀ a, a < names → ∀ i, i < E.length → (S n fun u => at2 E i u * at2 W u a) + at2 E i (n + a) = 0 := fun b hb i hi => by
      rw [hEc i b (by omega) hb]
      omega
    have hEA : ∀ i k, i < E.length → k < n → (at2 E i k).natAbs ≤ 2 ^ eA 0 := fun i k _ hk => Nat.le_trans (hEb i k hk) (by decide)
    have hEg : ∀ i k, i < E.length → k < names → (at2 E i (n + k)).natAbs ≤ 2 ^ 6 := fun i k _ hk => Nat.le_trans (hEcb i k hk) (by decide)
    have hA1 := eA_le hn6
    have hA2 := eA_le2 hn6
    -- solved
    refine q_raw (tcall_3N (P := fun p H' => Mat H' p E) (ev_var rfl) (ev_var rfl) (em_copy (ev_var rfl) hME.mat (by omega) (fun x => rfl) (fun x => rfl)) (fun pe H8 e8 hMe => ⟨pe, n, names, E, eA, 0, 6, rfl, by omega, by omega, hMe, hEW, by omega, growA, hEA, hEg, ⟨fun b u => at2 W u b, hEv⟩, fun _ => by omega, by omega, by omega, .inl (by omega), hT7.ext e8, fun t q free rows H9 ht hMr hS eN9 hT9 => ?_⟩))
    refine q_when (b := false) (et_test (ev_op (ev_op (ev_var rfl) ev_c (rv_ixT (st_of ht) (v := .str "solved") rfl)) ev_c (show RV rNe (.str "solved") (.str "solved") H9 (.bl false) by
          have := rv_ne (x := .str "solved") (y := .str "solved") (H := H9) (by decide)
          rw [decide_eq_true rfl] at this
          exact this))) (fun hb => Bool.noConfusion hb) (fun _ H10 e10 => ?_)
    refine eu_slT (ev_var rfl) (eo_some ev_c) eo_none (st_of (e10 _ _ ht)) (fun z => by
      have h : HT.sIx 3 0 (some 1) = 0 := z.1
      revert h
      decide) H10 (Ex.refl H10) _ fun t2 H11 nt2 e11 ht2 => ?_
    have hcut : cutV [V.str "solved", .int (free : Int), .ref q] (some 1) none = [.int (free : Int), .ref q] := cut_drop [V.str "solved", .int (free : Int), .ref q] 1
    rw [hcut] at ht2
    refine ⟨t2, [.int (free : Int), .ref q], rfl, st_of ht2, rfl, .int (free : Int), _, rfl, .ref q, [], rfl, rfl, ?_⟩
    have e911 := e10.trans e11
    have hS_len := hS.len
    obtain ⟨r, hrf, hrE, hrb⟩ := hS.cnt
    have eN11 : ExtN H H11 := (((ExtN.of (eB7.trans e8)).trans eN9)).trans (ExtN.of e911)
    have hs11 : H11 sp = some (.lst [.int (c7 : Int)]) := e911 _ _ (exn_lst eN9 (e8 _ _ hs7))
    have hME11 : MatP H11 ae E (fun b => b ≠ sp) := (((hME.ex e8).exn eN9).ex e911)
    have hMr11 : MatP H11 q rows (fun b => b ≠ sp) := by
      obtain ⟨as, m1, m2, m3⟩ := hMr.ex e911
      exact ⟨as, m1, m2, fun b hb z => m3 b hb [.int (c7 : Int)] (by rw [z]; exact e8 _ _ hs7)⟩
    have nqs : q ≠ sp := by
      obtain ⟨as, m1, _⟩ := hMr11
      exact ref_ne_spot m1 hs11
    have hT11 := hT9.ext e911
    have sB11 : SqB K sp H11 a (ns.map V.int) := SqB.ofN hx nsp eN11
    have hfn : free * names ≤ 6 * 2 := Nat.mul_le_mul (by omega) hnm
    -- put
    refine q_raw (en_drawn (n := free) (size := names) (most := 5) (c := c7) (j := 18) (sp := sp) (ea_cons (ev_var rfl) ea_nil) hs11 (by omega) (fun x => rfl) (fun i c' H12 eX hs12 hc' hi Q5 q5 => ?_) (fun ap Pu H12 nap hMP naps hPl hWP hPb eX12 hs12 => ?_))
    · have hin : i * names ≤ 6 * 2 := Nat.mul_le_mul (by omega) hnm
      exact tcall_A (ea_cons (ev_var rfl) (ea_cons (ev_var rfl) (ea_cons (ev_var rfl) (ea_cons ev_c ea_nil)))) (fun H6 e6 => ⟨a, sp, ns, c', names, 5, rfl, (sB11.mono eX).mono (ExB.of e6), e6 _ _ hs12, by omega, by omega, by decide, fun p cs H7 np hp hcl hcb eX7 hs7 => q5 p cs H7 (fresh_back e6 np) hp hcl hcb ((ExB.of e6).trans eX7) hs7⟩)
    have eN12 : ExtN H H12 := exn_exb eN11 nsp eX12
    have hT12 : Tabs (T1 Pt) H12 := Tabs.exB hT11 hs11 eX12
    have hME12 : Mat H12 ae E := (hME11.exB nae5 eX12).mat
    have hMr12 : Mat H12 q rows := (hMr11.exB nqs eX12).mat
    have hMP12 : Mat H12 ap Pu := hMP.mat
    -- put_in
    have hj : min r (n - 1) + (free - 1) = n - 1 := by omega
    have hrb1 : ∀ u j, u < rows.length → j < free → (at2 rows u j).natAbs ≤ 2 ^ eA (0 + min r (n - 1)) := fun u j hu hj => hrb u j (by omega) hj
    have hrb2 : ∀ u j, u < rows.length → j < free → (at2 rows u j).natAbs ≤ 2 ^ 8593 := fun u j hu hj => Nat.le_trans (hrb1 u j hu hj) (two_pow_mono (Nat.le_trans (growA.mono (by omega)) hA1))
    refine q_raw (tcall_4N (P := fun p H' => Mat H' p rows) (P' := fun p H' => Mat H' p Pu) (em_copy (ev_var rfl) hMr12 (by omega) (fun x => rfl) (fun x => rfl)) (ev_var rfl) (ev_var rfl) (em_copy (ev_var rfl) hMP12 (by omega) (fun x => rfl) (fun x => rfl)) (fun pr pp H13 H14 e13 e14 hMr13 hMP14 => ⟨pr, pp, rows, Pu, free, names, 8593, rfl, hMr13.ex e14, hMP14, by omega, by omega, by omega, hS.wid, hPl, hWP, hrb2, by decide, fun j b => Nat.le_trans (hPb j b) (by decide), fun pf H15 npf e15 hMf => ?_⟩))
    have e1215 := (e13.trans e14).trans e15
    have hFl : (putT free names rows Pu).length = n := putT_len.trans hS_len
    obtain ⟨asf, f1, f2⟩ := id hMf
    have hfl : (asf.map V.ref).length = n := by rw [List.length_map, f2.1, hFl]
    -- the first check
    refine q_when (b := !decide ((n : Int) = (n : Int)) || !((List.replicate (asf.map V.ref).length true).all id)) (et_or (et_test (ev_op (rc_len (n := (n : Int)) (sq_of f1) (by rw [hfl]) (ev_var rfl)) (ev_var rfl) rv_neN)) fun _ => et_not (et_B (ev_cbL (xs := (List.replicate (asf.map V.ref).length true).map V.bl) (by
        rw [← trues]
        refine el_lcL (fun _ => true) (fun _ => .bl true) (ev_var rfl) (sq_of f1) (by omega) (fun x => rfl) (fun _ _ _ _ _ => et_yes) (fun k x H6 e6 hk _ => ?_)
        rw [List.getElem?_map] at hk
        cases hb : asf[k]? with
        | none => rw [hb] at hk; cases hk
        | some b =>
          rw [hb] at hk
          cases hk
          have hkl : k < (putT free names rows Pu).length := by rw [← f2.1]; exact (List.getElem?_eq_some_iff.mp hb).1
          have hcl := putT_wid (free := free) (names := names) (R := rows) (Fd := Pu) k _ (List.getElem?_eq_getElem hkl)
          exact ev_call (dvs := []) (ea_cons (ev_var rfl) (ea_cons (ev_var rfl) ea_nil)) (sv_ws (e6 _ _ (f2.2 k b _ hb (List.getElem?_eq_getElem hkl))) hcl (by omega))) fun p H6 hp e6 => rc_all (sq_of hp)))) (fun hb => ?_) (fun _ H16 e16 => ?_)
    · rw [all_trues, decide_eq_true rfl] at hb
      cases hb
    -- the second check
    have e1216 := e1215.trans e16
    obtain ⟨asE, g1, g2⟩ := hME12.ex e1216
    refine q_forLn (ev_var rfl) (sq_of g1) (fun i σ' H' => ∃ x7 x13, σ' = [some (.ref a), some (.int m), some (.int (n : Int)), some (.int (names : Int)), some (.ref sp), some (.ref aw), some (.ref ae), x7, some (.ref t), some (.int (free : Int)), some (.ref q), some (.ref ap), some (.ref pf), x13, none, none, none, none, none, none, none] ∧ Ex H16 H')
      (fun H17 e17 => ⟨none, none, rfl, e17⟩) (fun i σ' H' _ hP => ?_) (fun i x σ' H' hxi hP => ?_) (fun σ' H17 hP => ?_)
    · obtain ⟨_, _, _, eY⟩ := hP
      exact sq_of (eY _ _ g1)
    · obtain ⟨x7, x13, rfl, eY⟩ := hP
      rw [List.getElem?_map] at hxi
      cases hb : asE[i]? with
      | none => rw [hb] at hxi; cases hxi
      | some b =>
        rw [hb] at hxi
        cases hxi
        have hi : i < E.length := by rw [← g2.1]; exact (List.getElem?_eq_some_iff.mp hb).1
        have hrow := eY _ _ (g2.2 i b _ hb (List.getElem?_eq_getElem hi))
        have hEi : E.getD i [] = E[i] := getD_of (List.getElem?_eq_getElem hi)
        rw [← hEi] at hrow
        have hEil : (E.getD i []).length = n + names := hEW.getD hi
        refine s_forR1 (n := (names : Int)) (ea_cons (ev_var rfl) ea_nil) (by omega) (fun k σ' H'' => ∃ x13, σ' = [some (.ref a), some (.int m), some (.int (n : Int)), some (.int (names : Int)), some (.ref sp), some (.ref aw), some (.ref ae), some (.ref b), some (.ref t), some (.int (free : Int)), some (.ref q), some (.ref ap), some (.ref pf), x13, none, none, none, none, none, none, none] ∧ Ex H16 H'')
          (fun H18 e18 => ⟨x13, rfl, eY.trans e18⟩) (fun k σ' H'' hk hP => ?_) (fun σ' H'' hP => ?_)
        · obtain ⟨y13, rfl, eZ⟩ := hP
          have hkn : k < names := by omega
          have hrow2 : H'' b = some (.lst ((E.getD i []).map V.int)) := by
            have := eZ _ _ (g2.2 i b _ hb (List.getElem?_eq_getElem hi))
            rw [← hEi] at this
            exact this
          obtain ⟨asf2, z1, z2⟩ := (hMf.ex e16).ex eZ
          have hz := put_ok (Pu := Pu) hS hi hkn
          have hbig : ∀ k, ((E.getD i []).getD k 0).natAbs ≤ 1000 := fun k => by
            by_cases h1 : k < n
            · exact Nat.le_trans (hEb i k h1) (by decide)
            · by_cases h2 : k < n + names
              · have := hEcb i (k - n) (by omega)
                rw [show n + (k - n) = k by omega] at this
                exact Nat.le_trans this (by decide)
              · rw [getD_out (by omega)]
                exact Nat.zero_le _
          refine s_when (b := !decide ((S n fun u => at2 E i u * at2 (putT free names rows Pu) u k) + at2 E i (n + k) = 0)) (et_test (ev_op (ev_add (ev_call2L (ys := (List.range n).map fun u => at2 (putT free names rows Pu) u k) (ev_var rfl) (el_lcLi _ (ev_var rfl) (sq_of z1) (by rw [List.length_map, List.length_range, List.length_map, z2.1, hFl]) (by rw [List.length_map, z2.1]; omega) (fun x => rfl) (fun u x rr H18 e18 hxu hru => ?_)) (fun qq H18 e18 hqq => ?_)) ?_) ev_c rv_neN)) (fun hbb => ?_) (fun _ H18 e18 => ⟨_, rfl, eZ.trans e18⟩)
          · have hu : u < n := by
              have := (List.getElem?_eq_some_iff.mp hru).1
              rw [List.length_map, List.length_range] at this
              exact this
            obtain ⟨bb, hb1, hb2⟩ := z2.row (k := u) (by omega)
            rw [refs_at hb1] at hxu
            rw [List.getElem?_map, List.getElem?_range hu] at hru
            cases hxu
            cases hru
            exact ev_ixI (ev_var rfl) (sq_of (e18 _ _ hb2)) (ev_var rfl) (by rw [putT_wid.getD (by omega)]; exact hkn)
          · have := sv_su (K := K) (a := b) (b := qq) (xs := E.getD i []) (ys := (List.range n).map fun u => at2 (putT free names rows Pu) u k) (m := n) (sq_of (e18 _ _ hrow2)) (sq_of hqq) (by rw [List.length_map, List.length_range, hEil]; omega) (by omega) hbig
            rw [S_congr (n := n) (f := fun u => (E.getD i []).getD u 0 * ((List.range n).map fun u => at2 (putT free names rows Pu) u k).getD u 0) (g := fun u => at2 E i u * at2 (putT free names rows Pu) u k) fun u hu => by rw [getD_map_range hu]; rfl] at this
            exact this
          · refine ev_op (ev_var rfl) (ev_add (i := (n : Int)) (j := (k : Int)) (ev_var rfl) (ev_var rfl)) (rv_ixL (v := .int (at2 E i (n + k))) (sq_of hrow2) ?_)
            have e0 : (n : Int) + (k : Int) = ((n + k : Nat) : Int) := by omega
            rw [e0]
            exact atI_nat (ints_at (by omega))
          · rw [decide_eq_true hz] at hbb
            cases hbb
        · obtain ⟨y13, rfl, eZ⟩ := hP
          exact ⟨_, _, rfl, eZ⟩
    obtain ⟨x7, x13, rfl, e17⟩ := hP
    have e1217 := e1216.trans e17
    have hMr17 := hMr12.ex e1217
    have hMf17 := (hMf.ex e16).ex e17
    -- met_by
    refine q_test (tcall_4N (P := fun p H' => Mat H' p rows) (P' := fun p H' => Mat H' p (putT free names rows Pu)) (em_copy (ev_var rfl) hMr17 (by omega) (fun x => rfl) (fun x => rfl)) (ev_var rfl) (ev_var rfl) (em_copy (ev_var rfl) hMf17 (by omega) (fun x => rfl) (fun x => rfl)) (fun pr2 pf2 H18 H19 e18 e19 hMr18 hMf19 => ?_))
    have e1219 := (e1217.trans e18).trans e19
    refine ⟨pr2, pf2, rows, putT free names rows Pu, Pu, free, names, eA, 0 + min r (n - 1), 8593 + 5, rfl, hMr18.ex e19, hMf19, by omega, by omega, by omega, hS.wid, by rw [putT_len], putT_wid, hPl, hWP, fun u b hu hb => ?_, fun y hy => hS.ind y (fun u hu => hy u (by omega)), growA, hrb1, fun u b hu hb => put_bd (by omega) (fun j hj => hrb2 u j hu hj) (fun j => hPb j b) hu hb, ?_, by decide, hT12.ext e1219, fun pm H20 hMm eN20 hT20 => ?_⟩
    · rw [putT_at hu hb]
      rfl
    · rw [show 0 + min r (n - 1) + (free - 1) = 0 + (n - 1) by omega]
      omega
    refine ev_var rfl H20 (Ex.refl H20) _ fun H21 e21 => ?_
    have eN21 : ExtN H12 H21 := ((ExtN.of e1219).trans eN20).trans (ExtN.of e21)
    refine ⟨dM Pu, dM Pu, dp_dM (hMm.ex e21), dp_dM (hMP12.exn eN21), sh_dM _, sh_dM _, ?_⟩
    rw [eqv_dM]
    refine ⟨false, rfl, iteF ?_⟩
    have eN0 : ExtN H H21 := eN12.trans eN21
    have hx21 := exn_sq eN0 hx
    have hME21 : Mat H21 ae E := hME12.exn eN21
    have hT21 := hT20.ext e21
    -- some
    refine q_asgL (el_lcR1 (n := (n : Int)) (fun i => decide (0 < numF ns (190 + (i : Int)) % 3)) (fun i => .int (i : Int)) (ea_cons (ev_var rfl) ea_nil) (by omega) (fun x => rfl) (fun i H' e' hi => et_test (ev_gt (ev_mod (ev_call (dvs := []) (ea_cons (ev_var rfl) (ea_cons (ev_add ev_c (ev_var rfl)) ea_nil)) (sv_nm (ex_l e' hx21) (by omega) (by omega))) ev_c (by decide)) ev_c)) (fun i H' e' hi _ => ev_var rfl)) (fun ps H22 nps e22 hps => ?_)
    rw [Int.toNat_natCast] at hps
    obtain ⟨s0, hs0⟩ : ∃ s0 : List Nat, s0 = (List.range n).filter fun (i : Nat) => decide (0 < numF ns (190 + (i : Int)) % 3) := ⟨_, rfl⟩
    have hps' : H22 ps = some (.lst (nU s0)) := by
      rw [hps, hs0]
      rfl
    have hs0m : ∀ u, u ∈ s0 → u < n := fun u hu => by
      rw [hs0] at hu
      exact List.mem_range.mp (List.mem_filter.mp hu).1
    have hs0l : s0.length ≤ 6 := by
      rw [hs0]
      have := List.length_filter_le (fun (i : Nat) => decide (0 < numF ns (190 + (i : Int)) % 3)) (List.range n)
      rw [List.length_range] at this
      omega
    have hMx : ∃ M : Int, 1 ≤ M ∧ M = (if (s0.length : Int) > 1 then (s0.length : Int) else 1) := ⟨_, by split <;> omega, rfl⟩
    obtain ⟨M, hM1', hMe⟩ := hMx
    refine q_asg (v := .int (m % M)) (ev_mod (ev_var rfl) (by rw [hMe]; exact ev_max2 ev_c (rc_len (sq_of hps') (by rw [List.length_map]) (ev_var rfl))) (by omega)) (fun H23 e23 => ?_)
    have ho0 : 0 ≤ m % M := Int.emod_nonneg _ (by omega)
    obtain ⟨at_, hat⟩ : ∃ at_ : Nat, m % M = (at_ : Int) := ⟨(m % M).toNat, by omega⟩
    rw [hat]
    refine q_asgL (xs := nU (s0.drop at_ ++ s0.take at_)) (by
      have e0 : nU (s0.drop at_ ++ s0.take at_) = cutV (nU s0) (some (at_ : Int)) none ++ cutV (nU s0) none (some (at_ : Int)) := by
        show List.map (fun (u : Nat) => V.int (u : Int)) (s0.drop at_ ++ s0.take at_) = _
        rw [List.map_append, cut_drop, cut_take, List.map_drop, List.map_take]
      rw [e0]
      exact el_cat (el_sl (ev_var rfl) (eo_some (ev_var rfl)) eo_none (sq_of (e23 _ _ hps'))) (el_sl (ev_var rfl) eo_none (eo_some (ev_var rfl)) (sq_of (e23 _ _ hps'))) (by
        rw [cut_drop, cut_take, List.length_drop, List.length_take, List.length_map]
        omega)) (fun pS H24 npS e24 hpS => ?_)
    generalize hsm : s0.drop at_ ++ s0.take at_ = sm at *
    have hsmm : ∀ u, u ∈ sm → u < n := fun u hu => by
      rw [← hsm] at hu
      rcases List.mem_append.mp hu with hu | hu
      · exact hs0m u (List.mem_of_mem_drop hu)
      · exact hs0m u (List.mem_of_mem_take hu)
    have hsml : sm.length ≤ 12 := by
      rw [← hsm, List.length_append, List.length_drop, List.length_take]
      omega
    have e2124 := (e22.trans e23).trans e24
    -- the first form
    refine q_raw (tcall_A (ea_cons (ev_var rfl) (ea_cons (ev_var rfl) (ea_cons (ev_var rfl) (ea_cons (ev_var rfl) ea_nil)))) (fun H25 e25 => ⟨ae, pS, n, names, E, sm, eA, 6, rfl, (hME21.ex e2124).ex e25, hEW, by omega, hn6, by omega, e25 _ _ hpS, hsmm, by omega, growA, hEA, hEg, ⟨fun b u => at2 W u b, hEv⟩, fun _ => by omega, by omega, by decide, .inl (by omega), hT21.ext (e2124.trans e25), fun t1 q1 N1 r1 ps1 free1 rows1 H26 ht1 hMN1 hS1 hN1 eN26 hT26 => ?_⟩))
    have eN2126 : ExtN H21 H26 := (ExtN.of (e2124.trans e25)).trans eN26
    have hME26 := hME21.exn eN2126
    -- the other system
    refine q_raw (tcall_A (ea_cons (ev_var rfl) (ea_cons (ev_var rfl) ea_nil)) (fun H27 e27 => ⟨a, ae, ns, E, n + names, rfl, ex_l e27 (exn_sq (eN0.trans eN2126) hx), hME26.ex e27, hEW, by omega, by omega, fun p1 E1 H28 np1 hM1 hO e28 => ?_⟩))
    have e2628 := e27.trans e28
    have hO3 : (3 : Nat) ^ 5 = 243 := by decide
    have hOb : ∀ i k, k < n → (at2 E1 i k).natAbs ≤ 2 ^ eB 0 := fun i k hk => by
      have := hO.bd k 2 (fun i => hEb i k hk) i
      rw [hO3] at this
      exact Nat.le_trans this (by decide)
    have hOg : ∀ i k, k < names → (at2 E1 i (n + k)).natAbs ≤ 2 ^ 14 := fun i k hk => by
      have := hO.bd (n + k) 36 (fun i => hEcb i k hk) i
      rw [hO3] at this
      exact Nat.le_trans this (by decide)
    have hOl := hO.len
    have hsame := hO.same
    obtain ⟨rr, hrr1, hrr2, _⟩ := hS1.cnt
    have hB1 := eB_le hn6
    have hB2 := eB_le2 hn6
    have ht1' := e2628 _ _ ht1
    have hMN1' := hMN1.ex e2628
    refine s_raw ?_
    show (tVar 16) _ H28 _
    refine ev_var rfl H28 (Ex.refl H28) _ fun H29 e29 => ⟨true, rfl, iteT ?_⟩
    refine tcall_A (ea_cons (ev_var rfl) (ea_cons (ev_var rfl) (ea_cons (ev_var rfl) (ea_cons (ev_var rfl) ea_nil)))) (fun H30 e30 => ⟨p1, pS, n, names, E1, sm, eB, 14, rfl, (hM1.ex e29).ex e30, hO.wid, by omega, hn6, by omega, e30 _ _ (e29 _ _ (e2628 _ _ (exn_lst eN26 (e25 _ _ hpS)))), hsmm, by omega, growB, fun i k _ hk => hOb i k hk, fun i k _ hk => hOg i k hk, ⟨fun b u => at2 W u b, fun b hb => same_par hsame hb (hEv b hb)⟩, fun _ => hB2, by omega, by decide, ?_, hT26.ext ((e2628.trans e29).trans e30), fun t3 q3 N3 r3 ps3 free3 rows3 H31 ht3 hMN3 hS3 hN3 eN31 hT31 => ?_⟩)
    · by_cases h5 : n ≤ 5
      · exact .inl (eB_le5 h5)
      · have hf1 : 0 < free1 := by omega
        refine .inr ⟨⟨fun u => at2 rows1 u 0, ?_, same_ker hsame (hS1.ker 0 hf1)⟩, r1, fun k i => at2 N1 i k, ps1, hN1.nf.1, fun free3 rows3 hS3 => ⟨(pick_span hS3 hS1 hsame.symm hsmm).trans hN1.sp', hN1.sp.trans (pick_span hS1 hS3 hsame hsmm)⟩, fun k hk => hN1.pb k (by have := hN1.nf.2.1; omega)⟩
        by_cases z : ∃ u, u < n ∧ at2 rows1 u 0 ≠ 0
        · exact z
        · have := hS1.ind (unit 0) (fun u hu => S_zero fun j hj => by
            by_cases z2 : j = 0
            · rw [z2]
              by_cases z3 : at2 rows1 u 0 = 0
              · rw [z3, Int.mul_zero]
              · exact absurd ⟨u, hu, z3⟩ z
            · show (if j = 0 then (1 : Int) else 0) * _ = 0
              rw [if_neg z2, Int.zero_mul]) 0 hf1
          have e1 : unit 0 0 = 1 := rfl
          omega
    refine ev_var rfl H31 (Ex.refl H31) _ fun H32 e32 => ?_
    obtain ⟨er, eN⟩ := form_same hS1 hS3 hsame hsmm hN1 hN3
    subst er
    subst eN
    have eN2832 : ExtN H28 H32 := ((ExtN.of (e29.trans e30)).trans eN31).trans (ExtN.of e32)
    refine ⟨_, _, dp_tup2 (e32 _ _ ht3) (hMN3.ex e32), dp_tup2 (exn_tup eN2832 ht1') (hMN1'.exn eN2832), sh_tup _ _, sh_tup _ _, ?_⟩
    rw [eqv_tup]
    exact hQ H32
end
end Mw

-- MwEnd
set_option Elab.async false
set_option linter.all false
set_option maxRecDepth 100000
set_option maxHeartbeats 8000000
namespace Mw
open PySem PySem.Spec PyProof.Rows L2 LamX
theorem bind_nw {K : PySem.W.Frag} {T : Addr} {oT : Obj} {v9 : Value} {n9 : Nat} {kV9 dc9 pm9 cd9 ct9 : Value} {an9 : Option Addr} (t1 : K.lookup T = some oT) (t2 : oT.data = .seq [v9].toArray n9) : Binds K (PySem.W.fnOf "need_whole" "need_whole" (defArgs sNw) (defBody sNw) (defScope sNw) (.ref T) kV9 dc9 pm9 an9 cd9 ct9) ["thing", "least", "most"] [] := fun s us X hlen => match us, hlen with
    | [u0, u1, u2], _ => BindsTo.of_looks fun M => by
      unfold bindArgs
      refine looks_items (o := oT) (its := [v9].toArray) (n := n9) X t1 t2 ?_
      refine .of_pure ?_
      kernel_rfl
theorem end_mk {w : World} {K : PySem.W.Frag} {h : Heap} {mg : Str → Option Value} {fa : Addr} (X : K.In h) (G : h.Ns mainGlobals mg) (hfa : mg "law" = some (.ref fa))
    {f1 : Addr} {od1 an1 : Option Addr} {sl1 : Array (Option Value)} {oc1 kV1 dc1 pm1 ct1 : Value} {cd1 : Value}
    (a1 : PySem.W.nsIn K mainGlobals "added" = some (some (.ref f1))) (l1 : K.lookup f1 = some ⟨oc1, od1, .func (PySem.W.fnOf "added" "added" (defArgs sAdded) (defBody sAdded) (defScope sAdded) .none kV1 dc1 pm1 an1 cd1 ct1), sl1⟩) (c1 : PySem.W.codeIn K cd1 "added" = true) (k1 : PySem.W.keepIn K (.ref f1) = true)
    {f2 : Addr} {od2 an2 : Option Addr} {sl2 : Array (Option Value)} {oc2 kV2 dc2 pm2 ct2 : Value} {cc2 P2 : Addr}
    (a2 : PySem.W.nsIn K mainGlobals "made_single" = some (some (.ref f2))) (l2 : K.lookup f2 = some ⟨oc2, od2, .func (PySem.W.fnOf "made_single" "made_single" (defArgs sMs) (defBody sMs) (defScope sMs) .none kV2 dc2 pm2 an2 (.ref cc2) ct2), sl2⟩) (c2 : PySem.W.codeIn K (.ref cc2) "made_single" = true) (k2 : PySem.W.keepIn K (.ref f2) = true)
    {f3 : Addr} {od3 an3 : Option Addr} {sl3 : Array (Option Value)} {oc3 kV3 dc3 pm3 ct3 : Value} {cd3 : Value}
    (a3 : PySem.W.nsIn K mainGlobals "stepped" = some (some (.ref f3))) (l3 : K.lookup f3 = some ⟨oc3, od3, .func (PySem.W.fnOf "stepped" "stepped" (defArgs sSt) (defBody sSt) (defScope sSt) .none kV3 dc3 pm3 an3 cd3 ct3), sl3⟩) (c3 : PySem.W.codeIn K cd3 "stepped" = true) (k3 : PySem.W.keepIn K (.ref f3) = true)
    {f8 : Addr} {od8 an8 : Option Addr} {sl8 : Array (Option Value)} {oc8 kV8 dc8 pm8 ct8 : Value} {cd8 : Value}
    (a8 : PySem.W.nsIn K mainGlobals "is_whole" = some (some (.ref f8))) (l8 : K.lookup f8 = some ⟨oc8, od8, .func (PySem.W.fnOf "is_whole" "is_whole" (defArgs sIw) (defBody sIw) (defScope sIw) .none kV8 dc8 pm8 an8 cd8 ct8), sl8⟩) (c8 : PySem.W.codeIn K cd8 "is_whole" = true) (k8 : PySem.W.keepIn K (.ref f8) = true)
    {f9 : Addr} {od9 an9 : Option Addr} {sl9 : Array (Option Value)} {oc9 kV9 dc9 pm9 ct9 : Value} {cd9 : Value} {T : Addr} {oT : Obj} {v9 : Value} {n9 : Nat}
    (a9 : PySem.W.nsIn K mainGlobals "need_whole" = some (some (.ref f9))) (l9 : K.lookup f9 = some ⟨oc9, od9, .func (PySem.W.fnOf "need_whole" "need_whole" (defArgs sNw) (defBody sNw) (defScope sNw) (.ref T) kV9 dc9 pm9 an9 cd9 ct9), sl9⟩) (c9 : PySem.W.codeIn K cd9 "need_whole" = true) (k9 : PySem.W.keepIn K (.ref f9) = true)
    {f19 : Addr} {od19 an19 : Option Addr} {sl19 : Array (Option Value)} {oc19 kV19 dc19 pm19 ct19 : Value} {cd19 : Value}
    (a19 : PySem.W.nsIn K mainGlobals "need_equations" = some (some (.ref f19))) (l19 : K.lookup f19 = some ⟨oc19, od19, .func (PySem.W.fnOf "need_equations" "need_equations" (defArgs sNe) (defBody sNe) (defScope sNe) .none kV19 dc19 pm19 an19 cd19 ct19), sl19⟩) (c19 : PySem.W.codeIn K cd19 "need_equations" = true) (k19 : PySem.W.keepIn K (.ref f19) = true)
    {f20 : Addr} {od20 an20 : Option Addr} {sl20 : Array (Option Value)} {oc20 kV20 dc20 pm20 ct20 : Value} {cd20 : Value}
    (a20 : PySem.W.nsIn K mainGlobals "column_of" = some (some (.ref f20))) (l20 : K.lookup f20 = some ⟨oc20, od20, .func (PySem.W.fnOf "column_of" "column_of" (defArgs sCo) (defBody sCo) (defScope sCo) .none kV20 dc20 pm20 an20 cd20 ct20), sl20⟩) (c20 : PySem.W.codeIn K cd20 "column_of" = true) (k20 : PySem.W.keepIn K (.ref f20) = true)
    {f25 : Addr} {od25 an25 : Option Addr} {sl25 : Array (Option Value)} {oc25 kV25 dc25 pm25 ct25 : Value} {cd25 : Value}
    (a25 : PySem.W.nsIn K mainGlobals "steps_for" = some (some (.ref f25))) (l25 : K.lookup f25 = some ⟨oc25, od25, .func (PySem.W.fnOf "steps_for" "steps_for" (defArgs sSf) (defBody sSf) (defScope sSf) .none kV25 dc25 pm25 an25 cd25 ct25), sl25⟩) (c25 : PySem.W.codeIn K cd25 "steps_for" = true) (k25 : PySem.W.keepIn K (.ref f25) = true)
    {f26 : Addr} {od26 an26 : Option Addr} {sl26 : Array (Option Value)} {oc26 kV26 dc26 pm26 ct26 : Value} {cd26 : Value}
    (a26 : PySem.W.nsIn K mainGlobals "solved" = some (some (.ref f26))) (l26 : K.lookup f26 = some ⟨oc26, od26, .func (PySem.W.fnOf "solved" "solved" (defArgs sSo) (defBody sSo) (defScope sSo) .none kV26 dc26 pm26 an26 cd26 ct26), sl26⟩) (c26 : PySem.W.codeIn K cd26 "solved" = true) (k26 : PySem.W.keepIn K (.ref f26) = true)
    {f28 : Addr} {od28 an28 : Option Addr} {sl28 : Array (Option Value)} {oc28 kV28 dc28 pm28 ct28 : Value} {cd28 : Value}
    (a28 : PySem.W.nsIn K mainGlobals "put_in" = some (some (.ref f28))) (l28 : K.lookup f28 = some ⟨oc28, od28, .func (PySem.W.fnOf "put_in" "put_in" (defArgs sPi) (defBody sPi) (defScope sPi) .none kV28 dc28 pm28 an28 cd28 ct28), sl28⟩) (c28 : PySem.W.codeIn K cd28 "put_in" = true) (k28 : PySem.W.keepIn K (.ref f28) = true)
    {f29 : Addr} {od29 an29 : Option Addr} {sl29 : Array (Option Value)} {oc29 kV29 dc29 pm29 ct29 : Value} {cd29 : Value}
    (a29 : PySem.W.nsIn K mainGlobals "met_by" = some (some (.ref f29))) (l29 : K.lookup f29 = some ⟨oc29, od29, .func (PySem.W.fnOf "met_by" "met_by" (defArgs sMb) (defBody sMb) (defScope sMb) .none kV29 dc29 pm29 an29 cd29 ct29), sl29⟩) (c29 : PySem.W.codeIn K cd29 "met_by" = true) (k29 : PySem.W.keepIn K (.ref f29) = true)
    {f31 : Addr} {od31 an31 : Option Addr} {sl31 : Array (Option Value)} {oc31 kV31 dc31 pm31 ct31 : Value} {cd31 : Value}
    (a31 : PySem.W.nsIn K mainGlobals "reduced" = some (some (.ref f31))) (l31 : K.lookup f31 = some ⟨oc31, od31, .func (PySem.W.fnOf "reduced" "reduced" (defArgs sRd) (defBody sRd) (defScope sRd) .none kV31 dc31 pm31 an31 cd31 ct31), sl31⟩) (c31 : PySem.W.codeIn K cd31 "reduced" = true) (k31 : PySem.W.keepIn K (.ref f31) = true)
    {f32 : Addr} {od32 an32 : Option Addr} {sl32 : Array (Option Value)} {oc32 kV32 dc32 pm32 ct32 : Value} {cd32 : Value}
    (a32 : PySem.W.nsIn K mainGlobals "normal" = some (some (.ref f32))) (l32 : K.lookup f32 = some ⟨oc32, od32, .func (PySem.W.fnOf "normal" "normal" (defArgs sNo) (defBody sNo) (defScope sNo) .none kV32 dc32 pm32 an32 cd32 ct32), sl32⟩) (c32 : PySem.W.codeIn K cd32 "normal" = true) (k32 : PySem.W.keepIn K (.ref f32) = true)
    {f34 : Addr} {od34 an34 : Option Addr} {sl34 : Array (Option Value)} {oc34 kV34 dc34 pm34 ct34 : Value} {cd34 : Value}
    (a34 : PySem.W.nsIn K mainGlobals "_law_mixed" = some (some (.ref f34))) (l34 : K.lookup f34 = some ⟨oc34, od34, .func (PySem.W.fnOf "_law_mixed" "_law_mixed" (defArgs sMx) (defBody sMx) (defScope sMx) .none kV34 dc34 pm34 an34 cd34 ct34), sl34⟩) (c34 : PySem.W.codeIn K cd34 "_law_mixed" = true) (k34 : PySem.W.keepIn K (.ref f34) = true)
    {f35 : Addr} {od35 an35 : Option Addr} {sl35 : Array (Option Value)} {oc35 kV35 dc35 pm35 ct35 : Value} {cd35 : Value}
    (a35 : PySem.W.nsIn K mainGlobals "_law_number" = some (some (.ref f35))) (l35 : K.lookup f35 = some ⟨oc35, od35, .func (PySem.W.fnOf "_law_number" "_law_number" (defArgs sNm) (defBody sNm) (defScope sNm) .none kV35 dc35 pm35 an35 cd35 ct35), sl35⟩) (c35 : PySem.W.codeIn K cd35 "_law_number" = true) (k35 : PySem.W.keepIn K (.ref f35) = true)
    {f36 : Addr} {od36 an36 : Option Addr} {sl36 : Array (Option Value)} {oc36 kV36 dc36 pm36 ct36 : Value} {cd36 : Value}
    (a36 : PySem.W.nsIn K mainGlobals "_law_whole" = some (some (.ref f36))) (l36 : K.lookup f36 = some ⟨oc36, od36, .func (PySem.W.fnOf "_law_whole" "_law_whole" (defArgs sWh) (defBody sWh) (defScope sWh) .none kV36 dc36 pm36 an36 cd36 ct36), sl36⟩) (c36 : PySem.W.codeIn K cd36 "_law_whole" = true) (k36 : PySem.W.keepIn K (.ref f36) = true)
    {f37 : Addr} {od37 an37 : Option Addr} {sl37 : Array (Option Value)} {oc37 kV37 dc37 pm37 ct37 : Value} {cd37 : Value}
    (a37 : PySem.W.nsIn K mainGlobals "_law_wholes" = some (some (.ref f37))) (l37 : K.lookup f37 = some ⟨oc37, od37, .func (PySem.W.fnOf "_law_wholes" "_law_wholes" (defArgs sWs) (defBody sWs) (defScope sWs) .none kV37 dc37 pm37 an37 cd37 ct37), sl37⟩) (c37 : PySem.W.codeIn K cd37 "_law_wholes" = true) (k37 : PySem.W.keepIn K (.ref f37) = true)
    {f38 : Addr} {od38 an38 : Option Addr} {sl38 : Array (Option Value)} {oc38 kV38 dc38 pm38 ct38 : Value} {cd38 : Value}
    (a38 : PySem.W.nsIn K mainGlobals "_law_drawn" = some (some (.ref f38))) (l38 : K.lookup f38 = some ⟨oc38, od38, .func (PySem.W.fnOf "_law_drawn" "_law_drawn" (defArgs sDr) (defBody sDr) (defScope sDr) .none kV38 dc38 pm38 an38 cd38 ct38), sl38⟩) (c38 : PySem.W.codeIn K cd38 "_law_drawn" = true) (k38 : PySem.W.keepIn K (.ref f38) = true)
    {f39 : Addr} {od39 an39 : Option Addr} {sl39 : Array (Option Value)} {oc39 kV39 dc39 pm39 ct39 : Value} {cd39 : Value}
    (a39 : PySem.W.nsIn K mainGlobals "_law_sum" = some (some (.ref f39))) (l39 : K.lookup f39 = some ⟨oc39, od39, .func (PySem.W.fnOf "_law_sum" "_law_sum" (defArgs sSu) (defBody sSu) (defScope sSu) .none kV39 dc39 pm39 an39 cd39 ct39), sl39⟩) (c39 : PySem.W.codeIn K cd39 "_law_sum" = true) (k39 : PySem.W.keepIn K (.ref f39) = true)
    {f40 : Addr} {od40 an40 : Option Addr} {sl40 : Array (Option Value)} {oc40 kV40 dc40 pm40 ct40 : Value} {cd40 : Value}
    (a40 : PySem.W.nsIn K mainGlobals "_law_fulfilled" = some (some (.ref f40))) (l40 : K.lookup f40 = some ⟨oc40, od40, .func (PySem.W.fnOf "_law_fulfilled" "_law_fulfilled" (defArgs sFu) (defBody sFu) (defScope sFu) .none kV40 dc40 pm40 an40 cd40 ct40), sl40⟩) (c40 : PySem.W.codeIn K cd40 "_law_fulfilled" = true) (k40 : PySem.W.keepIn K (.ref f40) = true)
    {f41 : Addr} {od41 an41 : Option Addr} {sl41 : Array (Option Value)} {oc41 kV41 dc41 pm41 ct41 : Value} {cd41 : Value}
    (a41 : PySem.W.nsIn K mainGlobals "_law_otherwise" = some (some (.ref f41))) (l41 : K.lookup f41 = some ⟨oc41, od41, .func (PySem.W.fnOf "_law_otherwise" "_law_otherwise" (defArgs sOt) (defBody sOt) (defScope sOt) .none kV41 dc41 pm41 an41 cd41 ct41), sl41⟩) (c41 : PySem.W.codeIn K cd41 "_law_otherwise" = true) (k41 : PySem.W.keepIn K (.ref f41) = true)
    {f42 : Addr} {od42 an42 : Option Addr} {sl42 : Array (Option Value)} {oc42 kV42 dc42 pm42 ct42 : Value} {cd42 : Value}
    (a42 : PySem.W.nsIn K mainGlobals "_law_form" = some (some (.ref f42))) (l42 : K.lookup f42 = some ⟨oc42, od42, .func (PySem.W.fnOf "_law_form" "_law_form" (defArgs sFo) (defBody sFo) (defScope sFo) .none kV42 dc42 pm42 an42 cd42 ct42), sl42⟩) (c42 : PySem.W.codeIn K cd42 "_law_form" = true) (k42 : PySem.W.keepIn K (.ref f42) = true)
    {f43 : Addr} {od43 an43 : Option Addr} {sl43 : Array (Option Value)} {oc43 kV43 dc43 pm43 ct43 : Value} {cd43 : Value}
    (a43 : PySem.W.nsIn K mainGlobals "law" = some (some (.ref f43))) (l43 : K.lookup f43 = some ⟨oc43, od43, .func (PySem.W.fnOf "law" "law" (defArgs sLw) (defBody sLw) (defScope sLw) .none kV43 dc43 pm43 an43 cd43 ct43), sl43⟩) (c43 : PySem.W.codeIn K cd43 "law" = true) (k43 : PySem.W.keepIn K (.ref f43) = true)
    (hd2 : PySem.W.codeHdIn K cc2 P2 = true) (hn2 : K.lookup P2 = none) (hT2 : h.get? P2 = some { cls := .none, data := .fields #[] })
    (t1 : K.lookup T = some oT) (t2 : oT.data = .seq [v9].toArray n9)
    {tk1 tk2 tk3 : Tok} (g1 : PySem.W.nsIn K mainGlobals "MOST_UNKNOWNS" = some (some (.int 240 tk1))) (g2 : PySem.W.nsIn K mainGlobals "MOST_NAMES" = some (some (.int 6 tk2))) (g3 : PySem.W.nsIn K mainGlobals "MOST_EQUATIONS" = some (some (.int 240 tk3)))
    (z0 : PySem.W.nsIn K mainGlobals "range" = some none) (z1 : PySem.W.nsIn K mainGlobals "len" = some none) (z2 : PySem.W.nsIn K mainGlobals "list" = some none) (z3 : PySem.W.nsIn K mainGlobals "zip" = some none) (z4 : PySem.W.nsIn K mainGlobals "int" = some none) (z5 : PySem.W.nsIn K mainGlobals "bool" = some none) (z6 : PySem.W.nsIn K mainGlobals "isinstance" = some none) (z7 : PySem.W.nsIn K mainGlobals "all" = some none) (z8 : PySem.W.nsIn K mainGlobals "min" = some none) (z9 : PySem.W.nsIn K mainGlobals "abs" = some none) (z10 : PySem.W.nsIn K mainGlobals "max" = some none) (z11 : PySem.W.nsIn K mainGlobals "sum" = some none) (z12 : PySem.W.nsIn K mainGlobals "enumerate" = some none) (z13 : PySem.W.nsIn K mainGlobals "divmod" = some none) :
    LawAtS PySem.Challenge.rw_measurewise_k11_whole_open_and_put_in w K CX0 8 63 "_law_script" mg fa h := by
  have e := hfa.symm.trans (PySem.W.mg_of X G a43)
  cases e
  have F1 := fun_mk (st := sAdded) l1 c1 k1
  have b1 := F1.binds (ps := ["one", "other", "often"]) fun _ _ _ _ _ _ us hl => match us, hl with | [_, _, _], _ => rfl
  have F2 := fun_mk (st := sMs) l2 c2 k2
  have b2 := F2.binds (ps := ["columns", "first", "row"]) fun _ _ _ _ _ _ us hl => match us, hl with | [_, _, _], _ => rfl
  have F3 := fun_mk (st := sSt) l3 c3 k3
  have b3 := F3.binds (ps := ["columns", "rows"]) fun _ _ _ _ _ _ us hl => match us, hl with | [_, _], _ => rfl
  have F8 := fun_mk (st := sIw) l8 c8 k8
  have b8 := F8.binds (ps := ["thing"]) fun _ _ _ _ _ _ us hl => match us, hl with | [_], _ => rfl
  have F19 := fun_mk (st := sNe) l19 c19 k19
  have b19 := F19.binds (ps := ["unknowns", "names", "equations"]) fun _ _ _ _ _ _ us hl => match us, hl with | [_, _, _], _ => rfl
  have F20 := fun_mk (st := sCo) l20 c20 k20
  have b20 := F20.binds (ps := ["equations", "unknowns", "at"]) fun _ _ _ _ _ _ us hl => match us, hl with | [_, _, _], _ => rfl
  have F25 := fun_mk (st := sSf) l25 c25 k25
  have b25 := F25.binds (ps := ["columns", "pivots", "wanted"]) fun _ _ _ _ _ _ us hl => match us, hl with | [_, _, _], _ => rfl
  have F26 := fun_mk (st := sSo) l26 c26 k26
  have b26 := F26.binds (ps := ["unknowns", "names", "equations"]) fun _ _ _ _ _ _ us hl => match us, hl with | [_, _, _], _ => rfl
  have F28 := fun_mk (st := sPi) l28 c28 k28
  have b28 := F28.binds (ps := ["rows", "free", "names", "found"]) fun _ _ _ _ _ _ us hl => match us, hl with | [_, _, _, _], _ => rfl
  have F29 := fun_mk (st := sMb) l29 c29 k29
  have b29 := F29.binds (ps := ["rows", "free", "names", "wanted"]) fun _ _ _ _ _ _ us hl => match us, hl with | [_, _, _, _], _ => rfl
  have F31 := fun_mk (st := sRd) l31 c31 k31
  have b31 := F31.binds (ps := ["columns", "at", "pivot", "numbers"]) fun _ _ _ _ _ _ us hl => match us, hl with | [_, _, _, _], _ => rfl
  have F32 := fun_mk (st := sNo) l32 c32 k32
  have b32 := F32.binds (ps := ["free", "names", "rows"]) fun _ _ _ _ _ _ us hl => match us, hl with | [_, _, _], _ => rfl
  have F34 := fun_mk (st := sMx) l34 c34 k34
  have b34 := F34.binds (ps := ["_law_number_here", "_law_k"]) fun _ _ _ _ _ _ us hl => match us, hl with | [_, _], _ => rfl
  have F35 := fun_mk (st := sNm) l35 c35 k35
  have b35 := F35.binds (ps := ["_law_script", "_law_k"]) fun _ _ _ _ _ _ us hl => match us, hl with | [_, _], _ => rfl
  have F36 := fun_mk (st := sWh) l36 c36 k36
  have b36 := F36.binds (ps := ["_law_found"]) fun _ _ _ _ _ _ us hl => match us, hl with | [_], _ => rfl
  have F37 := fun_mk (st := sWs) l37 c37 k37
  have b37 := F37.binds (ps := ["_law_found", "_law_size"]) fun _ _ _ _ _ _ us hl => match us, hl with | [_, _], _ => rfl
  have F38 := fun_mk (st := sDr) l38 c38 k38
  have b38 := F38.binds (ps := ["_law_script", "_law_spot", "_law_size", "_law_most"]) fun _ _ _ _ _ _ us hl => match us, hl with | [_, _, _, _], _ => rfl
  have F39 := fun_mk (st := sSu) l39 c39 k39
  have b39 := F39.binds (ps := ["_law_row", "_law_values"]) fun _ _ _ _ _ _ us hl => match us, hl with | [_, _], _ => rfl
  have F40 := fun_mk (st := sFu) l40 c40 k40
  have b40 := F40.binds (ps := ["_law_script", "_law_spot", "_law_wanted", "_law_names", "_law_many"]) fun _ _ _ _ _ _ us hl => match us, hl with | [_, _, _, _, _], _ => rfl
  have F41 := fun_mk (st := sOt) l41 c41 k41
  have b41 := F41.binds (ps := ["_law_script", "_law_equations"]) fun _ _ _ _ _ _ us hl => match us, hl with | [_, _], _ => rfl
  have F42 := fun_mk (st := sFo) l42 c42 k42
  have b42 := F42.binds (ps := ["_law_unknowns", "_law_names", "_law_equations", "_law_some"]) fun _ _ _ _ _ _ us hl => match us, hl with | [_, _, _, _], _ => rfl
  have F43 := fun_mk (st := sLw) l43 c43 k43
  have b9 := bind_nw (kV9 := kV9) (dc9 := dc9) (pm9 := pm9) (cd9 := cd9) (ct9 := ct9) (an9 := an9) t1 t2
  have m1 := PySem.W.mg_of X G a1
  have m2 := PySem.W.mg_of X G a2
  have m3 := PySem.W.mg_of X G a3
  have m8 := PySem.W.mg_of X G a8
  have m9 := PySem.W.mg_of X G a9
  have m19 := PySem.W.mg_of X G a19
  have m20 := PySem.W.mg_of X G a20
  have m25 := PySem.W.mg_of X G a25
  have m26 := PySem.W.mg_of X G a26
  have m28 := PySem.W.mg_of X G a28
  have m29 := PySem.W.mg_of X G a29
  have m31 := PySem.W.mg_of X G a31
  have m32 := PySem.W.mg_of X G a32
  have m34 := PySem.W.mg_of X G a34
  have m35 := PySem.W.mg_of X G a35
  have m36 := PySem.W.mg_of X G a36
  have m37 := PySem.W.mg_of X G a37
  have m38 := PySem.W.mg_of X G a38
  have m39 := PySem.W.mg_of X G a39
  have m40 := PySem.W.mg_of X G a40
  have m41 := PySem.W.mg_of X G a41
  have m42 := PySem.W.mg_of X G a42
  have m43 := PySem.W.mg_of X G a43
  have q1 := PySem.W.mg_of X G g1
  have q2 := PySem.W.mg_of X G g2
  have q3 := PySem.W.mg_of X G g3
  have yrange := PySem.W.mg_none_of X G z0
  have ylen := PySem.W.mg_none_of X G z1
  have ylist := PySem.W.mg_none_of X G z2
  have yzip := PySem.W.mg_none_of X G z3
  have yint := PySem.W.mg_none_of X G z4
  have ybool := PySem.W.mg_none_of X G z5
  have yisinstance := PySem.W.mg_none_of X G z6
  have yall := PySem.W.mg_none_of X G z7
  have ymin := PySem.W.mg_none_of X G z8
  have yabs := PySem.W.mg_none_of X G z9
  have ymax := PySem.W.mg_none_of X G z10
  have ysum := PySem.W.mg_none_of X G z11
  have yenumerate := PySem.W.mg_none_of X G z12
  have ydivmod := PySem.W.mg_none_of X G z13
  refine ⟨PySem.W.fnOf "law" "law" (defArgs sLw) (defBody sLw) (defScope sLw) .none kV43 dc43 pm43 an43 cd43 ct43, [(cc2, P2)], spLw K P2, fun p hp => ?_, fun p hp => ?_, fun p hp => ?_, fun s u => .of_eq rfl, fun H a ns hl hb hH hS => ⟨a, ns, rfl, hS, fun p hp => ?_, fun _ => rfl⟩, fun base Xb Gb TB => ?_⟩
  · rw [List.mem_singleton.mp hp]
    exact hT2
  · rw [List.mem_singleton.mp hp]
    exact hn2
  · rw [List.mem_singleton.mp hp]
    exact PySem.W.codeHd_of_K X hd2
  · rw [List.mem_singleton.mp hp]
    exact TabS.nil (hH (cc2, P2) (List.mem_singleton.mpr rfl))
  have tb : TabB base mg cc2 P2 := TB (cc2, P2) (List.mem_singleton.mpr rfl)
  have A1 := ok_added (P := (PySem.Challenge.rw_measurewise_k11_whole_open_and_put_in).prog) (w := w) (mg := mg) (base := base) (k := 0) F1 yzip
  have A2 := ok_ms (P := (PySem.Challenge.rw_measurewise_k11_whole_open_and_put_in).prog) (w := w) l2 c2 F1 b1 m1 yzip yrange ylen ymin yabs tb
  have A3 := ok_st F3 A2 k2 b2 m2 yrange ylen ylist
  have A8 := ok_iw (P := (PySem.Challenge.rw_measurewise_k11_whole_open_and_put_in).prog) (w := w) (mg := mg) (base := base) F8 yisinstance yint ybool
  have A9 := ok_nw (P := (PySem.Challenge.rw_measurewise_k11_whole_open_and_put_in).prog) (w := w) (base := base) l9 c9 F8 b8 m8 yisinstance yint ybool
  have A19 := ok_ne F19 A8 k8 b8 m8 A9 k9 b9 m9 q1 q2 q3 yisinstance ylist ylen yall
  have A20 := ok_co (P := (PySem.Challenge.rw_measurewise_k11_whole_open_and_put_in).prog) (w := w) (mg := mg) (base := base) F20 yrange yint
  have A25 := ok_sf F25 A1 k1 b1 m1 yrange ylen ylist ydivmod
  have A26 := ok_so F26 A19 k19 b19 m19 A3 k3 b3 m3 A20 k20 b20 m20 A25 k25 b25 m25 A1 k1 b1 m1 yrange ylen yzip
  have A28 := ok_pi (P := (PySem.Challenge.rw_measurewise_k11_whole_open_and_put_in).prog) (w := w) (mg := mg) (base := base) F28 yrange yzip ylist
  have A29 := ok_mb F29 A26 k26 b26 m26 yzip ylist
  have A31 := ok_rd F31 A1 k1 b1 m1
  have A32 := ok_no F32 A3 k3 b3 m3 A31 k31 b31 m31 yrange ylen yenumerate
  have A34 := ok_mx (P := (PySem.Challenge.rw_measurewise_k11_whole_open_and_put_in).prog) (w := w) (mg := mg) (base := base) F34
  have A35 := ok_nm F35 A34 k34 b34 m34 ylen
  have A36 := ok_wh (P := (PySem.Challenge.rw_measurewise_k11_whole_open_and_put_in).prog) (w := w) (mg := mg) (base := base) F36 yisinstance yint ybool
  have A37 := ok_ws F37 A36 k36 b36 m36 yisinstance ylist ylen yall
  have A38 := ok_dr F38 A35 k35 b35 m35 yrange yint
  have A39 := ok_su (P := (PySem.Challenge.rw_measurewise_k11_whole_open_and_put_in).prog) (w := w) (mg := mg) (base := base) F39 ysum yzip
  have A40 := ok_fu F40 A38 k38 b38 m38 A39 k39 b39 m39 yrange ylen
  have A41 := ok_ot F41 A35 k35 b35 m35 yrange ylen yzip ylist ymax
  have A42 := ok_fo F42 A26 k26 b26 m26 A32 k32 b32 m32 ylist
  exact ok_lw F43 A35 k35 b35 m35 A38 k38 b38 m38 A40 k40 b40 m40 A26 k26 b26 m26 A28 k28 b28 m28 A37 k37 b37 m37 A39 k39 b39 m39 A29 k29 b29 m29 A42 k42 b42 m42 A41 k41 b41 m41 yrange ylen ylist yall ymax
end Mw
open PySem PySem.W PyProof.Rows
set_option maxRecDepth 100000 in
set_option maxHeartbeats 0 in
theorem PySem.Challenge.cw_measurewise_k11_whole_open_and_put_in_holds : PySem.Challenge.rw_measurewise_k11_whole_open_and_put_in.Holds := by
  w_on; o_law; k_head; (case hw => w_witness2)
  k_fill
  refine LamX.walk_ofTs (l := PySem.Challenge.rw_measurewise_k11_whole_open_and_put_in) (n := 63) (k := 8) (x := "_law_script") (CX := fun _ => L2.CX0) rfl (by decide) rfl ⟨rfl, by decide, by decide⟩ (fun w h Y => PySem.W.km_in_of Y) ?F (fun _ _ _ _ _ h => h)
  case F =>
    intro w mg fa h Y KX G hmg
    refine' Mw.end_mk KX G hmg (P2 := 21) ?a1 ?l1 ?c1 ?k1 ?a2 ?l2 ?c2 ?k2 ?a3 ?l3 ?c3 ?k3 ?a8 ?l8 ?c8 ?k8 ?a9 ?l9 ?c9 ?k9 ?a19 ?l19 ?c19 ?k19 ?a20 ?l20 ?c20 ?k20 ?a25 ?l25 ?c25 ?k25 ?a26 ?l26 ?c26 ?k26 ?a28 ?l28 ?c28 ?k28 ?a29 ?l29 ?c29 ?k29 ?a31 ?l31 ?c31 ?k31 ?a32 ?l32 ?c32 ?k32 ?a34 ?l34 ?c34 ?k34 ?a35 ?l35 ?c35 ?k35 ?a36 ?l36 ?c36 ?k36 ?a37 ?l37 ?c37 ?k37 ?a38 ?l38 ?c38 ?k38 ?a39 ?l39 ?c39 ?k39 ?a40 ?l40 ?c40 ?k40 ?a41 ?l41 ?c41 ?k41 ?a42 ?l42 ?c42 ?k42 ?a43 ?l43 ?c43 ?k43 ?hd2 ?hn2 ?hT2 ?t1 ?t2 ?g1 ?g2 ?g3 ?z0 ?z1 ?z2 ?z3 ?z4 ?z5 ?z6 ?z7 ?z8 ?z9 ?z10 ?z11 ?z12 ?z13
    (case a1 => k_is)
    (case l1 => k_is)
    (case c1 => k_is)
    (case k1 => k_is)
    (case a2 => k_is)
    (case l2 => k_is)
    (case c2 => k_is)
    (case k2 => k_is)
    (case a3 => k_is)
    (case l3 => k_is)
    (case c3 => k_is)
    (case k3 => k_is)
    (case a8 => k_is)
    (case l8 => k_is)
    (case c8 => k_is)
    (case k8 => k_is)
    (case a9 => k_is)
    (case l9 => k_is)
    (case c9 => k_is)
    (case k9 => k_is)
    (case a19 => k_is)
    (case l19 => k_is)
    (case c19 => k_is)
    (case k19 => k_is)
    (case a20 => k_is)
    (case l20 => k_is)
    (case c20 => k_is)
    (case k20 => k_is)
    (case a25 => k_is)
    (case l25 => k_is)
    (case c25 => k_is)
    (case k25 => k_is)
    (case a26 => k_is)
    (case l26 => k_is)
    (case c26 => k_is)
    (case k26 => k_is)
    (case a28 => k_is)
    (case l28 => k_is)
    (case c28 => k_is)
    (case k28 => k_is)
    (case a29 => k_is)
    (case l29 => k_is)
    (case c29 => k_is)
    (case k29 => k_is)
    (case a31 => k_is)
    (case l31 => k_is)
    (case c31 => k_is)
    (case k31 => k_is)
    (case a32 => k_is)
    (case l32 => k_is)
    (case c32 => k_is)
    (case k32 => k_is)
    (case a34 => k_is)
    (case l34 => k_is)
    (case c34 => k_is)
    (case k34 => k_is)
    (case a35 => k_is)
    (case l35 => k_is)
    (case c35 => k_is)
    (case k35 => k_is)
    (case a36 => k_is)
    (case l36 => k_is)
    (case c36 => k_is)
    (case k36 => k_is)
    (case a37 => k_is)
    (case l37 => k_is)
    (case c37 => k_is)
    (case k37 => k_is)
    (case a38 => k_is)
    (case l38 => k_is)
    (case c38 => k_is)
    (case k38 => k_is)
    (case a39 => k_is)
    (case l39 => k_is)
    (case c39 => k_is)
    (case k39 => k_is)
    (case a40 => k_is)
    (case l40 => k_is)
    (case c40 => k_is)
    (case k40 => k_is)
    (case a41 => k_is)
    (case l41 => k_is)
    (case c41 => k_is)
    (case k41 => k_is)
    (case a42 => k_is)
    (case l42 => k_is)
    (case c42 => k_is)
    (case k42 => k_is)
    (case a43 => k_is)
    (case l43 => k_is)
    (case c43 => k_is)
    (case k43 => k_is)
    (case hd2 => kernel_rfl)
    (case hn2 => kernel_rfl)
    (case hT2 => exact PySem.W.km_tabs_of Y 21 (by k_mem))
    (case t1 => k_is)
    (case t2 => exact rfl)
    (case g1 => k_is)
    (case g2 => k_is)
    (case g3 => k_is)
    (case z0 => k_is)
    (case z1 => k_is)
    (case z2 => k_is)
    (case z3 => k_is)
    (case z4 => k_is)
    (case z5 => k_is)
    (case z6 => k_is)
    (case z7 => k_is)
    (case z8 => k_is)
    (case z9 => k_is)
    (case z10 => k_is)
    (case z11 => k_is)
    (case z12 => k_is)
    (case z13 => k_is)


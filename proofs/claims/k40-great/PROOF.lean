import PyProof.Rows.All
import Wide.All
import OpenK.AllK
import Wide.FinOn
import HandS.ForMost
import HandS.Defaults
import HandS.Head0
import HandS.Head1
import HandS.Head2
import HandS.HeadEnd
import HandS.HeadHook1
import HandS.HeadHook2
import HandS.Walk
import HandS.Deep
import HandS.Gcd
import HandS.Wide
import HandS.Flow
import HandS.SortInts
import HandS.SetKeys
import HandS.Strs
import HandS.Conv
import HandS.IsInst
import HandS.DictComp
import HandS.TupAny
import KE.SortData
import KE.DataMinMax
import KE.KDictWalk
import KE.GoesEnum
import HandS.Head3
import HandS.CallRecv
import HandS.HeadWalk
import PySem.Challenge.RW_cushioned_k40_whole_starts_on_great_tabl
set_option Elab.async false
set_option linter.all false
set_option maxRecDepth 100000
set_option maxHeartbeats 0
/-! M1 -/
set_option linter.all false
namespace Cu
/-! sums over the minutes 0, 1, .., n - 1 -/
def S (f : Int → Int) : Nat → Int
  | 0 => 0
  | n + 1 => S f n + f n
theorem S_zero (f : Int → Int) : S f 0 = 0 := rfl
theorem S_succ (f : Int → Int) (n : Nat) : S f (n + 1) = S f n + f n := rfl
theorem S_congr {f g : Int → Int} : ∀ {n : Nat}, (∀ t : Nat, t < n → f t = g t) → S f n = S g n
  | 0, _ => rfl
  | n + 1, h => by rw [S_succ, S_succ, S_congr fun t ht => h t (by omega), h n (by omega)]
theorem S_add (f g : Int → Int) : ∀ n : Nat, S (fun t => f t + g t) n = S f n + S g n
  | 0 => rfl
  | n + 1 => by rw [S_succ, S_succ, S_succ, S_add f g n]; omega
theorem S_split (f : Int → Int) (m : Nat) : ∀ n : Nat, S f (m + n) = S f m + S (fun t => f (m + t)) n
  | 0 => by rw [Nat.add_zero, S_zero, Int.add_zero]
  | n + 1 => by rw [← Nat.add_assoc, S_succ, S_succ, S_split f m n, Int.natCast_add]; omega
theorem S_nonneg {f : Int → Int} (h : ∀ t, 0 ≤ f t) : ∀ n : Nat, 0 ≤ S f n
  | 0 => Int.le_refl 0
  | n + 1 => by rw [S_succ]; have := S_nonneg h n; have := h n; omega
theorem S_one : ∀ n : Nat, S (fun _ => 1) n = n
  | 0 => rfl
  | n + 1 => by rw [S_succ, S_one n]; omega
theorem S_front (f : Int → Int) (n : Nat) : S f (n + 1) = f 0 + S (fun t => f (1 + t)) n := by
  rw [Nat.add_comm, S_split]; simp [S]
/-- a stretch of minutes, read from its end -/
theorem S_back (f : Int → Int) (a : Int) : ∀ d : Nat, S (fun j => f (a + d - 1 - j)) d = S (fun t => f (a + t)) d
  | 0 => rfl
  | d + 1 => by
    rw [S_front, S_succ]
    have h := S_back f a d
    have e : S (fun t => f (a + ((d + 1 : Nat) : Int) - 1 - (1 + t))) d = S (fun j => f (a + (d : Int) - 1 - j)) d := S_congr fun t _ => by
      congr 1; omega
    rw [e, h]
    have e2 : a + ((d + 1 : Nat) : Int) - 1 - 0 = a + d := by omega
    rw [e2]; omega
/-- the numbers below n that leave r -/
theorem S_class {r m : Int} (h0 : 0 ≤ r) (h1 : r < m) : ∀ n : Nat, S (fun t => if t % m = r then 1 else 0) n = if (n : Int) ≤ r then 0 else ((n : Int) - 1 - r) / m + 1
  | 0 => by rw [S_zero, if_pos (by omega)]
  | n + 1 => by
    rw [S_succ, S_class h0 h1 n]
    by_cases c1 : ((n : Int)) < r
    · have e : (n : Int) % m = n := Int.emod_eq_of_lt (by omega) (by omega)
      rw [if_pos (show (n : Int) ≤ r by omega), if_pos (show ((n + 1 : Nat) : Int) ≤ r by omega), e, if_neg (show ¬ (n : Int) = r by omega)]; rfl
    · rw [if_neg (show ¬ (((n + 1 : Nat) : Int) ≤ r) by omega)]
      have e1 : (((n + 1 : Nat) : Int) - 1 - r) = n - r := by omega
      rw [e1]
      by_cases c2 : (n : Int) = r
      · rw [if_pos (show (n : Int) ≤ r by omega), if_pos (show (n : Int) % m = r by rw [c2]; exact Int.emod_eq_of_lt h0 h1), c2, Int.sub_self, Int.zero_ediv]
      · rw [if_neg (show ¬ (n : Int) ≤ r by omega)]
        have hm : 0 < m := by omega
        have key : ((n : Int) % m = r) ↔ ((n - r : Int) % m = 0) := by
          have := @Int.emod_eq_emod_iff_emod_sub_eq_zero n m r
          rw [Int.emod_eq_of_lt h0 h1] at this
          exact this
        have e2 : (n : Int) - r = ((n : Int) - 1 - r) + 1 := by omega
        have hk : 0 ≤ (n : Int) - 1 - r := by omega
        by_cases c3 : (n : Int) % m = r
        · rw [if_pos c3]
          have z := key.mp c3
          have d1 := Int.mul_ediv_add_emod ((n : Int) - r) m
          rw [z] at d1
          have d2 := Int.mul_ediv_add_emod ((n : Int) - 1 - r) m
          have b1 := Int.emod_nonneg ((n : Int) - 1 - r) (show m ≠ 0 by omega)
          have b2 := Int.emod_lt_of_pos ((n : Int) - 1 - r) hm
          have e3 : ((n : Int) - r) / m = ((n : Int) - 1 - r) / m + 1 := by
            generalize ((n : Int) - r) / m = x at *
            generalize ((n : Int) - 1 - r) / m = y at *
            generalize ((n : Int) - 1 - r) % m = u at *
            have h5 : m * x = m * y + u + 1 := by omega
            have h6 : m * (x - y) = u + 1 := by rw [Int.mul_sub]; omega
            have : 0 < x - y := by
              apply Int.lt_of_not_ge
              intro hc
              have := Int.mul_le_mul_of_nonneg_left (show x - y ≤ 0 by omega) (show 0 ≤ m by omega)
              omega
            have : x - y < 2 := by
              apply Int.lt_of_not_ge
              intro hc
              have := Int.mul_le_mul_of_nonneg_left hc (show 0 ≤ m by omega)
              omega
            omega
          omega
        · rw [if_neg c3]
          have z : ¬ ((n : Int) - r) % m = 0 := fun q => c3 (key.mpr q)
          have d1 := Int.mul_ediv_add_emod ((n : Int) - r) m
          have d2 := Int.mul_ediv_add_emod ((n : Int) - 1 - r) m
          have b1 := Int.emod_nonneg ((n : Int) - 1 - r) (show m ≠ 0 by omega)
          have b2 := Int.emod_lt_of_pos ((n : Int) - 1 - r) hm
          have b3 := Int.emod_nonneg ((n : Int) - r) (show m ≠ 0 by omega)
          have b4 := Int.emod_lt_of_pos ((n : Int) - r) hm
          have e3 : ((n : Int) - r) / m = ((n : Int) - 1 - r) / m := by
            generalize ((n : Int) - r) / m = x at *
            generalize ((n : Int) - 1 - r) / m = y at *
            generalize ((n : Int) - 1 - r) % m = u at *
            generalize ((n : Int) - r) % m = v at *
            have h6 : m * (x - y) = u + 1 - v := by rw [Int.mul_sub]; omega
            have : -1 < x - y := by
              apply Int.lt_of_not_ge
              intro hc
              have := Int.mul_le_mul_of_nonneg_left hc (show 0 ≤ m by omega)
              omega
            have : x - y < 1 := by
              apply Int.lt_of_not_ge
              intro hc
              have := Int.mul_le_mul_of_nonneg_left hc (show 0 ≤ m by omega)
              omega
            omega
          omega
/-- number_to, _law_many -/
def numTo (last r m : Int) : Int := if r ≤ last then (last - r) / m + 1 else 0
theorem numTo_S {last r m : Int} (h0 : 0 ≤ r) (h1 : r < m) (hl : -1 ≤ last) : numTo last r m = S (fun t => if t % m = r then 1 else 0) (last + 1).toNat := by
  rw [S_class h0 h1]
  have e : (((last + 1).toNat : Nat) : Int) = last + 1 := by omega
  rw [e]
  unfold numTo
  by_cases c : r ≤ last
  · rw [if_pos c, if_neg (by omega), show last + 1 - 1 - r = last - r by omega]
  · rw [if_neg c, if_pos (by omega)]
/-! the first place at which p says yes, from j on -/
def fsti (p : Int → Bool) : Nat → Nat → Nat
  | 0, j => j
  | n + 1, j => if p j then j else fsti p n (j + 1)
theorem fsti_eq (p : Int → Bool) (d : Nat) (hd : p d = true) : ∀ (n j : Nat), j ≤ d → d ≤ j + n → (∀ i : Nat, j ≤ i → i < d → p i = false) → fsti p n j = d
  | 0, j, h1, h2, _ => by show j = d; omega
  | n + 1, j, h1, h2, h3 => by
    show (if p j then j else fsti p n (j + 1)) = d
    by_cases c : j = d
    · subst c; rw [if_pos hd]
    · rw [h3 j (Nat.le_refl _) (by omega)]
      exact fsti_eq p d hd n (j + 1) (by omega) (by omega) fun i hi => h3 i (by omega)
/-- the starts that fall into the stand at minute m: from behind the stand before it -/
def gapS (w : Int → Int) (st : Int → Bool) (F : Nat) (m : Int) : Int := S (fun j => w (m - j)) (fsti (fun j => st (m - j)) F 1)
theorem fsti_ge (p : Int → Bool) : ∀ (n j : Nat), j ≤ fsti p n j
  | 0, j => Nat.le_refl _
  | n + 1, j => by
    show j ≤ (if p j then j else fsti p n (j + 1))
    split
    · exact Nat.le_refl _
    · have := fsti_ge p n (j + 1); omega
theorem gapS_pos {w : Int → Int} (h : ∀ t, 1 ≤ w t) (st : Int → Bool) (F : Nat) (m : Int) : 1 ≤ gapS w st F m := by
  unfold gapS
  have g := fsti_ge (fun j => st (m - j)) F 1
  obtain ⟨n, e⟩ : ∃ n, fsti (fun j => st (m - j)) F 1 = n + 1 := ⟨_, (Nat.succ_pred_eq_of_pos g).symm⟩
  rw [e, S_front]
  have := h (m - 0)
  have := S_nonneg (f := fun t => w (m - (1 + t))) (fun t => by have := h (m - (1 + t)); omega) n
  omega
end Cu
/-! M2 -/
set_option linter.all false
namespace Cu
/-! numbers by places -/
def addAt (f : List Int) (k : Nat) (v : Int) : List Int := f.set k (f.getD k 0 + v)
theorem addAt_get (f : List Int) (k i : Nat) (v : Int) : (addAt f k v)[i]? = if i = k then f[i]?.map (· + v) else f[i]? := by
  unfold addAt
  rw [List.getElem?_set]
  by_cases c : k = i
  · subst c
    rw [if_pos rfl, if_pos rfl]
    by_cases l : k < f.length
    · rw [if_pos l, List.getElem?_eq_getElem l, List.getD_eq_getElem?_getD, List.getElem?_eq_getElem l]; rfl
    · rw [if_neg l, List.getElem?_eq_none (by omega)]; rfl
  · rw [if_neg c, if_neg (fun e => c e.symm)]
theorem addAt_len (f : List Int) (k : Nat) (v : Int) : (addAt f k v).length = f.length := List.length_set
theorem addAt_comm (f : List Int) (k j : Nat) (a b : Int) : addAt (addAt f k a) j b = addAt (addAt f j b) k a := by
  apply List.ext_getElem?
  intro i
  simp only [addAt_get]
  by_cases c1 : i = j <;> by_cases c2 : i = k <;> simp only [c1, c2, if_true, if_false]
  · cases h : f[i]? with
    | none => subst c1; subst c2; simp [h]
    | some x => subst c1; subst c2; simp [h]; omega
  · subst c1; simp [c2]
  · subst c2; simp [c1]
theorem addAt_add (f : List Int) (k : Nat) (a b : Int) : addAt (addAt f k a) k b = addAt f k (a + b) := by
  apply List.ext_getElem?
  intro i
  simp only [addAt_get]
  by_cases c : i = k <;> simp only [c, if_true, if_false]
  · cases h : f[k]? with
    | none => simp
    | some x => simp; omega
theorem addAt_sum : ∀ (f : List Int) (k : Nat) (v : Int), k < f.length → (addAt f k v).sum = f.sum + v
  | [], k, v, h => by simp at h
  | x :: f, 0, v, _ => by
    show (List.set (x :: f) 0 ((x :: f).getD 0 0 + v)).sum = _
    simp; omega
  | x :: f, k + 1, v, h => by
    have ih := addAt_sum f k v (by simpa using h)
    have e : addAt (x :: f) (k + 1) v = x :: addAt f k v := by simp [addAt]
    rw [e, List.sum_cons, List.sum_cons, ih]; omega
def addSt (g : Int → Int) (st : List (Int × Nat)) (f : List Int) : List Int := st.foldl (fun f e => addAt f e.2 (g e.1)) f
theorem addSt_cons (g : Int → Int) (e : Int × Nat) (st : List (Int × Nat)) (f : List Int) : addSt g (e :: st) f = addSt g st (addAt f e.2 (g e.1)) := rfl
theorem addSt_comm (g : Int → Int) (k : Nat) (v : Int) : ∀ (st : List (Int × Nat)) (f : List Int), addAt (addSt g st f) k v = addSt g st (addAt f k v)
  | [], f => rfl
  | e :: st, f => by rw [addSt_cons, addSt_cons, addSt_comm g k v st, addAt_comm]
theorem addSt_len (g : Int → Int) : ∀ (st : List (Int × Nat)) (f : List Int), (addSt g st f).length = f.length
  | [], f => rfl
  | e :: st, f => by rw [addSt_cons, addSt_len g st, addAt_len]
theorem addSt_perm (g : Int → Int) {st st' : List (Int × Nat)} (h : st.Perm st') (f : List Int) : addSt g st f = addSt g st' f :=
  h.foldl_eq' (fun x _ y _ z => addAt_comm z x.2 y.2 (g x.1) (g y.1)) f
theorem addSt_congr {g g' : Int → Int} : ∀ (st : List (Int × Nat)) (f : List Int), (∀ e ∈ st, g e.1 = g' e.1) → addSt g st f = addSt g' st f
  | [], f, _ => rfl
  | e :: st, f, h => by rw [addSt_cons, addSt_cons, h e (List.mem_cons_self ..), addSt_congr st _ fun x hx => h x (List.mem_cons_of_mem _ hx)]
/-- what a place has got in the end -/
def part (g : Int → Int) (j : Nat) : List (Int × Nat) → Int
  | [] => 0
  | e :: st => (if e.2 = j then g e.1 else 0) + part g j st
theorem addSt_get (g : Int → Int) (j : Nat) : ∀ (st : List (Int × Nat)) (f : List Int), (addSt g st f)[j]? = f[j]?.map (· + part g j st)
  | [], f => by show f[j]? = f[j]?.map (· + 0); cases f[j]? <;> simp
  | e :: st, f => by
    rw [addSt_cons, addSt_get g j st, addAt_get]
    show _ = f[j]?.map (· + ((if e.2 = j then g e.1 else 0) + part g j st))
    by_cases c : j = e.2
    · rw [if_pos c, if_pos c.symm]; cases f[j]? with
      | none => rfl
      | some x => simp; omega
    · rw [if_neg c, if_neg (fun q => c q.symm)]; cases f[j]? with
      | none => rfl
      | some x => simp
/-! a run, shared among its stands -/
def runS (Wt : Int → Int) : Int → List (Int × Nat) → List Int → List Int × Int
  | b, [], f => (f, b)
  | b, (m, k) :: r, f => runS Wt (Wt m) r (addAt f k (Wt m - b))
def shared (Wt : Int → Int) (L : Int) : List (Int × Nat) → List Int → List Int
  | [], f => f
  | (m, k) :: r, f => addAt (runS Wt 0 ((m, k) :: r) f).1 k (Wt (L - 1) - (runS Wt 0 ((m, k) :: r) f).2)
def upTo (w : Int → Int) (m : Int) : Int := S w (m + 1).toNat
def lastMin : Int → List (Int × Nat) → Int
  | p, [] => p
  | _, (m, _) :: r => lastMin m r
theorem gap_between {w : Int → Int} {st : Int → Bool} {F : Nat} {p m : Int} (h0 : -1 ≤ p) (hpm : p < m) (hF : m - p ≤ F) (hp : st p = true) (hn : ∀ t, p < t → t < m → st t = false) : gapS w st F m = upTo w m - upTo w p := by
  unfold gapS upTo
  have e : fsti (fun j => st (m - j)) F 1 = (m - p).toNat := by
    refine fsti_eq _ _ ?_ F 1 (by omega) (by omega) fun i h1 h2 => hn _ (by omega) (by omega)
    show st (m - ((m - p).toNat : Int)) = true
    rw [show m - ((m - p).toNat : Int) = p by omega]; exact hp
  rw [e, show (m + 1).toNat = (p + 1).toNat + (m - p).toNat by omega, S_split]
  have b := S_back w (p + 1) (m - p).toNat
  have c : S (fun j => w (p + 1 + ((m - p).toNat : Int) - 1 - j)) (m - p).toNat = S (fun j => w (m - j)) (m - p).toNat := S_congr fun t _ => by congr 1; omega
  have d : S (fun t => w (((p + 1).toNat : Int) + t)) (m - p).toNat = S (fun t => w (p + 1 + t)) (m - p).toNat := S_congr fun t _ => by congr 1; omega
  rw [d, ← b, c]; omega
theorem gap_around {w : Int → Int} {st : Int → Bool} {F : Nat} {L p m : Int} (wper : ∀ t, w (t + L) = w t) (sper : ∀ t, st (t + L) = st t) (h0 : 0 ≤ m) (hmp : m ≤ p) (hpL : p < L) (hF : L ≤ F) (hp : st p = true) (hn : ∀ t, 0 ≤ t → t < m → st t = false) (hn2 : ∀ t, p < t → t < L → st t = false) :
    gapS w st F m = upTo w m + upTo w (L - 1) - upTo w p := by
  unfold gapS upTo
  have e : fsti (fun j => st (m - j)) F 1 = (m + 1).toNat + (L - 1 - p).toNat := by
    refine fsti_eq _ _ ?_ F 1 (by omega) (by omega) fun i h1 h2 => ?_
    · show st (m - (((m + 1).toNat + (L - 1 - p).toNat : Nat) : Int)) = true
      rw [← sper, show m - (((m + 1).toNat + (L - 1 - p).toNat : Nat) : Int) + L = p by omega]; exact hp
    · show st (m - i) = false
      by_cases c : (i : Int) ≤ m
      · exact hn _ (by omega) (by omega)
      · rw [← sper]; exact hn2 _ (by omega) (by omega)
  rw [e, S_split]
  have b1 := S_back w 0 (m + 1).toNat
  have c1 : S (fun j => w (0 + ((m + 1).toNat : Int) - 1 - j)) (m + 1).toNat = S (fun j => w (m - j)) (m + 1).toNat := S_congr fun t _ => by congr 1; omega
  have d1 : S (fun t => w (0 + t)) (m + 1).toNat = S w (m + 1).toNat := S_congr fun t _ => by rw [Int.zero_add]
  have b2 := S_back w (p + 1) (L - 1 - p).toNat
  have c2 : S (fun j => w (p + 1 + ((L - 1 - p).toNat : Int) - 1 - j)) (L - 1 - p).toNat = S (fun t => w (m - (((m + 1).toNat : Int) + t))) (L - 1 - p).toNat := S_congr fun t _ => by
    rw [← wper (m - (((m + 1).toNat : Int) + t))]; congr 1; omega
  have s2 := S_split w (p + 1).toNat (L - 1 - p).toNat
  have d2 : S (fun t => w (((p + 1).toNat : Int) + t)) (L - 1 - p).toNat = S (fun t => w (p + 1 + t)) (L - 1 - p).toNat := S_congr fun t _ => by congr 1; omega
  rw [show (p + 1).toNat + (L - 1 - p).toNat = (L - 1 + 1).toNat by omega] at s2
  rw [c1, d1] at b1
  rw [c2] at b2
  rw [d2] at s2
  omega
theorem runS_eq {w : Int → Int} {st : Int → Bool} {F : Nat} {L : Int} (hF : L ≤ F) : ∀ (r : List (Int × Nat)) (p : Int) (f : List Int), 0 ≤ p → p < L → st p = true →
    (∀ t, p < t → t < L → (st t = true ↔ ∃ k, (t, k) ∈ r)) → (∀ e ∈ r, p < e.1 ∧ e.1 < L) → r.Pairwise (fun a b => a.1 < b.1) →
    runS (upTo w) (upTo w p) r f = (addSt (gapS w st F) r f, upTo w (lastMin p r)) ∧ p ≤ lastMin p r ∧ lastMin p r < L ∧ st (lastMin p r) = true ∧ ∀ t, lastMin p r < t → t < L → st t = false
  | [], p, f, h0, hL, hp, hs, _, _ => ⟨rfl, Int.le_refl _, hL, hp, fun t h1 h2 => by
      cases e : st t with
      | false => rfl
      | true => obtain ⟨k, hk⟩ := (hs t h1 h2).mp e; cases hk⟩
  | (m, k) :: r, p, f, h0, hL, hp, hs, hb, hw => by
    have hm := hb _ (List.mem_cons_self ..)
    have hm1 : p < m := hm.1
    have hm2 : m < L := hm.2
    obtain ⟨q1, q2⟩ := List.pairwise_cons.mp hw
    have sm : st m = true := (hs m hm1 hm2).mpr ⟨k, List.mem_cons_self ..⟩
    have no : ∀ t, p < t → t < m → st t = false := fun t h1 h2 => by
      cases e : st t with
      | false => rfl
      | true =>
        obtain ⟨j, hj⟩ := (hs t h1 (by omega)).mp e
        rcases List.mem_cons.mp hj with z | z
        · have : t = m := (Prod.mk.inj z).1
          omega
        · have : m < t := q1 _ z
          omega
    have g := gap_between (w := w) (F := F) (by omega) hm1 (by omega) hp no
    obtain ⟨i1, i2, i3, i4, i5⟩ := runS_eq (w := w) hF r m (addAt f k (upTo w m - upTo w p)) (by omega) hm2 sm (fun t h1 h2 => by
      rw [hs t (by omega) h2]
      constructor
      · rintro ⟨j, hj⟩
        rcases List.mem_cons.mp hj with z | z
        · have : t = m := (Prod.mk.inj z).1
          omega
        · exact ⟨j, z⟩
      · rintro ⟨j, hj⟩
        exact ⟨j, List.mem_cons_of_mem _ hj⟩) (fun e he => ⟨q1 e he, (hb e (List.mem_cons_of_mem _ he)).2⟩) q2
    refine ⟨?_, Int.le_trans (Int.le_of_lt hm1) i2, i3, i4, i5⟩
    show runS (upTo w) (upTo w m) r (addAt f k (upTo w m - upTo w p)) = _
    rw [i1, addSt_cons, g]; rfl
/-- the stands of a run, in order -/
theorem shared_eq {w : Int → Int} {s : Int → Bool} {F : Nat} {L : Int} (hF : L ≤ F) (wper : ∀ t, w (t + L) = w t) (sper : ∀ t, s (t + L) = s t) {st : List (Int × Nat)} (f : List Int)
    (hs : ∀ t, 0 ≤ t → t < L → (s t = true ↔ ∃ k, (t, k) ∈ st)) (hb : ∀ e ∈ st, 0 ≤ e.1 ∧ e.1 < L) (hw : st.Pairwise fun a b => a.1 < b.1) : shared (upTo w) L st f = addSt (gapS w s F) st f := by
  cases st with
  | nil => rfl
  | cons e r =>
    obtain ⟨m, k⟩ := e
    have hm := hb _ (List.mem_cons_self ..)
    have hm1 : 0 ≤ m := hm.1
    have hm2 : m < L := hm.2
    obtain ⟨q1, q2⟩ := List.pairwise_cons.mp hw
    have sm : s m = true := (hs m hm1 hm2).mpr ⟨k, List.mem_cons_self ..⟩
    obtain ⟨i1, i2, i3, i4, i5⟩ := runS_eq (w := w) hF r m (addAt f k (upTo w m - 0)) hm1 hm2 sm (fun t h1 h2 => by
      rw [hs t (by omega) h2]
      constructor
      · rintro ⟨j, hj⟩
        rcases List.mem_cons.mp hj with z | z
        · have : t = m := (Prod.mk.inj z).1
          omega
        · exact ⟨j, z⟩
      · rintro ⟨j, hj⟩
        exact ⟨j, List.mem_cons_of_mem _ hj⟩) (fun e he => ⟨q1 e he, (hb e (List.mem_cons_of_mem _ he)).2⟩) q2
    have no : ∀ t, 0 ≤ t → t < m → s t = false := fun t h1 h2 => by
      cases e : s t with
      | false => rfl
      | true =>
        obtain ⟨j, hj⟩ := (hs t h1 (by omega)).mp e
        rcases List.mem_cons.mp hj with z | z
        · have : t = m := (Prod.mk.inj z).1
          omega
        · have : m < t := q1 _ z
          omega
    have g := gap_around (w := w) (F := F) wper sper hm1 i2 i3 hF i4 no i5
    show addAt (runS (upTo w) (upTo w m) r (addAt f k (upTo w m - 0))).1 k (upTo w (L - 1) - (runS (upTo w) (upTo w m) r (addAt f k (upTo w m - 0))).2) = _
    rw [i1, addSt_cons]
    show addAt (addSt _ r _) k _ = _
    rw [addSt_comm, addAt_add, g]
    congr 2
    show upTo w m - 0 + (upTo w (L - 1) - upTo w (lastMin m r)) = _
    omega
theorem runS_sum (Wt : Int → Int) : ∀ (r : List (Int × Nat)) (b : Int) (f : List Int), (∀ e ∈ r, e.2 < f.length) → (runS Wt b r f).1.sum = f.sum + ((runS Wt b r f).2 - b) ∧ (runS Wt b r f).1.length = f.length
  | [], b, f, _ => ⟨by show f.sum = f.sum + (b - b); omega, rfl⟩
  | (m, k) :: r, b, f, h => by
    have hk : k < f.length := h _ (List.mem_cons_self ..)
    have ih := runS_sum Wt r (Wt m) (addAt f k (Wt m - b)) fun e he => by rw [addAt_len]; exact h e (List.mem_cons_of_mem _ he)
    show (runS Wt (Wt m) r (addAt f k (Wt m - b))).1.sum = f.sum + ((runS Wt (Wt m) r (addAt f k (Wt m - b))).2 - b) ∧ (runS Wt (Wt m) r (addAt f k (Wt m - b))).1.length = f.length
    rw [addAt_sum f k _ hk, addAt_len] at ih
    exact ⟨by omega, ih.2⟩
theorem shared_sum {Wt : Int → Int} {L : Int} {st : List (Int × Nat)} {f : List Int} (h0 : st ≠ []) (h : ∀ e ∈ st, e.2 < f.length) : (shared Wt L st f).sum = f.sum + Wt (L - 1) := by
  cases st with
  | nil => exact absurd rfl h0
  | cons e r =>
    obtain ⟨m, k⟩ := e
    have hk : k < f.length := h _ (List.mem_cons_self ..)
    obtain ⟨h1, h2⟩ := runS_sum Wt ((m, k) :: r) 0 f h
    show (addAt (runS Wt 0 ((m, k) :: r) f).1 k (Wt (L - 1) - (runS Wt 0 ((m, k) :: r) f).2)).sum = _
    rw [addAt_sum _ _ _ (by rw [h2]; exact hk), h1]; omega
end Cu
/-! M3 -/
set_option linter.all false
namespace Cu
/-! remainders -/
theorem emod_iff {a b n : Int} : a % n = b % n ↔ n ∣ a - b := by
  rw [Int.emod_eq_emod_iff_emod_sub_eq_zero]; exact (Int.dvd_iff_emod_eq_zero).symm
theorem dvd_emod_sub (a n : Int) : n ∣ a % n - a := emod_iff.mp (Int.emod_emod _ _)
theorem dvd_sub_emod (a n : Int) : n ∣ a - a % n := emod_iff.mp (Int.emod_emod _ _).symm
theorem dvd_tr {a b c n : Int} (h1 : n ∣ a - b) (h2 : n ∣ b - c) : n ∣ a - c := by
  have := Int.dvd_add h1 h2
  rwa [show a - b + (b - c) = a - c by omega] at this
theorem dvd_sy {a b n : Int} (h1 : n ∣ a - b) : n ∣ b - a := by
  have := Int.dvd_neg.mpr h1
  rwa [show -(a - b) = b - a by omega] at this
theorem dvd_self_sub (a n : Int) : n ∣ a - a := by rw [Int.sub_self]; exact Int.dvd_zero n
/-- two numbers of one remainder, both below -/
theorem eq_of_rem {a b n : Int} (a0 : 0 ≤ a) (a1 : a < n) (b0 : 0 ≤ b) (b1 : b < n) (h : n ∣ a - b) : a = b := by
  have := emod_iff.mpr h
  rwa [Int.emod_eq_of_lt a0 a1, Int.emod_eq_of_lt b0 b1] at this
/-! Bezout -/
theorem bez (a b : Nat) : ∃ x y : Int, (a : Int) * x + b * y = (Nat.gcd a b : Int) := by
  induction a, b using Nat.gcd.induction with
  | H0 n => exact ⟨0, 1, by simp⟩
  | H1 m n hm ih =>
    obtain ⟨x, y, e⟩ := ih
    refine ⟨y - ((n / m : Nat) : Int) * x, x, ?_⟩
    rw [Nat.gcd_rec m n, ← e]
    have := Int.mul_ediv_add_emod (n : Int) m
    rw [← Int.natCast_ediv, ← Int.natCast_emod] at this
    generalize ((n / m : Nat) : Int) = q at *
    generalize ((n % m : Nat) : Int) = r at *
    rw [← this]; grind
theorem bezI {a b : Int} (ha : 0 ≤ a) (hb : 0 ≤ b) : ∃ x y : Int, a * x + b * y = (Int.gcd a b : Int) := by
  obtain ⟨x, y, e⟩ := bez a.natAbs b.natAbs
  rw [Int.natAbs_of_nonneg ha, Int.natAbs_of_nonneg hb] at e
  exact ⟨x, y, e⟩
abbrev gc (a b : Int) : Int := (Int.gcd a b : Int)
theorem gc_pos {m n : Int} (hm : 0 < m) : 0 < gc m n := by
  have : 0 < Int.gcd m n := Int.gcd_pos_of_ne_zero_left _ (by omega)
  show (0 : Int) < (Int.gcd m n : Int)
  omega
theorem gc_l (m n : Int) : gc m n ∣ m := Int.gcd_dvd_left ..
theorem gc_r (m n : Int) : gc m n ∣ n := Int.gcd_dvd_right ..
theorem gc_parts {m n : Int} (hm : 0 < m) (hn : 0 < n) : ∃ m' n', m = gc m n * m' ∧ n = gc m n * n' ∧ 0 < m' ∧ 0 < n' ∧ m / gc m n = m' ∧ n / gc m n = n' := by
  have g := gc_pos (n := n) hm
  obtain ⟨m', e1⟩ := gc_l m n
  obtain ⟨n', e2⟩ := gc_r m n
  have p1 : 0 < m' := by
    have : 0 < gc m n * m' := by rw [← e1]; exact hm
    exact Int.pos_of_mul_pos_right this (by omega)
  have p2 : 0 < n' := by
    have : 0 < gc m n * n' := by rw [← e2]; exact hn
    exact Int.pos_of_mul_pos_right this (by omega)
  refine ⟨m', n', e1, e2, p1, p2, ?_, ?_⟩
  · conv => lhs; lhs; rw [e1]
    exact Int.mul_ediv_cancel_left _ (by omega)
  · conv => lhs; lhs; rw [e2]
    exact Int.mul_ediv_cancel_left _ (by omega)
/-- the least common multiple, as the text reckons it -/
def lc (m n : Int) : Int := m / gc m n * n
theorem lc_pos {m n : Int} (hm : 0 < m) (hn : 0 < n) : 0 < lc m n := by
  obtain ⟨m', n', _, _, p1, _, d1, _⟩ := gc_parts hm hn
  unfold lc; rw [d1]; exact Int.mul_pos p1 hn
theorem lc_l {m n : Int} (hm : 0 < m) (hn : 0 < n) : m ∣ lc m n := by
  obtain ⟨m', n', e1, e2, _, _, d1, _⟩ := gc_parts hm hn
  unfold lc; rw [d1]
  refine ⟨n', ?_⟩
  conv => lhs; rhs; rw [e2]
  conv => rhs; lhs; rw [e1]
  grind
theorem lc_r {m n : Int} : n ∣ lc m n := ⟨m / gc m n, Int.mul_comm ..⟩
theorem lc_dvd {m n x : Int} (hm : 0 < m) (hn : 0 < n) (h1 : m ∣ x) (h2 : n ∣ x) : lc m n ∣ x := by
  obtain ⟨m', n', e1, e2, p1, p2, d1, _⟩ := gc_parts hm hn
  obtain ⟨u, hu⟩ := h1
  obtain ⟨v, hv⟩ := h2
  obtain ⟨s, t, e⟩ := bezI (Int.le_of_lt hm) (Int.le_of_lt hn)
  unfold lc; rw [d1]
  have g := gc_pos (n := n) hm
  refine ⟨s * v + t * u, ?_⟩
  apply Int.eq_of_mul_eq_mul_left (show gc m n ≠ 0 by omega)
  have k : gc m n * x = m * n * (s * v + t * u) := by
    show (Int.gcd m n : Int) * x = _
    rw [← e, Int.add_mul]
    conv => lhs; lhs; rw [hv]
    conv => lhs; rhs; rw [hu]
    grind
  rw [k]
  conv => lhs; lhs; lhs; rw [e1]
  grind
/-- c is the common number of two classes -/
structure IsCh (a m b n c : Int) : Prop where
  ge : 0 ≤ c
  lt : c < lc m n
  left : m ∣ c - a
  right : n ∣ c - b
theorem IsCh.unique {a m b n c d : Int} (hm : 0 < m) (hn : 0 < n) (h : IsCh a m b n c) (k : IsCh a m b n d) : c = d :=
  eq_of_rem h.ge h.lt k.ge k.lt (lc_dvd hm hn (dvd_tr h.left (dvd_sy k.left)) (dvd_tr h.right (dvd_sy k.right)))
/-- the common number, as the text reckons it by an inverse i -/
theorem IsCh.by_inv {a m b n i x : Int} (hm : 0 < m) (hn : 0 < n) (hd : (b - a) % gc m n = 0) (hi : (n / gc m n) ∣ (m / gc m n) * i - 1) (hx : (n / gc m n) ∣ x - (b - a) / gc m n * i) :
    m ∣ (a + m * x) - a ∧ n ∣ (a + m * x) - b := by
  obtain ⟨m', n', e1, e2, p1, p2, d1, d2⟩ := gc_parts hm hn
  have g := gc_pos (n := n) hm
  rw [d2] at hi hx
  rw [d1] at hi
  obtain ⟨k, hk⟩ := hi
  obtain ⟨l, hl⟩ := hx
  obtain ⟨d, hd⟩ := Int.dvd_of_emod_eq_zero hd
  have ed : (b - a) / gc m n = d := by rw [hd]; exact Int.mul_ediv_cancel_left _ (by omega)
  rw [ed] at hl
  refine ⟨⟨x, by omega⟩, ⟨d * k + m' * l, ?_⟩⟩
  have hb : b = a + gc m n * d := by omega
  have hx' : x = d * i + n' * l := by omega
  have hk' : m' * i = 1 + n' * k := by omega
  rw [hb, hx']
  conv => lhs; lhs; rhs; lhs; rw [e1]
  conv => rhs; lhs; rw [e2]
  generalize gc m n = G at *
  have : m' * (d * i) = d + n' * k * d := by
    rw [show m' * (d * i) = (m' * i) * d by grind, hk']; grind
  grind
theorem IsCh.exists {a m b n : Int} (hm : 0 < m) (hn : 0 < n) (hd : (b - a) % gc m n = 0) : ∃ c, IsCh a m b n c := by
  obtain ⟨m', n', e1, e2, p1, p2, d1, d2⟩ := gc_parts hm hn
  obtain ⟨s, t, e⟩ := bezI (Int.le_of_lt hm) (Int.le_of_lt hn)
  have g := gc_pos (n := n) hm
  have hi : (n / gc m n) ∣ (m / gc m n) * s - 1 := by
    rw [d1, d2]
    refine ⟨-t, ?_⟩
    apply Int.eq_of_mul_eq_mul_left (show gc m n ≠ 0 by omega)
    have k : gc m n * m' * s + gc m n * n' * t = gc m n := by rw [← e1, ← e2]; exact e
    generalize gc m n = G at *
    grind
  obtain ⟨h1, h2⟩ := IsCh.by_inv hm hn hd hi (x := (b - a) / gc m n * s) (dvd_self_sub _ _)
  have lp := lc_pos hm hn
  refine ⟨(a + m * ((b - a) / gc m n * s)) % lc m n, Int.emod_nonneg _ (by omega), Int.emod_lt_of_pos _ lp, ?_, ?_⟩
  · exact dvd_tr (Int.dvd_trans (lc_l hm hn) (dvd_emod_sub _ _)) h1
  · exact dvd_tr (Int.dvd_trans lc_r (dvd_emod_sub _ _)) h2
open Classical in
noncomputable def crt (a m b n : Int) : Int := if h : ∃ c, IsCh a m b n c then Classical.choose h else 0
theorem crt_is {a m b n : Int} (hm : 0 < m) (hn : 0 < n) (hd : (b - a) % gc m n = 0) : IsCh a m b n (crt a m b n) := by
  have h := IsCh.exists hm hn hd
  unfold crt
  rw [dif_pos h]
  exact Classical.choose_spec h
theorem crt_eq {a m b n c : Int} (hm : 0 < m) (hn : 0 < n) (k : IsCh a m b n c) : c = crt a m b n := by
  have h : ∃ c, IsCh a m b n c := ⟨c, k⟩
  unfold crt
  rw [dif_pos h]
  exact k.unique hm hn (Classical.choose_spec h)
/-- no common number where the remainders part -/
theorem IsCh.agree {a m b n c : Int} (h1 : m ∣ c - a) (h2 : n ∣ c - b) : (b - a) % gc m n = 0 := by
  apply Int.emod_eq_zero_of_dvd
  have x := Int.dvd_trans (gc_l m n) h1
  have y := Int.dvd_trans (gc_r m n) h2
  exact dvd_tr (dvd_sy y) x
/-- the common numbers are one class -/
theorem crt_class {a m b n : Int} (hm : 0 < m) (hn : 0 < n) (hd : (b - a) % gc m n = 0) (t : Int) : t % lc m n = crt a m b n ↔ m ∣ t - a ∧ n ∣ t - b := by
  have c := crt_is hm hn hd
  have lp := lc_pos hm hn
  constructor
  · intro e
    have z : lc m n ∣ t - crt a m b n := by rw [← e]; exact dvd_sub_emod _ _
    exact ⟨dvd_tr (Int.dvd_trans (lc_l hm hn) z) c.left, dvd_tr (Int.dvd_trans lc_r z) c.right⟩
  · rintro ⟨h1, h2⟩
    refine crt_eq hm hn ⟨Int.emod_nonneg _ (by omega), Int.emod_lt_of_pos _ lp, ?_, ?_⟩
    · exact dvd_tr (Int.dvd_trans (lc_l hm hn) (dvd_emod_sub _ _)) h1
    · exact dvd_tr (Int.dvd_trans lc_r (dvd_emod_sub _ _)) h2
end Cu
/-! M4 -/
set_option linter.all false
namespace Cu
/-! stands, put on their rounds: (round, (minute, pocket)) -/
abbrev En := Int × (Int × Nat)
abbrev Rd := Int × List (Int × Nat)
def addTo : List Rd → Int → Int × Nat → List Rd
  | [], r, e => [(r, [e])]
  | (q, st) :: rs, r, e => if q = r then (q, st ++ [e]) :: rs else (q, st) :: addTo rs r e
def grp (es : List En) : List Rd := es.foldl (fun rs x => addTo rs x.1 x.2) []
def sel (es : List En) (r : Int) : List (Int × Nat) := (es.filter fun x => decide (x.1 = r)).map (·.2)
theorem sel_snoc_same (es : List En) (r : Int) (e : Int × Nat) : sel (es ++ [(r, e)]) r = sel es r ++ [e] := by
  unfold sel; rw [List.filter_append, List.map_append]; simp
theorem sel_snoc_ne (es : List En) (x : En) (r : Int) (h : x.1 ≠ r) : sel (es ++ [x]) r = sel es r := by
  unfold sel; rw [List.filter_append, List.map_append]; simp [h]
theorem mem_sel {es : List En} {r : Int} {e : Int × Nat} : e ∈ sel es r ↔ (r, e) ∈ es := by
  unfold sel
  rw [List.mem_map]
  constructor
  · rintro ⟨⟨a, b⟩, h1, rfl⟩
    obtain ⟨h2, h3⟩ := List.mem_filter.mp h1
    have : a = r := of_decide_eq_true h3
    subst this; exact h2
  · intro h
    exact ⟨(r, e), List.mem_filter.mpr ⟨h, decide_eq_true rfl⟩, rfl⟩
theorem keys_addTo : ∀ (rs : List Rd) (r : Int) (e : Int × Nat), (addTo rs r e).map (·.1) = if r ∈ rs.map (·.1) then rs.map (·.1) else rs.map (·.1) ++ [r]
  | [], r, e => by simp [addTo]
  | (q, st) :: rs, r, e => by
    by_cases c : q = r
    · subst c; simp [addTo]
    · have ih := keys_addTo rs r e
      have e1 : addTo ((q, st) :: rs) r e = (q, st) :: addTo rs r e := if_neg c
      rw [e1, List.map_cons, ih, List.map_cons]
      have c' : r ≠ q := fun z => c z.symm
      by_cases d : r ∈ rs.map (·.1)
      · rw [if_pos d, if_pos (List.mem_cons_of_mem _ d)]
      · rw [if_neg d, if_neg (fun z => (List.mem_cons.mp z).elim c' d)]; rfl
theorem mem_addTo : ∀ (rs : List Rd) (r : Int) (e : Int × Nat) (p : Rd), (rs.map (·.1)).Nodup → p ∈ addTo rs r e → (p ∈ rs ∧ p.1 ≠ r) ∨ (∃ st, (r, st) ∈ rs ∧ p = (r, st ++ [e])) ∨ (r ∉ rs.map (·.1) ∧ p = (r, [e]))
  | [], r, e, p, _, h => by
    have : p = (r, [e]) := by simpa [addTo] using h
    exact .inr (.inr ⟨by simp, this⟩)
  | (q, st) :: rs, r, e, p, nd, h => by
    obtain ⟨n1, n2⟩ := List.nodup_cons.mp (show (q :: rs.map (·.1)).Nodup from nd)
    by_cases c : q = r
    · subst c
      have e1 : addTo ((q, st) :: rs) q e = (q, st ++ [e]) :: rs := if_pos rfl
      rw [e1] at h
      rcases List.mem_cons.mp h with z | z
      · exact .inr (.inl ⟨st, List.mem_cons_self .., z⟩)
      · exact .inl ⟨List.mem_cons_of_mem _ z, fun y => n1 (y ▸ List.mem_map.mpr ⟨p, z, rfl⟩)⟩
    · have e1 : addTo ((q, st) :: rs) r e = (q, st) :: addTo rs r e := if_neg c
      rw [e1] at h
      rcases List.mem_cons.mp h with z | z
      · exact .inl ⟨z ▸ List.mem_cons_self .., by rw [z]; exact c⟩
      · rcases mem_addTo rs r e p n2 z with ⟨y1, y2⟩ | ⟨st', y1, y2⟩ | ⟨y1, y2⟩
        · exact .inl ⟨List.mem_cons_of_mem _ y1, y2⟩
        · exact .inr (.inl ⟨st', List.mem_cons_of_mem _ y1, y2⟩)
        · refine .inr (.inr ⟨fun y => ?_, y2⟩)
          rcases List.mem_cons.mp (show r ∈ q :: rs.map (·.1) from y) with x | x
          · exact c x.symm
          · exact y1 x
structure Good (es : List En) (rs : List Rd) : Prop where
  nd : (rs.map (·.1)).Nodup
  eq : ∀ p ∈ rs, p.2 = sel es p.1
  key : ∀ r, r ∈ rs.map (·.1) ↔ ∃ e, (r, e) ∈ es
theorem Good.nil : Good [] [] := by
  refine ⟨List.nodup_nil, fun p h => ?_, fun r => ⟨fun h => ?_, fun h => ?_⟩⟩
  · cases h
  · cases h
  · obtain ⟨e, h⟩ := h
    cases h
theorem nodup_snoc {α : Type} {l : List α} {a : α} (h : l.Nodup) (ha : a ∉ l) : (l ++ [a]).Nodup := by
  rw [List.nodup_append]
  refine ⟨h, by simp, fun x hx y hy e => ha ?_⟩
  have : y = a := by simpa using hy
  rw [← this, ← e]; exact hx
theorem Good.snoc {es : List En} {rs : List Rd} (g : Good es rs) (x : En) : Good (es ++ [x]) (addTo rs x.1 x.2) := by
  obtain ⟨r, e⟩ := x
  refine ⟨?_, fun p hp => ?_, fun q => ?_⟩
  · show ((addTo rs r e).map (·.1)).Nodup
    rw [keys_addTo]
    by_cases c : r ∈ rs.map (·.1)
    · rw [if_pos c]; exact g.nd
    · rw [if_neg c]; exact nodup_snoc g.nd c
  · rcases mem_addTo rs r e p g.nd hp with ⟨h1, h2⟩ | ⟨st, h1, h2⟩ | ⟨h1, h2⟩
    · rw [sel_snoc_ne _ _ _ (fun z => h2 z.symm)]; exact g.eq p h1
    · subst h2
      show st ++ [e] = sel (es ++ [(r, e)]) r
      rw [sel_snoc_same]; rw [show st = sel es r from g.eq _ h1]
    · subst h2
      show [e] = sel (es ++ [(r, e)]) r
      rw [sel_snoc_same]
      have : sel es r = [] := by
        cases q : sel es r with
        | nil => rfl
        | cons a l =>
          exact absurd ((g.key r).mpr ⟨a, mem_sel.mp (by rw [q]; exact List.mem_cons_self ..)⟩) h1
      rw [this]; rfl
  · show q ∈ (addTo rs r e).map (·.1) ↔ _
    rw [keys_addTo]
    have split : (∃ z, (q, z) ∈ es ++ [(r, e)]) ↔ (∃ z, (q, z) ∈ es) ∨ q = r := by
      constructor
      · rintro ⟨z, hz⟩
        rcases List.mem_append.mp hz with h | h
        · exact .inl ⟨z, h⟩
        · exact .inr (Prod.mk.inj (List.mem_singleton.mp h)).1
      · rintro (⟨z, hz⟩ | h)
        · exact ⟨z, List.mem_append.mpr (.inl hz)⟩
        · exact ⟨e, List.mem_append.mpr (.inr (by rw [h]; exact List.mem_singleton.mpr rfl))⟩
    rw [split]
    by_cases c : r ∈ rs.map (·.1)
    · rw [if_pos c, g.key q]
      exact ⟨.inl, fun h => h.elim id fun z => by rw [z]; exact (g.key r).mp c⟩
    · rw [if_neg c, List.mem_append, g.key q, List.mem_singleton]
theorem Good.fold : ∀ (more es : List En) (rs : List Rd), Good es rs → Good (es ++ more) (more.foldl (fun rs x => addTo rs x.1 x.2) rs)
  | [], es, rs, g => by rw [List.append_nil]; exact g
  | x :: more, es, rs, g => by
    have := Good.fold more (es ++ [x]) _ (g.snoc x)
    rw [List.append_assoc] at this
    exact this
theorem grp_good (es : List En) : Good es (grp es) := by
  have := Good.fold es [] [] Good.nil
  rwa [List.nil_append] at this
theorem grp_snoc (es : List En) (x : En) : grp (es ++ [x]) = addTo (grp es) x.1 x.2 := by unfold grp; rw [List.foldl_append]; rfl
/-! sums over all stands -/
def sumBy {α : Type} (f : α → Int) : List α → Int
  | [] => 0
  | x :: r => f x + sumBy f r
theorem sumBy_append {α : Type} (f : α → Int) : ∀ a b : List α, sumBy f (a ++ b) = sumBy f a + sumBy f b
  | [], b => by show sumBy f b = 0 + sumBy f b; omega
  | x :: a, b => by show f x + sumBy f (a ++ b) = f x + sumBy f a + sumBy f b; rw [sumBy_append f a b]; omega
theorem sumBy_perm {α : Type} (f : α → Int) {a b : List α} (h : a.Perm b) : sumBy f a = sumBy f b := by
  induction h with
  | nil => rfl
  | cons x _ ih => show f x + _ = f x + _; rw [ih]
  | swap x y l => show f y + (f x + _) = f x + (f y + _); omega
  | trans _ _ i1 i2 => rw [i1, i2]
theorem sumBy_congr {α : Type} {f g : α → Int} : ∀ {l : List α}, (∀ x ∈ l, f x = g x) → sumBy f l = sumBy g l
  | [], _ => rfl
  | x :: l, h => by
    show f x + sumBy f l = g x + sumBy g l
    rw [h x (List.mem_cons_self ..), sumBy_congr fun y hy => h y (List.mem_cons_of_mem _ hy)]
theorem sumBy_map {α β : Type} (f : β → Int) (g : α → β) : ∀ l : List α, sumBy f (l.map g) = sumBy (fun x => f (g x)) l
  | [] => rfl
  | x :: l => by show f (g x) + _ = f (g x) + _; rw [sumBy_map f g l]
theorem sumBy_flatMap {α β : Type} (f : β → Int) (g : α → List β) : ∀ l : List α, sumBy f (l.flatMap g) = sumBy (fun x => sumBy f (g x)) l
  | [] => rfl
  | x :: l => by rw [List.flatMap_cons, sumBy_append, sumBy_flatMap f g l]; rfl
theorem sumBy_zero {α : Type} {f : α → Int} : ∀ {l : List α}, (∀ x ∈ l, f x = 0) → sumBy f l = 0
  | [], _ => rfl
  | x :: l, h => by
    show f x + sumBy f l = 0
    rw [h x (List.mem_cons_self ..), sumBy_zero fun y hy => h y (List.mem_cons_of_mem _ hy)]; rfl
theorem sum_eq_sumBy : ∀ l : List Int, l.sum = sumBy id l
  | [] => rfl
  | x :: l => by rw [List.sum_cons, sum_eq_sumBy l]; rfl
/-- two lists without repeats of one membership -/
theorem sumBy_mem {α : Type} (f : α → Int) {a b : List α} (ha : a.Nodup) (hb : b.Nodup) (h : ∀ x, x ∈ a ↔ x ∈ b) : sumBy f a = sumBy f b :=
  sumBy_perm f ((List.perm_ext_iff_of_nodup ha hb).mpr h)
theorem tot_addTo (f : Int → Int × Nat → Int) : ∀ (rs : List Rd) (r : Int) (e : Int × Nat), sumBy (fun p : Rd => sumBy (f p.1) p.2) (addTo rs r e) = sumBy (fun p : Rd => sumBy (f p.1) p.2) rs + f r e
  | [], r, e => by show f r e + 0 + 0 = 0 + f r e; omega
  | (q, st) :: rs, r, e => by
    by_cases c : q = r
    · subst c
      have e1 : addTo ((q, st) :: rs) q e = (q, st ++ [e]) :: rs := if_pos rfl
      rw [e1]
      show sumBy (f q) (st ++ [e]) + _ = sumBy (f q) st + _ + f q e
      rw [sumBy_append]
      show sumBy (f q) st + (f q e + 0) + _ = _
      omega
    · have e1 : addTo ((q, st) :: rs) r e = (q, st) :: addTo rs r e := if_neg c
      rw [e1]
      show sumBy (f q) st + sumBy _ (addTo rs r e) = sumBy (f q) st + sumBy _ rs + f r e
      rw [tot_addTo f rs r e]; omega
theorem tot_fold (f : Int → Int × Nat → Int) : ∀ (es : List En) (rs : List Rd), sumBy (fun p : Rd => sumBy (f p.1) p.2) (es.foldl (fun rs x => addTo rs x.1 x.2) rs) = sumBy (fun p : Rd => sumBy (f p.1) p.2) rs + sumBy (fun x : En => f x.1 x.2) es
  | [], rs => by show _ = _ + 0; rw [Int.add_zero]; rfl
  | x :: es, rs => by
    show sumBy _ (es.foldl _ (addTo rs x.1 x.2)) = _ + (f x.1 x.2 + sumBy _ es)
    rw [tot_fold f es, tot_addTo]; omega
theorem tot_grp (f : Int → Int × Nat → Int) (es : List En) : sumBy (fun p : Rd => sumBy (f p.1) p.2) (grp es) = sumBy (fun x : En => f x.1 x.2) es := by
  unfold grp; rw [tot_fold]; show 0 + _ = _; omega
theorem part_eq (g : Int → Int) (j : Nat) : ∀ st : List (Int × Nat), part g j st = sumBy (fun e => if e.2 = j then g e.1 else 0) st
  | [] => rfl
  | e :: st => by show _ + part g j st = _ + _; rw [part_eq g j st]
/-! all rounds -/
def allR (g : Int → Int → Int) (rs : List Rd) (f : List Int) : List Int := rs.foldl (fun f p => addSt (g p.1) p.2 f) f
theorem allR_snoc (g : Int → Int → Int) (rs : List Rd) (p : Rd) (f : List Int) : allR g (rs ++ [p]) f = addSt (g p.1) p.2 (allR g rs f) := by unfold allR; rw [List.foldl_append]; rfl
theorem allR_len (g : Int → Int → Int) : ∀ (rs : List Rd) (f : List Int), (allR g rs f).length = f.length
  | [], f => rfl
  | p :: rs, f => by show (allR g rs (addSt (g p.1) p.2 f)).length = _; rw [allR_len g rs, addSt_len]
theorem allR_get (g : Int → Int → Int) (j : Nat) : ∀ (rs : List Rd) (f : List Int), (allR g rs f)[j]? = f[j]?.map (· + sumBy (fun p : Rd => sumBy (fun e : Int × Nat => if e.2 = j then g p.1 e.1 else 0) p.2) rs)
  | [], f => by show f[j]? = f[j]?.map (· + 0); cases f[j]? <;> simp
  | p :: rs, f => by
    show (allR g rs (addSt (g p.1) p.2 f))[j]? = _
    rw [allR_get g j rs, addSt_get, part_eq]
    cases f[j]? with
    | none => rfl
    | some x =>
      show some (x + _ + _) = some (x + (sumBy (fun e : Int × Nat => if e.2 = j then g p.1 e.1 else 0) p.2 + _))
      congr 1; omega
theorem allR_grp_get (g : Int → Int → Int) (j : Nat) (es : List En) (f : List Int) : (allR g (grp es) f)[j]? = f[j]?.map (· + sumBy (fun x : En => if x.2.2 = j then g x.1 x.2.1 else 0) es) := by
  rw [allR_get, tot_grp (fun r e => if e.2 = j then g r e.1 else 0)]
theorem addSt_sum (g : Int → Int) : ∀ (st : List (Int × Nat)) (f : List Int), (∀ e ∈ st, e.2 < f.length) → (addSt g st f).sum = f.sum + sumBy (fun e => g e.1) st
  | [], f, _ => by show f.sum = f.sum + 0; omega
  | e :: st, f, h => by
    rw [addSt_cons, addSt_sum g st _ fun x hx => by rw [addAt_len]; exact h x (List.mem_cons_of_mem _ hx), addAt_sum _ _ _ (h e (List.mem_cons_self ..))]
    show _ = f.sum + (g e.1 + _); omega
theorem allR_sum (g : Int → Int → Int) : ∀ (rs : List Rd) (f : List Int), (∀ p ∈ rs, ∀ e ∈ p.2, e.2 < f.length) → (allR g rs f).sum = f.sum + sumBy (fun p : Rd => sumBy (fun e => g p.1 e.1) p.2) rs
  | [], f, _ => by show f.sum = f.sum + 0; omega
  | p :: rs, f, h => by
    show (allR g rs (addSt (g p.1) p.2 f)).sum = _
    rw [allR_sum g rs _ fun q hq e he => by rw [addSt_len]; exact h q (List.mem_cons_of_mem _ hq) e he, addSt_sum _ _ _ (h p (List.mem_cons_self ..))]
    show _ = f.sum + (sumBy (fun e => g p.1 e.1) p.2 + _); omega
/-! a family of runs: for each round its weights, its stands -/
structure Fam (es : List En) (w : Int → Int → Int) (s : Int → Int → Bool) (L : Int) (F n : Nat) : Prop where
  pos : 0 < L
  fuel : L ≤ F
  wper : ∀ r t, w r (t + L) = w r t
  sper : ∀ r t, s r (t + L) = s r t
  mem : ∀ x ∈ es, 0 ≤ x.2.1 ∧ x.2.1 < L ∧ x.2.2 < n
  st : ∀ r t, (∃ e, (r, e) ∈ es) → 0 ≤ t → t < L → (s r t = true ↔ ∃ k, (r, (t, k)) ∈ es)
  nd : (es.map fun x => (x.1, x.2.1)).Nodup
theorem sel_nd {es : List En} (nd : (es.map fun x => (x.1, x.2.1)).Nodup) (r : Int) : ((sel es r).map (·.1)).Nodup := by
  unfold sel
  induction es with
  | nil => exact List.nodup_nil
  | cons x es ih =>
    obtain ⟨n1, n2⟩ := List.nodup_cons.mp (show ((x.1, x.2.1) :: es.map fun x => (x.1, x.2.1)).Nodup from nd)
    by_cases c : x.1 = r
    · rw [List.filter_cons, if_pos (decide_eq_true c), List.map_cons, List.map_cons]
      refine List.nodup_cons.mpr ⟨fun h => n1 ?_, ih n2⟩
      obtain ⟨e, h1, h2⟩ := List.mem_map.mp h
      obtain ⟨y, h3, h4⟩ := List.mem_map.mp h1
      obtain ⟨h5, h6⟩ := List.mem_filter.mp h3
      have h6 : y.1 = r := of_decide_eq_true h6
      refine List.mem_map.mpr ⟨y, h5, ?_⟩
      rw [h6, c, h4, h2]
    · rw [List.filter_cons, if_neg (by simpa using c)]; exact ih n2
/-- sorted by minutes, all different: one after another -/
theorem strict_of {st : List (Int × Nat)} (h1 : st.Pairwise fun a b => a.1 ≤ b.1) (h2 : (st.map (·.1)).Nodup) : st.Pairwise fun a b => a.1 < b.1 := by
  have h3 : st.Pairwise fun a b => a.1 ≠ b.1 := List.pairwise_map.mp h2
  exact (h1.and h3).imp fun h => by have := h.1; have := h.2; omega
theorem Fam.turn {es : List En} {w : Int → Int → Int} {s : Int → Int → Bool} {L : Int} {F n : Nat} (fam : Fam es w s L F n) {r : Int} {st' : List (Int × Nat)} (hr : ∃ e, (r, e) ∈ es) (hp : st'.Perm (sel es r)) (ho : st'.Pairwise fun a b => a.1 ≤ b.1) (f : List Int) :
    shared (upTo (w r)) L st' f = addSt (gapS (w r) (s r) F) (sel es r) f := by
  have nd' : (st'.map (·.1)).Nodup := (hp.map _).nodup_iff.mpr (sel_nd fam.nd r)
  have mem' : ∀ e, e ∈ st' ↔ (r, e) ∈ es := fun e => hp.mem_iff.trans mem_sel
  rw [shared_eq fam.fuel (fam.wper r) (fam.sper r) f (fun t h0 h1 => ?_) (fun e he => ?_) (strict_of ho nd'), addSt_perm _ hp]
  · rw [fam.st r t hr h0 h1]
    exact ⟨fun ⟨k, h⟩ => ⟨k, (mem' _).mpr h⟩, fun ⟨k, h⟩ => ⟨k, (mem' _).mp h⟩⟩
  · have := fam.mem _ ((mem' e).mp he)
    exact ⟨this.1, this.2.1⟩
theorem Fam.get {es : List En} {w : Int → Int → Int} {s : Int → Int → Bool} {L : Int} {F n : Nat} (fam : Fam es w s L F n) (f : List Int) (j : Nat) :
    (allR (fun r => gapS (w r) (s r) F) (grp es) f)[j]? = f[j]?.map (· + sumBy (fun x : En => if x.2.2 = j then gapS (w x.1) (s x.1) F x.2.1 else 0) es) := allR_grp_get _ j es f
/-- each round is shared out whole -/
theorem Fam.whole {es : List En} {w : Int → Int → Int} {s : Int → Int → Bool} {L : Int} {F n : Nat} (fam : Fam es w s L F n) {r : Int} (hr : ∃ e, (r, e) ∈ es) : sumBy (fun e => gapS (w r) (s r) F e.1) (sel es r) = S (w r) L.toNat := by
  have le_tr : ∀ a b c : Int × Nat, decide (a.1 ≤ b.1) = true → decide (b.1 ≤ c.1) = true → decide (a.1 ≤ c.1) = true := fun a b c h1 h2 => decide_eq_true (Int.le_trans (of_decide_eq_true h1) (of_decide_eq_true h2))
  have le_to : ∀ a b : Int × Nat, (decide (a.1 ≤ b.1) || decide (b.1 ≤ a.1)) = true := fun a b => by
    rcases Int.le_total a.1 b.1 with h | h
    · rw [decide_eq_true h]; rfl
    · rw [decide_eq_true h, Bool.or_true]
  have p := List.mergeSort_perm (sel es r) (fun a b => decide (a.1 ≤ b.1))
  have o : ((sel es r).mergeSort fun a b => decide (a.1 ≤ b.1)).Pairwise fun a b => a.1 ≤ b.1 := (List.pairwise_mergeSort le_tr le_to (sel es r)).imp fun h => of_decide_eq_true h
  have k := fam.turn hr p o (List.replicate n 0)
  have small : ∀ e ∈ sel es r, e.2 < (List.replicate n (0 : Int)).length := fun e he => by rw [List.length_replicate]; exact (fam.mem _ (mem_sel.mp he)).2.2
  have a := congrArg List.sum k
  obtain ⟨e, he⟩ := hr
  rw [shared_sum (fun z => by
    have := p.mem_iff.mpr (mem_sel.mpr he)
    rw [z] at this; cases this) (fun e he => small e (p.mem_iff.mp he)), addSt_sum _ _ _ small] at a
  have : upTo (w r) (L - 1) = S (w r) L.toNat := by unfold upTo; rw [Int.sub_add_cancel]
  omega
theorem Fam.sum {es : List En} {w : Int → Int → Int} {s : Int → Int → Bool} {L : Int} {F n : Nat} (fam : Fam es w s L F n) {f : List Int} (hf : f.length = n) :
    (allR (fun r => gapS (w r) (s r) F) (grp es) f).sum = f.sum + sumBy (fun r => S (w r) L.toNat) ((grp es).map (·.1)) := by
  have g := grp_good es
  rw [allR_sum _ _ _ fun p hp e he => by
    rw [g.eq p hp] at he
    rw [hf]; exact (fam.mem _ (mem_sel.mp he)).2.2]
  rw [sumBy_map]
  congr 1
  refine sumBy_congr fun p hp => ?_
  rw [g.eq p hp]
  exact fam.whole ((g.key p.1).mp (List.mem_map.mpr ⟨p, hp, rfl⟩))
end Cu
/-! M5 -/
set_option linter.all false
namespace Cu
/-! the places of a part on its run to and fro -/
def sides (x N : Int) : List Int := if 0 < x ∧ x < N then [x, 2 * N - x] else [x]
theorem mem_sides {x N a : Int} (h0 : 0 ≤ x) (h1 : x ≤ N) (hN : 0 < N) : a ∈ sides x N ↔ (0 ≤ a ∧ a < 2 * N) ∧ (2 * N ∣ a - x ∨ 2 * N ∣ a + x) := by
  unfold sides
  have key : (0 ≤ a ∧ a < 2 * N) → (2 * N ∣ a - x ↔ a = x) := fun h => by
    constructor
    · intro d
      exact eq_of_rem h.1 h.2 h0 (by omega) d
    · intro e; rw [e, Int.sub_self]; exact Int.dvd_zero _
  have key2 : (0 ≤ a ∧ a < 2 * N) → (2 * N ∣ a + x ↔ a = (if x = 0 then 0 else 2 * N - x)) := fun h => by
    by_cases c : x = 0
    · rw [if_pos c]
      have := key h
      rw [c, Int.sub_zero] at this
      rw [c, Int.add_zero]; exact this
    · rw [if_neg c]
      constructor
      · intro d
        refine eq_of_rem h.1 h.2 (by omega) (by omega) ?_
        have := Int.dvd_sub d (Int.dvd_refl (2 * N))
        rwa [show a + x - 2 * N = a - (2 * N - x) by omega] at this
      · intro e
        rw [e, show 2 * N - x + x = 2 * N by omega]; exact Int.dvd_refl _
  by_cases c : 0 < x ∧ x < N
  · rw [if_pos c]
    constructor
    · intro h
      have h' : a = x ∨ a = 2 * N - x := by simpa using h
      have b : 0 ≤ a ∧ a < 2 * N := by omega
      refine ⟨b, ?_⟩
      rw [key b, key2 b, if_neg (by omega)]; exact h'
    · rintro ⟨b, h⟩
      rw [key b, key2 b, if_neg (by omega)] at h
      simpa using h
  · rw [if_neg c]
    constructor
    · intro h
      have h' : a = x := by simpa using h
      have b : 0 ≤ a ∧ a < 2 * N := by omega
      exact ⟨b, .inl ((key b).mpr h')⟩
    · rintro ⟨b, h⟩
      rw [key b, key2 b] at h
      have : a = x := by
        rcases h with h | h
        · exact h
        · by_cases z : x = 0
          · rw [if_pos z] at h; omega
          · rw [if_neg z] at h; omega
      simp [this]
theorem sides_nd {x N : Int} : (sides x N).Nodup := by
  unfold sides
  by_cases c : 0 < x ∧ x < N
  · rw [if_pos c]
    refine List.nodup_cons.mpr ⟨fun h => ?_, by simp⟩
    have : x = 2 * N - x := by simpa using h
    omega
  · rw [if_neg c]; simp
def hits (N x a : Int) : Bool := decide ((a - x) % (2 * N) = 0) || decide ((a + x) % (2 * N) = 0)
theorem hits_iff {N x a : Int} : hits N x a = true ↔ (2 * N ∣ a - x ∨ 2 * N ∣ a + x) := by
  unfold hits
  rw [Bool.or_eq_true, decide_eq_true_eq, decide_eq_true_eq, ← Int.dvd_iff_emod_eq_zero, ← Int.dvd_iff_emod_eq_zero]
theorem bool_ext {a b : Bool} (h : a = true ↔ b = true) : a = b := by
  cases a <;> cases b <;> simp_all
theorem hits_congr {N x a a' : Int} (h : 2 * N ∣ a - a') : hits N x a = hits N x a' := by
  apply bool_ext
  rw [hits_iff, hits_iff]
  have e1 : a - x = (a' - x) + (a - a') := by omega
  have e2 : a + x = (a' + x) + (a - a') := by omega
  rw [e1, e2, Int.dvd_add_left h, Int.dvd_add_left h]
theorem hits_neg (N x a : Int) : hits N (-x) a = hits N x a := by
  unfold hits
  rw [show a - -x = a + x by omega, show a + -x = a - x by omega, Bool.or_comm]
/-- a table turned left and right: the phase is half a round further -/
theorem hits_mirror (N x a : Int) : hits N (N - x) a = hits N x (a + N) := by
  apply bool_ext
  rw [hits_iff, hits_iff]
  have e1 : a + N - x = (a + (N - x)) := by omega
  have e2 : a + N + x = (a - (N - x)) + 2 * N := by omega
  rw [e1, e2, Int.dvd_add_left (Int.dvd_refl _)]
  exact Or.comm
/-- 1, 2 at an edge -/
def w1 (N a : Int) : Int := 1 + if a % N = 0 then 1 else 0
theorem w1_congr {N a a' : Int} (h : N ∣ a - a') : w1 N a = w1 N a' := by
  unfold w1; rw [emod_iff.mpr h]
theorem w1_pos (N a : Int) : 1 ≤ w1 N a := by unfold w1; split <;> omega
theorem w1_shift (N a : Int) : w1 N (a + N) = w1 N a := w1_congr (by rw [show a + N - a = N by omega]; exact Int.dvd_refl _)
/-- how many starts there are at a pair of phases -/
def ww (W H a b : Int) : Int := w1 W a * w1 H b
theorem ww_pos (W H a b : Int) : 1 ≤ ww W H a b := by
  have h1 := w1_pos W a
  have h2 := w1_pos H b
  unfold ww
  have := Int.mul_le_mul h1 h2 (by omega) (by omega)
  omega
abbrev Pt := Int × Int
def stand (W H : Int) (ps : List Pt) (a b : Int) : Bool := ps.any fun p => hits W p.1 a && hits H p.2 b
theorem stand_congr {W H : Int} {ps : List Pt} {a a' b b' : Int} (h1 : 2 * W ∣ a - a') (h2 : 2 * H ∣ b - b') : stand W H ps a b = stand W H ps a' b' := by
  unfold stand
  congr 1
  funext p
  rw [hits_congr h1, hits_congr h2]
theorem ww_congr {W H a a' b b' : Int} (h1 : 2 * W ∣ a - a') (h2 : 2 * H ∣ b - b') : ww W H a b = ww W H a' b' := by
  unfold ww
  rw [w1_congr (Int.dvd_trans (Int.dvd_mul_left 2 W) h1), w1_congr (Int.dvd_trans (Int.dvd_mul_left 2 H) h2)]
/-- a table with its pockets -/
structure Tab (W H : Int) (ps : List Pt) : Prop where
  w : 0 < W
  h : 0 < H
  on : ∀ p ∈ ps, (0 ≤ p.1 ∧ p.1 ≤ W) ∧ 0 ≤ p.2 ∧ p.2 ≤ H
  nd : ps.Nodup
theorem stand_iff {W H : Int} {ps : List Pt} {a b : Int} : stand W H ps a b = true ↔ ∃ p ∈ ps, (2 * W ∣ a - p.1 ∨ 2 * W ∣ a + p.1) ∧ (2 * H ∣ b - p.2 ∨ 2 * H ∣ b + p.2) := by
  unfold stand
  rw [List.any_eq_true]
  constructor
  · rintro ⟨p, h1, h2⟩
    rw [Bool.and_eq_true, hits_iff, hits_iff] at h2
    exact ⟨p, h1, h2⟩
  · rintro ⟨p, h1, h2⟩
    exact ⟨p, h1, by rw [Bool.and_eq_true, hits_iff, hits_iff]; exact h2⟩
/-! rounds of slanting starts -/
abbrev cm (W H : Int) : Int := gc (2 * W) (2 * H)
abbrev ln (W H : Int) : Int := lc (2 * W) (2 * H)
def rnd (W H a b : Int) : Int := (a - b) % cm W H
noncomputable def minu (W H a b : Int) : Int := crt ((a - rnd W H a b) % (2 * W)) (2 * W) b (2 * H)
noncomputable def esOf (W H : Int) (p : Pt) (k : Nat) : List En := (sides p.1 W).flatMap fun a => (sides p.2 H).map fun b => (rnd W H a b, (minu W H a b, k))
noncomputable def esS (W H : Int) (ps : List Pt) : List En := ps.zipIdx.flatMap fun q => esOf W H q.1 q.2
def wS (W H r t : Int) : Int := ww W H (t + r) t
def sS (W H : Int) (ps : List Pt) (r t : Int) : Bool := stand W H ps (t + r) t
def fuel (W H : Int) : Nat := (4 * W * H).toNat
theorem minu_agree {W H a b : Int} (hW : 0 < W) : (b - (a - rnd W H a b) % (2 * W)) % cm W H = 0 := by
  apply Int.emod_eq_zero_of_dvd
  have h1 : cm W H ∣ (a - rnd W H a b) % (2 * W) - (a - rnd W H a b) := Int.dvd_trans (gc_l _ _) (dvd_emod_sub _ _)
  have h2 : cm W H ∣ (a - b) - rnd W H a b := dvd_sub_emod _ _
  have := Int.dvd_sub h2 h1
  have := Int.dvd_neg.mpr (Int.dvd_add h2 h1)
  have e : b - (a - rnd W H a b) % (2 * W) = -((a - b) - rnd W H a b + ((a - rnd W H a b) % (2 * W) - (a - rnd W H a b))) + 0 := by omega
  rw [e, Int.add_zero]; exact this
theorem minu_is {W H a b : Int} (hW : 0 < W) (hH : 0 < H) : 0 ≤ minu W H a b ∧ minu W H a b < ln W H ∧ 2 * W ∣ minu W H a b + rnd W H a b - a ∧ 2 * H ∣ minu W H a b - b := by
  have c := crt_is (m := 2 * W) (n := 2 * H) (by omega) (by omega) (minu_agree (H := H) (a := a) (b := b) hW)
  refine ⟨c.ge, c.lt, ?_, c.right⟩
  have h1 := dvd_tr c.left (dvd_emod_sub (a - rnd W H a b) (2 * W))
  rwa [show crt ((a - rnd W H a b) % (2 * W)) (2 * W) b (2 * H) - (a - rnd W H a b) = minu W H a b + rnd W H a b - a by unfold minu; omega] at h1
theorem minu_eq {W H a b t : Int} (hW : 0 < W) (hH : 0 < H) (h0 : 0 ≤ t) (h1 : t < ln W H) (h2 : 2 * W ∣ t + rnd W H a b - a) (h3 : 2 * H ∣ t - b) : minu W H a b = t := by
  refine (crt_eq (by omega) (by omega) ⟨h0, h1, ?_, h3⟩).symm
  refine dvd_tr (b := a - rnd W H a b) ?_ (dvd_sub_emod _ _)
  rwa [show t - (a - rnd W H a b) = t + rnd W H a b - a by omega]
theorem rnd_of {W H a b t r : Int} (hW : 0 < W) (h2 : 2 * W ∣ t + r - a) (h3 : 2 * H ∣ t - b) (hr0 : 0 ≤ r) (hr1 : r < cm W H) : rnd W H a b = r := by
  have c1 := Int.dvd_trans (gc_l (2 * W) (2 * H)) h2
  have c2 := Int.dvd_trans (gc_r (2 * W) (2 * H)) h3
  have := Int.dvd_sub c2 c1
  unfold rnd
  rw [← Int.emod_eq_of_lt hr0 hr1]
  apply emod_iff.mpr
  rwa [show a - b - r = t - b - (t + r - a) by omega]
theorem rnd_lt {W H a b : Int} (hW : 0 < W) : 0 ≤ rnd W H a b ∧ rnd W H a b < cm W H := by
  have g : 0 < cm W H := gc_pos (m := 2 * W) (n := 2 * H) (by omega)
  exact ⟨Int.emod_nonneg _ (Int.ne_of_gt g), Int.emod_lt_of_pos _ g⟩
theorem mem_esOf {W H : Int} {p : Pt} {k : Nat} {x : En} : x ∈ esOf W H p k ↔ ∃ a b, a ∈ sides p.1 W ∧ b ∈ sides p.2 H ∧ x = (rnd W H a b, (minu W H a b, k)) := by
  unfold esOf
  rw [List.mem_flatMap]
  constructor
  · rintro ⟨a, ha, h⟩
    obtain ⟨b, hb, e⟩ := List.mem_map.mp h
    exact ⟨a, b, ha, hb, e.symm⟩
  · rintro ⟨a, b, ha, hb, e⟩
    exact ⟨a, ha, List.mem_map.mpr ⟨b, hb, e.symm⟩⟩
theorem mem_zipIdx' {ps : List Pt} {q : Pt × Nat} : q ∈ ps.zipIdx ↔ ps[q.2]? = some q.1 := by
  rw [List.mem_zipIdx_iff_getElem?]
theorem mem_esS {W H : Int} {ps : List Pt} {x : En} : x ∈ esS W H ps ↔ ∃ p k a b, ps[k]? = some p ∧ a ∈ sides p.1 W ∧ b ∈ sides p.2 H ∧ x = (rnd W H a b, (minu W H a b, k)) := by
  unfold esS
  rw [List.mem_flatMap]
  constructor
  · rintro ⟨⟨p, k⟩, hq, h⟩
    obtain ⟨a, b, ha, hb, e⟩ := mem_esOf.mp h
    exact ⟨p, k, a, b, mem_zipIdx'.mp hq, ha, hb, e⟩
  · rintro ⟨p, k, a, b, hq, ha, hb, e⟩
    exact ⟨(p, k), mem_zipIdx'.mpr hq, mem_esOf.mpr ⟨a, b, ha, hb, e⟩⟩
/-- the phases of a stand tell the pocket -/
theorem place_of {x x' N a a' : Int} (h0 : 0 ≤ x) (h1 : x ≤ N) (k0 : 0 ≤ x') (k1 : x' ≤ N) (hN : 0 < N) (ha : a ∈ sides x N) (ha' : a' ∈ sides x' N) (h : 2 * N ∣ a - a') : a = a' ∧ x = x' := by
  have m := (mem_sides h0 h1 hN).mp ha
  have m' := (mem_sides k0 k1 hN).mp ha'
  have e := eq_of_rem m.1.1 m.1.2 m'.1.1 m'.1.2 h
  refine ⟨e, ?_⟩
  subst e
  unfold sides at ha ha'
  by_cases c : 0 < x ∧ x < N <;> by_cases c' : 0 < x' ∧ x' < N
  · rw [if_pos c] at ha; rw [if_pos c'] at ha'
    have : a = x ∨ a = 2 * N - x := by simpa using ha
    have : a = x' ∨ a = 2 * N - x' := by simpa using ha'
    omega
  · rw [if_pos c] at ha; rw [if_neg c'] at ha'
    have : a = x ∨ a = 2 * N - x := by simpa using ha
    have : a = x' := by simpa using ha'
    omega
  · rw [if_neg c] at ha; rw [if_pos c'] at ha'
    have : a = x := by simpa using ha
    have : a = x' ∨ a = 2 * N - x' := by simpa using ha'
    omega
  · rw [if_neg c] at ha; rw [if_neg c'] at ha'
    have : a = x := by simpa using ha
    have : a = x' := by simpa using ha'
    omega
theorem rm_inj {W H a b a' b' : Int} (hW : 0 < W) (hH : 0 < H) (hr : rnd W H a b = rnd W H a' b') (hm : minu W H a b = minu W H a' b') : 2 * W ∣ a - a' ∧ 2 * H ∣ b - b' := by
  have m := minu_is (a := a) (b := b) hW hH
  have m' := minu_is (a := a') (b := b') hW hH
  rw [← hr, ← hm] at m'
  constructor
  · have := Int.dvd_sub m'.2.2.1 m.2.2.1
    rwa [show minu W H a b + rnd W H a b - a' - (minu W H a b + rnd W H a b - a) = a - a' by omega] at this
  · have := Int.dvd_sub m'.2.2.2 m.2.2.2
    rwa [show minu W H a b - b' - (minu W H a b - b) = b - b' by omega] at this
theorem esS_nd {W H : Int} {ps : List Pt} (t : Tab W H ps) : ((esS W H ps).map fun x => (x.1, x.2.1)).Nodup := by
  have ne : ∀ {a b a' b' : Int}, ¬ (2 * W ∣ a - a' ∧ 2 * H ∣ b - b') → (rnd W H a b, minu W H a b) ≠ (rnd W H a' b', minu W H a' b') := fun h e => h (rm_inj t.w t.h (Prod.mk.inj e).1 (Prod.mk.inj e).2)
  unfold List.Nodup
  rw [List.pairwise_map]
  unfold esS
  rw [List.pairwise_flatMap]
  refine ⟨fun q hq => ?_, ?_⟩
  · have hp := mem_zipIdx'.mp hq
    have on := t.on _ (List.mem_of_getElem? hp)
    unfold esOf
    rw [List.pairwise_flatMap]
    refine ⟨fun a ha => ?_, (sides_nd (x := q.1.1) (N := W)).imp_of_mem fun {a a'} ha ha' hne => ?_⟩
    · rw [List.pairwise_map]
      refine (sides_nd (x := q.1.2) (N := H)).imp_of_mem fun {b b'} hb hb' hne => ?_
      exact ne fun z => hne (place_of on.2.1 on.2.2 on.2.1 on.2.2 t.h hb hb' z.2).1
    · intro x hx y hy
      obtain ⟨b, hb, rfl⟩ := List.mem_map.mp hx
      obtain ⟨b', hb', rfl⟩ := List.mem_map.mp hy
      exact ne fun z => hne (place_of on.1.1 on.1.2 on.1.1 on.1.2 t.w ha ha' z.1).1
  · have nd2 : ps.zipIdx.Pairwise fun q q' => q.1 ≠ q'.1 := by
      have : (ps.zipIdx.map Prod.fst).Nodup := by rw [List.zipIdx_map_fst]; exact t.nd
      exact List.pairwise_map.mp this
    refine nd2.imp_of_mem fun {q q'} hq hq' hne => ?_
    intro x hx y hy
    have on := t.on _ (List.mem_of_getElem? (mem_zipIdx'.mp hq))
    have on' := t.on _ (List.mem_of_getElem? (mem_zipIdx'.mp hq'))
    obtain ⟨a, b, ha, hb, rfl⟩ := mem_esOf.mp hx
    obtain ⟨a', b', ha', hb', rfl⟩ := mem_esOf.mp hy
    refine ne fun z => hne ?_
    have e1 := (place_of on.1.1 on.1.2 on'.1.1 on'.1.2 t.w ha ha' z.1).2
    have e2 := (place_of on.2.1 on.2.2 on'.2.1 on'.2.2 t.h hb hb' z.2).2
    exact Prod.ext e1 e2
theorem famS {W H : Int} {ps : List Pt} (t : Tab W H ps) : Fam (esS W H ps) (wS W H) (sS W H ps) (ln W H) (fuel W H) ps.length where
  pos := lc_pos (by have := t.w; omega) (by have := t.h; omega)
  fuel := by
    have hW := t.w
    have hH := t.h
    have g := gc_pos (m := 2 * W) (n := 2 * H) (by omega)
    have h1 : 2 * W / cm W H ≤ 2 * W := Int.ediv_le_self _ (by omega)
    have h2 : ln W H ≤ 2 * W * (2 * H) := Int.mul_le_mul_of_nonneg_right h1 (by omega)
    have h3 : 2 * W * (2 * H) = 4 * W * H := by grind
    have h4 : 0 ≤ 4 * W * H := by
      rw [← h3]; exact Int.mul_nonneg (by omega) (by omega)
    unfold fuel
    omega
  wper := fun r x => by
    have d1 := lc_l (m := 2 * W) (n := 2 * H) (by have := t.w; omega) (by have := t.h; omega)
    have d2 := lc_r (m := 2 * W) (n := 2 * H)
    refine ww_congr ?_ ?_
    · rwa [show x + ln W H + r - (x + r) = ln W H by omega]
    · rwa [show x + ln W H - x = ln W H by omega]
  sper := fun r x => by
    have d1 := lc_l (m := 2 * W) (n := 2 * H) (by have := t.w; omega) (by have := t.h; omega)
    have d2 := lc_r (m := 2 * W) (n := 2 * H)
    refine stand_congr ?_ ?_
    · rwa [show x + ln W H + r - (x + r) = ln W H by omega]
    · rwa [show x + ln W H - x = ln W H by omega]
  mem := fun x hx => by
    obtain ⟨p, k, a, b, hp, ha, hb, rfl⟩ := mem_esS.mp hx
    have m := minu_is (a := a) (b := b) t.w t.h
    exact ⟨m.1, m.2.1, (List.getElem?_eq_some_iff.mp hp).1⟩
  st := fun r x hr h0 h1 => by
    obtain ⟨e, he⟩ := hr
    obtain ⟨p0, k0, a0, b0, _, _, _, e0⟩ := mem_esS.mp he
    have rr := rnd_lt (W := W) (H := H) (a := a0) (b := b0) t.w
    rw [← (Prod.mk.inj e0).1] at rr
    show stand W H ps (x + r) x = true ↔ _
    rw [stand_iff]
    constructor
    · rintro ⟨p, hp, h2, h3⟩
      obtain ⟨k, hk⟩ := List.getElem?_of_mem hp
      have on := t.on p hp
      have ma := (mem_sides (a := (x + r) % (2 * W)) on.1.1 on.1.2 t.w).mpr ⟨⟨Int.emod_nonneg _ (by have := t.w; omega), Int.emod_lt_of_pos _ (by have := t.w; omega)⟩, h2.imp
        (fun z => by have := Int.dvd_add (dvd_emod_sub (x + r) (2 * W)) z; rwa [show (x + r) % (2 * W) - (x + r) + (x + r - p.1) = (x + r) % (2 * W) - p.1 by omega] at this)
        (fun z => by have := Int.dvd_add (dvd_emod_sub (x + r) (2 * W)) z; rwa [show (x + r) % (2 * W) - (x + r) + (x + r + p.1) = (x + r) % (2 * W) + p.1 by omega] at this)⟩
      have mb := (mem_sides (a := x % (2 * H)) on.2.1 on.2.2 t.h).mpr ⟨⟨Int.emod_nonneg _ (by have := t.h; omega), Int.emod_lt_of_pos _ (by have := t.h; omega)⟩, h3.imp
        (fun z => by have := Int.dvd_add (dvd_emod_sub x (2 * H)) z; rwa [show x % (2 * H) - x + (x - p.2) = x % (2 * H) - p.2 by omega] at this)
        (fun z => by have := Int.dvd_add (dvd_emod_sub x (2 * H)) z; rwa [show x % (2 * H) - x + (x + p.2) = x % (2 * H) + p.2 by omega] at this)⟩
      have hr := rnd_of (a := (x + r) % (2 * W)) (b := x % (2 * H)) t.w (dvd_sub_emod (x + r) (2 * W)) (dvd_sub_emod x (2 * H)) rr.1 rr.2
      have hm := minu_eq (a := (x + r) % (2 * W)) (b := x % (2 * H)) t.w t.h h0 h1 (by rw [hr]; exact dvd_sub_emod _ _) (dvd_sub_emod _ _)
      refine ⟨k, mem_esS.mpr ⟨p, k, _, _, hk, ma, mb, ?_⟩⟩
      rw [hr, hm]
    · rintro ⟨k, hk⟩
      obtain ⟨p, k', a, b, hp, ha, hb, e⟩ := mem_esS.mp hk
      have e1 : r = rnd W H a b := (Prod.mk.inj e).1
      have e2 : x = minu W H a b := (Prod.mk.inj (Prod.mk.inj e).2).1
      have on := t.on p (List.mem_of_getElem? hp)
      have m := minu_is (a := a) (b := b) t.w t.h
      rw [← e1, ← e2] at m
      have sa := ((mem_sides on.1.1 on.1.2 t.w).mp ha).2
      have sb := ((mem_sides on.2.1 on.2.2 t.h).mp hb).2
      refine ⟨p, List.mem_of_getElem? hp, sa.imp (fun z => ?_) (fun z => ?_), sb.imp (fun z => ?_) (fun z => ?_)⟩
      · have := Int.dvd_add m.2.2.1 z; rwa [show x + r - a + (a - p.1) = x + r - p.1 by omega] at this
      · have := Int.dvd_add m.2.2.1 z; rwa [show x + r - a + (a + p.1) = x + r + p.1 by omega] at this
      · have := Int.dvd_add m.2.2.2 z; rwa [show x - b + (b - p.2) = x - p.2 by omega] at this
      · have := Int.dvd_add m.2.2.2 z; rwa [show x - b + (b + p.2) = x + p.2 by omega] at this
  nd := esS_nd t
/-! the numbers -/
theorem gapS_congr {w w' : Int → Int} {s s' : Int → Bool} {F : Nat} {m m' : Int} (h1 : ∀ j, w (m - j) = w' (m' - j)) (h2 : ∀ j, s (m - j) = s' (m' - j)) : gapS w s F m = gapS w' s' F m' := by
  unfold gapS
  rw [show (fun j => w (m - j)) = fun j => w' (m' - j) from funext h1, show (fun j => s (m - j)) = fun j => s' (m' - j) from funext h2]
/-- the starts that fall at a pair of phases -/
def GG (W H : Int) (ps : List Pt) (a b : Int) : Int := gapS (fun t => ww W H (a + t) (b + t)) (fun t => stand W H ps (a + t) (b + t)) (fuel W H) 0
theorem GG_pos (W H : Int) (ps : List Pt) (a b : Int) : 1 ≤ GG W H ps a b := gapS_pos (fun _ => ww_pos _ _ _ _) _ _ _
theorem GG_of {W H : Int} {ps : List Pt} (hW : 0 < W) (hH : 0 < H) (a b : Int) : gapS (wS W H (rnd W H a b)) (sS W H ps (rnd W H a b)) (fuel W H) (minu W H a b) = GG W H ps a b := by
  have m := minu_is (a := a) (b := b) hW hH
  refine gapS_congr (fun j => ww_congr ?_ ?_) (fun j => stand_congr ?_ ?_)
  · rw [show minu W H a b - j + rnd W H a b - (a + (0 - j)) = minu W H a b + rnd W H a b - a by omega]; exact m.2.2.1
  · rw [show minu W H a b - j - (b + (0 - j)) = minu W H a b - b by omega]; exact m.2.2.2
  · rw [show minu W H a b - j + rnd W H a b - (a + (0 - j)) = minu W H a b + rnd W H a b - a by omega]; exact m.2.2.1
  · rw [show minu W H a b - j - (b + (0 - j)) = minu W H a b - b by omega]; exact m.2.2.2
def slantOf (W H : Int) (ps : List Pt) (p : Pt) : Int := sumBy (fun a => sumBy (fun b => GG W H ps a b) (sides p.2 H)) (sides p.1 W)
def slantN (W H : Int) (ps : List Pt) : List Int := ps.map (slantOf W H ps)
theorem sumBy_zipIdx {α : Type} (f : α → Int) (j : Nat) : ∀ (l : List α) (n : Nat), sumBy (fun q : α × Nat => if q.2 = j then f q.1 else 0) (l.zipIdx n) = if n ≤ j then ((l[j - n]?).map f).getD 0 else 0
  | [], n => by show (0 : Int) = _; simp
  | x :: l, n => by
    rw [List.zipIdx_cons]
    show (if n = j then f x else 0) + sumBy _ (l.zipIdx (n + 1)) = _
    rw [sumBy_zipIdx f j l (n + 1)]
    by_cases c : n = j
    · subst c
      rw [if_pos rfl, if_neg (by omega), if_pos (Nat.le_refl n), Nat.sub_self]; simp
    · by_cases d : n ≤ j
      · rw [if_neg c, if_pos d, if_pos (show n + 1 ≤ j by omega)]
        have : j - n = (j - (n + 1)) + 1 := by omega
        rw [this, List.getElem?_cons_succ]; simp
      · rw [if_neg c, if_neg d, if_neg (by omega)]; rfl
theorem sumBy_if {α : Type} (f : α → Int) (c : Prop) [Decidable c] : ∀ l : List α, sumBy (fun x => if c then f x else 0) l = if c then sumBy f l else 0
  | [] => by simp [sumBy]
  | x :: l => by
    show (if c then f x else 0) + sumBy _ l = if c then f x + sumBy f l else 0
    rw [sumBy_if f c l]
    by_cases h : c
    · rw [if_pos h, if_pos h, if_pos h]
    · rw [if_neg h, if_neg h, if_neg h]; rfl
theorem slant_alg {W H : Int} {ps : List Pt} (t : Tab W H ps) : allR (fun r => gapS (wS W H r) (sS W H ps r) (fuel W H)) (grp (esS W H ps)) (List.replicate ps.length 0) = slantN W H ps := by
  apply List.ext_getElem?
  intro j
  rw [(famS t).get]
  have e : sumBy (fun x : En => if x.2.2 = j then gapS (wS W H x.1) (sS W H ps x.1) (fuel W H) x.2.1 else 0) (esS W H ps) = ((ps[j]?).map (slantOf W H ps)).getD 0 := by
    unfold esS
    rw [sumBy_flatMap]
    have z := sumBy_zipIdx (slantOf W H ps) j ps 0
    rw [if_pos (Nat.zero_le _), Nat.sub_zero] at z
    rw [← z]
    refine sumBy_congr fun q _ => ?_
    unfold esOf
    rw [sumBy_flatMap]
    unfold slantOf
    rw [← sumBy_if]
    refine sumBy_congr fun a _ => ?_
    rw [sumBy_map, ← sumBy_if]
    refine sumBy_congr fun b _ => ?_
    show (if q.2 = j then gapS (wS W H (rnd W H a b)) (sS W H ps (rnd W H a b)) (fuel W H) (minu W H a b) else 0) = _
    rw [GG_of t.w t.h]
  rw [e]
  unfold slantN
  rw [List.getElem?_map]
  by_cases c : j < ps.length
  · rw [List.getElem?_replicate, if_pos c, List.getElem?_eq_getElem c]; simp
  · rw [List.getElem?_replicate, if_neg c, List.getElem?_eq_none (by omega)]; rfl
theorem sumBy_pos {α : Type} {f : α → Int} (h : ∀ x, 1 ≤ f x) : ∀ {l : List α}, l ≠ [] → 1 ≤ sumBy f l
  | [], h0 => absurd rfl h0
  | [x], _ => by show 1 ≤ f x + 0; have := h x; omega
  | x :: y :: l, _ => by show 1 ≤ f x + sumBy f (y :: l); have := h x; have := sumBy_pos h (l := y :: l) (by simp); omega
theorem sides_ne (x N : Int) : sides x N ≠ [] := by unfold sides; split <;> simp
theorem slant_pos (W H : Int) (ps : List Pt) : ∀ n ∈ slantN W H ps, 1 ≤ n := by
  intro n hn
  obtain ⟨p, _, rfl⟩ := List.mem_map.mp hn
  exact sumBy_pos (fun a => sumBy_pos (fun b => GG_pos _ _ _ _ _) (sides_ne _ _)) (sides_ne _ _)
/-! the table turned round, the mirrored one -/
def turnP (ps : List Pt) : List Pt := ps.map fun p => (p.2, p.1)
def mirP (W : Int) (ps : List Pt) : List Pt := ps.map fun p => (W - p.1, p.2)
theorem Tab.turn {W H : Int} {ps : List Pt} (t : Tab W H ps) : Tab H W (turnP ps) := by
  refine ⟨t.h, t.w, fun p hp => ?_, ?_⟩
  · obtain ⟨q, hq, rfl⟩ := List.mem_map.mp hp
    exact ⟨(t.on q hq).2, (t.on q hq).1⟩
  · refine List.pairwise_map.mpr (t.nd.imp fun {a b} h e => h ?_)
    exact Prod.ext (Prod.mk.inj e).2 (Prod.mk.inj e).1
theorem Tab.mir {W H : Int} {ps : List Pt} (t : Tab W H ps) : Tab W H (mirP W ps) := by
  refine ⟨t.w, t.h, fun p hp => ?_, ?_⟩
  · obtain ⟨q, hq, rfl⟩ := List.mem_map.mp hp
    have := t.on q hq
    refine ⟨?_, this.2⟩
    show 0 ≤ W - q.1 ∧ W - q.1 ≤ W
    omega
  · refine List.pairwise_map.mpr (t.nd.imp fun {a b} h e => h ?_)
    have h1 : W - a.1 = W - b.1 := (Prod.mk.inj e).1
    exact Prod.ext (by omega) (Prod.mk.inj e).2
theorem stand_turn (W H : Int) (ps : List Pt) (a b : Int) : stand H W (turnP ps) b a = stand W H ps a b := by
  unfold stand turnP
  rw [List.any_map]
  congr 1
  funext p
  exact Bool.and_comm _ _
theorem stand_mir (W H : Int) (ps : List Pt) (a b : Int) : stand W H (mirP W ps) a b = stand W H ps (a + W) b := by
  unfold stand mirP
  rw [List.any_map]
  congr 1
  funext p
  show (hits W (W - p.1) a && hits H p.2 b) = _
  rw [hits_mirror]
theorem fuel_turn (W H : Int) : fuel H W = fuel W H := by unfold fuel; rw [show 4 * H * W = 4 * W * H by grind]
theorem GG_turn (W H : Int) (ps : List Pt) (a b : Int) : GG H W (turnP ps) b a = GG W H ps a b := by
  unfold GG
  rw [fuel_turn]
  refine gapS_congr (fun j => ?_) (fun j => ?_)
  · exact Int.mul_comm _ _
  · exact stand_turn W H ps _ _
theorem GG_mir (W H : Int) (ps : List Pt) (a b : Int) : GG W H (mirP W ps) a b = GG W H ps (a + W) b := by
  unfold GG
  refine gapS_congr (fun j => ?_) (fun j => ?_)
  · show ww W H (a + (0 - j)) (b + (0 - j)) = ww W H (a + W + (0 - j)) (b + (0 - j))
    unfold ww
    rw [show a + W + (0 - j) = a + (0 - j) + W by omega, w1_shift]
  · show stand W H (mirP W ps) (a + (0 - j)) (b + (0 - j)) = stand W H ps (a + W + (0 - j)) (b + (0 - j))
    rw [stand_mir, show a + W + (0 - j) = a + (0 - j) + W by omega]
theorem GG_per (W H : Int) (ps : List Pt) (a b : Int) : GG W H ps (a + 2 * W) b = GG W H ps a b := by
  unfold GG
  refine gapS_congr (fun j => ww_congr ?_ (dvd_self_sub _ _)) (fun j => stand_congr ?_ (dvd_self_sub _ _))
  · rw [show a + 2 * W + (0 - j) - (a + (0 - j)) = 2 * W by omega]; exact Int.dvd_refl _
  · rw [show a + 2 * W + (0 - j) - (a + (0 - j)) = 2 * W by omega]; exact Int.dvd_refl _
theorem sumBy_swap {α β : Type} (f : α → β → Int) : ∀ (l : List α) (m : List β), sumBy (fun a => sumBy (fun b => f a b) m) l = sumBy (fun b => sumBy (fun a => f a b) l) m
  | [], m => (sumBy_zero fun _ _ => rfl).symm
  | x :: l, m => by
    show sumBy (f x) m + sumBy _ l = sumBy (fun b => f x b + sumBy (fun a => f a b) l) m
    rw [sumBy_swap f l m]
    have add : ∀ (g h : β → Int) (m : List β), sumBy (fun b => g b + h b) m = sumBy g m + sumBy h m := by
      intro g h m
      induction m with
      | nil => rfl
      | cons y m ih => show g y + h y + sumBy _ m = g y + sumBy g m + (h y + sumBy h m); rw [ih]; omega
    exact (add (f x) (fun b => sumBy (fun a => f a b) l) m).symm
theorem slant_turn (W H : Int) (ps : List Pt) : slantN H W (turnP ps) = slantN W H ps := by
  unfold slantN
  show List.map _ (List.map _ ps) = _
  rw [List.map_map]
  refine List.map_congr_left fun p _ => ?_
  show slantOf H W (turnP ps) (p.2, p.1) = slantOf W H ps p
  unfold slantOf
  rw [sumBy_swap]
  refine sumBy_congr fun a _ => sumBy_congr fun b _ => ?_
  exact GG_turn W H ps a b
theorem sides_mir {f g : Int → Int} {x N : Int} (h0 : 0 ≤ x) (h1 : x ≤ N) (hN : 0 < N) (hg : ∀ a, g a = f (a + N)) (hf : ∀ a, f (a + 2 * N) = f a) : sumBy g (sides (N - x) N) = sumBy f (sides x N) := by
  unfold sides
  by_cases c : 0 < x ∧ x < N
  · rw [if_pos c, if_pos (by omega)]
    show g (N - x) + (g (2 * N - (N - x)) + 0) = f x + (f (2 * N - x) + 0)
    rw [hg, hg, show N - x + N = 2 * N - x by omega, show 2 * N - (N - x) + N = x + 2 * N by omega, hf]; omega
  · rw [if_neg c, if_neg (by omega)]
    show g (N - x) + 0 = f x + 0
    rw [hg]
    by_cases z : x = 0
    · rw [z, show N - 0 + N = 0 + 2 * N by omega, hf]
    · rw [show x = N by omega, show N - N + N = N by omega]
theorem slant_mir {W H : Int} {ps : List Pt} (t : Tab W H ps) : slantN W H (mirP W ps) = slantN W H ps := by
  unfold slantN
  show List.map _ (List.map _ ps) = _
  rw [List.map_map]
  refine List.map_congr_left fun p hp => ?_
  show slantOf W H (mirP W ps) (W - p.1, p.2) = slantOf W H ps p
  unfold slantOf
  have on := t.on p hp
  refine sides_mir (f := fun a => sumBy (fun b => GG W H ps a b) (sides p.2 H)) on.1.1 on.1.2 t.w (fun a => ?_) (fun a => ?_)
  · exact sumBy_congr fun b _ => GG_mir W H ps a b
  · exact sumBy_congr fun b _ => GG_per W H ps a b
end Cu
/-! M6 -/
set_option linter.all false
namespace Cu
/-! straight starts: N the side that is run along, mv the moving part, fx the fixed one -/
def esOf1 (N : Int) (mv fx : Pt → Int) (p : Pt) (k : Nat) : List En := (sides (mv p) N).map fun a => (fx p, (a, k))
def esT (N : Int) (mv fx : Pt → Int) (ps : List Pt) : List En := ps.zipIdx.flatMap fun q => esOf1 N mv fx q.1 q.2
def sT (N : Int) (mv fx : Pt → Int) (ps : List Pt) (r t : Int) : Bool := ps.any fun p => decide (fx p = r) && hits N (mv p) t
def fuel1 (N : Int) : Nat := (2 * N).toNat
theorem mem_esT {N : Int} {mv fx : Pt → Int} {ps : List Pt} {x : En} : x ∈ esT N mv fx ps ↔ ∃ p k a, ps[k]? = some p ∧ a ∈ sides (mv p) N ∧ x = (fx p, (a, k)) := by
  unfold esT
  rw [List.mem_flatMap]
  constructor
  · rintro ⟨⟨p, k⟩, hq, h⟩
    obtain ⟨a, ha, e⟩ := List.mem_map.mp h
    exact ⟨p, k, a, mem_zipIdx'.mp hq, ha, e.symm⟩
  · rintro ⟨p, k, a, hq, ha, e⟩
    exact ⟨(p, k), mem_zipIdx'.mpr hq, List.mem_map.mpr ⟨a, ha, e.symm⟩⟩
structure Tab1 (N : Int) (mv fx : Pt → Int) (ps : List Pt) : Prop where
  n : 0 < N
  on : ∀ p ∈ ps, 0 ≤ mv p ∧ mv p ≤ N
  nd : ps.Pairwise fun p q => ¬ (mv p = mv q ∧ fx p = fx q)
theorem sT_iff {N : Int} {mv fx : Pt → Int} {ps : List Pt} {r t : Int} : sT N mv fx ps r t = true ↔ ∃ p ∈ ps, fx p = r ∧ (2 * N ∣ t - mv p ∨ 2 * N ∣ t + mv p) := by
  unfold sT
  rw [List.any_eq_true]
  constructor
  · rintro ⟨p, h1, h2⟩
    rw [Bool.and_eq_true, hits_iff, decide_eq_true_eq] at h2
    exact ⟨p, h1, h2⟩
  · rintro ⟨p, h1, h2⟩
    exact ⟨p, h1, by rw [Bool.and_eq_true, hits_iff, decide_eq_true_eq]; exact h2⟩
theorem sT_congr {N : Int} {mv fx : Pt → Int} {ps : List Pt} {r t t' : Int} (h : 2 * N ∣ t - t') : sT N mv fx ps r t = sT N mv fx ps r t' := by
  unfold sT
  congr 1
  funext p
  rw [hits_congr h]
theorem esT_nd {N : Int} {mv fx : Pt → Int} {ps : List Pt} (t : Tab1 N mv fx ps) : ((esT N mv fx ps).map fun x => (x.1, x.2.1)).Nodup := by
  unfold List.Nodup
  rw [List.pairwise_map]
  unfold esT
  rw [List.pairwise_flatMap]
  refine ⟨fun q hq => ?_, ?_⟩
  · unfold esOf1
    rw [List.pairwise_map]
    exact (sides_nd (x := mv q.1) (N := N)).imp fun {a b} h e => h (Prod.mk.inj e).2
  · have nd2 : ps.zipIdx.Pairwise fun q q' => ¬ (mv q.1 = mv q'.1 ∧ fx q.1 = fx q'.1) := by
      have : (ps.zipIdx.map Prod.fst).Pairwise fun p q => ¬ (mv p = mv q ∧ fx p = fx q) := by rw [List.zipIdx_map_fst]; exact t.nd
      exact List.pairwise_map.mp this
    refine nd2.imp_of_mem fun {q q'} hq hq' hne => ?_
    intro x hx y hy
    have on := t.on _ (List.mem_of_getElem? (mem_zipIdx'.mp hq))
    have on' := t.on _ (List.mem_of_getElem? (mem_zipIdx'.mp hq'))
    obtain ⟨a, ha, rfl⟩ := List.mem_map.mp hx
    obtain ⟨b, hb, rfl⟩ := List.mem_map.mp hy
    intro e
    have e1 : fx q.1 = fx q'.1 := (Prod.mk.inj e).1
    have e2 : a = b := (Prod.mk.inj e).2
    exact hne ⟨(place_of on.1 on.2 on'.1 on'.2 t.n ha hb (by rw [e2]; exact dvd_self_sub _ _)).2, e1⟩
theorem famT {N : Int} {mv fx : Pt → Int} {ps : List Pt} (t : Tab1 N mv fx ps) : Fam (esT N mv fx ps) (fun _ => w1 N) (sT N mv fx ps) (2 * N) (fuel1 N) ps.length where
  pos := by have := t.n; omega
  fuel := by unfold fuel1; omega
  wper := fun r x => w1_congr (by rw [show x + 2 * N - x = 2 * N by omega]; exact Int.dvd_mul_left 2 N)
  sper := fun r x => sT_congr (by rw [show x + 2 * N - x = 2 * N by omega]; exact Int.dvd_refl _)
  mem := fun x hx => by
    obtain ⟨p, k, a, hp, ha, rfl⟩ := mem_esT.mp hx
    have on := t.on p (List.mem_of_getElem? hp)
    have m := (mem_sides on.1 on.2 t.n).mp ha
    exact ⟨m.1.1, m.1.2, (List.getElem?_eq_some_iff.mp hp).1⟩
  st := fun r x _ h0 h1 => by
    rw [sT_iff]
    constructor
    · rintro ⟨p, hp, h2, h3⟩
      obtain ⟨k, hk⟩ := List.getElem?_of_mem hp
      have on := t.on p hp
      exact ⟨k, mem_esT.mpr ⟨p, k, x, hk, (mem_sides on.1 on.2 t.n).mpr ⟨⟨h0, h1⟩, h3⟩, by rw [h2]⟩⟩
    · rintro ⟨k, hk⟩
      obtain ⟨p, k', a, hp, ha, e⟩ := mem_esT.mp hk
      have e1 : r = fx p := (Prod.mk.inj e).1
      have e2 : x = a := (Prod.mk.inj (Prod.mk.inj e).2).1
      have on := t.on p (List.mem_of_getElem? hp)
      exact ⟨p, List.mem_of_getElem? hp, e1.symm, by rw [e2]; exact ((mem_sides on.1 on.2 t.n).mp ha).2⟩
  nd := esT_nd t
def tOf (N : Int) (mv fx : Pt → Int) (ps : List Pt) (p : Pt) : Int := sumBy (fun a => gapS (w1 N) (sT N mv fx ps (fx p)) (fuel1 N) a) (sides (mv p) N)
def straightN (W H : Int) (ps : List Pt) : List Int := ps.map fun p => tOf W (·.1) (·.2) ps p + tOf H (·.2) (·.1) ps p
theorem Tab.one {W H : Int} {ps : List Pt} (t : Tab W H ps) : Tab1 W (·.1) (·.2) ps :=
  ⟨t.w, fun p hp => (t.on p hp).1, t.nd.imp fun h e => h (Prod.ext e.1 e.2)⟩
theorem Tab.two {W H : Int} {ps : List Pt} (t : Tab W H ps) : Tab1 H (·.2) (·.1) ps :=
  ⟨t.h, fun p hp => (t.on p hp).2, t.nd.imp fun h e => h (Prod.ext e.2 e.1)⟩
abbrev goT (N : Int) (mv fx : Pt → Int) (ps : List Pt) (f : List Int) : List Int := allR (fun r => gapS (w1 N) (sT N mv fx ps r) (fuel1 N)) (grp (esT N mv fx ps)) f
theorem goT_get {N : Int} {mv fx : Pt → Int} {ps : List Pt} (t : Tab1 N mv fx ps) (f : List Int) (j : Nat) : (goT N mv fx ps f)[j]? = f[j]?.map (· + ((ps[j]?).map (tOf N mv fx ps)).getD 0) := by
  rw [(famT t).get]
  congr 2
  funext z
  congr 1
  unfold esT
  rw [sumBy_flatMap]
  have z := sumBy_zipIdx (tOf N mv fx ps) j ps 0
  rw [if_pos (Nat.zero_le _), Nat.sub_zero] at z
  rw [← z]
  refine sumBy_congr fun q _ => ?_
  unfold esOf1 tOf
  rw [sumBy_map, ← sumBy_if]
theorem straight_alg {W H : Int} {ps : List Pt} (t : Tab W H ps) : goT H (·.2) (·.1) ps (goT W (·.1) (·.2) ps (List.replicate ps.length 0)) = straightN W H ps := by
  apply List.ext_getElem?
  intro j
  rw [goT_get t.two, goT_get t.one]
  unfold straightN
  rw [List.getElem?_map]
  by_cases c : j < ps.length
  · rw [List.getElem?_replicate, if_pos c, List.getElem?_eq_getElem c]; simp
  · rw [List.getElem?_replicate, if_neg c, List.getElem?_eq_none (by omega)]; rfl
theorem tOf_pos (N : Int) (mv fx : Pt → Int) (ps : List Pt) (p : Pt) : 1 ≤ tOf N mv fx ps p := sumBy_pos (fun a => gapS_pos (w1_pos N) _ _ _) (sides_ne _ _)
theorem straight_pos (W H : Int) (ps : List Pt) : ∀ n ∈ straightN W H ps, 1 ≤ n := by
  intro n hn
  obtain ⟨p, _, rfl⟩ := List.mem_map.mp hn
  have := tOf_pos W (·.1) (·.2) ps p
  have := tOf_pos H (·.2) (·.1) ps p
  omega
theorem any_congr {α : Type} {f g : α → Bool} : ∀ {l : List α}, (∀ x ∈ l, f x = g x) → l.any f = l.any g
  | [], _ => rfl
  | x :: l, h => by rw [List.any_cons, List.any_cons, h x (List.mem_cons_self ..), any_congr fun y hy => h y (List.mem_cons_of_mem _ hy)]
theorem straight_turn (W H : Int) (ps : List Pt) : straightN H W (turnP ps) = straightN W H ps := by
  unfold straightN
  show List.map _ (List.map _ ps) = _
  rw [List.map_map]
  refine List.map_congr_left fun p _ => ?_
  show tOf H (·.1) (·.2) (turnP ps) (p.2, p.1) + tOf W (·.2) (·.1) (turnP ps) (p.2, p.1) = _
  have s1 : sT H (·.1) (·.2) (turnP ps) p.1 = sT H (·.2) (·.1) ps p.1 := by
    funext x; unfold sT turnP; rw [List.any_map]; rfl
  have s2 : sT W (·.2) (·.1) (turnP ps) p.2 = sT W (·.1) (·.2) ps p.2 := by
    funext x; unfold sT turnP; rw [List.any_map]; rfl
  have e1 : tOf H (·.1) (·.2) (turnP ps) (p.2, p.1) = tOf H (·.2) (·.1) ps p := by
    unfold tOf
    show sumBy (fun a => gapS (w1 H) (sT H (·.1) (·.2) (turnP ps) p.1) (fuel1 H) a) (sides p.2 H) = _
    rw [s1]
  have e2 : tOf W (·.2) (·.1) (turnP ps) (p.2, p.1) = tOf W (·.1) (·.2) ps p := by
    unfold tOf
    show sumBy (fun a => gapS (w1 W) (sT W (·.2) (·.1) (turnP ps) p.2) (fuel1 W) a) (sides p.1 W) = _
    rw [s2]
  rw [e1, e2]; omega
theorem straight_mir {W H : Int} {ps : List Pt} (t : Tab W H ps) : straightN W H (mirP W ps) = straightN W H ps := by
  unfold straightN
  show List.map _ (List.map _ ps) = _
  rw [List.map_map]
  refine List.map_congr_left fun p hp => ?_
  show tOf W (·.1) (·.2) (mirP W ps) (W - p.1, p.2) + tOf H (·.2) (·.1) (mirP W ps) (W - p.1, p.2) = _
  have on := t.on p hp
  have e1 : tOf W (·.1) (·.2) (mirP W ps) (W - p.1, p.2) = tOf W (·.1) (·.2) ps p := by
    unfold tOf
    refine sides_mir (f := fun a => gapS (w1 W) (sT W (·.1) (·.2) ps p.2) (fuel1 W) a) on.1.1 on.1.2 t.w (fun a => ?_) (fun a => ?_)
    · refine gapS_congr (fun j => ?_) (fun j => ?_)
      · rw [show a + W - j = a - j + W by omega, w1_shift]
      · unfold sT mirP
        rw [List.any_map]
        refine any_congr fun q _ => ?_
        show (decide (q.2 = p.2) && hits W (W - q.1) (a - j)) = (decide (q.2 = p.2) && hits W q.1 (a + W - j))
        rw [hits_mirror, show a + W - j = a - j + W by omega]
    · refine gapS_congr (fun j => w1_congr ?_) (fun j => sT_congr ?_)
      · rw [show a + 2 * W - j - (a - j) = 2 * W by omega]; exact Int.dvd_mul_left 2 W
      · rw [show a + 2 * W - j - (a - j) = 2 * W by omega]; exact Int.dvd_refl _
  have s2 : sT H (·.2) (·.1) (mirP W ps) (W - p.1) = sT H (·.2) (·.1) ps p.1 := by
    funext x; unfold sT mirP; rw [List.any_map]
    refine any_congr fun q _ => ?_
    show (decide (W - q.1 = W - p.1) && hits H q.2 x) = (decide (q.1 = p.1) && hits H q.2 x)
    by_cases c : q.1 = p.1
    · rw [decide_eq_true c, decide_eq_true (by rw [c])]
    · rw [decide_eq_false c, decide_eq_false (by omega)]
  have e2 : tOf H (·.2) (·.1) (mirP W ps) (W - p.1, p.2) = tOf H (·.2) (·.1) ps p := by
    unfold tOf
    show sumBy (fun a => gapS (w1 H) (sT H (·.2) (·.1) (mirP W ps) (W - p.1)) (fuel1 H) a) (sides p.2 H) = _
    rw [s2]
  rw [e1, e2]
end Cu
/-! M7 -/
set_option linter.all false
namespace Cu
/-! edges: classes of minutes -/
def ind (e : Int × Int) (t : Int) : Int := if t % e.2 = e.1 then 1 else 0
def wE : List (Int × Int) → Int → Int
  | [e], t => 1 + ind e t
  | [e, f], t => (1 + ind e t) * (1 + ind f t)
  | _, _ => 0
/-- a class: its remainder, its modulus -/
def Cl (e : Int × Int) : Prop := 0 ≤ e.1 ∧ e.1 < e.2
theorem numTo_ind {e : Int × Int} (h : Cl e) {last : Int} (hl : -1 ≤ last) : numTo last e.1 e.2 = S (ind e) (last + 1).toNat := numTo_S h.1 h.2 hl
/-- the corner's part of the weight -/
noncomputable def cornerTo (e f : Int × Int) (last : Int) : Int := if (f.1 - e.1) % gc e.2 f.2 = 0 then numTo last (crt e.1 e.2 f.1 f.2) (lc e.2 f.2) else 0
theorem corner_S {e f : Int × Int} (he : Cl e) (hf : Cl f) {last : Int} (hl : -1 ≤ last) : cornerTo e f last = S (fun t => ind e t * ind f t) (last + 1).toNat := by
  have m0 : 0 < e.2 := by have := he.1; have := he.2; omega
  have m1 : 0 < f.2 := by have := hf.1; have := hf.2; omega
  have re : ∀ t : Int, (t % e.2 = e.1) ↔ e.2 ∣ t - e.1 := fun t => by
    rw [← emod_iff, Int.emod_eq_of_lt he.1 he.2]
  have rf : ∀ t : Int, (t % f.2 = f.1) ↔ f.2 ∣ t - f.1 := fun t => by
    rw [← emod_iff, Int.emod_eq_of_lt hf.1 hf.2]
  have prod : ∀ t, ind e t * ind f t = if t % e.2 = e.1 ∧ t % f.2 = f.1 then 1 else 0 := fun t => by
    unfold ind
    by_cases a : t % e.2 = e.1 <;> by_cases b : t % f.2 = f.1 <;> simp [a, b]
  unfold cornerTo
  by_cases c : (f.1 - e.1) % gc e.2 f.2 = 0
  · rw [if_pos c]
    have k := crt_is m0 m1 c
    rw [numTo_S k.ge k.lt hl]
    refine S_congr fun t _ => ?_
    rw [prod]
    have := crt_class m0 m1 c (t : Int)
    by_cases d : (t : Int) % lc e.2 f.2 = crt e.1 e.2 f.1 f.2
    · rw [if_pos d, if_pos ⟨(re _).mpr (this.mp d).1, (rf _).mpr (this.mp d).2⟩]
    · rw [if_neg d, if_neg fun z => d (this.mpr ⟨(re _).mp z.1, (rf _).mp z.2⟩)]
  · rw [if_neg c]
    have : S (fun t => ind e t * ind f t) (last + 1).toNat = S (fun _ => 0) (last + 1).toNat := S_congr fun t _ => by
      rw [prod, if_neg fun z => c (IsCh.agree ((re _).mp z.1) ((rf _).mp z.2))]
    rw [this]
    have z : ∀ n : Nat, S (fun _ => 0) n = 0 := fun n => by
      induction n with
      | zero => rfl
      | succ n ih => rw [S_succ, ih]; rfl
    exact (z _).symm
theorem weight_two {e f : Int × Int} (he : Cl e) (hf : Cl f) {last : Int} (hl : -1 ≤ last) : last + 1 + (numTo last e.1 e.2 + numTo last f.1 f.2) + cornerTo e f last = upTo (wE [e, f]) last := by
  rw [numTo_ind he hl, numTo_ind hf hl, corner_S he hf hl]
  unfold upTo
  have : S (wE [e, f]) (last + 1).toNat = S (fun t => ((fun _ => 1) t + (ind e t + ind f t)) + ind e t * ind f t) (last + 1).toNat := S_congr fun t _ => by
    show (1 + ind e t) * (1 + ind f t) = 1 + (ind e t + ind f t) + ind e t * ind f t
    grind
  rw [this, S_add (fun t => (fun _ => 1) t + (ind e t + ind f t)), S_add (fun _ => 1), S_add (ind e), S_one]
  omega
theorem weight_one {e : Int × Int} (he : Cl e) {last : Int} (hl : -1 ≤ last) : last + 1 + numTo last e.1 e.2 = upTo (wE [e]) last := by
  rw [numTo_ind he hl]
  unfold upTo
  have : S (wE [e]) (last + 1).toNat = S (fun t => (fun _ => 1) t + ind e t) (last + 1).toNat := rfl
  rw [this, S_add (fun _ => 1), S_one]
  omega
/-- the edges of a slanting round -/
theorem wE_slant {W H r : Int} (hW : 0 < W) : wE [((-r) % W, W), (0, H)] = wS W H r := by
  funext t
  show (1 + ind ((-r) % W, W) t) * (1 + ind (0, H) t) = w1 W (t + r) * w1 H t
  congr 1
  show 1 + (if t % W = (-r) % W then 1 else 0) = 1 + (if (t + r) % W = 0 then 1 else 0)
  have : (t % W = (-r) % W) ↔ (t + r) % W = 0 := by
    rw [emod_iff, ← Int.dvd_iff_emod_eq_zero, show t - -r = t + r by omega]
  by_cases c : t % W = (-r) % W
  · rw [if_pos c, if_pos (this.mp c)]
  · rw [if_neg c, if_neg fun z => c (this.mpr z)]
theorem wE_straight {N : Int} : wE [(0, N)] = w1 N := rfl
/-! whole rounds -/
theorem class_whole {r m L : Int} (h0 : 0 ≤ r) (h1 : r < m) (hd : m ∣ L) (hL : 0 < L) : S (ind (r, m)) L.toNat = L / m := by
  have hm : 0 < m := by omega
  obtain ⟨q, e⟩ := hd
  have c := S_class h0 h1 L.toNat
  have hq : 0 < q := by
    have : 0 < m * q := by rw [← e]; exact hL
    exact Int.pos_of_mul_pos_right this (by omega)
  have mq : m ≤ m * q := by
    have := Int.mul_le_mul_of_nonneg_left (show (1 : Int) ≤ q by omega) (show 0 ≤ m by omega)
    omega
  show S (fun t => if t % m = r then 1 else 0) L.toNat = _
  rw [c, show ((L.toNat : Nat) : Int) = L by omega, if_neg (by omega), e, Int.mul_ediv_cancel_left _ (by omega)]
  have : m * q - 1 - r = (m - 1 - r) + m * (q - 1) := by rw [Int.mul_sub]; omega
  rw [this, Int.add_mul_ediv_left _ _ (by omega), Int.ediv_eq_zero_of_lt (by omega) (by omega)]
  omega
/-- as the law reckons a round -/
def roundW (W H r : Int) : Int :=
  (2 * W / gc (2 * W) (2 * H) * 2 * H + 2 * W / gc (2 * W) (2 * H) * 2 * H / W + 2 * W / gc (2 * W) (2 * H) * 2 * H / H) +
    if r % gc W H = 0 then 2 * W / gc (2 * W) (2 * H) * 2 * H / (W / gc W H * H) else 0
theorem ln_eq (W H : Int) : 2 * W / gc (2 * W) (2 * H) * 2 * H = ln W H := by
  show _ = 2 * W / gc (2 * W) (2 * H) * (2 * H)
  rw [Int.mul_assoc]
theorem round_whole {W H : Int} (hW : 0 < W) (hH : 0 < H) (r : Int) : S (wS W H r) (ln W H).toNat = roundW W H r := by
  unfold roundW
  rw [ln_eq]
  have lp : 0 < ln W H := lc_pos (by omega) (by omega)
  have dW : W ∣ ln W H := Int.dvd_trans (Int.dvd_mul_left 2 W) (lc_l (by omega) (by omega))
  have dH : H ∣ ln W H := Int.dvd_trans (Int.dvd_mul_left 2 H) lc_r
  have cl1 : Cl ((-r) % W, W) := ⟨Int.emod_nonneg _ (by omega), Int.emod_lt_of_pos _ hW⟩
  have cl2 : Cl ((0 : Int), H) := ⟨Int.le_refl _, hH⟩
  rw [← wE_slant hW]
  have w := weight_two cl1 cl2 (last := ln W H - 1) (by omega)
  have e : upTo (wE [((-r) % W, W), (0, H)]) (ln W H - 1) = S (wE [((-r) % W, W), (0, H)]) (ln W H).toNat := by unfold upTo; rw [Int.sub_add_cancel]
  rw [← e, ← w, Int.sub_add_cancel]
  have n1 : numTo (ln W H - 1) ((-r) % W) W = ln W H / W := by
    have := numTo_ind cl1 (last := ln W H - 1) (by omega)
    rw [Int.sub_add_cancel] at this
    rw [this]; exact class_whole cl1.1 cl1.2 dW lp
  have n2 : numTo (ln W H - 1) 0 H = ln W H / H := by
    have := numTo_ind cl2 (last := ln W H - 1) (by omega)
    rw [Int.sub_add_cancel] at this
    rw [this]; exact class_whole cl2.1 cl2.2 dH lp
  show ln W H + (numTo (ln W H - 1) ((-r) % W) W + numTo (ln W H - 1) 0 H) + cornerTo ((-r) % W, W) (0, H) (ln W H - 1) = _
  rw [n1, n2]
  have cond : (0 - (-r) % W) % gc W H = 0 ↔ r % gc W H = 0 := by
    rw [← Int.dvd_iff_emod_eq_zero, ← Int.dvd_iff_emod_eq_zero]
    have d := Int.dvd_trans (gc_l W H) (dvd_emod_sub (-r) W)
    have e : r = (0 - (-r) % W) + ((-r) % W - -r) := by omega
    constructor
    · intro h; rw [e]; exact Int.dvd_add h d
    · intro h
      have := Int.dvd_sub h d
      rwa [show r - ((-r) % W - -r) = 0 - (-r) % W by omega] at this
  unfold cornerTo
  by_cases c : r % gc W H = 0
  · have c' : ((0, H) : Int × Int).1 - (((-r) % W, W) : Int × Int).1 = 0 - (-r) % W := rfl
    rw [if_pos (show (((0, H) : Int × Int).1 - (((-r) % W, W) : Int × Int).1) % gc W H = 0 from cond.mpr c), if_pos c]
    have k := crt_is hW hH (cond.mpr c)
    have n3 : numTo (ln W H - 1) (crt ((-r) % W) W 0 H) (lc W H) = ln W H / lc W H := by
      have := numTo_S k.ge k.lt (last := ln W H - 1) (by omega)
      rw [Int.sub_add_cancel] at this
      rw [this]; exact class_whole k.ge k.lt (lc_dvd hW hH dW dH) lp
    show _ + numTo (ln W H - 1) (crt ((-r) % W) W 0 H) (lc W H) = _
    rw [n3]
    show ln W H + (ln W H / W + ln W H / H) + ln W H / lc W H = ln W H + ln W H / W + ln W H / H + ln W H / lc W H
    omega
  · rw [if_neg (show ¬ (((0, H) : Int × Int).1 - (((-r) % W, W) : Int × Int).1) % gc W H = 0 from fun z => c (cond.mp z)), if_neg c]
    omega
theorem straight_whole {N : Int} (hN : 0 < N) : S (w1 N) (2 * N).toNat = 2 * (N + 1) := by
  have cl : Cl ((0 : Int), N) := ⟨Int.le_refl _, hN⟩
  have : S (w1 N) (2 * N).toNat = S (fun t => (fun _ => 1) t + ind (0, N) t) (2 * N).toNat := rfl
  rw [this, S_add (fun _ => 1), S_one, class_whole cl.1 cl.2 (Int.dvd_mul_left 2 N) (by omega), Int.mul_ediv_cancel _ (by omega)]
  omega
/-! the law's lists without repeats -/
def addNew (acc : List Int) (x : Int) : List Int := if x ∈ acc then acc else acc ++ [x]
def dd (l : List Int) : List Int := l.foldl addNew []
theorem addNew_nd {acc : List Int} (x : Int) (h : acc.Nodup) : (addNew acc x).Nodup := by
  unfold addNew
  by_cases c : x ∈ acc
  · rw [if_pos c]; exact h
  · rw [if_neg c]; exact nodup_snoc h c
theorem mem_addNew {acc : List Int} {x y : Int} : y ∈ addNew acc x ↔ y ∈ acc ∨ y = x := by
  unfold addNew
  by_cases c : x ∈ acc
  · rw [if_pos c]
    exact ⟨.inl, fun h => h.elim id fun z => by rw [z]; exact c⟩
  · rw [if_neg c, List.mem_append, List.mem_singleton]
theorem ddF : ∀ (l acc : List Int), acc.Nodup → (l.foldl addNew acc).Nodup ∧ ∀ y, y ∈ l.foldl addNew acc ↔ y ∈ acc ∨ y ∈ l
  | [], acc, h => ⟨h, fun y => by simp⟩
  | x :: l, acc, h => by
    obtain ⟨h1, h2⟩ := ddF l (addNew acc x) (addNew_nd x h)
    refine ⟨h1, fun y => ?_⟩
    show y ∈ l.foldl addNew (addNew acc x) ↔ _
    rw [h2, mem_addNew, List.mem_cons, or_assoc]
theorem dd_nd (l : List Int) : (dd l).Nodup := (ddF l [] List.nodup_nil).1
theorem mem_dd {l : List Int} {y : Int} : y ∈ dd l ↔ y ∈ l := by
  rw [show dd l = l.foldl addNew [] from rfl, (ddF l [] List.nodup_nil).2]; simp
/-- the remainders that the law asks of a pocket -/
def firsts (c : Int) (p : Pt) : List Int := [(p.1 - p.2) % c, (p.1 + p.2) % c, (0 - p.1 - p.2) % c, (p.2 - p.1) % c]
def roundsL (W H : Int) (ps : List Pt) : List Int := dd (ps.flatMap (firsts (gc (2 * W) (2 * H))))
theorem sides_has {x N : Int} (h0 : 0 ≤ x) (h1 : x ≤ N) (hN : 0 < N) : (∃ a ∈ sides x N, 2 * N ∣ a - x) ∧ ∃ a ∈ sides x N, 2 * N ∣ a + x := by
  constructor
  · exact ⟨x, (mem_sides h0 h1 hN).mpr ⟨by omega, .inl (dvd_self_sub _ _)⟩, dvd_self_sub _ _⟩
  · have d : 2 * N ∣ (-x) % (2 * N) + x := by
      have := dvd_emod_sub (-x) (2 * N)
      rwa [show (-x) % (2 * N) - -x = (-x) % (2 * N) + x by omega] at this
    exact ⟨_, (mem_sides h0 h1 hN).mpr ⟨⟨Int.emod_nonneg _ (by omega), Int.emod_lt_of_pos _ (by omega)⟩, .inr d⟩, d⟩
theorem rnd_val {W H a b x y : Int} (h1 : 2 * W ∣ a - x) (h2 : 2 * H ∣ b - y) : rnd W H a b = (x - y) % cm W H := by
  unfold rnd
  apply emod_iff.mpr
  have := Int.dvd_sub (Int.dvd_trans (gc_l (2 * W) (2 * H)) h1) (Int.dvd_trans (gc_r (2 * W) (2 * H)) h2)
  rwa [show a - x - (b - y) = a - b - (x - y) by omega] at this
theorem keysS {W H : Int} {ps : List Pt} (t : Tab W H ps) (r : Int) : (∃ e, (r, e) ∈ esS W H ps) ↔ r ∈ roundsL W H ps := by
  unfold roundsL
  rw [mem_dd, List.mem_flatMap]
  constructor
  · rintro ⟨e, he⟩
    obtain ⟨p, k, a, b, hp, ha, hb, eq⟩ := mem_esS.mp he
    have hp' := List.mem_of_getElem? hp
    have on := t.on p hp'
    have er : r = rnd W H a b := (Prod.mk.inj eq).1
    refine ⟨p, hp', ?_⟩
    rw [er]
    have neg : ∀ {N a x : Int}, 2 * N ∣ a + x → 2 * N ∣ a - -x := fun {N a x} h => by rwa [show a - -x = a + x by omega]
    rcases ((mem_sides on.1.1 on.1.2 t.w).mp ha).2 with h1 | h1 <;> rcases ((mem_sides on.2.1 on.2.2 t.h).mp hb).2 with h2 | h2
    · rw [rnd_val h1 h2]; simp [firsts]
    · rw [rnd_val h1 (neg h2), show p.1 - -p.2 = p.1 + p.2 by omega]; simp [firsts]
    · rw [rnd_val (neg h1) h2, show -p.1 - p.2 = 0 - p.1 - p.2 by omega]; simp [firsts]
    · rw [rnd_val (neg h1) (neg h2), show -p.1 - -p.2 = p.2 - p.1 by omega]; simp [firsts]
  · rintro ⟨p, hp, hr⟩
    obtain ⟨k, hk⟩ := List.getElem?_of_mem hp
    have on := t.on p hp
    obtain ⟨⟨a1, ha1, d1⟩, a2, ha2, d2⟩ := sides_has on.1.1 on.1.2 t.w
    obtain ⟨⟨b1, hb1, f1⟩, b2, hb2, f2⟩ := sides_has on.2.1 on.2.2 t.h
    have neg : ∀ {N a x : Int}, 2 * N ∣ a + x → 2 * N ∣ a - -x := fun {N a x} h => by rwa [show a - -x = a + x by omega]
    have hr' : r = (p.1 - p.2) % cm W H ∨ r = (p.1 + p.2) % cm W H ∨ r = (0 - p.1 - p.2) % cm W H ∨ r = (p.2 - p.1) % cm W H := by simpa [firsts] using hr
    rcases hr' with e | e | e | e
    · exact ⟨_, mem_esS.mpr ⟨p, k, a1, b1, hk, ha1, hb1, by rw [e, rnd_val d1 f1]⟩⟩
    · exact ⟨_, mem_esS.mpr ⟨p, k, a1, b2, hk, ha1, hb2, by rw [e, rnd_val d1 (neg f2), show p.1 - -p.2 = p.1 + p.2 by omega]⟩⟩
    · exact ⟨_, mem_esS.mpr ⟨p, k, a2, b1, hk, ha2, hb1, by rw [e, rnd_val (neg d2) f1, show -p.1 - p.2 = 0 - p.1 - p.2 by omega]⟩⟩
    · exact ⟨_, mem_esS.mpr ⟨p, k, a2, b2, hk, ha2, hb2, by rw [e, rnd_val (neg d2) (neg f2), show -p.1 - -p.2 = p.2 - p.1 by omega]⟩⟩
theorem zeros_sum (n : Nat) : (List.replicate n (0 : Int)).sum = 0 := by
  induction n with
  | zero => rfl
  | succ n ih => rw [List.replicate_succ, List.sum_cons, ih]; rfl
theorem slant_sum {W H : Int} {ps : List Pt} (t : Tab W H ps) : (slantN W H ps).sum = sumBy (roundW W H) (roundsL W H ps) := by
  rw [← slant_alg t, (famS t).sum (List.length_replicate ..), zeros_sum, Int.zero_add]
  rw [sumBy_congr fun r _ => round_whole t.w t.h r]
  refine sumBy_mem _ (grp_good _).nd (dd_nd _) fun r => ?_
  rw [(grp_good _).key, keysS t]
/-- rows, columns -/
def rowsL (ps : List Pt) : List Int := dd (ps.map (·.2))
def colsL (ps : List Pt) : List Int := dd (ps.map (·.1))
theorem sumBy_const {α : Type} (c : Int) : ∀ l : List α, sumBy (fun _ => c) l = (l.length : Int) * c
  | [] => by simp [sumBy]
  | x :: l => by show c + sumBy _ l = _; rw [sumBy_const c l, List.length_cons, Int.natCast_add, Int.add_mul]; omega
theorem goT_sum {N : Int} {mv fx : Pt → Int} {ps : List Pt} (t : Tab1 N mv fx ps) {f : List Int} (hf : f.length = ps.length) : (goT N mv fx ps f).sum = f.sum + ((dd (ps.map fx)).length : Int) * (2 * (N + 1)) := by
  rw [(famT t).sum hf]
  congr 1
  rw [sumBy_congr fun r _ => straight_whole t.n, ← sumBy_const (α := Int)]
  refine sumBy_mem _ (grp_good _).nd (dd_nd _) fun r => ?_
  rw [(grp_good _).key, mem_dd, List.mem_map]
  constructor
  · rintro ⟨e, he⟩
    obtain ⟨p, k, a, hp, ha, eq⟩ := mem_esT.mp he
    exact ⟨p, List.mem_of_getElem? hp, (Prod.mk.inj eq).1.symm⟩
  · rintro ⟨p, hp, rfl⟩
    obtain ⟨k, hk⟩ := List.getElem?_of_mem hp
    have on := t.on p hp
    obtain ⟨⟨a, ha, _⟩, _⟩ := sides_has on.1 on.2 t.n
    exact ⟨_, mem_esT.mpr ⟨p, k, a, hk, ha, rfl⟩⟩
theorem straight_sum {W H : Int} {ps : List Pt} (t : Tab W H ps) : (straightN W H ps).sum = ((rowsL ps).length : Int) * 2 * (W + 1) + ((colsL ps).length : Int) * 2 * (H + 1) := by
  rw [← straight_alg t, goT_sum t.two (by rw [allR_len, List.length_replicate]), goT_sum t.one (List.length_replicate ..), zeros_sum, Int.zero_add, Int.mul_assoc, Int.mul_assoc]
  rfl
end Cu
/-! M8 -/
set_option linter.all false
namespace Cu
/-! Euclid's steps -/
theorem gc_step {a b : Int} (ha : 0 < a) (hb : 0 < b) : gc b (a % b) = gc a b := by
  show ((Int.gcd b (a % b) : Nat) : Int) = ((Int.gcd a b : Nat) : Int)
  congr 1
  show Nat.gcd b.natAbs (a % b).natAbs = Nat.gcd a.natAbs b.natAbs
  have e : (a % b).natAbs = a.natAbs % b.natAbs := by
    apply Int.ofNat.inj
    show (((a % b).natAbs : Nat) : Int) = ((a.natAbs % b.natAbs : Nat) : Int)
    rw [Int.natCast_emod, Int.natAbs_of_nonneg (Int.emod_nonneg _ (by omega)), Int.natAbs_of_nonneg (by omega), Int.natAbs_of_nonneg (by omega)]
  rw [e, Nat.gcd_comm, ← Nat.gcd_rec, Nat.gcd_comm]
theorem gc_zero {a : Int} (ha : 0 < a) : gc a 0 = a := by
  show ((Int.gcd a 0 : Nat) : Int) = a
  rw [Int.gcd_zero_right]; omega
/-- how near the end is -/
def Pot (M : Int) (i : Nat) (a b : Int) : Prop := 0 < a ∧ 0 ≤ b ∧ ((i = 0 ∧ b ≤ M) ∨ ∃ j, i = j + 1 ∧ b < a ∧ a * b * 2 ^ j ≤ M * M)
theorem Pot.start {M a b : Int} (ha : 0 < a) (hb : 0 ≤ b) (h : b ≤ M) : Pot M 0 a b := ⟨ha, hb, .inl ⟨rfl, h⟩⟩
theorem Pot.stay {M a : Int} {i : Nat} (h : Pot M i a 0) : Pot M (i + 1) a 0 := by
  refine ⟨h.1, h.2.1, .inr ⟨i, rfl, h.1, ?_⟩⟩
  rw [Int.mul_zero, Int.zero_mul]
  rcases Int.le_total 0 M with z | z
  · exact Int.mul_nonneg z z
  · have := Int.mul_nonneg (show 0 ≤ -M by omega) (show 0 ≤ -M by omega)
    rwa [Int.neg_mul_neg] at this
theorem Pot.step {M a b : Int} {i : Nat} (h : Pot M i a b) (hb : 0 < b) : Pot M (i + 1) b (a % b) := by
  have r0 := Int.emod_nonneg a (show b ≠ 0 by omega)
  have r1 := Int.emod_lt_of_pos a hb
  refine ⟨hb, r0, .inr ⟨i, rfl, r1, ?_⟩⟩
  rcases h.2.2 with ⟨e, hM⟩ | ⟨j, e, hlt, hp⟩
  · subst e
    have h1 : b * (a % b) ≤ b * b := Int.mul_le_mul_of_nonneg_left (by omega) (by omega)
    have h2 : b * b ≤ M * M := Int.mul_le_mul hM hM (by omega) (by omega)
    rw [show (2 : Int) ^ 0 = 1 from rfl, Int.mul_one]; omega
  · subst e
    have q1 : 1 ≤ a / b := (Int.le_ediv_iff_mul_le hb).mpr (by omega)
    have d := Int.mul_ediv_add_emod a b
    have q2 : b ≤ b * (a / b) := by
      have := Int.mul_le_mul_of_nonneg_left q1 (show 0 ≤ b by omega)
      omega
    have h2 : 2 * (a % b) ≤ a := by omega
    have h3 : b * (2 * (a % b)) ≤ b * a := Int.mul_le_mul_of_nonneg_left h2 (by omega)
    have p : (0 : Int) ≤ 2 ^ j := Int.le_of_lt (Int.pow_pos (by omega))
    have h4 := Int.mul_le_mul_of_nonneg_right h3 p
    have e1 : b * (a % b) * 2 ^ (j + 1) = b * (2 * (a % b)) * 2 ^ j := by rw [Int.pow_succ]; grind
    have e2 : b * a * 2 ^ j = a * b * 2 ^ j := by rw [Int.mul_comm b a]
    rw [e1]
    omega
theorem Pot.done {M a b : Int} (h : Pot M 400 a b) (hM : M * M < 2 ^ 399) : b = 0 := by
  rcases h.2.2 with ⟨e, _⟩ | ⟨j, e, hlt, hp⟩
  · cases e
  · have ej : j = 399 := by omega
    subst ej
    by_cases c : b = 0
    · exact c
    · have h0 := h.1
      have h1 : (1 : Int) ≤ a * b := by
        have := Int.mul_pos h0 (show 0 < b by have := h.2.1; omega)
        omega
      have h2 : (1 : Int) * 2 ^ 399 ≤ a * b * 2 ^ 399 := Int.mul_le_mul_of_nonneg_right h1 (Int.le_of_lt (Int.pow_pos (by omega)))
      omega
/-- the greatest common divisor, in the making -/
structure GI (g M : Int) (i : Nat) (a b : Int) : Prop where
  pot : Pot M i a b
  gcd : gc a b = g
theorem GI.start {M a b : Int} (ha : 0 < a) (hb : 0 ≤ b) (h : b ≤ M) : GI (gc a b) M 0 a b := ⟨.start ha hb h, rfl⟩
theorem GI.step {g M a b : Int} {i : Nat} (h : GI g M i a b) (hb : 0 < b) : GI g M (i + 1) b (a % b) := ⟨h.pot.step hb, by rw [gc_step h.pot.1 hb]; exact h.gcd⟩
theorem GI.stay {g M a b : Int} {i : Nat} (h : GI g M i a b) (hb : ¬ 0 < b) : GI g M (i + 1) a b := by
  have e : b = 0 := by have := h.pot.2.1; omega
  subst e
  exact ⟨h.pot.stay, h.gcd⟩
theorem GI.done {g M a b : Int} (h : GI g M 400 a b) (hM : M * M < 2 ^ 399) : a = g := by
  have e := h.pot.done hM
  subst e
  rw [← h.gcd, gc_zero h.pot.1]
/-- an inverse, in the making: n the number, m the modulus; l, r, f, s as they stand -/
structure VI (n m B : Int) (l r f s : Int) : Prop where
  l0 : 0 < l
  r0 : 0 ≤ r
  lB : l ≤ B
  rB : r ≤ B
  g : gc l r = 1
  fl : m ∣ f * n - l
  sr : m ∣ s * n - r
  sz : ∃ e : Int, (e = 1 ∨ e = -1) ∧ 0 ≤ e * f ∧ 0 ≤ -(e * s) ∧ e * f * r + -(e * s) * l = m
theorem VI.start {n m B : Int} (hn : 0 < n) (hm : 0 < m) (hg : gc n m = 1) (h1 : n ≤ B) (h2 : m ≤ B) : VI n m B n m 1 0 where
  l0 := hn
  r0 := by omega
  lB := h1
  rB := h2
  g := hg
  fl := by rw [Int.one_mul]; exact dvd_self_sub _ _
  sr := by rw [Int.zero_mul, Int.zero_sub]; exact Int.dvd_neg.mpr (Int.dvd_refl _)
  sz := ⟨1, .inl rfl, by omega, by omega, by omega⟩
theorem div_mod {a b : Int} : a - a / b * b = a % b := by
  rw [Int.emod_def, Int.mul_comm b]
theorem VI.step {n m B l r f s : Int} (v : VI n m B l r f s) (hr : 0 < r) : VI n m B r (l % r) s (f - l / r * s) where
  l0 := hr
  r0 := Int.emod_nonneg _ (by omega)
  lB := v.rB
  rB := by have := Int.emod_lt_of_pos l hr; have := v.rB; omega
  g := by rw [gc_step v.l0 hr]; exact v.g
  fl := v.sr
  sr := by
    rw [← div_mod]
    obtain ⟨x, hx⟩ := v.fl
    obtain ⟨y, hy⟩ := v.sr
    refine ⟨x - l / r * y, ?_⟩
    have : (f - l / r * s) * n - (l - l / r * r) = (f * n - l) - l / r * (s * n - r) := by grind
    rw [this, hx, hy]; grind
  sz := by
    obtain ⟨e, h1, h2, h3, h4⟩ := v.sz
    have q : 0 ≤ l / r := Int.ediv_nonneg (Int.le_of_lt v.l0) (Int.le_of_lt hr)
    refine ⟨-e, by omega, ?_, ?_, ?_⟩
    · rw [Int.neg_mul]; exact h3
    · have : -(-e * (f - l / r * s)) = e * f + l / r * -(e * s) := by grind
      rw [this]
      exact Int.add_nonneg h2 (Int.mul_nonneg q h3)
    · rw [← div_mod, ← h4]; grind
theorem VI.small {n m B l r f s : Int} (v : VI n m B l r f s) : -m ≤ s ∧ s ≤ m ∧ (0 < r → -m ≤ f ∧ f ≤ m) := by
  obtain ⟨e, h1, h2, h3, h4⟩ := v.sz
  have l0 := v.l0
  have r0 := v.r0
  have a1 : -(e * s) * 1 ≤ -(e * s) * l := Int.mul_le_mul_of_nonneg_left (by omega) h3
  have a2 : 0 ≤ e * f * r := Int.mul_nonneg h2 r0
  have a3 : 0 ≤ -(e * s) * l := Int.mul_nonneg h3 (by omega)
  have a4 : 0 < r → e * f * 1 ≤ e * f * r := fun h => Int.mul_le_mul_of_nonneg_left (by omega) h2
  refine ⟨?_, ?_, fun h => ⟨?_, ?_⟩⟩
  · rcases h1 with z | z <;> subst z <;> omega
  · rcases h1 with z | z <;> subst z <;> omega
  · have := a4 h; rcases h1 with z | z <;> subst z <;> omega
  · have := a4 h; rcases h1 with z | z <;> subst z <;> omega
theorem VI.done {n m B l f s : Int} (v : VI n m B l 0 f s) : m ∣ n * (f % m) - 1 := by
  have e : l = 1 := by rw [← v.g, gc_zero v.l0]
  have h := v.fl
  rw [e] at h
  have h2 : m ∣ f % m - f := dvd_emod_sub f m
  obtain ⟨x, hx⟩ := h
  obtain ⟨y, hy⟩ := h2
  refine ⟨x + n * y, ?_⟩
  have : n * (f % m) - 1 = (f * n - 1) + n * (f % m - f) := by grind
  rw [this, hx, hy]; grind
/-- i is an inverse of n -/
def IsInv (n m i : Int) : Prop := 0 ≤ i ∧ i < m ∧ m ∣ n * i - 1
theorem VI.inv {n m B l f s : Int} (hm : 0 < m) (v : VI n m B l 0 f s) : IsInv n m (f % m) := ⟨Int.emod_nonneg _ (by omega), Int.emod_lt_of_pos _ hm, v.done⟩
theorem gc_coprime {m n : Int} (hm : 0 < m) (hn : 0 < n) : gc (m / gc m n) (n / gc m n) = 1 := by
  have g := gc_pos (n := n) hm
  have := Int.gcd_ediv_gcd_ediv_gcd (i := m) (j := n) (by show 0 < Int.gcd m n; exact Int.gcd_pos_of_ne_zero_left _ (by omega))
  show ((Int.gcd _ _ : Nat) : Int) = 1
  rw [this]; rfl
theorem lc_right {m n : Int} (hm : 0 < m) (hn : 0 < n) : lc m n = m * (n / gc m n) := by
  obtain ⟨m', n', e1, e2, p1, p2, d1, d2⟩ := gc_parts hm hn
  unfold lc
  rw [d1, d2]
  conv => lhs; rhs; rw [e2]
  conv => rhs; lhs; rw [e1]
  grind
/-- chinese, as it reckons -/
theorem chin_val {a m b n i : Int} (hm : 0 < m) (hn : 0 < n) (hd : (b - a) % gc m n = 0) (hi : IsInv (m / gc m n) (n / gc m n) i) :
    (a + m * (((b - a) / gc m n * i) % (n / gc m n))) % (m / gc m n * n) = crt a m b n := by
  obtain ⟨h1, h2⟩ := IsCh.by_inv hm hn hd hi.2.2 (dvd_emod_sub _ _)
  have lp := lc_pos hm hn
  refine crt_eq hm hn ⟨Int.emod_nonneg _ (Int.ne_of_gt lp), Int.emod_lt_of_pos _ lp, ?_, ?_⟩
  · exact dvd_tr (Int.dvd_trans (lc_l hm hn) (dvd_emod_sub _ (lc m n))) h1
  · exact dvd_tr (Int.dvd_trans lc_r (dvd_emod_sub _ (lc m n))) h2
/-- _law_meet, as it reckons -/
theorem meet_val {a m b n i : Int} (hm : 0 < m) (hn : 0 < n) (ha : 0 ≤ a) (ha2 : a < m) (hd : (b - a) % gc m n = 0) (hi : IsInv (m / gc m n) (n / gc m n) i) :
    a + m * (((b - a) / gc m n * i) % (n / gc m n)) = crt a m b n := by
  obtain ⟨h1, h2⟩ := IsCh.by_inv hm hn hd hi.2.2 (dvd_emod_sub _ _)
  obtain ⟨m', n', e1, e2, p1, p2, d1, d2⟩ := gc_parts hm hn
  refine crt_eq hm hn ⟨?_, ?_, h1, h2⟩
  · have x0 := Int.emod_nonneg ((b - a) / gc m n * i) (show n / gc m n ≠ 0 by rw [d2]; omega)
    have := Int.mul_nonneg (Int.le_of_lt hm) x0
    omega
  · rw [lc_right hm hn]
    have x1 := Int.emod_lt_of_pos ((b - a) / gc m n * i) (show 0 < n / gc m n by rw [d2]; exact p2)
    have := Int.mul_le_mul_of_nonneg_left (show (b - a) / gc m n * i % (n / gc m n) + 1 ≤ n / gc m n by omega) (Int.le_of_lt hm)
    rw [Int.mul_add, Int.mul_one] at this
    omega
end Cu
/-! W1 -/
set_option Elab.async false
set_option linter.all false
set_option maxRecDepth 100000
namespace Cu
open PySem PySem.Spec PyProof.Rows L2
/-! rules of my own: sorted and min of tuples that begin with a whole number -/
section
variable {X : Cx}
open PySem.W in
theorem alike_begin {m m' : Int} {t t' : PyData} (h : alike t t' = true) : alike (.tuple [.int m, t]) (.tuple [.int m', t']) = true := by
  simp only [alike, alikeAll, h]; rfl
open PySem.W in
theorem lt_begin {m m' : Int} {t t' : PyData} (h : alike t t' = true) (lt : m < m') : dataLt (.tuple [.int m, t]) (.tuple [.int m', t']) = true := by
  rw [dataLt_pair (by simp [alike]) h, if_neg ?_, dataLt_int]
  · exact decide_eq_true lt
  · simp only [PyData.eqv, beq_iff_eq]; omega
/-- the items' data, one by one -/
theorem reads_each {β : Type} {val : β → V} {enc : β → PyData} {pins : List (Addr × Obj)} {σ : L2.St} {H : Hp} {s : Shared} (I : Inv X pins σ H s) : ∀ {bs : List β} {us : List Value}, Vals (bs.map val) us → (∀ b ∈ bs, Dp X.K H (val b) (enc b)) →
    PySem.W.EachIs (fun v b => RelV (val b) v) us bs ∧ PySem.W.EachIs (fun v b => ∃ as, Reads s.heap v (enc b) as) us bs
  | [], us, r, _ => by
    cases r
    exact ⟨.nil, .nil⟩
  | b :: bs, us, r, h => by
    cases r with
    | cons r1 r2 =>
      obtain ⟨h1, h2⟩ := reads_each I r2 fun x hx => h x (List.mem_cons_of_mem _ hx)
      exact ⟨.cons r1 h1, .cons (Dp.reads I _ _ _ (h b (List.mem_cons_self ..)) r1) h2⟩
theorem vals_each {β : Type} {val : β → V} : ∀ {us : List Value} {bs : List β}, PySem.W.EachIs (fun v b => RelV (val b) v) us bs → Vals (bs.map val) us
  | _, _, .nil => .nil
  | _, _, .cons h t => .cons h (vals_each t)
structure Begin {β : Type} (K : PySem.W.Frag) (H : Hp) (bs : List β) (val : β → V) (mn : β → Int) (tl : β → PyData) : Prop where
  dp : ∀ b ∈ bs, Dp K H (val b) (.tuple [.int (mn b), tl b])
  al : ∀ b ∈ bs, ∀ b' ∈ bs, PySem.W.alike (tl b) (tl b') = true
  dep : ∀ b ∈ bs, (tl b).depth ≤ 2
theorem Begin.depth {β : Type} {K : PySem.W.Frag} {H : Hp} {bs : List β} {val : β → V} {mn : β → Int} {tl : β → PyData} (g : Begin K H bs val mn tl) : ∀ b ∈ bs, (PyData.tuple [.int (mn b), tl b]).depth ≤ 3 := fun b hb => by
  have := g.dep b hb
  simp only [PyData.depth, PyData.depthAll]; omega
def rSortedM (K : PySem.W.Frag) : List V → Hp → VK → Prop := fun vs H Q => ∃ (β : Type) (a : Addr) (bs : List β) (val : β → V) (mn : β → Int) (tl : β → PyData), vs = [V.ref a] ∧ SqL K H a (bs.map val) ∧ Begin K H bs val mn tl ∧
  ∀ (bs' : List β) (p : Addr), bs'.Perm bs → (bs'.Pairwise fun x y => mn x ≤ mn y) → H p = none → Q (.ref p) (upd H p (.lst (bs'.map val)))
theorem cr_sortedM (hu : X.A.units + 64 < cLine) : CallR X (.builtin "sorted") (rSortedM X.K) := by
  intro pins s σ H vs us Q I r h
  obtain ⟨β, a, bs, val, mn, tl, rfl, hs, g, q⟩ := h
  obtain ⟨its, rv, hl, hz⟩ := I.list hs
  obtain ⟨u, rfl, ru⟩ := vals1 r
  obtain rfl : u = Value.ref a := ru
  obtain ⟨e1, e2⟩ := reads_each I rv g.dp
  have hz' : bs.length ≤ sizeLine := by rw [List.length_map] at hz; exact hz
  have al : PySem.W.AllAlike (bs.map fun b => PyData.tuple [.int (mn b), tl b]) := by
    intro d hd d' hd'
    obtain ⟨b, hb, rfl⟩ := List.mem_map.mp hd
    obtain ⟨b', hb', rfl⟩ := List.mem_map.mp hd'
    exact alike_begin (g.al b hb b' hb')
  refine PySem.W.sorted_data (R := fun v b => RelV (val b) v) (enc := fun b => PyData.tuple [.int (mn b), tl b]) hl.isList e1 e2 al (PySem.W.Sortable.tuples fun b => ⟨_, _, rfl⟩) hz' (fun b hb => by have := g.depth b hb; omega) fun out ho eo => ?_
  have pm : (bs.mergeSort (PySem.W.dataLe false fun b => PyData.tuple [.int (mn b), tl b])).Perm bs := List.mergeSort_perm _ _
  have pw := PySem.W.sort_pairwise (PySem.W.sortLe_total (PyProof.Rows.listOrd PyProof.Rows.itemOrd) false (fun b => PySem.W.keyToks (PyData.tuple [.int (mn b), tl b]))) bs
  have pw2 : (bs.mergeSort (PySem.W.dataLe false fun b => PyData.tuple [.int (mn b), tl b])).Pairwise fun x y => mn x ≤ mn y := by
    refine List.Pairwise.imp_of_mem ?_ pw
    intro x y hx hy hxy
    apply Int.le_of_not_gt
    intro lt
    have z := lt_begin (g.al y (pm.mem_iff.mp hy) x (pm.mem_iff.mp hx)) lt
    have hxy : (!PySem.W.dataLt (.tuple [.int (mn y), tl y]) (.tuple [.int (mn x), tl x])) = true := hxy
    rw [z] at hxy
    cases hxy
  obtain ⟨c, hc⟩ := sortedAll_at s.heap its out.toArray
  have old : ∀ b o, s.heap.get? b = some o → (sortedAll s.heap its out.toArray).get? b = some o := fun b o e => sortedAll_old e
  refine ⟨.ref (s.heap.objs.size + 1), upd H (s.heap.objs.size + 1) (.lst ((bs.mergeSort (PySem.W.dataLe false fun b => PyData.tuple [.int (mn b), tl b])).map val)), I.laid (t' := s.toks) old (Nat.le_succ _) ⟨?_, out, c, vals_each eo, hc⟩, rfl, q _ _ pm pw2 (I.hok.fresh (Nat.le_succ _))⟩
  rw [List.length_map, pm.length_eq]; exact hz'
/-- min of such a list: one of its items, none begins with less -/
def rMinM (K : PySem.W.Frag) : List V → Hp → VK → Prop := fun vs H Q => ∃ (β : Type) (a : Addr) (bs : List β) (val : β → V) (mn : β → Int) (tl : β → PyData), vs = [V.ref a] ∧ SqL K H a (bs.map val) ∧ Begin K H bs val mn tl ∧ bs ≠ [] ∧
  ∀ b ∈ bs, (∀ b' ∈ bs, mn b ≤ mn b') → Q (val b) H
theorem reads_begin {h : Heap} {v : Value} {m : Int} {t : PyData} {as : List Addr} (r : Reads h v (.tuple [.int m, t]) as) : ∃ a o vs n tk, v = .ref a ∧ h.get? a = some o ∧ o.data = .seq vs n ∧ vs.toList.head? = some (.int m tk) := by
  cases r with
  | tuple h1 h2 h3 h4 =>
    rename_i a o vs n
    generalize hl : vs.toList = l at h4
    cases h4 with
    | cons a1 a2 =>
      cases a1
      exact ⟨a, o, vs, n, _, rfl, h1, h3, by rw [hl]; rfl⟩
theorem begin_one {h : Heap} {v : Value} {m m' : Int} {t t' : PyData} {as as' : List Addr} (r : Reads h v (.tuple [.int m, t]) as) (r' : Reads h v (.tuple [.int m', t']) as') : m = m' := by
  obtain ⟨a, o, vs, n, tk, e1, e2, e3, e4⟩ := reads_begin r
  obtain ⟨a', o', vs', n', tk', f1, f2, f3, f4⟩ := reads_begin r'
  rw [e1] at f1; cases f1
  rw [e2] at f2; cases f2
  rw [e3] at f3
  injection f3 with f3 _
  subst f3
  rw [e4] at f4
  have := Option.some.inj f4
  injection this
open PySem.W in
theorem min_begin {β : Type} {mn : β → Int} {tl : β → PyData} : ∀ (bs : List β) (b : β), (∀ x ∈ b :: bs, ∀ y ∈ b :: bs, alike (tl x) (tl y) = true) →
    ∃ z ∈ b :: bs, minD (.tuple [.int (mn b), tl b]) (bs.map fun x => .tuple [.int (mn x), tl x]) = .tuple [.int (mn z), tl z] ∧ ∀ x ∈ b :: bs, mn z ≤ mn x
  | [], b, _ => ⟨b, List.mem_cons_self .., rfl, fun x hx => by
      have : x = b := by simpa using hx
      rw [this]; exact Int.le_refl _⟩
  | y :: bs, b, al => by
    have go : ∀ c, (c = b ∨ c = y) → mn c ≤ mn b → mn c ≤ mn y → ∃ z ∈ b :: y :: bs, minD (.tuple [.int (mn c), tl c]) (bs.map fun x => .tuple [.int (mn x), tl x]) = .tuple [.int (mn z), tl z] ∧ ∀ x ∈ b :: y :: bs, mn z ≤ mn x := fun c hc h1 h2 => by
      have mem : ∀ x ∈ c :: bs, x ∈ b :: y :: bs := fun x hx => by
        rcases List.mem_cons.mp hx with e | e
        · rw [e]; rcases hc with z | z <;> rw [z] <;> simp
        · exact List.mem_cons_of_mem _ (List.mem_cons_of_mem _ e)
      obtain ⟨z, hz, e, hle⟩ := min_begin bs c fun x hx x' hx' => al x (mem x hx) x' (mem x' hx')
      refine ⟨z, mem z hz, e, fun x hx => ?_⟩
      have hc' := hle c (List.mem_cons_self ..)
      rcases List.mem_cons.mp hx with k | k
      · rw [k]; omega
      · rcases List.mem_cons.mp k with k | k
        · rw [k]; omega
        · exact hle x (List.mem_cons_of_mem _ k)
    have ay := al y (by simp) b (by simp)
    show ∃ z ∈ b :: y :: bs, minD (if dataLt (.tuple [.int (mn y), tl y]) (.tuple [.int (mn b), tl b]) = true then .tuple [.int (mn y), tl y] else .tuple [.int (mn b), tl b]) (bs.map fun x => .tuple [.int (mn x), tl x]) = .tuple [.int (mn z), tl z] ∧ ∀ x ∈ b :: y :: bs, mn z ≤ mn x
    by_cases c : mn b < mn y
    · have : dataLt (.tuple [.int (mn y), tl y]) (.tuple [.int (mn b), tl b]) = false := by
        rw [dataLt_pair (by simp [alike]) ay, if_neg (by simp only [PyData.eqv, beq_iff_eq]; omega), dataLt_int]
        exact decide_eq_false (by omega)
      rw [this, if_neg Bool.false_ne_true]
      exact go b (.inl rfl) (Int.le_refl _) (by omega)
    · by_cases d : mn y < mn b
      · rw [lt_begin ay d, if_pos rfl]
        exact go y (.inr rfl) (by omega) (Int.le_refl _)
      · by_cases e : dataLt (.tuple [.int (mn y), tl y]) (.tuple [.int (mn b), tl b]) = true
        · rw [if_pos e]; exact go y (.inr rfl) (by omega) (Int.le_refl _)
        · rw [if_neg e]; exact go b (.inl rfl) (Int.le_refl _) (by omega)
theorem each_at {α β : Type} {R : α → β → Prop} : ∀ {us : List α} {bs : List β} {i : Nat} {u : α}, PySem.W.EachIs R us bs → us[i]? = some u → ∃ b, bs[i]? = some b ∧ R u b
  | _, _, _, _, .nil, e => by simp at e
  | _, _, 0, _, .cons h t, e => by
    have e := Option.some.inj e
    subst e
    exact ⟨_, rfl, h⟩
  | _, _, i + 1, _, .cons h t, e => each_at (i := i) t e
theorem cr_minM (hc : X.calm = true) (hu : X.A.units + 64 < cLine) : CallR X (.builtin "min") (rMinM X.K) := by
  intro pins s σ H vs us Q I r h
  obtain ⟨β, a, bs, val, mn, tl, rfl, hs, g, ne, q⟩ := h
  obtain ⟨its, rv, hl, hz⟩ := I.list hs
  obtain ⟨u, rfl, ru⟩ := vals1 r
  obtain rfl : u = Value.ref a := ru
  obtain ⟨e1, e2⟩ := reads_each I rv g.dp
  obtain ⟨as, rs⟩ := PySem.W.each_readsAll _ e2
  cases bs with
  | nil => exact absurd rfl ne
  | cons b bs =>
    obtain ⟨z, hz1, hz2, hz3⟩ := min_begin (mn := mn) (tl := tl) bs b fun x hx y hy => g.al x hx y hy
    have al : PySem.W.AlikeAll ((b :: bs).map fun b => PyData.tuple [.int (mn b), tl b]) := by
      refine ⟨fun d hd d' hd' => ?_, fun d hd => ?_⟩
      · obtain ⟨x, hx, rfl⟩ := List.mem_map.mp hd
        obtain ⟨y, hy, rfl⟩ := List.mem_map.mp hd'
        exact alike_begin (g.al x hx y hy)
      · obtain ⟨x, hx, rfl⟩ := List.mem_map.mp hd
        intro e; cases e
    have dep : ∀ l : List β, (∀ x ∈ l, (PyData.tuple [.int (mn x), tl x]).depth ≤ 3) → PyData.depthAll (l.map fun b => PyData.tuple [.int (mn b), tl b]) ≤ 3 := by
      intro l
      induction l with
      | nil => intro _; simp [PyData.depthAll]
      | cons x l ih =>
        intro h
        have h1 := h x (List.mem_cons_self ..)
        have h2 := ih fun y hy => h y (List.mem_cons_of_mem _ hy)
        rw [List.map_cons, PyData.depthAll]
        omega
    have dd := dep (b :: bs) g.depth
    refine PySem.W.min_list_data (I.ok.hd hc) hl.isList (show ReadsAll s.heap its.toArray.toList (_ :: _) as from rs) al (by show X.A.units + 1 + PyData.depthAll ((b :: bs).map fun b => PyData.tuple [.int (mn b), tl b]) < cLine; omega) fun i v h' tk as' hv rd k => ?_
    rw [hz2] at rd
    have hv : its[i]? = some v := by simpa using hv
    obtain ⟨y, hy, ry⟩ := each_at e1 hv
    obtain ⟨y', hy', as2, rd2⟩ := each_at e2 hv
    rw [hy] at hy'
    have := Option.some.inj hy'
    subst this
    have em : mn z = mn y := begin_one rd (PyProof.Rows.Reads.keeps k rd2)
    refine ⟨val y, H, I.kept (t' := tk) k, ry, q y (List.mem_of_getElem? hy) fun x hx => ?_⟩
    rw [← em]; exact hz3 x hx
end
end Cu
/-! W2 -/
set_option Elab.async false
set_option linter.all false
set_option maxRecDepth 100000
namespace Cu
open PySem PySem.Spec PyProof.Rows L2
section
variable {X : Cx}
/-! math.lcm -/
theorem lcm_eq {a b : Int} (ha : 0 < a) (hb : 0 < b) : (((Nat.lcm 1 a.natAbs).lcm b.natAbs : Nat) : Int) = lc a b := by
  obtain ⟨m', n', e1, e2, p1, p2, d1, d2⟩ := gc_parts ha hb
  have g := gc_pos (n := b) ha
  rw [Nat.lcm_one_left]
  have k : (Nat.gcd a.natAbs b.natAbs : Int) * (Nat.lcm a.natAbs b.natAbs : Nat) = a * b := by
    have := Nat.gcd_mul_lcm a.natAbs b.natAbs
    have h := congrArg (Int.ofNat) this
    have h2 : ((Nat.gcd a.natAbs b.natAbs * Nat.lcm a.natAbs b.natAbs : Nat) : Int) = ((a.natAbs * b.natAbs : Nat) : Int) := h
    rw [Int.natCast_mul, Int.natCast_mul, Int.natAbs_of_nonneg (Int.le_of_lt ha), Int.natAbs_of_nonneg (Int.le_of_lt hb)] at h2
    exact h2
  apply Int.eq_of_mul_eq_mul_left (show gc a b ≠ 0 by omega)
  show (Nat.gcd a.natAbs b.natAbs : Int) * (Nat.lcm a.natAbs b.natAbs : Nat) = gc a b * lc a b
  rw [k]
  unfold lc
  rw [d1]
  conv => lhs; lhs; rw [e1]
  rw [Int.mul_assoc]
theorem lc_le {a b : Int} (ha : 0 < a) (hb : 0 < b) : lc a b ≤ a * b := by
  have : a / gc a b ≤ a := Int.ediv_le_self _ (Int.le_of_lt ha)
  exact Int.mul_le_mul_of_nonneg_right this (Int.le_of_lt hb)
def rLcm : List V → Hp → VK → Prop := fun vs H Q => ∃ a b : Int, vs = [.int a, .int b] ∧ (0 < a ∧ a < 2 ^ 200) ∧ (0 < b ∧ b < 2 ^ 200) ∧ Q (.int (lc a b)) H
set_option exponentiation.threshold 1000 in
theorem cr_lcm : CallR X (.builtin "math.lcm") rLcm := by
  intro pins s σ H vs us Q I r h
  obtain ⟨a, b, rfl, ⟨ha, ha2⟩, ⟨hb, hb2⟩, q⟩ := h
  obtain ⟨t, u, rfl⟩ := Vals.int2 r
  have small : ∀ n : Nat, n < 2 ^ 400 → n.log2 < 400 := fun n h => PySem.Flt.log2_lt_of (by decide) h
  have e := lcm_eq ha hb
  have l1 := lc_le ha hb
  have l2 : a * b < 2 ^ 200 * 2 ^ 200 := by
    have h1 : a * b ≤ 2 ^ 200 * b := Int.mul_le_mul_of_nonneg_right (by omega) (by omega)
    have h2 : (2 : Int) ^ 200 * b < 2 ^ 200 * 2 ^ 200 := Int.mul_lt_mul_of_pos_left hb2 (by decide)
    omega
  have l3 : (2 : Int) ^ 200 * 2 ^ 200 = 2 ^ 400 := by decide
  have h1 : (max 1 a.natAbs).log2 < 400 := small _ (by
    have : a.natAbs < 2 ^ 200 := by omega
    have : (2 : Nat) ^ 200 < 2 ^ 400 := by decide
    omega)
  have h2 : (max a.natAbs b.natAbs).log2 < 400 := small _ (by
    have : a.natAbs < 2 ^ 200 := by omega
    have : b.natAbs < 2 ^ 200 := by omega
    have : (2 : Nat) ^ 200 < 2 ^ 400 := by decide
    omega)
  have h3 : ((((Nat.lcm 1 a.natAbs).lcm b.natAbs : Nat) : Int)).natAbs.log2 < bitsLine := by
    have z : ((((Nat.lcm 1 a.natAbs).lcm b.natAbs : Nat) : Int)).natAbs.log2 < 400 := by
      apply small
      rw [e]
      have := lc_pos ha hb
      omega
    have : 400 < bitsLine := by decide
    omega
  have run := PySem.W.mg_run_lcm a t b u (by omega) (by omega) h3
  rw [e] at run
  exact call_function_meets PySem.W.MGF.kind_lcm PySem.W.MGF.plain_lcm PySem.W.MGF.entry_lcm (PySem.W.MGF.args_lcm _ _) run.meets ⟨.int _, H, I.tok _, ⟨_, rfl⟩, q⟩

/-! sum(d.values()), d a dict by tuples -/
def valsO (p d : Addr) : HO := .ext fun h => h.IsValuesView p d
theorem valsO_ok {P : Program} {w : World} {H : Hp} {h : Heap} {p d : Addr} (e : h.get? p = some { cls := .type "dict_values", data := .fields #[.ref d] }) : ObjOk P w H h p (valsO p d) :=
  ⟨⟨_, e, rfl, rfl⟩, ⟨_, e⟩, fun h1 h2 x k => let ⟨o, ho, r⟩ := x; ⟨o, k o ho, r⟩⟩
def rValuesT : V → List V → Hp → VK → Prop := fun x xs H Q => ∃ (a : Addr) (kvs : List (List L2.Key × V)), x = .ref a ∧ xs = [] ∧ H a = some (.dT kvs) ∧ ∀ p, H p = none → Q (.ref p) (upd H p (valsO p a))
theorem mt_valuesT : MtR X "dict.values" rValuesT := by
  intro pins s σ H x xs v us Q I rx rxs h
  obtain ⟨a, kvs, rfl, rfl, ha, q⟩ := h
  cases rx
  cases rxs
  obtain ⟨z, hd, xs', rel, o, es, ep, ho, hx, hdat, _⟩ := dt_of I.hok ha
  have raw : s.heap.DictRaw a es ep := ⟨o, ho, hx, hdat⟩
  have hf : H s.heap.objs.size = none := I.hok.fresh (Nat.le_refl _)
  refine call_meetsIn F.slot_dict_values raw.typeIs F.entry_dict_values (F.args_dict_values_1 _) (meets_dict_values_raw a hd) ⟨⟨es, ep, raw⟩, ?_⟩
  exact ⟨.ref s.heap.objs.size, upd H s.heap.objs.size (valsO s.heap.objs.size a), I.laid (t' := s.toks) (fun b u e => Heap.get?_push_of_some _ e) (Nat.le_refl _) (valsO_ok (Heap.get?_push_size _ rfl)), rfl, q _ hf⟩
theorem preSum_all (ns : List Int) : ∀ k, k ≤ ns.length → preSum (fun i => ns.getD i 0) k = (ns.take k).sum
  | 0, _ => rfl
  | k + 1, h => by
    show preSum (fun i => ns.getD i 0) k + ns.getD k 0 = _
    have hk : k < ns.length := h
    rw [preSum_all ns k (by omega), sum_take (List.getElem?_eq_getElem hk), List.getD_eq_getElem?_getD, List.getElem?_eq_getElem hk]; rfl
theorem KT_at {H : Hp} : ∀ {kvs : List (List L2.Key × V)} {xs : List (List L2.Key × Addr × Value)} {i : Nat} {y : List L2.Key × Addr × Value}, KT H kvs xs → xs[i]? = some y → ∃ p, kvs[i]? = some p ∧ RelV p.2 y.2.2
  | _, _, _, _, .nil, e => by simp at e
  | _, _, 0, _, .cons h t, e => by
    have e := Option.some.inj e
    subst e
    exact ⟨_, rfl, h.2.2⟩
  | _, _, i + 1, _, .cons h t, e => KT_at (i := i) t e
def rSumVals : List V → Hp → VK → Prop := fun vs H Q => ∃ (p d : Addr) (kvs : List (List L2.Key × V)) (ns : List Int), vs = [V.ref p] ∧ H p = some (valsO p d) ∧ H d = some (.dT kvs) ∧ kvs.map (·.2) = ns.map V.int ∧ Q (.int ns.sum) H
theorem cr_sumVals (hc : X.calm = true) : CallR X (.builtin "sum") rSumVals := by
  intro pins s σ H vs us Q I r h
  obtain ⟨p, d, kvs, ns, rfl, hp, hd, en, q⟩ := h
  obtain ⟨u, rfl, ru⟩ := vals1 r
  obtain rfl : u = Value.ref p := ru
  have hv : s.heap.IsValuesView p d := (I.hok p _ hp).1
  obtain ⟨z, lo, xs, rel, dd⟩ := dt_of I.hok hd
  obtain ⟨es, ep, raw, hsz, hx⟩ := dd.raw
  have hl : kvs.length = xs.length := Paired.length rel
  have hn : ns.length = es.size := by
    have := congrArg List.length en
    rw [List.length_map, List.length_map] at this
    omega
  have hdl : d < s.heap.objs.size := by obtain ⟨o, ho, _⟩ := raw; exact Heap.lt_size ho
  refine call_sum_walkG (wpAny_pyIter_values_raw hv raw ?_)
  have old : ∀ b o, s.heap.get? b = some o → (s.heap.push { cls := .type "dict_valueiterator", data := .fields #[.ref d, .int 0 0, .int es.size 0, .int ep 0] }).get? b = some o := fun b o e => Heap.get?_push_of_some _ e
  refine ⟨s.heap.objs.size, [s.heap.objs.size, d], [s.heap.objs.size], es.size, _, _, fun i => ns.getD i 0, rfl, Walks.valuesH (A := X.A.in1) (K := List L2.Key) (xs := xs) (I.ok.hd hc) s.heap.objs.size d (Nat.ne_of_lt hdl) es ep (fun i hi => let ⟨y, a, b, c, _⟩ := hx i hi; ⟨y, a, b, c⟩), ⟨⟨_, Heap.get?_push_size _ rfl, rfl, rfl⟩, raw.at fun o e => old _ _ e⟩, fun b hb => ?_, fun i v hP => ?_, fun h' tk t' hk => ?_⟩
  · have hb' : b = s.heap.objs.size ∨ b = d := by simpa using hb
    show b < (s.heap.push _).objs.size
    rw [Heap.size_push]
    rcases hb' with e | e
    · rw [e]; exact Nat.lt_succ_self _
    · rw [e]; exact Nat.lt_succ_of_lt hdl
  · obtain ⟨y, hy, e⟩ := hP
    obtain ⟨pr, h1, h2⟩ := KT_at rel hy
    have h3 : (kvs.map (·.2))[i]? = some pr.2 := by rw [List.getElem?_map, h1]; rfl
    rw [en, List.getElem?_map] at h3
    cases hi : ns[i]? with
    | none => rw [hi] at h3; cases h3
    | some n =>
      rw [hi] at h3
      have e2 : V.int n = pr.2 := Option.some.inj h3
      rw [← e2] at h2
      obtain ⟨t, et⟩ := h2
      refine ⟨t, ?_⟩
      show v = Value.int (ns.getD i 0) t
      rw [e, et, List.getD_eq_getElem?_getD, hi]; rfl
  · have e : preSum (fun i => ns.getD i 0) es.size = ns.sum := by rw [← hn, preSum_all ns _ (Nat.le_refl _), List.take_length]
    rw [e]
    refine ⟨.int ns.sum, H, I.kept (t' := tk) (fun b o eo => hk b o (fun hb => ?_) (old b o eo)), ⟨_, rfl⟩, q⟩
    have : b = s.heap.objs.size := by simpa using hb
    exact Nat.lt_irrefl _ (this ▸ Heap.lt_size eo)
end
end Cu
/-! W3 -/
set_option Elab.async false
set_option linter.all false
set_option maxRecDepth 100000
namespace Cu
open PySem PySem.Spec PyProof.Rows L2
/-! enumerate(a tuple) -/
section
variable {prog : Program} {w : World} {A : Around} {E : Value → Shared → Prop} {s : Shared}
set_option maxHeartbeats 1000000 in
theorem meets_enum0 {v : Value} {o : Obj} {H : Heap → Prop} (B : Begins v o H) :
    Meets (Builtin.«enumerate.__new__» ⟨[.type "enumerate", v], []⟩) (fun _ R s => H s.heap ∧
      R (.ok (.ret (.ref (s.heap.push o).objs.size))) { s with heap := (s.heap.push o).push { cls := .type "enumerate", data := .fields #[.none, .bool false, .ref s.heap.objs.size, rawInt 0, .none, .none] } }) :=
  .of_wp fun prog w A R s h => by
    obtain ⟨hp, g, d, tk, os⟩ := s
    obtain ⟨h1, h⟩ := h
    have hsub := sub_enumerate
    have it : ∀ {A' : Around} {E : Value → Shared → Prop} {Q : Value → Shared → Prop}, Q (.ref hp.objs.size) ⟨hp.push o, g, d, tk, os⟩ → wpAny (model prog w) A' (pyIter v) Q E ⟨hp, g, d, tk, os⟩ :=
      fun q => B.iter prog w _ _ ⟨hp, g, d, tk, os⟩ _ h1 q
    wp_walk using it
    refine wpAny_stack_any fun st => wpAny_pure ?_
    split
    · rename_i c _ _ _ _ _
      cases (c == Value.type "enumerate") <;> (wp_walk using it; exact ⟨_, rfl, h⟩)
    · wp_walk using it
      exact ⟨_, rfl, h⟩
theorem call_enum0 {v : Value} {o : Obj} {H : Heap → Prop} {Q : Value → Shared → Prop} (B : Begins v o H) (h1 : H s.heap)
    (h : ∀ h', IsEnum h' (s.heap.objs.size + 1) s.heap.objs.size 0 .none → h'.get? s.heap.objs.size = some o → (∀ b u, s.heap.get? b = some u → h'.get? b = some u) → Q (.ref (s.heap.objs.size + 1)) { s with heap := h' }) :
    wpAny (model prog w) A (call (.type "enumerate") [v]) Q E s := by
  refine callType_new F.called_enumerate (by decide) (F.typeCall_enumerate_1 _) (F.newCall_enumerate_1 _) (fun obj => F.args_object_init_2 obj _) F.entry_enumerate_new (meets_enum0 B) ⟨h1, ?_⟩
  have hz : (s.heap.push o).objs.size = s.heap.objs.size + 1 := Heap.size_push ..
  show _ ∧ _
  rw [hz]
  have he : IsEnum ((s.heap.push o).push { cls := .type "enumerate", data := .fields #[.none, .bool false, .ref s.heap.objs.size, rawInt 0, .none, .none] }) (s.heap.objs.size + 1) s.heap.objs.size 0 .none := by
    have q := Heap.get?_push_size (s.heap.push o) (o := { cls := .type "enumerate", data := .fields #[.none, .bool false, .ref s.heap.objs.size, rawInt 0, .none, .none] }) rfl
    rwa [hz] at q
  exact ⟨⟨_, he, rfl⟩, h _ he (Heap.get?_push_of_some _ (Heap.get?_push_size _ B.free)) fun b u x => Heap.get?_push_of_some _ (Heap.get?_push_of_some _ x)⟩
end
/-- the tuple at a, each item in a new pair -/
def Iet (K : PySem.W.Frag) (a : Addr) : It :=
  ⟨fun i H => ∃ (xs : List V) (x : V), SqT K H a xs ∧ xs[i]? = some x, fun i H v H' => ∃ T x, v = .ref T ∧ H T = none ∧ H' = upd H T (.tup [.int (i : Nat), x]) ∧ ∀ xs, SqT K H a xs → xs[i]? = some x, fun i H => ∃ xs : List V, SqT K H a xs ∧ xs.length = i⟩
theorem turn_enumT {P : Program} {w : World} {K : PySem.W.Frag} {elts : List Expr} {kk : Nat} {tpos : Pos} (a e it : Addr) (items : Array Value) (ha : a ≠ it) (hea : e ≠ a) :
    Turn P w K (.Tuple elts kk tpos) (Iet K a) [e, it] e (fun i h => (∃ old, IsEnum h e it ((i : Nat) : Int) old) ∧ h.IsTupleIter it a i ∧ e ≠ it) where
  mem := by simp
  obj := fun i h st b hb => by
    obtain ⟨⟨old, he⟩, ⟨o, ho, hc, hd⟩, _⟩ := st
    have e' : b = e ∨ b = it := by simpa using hb
    rcases e' with z | z
    · rw [z]; exact ⟨_, he, fun v q => nomatch q⟩
    · rw [z]; exact ⟨o, ho, fun v q => by rw [hd] at q; cases q⟩
  keep := fun i h h' st k => let ⟨⟨old, he⟩, hi, hne⟩ := st; ⟨⟨old, k e (by simp) _ he⟩, hi.at fun o q => k it (by simp) o q, hne⟩
  item := by
    intro X hP hw hK hc i pins s σ H E I hf st hg
    subst hP hw hK
    obtain ⟨⟨old, he⟩, hit, hne⟩ := st
    obtain ⟨xs, x, hq, hx⟩ := hg
    obtain ⟨its, rv, p, hz⟩ := I.tuple hq
    obtain ⟨u, hu, ru⟩ := rv.get hx
    have hel : e < s.heap.objs.size := Heap.lt_size he
    have hil : it < s.heap.objs.size := by obtain ⟨_, q, _⟩ := hit; exact Heap.lt_size q
    have D := Draws.tuple (prog := X.prog) (w := X.w) (A := X.A.in1) (I.ok.hd hc) it a ha its.toArray
    have hlt : i < its.toArray.size := by
      have := (List.getElem?_eq_some_iff.mp hu).1
      simpa using this
    refine wpAny_pyNext_enum_itemD D he ⟨hit, p⟩ hlt hne (by simp [hne, hea]) fun v h' tk hv ho hit' hT hsz hk => ?_
    have ev : v = u := by
      have h2 : its.toArray[i]? = some u := by simpa using hu
      have hv : its.toArray[i]? = some v := hv
      rw [h2] at hv
      exact (Option.some.inj hv).symm
    subst ev
    refine ⟨_, rfl, wpAny_letOwnedTupleGo_enum (s := { s with heap := h', toks := tk + 1 }) ho fun h'' he' sb => ?_⟩
    have hT2 : h''.get? s.heap.objs.size = some { cls := .type "tuple", data := .seq #[.int i tk, v] } := (sb.2 _ (Nat.ne_of_gt hel)).trans hT
    have new : ObjOk X.prog X.w (upd H s.heap.objs.size (.tup [.int (i : Nat), x])) h'' s.heap.objs.size (.tup [.int (i : Nat), x]) :=
      ⟨by show 2 ≤ sizeLine; decide, [.int i tk, v], .cons ⟨_, rfl⟩ (.cons ru .nil), ⟨_, hT2, rfl, _, rfl⟩⟩
    have I1 : Inv X pins σ (upd H s.heap.objs.size (.tup [.int (i : Nat), x])) { s with heap := h'', toks := tk + 1 } :=
      I.turnedNew (ch := [e, it]) (fun b ob hb q => (sb.2 b (fun z => hb (by simp [z]))).trans (hk b ob (fun z => hb (by simp [z])) (fun z => hb (by simp [z])) q)) hf (Nat.le_refl _) new
    refine ⟨.ref s.heap.objs.size, _, I1, rfl, ⟨_, x, rfl, I.hok.fresh (Nat.le_refl _), rfl, fun ys hy => by rw [I.tuple_inj hy hq]; exact hx⟩, ⟨⟨v, ?_⟩, hit'.1.at fun o q => (sb.2 it (Ne.symm hne)).trans q, hne⟩, fun b hb => ?_⟩
    · have e1 : ((i + 1 : Nat) : Int) = (i : Int) + 1 := by omega
      rw [e1]; exact he'
    · have hb' : b < s.heap.objs.size := by
        have e' : b = e ∨ b = it := by simpa using hb
        rcases e' with z | z
        · rw [z]; exact hel
        · rw [z]; exact hil
      rw [upd_ne (Nat.ne_of_lt hb')]
      exact (hf b hb).1
  done := by
    intro X hP hw hK hc i pins s σ H E I hf st hg
    subst hP hw hK
    obtain ⟨⟨old, he⟩, hit, hne⟩ := st
    obtain ⟨xs, hq, hx⟩ := hg
    obtain ⟨its, rv, p, hz⟩ := I.tuple hq
    obtain ⟨f0, f1, f2, f3, f4, f5⟩ := hf it (by simp)
    have hl := rv.length
    have D := Draws.tuple (prog := X.prog) (w := X.w) (A := X.A.in1) (I.ok.hd hc) it a ha its.toArray
    have hi : its.toArray.size = i := by simp; omega
    refine wpAny_pyNext_enum_endD D he (by rw [hi]; exact ⟨hit, p⟩) fun h' eb => ⟨rfl, I.turned (t' := s.toks) (fun b o hb q => eb b o hb q) f0 f1 f3 f4 f5⟩
  self := fun A i s Q E st h => let ⟨⟨_, he⟩, _⟩ := st; wpAny_pyIter_enum he h
def iEnumT (K : PySem.W.Frag) (ta : TA) : TI := fun σ H R => ta σ H fun vs H1 => ∃ a xs, vs = [.ref a] ∧ SqT K H1 a xs ∧ R (Iet K a) H1
theorem pi_enumT {X : Cx} {e : Expr} {ta : TA} {p pos tpos : Pos} {elts : List Expr} {kk : Nat} (hg : Gl X "enumerate") (hm : X.mg "enumerate" = none) (ha : PA X [e] ta) (hs : starEach [e] X.env = [(false, eval e X.env)] := by rfl) :
    PI X (.Tuple elts kk tpos) (.Call (.Name "enumerate" p) [e] [] pos) (iEnumT X.K ta) := by
  refine ⟨fun pins s σ H R I h => ?_⟩
  refine Call_ (ld_blt I hg hm boot_enumerate (PyProof.Rows.callWith_type1 (thn (ha.run pos pins s σ H _ I h) fun us s1 ⟨vs, H1, I1, r1, q1⟩ => ?_) hs rfl))
  obtain ⟨a, xs, ex, hq, q⟩ := q1
  subst ex
  cases r1 with
  | cons r rr =>
    cases rr
    cases r
    obtain ⟨its, rv, p', hz⟩ := I1.tuple hq
    have hal : a < s1.heap.objs.size := p'.lt
    refine call_enum0 (begins_tuple a its.toArray) p' fun h' he hit hk => wpAny_pyIter_enum he ?_
    have I2 : Inv X pins σ H1 { s1 with heap := h' } := I1.kept (t' := s1.toks) hk
    refine ⟨s1.heap.objs.size + 1, [s1.heap.objs.size + 1, s1.heap.objs.size], _, _, H1, rfl, I2, turn_enumT a (s1.heap.objs.size + 1) s1.heap.objs.size its.toArray (Nat.ne_of_lt hal) (Nat.ne_of_gt (Nat.lt_succ_of_lt hal)), ⟨⟨.none, he⟩, ⟨_, hit, rfl, rfl⟩, Nat.succ_ne_self _⟩, fun b hb => ?_, q⟩
    have e' : b = s1.heap.objs.size + 1 ∨ b = s1.heap.objs.size := by simpa using hb
    have hle : s1.heap.objs.size ≤ b := by
      rcases e' with z | z
      · rw [z]; exact Nat.le_add_right _ _
      · rw [z]; exact Nat.le_refl _
    exact I1.fpOk hle (I1.hok.fresh hle)
theorem walk_enumT {K : PySem.W.Frag} {a : Addr} {xs : List V} : Walk (Iet K a) xs.length (fun H => SqT K H a xs) (YPair (fun i => some (.int (i : Nat))) (fun i => xs[i]?)) := by
  refine ⟨fun i _ hi q => ⟨xs, xs[i], q, by simp [hi]⟩, fun _ q => ⟨xs, q, rfl⟩, fun i H v H' _ q y => ?_⟩
  obtain ⟨T, x, h1, h2, h3, h4⟩ := y
  exact ⟨T, .int (i : Nat), x, h1, h2, h3, rfl, h4 xs q⟩
/-! y not in a tuple of data -/
section
variable {X : Cx}
def rNotInT (K : PySem.W.Frag) : R2 := fun x y H Q => ∃ d ds, Dp K H x d ∧ Dp K H y (.tuple ds) ∧ SeqAt.shaped d = true ∧ SeqAt.shaped (.tuple ds) = true ∧ Q (.bl (!ds.any fun z => PyData.eqv z d)) H
theorem op_notInT (hu : X.A.units + 65 < cLine) : OpR X (compareOp .NotIn) (rNotInT X.K) := by
  intro pins s σ H x y v u Q I rx ry h
  obtain ⟨d, ds, hd, he, sd, se, q⟩ := h
  obtain ⟨as, r1⟩ := Dp.reads I d x v hd rx
  obtain ⟨bs, r2⟩ := Dp.reads I (.tuple ds) y u he ry
  exact SeqAt.notIn_tuple_reads r2 r1 (SeqAt.canLay_of_shaped se) (SeqAt.canLay_of_shaped sd) (room_in_shaped sd hu) ⟨.bl _, H, I, rfl, q⟩
end
end Cu
/-! W4 -/
set_option Elab.async false
set_option linter.all false
set_option maxRecDepth 100000
namespace Cu
open PySem PySem.Spec PyProof.Rows L2
/-! {a, b} of two whole numbers: a set that can be walked in order -/
section
variable {P : Program} {w : World} {A : Around} {E : Value → Shared → Prop} {s : Shared}
theorem newSet_led {Q : Value → Shared → Prop} (h : Q (.ref s.heap.objs.size) { s with heap := s.heap.push { cls := .type "set", dict := none, data := .set #[] 0 (.fresh 0 0 (!w.params.followText "set-order")) } }) :
    wpAny (model P w) A (newSet (.type "set")) Q E s := by
  unfold newSet
  refine wpAny_bind (wpAny_byText ?_)
  dsimp only
  simp only [newObj]
  exact wpAny_bind (wpAny_alloc (wpAny_pure h))
theorem set_oneByOne {b : Bool} {elts : List (Bool × Sem Value)} {ts : List (Sem Value)} {Q : Value → Shared → Prop} (hs : elts.findIdx? (·.1) = none) (hlen : elts.length ≤ 30) (hm : elts.map (·.2) = ts)
    (h : wpAny (model P w) A (evalAll ts) (fun vs s' => PySem.W.KdsFill (model P w) A E false s.heap.objs.size Q vs s') E { s with heap := s.heap.push { cls := .type "set", dict := none, data := .set #[] 0 (.fresh 0 0 (!w.params.followText "set-order")) } }) :
    wpAny (model P w) A (setDisplay .oneByOne b elts) Q E s := by
  have hn : (if elts.length > 30 then 0 else (elts.findIdx? (·.1)).getD elts.length) = elts.length := by rw [if_neg (by omega), hs]; rfl
  unfold setDisplay
  rw [if_neg (by decide)]
  refine wpAny_bind (newSet_led ?_)
  dsimp only
  rw [hn, List.take_length, List.drop_length, hm]
  refine wpAny_bind (wpAny_holding (wpAny_bind (wpAny_mono h (fun vs s' h' => ?_) fun _ _ x => x)))
  refine wpAny_bind (wpAny_holding (wpAny_bind (wpAny_mono (PySem.W.kds_for (fun x R s hx => ?_) vs s' h') (fun _ s1 h1 => ?_) fun _ _ x => x)))
  · refine wpAny_bind (wpAny_mono hx (fun _ s2 h2 => ?_) fun _ _ x => x)
    first | exact wpAny_pure ⟨rfl, h2⟩ | exact wpAny_bind (wpAny_pure (wpAny_pure ⟨rfl, h2⟩))
  · have h2 : Q (.ref s.heap.objs.size) s1 := by simpa [PySem.W.KdsFill] using h1
    rw [if_neg (by decide)]
    refine wpAny_pure ?_
    rw [List.forIn_nil]
    exact wpAny_pure (wpAny_pure h2)
theorem setAdd_int {a : Addr} {S : Int → Bool} {n : Nat} {k : Int} {tk : Tok} {Q : Bool → Shared → Prop} (R : SetR w s.heap a S n) (room : n + 1 < scanBound)
    (h : ∀ h' t', Heap.SameBut a s.heap h' → SetR w h' a (fun j => S j || decide (j = k)) (if S k = true then n else n + 1) → Q (!S k) { s with heap := h', toks := t' }) :
    wpAny (model P w) A (setAdd a (.int k tk)) Q E s := by
  unfold setAdd
  refine wpAny_holding (wpAny_bind ((intKind P w).pyHash (intKind_is P w k tk) ?_))
  exact setR_add_hashed (s := { s with toks := s.toks + 1 }) R room fun h' sb r => h h' _ sb r
end
section
variable {X : Cx}
def tSet2 (w : World) (ta tb : TE) : TE := fun σ H Q => ∀ D, H D = none → ta σ (upd H D (SetO w D (fun _ => false) 0)) fun x H1 => tb σ H1 fun y H2 => ∃ i j : Int, x = .int i ∧ y = .int j ∧ H2 D = some (SetO w D (fun _ => false) 0) ∧
  Q (.ref D) (upd H2 D (SetO w D (fun k => decide (k = i) || decide (k = j)) (if i = j then 1 else 2)))
theorem pe_set2 {a b : Expr} {ta tb : TE} {pos : Pos} (ha : PE X a ta) (hb : PE X b tb) (hcd : PySem.W.kdsCode X.K X.env.code = true) (hp : [a, b].all PySem.W.kdsPlain = true) : PE X (.Set [a, b] 0 pos) (tSet2 X.w ta tb) := by
  refine ⟨fun pins s σ H Q I h => ?_⟩
  rw [arm_eval_Set]
  refine wpAny_bind (wpAny_standAt (wpAny_bind (PySem.W.kds_main I.kIn hcd fun bb => ?_)))
  rw [PySem.W.kds_star _ hp, List.map_map]
  show wpAny _ _ (setDisplay .oneByOne bb _) _ _ _
  refine set_oneByOne (ts := (evalEach [a, b] X.env).map fun t => do let v ← t; standAt pos; pure v) ?_ ?_ ?_ ?_
  · refine List.findIdx?_eq_none_iff.mpr fun x hx => ?_
    obtain ⟨t, _, rfl⟩ := List.mem_map.mp hx
    rfl
  · rw [List.length_map, PySem.W.kds_len]; exact Nat.le_of_ble_eq_true rfl
  · rw [List.map_map]; rfl
  have hD : H s.heap.objs.size = none := I.hok.fresh (Nat.le_refl _)
  have I1 : Inv X pins σ (upd H s.heap.objs.size (SetO X.w s.heap.objs.size (fun _ => false) 0)) { s with heap := s.heap.push { cls := .type "set", dict := none, data := .set #[] 0 (.fresh 0 0 (!X.w.params.followText "set-order")) } } :=
    I.laid (t' := s.toks) (fun b u e => Heap.get?_push_of_some _ e) (Nat.le_refl _) (setO_new (setR_fresh X.w))
  refine PySem.W.kds_all pos [a, b] _ _ ?_
  refine thn (ha.run pins _ σ _ _ I1 (h _ hD)) fun v s1 ⟨x, H1, I2, r1, q1⟩ => ?_
  refine thn (hb.run pins s1 σ H1 _ I2 q1) fun u s2 ⟨y, H2, I3, r2, i, j, e1, e2, hH2, q2⟩ => ?_
  subst e1 e2
  obtain ⟨t1, rfl⟩ := r1
  obtain ⟨t2, rfl⟩ := r2
  generalize s.heap.objs.size = D at *
  refine setAdd_int (setO_get I3 hH2) (by decide) fun h' t' sb R => ?_
  have there : ∀ {h : Heap} {S : Int → Bool} {n : Nat}, SetR X.w h D S n → ∃ u, h.get? D = some u := fun R => by
    obtain ⟨o, _, _, _, ho, _⟩ := R
    exact ⟨o, ho⟩
  have I4 : Inv X pins σ (upd H2 D (SetO X.w D (fun k => false || decide (k = i)) (if false = true then 0 else 0 + 1))) { s2 with heap := h', toks := t' } :=
    I3.write (e := D) (by rw [hH2]; trivial) (.inl rfl) (fun b u hb hu => (sb.2 b hb).trans hu) (there R) (setO_new R)
  refine setAdd_int (s := { s2 with heap := h', toks := t' }) R (by decide) fun h2 t2' sb2 R2 => ?_
  have R3 : SetR X.w h2 D (fun k => decide (k = i) || decide (k = j)) (if i = j then 1 else 2) := by
    have e : (if (false || decide (j = i)) = true then (if false = true then 0 else 0 + 1) else (if false = true then 0 else 0 + 1) + 1) = (if i = j then 1 else 2) := by
      by_cases c : i = j
      · subst c; simp
      · have c' : ¬ j = i := fun z => c z.symm
        simp [c, c']
    rw [← e]
    exact R2.congr fun k => by simp
  have I5 : Inv X pins σ (upd (upd H2 D (SetO X.w D (fun k => false || decide (k = i)) (if false = true then 0 else 0 + 1))) D (SetO X.w D (fun k => decide (k = i) || decide (k = j)) (if i = j then 1 else 2))) { s2 with heap := h2, toks := t2' } :=
    I4.write (e := D) (by rw [upd_same]; trivial) (.inl rfl) (fun b u hb hu => (sb2.2 b hb).trans hu) (there R3) (setO_new R3)
  rw [upd_upd] at I5
  exact ⟨.ref D, _, I5, rfl, q2⟩
end
/-! a def's body, its code object known -/
theorem kdsCode_of {K : PySem.W.Frag} {cd : Value} {q : Str} (h : PySem.W.codeIn K cd q = true) : PySem.W.kdsCode K cd = true := by
  unfold PySem.W.codeIn at h
  unfold PySem.W.kdsCode
  cases cd with
  | ref c =>
    dsimp only at h ⊢
    cases e : K.lookup c with
    | none => rw [e] at h; cases h
    | some o =>
      rw [e] at h
      obtain ⟨oc, od, dt, sl⟩ := o
      cases dt with
      | fields vs => rfl
      | _ => cases h
  | _ => cases h
section
variable {P : Program} {w : World} {K : PySem.W.Frag} {mg : Str → Option Value} {base : Heap} {x qual : Str} {params : Arguments} {body : List Stmt} {scope : Scope} {dvs : List V} {kws : List (Str × V)} {f : Addr} {fd : FuncData}
theorem okC {CX : CXT} {N ps : List Str} {k : Nat} {sp : Sp} (F : FunD K x qual params body scope dvs kws f fd) (S : FnScope N ps scope) (len : ∀ vs H Q E, sp vs H Q E → vs.length = ps.length)
    (hbody : ∀ (cdv : Value) (A : Around) (outer : List Env) (s : Shared) (H : Hp) (vs : List V) (Q : VK) (E : XK), PySem.W.kdsCode K cdv = true → Room k (A.deeper (envOfC qual scope s.heap.objs.size f cdv)) → sp vs H Q E →
      ∃ t, PSs (cxOf CX P w K mg base N qual scope f cdv A outer s H E) body t ∧ t { nx := fun _ H' => Q .non H', rt := Q } (start N vs) H) : FnOk P w K mg base CX (k + 1) f fd ps sp := by
  obtain ⟨oc, od, dV, kV, doc, pm, an, cdv, ct, osl, rfl, lk, hcd, _, _⟩ := F.ex
  exact fn_of lk hcd S len fun A outer s H vs Q E hr hsp => hbody cdv A outer s H vs Q E (kdsCode_of hcd) hr hsp
end
end Cu
/-! W5 -/
set_option Elab.async false
set_option linter.all false
set_option maxRecDepth 100000
namespace Cu
open PySem PySem.Spec PyProof.Rows L2
/-! {k: v for target in iter}, the keys tuples that stand -/
section
variable {X : Cx}
theorem set_byTuple {Z : Cx} {pins : List (Addr × Obj)} {σ : L2.St} {H : Hp} {s : Shared} {E : Value → Shared → Prop} {D b : Addr} {kvs : List (List L2.Key × V)} {k : List L2.Key} {v : V} {r : Value} {Q : Unit → Shared → Prop} (hu : Z.A.units + 1 < cLine)
    (I : Inv Z pins σ H s) (hD : H D = some (.dT kvs)) (hb : H b = some (.tup (k.map kV))) (hz : kvs.length < sizeLine) (rv : RelV v r) (h : ∀ s', Inv Z pins σ (upd H D (.dT (putK kvs k v))) s' → Q () s') :
    wpAny (model Z.prog Z.w) Z.A (dictSet D (.ref b) r) Q E s := by
  obtain ⟨z, hd, xs, rel, dd⟩ := dt_of I.hok hD
  have hxs : xs.length ≤ sizeLine := by rw [← Paired.length rel]; exact z
  have hl : (putK kvs k v).length ≤ sizeLine := by have := length_putK kvs k v; omega
  refine wpAny_dictSet_heap (hsz := hxs) (Nat.lt_of_succ_lt hu) (key_of I.hok hb) dd fun h' dd' hs => h _ ?_
  obtain ⟨q, es, ep, hq, h2, h3, h4, _, h5⟩ := dd'
  refine d_write I (by rw [hD]; exact True.intro) hs ⟨q, hq⟩ ⟨hl, hd, _, (rel.put k hb rv).keeps fun c ys ec => ?_, q, es, ep, hq, h2, h3, h4, h5⟩
  rw [upd_ne (ne_of ec hD (fun z => nomatch z))]
  exact ec
def tDcT (wi : TI) (g : TG) (tk tv : TE) (vs : List Nat) : TE := fun σ H Q => wi σ H fun J H1 => ∀ D, H1 D = none → ∃ W : Nat → Nat → Hp → Prop, (∃ m, W 0 m (upd H1 D (.dT []))) ∧ ∀ i m H, W i m H →
  (J.stop i H ∧ Q (.ref D) H) ∨ (J.go i H ∧ ∃ Nx : Hp → Prop, (∀ H', Nx H' → ∃ m', m' < m ∧ W (i + 1) m' H') ∧ ∀ x H', J.yld i H x H' → g x (wipe σ vs) H' fun σ2 H2 => wipe σ2 vs = wipe σ vs ∧
    tk σ2 H2 fun y H4 => tv σ2 H4 fun z H5 => ∃ kvs k b, y = .ref b ∧ H5 b = some (.tup (k.map kV)) ∧ H5 D = some (.dT kvs) ∧ kvs.length < sizeLine ∧ Nx (upd H5 D (.dT (putK kvs k z))))
theorem dcT_core {pins : List (Addr × Obj)} {s : Shared} {σ : L2.St} {H : Hp} {Q : VK} {kx vx tg iter : Expr} {scope : Scope} {own : List (Str × Nat)} {pos pos' : Pos} {wi : TI} {g : TG} {tk tv : TE} {use : Option (Value → Sem Unit)} {Qf : Value → Shared → Prop}
    (hu : X.A.units + 1 < cLine) (hc : X.calm = true) (hN : X.N.Nodup) (I : Inv X pins σ H s) (hi : PI X tg iter wi) (ok : BlkOk X.N X.env.scope scope own)
    (hg : ∀ (s : Shared) (H : Hp) (C : Addr) (cl : List (Str × Addr)) (fp : List Addr), PG (X.blk s H scope (compEnvC scope cl C X.env) fp) tg g)
    (hk : ∀ (s : Shared) (H : Hp) (C : Addr) (cl : List (Str × Addr)) (fp : List Addr), PE (X.blk s H scope (compEnvC scope cl C X.env) fp) kx tk)
    (he : ∀ (s : Shared) (H : Hp) (C : Addr) (cl : List (Str × Addr)) (fp : List Addr), PE (X.blk s H scope (compEnvC scope cl C X.env) fp) vx tv) (hs : ∀ x, foldedSetIterable iter X.env x = pure x)
    (h : tDcT wi g tk tv (own.map (·.2)) σ H Q)
    (hRR : ∀ D C s' m H', Inv X pins σ H' s' → Q (.ref D) H' → s'.heap.Ns C m → FpOk X pins H' C → compPost (model X.prog X.w) X.A X.xe use Qf (.ref D) C (.ok .next) s') :
    wpAny (model X.prog X.w) X.A (comprehension (.DictComp kx vx [⟨tg, iter, [], 0⟩] scope pos) scope X.env pos' newDict false (eval iter X.env) use) Qf X.xe s := by
  have hfree : ∀ y ∈ scope.names, y.2 = .free → ∃ c, X.env.cells.lookup y.1 = some c := fun y hy e => (ok.free y hy e).elim (fun k => I.ok.has _ (.inl k)) fun k => I.ok.has _ (.inr k)
  refine wpAny_comprehension_free (use := use) rfl hs (closure_ok hfree) ok.kind (fun y hy e => by rw [ok.uniq y hy, e]) (thn (hi.run pins s σ H _ I h) fun xv s1 hx => thn hx fun itv s2 h2 => ?_)
  obtain ⟨it, fp, tn, J, H2, e, I2, T, st2, f2, q⟩ := h2
  subst e
  refine wpAny_newObj_type (newEnv_comp ?_)
  -- the new dict at D, the block's frame behind it
  generalize hD : s2.heap.objs.size = D
  have hDn : H2 D = none := I2.hok.fresh (Nat.le_of_eq hD)
  obtain ⟨W, ⟨m0, w0⟩, turn⟩ := q D hDn
  generalize hs3 : ({ s2 with heap := s2.heap.push { cls := .type "dict", data := .dict #[] } } : Shared) = s3
  have h3 : s3.heap = s2.heap.push { cls := .type "dict", data := .dict #[] } := by rw [← hs3]
  have I3 : Inv X pins σ (upd H2 D (.dT [])) s3 := by
    rw [← hs3]
    refine I2.laid (t' := s2.toks) (fun b o e => Heap.get?_push_of_some _ e) (Nat.le_of_eq hD) ?_
    rw [← hD]; exact dt_empty s2.heap I2.big
  have low : ∀ b ∈ fp, b < s2.heap.objs.size := fun b hb => let ⟨o, e, _⟩ := T.obj _ _ st2 b hb; Heap.lt_size e
  have f3 : ∀ b ∈ fp, FpOk X pins (upd H2 D (.dT [])) b ∧ b < s3.heap.objs.size := fun b hb => by
    have hlt := low b hb
    refine ⟨⟨?_, (f2 b hb).2⟩, by rw [h3, Heap.size_push]; exact Nat.lt_succ_of_lt hlt⟩
    rw [upd_ne (by rw [← hD]; exact Nat.ne_of_lt hlt)]
    exact (f2 b hb).1
  have I4 := block_start I3 ok hN f3
  have pg := hg s3 (upd H2 D (.dT [])) s3.heap.objs.size (cellsFrom (s3.heap.objs.size + 1) scope.names (cloFrom X.env.cells scope.names [])) fp
  have pk := hk s3 (upd H2 D (.dT [])) s3.heap.objs.size (cellsFrom (s3.heap.objs.size + 1) scope.names (cloFrom X.env.cells scope.names [])) fp
  have pe := he s3 (upd H2 D (.dT [])) s3.heap.objs.size (cellsFrom (s3.heap.objs.size + 1) scope.names (cloFrom X.env.cells scope.names [])) fp
  show codeAny _ _ (.compStart (.DictComp kx vx [⟨tg, iter, [], 0⟩] scope pos) 0 (.ref it) (.ref D) (compEnvC scope (cellsFrom (s3.heap.objs.size + 1) scope.names (cloFrom X.env.cells scope.names [])) s3.heap.objs.size X.env)) (compPost (model X.prog X.w) X.A X.xe use Qf (.ref D) s3.heap.objs.size) { s3 with heap := pushCells (s3.heap.push { cls := .type "dict", data := .dict #[] }) scope.names }
  have nfp : ∀ b ∈ fp, (upd H2 D (.dT [])) b = none := fun b hb => (f3 b hb).1.1
  generalize hce : compEnvC scope (cellsFrom (s3.heap.objs.size + 1) scope.names (cloFrom X.env.cells scope.names [])) s3.heap.objs.size X.env = ce at I4 pg pk pe ⊢
  have cL : ce.locals = s3.heap.objs.size := by subst hce; rfl
  generalize hH3 : upd H2 D (.dT []) = H3 at I3 I4 pg pk pe w0 nfp f3
  generalize hs4 : ({ s3 with heap := pushCells (s3.heap.push { cls := .type "dict", data := .dict #[] }) scope.names } : Shared) = s4 at I4 ⊢
  have st4 : tn 0 s4.heap := T.keep _ _ _ st2 fun b _ o e => by rw [← hs4]; exact pushCells_keeps _ _ _ _ (Heap.get?_push_of_some _ (by rw [h3]; exact Heap.get?_push_of_some _ e))
  have stat : ∀ {σ' : L2.St} {H' : Hp} {s' : Shared}, Inv (X.blk s3 H3 scope ce fp) [] σ' H' s' → (∀ b ∈ fp, H' b = none) → ∀ b ∈ fp, FpOk (X.blk s3 H3 scope ce fp) [] H' b := fun {σ' H' s'} I' hn b hb =>
    ⟨hn b hb, (I'.ok.exf b hb).1, I'.ok.exfs b hb, .inl hb, fun x c e => (I'.ok.exf b hb).2 x c e, fun p hp => absurd (show p ∈ ([] : List (Addr × Obj)) ++ [] from hp) (by simp)⟩
  have loop : codeAny (model X.prog X.w) X.A (.compLoop (.DictComp kx vx [⟨tg, iter, [], 0⟩] scope pos) 0 (.ref it) (.ref D) ce) (compPost (model X.prog X.w) X.A X.xe use Qf (.ref D) s3.heap.objs.size) s4 := by
    refine compLoop_anyD (fun n s' => ∃ i H', Inv (X.blk s3 H3 scope ce fp) [] (wipe σ (own.map (·.2))) H' s' ∧ tn i s'.heap ∧ (∀ b ∈ fp, H' b = none) ∧ W i n H') ?_ m0 ⟨0, H3, I4, st4, nfp, w0⟩
    rintro n s5 ⟨i, H5, I5, st5, n5, w5⟩
    rcases turn i n H5 w5 with ⟨stop, qq⟩ | ⟨go, Nx, hNx, step⟩
    · refine thnF (T.done (X.blk s3 H3 scope ce fp) rfl rfl rfl hc i [] s5 _ H5 (fun _ _ => False) I5 (stat I5 n5) st5 stop) fun r s6 ⟨hr, I6⟩ => ?_
      subst hr
      have I7 : Inv X pins σ H5 s6 := I3.call' (ch := fp) I6.os I6.base I6.hok I6.bare fun b hb => ⟨(f3 b hb).1.2.2.2.1, (f3 b hb).1.2.1, (f3 b hb).1.2.2.2.2.1, (f3 b hb).1.2.2.2.2.2⟩
      have nC : H5 s3.heap.objs.size = none := by
        have z : H5 ce.locals = none := I6.free
        rwa [cL] at z
      obtain ⟨m, hn, _⟩ := I6.loc
      have hn : s6.heap.Ns ce.locals m := hn
      rw [cL] at hn
      exact hRR D s3.heap.objs.size s6 m H5 I7 qq hn (I3.fpOk (Nat.le_refl _) nC)
    · refine thnF (T.item (X.blk s3 H3 scope ce fp) rfl rfl rfl hc i [] s5 _ H5 (fun _ _ => False) I5 (stat I5 n5) st5 go) fun r s6 ⟨u, hr, h6⟩ => ?_
      subst hr
      refine thnF h6 fun _ s7 ⟨x, H7, I7, r7, y7, st7, n7⟩ => ?_
      have I7' := I7.pinned (stat I7 n7) (T.obj _ _ st7)
      refine thnF (pg.run _ s7 _ H7 x u _ I7' r7 (step x H7 y7)) fun _ s8 ⟨σ8, H8, I8, hw8, q8⟩ => ?_
      rw [List.forIn_nil]
      refine wpAny_pure ?_
      rw [if_pos rfl]
      refine thnF (pk.run _ s8 σ8 H8 _ I8 q8) fun z s10 ⟨yk, H10, I10, r10, q10⟩ => ?_
      refine thnF (pe.run _ s10 σ8 H10 _ I10 q10) fun z2 s11 ⟨yv, H11, I11, r11, kvs, k, b, ek, hb, hD11, hz11, nx⟩ => ?_
      subst ek
      obtain rfl : z = Value.ref b := r10
      refine set_byTuple (Z := X.blk s3 H3 scope ce fp) hu I11 hD11 hb hz11 r11 fun s12 I12 => ?_
      obtain ⟨m', hm, w'⟩ := hNx _ nx
      have pin' : ∀ b ∈ fp, ∀ o, s7.heap.get? b = some o → s12.heap.get? b = some o ∧ (upd H11 D (.dT (putK kvs k yv))) b = none := fun b hb o e =>
        let z := I12.pin (b, o) (List.mem_append_right _ (List.mem_append_right _ (mem_pinsAt hb e)))
        ⟨z.1, z.2.1⟩
      have hl : (wipe σ (own.map (·.2))).length = σ8.length := by rw [← hw8, wipe_length]
      refine ⟨m', hm, i + 1, _, (I12.unpinned (pins := [])).weak hl (fun j v e => ?_), T.keep _ _ _ st7 fun b hb o e => (pin' b hb o e).1, fun b hb => ?_, w'⟩
      · rw [← hw8] at e
        exact (wipe_some e).1
      · obtain ⟨o, e, _⟩ := T.obj _ _ st7 b hb
        exact (pin' b hb o e).2
  exact codeAny_compStart_dict loop (T.self X.A 0 _ _ _ st4 loop)
theorem pe_dcT {kx vx tg iter : Expr} {scope : Scope} {own : List (Str × Nat)} {pos : Pos} {wi : TI} {g : TG} {tk tv : TE} (hu : X.A.units + 1 < cLine) (hc : X.calm = true) (hN : X.N.Nodup) (hi : PI X tg iter wi) (ok : BlkOk X.N X.env.scope scope own)
    (hg : ∀ (s : Shared) (H : Hp) (C : Addr) (cl : List (Str × Addr)) (fp : List Addr), PG (X.blk s H scope (compEnvC scope cl C X.env) fp) tg g)
    (hk : ∀ (s : Shared) (H : Hp) (C : Addr) (cl : List (Str × Addr)) (fp : List Addr), PE (X.blk s H scope (compEnvC scope cl C X.env) fp) kx tk)
    (he : ∀ (s : Shared) (H : Hp) (C : Addr) (cl : List (Str × Addr)) (fp : List Addr), PE (X.blk s H scope (compEnvC scope cl C X.env) fp) vx tv) (hs : ∀ x, foldedSetIterable iter X.env x = pure x := by intro _; rfl) :
    PE X (.DictComp kx vx [⟨tg, iter, [], 0⟩] scope pos) (tDcT wi g tk tv (own.map (·.2))) := by
  refine ⟨fun pins s σ H Q I h => ?_⟩
  rw [arm_eval_DictComp]
  refine dcT_core hu hc hN I hi ok hg hk he hs h fun D C s' m H' I' q hn f => ⟨m, hn, fun h'' sb => ?_⟩
  obtain ⟨f0, f1, f2, f3, f4, f5⟩ := f
  exact ⟨.ref D, H', I'.turned (t' := s'.toks) (fun b o hb e => (sb.2 b hb).trans e) f0 f1 f3 f4 f5, rfl, q⟩
/-- name = {..} on one line, the name a local -/
theorem ps_setDcT {i : Nat} {y : Str} {py : Pos} {kx vx tg iter : Expr} {scope : Scope} {own : List (Str × Nat)} {pos spos : Pos} {wi : TI} {g : TG} {tk tv : TE} (hu : X.A.units + 1 < cLine) (hc : X.calm = true) (hN : X.N.Nodup) (hy : X.N[i]? = some y) (hyl : X.env.scope.names.lookup y = some .local)
    (hsw : swapsWith (.DictComp kx vx [⟨tg, iter, [], 0⟩] scope pos) (some (.Name y py)) spos.line X.env = pure true) (hi : PI X tg iter wi) (ok : BlkOk X.N X.env.scope scope own)
    (hg : ∀ (s : Shared) (H : Hp) (C : Addr) (cl : List (Str × Addr)) (fp : List Addr), PG (X.blk s H scope (compEnvC scope cl C X.env) fp) tg g)
    (hk : ∀ (s : Shared) (H : Hp) (C : Addr) (cl : List (Str × Addr)) (fp : List Addr), PE (X.blk s H scope (compEnvC scope cl C X.env) fp) kx tk)
    (he : ∀ (s : Shared) (H : Hp) (C : Addr) (cl : List (Str × Addr)) (fp : List Addr), PE (X.blk s H scope (compEnvC scope cl C X.env) fp) vx tv) (hs : ∀ x, foldedSetIterable iter X.env x = pure x := by intro _; rfl) :
    PS X (.Assign [.Name y py] (.DictComp kx vx [⟨tg, iter, [], 0⟩] scope pos) spos) (tAsg (tDcT wi g tk tv (own.map (·.2))) (gName i)) := by
  refine ⟨fun pins s σ H D I h => ?_⟩
  rw [exec_Assign_Name_used _ _ _ _ hsw]
  refine wpAny_bind (wpAny_standAt (wpAny_bind ?_))
  show wpAny _ X.A (do let _ ← comprehension (.DictComp kx vx [⟨tg, iter, [], 0⟩] scope pos) scope X.env (firstIterPos [⟨tg, iter, [], 0⟩] pos) newDict false (eval iter X.env) (some (assign (.Name y py) X.env))) _ _ s
  have h : tDcT wi g tk tv (own.map (·.2)) σ H (fun x H1 => gName i x σ H1 D.nx) := h
  refine wpAny_bind (thn (dcT_core (Qf := fun _ s' => SP X pins D .next s') hu hc hN I hi ok hg hk he hs h fun L C s' m H' I' q hn f => ?_) fun _ s' hq => wpAny_pure (wpAny_pure hq))
  show wpAny _ _ (assign (.Name y py) X.env (.ref L)) _ _ _
  refine wpAny_assign_Name (store_ok2 (v := V.ref L) I' hN hy (.inl hyl) rfl (fun s2 I2 ⟨a, sb, ha⟩ => ?_) (.inr hyl))
  obtain ⟨f0, f1, f2, f3, f4, f5⟩ := f
  have haC : C ≠ a := by
    rcases ha with z | z
    · rw [z]; exact f1
    · exact fun e => f4 y a z e.symm
  refine ⟨m, hn.sameBut sb haC, fun h3 sb3 => ?_⟩
  exact ⟨_, H', I2.turned (t' := s2.toks) (fun b o hb e => (sb3.2 b hb).trans e) f0 f1 f3 f4 f5, q⟩
theorem sw_trueD {kx vx : Expr} {gs : List Comprehension} {scope : Scope} {pos py : Pos} {y : Str} {l : Nat} {env : Env} (hk : env.scope.kind = .function) (hy : env.scope.names.lookup y = some .local) (hl : (py.line == pos.line) = true)
    (ha : (scope.names.any fun (n, k) => n == y && (k == .local || k == .cell)) = false) : swapsWith (.DictComp kx vx gs scope pos) (some (.Name y py)) l env = pure true := by
  have ky : env.kindOf y = some .local := hy
  have hb : env.blockKind = .function := by unfold Env.blockKind; rw [hk]; rfl
  unfold swapsWith
  simp only [hb, ky, ha, Expr.pos, hl]
  rfl
end
end Cu
/-! Hd -/
set_option Elab.async false
set_option linter.all false
set_option maxRecDepth 100000
set_option maxHeartbeats 0
namespace Cu
open PySem PySem.Spec PyProof.Rows L2
/-! the text, by places -/
def top (i : Nat) : Stmt := PySem.Challenge.pw_cushioned_k40_whole_starts_on_great_tabl.main.body.getD i (.Pass ⟨0, 0, 0, 0⟩)
abbrev s_inverse : Stmt := top 3
theorem sc_inverse : FnScope ["number", "modulus", "left", "right", "factor", "following", "quotient"] ["number", "modulus"] (defScope s_inverse) := ⟨rfl, rfl, rfl, by decide +kernel, rfl, by decide +kernel, by decide +kernel⟩
abbrev s_chinese : Stmt := top 4
theorem sc_chinese : FnScope ["one", "other", "first", "size", "second", "width", "divisor", "step", "modulus"] ["one", "other"] (defScope s_chinese) := ⟨rfl, rfl, rfl, by decide +kernel, rfl, by decide +kernel, by decide +kernel⟩
abbrev s_numberTo : Stmt := top 6
theorem sc_numberTo : FnScope ["last", "remainder", "modulus"] ["last", "remainder", "modulus"] (defScope s_numberTo) := ⟨rfl, rfl, rfl, by decide +kernel, rfl, by decide +kernel, by decide +kernel⟩
abbrev s_sides : Stmt := top 7
theorem sc_sides : FnScope ["place", "size"] ["place", "size"] (defScope s_sides) := ⟨rfl, rfl, rfl, by decide +kernel, rfl, by decide +kernel, by decide +kernel⟩
abbrev s_rInit : Stmt := inClass (top 8) 0
theorem sc_rInit : FnScope ["self", "length", "edges"] ["self", "length", "edges"] (defScope s_rInit) := ⟨rfl, rfl, rfl, by decide +kernel, rfl, by decide +kernel, by decide +kernel⟩
abbrev s_weightTo : Stmt := inClass (top 8) 1
theorem sc_weightTo : FnScope ["self", "last", "total", "corner", "remainder", "modulus"] ["self", "last"] (defScope s_weightTo) := ⟨rfl, rfl, rfl, by decide +kernel, rfl, by decide +kernel, by decide +kernel⟩
abbrev s_rAdd : Stmt := inClass (top 8) 2
theorem sc_rAdd : FnScope ["self", "stands", "numbers", "before", "minute", "pocket"] ["self", "stands", "numbers"] (defScope s_rAdd) := ⟨rfl, rfl, rfl, by decide +kernel, rfl, by decide +kernel, by decide +kernel⟩
abbrev s_told : Stmt := top 9
theorem sc_told : FnScope ["table", "numbers", "total", "pocket"] ["table", "numbers", "total"] (defScope s_told) := ⟨rfl, rfl, rfl, by decide +kernel, rfl, by decide +kernel, by decide +kernel⟩
abbrev s_slanting : Stmt := top 10
theorem sc_slanting : FnScope ["table", "width", "height", "common", "rounds", "pocket", "across", "along", "first", "minute", "_", "numbers", "stands", "edges"] ["table"] (defScope s_slanting) := ⟨rfl, rfl, rfl, by decide +kernel, rfl, by decide +kernel, by decide +kernel⟩
abbrev s_straight : Stmt := top 11
theorem sc_straight : FnScope ["table", "numbers", "part", "size", "rows", "pocket", "minute", "stands"] ["table"] (defScope s_straight) := ⟨rfl, rfl, rfl, by decide +kernel, rfl, by decide +kernel, by decide +kernel⟩
abbrev s_require : Stmt := top 18
theorem sc_require : FnScope ["holds"] ["holds"] (defScope s_require) := ⟨rfl, rfl, rfl, by decide +kernel, rfl, by decide +kernel, by decide +kernel⟩
abbrev s_tInit : Stmt := inClass (top 19) 0
theorem sc_tInit : FnScope ["self", "width", "height", "pockets", "number", "point"] ["self", "width", "height", "pockets"] (defScope s_tInit) := ⟨rfl, rfl, rfl, by decide +kernel, rfl, by decide +kernel, by decide +kernel⟩
abbrev s_isPoint : Stmt := inClass (top 19) 1
theorem sc_isPoint : FnScope ["self", "point"] ["self", "point"] (defScope s_isPoint) := ⟨rfl, rfl, rfl, by decide +kernel, rfl, by decide +kernel, by decide +kernel⟩
abbrev s_lRow : Stmt := top 21
theorem sc_lRow : FnScope ["_law_cell", "_law_many_here", "_law_row_here", "_law_rest", "_law_mixed", "_law_k"] ["_law_cell", "_law_many_here"] (defScope s_lRow) := ⟨rfl, rfl, rfl, by decide +kernel, rfl, by decide +kernel, by decide +kernel⟩
abbrev s_lNumbers : Stmt := top 22
theorem sc_lNumbers : FnScope ["_law_script", "_law_many_here", "_law_cells", "_law_each", "_law_numbers_here", "_law_cell", "_law_number"] ["_law_script", "_law_many_here"] (defScope s_lNumbers) := ⟨rfl, rfl, rfl, by decide +kernel, rfl, by decide +kernel, by decide +kernel⟩
abbrev s_lIsInt : Stmt := top 23
theorem sc_lIsInt : FnScope ["_law_actual"] ["_law_actual"] (defScope s_lIsInt) := ⟨rfl, rfl, rfl, by decide +kernel, rfl, by decide +kernel, by decide +kernel⟩
abbrev s_lGreat : Stmt := top 24
theorem sc_lGreat : FnScope ["_law_numbers_here", "_law_at", "_law_value", "_law_k"] ["_law_numbers_here", "_law_at"] (defScope s_lGreat) := ⟨rfl, rfl, rfl, by decide +kernel, rfl, by decide +kernel, by decide +kernel⟩
abbrev s_lGcd : Stmt := top 25
theorem sc_lGcd : FnScope ["_law_one", "_law_other", "_law_turn"] ["_law_one", "_law_other"] (defScope s_lGcd) := ⟨rfl, rfl, rfl, by decide +kernel, rfl, by decide +kernel, by decide +kernel⟩
abbrev s_lTable : Stmt := top 26
theorem sc_lTable : FnScope ["_law_numbers_here", "_law_at", "_law_width", "_law_height", "_law_pockets", "_law_k", "_law_x", "_law_y"] ["_law_numbers_here", "_law_at"] (defScope s_lTable) := ⟨rfl, rfl, rfl, by decide +kernel, rfl, by decide +kernel, by decide +kernel⟩
abbrev s_lWeightR : Stmt := top 27
theorem sc_lWeightR : FnScope ["_law_width", "_law_height", "_law_first", "_law_length", "_law_total", "_law_common"] ["_law_width", "_law_height", "_law_first"] (defScope s_lWeightR) := ⟨rfl, rfl, rfl, by decide +kernel, rfl, by decide +kernel, by decide +kernel⟩
abbrev s_lSlanting : Stmt := top 28
theorem sc_lSlanting : FnScope ["_law_width", "_law_height", "_law_pockets", "_law_common", "_law_rounds", "_law_x", "_law_y", "_law_first"] ["_law_width", "_law_height", "_law_pockets"] (defScope s_lSlanting) := ⟨rfl, rfl, rfl, by decide +kernel, rfl, by decide +kernel, by decide +kernel⟩
abbrev s_lStraight : Stmt := top 29
theorem sc_lStraight : FnScope ["_law_width", "_law_height", "_law_pockets", "_law_rows", "_law_columns", "_law_x", "_law_y"] ["_law_width", "_law_height", "_law_pockets"] (defScope s_lStraight) := ⟨rfl, rfl, rfl, by decide +kernel, rfl, by decide +kernel, by decide +kernel⟩
abbrev s_lIsTold : Stmt := top 30
theorem sc_lIsTold : FnScope ["_law_actual", "_law_table", "_law_falling", "_law_width", "_law_height", "_law_pockets", "_law_numbers_here", "_law_row_here", "_law_number"] ["_law_actual", "_law_table", "_law_falling"] (defScope s_lIsTold) := ⟨rfl, rfl, rfl, by decide +kernel, rfl, by decide +kernel, by decide +kernel⟩
abbrev s_lInverse : Stmt := top 31
theorem sc_lInverse : FnScope ["_law_value", "_law_modulus", "_law_one", "_law_other", "_law_first", "_law_second", "_law_turn", "_law_whole"] ["_law_value", "_law_modulus"] (defScope s_lInverse) := ⟨rfl, rfl, rfl, by decide +kernel, rfl, by decide +kernel, by decide +kernel⟩
abbrev s_lMeet : Stmt := top 32
theorem sc_lMeet : FnScope ["_law_first", "_law_modulus", "_law_second", "_law_other", "_law_common", "_law_step"] ["_law_first", "_law_modulus", "_law_second", "_law_other"] (defScope s_lMeet) := ⟨rfl, rfl, rfl, by decide +kernel, rfl, by decide +kernel, by decide +kernel⟩
abbrev s_lMany : Stmt := top 33
theorem sc_lMany : FnScope ["_law_last", "_law_remainder", "_law_modulus"] ["_law_last", "_law_remainder", "_law_modulus"] (defScope s_lMany) := ⟨rfl, rfl, rfl, by decide +kernel, rfl, by decide +kernel, by decide +kernel⟩
abbrev s_lWeight : Stmt := top 34
theorem sc_lWeight : FnScope ["_law_edges", "_law_last", "_law_total", "_law_corner", "_law_length", "_law_remainder", "_law_modulus"] ["_law_edges", "_law_last"] (defScope s_lWeight) := ⟨rfl, rfl, rfl, by decide +kernel, rfl, by decide +kernel, by decide +kernel⟩
abbrev s_lShared : Stmt := top 35
theorem sc_lShared : FnScope ["_law_stands", "_law_edges", "_law_length", "_law_found", "_law_before", "_law_minute", "_law_place", "_law_here"] ["_law_stands", "_law_edges", "_law_length", "_law_found"] (defScope s_lShared) := ⟨rfl, rfl, rfl, by decide +kernel, rfl, by decide +kernel, by decide +kernel⟩
abbrev s_lPlaces : Stmt := top 36
theorem sc_lPlaces : FnScope ["_law_part", "_law_size"] ["_law_part", "_law_size"] (defScope s_lPlaces) := ⟨rfl, rfl, rfl, by decide +kernel, rfl, by decide +kernel, by decide +kernel⟩
abbrev s_lSlEach : Stmt := top 37
theorem sc_lSlEach : FnScope ["_law_width", "_law_height", "_law_pockets", "_law_common", "_law_rounds", "_law_k", "_law_x", "_law_y", "_law_first", "_law_minute", "_law_found", "_law_edges", "_law_pocket"] ["_law_width", "_law_height", "_law_pockets"] (defScope s_lSlEach) := ⟨rfl, rfl, rfl, by decide +kernel, rfl, by decide +kernel, by decide +kernel⟩
abbrev s_lStEach : Stmt := top 38
theorem sc_lStEach : FnScope ["_law_width", "_law_height", "_law_pockets", "_law_found", "_law_part", "_law_size", "_law_rows", "_law_k", "_law_row_here", "_law_minute", "_law_pocket"] ["_law_width", "_law_height", "_law_pockets"] (defScope s_lStEach) := ⟨rfl, rfl, rfl, by decide +kernel, rfl, by decide +kernel, by decide +kernel⟩
abbrev s_law : Stmt := top 39
theorem sc_law : FnScope ["_law_script", "_law_numbers_here", "_law_width", "_law_height", "_law_pockets", "_law_table", "_law_turned", "_law_mirrored", "_law_slanting_here", "_law_straight_here", "_law_other", "_law_x", "_law_y", "_law_row_here"] ["_law_script"] (defScope s_law) := ⟨rfl, rfl, rfl, by decide +kernel, rfl, by decide +kernel, by decide +kernel⟩
def mkD (a : Str × Option Str) (n q : Str) (s : Stmt) (dfl : List He.Dv) : He.DefD := ⟨a, n, q, defArgs s, defBody s, defScope s, dfl, []⟩
def fn1 : List He.DefD := [mkD ("inverse", none) "inverse" "inverse" s_inverse [],
  mkD ("chinese", none) "chinese" "chinese" s_chinese [],
  mkD ("number_to", none) "number_to" "number_to" s_numberTo [],
  mkD ("sides", none) "sides" "sides" s_sides [],
  mkD ("Round", some "__init__") "__init__" "Round.__init__" s_rInit [],
  mkD ("Round", some "weight_to") "weight_to" "Round.weight_to" s_weightTo [],
  mkD ("Round", some "add") "add" "Round.add" s_rAdd [],
  mkD ("told", none) "told" "told" s_told [],
  mkD ("slanting_starts", none) "slanting_starts" "slanting_starts" s_slanting [],
  mkD ("straight_starts", none) "straight_starts" "straight_starts" s_straight [],
  mkD ("require", none) "require" "require" s_require [],
  mkD ("Table", some "__init__") "__init__" "Table.__init__" s_tInit [.adr (He.dflAt ("Table", some "__init__") 0)],
  mkD ("Table", some "is_point") "is_point" "Table.is_point" s_isPoint [],
  mkD ("_law_row", none) "_law_row" "_law_row" s_lRow [],
  mkD ("_law_numbers", none) "_law_numbers" "_law_numbers" s_lNumbers [],
  mkD ("_law_is_integer", none) "_law_is_integer" "_law_is_integer" s_lIsInt []]
def fn2 : List He.DefD := [mkD ("_law_great", none) "_law_great" "_law_great" s_lGreat [],
  mkD ("_law_gcd", none) "_law_gcd" "_law_gcd" s_lGcd [],
  mkD ("_law_great_table", none) "_law_great_table" "_law_great_table" s_lTable [],
  mkD ("_law_round_weight", none) "_law_round_weight" "_law_round_weight" s_lWeightR [],
  mkD ("_law_slanting", none) "_law_slanting" "_law_slanting" s_lSlanting [],
  mkD ("_law_straight", none) "_law_straight" "_law_straight" s_lStraight [],
  mkD ("_law_is_told", none) "_law_is_told" "_law_is_told" s_lIsTold [],
  mkD ("_law_inverse", none) "_law_inverse" "_law_inverse" s_lInverse [],
  mkD ("_law_meet", none) "_law_meet" "_law_meet" s_lMeet [],
  mkD ("_law_many", none) "_law_many" "_law_many" s_lMany [],
  mkD ("_law_weight", none) "_law_weight" "_law_weight" s_lWeight [],
  mkD ("_law_shared", none) "_law_shared" "_law_shared" s_lShared [],
  mkD ("_law_places", none) "_law_places" "_law_places" s_lPlaces [],
  mkD ("_law_slanting_each", none) "_law_slanting_each" "_law_slanting_each" s_lSlEach [],
  mkD ("_law_straight_each", none) "_law_straight_each" "_law_straight_each" s_lStEach [],
  mkD ("law", none) "law" "law" s_law []]
def fn : List He.DefD := fn1 ++ fn2
def fa1 : List He.Fa := [.glo "inverse", .glo "chinese", .glo "number_to", .glo "sides", .glo "told", .glo "slanting_starts", .glo "straight_starts", .glo "require", .glo "_law_row", .glo "_law_numbers", .glo "_law_is_integer", .glo "_law_great", .glo "_law_gcd", .glo "_law_great_table", .glo "_law_round_weight", .glo "_law_slanting", .glo "_law_straight", .glo "_law_is_told", .glo "_law_inverse", .glo "_law_meet", .glo "_law_many", .glo "_law_weight", .glo "_law_shared", .glo "_law_places", .glo "_law_slanting_each", .glo "_law_straight_each", .glo "law", .glo "Round", .glo "Table"]
def fa2 : List He.Fa := [.free "len", .free "sum", .free "sorted", .free "range", .free "max", .free "min", .free "abs", .free "int", .free "isinstance", .free "all", .free "tuple", .free "list", .free "bool", .free "enumerate", .cls "Round", .cls "Table", .mkr "Round", .mkr "Table", .meth "Round" "weight_to", .meth "Round" "add", .meth "Table" "is_point", .noat "Round" "length", .noat "Round" "edges", .noat "Table" "width", .noat "Table" "height", .noat "Table" "pockets", .int "MOST" 1000000000000000000000000000000, .int "MOST_POCKETS" 12]
def fa : List He.Fa := fa1 ++ fa2
/-! the facts with the built-in functions of a module -/
def biOk (K : PySem.W.Frag) (b : Str × String) : Bool := He.eqO (PySem.W.nsIn K mainGlobals b.1) (some (some (.builtin b.2)))
def bi : List (Str × String) := [("gcd", "math.gcd"), ("lcm", "math.lcm")]
abbrev AlB : Type := He.AlD × Bool
def obsB (K : PySem.W.Frag) : AlB := (He.obsD fa fn K, bi.all (biOk K))
def valB : AlB := (He.valD fn, true)
def obsBG (g : Addr → Option Obj) : AlB := obsB (He.frG g (He.asD g 4))
def hkB : PySem.W.Hook where
  α := AlB
  obs := fun s => obsBG s.heap.get?
  val := fun _ => valB
  says := fun _ h => ∃ K : PySem.W.Frag, K.In h ∧ obsB K = valB
  of := fun _ _ e => ⟨_, He.frG_in, e⟩
  keeps := fun _ _ _ ⟨K, hK, c⟩ k => ⟨K, PySem.W.Frag.In.keeps hK k, c⟩
abbrev R : PySem.W.OpenRow := PySem.W.OpenLaw.row PySem.Challenge.rw_cushioned_k40_whole_starts_on_great_tabl
def ob (s : PySem.W.SharedT) : AlB := obsBG (HandSHeadRun.getT s)
theorem ob_eq (s : PySem.W.SharedT) : ob s = hkB.obs s.abs := by
  have e : HandSHeadRun.getT s = s.abs.heap.get? := funext (HandSHeadRun.getT_eq s)
  unfold ob
  rw [e]
  all_goals rfl
def names1 : List PySem.Str := ["gcd", "lcm", "_wall", "inverse", "chinese", "number_to", "sides", "told", "slanting_starts", "straight_starts", "require", "_law_row", "_law_numbers", "_law_is_integer", "_law_great", "_law_gcd", "_law_great_table", "_law_round_weight"]
def names2 : List PySem.Str := ["_law_slanting", "_law_straight", "_law_is_told", "_law_inverse", "_law_meet", "_law_many", "_law_weight", "_law_shared", "_law_places", "_law_slanting_each", "_law_straight_each", "Round", "Table", "CushionedError", "InvalidTable", "MOST", "MOST_POCKETS"]
def names : List PySem.Str := names1 ++ names2
theorem run (w : World) : HandSHeadRun.RunEqI R (PySem.W.view R.prog [0, 39]) hkB ob 8000 names w := by
  show (HandSHeadRun.wholeF (fun p => HandSHeadRun.stepQ (HandSHeadRun.denQ HandSHeadRun.tabQ) p w) HandSHeadRun.fenceQ 8000 R.prog).map _ = some _
  kernel_rfl
/-! what the defs lean on -/
structure Txt (K : PySem.W.Frag) (mg : Str → Option Value) : Prop where
  says : He.SaysD fa fn K
  bis : bi.all (biOk K) = true
  some_ : ∀ (x : Str) (v : Value), PySem.W.nsIn K mainGlobals x = some (some v) → mg x = some v
  none_ : ∀ x : Str, PySem.W.nsIn K mainGlobals x = some none → mg x = none
theorem Txt.of {K : PySem.W.Frag} {mg : Str → Option Value} {h : Heap} (X : K.In h) (G : h.Ns mainGlobals mg) (c : obsB K = valB) : Txt K mg :=
  ⟨congrArg Prod.fst c, congrArg Prod.snd c, fun _ _ e => PySem.W.mg_of X G e, fun _ e => PySem.W.mg_none_of X G e⟩
section
variable {K : PySem.W.Frag} {mg : Str → Option Value}
theorem Txt.glo (T : Txt K mg) {x : Str} (c : (He.Fa.glo x).ok K = true) : mg x = some (.ref (He.ga K x)) := T.some_ _ _ (He.eqO_ok c)
theorem Txt.free (T : Txt K mg) {x : Str} (c : (He.Fa.free x).ok K = true) : mg x = none := T.none_ _ (He.eqO_ok c)
theorem Txt.g_inverse (T : Txt K mg) : mg "inverse" = some (.ref (He.ga K "inverse")) := T.glo (T.says.fact 0 rfl)
theorem Txt.g_chinese (T : Txt K mg) : mg "chinese" = some (.ref (He.ga K "chinese")) := T.glo (T.says.fact 1 rfl)
theorem Txt.g_number_to (T : Txt K mg) : mg "number_to" = some (.ref (He.ga K "number_to")) := T.glo (T.says.fact 2 rfl)
theorem Txt.g_sides (T : Txt K mg) : mg "sides" = some (.ref (He.ga K "sides")) := T.glo (T.says.fact 3 rfl)
theorem Txt.g_told (T : Txt K mg) : mg "told" = some (.ref (He.ga K "told")) := T.glo (T.says.fact 4 rfl)
theorem Txt.g_slanting_starts (T : Txt K mg) : mg "slanting_starts" = some (.ref (He.ga K "slanting_starts")) := T.glo (T.says.fact 5 rfl)
theorem Txt.g_straight_starts (T : Txt K mg) : mg "straight_starts" = some (.ref (He.ga K "straight_starts")) := T.glo (T.says.fact 6 rfl)
theorem Txt.g_require (T : Txt K mg) : mg "require" = some (.ref (He.ga K "require")) := T.glo (T.says.fact 7 rfl)
theorem Txt.g_law_row (T : Txt K mg) : mg "_law_row" = some (.ref (He.ga K "_law_row")) := T.glo (T.says.fact 8 rfl)
theorem Txt.g_law_numbers (T : Txt K mg) : mg "_law_numbers" = some (.ref (He.ga K "_law_numbers")) := T.glo (T.says.fact 9 rfl)
theorem Txt.g_law_is_integer (T : Txt K mg) : mg "_law_is_integer" = some (.ref (He.ga K "_law_is_integer")) := T.glo (T.says.fact 10 rfl)
theorem Txt.g_law_great (T : Txt K mg) : mg "_law_great" = some (.ref (He.ga K "_law_great")) := T.glo (T.says.fact 11 rfl)
theorem Txt.g_law_gcd (T : Txt K mg) : mg "_law_gcd" = some (.ref (He.ga K "_law_gcd")) := T.glo (T.says.fact 12 rfl)
theorem Txt.g_law_great_table (T : Txt K mg) : mg "_law_great_table" = some (.ref (He.ga K "_law_great_table")) := T.glo (T.says.fact 13 rfl)
theorem Txt.g_law_round_weight (T : Txt K mg) : mg "_law_round_weight" = some (.ref (He.ga K "_law_round_weight")) := T.glo (T.says.fact 14 rfl)
theorem Txt.g_law_slanting (T : Txt K mg) : mg "_law_slanting" = some (.ref (He.ga K "_law_slanting")) := T.glo (T.says.fact 15 rfl)
theorem Txt.g_law_straight (T : Txt K mg) : mg "_law_straight" = some (.ref (He.ga K "_law_straight")) := T.glo (T.says.fact 16 rfl)
theorem Txt.g_law_is_told (T : Txt K mg) : mg "_law_is_told" = some (.ref (He.ga K "_law_is_told")) := T.glo (T.says.fact 17 rfl)
theorem Txt.g_law_inverse (T : Txt K mg) : mg "_law_inverse" = some (.ref (He.ga K "_law_inverse")) := T.glo (T.says.fact 18 rfl)
theorem Txt.g_law_meet (T : Txt K mg) : mg "_law_meet" = some (.ref (He.ga K "_law_meet")) := T.glo (T.says.fact 19 rfl)
theorem Txt.g_law_many (T : Txt K mg) : mg "_law_many" = some (.ref (He.ga K "_law_many")) := T.glo (T.says.fact 20 rfl)
theorem Txt.g_law_weight (T : Txt K mg) : mg "_law_weight" = some (.ref (He.ga K "_law_weight")) := T.glo (T.says.fact 21 rfl)
theorem Txt.g_law_shared (T : Txt K mg) : mg "_law_shared" = some (.ref (He.ga K "_law_shared")) := T.glo (T.says.fact 22 rfl)
theorem Txt.g_law_places (T : Txt K mg) : mg "_law_places" = some (.ref (He.ga K "_law_places")) := T.glo (T.says.fact 23 rfl)
theorem Txt.g_law_slanting_each (T : Txt K mg) : mg "_law_slanting_each" = some (.ref (He.ga K "_law_slanting_each")) := T.glo (T.says.fact 24 rfl)
theorem Txt.g_law_straight_each (T : Txt K mg) : mg "_law_straight_each" = some (.ref (He.ga K "_law_straight_each")) := T.glo (T.says.fact 25 rfl)
theorem Txt.g_law (T : Txt K mg) : mg "law" = some (.ref (He.ga K "law")) := T.glo (T.says.fact 26 rfl)
theorem Txt.g_Round (T : Txt K mg) : mg "Round" = some (.ref (He.ga K "Round")) := T.glo (T.says.fact 27 rfl)
theorem Txt.g_Table (T : Txt K mg) : mg "Table" = some (.ref (He.ga K "Table")) := T.glo (T.says.fact 28 rfl)
theorem Txt.b_len (T : Txt K mg) : mg "len" = none := T.free (T.says.fact 29 rfl)
theorem Txt.b_sum (T : Txt K mg) : mg "sum" = none := T.free (T.says.fact 30 rfl)
theorem Txt.b_sorted (T : Txt K mg) : mg "sorted" = none := T.free (T.says.fact 31 rfl)
theorem Txt.b_range (T : Txt K mg) : mg "range" = none := T.free (T.says.fact 32 rfl)
theorem Txt.b_max (T : Txt K mg) : mg "max" = none := T.free (T.says.fact 33 rfl)
theorem Txt.b_min (T : Txt K mg) : mg "min" = none := T.free (T.says.fact 34 rfl)
theorem Txt.b_abs (T : Txt K mg) : mg "abs" = none := T.free (T.says.fact 35 rfl)
theorem Txt.b_int (T : Txt K mg) : mg "int" = none := T.free (T.says.fact 36 rfl)
theorem Txt.b_isinstance (T : Txt K mg) : mg "isinstance" = none := T.free (T.says.fact 37 rfl)
theorem Txt.b_all (T : Txt K mg) : mg "all" = none := T.free (T.says.fact 38 rfl)
theorem Txt.b_tuple (T : Txt K mg) : mg "tuple" = none := T.free (T.says.fact 39 rfl)
theorem Txt.b_list (T : Txt K mg) : mg "list" = none := T.free (T.says.fact 40 rfl)
theorem Txt.b_bool (T : Txt K mg) : mg "bool" = none := T.free (T.says.fact 41 rfl)
theorem Txt.b_enumerate (T : Txt K mg) : mg "enumerate" = none := T.free (T.says.fact 42 rfl)
theorem Txt.cl_Round (T : Txt K mg) : Cls K (He.ga K "Round") := He.cls_ok (T.says.fact 43 rfl)
theorem Txt.cl_Table (T : Txt K mg) : Cls K (He.ga K "Table") := He.cls_ok (T.says.fact 44 rfl)
theorem Txt.mk_Round (T : Txt K mg) : Mk K (He.ga K "Round") (He.ma K (He.ga K "Round") "__init__") := He.mkr_ok (T.says.fact 45 rfl)
theorem Txt.mk_Table (T : Txt K mg) : Mk K (He.ga K "Table") (He.ma K (He.ga K "Table") "__init__") := He.mkr_ok (T.says.fact 46 rfl)
theorem Txt.mt_weight_to (T : Txt K mg) : Meth K (He.ga K "Round") "weight_to" (He.ma K (He.ga K "Round") "weight_to") := He.meth_ok (T.says.fact 47 rfl)
theorem Txt.mt_add (T : Txt K mg) : Meth K (He.ga K "Round") "add" (He.ma K (He.ga K "Round") "add") := He.meth_ok (T.says.fact 48 rfl)
theorem Txt.mt_is_point (T : Txt K mg) : Meth K (He.ga K "Table") "is_point" (He.ma K (He.ga K "Table") "is_point") := He.meth_ok (T.says.fact 49 rfl)
theorem Txt.na_length (T : Txt K mg) : NoAttr K (He.ga K "Round") "length" := He.noat_ok (T.says.fact 50 rfl)
theorem Txt.na_edges (T : Txt K mg) : NoAttr K (He.ga K "Round") "edges" := He.noat_ok (T.says.fact 51 rfl)
theorem Txt.na_width (T : Txt K mg) : NoAttr K (He.ga K "Table") "width" := He.noat_ok (T.says.fact 52 rfl)
theorem Txt.na_height (T : Txt K mg) : NoAttr K (He.ga K "Table") "height" := He.noat_ok (T.says.fact 53 rfl)
theorem Txt.na_pockets (T : Txt K mg) : NoAttr K (He.ga K "Table") "pockets" := He.noat_ok (T.says.fact 54 rfl)
theorem Txt.i_MOST (T : Txt K mg) : ∃ t, mg "MOST" = some (.int 1000000000000000000000000000000 t) := by
  have c := T.says.fact 55 (f := .int "MOST" 1000000000000000000000000000000) rfl
  have c2 : (match PySem.W.nsIn K mainGlobals "MOST" with | some (some (.int j _)) => decide (j = 1000000000000000000000000000000) | _ => false) = true := c
  split at c2
  · rename_i j t e
    exact ⟨t, by rw [T.some_ _ _ e, of_decide_eq_true c2]⟩
  · cases c2
theorem Txt.i_MOST_POCKETS (T : Txt K mg) : ∃ t, mg "MOST_POCKETS" = some (.int 12 t) := by
  have c := T.says.fact 56 (f := .int "MOST_POCKETS" 12) rfl
  have c2 : (match PySem.W.nsIn K mainGlobals "MOST_POCKETS" with | some (some (.int j _)) => decide (j = 12) | _ => false) = true := c
  split at c2
  · rename_i j t e
    exact ⟨t, by rw [T.some_ _ _ e, of_decide_eq_true c2]⟩
  · cases c2
theorem Txt.m_gcd (T : Txt K mg) : mg "gcd" = some (.builtin "math.gcd") := T.some_ _ _ (He.eqO_ok (List.all_eq_true.mp T.bis ("gcd", "math.gcd") (List.mem_of_getElem? (i := 0) rfl)))
theorem Txt.m_lcm (T : Txt K mg) : mg "lcm" = some (.builtin "math.lcm") := T.some_ _ _ (He.eqO_ok (List.all_eq_true.mp T.bis ("lcm", "math.lcm") (List.mem_of_getElem? (i := 1) rfl)))
theorem Txt.d_inverse (T : Txt K mg) : ∃ fd, FunD K "inverse" "inverse" (defArgs s_inverse) (defBody s_inverse) (defScope s_inverse) [] [] (He.ga K "inverse") fd := T.says.def_ 0 rfl
theorem Txt.d_chinese (T : Txt K mg) : ∃ fd, FunD K "chinese" "chinese" (defArgs s_chinese) (defBody s_chinese) (defScope s_chinese) [] [] (He.ga K "chinese") fd := T.says.def_ 1 rfl
theorem Txt.d_numberTo (T : Txt K mg) : ∃ fd, FunD K "number_to" "number_to" (defArgs s_numberTo) (defBody s_numberTo) (defScope s_numberTo) [] [] (He.ga K "number_to") fd := T.says.def_ 2 rfl
theorem Txt.d_sides (T : Txt K mg) : ∃ fd, FunD K "sides" "sides" (defArgs s_sides) (defBody s_sides) (defScope s_sides) [] [] (He.ga K "sides") fd := T.says.def_ 3 rfl
theorem Txt.d_rInit (T : Txt K mg) : ∃ fd, FunD K "__init__" "Round.__init__" (defArgs s_rInit) (defBody s_rInit) (defScope s_rInit) [] [] (He.ma K (He.ga K "Round") "__init__") fd := T.says.def_ 4 rfl
theorem Txt.d_weightTo (T : Txt K mg) : ∃ fd, FunD K "weight_to" "Round.weight_to" (defArgs s_weightTo) (defBody s_weightTo) (defScope s_weightTo) [] [] (He.ma K (He.ga K "Round") "weight_to") fd := T.says.def_ 5 rfl
theorem Txt.d_rAdd (T : Txt K mg) : ∃ fd, FunD K "add" "Round.add" (defArgs s_rAdd) (defBody s_rAdd) (defScope s_rAdd) [] [] (He.ma K (He.ga K "Round") "add") fd := T.says.def_ 6 rfl
theorem Txt.d_told (T : Txt K mg) : ∃ fd, FunD K "told" "told" (defArgs s_told) (defBody s_told) (defScope s_told) [] [] (He.ga K "told") fd := T.says.def_ 7 rfl
theorem Txt.d_slanting (T : Txt K mg) : ∃ fd, FunD K "slanting_starts" "slanting_starts" (defArgs s_slanting) (defBody s_slanting) (defScope s_slanting) [] [] (He.ga K "slanting_starts") fd := T.says.def_ 8 rfl
theorem Txt.d_straight (T : Txt K mg) : ∃ fd, FunD K "straight_starts" "straight_starts" (defArgs s_straight) (defBody s_straight) (defScope s_straight) [] [] (He.ga K "straight_starts") fd := T.says.def_ 9 rfl
theorem Txt.d_require (T : Txt K mg) : ∃ fd, FunD K "require" "require" (defArgs s_require) (defBody s_require) (defScope s_require) [] [] (He.ga K "require") fd := T.says.def_ 10 rfl
theorem Txt.d_tInit (T : Txt K mg) : ∃ fd, FunD K "__init__" "Table.__init__" (defArgs s_tInit) (defBody s_tInit) (defScope s_tInit) [V.ref (He.dflAt ("Table", some "__init__") 0 K)] [] (He.ma K (He.ga K "Table") "__init__") fd := T.says.def_ 11 rfl
theorem Txt.d_isPoint (T : Txt K mg) : ∃ fd, FunD K "is_point" "Table.is_point" (defArgs s_isPoint) (defBody s_isPoint) (defScope s_isPoint) [] [] (He.ma K (He.ga K "Table") "is_point") fd := T.says.def_ 12 rfl
theorem Txt.d_lRow (T : Txt K mg) : ∃ fd, FunD K "_law_row" "_law_row" (defArgs s_lRow) (defBody s_lRow) (defScope s_lRow) [] [] (He.ga K "_law_row") fd := T.says.def_ 13 rfl
theorem Txt.d_lNumbers (T : Txt K mg) : ∃ fd, FunD K "_law_numbers" "_law_numbers" (defArgs s_lNumbers) (defBody s_lNumbers) (defScope s_lNumbers) [] [] (He.ga K "_law_numbers") fd := T.says.def_ 14 rfl
theorem Txt.d_lIsInt (T : Txt K mg) : ∃ fd, FunD K "_law_is_integer" "_law_is_integer" (defArgs s_lIsInt) (defBody s_lIsInt) (defScope s_lIsInt) [] [] (He.ga K "_law_is_integer") fd := T.says.def_ 15 rfl
theorem Txt.d_lGreat (T : Txt K mg) : ∃ fd, FunD K "_law_great" "_law_great" (defArgs s_lGreat) (defBody s_lGreat) (defScope s_lGreat) [] [] (He.ga K "_law_great") fd := T.says.def_ 16 rfl
theorem Txt.d_lGcd (T : Txt K mg) : ∃ fd, FunD K "_law_gcd" "_law_gcd" (defArgs s_lGcd) (defBody s_lGcd) (defScope s_lGcd) [] [] (He.ga K "_law_gcd") fd := T.says.def_ 17 rfl
theorem Txt.d_lTable (T : Txt K mg) : ∃ fd, FunD K "_law_great_table" "_law_great_table" (defArgs s_lTable) (defBody s_lTable) (defScope s_lTable) [] [] (He.ga K "_law_great_table") fd := T.says.def_ 18 rfl
theorem Txt.d_lWeightR (T : Txt K mg) : ∃ fd, FunD K "_law_round_weight" "_law_round_weight" (defArgs s_lWeightR) (defBody s_lWeightR) (defScope s_lWeightR) [] [] (He.ga K "_law_round_weight") fd := T.says.def_ 19 rfl
theorem Txt.d_lSlanting (T : Txt K mg) : ∃ fd, FunD K "_law_slanting" "_law_slanting" (defArgs s_lSlanting) (defBody s_lSlanting) (defScope s_lSlanting) [] [] (He.ga K "_law_slanting") fd := T.says.def_ 20 rfl
theorem Txt.d_lStraight (T : Txt K mg) : ∃ fd, FunD K "_law_straight" "_law_straight" (defArgs s_lStraight) (defBody s_lStraight) (defScope s_lStraight) [] [] (He.ga K "_law_straight") fd := T.says.def_ 21 rfl
theorem Txt.d_lIsTold (T : Txt K mg) : ∃ fd, FunD K "_law_is_told" "_law_is_told" (defArgs s_lIsTold) (defBody s_lIsTold) (defScope s_lIsTold) [] [] (He.ga K "_law_is_told") fd := T.says.def_ 22 rfl
theorem Txt.d_lInverse (T : Txt K mg) : ∃ fd, FunD K "_law_inverse" "_law_inverse" (defArgs s_lInverse) (defBody s_lInverse) (defScope s_lInverse) [] [] (He.ga K "_law_inverse") fd := T.says.def_ 23 rfl
theorem Txt.d_lMeet (T : Txt K mg) : ∃ fd, FunD K "_law_meet" "_law_meet" (defArgs s_lMeet) (defBody s_lMeet) (defScope s_lMeet) [] [] (He.ga K "_law_meet") fd := T.says.def_ 24 rfl
theorem Txt.d_lMany (T : Txt K mg) : ∃ fd, FunD K "_law_many" "_law_many" (defArgs s_lMany) (defBody s_lMany) (defScope s_lMany) [] [] (He.ga K "_law_many") fd := T.says.def_ 25 rfl
theorem Txt.d_lWeight (T : Txt K mg) : ∃ fd, FunD K "_law_weight" "_law_weight" (defArgs s_lWeight) (defBody s_lWeight) (defScope s_lWeight) [] [] (He.ga K "_law_weight") fd := T.says.def_ 26 rfl
theorem Txt.d_lShared (T : Txt K mg) : ∃ fd, FunD K "_law_shared" "_law_shared" (defArgs s_lShared) (defBody s_lShared) (defScope s_lShared) [] [] (He.ga K "_law_shared") fd := T.says.def_ 27 rfl
theorem Txt.d_lPlaces (T : Txt K mg) : ∃ fd, FunD K "_law_places" "_law_places" (defArgs s_lPlaces) (defBody s_lPlaces) (defScope s_lPlaces) [] [] (He.ga K "_law_places") fd := T.says.def_ 28 rfl
theorem Txt.d_lSlEach (T : Txt K mg) : ∃ fd, FunD K "_law_slanting_each" "_law_slanting_each" (defArgs s_lSlEach) (defBody s_lSlEach) (defScope s_lSlEach) [] [] (He.ga K "_law_slanting_each") fd := T.says.def_ 29 rfl
theorem Txt.d_lStEach (T : Txt K mg) : ∃ fd, FunD K "_law_straight_each" "_law_straight_each" (defArgs s_lStEach) (defBody s_lStEach) (defScope s_lStEach) [] [] (He.ga K "_law_straight_each") fd := T.says.def_ 30 rfl
theorem Txt.d_law (T : Txt K mg) : ∃ fd, FunD K "law" "law" (defArgs s_law) (defBody s_law) (defScope s_law) [] [] (He.ga K "law") fd := T.says.def_ 31 rfl
end
end Cu
/-! W6 -/
set_option Elab.async false
set_option linter.all false
set_option maxRecDepth 100000
set_option maxHeartbeats 0
namespace Cu
open PySem PySem.Spec PyProof.Rows L2
/-! a def of the text, as it is called -/
section
variable {P : Program} {w : World} {K : PySem.W.Frag} {mg : Str → Option Value} {base : Heap}
/-- the def x is bound to a function that keeps sp -/
def Cal (P : Program) (w : World) (K : PySem.W.Frag) (mg : Str → Option Value) (base : Heap) (k : Nat) (x : Str) (ps : List Str) (sp : Sp) : Prop :=
  ∃ f fd, mg x = some (.ref f) ∧ FnOk P w K mg base CX0 k f fd ps sp ∧ Binds K fd ps [] ∧ PySem.W.keepIn K (.ref f) = true
/-- a method of the class at C -/
def CalM (P : Program) (w : World) (K : PySem.W.Frag) (mg : Str → Option Value) (base : Heap) (k : Nat) (C : Addr) (m : Str) (ps : List Str) (sp : Sp) : Prop :=
  ∃ f fd, Cls K C ∧ Meth K C m f ∧ FnOk P w K mg base CX0 k f fd ps sp ∧ Binds K fd ps []
/-- a class x that is made -/
def CalC (P : Program) (w : World) (K : PySem.W.Frag) (mg : Str → Option Value) (base : Heap) (k : Nat) (x : Str) (C : Addr) (ps : List Str) (sp : Sp) : Prop :=
  ∃ f fd, mg x = some (.ref C) ∧ Mk K C f ∧ FnOk P w K mg base CX0 k f fd ps sp ∧ Binds K fd ps []
section
variable {X : Cx} {k : Nat} {C : Addr} {x m : Str} {ps : List Str} {sp : Sp} {e o : Expr} {es : List Expr} {ta : TE} {t : TA} {p pos apos : Pos}
theorem pe_fn (c : Cal X.prog X.w X.K X.mg X.base k x ps sp) (hr : Room k X.A) (hg : Gl X x) (ha : PA X (e :: es) t) (hdb : (x == ("__debug__" : Str)) = false := by decide)
    (he : starEach (e :: es) X.env = (false, eval e X.env) :: starEach es X.env := by rfl) (hpl : (backTo pos (starEach es X.env)).any (·.1) = false := by rfl) : PE X (.Call (.Name x p) (e :: es) [] pos) (tCall sp [] E0 t) := by
  obtain ⟨f, fd, h1, h2, h3, h4⟩ := c
  exact pe_call h2 hr hg h1 h4 h3 .nil pass0 ha hdb he hpl
theorem pe_mk (c : CalC X.prog X.w X.K X.mg X.base k x C ps sp) (hr : Room (k + 1) X.A) (hg : Gl X x) (ha : PA X (e :: es) t) (hdb : (x == ("__debug__" : Str)) = false := by decide)
    (he : starEach (e :: es) X.env = (false, eval e X.env) :: starEach es X.env := by rfl) (hpl : (backTo pos (starEach es X.env)).any (·.1) = false := by rfl) : PE X (.Call (.Name x p) (e :: es) [] pos) (tMake C sp [] E0 t) := by
  obtain ⟨f, fd, h1, h2, h3, h4⟩ := c
  exact pe_make h2 h3 hr hg h1 h4 .nil pass0 ha hdb he hpl
theorem pe_mth {pl : Sem Bool} (c : CalM X.prog X.w X.K X.mg X.base k C m ps sp) (hr : Room k X.A) (ho : PE X o ta) (ha : PA X (e :: es) t)
    (hst : starEach (e :: es) X.env = (false, eval e X.env) :: starEach es X.env := by rfl) (hpl : (backTo pos (starEach es X.env)).any (·.1) = false := by rfl)
    (ht : eval (.Call (.Attribute o m apos) (e :: es) [] pos) X.env = (do
      let ov ← eval o X.env
      standAt apos.atName
      let (f, first) ← holding [ov] (getMethod ov m pl)
      callWith pos f first (backTo pos (starEach (e :: es) X.env)) (backToKw pos (keywordEach [] X.env))) := by rfl) :
    PE X (.Call (.Attribute o m apos) (e :: es) [] pos) (tMeth C m sp [] E0 ta t) := by
  obtain ⟨f, fd, h1, h2, h3, h4⟩ := c
  exact pe_meth ho h1 h2 h3 hr h4 .nil pass0 ha hst hpl ht
end
end
/-! great numbers -/
theorem wmul {i j : Int} (h1 : -(2 ^ 250) ≤ i) (h2 : i ≤ 2 ^ 250) (h3 : -(2 ^ 250) ≤ j) (h4 : j ≤ 2 ^ 250) : CMulW i j := by
  refine wide_mul (a := 251) (b := 251) ?_ ?_ (by omega) (by omega) (by omega) <;> omega
theorem wdiv {i j : Int} (h1 : 0 < j) (h2 : j ≤ 2 ^ 250) : CDivW i j := wide_div (b := 251) h1 (by omega) (by omega) (by omega)
theorem le_div {a b : Int} (ha : 0 ≤ a) (hb : 0 < b) : 0 ≤ a / b ∧ a / b ≤ a := ⟨Int.ediv_nonneg ha (by omega), Int.ediv_le_self _ ha⟩
theorem Same.laid {H : Hp} {a : Addr} {o : HO} (h : H a = none) : Same H (upd H a o) := fun b u e => by rw [upd_ne (ne_of_none e h)]; exact e
/-! inverse -/
def spInv : Sp := fun vs H Q _ => ∃ n m : Int, vs = [.int n, .int m] ∧ 0 < n ∧ 0 < m ∧ n ≤ 2 ^ 110 ∧ m ≤ 2 ^ 110 ∧ gc n m = 1 ∧ ∀ i H', IsInv n m i → Same H H' → Q (.int i) H'
section
variable {P : Program} {w : World} {K : PySem.W.Frag} {mg : Str → Option Value} {base : Heap}
theorem c_inverse (T : Txt K mg) : Cal P w K mg base 1 "inverse" ["number", "modulus"] spInv := by
  obtain ⟨fd, F⟩ := T.d_inverse
  have nd := sc_inverse.nd
  refine ⟨_, fd, T.g_inverse, F.ok sc_inverse (fun vs H Q E h => ?_) (fun cdv A outer s H vs Q E hr h => ⟨_, PSs.nox (pss_cons (ps_par (i := 2) (j := 3) rfl nd rfl rfl (by decide) rfl rfl (pa_cons (pv 0) (pa_cons (pv 1) pa_nil)) rfl) (pss_cons (ps_asg (pe_tup (pa_cons pe_int (pa_cons pe_int pa_nil))) (pg_tup rfl (pgs_cons (pg_name (i := 4) nd rfl (Or.inl rfl)) (pgs_cons (pg_name (i := 5) nd rfl (Or.inl rfl)) pgs_nil)))) (pss_cons (ps_while PassesOwn.never (pt_cmpR op_gt (pv 3) pe_int (nomark _)) (pss_cons (ps_set (i := 6) nd rfl (Or.inl rfl) (pe_op op_fdivW (pv 2) (pv 3))) (pss_cons (ps_par (i := 2) (j := 3) rfl nd rfl rfl (by decide) rfl rfl (pa_cons (pv 3) (pa_cons (pe_op op_sub (pv 2) (pe_op op_mulW (pv 6) (pv 3))) pa_nil)) rfl) (pss_one (ps_par (i := 4) (j := 5) rfl nd rfl rfl (by decide) rfl rfl (pa_cons (pv 5) (pa_cons (pe_op op_sub (pv 4) (pe_op op_mulW (pv 6) (pv 5))) pa_nil)) rfl))))) (pss_one (ps_ret (pe_op op_mod (pv 4) (pv 1))))))), ?_⟩), F.bindsN fun _ _ _ _ _ _ us hl => match us, hl with | [_, _], _ => rfl, F.kp⟩
  · obtain ⟨n, m, rfl, _⟩ := h
    rfl
  · obtain ⟨n, m, rfl, h0, h1, h2, h3, hg, hQ⟩ := h
    refine ⟨_, rfl, _, rfl, _, _, rfl, ?_⟩
    refine ⟨by decide, fun a0 ha0 => ⟨_, _, rfl, SqT.of upd_same, rfl, _, _, rfl, _, _, rfl, rfl, ?_⟩⟩
    refine while_by (fun σ H' => H' = upd H a0 (.tup [.int 1, .int 0]) ∧ ∃ (l r f s : Int) (q : Option V), σ = [some (.int n), some (.int m), some (.int l), some (.int r), some (.int f), some (.int s), q] ∧ VI n m (2 ^ 110) l r f s)
      (fun σ _ => match σ[3]? with | some (some (V.int r)) => r.toNat | _ => 0) ⟨rfl, n, m, 1, 0, none, rfl, .start h0 h1 hg h2 h3⟩ ?_
      (fun σ H Q Q' m ⟨v, e1, i, j, e2, e3, k, e4, q⟩ => ⟨v, e1, i, j, e2, e3, k, e4, m _ _ q⟩)
    rintro σ H' ⟨rfl, l, r, f, s, q, rfl, v⟩
    refine ⟨_, rfl, _, _, rfl, rfl, _, rfl, ?_⟩
    by_cases hr0 : 0 < r
    · rw [decide_eq_true hr0]
      refine iteT ?_
      have l0 := v.l0; have lB := v.lB; have rB := v.rB
      obtain ⟨s1, s2, s3⟩ := v.small
      have q0 := le_div (Int.le_of_lt l0) hr0
      refine ⟨_, rfl, _, rfl, _, _, rfl, rfl, wdiv hr0 (by omega), ?_⟩
      refine ⟨_, rfl, _, rfl, _, rfl, _, rfl, _, _, rfl, rfl, wmul (by omega) (by omega) (by omega) (by omega), _, _, rfl, rfl, _, _, rfl, ?_⟩
      refine ⟨_, rfl, _, rfl, _, rfl, _, rfl, _, _, rfl, rfl, wmul (by omega) (by omega) (by omega) (by omega), _, _, rfl, rfl, _, _, rfl, ?_⟩
      have em := Int.emod_lt_of_pos l hr0
      have em0 := Int.emod_nonneg l (show r ≠ 0 by omega)
      refine ⟨⟨rfl, r, l % r, s, f - l / r * s, some (.int (l / r)), ?_, v.step hr0⟩, ?_⟩
      · rw [← div_mod (a := l)]
        rfl
      · show (l - l / r * r).toNat < r.toNat
        rw [div_mod]
        omega
    · rw [decide_eq_false hr0]
      refine iteF ?_
      have e : r = 0 := by have := v.r0; omega
      subst e
      exact ⟨_, rfl, _, rfl, _, _, rfl, rfl, h1, hQ _ _ (v.inv h1) (Same.laid ha0)⟩
end
end Cu
/-! W7 -/
set_option Elab.async false
set_option linter.all false
set_option maxRecDepth 100000
set_option maxHeartbeats 0
namespace Cu
open PySem PySem.Spec PyProof.Rows L2
theorem neT {i j : Int} (h : i ≠ j) : (!decide (V.int i = V.int j)) = true := by rw [decide_eq_false fun e => h (V.int.inj e)]; rfl
theorem neF {i j : Int} (h : i = j) : (!decide (V.int i = V.int j)) = false := by rw [h, decide_eq_true rfl]; rfl
theorem gcz (m n : Int) : ((Nat.gcd m.natAbs n.natAbs : Nat) : Int) = gc m n := rfl
/-! chinese -/
def spChin (K : PySem.W.Frag) : Sp := fun vs H Q _ => ∃ (x y : Addr) (a m b n : Int), vs = [.ref x, .ref y] ∧ SqT K H x [.int a, .int m] ∧ SqT K H y [.int b, .int n] ∧ (0 < m ∧ m ≤ 2 ^ 110) ∧ (0 < n ∧ n ≤ 2 ^ 110) ∧
  (-(2 ^ 110) ≤ a ∧ a ≤ 2 ^ 110) ∧ (-(2 ^ 110) ≤ b ∧ b ≤ 2 ^ 110) ∧
  ((b - a) % gc m n ≠ 0 → ∀ H', Same H H' → Q .non H') ∧ ((b - a) % gc m n = 0 → ∀ H' p, Same H H' → H' p = some (.tup [.int (crt a m b n), .int (lc m n)]) → Q (.ref p) H')
section
variable {P : Program} {w : World} {K : PySem.W.Frag} {mg : Str → Option Value} {base : Heap}
theorem c_chinese (T : Txt K mg) : Cal P w K mg base 2 "chinese" ["one", "other"] (spChin K) := by
  obtain ⟨fd, F⟩ := T.d_chinese
  have nd := sc_chinese.nd
  have c_inverse := c_inverse (P := P) (w := w) (base := base) T
  refine ⟨_, fd, T.g_chinese, F.ok sc_chinese (fun vs H Q E h => ?_) (fun cdv A outer s H vs Q E hr h => ⟨_, PSs.nox (pss_cons (ps_asg (pv 0) (pg_tup rfl (pgs_cons (pg_name (i := 2) nd rfl (Or.inl rfl)) (pgs_cons (pg_name (i := 3) nd rfl (Or.inl rfl)) pgs_nil)))) (pss_cons (ps_asg (pv 1) (pg_tup rfl (pgs_cons (pg_name (i := 4) nd rfl (Or.inl rfl)) (pgs_cons (pg_name (i := 5) nd rfl (Or.inl rfl)) pgs_nil)))) (pss_cons (ps_set (i := 6) nd rfl (Or.inl rfl) (pe_callBfun cr_gcd rfl T.m_gcd (pa_cons (pv 3) (pa_cons (pv 5) pa_nil)))) (pss_cons (ps_if (pt_cmpR op_ne (pe_op op_mod (pe_op op_sub (pv 4) (pv 2)) (pv 6)) pe_int (nomark _)) (pss_one (ps_ret pe_non)) pss_nil) (pss_cons (ps_set (i := 7) nd rfl (Or.inl rfl) (pe_op op_mulW (pe_op op_fdivW (pe_op op_sub (pv 4) (pv 2)) (pv 6)) (pe_fn c_inverse (hr.mono (by decide)) rfl (pa_cons (pe_op op_fdivW (pv 3) (pv 6)) (pa_cons (pe_op op_fdivW (pv 5) (pv 6)) pa_nil))))) (pss_cons (ps_set (i := 8) nd rfl (Or.inl rfl) (pe_op op_mulW (pe_op op_fdivW (pv 3) (pv 6)) (pv 5))) (pss_one (ps_ret (pe_tup (pa_cons (pe_op op_mod (pe_op op_add (pv 2) (pe_op op_mulW (pv 3) (pe_op op_mod (pv 7) (pe_op op_fdivW (pv 5) (pv 6))))) (pv 8)) (pa_cons (pv 8) pa_nil))))))))))), ?_⟩), F.bindsN fun _ _ _ _ _ _ us hl => match us, hl with | [_, _], _ => rfl, F.kp⟩
  · obtain ⟨_, _, _, _, _, _, rfl, _⟩ := h
    rfl
  · obtain ⟨x, y, a, m, b, n, rfl, hx, hy, ⟨m0, m1⟩, ⟨n0, n1⟩, ⟨a0, a1⟩, ⟨b0, b1⟩, qN, qY⟩ := h
    refine ⟨_, rfl, _, _, rfl, hx, rfl, _, _, rfl, _, _, rfl, rfl, ?_⟩
    refine ⟨_, rfl, _, _, rfl, hy, rfl, _, _, rfl, _, _, rfl, rfl, ?_⟩
    refine ⟨_, rfl, _, rfl, m, n, rfl, ?_⟩
    rw [gcz]
    have g0 := gc_pos (n := n) m0
    obtain ⟨m', n', e1, e2, p1, p2, d1, d2⟩ := gc_parts m0 n0
    have gm : gc m n ≤ m := by
      have := Int.mul_le_mul_of_nonneg_left (show 1 ≤ m' by omega) (Int.le_of_lt g0)
      omega
    refine ⟨_, rfl, _, rfl, _, _, rfl, rfl, _, rfl, _, _, rfl, rfl, g0, rfl, _, rfl, ?_⟩
    by_cases hd : (b - a) % gc m n = 0
    · rw [neF hd]
      refine iteF ?_
      have hmd := le_div (Int.le_of_lt m0) g0
      have hnd := le_div (Int.le_of_lt n0) g0
      refine ⟨_, rfl, _, rfl, _, _, rfl, rfl, _, rfl, _, _, rfl, rfl, wdiv g0 (by omega), ?_⟩
      refine ⟨_, rfl, _, rfl, _, _, rfl, rfl, wdiv g0 (by omega), _, rfl, _, rfl, _, _, rfl, rfl, wdiv g0 (by omega), ?_⟩
      refine ⟨_, _, rfl, by rw [d1]; omega, by rw [d2]; omega, by omega, by omega, gc_coprime m0 n0, fun i H1 hi s1 => ?_⟩
      have i0 := hi.1
      have i1 := hi.2.1
      have hq : -(2 ^ 112) ≤ (b - a) / gc m n ∧ (b - a) / gc m n ≤ 2 ^ 112 := by
        have e : gc m n * ((b - a) / gc m n) = b - a := by have := Int.mul_ediv_add_emod (b - a) (gc m n); omega
        constructor
        · refine Int.not_lt.mp fun z => ?_
          have := Int.mul_le_mul_of_nonneg_left (show (b - a) / gc m n + 1 ≤ -(2 ^ 112) by omega) (Int.le_of_lt g0)
          have := Int.mul_le_mul_of_nonneg_right (show 1 ≤ gc m n by omega) (show (0 : Int) ≤ 2 ^ 112 by omega)
          rw [Int.mul_add, Int.mul_one] at *
          omega
        · refine Int.not_lt.mp fun z => ?_
          have := Int.mul_le_mul_of_nonneg_left (show 2 ^ 112 + 1 ≤ (b - a) / gc m n by omega) (Int.le_of_lt g0)
          have := Int.mul_le_mul_of_nonneg_right (show 1 ≤ gc m n by omega) (show (0 : Int) ≤ 2 ^ 112 + 1 by omega)
          omega
      refine ⟨_, _, rfl, rfl, wmul (by omega) (by omega) (by omega) (by omega), ?_⟩
      refine ⟨_, rfl, _, rfl, _, _, rfl, rfl, wdiv g0 (by omega), _, rfl, _, _, rfl, rfl, wmul (by omega) (by omega) (by omega) (by omega), ?_⟩
      have t0 := Int.emod_nonneg ((b - a) / gc m n * i) (show n / gc m n ≠ 0 by rw [d2]; omega)
      have t1 := Int.emod_lt_of_pos ((b - a) / gc m n * i) (show 0 < n / gc m n by rw [d2]; exact p2)
      refine ⟨_, rfl, _, rfl, _, rfl, _, rfl, _, rfl, _, _, rfl, rfl, wdiv g0 (by omega), _, _, rfl, rfl, (by show 0 < n / gc m n; rw [d2]; exact p2), _, _, rfl, rfl, wmul (by omega) (by omega) (by omega) (by omega), _, _, rfl, rfl, ?_⟩
      refine ⟨_, rfl, _, _, rfl, rfl, (by show 0 < m / gc m n * n; exact lc_pos m0 n0), _, rfl, (by show 2 ≤ sizeLine; decide), fun p hp => ?_⟩
      refine qY hd _ p (s1.trans (Same.laid hp)) ?_
      rw [upd_same, ← chin_val m0 n0 hd hi]
      rfl
    · rw [neT hd]
      exact iteT (qN hd _ (Same.refl _))
/-! number_to, _law_many -/
def spNum : Sp := fun vs H Q _ => ∃ l r m : Int, vs = [.int l, .int r, .int m] ∧ 0 < m ∧ m ≤ 2 ^ 240 ∧ Q (.int (numTo l r m)) H
theorem c_numberTo (T : Txt K mg) : Cal P w K mg base 1 "number_to" ["last", "remainder", "modulus"] spNum := by
  obtain ⟨fd, F⟩ := T.d_numberTo
  have nd := sc_numberTo.nd
  refine ⟨_, fd, T.g_number_to, F.ok sc_numberTo (fun vs H Q E h => ?_) (fun cdv A outer s H vs Q E hr h => ⟨_, PSs.nox (pss_one (ps_ret (pe_ifExp (pt_cmpR op_ge (pv 0) (pv 1) (nomark _)) (pe_op op_add (pe_op op_fdivW (pe_op op_sub (pv 0) (pv 1)) (pv 2)) pe_int) pe_int))), ?_⟩), F.bindsN fun _ _ _ _ _ _ us hl => match us, hl with | [_, _, _], _ => rfl, F.kp⟩
  · obtain ⟨_, _, _, rfl, _⟩ := h
    rfl
  · obtain ⟨l, r, m, rfl, m0, m1, q⟩ := h
    refine ⟨_, rfl, _, rfl, _, _, rfl, rfl, _, rfl, ?_⟩
    unfold numTo at q
    by_cases c : r ≤ l
    · rw [decide_eq_true c]
      rw [if_pos c] at q
      exact iteT ⟨_, rfl, _, rfl, _, _, rfl, rfl, _, rfl, _, _, rfl, rfl, wdiv m0 (by omega), _, _, rfl, rfl, q⟩
    · rw [decide_eq_false c]
      rw [if_neg c] at q
      exact iteF q
theorem c_lMany (T : Txt K mg) : Cal P w K mg base 1 "_law_many" ["_law_last", "_law_remainder", "_law_modulus"] spNum := by
  obtain ⟨fd, F⟩ := T.d_lMany
  have nd := sc_lMany.nd
  refine ⟨_, fd, T.g_law_many, F.ok sc_lMany (fun vs H Q E h => ?_) (fun cdv A outer s H vs Q E hr h => ⟨_, PSs.nox (pss_cons (ps_if (pt_cmpR op_lt (pv 0) (pv 1) (nomark _)) (pss_one (ps_ret pe_int)) pss_nil) (pss_one (ps_ret (pe_op op_add (pe_op op_fdivW (pe_op op_sub (pv 0) (pv 1)) (pv 2)) pe_int)))), ?_⟩), F.bindsN fun _ _ _ _ _ _ us hl => match us, hl with | [_, _, _], _ => rfl, F.kp⟩
  · obtain ⟨_, _, _, rfl, _⟩ := h
    rfl
  · obtain ⟨l, r, m, rfl, m0, m1, q⟩ := h
    refine ⟨_, rfl, _, rfl, _, _, rfl, rfl, _, rfl, ?_⟩
    unfold numTo at q
    by_cases c : l < r
    · rw [decide_eq_true c]
      rw [if_neg (by omega)] at q
      exact iteT q
    · rw [decide_eq_false c]
      rw [if_pos (by omega)] at q
      exact iteF ⟨_, rfl, _, rfl, _, _, rfl, rfl, _, rfl, _, _, rfl, rfl, wdiv m0 (by omega), _, _, rfl, rfl, q⟩
/-! _law_gcd -/
def spGcd : Sp := fun vs H Q _ => ∃ a b : Int, vs = [.int a, .int b] ∧ 0 < a ∧ 0 ≤ b ∧ b ≤ 2 ^ 199 ∧ Q (.int (gc a b)) H
set_option exponentiation.threshold 1000 in
theorem c_lGcd (T : Txt K mg) : Cal P w K mg base 1 "_law_gcd" ["_law_one", "_law_other"] spGcd := by
  obtain ⟨fd, F⟩ := T.d_lGcd
  have nd := sc_lGcd.nd
  refine ⟨_, fd, T.g_law_gcd, F.ok sc_lGcd (fun vs H Q E h => ?_) (fun cdv A outer s H vs Q E hr h => ⟨_, PSs.nox (pss_cons (ps_for PassesOwn.never rfl (pi_range1 rfl T.b_range (pa_cons pe_int pa_nil)) (pg_name (i := 2) nd rfl (Or.inl rfl)) (pss_one (ps_if (pt_cmpR op_gt (pv 1) pe_int (nomark _)) (pss_one (ps_par (i := 0) (j := 1) rfl nd rfl rfl (by decide) rfl rfl (pa_cons (pv 1) (pa_cons (pe_op op_mod (pe_callTy call_int1 rfl T.b_int PyProof.Rows.boot_int (pa_cons (pv 0) pa_nil)) (pv 1)) pa_nil)) rfl)) pss_nil))) (pss_one (ps_ret (pv 0)))), ?_⟩), F.bindsN fun _ _ _ _ _ _ us hl => match us, hl with | [_, _], _ => rfl, F.kp⟩
  · obtain ⟨_, _, rfl, _⟩ := h
    rfl
  · obtain ⟨a, b, rfl, a0, b0, b1, hQ⟩ := h
    refine ⟨400, rfl, by decide, by decide, ?_⟩
    refine for_range (n := 400) (fun i σ H' => H' = H ∧ ∃ (x y : Int) (q : Option V), σ = [some (.int x), some (.int y), q] ∧ GI (gc a b) (2 ^ 199) i x y) ⟨rfl, a, b, none, rfl, .start a0 b0 b1⟩ ?_ ?_
    · rintro i σ H' hi ⟨rfl, x, y, q, rfl, g⟩
      refine ⟨_, rfl, _, _, rfl, rfl, _, rfl, ?_⟩
      by_cases c : 0 < y
      · rw [decide_eq_true c]
        exact iteT ⟨_, rfl, _, rfl, .inl ⟨_, rfl, _, rfl, _, _, rfl, rfl, c, _, _, rfl, rfl, _, _, _, rfl, g.step c⟩⟩
      · rw [decide_eq_false c]
        exact iteF ⟨rfl, _, _, _, rfl, g.stay c⟩
    · rintro σ H' ⟨rfl, x, y, q, rfl, g⟩
      have e := g.done (by decide)
      subst e
      exact ⟨_, rfl, hQ⟩
end
end Cu
/-! W8 -/
set_option Elab.async false
set_option linter.all false
set_option maxRecDepth 100000
set_option maxHeartbeats 0
namespace Cu
open PySem PySem.Spec PyProof.Rows L2
/-! sides, _law_places -/
/-- p is a new list of xs -/
def NewL (H : Hp) (xs : List V) (H' : Hp) (p : Addr) : Prop := Same H H' ∧ H' p = some (.lst xs) ∧ H p = none
theorem NewL.of {H H1 : Hp} {p : Addr} {xs : List V} (s : Same H H1) (hp : H1 p = none) : NewL H xs (upd H1 p (.lst xs)) p := ⟨s.trans (Same.laid hp), upd_same, s.free hp⟩
theorem Same.laid2 {H : Hp} {a : Addr} {o u : HO} (h : H a = none) : Same H (upd (upd H a o) a u) := by rw [upd_upd]; exact Same.laid h
theorem len1 {a : V} : [a].length ≤ sizeLine := by show 1 ≤ sizeLine; decide
theorem len2 {a b : V} : [a, b].length ≤ sizeLine := by show 2 ≤ sizeLine; decide
def spSides : Sp := fun vs H Q _ => ∃ x N : Int, vs = [.int x, .int N] ∧ 0 ≤ x ∧ x ≤ N ∧ 0 < N ∧ N ≤ 2 ^ 110 ∧ ∀ H' p, NewL H ((sides x N).map V.int) H' p → Q (.ref p) H'
theorem two_sorted {ns : List Int} {a b : Int} (hp : ns.Pairwise (· < ·)) (hm : ∀ k, k ∈ ns ↔ k = a ∨ k = b) (hl : ns.length = 2) (hab : a < b) : ns = [a, b] := by
  match ns, hl with
  | [c, d], _ =>
    have h1 : c < d := by
      have := List.rel_of_pairwise_cons hp (List.mem_singleton.mpr (rfl : d = d))
      exact this
    have ha := (hm c).mp (by simp)
    have hb := (hm d).mp (by simp)
    have : c = a ∧ d = b := by omega
    rw [this.1, this.2]
theorem one_sorted {ns : List Int} {a b : Int} (hm : ∀ k, k ∈ ns ↔ k = a ∨ k = b) (hl : ns.length = 1) (hab : a = b) : ns = [a] := by
  match ns, hl with
  | [c], _ =>
    have ha := (hm c).mp (by simp)
    have : c = a := by omega
    rw [this]
theorem sides_neg {x N : Int} (h0 : 0 ≤ x) (h1 : x ≤ N) (hN : 0 < N) : (0 < x ∧ x < N → -x % (2 * N) = 2 * N - x) ∧ (¬ (0 < x ∧ x < N) → -x % (2 * N) = x) := by
  constructor
  · intro h
    rw [show -x = 2 * N - x + 2 * N * (-1) by omega, Int.add_mul_emod_self_left]
    exact Int.emod_eq_of_lt (by omega) (by omega)
  · intro h
    by_cases c : x = 0
    · subst c; simp
    · have e : x = N := by omega
      subst e
      rw [show -x = x + 2 * x * (-1) by omega, Int.add_mul_emod_self_left]
      exact Int.emod_eq_of_lt (by omega) (by omega)
section
variable {P : Program} {w : World} {K : PySem.W.Frag} {mg : Str → Option Value} {base : Heap}
theorem c_sides (T : Txt K mg) : Cal P w K mg base 1 "sides" ["place", "size"] spSides := by
  obtain ⟨fd, F⟩ := T.d_sides
  have nd := sc_sides.nd
  refine ⟨_, fd, T.g_sides, okC F sc_sides (fun vs H Q E h => ?_) (fun cdv A outer s H vs Q E hcd hr h => ⟨_, PSs.nox (pss_one (ps_ret (pe_callB (cr_sortedSet rfl) rfl T.b_sorted (by decide +kernel) (pa_cons (pe_set2 (pv 0) (pe_op op_mod (pe_un un_neg (pv 0)) (pe_op op_mulW pe_int (pv 1))) hcd rfl) pa_nil)))), ?_⟩), F.bindsN fun _ _ _ _ _ _ us hl => match us, hl with | [_, _], _ => rfl, F.kp⟩
  · obtain ⟨_, _, rfl, _⟩ := h
    rfl
  · obtain ⟨x, N, rfl, h0, h1, hN, hN2, q⟩ := h
    intro D hD
    refine ⟨_, rfl, _, rfl, _, rfl, _, rfl, _, _, rfl, rfl, wmul (by omega) (by omega) (by omega) (by omega), _, _, rfl, rfl, (by show 0 < 2 * N; omega), _, _, rfl, rfl, upd_same, ?_⟩
    refine ⟨_, _, _, rfl, upd_same, (by split <;> omega), fun ns p hpw hm hl hp => ?_⟩
    have e : ns = sides x N := by
      obtain ⟨n1, n2⟩ := sides_neg h0 h1 hN
      unfold sides
      simp only [Bool.or_eq_true, decide_eq_true_eq] at hm
      by_cases c : 0 < x ∧ x < N
      · rw [if_pos c]
        rw [n1 c] at hl hm
        rw [if_neg (by omega)] at hl
        rw [two_sorted hpw hm hl (by omega)]
      · rw [if_neg c]
        rw [n2 c] at hl hm
        rw [if_pos rfl] at hl
        rw [one_sorted hm hl rfl]
    rw [e]
    exact q _ p (NewL.of (Same.laid2 hD) hp)
theorem c_lPlaces (T : Txt K mg) : Cal P w K mg base 1 "_law_places" ["_law_part", "_law_size"] spSides := by
  obtain ⟨fd, F⟩ := T.d_lPlaces
  have nd := sc_lPlaces.nd
  refine ⟨_, fd, T.g_law_places, F.ok sc_lPlaces (fun vs H Q E h => ?_) (fun cdv A outer s H vs Q E hr h => ⟨_, PSs.nox (pss_one (ps_ret (pe_callB cr_sortedI rfl T.b_sorted (by decide +kernel) (pa_cons (pe_op op_cat (pe_lst (pa_cons (pv 0) pa_nil)) (pe_op op_rep (pe_lst (pa_cons (pe_op op_sub (pe_op op_mulW pe_int (pv 1)) (pv 0)) pa_nil)) (pe_callTy call_int1 rfl T.b_int PyProof.Rows.boot_int (pa_cons (pe_chain op_lt op_lt pe_int (pv 0) (pv 1)) pa_nil)))) pa_nil)))), ?_⟩), F.bindsN fun _ _ _ _ _ _ us hl => match us, hl with | [_, _], _ => rfl, F.kp⟩
  · obtain ⟨_, _, rfl, _⟩ := h
    rfl
  · obtain ⟨x, N, rfl, h0, h1, hN, hN2, q⟩ := h
    refine ⟨_, rfl, len1, fun p1 hp1 => ?_⟩
    refine ⟨_, rfl, _, _, rfl, rfl, wmul (by omega) (by omega) (by omega) (by omega), _, rfl, _, _, rfl, rfl, len1, fun p2 hp2 => ?_⟩
    have n21 : p1 ≠ p2 := ne_of_none upd_same hp2
    have fin : ∀ (xs : List Int) (H1 : Hp) (p3 : Addr), Same H H1 → H1 p3 = none → xs.Perm (sides x N) → (upd H1 p3 (.lst (xs.map V.int))) p3 = some (.lst (xs.map V.int)) → ∀ (ns' : List Int) (p : Addr), ns'.Perm xs → ns'.Pairwise (· ≤ ·) → (upd H1 p3 (.lst (xs.map V.int))) p = none → Q (.ref p) (upd (upd H1 p3 (.lst (xs.map V.int))) p (.lst (ns'.map V.int))) := fun xs H1 p3 s1 n3 pm _ ns' p pm2 pw np => by
      have e : ns' = sides x N := by
        have h2 := pm2.trans pm
        unfold sides at h2 ⊢
        by_cases c : 0 < x ∧ x < N
        · rw [if_pos c] at h2 ⊢
          refine h2.eq_of_pairwise (le := (· ≤ ·)) (fun a b _ _ z z' => by omega) pw ?_
          exact List.pairwise_cons.mpr ⟨fun y hy => by rw [List.mem_singleton] at hy; omega, List.pairwise_singleton ..⟩
        · rw [if_neg c] at h2 ⊢
          exact List.perm_singleton.mp h2
      rw [e]
      exact q _ p (NewL.of (s1.trans (Same.laid n3)) np)
    have s2 : Same H (upd (upd H p1 (.lst [.int x])) p2 (.lst [.int (2 * N - x)])) := (Same.laid hp1).trans (Same.laid hp2)
    have g1 : (upd (upd H p1 (.lst [.int x])) p2 (.lst [.int (2 * N - x)])) p1 = some (.lst [.int x]) := by rw [upd_ne n21, upd_same]
    refine ⟨_, rfl, _, _, rfl, rfl, _, rfl, ?_⟩
    have tail : ∀ (z : Int) (b : Bool), (decide (0 < x) && decide (x < N)) = b → (z = if b = true then 1 else 0) → tOp rRep (fun _ H1 Q => Q (.ref p2) H1) (tC (.int z)) [] (upd (upd H p1 (.lst [.int x])) p2 (.lst [.int (2 * N - x)])) (fun y H2 => rCat (.ref p1) y H2 (fun v H3 => rSortedI K [v] H3 Q)) := fun z b hb hz => by
      refine ⟨_, _, _, rfl, rfl, upd_same, by subst hz; split <;> omega, by subst hz; split <;> omega, ?_, fun p3 np3 => ?_⟩
      · subst hz
        cases b
        · show 1 * 0 ≤ sizeLine
          decide
        · show 1 * 1 ≤ sizeLine
          decide
      have n31 : p1 ≠ p3 := ne_of_none g1 np3
      refine ⟨_, _, _, _, rfl, rfl, by rw [upd_ne n31]; exact g1, upd_same, ?_, fun p4 np4 => ?_⟩
      · subst hz
        cases b
        · show 1 ≤ sizeLine
          decide
        · show 2 ≤ sizeLine
          decide
      · have e4 : [V.int x] ++ (List.replicate z.toNat [(fun i j => V.int (i - j)) (2 * N) x]).flatten = (sides x N).map V.int := by
          subst hz
          unfold sides
          cases b
          · rw [if_neg (show ¬ (0 < x ∧ x < N) by simp only [Bool.and_eq_false_iff, decide_eq_false_iff_not] at hb; omega)]
            rfl
          · rw [if_pos (show 0 < x ∧ x < N by simp only [Bool.and_eq_true, decide_eq_true_eq] at hb; omega)]
            rfl
        rw [e4]
        exact ⟨_, _, rfl, SqL.of upd_same, fin _ _ p4 (s2.trans (Same.laid np3)) np4 (List.Perm.refl _) upd_same⟩
    by_cases c0 : 0 < x
    · rw [decide_eq_true c0]
      refine iteT ⟨_, rfl, _, _, rfl, rfl, .inr ⟨_, rfl, ?_⟩⟩
      exact tail _ (decide (x < N)) (by rw [decide_eq_true c0]; rfl) rfl
    · rw [decide_eq_false c0]
      refine iteF (.inr ⟨_, rfl, ?_⟩)
      exact tail _ false (by rw [decide_eq_false c0]; rfl) rfl
set_option exponentiation.threshold 1000 in
theorem c_lInverse (T : Txt K mg) : Cal P w K mg base 1 "_law_inverse" ["_law_value", "_law_modulus"] spInv := by
  obtain ⟨fd, F⟩ := T.d_lInverse
  have nd := sc_lInverse.nd
  refine ⟨_, fd, T.g_law_inverse, F.ok sc_lInverse (fun vs H Q E h => ?_) (fun cdv A outer s H vs Q E hr h => ⟨_, PSs.nox (pss_cons (ps_par (i := 2) (j := 3) rfl nd rfl rfl (by decide) rfl rfl (pa_cons (pv 0) (pa_cons (pv 1) pa_nil)) rfl) (pss_cons (ps_asg (pe_tup (pa_cons pe_int (pa_cons pe_int pa_nil))) (pg_tup rfl (pgs_cons (pg_name (i := 4) nd rfl (Or.inl rfl)) (pgs_cons (pg_name (i := 5) nd rfl (Or.inl rfl)) pgs_nil)))) (pss_cons (ps_for PassesOwn.never rfl (pi_range1 rfl T.b_range (pa_cons pe_int pa_nil)) (pg_name (i := 6) nd rfl (Or.inl rfl)) (pss_one (ps_if (pt_cmpR op_gt (pv 3) pe_int (nomark _)) (pss_cons (ps_set (i := 7) nd rfl (Or.inl rfl) (pe_op op_fdivW (pv 2) (pv 3))) (pss_cons (ps_par (i := 2) (j := 3) rfl nd rfl rfl (by decide) rfl rfl (pa_cons (pv 3) (pa_cons (pe_op op_sub (pv 2) (pe_op op_mulW (pv 7) (pv 3))) pa_nil)) rfl) (pss_one (ps_par (i := 4) (j := 5) rfl nd rfl rfl (by decide) rfl rfl (pa_cons (pv 5) (pa_cons (pe_op op_sub (pv 4) (pe_op op_mulW (pv 7) (pv 5))) pa_nil)) rfl)))) pss_nil))) (pss_one (ps_ret (pe_op op_mod (pe_callTy call_int1 rfl T.b_int PyProof.Rows.boot_int (pa_cons (pv 4) pa_nil)) (pv 1))))))), ?_⟩), F.bindsN fun _ _ _ _ _ _ us hl => match us, hl with | [_, _], _ => rfl, F.kp⟩
  · obtain ⟨_, _, rfl, _⟩ := h
    rfl
  · obtain ⟨n, m, rfl, h0, h1, h2, h3, hg, hQ⟩ := h
    refine ⟨_, rfl, _, rfl, _, _, rfl, ?_⟩
    refine ⟨by decide, fun a0 ha0 => ⟨_, _, rfl, SqT.of upd_same, rfl, _, _, rfl, _, _, rfl, rfl, ?_⟩⟩
    refine ⟨400, rfl, by decide, by decide, ?_⟩
    refine for_range (n := 400) (fun i σ H' => H' = upd H a0 (.tup [.int 1, .int 0]) ∧ ∃ (l r f s : Int) (t q : Option V), σ = [some (.int n), some (.int m), some (.int l), some (.int r), some (.int f), some (.int s), t, q] ∧ VI n m (2 ^ 110) l r f s ∧ GI (gc n m) (2 ^ 110) i l r)
      ⟨rfl, n, m, 1, 0, none, none, rfl, .start h0 h1 hg h2 h3, .start h0 (by omega) h3⟩ ?_ ?_
    · rintro i σ H' hi ⟨rfl, l, r, f, s, t, q, rfl, v, g⟩
      refine ⟨_, rfl, _, _, rfl, rfl, _, rfl, ?_⟩
      by_cases hr0 : 0 < r
      · rw [decide_eq_true hr0]
        refine iteT ?_
        have l0 := v.l0; have lB := v.lB; have rB := v.rB
        obtain ⟨s1, s2, s3⟩ := v.small
        have q0 := le_div (Int.le_of_lt l0) hr0
        refine ⟨_, rfl, _, rfl, _, _, rfl, rfl, wdiv hr0 (by omega), ?_⟩
        refine ⟨_, rfl, _, rfl, _, rfl, _, rfl, _, _, rfl, rfl, wmul (by omega) (by omega) (by omega) (by omega), _, _, rfl, rfl, _, _, rfl, ?_⟩
        refine ⟨_, rfl, _, rfl, _, rfl, _, rfl, _, _, rfl, rfl, wmul (by omega) (by omega) (by omega) (by omega), _, _, rfl, rfl, _, _, rfl, ?_⟩
        refine ⟨rfl, r, l % r, s, f - l / r * s, some (.int ((0 : Int) + (i : Nat))), some (.int (l / r)), ?_, v.step hr0, g.step hr0⟩
        rw [← div_mod (a := l)]
        rfl
      · rw [decide_eq_false hr0]
        exact iteF ⟨rfl, l, r, f, s, some (.int ((0 : Int) + (i : Nat))), q, rfl, v, g.stay hr0⟩
    · rintro σ H' ⟨rfl, l, r, f, s, t, q, rfl, v, g⟩
      have e := g.pot.done (by decide)
      subst e
      exact ⟨_, rfl, .inl ⟨_, rfl, _, rfl, _, _, rfl, rfl, h1, hQ _ _ (v.inv h1) (Same.laid ha0)⟩⟩
/-! _law_meet -/
def spMeet : Sp := fun vs H Q _ => ∃ (a m b n : Int), vs = [.int a, .int m, .int b, .int n] ∧ (0 < m ∧ m ≤ 2 ^ 110) ∧ (0 < n ∧ n ≤ 2 ^ 110) ∧
  (0 ≤ a ∧ a < m) ∧ (-(2 ^ 110) ≤ b ∧ b ≤ 2 ^ 110) ∧
  ((b - a) % gc m n ≠ 0 → ∀ H', Same H H' → Q .non H') ∧ ((b - a) % gc m n = 0 → ∀ H', Same H H' → Q (.int (crt a m b n)) H')
theorem c_lMeet (T : Txt K mg) : Cal P w K mg base 2 "_law_meet" ["_law_first", "_law_modulus", "_law_second", "_law_other"] spMeet := by
  obtain ⟨fd, F⟩ := T.d_lMeet
  have nd := sc_lMeet.nd
  have c_lGcd := c_lGcd (P := P) (w := w) (base := base) T
  have c_lInverse := c_lInverse (P := P) (w := w) (base := base) T
  refine ⟨_, fd, T.g_law_meet, F.ok sc_lMeet (fun vs H Q E h => ?_) (fun cdv A outer s H vs Q E hr h => ⟨_, PSs.nox (pss_cons (ps_set (i := 4) nd rfl (Or.inl rfl) (pe_fn c_lGcd (hr.mono (by decide)) rfl (pa_cons (pv 1) (pa_cons (pv 3) pa_nil)))) (pss_cons (ps_if (pt_cmpR op_gt (pe_op op_mod (pe_callTy call_int1 rfl T.b_int PyProof.Rows.boot_int (pa_cons (pe_op op_sub (pv 2) (pv 0)) pa_nil)) (pv 4)) pe_int (nomark _)) (pss_one (ps_ret pe_non)) pss_nil) (pss_cons (ps_set (i := 5) nd rfl (Or.inl rfl) (pe_op op_fdivW (pv 3) (pv 4))) (pss_one (ps_ret (pe_op op_add (pv 0) (pe_op op_mulW (pv 1) (pe_op op_mod (pe_callTy call_int1 rfl T.b_int PyProof.Rows.boot_int (pa_cons (pe_op op_mulW (pe_op op_fdivW (pe_op op_sub (pv 2) (pv 0)) (pv 4)) (pe_fn c_lInverse (hr.mono (by decide)) rfl (pa_cons (pe_op op_fdivW (pv 1) (pv 4)) (pa_cons (pv 5) pa_nil)))) pa_nil)) (pv 5))))))))), ?_⟩), F.bindsN fun _ _ _ _ _ _ us hl => match us, hl with | [_, _, _, _], _ => rfl, F.kp⟩
  · obtain ⟨_, _, _, _, rfl, _⟩ := h
    rfl
  · obtain ⟨a, m, b, n, rfl, ⟨m0, m1⟩, ⟨n0, n1⟩, ⟨a0, a1⟩, ⟨b0, b1⟩, qN, qY⟩ := h
    refine ⟨_, rfl, _, rfl, m, n, rfl, m0, by omega, by omega, ?_⟩
    have g0 := gc_pos (n := n) m0
    obtain ⟨m', n', e1, e2, p1, p2, d1, d2⟩ := gc_parts m0 n0
    have gm : gc m n ≤ m := by
      have := Int.mul_le_mul_of_nonneg_left (show 1 ≤ m' by omega) (Int.le_of_lt g0)
      omega
    refine ⟨_, rfl, _, rfl, _, _, rfl, rfl, .inl ⟨_, rfl, _, rfl, _, _, rfl, rfl, g0, _, _, rfl, rfl, _, rfl, ?_⟩⟩
    have r0 := Int.emod_nonneg (b - a) (show gc m n ≠ 0 by omega)
    by_cases hd : (b - a) % gc m n = 0
    · rw [decide_eq_false (show ¬ 0 < (b - a) % gc m n by omega)]
      refine iteF ?_
      have hmd := le_div (Int.le_of_lt m0) g0
      have hnd := le_div (Int.le_of_lt n0) g0
      refine ⟨_, rfl, _, rfl, _, _, rfl, rfl, wdiv g0 (by omega), ?_⟩
      refine ⟨_, rfl, _, rfl, _, rfl, _, rfl, _, _, rfl, rfl, _, rfl, _, _, rfl, rfl, wdiv g0 (by omega), ?_⟩
      refine ⟨_, rfl, _, rfl, _, _, rfl, rfl, wdiv g0 (by omega), _, rfl, ?_⟩
      refine ⟨_, _, rfl, by rw [d1]; omega, by rw [d2]; omega, by omega, by omega, gc_coprime m0 n0, fun i H1 hi s1 => ?_⟩
      have i0 := hi.1
      have i1 := hi.2.1
      have hq : -(2 ^ 112) ≤ (b - a) / gc m n ∧ (b - a) / gc m n ≤ 2 ^ 112 := by
        have e : gc m n * ((b - a) / gc m n) = b - a := by have := Int.mul_ediv_add_emod (b - a) (gc m n); omega
        constructor
        · refine Int.not_lt.mp fun z => ?_
          have := Int.mul_le_mul_of_nonneg_left (show (b - a) / gc m n + 1 ≤ -(2 ^ 112) by omega) (Int.le_of_lt g0)
          have := Int.mul_le_mul_of_nonneg_right (show 1 ≤ gc m n by omega) (show (0 : Int) ≤ 2 ^ 112 by omega)
          rw [Int.mul_add, Int.mul_one] at *
          omega
        · refine Int.not_lt.mp fun z => ?_
          have := Int.mul_le_mul_of_nonneg_left (show 2 ^ 112 + 1 ≤ (b - a) / gc m n by omega) (Int.le_of_lt g0)
          have := Int.mul_le_mul_of_nonneg_right (show 1 ≤ gc m n by omega) (show (0 : Int) ≤ 2 ^ 112 + 1 by omega)
          omega
      have t0 := Int.emod_nonneg ((b - a) / gc m n * i) (show n / gc m n ≠ 0 by rw [d2]; omega)
      have t1 := Int.emod_lt_of_pos ((b - a) / gc m n * i) (show 0 < n / gc m n by rw [d2]; exact p2)
      refine ⟨_, _, rfl, rfl, wmul (by omega) (by omega) (by omega) (by omega), .inl ⟨_, rfl, _, rfl, _, _, rfl, rfl, (by show 0 < n / gc m n; rw [d2]; exact p2), _, _, rfl, rfl, wmul (by omega) (by omega) (by omega) (by omega), _, _, rfl, rfl, ?_⟩⟩
      have := qY hd H1 s1
      rw [← meet_val m0 n0 a0 a1 hd hi] at this
      exact this
    · rw [decide_eq_true (show 0 < (b - a) % gc m n by omega)]
      exact iteT (qN hd _ (Same.refl _))
end
end Cu
/-! W9 -/
set_option Elab.async false
set_option linter.all false
set_option maxRecDepth 100000
set_option maxHeartbeats 0
namespace Cu
open PySem PySem.Spec PyProof.Rows L2
/-! pairs of ints -/
def Pairs (H : Hp) : List V → List (Int × Int) → Prop := Paired fun x p => ∃ t, x = V.ref t ∧ H t = some (.tup [.int p.1, .int p.2])
theorem Pairs.same {H H' : Hp} {xs : List V} {es : List (Int × Int)} (p : Pairs H xs es) (s : Same H H') : Pairs H' xs es := Paired.mono (fun _ _ ⟨t, e, h⟩ => ⟨t, e, s _ _ h⟩) p
theorem Pairs.get {H : Hp} : ∀ {xs : List V} {es : List (Int × Int)} {i : Nat} {x : V}, Pairs H xs es → xs[i]? = some x → ∃ t p, x = .ref t ∧ H t = some (.tup [.int p.1, .int p.2]) ∧ es[i]? = some p
  | _, _, i, _, .nil, e => by simp at e
  | _, _, 0, x, .cons (b := p) ⟨t, e1, h⟩ _, e => by
    have e2 : _ = x := Option.some.inj (by simpa using e)
    exact ⟨t, p, e2.symm.trans e1, h, rfl⟩
  | _, _, i + 1, x, .cons _ r, e => Pairs.get (i := i) r (by simpa using e)
theorem Pairs.at {H : Hp} : ∀ {xs : List V} {es : List (Int × Int)} {i : Nat} {p : Int × Int}, Pairs H xs es → es[i]? = some p → ∃ t, xs[i]? = some (.ref t) ∧ H t = some (.tup [.int p.1, .int p.2])
  | _, _, i, _, .nil, e => by simp at e
  | _, _, 0, p, .cons (b := q) ⟨t, e1, h⟩ _, e => by
    have e2 : q = p := Option.some.inj (by simpa using e)
    subst e2
    exact ⟨t, by rw [e1]; rfl, h⟩
  | _, _, i + 1, x, .cons _ r, e => by
    obtain ⟨t, h1, h2⟩ := Pairs.at (i := i) r (by simpa using e)
    exact ⟨t, by simpa using h1, h2⟩
theorem take_snoc {α : Type} {l : List α} {i : Nat} {x : α} (h : l[i]? = some x) : l.take (i + 1) = l.take i ++ [x] := by
  rw [List.take_succ, h]; rfl
theorem Same.off {H H' : Hp} {D : Addr} {o : HO} (s : Same H H') (n : H D = none) : Same H (upd H' D o) := fun b u e => by rw [upd_ne (ne_of_none e n)]; exact s b u e
/-- a list of ints, in the making at D -/
def Ints (H : Hp) (D : Addr) (ns : List Int) (i : Nat) (H' : Hp) : Prop := Same H H' ∧ H' D = some (.lst ((ns.take i).map V.int))
theorem Ints.zero {H : Hp} {D : Addr} {ns : List Int} (n : H D = none) : Ints H D ns 0 (upd H D (.lst [])) := ⟨Same.laid n, by rw [upd_same]; rfl⟩
theorem Ints.more {H H' : Hp} {D : Addr} {ns : List Int} {i : Nat} {z : Int} (h : Ints H D ns i H') (n : H D = none) (e : ns[i]? = some z) : Ints H D ns (i + 1) (upd H' D (.lst ((ns.take i).map V.int ++ [.int z]))) :=
  ⟨Same.off h.1 n, by rw [upd_same, take_snoc e, List.map_append]; rfl⟩
theorem Ints.done {H H' : Hp} {D : Addr} {ns : List Int} (h : Ints H D ns ns.length H') : H' D = some (.lst (ns.map V.int)) := by
  have := h.2
  rwa [List.take_length] at this
theorem small_len {n : Nat} (h : n ≤ 60) : n < sizeLine := small1000 (by omega)
/-- the edges of a round -/
def EdgeOk (es : List (Int × Int)) : Prop := (∃ e, es = [e] ∧ Cl e ∧ e.2 ≤ 2 ^ 110) ∨ ∃ e f, es = [e, f] ∧ (Cl e ∧ e.2 ≤ 2 ^ 110) ∧ (Cl f ∧ f.2 ≤ 2 ^ 110)
theorem EdgeOk.all {es : List (Int × Int)} (h : EdgeOk es) : es.length ≤ 2 ∧ ∀ p ∈ es, 0 < p.2 ∧ p.2 ≤ 2 ^ 110 := by
  rcases h with ⟨e, rfl, c, z⟩ | ⟨e, f, rfl, ⟨c, z⟩, c2, z2⟩
  · refine ⟨by simp, fun p hp => ?_⟩
    rw [List.mem_singleton] at hp
    subst hp
    have := c.1; have := c.2
    exact ⟨by omega, z⟩
  · refine ⟨by simp, fun p hp => ?_⟩
    have c1 := c.1; have c2' := c.2; have c3 := c2.1; have c4 := c2.2
    rcases List.mem_cons.mp hp with e | hp
    · subst e; exact ⟨by omega, z⟩
    · rw [List.mem_singleton] at hp
      subst hp; exact ⟨by omega, z2⟩
/-! weight_to -/
def spWt (C : Addr) : Sp := fun vs H Q _ => ∃ (a dx e : Addr) (fs : List (Str × V)) (xs : List V) (es : List (Int × Int)) (l : Int), vs = [.ref a, .int l] ∧ H a = some (.ins C dx fs) ∧ fs.lookup ("edges" : Str) = some (V.ref e) ∧ H e = some (.lst xs) ∧ Pairs H xs es ∧
  EdgeOk es ∧ -1 ≤ l ∧ ∀ H', Same H H' → Q (.int (upTo (wE es) l)) H'
section
variable {P : Program} {w : World} {K : PySem.W.Frag} {mg : Str → Option Value} {base : Heap}
theorem c_weight_to (T : Txt K mg) : CalM P w K mg base 3 (He.ga K "Round") "weight_to" ["self", "last"] (spWt (He.ga K "Round")) := by
  obtain ⟨fd, F⟩ := T.d_weightTo
  have nd := sc_weightTo.nd
  have c_numberTo := c_numberTo (P := P) (w := w) (base := base) T
  have c_chinese := c_chinese (P := P) (w := w) (base := base) T
  refine ⟨_, fd, T.cl_Round, T.mt_weight_to, F.ok sc_weightTo (fun vs H Q E h => ?_) (fun cdv A outer s H vs Q E hr h => ⟨_, PSs.nox (pss_cons (ps_set (i := 2) nd rfl (Or.inl rfl) (pe_op op_add (pe_op op_add (pv 1) pe_int) (pe_callB (cr_sum rfl) rfl T.b_sum (by decide +kernel) (pa_cons (pe_lc (own := [("remainder", 4), ("modulus", 5)]) (g := gTup K 2 (gCons (gName 4) (gCons (gName 5) gNil))) rfl nd (pi_list (pe_fld (pv 0) rfl)) (blkOk_by (N := ["self", "last", "total", "corner", "remainder", "modulus"]) (sc := defScope s_weightTo) (own := [("remainder", 4), ("modulus", 5)]) (by decide +kernel)) (fun _ _ _ _ _ => (pg_tup rfl (pgs_cons (pg_name (i := 4) nd rfl (Or.inl rfl)) (pgs_cons (pg_name (i := 5) nd rfl (Or.inl rfl)) pgs_nil)))) (fun _ _ _ _ _ => pts_nil) (fun _ _ _ _ _ => (pe_fn c_numberTo (hr.mono (by decide)) rfl (pa_cons (pv 1) (pa_cons (pv 4) (pa_cons (pv 5) pa_nil)))))) pa_nil)))) (pss_cons (ps_if (pt_cmpR op_eq (pe_callB call_len_seq rfl T.b_len PySem.boot_len (pa_cons (pe_fld (pv 0) rfl) pa_nil)) pe_int (nomark _)) (pss_cons (ps_set (i := 3) nd rfl (Or.inl rfl) (pe_fn c_chinese (hr.mono (by decide)) rfl (pa_cons (pe_ix ix_list (pe_fld (pv 0) rfl) pe_int (fun _ _ => rfl)) (pa_cons (pe_ix ix_list (pe_fld (pv 0) rfl) pe_int (fun _ _ => rfl)) pa_nil)))) (pss_one (ps_if (pt_cmpR op_notN (pv 3) pe_non (nomark _)) (pss_one (ps_aug (i := 2) nd rfl (Or.inl rfl) (pe_fn c_numberTo (hr.mono (by decide)) rfl (pa_cons (pv 1) (pa_cons (pe_ix ix_tup (pv 3) pe_int (fun _ _ => rfl)) (pa_cons (pe_ix ix_tup (pv 3) pe_int (fun _ _ => rfl)) pa_nil)))) ip_add)) pss_nil))) pss_nil) (pss_one (ps_ret (pv 2))))), ?_⟩), F.bindsN fun _ _ _ _ _ _ us hl => match us, hl with | [_, _], _ => rfl⟩
  · obtain ⟨_, _, _, _, _, _, _, rfl, _⟩ := h
    rfl
  · obtain ⟨a, dx, e, fs, xs, es, l, rfl, ha, hf, he, hp, ok, l0, q⟩ := h
    obtain ⟨ok1, ok2⟩ := ok.all
    refine ⟨_, rfl, _, _, rfl, rfl, _, rfl, _, _, _, _, _, rfl, ha, T.cl_Round, T.na_edges, hf, _, rfl, ⟨xs, SqL.of he⟩, fun D hD => ?_⟩
    refine lc_list (xs := xs) (Ints H D (es.map fun p => numTo l p.1 p.2)) (Ints.zero hD) (fun i H1 _ h1 => SqL.of (h1.1 _ _ he)) ?_ ?_
    · rintro i x H1 hx h1
      obtain ⟨t, p, rfl, ht, ep⟩ := hp.get hx
      have hm := ok2 p (List.mem_of_getElem? ep)
      have hlen : i < 2 := by have := (List.getElem?_eq_some_iff.mp ep).1; omega
      refine ⟨_, _, rfl, SqT.of (h1.1 _ _ ht), rfl, _, _, rfl, _, _, rfl, rfl, rfl, ?_⟩
      refine ⟨_, rfl, _, rfl, _, rfl, _, _, _, rfl, hm.1, by omega, _, h1.2, ?_, h1.more hD ?_⟩
      · rw [List.length_map, List.length_take]
        exact small_len (by omega)
      · rw [List.getElem?_map, ep]
        rfl
    · rintro H1 h1
      have hlen : xs.length = (es.map fun p => numTo l p.1 p.2).length := by rw [List.length_map]; exact Paired.length hp
      rw [hlen] at h1
      refine ⟨D, _, rfl, SqL.of h1.done, _, _, rfl, rfl, ?_⟩
      have s1 := h1.1
      refine ⟨_, rfl, _, _, _, _, _, rfl, s1 _ _ ha, T.cl_Round, T.na_edges, hf, _, _, rfl, .inl (SqL.of (s1 _ _ he)), rfl, _, rfl, ?_⟩
      have hxl : xs.length = es.length := Paired.length hp
      rcases ok with ⟨e1, rfl, ce, ze⟩ | ⟨e1, f1, rfl, ⟨ce, ze⟩, cf, zf⟩
      · rw [show decide (V.int ((xs.length : Nat) : Int) = V.int 2) = false by rw [hxl]; rfl]
        refine iteF ⟨_, rfl, ?_⟩
        have := q H1 s1
        rw [← weight_one ce l0] at this
        simpa using this
      · rw [show decide (V.int ((xs.length : Nat) : Int) = V.int 2) = true by rw [hxl]; rfl]
        refine iteT ?_
        obtain ⟨t0, g0, k0⟩ := hp.at (i := 0) rfl
        obtain ⟨t1, g1, k1⟩ := hp.at (i := 1) rfl
        have c1 := ce.1; have c2 := ce.2; have c3 := cf.1; have c4 := cf.2
        refine ⟨_, rfl, _, _, _, _, _, rfl, s1 _ _ ha, T.cl_Round, T.na_edges, hf, _, _, _, _, rfl, rfl, SqL.of (s1 _ _ he), atI_nat (j := 0) g0, ?_⟩
        refine ⟨_, rfl, _, _, _, _, _, rfl, s1 _ _ ha, T.cl_Round, T.na_edges, hf, _, _, _, _, rfl, rfl, SqL.of (s1 _ _ he), atI_nat (j := 1) g1, ?_⟩
        have fin := weight_two ce cf l0
        unfold cornerTo at fin
        refine ⟨t0, t1, e1.1, e1.2, f1.1, f1.2, rfl, SqT.of (s1 _ _ k0), SqT.of (s1 _ _ k1), ⟨by omega, ze⟩, ⟨by omega, zf⟩, ⟨by omega, by omega⟩, ⟨by omega, by omega⟩, fun hd H2 s2 => ?_, fun hd H2 p2 s2 hp2 => ?_⟩
        · refine ⟨_, rfl, rfl, _, rfl, iteF ⟨_, rfl, ?_⟩⟩
          have := q H2 (s1.trans s2)
          rw [← fin, if_neg hd] at this
          simpa using this
        · refine ⟨_, rfl, rfl, _, rfl, iteT ?_⟩
          refine ⟨_, rfl, _, rfl, _, rfl, _, _, _, _, rfl, rfl, SqT.of hp2, atI_nat (j := 0) rfl, _, rfl, _, _, _, _, rfl, rfl, SqT.of hp2, atI_nat (j := 1) rfl, ?_⟩
          have lp := lc_pos (m := e1.2) (n := f1.2) (by omega) (by omega)
          refine ⟨_, _, _, rfl, lp, ?_, ?_⟩
          · have := lc_le (a := e1.2) (b := f1.2) (by omega) (by omega)
            have h2 := Int.mul_le_mul ze zf (by omega) (by omega)
            omega
          · refine ⟨_, _, rfl, rfl, _, rfl, ?_⟩
            have := q H2 (s1.trans s2)
            rw [← fin, if_pos hd] at this
            simpa using this
end
end Cu
/-! W10 -/
set_option Elab.async false
set_option linter.all false
set_option maxRecDepth 100000
set_option maxHeartbeats 0
namespace Cu
open PySem PySem.Spec PyProof.Rows L2
/-! _law_weight -/
def spLw : Sp := fun vs H Q _ => ∃ (e : Addr) (xs : List V) (es : List (Int × Int)) (l : Int), vs = [.ref e, .int l] ∧ H e = some (.lst xs) ∧ Pairs H xs es ∧
  EdgeOk es ∧ -1 ≤ l ∧ ∀ H', Same H H' → Q (.int (upTo (wE es) l)) H'
section
variable {P : Program} {w : World} {K : PySem.W.Frag} {mg : Str → Option Value} {base : Heap}
theorem c_lWeight (T : Txt K mg) : Cal P w K mg base 3 "_law_weight" ["_law_edges", "_law_last"] spLw := by
  obtain ⟨fd, F⟩ := T.d_lWeight
  have nd := sc_lWeight.nd
  have c_lMany := c_lMany (P := P) (w := w) (base := base) T
  have c_lMeet := c_lMeet (P := P) (w := w) (base := base) T
  have c_lGcd := c_lGcd (P := P) (w := w) (base := base) T
  refine ⟨_, fd, T.g_law_weight, F.ok sc_lWeight (fun vs H Q E h => ?_) (fun cdv A outer s H vs Q E hr h => ⟨_, PSs.nox (pss_cons (ps_set (i := 2) nd rfl (Or.inl rfl) (pe_op op_add (pe_op op_add (pv 1) pe_int) (pe_callB (cr_sum rfl) rfl T.b_sum (by decide +kernel) (pa_cons (pe_lc (own := [("_law_remainder", 5), ("_law_modulus", 6)]) (g := gTup K 2 (gCons (gName 5) (gCons (gName 6) gNil))) rfl nd (pi_list (pv 0)) (blkOk_by (N := ["_law_edges", "_law_last", "_law_total", "_law_corner", "_law_length", "_law_remainder", "_law_modulus"]) (sc := defScope s_lWeight) (own := [("_law_remainder", 5), ("_law_modulus", 6)]) (by decide +kernel)) (fun _ _ _ _ _ => (pg_tup rfl (pgs_cons (pg_name (i := 5) nd rfl (Or.inl rfl)) (pgs_cons (pg_name (i := 6) nd rfl (Or.inl rfl)) pgs_nil)))) (fun _ _ _ _ _ => pts_nil) (fun _ _ _ _ _ => (pe_fn c_lMany (hr.mono (by decide)) rfl (pa_cons (pv 1) (pa_cons (pv 5) (pa_cons (pv 6) pa_nil)))))) pa_nil)))) (pss_cons (ps_if (pt_cmpR op_eq (pe_callB call_len_seq rfl T.b_len PySem.boot_len (pa_cons (pv 0) pa_nil)) pe_int (nomark _)) (pss_cons (ps_set (i := 3) nd rfl (Or.inl rfl) (pe_fn c_lMeet (hr.mono (by decide)) rfl (pa_cons (pe_ix ix_tup (pe_ix ix_list (pv 0) pe_int (fun _ _ => rfl)) pe_int (fun _ _ => rfl)) (pa_cons (pe_ix ix_tup (pe_ix ix_list (pv 0) pe_int (fun _ _ => rfl)) pe_int (fun _ _ => rfl)) (pa_cons (pe_ix ix_tup (pe_ix ix_list (pv 0) pe_int (fun _ _ => rfl)) pe_int (fun _ _ => rfl)) (pa_cons (pe_ix ix_tup (pe_ix ix_list (pv 0) pe_int (fun _ _ => rfl)) pe_int (fun _ _ => rfl)) pa_nil)))))) (pss_one (ps_if (pt_cmpR op_notN (pv 3) pe_non (nomark _)) (pss_cons (ps_set (i := 4) nd rfl (Or.inl rfl) (pe_op op_mulW (pe_op op_fdivW (pe_ix ix_tup (pe_ix ix_list (pv 0) pe_int (fun _ _ => rfl)) pe_int (fun _ _ => rfl)) (pe_fn c_lGcd (hr.mono (by decide)) rfl (pa_cons (pe_ix ix_tup (pe_ix ix_list (pv 0) pe_int (fun _ _ => rfl)) pe_int (fun _ _ => rfl)) (pa_cons (pe_ix ix_tup (pe_ix ix_list (pv 0) pe_int (fun _ _ => rfl)) pe_int (fun _ _ => rfl)) pa_nil)))) (pe_ix ix_tup (pe_ix ix_list (pv 0) pe_int (fun _ _ => rfl)) pe_int (fun _ _ => rfl)))) (pss_one (ps_set (i := 2) nd rfl (Or.inl rfl) (pe_op op_add (pv 2) (pe_fn c_lMany (hr.mono (by decide)) rfl (pa_cons (pv 1) (pa_cons (pv 3) (pa_cons (pv 4) pa_nil)))))))) pss_nil))) pss_nil) (pss_one (ps_ret (pv 2))))), ?_⟩), F.bindsN fun _ _ _ _ _ _ us hl => match us, hl with | [_, _], _ => rfl, F.kp⟩
  · obtain ⟨_, _, _, _, rfl, _⟩ := h
    rfl
  · obtain ⟨e, xs, es, l, rfl, he, hp, ok, l0, q⟩ := h
    obtain ⟨ok1, ok2⟩ := ok.all
    refine ⟨_, rfl, _, _, rfl, rfl, _, rfl, _, rfl, ⟨xs, SqL.of he⟩, fun D hD => ?_⟩
    refine lc_list (xs := xs) (Ints H D (es.map fun p => numTo l p.1 p.2)) (Ints.zero hD) (fun i H1 _ h1 => SqL.of (h1.1 _ _ he)) ?_ ?_
    · rintro i x H1 hx h1
      obtain ⟨t, p, rfl, ht, ep⟩ := hp.get hx
      have hm := ok2 p (List.mem_of_getElem? ep)
      have hlen : i < 2 := by have := (List.getElem?_eq_some_iff.mp ep).1; omega
      refine ⟨_, _, rfl, SqT.of (h1.1 _ _ ht), rfl, _, _, rfl, _, _, rfl, rfl, rfl, ?_⟩
      refine ⟨_, rfl, _, rfl, _, rfl, _, _, _, rfl, hm.1, by omega, _, h1.2, ?_, h1.more hD ?_⟩
      · rw [List.length_map, List.length_take]
        exact small_len (by omega)
      · rw [List.getElem?_map, ep]
        rfl
    · rintro H1 h1
      have hlen : xs.length = (es.map fun p => numTo l p.1 p.2).length := by rw [List.length_map]; exact Paired.length hp
      rw [hlen] at h1
      refine ⟨D, _, rfl, SqL.of h1.done, _, _, rfl, rfl, ?_⟩
      have s1 := h1.1
      refine ⟨_, rfl, _, _, rfl, .inl (SqL.of (s1 _ _ he)), rfl, _, rfl, ?_⟩
      have hxl : xs.length = es.length := Paired.length hp
      rcases ok with ⟨e1, rfl, ce, ze⟩ | ⟨e1, f1, rfl, ⟨ce, ze⟩, cf, zf⟩
      · rw [show decide (V.int ((xs.length : Nat) : Int) = V.int 2) = false by rw [hxl]; rfl]
        refine iteF ⟨_, rfl, ?_⟩
        have := q H1 s1
        rw [← weight_one ce l0] at this
        simpa using this
      · rw [show decide (V.int ((xs.length : Nat) : Int) = V.int 2) = true by rw [hxl]; rfl]
        refine iteT ?_
        obtain ⟨t0, g0, k0⟩ := hp.at (i := 0) rfl
        obtain ⟨t1, g1, k1⟩ := hp.at (i := 1) rfl
        have c1 := ce.1; have c2 := ce.2; have c3 := cf.1; have c4 := cf.2
        have L0 : SqL K H1 e xs := SqL.of (s1 _ _ he)
        have T0 : SqT K H1 t0 _ := SqT.of (s1 _ _ k0)
        have T1 : SqT K H1 t1 _ := SqT.of (s1 _ _ k1)
        refine ⟨_, rfl, _, _, _, _, rfl, rfl, L0, atI_nat (j := 0) g0, _, _, _, _, rfl, rfl, T0, atI_nat (j := 0) rfl, ?_⟩
        refine ⟨_, rfl, _, _, _, _, rfl, rfl, L0, atI_nat (j := 0) g0, _, _, _, _, rfl, rfl, T0, atI_nat (j := 1) rfl, ?_⟩
        refine ⟨_, rfl, _, _, _, _, rfl, rfl, L0, atI_nat (j := 1) g1, _, _, _, _, rfl, rfl, T1, atI_nat (j := 0) rfl, ?_⟩
        refine ⟨_, rfl, _, _, _, _, rfl, rfl, L0, atI_nat (j := 1) g1, _, _, _, _, rfl, rfl, T1, atI_nat (j := 1) rfl, ?_⟩
        have fin := weight_two ce cf l0
        unfold cornerTo at fin
        refine ⟨e1.1, e1.2, f1.1, f1.2, rfl, ⟨by omega, ze⟩, ⟨by omega, zf⟩, ⟨by omega, by omega⟩, ⟨by omega, by omega⟩, fun hd H2 s2 => ?_, fun hd H2 s2 => ?_⟩
        · refine ⟨_, rfl, rfl, _, rfl, iteF ⟨_, rfl, ?_⟩⟩
          have := q H2 (s1.trans s2)
          rw [← fin, if_neg hd] at this
          simpa using this
        · refine ⟨_, rfl, rfl, _, rfl, iteT ?_⟩
          have s3 := s1.trans s2
          have L0 : SqL K H2 e xs := SqL.of (s3 _ _ he)
          have T0 : SqT K H2 t0 _ := SqT.of (s3 _ _ k0)
          have T1 : SqT K H2 t1 _ := SqT.of (s3 _ _ k1)
          have m0 : 0 < e1.2 := by omega
          have g0' := gc_pos (n := f1.2) m0
          have gl : gc e1.2 f1.2 ≤ e1.2 := Int.le_of_dvd m0 (gc_l ..)
          have hmd := le_div (Int.le_of_lt m0) g0'
          refine ⟨_, rfl, _, _, _, _, rfl, rfl, L0, atI_nat (j := 0) g0, _, _, _, _, rfl, rfl, T0, atI_nat (j := 1) rfl, ?_⟩
          refine ⟨_, rfl, _, _, _, _, rfl, rfl, L0, atI_nat (j := 0) g0, _, _, _, _, rfl, rfl, T0, atI_nat (j := 1) rfl, ?_⟩
          refine ⟨_, rfl, _, _, _, _, rfl, rfl, L0, atI_nat (j := 1) g1, _, _, _, _, rfl, rfl, T1, atI_nat (j := 1) rfl, ?_⟩
          refine ⟨_, _, rfl, m0, by omega, by omega, _, _, rfl, rfl, wdiv g0' (by omega), ?_⟩
          refine ⟨_, rfl, _, _, _, _, rfl, rfl, L0, atI_nat (j := 1) g1, _, _, _, _, rfl, rfl, T1, atI_nat (j := 1) rfl, ?_⟩
          refine ⟨_, _, rfl, rfl, wmul (by omega) (by omega) (by omega) (by omega), ?_⟩
          refine ⟨_, rfl, _, rfl, _, rfl, _, rfl, ?_⟩
          have lp := lc_pos (m := e1.2) (n := f1.2) (by omega) (by omega)
          refine ⟨_, _, _, rfl, lp, ?_, ?_⟩
          · have := lc_le (a := e1.2) (b := f1.2) (by omega) (by omega)
            have h2 := Int.mul_le_mul ze zf (by omega) (by omega)
            show lc e1.2 f1.2 ≤ 2 ^ 240
            omega
          · refine ⟨_, _, rfl, rfl, _, rfl, ?_⟩
            have := q H2 s3
            rw [← fin, if_pos hd] at this
            simpa [lc] using this
end
end Cu
/-! W11 -/
set_option Elab.async false
set_option linter.all false
set_option maxRecDepth 100000
set_option maxHeartbeats 0
namespace Cu
open PySem PySem.Spec PyProof.Rows L2
/-! the numbers by pockets -/
def keyP (p : Int × Int) : List L2.Key := [.inl p.1, .inl p.2]
theorem keyP_inj {p q : Int × Int} (h : keyP p = keyP q) : p = q := by
  unfold keyP at h
  obtain ⟨h1, h2⟩ := List.cons.inj h
  obtain ⟨h3, _⟩ := List.cons.inj h2
  exact Prod.ext (Sum.inl.inj h1) (Sum.inl.inj h3)
def ents (ps : List (Int × Int)) (f : List Int) : List (List L2.Key × V) := List.zipWith (fun p n => (keyP p, V.int n)) ps f
theorem ents_val : ∀ {ps : List (Int × Int)} {f : List Int} {k : Nat} {p : Int × Int} {n : Int}, ps.Nodup → ps[k]? = some p → f[k]? = some n → valV (ents ps f) (keyP p) = some (.int n)
  | [], _, k, _, _, _, h, _ => by simp at h
  | _ :: _, [], k, _, _, _, _, h => by simp at h
  | q :: ps, m :: f, 0, p, n, _, h1, h2 => by
    have e1 : q = p := Option.some.inj (by simpa using h1)
    have e2 : m = n := Option.some.inj (by simpa using h2)
    subst e1 e2
    exact valV_pos rfl
  | q :: ps, m :: f, k + 1, p, n, nd, h1, h2 => by
    have h1' : ps[k]? = some p := by simpa using h1
    have h2' : f[k]? = some n := by simpa using h2
    obtain ⟨n1, n2⟩ := List.nodup_cons.mp nd
    show valV ((keyP q, V.int m) :: ents ps f) (keyP p) = _
    rw [valV_neg (show ¬ keyP q = keyP p from fun e => n1 (keyP_inj e ▸ List.mem_of_getElem? h1'))]
    exact ents_val n2 h1' h2'
theorem ents_mem : ∀ {ps : List (Int × Int)} {f : List Int} {kv : List L2.Key × V}, kv ∈ ents ps f → ∃ p ∈ ps, kv.1 = keyP p
  | [], _, _, h => by simp [ents] at h
  | _ :: _, [], _, h => by simp [ents] at h
  | q :: ps, m :: f, kv, h => by
    rcases List.mem_cons.mp (show kv ∈ (keyP q, V.int m) :: ents ps f from h) with e | h
    · exact ⟨q, List.mem_cons_self .., by rw [e]⟩
    · obtain ⟨p, h1, h2⟩ := ents_mem h
      exact ⟨p, List.mem_cons_of_mem _ h1, h2⟩
theorem ents_map : ∀ {ps : List (Int × Int)} {f : List Int} {k : Nat} {p : Int × Int} (v : Int), ps.Nodup → ps[k]? = some p → (ents ps f).map (fun kv => if kv.1 = keyP p then (kv.1, V.int v) else kv) = ents ps (f.set k v)
  | [], _, k, _, _, _, h => by simp at h
  | _ :: _, [], k, _, _, _, _ => by simp [ents]
  | q :: ps, m :: f, 0, p, v, nd, h1 => by
    have e1 : q = p := Option.some.inj (by simpa using h1)
    subst e1
    obtain ⟨n1, n2⟩ := List.nodup_cons.mp nd
    show (if keyP q = keyP q then (keyP q, V.int v) else (keyP q, V.int m)) :: (ents ps f).map _ = (keyP q, V.int v) :: ents ps f
    rw [if_pos rfl]
    congr 1
    rw [List.map_congr_left (g := id) fun kv hkv => ?_, List.map_id]
    rw [if_neg ?_]
    · rfl
    · intro e
      obtain ⟨p', hp', e2⟩ := ents_mem hkv
      exact n1 (keyP_inj (e.symm.trans e2) ▸ hp')
  | q :: ps, m :: f, k + 1, p, v, nd, h1 => by
    have h1' : ps[k]? = some p := by simpa using h1
    obtain ⟨n1, n2⟩ := List.nodup_cons.mp nd
    show (if keyP q = keyP p then (keyP q, V.int v) else (keyP q, V.int m)) :: (ents ps f).map _ = (keyP q, V.int m) :: ents ps (f.set k v)
    rw [if_neg (show ¬ keyP q = keyP p from fun e => n1 (keyP_inj e ▸ List.mem_of_getElem? h1')), ents_map v n2 h1']
theorem ents_put {ps : List (Int × Int)} {f : List Int} {k : Nat} {p : Int × Int} {n : Int} (v : Int) (nd : ps.Nodup) (h1 : ps[k]? = some p) (h2 : f[k]? = some n) : putK (ents ps f) (keyP p) (.int v) = ents ps (f.set k v) := by
  unfold putK
  rw [valV_any, ents_val nd h1 h2]
  exact (if_pos rfl).trans (ents_map v nd h1)
theorem ents_len {ps : List (Int × Int)} {f : List Int} : (ents ps f).length ≤ ps.length := by
  unfold ents; rw [List.length_zipWith]; omega
theorem runS_snoc (Wt : Int → Int) (e : Int × Nat) : ∀ (l : List (Int × Nat)) (b : Int) (f : List Int), runS Wt b (l ++ [e]) f = (addAt (runS Wt b l f).1 e.2 (Wt e.1 - (runS Wt b l f).2), Wt e.1)
  | [], b, f => rfl
  | (m, k) :: l, b, f => by
    show runS Wt (Wt m) (l ++ [e]) (addAt f k (Wt m - b)) = _
    rw [runS_snoc Wt e l]
    rfl
theorem runS_len (Wt : Int → Int) : ∀ (l : List (Int × Nat)) (b : Int) (f : List Int), (runS Wt b l f).1.length = f.length
  | [], b, f => rfl
  | (m, k) :: l, b, f => by
    show (runS Wt (Wt m) l (addAt f k (Wt m - b))).1.length = _
    rw [runS_len Wt l]
    unfold addAt
    exact List.length_set ..
def SameBut (a : Addr) (H H' : Hp) : Prop := ∀ b o, b ≠ a → H b = some o → H' b = some o
theorem Same.but {a : Addr} {H H' : Hp} (s : Same H H') : SameBut a H H' := fun b o _ e => s b o e
theorem SameBut.trans {a : Addr} {H H1 H2 : Hp} (x : SameBut a H H1) (y : SameBut a H1 H2) : SameBut a H H2 := fun b o n e => y b o n (x b o n e)
theorem SameBut.upd {a : Addr} {H H1 : Hp} {o : HO} (x : SameBut a H H1) : SameBut a H (upd H1 a o) := fun b u n e => by rw [upd_ne n]; exact x b u n e
/-- stands: each a tuple of a minute and a pocket -/
def StAt (H : Hp) (q : Nat → V) (bs : List (Addr × (Int × Nat))) : Prop := ∀ b ∈ bs, H b.1 = some (.tup [.int b.2.1, q b.2.2])
def PkAt (H : Hp) (pk : Nat → Addr) (ps : List (Int × Int)) : Prop := ∀ k p, ps[k]? = some p → H (pk k) = some (.tup [.int p.1, .int p.2])
theorem Pairs.but {a : Addr} {H H' : Hp} {xs : List V} {es : List (Int × Int)} {u : HO} (p : Pairs H xs es) (s : SameBut a H H') (ha : H a = some u) (hu : ∀ l, u ≠ .tup l) : Pairs H' xs es :=
  Paired.mono (fun _ _ ⟨t, e, h⟩ => ⟨t, e, s _ _ (ne_of h ha (fun z => hu _ z.symm)) h⟩) p
/-! Round -/
abbrev rFs (L : Int) (e : Addr) : List (Str × V) := [("length", V.int L), ("edges", V.ref e)]
def spRound (C : Addr) : Sp := fun vs H Q _ => ∃ (a dx e : Addr) (L : Int), vs = [.ref a, .int L, .ref e] ∧ H a = some (.ins C dx []) ∧ Q .non (upd (upd H a (.ins C dx [("length", V.int L)])) a (.ins C dx (rFs L e)))
def spAdd (C : Addr) : Sp := fun vs H Q _ => ∃ (a dx e st nb : Addr) (L : Int) (xs : List V) (es ps : List (Int × Int)) (bs : List (Addr × (Int × Nat))) (pk : Nat → Addr) (f : List Int),
  vs = [.ref a, .ref st, .ref nb] ∧ H a = some (.ins C dx (rFs L e)) ∧ H e = some (.lst xs) ∧ Pairs H xs es ∧ EdgeOk es ∧ H st = some (.lst (bs.map fun b => V.ref b.1)) ∧
  StAt H (fun k => .ref (pk k)) bs ∧ PkAt H pk ps ∧ ps.Nodup ∧ (∀ b ∈ bs, 0 ≤ b.2.1 ∧ b.2.2 < ps.length) ∧ bs ≠ [] ∧ ps.length ≤ 60 ∧ 0 ≤ L ∧ f.length = ps.length ∧ H nb = some (.dT (ents ps f)) ∧
  ∀ st' H', st'.Perm (bs.map (·.2)) → (st'.Pairwise fun a b => a.1 ≤ b.1) → SameBut nb H H' → H' nb = some (.dT (ents ps (shared (upTo (wE es)) L st' f))) → Q .non H'
section
variable {P : Program} {w : World} {K : PySem.W.Frag} {mg : Str → Option Value} {base : Heap}
theorem c_Round (T : Txt K mg) : CalC P w K mg base 1 "Round" (He.ga K "Round") ["self", "length", "edges"] (spRound (He.ga K "Round")) := by
  obtain ⟨fd, F⟩ := T.d_rInit
  have nd := sc_rInit.nd
  refine ⟨_, fd, T.g_Round, T.mk_Round, F.ok sc_rInit (fun vs H Q E h => ?_) (fun cdv A outer s H vs Q E hr h => ⟨_, PSs.nox (pss_cons (ps_fld (pv 0) (pv 1) rfl) (pss_one (ps_fld (pv 0) (pv 2) rfl))), ?_⟩), F.bindsN fun _ _ _ _ _ _ us hl => match us, hl with | [_, _, _], _ => rfl⟩
  · obtain ⟨_, _, _, _, rfl, _⟩ := h
    rfl
  · obtain ⟨a, dx, e, L, rfl, ha, q⟩ := h
    exact ⟨_, rfl, _, rfl, _, _, _, _, rfl, ha, T.cl_Round, T.na_length, by decide, _, rfl, _, rfl, _, _, _, _, rfl, upd_same, T.cl_Round, T.na_edges, by show 1 < 1000; decide, q⟩
theorem c_add (T : Txt K mg) : CalM P w K mg base 4 (He.ga K "Round") "add" ["self", "stands", "numbers"] (spAdd (He.ga K "Round")) := by
  obtain ⟨fd, F⟩ := T.d_rAdd
  have nd := sc_rAdd.nd
  have c_weight_to := c_weight_to (P := P) (w := w) (base := base) T
  refine ⟨_, fd, T.cl_Round, T.mt_add, F.ok sc_rAdd (fun vs H Q E h => ?_) (fun cdv A outer s H vs Q E hr h => have hu := hu_of hr; ⟨_, PSs.nox (pss_cons (ps_set (i := 1) nd rfl (Or.inl rfl) (pe_callB (cr_sortedM hr.units) rfl T.b_sorted (by decide +kernel) (pa_cons (pv 1) pa_nil))) (pss_cons (ps_set (i := 3) nd rfl (Or.inl rfl) pe_int) (pss_cons (ps_for PassesOwn.never rfl (pi_list (pv 1)) (pg_tup rfl (pgs_cons (pg_name (i := 4) nd rfl (Or.inl rfl)) (pgs_cons (pg_name (i := 5) nd rfl (Or.inl rfl)) pgs_nil))) (pss_cons (ps_daug hu (pv 2) (pv 5) (pe_op op_sub (pe_mth c_weight_to (hr.mono (by decide)) (pv 0) (pa_cons (pv 4) pa_nil)) (pv 3)) in_add (fun _ _ _ => rfl)) (pss_one (ps_set (i := 3) nd rfl (Or.inl rfl) (pe_mth c_weight_to (hr.mono (by decide)) (pv 0) (pa_cons (pv 4) pa_nil)))))) (pss_one (ps_daug hu (pv 2) (pe_ix ix_tup (pe_ix ix_list (pv 1) pe_int (fun _ _ => rfl)) pe_int (fun _ _ => rfl)) (pe_op op_sub (pe_mth c_weight_to (hr.mono (by decide)) (pv 0) (pa_cons (pe_op op_sub (pe_fld (pv 0) rfl) pe_int) pa_nil)) (pv 3)) in_add (fun _ _ _ => rfl)))))), ?_⟩), F.bindsN fun _ _ _ _ _ _ us hl => match us, hl with | [_, _, _], _ => rfl⟩
  · obtain ⟨_, _, _, _, _, _, _, _, _, _, _, _, rfl, _⟩ := h
    rfl
  · obtain ⟨a, dx, e, st, nb, L, xs, es, ps, bs, pk, f, rfl, ha, he, hp, ok, hst, hS, hP, nd0, hb, hne, hps, L0, fl, hnb, q⟩ := h
    refine ⟨_, rfl, Addr × (Int × Nat), st, bs, (fun b => V.ref b.1), (fun b => b.2.1), (fun b => .tuple [.int ((ps[b.2.2]?).getD (0, 0)).1, .int ((ps[b.2.2]?).getD (0, 0)).2]), rfl, SqL.of hst, ⟨fun b hbm => ?_, fun b _ b' _ => rfl, fun b _ => by simp only [PyData.depth, PyData.depthAll]; omega⟩, fun bs' p pm pw np => ?_⟩
    · have e : ps[b.2.2]? = some (ps[b.2.2]'(hb b hbm).2) := List.getElem?_eq_getElem _
      rw [e]
      exact .tup (SqT.of (hS b hbm)) (.cons (.int _) (.cons (.tup (SqT.of (hP _ _ e)) (.cons (.int _) (.cons (.int _) .nil))) .nil))
    · have n1 : ∀ b o, H b = some o → (upd H p (.lst (bs'.map fun b => V.ref b.1))) b = some o := Same.laid np
      have mem' : ∀ b ∈ bs', b ∈ bs := fun b hb' => pm.mem_iff.mp hb'
      have ke : ∀ (H1 : Hp), SameBut nb (upd H p (.lst (bs'.map fun b => V.ref b.1))) H1 → H1 e = some (.lst xs) := fun H1 s1 => s1 _ _ (ne_of he hnb (by intro z; cases z)) (n1 _ _ he)
      have kp : ∀ (H1 : Hp), SameBut nb (upd H p (.lst (bs'.map fun b => V.ref b.1))) H1 → Pairs H1 xs es := fun H1 s1 => (hp.same n1).but s1 (n1 _ _ hnb) (fun l z => by cases z)
      have ka : ∀ (H1 : Hp), SameBut nb (upd H p (.lst (bs'.map fun b => V.ref b.1))) H1 → H1 a = some (.ins (He.ga K "Round") dx (rFs L e)) := fun H1 s1 => s1 _ _ (ne_of ha hnb (by intro z; cases z)) (n1 _ _ ha)
      have kt : ∀ (H1 : Hp) (t : Addr) (l : List V), SameBut nb (upd H p (.lst (bs'.map fun b => V.ref b.1))) H1 → H t = some (.tup l) → H1 t = some (.tup l) := fun H1 t l s1 ht => s1 _ _ (ne_of ht hnb (by intro z; cases z)) (n1 _ _ ht)
      have np' : p ≠ nb := fun z => by rw [z, hnb] at np; cases np
      refine ⟨_, rfl, _, rfl, ⟨_, SqL.of upd_same⟩, ?_⟩
      refine for_list (xs := bs'.map fun b => V.ref b.1) (fun i σ H1 => SameBut nb (upd H p (.lst (bs'.map fun b => V.ref b.1))) H1 ∧ H1 nb = some (.dT (ents ps (runS (upTo (wE es)) 0 ((bs'.map (·.2)).take i) f).1)) ∧
        ∃ q1 q2, σ = [some (.ref a), some (.ref p), some (.ref nb), some (.int (runS (upTo (wE es)) 0 ((bs'.map (·.2)).take i) f).2), q1, q2]) ⟨Same.but (Same.refl _), n1 _ _ hnb, none, none, rfl⟩
        (fun i σ H1 _ h1 => SqL.of (h1.1 _ _ np' upd_same)) ?_ ?_
      · rintro i x σ H1 hx ⟨s1, h2, q1, q2, rfl⟩
        have hx2 : (bs'.map fun b => V.ref b.1)[i]? = some x := hx
        rw [List.getElem?_map] at hx2
        obtain ⟨b, eb, rfl⟩ := Option.map_eq_some_iff.mp hx2
        have hbm := mem' b (List.mem_of_getElem? eb)
        obtain ⟨bt, m, k⟩ := b
        obtain ⟨m0, klt⟩ := hb _ hbm
        have ep : ps[k]? = some (ps[k]'klt) := List.getElem?_eq_getElem _
        have kfl : k < (runS (upTo (wE es)) 0 ((bs'.map (·.2)).take i) f).1.length := by rw [runS_len, fl]; exact klt
        have ef := List.getElem?_eq_getElem kfl
        refine ⟨_, _, rfl, SqT.of (kt _ _ _ s1 (hS _ hbm)), rfl, _, _, rfl, _, _, rfl, rfl, ?_⟩
        have hg : DGet H1 nb (.ref (pk k)) (some (.int (runS (upTo (wE es)) 0 ((bs'.map (·.2)).take i) f).1[k])) := by
          rw [← ents_val nd0 ep ef]
          exact DGet.t h2 (kt _ _ _ s1 (hP _ _ ep))
        refine ⟨_, rfl, _, rfl, nb, _, rfl, hg, ?_⟩
        refine ⟨_, rfl, a, dx, _, rfl, ka _ s1, rfl, _, rfl, a, dx, e, _, xs, es, _, rfl, ka _ s1, rfl, ke _ s1, kp _ s1, ok, by omega, fun H2 s2 => ⟨_, rfl, _, _, rfl, rfl, _, _, rfl, rfl, _, DPut.t (k := keyP (ps[k]'klt)) (s2 _ _ h2) (s2 _ _ (kt _ _ _ s1 (hP _ _ ep))) ?_, ?_⟩⟩
        · exact small_len (Nat.le_trans ents_len hps)
        · have s3 := (SameBut.trans s1 (Same.but s2)).upd (o := .dT (putK (ents ps (runS (upTo (wE es)) 0 ((bs'.map (·.2)).take i) f).1) (keyP (ps[k]'klt)) (.int ((runS (upTo (wE es)) 0 ((bs'.map (·.2)).take i) f).1[k] + (upTo (wE es) m - (runS (upTo (wE es)) 0 ((bs'.map (·.2)).take i) f).2)))))
          have er : (bs'.map (·.2)).take (i + 1) = (bs'.map (·.2)).take i ++ [(m, k)] := take_snoc (by rw [List.getElem?_map, eb]; rfl)
          have e2 : ents ps (runS (upTo (wE es)) 0 ((bs'.map (·.2)).take (i + 1)) f).1 = putK (ents ps (runS (upTo (wE es)) 0 ((bs'.map (·.2)).take i) f).1) (keyP (ps[k]'klt)) (.int ((runS (upTo (wE es)) 0 ((bs'.map (·.2)).take i) f).1[k] + (upTo (wE es) m - (runS (upTo (wE es)) 0 ((bs'.map (·.2)).take i) f).2))) := by
            rw [ents_put _ nd0 ep ef, er, runS_snoc]
            show ents ps (addAt _ k _) = _
            unfold addAt
            rw [List.getD_eq_getElem?_getD, ef]
            rfl
          refine ⟨_, rfl, a, dx, _, rfl, ka _ s3, rfl, _, rfl, a, dx, e, _, xs, es, _, rfl, ka _ s3, rfl, ke _ s3, kp _ s3, ok, by omega, fun H4 s4 => ⟨SameBut.trans s3 (Same.but s4), ?_, some (.int m), some (.ref (pk k)), ?_⟩⟩
          · rw [e2]
            exact s4 _ _ upd_same
          · rw [er, runS_snoc]
            rfl
      · rintro σ H1 ⟨s1, h2, q1, q2, rfl⟩
        have fin := q (bs'.map (·.2))
        rw [List.length_map, ← List.length_map (f := (·.2)), List.take_length] at h2
        rw [List.length_map, ← List.length_map (as := bs') (f := (·.2)), List.take_length]
        cases bs' with
        | nil => exact absurd (List.nil_perm.mp pm) hne
        | cons b bs' =>
          obtain ⟨bt, m, k⟩ := b
          have hbm := mem' _ (List.mem_cons_self ..)
          obtain ⟨m0, klt⟩ := hb _ hbm
          have ep : ps[k]? = some (ps[k]'klt) := List.getElem?_eq_getElem _
          have kfl : k < (runS (upTo (wE es)) 0 ((m, k) :: bs'.map (·.2)) f).1.length := by rw [runS_len, fl]; exact klt
          have ef := List.getElem?_eq_getElem kfl
          have kl : H1 p = some (.lst (V.ref bt :: bs'.map fun b => V.ref b.1)) := s1 _ _ np' upd_same
          have hg : DGet H1 nb (.ref (pk k)) (some (.int (runS (upTo (wE es)) 0 ((m, k) :: bs'.map (·.2)) f).1[k])) := by
            rw [← ents_val nd0 ep ef]
            exact DGet.t h2 (kt _ _ _ s1 (hP _ _ ep))
          refine ⟨_, rfl, _, rfl, _, _, _, _, rfl, rfl, SqL.of kl, atI_nat (j := 0) rfl, _, _, _, _, rfl, rfl, SqT.of (kt _ _ _ s1 (hS _ hbm)), atI_nat (j := 1) rfl, nb, _, rfl, hg, ?_⟩
          refine ⟨_, rfl, a, dx, _, rfl, ka _ s1, rfl, ⟨_, rfl, a, _, _, _, _, rfl, ka _ s1, T.cl_Round, T.na_length, rfl, _, _, rfl, rfl, a, dx, e, _, xs, es, _, rfl, ka _ s1, rfl, ke _ s1, kp _ s1, ok, by omega, fun H2 s2 => ⟨_, rfl, _, _, rfl, rfl, _, _, rfl, rfl, _, DPut.t (k := keyP (ps[k]'klt)) (s2 _ _ h2) (s2 _ _ (kt _ _ _ s1 (hP _ _ ep))) ?_, ?_⟩⟩⟩
          · exact small_len (Nat.le_trans ents_len hps)
          · refine fin _ (pm.map _) (List.pairwise_map.mpr pw) (SameBut.trans (Same.but n1) (SameBut.trans s1 (Same.but s2)).upd) ?_
            rw [upd_same]
            refine congrArg some (congrArg HO.dT ((ents_put _ nd0 ep ef).trans ?_))
            refine congrArg (ents ps) ?_
            show _ = addAt _ k _
            unfold addAt
            rw [List.getD_eq_getElem?_getD, ef]
            rfl
end
end Cu
/-! W12 -/
set_option Elab.async false
set_option linter.all false
set_option maxRecDepth 100000
set_option maxHeartbeats 0
namespace Cu
open PySem PySem.Spec PyProof.Rows L2
/-! _law_shared -/
def spShared : Sp := fun vs H Q _ => ∃ (e st fd : Addr) (L : Int) (xs : List V) (es : List (Int × Int)) (bs : List (Addr × (Int × Nat))) (f : List Int),
  vs = [.ref st, .ref e, .int L, .ref fd] ∧ H e = some (.lst xs) ∧ Pairs H xs es ∧ EdgeOk es ∧ H st = some (.lst (bs.map fun b => V.ref b.1)) ∧ st ≠ fd ∧ e ≠ fd ∧
  StAt H (fun k => .int (k : Nat)) bs ∧ (∀ b ∈ bs, 0 ≤ b.2.1 ∧ b.2.2 < f.length) ∧ bs ≠ [] ∧ 0 ≤ L ∧ (bs.map (·.2.1)).Nodup ∧ H fd = some (.lst (f.map V.int)) ∧
  ∀ st' H', st'.Perm (bs.map (·.2)) → (st'.Pairwise fun a b => a.1 ≤ b.1) → SameBut fd H H' → H' fd = some (.lst ((shared (upTo (wE es)) L st' f).map V.int)) → Q .non H'
section
variable {P : Program} {w : World} {K : PySem.W.Frag} {mg : Str → Option Value} {base : Heap}
theorem ixN_ok {n k : Nat} (h : k < n) : ixN n (k : Int) = some k := by
  unfold ixN
  rw [if_pos (by omega), if_pos (by omega)]; simp
theorem begin_int {H : Hp} {bs : List (Addr × (Int × Nat))} (hS : StAt H (fun k => .int (k : Nat)) bs) : Begin K H bs (fun b => V.ref b.1) (fun b => b.2.1) (fun b => .int (b.2.2 : Nat)) :=
  ⟨fun b hbm => .tup (SqT.of (hS b hbm)) (.cons (.int _) (.cons (.int _) .nil)), fun b _ b' _ => rfl, fun b _ => by simp only [PyData.depth]; omega⟩
theorem c_lShared (T : Txt K mg) : Cal P w K mg base 4 "_law_shared" ["_law_stands", "_law_edges", "_law_length", "_law_found"] spShared := by
  obtain ⟨fd, F⟩ := T.d_lShared
  have nd := sc_lShared.nd
  have c_lWeight := c_lWeight (P := P) (w := w) (base := base) T
  refine ⟨_, fd, T.g_law_shared, F.ok sc_lShared (fun vs H Q E h => ?_) (fun cdv A outer s H vs Q E hr h => have hu := hu_of hr; ⟨_, PSs.nox (pss_cons (ps_set (i := 4) nd rfl (Or.inl rfl) pe_int) (pss_cons (ps_for PassesOwn.never rfl (pi_list (pe_callB (cr_sortedM hr.units) rfl T.b_sorted (by decide +kernel) (pa_cons (pv 0) pa_nil))) (pg_tup rfl (pgs_cons (pg_name (i := 5) nd rfl (Or.inl rfl)) (pgs_cons (pg_name (i := 6) nd rfl (Or.inl rfl)) pgs_nil))) (pss_cons (ps_set (i := 7) nd rfl (Or.inl rfl) (pe_fn c_lWeight (hr.mono (by decide)) rfl (pa_cons (pv 1) (pa_cons (pv 5) pa_nil)))) (pss_cons (ps_asg (pe_op op_sub (pe_op op_add (pe_ix ix_list (pv 3) (pv 6) (fun _ _ => rfl)) (pv 7)) (pv 4)) (pg_sub (pv 3) (pv 6) set_list)) (pss_one (ps_set (i := 4) nd rfl (Or.inl rfl) (pv 7)))))) (pss_cons (ps_set (i := 6) nd rfl (Or.inl rfl) (pe_ix ix_tup (pe_callB (cr_minM rfl hr.units) rfl T.b_min (by decide +kernel) (pa_cons (pv 0) pa_nil)) pe_int (fun _ _ => rfl))) (pss_one (ps_asg (pe_op op_sub (pe_op op_add (pe_ix ix_list (pv 3) (pv 6) (fun _ _ => rfl)) (pe_fn c_lWeight (hr.mono (by decide)) rfl (pa_cons (pv 1) (pa_cons (pe_op op_sub (pv 2) pe_int) pa_nil)))) (pv 4)) (pg_sub (pv 3) (pv 6) set_list)))))), ?_⟩), F.bindsN fun _ _ _ _ _ _ us hl => match us, hl with | [_, _, _, _], _ => rfl, F.kp⟩
  · obtain ⟨_, _, _, _, _, _, _, _, rfl, _⟩ := h
    rfl
  · obtain ⟨e, st, fd, L, xs, es, bs, f, rfl, he, hp, ok, hst, ns, ne, hS, hb, hne, L0, hnd, hf, q⟩ := h
    refine ⟨_, rfl, Addr × (Int × Nat), st, bs, (fun b => V.ref b.1), (fun b => b.2.1), _, rfl, SqL.of hst, begin_int hS, fun bs' p pm pw np => ?_⟩
    have n1 : ∀ b o, H b = some o → (upd H p (.lst (bs'.map fun b => V.ref b.1))) b = some o := Same.laid np
    have mem' : ∀ b ∈ bs', b ∈ bs := fun b hb' => pm.mem_iff.mp hb'
    have ke : ∀ (H1 : Hp), SameBut fd (upd H p (.lst (bs'.map fun b => V.ref b.1))) H1 → H1 e = some (.lst xs) := fun H1 s1 => s1 _ _ ne (n1 _ _ he)
    have kp : ∀ (H1 : Hp), SameBut fd (upd H p (.lst (bs'.map fun b => V.ref b.1))) H1 → Pairs H1 xs es := fun H1 s1 => (hp.same n1).but s1 (n1 _ _ hf) (fun l z => by cases z)
    have kt : ∀ (H1 : Hp) (t : Addr) (l : List V), SameBut fd (upd H p (.lst (bs'.map fun b => V.ref b.1))) H1 → H t = some (.tup l) → H1 t = some (.tup l) := fun H1 t l s1 ht => s1 _ _ (ne_of ht hf (by intro z; cases z)) (n1 _ _ ht)
    have np' : p ≠ fd := fun z => by rw [z, hf] at np; cases np
    refine ⟨_, rfl, ⟨_, SqL.of upd_same⟩, ?_⟩
    refine for_list (xs := bs'.map fun b => V.ref b.1) (fun i σ H1 => SameBut fd (upd H p (.lst (bs'.map fun b => V.ref b.1))) H1 ∧ H1 fd = some (.lst ((runS (upTo (wE es)) 0 ((bs'.map (·.2)).take i) f).1.map V.int)) ∧
      ∃ q1 q2 q3, σ = [some (.ref st), some (.ref e), some (.int L), some (.ref fd), some (.int (runS (upTo (wE es)) 0 ((bs'.map (·.2)).take i) f).2), q1, q2, q3]) ⟨Same.but (Same.refl _), n1 _ _ hf, none, none, none, rfl⟩
      (fun i σ H1 _ h1 => SqL.of (h1.1 _ _ np' upd_same)) ?_ ?_
    · rintro i x σ H1 hx ⟨s1, h2, q1, q2, q3, rfl⟩
      have hx2 : (bs'.map fun b => V.ref b.1)[i]? = some x := hx
      rw [List.getElem?_map] at hx2
      obtain ⟨b, eb, rfl⟩ := Option.map_eq_some_iff.mp hx2
      have hbm := mem' b (List.mem_of_getElem? eb)
      obtain ⟨bt, m, k⟩ := b
      obtain ⟨m0, klt⟩ := hb _ hbm
      have kfl : k < (runS (upTo (wE es)) 0 ((bs'.map (·.2)).take i) f).1.length := by rw [runS_len]; exact klt
      have ef := List.getElem?_eq_getElem kfl
      refine ⟨_, _, rfl, SqT.of (kt _ _ _ s1 (hS _ hbm)), rfl, _, _, rfl, _, _, rfl, rfl, ?_⟩
      refine ⟨_, rfl, _, rfl, e, xs, es, _, rfl, ke _ s1, kp _ s1, ok, by omega, fun H2 s2 => ?_⟩
      have eg : ((runS (upTo (wE es)) 0 ((bs'.map (·.2)).take i) f).1.map V.int)[k]? = some (.int (runS (upTo (wE es)) 0 ((bs'.map (·.2)).take i) f).1[k]) := by rw [List.getElem?_map, ef]; rfl
      refine ⟨_, rfl, _, rfl, _, _, _, _, rfl, rfl, SqL.of (s2 _ _ h2), atI_nat eg, ?_⟩
      refine ⟨_, rfl, _, _, rfl, rfl, _, rfl, _, _, rfl, rfl, _, rfl, _, rfl, fd, _, _, k, rfl, rfl, s2 _ _ h2, ixN_ok (by rw [List.length_map]; exact kfl), ?_⟩
      have er : (bs'.map (·.2)).take (i + 1) = (bs'.map (·.2)).take i ++ [(m, k)] := take_snoc (by rw [List.getElem?_map, eb]; rfl)
      refine ⟨_, rfl, (SameBut.trans s1 (Same.but s2)).upd, ?_, some (.int m), some (.int (k : Nat)), some (.int (upTo (wE es) m)), ?_⟩
      · rw [upd_same, er, runS_snoc]
        refine congrArg some (congrArg HO.lst ?_)
        show _ = (addAt _ k _).map V.int
        unfold addAt
        rw [List.getD_eq_getElem?_getD, ef, List.map_set]
        refine congrArg _ (congrArg V.int ?_)
        show _ + upTo (wE es) m - _ = (runS (upTo (wE es)) 0 ((bs'.map (·.2)).take i) f).1[k] + (upTo (wE es) m - _)
        omega
      · rw [er, runS_snoc]
        rfl
    · rintro σ H1 ⟨s1, h2, q1, q2, q3, rfl⟩
      have fin := q (bs'.map (·.2))
      rw [List.length_map, ← List.length_map (f := (·.2)), List.take_length] at h2
      rw [List.length_map, ← List.length_map (as := bs') (f := (·.2)), List.take_length]
      have hst1 : H1 st = some (.lst (bs.map fun b => V.ref b.1)) := s1 _ _ ns (n1 _ _ hst)
      have hS1 : StAt H1 (fun k => .int (k : Nat)) bs := fun b hbm => kt _ _ _ s1 (hS b hbm)
      refine ⟨_, rfl, Addr × (Int × Nat), st, bs, (fun b => V.ref b.1), (fun b => b.2.1), _, rfl, SqL.of hst1, begin_int hS1, hne, fun b hbm hmin => ?_⟩
      cases bs' with
      | nil => exact absurd (List.nil_perm.mp pm) hne
      | cons c bs' =>
        have hcm := mem' _ (List.mem_cons_self ..)
        have ebc : b = c := by
          have h1 : b.2.1 ≤ c.2.1 := hmin c hcm
          have h2 : c.2.1 ≤ b.2.1 := by
            rcases List.mem_cons.mp (pm.mem_iff.mpr hbm) with z | z
            · rw [z]; omega
            · exact List.rel_of_pairwise_cons pw z
          have e3 : b.2.1 = c.2.1 := by omega
          obtain ⟨i, hi, gi⟩ := List.getElem_of_mem hbm
          obtain ⟨j, hj, gj⟩ := List.getElem_of_mem hcm
          have : i = j := by
            have li : i < (bs.map (·.2.1)).length := by rw [List.length_map]; exact hi
            have lj : j < (bs.map (·.2.1)).length := by rw [List.length_map]; exact hj
            refine (List.getElem_inj hnd (h₀ := li) (h₁ := lj)).mp ?_
            rw [List.getElem_map, List.getElem_map, gi, gj, e3]
          subst this
          exact gi.symm.trans gj
        subst ebc
        obtain ⟨bt, m, k⟩ := b
        obtain ⟨m0, klt⟩ := hb _ hbm
        have kfl : k < (runS (upTo (wE es)) 0 ((m, k) :: bs'.map (·.2)) f).1.length := by rw [runS_len]; exact klt
        have ef := List.getElem?_eq_getElem kfl
        have eg : ((runS (upTo (wE es)) 0 ((m, k) :: bs'.map (·.2)) f).1.map V.int)[k]? = some (.int (runS (upTo (wE es)) 0 ((m, k) :: bs'.map (·.2)) f).1[k]) := by rw [List.getElem?_map, ef]; rfl
        refine ⟨_, _, _, _, rfl, rfl, SqT.of (hS1 _ hbm), atI_nat (j := 1) rfl, ?_⟩
        refine ⟨_, rfl, _, rfl, _, _, _, _, rfl, rfl, SqL.of h2, atI_nat eg, ?_⟩
        refine ⟨_, rfl, _, rfl, _, _, rfl, rfl, e, xs, es, _, rfl, ke _ s1, kp _ s1, ok, by omega, fun H2 s2 => ?_⟩
        refine ⟨_, _, rfl, rfl, _, rfl, _, _, rfl, rfl, _, rfl, _, rfl, fd, _, _, k, rfl, rfl, s2 _ _ h2, ixN_ok (by rw [List.length_map]; exact kfl), ?_⟩
        refine fin _ (pm.map _) (List.pairwise_map.mpr pw) (SameBut.trans (Same.but n1) (SameBut.trans s1 (Same.but s2)).upd) ?_
        rw [upd_same]
        refine congrArg some (congrArg HO.lst ?_)
        show _ = (addAt (runS (upTo (wE es)) 0 ((m, k) :: bs'.map (·.2)) f).1 k _).map V.int
        unfold addAt
        rw [List.getD_eq_getElem?_getD, ef, List.map_set]
        refine congrArg _ (congrArg V.int ?_)
        show _ + upTo (wE es) (L - 1) - _ = (runS (upTo (wE es)) 0 ((m, k) :: bs'.map (·.2)) f).1[k] + (upTo (wE es) (L - 1) - _)
        exact Int.add_sub_assoc ..
/-! told -/
/-- the pairs of pockets and numbers, in the making -/
def TellAt (H : Hp) (pk : Nat → Addr) (f : List Int) (qs : List Addr) : Prop := ∀ j q n, qs[j]? = some q → f[j]? = some n → H q = some (.tup [.ref (pk j), .int n])
def spTold (C : Addr) : Sp := fun vs H Q _ => ∃ (a dx pa nb : Addr) (total : Int) (fs : List (Str × V)) (ps : List (Int × Int)) (pk : Nat → Addr) (f : List Int),
  vs = [.ref a, .ref nb, .int total] ∧ H a = some (.ins C dx fs) ∧ fs.lookup ("pockets" : Str) = some (V.ref pa) ∧ H pa = some (.tup ((List.range ps.length).map fun k => V.ref (pk k))) ∧ PkAt H pk ps ∧ ps.Nodup ∧ ps.length ≤ 60 ∧ f.length = ps.length ∧
  H nb = some (.dT (ents ps f)) ∧ ∀ H' p l qs, Same H H' → H' p = some (.tup [.ref l, .int (total - f.sum)]) → H' l = some (.lst (qs.map V.ref)) → qs.length = ps.length → TellAt H' pk f qs → Q (.ref p) H'
theorem ents_snd : ∀ {ps : List (Int × Int)} {f : List Int}, f.length = ps.length → (ents ps f).map (·.2) = f.map V.int
  | [], [], _ => rfl
  | [], _ :: _, h => by simp at h
  | _ :: _, [], h => by simp at h
  | p :: ps, n :: f, h => by
    show V.int n :: (ents ps f).map (·.2) = V.int n :: f.map V.int
    rw [ents_snd (by simpa using h)]
theorem c_told (T : Txt K mg) : Cal P w K mg base 1 "told" ["table", "numbers", "total"] (spTold (He.ga K "Table")) := by
  obtain ⟨fd, F⟩ := T.d_told
  have nd := sc_told.nd
  refine ⟨_, fd, T.g_told, F.ok sc_told (fun vs H Q E h => ?_) (fun cdv A outer s H vs Q E hr h => have hu := hu_of hr; ⟨_, PSs.nox (pss_one (ps_ret (pe_tup (pa_cons (pe_lc (own := [("pocket", 3)]) (g := gName 3) rfl nd (pi_tup (pe_fld (pv 0) rfl)) (blkOk_by (N := ["table", "numbers", "total", "pocket"]) (sc := defScope s_told) (own := [("pocket", 3)]) (by decide +kernel)) (fun _ _ _ _ _ => (pg_name (i := 3) nd rfl (Or.inl rfl))) (fun _ _ _ _ _ => pts_nil) (fun _ _ _ _ _ => (pe_tup (pa_cons (pv 3) (pa_cons (pe_dget hu (pv 1) (pv 3) (fun _ _ => rfl)) pa_nil))))) (pa_cons (pe_op op_sub (pv 2) (pe_callB (cr_sumVals rfl) rfl T.b_sum (by decide +kernel) (pa_cons (pe_bm0 PySem.F.plainAttrs_dict PySem.F.slot_dict_values PySem.F.type_dict_values mt_valuesT (pv 1)) pa_nil))) pa_nil))))), ?_⟩), F.bindsN fun _ _ _ _ _ _ us hl => match us, hl with | [_, _, _], _ => rfl, F.kp⟩
  · obtain ⟨_, _, _, _, _, _, _, _, _, rfl, _⟩ := h
    rfl
  · obtain ⟨a, dx, pa, nb, total, fs, ps, pk, f, rfl, ha, hpl, hpa, hP, nd0, hps, fl, hnb, q⟩ := h
    refine ⟨_, rfl, _, _, _, _, _, rfl, ha, T.cl_Table, T.na_pockets, hpl, _, rfl, ⟨_, SqT.of hpa⟩, fun D hD => ?_⟩
    refine lc_tup (xs := (List.range ps.length).map fun k => V.ref (pk k)) (fun i H1 => Same H H1 ∧ ∃ qs : List Addr, H1 D = some (.lst (qs.map V.ref)) ∧ qs.length = i ∧ TellAt H1 pk f qs) ⟨Same.laid hD, [], by rw [upd_same]; rfl, rfl, fun j q n h => by simp at h⟩
      (fun i H1 _ h1 => SqT.of (h1.1 _ _ hpa)) ?_ ?_
    · rintro i x H1 hx ⟨s1, qs, hq, hl, ht⟩
      have hi : i < ps.length := by
        have := (List.getElem?_eq_some_iff.mp hx).1
        simpa using this
      have ex : V.ref (pk i) = x := by
        rw [List.getElem?_map, List.getElem?_range hi] at hx
        exact Option.some.inj hx
      subst ex
      have ep : ps[i]? = some (ps[i]'hi) := List.getElem?_eq_getElem _
      have ef : f[i]? = some (f[i]'(by omega)) := List.getElem?_eq_getElem _
      have hg : DGet H1 nb (.ref (pk i)) (some (.int (f[i]'(by omega)))) := by
        rw [← ents_val nd0 ep ef]
        exact DGet.t (s1 _ _ hnb) (s1 _ _ (hP _ _ ep))
      refine ⟨rfl, _, rfl, _, rfl, _, rfl, nb, _, rfl, hg, len2, fun p np => ?_⟩
      have nDp : D ≠ p := ne_of_none hq np
      refine ⟨_, (by rw [upd_ne nDp]; exact hq), small_len (by rw [List.length_map]; omega), Same.off (s1.trans (Same.laid np)) hD, qs ++ [p], (by rw [upd_same, List.map_append]; rfl), by simp [hl], fun j q n hj hn => ?_⟩
      have nq : q ≠ D := by
        by_cases c : j < qs.length
        · rw [List.getElem?_append_left c] at hj
          exact ne_of (ht j q n hj hn) hq (by intro z; cases z)
        · rw [List.getElem?_append_right (by omega)] at hj
          have : q = p := by
            have := (List.getElem?_eq_some_iff.mp hj).1
            have e0 : j - qs.length = 0 := by simp at this; omega
            rw [e0] at hj
            exact (Option.some.inj hj).symm
          rw [this]; exact nDp.symm
      rw [upd_ne nq]
      by_cases c : j < qs.length
      · rw [List.getElem?_append_left c] at hj
        exact Same.laid np _ _ (ht j q n hj hn)
      · rw [List.getElem?_append_right (by omega)] at hj
        have e0 : j - qs.length = 0 := by have := (List.getElem?_eq_some_iff.mp hj).1; simp at this; omega
        rw [e0] at hj
        have e1 : q = p := (Option.some.inj hj).symm
        have e2 : j = i := by omega
        subst e1 e2
        rw [upd_same]
        rw [ef] at hn
        rw [Option.some.inj hn]
    · rintro H1 ⟨s1, qs, hq, hl, ht⟩
      rw [List.length_map, List.length_range] at hl
      refine ⟨_, rfl, _, rfl, .inr (.inr (.inl ⟨rfl, .inr ⟨_, s1 _ _ hnb⟩⟩)), nb, _, rfl, rfl, s1 _ _ hnb, fun p np => ?_⟩
      have s2 : Same H1 (upd H1 p (valsO p nb)) := Same.laid np
      refine ⟨p, nb, _, f, rfl, upd_same, s2 _ _ (s1 _ _ hnb), ents_snd fl, _, _, rfl, rfl, len2, fun p2 np2 => ?_⟩
      have s3 := s2.trans (Same.laid (o := .tup [.ref D, .int (total - f.sum)]) np2)
      exact q _ p2 D qs (s1.trans s3) upd_same (s3 _ _ hq) hl fun j q n hj hn => s3 _ _ (ht j q n hj hn)
end
end Cu
/-! W13 -/
set_option Elab.async false
set_option linter.all false
set_option maxRecDepth 100000
set_option maxHeartbeats 0
namespace Cu
open PySem PySem.Spec PyProof.Rows L2
/-! the rounds, in the making -/
abbrev RE := Int × Addr × List (Addr × (Int × Nat))
def updR : List RE → Int → Addr → Addr × (Int × Nat) → List RE
  | [], r, l, b => [(r, l, [b])]
  | (q, l0, bs) :: R, r, l, b => if q = r then (q, l, bs ++ [b]) :: R else (q, l0, bs) :: updR R r l b
def oldR : List RE → Int → List (Addr × (Int × Nat))
  | [], _ => []
  | (q, _, bs) :: R, r => if q = r then bs else oldR R r
def fgt (R : List RE) : List Rd := R.map fun x => (x.1, x.2.2.map (·.2))
theorem fgt_upd (r : Int) (l : Addr) (b : Addr × (Int × Nat)) : ∀ R : List RE, fgt (updR R r l b) = addTo (fgt R) r b.2
  | [] => rfl
  | (q, l0, bs) :: R => by
    show fgt (if q = r then (q, l, bs ++ [b]) :: R else (q, l0, bs) :: updR R r l b) = (if q = r then (q, bs.map (·.2) ++ [b.2]) :: fgt R else (q, bs.map (·.2)) :: addTo (fgt R) r b.2)
    by_cases c : q = r
    · rw [if_pos c, if_pos c]
      show (q, (bs ++ [b]).map (·.2)) :: fgt R = _
      rw [List.map_append]; rfl
    · rw [if_neg c, if_neg c]
      show (q, bs.map (·.2)) :: fgt (updR R r l b) = _
      rw [fgt_upd r l b R]
theorem fgt_keys (R : List RE) : (fgt R).map (·.1) = R.map (·.1) := by unfold fgt; rw [List.map_map]; rfl
def kvR (R : List RE) : List (L2.Key × V) := R.map fun x => (Sum.inl x.1, V.ref x.2.1)
theorem kvR_val (r : Int) : ∀ R : List RE, (valV (kvR R) (.inl r) = none ∧ (∀ x ∈ R, x.1 ≠ r) ∧ oldR R r = []) ∨ ∃ x ∈ R, x.1 = r ∧ valV (kvR R) (.inl r) = some (.ref x.2.1) ∧ oldR R r = x.2.2
  | [] => .inl ⟨rfl, (fun x h => by cases h), rfl⟩
  | (q, l0, bs) :: R => by
    by_cases c : q = r
    · refine .inr ⟨(q, l0, bs), List.mem_cons_self .., c, ?_, if_pos c⟩
      exact valV_pos (p := (Sum.inl q, V.ref l0)) (congrArg Sum.inl c)
    · have hn : ¬ (Sum.inl q : L2.Key) = Sum.inl r := fun e => c (Sum.inl.inj e)
      have e1 : valV (kvR ((q, l0, bs) :: R)) (.inl r) = valV (kvR R) (.inl r) := valV_neg (p := (Sum.inl q, V.ref l0)) hn
      have e2 : oldR ((q, l0, bs) :: R) r = oldR R r := if_neg c
      rcases kvR_val r R with ⟨h1, h2, h3⟩ | ⟨x, h1, h2, h3, h4⟩
      · refine .inl ⟨e1.trans h1, fun x hx => ?_, e2.trans h3⟩
        rcases List.mem_cons.mp hx with z | z
        · rw [z]; exact c
        · exact h2 x z
      · exact .inr ⟨x, List.mem_cons_of_mem _ h1, h2, e1.trans h3, e2.trans h4⟩
theorem kvR_map_id (r : Int) (l : Addr) : ∀ R : List RE, (∀ x ∈ R, x.1 ≠ r) → (kvR R).map (fun kv => if kv.1 = (Sum.inl r : L2.Key) then (kv.1, V.ref l) else kv) = kvR R
  | [], _ => rfl
  | (q, l0, bs) :: R, h => by
    show (if (Sum.inl q : L2.Key) = Sum.inl r then (Sum.inl q, V.ref l) else (Sum.inl q, V.ref l0)) :: (kvR R).map _ = (Sum.inl q, V.ref l0) :: kvR R
    rw [if_neg fun e => h _ (List.mem_cons_self ..) (Sum.inl.inj e), kvR_map_id r l R fun x hx => h x (List.mem_cons_of_mem _ hx)]
theorem kvR_map (r : Int) (l : Addr) (b : Addr × (Int × Nat)) : ∀ R : List RE, (R.map (·.1)).Nodup → (∃ x ∈ R, x.1 = r) → (kvR R).map (fun kv => if kv.1 = (Sum.inl r : L2.Key) then (kv.1, V.ref l) else kv) = kvR (updR R r l b)
  | [], _, ⟨x, h, _⟩ => by cases h
  | (q, l0, bs) :: R, nd, h => by
    obtain ⟨n1, n2⟩ := List.nodup_cons.mp (show (q :: R.map (·.1)).Nodup from nd)
    show (if (Sum.inl q : L2.Key) = Sum.inl r then (Sum.inl q, V.ref l) else (Sum.inl q, V.ref l0)) :: (kvR R).map _ = kvR (if q = r then (q, l, bs ++ [b]) :: R else (q, l0, bs) :: updR R r l b)
    by_cases c : q = r
    · subst c
      rw [if_pos rfl, if_pos rfl, kvR_map_id q l R fun x hx e => n1 (e ▸ List.mem_map_of_mem hx)]
      rfl
    · rw [if_neg fun e => c (Sum.inl.inj e), if_neg c]
      obtain ⟨x, hx, ex⟩ := h
      have hx2 : x ∈ R := by
        rcases List.mem_cons.mp hx with z | z
        · rw [z] at ex; exact absurd ex c
        · exact z
      rw [kvR_map r l b R n2 ⟨x, hx2, ex⟩]
      rfl
theorem updR_new (r : Int) (l : Addr) (b : Addr × (Int × Nat)) : ∀ R : List RE, (∀ x ∈ R, x.1 ≠ r) → updR R r l b = R ++ [(r, l, [b])]
  | [], _ => rfl
  | (q, l0, bs) :: R, h => by
    show (if q = r then _ else (q, l0, bs) :: updR R r l b) = (q, l0, bs) :: (R ++ [(r, l, [b])])
    rw [if_neg (h _ (List.mem_cons_self ..)), updR_new r l b R fun x hx => h x (List.mem_cons_of_mem _ hx)]
theorem kvR_put (r : Int) (l : Addr) (b : Addr × (Int × Nat)) (R : List RE) (nd : (R.map (·.1)).Nodup) : putK (kvR R) (.inl r) (.ref l) = kvR (updR R r l b) := by
  rcases kvR_val r R with ⟨h1, h2, h3⟩ | ⟨x, h1, h2, h3, h4⟩
  · rw [putK_new _ h1, updR_new r l b R h2]
    unfold kvR
    rw [List.map_append]; rfl
  · unfold putK
    rw [valV_any, h3]
    exact (if_pos rfl).trans (kvR_map r l b R nd ⟨x, h1, h2⟩)
theorem kvR_keep (r : Int) (b : Addr × (Int × Nat)) : ∀ (R : List RE) (x : RE), x ∈ R → x.1 = r → (R.map (·.1)).Nodup → kvR (updR R r x.2.1 b) = kvR R
  | [], x, h, _, _ => by cases h
  | (q, l0, bs) :: R, x, h, e, nd => by
    obtain ⟨n1, n2⟩ := List.nodup_cons.mp (show (q :: R.map (·.1)).Nodup from nd)
    show kvR (if q = r then (q, x.2.1, bs ++ [b]) :: R else (q, l0, bs) :: updR R r x.2.1 b) = _
    rcases List.mem_cons.mp h with z | z
    · subst z
      rw [if_pos e]
      rfl
    · rw [if_neg fun c => n1 (by rw [c, ← e]; exact List.mem_map_of_mem z)]
      show (_, _) :: kvR (updR R r x.2.1 b) = _
      rw [kvR_keep r b R x z e n2]
      rfl
theorem mem_updR {r : Int} {l : Addr} {b : Addr × (Int × Nat)} : ∀ {R : List RE} {x : RE}, (R.map (·.1)).Nodup → x ∈ updR R r l b → (x ∈ R ∧ x.1 ≠ r) ∨ x = (r, l, oldR R r ++ [b])
  | [], x, _, h => .inr (List.mem_singleton.mp h)
  | (q, l0, bs) :: R, x, nd, h => by
    obtain ⟨n1, n2⟩ := List.nodup_cons.mp (show (q :: R.map (·.1)).Nodup from nd)
    have h : x ∈ (if q = r then (q, l, bs ++ [b]) :: R else (q, l0, bs) :: updR R r l b) := h
    have e : oldR ((q, l0, bs) :: R) r = if q = r then bs else oldR R r := rfl
    by_cases c : q = r
    · rw [if_pos c] at h e
      rcases List.mem_cons.mp h with z | z
      · right; rw [z, e, c]
      · exact .inl ⟨List.mem_cons_of_mem _ z, fun e2 => n1 (by rw [c, ← e2]; exact List.mem_map_of_mem z)⟩
    · rw [if_neg c] at h e
      rcases List.mem_cons.mp h with z | z
      · left; rw [z]; exact ⟨List.mem_cons_self .., c⟩
      · rcases mem_updR n2 z with ⟨h1, h2⟩ | h1
        · exact .inl ⟨List.mem_cons_of_mem _ h1, h2⟩
        · right; rw [h1, e]
structure RAt (Z : Addr → Prop) (H : Hp) (d : Addr) (q : Nat → V) (R : List RE) : Prop where
  nd : (R.map (·.1)).Nodup
  dic : H d = some (.dK (kvR R))
  ls : ∀ x ∈ R, H x.2.1 = some (.lst (x.2.2.map fun b => V.ref b.1)) ∧ StAt H q x.2.2
  inj : ∀ x ∈ R, ∀ y ∈ R, x.2.1 = y.2.1 → x.1 = y.1
  av : ∀ x ∈ R, ¬ Z x.2.1
theorem RAt.same {Z : Addr → Prop} {H H' : Hp} {d : Addr} {q : Nat → V} {R : List RE} (h : RAt Z H d q R) (s : Same H H') : RAt Z H' d q R :=
  ⟨h.nd, s _ _ h.dic, fun x hx => ⟨s _ _ (h.ls x hx).1, fun b hb => s _ _ ((h.ls x hx).2 b hb)⟩, h.inj, h.av⟩
theorem RAt.more {Z : Addr → Prop} {H : Hp} {d : Addr} {q : Nat → V} {R : List RE} (h : RAt Z H d q R) {p : Addr} (hp : H p = none) : RAt (fun a => Z a ∨ a = p) H d q R :=
  ⟨h.nd, h.dic, h.ls, h.inj, fun x hx z => z.elim (h.av x hx) fun e => by have := (h.ls x hx).1; rw [e, hp] at this; cases this⟩
theorem RAt.less {Z Z' : Addr → Prop} {H : Hp} {d : Addr} {q : Nat → V} {R : List RE} (h : RAt Z H d q R) (hz : ∀ a, Z' a → Z a) : RAt Z' H d q R :=
  ⟨h.nd, h.dic, h.ls, h.inj, fun x hx z => h.av x hx (hz _ z)⟩
theorem RAt.nil {Z : Addr → Prop} {H : Hp} {d : Addr} {q : Nat → V} (h : H d = some (.dK [])) : RAt Z H d q [] :=
  ⟨List.nodup_nil, h, fun x hx => (by cases hx), fun x hx => (by cases hx), fun x hx => (by cases hx)⟩
/-- one more stand: at d the dict with l for r, at l the stands, all else as it was -/
theorem RAt.step {Z : Addr → Prop} {H H' : Hp} {d l : Addr} {q : Nat → V} {R : List RE} {r : Int} {b : Addr × (Int × Nat)} (h : RAt Z H d q R)
    (hd : H' d = some (.dK (kvR (updR R r l b)))) (hl : H' l = some (.lst ((oldR R r ++ [b]).map fun b => V.ref b.1))) (hb : H' b.1 = some (.tup [.int b.2.1, q b.2.2]))
    (nk : ((updR R r l b).map (·.1)).Nodup) (tk : ∀ t xs, H t = some (.tup xs) → H' t = some (.tup xs))
    (keep : ∀ a o, a ≠ d → a ≠ l → H a = some o → H' a = some o) (hln : ∀ x ∈ R, x.1 ≠ r → x.2.1 ≠ l) (hz : ¬ Z l) : RAt Z H' d q (updR R r l b) := by
  refine ⟨nk, hd, fun x hx => ?_, fun x hx y hy e => ?_, fun x hx => ?_⟩
  · rcases mem_updR h.nd hx with ⟨h1, h2⟩ | h1
    · obtain ⟨l1, l2⟩ := h.ls x h1
      exact ⟨keep _ _ (ne_of l1 h.dic (by intro z; cases z)) (hln x h1 h2) l1, fun c hc => tk _ _ (l2 c hc)⟩
    · rw [h1]
      refine ⟨hl, fun c hc => ?_⟩
      rcases List.mem_append.mp hc with z | z
      · rcases kvR_val r R with ⟨_, _, h3⟩ | ⟨y, g1, _, _, g4⟩
        · rw [h3] at z; cases z
        · rw [g4] at z
          exact tk _ _ ((h.ls y g1).2 c z)
      · rw [List.mem_singleton.mp z]
        exact hb
  · rcases mem_updR h.nd hx with ⟨h1, h2⟩ | h1
    · rcases mem_updR h.nd hy with ⟨h3, h4⟩ | h3
      · exact h.inj x h1 y h3 e
      · rw [h3] at e; exact absurd e (hln x h1 h2)
    · rcases mem_updR h.nd hy with ⟨h3, h4⟩ | h3
      · rw [h1] at e; exact absurd e.symm (hln y h3 h4)
      · rw [h1, h3]
  · rcases mem_updR h.nd hx with ⟨h1, h2⟩ | h1
    · exact h.av x h1
    · rw [h1]; exact hz
/-- setdefault and append: the list stood -/
theorem RAt.app1 {Z : Addr → Prop} {H1 : Hp} {d p1 t : Addr} {q : Nat → V} {R : List RE} {r m : Int} {k : Nat} {x : RE} (h : RAt Z H1 d q R) (hx : x ∈ R) (ex : x.1 = r) (eo : oldR R r = x.2.2) (nk : ((addTo (fgt R) r (m, k)).map (·.1)).Nodup)
    (n1 : H1 p1 = none) (nt : upd H1 p1 (.lst []) t = none) :
    RAt Z (upd (upd (upd H1 p1 (.lst [])) t (.tup [.int m, q k])) x.2.1 (.lst ((x.2.2.map fun b => V.ref b.1) ++ [.ref t]))) d q (updR R r x.2.1 (t, (m, k))) ∧
    ∀ b o, Z b → b ≠ d → H1 b = some o → upd (upd (upd H1 p1 (.lst [])) t (.tup [.int m, q k])) x.2.1 (.lst ((x.2.2.map fun b => V.ref b.1) ++ [.ref t])) b = some o := by
  obtain ⟨l1, l2⟩ := h.ls x hx
  have s1 : Same H1 (upd (upd H1 p1 (.lst [])) t (.tup [.int m, q k])) := (Same.laid n1).trans (Same.laid nt)
  have nx : t ≠ x.2.1 := fun e => by rw [e, Same.laid n1 _ _ l1] at nt; cases nt
  refine ⟨h.step ?_ ?_ ?_ ?_ ?_ ?_ ?_ (h.av x hx), fun b o hz hd hb => ?_⟩
  · rw [upd_ne (ne_of h.dic l1 (by intro z; cases z)), kvR_keep r (t, (m, k)) R x hx ex h.nd]
    exact s1 _ _ h.dic
  · rw [upd_same, eo, List.map_append]; rfl
  · rw [upd_ne nx, upd_same]
  · rw [← fgt_keys, fgt_upd]; exact nk
  · intro b xs hb
    rw [upd_ne (ne_of hb l1 (by intro z; cases z))]
    exact s1 _ _ hb
  · intro b o _ hl hb
    rw [upd_ne hl]
    exact s1 _ _ hb
  · intro y hy hr e
    exact hr ((h.inj y hy x hx e).trans ex)
  · have nb : b ≠ x.2.1 := fun e => h.av x hx (e ▸ hz)
    rw [upd_ne nb]
    exact s1 _ _ hb
/-- .. a new one -/
theorem RAt.app0 {Z : Addr → Prop} {H1 : Hp} {d p1 t : Addr} {q : Nat → V} {R : List RE} {r m : Int} {k : Nat} (h : RAt Z H1 d q R) (eo : oldR R r = []) (nk : ((addTo (fgt R) r (m, k)).map (·.1)).Nodup) (zf : ∀ a, Z a → H1 a ≠ none)
    (n1 : H1 p1 = none) (nt : upd (upd H1 p1 (.lst [])) d (.dK (putK (kvR R) (.inl r) (.ref p1))) t = none) :
    RAt Z (upd (upd (upd (upd H1 p1 (.lst [])) d (.dK (putK (kvR R) (.inl r) (.ref p1)))) t (.tup [.int m, q k])) p1 (.lst ([] ++ [.ref t]))) d q (updR R r p1 (t, (m, k))) ∧
    ∀ b o, Z b → b ≠ d → H1 b = some o → upd (upd (upd (upd H1 p1 (.lst [])) d (.dK (putK (kvR R) (.inl r) (.ref p1)))) t (.tup [.int m, q k])) p1 (.lst ([] ++ [.ref t])) b = some o := by
  have nd1 : d ≠ p1 := ne_of_none h.dic n1
  have ntd : t ≠ d := fun e => by rw [e, upd_same] at nt; cases nt
  have ntp : t ≠ p1 := fun e => by rw [e, upd_ne nd1.symm, upd_same] at nt; cases nt
  have gen : ∀ b o, b ≠ d → H1 b = some o → upd (upd (upd (upd H1 p1 (.lst [])) d (.dK (putK (kvR R) (.inl r) (.ref p1)))) t (.tup [.int m, q k])) p1 (.lst ([] ++ [.ref t])) b = some o := fun b o hd hb => by
    have b1 : b ≠ p1 := ne_of_none hb n1
    have bt : b ≠ t := fun e => by rw [← e, upd_ne hd, upd_ne b1, hb] at nt; cases nt
    rw [upd_ne b1, upd_ne bt, upd_ne hd, upd_ne b1]
    exact hb
  refine ⟨h.step ?_ ?_ ?_ ?_ ?_ ?_ ?_ (fun z => zf _ z n1), fun b o hz hd hb => gen b o hd hb⟩
  · rw [upd_ne nd1, upd_ne ntd.symm, upd_same, kvR_put r p1 (t, (m, k)) R h.nd]
  · rw [upd_same, eo]; rfl
  · rw [upd_ne ntp, upd_same]
  · rw [← fgt_keys, fgt_upd]; exact nk
  · intro b xs hb
    exact gen b _ (ne_of hb h.dic (by intro z; cases z)) hb
  · intro b o hd _ hb
    exact gen b o hd hb
  · intro y hy _
    exact ne_of_none (h.ls y hy).1 n1
theorem addTo_len : ∀ (rs : List Rd) (r : Int) (e : Int × Nat), (addTo rs r e).length ≤ rs.length + 1
  | [], r, e => by simp [addTo]
  | (q, st) :: rs, r, e => by
    show (if q = r then (q, st ++ [e]) :: rs else (q, st) :: addTo rs r e).length ≤ _
    split
    · simp
    · have := addTo_len rs r e
      simp only [List.length_cons]; omega
theorem grp_len (es : List En) : (grp es).length ≤ es.length := by
  have gen : ∀ (es : List En) (rs : List Rd), (es.foldl (fun rs x => addTo rs x.1 x.2) rs).length ≤ rs.length + es.length := by
    intro es
    induction es with
    | nil => intro rs; simp
    | cons x es ih =>
      intro rs
      have h1 := ih (addTo rs x.1 x.2)
      have h2 := addTo_len rs x.1 x.2
      simp only [List.foldl_cons, List.length_cons]; omega
  have := gen es []
  unfold grp
  simpa using this
theorem R_small {R : List RE} {es : List En} (h : fgt R = grp es) : R.length ≤ es.length ∧ ∀ x ∈ R, x.2.2.length ≤ es.length := by
  constructor
  · have := grp_len es
    rw [← h] at this
    unfold fgt at this
    rwa [List.length_map] at this
  · intro x hx
    have hm : (x.1, x.2.2.map (·.2)) ∈ grp es := by rw [← h]; exact List.mem_map_of_mem (f := fun x : RE => (x.1, x.2.2.map (·.2))) hx
    have e := (grp_good es).eq _ hm
    have e2 : x.2.2.length = (sel es x.1).length := by rw [← e]; simp
    rw [e2]
    unfold sel
    rw [List.length_map]
    exact List.length_filter_le ..
theorem nk_of {R : List RE} {es : List En} {x : En} (h : fgt R = grp es) : ((addTo (fgt R) x.1 x.2).map (·.1)).Nodup := by
  rw [h, ← grp_snoc]
  exact (grp_good _).nd
theorem flat_len {α β : Type} {f : α → List β} {c : Nat} (h : ∀ x, (f x).length ≤ c) : ∀ l : List α, (l.flatMap f).length ≤ c * l.length
  | [] => by simp
  | x :: l => by
    have := flat_len h l
    have h1 := h x
    rw [List.flatMap_cons, List.length_append, List.length_cons, Nat.mul_add]; omega
theorem sides_len (x N : Int) : (sides x N).length ≤ 2 := by unfold sides; split <;> simp
theorem flat_snoc {α β : Type} {f : α → List β} {l : List α} {i : Nat} {x : α} (h : l[i]? = some x) : (l.take (i + 1)).flatMap f = (l.take i).flatMap f ++ f x := by
  rw [take_snoc h, List.flatMap_append, List.flatMap_cons, List.flatMap_nil, List.append_nil]
theorem zip_at {α : Type} {l : List α} {i : Nat} {x : α} (h : l[i]? = some x) : l.zipIdx[i]? = some (x, i) := by
  rw [List.getElem?_zipIdx, h]; simp
/-! the numbers at first -/
theorem ents_snoc {ps : List (Int × Int)} {i : Nat} {p : Int × Int} (nd : ps.Nodup) (h : ps[i]? = some p) : putK (ents (ps.take i) (List.replicate i 0)) (keyP p) (.int 0) = ents (ps.take (i + 1)) (List.replicate (i + 1) 0) := by
  have hi : i < ps.length := (List.getElem?_eq_some_iff.mp h).1
  have hn : valV (ents (ps.take i) (List.replicate i 0)) (keyP p) = none := by
    cases e : valV (ents (ps.take i) (List.replicate i 0)) (keyP p) with
    | none => rfl
    | some v =>
      obtain ⟨kv, h1, h2⟩ := List.mem_map.mp (valV_in e)
      obtain ⟨p', h3, h4⟩ := ents_mem h1
      have e2 : p' = p := keyP_inj (h4.symm.trans h2)
      subst e2
      obtain ⟨j, hj, gj⟩ := List.getElem_of_mem h3
      have hj2 : j < i := by rw [List.length_take] at hj; omega
      rw [List.getElem_take] at gj
      have gi : ps[i] = p' := (List.getElem?_eq_some_iff.mp h).2
      have := (List.getElem_inj nd (h₀ := by omega) (h₁ := hi)).mp (gj.trans gi.symm)
      omega
  rw [putK_new _ hn, take_snoc h]
  unfold ents
  rw [List.replicate_succ', List.zipWith_append (by rw [List.length_take, List.length_replicate]; omega)]
  rfl
theorem dct_tup {K : PySem.W.Frag} {a : Addr} {xs : List V} {g : TG} {tk tv : TE} {vs : List Nat} {σ : L2.St} {H1 : Hp} {D : Addr} {Qd : Hp → Prop} (Pv : Nat → Hp → Prop) (h0 : Pv 0 (upd H1 D (.dT []))) (hl : ∀ i H, i ≤ xs.length → Pv i H → SqT K H a xs)
    (hs : ∀ i x H, xs[i]? = some x → Pv i H → g x (wipe σ vs) H fun σ2 H2 => wipe σ2 vs = wipe σ vs ∧ tk σ2 H2 fun y H4 => tv σ2 H4 fun z H5 => ∃ kvs k b, y = .ref b ∧ H5 b = some (.tup (k.map kV)) ∧ H5 D = some (.dT kvs) ∧ kvs.length < sizeLine ∧ Pv (i + 1) (upd H5 D (.dT (putK kvs k z)))) (hd : ∀ H, Pv xs.length H → Qd H) :
    ∃ W : Nat → Nat → Hp → Prop, (∃ m, W 0 m (upd H1 D (.dT []))) ∧ ∀ i m H, W i m H →
      ((Itt K a).stop i H ∧ Qd H) ∨ ((Itt K a).go i H ∧ ∃ Nx : Hp → Prop, (∀ H', Nx H' → ∃ m', m' < m ∧ W (i + 1) m' H') ∧ ∀ x H', (Itt K a).yld i H x H' → g x (wipe σ vs) H' fun σ2 H2 => wipe σ2 vs = wipe σ vs ∧
        tk σ2 H2 fun y H4 => tv σ2 H4 fun z H5 => ∃ kvs k b, y = .ref b ∧ H5 b = some (.tup (k.map kV)) ∧ H5 D = some (.dT kvs) ∧ kvs.length < sizeLine ∧ Nx (upd H5 D (.dT (putK kvs k z)))) := by
  refine ⟨fun i m H => m = xs.length - i ∧ i ≤ xs.length ∧ Pv i H, ⟨xs.length, by simp, Nat.zero_le _, h0⟩, ?_⟩
  rintro i m H ⟨rfl, hi, p⟩
  have q := hl i H hi p
  by_cases hlt : i < xs.length
  · refine .inr ⟨⟨xs, xs[i], q, by simp [hlt]⟩, Pv (i + 1), fun H' p' => ⟨xs.length - (i + 1), by omega, rfl, hlt, p'⟩, fun x H' y => ?_⟩
    obtain ⟨e, y⟩ := y
    subst e
    exact hs i x _ (y xs q) p
  · have e : i = xs.length := by omega
    subst e
    exact .inl ⟨⟨xs, q, Nat.le_refl _⟩, hd H p⟩
theorem range_at {α : Type} {n i : Nat} {f : Nat → α} {x : α} (h : ((List.range n).map f)[i]? = some x) : i < n ∧ x = f i := by
  have hi : i < n := by have := (List.getElem?_eq_some_iff.mp h).1; simpa using this
  rw [List.getElem?_map, List.getElem?_range hi] at h
  exact ⟨hi, (Option.some.inj h).symm⟩
end Cu
/-! W14 -/
set_option Elab.async false
set_option linter.all false
set_option maxRecDepth 100000
set_option maxHeartbeats 0
namespace Cu
open PySem PySem.Spec PyProof.Rows L2
/-! a table -/
abbrev tFs (W H : Int) (pa : Addr) : List (Str × V) := [("width", V.int W), ("height", V.int H), ("pockets", V.ref pa)]
structure TabAt (C : Addr) (h : Hp) (a dx pa : Addr) (pk : Nat → Addr) (W H : Int) (ps : List (Int × Int)) : Prop where
  obj : h a = some (.ins C dx (tFs W H pa))
  pks : h pa = some (.tup ((List.range ps.length).map fun k => V.ref (pk k)))
  pk : PkAt h pk ps
  tab : Tab W H ps
  few : ps.length ≤ 12
  w1 : W ≤ 2 ^ 105
  h1 : H ≤ 2 ^ 105
theorem TabAt.same {C : Addr} {h h' : Hp} {a dx pa : Addr} {pk : Nat → Addr} {W H : Int} {ps : List (Int × Int)} (t : TabAt C h a dx pa pk W H ps) (s : Same h h') : TabAt C h' a dx pa pk W H ps :=
  ⟨s _ _ t.obj, s _ _ t.pks, fun k p e => s _ _ (t.pk k p e), t.tab, t.few, t.w1, t.h1⟩
/-- slanting_starts, straight_starts: what they tell -/
def spStarts (C : Addr) (val : Int → Int → List (Int × Int) → List Int) : Sp := fun vs H Q _ => ∃ (a dx pa : Addr) (pk : Nat → Addr) (W Hh : Int) (ps : List (Int × Int)), vs = [.ref a] ∧ TabAt C H a dx pa pk W Hh ps ∧
  ∀ H' p l qs, Same H H' → H' p = some (.tup [.ref l, .int (4 * (W + 1) * (Hh + 1) - (val W Hh ps).sum)]) → H' l = some (.lst (qs.map V.ref)) → qs.length = ps.length → TellAt H' pk (val W Hh ps) qs → Q (.ref p) H'
noncomputable def esB (W H : Int) (p : Int × Int) (k : Nat) (a : Int) : List En := (sides p.2 H).map fun b => (rnd W H a b, (minu W H a b, k))
theorem esOf_B (W H : Int) (p : Int × Int) (k : Nat) : esOf W H p k = (sides p.1 W).flatMap (esB W H p k) := rfl
theorem esB_len (W H : Int) (p : Int × Int) (k : Nat) (a : Int) : (esB W H p k a).length ≤ 2 := by unfold esB; rw [List.length_map]; exact sides_len ..
theorem esOf_len (W H : Int) (p : Int × Int) (k : Nat) : (esOf W H p k).length ≤ 4 := by
  have h1 := flat_len (f := esB W H p k) (c := 2) (fun a => esB_len W H p k a) (sides p.1 W)
  have h2 := sides_len p.1 W
  rw [esOf_B]; omega
noncomputable abbrev esU (W H : Int) (ps : List (Int × Int)) (i : Nat) : List En := (ps.zipIdx.take i).flatMap fun q => esOf W H q.1 q.2
theorem esU_len (W H : Int) (ps : List (Int × Int)) (i : Nat) : (esU W H ps i).length ≤ 4 * ps.length := by
  have h1 := flat_len (f := fun q : (Int × Int) × Nat => esOf W H q.1 q.2) (c := 4) (fun q => esOf_len W H q.1 q.2) (ps.zipIdx.take i)
  have h2 : (ps.zipIdx.take i).length ≤ ps.length := by rw [List.length_take, List.length_zipIdx]; omega
  have h3 := Nat.mul_le_mul_left 4 h2
  unfold esU
  omega
theorem esU_snoc {W H : Int} {ps : List (Int × Int)} {i : Nat} {p : Int × Int} (h : ps[i]? = some p) : esU W H ps (i + 1) = esU W H ps i ++ (sides p.1 W).flatMap (esB W H p i) := by
  unfold esU
  rw [flat_snoc (zip_at h)]
  rfl
theorem esU_all (W H : Int) (ps : List (Int × Int)) : esU W H ps ps.length = esS W H ps := by
  unfold esU esS
  rw [List.take_of_length_le (by rw [List.length_zipIdx]; omega)]
section
variable {P : Program} {w : World} {K : PySem.W.Frag} {mg : Str → Option Value} {base : Heap}
theorem c_slanting (T : Txt K mg) : Cal P w K mg base 5 "slanting_starts" ["table"] (spStarts (He.ga K "Table") slantN) := by
  obtain ⟨fd, F⟩ := T.d_slanting
  have nd := sc_slanting.nd
  have c_sides := c_sides (P := P) (w := w) (base := base) T
  have c_chinese := c_chinese (P := P) (w := w) (base := base) T
  have c_Round := c_Round (P := P) (w := w) (base := base) T
  have c_add := c_add (P := P) (w := w) (base := base) T
  have c_told := c_told (P := P) (w := w) (base := base) T
  refine ⟨_, fd, T.g_slanting_starts, F.ok sc_slanting (fun vs H Q E h => ?_) (fun cdv A outer s H vs Q E hr h => have hu := hu_of hr; ⟨_, PSs.nox (pss_cons (ps_par (i := 1) (j := 2) rfl nd rfl rfl (by decide) rfl rfl (pa_cons (pe_op op_mulW pe_int (pe_fld (pv 0) rfl)) (pa_cons (pe_op op_mulW pe_int (pe_fld (pv 0) rfl)) pa_nil)) rfl) (pss_cons (ps_set (i := 3) nd rfl (Or.inl rfl) (pe_callBfun cr_gcd rfl T.m_gcd (pa_cons (pv 1) (pa_cons (pv 2) pa_nil)))) (pss_cons (ps_set (i := 4) nd rfl (Or.inl rfl) pe_dnewK) (pss_cons (ps_for PassesOwn.never rfl (pi_tup (pe_fld (pv 0) rfl)) (pg_name (i := 5) nd rfl (Or.inl rfl)) (pss_one (ps_for PassesOwn.never rfl (pi_list (pe_fn c_sides (hr.mono (by decide)) rfl (pa_cons (pe_ix ix_tup (pv 5) pe_int (fun _ _ => rfl)) (pa_cons (pe_fld (pv 0) rfl) pa_nil)))) (pg_name (i := 6) nd rfl (Or.inl rfl)) (pss_one (ps_for PassesOwn.never rfl (pi_list (pe_fn c_sides (hr.mono (by decide)) rfl (pa_cons (pe_ix ix_tup (pv 5) pe_int (fun _ _ => rfl)) (pa_cons (pe_fld (pv 0) rfl) pa_nil)))) (pg_name (i := 7) nd rfl (Or.inl rfl)) (pss_cons (ps_set (i := 8) nd rfl (Or.inl rfl) (pe_op op_mod (pe_op op_sub (pv 6) (pv 7)) (pv 3))) (pss_cons (ps_asg (pe_fn c_chinese (hr.mono (by decide)) rfl (pa_cons (pe_tup (pa_cons (pe_op op_mod (pe_op op_sub (pv 6) (pv 8)) (pv 1)) (pa_cons (pv 1) pa_nil))) (pa_cons (pe_tup (pa_cons (pv 7) (pa_cons (pv 2) pa_nil))) pa_nil))) (pg_tup rfl (pgs_cons (pg_name (i := 9) nd rfl (Or.inl rfl)) (pgs_cons (pg_name (i := 10) nd rfl (Or.inl rfl)) pgs_nil)))) (pss_one (ps_expr (pe_bm PySem.F.plainAttrs_list PySem.F.slot_list_append PySem.F.type_list_append mt_append (pe_dsetd (pv 4) (pv 8) (pe_lst pa_nil) ⟨rfl, rfl, rfl, rfl⟩) (pa_cons (pe_tup (pa_cons (pv 9) (pa_cons (pv 5) pa_nil))) pa_nil))))))))))) (pss_cons (ps_setDcT (i := 11) (own := [("pocket", 5)]) (g := gName 5) hu rfl nd rfl rfl (sw_trueD rfl rfl rfl (by decide +kernel)) (pi_tup (pe_fld (pv 0) rfl)) (blkOk_by (N := ["table", "width", "height", "common", "rounds", "pocket", "across", "along", "first", "minute", "_", "numbers", "stands", "edges"]) (sc := defScope s_slanting) (own := [("pocket", 5)]) (by decide +kernel)) (fun _ _ _ _ _ => (pg_name (i := 5) nd rfl (Or.inl rfl))) (fun _ _ _ _ _ => (pv 5)) (fun _ _ _ _ _ => pe_int)) (pss_cons (ps_lock (ps_for PassesOwn.never rfl (pi_items (pv 4)) (pg_tup rfl (pgs_cons (pg_name (i := 8) nd rfl (Or.inl rfl)) (pgs_cons (pg_name (i := 12) nd rfl (Or.inl rfl)) pgs_nil))) (pss_cons (ps_set (i := 13) nd rfl (Or.inl rfl) (pe_lst (pa_cons (pe_tup (pa_cons (pe_op op_mod (pe_un un_neg (pv 8)) (pe_fld (pv 0) rfl)) (pa_cons (pe_fld (pv 0) rfl) pa_nil))) (pa_cons (pe_tup (pa_cons pe_int (pa_cons (pe_fld (pv 0) rfl) pa_nil))) pa_nil)))) (pss_one (ps_expr (pe_mth c_add (hr.mono (by decide)) (pe_mk c_Round (hr.mono (by decide)) rfl (pa_cons (pe_callBfun cr_lcm rfl T.m_lcm (pa_cons (pv 1) (pa_cons (pv 2) pa_nil))) (pa_cons (pv 13) pa_nil))) (pa_cons (pv 12) (pa_cons (pv 11) pa_nil)))))))) (pss_one (ps_ret (pe_fn c_told (hr.mono (by decide)) rfl (pa_cons (pv 0) (pa_cons (pv 11) (pa_cons (pe_op op_mulW (pe_op op_mulW pe_int (pe_op op_add (pe_fld (pv 0) rfl) pe_int)) (pe_op op_add (pe_fld (pv 0) rfl) pe_int)) pa_nil)))))))))))), ?_⟩), F.bindsN fun _ _ _ _ _ _ us hl => match us, hl with | [_], _ => rfl, F.kp⟩
  · obtain ⟨_, _, _, _, _, _, _, rfl, _⟩ := h
    rfl
  · obtain ⟨a, dx, pa, pk, W, Hh, ps, rfl, t, q⟩ := h
    have tW := t.tab.w
    have tH := t.tab.h
    have w1 := t.w1
    have h1 := t.h1
    refine ⟨_, rfl, _, _, _, _, _, rfl, t.obj, T.cl_Table, T.na_width, rfl, _, _, rfl, rfl, wmul (by omega) (by omega) (by omega) (by omega), ?_⟩
    refine ⟨_, rfl, _, _, _, _, _, rfl, t.obj, T.cl_Table, T.na_height, rfl, _, _, rfl, rfl, wmul (by omega) (by omega) (by omega) (by omega), _, _, rfl, ?_⟩
    refine ⟨_, rfl, _, rfl, 2 * W, 2 * Hh, rfl, ?_⟩
    rw [gcz]
    intro d nd0
    have g0 : 0 < cm W Hh := gc_pos (m := 2 * W) (n := 2 * Hh) (by omega)
    have sd : Same H (upd H d (.dK [])) := Same.laid nd0
    refine ⟨_, rfl, _, _, _, _, _, rfl, sd _ _ t.obj, T.cl_Table, T.na_pockets, rfl, _, rfl, ⟨_, SqT.of (sd _ _ t.pks)⟩, ?_⟩
    refine for_tup (xs := (List.range ps.length).map fun k => V.ref (pk k)) (fun i σ H' => Same H H' ∧ ∃ R, fgt R = grp (esU W Hh ps i) ∧ RAt (fun b => H b ≠ none) H' d (fun k => .ref (pk k)) R ∧
      ∃ q5 q6 q7 q8 q9 q10, σ = [some (.ref a), some (.int (2 * W)), some (.int (2 * Hh)), some (.int (cm W Hh)), some (.ref d), q5, q6, q7, q8, q9, q10, none, none, none])
      ⟨sd, [], rfl, RAt.nil upd_same, none, none, none, none, none, none, rfl⟩ (fun i σ H' _ h => SqT.of (h.1 _ _ t.pks)) ?_ ?_
    · rintro i x σ H1 hx ⟨s1, R, hR, rat, q5, q6, q7, q8, q9, q10, rfl⟩
      obtain ⟨hi, rfl⟩ := range_at hx
      have ep : ps[i]? = some ps[i] := List.getElem?_eq_getElem hi
      generalize ps[i] = p at ep
      have hk := t.pk i p ep
      have on := t.tab.on p (List.mem_of_getElem? ep)
      have hz := zip_at ep
      refine ⟨_, rfl, _, _, _, _, rfl, rfl, SqT.of (s1 _ _ hk), atI_nat (j := 0) rfl, _, rfl, _, _, _, _, _, rfl, s1 _ _ t.obj, T.cl_Table, T.na_width, rfl, ?_⟩
      refine ⟨_, _, rfl, on.1.1, on.1.2, tW, by omega, fun H2 pA nA => ⟨_, rfl, ⟨_, SqL.of nA.2.1⟩, ?_⟩⟩
      refine for_list (xs := (sides p.1 W).map V.int) (fun j σ H' => Same H H' ∧ H' pA = some (.lst ((sides p.1 W).map V.int)) ∧ ∃ R, fgt R = grp (esU W Hh ps i ++ ((sides p.1 W).take j).flatMap (esB W Hh p i)) ∧ RAt (fun b => H b ≠ none ∨ b = pA) H' d (fun k => .ref (pk k)) R ∧
        ∃ q6 q7 q8 q9 q10, σ = [some (.ref a), some (.int (2 * W)), some (.int (2 * Hh)), some (.int (cm W Hh)), some (.ref d), some (.ref (pk i)), q6, q7, q8, q9, q10, none, none, none])
        ⟨s1.trans nA.1, nA.2.1, R, by rw [hR]; simp, (rat.more nA.2.2).same nA.1, q6, q7, q8, q9, q10, rfl⟩ (fun j σ H' _ h => SqL.of h.2.1) ?_ ?_
      · rintro j x σ H3 hx ⟨s3, hA, R, hR, rat, q6, q7, q8, q9, q10, rfl⟩
        rw [List.getElem?_map] at hx
        obtain ⟨ac, eac, rfl⟩ := Option.map_eq_some_iff.mp hx
        refine ⟨_, rfl, _, _, _, _, rfl, rfl, SqT.of (s3 _ _ hk), atI_nat (j := 1) rfl, _, rfl, _, _, _, _, _, rfl, s3 _ _ t.obj, T.cl_Table, T.na_height, rfl, ?_⟩
        refine ⟨_, _, rfl, on.2.1, on.2.2, tH, by omega, fun H4 pB nB => ⟨_, rfl, ⟨_, SqL.of nB.2.1⟩, ?_⟩⟩
        have ab : pA ≠ pB := ne_of_none hA nB.2.2
        refine for_list (xs := (sides p.2 Hh).map V.int) (fun u σ H' => Same H H' ∧ H' pA = some (.lst ((sides p.1 W).map V.int)) ∧ H' pB = some (.lst ((sides p.2 Hh).map V.int)) ∧
          ∃ R, fgt R = grp (esU W Hh ps i ++ ((sides p.1 W).take j).flatMap (esB W Hh p i) ++ ((sides p.2 Hh).take u).map fun b => (rnd W Hh ac b, (minu W Hh ac b, i))) ∧ RAt (fun b => (H b ≠ none ∨ b = pA) ∨ b = pB) H' d (fun k => .ref (pk k)) R ∧
          ∃ q7 q8 q9 q10, σ = [some (.ref a), some (.int (2 * W)), some (.int (2 * Hh)), some (.int (cm W Hh)), some (.ref d), some (.ref (pk i)), some (.int ac), q7, q8, q9, q10, none, none, none])
          ⟨s3.trans nB.1, nB.1 _ _ hA, nB.2.1, R, by rw [hR]; simp, (rat.more nB.2.2).same nB.1, q7, q8, q9, q10, rfl⟩ (fun j σ H' _ h => SqL.of h.2.2.1) ?_ ?_
        · rintro u x σ H5 hx ⟨s5, hA5, hB5, R, hR, rat, q7, q8, q9, q10, rfl⟩
          rw [List.getElem?_map] at hx
          obtain ⟨al, eal, rfl⟩ := Option.map_eq_some_iff.mp hx
          have ma := (mem_sides on.1.1 on.1.2 tW).mp (List.mem_of_getElem? eac)
          have mb := (mem_sides on.2.1 on.2.2 tH).mp (List.mem_of_getElem? eal)
          refine ⟨_, rfl, _, rfl, _, _, rfl, rfl, _, rfl, _, _, rfl, rfl, g0, ?_⟩
          have rl := rnd_lt (H := Hh) (a := ac) (b := al) tW
          have cW : cm W Hh ≤ 2 * W := Int.le_of_dvd (by omega) (gc_l ..)
          refine ⟨_, rfl, _, rfl, _, _, rfl, rfl, _, rfl, _, _, rfl, rfl, (by show 0 < 2 * W; omega), _, rfl, len2, fun t1 nt1 => ?_⟩
          refine ⟨_, rfl, _, rfl, len2, fun t2 nt2 => ?_⟩
          have n12 : t1 ≠ t2 := ne_of_none upd_same nt2
          have e0 := Int.emod_nonneg (ac - rnd W Hh ac al) (show 2 * W ≠ 0 by omega)
          have e1 := Int.emod_lt_of_pos (ac - rnd W Hh ac al) (show 0 < 2 * W by omega)
          refine ⟨t1, t2, (ac - rnd W Hh ac al) % (2 * W), 2 * W, al, 2 * Hh, rfl, SqT.of (by rw [upd_ne n12, upd_same]; rfl), SqT.of upd_same, ⟨by omega, by omega⟩, ⟨by omega, by omega⟩, ⟨by omega, by omega⟩, ⟨by omega, by omega⟩, fun hd => absurd (minu_agree tW) hd, fun _ H6 t3 s6 ht3 => ?_⟩
          refine ⟨_, _, rfl, SqT.of ht3, rfl, _, _, rfl, _, _, rfl, rfl, ?_⟩
          have s56 : Same H5 H6 := ((Same.laid nt1).trans (Same.laid nt2)).trans s6
          have rat6 := rat.same s56
          have nk := nk_of (x := (rnd W Hh ac al, (minu W Hh ac al, i))) hR
          have es_len : (esU W Hh ps i ++ ((sides p.1 W).take j).flatMap (esB W Hh p i) ++ ((sides p.2 Hh).take u).map fun b => (rnd W Hh ac b, (minu W Hh ac b, i))).length ≤ 60 := by
            have l1 := esU_len W Hh ps i
            have l2 := flat_len (f := esB W Hh p i) (c := 2) (fun a => esB_len W Hh p i a) ((sides p.1 W).take j)
            have l3 := sides_len p.1 W
            have l4 := sides_len p.2 Hh
            have l5 := t.few
            have l6 : ((sides p.1 W).take j).length ≤ 2 := by rw [List.length_take]; omega
            rw [List.length_append, List.length_append, List.length_map, List.length_take]
            omega
          obtain ⟨z1, z2⟩ := R_small hR
          have fin : ∀ H9 R9 tt, RAt (fun b => (H b ≠ none ∨ b = pA) ∨ b = pB) H9 d (fun k => .ref (pk k)) R9 → (∃ l, R9 = updR R (rnd W Hh ac al) l (tt, (minu W Hh ac al, i))) → (∀ b o, ((H b ≠ none ∨ b = pA) ∨ b = pB) → b ≠ d → H6 b = some o → H9 b = some o) →
              (Same H H9 ∧ H9 pA = some (.lst ((sides p.1 W).map V.int)) ∧ H9 pB = some (.lst ((sides p.2 Hh).map V.int)) ∧
              ∃ R, fgt R = grp (esU W Hh ps i ++ ((sides p.1 W).take j).flatMap (esB W Hh p i) ++ ((sides p.2 Hh).take (u + 1)).map fun b => (rnd W Hh ac b, (minu W Hh ac b, i))) ∧ RAt (fun b => (H b ≠ none ∨ b = pA) ∨ b = pB) H9 d (fun k => .ref (pk k)) R) := fun H9 R9 tt r9 ⟨l, e9⟩ k9 => by
            have ds : ∀ b o, H5 b = some o → o ≠ HO.dK (kvR R) → b ≠ d := fun b o e ne => ne_of e rat.dic ne
            refine ⟨fun b o e => k9 b o (.inl (.inl (by rw [e]; simp))) (ne_of_none e nd0) (s56 _ _ (s5 _ _ e)), k9 _ _ (.inl (.inr rfl)) (ds _ _ hA5 (by intro z; cases z)) (s56 _ _ hA5), k9 _ _ (.inr rfl) (ds _ _ hB5 (by intro z; cases z)) (s56 _ _ hB5), R9, ?_, r9⟩
            rw [e9, fgt_upd, hR, take_snoc eal, List.map_append, ← List.append_assoc]
            exact (grp_snoc _ (rnd W Hh ac al, (minu W Hh ac al, i))).symm
          refine ⟨_, rfl, d, rfl, .inl ⟨_, .inl rat6.dic⟩, _, rfl, (by show 0 ≤ sizeLine; decide), fun p1 np1 => ⟨kvR R, .inl (rnd W Hh ac al), by rw [upd_ne (ne_of_none rat6.dic np1)]; exact rat6.dic, rfl, small_len (by unfold kvR; rw [List.length_map]; omega), fun v hv => ?_, fun hv => ?_⟩⟩
          · rcases kvR_val (rnd W Hh ac al) R with ⟨g1, _, _⟩ | ⟨y, g1, g2, g3, g4⟩
            · rw [g1] at hv; cases hv
            · have ev : V.ref y.2.1 = v := Option.some.inj (g3.symm.trans hv)
              subst ev
              have ly := (Same.laid (o := HO.lst []) np1) _ _ (rat6.ls y g1).1
              refine ⟨.inl ⟨rfl, _, SqL.of ly⟩, _, rfl, _, rfl, len2, fun tt ntt => ⟨_, _, _, rfl, rfl, (Same.laid ntt) _ _ ly, small_len (by rw [List.length_map]; have := z2 y g1; omega), ?_⟩⟩
              obtain ⟨r9, k9⟩ := rat6.app1 (m := minu W Hh ac al) (k := i) g1 g2 g4 nk np1 ntt
              obtain ⟨c1, c2, c3, R', c4, c5⟩ := fin _ _ tt r9 ⟨_, rfl⟩ k9
              exact ⟨c1, c2, c3, R', c4, c5, _, _, _, _, rfl⟩
          · rcases kvR_val (rnd W Hh ac al) R with ⟨g1, g2, g3⟩ | ⟨y, _, _, g3, _⟩
            · have nd1 : d ≠ p1 := ne_of_none rat6.dic np1
              have lp : (upd (upd H6 p1 (.lst [])) d (.dK (putK (kvR R) (.inl (rnd W Hh ac al)) (.ref p1)))) p1 = some (.lst []) := by rw [upd_ne nd1.symm, upd_same]
              refine ⟨.inl ⟨rfl, _, SqL.of lp⟩, _, rfl, _, rfl, len2, fun tt ntt => ⟨_, _, _, rfl, rfl, (Same.laid ntt) _ _ lp, by show 0 < sizeLine; decide, ?_⟩⟩
              have zf : ∀ b, ((H b ≠ none ∨ b = pA) ∨ b = pB) → H6 b ≠ none := fun b hb => by
                rcases hb with (hb | hb) | hb
                · cases e : H b with
                  | none => exact absurd e hb
                  | some o => rw [s56 _ _ (s5 _ _ e)]; simp
                · rw [hb, s56 _ _ hA5]; simp
                · rw [hb, s56 _ _ hB5]; simp
              obtain ⟨r9, k9⟩ := rat6.app0 (m := minu W Hh ac al) (k := i) g3 nk zf np1 ntt
              obtain ⟨c1, c2, c3, R', c4, c5⟩ := fin _ _ tt r9 ⟨_, rfl⟩ k9
              exact ⟨c1, c2, c3, R', c4, c5, _, _, _, _, rfl⟩
            · rw [g3] at hv; cases hv
        · rintro σ H6 ⟨s6, hA6, hB6, R, hR, rat, q7, q8, q9, q10, rfl⟩
          refine ⟨s6, hA6, R, ?_, rat.less fun b hb => .inl hb, _, _, _, _, _, rfl⟩
          rw [hR, List.length_map, List.take_length, flat_snoc eac, List.append_assoc]
          rfl
      · rintro σ H6 ⟨s6, hA6, R, hR, rat, q6, q7, q8, q9, q10, rfl⟩
        refine ⟨s6, R, ?_, rat.less fun b hb => .inl hb, _, _, _, _, _, _, rfl⟩
        rw [hR, List.length_map, List.take_length, esU_snoc ep]
    · rintro σ H1 ⟨s1, R, hR, rat, q5, q6, q7, q8, q9, q10, rfl⟩
      rw [List.length_map, List.length_range, esU_all] at hR
      refine ⟨_, rfl, _, _, _, _, _, rfl, s1 _ _ t.obj, T.cl_Table, T.na_pockets, rfl, _, rfl, ⟨_, SqT.of (s1 _ _ t.pks)⟩, fun nb nnb => ?_⟩
      refine dct_tup (xs := (List.range ps.length).map fun k => V.ref (pk k)) (fun i H' => Same H1 H' ∧ H' nb = some (.dT (ents (ps.take i) (List.replicate i 0)))) ⟨Same.laid nnb, by rw [upd_same]; rfl⟩ (fun i H' _ h => SqT.of (h.1 _ _ (s1 _ _ t.pks))) ?_ ?_
      · rintro i x H2 hx ⟨s2, hn2⟩
        obtain ⟨hi, rfl⟩ := range_at hx
        have ep : ps[i]? = some ps[i] := List.getElem?_eq_getElem hi
        refine ⟨rfl, _, rfl, _, keyP ps[i], pk i, rfl, s2 _ _ (s1 _ _ (t.pk i _ ep)), hn2, small_len ?_, Same.off s2 nnb, ?_⟩
        · have q1 := ents_len (ps := ps.take i) (f := List.replicate i 0)
          have q2 := t.few
          rw [List.length_take] at q1
          omega
        · rw [upd_same]
          exact congrArg some (congrArg HO.dT (ents_snoc t.tab.nd ep))
      · rintro H2 ⟨s2, hn2⟩
        rw [List.length_map, List.length_range, List.take_length] at hn2
        have s12 := s1.trans s2
        have d2 : H2 d = some (.dK (kvR R)) := s2 _ _ rat.dic
        have ndb : d ≠ nb := ne_of_none rat.dic nnb
        refine ⟨d, .dK (kvR R), d2, trivial, fun od => ?_⟩
        have sz : ∀ b o, b ≠ d → H2 b = some o → upd H2 d (.frz od (.dK (kvR R))) b = some o := fun b o n e => by rw [upd_ne n]; exact e
        have nb3 : upd H2 d (.frz od (.dK (kvR R))) nb = some (.dT (ents ps (List.replicate ps.length 0))) := sz _ _ ndb.symm hn2
        have fam := famS t.tab
        have ggd := grp_good (esS W Hh ps)
        refine ⟨_, rfl, d, od, kvR R, rfl, upd_same, ?_⟩
        refine for_it walk_items (fun i σ H' => SameBut nb (upd H2 d (.frz od (.dK (kvR R)))) H' ∧ H' nb = some (.dT (ents ps (allR (fun r => gapS (wS W Hh r) (sS W Hh ps r) (fuel W Hh)) ((grp (esS W Hh ps)).take i) (List.replicate ps.length 0)))) ∧
          ∃ q5 q6 q7 q8 q9 q10 q12 q13, σ = [some (.ref a), some (.int (2 * W)), some (.int (2 * Hh)), some (.int (cm W Hh)), some (.ref d), q5, q6, q7, q8, q9, q10, some (.ref nb), q12, q13])
          ⟨Same.but (Same.refl _), nb3, _, _, _, _, _, _, none, none, rfl⟩ (fun i σ H' _ h => h.1 _ _ ndb upd_same) ?_ ?_
        · rintro i x σ H3 H4 hi ⟨s3, hn3, q5, q6, q7, q8, q9, q10, q12, q13, rfl⟩ ⟨tt, xk, xv, rfl, ntt, rfl, e1, e2⟩
          have hiR : i < R.length := by unfold kvR at hi; rwa [List.length_map] at hi
          have eR : R[i]? = some R[i] := List.getElem?_eq_getElem hiR
          have hxR : R[i] ∈ R := List.getElem_mem hiR
          generalize R[i] = x at eR hxR
          have ek : (kvR R)[i]? = some (Sum.inl x.1, V.ref x.2.1) := by unfold kvR; rw [List.getElem?_map, eR]; rfl
          have e1 : (kvR R)[i]?.map (fun kv => kV kv.1) = some xk := e1
          have e2 : (kvR R)[i]?.map Prod.snd = some xv := e2
          rw [ek] at e1 e2
          have e1' : V.int x.1 = xk := Option.some.inj e1
          have e2' : V.ref x.2.1 = xv := Option.some.inj e2
          subst e1' e2'
          have eg : (grp (esS W Hh ps))[i]? = some (x.1, x.2.2.map (·.2)) := by rw [← hR]; unfold fgt; rw [List.getElem?_map, eR]; rfl
          have hmg := List.mem_of_getElem? eg
          have hsel : x.2.2.map (·.2) = sel (esS W Hh ps) x.1 := ggd.eq _ hmg
          have hex : ∃ e, (x.1, e) ∈ esS W Hh ps := (ggd.key x.1).mp (List.mem_map_of_mem (f := (·.1)) hmg)
          obtain ⟨lx1, lx2⟩ := rat.ls x hxR
          have kk : ∀ b o, b ≠ nb → b ≠ d → H1 b = some o → upd H3 tt (.tup [.int x.1, .ref x.2.1]) b = some o := fun b o n1 n2 e => Same.laid ntt _ _ (s3 _ _ n1 (sz _ _ n2 (s2 _ _ e)))
          have kt : ∀ b xs, H1 b = some (.tup xs) → upd H3 tt (.tup [.int x.1, .ref x.2.1]) b = some (.tup xs) := fun b xs e => kk _ _ (ne_of_none e nnb) (ne_of e rat.dic (by intro z; cases z)) e
          have ka : upd H3 tt (.tup [.int x.1, .ref x.2.1]) a = some (.ins (He.ga K "Table") dx (tFs W Hh pa)) := kk _ _ (ne_of_none (s1 _ _ t.obj) nnb) (ne_of (s1 _ _ t.obj) rat.dic (by intro z; cases z)) (s1 _ _ t.obj)
          refine ⟨_, _, rfl, SqT.of upd_same, rfl, _, _, rfl, _, _, rfl, rfl, ?_⟩
          have kn : upd H3 tt (.tup [.int x.1, .ref x.2.1]) nb = _ := (Same.laid ntt) _ _ hn3
          have s35 : Same H3 (upd H3 tt (.tup [.int x.1, .ref x.2.1])) := Same.laid ntt
          generalize upd H3 tt (.tup [.int x.1, .ref x.2.1]) = H5 at kk kt ka kn s35
          refine ⟨_, rfl, _, rfl, _, rfl, _, _, _, _, _, rfl, ka, T.cl_Table, T.na_width, rfl, _, _, rfl, rfl, tW, _, rfl, _, _, _, _, _, rfl, ka, T.cl_Table, T.na_width, rfl, len2, fun t1 nt1 => ?_⟩
          refine ⟨_, rfl, _, _, _, _, _, rfl, (Same.laid nt1) _ _ ka, T.cl_Table, T.na_height, rfl, len2, fun t2 nt2 => ⟨len2, fun e ne => ?_⟩⟩
          have n12 : t1 ≠ t2 := ne_of_none upd_same nt2
          have n1e : t1 ≠ e := ne_of_none (by rw [upd_ne n12, upd_same]) ne
          have n2e : t2 ≠ e := ne_of_none upd_same ne
          have s56 := ((Same.laid nt1).trans (Same.laid nt2)).trans (Same.laid (o := .lst [V.ref t1, V.ref t2]) ne)
          have g1 : upd (upd (upd H5 t1 (.tup [.int (-x.1 % W), .int W])) t2 (.tup [.int 0, .int Hh])) e (.lst [V.ref t1, V.ref t2]) t1 = some (.tup [.int (-x.1 % W), .int W]) := by rw [upd_ne n1e, upd_ne n12, upd_same]
          have g2 : upd (upd (upd H5 t1 (.tup [.int (-x.1 % W), .int W])) t2 (.tup [.int 0, .int Hh])) e (.lst [V.ref t1, V.ref t2]) t2 = some (.tup [.int 0, .int Hh]) := by rw [upd_ne n2e, upd_same]
          have g3 : upd (upd (upd H5 t1 (.tup [.int (-x.1 % W), .int W])) t2 (.tup [.int 0, .int Hh])) e (.lst [V.ref t1, V.ref t2]) e = some (.lst [V.ref t1, V.ref t2]) := upd_same
          have bw : 2 * W < 2 ^ 200 := by omega
          have bh : 2 * Hh < 2 ^ 200 := by omega
          refine ⟨_, rfl, _, rfl, 2 * W, 2 * Hh, rfl, ⟨by omega, bw⟩, ⟨by omega, bh⟩, _, rfl, fun y dy ny ndy ney => ⟨y, dy, e, lc (2 * W) (2 * Hh), rfl, upd_same, rfl, ?_⟩⟩
          have s67 : Same (upd (upd (upd H5 t1 (.tup [.int (-x.1 % W), .int W])) t2 (.tup [.int 0, .int Hh])) e (.lst [V.ref t1, V.ref t2]))
              (upd (upd (upd (upd (upd (upd (upd H5 t1 (.tup [.int (-x.1 % W), .int W])) t2 (.tup [.int 0, .int Hh])) e (.lst [V.ref t1, V.ref t2])) dy (.own y)) y (.ins (He.ga K "Round") dy [])) y (.ins (He.ga K "Round") dy [("length", V.int (lc (2 * W) (2 * Hh)))])) y (.ins (He.ga K "Round") dy (rFs (lc (2 * W) (2 * Hh)) e))) := fun b o eb => by
            have n1 : b ≠ y := ne_of_none eb ny
            have n2 : b ≠ dy := ne_of_none eb ndy
            rw [upd_ne n1, upd_ne n1, upd_ne n1, upd_ne n2]
            exact eb
          have s57 := s56.trans s67
          have cl1 : Cl (-x.1 % W, W) := ⟨Int.emod_nonneg _ (Int.ne_of_gt tW), Int.emod_lt_of_pos _ tW⟩
          have cl2 : Cl (0, Hh) := ⟨Int.le_refl _, tH⟩
          refine ⟨y, dy, _, rfl, upd_same, rfl, _, rfl, _, rfl, y, dy, e, x.2.1, nb, lc (2 * W) (2 * Hh), [V.ref t1, V.ref t2], [(-x.1 % W, W), (0, Hh)], ps, x.2.2, pk, _, rfl, upd_same, s67 _ _ g3, ?_, .inr ⟨_, _, rfl, ⟨cl1, by show W ≤ _; omega⟩, cl2, by show Hh ≤ _; omega⟩, ?_, ?_, ?_, t.tab.nd, ?_, ?_, ?_, ?_, ?_, s57 _ _ kn, ?_⟩
          · exact .cons ⟨t1, rfl, s67 _ _ g1⟩ (.cons ⟨t2, rfl, s67 _ _ g2⟩ .nil)
          · exact s57 _ _ (kk _ _ (ne_of_none lx1 nnb) (ne_of lx1 rat.dic (by intro z; cases z)) lx1)
          · exact fun b hb => s57 _ _ (kt _ _ (lx2 b hb))
          · exact fun k p ek => s57 _ _ (kt _ _ (s1 _ _ (t.pk k p ek)))
          · intro b hb
            have hm : b.2 ∈ sel (esS W Hh ps) x.1 := by rw [← hsel]; exact List.mem_map_of_mem hb
            have := fam.mem _ (mem_sel.mp hm)
            exact ⟨this.1, this.2.2⟩
          · intro z
            obtain ⟨e0, he0⟩ := hex
            have := mem_sel.mpr he0
            rw [← hsel, z] at this
            cases this
          · have := t.few; omega
          · exact Int.le_of_lt fam.pos
          · rw [allR_len, List.length_replicate]
          · intro st' H8 pm pw sb hn8
            refine ⟨SameBut.trans s3 (SameBut.trans (Same.but (s35.trans s57)) sb), ?_, _, _, _, _, _, _, _, _, rfl⟩
            rw [hn8, take_snoc eg, allR_snoc]
            refine congrArg some (congrArg HO.dT (congrArg (ents ps) ?_))
            rw [wE_slant tW]
            have := fam.turn hex (hsel ▸ pm) pw (allR (fun r => gapS (wS W Hh r) (sS W Hh ps r) (fuel W Hh)) ((grp (esS W Hh ps)).take i) (List.replicate ps.length 0))
            rw [hsel]
            exact this
        · rintro σ H3 ⟨s3, hn3, q5, q6, q7, q8, q9, q10, q12, q13, rfl⟩
          refine ⟨s3 _ _ ndb upd_same, ?_⟩
          have hl : (kvR R).length = (grp (esS W Hh ps)).length := by rw [← hR]; unfold kvR fgt; rw [List.length_map, List.length_map]
          rw [hl, List.take_length, slant_alg t.tab] at hn3
          have sf : Same H (upd H3 d (.dK (kvR R))) := fun b o eb => by
            have n1 : b ≠ d := ne_of_none eb nd0
            have n2 : b ≠ nb := ne_of_none (s1 _ _ eb) nnb
            rw [upd_ne n1]
            exact s3 _ _ n2 (sz _ _ n1 (s12 _ _ eb))
          have tf := t.same sf
          have hn4 : upd H3 d (.dK (kvR R)) nb = some (.dT (ents ps (slantN W Hh ps))) := by rw [upd_ne ndb.symm]; exact hn3
          refine ⟨_, rfl, _, rfl, _, rfl, _, _, _, _, _, rfl, tf.obj, T.cl_Table, T.na_width, rfl, _, _, rfl, rfl, _, _, rfl, rfl, wmul (by omega) (by omega) (by omega) (by omega), ?_⟩
          refine ⟨_, rfl, _, _, _, _, _, rfl, tf.obj, T.cl_Table, T.na_height, rfl, _, _, rfl, rfl, _, _, rfl, rfl, wmul (by omega) (by omega) (by omega) (by omega), ?_⟩
          refine ⟨a, dx, pa, nb, _, _, ps, pk, slantN W Hh ps, rfl, tf.obj, rfl, tf.pks, tf.pk, t.tab.nd, by have := t.few; omega, ?_, hn4, fun H' p l qs sl hp hq hql ht => q H' p l qs (sf.trans sl) hp hq hql ht⟩
          unfold slantN
          exact List.length_map ..
end
end Cu
/-! W15 -/
set_option Elab.async false
set_option linter.all false
set_option maxRecDepth 100000
set_option maxHeartbeats 0
namespace Cu
open PySem PySem.Spec PyProof.Rows L2
abbrev esV (N : Int) (mv fx : Int × Int → Int) (ps : List (Int × Int)) (i : Nat) : List En := (ps.zipIdx.take i).flatMap fun q => esOf1 N mv fx q.1 q.2
theorem esV_len (N : Int) (mv fx : Int × Int → Int) (ps : List (Int × Int)) (i : Nat) : (esV N mv fx ps i).length ≤ 2 * ps.length := by
  have h1 := flat_len (f := fun q : (Int × Int) × Nat => esOf1 N mv fx q.1 q.2) (c := 2) (fun q => by unfold esOf1; rw [List.length_map]; exact sides_len ..) (ps.zipIdx.take i)
  have h2 : (ps.zipIdx.take i).length ≤ ps.length := by rw [List.length_take, List.length_zipIdx]; omega
  have h3 := Nat.mul_le_mul_left 2 h2
  unfold esV
  omega
theorem esV_snoc {N : Int} {mv fx : Int × Int → Int} {ps : List (Int × Int)} {i : Nat} {p : Int × Int} (h : ps[i]? = some p) : esV N mv fx ps (i + 1) = esV N mv fx ps i ++ (sides (mv p) N).map fun a => (fx p, (a, i)) := by
  unfold esV
  rw [flat_snoc (zip_at h)]
  rfl
theorem esV_all (N : Int) (mv fx : Int × Int → Int) (ps : List (Int × Int)) : esV N mv fx ps ps.length = esT N mv fx ps := by
  unfold esV esT
  rw [List.take_of_length_le (by rw [List.length_zipIdx]; omega)]
noncomputable def fI (W H : Int) (ps : List (Int × Int)) : Nat → List Int
  | 0 => List.replicate ps.length 0
  | 1 => goT W (·.1) (·.2) ps (List.replicate ps.length 0)
  | _ => straightN W H ps
theorem fI_len (W H : Int) (ps : List (Int × Int)) : ∀ i, (fI W H ps i).length = ps.length
  | 0 => List.length_replicate ..
  | 1 => by show (goT W _ _ ps _).length = _; rw [allR_len, List.length_replicate]
  | _ + 2 => by show (straightN W H ps).length = _; unfold straightN; exact List.length_map ..
section
variable {P : Program} {w : World} {K : PySem.W.Frag} {mg : Str → Option Value} {base : Heap}
theorem c_straight (T : Txt K mg) : Cal P w K mg base 5 "straight_starts" ["table"] (spStarts (He.ga K "Table") straightN) := by
  obtain ⟨fd, F⟩ := T.d_straight
  have nd := sc_straight.nd
  have c_sides := c_sides (P := P) (w := w) (base := base) T
  have c_Round := c_Round (P := P) (w := w) (base := base) T
  have c_add := c_add (P := P) (w := w) (base := base) T
  have c_told := c_told (P := P) (w := w) (base := base) T
  refine ⟨_, fd, T.g_straight_starts, F.ok sc_straight (fun vs H Q E h => ?_) (fun cdv A outer s H vs Q E hr h => have hu := hu_of hr; ⟨_, PSs.nox (pss_cons (ps_setDcT (i := 1) (own := [("pocket", 5)]) (g := gName 5) hu rfl nd rfl rfl (sw_trueD rfl rfl rfl (by decide +kernel)) (pi_tup (pe_fld (pv 0) rfl)) (blkOk_by (N := ["table", "numbers", "part", "size", "rows", "pocket", "minute", "stands"]) (sc := defScope s_straight) (own := [("pocket", 5)]) (by decide +kernel)) (fun _ _ _ _ _ => (pg_name (i := 5) nd rfl (Or.inl rfl))) (fun _ _ _ _ _ => (pv 5)) (fun _ _ _ _ _ => pe_int)) (pss_cons (ps_for PassesOwn.never rfl (pi_tup (pe_tup (pa_cons (pe_tup (pa_cons pe_int (pa_cons (pe_fld (pv 0) rfl) pa_nil))) (pa_cons (pe_tup (pa_cons pe_int (pa_cons (pe_fld (pv 0) rfl) pa_nil))) pa_nil)))) (pg_tup rfl (pgs_cons (pg_name (i := 2) nd rfl (Or.inl rfl)) (pgs_cons (pg_name (i := 3) nd rfl (Or.inl rfl)) pgs_nil))) (pss_cons (ps_set (i := 4) nd rfl (Or.inl rfl) pe_dnewK) (pss_cons (ps_for PassesOwn.never rfl (pi_tup (pe_fld (pv 0) rfl)) (pg_name (i := 5) nd rfl (Or.inl rfl)) (pss_one (ps_for PassesOwn.never rfl (pi_list (pe_fn c_sides (hr.mono (by decide)) rfl (pa_cons (pe_ix ix_tup (pv 5) (pv 2) (fun _ _ => rfl)) (pa_cons (pv 3) pa_nil)))) (pg_name (i := 6) nd rfl (Or.inl rfl)) (pss_one (ps_expr (pe_bm PySem.F.plainAttrs_list PySem.F.slot_list_append PySem.F.type_list_append mt_append (pe_dsetd (pv 4) (pe_ix ix_tup (pv 5) (pe_op op_sub pe_int (pv 2)) (fun _ _ => rfl)) (pe_lst pa_nil) ⟨rfl, rfl, rfl, rfl⟩) (pa_cons (pe_tup (pa_cons (pv 6) (pa_cons (pv 5) pa_nil))) pa_nil))))))) (pss_one (ps_lock (ps_for PassesOwn.never rfl (pi_values (pv 4)) (pg_name (i := 7) nd rfl (Or.inl rfl)) (pss_one (ps_expr (pe_mth c_add (hr.mono (by decide)) (pe_mk c_Round (hr.mono (by decide)) rfl (pa_cons (pe_op op_mulW pe_int (pv 3)) (pa_cons (pe_lst (pa_cons (pe_tup (pa_cons pe_int (pa_cons (pv 3) pa_nil))) pa_nil)) pa_nil))) (pa_cons (pv 7) (pa_cons (pv 1) pa_nil))))))))))) (pss_one (ps_ret (pe_fn c_told (hr.mono (by decide)) rfl (pa_cons (pv 0) (pa_cons (pv 1) (pa_cons (pe_op op_mulW (pe_op op_mulW pe_int (pe_op op_add (pe_fld (pv 0) rfl) pe_int)) (pe_op op_add (pe_fld (pv 0) rfl) pe_int)) pa_nil)))))))), ?_⟩), F.bindsN fun _ _ _ _ _ _ us hl => match us, hl with | [_], _ => rfl, F.kp⟩
  · obtain ⟨_, _, _, _, _, _, _, rfl, _⟩ := h
    rfl
  · obtain ⟨a, dx, pa, pk, W, Hh, ps, rfl, t, q⟩ := h
    have tW := t.tab.w
    have tH := t.tab.h
    have w1' := t.w1
    have h1' := t.h1
    refine ⟨_, rfl, _, _, _, _, _, rfl, t.obj, T.cl_Table, T.na_pockets, rfl, _, rfl, ⟨_, SqT.of t.pks⟩, fun nb nnb => ?_⟩
    refine dct_tup (xs := (List.range ps.length).map fun k => V.ref (pk k)) (fun i H' => Same H H' ∧ H' nb = some (.dT (ents (ps.take i) (List.replicate i 0)))) ⟨Same.laid nnb, by rw [upd_same]; rfl⟩ (fun i H' _ h => SqT.of (h.1 _ _ t.pks)) ?_ ?_
    · rintro i x H2 hx ⟨s2, hn2⟩
      obtain ⟨hi, rfl⟩ := range_at hx
      have ep : ps[i]? = some ps[i] := List.getElem?_eq_getElem hi
      refine ⟨rfl, _, rfl, _, keyP ps[i], pk i, rfl, s2 _ _ (t.pk i _ ep), hn2, small_len ?_, Same.off s2 nnb, ?_⟩
      · have q1 := ents_len (ps := ps.take i) (f := List.replicate i 0)
        have q2 := t.few
        rw [List.length_take] at q1
        omega
      · rw [upd_same]
        exact congrArg some (congrArg HO.dT (ents_snoc t.tab.nd ep))
    · rintro H0 ⟨s0, hn0⟩
      rw [List.length_map, List.length_range, List.take_length] at hn0
      have t0 := t.same s0
      -- the two parts
      refine ⟨_, rfl, _, _, _, _, _, rfl, t0.obj, T.cl_Table, T.na_width, rfl, len2, fun t1 nt1 => ?_⟩
      refine ⟨_, rfl, _, _, _, _, _, rfl, (Same.laid nt1) _ _ t0.obj, T.cl_Table, T.na_height, rfl, len2, fun t2 nt2 => ⟨len2, fun tp ntp => ⟨_, rfl, ⟨_, SqT.of upd_same⟩, ?_⟩⟩⟩
      have n12 : t1 ≠ t2 := ne_of_none upd_same nt2
      have n1e : t1 ≠ tp := ne_of_none (by rw [upd_ne n12, upd_same]) ntp
      have n2e : t2 ≠ tp := ne_of_none upd_same ntp
      have ss := ((Same.laid nt1).trans (Same.laid nt2)).trans (Same.laid (o := .tup [V.ref t1, V.ref t2]) ntp)
      have g1 : upd (upd (upd H0 t1 (.tup [.int 0, .int W])) t2 (.tup [.int 1, .int Hh])) tp (.tup [V.ref t1, V.ref t2]) t1 = some (.tup [.int 0, .int W]) := by rw [upd_ne n1e, upd_ne n12, upd_same]
      have g2 : upd (upd (upd H0 t1 (.tup [.int 0, .int W])) t2 (.tup [.int 1, .int Hh])) tp (.tup [V.ref t1, V.ref t2]) t2 = some (.tup [.int 1, .int Hh]) := by rw [upd_ne n2e, upd_same]
      have g3 : upd (upd (upd H0 t1 (.tup [.int 0, .int W])) t2 (.tup [.int 1, .int Hh])) tp (.tup [V.ref t1, V.ref t2]) tp = some (.tup [V.ref t1, V.ref t2]) := upd_same
      have t3 := t0.same ss
      have hn3 := ss _ _ hn0
      have nT : ∀ b xs, upd (upd (upd H0 t1 (.tup [.int 0, .int W])) t2 (.tup [.int 1, .int Hh])) tp (.tup [V.ref t1, V.ref t2]) b = some (.tup xs) → b ≠ nb := fun b xs e => ne_of e hn3 (by intro z; cases z)
      have s03 := s0.trans ss
      generalize upd (upd (upd H0 t1 (.tup [.int 0, .int W])) t2 (.tup [.int 1, .int Hh])) tp (.tup [V.ref t1, V.ref t2]) = Hs at ss g1 g2 g3 t3 hn3 nT s03
      refine for_tup (xs := [V.ref t1, V.ref t2]) (fun i σ H' => SameBut nb Hs H' ∧ H' nb = some (.dT (ents ps (fI W Hh ps i))) ∧ ∃ q2 q3 q4 q5 q6 q7, σ = [some (.ref a), some (.ref nb), q2, q3, q4, q5, q6, q7])
        ⟨Same.but (Same.refl _), hn3, none, none, none, none, none, none, rfl⟩ (fun i σ H' _ h => SqT.of (h.1 _ _ (nT _ _ g3) g3)) ?_ ?_
      · rintro i x σ H1 hx ⟨s1, hn1, q2, q3, q4, q5, q6, q7, rfl⟩
        have part : ∃ (tt : Addr) (z N : Int) (mv fx : Int × Int → Int), x = V.ref tt ∧ Hs tt = some (.tup [.int z, .int N]) ∧ Tab1 N mv fx ps ∧ N ≤ 2 ^ 105 ∧ (∀ p : Int × Int, atI [V.int p.1, V.int p.2] z = some (.int (mv p))) ∧ (∀ p : Int × Int, atI [V.int p.1, V.int p.2] (1 - z) = some (.int (fx p))) ∧ fI W Hh ps (i + 1) = goT N mv fx ps (fI W Hh ps i) := by
          match i, hx with
          | 0, hx =>
            exact ⟨t1, 0, W, (·.1), (·.2), (Option.some.inj hx).symm, g1, t.tab.one, w1', fun p => atI_nat (j := 0) rfl, fun p => atI_nat (j := 1) rfl, rfl⟩
          | 1, hx =>
            exact ⟨t2, 1, Hh, (·.2), (·.1), (Option.some.inj hx).symm, g2, t.tab.two, h1', fun p => atI_nat (j := 1) rfl, fun p => atI_nat (j := 0) rfl, (straight_alg t.tab).symm⟩
          | n + 2, hx => simp at hx
        obtain ⟨tt, z, N, mv, fx, rfl, htt, tb, Nb, hmv, hfx, hI⟩ := part
        have tN := tb.n
        refine ⟨_, _, rfl, SqT.of (s1 _ _ (nT _ _ htt) htt), rfl, _, _, rfl, _, _, rfl, rfl, ?_⟩
        intro d nd0
        have k1 : ∀ b o, b ≠ nb → Hs b = some o → H1 b = some o := fun b o n e => s1 b o n e
        have kO : H1 a = _ := k1 _ _ (ne_of t3.obj hn3 (by intro z; cases z)) t3.obj
        have kP : H1 pa = _ := k1 _ _ (nT _ _ t3.pks) t3.pks
        have kK : PkAt H1 pk ps := fun k p e => k1 _ _ (nT _ _ (t3.pk k p e)) (t3.pk k p e)
        have t1' : TabAt (He.ga K "Table") H1 a dx pa pk W Hh ps := ⟨kO, kP, kK, t.tab, t.few, t.w1, t.h1⟩
        have sd : Same H1 (upd H1 d (.dK [])) := Same.laid nd0
        refine ⟨_, rfl, _, _, _, _, _, rfl, sd _ _ kO, T.cl_Table, T.na_pockets, rfl, _, rfl, ⟨_, SqT.of (sd _ _ kP)⟩, ?_⟩
        refine for_tup (xs := (List.range ps.length).map fun k => V.ref (pk k)) (fun j σ H' => Same H1 H' ∧ ∃ R, fgt R = grp (esV N mv fx ps j) ∧ RAt (fun b => H1 b ≠ none) H' d (fun k => .ref (pk k)) R ∧
          ∃ q5 q6 q7, σ = [some (.ref a), some (.ref nb), some (.int z), some (.int N), some (.ref d), q5, q6, q7])
          ⟨sd, [], rfl, RAt.nil upd_same, q5, q6, q7, rfl⟩ (fun i σ H' _ h => SqT.of (h.1 _ _ kP)) ?_ ?_
        · rintro j x σ H2 hx ⟨s2, R, hR, rat, q5, q6, q7, rfl⟩
          obtain ⟨hj, rfl⟩ := range_at hx
          have ep : ps[j]? = some ps[j] := List.getElem?_eq_getElem hj
          generalize ps[j] = p at ep
          have hk := kK j p ep
          have on := tb.on p (List.mem_of_getElem? ep)
          refine ⟨_, rfl, _, rfl, _, _, _, _, rfl, rfl, SqT.of (s2 _ _ hk), hmv p, _, rfl, ?_⟩
          refine ⟨_, _, rfl, on.1, on.2, tN, by omega, fun H3 pA nA => ⟨_, rfl, ⟨_, SqL.of nA.2.1⟩, ?_⟩⟩
          refine for_list (xs := (sides (mv p) N).map V.int) (fun u σ H' => Same H1 H' ∧ H' pA = some (.lst ((sides (mv p) N).map V.int)) ∧ ∃ R, fgt R = grp (esV N mv fx ps j ++ ((sides (mv p) N).take u).map fun a => (fx p, (a, j))) ∧ RAt (fun b => H1 b ≠ none ∨ b = pA) H' d (fun k => .ref (pk k)) R ∧
            ∃ q6 q7, σ = [some (.ref a), some (.ref nb), some (.int z), some (.int N), some (.ref d), some (.ref (pk j)), q6, q7])
            ⟨s2.trans nA.1, nA.2.1, R, by rw [hR]; simp, (rat.more nA.2.2).same nA.1, q6, q7, rfl⟩ (fun j σ H' _ h => SqL.of h.2.1) ?_ ?_
          · rintro u x σ H5 hx ⟨s5, hA5, R, hR, rat, q6, q7, rfl⟩
            rw [List.getElem?_map] at hx
            obtain ⟨al, eal, rfl⟩ := Option.map_eq_some_iff.mp hx
            have nk := nk_of (x := (fx p, (al, j))) hR
            have es_len : (esV N mv fx ps j ++ ((sides (mv p) N).take u).map fun a => (fx p, (a, j))).length ≤ 60 := by
              have l1 := esV_len N mv fx ps j
              have l3 := sides_len (mv p) N
              have l5 := t.few
              rw [List.length_append, List.length_map, List.length_take]
              omega
            obtain ⟨z1, z2⟩ := R_small hR
            have fin : ∀ H9 R9 tt, RAt (fun b => H1 b ≠ none ∨ b = pA) H9 d (fun k => .ref (pk k)) R9 → (∃ l, R9 = updR R (fx p) l (tt, (al, j))) → (∀ b o, (H1 b ≠ none ∨ b = pA) → b ≠ d → H5 b = some o → H9 b = some o) →
                (Same H1 H9 ∧ H9 pA = some (.lst ((sides (mv p) N).map V.int)) ∧
                ∃ R, fgt R = grp (esV N mv fx ps j ++ ((sides (mv p) N).take (u + 1)).map fun a => (fx p, (a, j))) ∧ RAt (fun b => H1 b ≠ none ∨ b = pA) H9 d (fun k => .ref (pk k)) R) := fun H9 R9 tt r9 ⟨l, e9⟩ k9 => by
              refine ⟨fun b o e => k9 b o (.inl (by rw [e]; simp)) (ne_of_none e nd0) (s5 _ _ e), k9 _ _ (.inr rfl) (ne_of hA5 rat.dic (by intro z; cases z)) hA5, R9, ?_, r9⟩
              rw [e9, fgt_upd, hR, take_snoc eal, List.map_append, ← List.append_assoc]
              exact (grp_snoc _ (fx p, (al, j))).symm
            refine ⟨_, rfl, d, rfl, .inl ⟨_, .inl rat.dic⟩, _, rfl, _, rfl, _, _, rfl, rfl, _, _, _, _, rfl, rfl, SqT.of (s5 _ _ hk), hfx p, (by show 0 ≤ sizeLine; decide), fun p1 np1 => ⟨kvR R, .inl (fx p), by rw [upd_ne (ne_of_none rat.dic np1)]; exact rat.dic, rfl, small_len (by unfold kvR; rw [List.length_map]; omega), fun v hv => ?_, fun hv => ?_⟩⟩
            · rcases kvR_val (fx p) R with ⟨g1, _, _⟩ | ⟨y, g1, g2, g3, g4⟩
              · rw [g1] at hv; cases hv
              · have ev : V.ref y.2.1 = v := Option.some.inj (g3.symm.trans hv)
                subst ev
                have ly := (Same.laid (o := HO.lst []) np1) _ _ (rat.ls y g1).1
                refine ⟨.inl ⟨rfl, _, SqL.of ly⟩, _, rfl, _, rfl, len2, fun tt ntt => ⟨_, _, _, rfl, rfl, (Same.laid ntt) _ _ ly, small_len (by rw [List.length_map]; have := z2 y g1; omega), ?_⟩⟩
                obtain ⟨r9, k9⟩ := rat.app1 (m := al) (k := j) g1 g2 g4 nk np1 ntt
                obtain ⟨c1, c2, R', c4, c5⟩ := fin _ _ tt r9 ⟨_, rfl⟩ k9
                exact ⟨c1, c2, R', c4, c5, _, _, rfl⟩
            · rcases kvR_val (fx p) R with ⟨g1, g2, g3⟩ | ⟨y, _, _, g3, _⟩
              · have nd1 : d ≠ p1 := ne_of_none rat.dic np1
                have lp : (upd (upd H5 p1 (.lst [])) d (.dK (putK (kvR R) (.inl (fx p)) (.ref p1)))) p1 = some (.lst []) := by rw [upd_ne nd1.symm, upd_same]
                refine ⟨.inl ⟨rfl, _, SqL.of lp⟩, _, rfl, _, rfl, len2, fun tt ntt => ⟨_, _, _, rfl, rfl, (Same.laid ntt) _ _ lp, by show 0 < sizeLine; decide, ?_⟩⟩
                have zf : ∀ b, (H1 b ≠ none ∨ b = pA) → H5 b ≠ none := fun b hb => by
                  rcases hb with hb | hb
                  · cases e : H1 b with
                    | none => exact absurd e hb
                    | some o => rw [s5 _ _ e]; simp
                  · rw [hb, hA5]; simp
                obtain ⟨r9, k9⟩ := rat.app0 (m := al) (k := j) g3 nk zf np1 ntt
                obtain ⟨c1, c2, R', c4, c5⟩ := fin _ _ tt r9 ⟨_, rfl⟩ k9
                exact ⟨c1, c2, R', c4, c5, _, _, rfl⟩
              · rw [g3] at hv; cases hv
          · rintro σ H6 ⟨s6, hA6, R, hR, rat, q6, q7, rfl⟩
            refine ⟨s6, R, ?_, rat.less fun b hb => .inl hb, _, _, _, rfl⟩
            rw [hR, List.length_map, List.take_length, esV_snoc ep]
        · rintro σ H2 ⟨s2, R, hR, rat, q5, q6, q7, rfl⟩
          rw [List.length_map, List.length_range, esV_all] at hR
          have ndb : d ≠ nb := (ne_of_none hn1 nd0).symm
          refine ⟨d, .dK (kvR R), rat.dic, trivial, fun od => ?_⟩
          have sz : ∀ b o, b ≠ d → H2 b = some o → upd H2 d (.frz od (.dK (kvR R))) b = some o := fun b o n e => by rw [upd_ne n]; exact e
          have nb3 : upd H2 d (.frz od (.dK (kvR R))) nb = some (.dT (ents ps (fI W Hh ps i))) := sz _ _ ndb.symm (s2 _ _ hn1)
          have fam := famT tb
          have ggd := grp_good (esT N mv fx ps)
          refine ⟨_, rfl, d, od, kvR R, rfl, upd_same, ?_⟩
          refine for_it walk_values (fun u σ H' => SameBut nb (upd H2 d (.frz od (.dK (kvR R)))) H' ∧ H' nb = some (.dT (ents ps (allR (fun r => gapS (w1 N) (sT N mv fx ps r) (fuel1 N)) ((grp (esT N mv fx ps)).take u) (fI W Hh ps i)))) ∧
            ∃ q5 q6 q7, σ = [some (.ref a), some (.ref nb), some (.int z), some (.int N), some (.ref d), q5, q6, q7])
            ⟨Same.but (Same.refl _), nb3, _, _, _, rfl⟩ (fun i σ H' _ h => h.1 _ _ ndb upd_same) ?_ ?_
          · rintro u xv σ H3 H4 hu2 ⟨s3, hn3', q5, q6, q7, rfl⟩ ⟨rfl, xk, e2⟩
            have hiR : u < R.length := by unfold kvR at hu2; rwa [List.length_map] at hu2
            have eR : R[u]? = some R[u] := List.getElem?_eq_getElem hiR
            have hxR : R[u] ∈ R := List.getElem_mem hiR
            generalize R[u] = x at eR hxR
            have ek : (kvR R)[u]? = some (Sum.inl x.1, V.ref x.2.1) := by unfold kvR; rw [List.getElem?_map, eR]; rfl
            rw [ek] at e2
            have e2' : V.ref x.2.1 = xv := (Prod.mk.inj (Option.some.inj e2)).2
            subst e2'
            have eg : (grp (esT N mv fx ps))[u]? = some (x.1, x.2.2.map (·.2)) := by rw [← hR]; unfold fgt; rw [List.getElem?_map, eR]; rfl
            have hmg := List.mem_of_getElem? eg
            have hsel : x.2.2.map (·.2) = sel (esT N mv fx ps) x.1 := ggd.eq _ hmg
            have hex : ∃ e, (x.1, e) ∈ esT N mv fx ps := (ggd.key x.1).mp (List.mem_map_of_mem (f := (·.1)) hmg)
            obtain ⟨lx1, lx2⟩ := rat.ls x hxR
            have kk : ∀ b o, b ≠ nb → b ≠ d → H2 b = some o → H4 b = some o := fun b o n1 n2 e => s3 _ _ n1 (sz _ _ n2 e)
            have nTb : ∀ b xs, H2 b = some (.tup xs) → b ≠ nb := fun b xs e => ne_of e (s2 _ _ hn1) (by intro z; cases z)
            have kt : ∀ b xs, H2 b = some (.tup xs) → H4 b = some (.tup xs) := fun b xs e => kk _ _ (nTb _ _ e) (ne_of e rat.dic (by intro z; cases z)) e
            refine ⟨_, rfl, _, _, rfl, rfl, wmul (by omega) (by omega) (by omega) (by omega), _, rfl, len2, fun t5 nt5 => ⟨len1, fun e ne => ?_⟩⟩
            have n5e : t5 ≠ e := ne_of_none upd_same ne
            have s56 := (Same.laid nt5).trans (Same.laid (o := .lst [V.ref t5]) ne)
            have f1 : upd (upd H4 t5 (.tup [.int 0, .int N])) e (.lst [V.ref t5]) t5 = some (.tup [.int 0, .int N]) := by rw [upd_ne n5e, upd_same]
            have f3 : upd (upd H4 t5 (.tup [.int 0, .int N])) e (.lst [V.ref t5]) e = some (.lst [V.ref t5]) := upd_same
            refine fun y dy ny ndy ney => ⟨y, dy, e, 2 * N, rfl, upd_same, rfl, ?_⟩
            have s67 : Same (upd (upd H4 t5 (.tup [.int 0, .int N])) e (.lst [V.ref t5]))
                (upd (upd (upd (upd (upd (upd H4 t5 (.tup [.int 0, .int N])) e (.lst [V.ref t5])) dy (.own y)) y (.ins (He.ga K "Round") dy [])) y (.ins (He.ga K "Round") dy [("length", V.int (2 * N))])) y (.ins (He.ga K "Round") dy (rFs (2 * N) e))) := fun b o eb => by
              have n1 : b ≠ y := ne_of_none eb ny
              have n2 : b ≠ dy := ne_of_none eb ndy
              rw [upd_ne n1, upd_ne n1, upd_ne n1, upd_ne n2]
              exact eb
            have s57 := s56.trans s67
            have cl2 : Cl (0, N) := ⟨Int.le_refl _, tN⟩
            refine ⟨y, dy, _, rfl, upd_same, rfl, _, rfl, _, rfl, y, dy, e, x.2.1, nb, 2 * N, [V.ref t5], [(0, N)], ps, x.2.2, pk, _, rfl, upd_same, s67 _ _ f3, ?_, .inl ⟨_, rfl, cl2, by show N ≤ _; omega⟩, ?_, ?_, ?_, t.tab.nd, ?_, ?_, ?_, ?_, ?_, s57 _ _ hn3', ?_⟩
            · exact .cons ⟨t5, rfl, s67 _ _ f1⟩ .nil
            · exact s57 _ _ (kk _ _ (ne_of lx1 (s2 _ _ hn1) (by intro z; cases z)) (ne_of lx1 rat.dic (by intro z; cases z)) lx1)
            · exact fun b hb => s57 _ _ (kt _ _ (lx2 b hb))
            · exact fun k p ek => s57 _ _ (kt _ _ (s2 _ _ (kK k p ek)))
            · intro b hb
              have hm : b.2 ∈ sel (esT N mv fx ps) x.1 := by rw [← hsel]; exact List.mem_map_of_mem hb
              have := fam.mem _ (mem_sel.mp hm)
              exact ⟨this.1, this.2.2⟩
            · intro z
              obtain ⟨e0, he0⟩ := hex
              have := mem_sel.mpr he0
              rw [← hsel, z] at this
              cases this
            · have := t.few; omega
            · exact Int.le_of_lt fam.pos
            · rw [allR_len, fI_len]
            · intro st' H8 pm pw sb hn8
              refine ⟨SameBut.trans s3 (SameBut.trans (Same.but s57) sb), ?_, _, _, _, rfl⟩
              rw [hn8, take_snoc eg, allR_snoc]
              refine congrArg some (congrArg HO.dT (congrArg (ents ps) ?_))
              rw [wE_straight]
              have := fam.turn hex (hsel ▸ pm) pw (allR (fun r => gapS (w1 N) (sT N mv fx ps r) (fuel1 N)) ((grp (esT N mv fx ps)).take u) (fI W Hh ps i))
              rw [hsel]
              exact this
          · rintro σ H3 ⟨s3, hn3', q5, q6, q7, rfl⟩
            refine ⟨s3 _ _ ndb upd_same, ?_, ?_, _, _, _, _, _, _, rfl⟩
            · intro b o n e
              have n1 : b ≠ d := ne_of_none (k1 _ _ n e) nd0
              rw [upd_ne n1]
              exact s3 _ _ n (sz _ _ n1 (s2 _ _ (k1 _ _ n e)))
            · have hl : (kvR R).length = (grp (esT N mv fx ps)).length := by rw [← hR]; unfold kvR fgt; rw [List.length_map, List.length_map]
              rw [hl, List.take_length] at hn3'
              rw [upd_ne ndb.symm, hI]
              exact hn3'
      · rintro σ H3 ⟨s3, hn3', q2, q3, q4, q5, q6, q7, rfl⟩
        have sf : Same H H3 := fun b o eb => by
          exact s3 _ _ (ne_of_none eb nnb) (s03 _ _ eb)
        have tf := t.same sf
        have hn4 : H3 nb = some (.dT (ents ps (straightN W Hh ps))) := hn3'
        refine ⟨_, rfl, _, rfl, _, rfl, _, _, _, _, _, rfl, tf.obj, T.cl_Table, T.na_width, rfl, _, _, rfl, rfl, _, _, rfl, rfl, wmul (by omega) (by omega) (by omega) (by omega), ?_⟩
        refine ⟨_, rfl, _, _, _, _, _, rfl, tf.obj, T.cl_Table, T.na_height, rfl, _, _, rfl, rfl, _, _, rfl, rfl, wmul (by omega) (by omega) (by omega) (by omega), ?_⟩
        refine ⟨a, dx, pa, nb, _, _, ps, pk, straightN W Hh ps, rfl, tf.obj, rfl, tf.pks, tf.pk, t.tab.nd, by have := t.few; omega, ?_, hn4, fun H' p l qs sl hp hq hql ht => q H' p l qs (sf.trans sl) hp hq hql ht⟩
        unfold straightN
        exact List.length_map ..
end
end Cu
/-! W16 -/
set_option Elab.async false
set_option linter.all false
set_option maxRecDepth 100000
set_option maxHeartbeats 0
namespace Cu
open PySem PySem.Spec PyProof.Rows L2
/-- get and a longer list at a new place -/
theorem RAt.app2 {Z : Addr → Prop} {H1 : Hp} {d p1 t p2 p3 : Addr} {q : Nat → V} {R : List RE} {r m : Int} {k : Nat} (h : RAt Z H1 d q R) (nk : ((addTo (fgt R) r (m, k)).map (·.1)).Nodup) (zf : ∀ a, Z a → H1 a ≠ none)
    (n1 : H1 p1 = none) (nt : upd H1 p1 (.lst []) t = none) (n2 : upd (upd H1 p1 (.lst [])) t (.tup [.int m, q k]) p2 = none)
    (n3 : upd (upd (upd H1 p1 (.lst [])) t (.tup [.int m, q k])) p2 (.lst [.ref t]) p3 = none) :
    RAt Z (upd (upd (upd (upd (upd H1 p1 (.lst [])) t (.tup [.int m, q k])) p2 (.lst [.ref t])) p3 (.lst (((oldR R r).map fun b => V.ref b.1) ++ [.ref t]))) d (.dK (putK (kvR R) (.inl r) (.ref p3)))) d q (updR R r p3 (t, (m, k))) ∧
    ∀ b o, b ≠ d → H1 b = some o → upd (upd (upd (upd (upd H1 p1 (.lst [])) t (.tup [.int m, q k])) p2 (.lst [.ref t])) p3 (.lst (((oldR R r).map fun b => V.ref b.1) ++ [.ref t]))) d (.dK (putK (kvR R) (.inl r) (.ref p3))) b = some o := by
  have s := (((Same.laid (o := .lst []) n1).trans (Same.laid (o := .tup [.int m, q k]) nt)).trans (Same.laid (o := .lst [.ref t]) n2)).trans (Same.laid (o := .lst (((oldR R r).map fun b => V.ref b.1) ++ [.ref t])) n3)
  have old : ∀ b o, H1 b = some o → b ≠ p3 := fun b o e z => by
    have := (((Same.laid (o := .lst []) n1).trans (Same.laid (o := .tup [.int m, q k]) nt)).trans (Same.laid (o := .lst [.ref t]) n2)) _ _ e
    rw [z, n3] at this; cases this
  have gen : ∀ b o, b ≠ d → H1 b = some o → upd (upd (upd (upd (upd H1 p1 (.lst [])) t (.tup [.int m, q k])) p2 (.lst [.ref t])) p3 (.lst (((oldR R r).map fun b => V.ref b.1) ++ [.ref t]))) d (.dK (putK (kvR R) (.inl r) (.ref p3))) b = some o := fun b o hd hb => by
    rw [upd_ne hd]; exact s _ _ hb
  have nd3 : p3 ≠ d := fun e => old d _ h.dic e.symm
  have gt : upd (upd (upd (upd H1 p1 (.lst [])) t (.tup [.int m, q k])) p2 (.lst [.ref t])) p3 (.lst (((oldR R r).map fun b => V.ref b.1) ++ [.ref t])) t = some (.tup [.int m, q k]) :=
    ((Same.laid (o := .lst [.ref t]) n2).trans (Same.laid (o := .lst (((oldR R r).map fun b => V.ref b.1) ++ [.ref t])) n3)) _ _ upd_same
  have ntd : t ≠ d := fun e => by rw [e, Same.laid n1 _ _ h.dic] at nt; cases nt
  refine ⟨h.step ?_ ?_ ?_ ?_ ?_ ?_ ?_ (fun z => ?_), gen⟩
  · rw [upd_same, kvR_put r p3 (t, (m, k)) R h.nd]
  · rw [upd_ne nd3, upd_same, List.map_append]; rfl
  · rw [upd_ne ntd]; exact gt
  · rw [← fgt_keys, fgt_upd]; exact nk
  · intro b xs hb
    exact gen b _ (ne_of hb h.dic (by intro z; cases z)) hb
  · intro b o hd _ hb
    exact gen b o hd hb
  · intro y hy _
    exact old _ _ (h.ls y hy).1
  · cases e : H1 p3 with
    | none => exact zf _ z e
    | some o => exact old _ _ e rfl
/-- what the law reckons for each pocket -/
def spEach (val : Int → Int → List (Int × Int) → List Int) : Sp := fun vs H Q _ => ∃ (pp : Addr) (pk : Nat → Addr) (W Hh : Int) (ps : List (Int × Int)), vs = [.int W, .int Hh, .ref pp] ∧ H pp = some (.tup ((List.range ps.length).map fun k => V.ref (pk k))) ∧ PkAt H pk ps ∧ Tab W Hh ps ∧ ps.length ≤ 12 ∧ W ≤ 2 ^ 105 ∧ Hh ≤ 2 ^ 105 ∧
  ∀ H' p, NewL H ((val W Hh ps).map V.int) H' p → Q (.ref p) H'
theorem ln_law {W H : Int} (hW : 0 < W) (hH : 0 < H) : 4 * W * H / cm W H = ln W H := by
  obtain ⟨m', n', e1, e2, p1, p2, d1, d2⟩ := gc_parts (m := 2 * W) (n := 2 * H) (by omega) (by omega)
  have g0 : 0 < cm W H := gc_pos (m := 2 * W) (n := 2 * H) (by omega)
  show _ = 2 * W / cm W H * (2 * H)
  have d1 : 2 * W / cm W H = m' := d1
  have e1 : 2 * W = cm W H * m' := e1
  rw [d1, show 4 * W * H = cm W H * (m' * (2 * H)) by rw [← Int.mul_assoc, ← e1]; grind]
  exact Int.mul_ediv_cancel_left _ (Int.ne_of_gt g0)
section
variable {P : Program} {w : World} {K : PySem.W.Frag} {mg : Str → Option Value} {base : Heap}
theorem c_lSlEach (T : Txt K mg) : Cal P w K mg base 5 "_law_slanting_each" ["_law_width", "_law_height", "_law_pockets"] (spEach slantN) := by
  obtain ⟨fd, F⟩ := T.d_lSlEach
  have nd := sc_lSlEach.nd
  have c_lGcd := c_lGcd (P := P) (w := w) (base := base) T
  have c_lPlaces := c_lPlaces (P := P) (w := w) (base := base) T
  have c_lMeet := c_lMeet (P := P) (w := w) (base := base) T
  have c_lShared := c_lShared (P := P) (w := w) (base := base) T
  refine ⟨_, fd, T.g_law_slanting_each, F.ok sc_lSlEach (fun vs H Q E h => ?_) (fun cdv A outer s H vs Q E hr h => have hu := hu_of hr; ⟨_, PSs.nox (pss_cons (ps_set (i := 3) nd rfl (Or.inl rfl) (pe_fn c_lGcd (hr.mono (by decide)) rfl (pa_cons (pe_op op_mulW pe_int (pv 0)) (pa_cons (pe_op op_mulW pe_int (pv 1)) pa_nil)))) (pss_cons (ps_set (i := 4) nd rfl (Or.inl rfl) pe_dnewK) (pss_cons (ps_for PassesOwn.never rfl (pi_range1 rfl T.b_range (pa_cons (pe_callB call_len_seq rfl T.b_len PySem.boot_len (pa_cons (pv 2) pa_nil)) pa_nil)) (pg_name (i := 5) nd rfl (Or.inl rfl)) (pss_one (ps_for PassesOwn.never rfl (pi_list (pe_fn c_lPlaces (hr.mono (by decide)) rfl (pa_cons (pe_ix ix_tup (pe_ix ix_tup (pv 2) (pv 5) (fun _ _ => rfl)) pe_int (fun _ _ => rfl)) (pa_cons (pv 0) pa_nil)))) (pg_name (i := 6) nd rfl (Or.inl rfl)) (pss_one (ps_for PassesOwn.never rfl (pi_list (pe_fn c_lPlaces (hr.mono (by decide)) rfl (pa_cons (pe_ix ix_tup (pe_ix ix_tup (pv 2) (pv 5) (fun _ _ => rfl)) pe_int (fun _ _ => rfl)) (pa_cons (pv 1) pa_nil)))) (pg_name (i := 7) nd rfl (Or.inl rfl)) (pss_cons (ps_set (i := 8) nd rfl (Or.inl rfl) (pe_op op_mod (pe_callTy call_int1 rfl T.b_int PyProof.Rows.boot_int (pa_cons (pe_op op_sub (pv 6) (pv 7)) pa_nil)) (pv 3))) (pss_cons (ps_set (i := 9) nd rfl (Or.inl rfl) (pe_fn c_lMeet (hr.mono (by decide)) rfl (pa_cons (pe_op op_mod (pe_callTy call_int1 rfl T.b_int PyProof.Rows.boot_int (pa_cons (pe_op op_sub (pv 6) (pv 8)) pa_nil)) (pe_op op_mulW pe_int (pv 0))) (pa_cons (pe_op op_mulW pe_int (pv 0)) (pa_cons (pv 7) (pa_cons (pe_op op_mulW pe_int (pv 1)) pa_nil)))))) (pss_one (ps_dput hu (pv 4) (pv 8) (pe_op op_cat (pe_dget2 hu (pv 4) (pv 8) (pe_lst pa_nil) ⟨rfl, rfl, rfl, rfl⟩) (pe_lst (pa_cons (pe_tup (pa_cons (pv 9) (pa_cons (pv 5) pa_nil))) pa_nil))) rfl))))))))) (pss_cons (ps_setLc (i := 10) (own := [("_law_pocket", 12)]) (g := gName 12) rfl nd rfl rfl (sw_true rfl rfl rfl (by decide +kernel)) (pi_tup (pv 2)) (blkOk_by (N := ["_law_width", "_law_height", "_law_pockets", "_law_common", "_law_rounds", "_law_k", "_law_x", "_law_y", "_law_first", "_law_minute", "_law_found", "_law_edges", "_law_pocket"]) (sc := defScope s_lSlEach) (own := [("_law_pocket", 12)]) (by decide +kernel)) (fun _ _ _ _ _ => (pg_name (i := 12) nd rfl (Or.inl rfl))) (fun _ _ _ _ _ => pts_nil) (fun _ _ _ _ _ => pe_int)) (pss_cons (ps_for PassesOwn.never rfl (pi_list (pe_callTy (call_list_dK rfl) rfl T.b_list PyProof.Rows.boot_list (pa_cons (pv 4) pa_nil))) (pg_name (i := 8) nd rfl (Or.inl rfl)) (pss_cons (ps_set (i := 11) nd rfl (Or.inl rfl) (pe_lst (pa_cons (pe_tup (pa_cons (pe_op op_mod (pe_callTy call_int1 rfl T.b_int PyProof.Rows.boot_int (pa_cons (pe_op op_sub pe_int (pv 8)) pa_nil)) (pv 0)) (pa_cons (pv 0) pa_nil))) (pa_cons (pe_tup (pa_cons pe_int (pa_cons (pv 1) pa_nil))) pa_nil)))) (pss_one (ps_expr (pe_fn c_lShared (hr.mono (by decide)) rfl (pa_cons (pe_dget hu (pv 4) (pv 8) (fun _ _ => rfl)) (pa_cons (pv 11) (pa_cons (pe_op op_fdivW (pe_op op_mulW (pe_op op_mulW pe_int (pv 0)) (pv 1)) (pv 3)) (pa_cons (pv 10) pa_nil))))))))) (pss_one (ps_ret (pv 10)))))))), ?_⟩), F.bindsN fun _ _ _ _ _ _ us hl => match us, hl with | [_, _, _], _ => rfl, F.kp⟩
  · obtain ⟨_, _, _, _, _, rfl, _⟩ := h
    rfl
  · obtain ⟨pp, pk, W, Hh, ps, rfl, hpp, hP, tb, few, w1', h1', q⟩ := h
    have tW := tb.w
    have tH := tb.h
    refine ⟨_, rfl, _, _, rfl, rfl, wmul (by omega) (by omega) (by omega) (by omega), _, rfl, _, _, rfl, rfl, wmul (by omega) (by omega) (by omega) (by omega), 2 * W, 2 * Hh, rfl, by omega, by omega, by omega, ?_⟩
    intro d nd0
    have g0 : 0 < cm W Hh := gc_pos (m := 2 * W) (n := 2 * Hh) (by omega)
    have sd : Same H (upd H d (.dK [])) := Same.laid nd0
    refine ⟨_, rfl, _, _, rfl, .inr (SqT.of (sd _ _ hpp)), _, rfl, by omega, by rw [List.length_map, List.length_range]; omega, ?_⟩
    have hlen : (((((List.range ps.length).map fun k => V.ref (pk k)).length : Nat) : Int)).toNat = ps.length := by rw [List.length_map, List.length_range]; omega
    rw [hlen]
    refine for_range (n := ps.length) (fun i σ H' => Same H H' ∧ ∃ R, fgt R = grp (esU W Hh ps i) ∧ RAt (fun b => H b ≠ none) H' d (fun k => .int (k : Nat)) R ∧
      ∃ q5 q6 q7 q8 q9, σ = [some (.int W), some (.int Hh), some (.ref pp), some (.int (cm W Hh)), some (.ref d), q5, q6, q7, q8, q9, none, none, none])
      ⟨sd, [], rfl, RAt.nil upd_same, none, none, none, none, none, rfl⟩ ?_ ?_
    · rintro i σ H1 hi ⟨s1, R, hR, rat, q5, q6, q7, q8, q9, rfl⟩
      rw [show (0 : Int) + ((i : Nat) : Int) = (i : Nat) from by omega]
      have ep : ps[i]? = some ps[i] := List.getElem?_eq_getElem hi
      generalize ps[i] = p at ep
      have hat : atI ((List.range ps.length).map fun k => V.ref (pk k)) ((i : Nat) : Int) = some (.ref (pk i)) := atI_nat (by rw [List.getElem?_map, List.getElem?_range hi]; rfl)
      have hk := hP i p ep
      have on := tb.on p (List.mem_of_getElem? ep)
      have hz := zip_at ep
      refine ⟨_, rfl, _, rfl, _, _, _, _, rfl, rfl, SqT.of (s1 _ _ hpp), hat, _, _, _, _, rfl, rfl, SqT.of (s1 _ _ hk), atI_nat (j := 0) rfl, _, rfl, ?_⟩
      refine ⟨_, _, rfl, on.1.1, on.1.2, tW, by omega, fun H2 pA nA => ⟨_, rfl, ⟨_, SqL.of nA.2.1⟩, ?_⟩⟩
      refine for_list (xs := (sides p.1 W).map V.int) (fun j σ H' => Same H H' ∧ H' pA = some (.lst ((sides p.1 W).map V.int)) ∧ ∃ R, fgt R = grp (esU W Hh ps i ++ ((sides p.1 W).take j).flatMap (esB W Hh p i)) ∧ RAt (fun b => H b ≠ none ∨ b = pA) H' d (fun k => .int (k : Nat)) R ∧
        ∃ q6 q7 q8 q9, σ = [some (.int W), some (.int Hh), some (.ref pp), some (.int (cm W Hh)), some (.ref d), some (.int (i : Nat)), q6, q7, q8, q9, none, none, none])
        ⟨s1.trans nA.1, nA.2.1, R, by rw [hR]; simp, (rat.more nA.2.2).same nA.1, q6, q7, q8, q9, rfl⟩ (fun j σ H' _ h => SqL.of h.2.1) ?_ ?_
      · rintro j x σ H3 hx ⟨s3, hA, R, hR, rat, q6, q7, q8, q9, rfl⟩
        rw [List.getElem?_map] at hx
        obtain ⟨ac, eac, rfl⟩ := Option.map_eq_some_iff.mp hx
        refine ⟨_, rfl, _, rfl, _, _, _, _, rfl, rfl, SqT.of (s3 _ _ hpp), hat, _, _, _, _, rfl, rfl, SqT.of (s3 _ _ hk), atI_nat (j := 1) rfl, _, rfl, ?_⟩
        refine ⟨_, _, rfl, on.2.1, on.2.2, tH, by omega, fun H4 pB nB => ⟨_, rfl, ⟨_, SqL.of nB.2.1⟩, ?_⟩⟩
        have ab : pA ≠ pB := ne_of_none hA nB.2.2
        refine for_list (xs := (sides p.2 Hh).map V.int) (fun u σ H' => Same H H' ∧ H' pA = some (.lst ((sides p.1 W).map V.int)) ∧ H' pB = some (.lst ((sides p.2 Hh).map V.int)) ∧
          ∃ R, fgt R = grp (esU W Hh ps i ++ ((sides p.1 W).take j).flatMap (esB W Hh p i) ++ ((sides p.2 Hh).take u).map fun b => (rnd W Hh ac b, (minu W Hh ac b, i))) ∧ RAt (fun b => (H b ≠ none ∨ b = pA) ∨ b = pB) H' d (fun k => .int (k : Nat)) R ∧
          ∃ q7 q8 q9, σ = [some (.int W), some (.int Hh), some (.ref pp), some (.int (cm W Hh)), some (.ref d), some (.int (i : Nat)), some (.int ac), q7, q8, q9, none, none, none])
          ⟨s3.trans nB.1, nB.1 _ _ hA, nB.2.1, R, by rw [hR]; simp, (rat.more nB.2.2).same nB.1, q7, q8, q9, rfl⟩ (fun j σ H' _ h => SqL.of h.2.2.1) ?_ ?_
        · rintro u x σ H5 hx ⟨s5, hA5, hB5, R, hR, rat, q7, q8, q9, rfl⟩
          rw [List.getElem?_map] at hx
          obtain ⟨al, eal, rfl⟩ := Option.map_eq_some_iff.mp hx
          have ma := (mem_sides on.1.1 on.1.2 tW).mp (List.mem_of_getElem? eac)
          have mb := (mem_sides on.2.1 on.2.2 tH).mp (List.mem_of_getElem? eal)
          refine ⟨_, rfl, _, rfl, _, _, rfl, rfl, .inl ⟨_, rfl, _, rfl, _, _, rfl, rfl, g0, ?_⟩⟩
          have rl := rnd_lt (H := Hh) (a := ac) (b := al) tW
          have cW : cm W Hh ≤ 2 * W := Int.le_of_dvd (by omega) (gc_l ..)
          have e0 := Int.emod_nonneg (ac - rnd W Hh ac al) (show 2 * W ≠ 0 by omega)
          have e1 := Int.emod_lt_of_pos (ac - rnd W Hh ac al) (show 0 < 2 * W by omega)
          refine ⟨_, rfl, _, rfl, _, _, rfl, rfl, .inl ⟨_, rfl, _, rfl, _, _, rfl, rfl, wmul (by omega) (by omega) (by omega) (by omega), _, _, rfl, rfl, (by show 0 < 2 * W; omega), ?_⟩⟩
          refine ⟨_, rfl, _, _, rfl, rfl, wmul (by omega) (by omega) (by omega) (by omega), _, rfl, _, rfl, _, _, rfl, rfl, wmul (by omega) (by omega) (by omega) (by omega), ?_⟩
          refine ⟨(ac - rnd W Hh ac al) % (2 * W), 2 * W, al, 2 * Hh, rfl, ⟨by omega, by omega⟩, ⟨by omega, by omega⟩, ⟨e0, e1⟩, ⟨by omega, by omega⟩, fun hd => absurd (minu_agree tW) hd, fun _ H6 s56 => ?_⟩
          have rat6 := rat.same s56
          have nk := nk_of (x := (rnd W Hh ac al, (minu W Hh ac al, i))) hR
          have es_len : (esU W Hh ps i ++ ((sides p.1 W).take j).flatMap (esB W Hh p i) ++ ((sides p.2 Hh).take u).map fun b => (rnd W Hh ac b, (minu W Hh ac b, i))).length ≤ 60 := by
            have l1 := esU_len W Hh ps i
            have l2 := flat_len (f := esB W Hh p i) (c := 2) (fun a => esB_len W Hh p i a) ((sides p.1 W).take j)
            have l3 := sides_len p.1 W
            have l4 := sides_len p.2 Hh
            have l6 : ((sides p.1 W).take j).length ≤ 2 := by rw [List.length_take]; omega
            rw [List.length_append, List.length_append, List.length_map, List.length_take]
            omega
          obtain ⟨z1, z2⟩ := R_small hR
          refine ⟨_, rfl, d, rfl, .inl ⟨_, .inl rat6.dic⟩, _, rfl, (by show 0 ≤ sizeLine; decide), fun p1 np1 => ⟨_, DGet.k (k := .inl (rnd W Hh ac al)) (Same.laid np1 _ _ rat6.dic), ?_⟩⟩
          have ho : ∃ l, (valV (kvR R) (.inl (rnd W Hh ac al))).getD (.ref p1) = .ref l ∧ upd H6 p1 (.lst []) l = some (.lst ((oldR R (rnd W Hh ac al)).map fun b => V.ref b.1)) ∧ (oldR R (rnd W Hh ac al)).length ≤ 60 := by
            rcases kvR_val (rnd W Hh ac al) R with ⟨g1, _, g3⟩ | ⟨y, g1, g2, g3, g4⟩
            · exact ⟨p1, by rw [g1]; rfl, by rw [upd_same, g3]; rfl, by rw [g3]; simp⟩
            · exact ⟨y.2.1, by rw [g3]; rfl, by rw [g4]; exact Same.laid np1 _ _ (rat6.ls y g1).1, by rw [g4]; have := z2 y g1; omega⟩
          obtain ⟨l0, el0, ll0, lz⟩ := ho
          refine ⟨_, rfl, _, rfl, len2, fun tt ntt => ⟨len1, fun p2 np2 => ?_⟩⟩
          refine ⟨l0, p2, _, [V.ref tt], el0, rfl, Same.laid np2 _ _ (Same.laid ntt _ _ ll0), upd_same, ?_, fun p3 np3 => ?_⟩
          · rw [List.length_map]
            exact Nat.le_of_lt (small1000 (by show (oldR R (rnd W Hh ac al)).length + 1 ≤ 1000; omega))
          have zf : ∀ b, ((H b ≠ none ∨ b = pA) ∨ b = pB) → H6 b ≠ none := fun b hb => by
            rcases hb with (hb | hb) | hb
            · cases e : H b with
              | none => exact absurd e hb
              | some o => rw [s56 _ _ (s5 _ _ e)]; simp
            · rw [hb, s56 _ _ hA5]; simp
            · rw [hb, s56 _ _ hB5]; simp
          have s69 := (((Same.laid (o := .lst []) np1).trans (Same.laid (o := .tup [.int (minu W Hh ac al), .int (i : Nat)]) ntt)).trans (Same.laid (o := .lst [.ref tt]) np2)).trans (Same.laid (o := .lst (((oldR R (rnd W Hh ac al)).map fun b => V.ref b.1) ++ [.ref tt])) np3)
          obtain ⟨r9, k9⟩ := rat6.app2 (m := minu W Hh ac al) (k := i) nk zf np1 ntt np2 np3
          refine ⟨_, rfl, _, rfl, d, _, rfl, DPut.k (k := .inl (rnd W Hh ac al)) (s69 _ _ rat6.dic) (small_len (by unfold kvR; rw [List.length_map]; omega)), ?_⟩
          have ds : ∀ b o, H5 b = some o → o ≠ HO.dK (kvR R) → b ≠ d := fun b o e ne => ne_of e rat.dic ne
          refine ⟨fun b o e => k9 b o (ne_of_none e nd0) (s56 _ _ (s5 _ _ e)), k9 _ _ (ds _ _ hA5 (by intro z; cases z)) (s56 _ _ hA5), k9 _ _ (ds _ _ hB5 (by intro z; cases z)) (s56 _ _ hB5), _, ?_, r9, _, _, _, rfl⟩
          rw [fgt_upd, hR, take_snoc eal, List.map_append, ← List.append_assoc]
          exact (grp_snoc _ (rnd W Hh ac al, (minu W Hh ac al, i))).symm
        · rintro σ H6 ⟨s6, hA6, hB6, R, hR, rat, q7, q8, q9, rfl⟩
          refine ⟨s6, hA6, R, ?_, rat.less fun b hb => .inl hb, _, _, _, _, rfl⟩
          rw [hR, List.length_map, List.take_length, flat_snoc eac, List.append_assoc]
          rfl
      · rintro σ H6 ⟨s6, hA6, R, hR, rat, q6, q7, q8, q9, rfl⟩
        refine ⟨s6, R, ?_, rat.less fun b hb => .inl hb, _, _, _, _, _, rfl⟩
        rw [hR, List.length_map, List.take_length, esU_snoc ep]
    · rintro σ H1 ⟨s1, R, hR, rat, q5, q6, q7, q8, q9, rfl⟩
      rw [esU_all] at hR
      refine ⟨_, rfl, _, rfl, ⟨_, SqT.of (s1 _ _ hpp)⟩, fun fd' nfd => ?_⟩
      refine lc_tup (xs := (List.range ps.length).map fun k => V.ref (pk k)) (Ints H1 fd' (List.replicate ps.length 0)) (Ints.zero nfd) (fun i H' _ h => SqT.of (h.1 _ _ (s1 _ _ hpp))) ?_ ?_
      · rintro i x H2 hx h2
        obtain ⟨hi, rfl⟩ := range_at hx
        refine ⟨rfl, _, h2.2, small_len (by rw [List.length_map, List.length_take, List.length_replicate]; omega), h2.more nfd ?_⟩
        rw [List.getElem?_replicate, if_pos hi]
      · rintro H2 h2
        have h2 : Ints H1 fd' (List.replicate ps.length 0) (List.replicate ps.length (0 : Int)).length H2 := by
          rw [List.length_map, List.length_range] at h2
          rw [List.length_replicate]; exact h2
        have hf2 := h2.done
        have s12 := h2.1
        refine ⟨_, rfl, d, kvR R, rfl, s12 _ _ rat.dic, fun kl nkl => ⟨_, rfl, ⟨_, SqL.of upd_same⟩, ?_⟩⟩
        have s23 : Same H2 (upd H2 kl (.lst ((kvR R).map fun kv => kV kv.1))) := Same.laid nkl
        have kf : kl ≠ fd' := (ne_of_none hf2 nkl).symm
        have fam := famS tb
        have ggd := grp_good (esS W Hh ps)
        have k0 : ∀ b o, H1 b = some o → b ≠ fd' := fun b o e => ne_of_none e nfd
        have ksz : upd H2 kl (.lst ((kvR R).map fun kv => kV kv.1)) kl = _ := upd_same
        generalize upd H2 kl (.lst ((kvR R).map fun kv => kV kv.1)) = Hs at s23 ksz
        refine for_list (xs := (kvR R).map fun kv => kV kv.1) (fun i σ H' => SameBut fd' Hs H' ∧ H' fd' = some (.lst ((allR (fun r => gapS (wS W Hh r) (sS W Hh ps r) (fuel W Hh)) ((grp (esS W Hh ps)).take i) (List.replicate ps.length 0)).map V.int)) ∧
          ∃ q5 q6 q7 q8 q9 q11, σ = [some (.int W), some (.int Hh), some (.ref pp), some (.int (cm W Hh)), some (.ref d), q5, q6, q7, q8, q9, some (.ref fd'), q11, none])
          ⟨Same.but (Same.refl _), s23 _ _ hf2, _, _, _, _, _, none, rfl⟩ (fun i σ H' _ h => SqL.of (h.1 _ _ kf ksz)) ?_ ?_
        · rintro i x σ H3 hx ⟨s3, hf3, q5, q6, q7, q8, q9, q11, rfl⟩
          rw [List.getElem?_map] at hx
          unfold kvR at hx
          rw [List.getElem?_map] at hx
          obtain ⟨_, hx1, rfl⟩ := Option.map_eq_some_iff.mp hx
          obtain ⟨x, eR, rfl⟩ := Option.map_eq_some_iff.mp hx1
          have hxR := List.mem_of_getElem? eR
          have eg : (grp (esS W Hh ps))[i]? = some (x.1, x.2.2.map (·.2)) := by rw [← hR]; unfold fgt; rw [List.getElem?_map, eR]; rfl
          have hmg := List.mem_of_getElem? eg
          have hsel : x.2.2.map (·.2) = sel (esS W Hh ps) x.1 := ggd.eq _ hmg
          have hex : ∃ e, (x.1, e) ∈ esS W Hh ps := (ggd.key x.1).mp (List.mem_map_of_mem (f := (·.1)) hmg)
          obtain ⟨lx1, lx2⟩ := rat.ls x hxR
          have kk : ∀ b o, H1 b = some o → H3 b = some o := fun b o e => s3 _ _ (k0 _ _ e) (s23 _ _ (s12 _ _ e))
          have hv : valV (kvR R) (.inl x.1) = some (.ref x.2.1) := by
            rcases kvR_val x.1 R with ⟨_, g2, _⟩ | ⟨y, g1, g2, g3, _⟩
            · exact absurd rfl (g2 x hxR)
            · rw [g3]
              have : y = x := by
                obtain ⟨i1, h1, e1⟩ := List.getElem_of_mem g1
                obtain ⟨i2, h2, e2⟩ := List.getElem_of_mem hxR
                have : i1 = i2 := by
                  refine (List.getElem_inj rat.nd (h₀ := by rw [List.length_map]; exact h1) (h₁ := by rw [List.length_map]; exact h2)).mp ?_
                  rw [List.getElem_map, List.getElem_map, e1, e2, g2]
                subst this
                exact e1.symm.trans e2
              rw [this]
          refine ⟨_, rfl, _, _, rfl, rfl, .inl ⟨_, rfl, _, rfl, _, _, rfl, rfl, tW, _, rfl, len2, fun t1 nt1 => ⟨_, rfl, len2, fun t2 nt2 => ⟨len2, fun e ne => ?_⟩⟩⟩⟩
          have n12 : t1 ≠ t2 := ne_of_none upd_same nt2
          have n1e : t1 ≠ e := ne_of_none (by rw [upd_ne n12, upd_same]) ne
          have n2e : t2 ≠ e := ne_of_none upd_same ne
          have s36 := ((Same.laid nt1).trans (Same.laid nt2)).trans (Same.laid (o := .lst [V.ref t1, V.ref t2]) ne)
          have ez : (0 : Int) - x.1 = -x.1 := by omega
          have g1 : upd (upd (upd H3 t1 (.tup [.int ((0 - x.1) % W), .int W])) t2 (.tup [.int 0, .int Hh])) e (.lst [V.ref t1, V.ref t2]) t1 = some (.tup [.int (-x.1 % W), .int W]) := by rw [upd_ne n1e, upd_ne n12, upd_same, ez]
          have g2 : upd (upd (upd H3 t1 (.tup [.int ((0 - x.1) % W), .int W])) t2 (.tup [.int 0, .int Hh])) e (.lst [V.ref t1, V.ref t2]) t2 = some (.tup [.int 0, .int Hh]) := by rw [upd_ne n2e, upd_same]
          have g3 : upd (upd (upd H3 t1 (.tup [.int ((0 - x.1) % W), .int W])) t2 (.tup [.int 0, .int Hh])) e (.lst [V.ref t1, V.ref t2]) e = some (.lst [V.ref t1, V.ref t2]) := upd_same
          have hef : e ≠ fd' := fun z => by rw [z, Same.laid nt2 _ _ (Same.laid nt1 _ _ hf3)] at ne; cases ne
          have hg : DGet (upd (upd (upd H3 t1 (.tup [.int ((0 - x.1) % W), .int W])) t2 (.tup [.int 0, .int Hh])) e (.lst [V.ref t1, V.ref t2])) d (.int x.1) (some (.ref x.2.1)) := by
            rw [← hv]
            exact DGet.k (k := .inl x.1) (s36 _ _ (kk _ _ rat.dic))
          refine ⟨_, rfl, _, rfl, d, _, rfl, hg, _, rfl, _, rfl, _, _, rfl, rfl, wmul (by omega) (by omega) (by omega) (by omega), _, rfl, _, _, rfl, rfl, wmul (by omega) (by omega) (by omega) (by omega), _, rfl, _, _, rfl, rfl, wdiv g0 ?_, _, rfl, ?_⟩
          · have : cm W Hh ≤ 2 * W := Int.le_of_dvd (show (0 : Int) < 2 * W by omega) (gc_l (2 * W) (2 * Hh))
            show cm W Hh ≤ _
            omega
          have cl1 : Cl (-x.1 % W, W) := ⟨Int.emod_nonneg _ (Int.ne_of_gt tW), Int.emod_lt_of_pos _ tW⟩
          have cl2 : Cl (0, Hh) := ⟨Int.le_refl _, tH⟩
          have hlnn : 0 ≤ 4 * W * Hh / cm W Hh := by rw [ln_law tW tH]; exact Int.le_of_lt fam.pos
          refine ⟨e, x.2.1, fd', 4 * W * Hh / cm W Hh, [V.ref t1, V.ref t2], [(-x.1 % W, W), (0, Hh)], x.2.2, _, rfl, g3, .cons ⟨t1, rfl, g1⟩ (.cons ⟨t2, rfl, g2⟩ .nil), .inr ⟨_, _, rfl, ⟨cl1, by show W ≤ _; omega⟩, cl2, by show Hh ≤ _; omega⟩, s36 _ _ (kk _ _ lx1), k0 _ _ lx1, hef, fun b hb => s36 _ _ (kk _ _ (lx2 b hb)), ?_, ?_, hlnn, ?_, s36 _ _ hf3, ?_⟩
          · intro b hb
            have hm : b.2 ∈ sel (esS W Hh ps) x.1 := by rw [← hsel]; exact List.mem_map_of_mem hb
            have := fam.mem _ (mem_sel.mp hm)
            rw [allR_len, List.length_replicate]
            exact ⟨this.1, this.2.2⟩
          · intro z
            obtain ⟨e0, he0⟩ := hex
            have := mem_sel.mpr he0
            rw [← hsel, z] at this
            cases this
          · have := sel_nd fam.nd x.1
            rw [← hsel, List.map_map] at this
            exact this
          · intro st' H8 pm pw sb hf8
            refine ⟨SameBut.trans s3 (SameBut.trans (Same.but s36) sb), ?_, _, _, _, _, _, _, rfl⟩
            rw [hf8, take_snoc eg, allR_snoc, ln_law tW tH]
            refine congrArg some (congrArg HO.lst (congrArg (List.map V.int) ?_))
            rw [wE_slant tW]
            have := fam.turn hex (hsel ▸ pm) pw (allR (fun r => gapS (wS W Hh r) (sS W Hh ps r) (fuel W Hh)) ((grp (esS W Hh ps)).take i) (List.replicate ps.length 0))
            rw [hsel]
            exact this
        · rintro σ H3 ⟨s3, hf3, q5, q6, q7, q8, q9, q11, rfl⟩
          have hl : ((kvR R).map fun kv => kV kv.1).length = (grp (esS W Hh ps)).length := by rw [← hR]; unfold kvR fgt; rw [List.length_map, List.length_map, List.length_map]
          rw [hl, List.take_length, slant_alg tb] at hf3
          refine ⟨_, rfl, q _ fd' ⟨fun b o e => ?_, hf3, s1.free nfd⟩⟩
          exact s3 _ _ (k0 _ _ (s1 _ _ e)) (s23 _ _ (s12 _ _ (s1 _ _ e)))
theorem c_lStEach (T : Txt K mg) : Cal P w K mg base 5 "_law_straight_each" ["_law_width", "_law_height", "_law_pockets"] (spEach straightN) := by
  obtain ⟨fd, F⟩ := T.d_lStEach
  have nd := sc_lStEach.nd
  have c_lPlaces := c_lPlaces (P := P) (w := w) (base := base) T
  have c_lShared := c_lShared (P := P) (w := w) (base := base) T
  refine ⟨_, fd, T.g_law_straight_each, F.ok sc_lStEach (fun vs H Q E h => ?_) (fun cdv A outer s H vs Q E hr h => have hu := hu_of hr; ⟨_, PSs.nox (pss_cons (ps_setLc (i := 3) (own := [("_law_pocket", 10)]) (g := gName 10) rfl nd rfl rfl (sw_true rfl rfl rfl (by decide +kernel)) (pi_tup (pv 2)) (blkOk_by (N := ["_law_width", "_law_height", "_law_pockets", "_law_found", "_law_part", "_law_size", "_law_rows", "_law_k", "_law_row_here", "_law_minute", "_law_pocket"]) (sc := defScope s_lStEach) (own := [("_law_pocket", 10)]) (by decide +kernel)) (fun _ _ _ _ _ => (pg_name (i := 10) nd rfl (Or.inl rfl))) (fun _ _ _ _ _ => pts_nil) (fun _ _ _ _ _ => pe_int)) (pss_cons (ps_for PassesOwn.never rfl (pi_list (pe_lst (pa_cons (pe_tup (pa_cons pe_int (pa_cons (pv 0) pa_nil))) (pa_cons (pe_tup (pa_cons pe_int (pa_cons (pv 1) pa_nil))) pa_nil)))) (pg_tup rfl (pgs_cons (pg_name (i := 4) nd rfl (Or.inl rfl)) (pgs_cons (pg_name (i := 5) nd rfl (Or.inl rfl)) pgs_nil))) (pss_cons (ps_set (i := 6) nd rfl (Or.inl rfl) pe_dnewK) (pss_cons (ps_for PassesOwn.never rfl (pi_range1 rfl T.b_range (pa_cons (pe_callB call_len_seq rfl T.b_len PySem.boot_len (pa_cons (pv 2) pa_nil)) pa_nil)) (pg_name (i := 7) nd rfl (Or.inl rfl)) (pss_cons (ps_set (i := 8) nd rfl (Or.inl rfl) (pe_ix ix_tup (pe_ix ix_tup (pv 2) (pv 7) (fun _ _ => rfl)) (pe_op op_sub pe_int (pv 4)) (fun _ _ => rfl))) (pss_one (ps_for PassesOwn.never rfl (pi_list (pe_fn c_lPlaces (hr.mono (by decide)) rfl (pa_cons (pe_ix ix_tup (pe_ix ix_tup (pv 2) (pv 7) (fun _ _ => rfl)) (pv 4) (fun _ _ => rfl)) (pa_cons (pv 5) pa_nil)))) (pg_name (i := 9) nd rfl (Or.inl rfl)) (pss_one (ps_dput hu (pv 6) (pv 8) (pe_op op_cat (pe_dget2 hu (pv 6) (pv 8) (pe_lst pa_nil) ⟨rfl, rfl, rfl, rfl⟩) (pe_lst (pa_cons (pe_tup (pa_cons (pv 9) (pa_cons (pv 7) pa_nil))) pa_nil))) rfl)))))) (pss_one (ps_for PassesOwn.never rfl (pi_list (pe_callTy (call_list_dK rfl) rfl T.b_list PyProof.Rows.boot_list (pa_cons (pv 6) pa_nil))) (pg_name (i := 8) nd rfl (Or.inl rfl)) (pss_one (ps_expr (pe_fn c_lShared (hr.mono (by decide)) rfl (pa_cons (pe_dget hu (pv 6) (pv 8) (fun _ _ => rfl)) (pa_cons (pe_lst (pa_cons (pe_tup (pa_cons pe_int (pa_cons (pv 5) pa_nil))) pa_nil)) (pa_cons (pe_op op_mulW pe_int (pv 5)) (pa_cons (pv 3) pa_nil)))))))))))) (pss_one (ps_ret (pv 3))))), ?_⟩), F.bindsN fun _ _ _ _ _ _ us hl => match us, hl with | [_, _, _], _ => rfl, F.kp⟩
  · obtain ⟨_, _, _, _, _, rfl, _⟩ := h
    rfl
  · obtain ⟨pp, pk, W, Hh, ps, rfl, hpp, hP, tb, few, w1', h1', q⟩ := h
    have tW := tb.w
    have tH := tb.h
    refine ⟨_, rfl, _, rfl, ⟨_, SqT.of hpp⟩, fun fd' nfd => ?_⟩
    refine lc_tup (xs := (List.range ps.length).map fun k => V.ref (pk k)) (Ints H fd' (List.replicate ps.length 0)) (Ints.zero nfd) (fun i H' _ h => SqT.of (h.1 _ _ hpp)) ?_ ?_
    · rintro i x H2 hx h2
      obtain ⟨hi, rfl⟩ := range_at hx
      refine ⟨rfl, _, h2.2, small_len (by rw [List.length_map, List.length_take, List.length_replicate]; omega), h2.more nfd ?_⟩
      rw [List.getElem?_replicate, if_pos hi]
    · rintro H0 h0
      have h0 : Ints H fd' (List.replicate ps.length 0) (List.replicate ps.length (0 : Int)).length H0 := by
        rw [List.length_map, List.length_range] at h0
        rw [List.length_replicate]; exact h0
      have hf0 := h0.done
      have s0 := h0.1
      refine ⟨_, rfl, len2, fun t1 nt1 => ?_⟩
      refine ⟨_, rfl, len2, fun t2 nt2 => ⟨len2, fun tp ntp => ⟨_, rfl, ⟨_, SqL.of upd_same⟩, ?_⟩⟩⟩
      have n12 : t1 ≠ t2 := ne_of_none upd_same nt2
      have n1e : t1 ≠ tp := ne_of_none (by rw [upd_ne n12, upd_same]) ntp
      have n2e : t2 ≠ tp := ne_of_none upd_same ntp
      have ss := ((Same.laid nt1).trans (Same.laid nt2)).trans (Same.laid (o := .lst [V.ref t1, V.ref t2]) ntp)
      have g1 : upd (upd (upd H0 t1 (.tup [.int 0, .int W])) t2 (.tup [.int 1, .int Hh])) tp (.lst [V.ref t1, V.ref t2]) t1 = some (.tup [.int 0, .int W]) := by rw [upd_ne n1e, upd_ne n12, upd_same]
      have g2 : upd (upd (upd H0 t1 (.tup [.int 0, .int W])) t2 (.tup [.int 1, .int Hh])) tp (.lst [V.ref t1, V.ref t2]) t2 = some (.tup [.int 1, .int Hh]) := by rw [upd_ne n2e, upd_same]
      have g3 : upd (upd (upd H0 t1 (.tup [.int 0, .int W])) t2 (.tup [.int 1, .int Hh])) tp (.lst [V.ref t1, V.ref t2]) tp = some (.lst [V.ref t1, V.ref t2]) := upd_same
      have hpf : tp ≠ fd' := fun z => by
        rw [z, Same.laid nt2 _ _ (Same.laid nt1 _ _ hf0)] at ntp; cases ntp
      have hf3 := ss _ _ hf0
      have s03 := s0.trans ss
      generalize upd (upd (upd H0 t1 (.tup [.int 0, .int W])) t2 (.tup [.int 1, .int Hh])) tp (.lst [V.ref t1, V.ref t2]) = Hs at ss g1 g2 g3 hf3 s03
      have nT : ∀ b xs, Hs b = some (.tup xs) → b ≠ fd' := fun b xs e => ne_of e hf3 (by intro z; cases z)
      refine for_list (xs := [V.ref t1, V.ref t2]) (fun i σ H' => SameBut fd' Hs H' ∧ H' fd' = some (.lst ((fI W Hh ps i).map V.int)) ∧ ∃ q4 q5 q6 q7 q8 q9, σ = [some (.int W), some (.int Hh), some (.ref pp), some (.ref fd'), q4, q5, q6, q7, q8, q9, none])
        ⟨Same.but (Same.refl _), hf3, none, none, none, none, none, none, rfl⟩ (fun i σ H' _ h => SqL.of (h.1 _ _ hpf g3)) ?_ ?_
      · rintro i x σ H1 hx ⟨s1, hf1, q4, q5, q6, q7, q8, q9, rfl⟩
        have part : ∃ (tt : Addr) (z N : Int) (mv fx : Int × Int → Int), x = V.ref tt ∧ Hs tt = some (.tup [.int z, .int N]) ∧ Tab1 N mv fx ps ∧ N ≤ 2 ^ 105 ∧ (∀ p : Int × Int, atI [V.int p.1, V.int p.2] z = some (.int (mv p))) ∧ (∀ p : Int × Int, atI [V.int p.1, V.int p.2] (1 - z) = some (.int (fx p))) ∧ fI W Hh ps (i + 1) = goT N mv fx ps (fI W Hh ps i) := by
          match i, hx with
          | 0, hx =>
            exact ⟨t1, 0, W, (·.1), (·.2), (Option.some.inj hx).symm, g1, tb.one, w1', fun p => atI_nat (j := 0) rfl, fun p => atI_nat (j := 1) rfl, rfl⟩
          | 1, hx =>
            exact ⟨t2, 1, Hh, (·.2), (·.1), (Option.some.inj hx).symm, g2, tb.two, h1', fun p => atI_nat (j := 1) rfl, fun p => atI_nat (j := 0) rfl, (straight_alg tb).symm⟩
          | n + 2, hx => simp at hx
        obtain ⟨tt, z, N, mv, fx, rfl, htt, tb1, Nb, hmv, hfx, hI⟩ := part
        have tN := tb1.n
        refine ⟨_, _, rfl, SqT.of (s1 _ _ (nT _ _ htt) htt), rfl, _, _, rfl, _, _, rfl, rfl, ?_⟩
        intro d nd0
        have k1 : ∀ b xs, Hs b = some (.tup xs) → H1 b = some (.tup xs) := fun b xs e => s1 b _ (nT _ _ e) e
        have kP : H1 pp = _ := k1 _ _ (s03 _ _ hpp)
        have kK : PkAt H1 pk ps := fun k p e => k1 _ _ (s03 _ _ (hP k p e))
        have sd : Same H1 (upd H1 d (.dK [])) := Same.laid nd0
        refine ⟨_, rfl, _, _, rfl, .inr (SqT.of (sd _ _ kP)), _, rfl, by omega, by rw [List.length_map, List.length_range]; omega, ?_⟩
        have hlen : (((((List.range ps.length).map fun k => V.ref (pk k)).length : Nat) : Int)).toNat = ps.length := by rw [List.length_map, List.length_range]; omega
        rw [hlen]
        refine for_range (n := ps.length) (fun j σ H' => Same H1 H' ∧ ∃ R, fgt R = grp (esV N mv fx ps j) ∧ RAt (fun b => H1 b ≠ none) H' d (fun k => .int (k : Nat)) R ∧
          ∃ q7 q8 q9, σ = [some (.int W), some (.int Hh), some (.ref pp), some (.ref fd'), some (.int z), some (.int N), some (.ref d), q7, q8, q9, none])
          ⟨sd, [], rfl, RAt.nil upd_same, q7, q8, q9, rfl⟩ ?_ ?_
        · rintro j σ H2 hj ⟨s2, R, hR, rat, q7, q8, q9, rfl⟩
          rw [show (0 : Int) + ((j : Nat) : Int) = (j : Nat) from by omega]
          have ep : ps[j]? = some ps[j] := List.getElem?_eq_getElem hj
          generalize ps[j] = p at ep
          have hat : atI ((List.range ps.length).map fun k => V.ref (pk k)) ((j : Nat) : Int) = some (.ref (pk j)) := atI_nat (by rw [List.getElem?_map, List.getElem?_range hj]; rfl)
          have hk := kK j p ep
          have on := tb1.on p (List.mem_of_getElem? ep)
          refine ⟨_, rfl, _, rfl, _, _, _, _, rfl, rfl, SqT.of (s2 _ _ kP), hat, _, rfl, _, _, rfl, rfl, _, _, _, _, rfl, rfl, SqT.of (s2 _ _ hk), hfx p, ?_⟩
          refine ⟨_, rfl, _, rfl, _, _, _, _, rfl, rfl, SqT.of (s2 _ _ kP), hat, _, rfl, _, _, _, _, rfl, rfl, SqT.of (s2 _ _ hk), hmv p, _, rfl, ?_⟩
          refine ⟨_, _, rfl, on.1, on.2, tN, by omega, fun H3 pA nA => ⟨_, rfl, ⟨_, SqL.of nA.2.1⟩, ?_⟩⟩
          refine for_list (xs := (sides (mv p) N).map V.int) (fun u σ H' => Same H1 H' ∧ H' pA = some (.lst ((sides (mv p) N).map V.int)) ∧ ∃ R, fgt R = grp (esV N mv fx ps j ++ ((sides (mv p) N).take u).map fun a => (fx p, (a, j))) ∧ RAt (fun b => H1 b ≠ none ∨ b = pA) H' d (fun k => .int (k : Nat)) R ∧
            ∃ q9, σ = [some (.int W), some (.int Hh), some (.ref pp), some (.ref fd'), some (.int z), some (.int N), some (.ref d), some (.int (j : Nat)), some (.int (fx p)), q9, none])
            ⟨s2.trans nA.1, nA.2.1, R, by rw [hR]; simp, (rat.more nA.2.2).same nA.1, q9, rfl⟩ (fun j σ H' _ h => SqL.of h.2.1) ?_ ?_
          · rintro u x σ H6 hx ⟨s5, hA5, R, hR, rat6, q9, rfl⟩
            rw [List.getElem?_map] at hx
            obtain ⟨al, eal, rfl⟩ := Option.map_eq_some_iff.mp hx
            have nk := nk_of (x := (fx p, (al, j))) hR
            have es_len : (esV N mv fx ps j ++ ((sides (mv p) N).take u).map fun a => (fx p, (a, j))).length ≤ 60 := by
              have l1 := esV_len N mv fx ps j
              have l3 := sides_len (mv p) N
              rw [List.length_append, List.length_map, List.length_take]
              omega
            obtain ⟨z1, z2⟩ := R_small hR
            refine ⟨_, rfl, d, rfl, .inl ⟨_, .inl rat6.dic⟩, _, rfl, (by show 0 ≤ sizeLine; decide), fun p1 np1 => ⟨_, DGet.k (k := .inl (fx p)) (Same.laid np1 _ _ rat6.dic), ?_⟩⟩
            have ho : ∃ l, (valV (kvR R) (.inl (fx p))).getD (.ref p1) = .ref l ∧ upd H6 p1 (.lst []) l = some (.lst ((oldR R (fx p)).map fun b => V.ref b.1)) ∧ (oldR R (fx p)).length ≤ 60 := by
              rcases kvR_val (fx p) R with ⟨g1, _, g3⟩ | ⟨y, g1, g2, g3, g4⟩
              · exact ⟨p1, by rw [g1]; rfl, by rw [upd_same, g3]; rfl, by rw [g3]; simp⟩
              · exact ⟨y.2.1, by rw [g3]; rfl, by rw [g4]; exact Same.laid np1 _ _ (rat6.ls y g1).1, by rw [g4]; have := z2 y g1; omega⟩
            obtain ⟨l0, el0, ll0, lz⟩ := ho
            refine ⟨_, rfl, _, rfl, len2, fun tt ntt => ⟨len1, fun p2 np2 => ?_⟩⟩
            refine ⟨l0, p2, _, [V.ref tt], el0, rfl, Same.laid np2 _ _ (Same.laid ntt _ _ ll0), upd_same, ?_, fun p3 np3 => ?_⟩
            · rw [List.length_map]
              exact Nat.le_of_lt (small1000 (by show (oldR R (fx p)).length + 1 ≤ 1000; omega))
            have zf : ∀ b, (H1 b ≠ none ∨ b = pA) → H6 b ≠ none := fun b hb => by
              rcases hb with hb | hb
              · cases e : H1 b with
                | none => exact absurd e hb
                | some o => rw [s5 _ _ e]; simp
              · rw [hb, hA5]; simp
            have s69 := (((Same.laid (o := .lst []) np1).trans (Same.laid (o := .tup [.int al, .int (j : Nat)]) ntt)).trans (Same.laid (o := .lst [.ref tt]) np2)).trans (Same.laid (o := .lst (((oldR R (fx p)).map fun b => V.ref b.1) ++ [.ref tt])) np3)
            obtain ⟨r9, k9⟩ := rat6.app2 (m := al) (k := j) nk zf np1 ntt np2 np3
            refine ⟨_, rfl, _, rfl, d, _, rfl, DPut.k (k := .inl (fx p)) (s69 _ _ rat6.dic) (small_len (by unfold kvR; rw [List.length_map]; omega)), ?_⟩
            refine ⟨fun b o e => k9 b o (ne_of_none e nd0) (s5 _ _ e), k9 _ _ (ne_of hA5 rat6.dic (by intro z; cases z)) hA5, _, ?_, r9, _, rfl⟩
            rw [fgt_upd, hR, take_snoc eal, List.map_append, ← List.append_assoc]
            exact (grp_snoc _ (fx p, (al, j))).symm
          · rintro σ H6 ⟨s6, hA6, R, hR, rat, q9, rfl⟩
            refine ⟨s6, R, ?_, rat.less fun b hb => .inl hb, _, _, _, rfl⟩
            rw [hR, List.length_map, List.take_length, esV_snoc ep]
        · rintro σ H2 ⟨s2, R, hR, rat, q7, q8, q9, rfl⟩
          rw [esV_all] at hR
          refine ⟨_, rfl, d, kvR R, rfl, rat.dic, fun kl nkl => ⟨_, rfl, ⟨_, SqL.of upd_same⟩, ?_⟩⟩
          have s23 : Same H2 (upd H2 kl (.lst ((kvR R).map fun kv => kV kv.1))) := Same.laid nkl
          have hf2 := s2 _ _ hf1
          have kf : kl ≠ fd' := (ne_of_none hf2 nkl).symm
          have fam := famT tb1
          have ggd := grp_good (esT N mv fx ps)
          have k0 : ∀ x ∈ R, x.2.1 ≠ fd' := fun x hx e => rat.av x hx (by rw [e, hf1]; simp)
          have ksz : upd H2 kl (.lst ((kvR R).map fun kv => kV kv.1)) kl = _ := upd_same
          generalize upd H2 kl (.lst ((kvR R).map fun kv => kV kv.1)) = H2s at s23 ksz
          refine for_list (xs := (kvR R).map fun kv => kV kv.1) (fun u σ H' => SameBut fd' H2s H' ∧ H' fd' = some (.lst ((allR (fun r => gapS (w1 N) (sT N mv fx ps r) (fuel1 N)) ((grp (esT N mv fx ps)).take u) (fI W Hh ps i)).map V.int)) ∧
            ∃ q7 q8 q9, σ = [some (.int W), some (.int Hh), some (.ref pp), some (.ref fd'), some (.int z), some (.int N), some (.ref d), q7, q8, q9, none])
            ⟨Same.but (Same.refl _), s23 _ _ hf2, _, _, _, rfl⟩ (fun i σ H' _ h => SqL.of (h.1 _ _ kf ksz)) ?_ ?_
          · rintro u x σ H3 hx ⟨s3, hf3', q7, q8, q9, rfl⟩
            rw [List.getElem?_map] at hx
            unfold kvR at hx
            rw [List.getElem?_map] at hx
            obtain ⟨_, hx1, rfl⟩ := Option.map_eq_some_iff.mp hx
            obtain ⟨x, eR, rfl⟩ := Option.map_eq_some_iff.mp hx1
            have hxR := List.mem_of_getElem? eR
            have eg : (grp (esT N mv fx ps))[u]? = some (x.1, x.2.2.map (·.2)) := by rw [← hR]; unfold fgt; rw [List.getElem?_map, eR]; rfl
            have hmg := List.mem_of_getElem? eg
            have hsel : x.2.2.map (·.2) = sel (esT N mv fx ps) x.1 := ggd.eq _ hmg
            have hex : ∃ e, (x.1, e) ∈ esT N mv fx ps := (ggd.key x.1).mp (List.mem_map_of_mem (f := (·.1)) hmg)
            obtain ⟨lx1, lx2⟩ := rat.ls x hxR
            have hv : valV (kvR R) (.inl x.1) = some (.ref x.2.1) := by
              rcases kvR_val x.1 R with ⟨_, g2, _⟩ | ⟨y, g1, g2, g3, _⟩
              · exact absurd rfl (g2 x hxR)
              · rw [g3]
                have : y = x := by
                  obtain ⟨i1, h1, e1⟩ := List.getElem_of_mem g1
                  obtain ⟨i2, h2, e2⟩ := List.getElem_of_mem hxR
                  have : i1 = i2 := by
                    refine (List.getElem_inj rat.nd (h₀ := by rw [List.length_map]; exact h1) (h₁ := by rw [List.length_map]; exact h2)).mp ?_
                    rw [List.getElem_map, List.getElem_map, e1, e2, g2]
                  subst this
                  exact e1.symm.trans e2
                rw [this]
            have ndf : d ≠ fd' := (ne_of_none hf1 nd0).symm
            have kd : H3 d = _ := s3 _ _ ndf (s23 _ _ rat.dic)
            have hg : DGet H3 d (.int x.1) (some (.ref x.2.1)) := by
              rw [← hv]
              exact DGet.k (k := .inl x.1) kd
            have tne : ∀ b xs, H2 b = some (.tup xs) → b ≠ fd' := fun b xs e => ne_of e hf2 (by intro z; cases z)
            refine ⟨_, rfl, _, rfl, d, _, rfl, hg, _, rfl, len2, fun t5 nt5 => ⟨len1, fun e ne => ?_⟩⟩
            have n5e : t5 ≠ e := ne_of_none upd_same ne
            have s36 := (Same.laid nt5).trans (Same.laid (o := .lst [V.ref t5]) ne)
            have f1 : upd (upd H3 t5 (.tup [.int 0, .int N])) e (.lst [V.ref t5]) t5 = some (.tup [.int 0, .int N]) := by rw [upd_ne n5e, upd_same]
            have f3 : upd (upd H3 t5 (.tup [.int 0, .int N])) e (.lst [V.ref t5]) e = some (.lst [V.ref t5]) := upd_same
            have hef : e ≠ fd' := fun z => by rw [z, Same.laid nt5 _ _ hf3'] at ne; cases ne
            have cl2 : Cl (0, N) := ⟨Int.le_refl _, tN⟩
            refine ⟨_, rfl, _, _, rfl, rfl, wmul (by omega) (by omega) (by omega) (by omega), _, rfl, ?_⟩
            refine ⟨e, x.2.1, fd', 2 * N, [V.ref t5], [(0, N)], x.2.2, _, rfl, f3, .cons ⟨t5, rfl, f1⟩ .nil, .inl ⟨_, rfl, cl2, by show N ≤ _; omega⟩, s36 _ _ (s3 _ _ (k0 x hxR) (s23 _ _ lx1)), k0 x hxR, hef, fun b hb => s36 _ _ (s3 _ _ (tne _ _ (lx2 b hb)) (s23 _ _ (lx2 b hb))), ?_, ?_, Int.le_of_lt fam.pos, ?_, s36 _ _ hf3', ?_⟩
            · intro b hb
              have hm : b.2 ∈ sel (esT N mv fx ps) x.1 := by rw [← hsel]; exact List.mem_map_of_mem hb
              have := fam.mem _ (mem_sel.mp hm)
              rw [allR_len, fI_len]
              exact ⟨this.1, this.2.2⟩
            · intro z
              obtain ⟨e0, he0⟩ := hex
              have := mem_sel.mpr he0
              rw [← hsel, z] at this
              cases this
            · have := sel_nd fam.nd x.1
              rw [← hsel, List.map_map] at this
              exact this
            · intro st' H8 pm pw sb hf8
              refine ⟨SameBut.trans s3 (SameBut.trans (Same.but s36) sb), ?_, _, _, _, rfl⟩
              rw [hf8, take_snoc eg, allR_snoc]
              refine congrArg some (congrArg HO.lst (congrArg (List.map V.int) ?_))
              rw [wE_straight]
              have := fam.turn hex (hsel ▸ pm) pw (allR (fun r => gapS (w1 N) (sT N mv fx ps r) (fuel1 N)) ((grp (esT N mv fx ps)).take u) (fI W Hh ps i))
              rw [hsel]
              exact this
          · rintro σ H3 ⟨s3, hf3', q7, q8, q9, rfl⟩
            have hl : ((kvR R).map fun kv => kV kv.1).length = (grp (esT N mv fx ps)).length := by rw [← hR]; unfold kvR fgt; rw [List.length_map, List.length_map, List.length_map]
            rw [hl, List.take_length] at hf3'
            refine ⟨?_, by rw [hI]; exact hf3', _, _, _, _, _, _, rfl⟩
            exact fun b o n e => s3 _ _ n (s23 _ _ (s2 _ _ (s1 _ _ n e)))
      · rintro σ H3 ⟨s3, hf3', q4, q5, q6, q7, q8, q9, rfl⟩
        exact ⟨_, rfl, q _ fd' ⟨fun b o e => s3 _ _ (ne_of_none e nfd) (s03 _ _ e), hf3', nfd⟩⟩
end
end Cu
/-! W17 -/
set_option Elab.async false
set_option linter.all false
set_option maxRecDepth 100000
set_option maxHeartbeats 0
namespace Cu
open PySem PySem.Spec PyProof.Rows L2
/-! _law_round_weight -/
def spWR : Sp := fun vs H Q _ => ∃ W Hh r : Int, vs = [.int W, .int Hh, .int r] ∧ 0 < W ∧ 0 < Hh ∧ W ≤ 2 ^ 105 ∧ Hh ≤ 2 ^ 105 ∧ Q (.int (roundW W Hh r)) H
theorem inV_ints (z : Int) (l : List Int) : inV (.int z) (l.map V.int) = decide (z ∈ l) := by
  unfold inV
  induction l with
  | nil => rfl
  | cons a l ih =>
    rw [List.map_cons, List.any_cons, ih]
    show ((a == z) || decide (z ∈ l)) = _
    by_cases c : a = z
    · subst c; simp
    · rw [beq_eq_false_iff_ne.mpr c, Bool.false_or]
      have : (z ∈ a :: l) ↔ z ∈ l := by rw [List.mem_cons]; exact ⟨fun h => h.resolve_left fun e => c e.symm, .inr⟩
      exact (decide_eq_decide.mpr this).symm
theorem flat_ints (l : List Int) : (l.map V.int).all flatV = true := by
  rw [List.all_eq_true]
  intro x hx
  obtain ⟨i, _, rfl⟩ := List.mem_map.mp hx
  rfl
theorem dd_snoc (l : List Int) (x : Int) : dd (l ++ [x]) = addNew (dd l) x := by unfold dd; rw [List.foldl_append]; rfl
theorem dd_len (l : List Int) : (dd l).length ≤ l.length := by
  have gen : ∀ (l acc : List Int), (l.foldl addNew acc).length ≤ acc.length + l.length := by
    intro l
    induction l with
    | nil => intro acc; simp
    | cons a l ih =>
      intro acc
      have h1 := ih (addNew acc a)
      have h2 : (addNew acc a).length ≤ acc.length + 1 := by unfold addNew; split <;> simp
      simp only [List.foldl_cons, List.length_cons]; omega
  have := gen l []
  unfold dd
  simpa using this
theorem sumBy_sum {α : Type} (f : α → Int) : ∀ l : List α, sumBy f l = (l.map f).sum
  | [] => rfl
  | x :: l => by show f x + sumBy f l = _; rw [sumBy_sum f l, List.map_cons, List.sum_cons]
/-- pockets of the law -/
structure PpAt (H : Hp) (pp : Addr) (pk : Nat → Addr) (ps : List (Int × Int)) : Prop where
  pp : H pp = some (.tup ((List.range ps.length).map fun k => V.ref (pk k)))
  pk : PkAt H pk ps
theorem PpAt.same {H H' : Hp} {pp : Addr} {pk : Nat → Addr} {ps : List (Int × Int)} (h : PpAt H pp pk ps) (s : Same H H') : PpAt H' pp pk ps := ⟨s _ _ h.pp, fun k p e => s _ _ (h.pk k p e)⟩
theorem PpAt.but {a : Addr} {u : HO} {H H' : Hp} {pp : Addr} {pk : Nat → Addr} {ps : List (Int × Int)} (h : PpAt H pp pk ps) (s : SameBut a H H') (ha : H a = some u) (hu : ∀ l, u ≠ .tup l) : PpAt H' pp pk ps :=
  ⟨s _ _ (ne_of h.pp ha (fun z => hu _ z.symm)) h.pp, fun k p e => s _ _ (ne_of (h.pk k p e) ha (fun z => hu _ z.symm)) (h.pk k p e)⟩
def spSum (val : Int → Int → List (Int × Int) → Int) : Sp := fun vs H Q _ => ∃ (pp : Addr) (pk : Nat → Addr) (W Hh : Int) (ps : List (Int × Int)), vs = [.int W, .int Hh, .ref pp] ∧ PpAt H pp pk ps ∧ Tab W Hh ps ∧ ps.length ≤ 12 ∧ W ≤ 2 ^ 105 ∧ Hh ≤ 2 ^ 105 ∧
  ∀ H', Same H H' → Q (.int (val W Hh ps)) H'
section
variable {P : Program} {w : World} {K : PySem.W.Frag} {mg : Str → Option Value} {base : Heap}
theorem c_lWeightR (T : Txt K mg) : Cal P w K mg base 2 "_law_round_weight" ["_law_width", "_law_height", "_law_first"] spWR := by
  obtain ⟨fd, F⟩ := T.d_lWeightR
  have nd := sc_lWeightR.nd
  have c_lGcd := c_lGcd (P := P) (w := w) (base := base) T
  refine ⟨_, fd, T.g_law_round_weight, F.ok sc_lWeightR (fun vs H Q E h => ?_) (fun cdv A outer s H vs Q E hr h => have hu := hu_of hr; ⟨_, PSs.nox (pss_cons (ps_set (i := 3) nd rfl (Or.inl rfl) (pe_op op_mulW (pe_op op_mulW (pe_op op_fdivW (pe_op op_mulW pe_int (pv 0)) (pe_fn c_lGcd (hr.mono (by decide)) rfl (pa_cons (pe_op op_mulW pe_int (pv 0)) (pa_cons (pe_op op_mulW pe_int (pv 1)) pa_nil)))) pe_int) (pv 1))) (pss_cons (ps_set (i := 4) nd rfl (Or.inl rfl) (pe_op op_add (pe_op op_add (pv 3) (pe_op op_fdivW (pv 3) (pv 0))) (pe_op op_fdivW (pv 3) (pv 1)))) (pss_cons (ps_set (i := 5) nd rfl (Or.inl rfl) (pe_fn c_lGcd (hr.mono (by decide)) rfl (pa_cons (pv 0) (pa_cons (pv 1) pa_nil)))) (pss_cons (ps_if (pt_cmpR op_eq (pe_op op_mod (pe_callTy call_int1 rfl T.b_int PyProof.Rows.boot_int (pa_cons (pv 2) pa_nil)) (pv 5)) pe_int (nomark _)) (pss_one (ps_set (i := 4) nd rfl (Or.inl rfl) (pe_op op_add (pv 4) (pe_op op_fdivW (pv 3) (pe_op op_mulW (pe_op op_fdivW (pv 0) (pv 5)) (pv 1)))))) pss_nil) (pss_one (ps_ret (pv 4))))))), ?_⟩), F.bindsN fun _ _ _ _ _ _ us hl => match us, hl with | [_, _, _], _ => rfl, F.kp⟩
  · obtain ⟨_, _, _, rfl, _⟩ := h
    rfl
  · obtain ⟨W, Hh, r, rfl, tW, tH, w1', h1', q⟩ := h
    have g0 : 0 < gc (2 * W) (2 * Hh) := gc_pos (m := 2 * W) (n := 2 * Hh) (by omega)
    have g1 : gc (2 * W) (2 * Hh) ≤ 2 * W := Int.le_of_dvd (by omega) (gc_l ..)
    have d0 := le_div (show 0 ≤ 2 * W by omega) g0
    have f0 : 0 < gc W Hh := gc_pos tW
    have f1 : gc W Hh ≤ W := Int.le_of_dvd tW (gc_l ..)
    have d1 := le_div (show 0 ≤ W by omega) f0
    have d2 : 0 < W / gc W Hh := by
      obtain ⟨m', n', e1, e2, p1, p2, x1, x2⟩ := gc_parts tW tH
      rw [x1]; exact p1
    refine ⟨_, rfl, _, _, rfl, rfl, wmul (by omega) (by omega) (by omega) (by omega), _, rfl, _, _, rfl, rfl, wmul (by omega) (by omega) (by omega) (by omega), _, rfl, _, _, rfl, rfl, wmul (by omega) (by omega) (by omega) (by omega), 2 * W, 2 * Hh, rfl, by omega, by omega, by omega, ?_⟩
    refine ⟨_, _, rfl, rfl, wdiv g0 (by omega), _, _, rfl, rfl, wmul (by omega) (by omega) (by omega) (by omega), _, rfl, _, _, rfl, rfl, wmul (by omega) (by omega) (by omega) (by omega), ?_⟩
    refine ⟨_, rfl, _, rfl, _, rfl, _, _, rfl, rfl, wdiv tW (by omega), _, _, rfl, rfl, _, rfl, _, rfl, _, _, rfl, rfl, wdiv tH (by omega), _, _, rfl, rfl, ?_⟩
    refine ⟨_, rfl, _, rfl, W, Hh, rfl, tW, by omega, by omega, ?_⟩
    refine ⟨_, rfl, .inl ⟨_, rfl, _, rfl, _, _, rfl, rfl, f0, rfl, _, rfl, ?_⟩⟩
    unfold roundW at q
    by_cases c : r % gc W Hh = 0
    · rw [show decide (V.int (r % gc W Hh) = V.int 0) = true by rw [c]; rfl]
      rw [if_pos c] at q
      have m1 : 0 < W / gc W Hh * Hh := Int.mul_pos d2 tH
      have m2 : W / gc W Hh * Hh ≤ 2 ^ 105 * 2 ^ 105 := Int.mul_le_mul (by omega) h1' (by omega) (by omega)
      exact iteT ⟨_, rfl, _, rfl, _, rfl, _, rfl, _, _, rfl, rfl, wdiv f0 (by omega), _, rfl, _, _, rfl, rfl, wmul (by omega) (by omega) (by omega) (by omega), _, _, rfl, rfl, wdiv m1 (by omega), _, _, rfl, rfl, _, rfl, q⟩
    · rw [show decide (V.int (r % gc W Hh) = V.int 0) = false from decide_eq_false fun e => c (V.int.inj e)]
      rw [if_neg c, Int.add_zero] at q
      exact iteF ⟨_, rfl, q⟩
theorem c_lSlanting (T : Txt K mg) : Cal P w K mg base 3 "_law_slanting" ["_law_width", "_law_height", "_law_pockets"] (spSum fun W Hh ps => sumBy (roundW W Hh) (roundsL W Hh ps)) := by
  obtain ⟨fd, F⟩ := T.d_lSlanting
  have nd := sc_lSlanting.nd
  have c_lGcd := c_lGcd (P := P) (w := w) (base := base) T
  have c_lWeightR := c_lWeightR (P := P) (w := w) (base := base) T
  refine ⟨_, fd, T.g_law_slanting, F.ok sc_lSlanting (fun vs H Q E h => ?_) (fun cdv A outer s H vs Q E hr h => have hu := hu_of hr; ⟨_, PSs.nox (pss_cons (ps_set (i := 3) nd rfl (Or.inl rfl) (pe_fn c_lGcd (hr.mono (by decide)) rfl (pa_cons (pe_op op_mulW pe_int (pv 0)) (pa_cons (pe_op op_mulW pe_int (pv 1)) pa_nil)))) (pss_cons (ps_set (i := 4) nd rfl (Or.inl rfl) (pe_lst pa_nil)) (pss_cons (ps_for PassesOwn.never rfl (pi_tup (pv 2)) (pg_tup rfl (pgs_cons (pg_name (i := 5) nd rfl (Or.inl rfl)) (pgs_cons (pg_name (i := 6) nd rfl (Or.inl rfl)) pgs_nil))) (pss_one (ps_for PassesOwn.never rfl (pi_list (pe_lst (pa_cons (pe_op op_sub (pv 5) (pv 6)) (pa_cons (pe_op op_add (pv 5) (pv 6)) (pa_cons (pe_op op_sub (pe_op op_sub pe_int (pv 5)) (pv 6)) (pa_cons (pe_op op_sub (pv 6) (pv 5)) pa_nil)))))) (pg_name (i := 7) nd rfl (Or.inl rfl)) (pss_one (ps_if (pt_cmpR op_notIn_seq (pe_op op_mod (pe_callTy call_int1 rfl T.b_int PyProof.Rows.boot_int (pa_cons (pv 7) pa_nil)) (pv 3)) (pv 4) rfl) (pss_one (ps_expr (pe_bm PySem.F.plainAttrs_list PySem.F.slot_list_append PySem.F.type_list_append mt_append (pv 4) (pa_cons (pe_op op_mod (pe_callTy call_int1 rfl T.b_int PyProof.Rows.boot_int (pa_cons (pv 7) pa_nil)) (pv 3)) pa_nil)))) pss_nil))))) (pss_one (ps_ret (pe_callB (cr_sum rfl) rfl T.b_sum (by decide +kernel) (pa_cons (pe_lc (own := [("_law_first", 7)]) (g := gName 7) rfl nd (pi_list (pv 4)) (blkOk_by (N := ["_law_width", "_law_height", "_law_pockets", "_law_common", "_law_rounds", "_law_x", "_law_y", "_law_first"]) (sc := defScope s_lSlanting) (own := [("_law_first", 7)]) (by decide +kernel)) (fun _ _ _ _ _ => (pg_name (i := 7) nd rfl (Or.inl rfl))) (fun _ _ _ _ _ => pts_nil) (fun _ _ _ _ _ => (pe_fn c_lWeightR (hr.mono (by decide)) rfl (pa_cons (pv 0) (pa_cons (pv 1) (pa_cons (pv 7) pa_nil)))))) pa_nil))))))), ?_⟩), F.bindsN fun _ _ _ _ _ _ us hl => match us, hl with | [_, _, _], _ => rfl, F.kp⟩
  · obtain ⟨_, _, _, _, _, rfl, _⟩ := h
    rfl
  · obtain ⟨pp, pk, W, Hh, ps, rfl, hpp, tb, few, w1', h1', q⟩ := h
    have tW := tb.w
    have tH := tb.h
    have g0 : 0 < cm W Hh := gc_pos (m := 2 * W) (n := 2 * Hh) (by omega)
    refine ⟨_, rfl, _, _, rfl, rfl, wmul (by omega) (by omega) (by omega) (by omega), _, rfl, _, _, rfl, rfl, wmul (by omega) (by omega) (by omega) (by omega), 2 * W, 2 * Hh, rfl, by omega, by omega, by omega, ?_⟩
    refine ⟨by show 0 ≤ sizeLine; decide, fun rl nrl => ?_⟩
    have s0 : Same H (upd H rl (.lst [])) := Same.laid nrl
    refine ⟨_, rfl, _, rfl, ⟨_, SqT.of (s0 _ _ hpp.pp)⟩, ?_⟩
    refine for_tup (xs := (List.range ps.length).map fun k => V.ref (pk k)) (fun i σ H' => Same H H' ∧ H' rl = some (.lst ((dd ((ps.take i).flatMap (firsts (cm W Hh)))).map V.int)) ∧
      ∃ q5 q6 q7, σ = [some (.int W), some (.int Hh), some (.ref pp), some (.int (cm W Hh)), some (.ref rl), q5, q6, q7]) ⟨s0, upd_same, none, none, none, rfl⟩ (fun i σ H' _ h => SqT.of (h.1 _ _ hpp.pp)) ?_ ?_
    · rintro i x σ H1 hx ⟨s1, hr1, q5, q6, q7, rfl⟩
      obtain ⟨hi, rfl⟩ := range_at hx
      have ep : ps[i]? = some ps[i] := List.getElem?_eq_getElem hi
      generalize ps[i] = p at ep
      refine ⟨_, _, rfl, SqT.of (s1 _ _ (hpp.pk i p ep)), rfl, _, _, rfl, _, _, rfl, rfl, ?_⟩
      refine ⟨_, rfl, _, rfl, _, _, rfl, rfl, _, rfl, _, rfl, _, _, rfl, rfl, _, rfl, _, _, rfl, rfl, _, rfl, _, _, rfl, rfl, _, rfl, _, rfl, _, _, rfl, rfl, (by show 4 ≤ sizeLine; decide), fun kl nkl => ?_⟩
      have krl : rl ≠ kl := ne_of_none hr1 nkl
      refine ⟨_, rfl, ⟨_, SqL.of upd_same⟩, ?_⟩
      refine for_list (xs := [p.1 - p.2, p.1 + p.2, 0 - p.1 - p.2, p.2 - p.1].map V.int) (fun j σ H' => Same H H' ∧ H' kl = some (.lst ([p.1 - p.2, p.1 + p.2, 0 - p.1 - p.2, p.2 - p.1].map V.int)) ∧ H' rl = some (.lst ((dd ((ps.take i).flatMap (firsts (cm W Hh)) ++ (firsts (cm W Hh) p).take j)).map V.int)) ∧
        ∃ q7, σ = [some (.int W), some (.int Hh), some (.ref pp), some (.int (cm W Hh)), some (.ref rl), some (.int p.1), some (.int p.2), q7])
        ⟨s1.trans (Same.laid nkl), upd_same, by rw [upd_ne krl, hr1]; simp, q7, rfl⟩ (fun i σ H' _ h => SqL.of h.2.1) ?_ ?_
      · rintro j x σ H2 hx ⟨s2, hk2, hr2, q7, rfl⟩
        rw [List.getElem?_map] at hx
        obtain ⟨f, ef, rfl⟩ := Option.map_eq_some_iff.mp hx
        have ef2 : (firsts (cm W Hh) p)[j]? = some (f % cm W Hh) := by
          have : firsts (cm W Hh) p = [p.1 - p.2, p.1 + p.2, 0 - p.1 - p.2, p.2 - p.1].map (· % cm W Hh) := rfl
          rw [this, List.getElem?_map, ef]; rfl
        refine ⟨_, rfl, .inl ⟨_, rfl, _, rfl, _, _, rfl, rfl, g0, _, rfl, _, _, rfl, .inl (SqL.of hr2), rfl, flat_ints _, _, rfl, ?_⟩⟩
        have eD : dd ((ps.take i).flatMap (firsts (cm W Hh)) ++ (firsts (cm W Hh) p).take (j + 1)) = addNew (dd ((ps.take i).flatMap (firsts (cm W Hh)) ++ (firsts (cm W Hh) p).take j)) (f % cm W Hh) := by
          rw [take_snoc ef2, ← List.append_assoc, dd_snoc]
        have small : (dd ((ps.take i).flatMap (firsts (cm W Hh)) ++ (firsts (cm W Hh) p).take j)).length ≤ 60 := by
          have h1 := dd_len ((ps.take i).flatMap (firsts (cm W Hh)) ++ (firsts (cm W Hh) p).take j)
          have h2 := flat_len (f := firsts (cm W Hh)) (c := 4) (fun x => Nat.le_refl _) (ps.take i)
          have h3 : ((firsts (cm W Hh) p).take j).length ≤ 4 := by rw [List.length_take]; show min j 4 ≤ 4; omega
          have h4 : (ps.take i).length ≤ ps.length := by rw [List.length_take]; omega
          rw [List.length_append] at h1
          omega
        show if (!inV (.int (f % cm W Hh)) ((dd ((ps.take i).flatMap (firsts (cm W Hh)) ++ (firsts (cm W Hh) p).take j)).map V.int)) = true then _ else _
        rw [inV_ints]
        by_cases c : f % cm W Hh ∈ dd ((ps.take i).flatMap (firsts (cm W Hh)) ++ (firsts (cm W Hh) p).take j)
        · rw [decide_eq_true c]
          refine iteF ⟨s2, hk2, ?_, _, rfl⟩
          rw [eD]
          unfold addNew
          rw [if_pos c]; exact hr2
        · rw [decide_eq_false c]
          refine iteT ⟨_, rfl, .inl ⟨rfl, _, SqL.of hr2⟩, _, rfl, .inl ⟨_, rfl, _, rfl, _, _, rfl, rfl, g0, _, _, _, rfl, rfl, hr2, ?_, ?_⟩⟩
          · exact small_len (by rw [List.length_map]; omega)
          · refine ⟨Same.off s2 nrl, by rw [upd_ne krl.symm]; exact hk2, ?_, _, rfl⟩
            rw [upd_same, eD]
            unfold addNew
            rw [if_neg c, List.map_append]
            rfl
      · rintro σ H2 ⟨s2, hk2, hr2, q7, rfl⟩
        refine ⟨s2, ?_, _, _, _, rfl⟩
        rw [hr2, flat_snoc ep]
        rfl
    · rintro σ H1 ⟨s1, hr1, q5, q6, q7, rfl⟩
      rw [List.length_map, List.length_range, List.take_length] at hr1
      have hr1 : H1 rl = some (.lst ((roundsL W Hh ps).map V.int)) := hr1
      have few2 : (roundsL W Hh ps).length ≤ 48 := by
        have h1 := dd_len (ps.flatMap (firsts (gc (2 * W) (2 * Hh))))
        have h2 := flat_len (f := firsts (gc (2 * W) (2 * Hh))) (c := 4) (fun x => Nat.le_refl _) ps
        unfold roundsL
        omega
      refine ⟨_, rfl, _, rfl, ⟨_, SqL.of hr1⟩, fun D nD => ?_⟩
      refine lc_list (xs := (roundsL W Hh ps).map V.int) (Ints H1 D ((roundsL W Hh ps).map (roundW W Hh))) (Ints.zero nD) (fun i H' _ h => SqL.of (h.1 _ _ hr1)) ?_ ?_
      · rintro i x H2 hx h2
        rw [List.getElem?_map] at hx
        obtain ⟨f, ef, rfl⟩ := Option.map_eq_some_iff.mp hx
        refine ⟨rfl, _, rfl, _, rfl, _, rfl, W, Hh, f, rfl, tW, tH, w1', h1', _, h2.2, small_len (by rw [List.length_map, List.length_take, List.length_map]; omega), h2.more nD ?_⟩
        rw [List.getElem?_map, ef]; rfl
      · rintro H2 h2
        have h2 : Ints H1 D ((roundsL W Hh ps).map (roundW W Hh)) ((roundsL W Hh ps).map (roundW W Hh)).length H2 := by
          rw [List.length_map] at h2
          rw [List.length_map]; exact h2
        refine ⟨_, _, rfl, SqL.of h2.done, ?_⟩
        rw [← sumBy_sum]
        exact q _ (s1.trans h2.1)
theorem c_lStraight (T : Txt K mg) : Cal P w K mg base 1 "_law_straight" ["_law_width", "_law_height", "_law_pockets"] (spSum fun W Hh ps => ((rowsL ps).length : Int) * 2 * (W + 1) + ((colsL ps).length : Int) * 2 * (Hh + 1)) := by
  obtain ⟨fd, F⟩ := T.d_lStraight
  have nd := sc_lStraight.nd
  refine ⟨_, fd, T.g_law_straight, F.ok sc_lStraight (fun vs H Q E h => ?_) (fun cdv A outer s H vs Q E hr h => have hu := hu_of hr; ⟨_, PSs.nox (pss_cons (ps_set (i := 3) nd rfl (Or.inl rfl) (pe_lst pa_nil)) (pss_cons (ps_set (i := 4) nd rfl (Or.inl rfl) (pe_lst pa_nil)) (pss_cons (ps_for PassesOwn.never rfl (pi_tup (pv 2)) (pg_tup rfl (pgs_cons (pg_name (i := 5) nd rfl (Or.inl rfl)) (pgs_cons (pg_name (i := 6) nd rfl (Or.inl rfl)) pgs_nil))) (pss_cons (ps_if (pt_cmpR op_notIn_seq (pv 6) (pv 3) rfl) (pss_one (ps_expr (pe_bm PySem.F.plainAttrs_list PySem.F.slot_list_append PySem.F.type_list_append mt_append (pv 3) (pa_cons (pv 6) pa_nil)))) pss_nil) (pss_one (ps_if (pt_cmpR op_notIn_seq (pv 5) (pv 4) rfl) (pss_one (ps_expr (pe_bm PySem.F.plainAttrs_list PySem.F.slot_list_append PySem.F.type_list_append mt_append (pv 4) (pa_cons (pv 5) pa_nil)))) pss_nil)))) (pss_one (ps_ret (pe_op op_add (pe_op op_mulW (pe_op op_mulW (pe_callB call_len_seq rfl T.b_len PySem.boot_len (pa_cons (pv 3) pa_nil)) pe_int) (pe_op op_add (pv 0) pe_int)) (pe_op op_mulW (pe_op op_mulW (pe_callB call_len_seq rfl T.b_len PySem.boot_len (pa_cons (pv 4) pa_nil)) pe_int) (pe_op op_add (pv 1) pe_int)))))))), ?_⟩), F.bindsN fun _ _ _ _ _ _ us hl => match us, hl with | [_, _, _], _ => rfl, F.kp⟩
  · obtain ⟨_, _, _, _, _, rfl, _⟩ := h
    rfl
  · obtain ⟨pp, pk, W, Hh, ps, rfl, hpp, tb, few, w1', h1', q⟩ := h
    have tW := tb.w
    have tH := tb.h
    refine ⟨by show 0 ≤ sizeLine; decide, fun rl nrl => ?_⟩
    refine ⟨by show 0 ≤ sizeLine; decide, fun cl ncl => ?_⟩
    have nrc : rl ≠ cl := ne_of_none upd_same ncl
    have s0 : Same H (upd (upd H rl (.lst [])) cl (.lst [])) := (Same.laid nrl).trans (Same.laid ncl)
    have ncl0 : H cl = none := (Same.laid nrl).free ncl
    refine ⟨_, rfl, _, rfl, ⟨_, SqT.of (s0 _ _ hpp.pp)⟩, ?_⟩
    have lens : ∀ i (f : Int × Int → Int), (dd ((ps.take i).map f)).length ≤ 12 := fun i f => by
      have h1 := dd_len ((ps.take i).map f)
      rw [List.length_map, List.length_take] at h1
      omega
    refine for_tup (xs := (List.range ps.length).map fun k => V.ref (pk k)) (fun i σ H' => Same H H' ∧ H' rl = some (.lst ((dd ((ps.take i).map (·.2))).map V.int)) ∧ H' cl = some (.lst ((dd ((ps.take i).map (·.1))).map V.int)) ∧
      ∃ q5 q6, σ = [some (.int W), some (.int Hh), some (.ref pp), some (.ref rl), some (.ref cl), q5, q6]) ⟨s0, by rw [upd_ne nrc, upd_same]; rfl, upd_same, none, none, rfl⟩ (fun i σ H' _ h => SqT.of (h.1 _ _ hpp.pp)) ?_ ?_
    · rintro i x σ H1 hx ⟨s1, hr1, hc1, q5, q6, rfl⟩
      obtain ⟨hi, rfl⟩ := range_at hx
      have ep : ps[i]? = some ps[i] := List.getElem?_eq_getElem hi
      generalize ps[i] = p at ep
      refine ⟨_, _, rfl, SqT.of (s1 _ _ (hpp.pk i p ep)), rfl, _, _, rfl, _, _, rfl, rfl, ?_⟩
      have eD : ∀ f : Int × Int → Int, dd ((ps.take (i + 1)).map f) = addNew (dd ((ps.take i).map f)) (f p) := fun f => by
        rw [take_snoc ep, List.map_append, ← dd_snoc]; rfl
      have two : ∀ H2, Same H H2 → H2 rl = some (.lst ((dd ((ps.take (i + 1)).map (·.2))).map V.int)) → H2 cl = some (.lst ((dd ((ps.take i).map (·.1))).map V.int)) →
          (∀ H3, Same H H3 → H3 rl = some (.lst ((dd ((ps.take (i + 1)).map (·.2))).map V.int)) → H3 cl = some (.lst ((dd ((ps.take (i + 1)).map (·.1))).map V.int)) → Same H H3 ∧ H3 rl = some (.lst ((dd ((ps.take (i + 1)).map (·.2))).map V.int)) ∧ H3 cl = some (.lst ((dd ((ps.take (i + 1)).map (·.1))).map V.int))) := fun H2 _ _ _ H3 a b c => ⟨a, b, c⟩
      refine ⟨_, rfl, _, rfl, _, _, rfl, .inl (SqL.of hr1), rfl, flat_ints _, _, rfl, ?_⟩
      show if (!inV (.int p.2) ((dd ((ps.take i).map (·.2))).map V.int)) = true then _ else _
      rw [inV_ints]
      have second : ∀ H2 (D : Ends), Same H H2 → H2 rl = some (.lst ((dd ((ps.take (i + 1)).map (·.2))).map V.int)) → H2 cl = some (.lst ((dd ((ps.take i).map (·.1))).map V.int)) →
          (∀ H3, Same H H3 → H3 rl = some (.lst ((dd ((ps.take (i + 1)).map (·.2))).map V.int)) → H3 cl = some (.lst ((dd ((ps.take (i + 1)).map (·.1))).map V.int)) → D.nx [some (.int W), some (.int Hh), some (.ref pp), some (.ref rl), some (.ref cl), some (.int p.1), some (.int p.2)] H3) →
          tIfS (tTest (tOp (rIn K true) (tVar 5) (tVar 4))) (tDrop (tBM K "list" rAppend (tVar 4) (tCons (tVar 5) tNil))) tNext D [some (.int W), some (.int Hh), some (.ref pp), some (.ref rl), some (.ref cl), some (.int p.1), some (.int p.2)] H2 := fun H2 D s2 hr2 hc2 fin => by
        refine ⟨_, rfl, _, rfl, _, _, rfl, .inl (SqL.of hc2), rfl, flat_ints _, _, rfl, ?_⟩
        show if (!inV (.int p.1) ((dd ((ps.take i).map (·.1))).map V.int)) = true then _ else _
        rw [inV_ints]
        by_cases c : p.1 ∈ dd ((ps.take i).map (·.1))
        · rw [decide_eq_true c]
          refine iteF (fin _ s2 hr2 ?_)
          rw [eD]
          unfold addNew
          rw [if_pos c]; exact hc2
        · rw [decide_eq_false c]
          refine iteT ⟨_, rfl, .inl ⟨rfl, _, SqL.of hc2⟩, _, rfl, _, _, _, rfl, rfl, hc2, ?_, ?_⟩
          · have := lens i (·.1)
            exact small_len (by rw [List.length_map]; omega)
          · refine fin _ (Same.off s2 ncl0) (by rw [upd_ne nrc]; exact hr2) ?_
            rw [upd_same, eD]
            unfold addNew
            rw [if_neg c, List.map_append]
            rfl
      by_cases c : p.2 ∈ dd ((ps.take i).map (·.2))
      · rw [decide_eq_true c]
        refine iteF (second _ _ s1 ?_ hc1 fun H3 a b c => ⟨a, b, c, _, _, rfl⟩)
        rw [eD]
        unfold addNew
        rw [if_pos c]; exact hr1
      · rw [decide_eq_false c]
        refine iteT ⟨_, rfl, .inl ⟨rfl, _, SqL.of hr1⟩, _, rfl, _, _, _, rfl, rfl, hr1, ?_, ?_⟩
        · have := lens i (·.2)
          exact small_len (by rw [List.length_map]; omega)
        · refine second _ _ (Same.off s1 nrl) ?_ (by rw [upd_ne nrc.symm]; exact hc1) fun H3 a b c => ⟨a, b, c, _, _, rfl⟩
          rw [upd_same, eD]
          unfold addNew
          rw [if_neg c, List.map_append]
          rfl
    · rintro σ H1 ⟨s1, hr1, hc1, q5, q6, rfl⟩
      rw [List.length_map, List.length_range, List.take_length] at hr1 hc1
      have l1 := lens ps.length (·.2)
      have l2 := lens ps.length (·.1)
      rw [List.take_length] at l1 l2
      have a1 : (((dd (ps.map (·.2))).map V.int).length : Int) = ((rowsL ps).length : Int) := by rw [List.length_map]; rfl
      have a2 : (((dd (ps.map (·.1))).map V.int).length : Int) = ((colsL ps).length : Int) := by rw [List.length_map]; rfl
      have b1 : ((rowsL ps).length : Int) ≤ 12 := by show ((dd (ps.map (·.2))).length : Int) ≤ 12; omega
      have b2 : ((colsL ps).length : Int) ≤ 12 := by show ((dd (ps.map (·.1))).length : Int) ≤ 12; omega
      refine ⟨_, rfl, _, _, rfl, .inl (SqL.of hr1), ?_⟩
      rw [a1]
      refine ⟨_, _, rfl, rfl, wmul (by omega) (by omega) (by omega) (by omega), _, rfl, _, _, rfl, rfl, _, _, rfl, rfl, wmul (by omega) (by omega) (by omega) (by omega), ?_⟩
      refine ⟨_, rfl, _, _, rfl, .inl (SqL.of hc1), ?_⟩
      rw [a2]
      refine ⟨_, _, rfl, rfl, wmul (by omega) (by omega) (by omega) (by omega), _, rfl, _, _, rfl, rfl, _, _, rfl, rfl, wmul (by omega) (by omega) (by omega) (by omega), _, _, rfl, rfl, ?_⟩
      exact q _ s1
/-! _law_is_integer -/
def spInt : Sp := fun vs H Q _ => ∃ i : Int, vs = [.int i] ∧ Q (.bl true) H
theorem c_lIsInt (T : Txt K mg) : Cal P w K mg base 1 "_law_is_integer" ["_law_actual"] spInt := by
  obtain ⟨fd, F⟩ := T.d_lIsInt
  have nd := sc_lIsInt.nd
  refine ⟨_, fd, T.g_law_is_integer, F.ok sc_lIsInt (fun vs H Q E h => ?_) (fun cdv A outer s H vs Q E hr h => have hu := hu_of hr; ⟨_, PSs.nox (pss_one (ps_ret (pe_and (pe_callB call_isi rfl T.b_isinstance (by decide +kernel) (pa_cons (pv 0) (pa_cons (pe_bltn (v := .ty "int") rfl T.b_int PyProof.Rows.boot_int rfl) pa_nil))) (pe_one (pe_not (pe_callB call_isi rfl T.b_isinstance (by decide +kernel) (pa_cons (pv 0) (pa_cons (pe_bltn (v := .ty "bool") rfl T.b_bool PyProof.Rows.boot_bool rfl) pa_nil)))))))), ?_⟩), F.bindsN fun _ _ _ _ _ _ us hl => match us, hl with | [_], _ => rfl, F.kp⟩
  · obtain ⟨_, rfl, _⟩ := h
    rfl
  · obtain ⟨i, rfl, q⟩ := h
    refine ⟨_, rfl, .int i, .ty "int", .type "int", .type "int", true, rfl, .ty _, .base (.int _), kit_ty (by decide +kernel), true, rfl, iteT ?_⟩
    exact ⟨_, rfl, .int i, .ty "bool", .type "int", .type "bool", false, rfl, .ty _, .base (.int _), kit_ty (by decide +kernel), false, rfl, q⟩
end
/-! pairs of ints as data -/
def prD (p : Int × Int) : PyData := .tuple [.int p.1, .int p.2]
theorem prD_depth (ps : List (Int × Int)) : PyData.depthAll (ps.map prD) ≤ 2 := by
  induction ps with
  | nil => simp [PyData.depthAll]
  | cons p ps ih =>
    simp only [List.map_cons, PyData.depthAll, prD, PyData.depth] at ih ⊢
    omega
theorem prD_lay (ps : List (Int × Int)) : PyData.canLayAll0 (ps.map prD) = true := by
  induction ps with
  | nil => rfl
  | cons p ps ih =>
    rw [List.map_cons]
    show (PyData.canLay0 (prD p) && PyData.canLayAll0 (ps.map prD)) = true
    rw [ih]; rfl
theorem prD_shapedL (ps : List (Int × Int)) : SeqAt.shaped (.list (ps.map prD)) = true := by
  show (PyData.canLay0 (.list (ps.map prD)) && decide (PyData.depth (.list (ps.map prD)) ≤ 64)) = true
  have h1 := prD_depth ps
  have h2 : PyData.depth (.list (ps.map prD)) ≤ 64 := by simp only [PyData.depth]; omega
  rw [decide_eq_true h2, Bool.and_true]
  simp only [PyData.canLay0]
  exact prD_lay ps
theorem prD_shapedT (ps : List (Int × Int)) : SeqAt.shaped (.tuple (ps.map prD)) = true := by
  show (PyData.canLay0 (.tuple (ps.map prD)) && decide (PyData.depth (.tuple (ps.map prD)) ≤ 64)) = true
  have h1 := prD_depth ps
  have h2 : PyData.depth (.tuple (ps.map prD)) ≤ 64 := by simp only [PyData.depth]; omega
  rw [decide_eq_true h2, Bool.and_true]
  simp only [PyData.canLay0]
  exact prD_lay ps
theorem prD_shaped (p : Int × Int) : SeqAt.shaped (prD p) = true := rfl
theorem prD_eqv (p q : Int × Int) : PyData.eqv (prD p) (prD q) = decide (p = q) := by
  have e : PyData.eqv (prD p) (prD q) = ((p.1 == q.1) && ((p.2 == q.2) && true)) := by simp only [prD, PyData.eqv, PyData.eqvAll]
  rw [e, Bool.and_true]
  by_cases c : p = q
  · subst c; simp
  · rw [decide_eq_false c]
    by_cases c1 : p.1 = q.1
    · have c2 : p.2 ≠ q.2 := fun h => c (Prod.ext c1 h)
      rw [beq_eq_false_iff_ne.mpr c2, Bool.and_false]
    · rw [beq_eq_false_iff_ne.mpr c1, Bool.false_and]
theorem prD_refl (ps : List (Int × Int)) : PyData.eqv (.list (ps.map prD)) (.list (ps.map prD)) = true := by
  simp only [PyData.eqv]
  induction ps with
  | nil => rfl
  | cons p ps ih =>
    simp only [List.map_cons, PyData.eqvAll, ih, prD_eqv, Bool.and_true, decide_true]
theorem dp_all {K : PySem.W.Frag} {H : Hp} : ∀ {xs : List V} {ps : List (Int × Int)}, Pairs H xs ps → DpAll K H xs (ps.map prD)
  | _, _, .nil => .nil
  | _, _, .cons ⟨t, e, h⟩ r => by
    rw [e]
    exact .cons (.tup (SqT.of h) (.cons (.int _) (.cons (.int _) .nil))) (dp_all r)
theorem pairs_ix {H : Hp} : ∀ {ps : List (Int × Int)} {xs : List V}, xs.length = ps.length → (∀ (k : Nat) (p : Int × Int), ps[k]? = some p → ∃ t, xs[k]? = some (.ref t) ∧ H t = some (.tup [.int p.1, .int p.2])) → Pairs H xs ps
  | [], [], _, _ => .nil
  | [], _ :: _, h, _ => by simp at h
  | _ :: _, [], h, _ => by simp at h
  | p :: ps, x :: xs, hl, h => by
    obtain ⟨t, h1, h2⟩ := h 0 p rfl
    exact .cons ⟨t, Option.some.inj h1, h2⟩ (pairs_ix (by simpa using hl) fun k q hq => h (k + 1) q hq)
theorem PpAt.pairs {H : Hp} {pp : Addr} {pk : Nat → Addr} {ps : List (Int × Int)} (h : PkAt H pk ps) : Pairs H ((List.range ps.length).map fun k => V.ref (pk k)) ps :=
  pairs_ix (by simp) fun k p e => ⟨pk k, by
    have hk : k < ps.length := (List.getElem?_eq_some_iff.mp e).1
    rw [List.getElem?_map, List.getElem?_range hk]; rfl, h k p e⟩
/-- what slanting_starts and straight_starts gave -/
structure TAt (H : Hp) (p : Addr) (pk : Nat → Addr) (ps : List (Int × Int)) (f : List Int) (rest : Int) (l : Addr) (qs : List Addr) : Prop where
  tp : H p = some (.tup [.ref l, .int rest])
  ls : H l = some (.lst (qs.map V.ref))
  len : qs.length = ps.length
  tell : TellAt H pk f qs
  pk : PkAt H pk ps
  fl : f.length = ps.length
theorem TAt.same {H H' : Hp} {p : Addr} {pk : Nat → Addr} {ps : List (Int × Int)} {f : List Int} {rest : Int} {l : Addr} {qs : List Addr} (t : TAt H p pk ps f rest l qs) (s : Same H H') : TAt H' p pk ps f rest l qs :=
  ⟨s _ _ t.tp, s _ _ t.ls, t.len, fun j q n hj hn => s _ _ (t.tell j q n hj hn), fun k p e => s _ _ (t.pk k p e), t.fl⟩
def spIsTold : Sp := fun vs H Q _ => ∃ (ac l tb pp : Addr) (pk pk2 : Nat → Addr) (W Hh fall rest : Int) (ps : List (Int × Int)) (f : List Int) (qs : List Addr), vs = [.ref ac, .ref tb, .int fall] ∧ TAt H ac pk ps f rest l qs ∧ H tb = some (.tup [.int W, .int Hh, .ref pp]) ∧ PpAt H pp pk2 ps ∧
  ps.length ≤ 12 ∧ (0 < W ∧ W ≤ 2 ^ 105) ∧ (0 < Hh ∧ Hh ≤ 2 ^ 105) ∧ (∀ n ∈ f, 1 ≤ n) ∧ f.sum = fall ∧ rest = 4 * (W + 1) * (Hh + 1) - fall ∧ ∀ H', Same H H' → Q (.bl true) H'
section
variable {P : Program} {w : World} {K : PySem.W.Frag} {mg : Str → Option Value} {base : Heap}
theorem c_lIsTold (T : Txt K mg) : Cal P w K mg base 2 "_law_is_told" ["_law_actual", "_law_table", "_law_falling"] spIsTold := by
  obtain ⟨fd, F⟩ := T.d_lIsTold
  have nd := sc_lIsTold.nd
  have c_lIsInt := c_lIsInt (P := P) (w := w) (base := base) T
  refine ⟨_, fd, T.g_law_is_told, F.ok sc_lIsTold (fun vs H Q E h => ?_) (fun cdv A outer s H vs Q E hr h => have hu := hu_of hr; have hu64 := hr.units; ⟨_, PSs.nox (pss_cons (ps_asg (pv 1) (pg_tup rfl (pgs_cons (pg_name (i := 3) nd rfl (Or.inl rfl)) (pgs_cons (pg_name (i := 4) nd rfl (Or.inl rfl)) (pgs_cons (pg_name (i := 5) nd rfl (Or.inl rfl)) pgs_nil))))) (pss_cons (ps_if (PW.pt (pw_or (pt_not (pt_val (pe_callB call_isi rfl T.b_isinstance (by decide +kernel) (pa_cons (pv 0) (pa_cons (pe_bltn (v := .ty "tuple") rfl T.b_tuple PyProof.Rows.boot_tuple rfl) pa_nil))))) (pw_or1 (pt_cmpR (op_neD hu64) (pe_lc (own := [("_law_row_here", 7)]) (g := gName 7) rfl nd (pi_list (pe_ix ix_tup (pv 0) pe_int (fun _ _ => rfl))) (blkOk_by (N := ["_law_actual", "_law_table", "_law_falling", "_law_width", "_law_height", "_law_pockets", "_law_numbers_here", "_law_row_here", "_law_number"]) (sc := defScope s_lIsTold) (own := [("_law_row_here", 7)]) (by decide +kernel)) (fun _ _ _ _ _ => (pg_name (i := 7) nd rfl (Or.inl rfl))) (fun _ _ _ _ _ => pts_nil) (fun _ _ _ _ _ => (pe_ix (r := rIxT K) ix_tup (pv 7) pe_int (fun _ _ => rfl)))) (pe_callTy call_list_of rfl T.b_list PyProof.Rows.boot_list (pa_cons (pv 5) pa_nil)) (nomark _))))) (pss_one (ps_ret pe_bl)) pss_nil) (pss_cons (ps_setLc (i := 6) (own := [("_law_row_here", 7)]) (g := gName 7) rfl nd rfl rfl (sw_true rfl rfl rfl (by decide +kernel)) (pi_list (pe_ix ix_tup (pv 0) pe_int (fun _ _ => rfl))) (blkOk_by (N := ["_law_actual", "_law_table", "_law_falling", "_law_width", "_law_height", "_law_pockets", "_law_numbers_here", "_law_row_here", "_law_number"]) (sc := defScope s_lIsTold) (own := [("_law_row_here", 7)]) (by decide +kernel)) (fun _ _ _ _ _ => (pg_name (i := 7) nd rfl (Or.inl rfl))) (fun _ _ _ _ _ => pts_nil) (fun _ _ _ _ _ => (pe_ix (r := rIxT K) ix_tup (pv 7) pe_int (fun _ _ => rfl)))) (pss_cons (ps_if (pt_not (pt_val (pe_callB (cr_all rfl) rfl T.b_all (by decide +kernel) (pa_cons (pe_lc (own := [("_law_number", 8)]) (g := gName 8) rfl nd (pi_list (pv 6)) (blkOk_by (N := ["_law_actual", "_law_table", "_law_falling", "_law_width", "_law_height", "_law_pockets", "_law_numbers_here", "_law_row_here", "_law_number"]) (sc := defScope s_lIsTold) (own := [("_law_number", 8)]) (by decide +kernel)) (fun _ _ _ _ _ => (pg_name (i := 8) nd rfl (Or.inl rfl))) (fun _ _ _ _ _ => pts_nil) (fun _ _ _ _ _ => (pe_and (pe_fn c_lIsInt (hr.mono (by decide)) rfl (pa_cons (pv 8) pa_nil)) (pe_one (pe_cmpR op_gt (pv 8) pe_int (nomark _)))))) pa_nil)))) (pss_one (ps_ret pe_bl)) pss_nil) (pss_one (ps_ret (pe_and (pe_cmpR op_eq (pe_callB (cr_sum rfl) rfl T.b_sum (by decide +kernel) (pa_cons (pv 6) pa_nil)) (pv 2) (nomark _)) (pe_one (pe_cmpR op_eq (pe_ix ix_tup (pv 0) pe_int (fun _ _ => rfl)) (pe_op op_sub (pe_op op_mulW (pe_op op_mulW pe_int (pe_op op_add (pv 3) pe_int)) (pe_op op_add (pv 4) pe_int)) (pv 2)) (nomark _)))))))))), ?_⟩), F.bindsN fun _ _ _ _ _ _ us hl => match us, hl with | [_, _, _], _ => rfl, F.kp⟩
  · obtain ⟨_, _, _, _, _, _, _, _, _, _, _, _, _, rfl, _⟩ := h
    rfl
  · obtain ⟨ac, l, tb, pp, pk, pk2, W, Hh, fall, rest, ps, f, qs, rfl, ta, htb, hpp, few, ⟨tW, w1'⟩, ⟨tH, h1'⟩, hpos, hsum, hrest, q⟩ := h
    refine ⟨_, rfl, _, _, rfl, SqT.of htb, rfl, _, _, rfl, _, _, rfl, _, _, rfl, rfl, ?_⟩
    refine ⟨_, rfl, .ref ac, .ty "tuple", .type "tuple", .type "tuple", true, rfl, .ty _, .base (.tup ta.tp), kit_ty (by decide +kernel), true, rfl, iteF ?_⟩
    refine ⟨_, rfl, _, _, _, _, rfl, rfl, SqT.of ta.tp, atI_nat (j := 0) rfl, _, rfl, ⟨_, SqL.of ta.ls⟩, fun D nD => ?_⟩
    have qf : ∀ i x, (qs.map V.ref)[i]? = some x → ∃ q0 n, x = .ref q0 ∧ qs[i]? = some q0 ∧ i < ps.length ∧ f[i]? = some n ∧ (∀ H', Same H H' → H' q0 = some (.tup [.ref (pk i), .int n])) := fun i x hx => by
      rw [List.getElem?_map] at hx
      obtain ⟨q0, e0, rfl⟩ := Option.map_eq_some_iff.mp hx
      have hi : i < ps.length := by rw [← ta.len]; exact (List.getElem?_eq_some_iff.mp e0).1
      have ef : f[i]? = some (f[i]'(by rw [ta.fl]; exact hi)) := List.getElem?_eq_getElem _
      exact ⟨q0, _, rfl, e0, hi, ef, fun H' s => s _ _ (ta.tell i q0 _ e0 ef)⟩
    refine lc_list (xs := qs.map V.ref) (fun i H' => Same H H' ∧ H' D = some (.lst (((List.range ps.length).map fun k => V.ref (pk k)).take i))) ⟨Same.laid nD, by rw [upd_same]; rfl⟩ (fun i H' _ h => SqL.of (h.1 _ _ ta.ls)) ?_ ?_
    · rintro i x H1 hx ⟨s1, hD⟩
      obtain ⟨q0, n, rfl, e0, hi, ef, hq0⟩ := qf i x hx
      refine ⟨rfl, _, rfl, _, _, _, _, rfl, rfl, SqT.of (hq0 _ s1), atI_nat (j := 0) rfl, _, hD, small_len (by rw [List.length_take]; simp; omega), Same.off s1 nD, ?_⟩
      rw [upd_same, take_snoc (x := V.ref (pk i)) (by rw [List.getElem?_map, List.getElem?_range hi]; rfl)]
    · rintro H1 ⟨s1, hD⟩
      rw [List.length_map, ta.len, List.take_of_length_le (by simp)] at hD
      refine ⟨_, rfl, _, _, rfl, .inr (SqT.of (s1 _ _ hpp.pp)), fun l2 nl2 => ?_⟩
      have s2 : Same H1 (upd H1 l2 (.lst ((List.range ps.length).map fun k => V.ref (pk2 k)))) := Same.laid nl2
      have p1 : Pairs (upd H1 l2 (.lst ((List.range ps.length).map fun k => V.ref (pk2 k)))) ((List.range ps.length).map fun k => V.ref (pk k)) ps := (PpAt.pairs (pp := pp) ta.pk).same (s1.trans s2)
      have p2 : Pairs (upd H1 l2 (.lst ((List.range ps.length).map fun k => V.ref (pk2 k)))) ((List.range ps.length).map fun k => V.ref (pk2 k)) ps := (PpAt.pairs (pp := pp) hpp.pk).same (s1.trans s2)
      refine ⟨.list (ps.map prD), .list (ps.map prD), .lst (SqL.of (s2 _ _ hD)) (dp_all p1), .lst (SqL.of upd_same) (dp_all p2), prD_shapedL ps, prD_shapedL ps, ?_⟩
      rw [prD_refl]
      refine ⟨_, rfl, iteF ?_⟩
      have s12 := s1.trans s2
      generalize upd H1 l2 (.lst ((List.range ps.length).map fun k => V.ref (pk2 k))) = H2 at s12
      refine ⟨_, rfl, _, _, _, _, rfl, rfl, SqT.of (s12 _ _ ta.tp), atI_nat (j := 0) rfl, _, rfl, ⟨_, SqL.of (s12 _ _ ta.ls)⟩, fun D2 nD2 => ?_⟩
      refine lc_list (xs := qs.map V.ref) (Ints H2 D2 f) (Ints.zero nD2) (fun i H' _ h => SqL.of (h.1 _ _ (s12 _ _ ta.ls))) ?_ ?_
      · rintro i x H3 hx h3
        obtain ⟨q0, n, rfl, e0, hi, ef, hq0⟩ := qf i x hx
        refine ⟨rfl, _, rfl, _, _, _, _, rfl, rfl, SqT.of (hq0 _ (s12.trans h3.1)), atI_nat (j := 1) rfl, _, h3.2, small_len (by rw [List.length_map, List.length_take, ta.fl]; omega), h3.more nD2 ef⟩
      · rintro H3 h3
        have h3 : Ints H2 D2 f f.length H3 := by
          rw [List.length_map, ta.len, ← ta.fl] at h3; exact h3
        have hD2 := h3.done
        have s13 := s12.trans h3.1
        refine ⟨_, rfl, _, rfl, ⟨_, SqL.of hD2⟩, fun D3 nD3 => ?_⟩
        refine lc_list (xs := f.map V.int) (fun i H' => Same H3 H' ∧ H' D3 = some (.lst ((List.replicate i true).map V.bl))) ⟨Same.laid nD3, by rw [upd_same]; rfl⟩ (fun i H' _ h => SqL.of (h.1 _ _ hD2)) ?_ ?_
        · rintro i x H4 hx ⟨s4, hD4⟩
          rw [List.getElem?_map] at hx
          obtain ⟨n, en, rfl⟩ := Option.map_eq_some_iff.mp hx
          have hi : i < f.length := (List.getElem?_eq_some_iff.mp en).1
          have n1 := hpos n (List.mem_of_getElem? en)
          refine ⟨rfl, _, rfl, n, rfl, true, rfl, iteT ⟨_, rfl, _, _, rfl, rfl, _, hD4, small_len (by rw [List.length_map, List.length_replicate]; rw [ta.fl] at hi; omega), Same.off s4 nD3, ?_⟩⟩
          rw [upd_same]
          show some (HO.lst (List.map V.bl (List.replicate i true) ++ [V.bl (decide (0 < n))])) = _
          rw [decide_eq_true (show 0 < n by omega), List.replicate_succ', List.map_append]
          rfl
        · rintro H4 ⟨s4, hD4⟩
          refine ⟨_, _, rfl, SqL.of hD4, _, rfl, ?_⟩
          rw [show ((List.replicate (f.map V.int).length true).all id) = true by simp]
          refine iteF ?_
          have s14 := s13.trans s4
          refine ⟨_, rfl, _, f, rfl, SqL.of (s4 _ _ hD2), _, rfl, rfl, true, ?_, iteT ?_⟩
          · rw [hsum, decide_eq_true rfl]
          · refine ⟨_, rfl, _, _, _, _, rfl, rfl, SqT.of (s14 _ _ ta.tp), atI_nat (j := 1) rfl, _, rfl, _, _, rfl, rfl, _, _, rfl, rfl, wmul (by omega) (by omega) (by omega) (by omega), _, rfl, _, _, rfl, rfl, _, _, rfl, rfl, wmul (by omega) (by omega) (by omega) (by omega), _, rfl, _, _, rfl, rfl, rfl, ?_⟩
            rw [hrest, decide_eq_true rfl]
            exact q _ s14
end
end Cu
/-! W18 -/
set_option Elab.async false
set_option linter.all false
set_option maxRecDepth 100000
set_option maxHeartbeats 0
namespace Cu
open PySem PySem.Spec PyProof.Rows L2
section
variable {X : Cx}
def rLenQ (K : PySem.W.Frag) : List V → Hp → VK → Prop := fun xs H Q => ∃ p ys, xs = [.ref p] ∧ (SqL K H p ys ∨ SqT K H p ys) ∧ Q (.int ys.length) H
theorem cr_lenQ : CallR X (.builtin "len") (rLenQ X.K) := call_len_seq
def rTupQ (K : PySem.W.Frag) : List V → Hp → VK → Prop := fun xs H Q => ∃ p ys, xs = [.ref p] ∧ ((SqL K H p ys ∧ ∀ l, H l = none → Q (.ref l) (upd H l (.tup ys))) ∨ (SqT K H p ys ∧ Q (.ref p) H))
theorem cr_tupQ : CallR X (.type "tuple") (rTupQ X.K) := call_tuple_of
end
/-! require, is_point -/
def spReq : Sp := fun vs H Q _ => vs = [.bl true] ∧ Q .non H
def spIsPt (C : Addr) : Sp := fun vs H Q _ => ∃ (a dx pa t : Addr) (W Hh x y : Int), vs = [.ref a, .ref t] ∧ H a = some (.ins C dx (tFs W Hh pa)) ∧ H t = some (.tup [.int x, .int y]) ∧ (0 ≤ x ∧ x ≤ W) ∧ (0 ≤ y ∧ y ≤ Hh) ∧ Q (.bl true) H
section
variable {P : Program} {w : World} {K : PySem.W.Frag} {mg : Str → Option Value} {base : Heap}
theorem c_require (T : Txt K mg) : Cal P w K mg base 1 "require" ["holds"] spReq := by
  obtain ⟨fd, F⟩ := T.d_require
  have nd := sc_require.nd
  refine ⟨_, fd, T.g_require, F.ok sc_require (fun vs H Q E h => ?_) (fun cdv A outer s H vs Q E hr h => have hu := hu_of hr; ⟨_, PSs.nox (pss_one (ps_if (pt_not (pt_val (pv 0))) (pss_one ps_never) pss_nil)), ?_⟩), F.bindsN fun _ _ _ _ _ _ us hl => match us, hl with | [_], _ => rfl, F.kp⟩
  · obtain ⟨rfl, _⟩ := h
    rfl
  · obtain ⟨rfl, q⟩ := h
    exact ⟨_, rfl, true, rfl, iteF q⟩
theorem c_is_point (T : Txt K mg) : CalM P w K mg base 1 (He.ga K "Table") "is_point" ["self", "point"] (spIsPt (He.ga K "Table")) := by
  obtain ⟨fd, F⟩ := T.d_isPoint
  have nd := sc_isPoint.nd
  refine ⟨_, fd, T.cl_Table, T.mt_is_point, F.ok sc_isPoint (fun vs H Q E h => ?_) (fun cdv A outer s H vs Q E hr h => have hu := hu_of hr; ⟨_, PSs.nox (pss_one (ps_ret (pe_and (pe_chain op_le op_le pe_int (pe_ix ix_tup (pv 1) pe_int (fun _ _ => rfl)) (pe_fld (pv 0) rfl)) (pe_one (pe_chain op_le op_le pe_int (pe_ix ix_tup (pv 1) pe_int (fun _ _ => rfl)) (pe_fld (pv 0) rfl)))))), ?_⟩), F.bindsN fun _ _ _ _ _ _ us hl => match us, hl with | [_, _], _ => rfl⟩
  · obtain ⟨_, _, _, _, _, _, _, _, rfl, _⟩ := h
    rfl
  · obtain ⟨a, dx, pa, t, W, Hh, x, y, rfl, ha, ht, ⟨x0, x1⟩, ⟨y0, y1⟩, q⟩ := h
    refine ⟨_, rfl, _, _, _, _, rfl, rfl, SqT.of ht, atI_nat (j := 0) rfl, _, _, rfl, rfl, true, congrArg V.bl (decide_eq_true x0), iteT ⟨_, rfl, _, _, _, _, _, rfl, ha, T.cl_Table, T.na_width, rfl, _, _, rfl, rfl, true, congrArg V.bl (decide_eq_true x1), iteT ?_⟩⟩
    refine ⟨_, rfl, _, _, _, _, rfl, rfl, SqT.of ht, atI_nat (j := 1) rfl, _, _, rfl, rfl, true, congrArg V.bl (decide_eq_true y0), iteT ⟨_, rfl, _, _, _, _, _, rfl, ha, T.cl_Table, T.na_height, rfl, _, _, rfl, rfl, ?_⟩⟩
    show Q (V.bl (decide (y ≤ Hh))) H
    rw [decide_eq_true y1]
    exact q
/-! _law_row -/
def Digs (zs : List Int) : Prop := ∀ x ∈ zs, 0 ≤ x ∧ x < 1009
def spRow : Sp := fun vs H Q _ => ∃ (c : Int) (n : Nat), vs = [.int c, .int (n : Nat)] ∧ n ≤ 1000 ∧ ∀ H' p zs, NewL H (zs.map V.int) H' p → zs.length = n → Digs zs → Q (.ref p) H'
theorem Digs.snoc {zs : List Int} {x : Int} (h : Digs zs) (h0 : 0 ≤ x) (h1 : x < 1009) : Digs (zs ++ [x]) := fun y hy => by
  rcases List.mem_append.mp hy with z | z
  · exact h y z
  · rw [List.mem_singleton.mp z]; exact ⟨h0, h1⟩
theorem c_lRow (T : Txt K mg) : Cal P w K mg base 1 "_law_row" ["_law_cell", "_law_many_here"] spRow := by
  obtain ⟨fd, F⟩ := T.d_lRow
  have nd := sc_lRow.nd
  refine ⟨_, fd, T.g_law_row, F.ok sc_lRow (fun vs H Q E h => ?_) (fun cdv A outer s H vs Q E hr h => have hu := hu_of hr; ⟨_, PSs.nox (pss_cons (ps_set (i := 2) nd rfl (Or.inl rfl) (pe_lst pa_nil)) (pss_cons (ps_set (i := 3) nd rfl (Or.inl rfl) (pe_callB call_abs rfl T.b_abs (by decide +kernel) (pa_cons (pv 0) pa_nil))) (pss_cons (ps_set (i := 4) nd rfl (Or.inl rfl) (pe_op op_mod (pe_callTy call_int1 rfl T.b_int PyProof.Rows.boot_int (pa_cons (pe_op op_add (pe_op op_mul (pv 3) pe_int) pe_int) pa_nil)) pe_int)) (pss_cons (ps_for PassesOwn.never rfl (pi_range1 rfl T.b_range (pa_cons (pv 1) pa_nil)) (pg_name (i := 5) nd rfl (Or.inl rfl)) (pss_cons (ps_set (i := 4) nd rfl (Or.inl rfl) (pe_op op_mod (pe_callTy call_int1 rfl T.b_int PyProof.Rows.boot_int (pa_cons (pe_op op_add (pe_op op_mul (pv 4) pe_int) (pe_op op_mul pe_int (pe_op op_add (pv 5) pe_int))) pa_nil)) pe_int)) (pss_one (ps_if (pt_cmpR op_ge (pe_callB call_abs rfl T.b_abs (by decide +kernel) (pa_cons (pv 0) pa_nil)) (pe_op op_pow pe_int pe_int) (nomark _)) (pss_cons (ps_expr (pe_bm PySem.F.plainAttrs_list PySem.F.slot_list_append PySem.F.type_list_append mt_append (pv 2) (pa_cons (pe_op op_mod (pe_callTy call_int1 rfl T.b_int PyProof.Rows.boot_int (pa_cons (pv 3) pa_nil)) pe_int) pa_nil))) (pss_one (ps_set (i := 3) nd rfl (Or.inl rfl) (pe_op op_fdivW (pv 3) pe_int)))) (pss_one (ps_expr (pe_bm PySem.F.plainAttrs_list PySem.F.slot_list_append PySem.F.type_list_append mt_append (pv 2) (pa_cons (pe_op op_mod (pe_callTy call_int1 rfl T.b_int PyProof.Rows.boot_int (pa_cons (pe_op op_fdivW (pv 4) pe_int) pa_nil)) pe_int) pa_nil)))))))) (pss_one (ps_ret (pv 2))))))), ?_⟩), F.bindsN fun _ _ _ _ _ _ us hl => match us, hl with | [_, _], _ => rfl, F.kp⟩
  · obtain ⟨_, _, rfl, _⟩ := h
    rfl
  · obtain ⟨c, n, rfl, hn, q⟩ := h
    refine ⟨by show 0 ≤ sizeLine; decide, fun l nl => ?_⟩
    refine ⟨_, rfl, _, rfl, ?_⟩
    refine ⟨_, rfl, _, _, rfl, rfl, .inr ⟨by decide, by decide⟩, _, _, rfl, rfl, .inl ⟨_, rfl, _, _, rfl, rfl, by show (0 : Int) < 2147483647; decide, ?_⟩⟩
    refine ⟨_, rfl, _, rfl, by omega, by omega, ?_⟩
    rw [show ((n : Nat) : Int).toNat = n by omega]
    refine for_range (n := n) (fun i σ H' => Same H H' ∧ ∃ zs rest mixed q5, H' l = some (.lst (zs.map V.int)) ∧ zs.length = i ∧ Digs zs ∧ (0 : Int) ≤ rest ∧ σ = [some (.int c), some (.int (n : Nat)), some (.ref l), some (.int rest), some (.int mixed), q5])
      ⟨Same.laid nl, [], _, _, none, upd_same, rfl, (fun x hx => by cases hx), (by show (0 : Int) ≤ if c < 0 then -c else c; split <;> omega), rfl⟩ ?_ ?_
    · rintro i σ H1 hi ⟨s1, zs, rest, mixed, q5, hl, hz, dg, r0, rfl⟩
      refine ⟨_, rfl, _, _, rfl, rfl, .inr ⟨by decide, by decide⟩, _, rfl, _, _, rfl, rfl, _, _, rfl, rfl, .inl ⟨by decide, by decide⟩, _, _, rfl, rfl, .inl ⟨_, rfl, _, _, rfl, rfl, by show (0 : Int) < 2147483629; decide, ?_⟩⟩
      refine ⟨_, rfl, _, rfl, _, _, rfl, rfl, ⟨by decide, by decide, by decide⟩, _, _, rfl, rfl, _, rfl, ?_⟩
      refine ite2 (fun _ => ?_) (fun _ => ?_)
      · refine ⟨_, rfl, .inl ⟨rfl, _, SqL.of hl⟩, _, rfl, .inl ⟨_, rfl, _, _, rfl, rfl, by show (0 : Int) < 1009; decide, _, _, _, rfl, rfl, hl, small1000 (by rw [List.length_map]; omega), ?_⟩⟩
        refine ⟨_, rfl, _, _, rfl, rfl, wdiv (by decide) (by decide), Same.off s1 nl, zs ++ [rest % 1009], rest / 1009, _, _, ?_, by simp [hz], dg.snoc (Int.emod_nonneg _ (by decide)) (Int.emod_lt_of_pos _ (by decide)), Int.ediv_nonneg r0 (by decide), rfl⟩
        rw [upd_same, List.map_append]; rfl
      · refine ⟨_, rfl, .inl ⟨rfl, _, SqL.of hl⟩, _, rfl, _, _, rfl, rfl, wdiv (by decide) (by decide), .inl ⟨_, rfl, _, _, rfl, rfl, by show (0 : Int) < 1009; decide, _, _, _, rfl, rfl, hl, small1000 (by rw [List.length_map]; omega), ?_⟩⟩
        refine ⟨Same.off s1 nl, zs ++ [(mixed * 16807 + 271 * ((0 : Int) + (i : Nat) + 3)) % 2147483629 / 7 % 1009], rest, _, _, ?_, by simp [hz], dg.snoc (Int.emod_nonneg _ (by decide)) (Int.emod_lt_of_pos _ (by decide)), r0, rfl⟩
        rw [upd_same, List.map_append]; rfl
    · rintro σ H1 ⟨s1, zs, rest, mixed, q5, hl, hz, dg, r0, rfl⟩
      exact ⟨_, rfl, q _ l zs ⟨s1, hl, nl⟩ hz dg⟩
/-! _law_numbers -/
def spNumbers (K : PySem.W.Frag) : Sp := fun vs H Q _ => ∃ (a : Addr) (ns : List Int), vs = [.ref a, .int 90] ∧ SqL K H a (ns.map V.int) ∧ ns.length ≤ 63 ∧ ∀ H' p zs, NewL H (zs.map V.int) H' p → zs.length = 90 → Digs zs → Q (.ref p) H'
theorem cut_to (xs : List V) (n : Nat) : cutV xs none (some (n : Int)) = xs.take n := by
  unfold cutV
  rw [HT.sIx_none, HT.sIx_nat, List.drop_zero, Nat.sub_zero]
  by_cases c : n ≤ xs.length
  · rw [Nat.min_eq_left c]
  · rw [Nat.min_eq_right (by omega), List.take_of_length_le (by omega), List.take_of_length_le (by omega)]
theorem c_lNumbers (T : Txt K mg) : Cal P w K mg base 2 "_law_numbers" ["_law_script", "_law_many_here"] (spNumbers K) := by
  obtain ⟨fd, F⟩ := T.d_lNumbers
  have nd := sc_lNumbers.nd
  have c_lRow := c_lRow (P := P) (w := w) (base := base) T
  refine ⟨_, fd, T.g_law_numbers, F.ok sc_lNumbers (fun vs H Q E h => ?_) (fun cdv A outer s H vs Q E hr h => have hu := hu_of hr; ⟨_, PSs.nox (pss_cons (ps_set (i := 2) nd rfl (Or.inl rfl) (pe_slice sl_list (pv 0) po_none (po_some pe_int))) (pss_cons (ps_set (i := 3) nd rfl (Or.inl rfl) (pe_op op_add pe_int (pe_op op_fdivW (pv 1) (pe_callB (call_max2 rfl) rfl T.b_max (by decide +kernel) (pa_cons pe_int (pa_cons (pe_callB call_len_seq rfl T.b_len PySem.boot_len (pa_cons (pv 2) pa_nil)) pa_nil)))))) (pss_cons (ps_set (i := 4) nd rfl (Or.inl rfl) (pe_lst pa_nil)) (pss_cons (ps_for PassesOwn.never rfl (pi_list (pv 2)) (pg_name (i := 5) nd rfl (Or.inl rfl)) (pss_one (ps_for PassesOwn.never rfl (pi_list (pe_fn c_lRow (hr.mono (by decide)) rfl (pa_cons (pv 5) (pa_cons (pv 3) pa_nil)))) (pg_name (i := 6) nd rfl (Or.inl rfl)) (pss_one (ps_expr (pe_bm PySem.F.plainAttrs_list PySem.F.slot_list_append PySem.F.type_list_append mt_append (pv 4) (pa_cons (pv 6) pa_nil))))))) (pss_cons (ps_while PassesOwn.never (pt_cmpR op_lt (pe_callB call_len_seq rfl T.b_len PySem.boot_len (pa_cons (pv 4) pa_nil)) (pv 1) (nomark _)) (pss_one (ps_expr (pe_bm PySem.F.plainAttrs_list PySem.F.slot_list_append PySem.F.type_list_append mt_append (pv 4) (pa_cons pe_int pa_nil))))) (pss_one (ps_ret (pe_slice sl_list (pv 4) po_none (po_some (pv 1)))))))))), ?_⟩), F.bindsN fun _ _ _ _ _ _ us hl => match us, hl with | [_, _], _ => rfl, F.kp⟩
  · obtain ⟨_, _, rfl, _⟩ := h
    rfl
  · obtain ⟨a, ns, rfl, ha, hn, q⟩ := h
    refine ⟨_, rfl, 63, rfl, a, _, rfl, ha, fun c nc => ?_⟩
    rw [show cutV (ns.map V.int) none (some 63) = ns.map V.int by rw [show (63 : Int) = ((63 : Nat) : Int) from rfl, cut_to, List.take_of_length_le (by rw [List.length_map]; exact hn)]]
    have hc : upd H c (.lst (ns.map V.int)) c = some (.lst (ns.map V.int)) := upd_same
    have s0 : Same H (upd H c (.lst (ns.map V.int))) := Same.laid nc
    generalize upd H c (.lst (ns.map V.int)) = H0 at hc s0
    refine ⟨_, rfl, _, rfl, _, _, rfl, .inl (SqL.of hc), _, _, rfl, ?_⟩
    have mx : ∃ z : Int, (if ((((ns.map V.int).length : Nat) : Int)) > 1 then (((ns.map V.int).length : Nat) : Int) else 1) = z ∧ 0 < z ∧ z ≤ 63 := ⟨_, rfl, by split <;> omega, by rw [List.length_map]; split <;> omega⟩
    obtain ⟨z, ez, z0, z1⟩ := mx
    rw [ez]
    refine ⟨_, _, rfl, rfl, wdiv z0 (by omega), 1, 90 / z, rfl, rfl, ?_⟩
    have e0 := le_div (show (0 : Int) ≤ 90 by decide) z0
    have ee : ∃ e : Nat, (1 : Int) + 90 / z = (e : Nat) ∧ e ≤ 91 := ⟨(1 + 90 / z).toNat, by omega, by omega⟩
    obtain ⟨e, ee, e91⟩ := ee
    show gName 3 (V.int (1 + 90 / z)) _ _ _
    rw [ee]
    refine ⟨by show 0 ≤ sizeLine; decide, fun l nl => ?_⟩
    have nlH : H l = none := s0.free nl
    have ncl : c ≠ l := ne_of_none hc nl
    refine ⟨_, rfl, _, rfl, ⟨_, SqL.of (by rw [upd_ne ncl]; exact hc)⟩, ?_⟩
    refine for_list (xs := ns.map V.int) (fun i σ H' => Same H H' ∧ H' c = some (.lst (ns.map V.int)) ∧ ∃ zs q5 q6, H' l = some (.lst (zs.map V.int)) ∧ zs.length ≤ 91 * i ∧ Digs zs ∧ σ = [some (.ref a), some (.int 90), some (.ref c), some (.int (e : Nat)), some (.ref l), q5, q6])
      ⟨s0.trans (Same.laid nl), by rw [upd_ne ncl]; exact hc, [], none, none, upd_same, by simp, (fun x hx => by cases hx), rfl⟩ (fun i σ H' _ h => SqL.of h.2.1) ?_ ?_
    · rintro i x σ H1 hx ⟨s1, hc1, zs, q5, q6, hl, hz, dg, rfl⟩
      have hi : i < 63 := by
        have := (List.getElem?_eq_some_iff.mp hx).1
        rw [List.length_map] at this; omega
      rw [List.getElem?_map] at hx
      obtain ⟨cell, _, rfl⟩ := Option.map_eq_some_iff.mp hx
      refine ⟨_, rfl, _, rfl, cell, e, rfl, by omega, fun H2 p ys nw ly dy => ⟨_, rfl, ⟨_, SqL.of nw.2.1⟩, ?_⟩⟩
      have npl : p ≠ l := fun z => by rw [← z, nw.2.2] at hl; cases hl
      refine for_list (xs := ys.map V.int) (fun j σ H' => Same H H' ∧ H' c = some (.lst (ns.map V.int)) ∧ H' p = some (.lst (ys.map V.int)) ∧ ∃ q5 q6, H' l = some (.lst ((zs ++ ys.take j).map V.int)) ∧ σ = [some (.ref a), some (.int 90), some (.ref c), some (.int (e : Nat)), some (.ref l), q5, q6])
        ⟨s1.trans nw.1, nw.1 _ _ hc1, nw.2.1, _, _, by rw [nw.1 _ _ hl]; simp, rfl⟩ (fun j σ H' _ h => SqL.of h.2.2.1) ?_ ?_
      · rintro j x σ H3 hx ⟨s3, hc3, hp3, q5', q6', hl3, rfl⟩
        have hj : j < 91 := by
          have := (List.getElem?_eq_some_iff.mp hx).1
          rw [List.length_map, ly] at this; omega
        rw [List.getElem?_map] at hx
        obtain ⟨y, ey, rfl⟩ := Option.map_eq_some_iff.mp hx
        refine ⟨_, rfl, .inl ⟨rfl, _, SqL.of hl3⟩, _, rfl, _, _, _, rfl, rfl, hl3, ?_, Same.off s3 nlH, by rw [upd_ne ncl]; exact hc3, by rw [upd_ne npl]; exact hp3, _, _, ?_, rfl⟩
        · rw [List.length_map, List.length_append, List.length_take]
          have : (16777216 : Nat) ≤ sizeLine := by decide
          omega
        · rw [upd_same, take_snoc ey, ← List.append_assoc, List.map_append (l₁ := zs ++ ys.take j)]
          rfl
      · rintro σ H3 ⟨s3, hc3, hp3, q5', q6', hl3, rfl⟩
        rw [List.length_map, List.take_length] at hl3
        refine ⟨s3, hc3, zs ++ ys, _, _, hl3, by rw [List.length_append]; omega, fun x hx => ?_, rfl⟩
        rcases List.mem_append.mp hx with z | z
        · exact dg x z
        · exact dy x z
    · rintro σ H1 ⟨s1, hc1, zs, q5, q6, hl, hz, dg, rfl⟩
      have hz : zs.length ≤ 91 * 63 := by rw [List.length_map] at hz; omega
      have big : (16777216 : Nat) ≤ sizeLine := by decide
      refine while_by (fun σ H' => Same H H' ∧ ∃ zs, H' l = some (.lst (zs.map V.int)) ∧ zs.length ≤ 91 * 63 ∧ Digs zs ∧ σ = [some (.ref a), some (.int 90), some (.ref c), some (.int (e : Nat)), some (.ref l), q5, q6])
        (fun _ H' => match H' l with | some (.lst xs) => 90 - xs.length | _ => 0) ⟨s1, zs, hl, hz, dg, rfl⟩ ?_ (fun σ H Q Q' m ⟨v, e1, p, ys, e2, h2, w, e3, i, j, e4, e5, k, e6, q⟩ => ⟨v, e1, p, ys, e2, h2, w, e3, i, j, e4, e5, k, e6, m _ _ q⟩)
      rintro σ H2 ⟨s2, zs, hl2, hz2, dg2, rfl⟩
      refine ⟨_, rfl, _, _, rfl, .inl (SqL.of hl2), _, rfl, _, _, rfl, rfl, _, rfl, ?_⟩
      by_cases c90 : (((zs.map V.int).length : Nat) : Int) < 90
      · rw [decide_eq_true c90]
        rw [List.length_map] at c90
        refine iteT ⟨_, rfl, .inl ⟨rfl, _, SqL.of hl2⟩, _, _, _, rfl, rfl, hl2, by rw [List.length_map]; omega, ⟨Same.off s2 nlH, zs ++ [0], ?_, by rw [List.length_append]; show zs.length + 1 ≤ _; omega, dg2.snoc (by decide) (by decide), rfl⟩, ?_⟩
        · rw [upd_same, List.map_append]; rfl
        · have e1 : (upd H2 l (.lst (zs.map V.int ++ [V.int 0]))) l = some (.lst (zs.map V.int ++ [V.int 0])) := upd_same
          show (match (upd H2 l (.lst (zs.map V.int ++ [V.int 0]))) l with | some (.lst xs) => 90 - xs.length | _ => 0) < (match H2 l with | some (.lst xs) => 90 - xs.length | _ => 0)
          rw [e1, hl2]
          show 90 - (zs.map V.int ++ [V.int 0]).length < 90 - (zs.map V.int).length
          rw [List.length_append, List.length_map]
          show 90 - (zs.length + 1) < 90 - zs.length
          omega
      · rw [decide_eq_false c90]
        rw [List.length_map] at c90
        refine iteF ⟨_, rfl, _, rfl, 90, rfl, l, _, rfl, SqL.of hl2, fun p np => ?_⟩
        rw [show cutV (zs.map V.int) none (some 90) = (zs.take 90).map V.int by rw [show (90 : Int) = ((90 : Nat) : Int) from rfl, cut_to, List.map_take]]
        exact q _ p (zs.take 90) (NewL.of s2 np) (by rw [List.length_take]; omega) fun x hx => dg2 x (List.mem_of_mem_take hx)
/-! _law_great -/
def spGreat : Sp := fun vs H Q _ => ∃ (p : Addr) (zs : List Int) (i : Int), vs = [.ref p, .int i] ∧ H p = some (.lst (zs.map V.int)) ∧ zs.length = 90 ∧ Digs zs ∧ 0 ≤ i ∧ i ≤ 80 ∧ ∀ v : Int, 0 ≤ v → v < 1009 ^ 9 → Q (.int v) H
theorem pow9 : ∀ i : Nat, i ≤ 9 → (1009 : Int) ^ i ≤ 1009 ^ 9 := by decide
theorem c_lGreat (T : Txt K mg) : Cal P w K mg base 1 "_law_great" ["_law_numbers_here", "_law_at"] spGreat := by
  obtain ⟨fd, F⟩ := T.d_lGreat
  have nd := sc_lGreat.nd
  refine ⟨_, fd, T.g_law_great, F.ok sc_lGreat (fun vs H Q E h => ?_) (fun cdv A outer s H vs Q E hr h => have hu := hu_of hr; ⟨_, PSs.nox (pss_cons (ps_set (i := 2) nd rfl (Or.inl rfl) pe_int) (pss_cons (ps_for PassesOwn.never rfl (pi_range1 rfl T.b_range (pa_cons (pe_op op_add pe_int (pe_op op_mod (pe_callTy call_int1 rfl T.b_int PyProof.Rows.boot_int (pa_cons (pe_ix ix_list (pv 0) (pv 1) (fun _ _ => rfl)) pa_nil)) pe_int)) pa_nil)) (pg_name (i := 3) nd rfl (Or.inl rfl)) (pss_one (ps_set (i := 2) nd rfl (Or.inl rfl) (pe_op op_add (pe_op op_mulW pe_int (pv 2)) (pe_ix ix_list (pv 0) (pe_op op_add (pe_op op_add (pv 1) pe_int) (pv 3)) (fun _ _ => rfl)))))) (pss_one (ps_ret (pv 2))))), ?_⟩), F.bindsN fun _ _ _ _ _ _ us hl => match us, hl with | [_, _], _ => rfl, F.kp⟩
  · obtain ⟨_, _, _, rfl, _⟩ := h
    rfl
  · obtain ⟨p, zs, i, rfl, hp, hz, dg, i0, i80, q⟩ := h
    obtain ⟨k, rfl⟩ : ∃ k : Nat, i = k := ⟨i.toNat, by omega⟩
    have hk : k ≤ 80 := by omega
    have at_ : ∀ j : Nat, j < 90 → ∃ d : Int, atI (zs.map V.int) (j : Int) = some (.int d) ∧ 0 ≤ d ∧ d < 1009 := fun j hj => by
      have e : zs[j]? = some (zs[j]'(by omega)) := List.getElem?_eq_getElem _
      refine ⟨_, atI_nat (by rw [List.getElem?_map, e]; rfl), dg _ (List.getElem_mem ..)⟩
    obtain ⟨d, ed, d0, d1⟩ := at_ k (by omega)
    have m0 := Int.emod_nonneg d (show (9 : Int) ≠ 0 by decide)
    have m1 := Int.emod_lt_of_pos d (show (0 : Int) < 9 by decide)
    refine ⟨_, rfl, _, rfl, _, _, _, _, rfl, rfl, SqL.of hp, ed, .inl ⟨_, rfl, _, _, rfl, rfl, by show (0 : Int) < 9; decide, _, _, rfl, rfl, _, rfl, by omega, by omega, ?_⟩⟩
    have hn : ∃ n : Nat, ((1 : Int) + d % 9).toNat = n ∧ n ≤ 9 := ⟨_, rfl, by omega⟩
    obtain ⟨n, en, n9⟩ := hn
    rw [en]
    refine for_range (n := n) (fun i σ H' => H' = H ∧ ∃ (v : Int) (q3 : Option V), σ = [some (.ref p), some (.int (k : Nat)), some (.int v), q3] ∧ 0 ≤ v ∧ v + 1 ≤ 1009 ^ i) ⟨rfl, 0, none, rfl, by decide, by decide⟩ ?_ ?_
    · rintro i σ H' hi ⟨rfl, v, q3, rfl, v0, v1⟩
      obtain ⟨x, ex, x0, x1⟩ := at_ (k + 1 + i) (by omega)
      have ex' : atI (zs.map V.int) (((k : Nat) : Int) + 1 + (0 + (i : Nat))) = some (.int x) := by
        rw [show ((k : Nat) : Int) + 1 + (0 + (i : Nat)) = ((k + 1 + i : Nat) : Int) by omega]
        exact ex
      have pw : (1009 : Int) ^ i ≤ 1009 ^ 9 := pow9 i (by omega)
      have p9 : (1009 : Int) ^ 9 ≤ 2 ^ 91 := by decide
      refine ⟨_, rfl, _, _, rfl, rfl, wmul (by omega) (by omega) (by omega) (by omega), _, rfl, _, rfl, _, _, rfl, rfl, _, rfl, _, _, rfl, rfl, _, _, _, _, rfl, rfl, SqL.of hp, ex', _, _, rfl, rfl, rfl, _, _, rfl, ?_, ?_⟩
      · omega
      · rw [Int.pow_succ]
        have := Int.mul_le_mul_of_nonneg_right v1 (show (0 : Int) ≤ 1009 by decide)
        omega
    · rintro σ H' ⟨rfl, v, q3, rfl, v0, v1⟩
      have pw : (1009 : Int) ^ n ≤ 1009 ^ 9 := pow9 n n9
      exact ⟨_, rfl, q v v0 (by omega)⟩
end
end Cu
/-! W19 -/
set_option Elab.async false
set_option linter.all false
set_option maxRecDepth 100000
set_option maxHeartbeats 0
namespace Cu
open PySem PySem.Spec PyProof.Rows L2
def rIntQ : List V → Hp → VK → Prop := fun xs H Q => (∃ i, xs = [.int i] ∧ Q (.int i) H) ∨ ∃ k, xs = [.bl k] ∧ Q (.int (if k then 1 else 0)) H
theorem cr_intQ {X : Cx} : CallR X (.type "int") rIntQ := call_int1
abbrev tNum (K : PySem.W.Frag) : TE := tOp (rIxL K) (tVar 0) (tOp (rI0 fun i j => .int (i + j)) (tOp (rI0 fun i j => .int (i + j)) (tVar 1) (tC (.int 81))) (tVar 5))
/-- if a number's rest is 0: the coordinate is an end -/
abbrev tPick (K : PySem.W.Frag) (m : Int) (src dst : Nat) : TS := tIfS (tTest (tOp rEq (tOp (rI (fun _ j => 0 < j) fun i j => .int (i % j)) (tCB rIntQ (tCons (tNum K) tNil)) (tC (.int m))) (tC (.int 0))))
  (pick_then K m src dst) tNext
where pick_then (K : PySem.W.Frag) (m : Int) (src dst : Nat) : TS := tAsg (tOp (rIxT K) (tTup (tCons (tC (.int 0)) (tCons (tVar src) tNil))) (tOp (rI (fun _ j => 0 < j) fun i j => .int (i % j)) (tCB rIntQ (tCons (tOp (rI CDivW fun i j => .int (i / j)) (tNum K) (tC (.int m))) tNil)) (tC (.int 2)))) (gName dst)
theorem dig_at {zs : List Int} (hz : zs.length = 90) (dg : Digs zs) (i : Int) (h0 : 0 ≤ i) (h1 : i < 90) : ∃ d : Int, atI (zs.map V.int) i = some (.int d) ∧ 0 ≤ d ∧ d < 1009 := by
  obtain ⟨j, rfl⟩ : ∃ j : Nat, i = j := ⟨i.toNat, by omega⟩
  have e : zs[j]? = some (zs[j]'(by omega)) := List.getElem?_eq_getElem _
  exact ⟨_, atI_nat (by rw [List.getElem?_map, e]; rfl), dg _ (List.getElem_mem ..)⟩
theorem pick {K : PySem.W.Frag} {m B c : Int} {src dst : Nat} {D : Ends} {σ : L2.St} {H : Hp} {p : Addr} {zs : List Int} {k : Nat} (hz : zs.length = 90) (dg : Digs zs) (hm : 0 < m) (hm2 : m ≤ 9) (hp : H p = some (.lst (zs.map V.int)))
    (e0 : σ[0]? = some (some (.ref p))) (e1 : σ[1]? = some (some (.int 0))) (e5 : σ[5]? = some (some (.int (0 + (k : Nat))))) (hk : k ≤ 3) (es : σ[src]? = some (some (.int B))) (ed : σ.set dst (some (.int c)) = σ) (hB : 0 ≤ B) (c0 : 0 ≤ c) (c1 : c ≤ B)
    (q : ∀ v H', 0 ≤ v → v ≤ B → Same H H' → D.nx (σ.set dst (some (.int v))) H') : tPick K m src dst D σ H := by
  obtain ⟨d, hd, d0, d1⟩ := dig_at hz dg (0 + 81 + (0 + (k : Nat))) (by omega) (by omega)
  refine ⟨_, e0, _, e1, _, _, rfl, rfl, _, e5, _, _, rfl, rfl, _, _, _, _, rfl, rfl, SqL.of hp, hd, .inl ⟨_, rfl, _, _, rfl, rfl, hm, rfl, _, rfl, ite2 (fun _ => ?_) (fun _ => ?_)⟩⟩
  · refine ⟨_, es, len2, fun t nt => ?_⟩
    have hp' := (Same.laid (o := .tup [.int 0, .int B]) nt) _ _ hp
    have r0 := Int.emod_nonneg (d / m) (show (2 : Int) ≠ 0 by decide)
    have r1 := Int.emod_lt_of_pos (d / m) (show (0 : Int) < 2 by decide)
    have hx : ∃ v : Int, atI [V.int 0, V.int B] (d / m % 2) = some (.int v) ∧ 0 ≤ v ∧ v ≤ B := by
      rcases (show d / m % 2 = 0 ∨ d / m % 2 = 1 by omega) with e | e
      · exact ⟨0, by rw [e]; exact atI_nat (j := 0) rfl, Int.le_refl _, hB⟩
      · exact ⟨B, by rw [e]; exact atI_nat (j := 1) rfl, hB, Int.le_refl _⟩
    obtain ⟨v, hv, v0, v1⟩ := hx
    exact ⟨_, e0, _, e1, _, _, rfl, rfl, _, e5, _, _, rfl, rfl, _, _, _, _, rfl, rfl, SqL.of hp', hd, _, _, rfl, rfl, wdiv hm (by omega), .inl ⟨_, rfl, _, _, rfl, rfl, by show (0 : Int) < 2; decide, _, _, _, _, rfl, rfl, SqT.of upd_same, hv, q v _ v0 v1 (Same.laid nt)⟩⟩
  · have := q c H c0 c1 (Same.refl _)
    rw [ed] at this
    exact this
def spGTab : Sp := fun vs H Q _ => ∃ (p : Addr) (zs : List Int), vs = [.ref p, .int 0] ∧ H p = some (.lst (zs.map V.int)) ∧ zs.length = 90 ∧ Digs zs ∧
  ∀ H' t pp pk W Hh ps, Same H H' → H' t = some (.tup [.int W, .int Hh, .ref pp]) → PpAt H' pp pk ps → Tab W Hh ps → ps.length ≤ 3 → W ≤ 2 ^ 91 → Hh ≤ 2 ^ 91 → Q (.ref t) H'
section
variable {P : Program} {w : World} {K : PySem.W.Frag} {mg : Str → Option Value} {base : Heap}
theorem c_lTable (T : Txt K mg) : Cal P w K mg base 2 "_law_great_table" ["_law_numbers_here", "_law_at"] spGTab := by
  obtain ⟨fd, F⟩ := T.d_lTable
  have nd := sc_lTable.nd
  have c_lGreat := c_lGreat (P := P) (w := w) (base := base) T
  refine ⟨_, fd, T.g_law_great_table, F.ok sc_lTable (fun vs H Q E h => ?_) (fun cdv A outer s H vs Q E hr h => have hu := hu_of hr; have hu65 : (A.deeper (envOfC "_law_great_table" (defScope s_lTable) s.heap.objs.size (He.ga K "_law_great_table") cdv)).units + 65 < cLine := by { have := hr.un; omega }; ⟨_, PSs.nox (pss_cons (ps_set (i := 2) nd rfl (Or.inl rfl) (pe_op op_add pe_int (pe_fn c_lGreat (hr.mono (by decide)) rfl (pa_cons (pv 0) (pa_cons (pv 1) pa_nil))))) (pss_cons (ps_set (i := 3) nd rfl (Or.inl rfl) (pe_op op_add pe_int (pe_fn c_lGreat (hr.mono (by decide)) rfl (pa_cons (pv 0) (pa_cons (pe_op op_add (pv 1) pe_int) pa_nil))))) (pss_cons (ps_set (i := 4) nd rfl (Or.inl rfl) (pe_lst pa_nil)) (pss_cons (ps_for PassesOwn.never rfl (pi_range1 rfl T.b_range (pa_cons (pe_op op_mod (pe_callTy cr_intQ rfl T.b_int PyProof.Rows.boot_int (pa_cons (pe_ix ix_list (pv 0) (pe_op op_add (pv 1) pe_int) (fun _ _ => rfl)) pa_nil)) pe_int) pa_nil)) (pg_name (i := 5) nd rfl (Or.inl rfl)) (pss_cons (ps_set (i := 6) nd rfl (Or.inl rfl) (pe_op op_mod (pe_callTy cr_intQ rfl T.b_int PyProof.Rows.boot_int (pa_cons (pe_fn c_lGreat (hr.mono (by decide)) rfl (pa_cons (pv 0) (pa_cons (pe_op op_add (pe_op op_add (pv 1) pe_int) (pe_op op_mulW pe_int (pv 5))) pa_nil))) pa_nil)) (pe_op op_add (pv 2) pe_int))) (pss_cons (ps_set (i := 7) nd rfl (Or.inl rfl) (pe_op op_mod (pe_callTy cr_intQ rfl T.b_int PyProof.Rows.boot_int (pa_cons (pe_fn c_lGreat (hr.mono (by decide)) rfl (pa_cons (pv 0) (pa_cons (pe_op op_add (pe_op op_add (pv 1) pe_int) (pe_op op_mulW pe_int (pv 5))) pa_nil))) pa_nil)) (pe_op op_add (pv 3) pe_int))) (pss_cons (ps_if (pt_cmpR op_eq (pe_op op_mod (pe_callTy cr_intQ rfl T.b_int PyProof.Rows.boot_int (pa_cons (pe_ix ix_list (pv 0) (pe_op op_add (pe_op op_add (pv 1) pe_int) (pv 5)) (fun _ _ => rfl)) pa_nil)) pe_int) pe_int (nomark _)) (pss_one (ps_set (i := 6) nd rfl (Or.inl rfl) (pe_ix ix_tup (pe_tup (pa_cons pe_int (pa_cons (pv 2) pa_nil))) (pe_op op_mod (pe_callTy cr_intQ rfl T.b_int PyProof.Rows.boot_int (pa_cons (pe_op op_fdivW (pe_ix ix_list (pv 0) (pe_op op_add (pe_op op_add (pv 1) pe_int) (pv 5)) (fun _ _ => rfl)) pe_int) pa_nil)) pe_int) (fun _ _ => rfl)))) pss_nil) (pss_cons (ps_if (pt_cmpR op_eq (pe_op op_mod (pe_callTy cr_intQ rfl T.b_int PyProof.Rows.boot_int (pa_cons (pe_ix ix_list (pv 0) (pe_op op_add (pe_op op_add (pv 1) pe_int) (pv 5)) (fun _ _ => rfl)) pa_nil)) pe_int) pe_int (nomark _)) (pss_one (ps_set (i := 7) nd rfl (Or.inl rfl) (pe_ix ix_tup (pe_tup (pa_cons pe_int (pa_cons (pv 3) pa_nil))) (pe_op op_mod (pe_callTy cr_intQ rfl T.b_int PyProof.Rows.boot_int (pa_cons (pe_op op_fdivW (pe_ix ix_list (pv 0) (pe_op op_add (pe_op op_add (pv 1) pe_int) (pv 5)) (fun _ _ => rfl)) pe_int) pa_nil)) pe_int) (fun _ _ => rfl)))) pss_nil) (pss_one (ps_if (pt_cmpR (op_notInD hu65) (pe_tup (pa_cons (pv 6) (pa_cons (pv 7) pa_nil))) (pv 4) rfl) (pss_one (ps_expr (pe_bm PySem.F.plainAttrs_list PySem.F.slot_list_append PySem.F.type_list_append mt_append (pv 4) (pa_cons (pe_tup (pa_cons (pv 6) (pa_cons (pv 7) pa_nil))) pa_nil)))) pss_nil))))))) (pss_one (ps_ret (pe_tup (pa_cons (pv 2) (pa_cons (pv 3) (pa_cons (pe_callTy call_tuple_of rfl T.b_tuple PyProof.Rows.boot_tuple (pa_cons (pv 4) pa_nil)) pa_nil)))))))))), ?_⟩), F.bindsN fun _ _ _ _ _ _ us hl => match us, hl with | [_, _], _ => rfl, F.kp⟩
  · obtain ⟨_, _, rfl, _⟩ := h
    rfl
  · obtain ⟨p, zs, rfl, hp, hz, dg, q⟩ := h
    have p9 : (1009 : Int) ^ 9 ≤ 2 ^ 90 := by decide
    refine ⟨_, rfl, _, rfl, p, zs, _, rfl, hp, hz, dg, by omega, by omega, fun v1 v10 v11 => ⟨_, _, rfl, rfl, ?_⟩⟩
    refine ⟨_, rfl, _, rfl, _, _, rfl, rfl, p, zs, _, rfl, hp, hz, dg, by omega, by omega, fun v2 v20 v21 => ⟨_, _, rfl, rfl, ?_⟩⟩
    have hW : ∃ W : Int, 1 + v1 = W ∧ 0 < W ∧ W ≤ 2 ^ 91 := ⟨_, rfl, by omega, by omega⟩
    have hH : ∃ Hh : Int, 1 + v2 = Hh ∧ 0 < Hh ∧ Hh ≤ 2 ^ 91 := ⟨_, rfl, by omega, by omega⟩
    obtain ⟨W, eW, W0, W1⟩ := hW
    obtain ⟨Hh, eH, H0, H1⟩ := hH
    refine ⟨by show 0 ≤ sizeLine; decide, fun l nl => ?_⟩
    have plne : p ≠ l := ne_of_none hp nl
    have s0 : Same H (upd H l (.lst [])) := Same.laid nl
    obtain ⟨d20, hd20, d200, d201⟩ := dig_at hz dg (0 + 20) (by omega) (by omega)
    have m0 := Int.emod_nonneg d20 (show (4 : Int) ≠ 0 by decide)
    have m1 := Int.emod_lt_of_pos d20 (show (0 : Int) < 4 by decide)
    refine ⟨_, rfl, _, rfl, _, _, rfl, rfl, _, _, _, _, rfl, rfl, SqL.of (s0 _ _ hp), hd20, .inl ⟨_, rfl, _, _, rfl, rfl, by show (0 : Int) < 4; decide, _, rfl, by omega, by omega, ?_⟩⟩
    have hn : ∃ n : Nat, (d20 % 4).toNat = n ∧ n ≤ 3 := ⟨_, rfl, by omega⟩
    obtain ⟨n, en, n3⟩ := hn
    rw [en]
    refine for_range (n := n) (fun i σ H' => Same H H' ∧ ∃ (as : List Addr) (ps : List (Int × Int)) (q5 q6 q7 : Option V), H' l = some (.lst (as.map V.ref)) ∧ as.length = ps.length ∧ ps.length ≤ i ∧ Pairs H' (as.map V.ref) ps ∧ ps.Nodup ∧ (∀ p ∈ ps, (0 ≤ p.1 ∧ p.1 ≤ W) ∧ 0 ≤ p.2 ∧ p.2 ≤ Hh) ∧
      σ = [some (.ref p), some (.int 0), some (.int W), some (.int Hh), some (.ref l), q5, q6, q7])
      ⟨s0, [], [], none, none, none, upd_same, rfl, by simp, .nil, List.nodup_nil, (fun x hx => by cases hx), by rw [← eW, ← eH]; rfl⟩ ?_ ?_
    · rintro i σ H2 hi ⟨s2, as, ps, q5, q6, q7, hl, hal, hpl, hpr, nd0, on, rfl⟩
      refine ⟨_, rfl, _, rfl, _, _, rfl, rfl, _, rfl, _, _, rfl, rfl, wmul (by omega) (by omega) (by omega) (by omega), _, _, rfl, rfl, p, zs, _, rfl, s2 _ _ hp, hz, dg, by omega, by omega, fun x x0 x1 => .inl ⟨_, rfl, _, rfl, _, _, rfl, rfl, _, _, rfl, rfl, by show 0 < W + 1; omega, ?_⟩⟩
      refine ⟨_, rfl, _, rfl, _, _, rfl, rfl, _, rfl, _, _, rfl, rfl, wmul (by omega) (by omega) (by omega) (by omega), _, _, rfl, rfl, p, zs, _, rfl, s2 _ _ hp, hz, dg, by omega, by omega, fun y y0 y1 => .inl ⟨_, rfl, _, rfl, _, _, rfl, rfl, _, _, rfl, rfl, by show 0 < Hh + 1; omega, ?_⟩⟩
      have a0 := Int.emod_nonneg x (show W + 1 ≠ 0 by omega)
      have a1 := Int.emod_lt_of_pos x (show 0 < W + 1 by omega)
      have b0 := Int.emod_nonneg y (show Hh + 1 ≠ 0 by omega)
      have b1 := Int.emod_lt_of_pos y (show 0 < Hh + 1 by omega)
      refine pick (m := 4) (src := 2) (dst := 6) (c := x % (W + 1)) (k := i) hz dg (by decide) (by decide) (s2 _ _ hp) rfl rfl rfl (by omega) rfl rfl (by omega) a0 (by omega) fun x' H3 x'0 x'1 s3 => ?_
      refine pick (m := 3) (src := 3) (dst := 7) (c := y % (Hh + 1)) (k := i) hz dg (by decide) (by decide) (s3 _ _ (s2 _ _ hp)) rfl rfl rfl (by omega) rfl rfl (by omega) b0 (by omega) fun y' H4 y'0 y'1 s4 => ?_
      have s24 := s3.trans s4
      refine ⟨_, rfl, _, rfl, len2, fun t nt => ?_⟩
      have st : Same H4 (upd H4 t (.tup [.int x', .int y'])) := Same.laid nt
      have pr' := hpr.same (s24.trans st)
      have hl' := st _ _ (s24 _ _ hl)
      refine ⟨_, rfl, prD (x', y'), ps.map prD, .tup (SqT.of upd_same) (.cons (.int _) (.cons (.int _) .nil)), .lst (SqL.of hl') (dp_all pr'), prD_shaped _, prD_shapedL _, _, rfl, ?_⟩
      have ea : ((ps.map prD).any fun z => PyData.eqv z (prD (x', y'))) = decide ((x', y') ∈ ps) := by
        rw [Bool.eq_iff_iff, List.any_eq_true, decide_eq_true_iff]
        constructor
        · rintro ⟨z, hz', e⟩
          obtain ⟨r, hr', rfl⟩ := List.mem_map.mp hz'
          rw [prD_eqv] at e
          have := of_decide_eq_true e
          rw [← this]; exact hr'
        · intro hm
          exact ⟨_, List.mem_map_of_mem hm, by rw [prD_eqv]; exact decide_eq_true rfl⟩
      rw [ea]
      by_cases c : (x', y') ∈ ps
      · rw [decide_eq_true c]
        exact iteF ⟨s2.trans (s24.trans st), as, ps, _, _, _, hl', hal, by omega, pr', nd0, on, rfl⟩
      · rw [decide_eq_false c]
        refine iteT ⟨_, rfl, .inl ⟨rfl, _, SqL.of hl'⟩, _, rfl, _, rfl, len2, fun t2 nt2 => ⟨_, _, _, rfl, rfl, (Same.laid nt2) _ _ hl', small_len (by rw [List.length_map]; omega), ?_⟩⟩
        have st2 := (s24.trans st).trans (Same.laid (o := .tup [.int x', .int y']) nt2)
        have ntl : t2 ≠ l := fun z => by rw [z, hl'] at nt2; cases nt2
        refine ⟨Same.off (s2.trans st2) nl, as ++ [t2], ps ++ [(x', y')], _, _, _, by rw [upd_same, List.map_append]; rfl, by simp [hal], by rw [List.length_append]; show ps.length + 1 ≤ i + 1; omega, ?_, nd_snoc nd0 c, fun r hr' => ?_, rfl⟩
        · have pr2 := hpr.same st2
          have pr3 : Pairs (upd (upd (upd H4 t (.tup [.int x', .int y'])) t2 (.tup [.int x', .int y'])) l (.lst (as.map V.ref ++ [V.ref t2]))) (as.map V.ref) ps := pr2.but (a := l) (SameBut.upd (Same.but (Same.refl _))) ((Same.laid nt2) _ _ hl') (fun xs z => by cases z)
          rw [List.map_append]
          exact pr3.snoc ⟨t2, rfl, by rw [upd_ne ntl, upd_same]⟩
        · rcases List.mem_append.mp hr' with z | z
          · exact on r z
          · rw [List.mem_singleton.mp z]; exact ⟨⟨x'0, x'1⟩, y'0, y'1⟩
    · rintro σ H2 ⟨s2, as, ps, q5, q6, q7, hl, hal, hpl, hpr, nd0, on, rfl⟩
      refine ⟨_, rfl, _, rfl, _, rfl, _, _, rfl, .inl ⟨SqL.of hl, fun pp npp => ⟨by show 3 ≤ sizeLine; decide, fun t nt => ?_⟩⟩⟩
      have s3 := (Same.laid (o := .tup (as.map V.ref)) npp).trans (Same.laid (o := .tup [.int W, .int Hh, .ref pp]) nt)
      refine q _ t pp (fun k => as.getD k 0) W Hh ps (s2.trans s3) upd_same ⟨?_, ?_⟩ ⟨W0, H0, on, nd0⟩ (by omega) W1 H1
      · rw [(Same.laid (o := .tup [.int W, .int Hh, .ref pp]) nt) _ _ upd_same]
        refine congrArg some (congrArg HO.tup ?_)
        apply List.ext_getElem
        · simp [hal]
        · intro k h1 h2
          rw [List.getElem_map, List.getElem_map, List.getElem_range]
          rw [List.length_map] at h1
          rw [List.getD_eq_getElem?_getD, List.getElem?_eq_getElem h1]
          rfl
      · intro k p' ek
        obtain ⟨t', h1, h2⟩ := hpr.at ek
        rw [List.getElem?_map] at h1
        obtain ⟨a', ea', e2⟩ := Option.map_eq_some_iff.mp h1
        have : as.getD k 0 = t' := by rw [List.getD_eq_getElem?_getD, ea']; exact V.ref.inj e2
        show upd (upd H2 pp (.tup (as.map V.ref))) t (.tup [.int W, .int Hh, .ref pp]) (as.getD k 0) = _
        rw [this]
        exact s3 _ _ h2
end
end Cu
/-! W20 -/
set_option Elab.async false
set_option linter.all false
set_option maxRecDepth 100000
set_option maxHeartbeats 0
namespace Cu
open PySem PySem.Spec PyProof.Rows L2
def spTabT (C : Addr) : Sp := fun vs H Q _ => ∃ (a dx pp : Addr) (pk : Nat → Addr) (W Hh : Int) (ps : List (Int × Int)), vs = [.ref a, .int W, .int Hh, .ref pp] ∧ H a = some (.ins C dx []) ∧ H pp = some (.tup ((List.range ps.length).map fun k => V.ref (pk k))) ∧ PkAt H pk ps ∧ Tab W Hh ps ∧ ps.length ≤ 12 ∧ W ≤ 2 ^ 91 ∧ Hh ≤ 2 ^ 91 ∧
  ∀ H' pa, SameBut a H H' → TabAt C H' a dx pa pk W Hh ps → Q .non H'
section
variable {P : Program} {w : World} {K : PySem.W.Frag} {mg : Str → Option Value} {base : Heap}
theorem c_TableT (T : Txt K mg) : CalC P w K mg base 2 "Table" (He.ga K "Table") ["self", "width", "height", "pockets"] (spTabT (He.ga K "Table")) := by
  obtain ⟨fd, F⟩ := T.d_tInit
  obtain ⟨tM, hMOST⟩ := T.i_MOST
  obtain ⟨tP, hMOST_POCKETS⟩ := T.i_MOST_POCKETS
  have nd := sc_tInit.nd
  have c_require := c_require (P := P) (w := w) (base := base) T
  have c_is_point := c_is_point (P := P) (w := w) (base := base) T
  have hb : ∃ ds, Vals (([V.ref (He.dflAt ("Table", some "__init__") 0 K)] : List V).drop 1) ds ∧ Binds K fd ["self", "width", "height", "pockets"] ds := F.binds1 4 1 (by intro z; cases z) rfl fun T kV doc pm an cdv ct us its hl hl2 => by
    match us, hl, its, hl2 with
    | [_, _, _, _], _, [_], _ => exact ⟨_, rfl, rfl⟩
  obtain ⟨ds, hds, hbd⟩ := hb
  cases hds
  refine ⟨_, fd, T.g_Table, T.mk_Table, F.ok sc_tInit (fun vs H Q E h => ?_) (fun cdv A outer s H vs Q E hr h => have hu := hu_of hr; have hu65 : (A.deeper (envOfC "Table.__init__" (defScope s_tInit) s.heap.objs.size (He.ma K (He.ga K "Table") "__init__") cdv)).units + 65 < cLine := by { have := hr.un; omega }; ⟨_, PSs.nox (pss_cons (ps_expr (pe_fn c_require (hr.mono (by decide)) rfl (pa_cons (pe_and (pe_chain op_le op_le pe_int (pv 1) (pe_glob (v := .int 1000000000000000000000000000000) rfl hMOST ⟨_, rfl⟩)) (pe_one (pe_chain op_le op_le pe_int (pv 2) (pe_glob (v := .int 1000000000000000000000000000000) rfl hMOST ⟨_, rfl⟩)))) pa_nil))) (pss_cons (ps_fld (pv 0) (pv 1) rfl) (pss_cons (ps_fld (pv 0) (pv 2) rfl) (pss_cons (ps_expr (pe_fn c_require (hr.mono (by decide)) rfl (pa_cons (pe_and (pe_cmpR op_le (pe_callB call_len_seq rfl T.b_len PySem.boot_len (pa_cons (pv 3) pa_nil)) (pe_glob (v := .int 12) rfl hMOST_POCKETS ⟨_, rfl⟩) (nomark _)) (pe_one (pe_callB (cr_all rfl) rfl T.b_all (by decide +kernel) (pa_cons (pe_lc (own := [("point", 5)]) (g := gName 5) rfl nd (pi_tup (pv 3)) (blkOk_by (N := ["self", "width", "height", "pockets", "number", "point"]) (sc := defScope s_tInit) (own := [("point", 5)]) (by decide +kernel)) (fun _ _ _ _ _ => (pg_name (i := 5) nd rfl (Or.inl rfl))) (fun _ _ _ _ _ => pts_nil) (fun _ _ _ _ _ => (pe_cmpR op_eq (pe_callB (r := rLenQ K) cr_lenQ rfl T.b_len PySem.boot_len (pa_cons (pv 5) pa_nil)) pe_int (nomark _)))) pa_nil)))) pa_nil))) (pss_cons (ps_fld (pv 0) (pe_callTy call_tuple_of rfl T.b_tuple PyProof.Rows.boot_tuple (pa_cons (pe_lc (own := [("point", 5)]) (g := gName 5) rfl nd (pi_tup (pv 3)) (blkOk_by (N := ["self", "width", "height", "pockets", "number", "point"]) (sc := defScope s_tInit) (own := [("point", 5)]) (by decide +kernel)) (fun _ _ _ _ _ => (pg_name (i := 5) nd rfl (Or.inl rfl))) (fun _ _ _ _ _ => pts_nil) (fun _ _ _ _ _ => (pe_callTy (r := rTupQ K) cr_tupQ rfl T.b_tuple PyProof.Rows.boot_tuple (pa_cons (pv 5) pa_nil)))) pa_nil)) rfl) (pss_one (ps_for PassesOwn.never rfl (pi_enumT rfl T.b_enumerate (pa_cons (pe_fld (pv 0) rfl) pa_nil)) (pg_tup rfl (pgs_cons (pg_name (i := 4) nd rfl (Or.inl rfl)) (pgs_cons (pg_name (i := 5) nd rfl (Or.inl rfl)) pgs_nil))) (pss_one (ps_expr (pe_fn c_require (hr.mono (by decide)) rfl (pa_cons (pe_and (pe_mth c_is_point (hr.mono (by decide)) (pv 0) (pa_cons (pv 5) pa_nil)) (pe_one (pe_cmpR (op_notInT hu65) (pv 5) (pe_slice sl_tup (pe_fld (pv 0) rfl) po_none (po_some (pv 4))) rfl))) pa_nil))))))))))), ?_⟩), hbd⟩
  · obtain ⟨_, _, _, _, _, _, _, rfl, _⟩ := h
    rfl
  · obtain ⟨a, dx, pp, pk, W, Hh, ps, rfl, ha, hpp, hP, tb, few, w1', h1', q⟩ := h
    have tW := tb.w
    have tH := tb.h
    have big : (2 : Int) ^ 91 ≤ 1000000000000000000000000000000 := by decide
    have x1 : (1 : Int) ≤ W := by omega
    have x2 : W ≤ 1000000000000000000000000000000 := by omega
    have y1 : (1 : Int) ≤ Hh := by omega
    have y2 : Hh ≤ 1000000000000000000000000000000 := by omega
    refine ⟨_, rfl, _, _, rfl, rfl, true, congrArg V.bl (decide_eq_true x1), iteT ⟨_, _, rfl, rfl, true, congrArg V.bl (decide_eq_true x2), iteT ⟨_, rfl, _, _, rfl, rfl, true, congrArg V.bl (decide_eq_true y1), iteT ⟨_, _, rfl, rfl, ?_⟩⟩⟩⟩
    refine ⟨congrArg (fun b => [V.bl b]) (decide_eq_true y2), ?_⟩
    refine ⟨_, rfl, _, rfl, _, _, _, _, rfl, ha, T.cl_Table, T.na_width, by show 0 < 1000; decide, ?_⟩
    refine ⟨_, rfl, _, rfl, _, _, _, _, rfl, upd_same, T.cl_Table, T.na_height, by show 1 < 1000; decide, ?_⟩
    have sb : SameBut a H (upd (upd H a (.ins (He.ga K "Table") dx (putF "width" (V.int W) []))) a (.ins (He.ga K "Table") dx (putF "height" (V.int Hh) (putF "width" (V.int W) [])))) := SameBut.upd (SameBut.upd (Same.but (Same.refl _)))
    have ha2 : (upd (upd H a (.ins (He.ga K "Table") dx (putF "width" (V.int W) []))) a (.ins (He.ga K "Table") dx (putF "height" (V.int Hh) (putF "width" (V.int W) [])))) a = some (.ins (He.ga K "Table") dx [("width", V.int W), ("height", V.int Hh)]) := upd_same
    generalize (upd (upd H a (.ins (He.ga K "Table") dx (putF "width" (V.int W) []))) a (.ins (He.ga K "Table") dx (putF "height" (V.int Hh) (putF "width" (V.int W) [])))) = H2 at sb ha2
    have npp : pp ≠ a := ne_of hpp ha (by intro z; cases z)
    have hpp2 := sb _ _ npp hpp
    have hP2 : PkAt H2 pk ps := fun k p e => sb _ _ (ne_of (hP k p e) ha (by intro z; cases z)) (hP k p e)
    have hlen : (((List.range ps.length).map fun k => V.ref (pk k)).length : Int) ≤ 12 := by rw [List.length_map, List.length_range]; omega
    refine ⟨_, rfl, _, _, rfl, .inr (SqT.of hpp2), _, _, rfl, rfl, true, congrArg V.bl (decide_eq_true hlen), iteT ⟨_, rfl, _, rfl, ⟨_, SqT.of hpp2⟩, fun D nD => ?_⟩⟩
    refine lc_tup (xs := (List.range ps.length).map fun k => V.ref (pk k)) (fun i H' => Same H2 H' ∧ H' D = some (.lst ((List.replicate i true).map V.bl))) ⟨Same.laid nD, by rw [upd_same]; rfl⟩ (fun i H' _ h => SqT.of (h.1 _ _ hpp2)) ?_ ?_
    · rintro i x H3 hx ⟨s3, hD⟩
      obtain ⟨hi, rfl⟩ := range_at hx
      have ep : ps[i]? = some ps[i] := List.getElem?_eq_getElem hi
      refine ⟨rfl, _, rfl, _, _, rfl, .inr (SqT.of (s3 _ _ (hP2 i _ ep))), rfl, _, hD, small_len (by rw [List.length_map, List.length_replicate]; omega), Same.off s3 nD, ?_⟩
      rw [upd_same, List.replicate_succ', List.map_append]
      rfl
    · rintro H3 ⟨s3, hD⟩
      refine ⟨_, _, rfl, SqL.of hD, ?_⟩
      refine ⟨congrArg (fun b => [V.bl b]) (show (List.replicate _ true).all id = true by simp), ?_⟩
      refine ⟨_, rfl, _, rfl, ⟨_, SqT.of (s3 _ _ hpp2)⟩, fun D2 nD2 => ?_⟩
      refine lc_tup (xs := (List.range ps.length).map fun k => V.ref (pk k)) (fun i H' => Same H3 H' ∧ H' D2 = some (.lst (((List.range ps.length).map fun k => V.ref (pk k)).take i))) ⟨Same.laid nD2, by rw [upd_same]; rfl⟩ (fun i H' _ h => SqT.of (h.1 _ _ (s3 _ _ hpp2))) ?_ ?_
      · rintro i x H4 hx ⟨s4, hD2⟩
        obtain ⟨hi, rfl⟩ := range_at hx
        have ep : ps[i]? = some ps[i] := List.getElem?_eq_getElem hi
        refine ⟨rfl, _, rfl, _, _, rfl, .inr ⟨SqT.of (s4 _ _ (s3 _ _ (hP2 i _ ep))), _, hD2, small_len (by rw [List.length_take]; omega), Same.off s4 nD2, ?_⟩⟩
        rw [upd_same, take_snoc hx]
      · rintro H4 ⟨s4, hD2⟩
        rw [List.take_length] at hD2
        refine ⟨_, _, rfl, .inl ⟨SqL.of hD2, fun pa npa => ?_⟩⟩
        have s24 := (s3.trans s4).trans (Same.laid (o := .tup ((List.range ps.length).map fun k => V.ref (pk k))) npa)
        have npaa : pa ≠ a := fun z => by rw [z, (s3.trans s4) _ _ ha2] at npa; cases npa
        refine ⟨_, rfl, _, _, _, _, rfl, s24 _ _ ha2, T.cl_Table, T.na_pockets, by show 2 < 1000; decide, ?_⟩
        have sb5 : SameBut a H (upd (upd H4 pa (.tup ((List.range ps.length).map fun k => V.ref (pk k)))) a (.ins (He.ga K "Table") dx (putF "pockets" (V.ref pa) [("width", V.int W), ("height", V.int Hh)]))) := SameBut.upd (SameBut.trans sb (Same.but s24))
        have t5 : TabAt (He.ga K "Table") (upd (upd H4 pa (.tup ((List.range ps.length).map fun k => V.ref (pk k)))) a (.ins (He.ga K "Table") dx (putF "pockets" (V.ref pa) [("width", V.int W), ("height", V.int Hh)]))) a dx pa pk W Hh ps :=
          ⟨upd_same, by rw [upd_ne npaa, upd_same], fun k p e => sb5 _ _ (ne_of (hP k p e) ha (by intro z; cases z)) (hP k p e), tb, few, by omega, by omega⟩
        generalize (upd (upd H4 pa (.tup ((List.range ps.length).map fun k => V.ref (pk k)))) a (.ins (He.ga K "Table") dx (putF "pockets" (V.ref pa) [("width", V.int W), ("height", V.int Hh)]))) = H5 at sb5 t5
        refine ⟨_, rfl, _, _, _, _, _, rfl, t5.obj, T.cl_Table, T.na_pockets, rfl, _, _, rfl, SqT.of t5.pks, ?_⟩
        refine for_it walk_enumT (fun i σ H' => Same H5 H' ∧ ∃ q4 q5, σ = [some (.ref a), some (.int W), some (.int Hh), some (.ref pp), q4, q5]) ⟨Same.refl _, none, none, rfl⟩ (fun i σ H' _ h => SqT.of (h.1 _ _ t5.pks)) ?_ ?_
        · rintro i x σ H6 H7 hi ⟨s6, q4, q5, rfl⟩ ⟨tt, xk, xv, rfl, ntt, rfl, e1, e2⟩
          have e1' : V.int (i : Nat) = xk := Option.some.inj e1
          obtain ⟨hi2, rfl⟩ := range_at e2
          subst e1'
          have ep : ps[i]? = some ps[i] := List.getElem?_eq_getElem hi2
          generalize ps[i] = p at ep
          have on := tb.on p (List.mem_of_getElem? ep)
          refine ⟨_, _, rfl, SqT.of upd_same, rfl, _, _, rfl, _, _, rfl, rfl, ?_⟩
          have s57 : Same H5 (upd H6 tt (.tup [.int (i : Nat), .ref (pk i)])) := s6.trans (Same.laid ntt)
          generalize upd H6 tt (.tup [.int (i : Nat), .ref (pk i)]) = H8 at s57
          have t8 := t5.same s57
          refine ⟨_, rfl, a, dx, _, rfl, t8.obj, rfl, _, rfl, a, dx, pa, pk i, W, Hh, p.1, p.2, rfl, t8.obj, t8.pk i p ep, on.1, on.2, true, rfl, iteT ?_⟩
          refine ⟨_, rfl, _, rfl, _, _, _, _, _, rfl, t8.obj, T.cl_Table, T.na_pockets, rfl, _, rfl, _, rfl, pa, _, rfl, SqT.of t8.pks, ?_, fun p9 np9 => ?_⟩
          · rw [HT.sIx_nat, List.length_map, List.length_range]
            intro z
            have := z.2
            omega
          · rw [cut_to]
            have s89 : Same H8 (upd H8 p9 (.tup (((List.range ps.length).map fun k => V.ref (pk k)).take i))) := Same.laid np9
            have t9 := t8.same s89
            have prs : Pairs (upd H8 p9 (.tup (((List.range ps.length).map fun k => V.ref (pk k)).take i))) (((List.range ps.length).map fun k => V.ref (pk k)).take i) (ps.take i) :=
              pairs_ix (by simp) fun k r e => by
                have hk : k < i ∧ ps[k]? = some r := by
                  rw [List.getElem?_take] at e
                  split at e
                  · exact ⟨by assumption, e⟩
                  · cases e
                have hk2 : k < ps.length := (List.getElem?_eq_some_iff.mp hk.2).1
                exact ⟨pk k, by rw [List.getElem?_take, if_pos hk.1, List.getElem?_map, List.getElem?_range hk2]; rfl, t9.pk k r hk.2⟩
            refine ⟨prD p, (ps.take i).map prD, .tup (SqT.of (t9.pk i p ep)) (.cons (.int _) (.cons (.int _) .nil)), .tup (SqT.of upd_same) (dp_all prs), prD_shaped _, prD_shapedT _, ?_⟩
            have nin : ((ps.take i).map prD).any (fun z => PyData.eqv z (prD p)) = false := by
              rw [List.any_eq_false]
              intro z hz e
              obtain ⟨r, hr', rfl⟩ := List.mem_map.mp hz
              rw [prD_eqv] at e
              have er := of_decide_eq_true e
              subst er
              obtain ⟨j, hj, gj⟩ := List.getElem_of_mem hr'
              have hj2 : j < i := by rw [List.length_take] at hj; omega
              rw [List.getElem_take] at gj
              have gi : ps[i] = r := (List.getElem?_eq_some_iff.mp ep).2
              have := (List.getElem_inj tb.nd (h₀ := by omega) (h₁ := hi2)).mp (gj.trans gi.symm)
              omega
            refine ⟨congrArg (fun b => [V.bl (!b)]) nin, s57.trans s89, _, _, rfl⟩
        · rintro σ H6 ⟨s6, q4, q5, rfl⟩
          exact q H6 pa (SameBut.trans sb5 (Same.but s6)) (t5.same s6)
end
def spTabL (C : Addr) : Sp := fun vs H Q _ => ∃ (a dx pp : Addr) (pk : Nat → Addr) (W Hh : Int) (ps : List (Int × Int)), vs = [.ref a, .int W, .int Hh, .ref pp] ∧ H a = some (.ins C dx []) ∧ H pp = some (.lst ((List.range ps.length).map fun k => V.ref (pk k))) ∧ PkAt H pk ps ∧ Tab W Hh ps ∧ ps.length ≤ 12 ∧ W ≤ 2 ^ 91 ∧ Hh ≤ 2 ^ 91 ∧
  ∀ H' pa, SameBut a H H' → TabAt C H' a dx pa pk W Hh ps → Q .non H'
section
variable {P : Program} {w : World} {K : PySem.W.Frag} {mg : Str → Option Value} {base : Heap}
theorem c_TableL (T : Txt K mg) : CalC P w K mg base 2 "Table" (He.ga K "Table") ["self", "width", "height", "pockets"] (spTabL (He.ga K "Table")) := by
  obtain ⟨fd, F⟩ := T.d_tInit
  obtain ⟨tM, hMOST⟩ := T.i_MOST
  obtain ⟨tP, hMOST_POCKETS⟩ := T.i_MOST_POCKETS
  have nd := sc_tInit.nd
  have c_require := c_require (P := P) (w := w) (base := base) T
  have c_is_point := c_is_point (P := P) (w := w) (base := base) T
  have hb : ∃ ds, Vals (([V.ref (He.dflAt ("Table", some "__init__") 0 K)] : List V).drop 1) ds ∧ Binds K fd ["self", "width", "height", "pockets"] ds := F.binds1 4 1 (by intro z; cases z) rfl fun T kV doc pm an cdv ct us its hl hl2 => by
    match us, hl, its, hl2 with
    | [_, _, _, _], _, [_], _ => exact ⟨_, rfl, rfl⟩
  obtain ⟨ds, hds, hbd⟩ := hb
  cases hds
  refine ⟨_, fd, T.g_Table, T.mk_Table, F.ok sc_tInit (fun vs H Q E h => ?_) (fun cdv A outer s H vs Q E hr h => have hu := hu_of hr; have hu65 : (A.deeper (envOfC "Table.__init__" (defScope s_tInit) s.heap.objs.size (He.ma K (He.ga K "Table") "__init__") cdv)).units + 65 < cLine := by { have := hr.un; omega }; ⟨_, PSs.nox (pss_cons (ps_expr (pe_fn c_require (hr.mono (by decide)) rfl (pa_cons (pe_and (pe_chain op_le op_le pe_int (pv 1) (pe_glob (v := .int 1000000000000000000000000000000) rfl hMOST ⟨_, rfl⟩)) (pe_one (pe_chain op_le op_le pe_int (pv 2) (pe_glob (v := .int 1000000000000000000000000000000) rfl hMOST ⟨_, rfl⟩)))) pa_nil))) (pss_cons (ps_fld (pv 0) (pv 1) rfl) (pss_cons (ps_fld (pv 0) (pv 2) rfl) (pss_cons (ps_expr (pe_fn c_require (hr.mono (by decide)) rfl (pa_cons (pe_and (pe_cmpR op_le (pe_callB call_len_seq rfl T.b_len PySem.boot_len (pa_cons (pv 3) pa_nil)) (pe_glob (v := .int 12) rfl hMOST_POCKETS ⟨_, rfl⟩) (nomark _)) (pe_one (pe_callB (cr_all rfl) rfl T.b_all (by decide +kernel) (pa_cons (pe_lc (own := [("point", 5)]) (g := gName 5) rfl nd (pi_list (pv 3)) (blkOk_by (N := ["self", "width", "height", "pockets", "number", "point"]) (sc := defScope s_tInit) (own := [("point", 5)]) (by decide +kernel)) (fun _ _ _ _ _ => (pg_name (i := 5) nd rfl (Or.inl rfl))) (fun _ _ _ _ _ => pts_nil) (fun _ _ _ _ _ => (pe_cmpR op_eq (pe_callB (r := rLenQ K) cr_lenQ rfl T.b_len PySem.boot_len (pa_cons (pv 5) pa_nil)) pe_int (nomark _)))) pa_nil)))) pa_nil))) (pss_cons (ps_fld (pv 0) (pe_callTy call_tuple_of rfl T.b_tuple PyProof.Rows.boot_tuple (pa_cons (pe_lc (own := [("point", 5)]) (g := gName 5) rfl nd (pi_list (pv 3)) (blkOk_by (N := ["self", "width", "height", "pockets", "number", "point"]) (sc := defScope s_tInit) (own := [("point", 5)]) (by decide +kernel)) (fun _ _ _ _ _ => (pg_name (i := 5) nd rfl (Or.inl rfl))) (fun _ _ _ _ _ => pts_nil) (fun _ _ _ _ _ => (pe_callTy (r := rTupQ K) cr_tupQ rfl T.b_tuple PyProof.Rows.boot_tuple (pa_cons (pv 5) pa_nil)))) pa_nil)) rfl) (pss_one (ps_for PassesOwn.never rfl (pi_enumT rfl T.b_enumerate (pa_cons (pe_fld (pv 0) rfl) pa_nil)) (pg_tup rfl (pgs_cons (pg_name (i := 4) nd rfl (Or.inl rfl)) (pgs_cons (pg_name (i := 5) nd rfl (Or.inl rfl)) pgs_nil))) (pss_one (ps_expr (pe_fn c_require (hr.mono (by decide)) rfl (pa_cons (pe_and (pe_mth c_is_point (hr.mono (by decide)) (pv 0) (pa_cons (pv 5) pa_nil)) (pe_one (pe_cmpR (op_notInT hu65) (pv 5) (pe_slice sl_tup (pe_fld (pv 0) rfl) po_none (po_some (pv 4))) rfl))) pa_nil))))))))))), ?_⟩), hbd⟩
  · obtain ⟨_, _, _, _, _, _, _, rfl, _⟩ := h
    rfl
  · obtain ⟨a, dx, pp, pk, W, Hh, ps, rfl, ha, hpp, hP, tb, few, w1', h1', q⟩ := h
    have tW := tb.w
    have tH := tb.h
    have big : (2 : Int) ^ 91 ≤ 1000000000000000000000000000000 := by decide
    have x1 : (1 : Int) ≤ W := by omega
    have x2 : W ≤ 1000000000000000000000000000000 := by omega
    have y1 : (1 : Int) ≤ Hh := by omega
    have y2 : Hh ≤ 1000000000000000000000000000000 := by omega
    refine ⟨_, rfl, _, _, rfl, rfl, true, congrArg V.bl (decide_eq_true x1), iteT ⟨_, _, rfl, rfl, true, congrArg V.bl (decide_eq_true x2), iteT ⟨_, rfl, _, _, rfl, rfl, true, congrArg V.bl (decide_eq_true y1), iteT ⟨_, _, rfl, rfl, ?_⟩⟩⟩⟩
    refine ⟨congrArg (fun b => [V.bl b]) (decide_eq_true y2), ?_⟩
    refine ⟨_, rfl, _, rfl, _, _, _, _, rfl, ha, T.cl_Table, T.na_width, by show 0 < 1000; decide, ?_⟩
    refine ⟨_, rfl, _, rfl, _, _, _, _, rfl, upd_same, T.cl_Table, T.na_height, by show 1 < 1000; decide, ?_⟩
    have sb : SameBut a H (upd (upd H a (.ins (He.ga K "Table") dx (putF "width" (V.int W) []))) a (.ins (He.ga K "Table") dx (putF "height" (V.int Hh) (putF "width" (V.int W) [])))) := SameBut.upd (SameBut.upd (Same.but (Same.refl _)))
    have ha2 : (upd (upd H a (.ins (He.ga K "Table") dx (putF "width" (V.int W) []))) a (.ins (He.ga K "Table") dx (putF "height" (V.int Hh) (putF "width" (V.int W) [])))) a = some (.ins (He.ga K "Table") dx [("width", V.int W), ("height", V.int Hh)]) := upd_same
    generalize (upd (upd H a (.ins (He.ga K "Table") dx (putF "width" (V.int W) []))) a (.ins (He.ga K "Table") dx (putF "height" (V.int Hh) (putF "width" (V.int W) [])))) = H2 at sb ha2
    have npp : pp ≠ a := ne_of hpp ha (by intro z; cases z)
    have hpp2 := sb _ _ npp hpp
    have hP2 : PkAt H2 pk ps := fun k p e => sb _ _ (ne_of (hP k p e) ha (by intro z; cases z)) (hP k p e)
    have hlen : (((List.range ps.length).map fun k => V.ref (pk k)).length : Int) ≤ 12 := by rw [List.length_map, List.length_range]; omega
    refine ⟨_, rfl, _, _, rfl, .inl (SqL.of hpp2), _, _, rfl, rfl, true, congrArg V.bl (decide_eq_true hlen), iteT ⟨_, rfl, _, rfl, ⟨_, SqL.of hpp2⟩, fun D nD => ?_⟩⟩
    refine lc_list (xs := (List.range ps.length).map fun k => V.ref (pk k)) (fun i H' => Same H2 H' ∧ H' D = some (.lst ((List.replicate i true).map V.bl))) ⟨Same.laid nD, by rw [upd_same]; rfl⟩ (fun i H' _ h => SqL.of (h.1 _ _ hpp2)) ?_ ?_
    · rintro i x H3 hx ⟨s3, hD⟩
      obtain ⟨hi, rfl⟩ := range_at hx
      have ep : ps[i]? = some ps[i] := List.getElem?_eq_getElem hi
      refine ⟨rfl, _, rfl, _, _, rfl, .inr (SqT.of (s3 _ _ (hP2 i _ ep))), rfl, _, hD, small_len (by rw [List.length_map, List.length_replicate]; omega), Same.off s3 nD, ?_⟩
      rw [upd_same, List.replicate_succ', List.map_append]
      rfl
    · rintro H3 ⟨s3, hD⟩
      refine ⟨_, _, rfl, SqL.of hD, ?_⟩
      refine ⟨congrArg (fun b => [V.bl b]) (show (List.replicate _ true).all id = true by simp), ?_⟩
      refine ⟨_, rfl, _, rfl, ⟨_, SqL.of (s3 _ _ hpp2)⟩, fun D2 nD2 => ?_⟩
      refine lc_list (xs := (List.range ps.length).map fun k => V.ref (pk k)) (fun i H' => Same H3 H' ∧ H' D2 = some (.lst (((List.range ps.length).map fun k => V.ref (pk k)).take i))) ⟨Same.laid nD2, by rw [upd_same]; rfl⟩ (fun i H' _ h => SqL.of (h.1 _ _ (s3 _ _ hpp2))) ?_ ?_
      · rintro i x H4 hx ⟨s4, hD2⟩
        obtain ⟨hi, rfl⟩ := range_at hx
        have ep : ps[i]? = some ps[i] := List.getElem?_eq_getElem hi
        refine ⟨rfl, _, rfl, _, _, rfl, .inr ⟨SqT.of (s4 _ _ (s3 _ _ (hP2 i _ ep))), _, hD2, small_len (by rw [List.length_take]; omega), Same.off s4 nD2, ?_⟩⟩
        rw [upd_same, take_snoc hx]
      · rintro H4 ⟨s4, hD2⟩
        rw [List.take_length] at hD2
        refine ⟨_, _, rfl, .inl ⟨SqL.of hD2, fun pa npa => ?_⟩⟩
        have s24 := (s3.trans s4).trans (Same.laid (o := .tup ((List.range ps.length).map fun k => V.ref (pk k))) npa)
        have npaa : pa ≠ a := fun z => by rw [z, (s3.trans s4) _ _ ha2] at npa; cases npa
        refine ⟨_, rfl, _, _, _, _, rfl, s24 _ _ ha2, T.cl_Table, T.na_pockets, by show 2 < 1000; decide, ?_⟩
        have sb5 : SameBut a H (upd (upd H4 pa (.tup ((List.range ps.length).map fun k => V.ref (pk k)))) a (.ins (He.ga K "Table") dx (putF "pockets" (V.ref pa) [("width", V.int W), ("height", V.int Hh)]))) := SameBut.upd (SameBut.trans sb (Same.but s24))
        have t5 : TabAt (He.ga K "Table") (upd (upd H4 pa (.tup ((List.range ps.length).map fun k => V.ref (pk k)))) a (.ins (He.ga K "Table") dx (putF "pockets" (V.ref pa) [("width", V.int W), ("height", V.int Hh)]))) a dx pa pk W Hh ps :=
          ⟨upd_same, by rw [upd_ne npaa, upd_same], fun k p e => sb5 _ _ (ne_of (hP k p e) ha (by intro z; cases z)) (hP k p e), tb, few, by omega, by omega⟩
        generalize (upd (upd H4 pa (.tup ((List.range ps.length).map fun k => V.ref (pk k)))) a (.ins (He.ga K "Table") dx (putF "pockets" (V.ref pa) [("width", V.int W), ("height", V.int Hh)]))) = H5 at sb5 t5
        refine ⟨_, rfl, _, _, _, _, _, rfl, t5.obj, T.cl_Table, T.na_pockets, rfl, _, _, rfl, SqT.of t5.pks, ?_⟩
        refine for_it walk_enumT (fun i σ H' => Same H5 H' ∧ ∃ q4 q5, σ = [some (.ref a), some (.int W), some (.int Hh), some (.ref pp), q4, q5]) ⟨Same.refl _, none, none, rfl⟩ (fun i σ H' _ h => SqT.of (h.1 _ _ t5.pks)) ?_ ?_
        · rintro i x σ H6 H7 hi ⟨s6, q4, q5, rfl⟩ ⟨tt, xk, xv, rfl, ntt, rfl, e1, e2⟩
          have e1' : V.int (i : Nat) = xk := Option.some.inj e1
          obtain ⟨hi2, rfl⟩ := range_at e2
          subst e1'
          have ep : ps[i]? = some ps[i] := List.getElem?_eq_getElem hi2
          generalize ps[i] = p at ep
          have on := tb.on p (List.mem_of_getElem? ep)
          refine ⟨_, _, rfl, SqT.of upd_same, rfl, _, _, rfl, _, _, rfl, rfl, ?_⟩
          have s57 : Same H5 (upd H6 tt (.tup [.int (i : Nat), .ref (pk i)])) := s6.trans (Same.laid ntt)
          generalize upd H6 tt (.tup [.int (i : Nat), .ref (pk i)]) = H8 at s57
          have t8 := t5.same s57
          refine ⟨_, rfl, a, dx, _, rfl, t8.obj, rfl, _, rfl, a, dx, pa, pk i, W, Hh, p.1, p.2, rfl, t8.obj, t8.pk i p ep, on.1, on.2, true, rfl, iteT ?_⟩
          refine ⟨_, rfl, _, rfl, _, _, _, _, _, rfl, t8.obj, T.cl_Table, T.na_pockets, rfl, _, rfl, _, rfl, pa, _, rfl, SqT.of t8.pks, ?_, fun p9 np9 => ?_⟩
          · rw [HT.sIx_nat, List.length_map, List.length_range]
            intro z
            have := z.2
            omega
          · rw [cut_to]
            have s89 : Same H8 (upd H8 p9 (.tup (((List.range ps.length).map fun k => V.ref (pk k)).take i))) := Same.laid np9
            have t9 := t8.same s89
            have prs : Pairs (upd H8 p9 (.tup (((List.range ps.length).map fun k => V.ref (pk k)).take i))) (((List.range ps.length).map fun k => V.ref (pk k)).take i) (ps.take i) :=
              pairs_ix (by simp) fun k r e => by
                have hk : k < i ∧ ps[k]? = some r := by
                  rw [List.getElem?_take] at e
                  split at e
                  · exact ⟨by assumption, e⟩
                  · cases e
                have hk2 : k < ps.length := (List.getElem?_eq_some_iff.mp hk.2).1
                exact ⟨pk k, by rw [List.getElem?_take, if_pos hk.1, List.getElem?_map, List.getElem?_range hk2]; rfl, t9.pk k r hk.2⟩
            refine ⟨prD p, (ps.take i).map prD, .tup (SqT.of (t9.pk i p ep)) (.cons (.int _) (.cons (.int _) .nil)), .tup (SqT.of upd_same) (dp_all prs), prD_shaped _, prD_shapedT _, ?_⟩
            have nin : ((ps.take i).map prD).any (fun z => PyData.eqv z (prD p)) = false := by
              rw [List.any_eq_false]
              intro z hz e
              obtain ⟨r, hr', rfl⟩ := List.mem_map.mp hz
              rw [prD_eqv] at e
              have er := of_decide_eq_true e
              subst er
              obtain ⟨j, hj, gj⟩ := List.getElem_of_mem hr'
              have hj2 : j < i := by rw [List.length_take] at hj; omega
              rw [List.getElem_take] at gj
              have gi : ps[i] = r := (List.getElem?_eq_some_iff.mp ep).2
              have := (List.getElem_inj tb.nd (h₀ := by omega) (h₁ := hi2)).mp (gj.trans gi.symm)
              omega
            refine ⟨congrArg (fun b => [V.bl (!b)]) nin, s57.trans s89, _, _, rfl⟩
        · rintro σ H6 ⟨s6, q4, q5, rfl⟩
          exact q H6 pa (SameBut.trans sb5 (Same.but s6)) (t5.same s6)
end
end Cu
/-! W21 -/
set_option Elab.async false
set_option linter.all false
set_option maxRecDepth 100000
set_option maxHeartbeats 0
namespace Cu
open PySem PySem.Spec PyProof.Rows L2
/-! ints as data -/
theorem intD_shaped (f : List Int) : SeqAt.shaped (.list (f.map PyData.int)) = true := by
  have h1 : PyData.canLayAll0 (f.map PyData.int) = true := by
    induction f with
    | nil => rfl
    | cons a f ih =>
      show (PyData.canLay0 (.int a) && PyData.canLayAll0 (f.map PyData.int)) = true
      rw [ih]; rfl
  have h2 : PyData.depthAll (f.map PyData.int) ≤ 1 := by
    clear h1
    induction f with
    | nil => simp [PyData.depthAll]
    | cons a f ih =>
      simp only [List.map_cons, PyData.depthAll, PyData.depth] at ih ⊢
      omega
  show (PyData.canLay0 (.list (f.map PyData.int)) && decide (PyData.depth (.list (f.map PyData.int)) ≤ 64)) = true
  rw [decide_eq_true (by simp only [PyData.depth]; omega), Bool.and_true]
  simp only [PyData.canLay0]
  exact h1
theorem intD_refl (f : List Int) : PyData.eqv (.list (f.map PyData.int)) (.list (f.map PyData.int)) = true := by
  simp only [PyData.eqv]
  induction f with
  | nil => rfl
  | cons a f ih => simp only [List.map_cons, PyData.eqvAll, ih, PyData.eqv, beq_self_eq_true, Bool.and_true]
theorem intD_all {K : PySem.W.Frag} {H : Hp} : ∀ f : List Int, DpAll K H (f.map V.int) (f.map PyData.int)
  | [] => .nil
  | a :: f => .cons (.int a) (intD_all f)
/-- [row[1] for row in told[0]] -/
theorem rows_lc {K : PySem.W.Frag} {σ : L2.St} {H1 : Hp} {D p l : Addr} {pk : Nat → Addr} {ps : List (Int × Int)} {f : List Int} {rest : Int} {qs : List Addr} {Qd : Hp → Prop} (ta : TAt H1 p pk ps f rest l qs) (few : ps.length ≤ 12) (nD : H1 D = none) (hσ : σ.length = 14) (hd : ∀ H, Ints H1 D f f.length H → Qd H) :
    ∃ W : Nat → Nat → Hp → Prop, (∃ m, W 0 m (upd H1 D (.lst []))) ∧ ∀ i m H, W i m H →
      ((Itl K l).stop i H ∧ Qd H) ∨ ((Itl K l).go i H ∧ ∃ Nx : Hp → Prop, (∀ H', Nx H' → ∃ m', m' < m ∧ W (i + 1) m' H') ∧ ∀ x H', (Itl K l).yld i H x H' → gName 13 x (wipe σ [13]) H' fun σ2 H2 => wipe σ2 [13] = wipe σ [13] ∧ tYes σ2 H2 fun b H3 =>
        if b = true then tOp (rIxT K) (tVar 13) (tC (.int 1)) σ2 H3 fun y H4 => ∃ acc, H4 D = some (.lst acc) ∧ acc.length < sizeLine ∧ Nx (upd H4 D (.lst (acc ++ [y]))) else Nx H3) := by
  refine lc_list (xs := qs.map V.ref) (Ints H1 D f) (Ints.zero nD) (fun i H' _ h => SqL.of (h.1 _ _ ta.ls)) ?_ (fun H h => hd H (by rw [List.length_map, ta.len, ← ta.fl] at h; exact h))
  rintro i x H3 hx h3
  rw [List.getElem?_map] at hx
  obtain ⟨q0, e0, rfl⟩ := Option.map_eq_some_iff.mp hx
  have hi : i < ps.length := by rw [← ta.len]; exact (List.getElem?_eq_some_iff.mp e0).1
  have ef : f[i]? = some (f[i]'(by rw [ta.fl]; exact hi)) := List.getElem?_eq_getElem _
  have hq0 := h3.1 _ _ (ta.tell i q0 _ e0 ef)
  have w1 : wipe σ [13] = σ.set 13 none := rfl
  have g1 : ((wipe σ [13]).set 13 (some (V.ref q0)))[13]? = some (some (V.ref q0)) := by rw [w1, List.set_set, List.getElem?_set_self (by omega)]
  refine ⟨?_, ?_⟩
  · show ((wipe σ [13]).set 13 (some (V.ref q0))).set 13 none = σ.set 13 none
    rw [w1, List.set_set, List.set_set]
  · exact ⟨_, g1, _, _, _, _, rfl, rfl, SqT.of hq0, atI_nat (j := 1) rfl, _, h3.2, small_len (by rw [List.length_map, List.length_take, ta.fl]; omega), h3.more nD ef⟩
/-- points in another place, in the making at D -/
def Made (H : Hp) (D : Addr) (ps : List (Int × Int)) (i : Nat) (H' : Hp) : Prop := Same H H' ∧ ∃ as : List Addr, H' D = some (.lst (as.map V.ref)) ∧ as.length = i ∧ ∀ (j : Nat) (a : Addr) (p : Int × Int), as[j]? = some a → ps[j]? = some p → H' a = some (.tup [.int p.1, .int p.2])
theorem Made.zero {H : Hp} {D : Addr} {ps : List (Int × Int)} (n : H D = none) : Made H D ps 0 (upd H D (.lst [])) := ⟨Same.laid n, [], upd_same, rfl, fun j a p h => by simp at h⟩
theorem Made.more {H H' : Hp} {D t : Addr} {ps : List (Int × Int)} {i : Nat} {p : Int × Int} (h : Made H D ps i H') (n : H D = none) (ep : ps[i]? = some p) (nt : H' t = none) :
    ∃ acc, (upd H' t (.tup [.int p.1, .int p.2])) D = some (.lst acc) ∧ acc.length = i ∧ Made H D ps (i + 1) (upd (upd H' t (.tup [.int p.1, .int p.2])) D (.lst (acc ++ [.ref t]))) := by
  obtain ⟨s, as, hD, hl, ha⟩ := h
  have nDt : D ≠ t := ne_of_none hD nt
  refine ⟨as.map V.ref, by rw [upd_ne nDt]; exact hD, by rw [List.length_map]; exact hl, Same.off (s.trans (Same.laid nt)) n, as ++ [t], by rw [upd_same, List.map_append]; rfl, by simp [hl], fun j a q hj hq => ?_⟩
  by_cases c : j < as.length
  · rw [List.getElem?_append_left c] at hj
    have := ha j a q hj hq
    rw [upd_ne (ne_of this hD (by intro z; cases z))]
    exact Same.laid nt _ _ this
  · rw [List.getElem?_append_right (by omega)] at hj
    have e0 : j - as.length = 0 := by have := (List.getElem?_eq_some_iff.mp hj).1; simp at this; omega
    rw [e0] at hj
    have e1 : a = t := (Option.some.inj hj).symm
    have e2 : j = i := by omega
    subst e1 e2
    rw [ep] at hq
    have e3 := Option.some.inj hq
    subst e3
    rw [upd_ne nDt.symm, upd_same]
theorem Made.done {H H' : Hp} {D : Addr} {ps : List (Int × Int)} (h : Made H D ps ps.length H') : ∃ pk : Nat → Addr, H' D = some (.lst ((List.range ps.length).map fun k => V.ref (pk k))) ∧ PkAt H' pk ps := by
  obtain ⟨s, as, hD, hl, ha⟩ := h
  refine ⟨fun k => as.getD k 0, ?_, fun k p ek => ?_⟩
  · rw [hD]
    refine congrArg some (congrArg HO.lst ?_)
    apply List.ext_getElem
    · simp [hl]
    · intro k h1 h2
      rw [List.getElem_map, List.getElem_map, List.getElem_range]
      rw [List.length_map] at h1
      show V.ref as[k] = V.ref (as.getD k 0)
      rw [List.getD_eq_getElem?_getD, List.getElem?_eq_getElem h1]
      rfl
  · have hk : k < as.length := by rw [hl]; exact (List.getElem?_eq_some_iff.mp ek).1
    have e : as[k]? = some as[k] := List.getElem?_eq_getElem hk
    have := ha k _ p e ek
    show H' (as.getD k 0) = _
    rw [List.getD_eq_getElem?_getD, e]
    exact this
theorem turnP_len (ps : List (Int × Int)) : (turnP ps).length = ps.length := List.length_map ..
theorem mirP_len (W : Int) (ps : List (Int × Int)) : (mirP W ps).length = ps.length := List.length_map ..
theorem Same.made2 {H H3 : Hp} {x dx C : Addr} (nx : H x = none) (ndx : H dx = none) (sb : SameBut x (upd (upd H dx (.own x)) x (.ins C dx [])) H3) : Same H H3 := fun b o e => sb _ _ (ne_of_none e nx) (by rw [upd_ne (ne_of_none e nx), upd_ne (ne_of_none e ndx)]; exact e)
def spLaw (K : PySem.W.Frag) : Sp := fun vs H Q _ => ∃ (a : Addr) (ns : List Int), vs = [.ref a] ∧ SqL K H a (ns.map V.int) ∧ ns.length ≤ 63 ∧ ∀ H', Q (.bl true) H'
section
variable {P : Program} {w : World} {K : PySem.W.Frag} {mg : Str → Option Value} {base : Heap}
theorem ok_law (T : Txt K mg) {fd : FuncData} (F : FunD K "law" "law" (defArgs s_law) (defBody s_law) (defScope s_law) [] [] (He.ga K "law") fd) : FnOk P w K mg base CX0 6 (He.ga K "law") fd ["_law_script"] (spLaw K) := by
  have nd := sc_law.nd
  have c_lNumbers := c_lNumbers (P := P) (w := w) (base := base) T
  have c_lTable := c_lTable (P := P) (w := w) (base := base) T
  have c_TableT := c_TableT (P := P) (w := w) (base := base) T
  have c_TableL := c_TableL (P := P) (w := w) (base := base) T
  have c_slanting := c_slanting (P := P) (w := w) (base := base) T
  have c_straight := c_straight (P := P) (w := w) (base := base) T
  have c_lIsTold := c_lIsTold (P := P) (w := w) (base := base) T
  have c_lSlanting := c_lSlanting (P := P) (w := w) (base := base) T
  have c_lStraight := c_lStraight (P := P) (w := w) (base := base) T
  have c_lSlEach := c_lSlEach (P := P) (w := w) (base := base) T
  have c_lStEach := c_lStEach (P := P) (w := w) (base := base) T
  refine F.ok sc_law (fun vs H Q E h => ?_) (fun cdv A outer s H vs Q E hr h => have hu := hu_of hr; have hu64 := hr.units; ⟨_, PSs.nox (pss_cons (ps_set (i := 1) nd rfl (Or.inl rfl) (pe_fn c_lNumbers (hr.mono (by decide)) rfl (pa_cons (pv 0) (pa_cons pe_int pa_nil)))) (pss_cons (ps_asg (pe_fn c_lTable (hr.mono (by decide)) rfl (pa_cons (pv 1) (pa_cons pe_int pa_nil))) (pg_tup rfl (pgs_cons (pg_name (i := 2) nd rfl (Or.inr rfl)) (pgs_cons (pg_name (i := 3) nd rfl (Or.inl rfl)) (pgs_cons (pg_name (i := 4) nd rfl (Or.inl rfl)) pgs_nil))))) (pss_cons (ps_set (i := 5) nd rfl (Or.inl rfl) (pe_mk c_TableT (hr.mono (by decide)) rfl (pa_cons (pv 2) (pa_cons (pv 3) (pa_cons (pv 4) pa_nil))))) (pss_cons (ps_set (i := 6) nd rfl (Or.inl rfl) (pe_mk c_TableL (hr.mono (by decide)) rfl (pa_cons (pv 3) (pa_cons (pv 2) (pa_cons (pe_lc (own := [("_law_x", 11), ("_law_y", 12)]) (g := gTup K 2 (gCons (gName 11) (gCons (gName 12) gNil))) rfl nd (pi_tup (pv 4)) (blkOk_by (N := ["_law_script", "_law_numbers_here", "_law_width", "_law_height", "_law_pockets", "_law_table", "_law_turned", "_law_mirrored", "_law_slanting_here", "_law_straight_here", "_law_other", "_law_x", "_law_y", "_law_row_here"]) (sc := defScope s_law) (own := [("_law_x", 11), ("_law_y", 12)]) (by decide +kernel)) (fun _ _ _ _ _ => (pg_tup rfl (pgs_cons (pg_name (i := 11) nd rfl (Or.inl rfl)) (pgs_cons (pg_name (i := 12) nd rfl (Or.inl rfl)) pgs_nil)))) (fun _ _ _ _ _ => pts_nil) (fun _ _ _ _ _ => (pe_tup (pa_cons (pv 12) (pa_cons (pv 11) pa_nil))))) pa_nil))))) (pss_cons (ps_set (i := 7) nd rfl (Or.inl rfl) (pe_mk c_TableL (hr.mono (by decide)) rfl (pa_cons (pv 2) (pa_cons (pv 3) (pa_cons (pe_lc (own := [("_law_x", 11), ("_law_y", 12)]) (g := gTup K 2 (gCons (gName 11) (gCons (gName 12) gNil))) rfl nd (pi_tup (pv 4)) (blkOk_by (N := ["_law_script", "_law_numbers_here", "_law_width", "_law_height", "_law_pockets", "_law_table", "_law_turned", "_law_mirrored", "_law_slanting_here", "_law_straight_here", "_law_other", "_law_x", "_law_y", "_law_row_here"]) (sc := defScope s_law) (own := [("_law_x", 11), ("_law_y", 12)]) (by decide +kernel)) (fun _ _ _ _ _ => (pg_tup rfl (pgs_cons (pg_name (i := 11) nd rfl (Or.inl rfl)) (pgs_cons (pg_name (i := 12) nd rfl (Or.inl rfl)) pgs_nil)))) (fun _ _ _ _ _ => pts_nil) (fun _ _ _ _ _ => (pe_tup (pa_cons (pe_op op_sub (pv 2) (pv 11)) (pa_cons (pv 12) pa_nil))))) pa_nil))))) (pss_cons (ps_set (i := 8) nd rfl (Or.inl rfl) (pe_fn c_slanting (hr.mono (by decide)) rfl (pa_cons (pv 5) pa_nil))) (pss_cons (ps_set (i := 9) nd rfl (Or.inl rfl) (pe_fn c_straight (hr.mono (by decide)) rfl (pa_cons (pv 5) pa_nil))) (pss_cons (ps_if (pt_not (pt_val (pe_fn c_lIsTold (hr.mono (by decide)) rfl (pa_cons (pv 8) (pa_cons (pe_tup (pa_cons (pv 2) (pa_cons (pv 3) (pa_cons (pv 4) pa_nil)))) (pa_cons (pe_fn c_lSlanting (hr.mono (by decide)) rfl (pa_cons (pv 2) (pa_cons (pv 3) (pa_cons (pv 4) pa_nil)))) pa_nil)))))) (pss_one (ps_ret pe_bl)) pss_nil) (pss_cons (ps_if (pt_not (pt_val (pe_fn c_lIsTold (hr.mono (by decide)) rfl (pa_cons (pv 9) (pa_cons (pe_tup (pa_cons (pv 2) (pa_cons (pv 3) (pa_cons (pv 4) pa_nil)))) (pa_cons (pe_fn c_lStraight (hr.mono (by decide)) rfl (pa_cons (pv 2) (pa_cons (pv 3) (pa_cons (pv 4) pa_nil)))) pa_nil)))))) (pss_one (ps_ret pe_bl)) pss_nil) (pss_cons (ps_if (pt_cmpR (op_neD hu64) (pe_lc (own := [("_law_row_here", 13)]) (g := gName 13) rfl nd (pi_list (pe_ix ix_tup (pv 8) pe_int (fun _ _ => rfl))) (blkOk_by (N := ["_law_script", "_law_numbers_here", "_law_width", "_law_height", "_law_pockets", "_law_table", "_law_turned", "_law_mirrored", "_law_slanting_here", "_law_straight_here", "_law_other", "_law_x", "_law_y", "_law_row_here"]) (sc := defScope s_law) (own := [("_law_row_here", 13)]) (by decide +kernel)) (fun _ _ _ _ _ => (pg_name (i := 13) nd rfl (Or.inl rfl))) (fun _ _ _ _ _ => pts_nil) (fun _ _ _ _ _ => (pe_ix (r := rIxT K) ix_tup (pv 13) pe_int (fun _ _ => rfl)))) (pe_fn c_lSlEach (hr.mono (by decide)) rfl (pa_cons (pv 2) (pa_cons (pv 3) (pa_cons (pv 4) pa_nil)))) (nomark _)) (pss_one (ps_ret pe_bl)) pss_nil) (pss_cons (ps_if (pt_cmpR (op_neD hu64) (pe_lc (own := [("_law_row_here", 13)]) (g := gName 13) rfl nd (pi_list (pe_ix ix_tup (pv 9) pe_int (fun _ _ => rfl))) (blkOk_by (N := ["_law_script", "_law_numbers_here", "_law_width", "_law_height", "_law_pockets", "_law_table", "_law_turned", "_law_mirrored", "_law_slanting_here", "_law_straight_here", "_law_other", "_law_x", "_law_y", "_law_row_here"]) (sc := defScope s_law) (own := [("_law_row_here", 13)]) (by decide +kernel)) (fun _ _ _ _ _ => (pg_name (i := 13) nd rfl (Or.inl rfl))) (fun _ _ _ _ _ => pts_nil) (fun _ _ _ _ _ => (pe_ix (r := rIxT K) ix_tup (pv 13) pe_int (fun _ _ => rfl)))) (pe_fn c_lStEach (hr.mono (by decide)) rfl (pa_cons (pv 2) (pa_cons (pv 3) (pa_cons (pv 4) pa_nil)))) (nomark _)) (pss_one (ps_ret pe_bl)) pss_nil) (pss_cons (ps_for PassesOwn.never rfl (pi_list (pe_lst (pa_cons (pv 6) (pa_cons (pv 7) pa_nil)))) (pg_name (i := 10) nd rfl (Or.inl rfl)) (pss_cons (ps_if (pt_cmpR (op_neD hu64) (pe_lc (own := [("_law_row_here", 13)]) (g := gName 13) rfl nd (pi_list (pe_ix ix_tup (pe_fn c_slanting (hr.mono (by decide)) rfl (pa_cons (pv 10) pa_nil)) pe_int (fun _ _ => rfl))) (blkOk_by (N := ["_law_script", "_law_numbers_here", "_law_width", "_law_height", "_law_pockets", "_law_table", "_law_turned", "_law_mirrored", "_law_slanting_here", "_law_straight_here", "_law_other", "_law_x", "_law_y", "_law_row_here"]) (sc := defScope s_law) (own := [("_law_row_here", 13)]) (by decide +kernel)) (fun _ _ _ _ _ => (pg_name (i := 13) nd rfl (Or.inl rfl))) (fun _ _ _ _ _ => pts_nil) (fun _ _ _ _ _ => (pe_ix (r := rIxT K) ix_tup (pv 13) pe_int (fun _ _ => rfl)))) (pe_lc (own := [("_law_row_here", 13)]) (g := gName 13) rfl nd (pi_list (pe_ix ix_tup (pv 8) pe_int (fun _ _ => rfl))) (blkOk_by (N := ["_law_script", "_law_numbers_here", "_law_width", "_law_height", "_law_pockets", "_law_table", "_law_turned", "_law_mirrored", "_law_slanting_here", "_law_straight_here", "_law_other", "_law_x", "_law_y", "_law_row_here"]) (sc := defScope s_law) (own := [("_law_row_here", 13)]) (by decide +kernel)) (fun _ _ _ _ _ => (pg_name (i := 13) nd rfl (Or.inl rfl))) (fun _ _ _ _ _ => pts_nil) (fun _ _ _ _ _ => (pe_ix (r := rIxT K) ix_tup (pv 13) pe_int (fun _ _ => rfl)))) (nomark _)) (pss_one (ps_ret pe_bl)) pss_nil) (pss_one (ps_if (pt_cmpR (op_neD hu64) (pe_lc (own := [("_law_row_here", 13)]) (g := gName 13) rfl nd (pi_list (pe_ix ix_tup (pe_fn c_straight (hr.mono (by decide)) rfl (pa_cons (pv 10) pa_nil)) pe_int (fun _ _ => rfl))) (blkOk_by (N := ["_law_script", "_law_numbers_here", "_law_width", "_law_height", "_law_pockets", "_law_table", "_law_turned", "_law_mirrored", "_law_slanting_here", "_law_straight_here", "_law_other", "_law_x", "_law_y", "_law_row_here"]) (sc := defScope s_law) (own := [("_law_row_here", 13)]) (by decide +kernel)) (fun _ _ _ _ _ => (pg_name (i := 13) nd rfl (Or.inl rfl))) (fun _ _ _ _ _ => pts_nil) (fun _ _ _ _ _ => (pe_ix (r := rIxT K) ix_tup (pv 13) pe_int (fun _ _ => rfl)))) (pe_lc (own := [("_law_row_here", 13)]) (g := gName 13) rfl nd (pi_list (pe_ix ix_tup (pv 9) pe_int (fun _ _ => rfl))) (blkOk_by (N := ["_law_script", "_law_numbers_here", "_law_width", "_law_height", "_law_pockets", "_law_table", "_law_turned", "_law_mirrored", "_law_slanting_here", "_law_straight_here", "_law_other", "_law_x", "_law_y", "_law_row_here"]) (sc := defScope s_law) (own := [("_law_row_here", 13)]) (by decide +kernel)) (fun _ _ _ _ _ => (pg_name (i := 13) nd rfl (Or.inl rfl))) (fun _ _ _ _ _ => pts_nil) (fun _ _ _ _ _ => (pe_ix (r := rIxT K) ix_tup (pv 13) pe_int (fun _ _ => rfl)))) (nomark _)) (pss_one (ps_ret pe_bl)) pss_nil)))) (pss_one (ps_ret pe_bl)))))))))))))), ?_⟩)
  · obtain ⟨_, _, rfl, _⟩ := h
    rfl
  · obtain ⟨a, ns, rfl, hS, hn, q⟩ := h
    refine ⟨_, rfl, a, ns, rfl, hS, hn, fun H1 p zs nw lz dz => ?_⟩
    refine ⟨_, rfl, p, zs, rfl, nw.2.1, lz, dz, fun H2 t pp pk W Hh ps s2 ht hpp tb few w1' h1' => ⟨_, _, rfl, SqT.of ht, rfl, _, _, rfl, _, _, rfl, _, _, rfl, rfl, ?_⟩⟩
    have f12 : ps.length ≤ 12 := by omega
    have w5 : W ≤ 2 ^ 105 := by omega
    have h5 : Hh ≤ 2 ^ 105 := by omega
    -- the tables
    refine ⟨_, rfl, _, rfl, _, rfl, fun x dx nx ndx nex => ⟨x, dx, pp, pk, W, Hh, ps, rfl, upd_same, ?_, ?_, tb, f12, w1', h1', fun H3 pa sb3 t3 => ⟨rfl, ?_⟩⟩⟩
    · rw [upd_ne (ne_of_none hpp.pp nx), upd_ne (ne_of_none hpp.pp ndx)]; exact hpp.pp
    · intro k r e
      have := hpp.pk k r e
      rw [upd_ne (ne_of_none this nx), upd_ne (ne_of_none this ndx)]; exact this
    have s3 : Same H2 H3 := Same.made2 nx ndx sb3
    have p3 := hpp.same s3
    refine ⟨_, rfl, _, rfl, _, rfl, _, rfl, ⟨_, SqT.of p3.pp⟩, fun D nD => ?_⟩
    refine lc_tup (xs := (List.range ps.length).map fun k => V.ref (pk k)) (Made H3 D (turnP ps)) (Made.zero nD) (fun i H' _ h => SqT.of (h.1 _ _ p3.pp)) ?_ ?_
    · rintro i y H4 hx h4
      obtain ⟨hi, rfl⟩ := range_at hx
      have ep : ps[i]? = some ps[i] := List.getElem?_eq_getElem hi
      have ep2 : (turnP ps)[i]? = some (ps[i].2, ps[i].1) := by unfold turnP; rw [List.getElem?_map, ep]; rfl
      refine ⟨_, _, rfl, SqT.of (h4.1 _ _ (p3.pk i _ ep)), rfl, _, _, rfl, _, _, rfl, rfl, rfl, _, rfl, _, rfl, len2, fun t nt => ?_⟩
      obtain ⟨acc, e1, e2, e3⟩ := h4.more nD ep2 nt
      exact ⟨acc, e1, small_len (by omega), e3⟩
    · rintro H4 h4
      rw [List.length_map, List.length_range, ← turnP_len] at h4
      obtain ⟨pk4, hD4, hk4⟩ := h4.done
      have s4 : Same H3 H4 := h4.1
      refine fun x4 dx4 nx4 ndx4 nex4 => ⟨x4, dx4, D, pk4, Hh, W, turnP ps, rfl, upd_same, ?_, ?_, tb.turn, by rw [turnP_len]; exact f12, h1', w1', fun H5 pa5 sb5 t5 => ⟨rfl, ?_⟩⟩
      · rw [upd_ne (ne_of_none hD4 nx4), upd_ne (ne_of_none hD4 ndx4)]; exact hD4
      · intro k r e
        have := hk4 k r e
        rw [upd_ne (ne_of_none this nx4), upd_ne (ne_of_none this ndx4)]; exact this
      have s5 : Same H4 H5 := Same.made2 nx4 ndx4 sb5
      have s35 := s4.trans s5
      have p5 := p3.same s35
      refine ⟨_, rfl, _, rfl, _, rfl, _, rfl, ⟨_, SqT.of p5.pp⟩, fun D2 nD2 => ?_⟩
      refine lc_tup (xs := (List.range ps.length).map fun k => V.ref (pk k)) (Made H5 D2 (mirP W ps)) (Made.zero nD2) (fun i H' _ h => SqT.of (h.1 _ _ p5.pp)) ?_ ?_
      · rintro i y H6 hx h6
        obtain ⟨hi, rfl⟩ := range_at hx
        have ep : ps[i]? = some ps[i] := List.getElem?_eq_getElem hi
        have ep2 : (mirP W ps)[i]? = some (W - ps[i].1, ps[i].2) := by unfold mirP; rw [List.getElem?_map, ep]; rfl
        refine ⟨_, _, rfl, SqT.of (h6.1 _ _ (p5.pk i _ ep)), rfl, _, _, rfl, _, _, rfl, rfl, rfl, _, rfl, _, rfl, _, _, rfl, rfl, _, rfl, len2, fun t nt => ?_⟩
        obtain ⟨acc, e1, e2, e3⟩ := h6.more nD2 ep2 nt
        exact ⟨acc, e1, small_len (by omega), e3⟩
      · rintro H6 h6
        rw [List.length_map, List.length_range, ← mirP_len W] at h6
        obtain ⟨pk6, hD6, hk6⟩ := h6.done
        have s6 : Same H5 H6 := h6.1
        refine fun x6 dx6 nx6 ndx6 nex6 => ⟨x6, dx6, D2, pk6, W, Hh, mirP W ps, rfl, upd_same, ?_, ?_, tb.mir, by rw [mirP_len]; exact f12, w1', h1', fun H7 pa7 sb7 t7 => ⟨rfl, ?_⟩⟩
        · rw [upd_ne (ne_of_none hD6 nx6), upd_ne (ne_of_none hD6 ndx6)]; exact hD6
        · intro k r e
          have := hk6 k r e
          rw [upd_ne (ne_of_none this nx6), upd_ne (ne_of_none this ndx6)]; exact this
        have s7 : Same H6 H7 := Same.made2 nx6 ndx6 sb7
        have s57 := s6.trans s7
        have s37 := s35.trans s57
        have p7 := p3.same s37
        have T3 := t3.same s37
        have T5 := t5.same s57
        -- the starts
        refine ⟨_, rfl, x, dx, pa, pk, W, Hh, ps, rfl, T3, fun H8 r8 l8 qs8 s8 hr8 hl8 hq8 ht8 => ?_⟩
        refine ⟨_, rfl, x, dx, pa, pk, W, Hh, ps, rfl, T3.same s8, fun H9 r9 l9 qs9 s9 hr9 hl9 hq9 ht9 => ?_⟩
        have s79 := s8.trans s9
        have p9 := p7.same s79
        have A8 : TAt H9 r8 pk ps (slantN W Hh ps) (4 * (W + 1) * (Hh + 1) - (slantN W Hh ps).sum) l8 qs8 := TAt.same ⟨hr8, hl8, hq8, ht8, (T3.same s8).pk, List.length_map ..⟩ s9
        have A9 : TAt H9 r9 pk ps (straightN W Hh ps) (4 * (W + 1) * (Hh + 1) - (straightN W Hh ps).sum) l9 qs9 := ⟨hr9, hl9, hq9, ht9, (T3.same s79).pk, List.length_map ..⟩
        -- told
        refine ⟨_, rfl, _, rfl, _, rfl, _, rfl, by show 3 ≤ sizeLine; decide, fun u1 nu1 => ?_⟩
        have su1 : Same H9 (upd H9 u1 (.tup [.int W, .int Hh, .ref pp])) := Same.laid nu1
        refine ⟨_, rfl, _, rfl, _, rfl, pp, pk, W, Hh, ps, rfl, p9.same su1, tb, f12, w5, h5, fun Ha sa => ?_⟩
        refine ⟨r8, l8, u1, pp, pk, pk, W, Hh, _, _, ps, slantN W Hh ps, qs8, rfl, A8.same (su1.trans sa), sa _ _ upd_same, p9.same (su1.trans sa), f12, ⟨tb.w, w5⟩, ⟨tb.h, h5⟩, slant_pos W Hh ps, slant_sum tb, by rw [slant_sum tb], fun Hb sb => ⟨true, rfl, iteF ?_⟩⟩
        have s9b := (su1.trans sa).trans sb
        refine ⟨_, rfl, _, rfl, _, rfl, _, rfl, by show 3 ≤ sizeLine; decide, fun u2 nu2 => ?_⟩
        have su2 : Same Hb (upd Hb u2 (.tup [.int W, .int Hh, .ref pp])) := Same.laid nu2
        refine ⟨_, rfl, _, rfl, _, rfl, pp, pk, W, Hh, ps, rfl, p9.same (s9b.trans su2), tb, f12, w5, h5, fun Hc sc => ?_⟩
        have s9c := s9b.trans (su2.trans sc)
        refine ⟨r9, l9, u2, pp, pk, pk, W, Hh, _, _, ps, straightN W Hh ps, qs9, rfl, A9.same s9c, sc _ _ upd_same, p9.same s9c, f12, ⟨tb.w, w5⟩, ⟨tb.h, h5⟩, straight_pos W Hh ps, straight_sum tb, by rw [straight_sum tb], fun Hd sd => ⟨true, rfl, iteF ?_⟩⟩
        have s9d := s9c.trans sd
        -- each
        have A8d := A8.same s9d
        refine ⟨_, rfl, _, _, _, _, rfl, rfl, SqT.of A8d.tp, atI_nat (j := 0) rfl, _, rfl, ⟨_, SqL.of A8d.ls⟩, fun D8 nD8 => ?_⟩
        refine rows_lc A8d f12 nD8 rfl fun He1 ie => ?_
        have p9e := p9.same (s9d.trans ie.1)
        refine ⟨_, rfl, _, rfl, _, rfl, pp, pk, W, Hh, ps, rfl, p9e.pp, p9e.pk, tb, f12, w5, h5, fun Hf v1 nf => ?_⟩
        refine ⟨_, _, .lst (SqL.of (nf.1 _ _ ie.done)) (intD_all _), .lst (SqL.of nf.2.1) (intD_all _), intD_shaped _, intD_shaped _, ?_⟩
        rw [intD_refl]
        refine ⟨_, rfl, iteF ?_⟩
        have s9f := s9d.trans (ie.1.trans nf.1)
        have A9f := A9.same s9f
        refine ⟨_, rfl, _, _, _, _, rfl, rfl, SqT.of A9f.tp, atI_nat (j := 0) rfl, _, rfl, ⟨_, SqL.of A9f.ls⟩, fun D9 nD9 => ?_⟩
        refine rows_lc A9f f12 nD9 rfl fun Hg ig => ?_
        have p9g := p9.same (s9f.trans ig.1)
        refine ⟨_, rfl, _, rfl, _, rfl, pp, pk, W, Hh, ps, rfl, p9g.pp, p9g.pk, tb, f12, w5, h5, fun Hi v2 ni => ?_⟩
        refine ⟨_, _, .lst (SqL.of (ni.1 _ _ ig.done)) (intD_all _), .lst (SqL.of ni.2.1) (intD_all _), intD_shaped _, intD_shaped _, ?_⟩
        rw [intD_refl]
        refine ⟨_, rfl, iteF ?_⟩
        have s9i := s9f.trans (ig.1.trans ni.1)
        -- the turned and the mirrored table
        refine ⟨_, rfl, _, rfl, len2, fun ol nol => ⟨_, rfl, ⟨_, SqL.of upd_same⟩, ?_⟩⟩
        have sj : Same Hi (upd Hi ol (.lst [V.ref x4, V.ref x6])) := Same.laid nol
        have ho : upd Hi ol (.lst [V.ref x4, V.ref x6]) ol = some (.lst [V.ref x4, V.ref x6]) := upd_same
        generalize upd Hi ol (.lst [V.ref x4, V.ref x6]) = Hj at sj ho
        have s9j := s9i.trans sj
        refine for_list (xs := [V.ref x4, V.ref x6]) (fun i σ H' => Same Hj H' ∧ ∃ q10, σ = [some (.ref a), some (.ref p), some (.int W), some (.int Hh), some (.ref pp), some (.ref x), some (.ref x4), some (.ref x6), some (.ref r8), some (.ref r9), q10, none, none, none]) ⟨Same.refl _, none, rfl⟩ (fun i σ H' _ h => SqL.of (h.1 _ _ ho)) ?_ ?_
        · rintro i y σ Hk hy ⟨sk, q10, rfl⟩
          have s9k := s9j.trans sk
          have other : ∃ (o dxo pao : Addr) (pko : Nat → Addr) (Wo Ho : Int) (po : List (Int × Int)), y = V.ref o ∧ TabAt (He.ga K "Table") Hk o dxo pao pko Wo Ho po ∧ slantN Wo Ho po = slantN W Hh ps ∧ straightN Wo Ho po = straightN W Hh ps ∧ po.length ≤ 12 := by
            match i, hy with
            | 0, hy => exact ⟨x4, dx4, pa5, pk4, Hh, W, turnP ps, (Option.some.inj hy).symm, T5.same (s79.trans s9k), slant_turn W Hh ps, straight_turn W Hh ps, by rw [turnP_len]; exact f12⟩
            | 1, hy => exact ⟨x6, dx6, pa7, pk6, W, Hh, mirP W ps, (Option.some.inj hy).symm, t7.same (s79.trans s9k), slant_mir tb, straight_mir tb, by rw [mirP_len]; exact f12⟩
            | n + 2, hy => simp at hy
          obtain ⟨o, dxo, pao, pko, Wo, Ho, po, rfl, to, e1, e2, fo⟩ := other
          refine ⟨_, rfl, o, dxo, pao, pko, Wo, Ho, po, rfl, to, fun Hl r1 l1 qs1 sl hr1 hl1 hq1 ht1 => ?_⟩
          have B1 : TAt Hl r1 pko po (slantN Wo Ho po) _ l1 qs1 := ⟨hr1, hl1, hq1, ht1, (to.same sl).pk, List.length_map ..⟩
          refine ⟨_, _, _, _, rfl, rfl, SqT.of B1.tp, atI_nat (j := 0) rfl, _, rfl, ⟨_, SqL.of B1.ls⟩, fun Da nDa => ?_⟩
          refine rows_lc B1 fo nDa rfl fun Hm im => ?_
          have s9m := s9k.trans (sl.trans im.1)
          have A8m := A8.same s9m
          refine ⟨_, rfl, _, _, _, _, rfl, rfl, SqT.of A8m.tp, atI_nat (j := 0) rfl, _, rfl, ⟨_, SqL.of A8m.ls⟩, fun Db nDb => ?_⟩
          refine rows_lc A8m f12 nDb rfl fun Hn jn => ?_
          have d1 := im.done
          rw [e1] at d1
          refine ⟨_, _, .lst (SqL.of (jn.1 _ _ d1)) (intD_all _), .lst (SqL.of jn.done) (intD_all _), intD_shaped _, intD_shaped _, ?_⟩
          rw [intD_refl]
          refine ⟨_, rfl, iteF ?_⟩
          have s9n := s9m.trans jn.1
          have skn := sl.trans (im.1.trans jn.1)
          refine ⟨_, rfl, o, dxo, pao, pko, Wo, Ho, po, rfl, to.same skn, fun Ho2 r2 l2 qs2 so hr2 hl2 hq2 ht2 => ?_⟩
          have B2 : TAt Ho2 r2 pko po (straightN Wo Ho po) _ l2 qs2 := ⟨hr2, hl2, hq2, ht2, (to.same (skn.trans so)).pk, List.length_map ..⟩
          refine ⟨_, _, _, _, rfl, rfl, SqT.of B2.tp, atI_nat (j := 0) rfl, _, rfl, ⟨_, SqL.of B2.ls⟩, fun Dc nDc => ?_⟩
          refine rows_lc B2 fo nDc rfl fun Hp1 ip => ?_
          have s9p := s9n.trans (so.trans ip.1)
          have A9p := A9.same s9p
          refine ⟨_, rfl, _, _, _, _, rfl, rfl, SqT.of A9p.tp, atI_nat (j := 0) rfl, _, rfl, ⟨_, SqL.of A9p.ls⟩, fun Dd nDd => ?_⟩
          refine rows_lc A9p f12 nDd rfl fun Hq iq => ?_
          have d2 := ip.done
          rw [e2] at d2
          refine ⟨_, _, .lst (SqL.of (iq.1 _ _ d2)) (intD_all _), .lst (SqL.of iq.done) (intD_all _), intD_shaped _, intD_shaped _, ?_⟩
          rw [intD_refl]
          refine ⟨_, rfl, iteF ⟨sk.trans (skn.trans (so.trans (ip.1.trans iq.1))), _, rfl⟩⟩
        · rintro σ Hk ⟨sk, q10, rfl⟩
          exact q Hk
end
end Cu
/-! End -/
set_option Elab.async false
set_option linter.all false
set_option maxRecDepth 100000
set_option maxHeartbeats 0
namespace Cu
open PySem PySem.Spec PyProof.Rows L2
theorem facts {P : Program} {w : World} {K : PySem.W.Frag} {mg : Str → Option Value} {f : Addr} (hfa : mg ("law" : Str) = some (.ref f)) (T : Txt K mg) :
    ∃ fd : FuncData, (∀ (s : Shared) (v : Value), BindsTo s fd ⟨[v], []⟩ [("_law_script", v)]) ∧ ∀ base : Heap, FnOk P w K mg base CX0 6 f fd ["_law_script"] (spLaw K) := by
  obtain ⟨fd, F⟩ := T.d_law
  have e := hfa.symm.trans T.g_law
  cases e
  have b := FunD.bindsA (ps := ["_law_script"]) F fun _ _ _ _ _ _ us hl => match us, hl with | [_], _ => rfl
  exact ⟨fd, fun s v => b s [v] rfl, fun base => ok_law T F⟩
end Cu
open PySem PySem.W PySem.Calls PyProof.Rows
theorem PySem.Challenge.cw_cushioned_k40_whole_starts_on_great_tabl_holds : PySem.Challenge.rw_cushioned_k40_whole_starts_on_great_tabl.Holds := by
  w_on; o_law
  refine HandSHeadRun.head_imp (r := OpenLaw.row PySem.Challenge.rw_cushioned_k40_whole_starts_on_great_tabl) (q := view (OpenLaw.row PySem.Challenge.rw_cushioned_k40_whole_starts_on_great_tabl).prog [0, 39]) (H := Cu.hkB) (ob := Cu.ob) (M := 8000) (loose := Cu.names) (d := HandSHeadRun.topDef (OpenLaw.row PySem.Challenge.rw_cushioned_k40_whole_starts_on_great_tabl).prog 39) (kwd := []) Cu.ob_eq
    Cu.run (by kernel_rfl) (by kernel_rfl) (by kernel_rfl) (by rfl) (by first | assumption | decide +kernel) (by decide +kernel) ⟨rfl, rfl, rfl, rfl, rfl, by decide +kernel⟩ ?hw ?hc
  case hw => w_witness2
  case hc =>
    refine L2.walk_ofE (l := PySem.Challenge.rw_cushioned_k40_whole_starts_on_great_tabl) (n := 63) (k := 6) (x := "_law_script") (CX := L2.CX0) rfl (by decide) (by kernel_rfl) ⟨rfl, by decide, by decide⟩ ?F (fun _ _ _ _ z => z)
    intro w mg fa h Y G hmg0
    obtain ⟨K, KX, c⟩ := Y
    have hmg : mg ("law" : PySem.Str) = some (.ref fa) := by
      have e : (HandSHeadRun.topDef (OpenLaw.row PySem.Challenge.rw_cushioned_k40_whole_starts_on_great_tabl).prog 39).name = ("law" : PySem.Str) := by kernel_rfl
      rw [← e]
      exact hmg0
    obtain ⟨fd, hb, hF⟩ := Cu.facts (P := (PySem.Challenge.rw_cushioned_k40_whole_starts_on_great_tabl).prog) (w := w) hmg (Cu.Txt.of KX G c)
    exact ⟨K, fd, _, KX, hb, fun H a ns hl _ hS => ⟨a, ns, rfl, hS, hl, fun _ => rfl⟩, fun base _ _ => hF base⟩

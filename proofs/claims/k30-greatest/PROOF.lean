import PyProof.Rows.All
import Wide.All
import OpenK.AllK
import Wide.FinOn
import HandS.ForMost
import HandS.IsInst
import HandS.Deep
import HandS.DeepEq
import HandS.TupSets
import HandS.Conv
import HandS.SortInts
import HandS.RevRange
import HandS.Walk
import KE.KDictKeyed
import KE.KDictPairs
import KE.DatumOrd
import HandS.SetFor
import HandS.Strs
import HandS.ListItems
import KE.KDictZip
import PySem.Challenge.RW_quitsways_k30_whole_greatest_and_long_wa
/-! QMathA: the greedy way in whole units: mirror functions and their mathematics. -/
namespace Qw

/-! ### lists of ints -/
theorem sum_perm {l l' : List Int} (h : l.Perm l') : l.sum = l'.sum := by
  induction h with
  | nil => rfl
  | cons x _ ih => simp [ih]
  | swap x y l => simp; omega
  | trans _ _ i1 i2 => exact i1.trans i2
theorem sum_ge {c : Int} : ∀ {l : List Int}, (∀ x ∈ l, c ≤ x) → c * (l.length : Int) ≤ l.sum
  | [], _ => by simp
  | a :: l, h => by
    have h1 := sum_ge (c := c) (l := l) fun x hx => h x (List.mem_cons_of_mem _ hx)
    have h2 := h a List.mem_cons_self
    rw [List.length_cons, List.sum_cons]
    have e : c * ((l.length + 1 : Nat) : Int) = c * (l.length : Int) + c := by
      rw [Int.natCast_add, Int.mul_add]
      simp
    omega
theorem sum_eq {c : Int} : ∀ {l : List Int}, (∀ x ∈ l, x = c) → l.sum = c * (l.length : Int)
  | [], _ => by simp
  | a :: l, h => by
    have h1 := sum_eq (c := c) (l := l) fun x hx => h x (List.mem_cons_of_mem _ hx)
    have h2 := h a List.mem_cons_self
    rw [List.length_cons, List.sum_cons]
    have e : c * ((l.length + 1 : Nat) : Int) = c * (l.length : Int) + c := by
      rw [Int.natCast_add, Int.mul_add]
      simp
    omega
theorem sum_nonneg {l : List Int} (h : ∀ x ∈ l, 0 ≤ x) : 0 ≤ l.sum := by
  have := sum_ge (c := 0) h
  omega
theorem sum_pos {l : List Int} (h : ∀ x ∈ l, 0 < x) (hn : l ≠ []) : 0 < l.sum := by
  have h1 := sum_ge (c := 1) (l := l) fun x hx => h x hx
  have h2 : 0 < l.length := List.length_pos_iff.mpr hn
  omega
theorem mem_le_sum {l : List Int} (h : ∀ x ∈ l, 0 ≤ x) {y : Int} (hy : y ∈ l) : y ≤ l.sum := by
  induction l with
  | nil => cases hy
  | cons a l ih =>
    rw [List.sum_cons]
    have ha := h a List.mem_cons_self
    have hl := sum_nonneg (l := l) fun x hx => h x (List.mem_cons_of_mem _ hx)
    rcases List.mem_cons.mp hy with rfl | hy
    · omega
    · have := ih (fun x hx => h x (List.mem_cons_of_mem _ hx)) hy
      omega
theorem dvd_le {d x : Int} (hd : 0 < d) (hx : 0 < x) (h : d ∣ x) : d ≤ x := Int.le_of_dvd hx h
/-- a multiple of d that is not d is 2 d or more -/
theorem dvd_ge2 {d x : Int} (hx : 0 < x) (h : d ∣ x) (hne : x ≠ d) (hd : 0 < d) : 2 * d ≤ x := by
  obtain ⟨c, rfl⟩ := h
  have hc : 0 < c := by
    rcases Int.lt_or_le 0 c with q | q
    · exact q
    · have := Int.mul_nonpos_of_nonneg_of_nonpos (Int.le_of_lt hd) q
      omega
  have h2 : 2 ≤ c := by
    rcases Int.lt_or_le c 2 with q | q
    · have e : c = 1 := by omega
      subst e
      exact absurd (Int.mul_one d) hne
    · exact q
  have := Int.mul_le_mul_of_nonneg_left h2 (Int.le_of_lt hd)
  omega
theorem dvd_sum {d : Int} : ∀ {l : List Int}, (∀ x ∈ l, d ∣ x) → d ∣ l.sum
  | [], _ => by simp
  | a :: l, h => by
    rw [List.sum_cons]
    exact Int.dvd_add (h a List.mem_cons_self) (dvd_sum fun x hx => h x (List.mem_cons_of_mem _ hx))
theorem two_mul_assoc (d : Int) (n : Nat) : 2 * d * (n : Int) = 2 * (d * (n : Int)) := Int.mul_assoc _ _ _

/-! ### THE PASSING: r the least rest, S the other rests of its side, o a greater one of the other side, O the others there -/
section
variable {S O : List Int} {r o : Int}
/-- every common divisor fits: (k - 1) d ≤ W, where k = |S| + |O| + 2 and W = r + sum S -/
def Fits (S O : List Int) (r o : Int) : Prop := ∀ d : Int, 0 < d → d ∣ r → d ∣ o → (∀ x ∈ S, d ∣ x) → (∀ x ∈ O, d ∣ x) → d * (S.length : Int) + d * (O.length : Int) + d ≤ r + S.sum

theorem not_dvd (hr : 0 < r) (hS : ∀ x ∈ S, r ≤ x) (hO : ∀ x ∈ O, r ≤ x) (ho : r < o) (hW : r + S.sum = o + O.sum) (F : Fits S O r o)
    {d : Int} (hd : 0 < d) (d1 : d ∣ o - r) (d2 : ∀ x ∈ S, d ∣ x) (d3 : ∀ x ∈ O, d ∣ x) (hf : S.sum < d * (S.length : Int) + d * (O.length : Int)) : ¬ d ∣ r := by
  intro q
  have qo : d ∣ o := by
    have := Int.dvd_add d1 q
    have e : o - r + r = o := by omega
    rwa [e] at this
  have f := F d hd q qo d2 d3
  by_cases e : r = d
  · omega
  · have h2 := dvd_ge2 hr q e hd
    have s1 := sum_ge (c := 2 * d) (l := S) fun x hx => Int.le_trans h2 (hS x hx)
    have s2 := sum_ge (c := 2 * d) (l := O) fun x hx => Int.le_trans h2 (hO x hx)
    rw [two_mul_assoc] at s1 s2
    omega

theorem one_alone (ho : r < o) (hr : 0 < r) (hS : ∀ x ∈ S, r ≤ x) {d : Int} (hd : 0 < d) (d2 : ∀ x ∈ S, d ∣ x) : d * (S.length : Int) ≤ S.sum :=
  sum_ge fun x hx => dvd_le hd (by have := hS x hx; omega) (d2 x hx)

/-- two of them can't both fail -/
theorem two_pass {O' : List Int} {o2 : Int} (hO' : O.Perm (o2 :: O')) (hr : 0 < r) (hS : ∀ x ∈ S, r ≤ x) (hO : ∀ x ∈ O, r ≤ x) (ho : r < o) (hW : r + S.sum = o + O.sum) (F : Fits S O r o)
    {d : Int} (hd : 0 < d) (d1 : d ∣ o - r) (d2 : ∀ x ∈ S, d ∣ x) (d3 : ∀ x ∈ O, d ∣ x) (hf : S.sum < d * (S.length : Int) + d * (O.length : Int))
    {e : Int} (he : 0 < e) (e1 : e ∣ o2 - r) (e2 : ∀ x ∈ S, e ∣ x) (e3 : ∀ x ∈ O', e ∣ x) (e4 : e ∣ o) (hg : S.sum < e * (S.length : Int) + e * (O.length : Int)) : False := by
  have hlen : O.length = O'.length + 1 := by rw [hO'.length_eq]; rfl
  have hsum : O.sum = o2 + O'.sum := by rw [sum_perm hO', List.sum_cons]
  have m2 : o2 ∈ O := hO'.mem_iff.mpr List.mem_cons_self
  have mO : ∀ x ∈ O', x ∈ O := fun x hx => hO'.mem_iff.mpr (List.mem_cons_of_mem _ hx)
  have nd : ¬ d ∣ r := not_dvd hr hS hO ho hW F hd d1 d2 d3 hf
  have ho2 : r < o2 := by
    have h1 := hO o2 m2
    rcases Int.lt_or_le r o2 with q | q
    · exact q
    · have e : o2 = r := by omega
      exact absurd (e ▸ d3 o2 m2) nd
  -- the state from o2's side
  have F2 : Fits S (o :: O') r o2 := fun c hc c1 c2 c3 c4 => by
    have := F c hc c1 (c4 o List.mem_cons_self) c3 fun x hx => by
      rcases List.mem_cons.mp (hO'.mem_iff.mp hx) with rfl | hx
      · exact c2
      · exact c4 x (List.mem_cons_of_mem _ hx)
    rw [hlen] at this
    exact this
  have ne : ¬ e ∣ r := by
    refine not_dvd (O := o :: O') hr hS ?_ ho2 ?_ F2 he e1 e2 ?_ ?_
    · intro x hx
      rcases List.mem_cons.mp hx with rfl | hx
      · omega
      · exact hO x (mO x hx)
    · rw [List.sum_cons]; omega
    · intro x hx
      rcases List.mem_cons.mp hx with rfl | hx
      · exact e4
      · exact e3 x hx
    · rw [List.length_cons, ← hlen]; exact hg
  have ned : ¬ e ∣ d := fun q => by
    have q2 : e ∣ o2 := Int.dvd_trans q (d3 o2 m2)
    have := Int.dvd_sub q2 e1
    have z : o2 - (o2 - r) = r := by omega
    rw [z] at this
    exact ne this
  have big : ∀ x, 0 < x → d ∣ x → e ∣ x → 2 * d ≤ x := fun x hx h1 h2 => dvd_ge2 hx h1 (fun z => ned (z ▸ h2)) hd
  have s1 := sum_ge (c := 2 * d) (l := S) fun x hx => big x (by have := hS x hx; omega) (d2 x hx) (e2 x hx)
  have s2 := sum_ge (c := 2 * d) (l := O') fun x hx => big x (by have := hO x (mO x hx); omega) (d3 x (mO x hx)) (e3 x hx)
  have s3 : d ≤ o - r := dvd_le hd (by omega) d1
  have s4 : d ≤ o2 := dvd_le hd (by omega) (d3 o2 m2)
  rw [two_mul_assoc] at s1 s2
  have z : d * (O.length : Int) = d * (O'.length : Int) + d := by
    rw [hlen, Int.natCast_add, Int.mul_add]
    simp
  omega
end
end Qw
/-! QMathB: the mirror of Rests, its steps, and what a payment does. -/
namespace Qw

abbrev D := List (Int × Int)
def vals (l : D) : List Int := l.map (·.2)
def keys (l : D) : List Int := l.map (·.1)
def lk? (l : D) (k : Int) : Option Int := (l.find? fun q => decide (q.1 = k)).map (·.2)
def lkd (l : D) (k : Int) : Int := (lk? l k).getD 0
def setk (l : D) (k v : Int) : D := l.map fun q => if q.1 = k then (q.1, v) else q
def delk (l : D) (k : Int) : D := l.filter fun q => decide (q.1 ≠ k)
def lessn (l : D) (k x : Int) : D := if lkd l k - x = 0 then delk (setk l k (lkd l k - x)) k else setk l k (lkd l k - x)
def mn (i j : Int) : Int := if j < i then j else i

structure RS where
  a : D
  b : D
  whole : Int
  row : List (Int × Int)
def sd (R : RS) (s : Int) : D := if s = 0 then R.a else R.b
def many (R : RS) : Int := (R.a.length : Int) + (R.b.length : Int)
def payR (R : RS) (s p o : Int) : RS :=
  let x := mn (lkd (sd R s) p) (lkd (sd R (1 - s)) o)
  if s = 0 then ⟨lessn R.a p x, lessn R.b o x, R.whole - x, R.row ++ [(p, o)]⟩ else ⟨lessn R.a o x, lessn R.b p x, R.whole - x, R.row ++ [(o, p)]⟩
def ltT (x y : Int × Int × Int) : Bool := if x.1 = y.1 then (if x.2.1 = y.2.1 then decide (x.2.2 < y.2.2) else decide (x.2.1 < y.2.1)) else decide (x.1 < y.1)
def trip (s : Int) (l : D) : List (Int × Int × Int) := l.map fun q => (q.2, s, q.1)
def minT : List (Int × Int × Int) → Int × Int × Int
  | [] => (0, 0, 0)
  | x :: xs => xs.foldl (fun m y => if ltT y m = true then y else m) x
def leastR (R : RS) : Int × Int × Int := minT (trip 0 R.a ++ trip 1 R.b)
def divStep (s p o here : Int) (f : Int) (q : Int × Int) : Int := if 1 < f ∧ ¬ ((here, q.1) = (s, p) ∨ (here, q.1) = (1 - s, o)) then (Int.gcd f q.2 : Int) else f
def divBehind (R : RS) (s p o : Int) : Int :=
  R.b.foldl (divStep s p o 1) (R.a.foldl (divStep s p o 0) (lkd (sd R (1 - s)) o - lkd (sd R s) p))
def enough (R : RS) (s p o : Int) : Bool := decide ((many R - 2) * divBehind R s p o ≤ R.whole - lkd (sd R s) p)
def greaterK (l : D) (r : Int) : List Int := (l.filter fun q => decide (r < q.2)).map (·.1)
def oddK (l : D) (r : Int) : List Int := (l.filter fun q => decide (q.2 % r ≠ 0)).map (·.1)
def minK : D → Int
  | [] => 0
  | q :: t => t.foldl (fun m y => if y.1 < m then y.1 else m) q.1
def stepP (R : RS) : RS :=
  let t := leastR R
  match (greaterK (sd R (1 - t.2.1)) t.1).find? fun o => enough R t.2.1 t.2.2 o with
  | some o => payR R t.2.1 t.2.2 o
  | none => payR R t.2.1 ((oddK (sd R t.2.1) t.1 ++ [t.2.2]).headD 0) (minK (sd R (1 - t.2.1)))
def stepU (R : RS) : RS :=
  let t := leastR R
  payR R t.2.1 t.2.2 ((greaterK (sd R (1 - t.2.1)) t.1 ++ [minK (sd R (1 - t.2.1))]).headD 0)
def run (one : Bool) : Nat → RS → RS
  | 0, R => R
  | n + 1, R => if 0 < R.whole then run one n (if one = true then stepP R else stepU R) else R
def enum (A : List Int) : D := A.zipIdx.map fun q => ((q.2 : Int), q.1)
def startR (A B : List Int) : RS := ⟨enum A, enum B, A.sum, []⟩
def onePiece (R : RS) : Bool := decide (many R - 1 ≤ R.whole)
def longW (A B : List Int) : List (Int × Int) := (run (onePiece (startR A B)) A.sum.toNat (startR A B)).row

/-! ### one side -/
structure SideOk (l : D) (W : Int) : Prop where
  nd : (keys l).Nodup
  pos : ∀ q ∈ l, 0 < q.2
  sum : (vals l).sum = W
theorem find_nd {l : D} (h : (keys l).Nodup) {k v : Int} (m : (k, v) ∈ l) : lk? l k = some v := by
  unfold lk?
  induction l with
  | nil => cases m
  | cons q t ih =>
    unfold keys at h
    rw [List.map_cons, List.nodup_cons] at h
    rw [List.find?_cons]
    by_cases e : q.1 = k
    · rw [decide_eq_true e]
      rcases List.mem_cons.mp m with rfl | m
      · rfl
      · exact absurd (List.mem_map.mpr ⟨(k, v), m, e.symm⟩) h.1
    · rw [decide_eq_false e]
      rcases List.mem_cons.mp m with rfl | m
      · exact absurd rfl e
      · exact ih h.2 m
theorem lkd_nd {l : D} (h : (keys l).Nodup) {k v : Int} (m : (k, v) ∈ l) : lkd l k = v := by
  unfold lkd
  rw [find_nd h m]
  try rfl
theorem lkd_none {l : D} {k : Int} (h : k ∉ keys l) : lkd l k = 0 := by
  unfold lkd lk?
  have e : (l.find? fun q => decide (q.1 = k)) = none := by
    rw [List.find?_eq_none]
    intro q hq z
    exact h (List.mem_map.mpr ⟨q, hq, of_decide_eq_true z⟩)
  rw [e]
  rfl
theorem mem_delk {l : D} {k : Int} {q : Int × Int} : q ∈ delk l k ↔ q ∈ l ∧ q.1 ≠ k := by
  unfold delk
  rw [List.mem_filter]
  constructor
  · rintro ⟨a, b⟩; exact ⟨a, of_decide_eq_true b⟩
  · rintro ⟨a, b⟩; exact ⟨a, decide_eq_true b⟩
theorem delk_same {l : D} {k : Int} (h : k ∉ keys l) : delk l k = l := by
  unfold delk
  rw [List.filter_eq_self]
  intro q hq
  exact decide_eq_true fun e => h (List.mem_map.mpr ⟨q, hq, e⟩)
theorem perm_delk {l : D} (h : (keys l).Nodup) {k v : Int} (m : (k, v) ∈ l) : l.Perm ((k, v) :: delk l k) := by
  induction l with
  | nil => cases m
  | cons q t ih =>
    unfold keys at h
    rw [List.map_cons, List.nodup_cons] at h
    by_cases e : q.1 = k
    · have hk : k ∉ keys t := fun z => h.1 (by rw [e]; exact z)
      have e2 : q = (k, v) := by
        rcases List.mem_cons.mp m with r | m
        · exact r.symm
        · exact absurd (List.mem_map.mpr ⟨(k, v), m, rfl⟩) hk
      have e3 : delk (q :: t) k = t := by
        have := delk_same hk
        unfold delk at this ⊢
        rw [List.filter_cons, if_neg (by simp [e]), this]
      rw [e3, e2]
    · have e3 : delk (q :: t) k = q :: delk t k := by
        unfold delk
        rw [List.filter_cons, if_pos (by simp [e])]
      rw [e3]
      have m' : (k, v) ∈ t := by
        rcases List.mem_cons.mp m with r | m
        · exact absurd (by rw [← r]) e
        · exact m
      exact (List.Perm.cons q (ih h.2 m')).trans (List.Perm.swap _ _ _)
theorem keys_setk (l : D) (k v : Int) : keys (setk l k v) = keys l := by
  unfold keys setk
  rw [List.map_map]
  apply List.map_congr_left
  intro q _
  show (if q.1 = k then (q.1, v) else q).1 = q.1
  split <;> rfl
theorem delk_setk (l : D) (k v : Int) : delk (setk l k v) k = delk l k := by
  unfold delk setk
  induction l with
  | nil => rfl
  | cons q t ih =>
    rw [List.map_cons, List.filter_cons, List.filter_cons, ih]
    by_cases e : q.1 = k
    · rw [if_pos e, if_neg (by simp [e]), if_neg (by simp [e])]
    · rw [if_neg e]
theorem mem_setk {l : D} {k v w : Int} (m : (k, w) ∈ l) : (k, v) ∈ setk l k v := by
  unfold setk
  exact List.mem_map.mpr ⟨(k, w), m, if_pos rfl⟩
theorem perm_setk {l : D} (h : (keys l).Nodup) {k v w : Int} (m : (k, w) ∈ l) : (setk l k v).Perm ((k, v) :: delk l k) := by
  have := perm_delk (l := setk l k v) (by rw [keys_setk]; exact h) (mem_setk (v := v) m)
  rwa [delk_setk] at this
theorem lessn_zero {l : D} (h : (keys l).Nodup) {k x : Int} (m : (k, x) ∈ l) : lessn l k x = delk l k := by
  unfold lessn
  rw [lkd_nd h m, if_pos (by omega), delk_setk]
theorem lessn_pos {l : D} (h : (keys l).Nodup) {k v x : Int} (m : (k, v) ∈ l) (hx : x < v) : (lessn l k x).Perm ((k, v - x) :: delk l k) := by
  unfold lessn
  rw [lkd_nd h m, if_neg (by omega)]
  exact perm_setk h m
theorem nodup_perm {l l' : D} (h : l.Perm l') (n : (keys l).Nodup) : (keys l').Nodup := by
  have p : (keys l).Perm (keys l') := List.Perm.map (fun q : Int × Int => q.1) h
  exact p.nodup_iff.mp n
theorem vals_perm {l l' : D} (h : l.Perm l') : (vals l).sum = (vals l').sum := by
  have p : (vals l).Perm (vals l') := List.Perm.map (fun q : Int × Int => q.2) h
  exact sum_perm p
theorem side_delk {l : D} {W k v : Int} (S : SideOk l W) (m : (k, v) ∈ l) : SideOk (delk l k) (W - v) where
  nd := by
    have := nodup_perm (perm_delk S.nd m) S.nd
    unfold keys at this ⊢
    rw [List.map_cons, List.nodup_cons] at this
    exact this.2
  pos := fun q hq => S.pos q (mem_delk.mp hq).1
  sum := by
    have h := vals_perm (perm_delk S.nd m)
    have e : (vals ((k, v) :: delk l k)).sum = v + (vals (delk l k)).sum := by
      unfold vals
      rw [List.map_cons, List.sum_cons]
    have := S.sum
    omega
theorem key_delk {l : D} {k : Int} : k ∉ keys (delk l k) := fun z => by
  obtain ⟨q, hq, e⟩ := List.mem_map.mp z
  exact (mem_delk.mp hq).2 e
theorem side_less {l : D} {W k v x : Int} (S : SideOk l W) (m : (k, v) ∈ l) (h0 : 0 < x) (h1 : x ≤ v) : SideOk (lessn l k x) (W - x) := by
  by_cases e : x = v
  · subst e
    rw [lessn_zero S.nd m]
    exact side_delk S m
  · have P := lessn_pos S.nd m (x := x) (by omega)
    have T := side_delk S m
    refine ⟨nodup_perm P.symm ?_, fun q hq => ?_, ?_⟩
    · unfold keys
      rw [List.map_cons, List.nodup_cons]
      exact ⟨key_delk, T.nd⟩
    · rcases List.mem_cons.mp (P.mem_iff.mp hq) with rfl | hq
      · show 0 < v - x
        omega
      · exact T.pos q hq
    · have h := vals_perm P
      have e : (vals ((k, v - x) :: delk l k)).sum = (v - x) + (vals (delk l k)).sum := by
        unfold vals
        rw [List.map_cons, List.sum_cons]
      have := T.sum
      omega
theorem len_delk {l : D} (h : (keys l).Nodup) {k v : Int} (m : (k, v) ∈ l) : l.length = (delk l k).length + 1 := by
  rw [(perm_delk h m).length_eq]
  rfl
theorem len_less {l : D} (h : (keys l).Nodup) {k v x : Int} (m : (k, v) ∈ l) (hx : x < v) : (lessn l k x).length = l.length := by
  rw [(lessn_pos h m hx).length_eq, len_delk h m]
  rfl
theorem keys_less (l : D) (k x : Int) : ∀ j ∈ keys (lessn l k x), j ∈ keys l := fun j hj => by
  unfold lessn at hj
  split at hj
  · rw [delk_setk] at hj
    obtain ⟨q, hq, e⟩ := List.mem_map.mp hj
    exact List.mem_map.mpr ⟨q, (mem_delk.mp hq).1, e⟩
  · rwa [keys_setk] at hj
theorem side_empty {l : D} (S : SideOk l 0) : l = [] := by
  cases l with
  | nil => rfl
  | cons q t =>
    have h := sum_pos (l := vals (q :: t)) (fun x hx => by
      obtain ⟨r, hr, e⟩ := List.mem_map.mp hx
      rw [← e]
      exact S.pos r hr) (by unfold vals; simp)
    rw [S.sum] at h
    omega
theorem side_ne {l : D} {W : Int} (S : SideOk l W) (h : 0 < W) : l ≠ [] := by
  rintro rfl
  have := S.sum
  simp [vals] at this
  omega
theorem lkd_less {l : D} {k v x : Int} (h : (keys l).Nodup) (m : (k, v) ∈ l) (hx : x ≤ v) (j : Int) : lkd (lessn l k x) j = if j = k then v - x else lkd l j := by
  by_cases hj : j = k
  · rw [if_pos hj, hj]
    by_cases e : x = v
    · subst e
      rw [lessn_zero h m, lkd_none key_delk]
      omega
    · refine lkd_nd (nodup_perm (lessn_pos h m (by omega)).symm ?_) ((lessn_pos h m (by omega)).mem_iff.mpr List.mem_cons_self)
      unfold keys
      rw [List.map_cons, List.nodup_cons]
      refine ⟨key_delk, ?_⟩
      have := nodup_perm (perm_delk h m) h
      unfold keys at this
      rw [List.map_cons, List.nodup_cons] at this
      exact this.2
  · rw [if_neg hj]
    have e1 : ∀ l : D, lk? (delk l k) j = lk? l j := fun l => by
      unfold lk? delk
      rw [List.find?_filter]
      congr 1
      congr 1
      funext q
      by_cases e : q.1 = j
      · have : q.1 ≠ k := fun z => hj (e.symm.trans z)
        simp [e, hj]
      · simp [e]
    have e2 : ∀ l : D, lk? (setk l k (lkd l k - x)) j = lk? l j := fun l => by
      rw [← e1 (setk l k (lkd l k - x)), delk_setk, e1]
    unfold lkd lessn
    split
    · rw [e1, e2]
    · rw [e2 l]
end Qw
/-! QMathC: each step pays; the number of payments; the row plays. -/
namespace Qw

/-! ### the least rest -/
theorem ltT_first {x y : Int × Int × Int} (h : ltT x y = true) : x.1 ≤ y.1 := by
  unfold ltT at h
  split at h
  · omega
  · have := of_decide_eq_true h
    omega
theorem ltT_not {x y : Int × Int × Int} (h : ¬ ltT x y = true) : y.1 ≤ x.1 := by
  unfold ltT at h
  split at h
  · omega
  · have : ¬ x.1 < y.1 := fun z => h (decide_eq_true z)
    omega
theorem minT_fold : ∀ (xs : List (Int × Int × Int)) (x : Int × Int × Int), (xs.foldl (fun m y => if ltT y m = true then y else m) x ∈ x :: xs) ∧ ∀ y ∈ x :: xs, (xs.foldl (fun m y => if ltT y m = true then y else m) x).1 ≤ y.1
  | [], x => ⟨List.mem_cons_self, fun y hy => by
      rcases List.mem_cons.mp hy with rfl | hy
      · exact Int.le_refl _
      · cases hy⟩
  | z :: xs, x => by
    rw [List.foldl_cons]
    by_cases h : ltT z x = true
    · rw [if_pos h]
      obtain ⟨h1, h2⟩ := minT_fold xs z
      refine ⟨List.mem_cons_of_mem _ h1, fun y hy => ?_⟩
      rcases List.mem_cons.mp hy with rfl | hy
      · exact Int.le_trans (h2 z List.mem_cons_self) (ltT_first h)
      · exact h2 y hy
    · rw [if_neg h]
      obtain ⟨h1, h2⟩ := minT_fold xs x
      refine ⟨?_, fun y hy => ?_⟩
      · rcases List.mem_cons.mp h1 with e | e
        · rw [e]; exact List.mem_cons_self
        · exact List.mem_cons_of_mem _ (List.mem_cons_of_mem _ e)
      · rcases List.mem_cons.mp hy with rfl | hy
        · exact h2 y List.mem_cons_self
        · rcases List.mem_cons.mp hy with rfl | hy
          · exact Int.le_trans (h2 x List.mem_cons_self) (ltT_not h)
          · exact h2 y (List.mem_cons_of_mem _ hy)
theorem minT_spec {l : List (Int × Int × Int)} (h : l ≠ []) : minT l ∈ l ∧ ∀ y ∈ l, (minT l).1 ≤ y.1 := by
  cases l with
  | nil => exact absurd rfl h
  | cons x xs => exact minT_fold xs x
theorem minK_fold : ∀ (t : D) (k : Int), (t.foldl (fun m y => if y.1 < m then y.1 else m) k = k ∨ t.foldl (fun m y => if y.1 < m then y.1 else m) k ∈ keys t) ∧
    t.foldl (fun m y => if y.1 < m then y.1 else m) k ≤ k ∧ ∀ j ∈ keys t, t.foldl (fun m y => if y.1 < m then y.1 else m) k ≤ j
  | [], k => ⟨.inl rfl, Int.le_refl _, fun j hj => by cases hj⟩
  | q :: t, k => by
    rw [List.foldl_cons]
    obtain ⟨h1, h2, h3⟩ := minK_fold t (if q.1 < k then q.1 else k)
    refine ⟨?_, ?_, fun j hj => ?_⟩
    · rcases h1 with e | e
      · by_cases c : q.1 < k
        · rw [if_pos c] at e ⊢
          exact .inr (by rw [e]; exact List.mem_cons_self)
        · rw [if_neg c] at e ⊢
          exact .inl e
      · exact .inr (List.mem_cons_of_mem _ e)
    · refine Int.le_trans h2 ?_
      split <;> omega
    · rcases List.mem_cons.mp hj with e | hj
      · refine Int.le_trans h2 ?_
        have e' : j = q.1 := e
        split <;> omega
      · exact h3 j hj
theorem minK_mem {l : D} (h : l ≠ []) : minK l ∈ keys l := by
  cases l with
  | nil => exact absurd rfl h
  | cons q t =>
    rcases (minK_fold t q.1).1 with e | e
    · show t.foldl (fun m y => if y.1 < m then y.1 else m) q.1 ∈ keys (q :: t)
      rw [e]
      exact List.mem_cons_self
    · exact List.mem_cons_of_mem _ e
theorem minK_le {l : D} : ∀ j ∈ keys l, minK l ≤ j := by
  cases l with
  | nil => intro j hj; cases hj
  | cons q t =>
    intro j hj
    rcases List.mem_cons.mp hj with e | hj
    · rw [e]; exact (minK_fold t q.1).2.1
    · exact (minK_fold t q.1).2.2 j hj

/-! ### a state and its payments -/
structure Good (R : RS) : Prop where
  a : SideOk R.a R.whole
  b : SideOk R.b R.whole
def Side (s : Int) : Prop := s = 0 ∨ s = 1
theorem Side.flip {s : Int} (h : Side s) : Side (1 - s) := by
  rcases h with rfl | rfl
  · exact .inr (by omega)
  · exact .inl (by omega)
theorem sd0 (R : RS) : sd R 0 = R.a := if_pos rfl
theorem sd1 (R : RS) : sd R 1 = R.b := if_neg (by omega)
theorem Good.sd {R : RS} (G : Good R) {s : Int} (h : Side s) : SideOk (sd R s) R.whole := by
  rcases h with rfl | rfl
  · rw [sd0]; exact G.a
  · rw [sd1]; exact G.b
theorem many_eq {R : RS} {s : Int} (h : Side s) : many R = ((sd R s).length : Int) + ((sd R (1 - s)).length : Int) := by
  unfold many
  rcases h with rfl | rfl
  · rw [sd0, show (1 : Int) - 0 = 1 from rfl, sd1]
  · rw [sd1, show (1 : Int) - 1 = 0 from rfl, sd0]
    omega
theorem mn_le1 (i j : Int) : mn i j ≤ i := by unfold mn; split <;> omega
theorem mn_le2 (i j : Int) : mn i j ≤ j := by unfold mn; split <;> omega
theorem mn_pos {i j : Int} (h1 : 0 < i) (h2 : 0 < j) : 0 < mn i j := by unfold mn; split <;> omega
theorem mn_of_le {i j : Int} (h : i ≤ j) : mn i j = i := by unfold mn; split <;> omega
theorem mn_of_ge {i j : Int} (h : j ≤ i) : mn i j = j := by unfold mn; split <;> omega
/-- the two of a payment -/
structure Pays (R : RS) (s p o u v : Int) : Prop where
  hs : Side s
  hp : (p, u) ∈ sd R s
  ho : (o, v) ∈ sd R (1 - s)
theorem pay_eq {R : RS} (G : Good R) {s p o u v : Int} (P : Pays R s p o u v) : payR R s p o =
    if s = 0 then ⟨lessn R.a p (mn u v), lessn R.b o (mn u v), R.whole - mn u v, R.row ++ [(p, o)]⟩ else ⟨lessn R.a o (mn u v), lessn R.b p (mn u v), R.whole - mn u v, R.row ++ [(o, p)]⟩ := by
  unfold payR
  simp only [lkd_nd (G.sd P.hs).nd P.hp, lkd_nd (G.sd P.hs.flip).nd P.ho]
theorem pay_s {R : RS} (G : Good R) {s p o u v : Int} (P : Pays R s p o u v) : sd (payR R s p o) s = lessn (sd R s) p (mn u v) := by
  rw [pay_eq G P]
  rcases P.hs with rfl | rfl
  · rw [if_pos rfl, sd0, sd0]
  · rw [if_neg (by omega), sd1, sd1]
theorem pay_o {R : RS} (G : Good R) {s p o u v : Int} (P : Pays R s p o u v) : sd (payR R s p o) (1 - s) = lessn (sd R (1 - s)) o (mn u v) := by
  rw [pay_eq G P]
  rcases P.hs with rfl | rfl
  · rw [if_pos rfl, show (1 : Int) - 0 = 1 from rfl, sd1, sd1]
  · rw [if_neg (by omega), show (1 : Int) - 1 = 0 from rfl, sd0, sd0]
theorem pay_whole {R : RS} (G : Good R) {s p o u v : Int} (P : Pays R s p o u v) : (payR R s p o).whole = R.whole - mn u v := by
  rw [pay_eq G P]
  split <;> rfl
theorem pay_row {R : RS} (G : Good R) {s p o u v : Int} (P : Pays R s p o u v) : (payR R s p o).row = R.row ++ [if s = 0 then (p, o) else (o, p)] := by
  rw [pay_eq G P]
  split <;> rfl
theorem Pays.upos {R : RS} (G : Good R) {s p o u v : Int} (P : Pays R s p o u v) : 0 < u := (G.sd P.hs).pos _ P.hp
theorem Pays.vpos {R : RS} (G : Good R) {s p o u v : Int} (P : Pays R s p o u v) : 0 < v := (G.sd P.hs.flip).pos _ P.ho
theorem pay_good {R : RS} (G : Good R) {s p o u v : Int} (P : Pays R s p o u v) : Good (payR R s p o) := by
  have h1 := side_less (G.sd P.hs) P.hp (mn_pos (P.upos G) (P.vpos G)) (mn_le1 u v)
  have h2 := side_less (G.sd P.hs.flip) P.ho (mn_pos (P.upos G) (P.vpos G)) (mn_le2 u v)
  rw [← pay_s G P, ← pay_whole G P] at h1
  rw [← pay_o G P, ← pay_whole G P] at h2
  rcases P.hs with rfl | rfl
  · rw [sd0] at h1
    rw [show (1 : Int) - 0 = 1 from rfl, sd1] at h2
    exact ⟨h1, h2⟩
  · rw [sd1] at h1
    rw [show (1 : Int) - 1 = 0 from rfl, sd0] at h2
    exact ⟨h2, h1⟩

theorem least_spec {R : RS} (G : Good R) (h : 0 < R.whole) : Side (leastR R).2.1 ∧ ((leastR R).2.2, (leastR R).1) ∈ sd R (leastR R).2.1 ∧ ∀ s, Side s → ∀ q ∈ sd R s, (leastR R).1 ≤ q.2 := by
  have ha := side_ne G.a h
  have hne : trip 0 R.a ++ trip 1 R.b ≠ [] := by
    intro z
    have := (List.append_eq_nil_iff.mp z).1
    unfold trip at this
    exact ha (List.map_eq_nil_iff.mp this)
  obtain ⟨h1, h2⟩ := minT_spec hne
  have h3 : ∀ s, Side s → ∀ q ∈ sd R s, (leastR R).1 ≤ q.2 := fun s hs q hq => by
    refine h2 (q.2, s, q.1) ?_
    rw [List.mem_append]
    rcases hs with rfl | rfl
    · rw [sd0] at hq
      exact .inl (List.mem_map.mpr ⟨q, hq, rfl⟩)
    · rw [sd1] at hq
      exact .inr (List.mem_map.mpr ⟨q, hq, rfl⟩)
  rw [List.mem_append] at h1
  have e : leastR R = minT (trip 0 R.a ++ trip 1 R.b) := rfl
  rw [← e] at h1
  rcases h1 with h1 | h1
  · obtain ⟨q, hq, e1⟩ := List.mem_map.mp h1
    refine ⟨.inl (by rw [← e1]), ?_, h3⟩
    rw [← e1]
    show (q.1, q.2) ∈ sd R 0
    rw [sd0]
    exact hq
  · obtain ⟨q, hq, e1⟩ := List.mem_map.mp h1
    refine ⟨.inr (by rw [← e1]), ?_, h3⟩
    rw [← e1]
    show (q.1, q.2) ∈ sd R 1
    rw [sd1]
    exact hq
theorem mem_greater {l : D} {r k : Int} : k ∈ greaterK l r ↔ ∃ v, (k, v) ∈ l ∧ r < v := by
  unfold greaterK
  constructor
  · intro h
    obtain ⟨q, hq, e⟩ := List.mem_map.mp h
    obtain ⟨h1, h2⟩ := List.mem_filter.mp hq
    exact ⟨q.2, by rw [← e]; exact h1, of_decide_eq_true h2⟩
  · rintro ⟨v, h1, h2⟩
    exact List.mem_map.mpr ⟨(k, v), List.mem_filter.mpr ⟨h1, decide_eq_true h2⟩, rfl⟩
theorem mem_odd {l : D} {r k : Int} : k ∈ oddK l r ↔ ∃ v, (k, v) ∈ l ∧ v % r ≠ 0 := by
  unfold oddK
  constructor
  · intro h
    obtain ⟨q, hq, e⟩ := List.mem_map.mp h
    obtain ⟨h1, h2⟩ := List.mem_filter.mp hq
    exact ⟨q.2, by rw [← e]; exact h1, of_decide_eq_true h2⟩
  · rintro ⟨v, h1, h2⟩
    exact List.mem_map.mpr ⟨(k, v), List.mem_filter.mpr ⟨h1, decide_eq_true h2⟩, rfl⟩
theorem key_val {l : D} {k : Int} (h : k ∈ keys l) : ∃ v, (k, v) ∈ l := by
  obtain ⟨q, hq, e⟩ := List.mem_map.mp h
  exact ⟨q.2, by rw [← e]; exact hq⟩
theorem headD_mem {α : Type} {l : List α} {d : α} (h : l ≠ []) : l.headD d ∈ l := by
  cases l with
  | nil => exact absurd rfl h
  | cons a t => exact List.mem_cons_self

/-! ### what a step is: a payment -/
theorem stepP_pays {R : RS} (G : Good R) (h : 0 < R.whole) : ∃ s p o u v, Pays R s p o u v ∧ stepP R = payR R s p o := by
  obtain ⟨hs, hp, _⟩ := least_spec G h
  unfold stepP
  dsimp only
  split
  · rename_i o ho
    obtain ⟨v, h1, _⟩ := mem_greater.mp (List.mem_of_find?_eq_some ho)
    exact ⟨_, _, _, _, v, ⟨hs, hp, h1⟩, rfl⟩
  · have hO := side_ne (G.sd hs.flip) h
    obtain ⟨v, hv⟩ := key_val (minK_mem hO)
    have hm : (oddK (sd R (leastR R).2.1) (leastR R).1 ++ [(leastR R).2.2]).headD 0 ∈ keys (sd R (leastR R).2.1) := by
      rcases List.mem_append.mp (headD_mem (d := 0) (l := oddK (sd R (leastR R).2.1) (leastR R).1 ++ [(leastR R).2.2]) (by simp)) with m | m
      · obtain ⟨w, hw, _⟩ := mem_odd.mp m
        exact List.mem_map.mpr ⟨_, hw, rfl⟩
      · rw [List.mem_singleton.mp m]
        exact List.mem_map.mpr ⟨_, hp, rfl⟩
    obtain ⟨u, hu⟩ := key_val hm
    exact ⟨_, _, _, u, v, ⟨hs, hu, hv⟩, rfl⟩
theorem stepU_pays {R : RS} (G : Good R) (h : 0 < R.whole) : ∃ s p o u v, Pays R s p o u v ∧ stepU R = payR R s p o := by
  obtain ⟨hs, hp, _⟩ := least_spec G h
  unfold stepU
  dsimp only
  have hO := side_ne (G.sd hs.flip) h
  have hm : (greaterK (sd R (1 - (leastR R).2.1)) (leastR R).1 ++ [minK (sd R (1 - (leastR R).2.1))]).headD 0 ∈ keys (sd R (1 - (leastR R).2.1)) := by
    rcases List.mem_append.mp (headD_mem (d := 0) (l := greaterK (sd R (1 - (leastR R).2.1)) (leastR R).1 ++ [minK (sd R (1 - (leastR R).2.1))]) (by simp)) with m | m
    · obtain ⟨w, hw, _⟩ := mem_greater.mp m
      exact List.mem_map.mpr ⟨_, hw, rfl⟩
    · rw [List.mem_singleton.mp m]
      exact minK_mem hO
  obtain ⟨v, hv⟩ := key_val hm
  exact ⟨_, _, _, _, v, ⟨hs, hp, hv⟩, rfl⟩
end Qw
/-! QMathD: how many payments the runs make. -/
namespace Qw

/-- every common divisor fits -/
def CDiv (S O : D) (W : Int) : Prop := ∀ d : Int, 0 < d → (∀ q ∈ S, d ∣ q.2) → (∀ q ∈ O, d ∣ q.2) → d * (S.length : Int) + d * (O.length : Int) - d ≤ W
theorem CDiv.swap {S O : D} {W : Int} (h : CDiv S O W) : CDiv O S W := fun d hd h1 h2 => by
  have := h d hd h2 h1
  omega
theorem cdiv_sd {R : RS} (h : CDiv R.a R.b R.whole) {s : Int} (hs : Side s) : CDiv (sd R s) (sd R (1 - s)) R.whole := by
  rcases hs with rfl | rfl
  · rw [sd0, show (1 : Int) - 0 = 1 from rfl, sd1]; exact h
  · rw [sd1, show (1 : Int) - 1 = 0 from rfl, sd0]; exact h.swap
theorem cdiv_of {R : RS} {s : Int} (hs : Side s) (h : CDiv (sd R s) (sd R (1 - s)) R.whole) : CDiv R.a R.b R.whole := by
  rcases hs with rfl | rfl
  · rw [sd0, show (1 : Int) - 0 = 1 from rfl, sd1] at h; exact h
  · rw [sd1, show (1 : Int) - 1 = 0 from rfl, sd0] at h; exact h.swap

/-! ### the divisor behind a payment -/
theorem gcd_dvd1 (f v : Int) : (Int.gcd f v : Int) ∣ f := Int.gcd_dvd_left ..
theorem gcd_dvd2 (f v : Int) : (Int.gcd f v : Int) ∣ v := Int.gcd_dvd_right ..
theorem dvd_gcd' {d f v : Int} (h1 : d ∣ f) (h2 : d ∣ v) : d ∣ (Int.gcd f v : Int) := Int.dvd_coe_gcd h1 h2
/-- f positive stays so -/
theorem gcd_pos' {f v : Int} (h : 0 < f) : 0 < (Int.gcd f v : Int) := by
  have h1 : Int.gcd f v ≠ 0 := fun e => by
    have := (Int.gcd_eq_zero_iff.mp e).1
    omega
  omega
def skip (s p o here : Int) (q : Int × Int) : Prop := (here, q.1) = (s, p) ∨ (here, q.1) = (1 - s, o)
theorem divFold {s p o here : Int} : ∀ (l : D) (f : Int), 0 < f → 0 < l.foldl (divStep s p o here) f ∧ l.foldl (divStep s p o here) f ∣ f ∧ (∀ q ∈ l, ¬ skip s p o here q → l.foldl (divStep s p o here) f ∣ q.2) ∧
    ∀ d, d ∣ f → (∀ q ∈ l, ¬ skip s p o here q → d ∣ q.2) → d ∣ l.foldl (divStep s p o here) f
  | [], f, hf => ⟨hf, Int.dvd_refl _, fun _ hq => (List.not_mem_nil hq).elim, fun d h _ => h⟩
  | z :: l, f, hf => by
    rw [List.foldl_cons]
    have hg : 0 < divStep s p o here f z ∧ divStep s p o here f z ∣ f ∧ (¬ skip s p o here z → divStep s p o here f z ∣ z.2) ∧ ∀ d, d ∣ f → (¬ skip s p o here z → d ∣ z.2) → d ∣ divStep s p o here f z := by
      unfold divStep
      split
      · rename_i c
        exact ⟨gcd_pos' hf, gcd_dvd1 _ _, fun _ => gcd_dvd2 _ _, fun d h1 h2 => dvd_gcd' h1 (h2 c.2)⟩
      · rename_i c
        refine ⟨hf, Int.dvd_refl _, fun hs => ?_, fun d h1 _ => h1⟩
        have : ¬ 1 < f := fun z' => c ⟨z', hs⟩
        have e : f = 1 := by omega
        rw [e]
        exact Int.one_dvd _
    obtain ⟨g1, g2, g3, g4⟩ := hg
    obtain ⟨h1, h2, h3, h4⟩ := divFold l (divStep s p o here f z) g1
    refine ⟨h1, Int.dvd_trans h2 g2, fun q hq hs => ?_, fun d hd hq => ?_⟩
    · rcases List.mem_cons.mp hq with rfl | hq
      · exact Int.dvd_trans h2 (g3 hs)
      · exact h3 q hq hs
    · exact h4 d (g4 d hd fun hs => hq z List.mem_cons_self hs) fun q h hs => hq q (List.mem_cons_of_mem _ h) hs
/-- what divisor_behind gives -/
theorem divBehind_spec {R : RS} (G : Good R) {s p o u v : Int} (P : Pays R s p o u v) (huv : u < v) : 0 < divBehind R s p o ∧ divBehind R s p o ∣ v - u ∧ (∀ q ∈ delk (sd R s) p, divBehind R s p o ∣ q.2) ∧ (∀ q ∈ delk (sd R (1 - s)) o, divBehind R s p o ∣ q.2) ∧
    ∀ d, d ∣ v - u → (∀ q ∈ delk (sd R s) p, d ∣ q.2) → (∀ q ∈ delk (sd R (1 - s)) o, d ∣ q.2) → d ∣ divBehind R s p o := by
  unfold divBehind
  rw [lkd_nd (G.sd P.hs).nd P.hp, lkd_nd (G.sd P.hs.flip).nd P.ho]
  obtain ⟨a1, a2, a3, a4⟩ := divFold (s := s) (p := p) (o := o) (here := 0) R.a (v - u) (by omega)
  obtain ⟨b1, b2, b3, b4⟩ := divFold (s := s) (p := p) (o := o) (here := 1) R.b (R.a.foldl (divStep s p o 0) (v - u)) a1
  have sk0 : ∀ q : Int × Int, skip s p o 0 q ↔ (s = 0 ∧ q.1 = p) ∨ (s = 1 ∧ q.1 = o) := fun q => by
    unfold skip
    rw [Prod.mk.injEq, Prod.mk.injEq]
    omega
  have sk1 : ∀ q : Int × Int, skip s p o 1 q ↔ (s = 1 ∧ q.1 = p) ∨ (s = 0 ∧ q.1 = o) := fun q => by
    unfold skip
    rw [Prod.mk.injEq, Prod.mk.injEq]
    omega
  refine ⟨b1, Int.dvd_trans b2 a2, ?_, ?_, fun d h0 h1 h2 => ?_⟩
  · intro q hq
    obtain ⟨m1, m2⟩ := mem_delk.mp hq
    rcases P.hs with rfl | rfl
    · rw [sd0] at m1
      exact Int.dvd_trans b2 (a3 q m1 (by rw [sk0]; omega))
    · rw [sd1] at m1
      exact b3 q m1 (by rw [sk1]; omega)
  · intro q hq
    obtain ⟨m1, m2⟩ := mem_delk.mp hq
    rcases P.hs with rfl | rfl
    · rw [show (1 : Int) - 0 = 1 from rfl, sd1] at m1
      exact b3 q m1 (by rw [sk1]; omega)
    · rw [show (1 : Int) - 1 = 0 from rfl, sd0] at m1
      exact Int.dvd_trans b2 (a3 q m1 (by rw [sk0]; omega))
  · refine b4 d (a4 d h0 fun q hq hs => ?_) fun q hq hs => ?_
    · rw [sk0] at hs
      rcases P.hs with rfl | rfl
      · exact h1 q (mem_delk.mpr ⟨by rw [sd0]; exact hq, by omega⟩)
      · exact h2 q (mem_delk.mpr ⟨by rw [show (1 : Int) - 1 = 0 from rfl, sd0]; exact hq, by omega⟩)
    · rw [sk1] at hs
      rcases P.hs with rfl | rfl
      · exact h2 q (mem_delk.mpr ⟨by rw [show (1 : Int) - 0 = 1 from rfl, sd1]; exact hq, by omega⟩)
      · exact h1 q (mem_delk.mpr ⟨by rw [sd1]; exact hq, by omega⟩)

/-! ### the values of a side without one -/
theorem vals_delk {l : D} (h : (keys l).Nodup) {k v : Int} (m : (k, v) ∈ l) : (vals l).Perm (v :: vals (delk l k)) := by
  have p := List.Perm.map (fun q : Int × Int => q.2) (perm_delk h m)
  exact p
theorem mem_vals {l : D} {x : Int} : x ∈ vals l ↔ ∃ k, (k, x) ∈ l := by
  unfold vals
  rw [List.mem_map]
  constructor
  · rintro ⟨q, hq, e⟩; exact ⟨q.1, by rw [← e]; exact hq⟩
  · rintro ⟨k, hk⟩; exact ⟨(k, x), hk, rfl⟩
theorem all_vals {l : D} {Pr : Int → Prop} : (∀ x ∈ vals l, Pr x) ↔ ∀ q ∈ l, Pr q.2 := by
  constructor
  · intro h q hq; exact h _ (mem_vals.mpr ⟨q.1, hq⟩)
  · intro h x hx
    obtain ⟨k, hk⟩ := mem_vals.mp hx
    exact h _ hk
theorem len_vals (l : D) : (vals l).length = l.length := by unfold vals; rw [List.length_map]

/-- some greater one leaves enough -/
theorem some_enough {R : RS} (G : Good R) (C : CDiv R.a R.b R.whole) {s p r : Int} (hs : Side s) (hp : (p, r) ∈ sd R s) (hl : ∀ s, Side s → ∀ q ∈ sd R s, r ≤ q.2) {o v : Int} (ho : (o, v) ∈ sd R (1 - s)) (hv : r < v) :
    ∃ o' ∈ greaterK (sd R (1 - s)) r, enough R s p o' = true := by
  have GS := G.sd hs
  have GO := G.sd hs.flip
  have hr : 0 < r := GS.pos _ hp
  have key : ∀ o v, (o, v) ∈ sd R (1 - s) → r < v → enough R s p o = false → (vals (delk (sd R s) p)).sum < divBehind R s p o * ((vals (delk (sd R s) p)).length : Int) + divBehind R s p o * ((vals (delk (sd R (1 - s)) o)).length : Int) := by
    intro o v ho hv hf
    unfold enough at hf
    have hf := of_decide_eq_false hf
    rw [lkd_nd GS.nd hp, many_eq hs] at hf
    have e1 := sum_perm (vals_delk GS.nd hp)
    rw [List.sum_cons] at e1
    have e2 := GS.sum
    have e3 := len_delk GS.nd hp
    have e4 := len_delk GO.nd ho
    rw [len_vals, len_vals]
    have e5 : (((sd R s).length : Int) + ((sd R (1 - s)).length : Int) - 2) * divBehind R s p o = divBehind R s p o * ((delk (sd R s) p).length : Int) + divBehind R s p o * ((delk (sd R (1 - s)) o).length : Int) := by
      rw [← Int.mul_add, Int.mul_comm]
      congr 1
      omega
    rw [e5] at hf
    omega
  have cd := cdiv_sd C hs
  have fits : ∀ o v, (o, v) ∈ sd R (1 - s) → Fits (vals (delk (sd R s) p)) (vals (delk (sd R (1 - s)) o)) r v := by
    intro o v ho d hd h1 h2 h3 h4
    have := cd d hd (fun q hq => by
      rcases List.mem_cons.mp ((perm_delk GS.nd hp).mem_iff.mp hq) with e | hq
      · rw [e]; exact h1
      · exact all_vals.mp h3 q hq) fun q hq => by
      rcases List.mem_cons.mp ((perm_delk GO.nd ho).mem_iff.mp hq) with e | hq
      · rw [e]; exact h2
      · exact all_vals.mp h4 q hq
    have e1 := sum_perm (vals_delk GS.nd hp)
    rw [List.sum_cons] at e1
    have e2 := GS.sum
    rw [len_delk GS.nd hp, len_delk GO.nd ho, Int.natCast_add, Int.natCast_add, Int.mul_add, Int.mul_add] at this
    rw [len_vals, len_vals]
    simp only [Int.natCast_one, Int.mul_one] at this
    omega
  cases h1 : enough R s p o with
  | true => exact ⟨o, mem_greater.mpr ⟨v, ho, hv⟩, h1⟩
  | false =>
    have f1 := key o v ho hv h1
    obtain ⟨d1, d2, d3, d4, _⟩ := divBehind_spec G ⟨hs, hp, ho⟩ hv
    have hS : ∀ x ∈ vals (delk (sd R s) p), r ≤ x := all_vals.mpr fun q hq => hl s hs q (mem_delk.mp hq).1
    have hO : ∀ x ∈ vals (delk (sd R (1 - s)) o), r ≤ x := all_vals.mpr fun q hq => hl (1 - s) hs.flip q (mem_delk.mp hq).1
    have hW : r + (vals (delk (sd R s) p)).sum = v + (vals (delk (sd R (1 - s)) o)).sum := by
      have e1 := sum_perm (vals_delk GS.nd hp)
      have e2 := sum_perm (vals_delk GO.nd ho)
      rw [List.sum_cons] at e1 e2
      have e3 := GS.sum
      have e4 := GO.sum
      omega
    have nd := not_dvd hr hS hO hv hW (fits o v ho) d1 d2 (all_vals.mpr d3) (all_vals.mpr d4) f1
    cases hO' : delk (sd R (1 - s)) o with
    | nil =>
      exfalso
      rw [hO'] at f1
      have := one_alone hv hr hS d1 (all_vals.mpr d3)
      simp only [vals, List.map_nil, List.length_nil, Int.natCast_zero, Int.mul_zero] at f1 this
      omega
    | cons z t =>
      obtain ⟨o2, v2⟩ := z
      have m2' : (o2, v2) ∈ delk (sd R (1 - s)) o := by rw [hO']; exact List.mem_cons_self
      obtain ⟨m2, n2⟩ := mem_delk.mp m2'
      have hv2 : r < v2 := by
        have h2 := hl (1 - s) hs.flip _ m2
        have h2 : r ≤ v2 := h2
        rcases Int.lt_or_le r v2 with q | q
        · exact q
        · have e : v2 = r := by omega
          exact absurd (by have := d4 _ m2'; rwa [e] at this) nd
      cases h2 : enough R s p o2 with
      | true => exact ⟨o2, mem_greater.mpr ⟨v2, m2, hv2⟩, h2⟩
      | false =>
        exfalso
        have f2 := key o2 v2 m2 hv2 h2
        obtain ⟨c1, c2, c3, c4, _⟩ := divBehind_spec G ⟨hs, hp, m2⟩ hv2
        have hperm : (vals (delk (sd R (1 - s)) o)).Perm (v2 :: vals t) := by
          rw [hO']
          exact List.Perm.refl _
        have l1 := len_delk GO.nd ho
        have l2 := len_delk GO.nd m2
        have kt : ∀ q ∈ t, q ∈ delk (sd R (1 - s)) o2 := fun q hq => by
          have hq' : q ∈ delk (sd R (1 - s)) o := by rw [hO']; exact List.mem_cons_of_mem _ hq
          refine mem_delk.mpr ⟨(mem_delk.mp hq').1, fun e => ?_⟩
          have nn : (keys (delk (sd R (1 - s)) o)).Nodup := (side_delk GO ho).nd
          rw [hO'] at nn
          unfold keys at nn
          rw [List.map_cons, List.nodup_cons] at nn
          exact nn.1 (List.mem_map.mpr ⟨q, hq, e⟩)
        refine two_pass hperm hr hS hO hv hW (fits o v ho) d1 d2 (all_vals.mpr d3) (all_vals.mpr d4) f1 c1 c2 (all_vals.mpr c3) (all_vals.mpr fun q hq => c4 q (kt q hq)) (c4 (o, v) (mem_delk.mpr ⟨ho, Ne.symm n2⟩)) ?_
        rw [len_vals, len_vals] at f2 ⊢
        have e : (delk (sd R (1 - s)) o).length = (delk (sd R (1 - s)) o2).length := by omega
        rw [e]
        exact f2
end Qw
/-! QMathE: a step of one piece, a step of one unit, the runs. -/
namespace Qw

theorem mul_mono {d a b : Int} (h : a ≤ b) (hd : 0 ≤ d) : d * a ≤ d * b := Int.mul_le_mul_of_nonneg_left h hd
theorem pay_len {R : RS} (G : Good R) {s p o u v : Int} (P : Pays R s p o u v) : (payR R s p o).row.length = R.row.length + 1 := by
  rw [pay_row G P, List.length_append]
  rfl
/-- the lesser one goes, the other one stays -/
theorem pay_less {R : RS} (G : Good R) {s p o u v : Int} (P : Pays R s p o u v) (h : u < v) :
    sd (payR R s p o) s = delk (sd R s) p ∧ (sd (payR R s p o) (1 - s)).Perm ((o, v - u) :: delk (sd R (1 - s)) o) ∧ (payR R s p o).whole = R.whole - u := by
  rw [pay_s G P, pay_o G P, pay_whole G P, mn_of_le (Int.le_of_lt h)]
  exact ⟨lessn_zero (G.sd P.hs).nd P.hp, lessn_pos (G.sd P.hs.flip).nd P.ho h, rfl⟩
theorem pay_more {R : RS} (G : Good R) {s p o u v : Int} (P : Pays R s p o u v) (h : v < u) :
    (sd (payR R s p o) s).Perm ((p, u - v) :: delk (sd R s) p) ∧ sd (payR R s p o) (1 - s) = delk (sd R (1 - s)) o ∧ (payR R s p o).whole = R.whole - v := by
  rw [pay_s G P, pay_o G P, pay_whole G P, mn_of_ge (Int.le_of_lt h)]
  exact ⟨lessn_pos (G.sd P.hs).nd P.hp h, lessn_zero (G.sd P.hs.flip).nd P.ho, rfl⟩
theorem pay_both {R : RS} (G : Good R) {s p o u : Int} (P : Pays R s p o u u) :
    sd (payR R s p o) s = delk (sd R s) p ∧ sd (payR R s p o) (1 - s) = delk (sd R (1 - s)) o ∧ (payR R s p o).whole = R.whole - u := by
  rw [pay_s G P, pay_o G P, pay_whole G P, mn_of_le (Int.le_refl u)]
  exact ⟨lessn_zero (G.sd P.hs).nd P.hp, lessn_zero (G.sd P.hs.flip).nd P.ho, rfl⟩
theorem whole_pos {R : RS} (G : Good R) {s : Int} (hs : Side s) {q : Int × Int} (h : q ∈ sd R s) : 0 < R.whole := by
  have S := G.sd hs
  rw [← S.sum]
  refine sum_pos (all_vals.mpr S.pos) ?_
  intro e
  unfold vals at e
  have := List.map_eq_nil_iff.mp e
  rw [this] at h
  cases h

/-- behind a step of one piece: one person less, or all are quits and there were two -/
def After (R R' : RS) : Prop := Good R' ∧ R'.row.length = R.row.length + 1 ∧ ((0 < R'.whole ∧ CDiv R'.a R'.b R'.whole ∧ many R' = many R - 1) ∨ (R'.whole = 0 ∧ many R = 2))

theorem stepP_after {R : RS} (G : Good R) (C : CDiv R.a R.b R.whole) (h : 0 < R.whole) : After R (stepP R) := by
  obtain ⟨hs, hp, hl⟩ := least_spec G h
  revert hs hp hl
  unfold stepP
  generalize leastR R = t
  obtain ⟨r, s, p⟩ := t
  dsimp only
  intro hs hp hl
  have GS := G.sd hs
  have GO := G.sd hs.flip
  have hr : 0 < r := GS.pos _ hp
  have cd := cdiv_sd C hs
  have hm := many_eq (R := R) hs
  split
  · rename_i o ho
    obtain ⟨v, hov, hv⟩ := mem_greater.mp (List.mem_of_find?_eq_some ho)
    have he : enough R s p o = true := List.find?_some (p := fun o => enough R s p o) ho
    have P : Pays R s p o r v := ⟨hs, hp, hov⟩
    obtain ⟨e1, e2, e3⟩ := pay_less G P hv
    have G' := pay_good G P
    have hw : 0 < (payR R s p o).whole := whole_pos G' hs.flip (e2.mem_iff.mpr List.mem_cons_self)
    have l1 := len_delk GS.nd hp
    have l2 := len_delk GO.nd hov
    have l3 : (sd (payR R s p o) (1 - s)).length = (sd R (1 - s)).length := by
      rw [e2.length_eq, l2]
      rfl
    refine ⟨G', pay_len G P, .inl ⟨hw, cdiv_of hs fun d hd h1 h2 => ?_, ?_⟩⟩
    · obtain ⟨d1, d2, d3, d4, d5⟩ := divBehind_spec G P hv
      have q : d ∣ divBehind R s p o := by
        refine d5 d (h2 (o, v - r) (e2.mem_iff.mpr List.mem_cons_self)) (fun q hq => h1 q (by rw [e1]; exact hq)) fun q hq => h2 q (e2.mem_iff.mpr (List.mem_cons_of_mem _ hq))
      have hle := Int.le_of_dvd d1 q
      unfold enough at he
      have he := of_decide_eq_true he
      rw [lkd_nd GS.nd hp, hm] at he
      rw [e3, l3, e1]
      have z : (((sd R s).length : Int) + ((sd R (1 - s)).length : Int) - 2) * d ≤ (((sd R s).length : Int) + ((sd R (1 - s)).length : Int) - 2) * divBehind R s p o := mul_mono hle (by omega)
      have z2 : d * ((delk (sd R s) p).length : Int) + d * ((sd R (1 - s)).length : Int) - d = (((sd R s).length : Int) + ((sd R (1 - s)).length : Int) - 2) * d := by
        rw [l1, Int.mul_comm _ d, Int.mul_sub, Int.mul_add, Int.natCast_add, Int.mul_add]
        simp only [Int.natCast_one, Int.mul_one]
        omega
      omega
    · rw [many_eq hs, hm, e1, l3]
      omega
  · rename_i hn
    have hO : ∀ q ∈ sd R (1 - s), q.2 = r := fun q hq => by
      have h1 := hl (1 - s) hs.flip q hq
      rcases Int.lt_or_le r q.2 with z | z
      · obtain ⟨o', m, e⟩ := some_enough G C hs hp hl (o := q.1) (v := q.2) hq z
        exact absurd e (List.find?_eq_none.mp hn o' m)
      · omega
    have hOne := side_ne GO h
    obtain ⟨v, hv⟩ := key_val (minK_mem hOne)
    have ev : v = r := hO _ hv
    subst ev
    have sO := sum_eq (c := v) (l := vals (sd R (1 - s))) (all_vals.mpr hO)
    rw [GO.sum, len_vals] at sO
    cases hodd : oddK (sd R s) v with
    | nil =>
      rw [List.nil_append]
      have P : Pays R s p (minK (sd R (1 - s))) v v := ⟨hs, hp, hv⟩
      show After R (payR R s p (minK (sd R (1 - s))))
      obtain ⟨e1, e2, e3⟩ := pay_both G P
      have hS : ∀ q ∈ sd R s, v ∣ q.2 := fun q hq => by
        have : ¬ q.2 % v ≠ 0 := fun z => by
          have m := mem_odd.mpr ⟨q.2, hq, z⟩
          rw [hodd] at m
          cases m
        exact Int.dvd_of_emod_eq_zero (by omega)
      have c1 := cd v hr hS fun q hq => by rw [hO q hq]; exact Int.dvd_refl _
      have l1 := len_delk GS.nd hp
      have l2 := len_delk GO.nd hv
      have m1 : (sd R s).length = 1 := by
        have z : v * ((sd R s).length : Int) ≤ v * 1 := by rw [Int.mul_one]; omega
        have := Int.le_of_mul_le_mul_left z hr
        omega
      have wv : R.whole = v := by
        have := sum_perm (vals_delk GS.nd hp)
        rw [GS.sum, List.sum_cons] at this
        have z : delk (sd R s) p = [] := List.eq_nil_of_length_eq_zero (by omega)
        rw [z] at this
        simpa [vals] using this
      have m2 : (sd R (1 - s)).length = 1 := by
        rw [wv] at sO
        have z : v * ((sd R (1 - s)).length : Int) ≤ v * 1 := by rw [Int.mul_one]; omega
        have := Int.le_of_mul_le_mul_left z hr
        omega
      exact ⟨pay_good G P, pay_len G P, .inr ⟨by rw [e3]; omega, by rw [hm]; omega⟩⟩
    | cons c tl =>
      rw [List.cons_append]
      show After R (payR R s c (minK (sd R (1 - s))))
      obtain ⟨x, hx, hxr⟩ := mem_odd.mp (show c ∈ oddK (sd R s) v by rw [hodd]; exact List.mem_cons_self)
      have hvx : v < x := by
        have h1 := hl s hs _ hx
        have h1 : v ≤ x := h1
        rcases Int.lt_or_le v x with z | z
        · exact z
        · have e : x = v := by omega
          rw [e] at hxr
          exact absurd (Int.emod_self) hxr
      have P : Pays R s c (minK (sd R (1 - s))) x v := ⟨hs, hx, hv⟩
      obtain ⟨e1, e2, e3⟩ := pay_more G P hvx
      have G' := pay_good G P
      have hw : 0 < (payR R s c (minK (sd R (1 - s)))).whole := whole_pos G' hs (e1.mem_iff.mpr List.mem_cons_self)
      have l1 := len_delk GS.nd hx
      have l2 := len_delk GO.nd hv
      have l3 : (sd (payR R s c (minK (sd R (1 - s)))) s).length = (sd R s).length := by
        rw [e1.length_eq, l1]
        rfl
      refine ⟨G', pay_len G P, .inl ⟨hw, cdiv_of hs fun d hd h1 h2 => ?_, ?_⟩⟩
      · have npc : p ≠ c := fun e => by
          subst e
          have := (lkd_nd GS.nd hp).symm.trans (lkd_nd GS.nd hx)
          omega
        have dv : d ∣ v := h1 (p, v) (e1.mem_iff.mpr (List.mem_cons_of_mem _ (mem_delk.mpr ⟨hp, npc⟩)))
        have dx : d ∣ x := by
          have := Int.dvd_add (h1 (c, x - v) (e1.mem_iff.mpr List.mem_cons_self)) dv
          have e : x - v + v = x := by omega
          dsimp only at this
          rwa [e] at this
        have nd : v ≠ d := fun e => hxr (by rw [e]; exact Int.emod_eq_zero_of_dvd dx)
        have v2 := dvd_ge2 hr dv nd hd
        have s1 := sum_ge (c := 2 * d) (l := vals (delk (sd R (1 - s)) (minK (sd R (1 - s))))) (all_vals.mpr fun q hq => by rw [hO q (mem_delk.mp hq).1]; exact v2)
        have s2 := (side_delk GO hv).sum
        rw [s2, two_mul_assoc, len_vals] at s1
        have s3 := sum_perm (vals_delk GS.nd hx)
        rw [GS.sum, List.sum_cons] at s3
        have s4 := sum_ge (c := v) (l := vals (delk (sd R s) c)) (all_vals.mpr fun q hq => hl s hs q (mem_delk.mp hq).1)
        rw [len_vals] at s4
        have s5 : v * ((sd R s).length : Int) = v * ((delk (sd R s) c).length : Int) + v := by
          rw [l1, Int.natCast_add, Int.mul_add]
          simp
        have s6 : v * ((sd R s).length : Int) < v * ((sd R (1 - s)).length : Int) := by omega
        have s7 := Int.lt_of_mul_lt_mul_left s6 (Int.le_of_lt hr)
        have s8 : d * ((sd R s).length : Int) ≤ d * ((sd R (1 - s)).length : Int) := mul_mono (by omega) (by omega)
        have s9 : d * ((sd R (1 - s)).length : Int) = d * ((delk (sd R (1 - s)) (minK (sd R (1 - s)))).length : Int) + d := by
          rw [l2, Int.natCast_add, Int.mul_add]
          simp
        rw [e3, l3, e2]
        omega
      · rw [many_eq hs, hm, e2, l3]
        omega

theorem good_zero {R : RS} (G : Good R) (h : R.whole = 0) : R.a = [] ∧ R.b = [] := ⟨side_empty (h ▸ G.a), side_empty (h ▸ G.b)⟩
theorem many_pos {R : RS} (G : Good R) (h : 0 < R.whole) : 2 ≤ many R := by
  have h1 := List.length_pos_iff.mpr (side_ne G.a h)
  have h2 := List.length_pos_iff.mpr (side_ne G.b h)
  unfold many
  omega
theorem step_less {R R' : RS} (G : Good R) (_h : 0 < R.whole) (hp : ∃ s p o u v, Pays R s p o u v ∧ R' = payR R s p o) : R'.whole < R.whole ∧ Good R' := by
  obtain ⟨s, p, o, u, v, P, rfl⟩ := hp
  refine ⟨?_, pay_good G P⟩
  rw [pay_whole G P]
  have := mn_pos (P.upos G) (P.vpos G)
  omega
theorem runP {n : Nat} : ∀ {R : RS}, Good R → CDiv R.a R.b R.whole → 0 < R.whole → R.whole.toNat ≤ n →
    Good (run true n R) ∧ (run true n R).whole = 0 ∧ ((run true n R).row.length : Int) = (R.row.length : Int) + many R - 1 := by
  induction n with
  | zero => intro R _ _ h hn; omega
  | succ n ih =>
    intro R G C h hn
    obtain ⟨G', hrow, ha⟩ := stepP_after G C h
    have hl := (step_less G h (stepP_pays G h)).1
    have e : run true (n + 1) R = run true n (stepP R) := by
      show (if 0 < R.whole then run true n (if true = true then stepP R else stepU R) else R) = _
      rw [if_pos h, if_pos rfl]
    rw [e]
    rcases ha with ⟨h1, h2, h3⟩ | ⟨h1, h2⟩
    · obtain ⟨i1, i2, i3⟩ := ih G' h2 h1 (by omega)
      exact ⟨i1, i2, by rw [i3, hrow, h3]; omega⟩
    · have e2 : ∀ m, run true m (stepP R) = stepP R := fun m => by
        cases m with
        | zero => rfl
        | succ m =>
          show (if 0 < (stepP R).whole then _ else _) = _
          rw [if_neg (by omega)]
      rw [e2]
      exact ⟨G', h1, by rw [hrow, h2]; omega⟩

/-! ### units -/
def InvU (R : RS) : Prop := R.whole < many R - 1 ∨ ∃ s, Side s ∧ ∀ q ∈ sd R s, q.2 = 1
theorem side_same {s t : Int} (h : Side s) (h' : Side t) : t = s ∨ t = 1 - s := by
  rcases h with rfl | rfl <;> rcases h' with rfl | rfl
  · exact .inl rfl
  · exact .inr rfl
  · exact .inr rfl
  · exact .inl rfl
theorem stepU_after {R : RS} (G : Good R) (U : InvU R) (h : 0 < R.whole) : Good (stepU R) ∧ InvU (stepU R) ∧ (stepU R).whole = R.whole - 1 ∧ (stepU R).row.length = R.row.length + 1 := by
  obtain ⟨hs, hp, hl⟩ := least_spec G h
  revert hs hp hl
  unfold stepU
  generalize leastR R = t
  obtain ⟨r, s, p⟩ := t
  dsimp only
  intro hs hp hl
  have GS := G.sd hs
  have GO := G.sd hs.flip
  have hr : 0 < r := GS.pos _ hp
  have hm := many_eq (R := R) hs
  have hOne := side_ne GO h
  have r1 : r = 1 := by
    rcases U with u | ⟨t, ht, hu⟩
    · rcases Int.lt_or_le r 2 with z | z
      · omega
      · have s1 := sum_ge (c := 2) (l := vals (sd R s)) (all_vals.mpr fun q hq => Int.le_trans z (hl s hs q hq))
        have s2 := sum_ge (c := 2) (l := vals (sd R (1 - s))) (all_vals.mpr fun q hq => Int.le_trans z (hl (1 - s) hs.flip q hq))
        rw [GS.sum, len_vals] at s1
        rw [GO.sum, len_vals] at s2
        omega
    · have Gt := G.sd ht
      have hne := side_ne Gt h
      obtain ⟨q, hq⟩ := List.exists_mem_of_ne_nil _ hne
      have := hl t ht q hq
      have := hu q hq
      omega
  subst r1
  have fin : ∀ o v, (o, v) ∈ sd R (1 - s) → (R.whole < many R - 1 → v = 1 → ∀ q ∈ sd R (1 - s), q.2 = 1) →
      Good (payR R s p o) ∧ InvU (payR R s p o) ∧ (payR R s p o).whole = R.whole - 1 ∧ (payR R s p o).row.length = R.row.length + 1 := by
    intro o v hv hone
    have P : Pays R s p o 1 v := ⟨hs, hp, hv⟩
    have vp := P.vpos G
    have l1 := len_delk GS.nd hp
    rcases Int.lt_or_le 1 v with z | z
    · obtain ⟨e1, e2, e3⟩ := pay_less G P z
      refine ⟨pay_good G P, ?_, e3, pay_len G P⟩
      rcases U with u | ⟨t, ht, hu⟩
      · refine .inl ?_
        have l2 := len_delk GO.nd hv
        have l3 := e2.length_eq
        rw [List.length_cons] at l3
        rw [many_eq hs, e1, e3]
        omega
      · rcases side_same hs ht with rfl | rfl
        · exact .inr ⟨t, ht, fun q hq => hu q (by rw [e1] at hq; exact (mem_delk.mp hq).1)⟩
        · have := hu _ hv
          dsimp only at this
          omega
    · have v1 : v = 1 := by omega
      subst v1
      obtain ⟨e1, e2, e3⟩ := pay_both G P
      refine ⟨pay_good G P, ?_, e3, pay_len G P⟩
      rcases U with u | ⟨t, ht, hu⟩
      · exact .inr ⟨1 - s, hs.flip, fun q hq => hone u rfl q (by rw [e2] at hq; exact (mem_delk.mp hq).1)⟩
      · rcases side_same hs ht with rfl | rfl
        · exact .inr ⟨t, ht, fun q hq => hu q (by rw [e1] at hq; exact (mem_delk.mp hq).1)⟩
        · exact .inr ⟨1 - s, ht, fun q hq => hu q (by rw [e2] at hq; exact (mem_delk.mp hq).1)⟩
  cases hg : greaterK (sd R (1 - s)) 1 with
  | nil =>
    obtain ⟨v, hv⟩ := key_val (minK_mem hOne)
    rw [List.nil_append]
    refine fin _ v hv fun _ _ q hq => ?_
    have h1 := hl (1 - s) hs.flip q hq
    rcases Int.lt_or_le 1 q.2 with z | z
    · have m := mem_greater.mpr ⟨q.2, hq, z⟩
      rw [hg] at m
      cases m
    · omega
  | cons o tl =>
    obtain ⟨v, hv, hv1⟩ := mem_greater.mp (show o ∈ greaterK (sd R (1 - s)) 1 by rw [hg]; exact List.mem_cons_self)
    rw [List.cons_append]
    exact fin _ v hv fun _ e => by omega
theorem runU {n : Nat} : ∀ {R : RS}, Good R → InvU R → R.whole.toNat ≤ n → 0 ≤ R.whole →
    Good (run false n R) ∧ (run false n R).whole = 0 ∧ ((run false n R).row.length : Int) = (R.row.length : Int) + R.whole := by
  induction n with
  | zero =>
    intro R G _ hn h0
    have : R.whole = 0 := by omega
    exact ⟨G, this, by show (R.row.length : Int) = _; omega⟩
  | succ n ih =>
    intro R G U hn h0
    by_cases h : 0 < R.whole
    · obtain ⟨G', U', hw, hrow⟩ := stepU_after G U h
      have e : run false (n + 1) R = run false n (stepU R) := by
        show (if 0 < R.whole then run false n (if false = true then stepP R else stepU R) else R) = _
        rw [if_pos h, if_neg Bool.false_ne_true]
      rw [e]
      obtain ⟨i1, i2, i3⟩ := ih G' U' (by omega) (by omega)
      exact ⟨i1, i2, by rw [i3, hrow, hw]; omega⟩
    · have e : run false (n + 1) R = R := by
        show (if 0 < R.whole then run false n (if false = true then stepP R else stepU R) else R) = _
        rw [if_neg h]
      rw [e]
      exact ⟨G, by omega, by omega⟩
end Qw
/-! QMathF: arrays, rows that play, all ways, the greatest number. -/
namespace Qw

/-! ### the start -/
theorem enum_from : ∀ (A : List Int) (n : Nat), keys ((A.zipIdx n).map fun q => ((q.2 : Int), q.1)) = (List.range' n A.length).map (fun i : Nat => (i : Int)) ∧ vals ((A.zipIdx n).map fun q => ((q.2 : Int), q.1)) = A
  | [], n => ⟨rfl, rfl⟩
  | x :: A, n => by
    obtain ⟨h1, h2⟩ := enum_from A (n + 1)
    simp only [keys, vals] at h1 h2 ⊢
    rw [List.zipIdx_cons, List.map_cons, List.map_cons, List.map_cons, h1, h2, List.length_cons, List.range'_succ, List.map_cons]
    exact ⟨rfl, rfl⟩
theorem vals_enum (A : List Int) : vals (enum A) = A := (enum_from A 0).2
theorem keys_enum (A : List Int) : keys (enum A) = (List.range A.length).map (fun i : Nat => (i : Int)) := by
  rw [List.range_eq_range']
  exact (enum_from A 0).1
theorem nodup_enum (A : List Int) : (keys (enum A)).Nodup := by
  rw [keys_enum]
  refine List.Pairwise.map _ (fun a b h z => h ?_) List.nodup_range
  have z : (a : Int) = (b : Int) := z
  omega
theorem len_enum (A : List Int) : (enum A).length = A.length := by rw [← len_vals, vals_enum]
theorem side_enum {A : List Int} (h : ∀ x ∈ A, 0 < x) : SideOk (enum A) A.sum := ⟨nodup_enum A, all_vals.mp (by rw [vals_enum]; exact h), by rw [vals_enum]⟩
theorem mem_enum {A : List Int} {i : Nat} {x : Int} (h : A[i]? = some x) : ((i : Int), x) ∈ enum A := by
  unfold enum
  refine List.mem_map.mpr ⟨(x, i), ?_, rfl⟩
  rw [List.mk_mem_zipIdx_iff_getElem?]
  exact h
theorem enum_range {A : List Int} : ∀ k ∈ keys (enum A), 0 ≤ k ∧ k < A.length := fun k hk => by
  rw [keys_enum] at hk
  obtain ⟨i, hi, e⟩ := List.mem_map.mp hk
  have := List.mem_range.mp hi
  omega
theorem lkd_enum {A : List Int} (i : Nat) (h : i < A.length) : lkd (enum A) (i : Int) = A[i] := lkd_nd (nodup_enum A) (mem_enum (List.getElem?_eq_getElem h))

/-! ### arrays -/
def arr (n : Nat) (l : D) : List Int := (List.range n).map fun i : Nat => lkd l (i : Int)
theorem arr_len (n : Nat) (l : D) : (arr n l).length = n := by unfold arr; simp
theorem arr_at {n : Nat} {l : D} {i : Nat} (h : i < n) : (arr n l).getD i 0 = lkd l (i : Int) := by
  unfold arr
  rw [List.getD_eq_getElem?_getD, List.getElem?_map, List.getElem?_range h]
  rfl
theorem arr_enum (A : List Int) : arr A.length (enum A) = A := by
  refine List.ext_getElem (arr_len _ _) fun i h1 h2 => ?_
  have := arr_at (n := A.length) (l := enum A) (i := i) h2
  rw [List.getD_eq_getElem?_getD, List.getElem?_eq_getElem h1] at this
  rw [lkd_enum i h2] at this
  exact this
theorem arr_less {n : Nat} {l : D} {k v x : Int} (h : (keys l).Nodup) (m : (k, v) ∈ l) (hx : x ≤ v) (h0 : 0 ≤ k) (_hn : k < n) : arr n (lessn l k x) = (arr n l).set k.toNat (v - x) := by
  refine List.ext_getElem (by rw [List.length_set, arr_len, arr_len]) fun i h1 h2 => ?_
  rw [arr_len] at h1
  have e1 := arr_at (n := n) (l := lessn l k x) (i := i) h1
  have e2 := arr_at (n := n) (l := l) (i := i) h1
  rw [List.getD_eq_getElem?_getD, List.getElem?_eq_getElem (by rw [arr_len]; exact h1)] at e1 e2
  simp only [Option.getD_some] at e1 e2
  rw [List.getElem_set, e1, e2, lkd_less h m hx]
  by_cases c : (i : Int) = k
  · rw [if_pos c, if_pos (by omega)]
  · rw [if_neg c, if_neg (by omega)]
theorem arr_nil (n : Nat) : arr n [] = List.replicate n 0 := by
  refine List.ext_getElem (by rw [arr_len, List.length_replicate]) fun i h1 h2 => ?_
  rw [arr_len] at h1
  have e1 := arr_at (n := n) (l := []) (i := i) h1
  rw [List.getD_eq_getElem?_getD, List.getElem?_eq_getElem (by rw [arr_len]; exact h1)] at e1
  simp only [Option.getD_some] at e1
  rw [e1, List.getElem_replicate]
  rfl

/-! ### rows that play over arrays -/
/-- the pair (i, j) can pay -/
def CanPay (A B : List Int) (q : Int × Int) : Prop := 0 ≤ q.1 ∧ q.1 < A.length ∧ 0 ≤ q.2 ∧ q.2 < B.length ∧ 0 < mn (A.getD q.1.toNat 0) (B.getD q.2.toNat 0)
def amt (A B : List Int) (q : Int × Int) : Int := mn (A.getD q.1.toNat 0) (B.getD q.2.toNat 0)
def payA (A B : List Int) (q : Int × Int) : List Int := A.set q.1.toNat (A.getD q.1.toNat 0 - amt A B q)
def payB (A B : List Int) (q : Int × Int) : List Int := B.set q.2.toNat (B.getD q.2.toNat 0 - amt A B q)
inductive Plays : List Int → List Int → List (Int × Int) → List Int → List Int → Prop
  | nil {A B} : Plays A B [] A B
  | cons {A B q w A' B'} : CanPay A B q → Plays (payA A B q) (payB A B q) w A' B' → Plays A B (q :: w) A' B'
theorem plays_snoc {A B w A' B' q} (h : Plays A B w A' B') (c : CanPay A' B' q) : Plays A B (w ++ [q]) (payA A' B' q) (payB A' B' q) := by
  induction h with
  | nil => exact .cons c .nil
  | cons c' _ ih => exact .cons c' (ih c)
theorem mn_comm (i j : Int) : mn i j = mn j i := by unfold mn; split <;> split <;> omega

structure Track (A B : List Int) (R : RS) : Prop where
  g : Good R
  ka : ∀ k ∈ keys R.a, 0 ≤ k ∧ k < A.length
  kb : ∀ k ∈ keys R.b, 0 ≤ k ∧ k < B.length
  pl : Plays A B R.row (arr A.length R.a) (arr B.length R.b)
theorem mem_keys {l : D} {k v : Int} (h : (k, v) ∈ l) : k ∈ keys l := List.mem_map.mpr ⟨_, h, rfl⟩
theorem arr_get {n : Nat} {l : D} (h : (keys l).Nodup) {k v : Int} (m : (k, v) ∈ l) (h0 : 0 ≤ k) (hn : k < n) : (arr n l).getD k.toNat 0 = v := by
  have h1 : k.toNat < n := by omega
  rw [arr_at h1, show ((k.toNat : Nat) : Int) = k by omega, lkd_nd h m]
theorem track_pay {A B : List Int} {R : RS} (T : Track A B R) {s p o u v : Int} (P : Pays R s p o u v) : Track A B (payR R s p o) := by
  have G := T.g
  have G' := pay_good G P
  have hu := P.upos G
  have hv := P.vpos G
  have hrow := pay_row G P
  rcases P.hs with rfl | rfl
  · have mp := P.hp
    have mo := P.ho
    rw [sd0] at mp
    rw [show (1 : Int) - 0 = 1 from rfl, sd1] at mo
    have e1 := pay_s G P
    have e2 := pay_o G P
    rw [sd0, sd0] at e1
    rw [show (1 : Int) - 0 = 1 from rfl, sd1, sd1] at e2
    obtain ⟨p0, p1⟩ := T.ka p (mem_keys mp)
    obtain ⟨o0, o1⟩ := T.kb o (mem_keys mo)
    have ga := arr_get G.a.nd mp p0 p1
    have gb := arr_get G.b.nd mo o0 o1
    refine ⟨G', fun k hk => T.ka k (keys_less _ _ _ k (e1 ▸ hk)), fun k hk => T.kb k (keys_less _ _ _ k (e2 ▸ hk)), ?_⟩
    rw [hrow, if_pos rfl, e1, e2, arr_less G.a.nd mp (mn_le1 u v) p0 p1, arr_less G.b.nd mo (mn_le2 u v) o0 o1]
    have c : CanPay (arr A.length R.a) (arr B.length R.b) (p, o) := ⟨p0, by rw [arr_len]; exact p1, o0, by rw [arr_len]; exact o1, by dsimp only; rw [ga, gb]; exact mn_pos hu hv⟩
    have := plays_snoc T.pl c
    unfold payA payB amt at this
    dsimp only at this
    rw [ga, gb] at this
    exact this
  · have mp := P.hp
    have mo := P.ho
    rw [sd1] at mp
    rw [show (1 : Int) - 1 = 0 from rfl, sd0] at mo
    have e1 := pay_s G P
    have e2 := pay_o G P
    rw [sd1, sd1] at e1
    rw [show (1 : Int) - 1 = 0 from rfl, sd0, sd0] at e2
    obtain ⟨p0, p1⟩ := T.kb p (mem_keys mp)
    obtain ⟨o0, o1⟩ := T.ka o (mem_keys mo)
    have gb := arr_get G.b.nd mp p0 p1
    have ga := arr_get G.a.nd mo o0 o1
    refine ⟨G', fun k hk => T.ka k (keys_less _ _ _ k (e2 ▸ hk)), fun k hk => T.kb k (keys_less _ _ _ k (e1 ▸ hk)), ?_⟩
    rw [hrow, if_neg (by omega), e1, e2, arr_less G.b.nd mp (mn_le1 u v) p0 p1, arr_less G.a.nd mo (mn_le2 u v) o0 o1]
    have c : CanPay (arr A.length R.a) (arr B.length R.b) (o, p) := ⟨o0, by rw [arr_len]; exact o1, p0, by rw [arr_len]; exact p1, by dsimp only; rw [ga, gb]; exact mn_pos hv hu⟩
    have := plays_snoc T.pl c
    unfold payA payB amt at this
    dsimp only at this
    rw [ga, gb, mn_comm v u] at this
    exact this
theorem track_step {A B : List Int} {R : RS} (T : Track A B R) (h : 0 < R.whole) (one : Bool) : Track A B (if one = true then stepP R else stepU R) := by
  split
  · obtain ⟨s, p, o, u, v, P, e⟩ := stepP_pays T.g h
    rw [e]; exact track_pay T P
  · obtain ⟨s, p, o, u, v, P, e⟩ := stepU_pays T.g h
    rw [e]; exact track_pay T P
theorem track_run {A B : List Int} {one : Bool} : ∀ {n : Nat} {R : RS}, Track A B R → Track A B (run one n R)
  | 0, _, T => T
  | n + 1, R, T => by
    show Track A B (if 0 < R.whole then _ else _)
    split
    · rename_i h
      exact track_run (track_step T h one)
    · exact T
theorem track_start {A B : List Int} (hA : ∀ x ∈ A, 0 < x) (hB : ∀ x ∈ B, 0 < x) (hs : A.sum = B.sum) : Track A B (startR A B) := by
  refine ⟨⟨side_enum hA, ?_⟩, enum_range, enum_range, ?_⟩
  · show SideOk (enum B) A.sum
    rw [hs]
    exact side_enum hB
  · show Plays A B [] (arr A.length (enum A)) (arr B.length (enum B))
    rw [arr_enum, arr_enum]
    exact .nil
/-- THE LONG WAY: it plays to nought, and has the lesser of the people less one and the whole as its length -/
theorem longW_spec {A B : List Int} (hA : ∀ x ∈ A, 0 < x) (hB : ∀ x ∈ B, 0 < x) (hs : A.sum = B.sum) (hne : A ≠ []) (hg : ∀ d : Int, 0 < d → (∀ x ∈ A, d ∣ x) → (∀ x ∈ B, d ∣ x) → d = 1) :
    Plays A B (longW A B) (List.replicate A.length 0) (List.replicate B.length 0) ∧ ((longW A B).length : Int) = mn ((A.length : Int) + (B.length : Int) - 1) A.sum := by
  have T := track_start hA hB hs
  have hpos : 0 < (startR A B).whole := sum_pos hA hne
  have hm : many (startR A B) = (A.length : Int) + (B.length : Int) := by
    unfold many startR
    rw [len_enum, len_enum]
  have main : (run (onePiece (startR A B)) A.sum.toNat (startR A B)).whole = 0 ∧ ((longW A B).length : Int) = mn ((A.length : Int) + (B.length : Int) - 1) A.sum := by
    unfold longW
    cases ho : onePiece (startR A B) with
    | true =>
      unfold onePiece at ho
      have ho := of_decide_eq_true ho
      have C : CDiv (startR A B).a (startR A B).b (startR A B).whole := fun d hd h1 h2 => by
        have e := hg d hd (fun x hx => by
          have := all_vals.mpr h1 x (by show x ∈ vals (enum A); rw [vals_enum]; exact hx)
          exact this) fun x hx => by
          have := all_vals.mpr h2 x (by show x ∈ vals (enum B); rw [vals_enum]; exact hx)
          exact this
        subst e
        unfold many at ho
        omega
      obtain ⟨_, h2, h3⟩ := runP (n := A.sum.toNat) T.g C hpos (Nat.le_refl _)
      refine ⟨h2, ?_⟩
      rw [h3, hm]
      rw [hm] at ho
      show ((([] : List (Int × Int)).length : Nat) : Int) + _ - 1 = _
      have ho : (A.length : Int) + (B.length : Int) - 1 ≤ A.sum := ho
      rw [mn_of_le ho]
      simp
    | false =>
      unfold onePiece at ho
      have ho := of_decide_eq_false ho
      obtain ⟨_, h2, h3⟩ := runU (n := A.sum.toNat) T.g (.inl (by omega)) (Nat.le_refl _) (Int.le_of_lt hpos)
      refine ⟨h2, ?_⟩
      rw [h3]
      rw [hm] at ho
      show ((([] : List (Int × Int)).length : Nat) : Int) + A.sum = _
      have ho : ¬ (A.length : Int) + (B.length : Int) - 1 ≤ A.sum := ho
      rw [mn_of_ge (by omega)]
      simp
  refine ⟨?_, main.2⟩
  have T' := track_run (one := onePiece (startR A B)) (n := A.sum.toNat) T
  obtain ⟨z1, z2⟩ := good_zero T'.g main.1
  have := T'.pl
  rw [z1, z2, arr_nil, arr_nil] at this
  exact this

/-! ### times a measure -/
theorem getD_scale (g : Int) (A : List Int) (i : Nat) : (A.map (fun x => g * x)).getD i 0 = g * A.getD i 0 := by
  rw [List.getD_eq_getElem?_getD, List.getD_eq_getElem?_getD, List.getElem?_map]
  cases A[i]? with
  | none => simp
  | some x => rfl
theorem mn_scale {g : Int} (hg : 0 < g) (i j : Int) : mn (g * i) (g * j) = g * mn i j := by
  unfold mn
  have : g * j < g * i ↔ j < i := ⟨fun h => Int.lt_of_mul_lt_mul_left h (Int.le_of_lt hg), fun h => Int.mul_lt_mul_of_pos_left h hg⟩
  by_cases c : j < i
  · rw [if_pos c, if_pos (this.mpr c)]
  · rw [if_neg c, if_neg fun z => c (this.mp z)]
theorem amt_scale {g : Int} (hg : 0 < g) (A B : List Int) (q : Int × Int) : amt (A.map (fun x => g * x)) (B.map (fun x => g * x)) q = g * amt A B q := by
  unfold amt
  rw [getD_scale, getD_scale, mn_scale hg]
theorem plays_scale {g : Int} (hg : 0 < g) {A B w A' B'} (h : Plays A B w A' B') : Plays (A.map fun x => g * x) (B.map fun x => g * x) w (A'.map fun x => g * x) (B'.map fun x => g * x) := by
  induction h with
  | nil => exact .nil
  | @cons A B q w A' B' c _ ih =>
    refine .cons ?_ ?_
    · obtain ⟨c1, c2, c3, c4, c5⟩ := c
      refine ⟨c1, by rw [List.length_map]; exact c2, c3, by rw [List.length_map]; exact c4, ?_⟩
      rw [getD_scale, getD_scale, mn_scale hg]
      exact Int.mul_pos hg c5
    · have e1 : payA (A.map fun x => g * x) (B.map fun x => g * x) q = (payA A B q).map fun x => g * x := by
        unfold payA
        rw [amt_scale hg, getD_scale, ← Int.mul_sub, List.map_set]
      have e2 : payB (A.map fun x => g * x) (B.map fun x => g * x) q = (payB A B q).map fun x => g * x := by
        unfold payB
        rw [amt_scale hg, getD_scale, ← Int.mul_sub, List.map_set]
      rw [e1, e2]
      exact ih
end Qw
/-! QMathG: all ways; their numbers; the bound; permutations. -/
namespace Qw

inductive Ways : List Int → List Int → Nat → Prop
  | done {A B} : A.sum = 0 → Ways A B 0
  | pay {A B q n} : CanPay A B q → Ways (payA A B q) (payB A B q) n → Ways A B (n + 1)

/-! ### places -/
theorem perm_set {A : List Int} {i : Nat} {v : Int} (h : i < A.length) : (A.set i v).Perm (v :: A.eraseIdx i) := by
  rw [List.set_eq_take_append_cons_drop, if_pos h, List.eraseIdx_eq_take_drop_succ]
  exact List.perm_middle
theorem perm_at {A : List Int} {i : Nat} (h : i < A.length) : A.Perm (A.getD i 0 :: A.eraseIdx i) := by
  have e : A.set i (A.getD i 0) = A := by
    rw [List.getD_eq_getElem?_getD, List.getElem?_eq_getElem h]
    exact List.set_getElem_self h
  have := perm_set (v := A.getD i 0) h
  rwa [e] at this
def nz (A : List Int) : Nat := (A.filter fun x => decide (x ≠ 0)).length
theorem nz_perm {A B : List Int} (h : A.Perm B) : nz A = nz B := (h.filter _).length_eq
theorem nz_cons (x : Int) (A : List Int) : nz (x :: A) = (if x = 0 then 0 else 1) + nz A := by
  unfold nz
  rw [List.filter_cons]
  by_cases c : x = 0
  · rw [if_neg (by simp [c]), if_pos c]; omega
  · rw [if_pos (by simp [c]), if_neg c, List.length_cons]; omega
theorem nz_all {A : List Int} (h : ∀ x ∈ A, 0 < x) : nz A = A.length := by
  unfold nz
  rw [List.filter_eq_self.mpr fun x hx => decide_eq_true (by have := h x hx; omega)]
def Nneg (A : List Int) : Prop := ∀ x ∈ A, 0 ≤ x
theorem nneg_perm {A B : List Int} (h : A.Perm B) (n : Nneg A) : Nneg B := fun x hx => n x (h.mem_iff.mpr hx)

/-- the parts of a payment -/
structure Cut (A : List Int) (i : Nat) (u x : Int) : Prop where
  lt : i < A.length
  at_ : A.getD i 0 = u
  xu : x ≤ u
  x0 : 0 < x
theorem cut_a {A B : List Int} {q : Int × Int} (c : CanPay A B q) : Cut A q.1.toNat (A.getD q.1.toNat 0) (amt A B q) := ⟨by have := c.1; have := c.2.1; omega, rfl, mn_le1 _ _, c.2.2.2.2⟩
theorem cut_b {A B : List Int} {q : Int × Int} (c : CanPay A B q) : Cut B q.2.toNat (B.getD q.2.toNat 0) (amt A B q) := ⟨by have := c.2.2.1; have := c.2.2.2.1; omega, rfl, mn_le2 _ _, c.2.2.2.2⟩
section
variable {A : List Int} {i : Nat} {u x : Int}
theorem Cut.p1 (c : Cut A i u x) : A.Perm (u :: A.eraseIdx i) := by
  have := perm_at c.lt
  rwa [c.at_] at this
theorem Cut.p2 (c : Cut A i u x) : (A.set i (u - x)).Perm ((u - x) :: A.eraseIdx i) := perm_set c.lt
theorem Cut.nneg (c : Cut A i u x) (n : Nneg A) : Nneg (A.set i (u - x)) := fun y hy => by
  rcases List.mem_cons.mp (c.p2.mem_iff.mp hy) with e | hy
  · have := c.xu; omega
  · exact n y (c.p1.mem_iff.mpr (List.mem_cons_of_mem _ hy))
theorem Cut.sum (c : Cut A i u x) : (A.set i (u - x)).sum = A.sum - x := by
  rw [sum_perm c.p2, sum_perm c.p1, List.sum_cons, List.sum_cons]
  omega
theorem Cut.nz1 (c : Cut A i u x) : nz A = 1 + nz (A.eraseIdx i) := by
  have := c.x0
  have := c.xu
  rw [nz_perm c.p1, nz_cons, if_neg (by omega)]
theorem Cut.nz2 (c : Cut A i u x) : nz (A.set i (u - x)) = (if u - x = 0 then 0 else 1) + nz (A.eraseIdx i) := by rw [nz_perm c.p2, nz_cons]
theorem Cut.dvd (c : Cut A i u x) {g : Int} (h : ∀ y ∈ A, g ∣ y) (hx : g ∣ x) : ∀ y ∈ A.set i (u - x), g ∣ y := fun y hy => by
  rcases List.mem_cons.mp (c.p2.mem_iff.mp hy) with e | hy
  · rw [e]
    exact Int.dvd_sub (h u (c.p1.mem_iff.mpr List.mem_cons_self)) hx
  · exact h y (c.p1.mem_iff.mpr (List.mem_cons_of_mem _ hy))
end
theorem mn_cases (i j : Int) : mn i j = i ∨ mn i j = j := by unfold mn; split <;> simp
theorem amt_dvd {A B : List Int} {q : Int × Int} (c : CanPay A B q) {g : Int} (hA : ∀ y ∈ A, g ∣ y) (hB : ∀ y ∈ B, g ∣ y) : g ∣ amt A B q := by
  unfold amt
  rcases mn_cases (A.getD q.1.toNat 0) (B.getD q.2.toNat 0) with e | e
  · rw [e]; exact hA _ ((cut_a c).p1.mem_iff.mpr List.mem_cons_self)
  · rw [e]; exact hB _ ((cut_b c).p1.mem_iff.mpr List.mem_cons_self)
/-- one person less or two -/
theorem nz_pay {A B : List Int} {q : Int × Int} (c : CanPay A B q) : nz (payA A B q) + nz (payB A B q) + 1 ≤ nz A + nz B ∧ 2 ≤ nz A + nz B := by
  have a1 := (cut_a c).nz1
  have a2 := (cut_a c).nz2
  have b1 := (cut_b c).nz1
  have b2 := (cut_b c).nz2
  unfold payA payB
  rw [a2, b2]
  have h : A.getD q.1.toNat 0 - amt A B q = 0 ∨ B.getD q.2.toNat 0 - amt A B q = 0 := by
    rcases mn_cases (A.getD q.1.toNat 0) (B.getD q.2.toNat 0) with e | e
    · left; unfold amt; omega
    · right; unfold amt; omega
  rcases h with h | h
  · rw [if_pos h]
    split <;> omega
  · rw [if_pos h]
    split <;> omega

theorem ways_bound {A B : List Int} {n : Nat} (h : Ways A B n) : Nneg A → Nneg B → A.sum = B.sum → (n = 0 ∨ n + 1 ≤ nz A + nz B) ∧ ∀ g : Int, 0 < g → (∀ y ∈ A, g ∣ y) → (∀ y ∈ B, g ∣ y) → g * (n : Int) ≤ A.sum := by
  induction h with
  | done h0 => exact fun _ _ _ => ⟨.inl rfl, fun g _ _ _ => by simp [h0]⟩
  | @pay A B q n c _ ih =>
    intro nA nB hs
    have ca := cut_a c
    have cb := cut_b c
    have sA := ca.sum
    have sB := cb.sum
    obtain ⟨i1, i2⟩ := ih (ca.nneg nA) (cb.nneg nB) (by unfold payA payB; rw [sA, sB, hs])
    obtain ⟨z1, z2⟩ := nz_pay c
    refine ⟨.inr (by omega), fun g hg h1 h2 => ?_⟩
    have hd := amt_dvd c h1 h2
    have h3 := i2 g hg (ca.dvd h1 hd) (cb.dvd h2 hd)
    have h4 := Int.le_of_dvd ca.x0 hd
    have h5 : (payA A B q).sum = A.sum - amt A B q := sA
    rw [Int.natCast_add, Int.mul_add]
    simp only [Int.natCast_one, Int.mul_one]
    omega

/-! ### permutations -/
theorem mn_amt {A B A' B' : List Int} {q q' : Int × Int} (h1 : A'.getD q'.1.toNat 0 = A.getD q.1.toNat 0) (h2 : B'.getD q'.2.toNat 0 = B.getD q.2.toNat 0) : amt A' B' q' = amt A B q := by
  unfold amt
  rw [h1, h2]
/-- the same rest at another place of a permuted list -/
theorem place {A A' : List Int} (h : A.Perm A') {i : Nat} (hi : i < A.length) : ∃ j, j < A'.length ∧ A'.getD j 0 = A.getD i 0 ∧ ∀ v, (A.set i v).Perm (A'.set j v) := by
  have m : A.getD i 0 ∈ A' := h.mem_iff.mp ((perm_at hi).mem_iff.mpr List.mem_cons_self)
  obtain ⟨j, hj, e⟩ := List.getElem_of_mem m
  have e' : A'.getD j 0 = A.getD i 0 := by
    rw [← e, List.getD_eq_getElem?_getD, List.getElem?_eq_getElem hj]
    rfl
  refine ⟨j, hj, e', fun v => ?_⟩
  have p1 := perm_at hi
  have p2 := perm_at hj
  rw [e'] at p2
  have p3 : (A.eraseIdx i).Perm (A'.eraseIdx j) := List.Perm.cons_inv ((p1.symm.trans h).trans p2)
  exact ((perm_set hi).trans (List.Perm.cons v p3)).trans (perm_set hj).symm
theorem ways_perm {A B : List Int} {n : Nat} (h : Ways A B n) : ∀ {A' B' : List Int}, A.Perm A' → B.Perm B' → Ways A' B' n := by
  induction h with
  | done h0 => exact fun pA _ => .done (by rw [← sum_perm pA]; exact h0)
  | @pay A B q n c _ ih =>
    intro A' B' pA pB
    obtain ⟨i, hi, ei, si⟩ := place pA (cut_a c).lt
    obtain ⟨j, hj, ej, sj⟩ := place pB (cut_b c).lt
    have ea : amt A' B' ((i : Int), (j : Int)) = amt A B q := mn_amt (by simpa using ei) (by simpa using ej)
    have c' : CanPay A' B' ((i : Int), (j : Int)) := ⟨Int.natCast_nonneg _, by dsimp only; omega, Int.natCast_nonneg _, by dsimp only; omega, by
      have := c.2.2.2.2
      have e : mn (A'.getD ((i : Int)).toNat 0) (B'.getD ((j : Int)).toNat 0) = amt A B q := ea
      dsimp only
      rw [e]
      exact this⟩
    refine .pay c' ?_
    have e1 : payA A' B' ((i : Int), (j : Int)) = A'.set i (A.getD q.1.toNat 0 - amt A B q) := by
      unfold payA
      rw [ea]
      show A'.set ((i : Int)).toNat (A'.getD ((i : Int)).toNat 0 - amt A B q) = _
      rw [Int.toNat_natCast, ei]
    have e2 : payB A' B' ((i : Int), (j : Int)) = B'.set j (B.getD q.2.toNat 0 - amt A B q) := by
      unfold payB
      rw [ea]
      show B'.set ((j : Int)).toNat (B'.getD ((j : Int)).toNat 0 - amt A B q) = _
      rw [Int.toNat_natCast, ej]
    rw [e1, e2]
    exact ih (si _) (sj _)
theorem plays_ways {A B w A' B'} (h : Plays A B w A' B') (h0 : A'.sum = 0) : Ways A B w.length := by
  induction h with
  | nil => exact .done h0
  | cons c _ ih => exact .pay c (ih h0)

/-! ### the numbers -/
/-- the ascending list of the numbers of payments of all ways -/
structure IsNums (A B : List Int) (ns : List Int) : Prop where
  asc : ns.Pairwise (· < ·)
  mem : ∀ x : Int, x ∈ ns ↔ ∃ n : Nat, x = (n : Int) ∧ Ways A B n
theorem IsNums.perm {A B A' B' ns : List Int} (h : IsNums A B ns) (pA : A.Perm A') (pB : B.Perm B') : IsNums A' B' ns := ⟨h.asc, fun x => (h.mem x).trans ⟨fun ⟨n, e, w⟩ => ⟨n, e, ways_perm w pA pB⟩, fun ⟨n, e, w⟩ => ⟨n, e, ways_perm w pA.symm pB.symm⟩⟩⟩
theorem getLast_max : ∀ {ns : List Int} (h : ns ≠ []), ns.Pairwise (· < ·) → ∀ x ∈ ns, x ≤ ns.getLast h
  | [a], _, _, x, hx => by
    have := List.mem_singleton.mp hx
    subst this
    exact Int.le_refl _
  | a :: b :: t, _, hp, x, hx => by
    rw [List.getLast_cons (List.cons_ne_nil b t)]
    rw [List.pairwise_cons] at hp
    have ih := getLast_max (List.cons_ne_nil b t) hp.2
    rcases List.mem_cons.mp hx with rfl | hx
    · have h1 := hp.1 b List.mem_cons_self
      have h2 := ih b List.mem_cons_self
      omega
    · exact ih x hx

/-! ### THE GREATEST NUMBER -/
def divs (g : Int) (A : List Int) : List Int := A.map fun x => x / g
theorem mul_divs {g : Int} {A : List Int} (h : ∀ x ∈ A, g ∣ x) : (divs g A).map (fun x => g * x) = A := by
  unfold divs
  rw [List.map_map]
  have : ∀ x ∈ A, ((fun x => g * x) ∘ fun x => x / g) x = id x := fun x hx => Int.mul_ediv_cancel' (h x hx)
  rw [List.map_congr_left this, List.map_id]
theorem sum_scale (g : Int) : ∀ A : List Int, (A.map fun x => g * x).sum = g * A.sum
  | [] => by simp
  | a :: A => by rw [List.map_cons, List.sum_cons, List.sum_cons, sum_scale g A, Int.mul_add]
theorem divs_pos {g : Int} (hg : 0 < g) {A : List Int} (h : ∀ x ∈ A, g ∣ x) (hA : ∀ x ∈ A, 0 < x) : ∀ x ∈ divs g A, 0 < x := fun x hx => by
  obtain ⟨y, hy, rfl⟩ := List.mem_map.mp hx
  exact Int.ediv_pos_of_pos_of_dvd (hA y hy) (Int.le_of_lt hg) (h y hy)
/-- a measure: the greatest common divisor of all -/
structure IsGcd (g : Int) (A B : List Int) : Prop where
  pos : 0 < g
  a : ∀ x ∈ A, g ∣ x
  b : ∀ x ∈ B, g ∣ x
  most : ∀ d : Int, (∀ x ∈ A, d ∣ x) → (∀ x ∈ B, d ∣ x) → d ∣ g
def longG (g : Int) (A B : List Int) : List (Int × Int) := longW (divs g A) (divs g B)
def greatestG (g : Int) (A B : List Int) : Int := mn ((A.length : Int) + (B.length : Int) - 1) (A.sum / g)
section
variable {A B : List Int} {g : Int}
theorem divs_sum (hg : 0 < g) (h : ∀ x ∈ A, g ∣ x) : (divs g A).sum = A.sum / g := by
  have e := sum_scale g (divs g A)
  rw [mul_divs h] at e
  rw [e, Int.mul_ediv_cancel_left _ (by omega)]
theorem longG_spec (hA : ∀ x ∈ A, 0 < x) (hB : ∀ x ∈ B, 0 < x) (hs : A.sum = B.sum) (hne : A ≠ []) (G : IsGcd g A B) :
    Plays A B (longG g A B) (List.replicate A.length 0) (List.replicate B.length 0) ∧ ((longG g A B).length : Int) = greatestG g A B := by
  have hd : ∀ d : Int, 0 < d → (∀ x ∈ divs g A, d ∣ x) → (∀ x ∈ divs g B, d ∣ x) → d = 1 := fun d hd h1 h2 => by
    have : g * d ∣ g := G.most (g * d) (fun x hx => by
      have := Int.mul_dvd_mul (Int.dvd_refl g) (h1 (x / g) (List.mem_map.mpr ⟨x, hx, rfl⟩))
      rwa [Int.mul_ediv_cancel' (G.a x hx)] at this) fun x hx => by
      have := Int.mul_dvd_mul (Int.dvd_refl g) (h2 (x / g) (List.mem_map.mpr ⟨x, hx, rfl⟩))
      rwa [Int.mul_ediv_cancel' (G.b x hx)] at this
    have h3 := Int.le_of_dvd G.pos this
    have h4 : g * d ≤ g * 1 := by omega
    have := Int.le_of_mul_le_mul_left h4 G.pos
    omega
  have hs' : (divs g A).sum = (divs g B).sum := by rw [divs_sum G.pos G.a, divs_sum G.pos G.b, hs]
  obtain ⟨h1, h2⟩ := longW_spec (divs_pos G.pos G.a hA) (divs_pos G.pos G.b hB) hs' (by
    intro z
    exact hne (List.map_eq_nil_iff.mp z)) hd
  have h3 := plays_scale G.pos h1
  rw [mul_divs G.a, mul_divs G.b, List.map_replicate, List.map_replicate, Int.mul_zero] at h3
  have la : (divs g A).length = A.length := by unfold divs; rw [List.length_map]
  have lb : (divs g B).length = B.length := by unfold divs; rw [List.length_map]
  rw [la, lb] at h3
  refine ⟨h3, ?_⟩
  rw [la, lb, divs_sum G.pos G.a] at h2
  exact h2
theorem sum_replicate0 : ∀ n : Nat, (List.replicate n (0 : Int)).sum = 0
  | 0 => rfl
  | n + 1 => by rw [List.replicate_succ, List.sum_cons, sum_replicate0 n]; rfl
theorem greatest_last (hA : ∀ x ∈ A, 0 < x) (hB : ∀ x ∈ B, 0 < x) (hs : A.sum = B.sum) (hne : A ≠ []) (G : IsGcd g A B) {ns : List Int} (N : IsNums A B ns) :
    ∃ h : ns ≠ [], ns.getLast h = greatestG g A B := by
  obtain ⟨h1, h2⟩ := longG_spec hA hB hs hne G
  have w := plays_ways h1 (sum_replicate0 _)
  have m : greatestG g A B ∈ ns := (N.mem _).mpr ⟨_, h2.symm, w⟩
  have hn : ns ≠ [] := List.ne_nil_of_mem m
  refine ⟨hn, ?_⟩
  have u1 := getLast_max hn N.asc _ m
  obtain ⟨n, e, wn⟩ := (N.mem _).mp (List.getLast_mem hn)
  obtain ⟨b1, b2⟩ := ways_bound wn (fun x hx => Int.le_of_lt (hA x hx)) (fun x hx => Int.le_of_lt (hB x hx)) hs
  have b3 := b2 g G.pos G.a G.b
  rw [nz_all hA, nz_all hB] at b1
  have lpos : 0 < A.length := List.length_pos_iff.mpr hne
  have lb : 0 < B.length := by
    rcases Nat.eq_zero_or_pos B.length with z | z
    · have := List.eq_nil_of_length_eq_zero z
      subst this
      have := sum_pos hA hne
      rw [hs] at this
      simp at this
    · exact z
  have b4 : (n : Int) ≤ A.sum / g := by
    rw [Int.le_ediv_iff_mul_le G.pos, Int.mul_comm]
    exact b3
  rw [e] at u1 ⊢
  have b5 : (n : Int) ≤ greatestG g A B := by
    unfold greatestG mn
    split <;> omega
  omega
end
end Qw
/-! QMathH: fractions in lowest terms; those of whole numbers times a unit p/q. -/
namespace Qw

def gz (a b : Int) : Int := (Int.gcd a b : Int)
def mk (t b : Int) : Int × Int := (t / gz t b, b / gz t b)
theorem gz_dvd1 (a b : Int) : gz a b ∣ a := Int.gcd_dvd_left ..
theorem gz_dvd2 (a b : Int) : gz a b ∣ b := Int.gcd_dvd_right ..
theorem gz_nonneg (a b : Int) : 0 ≤ gz a b := Int.natCast_nonneg _
theorem gz_pos {a b : Int} (h : 0 < b) : 0 < gz a b := by
  unfold gz
  have h1 : Int.gcd a b ≠ 0 := fun e => by
    have := (Int.gcd_eq_zero_iff.mp e).2
    omega
  omega
theorem gz_le {a b : Int} (h : 0 < b) : gz a b ≤ b := Int.le_of_dvd h (gz_dvd2 a b)
theorem gz_mul (a b : Int) {k : Int} (h : 0 ≤ k) : gz (a * k) (b * k) = gz a b * k := by
  unfold gz
  rw [Int.gcd_mul_right, Int.natCast_mul, Int.natAbs_of_nonneg h]
theorem mk_scale {t b k : Int} (hk : 0 < k) : mk (t * k) (b * k) = mk t b := by
  unfold mk
  rw [gz_mul t b (Int.le_of_lt hk), Int.mul_ediv_mul_of_pos_left _ _ hk, Int.mul_ediv_mul_of_pos_left _ _ hk]
theorem mk_eq {t b t' b' : Int} (hb : 0 < b) (hb' : 0 < b') (h : t * b' = t' * b) : mk t b = mk t' b' := by
  rw [← mk_scale (t := t) (b := b) hb', ← mk_scale (t := t') (b := b') hb, h, Int.mul_comm b b']
theorem mk_cross {t b : Int} : (mk t b).1 * b = t * (mk t b).2 := by
  show t / gz t b * b = t * (b / gz t b)
  rw [← Int.mul_ediv_assoc t (gz_dvd2 t b), Int.mul_comm (t / gz t b) b, ← Int.mul_ediv_assoc b (gz_dvd1 t b), Int.mul_comm b t]
theorem mk_pos {t b : Int} (h : 0 < b) : 0 < (mk t b).2 := Int.ediv_pos_of_pos_of_dvd h (gz_nonneg t b) (gz_dvd2 t b)
theorem mk_le {t b : Int} (h : 0 < b) : (mk t b).2 ≤ b := Int.ediv_le_self _ (Int.le_of_lt h)
theorem mk_gcd {t b : Int} (h : 0 < b) : gz (mk t b).1 (mk t b).2 = 1 := by
  unfold gz mk gz
  have hp : 0 < Int.gcd t b := by
    have := gz_pos (a := t) h
    unfold gz at this
    omega
  rw [Int.gcd_ediv_gcd_ediv_gcd hp]
  rfl
theorem mk_one (k : Int) : mk k 1 = (k, 1) := by
  unfold mk gz
  rw [Int.gcd_one]
  simp
theorem mk_top_nonneg {t b : Int} (h : 0 ≤ t) : 0 ≤ (mk t b).1 := Int.ediv_nonneg h (gz_nonneg _ _)
theorem mk_top_le {t b : Int} (h : 0 ≤ t) : (mk t b).1 ≤ t := Int.ediv_le_self _ h

/-- a unit p/q -/
structure Unit' (p q : Int) : Prop where
  p0 : 0 < p
  q0 : 0 < q
  p1 : p ≤ 10
  q1 : q ≤ 9
def can (p q n : Int) : Int × Int := mk (n * p) q
section
variable {p q : Int}
theorem can_of (U : Unit' p q) {x y n : Int} (hy : 0 < y) (h : x * q = n * p * y) : mk x y = can p q n := mk_eq hy U.q0 h
theorem can_cross (n : Int) : (can p q n).1 * q = n * p * (can p q n).2 := mk_cross
theorem can_pos (U : Unit' p q) (n : Int) : 0 < (can p q n).2 := mk_pos U.q0
theorem can_le (U : Unit' p q) (n : Int) : (can p q n).2 ≤ 9 := Int.le_trans (mk_le U.q0) U.q1
theorem can_gcd (U : Unit' p q) (n : Int) : gz (can p q n).1 (can p q n).2 = 1 := mk_gcd U.q0
theorem can_zero (U : Unit' p q) : can p q 0 = (0, 1) := by
  have e : mk 0 1 = can p q 0 := can_of U (by omega) (by simp)
  rw [← e, mk_one]
theorem can_top_nonneg (U : Unit' p q) {n : Int} (h : 0 ≤ n) : 0 ≤ (can p q n).1 := mk_top_nonneg (Int.mul_nonneg h (Int.le_of_lt U.p0))
theorem can_top_le (U : Unit' p q) {n : Int} (h : 0 ≤ n) : (can p q n).1 ≤ n * 10 := by
  have h1 : (can p q n).1 ≤ n * p := mk_top_le (Int.mul_nonneg h (Int.le_of_lt U.p0))
  have h2 : n * p ≤ n * 10 := Int.mul_le_mul_of_nonneg_left U.p1 h
  omega
theorem can_top_pos (U : Unit' p q) {n : Int} (h : 0 < n) : 0 < (can p q n).1 := by
  have h1 := can_cross (p := p) (q := q) n
  have h2 : 0 < n * p * (can p q n).2 := Int.mul_pos (Int.mul_pos h U.p0) (can_pos U n)
  rw [← h1] at h2
  exact Int.pos_of_mul_pos_left h2 U.q0
theorem can_inj (U : Unit' p q) {a b : Int} (h : can p q a = can p q b) : a = b := by
  have h1 := can_cross (p := p) (q := q) a
  have h2 := can_cross (p := p) (q := q) b
  rw [h] at h1
  have h3 : (p * (can p q b).2) * a = (p * (can p q b).2) * b := by grind
  exact Int.eq_of_mul_eq_mul_left (Int.ne_of_gt (Int.mul_pos U.p0 (can_pos U b))) h3
theorem can_is_zero (U : Unit' p q) {a : Int} : can p q a = (0, 1) ↔ a = 0 := by
  rw [← can_zero U]
  exact ⟨can_inj U, fun h => by rw [h]⟩
theorem can_plus (U : Unit' p q) (a b : Int) : mk ((can p q a).1 * (can p q b).2 + (can p q b).1 * (can p q a).2) ((can p q a).2 * (can p q b).2) = can p q (a + b) := by
  have h1 := can_cross (p := p) (q := q) a
  have h2 := can_cross (p := p) (q := q) b
  exact can_of U (Int.mul_pos (can_pos U a) (can_pos U b)) (by grind)
theorem can_minus (U : Unit' p q) (a b : Int) : mk ((can p q a).1 * (can p q b).2 - (can p q b).1 * (can p q a).2) ((can p q a).2 * (can p q b).2) = can p q (a - b) := by
  have h1 := can_cross (p := p) (q := q) a
  have h2 := can_cross (p := p) (q := q) b
  exact can_of U (Int.mul_pos (can_pos U a) (can_pos U b)) (by grind)
theorem can_over (U : Unit' p q) {a g : Int} (hg : 0 < g) (h : g ∣ a) : mk ((can p q a).1 * (can p q g).2) ((can p q a).2 * (can p q g).1) = (a / g, 1) := by
  have h1 := can_cross (p := p) (q := q) a
  have h2 := can_cross (p := p) (q := q) g
  rw [← mk_one]
  refine mk_eq (Int.mul_pos (can_pos U a) (can_top_pos U hg)) (by omega) ?_
  obtain ⟨k, rfl⟩ := h
  rw [Int.mul_ediv_cancel_left _ (by omega)]
  have h3 : q * ((can p q (g * k)).1 * (can p q g).2 * 1) = q * (k * ((can p q (g * k)).2 * (can p q g).1)) := by grind
  exact Int.eq_of_mul_eq_mul_left (Int.ne_of_gt U.q0) h3
theorem can_less (U : Unit' p q) (a b : Int) : (can p q a).1 * (can p q b).2 < (can p q b).1 * (can p q a).2 ↔ a < b := by
  have h1 := can_cross (p := p) (q := q) a
  have h2 := can_cross (p := p) (q := q) b
  have hpos : 0 < p * ((can p q a).2 * (can p q b).2) := Int.mul_pos U.p0 (Int.mul_pos (can_pos U a) (can_pos U b))
  have e1 : q * ((can p q a).1 * (can p q b).2) = p * ((can p q a).2 * (can p q b).2) * a := by grind
  have e2 : q * ((can p q b).1 * (can p q a).2) = p * ((can p q a).2 * (can p q b).2) * b := by grind
  constructor
  · intro h
    have := Int.mul_lt_mul_of_pos_left h U.q0
    rw [e1, e2] at this
    exact Int.lt_of_mul_lt_mul_left this (Int.le_of_lt hpos)
  · intro h
    have := Int.mul_lt_mul_of_pos_left h hpos
    rw [← e1, ← e2] at this
    exact Int.lt_of_mul_lt_mul_left this (Int.le_of_lt U.q0)
theorem gz_scale (a b : Int) {k : Int} (h : 0 ≤ k) : gz (k * a) (k * b) = k * gz a b := by
  rw [Int.mul_comm k a, Int.mul_comm k b, gz_mul a b h, Int.mul_comm]
theorem can_measure (U : Unit' p q) (g n : Int) : mk (gz ((can p q g).1 * (can p q n).2) ((can p q n).1 * (can p q g).2)) ((can p q g).2 * (can p q n).2) = can p q (gz g n) := by
  have h1 := can_cross (p := p) (q := q) g
  have h2 := can_cross (p := p) (q := q) n
  have hpos : 0 ≤ p * ((can p q g).2 * (can p q n).2) := Int.le_of_lt (Int.mul_pos U.p0 (Int.mul_pos (can_pos U g) (can_pos U n)))
  refine can_of U (Int.mul_pos (can_pos U g) (can_pos U n)) ?_
  rw [Int.mul_comm (gz _ _) q, ← gz_scale _ _ (Int.le_of_lt U.q0)]
  have e1 : q * ((can p q g).1 * (can p q n).2) = p * ((can p q g).2 * (can p q n).2) * g := by grind
  have e2 : q * ((can p q n).1 * (can p q g).2) = p * ((can p q g).2 * (can p q n).2) * n := by grind
  rw [e1, e2, gz_scale _ _ hpos]
  grind
end

/-! ### the divisor of a list -/
def gcdL (x : Int) (l : List Int) : Int := l.foldl gz x
theorem gz_comm (a b : Int) : gz a b = gz b a := by unfold gz; rw [Int.gcd_comm]
theorem gcdL_spec : ∀ (l : List Int) (x : Int), 0 < x → 0 < gcdL x l ∧ gcdL x l ∣ x ∧ (∀ y ∈ l, gcdL x l ∣ y) ∧ ∀ d, d ∣ x → (∀ y ∈ l, d ∣ y) → d ∣ gcdL x l
  | [], x, hx => ⟨hx, Int.dvd_refl _, fun _ hy => (List.not_mem_nil hy).elim, fun _ h _ => h⟩
  | z :: l, x, hx => by
    have hg : 0 < gz x z := gcd_pos' hx
    obtain ⟨h1, h2, h3, h4⟩ := gcdL_spec l (gz x z) hg
    have e : gcdL x (z :: l) = gcdL (gz x z) l := rfl
    rw [e]
    refine ⟨h1, Int.dvd_trans h2 (gz_dvd1 x z), fun y hy => ?_, fun d hd hy => ?_⟩
    · rcases List.mem_cons.mp hy with rfl | hy
      · exact Int.dvd_trans h2 (gz_dvd2 x y)
      · exact h3 y hy
    · exact h4 d (dvd_gcd' hd (hy z List.mem_cons_self)) fun y h => hy y (List.mem_cons_of_mem _ h)
/-- the measure of all -/
def measureL (A B : List Int) : Int := match A ++ B with
  | [] => 0
  | x :: l => gcdL x l
theorem measureL_gcd {A B : List Int} (hA : ∀ x ∈ A, 0 < x) (hB : ∀ x ∈ B, 0 < x) (hne : A ≠ []) : IsGcd (measureL A B) A B := by
  cases A with
  | nil => exact absurd rfl hne
  | cons x A =>
    have e : measureL (x :: A) B = gcdL x (A ++ B) := rfl
    rw [e]
    obtain ⟨h1, h2, h3, h4⟩ := gcdL_spec (A ++ B) x (hA x List.mem_cons_self)
    refine ⟨h1, fun y hy => ?_, fun y hy => h3 y (List.mem_append_right _ hy), fun d ha hb => h4 d (ha x List.mem_cons_self) fun y hy => ?_⟩
    · rcases List.mem_cons.mp hy with rfl | hy
      · exact h2
      · exact h3 y (List.mem_append_left _ hy)
    · rcases List.mem_append.mp hy with hy | hy
      · exact ha y (List.mem_cons_of_mem _ hy)
      · exact hb y hy
/-- the law's own: from 0, the other way round -/
theorem gcd_from0 {x : Int} (l : List Int) (hx : 0 < x) : (x :: l).foldl (fun d n => gz n d) 0 = gcdL x l := by
  rw [List.foldl_cons]
  have e : gz x 0 = x := by
    unfold gz
    rw [Int.gcd_zero]
    omega
  rw [e]
  unfold gcdL
  congr 1
  funext d n
  exact gz_comm n d
end Qw
set_option linter.all false
/-! QMathI: the numbers of all ways, led by a table. -/
namespace Qw
theorem nodup_len' : ∀ {xs : List Int}, xs.Nodup → ∀ bs : List Int, (∀ x ∈ xs, x ∈ bs) → xs.length ≤ bs.length
  | [], _, _, _ => Nat.zero_le _
  | x :: xs, h, bs, hb => by
    rw [List.nodup_cons] at h
    have hx := hb x List.mem_cons_self
    have ih := nodup_len' h.2 (bs.erase x) fun y hy => (List.mem_erase_of_ne (fun z : y = x => h.1 (by rw [← z]; exact hy))).mpr (hb y (List.mem_cons_of_mem _ hy))
    rw [List.length_erase_of_mem hx] at ih
    have := List.length_pos_of_mem hx
    rw [List.length_cons]
    omega
/-- 0, 1, .. 8 -/
def upto8 : List Int := [0, 1, 2, 3, 4, 5, 6, 7, 8]
theorem mem_upto8 {n : Nat} (h : n ≤ 8) : (n : Int) ∈ upto8 := by
  have : n = 0 ∨ n = 1 ∨ n = 2 ∨ n = 3 ∨ n = 4 ∨ n = 5 ∨ n = 6 ∨ n = 7 ∨ n = 8 := by omega
  rcases this with rfl | rfl | rfl | rfl | rfl | rfl | rfl | rfl | rfl <;> decide
theorem set_cut {A : List Int} {i : Nat} (h : i < A.length) (v : Int) : A.take i ++ [v] ++ A.drop (i + 1) = A.set i v := by
  rw [List.set_eq_take_append_cons_drop, if_pos h, List.append_assoc]
  rfl
theorem nz_app (A B : List Int) : nz (A ++ B) = nz A + nz B := by
  unfold nz
  rw [List.filter_append, List.length_append]
theorem nz_take {A : List Int} {i : Nat} (h : i < A.length) : nz (A.take (i + 1)) = nz (A.take i) + (if A.getD i 0 = 0 then 0 else 1) := by
  have e : A.take (i + 1) = A.take i ++ [A.getD i 0] := by
    rw [List.take_add_one, List.getD_eq_getElem?_getD, List.getElem?_eq_getElem h]
    rfl
  rw [e, nz_app, nz_cons]
  show _ + (_ + 0) = _
  omega
theorem nz_zero {A : List Int} (h : Nneg A) (h0 : A.sum = 0) : nz A = 0 := by
  unfold nz
  rw [List.length_eq_zero_iff, List.filter_eq_nil_iff]
  intro x hx
  have h1 := h x hx
  have h2 := mem_le_sum h hx
  rw [h0] at h2
  simp
  omega
theorem sum_zero_nz {A : List Int} (h : nz A = 0) : A.sum = 0 := by
  unfold nz at h
  rw [List.length_eq_zero_iff, List.filter_eq_nil_iff] at h
  rw [sum_eq (c := 0) fun x hx => by have := h x hx; simpa using this]
  simp
/-- i is the first place of its rest -/
def First (A : List Int) (i : Nat) : Prop := A.getD i 0 ∉ A.take i
theorem first_of : ∀ {A : List Int} {x : Int}, x ∈ A → ∃ i, i < A.length ∧ A.getD i 0 = x ∧ First A i
  | a :: A, x, h => by
    by_cases e : a = x
    · exact ⟨0, Nat.zero_lt_succ _, e, fun z => by cases z⟩
    · have hx : x ∈ A := by
        rcases List.mem_cons.mp h with z | z
        · exact absurd z.symm e
        · exact z
      obtain ⟨i, h1, h2, h3⟩ := first_of hx
      refine ⟨i + 1, Nat.succ_lt_succ h1, h2, fun z => ?_⟩
      have z : A.getD i 0 ∈ a :: A.take i := z
      rcases List.mem_cons.mp z with z | z
      · exact e (by rw [← z, h2])
      · exact h3 z
theorem getD_mem {A : List Int} {i : Nat} (h : i < A.length) : A.getD i 0 ∈ A := by
  rw [List.getD_eq_getElem?_getD, List.getElem?_eq_getElem h]
  exact List.getElem_mem h
theorem set_perm {A : List Int} {i j : Nat} (hi : i < A.length) (hj : j < A.length) (e : A.getD j 0 = A.getD i 0) (v : Int) : (A.set i v).Perm (A.set j v) := by
  have h1 := perm_at hi
  have h2 := perm_at hj
  rw [e] at h2
  have h3 : (A.eraseIdx i).Perm (A.eraseIdx j) := (h1.symm.trans h2).cons_inv
  exact (perm_set hi).trans ((h3.cons v).trans (perm_set hj).symm)
/-- any payment is as the one of the first places -/
theorem first_pay {A B : List Int} {q : Int × Int} (c : CanPay A B q) : ∃ i j : Nat, CanPay A B ((i : Int), (j : Int)) ∧ First A i ∧ First B j ∧ ∀ n, Ways (payA A B q) (payB A B q) n → Ways (payA A B ((i : Int), (j : Int))) (payB A B ((i : Int), (j : Int))) n := by
  obtain ⟨c1, c2, c3, c4, c5⟩ := c
  have hi : q.1.toNat < A.length := by omega
  have hj : q.2.toNat < B.length := by omega
  obtain ⟨i, i1, i2, i3⟩ := first_of (getD_mem hi)
  obtain ⟨j, j1, j2, j3⟩ := first_of (getD_mem hj)
  have ea : amt A B ((i : Int), (j : Int)) = amt A B q := mn_amt (by simpa using i2) (by simpa using j2)
  refine ⟨i, j, ⟨by omega, by omega, by omega, by omega, ?_⟩, i3, j3, fun n w => ways_perm w ?_ ?_⟩
  · have : 0 < amt A B q := c5
    rw [← ea] at this
    exact this
  · unfold payA
    rw [ea]
    show (A.set q.1.toNat _).Perm (A.set (Int.toNat (i : Int)) (A.getD (Int.toNat (i : Int)) 0 - _))
    rw [Int.toNat_natCast, i2]
    exact set_perm hi i1 i2 _
  · unfold payB
    rw [ea]
    show (B.set q.2.toNat _).Perm (B.set (Int.toNat (j : Int)) (B.getD (Int.toNat (j : Int)) 0 - _))
    rw [Int.toNat_natCast, j2]
    exact set_perm hj j1 j2 _
/-- all is nought: no payment -/
theorem nums_zero {A B : List Int} (hA : Nneg A) (hB : Nneg B) (hs : A.sum = B.sum) (h0 : A.sum = 0) : IsNums A B [0] := by
  refine ⟨List.pairwise_singleton _ _, fun x => ⟨fun hx => ⟨0, List.mem_singleton.mp hx, .done h0⟩, ?_⟩⟩
  rintro ⟨n, rfl, w⟩
  have z1 := nz_zero hA h0
  rcases (ways_bound w hA hB hs).1 with e | e
  · rw [e]
    exact List.mem_singleton.mpr rfl
  · have z2 := nz_zero hB (by rw [← hs]; exact h0)
    omega
theorem pay_nneg {A B : List Int} {q : Int × Int} (c : CanPay A B q) (hA : Nneg A) (hB : Nneg B) : Nneg (payA A B q) ∧ Nneg (payB A B q) := ⟨(cut_a c).nneg hA, (cut_b c).nneg hB⟩
theorem pay_sum {A B : List Int} {q : Int × Int} (c : CanPay A B q) (h : A.sum = B.sum) : (payA A B q).sum = (payB A B q).sum := by
  show (A.set q.1.toNat (A.getD q.1.toNat 0 - amt A B q)).sum = (B.set q.2.toNat (B.getD q.2.toNat 0 - amt A B q)).sum
  rw [(cut_a c).sum, (cut_b c).sum, h]
theorem nums_small {A B ns : List Int} (N : IsNums A B ns) (hA : Nneg A) (hB : Nneg B) (hs : A.sum = B.sum) (h8 : nz A + nz B ≤ 8) : (∀ x ∈ ns, x ∈ upto8) ∧ ns.length ≤ 9 := by
  have m : ∀ x ∈ ns, x ∈ upto8 := fun x hx => by
    obtain ⟨n, rfl, w⟩ := (N.mem x).mp hx
    refine mem_upto8 ?_
    rcases (ways_bound w hA hB hs).1 with e | e <;> omega
  have nd : ns.Nodup := N.asc.imp fun h => Int.ne_of_lt h
  exact ⟨m, nodup_len' nd upto8 m⟩
/-- the memo's bound -/
def cap : Nat → Nat
  | 0 => 0
  | n + 1 => 1 + ((n + 1) * (n + 1) / 4) * cap n
theorem cap8 : cap 8 = 219665 := by decide
theorem cap_mono {a b : Nat} (h : a ≤ b) (hb : b ≤ 8) : cap a ≤ cap b := by
  have : ∀ x y : Fin 9, x ≤ y → cap x.1 ≤ cap y.1 := by decide
  exact this ⟨a, by omega⟩ ⟨b, by omega⟩ h
theorem mul_le_quarter (a b n : Nat) (h : a + b ≤ n) : a * b ≤ n * n / 4 := by
  rw [Nat.le_div_iff_mul_le (by decide)]
  have h1 : (a + b) * (a + b) ≤ n * n := Nat.mul_le_mul h h
  have h2 : a * b * 4 ≤ (a + b) * (a + b) := by
    rcases Nat.le_total a b with c | c
    · obtain ⟨d, rfl⟩ := Nat.exists_eq_add_of_le c
      have : (a + (a + d)) * (a + (a + d)) = a * (a + d) * 4 + d * d := by
        simp only [Nat.mul_add, Nat.add_mul, Nat.mul_comm d a]
        omega
      omega
    · obtain ⟨d, rfl⟩ := Nat.exists_eq_add_of_le c
      have : ((b + d) + b) * ((b + d) + b) = (b + d) * b * 4 + d * d := by
        simp only [Nat.mul_add, Nat.add_mul, Nat.mul_comm d b]
        omega
      omega
  omega
/-- what the double loop has found, sorted, is the numbers -/
theorem nums_of {A B F ns : List Int} (h0 : A.sum ≠ 0) (asc : ns.Pairwise (· < ·)) (mem : ∀ x, x ∈ ns ↔ x ∈ F) (so : ∀ x ∈ F, ∃ n : Nat, x = (n : Int) + 1 ∧ Ways A B (n + 1))
    (co : ∀ i j : Nat, i < A.length → j < B.length → CanPay A B ((i : Int), (j : Int)) → First A i → First B j → ∀ n, Ways (payA A B ((i : Int), (j : Int))) (payB A B ((i : Int), (j : Int))) n → (n : Int) + 1 ∈ F) : IsNums A B ns := by
  refine ⟨asc, fun x => (mem x).trans ⟨fun hx => ?_, ?_⟩⟩
  · obtain ⟨n, e, w⟩ := so x hx
    exact ⟨n + 1, by rw [e]; rfl, w⟩
  · rintro ⟨n, rfl, w⟩
    cases w with
    | done h => exact absurd h h0
    | pay c w =>
      obtain ⟨i, j, c', fi, fj, f⟩ := first_pay c
      have c1 := c'.2.1
      have c2 := c'.2.2.2.1
      exact co i j (by omega) (by omega) c' fi fj _ (f _ w)
end Qw
set_option Elab.async false
set_option maxRecDepth 100000
set_option linter.all false
/-! QText: the text by places (printed by gentext.py). -/
namespace Qw
open PySem L2
def top (i : Nat) : Stmt := PySem.Challenge.pw_quitsways_k30_whole_greatest_and_long_wa.main.body.getD i (.Pass ⟨0, 0, 0, 0⟩)
abbrev s_is_integer : Stmt := top 5
abbrev s_is_within : Stmt := top 6
abbrev s_is_pair : Stmt := top 7
abbrev s_common_divisor : Stmt := top 10
abbrev s_made : Stmt := top 11
abbrev s_plus : Stmt := top 12
abbrev s_minus : Stmt := top 13
abbrev s_over : Stmt := top 14
abbrev s_is_less : Stmt := top 15
abbrev s_least_of : Stmt := top 16
abbrev s_total_of : Stmt := top 17
abbrev s_measure_of : Stmt := top 18
abbrev s_is_fraction : Stmt := top 19
abbrev s_is_amount : Stmt := top 20
abbrev s_are_sums : Stmt := top 23
abbrev s_evening_init : Stmt := inClass (top 24) 0
abbrev s_all_sums : Stmt := top 25
abbrev s_people : Stmt := top 26
abbrev s_units_of : Stmt := top 28
abbrev s_rests_init : Stmt := inClass (top 32) 0
abbrev s_many : Stmt := inClass (top 32) 1
abbrev s_least : Stmt := inClass (top 32) 2
abbrev s_lessen : Stmt := inClass (top 32) 3
abbrev s_pay : Stmt := inClass (top 32) 4
abbrev s_divisor_behind : Stmt := inClass (top 32) 5
abbrev s_leaves_enough : Stmt := inClass (top 32) 6
abbrev s_step_of_one_piece : Stmt := top 33
abbrev s_step_of_one_unit : Stmt := top 34
abbrev s_long_of : Stmt := top 35
abbrev s_greatest_of : Stmt := top 36
abbrev s_are_people : Stmt := top 38
abbrev s_state_init : Stmt := inClass (top 39) 0
abbrev s_amount_of : Stmt := inClass (top 39) 1
abbrev s_go : Stmt := inClass (top 39) 2
abbrev s_all_quits : Stmt := inClass (top 39) 3
abbrev s_may_pay : Stmt := top 40
abbrev s_gone : Stmt := top 41
abbrev s_is_way : Stmt := top 42
abbrev s_greatest : Stmt := top 44
abbrev s_long_way : Stmt := top 45
abbrev s_law_dice : Stmt := top 47
abbrev s_law_draw : Stmt := top 48
abbrev s_law_flag : Stmt := top 49
abbrev s_law_shuffled : Stmt := top 50
abbrev s_law_divisor : Stmt := top 51
abbrev s_law_amount : Stmt := top 52
abbrev s_law_split : Stmt := top 53
abbrev s_law_side : Stmt := top 54
abbrev s_law_lists : Stmt := top 55
abbrev s_law_unit : Stmt := top 56
abbrev s_law_sums : Stmt := top 57
abbrev s_law_made : Stmt := top 58
abbrev s_law_drawn : Stmt := top 59
abbrev s_law_numbers : Stmt := top 60
abbrev s_law_is_way : Stmt := top 61
abbrev s_law_whole : Stmt := top 62
abbrev s_law_greatest : Stmt := top 63
abbrev s_law : Stmt := top 64
theorem sc_is_integer : FnScope ["thing"] ["thing"] (defScope s_is_integer) := ⟨rfl, rfl, rfl, by decide +kernel, rfl, by decide +kernel, by decide +kernel⟩
theorem sc_is_within : FnScope ["thing", "least", "most"] ["thing", "least", "most"] (defScope s_is_within) := ⟨rfl, rfl, rfl, by decide +kernel, rfl, by decide +kernel, by decide +kernel⟩
theorem sc_is_pair : FnScope ["thing"] ["thing"] (defScope s_is_pair) := ⟨rfl, rfl, rfl, by decide +kernel, rfl, by decide +kernel, by decide +kernel⟩
theorem sc_common_divisor : FnScope ["one", "other"] ["one", "other"] (defScope s_common_divisor) := ⟨rfl, rfl, rfl, by decide +kernel, rfl, by decide +kernel, by decide +kernel⟩
theorem sc_made : FnScope ["top", "bottom", "divisor"] ["top", "bottom"] (defScope s_made) := ⟨rfl, rfl, rfl, by decide +kernel, rfl, by decide +kernel, by decide +kernel⟩
theorem sc_plus : FnScope ["one", "other"] ["one", "other"] (defScope s_plus) := ⟨rfl, rfl, rfl, by decide +kernel, rfl, by decide +kernel, by decide +kernel⟩
theorem sc_minus : FnScope ["one", "other"] ["one", "other"] (defScope s_minus) := ⟨rfl, rfl, rfl, by decide +kernel, rfl, by decide +kernel, by decide +kernel⟩
theorem sc_over : FnScope ["one", "other"] ["one", "other"] (defScope s_over) := ⟨rfl, rfl, rfl, by decide +kernel, rfl, by decide +kernel, by decide +kernel⟩
theorem sc_is_less : FnScope ["one", "other"] ["one", "other"] (defScope s_is_less) := ⟨rfl, rfl, rfl, by decide +kernel, rfl, by decide +kernel, by decide +kernel⟩
theorem sc_least_of : FnScope ["one", "other"] ["one", "other"] (defScope s_least_of) := ⟨rfl, rfl, rfl, by decide +kernel, rfl, by decide +kernel, by decide +kernel⟩
theorem sc_total_of : FnScope ["fractions", "found", "fraction"] ["fractions"] (defScope s_total_of) := ⟨rfl, rfl, rfl, by decide +kernel, rfl, by decide +kernel, by decide +kernel⟩
theorem sc_measure_of : FnScope ["amounts", "top", "bottom", "amount"] ["amounts"] (defScope s_measure_of) := ⟨rfl, rfl, rfl, by decide +kernel, rfl, by decide +kernel, by decide +kernel⟩
theorem sc_is_fraction : FnScope ["thing"] ["thing"] (defScope s_is_fraction) := ⟨rfl, rfl, rfl, by decide +kernel, rfl, by decide +kernel, by decide +kernel⟩
theorem sc_is_amount : FnScope ["thing"] ["thing"] (defScope s_is_amount) := ⟨rfl, rfl, rfl, by decide +kernel, rfl, by decide +kernel, by decide +kernel⟩
theorem sc_are_sums : FnScope ["thing", "item"] ["thing"] (defScope s_are_sums) := ⟨rfl, rfl, rfl, by decide +kernel, rfl, by decide +kernel, by decide +kernel⟩
theorem sc_evening_init : FnScope ["self", "owed", "due"] ["self", "owed", "due"] (defScope s_evening_init) := ⟨rfl, rfl, rfl, by decide +kernel, rfl, by decide +kernel, by decide +kernel⟩
theorem sc_all_sums : FnScope ["evening"] ["evening"] (defScope s_all_sums) := ⟨rfl, rfl, rfl, by decide +kernel, rfl, by decide +kernel, by decide +kernel⟩
theorem sc_people : FnScope ["evening"] ["evening"] (defScope s_people) := ⟨rfl, rfl, rfl, by decide +kernel, rfl, by decide +kernel, by decide +kernel⟩
theorem sc_units_of : FnScope ["evening", "unit", "item"] ["evening"] (defScope s_units_of) := ⟨rfl, rfl, rfl, by decide +kernel, rfl, by decide +kernel, by decide +kernel⟩
theorem sc_rests_init : FnScope ["self", "owed", "due"] ["self", "owed", "due"] (defScope s_rests_init) := ⟨rfl, rfl, rfl, by decide +kernel, rfl, by decide +kernel, by decide +kernel⟩
theorem sc_many : FnScope ["self"] ["self"] (defScope s_many) := ⟨rfl, rfl, rfl, by decide +kernel, rfl, by decide +kernel, by decide +kernel⟩
theorem sc_least : FnScope ["self", "found", "side", "person", "rest"] ["self"] (defScope s_least) := ⟨rfl, rfl, rfl, by decide +kernel, rfl, by decide +kernel, by decide +kernel⟩
theorem sc_lessen : FnScope ["self", "side", "person", "amount"] ["self", "side", "person", "amount"] (defScope s_lessen) := ⟨rfl, rfl, rfl, by decide +kernel, rfl, by decide +kernel, by decide +kernel⟩
theorem sc_pay : FnScope ["self", "side", "person", "other", "amount"] ["self", "side", "person", "other"] (defScope s_pay) := ⟨rfl, rfl, rfl, by decide +kernel, rfl, by decide +kernel, by decide +kernel⟩
theorem sc_divisor_behind : FnScope ["self", "side", "person", "other", "amount", "found", "here", "one", "rest"] ["self", "side", "person", "other"] (defScope s_divisor_behind) := ⟨rfl, rfl, rfl, by decide +kernel, rfl, by decide +kernel, by decide +kernel⟩
theorem sc_leaves_enough : FnScope ["self", "side", "person", "other", "left"] ["self", "side", "person", "other"] (defScope s_leaves_enough) := ⟨rfl, rfl, rfl, by decide +kernel, rfl, by decide +kernel, by decide +kernel⟩
theorem sc_step_of_one_piece : FnScope ["rests", "rest", "side", "person", "others", "greater", "other", "odd", "one", "more"] ["rests"] (defScope s_step_of_one_piece) := ⟨rfl, rfl, rfl, by decide +kernel, rfl, by decide +kernel, by decide +kernel⟩
theorem sc_step_of_one_unit : FnScope ["rests", "rest", "side", "person", "others", "greater", "other"] ["rests"] (defScope s_step_of_one_unit) := ⟨rfl, rfl, rfl, by decide +kernel, rfl, by decide +kernel, by decide +kernel⟩
theorem sc_long_of : FnScope ["evening", "owed", "due", "rests", "one_piece"] ["evening"] (defScope s_long_of) := ⟨rfl, rfl, rfl, by decide +kernel, rfl, by decide +kernel, by decide +kernel⟩
theorem sc_greatest_of : FnScope ["evening"] ["evening"] (defScope s_greatest_of) := ⟨rfl, rfl, rfl, by decide +kernel, rfl, by decide +kernel, by decide +kernel⟩
theorem sc_are_people : FnScope ["evening", "thing"] ["evening", "thing"] (defScope s_are_people) := ⟨rfl, rfl, rfl, by decide +kernel, rfl, by decide +kernel, by decide +kernel⟩
theorem sc_state_init : FnScope ["self", "evening"] ["self", "evening"] (defScope s_state_init) := ⟨rfl, rfl, rfl, by decide +kernel, rfl, by decide +kernel, by decide +kernel⟩
theorem sc_amount_of : FnScope ["self", "pair"] ["self", "pair"] (defScope s_amount_of) := ⟨rfl, rfl, rfl, by decide +kernel, rfl, by decide +kernel, by decide +kernel⟩
theorem sc_go : FnScope ["self", "pair", "amount"] ["self", "pair"] (defScope s_go) := ⟨rfl, rfl, rfl, by decide +kernel, rfl, by decide +kernel, by decide +kernel⟩
theorem sc_all_quits : FnScope ["self", "rest"] ["self"] (defScope s_all_quits) := ⟨rfl, rfl, rfl, by decide +kernel, rfl, by decide +kernel, by decide +kernel⟩
theorem sc_may_pay : FnScope ["evening", "state", "thing"] ["evening", "state", "thing"] (defScope s_may_pay) := ⟨rfl, rfl, rfl, by decide +kernel, rfl, by decide +kernel, by decide +kernel⟩
theorem sc_gone : FnScope ["evening", "row", "state", "amounts", "pair"] ["evening", "row"] (defScope s_gone) := ⟨rfl, rfl, rfl, by decide +kernel, rfl, by decide +kernel, by decide +kernel⟩
theorem sc_is_way : FnScope ["evening", "thing", "found"] ["evening", "thing"] (defScope s_is_way) := ⟨rfl, rfl, rfl, by decide +kernel, rfl, by decide +kernel, by decide +kernel⟩
theorem sc_greatest : FnScope ["evening"] ["evening"] (defScope s_greatest) := ⟨rfl, rfl, rfl, by decide +kernel, rfl, by decide +kernel, by decide +kernel⟩
theorem sc_long_way : FnScope ["evening"] ["evening"] (defScope s_long_way) := ⟨rfl, rfl, rfl, by decide +kernel, rfl, by decide +kernel, by decide +kernel⟩
theorem sc_law_dice : FnScope ["_law_script", "_law_cell"] ["_law_script"] (defScope s_law_dice) := ⟨rfl, rfl, rfl, by decide +kernel, rfl, by decide +kernel, by decide +kernel⟩
theorem sc_law_draw : FnScope ["_law_dice_here", "_law_sides", "_law_cell", "_law_digit", "_law_mixed"] ["_law_dice_here", "_law_sides"] (defScope s_law_draw) := ⟨rfl, rfl, rfl, by decide +kernel, rfl, by decide +kernel, by decide +kernel⟩
theorem sc_law_flag : FnScope ["_law_told", "_law_due"] ["_law_told", "_law_due"] (defScope s_law_flag) := ⟨rfl, rfl, rfl, by decide +kernel, rfl, by decide +kernel, by decide +kernel⟩
theorem sc_law_shuffled : FnScope ["_law_dice_here", "_law_items", "_law_left", "_law_k"] ["_law_dice_here", "_law_items"] (defScope s_law_shuffled) := ⟨rfl, rfl, rfl, by decide +kernel, rfl, by decide +kernel, by decide +kernel⟩
theorem sc_law_divisor : FnScope ["_law_one", "_law_other", "_law_turn"] ["_law_one", "_law_other"] (defScope s_law_divisor) := ⟨rfl, rfl, rfl, by decide +kernel, rfl, by decide +kernel, by decide +kernel⟩
theorem sc_law_amount : FnScope ["_law_top", "_law_bottom", "_law_divisor_here"] ["_law_top", "_law_bottom"] (defScope s_law_amount) := ⟨rfl, rfl, rfl, by decide +kernel, rfl, by decide +kernel, by decide +kernel⟩
theorem sc_law_split : FnScope ["_law_dice_here", "_law_whole_here", "_law_many", "_law_found", "_law_left", "_law_k"] ["_law_dice_here", "_law_whole_here", "_law_many"] (defScope s_law_split) := ⟨rfl, rfl, rfl, by decide +kernel, rfl, by decide +kernel, by decide +kernel⟩
theorem sc_law_side : FnScope ["_law_dice_here", "_law_many", "_law_most", "_law_k"] ["_law_dice_here", "_law_many", "_law_most"] (defScope s_law_side) := ⟨rfl, rfl, rfl, by decide +kernel, rfl, by decide +kernel, by decide +kernel⟩
theorem sc_law_lists : FnScope ["_law_dice_here", "_law_most", "_law_first", "_law_other", "_law_owed", "_law_many", "_law_due"] ["_law_dice_here", "_law_most"] (defScope s_law_lists) := ⟨rfl, rfl, rfl, by decide +kernel, rfl, by decide +kernel, by decide +kernel⟩
theorem sc_law_unit : FnScope ["_law_dice_here"] ["_law_dice_here"] (defScope s_law_unit) := ⟨rfl, rfl, rfl, by decide +kernel, rfl, by decide +kernel, by decide +kernel⟩
theorem sc_law_sums : FnScope ["_law_numbers_here", "_law_unit_here", "_law_number"] ["_law_numbers_here", "_law_unit_here"] (defScope s_law_sums) := ⟨rfl, rfl, rfl, by decide +kernel, rfl, by decide +kernel, by decide +kernel⟩
theorem sc_law_made : FnScope ["_law_lists_here", "_law_unit_here"] ["_law_lists_here", "_law_unit_here"] (defScope s_law_made) := ⟨rfl, rfl, rfl, by decide +kernel, rfl, by decide +kernel, by decide +kernel⟩
theorem sc_law_drawn : FnScope ["_law_dice_here", "_law_most", "_law_lists_here"] ["_law_dice_here", "_law_most"] (defScope s_law_drawn) := ⟨rfl, rfl, rfl, by decide +kernel, rfl, by decide +kernel, by decide +kernel⟩
theorem sc_law_numbers : FnScope ["_law_owed", "_law_due", "_law_known", "_law_key", "_law_found", "_law_ower", "_law_taker", "_law_amount_here", "_law_left", "_law_rest", "_law_number"] ["_law_owed", "_law_due", "_law_known"] (defScope s_law_numbers) := ⟨rfl, rfl, rfl, by decide +kernel, rfl, by decide +kernel, by decide +kernel⟩
theorem sc_law_is_way : FnScope ["_law_lists_here", "_law_way", "_law_many", "_law_owed", "_law_due", "_law_pair", "_law_amount_here", "_law_person"] ["_law_lists_here", "_law_way", "_law_many"] (defScope s_law_is_way) := ⟨rfl, rfl, rfl, by decide +kernel, rfl, by decide +kernel, by decide +kernel⟩
theorem sc_law_whole : FnScope ["_law_told", "_law_due"] ["_law_told", "_law_due"] (defScope s_law_whole) := ⟨rfl, rfl, rfl, by decide +kernel, rfl, by decide +kernel, by decide +kernel⟩
theorem sc_law_greatest : FnScope ["_law_lists_here", "_law_divisor_here", "_law_number"] ["_law_lists_here"] (defScope s_law_greatest) := ⟨rfl, rfl, rfl, by decide +kernel, rfl, by decide +kernel, by decide +kernel⟩
theorem sc_law : FnScope ["_law_script", "_law_dice_here", "_law_most", "_law_lists_here", "_law_unit_here", "_law_evening", "_law_due", "_law_told", "_law_way"] ["_law_script"] (defScope s_law) := ⟨rfl, rfl, rfl, by decide +kernel, rfl, by decide +kernel, by decide +kernel⟩

/-- a def of the top -/
structure Df (K : PySem.W.Frag) (mg : Str → Option Value) (x : Str) (st : Stmt) (ps : List Str) where
  f : Addr
  fd : FuncData
  F : Fun K x x st f fd
  b : Binds K fd ps []
  g : mg x = some (.ref f)
theorem Df.kp {K : PySem.W.Frag} {mg : Str → Option Value} {x : Str} {st : Stmt} {ps : List Str} (D : Df K mg x st ps) : PySem.W.keepIn K (.ref D.f) = true := D.F.kp
/-- a method -/
structure Mf (K : PySem.W.Frag) (C : Addr) (x qual : Str) (st : Stmt) (ps : List Str) where
  f : Addr
  fd : FuncData
  F : Fun K x qual st f fd
  b : Binds K fd ps []
  m : Meth K C x f
/-- an __init__ -/
structure Nf (K : PySem.W.Frag) (C : Addr) (qual : Str) (st : Stmt) (ps : List Str) where
  f : Addr
  fd : FuncData
  F : Fun K "__init__" qual st f fd
  b : Binds K fd ps []
  m : Mk K C f
/-- what the top has left -/
structure Tx (K : PySem.W.Frag) (mg : Str → Option Value) where
  CE : Addr
  CR : Addr
  CS : Addr
  clE : Cls K CE
  clR : Cls K CR
  clS : Cls K CS
  mg_Evening : mg "Evening" = some (.ref CE)
  mg_Rests : mg "Rests" = some (.ref CR)
  mg_State : mg "State" = some (.ref CS)
  n_owed : NoAttr K CE "owed"
  n_due : NoAttr K CE "due"
  n_sides : NoAttr K CR "sides"
  n_whole : NoAttr K CR "whole"
  n_row : NoAttr K CR "row"
  n_owed_left : NoAttr K CS "owed_left"
  n_due_left : NoAttr K CS "due_left"
  z_len : mg "len" = none
  z_min : mg "min" = none
  z_sum : mg "sum" = none
  z_abs : mg "abs" = none
  z_isinstance : mg "isinstance" = none
  z_all : mg "all" = none
  z_int : mg "int" = none
  z_list : mg "list" = none
  z_dict : mg "dict" = none
  z_tuple : mg "tuple" = none
  z_sorted : mg "sorted" = none
  z_set : mg "set" = none
  z_enumerate : mg "enumerate" = none
  z_range : mg "range" = none
  z_bool : mg "bool" = none
  t_OWERS : Tok
  mg_OWERS : mg "OWERS" = some (.int 0 t_OWERS)
  t_TAKERS : Tok
  mg_TAKERS : mg "TAKERS" = some (.int 1 t_TAKERS)
  t_MOST_SIDE : Tok
  mg_MOST_SIDE : mg "MOST_SIDE" = some (.int 100 t_MOST_SIDE)
  aZERO : Addr
  mg_ZERO : mg "ZERO" = some (.ref aZERO)
  sq_ZERO : ∀ H : Hp, SqT K H aZERO [.int 0, .int 1]
  is_integer : Df K mg "is_integer" s_is_integer ["thing"]
  is_within : Df K mg "is_within" s_is_within ["thing", "least", "most"]
  is_pair : Df K mg "is_pair" s_is_pair ["thing"]
  common_divisor : Df K mg "common_divisor" s_common_divisor ["one", "other"]
  made : Df K mg "made" s_made ["top", "bottom"]
  plus : Df K mg "plus" s_plus ["one", "other"]
  minus : Df K mg "minus" s_minus ["one", "other"]
  over : Df K mg "over" s_over ["one", "other"]
  is_less : Df K mg "is_less" s_is_less ["one", "other"]
  least_of : Df K mg "least_of" s_least_of ["one", "other"]
  total_of : Df K mg "total_of" s_total_of ["fractions"]
  measure_of : Df K mg "measure_of" s_measure_of ["amounts"]
  is_fraction : Df K mg "is_fraction" s_is_fraction ["thing"]
  is_amount : Df K mg "is_amount" s_is_amount ["thing"]
  are_sums : Df K mg "are_sums" s_are_sums ["thing"]
  evening_init : Nf K CE "Evening.__init__" s_evening_init ["self", "owed", "due"]
  all_sums : Df K mg "all_sums" s_all_sums ["evening"]
  people : Df K mg "people" s_people ["evening"]
  units_of : Df K mg "units_of" s_units_of ["evening"]
  rests_init : Nf K CR "Rests.__init__" s_rests_init ["self", "owed", "due"]
  many : Mf K CR "many" "Rests.many" s_many ["self"]
  least : Mf K CR "least" "Rests.least" s_least ["self"]
  lessen : Mf K CR "lessen" "Rests.lessen" s_lessen ["self", "side", "person", "amount"]
  pay : Mf K CR "pay" "Rests.pay" s_pay ["self", "side", "person", "other"]
  divisor_behind : Mf K CR "divisor_behind" "Rests.divisor_behind" s_divisor_behind ["self", "side", "person", "other"]
  leaves_enough : Mf K CR "leaves_enough" "Rests.leaves_enough" s_leaves_enough ["self", "side", "person", "other"]
  step_of_one_piece : Df K mg "step_of_one_piece" s_step_of_one_piece ["rests"]
  step_of_one_unit : Df K mg "step_of_one_unit" s_step_of_one_unit ["rests"]
  long_of : Df K mg "long_of" s_long_of ["evening"]
  greatest_of : Df K mg "greatest_of" s_greatest_of ["evening"]
  are_people : Df K mg "are_people" s_are_people ["evening", "thing"]
  state_init : Nf K CS "State.__init__" s_state_init ["self", "evening"]
  amount_of : Mf K CS "amount_of" "State.amount_of" s_amount_of ["self", "pair"]
  go : Mf K CS "go" "State.go" s_go ["self", "pair"]
  all_quits : Mf K CS "all_quits" "State.all_quits" s_all_quits ["self"]
  may_pay : Df K mg "may_pay" s_may_pay ["evening", "state", "thing"]
  gone : Df K mg "gone" s_gone ["evening", "row"]
  is_way : Df K mg "is_way" s_is_way ["evening", "thing"]
  greatest : Df K mg "greatest" s_greatest ["evening"]
  long_way : Df K mg "long_way" s_long_way ["evening"]
  law_dice : Df K mg "_law_dice" s_law_dice ["_law_script"]
  law_draw : Df K mg "_law_draw" s_law_draw ["_law_dice_here", "_law_sides"]
  law_flag : Df K mg "_law_flag" s_law_flag ["_law_told", "_law_due"]
  law_shuffled : Df K mg "_law_shuffled" s_law_shuffled ["_law_dice_here", "_law_items"]
  law_divisor : Df K mg "_law_divisor" s_law_divisor ["_law_one", "_law_other"]
  law_amount : Df K mg "_law_amount" s_law_amount ["_law_top", "_law_bottom"]
  law_split : Df K mg "_law_split" s_law_split ["_law_dice_here", "_law_whole_here", "_law_many"]
  law_side : Df K mg "_law_side" s_law_side ["_law_dice_here", "_law_many", "_law_most"]
  law_lists : Df K mg "_law_lists" s_law_lists ["_law_dice_here", "_law_most"]
  law_unit : Df K mg "_law_unit" s_law_unit ["_law_dice_here"]
  law_sums : Df K mg "_law_sums" s_law_sums ["_law_numbers_here", "_law_unit_here"]
  law_made : Df K mg "_law_made" s_law_made ["_law_lists_here", "_law_unit_here"]
  law_drawn : Df K mg "_law_drawn" s_law_drawn ["_law_dice_here", "_law_most"]
  law_numbers : Df K mg "_law_numbers" s_law_numbers ["_law_owed", "_law_due", "_law_known"]
  law_is_way : Df K mg "_law_is_way" s_law_is_way ["_law_lists_here", "_law_way", "_law_many"]
  law_whole : Df K mg "_law_whole" s_law_whole ["_law_told", "_law_due"]
  law_greatest : Df K mg "_law_greatest" s_law_greatest ["_law_lists_here"]
  law : Df K mg "law" s_law ["_law_script"]
end Qw
set_option Elab.async false
set_option maxRecDepth 100000
set_option linter.all false
/-! QRules1: min of a list of triples, a pair not in a tuple of pairs. -/
namespace Qw
open PySem PySem.Spec PyProof.Rows L2
open PySem.W (Holds HoldAll Datum DatumOrd Tup minOf listLt)

section
variable {X : Cx} {pins : List (Addr × Obj)} {σ : L2.St} {H : Hp} {s : Shared}
/-- three ints as one datum -/
def t3 (t : Int × Int × Int) : Tup Int := ⟨[t.1, t.2.1, t.2.2]⟩
theorem t3_lt (x y : Int × Int × Int) : DatumOrd.lt (t3 x) (t3 y) = ltT x y := by
  show listLt [x.1, x.2.1, x.2.2] [y.1, y.2.1, y.2.2] = ltT x y
  unfold ltT
  rw [listLt]
  by_cases h1 : x.1 = y.1
  · rw [if_pos h1, if_pos h1, listLt]
    by_cases h2 : x.2.1 = y.2.1
    · rw [if_pos h2, if_pos h2, listLt]
      by_cases h3 : x.2.2 = y.2.2
      · rw [if_pos h3, listLt]
        exact (decide_eq_false (by omega)).symm
      · rw [if_neg h3]
        rfl
    · rw [if_neg h2, if_neg h2]
      rfl
  · rw [if_neg h1, if_neg h1]
    rfl
theorem t3_min (x : Int × Int × Int) (xs : List (Int × Int × Int)) : minOf (t3 x) (xs.map t3) = t3 (minT (x :: xs)) := by
  show minOf (t3 x) (xs.map t3) = t3 (xs.foldl (fun m y => if ltT y m = true then y else m) x)
  unfold minOf
  induction xs generalizing x with
  | nil => rfl
  | cons y ys ih =>
    rw [List.map_cons, List.foldl_cons, List.foldl_cons, t3_lt, ← ih]
    cases ltT y x <;> rfl
theorem t3_inj {x y : Int × Int × Int} (h : t3 x = t3 y) : x = y := by
  obtain ⟨a, b, c⟩ := x
  obtain ⟨d, e, f⟩ := y
  have h' : ([a, b, c] : List Int) = [d, e, f] := congrArg Tup.items h
  injection h' with h1 h2
  injection h2 with h2 h3
  injection h3 with h3 _
  rw [h1, h2, h3]
theorem holds_t3 (I : Inv X pins σ H s) {q : Addr} {t : Int × Int × Int} (h : SqT X.K H q [.int t.1, .int t.2.1, .int t.2.2]) : Holds s.heap (.ref q) (t3 t) := by
  have d : Dp X.K H (.ref q) (.tuple [.int t.1, .int t.2.1, .int t.2.2]) := .tup h (.cons (.int _) (.cons (.int _) (.cons (.int _) .nil)))
  obtain ⟨as, r⟩ := Dp.reads I _ _ (.ref q) d rfl
  exact ⟨as, r⟩
theorem holds_p (I : Inv X pins σ H s) {q : Addr} {t : Int × Int} (h : SqT X.K H q [.int t.1, .int t.2]) : Holds s.heap (.ref q) t := by
  have d : Dp X.K H (.ref q) (.tuple [.int t.1, .int t.2]) := .tup h (.cons (.int _) (.cons (.int _) .nil))
  obtain ⟨as, r⟩ := Dp.reads I _ _ (.ref q) d rfl
  exact ⟨as, r⟩
abbrev At3 (K : PySem.W.Frag) (H : Hp) (q : Addr) (t : Int × Int × Int) : Prop := SqT K H q [.int t.1, .int t.2.1, .int t.2.2]
abbrev At2 (K : PySem.W.Frag) (H : Hp) (q : Addr) (t : Int × Int) : Prop := SqT K H q [.int t.1, .int t.2]
theorem holds_all3 (I : Inv X pins σ H s) : ∀ {qs : List Addr} {ts : List (Int × Int × Int)}, Paired (At3 X.K H) qs ts → HoldAll s.heap (qs.map Value.ref) (ts.map t3)
  | _, _, .nil => HoldAll.nil
  | _, _, .cons h t => HoldAll.cons (holds_t3 I h) (holds_all3 I t)
theorem holds_all2 (I : Inv X pins σ H s) : ∀ {qs : List Addr} {ts : List (Int × Int)}, Paired (At2 X.K H) qs ts → HoldAll s.heap (qs.map Value.ref) ts
  | _, _, .nil => HoldAll.nil
  | _, _, .cons h t => HoldAll.cons (holds_p I h) (holds_all2 I t)
theorem vals_of_refs' : ∀ {qs : List Addr} {us : List Value}, Vals (qs.map V.ref) us → us = qs.map Value.ref
  | [], _, .nil => rfl
  | _ :: _, _, .cons r t => by
    cases r
    rw [List.map_cons, vals_of_refs' t]
theorem paired_at {α β : Type} {F : α → β → Prop} : ∀ {xs : List α} {ys : List β}, Paired F xs ys → ∀ {i : Nat} {x : α}, xs[i]? = some x → ∃ y, ys[i]? = some y ∧ F x y
  | _, _, .nil, _, _, e => by cases e
  | _, _, .cons h _, 0, _, e => by
    have e := Option.some.inj e
    subst e
    exact ⟨_, rfl, h⟩
  | _, _, .cons _ t, i + 1, _, e => paired_at t (i := i) e
/-- min(xs), xs a list of triples of ints: the item that holds the least -/
def rMinT (K : PySem.W.Frag) : List V → Hp → VK → Prop := fun vs H Q => ∃ (a : Addr) (qs : List Addr) (ts : List (Int × Int × Int)), vs = [V.ref a] ∧ SqL K H a (qs.map V.ref) ∧ Paired (At3 K H) qs ts ∧ ts ≠ [] ∧
  ∀ q, At3 K H q (minT ts) → Q (.ref q) H
theorem cr_minT (hc : X.calm = true) (hu : X.A.units + 64 < cLine) : CallR X (.builtin "min") (rMinT X.K) := by
  intro pins s σ H vs us Q I r h
  obtain ⟨a, qs, ts, rfl, hs, hp, hne, q⟩ := h
  obtain ⟨its, rv, hl, hz⟩ := I.list hs
  rw [Vals.ref1 r]
  have e0 := vals_of_refs' rv
  subst e0
  cases ts with
  | nil => exact absurd rfl hne
  | cons x xs =>
    have hall : HoldAll s.heap (qs.map Value.ref).toArray.toList (t3 x :: xs.map t3) := holds_all3 I hp
    refine PySem.W.min_list_datum (I.ok.hd hc) hl.isList hall (by show X.A.units + 1 + (0 + 1) < cLine; omega) fun i v h' tk hv hh hk => ?_
    have hv' : (qs.map Value.ref)[i]? = some v := by simpa using hv
    rw [List.getElem?_map] at hv'
    obtain ⟨p, hpi, e1⟩ := Option.map_eq_some_iff.mp hv'
    subst e1
    obtain ⟨t, ht, hat⟩ := paired_at hp hpi
    have I' : Inv X pins σ H { s with heap := h', toks := tk } := I.kept (t' := tk) hk
    obtain ⟨as1, r1⟩ := hh
    obtain ⟨as2, r2⟩ := holds_t3 I' hat
    have l1 : (Datum.toD (t3 t)).canLay0 = true := by
      show PyData.canLay0 (.tuple [.int t.1, .int t.2.1, .int t.2.2]) = true
      simp [PyData.canLay0, PyData.canLayAll0]
    have l2 : (Datum.toD (minOf (t3 x) (xs.map t3))).canLay0 = true := by
      rw [t3_min]
      show PyData.canLay0 (.tuple [.int _, .int _, .int _]) = true
      simp [PyData.canLay0, PyData.canLayAll0]
    have e2 := (SeqAt.readOf_eq l1 r2).symm.trans (SeqAt.readOf_eq l2 r1)
    rw [t3_min] at e2
    have e3 : t = minT (x :: xs) := by
      have e4 : PyData.tuple [.int t.1, .int t.2.1, .int t.2.2] = PyData.tuple [.int (minT (x :: xs)).1, .int (minT (x :: xs)).2.1, .int (minT (x :: xs)).2.2] := e2
      injection e4 with e4
      injection e4 with e5 e6
      injection e6 with e6 e7
      injection e7 with e7 _
      injection e5 with e5
      injection e6 with e6
      injection e7 with e7
      exact Prod.ext e5 (Prod.ext e6 e7)
    rw [e3] at hat
    exact ⟨.ref p, H, I', rfl, q p hat⟩
/-- p not in (p1, p2, ..), pairs of ints -/
def rNotInP (K : PySem.W.Frag) : R2 := fun x y H Q => ∃ (q t : Addr) (p : Int × Int) (qs : List Addr) (ps : List (Int × Int)), x = .ref q ∧ y = .ref t ∧ At2 K H q p ∧ SqT K H t (qs.map V.ref) ∧ Paired (At2 K H) qs ps ∧ ∀ b : Bool, (b = true ↔ p ∉ ps) → Q (.bl b) H
theorem op_notInDT (hu : X.A.units + 64 < cLine) : OpR X (compareOp .NotIn) (rNotInP X.K) := by
  intro pins s σ H x y v u Q I rx ry h
  obtain ⟨q, t, p, qs, ps, rfl, rfl, hq, ht, hp, k⟩ := h
  cases rx
  cases ry
  obtain ⟨its, rv, hT, hz⟩ := I.tuple ht
  have e0 := vals_of_refs' rv
  subst e0
  have hall : HoldAll s.heap (qs.map Value.ref).toArray.toList ps := holds_all2 I hp
  exact PySem.W.notIn_tuple_datum hT hall (holds_p I hq) (by show X.A.units + 1 + (max 0 0 + 1) < cLine; omega) ⟨.bl _, H, I, rfl, k _ (by simp)⟩
end
end Qw
set_option Elab.async false
set_option maxRecDepth 100000
set_option linter.all false
/-! QRules2: a dict whose keys are pairs of tuples of ints (the law's memo). -/
namespace Qw
open PySem PySem.Spec PyProof.Rows L2

/-- a key of the memo, its tuple's address, its value's address -/
abbrev NE := (List Int × List Int) × Addr × Addr
def nkey (k : List Int × List Int) : NestedKey := .tup [.tup (k.1.map .num), .tup (k.2.map .num)]
theorem map_num_inj : ∀ {a b : List Int}, a.map NestedKey.num = b.map NestedKey.num → a = b
  | [], [], _ => rfl
  | [], _ :: _, h => by cases h
  | _ :: _, [], h => by cases h
  | x :: a, y :: b, h => by
    rw [List.map_cons, List.map_cons] at h
    injection h with h1 h2
    injection h1 with h1
    rw [h1, map_num_inj h2]
theorem nkey_inj {a b : List Int × List Int} (h : nkey a = nkey b) : a = b := by
  unfold nkey at h
  injection h with h
  injection h with h1 h2
  injection h2 with h2 _
  injection h1 with h1
  injection h2 with h2
  exact Prod.ext (map_num_inj h1) (map_num_inj h2)
theorem depth_num : ∀ a : List Int, NestedKey.depthAll (a.map NestedKey.num) = 0
  | [] => rfl
  | x :: a => by
    rw [List.map_cons, NestedKey.depthAll, depth_num a]
    rfl
theorem nkey_depth (k : List Int × List Int) : (nkey k).depth ≤ 8 := by
  simp only [nkey, NestedKey.depth, NestedKey.depthAll, depth_num]
  decide
def rawN (xs : List NE) : List (NestedKey × Addr × Value) := xs.map fun e => (nkey e.1, e.2.1, .ref e.2.2)
def nkeys (xs : List NE) : List (List Int × List Int) := xs.map (·.1)
/-- the tuple at q holds the key k -/
def KeyAt (K : PySem.W.Frag) (H : Hp) (q : Addr) (k : List Int × List Int) : Prop := ∃ q1 q2, SqT K H q [.ref q1, .ref q2] ∧ SqT K H q1 (k.1.map V.int) ∧ SqT K H q2 (k.2.map V.int)
/-- the memo's object -/
def NdR (P : Program) (w : World) (d : Addr) (xs : List NE) (h : Heap) : Prop :=
  (d == sysModules) = false ∧ xs.length ≤ sizeLine ∧ (nkeys xs).Nodup ∧ ∃ o es ep, h.get? d = some o ∧ o.ExactDict ∧ o.data = .dict es ep ∧ es.toList = (rawN xs).map (entryOfKey (nestedKind P w))
def NdO (P : Program) (w : World) (d : Addr) (xs : List NE) : HO := .ext (NdR P w d xs)
section
variable {X : Cx} {pins : List (Addr × Obj)} {σ : L2.St} {H : Hp} {s : Shared} {d q : Addr} {k : List Int × List Int} {xs : List NE}
theorem ndO_new {P : Program} {w : World} {H' : Hp} {h : Heap} (R : NdR P w d xs h) : ObjOk P w H' h d (NdO P w d xs) := by
  obtain ⟨a1, a2, a3, o, es, ep, ho, r⟩ := id R
  refine ⟨R, ⟨o, ho⟩, fun h1 h2 p hk => ?_⟩
  obtain ⟨b1, b2, b3, o', es', ep', ho', r'⟩ := p
  exact ⟨b1, b2, b3, o', es', ep', hk _ ho', r'⟩
theorem ndO_get (I : Inv X pins σ H s) (ha : H d = some (NdO X.prog X.w d xs)) : NdR X.prog X.w d xs s.heap := (I.hok d _ ha).1
theorem nested_ints {h : Heap} : ∀ {ns : List Int} {us : List Value}, Vals (ns.map V.int) us → NestedAll h (ns.map NestedKey.num) us
  | [], _, .nil => .nil
  | _ :: _, _, .cons r t => by
    obtain ⟨tk, rfl⟩ := r
    exact .cons (.int _ _) (nested_ints t)
theorem nested_tup (I : Inv X pins σ H s) {q : Addr} {ns : List Int} (h : SqT X.K H q (ns.map V.int)) : NestedIs s.heap (.tup (ns.map NestedKey.num)) (.ref q) := by
  obtain ⟨its, rv, ⟨o, ho, hc, n, hd⟩, _⟩ := I.tuple h
  exact .tup ho hc hd (by simpa using nested_ints rv)
theorem key_is (I : Inv X pins σ H s) (h : KeyAt X.K H q k) : (nestedKind X.prog X.w).is s.heap (nkey k) q := by
  obtain ⟨q1, q2, h0, h1, h2⟩ := h
  obtain ⟨its, rv, ⟨o, ho, hc, n, hd⟩, _⟩ := I.tuple h0
  cases rv with
  | cons r1 rv =>
    cases rv with
    | cons r2 rv =>
      cases rv
      cases r1
      cases r2
      exact ⟨.tup ho hc hd (.cons (nested_tup I h1) (.cons (nested_tup I h2) .nil)), nkey_depth k⟩
/-- every key's tuples stand -/
def KeysAt (K : PySem.W.Frag) (H : Hp) (xs : List NE) : Prop := ∀ e ∈ xs, KeyAt K H e.2.1 e.1
theorem nd_dict (I : Inv X pins σ H s) (ha : H d = some (NdO X.prog X.w d xs)) (hk : KeysAt X.K H xs) : s.heap.DictOfH (nestedKind X.prog X.w) d (rawN xs) := by
  obtain ⟨a1, a2, a3, o, es, ep, ho, hx, hd, he⟩ := ndO_get I ha
  refine ⟨o, es, ep, ho, hx, hd, he, fun x hxm => ?_, ?_⟩
  · obtain ⟨e, hem, rfl⟩ := List.mem_map.mp hxm
    exact key_is I (hk e hem)
  · unfold rawN
    rw [List.map_map]
    have e : ((fun x => x.1) ∘ fun e : NE => (nkey e.1, e.2.1, Value.ref e.2.2)) = nkey ∘ (·.1) := rfl
    rw [e, ← List.map_map]
    exact List.Pairwise.map _ (fun a b hab z => hab (nkey_inj z)) a3
theorem at_none {xs : List NE} {k : List Int × List Int} (h : k ∉ nkeys xs) : atKey (rawN xs) (nkey k) = none := by
  unfold atKey
  have e : ((rawN xs).find? fun x => decide (x.1 = nkey k)) = none := by
    rw [List.find?_eq_none]
    intro x hx z
    obtain ⟨e, hem, rfl⟩ := List.mem_map.mp hx
    have z' : nkey e.1 = nkey k := of_decide_eq_true z
    exact h (List.mem_map.mpr ⟨e, hem, nkey_inj z'⟩)
  rw [e]
  rfl
theorem at_some {k : List Int × List Int} {p r : Addr} : ∀ {xs : List NE}, (nkeys xs).Nodup → (k, p, r) ∈ xs → atKey (rawN xs) (nkey k) = some (p, .ref r)
  | [], _, h => by cases h
  | e :: xs, hn, h => by
    unfold nkeys at hn
    rw [List.map_cons, List.nodup_cons] at hn
    unfold rawN
    rw [List.map_cons]
    unfold atKey
    rw [List.find?_cons]
    rcases List.mem_cons.mp h with rfl | h
    · dsimp only
      rw [decide_eq_true rfl]
      rfl
    · have ne : ¬ nkey e.1 = nkey k := fun z => hn.1 (by rw [nkey_inj z]; exact List.mem_map.mpr ⟨_, h, rfl⟩)
      dsimp only
      rw [decide_eq_false ne]
      exact at_some hn.2 h
theorem room_n (hu : X.A.units + 64 < cLine) : (nestedKind X.prog X.w).room X.A.in1 := by
  show X.A.units + 1 + 8 < cLine
  omega
/-- k not in known -/
def rNotInN (K : PySem.W.Frag) (P : Program) (w : World) : R2 := fun x y H Q => ∃ (q d : Addr) (k : List Int × List Int) (xs : List NE), x = .ref q ∧ y = .ref d ∧ KeyAt K H q k ∧ H d = some (NdO P w d xs) ∧ KeysAt K H xs ∧ ∀ b : Bool, (b = true ↔ k ∉ nkeys xs) → Q (.bl b) H
theorem op_notIn_nd (hu : X.A.units + 64 < cLine) : OpR X (compareOp .NotIn) (rNotInN X.K X.prog X.w) := by
  intro pins s σ H x y v u Q I rx ry h
  obtain ⟨q, d, k, xs, rfl, rfl, hq, hd, hk, c⟩ := h
  cases rx
  cases ry
  have R := ndO_get I hd
  refine notIn_keyed (knd := nestedKind X.prog X.w) (kvs := pairsH (rawN xs)) (room_n hu) (key_is I hq) R.1 ⟨_, nd_dict I hd hk, rfl⟩ ⟨.bl _, H, I.tok _, rfl, c _ ?_⟩
  rw [valueAt_pairsH, Option.isSome_map]
  by_cases m : k ∈ nkeys xs
  · obtain ⟨e, he, e1⟩ := List.mem_map.mp m
    obtain ⟨k', p, r⟩ := e
    have e1 : k' = k := e1
    subst e1
    rw [at_some R.2.2.1 he]
    simp [m]
  · rw [at_none m]
    simp [m]
/-- known[k], k there -/
def rIxN (K : PySem.W.Frag) (P : Program) (w : World) : R2 := fun x y H Q => ∃ (q d : Addr) (k : List Int × List Int) (xs : List NE) (p r : Addr), x = .ref d ∧ y = .ref q ∧ KeyAt K H q k ∧ H d = some (NdO P w d xs) ∧ KeysAt K H xs ∧ (k, p, r) ∈ xs ∧ Q (.ref r) H
theorem ix_nd (hu : X.A.units + 64 < cLine) : IxR X (rIxN X.K X.prog X.w) := by
  intro value slice pins s σ H x y v u Q I rx ry h hs
  obtain ⟨q, d, k, xs, p, r, rfl, rfl, hq, hd, hk, m, c⟩ := h
  cases rx
  cases ry
  have R := ndO_get I hd
  have dd := nd_dict I hd hk
  exact subscriptTail_builtinR (x := .ref r) dd.typeIs PySem.F.slot_dict_getitem.lookup
    (wpAny_getItem_heap (Q := fun v' s' => v' = .ref r ∧ EP X pins σ Q v' s') (room_n hu) (key_is I hq) dd (at_some R.2.2.1 m) ⟨rfl, .ref r, H, I.tok _, rfl, c⟩) hs
/-- known[k] = v, k not there -/
def rSetN (K : PySem.W.Frag) (P : Program) (w : World) : V → V → V → Hp → (Hp → Prop) → Prop := fun o i v H Q => ∃ (q d r : Addr) (k : List Int × List Int) (xs : List NE), o = .ref d ∧ i = .ref q ∧ v = .ref r ∧ KeyAt K H q k ∧ H d = some (NdO P w d xs) ∧ KeysAt K H xs ∧
  k ∉ nkeys xs ∧ xs.length < sizeLine ∧ Q (upd H d (NdO P w d (xs ++ [(k, q, r)])))
theorem set_nd (hu : X.A.units + 64 < cLine) : PSet X (rSetN X.K X.prog X.w) := by
  intro pins s σ H o i v ov iv u Q I ro ri rv h
  obtain ⟨q, d, r, k, xs, rfl, rfl, rfl, hq, hd, hk, hn, hz, c⟩ := h
  cases ro
  cases ri
  cases rv
  have R := ndO_get I hd
  have dd := nd_dict I hd hk
  have e1 : rawN (xs ++ [(k, q, r)]) = rawN xs ++ [(nkey k, q, .ref r)] := by
    unfold rawN
    rw [List.map_append]
    rfl
  refine wpAny_setItem_heap (hsz := by unfold rawN; rw [List.length_map]; omega) (room_n hu) (key_is I hq) dd fun h' hm' hs => ?_
  rw [storedH_new (at_none hn), ← e1] at hm'
  obtain ⟨o, es, ep, ho, hx, hdt, he, _, _⟩ := hm'
  have new : NdR X.prog X.w d (xs ++ [(k, q, r)]) h' := by
    refine ⟨R.1, by rw [List.length_append]; exact hz, ?_, o, es, ep, ho, hx, hdt, he⟩
    unfold nkeys
    rw [List.map_append]
    exact nd_snoc R.2.2.1 hn
  exact ⟨_, I.write (x := d) (e := d) (t' := s.toks + _) (by rw [hd]; trivial) (.inl rfl) (fun b o' hb e => (hs.2 b hb).trans e) ⟨o, ho⟩ (ndO_new new), c⟩
/-- {} -/
def tDNewN (P : Program) (w : World) : TE := fun _ H Q => ∀ p, H p = none → Q (.ref p) (upd H p (NdO P w p []))
theorem pe_dnewN {pos : Pos} : PE X (.Dict [] [] pos) (tDNewN X.prog X.w) := ⟨fun pins s σ H Q I h => by
  refine wpAny_Dict_empty ?_
  have big := I.big
  have new : NdR X.prog X.w s.heap.objs.size [] (s.heap.push { cls := .type "dict", data := .dict #[] }) :=
    ⟨beq_eq_false_iff_ne.mpr (Nat.ne_of_gt big), Nat.zero_le _, List.nodup_nil, _, #[], 0, Heap.get?_push_size _ rfl, ⟨rfl, rfl, rfl⟩, rfl, rfl⟩
  exact ⟨.ref s.heap.objs.size, _, I.laid (a := s.heap.objs.size) (t' := s.toks) (fun _ _ q => Heap.get?_push_of_some _ q) (Nat.le_refl _) (ndO_new new), rfl, h _ (I.hok.fresh (Nat.le_refl _))⟩⟩
end
end Qw
set_option Elab.async false
set_option maxRecDepth 100000
set_option linter.all false
set_option maxHeartbeats 4000000
/-! QRules3: set(xs), xs a list of ints. -/
namespace Qw
open PySem PySem.Spec PyProof.Rows L2
section
variable {P : Program} {w : World} {A : Around} {E : Value → Shared → Prop} {s : Shared}
abbrev freshSet (w : World) : Obj := { cls := .type "set", dict := none, data := .set #[] 0 (.fresh 0 0 (!w.params.followText "set-order")) }
/-- what set.__init__ does with a list of ints, the empty set at S being the newest object -/
theorem fill_set {l S : Addr} {items : Array Value} (ns : List Int) (hh : A.handled = none) (hS : s.heap.get? S = some (freshSet w)) (hz : s.heap.objs.size = S + 1) (hl : s.heap.IsList l items) (hlS : l < S)
    (hi : IntsAre items.toList ns) (hb : ns.length + 1 < scanBound) {R : Result → Shared → Prop}
    (h : ∀ h' tk c, SetR w h' S (fun j => decide (j ∈ ns)) c → c ≤ ns.length → (∀ b o, b ≠ S → s.heap.get? b = some o → h'.get? b = some o) → R (.ok (.ret .none)) { s with heap := h', toks := tk }) :
    wpAny (model P w) A.in1 (Builtin.«set.__init__» ⟨[.ref S, .ref l], []⟩) (fun fin s' => match fin with | .done f => R (.ok f) s' | .again c' => c'.quiet = true ∧ codeAny (model P w) A c' R s') (fun e s' => R (.error e) s') s := by
  have nI : items.size = ns.length := by
    have e := IntsAre.length hi
    rwa [Array.length_toList] at e
  have tS : s.TypeIs (.ref S) "set" := ⟨_, hS, rfl⟩
  obtain ⟨⟨c0, d0, dt0, sl0⟩, ho, hc, n0, hd⟩ := id hl
  cases (show c0 = .type "list" from hc)
  cases (show dt0 = .seq items n0 from hd)
  have x1 := F.sub_list_set
  have x2 := F.sub_list_frozenset
  have x3 : (Value.type "list" == Value.type "dict") = false := by decide
  unfold Builtin.«set.__init__» noKeywords Builtin.Frozenset.updateFrom
  generalize hPI : pyIter = PI
  wp_walk
  subst hPI
  refine wpAny_pyIter_list hl (wpAny_bind (wpAny_runValue ?_))
  have neI : l ≠ s.heap.objs.size := Nat.ne_of_lt (by rw [hz]; exact Nat.lt_succ_of_lt hlS)
  have neS : S ≠ s.heap.objs.size := Nat.ne_of_lt (by rw [hz]; exact Nat.lt_succ_self _)
  have off : S ∉ [s.heap.objs.size, l] := fun m => by
    rcases List.mem_cons.mp m with e | m
    · exact neS e
    · exact Nat.ne_of_gt hlS (List.mem_singleton.mp m)
  have each : ∀ (i : Nat) (v : Value), items[i]? = some v → ∃ k t, ns[i]? = some k ∧ v = .int k t := fun i v hv => by
    have lt : i < ns.length := by rw [← nI]; exact (Array.getElem?_eq_some_iff.mp hv).1
    obtain ⟨t, e⟩ := IntsAre.int_at hi i v (by rw [Array.getElem?_toList]; exact hv)
    refine ⟨ns[i], t, List.getElem?_eq_getElem lt, e.trans ?_⟩
    rw [List.getD_eq_getElem?_getD, List.getElem?_eq_getElem lt, Option.getD_some]
  have st0 : SetR w (s.heap.push { cls := .type "list_iterator", data := .fields #[.ref l, .int 0 0] }) S (fun j => decide (j ∈ ns.take 0)) 0 := setR_new_at (Heap.get?_push_of_some _ hS)
  refine set_update_ints ((Walks.list (by simp [hh]) s.heap.objs.size l neI items).toS) S off ns nI hb each items.size 0 _ (Nat.sub_zero _) (Nat.zero_le _) ⟨⟨_, Heap.get?_push_size _ rfl, rfl, rfl⟩, hl.push _⟩ ⟨0, Nat.le_refl _, st0⟩ fun s' c m hc' hS' => ?_
  have e1 : s'.gens = s.gens := m.gens
  have e2 : s'.drawn = s.drawn := m.drawn
  have e3 : s'.os = s.os := m.os
  have es : s' = { s with heap := s'.heap, toks := s'.toks } := by
    cases s'
    cases s
    cases e1
    cases e2
    cases e3
    rfl
  refine wpAny_pure (wpAny_pure ?_)
  have key := h s'.heap s'.toks c hS' (by omega) fun b o nb e => m.heap b o (fun mem => ?_) (Heap.get?_push_of_some _ e)
  · rw [← es] at key
    exact key
  · rcases List.mem_cons.mp mem with z | mem
    · exact nb z
    · have z : b = s.heap.objs.size := List.mem_singleton.mp mem
      exact absurd (Heap.lt_size e) (by rw [z]; exact Nat.lt_irrefl _)
theorem set_of_list {l : Addr} {items : Array Value} (ns : List Int) {Q : Value → Shared → Prop} (hh : A.handled = none) (hl : s.heap.IsList l items) (hi : IntsAre items.toList ns) (hb : ns.length + 1 < scanBound)
    (h : ∀ (h' : Heap) (tk c : Nat), SetR w h' s.heap.objs.size (fun j => decide (j ∈ ns)) c → c ≤ ns.length → (∀ b o, s.heap.get? b = some o → h'.get? b = some o) → Q (.ref s.heap.objs.size) { s with heap := h', toks := tk }) :
    wpAny (model P w) A (call (.type "set") [.ref l]) Q E s := by
  have lS : l < s.heap.objs.size := by
    obtain ⟨_, ho, _⟩ := hl
    exact Heap.lt_size ho
  have tc := F.typeCall_set_1 (.ref l)
  have nt := F.called_set.notType
  have cc := F.called_set.canCreate
  have su := F.called_set.sub
  have md := F.called_set.made
  obtain ⟨mc, mt, mr⟩ := F.called_set.mro
  refine wpAny_call (codeAny_of_tree (show wpAny _ _ (callAny (.type "set") _) _ _ _ from wpAny_pure ⟨Code.quiet_builtin _ (by decide +kernel), codeAny_builtin F.entry_type_call ?_⟩))
  rw [Around.under_plain (weight_type_call_type "set" [.ref l] []) rfl]
  repeat any_goals first | assumption | wp_step
  refine codeAny_mono (code_set_led1 (.ref l) (E := E) (Q₁ := fun ob s₁ => ob = .ref s.heap.objs.size ∧ s₁ = { s with heap := s.heap.push (freshSet w) }) ⟨rfl, rfl⟩) fun r1 s1 hr1 => ?_
  match r1, hr1 with
  | .error e, hr1 => exact hr1
  | .ok (.ret ob), hr1 =>
    obtain ⟨rfl, rfl⟩ := hr1
    have hS : (s.heap.push (freshSet w)).get? s.heap.objs.size = some (freshSet w) := Heap.get?_push_size _ rfl
    have tS : Shared.TypeIs { s with heap := s.heap.push (freshSet w) } (.ref s.heap.objs.size) "set" := ⟨_, hS, rfl⟩
    have lk := F.called_set.init.lookup
    have bd := F.called_set.init.bind (.ref s.heap.objs.size)
    repeat any_goals first | assumption | wp_step
    refine codeAny_mono (codeAny_call_builtin (R := wants (fun r2 s2 => r2 = .none ∧ Q (.ref s.heap.objs.size) s2) E) F.called_set.init.plain F.entry_set_init (check_set_init_1 tS ?_)) fun r2 s2 hr2 => ?_
    · refine fill_set (A := A.in1) (s := { s with heap := s.heap.push (freshSet w) }) ns hh hS (Heap.size_push ..) (hl.push _) lS hi hb fun h' tk c hR hc hk => ?_
      exact ⟨rfl, h h' tk c hR hc fun b o e => hk b o (Nat.ne_of_lt (Heap.lt_size e)) (Heap.get?_push_of_some _ e)⟩
    · match r2, hr2 with
      | .error e, hr2 => exact hr2
      | .ok (.ret v2), hr2 =>
        obtain ⟨rfl, hq⟩ := hr2
        repeat any_goals first | assumption | wp_step
end
section
variable {X : Cx}
def rSetL' (K : PySem.W.Frag) (w : World) : List V → Hp → VK → Prop := fun xs H Q => ∃ (l : Addr) (ns : List Int), xs = [V.ref l] ∧ SqL K H l (ns.map V.int) ∧ ns.length + 1 < scanBound ∧
  ∀ a c, H a = none → (∀ bs : List Int, (∀ j ∈ ns, j ∈ bs) → c ≤ bs.length) → Q (.ref a) (upd H a (SetO w a (fun j => decide (j ∈ ns)) c))
theorem nodup_len : ∀ {xs : List Int}, xs.Nodup → ∀ bs : List Int, (∀ x ∈ xs, x ∈ bs) → xs.length ≤ bs.length
  | [], _, _, _ => Nat.zero_le _
  | x :: xs, h, bs, hb => by
    rw [List.nodup_cons] at h
    have hx := hb x List.mem_cons_self
    have ih := nodup_len h.2 (bs.erase x) fun y hy => (List.mem_erase_of_ne (fun z : y = x => h.1 (by rw [← z]; exact hy))).mpr (hb y (List.mem_cons_of_mem _ hy))
    rw [List.length_erase_of_mem hx] at ih
    have := List.length_pos_of_mem hx
    rw [List.length_cons]
    omega
theorem setR_count {w : World} {h : Heap} {a : Addr} {ns : List Int} {c : Nat} (R : SetR w h a (fun j => decide (j ∈ ns)) c) (bs : List Int) (hb : ∀ j ∈ ns, j ∈ bs) : c ≤ bs.length := by
  obtain ⟨o, es, ep, t, _, _, _, _, nd, mem, _, _, ec, _⟩ := R
  rw [← ec, ← Array.length_toList, ← List.length_map (f := keyOf)]
  exact nodup_len nd bs fun x hx => hb x (of_decide_eq_true ((mem x).mpr hx))
theorem call_setL (hc : X.calm = true) : CallR X (.type "set") (rSetL' X.K X.w) := by
  intro pins s σ H xs us Q I r h
  obtain ⟨l, ns, rfl, hl, hb, q⟩ := h
  rw [Vals.ref1 r]
  obtain ⟨its, rv, pl, hz⟩ := I.list hl
  refine set_of_list ns (I.ok.hd hc) pl.isList (by simpa using ints_of_vals rv) hb fun h' tk c hR hc' hk => ?_
  exact ⟨.ref s.heap.objs.size, _, I.laid (t' := tk) hk (Nat.le_refl _) (setO_new hR), rfl, q _ c (I.hok.fresh (Nat.le_refl _)) (setR_count hR)⟩
end
end Qw
set_option Elab.async false
set_option maxRecDepth 100000
set_option linter.all false
set_option maxHeartbeats 4000000
/-! QRules4: list(enumerate(xs)), xs a list. -/
namespace Qw
open PySem PySem.Spec PyProof.Rows L2
open PySem.W (KdxG)

/-- the numbered items -/
def numb {α : Type} (xs : List α) : List (Key × α) := xs.zipIdx.map fun q => (Sum.inl (q.2 : Int), q.1)
theorem numb_len {α : Type} (xs : List α) : (numb xs).length = xs.length := by unfold numb; rw [List.length_map, List.length_zipIdx]
theorem numb_at {α : Type} {xs : List α} {i : Nat} {x : α} (h : xs[i]? = some x) : (numb xs)[i]? = some (Sum.inl (i : Int), x) := by
  unfold numb
  rw [List.getElem?_map, List.getElem?_zipIdx, h]
  simp
theorem numb_kv : ∀ {xs : List V} {us : List Value}, Vals xs us → ∀ n : Nat, KV ((xs.zipIdx n).map fun q => ((Sum.inl (q.2 : Int) : Key), q.1)) ((us.zipIdx n).map fun q => ((Sum.inl (q.2 : Int) : Key), q.1))
  | _, _, .nil, _ => .nil
  | _, _, .cons r t, n => .cons ⟨rfl, r⟩ (numb_kv t (n + 1))

/-- the iterator ahead of turn i, the tuple given out last (if any) still there -/
def EnSt (h : Heap) (e it l S : Addr) (i : Nat) : Prop :=
  h.IsListIter it l i ∧ ((∃ old, IsEnum h e it i old) ∨ ∃ old T f oT, IsEnumHeld h e it i old T f ∧ h.get? T = some oT ∧ T ≠ e ∧ T ≠ it ∧ T ≠ S)
section
variable {P : Program} {w : World} {A : Around} {E : Value → Shared → Prop} {s : Shared} {e it l S : Addr} {items : Array Value}
theorem EnSt.move {h h' : Heap} {i : Nat} (x : EnSt h e it l S i) (k : ∀ b o, b ≠ S → h.get? b = some o → h'.get? b = some o) (he : e ≠ S) (hi : it ≠ S) : EnSt h' e it l S i := by
  obtain ⟨⟨o, ho, hr⟩, y⟩ := x
  refine ⟨⟨o, k _ _ hi ho, hr⟩, ?_⟩
  rcases y with ⟨old, y⟩ | ⟨old, T, f, oT, y, z, n1, n2, n3⟩
  · exact .inl ⟨old, k _ _ he y⟩
  · exact .inr ⟨old, T, f, oT, k _ _ he y, k _ _ n3 z, n1, n2, n3⟩
theorem en_next {i : Nat} {x : Value} {Q : Option Value → Shared → Prop} (st : EnSt s.heap e it l S i) (hl : s.heap.IsList l items) (hx : items[i]? = some x) (hne : e ≠ it) (hS : S < s.heap.objs.size)
    (hQ : ∀ h', EnSt h' e it l S (i + 1) → h'.get? s.heap.objs.size = some { cls := .type "tuple", data := .seq #[.int i s.toks, x] } → h'.objs.size = s.heap.objs.size + 1 →
      (∀ b o, b ≠ e → b ≠ it → s.heap.get? b = some o → h'.get? b = some o) → Q (some (.ref s.heap.objs.size)) { s with heap := h', toks := s.toks + 1 }) : wpAny (model P w) A (pyNext (.ref e)) Q E s := by
  obtain ⟨hit, y⟩ := st
  have ce : ((i + 1 : Nat) : Int) = (i : Int) + 1 := by omega
  rcases y with ⟨old, y⟩ | ⟨old, T, f, oT, y, z, n1, n2, n3⟩
  · refine wpAny_pyNext_enum_item y hit hl hx hne fun h' a1 a2 a3 a4 a5 => hQ h' ⟨a2, .inr ⟨x, _, false, _, by rw [ce]; exact a1, a3, Nat.ne_of_gt (Heap.lt_size y), ?_, Nat.ne_of_gt hS⟩⟩ a3 a4 a5
    obtain ⟨_, ho, _⟩ := hit
    exact Nat.ne_of_gt (Heap.lt_size ho)
  · exact wpAny_pyNext_enum_item_held y z n1 n2 hit hl hx hne fun h' a1 a2 a3 a4 a5 => hQ h' ⟨a2, .inr ⟨old, T, true, oT, by rw [ce]; exact a1, a5 _ _ n1 n2 z, n1, n2, n3⟩⟩ a3 a4 a5
theorem en_end {i : Nat} {Q : Option Value → Shared → Prop} (hh : A.handled = none) (st : EnSt s.heap e it l S i) (hl : s.heap.IsList l items) (hx : items[i]? = none)
    (hQ : ∀ h', Heap.ExtBut it s.heap h' → Q none { s with heap := h' }) : wpAny (model P w) A (pyNext (.ref e)) Q E s := by
  obtain ⟨hit, y⟩ := st
  rcases y with ⟨old, y⟩ | ⟨old, T, f, oT, y, _⟩
  · exact wpAny_pyNext_enum_end hh y hit hl hx hQ
  · exact wpAny_pyNext_enum_end_held hh y hit hl hx hQ
/-- what is known of the tuples made so far -/
abbrev Made (P : Program) (w : World) (items : Array Value) (lo : Addr) (h : Heap) (as : List Addr) : Prop := KdxG (mixKind P w) (numb items.toList) lo h as
theorem en_loop {R : Result → Shared → Prop} (hh : A.handled = none) (hei : e ≠ it) (heS : e ≠ S) (hiS : it ≠ S) (hlS : l ≠ S) (hle : l ≠ e) (hli : l ≠ it) {lo : Addr} (hSlo : S ≤ lo) (he0 : e ≤ lo) (hi0 : it ≤ lo) (hn : items.size ≤ sizeLine) (res : Value) {h0 : Heap}
    (hR : ∀ h' tk acc c as, (∀ b o, b ≠ S → b ≠ e → b ≠ it → h0.get? b = some o → h'.get? b = some o) → h'.get? S = some { cls := .type "list", dict := none, data := .seq acc c, slots := #[] } → as.length = items.size → Made P w items lo h' as →
      acc.toList = as.map Value.ref → R (.ok (.ret res)) { s with heap := h', toks := tk }) :
    ∀ (k i : Nat) (h : Heap) (tk c : Nat) (acc : Array Value) (as : List Addr), items.size - i = k → i ≤ items.size → EnSt h e it l S i → h.IsList l items → (∀ b o, b ≠ S → b ≠ e → b ≠ it → h0.get? b = some o → h.get? b = some o) →
      h.get? S = some { cls := .type "list", dict := none, data := .seq acc c, slots := #[] } → acc.toList = as.map Value.ref → as.length = i → Made P w items lo h as → lo < h.objs.size →
      codeAny (model P w) A (.builtin "list.extend.loop" ⟨[.ref S, .ref e, res], []⟩) R { s with heap := h, toks := tk } := by
  intro k
  induction k with
  | zero =>
    intro i h tk c acc as hk hi st hl kp hS ha hal hG hlo
    refine codeAny_builtin PySem.F.entry_extend_loop ?_
    rw [Around.under_plainId PySem.F.plain_extend_loop _]
    show wpAny _ A.in1 (pyNext (.ref e) >>= _) _ _ _
    refine wpAny_bind (en_end (s := { s with heap := h, toks := tk }) (A := A.in1) hh st hl (Array.getElem?_eq_none (by omega)) fun h' x => ?_)
    have nit : ∀ a ∈ as, a ≠ it := fun a m => Nat.ne_of_gt (Nat.lt_of_le_of_lt hi0 (hG.above a m))
    refine wpAny_pure (hR h' tk acc c as (fun b o n1 n2 n3 q => x b o n3 (kp b o n1 n2 n3 q)) (x S _ hiS.symm hS) (by omega) ⟨hG.rise, hG.above, fun j a hj => ?_⟩ ha)
    obtain ⟨key, kk, v, q1, q2, q3⟩ := hG.pairs j a hj
    exact ⟨key, kk, v, q1, q2, x a _ (nit a (List.mem_of_getElem? hj)) q3⟩
  | succ k ih =>
    intro i h tk c acc as hk hi st hl kp hS ha hal hG hlo
    have lt : i < items.size := by omega
    have hx : items[i]? = some items[i] := Array.getElem?_eq_getElem lt
    have sz : acc.size = i := by rw [← Array.length_toList, ha, List.length_map, hal]
    have Slt : S < h.objs.size := Heap.lt_size hS
    refine codeAny_builtin PySem.F.entry_extend_loop ?_
    rw [Around.under_plainId PySem.F.plain_extend_loop _]
    show wpAny _ A.in1 (pyNext (.ref e) >>= _) _ _ _
    refine wpAny_bind (en_next (s := { s with heap := h, toks := tk }) (S := S) st hl hx hei Slt fun h' st' ht hz hkp => ?_)
    dsimp only at ht hz hkp ⊢
    have hS' := hkp S _ heS.symm hiS.symm hS
    generalize hp : h.objs.size = p at *
    have off : ∀ b o, b ≠ S → h'.get? b = some o → (h'.update S (Obj.mapSeq (·.push (Value.ref p)))).get? b = some o := fun b o nb q => (Heap.get?_update_other _ _ (Ne.symm nb)).trans q
    show wpAny _ A.in1 (updateSeq S (·.push (Value.ref p)) >>= _) _ _ _
    refine wpAny_bind (wpAny_updateSeq hS' rfl (wpAny_pure ⟨plainId_quiet PySem.F.plain_extend_loop _, ?_⟩) (by rw [sz]; omega) (by show (acc.push (Value.ref p)).size ≤ sizeLine + 1; rw [Array.size_push, sz]; omega))
    have atS : (h'.update S (Obj.mapSeq (·.push (Value.ref p)))).get? S = some { cls := .type "list", dict := none, data := .seq (acc.push (Value.ref p)) _, slots := #[] } := Heap.get?_update_self _ hS' rfl
    have hl' : (h'.update S (Obj.mapSeq (·.push (Value.ref p)))).IsList l items := by
      obtain ⟨o, ho, r⟩ := hl
      exact ⟨o, off l o hlS (hkp l o hle hli ho), r⟩
    have Pne : p ≠ S := Nat.ne_of_gt Slt
    have inP : (h'.update S (Obj.mapSeq (·.push (Value.ref p)))).get? p = some { cls := .type "tuple", data := .seq #[.int i tk, items[i]] } := off p _ Pne ht
    refine ih (i + 1) _ (tk + 1) _ (acc.push (Value.ref p)) (as ++ [p]) (by omega) lt (st'.move off heS hiS) hl' (fun b o n1 n2 n3 q => off b o n1 (hkp b o n2 n3 (kp b o n1 n2 n3 q))) atS
      (by rw [Array.toList_push, ha, List.map_append]; rfl) (by rw [List.length_append, hal]; rfl) ⟨?_, fun a m => ?_, fun j a hj => ?_⟩ (Nat.lt_trans hlo (Heap.lt_size inP))
    · refine List.pairwise_append.mpr ⟨hG.rise, List.pairwise_singleton _ _, fun a m b mb => ?_⟩
      rw [List.mem_singleton.mp mb, ← hp]
      exact hG.there m
    · rcases List.mem_append.mp m with m | m
      · exact hG.above a m
      · rw [List.mem_singleton.mp m]
        exact hlo
    · by_cases c1 : j < as.length
      · rw [List.getElem?_append_left c1] at hj
        obtain ⟨key, kk, v, q1, q2, q3⟩ := hG.pairs j a hj
        have ab := hG.above a (List.mem_of_getElem? hj)
        exact ⟨key, kk, v, q1, q2, off a _ (Nat.ne_of_gt (Nat.lt_of_le_of_lt hSlo ab)) (hkp a _ (Nat.ne_of_gt (Nat.lt_of_le_of_lt he0 ab)) (Nat.ne_of_gt (Nat.lt_of_le_of_lt hi0 ab)) q3)⟩
      · have jl : j < (as ++ [p]).length := (List.getElem?_eq_some_iff.mp hj).1
        rw [List.length_append, List.length_singleton] at jl
        have je : j = as.length := by omega
        subst je
        rw [List.getElem?_append_right (Nat.le_refl _), Nat.sub_self] at hj
        have ea : p = a := Option.some.inj hj
        subst ea
        refine ⟨.int i tk, Sum.inl (i : Int), items[i], ?_, mixKind_int _ _ _ _, inP⟩
        rw [hal]
        exact numb_at (by rw [Array.getElem?_toList]; exact hx)
theorem enum_no_len : typeLookup (.type "enumerate") "__len__" = pure none := am_miss_of_fast (by decide +kernel)
theorem enum_no_hint : typeLookup (.type "enumerate") "__length_hint__" = pure none := am_miss_of_fast (by decide +kernel)
theorem en_extend {R : Result → Shared → Prop} {old : Value} (hh : A.handled = none) (hE : IsEnum s.heap e it 0 old) (hI : s.heap.IsListIter it l 0) (hl : s.heap.IsList l items) (hei : e ≠ it) (hle : l ≠ e) (hli : l ≠ it) (hz : s.heap.objs.size = S + 1) (heS : e < S) (hiS : it < S) (hlS : l < S)
    (res : Value) (c0 : Nat) (hS : s.heap.get? S = some { cls := .type "list", data := .seq #[] c0 }) (hn : items.size ≤ sizeLine)
    (hR : ∀ h' tk acc c as, (∀ b o, b ≠ S → b ≠ e → b ≠ it → s.heap.get? b = some o → h'.get? b = some o) → h'.get? S = some { cls := .type "list", dict := none, data := .seq acc c, slots := #[] } → as.length = items.size → Made P w items S h' as →
      acc.toList = as.map Value.ref → R (.ok (.ret res)) { s with heap := h', toks := tk }) :
    wpAny (model P w) A.in1 (Builtin.List.listExtendWith (.ref S) (.ref e) res)
      (fun fin s' => match fin with | .done f => R (.ok f) s' | .again c' => c'.quiet = true ∧ codeAny (model P w) A c' R s') (fun er s' => R (.error er) s') s := by
  have tE : s.TypeIs (.ref e) "enumerate" := ⟨_, hE, rfl⟩
  have neE : e ≠ S := Nat.ne_of_lt heS
  unfold Builtin.List.listExtendWith
  refine wpAny_bind (wpAny_typeOf tE ?_)
  have g1 : Builtin.List.listSameRef (.ref S) (.ref e) = false := beq_eq_false_iff_ne.mpr neE.symm
  have g2 : (Value.type "enumerate" == Value.type "list") = false := by decide
  have g3 : (Value.type "enumerate" == Value.type "tuple") = false := by decide
  simp only [g1, g2, g3, Bool.or_false, Bool.false_eq_true, if_false]
  refine wpAny_bind (wpAny_pyIter_enum hE (wpAny_bind (wpAny_holding ?_)))
  unfold Builtin.List.listLengthHint
  refine wpAny_bind (wpAny_specialOf tE enum_no_len ?_)
  show wpAny _ _ (specialOf (Value.ref e) (Str.ofString "__length_hint__") >>= _) _ _ _
  refine wpAny_bind (wpAny_specialOf tE enum_no_hint (wpAny_pure ?_))
  show wpAny _ _ (rule "list.extend.makes-room" >>= fun _ => Builtin.List.listTouch (.ref S) >>= fun _ => again (.builtin "list.extend.loop" ⟨[.ref S, .ref e, res], []⟩)) _ _ _
  refine wpAny_bind (wpAny_rule (wpAny_bind ?_))
  show wpAny _ _ (updateSeq S (·.push .none) >>= fun _ => updateSeq S (·.pop)) _ _ _
  refine wpAny_bind (wpAny_updateSeq hS rfl ?_)
  have hS2 := Heap.get?_update_self (Obj.mapSeq (·.push Value.none)) hS rfl
  refine wpAny_updateSeq (hz := by seq_fits) hS2 rfl ?_
  have hS3 := Heap.get?_update_self (Obj.mapSeq (·.pop)) hS2 rfl
  have oth : ∀ b o, b ≠ S → s.heap.get? b = some o → ((s.heap.update S (Obj.mapSeq (·.push Value.none))).update S (Obj.mapSeq (·.pop))).get? b = some o := fun b o nb q =>
    (Heap.get?_update_other _ _ (Ne.symm nb)).trans ((Heap.get?_update_other _ _ (Ne.symm nb)).trans q)
  have neI : it ≠ S := Nat.ne_of_lt hiS
  have neL : l ≠ S := Nat.ne_of_lt hlS
  have st0 : EnSt s.heap e it l S 0 := ⟨hI, .inl ⟨old, hE⟩⟩
  refine wpAny_pure ⟨plainId_quiet PySem.F.plain_extend_loop _, ?_⟩
  refine en_loop (s := s) (h0 := s.heap) (lo := S) hh hei neE neI neL hle hli (Nat.le_refl _) (Nat.le_of_lt heS) (Nat.le_of_lt hiS) hn res hR items.size 0 _ _ _ #[] [] (Nat.sub_zero _) (Nat.zero_le _) (st0.move oth neE neI) ?_ (fun b o n1 _ _ q => oth b o n1 q) hS3 rfl rfl ⟨List.Pairwise.nil, (fun _ m => nomatch m), (fun j a hj => by simp at hj)⟩ (Heap.lt_size hS3)
  obtain ⟨o, ho, r⟩ := hl
  exact ⟨o, oth l o neL ho, r⟩
theorem en_call {Q : Value → Shared → Prop} {old : Value} (hh : A.handled = none) (hE : IsEnum s.heap e it 0 old) (hI : s.heap.IsListIter it l 0) (hl : s.heap.IsList l items) (hei : e ≠ it) (hle : l ≠ e) (hli : l ≠ it) (hn : items.size ≤ sizeLine)
    (hQ : ∀ h' tk acc c as, (∀ b o, b ≠ e → b ≠ it → s.heap.get? b = some o → h'.get? b = some o) → h'.get? s.heap.objs.size = some { cls := .type "list", dict := none, data := .seq acc c, slots := #[] } → as.length = items.size → Made P w items s.heap.objs.size h' as →
      acc.toList = as.map Value.ref → Q (.ref s.heap.objs.size) { s with heap := h', toks := tk }) :
    wpAny (model P w) A (call (.type "list") [.ref e]) Q E s := by
  have he : e < s.heap.objs.size := Heap.lt_size hE
  have hi : it < s.heap.objs.size := by
    obtain ⟨_, ho, _⟩ := hI
    exact Heap.lt_size ho
  have hll : l < s.heap.objs.size := by
    obtain ⟨_, ho, _⟩ := hl
    exact Heap.lt_size ho
  refine callType_codes (Q₁ := fun ob s₁ => ob = .ref s.heap.objs.size ∧ s₁ = { s with heap := s.heap.push { cls := .type "list", data := .seq #[] } }) PySem.F.called_list (PySem.F.typeCall_list_1 _) PySem.F.entry_list_init (code_list_new _ ⟨rfl, rfl⟩) fun ob s₁ h₁ => ?_
  obtain ⟨rfl, rfl⟩ := h₁
  have hS : (s.heap.push { cls := .type "list", data := .seq #[] }).get? s.heap.objs.size = some { cls := .type "list", data := .seq #[] } := Heap.get?_push_size _ rfl
  refine ⟨⟨_, hS, rfl⟩, PySem.F.args_list_init_2 _ _, ?_⟩
  show wpAny _ _ (do let was ← Builtin.List.listItems (.ref s.heap.objs.size); Builtin.List.listUpdate (.ref s.heap.objs.size) (fun _ => #[]); letGo was.toList.reverse; Builtin.List.listExtendWith (.ref s.heap.objs.size) (.ref e) .none) _ _ _
  refine wpAny_bind ?_
  unfold Builtin.List.listItems
  refine wpAny_bind (wpAny_seqItems hS rfl (wpAny_pure ?_))
  show wpAny _ _ (updateSeq s.heap.objs.size (fun _ => #[]) >>= fun _ => letGo (#[] : Array Value).toList.reverse >>= fun _ => Builtin.List.listExtendWith (.ref s.heap.objs.size) (.ref e) .none) _ _ _
  refine wpAny_bind (wpAny_updateSeq hS rfl ?_)
  have hS2 := Heap.get?_update_self (Obj.mapSeq (fun _ => (#[] : Array Value))) hS rfl
  have oth : ∀ b o, s.heap.get? b = some o → ((s.heap.push { cls := .type "list", data := .seq #[] }).update s.heap.objs.size (Obj.mapSeq (fun _ => (#[] : Array Value)))).get? b = some o := fun b o q =>
    (Heap.get?_update_other _ _ (Nat.ne_of_gt (Heap.lt_size q))).trans (Heap.get?_push_of_some _ q)
  refine wpAny_bind (wpAny_letGo ?_)
  have hI' : ((s.heap.push { cls := .type "list", data := .seq #[] }).update s.heap.objs.size (Obj.mapSeq (fun _ => (#[] : Array Value)))).IsListIter it l 0 := by
    obtain ⟨o, ho, r⟩ := hI
    exact ⟨o, oth _ _ ho, r⟩
  have hl' : ((s.heap.push { cls := .type "list", data := .seq #[] }).update s.heap.objs.size (Obj.mapSeq (fun _ => (#[] : Array Value)))).IsList l items := by
    obtain ⟨o, ho, r⟩ := hl
    exact ⟨o, oth _ _ ho, r⟩
  refine en_extend (A := A.in1) (S := s.heap.objs.size) hh (oth _ _ hE) hI' hl' hei hle hli ?_ he hi hll .none _ hS2 hn fun h' tk acc c as hk hS' hla hG hacc => ?_
  · show ((s.heap.push { cls := .type "list", data := .seq #[] }).update s.heap.objs.size (Obj.mapSeq (fun _ => (#[] : Array Value)))).objs.size = s.heap.objs.size + 1
    rw [Heap.size_update, Heap.size_push]
  · exact ⟨rfl, hQ h' tk acc c as (fun b o n1 n2 q => hk b o (Nat.ne_of_lt (Heap.lt_size q)) n1 n2 (oth b o q)) hS' hla hG hacc⟩
end

section
variable {X : Cx} {pins : List (Addr × Obj)} {σ : L2.St} {H : Hp} {s : Shared}
/-- a list and its tuples, laid behind what stood -/
theorem laid_at {h' : Heap} {tk c : Nat} {S : Addr} {kvs : List (Key × V)} {vs : List (Key × Value)} {acc : Array Value} {as : List Addr} (I : Inv X pins σ H s) (hz : kvs.length ≤ sizeLine) (kv : KV kvs vs) (hk : ∀ b o, s.heap.get? b = some o → h'.get? b = some o)
    (lo : s.heap.objs.size ≤ S) (hS : h'.get? S = some { cls := .type "list", dict := none, data := .seq acc c, slots := #[] }) (hl : as.length = vs.length) (g : KdxG (mixKind X.prog X.w) vs S h' as) (ha : acc.toList = as.map Value.ref) :
    ∃ H' : Hp, Same H H' ∧ H S = none ∧ (∀ t ∈ as, H t = none) ∧ S ∉ as ∧ H' S = some (.lst (as.map V.ref)) ∧ Paired (fun (t : Addr) (q : Key × V) => H' t = some (.tup [kV q.1, q.2])) as kvs ∧ Inv X pins σ H' { s with heap := h', toks := tk } := by
  have n1 : kvs.length = vs.length := Paired.length kv
  have fS : H S = none := I.hok.fresh lo
  have ge : ∀ t ∈ as, s.heap.objs.size ≤ t := fun t m => Nat.le_trans lo (Nat.le_of_lt (g.above t m))
  have fT : ∀ t ∈ as, H t = none := fun t m => I.hok.fresh (ge t m)
  have Sout : S ∉ as := fun m => Nat.lt_irrefl _ (g.above _ m)
  have dis : as.Nodup := g.rise.imp fun h => Nat.ne_of_lt h
  let G := LiI.putT (upd H S (.lst (as.map V.ref))) as kvs
  have gT : Paired (fun (t : Addr) (q : Key × V) => G t = some (.tup [kV q.1, q.2])) as kvs := LiI.putT_at as kvs _ (hl.trans n1.symm) dis
  have gS : G S = some (.lst (as.map V.ref)) := (LiI.putT_off as kvs _ Sout).trans upd_same
  have gO : ∀ b, b ∉ as → b ≠ S → G b = H b := fun b c1 c2 => (LiI.putT_off as kvs _ c1).trans (upd_ne c2)
  have sm : Same H G := fun b o e => by
    rw [gO b (fun m => by rw [fT b m] at e; cases e) (fun z => by rw [z, fS] at e; cases e)]
    exact e
  have old : ∀ b o, s.heap.get? b = some o → b ∉ as ∧ b ≠ S := fun b o e => ⟨fun m => Nat.lt_irrefl _ (Nat.lt_of_lt_of_le (Heap.lt_size e) (ge b m)), Nat.ne_of_lt (Nat.lt_of_lt_of_le (Heap.lt_size e) lo)⟩
  have un : Un (frs X.stack) [] H G s.heap h' := {
    keep := fun b o e _ _ _ => hk b o e
    slot := fun b o e _ _ _ => ⟨o.slots, hk b o e⟩
    free := fun b o e n _ => (gO b (old b o e).1 (old b o e).2).trans n
    there := fun b o e _ => ⟨o, hk b o e⟩
    tups := fun b xs e => sm b _ e
    frzs := fun b o u e => sm b _ e
    tbls := fun b ps e => ⟨#[], (sm b _ e).trans (by rw [Array.append_empty])⟩ }
  refine ⟨G, sm, fS, fT, Sout, gS, gT, I.call' (ch := []) rfl un (fun b u e => ?_) I.bare fun b m => nomatch m⟩
  by_cases c1 : b ∈ as
  · obtain ⟨j, q, w1, w2, w3⟩ := LiI.paired_ix gT c1
    rw [w3] at e
    cases e
    obtain ⟨key, k, x, p1, p2, p3⟩ := g.pairs j b w1
    obtain ⟨y, y1, y2, y3⟩ := LiI.paired_get kv w2
    rw [p1] at y1
    cases y1
    have rk : RelV (kV q.1) key := by
      rw [y2]
      exact keyIs_rel (show keyIs k key = true from p2)
    exact ⟨by show 2 ≤ sizeLine; decide, [key, x], .cons rk (.cons y3 .nil), _, p3, rfl, _, rfl⟩
  · by_cases c2 : b = S
    · subst c2
      rw [gS] at e
      cases e
      refine ⟨by rw [List.length_map]; omega, acc.toList, c, ?_, ?_⟩
      · rw [ha]
        exact LiI.vals_refs as
      · rw [Array.toArray_toList]
        exact hS
    · rw [gO b c1 c2] at e
      exact (I.hok b u e).stay (fun d v _ y => hk d v y) (fun d y => sm d _ y) fun d xs y => sm d _ y
end

section
variable {X : Cx}
/-- list(enumerate(xs)) -/
def rListEnum (K : PySem.W.Frag) : V → Hp → VK → Prop := fun x H Q => ∃ (a : Addr) (xs : List V), x = .ref a ∧ SqL K H a xs ∧
  ∀ (H' : Hp) (p : Addr) (ts : List Addr), Same H H' → H p = none → (∀ t ∈ ts, H t = none) → H' p = some (.lst (ts.map V.ref)) → Paired (fun (t : Addr) (q : Key × V) => H' t = some (.tup [kV q.1, q.2])) ts (numb xs) → Q (.ref p) H'
def tListEnum (K : PySem.W.Frag) (te : TE) : TE := fun σ H Q => te σ H fun x H1 => rListEnum K x H1 Q
theorem pe_listEnum {e : Expr} {te : TE} {p p2 pos pos2 : Pos} (hc : X.calm = true) (he : PE X e te) (hg : Gl X "list") (hm : X.mg "list" = none) (hg2 : Gl X "enumerate") (hm2 : X.mg "enumerate" = none) (hv : bootBuiltins "list" = some (.type "list")) (hv2 : bootBuiltins "enumerate" = some (.type "enumerate"))
    (na : starEach [e] X.env = (false, eval e X.env) :: starEach [] X.env := by rfl) (nb : starEach [.Call (.Name "enumerate" p2) [e] [] pos2] X.env = (false, eval (.Call (.Name "enumerate" p2) [e] [] pos2) X.env) :: starEach [] X.env := by rfl) :
    PE X (.Call (.Name "list" p) [.Call (.Name "enumerate" p2) [e] [] pos2] [] pos) (tListEnum X.K te) := by
  refine ⟨fun pins s σ H Q I hq => ?_⟩
  refine Call_ (ld_blt I hg hm hv ?_)
  refine PyProof.Rows.callWith_type1 (PyProof.Rows.args_cons ?_ nb) nb rfl
  refine Call_ (ld_blt I hg2 hm2 hv2 ?_)
  refine PyProof.Rows.callWith_type1 (PyProof.Rows.args_cons (thn (he.run pins s σ H _ I hq) fun v s1 ⟨x, H1, I1, r1, q1⟩ => PyProof.Rows.args_nil ?_) na) na rfl
  obtain ⟨a, xs, rfl, hs, k⟩ := q1
  cases r1
  obtain ⟨its, rv, pl, hz⟩ := I1.list hs
  refine call_enumerate_list pl.isList fun h1 hE hI hsz hk => PyProof.Rows.args_nil ?_
  have I2 : Inv X pins σ H1 { s1 with heap := h1 } := I1.kept (t' := s1.toks) hk
  have alt : a < s1.heap.objs.size := pl.lt
  have hl2 : h1.IsList a its.toArray := by
    obtain ⟨o, ho, r⟩ := pl.isList
    exact ⟨o, hk _ _ ho, r⟩
  have nsz := rv.length
  refine en_call (P := X.prog) (w := X.w) (s := { s1 with heap := h1 }) (I1.ok.hd hc) hE hI hl2 (Nat.ne_of_gt (Nat.lt_succ_self _)) (Nat.ne_of_lt (Nat.lt_succ_of_lt alt)) (Nat.ne_of_lt alt) (by rw [List.size_toArray]; omega) fun h' tk acc c as hk' hS hla hG hacc => ?_
  -- the enumerate object and its list iterator are not tracked: they may have turned
  have keep : ∀ b o, s1.heap.get? b = some o → h'.get? b = some o := fun b o q => hk' b o (Nat.ne_of_lt (Nat.lt_succ_of_lt (Heap.lt_size q))) (Nat.ne_of_lt (Heap.lt_size q)) (hk b o q)
  have kv : KV (numb xs) (numb its) := numb_kv rv 0
  have z1 : s1.heap.objs.size < h1.objs.size := by rw [hsz]; exact Nat.lt_succ_of_lt (Nat.lt_succ_self _)
  have hG' : KdxG (mixKind X.prog X.w) (numb its) h1.objs.size h' as := by simpa using hG
  obtain ⟨H', m1, m2, m3, m4, m5, m6, J⟩ := laid_at (tk := tk) I1 (by rw [numb_len]; exact hz) kv keep (Nat.le_of_lt z1) hS (by rw [hla, numb_len, List.size_toArray]) hG' hacc
  exact ⟨.ref _, H', J, rfl, k H' _ as m1 m2 m3 m5 m6⟩
end
end Qw
set_option Elab.async false
set_option maxRecDepth 100000
set_option linter.all false
/-! QW0: heaps, what stands where. -/
namespace Qw
open PySem PySem.Spec PyProof.Rows L2

theorem same_tup {K : PySem.W.Frag} {H H' : Hp} {q : Addr} {xs : List V} (e : Same H H') (h : SqT K H q xs) : SqT K H' q xs := by
  rcases h with (h | ⟨o, h⟩) | h
  · exact .inl (.inl (e _ _ h))
  · exact .inl (.inr ⟨o, e _ _ h⟩)
  · exact .inr h
theorem same_new {H : Hp} {p : Addr} {o : HO} (h : H p = none) : Same H (upd H p o) := fun b u e => by
  rw [upd_ne (ne_of_none e h)]
  exact e
/-- all but the objects at ps are as they were -/
def Keep (ps : List Addr) (H H' : Hp) : Prop := ∀ b o, H b = some o → b ∉ ps → H' b = some o
theorem Keep.refl (ps : List Addr) (H : Hp) : Keep ps H H := fun _ _ h _ => h
theorem Keep.trans {ps : List Addr} {H H1 H2 : Hp} (a : Keep ps H H1) (b : Keep ps H1 H2) : Keep ps H H2 := fun c o h n => b c o (a c o h n) n
theorem Keep.of_same {ps : List Addr} {H H' : Hp} (e : Same H H') : Keep ps H H' := fun b o h _ => e b o h
theorem Keep.same {H H' : Hp} (e : Keep [] H H') : Same H H' := fun b o h => e b o h (by simp)
theorem Keep.mono {ps qs : List Addr} {H H' : Hp} (e : Keep ps H H') (h : ∀ p ∈ ps, p ∈ qs) : Keep qs H H' := fun b o q n => e b o q fun m => n (h b m)
theorem Keep.upd {ps : List Addr} {H H' : Hp} (e : Keep ps H H') {p : Addr} {o : HO} (h : p ∈ ps) : Keep ps H (upd H' p o) := fun b u q n => by
  rw [upd_ne (fun z => n (by rw [z]; exact h))]
  exact e b u q n
/-- what may change stands as something that is no tuple -/
def Mu (ps : List Addr) (H : Hp) : Prop := ∀ p ∈ ps, Mut (H p)
theorem Mu.ne {ps : List Addr} {H : Hp} (m : Mu ps H) {q : Addr} {xs : List V} (h : H q = some (.tup xs)) : q ∉ ps := fun z => by
  have := m q z
  rw [h] at this
  exact this
theorem Mu.nef {ps : List Addr} {H : Hp} (m : Mu ps H) {q : Addr} {o : Obj} {u : HO} (h : H q = some (.frz o u)) : q ∉ ps := fun z => by
  have := m q z
  rw [h] at this
  exact this
theorem Mu.neo {ps : List Addr} {H : Hp} (m : Mu ps H) {q x : Addr} (h : H q = some (.own x)) : q ∉ ps := fun z => by
  have := m q z
  rw [h] at this
  exact this
theorem keep_tup {K : PySem.W.Frag} {ps : List Addr} {H H' : Hp} {q : Addr} {xs : List V} (e : Keep ps H H') (m : Mu ps H) (h : SqT K H q xs) : SqT K H' q xs := by
  rcases h with (h | ⟨o, h⟩) | h
  · exact .inl (.inl (e _ _ h (m.ne h)))
  · exact .inl (.inr ⟨o, e _ _ h (m.nef h)⟩)
  · exact .inr h

/-! ### fractions, pairs, rows of them -/
/-- v is the pair f -/
def Fv (K : PySem.W.Frag) (H : Hp) (v : V) (f : Int × Int) : Prop := ∃ q, v = .ref q ∧ At2 K H q f
theorem Fv.same {K : PySem.W.Frag} {H H' : Hp} {v : V} {f : Int × Int} (e : Same H H') (h : Fv K H v f) : Fv K H' v f := by
  obtain ⟨q, a, b⟩ := h
  exact ⟨q, a, same_tup e b⟩
theorem Fv.keep {K : PySem.W.Frag} {ps : List Addr} {H H' : Hp} {v : V} {f : Int × Int} (e : Keep ps H H') (m : Mu ps H) (h : Fv K H v f) : Fv K H' v f := by
  obtain ⟨q, a, b⟩ := h
  exact ⟨q, a, keep_tup e m b⟩
abbrev Fvs (K : PySem.W.Frag) (H : Hp) : List V → List (Int × Int) → Prop := Paired (Fv K H)
theorem Fvs.same {K : PySem.W.Frag} {H H' : Hp} {vs : List V} {fs : List (Int × Int)} (e : Same H H') (h : Fvs K H vs fs) : Fvs K H' vs fs := L2.Paired.mapP h fun _ _ x => x.same e
theorem Fvs.keep {K : PySem.W.Frag} {ps : List Addr} {H H' : Hp} {vs : List V} {fs : List (Int × Int)} (e : Keep ps H H') (m : Mu ps H) (h : Fvs K H vs fs) : Fvs K H' vs fs := L2.Paired.mapP h fun _ _ x => x.keep e m
theorem paired_snoc {α β : Type} {F : α → β → Prop} {xs : List α} {ys : List β} {x : α} {y : β} (h : Paired F xs ys) (r : F x y) : Paired F (xs ++ [x]) (ys ++ [y]) := Paired.snoc h r
theorem paired_app {α β : Type} {F : α → β → Prop} : ∀ {xs : List α} {ys : List β} {xs' : List α} {ys' : List β}, Paired F xs ys → Paired F xs' ys' → Paired F (xs ++ xs') (ys ++ ys')
  | _, _, _, _, .nil, h => h
  | _, _, _, _, .cons r t, h => .cons r (paired_app t h)
theorem paired_set {α β : Type} {F : α → β → Prop} {x : α} {y : β} (r : F x y) : ∀ {xs : List α} {ys : List β} (i : Nat), Paired F xs ys → Paired F (xs.set i x) (ys.set i y)
  | _, _, _, .nil => .nil
  | _, _, 0, .cons _ t => .cons r t
  | _, _, i + 1, .cons q t => .cons q (paired_set r i t)
theorem paired_nth {α β : Type} {F : α → β → Prop} : ∀ {xs : List α} {ys : List β}, Paired F xs ys → ∀ {i : Nat} {y : β}, ys[i]? = some y → ∃ x, xs[i]? = some x ∧ F x y
  | _, _, .nil, _, _, e => by cases e
  | _, _, .cons h _, 0, _, e => by
    have e := Option.some.inj e
    subst e
    exact ⟨_, rfl, h⟩
  | _, _, .cons _ t, i + 1, _, e => paired_nth t (i := i) e
theorem map_nth {α β : Type} {f : α → β} {l : List α} {i : Nat} {y : β} (h : (l.map f)[i]? = some y) : ∃ x, l[i]? = some x ∧ f x = y := by
  rw [List.getElem?_map] at h
  exact Option.map_eq_some_iff.mp h
theorem at_nat {α : Type} {xs : List α} {i : Int} {v : α} (h0 : 0 ≤ i) (h : xs[i.toNat]? = some v) : atI xs i = some v := by
  have e : i = ((i.toNat : Nat) : Int) := by omega
  rw [e]
  exact atI_nat h
theorem ix_nat {n : Nat} {i : Int} (h0 : 0 ≤ i) (h : i < n) : ixN n i = some i.toNat := by
  unfold ixN
  rw [if_pos h0, if_pos (by omega)]
theorem take_snoc {α : Type} {l : List α} {i : Nat} {x : α} (h : l[i]? = some x) : l.take (i + 1) = l.take i ++ [x] := by
  rw [List.take_add_one, h]
  rfl
theorem lt_of_at {α : Type} {l : List α} {i : Nat} {x : α} (h : l[i]? = some x) : i < l.length := (List.getElem?_eq_some_iff.mp h).1
theorem sz {n : Nat} (h : n ≤ 1000000) : n ≤ sizeLine := by rw [sizeLine_eq]; omega
theorem sz' {n : Nat} (h : n ≤ 1000000) : n < sizeLine := by rw [sizeLine_eq]; omega
theorem s1 : 1 ≤ sizeLine := by decide
theorem s2 : 2 ≤ sizeLine := by decide
theorem s3 : 3 ≤ sizeLine := by decide
theorem s5 : 5 ≤ sizeLine := by decide
/-- a tuple's type -/
theorem ty_tup {K : PySem.W.Frag} {H : Hp} {q : Addr} {xs : List V} (h : SqT K H q xs) : TyX K H (.ref q) (.type "tuple") := by
  rcases h with (h | ⟨o, h⟩) | ⟨o, its, n, hk, hc, _⟩
  · exact .base (.tup h)
  · exact .fTuple h
  · exact .kTuple hk hc
theorem ty_int {K : PySem.W.Frag} {H : Hp} {i : Int} : TyX K H (.int i) (.type "int") := .base (.int i)
theorem ty_bl {K : PySem.W.Frag} {H : Hp} {b : Bool} : TyX K H (.bl b) (.type "bool") := .base (.bl b)
end Qw
namespace Qw
open PySem PySem.Spec PyProof.Rows L2
theorem iteD {c A B : Prop} [Decidable c] (hc : c) (h : A) : if decide c = true then A else B := by
  rw [decide_eq_true hc]
  exact iteT h
theorem iteDN {c A B : Prop} [Decidable c] (hc : ¬ c) (h : B) : if decide c = true then A else B := by
  rw [decide_eq_false hc]
  exact iteF h
theorem iteB {b : Bool} {A B : Prop} (hb : b = true) (h : A) : if b = true then A else B := by
  rw [hb]
  exact iteT h
theorem iteBN {b : Bool} {A B : Prop} (hb : b = false) (h : B) : if b = true then A else B := by
  rw [hb]
  exact iteF h
/-- len, by the written part alone -/
def rLenK (K : PySem.W.Frag) : List V → Hp → VK → Prop := fun xs H Q => ∃ p ys, xs = [.ref p] ∧ (SqL K H p ys ∨ SqT K H p ys) ∧ Q (.int ys.length) H
/-! ### the objects' fields -/
theorem fk1 : ¬ (("owed" : Str) = "due") := by decide +kernel
theorem fk2 : ¬ (("sides" : Str) = "whole") := by decide +kernel
theorem fk3 : ¬ (("sides" : Str) = "row") := by decide +kernel
theorem fk4 : ¬ (("whole" : Str) = "row") := by decide +kernel
theorem fk5 : ¬ (("owed_left" : Str) = "due_left") := by decide +kernel
def evF (o d : Addr) : List (Str × V) := putF "due" (.ref d) (putF "owed" (.ref o) [])
theorem evF_owed (o d : Addr) : (evF o d).lookup ("owed" : Str) = some (.ref o) := by
  unfold evF
  rw [lookup_putF, if_neg fk1, lookup_putF, if_pos rfl]
theorem evF_due (o d : Addr) : (evF o d).lookup ("due" : Str) = some (.ref d) := by
  unfold evF
  rw [lookup_putF, if_pos rfl]
def stF (o d : Addr) : List (Str × V) := putF "due_left" (.ref d) (putF "owed_left" (.ref o) [])
theorem stF_owed (o d : Addr) : (stF o d).lookup ("owed_left" : Str) = some (.ref o) := by
  unfold stF
  rw [lookup_putF, if_neg fk5, lookup_putF, if_pos rfl]
theorem stF_due (o d : Addr) : (stF o d).lookup ("due_left" : Str) = some (.ref d) := by
  unfold stF
  rw [lookup_putF, if_pos rfl]
theorem stF_no (o d : Addr) {m : Str} (h1 : ¬ m = "due_left") (h2 : ¬ m = "owed_left") : (stF o d).lookup m = none := by
  unfold stF
  rw [lookup_putF, if_neg h1, lookup_putF, if_neg h2]
  all_goals rfl
def rsF (t : Addr) (W : Int) (l : Addr) : List (Str × V) := putF "row" (.ref l) (putF "whole" (.int W) (putF "sides" (.ref t) []))
theorem rsF_eq (t : Addr) (W : Int) (l : Addr) : rsF t W l = ([("sides", V.ref t), ("whole", V.int W), ("row", V.ref l)] : List (Str × V)) := by
  have e1 : putF "whole" (V.int W) [(("sides" : Str), V.ref t)] = [(("sides" : Str), V.ref t), ("whole", V.int W)] := by
    show (if ("sides" : Str) = "whole" then _ else (("sides" : Str), V.ref t) :: putF "whole" (V.int W) []) = _
    rw [if_neg fk2]
    rfl
  show putF "row" (.ref l) (putF "whole" (V.int W) [(("sides" : Str), V.ref t)]) = _
  rw [e1]
  show (if ("sides" : Str) = "row" then _ else (("sides" : Str), V.ref t) :: (if ("whole" : Str) = "row" then _ else (("whole" : Str), V.int W) :: putF "row" (V.ref l) [])) = _
  rw [if_neg fk3, if_neg fk4]
  rfl
theorem rsF_sides (t : Addr) (W : Int) (l : Addr) : (rsF t W l).lookup ("sides" : Str) = some (.ref t) := by
  unfold rsF
  rw [lookup_putF, if_neg fk3, lookup_putF, if_neg fk2, lookup_putF, if_pos rfl]
theorem rsF_whole (t : Addr) (W : Int) (l : Addr) : (rsF t W l).lookup ("whole" : Str) = some (.int W) := by
  unfold rsF
  rw [lookup_putF, if_neg fk4, lookup_putF, if_pos rfl]
theorem rsF_row (t : Addr) (W : Int) (l : Addr) : (rsF t W l).lookup ("row" : Str) = some (.ref l) := by
  unfold rsF
  rw [lookup_putF, if_pos rfl]
theorem rsF_no (t : Addr) (W : Int) (l : Addr) {m : Str} (h1 : ¬ m = "row") (h2 : ¬ m = "whole") (h3 : ¬ m = "sides") : (rsF t W l).lookup m = none := by
  unfold rsF
  rw [lookup_putF, if_neg h1, lookup_putF, if_neg h2, lookup_putF, if_neg h3]
  all_goals rfl
theorem rsF_put (t : Addr) (W W' : Int) (l : Addr) : putF "whole" (.int W') (rsF t W l) = rsF t W' l := by
  rw [rsF_eq, rsF_eq]
  show (if ("sides" : Str) = "whole" then _ else (("sides" : Str), V.ref t) :: (if ("whole" : Str) = "whole" then _ else _)) = _
  rw [if_neg fk2, if_pos rfl]
theorem rsF_len (t : Addr) (W : Int) (l : Addr) : (rsF t W l).length < 1000 := by
  rw [rsF_eq]
  show 3 < 1000
  decide
theorem put_len1 (f : Str) (v : V) : (putF f v []).length < 1000 := Nat.lt_of_le_of_lt (length_putF f v []) (by decide)
theorem put_len2 (f g : Str) (v u : V) : (putF f v (putF g u [])).length < 1000 := Nat.lt_of_le_of_lt (length_putF f v _) (Nat.lt_of_le_of_lt (Nat.succ_le_succ (length_putF g u [])) (by decide))
/-! ### slices -/
theorem cut_from (xs : List V) (i : Nat) : cutV xs (some (i : Int)) none = xs.drop i := by
  unfold cutV
  rw [HT.sIx_nat, HT.sIx_none]
  rcases Nat.le_total i xs.length with h | h
  · rw [Nat.min_eq_left h]
    exact List.take_of_length_le (by rw [List.length_drop]; omega)
  · rw [Nat.min_eq_right h, List.drop_of_length_le (Nat.le_refl _), List.drop_of_length_le h]
    simp
theorem cut_to (xs : List V) (i : Nat) : cutV xs none (some (i : Int)) = xs.take i := by
  unfold cutV
  rw [HT.sIx_nat, HT.sIx_none, List.drop_zero, Nat.sub_zero]
  rcases Nat.le_total i xs.length with h | h
  · rw [Nat.min_eq_left h]
  · rw [Nat.min_eq_right h, List.take_of_length_le (Nat.le_refl _), List.take_of_length_le h]
/-! ### two fractions compared -/
theorem shp2 (a b : Int) : SeqAt.shaped (.tuple [.int a, .int b]) = true := by
  show (PyData.canLay0 (.tuple [.int a, .int b]) && decide (PyData.depth (.tuple [.int a, .int b]) ≤ 64)) = true
  simp [PyData.canLay0, PyData.canLayAll0, PyData.depth, PyData.depthAll]
theorem eqv2 (f g : Int × Int) : PyData.eqv (.tuple [.int f.1, .int f.2]) (.tuple [.int g.1, .int g.2]) = decide (f = g) := by
  simp only [PyData.eqv, PyData.eqvAll, Bool.and_true]
  by_cases h : f = g
  · subst h
    simp
  · rw [decide_eq_false h]
    by_cases h1 : f.1 = g.1
    · have h2 : ¬ f.2 = g.2 := fun z => h (Prod.ext h1 z)
      simp [h2]
    · simp [h1]
theorem dp2 {K : PySem.W.Frag} {H : Hp} {q : Addr} {f : Int × Int} (h : At2 K H q f) : Dp K H (.ref q) (.tuple [.int f.1, .int f.2]) := .tup h (.cons (.int _) (.cons (.int _) .nil))
end Qw
set_option Elab.async false
set_option maxRecDepth 100000
set_option linter.all false
set_option maxHeartbeats 4000000
/-! QW1: checks and fractions. -/
namespace Qw
open PySem PySem.Spec PyProof.Rows L2
section
variable {P : Program} {w : World} {K : PySem.W.Frag} {mg : Str → Option Value} {base : Heap}
def sp_is_integer : Sp := fun vs H Q _ => ∃ i : Int, vs = [.int i] ∧ Q (.bl true) H
theorem ok_is_integer (T : Tx K mg) : FnOk P w K mg base CX0 1 T.is_integer.f T.is_integer.fd ["thing"] sp_is_integer := by
  refine T.is_integer.F.ok sc_is_integer (fun vs H Q E h => ?_) (fun cdv A outer s H vs Q E hr h => ?_)
  · obtain ⟨i, rfl, _⟩ := h
    rfl
  · obtain ⟨i, rfl, k⟩ := h
    refine ⟨_, (pss_one (ps_ret (pe_and (pe_callB (r := rIsi K) call_isi (by rfl) T.z_isinstance (by decide +kernel) (pa_cons (pv 0) (pa_cons (pe_bltn (v := .ty "int") (by rfl) T.z_int (by decide +kernel) rfl) pa_nil))) (pe_one (pe_not (pe_callB (r := rIsi K) call_isi (by rfl) T.z_isinstance (by decide +kernel) (pa_cons (pv 0) (pa_cons (pe_bltn (v := .ty "bool") (by rfl) T.z_bool (by decide +kernel) rfl) pa_nil)))))))), ?_⟩
    refine ⟨_, rfl, .int i, .ty "int", .type "int", .type "int", true, rfl, .ty _, ty_int, kit_ty (by decide +kernel), _, rfl, iteT ?_⟩
    exact ⟨_, rfl, .int i, .ty "bool", .type "int", .type "bool", false, rfl, .ty _, ty_int, kit_ty (by decide +kernel), _, rfl, k⟩
def sp_is_within : Sp := fun vs H Q _ => ∃ i lo hi : Int, vs = [.int i, .int lo, .int hi] ∧ ∀ b : Bool, (b = true ↔ lo ≤ i ∧ i ≤ hi) → Q (.bl b) H
theorem ok_is_within (T : Tx K mg) : FnOk P w K mg base CX0 2 T.is_within.f T.is_within.fd ["thing", "least", "most"] sp_is_within := by
  have G_is_integer := ok_is_integer (P := P) (w := w) (base := base) T
  refine T.is_within.F.ok sc_is_within (fun vs H Q E h => ?_) (fun cdv A outer s H vs Q E hr h => ?_)
  · obtain ⟨i, lo, hi, rfl, _⟩ := h
    rfl
  · obtain ⟨i, lo, hi, rfl, k⟩ := h
    refine ⟨_, (pss_one (ps_ret (pe_and (pe_call G_is_integer (hr.mono (by decide)) (by rfl) T.is_integer.g T.is_integer.kp T.is_integer.b .nil pass0 (pa_cons (pv 0) pa_nil)) (pe_one (pe_chain op_le op_le (pv 1) (pv 0) (pv 2)))))), ?_⟩
    refine ⟨_, rfl, i, rfl, _, rfl, iteT ?_⟩
    refine ⟨_, rfl, _, rfl, _, _, rfl, rfl, _, rfl, ?_⟩
    refine ite2 (fun c => ?_) (fun c => ?_)
    · exact ⟨_, rfl, _, _, rfl, rfl, k _ ⟨fun h => ⟨of_decide_eq_true c, of_decide_eq_true h⟩, fun h => decide_eq_true h.2⟩⟩
    · refine k _ ?_
      exact ⟨(fun h => nomatch h), fun h => absurd (decide_eq_true h.1) c⟩
def sp_is_pair (K : PySem.W.Frag) : Sp := fun vs H Q _ => ∃ (q : Addr) (x y : V), vs = [.ref q] ∧ SqT K H q [x, y] ∧ Q (.bl true) H
theorem ok_is_pair (T : Tx K mg) : FnOk P w K mg base CX0 1 T.is_pair.f T.is_pair.fd ["thing"] (sp_is_pair K) := by
  refine T.is_pair.F.ok sc_is_pair (fun vs H Q E h => ?_) (fun cdv A outer s H vs Q E hr h => ?_)
  · obtain ⟨q, x, y, rfl, _⟩ := h
    rfl
  · obtain ⟨q, x, y, rfl, hq, k⟩ := h
    refine ⟨_, (pss_one (ps_ret (pe_and (pe_callB (r := rIsi K) call_isi (by rfl) T.z_isinstance (by decide +kernel) (pa_cons (pv 0) (pa_cons (pe_bltn (v := .ty "tuple") (by rfl) T.z_tuple (by decide +kernel) rfl) pa_nil))) (pe_one (pe_cmpR op_eq (pe_callB (r := rLenK K) call_len_seq (by rfl) T.z_len (by decide +kernel) (pa_cons (pv 0) pa_nil)) pe_int (nomark _)))))), ?_⟩
    refine ⟨_, rfl, .ref q, .ty "tuple", .type "tuple", .type "tuple", true, rfl, .ty _, ty_tup hq, kit_ty (by decide +kernel), _, rfl, iteT ?_⟩
    exact ⟨_, rfl, q, _, rfl, .inr hq, rfl, k⟩
def sp_common_divisor : Sp := fun vs H Q _ => ∃ a b : Int, vs = [.int a, .int b] ∧ Q (.int (gz a b)) H
theorem gz_abs (a b : Int) : gz (if a < 0 then -a else a) (if b < 0 then -b else b) = gz a b := by
  unfold gz
  split <;> split <;> simp [Int.gcd_neg, Int.neg_gcd]
theorem gz_step {a b : Int} (ha : 0 ≤ a) (hb : 0 < b) : gz b (a.fmod b) = gz a b := by
  unfold gz
  rw [Int.fmod_eq_emod_of_nonneg _ (Int.le_of_lt hb), Int.gcd_comm a b]
  congr 1
  have := Int.gcd_add_mul_right_right b (a % b) (a / b)
  rw [Int.mul_comm, Int.emod_add_mul_ediv] at this
  exact this.symm
theorem ok_common_divisor (T : Tx K mg) : FnOk P w K mg base CX0 1 T.common_divisor.f T.common_divisor.fd ["one", "other"] sp_common_divisor := by
  refine T.common_divisor.F.ok sc_common_divisor (fun vs H Q E h => ?_) (fun cdv A outer s H vs Q E hr h => ?_)
  · obtain ⟨a, b, rfl, _⟩ := h
    rfl
  · obtain ⟨a, b, rfl, k⟩ := h
    refine ⟨_, (pss_cons (ps_par (i := 0) (j := 1) (by rfl) sc_common_divisor.nd rfl rfl (by decide) rfl rfl (pa_cons (pe_callB call_abs (by rfl) T.z_abs (by decide +kernel) (pa_cons (pv 0) pa_nil)) (pa_cons (pe_callB call_abs (by rfl) T.z_abs (by decide +kernel) (pa_cons (pv 1) pa_nil)) pa_nil)) (by rfl))
      (pss_cons (ps_while PassesOwn.never (pt_cmpR op_gt (pv 1) pe_int (nomark _)) (pss_one (ps_par (i := 0) (j := 1) (by rfl) sc_common_divisor.nd rfl rfl (by decide) rfl rfl (pa_cons (pv 1) (pa_cons (pe_op op_modN (pv 0) (pv 1)) pa_nil)) (by rfl))))
      (pss_one (ps_ret (pv 0))))), ?_⟩
    refine ⟨_, rfl, _, rfl, _, rfl, _, rfl, _, _, rfl, ?_⟩
    refine while_by (fun σ H' => H' = H ∧ ∃ x y : Int, σ = [some (.int x), some (.int y)] ∧ 0 ≤ x ∧ 0 ≤ y ∧ gz x y = gz a b) (fun σ _ => match σ with | [_, some (.int y)] => y.toNat | _ => 0) ⟨rfl, _, _, rfl, ?_, ?_, gz_abs a b⟩ ?_ ?_
    · split <;> omega
    · split <;> omega
    · rintro σ H' ⟨rfl, x, y, rfl, hx, hy, e⟩
      refine ⟨_, rfl, _, _, rfl, rfl, _, rfl, ?_⟩
      refine ite2 (fun c => ?_) (fun c => ?_)
      · have c := of_decide_eq_true c
        refine ⟨_, rfl, _, rfl, _, rfl, _, _, rfl, rfl, (by omega), _, _, rfl, ⟨rfl, y, x.fmod y, rfl, hy, ?_, ?_⟩, ?_⟩
        · rw [Int.fmod_eq_emod_of_nonneg _ hy]
          exact Int.emod_nonneg _ (by omega)
        · rw [gz_step hx c, e]
        · show (x.fmod y).toNat < y.toNat
          rw [Int.fmod_eq_emod_of_nonneg _ hy]
          have := Int.emod_lt_of_pos x c
          omega
      · have c : ¬ 0 < y := fun z => c (decide_eq_true z)
        have y0 : y = 0 := by omega
        subst y0
        refine ⟨_, rfl, ?_⟩
        have ex : x = gz a b := by
          rw [← e]
          unfold gz
          rw [Int.gcd_zero]
          omega
        rw [ex]
        exact k
    · rintro σ H' Q Q' m ⟨v, h1, i, j, h2, h3, kk, h4, h5⟩
      exact ⟨v, h1, i, j, h2, h3, kk, h4, m _ _ h5⟩
/-- a pair handed back, new -/
def rNew (H : Hp) (Q : VK) (f : Int × Int) : Prop := ∀ p, H p = none → Q (.ref p) (upd H p (.tup [.int f.1, .int f.2]))
def Small (t b : Int) : Prop := -(2 ^ 64) < t ∧ t < 2 ^ 64 ∧ 0 < b ∧ b < 2 ^ 30
def sp_made : Sp := fun vs H Q _ => ∃ t b : Int, vs = [.int t, .int b] ∧ 0 < b ∧ b < 2 ^ 30 ∧ rNew H Q (mk t b)
theorem ok_made (T : Tx K mg) : FnOk P w K mg base CX0 2 T.made.f T.made.fd ["top", "bottom"] sp_made := by
  have G_common_divisor := ok_common_divisor (P := P) (w := w) (base := base) T
  refine T.made.F.ok sc_made (fun vs H Q E h => ?_) (fun cdv A outer s H vs Q E hr h => ?_)
  · obtain ⟨t, b, rfl, _⟩ := h
    rfl
  · obtain ⟨t, b, rfl, hb, hb2, k⟩ := h
    have g0 := gz_pos (a := t) hb
    have g1 := gz_le (a := t) hb
    have cd : ∀ i : Int, CDivN i (gz t b) := fun i => ⟨by omega, by omega⟩
    refine ⟨_, (pss_cons (ps_set (i := 2) sc_made.nd rfl (Or.inl rfl) (pe_call G_common_divisor (hr.mono (by decide)) (by rfl) T.common_divisor.g T.common_divisor.kp T.common_divisor.b .nil pass0 (pa_cons (pv 0) (pa_cons (pv 1) pa_nil))))
      (pss_one (ps_ret (pe_tup (pa_cons (pe_op op_fdivN (pv 0) (pv 2)) (pa_cons (pe_op op_fdivN (pv 1) (pv 2)) pa_nil)))))), ?_⟩
    refine ⟨_, rfl, _, rfl, t, b, rfl, ?_⟩
    refine ⟨_, rfl, _, rfl, _, _, rfl, rfl, cd _, _, rfl, _, rfl, _, _, rfl, rfl, cd _, s2, fun p hp => ?_⟩
    have e : ∀ i : Int, i.fdiv (gz t b) = i / gz t b := fun i => Int.fdiv_eq_ediv_of_nonneg _ (Int.le_of_lt g0)
    show Q (.ref p) (upd H p (.tup [.int (t.fdiv (gz t b)), .int (b.fdiv (gz t b))]))
    rw [e, e]
    exact k p hp
/-- bounds of the numbers at hand -/
structure Bd (f : Int × Int) : Prop where
  t0 : -(2 ^ 20) < f.1
  t1 : f.1 < 2 ^ 20
  b0 : 0 < f.2
  b1 : f.2 < 2 ^ 14
theorem bd_mul {f g : Int × Int} (hf : Bd f) (hg : Bd g) : 0 < f.2 * g.2 ∧ f.2 * g.2 < 2 ^ 30 := by
  have h1 := hf.b0
  have h2 := hf.b1
  have h3 := hg.b0
  have h4 := hg.b1
  refine ⟨Int.mul_pos h1 h3, ?_⟩
  have := Int.mul_lt_mul_of_pos_right h2 h3
  omega
theorem bd_cm {f : Int × Int} (hf : Bd f) (j : Int) : CMul f.1 j := .inl ⟨by have := hf.t0; omega, by have := hf.t1; omega⟩
theorem bd_cm2 {f : Int × Int} (hf : Bd f) (j : Int) : CMul f.2 j := .inl ⟨by have := hf.b0; omega, by have := hf.b1; omega⟩
def sp_plus (K : PySem.W.Frag) : Sp := fun vs H Q _ => ∃ (a b : Addr) (f g : Int × Int), vs = [.ref a, .ref b] ∧ At2 K H a f ∧ At2 K H b g ∧ Bd f ∧ Bd g ∧ rNew H Q (mk (f.1 * g.2 + g.1 * f.2) (f.2 * g.2))
theorem ok_plus (T : Tx K mg) : FnOk P w K mg base CX0 3 T.plus.f T.plus.fd ["one", "other"] (sp_plus K) := by
  have G_made := ok_made (P := P) (w := w) (base := base) T
  refine T.plus.F.ok sc_plus (fun vs H Q E h => ?_) (fun cdv A outer s H vs Q E hr h => ?_)
  · obtain ⟨a, b, f, g, rfl, _⟩ := h
    rfl
  · obtain ⟨a, b, f, g, rfl, ha, hb, bf, bg, k⟩ := h
    obtain ⟨m1, m2⟩ := bd_mul bf bg
    refine ⟨_, (pss_one (ps_ret (pe_call G_made (hr.mono (by decide)) (by rfl) T.made.g T.made.kp T.made.b .nil pass0 (pa_cons (pe_op op_add (pe_op op_mul (pe_ix (r := rIxT K) ix_tup (pv 0) pe_int (fun _ _ => rfl)) (pe_ix (r := rIxT K) ix_tup (pv 1) pe_int (fun _ _ => rfl))) (pe_op op_mul (pe_ix (r := rIxT K) ix_tup (pv 1) pe_int (fun _ _ => rfl)) (pe_ix (r := rIxT K) ix_tup (pv 0) pe_int (fun _ _ => rfl)))) (pa_cons (pe_op op_mul (pe_ix (r := rIxT K) ix_tup (pv 0) pe_int (fun _ _ => rfl)) (pe_ix (r := rIxT K) ix_tup (pv 1) pe_int (fun _ _ => rfl))) pa_nil))))), ?_⟩
    refine ⟨_, rfl, a, _, _, _, rfl, rfl, ha, rfl, _, rfl, b, _, _, _, rfl, rfl, hb, rfl, _, _, rfl, rfl, bd_cm bf _, ?_⟩
    refine ⟨_, rfl, b, _, _, _, rfl, rfl, hb, rfl, _, rfl, a, _, _, _, rfl, rfl, ha, rfl, _, _, rfl, rfl, bd_cm bg _, _, _, rfl, rfl, ?_⟩
    refine ⟨_, rfl, a, _, _, _, rfl, rfl, ha, rfl, _, rfl, b, _, _, _, rfl, rfl, hb, rfl, _, _, rfl, rfl, bd_cm2 bf _, ?_⟩
    exact ⟨_, _, rfl, m1, m2, k⟩
def sp_minus (K : PySem.W.Frag) : Sp := fun vs H Q _ => ∃ (a b : Addr) (f g : Int × Int), vs = [.ref a, .ref b] ∧ At2 K H a f ∧ At2 K H b g ∧ Bd f ∧ Bd g ∧ rNew H Q (mk (f.1 * g.2 - g.1 * f.2) (f.2 * g.2))
theorem ok_minus (T : Tx K mg) : FnOk P w K mg base CX0 3 T.minus.f T.minus.fd ["one", "other"] (sp_minus K) := by
  have G_made := ok_made (P := P) (w := w) (base := base) T
  refine T.minus.F.ok sc_minus (fun vs H Q E h => ?_) (fun cdv A outer s H vs Q E hr h => ?_)
  · obtain ⟨a, b, f, g, rfl, _⟩ := h
    rfl
  · obtain ⟨a, b, f, g, rfl, ha, hb, bf, bg, k⟩ := h
    obtain ⟨m1, m2⟩ := bd_mul bf bg
    refine ⟨_, (pss_one (ps_ret (pe_call G_made (hr.mono (by decide)) (by rfl) T.made.g T.made.kp T.made.b .nil pass0 (pa_cons (pe_op op_sub (pe_op op_mul (pe_ix (r := rIxT K) ix_tup (pv 0) pe_int (fun _ _ => rfl)) (pe_ix (r := rIxT K) ix_tup (pv 1) pe_int (fun _ _ => rfl))) (pe_op op_mul (pe_ix (r := rIxT K) ix_tup (pv 1) pe_int (fun _ _ => rfl)) (pe_ix (r := rIxT K) ix_tup (pv 0) pe_int (fun _ _ => rfl)))) (pa_cons (pe_op op_mul (pe_ix (r := rIxT K) ix_tup (pv 0) pe_int (fun _ _ => rfl)) (pe_ix (r := rIxT K) ix_tup (pv 1) pe_int (fun _ _ => rfl))) pa_nil))))), ?_⟩
    refine ⟨_, rfl, a, _, _, _, rfl, rfl, ha, rfl, _, rfl, b, _, _, _, rfl, rfl, hb, rfl, _, _, rfl, rfl, bd_cm bf _, ?_⟩
    refine ⟨_, rfl, b, _, _, _, rfl, rfl, hb, rfl, _, rfl, a, _, _, _, rfl, rfl, ha, rfl, _, _, rfl, rfl, bd_cm bg _, _, _, rfl, rfl, ?_⟩
    refine ⟨_, rfl, a, _, _, _, rfl, rfl, ha, rfl, _, rfl, b, _, _, _, rfl, rfl, hb, rfl, _, _, rfl, rfl, bd_cm2 bf _, ?_⟩
    exact ⟨_, _, rfl, m1, m2, k⟩
def sp_over (K : PySem.W.Frag) : Sp := fun vs H Q _ => ∃ (a b : Addr) (f g : Int × Int), vs = [.ref a, .ref b] ∧ At2 K H a f ∧ At2 K H b g ∧ Bd f ∧ Bd g ∧ 0 < f.2 * g.1 ∧ f.2 * g.1 < 2 ^ 30 ∧ rNew H Q (mk (f.1 * g.2) (f.2 * g.1))
theorem ok_over (T : Tx K mg) : FnOk P w K mg base CX0 3 T.over.f T.over.fd ["one", "other"] (sp_over K) := by
  have G_made := ok_made (P := P) (w := w) (base := base) T
  refine T.over.F.ok sc_over (fun vs H Q E h => ?_) (fun cdv A outer s H vs Q E hr h => ?_)
  · obtain ⟨a, b, f, g, rfl, _⟩ := h
    rfl
  · obtain ⟨a, b, f, g, rfl, ha, hb, bf, bg, m1, m2, k⟩ := h
    refine ⟨_, (pss_one (ps_ret (pe_call G_made (hr.mono (by decide)) (by rfl) T.made.g T.made.kp T.made.b .nil pass0 (pa_cons (pe_op op_mul (pe_ix (r := rIxT K) ix_tup (pv 0) pe_int (fun _ _ => rfl)) (pe_ix (r := rIxT K) ix_tup (pv 1) pe_int (fun _ _ => rfl))) (pa_cons (pe_op op_mul (pe_ix (r := rIxT K) ix_tup (pv 0) pe_int (fun _ _ => rfl)) (pe_ix (r := rIxT K) ix_tup (pv 1) pe_int (fun _ _ => rfl))) pa_nil))))), ?_⟩
    refine ⟨_, rfl, a, _, _, _, rfl, rfl, ha, rfl, _, rfl, b, _, _, _, rfl, rfl, hb, rfl, _, _, rfl, rfl, bd_cm bf _, ?_⟩
    refine ⟨_, rfl, a, _, _, _, rfl, rfl, ha, rfl, _, rfl, b, _, _, _, rfl, rfl, hb, rfl, _, _, rfl, rfl, bd_cm2 bf _, ?_⟩
    exact ⟨_, _, rfl, m1, m2, k⟩
def sp_is_less (K : PySem.W.Frag) : Sp := fun vs H Q _ => ∃ (a b : Addr) (f g : Int × Int), vs = [.ref a, .ref b] ∧ At2 K H a f ∧ At2 K H b g ∧ Bd f ∧ Bd g ∧ Q (.bl (decide (f.1 * g.2 < g.1 * f.2))) H
theorem ok_is_less (T : Tx K mg) : FnOk P w K mg base CX0 1 T.is_less.f T.is_less.fd ["one", "other"] (sp_is_less K) := by
  refine T.is_less.F.ok sc_is_less (fun vs H Q E h => ?_) (fun cdv A outer s H vs Q E hr h => ?_)
  · obtain ⟨a, b, f, g, rfl, _⟩ := h
    rfl
  · obtain ⟨a, b, f, g, rfl, ha, hb, bf, bg, k⟩ := h
    refine ⟨_, (pss_one (ps_ret (pe_cmpR op_lt (pe_op op_mul (pe_ix (r := rIxT K) ix_tup (pv 0) pe_int (fun _ _ => rfl)) (pe_ix (r := rIxT K) ix_tup (pv 1) pe_int (fun _ _ => rfl))) (pe_op op_mul (pe_ix (r := rIxT K) ix_tup (pv 1) pe_int (fun _ _ => rfl)) (pe_ix (r := rIxT K) ix_tup (pv 0) pe_int (fun _ _ => rfl))) (nomark _)))), ?_⟩
    refine ⟨_, rfl, a, _, _, _, rfl, rfl, ha, rfl, _, rfl, b, _, _, _, rfl, rfl, hb, rfl, _, _, rfl, rfl, bd_cm bf _, ?_⟩
    refine ⟨_, rfl, b, _, _, _, rfl, rfl, hb, rfl, _, rfl, a, _, _, _, rfl, rfl, ha, rfl, _, _, rfl, rfl, bd_cm bg _, ?_⟩
    exact ⟨_, _, rfl, rfl, k⟩
def sp_least_of (K : PySem.W.Frag) : Sp := fun vs H Q _ => ∃ (a b : Addr) (f g : Int × Int), vs = [.ref a, .ref b] ∧ At2 K H a f ∧ At2 K H b g ∧ Bd f ∧ Bd g ∧ Q (if g.1 * f.2 < f.1 * g.2 then .ref b else .ref a) H
theorem ok_least_of (T : Tx K mg) : FnOk P w K mg base CX0 2 T.least_of.f T.least_of.fd ["one", "other"] (sp_least_of K) := by
  have G_is_less := ok_is_less (P := P) (w := w) (base := base) T
  refine T.least_of.F.ok sc_least_of (fun vs H Q E h => ?_) (fun cdv A outer s H vs Q E hr h => ?_)
  · obtain ⟨a, b, f, g, rfl, _⟩ := h
    rfl
  · obtain ⟨a, b, f, g, rfl, ha, hb, bf, bg, k⟩ := h
    refine ⟨_, (pss_one (ps_ret (pe_ifExp (pt_val (pe_call G_is_less (hr.mono (by decide)) (by rfl) T.is_less.g T.is_less.kp T.is_less.b .nil pass0 (pa_cons (pv 1) (pa_cons (pv 0) pa_nil)))) (pv 1) (pv 0)))), ?_⟩
    refine ⟨_, rfl, _, rfl, b, a, g, f, rfl, hb, ha, bg, bf, _, rfl, ?_⟩
    refine ite2 (fun c => ?_) (fun c => ?_)
    · rw [if_pos (of_decide_eq_true c)] at k
      exact ⟨_, rfl, k⟩
    · rw [if_neg (fun z => c (decide_eq_true z))] at k
      exact ⟨_, rfl, k⟩
end
end Qw
set_option Elab.async false
set_option maxRecDepth 100000
set_option linter.all false
set_option maxHeartbeats 4000000
/-! QW2: sums of fractions, the measure, evenings. -/
namespace Qw
open PySem PySem.Spec PyProof.Rows L2
/-- whole numbers at hand: n times the unit p/q -/
def Sm (n : Int) : Prop := 0 ≤ n ∧ n ≤ 1000
theorem bd_can {p q n : Int} (U : Unit' p q) (h : Sm n) : Bd (can p q n) := by
  have h1 := can_top_nonneg U h.1
  have h2 := can_top_le U h.1
  have h3 := can_pos U n
  have h4 := can_le U n
  have := h.2
  exact ⟨by omega, by omega, h3, by omega⟩
abbrev Cvs (K : PySem.W.Frag) (H : Hp) (p q : Int) : List V → List Int → Prop := Paired fun v n => Fv K H v (can p q n)
theorem Cvs.same {K : PySem.W.Frag} {H H' : Hp} {p q : Int} {vs : List V} {ns : List Int} (e : Same H H') (h : Cvs K H p q vs ns) : Cvs K H' p q vs ns := L2.Paired.mapP h fun _ _ x => x.same e
theorem Cvs.keep {K : PySem.W.Frag} {ps : List Addr} {H H' : Hp} {p q : Int} {vs : List V} {ns : List Int} (e : Keep ps H H') (m : Mu ps H) (h : Cvs K H p q vs ns) : Cvs K H' p q vs ns := L2.Paired.mapP h fun _ _ x => x.keep e m
theorem sum_take_le {ns : List Int} (h : ∀ x ∈ ns, 0 ≤ x) (i : Nat) : 0 ≤ (ns.take i).sum ∧ (ns.take i).sum ≤ ns.sum := by
  have e : ns.sum = (ns.take i).sum + (ns.drop i).sum := by
    rw [← List.sum_append, List.take_append_drop]
  have h1 := Qw.sum_nonneg (l := ns.take i) fun x hx => h x (List.mem_of_mem_take hx)
  have h2 := Qw.sum_nonneg (l := ns.drop i) fun x hx => h x (List.mem_of_mem_drop hx)
  omega
section
variable {P : Program} {w : World} {K : PySem.W.Frag} {mg : Str → Option Value} {base : Heap}
def sp_total_of (K : PySem.W.Frag) : Sp := fun vs H Q _ => ∃ (a : Addr) (us : List V) (ns : List Int) (p q : Int), vs = [.ref a] ∧ SqT K H a us ∧ Cvs K H p q us ns ∧ Unit' p q ∧ (∀ n ∈ ns, 0 ≤ n) ∧ ns.sum ≤ 1000 ∧
  ∀ H' v, Same H H' → Fv K H' v (can p q ns.sum) → Q v H'
theorem ok_total_of (T : Tx K mg) : FnOk P w K mg base CX0 4 T.total_of.f T.total_of.fd ["fractions"] (sp_total_of K) := by
  have G_plus := ok_plus (P := P) (w := w) (base := base) T
  refine T.total_of.F.ok sc_total_of (fun vs H Q E h => ?_) (fun cdv A outer s H vs Q E hr h => ?_)
  · obtain ⟨a, us, ns, p, q, rfl, _⟩ := h
    rfl
  · obtain ⟨a, us, ns, p, q, rfl, ha, hc, U, h0, h1, k⟩ := h
    refine ⟨_, (pss_cons (ps_set (i := 1) sc_total_of.nd rfl (Or.inl rfl) (pe_glob (v := .ref T.aZERO) rfl T.mg_ZERO rfl))
      (pss_cons (ps_for PassesOwn.never rfl (pi_tup (pv 0)) (pg_name (i := 2) sc_total_of.nd rfl (Or.inl rfl)) (pss_one (ps_set (i := 1) sc_total_of.nd rfl (Or.inl rfl) (pe_call G_plus (hr.mono (by decide)) (by rfl) T.plus.g T.plus.kp T.plus.b .nil pass0 (pa_cons (pv 1) (pa_cons (pv 2) pa_nil))))))
      (pss_one (ps_ret (pv 1))))), ?_⟩
    refine ⟨_, rfl, a, rfl, ⟨_, ha⟩, for_tup (K := K) (a := a) (xs := us) (fun i σ H' => ∃ (v : V) (x : Option V), σ = [some (.ref a), some v, x] ∧ Same H H' ∧ Fv K H' v (can p q (ns.take i).sum)) ⟨_, none, rfl, Same.refl _, T.aZERO, rfl, ?_⟩ (fun i σ H' _ ⟨_, _, _, s, _⟩ => same_tup s ha) ?_ ?_⟩
    · rw [List.take_zero]
      show At2 K H T.aZERO (can p q 0)
      rw [can_zero U]
      exact T.sq_ZERO H
    · rintro i y σ H' hi ⟨v, x, rfl, s, hv⟩
      obtain ⟨n, hn, b, rfl, hb⟩ := paired_at hc hi
      obtain ⟨c, rfl, hcv⟩ := hv
      have t1 := sum_take_le h0 i
      have t2 := sum_take_le h0 (i + 1)
      have e : (ns.take (i + 1)).sum = (ns.take i).sum + n := by rw [take_snoc hn, List.sum_append]; simp
      have n0 := h0 n (List.mem_of_getElem? hn)
      refine ⟨_, rfl, _, rfl, c, b, _, _, rfl, hcv, same_tup s hb, bd_can U ⟨t1.1, by omega⟩, bd_can U ⟨n0, by omega⟩, fun r hr' => ?_⟩
      refine ⟨_, _, rfl, s.trans (same_new hr'), r, rfl, ?_⟩
      rw [can_plus U, e]
      exact SqT.of upd_same
    · rintro σ H' ⟨v, x, rfl, s, hv⟩
      rw [← hc.length.symm, List.take_length] at hv
      exact ⟨_, rfl, k H' v s hv⟩
def sp_measure_of (K : PySem.W.Frag) : Sp := fun vs H Q _ => ∃ (a : Addr) (us : List V) (n : Int) (ns : List Int) (p q : Int), vs = [.ref a] ∧ SqT K H a us ∧ Cvs K H p q us (n :: ns) ∧ Unit' p q ∧ (∀ x ∈ n :: ns, 0 < x ∧ x ≤ 1000) ∧
  ∀ H' v, Same H H' → Fv K H' v (can p q (gcdL n ns)) → Q v H'
theorem gcdL_take {n : Int} {ns : List Int} (h : ∀ x ∈ n :: ns, 0 < x ∧ x ≤ 1000) (i : Nat) : 0 < gcdL n (ns.take i) ∧ gcdL n (ns.take i) ≤ 1000 := by
  have hn := h n List.mem_cons_self
  obtain ⟨h1, h2, _⟩ := gcdL_spec (ns.take i) n hn.1
  have := Int.le_of_dvd hn.1 h2
  omega
theorem gcdL_snoc {n m : Int} {ns : List Int} {i : Nat} (h : ns[i]? = some m) : gcdL n (ns.take (i + 1)) = gz (gcdL n (ns.take i)) m := by
  unfold gcdL
  rw [take_snoc h, List.foldl_append]
  rfl
theorem ok_measure_of (T : Tx K mg) : FnOk P w K mg base CX0 3 T.measure_of.f T.measure_of.fd ["amounts"] (sp_measure_of K) := by
  have G_made := ok_made (P := P) (w := w) (base := base) T
  have G_common_divisor := ok_common_divisor (P := P) (w := w) (base := base) T
  refine T.measure_of.F.ok sc_measure_of (fun vs H Q E h => ?_) (fun cdv A outer s H vs Q E hr h => ?_)
  · obtain ⟨a, us, n, ns, p, q, rfl, _⟩ := h
    rfl
  · obtain ⟨a, us, n, ns, p, q, rfl, ha, hc, U, hb, k⟩ := h
    cases hc with
    | @cons v0 _ us' _ h0 hc =>
    obtain ⟨q0, rfl, hq0⟩ := h0
    refine ⟨_, (pss_cons (ps_asg (pe_ix (r := rIxT K) ix_tup (pv 0) pe_int (fun _ _ => rfl)) (pg_tup rfl (pgs_cons (pg_name (i := 1) sc_measure_of.nd rfl (Or.inl rfl)) (pgs_cons (pg_name (i := 2) sc_measure_of.nd rfl (Or.inl rfl)) pgs_nil))))
      (pss_cons (ps_for PassesOwn.never rfl (pi_tup (pe_slice sl_tup (pv 0) (po_some pe_int) po_none)) (pg_name (i := 3) sc_measure_of.nd rfl (Or.inl rfl)) (pss_one (ps_asg (pe_call G_made (hr.mono (by decide)) (by rfl) T.made.g T.made.kp T.made.b .nil pass0 (pa_cons (pe_call G_common_divisor (hr.mono (by decide)) (by rfl) T.common_divisor.g T.common_divisor.kp T.common_divisor.b .nil pass0 (pa_cons (pe_op op_mul (pv 1) (pe_ix (r := rIxT K) ix_tup (pv 3) pe_int (fun _ _ => rfl))) (pa_cons (pe_op op_mul (pe_ix (r := rIxT K) ix_tup (pv 3) pe_int (fun _ _ => rfl)) (pv 2)) pa_nil))) (pa_cons (pe_op op_mul (pv 2) (pe_ix (r := rIxT K) ix_tup (pv 3) pe_int (fun _ _ => rfl))) pa_nil))) (pg_tup rfl (pgs_cons (pg_name (i := 1) sc_measure_of.nd rfl (Or.inl rfl)) (pgs_cons (pg_name (i := 2) sc_measure_of.nd rfl (Or.inl rfl)) pgs_nil))))))
      (pss_one (ps_ret (pe_tup (pa_cons (pv 1) (pa_cons (pv 2) pa_nil))))))), ?_⟩
    refine ⟨_, rfl, a, _, _, _, rfl, rfl, ha, at_nat (by decide) rfl, q0, _, rfl, hq0, rfl, _, _, rfl, _, _, rfl, rfl, ?_⟩
    refine ⟨_, rfl, 1, rfl, a, _, rfl, ha, (fun z => ?_), fun r hr' => ?_⟩
    · have z1 := z.1
      rw [show (1 : Int) = ((1 : Nat) : Int) from rfl, HT.sIx_nat, List.length_cons] at z1
      omega
    have ecut : cutV (V.ref q0 :: us') (some 1) none = us' := by
      rw [show (1 : Int) = ((1 : Nat) : Int) from rfl, cut_from]
      rfl
    rw [ecut]
    have s0 := same_new (o := .tup us') hr'
    have har : SqT K (upd H r (.tup us')) r us' := SqT.of upd_same
    refine ⟨r, rfl, ⟨_, har⟩, for_tup (K := K) (a := r) (xs := us') (fun i σ H' => ∃ (t b : Int) (x : Option V), σ = [some (.ref a), some (.int t), some (.int b), x] ∧ Same (upd H r (.tup us')) H' ∧ (t, b) = can p q (gcdL n (ns.take i))) ⟨_, _, none, rfl, Same.refl _, ?_⟩ (fun i σ H' _ ⟨_, _, _, _, s, _⟩ => same_tup s har) ?_ ?_⟩
    · rfl
    · rintro i y σ H' hi ⟨t, b, x, rfl, s, e⟩
      obtain ⟨m, hm, c, rfl, hcm⟩ := paired_at hc hi
      have hcm' : At2 K H' c (can p q m) := same_tup (s0.trans s) hcm
      have g1 := gcdL_take hb i
      have m1 := hb m (List.mem_cons_of_mem _ (List.mem_of_getElem? hm))
      have bg := bd_can (n := gcdL n (ns.take i)) U ⟨by omega, by omega⟩
      have bm := bd_can (n := m) U ⟨by omega, by omega⟩
      rw [← e] at bg
      obtain ⟨u1, u2⟩ := bd_mul bg bm
      have e1 : t = (can p q (gcdL n (ns.take i))).1 := by rw [← e]
      have e2 : b = (can p q (gcdL n (ns.take i))).2 := by rw [← e]
      -- made(common_divisor(top * amount[1], amount[0] * bottom), bottom * amount[1])
      refine ⟨_, rfl, _, rfl, c, _, _, _, rfl, rfl, hcm', rfl, _, _, rfl, rfl, bd_cm bg _, ?_⟩
      refine ⟨_, rfl, c, _, _, _, rfl, rfl, hcm', rfl, _, rfl, _, _, rfl, rfl, bd_cm bm _, _, _, rfl, ?_⟩
      refine ⟨_, rfl, _, rfl, c, _, _, _, rfl, rfl, hcm', rfl, _, _, rfl, rfl, bd_cm2 bg _, _, _, rfl, ?_, ?_, fun z hz => ?_⟩
      · rw [Int.mul_comm] at u1
        exact (by rw [Int.mul_comm]; exact u1)
      · exact u2
      · refine ⟨z, _, rfl, SqT.of upd_same, rfl, _, _, rfl, _, _, rfl, rfl, ?_⟩
        refine ⟨_, _, _, rfl, s.trans (same_new hz), ?_⟩
        show mk (gz (t * (can p q m).2) ((can p q m).1 * b)) (b * (can p q m).2) = _
        rw [e1, e2, can_measure U, gcdL_snoc hm]
    · rintro σ H' ⟨t, b, x, rfl, s, e⟩
      refine ⟨_, rfl, _, rfl, s2, fun z hz => ?_⟩
      refine k _ _ ((s0.trans s).trans (same_new hz)) ⟨z, rfl, ?_⟩
      rw [hc.length, List.take_length] at e
      rw [← e]
      exact SqT.of upd_same
def sp_is_fraction (K : PySem.W.Frag) : Sp := fun vs H Q _ => ∃ (a : Addr) (f : Int × Int), vs = [.ref a] ∧ At2 K H a f ∧ 0 < f.2 ∧ gz f.1 f.2 = 1 ∧ Q (.bl true) H
theorem ok_is_fraction (T : Tx K mg) : FnOk P w K mg base CX0 2 T.is_fraction.f T.is_fraction.fd ["thing"] (sp_is_fraction K) := by
  have G_is_pair := ok_is_pair (P := P) (w := w) (base := base) T
  have G_is_integer := ok_is_integer (P := P) (w := w) (base := base) T
  have G_common_divisor := ok_common_divisor (P := P) (w := w) (base := base) T
  refine T.is_fraction.F.ok sc_is_fraction (fun vs H Q E h => ?_) (fun cdv A outer s H vs Q E hr h => ?_)
  · obtain ⟨a, f, rfl, _⟩ := h
    rfl
  · obtain ⟨a, f, rfl, ha, h0, h1, k⟩ := h
    refine ⟨_, (pss_cons (ps_if ((pw_or (pt_not (pt_val (pe_call G_is_pair (hr.mono (by decide)) (by rfl) T.is_pair.g T.is_pair.kp T.is_pair.b .nil pass0 (pa_cons (pv 0) pa_nil)))) (pw_or (pt_not (pt_val (pe_call G_is_integer (hr.mono (by decide)) (by rfl) T.is_integer.g T.is_integer.kp T.is_integer.b .nil pass0 (pa_cons (pe_ix (r := rIxT K) ix_tup (pv 0) pe_int (fun _ _ => rfl)) pa_nil)))) (pw_or (pt_not (pt_val (pe_call G_is_integer (hr.mono (by decide)) (by rfl) T.is_integer.g T.is_integer.kp T.is_integer.b .nil pass0 (pa_cons (pe_ix (r := rIxT K) ix_tup (pv 0) pe_int (fun _ _ => rfl)) pa_nil)))) (pw_or1 (pt_cmpR op_lt (pe_ix (r := rIxT K) ix_tup (pv 0) pe_int (fun _ _ => rfl)) pe_int (nomark _))))))).pt (pss_one (ps_ret pe_bl)) pss_nil)
      (pss_one (ps_ret (pe_cmpR op_eq (pe_call G_common_divisor (hr.mono (by decide)) (by rfl) T.common_divisor.g T.common_divisor.kp T.common_divisor.b .nil pass0 (pa_cons (pe_ix (r := rIxT K) ix_tup (pv 0) pe_int (fun _ _ => rfl)) (pa_cons (pe_ix (r := rIxT K) ix_tup (pv 0) pe_int (fun _ _ => rfl)) pa_nil))) pe_int (nomark _))))), ?_⟩
    refine ⟨_, rfl, a, _, _, rfl, ha, _, rfl, iteF ?_⟩
    refine ⟨_, rfl, a, _, _, _, rfl, rfl, ha, rfl, _, rfl, _, rfl, iteF ?_⟩
    refine ⟨_, rfl, a, _, _, _, rfl, rfl, ha, rfl, _, rfl, _, rfl, iteF ?_⟩
    refine ⟨_, rfl, a, _, _, _, rfl, rfl, ha, rfl, _, _, rfl, rfl, _, rfl, iteDN (by omega) ?_⟩
    refine ⟨_, rfl, a, _, _, _, rfl, rfl, ha, rfl, _, rfl, a, _, _, _, rfl, rfl, ha, rfl, _, _, rfl, rfl, ?_⟩
    show Q (.bl (decide (V.int (gz f.1 f.2) = V.int 1))) H
    rw [h1, decide_eq_true rfl]
    exact k
def sp_is_amount (K : PySem.W.Frag) : Sp := fun vs H Q _ => ∃ (a : Addr) (f : Int × Int), vs = [.ref a] ∧ At2 K H a f ∧ 0 < f.2 ∧ gz f.1 f.2 = 1 ∧ 0 < f.1 ∧ Q (.bl true) H
theorem ok_is_amount (T : Tx K mg) : FnOk P w K mg base CX0 3 T.is_amount.f T.is_amount.fd ["thing"] (sp_is_amount K) := by
  have G_is_fraction := ok_is_fraction (P := P) (w := w) (base := base) T
  refine T.is_amount.F.ok sc_is_amount (fun vs H Q E h => ?_) (fun cdv A outer s H vs Q E hr h => ?_)
  · obtain ⟨a, f, rfl, _⟩ := h
    rfl
  · obtain ⟨a, f, rfl, ha, h0, h1, h2, k⟩ := h
    refine ⟨_, (pss_one (ps_ret (pe_and (pe_call G_is_fraction (hr.mono (by decide)) (by rfl) T.is_fraction.g T.is_fraction.kp T.is_fraction.b .nil pass0 (pa_cons (pv 0) pa_nil)) (pe_one (pe_cmpR op_gt (pe_ix (r := rIxT K) ix_tup (pv 0) pe_int (fun _ _ => rfl)) pe_int (nomark _)))))), ?_⟩
    refine ⟨_, rfl, a, f, rfl, ha, h0, h1, _, rfl, iteT ?_⟩
    refine ⟨_, rfl, a, _, _, _, rfl, rfl, ha, rfl, _, _, rfl, rfl, ?_⟩
    show Q (.bl (decide (0 < f.1))) H
    rw [decide_eq_true h2]
    exact k
def sp_are_sums (K : PySem.W.Frag) : Sp := fun vs H Q _ => ∃ (a : Addr) (us : List V) (ns : List Int) (p q : Int), vs = [.ref a] ∧ SqT K H a us ∧ Cvs K H p q us ns ∧ Unit' p q ∧ (∀ n ∈ ns, 0 < n) ∧ ns ≠ [] ∧ ns.length ≤ 100 ∧
  ∀ H', Same H H' → Q (.bl true) H'
theorem all_true : ∀ n : Nat, (List.replicate n true).all id = true
  | 0 => rfl
  | n + 1 => by rw [List.replicate_succ, List.all_cons, all_true n]; rfl
theorem ok_are_sums (T : Tx K mg) : FnOk P w K mg base CX0 4 T.are_sums.f T.are_sums.fd ["thing"] (sp_are_sums K) := by
  have G_is_amount := ok_is_amount (P := P) (w := w) (base := base) T
  refine T.are_sums.F.ok sc_are_sums (fun vs H Q E h => ?_) (fun cdv A outer s H vs Q E hr h => ?_)
  · obtain ⟨a, us, ns, p, q, rfl, _⟩ := h
    rfl
  · obtain ⟨a, us, ns, p, q, rfl, ha, hc, U, h0, hne, hl, k⟩ := h
    have hlen := hc.length
    have hpos : 0 < ns.length := List.length_pos_iff.mpr hne
    refine ⟨_, (pss_one (ps_ret (pe_and (pe_callB (r := rIsi K) call_isi (by rfl) T.z_isinstance (by decide +kernel) (pa_cons (pv 0) (pa_cons (pe_bltn (v := .ty "tuple") (by rfl) T.z_tuple (by decide +kernel) rfl) pa_nil))) (pe_and (pe_chain op_le op_le pe_int (pe_callB (r := rLenK K) call_len_seq (by rfl) T.z_len (by decide +kernel) (pa_cons (pv 0) pa_nil)) (pe_glob (v := .int 100) rfl T.mg_MOST_SIDE ⟨_, rfl⟩)) (pe_one (pe_callB (cr_all rfl) (by rfl) T.z_all (by decide +kernel) (pa_cons (pe_lc (own := [("item", 1)]) (g := gName 1) (tt := tYes) (by rfl) sc_are_sums.nd (pi_tup (pv 0)) (blkOk_by (own := [("item", 1)]) (N := ["thing", "item"]) (sc := defScope s_are_sums) (by decide +kernel)) (fun _ _ _ _ _ => pg_name (i := 1) sc_are_sums.nd rfl (Or.inl rfl)) (fun _ _ _ _ _ => pts_nil) (fun _ _ _ _ _ => (pe_call G_is_amount (hr.mono (by decide)) (by rfl) T.is_amount.g T.is_amount.kp T.is_amount.b .nil pass0 (pa_cons (pv 1) pa_nil)))) pa_nil))))))), ?_⟩
    refine ⟨_, rfl, .ref a, .ty "tuple", .type "tuple", .type "tuple", true, rfl, .ty _, ty_tup ha, kit_ty (by decide +kernel), _, rfl, iteT ?_⟩
    refine ⟨_, rfl, a, _, rfl, .inr ha, _, _, rfl, rfl, _, rfl, iteD (by omega) ?_⟩
    refine ⟨_, _, rfl, rfl, _, rfl, iteD (by omega) ?_⟩
    refine ⟨_, rfl, a, rfl, ⟨_, ha⟩, fun D hD => lc_tup (K := K) (a := a) (xs := us) (fun i H' => Same H H' ∧ H' D = some (.lst ((List.replicate i true).map V.bl))) ⟨same_new hD, upd_same⟩ (fun i H' _ ⟨s, _⟩ => same_tup s ha) ?_ ?_⟩
    · rintro i y H' hi ⟨s, hd⟩
      obtain ⟨n, hn, b, rfl, hb⟩ := paired_at hc hi
      have n0 := h0 n (List.mem_of_getElem? hn)
      have ilt := lt_of_at hi
      refine ⟨rfl, _, rfl, b, _, rfl, same_tup s hb, can_pos U n, can_gcd U n, can_top_pos U n0, _, hd, ?_, ?_, ?_⟩
      · rw [List.length_map, List.length_replicate]
        exact sz' (by omega)
      · intro c u e
        have nc : c ≠ D := ne_of_none e hD
        rw [upd_ne nc]
        exact s c u e
      · rw [upd_same, List.replicate_succ', List.map_append]
        rfl
    · rintro H' ⟨s, hd⟩
      refine ⟨D, _, rfl, SqL.of hd, ?_⟩
      rw [all_true]
      exact k H' s
end
end Qw
set_option Elab.async false
set_option maxRecDepth 100000
set_option linter.all false
set_option maxHeartbeats 4000000
/-! QW3: evenings. -/
namespace Qw
open PySem PySem.Spec PyProof.Rows L2
/-- the numbers of an evening -/
structure Num (A B : List Int) : Prop where
  a : ∀ x ∈ A, 0 < x
  b : ∀ x ∈ B, 0 < x
  eq : A.sum = B.sum
  ne : A ≠ []
  ne' : B ≠ []
  le : A.sum ≤ 1000
  la : A.length ≤ 100
  lb : B.length ≤ 100
theorem Num.le' {A B : List Int} (N : Num A B) : B.sum ≤ 1000 := by rw [← N.eq]; exact N.le
theorem Num.sm {A B : List Int} (N : Num A B) : ∀ x ∈ A ++ B, 0 < x ∧ x ≤ 1000 := fun x hx => by
  rcases List.mem_append.mp hx with h | h
  · exact ⟨N.a x h, Int.le_trans (mem_le_sum (fun y hy => Int.le_of_lt (N.a y hy)) h) N.le⟩
  · exact ⟨N.b x h, Int.le_trans (mem_le_sum (fun y hy => Int.le_of_lt (N.b y hy)) h) N.le'⟩
section
variable {P : Program} {w : World} {K : PySem.W.Frag} {mg : Str → Option Value} {base : Heap}
/-- an Evening of the sums A, B times p/q stands at e -/
def EvAt (T : Tx K mg) (p q : Int) (H : Hp) (e : Addr) (A B : List Int) : Prop := ∃ dx o d va vb, H e = some (.ins T.CE dx (evF o d)) ∧ SqT K H o va ∧ SqT K H d vb ∧ Cvs K H p q va A ∧ Cvs K H p q vb B
theorem EvAt.same {T : Tx K mg} {p q : Int} {H H' : Hp} {e : Addr} {A B : List Int} (s : Same H H') (h : EvAt T p q H e A B) : EvAt T p q H' e A B := by
  obtain ⟨dx, o, d, va, vb, h1, h2, h3, h4, h5⟩ := h
  exact ⟨dx, o, d, va, vb, s _ _ h1, same_tup s h2, same_tup s h3, h4.same s, h5.same s⟩
theorem EvAt.keep {T : Tx K mg} {p q : Int} {ps : List Addr} {H H' : Hp} {e : Addr} {A B : List Int} (s : Keep ps H H') (m : Mu ps H) (n : e ∉ ps) (h : EvAt T p q H e A B) : EvAt T p q H' e A B := by
  obtain ⟨dx, o, d, va, vb, h1, h2, h3, h4, h5⟩ := h
  exact ⟨dx, o, d, va, vb, s _ _ h1 n, keep_tup s m h2, keep_tup s m h3, h4.keep s m, h5.keep s m⟩
def sp_evening_init (T : Tx K mg) : Sp := fun vs H Q _ => ∃ (e dx o d : Addr) (va vb : List V) (A B : List Int) (p q : Int), vs = [.ref e, .ref o, .ref d] ∧ H e = some (.ins T.CE dx []) ∧ SqT K H o va ∧ SqT K H d vb ∧ Cvs K H p q va A ∧ Cvs K H p q vb B ∧ Unit' p q ∧ Num A B ∧
  ∀ H', Keep [e] H H' → H' e = some (.ins T.CE dx (evF o d)) → Q .non H'
theorem ok_evening_init (T : Tx K mg) : FnOk P w K mg base CX0 5 T.evening_init.f T.evening_init.fd ["self", "owed", "due"] (sp_evening_init T) := by
  have G_are_sums := ok_are_sums (P := P) (w := w) (base := base) T
  have G_total_of := ok_total_of (P := P) (w := w) (base := base) T
  refine T.evening_init.F.ok sc_evening_init (fun vs H Q E h => ?_) (fun cdv A outer s H vs Q E hr h => ?_)
  · obtain ⟨e, dx, o, d, va, vb, A, B, p, q, rfl, _⟩ := h
    rfl
  · obtain ⟨e, dx, o, d, va, vb, A, B, p, q, rfl, he, ho, hd, hA, hB, U, N, k⟩ := h
    refine ⟨_, (pss_cons (ps_if (pt_not (pt_val (pe_call G_are_sums (hr.mono (by decide)) (by rfl) T.are_sums.g T.are_sums.kp T.are_sums.b .nil pass0 (pa_cons (pv 1) pa_nil)))) (pss_one ps_never) pss_nil)
      (pss_cons (ps_if (pt_not (pt_val (pe_call G_are_sums (hr.mono (by decide)) (by rfl) T.are_sums.g T.are_sums.kp T.are_sums.b .nil pass0 (pa_cons (pv 2) pa_nil)))) (pss_one ps_never) pss_nil)
      (pss_cons (ps_if (pt_cmpR (r := rNeD K) (op_neD hr.units) (pe_call G_total_of (hr.mono (by decide)) (by rfl) T.total_of.g T.total_of.kp T.total_of.b .nil pass0 (pa_cons (pv 1) pa_nil)) (pe_call G_total_of (hr.mono (by decide)) (by rfl) T.total_of.g T.total_of.kp T.total_of.b .nil pass0 (pa_cons (pv 2) pa_nil)) (nomark _)) (pss_one ps_never) pss_nil)
      (pss_cons (ps_fld (pv 0) (pv 1) rfl)
      (pss_one (ps_fld (pv 0) (pv 2) rfl)))))), ?_⟩
    refine ⟨_, rfl, o, va, A, p, q, rfl, ho, hA, U, N.a, N.ne, N.la, fun H1 s1 => ⟨_, rfl, iteF ?_⟩⟩
    refine ⟨_, rfl, d, vb, B, p, q, rfl, same_tup s1 hd, hB.same s1, U, N.b, N.ne', N.lb, fun H2 s2 => ⟨_, rfl, iteF ?_⟩⟩
    have s12 := s1.trans s2
    refine ⟨_, rfl, o, va, A, p, q, rfl, same_tup s12 ho, hA.same s12, U, (fun x hx => Int.le_of_lt (N.a x hx)), N.le, fun H3 v3 s3 f3 => ?_⟩
    have s13 := s12.trans s3
    refine ⟨_, rfl, d, vb, B, p, q, rfl, same_tup s13 hd, hB.same s13, U, (fun x hx => Int.le_of_lt (N.b x hx)), N.le', fun H4 v4 s4 f4 => ?_⟩
    have s14 := s13.trans s4
    obtain ⟨q3, rfl, g3⟩ := f3
    obtain ⟨q4, rfl, g4⟩ := f4
    refine ⟨_, _, dp2 (same_tup s4 g3), dp2 g4, shp2 _ _, shp2 _ _, _, rfl, ?_⟩
    rw [eqv2, N.eq, decide_eq_true rfl]
    refine iteF ?_
    refine ⟨_, rfl, _, rfl, e, T.CE, dx, _, rfl, s14 _ _ he, T.clE, T.n_owed, (by decide), ?_⟩
    refine ⟨_, rfl, _, rfl, e, T.CE, dx, _, rfl, upd_same, T.clE, T.n_due, put_len1 _ _, ?_⟩
    refine k _ (fun b u h n => ?_) upd_same
    have nb : b ≠ e := fun z => n (by rw [z]; exact List.mem_singleton.mpr rfl)
    rw [upd_ne nb, upd_ne nb]
    exact s14 _ _ h
def sp_all_sums (T : Tx K mg) : Sp := fun vs H Q _ => ∃ (e : Addr) (A B : List Int) (p q : Int), vs = [.ref e] ∧ EvAt T p q H e A B ∧ Num A B ∧ ∀ (a : Addr) (us : List V) (H' : Hp), Same H H' → SqT K H' a us → Cvs K H' p q us (A ++ B) → Q (.ref a) H'
theorem ok_all_sums (T : Tx K mg) : FnOk P w K mg base CX0 1 T.all_sums.f T.all_sums.fd ["evening"] (sp_all_sums T) := by
  refine T.all_sums.F.ok sc_all_sums (fun vs H Q E h => ?_) (fun cdv A outer s H vs Q E hr h => ?_)
  · obtain ⟨e, A, B, p, q, rfl, _⟩ := h
    rfl
  · obtain ⟨e, A, B, p, q, rfl, ⟨dx, o, d, va, vb, he, ho, hd, hA, hB⟩, N, k⟩ := h
    refine ⟨_, (pss_one (ps_ret (pe_op op_catT (pe_fld (pv 0) rfl) (pe_fld (pv 0) rfl)))), ?_⟩
    have l1 := hA.length
    have l2 := hB.length
    have := N.la
    have := N.lb
    refine ⟨_, rfl, e, T.CE, dx, _, _, rfl, he, T.clE, T.n_owed, evF_owed o d, _, rfl, e, T.CE, dx, _, _, rfl, he, T.clE, T.n_due, evF_due o d, o, d, va, vb, rfl, rfl, ho, hd, ?_, sz (by omega), ?_, ?_⟩
    · rintro rfl
      exact N.ne (List.eq_nil_of_length_eq_zero l1.symm)
    · rintro rfl
      exact absurd (List.eq_nil_of_length_eq_zero l2.symm) N.ne'
    · intro _ p' hp
      exact k _ _ _ (same_new hp) (SqT.of upd_same) (paired_app (hA.same (same_new hp)) (hB.same (same_new hp)))
def sp_people (T : Tx K mg) : Sp := fun vs H Q _ => ∃ (e : Addr) (A B : List Int) (p q : Int), vs = [.ref e] ∧ EvAt T p q H e A B ∧ Q (.int ((A.length : Int) + (B.length : Int))) H
theorem ok_people (T : Tx K mg) : FnOk P w K mg base CX0 1 T.people.f T.people.fd ["evening"] (sp_people T) := by
  refine T.people.F.ok sc_people (fun vs H Q E h => ?_) (fun cdv A outer s H vs Q E hr h => ?_)
  · obtain ⟨e, A, B, p, q, rfl, _⟩ := h
    rfl
  · obtain ⟨e, A, B, p, q, rfl, ⟨dx, o, d, va, vb, he, ho, hd, hA, hB⟩, k⟩ := h
    refine ⟨_, (pss_one (ps_ret (pe_op op_add (pe_callB (r := rLenK K) call_len_seq (by rfl) T.z_len (by decide +kernel) (pa_cons (pe_fld (pv 0) rfl) pa_nil)) (pe_callB (r := rLenK K) call_len_seq (by rfl) T.z_len (by decide +kernel) (pa_cons (pe_fld (pv 0) rfl) pa_nil))))), ?_⟩
    have l1 : va.length = A.length := hA.length
    have l2 : vb.length = B.length := hB.length
    refine ⟨_, rfl, e, T.CE, dx, _, _, rfl, he, T.clE, T.n_owed, evF_owed o d, o, va, rfl, .inr ho, _, rfl, e, T.CE, dx, _, _, rfl, he, T.clE, T.n_due, evF_due o d, d, vb, rfl, .inr hd, _, _, rfl, rfl, ?_⟩
    show Q (.int ((va.length : Int) + (vb.length : Int))) H
    rw [l1, l2]
    exact k
def sp_units_of (T : Tx K mg) : Sp := fun vs H Q _ => ∃ (e : Addr) (A B : List Int) (p q : Int), vs = [.ref e] ∧ EvAt T p q H e A B ∧ Unit' p q ∧ Num A B ∧
  ∀ (t la lb : Addr) (H' : Hp), Same H H' → H' t = some (.tup [.ref la, .ref lb]) → H' la = some (.lst ((divs (measureL A B) A).map V.int)) → H' lb = some (.lst ((divs (measureL A B) B).map V.int)) → Q (.ref t) H'
theorem over_ok {p q g n : Int} (U : Unit' p q) (hg : 0 < g ∧ g ≤ 1000) : 0 < (can p q n).2 * (can p q g).1 ∧ (can p q n).2 * (can p q g).1 < 2 ^ 30 := by
  have h1 := can_pos U n
  have h2 := can_le U n
  have h3 := can_top_pos U hg.1
  have h4 := can_top_le (p := p) (q := q) U (Int.le_of_lt hg.1)
  refine ⟨Int.mul_pos h1 h3, ?_⟩
  have h5 : (can p q n).2 * (can p q g).1 ≤ 9 * (can p q g).1 := Int.mul_le_mul_of_nonneg_right h2 (Int.le_of_lt h3)
  have := hg.2
  omega
theorem measure_le {A B : List Int} (N : Num A B) : 0 < measureL A B ∧ measureL A B ≤ 1000 := by
  have G := measureL_gcd N.a N.b N.ne
  cases A with
  | nil => exact absurd rfl N.ne
  | cons x A =>
    have h := G.a x List.mem_cons_self
    have hx := N.sm x (List.mem_append_left _ List.mem_cons_self)
    have := Int.le_of_dvd hx.1 h
    exact ⟨G.pos, by omega⟩
theorem ok_units_of (T : Tx K mg) : FnOk P w K mg base CX0 4 T.units_of.f T.units_of.fd ["evening"] (sp_units_of T) := by
  have G_measure_of := ok_measure_of (P := P) (w := w) (base := base) T
  have G_all_sums := ok_all_sums (P := P) (w := w) (base := base) T
  have G_over := ok_over (P := P) (w := w) (base := base) T
  refine T.units_of.F.ok sc_units_of (fun vs H Q E h => ?_) (fun cdv A outer s H vs Q E hr h => ?_)
  · obtain ⟨e, A, B, p, q, rfl, _⟩ := h
    rfl
  · obtain ⟨e, A, B, p, q, rfl, hE, U, N, k⟩ := h
    refine ⟨_, (pss_cons (ps_set (i := 1) sc_units_of.nd rfl (Or.inr rfl) (pe_call G_measure_of (hr.mono (by decide)) (by rfl) T.measure_of.g T.measure_of.kp T.measure_of.b .nil pass0 (pa_cons (pe_call G_all_sums (hr.mono (by decide)) (by rfl) T.all_sums.g T.all_sums.kp T.all_sums.b .nil pass0 (pa_cons (pv 0) pa_nil)) pa_nil)))
      (pss_one (ps_ret (pe_tup (pa_cons (pe_lc (own := [("item", 2)]) (g := gName 2) (tt := tYes) (by rfl) sc_units_of.nd (pi_tup (pe_fld (pv 0) rfl)) (blkOk_by (own := [("item", 2)]) (N := ["evening", "unit", "item"]) (sc := defScope s_units_of) (by decide +kernel)) (fun _ _ _ _ _ => pg_name (i := 2) sc_units_of.nd rfl (Or.inl rfl)) (fun _ _ _ _ _ => pts_nil) (fun _ _ _ _ _ => (pe_ix (r := rIxT K) ix_tup (pe_call G_over (hr.mono (by decide)) (by rfl) T.over.g T.over.kp T.over.b .nil pass0 (pa_cons (pv 2) (pa_cons (pv 1) pa_nil))) pe_int (fun _ _ => rfl)))) (pa_cons (pe_lc (own := [("item", 2)]) (g := gName 2) (tt := tYes) (by rfl) sc_units_of.nd (pi_tup (pe_fld (pv 0) rfl)) (blkOk_by (own := [("item", 2)]) (N := ["evening", "unit", "item"]) (sc := defScope s_units_of) (by decide +kernel)) (fun _ _ _ _ _ => pg_name (i := 2) sc_units_of.nd rfl (Or.inl rfl)) (fun _ _ _ _ _ => pts_nil) (fun _ _ _ _ _ => (pe_ix (r := rIxT K) ix_tup (pe_call G_over (hr.mono (by decide)) (by rfl) T.over.g T.over.kp T.over.b .nil pass0 (pa_cons (pv 2) (pa_cons (pv 1) pa_nil))) pe_int (fun _ _ => rfl)))) pa_nil)))))), ?_⟩
    refine ⟨_, rfl, e, A, B, p, q, rfl, hE, N, fun a us H1 s1 ha hus => ?_⟩
    obtain ⟨n0, ns, hAB⟩ : ∃ n0 ns, A ++ B = n0 :: ns := by
      cases hh : A ++ B with
      | nil => exact absurd (List.append_eq_nil_iff.mp hh).1 N.ne
      | cons n0 ns => exact ⟨n0, ns, rfl⟩
    have hm : measureL A B = gcdL n0 ns := by
      unfold measureL
      rw [hAB]
    rw [hAB] at hus
    refine ⟨a, us, n0, ns, p, q, rfl, ha, hus, U, (by rw [← hAB]; exact N.sm), fun H2 v2 s2' f2 => ?_⟩
    rw [← hm] at f2
    have ml := measure_le N
    have MG := measureL_gcd N.a N.b N.ne
    obtain ⟨q2, rfl, hq2⟩ := f2
    have s02 := s1.trans s2'
    obtain ⟨dx, o, d, va, vb, he, ho, hd, hA, hB⟩ := hE
    -- the owers' list
    refine ⟨_, rfl, e, T.CE, dx, _, _, rfl, s02 _ _ he, T.clE, T.n_owed, evF_owed o d, o, rfl, ⟨_, same_tup s02 ho⟩, fun D hD => lc_tup (K := K) (a := o) (xs := va) (fun i H' => Same H2 H' ∧ H' D = some (.lst (((divs (measureL A B) A).take i).map V.int))) ⟨same_new hD, by rw [upd_same]; rfl⟩ (fun i H' _ ⟨s, _⟩ => same_tup (s02.trans s) ho) ?_ ?_⟩
    · rintro i y H' hi ⟨s3, hd3⟩
      obtain ⟨n, hn, b, rfl, hb⟩ := paired_at hA hi
      have nA := List.mem_of_getElem? hn
      have nb := N.sm n (List.mem_append_left _ nA)
      obtain ⟨v1, v2⟩ := over_ok (n := n) U ml
      have ilt := lt_of_at hn
      have := N.la
      refine ⟨rfl, _, rfl, _, rfl, b, q2, _, _, rfl, same_tup (s02.trans s3) hb, same_tup s3 hq2, bd_can U ⟨by omega, nb.2⟩, bd_can U ⟨by omega, ml.2⟩, v1, v2, fun r hr' => ?_⟩
      rw [can_over U ml.1 (MG.a n nA)]
      refine ⟨r, _, _, _, rfl, rfl, SqT.of upd_same, rfl, _, (upd_ne (ne_of_none hd3 hr')).trans hd3, ?_, ?_, ?_⟩
      · rw [List.length_map]
        exact sz' (Nat.le_trans (List.length_take_le _ _) (by omega))
      · intro c u e'
        have nc : c ≠ D := ne_of_none e' hD
        rw [upd_ne nc]
        exact same_new hr' c u (s3 c u e')
      · rw [upd_same, take_snoc (x := n / measureL A B) (by unfold divs; rw [List.getElem?_map, hn]; rfl), List.map_append]
        rfl
    rintro H3 ⟨s3, hd3⟩
    rw [show va.length = (divs (measureL A B) A).length by unfold divs; rw [List.length_map]; exact hA.length, List.take_length] at hd3
    have s03 := s02.trans s3
    -- the takers' list
    refine ⟨_, rfl, e, T.CE, dx, _, _, rfl, s03 _ _ he, T.clE, T.n_due, evF_due o d, d, rfl, ⟨_, same_tup s03 hd⟩, fun D' hD' => lc_tup (K := K) (a := d) (xs := vb) (fun i H' => Same H3 H' ∧ H' D' = some (.lst (((divs (measureL A B) B).take i).map V.int))) ⟨same_new hD', by rw [upd_same]; rfl⟩ (fun i H' _ ⟨s, _⟩ => same_tup (s03.trans s) hd) ?_ ?_⟩
    · rintro i y H' hi ⟨s4, hd4⟩
      obtain ⟨n, hn, b, rfl, hb⟩ := paired_at hB hi
      have nB := List.mem_of_getElem? hn
      have nb := N.sm n (List.mem_append_right _ nB)
      obtain ⟨v1, v2⟩ := over_ok (n := n) U ml
      have ilt := lt_of_at hn
      have := N.lb
      refine ⟨rfl, _, rfl, _, rfl, b, q2, _, _, rfl, same_tup (s03.trans s4) hb, same_tup (s3.trans s4) hq2, bd_can U ⟨by omega, nb.2⟩, bd_can U ⟨by omega, ml.2⟩, v1, v2, fun r hr' => ?_⟩
      rw [can_over U ml.1 (MG.b n nB)]
      refine ⟨r, _, _, _, rfl, rfl, SqT.of upd_same, rfl, _, (upd_ne (ne_of_none hd4 hr')).trans hd4, ?_, ?_, ?_⟩
      · rw [List.length_map]
        exact sz' (Nat.le_trans (List.length_take_le _ _) (by omega))
      · intro c u e'
        have nc : c ≠ D' := ne_of_none e' hD'
        rw [upd_ne nc]
        exact same_new hr' c u (s4 c u e')
      · rw [upd_same, take_snoc (x := n / measureL A B) (by unfold divs; rw [List.getElem?_map, hn]; rfl), List.map_append]
        rfl
    rintro H4 ⟨s4, hd4⟩
    rw [show vb.length = (divs (measureL A B) B).length by unfold divs; rw [List.length_map]; exact hB.length, List.take_length] at hd4
    refine ⟨s2, fun t ht => ?_⟩
    have s5 := same_new (o := .tup [.ref D, .ref D']) ht
    exact k t D D' _ ((s03.trans s4).trans s5) upd_same (s5 _ _ (s4 _ _ hd3)) (s5 _ _ hd4)
def sp_greatest_of (T : Tx K mg) : Sp := fun vs H Q _ => ∃ (e : Addr) (A B : List Int) (p q : Int), vs = [.ref e] ∧ EvAt T p q H e A B ∧ Unit' p q ∧ Num A B ∧ ∀ H', Same H H' → Q (.int (greatestG (measureL A B) A B)) H'
theorem ok_greatest_of (T : Tx K mg) : FnOk P w K mg base CX0 5 T.greatest_of.f T.greatest_of.fd ["evening"] (sp_greatest_of T) := by
  have G_people := ok_people (P := P) (w := w) (base := base) T
  have G_units_of := ok_units_of (P := P) (w := w) (base := base) T
  refine T.greatest_of.F.ok sc_greatest_of (fun vs H Q E h => ?_) (fun cdv A outer s H vs Q E hr h => ?_)
  · obtain ⟨e, A, B, p, q, rfl, _⟩ := h
    rfl
  · obtain ⟨e, A, B, p, q, rfl, hE, U, N, k⟩ := h
    refine ⟨_, (pss_one (ps_ret (pe_callB (call_min2 rfl) (by rfl) T.z_min (by decide +kernel) (pa_cons (pe_op op_sub (pe_call G_people (hr.mono (by decide)) (by rfl) T.people.g T.people.kp T.people.b .nil pass0 (pa_cons (pv 0) pa_nil)) pe_int) (pa_cons (pe_callB (cr_sum rfl) (by rfl) T.z_sum (by decide +kernel) (pa_cons (pe_ix (r := rIxT K) ix_tup (pe_call G_units_of (hr.mono (by decide)) (by rfl) T.units_of.g T.units_of.kp T.units_of.b .nil pass0 (pa_cons (pv 0) pa_nil)) pe_int (fun _ _ => rfl)) pa_nil)) pa_nil))))), ?_⟩
    refine ⟨_, rfl, e, A, B, p, q, rfl, hE, _, _, rfl, rfl, _, rfl, e, A, B, p, q, rfl, hE, U, N, fun t la lb H1 s1 ht h1 h2 => ?_⟩
    refine ⟨t, _, _, _, rfl, rfl, SqT.of ht, rfl, la, _, rfl, SqL.of h1, _, _, rfl, ?_⟩
    have MG := measureL_gcd N.a N.b N.ne
    rw [divs_sum MG.pos MG.a]
    exact k H1 s1
def sp_greatest (T : Tx K mg) : Sp := sp_greatest_of T
theorem ok_greatest (T : Tx K mg) : FnOk P w K mg base CX0 6 T.greatest.f T.greatest.fd ["evening"] (sp_greatest T) := by
  have G_greatest_of := ok_greatest_of (P := P) (w := w) (base := base) T
  refine T.greatest.F.ok sc_greatest (fun vs H Q E h => ?_) (fun cdv A outer s H vs Q E hr h => ?_)
  · obtain ⟨e, A, B, p, q, rfl, _⟩ := h
    rfl
  · obtain ⟨e, A, B, p, q, rfl, hE, U, N, k⟩ := h
    refine ⟨_, (pss_one (ps_ret (pe_call G_greatest_of (hr.mono (by decide)) (by rfl) T.greatest_of.g T.greatest_of.kp T.greatest_of.b .nil pass0 (pa_cons (pv 0) pa_nil)))), ?_⟩
    exact ⟨_, rfl, e, A, B, p, q, rfl, hE, U, N, k⟩
end
end Qw
set_option Elab.async false
set_option maxRecDepth 100000
set_option linter.all false
set_option maxHeartbeats 4000000
/-! QW4: the Rests object: made, its many and least, lessen and pay. -/
namespace Qw
open PySem PySem.Spec PyProof.Rows L2
/-! ### a side as a dict -/
def enc (l : D) : List (Key × V) := l.map fun q => (Sum.inl q.1, V.int q.2)
theorem enc_len (l : D) : (enc l).length = l.length := by unfold enc; rw [List.length_map]
theorem enc_val (k : Int) : ∀ l : D, valV (enc l) (Sum.inl k : Key) = (lk? l k).map V.int
  | [] => rfl
  | q :: l => by
    have ih := enc_val k l
    by_cases e : q.1 = k
    · have e' : ((Sum.inl q.1 : Key), V.int q.2).1 = Sum.inl k := by rw [e]
      unfold enc
      rw [List.map_cons, valV_pos e']
      unfold lk?
      rw [List.find?_cons, decide_eq_true e]
      rfl
    · have e' : ¬ ((Sum.inl q.1 : Key), V.int q.2).1 = Sum.inl k := fun z => e (Sum.inl.inj z)
      unfold enc at ih ⊢
      rw [List.map_cons, valV_neg e', ih]
      unfold lk?
      rw [List.find?_cons, decide_eq_false e]
theorem enc_at {l : D} (h : (keys l).Nodup) {k v : Int} (m : (k, v) ∈ l) : valV (enc l) (Sum.inl k : Key) = some (V.int v) := by rw [enc_val, find_nd h m]; rfl
theorem enc_put {l : D} (h : (keys l).Nodup) {k v x : Int} (m : (k, v) ∈ l) : putK (enc l) (Sum.inl k : Key) (V.int x) = enc (setk l k x) := by
  have a : ((enc l).any fun kv => decide (kv.1 = (Sum.inl k : Key))) = true := by rw [valV_any, enc_at h m]; rfl
  unfold putK
  rw [if_pos a]
  unfold enc setk
  rw [List.map_map, List.map_map]
  apply List.map_congr_left
  intro q _
  show (if (Sum.inl q.1 : Key) = Sum.inl k then ((Sum.inl q.1 : Key), V.int x) else ((Sum.inl q.1 : Key), V.int q.2)) = ((Sum.inl (if q.1 = k then (q.1, x) else q).1 : Key), V.int (if q.1 = k then (q.1, x) else q).2)
  by_cases e : q.1 = k
  · rw [if_pos (by rw [e]), if_pos e]
  · rw [if_neg (fun z => e (Sum.inl.inj z)), if_neg e]
theorem enc_drop (l : D) (k : Int) : dropK (enc l) (Sum.inl k : Key) = enc (delk l k) := by
  unfold dropK enc delk
  rw [List.filter_map]
  congr 1
  apply List.filter_congr
  intro q _
  have e : (Sum.inl q.1 : Key) = Sum.inl k ↔ q.1 = k := ⟨Sum.inl.inj, fun z => by rw [z]⟩
  exact decide_eq_decide.mpr (not_congr e)
theorem enc_keys (l : D) : (enc l).map (·.1) = (keys l).map Sum.inl := by
  unfold enc keys
  rw [List.map_map, List.map_map]
  rfl
theorem merge_app : ∀ (more acc : List (Key × V)), ((acc ++ more).map (·.1)).Nodup → mergeK acc more = acc ++ more
  | [], acc, _ => by simp [mergeK]
  | q :: more, acc, h => by
    have n : valV acc q.1 = none := by
      cases e : valV acc q.1 with
      | none => rfl
      | some v =>
        have m := valV_in e
        rw [List.map_append, List.nodup_append] at h
        exact absurd rfl (h.2.2 _ m _ (by rw [List.map_cons]; exact List.mem_cons_self))
    show mergeK (putK acc q.1 q.2) more = acc ++ q :: more
    rw [putK_new _ n, merge_app more _ (by rw [List.append_assoc]; exact h), List.append_assoc]
    rfl
theorem numb_enc (A : List Int) : numb (A.map V.int) = enc (enum A) := by
  unfold numb enc enum
  rw [List.zipIdx_map, List.map_map, List.map_map]
  rfl
theorem enc_nodup {l : D} (h : (keys l).Nodup) : ((enc l).map (·.1)).Nodup := by
  rw [enc_keys]
  exact List.Pairwise.map _ (fun a b n z => n (Sum.inl.inj z)) h
theorem merge_enum (A : List Int) : mergeK [] (numb (A.map V.int)) = enc (enum A) := by
  rw [numb_enc]
  exact merge_app _ [] (enc_nodup (nodup_enum A))
/-! ### where a Rests stands -/
structure RsA where
  dx : Addr
  t : Addr
  da : Addr
  db : Addr
  l : Addr
def RsA.d (A : RsA) (s : Int) : Addr := if s = 0 then A.da else A.db
section
variable {P : Program} {w : World} {K : PySem.W.Frag} {mg : Str → Option Value} {base : Heap}
structure RsAt (T : Tx K mg) (H : Hp) (r : Addr) (A : RsA) (R : RS) : Prop where
  obj : H r = some (.ins T.CR A.dx (rsF A.t R.whole A.l))
  tup : H A.t = some (.tup [.ref A.da, .ref A.db])
  ha : H A.da = some (.dK (enc R.a))
  hb : H A.db = some (.dK (enc R.b))
  row : ∃ us, H A.l = some (.lst us) ∧ Fvs K H us R.row
  ne : A.da ≠ A.db
/-- what a Rests' methods may change -/
def RsA.mu (A : RsA) (r : Addr) : List Addr := [r, A.da, A.db, A.l]
section
variable {T : Tx K mg} {H H' : Hp} {r : Addr} {A : RsA} {R : RS}
theorem RsAt.same (s : Same H H') (h : RsAt T H r A R) : RsAt T H' r A R := by
  obtain ⟨us, h1, h2⟩ := h.row
  exact ⟨s _ _ h.obj, s _ _ h.tup, s _ _ h.ha, s _ _ h.hb, ⟨us, s _ _ h1, h2.same s⟩, h.ne⟩
theorem RsAt.mut (h : RsAt T H r A R) : Mu (A.mu r) H := by
  intro p hp
  obtain ⟨us, h1, _⟩ := h.row
  rcases List.mem_cons.mp hp with rfl | hp
  · rw [h.obj]; trivial
  · rcases List.mem_cons.mp hp with rfl | hp
    · rw [h.ha]; trivial
    · rcases List.mem_cons.mp hp with rfl | hp
      · rw [h.hb]; trivial
      · rw [List.mem_singleton.mp hp, h1]; trivial
theorem RsAt.dict (h : RsAt T H r A R) {s : Int} (hs : Side s) : H (A.d s) = some (.dK (enc (sd R s))) := by
  rcases hs with rfl | rfl
  · exact h.ha
  · exact h.hb
theorem d_at (A : RsA) {s : Int} (hs : Side s) : atI [V.ref A.da, V.ref A.db] s = some (.ref (A.d s)) := by
  rcases hs with rfl | rfl
  · exact at_nat (by decide) rfl
  · exact at_nat (by decide) rfl
theorem RsAt.dne (h : RsAt T H r A R) {s : Int} (hs : Side s) : A.d s ≠ A.d (1 - s) := by
  rcases hs with rfl | rfl
  · exact h.ne
  · exact h.ne.symm
theorem RsA.d_mem (A : RsA) (r : Addr) {s : Int} (hs : Side s) : A.d s ∈ A.mu r := by
  rcases hs with rfl | rfl
  · show A.da ∈ _
    unfold RsA.mu
    simp
  · show A.db ∈ _
    unfold RsA.mu
    simp
/-- self.sides[i], i any expression that gives a side -/
theorem rd_side {ti : TE} {σ : L2.St} {Q : VK} {s : Int} {ts : TE} (h : RsAt T H r A R) (hs : Side s) (hself : ∀ Q : VK, Q (.ref r) H → ts σ H Q) (hi : ∀ Q : VK, Q (.int s) H → ti σ H Q) (q : Q (.ref (A.d s)) H) : tOp (rIxT K) (tFld K ts "sides") ti σ H Q := by
  refine hself _ ⟨r, T.CR, A.dx, _, _, rfl, h.obj, T.clR, T.n_sides, rsF_sides _ _ _, hi _ ?_⟩
  exact ⟨A.t, _, s, _, rfl, rfl, SqT.of h.tup, d_at A hs, q⟩
theorem gvar {σ : L2.St} {H : Hp} {i : Nat} {v : V} (e : σ[i]? = some (some v)) : ∀ Q : VK, Q v H → tVar i σ H Q := fun _ q => ⟨v, e, q⟩
theorem gcon {σ : L2.St} {H : Hp} {v : V} : ∀ Q : VK, Q v H → tC v σ H Q := fun _ q => q
theorem gflip {σ : L2.St} {H : Hp} {i : Nat} {s : Int} (e : σ[i]? = some (some (.int s))) : ∀ Q : VK, Q (.int (1 - s)) H → tOp (rI0 fun i j => .int (i - j)) (tC (.int 1)) (tVar i) σ H Q := fun _ q => ⟨.int s, e, 1, s, rfl, rfl, q⟩
/-- self.sides[i][k] -/
theorem rd_rest {ti tk : TE} {σ : L2.St} {Q : VK} {s k v : Int} {ts : TE} (h : RsAt T H r A R) (hs : Side s) (nd : (keys (sd R s)).Nodup) (m : (k, v) ∈ sd R s) (hself : ∀ Q : VK, Q (.ref r) H → ts σ H Q) (hi : ∀ Q : VK, Q (.int s) H → ti σ H Q) (hk : ∀ Q : VK, Q (.int k) H → tk σ H Q)
    (q : Q (.int v) H) : tDGet (tOp (rIxT K) (tFld K ts "sides") ti) tk σ H Q := by
  refine rd_side h hs hself hi (hk _ ⟨A.d s, .int v, rfl, ?_, q⟩)
  rw [← enc_at nd m]
  exact DGet.k (k := Sum.inl k) (h.dict hs)
end
def sp_rests_init (T : Tx K mg) : Sp := fun vs H Q _ => ∃ (r dx la lb : Addr) (A B : List Int), vs = [.ref r, .ref la, .ref lb] ∧ H r = some (.ins T.CR dx []) ∧ SqL K H la (A.map V.int) ∧ SqL K H lb (B.map V.int) ∧ A.length ≤ 1000 ∧ B.length ≤ 1000 ∧
  ∀ H' (ad : RsA), Keep [r] H H' → RsAt T H' r ad (startR A B) → H ad.da = none → H ad.db = none → H ad.l = none → Q .non H'
theorem ok_rests_init (T : Tx K mg) : FnOk P w K mg base CX0 1 T.rests_init.f T.rests_init.fd ["self", "owed", "due"] (sp_rests_init T) := by
  refine T.rests_init.F.ok sc_rests_init (fun vs H Q E h => ?_) (fun cdv A outer s H vs Q E hr h => ?_)
  · obtain ⟨r, dx, la, lb, A, B, rfl, _⟩ := h
    rfl
  · obtain ⟨r, dx, la, lb, A, B, rfl, hr0, hA, hB, zA, zB, k⟩ := h
    refine ⟨_, (pss_cons (ps_fld (pv 0) (pe_tup (pa_cons (pe_callTy (call_dictP rfl) (by rfl) T.z_dict (by decide +kernel) (pa_cons (pe_listEnum rfl (pv 1) (by rfl) T.z_list (by rfl) T.z_enumerate (by decide +kernel) (by decide +kernel)) pa_nil)) (pa_cons (pe_callTy (call_dictP rfl) (by rfl) T.z_dict (by decide +kernel) (pa_cons (pe_listEnum rfl (pv 2) (by rfl) T.z_list (by rfl) T.z_enumerate (by decide +kernel) (by decide +kernel)) pa_nil)) pa_nil))) rfl)
      (pss_cons (ps_fld (pv 0) (pe_callB (cr_sum rfl) (by rfl) T.z_sum (by decide +kernel) (pa_cons (pv 1) pa_nil)) rfl)
      (pss_one (ps_fld (pv 0) (pe_lst pa_nil) rfl)))), ?_⟩
    -- the owers' dict
    refine ⟨_, rfl, la, _, rfl, hA, fun H1 p1 ts1 s1 f1 g1 hp1 pr1 => ?_⟩
    refine ⟨p1, ts1, _, rfl, SqL.of hp1, L2.Paired.mapP pr1 (fun _ _ x => SqT.of x), fun d1 hd1 => ?_⟩
    rw [merge_enum]
    have s1' := s1.trans (same_new (o := .dK (enc (enum A))) hd1)
    -- the takers'
    refine ⟨_, rfl, lb, _, rfl, s1'.seq hB, fun H2 p2 ts2 s2 f2 g2 hp2 pr2 => ?_⟩
    refine ⟨p2, ts2, _, rfl, SqL.of hp2, L2.Paired.mapP pr2 (fun _ _ x => SqT.of x), fun d2 hd2 => ?_⟩
    rw [merge_enum]
    have s2' := s2.trans (same_new (o := .dK (enc (enum B))) hd2)
    refine ⟨Qw.s2, fun t ht => ?_⟩
    have s3 := same_new (o := .tup [.ref d1, .ref d2]) ht
    have s03 := (s1'.trans s2').trans s3
    refine ⟨_, rfl, r, T.CR, dx, _, rfl, s03 _ _ hr0, T.clR, T.n_sides, (by decide), ?_⟩
    have nla : ∀ {H' : Hp}, Same H H' → SqL K H' la (A.map V.int) := fun s => s.seq hA
    -- self.whole = sum(owed); the list is not at r
    have lane : SqL K (upd (upd (upd H2 d2 (.dK (enc (enum B)))) t (.tup [.ref d1, .ref d2])) r (.ins T.CR dx (putF "sides" (.ref t) []))) la (A.map V.int) := by
      rcases hA with (e | ⟨o, e⟩) | e
      · exact .inl (.inl (by rw [upd_ne (ne_of e hr0 (by intro z; cases z))]; exact s03 _ _ e))
      · exact .inl (.inr ⟨o, by rw [upd_ne (ne_of e hr0 (by intro z; cases z))]; exact s03 _ _ e⟩)
      · exact .inr e
    refine ⟨_, rfl, la, A, rfl, lane, _, rfl, r, T.CR, dx, _, rfl, upd_same, T.clR, T.n_whole, put_len1 _ _, ?_⟩
    refine ⟨Nat.zero_le _, fun l hl => ?_⟩
    have nrl : r ≠ l := fun z => by
      rw [z, upd_same] at hl
      cases hl
    refine ⟨_, rfl, r, T.CR, dx, _, rfl, (upd_ne nrl).trans upd_same, T.clR, T.n_row, put_len2 _ _ _ _, ?_⟩
    have hl0 : (upd (upd H2 d2 (.dK (enc (enum B)))) t (.tup [.ref d1, .ref d2])) l = none := by
      rw [upd_ne nrl.symm, upd_ne nrl.symm] at hl
      exact hl
    have r1 : (upd H1 d1 (.dK (enc (enum A)))) r = some (.ins T.CR dx []) := s1' _ _ hr0
    have r2 : (upd H2 d2 (.dK (enc (enum B)))) r = some (.ins T.CR dx []) := s2' _ _ r1
    have e1 : (upd H1 d1 (.dK (enc (enum A)))) d1 = some (.dK (enc (enum A))) := upd_same
    have e1' := s3 _ _ (s2' _ _ e1)
    have e2 : (upd H2 d2 (.dK (enc (enum B)))) d2 = some (.dK (enc (enum B))) := upd_same
    have e2' := s3 _ _ e2
    have e3 : (upd (upd H2 d2 (.dK (enc (enum B)))) t (.tup [.ref d1, .ref d2])) t = some (.tup [.ref d1, .ref d2]) := upd_same
    have h3r := s3 _ _ r2
    have n1 : d1 ≠ r := ne_of e1' h3r (by intro z; cases z)
    have n2 : d2 ≠ r := ne_of e2' h3r (by intro z; cases z)
    have n3 : t ≠ r := ne_of e3 h3r (by intro z; cases z)
    have fin : ∀ b o, (upd (upd H2 d2 (.dK (enc (enum B)))) t (.tup [.ref d1, .ref d2])) b = some o → b ≠ r → (upd (upd (upd (upd (upd (upd H2 d2 (.dK (enc (enum B)))) t (.tup [.ref d1, .ref d2])) r (.ins T.CR dx (putF "sides" (.ref t) []))) r (.ins T.CR dx (putF "whole" (.int A.sum) (putF "sides" (.ref t) [])))) l (.lst [])) r (.ins T.CR dx (putF "row" (.ref l) (putF "whole" (.int A.sum) (putF "sides" (.ref t) []))))) b = some o := by
      intro b o e n
      rw [upd_ne n, upd_ne (ne_of_none e hl0), upd_ne n, upd_ne n]
      exact e
    refine k _ ⟨dx, t, d1, d2, l⟩ (fun b o e n => ?_) ⟨upd_same, fin _ _ e3 n3, fin _ _ e1' n1, fin _ _ e2' n2, ⟨[], by rw [upd_ne nrl.symm, upd_same], .nil⟩, ne_of_none (s2 _ _ e1) hd2⟩ ?_ ?_ ?_
    · have nb : b ≠ r := fun z => n (by rw [z]; exact List.mem_singleton.mpr rfl)
      exact fin b o (s03 _ _ e) nb
    · exact s1.free hd1
    · exact (s1'.trans s2).free hd2
    · exact s03.free hl0
def sp_many (T : Tx K mg) : Sp := fun vs H Q _ => ∃ (r : Addr) (ad : RsA) (R : RS), vs = [.ref r] ∧ RsAt T H r ad R ∧ Q (.int (many R)) H
theorem ok_many (T : Tx K mg) : FnOk P w K mg base CX0 1 T.many.f T.many.fd ["self"] (sp_many T) := by
  refine T.many.F.ok sc_many (fun vs H Q E h => ?_) (fun cdv A outer s H vs Q E hr h => ?_)
  · obtain ⟨r, ad, R, rfl, _⟩ := h
    rfl
  · obtain ⟨r, ad, R, rfl, S, k⟩ := h
    refine ⟨_, (pss_one (ps_ret (pe_op op_add (pe_callB call_lenD (by rfl) T.z_len (by decide +kernel) (pa_cons (pe_ix (r := rIxT K) ix_tup (pe_fld (pv 0) rfl) (pe_glob (v := .int 0) rfl T.mg_OWERS ⟨_, rfl⟩) (fun _ _ => rfl)) pa_nil)) (pe_callB call_lenD (by rfl) T.z_len (by decide +kernel) (pa_cons (pe_ix (r := rIxT K) ix_tup (pe_fld (pv 0) rfl) (pe_glob (v := .int 1) rfl T.mg_TAKERS ⟨_, rfl⟩) (fun _ _ => rfl)) pa_nil))))), ?_⟩
    refine rd_side S (.inl rfl) (gvar rfl) gcon ⟨_, _, rfl, S.ha, ?_⟩
    refine rd_side S (.inr rfl) (gvar rfl) gcon ⟨_, _, rfl, S.hb, _, _, rfl, rfl, ?_⟩
    rw [enc_len, enc_len]
    exact k
def sp_lessen (T : Tx K mg) : Sp := fun vs H Q _ => ∃ (r : Addr) (ad : RsA) (R : RS) (s k v x : Int), vs = [.ref r, .int s, .int k, .int x] ∧ RsAt T H r ad R ∧ Side s ∧ (keys (sd R s)).Nodup ∧ (k, v) ∈ sd R s ∧ (sd R s).length ≤ 1000 ∧
  ∀ H', Keep [ad.d s] H H' → H' (ad.d s) = some (.dK (enc (lessn (sd R s) k x))) → Q .non H'
theorem ok_lessen (T : Tx K mg) : FnOk P w K mg base CX0 1 T.lessen.f T.lessen.fd ["self", "side", "person", "amount"] (sp_lessen T) := by
  refine T.lessen.F.ok sc_lessen (fun vs H Q E h => ?_) (fun cdv A outer s H vs Q E hr h => ?_)
  · obtain ⟨r, ad, R, s, k, v, x, rfl, _⟩ := h
    rfl
  · obtain ⟨r, ad, R, s, kk, v, x, rfl, S, hs, nd, m, hl, k⟩ := h
    have hu := hu_of hr
    have hd := S.dict hs
    refine ⟨_, (pss_cons (ps_daug hu (pe_ix (r := rIxT K) ix_tup (pe_fld (pv 0) rfl) (pv 1) (fun _ _ => rfl)) (pv 2) (pv 3) in_sub (fun _ _ _ => rfl))
      (pss_one (ps_if (pt_cmpR op_eq (pe_dget hu (pe_ix (r := rIxT K) ix_tup (pe_fld (pv 0) rfl) (pv 1) (fun _ _ => rfl)) (pv 2) (fun _ _ => rfl)) pe_int (nomark _)) (pss_one (ps_expr (pe_dpop1 (pe_ix (r := rIxT K) ix_tup (pe_fld (pv 0) rfl) (pv 1) (fun _ _ => rfl)) (pv 2) ⟨rfl, rfl, rfl, rfl⟩))) pss_nil))), ?_⟩
    refine rd_side S hs (gvar rfl) (gvar rfl) ?_
    refine ⟨_, rfl, ad.d s, .int v, rfl, (by rw [← enc_at nd m]; exact DGet.k (k := Sum.inl kk) hd), _, rfl, v, x, rfl, rfl, _, DPut.k (k := Sum.inl kk) hd (by rw [enc_len]; exact sz' (by omega)), ?_⟩
    rw [enc_put nd m]
    -- the state between
    have nr : r ≠ ad.d s := ne_of S.obj hd (by intro z; cases z)
    have nt : ad.t ≠ ad.d s := ne_of S.tup hd (by intro z; cases z)
    have lkv := lkd_nd nd m
    have hd1 : (upd H (ad.d s) (.dK (enc (setk (sd R s) kk (v - x))))) (ad.d s) = some (.dK (enc (setk (sd R s) kk (v - x)))) := upd_same
    have side1 : ∀ {Q : VK}, Q (.ref (ad.d s)) (upd H (ad.d s) (.dK (enc (setk (sd R s) kk (v - x))))) → tOp (rIxT K) (tFld K (tVar 0) "sides") (tVar 1) [some (.ref r), some (.int s), some (.int kk), some (.int x)] (upd H (ad.d s) (.dK (enc (setk (sd R s) kk (v - x))))) Q := fun q =>
      ⟨_, rfl, r, T.CR, ad.dx, _, _, rfl, (upd_ne nr).trans S.obj, T.clR, T.n_sides, rsF_sides _ _ _, _, rfl, ad.t, _, s, _, rfl, rfl, SqT.of ((upd_ne nt).trans S.tup), d_at ad hs, q⟩
    have nd1 : (keys (setk (sd R s) kk (v - x))).Nodup := by rw [keys_setk]; exact nd
    have m1 : (kk, v - x) ∈ setk (sd R s) kk (v - x) := mem_setk m
    refine side1 ⟨_, rfl, ad.d s, .int (v - x), rfl, (by rw [← enc_at nd1 m1]; exact DGet.k (k := Sum.inl kk) hd1), rfl, _, rfl, ?_⟩
    refine ite2 (fun c => ?_) (fun c => ?_)
    · have c0 : v - x = 0 := V.int.inj (of_decide_eq_true c)
      refine side1 ⟨_, rfl, .inl ⟨_, .inl hd1⟩, _, rfl, _, Sum.inl kk, _, hd1, rfl, enc_at nd1 m1, ?_⟩
      rw [enc_drop]
      refine k _ (fun b o e n => ?_) ?_
      · have nb : b ≠ ad.d s := fun z => n (by rw [z]; exact List.mem_singleton.mpr rfl)
        rw [upd_ne nb, upd_ne nb]
        exact e
      · rw [upd_same]
        unfold lessn
        rw [lkv, if_pos c0]
    · have c0 : ¬ v - x = 0 := fun z => c (decide_eq_true (by rw [z]))
      refine k _ (fun b o e n => ?_) ?_
      · rw [upd_ne (fun z => n (by rw [z]; exact List.mem_singleton.mpr rfl))]
        exact e
      · rw [upd_same]
        unfold lessn
        rw [lkv, if_neg c0]
end
end Qw
set_option Elab.async false
set_option maxRecDepth 100000
set_option linter.all false
set_option maxHeartbeats 4000000
/-! QW5: Rests: pay, least, divisor_behind, leaves_enough. -/
namespace Qw
open PySem PySem.Spec PyProof.Rows L2
/-- sizes -/
structure Fit (R : RS) : Prop where
  a : R.a.length ≤ 1000
  b : R.b.length ≤ 1000
  row : R.row.length ≤ 100000
theorem Fit.sd {R : RS} (F : Fit R) {s : Int} (hs : Side s) : (Qw.sd R s).length ≤ 1000 := by
  rcases hs with rfl | rfl
  · rw [sd0]; exact F.a
  · rw [sd1]; exact F.b
def setSd (R : RS) (s : Int) (l : D) : RS := if s = 0 then { R with a := l } else { R with b := l }
theorem setSd_s {R : RS} {s : Int} {l : D} (hs : Side s) : sd (setSd R s l) s = l := by
  rcases hs with rfl | rfl <;> rfl
theorem setSd_o {R : RS} {s : Int} {l : D} (hs : Side s) : sd (setSd R s l) (1 - s) = sd R (1 - s) := by
  rcases hs with rfl | rfl <;> rfl
theorem setSd_whole (R : RS) (s : Int) (l : D) : (setSd R s l).whole = R.whole := by
  unfold setSd
  split <;> rfl
theorem setSd_row (R : RS) (s : Int) (l : D) : (setSd R s l).row = R.row := by
  unfold setSd
  split <;> rfl
theorem flip2 (s : Int) : 1 - (1 - s) = s := by omega
section
variable {P : Program} {w : World} {K : PySem.W.Frag} {mg : Str → Option Value} {base : Heap}
section
variable {T : Tx K mg} {H H' : Hp} {r : Addr} {A : RsA} {R : RS}
theorem RsAt.lrow (h : RsAt T H r A R) {s : Int} (hs : Side s) : A.l ≠ A.d s := by
  obtain ⟨us, h1, _⟩ := h.row
  exact ne_of h1 (h.dict hs) (by intro z; cases z)
theorem RsAt.nr (h : RsAt T H r A R) {s : Int} (hs : Side s) : r ≠ A.d s := ne_of h.obj (h.dict hs) (by intro z; cases z)
theorem RsAt.nt (h : RsAt T H r A R) {s : Int} (hs : Side s) : A.t ≠ A.d s := ne_of h.tup (h.dict hs) (by intro z; cases z)
theorem RsAt.of_dicts {R' : RS} (h : RsAt T H r A R) (obj : H' r = some (.ins T.CR A.dx (rsF A.t R'.whole A.l))) (tup : H' A.t = some (.tup [.ref A.da, .ref A.db])) {s : Int} (hs : Side s) (h1 : H' (A.d s) = some (.dK (enc (sd R' s)))) (h2 : H' (A.d (1 - s)) = some (.dK (enc (sd R' (1 - s)))))
    (row : ∃ us, H' A.l = some (.lst us) ∧ Fvs K H' us R'.row) : RsAt T H' r A R' := by
  rcases hs with rfl | rfl
  · exact ⟨obj, tup, h1, h2, row, h.ne⟩
  · exact ⟨obj, tup, h2, h1, row, h.ne⟩
theorem RsAt.setd (h : RsAt T H r A R) {s : Int} (hs : Side s) {l : D} (kp : Keep [A.d s] H H') (hd : H' (A.d s) = some (.dK (enc l))) : RsAt T H' r A (setSd R s l) := by
  have nin : ∀ {b : Addr}, b ≠ A.d s → b ∉ [A.d s] := fun n z => n (List.mem_singleton.mp z)
  have mu : Mu [A.d s] H := fun b hb => by
    rw [List.mem_singleton.mp hb, h.dict hs]
    trivial
  obtain ⟨us, h1, h2⟩ := h.row
  refine h.of_dicts ?_ (kp _ _ h.tup (nin (h.nt hs))) hs (by rw [setSd_s hs]; exact hd) (by rw [setSd_o hs]; exact kp _ _ (h.dict hs.flip) (nin (h.dne hs).symm)) ⟨us, kp _ _ h1 (nin (h.lrow hs)), by rw [setSd_row]; exact h2.keep kp mu⟩
  rw [setSd_whole]
  exact kp _ _ h.obj (nin (h.nr hs))
end
theorem pay_set {R : RS} (G : Good R) {s p o u v : Int} (Y : Pays R s p o u v) {R' : RS} (e : R' = { R with row := R.row ++ [if s = 0 then (p, o) else (o, p)] }) :
    ({ setSd (setSd R' s (lessn (sd R s) p (mn u v))) (1 - s) (lessn (sd R (1 - s)) o (mn u v)) with whole := R.whole - mn u v } : RS) = payR R s p o := by
  rw [pay_eq G Y, e]
  rcases Y.hs with rfl | rfl
  · rfl
  · rfl
theorem ite_tup {c : Prop} [Decidable c] {i j : Nat} {σ : L2.St} {H : Hp} {Q : VK} (h : ∀ k l : Nat, (c ∧ k = i ∧ l = j) ∨ (¬ c ∧ k = j ∧ l = i) → tTup (tCons (tVar k) (tCons (tVar l) tNil)) σ H Q) :
    if decide c = true then tTup (tCons (tVar i) (tCons (tVar j) tNil)) σ H Q else tTup (tCons (tVar j) (tCons (tVar i) tNil)) σ H Q :=
  ite2 (fun d => h i j (.inl ⟨of_decide_eq_true d, rfl, rfl⟩)) fun d => h j i (.inr ⟨fun z => d (decide_eq_true z), rfl, rfl⟩)
def sp_pay (T : Tx K mg) : Sp := fun vs H Q _ => ∃ (r : Addr) (ad : RsA) (R : RS) (s p o u v : Int), vs = [.ref r, .int s, .int p, .int o] ∧ RsAt T H r ad R ∧ Good R ∧ Pays R s p o u v ∧ Fit R ∧
  ∀ H', Keep (ad.mu r) H H' → RsAt T H' r ad (payR R s p o) → Q .non H'
theorem fn1 : ¬ (("lessen" : Str) = "row") := by decide +kernel
theorem fn2 : ¬ (("lessen" : Str) = "whole") := by decide +kernel
theorem fn3 : ¬ (("lessen" : Str) = "sides") := by decide +kernel
theorem ok_pay (T : Tx K mg) : FnOk P w K mg base CX0 2 T.pay.f T.pay.fd ["self", "side", "person", "other"] (sp_pay T) := by
  have G_lessen := ok_lessen (P := P) (w := w) (base := base) T
  refine T.pay.F.ok sc_pay (fun vs H Q E h => ?_) (fun cdv A outer s H vs Q E hr h => ?_)
  · obtain ⟨r, ad, R, s, p, o, u, v, rfl, _⟩ := h
    rfl
  · obtain ⟨r, ad, R, s, p, o, u, v, rfl, S, G, Y, F, k⟩ := h
    have hu := hu_of hr
    have hs := Y.hs
    have nS := (G.sd hs).nd
    have nO := (G.sd hs.flip).nd
    refine ⟨_, (pss_cons (ps_set (i := 4) sc_pay.nd rfl (Or.inl rfl) (pe_callB (call_min2 rfl) (by rfl) T.z_min (by decide +kernel) (pa_cons (pe_dget hu (pe_ix (r := rIxT K) ix_tup (pe_fld (pv 0) rfl) (pv 1) (fun _ _ => rfl)) (pv 2) (fun _ _ => rfl)) (pa_cons (pe_dget hu (pe_ix (r := rIxT K) ix_tup (pe_fld (pv 0) rfl) (pe_op op_sub pe_int (pv 1)) (fun _ _ => rfl)) (pv 3) (fun _ _ => rfl)) pa_nil))))
      (pss_cons (ps_expr (pe_bm PySem.F.plainAttrs_list PySem.F.slot_list_append PySem.F.type_list_append mt_append (pe_fld (pv 0) rfl) (pa_cons (pe_ifExp (pt_cmpR op_eq (pv 1) (pe_glob (v := .int 0) rfl T.mg_OWERS ⟨_, rfl⟩) (nomark _)) (pe_tup (pa_cons (pv 2) (pa_cons (pv 3) pa_nil))) (pe_tup (pa_cons (pv 3) (pa_cons (pv 2) pa_nil)))) pa_nil)))
      (pss_cons (ps_expr (pe_meth (pv 0) T.clR T.lessen.m G_lessen (hr.mono (by decide)) T.lessen.b .nil pass0 (pa_cons (pv 1) (pa_cons (pv 2) (pa_cons (pv 4) pa_nil)))))
      (pss_cons (ps_expr (pe_meth (pv 0) T.clR T.lessen.m G_lessen (hr.mono (by decide)) T.lessen.b .nil pass0 (pa_cons (pe_op op_sub pe_int (pv 1)) (pa_cons (pv 3) (pa_cons (pv 4) pa_nil)))))
      (pss_one (ps_fldaug (pv 0) (pv 4) in_sub)))))), ?_⟩
    refine rd_rest S hs nS Y.hp (gvar rfl) (gvar rfl) (gvar rfl) ?_
    refine rd_rest S hs.flip nO Y.ho (gvar rfl) (gflip rfl) (gvar rfl) ⟨_, _, rfl, ?_⟩
    show tSeq _ _ _ [some (.ref r), some (.int s), some (.int p), some (.int o), some (.int (mn u v))] H
    obtain ⟨us, hl, hrow⟩ := id S.row
    have lus : us.length ≤ 100000 := by rw [hrow.length]; exact F.row
    refine ⟨_, rfl, r, T.CR, ad.dx, _, _, rfl, S.obj, T.clR, T.n_row, rsF_row _ _ _, .inl ⟨rfl, _, SqL.of hl⟩, ?_⟩
    -- the pair
    have main : ∀ (a b : Int), (a, b) = (if s = 0 then (p, o) else (o, p)) → ∀ q, H q = none → (upd H q (.tup [.int a, .int b])) ad.l = some (.lst us) ∧
        RsAt T (upd (upd H q (.tup [.int a, .int b])) ad.l (.lst (us ++ [.ref q]))) r ad { R with row := R.row ++ [if s = 0 then (p, o) else (o, p)] } ∧ Keep (ad.mu r) H (upd (upd H q (.tup [.int a, .int b])) ad.l (.lst (us ++ [.ref q]))) := by
      intro a b e q hq
      have sn := same_new (o := .tup [.int a, .int b]) hq
      have S1 := S.same sn
      have lm : ad.l ∈ ad.mu r := by
        unfold RsA.mu
        simp
      have S1l := S1.row
      have hl1 : (upd H q (.tup [.int a, .int b])) ad.l = some (.lst us) := sn _ _ hl
      have nql : q ≠ ad.l := fun z => by rw [z, hl] at hq; cases hq
      have nel : ∀ {b' : Addr} {ob : HO}, (upd H q (.tup [.int a, .int b])) b' = some ob → (∀ xs, ob ≠ .lst xs) → b' ≠ ad.l := fun h1 h2 => ne_of h1 hl1 (h2 _)
      refine ⟨hl1, ⟨?_, ?_, ?_, ?_, ⟨us ++ [.ref q], upd_same, ?_⟩, S.ne⟩, (Keep.of_same sn).upd lm⟩
      · rw [upd_ne (nel S1.obj (fun _ z => by cases z))]
        exact S1.obj
      · rw [upd_ne (nel S1.tup (fun _ z => by cases z))]
        exact S1.tup
      · rw [upd_ne (nel S1.ha (fun _ z => by cases z))]
        exact S1.ha
      · rw [upd_ne (nel S1.hb (fun _ z => by cases z))]
        exact S1.hb
      · have mu : Mu [ad.l] (upd H q (.tup [.int a, .int b])) := fun b' hb => by
          rw [List.mem_singleton.mp hb, hl1]
          trivial
        have kp : Keep [ad.l] (upd H q (.tup [.int a, .int b])) (upd (upd H q (.tup [.int a, .int b])) ad.l (.lst (us ++ [.ref q]))) := (Keep.refl _ _).upd (List.mem_singleton.mpr rfl)
        refine paired_snoc ((hrow.same sn).keep kp mu) ⟨q, rfl, ?_⟩
        rw [← e]
        exact SqT.of ((upd_ne nql).trans upd_same)
    refine ⟨_, rfl, rfl, _, rfl, ite_tup fun kx lx hkl => ?_⟩
    obtain ⟨a, b, ka, kb, e⟩ : ∃ a b : Int, ([some (.ref r), some (.int s), some (.int p), some (.int o), some (.int (mn u v))] : L2.St)[kx]? = some (some (.int a)) ∧ ([some (.ref r), some (.int s), some (.int p), some (.int o), some (.int (mn u v))] : L2.St)[lx]? = some (some (.int b)) ∧ (a, b) = (if s = 0 then (p, o) else (o, p)) := by
      rcases hkl with ⟨c, rfl, rfl⟩ | ⟨c, rfl, rfl⟩
      · exact ⟨p, o, rfl, rfl, by rw [if_pos (V.int.inj c)]⟩
      · exact ⟨o, p, rfl, rfl, by rw [if_neg (fun z => c (by rw [z]))]⟩
    refine ⟨_, ka, _, kb, Qw.s2, fun q hq => ?_⟩
    obtain ⟨hl1, S2, k2⟩ := main a b e q hq
    refine ⟨ad.l, us, _, rfl, rfl, hl1, sz' (by omega), ?_⟩
    -- self.lessen(side, person, amount)
    have m2 : (p, u) ∈ sd { R with row := R.row ++ [if s = 0 then (p, o) else (o, p)] } s := Y.hp
    refine ⟨_, rfl, r, ad.dx, _, rfl, S2.obj, rsF_no _ _ _ fn1 fn2 fn3, _, rfl, _, rfl, _, rfl, r, ad, _, s, p, u, mn u v, rfl, S2, hs, nS, m2, F.sd hs, fun H3 k3 d3 => ?_⟩
    have S3 := S2.setd hs k3 d3
    have e3 : sd (setSd { R with row := R.row ++ [if s = 0 then (p, o) else (o, p)] } s (lessn (sd { R with row := R.row ++ [if s = 0 then (p, o) else (o, p)] } s) p (mn u v))) (1 - s) = sd R (1 - s) := setSd_o hs
    -- self.lessen(1 - side, other, amount)
    refine ⟨_, rfl, r, ad.dx, _, rfl, S3.obj, rsF_no _ _ _ fn1 fn2 fn3, _, rfl, _, _, rfl, rfl, _, rfl, _, rfl, r, ad, _, 1 - s, o, v, mn u v, rfl, S3, hs.flip, (by rw [e3]; exact nO), (by rw [e3]; exact Y.ho), (by rw [e3]; exact F.sd hs.flip), fun H4 k4 d4 => ?_⟩
    rw [e3] at d4
    have S4 := S3.setd hs.flip k4 d4
    -- self.whole -= amount
    refine ⟨_, rfl, r, T.CR, ad.dx, _, _, rfl, S4.obj, T.clR, T.n_whole, rsF_whole _ _ _, _, rfl, _, _, rfl, rfl, ad.dx, _, S4.obj, rsF_len _ _ _, ?_⟩
    rw [rsF_put, setSd_whole, setSd_whole]
    have rm : r ∈ ad.mu r := by
      unfold RsA.mu
      simp
    have kk : Keep (ad.mu r) H H4 := (k2.trans (k3.mono fun b hb => by rw [List.mem_singleton.mp hb]; exact ad.d_mem r hs)).trans (k4.mono fun b hb => by rw [List.mem_singleton.mp hb]; exact ad.d_mem r hs.flip)
    refine k _ (kk.upd rm) ?_
    rw [← pay_set G Y rfl]
    have S4' := S4.row
    obtain ⟨us', r1, r2⟩ := S4'
    have nel : ∀ {b' : Addr} {ob : HO}, H4 b' = some ob → (∀ C dx fs, ob ≠ .ins C dx fs) → b' ≠ r := fun h1 h2 => ne_of h1 S4.obj (h2 _ _ _)
    have mu : Mu [r] H4 := fun b' hb => by
      rw [List.mem_singleton.mp hb, S4.obj]
      trivial
    have kp : Keep [r] H4 (upd H4 r (.ins T.CR ad.dx (rsF ad.t (R.whole - mn u v) ad.l))) := (Keep.refl _ _).upd (List.mem_singleton.mpr rfl)
    refine ⟨upd_same, (upd_ne (nel S4.tup (fun _ _ _ z => by cases z))).trans S4.tup, (upd_ne (nel S4.ha (fun _ _ _ z => by cases z))).trans S4.ha, (upd_ne (nel S4.hb (fun _ _ _ z => by cases z))).trans S4.hb, ⟨us', (upd_ne (nel r1 (fun _ _ _ z => by cases z))).trans r1, r2.keep kp mu⟩, S.ne⟩
end
end Qw
set_option Elab.async false
set_option maxRecDepth 100000
set_option linter.all false
set_option maxHeartbeats 4000000
/-! QW6: Rests: least, divisor_behind, leaves_enough. -/
namespace Qw
open PySem PySem.Spec PyProof.Rows L2
theorem unlock_same {H H' : Hp} {d : Addr} {od : Obj} {u : HO} (hd : H d = some u) (s : Same (upd H d (.frz od u)) H') : Same H (upd H' d u) := fun b o e => by
  by_cases c : b = d
  · subst c
    rw [hd] at e
    cases e
    exact upd_same
  · rw [upd_ne c]
    exact s b o (by rw [upd_ne c]; exact e)
theorem unlock_tup {K : PySem.W.Frag} {H' : Hp} {d q : Addr} {od : Obj} {kvs : List (Key × V)} {u : HO} {xs : List V} (e : H' d = some (.frz od (.dK kvs))) (h : SqT K H' q xs) : SqT K (upd H' d u) q xs := by
  rcases h with (h | ⟨o, h⟩) | h
  · exact .inl (.inl (by rw [upd_ne (ne_of h e (by intro z; cases z))]; exact h))
  · exact .inl (.inr ⟨o, by rw [upd_ne (ne_of h e (by intro z; cases z))]; exact h⟩)
  · exact .inr h
theorem lock_tup {K : PySem.W.Frag} {H : Hp} {d q : Addr} {od : Obj} {kvs : List (Key × V)} {xs : List V} (e : H d = some (.dK kvs)) (h : SqT K H q xs) : SqT K (upd H d (.frz od (.dK kvs))) q xs := by
  rcases h with (h | ⟨o, h⟩) | h
  · exact .inl (.inl (by rw [upd_ne (ne_of h e (by intro z; cases z))]; exact h))
  · exact .inl (.inr ⟨o, by rw [upd_ne (ne_of h e (by intro z; cases z))]; exact h⟩)
  · exact .inr h
theorem enc_get {l : D} {i : Nat} {x y : V} (h1 : ((enc l)[i]?.map fun kv => kV kv.1) = some x) (h2 : (enc l)[i]?.map Prod.snd = some y) : ∃ q : Int × Int, l[i]? = some q ∧ x = .int q.1 ∧ y = .int q.2 := by
  unfold enc at h1 h2
  rw [List.getElem?_map] at h1 h2
  cases e : l[i]? with
  | none => rw [e] at h1; cases h1
  | some q =>
    rw [e] at h1 h2
    exact ⟨q, rfl, (Option.some.inj h1).symm, (Option.some.inj h2).symm⟩
theorem two_sides {i : Nat} {y : V} (h : ([V.int 0, V.int 1] : List V)[i]? = some y) : ∃ s : Int, Side s ∧ y = .int s ∧ i = s.toNat := by
  match i, h with
  | 0, h => exact ⟨0, .inl rfl, (Option.some.inj h).symm, rfl⟩
  | 1, h => exact ⟨1, .inr rfl, (Option.some.inj h).symm, rfl⟩
def trips (R : RS) : Nat → List (Int × Int × Int)
  | 0 => []
  | 1 => trip 0 R.a
  | _ => trip 0 R.a ++ trip 1 R.b
theorem trips_next (R : RS) {s : Int} (hs : Side s) : trips R (s.toNat + 1) = trips R s.toNat ++ trip s (sd R s) := by
  rcases hs with rfl | rfl <;> rfl
section
variable {P : Program} {w : World} {K : PySem.W.Frag} {mg : Str → Option Value} {base : Heap}
theorem rd_side0 {T : Tx K mg} {H : Hp} {r : Addr} {A : RsA} {W : Int} {ti ts : TE} {σ : L2.St} {Q : VK} {s : Int} (obj : H r = some (.ins T.CR A.dx (rsF A.t W A.l))) (tup : H A.t = some (.tup [.ref A.da, .ref A.db])) (hs : Side s) (hself : ∀ Q : VK, Q (.ref r) H → ts σ H Q) (hi : ∀ Q : VK, Q (.int s) H → ti σ H Q)
    (q : Q (.ref (A.d s)) H) : tOp (rIxT K) (tFld K ts "sides") ti σ H Q := by
  refine hself _ ⟨r, T.CR, A.dx, _, _, rfl, obj, T.clR, T.n_sides, rsF_sides _ _ _, hi _ ?_⟩
  exact ⟨A.t, _, s, _, rfl, rfl, SqT.of tup, d_at A hs, q⟩
def sp_least (T : Tx K mg) : Sp := fun vs H Q _ => ∃ (r : Addr) (ad : RsA) (R : RS), vs = [.ref r] ∧ RsAt T H r ad R ∧ Fit R ∧ R.a ≠ [] ∧ ∀ H' q, Same H H' → At3 K H' q (leastR R) → Q (.ref q) H'
theorem ok_least (T : Tx K mg) : FnOk P w K mg base CX0 1 T.least.f T.least.fd ["self"] (sp_least T) := by
  refine T.least.F.ok sc_least (fun vs H Q E h => ?_) (fun cdv A outer s H vs Q E hr h => ?_)
  · obtain ⟨r, ad, R, rfl, _⟩ := h
    rfl
  · obtain ⟨r, ad, R, rfl, S, F, hne, k⟩ := h
    refine ⟨_, (pss_cons (ps_set (i := 1) sc_least.nd rfl (Or.inl rfl) (pe_lst pa_nil))
      (pss_cons (ps_for PassesOwn.never rfl (pi_tup (pe_tup (pa_cons (pe_glob (v := .int 0) rfl T.mg_OWERS ⟨_, rfl⟩) (pa_cons (pe_glob (v := .int 1) rfl T.mg_TAKERS ⟨_, rfl⟩) pa_nil)))) (pg_name (i := 2) sc_least.nd rfl (Or.inr rfl)) (pss_one (ps_expr (pe_bm PySem.F.plainAttrs_list PySem.F.slot_list_extend PySem.F.type_list_extend mt_extend (pv 1) (pa_cons (pe_lock (pe_lc (own := [("person", 3), ("rest", 4)]) (g := gTup K 2 (gCons (gName 3) (gCons (gName 4) gNil))) (tt := tYes) (by rfl) sc_least.nd (pi_items (pe_ix (r := rIxT K) ix_tup (pe_fld (pv 0) rfl) (pv 2) (fun _ _ => rfl))) (blkOk_by (own := [("person", 3), ("rest", 4)]) (N := ["self", "found", "side", "person", "rest"]) (sc := defScope s_least) (by decide +kernel)) (fun _ _ _ _ _ => pg_tup rfl (pgs_cons (pg_name (i := 3) sc_least.nd rfl (Or.inl rfl)) (pgs_cons (pg_name (i := 4) sc_least.nd rfl (Or.inl rfl)) pgs_nil))) (fun _ _ _ _ _ => pts_nil) (fun _ _ _ _ _ => (pe_tup (pa_cons (pv 4) (pa_cons (pv 2) (pa_cons (pv 3) pa_nil))))))) pa_nil)))))
      (pss_one (ps_ret (pe_callB (cr_minT rfl hr.units) (by rfl) T.z_min (by decide +kernel) (pa_cons (pv 1) pa_nil)))))), ?_⟩
    refine ⟨Nat.zero_le _, fun l hl => ?_⟩
    have s1 := same_new (o := .lst []) hl
    refine ⟨Qw.s2, fun t ht => ⟨t, rfl, ⟨_, SqT.of upd_same⟩, for_tup (K := K) (a := t) (xs := [.int 0, .int 1]) (fun i σ H' => ∃ (x : Option V) (qs : List Addr), σ = [some (.ref r), some (.ref l), x, none, none] ∧ Same H H' ∧ H' t = some (.tup [.int 0, .int 1]) ∧ H' l = some (.lst (qs.map V.ref)) ∧ Paired (At3 K H') qs (trips R i))
      ⟨none, [], rfl, s1.trans (same_new ht), upd_same, (upd_ne (fun z => by rw [← z, upd_same] at ht; cases ht)).trans upd_same, .nil⟩ (fun i σ H' _ ⟨_, _, _, _, e, _⟩ => SqT.of e) ?_ ?_⟩⟩
    · rintro i y σ H1 hi ⟨x, qs, rfl, sm, htt, hll, hp⟩
      obtain ⟨sd', hs, rfl, ei⟩ := two_sides hi
      subst ei
      have S1 := S.same sm
      have hd := S1.dict hs
      have nl : l ≠ ad.d sd' := ne_of hll hd (by intro z; cases z)
      refine ⟨_, rfl, .inl ⟨rfl, _, SqL.of hll⟩, ad.d sd', _, hd, trivial, fun od => ?_⟩
      have nr := S1.nr hs
      have nt := S1.nt hs
      refine rd_side0 (A := ad) ((upd_ne nr).trans S1.obj) ((upd_ne nt).trans S1.tup) hs (gvar rfl) (gvar rfl) ⟨ad.d sd', od, _, rfl, upd_same, fun D hD => ?_⟩
      refine lc_it walk_items (fun j H' => ∃ qs' : List Addr, Same (upd H1 (ad.d sd') (.frz od (.dK (enc (sd R sd'))))) H' ∧ H' D = some (.lst (qs'.map V.ref)) ∧ Paired (At3 K H') qs' ((trip sd' (sd R sd')).take j)) ⟨[], same_new hD, upd_same, by rw [List.take_zero]; exact .nil⟩
        (fun j H' _ ⟨_, s2, _⟩ => s2 _ _ upd_same) ?_ ?_
      · rintro j v H2 H3 hj ⟨qs', s2, hD2, hp2⟩ ⟨Tq, vx, vy, rfl, hT, rfl, e1, e2⟩
        obtain ⟨q, hq, rfl, rfl⟩ := enc_get e1 e2
        have hjl := lt_of_at hq
        have fl := F.sd hs
        refine ⟨Tq, _, rfl, SqT.of upd_same, rfl, _, _, rfl, _, _, rfl, rfl, rfl, _, rfl, _, rfl, _, rfl, Qw.s3, fun z hz => ?_⟩
        have nDT : D ≠ Tq := fun z => by rw [← z, hD2] at hT; cases hT
        have nDz : D ≠ z := fun e => by rw [← e, upd_ne nDT, hD2] at hz; cases hz
        have sT : Same H2 (upd H2 Tq (.tup [.int q.1, .int q.2])) := same_new hT
        have sz' := sT.trans (same_new (o := .tup [.int q.2, .int sd', .int q.1]) hz)
        have lqs : qs'.length = ((trip sd' (sd R sd')).take j).length := hp2.length
        refine ⟨_, (upd_ne nDz).trans ((upd_ne nDT).trans hD2), ?_, qs' ++ [z], ?_, ?_, ?_⟩
        · rw [List.length_map, lqs]
          refine Qw.sz' (Nat.le_trans (List.length_take_le _ _) ?_)
          rw [enc_len] at hj
          omega
        · intro b o e
          have nb : b ≠ D := ne_of_none e hD
          rw [upd_ne nb]
          exact sz' _ _ (s2 _ _ e)
        · rw [upd_same, List.map_append]
          rfl
        · rw [take_snoc (x := (q.2, sd', q.1)) (by unfold trip; rw [List.getElem?_map, hq]; rfl)]
          have kp : Keep [D] (upd (upd H2 Tq (.tup [.int q.1, .int q.2])) z (.tup [.int q.2, .int sd', .int q.1])) (upd (upd (upd H2 Tq (.tup [.int q.1, .int q.2])) z (.tup [.int q.2, .int sd', .int q.1])) D (.lst (qs'.map V.ref ++ [.ref z]))) := (Keep.refl _ _).upd (List.mem_singleton.mpr rfl)
          have mu : Mu [D] (upd (upd H2 Tq (.tup [.int q.1, .int q.2])) z (.tup [.int q.2, .int sd', .int q.1])) := fun b hb => by
            rw [List.mem_singleton.mp hb, upd_ne nDz, upd_ne nDT, hD2]
            trivial
          refine paired_snoc (L2.Paired.mapP hp2 fun a b h => keep_tup kp mu (same_tup sz' h)) ?_
          exact SqT.of ((upd_ne nDz.symm).trans upd_same)
      · rintro H2 ⟨qs', s2, hD2, hp2⟩
        rw [enc_len, show (sd R sd').length = (trip sd' (sd R sd')).length by unfold trip; rw [List.length_map], List.take_length] at hp2
        have hfz : H2 (ad.d sd') = some (.frz od (.dK (enc (sd R sd')))) := s2 _ _ upd_same
        have su := unlock_same hd s2
        have nDd : D ≠ ad.d sd' := ne_of hD2 hfz (by intro z; cases z)
        refine ⟨hfz, l, D, _, _, rfl, rfl, su _ _ hll, (upd_ne nDd).trans hD2, ?_, ?_⟩
        · have l1 : qs.length = (trips R sd'.toNat).length := hp.length
          have l2 : qs'.length = (trip sd' (sd R sd')).length := hp2.length
          have fl := F.sd hs
          have fa := F.a
          rw [List.length_map, List.length_map, l1, l2]
          have t1 : (trip sd' (sd R sd')).length ≤ 1000 := by unfold trip; rw [List.length_map]; exact fl
          have t2 : (trips R sd'.toNat).length ≤ 1000 := by
            rcases hs with rfl | rfl
            · exact Nat.zero_le _
            · show (trip 0 R.a).length ≤ 1000
              unfold trip
              rw [List.length_map]
              exact fa
          exact Qw.sz (by omega)
        · have mu : Mu [l] (upd H2 (ad.d sd') (.dK (enc (sd R sd')))) := fun b hb => by
            rw [List.mem_singleton.mp hb, su _ _ hll]
            trivial
          have kp : Keep [l] (upd H2 (ad.d sd') (.dK (enc (sd R sd')))) (upd (upd H2 (ad.d sd') (.dK (enc (sd R sd')))) l (.lst (qs.map V.ref ++ qs'.map V.ref))) := (Keep.refl _ _).upd (List.mem_singleton.mpr rfl)
          refine ⟨_, qs ++ qs', rfl, fun b o e => ?_, ?_, ?_, ?_⟩
          · have nb : b ≠ l := ne_of_none e hl
            rw [upd_ne nb]
            exact su _ _ (sm _ _ e)
          · exact (upd_ne (ne_of htt hll (by intro z; cases z))).trans (su _ _ htt)
          · rw [upd_same, List.map_append]
          · rw [trips_next R hs]
            exact paired_app (L2.Paired.mapP hp fun a b h => keep_tup kp mu (same_tup su h)) (L2.Paired.mapP hp2 fun a b h => keep_tup kp mu (unlock_tup hfz h))
    · rintro σ H1 ⟨x, qs, rfl, sm, htt, hll, hp⟩
      refine ⟨_, rfl, l, qs, _, rfl, SqL.of hll, hp, ?_, fun q hq => k H1 q sm hq⟩
      show trip 0 R.a ++ trip 1 R.b ≠ []
      intro z
      have := (List.append_eq_nil_iff.mp z).1
      unfold trip at this
      exact hne (List.map_eq_nil_iff.mp this)
def sp_divisor_behind (T : Tx K mg) : Sp := fun vs H Q _ => ∃ (r : Addr) (ad : RsA) (R : RS) (s p o u v : Int), vs = [.ref r, .int s, .int p, .int o] ∧ RsAt T H r ad R ∧ Good R ∧ Pays R s p o u v ∧ Fit R ∧ ∀ H', Same H H' → Q (.int (divBehind R s p o)) H'
def divs2 (R : RS) (s p o : Int) : Nat → Int
  | 0 => lkd (sd R (1 - s)) o - lkd (sd R s) p
  | 1 => R.a.foldl (divStep s p o 0) (lkd (sd R (1 - s)) o - lkd (sd R s) p)
  | _ => divBehind R s p o
theorem divs2_next (R : RS) (s p o : Int) {h : Int} (hs : Side h) : divs2 R s p o (h.toNat + 1) = (sd R h).foldl (divStep s p o h) (divs2 R s p o h.toNat) := by
  rcases hs with rfl | rfl <;> rfl
theorem ok_divisor_behind (T : Tx K mg) : FnOk P w K mg base CX0 2 T.divisor_behind.f T.divisor_behind.fd ["self", "side", "person", "other"] (sp_divisor_behind T) := by
  have G_common_divisor := ok_common_divisor (P := P) (w := w) (base := base) T
  refine T.divisor_behind.F.ok sc_divisor_behind (fun vs H Q E h => ?_) (fun cdv A outer s H vs Q E hr h => ?_)
  · obtain ⟨r, ad, R, s, p, o, u, v, rfl, _⟩ := h
    rfl
  · obtain ⟨r, ad, R, s, p, o, u, v, rfl, S, G, Y, F, k⟩ := h
    have hu := hu_of hr
    have hs := Y.hs
    have nS := (G.sd hs).nd
    have nO := (G.sd hs.flip).nd
    refine ⟨_, (pss_cons (ps_set (i := 4) sc_divisor_behind.nd rfl (Or.inl rfl) (pe_dget hu (pe_ix (r := rIxT K) ix_tup (pe_fld (pv 0) rfl) (pv 1) (fun _ _ => rfl)) (pv 2) (fun _ _ => rfl)))
      (pss_cons (ps_set (i := 5) sc_divisor_behind.nd rfl (Or.inl rfl) (pe_op op_sub (pe_dget hu (pe_ix (r := rIxT K) ix_tup (pe_fld (pv 0) rfl) (pe_op op_sub pe_int (pv 1)) (fun _ _ => rfl)) (pv 3) (fun _ _ => rfl)) (pv 4)))
      (pss_cons (ps_for PassesOwn.never rfl (pi_tup (pe_tup (pa_cons (pe_glob (v := .int 0) rfl T.mg_OWERS ⟨_, rfl⟩) (pa_cons (pe_glob (v := .int 1) rfl T.mg_TAKERS ⟨_, rfl⟩) pa_nil)))) (pg_name (i := 6) sc_divisor_behind.nd rfl (Or.inl rfl)) (pss_one (ps_lock (ps_for PassesOwn.never rfl (pi_items (pe_ix (r := rIxT K) ix_tup (pe_fld (pv 0) rfl) (pv 6) (fun _ _ => rfl))) (pg_tup rfl (pgs_cons (pg_name (i := 7) sc_divisor_behind.nd rfl (Or.inl rfl)) (pgs_cons (pg_name (i := 8) sc_divisor_behind.nd rfl (Or.inl rfl)) pgs_nil))) (pss_one (ps_if ((pw_and (pt_cmpR op_gt (pv 5) pe_int (nomark _)) (pw_and1 (pt_cmpR (op_notInDT hr.units) (pe_tup (pa_cons (pv 6) (pa_cons (pv 7) pa_nil))) (pe_tup (pa_cons (pe_tup (pa_cons (pv 1) (pa_cons (pv 2) pa_nil))) (pa_cons (pe_tup (pa_cons (pe_op op_sub pe_int (pv 1)) (pa_cons (pv 3) pa_nil))) pa_nil))) rfl)))).pt (pss_one (ps_set (i := 5) sc_divisor_behind.nd rfl (Or.inl rfl) (pe_call G_common_divisor (hr.mono (by decide)) (by rfl) T.common_divisor.g T.common_divisor.kp T.common_divisor.b .nil pass0 (pa_cons (pv 5) (pa_cons (pv 8) pa_nil))))) pss_nil))))))
      (pss_one (ps_ret (pv 5)))))), ?_⟩
    refine rd_rest S hs nS Y.hp (gvar rfl) (gvar rfl) (gvar rfl) ?_
    refine rd_rest S hs.flip nO Y.ho (gvar rfl) (gflip rfl) (gvar rfl) ⟨_, rfl, _, _, rfl, rfl, ?_⟩
    have e0 : v - u = divs2 R s p o 0 := by
      show v - u = lkd (sd R (1 - s)) o - lkd (sd R s) p
      rw [lkd_nd nS Y.hp, lkd_nd nO Y.ho]
    refine ⟨Qw.s2, fun t ht => ⟨t, rfl, ⟨_, SqT.of upd_same⟩, for_tup (K := K) (a := t) (xs := [.int 0, .int 1]) (fun i σ H' => ∃ (x6 x7 x8 : Option V), σ = [some (.ref r), some (.int s), some (.int p), some (.int o), some (.int u), some (.int (divs2 R s p o i)), x6, x7, x8] ∧ Same H H' ∧ H' t = some (.tup [.int 0, .int 1]))
      ⟨none, none, none, by show ([some (.ref r), some (.int s), some (.int p), some (.int o), some (.int u), some (.int (v - u)), none, none, none] : L2.St) = _; rw [e0], same_new ht, upd_same⟩ (fun i σ H' _ ⟨_, _, _, _, _, e⟩ => SqT.of e) ?_ ?_⟩⟩
    · rintro i y σ H1 hi ⟨x6, x7, x8, rfl, sm, htt⟩
      obtain ⟨h, hh, rfl, ei⟩ := two_sides hi
      subst ei
      have S1 := S.same sm
      have hd := S1.dict hh
      refine ⟨ad.d h, _, hd, trivial, fun od => ?_⟩
      have nr := S1.nr hh
      have nt := S1.nt hh
      refine rd_side0 (A := ad) ((upd_ne nr).trans S1.obj) ((upd_ne nt).trans S1.tup) hh (gvar rfl) (gvar rfl) ⟨ad.d h, od, _, rfl, upd_same, ?_⟩
      refine for_it walk_items (fun j σ H' => ∃ (x7 x8 : Option V), σ = [some (.ref r), some (.int s), some (.int p), some (.int o), some (.int u), some (.int (((sd R h).take j).foldl (divStep s p o h) (divs2 R s p o h.toNat))), some (.int h), x7, x8] ∧ Same (upd H1 (ad.d h) (.frz od (.dK (enc (sd R h))))) H')
        ⟨x7, x8, rfl, Same.refl _⟩ (fun j σ H' _ ⟨_, _, _, s2⟩ => s2 _ _ upd_same) ?_ ?_
      · rintro j vv σ H2 H3 hj ⟨y7, y8, rfl, s2⟩ ⟨Tq, vx, vy, rfl, hT, rfl, e1, e2⟩
        obtain ⟨q, hq, rfl, rfl⟩ := enc_get e1 e2
        have sT := s2.trans (same_new (o := .tup [.int q.1, .int q.2]) hT)
        have stp : ((sd R h).take (j + 1)).foldl (divStep s p o h) (divs2 R s p o h.toNat) = divStep s p o h (((sd R h).take j).foldl (divStep s p o h) (divs2 R s p o h.toNat)) q := by
          rw [take_snoc hq, List.foldl_append]
          rfl
        refine ⟨Tq, _, rfl, SqT.of upd_same, rfl, _, _, rfl, _, _, rfl, rfl, ?_⟩
        generalize hf : ((sd R h).take j).foldl (divStep s p o h) (divs2 R s p o h.toNat) = f at stp
        refine ⟨_, rfl, _, _, rfl, rfl, _, rfl, ?_⟩
        refine ite2 (fun c => ?_) (fun c => ?_)
        · have c1 : 1 < f := of_decide_eq_true c
          refine ⟨_, rfl, _, rfl, Qw.s2, fun z1 hz1 => ⟨_, rfl, _, rfl, Qw.s2, fun z2 hz2 => ⟨_, rfl, _, _, rfl, rfl, _, rfl, Qw.s2, fun z3 hz3 => ⟨Qw.s2, fun z4 hz4 => ?_⟩⟩⟩⟩
          have m1 := same_new (o := .tup [.int h, .int q.1]) hz1
          have m2 := same_new (o := .tup [.int s, .int p]) hz2
          have m3 := same_new (o := .tup [.int (1 - s), .int o]) hz3
          have m4 := same_new (o := .tup [.ref z2, .ref z3]) hz4
          have a1 : At2 K _ z1 (h, q.1) := SqT.of (m4 _ _ (m3 _ _ (m2 _ _ upd_same)))
          have a2 : At2 K _ z2 (s, p) := SqT.of (m4 _ _ (m3 _ _ upd_same))
          have a3 : At2 K _ z3 (1 - s, o) := SqT.of (m4 _ _ upd_same)
          refine ⟨z1, z4, (h, q.1), [z2, z3], [(s, p), (1 - s, o)], rfl, rfl, a1, SqT.of upd_same, .cons a2 (.cons a3 .nil), fun b hb => ⟨b, rfl, ?_⟩⟩
          have sAll := (((sT.trans m1).trans m2).trans m3).trans m4
          cases b with
          | true =>
            have hn := hb.mp rfl
            refine iteT ?_
            refine ⟨_, rfl, _, rfl, f, q.2, rfl, some (.int q.1), some (.int q.2), ?_, sAll⟩
            rw [stp]
            unfold divStep
            rw [if_pos ⟨c1, fun z => hn (by rcases z with z | z <;> simp [z])⟩]
            rfl
          | false =>
            refine iteF ⟨some (.int q.1), some (.int q.2), ?_, sAll⟩
            rw [stp]
            unfold divStep
            rw [if_neg (fun z => by
              have := hb.mpr (fun m => z.2 (by simpa using m))
              cases this)]
            rfl
        · have c1 : ¬ 1 < f := fun z => c (decide_eq_true z)
          refine iteF ⟨some (.int q.1), some (.int q.2), ?_, sT⟩
          rw [stp]
          unfold divStep
          rw [if_neg (fun z => c1 z.1)]
          rfl
      · rintro σ H2 ⟨y7, y8, rfl, s2⟩
        have hfz : H2 (ad.d h) = some (.frz od (.dK (enc (sd R h)))) := s2 _ _ upd_same
        have su := unlock_same hd s2
        refine ⟨hfz, some (.int h), y7, y8, ?_, sm.trans su, su _ _ htt⟩
        rw [divs2_next R s p o hh, enc_len, List.take_length]
    · rintro σ H1 ⟨x6, x7, x8, rfl, sm, htt⟩
      exact ⟨_, rfl, k H1 sm⟩
def sp_leaves_enough (T : Tx K mg) : Sp := fun vs H Q _ => ∃ (r : Addr) (ad : RsA) (R : RS) (s p o u v : Int), vs = [.ref r, .int s, .int p, .int o] ∧ RsAt T H r ad R ∧ Good R ∧ Pays R s p o u v ∧ Fit R ∧ ∀ H', Same H H' → Q (.bl (enough R s p o)) H'
theorem gn1 : ¬ (("many" : Str) = "row") := by decide +kernel
theorem gn2 : ¬ (("many" : Str) = "whole") := by decide +kernel
theorem gn3 : ¬ (("many" : Str) = "sides") := by decide +kernel
theorem gm1 : ¬ (("divisor_behind" : Str) = "row") := by decide +kernel
theorem gm2 : ¬ (("divisor_behind" : Str) = "whole") := by decide +kernel
theorem gm3 : ¬ (("divisor_behind" : Str) = "sides") := by decide +kernel
theorem ok_leaves_enough (T : Tx K mg) : FnOk P w K mg base CX0 3 T.leaves_enough.f T.leaves_enough.fd ["self", "side", "person", "other"] (sp_leaves_enough T) := by
  have G_many := ok_many (P := P) (w := w) (base := base) T
  have G_divisor_behind := ok_divisor_behind (P := P) (w := w) (base := base) T
  refine T.leaves_enough.F.ok sc_leaves_enough (fun vs H Q E h => ?_) (fun cdv A outer s H vs Q E hr h => ?_)
  · obtain ⟨r, ad, R, s, p, o, u, v, rfl, _⟩ := h
    rfl
  · obtain ⟨r, ad, R, s, p, o, u, v, rfl, S, G, Y, F, k⟩ := h
    have hu := hu_of hr
    have hs := Y.hs
    have nS := (G.sd hs).nd
    refine ⟨_, (pss_cons (ps_set (i := 4) sc_leaves_enough.nd rfl (Or.inl rfl) (pe_op op_sub (pe_fld (pv 0) rfl) (pe_dget hu (pe_ix (r := rIxT K) ix_tup (pe_fld (pv 0) rfl) (pv 1) (fun _ _ => rfl)) (pv 2) (fun _ _ => rfl))))
      (pss_one (ps_ret (pe_cmpR op_ge (pv 4) (pe_op op_mul (pe_op op_sub (pe_meth0 (pv 0) T.clR T.many.m G_many (hr.mono (by decide)) T.many.b .nil pass0) pe_int) (pe_meth (pv 0) T.clR T.divisor_behind.m G_divisor_behind (hr.mono (by decide)) T.divisor_behind.b .nil pass0 (pa_cons (pv 1) (pa_cons (pv 2) (pa_cons (pv 3) pa_nil))))) (nomark _))))), ?_⟩
    refine ⟨_, rfl, r, T.CR, ad.dx, _, _, rfl, S.obj, T.clR, T.n_whole, rsF_whole _ _ _, ?_⟩
    refine rd_rest S hs nS Y.hp (gvar rfl) (gvar rfl) (gvar rfl) ⟨_, _, rfl, rfl, ?_⟩
    refine ⟨_, rfl, _, rfl, r, ad.dx, _, rfl, S.obj, rsF_no _ _ _ gn1 gn2 gn3, r, ad, R, rfl, S, _, _, rfl, rfl, ?_⟩
    refine ⟨_, rfl, r, ad.dx, _, rfl, S.obj, rsF_no _ _ _ gm1 gm2 gm3, _, rfl, _, rfl, _, rfl, r, ad, R, s, p, o, u, v, rfl, S, G, Y, F, fun H' sm => ?_⟩
    have f1 := F.a
    have f2 := F.b
    have mb : -(2 ^ 64) < many R - 2 ∧ many R - 2 < 2 ^ 64 := by
      unfold many
      omega
    refine ⟨_, _, rfl, rfl, .inl mb, _, _, rfl, rfl, ?_⟩
    have := k H' sm
    unfold enough at this
    rw [lkd_nd nS Y.hp] at this
    exact this
end
end Qw
set_option Elab.async false
set_option maxRecDepth 100000
set_option linter.all false
set_option maxHeartbeats 4000000
/-! QW7: one step of the long way, the long way. -/
namespace Qw
open PySem PySem.Spec PyProof.Rows L2
section
variable {P : Program} {w : World} {K : PySem.W.Frag} {mg : Str → Option Value} {base : Heap}
theorem gl1 : ¬ (("least" : Str) = "row") := by decide +kernel
theorem gl2 : ¬ (("least" : Str) = "whole") := by decide +kernel
theorem gl3 : ¬ (("least" : Str) = "sides") := by decide +kernel
theorem gp1 : ¬ (("pay" : Str) = "row") := by decide +kernel
theorem gp2 : ¬ (("pay" : Str) = "whole") := by decide +kernel
theorem gp3 : ¬ (("pay" : Str) = "sides") := by decide +kernel
theorem ge1 : ¬ (("leaves_enough" : Str) = "row") := by decide +kernel
theorem ge2 : ¬ (("leaves_enough" : Str) = "whole") := by decide +kernel
theorem ge3 : ¬ (("leaves_enough" : Str) = "sides") := by decide +kernel
theorem enc_get2 {l : D} {j : Nat} {k : Key} {v : V} (h : (enc l)[j]? = some (k, v)) : ∃ q : Int × Int, l[j]? = some q ∧ k = Sum.inl q.1 ∧ v = .int q.2 := by
  unfold enc at h
  obtain ⟨q, hq, e⟩ := map_nth h
  cases e
  exact ⟨q, hq, rfl, rfl⟩
theorem frz_get {H : Hp} {a : Addr} {o : Obj} {l : D} {k v : Int} (nd : (keys l).Nodup) (m : (k, v) ∈ l) (e : H a = some (.frz o (.dK (enc l)))) : DGet H a (.int k) (some (.int v)) := by
  rw [← enc_at nd m]
  exact .inl ⟨enc l, Sum.inl k, .inr ⟨o, e⟩, rfl, rfl⟩
theorem greater_snoc {l : D} {j : Nat} {q : Int × Int} (h : l[j]? = some q) (r : Int) : greaterK (l.take (j + 1)) r = greaterK (l.take j) r ++ (if r < q.2 then [q.1] else []) := by
  unfold greaterK
  rw [take_snoc h, List.filter_append, List.map_append]
  congr 1
  by_cases c : r < q.2
  · rw [if_pos c, List.filter_cons_of_pos (by rw [decide_eq_true c])]
    rfl
  · rw [if_neg c, List.filter_cons_of_neg (by rw [decide_eq_false c]; intro z; cases z)]
    rfl
theorem odd_snoc {l : D} {j : Nat} {q : Int × Int} (h : l[j]? = some q) (r : Int) : oddK (l.take (j + 1)) r = oddK (l.take j) r ++ (if q.2 % r ≠ 0 then [q.1] else []) := by
  unfold oddK
  rw [take_snoc h, List.filter_append, List.map_append]
  congr 1
  by_cases c : q.2 % r ≠ 0
  · rw [if_pos c, List.filter_cons_of_pos (by rw [decide_eq_true c])]
    rfl
  · rw [if_neg c, List.filter_cons_of_neg (by rw [decide_eq_false c]; intro z; cases z)]
    rfl
theorem greater_len (l : D) (r : Int) : (greaterK l r).length ≤ l.length := by
  unfold greaterK
  rw [List.length_map]
  exact List.length_filter_le _ _
theorem odd_len (l : D) (r : Int) : (oddK l r).length ≤ l.length := by
  unfold oddK
  rw [List.length_map]
  exact List.length_filter_le _ _
theorem head_int (xs : List Int) (m : Int) : atI (xs.map V.int ++ [V.int m]) 0 = some (.int ((xs ++ [m]).headD 0)) := by
  refine at_nat (by decide) ?_
  cases xs <;> rfl
def sp_step_of_one_unit (T : Tx K mg) : Sp := fun vs H Q _ => ∃ (r : Addr) (ad : RsA) (R : RS), vs = [.ref r] ∧ RsAt T H r ad R ∧ Good R ∧ Fit R ∧ 0 < R.whole ∧ ∀ H', Keep (ad.mu r) H H' → RsAt T H' r ad (stepU R) → Q .non H'
theorem ok_step_of_one_unit (T : Tx K mg) : FnOk P w K mg base CX0 3 T.step_of_one_unit.f T.step_of_one_unit.fd ["rests"] (sp_step_of_one_unit T) := by
  have G_least := ok_least (P := P) (w := w) (base := base) T
  have G_pay := ok_pay (P := P) (w := w) (base := base) T
  refine T.step_of_one_unit.F.ok sc_step_of_one_unit (fun vs H Q E h => ?_) (fun cdv A outer s H vs Q E hr h => ?_)
  · obtain ⟨r, ad, R, rfl, _⟩ := h
    rfl
  · obtain ⟨r, ad, R, rfl, S, G, F, hw, k⟩ := h
    have hu := hu_of hr
    refine ⟨_, (pss_cons (ps_asg (pe_meth0 (pv 0) T.clR T.least.m G_least (hr.mono (by decide)) T.least.b .nil pass0) (pg_tup rfl (pgs_cons (pg_name (i := 1) sc_step_of_one_unit.nd rfl (Or.inr rfl)) (pgs_cons (pg_name (i := 2) sc_step_of_one_unit.nd rfl (Or.inl rfl)) (pgs_cons (pg_name (i := 3) sc_step_of_one_unit.nd rfl (Or.inl rfl)) pgs_nil)))))
      (pss_cons (ps_set (i := 4) sc_step_of_one_unit.nd rfl (Or.inr rfl) (pe_ix (r := rIxT K) ix_tup (pe_fld (pv 0) rfl) (pe_op op_sub pe_int (pv 2)) (fun _ _ => rfl)))
      (pss_cons (ps_lock (ps_setLc (i := 5) (own := [("other", 6)]) (g := gName 6) (tt := _) (by rfl) sc_step_of_one_unit.nd rfl rfl (sw_true rfl rfl rfl (by decide +kernel)) (pi_keys (pv 4)) (blkOk_by (own := [("other", 6)]) (N := ["rests", "rest", "side", "person", "others", "greater", "other"]) (sc := defScope s_step_of_one_unit) (by decide +kernel)) (fun _ _ _ _ _ => pg_name (i := 6) sc_step_of_one_unit.nd rfl (Or.inl rfl)) (fun _ _ _ _ _ => pts_one (pt_cmpR op_gt (pe_dget hu (pv 4) (pv 6) (fun _ _ => rfl)) (pv 1) (nomark _))) (fun _ _ _ _ _ => (pv 6))))
      (pss_one (ps_expr (pe_meth (pv 0) T.clR T.pay.m G_pay (hr.mono (by decide)) T.pay.b .nil pass0 (pa_cons (pv 2) (pa_cons (pv 3) (pa_cons (pe_ix (r := rIxL K) ix_list (pe_op op_cat (pv 5) (pe_lst (pa_cons (pe_callB (cr_minK rfl) (by rfl) T.z_min (by decide +kernel) (pa_cons (pv 4) pa_nil)) pa_nil))) pe_int (fun _ _ => rfl)) pa_nil))))))))), ?_⟩
    obtain ⟨hs, hp, hmin⟩ := least_spec G hw
    have ane : R.a ≠ [] := side_ne G.a hw
    refine ⟨_, rfl, r, ad.dx, _, rfl, S.obj, rsF_no _ _ _ gl1 gl2 gl3, r, ad, R, rfl, S, F, ane, fun H1 q sm hq => ?_⟩
    rcases e : leastR R with ⟨rest, s, p⟩
    rw [e] at hs hp hmin hq
    dsimp only at hs hp hmin hq
    refine ⟨q, _, rfl, hq, rfl, _, _, rfl, _, _, rfl, _, _, rfl, rfl, ?_⟩
    have S1 := S.same sm
    have hd := S1.dict hs.flip
    have nO := (G.sd hs.flip).nd
    have fO := F.sd hs.flip
    show tSeq _ _ _ [some (.ref r), some (.int rest), some (.int s), some (.int p), none, none, none] H1
    refine rd_side S1 hs.flip (gvar rfl) (gflip rfl) ?_
    refine ⟨ad.d (1 - s), _, hd, trivial, fun od => ?_⟩
    refine ⟨_, rfl, ad.d (1 - s), od, rfl, .inl ⟨_, upd_same, fun D hD => ?_⟩⟩
    refine lc_it walk_keys (fun j H' => Same (upd H1 (ad.d (1 - s)) (.frz od (.dK (enc (sd R (1 - s)))))) H' ∧ H' D = some (.lst ((greaterK ((sd R (1 - s)).take j) rest).map V.int))) ⟨same_new hD, upd_same⟩ (fun j H' _ ⟨s2, _⟩ => s2 _ _ upd_same) ?_ ?_
    · rintro j v H2 H3 hj ⟨s2, hD2⟩ ⟨rfl, kk, vv, hk, rfl⟩
      obtain ⟨q, hq, rfl, rfl⟩ := enc_get2 hk
      have mq : (q.1, q.2) ∈ sd R (1 - s) := List.mem_of_getElem? hq
      refine ⟨rfl, _, rfl, _, rfl, _, _, rfl, frz_get nO mq (s2 _ _ upd_same), _, rfl, q.2, rest, rfl, rfl, _, rfl, ?_⟩
      have gs := greater_snoc hq rest
      refine ite2 (fun c => ?_) (fun c => ?_)
      · rw [if_pos (of_decide_eq_true c)] at gs
        refine ⟨_, rfl, _, hD2, ?_, ?_, ?_⟩
        · have := greater_len ((sd R (1 - s)).take j) rest
          have := List.length_take_le j (sd R (1 - s))
          rw [enc_len] at hj
          rw [List.length_map]
          exact Qw.sz' (by omega)
        · exact fun b o e => by
            rw [upd_ne (ne_of_none e hD)]
            exact s2 _ _ e
        · rw [gs, List.map_append]
          exact upd_same
      · rw [if_neg (fun z => c (decide_eq_true z)), List.append_nil] at gs
        exact ⟨s2, by rw [gs]; exact hD2⟩
    · rintro H2 ⟨s2, hD2⟩
      rw [enc_len, List.take_length] at hD2
      have hfz : H2 (ad.d (1 - s)) = some (.frz od (.dK (enc (sd R (1 - s))))) := s2 _ _ upd_same
      have su := unlock_same hd s2
      have nDd : D ≠ ad.d (1 - s) := ne_of hD2 hfz (by intro z; cases z)
      have S2 := S1.same su
      refine ⟨hfz, ?_⟩
      refine ⟨_, rfl, r, ad.dx, _, rfl, S2.obj, rsF_no _ _ _ gp1 gp2 gp3, _, rfl, _, rfl, _, rfl, _, rfl, ad.d (1 - s), enc (sd R (1 - s)), keys (sd R (1 - s)), rfl, upd_same, enc_keys _, ?_, fun m hm hml => ?_⟩
      · exact fun z => side_ne (G.sd hs.flip) hw (List.map_eq_nil_iff.mp z)
      have em : m = minK (sd R (1 - s)) := Int.le_antisymm (hml _ (minK_mem (side_ne (G.sd hs.flip) hw))) (minK_le _ hm)
      subst em
      have lg : ((greaterK (sd R (1 - s)) rest).map V.int).length ≤ 1000 := by
        rw [List.length_map]
        exact Nat.le_trans (greater_len _ _) (F.sd hs.flip)
      refine ⟨Qw.s1, fun p1 hp1 => ⟨D, p1, (greaterK (sd R (1 - s)) rest).map V.int, _, rfl, rfl, ?_, upd_same, Qw.sz (by show _ + 1 ≤ _; omega), fun p2 hp2 => ?_⟩⟩
      · rw [upd_ne (fun z => by rw [← z, upd_ne nDd, hD2] at hp1; cases hp1), upd_ne nDd]
        exact hD2
      have om : (greaterK (sd R (1 - s)) rest ++ [minK (sd R (1 - s))]).headD 0 ∈ greaterK (sd R (1 - s)) rest ++ [minK (sd R (1 - s))] := headD_mem (by simp)
      have ok : ∃ v, ((greaterK (sd R (1 - s)) rest ++ [minK (sd R (1 - s))]).headD 0, v) ∈ sd R (1 - s) := by
        rcases List.mem_append.mp om with z | z
        · obtain ⟨v, hv, _⟩ := mem_greater.mp z
          exact ⟨v, hv⟩
        · rw [List.mem_singleton.mp z]
          exact key_val (minK_mem (side_ne (G.sd hs.flip) hw))
      obtain ⟨v, hv⟩ := ok
      have sm3 := (su.trans (same_new (o := .lst [.int (minK (sd R (1 - s)))]) hp1)).trans (same_new (o := .lst ((greaterK (sd R (1 - s)) rest).map V.int ++ [.int (minK (sd R (1 - s)))])) hp2)
      refine ⟨p2, _, 0, _, rfl, rfl, SqL.of upd_same, head_int (greaterK (sd R (1 - s)) rest) _, r, ad, R, s, p, _, rest, v, rfl, S1.same sm3, G, ⟨hs, hp, hv⟩, F, fun H' kp S' => k H' ((Keep.of_same (sm.trans sm3)).trans kp) ?_⟩
      unfold stepU
      rw [e]
      exact S'
theorem find_at {l : List Int} {f : Int → Bool} {i : Nat} {o : Int} (h : l[i]? = some o) (h1 : (l.take i).find? f = none) (h2 : f o = true) : l.find? f = some o := by
  have hi := lt_of_at h
  have e : l = l.take i ++ o :: l.drop (i + 1) := by
    obtain ⟨h', e'⟩ := List.getElem?_eq_some_iff.mp h
    rw [← e', ← List.drop_eq_getElem_cons h', List.take_append_drop]
  rw [e, List.find?_append, h1, List.find?_cons, h2]
  rfl
theorem find_next {l : List Int} {f : Int → Bool} {i : Nat} {o : Int} (h : l[i]? = some o) (h1 : (l.take i).find? f = none) (h2 : f o = false) : (l.take (i + 1)).find? f = none := by
  rw [take_snoc h, List.find?_append, h1, List.find?_cons, h2]
  rfl
def sp_step_of_one_piece (T : Tx K mg) : Sp := fun vs H Q _ => ∃ (r : Addr) (ad : RsA) (R : RS), vs = [.ref r] ∧ RsAt T H r ad R ∧ Good R ∧ Fit R ∧ 0 < R.whole ∧ ∀ H', Keep (ad.mu r) H H' → RsAt T H' r ad (stepP R) → Q .non H'
theorem ok_step_of_one_piece (T : Tx K mg) : FnOk P w K mg base CX0 4 T.step_of_one_piece.f T.step_of_one_piece.fd ["rests"] (sp_step_of_one_piece T) := by
  have G_least := ok_least (P := P) (w := w) (base := base) T
  have G_pay := ok_pay (P := P) (w := w) (base := base) T
  have G_leaves_enough := ok_leaves_enough (P := P) (w := w) (base := base) T
  refine T.step_of_one_piece.F.ok sc_step_of_one_piece (fun vs H Q E h => ?_) (fun cdv A outer s H vs Q E hr h => ?_)
  · obtain ⟨r, ad, R, rfl, _⟩ := h
    rfl
  · obtain ⟨r, ad, R, rfl, S, G, F, hw, k⟩ := h
    have hu := hu_of hr
    refine ⟨_, (pss_cons (ps_asg (pe_meth0 (pv 0) T.clR T.least.m G_least (hr.mono (by decide)) T.least.b .nil pass0) (pg_tup rfl (pgs_cons (pg_name (i := 1) sc_step_of_one_piece.nd rfl (Or.inr rfl)) (pgs_cons (pg_name (i := 2) sc_step_of_one_piece.nd rfl (Or.inl rfl)) (pgs_cons (pg_name (i := 3) sc_step_of_one_piece.nd rfl (Or.inl rfl)) pgs_nil)))))
      (pss_cons (ps_set (i := 4) sc_step_of_one_piece.nd rfl (Or.inr rfl) (pe_ix (r := rIxT K) ix_tup (pe_fld (pv 0) rfl) (pe_op op_sub pe_int (pv 2)) (fun _ _ => rfl)))
      (pss_cons (ps_lock (ps_setLc (i := 5) (own := [("other", 6)]) (g := gName 6) (tt := _) (by rfl) sc_step_of_one_piece.nd rfl rfl (sw_true rfl rfl rfl (by decide +kernel)) (pi_keys (pv 4)) (blkOk_by (own := [("other", 6)]) (N := ["rests", "rest", "side", "person", "others", "greater", "other", "odd", "one", "more"]) (sc := defScope s_step_of_one_piece) (by decide +kernel)) (fun _ _ _ _ _ => pg_name (i := 6) sc_step_of_one_piece.nd rfl (Or.inl rfl)) (fun _ _ _ _ _ => pts_one (pt_cmpR op_gt (pe_dget hu (pv 4) (pv 6) (fun _ _ => rfl)) (pv 1) (nomark _))) (fun _ _ _ _ _ => (pv 6))))
      (pss_cons (ps_for PassesOwn.never rfl (pi_list (pv 5)) (pg_name (i := 6) sc_step_of_one_piece.nd rfl (Or.inl rfl)) (pss_one (ps_if (pt_val (pe_meth (pv 0) T.clR T.leaves_enough.m G_leaves_enough (hr.mono (by decide)) T.leaves_enough.b .nil pass0 (pa_cons (pv 2) (pa_cons (pv 3) (pa_cons (pv 6) pa_nil))))) (pss_cons (ps_expr (pe_meth (pv 0) T.clR T.pay.m G_pay (hr.mono (by decide)) T.pay.b .nil pass0 (pa_cons (pv 2) (pa_cons (pv 3) (pa_cons (pv 6) pa_nil)))))
      (pss_one ps_retN)) pss_nil)))
      (pss_cons (ps_lock (ps_setLc (i := 7) (own := [("one", 8), ("more", 9)]) (g := gTup K 2 (gCons (gName 8) (gCons (gName 9) gNil))) (tt := _) (by rfl) sc_step_of_one_piece.nd rfl rfl (sw_true rfl rfl rfl (by decide +kernel)) (pi_items (pe_ix (r := rIxT K) ix_tup (pe_fld (pv 0) rfl) (pv 2) (fun _ _ => rfl))) (blkOk_by (own := [("one", 8), ("more", 9)]) (N := ["rests", "rest", "side", "person", "others", "greater", "other", "odd", "one", "more"]) (sc := defScope s_step_of_one_piece) (by decide +kernel)) (fun _ _ _ _ _ => pg_tup rfl (pgs_cons (pg_name (i := 8) sc_step_of_one_piece.nd rfl (Or.inl rfl)) (pgs_cons (pg_name (i := 9) sc_step_of_one_piece.nd rfl (Or.inl rfl)) pgs_nil))) (fun _ _ _ _ _ => pts_one (pt_cmpR op_ne (pe_op op_modN (pv 9) (pv 1)) pe_int (nomark _))) (fun _ _ _ _ _ => (pv 8))))
      (pss_one (ps_expr (pe_meth (pv 0) T.clR T.pay.m G_pay (hr.mono (by decide)) T.pay.b .nil pass0 (pa_cons (pv 2) (pa_cons (pe_ix (r := rIxL K) ix_list (pe_op op_cat (pv 7) (pe_lst (pa_cons (pv 3) pa_nil))) pe_int (fun _ _ => rfl)) (pa_cons (pe_callB (cr_minK rfl) (by rfl) T.z_min (by decide +kernel) (pa_cons (pv 4) pa_nil)) pa_nil))))))))))), ?_⟩
    obtain ⟨hs, hp, hmin⟩ := least_spec G hw
    have ane : R.a ≠ [] := side_ne G.a hw
    refine ⟨_, rfl, r, ad.dx, _, rfl, S.obj, rsF_no _ _ _ gl1 gl2 gl3, r, ad, R, rfl, S, F, ane, fun H1 q sm hq => ?_⟩
    rcases e : leastR R with ⟨rest, s, p⟩
    rw [e] at hs hp hmin hq
    dsimp only at hs hp hmin hq
    refine ⟨q, _, rfl, hq, rfl, _, _, rfl, _, _, rfl, _, _, rfl, rfl, ?_⟩
    have S1 := S.same sm
    have hd := S1.dict hs.flip
    have nO := (G.sd hs.flip).nd
    have fO := F.sd hs.flip
    show tSeq _ _ _ [some (.ref r), some (.int rest), some (.int s), some (.int p), none, none, none, none, none, none] H1
    refine rd_side S1 hs.flip (gvar rfl) (gflip rfl) ?_
    refine ⟨ad.d (1 - s), _, hd, trivial, fun od => ?_⟩
    refine ⟨_, rfl, ad.d (1 - s), od, rfl, .inl ⟨_, upd_same, fun D hD => ?_⟩⟩
    refine lc_it walk_keys (fun j H' => Same (upd H1 (ad.d (1 - s)) (.frz od (.dK (enc (sd R (1 - s)))))) H' ∧ H' D = some (.lst ((greaterK ((sd R (1 - s)).take j) rest).map V.int))) ⟨same_new hD, upd_same⟩ (fun j H' _ ⟨s2, _⟩ => s2 _ _ upd_same) ?_ ?_
    · rintro j v H2 H3 hj ⟨s2, hD2⟩ ⟨rfl, kk, vv, hk, rfl⟩
      obtain ⟨q, hq, rfl, rfl⟩ := enc_get2 hk
      have mq : (q.1, q.2) ∈ sd R (1 - s) := List.mem_of_getElem? hq
      refine ⟨rfl, _, rfl, _, rfl, _, _, rfl, frz_get nO mq (s2 _ _ upd_same), _, rfl, q.2, rest, rfl, rfl, _, rfl, ?_⟩
      have gs := greater_snoc hq rest
      refine ite2 (fun c => ?_) (fun c => ?_)
      · rw [if_pos (of_decide_eq_true c)] at gs
        refine ⟨_, rfl, _, hD2, ?_, ?_, ?_⟩
        · have := greater_len ((sd R (1 - s)).take j) rest
          have := List.length_take_le j (sd R (1 - s))
          rw [enc_len] at hj
          rw [List.length_map]
          exact Qw.sz' (by omega)
        · exact fun b o e => by
            rw [upd_ne (ne_of_none e hD)]
            exact s2 _ _ e
        · rw [gs, List.map_append]
          exact upd_same
      · rw [if_neg (fun z => c (decide_eq_true z)), List.append_nil] at gs
        exact ⟨s2, by rw [gs]; exact hD2⟩
    · rintro H2 ⟨s2, hD2⟩
      rw [enc_len, List.take_length] at hD2
      have hfz : H2 (ad.d (1 - s)) = some (.frz od (.dK (enc (sd R (1 - s))))) := s2 _ _ upd_same
      have su := unlock_same hd s2
      have nDd : D ≠ ad.d (1 - s) := ne_of hD2 hfz (by intro z; cases z)
      have S2 := S1.same su
      refine ⟨hfz, ?_⟩
      have sm2 := sm.trans su
      have hD3 : (upd H2 (ad.d (1 - s)) (.dK (enc (sd R (1 - s))))) D = some (.lst ((greaterK (sd R (1 - s)) rest).map V.int)) := by rw [upd_ne nDd]; exact hD2
      generalize upd H2 (ad.d (1 - s)) (.dK (enc (sd R (1 - s)))) = H4 at S2 sm2 hD3
      refine ⟨_, rfl, D, rfl, ⟨_, SqL.of hD3⟩, ?_⟩
      refine for_list (K := K) (a := D) (xs := (greaterK (sd R (1 - s)) rest).map V.int) (fun i σ H' => ∃ x6 : Option V, σ = [some (.ref r), some (.int rest), some (.int s), some (.int p), some (.ref (ad.d (1 - s))), some (.ref D), x6, none, none, none] ∧ Same H4 H' ∧ ((greaterK (sd R (1 - s)) rest).take i).find? (fun o => enough R s p o) = none)
        ⟨none, rfl, Same.refl _, by rw [List.take_zero]; rfl⟩ (fun i σ H' _ ⟨_, _, s3, _⟩ => SqL.of (s3 _ _ hD3)) ?_ ?_
      · rintro i y σ H5 hi ⟨x6, rfl, s3, hf⟩
        obtain ⟨o, ho, rfl⟩ := map_nth hi
        obtain ⟨v, hv, hlt⟩ := mem_greater.mp (List.mem_of_getElem? ho)
        have S3 := S2.same s3
        have Y : Pays R s p o rest v := ⟨hs, hp, hv⟩
        refine ⟨_, rfl, r, ad.dx, _, rfl, S3.obj, rsF_no _ _ _ ge1 ge2 ge3, _, rfl, _, rfl, _, rfl, r, ad, R, s, p, o, rest, v, rfl, S3, G, Y, F, fun H6 s6 => ?_⟩
        refine ⟨_, rfl, ?_⟩
        cases he : enough R s p o with
        | true =>
          refine iteT ?_
          have S4 := S3.same s6
          refine ⟨_, rfl, r, ad.dx, _, rfl, S4.obj, rsF_no _ _ _ gp1 gp2 gp3, _, rfl, _, rfl, _, rfl, r, ad, R, s, p, o, rest, v, rfl, S4, G, Y, F, fun H7 k7 S7 => ?_⟩
          refine k H7 ((Keep.of_same ((sm2.trans s3).trans s6)).trans k7) ?_
          unfold stepP
          rw [e]
          dsimp only
          rw [find_at ho hf he]
          exact S7
        | false =>
          refine iteF ⟨_, rfl, s3.trans s6, find_next ho hf he⟩
      · rintro σ H5 ⟨x6, rfl, s3, hf⟩
        rw [List.length_map, List.take_length] at hf
        have S3 := S2.same s3
        have nS := (G.sd hs).nd
        have fS := F.sd hs
        have hd3 := S3.dict hs
        have rpos : 0 < rest := (G.sd hs).pos _ hp
        refine ⟨ad.d s, _, hd3, trivial, fun od2 => ?_⟩
        have nr := S3.nr hs
        have nt := S3.nt hs
        refine rd_side0 (A := ad) ((upd_ne nr).trans S3.obj) ((upd_ne nt).trans S3.tup) hs (gvar rfl) (gvar rfl) ⟨ad.d s, od2, _, rfl, upd_same, fun D2 hD2' => ?_⟩
        refine lc_it walk_items (fun j H' => Same (upd H5 (ad.d s) (.frz od2 (.dK (enc (sd R s))))) H' ∧ H' D2 = some (.lst ((oddK ((sd R s).take j) rest).map V.int))) ⟨same_new hD2', upd_same⟩ (fun j H' _ ⟨s4, _⟩ => s4 _ _ upd_same) ?_ ?_
        · rintro j vv H6 H7 hj ⟨s4, hD6⟩ ⟨Tq, vx, vy, rfl, hT, rfl, e1, e2⟩
          obtain ⟨q, hq, rfl, rfl⟩ := enc_get e1 e2
          have sT : Same H6 (upd H6 Tq (.tup [.int q.1, .int q.2])) := same_new hT
          have nDT : D2 ≠ Tq := fun z => by rw [← z, hD6] at hT; cases hT
          refine ⟨Tq, _, rfl, SqT.of upd_same, rfl, _, _, rfl, _, _, rfl, rfl, rfl, _, rfl, _, rfl, _, _, rfl, rfl, Int.ne_of_gt rpos, ?_⟩
          have os := odd_snoc hq rest
          have em : q.2.fmod rest = q.2 % rest := Int.fmod_eq_emod_of_nonneg _ (Int.le_of_lt rpos)
          refine ⟨rfl, _, rfl, ?_⟩
          refine ite2 (fun c => ?_) (fun c => ?_)
          · have c' : q.2 % rest ≠ 0 := fun z => by
              have c2 : (!decide (V.int (q.2.fmod rest) = V.int 0)) = true := c
              rw [em, z] at c2
              cases c2
            rw [if_pos c'] at os
            refine ⟨_, rfl, _, (upd_ne nDT).trans hD6, ?_, ?_, ?_⟩
            · have := odd_len ((sd R s).take j) rest
              have := List.length_take_le j (sd R s)
              rw [enc_len] at hj
              rw [List.length_map]
              exact Qw.sz' (by omega)
            · exact fun b o e => by
                rw [upd_ne (ne_of_none e hD2')]
                exact sT _ _ (s4 _ _ e)
            · rw [os, List.map_append]
              exact upd_same
          · have c' : ¬ q.2 % rest ≠ 0 := fun z => c (by
              show (!decide (V.int (q.2.fmod rest) = V.int 0)) = true
              rw [decide_eq_false (fun y => z (by rw [← em]; exact V.int.inj y))]
              rfl)
            rw [if_neg c', List.append_nil] at os
            exact ⟨s4.trans sT, by rw [os, upd_ne nDT]; exact hD6⟩
        · rintro H6 ⟨s4, hD6⟩
          rw [enc_len, List.take_length] at hD6
          have hfz2 : H6 (ad.d s) = some (.frz od2 (.dK (enc (sd R s)))) := s4 _ _ upd_same
          have su2 := unlock_same hd3 s4
          have nD2 : D2 ≠ ad.d s := ne_of hD6 hfz2 (by intro z; cases z)
          have S5 := S3.same su2
          have hD7 : (upd H6 (ad.d s) (.dK (enc (sd R s)))) D2 = some (.lst ((oddK (sd R s) rest).map V.int)) := by rw [upd_ne nD2]; exact hD6
          refine ⟨hfz2, ?_⟩
          generalize upd H6 (ad.d s) (.dK (enc (sd R s))) = H8 at S5 su2 hD7
          have lg : ((oddK (sd R s) rest).map V.int).length ≤ 1000 := by
            rw [List.length_map]
            exact Nat.le_trans (odd_len _ _) fS
          refine ⟨_, rfl, r, ad.dx, _, rfl, S5.obj, rsF_no _ _ _ gp1 gp2 gp3, _, rfl, _, rfl, _, rfl, Qw.s1, fun p1 hp1 => ⟨D2, p1, (oddK (sd R s) rest).map V.int, _, rfl, rfl, ?_, upd_same, Qw.sz (by show _ + 1 ≤ _; omega), fun p2 hp2 => ?_⟩⟩
          · rw [upd_ne (fun z => by rw [← z, hD7] at hp1; cases hp1)]
            exact hD7
          have s5 := (same_new (o := .lst [.int p]) hp1).trans (same_new (o := .lst ((oddK (sd R s) rest).map V.int ++ [.int p])) hp2)
          have S6 := S5.same s5
          refine ⟨p2, _, 0, _, rfl, rfl, SqL.of upd_same, head_int (oddK (sd R s) rest) _, _, rfl, ad.d (1 - s), enc (sd R (1 - s)), keys (sd R (1 - s)), rfl, S6.dict hs.flip, enc_keys _, ?_, fun m hm hml => ?_⟩
          · exact fun z => side_ne (G.sd hs.flip) hw (List.map_eq_nil_iff.mp z)
          have em : m = minK (sd R (1 - s)) := Int.le_antisymm (hml _ (minK_mem (side_ne (G.sd hs.flip) hw))) (minK_le _ hm)
          subst em
          have om : (oddK (sd R s) rest ++ [p]).headD 0 ∈ oddK (sd R s) rest ++ [p] := headD_mem (by simp)
          have ok1 : ∃ u, ((oddK (sd R s) rest ++ [p]).headD 0, u) ∈ sd R s := by
            rcases List.mem_append.mp om with z | z
            · obtain ⟨v, hv, _⟩ := mem_odd.mp z
              exact ⟨v, hv⟩
            · rw [List.mem_singleton.mp z]
              exact ⟨_, hp⟩
          obtain ⟨u, hu'⟩ := ok1
          obtain ⟨v, hv⟩ := key_val (minK_mem (side_ne (G.sd hs.flip) hw))
          refine ⟨r, ad, R, s, _, _, u, v, rfl, S6, G, ⟨hs, hu', hv⟩, F, fun H' kp S' => k H' ((Keep.of_same ((((sm2.trans s3)).trans su2).trans s5)).trans kp) ?_⟩
          unfold stepP
          rw [e]
          dsimp only
          rw [hf]
          exact S'
def sp_long_of (T : Tx K mg) : Sp := fun vs H Q _ => ∃ (e : Addr) (A B : List Int) (p q : Int), vs = [.ref e] ∧ EvAt T p q H e A B ∧ Unit' p q ∧ Num A B ∧
  ∀ (a : Addr) (us : List V) (H' : Hp), Same H H' → SqT K H' a us → Fvs K H' us (longG (measureL A B) A B) → Q (.ref a) H'
theorem upd_none {H : Hp} {p b : Addr} {o : HO} (h : upd H p o b = none) : H b = none := by
  by_cases e : b = p
  · subst e
    rw [upd_same] at h
    cases h
  · rw [upd_ne e] at h
    exact h
theorem len_le_sum {l : List Int} (h : ∀ x ∈ l, 0 < x) : (l.length : Int) ≤ l.sum := by
  have := sum_ge (c := 1) (l := l) (fun x hx => h x hx)
  omega
theorem side_len {l : D} {W : Int} (S : SideOk l W) : (l.length : Int) ≤ W := by
  have := len_le_sum (l := vals l) (all_vals.mpr S.pos)
  rw [len_vals, S.sum] at this
  exact this
theorem run_done {one : Bool} {R : RS} (h : ¬ 0 < R.whole) : ∀ n, run one n R = R
  | 0 => rfl
  | n + 1 => if_neg h
/-- what the loop keeps -/
structure Goes (one : Bool) (A B : List Int) (n : Nat) (R : RS) : Prop where
  good : Good R
  fuel : R.whole.toNat ≤ n
  row : (run one n R).row = longW A B
  size : (R.row.length : Int) + R.whole ≤ 1000
theorem Goes.fit {one : Bool} {A B : List Int} {n : Nat} {R : RS} (g : Goes one A B n R) : Fit R := by
  have h1 := side_len g.good.a
  have h2 := side_len g.good.b
  have h3 := g.size
  exact ⟨by omega, by omega, by omega⟩
theorem Goes.next {one : Bool} {A B : List Int} {n : Nat} {R : RS} (g : Goes one A B n R) (h : 0 < R.whole) : ∃ n', n' < n ∧ Goes one A B n' (if one = true then stepP R else stepU R) := by
  have hp : ∃ s p o u v, Pays R s p o u v ∧ (if one = true then stepP R else stepU R) = payR R s p o := by
    cases one
    · exact stepU_pays g.good h
    · exact stepP_pays g.good h
  have l := step_less g.good h hp
  obtain ⟨s, p, o, u, v, Y, e⟩ := hp
  have pl := pay_len g.good Y
  have f := g.fuel
  have z := g.size
  match n, g with
  | 0, g => have := g.fuel; omega
  | n' + 1, g =>
    refine ⟨n', Nat.lt_succ_self _, l.2, ?_, ?_, ?_⟩
    · omega
    · have r := g.row
      unfold run at r
      rw [if_pos h] at r
      exact r
    · have l1 := l.1
      rw [e] at l1 ⊢
      omega
theorem gm4 : ¬ (("many" : Str) = "row") := by decide +kernel
theorem ok_long_of (T : Tx K mg) : FnOk P w K mg base CX0 5 T.long_of.f T.long_of.fd ["evening"] (sp_long_of T) := by
  have G_units_of := ok_units_of (P := P) (w := w) (base := base) T
  have G_rests_init := ok_rests_init (P := P) (w := w) (base := base) T
  have G_many := ok_many (P := P) (w := w) (base := base) T
  have G_step_of_one_piece := ok_step_of_one_piece (P := P) (w := w) (base := base) T
  have G_step_of_one_unit := ok_step_of_one_unit (P := P) (w := w) (base := base) T
  refine T.long_of.F.ok sc_long_of (fun vs H Q E h => ?_) (fun cdv A outer s H vs Q E hr h => ?_)
  · obtain ⟨e, A, B, p, q, rfl, _⟩ := h
    rfl
  · obtain ⟨e, a0, b0, p, q, rfl, hE, U, N, k⟩ := h
    have hu := hu_of hr
    refine ⟨_, (pss_cons (ps_asg (pe_call G_units_of (hr.mono (by decide)) (by rfl) T.units_of.g T.units_of.kp T.units_of.b .nil pass0 (pa_cons (pv 0) pa_nil)) (pg_tup rfl (pgs_cons (pg_name (i := 1) sc_long_of.nd rfl (Or.inl rfl)) (pgs_cons (pg_name (i := 2) sc_long_of.nd rfl (Or.inl rfl)) pgs_nil))))
      (pss_cons (ps_set (i := 3) sc_long_of.nd rfl (Or.inl rfl) (pe_make T.rests_init.m G_rests_init (hr.mono (by decide)) (by rfl) T.mg_Rests T.rests_init.b .nil pass0 (pa_cons (pv 1) (pa_cons (pv 2) pa_nil))))
      (pss_cons (ps_set (i := 4) sc_long_of.nd rfl (Or.inl rfl) (pe_cmpR op_ge (pe_fld (pv 3) rfl) (pe_op op_sub (pe_meth0 (pv 3) T.clR T.many.m G_many (hr.mono (by decide)) T.many.b .nil pass0) pe_int) (nomark _)))
      (pss_cons (ps_while PassesOwn.never (pt_cmpR op_gt (pe_fld (pv 3) rfl) pe_int (nomark _)) (pss_one (ps_if (pt_val (pv 4)) (pss_one (ps_expr (pe_call G_step_of_one_piece (hr.mono (by decide)) (by rfl) T.step_of_one_piece.g T.step_of_one_piece.kp T.step_of_one_piece.b .nil pass0 (pa_cons (pv 3) pa_nil)))) (pss_one (ps_expr (pe_call G_step_of_one_unit (hr.mono (by decide)) (by rfl) T.step_of_one_unit.g T.step_of_one_unit.kp T.step_of_one_unit.b .nil pass0 (pa_cons (pv 3) pa_nil)))))))
      (pss_one (ps_ret (pe_callTy call_tuple_of (by rfl) T.z_tuple (by decide +kernel) (pa_cons (pe_fld (pv 3) rfl) pa_nil)))))))), ?_⟩
    have IG := measureL_gcd N.a N.b N.ne
    have pA := divs_pos IG.pos IG.a N.a
    have pB := divs_pos IG.pos IG.b N.b
    have sA := divs_sum IG.pos IG.a
    have sB := divs_sum IG.pos IG.b
    have k' : ∀ (a : Addr) (us : List V) (H' : Hp), Same H H' → SqT K H' a us → Fvs K H' us (longW (divs (measureL a0 b0) a0) (divs (measureL a0 b0) b0)) → Q (.ref a) H' := k
    have le : (divs (measureL a0 b0) a0).sum ≤ 1000 := by
      rw [sA]
      exact Int.le_trans (Int.ediv_le_self _ (sum_nonneg fun x hx => Int.le_of_lt (N.a x hx))) N.le
    rw [N.eq, ← sB] at sA
    refine ⟨_, rfl, e, a0, b0, p, q, rfl, hE, U, N, fun t la lb H1 sm ht hla hlb => ?_⟩
    generalize divs (measureL a0 b0) a0 = A1 at *
    generalize divs (measureL a0 b0) b0 = B1 at *
    have lA := len_le_sum pA
    have lB := len_le_sum pB
    refine ⟨t, _, rfl, SqT.of ht, rfl, _, _, rfl, _, _, rfl, rfl, ?_⟩
    refine ⟨_, rfl, _, rfl, fun r dx hr0 hdx hne => ?_⟩
    have nr1 : r ≠ la := fun z => by rw [z, hla] at hr0; cases hr0
    have nr2 : r ≠ lb := fun z => by rw [z, hlb] at hr0; cases hr0
    have nd1 : dx ≠ la := fun z => by rw [z, hla] at hdx; cases hdx
    have nd2 : dx ≠ lb := fun z => by rw [z, hlb] at hdx; cases hdx
    refine ⟨r, dx, la, lb, A1, B1, rfl, upd_same, SqL.of (by rw [upd_ne nr1.symm, upd_ne nd1.symm]; exact hla), SqL.of (by rw [upd_ne nr2.symm, upd_ne nd2.symm]; exact hlb), by omega, by omega, fun H2 ad kp S fa fb fl => ⟨rfl, ?_⟩⟩
    have gd : Good (startR A1 B1) := ⟨side_enum pA, by show SideOk (enum B1) A1.sum; rw [sA]; exact side_enum pB⟩
    have k2 : ∀ H', Keep (ad.mu r) H2 H' → Same H H' := fun H' kk b o hb => by
      have hb1 := sm _ _ hb
      have n1 : b ≠ r := fun z => by rw [z, hr0] at hb1; cases hb1
      have n2 : b ≠ dx := fun z => by rw [z, hdx] at hb1; cases hb1
      have hb2 : (upd (upd H1 dx (.own r)) r (.ins T.CR dx [])) b = some o := by rw [upd_ne n1, upd_ne n2]; exact hb1
      refine kk _ _ (kp _ _ hb2 (fun z => n1 (List.mem_singleton.mp z))) (fun z => ?_)
      unfold RsA.mu at z
      simp only [List.mem_cons, List.not_mem_nil, or_false] at z
      rcases z with z | z | z | z
      · exact n1 z
      · rw [z, fa] at hb2; cases hb2
      · rw [z, fb] at hb2; cases hb2
      · rw [z, fl] at hb2; cases hb2
    refine ⟨_, rfl, r, T.CR, ad.dx, _, _, rfl, S.obj, T.clR, T.n_whole, rsF_whole _ _ _, _, rfl, r, ad.dx, _, rfl, S.obj, rsF_no _ _ _ gn1 gn2 gn3, r, ad, _, rfl, S, _, _, rfl, rfl, _, _, rfl, rfl, ?_⟩
    have g0 : Goes (onePiece (startR A1 B1)) A1 B1 A1.sum.toNat (startR A1 B1) := ⟨gd, Nat.le_refl _, rfl, by show (0 : Int) + A1.sum ≤ 1000; rw [sA]; omega⟩
    refine ⟨fun m σ H' => ∃ R, σ = [some (.ref e), some (.ref la), some (.ref lb), some (.ref r), some (.bl (onePiece (startR A1 B1)))] ∧ Keep (ad.mu r) H2 H' ∧ RsAt T H' r ad R ∧ Goes (onePiece (startR A1 B1)) A1 B1 m R, ⟨_, _, rfl, Keep.refl _ _, S, g0⟩, ?_⟩
    rintro m σ H3 ⟨R, rfl, k3, S3, g⟩
    refine ⟨_, rfl, r, T.CR, ad.dx, _, _, rfl, S3.obj, T.clR, T.n_whole, rsF_whole _ _ _, _, _, rfl, rfl, _, rfl, ?_⟩
    refine ite2 (fun c => ?_) (fun c => ?_)
    · have hw := of_decide_eq_true c
      obtain ⟨n', ln, g'⟩ := g.next hw
      refine ⟨fun σ' H' => ∃ R, σ' = [some (.ref e), some (.ref la), some (.ref lb), some (.ref r), some (.bl (onePiece (startR A1 B1)))] ∧ Keep (ad.mu r) H2 H' ∧ RsAt T H' r ad R ∧ Goes (onePiece (startR A1 B1)) A1 B1 n' R, fun σ' H' h => ⟨n', ln, h⟩, ?_⟩
      refine ⟨_, rfl, _, rfl, ?_⟩
      cases ho : onePiece (startR A1 B1) with
      | true =>
        rw [ho] at g'
        exact iteT ⟨_, rfl, r, ad, R, rfl, S3, g.good, g.fit, hw, fun H4 k4 S4 => ⟨_, rfl, k3.trans k4, S4, g'⟩⟩
      | false =>
        rw [ho] at g'
        exact iteF ⟨_, rfl, r, ad, R, rfl, S3, g.good, g.fit, hw, fun H4 k4 S4 => ⟨_, rfl, k3.trans k4, S4, g'⟩⟩
    · have hw : ¬ 0 < R.whole := fun z => c (decide_eq_true z)
      obtain ⟨us, hl, hrow⟩ := S3.row
      refine ⟨_, rfl, r, T.CR, ad.dx, _, _, rfl, S3.obj, T.clR, T.n_row, rsF_row _ _ _, ad.l, us, rfl, .inl ⟨SqL.of hl, fun a ha => ?_⟩⟩
      have sn := same_new (o := .tup us) ha
      refine k' a us _ ((k2 _ k3).trans sn) (SqT.of upd_same) ?_
      have gr := g.row
      rw [run_done hw] at gr
      rw [← gr]
      exact hrow.same sn
def sp_long_way (T : Tx K mg) : Sp := sp_long_of T
theorem ok_long_way (T : Tx K mg) : FnOk P w K mg base CX0 6 T.long_way.f T.long_way.fd ["evening"] (sp_long_way T) := by
  have G_long_of := ok_long_of (P := P) (w := w) (base := base) T
  refine T.long_way.F.ok sc_long_way (fun vs H Q E h => ?_) (fun cdv A outer s H vs Q E hr h => ?_)
  · obtain ⟨e, A, B, p, q, rfl, _⟩ := h
    rfl
  · obtain ⟨e, a0, b0, p, q, rfl, hE, U, N, k⟩ := h
    refine ⟨_, (pss_one (ps_ret (pe_call G_long_of (hr.mono (by decide)) (by rfl) T.long_of.g T.long_of.kp T.long_of.b .nil pass0 (pa_cons (pv 0) pa_nil)))), ?_⟩
    exact ⟨_, rfl, e, a0, b0, p, q, rfl, hE, U, N, k⟩
end
end Qw
set_option Elab.async false
set_option maxRecDepth 100000
set_option linter.all false
set_option maxHeartbeats 4000000
/-! QW8: the state of play, whether a row is a way. -/
namespace Qw
open PySem PySem.Spec PyProof.Rows L2
structure StA where
  dx : Addr
  la : Addr
  lb : Addr
def StA.mu (S : StA) : List Addr := [S.la, S.lb]
def SmL (A : List Int) : Prop := ∀ x ∈ A, Sm x
theorem SmL.at {A : List Int} (h : SmL A) {i : Nat} {x : Int} (e : A[i]? = some x) : Sm x := h _ (List.mem_of_getElem? e)
theorem SmL.set {A : List Int} (h : SmL A) {i : Nat} {x : Int} (hx : Sm x) : SmL (A.set i x) := fun y hy => by
  rcases List.mem_or_eq_of_mem_set hy with z | z
  · exact h y z
  · rw [z]; exact hx
theorem getD_at {A : List Int} {i : Nat} (h : i < A.length) : A[i]? = some (A.getD i 0) := by
  rw [List.getD_eq_getElem?_getD, List.getElem?_eq_getElem h]
  rfl
section
variable {P : Program} {w : World} {K : PySem.W.Frag} {mg : Str → Option Value} {base : Heap}
structure StAt (T : Tx K mg) (p q : Int) (H : Hp) (st : Addr) (S : StA) (A B : List Int) : Prop where
  obj : H st = some (.ins T.CS S.dx (stF S.la S.lb))
  ha : ∃ us, H S.la = some (.lst us) ∧ Cvs K H p q us A
  hb : ∃ us, H S.lb = some (.lst us) ∧ Cvs K H p q us B
  ne : S.la ≠ S.lb
section
variable {T : Tx K mg} {H H' : Hp} {st : Addr} {S : StA} {A B : List Int} {p q : Int}
theorem StAt.same (s : Same H H') (h : StAt T p q H st S A B) : StAt T p q H' st S A B := by
  obtain ⟨ua, h1, h2⟩ := h.ha
  obtain ⟨ub, h3, h4⟩ := h.hb
  exact ⟨s _ _ h.obj, ⟨ua, s _ _ h1, h2.same s⟩, ⟨ub, s _ _ h3, h4.same s⟩, h.ne⟩
theorem StAt.mut (h : StAt T p q H st S A B) : Mu S.mu H := by
  intro x hx
  obtain ⟨ua, h1, h2⟩ := h.ha
  obtain ⟨ub, h3, h4⟩ := h.hb
  rcases List.mem_cons.mp hx with rfl | hx
  · rw [h1]; trivial
  · rw [List.mem_singleton.mp hx, h3]; trivial
theorem StAt.na (h : StAt T p q H st S A B) : st ≠ S.la := by
  obtain ⟨ua, h1, h2⟩ := h.ha
  exact ne_of h.obj h1 (by intro z; cases z)
theorem StAt.nb (h : StAt T p q H st S A B) : st ≠ S.lb := by
  obtain ⟨ua, h1, h2⟩ := h.hb
  exact ne_of h.obj h1 (by intro z; cases z)
/-- one of the owers' rests is set -/
theorem StAt.seta (h : StAt T p q H st S A B) {us : List V} (e : H S.la = some (.lst us)) {i : Nat} {v : V} {x : Int} (hv : Fv K H v (can p q x)) : StAt T p q (upd H S.la (.lst (us.set i v))) st S (A.set i x) B ∧ Keep S.mu H (upd H S.la (.lst (us.set i v))) := by
  obtain ⟨ua, h1, h2⟩ := h.ha
  obtain ⟨ub, h3, h4⟩ := h.hb
  rw [e] at h1
  cases h1
  have mu : Mu [S.la] H := fun b hb => by
    rw [List.mem_singleton.mp hb, e]
    trivial
  have kp : Keep [S.la] H (upd H S.la (.lst (us.set i v))) := (Keep.refl _ _).upd (List.mem_singleton.mpr rfl)
  refine ⟨⟨by rw [upd_ne h.na]; exact h.obj, ⟨_, upd_same, paired_set (F := fun v n => Fv K _ v (can p q n)) (hv.keep kp mu) i (h2.keep kp mu)⟩, ⟨ub, by rw [upd_ne h.ne.symm]; exact h3, h4.keep kp mu⟩, h.ne⟩, ?_⟩
  exact kp.mono fun b hb => by rw [List.mem_singleton.mp hb]; exact List.mem_cons_self
theorem StAt.setb (h : StAt T p q H st S A B) {us : List V} (e : H S.lb = some (.lst us)) {i : Nat} {v : V} {x : Int} (hv : Fv K H v (can p q x)) : StAt T p q (upd H S.lb (.lst (us.set i v))) st S A (B.set i x) ∧ Keep S.mu H (upd H S.lb (.lst (us.set i v))) := by
  obtain ⟨ua, h1, h2⟩ := h.ha
  obtain ⟨ub, h3, h4⟩ := h.hb
  rw [e] at h3
  cases h3
  have mu : Mu [S.lb] H := fun b hb => by
    rw [List.mem_singleton.mp hb, e]
    trivial
  have kp : Keep [S.lb] H (upd H S.lb (.lst (us.set i v))) := (Keep.refl _ _).upd (List.mem_singleton.mpr rfl)
  refine ⟨⟨by rw [upd_ne h.nb]; exact h.obj, ⟨ua, by rw [upd_ne h.ne]; exact h1, h2.keep kp mu⟩, ⟨_, upd_same, paired_set (F := fun v n => Fv K _ v (can p q n)) (hv.keep kp mu) i (h4.keep kp mu)⟩, h.ne⟩, ?_⟩
  exact kp.mono fun b hb => by rw [List.mem_singleton.mp hb]; exact List.mem_cons_of_mem _ List.mem_cons_self
/-- the i-th of either list -/
theorem StAt.ata (h : StAt T p q H st S A B) {i : Int} (h0 : 0 ≤ i) (hi : i < A.length) : ∃ us v, H S.la = some (.lst us) ∧ us.length = A.length ∧ atI us i = some v ∧ Fv K H v (can p q (A.getD i.toNat 0)) := by
  obtain ⟨ua, h1, h2⟩ := h.ha
  obtain ⟨v, e, f⟩ := paired_nth h2 (getD_at (A := A) (i := i.toNat) (by omega))
  exact ⟨ua, v, h1, h2.length, at_nat h0 e, f⟩
theorem StAt.atb (h : StAt T p q H st S A B) {i : Int} (h0 : 0 ≤ i) (hi : i < B.length) : ∃ us v, H S.lb = some (.lst us) ∧ us.length = B.length ∧ atI us i = some v ∧ Fv K H v (can p q (B.getD i.toNat 0)) := by
  obtain ⟨ua, h1, h2⟩ := h.hb
  obtain ⟨v, e, f⟩ := paired_nth h2 (getD_at (A := B) (i := i.toNat) (by omega))
  exact ⟨ua, v, h1, h2.length, at_nat h0 e, f⟩
end
theorem stx1 : ¬ (("amount_of" : Str) = "due_left") := by decide +kernel
theorem stx2 : ¬ (("amount_of" : Str) = "owed_left") := by decide +kernel
theorem stg1 : ¬ (("go" : Str) = "due_left") := by decide +kernel
theorem stg2 : ¬ (("go" : Str) = "owed_left") := by decide +kernel
theorem sta1 : ¬ (("all_quits" : Str) = "due_left") := by decide +kernel
theorem sta2 : ¬ (("all_quits" : Str) = "owed_left") := by decide +kernel
theorem pair0 (i j : Int) : atI [V.int i, V.int j] 0 = some (.int i) := at_nat (by decide) rfl
theorem pair1 (i j : Int) : atI [V.int i, V.int j] 1 = some (.int j) := at_nat (by decide) rfl
def InR (A B : List Int) (pr : Int × Int) : Prop := 0 ≤ pr.1 ∧ pr.1 < A.length ∧ 0 ≤ pr.2 ∧ pr.2 < B.length
def sp_amount_of (T : Tx K mg) : Sp := fun vs H Q _ => ∃ (st z : Addr) (S : StA) (A B : List Int) (p q : Int) (pr : Int × Int), vs = [.ref st, .ref z] ∧ StAt T p q H st S A B ∧ Unit' p q ∧ SmL A ∧ SmL B ∧ At2 K H z pr ∧ InR A B pr ∧
  ∀ a, At2 K H a (can p q (amt A B pr)) → Q (.ref a) H
theorem ok_amount_of (T : Tx K mg) : FnOk P w K mg base CX0 3 T.amount_of.f T.amount_of.fd ["self", "pair"] (sp_amount_of T) := by
  have G_least_of := ok_least_of (P := P) (w := w) (base := base) T
  refine T.amount_of.F.ok sc_amount_of (fun vs H Q E h => ?_) (fun cdv A outer s H vs Q E hr h => ?_)
  · obtain ⟨st, z, S, A, B, p, q, pr, rfl, _⟩ := h
    rfl
  · obtain ⟨st, z, S, a0, b0, p, q, pr, rfl, SA, U, mA, mB, hz, ⟨i0, i1, j0, j1⟩, k⟩ := h
    refine ⟨_, (pss_one (ps_ret (pe_call G_least_of (hr.mono (by decide)) (by rfl) T.least_of.g T.least_of.kp T.least_of.b .nil pass0 (pa_cons (pe_ix (r := rIxL K) ix_list (pe_fld (pv 0) rfl) (pe_ix (r := rIxT K) ix_tup (pv 1) pe_int (fun _ _ => rfl)) (fun _ _ => rfl)) (pa_cons (pe_ix (r := rIxL K) ix_list (pe_fld (pv 0) rfl) (pe_ix (r := rIxT K) ix_tup (pv 1) pe_int (fun _ _ => rfl)) (fun _ _ => rfl)) pa_nil))))), ?_⟩
    obtain ⟨ua, x, e1, l1, x1, a, rfl, fa⟩ := SA.ata i0 i1
    obtain ⟨ub, y, e2, l2, y1, b, rfl, fb⟩ := SA.atb j0 j1
    have ma := bd_can U (mA.at (getD_at (A := a0) (i := pr.1.toNat) (by omega)))
    have mb := bd_can U (mB.at (getD_at (A := b0) (i := pr.2.toNat) (by omega)))
    refine ⟨_, rfl, st, T.CS, S.dx, _, _, rfl, SA.obj, T.clS, T.n_owed_left, stF_owed _ _, _, rfl, z, _, 0, _, rfl, rfl, hz, pair0 _ _, S.la, ua, _, _, rfl, rfl, SqL.of e1, x1, ?_⟩
    refine ⟨_, rfl, st, T.CS, S.dx, _, _, rfl, SA.obj, T.clS, T.n_due_left, stF_due _ _, _, rfl, z, _, 1, _, rfl, rfl, hz, pair1 _ _, S.lb, ub, _, _, rfl, rfl, SqL.of e2, y1, ?_⟩
    refine ⟨a, b, _, _, rfl, fa, fb, ma, mb, ?_⟩
    by_cases c : b0.getD pr.2.toNat 0 < a0.getD pr.1.toNat 0
    · rw [if_pos ((can_less U _ _).mpr c)]
      refine k b ?_
      unfold amt mn
      rw [if_pos c]
      exact fb
    · rw [if_neg (fun z => c ((can_less U _ _).mp z))]
      refine k a ?_
      unfold amt mn
      rw [if_neg c]
      exact fa
theorem amt_sm {A B : List Int} {pr : Int × Int} (mA : SmL A) (mB : SmL B) (h : InR A B pr) : Sm (amt A B pr) ∧ Sm (A.getD pr.1.toNat 0 - amt A B pr) ∧ Sm (B.getD pr.2.toNat 0 - amt A B pr) := by
  obtain ⟨i0, i1, j0, j1⟩ := h
  obtain ⟨h1, h2⟩ := mA.at (getD_at (A := A) (i := pr.1.toNat) (by omega))
  obtain ⟨h3, h4⟩ := mB.at (getD_at (A := B) (i := pr.2.toNat) (by omega))
  have m1 : amt A B pr ≤ A.getD pr.1.toNat 0 := mn_le1 _ _
  have m2 : amt A B pr ≤ B.getD pr.2.toNat 0 := mn_le2 _ _
  have m3 : 0 ≤ amt A B pr := by
    unfold amt
    rcases mn_cases (A.getD pr.1.toNat 0) (B.getD pr.2.toNat 0) with e | e <;> rw [e] <;> assumption
  refine ⟨⟨m3, by omega⟩, ⟨by omega, by omega⟩, ⟨by omega, by omega⟩⟩
def sp_go (T : Tx K mg) : Sp := fun vs H Q _ => ∃ (st z : Addr) (S : StA) (A B : List Int) (p q : Int) (pr : Int × Int), vs = [.ref st, .ref z] ∧ StAt T p q H st S A B ∧ Unit' p q ∧ SmL A ∧ SmL B ∧ At2 K H z pr ∧ InR A B pr ∧
  ∀ H' a, Keep S.mu H H' → StAt T p q H' st S (payA A B pr) (payB A B pr) → Q (.ref a) H'
theorem ok_go (T : Tx K mg) : FnOk P w K mg base CX0 4 T.go.f T.go.fd ["self", "pair"] (sp_go T) := by
  have G_amount_of := ok_amount_of (P := P) (w := w) (base := base) T
  have G_minus := ok_minus (P := P) (w := w) (base := base) T
  refine T.go.F.ok sc_go (fun vs H Q E h => ?_) (fun cdv A outer s H vs Q E hr h => ?_)
  · obtain ⟨st, z, S, A, B, p, q, pr, rfl, _⟩ := h
    rfl
  · obtain ⟨st, z, S, a0, b0, p, q, pr, rfl, SA, U, mA, mB, hz, ⟨i0, i1, j0, j1⟩, k⟩ := h
    refine ⟨_, (pss_cons (ps_set (i := 2) sc_go.nd rfl (Or.inl rfl) (pe_meth (pv 0) T.clS T.amount_of.m G_amount_of (hr.mono (by decide)) T.amount_of.b .nil pass0 (pa_cons (pv 1) pa_nil)))
      (pss_cons (ps_asg (pe_call G_minus (hr.mono (by decide)) (by rfl) T.minus.g T.minus.kp T.minus.b .nil pass0 (pa_cons (pe_ix (r := rIxL K) ix_list (pe_fld (pv 0) rfl) (pe_ix (r := rIxT K) ix_tup (pv 1) pe_int (fun _ _ => rfl)) (fun _ _ => rfl)) (pa_cons (pv 2) pa_nil))) (pg_sub (pe_fld (pv 0) rfl) (pe_ix (r := rIxT K) ix_tup (pv 1) pe_int (fun _ _ => rfl)) set_list))
      (pss_cons (ps_asg (pe_call G_minus (hr.mono (by decide)) (by rfl) T.minus.g T.minus.kp T.minus.b .nil pass0 (pa_cons (pe_ix (r := rIxL K) ix_list (pe_fld (pv 0) rfl) (pe_ix (r := rIxT K) ix_tup (pv 1) pe_int (fun _ _ => rfl)) (fun _ _ => rfl)) (pa_cons (pv 2) pa_nil))) (pg_sub (pe_fld (pv 0) rfl) (pe_ix (r := rIxT K) ix_tup (pv 1) pe_int (fun _ _ => rfl)) set_list))
      (pss_one (ps_ret (pv 2)))))), ?_⟩
    obtain ⟨s1, s2, s3⟩ := amt_sm mA mB ⟨i0, i1, j0, j1⟩
    refine ⟨_, rfl, st, S.dx, _, rfl, SA.obj, stF_no _ _ stx1 stx2, _, rfl, st, z, S, a0, b0, p, q, pr, rfl, SA, U, mA, mB, hz, ⟨i0, i1, j0, j1⟩, fun am ham => ?_⟩
    obtain ⟨ua, x, e1, l1, x1, a, rfl, fa⟩ := SA.ata i0 i1
    have ma := bd_can U (mA.at (getD_at (A := a0) (i := pr.1.toNat) (by omega)))
    have mm := bd_can U s1
    refine ⟨_, rfl, st, T.CS, S.dx, _, _, rfl, SA.obj, T.clS, T.n_owed_left, stF_owed _ _, _, rfl, z, _, 0, _, rfl, rfl, hz, pair0 _ _, S.la, ua, _, _, rfl, rfl, SqL.of e1, x1, ?_⟩
    refine ⟨_, rfl, a, am, _, _, rfl, fa, ham, ma, mm, fun n1 hn1 => ?_⟩
    rw [can_minus U]
    have sm1 := same_new (o := .tup [.int (can p q (a0.getD pr.1.toNat 0 - amt a0 b0 pr)).1, .int (can p q (a0.getD pr.1.toNat 0 - amt a0 b0 pr)).2]) hn1
    have SA1 := SA.same sm1
    obtain ⟨SA2, k2⟩ := SA1.seta (sm1 _ _ e1) (i := pr.1.toNat) (v := .ref n1) ⟨n1, rfl, SqT.of upd_same⟩
    refine ⟨_, rfl, st, T.CS, S.dx, _, _, rfl, SA1.obj, T.clS, T.n_owed_left, stF_owed _ _, _, rfl, z, _, 0, _, rfl, rfl, same_tup sm1 hz, pair0 _ _, S.la, ua, _, _, rfl, rfl, sm1 _ _ e1, ix_nat i0 (by omega), ?_⟩
    have hz2 := keep_tup k2 SA1.mut (same_tup sm1 hz)
    have ham2 := keep_tup k2 SA1.mut (same_tup sm1 ham)
    generalize upd (upd H n1 _) S.la _ = H2 at *
    obtain ⟨ub, y, e2, l2, y1, b, rfl, fb⟩ := SA2.atb j0 j1
    have mb := bd_can U (mB.at (getD_at (A := b0) (i := pr.2.toNat) (by omega)))
    refine ⟨_, rfl, st, T.CS, S.dx, _, _, rfl, SA2.obj, T.clS, T.n_due_left, stF_due _ _, _, rfl, z, _, 1, _, rfl, rfl, hz2, pair1 _ _, S.lb, ub, _, _, rfl, rfl, SqL.of e2, y1, ?_⟩
    refine ⟨_, rfl, b, am, _, _, rfl, fb, ham2, mb, mm, fun n2 hn2 => ?_⟩
    rw [can_minus U]
    have sm2 := same_new (o := .tup [.int (can p q (b0.getD pr.2.toNat 0 - amt a0 b0 pr)).1, .int (can p q (b0.getD pr.2.toNat 0 - amt a0 b0 pr)).2]) hn2
    have SA3 := SA2.same sm2
    obtain ⟨SA4, k4⟩ := SA3.setb (sm2 _ _ e2) (i := pr.2.toNat) (v := .ref n2) ⟨n2, rfl, SqT.of upd_same⟩
    refine ⟨_, rfl, st, T.CS, S.dx, _, _, rfl, SA3.obj, T.clS, T.n_due_left, stF_due _ _, _, rfl, z, _, 1, _, rfl, rfl, same_tup sm2 hz2, pair1 _ _, S.lb, ub, _, _, rfl, rfl, sm2 _ _ e2, ix_nat j0 (by omega), ?_⟩
    refine ⟨_, rfl, k _ am ?_ SA4⟩
    exact (((Keep.of_same sm1).trans k2).trans (Keep.of_same sm2)).trans k4
theorem EvAt.lens {T : Tx K mg} {p q : Int} {H : Hp} {e : Addr} {A B : List Int} (h : EvAt T p q H e A B) : ∃ dx o d va vb, H e = some (.ins T.CE dx (evF o d)) ∧ SqT K H o va ∧ SqT K H d vb ∧ va.length = A.length ∧ vb.length = B.length := by
  obtain ⟨dx, o, d, va, vb, h1, h2, h3, h4, h5⟩ := h
  exact ⟨dx, o, d, va, vb, h1, h2, h3, h4.length, h5.length⟩
def sp_are_people (T : Tx K mg) : Sp := fun vs H Q _ => ∃ (e z : Addr) (A B : List Int) (p q : Int) (pr : Int × Int), vs = [.ref e, .ref z] ∧ EvAt T p q H e A B ∧ At2 K H z pr ∧ InR A B pr ∧ Q (.bl true) H
theorem ok_are_people (T : Tx K mg) : FnOk P w K mg base CX0 3 T.are_people.f T.are_people.fd ["evening", "thing"] (sp_are_people T) := by
  have G_is_pair := ok_is_pair (P := P) (w := w) (base := base) T
  have G_is_within := ok_is_within (P := P) (w := w) (base := base) T
  refine T.are_people.F.ok sc_are_people (fun vs H Q E h => ?_) (fun cdv A outer s H vs Q E hr h => ?_)
  · obtain ⟨e, z, A, B, p, q, pr, rfl, _⟩ := h
    rfl
  · obtain ⟨e, z, a0, b0, p, q, pr, rfl, hE, hz, ⟨i0, i1, j0, j1⟩, k⟩ := h
    obtain ⟨dx, o, d, va, vb, he, ho, hd, la, lb⟩ := hE.lens
    refine ⟨_, (pss_cons (ps_if ((pw_or (pt_not (pt_val (pe_call G_is_pair (hr.mono (by decide)) (by rfl) T.is_pair.g T.is_pair.kp T.is_pair.b .nil pass0 (pa_cons (pv 1) pa_nil)))) (pw_or1 (pt_not (pt_val (pe_call G_is_within (hr.mono (by decide)) (by rfl) T.is_within.g T.is_within.kp T.is_within.b .nil pass0 (pa_cons (pe_ix (r := rIxT K) ix_tup (pv 1) pe_int (fun _ _ => rfl)) (pa_cons pe_int (pa_cons (pe_op op_sub (pe_callB (r := rLenK K) call_len_seq (by rfl) T.z_len (by decide +kernel) (pa_cons (pe_fld (pv 0) rfl) pa_nil)) pe_int) pa_nil))))))))).pt (pss_one (ps_ret pe_bl)) pss_nil)
      (pss_one (ps_ret (pe_call G_is_within (hr.mono (by decide)) (by rfl) T.is_within.g T.is_within.kp T.is_within.b .nil pass0 (pa_cons (pe_ix (r := rIxT K) ix_tup (pv 1) pe_int (fun _ _ => rfl)) (pa_cons pe_int (pa_cons (pe_op op_sub (pe_callB (r := rLenK K) call_len_seq (by rfl) T.z_len (by decide +kernel) (pa_cons (pe_fld (pv 0) rfl) pa_nil)) pe_int) pa_nil))))))), ?_⟩
    refine ⟨_, rfl, z, _, _, rfl, hz, _, rfl, iteF ?_⟩
    refine ⟨_, rfl, z, _, 0, _, rfl, rfl, hz, pair0 _ _, _, rfl, e, T.CE, dx, _, _, rfl, he, T.clE, T.n_owed, evF_owed o d, o, va, rfl, .inr ho, _, _, rfl, rfl, pr.1, 0, _, rfl, fun b hb => ?_⟩
    have := hb.mpr ⟨i0, by omega⟩
    subst this
    refine ⟨_, rfl, iteF ?_⟩
    refine ⟨_, rfl, z, _, 1, _, rfl, rfl, hz, pair1 _ _, _, rfl, e, T.CE, dx, _, _, rfl, he, T.clE, T.n_due, evF_due o d, d, vb, rfl, .inr hd, _, _, rfl, rfl, pr.2, 0, _, rfl, fun b hb => ?_⟩
    have := hb.mpr ⟨j0, by omega⟩
    subst this
    exact k
def sp_state_init (T : Tx K mg) : Sp := fun vs H Q _ => ∃ (st dx e : Addr) (A B : List Int) (p q : Int), vs = [.ref st, .ref e] ∧ H st = some (.ins T.CS dx []) ∧ EvAt T p q H e A B ∧
  ∀ H' S, Keep [st] H H' → StAt T p q H' st S A B → H S.la = none → H S.lb = none → Q .non H'
theorem ok_state_init (T : Tx K mg) : FnOk P w K mg base CX0 1 T.state_init.f T.state_init.fd ["self", "evening"] (sp_state_init T) := by
  refine T.state_init.F.ok sc_state_init (fun vs H Q E h => ?_) (fun cdv A outer s H vs Q E hr h => ?_)
  · obtain ⟨st, dx, e, A, B, p, q, rfl, _⟩ := h
    rfl
  · obtain ⟨st, dx, e, a0, b0, p, q, rfl, hst, ⟨ex, o, d, va, vb, he, ho, hd, hA, hB⟩, k⟩ := h
    refine ⟨_, (pss_cons (ps_fld (pv 0) (pe_callTy call_list_of (by rfl) T.z_list (by decide +kernel) (pa_cons (pe_fld (pv 1) rfl) pa_nil)) rfl)
      (pss_one (ps_fld (pv 0) (pe_callTy call_list_of (by rfl) T.z_list (by decide +kernel) (pa_cons (pe_fld (pv 1) rfl) pa_nil)) rfl))), ?_⟩
    refine ⟨_, rfl, e, T.CE, ex, _, _, rfl, he, T.clE, T.n_owed, evF_owed o d, o, va, rfl, .inr ho, fun la hla => ?_⟩
    have s1 := same_new (o := .lst va) hla
    have n1 : st ≠ la := fun z => by rw [z, hla] at hst; cases hst
    refine ⟨_, rfl, st, T.CS, dx, _, rfl, s1 _ _ hst, T.clS, T.n_owed_left, (by decide), ?_⟩
    have nes : e ≠ st := fun z => by
      rw [z, hst] at he
      injection he with he
      injection he with _ _ h3
      have := evF_owed o d
      rw [← h3] at this
      cases this
    have mu : Mu [st] (upd H la (.lst va)) := fun b hb => by
      rw [List.mem_singleton.mp hb, s1 _ _ hst]
      trivial
    have kp : Keep [st] (upd H la (.lst va)) (upd (upd H la (.lst va)) st (.ins T.CS dx (putF "owed_left" (.ref la) []))) := (Keep.refl _ _).upd (List.mem_singleton.mpr rfl)
    have nin : ∀ {b : Addr}, b ≠ st → b ∉ [st] := fun n z => n (List.mem_singleton.mp z)
    have he2 := kp _ _ (s1 _ _ he) (nin nes)
    have hd2 := keep_tup kp mu (same_tup s1 hd)
    have hl2 := kp _ _ (show (upd H la (.lst va)) la = _ from upd_same) (nin n1.symm)
    have hA2 := (hA.same s1).keep kp mu
    have hB2 := (hB.same s1).keep kp mu
    refine ⟨_, rfl, e, T.CE, ex, _, _, rfl, he2, T.clE, T.n_due, evF_due o d, d, vb, rfl, .inr hd2, fun lb hlb => ?_⟩
    have s2 := same_new (o := .lst vb) hlb
    have n2 : st ≠ lb := fun z => by rw [← z, upd_same] at hlb; cases hlb
    have n3 : la ≠ lb := fun z => by rw [← z, hl2] at hlb; cases hlb
    refine ⟨_, rfl, st, T.CS, dx, _, rfl, s2 _ _ upd_same, T.clS, T.n_due_left, put_len1 _ _, ?_⟩
    have mu3 : Mu [st] (upd (upd (upd H la (.lst va)) st (.ins T.CS dx (putF "owed_left" (.ref la) []))) lb (.lst vb)) := fun b hb => by
      rw [List.mem_singleton.mp hb, s2 _ _ upd_same]
      trivial
    have kp3 : Keep [st] (upd (upd (upd H la (.lst va)) st (.ins T.CS dx (putF "owed_left" (.ref la) []))) lb (.lst vb)) (upd (upd (upd (upd H la (.lst va)) st (.ins T.CS dx (putF "owed_left" (.ref la) []))) lb (.lst vb)) st (.ins T.CS dx (stF la lb))) := (Keep.refl _ _).upd (List.mem_singleton.mpr rfl)
    refine k _ ⟨dx, la, lb⟩ ?_ ⟨upd_same, ⟨va, kp3 _ _ (s2 _ _ hl2) (nin n1.symm), (hA2.same s2).keep kp3 mu3⟩, ⟨vb, kp3 _ _ (show (upd _ lb (.lst vb)) lb = _ from upd_same) (nin n2.symm), (hB2.same s2).keep kp3 mu3⟩, n3⟩ hla (upd_none (upd_none hlb))
    exact (((Keep.of_same s1).trans kp).trans (Keep.of_same s2)).trans kp3
def sp_all_quits (T : Tx K mg) : Sp := fun vs H Q _ => ∃ (st : Addr) (S : StA) (A B : List Int) (p q : Int), vs = [.ref st] ∧ StAt T p q H st S A B ∧ Unit' p q ∧ (∀ x ∈ A, x = 0) ∧ A.length ≤ 1000 ∧ ∀ H', Same H H' → Q (.bl true) H'
theorem ok_all_quits (T : Tx K mg) : FnOk P w K mg base CX0 1 T.all_quits.f T.all_quits.fd ["self"] (sp_all_quits T) := by
  refine T.all_quits.F.ok sc_all_quits (fun vs H Q E h => ?_) (fun cdv A outer s H vs Q E hr h => ?_)
  · obtain ⟨st, S, A, B, p, q, rfl, _⟩ := h
    rfl
  · obtain ⟨st, S, a0, b0, p, q, rfl, SA, U, z0, hl, k⟩ := h
    obtain ⟨ua, e1, f1⟩ := SA.ha
    have lu := f1.length
    refine ⟨_, (pss_one (ps_ret (pe_callB (cr_all rfl) (by rfl) T.z_all (by decide +kernel) (pa_cons (pe_lc (own := [("rest", 1)]) (g := gName 1) (tt := tYes) (by rfl) sc_all_quits.nd (pi_list (pe_fld (pv 0) rfl)) (blkOk_by (own := [("rest", 1)]) (N := ["self", "rest"]) (sc := defScope s_all_quits) (by decide +kernel)) (fun _ _ _ _ _ => pg_name (i := 1) sc_all_quits.nd rfl (Or.inl rfl)) (fun _ _ _ _ _ => pts_nil) (fun _ _ _ _ _ => (pe_cmpR (r := rEqD K) (op_eqD hr.units) (pv 1) (pe_glob (v := .ref T.aZERO) rfl T.mg_ZERO rfl) (nomark _)))) pa_nil)))), ?_⟩
    refine ⟨_, rfl, st, T.CS, S.dx, _, _, rfl, SA.obj, T.clS, T.n_owed_left, stF_owed _ _, S.la, rfl, ⟨_, SqL.of e1⟩, fun D hD => lc_list (K := K) (a := S.la) (xs := ua) (fun i H' => Same H H' ∧ H' D = some (.lst ((List.replicate i true).map V.bl))) ⟨same_new hD, upd_same⟩ (fun i H' _ ⟨s, _⟩ => SqL.of (s _ _ e1)) ?_ ?_⟩
    · rintro i y H' hi ⟨s, hd⟩
      obtain ⟨n, hn, b, rfl, hb⟩ := paired_at f1 hi
      have n0 := z0 n (List.mem_of_getElem? hn)
      subst n0
      rw [can_zero U] at hb
      have ilt := lt_of_at hi
      refine ⟨rfl, _, rfl, _, _, dp2 (same_tup s hb), dp2 (f := (0, 1)) (T.sq_ZERO _), shp2 _ _, shp2 _ _, ?_⟩
      rw [eqv2, decide_eq_true rfl]
      refine ⟨_, hd, ?_, ?_, ?_⟩
      · rw [List.length_map, List.length_replicate]
        exact sz' (by omega)
      · intro c u e
        have nc : c ≠ D := ne_of_none e hD
        rw [upd_ne nc]
        exact s c u e
      · rw [upd_same, List.replicate_succ', List.map_append]
        rfl
    · rintro H' ⟨s, hd⟩
      refine ⟨D, _, rfl, SqL.of hd, ?_⟩
      rw [all_true]
      exact k H' s
def sp_may_pay (T : Tx K mg) : Sp := fun vs H Q _ => ∃ (e st z : Addr) (S : StA) (A0 B0 A B : List Int) (p q : Int) (pr : Int × Int), vs = [.ref e, .ref st, .ref z] ∧ EvAt T p q H e A0 B0 ∧ StAt T p q H st S A B ∧ Unit' p q ∧ SmL A ∧ SmL B ∧ At2 K H z pr ∧ CanPay A B pr ∧ A.length = A0.length ∧ B.length = B0.length ∧ Q (.bl true) H
theorem ok_may_pay (T : Tx K mg) : FnOk P w K mg base CX0 4 T.may_pay.f T.may_pay.fd ["evening", "state", "thing"] (sp_may_pay T) := by
  have G_are_people := ok_are_people (P := P) (w := w) (base := base) T
  have G_amount_of := ok_amount_of (P := P) (w := w) (base := base) T
  refine T.may_pay.F.ok sc_may_pay (fun vs H Q E h => ?_) (fun cdv A outer s H vs Q E hr h => ?_)
  · obtain ⟨e, st, z, S, A0, B0, A, B, p, q, pr, rfl, _⟩ := h
    rfl
  · obtain ⟨e, st, z, S, A0, B0, a0, b0, p, q, pr, rfl, hE, SA, U, mA, mB, hz, ⟨i0, i1, j0, j1, hm⟩, l1, l2, k⟩ := h
    refine ⟨_, (pss_one (ps_ret (pe_and (pe_call G_are_people (hr.mono (by decide)) (by rfl) T.are_people.g T.are_people.kp T.are_people.b .nil pass0 (pa_cons (pv 0) (pa_cons (pv 2) pa_nil))) (pe_one (pe_cmpR (r := rNeD K) (op_neD hr.units) (pe_meth (pv 1) T.clS T.amount_of.m G_amount_of (hr.mono (by decide)) T.amount_of.b .nil pass0 (pa_cons (pv 2) pa_nil)) (pe_glob (v := .ref T.aZERO) rfl T.mg_ZERO rfl) (nomark _)))))), ?_⟩
    refine ⟨_, rfl, _, rfl, e, z, A0, B0, p, q, pr, rfl, hE, hz, ⟨i0, by omega, j0, by omega⟩, _, rfl, iteT ?_⟩
    refine ⟨_, rfl, st, S.dx, _, rfl, SA.obj, stF_no _ _ stx1 stx2, _, rfl, st, z, S, a0, b0, p, q, pr, rfl, SA, U, mA, mB, hz, ⟨i0, i1, j0, j1⟩, fun am ham => ?_⟩
    refine ⟨_, _, dp2 ham, dp2 (f := (0, 1)) (T.sq_ZERO _), shp2 _ _, shp2 _ _, ?_⟩
    rw [eqv2, decide_eq_false (fun y => by
      have := (can_is_zero U).mp y
      unfold amt at this
      omega)]
    exact k
def sp_gone (T : Tx K mg) : Sp := fun vs H Q _ => ∃ (e a : Addr) (us : List V) (ws : List (Int × Int)) (A B A' B' : List Int) (p q : Int), vs = [.ref e, .ref a] ∧ EvAt T p q H e A B ∧ Unit' p q ∧ SmL A ∧ SmL B ∧ SqT K H a us ∧ Fvs K H us ws ∧ Plays A B ws A' B' ∧ ws.length ≤ 100000 ∧
  ∀ H' st S z y, Same H H' → H' z = some (.tup [.ref st, .ref y]) → StAt T p q H' st S A' B' → Q (.ref z) H'
theorem smL_pay {A B : List Int} {pr : Int × Int} (mA : SmL A) (mB : SmL B) (c : CanPay A B pr) : SmL (payA A B pr) ∧ SmL (payB A B pr) := by
  obtain ⟨i0, i1, j0, j1, _⟩ := c
  obtain ⟨_, s2, s3⟩ := amt_sm mA mB ⟨i0, i1, j0, j1⟩
  exact ⟨mA.set s2, mB.set s3⟩
theorem ok_gone (T : Tx K mg) : FnOk P w K mg base CX0 5 T.gone.f T.gone.fd ["evening", "row"] (sp_gone T) := by
  have G_state_init := ok_state_init (P := P) (w := w) (base := base) T
  have G_may_pay := ok_may_pay (P := P) (w := w) (base := base) T
  have G_go := ok_go (P := P) (w := w) (base := base) T
  refine T.gone.F.ok sc_gone (fun vs H Q E h => ?_) (fun cdv A outer s H vs Q E hr h => ?_)
  · obtain ⟨e, a, us, ws, A, B, A', B', p, q, rfl, _⟩ := h
    rfl
  · obtain ⟨e, a, us, ws, a0, b0, a1, b1, p, q, rfl, hE, U, mA, mB, ha, hf, hp, hl, k⟩ := h
    refine ⟨_, (pss_cons (ps_if (pt_not (pt_val (pe_callB (r := rIsi K) call_isi (by rfl) T.z_isinstance (by decide +kernel) (pa_cons (pv 1) (pa_cons (pe_bltn (v := .ty "tuple") (by rfl) T.z_tuple (by decide +kernel) rfl) pa_nil))))) (pss_one (ps_ret pe_non)) pss_nil)
      (pss_cons (ps_set (i := 2) sc_gone.nd rfl (Or.inl rfl) (pe_make T.state_init.m G_state_init (hr.mono (by decide)) (by rfl) T.mg_State T.state_init.b .nil pass0 (pa_cons (pv 0) pa_nil)))
      (pss_cons (ps_set (i := 3) sc_gone.nd rfl (Or.inl rfl) (pe_lst pa_nil))
      (pss_cons (ps_for PassesOwn.never rfl (pi_tup (pv 1)) (pg_name (i := 4) sc_gone.nd rfl (Or.inl rfl)) (pss_cons (ps_if (pt_not (pt_val (pe_call G_may_pay (hr.mono (by decide)) (by rfl) T.may_pay.g T.may_pay.kp T.may_pay.b .nil pass0 (pa_cons (pv 0) (pa_cons (pv 2) (pa_cons (pv 4) pa_nil)))))) (pss_one (ps_ret pe_non)) pss_nil)
      (pss_one (ps_expr (pe_bm PySem.F.plainAttrs_list PySem.F.slot_list_append PySem.F.type_list_append mt_append (pv 3) (pa_cons (pe_meth (pv 2) T.clS T.go.m G_go (hr.mono (by decide)) T.go.b .nil pass0 (pa_cons (pv 4) pa_nil)) pa_nil))))))
      (pss_one (ps_ret (pe_tup (pa_cons (pv 2) (pa_cons (pe_callTy call_tuple_of (by rfl) T.z_tuple (by decide +kernel) (pa_cons (pv 3) pa_nil)) pa_nil))))))))), ?_⟩
    refine ⟨_, rfl, .ref a, .ty "tuple", .type "tuple", .type "tuple", true, rfl, .ty _, ty_tup ha, kit_ty (by decide +kernel), _, rfl, iteF ?_⟩
    refine ⟨_, rfl, fun st dx hst hdx hne => ?_⟩
    have sN : Same H (upd (upd H dx (.own st)) st (.ins T.CS dx [])) := (same_new (o := .own st) hdx).trans (same_new (by rw [upd_ne hne.symm]; exact hst))
    refine ⟨st, dx, e, a0, b0, p, q, rfl, upd_same, hE.same sN, fun H1 S kp SA fa fb => ⟨rfl, ?_⟩⟩
    refine ⟨Nat.zero_le _, fun D hD => ?_⟩
    have n1 : st ≠ D := fun z => by rw [← z, SA.obj] at hD; cases hD
    have nAB : S.la ≠ D ∧ S.lb ≠ D := by
      obtain ⟨_, h1, _⟩ := SA.ha
      obtain ⟨_, h2, _⟩ := SA.hb
      exact ⟨fun z => (by rw [z, hD] at h1; cases h1), fun z => (by rw [z, hD] at h2; cases h2)⟩
    have sD := same_new (o := .lst []) hD
    have k2 : ∀ H', Keep (D :: S.mu) (upd H1 D (.lst [])) H' → Same H H' := fun H' kk b o hb => by
      have b1 := sN _ _ hb
      have m1 : b ∉ [st] := fun z => by rw [List.mem_singleton.mp z, hst] at hb; cases hb
      have b2 := kp _ _ b1 m1
      refine kk _ _ (sD _ _ b2) (fun z => ?_)
      rcases List.mem_cons.mp z with z | z
      · rw [z, hD] at b2; cases b2
      · rcases List.mem_cons.mp z with z | z
        · rw [z, fa] at b1; cases b1
        · rw [List.mem_singleton.mp z, fb] at b1; cases b1
    refine ⟨_, rfl, a, rfl, ⟨_, same_tup (k2 _ (Keep.refl _ _)) ha⟩, for_tup (K := K) (a := a) (xs := us) (fun i σ H' => ∃ (x4 : Option V) (am : List V) (A1 B1 : List Int), σ = [some (.ref e), some (.ref a), some (.ref st), some (.ref D), x4] ∧ Keep (D :: S.mu) (upd H1 D (.lst [])) H' ∧ H' D = some (.lst am) ∧ am.length = i ∧
      StAt T p q H' st S A1 B1 ∧ SmL A1 ∧ SmL B1 ∧ Plays A1 B1 (ws.drop i) a1 b1 ∧ A1.length = a0.length ∧ B1.length = b0.length)
      ⟨none, [], a0, b0, rfl, Keep.refl _ _, upd_same, rfl, SA.same sD, mA, mB, hp, rfl, rfl⟩ (fun i σ H' _ ⟨_, _, _, _, _, kk, _⟩ => same_tup (k2 _ kk) ha) ?_ ?_⟩
    · rintro i v σ H' hi ⟨x4, am, A1, B1, rfl, kk, hD', la, S1, m1, m2, hp', l1, l2⟩
      obtain ⟨pr, hw, z, rfl, hz⟩ := paired_at hf hi
      have ilt := lt_of_at hw
      have ed : ws.drop i = pr :: ws.drop (i + 1) := by
        rw [List.drop_eq_getElem_cons ilt, (List.getElem?_eq_some_iff.mp hw).2]
      rw [ed] at hp'
      obtain ⟨c, hp2⟩ : CanPay A1 B1 pr ∧ Plays (payA A1 B1 pr) (payB A1 B1 pr) (ws.drop (i + 1)) a1 b1 := by
        cases hp' with
        | cons c h => exact ⟨c, h⟩
      have sm := k2 _ kk
      have hz' := same_tup sm hz
      refine ⟨_, rfl, _, rfl, _, rfl, e, st, z, S, a0, b0, A1, B1, p, q, pr, rfl, hE.same sm, S1, U, m1, m2, hz', c, l1, l2, _, rfl, iteF ?_⟩
      refine ⟨_, rfl, .inl ⟨rfl, _, SqL.of hD'⟩, _, rfl, st, S.dx, _, rfl, S1.obj, stF_no _ _ stg1 stg2, _, rfl, st, z, S, A1, B1, p, q, pr, rfl, S1, U, m1, m2, hz', ⟨c.1, c.2.1, c.2.2.1, c.2.2.2.1⟩, fun H2 am' kg S2 => ?_⟩
      have hD2 := kg _ _ hD' (fun z => by
        rcases List.mem_cons.mp z with z | z
        · exact nAB.1 z.symm
        · exact nAB.2 (List.mem_singleton.mp z).symm)
      have mu : Mu [D] H2 := fun b hb => by
        rw [List.mem_singleton.mp hb, hD2]
        trivial
      have kD : Keep [D] H2 (upd H2 D (.lst (am ++ [.ref am']))) := (Keep.refl _ _).upd (List.mem_singleton.mpr rfl)
      have nin : ∀ {b : Addr}, b ≠ D → b ∉ [D] := fun n z => n (List.mem_singleton.mp z)
      refine ⟨D, am, _, rfl, rfl, hD2, sz' (by omega), ?_⟩
      have pm := smL_pay m1 m2 c
      refine ⟨_, am ++ [.ref am'], payA A1 B1 pr, payB A1 B1 pr, rfl, ?_, upd_same, by rw [List.length_append, la]; rfl, ?_, pm.1, pm.2, hp2, ?_, ?_⟩
      · exact (kk.trans (kg.mono fun b hb => List.mem_cons_of_mem _ hb)).trans (kD.mono fun b hb => by rw [List.mem_singleton.mp hb]; exact List.mem_cons_self)
      · obtain ⟨u1, g1, g2⟩ := S2.ha
        obtain ⟨u2, g3, g4⟩ := S2.hb
        exact ⟨kD _ _ S2.obj (nin n1), ⟨u1, kD _ _ g1 (nin nAB.1), g2.keep kD mu⟩, ⟨u2, kD _ _ g3 (nin nAB.2), g4.keep kD mu⟩, S2.ne⟩
      · unfold payA
        rw [List.length_set, l1]
      · unfold payB
        rw [List.length_set, l2]
    · rintro σ H' ⟨x4, am, A1, B1, rfl, kk, hD', la, S1, m1, m2, hp', l1, l2⟩
      rw [hf.length, List.drop_length] at hp'
      obtain ⟨rfl, rfl⟩ : A1 = a1 ∧ B1 = b1 := by
        cases hp' with
        | nil => exact ⟨rfl, rfl⟩
      refine ⟨_, rfl, _, rfl, D, am, rfl, .inl ⟨SqL.of hD', fun y hy => ⟨Qw.s2, fun z hz => ?_⟩⟩⟩
      have sy := same_new (o := .tup am) hy
      have szz := same_new (o := .tup [.ref st, .ref y]) hz
      exact k _ st S z y (((k2 _ kk).trans sy).trans szz) upd_same ((S1.same sy).same szz)
def sp_is_way (T : Tx K mg) : Sp := fun vs H Q _ => ∃ (e a : Addr) (us : List V) (ws : List (Int × Int)) (A B A' B' : List Int) (p q : Int), vs = [.ref e, .ref a] ∧ EvAt T p q H e A B ∧ Unit' p q ∧ SmL A ∧ SmL B ∧ SqT K H a us ∧ Fvs K H us ws ∧ Plays A B ws A' B' ∧ ws.length ≤ 100000 ∧
  (∀ x ∈ A', x = 0) ∧ A'.length ≤ 1000 ∧ ∀ H', Same H H' → Q (.bl true) H'
theorem ok_is_way (T : Tx K mg) : FnOk P w K mg base CX0 6 T.is_way.f T.is_way.fd ["evening", "thing"] (sp_is_way T) := by
  have G_gone := ok_gone (P := P) (w := w) (base := base) T
  have G_all_quits := ok_all_quits (P := P) (w := w) (base := base) T
  refine T.is_way.F.ok sc_is_way (fun vs H Q E h => ?_) (fun cdv A outer s H vs Q E hr h => ?_)
  · obtain ⟨e, a, us, ws, A, B, A', B', p, q, rfl, _⟩ := h
    rfl
  · obtain ⟨e, a, us, ws, a0, b0, a1, b1, p, q, rfl, hE, U, mA, mB, ha, hf, hp, hl, h0, h1, k⟩ := h
    refine ⟨_, (pss_cons (ps_set (i := 2) sc_is_way.nd rfl (Or.inl rfl) (pe_call G_gone (hr.mono (by decide)) (by rfl) T.gone.g T.gone.kp T.gone.b .nil pass0 (pa_cons (pv 0) (pa_cons (pv 1) pa_nil))))
      (pss_one (ps_ret (pe_and (pe_cmpR op_notN (pv 2) pe_non (nomark _)) (pe_one (pe_meth0 (pe_ix (r := rIxT K) ix_tup (pv 2) pe_int (fun _ _ => rfl)) T.clS T.all_quits.m G_all_quits (hr.mono (by decide)) T.all_quits.b .nil pass0)))))), ?_⟩
    refine ⟨_, rfl, _, rfl, e, a, us, ws, a0, b0, a1, b1, p, q, rfl, hE, U, mA, mB, ha, hf, hp, hl, fun H1 st S z y sm hz SA => ?_⟩
    refine ⟨_, rfl, rfl, _, rfl, iteT ?_⟩
    exact ⟨_, rfl, z, _, 0, _, rfl, rfl, SqT.of hz, at_nat (by decide) rfl, st, S.dx, _, rfl, SA.obj, stF_no _ _ sta1 sta2, st, S, a1, b1, p, q, rfl, SA, U, h0, h1, fun H' s' => k H' (sm.trans s')⟩
end
end Qw
set_option Elab.async false
set_option maxRecDepth 100000
set_option linter.all false
set_option maxHeartbeats 4000000
/-! QW9: the law's dice, what it draws. -/
namespace Qw
open PySem PySem.Spec PyProof.Rows L2
/-- what a statement leaves, said once -/
theorem seq_by {t u : TS} {D : Ends} {σ : L2.St} {H : Hp} (Pv : L2.St → Hp → Prop) (h1 : ∀ N : L2.St → Hp → Prop, (∀ σ H, Pv σ H → N σ H) → t { D with nx := N } σ H) (h2 : ∀ σ H, Pv σ H → u D σ H) : tSeq t u D σ H := h1 _ h2
/-- the dice stand at d, their cells at c -/
def DiceAt (H : Hp) (d c : Addr) : Prop := ∃ (cells : List Int) (i j z t : Int), H d = some (.lst [.ref c, .int i, .int j, .int z, .int t]) ∧ H c = some (.lst (cells.map V.int)) ∧ (∀ x ∈ cells, 0 ≤ x) ∧ 0 ≤ i ∧ 0 ≤ j ∧ 0 ≤ z ∧ z < 2147483647
theorem DiceAt.same {H H' : Hp} {d c : Addr} (s : Same H H') (h : DiceAt H d c) : DiceAt H' d c := by
  obtain ⟨cells, i, j, z, t, h1, h2, h3⟩ := h
  exact ⟨cells, i, j, z, t, s _ _ h1, s _ _ h2, h3⟩
theorem DiceAt.keep {ps : List Addr} {H H' : Hp} {d c : Addr} (s : Keep ps H H') (n1 : d ∉ ps) (n2 : c ∉ ps) (h : DiceAt H d c) : DiceAt H' d c := by
  obtain ⟨cells, i, j, z, t, h1, h2, h3⟩ := h
  exact ⟨cells, i, j, z, t, s _ _ h1 n1, s _ _ h2 n2, h3⟩
theorem DiceAt.ne {H : Hp} {d c a : Addr} (h : DiceAt H d c) (e : H a = none) : d ≠ a ∧ c ≠ a := by
  obtain ⟨cells, i, j, z, t, h1, h2, h3⟩ := h
  exact ⟨ne_of_none h1 e, ne_of_none h2 e⟩
theorem DiceAt.mut {H : Hp} {d c : Addr} (h : DiceAt H d c) : Mu [d] H := fun b hb => by
  obtain ⟨cells, i, j, z, t, h1, h2, h3⟩ := h
  rw [List.mem_singleton.mp hb, h1]
  trivial
theorem DiceAt.dc {H : Hp} {d c : Addr} (h : DiceAt H d c) : c ≠ d := by
  obtain ⟨cells, i, j, z, t, h1, h2, h3⟩ := h
  rintro rfl
  rw [h1] at h2
  have := Option.some.inj h2
  injection this with this
  cases cells with
  | nil => cases this
  | cons x xs =>
    rw [List.map_cons] at this
    injection this with this
    cases this
section
variable {P : Program} {w : World} {K : PySem.W.Frag} {mg : Str → Option Value} {base : Heap}
theorem fm_pos {i j : Int} (h : 0 < j) : 0 ≤ i.fmod j ∧ i.fmod j < j := by
  rw [Int.fmod_eq_emod_of_nonneg _ (Int.le_of_lt h)]
  exact ⟨Int.emod_nonneg _ (by omega), Int.emod_lt_of_pos _ h⟩
theorem fd_pos {i j : Int} (h : 0 < j) (hi : 0 ≤ i) : 0 ≤ i.fdiv j := by
  rw [Int.fdiv_eq_ediv_of_nonneg _ (Int.le_of_lt h)]
  exact Int.ediv_nonneg hi (Int.le_of_lt h)
def sp_law_dice (K : PySem.W.Frag) : Sp := fun vs H Q _ => ∃ (a : Addr) (ns : List Int), vs = [.ref a] ∧ SqL K H a (ns.map V.int) ∧ ∀ H' d c, Same H H' → DiceAt H' d c → Q (.ref d) H'
theorem take_ints (ns : List Int) (n : Nat) : cutV (ns.map V.int) none (some (n : Int)) = (ns.take n).map V.int := by rw [cut_to, List.map_take]
theorem ok_law_dice (T : Tx K mg) : FnOk P w K mg base CX0 1 T.law_dice.f T.law_dice.fd ["_law_script"] (sp_law_dice K) := by
  refine T.law_dice.F.ok sc_law_dice (fun vs H Q E h => ?_) (fun cdv A outer s H vs Q E hr h => ?_)
  · obtain ⟨a, ns, rfl, _⟩ := h
    rfl
  · obtain ⟨a, ns, rfl, ha, k⟩ := h
    refine ⟨_, (pss_one (ps_ret (pe_lst (pa_cons (pe_lc (own := [("_law_cell", 1)]) (g := gName 1) (tt := tYes) (by rfl) sc_law_dice.nd (pi_list (pe_slice sl_list (pv 0) po_none (po_some pe_int))) (blkOk_by (own := [("_law_cell", 1)]) (N := ["_law_script", "_law_cell"]) (sc := defScope s_law_dice) (by decide +kernel)) (fun _ _ _ _ _ => pg_name (i := 1) sc_law_dice.nd rfl (Or.inl rfl)) (fun _ _ _ _ _ => pts_nil) (fun _ _ _ _ _ => (pe_callB call_abs (by rfl) T.z_abs (by decide +kernel) (pa_cons (pe_callTy call_int1 (by rfl) T.z_int (by decide +kernel) (pa_cons (pv 1) pa_nil)) pa_nil)))) (pa_cons pe_int (pa_cons pe_int (pa_cons pe_int (pa_cons pe_int pa_nil)))))))), ?_⟩
    refine ⟨_, rfl, _, rfl, a, _, rfl, ha, fun b hb => ?_⟩
    rw [show cutV (ns.map V.int) none (some 63) = (ns.take 63).map V.int from take_ints ns 63]
    have s1 := same_new (o := .lst ((ns.take 63).map V.int)) hb
    refine ⟨b, rfl, ⟨_, SqL.of upd_same⟩, fun D hD => lc_list (K := K) (a := b) (xs := (ns.take 63).map V.int) (fun i H' => Same (upd H b (.lst ((ns.take 63).map V.int))) H' ∧ H' D = some (.lst ((((ns.take 63).take i).map fun x : Int => if x < 0 then -x else x).map V.int))) ⟨same_new hD, upd_same⟩ (fun i H' _ ⟨s, _⟩ => SqL.of (s _ _ upd_same)) ?_ ?_⟩
    · rintro i y H' hi ⟨s, hd⟩
      obtain ⟨x, hx, rfl⟩ := map_nth hi
      have ilt := lt_of_at hx
      have l63 : (ns.take 63).length ≤ 63 := List.length_take_le _ _
      refine ⟨rfl, _, rfl, .inl ⟨_, rfl, _, rfl, _, hd, ?_, ?_, ?_⟩⟩
      · rw [List.length_map, List.length_map, List.length_take]
        exact sz' (by omega)
      · intro c u e
        have nc : c ≠ D := ne_of_none e hD
        rw [upd_ne nc]
        exact s c u e
      · rw [upd_same, take_snoc hx, List.map_append, List.map_append]
        rfl
    · rintro H' ⟨s, hd⟩
      rw [List.length_map, List.take_length] at hd
      refine ⟨Qw.s5, fun d hd' => ?_⟩
      have s2 := same_new (o := .lst [.ref D, .int 0, .int 0, .int 1, .int 0]) hd'
      refine k _ d D ((s1.trans s).trans s2) ⟨_, 0, 0, 1, 0, upd_same, s2 _ _ hd, ?_, by omega, by omega, by omega, by omega⟩
      intro x hx
      obtain ⟨y, _, rfl⟩ := List.mem_map.mp hx
      split <;> omega
theorem ne7 : (2147483647 : Int) ≠ 0 := by decide
theorem ne8 : (2147483399 : Int) ≠ 0 := by decide
theorem ne9 : (2147483563 : Int) ≠ 0 := by decide
theorem dv1 {i : Int} : CDivN i 1009 := ⟨by decide, by decide⟩
theorem dv2 {i : Int} : CDivN i 2003 := ⟨by decide, by decide⟩
theorem dv3 {i : Int} : CDivN i 16 := ⟨by decide, by decide⟩
def sp_law_draw : Sp := fun vs H Q _ => ∃ (d c : Addr) (n : Int), vs = [.ref d, .int n] ∧ DiceAt H d c ∧ 0 < n ∧ n ≤ 1000 ∧ ∀ H' r, Keep [d] H H' → DiceAt H' d c → 0 ≤ r → r < n → Q (.int r) H'
theorem ok_law_draw (T : Tx K mg) : FnOk P w K mg base CX0 1 T.law_draw.f T.law_draw.fd ["_law_dice_here", "_law_sides"] sp_law_draw := by
  refine T.law_draw.F.ok sc_law_draw (fun vs H Q E h => ?_) (fun cdv A outer s H vs Q E hr h => ?_)
  · obtain ⟨d, c, n, rfl, _⟩ := h
    rfl
  · obtain ⟨d, c, n, rfl, hD, hn, hn2, k⟩ := h
    have dc := hD.dc
    obtain ⟨cells, i, j, z, t, hd, hc, hp, hi, hj, hz, hz2⟩ := hD
    refine ⟨_, (pss_cons (ps_if ((pw_and (pt_cmpR op_eq (pe_ix (r := rIxL K) ix_list (pv 0) pe_int (fun _ _ => rfl)) pe_int (nomark _)) (pw_and1 (pt_cmpR op_lt (pe_ix (r := rIxL K) ix_list (pv 0) pe_int (fun _ _ => rfl)) (pe_callB (r := rLenK K) call_len_seq (by rfl) T.z_len (by decide +kernel) (pa_cons (pe_ix (r := rIxL K) ix_list (pv 0) pe_int (fun _ _ => rfl)) pa_nil)) (nomark _))))).pt (pss_cons (ps_set (i := 2) sc_law_draw.nd rfl (Or.inl rfl) (pe_ix (r := rIxL K) ix_list (pe_ix (r := rIxL K) ix_list (pv 0) pe_int (fun _ _ => rfl)) (pe_ix (r := rIxL K) ix_list (pv 0) pe_int (fun _ _ => rfl)) (fun _ _ => rfl)))
      (pss_cons (ps_asg (pe_op op_add (pe_ix (r := rIxL K) ix_list (pv 0) pe_int (fun _ _ => rfl)) pe_int) (pg_sub (pv 0) pe_int set_list))
      (pss_one (ps_if (pt_cmpR op_ge (pv 2) (pe_op op_pow pe_int pe_int) (nomark _)) (pss_one (ps_asg (pv 2) (pg_sub (pv 0) pe_int set_list))) (pss_one (ps_asg (pe_op op_modN (pe_callTy call_int1 (by rfl) T.z_int (by decide +kernel) (pa_cons (pe_op op_add (pe_op op_add (pe_op op_mul (pe_ix (r := rIxL K) ix_list (pv 0) pe_int (fun _ _ => rfl)) pe_int) (pe_op op_mul (pv 2) pe_int)) (pe_ix (r := rIxL K) ix_list (pv 0) pe_int (fun _ _ => rfl))) pa_nil)) pe_int) (pg_sub (pv 0) pe_int set_list))))))) pss_nil)
      (pss_cons (ps_if (pt_cmpR op_gt (pe_ix (r := rIxL K) ix_list (pv 0) pe_int (fun _ _ => rfl)) pe_int (nomark _)) (pss_cons (ps_set (i := 3) sc_law_draw.nd rfl (Or.inl rfl) (pe_op op_modN (pe_callTy call_int1 (by rfl) T.z_int (by decide +kernel) (pa_cons (pe_ix (r := rIxL K) ix_list (pv 0) pe_int (fun _ _ => rfl)) pa_nil)) (pv 1)))
      (pss_cons (ps_asg (pe_op op_fdivN (pe_callTy call_int1 (by rfl) T.z_int (by decide +kernel) (pa_cons (pe_ix (r := rIxL K) ix_list (pv 0) pe_int (fun _ _ => rfl)) pa_nil)) (pv 1)) (pg_sub (pv 0) pe_int set_list))
      (pss_one (ps_ret (pv 3))))) pss_nil)
      (pss_cons (ps_asg (pe_op op_add (pe_ix (r := rIxL K) ix_list (pv 0) pe_int (fun _ _ => rfl)) pe_int) (pg_sub (pv 0) pe_int set_list))
      (pss_cons (ps_asg (pe_op op_modN (pe_callTy call_int1 (by rfl) T.z_int (by decide +kernel) (pa_cons (pe_op op_add (pe_op op_add (pe_op op_mul (pe_ix (r := rIxL K) ix_list (pv 0) pe_int (fun _ _ => rfl)) pe_int) (pe_op op_mul (pe_ix (r := rIxL K) ix_list (pv 0) pe_int (fun _ _ => rfl)) pe_int)) pe_int) pa_nil)) pe_int) (pg_sub (pv 0) pe_int set_list))
      (pss_cons (ps_set (i := 4) sc_law_draw.nd rfl (Or.inl rfl) (pe_op op_modN (pe_callTy call_int1 (by rfl) T.z_int (by decide +kernel) (pa_cons (pe_op op_mul (pe_ix (r := rIxL K) ix_list (pv 0) pe_int (fun _ _ => rfl)) (pe_op op_add (pe_op op_fdivN (pe_ix (r := rIxL K) ix_list (pv 0) pe_int (fun _ _ => rfl)) pe_int) pe_int)) pa_nil)) pe_int))
      (pss_cons (ps_set (i := 4) sc_law_draw.nd rfl (Or.inl rfl) (pe_op op_modN (pe_callTy call_int1 (by rfl) T.z_int (by decide +kernel) (pa_cons (pe_op op_mul (pv 4) (pe_op op_add (pe_op op_fdivN (pv 4) pe_int) pe_int)) pa_nil)) pe_int))
      (pss_one (ps_ret (pe_op op_modN (pe_callTy call_int1 (by rfl) T.z_int (by decide +kernel) (pa_cons (pe_op op_fdivN (pv 4) pe_int) pa_nil)) (pv 1)))))))))), ?_⟩
    refine seq_by (fun σ H' => ∃ (x2 : Option V) (i j z : Int), σ = [some (.ref d), some (.int n), x2, none, none] ∧ Keep [d] H H' ∧ H' d = some (.lst [.ref c, .int i, .int j, .int z, .int t]) ∧ 0 ≤ i ∧ 0 ≤ j ∧ 0 ≤ z ∧ z < 2147483647) (fun N hN => ?_) ?_
    · refine ⟨_, rfl, d, _, _, _, rfl, rfl, SqL.of hd, rfl, rfl, _, rfl, ?_⟩
      refine ite2 (fun c1 => ?_) (fun c1 => iteF (hN _ _ ⟨none, i, j, z, rfl, Keep.refl _ _, hd, hi, hj, hz, hz2⟩))
      refine ⟨_, rfl, d, _, _, _, rfl, rfl, SqL.of hd, rfl, _, rfl, d, _, _, _, rfl, rfl, SqL.of hd, rfl, c, _, rfl, .inl (SqL.of hc), _, _, rfl, rfl, _, rfl, ?_⟩
      refine ite2 (fun c2 => ?_) (fun c2 => hN _ _ ⟨none, i, j, z, rfl, Keep.refl _ _, hd, hi, hj, hz, hz2⟩)
      have c3 : i < cells.length := by
        have := of_decide_eq_true c2
        rw [List.length_map] at this
        exact this
      have hx : cells[i.toNat]? = some (cells.getD i.toNat 0) := getD_at (by omega)
      have x0 := hp _ (List.mem_of_getElem? hx)
      generalize cells.getD i.toNat 0 = x at hx x0
      refine ⟨_, rfl, d, _, _, _, rfl, rfl, SqL.of hd, rfl, _, rfl, d, _, _, _, rfl, rfl, SqL.of hd, rfl, c, _, i, .int x, rfl, rfl, SqL.of hc, at_nat hi (by rw [List.getElem?_map, hx]; rfl), ?_⟩
      refine ⟨_, rfl, d, _, _, _, rfl, rfl, SqL.of hd, rfl, _, _, rfl, rfl, _, rfl, d, _, 1, 1, rfl, rfl, hd, rfl, ?_⟩
      have e1 : (upd H d (.lst [.ref c, .int (i + 1), .int j, .int z, .int t])) d = some (.lst [.ref c, .int (i + 1), .int j, .int z, .int t]) := upd_same
      have k1 : Keep [d] H (upd H d (.lst [.ref c, .int (i + 1), .int j, .int z, .int t])) := (Keep.refl _ _).upd (List.mem_singleton.mpr rfl)
      refine ⟨_, rfl, 10, 18, rfl, rfl, ⟨by decide, by decide, by decide⟩, _, _, rfl, rfl, _, rfl, ?_⟩
      refine ite2 (fun c4 => ?_) (fun c4 => ?_)
      · refine ⟨_, rfl, _, rfl, d, _, 2, 2, rfl, rfl, e1, rfl, hN _ _ ⟨some (.int x), i + 1, x, z, rfl, k1.upd (List.mem_singleton.mpr rfl), upd_same, by omega, x0, hz, hz2⟩⟩
      · have x1 : x < 1000000000000000000 := by
          have h : ¬ ((10 : Int) ^ (18 : Int).toNat ≤ x) := fun z => c4 (decide_eq_true z)
          have e : (10 : Int) ^ (18 : Int).toNat = 1000000000000000000 := by decide
          rw [e] at h
          omega
        refine ⟨_, rfl, d, _, _, _, rfl, rfl, SqL.of e1, rfl, _, _, rfl, rfl, .inr ⟨by decide, by decide⟩, _, rfl, _, _, rfl, rfl, .inr ⟨by decide, by decide⟩, _, _, rfl, rfl, _, rfl, d, _, _, _, rfl, rfl, SqL.of e1, rfl, _, _, rfl, rfl, .inl ⟨_, rfl, _, _, rfl, rfl, ne7, _, rfl, d, _, 3, 3, rfl, rfl, e1, rfl, ?_⟩⟩
        have f := fm_pos (i := z * 69621 + x * 40692 + (i + 1)) (j := 2147483647) (by decide)
        exact hN _ _ ⟨some (.int x), i + 1, j, _, rfl, k1.upd (List.mem_singleton.mpr rfl), upd_same, by omega, hj, f.1, f.2⟩
    · rintro σ H1 ⟨x2, i, j, z, rfl, kp, hd, hi, hj, hz, hz2⟩
      have hc1 : H1 c = some (.lst (cells.map V.int)) := kp _ _ hc (fun z => dc (List.mem_singleton.mp z))
      have hcu : ∀ {o}, (upd H1 d o) c = some (.lst (cells.map V.int)) := by
        intro o
        rw [upd_ne dc]
        exact hc1
      have dm : d ∈ [d] := List.mem_singleton.mpr rfl
      refine seq_by (fun σ H' => σ = [some (.ref d), some (.int n), x2, none, none] ∧ H' = H1) (fun N hN => ?_) ?_
      · refine ⟨_, rfl, d, _, _, _, rfl, rfl, SqL.of hd, rfl, _, _, rfl, rfl, _, rfl, ?_⟩
        refine ite2 (fun c1 => ?_) (fun c1 => hN _ _ ⟨rfl, rfl⟩)
        refine ⟨_, rfl, d, _, _, _, rfl, rfl, SqL.of hd, rfl, .inl ⟨_, rfl, _, rfl, _, _, rfl, rfl, by omega, ?_⟩⟩
        refine ⟨_, rfl, d, _, _, _, rfl, rfl, SqL.of hd, rfl, .inl ⟨_, rfl, _, rfl, _, _, rfl, rfl, ⟨by omega, by omega⟩, _, rfl, d, _, 2, 2, rfl, rfl, hd, rfl, ?_⟩⟩
        have f := fm_pos (i := j) hn
        exact ⟨_, rfl, k _ _ (kp.upd dm) ⟨cells, i, _, z, t, upd_same, hcu, hp, hi, fd_pos hn hj, hz, hz2⟩ f.1 f.2⟩
      · rintro σ H2 ⟨rfl, rfl⟩
        refine ⟨_, rfl, d, _, _, _, rfl, rfl, SqL.of hd, rfl, _, _, rfl, rfl, _, rfl, d, _, 4, 4, rfl, rfl, hd, rfl, ?_⟩
        have e1 : (upd H2 d (.lst [.ref c, .int i, .int j, .int z, .int (t + 1)])) d = some (.lst [.ref c, .int i, .int j, .int z, .int (t + 1)]) := upd_same
        refine ⟨_, rfl, d, _, _, _, rfl, rfl, SqL.of e1, rfl, _, _, rfl, rfl, .inr ⟨by decide, by decide⟩, _, rfl, d, _, _, _, rfl, rfl, SqL.of e1, rfl, _, _, rfl, rfl, .inr ⟨by decide, by decide⟩, _, _, rfl, rfl, _, _, rfl, rfl, .inl ⟨_, rfl, _, _, rfl, rfl, ne7, _, rfl, d, _, 3, 3, rfl, rfl, e1, rfl, ?_⟩⟩
        have f := fm_pos (i := z * 48271 + (t + 1) * 7919 + 1) (j := 2147483647) (by decide)
        have hd2 : (upd (upd H2 d (.lst [.ref c, .int i, .int j, .int z, .int (t + 1)])) d (.lst [.ref c, .int i, .int j, .int ((z * 48271 + (t + 1) * 7919 + 1).fmod 2147483647), .int (t + 1)])) d = some (.lst [.ref c, .int i, .int j, .int ((z * 48271 + (t + 1) * 7919 + 1).fmod 2147483647), .int (t + 1)]) := upd_same
        have kk : Keep [d] H (upd (upd H2 d (.lst [.ref c, .int i, .int j, .int z, .int (t + 1)])) d (.lst [.ref c, .int i, .int j, .int ((z * 48271 + (t + 1) * 7919 + 1).fmod 2147483647), .int (t + 1)])) := (kp.upd dm).upd dm
        refine ⟨_, rfl, d, _, _, _, rfl, rfl, SqL.of hd2, rfl, _, rfl, d, _, _, _, rfl, rfl, SqL.of hd2, rfl, ?_⟩
        refine ⟨_, _, rfl, rfl, dv1, _, _, rfl, rfl, _, _, rfl, rfl, .inl ⟨by omega, by omega⟩, .inl ⟨_, rfl, _, _, rfl, rfl, ne8, ?_⟩⟩
        have f2 := fm_pos (i := (z * 48271 + (t + 1) * 7919 + 1).fmod 2147483647 * (((z * 48271 + (t + 1) * 7919 + 1).fmod 2147483647).fdiv 1009 + 69623)) (j := 2147483399) (by decide)
        refine ⟨_, rfl, _, rfl, _, _, rfl, rfl, dv2, _, _, rfl, rfl, _, _, rfl, rfl, .inl ⟨by omega, by omega⟩, .inl ⟨_, rfl, _, _, rfl, rfl, ne9, ?_⟩⟩
        refine ⟨_, rfl, _, _, rfl, rfl, dv3, .inl ⟨_, rfl, _, rfl, _, _, rfl, rfl, by omega, ?_⟩⟩
        refine k _ _ kk ⟨cells, i, j, _, t + 1, hd2, by rw [upd_ne dc]; exact hcu, hp, hi, hj, f.1, f.2⟩ (fm_pos hn).1 (fm_pos hn).2
end
end Qw
set_option Elab.async false
set_option maxRecDepth 100000
set_option linter.all false
set_option maxHeartbeats 4000000
/-! QWA: the law's helpers: flag, divisor, amount, unit, sums, made, shuffled. -/
namespace Qw
open PySem PySem.Spec PyProof.Rows L2
theorem pe_bmK {X : Cx} {K : PySem.W.Frag} (hK : X.K = K) {o e : Expr} {es : List Expr} {to : TE} {t : TA} {name : Str} {apos cpos : Pos} {T id : String} {r : V → List V → Hp → VK → Prop} (pa : PlainAttrs T) (slot : Slot T name id) (hty : typeOf (.builtin id) = pure (.type "method_descriptor")) (hm : MtR X id r) (ho : PE X o to) (ha : PA X (e :: es) t)
    (hbase : attributeBase o name X.env (eval o X.env) = eval o X.env := by rfl)
    (hfew : ((backTo cpos (starEach (e :: es) X.env)).all (fun x => !x.1) && (backToKw cpos (keywordEach [] X.env)).all (fun x => x.1.isSome)
      && decide ((e :: es).length + ([] : List Keyword).length + (if ([] : List Keyword).isEmpty then 0 else 1) < 30)) = true := by rfl)
    (hline : (apos.endLine == cpos.line) = true := by rfl) (hs : starEach (e :: es) X.env = (false, eval e X.env) :: starEach es X.env := by rfl) (hplain : (backTo cpos (starEach es X.env)).any (·.1) = false := by rfl) :
    PE X (.Call (.Attribute o name apos) (e :: es) [] cpos) (tBM K T r to t) := by
  subst hK
  exact pe_bm pa slot hty hm ho ha hbase hfew hline hs hplain
section
variable {P : Program} {w : World} {K : PySem.W.Frag} {mg : Str → Option Value} {base : Heap}
def sp_law_flag : Sp := fun vs H Q _ => vs = [.bl true, .bl true] ∧ Q (.bl true) H
theorem ok_law_flag (T : Tx K mg) : FnOk P w K mg base CX0 1 T.law_flag.f T.law_flag.fd ["_law_told", "_law_due"] sp_law_flag := by
  refine T.law_flag.F.ok sc_law_flag (fun vs H Q E h => ?_) (fun cdv A outer s H vs Q E hr h => ?_)
  · obtain ⟨rfl, _⟩ := h
    rfl
  · obtain ⟨rfl, k⟩ := h
    refine ⟨_, (pss_one (ps_ret (pe_and (pe_callB (r := rIsi K) call_isi (by rfl) T.z_isinstance (by decide +kernel) (pa_cons (pv 0) (pa_cons (pe_bltn (v := .ty "bool") (by rfl) T.z_bool (by decide +kernel) rfl) pa_nil))) (pe_one (pe_cmpR op_eq (pv 0) (pv 1) (nomark _)))))), ?_⟩
    exact ⟨_, rfl, .bl true, .ty "bool", .type "bool", .type "bool", true, rfl, .ty _, ty_bl, kit_ty (by decide +kernel), _, rfl, iteT ⟨_, rfl, _, rfl, rfl, k⟩⟩
def sp_law_divisor : Sp := fun vs H Q _ => ∃ a b : Int, vs = [.int a, .int b] ∧ 0 ≤ a ∧ 0 ≤ b ∧ b < 400 ∧ Q (.int (gz a b)) H
theorem ok_law_divisor (T : Tx K mg) : FnOk P w K mg base CX0 1 T.law_divisor.f T.law_divisor.fd ["_law_one", "_law_other"] sp_law_divisor := by
  refine T.law_divisor.F.ok sc_law_divisor (fun vs H Q E h => ?_) (fun cdv A outer s H vs Q E hr h => ?_)
  · obtain ⟨a, b, rfl, _⟩ := h
    rfl
  · obtain ⟨a, b, rfl, ha, hb, hb2, k⟩ := h
    refine ⟨_, (pss_cons (ps_for PassesOwn.never rfl (pi_range1 rfl T.z_range (pa_cons pe_int pa_nil)) (pg_name (i := 2) sc_law_divisor.nd rfl (Or.inl rfl)) (pss_cons (ps_if (pt_cmpR op_eq (pv 1) pe_int (nomark _)) (pss_one (ps_ret (pv 0))) pss_nil)
      (pss_one (ps_par (i := 0) (j := 1) (by rfl) sc_law_divisor.nd rfl rfl (by decide) rfl rfl (pa_cons (pv 1) (pa_cons (pe_op op_modN (pe_callTy call_int1 (by rfl) T.z_int (by decide +kernel) (pa_cons (pv 0) pa_nil)) (pv 1)) pa_nil)) (by rfl)))))
      (pss_one (ps_ret (pv 0)))), ?_⟩
    refine ⟨400, rfl, by omega, by omega, for_range (lo := 0) (n := 400) (fun i σ H' => ∃ (x y : Int) (z : Option V), σ = [some (.int x), some (.int y), z] ∧ H' = H ∧ 0 ≤ x ∧ 0 ≤ y ∧ gz x y = gz a b ∧ y + i < 400) ⟨a, b, none, rfl, rfl, ha, hb, rfl, by omega⟩ ?_ ?_⟩
    · rintro i σ H' hi ⟨x, y, z, rfl, rfl, hx, hy, hg, hl⟩
      refine ⟨_, rfl, rfl, _, rfl, ?_⟩
      refine ite2 (fun c => ?_) (fun c => ?_)
      · have e : y = 0 := V.int.inj (of_decide_eq_true c)
        subst e
        have e2 : gz x 0 = x := by
          unfold gz
          rw [Int.gcd_zero_right]
          omega
        rw [← hg, e2] at k
        exact ⟨_, rfl, k⟩
      · have hy0 : y ≠ 0 := fun z => c (by rw [z]; rfl)
        have f := fm_pos (i := x) (j := y) (by omega)
        refine ⟨_, rfl, _, rfl, .inl ⟨_, rfl, _, rfl, _, _, rfl, rfl, hy0, ?_⟩⟩
        refine ⟨_, _, rfl, _, _, _, rfl, rfl, hy, f.1, (gz_step hx (by omega)).trans hg, ?_⟩
        have := f.2
        omega
    · rintro σ H' ⟨x, y, z, rfl, rfl, hx, hy, hg, hl⟩
      omega
theorem fd_mk {t b : Int} (hb : 0 < b) : (t.fdiv (gz t b), b.fdiv (gz t b)) = mk t b := by
  have g := gz_pos (a := t) hb
  rw [Int.fdiv_eq_ediv_of_nonneg _ (Int.le_of_lt g), Int.fdiv_eq_ediv_of_nonneg _ (Int.le_of_lt g)]
  rfl
def sp_law_amount : Sp := fun vs H Q _ => ∃ t b : Int, vs = [.int t, .int b] ∧ 0 ≤ t ∧ 0 < b ∧ b < 400 ∧ rNew H Q (mk t b)
theorem ok_law_amount (T : Tx K mg) : FnOk P w K mg base CX0 2 T.law_amount.f T.law_amount.fd ["_law_top", "_law_bottom"] sp_law_amount := by
  have G_law_divisor := ok_law_divisor (P := P) (w := w) (base := base) T
  refine T.law_amount.F.ok sc_law_amount (fun vs H Q E h => ?_) (fun cdv A outer s H vs Q E hr h => ?_)
  · obtain ⟨t, b, rfl, _⟩ := h
    rfl
  · obtain ⟨t, b, rfl, ht, hb, hb2, k⟩ := h
    refine ⟨_, (pss_cons (ps_set (i := 2) sc_law_amount.nd rfl (Or.inl rfl) (pe_call G_law_divisor (hr.mono (by decide)) (by rfl) T.law_divisor.g T.law_divisor.kp T.law_divisor.b .nil pass0 (pa_cons (pv 0) (pa_cons (pv 1) pa_nil))))
      (pss_one (ps_ret (pe_tup (pa_cons (pe_op op_fdivN (pv 0) (pv 2)) (pa_cons (pe_op op_fdivN (pv 1) (pv 2)) pa_nil)))))), ?_⟩
    have g := gz_pos (a := t) hb
    have g2 := gz_le (a := t) hb
    refine ⟨_, rfl, _, rfl, t, b, rfl, ht, by omega, hb2, ?_⟩
    refine ⟨_, rfl, _, rfl, _, _, rfl, rfl, ⟨by omega, by omega⟩, _, rfl, _, rfl, _, _, rfl, rfl, ⟨by omega, by omega⟩, Qw.s2, fun q hq => ?_⟩
    have := k q hq
    rw [← fd_mk hb] at this
    exact this
theorem upd_at {H : Hp} {p : Addr} {o : HO} (h : H p = none) : upd H p o p = some o := upd_same
theorem six_unit {r : Int} (h0 : 0 ≤ r) (h1 : r < 6) {H : Hp} {K : PySem.W.Frag} {p1 p2 p3 p4 p5 p6 : Addr} (a1 : At2 K H p1 (1, 1)) (a2 : At2 K H p2 (1, 1)) (a3 : At2 K H p3 (1, 2)) (a4 : At2 K H p4 (5, 3)) (a5 : At2 K H p5 (7, 1)) (a6 : At2 K H p6 (10, 9)) :
    ∃ u p q, atI [V.ref p1, .ref p2, .ref p3, .ref p4, .ref p5, .ref p6] r = some (.ref u) ∧ At2 K H u (p, q) ∧ Unit' p q := by
  have : r = 0 ∨ r = 1 ∨ r = 2 ∨ r = 3 ∨ r = 4 ∨ r = 5 := by omega
  rcases this with rfl | rfl | rfl | rfl | rfl | rfl
  · exact ⟨p1, 1, 1, rfl, a1, by decide, by decide, by decide, by decide⟩
  · exact ⟨p2, 1, 1, rfl, a2, by decide, by decide, by decide, by decide⟩
  · exact ⟨p3, 1, 2, rfl, a3, by decide, by decide, by decide, by decide⟩
  · exact ⟨p4, 5, 3, rfl, a4, by decide, by decide, by decide, by decide⟩
  · exact ⟨p5, 7, 1, rfl, a5, by decide, by decide, by decide, by decide⟩
  · exact ⟨p6, 10, 9, rfl, a6, by decide, by decide, by decide, by decide⟩
def sp_law_unit (K : PySem.W.Frag) : Sp := fun vs H Q _ => ∃ d c : Addr, vs = [.ref d] ∧ DiceAt H d c ∧ ∀ H' u p q, Keep [d] H H' → DiceAt H' d c → At2 K H' u (p, q) → Unit' p q → Q (.ref u) H'
theorem ok_law_unit (T : Tx K mg) : FnOk P w K mg base CX0 2 T.law_unit.f T.law_unit.fd ["_law_dice_here"] (sp_law_unit K) := by
  have G_law_draw := ok_law_draw (P := P) (w := w) (base := base) T
  refine T.law_unit.F.ok sc_law_unit (fun vs H Q E h => ?_) (fun cdv A outer s H vs Q E hr h => ?_)
  · obtain ⟨d, c, rfl, _⟩ := h
    rfl
  · obtain ⟨d, c, rfl, hD, k⟩ := h
    refine ⟨_, (pss_one (ps_ret (pe_ix (r := rIxL K) ix_list (pe_lst (pa_cons (pe_tup (pa_cons pe_int (pa_cons pe_int pa_nil))) (pa_cons (pe_tup (pa_cons pe_int (pa_cons pe_int pa_nil))) (pa_cons (pe_tup (pa_cons pe_int (pa_cons pe_int pa_nil))) (pa_cons (pe_tup (pa_cons pe_int (pa_cons pe_int pa_nil))) (pa_cons (pe_tup (pa_cons pe_int (pa_cons pe_int pa_nil))) (pa_cons (pe_tup (pa_cons pe_int (pa_cons pe_int pa_nil))) pa_nil))))))) (pe_call G_law_draw (hr.mono (by decide)) (by rfl) T.law_draw.g T.law_draw.kp T.law_draw.b .nil pass0 (pa_cons (pv 0) (pa_cons pe_int pa_nil))) (fun _ _ => rfl)))), ?_⟩
    refine ⟨Qw.s2, fun p1 h1 => ⟨Qw.s2, fun p2 h2 => ⟨Qw.s2, fun p3 h3 => ⟨Qw.s2, fun p4 h4 => ⟨Qw.s2, fun p5 h5 => ⟨Qw.s2, fun p6 h6 => ⟨sz (by show 6 ≤ 1000000; decide), fun l hl => ?_⟩⟩⟩⟩⟩⟩⟩
    have m1 := same_new (o := .tup [.int 1, .int 1]) h1
    have m2 := same_new (o := .tup [.int 1, .int 1]) h2
    have m3 := same_new (o := .tup [.int 1, .int 2]) h3
    have m4 := same_new (o := .tup [.int 5, .int 3]) h4
    have m5 := same_new (o := .tup [.int 7, .int 1]) h5
    have m6 := same_new (o := .tup [.int 10, .int 9]) h6
    have m7 := same_new (o := .lst [.ref p1, .ref p2, .ref p3, .ref p4, .ref p5, .ref p6]) hl
    have sm := (((((m1.trans m2).trans m3).trans m4).trans m5).trans m6).trans m7
    have t6 := m7 _ _ (upd_at (o := .tup [.int 10, .int 9]) h6)
    have t5 := m7 _ _ (m6 _ _ (upd_at (o := .tup [.int 7, .int 1]) h5))
    have t4 := m7 _ _ (m6 _ _ (m5 _ _ (upd_at (o := .tup [.int 5, .int 3]) h4)))
    have t3 := m7 _ _ (m6 _ _ (m5 _ _ (m4 _ _ (upd_at (o := .tup [.int 1, .int 2]) h3))))
    have t2 := m7 _ _ (m6 _ _ (m5 _ _ (m4 _ _ (m3 _ _ (upd_at (o := .tup [.int 1, .int 1]) h2)))))
    have t1 := m7 _ _ (m6 _ _ (m5 _ _ (m4 _ _ (m3 _ _ (m2 _ _ (upd_at (o := .tup [.int 1, .int 1]) h1))))))
    have hD1 := hD.same sm
    have ndl : d ≠ l := by
      obtain ⟨cells, i, j, z, t, q1, _⟩ := hD
      have := (((((m1.trans m2).trans m3).trans m4).trans m5).trans m6) _ _ q1
      exact ne_of_none this hl
    have hl7 := upd_at (o := .lst [.ref p1, .ref p2, .ref p3, .ref p4, .ref p5, .ref p6]) hl
    refine ⟨_, rfl, d, c, 6, rfl, hD1, by decide, by decide, fun H8 r k8 D8 r0 r1 => ?_⟩
    have mu := hD1.mut
    obtain ⟨u, p, q, e, au, U⟩ := six_unit r0 r1 (keep_tup k8 mu (SqT.of (K := K) t1)) (keep_tup k8 mu (SqT.of t2)) (keep_tup k8 mu (SqT.of t3)) (keep_tup k8 mu (SqT.of t4)) (keep_tup k8 mu (SqT.of t5)) (keep_tup k8 mu (SqT.of t6))
    exact ⟨l, _, r, _, rfl, rfl, SqL.of (k8 _ _ hl7 (fun z => ndl (List.mem_singleton.mp z).symm)), e, k H8 u p q ((Keep.of_same sm).trans k8) D8 au U⟩
def sp_law_sums (K : PySem.W.Frag) : Sp := fun vs H Q _ => ∃ (a u : Addr) (ns : List Int) (p q : Int), vs = [.ref a, .ref u] ∧ SqL K H a (ns.map V.int) ∧ At2 K H u (p, q) ∧ Unit' p q ∧ (∀ x ∈ ns, 0 ≤ x) ∧ ns.length ≤ 1000 ∧
  ∀ H' t us, Same H H' → SqT K H' t us → Cvs K H' p q us ns → Q (.ref t) H'
theorem ok_law_sums (T : Tx K mg) : FnOk P w K mg base CX0 3 T.law_sums.f T.law_sums.fd ["_law_numbers_here", "_law_unit_here"] (sp_law_sums K) := by
  have G_law_amount := ok_law_amount (P := P) (w := w) (base := base) T
  refine T.law_sums.F.ok sc_law_sums (fun vs H Q E h => ?_) (fun cdv A outer s H vs Q E hr h => ?_)
  · obtain ⟨a, u, ns, p, q, rfl, _⟩ := h
    rfl
  · obtain ⟨a, u, ns, p, q, rfl, ha, hu, U, h0, hl, k⟩ := h
    refine ⟨_, (pss_one (ps_ret (pe_callTy call_tuple_of (by rfl) T.z_tuple (by decide +kernel) (pa_cons (pe_lc (own := [("_law_number", 2)]) (g := gName 2) (tt := tYes) (by rfl) sc_law_sums.nd (pi_list (pv 0)) (blkOk_by (own := [("_law_number", 2)]) (N := ["_law_numbers_here", "_law_unit_here", "_law_number"]) (sc := defScope s_law_sums) (by decide +kernel)) (fun _ _ _ _ _ => pg_name (i := 2) sc_law_sums.nd rfl (Or.inl rfl)) (fun _ _ _ _ _ => pts_nil) (fun _ _ _ _ _ => (pe_call G_law_amount (hr.mono (by decide)) (by rfl) T.law_amount.g T.law_amount.kp T.law_amount.b .nil pass0 (pa_cons (pe_op op_mul (pv 2) (pe_ix (r := rIxT K) ix_tup (pv 1) pe_int (fun _ _ => rfl))) (pa_cons (pe_ix (r := rIxT K) ix_tup (pv 1) pe_int (fun _ _ => rfl)) pa_nil))))) pa_nil)))), ?_⟩
    have q1 := U.q1
    have p1 := U.p1
    have p0 := U.p0
    refine ⟨_, rfl, a, rfl, ⟨_, ha⟩, fun D hD => lc_list (K := K) (a := a) (xs := ns.map V.int) (fun i H' => ∃ us, Same H H' ∧ H' D = some (.lst us) ∧ Cvs K H' p q us (ns.take i)) ⟨[], same_new hD, upd_same, .nil⟩ (fun i H' _ ⟨_, s, _⟩ => s.seq ha) ?_ ?_⟩
    · rintro i y H' hi ⟨us, s, hd, hc⟩
      obtain ⟨n, hn, rfl⟩ := map_nth hi
      have ilt := lt_of_at hn
      have lu : us.length = (ns.take i).length := hc.length
      have lt := List.length_take_le i ns
      refine ⟨rfl, _, rfl, _, rfl, u, _, 0, _, rfl, rfl, same_tup s hu, pair0 _ _, _, _, rfl, rfl, .inr ⟨by omega, by omega⟩, _, rfl, u, _, 1, _, rfl, rfl, same_tup s hu, pair1 _ _, n * p, q, rfl, ?_, U.q0, by omega, fun z hz => ?_⟩
      · exact Int.mul_nonneg (h0 n (List.mem_of_getElem? hn)) (Int.le_of_lt p0)
      have sz1 := same_new (o := .tup [.int (mk (n * p) q).1, .int (mk (n * p) q).2]) hz
      have hd1 := sz1 _ _ hd
      have mu : Mu [D] (upd H' z (.tup [.int (mk (n * p) q).1, .int (mk (n * p) q).2])) := fun b hb => by
        rw [List.mem_singleton.mp hb, hd1]
        trivial
      have kD : Keep [D] (upd H' z (.tup [.int (mk (n * p) q).1, .int (mk (n * p) q).2])) (upd (upd H' z (.tup [.int (mk (n * p) q).1, .int (mk (n * p) q).2])) D (.lst (us ++ [.ref z]))) := (Keep.refl _ _).upd (List.mem_singleton.mpr rfl)
      refine ⟨us, hd1, Qw.sz' (by omega), us ++ [.ref z], ?_, upd_same, ?_⟩
      · intro c u e
        have nc : c ≠ D := ne_of_none e hD
        rw [upd_ne nc]
        exact sz1 _ _ (s c u e)
      · rw [take_snoc hn]
        refine paired_snoc (F := fun v n => Fv K _ v (can p q n)) ((hc.same sz1).keep kD mu) ⟨z, rfl, ?_⟩
        exact keep_tup kD mu (SqT.of upd_same)
    · rintro H' ⟨us, s, hd, hc⟩
      rw [List.length_map, List.take_length] at hc
      refine ⟨D, us, rfl, .inl ⟨SqL.of hd, fun t ht => ?_⟩⟩
      have s2 := same_new (o := .tup us) ht
      exact k _ t us (s.trans s2) (SqT.of upd_same) (hc.same s2)
def sp_law_made (T : Tx K mg) : Sp := fun vs H Q _ => ∃ (l la lb u : Addr) (A B : List Int) (p q : Int), vs = [.ref l, .ref u] ∧ SqT K H l [.ref la, .ref lb] ∧ SqL K H la (A.map V.int) ∧ SqL K H lb (B.map V.int) ∧ At2 K H u (p, q) ∧ Unit' p q ∧ Num A B ∧
  ∀ H' e, Same H H' → EvAt T p q H' e A B → Q (.ref e) H'
theorem ok_law_made (T : Tx K mg) : FnOk P w K mg base CX0 7 T.law_made.f T.law_made.fd ["_law_lists_here", "_law_unit_here"] (sp_law_made T) := by
  have G_law_sums := ok_law_sums (P := P) (w := w) (base := base) T
  have G_evening_init := ok_evening_init (P := P) (w := w) (base := base) T
  refine T.law_made.F.ok sc_law_made (fun vs H Q E h => ?_) (fun cdv A outer s H vs Q E hr h => ?_)
  · obtain ⟨l, la, lb, u, A, B, p, q, rfl, _⟩ := h
    rfl
  · obtain ⟨l, la, lb, u, a0, b0, p, q, rfl, hl, hA, hB, hu, U, N, k⟩ := h
    refine ⟨_, (pss_one (ps_ret (pe_make T.evening_init.m G_evening_init (hr.mono (by decide)) (by rfl) T.mg_Evening T.evening_init.b .nil pass0 (pa_cons (pe_call G_law_sums (hr.mono (by decide)) (by rfl) T.law_sums.g T.law_sums.kp T.law_sums.b .nil pass0 (pa_cons (pe_ix (r := rIxT K) ix_tup (pv 0) pe_int (fun _ _ => rfl)) (pa_cons (pv 1) pa_nil))) (pa_cons (pe_call G_law_sums (hr.mono (by decide)) (by rfl) T.law_sums.g T.law_sums.kp T.law_sums.b .nil pass0 (pa_cons (pe_ix (r := rIxT K) ix_tup (pv 0) pe_int (fun _ _ => rfl)) (pa_cons (pv 1) pa_nil))) pa_nil))))), ?_⟩
    refine ⟨_, rfl, l, _, 0, _, rfl, rfl, hl, at_nat (by decide) rfl, _, rfl, la, u, a0, p, q, rfl, hA, hu, U, fun x hx => Int.le_of_lt (N.a x hx), Nat.le_trans N.la (by decide), fun H1 o va s1 ho hca => ?_⟩
    refine ⟨_, rfl, l, _, 1, _, rfl, rfl, same_tup s1 hl, at_nat (by decide) rfl, _, rfl, lb, u, b0, p, q, rfl, s1.seq hB, same_tup s1 hu, U, fun x hx => Int.le_of_lt (N.b x hx), Nat.le_trans N.lb (by decide), fun H2 d vb s2 hd hcb => ?_⟩
    intro e dx he hdx hne
    have sN : Same H2 (upd (upd H2 dx (.own e)) e (.ins T.CE dx [])) := (same_new (o := .own e) hdx).trans (same_new (by rw [upd_ne hne.symm]; exact he))
    have s3 := s2.trans sN
    refine ⟨e, dx, o, d, va, vb, a0, b0, p, q, rfl, upd_same, same_tup s3 ho, same_tup sN hd, hca.same s3, hcb.same sN, U, N, fun H3 k3 e3 => ⟨rfl, ?_⟩⟩
    have mu : Mu [e] (upd (upd H2 dx (.own e)) e (.ins T.CE dx [])) := fun b hb => by
      rw [List.mem_singleton.mp hb, upd_same]
      trivial
    refine k H3 e (fun b o hb => ?_) ⟨dx, o, d, va, vb, e3, keep_tup k3 mu (same_tup s3 ho), keep_tup k3 mu (same_tup sN hd), (hca.same s3).keep k3 mu, (hcb.same sN).keep k3 mu⟩
    have b2 := s2 _ _ (s1 _ _ hb)
    exact k3 _ _ (sN _ _ b2) (fun z => by rw [List.mem_singleton.mp z, he] at b2; cases b2)
end
end Qw
set_option Elab.async false
set_option maxRecDepth 100000
set_option linter.all false
set_option maxHeartbeats 4000000
/-! QWB: the law's helpers: shuffled, split, side, lists, drawn. -/
namespace Qw
open PySem PySem.Spec PyProof.Rows L2
theorem erase_perm {A : List Int} {i : Nat} {x : Int} (h : A[i]? = some x) : A.Perm (x :: A.eraseIdx i) := by
  have hl := lt_of_at h
  have := perm_at hl
  rwa [show A.getD i 0 = x by rw [List.getD_eq_getElem?_getD, h]; rfl] at this
theorem map_erase : ∀ (A : List Int) (i : Nat), (A.map V.int).eraseIdx i = (A.eraseIdx i).map V.int
  | [], _ => rfl
  | _ :: _, 0 => rfl
  | a :: A, i + 1 => by
    show V.int a :: (A.map V.int).eraseIdx i = V.int a :: (A.eraseIdx i).map V.int
    rw [map_erase A i]
theorem seq_of {k : Int} {n : Nat} (h0 : 0 ≤ k) (hn : k < n) : seqIndex? k n = some k.toNat := by
  have := (ixN_seq (ix_nat (n := n) h0 hn)).1
  exact this
theorem rep_ints (n : Nat) (x : Int) : (List.replicate n [V.int x]).flatten = (List.replicate n x).map V.int := by
  induction n with
  | zero => rfl
  | succ n ih => rw [List.replicate_succ, List.flatten_cons, ih, List.replicate_succ, List.map_cons]; rfl
section
variable {P : Program} {w : World} {K : PySem.W.Frag} {mg : Str → Option Value} {base : Heap}
def sp_law_shuffled (K : PySem.W.Frag) : Sp := fun vs H Q _ => ∃ (d c a : Addr) (ns : List Int), vs = [.ref d, .ref a] ∧ DiceAt H d c ∧ SqL K H a (ns.map V.int) ∧ ns.length ≤ 1000 ∧
  ∀ H' t (ms : List Int), Keep [d] H H' → DiceAt H' d c → SqT K H' t (ms.map V.int) → ms.Perm ns → Q (.ref t) H'
theorem ok_law_shuffled (T : Tx K mg) : FnOk P w K mg base CX0 2 T.law_shuffled.f T.law_shuffled.fd ["_law_dice_here", "_law_items"] (sp_law_shuffled K) := by
  have G_law_draw := ok_law_draw (P := P) (w := w) (base := base) T
  refine T.law_shuffled.F.ok sc_law_shuffled (fun vs H Q E h => ?_) (fun cdv A outer s H vs Q E hr h => ?_)
  · obtain ⟨d, c, a, ns, rfl, _⟩ := h
    rfl
  · obtain ⟨d, c, a, ns, rfl, hD, ha, hl, k⟩ := h
    refine ⟨_, (pss_cons (ps_set (i := 2) sc_law_shuffled.nd rfl (Or.inr rfl) (pe_callTy call_list_of (by rfl) T.z_list (by decide +kernel) (pa_cons (pv 1) pa_nil)))
      (pss_one (ps_ret (pe_callTy call_tuple_of (by rfl) T.z_tuple (by decide +kernel) (pa_cons (pe_lc (own := [("_law_k", 3)]) (g := gName 3) (tt := tYes) (by rfl) sc_law_shuffled.nd (pi_range1 rfl T.z_range (pa_cons (pe_callB (r := rLenK K) call_len_seq (by rfl) T.z_len (by decide +kernel) (pa_cons (pv 2) pa_nil)) pa_nil)) (blkOk_by (own := [("_law_k", 3)]) (N := ["_law_dice_here", "_law_items", "_law_left", "_law_k"]) (sc := defScope s_law_shuffled) (by decide +kernel)) (fun _ _ _ _ _ => pg_name (i := 3) sc_law_shuffled.nd rfl (Or.inl rfl)) (fun _ _ _ _ _ => pts_nil) (fun _ _ _ _ _ => (pe_bmK (K := K) rfl PySem.F.plainAttrs_list PySem.F.slot_list_pop PySem.F.type_list_pop mt_popAt (pv 2) (pa_cons (pe_call G_law_draw (hr.mono (by decide)) (by rfl) T.law_draw.g T.law_draw.kp T.law_draw.b .nil pass0 (pa_cons (pv 0) (pa_cons (pe_callB (r := rLenK K) call_len_seq (by rfl) T.z_len (by decide +kernel) (pa_cons (pv 2) pa_nil)) pa_nil))) pa_nil)))) pa_nil))))), ?_⟩
    refine ⟨_, rfl, a, _, rfl, .inl ha, fun l hl0 => ?_⟩
    have s1 := same_new (o := .lst (ns.map V.int)) hl0
    have e1 := upd_at (o := .lst (ns.map V.int)) hl0
    have hD1 := hD.same s1
    obtain ⟨ndl, ncl⟩ := hD.ne hl0
    generalize upd H l (.lst (ns.map V.int)) = H1 at s1 e1 hD1 ⊢
    refine ⟨_, rfl, l, _, rfl, .inl (SqL.of e1), (ns.length : Int), by rw [List.length_map], by omega, by omega, fun D hDn => ?_⟩
    obtain ⟨ndD, ncD⟩ := hD1.ne hDn
    have nlD : l ≠ D := ne_of_none e1 hDn
    have s2 := same_new (o := .lst []) hDn
    refine lc_range (lo := 0) (n := ns.length) (fun i H' => ∃ rest done : List Int, Keep [d] H H' ∧ DiceAt H' d c ∧ H' l = some (.lst (rest.map V.int)) ∧ H' D = some (.lst (done.map V.int)) ∧ (done ++ rest).Perm ns ∧ done.length = i)
      ⟨ns, [], Keep.of_same (s1.trans s2), hD1.same s2, s2 _ _ e1, upd_same, .refl _, rfl⟩ ?_ ?_
    · rintro i H' hi ⟨rest, done, kp, hD', el, eD, pm, ld⟩
      have lr : rest.length = ns.length - i := by
        have := pm.length_eq
        rw [List.length_append, ld] at this
        omega
      refine ⟨rfl, _, rfl, .inl ⟨rfl, _, SqL.of el⟩, _, rfl, _, rfl, l, _, rfl, .inl (SqL.of el), d, c, _, rfl, hD', by rw [List.length_map]; omega, by rw [List.length_map]; omega, fun H2 r k2 D2 r0 r1 => ?_⟩
      rw [List.length_map] at r1
      have nin : ∀ {b : Addr}, b ≠ d → b ∉ [d] := fun n z => n (List.mem_singleton.mp z)
      have el2 := k2 _ _ el (nin ndl.symm)
      have eD2 := k2 _ _ eD (nin ndD.symm)
      have hx : rest[r.toNat]? = some (rest.getD r.toNat 0) := getD_at (by omega)
      generalize rest.getD r.toNat 0 = x at hx
      refine ⟨l, _, r, r.toNat, .int x, rfl, rfl, el2, by omega, by omega, by rw [List.length_map]; exact seq_of r0 r1, by rw [List.getElem?_map, hx]; rfl, ?_⟩
      refine ⟨done.map V.int, (upd_ne nlD.symm).trans eD2, by rw [List.length_map]; exact Qw.sz' (by omega), rest.eraseIdx r.toNat, done ++ [x], ?_, ?_, ?_, ?_, ?_, ?_⟩
      · intro b o e nb
        have b1 : b ≠ l := ne_of_none e hl0
        have b2 : b ≠ D := ne_of_none (s1 _ _ e) hDn
        rw [upd_ne b2, upd_ne b1]
        exact (kp.trans k2) _ _ e nb
      · obtain ⟨cells, i', j, z, t, q1, q2, q3⟩ := D2
        exact ⟨cells, i', j, z, t, by rw [upd_ne ndD, upd_ne ndl]; exact q1, by rw [upd_ne ncD, upd_ne ncl]; exact q2, q3⟩
      · rw [upd_ne nlD, upd_same, map_erase]
      · rw [upd_same, List.map_append]
        rfl
      · refine List.Perm.trans ?_ pm
        rw [List.append_assoc]
        exact (List.Perm.refl _).append (erase_perm hx).symm
      · rw [List.length_append, ld]
        rfl
    · rintro H' ⟨rest, done, kp, hD', el, eD, pm, ld⟩
      have er : rest = [] := by
        have := pm.length_eq
        rw [List.length_append, ld] at this
        exact List.length_eq_zero_iff.mp (by omega)
      subst er
      rw [List.append_nil] at pm
      refine ⟨D, _, rfl, .inl ⟨SqL.of eD, fun t ht => ?_⟩⟩
      have s3 := same_new (o := .tup (done.map V.int)) ht
      exact k _ t done (kp.trans (Keep.of_same s3)) (hD'.same s3) (SqT.of upd_same) pm
def sp_law_side : Sp := fun vs H Q _ => ∃ (d c : Addr) (n m : Int), vs = [.ref d, .int n, .int m] ∧ DiceAt H d c ∧ 0 ≤ n ∧ n ≤ 100 ∧ 0 < m ∧ m ≤ 12 ∧
  ∀ H' l (ns : List Int), Keep [d] H H' → DiceAt H' d c → H' l = some (.lst (ns.map V.int)) → (ns.length : Int) = n → (∀ x ∈ ns, 0 < x ∧ x ≤ 12) → Q (.ref l) H'
theorem ok_law_side (T : Tx K mg) : FnOk P w K mg base CX0 2 T.law_side.f T.law_side.fd ["_law_dice_here", "_law_many", "_law_most"] sp_law_side := by
  have G_law_draw := ok_law_draw (P := P) (w := w) (base := base) T
  refine T.law_side.F.ok sc_law_side (fun vs H Q E h => ?_) (fun cdv A outer s H vs Q E hr h => ?_)
  · obtain ⟨d, c, n, m, rfl, _⟩ := h
    rfl
  · obtain ⟨d, c, n, m, rfl, hD, n0, n1, m0, m1, k⟩ := h
    refine ⟨_, (pss_cons (ps_if (pt_cmpR op_eq (pe_call G_law_draw (hr.mono (by decide)) (by rfl) T.law_draw.g T.law_draw.kp T.law_draw.b .nil pass0 (pa_cons (pv 0) (pa_cons pe_int pa_nil))) pe_int (nomark _)) (pss_one (ps_ret (pe_op op_rep (pe_lst (pa_cons (pe_op op_add pe_int (pe_call G_law_draw (hr.mono (by decide)) (by rfl) T.law_draw.g T.law_draw.kp T.law_draw.b .nil pass0 (pa_cons (pv 0) (pa_cons (pv 2) pa_nil)))) pa_nil)) (pv 1)))) pss_nil)
      (pss_one (ps_ret (pe_lc (own := [("_law_k", 3)]) (g := gName 3) (tt := tYes) (by rfl) sc_law_side.nd (pi_range1 rfl T.z_range (pa_cons (pv 1) pa_nil)) (blkOk_by (own := [("_law_k", 3)]) (N := ["_law_dice_here", "_law_many", "_law_most", "_law_k"]) (sc := defScope s_law_side) (by decide +kernel)) (fun _ _ _ _ _ => pg_name (i := 3) sc_law_side.nd rfl (Or.inl rfl)) (fun _ _ _ _ _ => pts_nil) (fun _ _ _ _ _ => (pe_op op_add pe_int (pe_call G_law_draw (hr.mono (by decide)) (by rfl) T.law_draw.g T.law_draw.kp T.law_draw.b .nil pass0 (pa_cons (pv 0) (pa_cons (pv 2) pa_nil))))))))), ?_⟩
    refine ⟨_, rfl, d, c, 4, rfl, hD, by decide, by decide, fun H1 r k1 D1 r0 r1 => ⟨rfl, _, rfl, ?_⟩⟩
    refine ite2 (fun c0 => ?_) (fun c0 => ?_)
    · refine ⟨_, rfl, _, rfl, d, c, m, rfl, D1, m0, by omega, fun H2 x k2 D2 x0 x1 => ?_⟩
      refine ⟨_, _, rfl, rfl, Qw.s1, fun p hp => ⟨_, rfl, p, n, _, rfl, rfl, upd_same, by omega, by omega, Qw.sz (by show 1 * n.toNat ≤ 1000000; omega), fun l hl => ?_⟩⟩
      have s1 := (same_new (o := .lst [.int (1 + x)]) hp).trans (same_new (o := .lst (List.replicate n.toNat [V.int (1 + x)]).flatten) hl)
      refine k _ l (List.replicate n.toNat (1 + x)) ((k1.trans k2).trans (Keep.of_same s1)) (D2.same s1) (by rw [← rep_ints]; exact upd_same) (by rw [List.length_replicate]; omega) fun y hy => ?_
      rw [List.eq_of_mem_replicate hy]
      omega
    · refine ⟨_, rfl, n, rfl, by omega, by omega, fun D hDn => ?_⟩
      obtain ⟨ndD, ncD⟩ := D1.ne hDn
      have s2 := same_new (o := .lst []) hDn
      refine lc_range (lo := 0) (n := n.toNat) (fun i H' => ∃ ns : List Int, Keep [d] H H' ∧ DiceAt H' d c ∧ H' D = some (.lst (ns.map V.int)) ∧ ns.length = i ∧ ∀ x ∈ ns, 0 < x ∧ x ≤ 12) ⟨[], k1.trans (Keep.of_same s2), D1.same s2, upd_same, rfl, fun x hx => by cases hx⟩ ?_ ?_
      · rintro i H' hi ⟨ns, kp, D', e, ln, hb⟩
        refine ⟨rfl, _, rfl, _, rfl, d, c, m, rfl, D', m0, by omega, fun H2 x k2 D2 x0 x1 => ?_⟩
        have e2 := k2 _ _ e (fun z => ndD (List.mem_singleton.mp z).symm)
        refine ⟨_, _, rfl, rfl, ns.map V.int, e2, by rw [List.length_map]; exact Qw.sz' (by omega), ns ++ [1 + x], ?_, D2.keep (ps := [D]) ((Keep.refl _ _).upd (List.mem_singleton.mpr rfl)) (fun z => ndD (List.mem_singleton.mp z)) (fun z => ncD (List.mem_singleton.mp z)), ?_, ?_, ?_⟩
        · intro b o eb nb
          have b2 : b ≠ D := ne_of_none (k1 _ _ eb nb) hDn
          rw [upd_ne b2]
          exact (kp.trans k2) _ _ eb nb
        · rw [upd_same, List.map_append]
          rfl
        · rw [List.length_append, ln]
          rfl
        · intro y hy
          rcases List.mem_append.mp hy with hy | hy
          · exact hb y hy
          · rw [List.mem_singleton.mp hy]
            omega
      · rintro H' ⟨ns, kp, D', e, ln, hb⟩
        exact k _ D ns kp D' e (by omega) hb
def sp_law_split : Sp := fun vs H Q _ => ∃ (d c : Addr) (u m : Int), vs = [.ref d, .int u, .int m] ∧ DiceAt H d c ∧ 0 < u ∧ u ≤ 1000 ∧ 0 < m ∧ m ≤ 100 ∧
  ∀ H' l (ns : List Int), Keep [d] H H' → DiceAt H' d c → H' l = some (.lst (ns.map V.int)) → ns ≠ [] → (ns.length : Int) ≤ m → (∀ x ∈ ns, 0 < x) → ns.sum = u → Q (.ref l) H'
theorem ok_law_split (T : Tx K mg) : FnOk P w K mg base CX0 2 T.law_split.f T.law_split.fd ["_law_dice_here", "_law_whole_here", "_law_many"] sp_law_split := by
  have G_law_draw := ok_law_draw (P := P) (w := w) (base := base) T
  refine T.law_split.F.ok sc_law_split (fun vs H Q E h => ?_) (fun cdv A outer s H vs Q E hr h => ?_)
  · obtain ⟨d, c, u, m, rfl, _⟩ := h
    rfl
  · obtain ⟨d, c, u, m, rfl, hD, u0, u1, m0, m1, k⟩ := h
    refine ⟨_, (pss_cons (ps_set (i := 3) sc_law_split.nd rfl (Or.inl rfl) (pe_lst pa_nil))
      (pss_cons (ps_set (i := 4) sc_law_split.nd rfl (Or.inl rfl) (pv 1))
      (pss_cons (ps_for PassesOwn.never rfl (pi_range3 rfl T.z_range (pa_cons (pe_op op_sub (pe_callB (call_min2 rfl) (by rfl) T.z_min (by decide +kernel) (pa_cons (pv 1) (pa_cons (pv 2) pa_nil))) pe_int) (pa_cons pe_int (pa_cons (pe_un un_neg pe_int) pa_nil)))) (pg_name (i := 5) sc_law_split.nd rfl (Or.inl rfl)) (pss_cons (ps_expr (pe_bm PySem.F.plainAttrs_list PySem.F.slot_list_append PySem.F.type_list_append mt_append (pv 3) (pa_cons (pe_op op_add pe_int (pe_call G_law_draw (hr.mono (by decide)) (by rfl) T.law_draw.g T.law_draw.kp T.law_draw.b .nil pass0 (pa_cons (pv 0) (pa_cons (pe_callB (call_min2 rfl) (by rfl) T.z_min (by decide +kernel) (pa_cons (pe_op op_sub (pv 4) (pv 5)) (pa_cons pe_int pa_nil))) pa_nil)))) pa_nil)))
      (pss_one (ps_set (i := 4) sc_law_split.nd rfl (Or.inl rfl) (pe_op op_sub (pv 4) (pe_ix (r := rIxL K) ix_list (pv 3) (pe_un un_neg pe_int) (fun _ _ => rfl)))))))
      (pss_one (ps_ret (pe_op op_cat (pv 3) (pe_lst (pa_cons (pv 4) pa_nil)))))))), ?_⟩
    refine ⟨Nat.zero_le _, fun l hl => ?_⟩
    have s1 := same_new (o := .lst []) hl
    obtain ⟨ndl, ncl⟩ := hD.ne hl
    have w1 : 1 ≤ mn u m ∧ mn u m ≤ u ∧ mn u m ≤ m := ⟨mn_pos u0 m0, mn_le1 _ _, mn_le2 _ _⟩
    refine ⟨_, rfl, _, rfl, _, rfl, _, _, rfl, _, _, rfl, rfl, _, rfl, mn u m - 1, 0, -1, (mn u m - 1).toNat, rfl, ?_, ?_⟩
    · have := RgC.neg (i := mn u m - 1) (j := 0) (by omega) (by omega) (by omega) (by omega)
      rw [Int.sub_zero] at this
      exact this
    refine for_rangeC (lo := mn u m - 1) (c := -1) (n := (mn u m - 1).toNat) (fun i σ H' => ∃ (ns : List Int) (left : Int) (x5 : Option V), σ = [some (.ref d), some (.int u), some (.int m), some (.ref l), some (.int left), x5] ∧ Keep [d] H H' ∧ DiceAt H' d c ∧ H' l = some (.lst (ns.map V.int)) ∧ (∀ x ∈ ns, 0 < x) ∧ ns.sum + left = u ∧ ns.length = i ∧ mn u m - i ≤ left)
      ⟨[], u, none, rfl, Keep.of_same s1, hD.same s1, upd_same, (fun x hx => by cases hx), Int.zero_add u, rfl, by omega⟩ ?_ ?_
    · rintro i σ H' hi ⟨ns, left, x5, rfl, kp, D', e, hp, hs, ln, hl'⟩
      refine ⟨_, rfl, .inl ⟨rfl, _, SqL.of e⟩, _, rfl, _, rfl, _, rfl, _, _, rfl, rfl, _, _, rfl, d, c, _, rfl, D', ?_, ?_, fun H2 x k2 D2 x0 x1 => ?_⟩
      · exact mn_pos (by omega) (by omega)
      · exact Int.le_trans (mn_le2 _ _) (by omega)
      have xl : x < left - (mn u m - 1 + (i : Int) * -1) := Int.lt_of_lt_of_le x1 (mn_le1 _ _)
      have e2 := k2 _ _ e (fun z => ndl (List.mem_singleton.mp z).symm)
      have kl : Keep [l] H2 (upd H2 l (.lst (ns.map V.int ++ [.int (1 + x)]))) := (Keep.refl _ _).upd (List.mem_singleton.mpr rfl)
      refine ⟨_, _, rfl, rfl, l, _, _, rfl, rfl, e2, by rw [List.length_map]; exact Qw.sz' (by omega), ?_⟩
      refine ⟨_, rfl, _, rfl, _, rfl, l, _, -1, .int (1 + x), rfl, rfl, SqL.of upd_same, atI_last _ _, _, _, rfl, rfl, ?_⟩
      refine ⟨ns ++ [1 + x], left - (1 + x), _, rfl, ?_, D2.keep kl (fun z => ndl (List.mem_singleton.mp z)) (fun z => ncl (List.mem_singleton.mp z)), by rw [List.map_append]; exact upd_same, ?_, ?_, ?_, by omega⟩
      · intro b o eb nb
        rw [upd_ne (ne_of_none eb hl)]
        exact (kp.trans k2) _ _ eb nb
      · intro y hy
        rcases List.mem_append.mp hy with hy | hy
        · exact hp y hy
        · rw [List.mem_singleton.mp hy]
          omega
      · rw [List.sum_append]
        show ns.sum + ((1 + x) + 0) + (left - (1 + x)) = u
        omega
      · rw [List.length_append, ln]
        rfl
    · rintro σ H' ⟨ns, left, x5, rfl, kp, D', e, hp, hs, ln, hl'⟩
      refine ⟨_, rfl, _, rfl, Qw.s1, fun p hp1 => ⟨l, p, ns.map V.int, _, rfl, rfl, (upd_ne (ne_of_none e hp1)).trans e, upd_same, Qw.sz (by show (ns.map V.int).length + 1 ≤ 1000000; rw [List.length_map]; omega), fun q hq => ?_⟩⟩
      have s2 := (same_new (o := .lst [.int left]) hp1).trans (same_new (o := .lst (ns.map V.int ++ [.int left])) hq)
      refine k _ q (ns ++ [left]) (kp.trans (Keep.of_same s2)) (D'.same s2) (by rw [List.map_append]; exact upd_same) (by simp) ?_ ?_ ?_
      · rw [List.length_append, ln]
        show (((mn u m - 1).toNat + 1 : Nat) : Int) ≤ m
        omega
      · intro y hy
        rcases List.mem_append.mp hy with hy | hy
        · exact hp y hy
        · rw [List.mem_singleton.mp hy]
          omega
      · rw [List.sum_append]
        show ns.sum + (left + 0) = u
        omega
end
end Qw
set_option Elab.async false
set_option maxRecDepth 100000
set_option linter.all false
set_option maxHeartbeats 4000000
/-! QWC: the drawn lists. -/
namespace Qw
open PySem PySem.Spec PyProof.Rows L2
theorem sum_le {c : Int} : ∀ {l : List Int}, (∀ x ∈ l, x ≤ c) → l.sum ≤ c * (l.length : Int)
  | [], _ => by simp
  | a :: l, h => by
    have ih := sum_le (c := c) (l := l) fun x hx => h x (List.mem_cons_of_mem _ hx)
    have ha := h a List.mem_cons_self
    rw [List.sum_cons, List.length_cons]
    have : c * ((l.length + 1 : Nat) : Int) = c * (l.length : Int) + c := by
      rw [Int.natCast_add, Int.mul_add]
      simp
    omega
structure Drawn (A B : List Int) (m : Int) : Prop where
  a : ∀ x ∈ A, 0 < x
  b : ∀ x ∈ B, 0 < x
  eq : A.sum = B.sum
  ne : A ≠ []
  ne' : B ≠ []
  len : (A.length : Int) + B.length ≤ m
  sum : A.sum ≤ 12 * ((A.length : Int) + B.length)
theorem Drawn.join {A B A' B' C C' : List Int} {m n u : Int} (h : Drawn A B m) (h' : Drawn A' B' n) (p : C.Perm (A ++ A')) (p' : C'.Perm (B ++ B')) (l : (A.length : Int) + B.length + n ≤ u) : Drawn C C' u := by
  have e1 := sum_perm p
  have e2 := sum_perm p'
  have l1 := p.length_eq
  have l2 := p'.length_eq
  rw [List.sum_append] at e1 e2
  rw [List.length_append] at l1 l2
  have s1 := h.sum
  have s2 := h'.sum
  have t1 := h.eq
  have t2 := h'.eq
  have n1 := h'.len
  have z1 := List.length_pos_iff.mpr h.ne
  have z2 := List.length_pos_iff.mpr h.ne'
  refine ⟨fun x hx => ?_, fun x hx => ?_, by omega, fun z => ?_, fun z => ?_, by omega, by omega⟩
  · rcases List.mem_append.mp (p.mem_iff.mp hx) with hx | hx
    · exact h.a x hx
    · exact h'.a x hx
  · rcases List.mem_append.mp (p'.mem_iff.mp hx) with hx | hx
    · exact h.b x hx
    · exact h'.b x hx
  · rw [z] at l1
    simp at l1
    omega
  · rw [z] at l2
    simp at l2
    omega
theorem Drawn.swap {A B : List Int} {m : Int} (h : Drawn A B m) : Drawn B A m := ⟨h.b, h.a, h.eq.symm, h.ne', h.ne, by have := h.len; omega, by have := h.sum; have := h.eq; omega⟩
theorem DiceAt.nl {H : Hp} {d c a : Addr} {A : List Int} (h : DiceAt H d c) (e : H a = some (.lst (A.map V.int))) : a ≠ d := by
  obtain ⟨cells, i, j, z, t, h1, h2, h3⟩ := h
  rintro rfl
  rw [h1] at e
  have := Option.some.inj e
  injection this with this
  cases A with
  | nil => cases this
  | cons x xs =>
    rw [List.map_cons] at this
    injection this with this
    cases this
theorem DiceAt.nt {H : Hp} {d c a : Addr} {xs : List V} (h : DiceAt H d c) (e : H a = some (.tup xs)) : a ≠ d := by
  obtain ⟨cells, i, j, z, t, h1, h2, h3⟩ := h
  exact ne_of e h1 (by intro z; cases z)
theorem four_most {r : Int} (h0 : 0 ≤ r) (h1 : r < 4) : ∃ x : Int, atI [V.int 2, .int 3, .int 6, .int 12] r = some (.int x) ∧ 0 < x ∧ x ≤ 12 := by
  have : r = 0 ∨ r = 1 ∨ r = 2 ∨ r = 3 := by omega
  rcases this with rfl | rfl | rfl | rfl
  · exact ⟨2, rfl, by decide, by decide⟩
  · exact ⟨3, rfl, by decide, by decide⟩
  · exact ⟨6, rfl, by decide, by decide⟩
  · exact ⟨12, rfl, by decide, by decide⟩
section
variable {P : Program} {w : World} {K : PySem.W.Frag} {mg : Str → Option Value} {base : Heap}
/-- what drawing the lists promises -/
def Lists (H : Hp) (Q : VK) (d c : Addr) (m : Int) : Prop := ∀ (H' : Hp) (t la lb : Addr) (A B : List Int), Keep [d] H H' → DiceAt H' d c → H' t = some (.tup [.ref la, .ref lb]) → H' la = some (.lst (A.map V.int)) → H' lb = some (.lst (B.map V.int)) → Drawn A B m → Q (.ref t) H'
def sp_law_lists : Nat → Sp
  | 0 => fun _ _ _ _ => False
  | n + 1 => fun vs H Q _ => ∃ (d c : Addr) (m : Int), vs = [.ref d, .int m] ∧ DiceAt H d c ∧ 2 ≤ m ∧ m ≤ 2 * (n : Int) + 3 ∧ m ≤ 8 ∧ Lists H Q d c m
theorem ok_law_lists (T : Tx K mg) : ∀ n : Nat, FnOk P w K mg base CX0 (3 + n) T.law_lists.f T.law_lists.fd ["_law_dice_here", "_law_most"] (sp_law_lists n)
  | 0 => by
    refine T.law_lists.F.ok sc_law_lists (fun vs H Q E h => ?_) (fun cdv A outer s H vs Q E hr h => ?_)
    · exact (show False from h).elim
    · exact (show False from h).elim
  | n + 1 => by
    have G_law_draw := ok_law_draw (P := P) (w := w) (base := base) T
    have G_law_lists := ok_law_lists T n
    have G_law_shuffled := ok_law_shuffled (P := P) (w := w) (base := base) T
    have G_law_side := ok_law_side (P := P) (w := w) (base := base) T
    have G_law_split := ok_law_split (P := P) (w := w) (base := base) T
    refine T.law_lists.F.ok sc_law_lists (fun vs H Q E h => ?_) (fun cdv A outer s H vs Q E hr h => ?_)
    · obtain ⟨d, c, m, rfl, _⟩ := h
      rfl
    · obtain ⟨d, c, m, rfl, hD, m0, m1, m8, k⟩ := h
      have hr := hr.mono (j := 3 + n) (Nat.le_refl _)
      refine ⟨_, (pss_cons (ps_if ((pw_and (pt_cmpR op_gt (pv 1) pe_int (nomark _)) (pw_and1 (pt_cmpR op_eq (pe_call G_law_draw (hr.mono (by omega)) (by rfl) T.law_draw.g T.law_draw.kp T.law_draw.b .nil pass0 (pa_cons (pv 0) (pa_cons pe_int pa_nil))) pe_int (nomark _))))).pt (pss_cons (ps_set (i := 2) sc_law_lists.nd rfl (Or.inl rfl) (pe_call G_law_lists (hr.mono (by omega)) (by rfl) T.law_lists.g T.law_lists.kp T.law_lists.b .nil pass0 (pa_cons (pv 0) (pa_cons (pe_op op_fdivN (pv 1) pe_int) pa_nil))))
      (pss_cons (ps_set (i := 3) sc_law_lists.nd rfl (Or.inl rfl) (pe_call G_law_lists (hr.mono (by omega)) (by rfl) T.law_lists.g T.law_lists.kp T.law_lists.b .nil pass0 (pa_cons (pv 0) (pa_cons (pe_op op_sub (pe_op op_sub (pv 1) (pe_callB (r := rLenK K) call_len_seq (by rfl) T.z_len (by decide +kernel) (pa_cons (pe_ix (r := rIxT K) ix_tup (pv 2) pe_int (fun _ _ => rfl)) pa_nil))) (pe_callB (r := rLenK K) call_len_seq (by rfl) T.z_len (by decide +kernel) (pa_cons (pe_ix (r := rIxT K) ix_tup (pv 2) pe_int (fun _ _ => rfl)) pa_nil))) pa_nil))))
      (pss_cons (ps_set (i := 4) sc_law_lists.nd rfl (Or.inl rfl) (pe_call G_law_shuffled (hr.mono (by omega)) (by rfl) T.law_shuffled.g T.law_shuffled.kp T.law_shuffled.b .nil pass0 (pa_cons (pv 0) (pa_cons (pe_op op_cat (pe_ix (r := rIxT K) ix_tup (pv 2) pe_int (fun _ _ => rfl)) (pe_ix (r := rIxT K) ix_tup (pv 3) pe_int (fun _ _ => rfl))) pa_nil))))
      (pss_one (ps_ret (pe_tup (pa_cons (pe_callTy call_list_of (by rfl) T.z_list (by decide +kernel) (pa_cons (pv 4) pa_nil)) (pa_cons (pe_callTy call_list_of (by rfl) T.z_list (by decide +kernel) (pa_cons (pe_call G_law_shuffled (hr.mono (by omega)) (by rfl) T.law_shuffled.g T.law_shuffled.kp T.law_shuffled.b .nil pass0 (pa_cons (pv 0) (pa_cons (pe_op op_cat (pe_ix (r := rIxT K) ix_tup (pv 2) pe_int (fun _ _ => rfl)) (pe_ix (r := rIxT K) ix_tup (pv 3) pe_int (fun _ _ => rfl))) pa_nil))) pa_nil)) pa_nil)))))))) pss_nil)
      (pss_cons (ps_set (i := 5) sc_law_lists.nd rfl (Or.inl rfl) (pe_op op_add pe_int (pe_call G_law_draw (hr.mono (by omega)) (by rfl) T.law_draw.g T.law_draw.kp T.law_draw.b .nil pass0 (pa_cons (pv 0) (pa_cons (pe_op op_sub (pv 1) pe_int) pa_nil)))))
      (pss_cons (ps_set (i := 4) sc_law_lists.nd rfl (Or.inl rfl) (pe_call G_law_side (hr.mono (by omega)) (by rfl) T.law_side.g T.law_side.kp T.law_side.b .nil pass0 (pa_cons (pv 0) (pa_cons (pv 5) (pa_cons (pe_ix (r := rIxL K) ix_list (pe_lst (pa_cons pe_int (pa_cons pe_int (pa_cons pe_int (pa_cons pe_int pa_nil))))) (pe_call G_law_draw (hr.mono (by omega)) (by rfl) T.law_draw.g T.law_draw.kp T.law_draw.b .nil pass0 (pa_cons (pv 0) (pa_cons pe_int pa_nil))) (fun _ _ => rfl)) pa_nil)))))
      (pss_cons (ps_set (i := 6) sc_law_lists.nd rfl (Or.inl rfl) (pe_call G_law_split (hr.mono (by omega)) (by rfl) T.law_split.g T.law_split.kp T.law_split.b .nil pass0 (pa_cons (pv 0) (pa_cons (pe_callB (cr_sum rfl) (by rfl) T.z_sum (by decide +kernel) (pa_cons (pv 4) pa_nil)) (pa_cons (pe_op op_add pe_int (pe_call G_law_draw (hr.mono (by omega)) (by rfl) T.law_draw.g T.law_draw.kp T.law_draw.b .nil pass0 (pa_cons (pv 0) (pa_cons (pe_op op_sub (pv 1) (pv 5)) pa_nil)))) pa_nil)))))
      (pss_cons (ps_if (pt_cmpR op_eq (pe_call G_law_draw (hr.mono (by omega)) (by rfl) T.law_draw.g T.law_draw.kp T.law_draw.b .nil pass0 (pa_cons (pv 0) (pa_cons pe_int pa_nil))) pe_int (nomark _)) (pss_one (ps_ret (pe_tup (pa_cons (pv 6) (pa_cons (pv 4) pa_nil))))) pss_nil)
      (pss_one (ps_ret (pe_tup (pa_cons (pv 4) (pa_cons (pv 6) pa_nil)))))))))), ?_⟩
      refine seq_by (fun σ H' => σ = [some (.ref d), some (.int m), none, none, none, none, none] ∧ Keep [d] H H' ∧ DiceAt H' d c) (fun N hN => ?_) ?_
      · refine ⟨_, rfl, _, _, rfl, rfl, _, rfl, ?_⟩
        refine ite2 (fun c1 => ?_) (fun c1 => iteF (hN _ _ ⟨rfl, Keep.refl _ _, hD⟩))
        have m3 : 3 < m := of_decide_eq_true c1
        refine ⟨_, rfl, d, c, 3, rfl, hD, by decide, by decide, fun H1 r k1 D1 r0 r1 => ⟨rfl, _, rfl, ?_⟩⟩
        refine ite2 (fun c2 => ?_) (fun c2 => hN _ _ ⟨rfl, k1, D1⟩)
        match n, G_law_lists, m1 with
        | 0, _, m1 => omega
        | n + 1, G_law_lists, m1 =>
        have nin : ∀ {b : Addr}, b ≠ d → b ∉ [d] := fun n z => n (List.mem_singleton.mp z)
        have dv : m.fdiv 2 = m / 2 := Int.fdiv_eq_ediv_of_nonneg _ (by decide)
        refine ⟨_, rfl, _, rfl, _, _, rfl, rfl, ⟨by decide, by decide⟩, d, c, m.fdiv 2, rfl, D1, by omega, by omega, by omega, fun H2 t1 la1 lb1 A1 B1 k2 D2 e1 ea1 eb1 dr1 => ?_⟩
        have dl1 := dr1.len
        have z1 := List.length_pos_iff.mpr dr1.ne
        have z2 := List.length_pos_iff.mpr dr1.ne'
        refine ⟨_, rfl, _, rfl, _, rfl, t1, _, 0, _, rfl, rfl, SqT.of e1, at_nat (by decide) rfl, la1, _, rfl, .inl (SqL.of ea1), _, _, rfl, rfl, _, rfl, t1, _, 1, _, rfl, rfl, SqT.of e1, at_nat (by decide) rfl, lb1, _, rfl, .inl (SqL.of eb1), _, _, rfl, rfl, d, c, m - (A1.length : Int) - B1.length, by rw [List.length_map, List.length_map]; rfl, D2, by omega, by omega, by omega, fun H3 t2 la2 lb2 A2 B2 k3 D3 e2 ea2 eb2 dr2 => ?_⟩
        have dl2 := dr2.len
        have e13 := k3 _ _ e1 (nin (D2.nt e1))
        have ea13 := k3 _ _ ea1 (nin (D2.nl ea1))
        have eb13 := k3 _ _ eb1 (nin (D2.nl eb1))
        refine ⟨_, rfl, _, rfl, t1, _, 0, _, rfl, rfl, SqT.of e13, at_nat (by decide) rfl, _, rfl, t2, _, 0, _, rfl, rfl, SqT.of e2, at_nat (by decide) rfl, la1, la2, _, _, rfl, rfl, ea13, ea2, Qw.sz (by rw [List.length_map, List.length_map]; omega), fun p hp => ?_⟩
        have sp := same_new (o := .lst (A1.map V.int ++ A2.map V.int)) hp
        have ep : (upd H3 p (.lst (A1.map V.int ++ A2.map V.int))) p = some (.lst ((A1 ++ A2).map V.int)) := by rw [List.map_append]; exact upd_same
        refine ⟨d, c, p, A1 ++ A2, rfl, D3.same sp, SqL.of ep, by rw [List.length_append]; omega, fun H4 t4 m4 k4 D4 et4 pm4 => ?_⟩
        have k34 := (Keep.of_same (ps := [d]) sp).trans k4
        have mu3 := D3.mut
        refine ⟨_, rfl, t4, _, rfl, .inr et4, fun l1 hl1 => ?_⟩
        have s5 := same_new (o := .lst (m4.map V.int)) hl1
        have el1 := upd_at (o := .lst (m4.map V.int)) hl1
        have k35 := k34.trans (Keep.of_same s5)
        have D5 := D4.same s5
        have e15 := k35 _ _ e13 (nin (D3.nt e13))
        have e25 := k35 _ _ e2 (nin (D3.nt e2))
        have eb15 := k35 _ _ eb13 (nin (D3.nl eb13))
        have eb25 := k35 _ _ eb2 (nin (D3.nl eb2))
        refine ⟨_, rfl, _, rfl, t1, _, 1, _, rfl, rfl, SqT.of e15, at_nat (by decide) rfl, _, rfl, t2, _, 1, _, rfl, rfl, SqT.of e25, at_nat (by decide) rfl, lb1, lb2, _, _, rfl, rfl, eb15, eb25, Qw.sz (by rw [List.length_map, List.length_map]; omega), fun p6 hp6 => ?_⟩
        have s6 := same_new (o := .lst (B1.map V.int ++ B2.map V.int)) hp6
        have ep6 : (upd (upd H4 l1 (.lst (m4.map V.int))) p6 (.lst (B1.map V.int ++ B2.map V.int))) p6 = some (.lst ((B1 ++ B2).map V.int)) := by rw [List.map_append]; exact upd_at hp6
        refine ⟨d, c, p6, B1 ++ B2, rfl, D5.same s6, SqL.of ep6, by rw [List.length_append]; omega, fun H7 t7 m7 k7 D7 et7 pm7 => ?_⟩
        have el17 := k7 _ _ (s6 _ _ el1) (nin (D5.nl el1))
        refine ⟨t7, _, rfl, .inr et7, fun l2 hl2 => ⟨Qw.s2, fun t ht => ?_⟩⟩
        have s8 := same_new (o := .lst (m7.map V.int)) hl2
        have el2 := upd_at (o := .lst (m7.map V.int)) hl2
        have s9 := same_new (o := .tup [.ref l1, .ref l2]) ht
        exact k _ t l1 l2 m4 m7 ((((((k1.trans k2).trans k3).trans k35).trans (Keep.of_same s6)).trans k7).trans (Keep.of_same (s8.trans s9))) (D7.same (s8.trans s9)) upd_same (s9 _ _ (s8 _ _ el17)) (s9 _ _ el2) (dr1.join dr2 pm4 pm7 (by omega))
      · rintro σ H1 ⟨rfl, k1, D1⟩
        refine ⟨_, rfl, _, rfl, _, _, rfl, rfl, d, c, m - 1, rfl, D1, by omega, by omega, fun H2 r k2 D2 r0 r1 => ⟨_, _, rfl, rfl, ?_⟩⟩
        refine ⟨_, rfl, _, rfl, sz (by show 4 ≤ 1000000; decide), fun p hp => ⟨_, rfl, d, c, 4, rfl, D2.same (same_new hp), by decide, by decide, fun H3 r' k3 D3 r0' r1' => ?_⟩⟩
        have kp := Keep.of_same (ps := [d]) (same_new (o := .lst [.int 2, .int 3, .int 6, .int 12]) hp)
        obtain ⟨x, hx, x0, x1⟩ := four_most r0' r1'
        have ep := k3 _ _ (upd_at (o := .lst [.int 2, .int 3, .int 6, .int 12]) hp) (fun z => (D2.ne hp).1 (List.mem_singleton.mp z).symm)
        refine ⟨p, _, r', _, rfl, rfl, SqL.of ep, hx, d, c, 1 + r, x, rfl, D3, by omega, by omega, x0, x1, fun H4 l ns k4 D4 el ln hb => ?_⟩
        have sl := sum_le (c := 12) (l := ns) fun y hy => (hb y hy).2
        have nn : ns ≠ [] := fun z => by rw [z] at ln; simp at ln; omega
        have sp := sum_pos (l := ns) (fun y hy => (hb y hy).1) nn
        refine ⟨_, rfl, _, rfl, l, ns, rfl, SqL.of el, _, rfl, _, rfl, _, rfl, _, _, rfl, rfl, d, c, m - (1 + r), rfl, D4, by omega, by omega, fun H5 r5 k5 D5 r50 r51 => ⟨_, _, rfl, rfl, d, c, ns.sum, 1 + r5, rfl, D5, sp, by omega, by omega, by omega, fun H6 l2 ns2 k6 D6 el2 ne2 ln2 p2 s2 => ?_⟩⟩
        have el6 := k6 _ _ (k5 _ _ el (fun z => D4.nl el (List.mem_singleton.mp z))) (fun z => D4.nl el (List.mem_singleton.mp z))
        refine ⟨_, rfl, d, c, 2, rfl, D6, by decide, by decide, fun H7 r7 k7 D7 r70 r71 => ⟨rfl, _, rfl, ?_⟩⟩
        have el7 := k7 _ _ el6 (fun z => D4.nl el (List.mem_singleton.mp z))
        have el27 := k7 _ _ el2 (fun z => D6.nl el2 (List.mem_singleton.mp z))
        have kk := ((((((k1.trans k2).trans kp).trans k3).trans k4).trans k5).trans k6).trans k7
        have dr : Drawn ns ns2 m := ⟨fun y hy => (hb y hy).1, p2, s2.symm, nn, ne2, by omega, by omega⟩
        refine ite2 (fun c0 => ?_) (fun c0 => ?_)
        · refine ⟨_, rfl, _, rfl, Qw.s2, fun t ht => ?_⟩
          have st := same_new (o := .tup [.ref l2, .ref l]) ht
          exact k _ t l2 l ns2 ns (kk.trans (Keep.of_same st)) (D7.same st) upd_same (st _ _ el27) (st _ _ el7) dr.swap
        · refine ⟨_, rfl, _, rfl, Qw.s2, fun t ht => ?_⟩
          have st := same_new (o := .tup [.ref l, .ref l2]) ht
          exact k _ t l l2 ns ns2 (kk.trans (Keep.of_same st)) (D7.same st) upd_same (st _ _ el7) (st _ _ el27) dr
def sp_law_drawn (K : PySem.W.Frag) : Sp := fun vs H Q _ => ∃ (d c : Addr) (m : Int), vs = [.ref d, .int m] ∧ DiceAt H d c ∧ 2 ≤ m ∧ m ≤ 8 ∧
  ∀ (H' : Hp) (x t la lb u : Addr) (A B : List Int) (p q : Int), Keep [d] H H' → H' x = some (.tup [.ref t, .ref u]) → H' t = some (.tup [.ref la, .ref lb]) → H' la = some (.lst (A.map V.int)) → H' lb = some (.lst (B.map V.int)) → At2 K H' u (p, q) → Unit' p q → Drawn A B m → Q (.ref x) H'
theorem ok_law_drawn (T : Tx K mg) : FnOk P w K mg base CX0 8 T.law_drawn.f T.law_drawn.fd ["_law_dice_here", "_law_most"] (sp_law_drawn K) := by
  have G_law_lists := ok_law_lists (P := P) (w := w) (base := base) T 4
  have G_law_unit := ok_law_unit (P := P) (w := w) (base := base) T
  refine T.law_drawn.F.ok sc_law_drawn (fun vs H Q E h => ?_) (fun cdv A outer s H vs Q E hr h => ?_)
  · obtain ⟨d, c, m, rfl, _⟩ := h
    rfl
  · obtain ⟨d, c, m, rfl, hD, m0, m8, k⟩ := h
    refine ⟨_, (pss_cons (ps_set (i := 2) sc_law_drawn.nd rfl (Or.inl rfl) (pe_call G_law_lists (hr.mono (by decide)) (by rfl) T.law_lists.g T.law_lists.kp T.law_lists.b .nil pass0 (pa_cons (pv 0) (pa_cons (pv 1) pa_nil))))
      (pss_one (ps_ret (pe_tup (pa_cons (pv 2) (pa_cons (pe_call G_law_unit (hr.mono (by decide)) (by rfl) T.law_unit.g T.law_unit.kp T.law_unit.b .nil pass0 (pa_cons (pv 0) pa_nil)) pa_nil)))))), ?_⟩
    have nin : ∀ {b : Addr}, b ≠ d → b ∉ [d] := fun n z => n (List.mem_singleton.mp z)
    refine ⟨_, rfl, _, rfl, d, c, m, rfl, hD, m0, (by show m ≤ 2 * (3 : Int) + 3; omega), m8, fun H1 t la lb A1 B1 k1 D1 e1 ea eb dr => ?_⟩
    refine ⟨_, rfl, _, rfl, d, c, rfl, D1, fun H2 u p q k2 D2 hu U => ⟨Qw.s2, fun x hx => ?_⟩⟩
    have sx := same_new (o := .tup [.ref t, .ref u]) hx
    exact k _ x t la lb u A1 B1 p q ((k1.trans k2).trans (Keep.of_same sx)) upd_same (sx _ _ (k2 _ _ e1 (nin (D1.nt e1)))) (sx _ _ (k2 _ _ ea (nin (D1.nl ea)))) (sx _ _ (k2 _ _ eb (nin (D1.nl eb)))) (same_tup sx hu) U dr
end
end Qw
set_option Elab.async false
set_option maxRecDepth 100000
set_option linter.all false
set_option maxHeartbeats 4000000
/-! QWD: the numbers of all ways, as the law leads them. -/
namespace Qw
open PySem PySem.Spec PyProof.Rows L2
theorem all_flat : ∀ ns : List Int, (ns.map V.int).all flatV = true
  | [] => rfl
  | n :: ns => by
    rw [List.map_cons, List.all_cons, all_flat ns]
    rfl
theorem inV_ints (x : Int) : ∀ ns : List Int, inV (.int x) (ns.map V.int) = decide (x ∈ ns)
  | [] => rfl
  | n :: ns => by
    have ih := inV_ints x ns
    unfold inV at ih ⊢
    rw [List.map_cons, List.any_cons, ih, Bool.eq_iff_iff]
    have e : eqV (V.int n) (V.int x) = true ↔ n = x := by
      simp [eqV]
    rw [Bool.or_eq_true, e, decide_eq_true_iff, decide_eq_true_iff, List.mem_cons]
    constructor
    · rintro (z | z)
      · exact .inl z.symm
      · exact .inr z
    · rintro (z | z)
      · exact .inl z.symm
      · exact .inr z
section
variable {P : Program} {w : World} {K : PySem.W.Frag} {mg : Str → Option Value} {base : Heap}
theorem KeyAt.keep {ps : List Addr} {H H' : Hp} {q : Addr} {k : List Int × List Int} (e : Keep ps H H') (m : Mu ps H) (h : KeyAt K H q k) : KeyAt K H' q k := by
  obtain ⟨q1, q2, h1, h2, h3⟩ := h
  exact ⟨q1, q2, keep_tup e m h1, keep_tup e m h2, keep_tup e m h3⟩
theorem KeyAt.same {H H' : Hp} {q : Addr} {k : List Int × List Int} (e : Same H H') (h : KeyAt K H q k) : KeyAt K H' q k := by
  obtain ⟨q1, q2, h1, h2, h3⟩ := h
  exact ⟨q1, q2, same_tup e h1, same_tup e h2, same_tup e h3⟩
/-- the memo tells the truth -/
structure MemoOk (K : PySem.W.Frag) (H : Hp) (xs : List NE) : Prop where
  nd : (nkeys xs).Nodup
  ks : KeysAt K H xs
  vs : ∀ e ∈ xs, ∃ ns : List Int, SqT K H e.2.2 (ns.map V.int) ∧ IsNums e.1.1 e.1.2 ns
theorem MemoOk.keep {ps : List Addr} {H H' : Hp} {xs : List NE} (e : Keep ps H H') (m : Mu ps H) (h : MemoOk K H xs) : MemoOk K H' xs :=
  ⟨h.nd, fun x hx => (h.ks x hx).keep e m, fun x hx => by
    obtain ⟨ns, h1, h2⟩ := h.vs x hx
    exact ⟨ns, keep_tup e m h1, h2⟩⟩
theorem MemoOk.same {H H' : Hp} {xs : List NE} (e : Same H H') (h : MemoOk K H xs) : MemoOk K H' xs :=
  ⟨h.nd, fun x hx => (h.ks x hx).same e, fun x hx => by
    obtain ⟨ns, h1, h2⟩ := h.vs x hx
    exact ⟨ns, same_tup e h1, h2⟩⟩
theorem MemoOk.snoc {H : Hp} {xs : List NE} (h : MemoOk K H xs) {k : List Int × List Int} {q r : Addr} {ns : List Int} (hk : k ∉ nkeys xs) (hq : KeyAt K H q k) (hr : SqT K H r (ns.map V.int)) (N : IsNums k.1 k.2 ns) : MemoOk K H (xs ++ [(k, q, r)]) := by
  refine ⟨?_, fun x hx => ?_, fun x hx => ?_⟩
  · unfold nkeys at hk ⊢
    rw [List.map_append, List.nodup_append]
    refine ⟨h.nd, by simp, fun a ha b hb e => ?_⟩
    rw [List.map_cons, List.map_nil, List.mem_singleton] at hb
    have hb : b = k := hb
    exact hk (by rw [← hb, ← e]; exact ha)
  · rcases List.mem_append.mp hx with hx | hx
    · exact h.ks x hx
    · rw [List.mem_singleton.mp hx]
      exact hq
  · rcases List.mem_append.mp hx with hx | hx
    · exact h.vs x hx
    · rw [List.mem_singleton.mp hx]
      exact ⟨ns, hr, N⟩
theorem mu_ndo {H : Hp} {k : Addr} {xs : List NE} (h : H k = some (NdO P w k xs)) : Mu [k] H := fun b hb => by
  rw [List.mem_singleton.mp hb, h]
  trivial
/-- the double loop, ahead of the pair (i, j) -/
structure NI (P : Program) (w : World) (K : PySem.W.Frag) (H H' : Hp) (k l : Addr) (xs : List NE) (A B : List Int) (m i j : Nat) (F : List Int) (ys : List NE) (c : Nat) : Prop where
  kp : Keep [k] H H'
  kn : H' k = some (NdO P w k ys)
  mo : MemoOk K H' ys
  fl : H' l = some (.lst (F.map V.int))
  le : ys.length ≤ xs.length + c * cap m
  new : ∀ e ∈ ys, e ∈ xs ∨ nz e.1.1 + nz e.1.2 + 1 ≤ nz A + nz B
  so : ∀ x ∈ F, ∃ n : Nat, x = (n : Int) + 1 ∧ Ways A B (n + 1)
  co : ∀ i' j' : Nat, (i' < i ∨ (i' = i ∧ j' < j)) → j' < B.length → CanPay A B ((i' : Int), (j' : Int)) → First A i' → First B j' → ∀ n, Ways (payA A B ((i' : Int), (j' : Int))) (payB A B ((i' : Int), (j' : Int))) n → (n : Int) + 1 ∈ F
  len : F.length ≤ 72 * i + 9 * j
  cnt : c ≤ nz (A.take i) * nz B + (if A.getD i 0 = 0 then 0 else nz (B.take j))
theorem NI.same {H H' H2 H5 : Hp} {k l : Addr} {xs : List NE} {A B : List Int} {m i j : Nat} {F : List Int} {ys : List NE} {c : Nat} (_ : H l = none) (_ : H5 l = none) (s : Same H' H2) (h : NI P w K H H' k l xs A B m i j F ys c) : NI P w K H H2 k l xs A B m i j F ys c :=
  ⟨h.kp.trans (Keep.of_same s), s _ _ h.kn, h.mo.same s, s _ _ h.fl, h.le, h.new, h.so, h.co, h.len, h.cnt⟩
/-- the pair (i, j) gives nothing -/
theorem NI.skip {H H' : Hp} {k l : Addr} {xs : List NE} {A B : List Int} {m i j : Nat} {F : List Int} {ys : List NE} {c : Nat} (h : NI P w K H H' k l xs A B m i j F ys c) (hj : j < B.length) (n : ¬ (CanPay A B ((i : Int), (j : Int)) ∧ First A i ∧ First B j)) : NI P w K H H' k l xs A B m i (j + 1) F ys c := by
  refine ⟨h.kp, h.kn, h.mo, h.fl, h.le, h.new, h.so, fun i' j' hi hj' cp fi fj => ?_, by have := h.len; omega, ?_⟩
  · by_cases e : i' = i ∧ j' = j
    · obtain ⟨rfl, rfl⟩ := e
      exact absurd ⟨cp, fi, fj⟩ n
    · exact h.co i' j' (by omega) hj' cp fi fj
  · have := h.cnt
    have z := nz_take hj
    by_cases e : A.getD i 0 = 0
    · rw [if_pos e] at this ⊢
      exact this
    · rw [if_neg e] at this ⊢
      omega
/-- the row i is through -/
theorem NI.row {H H' : Hp} {k l : Addr} {xs : List NE} {A B : List Int} {m i : Nat} {F : List Int} {ys : List NE} {c : Nat} (h : NI P w K H H' k l xs A B m i B.length F ys c) (hi : i < A.length) (h8 : B.length ≤ 8) : NI P w K H H' k l xs A B m (i + 1) 0 F ys c := by
  refine ⟨h.kp, h.kn, h.mo, h.fl, h.le, h.new, h.so, fun i' j' hi hj' cp fi fj => h.co i' j' (by omega) hj' cp fi fj, by have := h.len; omega, ?_⟩
  have := h.cnt
  rw [nz_take hi, Nat.add_mul]
  rw [List.take_length] at this
  by_cases e : A.getD i 0 = 0
  · rw [if_pos e] at this ⊢
    omega
  · rw [if_neg e] at this ⊢
    omega
theorem nz_take_le (A : List Int) (i : Nat) : nz (A.take i) ≤ nz A := by
  have := nz_app (A.take i) (A.drop i)
  rw [List.take_append_drop] at this
  omega
theorem can_pos2 {A B : List Int} {i j : Nat} (c : CanPay A B ((i : Int), (j : Int))) : A.getD i 0 ≠ 0 ∧ B.getD j 0 ≠ 0 ∨ A.getD i 0 < 0 ∨ B.getD j 0 < 0 := by
  have h : 0 < mn (A.getD i 0) (B.getD j 0) := c.2.2.2.2
  have h1 := mn_le1 (A.getD i 0) (B.getD j 0)
  have h2 := mn_le2 (A.getD i 0) (B.getD j 0)
  omega
theorem can_ne {A B : List Int} {i j : Nat} (c : CanPay A B ((i : Int), (j : Int))) : A.getD i 0 ≠ 0 ∧ B.getD j 0 ≠ 0 := by
  have h : 0 < mn (A.getD i 0) (B.getD j 0) := c.2.2.2.2
  have h1 := mn_le1 (A.getD i 0) (B.getD j 0)
  have h2 := mn_le2 (A.getD i 0) (B.getD j 0)
  omega
theorem NI.step {H H' H2 : Hp} {k l : Addr} {xs : List NE} {A B : List Int} {m i j : Nat} {F : List Int} {ys ys' : List NE} {c : Nat} {ns : List Int} (h : NI P w K H H' k l xs A B m i j F ys c) (hi : i < A.length) (hj : j < B.length) (cp : CanPay A B ((i : Int), (j : Int)))
    (kp : Keep [k] H H2) (kn : H2 k = some (NdO P w k ys')) (mo : MemoOk K H2 ys') (fl : H2 l = some (.lst ((F ++ ns.map (· + 1)).map V.int))) (le : ys'.length ≤ ys.length + cap m)
    (new : ∀ e ∈ ys', e ∈ ys ∨ nz e.1.1 + nz e.1.2 ≤ nz (payA A B ((i : Int), (j : Int))) + nz (payB A B ((i : Int), (j : Int)))) (N : IsNums (payA A B ((i : Int), (j : Int))) (payB A B ((i : Int), (j : Int))) ns) (l9 : ns.length ≤ 9) :
    NI P w K H H2 k l xs A B m i (j + 1) (F ++ ns.map (· + 1)) ys' (c + 1) := by
  have zp := (nz_pay cp).1
  obtain ⟨cx, cy⟩ := can_ne cp
  refine ⟨kp, kn, mo, fl, ?_, fun e he => ?_, fun x hx => ?_, fun i' j' hij hj' cp' fi fj n w => ?_, ?_, ?_⟩
  · have := h.le
    rw [Nat.succ_mul]
    omega
  · rcases new e he with z | z
    · exact h.new e z
    · exact .inr (by omega)
  · rcases List.mem_append.mp hx with hx | hx
    · exact h.so x hx
    · obtain ⟨y, hy, rfl⟩ := List.mem_map.mp hx
      obtain ⟨n, rfl, w⟩ := (N.mem y).mp hy
      exact ⟨n, rfl, .pay cp w⟩
  · by_cases e : i' = i ∧ j' = j
    · obtain ⟨rfl, rfl⟩ := e
      exact List.mem_append_right _ (List.mem_map.mpr ⟨(n : Int), (N.mem _).mpr ⟨n, rfl, w⟩, rfl⟩)
    · exact List.mem_append_left _ (h.co i' j' (by omega) hj' cp' fi fj n w)
  · have := h.len
    rw [List.length_append, List.length_map]
    omega
  · have := h.cnt
    have z := nz_take hj
    rw [if_neg cx] at this ⊢
    rw [if_neg cy] at z
    omega
theorem NI.room {H H' : Hp} {k l : Addr} {xs : List NE} {A B : List Int} {m i j : Nat} {F : List Int} {ys : List NE} {c : Nat} (h : NI P w K H H' k l xs A B m i j F ys c) (hi : i < A.length) (hj : j < B.length) (cp : CanPay A B ((i : Int), (j : Int))) (hn : nz A + nz B ≤ m + 1) : ys.length + cap m ≤ xs.length + cap (m + 1) := by
  obtain ⟨cx, cy⟩ := can_ne cp
  have c1 := h.cnt
  rw [if_neg cx] at c1
  have z1 := nz_take hi
  rw [if_neg cx] at z1
  have z2 := nz_take hj
  rw [if_neg cy] at z2
  have t1 := nz_take_le A (i + 1)
  have t2 := nz_take_le B (j + 1)
  have q := mul_le_quarter _ _ _ hn
  have p1 : (nz (A.take i) + 1) * nz B ≤ nz A * nz B := Nat.mul_le_mul_right _ (by omega)
  rw [Nat.succ_mul] at p1
  have p2 : (c + 1) * cap m ≤ ((m + 1) * (m + 1) / 4) * cap m := Nat.mul_le_mul_right _ (by omega)
  rw [Nat.succ_mul] at p2
  have := h.le
  show _ ≤ xs.length + (1 + ((m + 1) * (m + 1) / 4) * cap m)
  omega
theorem NI.done {H H' : Hp} {k l : Addr} {xs : List NE} {A B : List Int} {m : Nat} {F : List Int} {ys : List NE} {c : Nat} (h : NI P w K H H' k l xs A B m A.length 0 F ys c) (hn : nz A + nz B ≤ m + 1) : ys.length + 1 ≤ xs.length + cap (m + 1) := by
  have c1 := h.cnt
  rw [List.take_length, List.getD_eq_getElem?_getD, List.getElem?_eq_none (Nat.le_refl _)] at c1
  have c2 : c ≤ nz A * nz B + 0 := c1
  have q := mul_le_quarter _ _ _ hn
  have p2 : c * cap m ≤ ((m + 1) * (m + 1) / 4) * cap m := Nat.mul_le_mul_right _ (by omega)
  have := h.le
  show _ ≤ xs.length + (1 + ((m + 1) * (m + 1) / 4) * cap m)
  omega
/-- xs[:i] + [xs[i] - m] + xs[i + 1:] -/
theorem cut_join {σ : L2.St} {H : Hp} {Q : VK} {va vi vm : Nat} {a : Addr} {A : List Int} {i : Nat} {m : Int} (e1 : σ[va]? = some (some (.ref a))) (e2 : σ[vi]? = some (some (.int (i : Int)))) (e3 : σ[vm]? = some (some (.int m))) (ha : H a = some (.lst (A.map V.int))) (hi : i < A.length) (h8 : A.length ≤ 8)
    (k : ∀ H' l, Same H H' → H' l = some (.lst ((A.set i (A.getD i 0 - m)).map V.int)) → Q (.ref l) H') :
    tOp rCat (tOp rCat (tSl (rSlL K) (tVar va) tNoPart (tPart (tVar vi))) (tLst (tCons (tOp (rI0 fun i j => V.int (i - j)) (tOp (rIxL K) (tVar va) (tVar vi)) (tVar vm)) tNil))) (tSl (rSlL K) (tVar va) (tPart (tOp (rI0 fun i j => V.int (i + j)) (tVar vi) (tC (.int 1)))) tNoPart) σ H Q := by
  refine ⟨_, e1, _, e2, _, rfl, a, _, rfl, SqL.of ha, fun q1 h1 => ?_⟩
  rw [take_ints]
  have s1 := same_new (o := .lst ((A.take i).map V.int)) h1
  refine ⟨_, e1, _, e2, a, _, (i : Int), .int (A.getD i 0), rfl, rfl, SqL.of (s1 _ _ ha), atI_nat (by rw [List.getElem?_map, getD_at hi]; rfl), _, e3, _, _, rfl, rfl, Qw.s1, fun q2 h2 => ?_⟩
  have s2 := same_new (o := .lst [.int (A.getD i 0 - m)]) h2
  refine ⟨q1, q2, _, _, rfl, rfl, s2 _ _ (upd_at h1), upd_at h2, Qw.sz (by rw [List.length_map, List.length_take]; show _ + 1 ≤ _; omega), fun q3 h3 => ?_⟩
  have s3 := same_new (o := .lst ((A.take i).map V.int ++ [.int (A.getD i 0 - m)])) h3
  refine ⟨_, e1, _, e2, _, _, rfl, rfl, _, rfl, a, _, rfl, SqL.of (s3 _ _ (s2 _ _ (s1 _ _ ha))), fun q4 h4 => ?_⟩
  have ec : cutV (A.map V.int) (some ((i : Int) + 1)) none = (A.drop (i + 1)).map V.int := by
    rw [show (i : Int) + 1 = ((i + 1 : Nat) : Int) from rfl, cut_from, List.map_drop]
  rw [ec] at *
  have s4 := same_new (o := .lst ((A.drop (i + 1)).map V.int)) h4
  refine ⟨q3, q4, _, _, rfl, rfl, s4 _ _ (upd_at h3), upd_at h4, Qw.sz (by rw [List.length_append, List.length_map, List.length_map, List.length_take, List.length_drop]; show _ + 1 + _ ≤ _; omega), fun q5 h5 => ?_⟩
  have s5 := same_new (o := .lst ((A.take i).map V.int ++ [.int (A.getD i 0 - m)] ++ (A.drop (i + 1)).map V.int)) h5
  refine k _ q5 ((((s1.trans s2).trans s3).trans s4).trans s5) ?_
  rw [← set_cut hi, List.map_append, List.map_append]
  exact upd_same
/-- xs[i] not in xs[:i] -/
theorem first_test {σ : L2.St} {H : Hp} {Qb : Bool → Hp → Prop} {va vi : Nat} {a : Addr} {A : List Int} {i : Nat} (e1 : σ[va]? = some (some (.ref a))) (e2 : σ[vi]? = some (some (.int (i : Int)))) (ha : H a = some (.lst (A.map V.int))) (hi : i < A.length)
    (k : ∀ H' b, Same H H' → (b = true ↔ First A i) → Qb b H') : tTest (tOp (rIn K true) (tOp (rIxL K) (tVar va) (tVar vi)) (tSl (rSlL K) (tVar va) tNoPart (tPart (tVar vi)))) σ H Qb := by
  refine ⟨_, e1, _, e2, a, _, (i : Int), .int (A.getD i 0), rfl, rfl, SqL.of ha, atI_nat (by rw [List.getElem?_map, getD_at hi]; rfl), _, e1, _, e2, _, rfl, a, _, rfl, SqL.of ha, fun q1 h1 => ?_⟩
  rw [take_ints]
  refine ⟨q1, _, rfl, .inl (SqL.of (upd_at h1)), rfl, all_flat _, _, rfl, k _ _ (same_new h1) ?_⟩
  show (!inV (.int (A.getD i 0)) ((A.take i).map V.int)) = true ↔ First A i
  rw [inV_ints]
  unfold First
  simp
theorem gname_by {i : Nat} {v : V} {σ : L2.St} {H : Hp} {Q : L2.St → Hp → Prop} (h : Q (σ.set i (some v)) H) : gName i v σ H Q := h
def sp_law_numbers (P : Program) (w : World) (K : PySem.W.Frag) : Nat → Sp
  | 0 => fun _ _ _ _ => False
  | n + 1 => fun vs H Q _ => ∃ (a b k : Addr) (A B : List Int) (xs : List NE), vs = [.ref a, .ref b, .ref k] ∧ H a = some (.lst (A.map V.int)) ∧ H b = some (.lst (B.map V.int)) ∧ Nneg A ∧ Nneg B ∧ A.sum = B.sum ∧ A.length ≤ 8 ∧ B.length ≤ 8 ∧ nz A + nz B ≤ n ∧ n ≤ 8 ∧
    H k = some (NdO P w k xs) ∧ MemoOk K H xs ∧ xs.length + cap n ≤ 1000000 ∧
    ∀ (H' : Hp) (r : Addr) (ns : List Int) (ys : List NE), Keep [k] H H' → H' k = some (NdO P w k ys) → MemoOk K H' ys → ys.length ≤ xs.length + cap n → (∀ e ∈ ys, e ∈ xs ∨ nz e.1.1 + nz e.1.2 ≤ nz A + nz B) → SqT K H' r (ns.map V.int) → IsNums A B ns → Q (.ref r) H'
theorem ok_law_numbers (T : Tx K mg) : ∀ n : Nat, FnOk P w K mg base CX0 (1 + n) T.law_numbers.f T.law_numbers.fd ["_law_owed", "_law_due", "_law_known"] (sp_law_numbers P w K n)
  | 0 => by
    refine T.law_numbers.F.ok sc_law_numbers (fun vs H Q E h => ?_) (fun cdv A outer s H vs Q E hr h => ?_)
    · exact (show False from h).elim
    · exact (show False from h).elim
  | n + 1 => by
    have G_law_numbers := ok_law_numbers T n
    refine T.law_numbers.F.ok sc_law_numbers (fun vs H Q E h => ?_) (fun cdv A outer s H vs Q E hr h => ?_)
    · obtain ⟨a, b, k, A, B, xs, rfl, _⟩ := h
      rfl
    · obtain ⟨a, b, k, a0, b0, xs, rfl, ha, hb, na, nb, es, la, lb, nzl, n8, hk, mo, cz, q⟩ := h
      have hr := hr.mono (j := 1 + n) (Nat.le_refl _)
      refine ⟨_, (pss_cons (ps_if (pt_cmpR op_eq (pe_callB (cr_sum rfl) (by rfl) T.z_sum (by decide +kernel) (pa_cons (pv 0) pa_nil)) pe_int (nomark _)) (pss_one (ps_ret (pe_tup (pa_cons pe_int pa_nil)))) pss_nil)
      (pss_cons (ps_set (i := 3) sc_law_numbers.nd rfl (Or.inl rfl) (pe_tup (pa_cons (pe_callTy call_tuple_of (by rfl) T.z_tuple (by decide +kernel) (pa_cons (pe_callB (cr_sortedI) (by rfl) T.z_sorted (by decide +kernel) (pa_cons (pv 0) pa_nil)) pa_nil)) (pa_cons (pe_callTy call_tuple_of (by rfl) T.z_tuple (by decide +kernel) (pa_cons (pe_callB (cr_sortedI) (by rfl) T.z_sorted (by decide +kernel) (pa_cons (pv 1) pa_nil)) pa_nil)) pa_nil))))
      (pss_cons (ps_if (pt_cmpR (op_notIn_nd hr.units) (pv 3) (pv 2) rfl) (pss_cons (ps_set (i := 4) sc_law_numbers.nd rfl (Or.inl rfl) (pe_lst pa_nil))
      (pss_cons (ps_for PassesOwn.never rfl (pi_range1 rfl T.z_range (pa_cons (pe_callB (r := rLenK K) call_len_seq (by rfl) T.z_len (by decide +kernel) (pa_cons (pv 0) pa_nil)) pa_nil)) (pg_name (i := 5) sc_law_numbers.nd rfl (Or.inl rfl)) (pss_one (ps_for PassesOwn.never rfl (pi_range1 rfl T.z_range (pa_cons (pe_callB (r := rLenK K) call_len_seq (by rfl) T.z_len (by decide +kernel) (pa_cons (pv 1) pa_nil)) pa_nil)) (pg_name (i := 6) sc_law_numbers.nd rfl (Or.inl rfl)) (pss_cons (ps_set (i := 7) sc_law_numbers.nd rfl (Or.inl rfl) (pe_callB (call_min2 rfl) (by rfl) T.z_min (by decide +kernel) (pa_cons (pe_ix (r := rIxL K) ix_list (pv 0) (pv 5) (fun _ _ => rfl)) (pa_cons (pe_ix (r := rIxL K) ix_list (pv 1) (pv 6) (fun _ _ => rfl)) pa_nil))))
      (pss_one (ps_if ((pw_and (pt_cmpR op_gt (pv 7) pe_int (nomark _)) (pw_and (pt_cmpR op_notIn_seq (pe_ix (r := rIxL K) ix_list (pv 0) (pv 5) (fun _ _ => rfl)) (pe_slice sl_list (pv 0) po_none (po_some (pv 5))) rfl) (pw_and1 (pt_cmpR op_notIn_seq (pe_ix (r := rIxL K) ix_list (pv 1) (pv 6) (fun _ _ => rfl)) (pe_slice sl_list (pv 1) po_none (po_some (pv 6))) rfl))))).pt (pss_cons (ps_set (i := 8) sc_law_numbers.nd rfl (Or.inl rfl) (pe_op op_cat (pe_op op_cat (pe_slice sl_list (pv 0) po_none (po_some (pv 5))) (pe_lst (pa_cons (pe_op op_sub (pe_ix (r := rIxL K) ix_list (pv 0) (pv 5) (fun _ _ => rfl)) (pv 7)) pa_nil))) (pe_slice sl_list (pv 0) (po_some (pe_op op_add (pv 5) pe_int)) po_none)))
      (pss_cons (ps_set (i := 9) sc_law_numbers.nd rfl (Or.inl rfl) (pe_op op_cat (pe_op op_cat (pe_slice sl_list (pv 1) po_none (po_some (pv 6))) (pe_lst (pa_cons (pe_op op_sub (pe_ix (r := rIxL K) ix_list (pv 1) (pv 6) (fun _ _ => rfl)) (pv 7)) pa_nil))) (pe_slice sl_list (pv 1) (po_some (pe_op op_add (pv 6) pe_int)) po_none)))
      (pss_one (ps_expr (pe_bm PySem.F.plainAttrs_list PySem.F.slot_list_extend PySem.F.type_list_extend mt_extend (pv 4) (pa_cons (pe_lc (own := [("_law_number", 10)]) (g := gName 10) (tt := tYes) (by rfl) sc_law_numbers.nd (pi_tup (pe_call G_law_numbers (hr.mono (by omega)) (by rfl) T.law_numbers.g T.law_numbers.kp T.law_numbers.b .nil pass0 (pa_cons (pv 8) (pa_cons (pv 9) (pa_cons (pv 2) pa_nil))))) (blkOk_by (own := [("_law_number", 10)]) (N := ["_law_owed", "_law_due", "_law_known", "_law_key", "_law_found", "_law_ower", "_law_taker", "_law_amount_here", "_law_left", "_law_rest", "_law_number"]) (sc := defScope s_law_numbers) (by decide +kernel)) (fun _ _ _ _ _ => pg_name (i := 10) sc_law_numbers.nd rfl (Or.inl rfl)) (fun _ _ _ _ _ => pts_nil) (fun _ _ _ _ _ => (pe_op op_add (pv 10) pe_int))) pa_nil)))))) pss_nil))))))
      (pss_one (ps_asg (pe_callTy call_tuple_of (by rfl) T.z_tuple (by decide +kernel) (pa_cons (pe_callB (cr_sortedSet rfl) (by rfl) T.z_sorted (by decide +kernel) (pa_cons (pe_callTy (call_setL rfl) (by rfl) T.z_set (by decide +kernel) (pa_cons (pv 4) pa_nil)) pa_nil)) pa_nil)) (pg_sub (pv 2) (pv 3) (set_nd hr.units)))))) pss_nil)
      (pss_one (ps_ret (pe_ix (ix_nd hr.units) (pv 2) (pv 3) (fun _ _ => rfl))))))), ?_⟩
      refine ⟨_, rfl, a, a0, rfl, SqL.of ha, rfl, _, rfl, ?_⟩
      refine ite2 (fun c0 => ?_) (fun c0 => ?_)
      · have z : a0.sum = 0 := V.int.inj (of_decide_eq_true c0)
        refine ⟨Qw.s1, fun t ht => ?_⟩
        have st := same_new (o := .tup [.int 0]) ht
        exact q _ t [0] xs (Keep.of_same st) (st _ _ hk) (mo.same st) (by omega) (fun e he => .inl he) (SqT.of upd_same) (nums_zero na nb es z)
      have nz0 : a0.sum ≠ 0 := fun z => c0 (by rw [z]; rfl)
      -- the key
      refine ⟨_, rfl, a, a0, rfl, SqL.of ha, fun A' p1 pA sA hp1 => ?_⟩
      have m1 := same_new (o := .lst (A'.map V.int)) hp1
      refine ⟨p1, _, rfl, .inl ⟨SqL.of (upd_at hp1), fun t1 ht1 => ?_⟩⟩
      have m2 := same_new (o := .tup (A'.map V.int)) ht1
      have m12 := m1.trans m2
      refine ⟨_, rfl, b, b0, rfl, SqL.of (m12 _ _ hb), fun B' p2 pB sB hp2 => ?_⟩
      have m3 := same_new (o := .lst (B'.map V.int)) hp2
      refine ⟨p2, _, rfl, .inl ⟨SqL.of (upd_at hp2), fun t2 ht2 => ⟨Qw.s2, fun z hz => ?_⟩⟩⟩
      have m4 := same_new (o := .tup (B'.map V.int)) ht2
      have m5 := same_new (o := .tup [.ref t1, .ref t2]) hz
      have m345 := (m3.trans m4).trans m5
      have sm := m12.trans m345
      have key : KeyAt K _ z (A', B') := ⟨t1, t2, SqT.of (upd_at (o := .tup [.ref t1, .ref t2]) hz), SqT.of (m345 _ _ (upd_at (o := .tup (A'.map V.int)) ht1)), SqT.of (m5 _ _ (upd_at (o := .tup (B'.map V.int)) ht2))⟩
      generalize upd (upd (upd (upd (upd H p1 _) t1 _) p2 _) t2 _) z _ = H5 at sm key ⊢
      clear m1 m2 m12 m3 m4 m5 m345 hp1 ht1 hp2 ht2 hz
      have ha5 := sm _ _ ha
      have hb5 := sm _ _ hb
      have hk5 := sm _ _ hk
      have mo5 := mo.same sm
      have nzk : nz A' + nz B' = nz a0 + nz b0 := by rw [nz_perm pA, nz_perm pB]
      refine gname_by ?_
      dsimp only
      refine seq_by (fun σ H' => ∃ (x4 x5 x6 x7 x8 x9 x10 : Option V) (ys : List NE) (p r : Addr), σ = [some (.ref a), some (.ref b), some (.ref k), some (.ref z), x4, x5, x6, x7, x8, x9, x10] ∧ Keep [k] H H' ∧ H' k = some (NdO P w k ys) ∧ MemoOk K H' ys ∧ ys.length ≤ xs.length + cap n ∧ (∀ e ∈ ys, e ∈ xs ∨ nz e.1.1 + nz e.1.2 ≤ nz a0 + nz b0) ∧ ((A', B'), p, r) ∈ ys ∧ KeyAt K H' z (A', B')) (fun N hN => ?_) ?_
      · refine ⟨_, rfl, _, rfl, z, k, (A', B'), xs, rfl, rfl, key, hk5, mo5.ks, fun bb hbb => ⟨bb, rfl, ?_⟩⟩
        cases bb with
        | false =>
          refine iteF (hN _ _ ?_)
          have hin : (A', B') ∈ nkeys xs := Classical.byContradiction fun z => by
            have := hbb.mpr z
            cases this
          obtain ⟨⟨kk, p, r⟩, me, e⟩ := List.mem_map.mp hin
          cases e
          exact ⟨none, none, none, none, none, none, none, xs, p, r, rfl, Keep.of_same sm, hk5, mo5, by omega, fun e he => .inl he, me, key⟩
        | true =>
          have nin := hbb.mp rfl
          refine iteT ⟨Nat.zero_le _, fun l hl => ?_⟩
          have nA : nz a0 ≠ 0 := fun z => nz0 (sum_zero_nz z)
          obtain ⟨m, rfl⟩ : ∃ m, n = m + 1 := ⟨n - 1, by omega⟩
          have sl := same_new (o := .lst []) hl
          have hl0 : H l = none := by
            cases e : H l with
            | none => rfl
            | some o => rw [sm _ _ e] at hl; cases hl
          have nkl : k ≠ l := ne_of_none hk5 hl
          have nka : a ≠ k := ne_of ha hk (by intro z; cases z)
          have nkb : b ≠ k := ne_of hb hk (by intro z; cases z)
          have keepa : ∀ {H'}, Keep [k] H H' → H' a = some (.lst (a0.map V.int)) := fun kk => kk _ _ ha (fun z => nka (List.mem_singleton.mp z))
          have keepb : ∀ {H'}, Keep [k] H H' → H' b = some (.lst (b0.map V.int)) := fun kk => kk _ _ hb (fun z => nkb (List.mem_singleton.mp z))
          have N0 : NI P w K H (upd H5 l (.lst [])) k l xs a0 b0 m 0 0 [] xs 0 := ⟨Keep.of_same (sm.trans sl), sl _ _ hk5, mo5.same sl, upd_same, Nat.le_add_right _ _, fun e he => .inl he, fun x hx => (by cases hx), fun i' j' h => by omega, by simp, Nat.zero_le _⟩
          have key0 := key.same sl
          have mu0 := mu_ndo (P := P) (w := w) (sl _ _ hk5)
          have kpz : ∀ {H'}, Keep [k] H H' → Keep [k] (upd H5 l (.lst [])) H' → True := fun _ _ => trivial
          refine ⟨_, rfl, a, _, rfl, .inl (SqL.of (keepa N0.kp)), (a0.length : Int), by rw [List.length_map], by omega, by omega, ?_⟩
          refine for_range (lo := 0) (n := a0.length) (fun i σ H' => ∃ (x5 x6 x7 x8 x9 x10 : Option V) (F : List Int) (ys : List NE) (c : Nat), σ = [some (.ref a), some (.ref b), some (.ref k), some (.ref z), some (.ref l), x5, x6, x7, x8, x9, x10] ∧ NI P w K H H' k l xs a0 b0 m i 0 F ys c ∧ KeyAt K H' z (A', B'))
            ⟨none, none, none, none, none, none, [], xs, 0, rfl, N0, key0⟩ ?_ ?_
          · rintro i σ H6 hi ⟨x5, x6, x7, x8, x9, x10, F, ys, c, rfl, NN, key6⟩
            rw [show (0 : Int) + (i : Int) = (i : Int) from Int.zero_add _]
            refine ⟨_, rfl, b, _, rfl, .inl (SqL.of (keepb NN.kp)), (b0.length : Int), by rw [List.length_map], by omega, by omega, ?_⟩
            refine for_range (lo := 0) (n := b0.length) (fun j σ H' => ∃ (x6 x7 x8 x9 x10 : Option V) (F : List Int) (ys : List NE) (c : Nat), σ = [some (.ref a), some (.ref b), some (.ref k), some (.ref z), some (.ref l), some (.int (i : Int)), x6, x7, x8, x9, x10] ∧ NI P w K H H' k l xs a0 b0 m i j F ys c ∧ KeyAt K H' z (A', B'))
              ⟨x6, x7, x8, x9, x10, F, ys, c, rfl, NN, key6⟩ ?_ ?_
            · rintro j σ H7 hj ⟨x6, x7, x8, x9, x10, F, ys, c, rfl, NJ, key7⟩
              rw [show (0 : Int) + (j : Int) = (j : Int) from Int.zero_add _]
              have ha7 := keepa NJ.kp
              have hb7 := keepb NJ.kp
              refine ⟨_, rfl, _, rfl, a, _, (i : Int), .int (a0.getD i 0), rfl, rfl, SqL.of ha7, atI_nat (by rw [List.getElem?_map, getD_at hi]; rfl), _, rfl, _, rfl, b, _, (j : Int), .int (b0.getD j 0), rfl, rfl, SqL.of hb7, atI_nat (by rw [List.getElem?_map, getD_at hj]; rfl), _, _, rfl, ?_⟩
              have rng : CanPay a0 b0 ((i : Int), (j : Int)) ↔ 0 < mn (a0.getD i 0) (b0.getD j 0) := ⟨fun h => h.2.2.2.2, fun h => ⟨by omega, by omega, by omega, by omega, h⟩⟩
              refine ⟨_, rfl, _, _, rfl, rfl, _, rfl, ?_⟩
              refine ite2 (fun c1 => ?_) (fun c1 => iteF ⟨_, _, _, _, _, F, ys, c, rfl, NJ.skip hj (fun z => c1 (decide_eq_true (rng.mp z.1))), key7⟩)
              have cp : CanPay a0 b0 ((i : Int), (j : Int)) := rng.mpr (of_decide_eq_true c1)
              refine first_test rfl rfl ha7 hi fun H8 bb s8 hbb => ?_
              have N8 := NJ.same hl0 hl s8
              have key8 := key7.same s8
              cases bb with
              | false => exact iteF (iteF ⟨_, _, _, _, _, F, ys, c, rfl, N8.skip hj (fun z => by have := hbb.mpr z.2.1; cases this), key8⟩)
              | true =>
              have fi := hbb.mp rfl
              refine iteT ?_
              refine first_test rfl rfl (keepb N8.kp) hj fun H9 b2 s9 hb2 => ?_
              have N9 := N8.same hl0 hl s9
              have key9 := key8.same s9
              cases b2 with
              | false => exact iteF ⟨_, _, _, _, _, F, ys, c, rfl, N9.skip hj (fun z => by have := hb2.mpr z.2.2; cases this), key9⟩
              | true =>
              have fj := hb2.mp rfl
              refine iteT ?_
              refine cut_join rfl rfl rfl (keepa N9.kp) hi la fun H10 l1 s10 e10 => ?_
              have N10 := N9.same hl0 hl s10
              refine cut_join rfl rfl rfl (keepb N10.kp) hj lb fun H11 l2 s11 e11 => ?_
              have N11 := N10.same hl0 hl s11
              have key11 := (key9.same s10).same s11
              have e10 := s11 _ _ e10
              have zp := (nz_pay cp).1
              have pn := pay_nneg cp na nb
              have rm := N11.room hi hj cp nzl
              refine ⟨_, rfl, .inl ⟨rfl, _, SqL.of N11.fl⟩, _, rfl, _, rfl, _, rfl, l1, l2, k, payA a0 b0 ((i : Int), (j : Int)), payB a0 b0 ((i : Int), (j : Int)), ys, rfl, e10, e11, pn.1, pn.2, pay_sum cp es, ?_, ?_, by omega, by omega, N11.kn, N11.mo, by omega, fun H12 r ns ys' kp12 kn12 mo12 le12 new12 hr12 N12 => ?_⟩
              · unfold payA
                rw [List.length_set]
                exact la
              · unfold payB
                rw [List.length_set]
                exact lb
              have mu11 := mu_ndo N11.kn
              have ns9 := (nums_small N12 pn.1 pn.2 (pay_sum cp es) (by omega)).2
              have fl12 := kp12 _ _ N11.fl (fun z => nkl (List.mem_singleton.mp z).symm)
              refine ⟨r, rfl, ⟨_, hr12⟩, fun D hD => ?_⟩
              refine lc_tup (K := K) (a := r) (xs := ns.map V.int) (fun jj H' => Same H12 H' ∧ H' D = some (.lst (((ns.take jj).map (· + 1)).map V.int))) ⟨same_new hD, upd_same⟩ (fun jj H' _ ⟨s, _⟩ => same_tup s hr12) ?_ ?_
              · rintro jj y H' hjj ⟨s, hd⟩
                obtain ⟨x, hx, rfl⟩ := map_nth hjj
                have := lt_of_at hx
                refine ⟨rfl, _, rfl, _, _, rfl, rfl, _, hd, ?_, ?_, ?_⟩
                · rw [List.length_map, List.length_map, List.length_take]
                  exact sz' (by omega)
                · intro b' u e
                  rw [upd_ne (ne_of_none e hD)]
                  exact s _ _ e
                · rw [upd_same, take_snoc hx, List.map_append, List.map_append]
                  rfl
              · rintro H' ⟨s, hd⟩
                rw [List.length_map, List.take_length] at hd
                have lenF := N11.len
                refine ⟨l, D, _, _, rfl, rfl, s _ _ fl12, hd, Qw.sz (by rw [List.length_map, List.length_map, List.length_map]; omega), ?_⟩
                have kl : Keep [l] H' (upd H' l (.lst (F.map V.int ++ (ns.map (· + 1)).map V.int))) := (Keep.refl _ _).upd (List.mem_singleton.mpr rfl)
                have mul : Mu [l] H' := fun b' hb' => by
                  rw [List.mem_singleton.mp hb', s _ _ fl12]
                  trivial
                refine ⟨_, _, _, _, _, F ++ ns.map (· + 1), ys', c + 1, rfl, N11.step hi hj cp ?_ ?_ ((mo12.same s).keep kl mul) ?_ le12 new12 N12 ns9, (((key11.keep kp12 mu11).same s).keep kl mul)⟩
                · intro b' o e nb
                  rw [upd_ne (ne_of_none e hl0)]
                  exact s _ _ ((N11.kp.trans kp12) _ _ e nb)
                · rw [upd_ne nkl]
                  exact s _ _ kn12
                · rw [upd_same, List.map_append]
            · rintro σ H7 ⟨x6, x7, x8, x9, x10, F, ys, c, rfl, NJ, key7⟩
              exact ⟨_, x6, x7, x8, x9, x10, F, ys, c, rfl, NJ.row hi lb, key7⟩
          · rintro σ H6 ⟨x5, x6, x7, x8, x9, x10, F, ys, c, rfl, NN, key6⟩
            have rm := NN.done nzl
            have l0 := NN.len
            refine ⟨_, rfl, l, F, rfl, SqL.of NN.fl, (by show F.length + 1 < 4096; omega), fun sp cc hsp hcc => ?_⟩
            have t1 := same_new (o := SetO w sp (fun j => decide (j ∈ F)) cc) hsp
            have c64 : cc < 64 := by
              have := hcc upto8 fun x hx => by
                obtain ⟨n, rfl, wy⟩ := NN.so x hx
                have := (ways_bound wy na nb es).1
                exact mem_upto8 (n := n + 1) (by omega)
              exact Nat.lt_of_le_of_lt this (by decide)
            refine ⟨sp, _, _, rfl, upd_same, c64, fun ns pl asc mem len hpl => ?_⟩
            have t2 := same_new (o := .lst (ns.map V.int)) hpl
            refine ⟨pl, _, rfl, .inl ⟨SqL.of (upd_at hpl), fun tp htp => ?_⟩⟩
            have t3 := same_new (o := .tup (ns.map V.int)) htp
            have t123 := (t1.trans t2).trans t3
            have etp := upd_at (o := .tup (ns.map V.int)) htp
            generalize upd (upd (upd H6 sp _) pl _) tp _ = H9 at t123 etp ⊢
            have N1 : IsNums a0 b0 ns := nums_of nz0 asc (fun x => (mem x).trans decide_eq_true_iff) NN.so fun i j h1 h2 cp fi fj n w => NN.co i j (.inl h1) h2 cp fi fj n w
            have nin' : (A', B') ∉ nkeys ys := fun hh => by
              obtain ⟨⟨kk, p, r⟩, me, e⟩ := List.mem_map.mp hh
              cases e
              rcases NN.new _ me with z | z
              · exact nin (List.mem_map.mpr ⟨_, z, rfl⟩)
              · have z : nz A' + nz B' + 1 ≤ nz a0 + nz b0 := z
                omega
            have kn9 := t123 _ _ NN.kn
            have mo9 := NN.mo.same t123
            have key9 := key6.same t123
            have kw : Keep [k] H9 (upd H9 k (NdO P w k (ys ++ [((A', B'), z, tp)]))) := (Keep.refl _ _).upd (List.mem_singleton.mpr rfl)
            have mu9 := mu_ndo kn9
            refine ⟨_, rfl, _, rfl, z, k, tp, (A', B'), ys, rfl, rfl, rfl, key9, kn9, mo9.ks, nin', sz' (by omega), hN _ _ ?_⟩
            refine ⟨_, _, _, _, _, _, _, ys ++ [((A', B'), z, tp)], z, tp, rfl, (NN.kp.trans (Keep.of_same t123)).trans kw, upd_same, (mo9.snoc nin' key9 (SqT.of etp) (N1.perm pA.symm pB.symm)).keep kw mu9, by rw [List.length_append]; exact rm, fun e he => ?_, List.mem_append_right _ (List.mem_singleton.mpr rfl), key9.keep kw mu9⟩
            rcases List.mem_append.mp he with he | he
            · rcases NN.new e he with z | z
              · exact .inl z
              · exact .inr (by omega)
            · rw [List.mem_singleton.mp he]
              exact .inr (Nat.le_of_eq nzk)
      · rintro σ H' ⟨x4, x5, x6, x7, x8, x9, x10, ys, p, r, rfl, kp, kn, mo', le, new, me, key'⟩
        obtain ⟨ns, hr1, N1⟩ := mo'.vs _ me
        exact ⟨_, rfl, _, rfl, z, k, (A', B'), ys, p, r, rfl, rfl, key', kn, mo'.ks, me, q H' r ns ys kp kn mo' le new hr1 (N1.perm pA pB)⟩
end
end Qw
set_option Elab.async false
set_option maxRecDepth 100000
set_option linter.all false
set_option maxHeartbeats 4000000
/-! QWE: the law's own account of a way, of the greatest number. -/
namespace Qw
open PySem PySem.Spec PyProof.Rows L2
def wayD (ws : List (Int × Int)) : List PyData := ws.map fun q => .tuple [.int q.1, .int q.2]
theorem way_dp {K : PySem.W.Frag} {H : Hp} : ∀ {us : List V} {ws : List (Int × Int)}, Fvs K H us ws → DpAll K H us (wayD ws)
  | _, _, .nil => .nil
  | _, _, .cons h t => by
    obtain ⟨q, rfl, hq⟩ := h
    exact .cons (dp2 hq) (way_dp t)
theorem way_lay : ∀ ws : List (Int × Int), PyData.canLayAll0 (wayD ws) = true ∧ PyData.depthAll (wayD ws) ≤ 1
  | [] => ⟨rfl, Nat.zero_le _⟩
  | q :: ws => by
    obtain ⟨h1, h2⟩ := way_lay ws
    constructor
    · show (PyData.canLay0 (.tuple [.int q.1, .int q.2]) && PyData.canLayAll0 (wayD ws)) = true
      rw [h1]
      simp [PyData.canLay0, PyData.canLayAll0]
    · show max (PyData.depth (.tuple [.int q.1, .int q.2])) (PyData.depthAll (wayD ws)) ≤ 1
      simp [PyData.depth, PyData.depthAll]
      exact Nat.max_le.mpr ⟨Nat.le_refl _, h2⟩
theorem way_shp (ws : List (Int × Int)) : SeqAt.shaped (.tuple (wayD ws)) = true := by
  obtain ⟨h1, h2⟩ := way_lay ws
  show (PyData.canLayAll0 (wayD ws) && decide (PyData.depthAll (wayD ws) + 1 ≤ 64)) = true
  rw [h1, decide_eq_true (by omega)]
  rfl
theorem way_eqv : ∀ ws : List (Int × Int), PyData.eqvAll (wayD ws) (wayD ws) = true
  | [] => rfl
  | q :: ws => by
    show (PyData.eqv (.tuple [.int q.1, .int q.2]) (.tuple [.int q.1, .int q.2]) && PyData.eqvAll (wayD ws) (wayD ws)) = true
    rw [way_eqv ws, eqv2]
    simp
section
variable {P : Program} {w : World} {K : PySem.W.Frag} {mg : Str → Option Value} {base : Heap}
theorem fold_small : ∀ (l : List Int) (d : Int), 0 ≤ d → d ≤ 300 → (∀ n ∈ l, 0 < n ∧ n ≤ 300) → 0 ≤ l.foldl (fun d n => gz n d) d ∧ l.foldl (fun d n => gz n d) d ≤ 300
  | [], d, h0, h1, _ => ⟨h0, h1⟩
  | n :: l, d, h0, h1, h => by
    obtain ⟨n0, n1⟩ := h n List.mem_cons_self
    have g : gz n d ≤ n := Int.le_of_dvd n0 (gz_dvd1 n d)
    exact fold_small l (gz n d) (gz_nonneg n d) (by omega) fun m hm => h m (List.mem_cons_of_mem _ hm)
theorem fold_measure {A B : List Int} (N : Num A B) : (A ++ B).foldl (fun d n => gz n d) 0 = measureL A B := by
  have hA := N.a
  have hne := N.ne
  cases A with
  | nil => exact absurd rfl hne
  | cons x A => exact gcd_from0 (A ++ B) (hA x List.mem_cons_self)
def sp_law_whole : Sp := fun vs H Q _ => ∃ x : Int, vs = [.int x, .int x] ∧ Q (.bl true) H
theorem ok_law_whole (T : Tx K mg) : FnOk P w K mg base CX0 1 T.law_whole.f T.law_whole.fd ["_law_told", "_law_due"] sp_law_whole := by
  refine T.law_whole.F.ok sc_law_whole (fun vs H Q E h => ?_) (fun cdv A outer s H vs Q E hr h => ?_)
  · obtain ⟨x, rfl, _⟩ := h
    rfl
  · obtain ⟨x, rfl, k⟩ := h
    refine ⟨_, (pss_one (ps_ret (pe_and (pe_callB (r := rIsi K) call_isi (by rfl) T.z_isinstance (by decide +kernel) (pa_cons (pv 0) (pa_cons (pe_bltn (v := .ty "int") (by rfl) T.z_int (by decide +kernel) rfl) pa_nil))) (pe_and (pe_not (pe_callB (r := rIsi K) call_isi (by rfl) T.z_isinstance (by decide +kernel) (pa_cons (pv 0) (pa_cons (pe_bltn (v := .ty "bool") (by rfl) T.z_bool (by decide +kernel) rfl) pa_nil)))) (pe_one (pe_cmpR op_eq (pv 0) (pv 1) (nomark _))))))), ?_⟩
    refine ⟨_, rfl, .int x, .ty "int", .type "int", .type "int", true, rfl, .ty _, ty_int, kit_ty (by decide +kernel), _, rfl, iteT ?_⟩
    refine ⟨_, rfl, .int x, .ty "bool", .type "int", .type "bool", false, rfl, .ty _, ty_int, kit_ty (by decide +kernel), _, rfl, _, rfl, iteT ⟨_, rfl, _, rfl, rfl, ?_⟩⟩
    show Q (.bl (decide (V.int x = V.int x))) H
    rw [decide_eq_true rfl]
    exact k
def sp_law_greatest (K : PySem.W.Frag) : Sp := fun vs H Q _ => ∃ (l la lb : Addr) (A B : List Int), vs = [.ref l] ∧ SqT K H l [.ref la, .ref lb] ∧ H la = some (.lst (A.map V.int)) ∧ H lb = some (.lst (B.map V.int)) ∧ Num A B ∧ A.sum ≤ 300 ∧
  ∀ H', Same H H' → Q (.int (greatestG (measureL A B) A B)) H'
theorem ok_law_greatest (T : Tx K mg) : FnOk P w K mg base CX0 2 T.law_greatest.f T.law_greatest.fd ["_law_lists_here"] (sp_law_greatest K) := by
  have G_law_divisor := ok_law_divisor (P := P) (w := w) (base := base) T
  refine T.law_greatest.F.ok sc_law_greatest (fun vs H Q E h => ?_) (fun cdv A outer s H vs Q E hr h => ?_)
  · obtain ⟨l, la, lb, A, B, rfl, _⟩ := h
    rfl
  · obtain ⟨l, la, lb, a0, b0, rfl, hl, hA, hB, N, h3, k⟩ := h
    refine ⟨_, (pss_cons (ps_set (i := 1) sc_law_greatest.nd rfl (Or.inl rfl) pe_int)
      (pss_cons (ps_for PassesOwn.never rfl (pi_list (pe_op op_cat (pe_callTy call_list_of (by rfl) T.z_list (by decide +kernel) (pa_cons (pe_ix (r := rIxT K) ix_tup (pv 0) pe_int (fun _ _ => rfl)) pa_nil)) (pe_callTy call_list_of (by rfl) T.z_list (by decide +kernel) (pa_cons (pe_ix (r := rIxT K) ix_tup (pv 0) pe_int (fun _ _ => rfl)) pa_nil)))) (pg_name (i := 2) sc_law_greatest.nd rfl (Or.inl rfl)) (pss_one (ps_set (i := 1) sc_law_greatest.nd rfl (Or.inl rfl) (pe_call G_law_divisor (hr.mono (by decide)) (by rfl) T.law_divisor.g T.law_divisor.kp T.law_divisor.b .nil pass0 (pa_cons (pv 2) (pa_cons (pv 1) pa_nil))))))
      (pss_one (ps_ret (pe_callB (call_min2 rfl) (by rfl) T.z_min (by decide +kernel) (pa_cons (pe_op op_sub (pe_op op_add (pe_callB (r := rLenK K) call_len_seq (by rfl) T.z_len (by decide +kernel) (pa_cons (pe_ix (r := rIxT K) ix_tup (pv 0) pe_int (fun _ _ => rfl)) pa_nil)) (pe_callB (r := rLenK K) call_len_seq (by rfl) T.z_len (by decide +kernel) (pa_cons (pe_ix (r := rIxT K) ix_tup (pv 0) pe_int (fun _ _ => rfl)) pa_nil))) pe_int) (pa_cons (pe_op op_fdivN (pe_callB (cr_sum rfl) (by rfl) T.z_sum (by decide +kernel) (pa_cons (pe_ix (r := rIxT K) ix_tup (pv 0) pe_int (fun _ _ => rfl)) pa_nil)) (pv 1)) pa_nil))))))), ?_⟩
    refine ⟨_, rfl, l, _, 0, _, rfl, rfl, hl, at_nat (by decide) rfl, la, _, rfl, .inl (SqL.of hA), fun q1 h1 => ?_⟩
    have s1 := same_new (o := .lst (a0.map V.int)) h1
    refine ⟨_, rfl, l, _, 1, _, rfl, rfl, same_tup s1 hl, at_nat (by decide) rfl, lb, _, rfl, .inl (SqL.of (s1 _ _ hB)), fun q2 h2 => ?_⟩
    have s2 := same_new (o := .lst (b0.map V.int)) h2
    have lA := N.la
    have lB := N.lb
    refine ⟨q1, q2, _, _, rfl, rfl, s2 _ _ (upd_at h1), upd_at h2, Qw.sz (by rw [List.length_map, List.length_map]; omega), fun q3 hq3 => ?_⟩
    have s3 := same_new (o := .lst (a0.map V.int ++ b0.map V.int)) hq3
    have e3 : (upd _ q3 (.lst (a0.map V.int ++ b0.map V.int))) q3 = _ := upd_at hq3
    have sm := (s1.trans s2).trans s3
    generalize upd (upd (upd H q1 _) q2 _) q3 _ = H3 at *
    rw [← List.map_append] at e3
    have small : ∀ n ∈ a0 ++ b0, 0 < n ∧ n ≤ 300 := fun n hn => by
      rcases List.mem_append.mp hn with hn | hn
      · exact ⟨N.a n hn, Int.le_trans (mem_le_sum (fun y hy => Int.le_of_lt (N.a y hy)) hn) h3⟩
      · exact ⟨N.b n hn, Int.le_trans (mem_le_sum (fun y hy => Int.le_of_lt (N.b y hy)) hn) (by rw [← N.eq]; exact h3)⟩
    have IG := measureL_gcd N.a N.b N.ne
    have IG1 : measureL a0 b0 ≤ 300 := by
      rw [← fold_measure N]
      exact (fold_small _ 0 (by decide) (by decide) small).2
    refine ⟨q3, rfl, ⟨_, SqL.of e3⟩, for_list (K := K) (a := q3) (xs := (a0 ++ b0).map V.int) (fun i σ H' => ∃ x2 : Option V, σ = [some (.ref l), some (.int (((a0 ++ b0).take i).foldl (fun d n => gz n d) 0)), x2] ∧ H' = H3) ⟨none, rfl, rfl⟩ (fun i σ H' _ ⟨_, _, e⟩ => by rw [e]; exact SqL.of e3) ?_ ?_⟩
    · rintro i y σ H' hi ⟨x2, rfl, rfl⟩
      obtain ⟨n, hn, rfl⟩ := map_nth hi
      have fs := fold_small ((a0 ++ b0).take i) 0 (by decide) (by decide) fun m hm => small m (List.mem_of_mem_take hm)
      refine ⟨_, rfl, _, rfl, n, _, rfl, Int.le_of_lt (small n (List.mem_of_getElem? hn)).1, fs.1, by omega, some (.int n), ?_, rfl⟩
      rw [take_snoc hn, List.foldl_append]
      rfl
    · rintro σ H' ⟨x2, rfl, rfl⟩
      rw [List.length_map, List.take_length, fold_measure N]
      have hl3 := same_tup sm hl
      have hA3 := sm _ _ hA
      have hB3 := sm _ _ hB
      refine ⟨_, rfl, l, _, 0, _, rfl, rfl, hl3, at_nat (by decide) rfl, la, _, rfl, .inl (SqL.of hA3), _, rfl, l, _, 1, _, rfl, rfl, hl3, at_nat (by decide) rfl, lb, _, rfl, .inl (SqL.of hB3), _, _, rfl, rfl, _, _, rfl, rfl, _, rfl, l, _, 0, _, rfl, rfl, hl3, at_nat (by decide) rfl, la, a0, rfl, SqL.of hA3, _, rfl, _, _, rfl, rfl, ⟨Int.ne_of_gt IG.pos, ?_⟩, _, _, rfl, ?_⟩
      · have := IG.pos
        omega
      rw [List.length_map, List.length_map, Int.fdiv_eq_ediv_of_nonneg _ (Int.le_of_lt IG.pos)]
      exact k _ sm
def sp_law_is_way (K : PySem.W.Frag) : Sp := fun vs H Q _ => ∃ (l la lb a : Addr) (A B A' B' : List Int) (us : List V) (ws : List (Int × Int)), vs = [.ref l, .ref a, .int ws.length] ∧ SqT K H l [.ref la, .ref lb] ∧ H la = some (.lst (A.map V.int)) ∧ H lb = some (.lst (B.map V.int)) ∧ SqT K H a us ∧ Fvs K H us ws ∧
  Plays A B ws A' B' ∧ A'.sum = 0 ∧ ∀ H', Same H H' → Q (.bl true) H'
theorem ok_law_is_way (T : Tx K mg) : FnOk P w K mg base CX0 1 T.law_is_way.f T.law_is_way.fd ["_law_lists_here", "_law_way", "_law_many"] (sp_law_is_way K) := by
  refine T.law_is_way.F.ok sc_law_is_way (fun vs H Q E h => ?_) (fun cdv A outer s H vs Q E hr h => ?_)
  · obtain ⟨l, la, lb, a, A, B, A', B', us, ws, rfl, _⟩ := h
    rfl
  · obtain ⟨l, la, lb, a, a0, b0, a1, b1, us, ws, rfl, hl, hA, hB, ha, hf, hp, h0, k⟩ := h
    refine ⟨_, (pss_cons (ps_if ((pw_or (pt_not (pt_val (pe_callB (r := rIsi K) call_isi (by rfl) T.z_isinstance (by decide +kernel) (pa_cons (pv 1) (pa_cons (pe_bltn (v := .ty "tuple") (by rfl) T.z_tuple (by decide +kernel) rfl) pa_nil))))) (pw_or1 (pt_cmpR op_ne (pe_callB (r := rLenK K) call_len_seq (by rfl) T.z_len (by decide +kernel) (pa_cons (pv 1) pa_nil)) (pv 2) (nomark _))))).pt (pss_one (ps_ret pe_bl)) pss_nil)
      (pss_cons (ps_set (i := 3) sc_law_is_way.nd rfl (Or.inl rfl) (pe_callTy call_list_of (by rfl) T.z_list (by decide +kernel) (pa_cons (pe_ix (r := rIxT K) ix_tup (pv 0) pe_int (fun _ _ => rfl)) pa_nil)))
      (pss_cons (ps_set (i := 4) sc_law_is_way.nd rfl (Or.inl rfl) (pe_callTy call_list_of (by rfl) T.z_list (by decide +kernel) (pa_cons (pe_ix (r := rIxT K) ix_tup (pv 0) pe_int (fun _ _ => rfl)) pa_nil)))
      (pss_cons (ps_for PassesOwn.never rfl (pi_tup (pv 1)) (pg_name (i := 5) sc_law_is_way.nd rfl (Or.inl rfl)) (pss_cons (ps_if ((pw_or (pt_not (pt_val (pe_callB (r := rIsi K) call_isi (by rfl) T.z_isinstance (by decide +kernel) (pa_cons (pv 5) (pa_cons (pe_bltn (v := .ty "tuple") (by rfl) T.z_tuple (by decide +kernel) rfl) pa_nil))))) (pw_or1 (pt_cmpR op_ne (pe_callB (r := rLenK K) call_len_seq (by rfl) T.z_len (by decide +kernel) (pa_cons (pv 5) pa_nil)) pe_int (nomark _))))).pt (pss_one (ps_ret pe_bl)) pss_nil)
      (pss_cons (ps_if (pt_not (pt_val (pe_callB (cr_all rfl) (by rfl) T.z_all (by decide +kernel) (pa_cons (pe_lc (own := [("_law_person", 7)]) (g := gName 7) (tt := tYes) (by rfl) sc_law_is_way.nd (pi_tup (pv 5)) (blkOk_by (own := [("_law_person", 7)]) (N := ["_law_lists_here", "_law_way", "_law_many", "_law_owed", "_law_due", "_law_pair", "_law_amount_here", "_law_person"]) (sc := defScope s_law_is_way) (by decide +kernel)) (fun _ _ _ _ _ => pg_name (i := 7) sc_law_is_way.nd rfl (Or.inl rfl)) (fun _ _ _ _ _ => pts_nil) (fun _ _ _ _ _ => (pe_and (pe_callB (r := rIsi K) call_isi (by rfl) T.z_isinstance (by decide +kernel) (pa_cons (pv 7) (pa_cons (pe_bltn (v := .ty "int") (by rfl) T.z_int (by decide +kernel) rfl) pa_nil))) (pe_and (pe_not (pe_callB (r := rIsi K) call_isi (by rfl) T.z_isinstance (by decide +kernel) (pa_cons (pv 7) (pa_cons (pe_bltn (v := .ty "bool") (by rfl) T.z_bool (by decide +kernel) rfl) pa_nil)))) (pe_one (pe_cmpR op_ge (pv 7) pe_int (nomark _))))))) pa_nil)))) (pss_one (ps_ret pe_bl)) pss_nil)
      (pss_cons (ps_if ((pw_or (pt_cmpR op_ge (pe_ix (r := rIxT K) ix_tup (pv 5) pe_int (fun _ _ => rfl)) (pe_callB (r := rLenK K) call_len_seq (by rfl) T.z_len (by decide +kernel) (pa_cons (pv 3) pa_nil)) (nomark _)) (pw_or1 (pt_cmpR op_ge (pe_ix (r := rIxT K) ix_tup (pv 5) pe_int (fun _ _ => rfl)) (pe_callB (r := rLenK K) call_len_seq (by rfl) T.z_len (by decide +kernel) (pa_cons (pv 4) pa_nil)) (nomark _))))).pt (pss_one (ps_ret pe_bl)) pss_nil)
      (pss_cons (ps_set (i := 6) sc_law_is_way.nd rfl (Or.inl rfl) (pe_callB (call_min2 rfl) (by rfl) T.z_min (by decide +kernel) (pa_cons (pe_ix (r := rIxL K) ix_list (pv 3) (pe_ix (r := rIxT K) ix_tup (pv 5) pe_int (fun _ _ => rfl)) (fun _ _ => rfl)) (pa_cons (pe_ix (r := rIxL K) ix_list (pv 4) (pe_ix (r := rIxT K) ix_tup (pv 5) pe_int (fun _ _ => rfl)) (fun _ _ => rfl)) pa_nil))))
      (pss_cons (ps_if (pt_cmpR op_eq (pv 6) pe_int (nomark _)) (pss_one (ps_ret pe_bl)) pss_nil)
      (pss_cons (ps_asg (pe_op op_sub (pe_ix (r := rIxL K) ix_list (pv 3) (pe_ix (r := rIxT K) ix_tup (pv 5) pe_int (fun _ _ => rfl)) (fun _ _ => rfl)) (pv 6)) (pg_sub (pv 3) (pe_ix (r := rIxT K) ix_tup (pv 5) pe_int (fun _ _ => rfl)) set_list))
      (pss_one (ps_asg (pe_op op_sub (pe_ix (r := rIxL K) ix_list (pv 4) (pe_ix (r := rIxT K) ix_tup (pv 5) pe_int (fun _ _ => rfl)) (fun _ _ => rfl)) (pv 6)) (pg_sub (pv 4) (pe_ix (r := rIxT K) ix_tup (pv 5) pe_int (fun _ _ => rfl)) set_list))))))))))
      (pss_one (ps_ret (pe_cmpR op_eq (pe_callB (cr_sum rfl) (by rfl) T.z_sum (by decide +kernel) (pa_cons (pv 3) pa_nil)) pe_int (nomark _)))))))), ?_⟩
    have lw := hf.length
    refine ⟨_, rfl, .ref a, .ty "tuple", .type "tuple", .type "tuple", true, rfl, .ty _, ty_tup ha, kit_ty (by decide +kernel), _, rfl, iteF ?_⟩
    refine ⟨_, rfl, a, us, rfl, .inr ha, _, rfl, rfl, _, rfl, ?_⟩
    rw [lw, decide_eq_true rfl]
    refine iteF ?_
    refine ⟨_, rfl, l, _, 0, _, rfl, rfl, hl, at_nat (by decide) rfl, la, _, rfl, .inl (SqL.of hA), fun o ho => ?_⟩
    have s1 := same_new (o := .lst (a0.map V.int)) ho
    refine ⟨_, rfl, l, _, 1, _, rfl, rfl, same_tup s1 hl, at_nat (by decide) rfl, lb, _, rfl, .inl (SqL.of (s1 _ _ hB)), fun d hd => ?_⟩
    have s2 := same_new (o := .lst (b0.map V.int)) hd
    have eo := s2 _ _ (upd_at (o := .lst (a0.map V.int)) ho)
    have ed := upd_at (o := .lst (b0.map V.int)) hd
    have nod : o ≠ d := ne_of_none (upd_at (o := .lst (a0.map V.int)) ho) hd
    have hd0 := upd_none hd
    have sm := s1.trans s2
    generalize upd (upd H o _) d _ = H2 at *
    have k2 : ∀ H', Keep [o, d] H2 H' → Same H H' := fun H' kk b u hb => kk _ _ (sm _ _ hb) (fun z => by
      rcases List.mem_cons.mp z with z | z
      · rw [z, ho] at hb; cases hb
      · rw [List.mem_singleton.mp z, hd0] at hb; cases hb)
    refine ⟨_, rfl, a, rfl, ⟨_, same_tup sm ha⟩, for_tup (K := K) (a := a) (xs := us) (fun i σ H' => ∃ (x5 x6 x7 : Option V) (A1 B1 : List Int), σ = [some (.ref l), some (.ref a), some (.int ws.length), some (.ref o), some (.ref d), x5, x6, x7] ∧ Keep [o, d] H2 H' ∧ H' o = some (.lst (A1.map V.int)) ∧ H' d = some (.lst (B1.map V.int)) ∧ Plays A1 B1 (ws.drop i) a1 b1)
      ⟨none, none, none, a0, b0, rfl, Keep.refl _ _, eo, ed, hp⟩ (fun i σ H' _ ⟨_, _, _, _, _, _, kk, _⟩ => same_tup (k2 _ kk) ha) ?_ ?_⟩
    · rintro i v σ H' hi ⟨x5, x6, x7, A1, B1, rfl, kk, e1, e2, pl⟩
      obtain ⟨pr, hw, z, rfl, hz⟩ := paired_at hf hi
      have ilt := lt_of_at hw
      have edr : ws.drop i = pr :: ws.drop (i + 1) := by
        rw [List.drop_eq_getElem_cons ilt, (List.getElem?_eq_some_iff.mp hw).2]
      rw [edr] at pl
      obtain ⟨c, pl2⟩ : CanPay A1 B1 pr ∧ Plays (payA A1 B1 pr) (payB A1 B1 pr) (ws.drop (i + 1)) a1 b1 := by
        cases pl with
        | cons c h => exact ⟨c, h⟩
      obtain ⟨i0, i1, j0, j1, cm⟩ := id c
      have sH := k2 _ kk
      have hz' : At2 K H' z pr := same_tup sH hz
      refine ⟨_, rfl, .ref z, .ty "tuple", .type "tuple", .type "tuple", true, rfl, .ty _, ty_tup hz', kit_ty (by decide +kernel), _, rfl, iteF ?_⟩
      refine ⟨_, rfl, z, _, rfl, .inr hz', rfl, _, rfl, iteF ?_⟩
      -- all persons whole numbers
      refine ⟨_, rfl, z, rfl, ⟨_, hz'⟩, fun D hD => lc_tup (K := K) (a := z) (xs := [.int pr.1, .int pr.2]) (fun jj H'' => Same H' H'' ∧ H'' D = some (.lst ((List.replicate jj true).map V.bl))) ⟨same_new hD, upd_same⟩ (fun jj H'' _ ⟨s, _⟩ => same_tup s hz') ?_ ?_⟩
      · rintro jj y H'' hjj ⟨s, hD2⟩
        obtain ⟨x, rfl, x0⟩ : ∃ x : Int, y = .int x ∧ 0 ≤ x := by
          match jj, hjj with
          | 0, hjj => exact ⟨pr.1, (Option.some.inj hjj).symm, i0⟩
          | 1, hjj => exact ⟨pr.2, (Option.some.inj hjj).symm, j0⟩
        have jlt := lt_of_at hjj
        refine ⟨rfl, _, rfl, .int x, .ty "int", .type "int", .type "int", true, rfl, .ty _, ty_int, kit_ty (by decide +kernel), _, rfl, iteT ?_⟩
        refine ⟨_, rfl, .int x, .ty "bool", .type "int", .type "bool", false, rfl, .ty _, ty_int, kit_ty (by decide +kernel), _, rfl, _, rfl, iteT ?_⟩
        refine ⟨_, rfl, _, _, rfl, rfl, _, hD2, ?_, ?_, ?_⟩
        · rw [List.length_map, List.length_replicate]
          have jl : jj < 2 := jlt
          exact sz' (by omega)
        · intro b' u e
          rw [upd_ne (ne_of_none e hD)]
          exact s _ _ e
        · rw [upd_same]
          show some (HO.lst ((List.replicate jj true).map V.bl ++ [V.bl (decide (0 ≤ x))])) = _
          rw [decide_eq_true x0, List.replicate_succ', List.map_append]
          rfl
      · rintro H3 ⟨s, hD2⟩
        refine ⟨D, _, rfl, SqL.of hD2, ?_⟩
        rw [all_true]
        refine ⟨_, rfl, iteF ?_⟩
        have hz3 : At2 K H3 z pr := same_tup s hz'
        have e13 := s _ _ e1
        have e23 := s _ _ e2
        refine ⟨_, rfl, z, _, 0, _, rfl, rfl, hz3, pair0 _ _, _, rfl, o, _, rfl, .inl (SqL.of e13), _, _, rfl, rfl, _, rfl, iteDN (by rw [List.length_map]; omega) ?_⟩
        refine ⟨_, rfl, z, _, 1, _, rfl, rfl, hz3, pair1 _ _, _, rfl, d, _, rfl, .inl (SqL.of e23), _, _, rfl, rfl, _, rfl, iteDN (by rw [List.length_map]; omega) ?_⟩
        have xa : atI (A1.map V.int) pr.1 = some (.int (A1.getD pr.1.toNat 0)) := at_nat i0 (by rw [List.getElem?_map, getD_at (by omega)]; rfl)
        have ya : atI (B1.map V.int) pr.2 = some (.int (B1.getD pr.2.toNat 0)) := at_nat j0 (by rw [List.getElem?_map, getD_at (by omega)]; rfl)
        refine ⟨_, rfl, _, rfl, z, _, 0, _, rfl, rfl, hz3, pair0 _ _, o, _, pr.1, _, rfl, rfl, SqL.of e13, xa, _, rfl, _, rfl, z, _, 1, _, rfl, rfl, hz3, pair1 _ _, d, _, pr.2, _, rfl, rfl, SqL.of e23, ya, _, _, rfl, ?_⟩
        refine ⟨_, rfl, rfl, _, rfl, ?_⟩
        refine ite2 (fun c => absurd (V.int.inj (of_decide_eq_true c)) (Int.ne_of_gt cm)) (fun c => ?_)
        have n1 : pr.1.toNat < A1.length := by omega
        refine ⟨_, rfl, _, rfl, z, _, 0, _, rfl, rfl, hz3, pair0 _ _, o, _, pr.1, _, rfl, rfl, SqL.of e13, xa, _, rfl, _, _, rfl, rfl, _, rfl, _, rfl, z, _, 0, _, rfl, rfl, hz3, pair0 _ _, o, _, pr.1, pr.1.toNat, rfl, rfl, e13, ix_nat i0 (by rw [List.length_map]; exact i1), ?_⟩
        have mo : Mu [o] H3 := fun b' hb' => by
          rw [List.mem_singleton.mp hb', e13]
          trivial
        have k3 : Keep [o] H3 (upd H3 o (.lst ((A1.map V.int).set pr.1.toNat (.int (A1.getD pr.1.toNat 0 - amt A1 B1 pr))))) := (Keep.refl _ _).upd (List.mem_singleton.mpr rfl)
        have hz4 : At2 K _ z pr := keep_tup k3 mo hz3
        have e24 := k3 _ _ e23 (fun z => nod (List.mem_singleton.mp z).symm)
        refine ⟨_, rfl, _, rfl, z, _, 1, _, rfl, rfl, hz4, pair1 _ _, d, _, pr.2, _, rfl, rfl, SqL.of e24, ya, _, rfl, _, _, rfl, rfl, _, rfl, _, rfl, z, _, 1, _, rfl, rfl, hz4, pair1 _ _, d, _, pr.2, pr.2.toNat, rfl, rfl, e24, ix_nat j0 (by rw [List.length_map]; exact j1), ?_⟩
        refine ⟨some (.ref z), some (.int (amt A1 B1 pr)), _, payA A1 B1 pr, payB A1 B1 pr, rfl, ?_, ?_, ?_, pl2⟩
        · intro b' u hb nb
          have b1 : b' ≠ o := fun z => nb (by rw [z]; exact List.mem_cons_self)
          have b2 : b' ≠ d := fun z => nb (by rw [z]; exact List.mem_cons_of_mem _ List.mem_cons_self)
          rw [upd_ne b2, upd_ne b1]
          exact s _ _ (kk _ _ hb nb)
        · rw [upd_ne nod, upd_same]
          unfold payA
          rw [List.map_set]
          rfl
        · rw [upd_same]
          unfold payB
          rw [List.map_set]
          rfl
    · rintro σ H' ⟨x5, x6, x7, A1, B1, rfl, kk, e1, e2, pl⟩
      rw [hf.length, List.drop_length] at pl
      obtain ⟨rfl, rfl⟩ : A1 = a1 ∧ B1 = b1 := by
        cases pl with
        | nil => exact ⟨rfl, rfl⟩
      refine ⟨_, rfl, o, A1, rfl, SqL.of e1, rfl, ?_⟩
      rw [h0]
      exact k _ (k2 _ kk)
end
end Qw
set_option Elab.async false
set_option maxRecDepth 100000
set_option linter.all false
set_option maxHeartbeats 4000000
/-! QWF: the law. -/
namespace Qw
open PySem PySem.Spec PyProof.Rows L2
theorem last_at {ns : List Int} (h : ns ≠ []) : atI (ns.map V.int) (-1) = some (.int (ns.getLast h)) := by
  have e : ns.map V.int = ns.dropLast.map V.int ++ [V.int (ns.getLast h)] := by
    conv => lhs; rw [← List.dropLast_concat_getLast h]
    rw [List.map_append]
    rfl
  rw [e]
  exact atI_last _ _
theorem rep_zero {n : Nat} : ∀ x ∈ List.replicate n (0 : Int), x = 0 := fun x hx => List.eq_of_mem_replicate hx
theorem Drawn.num {A B : List Int} {m : Int} (h : Drawn A B m) (hm : m ≤ 8) : Num A B ∧ A.sum ≤ 300 ∧ nz A + nz B ≤ 8 ∧ A.length ≤ 8 ∧ B.length ≤ 8 := by
  have l := h.len
  have s := h.sum
  have za := nz_all h.a
  have zb := nz_all h.b
  exact ⟨⟨h.a, h.b, h.eq, h.ne, h.ne', by omega, by omega, by omega⟩, by omega, by omega, by omega, by omega⟩
section
variable {P : Program} {w : World} {K : PySem.W.Frag} {mg : Str → Option Value} {base : Heap}
def sp_law (K : PySem.W.Frag) : Sp := fun vs H Q _ => ∃ (a : Addr) (ns : List Int), vs = [.ref a] ∧ SqL K H a (ns.map V.int) ∧ ∀ H', Q (.bl true) H'
theorem ok_law (T : Tx K mg) : FnOk P w K mg base CX0 11 T.law.f T.law.fd ["_law_script"] (sp_law K) := by
  have G_law_dice := ok_law_dice (P := P) (w := w) (base := base) T
  have G_law_draw := ok_law_draw (P := P) (w := w) (base := base) T
  have G_law_drawn := ok_law_drawn (P := P) (w := w) (base := base) T
  have G_law_made := ok_law_made (P := P) (w := w) (base := base) T
  have G_law_numbers := ok_law_numbers (P := P) (w := w) (base := base) T 9
  have G_greatest := ok_greatest (P := P) (w := w) (base := base) T
  have G_law_whole := ok_law_whole (P := P) (w := w) (base := base) T
  have G_law_greatest := ok_law_greatest (P := P) (w := w) (base := base) T
  have G_long_way := ok_long_way (P := P) (w := w) (base := base) T
  have G_law_is_way := ok_law_is_way (P := P) (w := w) (base := base) T
  have G_law_flag := ok_law_flag (P := P) (w := w) (base := base) T
  have G_is_way := ok_is_way (P := P) (w := w) (base := base) T
  refine T.law.F.ok sc_law (fun vs H Q E h => ?_) (fun cdv A outer s H vs Q E hr h => ?_)
  · obtain ⟨a, ns, rfl, _⟩ := h
    rfl
  · obtain ⟨a, ns, rfl, ha, k⟩ := h
    refine ⟨_, (pss_cons (ps_set (i := 1) sc_law.nd rfl (Or.inl rfl) (pe_call G_law_dice (hr.mono (by decide)) (by rfl) T.law_dice.g T.law_dice.kp T.law_dice.b .nil pass0 (pa_cons (pv 0) pa_nil)))
      (pss_cons (ps_set (i := 2) sc_law.nd rfl (Or.inl rfl) (pe_op op_add pe_int (pe_callTy call_int1 (by rfl) T.z_int (by decide +kernel) (pa_cons (pe_cmpR op_eq (pe_call G_law_draw (hr.mono (by decide)) (by rfl) T.law_draw.g T.law_draw.kp T.law_draw.b .nil pass0 (pa_cons (pv 1) (pa_cons pe_int pa_nil))) pe_int (nomark _)) pa_nil))))
      (pss_cons (ps_asg (pe_call G_law_drawn (hr.mono (by decide)) (by rfl) T.law_drawn.g T.law_drawn.kp T.law_drawn.b .nil pass0 (pa_cons (pv 1) (pa_cons (pv 2) pa_nil))) (pg_tup rfl (pgs_cons (pg_name (i := 3) sc_law.nd rfl (Or.inl rfl)) (pgs_cons (pg_name (i := 4) sc_law.nd rfl (Or.inl rfl)) pgs_nil))))
      (pss_cons (ps_set (i := 5) sc_law.nd rfl (Or.inl rfl) (pe_call G_law_made (hr.mono (by decide)) (by rfl) T.law_made.g T.law_made.kp T.law_made.b .nil pass0 (pa_cons (pv 3) (pa_cons (pv 4) pa_nil))))
      (pss_cons (ps_set (i := 6) sc_law.nd rfl (Or.inl rfl) (pe_ix (r := rIxT K) ix_tup (pe_call G_law_numbers (hr.mono (by decide)) (by rfl) T.law_numbers.g T.law_numbers.kp T.law_numbers.b .nil pass0 (pa_cons (pe_ix (r := rIxT K) ix_tup (pv 3) pe_int (fun _ _ => rfl)) (pa_cons (pe_ix (r := rIxT K) ix_tup (pv 3) pe_int (fun _ _ => rfl)) (pa_cons pe_dnewN pa_nil)))) (pe_un un_neg pe_int) (fun _ _ => rfl)))
      (pss_cons (ps_set (i := 7) sc_law.nd rfl (Or.inl rfl) (pe_call G_greatest (hr.mono (by decide)) (by rfl) T.greatest.g T.greatest.kp T.greatest.b .nil pass0 (pa_cons (pv 5) pa_nil)))
      (pss_cons (ps_if ((pw_or (pt_not (pt_val (pe_call G_law_whole (hr.mono (by decide)) (by rfl) T.law_whole.g T.law_whole.kp T.law_whole.b .nil pass0 (pa_cons (pv 7) (pa_cons (pv 6) pa_nil))))) (pw_or1 (pt_cmpR op_ne (pv 6) (pe_call G_law_greatest (hr.mono (by decide)) (by rfl) T.law_greatest.g T.law_greatest.kp T.law_greatest.b .nil pass0 (pa_cons (pv 3) pa_nil)) (nomark _))))).pt (pss_one (ps_ret pe_bl)) pss_nil)
      (pss_cons (ps_set (i := 8) sc_law.nd rfl (Or.inl rfl) (pe_call G_long_way (hr.mono (by decide)) (by rfl) T.long_way.g T.long_way.kp T.long_way.b .nil pass0 (pa_cons (pv 5) pa_nil)))
      (pss_cons (ps_if ((pw_or (pt_not (pt_val (pe_call G_law_is_way (hr.mono (by decide)) (by rfl) T.law_is_way.g T.law_is_way.kp T.law_is_way.b .nil pass0 (pa_cons (pv 3) (pa_cons (pv 8) (pa_cons (pv 6) pa_nil)))))) (pw_or1 (pt_not (pt_val (pe_call G_law_flag (hr.mono (by decide)) (by rfl) T.law_flag.g T.law_flag.kp T.law_flag.b .nil pass0 (pa_cons (pe_call G_is_way (hr.mono (by decide)) (by rfl) T.is_way.g T.is_way.kp T.is_way.b .nil pass0 (pa_cons (pv 5) (pa_cons (pv 8) pa_nil))) (pa_cons pe_bl pa_nil)))))))).pt (pss_one (ps_ret pe_bl)) pss_nil)
      (pss_one (ps_ret (pe_and (pe_cmpR (r := rEqD K) (op_eqD hr.units) (pe_call G_long_way (hr.mono (by decide)) (by rfl) T.long_way.g T.long_way.kp T.long_way.b .nil pass0 (pa_cons (pe_call G_law_made (hr.mono (by decide)) (by rfl) T.law_made.g T.law_made.kp T.law_made.b .nil pass0 (pa_cons (pv 3) (pa_cons (pv 4) pa_nil))) pa_nil)) (pv 8) (nomark _)) (pe_one (pe_cmpR op_eq (pe_call G_greatest (hr.mono (by decide)) (by rfl) T.greatest.g T.greatest.kp T.greatest.b .nil pass0 (pa_cons (pv 5) pa_nil)) (pv 7) (nomark _))))))))))))))), ?_⟩
    refine ⟨_, rfl, a, ns, rfl, ha, fun H1 d c s1 D1 => ?_⟩
    refine ⟨_, rfl, d, c, 12, rfl, D1, by decide, by decide, fun H2 r k2 D2 r0 r1 => ⟨rfl, .inr ⟨_, rfl, _, _, rfl, rfl, ?_⟩⟩⟩
    have hm : ∀ b : Bool, 7 ≤ 7 + (if b = true then (1 : Int) else 0) ∧ 7 + (if b = true then (1 : Int) else 0) ≤ 8 := by
      intro b
      cases b <;> decide
    obtain ⟨m7, m8⟩ := hm (decide (V.int r = V.int 0))
    refine ⟨_, rfl, _, rfl, d, c, _, rfl, D2, by omega, m8, fun H3 x t la lb u a0 b0 p q k3 ex et ela elb hu U dr => ⟨x, _, rfl, SqT.of ex, rfl, _, _, rfl, _, _, rfl, rfl, ?_⟩⟩
    obtain ⟨N, n3, nzs, l8, l8'⟩ := dr.num m8
    -- the evening
    refine ⟨_, rfl, _, rfl, t, la, lb, u, a0, b0, p, q, rfl, SqT.of et, SqL.of ela, SqL.of elb, hu, U, N, fun H4 e s4 hE => ?_⟩
    have et4 := s4 _ _ et
    have ea4 := s4 _ _ ela
    have eb4 := s4 _ _ elb
    have hu4 := same_tup s4 hu
    have IG := measureL_gcd N.a N.b N.ne
    -- its numbers
    refine ⟨_, rfl, t, _, 0, _, rfl, rfl, SqT.of et4, at_nat (by decide) rfl, _, rfl, t, _, 1, _, rfl, rfl, SqT.of et4, at_nat (by decide) rfl, fun kk hkk => ?_⟩
    have sk := same_new (o := NdO P w kk []) hkk
    refine ⟨la, lb, kk, a0, b0, [], rfl, sk _ _ ea4, sk _ _ eb4, fun y hy => Int.le_of_lt (N.a y hy), fun y hy => Int.le_of_lt (N.b y hy), N.eq, l8, l8', nzs, by decide, upd_at hkk, ⟨List.nodup_nil, fun y hy => (by cases hy), fun y hy => (by cases hy)⟩, by decide, fun H5 r5 nn ys k5 _ _ _ _ hr5 IN => ?_⟩
    have kk4 : Same H4 H5 := fun b o hb => k5 _ _ (sk _ _ hb) (fun z => by rw [List.mem_singleton.mp z, hkk] at hb; cases hb)
    obtain ⟨hne, hlast⟩ := greatest_last N.a N.b N.eq N.ne IG IN
    refine ⟨_, rfl, r5, _, -1, _, rfl, rfl, hr5, last_at hne, ?_⟩
    rw [hlast]
    have hE5 := hE.same kk4
    have et5 := kk4 _ _ et4
    have ea5 := kk4 _ _ ea4
    have eb5 := kk4 _ _ eb4
    have hu5 := same_tup kk4 hu4
    obtain ⟨plays, wlen⟩ := longG_spec N.a N.b N.eq N.ne IG
    -- told
    refine ⟨_, rfl, e, a0, b0, p, q, rfl, hE5, U, N, fun H6 s6 => ?_⟩
    refine ⟨_, rfl, _, rfl, _, rfl, _, rfl, iteF ?_⟩
    refine ⟨_, rfl, _, rfl, t, la, lb, a0, b0, rfl, SqT.of (s6 _ _ et5), s6 _ _ ea5, s6 _ _ eb5, N, n3, fun H7 s7 => ⟨rfl, _, rfl, ?_⟩⟩
    rw [decide_eq_true rfl]
    refine iteF ?_
    have s67 := s6.trans s7
    have hE7 := hE5.same s67
    -- the long way
    refine ⟨_, rfl, e, a0, b0, p, q, rfl, hE7, U, N, fun aw us H8 s8 sq fv => ?_⟩
    have s68 := s67.trans s8
    have lw : ((longG (measureL a0 b0) a0 b0).length : Int) ≤ 1000 := by
      rw [wlen]
      unfold greatestG
      exact Int.le_trans (mn_le1 _ _) (by omega)
    refine ⟨_, rfl, _, rfl, _, rfl, t, la, lb, aw, a0, b0, _, _, us, longG (measureL a0 b0) a0 b0, by rw [wlen]; rfl, SqT.of (s68 _ _ et5), s68 _ _ ea5, s68 _ _ eb5, sq, fv, plays, sum_replicate0 _, fun H9 s9 => ⟨_, rfl, iteF ?_⟩⟩
    have s69 := s68.trans s9
    have smA : SmL a0 := fun y hy => by
      have := N.sm y (List.mem_append_left _ hy)
      exact ⟨Int.le_of_lt this.1, this.2⟩
    have smB : SmL b0 := fun y hy => by
      have := N.sm y (List.mem_append_right _ hy)
      exact ⟨Int.le_of_lt this.1, this.2⟩
    refine ⟨_, rfl, _, rfl, e, aw, us, longG (measureL a0 b0) a0 b0, a0, b0, _, _, p, q, rfl, hE5.same s69, U, smA, smB, same_tup s9 sq, fv.same s9, plays, by omega, rep_zero, by rw [List.length_replicate]; omega, fun H10 s10 => ⟨rfl, _, rfl, iteF ?_⟩⟩
    have s610 := s69.trans s10
    -- the same again
    refine ⟨_, rfl, _, rfl, t, la, lb, u, a0, b0, p, q, rfl, SqT.of (s610 _ _ et5), SqL.of (s610 _ _ ea5), SqL.of (s610 _ _ eb5), same_tup s610 hu5, U, N, fun H11 e2 s11 hE2 => ?_⟩
    refine ⟨e2, a0, b0, p, q, rfl, hE2, U, N, fun a2 us2 H12 s12 sq2 fv2 => ?_⟩
    have s912 := (s9.trans s10).trans (s11.trans s12)
    refine ⟨_, rfl, _, _, Dp.tup sq2 (way_dp fv2), Dp.tup (same_tup s912 sq) (way_dp (fv.same s912)), way_shp _, way_shp _, _, rfl, ?_⟩
    rw [show PyData.eqv (.tuple (wayD (longG (measureL a0 b0) a0 b0))) (.tuple (wayD (longG (measureL a0 b0) a0 b0))) = true from way_eqv _]
    refine iteT ?_
    refine ⟨_, rfl, e, a0, b0, p, q, rfl, hE5.same ((s69.trans s10).trans (s11.trans s12)), U, N, fun H13 s13 => ⟨_, rfl, rfl, ?_⟩⟩
    rw [decide_eq_true rfl]
    exact k H13
end
end Qw
set_option Elab.async false
set_option maxRecDepth 100000
set_option linter.all false
set_option maxHeartbeats 4000000
/-! QWG: what the top has written (printed by gentext.py), the head. -/
namespace Qw
open PySem PySem.Spec PyProof.Rows L2
structure D0 (K : PySem.W.Frag) (mg : Str → Option Value) (x : Str) (st : Stmt) where
  f : Addr
  fd : FuncData
  F : Fun K x x st f fd
  g : mg x = some (.ref f)
structure M0 (K : PySem.W.Frag) (C : Addr) (x qual : Str) (st : Stmt) where
  f : Addr
  fd : FuncData
  F : Fun K x qual st f fd
  m : Meth K C x f
structure I0 (K : PySem.W.Frag) (C : Addr) (qual : Str) (st : Stmt) where
  f : Addr
  fd : FuncData
  F : Fun K "__init__" qual st f fd
  i : PySem.W.findIn K (.ref C) "__init__" = some (some (.ref f))
  n : PySem.W.isFn K (.ref f) = true
section
variable {K : PySem.W.Frag} {h : Heap} {mg : Str → Option Value} {x qual : Str} {st : Stmt} {f C : Addr} {oc : Value} {od an : Option Addr} {osl : Array (Option Value)} {kV doc pm cdv ct : Value}
def d0_mk (X : K.In h) (G : h.Ns mainGlobals mg) (a : PySem.W.nsIn K mainGlobals x = some (some (.ref f))) (l : K.lookup f = some ⟨oc, od, .func (PySem.W.fnOf x x (defArgs st) (defBody st) (defScope st) .none kV doc pm an cdv ct), osl⟩)
    (c : PySem.W.codeIn K cdv x = true) (k : PySem.W.keepIn K (.ref f) = true) : D0 K mg x st := ⟨f, _, fun_mk l c k, PySem.W.mg_of X G a⟩
def m0_mk (a : PySem.W.findIn K (.ref C) x = some (some (.ref f))) (i : PySem.W.isFn K (.ref f) = true) (l : K.lookup f = some ⟨oc, od, .func (PySem.W.fnOf x qual (defArgs st) (defBody st) (defScope st) .none kV doc pm an cdv ct), osl⟩)
    (c : PySem.W.codeIn K cdv qual = true) (k : PySem.W.keepIn K (.ref f) = true) : M0 K C x qual st := ⟨f, _, fun_mk l c k, ⟨a, i, k⟩⟩
def i0_mk (a : PySem.W.findIn K (.ref C) "__init__" = some (some (.ref f))) (i : PySem.W.isFn K (.ref f) = true) (l : K.lookup f = some ⟨oc, od, .func (PySem.W.fnOf "__init__" qual (defArgs st) (defBody st) (defScope st) .none kV doc pm an cdv ct), osl⟩)
    (c : PySem.W.codeIn K cdv qual = true) (k : PySem.W.keepIn K (.ref f) = true) : I0 K C qual st := ⟨f, _, fun_mk l c k, a, i⟩
end
theorem all_mk {l : PySem.W.OpenLaw} {w : World} {K : PySem.W.Frag} {h : Heap} {mg : Str → Option Value} {fa CE CR CS aZ : Addr} {t_OWERS t_TAKERS t_MOST_SIDE tZ0 tZ1 : Tok} {oZ : Option Addr} {nZ : Nat} {slZ : Array (Option Value)} (X : K.In h) (G : h.Ns mainGlobals mg) (hfa : mg "law" = some (.ref fa))
    (aE : PySem.W.nsIn K mainGlobals "Evening" = some (some (.ref CE)))
    (pgE : PySem.W.plainGet K CE Str.empty = true)
    (hdE : PySem.W.hasDictIn K CE = true)
    (poE : PySem.W.plainOver K CE = true)
    (saE : PySem.W.findIn K (.ref CE) "__setattr__" = some (some (.builtin "object.__setattr__")))
    (mkE : PySem.W.makesIn K CE = true)
    (kcE : PySem.W.keepIn K (.ref CE) = true)
    (aR : PySem.W.nsIn K mainGlobals "Rests" = some (some (.ref CR)))
    (pgR : PySem.W.plainGet K CR Str.empty = true)
    (hdR : PySem.W.hasDictIn K CR = true)
    (poR : PySem.W.plainOver K CR = true)
    (saR : PySem.W.findIn K (.ref CR) "__setattr__" = some (some (.builtin "object.__setattr__")))
    (mkR : PySem.W.makesIn K CR = true)
    (kcR : PySem.W.keepIn K (.ref CR) = true)
    (aS : PySem.W.nsIn K mainGlobals "State" = some (some (.ref CS)))
    (pgS : PySem.W.plainGet K CS Str.empty = true)
    (hdS : PySem.W.hasDictIn K CS = true)
    (poS : PySem.W.plainOver K CS = true)
    (saS : PySem.W.findIn K (.ref CS) "__setattr__" = some (some (.builtin "object.__setattr__")))
    (mkS : PySem.W.makesIn K CS = true)
    (kcS : PySem.W.keepIn K (.ref CS) = true)
    (n_owed : PySem.W.findIn K (.ref CE) "owed" = some none)
    (n_due : PySem.W.findIn K (.ref CE) "due" = some none)
    (n_sides : PySem.W.findIn K (.ref CR) "sides" = some none)
    (n_whole : PySem.W.findIn K (.ref CR) "whole" = some none)
    (n_row : PySem.W.findIn K (.ref CR) "row" = some none)
    (n_owed_left : PySem.W.findIn K (.ref CS) "owed_left" = some none)
    (n_due_left : PySem.W.findIn K (.ref CS) "due_left" = some none)
    (z_len : PySem.W.nsIn K mainGlobals "len" = some none)
    (z_min : PySem.W.nsIn K mainGlobals "min" = some none)
    (z_sum : PySem.W.nsIn K mainGlobals "sum" = some none)
    (z_abs : PySem.W.nsIn K mainGlobals "abs" = some none)
    (z_isinstance : PySem.W.nsIn K mainGlobals "isinstance" = some none)
    (z_all : PySem.W.nsIn K mainGlobals "all" = some none)
    (z_int : PySem.W.nsIn K mainGlobals "int" = some none)
    (z_list : PySem.W.nsIn K mainGlobals "list" = some none)
    (z_dict : PySem.W.nsIn K mainGlobals "dict" = some none)
    (z_tuple : PySem.W.nsIn K mainGlobals "tuple" = some none)
    (z_sorted : PySem.W.nsIn K mainGlobals "sorted" = some none)
    (z_set : PySem.W.nsIn K mainGlobals "set" = some none)
    (z_enumerate : PySem.W.nsIn K mainGlobals "enumerate" = some none)
    (z_range : PySem.W.nsIn K mainGlobals "range" = some none)
    (z_bool : PySem.W.nsIn K mainGlobals "bool" = some none)
    (g_OWERS : PySem.W.nsIn K mainGlobals "OWERS" = some (some (.int 0 t_OWERS)))
    (g_TAKERS : PySem.W.nsIn K mainGlobals "TAKERS" = some (some (.int 1 t_TAKERS)))
    (g_MOST_SIDE : PySem.W.nsIn K mainGlobals "MOST_SIDE" = some (some (.int 100 t_MOST_SIDE)))
    (gZ : PySem.W.nsIn K mainGlobals "ZERO" = some (some (.ref aZ)))
    (lZ : K.lookup aZ = some ⟨.type "tuple", oZ, .seq #[.int 0 tZ0, .int 1 tZ1] nZ, slZ⟩)
    (D_is_integer : D0 K mg "is_integer" s_is_integer)
    (D_is_within : D0 K mg "is_within" s_is_within)
    (D_is_pair : D0 K mg "is_pair" s_is_pair)
    (D_common_divisor : D0 K mg "common_divisor" s_common_divisor)
    (D_made : D0 K mg "made" s_made)
    (D_plus : D0 K mg "plus" s_plus)
    (D_minus : D0 K mg "minus" s_minus)
    (D_over : D0 K mg "over" s_over)
    (D_is_less : D0 K mg "is_less" s_is_less)
    (D_least_of : D0 K mg "least_of" s_least_of)
    (D_total_of : D0 K mg "total_of" s_total_of)
    (D_measure_of : D0 K mg "measure_of" s_measure_of)
    (D_is_fraction : D0 K mg "is_fraction" s_is_fraction)
    (D_is_amount : D0 K mg "is_amount" s_is_amount)
    (D_are_sums : D0 K mg "are_sums" s_are_sums)
    (D_evening_init : I0 K CE "Evening.__init__" s_evening_init)
    (D_all_sums : D0 K mg "all_sums" s_all_sums)
    (D_people : D0 K mg "people" s_people)
    (D_units_of : D0 K mg "units_of" s_units_of)
    (D_rests_init : I0 K CR "Rests.__init__" s_rests_init)
    (D_many : M0 K CR "many" "Rests.many" s_many)
    (D_least : M0 K CR "least" "Rests.least" s_least)
    (D_lessen : M0 K CR "lessen" "Rests.lessen" s_lessen)
    (D_pay : M0 K CR "pay" "Rests.pay" s_pay)
    (D_divisor_behind : M0 K CR "divisor_behind" "Rests.divisor_behind" s_divisor_behind)
    (D_leaves_enough : M0 K CR "leaves_enough" "Rests.leaves_enough" s_leaves_enough)
    (D_step_of_one_piece : D0 K mg "step_of_one_piece" s_step_of_one_piece)
    (D_step_of_one_unit : D0 K mg "step_of_one_unit" s_step_of_one_unit)
    (D_long_of : D0 K mg "long_of" s_long_of)
    (D_greatest_of : D0 K mg "greatest_of" s_greatest_of)
    (D_are_people : D0 K mg "are_people" s_are_people)
    (D_state_init : I0 K CS "State.__init__" s_state_init)
    (D_amount_of : M0 K CS "amount_of" "State.amount_of" s_amount_of)
    (D_go : M0 K CS "go" "State.go" s_go)
    (D_all_quits : M0 K CS "all_quits" "State.all_quits" s_all_quits)
    (D_may_pay : D0 K mg "may_pay" s_may_pay)
    (D_gone : D0 K mg "gone" s_gone)
    (D_is_way : D0 K mg "is_way" s_is_way)
    (D_greatest : D0 K mg "greatest" s_greatest)
    (D_long_way : D0 K mg "long_way" s_long_way)
    (D_law_dice : D0 K mg "_law_dice" s_law_dice)
    (D_law_draw : D0 K mg "_law_draw" s_law_draw)
    (D_law_flag : D0 K mg "_law_flag" s_law_flag)
    (D_law_shuffled : D0 K mg "_law_shuffled" s_law_shuffled)
    (D_law_divisor : D0 K mg "_law_divisor" s_law_divisor)
    (D_law_amount : D0 K mg "_law_amount" s_law_amount)
    (D_law_split : D0 K mg "_law_split" s_law_split)
    (D_law_side : D0 K mg "_law_side" s_law_side)
    (D_law_lists : D0 K mg "_law_lists" s_law_lists)
    (D_law_unit : D0 K mg "_law_unit" s_law_unit)
    (D_law_sums : D0 K mg "_law_sums" s_law_sums)
    (D_law_made : D0 K mg "_law_made" s_law_made)
    (D_law_drawn : D0 K mg "_law_drawn" s_law_drawn)
    (D_law_numbers : D0 K mg "_law_numbers" s_law_numbers)
    (D_law_is_way : D0 K mg "_law_is_way" s_law_is_way)
    (D_law_whole : D0 K mg "_law_whole" s_law_whole)
    (D_law_greatest : D0 K mg "_law_greatest" s_law_greatest)
    (D_law : D0 K mg "law" s_law) :
    ∃ fd : FuncData, (∀ (s : Shared) (v : Value), BindsTo s fd ⟨[v], []⟩ [("_law_script", v)]) ∧ ∀ base : Heap, K.In base → base.Ns mainGlobals mg → FnOk l.prog w K mg base CX0 11 fa fd ["_law_script"] (sp_law K) := by
  have e := hfa.symm.trans D_law.g
  have e : fa = D_law.f := by
    injection e with e
    injection e
  subst e
  have hex := D_law.F.ex
  obtain ⟨oc, od, kV, doc, pm, an, cdv, ct, osl, e, _, _⟩ := hex
  let T : Tx K mg := {
    CE := CE
    clE := ⟨pgE, hdE, poE, saE⟩
    mg_Evening := PySem.W.mg_of X G aE
    CR := CR
    clR := ⟨pgR, hdR, poR, saR⟩
    mg_Rests := PySem.W.mg_of X G aR
    CS := CS
    clS := ⟨pgS, hdS, poS, saS⟩
    mg_State := PySem.W.mg_of X G aS
    n_owed := n_owed
    n_due := n_due
    n_sides := n_sides
    n_whole := n_whole
    n_row := n_row
    n_owed_left := n_owed_left
    n_due_left := n_due_left
    z_len := PySem.W.mg_none_of X G z_len
    z_min := PySem.W.mg_none_of X G z_min
    z_sum := PySem.W.mg_none_of X G z_sum
    z_abs := PySem.W.mg_none_of X G z_abs
    z_isinstance := PySem.W.mg_none_of X G z_isinstance
    z_all := PySem.W.mg_none_of X G z_all
    z_int := PySem.W.mg_none_of X G z_int
    z_list := PySem.W.mg_none_of X G z_list
    z_dict := PySem.W.mg_none_of X G z_dict
    z_tuple := PySem.W.mg_none_of X G z_tuple
    z_sorted := PySem.W.mg_none_of X G z_sorted
    z_set := PySem.W.mg_none_of X G z_set
    z_enumerate := PySem.W.mg_none_of X G z_enumerate
    z_range := PySem.W.mg_none_of X G z_range
    z_bool := PySem.W.mg_none_of X G z_bool
    t_OWERS := t_OWERS
    mg_OWERS := PySem.W.mg_of X G g_OWERS
    t_TAKERS := t_TAKERS
    mg_TAKERS := PySem.W.mg_of X G g_TAKERS
    t_MOST_SIDE := t_MOST_SIDE
    mg_MOST_SIDE := PySem.W.mg_of X G g_MOST_SIDE
    aZERO := aZ
    mg_ZERO := PySem.W.mg_of X G gZ
    sq_ZERO := fun H => .inr ⟨_, _, _, lZ, rfl, rfl, (by decide : 2 ≤ sizeLine), .cons ⟨_, rfl⟩ (.cons ⟨_, rfl⟩ .nil)⟩
    is_integer := ⟨D_is_integer.f, D_is_integer.fd, D_is_integer.F, D_is_integer.F.binds (ps := ["thing"]) fun _ _ _ _ _ _ us hl => match us, hl with | [_], _ => rfl, D_is_integer.g⟩
    is_within := ⟨D_is_within.f, D_is_within.fd, D_is_within.F, D_is_within.F.binds (ps := ["thing", "least", "most"]) fun _ _ _ _ _ _ us hl => match us, hl with | [_, _, _], _ => rfl, D_is_within.g⟩
    is_pair := ⟨D_is_pair.f, D_is_pair.fd, D_is_pair.F, D_is_pair.F.binds (ps := ["thing"]) fun _ _ _ _ _ _ us hl => match us, hl with | [_], _ => rfl, D_is_pair.g⟩
    common_divisor := ⟨D_common_divisor.f, D_common_divisor.fd, D_common_divisor.F, D_common_divisor.F.binds (ps := ["one", "other"]) fun _ _ _ _ _ _ us hl => match us, hl with | [_, _], _ => rfl, D_common_divisor.g⟩
    made := ⟨D_made.f, D_made.fd, D_made.F, D_made.F.binds (ps := ["top", "bottom"]) fun _ _ _ _ _ _ us hl => match us, hl with | [_, _], _ => rfl, D_made.g⟩
    plus := ⟨D_plus.f, D_plus.fd, D_plus.F, D_plus.F.binds (ps := ["one", "other"]) fun _ _ _ _ _ _ us hl => match us, hl with | [_, _], _ => rfl, D_plus.g⟩
    minus := ⟨D_minus.f, D_minus.fd, D_minus.F, D_minus.F.binds (ps := ["one", "other"]) fun _ _ _ _ _ _ us hl => match us, hl with | [_, _], _ => rfl, D_minus.g⟩
    over := ⟨D_over.f, D_over.fd, D_over.F, D_over.F.binds (ps := ["one", "other"]) fun _ _ _ _ _ _ us hl => match us, hl with | [_, _], _ => rfl, D_over.g⟩
    is_less := ⟨D_is_less.f, D_is_less.fd, D_is_less.F, D_is_less.F.binds (ps := ["one", "other"]) fun _ _ _ _ _ _ us hl => match us, hl with | [_, _], _ => rfl, D_is_less.g⟩
    least_of := ⟨D_least_of.f, D_least_of.fd, D_least_of.F, D_least_of.F.binds (ps := ["one", "other"]) fun _ _ _ _ _ _ us hl => match us, hl with | [_, _], _ => rfl, D_least_of.g⟩
    total_of := ⟨D_total_of.f, D_total_of.fd, D_total_of.F, D_total_of.F.binds (ps := ["fractions"]) fun _ _ _ _ _ _ us hl => match us, hl with | [_], _ => rfl, D_total_of.g⟩
    measure_of := ⟨D_measure_of.f, D_measure_of.fd, D_measure_of.F, D_measure_of.F.binds (ps := ["amounts"]) fun _ _ _ _ _ _ us hl => match us, hl with | [_], _ => rfl, D_measure_of.g⟩
    is_fraction := ⟨D_is_fraction.f, D_is_fraction.fd, D_is_fraction.F, D_is_fraction.F.binds (ps := ["thing"]) fun _ _ _ _ _ _ us hl => match us, hl with | [_], _ => rfl, D_is_fraction.g⟩
    is_amount := ⟨D_is_amount.f, D_is_amount.fd, D_is_amount.F, D_is_amount.F.binds (ps := ["thing"]) fun _ _ _ _ _ _ us hl => match us, hl with | [_], _ => rfl, D_is_amount.g⟩
    are_sums := ⟨D_are_sums.f, D_are_sums.fd, D_are_sums.F, D_are_sums.F.binds (ps := ["thing"]) fun _ _ _ _ _ _ us hl => match us, hl with | [_], _ => rfl, D_are_sums.g⟩
    evening_init := ⟨D_evening_init.f, D_evening_init.fd, D_evening_init.F, D_evening_init.F.binds (ps := ["self", "owed", "due"]) fun _ _ _ _ _ _ us hl => match us, hl with | [_, _, _], _ => rfl, ⟨mkE, D_evening_init.i, D_evening_init.n, kcE⟩⟩
    all_sums := ⟨D_all_sums.f, D_all_sums.fd, D_all_sums.F, D_all_sums.F.binds (ps := ["evening"]) fun _ _ _ _ _ _ us hl => match us, hl with | [_], _ => rfl, D_all_sums.g⟩
    people := ⟨D_people.f, D_people.fd, D_people.F, D_people.F.binds (ps := ["evening"]) fun _ _ _ _ _ _ us hl => match us, hl with | [_], _ => rfl, D_people.g⟩
    units_of := ⟨D_units_of.f, D_units_of.fd, D_units_of.F, D_units_of.F.binds (ps := ["evening"]) fun _ _ _ _ _ _ us hl => match us, hl with | [_], _ => rfl, D_units_of.g⟩
    rests_init := ⟨D_rests_init.f, D_rests_init.fd, D_rests_init.F, D_rests_init.F.binds (ps := ["self", "owed", "due"]) fun _ _ _ _ _ _ us hl => match us, hl with | [_, _, _], _ => rfl, ⟨mkR, D_rests_init.i, D_rests_init.n, kcR⟩⟩
    many := ⟨D_many.f, D_many.fd, D_many.F, D_many.F.binds (ps := ["self"]) fun _ _ _ _ _ _ us hl => match us, hl with | [_], _ => rfl, D_many.m⟩
    least := ⟨D_least.f, D_least.fd, D_least.F, D_least.F.binds (ps := ["self"]) fun _ _ _ _ _ _ us hl => match us, hl with | [_], _ => rfl, D_least.m⟩
    lessen := ⟨D_lessen.f, D_lessen.fd, D_lessen.F, D_lessen.F.binds (ps := ["self", "side", "person", "amount"]) fun _ _ _ _ _ _ us hl => match us, hl with | [_, _, _, _], _ => rfl, D_lessen.m⟩
    pay := ⟨D_pay.f, D_pay.fd, D_pay.F, D_pay.F.binds (ps := ["self", "side", "person", "other"]) fun _ _ _ _ _ _ us hl => match us, hl with | [_, _, _, _], _ => rfl, D_pay.m⟩
    divisor_behind := ⟨D_divisor_behind.f, D_divisor_behind.fd, D_divisor_behind.F, D_divisor_behind.F.binds (ps := ["self", "side", "person", "other"]) fun _ _ _ _ _ _ us hl => match us, hl with | [_, _, _, _], _ => rfl, D_divisor_behind.m⟩
    leaves_enough := ⟨D_leaves_enough.f, D_leaves_enough.fd, D_leaves_enough.F, D_leaves_enough.F.binds (ps := ["self", "side", "person", "other"]) fun _ _ _ _ _ _ us hl => match us, hl with | [_, _, _, _], _ => rfl, D_leaves_enough.m⟩
    step_of_one_piece := ⟨D_step_of_one_piece.f, D_step_of_one_piece.fd, D_step_of_one_piece.F, D_step_of_one_piece.F.binds (ps := ["rests"]) fun _ _ _ _ _ _ us hl => match us, hl with | [_], _ => rfl, D_step_of_one_piece.g⟩
    step_of_one_unit := ⟨D_step_of_one_unit.f, D_step_of_one_unit.fd, D_step_of_one_unit.F, D_step_of_one_unit.F.binds (ps := ["rests"]) fun _ _ _ _ _ _ us hl => match us, hl with | [_], _ => rfl, D_step_of_one_unit.g⟩
    long_of := ⟨D_long_of.f, D_long_of.fd, D_long_of.F, D_long_of.F.binds (ps := ["evening"]) fun _ _ _ _ _ _ us hl => match us, hl with | [_], _ => rfl, D_long_of.g⟩
    greatest_of := ⟨D_greatest_of.f, D_greatest_of.fd, D_greatest_of.F, D_greatest_of.F.binds (ps := ["evening"]) fun _ _ _ _ _ _ us hl => match us, hl with | [_], _ => rfl, D_greatest_of.g⟩
    are_people := ⟨D_are_people.f, D_are_people.fd, D_are_people.F, D_are_people.F.binds (ps := ["evening", "thing"]) fun _ _ _ _ _ _ us hl => match us, hl with | [_, _], _ => rfl, D_are_people.g⟩
    state_init := ⟨D_state_init.f, D_state_init.fd, D_state_init.F, D_state_init.F.binds (ps := ["self", "evening"]) fun _ _ _ _ _ _ us hl => match us, hl with | [_, _], _ => rfl, ⟨mkS, D_state_init.i, D_state_init.n, kcS⟩⟩
    amount_of := ⟨D_amount_of.f, D_amount_of.fd, D_amount_of.F, D_amount_of.F.binds (ps := ["self", "pair"]) fun _ _ _ _ _ _ us hl => match us, hl with | [_, _], _ => rfl, D_amount_of.m⟩
    go := ⟨D_go.f, D_go.fd, D_go.F, D_go.F.binds (ps := ["self", "pair"]) fun _ _ _ _ _ _ us hl => match us, hl with | [_, _], _ => rfl, D_go.m⟩
    all_quits := ⟨D_all_quits.f, D_all_quits.fd, D_all_quits.F, D_all_quits.F.binds (ps := ["self"]) fun _ _ _ _ _ _ us hl => match us, hl with | [_], _ => rfl, D_all_quits.m⟩
    may_pay := ⟨D_may_pay.f, D_may_pay.fd, D_may_pay.F, D_may_pay.F.binds (ps := ["evening", "state", "thing"]) fun _ _ _ _ _ _ us hl => match us, hl with | [_, _, _], _ => rfl, D_may_pay.g⟩
    gone := ⟨D_gone.f, D_gone.fd, D_gone.F, D_gone.F.binds (ps := ["evening", "row"]) fun _ _ _ _ _ _ us hl => match us, hl with | [_, _], _ => rfl, D_gone.g⟩
    is_way := ⟨D_is_way.f, D_is_way.fd, D_is_way.F, D_is_way.F.binds (ps := ["evening", "thing"]) fun _ _ _ _ _ _ us hl => match us, hl with | [_, _], _ => rfl, D_is_way.g⟩
    greatest := ⟨D_greatest.f, D_greatest.fd, D_greatest.F, D_greatest.F.binds (ps := ["evening"]) fun _ _ _ _ _ _ us hl => match us, hl with | [_], _ => rfl, D_greatest.g⟩
    long_way := ⟨D_long_way.f, D_long_way.fd, D_long_way.F, D_long_way.F.binds (ps := ["evening"]) fun _ _ _ _ _ _ us hl => match us, hl with | [_], _ => rfl, D_long_way.g⟩
    law_dice := ⟨D_law_dice.f, D_law_dice.fd, D_law_dice.F, D_law_dice.F.binds (ps := ["_law_script"]) fun _ _ _ _ _ _ us hl => match us, hl with | [_], _ => rfl, D_law_dice.g⟩
    law_draw := ⟨D_law_draw.f, D_law_draw.fd, D_law_draw.F, D_law_draw.F.binds (ps := ["_law_dice_here", "_law_sides"]) fun _ _ _ _ _ _ us hl => match us, hl with | [_, _], _ => rfl, D_law_draw.g⟩
    law_flag := ⟨D_law_flag.f, D_law_flag.fd, D_law_flag.F, D_law_flag.F.binds (ps := ["_law_told", "_law_due"]) fun _ _ _ _ _ _ us hl => match us, hl with | [_, _], _ => rfl, D_law_flag.g⟩
    law_shuffled := ⟨D_law_shuffled.f, D_law_shuffled.fd, D_law_shuffled.F, D_law_shuffled.F.binds (ps := ["_law_dice_here", "_law_items"]) fun _ _ _ _ _ _ us hl => match us, hl with | [_, _], _ => rfl, D_law_shuffled.g⟩
    law_divisor := ⟨D_law_divisor.f, D_law_divisor.fd, D_law_divisor.F, D_law_divisor.F.binds (ps := ["_law_one", "_law_other"]) fun _ _ _ _ _ _ us hl => match us, hl with | [_, _], _ => rfl, D_law_divisor.g⟩
    law_amount := ⟨D_law_amount.f, D_law_amount.fd, D_law_amount.F, D_law_amount.F.binds (ps := ["_law_top", "_law_bottom"]) fun _ _ _ _ _ _ us hl => match us, hl with | [_, _], _ => rfl, D_law_amount.g⟩
    law_split := ⟨D_law_split.f, D_law_split.fd, D_law_split.F, D_law_split.F.binds (ps := ["_law_dice_here", "_law_whole_here", "_law_many"]) fun _ _ _ _ _ _ us hl => match us, hl with | [_, _, _], _ => rfl, D_law_split.g⟩
    law_side := ⟨D_law_side.f, D_law_side.fd, D_law_side.F, D_law_side.F.binds (ps := ["_law_dice_here", "_law_many", "_law_most"]) fun _ _ _ _ _ _ us hl => match us, hl with | [_, _, _], _ => rfl, D_law_side.g⟩
    law_lists := ⟨D_law_lists.f, D_law_lists.fd, D_law_lists.F, D_law_lists.F.binds (ps := ["_law_dice_here", "_law_most"]) fun _ _ _ _ _ _ us hl => match us, hl with | [_, _], _ => rfl, D_law_lists.g⟩
    law_unit := ⟨D_law_unit.f, D_law_unit.fd, D_law_unit.F, D_law_unit.F.binds (ps := ["_law_dice_here"]) fun _ _ _ _ _ _ us hl => match us, hl with | [_], _ => rfl, D_law_unit.g⟩
    law_sums := ⟨D_law_sums.f, D_law_sums.fd, D_law_sums.F, D_law_sums.F.binds (ps := ["_law_numbers_here", "_law_unit_here"]) fun _ _ _ _ _ _ us hl => match us, hl with | [_, _], _ => rfl, D_law_sums.g⟩
    law_made := ⟨D_law_made.f, D_law_made.fd, D_law_made.F, D_law_made.F.binds (ps := ["_law_lists_here", "_law_unit_here"]) fun _ _ _ _ _ _ us hl => match us, hl with | [_, _], _ => rfl, D_law_made.g⟩
    law_drawn := ⟨D_law_drawn.f, D_law_drawn.fd, D_law_drawn.F, D_law_drawn.F.binds (ps := ["_law_dice_here", "_law_most"]) fun _ _ _ _ _ _ us hl => match us, hl with | [_, _], _ => rfl, D_law_drawn.g⟩
    law_numbers := ⟨D_law_numbers.f, D_law_numbers.fd, D_law_numbers.F, D_law_numbers.F.binds (ps := ["_law_owed", "_law_due", "_law_known"]) fun _ _ _ _ _ _ us hl => match us, hl with | [_, _, _], _ => rfl, D_law_numbers.g⟩
    law_is_way := ⟨D_law_is_way.f, D_law_is_way.fd, D_law_is_way.F, D_law_is_way.F.binds (ps := ["_law_lists_here", "_law_way", "_law_many"]) fun _ _ _ _ _ _ us hl => match us, hl with | [_, _, _], _ => rfl, D_law_is_way.g⟩
    law_whole := ⟨D_law_whole.f, D_law_whole.fd, D_law_whole.F, D_law_whole.F.binds (ps := ["_law_told", "_law_due"]) fun _ _ _ _ _ _ us hl => match us, hl with | [_, _], _ => rfl, D_law_whole.g⟩
    law_greatest := ⟨D_law_greatest.f, D_law_greatest.fd, D_law_greatest.F, D_law_greatest.F.binds (ps := ["_law_lists_here"]) fun _ _ _ _ _ _ us hl => match us, hl with | [_], _ => rfl, D_law_greatest.g⟩
    law := ⟨D_law.f, D_law.fd, D_law.F, D_law.F.binds (ps := ["_law_script"]) fun _ _ _ _ _ _ us hl => match us, hl with | [_], _ => rfl, D_law.g⟩ }
  refine ⟨D_law.fd, fun s v => ?_, fun base _ _ => ok_law (P := l.prog) (w := w) (base := base) T⟩
  rw [e]
  exact .of_eq rfl
theorem walk {l : PySem.W.OpenLaw} {q : Program} {loose : List Str} {XP : (Str → Option Value) → Heap → Prop} {YP : World → Heap → Prop} {d : DefRec} {K : Params → PySem.W.Frag} (hn : l.most = some 63) (hdf : d.params.defaults = [])
    (hY : ∀ (w : World) (h : Heap), YP w h → (K w.params).In h)
    (F : ∀ (w : World) (mg : Str → Option Value) (fa : Addr) (h : Heap), (K w.params).In h → h.Ns mainGlobals mg → mg d.name = some (.ref fa) →
      ∃ fd : FuncData, (∀ (s : Shared) (u : Value), BindsTo s fd ⟨[u], []⟩ [("_law_script", u)]) ∧ ∀ base : Heap, (K w.params).In base → base.Ns mainGlobals mg → FnOk l.prog w (K w.params) mg base CX0 11 fa fd ["_law_script"] (sp_law (K w.params))) :
    PySem.W.WalkO q loose XP YP l.row.toRowW d [] (fun f vs => PySem.call f vs) :=
  L2.walk_of (n := 63) (k := 11) (x := "_law_script") (CX := fun _ => CX0) (sp := fun w => sp_law (K w.params)) hn (by decide) hdf ⟨rfl, by decide, by decide⟩ hY F (fun _ _ a ns _ _ hS => ⟨a, ns, rfl, hS, fun _ => rfl⟩) fun _ _ _ _ _ z => z
end Qw
set_option Elab.async false
set_option maxRecDepth 100000
/-! QWH: the end (printed by gentext.py). -/

open PySem PySem.W PyProof.Rows in
set_option maxRecDepth 100000 in
set_option maxHeartbeats 0 in
theorem PySem.Challenge.cw_quitsways_k30_whole_greatest_and_long_wa_holds : PySem.Challenge.rw_quitsways_k30_whole_greatest_and_long_wa.Holds := by
  w_on; o_law; k_head; (case hw => w_witness2)
  k_fill
  refine Qw.walk (l := PySem.Challenge.rw_quitsways_k30_whole_greatest_and_long_wa) rfl rfl (fun w h Y => PySem.W.kIn_of Y) ?F
  case F =>
    intro w mg fa h KX G hmg
    refine' Qw.all_mk KX G hmg ?aE ?pgE ?hdE ?poE ?saE ?mkE ?kcE ?aR ?pgR ?hdR ?poR ?saR ?mkR ?kcR ?aS ?pgS ?hdS ?poS ?saS ?mkS ?kcS ?n_owed ?n_due ?n_sides ?n_whole ?n_row ?n_owed_left ?n_due_left ?z_len ?z_min ?z_sum ?z_abs ?z_isinstance ?z_all ?z_int ?z_list ?z_dict ?z_tuple ?z_sorted ?z_set ?z_enumerate ?z_range ?z_bool ?g_OWERS ?g_TAKERS ?g_MOST_SIDE ?gZ ?lZ ?D_is_integer ?D_is_within ?D_is_pair ?D_common_divisor ?D_made ?D_plus ?D_minus ?D_over ?D_is_less ?D_least_of ?D_total_of ?D_measure_of ?D_is_fraction ?D_is_amount ?D_are_sums ?D_evening_init ?D_all_sums ?D_people ?D_units_of ?D_rests_init ?D_many ?D_least ?D_lessen ?D_pay ?D_divisor_behind ?D_leaves_enough ?D_step_of_one_piece ?D_step_of_one_unit ?D_long_of ?D_greatest_of ?D_are_people ?D_state_init ?D_amount_of ?D_go ?D_all_quits ?D_may_pay ?D_gone ?D_is_way ?D_greatest ?D_long_way ?D_law_dice ?D_law_draw ?D_law_flag ?D_law_shuffled ?D_law_divisor ?D_law_amount ?D_law_split ?D_law_side ?D_law_lists ?D_law_unit ?D_law_sums ?D_law_made ?D_law_drawn ?D_law_numbers ?D_law_is_way ?D_law_whole ?D_law_greatest ?D_law
    (case aE => k_is)
    (case pgE => k_is)
    (case hdE => k_is)
    (case poE => k_is)
    (case saE => k_is)
    (case mkE => k_is)
    (case kcE => k_is)
    (case aR => k_is)
    (case pgR => k_is)
    (case hdR => k_is)
    (case poR => k_is)
    (case saR => k_is)
    (case mkR => k_is)
    (case kcR => k_is)
    (case aS => k_is)
    (case pgS => k_is)
    (case hdS => k_is)
    (case poS => k_is)
    (case saS => k_is)
    (case mkS => k_is)
    (case kcS => k_is)
    (case n_owed => k_is)
    (case n_due => k_is)
    (case n_sides => k_is)
    (case n_whole => k_is)
    (case n_row => k_is)
    (case n_owed_left => k_is)
    (case n_due_left => k_is)
    (case z_len => k_is)
    (case z_min => k_is)
    (case z_sum => k_is)
    (case z_abs => k_is)
    (case z_isinstance => k_is)
    (case z_all => k_is)
    (case z_int => k_is)
    (case z_list => k_is)
    (case z_dict => k_is)
    (case z_tuple => k_is)
    (case z_sorted => k_is)
    (case z_set => k_is)
    (case z_enumerate => k_is)
    (case z_range => k_is)
    (case z_bool => k_is)
    (case g_OWERS => k_is)
    (case g_TAKERS => k_is)
    (case g_MOST_SIDE => k_is)
    (case gZ => k_is)
    (case lZ => k_is)
    (case D_is_integer =>
      refine' Qw.d0_mk KX G ?a ?l ?c ?k
      (case a => k_is)
      (case l => k_is)
      (case c => k_is)
      (case k => k_is))
    (case D_is_within =>
      refine' Qw.d0_mk KX G ?a ?l ?c ?k
      (case a => k_is)
      (case l => k_is)
      (case c => k_is)
      (case k => k_is))
    (case D_is_pair =>
      refine' Qw.d0_mk KX G ?a ?l ?c ?k
      (case a => k_is)
      (case l => k_is)
      (case c => k_is)
      (case k => k_is))
    (case D_common_divisor =>
      refine' Qw.d0_mk KX G ?a ?l ?c ?k
      (case a => k_is)
      (case l => k_is)
      (case c => k_is)
      (case k => k_is))
    (case D_made =>
      refine' Qw.d0_mk KX G ?a ?l ?c ?k
      (case a => k_is)
      (case l => k_is)
      (case c => k_is)
      (case k => k_is))
    (case D_plus =>
      refine' Qw.d0_mk KX G ?a ?l ?c ?k
      (case a => k_is)
      (case l => k_is)
      (case c => k_is)
      (case k => k_is))
    (case D_minus =>
      refine' Qw.d0_mk KX G ?a ?l ?c ?k
      (case a => k_is)
      (case l => k_is)
      (case c => k_is)
      (case k => k_is))
    (case D_over =>
      refine' Qw.d0_mk KX G ?a ?l ?c ?k
      (case a => k_is)
      (case l => k_is)
      (case c => k_is)
      (case k => k_is))
    (case D_is_less =>
      refine' Qw.d0_mk KX G ?a ?l ?c ?k
      (case a => k_is)
      (case l => k_is)
      (case c => k_is)
      (case k => k_is))
    (case D_least_of =>
      refine' Qw.d0_mk KX G ?a ?l ?c ?k
      (case a => k_is)
      (case l => k_is)
      (case c => k_is)
      (case k => k_is))
    (case D_total_of =>
      refine' Qw.d0_mk KX G ?a ?l ?c ?k
      (case a => k_is)
      (case l => k_is)
      (case c => k_is)
      (case k => k_is))
    (case D_measure_of =>
      refine' Qw.d0_mk KX G ?a ?l ?c ?k
      (case a => k_is)
      (case l => k_is)
      (case c => k_is)
      (case k => k_is))
    (case D_is_fraction =>
      refine' Qw.d0_mk KX G ?a ?l ?c ?k
      (case a => k_is)
      (case l => k_is)
      (case c => k_is)
      (case k => k_is))
    (case D_is_amount =>
      refine' Qw.d0_mk KX G ?a ?l ?c ?k
      (case a => k_is)
      (case l => k_is)
      (case c => k_is)
      (case k => k_is))
    (case D_are_sums =>
      refine' Qw.d0_mk KX G ?a ?l ?c ?k
      (case a => k_is)
      (case l => k_is)
      (case c => k_is)
      (case k => k_is))
    (case D_evening_init =>
      refine' Qw.i0_mk ?a ?i ?l ?c ?k
      (case a => k_is)
      (case i => k_is)
      (case l => k_is)
      (case c => k_is)
      (case k => k_is))
    (case D_all_sums =>
      refine' Qw.d0_mk KX G ?a ?l ?c ?k
      (case a => k_is)
      (case l => k_is)
      (case c => k_is)
      (case k => k_is))
    (case D_people =>
      refine' Qw.d0_mk KX G ?a ?l ?c ?k
      (case a => k_is)
      (case l => k_is)
      (case c => k_is)
      (case k => k_is))
    (case D_units_of =>
      refine' Qw.d0_mk KX G ?a ?l ?c ?k
      (case a => k_is)
      (case l => k_is)
      (case c => k_is)
      (case k => k_is))
    (case D_rests_init =>
      refine' Qw.i0_mk ?a ?i ?l ?c ?k
      (case a => k_is)
      (case i => k_is)
      (case l => k_is)
      (case c => k_is)
      (case k => k_is))
    (case D_many =>
      refine' Qw.m0_mk ?a ?i ?l ?c ?k
      (case a => k_is)
      (case i => k_is)
      (case l => k_is)
      (case c => k_is)
      (case k => k_is))
    (case D_least =>
      refine' Qw.m0_mk ?a ?i ?l ?c ?k
      (case a => k_is)
      (case i => k_is)
      (case l => k_is)
      (case c => k_is)
      (case k => k_is))
    (case D_lessen =>
      refine' Qw.m0_mk ?a ?i ?l ?c ?k
      (case a => k_is)
      (case i => k_is)
      (case l => k_is)
      (case c => k_is)
      (case k => k_is))
    (case D_pay =>
      refine' Qw.m0_mk ?a ?i ?l ?c ?k
      (case a => k_is)
      (case i => k_is)
      (case l => k_is)
      (case c => k_is)
      (case k => k_is))
    (case D_divisor_behind =>
      refine' Qw.m0_mk ?a ?i ?l ?c ?k
      (case a => k_is)
      (case i => k_is)
      (case l => k_is)
      (case c => k_is)
      (case k => k_is))
    (case D_leaves_enough =>
      refine' Qw.m0_mk ?a ?i ?l ?c ?k
      (case a => k_is)
      (case i => k_is)
      (case l => k_is)
      (case c => k_is)
      (case k => k_is))
    (case D_step_of_one_piece =>
      refine' Qw.d0_mk KX G ?a ?l ?c ?k
      (case a => k_is)
      (case l => k_is)
      (case c => k_is)
      (case k => k_is))
    (case D_step_of_one_unit =>
      refine' Qw.d0_mk KX G ?a ?l ?c ?k
      (case a => k_is)
      (case l => k_is)
      (case c => k_is)
      (case k => k_is))
    (case D_long_of =>
      refine' Qw.d0_mk KX G ?a ?l ?c ?k
      (case a => k_is)
      (case l => k_is)
      (case c => k_is)
      (case k => k_is))
    (case D_greatest_of =>
      refine' Qw.d0_mk KX G ?a ?l ?c ?k
      (case a => k_is)
      (case l => k_is)
      (case c => k_is)
      (case k => k_is))
    (case D_are_people =>
      refine' Qw.d0_mk KX G ?a ?l ?c ?k
      (case a => k_is)
      (case l => k_is)
      (case c => k_is)
      (case k => k_is))
    (case D_state_init =>
      refine' Qw.i0_mk ?a ?i ?l ?c ?k
      (case a => k_is)
      (case i => k_is)
      (case l => k_is)
      (case c => k_is)
      (case k => k_is))
    (case D_amount_of =>
      refine' Qw.m0_mk ?a ?i ?l ?c ?k
      (case a => k_is)
      (case i => k_is)
      (case l => k_is)
      (case c => k_is)
      (case k => k_is))
    (case D_go =>
      refine' Qw.m0_mk ?a ?i ?l ?c ?k
      (case a => k_is)
      (case i => k_is)
      (case l => k_is)
      (case c => k_is)
      (case k => k_is))
    (case D_all_quits =>
      refine' Qw.m0_mk ?a ?i ?l ?c ?k
      (case a => k_is)
      (case i => k_is)
      (case l => k_is)
      (case c => k_is)
      (case k => k_is))
    (case D_may_pay =>
      refine' Qw.d0_mk KX G ?a ?l ?c ?k
      (case a => k_is)
      (case l => k_is)
      (case c => k_is)
      (case k => k_is))
    (case D_gone =>
      refine' Qw.d0_mk KX G ?a ?l ?c ?k
      (case a => k_is)
      (case l => k_is)
      (case c => k_is)
      (case k => k_is))
    (case D_is_way =>
      refine' Qw.d0_mk KX G ?a ?l ?c ?k
      (case a => k_is)
      (case l => k_is)
      (case c => k_is)
      (case k => k_is))
    (case D_greatest =>
      refine' Qw.d0_mk KX G ?a ?l ?c ?k
      (case a => k_is)
      (case l => k_is)
      (case c => k_is)
      (case k => k_is))
    (case D_long_way =>
      refine' Qw.d0_mk KX G ?a ?l ?c ?k
      (case a => k_is)
      (case l => k_is)
      (case c => k_is)
      (case k => k_is))
    (case D_law_dice =>
      refine' Qw.d0_mk KX G ?a ?l ?c ?k
      (case a => k_is)
      (case l => k_is)
      (case c => k_is)
      (case k => k_is))
    (case D_law_draw =>
      refine' Qw.d0_mk KX G ?a ?l ?c ?k
      (case a => k_is)
      (case l => k_is)
      (case c => k_is)
      (case k => k_is))
    (case D_law_flag =>
      refine' Qw.d0_mk KX G ?a ?l ?c ?k
      (case a => k_is)
      (case l => k_is)
      (case c => k_is)
      (case k => k_is))
    (case D_law_shuffled =>
      refine' Qw.d0_mk KX G ?a ?l ?c ?k
      (case a => k_is)
      (case l => k_is)
      (case c => k_is)
      (case k => k_is))
    (case D_law_divisor =>
      refine' Qw.d0_mk KX G ?a ?l ?c ?k
      (case a => k_is)
      (case l => k_is)
      (case c => k_is)
      (case k => k_is))
    (case D_law_amount =>
      refine' Qw.d0_mk KX G ?a ?l ?c ?k
      (case a => k_is)
      (case l => k_is)
      (case c => k_is)
      (case k => k_is))
    (case D_law_split =>
      refine' Qw.d0_mk KX G ?a ?l ?c ?k
      (case a => k_is)
      (case l => k_is)
      (case c => k_is)
      (case k => k_is))
    (case D_law_side =>
      refine' Qw.d0_mk KX G ?a ?l ?c ?k
      (case a => k_is)
      (case l => k_is)
      (case c => k_is)
      (case k => k_is))
    (case D_law_lists =>
      refine' Qw.d0_mk KX G ?a ?l ?c ?k
      (case a => k_is)
      (case l => k_is)
      (case c => k_is)
      (case k => k_is))
    (case D_law_unit =>
      refine' Qw.d0_mk KX G ?a ?l ?c ?k
      (case a => k_is)
      (case l => k_is)
      (case c => k_is)
      (case k => k_is))
    (case D_law_sums =>
      refine' Qw.d0_mk KX G ?a ?l ?c ?k
      (case a => k_is)
      (case l => k_is)
      (case c => k_is)
      (case k => k_is))
    (case D_law_made =>
      refine' Qw.d0_mk KX G ?a ?l ?c ?k
      (case a => k_is)
      (case l => k_is)
      (case c => k_is)
      (case k => k_is))
    (case D_law_drawn =>
      refine' Qw.d0_mk KX G ?a ?l ?c ?k
      (case a => k_is)
      (case l => k_is)
      (case c => k_is)
      (case k => k_is))
    (case D_law_numbers =>
      refine' Qw.d0_mk KX G ?a ?l ?c ?k
      (case a => k_is)
      (case l => k_is)
      (case c => k_is)
      (case k => k_is))
    (case D_law_is_way =>
      refine' Qw.d0_mk KX G ?a ?l ?c ?k
      (case a => k_is)
      (case l => k_is)
      (case c => k_is)
      (case k => k_is))
    (case D_law_whole =>
      refine' Qw.d0_mk KX G ?a ?l ?c ?k
      (case a => k_is)
      (case l => k_is)
      (case c => k_is)
      (case k => k_is))
    (case D_law_greatest =>
      refine' Qw.d0_mk KX G ?a ?l ?c ?k
      (case a => k_is)
      (case l => k_is)
      (case c => k_is)
      (case k => k_is))
    (case D_law =>
      refine' Qw.d0_mk KX G ?a ?l ?c ?k
      (case a => k_is)
      (case l => k_is)
      (case c => k_is)
      (case k => k_is))

import PyProof.Rows.All
import Wide.All
import OpenK.AllK
import Wide.FinOn
import HandS.ForMost
import HandS.TupAny
import HandS.TupMul
import KE.KDictPairs
import KE.KDictKeyed
import HandS.SetFor
import HandS.Strs
import HandS.TupSets
import KE.GoesMore
import HandS.Walk
import HandS.IsInst
import HandS.Conv
import PySem.Challenge.RW_flankturns_k90_across_held_painters
section
set_option autoImplicit false
set_option maxHeartbeats 1000000
/-! FtMath: the plain law. Mirrors of the functions that the law reaches, and what holds of them. -/
namespace FT

/-! ### lines -/
def upTo (n : Nat) : List Int := (List.range n).map Int.ofNat
def getI (l : List Int) (i : Int) : Int := l.getD i.toNat 0
def heldB (held : List Int) (r : Bool) (n : Nat) (k : Int) : Bool := decide (k ∈ held) || (!r && (decide (k = 0) || decide (k = (n : Int) - 1)))
def flankB (cs : List Int) (k : Int) : Bool :=
  decide (getI cs ((k - 1) % (cs.length : Int)) = getI cs ((k + 1) % (cs.length : Int))) && !decide (getI cs ((k + 1) % (cs.length : Int)) = getI cs k)
def readyM (cs held : List Int) (r : Bool) : List Int := (upTo cs.length).filter fun k => !heldB held r cs.length k && flankB cs k
def swingM (cs held : List Int) (r : Bool) : Bool := r && decide ((readyM cs held r).length = cs.length)
def chase (rd : List Int) (n : Int) : Nat → Int → List Int
  | 0, _ => []
  | f + 1, x => if x ∈ rd then ((x + 1) % n) :: chase rd n f ((x + 1) % n) else []
def runM (rd : List Int) (n : Nat) (k : Int) : List Int := ((k - 1) % (n : Int)) :: k :: chase rd n n k
def startB (rd : List Int) (n : Nat) (k : Int) : Bool := !decide ((k - 1) % (n : Int) ∈ rd)
def runsM (rd : List Int) (n : Nat) : List (List Int) := (rd.filter (startB rd n)).map (runM rd n)
def hd (l : List Int) : Int := l.headD 0
def stretchM (rd : List Int) (n : Nat) : List (List Int) := (runsM rd n).mergeSort fun a b => decide (hd a ≤ hd b)
def minI (i j : Int) : Int := if j < i then j else i
/-- one cell of a stretch gets its depth -/
def depth1 (one : List Int) (f : List Int) (i : Nat) : List Int :=
  f.set (getI one ((i : Int) + 1)).toNat (minI ((i : Int) + 1) ((one.length : Int) - 1 - ((i : Int) + 1)))
def depthOne (f : List Int) (one : List Int) : List Int := (List.range (one.length - 2)).foldl (depth1 one) f
def depthM (cs held : List Int) (r : Bool) : List Int := (stretchM (readyM cs held r) cs.length).foldl depthOne (List.replicate cs.length 0)
def turnsM (cs held : List Int) (r : Bool) (many : Int) : List Int :=
  if swingM cs held r = true then List.replicate cs.length many else (depthM cs held r).map (minI many)
def prevI (cs : List Int) (k : Nat) : Int := if k = 0 then cs.getD (cs.length - 1) 0 else cs.getD (k - 1) 0
def restAt (cs t : List Int) (k : Nat) : Int := if t.getD k 0 % 2 = 1 then prevI cs k else cs.getD k 0
def restM (cs held : List Int) (r : Bool) : List Int := (List.range cs.length).map (restAt cs (turnsM cs held r cs.length))
def cnt (l : List Int) : Int := (l.count 0 : Int) - (l.count 1 : Int)
def diffM (held : List Int) (r : Bool) (cs : List Int) : Int := if swingM cs held r = true then 0 else cnt (restM cs held r)

theorem upTo_length (n : Nat) : (upTo n).length = n := by simp [upTo]
theorem mem_upTo {n : Nat} {k : Int} : k ∈ upTo n ↔ 0 ≤ k ∧ k < (n : Int) := by
  unfold upTo
  rw [List.mem_map]
  constructor
  · rintro ⟨i, hi, rfl⟩
    have := List.mem_range.mp hi
    show 0 ≤ (i : Int) ∧ (i : Int) < (n : Int)
    omega
  · intro h
    exact ⟨k.toNat, List.mem_range.mpr (by omega), by show ((k.toNat : Nat) : Int) = k; omega⟩
theorem mem_ready {cs held : List Int} {r : Bool} {k : Int} (h : k ∈ readyM cs held r) : 0 ≤ k ∧ k < (cs.length : Int) := mem_upTo.mp (List.mem_filter.mp h).1
theorem upTo_pairwise (n : Nat) : (upTo n).Pairwise (· < ·) := by
  unfold upTo
  rw [List.pairwise_map]
  refine List.Pairwise.imp (R := fun a b : Nat => a < b) (fun {a b} h => ?_) List.pairwise_lt_range
  show (a : Int) < (b : Int)
  omega
theorem ready_pairwise (cs held : List Int) (r : Bool) : (readyM cs held r).Pairwise (· < ·) := (upTo_pairwise _).filter _
theorem ready_length (cs held : List Int) (r : Bool) : (readyM cs held r).length ≤ cs.length := by
  have h := List.length_filter_le (fun k => !heldB held r cs.length k && flankB cs k) (upTo cs.length)
  rw [upTo_length] at h
  exact h

/-! ### the walk along a stretch ends -/
theorem chase_len (rd : List Int) (n : Int) : ∀ (f : Nat) (x : Int), (chase rd n f x).length ≤ f
  | 0, _ => Nat.le_refl _
  | f + 1, x => by
    unfold chase
    split
    · rw [List.length_cons]
      have := chase_len rd n f ((x + 1) % n)
      omega
    · exact Nat.zero_le _

/-! ### depths -/
theorem depth1_length (one f : List Int) (i : Nat) : (depth1 one f i).length = f.length := by simp [depth1]
theorem fold1_length (one : List Int) : ∀ (l : List Nat) (f : List Int), (l.foldl (depth1 one) f).length = f.length
  | [], _ => rfl
  | i :: l, f => by rw [List.foldl_cons, fold1_length one l, depth1_length]
theorem depthOne_length (f one : List Int) : (depthOne f one).length = f.length := fold1_length one _ f
theorem fold2_length : ∀ (l : List (List Int)) (f : List Int), (l.foldl depthOne f).length = f.length
  | [], _ => rfl
  | o :: l, f => by rw [List.foldl_cons, fold2_length l, depthOne_length]
theorem depth_length (cs held : List Int) (r : Bool) : (depthM cs held r).length = cs.length := by
  unfold depthM
  rw [fold2_length, List.length_replicate]
theorem turns_length (cs held : List Int) (r : Bool) (m : Int) : (turnsM cs held r m).length = cs.length := by
  unfold turnsM
  split
  · rw [List.length_replicate]
  · rw [List.length_map, depth_length]
theorem rest_length (cs held : List Int) (r : Bool) : (restM cs held r).length = cs.length := by simp [restM]
theorem getD_mem {cs : List Int} {k : Nat} (h : k < cs.length) : cs.getD k 0 ∈ cs := by
  rw [List.getD_eq_getElem?_getD, List.getElem?_eq_getElem h]
  exact List.getElem_mem h
theorem prev_mem {cs : List Int} {k : Nat} (h : k < cs.length) : prevI cs k ∈ cs := by
  unfold prevI
  split
  · exact getD_mem (by omega)
  · exact getD_mem (by omega)
theorem rest_mem {cs held : List Int} {r : Bool} {x : Int} (h : x ∈ restM cs held r) : x ∈ cs := by
  unfold restM at h
  obtain ⟨k, hk, rfl⟩ := List.mem_map.mp h
  have hk := List.mem_range.mp hk
  unfold restAt
  split
  · exact prev_mem hk
  · exact getD_mem hk
theorem cnt_bound (l : List Int) : -(l.length : Int) ≤ cnt l ∧ cnt l ≤ (l.length : Int) := by
  have h0 : l.count 0 ≤ l.length := List.count_le_length
  have h1 : l.count 1 ≤ l.length := List.count_le_length
  unfold cnt
  omega
theorem diff_bound (held : List Int) (r : Bool) (cs : List Int) : -(cs.length : Int) ≤ diffM held r cs ∧ diffM held r cs ≤ (cs.length : Int) := by
  unfold diffM
  split
  · omega
  · have h := cnt_bound (restM cs held r)
    rw [rest_length] at h
    exact h

/-! ### all cells held -/
theorem ready_held {cs held : List Int} {r : Bool} (h : ∀ k : Int, 0 ≤ k → k < (cs.length : Int) → k ∈ held) : readyM cs held r = [] := by
  unfold readyM
  rw [List.filter_eq_nil_iff]
  intro k hk
  obtain ⟨h0, h1⟩ := mem_upTo.mp hk
  have e : decide (k ∈ held) = true := decide_eq_true (h k h0 h1)
  simp [heldB, e]
theorem rest_held {cs held : List Int} {r : Bool} (h : ∀ k : Int, 0 ≤ k → k < (cs.length : Int) → k ∈ held) (h1 : 1 ≤ cs.length) : restM cs held r = cs := by
  have er := ready_held (r := r) h
  have es : swingM cs held r = false := by
    unfold swingM
    rw [er, decide_eq_false (by simp; omega), Bool.and_false]
  have et : ∀ k, (turnsM cs held r cs.length).getD k 0 = 0 := by
    intro k
    unfold turnsM depthM stretchM runsM
    rw [es, er]
    simp only [Bool.false_eq_true, if_false, List.filter_nil, List.map_nil, List.mergeSort_nil, List.foldl_nil, List.map_replicate]
    have e : minI (cs.length : Int) 0 = 0 := by
      unfold minI
      rw [if_pos (by omega)]
    rw [e, List.getD_eq_getElem?_getD]
    by_cases hk : k < cs.length
    · simp [hk]
    · simp [hk]
  refine List.ext_getElem? fun i => ?_
  show ((List.range cs.length).map (restAt cs (turnsM cs held r cs.length)))[i]? = cs[i]?
  rw [List.getElem?_map]
  by_cases h3 : i < cs.length
  · rw [List.getElem?_range h3, Option.map_some]
    unfold restAt
    rw [et, if_neg (by omega), List.getD_eq_getElem?_getD, List.getElem?_eq_getElem h3]
    rfl
  · rw [List.getElem?_eq_none (by rw [List.length_range]; omega), List.getElem?_eq_none (by omega)]
    rfl
theorem diff_held {cs held : List Int} {r : Bool} (h : ∀ k : Int, 0 ≤ k → k < (cs.length : Int) → k ∈ held) (h1 : 1 ≤ cs.length) : diffM held r cs = cnt cs := by
  have er := ready_held (r := r) h
  have es : swingM cs held r = false := by
    unfold swingM
    rw [er, decide_eq_false (by simp; omega), Bool.and_false]
  unfold diffM
  rw [es, if_neg (by decide), rest_held h h1]

/-! ### what is sorted by distinct heads is one list -/
theorem sort_unique {l m : List (List Int)} (hp : l.Perm m) (hl : l.Pairwise fun a b => hd a ≤ hd b) (hm : m.Pairwise fun a b => hd a < hd b ∨ hd b < hd a) :
    l = m.mergeSort fun a b => decide (hd a ≤ hd b) := by
  have hq : (m.mergeSort fun a b => decide (hd a ≤ hd b)).Perm m := List.mergeSort_perm _ _
  have hs : (m.mergeSort fun a b => decide (hd a ≤ hd b)).Pairwise fun a b => hd a ≤ hd b := by
    have z := List.pairwise_mergeSort (le := fun a b : List Int => decide (hd a ≤ hd b)) (fun a b c h1 h2 => by
      have := of_decide_eq_true h1
      have := of_decide_eq_true h2
      exact decide_eq_true (by omega)) (fun a b => by
      by_cases h : hd a ≤ hd b
      · simp [h]
      · have h' : hd b ≤ hd a := by omega
        simp [h']) m
    exact z.imp fun {a b} h => of_decide_eq_true h
  have inj : ∀ a b, a ∈ m → b ∈ m → hd a = hd b → a = b := by
    intro a b ha hb e
    obtain ⟨i, hi, rfl⟩ := List.getElem_of_mem ha
    obtain ⟨j, hj, rfl⟩ := List.getElem_of_mem hb
    rcases Nat.lt_trichotomy i j with h | h | h
    · have := List.pairwise_iff_getElem.mp hm i j hi hj h
      omega
    · subst h; rfl
    · have := List.pairwise_iff_getElem.mp hm j i hj hi h
      omega
  exact List.Perm.eq_of_pairwise (fun a b ha hb h1 h2 => inj a b (hp.mem_iff.mp ha) (hq.mem_iff.mp hb) (by omega)) hl hs (hp.trans hq.symm)
theorem hd_run (rd : List Int) (n : Nat) (k : Int) : hd (runM rd n k) = (k - 1) % (n : Int) := rfl
theorem runs_heads {cs held : List Int} {r : Bool} : (runsM (readyM cs held r) cs.length).Pairwise fun a b => hd a < hd b ∨ hd b < hd a := by
  unfold runsM
  rw [List.pairwise_map]
  refine List.Pairwise.imp_of_mem (R := fun a b => a < b) (fun {a b} ha hb h => ?_) ((ready_pairwise cs held r).filter _)
  rw [hd_run, hd_run]
  obtain ⟨a0, a1⟩ := mem_ready (List.mem_filter.mp ha).1
  obtain ⟨b0, b1⟩ := mem_ready (List.mem_filter.mp hb).1
  have eb : (b - 1) % (cs.length : Int) = b - 1 := Int.emod_eq_of_lt (by omega) (by omega)
  by_cases h0 : a = 0
  · have ea : (a - 1) % (cs.length : Int) = (cs.length : Int) - 1 := by
      subst h0
      rw [show (0 : Int) - 1 = ((cs.length : Int) - 1) + (cs.length : Int) * (-1) by omega, Int.add_mul_emod_self_left]
      exact Int.emod_eq_of_lt (by omega) (by omega)
    rw [ea, eb]
    omega
  · have ea : (a - 1) % (cs.length : Int) = a - 1 := Int.emod_eq_of_lt (by omega) (by omega)
    rw [ea, eb]
    omega
end FT
end
section
set_option autoImplicit false
set_option maxHeartbeats 1000000
/-! FtPaint: the two painters, in plain Lean. -/
namespace FT
abbrev Pt := List (Option Int)
def nones (p : Pt) : Nat := p.count none
def colM (p : Pt) : Int := if p.count (some 0) = p.count (some 1) then 0 else 1
def behindM (p : Pt) (k : Nat) (c : Int) : Pt := p.set k (some c)
def freeM (p : Pt) : List Nat := (List.range p.length).filter fun k => decide (p[k]? = some none)
def cellsM (p : Pt) : List Int := p.map fun x => x.getD 0
def maxM (l : List Int) : Int := l.max?.getD 0
def minM (l : List Int) : Int := l.min?.getD 0
def bestM (c : Int) (l : List Int) : Int := if c = 0 then maxM l else minM l
def valM (held : List Int) (r : Bool) : Nat → Pt → Int
  | 0, p => diffM held r (cellsM p)
  | m + 1, p => bestM (colM p) ((freeM p).map fun k => valM held r m (behindM p k (colM p)))
/-- the value of some painted cells -/
def V0 (held : List Int) (r : Bool) (p : Pt) : Int := valM held r (nones p) p
/-- how many entries a call of value_in can add -/
def cost : Nat → Nat
  | 0 => 0
  | m + 1 => 1 + (m + 1) * cost m
def Okp (p : Pt) : Prop := ∀ x ∈ p, x = none ∨ x = some 0 ∨ x = some 1
/-- as many 0 as 1, or one more -/
def Bal (p : Pt) : Prop := p.count (some 0) = p.count (some 1) ∨ p.count (some 0) = p.count (some 1) + 1

theorem max_is {l : List Int} {m : Int} (h : m ∈ l) (hm : ∀ y ∈ l, y ≤ m) : maxM l = m := by
  have e : l.max? = some m := List.max?_eq_some_iff.mpr ⟨h, hm⟩
  unfold maxM
  rw [e]; rfl
theorem min_is {l : List Int} {m : Int} (h : m ∈ l) (hm : ∀ y ∈ l, m ≤ y) : minM l = m := by
  have e : l.min? = some m := List.min?_eq_some_iff.mpr ⟨h, hm⟩
  unfold minM
  rw [e]; rfl
theorem has_max : ∀ {l : List Int}, l ≠ [] → ∃ m ∈ l, ∀ y ∈ l, y ≤ m
  | [], h => absurd rfl h
  | [a], _ => ⟨a, List.mem_singleton.mpr rfl, fun y hy => by rw [List.mem_singleton.mp hy]; exact Int.le_refl _⟩
  | a :: b :: l, _ => by
    obtain ⟨m, hm, hx⟩ := has_max (l := b :: l) (by simp)
    by_cases h : a ≤ m
    · exact ⟨m, List.mem_cons_of_mem _ hm, fun y hy => by
        rcases List.mem_cons.mp hy with e | hy
        · omega
        · exact hx y hy⟩
    · exact ⟨a, List.mem_cons_self, fun y hy => by
        rcases List.mem_cons.mp hy with e | hy
        · omega
        · have := hx y hy
          omega⟩
theorem has_min : ∀ {l : List Int}, l ≠ [] → ∃ m ∈ l, ∀ y ∈ l, m ≤ y
  | [], h => absurd rfl h
  | [a], _ => ⟨a, List.mem_singleton.mpr rfl, fun y hy => by rw [List.mem_singleton.mp hy]; exact Int.le_refl _⟩
  | a :: b :: l, _ => by
    obtain ⟨m, hm, hx⟩ := has_min (l := b :: l) (by simp)
    by_cases h : m ≤ a
    · exact ⟨m, List.mem_cons_of_mem _ hm, fun y hy => by
        rcases List.mem_cons.mp hy with e | hy
        · omega
        · exact hx y hy⟩
    · exact ⟨a, List.mem_cons_self, fun y hy => by
        rcases List.mem_cons.mp hy with e | hy
        · omega
        · have := hx y hy
          omega⟩
theorem best_mem (c : Int) {l : List Int} (h : l ≠ []) : bestM c l ∈ l := by
  unfold bestM
  split
  · obtain ⟨m, hm, hx⟩ := has_max h
    rw [max_is hm hx]; exact hm
  · obtain ⟨m, hm, hx⟩ := has_min h
    rw [min_is hm hx]; exact hm

theorem mem_free {p : Pt} {k : Nat} : k ∈ freeM p ↔ p[k]? = some none := by
  unfold freeM
  rw [List.mem_filter, List.mem_range, decide_eq_true_eq]
  constructor
  · exact fun h => h.2
  · exact fun h => ⟨(List.getElem?_eq_some_iff.mp h).1, h⟩
theorem behind_length (p : Pt) (k : Nat) (c : Int) : (behindM p k c).length = p.length := by simp [behindM]
theorem count_behind {p : Pt} {k : Nat} {c : Int} (h : p[k]? = some none) (x : Option Int) :
    (behindM p k c).count x = p.count x - (if none = x then 1 else 0) + (if some c = x then 1 else 0) := by
  obtain ⟨hk, e⟩ := List.getElem?_eq_some_iff.mp h
  unfold behindM
  rw [List.count_set hk, e]
  simp only [beq_iff_eq]
theorem nones_behind {p : Pt} {k : Nat} {c : Int} (h : p[k]? = some none) : nones (behindM p k c) + 1 = nones p := by
  have hp : 0 < p.count none := List.count_pos_iff.mpr (List.mem_of_getElem? h)
  unfold nones
  rw [count_behind h]
  simp
  omega
theorem okp_behind {p : Pt} {k : Nat} {c : Int} (h : Okp p) (hc : c = 0 ∨ c = 1) : Okp (behindM p k c) := by
  intro x hx
  rcases List.mem_or_eq_of_mem_set hx with hx | hx
  · exact h x hx
  · subst hx
    rcases hc with rfl | rfl
    · exact .inr (.inl rfl)
    · exact .inr (.inr rfl)
theorem col_01 (p : Pt) : colM p = 0 ∨ colM p = 1 := by
  unfold colM
  split
  · exact .inl rfl
  · exact .inr rfl
theorem bal_behind {p : Pt} {k : Nat} (h : p[k]? = some none) (hb : Bal p) : Bal (behindM p k (colM p)) := by
  have e0 := count_behind (c := colM p) h (some 0)
  have e1 := count_behind (c := colM p) h (some 1)
  unfold Bal at hb ⊢
  by_cases e : p.count (some 0) = p.count (some 1)
  · have ec : colM p = 0 := if_pos e
    rw [ec] at e0 e1 ⊢
    right
    simp at e0 e1
    omega
  · have ec : colM p = 1 := if_neg e
    rw [ec] at e0 e1 ⊢
    left
    simp at e0 e1
    omega
theorem free_nil {p : Pt} : freeM p = [] ↔ nones p = 0 := by
  constructor
  · intro h
    refine List.count_eq_zero.mpr fun hm => ?_
    obtain ⟨k, hk, e⟩ := List.getElem_of_mem hm
    have : k ∈ freeM p := mem_free.mpr (by rw [List.getElem?_eq_getElem hk, e])
    rw [h] at this
    cases this
  · intro h
    cases e : freeM p with
    | nil => rfl
    | cons k r =>
      have hk : k ∈ freeM p := by rw [e]; exact List.mem_cons_self
      have := List.count_eq_zero.mp h
      exact absurd (List.mem_of_getElem? (mem_free.mp hk)) this
theorem cells_length (p : Pt) : (cellsM p).length = p.length := by simp [cellsM]

/-- one turn of the painters -/
theorem V0_turn {held : List Int} {r : Bool} {p : Pt} (h : nones p ≠ 0) : V0 held r p = bestM (colM p) ((freeM p).map fun k => V0 held r (behindM p k (colM p))) := by
  obtain ⟨m, e⟩ : ∃ m, nones p = m + 1 := ⟨nones p - 1, by omega⟩
  have q : (freeM p).map (fun k => valM held r m (behindM p k (colM p))) = (freeM p).map fun k => V0 held r (behindM p k (colM p)) := by
    refine List.map_congr_left fun k hk => ?_
    have := nones_behind (c := colM p) (mem_free.mp hk)
    unfold V0
    rw [show nones (behindM p k (colM p)) = m by omega]
  conv => lhs; unfold V0
  rw [e]
  show bestM (colM p) ((freeM p).map fun k => valM held r m (behindM p k (colM p))) = _
  rw [q]
theorem V0_end {held : List Int} {r : Bool} {p : Pt} (h : nones p = 0) : V0 held r p = diffM held r (cellsM p) := by
  unfold V0
  rw [h]; rfl
theorem V0_bound (held : List Int) (r : Bool) : ∀ (m : Nat) (p : Pt), nones p = m → -(p.length : Int) ≤ V0 held r p ∧ V0 held r p ≤ (p.length : Int)
  | 0, p, h => by
    have z := diff_bound held r (cellsM p)
    rw [cells_length] at z
    rw [V0_end h]
    exact z
  | m + 1, p, h => by
    have hne : (freeM p).map (fun k => V0 held r (behindM p k (colM p))) ≠ [] := by
      intro z
      have := free_nil.mp (List.map_eq_nil_iff.mp z)
      omega
    have hm := best_mem (colM p) hne
    rw [← V0_turn (by omega)] at hm
    obtain ⟨k, hk, e⟩ := List.mem_map.mp hm
    have z := V0_bound held r m (behindM p k (colM p)) (by have := nones_behind (c := colM p) (mem_free.mp hk); omega)
    rw [behind_length, e] at z
    exact z
/-- some cell is best -/
theorem V0_some {held : List Int} {r : Bool} {p : Pt} (h : nones p ≠ 0) : ∃ k ∈ freeM p, V0 held r (behindM p k (colM p)) = V0 held r p := by
  have hne : (freeM p).map (fun k => V0 held r (behindM p k (colM p))) ≠ [] := fun z => h (free_nil.mp (List.map_eq_nil_iff.mp z))
  have hm := best_mem (colM p) hne
  rw [← V0_turn h] at hm
  obtain ⟨k, hk, e⟩ := List.mem_map.mp hm
  exact ⟨k, hk, e⟩

/-! ### all cells held -/
theorem count_cells : ∀ {p : Pt} (_ : nones p = 0) (c : Int), (cellsM p).count c = p.count (some c)
  | [], _, _ => rfl
  | none :: p, h, c => by simp [nones] at h
  | some x :: p, h, c => by
    have h' : nones p = 0 := by simpa [nones] using h
    have ih := count_cells h' c
    show (x :: cellsM p).count c = _
    rw [List.count_cons, List.count_cons, ih]
    simp
theorem total : ∀ {p : Pt}, Okp p → p.count (some 0) + p.count (some 1) + nones p = p.length
  | [], _ => rfl
  | x :: p, h => by
    have ih := total (p := p) fun y hy => h y (List.mem_cons_of_mem _ hy)
    unfold nones at ih ⊢
    rw [List.count_cons, List.count_cons, List.count_cons, List.length_cons]
    rcases h x List.mem_cons_self with rfl | rfl | rfl
    · simp; omega
    · simp; omega
    · simp; omega
theorem V0_held {held : List Int} {r : Bool} : ∀ (m : Nat) (p : Pt), nones p = m → Okp p → Bal p → (∀ k : Int, 0 ≤ k → k < (p.length : Int) → k ∈ held) → 1 ≤ p.length → V0 held r p = (p.length : Int) % 2
  | 0, p, h, ho, hb, hh, h1 => by
    rw [V0_end h, diff_held (by rw [cells_length]; exact hh) (by rw [cells_length]; exact h1)]
    unfold cnt
    rw [count_cells h, count_cells h]
    have z := total ho
    unfold Bal at hb
    omega
  | m + 1, p, h, ho, hb, hh, h1 => by
    have hne : (freeM p).map (fun k => V0 held r (behindM p k (colM p))) ≠ [] := by
      intro z
      have := free_nil.mp (List.map_eq_nil_iff.mp z)
      omega
    have hm := best_mem (colM p) hne
    rw [← V0_turn (by omega)] at hm
    obtain ⟨k, hk, e⟩ := List.mem_map.mp hm
    have hk' := mem_free.mp hk
    have z := V0_held (held := held) (r := r) m (behindM p k (colM p)) (by have := nones_behind (c := colM p) hk'; omega) (okp_behind ho (col_01 p)) (bal_behind hk' hb) (by rw [behind_length]; exact hh) (by rw [behind_length]; exact h1)
    rw [behind_length, e] at z
    exact z
/-- all play alike where all cells are held -/
theorem V0_held_turn {held : List Int} {r : Bool} {p : Pt} {k : Nat} (hk : p[k]? = some none) (ho : Okp p) (hb : Bal p) (hh : ∀ k : Int, 0 ≤ k → k < (p.length : Int) → k ∈ held) (h1 : 1 ≤ p.length) :
    V0 held r (behindM p k (colM p)) = V0 held r p := by
  have z1 := V0_held (held := held) (r := r) _ p rfl ho hb hh h1
  have z2 := V0_held (held := held) (r := r) _ (behindM p k (colM p)) rfl (okp_behind ho (col_01 p)) (bal_behind hk hb) (by rw [behind_length]; exact hh) (by rw [behind_length]; exact h1)
  rw [behind_length] at z2
  rw [z1, z2]

/-! ### nothing painted, all painted -/
def noneP (n : Nat) : Pt := List.replicate n none
theorem noneP_ok (n : Nat) : Okp (noneP n) := fun x hx => .inl (List.eq_of_mem_replicate hx)
theorem noneP_bal (n : Nat) : Bal (noneP n) := by
  left
  unfold noneP
  rw [List.count_replicate, List.count_replicate]
  rfl
theorem noneP_nones (n : Nat) : nones (noneP n) = n := by
  unfold nones noneP
  rw [List.count_replicate]
  rfl
theorem cost_le {m n : Nat} (h : m ≤ n) : cost m ≤ cost n := by
  induction n with
  | zero =>
    have : m = 0 := by omega
    subst this; exact Nat.le_refl _
  | succ n ih =>
    by_cases e : m = n + 1
    · subst e; exact Nat.le_refl _
    · have z := ih (by omega)
      have : cost n ≤ (n + 1) * cost n := Nat.le_mul_of_pos_left _ (by omega)
      show cost m ≤ 1 + (n + 1) * cost n
      omega
theorem cost_7 : cost 7 = 8660 := by decide
def someP (cs : List Int) : Pt := cs.map some
theorem someP_cells (cs : List Int) : cellsM (someP cs) = cs := by
  unfold cellsM someP
  rw [List.map_map]
  conv => rhs; rw [← List.map_id cs]
  rfl
theorem someP_nones (cs : List Int) : nones (someP cs) = 0 := List.count_eq_zero.mpr fun h => by
  obtain ⟨x, _, e⟩ := List.mem_map.mp h
  cases e
theorem someP_count (cs : List Int) (c : Int) : (someP cs).count (some c) = cs.count c := by
  rw [← count_cells (someP_nones cs), someP_cells]
theorem someP_ok {cs : List Int} (h : ∀ x ∈ cs, x = 0 ∨ x = 1) : Okp (someP cs) := fun x hx => by
  obtain ⟨y, hy, e⟩ := List.mem_map.mp hx
  subst e
  rcases h y hy with rfl | rfl
  · exact .inr (.inl rfl)
  · exact .inr (.inr rfl)
theorem V0_some_cells (held : List Int) (r : Bool) (cs : List Int) : V0 held r (someP cs) = diffM held r cs := by
  rw [V0_end (someP_nones cs), someP_cells]
end FT
end
section
set_option autoImplicit false
set_option maxHeartbeats 1000000
/-! FtPlay: the law's cells, painted turn by turn; what the painters say of them. -/
namespace FT
theorem upTo_asc (n : Nat) : (upTo n).Pairwise (· < ·) := by
  unfold upTo
  refine List.Pairwise.map _ (fun a b h => ?_) List.pairwise_lt_range
  have h' : a < b := h
  show ((a : Nat) : Int) < (b : Nat)
  omega
/-- i cells are painted, rest are the cells still to come -/
structure Painted (n i : Nat) (rest : List Int) (p : Pt) : Prop where
  len : p.length = n
  ok : Okp p
  c0 : p.count (some 0) = (i + 1) / 2
  c1 : p.count (some 1) = i / 2
  nn : nones p + i = n
  free : ∀ k ∈ rest, 0 ≤ k ∧ p[k.toNat]? = some none
  nd : rest.Nodup
theorem painted_start {n : Nat} {ord : List Int} (h : ord.Perm (upTo n)) (hn : (upTo n).Nodup) : Painted n 0 ord (noneP n) := by
  refine ⟨List.length_replicate, noneP_ok n, ?_, ?_, noneP_nones n, fun k hk => ?_, h.nodup_iff.mpr hn⟩
  · unfold noneP
    rw [List.count_replicate]
    rfl
  · unfold noneP
    rw [List.count_replicate]
    rfl
  · obtain ⟨h0, h1⟩ := mem_upTo.mp (h.mem_iff.mp hk)
    refine ⟨h0, ?_⟩
    unfold noneP
    rw [List.getElem?_replicate, if_pos (by omega)]
theorem painted_step {n i : Nat} {k : Int} {rest : List Int} {p : Pt} (h : Painted n i (k :: rest) p) : Painted n (i + 1) rest (behindM p k.toNat ((i : Int) % 2)) := by
  obtain ⟨h0, hk⟩ := h.free k List.mem_cons_self
  have z0 := count_behind (c := (i : Int) % 2) hk (some 0)
  have z1 := count_behind (c := (i : Int) % 2) hk (some 1)
  have zn := nones_behind (c := (i : Int) % 2) hk
  have c0 := h.c0
  have c1 := h.c1
  have nn := h.nn
  refine ⟨by rw [behind_length]; exact h.len, okp_behind h.ok (by omega), ?_, ?_, by omega, fun j hj => ?_, (List.nodup_cons.mp h.nd).2⟩
  · by_cases e : (i : Int) % 2 = 0
    · rw [e] at z0 ⊢
      simp at z0
      omega
    · have e1 : (i : Int) % 2 = 1 := by omega
      rw [e1] at z0 ⊢
      simp at z0
      omega
  · by_cases e : (i : Int) % 2 = 0
    · rw [e] at z1 ⊢
      simp at z1
      omega
    · have e1 : (i : Int) % 2 = 1 := by omega
      rw [e1] at z1 ⊢
      simp at z1
      omega
  · obtain ⟨j0, hjp⟩ := h.free j (List.mem_cons_of_mem _ hj)
    refine ⟨j0, ?_⟩
    have ne : k ≠ j := fun z => (List.nodup_cons.mp h.nd).1 (by rw [z]; exact hj)
    unfold behindM
    rw [List.getElem?_set_ne (by omega)]
    exact hjp
theorem painted_end {n : Nat} {rest : List Int} {p : Pt} (h : Painted n n rest p) : nones p = 0 ∧ Bal p := by
  have c0 := h.c0
  have c1 := h.c1
  have nn := h.nn
  refine ⟨by omega, ?_⟩
  unfold Bal
  omega
theorem cells_01 {p : Pt} (hn : nones p = 0) (ho : Okp p) : ∀ c ∈ cellsM p, c = 0 ∨ c = 1 := by
  intro c hc
  unfold cellsM at hc
  obtain ⟨x, hx, rfl⟩ := List.mem_map.mp hc
  rcases ho x hx with e | e | e
  · subst e
    exact absurd hx (List.count_eq_zero.mp hn)
  · subst e
    exact .inl rfl
  · subst e
    exact .inr rfl
theorem free_noneP (n : Nat) : freeM (noneP n) = List.range n := by
  unfold freeM noneP
  rw [List.length_replicate, List.filter_eq_self]
  intro k hk
  rw [List.mem_range] at hk
  rw [List.getElem?_replicate, if_pos hk]
  exact decide_eq_true rfl
theorem held_all {n : Nat} {p : Pt} (h : p.length = n) : ∀ k : Int, 0 ≤ k → k < (p.length : Int) → k ∈ upTo n := fun k h0 h1 => mem_upTo.mpr ⟨h0, by omega⟩
theorem V0_all {n : Nat} {r : Bool} (h1 : 1 ≤ n) : V0 (upTo n) r (noneP n) = (n : Int) % 2 := by
  have hl : (noneP n).length = n := List.length_replicate
  have z := V0_held (held := upTo n) (r := r) _ (noneP n) rfl (noneP_ok n) (noneP_bal n) (held_all hl) (by omega)
  rw [hl] at z
  exact z
end FT
end
section
set_option Elab.async false
set_option linter.all false
set_option maxRecDepth 100000
set_option maxHeartbeats 4000000
/-! FtTup: tuples whose own object is known (no attributes of their own): displays, +, tuple(list), * n, count, dict(pairs). -/
namespace FT
open PySem PySem.Spec L2
open PyProof.Rows hiding St
/-- at a stands a tuple of the items xs, its object without a dict -/
def FzT (H : Hp) (a : Addr) (xs : List V) : Prop := ∃ o : Obj, o.dict = none ∧ o.cls = .type "tuple" ∧ H a = some (.frz o (.tup xs))
/-- such a tuple was laid at a free place -/
def NewT (H : Hp) (p : Addr) (xs : List V) (H' : Hp) : Prop := H p = none ∧ ∃ o : Obj, o.dict = none ∧ o.cls = .type "tuple" ∧ H' = upd H p (.frz o (.tup xs))
theorem FzT.t {K : PySem.W.Frag} {H : Hp} {a : Addr} {xs : List V} (h : FzT H a xs) : SqT K H a xs := let ⟨o, _, _, e⟩ := h; .inl (.inr ⟨o, e⟩)
theorem FzT.same {H H' : Hp} {a : Addr} {xs : List V} (h : FzT H a xs) (s : Same H H') : FzT H' a xs := let ⟨o, d, c, e⟩ := h; ⟨o, d, c, s _ _ e⟩
theorem sameT {K : PySem.W.Frag} {H H' : Hp} {a : Addr} {xs : List V} (s : Same H H') (h : SqT K H a xs) : SqT K H' a xs := by
  rcases h with (h | ⟨o, h⟩) | h
  · exact .inl (.inl (s _ _ h))
  · exact .inl (.inr ⟨o, s _ _ h⟩)
  · exact .inr h
theorem same_put {H : Hp} {p : Addr} {o : HO} (h : H p = none) : Same H (upd H p o) := fun b x e => by
  rw [upd_ne (ne_of_none e h)]
  exact e
theorem NewT.same {H H' : Hp} {p : Addr} {xs : List V} (h : NewT H p xs H') : Same H H' := by
  obtain ⟨n, o, _, _, rfl⟩ := h
  exact same_put n
theorem NewT.at {H H' : Hp} {p : Addr} {xs : List V} (h : NewT H p xs H') : FzT H' p xs := by
  obtain ⟨n, o, d, c, rfl⟩ := h
  exact ⟨o, d, c, upd_same⟩
theorem NewT.ne {H H' : Hp} {p q : Addr} {xs : List V} (h : NewT H p xs H') (hq : q ≠ p) : H' q = H q := by
  obtain ⟨n, o, d, c, rfl⟩ := h
  exact upd_ne hq
section
variable {P : Program} {w : World} {H : Hp} {h : Heap} {a : Addr} {xs : List V}
theorem FzT.obj (ok : HOk P w H h) (f : FzT H a xs) : xs.length ≤ sizeLine ∧ ∃ (o : Obj) (its : List Value) (n : Nat), Vals xs its ∧ h.get? a = some o ∧ o.cls = .type "tuple" ∧ o.dict = none ∧ o.data = .seq its.toArray n := by
  obtain ⟨o, d, c, e⟩ := f
  obtain ⟨ho, z, its, r, o', ho', c', n, hd⟩ := (show ObjOk P w H h a (.frz o (.tup xs)) from ok a _ e)
  rw [ho] at ho'
  cases ho'
  exact ⟨z, o, its, n, r, ho, c, d, hd⟩
end
section
variable {X : Cx} {pins : List (Addr × Obj)} {σ : St} {H : Hp} {s : Shared}
theorem laidT {us : List Value} {xs : List V} {t' : Nat} (I : Inv X pins σ H s) (z : xs.length ≤ sizeLine) (r : Vals xs us) :
    ∃ H', NewT H s.heap.objs.size xs H' ∧ Inv X pins σ H' { s with heap := s.heap.push { cls := .type "tuple", data := .seq us.toArray }, toks := t' } := by
  have hf : H s.heap.objs.size = none := I.hok.fresh (Nat.le_refl _)
  refine ⟨upd H s.heap.objs.size (.frz { cls := .type "tuple", data := .seq us.toArray } (.tup xs)), ⟨hf, _, rfl, rfl, rfl⟩, I.laid (fun b u e => Heap.get?_push_of_some _ e) (Nat.le_refl _) ?_⟩
  exact ⟨Heap.get?_push_size _ rfl, z, us, r, ⟨_, Heap.get?_push_size _ rfl, rfl, _, rfl⟩⟩
/-- (a, b) -/
def tTupF (t : TA) : TE := fun σ H Q => t σ H fun xs H1 => xs.length ≤ sizeLine ∧ ∀ p H', NewT H1 p xs H' → Q (.ref p) H'
variable {es : List Expr} {t : TA} {pos : Pos}
theorem pe_tupF {x1} (h : PA X es t) : PE X (.Tuple es x1 pos) (tTupF t) := by
  refine ⟨fun pins s σ H Q I hq => ?_⟩
  refine wpAny_Tuple_spliced (thn (h.run pos pins s σ H _ I hq) fun us s1 ⟨xs, H1, I1, r, z, q⟩ => ⟨by rw [← r.length]; exact z, ?_⟩)
  obtain ⟨H', hn, I'⟩ := laidT (t' := s1.toks) I1 z r
  exact ⟨.ref s1.heap.objs.size, H', I', rfl, q _ _ hn⟩
/-- tuple(a list) -/
def rTupOfF (K : PySem.W.Frag) : List V → Hp → VK → Prop := fun xs H Q => ∃ p ys, xs = [.ref p] ∧ SqL K H p ys ∧ ∀ l H', NewT H l ys H' → Q (.ref l) H'
theorem call_tupleF : CallR X (.type "tuple") (rTupOfF X.K) := by
  intro pins s σ H xs us Q I r h
  obtain ⟨p, ys, rfl, hq, q⟩ := h
  rw [Vals.ref1 r]
  obtain ⟨its, r', pl, hz⟩ := I.list hq
  have hlen := r'.length
  refine call_tuple_list pl.isList (fun h' kp => ?_) (by simp only [List.size_toArray] <;> omega)
  have I1 : Inv X pins σ H { s with heap := h' } := I.kept (t' := s.toks) kp
  obtain ⟨H', hn, I'⟩ := laidT (t' := s.toks) I1 hz r'
  exact ⟨.ref h'.objs.size, H', I', rfl, q _ _ hn⟩
/-- t + u -/
def rCatF (K : PySem.W.Frag) : R2 := fun x y H Q => ∃ a b xs ys, x = .ref a ∧ y = .ref b ∧ SqT K H a xs ∧ SqT K H b ys ∧ xs.length + ys.length ≤ sizeLine ∧
  (xs = [] → Q (.ref b) H) ∧ (xs ≠ [] → ys = [] → Q (.ref a) H) ∧ (xs ≠ [] → ys ≠ [] → ∀ p H', NewT H p (xs ++ ys) H' → Q (.ref p) H')
theorem op_catF : OpR X (binaryOp .Add) (rCatF X.K) := by
  intro pins s σ H x y v u Q I rx ry h
  obtain ⟨a, b, xs, ys, rfl, rfl, ha, hb, hz, q0, q1, q2⟩ := h
  cases rx
  cases ry
  obtain ⟨its, r1, p1, _⟩ := I.tuple ha
  obtain ⟨its2, r2, p2, _⟩ := I.tuple hb
  by_cases hx : xs = []
  · subst hx
    cases r1
    exact cat_tup0 p1 p2 ⟨.ref b, H, I, rfl, q0 rfl⟩
  · refine HT.cat_tup p1 p2 (fun z => hx (r1.nil_iff.mp z)) (fun z => ⟨.ref a, H, I, rfl, q1 hx (r2.nil_iff.mp z)⟩) (fun z => ?_) (by rw [← r1.length, ← r2.length]; exact hz)
    obtain ⟨H', hn, I'⟩ := laidT (t' := s.toks) I (xs := xs ++ ys) (by rw [List.length_append]; exact hz) (r1.append r2)
    exact ⟨.ref s.heap.objs.size, H', I', rfl, q2 hx (fun w => z (r2.nil_iff.mpr w)) _ _ hn⟩
/-- t.count(x), x and the items flat -/
def tCountT (to : TE) (ta : TA) : TE := fun σ H Q => to σ H fun x H1 => ∃ p ys, x = .ref p ∧ FzT H1 p ys ∧ ys.all flatV = true ∧ ta σ H1 fun vs H2 => ∃ y, vs = [y] ∧ flatV y = true ∧ FzT H2 p ys ∧ Q (.int ((ys.countP fun z => eqV z y : Nat) : Int)) H2
theorem count_eqU {x : V} : ∀ {xs : List V} {us : List Value}, Vals xs us → xs.all flatV = true → us.countP (eqU x) = xs.countP fun y => eqV y x
  | _, _, .nil, _ => rfl
  | y :: xs, u :: us, .cons r t, f => by
    rw [List.all_cons, Bool.and_eq_true] at f
    rw [List.countP_cons, List.countP_cons, eqU_of r f.1, count_eqU t f.2]
variable {o e : Expr} {to : TE} {ta : TA} {apos cpos : Pos}
theorem pe_countT (ho : PE X o to) (ha : PA X [e] ta)
    (hbase : attributeBase o "count" X.env (eval o X.env) = eval o X.env := by rfl)
    (hfew : ((backTo cpos (starEach [e] X.env)).all (fun x => !x.1) && (backToKw cpos (keywordEach [] X.env)).all (fun x => x.1.isSome)
      && decide (([e] : List Expr).length + ([] : List Keyword).length + (if ([] : List Keyword).isEmpty then 0 else 1) < 30)) = true := by rfl)
    (hline : (apos.endLine == cpos.line) = true := by rfl) (hs : starEach [e] X.env = (false, eval e X.env) :: starEach [] X.env := by rfl) (hplain : (backTo cpos (starEach [] X.env)).any (·.1) = false := by rfl) :
    PE X (.Call (.Attribute o "count" apos) [e] [] cpos) (tCountT to ta) := by
  refine ⟨fun pins s σ H Q I h => ?_⟩
  refine wpAny_Call_method_late hbase hfew hline rfl (thn (ho.run pins s σ H _ I h) fun v s1 ⟨x, H1, I1, r1, p, ys, ex, f1, fl, q1⟩ => ?_)
  subst ex
  cases r1
  obtain ⟨_, ob, its, n, r, hob, hc, hd, hdat⟩ := f1.obj I1.hok
  refine ⟨"tuple", "tuple.count", PySem.F.plainAttrs_tuple, PySem.F.slot_tuple_count, PySem.F.type_tuple_count, ⟨ob, hob, hc⟩, fun a ea => ?_, ?_⟩
  · cases ea
    exact ⟨ob, hob, hd⟩
  have hA := ha.run cpos pins s1 σ H1 _ I1 q1
  rw [hs] at hA ⊢
  refine Calls.callWith_builtin (by show (false || (backTo cpos (starEach [] X.env)).any (·.1)) = false; rw [hplain] <;> rfl) (Calls.evalArgs_plain ?_)
  refine thn hA fun us s2 ⟨vs, H2, I2, r2, y, ev, fy, f2, q2⟩ => ?_
  subst ev
  obtain ⟨u, rfl, ru⟩ := vals1 r2
  obtain ⟨_, ob2, its2, n2, r3, hob2, hc2, hd2, hdat2⟩ := f2.obj I2.hok
  obtain ⟨cls, dd, data, sl⟩ := ob2
  simp only at hc2 hd2 hdat2
  subst hc2 hd2 hdat2
  refine call_meets PySem.F.slot_tuple_count ⟨_, hob2, rfl⟩ PySem.F.entry_tuple_count (PySem.F.args_tuple_count_2 _ _)
    (SeqAt.tuple_countAt p its2.toArray n2 none sl u (eqU y)) ⟨hob2, fun z hz => mem_eqAt ru fy r3 fl z (by simpa using hz), ?_⟩
  refine ⟨.int ((ys.countP fun z => eqV z y : Nat) : Int), H2, I2.tok _, ⟨s2.toks, ?_⟩, q2⟩
  show Value.int ((its2.toArray.toList.countP (eqU y) : Nat) : Int) s2.toks = _
  rw [show its2.toArray.toList = its2 from rfl, count_eqU r3 fl]
end
end FT
end
section
set_option Elab.async false
set_option linter.all false
set_option maxRecDepth 100000
set_option maxHeartbeats 4000000
/-! FtTup2: tuple * n for n at least 1; dict(a tuple of pairs). -/
namespace FT
open PySem PySem.Spec L2
open PyProof.Rows hiding St
open AutoSeq1 (wpAny_loadPart')
/-- t * 1 is t -/
theorem tuple_mul_one (l : Addr) (items : Array Value) (n : Nat) (dd : Option Addr) (sl : Array (Option Value)) (u : Tok) :
    Meets (Builtin.«tuple.__mul__» ⟨[.ref l, .int 1 u], []⟩) (fun _ R s => s.heap.get? l = some { cls := .type "tuple", dict := dd, data := .seq items n, slots := sl } ∧ R (.ok (.ret (Value.ref l))) s) :=
  .of_wp fun prog w A R s h => by
    obtain ⟨hp, g, d, tk, os⟩ := s
    obtain ⟨hl, h⟩ := h
    have f1 := AutoSeq1.idx_int
    wp_walk using wpAny_loadPart' hl
    have c0 : (items.isEmpty || (1 : Int) == 1) = true := by simp
    repeat (first
      | (refine wpAny_ite_false (decide_eq_false (by decide)) ?_; wp_walk using wpAny_loadPart' hl)
      | (refine wpAny_ite_true (decide_eq_true c0) ?_; wp_walk using wpAny_loadPart' hl))
    exact ⟨_, rfl, h⟩
/-- t * k, k from 1 on -/
def rRepF (K : PySem.W.Frag) : R2 := fun x y H Q => ∃ l k xs, x = .ref l ∧ y = .int k ∧ FzT H l xs ∧ xs ≠ [] ∧ 1 ≤ k ∧ k ≤ 1000 ∧ xs.length ≤ 1000 ∧ (k = 1 → Q (.ref l) H) ∧ (2 ≤ k → ∀ p H', NewT H p (List.replicate k.toNat xs).flatten H' → Q (.ref p) H')
section
variable {X : Cx}
theorem op_repF : OpR X (binaryOp .Mult) (rRepF X.K) := by
  intro pins s σ H x y v u Q I rx ry h
  obtain ⟨l, k, xs, rfl, rfl, hT, hne, h1, h2, hz, q1, q2⟩ := h
  cases rx
  obtain ⟨t, rfl⟩ := ry
  obtain ⟨_, ⟨cls, dd, data, sl⟩, its, n, r, ho, hc, hdn, hd⟩ := hT.obj I.hok
  simp only at hc hd hdn
  subst hc hd hdn
  have hlen : its.length = xs.length := r.length.symm
  refine wpAny_binaryOp_repeat_ref (T := "tuple") (U := "int") (by decide) ⟨_, ho, rfl⟩ (fun s' => typeIs_int s' k t) noFill_tuple_mul F.fills_int_mul F.slot_int_rmul repeat_tuple F.slot_int_index.lookup
    (call_meets F.slot_int_rmul (typeIs_int s k t) F.entry_int_rmul (F.args_int_rmul_2 _ _) (int_rmul_tuple k t l its.toArray n none sl) ⟨ho, rfl, ⟨_, ho, rfl⟩, ?_⟩)
  by_cases hk : k = 1
  · subst hk
    exact call_meets F.slot_tuple_mul ⟨_, ho, rfl⟩ F.entry_tuple_mul (F.args_tuple_mul_2 _ _) (tuple_mul_one l its.toArray n none sl t) ⟨ho, .ref l, H, I, rfl, q1 rfl⟩
  · have hi : its.toArray.isEmpty = false := by
      cases its with
      | nil => exact absurd (List.eq_nil_of_length_eq_zero hlen.symm) hne
      | cons a b => rfl
    have size0 : its.toArray.size = xs.length := by rw [List.size_toArray, hlen]
    have big : ((its.toArray.size : Nat) : Int) * k ≤ 1000000 := by
      rw [size0]
      have e1 : ((xs.length : Nat) : Int) * k ≤ 1000 * k := Int.mul_le_mul_of_nonneg_right (by omega) (by omega)
      omega
    have few : k.toNat * xs.length ≤ 1000000 := Nat.le_trans (Nat.mul_le_mul (by omega : k.toNat ≤ 1000) hz) (by decide)
    have flat : (List.replicate k.toNat its).flatten.length ≤ sizeLine := by
      rw [PyProof.Rows.lm_len_rep_flat, hlen, sizeLine_eq]
      omega
    refine call_meets F.slot_tuple_mul ⟨_, ho, rfl⟩ F.entry_tuple_mul (F.args_tuple_mul_2 _ _) (tuple_mulW l its.toArray n none sl k t ?_ ?_ ?_ (by omega) ?_ (by rw [size_rep, List.size_toArray]; exact flat)) ⟨ho, ?_⟩
    · rw [decide_eq_false (by omega), decide_eq_false (by omega)]
      rfl
    · rw [hi, Bool.false_or]
      exact beq_eq_false_iff_ne.mpr hk
    · rw [hi, Bool.or_false]
      exact decide_eq_false (by omega)
    · unfold Builtin.Tuple.tupleTooMany
      rw [sizeLine_eq]
      exact decide_eq_false (by omega)
    · rw [size_rep]
      obtain ⟨H', hn, I'⟩ := laidT (t' := s.toks) I (xs := (List.replicate k.toNat xs).flatten) (by rw [PyProof.Rows.lm_len_rep_flat, sizeLine_eq]; omega) (r.rep k.toNat)
      exact ⟨.ref s.heap.objs.size, H', I', rfl, q2 (by omega) _ _ hn⟩
/-- dict(a tuple of pairs): int keys -/
def rDictF (K : PySem.W.Frag) : List V → Hp → VK → Prop := fun xs H Q => ∃ (a : Addr) (ps : List Addr) (kvs : List (L2.Key × V)), xs = [.ref a] ∧ FzT H a (ps.map V.ref) ∧ Paired (fun p kv => SqT K H p [kV kv.1, kv.2]) ps kvs ∧
  ∀ p, H p = none → Q (.ref p) (upd H p (.dK (mergeK [] kvs)))
theorem call_dictF (hcalm : X.calm = true) : CallR X (.type "dict") (rDictF X.K) := by
  intro pins s σ H xs us Q I r q
  obtain ⟨a, ps, kvs, rfl, hq, hp, q⟩ := q
  rw [Vals.ref1 r]
  obtain ⟨hz, o, its, n, rv, ho, hc, hd, hdat⟩ := hq.obj I.hok
  have ei := refs_at rv
  subst ei
  rw [List.length_map] at hz
  obtain ⟨prs, rel, hl, hpr⟩ := pairs_of I hp
  -- the pairs by values: each key as it stands in its tuple
  obtain ⟨vs, hvl, hvs⟩ : ∃ vs : List (Value × Value), vs.length = ps.length ∧ ∀ (j : Nat) (k v : Value), vs[j]? = some (k, v) → ∃ (b : Addr) (ky : L2.Key), ps[j]? = some b ∧ IsTup s.heap b #[k, v] ∧ prs[j]? = some (ky, v) ∧ keyIs ky k = true := by
    have each : ∀ j : Nat, j < prs.length → ∃ p : Value × Value, ∃ (b : Addr) (ky : L2.Key), ps[j]? = some b ∧ IsTup s.heap b #[p.1, p.2] ∧ prs[j]? = some (ky, p.2) ∧ keyIs ky p.1 = true := fun j hj => by
      obtain ⟨b, u, e1, e2, e3⟩ := hpr j prs[j] (List.getElem?_eq_getElem hj)
      exact ⟨(u, prs[j].2), b, prs[j].1, e1, e2, List.getElem?_eq_getElem hj, e3⟩
    have all : ∀ m : Nat, m ≤ prs.length → ∃ vs : List (Value × Value), vs.length = m ∧ ∀ (j : Nat) (k v : Value), vs[j]? = some (k, v) → ∃ (b : Addr) (ky : L2.Key), ps[j]? = some b ∧ IsTup s.heap b #[k, v] ∧ prs[j]? = some (ky, v) ∧ keyIs ky k = true := by
      intro m
      induction m with
      | zero => exact fun _ => ⟨[], rfl, fun j k v e => by simp at e⟩
      | succ m ih =>
        intro hm
        obtain ⟨vs, h1, h2⟩ := ih (by omega)
        obtain ⟨p, b, ky, e1, e2, e3, e4⟩ := each m (by omega)
        refine ⟨vs ++ [p], by simp [h1], fun j k v e => ?_⟩
        by_cases hj : j < m
        · rw [List.getElem?_append_left (by omega)] at e
          exact h2 j k v e
        · have ej : j = m := by
            have := (List.getElem?_eq_some_iff.mp e).1
            rw [List.length_append, List.length_singleton] at this
            omega
          subst ej
          rw [← h1, List.getElem?_concat_length] at e
          cases e
          exact ⟨b, ky, e1, e2, e3, e4⟩
    obtain ⟨vs, h1, h2⟩ := all prs.length (Nat.le_refl _)
    exact ⟨vs, by rw [h1, hl], h2⟩
  have ok : PlainSeq "tuple" s.heap a (ps.map Value.ref).toArray ∧ PairItems s.heap (ps.map Value.ref).toArray (fun j => ps.getD j 0) vs := by
    refine ⟨⟨o, n, ho, hc, hd, hdat⟩, by simp [hvl], fun j k v e => ?_⟩
    obtain ⟨b, ky, e1, e2, _⟩ := hvs j k v e
    have eb : ps.getD j 0 = b := by rw [List.getD_eq_getElem?_getD, e1]; rfl
    refine ⟨?_, .inl ?_⟩
    · show _ = some (Value.ref (ps.getD j 0))
      rw [eb]
      simp [e1]
    · show s.heap.IsTuple (ps.getD j 0) #[k, v]
      rw [eb]
      exact e2
  refine PySem.call_dict_pairs (knd := mixKind X.prog X.w) (kvs := prs) (PairArg.tuple a (ps.map Value.ref).toArray (fun j => ps.getD j 0) vs) (I.ok.hd hcalm) ok ⟨by rw [hl, hvl], fun j k v e => ?_⟩ (by rw [hvl]; exact hz) fun h' tk hd' k => ?_
  · obtain ⟨b, ky, _, _, e3, e4⟩ := hvs j k v e
    exact ⟨ky, e3, e4⟩
  · have hm : (s.heap.objs.size == sysModules) = false := beq_eq_false_iff_ne.mpr (Nat.ne_of_gt I.big)
    have hlen : (mergeK [] kvs).length ≤ sizeLine := by
      have z1 := length_mergeK kvs []
      have z2 := rel.length
      rw [List.length_nil] at z1
      omega
    exact ⟨.ref s.heap.objs.size, upd H s.heap.objs.size (.dK (mergeK [] kvs)), I.laid (t' := tk) (fun b ob e => k b ob (fun z => nomatch z) e) (Nat.le_refl _) (show ObjOk X.prog X.w _ _ _ (.dK (mergeK [] kvs)) from ⟨hlen, hm, merged [] prs, KV.merge rel .nil, hd'⟩), rfl, q _ (I.hok.fresh (Nat.le_refl _))⟩
end
end FT
end
section
set_option Elab.async false
set_option linter.all false
set_option maxRecDepth 100000
set_option maxHeartbeats 4000000
/-! FtDict: a dict whose keys are tuples of ints and None, whose values are ints: new, not in, d[k], d[k] = v. -/
namespace FT
open PySem PySem.Spec L2
open PyProof.Rows hiding St
/-- a painted cell as a value -/
def okV : Option Int → V
  | none => .non
  | some i => .int i
def okN : Option Int → NestedKey
  | none => .none
  | some i => .num i
def keyN (p : Pt) : NestedKey := .tup (p.map okN)
theorem okN_inj {x y : Option Int} (h : okN x = okN y) : x = y := by
  cases x with
  | none => cases y with
    | none => rfl
    | some j => cases h
  | some i => cases y with
    | none => cases h
    | some j => injection h with h; rw [h]
theorem okN_map : ∀ {p q : Pt}, p.map okN = q.map okN → p = q
  | [], [], _ => rfl
  | [], _ :: _, h => by cases h
  | _ :: _, [], h => by cases h
  | x :: p, y :: q, h => by
    rw [List.map_cons, List.map_cons] at h
    injection h with h1 h2
    rw [okN_inj h1, okN_map h2]
theorem keyN_inj {p q : Pt} (h : keyN p = keyN q) : p = q := by
  unfold keyN at h
  injection h with h
  exact okN_map h
theorem okN_depth : ∀ p : Pt, NestedKey.depthAll (p.map okN) = 0
  | [] => rfl
  | none :: p => by
    show max 0 (NestedKey.depthAll (p.map okN)) = 0
    rw [okN_depth p]; rfl
  | some i :: p => by
    show max 0 (NestedKey.depthAll (p.map okN)) = 0
    rw [okN_depth p]; rfl
theorem keyN_depth (p : Pt) : (keyN p).depth ≤ 8 := by
  show NestedKey.depthAll (p.map okN) + 1 ≤ 8
  rw [okN_depth]
  decide
theorem keys_all {h : Heap} : ∀ {p : Pt} {us : List Value}, Vals (p.map okV) us → NestedAll h (p.map okN) us
  | [], _, .nil => .nil
  | none :: p, _, .cons r t => by
    cases r
    exact .cons .none (keys_all t)
  | some i :: p, _, .cons r t => by
    obtain ⟨tk, rfl⟩ := r
    exact .cons (.int i tk) (keys_all t)

/-- the memo's entries: a key, where its tuple stands, its value -/
abbrev Ent := Pt × Addr × Int
abbrev EntR (p : Ent) (q : NestedKey × Addr × Value) : Prop := q.1 = keyN p.1 ∧ q.2.1 = p.2.1 ∧ ∃ t, q.2.2 = .int p.2.2 t
def MemoAt (P : Program) (w : World) (d : Addr) (kvs : List Ent) (h : Heap) : Prop :=
  (d == sysModules) = false ∧ ∃ xs : List (NestedKey × Addr × Value), Paired EntR kvs xs ∧
    ∃ o es ep, h.get? d = some o ∧ o.ExactDict ∧ o.data = .dict es ep ∧ es.toList = xs.map (entryOfKey (nestedKind P w)) ∧ (xs.map (·.1)).Nodup
/-- the memo as a tracked object -/
def Memo (P : Program) (w : World) (d : Addr) (kvs : List Ent) : HO := .ext (MemoAt P w d kvs)
/-- all keys' tuples stand -/
def KeysAt (H : Hp) (kvs : List Ent) : Prop := ∀ e ∈ kvs, FzT H e.2.1 (e.1.map okV)
def lookE (kvs : List Ent) (p : Pt) : Option Int := (kvs.find? fun e => decide (e.1 = p)).map fun e => e.2.2
theorem look_pair {p : Pt} : ∀ {kvs : List Ent} {xs : List (NestedKey × Addr × Value)}, Paired EntR kvs xs →
    (lookE kvs p = none ∧ atKey xs (keyN p) = none) ∨ ∃ a v t, lookE kvs p = some v ∧ atKey xs (keyN p) = some (a, .int v t)
  | [], _, .nil => .inl ⟨rfl, rfl⟩
  | e :: kvs, x :: xs, .cons h t => by
    obtain ⟨h1, h2, tk, h3⟩ := h
    by_cases q : e.1 = p
    · refine .inr ⟨x.2.1, e.2.2, tk, ?_, ?_⟩
      · unfold lookE
        rw [List.find?_cons_of_pos (by simpa using q)]
        rfl
      · unfold atKey
        rw [List.find?_cons_of_pos (by rw [h1, q]; exact decide_eq_true rfl)]
        rw [← h3]
        rfl
    · have q1 : ¬ (decide (e.1 = p) = true) := by simpa using q
      have q2 : ¬ (decide (x.1 = keyN p) = true) := by
        rw [h1]
        intro z
        exact q (keyN_inj (of_decide_eq_true z))
      rcases look_pair (p := p) t with ⟨a, b⟩ | ⟨a, v, t', c, b⟩
      · refine .inl ⟨?_, ?_⟩
        · unfold lookE at a ⊢
          rw [List.find?_cons_of_neg (by exact q1)]
          exact a
        · unfold atKey at b ⊢
          rw [List.find?_cons_of_neg (by exact q2)]
          exact b
      · refine .inr ⟨a, v, t', ?_, ?_⟩
        · unfold lookE at c ⊢
          rw [List.find?_cons_of_neg (by exact q1)]
          exact c
        · unfold atKey at b ⊢
          rw [List.find?_cons_of_neg (by exact q2)]
          exact b
theorem look_mem {kvs : List Ent} {p : Pt} {v : Int} (h : lookE kvs p = some v) : ∃ e ∈ kvs, e.1 = p ∧ e.2.2 = v := by
  unfold lookE at h
  obtain ⟨e, h1, h2⟩ := Option.map_eq_some_iff.mp h
  exact ⟨e, List.mem_of_find?_eq_some h1, by simpa using List.find?_some h1, h2⟩

section
variable {P : Program} {w : World} {H : Hp} {h h' : Heap} {d b : Addr} {kvs : List Ent} {p : Pt}
theorem memo_new (R : MemoAt P w d kvs h) : ObjOk P w H h d (Memo P w d kvs) := by
  refine ⟨R, ?_, fun h1 h2 r k => ?_⟩
  · obtain ⟨_, xs, _, o, es, ep, ho, _⟩ := R
    exact ⟨o, ho⟩
  · obtain ⟨z, xs, q, o, es, ep, ho, r⟩ := r
    exact ⟨z, xs, q, o, es, ep, k o ho, r⟩
theorem key_is (ok : HOk P w H h) (e : FzT H b (p.map okV)) : (nestedKind P w).is h (keyN p) b := by
  obtain ⟨_, o, its, n, r, h1, h2, _, h3⟩ := e.obj ok
  refine ⟨.tup h1 h2 h3 ?_, keyN_depth p⟩
  simpa using keys_all r
theorem keys_are (ok : HOk P w H h) : ∀ {kvs : List Ent} {xs : List (NestedKey × Addr × Value)}, Paired EntR kvs xs → KeysAt H kvs → ∀ x ∈ xs, (nestedKind P w).is h x.1 x.2.1
  | [], _, .nil, _ => fun x hx => nomatch hx
  | e :: kvs, y :: xs, .cons hq t, k => fun x hx => by
    rcases List.mem_cons.mp hx with z | hx
    · subst z
      obtain ⟨h1, h2, _⟩ := hq
      rw [h1, h2]
      exact key_is ok (k e List.mem_cons_self)
    · exact keys_are ok t (fun e' he => k e' (List.mem_cons_of_mem _ he)) x hx
theorem memo_of (ok : HOk P w H h) (e : H d = some (Memo P w d kvs)) (k : KeysAt H kvs) : (d == sysModules) = false ∧ ∃ xs, Paired EntR kvs xs ∧ h.DictOfH (nestedKind P w) d xs := by
  obtain ⟨R, _, _⟩ := (show ObjOk P w H h d (Memo P w d kvs) from ok d _ e)
  obtain ⟨z, xs, q, o, es, ep, ho, h1, h2, h3, h4⟩ := R
  exact ⟨z, xs, q, o, es, ep, ho, h1, h2, h3, keys_are ok q k, h4⟩
theorem memo_empty (h : Heap) (hs : sysModules < h.objs.size) : MemoAt P w h.objs.size [] (h.push { cls := .type "dict", data := .dict #[] }) :=
  ⟨by simpa using (Nat.ne_of_gt hs), [], .nil, _, #[], 0, Heap.get?_push_size _ rfl, ⟨rfl, rfl, rfl⟩, rfl, rfl, List.nodup_nil⟩
end
section
variable {X : Cx} {pos : Pos}
/-- {} that is to be such a memo -/
def tMemoNew (P : Program) (w : World) : TE := fun _ H Q => ∀ p, H p = none → Q (.ref p) (upd H p (Memo P w p []))
theorem pe_memoNew : PE X (.Dict [] [] pos) (tMemoNew X.prog X.w) := ⟨fun pins s σ H Q I h =>
  wpAny_Dict_empty ⟨.ref s.heap.objs.size, _, I.laid (a := s.heap.objs.size) (o := Memo X.prog X.w s.heap.objs.size []) (t' := s.toks) (fun _ _ q => Heap.get?_push_of_some _ q) (Nat.le_refl _) (memo_new (memo_empty s.heap I.big)), rfl, h _ (I.hok.fresh (Nat.le_refl _))⟩⟩
/-- p not in the memo -/
def rMemoNotIn (P : Program) (w : World) : R2 := fun x y H Q => ∃ b d p kvs, x = .ref b ∧ y = .ref d ∧ H d = some (Memo P w d kvs) ∧ KeysAt H kvs ∧ FzT H b (p.map okV) ∧ Q (.bl (!(lookE kvs p).isSome)) H
theorem op_memoNotIn (hu : X.A.units + 64 < cLine) : OpR X (compareOp .NotIn) (rMemoNotIn X.prog X.w) := by
  intro pins s σ H x y v u Q I rx ry h
  obtain ⟨b, d, p, kvs, rfl, rfl, hd, hk, hb, q⟩ := h
  cases rx
  cases ry
  obtain ⟨z, xs, r, dd⟩ := memo_of I.hok hd hk
  have room : (nestedKind X.prog X.w).room X.A.in1 := by
    show X.A.units + 1 + 8 < cLine
    omega
  refine wpAny_notIn_heap room (key_is I.hok hb) z dd ⟨.bl (!(lookE kvs p).isSome), H, I.tok _, ?_, q⟩
  rcases look_pair (p := p) r with ⟨a, b⟩ | ⟨a, v, t, c, b⟩
  · rw [a, b]; rfl
  · rw [c, b]; rfl
/-- the memo's value at p -/
def rMemoAt (P : Program) (w : World) : R2 := fun x y H Q => ∃ b d p kvs v, x = .ref d ∧ y = .ref b ∧ H d = some (Memo P w d kvs) ∧ KeysAt H kvs ∧ FzT H b (p.map okV) ∧ lookE kvs p = some v ∧ Q (.int v) H
variable {o i : Expr} {td ty : TE}
theorem pe_memoAt (hu : X.A.units + 64 < cLine) (ho : PE X o td) (hi : PE X i ty) (hs : NoSl i) : PE X (.Subscript o i pos) (tOp (rMemoAt X.prog X.w) td ty) := by
  refine ⟨fun pins s σ H Q I h => ?_⟩
  refine subD_of PySem.F.slot_dict_getitem.lookup hs (thn (ho.run pins s σ H _ I h) fun u s1 ⟨x, H1, I1, rx, q1⟩ => thn (hi.run pins s1 σ H1 _ I1 q1) fun iv s2 ⟨y, H2, I2, ry, b, d, p, kvs, j, ex, ey, hd, hk, hb, e, q2⟩ => ?_)
  subst ex ey
  cases rx
  cases ry
  obtain ⟨z, xs, r, dd⟩ := memo_of I2.hok hd hk
  have room : (nestedKind X.prog X.w).room X.A.in1 := by
    show X.A.units + 1 + 8 < cLine
    omega
  refine ⟨dd.typeIs, ?_⟩
  rcases look_pair (p := p) r with ⟨a, _⟩ | ⟨a, j', t, c, b2⟩
  · rw [a] at e; cases e
  · rw [c] at e
    cases e
    exact wpAny_getItem_heap room (key_is I2.hok hb) dd b2 ⟨.int j, H2, I2.tok _, ⟨t, rfl⟩, q2⟩
/-- the memo at p stored, p not in it -/
def sMemo (P : Program) (w : World) : TSet := fun o i v H Q => ∃ d b p kvs z, o = .ref d ∧ i = .ref b ∧ v = .int z ∧ H d = some (Memo P w d kvs) ∧ KeysAt H kvs ∧ FzT H b (p.map okV) ∧ lookE kvs p = none ∧ kvs.length < 30000 ∧
  Q (upd H d (Memo P w d (kvs ++ [(p, b, z)])))
theorem Paired.app {α β : Type} {F : α → β → Prop} : ∀ {l₁ m₁ : List α} {l₂ m₂ : List β}, Paired F l₁ l₂ → Paired F m₁ m₂ → Paired F (l₁ ++ m₁) (l₂ ++ m₂)
  | _, _, _, _, .nil, s => s
  | _, _, _, _, .cons r t, s => .cons r (Paired.app t s)
theorem set_memo (hu : X.A.units + 64 < cLine) : PSet X (sMemo X.prog X.w) := by
  intro pins s σ H o i v ov iv u Q I ro ri rv h
  obtain ⟨d, b, p, kvs, z, rfl, rfl, rfl, hd, hk, hb, e, hl, q⟩ := h
  cases ro
  cases ri
  obtain ⟨t, rfl⟩ := rv
  obtain ⟨zz, xs, r, dd⟩ := memo_of I.hok hd hk
  have room : (nestedKind X.prog X.w).room X.A.in1 := by
    show X.A.units + 1 + 8 < cLine
    omega
  have hxl : xs.length ≤ sizeLine := by
    rw [← Paired.length r, sizeLine_eq]
    omega
  have hn : atKey xs (keyN p) = none := by
    rcases look_pair (p := p) r with ⟨_, a⟩ | ⟨a, j, t, c, _⟩
    · exact a
    · rw [c] at e; cases e
  have hst : storedH xs (keyN p) b (.int z t) = xs ++ [(keyN p, b, .int z t)] := by
    unfold storedH
    rw [hn]
    rfl
  refine wpAny_setItem_heap (hsz := hxl) room (key_is I.hok hb) dd fun h' dd' hs => ?_
  rw [hst] at dd'
  obtain ⟨q0, es, ep, hq, h2, h3, h4, _, h5⟩ := dd'
  have new : MemoAt X.prog X.w d (kvs ++ [(p, b, z)]) h' := ⟨zz, _, Paired.app r (.cons ⟨rfl, rfl, t, rfl⟩ .nil), q0, es, ep, hq, h2, h3, h4, h5⟩
  exact ⟨_, d_write I (by rw [hd]; exact True.intro) hs ⟨q0, hq⟩ (memo_new new), q⟩
end
theorem memo_put {kvs : List Ent} {p q : Pt} {b : Addr} {z : Int} : lookE (kvs ++ [(p, b, z)]) q = (lookE kvs q).or (if p = q then some z else none) := by
  unfold lookE
  rw [List.find?_append]
  cases kvs.find? fun e => decide (e.1 = q) with
  | some e => rfl
  | none =>
    by_cases h : p = q
    · simp [h]
    · simp [h]
end FT
end
section
set_option Elab.async false
set_option linter.all false
set_option maxRecDepth 100000
set_option maxHeartbeats 4000000
/-! FtSet: set(x) of a list or a tuple of ints, as the set that sorted() takes. -/
namespace FT
open PySem PySem.Spec L2
open PyProof.Rows hiding St
/-- the object of a set that was just made -/
abbrev set0 (w : World) : Obj := { cls := .type "set", dict := none, data := .set #[] 0 (.fresh 0 0 (!w.params.followText "set-order")) }
/-- what set(x) leaves: the members are ns, what stood stands -/
def Filled (w : World) (s : Shared) (ns : List Int) (s2 : Shared) : Prop :=
  ∃ h' tk c, s2 = { s with heap := h', toks := tk } ∧ SetR w h' s.heap.objs.size (fun j => decide (j ∈ ns)) c ∧ c ≤ ns.length ∧ ∀ b o, s.heap.get? b = some o → h'.get? b = some o
section
variable {P : Program} {w : World} {A : Around} {E : Value → Shared → Prop} {s : Shared}
theorem set_intsL {l : Addr} {items : Array Value} (ns : List Int) {Q : Value → Shared → Prop} (hh : A.handled = none) (hl : s.heap.IsList l items) (hit : IntsAre items.toList ns) (hb : ns.length + 1 < scanBound)
    (hQ : ∀ s2, Filled w s ns s2 → Q (.ref s.heap.objs.size) s2) : wpAny (model P w) A (call (.type "set") [.ref l]) Q E s := by
  have len : items.size = ns.length := by
    have q := IntsAre.length hit
    rwa [Array.length_toList] at q
  obtain ⟨c, tl, hmro⟩ := F.called_set.mro
  have hmade := F.called_set.made
  have hsub := F.called_set.sub
  refine wpAny_call (codeAny_of_tree (wpAny_pure ⟨Code.quiet_builtin _ (by decide +kernel), codeAny_builtin F.entry_type_call ?_⟩))
  rw [Around.under_plain (weight_type_call_type "set" [.ref l] []) rfl]
  have n1 := F.called_set.notType
  have n2 := F.called_set.canCreate
  have n3 := F.typeCall_set_1 (.ref l)
  repeat (any_goals (first | assumption | wp_step))
  refine codeAny_mono (code_set_led1 (.ref l) (E := E) (Q₁ := fun obj s₁ => obj = .ref s.heap.objs.size ∧ s₁ = { s with heap := s.heap.push (set0 w) }) ⟨rfl, rfl⟩) fun r s₁ hr => ?_
  cases r with
  | error e => exact hr
  | ok fl =>
    cases fl with
    | ret obj =>
      obtain ⟨rfl, rfl⟩ := hr
      have atS : (s.heap.push (set0 w)).get? s.heap.objs.size = some (set0 w) := Heap.get?_push_size _ rfl
      have tyS : Shared.TypeIs { s with heap := s.heap.push (set0 w) } (.ref s.heap.objs.size) "set" := ⟨_, atS, rfl⟩
      have m1 := F.called_set.init.lookup
      have m2 := F.called_set.init.bind (.ref s.heap.objs.size)
      repeat (any_goals (first | assumption | wp_step))
      refine codeAny_mono (codeAny_call_builtin (R := wants (fun r s₂ => r = .none ∧ Filled w s ns s₂) E) F.called_set.init.plain F.entry_set_init (check_set_init_1 tyS ?_)) fun r₂ s₂ hr₂ => ?_
      · obtain ⟨⟨oc, od, odt, os⟩, hol, hcl, nl, hdl⟩ := hl
        simp only at hcl hdl
        subst hcl hdl
        have hol' := Heap.get?_push_of_some (h := s.heap) (set0 w) hol
        have k1 := F.sub_list_set
        have k2 := F.sub_list_frozenset
        have k3 : (Value.type "list" == Value.type "dict") = false := by decide
        have hl1 : (s.heap.push (set0 w)).IsList l items := ⟨_, hol', rfl, nl, rfl⟩
        unfold Builtin.«set.__init__» noKeywords Builtin.Frozenset.updateFrom
        generalize hPI : pyIter = PI
        wp_walk
        subst hPI
        refine wpAny_pyIter_list hl1 ?_
        refine wpAny_bind (wpAny_runValue ?_)
        have hlS : l < s.heap.objs.size := Heap.lt_size hol
        have sz1 : (s.heap.push (set0 w)).objs.size = s.heap.objs.size + 1 := Heap.size_push ..
        have h3 : A.in1.in1.in1.handled = none := by simp [hh]
        have ne1 : l ≠ (s.heap.push (set0 w)).objs.size := by rw [sz1]; exact Nat.ne_of_lt (Nat.lt_succ_of_lt hlS)
        have ne2 : s.heap.objs.size ∉ [(s.heap.push (set0 w)).objs.size, l] := by
          simp only [List.mem_cons, List.not_mem_nil, or_false, not_or]
          exact ⟨by rw [sz1]; exact Nat.ne_of_lt (Nat.lt_succ_self _), Nat.ne_of_gt hlS⟩
        have vals : ∀ (i : Nat) (v : Value), items[i]? = some v → ∃ k t, ns[i]? = some k ∧ v = .int k t := fun i v hv => by
          have hi : i < ns.length := by
            rw [← len]
            exact (Array.getElem?_eq_some_iff.mp hv).1
          obtain ⟨t, e⟩ := PyProof.Rows.IntsAre.int_at hit i v (by rw [Array.getElem?_toList]; exact hv)
          refine ⟨ns[i], t, List.getElem?_eq_getElem hi, ?_⟩
          rw [e, List.getD_eq_getElem?_getD, List.getElem?_eq_getElem hi]
          rfl
        refine set_update_ints ((Walks.list h3 _ l ne1 items).toS) s.heap.objs.size ne2 ns len hb vals (items.size - 0) 0 _ (by omega) (Nat.zero_le _) ⟨⟨_, Heap.get?_push_size _ rfl, rfl, rfl⟩, hl1.push _⟩
          ⟨0, Nat.le_refl 0, setR_new_at (Heap.get?_push_of_some _ atS)⟩ fun s' c' hm hc' hS' => ?_
        obtain ⟨h', g2, d', tk', os'⟩ := s'
        have eg : g2 = s.gens := hm.gens
        have ed : d' = s.drawn := hm.drawn
        have eo : os' = s.os := hm.os
        subst eg ed eo
        show wpAny _ _ _ _ _ _
        refine wpAny_pure ?_
        show wpAny _ _ (ret Value.none) _ _ _
        refine wpAny_pure ⟨rfl, h', tk', c', rfl, hS', by omega, fun b o e => ?_⟩
        have hb0 : b < s.heap.objs.size := Heap.lt_size e
        refine hm.heap b o ?_ (Heap.get?_push_of_some _ (Heap.get?_push_of_some _ e))
        simp only [List.mem_cons, List.not_mem_nil, or_false, not_or]
        exact ⟨Nat.ne_of_lt hb0, by rw [sz1]; exact Nat.ne_of_lt (Nat.lt_succ_of_lt hb0)⟩
      · cases r₂ with
        | error e => exact hr₂
        | ok fl₂ =>
          cases fl₂ with
          | ret r =>
            obtain ⟨rfl, fd⟩ := hr₂
            obtain ⟨h', tk, c', rfl, q1, q2, q3⟩ := fd
            repeat (any_goals (first | assumption | wp_step))
            exact hQ _ ⟨h', tk, c', rfl, q1, q2, q3⟩
          | _ => exact hr₂.elim
    | _ => exact hr.elim
end
section
variable {X : Cx}
/-- set(x), x a list or a tuple of ints -/
def rSetI (K : PySem.W.Frag) (w : World) : List V → Hp → VK → Prop := fun xs H Q => ∃ (p : Addr) (ns : List Int), xs = [.ref p] ∧ (SqL K H p (ns.map V.int) ∨ SqT K H p (ns.map V.int)) ∧ ns.length < 4000 ∧
  ∀ a c, H a = none → c ≤ ns.length → Q (.ref a) (upd H a (SetO w a (fun j => decide (j ∈ ns)) c))
theorem call_setI (hc : X.calm = true) : CallR X (.type "set") (rSetI X.K X.w) := by
  intro pins s σ H xs us Q I r h
  obtain ⟨p, ns, rfl, hs, hn, q⟩ := h
  rw [Vals.ref1 r]
  have room : ns.length + 1 < scanBound := by
    unfold scanBound
    omega
  have fin : ∀ (h' : Heap) (tk c : Nat), SetR X.w h' s.heap.objs.size (fun j => decide (j ∈ ns)) c → c ≤ ns.length → (∀ b o, s.heap.get? b = some o → h'.get? b = some o) → EP X pins σ Q (.ref s.heap.objs.size) { s with heap := h', toks := tk } :=
    fun h' tk c q1 q2 q3 => ⟨.ref s.heap.objs.size, _, I.laid (t' := tk) (fun b o e => q3 b o e) (Nat.le_refl _) (setO_new q1), rfl, q _ c (I.hok.fresh (Nat.le_refl _)) q2⟩
  rcases hs with hs | hs
  · obtain ⟨its, rv, hl, _⟩ := I.list hs
    exact set_intsL ns (I.ok.hd hc) hl.isList (by simpa using ints_of_vals rv) room fun s2 fd => by
      obtain ⟨h', tk, c, rfl, q1, q2, q3⟩ := fd
      exact fin h' tk c q1 q2 q3
  · obtain ⟨its, rv, hl, _⟩ := I.tuple hs
    exact call_set_tupI ns (I.ok.hd hc) hl (by simpa using ints_of_vals rv) room fin
end
end FT
end
section
set_option Elab.async false
set_option linter.all false
set_option maxRecDepth 100000
set_option maxHeartbeats 4000000
/-! FtSort: sorted(xs), xs a list of tuples of ints of any lengths, no two unlike ones with the same first item. -/
namespace FT
open PySem PySem.Spec L2
open PyProof.Rows hiding St
open TS (TupInts intsOf)
/-- tuples that are not empty; the first item tells which it is -/
def Headed (h : Heap) (vs : List Value) : Prop :=
  (∀ v ∈ vs, ∃ n ns, TupInts h v (n :: ns)) ∧ ∀ u ∈ vs, ∀ v ∈ vs, ∀ n ns ms, TupInts h u (n :: ns) → TupInts h v (n :: ms) → ns = ms
def rankOf (h : Heap) (v : Value) : Int := (intsOf h v).headD 0
theorem rank_is {h : Heap} {v : Value} {n : Int} {ns : List Int} (t : TupInts h v (n :: ns)) : rankOf h v = n := by
  unfold rankOf
  rw [t.ints]
  rfl
theorem ints_one {h : Heap} {v : Value} {ns ms : List Int} (a : TupInts h v ns) (b : TupInts h v ms) : ns = ms := a.ints.symm.trans b.ints
theorem Headed.keeps {h h' : Heap} {vs : List Value} (x : Headed h vs) (k : ∀ b o, h.get? b = some o → o.cls = .type "tuple" → h'.get? b = some o) : Headed h' vs := by
  refine ⟨fun v hv => ?_, fun u hu v hv n ns ms a b => ?_⟩
  · obtain ⟨n, ns, t⟩ := x.1 v hv
    exact ⟨n, ns, t.keeps k⟩
  · obtain ⟨n1, ns1, t1⟩ := x.1 u hu
    obtain ⟨n2, ns2, t2⟩ := x.1 v hv
    have e1 := ints_one a (t1.keeps k)
    have e2 := ints_one b (t2.keeps k)
    injection e1 with e1 e1'
    injection e2 with e2 e2'
    subst e1 e1' e2'
    rw [← e2] at t2
    exact x.2 u hu v hv _ _ _ t1 t2
section
variable {prog : Program} {w : World} {A : Around} {E : Value → Shared → Prop} {s : Shared} {Q : Bool → Shared → Prop}
theorem lex_alike {b : Bool} {xs ys : List Value} {ns : List Int} (hx : IntsAre xs ns) (hy : IntsAre ys ns) (i : Nat) (h : Q false s) : PySem.W.KatLex prog w A b false Q (xs.zip ys) i s := by
  induction hx generalizing ys i with
  | nil =>
    cases hy
    exact PySem.W.kat_nil h
  | @cons p t xs ns hx ih =>
    cases hy with
    | @cons _ u ys _ hy =>
      refine PySem.W.kat_cons (wpAny_eqBool_int ?_)
      rw [beq_self_eq_true]
      exact PySem.W.kat_yes (ih hy (i + 1))
theorem lex_heads {b fin : Bool} {xs ys : List Value} {p q : Int} {ns ms : List Int} (hx : IntsAre xs (p :: ns)) (hy : IntsAre ys (q :: ms)) (same : p = q → ns = ms ∧ fin = false) (h : Q (decide (p < q)) s) :
    PySem.W.KatLex prog w A b fin Q (xs.zip ys) 0 s := by
  cases hx with
  | @cons _ t xs _ hx =>
    cases hy with
    | @cons _ u ys _ hy =>
      refine PySem.W.kat_cons (wpAny_eqBool_int ?_)
      by_cases e : p = q
      · obtain ⟨e1, e2⟩ := same e
        subst e e1 e2
        rw [beq_self_eq_true]
        rw [decide_eq_false (Int.lt_irrefl p)] at h
        exact PySem.W.kat_yes (lex_alike hx hy 1 h)
      · rw [show (p == q) = false from beq_eq_false_iff_ne.mpr e]
        exact PySem.W.kat_no (TS.oneLt_ints _ h)
theorem firsts_at {h : Heap} : ∀ vs : List Value, (∀ v ∈ vs, ∃ n ns, TupInts h v (n :: ns)) → ∃ fs, PySem.W.KatTups h vs fs ∧ fs.length = vs.length ∧ ∀ f ∈ fs, ∃ n t, f = Value.int n t
  | [], _ => ⟨[], PySem.W.KatTups.nil, rfl, fun f hf => nomatch hf⟩
  | v :: vs, x => by
    obtain ⟨fs, k, hl, hi⟩ := firsts_at vs fun u hu => x u (List.mem_cons_of_mem _ hu)
    obtain ⟨n, ns, a, xs, rfl, ⟨o, ho, hc, m, hdt⟩, i⟩ := x v List.mem_cons_self
    have hy : ∃ t, xs[0]? = some (.int n t) := by
      have e : xs.toList[0]? = xs[0]? := Array.getElem?_toList
      cases q : xs.toList with
      | nil => rw [q] at i; cases i
      | cons y ys =>
        rw [q] at i e
        cases i with
        | cons _ t _ => exact ⟨t, e.symm⟩
    obtain ⟨t, hy⟩ := hy
    refine ⟨.int n t :: fs, PySem.W.KatTups.cons ho hc hdt hy k, by simp [hl], fun f hf => ?_⟩
    rcases List.mem_cons.mp hf with rfl | hf
    · exact ⟨n, t, rfl⟩
    · exact hi f hf
theorem kind_heads {vs : List Value} (h2 : 2 ≤ vs.length) (x : Headed s.heap vs) (r : Value → Int) (hr : ∀ v ∈ vs, ∀ n ns, TupInts s.heap v (n :: ns) → r v = n) (Q : SortKind → Shared → Prop)
    (h : ∀ κ, TS.Cmp prog w A s κ (pairsOf vs) r → Q κ s) : wpAny (model prog w) A (keyKind' vs.toArray) Q E s := by
  obtain ⟨fs, k, hl, hi⟩ := firsts_at vs x.1
  refine PySem.W.kat_kind (T := Value.type "int") k (by omega) (fun f hf => ?_) rfl (h _ ?_)
  · obtain ⟨n, t, rfl⟩ := hi f hf
    exact PySem.W.Looks.of_pure rfl
  · intro p q hp hq Q' E' hQ
    rw [pairsOf_toList] at hp hq
    have mp := (mem_zip_self hp).2
    have mq := (mem_zip_self hq).2
    obtain ⟨n, ns, tp⟩ := x.1 _ mp
    obtain ⟨m, ms, tq⟩ := x.1 _ mq
    rw [hr _ mp _ _ tp, hr _ mq _ _ tq] at hQ
    have same : n = m → ns = ms := fun e => by
      subst e
      exact x.2 _ mp _ mq _ _ _ tp tq
    obtain ⟨a, xs, e1, ⟨o, ho, hc, k1, hdt⟩, i⟩ := tp
    obtain ⟨a', ys, e2, ⟨o', ho', hc', k2, hdt'⟩, i'⟩ := tq
    rw [e1, e2]
    refine PySem.W.kat_lt ho hdt ho' hdt' (lex_heads i i' (fun e => ⟨same e, ?_⟩) hQ)
    have l1 := i.length
    have l2 := i'.length
    rw [Array.length_toList] at l1 l2
    rw [same e] at l1
    simp only [List.length_cons] at l1 l2
    exact decide_eq_false (by omega)
theorem sort_heads {a : Addr} {vs : List Value} {n : Nat} {Pf : PySem.Fin → Shared → Prop} (ho : s.heap.get? a = some (seqObj "list" vs.toArray n)) (h64 : vs.length < 64) (x : Headed s.heap vs)
    (h : ∀ out : Array Value, out.toList.Perm vs → out.toList.Pairwise (fun u v => rankOf s.heap u ≤ rankOf s.heap v) → Pf (.done (.ret .none)) { s with heap := sortedHeap s.heap a vs out }) :
    wpAny (model prog w) A (Builtin.«list.sort» ⟨[.ref a], []⟩) Pf E s := by
  have keep : ∀ b o, s.heap.get? b = some o → o.cls = .type "tuple" → (TS.midHeap s.heap a vs).get? b = some o := fun b o e hc => by
    refine TS.midHeap_old (fun z => ?_) e
    subst z
    rw [ho] at e
    cases e
    exact absurd (Value.type.inj hc) (by decide)
  refine SK.plain_sort (r := rankOf s.heap) ho h64 (fun h2 Q hQ => ?_) fun ps out a1 a2 a3 => ?_
  · refine kind_heads (s := { s with heap := TS.midHeap s.heap a vs }) h2 (x.keeps keep) _ (fun v hv n ns t => ?_) Q hQ
    obtain ⟨n0, ns0, t0⟩ := x.1 v hv
    have e := ints_one t (t0.keeps keep)
    injection e with e _
    rw [rank_is t0, e]
  · obtain ⟨b1, b2⟩ := TS.out_rank a1 a2 a3
    exact h out b1 b2
theorem sorted_heads {l : Addr} {vs : List Value} {Qv : Value → Shared → Prop} (hl : s.heap.IsList l vs.toArray) (h64 : vs.length < 64) (x : Headed s.heap vs)
    (h : ∀ out : Array Value, out.toList.Perm vs → out.toList.Pairwise (fun u v => rankOf s.heap u ≤ rankOf s.heap v) → Qv (.ref (s.heap.objs.size + 1)) { s with heap := sortedAll s.heap vs out }) :
    wpAny (model prog w) A (call (.builtin "sorted") [.ref l]) Qv E s := by
  refine Calls.call_function_entry kind_sorted plain_sorted entry_sorted (args_sorted1 _) ?_
  unfold Builtin.«sorted»
  have hz : vs.length ≤ sizeLine := by rw [sizeLine_eq]; omega
  refine wpAny_bind (m := checkCount "sorted" 1 1 _) (wpAny_pure ?_)
  refine wpAny_bind (collect_list hl ?_ hz)
  refine wpAny_bind (wpAny_newList ?_ hz)
  generalize hg : (s.heap.push (seqObj "list" #[] 0)).update s.heap.objs.size (Obj.mapSeq (· ++ vs.toArray)) = g
  have gsz : g.objs.size = s.heap.objs.size + 1 := by rw [← hg, Heap.size_update, size_push']
  have gold : ∀ b o, s.heap.get? b = some o → b < s.heap.objs.size ∧ g.get? b = some o := fun b o q => by
    have hlt : b < s.heap.objs.size := Heap.lt_size q
    refine ⟨hlt, ?_⟩
    rw [← hg, Heap.get?_update_ne _ _ _ _ (Nat.ne_of_lt hlt), Heap.get?_push_ne _ _ _ (Nat.ne_of_lt hlt)]
    exact q
  have hoL : (g.push (seqObj "list" vs.toArray 0)).get? (s.heap.objs.size + 1) = some (seqObj "list" vs.toArray 0) := by
    rw [← gsz]
    exact Heap.get?_push_size _ rfl
  have keep : ∀ b o, s.heap.get? b = some o → o.cls = .type "tuple" → (g.push (seqObj "list" vs.toArray 0)).get? b = some o := fun b o q _ => by
    obtain ⟨hlt, e⟩ := gold b o q
    rw [Heap.get?_push_ne _ _ _ (by rw [gsz]; exact Nat.ne_of_lt (Nat.lt_succ_of_lt hlt))]
    exact e
  have rk : ∀ v ∈ vs, rankOf (g.push (seqObj "list" vs.toArray 0)) v = rankOf s.heap v := fun v hv => by
    obtain ⟨n, ns, t⟩ := x.1 v hv
    rw [rank_is t, rank_is (t.keeps keep)]
  subst hg
  show wpAny _ _ _ _ _ { s with heap := ((s.heap.push (seqObj "list" #[] 0)).update s.heap.objs.size (Obj.mapSeq (· ++ vs.toArray))).push (seqObj "list" vs.toArray 0) }
  rw [gsz]
  refine wpAny_bind (wpAny_holding (wpAny_call_entry slot_list_sort ⟨_, hoL, rfl⟩ entry_list_sort (sort_heads hoL h64 (x.keeps keep) fun out a1 a2 => ⟨_, rfl, ?_⟩) (args_list_sort _)))
  refine wpAny_pure ⟨_, rfl, h out a1 (List.Pairwise.imp_of_mem (fun {u v} hu hv e => ?_) a2)⟩
  rw [← rk u (a1.mem_iff.mp hu), ← rk v (a1.mem_iff.mp hv)]
  exact e
end
section
variable {X : Cx}
/-- sorted(xs): xs the addresses of tuples of ints -/
def rSortH (K : PySem.W.Frag) : List V → Hp → VK → Prop := fun vs H Q => ∃ (a : Addr) (xs : List (Addr × List Int)), vs = [V.ref a] ∧ SqL K H a (xs.map fun x => V.ref x.1) ∧ xs.length < 64 ∧ (∀ x ∈ xs, x.2 ≠ [] ∧ SqT K H x.1 (x.2.map V.int)) ∧
  (∀ x ∈ xs, ∀ y ∈ xs, x.2.headD 0 = y.2.headD 0 → x.2 = y.2) ∧
  ∀ (ys : List (Addr × List Int)) (p : Addr), ys.Perm xs → ys.Pairwise (fun x y => x.2.headD 0 ≤ y.2.headD 0) → H p = none → Q (.ref p) (upd H p (.lst (ys.map fun x => V.ref x.1)))
theorem perm_of_map {α β : Type} {f : α → β} {l k : List β} (h : l.Perm k) : ∀ m : List α, k = m.map f → ∃ m' : List α, m'.Perm m ∧ m'.map f = l := by
  induction h with
  | nil =>
    intro m e
    exact ⟨m, List.Perm.refl _, e.symm⟩
  | cons x _ ih =>
    intro m e
    cases m with
    | nil => cases e
    | cons a m =>
      rw [List.map_cons] at e
      injection e with e1 e2
      obtain ⟨m', p, q⟩ := ih m e2
      exact ⟨a :: m', p.cons a, by rw [List.map_cons, q, e1]⟩
  | swap x y l =>
    intro m e
    cases m with
    | nil => cases e
    | cons a m =>
      cases m with
      | nil => cases e
      | cons b m =>
        rw [List.map_cons, List.map_cons] at e
        injection e with e1 e2
        injection e2 with e2 e3
        exact ⟨b :: a :: m, List.Perm.swap _ _ _, by rw [List.map_cons, List.map_cons, e1, e2, e3]⟩
  | trans _ _ ih1 ih2 =>
    intro m e
    obtain ⟨m2, p2, q2⟩ := ih2 m e
    obtain ⟨m1, p1, q1⟩ := ih1 m2 q2.symm
    exact ⟨m1, p1.trans p2, q1⟩
theorem refs_vals : ∀ (ks : List (Addr × List Int)), Vals (ks.map fun p => V.ref p.1) (ks.map fun p => Value.ref p.1)
  | [] => .nil
  | p :: ks => .cons rfl (refs_vals ks)
theorem cr_sortH : CallR X (.builtin "sorted") (rSortH X.K) := by
  intro pins s σ H vs us Q I r h
  obtain ⟨a, xs, rfl, hs, h64, hx, hd, q⟩ := h
  obtain ⟨its, rv, hl, hz⟩ := I.list hs
  rw [Vals.ref1 r]
  have ei := refs_of_vals rv
  subst ei
  have tup : ∀ x ∈ xs, TupInts s.heap (.ref x.1) x.2 := fun x m => tupI_raw I (hx x m).2
  have hh : Headed s.heap (xs.map fun p => Value.ref p.1) := by
    refine ⟨fun v hv => ?_, fun u hu v hv n ns ms t1 t2 => ?_⟩
    · obtain ⟨x, m, rfl⟩ := List.mem_map.mp hv
      obtain ⟨n, ns, e⟩ := List.exists_cons_of_ne_nil (hx x m).1
      exact ⟨n, ns, by rw [← e]; exact tup x m⟩
    · obtain ⟨x, m, rfl⟩ := List.mem_map.mp hu
      obtain ⟨y, m', rfl⟩ := List.mem_map.mp hv
      have e1 := ints_one t1 (tup x m)
      have e2 := ints_one t2 (tup y m')
      have z := hd x m y m' (by rw [← e1, ← e2]; rfl)
      rw [← e1, ← e2] at z
      injection z
  refine sorted_heads hl.isList (by rw [List.length_map]; exact h64) hh fun out h1 h2 => ?_
  obtain ⟨ys, p1, p2⟩ := perm_of_map h1 xs rfl
  obtain ⟨ep, he'⟩ := PyProof.Rows.sortedAll_at s.heap (xs.map fun p => Value.ref p.1) out
  have eo : out = (ys.map fun p => Value.ref p.1).toArray := by
    rw [p2]
  have hlen : (ys.map fun x => V.ref x.1).length ≤ sizeLine := by
    rw [List.length_map, p1.length_eq, sizeLine_eq]
    omega
  refine ⟨.ref _, upd H (s.heap.objs.size + 1) (.lst (ys.map fun x => V.ref x.1)), I.laid (t' := s.toks) (fun _ _ => PyProof.Rows.sortedAll_old) (Nat.le_succ _) ⟨hlen, _, ep, refs_vals ys, by rw [← eo]; exact he'⟩, rfl, q ys _ p1 ?_ (I.hok.fresh (Nat.le_succ _))⟩
  rw [← p2, List.pairwise_map] at h2
  refine List.Pairwise.imp_of_mem (fun {x y} mx my e => ?_) h2
  have rk : ∀ z ∈ ys, rankOf s.heap (.ref z.1) = z.2.headD 0 := fun z mz => by
    unfold rankOf
    rw [(tup z (p1.mem_iff.mp mz)).ints]
  rw [← rk x mx, ← rk y my]
  exact e
end
end FT
end
section
set_option Elab.async false
set_option linter.all false
set_option maxRecDepth 100000
set_option maxHeartbeats 4000000
/-! FtEnum: for i, x in enumerate(a tuple). -/
namespace FT
open PySem PySem.Spec L2
open PyProof.Rows hiding St
theorem meets_enumT (l : Addr) (items : Array Value) :
    Meets (Builtin.«enumerate.__new__» ⟨[.type "enumerate", .ref l], []⟩) (fun _ R s => s.heap.IsTuple l items ∧
      R (.ok (.ret (.ref (s.heap.push { cls := .type "tuple_iterator", data := .fields #[.ref l, .int 0 0] }).objs.size)))
        { s with heap := (s.heap.push { cls := .type "tuple_iterator", data := .fields #[.ref l, .int 0 0] }).push { cls := .type "enumerate", data := .fields #[.none, .bool false, .ref s.heap.objs.size, rawInt 0, .none, .none] } }) :=
  .of_wp fun prog w A R s h => by
    obtain ⟨hp, g, d, tk, os⟩ := s
    obtain ⟨hT, h⟩ := h
    have hsub := sub_enumerate
    wp_walk using wpAny_pyIter_tuple hT
    refine wpAny_stack_any fun st => wpAny_pure ?_
    split
    · rename_i c _ _ _ _ _
      cases (c == Value.type "enumerate")
      · wp_walk using wpAny_pyIter_tuple hT
        exact ⟨_, rfl, h⟩
      · wp_walk using wpAny_pyIter_tuple hT
        exact ⟨_, rfl, h⟩
    · wp_walk using wpAny_pyIter_tuple hT
      exact ⟨_, rfl, h⟩
section
variable {prog : Program} {w : World} {A : Around} {E : Value → Shared → Prop} {s : Shared}
theorem enumT_begins {l : Addr} {items : Array Value} {Q : Value → Shared → Prop} (hT : s.heap.IsTuple l items)
    (h : ∀ h', IsEnum h' (s.heap.objs.size + 1) s.heap.objs.size 0 .none → h'.IsTupleIter s.heap.objs.size l 0 → (∀ b o, s.heap.get? b = some o → h'.get? b = some o) → Q (.ref (s.heap.objs.size + 1)) { s with heap := h' }) :
    wpAny (model prog w) A (call (.type "enumerate") [.ref l]) Q E s := by
  refine callType_new F.called_enumerate (by decide) (F.typeCall_enumerate_1 _) (F.newCall_enumerate_1 _) (fun obj => F.args_object_init_2 obj _) F.entry_enumerate_new (meets_enumT l items) ⟨hT, ?_⟩
  generalize hg : s.heap.push { cls := .type "tuple_iterator", data := .fields #[.ref l, .int 0 0] } = g
  have gsz : g.objs.size = s.heap.objs.size + 1 := by rw [← hg]; exact Heap.size_push ..
  have git : g.get? s.heap.objs.size = some { cls := .type "tuple_iterator", data := .fields #[.ref l, .int 0 0] } := by rw [← hg]; exact Heap.get?_push_size _ rfl
  have gold : ∀ b o, s.heap.get? b = some o → g.get? b = some o := fun b o e => by rw [← hg]; exact Heap.get?_push_of_some _ e
  have ge : IsEnum (g.push { cls := .type "enumerate", data := .fields #[.none, .bool false, .ref s.heap.objs.size, rawInt 0, .none, .none] }) (s.heap.objs.size + 1) s.heap.objs.size 0 .none := by
    have z := Heap.get?_push_size g (o := { cls := .type "enumerate", data := .fields #[.none, .bool false, .ref s.heap.objs.size, rawInt 0, .none, .none] }) rfl
    rwa [gsz] at z
  show _ ∧ _
  rw [gsz]
  exact ⟨⟨_, ge, rfl⟩, h _ ge ⟨_, Heap.get?_push_of_some _ git, rfl, rfl⟩ fun b o e => Heap.get?_push_of_some _ (gold b o e)⟩
end
/-- the tuple at a, each item in a new pair with its place -/
def IteT (K : PySem.W.Frag) (a : Addr) : It :=
  ⟨fun i H => ∃ (xs : List V) (x : V), SqT K H a xs ∧ xs[i]? = some x, fun i H v H' => ∃ T x, v = .ref T ∧ H T = none ∧ H' = upd H T (.tup [.int (i : Nat), x]) ∧ ∀ xs, SqT K H a xs → xs[i]? = some x, fun i H => ∃ xs : List V, SqT K H a xs ∧ xs.length = i⟩
theorem turn_enumT {P : Program} {w : World} {K : PySem.W.Frag} {elts : List Expr} {kk : Nat} {tpos : Pos} (a e it : Addr) :
    Turn P w K (.Tuple elts kk tpos) (IteT K a) [e, it] e (fun i h => (∃ old, IsEnum h e it ((i : Nat) : Int) old) ∧ h.IsTupleIter it a i ∧ e ≠ it) where
  mem := by simp
  obj := fun i h st b hb => by
    obtain ⟨⟨old, he⟩, ⟨o, ho, hc, hd⟩, _⟩ := st
    rcases List.mem_cons.mp hb with z | z
    · rw [z]; exact ⟨_, he, fun v q => nomatch q⟩
    · rw [List.mem_singleton.mp z]; exact ⟨o, ho, fun v q => by rw [hd] at q; cases q⟩
  keep := fun i h h' st k => let ⟨⟨old, he⟩, hi, hne⟩ := st; ⟨⟨old, k e (by simp) _ he⟩, hi.at fun o q => k it (by simp) o q, hne⟩
  item := by
    intro X hP hw hK hc i pins s σ H E I hf st hg
    subst hP hw hK
    obtain ⟨⟨old, he⟩, hit, hne⟩ := st
    obtain ⟨xs, x, hq, hx⟩ := hg
    obtain ⟨its, rv, p, hz⟩ := I.tuple hq
    obtain ⟨u, hu, ru⟩ := rv.get hx
    have hel : e < s.heap.objs.size := Heap.lt_size he
    have hil : it < s.heap.objs.size := by obtain ⟨_, q, _⟩ := hit; exact Heap.lt_size q
    have hai : a ≠ it := fun z => by
      obtain ⟨o, q, c, _⟩ := hit
      obtain ⟨o', q', c', _⟩ := p
      rw [z, q] at q'
      cases q'
      rw [c] at c'
      exact absurd (Value.type.inj c') (by decide)
    have hea : e ∉ [it, a] := fun z => by
      rcases List.mem_cons.mp z with z | z
      · exact hne z
      · obtain ⟨o', q', c', _⟩ := p
        rw [← List.mem_singleton.mp z, he] at q'
        cases q'
        exact absurd (Value.type.inj c') (by decide)
    have hlt : i < its.toArray.size := by
      rw [List.size_toArray]
      exact (List.getElem?_eq_some_iff.mp hu).1
    refine wpAny_pyNext_enum_itemD (Draws.tuple (A := X.A.in1) (I.ok.hd hc) it a hai its.toArray) he ⟨hit, p⟩ hlt hne hea fun x' h' tk hP ho hs' hT hsz hk => ?_
    have ex' : x' = u := by
      have z : its[i]? = some x' := by simpa using hP
      rw [hu] at z
      exact (Option.some.inj z).symm
    subst ex'
    refine ⟨_, rfl, wpAny_letOwnedTupleGo_enum (s := { s with heap := h', toks := tk + 1 }) ho fun h'' he' sb => ?_⟩
    have hT2 : h''.get? s.heap.objs.size = some { cls := .type "tuple", data := .seq #[.int i tk, x'] } := (sb.2 _ (Nat.ne_of_gt hel)).trans hT
    have new : ObjOk X.prog X.w (upd H s.heap.objs.size (.tup [.int (i : Nat), x])) h'' s.heap.objs.size (.tup [.int (i : Nat), x]) :=
      ⟨by show 2 ≤ sizeLine; decide, [.int i tk, x'], .cons ⟨_, rfl⟩ (.cons ru .nil), ⟨_, hT2, rfl, _, rfl⟩⟩
    have I1 : Inv X pins σ (upd H s.heap.objs.size (.tup [.int (i : Nat), x])) { s with heap := h'', toks := tk + 1 } :=
      I.turnedNew (ch := [e, it]) (fun b ob hb q => (sb.2 b (fun z => hb (by simp [z]))).trans (hk b ob (fun z => hb (by simp [z])) (fun z => hb (by simp [z])) q)) hf (Nat.le_refl _) new
    refine ⟨.ref s.heap.objs.size, _, I1, rfl, ⟨_, x, rfl, I.hok.fresh (Nat.le_refl _), rfl, fun ys hy => by rw [I.tuple_inj hy hq]; exact hx⟩, ⟨⟨x', ?_⟩, hs'.1.at fun o q => (sb.2 it (Ne.symm hne)).trans q, hne⟩, fun b hb => ?_⟩
    · have e1 : ((i + 1 : Nat) : Int) = (i : Int) + 1 := by omega
      rw [e1]; exact he'
    · have hb' : b < s.heap.objs.size := by
        rcases List.mem_cons.mp hb with z | z
        · rw [z]; exact hel
        · rw [List.mem_singleton.mp z]; exact hil
      rw [upd_ne (Nat.ne_of_lt hb')]
      exact (hf b hb).1
  done := by
    intro X hP hw hK hc i pins s σ H E I hf st hg
    subst hP hw hK
    obtain ⟨⟨old, he⟩, hit, hne⟩ := st
    obtain ⟨xs, hq, hx⟩ := hg
    obtain ⟨its, rv, p, hz⟩ := I.tuple hq
    have hai : a ≠ it := fun z => by
      obtain ⟨o, q, c, _⟩ := hit
      obtain ⟨o', q', c', _⟩ := p
      rw [z, q] at q'
      cases q'
      rw [c] at c'
      exact absurd (Value.type.inj c') (by decide)
    have hn : its.toArray.size = i := by rw [List.size_toArray, ← rv.length, hx]
    obtain ⟨f0, f1, f2, f3, f4, f5⟩ := hf it (by simp)
    exact wpAny_pyNext_enum_endD (Draws.tuple (A := X.A.in1) (I.ok.hd hc) it a hai its.toArray) he ⟨by rw [hn]; exact hit, p⟩ fun h' eb => ⟨rfl, I.turned (t' := s.toks) (fun b o hb q => eb b o hb q) f0 f1 f3 f4 f5⟩
  self := fun A i s Q E st h => let ⟨⟨_, he⟩, _⟩ := st; wpAny_pyIter_enum he h
def iEnumT (K : PySem.W.Frag) (ta : TA) : TI := fun σ H R => ta σ H fun vs H1 => ∃ a xs, vs = [.ref a] ∧ SqT K H1 a xs ∧ R (IteT K a) H1
theorem pi_enumT {X : Cx} {e : Expr} {ta : TA} {p pos tpos : Pos} {elts : List Expr} {kk : Nat} (hg : Gl X "enumerate") (hm : X.mg "enumerate" = none) (ha : PA X [e] ta) (hs : starEach [e] X.env = [(false, eval e X.env)] := by rfl) :
    PI X (.Tuple elts kk tpos) (.Call (.Name "enumerate" p) [e] [] pos) (iEnumT X.K ta) := by
  refine ⟨fun pins s σ H R I h => ?_⟩
  refine Call_ (ld_blt I hg hm boot_enumerate (PyProof.Rows.callWith_type1 (thn (ha.run pos pins s σ H _ I h) fun us s1 ⟨vs, H1, I1, r1, a, xs, ex, hq, q⟩ => ?_) hs rfl))
  subst ex
  rw [Vals.ref1 r1]
  obtain ⟨its, rv, p', hz⟩ := I1.tuple hq
  refine enumT_begins p' fun h' he hit hk => wpAny_pyIter_enum he ?_
  have I2 : Inv X pins σ H1 { s1 with heap := h' } := I1.kept (t' := s1.toks) hk
  refine ⟨s1.heap.objs.size + 1, [s1.heap.objs.size + 1, s1.heap.objs.size], _, _, H1, rfl, I2, turn_enumT a (s1.heap.objs.size + 1) s1.heap.objs.size, ⟨⟨.none, he⟩, hit, Nat.succ_ne_self _⟩, fun b hb => ?_, q⟩
  have hle : s1.heap.objs.size ≤ b := by
    rcases List.mem_cons.mp hb with z | z
    · rw [z]; exact Nat.le_succ _
    · rw [List.mem_singleton.mp z]; exact Nat.le_refl _
  exact I1.fpOk hle (I1.hok.fresh hle)
theorem walk_enumT {K : PySem.W.Frag} {a : Addr} {xs : List V} : Walk (IteT K a) xs.length (fun H => SqT K H a xs) (YPair (fun i => some (.int (i : Nat))) (fun i => xs[i]?)) := by
  refine ⟨fun i _ hi q => ⟨xs, xs[i], q, by simp [hi]⟩, fun _ q => ⟨xs, q, rfl⟩, fun i H v H' _ q y => ?_⟩
  obtain ⟨T, x, h1, h2, h3, h4⟩ := y
  exact ⟨T, .int (i : Nat), x, h1, h2, h3, rfl, h4 xs q⟩
end FT
end
section
set_option Elab.async false
set_option linter.all false
set_option maxRecDepth 100000
set_option maxHeartbeats 4000000
/-! FtText: the text by places, names, what the top has left. -/
namespace FT
open PySem PySem.Spec L2
open PyProof.Rows hiding St
def topF (i : Nat) : Stmt := PySem.Challenge.pw_flankturns_k90_across_held_painters.main.body.getD i (.Pass ⟨0, 0, 0, 0⟩)
abbrev dIsIn : Stmt := topF 8
abbrev dNeedLine : Stmt := topF 13
abbrev dIsCells : Stmt := topF 14
abbrev dHeldIn : Stmt := topF 15
abbrev dFlanks : Stmt := topF 16
abbrev dIsFlanked : Stmt := topF 17
abbrev dReadyIn : Stmt := topF 18
abbrev dSwingsIn : Stmt := topF 19
abbrev dSwings : Stmt := topF 20
abbrev dStretches : Stmt := topF 21
abbrev dNeedRest : Stmt := topF 22
abbrev dDepths : Stmt := topF 23
abbrev dNeedFrame : Stmt := topF 25
abbrev dWithCells : Stmt := topF 27
abbrev dTurns : Stmt := topF 28
abbrev dAfter : Stmt := topF 29
abbrev dRestCells : Stmt := topF 30
abbrev dRest : Stmt := topF 31
abbrev dNeedPainted : Stmt := topF 34
abbrev dDiff : Stmt := topF 35
abbrev dColour : Stmt := topF 36
abbrev dBehind : Stmt := topF 37
abbrev dValue : Stmt := topF 38
abbrev dPValue : Stmt := topF 39
abbrev dPCells : Stmt := topF 40
abbrev dMassesIn : Stmt := topF 42
abbrev dMasses : Stmt := topF 43
abbrev dTaken : Stmt := topF 45
abbrev dOrder : Stmt := topF 46
abbrev dLaw : Stmt := topF 47
/-- the built-ins' names are free, the constants stand -/
structure Txt (mg : Str → Option Value) : Prop where
  isi : mg "isinstance" = none
  int : mg "int" = none
  bool : mg "bool" = none
  tuple : mg "tuple" = none
  list : mg "list" = none
  dict : mg "dict" = none
  set : mg "set" = none
  len : mg "len" = none
  sorted : mg "sorted" = none
  range : mg "range" = none
  enum : mg "enumerate" = none
  max : mg "max" = none
  min : mg "min" = none
  mcells : ∃ t, mg "MOST_CELLS" = some (.int 40 t)
  mcolour : ∃ t, mg "MOST_COLOUR" = some (.int 9 t)
  lring : ∃ t, mg "LEAST_RING" = some (.int 3 t)
  mpaint : ∃ t, mg "MOST_PAINTED" = some (.int 8 t)
theorem b_isi : bootBuiltins "isinstance" = some (.builtin "isinstance") := by decide +kernel
theorem b_int : bootBuiltins "int" = some (.type "int") := by decide +kernel
theorem b_bool : bootBuiltins "bool" = some (.type "bool") := by decide +kernel
theorem b_tuple : bootBuiltins "tuple" = some (.type "tuple") := by decide +kernel
theorem b_list : bootBuiltins "list" = some (.type "list") := by decide +kernel
theorem b_dict : bootBuiltins "dict" = some (.type "dict") := by decide +kernel
theorem b_set : bootBuiltins "set" = some (.type "set") := by decide +kernel
theorem b_len : bootBuiltins "len" = some (.builtin "len") := by decide +kernel
theorem b_sorted : bootBuiltins "sorted" = some (.builtin "sorted") := by decide +kernel
theorem b_max : bootBuiltins "max" = some (.builtin "max") := by decide +kernel
theorem b_min : bootBuiltins "min" = some (.builtin "min") := by decide +kernel
/-- a def as it stands behind the top -/
structure Dn (K : PySem.W.Frag) (mg : Str → Option Value) (x : Str) (st : Stmt) (ps : List Str) (f : Addr) (fd : FuncData) : Prop where
  fn : Fun K x x st f fd
  bn : Binds K fd ps []
  gl : mg x = some (.ref f)
/-- the name x holds a def that keeps the promise sp, at k calls -/
def Has (P : Program) (w : World) (K : PySem.W.Frag) (mg : Str → Option Value) (base : Heap) (x : Str) (ps : List Str) (k : Nat) (sp : Sp) : Prop :=
  ∃ f fd, Binds K fd ps [] ∧ mg x = some (.ref f) ∧ PySem.W.keepIn K (.ref f) = true ∧ FnOk P w K mg base CX0 k f fd ps sp
section
variable {P : Program} {w : World} {K : PySem.W.Frag} {mg : Str → Option Value} {base : Heap}
theorem Dn.has {x : Str} {st : Stmt} {ps : List Str} {f : Addr} {fd : FuncData} {k : Nat} {sp : Sp} (D : Dn K mg x st ps f fd) (h : FnOk P w K mg base CX0 k f fd ps sp) : Has P w K mg base x ps k sp :=
  ⟨f, fd, D.bn, D.gl, D.fn.kp, h⟩
end
/-! ### calls -/
section
variable {X : Cx} {x : Str} {ps : List Str} {k : Nat} {sp : Sp} {e : Expr} {es : List Expr} {p pos : Pos} {t : TA}
theorem pe_has (h : Has X.prog X.w X.K X.mg X.base x ps k sp) (hr : Room k X.A) (hg : Gl X x) (ha : PA X (e :: es) t) (hd : (x == ("__debug__" : Str)) = false := by decide)
    (he : starEach (e :: es) X.env = (false, eval e X.env) :: starEach es X.env := by rfl) (hpl : (backTo pos (starEach es X.env)).any (·.1) = false := by rfl) :
    PE X (.Call (.Name x p) (e :: es) [] pos) (tCall sp [] E0 t) := by
  obtain ⟨f, fd, bn, gl, kp, fo⟩ := h
  exact pe_call (hdb := hd) (he := he) (hpl := hpl) fo hr hg gl kp bn .nil pass0 ha
end
/-! ### rules within a comprehension: the written part by its own name -/
section
variable {X : Cx} {K : PySem.W.Frag}
theorem ixT_of (h : X.K = K) : IxR X (rIxT K) := by
  subst h
  exact ix_tup
theorem ixL_of (h : X.K = K) : IxR X (rIxL K) := by
  subst h
  exact ix_list
theorem notIn_of (h : X.K = K) : OpR X (compareOp .NotIn) (rIn K true) := by
  subst h
  exact op_notIn_seq
def rLenS (K : PySem.W.Frag) : List V → Hp → VK → Prop := fun xs H Q => ∃ p ys, xs = [.ref p] ∧ (SqL K H p ys ∨ SqT K H p ys) ∧ Q (.int ys.length) H
theorem len_of (h : X.K = K) : CallR X (.builtin "len") (rLenS K) := by
  subst h
  exact call_len_seq
end
/-! ### isinstance -/
section
variable {K : PySem.W.Frag} {H : Hp}
theorem tyx_tup {a : Addr} {xs : List V} (h : SqT K H a xs) : TyX K H (.ref a) (.type "tuple") := by
  rcases h with (h | ⟨o, h⟩) | ⟨o, its, n, h, c, _⟩
  · exact .base (.tup h)
  · exact .fTuple h
  · exact .kTuple h c
theorem kII : PySem.W.kitOne K (.type "int") (.type "int") = some true := kit_ty (by decide +kernel)
theorem kIB : PySem.W.kitOne K (.type "int") (.type "bool") = some false := kit_ty (by decide +kernel)
theorem kBB : PySem.W.kitOne K (.type "bool") (.type "bool") = some true := kit_ty (by decide +kernel)
theorem kTT : PySem.W.kitOne K (.type "tuple") (.type "tuple") = some true := kit_ty (by decide +kernel)
end
/-! ### lists of ints as values -/
theorem flat_ints (ns : List Int) : (ns.map V.int).all flatV = true := by
  rw [List.all_map]
  exact List.all_eq_true.mpr fun _ _ => rfl
theorem in_ints (k : Int) (ns : List Int) : inV (.int k) (ns.map V.int) = decide (k ∈ ns) := by
  unfold inV
  rw [List.any_map]
  by_cases h : k ∈ ns
  · rw [decide_eq_true h]
    exact List.any_eq_true.mpr ⟨k, h, by show (k == k) = true; exact beq_self_eq_true k⟩
  · rw [decide_eq_false h]
    refine List.any_eq_false.mpr fun y hy z => h ?_
    have e : (y == k) = true := z
    rw [beq_iff_eq] at e
    rw [← e]
    exact hy
theorem int_at {ns : List Int} {i : Nat} {v : V} (h : (ns.map V.int)[i]? = some v) : ∃ k, v = .int k ∧ ns[i]? = some k := by
  rw [List.getElem?_map] at h
  obtain ⟨k, e1, e2⟩ := Option.map_eq_some_iff.mp h
  exact ⟨k, e2.symm, e1⟩
theorem at_int {ns : List Int} {k : Int} (h0 : 0 ≤ k) (h1 : k < (ns.length : Int)) : atI (ns.map V.int) k = some (.int (getI ns k)) := by
  have e : k = ((k.toNat : Nat) : Int) := by omega
  have hk : k.toNat < ns.length := by omega
  have q : atI (ns.map V.int) ((k.toNat : Nat) : Int) = some (.int ns[k.toNat]) := atI_nat (by rw [List.getElem?_map, List.getElem?_eq_getElem hk]; rfl)
  rw [← e] at q
  rw [q]
  unfold getI
  rw [List.getD_eq_getElem?_getD, List.getElem?_eq_getElem hk]
  rfl
theorem fz_new {H : Hp} {a : Addr} (o : HO) (h : H a = none) : Same H (upd H a o) := same_put h
/-- a line -/
def LineAt (K : PySem.W.Frag) (H : Hp) (p : Addr) (cs held : List Int) (r : Bool) : Prop :=
  ∃ ac ah, SqT K H p [.ref ac, .ref ah, .bl r] ∧ SqT K H ac (cs.map V.int) ∧ SqT K H ah (held.map V.int)
theorem LineAt.same {K : PySem.W.Frag} {H H' : Hp} {p : Addr} {cs held : List Int} {r : Bool} (l : LineAt K H p cs held r) (s : Same H H') : LineAt K H' p cs held r :=
  let ⟨ac, ah, h1, h2, h3⟩ := l; ⟨ac, ah, sameT s h1, sameT s h2, sameT s h3⟩
/-- what the law's lines keep -/
structure Fits (n : Nat) (held : List Int) (r : Bool) : Prop where
  n1 : 1 ≤ n
  n7 : n ≤ 7
  ring : r = true → 3 ≤ n
  asc : held.Pairwise (· < ·)
  bds : ∀ k ∈ held, 0 ≤ k ∧ k < (n : Int)
end FT
end
section
set_option Elab.async false
set_option linter.all false
set_option maxRecDepth 100000
set_option maxHeartbeats 4000000
/-! FtD1: is_in, flanks, is_flanked. -/
namespace FT
open PySem PySem.Spec L2
open PyProof.Rows hiding St
section
variable {P : Program} {w : World} {K : PySem.W.Frag} {mg : Str → Option Value} {base : Heap} {f : Addr} {fd : FuncData}
def spIsIn : Sp := fun vs H Q _ => ∃ i a b : Int, vs = [.int i, .int a, .int b] ∧ Q (.bl (decide (a ≤ i) && decide (i ≤ b))) H
theorem scIsIn : FnScope ["value", "least", "most"] ["value", "least", "most"] (defScope dIsIn) := ⟨rfl, rfl, rfl, by decide +kernel, rfl, by decide +kernel, by decide +kernel⟩
theorem ok_isIn (D : Dn K mg "is_in" dIsIn ["value", "least", "most"] f fd) (T : Txt mg) : Has P w K mg base "is_in" ["value", "least", "most"] 1 spIsIn := by
  refine D.has (D.fn.ok scIsIn (fun vs H Q E h => ?_) (fun cdv A outer s H vs Q E hr h => ?_))
  · obtain ⟨i, a, b, rfl, _⟩ := h
    rfl
  obtain ⟨i, a, b, rfl, q⟩ := h
  refine ⟨_, pss_one (ps_ret (pe_and (pe_callB call_isi (by rfl) T.isi b_isi (pa_cons (pv 0) (pa_cons (pe_bltn (v := .ty "int") (by rfl) T.int b_int rfl) pa_nil)))
    (pe_and (pe_not (pe_callB call_isi (by rfl) T.isi b_isi (pa_cons (pv 0) (pa_cons (pe_bltn (v := .ty "bool") (by rfl) T.bool b_bool rfl) pa_nil)))) (pe_one (pe_chain op_le op_le (pv 1) (pv 0) (pv 2)))))), ?_⟩
  refine ⟨_, rfl, .int i, _, _, _, true, rfl, .ty "int", .base (.int i), kII, true, rfl, iteT ?_⟩
  refine ⟨_, rfl, .int i, _, _, _, false, rfl, .ty "bool", .base (.int i), kIB, false, rfl, true, rfl, iteT ?_⟩
  refine ⟨_, rfl, _, rfl, a, i, rfl, rfl, _, rfl, ite2 (fun c => ?_) (fun c => ?_)⟩
  · refine ⟨_, rfl, i, b, rfl, rfl, ?_⟩
    rw [c, Bool.true_and] at q
    exact q
  · rw [Bool.eq_false_iff.mpr c, Bool.false_and] at q
    exact q
def spFlanks (K : PySem.W.Frag) : Sp := fun vs H Q _ => ∃ n k : Int, vs = [.int n, .int k] ∧ 0 < n ∧ ∀ p H', Same H H' → SqT K H' p [.int ((k - 1) % n), .int ((k + 1) % n)] → Q (.ref p) H'
theorem scFlanks : FnScope ["many", "cell"] ["many", "cell"] (defScope dFlanks) := ⟨rfl, rfl, rfl, by decide +kernel, rfl, by decide +kernel, by decide +kernel⟩
theorem ok_flanks (D : Dn K mg "flanks" dFlanks ["many", "cell"] f fd) : Has P w K mg base "flanks" ["many", "cell"] 1 (spFlanks K) := by
  refine D.has (D.fn.ok scFlanks (fun vs H Q E h => ?_) (fun cdv A outer s H vs Q E hr h => ?_))
  · obtain ⟨n, k, rfl, _⟩ := h
    rfl
  obtain ⟨n, k, rfl, hn, q⟩ := h
  refine ⟨_, pss_one (ps_ret (pe_tup (pa_cons (pe_op op_mod (pe_op op_sub (pv 1) pe_int) (pv 0)) (pa_cons (pe_op op_mod (pe_op op_add (pv 1) pe_int) (pv 0)) pa_nil)))), ?_⟩
  refine ⟨_, rfl, k, 1, rfl, rfl, _, rfl, _, n, rfl, rfl, hn, _, rfl, k, 1, rfl, rfl, _, rfl, _, n, rfl, rfl, hn, (by show 2 ≤ sizeLine; decide), fun p hp => ?_⟩
  exact q p _ (same_put hp) (SqT.of upd_same)
def spFlanked (K : PySem.W.Frag) : Sp := fun vs H Q _ => ∃ (ac : Addr) (cs : List Int) (k : Int), vs = [.ref ac, .int k] ∧ SqT K H ac (cs.map V.int) ∧ 0 ≤ k ∧ k < (cs.length : Int) ∧ ∀ H', Same H H' → Q (.bl (flankB cs k)) H'
theorem scFlanked : FnScope ["cells", "cell", "left", "right"] ["cells", "cell"] (defScope dIsFlanked) := ⟨rfl, rfl, rfl, by decide +kernel, rfl, by decide +kernel, by decide +kernel⟩
theorem ok_flanked (D : Dn K mg "is_flanked" dIsFlanked ["cells", "cell"] f fd) (T : Txt mg) (G : Has P w K mg base "flanks" ["many", "cell"] 1 (spFlanks K)) : Has P w K mg base "is_flanked" ["cells", "cell"] 2 (spFlanked K) := by
  refine D.has (D.fn.ok scFlanked (fun vs H Q E h => ?_) (fun cdv A outer s H vs Q E hr h => ?_))
  · obtain ⟨ac, cs, k, rfl, _⟩ := h
    rfl
  obtain ⟨ac, cs, k, rfl, hc, h0, h1, q⟩ := h
  have nd := scFlanked.nd
  refine ⟨_, pss_cons (ps_asg (pe_has G hr (by rfl) (pa_cons (pe_callB call_len_seq (by rfl) T.len b_len (pa_cons (pv 0) pa_nil)) (pa_cons (pv 1) pa_nil))) (pg_tup (by rfl) (pgs_cons (pg_name (i := 2) nd rfl (.inl rfl)) (pgs_cons (pg_name (i := 3) nd rfl (.inl rfl)) pgs_nil))))
    (pss_one (ps_ret (pe_chain op_eq op_ne (pe_ix ix_tup (pv 0) (pv 2) (fun _ _ => rfl)) (pe_ix ix_tup (pv 0) (pv 3) (fun _ _ => rfl)) (pe_ix ix_tup (pv 0) (pv 1) (fun _ _ => rfl))))), ?_⟩
  have hl : (cs.map V.int).length = cs.length := List.length_map _
  refine ⟨_, rfl, ac, _, rfl, .inr hc, _, rfl, _, k, rfl, ?_, fun p H' s' hp => ?_⟩
  · show (0 : Int) < (((cs.map V.int).length : Nat) : Int)
    rw [hl]; omega
  rw [hl] at hp
  refine ⟨p, _, rfl, hp, rfl, _, _, rfl, _, _, rfl, rfl, ?_⟩
  have n0 : (0 : Int) < (cs.length : Int) := by omega
  have a1 : 0 ≤ (k - 1) % (cs.length : Int) := Int.emod_nonneg _ (by omega)
  have a2 : (k - 1) % (cs.length : Int) < (cs.length : Int) := Int.emod_lt_of_pos _ n0
  have b1 : 0 ≤ (k + 1) % (cs.length : Int) := Int.emod_nonneg _ (by omega)
  have b2 : (k + 1) % (cs.length : Int) < (cs.length : Int) := Int.emod_lt_of_pos _ n0
  have hc' : SqT K H' ac (cs.map V.int) := sameT s' hc
  refine ⟨_, rfl, _, rfl, ac, _, _, _, rfl, rfl, hc', at_int a1 a2, _, rfl, _, rfl, ac, _, _, _, rfl, rfl, hc', at_int b1 b2, rfl, _, rfl, ite2 (fun c => ?_) (fun c => ?_)⟩
  · have e := V.int.inj (of_decide_eq_true c)
    refine ⟨_, rfl, _, rfl, ac, _, _, _, rfl, rfl, hc', at_int h0 h1, rfl, ?_⟩
    have z := q H' s'
    unfold flankB at z
    rw [decide_eq_true e, Bool.true_and] at z
    have d : decide (V.int (getI cs ((k + 1) % (cs.length : Int))) = V.int (getI cs k)) = decide (getI cs ((k + 1) % (cs.length : Int)) = getI cs k) := decide_eq_decide.mpr ⟨V.int.inj, fun e => by rw [e]⟩
    rw [d]
    exact z
  · have e : ¬ getI cs ((k - 1) % (cs.length : Int)) = getI cs ((k + 1) % (cs.length : Int)) := fun e => c (decide_eq_true (by rw [e]))
    have z := q H' s'
    unfold flankB at z
    rw [decide_eq_false e, Bool.false_and] at z
    exact z
end
end FT
end
section
set_option Elab.async false
set_option linter.all false
set_option maxRecDepth 100000
set_option maxHeartbeats 4000000
/-! FtD2: is_cells, held_in, need_line. -/
namespace FT
open PySem PySem.Spec L2
open PyProof.Rows hiding St
/-! ### data of ints -/
theorem dp_ints {K : PySem.W.Frag} {H : Hp} : ∀ ns : List Int, DpAll K H (ns.map V.int) (ns.map PyData.int)
  | [] => .nil
  | n :: ns => .cons (.int n) (dp_ints ns)
theorem lay_ints : ∀ ns : List Int, PyData.canLayAll0 (ns.map PyData.int) = true
  | [] => rfl
  | n :: ns => by
    show (true && PyData.canLayAll0 (ns.map PyData.int)) = true
    rw [lay_ints ns]; rfl
theorem depth_ints : ∀ ns : List Int, PyData.depthAll (ns.map PyData.int) = 0
  | [] => rfl
  | n :: ns => by
    show max 0 (PyData.depthAll (ns.map PyData.int)) = 0
    rw [depth_ints ns]; rfl
theorem shaped_l (ns : List Int) : SeqAt.shaped (.list (ns.map PyData.int)) = true := by
  unfold SeqAt.shaped
  have e1 : PyData.canLay0 (.list (ns.map PyData.int)) = true := lay_ints ns
  have e2 : PyData.depth (.list (ns.map PyData.int)) = 1 := by
    show PyData.depthAll (ns.map PyData.int) + 1 = 1
    rw [depth_ints]
  rw [e1, e2]
  rfl
theorem shaped_t (ns : List Int) : SeqAt.shaped (.tuple (ns.map PyData.int)) = true := by
  unfold SeqAt.shaped
  have e1 : PyData.canLay0 (.tuple (ns.map PyData.int)) = true := lay_ints ns
  have e2 : PyData.depth (.tuple (ns.map PyData.int)) = 1 := by
    show PyData.depthAll (ns.map PyData.int) + 1 = 1
    rw [depth_ints]
  rw [e1, e2]
  rfl
theorem eqv_ints : ∀ ns ms : List Int, PyData.eqvAll (ns.map PyData.int) (ms.map PyData.int) = decide (ns = ms)
  | [], [] => rfl
  | [], _ :: _ => rfl
  | _ :: _, [] => rfl
  | a :: ns, b :: ms => by
    show ((a == b) && PyData.eqvAll (ns.map PyData.int) (ms.map PyData.int)) = _
    rw [eqv_ints ns ms]
    by_cases h : a = b
    · subst h; simp
    · simp [h]
theorem eqv_l (ns ms : List Int) : PyData.eqv (.list (ns.map PyData.int)) (.list (ms.map PyData.int)) = decide (ns = ms) := eqv_ints ns ms
theorem eqv_t (ns ms : List Int) : PyData.eqv (.tuple (ns.map PyData.int)) (.tuple (ms.map PyData.int)) = decide (ns = ms) := eqv_ints ns ms
theorem asc_one {l m : List Int} (hl : l.Pairwise (· < ·)) (hm : m.Pairwise (· < ·)) (h : ∀ k, k ∈ l ↔ k ∈ m) : l = m := by
  have nl : l.Nodup := hl.imp fun {a b} h => by omega
  have nm : m.Nodup := hm.imp fun {a b} h => by omega
  refine List.Perm.eq_of_pairwise (le := fun a b : Int => a < b) (fun a b _ _ h1 h2 => by omega) hl hm ?_
  exact (List.perm_ext_iff_of_nodup nl nm).mpr h
section
variable {P : Program} {w : World} {K : PySem.W.Frag} {mg : Str → Option Value} {base : Heap} {f : Addr} {fd : FuncData}
def spIsCells (K : PySem.W.Frag) : Sp := fun vs H Q _ => ∃ (n : Int) (ah : Addr) (held : List Int), vs = [.int n, .ref ah] ∧ SqT K H ah (held.map V.int) ∧ held.length < 60 ∧ held.Pairwise (· < ·) ∧ (∀ k ∈ held, 0 ≤ k ∧ k < n) ∧
  ∀ H', Same H H' → Q (.bl true) H'
theorem scIsCells : FnScope ["many", "value", "x"] ["many", "value"] (defScope dIsCells) := ⟨rfl, rfl, rfl, by decide +kernel, rfl, by decide +kernel, by decide +kernel⟩
theorem ok_isCells (D : Dn K mg "is_cells" dIsCells ["many", "value"] f fd) (T : Txt mg) (G : Has P w K mg base "is_in" ["value", "least", "most"] 1 spIsIn) : Has P w K mg base "is_cells" ["many", "value"] 2 (spIsCells K) := by
  refine D.has (D.fn.ok scIsCells (fun vs H Q E h => ?_) (fun cdv A outer s H vs Q E hr h => ?_))
  · obtain ⟨n, ah, held, rfl, _⟩ := h
    rfl
  obtain ⟨n, ah, held, rfl, hT, hlen, asc, bds, q⟩ := h
  have nd := scIsCells.nd
  refine ⟨_, pss_cons (ps_if (PW.pt (pw_or (pt_not (pt_val (pe_callB call_isi (by rfl) T.isi b_isi (pa_cons (pv 1) (pa_cons (pe_bltn (v := .ty "tuple") (by rfl) T.tuple b_tuple rfl) pa_nil)))))
      (pw_or1 (pt_cmpR (op_neD hr.units) (pe_lc (own := [("x", 2)]) (g := gName 2) (by rfl) nd (pi_tup (pv 1)) (blkOk_by (own := [("x", 2)]) (N := ["many", "value", "x"]) (sc := defScope dIsCells) (by decide +kernel))
        (fun _ _ _ _ _ => pg_name (i := 2) nd rfl (Or.inl rfl)) (fun _ _ _ _ _ => pts_one (pt_not (pt_val (pe_has G hr (by rfl) (pa_cons (pv 2) (pa_cons pe_int (pa_cons (pe_op op_sub (pv 0) pe_int) pa_nil))))))) (fun _ _ _ _ _ => pv 2)) (pe_lst pa_nil) (nomark _))))) pss_never pss_nil)
    (pss_one (ps_ret (pe_cmpR (op_eqD hr.units) (pe_callTy call_list_of (by rfl) T.list b_list (pa_cons (pv 1) pa_nil)) (pe_callB (cr_sortedSet rfl) (by rfl) T.sorted b_sorted (pa_cons (pe_callTy (call_setI rfl) (by rfl) T.set b_set (pa_cons (pv 1) pa_nil)) pa_nil)) (nomark _)))), ?_⟩
  have hl : (held.map V.int).length = held.length := List.length_map _
  refine ⟨_, rfl, .ref ah, _, _, _, true, rfl, .ty "tuple", tyx_tup hT, kTT, true, rfl, iteF ?_⟩
  refine ⟨_, rfl, ah, rfl, ⟨_, hT⟩, fun D0 nD => lc_tup (K := K) (a := ah) (xs := held.map V.int) (fun i H' => Same H H' ∧ H' D0 = some (.lst [])) ⟨same_put nD, upd_same⟩ (fun i H' _ h => sameT h.1 hT) ?_ ?_⟩
  · rintro i x H' hx ⟨s1, e1⟩
    obtain ⟨k, rfl, hk⟩ := int_at hx
    obtain ⟨k0, k1⟩ := bds k (List.mem_of_getElem? hk)
    refine ⟨rfl, _, rfl, _, rfl, n, 1, rfl, rfl, k, 0, n - 1, rfl, _, rfl, ?_⟩
    rw [decide_eq_true (show (0 : Int) ≤ k from k0), decide_eq_true (show k ≤ n - 1 by omega)]
    exact iteF ⟨s1, e1⟩
  · rintro H1 ⟨s1, e1⟩
    refine ⟨Nat.zero_le _, fun p hp => ⟨.list [], .list [], .lst (SqL.of (show upd H1 p (.lst []) D0 = some (.lst []) by rw [upd_ne (ne_of_none e1 hp)]; exact e1)) .nil, .lst (SqL.of upd_same) .nil, rfl, rfl, _, rfl, ?_⟩⟩
    refine iteF ?_
    have s2 : Same H (upd H1 p (.lst [])) := s1.trans (same_put hp)
    refine ⟨_, rfl, ah, _, rfl, .inr (sameT s2 hT), fun l nl => ?_⟩
    have s3 := s2.trans (same_put (o := .lst (held.map V.int)) nl)
    refine ⟨_, rfl, ah, held, rfl, .inr (sameT s3 hT), by omega, fun a c na hc => ?_⟩
    refine ⟨a, _, c, rfl, upd_same, by omega, fun ns p2 asc2 mem _ np2 => ?_⟩
    have s4 := s3.trans (same_put (o := SetO w a (fun j => decide (j ∈ held)) c) na)
    have s5 := s4.trans (same_put (o := .lst (ns.map V.int)) np2)
    have eL : (upd (upd (upd (upd H1 p (.lst [])) l (.lst (held.map V.int))) a (SetO w a (fun j => decide (j ∈ held)) c)) p2 (.lst (ns.map V.int))) l = some (.lst (held.map V.int)) := by
      exact same_put (o := .lst (ns.map V.int)) np2 _ _ (same_put (o := SetO w a (fun j => decide (j ∈ held)) c) na _ _ upd_same)
    refine ⟨.list (held.map PyData.int), .list (ns.map PyData.int), .lst (SqL.of eL) (dp_ints held), .lst (SqL.of upd_same) (dp_ints ns), shaped_l _, shaped_l _, ?_⟩
    have en : held = ns := asc_one asc asc2 fun k => by
      rw [mem k]
      simp
    rw [eqv_l, decide_eq_true en]
    exact q _ s5
def spHeldIn (K : PySem.W.Frag) : Sp := fun vs H Q _ => ∃ (pl : Addr) (cs held : List Int) (r : Bool), vs = [.ref pl] ∧ LineAt K H pl cs held r ∧ cs.length < 60 ∧ held.length < 60 ∧
  ∀ p H' (ns : List Int), Same H H' → (∀ k, k ∈ ns ↔ heldB held r cs.length k = true) → SqL K H' p (ns.map V.int) → Q (.ref p) H'
theorem scHeldIn : FnScope ["line", "cells", "held", "is_ring", "ends"] ["line"] (defScope dHeldIn) := ⟨rfl, rfl, rfl, by decide +kernel, rfl, by decide +kernel, by decide +kernel⟩
theorem ok_heldIn (D : Dn K mg "held_in" dHeldIn ["line"] f fd) (T : Txt mg) : Has P w K mg base "held_in" ["line"] 1 (spHeldIn K) := by
  refine D.has (D.fn.ok scHeldIn (fun vs H Q E h => ?_) (fun cdv A outer s H vs Q E hr h => ?_))
  · obtain ⟨pl, cs, held, r, rfl, _⟩ := h
    rfl
  obtain ⟨pl, cs, held, r, rfl, ⟨ac, ah, hL, hC, hT⟩, hcl, hlen, q⟩ := h
  have nd := scHeldIn.nd
  refine ⟨_, pss_cons (ps_asg (pv 0) (pg_tup (by rfl) (pgs_cons (pg_name (i := 1) nd rfl (.inl rfl)) (pgs_cons (pg_name (i := 2) nd rfl (.inl rfl)) (pgs_cons (pg_name (i := 3) nd rfl (.inl rfl)) pgs_nil)))))
    (pss_cons (ps_set (i := 4) nd rfl (Or.inl rfl) (pe_ifExp (pt_val (pv 3)) (pe_lst pa_nil) (pe_lst (pa_cons pe_int (pa_cons (pe_op op_sub (pe_callB call_len_seq (by rfl) T.len b_len (pa_cons (pv 1) pa_nil)) pe_int) pa_nil)))))
    (pss_one (ps_ret (pe_callB (cr_sortedSet rfl) (by rfl) T.sorted b_sorted (pa_cons (pe_callTy (call_setI rfl) (by rfl) T.set b_set (pa_cons (pe_op op_cat (pe_callTy call_list_of (by rfl) T.list b_list (pa_cons (pv 2) pa_nil)) (pv 4)) pa_nil)) pa_nil))))), ?_⟩
  have hl : (cs.map V.int).length = cs.length := List.length_map _
  -- the rest, once the list of the ends stands
  have rest : ∀ (d : Addr) (ends : List Int) (H1 : Hp), Same H H1 → H1 d = some (.lst (ends.map V.int)) → ends.length ≤ 2 → (∀ k, k ∈ ends ↔ (r = false ∧ (k = 0 ∨ k = (cs.length : Int) - 1))) →
      tRet (tCB (rSortedSet w) (tCons (tCB (rSetI K w) (tCons (tOp rCat (tCB (fun xs H Q => ∃ p ys, xs = [V.ref p] ∧ (SqL K H p ys ∨ SqT K H p ys) ∧ ∀ l, H l = none → Q (.ref l) (upd H l (.lst ys))) (tCons (tVar 2) tNil)) (tVar 4)) tNil)) tNil)) { nx := fun _ H' => Q .non H', rt := Q } [some (.ref pl), some (.ref ac), some (.ref ah), some (.bl r), some (.ref d)] H1 := by
    intro d ends H1 s1 e1 h2 hm
    refine ⟨_, rfl, ah, _, rfl, .inr (sameT s1 hT), fun l nl => ?_⟩
    have s2 := s1.trans (same_put (o := .lst (held.map V.int)) nl)
    refine ⟨_, rfl, l, d, _, ends.map V.int, rfl, rfl, upd_same, by rw [upd_ne (ne_of_none e1 nl)]; exact e1, ?_, fun p np => ?_⟩
    · rw [List.length_map, List.length_map, sizeLine_eq]
      omega
    have s3 := s2.trans (same_put (o := .lst (held.map V.int ++ ends.map V.int)) np)
    refine ⟨p, held ++ ends, rfl, .inl (SqL.of (by rw [List.map_append]; exact upd_same)), by rw [List.length_append]; omega, fun a c na hc => ?_⟩
    have s4 := s3.trans (same_put (o := SetO w a (fun j => decide (j ∈ held ++ ends)) c) na)
    rw [List.length_append] at hc
    refine ⟨a, _, c, rfl, upd_same, by omega, fun ns p2 asc2 mem _ np2 => ?_⟩
    refine q p2 _ ns (s4.trans (same_put (o := .lst (ns.map V.int)) np2)) (fun k => ?_) (SqL.of upd_same)
    rw [mem k, decide_eq_true_eq, List.mem_append, hm k]
    unfold heldB
    cases r <;> simp
  refine ⟨_, rfl, pl, _, rfl, hL, rfl, _, _, rfl, _, _, rfl, _, _, rfl, rfl, ?_⟩
  cases r with
  | true =>
    refine ⟨_, rfl, true, rfl, iteT ⟨Nat.zero_le _, fun d nd' => ?_⟩⟩
    exact rest d [] _ (same_put nd') upd_same (Nat.zero_le _) fun k => by simp
  | false =>
    refine ⟨_, rfl, false, rfl, iteF ⟨_, rfl, ac, _, rfl, .inr hC, _, 1, rfl, rfl, (by show 2 ≤ sizeLine; decide), fun d nd' => ?_⟩⟩
    rw [hl]
    exact rest d [0, (cs.length : Int) - 1] _ (same_put nd') upd_same (Nat.le_refl _) fun k => by simp
/-- a line as the law makes them -/
def spNeedLine (K : PySem.W.Frag) : Sp := fun vs H Q _ => ∃ (pl : Addr) (cs held : List Int) (r : Bool), vs = [.ref pl] ∧ LineAt K H pl cs held r ∧ Fits cs.length held r ∧ (∀ c ∈ cs, 0 ≤ c ∧ c ≤ 9) ∧ held.length < 60 ∧ ∀ H', Same H H' → Q .non H'
theorem scNeedLine : FnScope ["line", "cells", "held", "is_ring", "least", "index", "one"] ["line"] (defScope dNeedLine) := ⟨rfl, rfl, rfl, by decide +kernel, rfl, by decide +kernel, by decide +kernel⟩
theorem ok_needLine (D : Dn K mg "need_line" dNeedLine ["line"] f fd) (T : Txt mg) (G1 : Has P w K mg base "is_in" ["value", "least", "most"] 1 spIsIn) (G2 : Has P w K mg base "is_cells" ["many", "value"] 2 (spIsCells K)) :
    Has P w K mg base "need_line" ["line"] 3 (spNeedLine K) := by
  refine D.has (D.fn.ok scNeedLine (fun vs H Q E h => ?_) (fun cdv A outer s H vs Q E hr h => ?_))
  · obtain ⟨pl, cs, held, r, rfl, _⟩ := h
    rfl
  obtain ⟨pl, cs, held, r, rfl, ⟨ac, ah, hL, hC, hT⟩, ft, cb, hlen, q⟩ := h
  have nd := scNeedLine.nd
  obtain ⟨tc, gc⟩ := T.mcells
  obtain ⟨tk, gk⟩ := T.mcolour
  obtain ⟨tr, gr⟩ := T.lring
  refine ⟨_, pss_cons (ps_if (PW.pt (pw_or (pt_not (pt_val (pe_callB call_isi (by rfl) T.isi b_isi (pa_cons (pv 0) (pa_cons (pe_bltn (v := .ty "tuple") (by rfl) T.tuple b_tuple rfl) pa_nil)))))
      (pw_or (pt_cmpR op_ne (pe_callB call_len_seq (by rfl) T.len b_len (pa_cons (pv 0) pa_nil)) pe_int (nomark _))
      (pw_or1 (pt_not (pt_val (pe_callB call_isi (by rfl) T.isi b_isi (pa_cons (pe_ix ix_tup (pv 0) pe_int (fun _ _ => rfl)) (pa_cons (pe_bltn (v := .ty "bool") (by rfl) T.bool b_bool rfl) pa_nil))))))))) pss_never pss_nil)
    (pss_cons (ps_asg (pv 0) (pg_tup (by rfl) (pgs_cons (pg_name (i := 1) nd rfl (.inl rfl)) (pgs_cons (pg_name (i := 2) nd rfl (.inl rfl)) (pgs_cons (pg_name (i := 3) nd rfl (.inl rfl)) pgs_nil)))))
    (pss_cons (ps_set (i := 4) nd rfl (Or.inl rfl) (pe_ifExp (pt_val (pv 3)) (pe_glob (v := .int 3) (by rfl) gr ⟨tr, rfl⟩) pe_int))
    (pss_cons (ps_if (PW.pt (pw_or (pt_not (pt_val (pe_callB call_isi (by rfl) T.isi b_isi (pa_cons (pv 1) (pa_cons (pe_bltn (v := .ty "tuple") (by rfl) T.tuple b_tuple rfl) pa_nil)))))
      (pw_or1 (pt_not (pt_chain op_le op_le (pv 4) (pe_callB call_len_seq (by rfl) T.len b_len (pa_cons (pv 1) pa_nil)) (pe_glob (v := .int 40) (by rfl) gc ⟨tc, rfl⟩)))))) pss_never pss_nil)
    (pss_cons (ps_for PassesOwn.never rfl (pi_enumT (by rfl) T.enum (pa_cons (pv 1) pa_nil)) (pg_tup (by rfl) (pgs_cons (pg_name (i := 5) nd rfl (.inl rfl)) (pgs_cons (pg_name (i := 6) nd rfl (.inl rfl)) pgs_nil)))
      (pss_one (ps_if (pt_not (pt_val (pe_has G1 (hr.mono (by decide)) (by rfl) (pa_cons (pv 6) (pa_cons pe_int (pa_cons (pe_glob (v := .int 9) (by rfl) gk ⟨tk, rfl⟩) pa_nil)))))) pss_never pss_nil)))
    (pss_one (ps_if (pt_not (pt_val (pe_has G2 hr (by rfl) (pa_cons (pe_callB call_len_seq (by rfl) T.len b_len (pa_cons (pv 1) pa_nil)) (pa_cons (pv 2) pa_nil))))) pss_never pss_nil)))))), ?_⟩
  have hl : (cs.map V.int).length = cs.length := List.length_map _
  -- it is a tuple of three, the last a truth value
  refine ⟨_, rfl, .ref pl, _, _, _, true, rfl, .ty "tuple", tyx_tup hL, kTT, true, rfl, iteF ?_⟩
  refine ⟨_, rfl, pl, _, rfl, .inr hL, rfl, _, rfl, iteF ?_⟩
  refine ⟨_, rfl, pl, _, 2, .bl r, rfl, rfl, hL, rfl, .bl r, _, _, _, true, rfl, .ty "bool", .base (.bl r), kBB, true, rfl, iteF ?_⟩
  refine ⟨_, rfl, pl, _, rfl, hL, rfl, _, _, rfl, _, _, rfl, _, _, rfl, rfl, ?_⟩
  -- least, and the number of cells
  have rest : ∀ lo : Int, lo ≤ (cs.length : Int) → (tSeq (tIfS (tOr (tNot (tB (tCB (rIsi K) (tCons (tVar 1) (tCons (tC (.ty "tuple")) tNil))))) (tNot (tTest (tChain (rI0 fun i j => .bl (decide (i ≤ j))) (rI0 fun i j => .bl (decide (i ≤ j))) (tVar 4) (tCB (fun xs H Q => ∃ p ys, xs = [V.ref p] ∧ (SqL K H p ys ∨ SqT K H p ys) ∧ Q (.int ys.length) H) (tCons (tVar 1) tNil)) (tC (.int 40)))))) tNever tNext)
      (tSeq (tFor (iEnumT K (tCons (tVar 1) tNil)) (gTup K 2 (gCons (gName 5) (gCons (gName 6) gNil))) (tIfS (tNot (tB (tCall spIsIn [] E0 (tCons (tVar 6) (tCons (tC (.int 0)) (tCons (tC (.int 9)) tNil)))))) tNever tNext))
      (tIfS (tNot (tB (tCall (spIsCells K) [] E0 (tCons (tCB (fun xs H Q => ∃ p ys, xs = [V.ref p] ∧ (SqL K H p ys ∨ SqT K H p ys) ∧ Q (.int ys.length) H) (tCons (tVar 1) tNil)) (tCons (tVar 2) tNil))))) tNever tNext))) { nx := fun _ H' => Q .non H', rt := Q } [some (.ref pl), some (.ref ac), some (.ref ah), some (.bl r), some (.int lo), none, none] H := by
    intro lo hlo
    refine ⟨_, rfl, .ref ac, _, _, _, true, rfl, .ty "tuple", tyx_tup hC, kTT, true, rfl, iteF ?_⟩
    refine ⟨_, rfl, _, rfl, ac, _, rfl, .inr hC, lo, _, rfl, rfl, _, rfl, ?_⟩
    rw [hl, decide_eq_true hlo]
    refine iteT ⟨_, 40, rfl, rfl, _, rfl, ?_⟩
    have n7 := ft.n7
    rw [decide_eq_true (show (cs.length : Int) ≤ 40 by omega)]
    refine iteF ?_
    refine ⟨_, rfl, ac, _, rfl, hC, for_it walk_enumT (fun i σ H' => Same H H' ∧ ∃ y5 y6, σ = [some (.ref pl), some (.ref ac), some (.ref ah), some (.bl r), some (.int lo), y5, y6]) ⟨Same.refl H, none, none, rfl⟩ (fun i σ H' _ h => sameT h.1 hC) ?_ ?_⟩
    · rintro i x σ H1 H2 hi ⟨s1, y5, y6, rfl⟩ ⟨Tp, a1, a2, rfl, nT, rfl, f1, f2⟩
      have e1 : a1 = .int (i : Nat) := (Option.some.inj f1).symm
      subst e1
      obtain ⟨k, rfl, hk⟩ := int_at f2
      obtain ⟨k0, k1⟩ := cb k (List.mem_of_getElem? hk)
      refine ⟨Tp, _, rfl, SqT.of upd_same, rfl, _, _, rfl, _, _, rfl, rfl, ?_⟩
      refine ⟨_, rfl, k, 0, 9, rfl, _, rfl, ?_⟩
      rw [decide_eq_true k0, decide_eq_true k1]
      exact iteF ⟨s1.trans (same_put nT), _, _, rfl⟩
    · rintro σ H1 ⟨s1, y5, y6, rfl⟩
      refine ⟨_, rfl, ac, _, rfl, .inr (sameT s1 hC), _, rfl, (cs.length : Int), ah, held, ?_, sameT s1 hT, hlen, ft.asc, ft.bds, fun H2 s2 => ⟨true, rfl, iteF (q H2 (s1.trans s2))⟩⟩
      rw [hl]
      rfl
  cases r with
  | true => exact ⟨_, rfl, true, rfl, iteT (rest 3 (by have := ft.ring rfl; omega))⟩
  | false => exact ⟨_, rfl, false, rfl, iteF (rest 1 (by have := ft.n1; omega))⟩
end
end FT
end
section
set_option Elab.async false
set_option linter.all false
set_option maxRecDepth 100000
set_option maxHeartbeats 4000000
/-! FtD3: ready_in, swings_in, swings, need_resting. -/
namespace FT
open PySem PySem.Spec L2
open PyProof.Rows hiding St
theorem same_in {H H' : Hp} {d : Addr} {o : HO} (s : Same H H') (n : H d = none) : Same H (upd H' d o) := fun b x e => by
  rw [upd_ne (ne_of_none e n)]
  exact s b x e
theorem upTo_succ (i : Nat) : upTo (i + 1) = upTo i ++ [(i : Int)] := by
  unfold upTo
  rw [List.range_succ, List.map_append]
  rfl
section
variable {P : Program} {w : World} {K : PySem.W.Frag} {mg : Str → Option Value} {base : Heap} {f : Addr} {fd : FuncData}
def spReady (K : PySem.W.Frag) : Sp := fun vs H Q _ => ∃ (pl : Addr) (cs held : List Int) (r : Bool), vs = [.ref pl] ∧ LineAt K H pl cs held r ∧ cs.length < 60 ∧ held.length < 60 ∧
  ∀ p H', Same H H' → H' p = some (.lst ((readyM cs held r).map V.int)) → Q (.ref p) H'
theorem scReady : FnScope ["line", "held", "k"] ["line"] (defScope dReadyIn) := ⟨rfl, rfl, rfl, by decide +kernel, rfl, by decide +kernel, by decide +kernel⟩
theorem ok_ready (D : Dn K mg "ready_in" dReadyIn ["line"] f fd) (T : Txt mg) (G1 : Has P w K mg base "held_in" ["line"] 1 (spHeldIn K)) (G2 : Has P w K mg base "is_flanked" ["cells", "cell"] 2 (spFlanked K)) :
    Has P w K mg base "ready_in" ["line"] 3 (spReady K) := by
  refine D.has (D.fn.ok scReady (fun vs H Q E h => ?_) (fun cdv A outer s H vs Q E hr h => ?_))
  · obtain ⟨pl, cs, held, r, rfl, _⟩ := h
    rfl
  obtain ⟨pl, cs, held, r, rfl, hl0, hcl, hhl, q⟩ := h
  obtain ⟨ac, ah, hL, hC, hT⟩ := id hl0
  have nd := scReady.nd
  refine ⟨_, pss_cons (ps_set (i := 1) nd rfl (Or.inr rfl) (pe_has G1 (hr.mono (by decide)) (by rfl) (pa_cons (pv 0) pa_nil)))
    (pss_one (ps_ret (pe_lc (own := [("k", 2)]) (g := gName 2) (by rfl) nd (pi_range1 (by rfl) T.range (pa_cons (pe_callB call_len_seq (by rfl) T.len b_len (pa_cons (pe_ix ix_tup (pv 0) pe_int (fun _ _ => rfl)) pa_nil)) pa_nil))
      (blkOk_by (own := [("k", 2)]) (N := ["line", "held", "k"]) (sc := defScope dReadyIn) (by decide +kernel)) (fun _ _ _ _ _ => pg_name (i := 2) nd rfl (Or.inl rfl))
      (fun _ _ _ _ _ => pts_one (PW.pt (pw_and (pt_cmpR (notIn_of (K := K) rfl) (pv 2) (pv 1) (by rfl)) (pw_and1 (pt_val (pe_has G2 hr (by rfl) (pa_cons (pe_ix (ixT_of (K := K) rfl) (pv 0) pe_int (fun _ _ => rfl)) (pa_cons (pv 2) pa_nil))))))))
      (fun _ _ _ _ _ => pv 2)))), ?_⟩
  have hl : (cs.map V.int).length = cs.length := List.length_map _
  refine ⟨_, rfl, pl, cs, held, r, rfl, hl0, hcl, hhl, fun ph H1 ns s1 hm hns => ?_⟩
  refine ⟨_, rfl, pl, _, 0, .ref ac, rfl, rfl, sameT s1 hL, rfl, ac, _, rfl, .inr (sameT s1 hC), _, rfl, by omega, by omega, fun D0 nD => ?_⟩
  rw [hl, Int.toNat_natCast]
  refine lc_range (lo := 0) (n := cs.length) (fun i H' => Same H1 H' ∧ H' D0 = some (.lst (((upTo i).filter fun k => !heldB held r cs.length k && flankB cs k).map V.int))) ⟨same_put nD, upd_same⟩ ?_ ?_
  · rintro i H2 hi ⟨s2, e2⟩
    rw [Int.zero_add]
    have s12 : Same H H2 := s1.trans s2
    have nxt : ∀ b : Bool, (!heldB held r cs.length (i : Int) && flankB cs (i : Int)) = b → ((upTo (i + 1)).filter fun k => !heldB held r cs.length k && flankB cs k) = ((upTo i).filter fun k => !heldB held r cs.length k && flankB cs k) ++ (if b = true then [(i : Int)] else []) := by
      intro b hb
      rw [upTo_succ, List.filter_append, List.filter_cons, hb]
      rfl
    refine ⟨rfl, _, rfl, _, rfl, ph, _, rfl, .inl (s2.seq hns), rfl, flat_ints ns, _, rfl, ?_⟩
    have hin : inV (.int (i : Int)) (ns.map V.int) = heldB held r cs.length (i : Int) := by
      rw [in_ints]
      by_cases c : heldB held r cs.length (i : Int) = true
      · rw [c, decide_eq_true ((hm _).mpr c)]
      · rw [Bool.eq_false_iff.mpr c, decide_eq_false fun z => c ((hm _).mp z)]
    show if (!inV (.int (i : Int)) (ns.map V.int)) = true then _ else _
    rw [hin]
    refine ite2 (fun c => ?_) (fun c => ?_)
    · refine ⟨_, rfl, pl, _, 0, .ref ac, rfl, rfl, sameT s12 hL, rfl, _, rfl, ac, cs, (i : Int), rfl, sameT s12 hC, by omega, by omega, fun H3 s3 => ⟨_, rfl, ?_⟩⟩
      refine ite2 (fun c2 => ?_) (fun c2 => ?_)
      · refine ⟨_, rfl, _, s3 _ _ e2, ?_, same_in (s2.trans s3) nD, ?_⟩
        · rw [List.length_map]
          have z := List.length_filter_le (fun k => !heldB held r cs.length k && flankB cs k) (upTo i)
          rw [upTo_length] at z
          exact small1000 (by omega)
        · rw [upd_same, nxt true (by rw [c, c2]; rfl), if_pos rfl, List.map_append]
          rfl
      · refine ⟨s2.trans s3, ?_⟩
        rw [nxt false (by rw [Bool.eq_false_iff.mpr c2, Bool.and_false]), if_neg (by decide), List.append_nil]
        exact s3 _ _ e2
    · refine ⟨s2, ?_⟩
      rw [nxt false (by rw [Bool.eq_false_iff.mpr c, Bool.false_and]), if_neg (by decide), List.append_nil]
      exact e2
  · rintro H2 ⟨s2, e2⟩
    exact q D0 H2 (s1.trans s2) e2
def spSwings (K : PySem.W.Frag) : Sp := fun vs H Q _ => ∃ (pl : Addr) (cs held : List Int) (r : Bool), vs = [.ref pl] ∧ LineAt K H pl cs held r ∧ cs.length < 60 ∧ held.length < 60 ∧ ∀ H', Same H H' → Q (.bl (swingM cs held r)) H'
theorem scSwingsIn : FnScope ["line"] ["line"] (defScope dSwingsIn) := ⟨rfl, rfl, rfl, by decide +kernel, rfl, by decide +kernel, by decide +kernel⟩
theorem ok_swingsIn (D : Dn K mg "swings_in" dSwingsIn ["line"] f fd) (T : Txt mg) (G : Has P w K mg base "ready_in" ["line"] 3 (spReady K)) : Has P w K mg base "swings_in" ["line"] 4 (spSwings K) := by
  refine D.has (D.fn.ok scSwingsIn (fun vs H Q E h => ?_) (fun cdv A outer s H vs Q E hr h => ?_))
  · obtain ⟨pl, cs, held, r, rfl, _⟩ := h
    rfl
  obtain ⟨pl, cs, held, r, rfl, hl0, hcl, hhl, q⟩ := h
  obtain ⟨ac, ah, hL, hC, hT⟩ := id hl0
  refine ⟨_, pss_one (ps_ret (pe_and (pe_ix ix_tup (pv 0) pe_int (fun _ _ => rfl)) (pe_one (pe_cmpR op_eq (pe_callB call_len_seq (by rfl) T.len b_len (pa_cons (pe_has G hr (by rfl) (pa_cons (pv 0) pa_nil)) pa_nil))
    (pe_callB call_len_seq (by rfl) T.len b_len (pa_cons (pe_ix ix_tup (pv 0) pe_int (fun _ _ => rfl)) pa_nil)) (nomark _))))), ?_⟩
  refine ⟨_, rfl, pl, _, 2, .bl r, rfl, rfl, hL, rfl, r, rfl, ?_⟩
  cases r with
  | false => exact iteF (q H (Same.refl H))
  | true =>
    refine iteT ⟨_, rfl, pl, cs, held, true, rfl, hl0, hcl, hhl, fun p H1 s1 e1 => ?_⟩
    refine ⟨p, _, rfl, .inl (SqL.of e1), _, rfl, pl, _, 0, .ref ac, rfl, rfl, sameT s1 hL, rfl, ac, _, rfl, .inr (sameT s1 hC), rfl, ?_⟩
    have z := q H1 s1
    unfold swingM at z
    rw [Bool.true_and] at z
    rw [List.length_map, List.length_map]
    have d : decide (V.int ((readyM cs held true).length : Int) = V.int (cs.length : Int)) = decide ((readyM cs held true).length = cs.length) := decide_eq_decide.mpr ⟨fun e => by injection e with e; omega, fun e => by rw [e]⟩
    rw [d]
    exact z
/-- a line of the law's -/
def LineOk (K : PySem.W.Frag) (H : Hp) (pl : Addr) (cs held : List Int) (r : Bool) : Prop := LineAt K H pl cs held r ∧ Fits cs.length held r ∧ (∀ c ∈ cs, 0 ≤ c ∧ c ≤ 9) ∧ held.length < 60
theorem LineOk.same {H H' : Hp} {pl : Addr} {cs held : List Int} {r : Bool} (l : LineOk K H pl cs held r) (s : Same H H') : LineOk K H' pl cs held r := ⟨l.1.same s, l.2⟩
def spSwings2 (K : PySem.W.Frag) : Sp := fun vs H Q _ => ∃ (pl : Addr) (cs held : List Int) (r : Bool), vs = [.ref pl] ∧ LineOk K H pl cs held r ∧ ∀ H', Same H H' → Q (.bl (swingM cs held r)) H'
theorem scSwings : FnScope ["line"] ["line"] (defScope dSwings) := ⟨rfl, rfl, rfl, by decide +kernel, rfl, by decide +kernel, by decide +kernel⟩
theorem ok_swings (D : Dn K mg "swings" dSwings ["line"] f fd) (G1 : Has P w K mg base "need_line" ["line"] 3 (spNeedLine K)) (G2 : Has P w K mg base "swings_in" ["line"] 4 (spSwings K)) : Has P w K mg base "swings" ["line"] 5 (spSwings2 K) := by
  refine D.has (D.fn.ok scSwings (fun vs H Q E h => ?_) (fun cdv A outer s H vs Q E hr h => ?_))
  · obtain ⟨pl, cs, held, r, rfl, _⟩ := h
    rfl
  obtain ⟨pl, cs, held, r, rfl, hk, q⟩ := h
  obtain ⟨hl0, ft, cb, hhl⟩ := id hk
  have n7 := ft.n7
  refine ⟨_, pss_cons (ps_expr (pe_has G1 (hr.mono (by decide)) (by rfl) (pa_cons (pv 0) pa_nil))) (pss_one (ps_ret (pe_has G2 hr (by rfl) (pa_cons (pv 0) pa_nil)))), ?_⟩
  refine ⟨_, rfl, pl, cs, held, r, rfl, hl0, ft, cb, hhl, fun H1 s1 => ?_⟩
  exact ⟨_, rfl, pl, cs, held, r, rfl, hl0.same s1, by omega, hhl, fun H2 s2 => q H2 (s1.trans s2)⟩
def spNeedRest (K : PySem.W.Frag) : Sp := fun vs H Q _ => ∃ (pl : Addr) (cs held : List Int) (r : Bool), vs = [.ref pl] ∧ LineOk K H pl cs held r ∧ swingM cs held r = false ∧ ∀ H', Same H H' → Q .non H'
theorem scNeedRest : FnScope ["line"] ["line"] (defScope dNeedRest) := ⟨rfl, rfl, rfl, by decide +kernel, rfl, by decide +kernel, by decide +kernel⟩
theorem ok_needRest (D : Dn K mg "need_resting" dNeedRest ["line"] f fd) (G1 : Has P w K mg base "need_line" ["line"] 3 (spNeedLine K)) (G2 : Has P w K mg base "swings_in" ["line"] 4 (spSwings K)) : Has P w K mg base "need_resting" ["line"] 5 (spNeedRest K) := by
  refine D.has (D.fn.ok scNeedRest (fun vs H Q E h => ?_) (fun cdv A outer s H vs Q E hr h => ?_))
  · obtain ⟨pl, cs, held, r, rfl, _⟩ := h
    rfl
  obtain ⟨pl, cs, held, r, rfl, hk, sw, q⟩ := h
  obtain ⟨hl0, ft, cb, hhl⟩ := id hk
  have n7 := ft.n7
  refine ⟨_, pss_cons (ps_expr (pe_has G1 (hr.mono (by decide)) (by rfl) (pa_cons (pv 0) pa_nil))) (pss_one (ps_if (pt_val (pe_has G2 hr (by rfl) (pa_cons (pv 0) pa_nil))) pss_never pss_nil)), ?_⟩
  refine ⟨_, rfl, pl, cs, held, r, rfl, hl0, ft, cb, hhl, fun H1 s1 => ?_⟩
  refine ⟨_, rfl, pl, cs, held, r, rfl, hl0.same s1, by omega, hhl, fun H2 s2 => ⟨_, rfl, ?_⟩⟩
  rw [sw]
  exact iteF (q H2 (s1.trans s2))
end
end FT
end
section
set_option Elab.async false
set_option linter.all false
set_option maxRecDepth 100000
set_option maxHeartbeats 4000000
/-! FtD4: stretches_in, depths_in. -/
namespace FT
open PySem PySem.Spec L2
open PyProof.Rows hiding St
/-! ### the walk along a stretch -/
theorem chase_more {rd : List Int} {n x : Int} {f : Nat} (h : x ∈ rd) : chase rd n (f + 1) x = ((x + 1) % n) :: chase rd n f ((x + 1) % n) := by
  show (if x ∈ rd then _ else _) = _
  rw [if_pos h]
theorem chase_stop {rd : List Int} {n x : Int} {f : Nat} (h : x ∉ rd) : chase rd n f x = [] := by
  cases f with
  | zero => rfl
  | succ f =>
    show (if x ∈ rd then _ else _) = _
    rw [if_neg h]
theorem head_inj {m : List (List Int)} (hm : m.Pairwise fun a b => hd a < hd b ∨ hd b < hd a) {a b : List Int} (ha : a ∈ m) (hb : b ∈ m) (e : hd a = hd b) : a = b := by
  obtain ⟨i, hi, rfl⟩ := List.getElem_of_mem ha
  obtain ⟨j, hj, rfl⟩ := List.getElem_of_mem hb
  rcases Nat.lt_trichotomy i j with h | h | h
  · have := List.pairwise_iff_getElem.mp hm i j hi hj h
    omega
  · subst h; rfl
  · have := List.pairwise_iff_getElem.mp hm j i hj hi h
    omega
theorem mem_runs {rd : List Int} {n : Nat} {l : List Int} (h : l ∈ runsM rd n) : ∃ k ∈ rd, l = runM rd n k := by
  unfold runsM at h
  obtain ⟨k, hk, rfl⟩ := List.mem_map.mp h
  exact ⟨k, (List.mem_filter.mp hk).1, rfl⟩
theorem chase_bds {rd : List Int} {n : Int} (hn : 0 < n) : ∀ (f : Nat) (x y : Int), y ∈ chase rd n f x → 0 ≤ y ∧ y < n
  | 0, _, _, h => nomatch h
  | f + 1, x, y, h => by
    unfold chase at h
    split at h
    · rcases List.mem_cons.mp h with rfl | h
      · exact ⟨Int.emod_nonneg _ (by omega), Int.emod_lt_of_pos _ hn⟩
      · exact chase_bds hn f _ y h
    · cases h
theorem run_bds {rd : List Int} {n : Nat} {k y : Int} (hn : 0 < n) (h0 : 0 ≤ k) (h1 : k < (n : Int)) (h : y ∈ runM rd n k) : 0 ≤ y ∧ y < (n : Int) := by
  unfold runM at h
  rcases List.mem_cons.mp h with rfl | h
  · exact ⟨Int.emod_nonneg _ (by omega), Int.emod_lt_of_pos _ (by omega)⟩
  · rcases List.mem_cons.mp h with rfl | h
    · exact ⟨h0, h1⟩
    · exact chase_bds (by omega) n k y h
theorem stretch_mem {rd : List Int} {n : Nat} {l : List Int} (h : l ∈ stretchM rd n) : l ∈ runsM rd n := (List.mergeSort_perm _ _).mem_iff.mp h
theorem run_len (rd : List Int) (n : Nat) (k : Int) : 2 ≤ (runM rd n k).length ∧ (runM rd n k).length ≤ n + 2 := by
  unfold runM
  have := chase_len rd n n k
  rw [List.length_cons, List.length_cons]
  omega
section
variable {P : Program} {w : World} {K : PySem.W.Frag} {mg : Str → Option Value} {base : Heap} {f : Addr} {fd : FuncData}
def spStretches (K : PySem.W.Frag) : Sp := fun vs H Q _ => ∃ (pl : Addr) (cs held : List Int) (r : Bool), vs = [.ref pl] ∧ LineAt K H pl cs held r ∧ 1 ≤ cs.length ∧ cs.length < 60 ∧ held.length < 60 ∧
  ∀ p H' (ys : List (Addr × List Int)), Same H H' → (∀ x ∈ ys, SqT K H' x.1 (x.2.map V.int)) → ys.map (·.2) = stretchM (readyM cs held r) cs.length → H' p = some (.lst (ys.map fun x => V.ref x.1)) → Q (.ref p) H'
theorem scStretches : FnScope ["line", "ready", "many", "found", "k", "here"] ["line"] (defScope dStretches) := ⟨rfl, rfl, rfl, by decide +kernel, rfl, by decide +kernel, by decide +kernel⟩
theorem ok_stretches (D : Dn K mg "stretches_in" dStretches ["line"] f fd) (T : Txt mg) (G : Has P w K mg base "ready_in" ["line"] 3 (spReady K)) : Has P w K mg base "stretches_in" ["line"] 4 (spStretches K) := by
  refine D.has (D.fn.ok scStretches (fun vs H Q E h => ?_) (fun cdv A outer s H vs Q E hr h => ?_))
  · obtain ⟨pl, cs, held, r, rfl, _⟩ := h
    rfl
  obtain ⟨pl, cs, held, r, rfl, hl0, hc1, hcl, hhl, q⟩ := h
  obtain ⟨ac, ah, hL, hC, hT⟩ := id hl0
  have nd := scStretches.nd
  refine ⟨_, pss_cons (ps_par (i := 1) (j := 2) (by rfl) nd rfl rfl (by decide) rfl rfl (pa_cons (pe_has G hr (by rfl) (pa_cons (pv 0) pa_nil)) (pa_cons (pe_callB call_len_seq (by rfl) T.len b_len (pa_cons (pe_ix ix_tup (pv 0) pe_int (fun _ _ => rfl)) pa_nil)) pa_nil)) (by rfl))
    (pss_cons (ps_set (i := 3) nd rfl (Or.inl rfl) (pe_lst pa_nil))
    (pss_cons (ps_for PassesOwn.never rfl (pi_list (pv 1)) (pg_name (i := 4) nd rfl (Or.inl rfl))
      (pss_one (ps_if (pt_cmpR op_notIn_seq (pe_op op_mod (pe_op op_sub (pv 4) pe_int) (pv 2)) (pv 1) (by rfl))
        (pss_cons (ps_set (i := 5) nd rfl (Or.inl rfl) (pe_lst (pa_cons (pe_op op_mod (pe_op op_sub (pv 4) pe_int) (pv 2)) (pa_cons (pv 4) pa_nil))))
        (pss_cons (ps_while PassesOwn.never (pt_cmpR op_in_seq (pe_ix ix_list (pv 5) (pe_un un_neg pe_int) (fun _ _ => rfl)) (pv 1) (by rfl))
          (pss_one (ps_expr (pe_bm PySem.F.plainAttrs_list PySem.F.slot_list_append PySem.F.type_list_append mt_append (pv 5) (pa_cons (pe_op op_mod (pe_op op_add (pe_ix ix_list (pv 5) (pe_un un_neg pe_int) (fun _ _ => rfl)) pe_int) (pv 2)) pa_nil)))))
        (pss_one (ps_expr (pe_bm PySem.F.plainAttrs_list PySem.F.slot_list_append PySem.F.type_list_append mt_append (pv 3) (pa_cons (pe_callTy call_tuple_of (by rfl) T.tuple b_tuple (pa_cons (pv 5) pa_nil)) pa_nil)))))) pss_nil)))
    (pss_one (ps_ret (pe_callB cr_sortH (by rfl) T.sorted b_sorted (pa_cons (pv 3) pa_nil)))))), ?_⟩
  have hl : (cs.map V.int).length = cs.length := List.length_map _
  generalize hrd : readyM cs held r = rd at q
  generalize hn : cs.length = n at q hc1 hcl hl
  have rdb : ∀ k ∈ rd, 0 ≤ k ∧ k < (n : Int) := fun k hk => by
    rw [← hrd] at hk
    rw [← hn]
    exact mem_ready hk
  have rdl : rd.length ≤ n := by
    rw [← hrd, ← hn]
    exact ready_length cs held r
  refine ⟨_, rfl, pl, cs, held, r, rfl, hl0, by omega, hhl, fun pr H1 s1 er => ?_⟩
  rw [hrd] at er
  refine ⟨_, rfl, pl, _, 0, .ref ac, rfl, rfl, sameT s1 hL, rfl, ac, _, rfl, .inr (sameT s1 hC), _, _, rfl, ?_⟩
  rw [hl]
  refine ⟨Nat.zero_le _, fun pf nf => ?_⟩
  have seqR : ∀ {H' : Hp}, Same H1 H' → SqL K H' pr (rd.map V.int) := fun s => SqL.of (s _ _ er)
  refine ⟨_, rfl, pr, rfl, ⟨_, seqR (same_put nf)⟩, for_list (K := K) (a := pr) (xs := rd.map V.int) (fun i σ H' => ∃ (as : List (Addr × List Int)) (y4 y5 : Option V), σ = [some (.ref pl), some (.ref pr), some (.int (n : Int)), some (.ref pf), y4, y5] ∧
      Same H1 H' ∧ H' pf = some (.lst (as.map fun x => V.ref x.1)) ∧ (∀ x ∈ as, SqT K H' x.1 (x.2.map V.int)) ∧ as.map (·.2) = ((rd.take i).filter (startB rd n)).map (runM rd n))
    ⟨[], none, none, rfl, same_put nf, upd_same, (fun x hx => nomatch hx), rfl⟩ (fun i σ H' _ ⟨_, _, _, _, s, _⟩ => seqR s) ?_ ?_⟩
  · rintro i x σ H2 hx ⟨as, y4, y5, rfl, s2, ef, ht, hm⟩
    obtain ⟨k, rfl, hk⟩ := int_at hx
    obtain ⟨k0, k1⟩ := rdb k (List.mem_of_getElem? hk)
    have asl : as.length ≤ n := by
      have z := congrArg List.length hm
      rw [List.length_map, List.length_map] at z
      have z1 := List.length_filter_le (startB rd n) (rd.take i)
      have z2 := List.length_take_le i rd
      have z3 : (rd.take i).length ≤ rd.length := by rw [List.length_take]; exact Nat.min_le_right _ _
      omega
    have nxt : ∀ b : Bool, startB rd n k = b → (rd.take (i + 1)).filter (startB rd n) = (rd.take i).filter (startB rd n) ++ (if b = true then [k] else []) := by
      intro b hb
      rw [List.take_add_one, hk, List.filter_append]
      show _ ++ ([k].filter (startB rd n)) = _
      rw [List.filter_cons, hb]
      rfl
    refine ⟨_, rfl, k, 1, rfl, rfl, _, rfl, _, (n : Int), rfl, rfl, (by show (0 : Int) < (n : Int); omega), _, rfl, pr, _, rfl, .inl (seqR s2), rfl, flat_ints rd, _, rfl, ?_⟩
    show if (!inV (.int ((k - 1) % (n : Int))) (rd.map V.int)) = true then _ else _
    rw [in_ints]
    refine ite2 (fun c => ?_) (fun c => ?_)
    · -- a stretch begins
      have cst : startB rd n k = true := c
      have cn : (k - 1) % (n : Int) ∉ rd := fun z => by
        rw [decide_eq_true z] at c
        cases c
      refine ⟨_, rfl, k, 1, rfl, rfl, _, rfl, _, (n : Int), rfl, rfl, (by show (0 : Int) < (n : Int); omega), _, rfl, (by show 2 ≤ sizeLine; decide), fun ph nh => ?_⟩
      refine ⟨fun m σ H' => ∃ (hs : List Int) (last : Int) (j : Nat), m = n - j ∧ σ = [some (.ref pl), some (.ref pr), some (.int (n : Int)), some (.ref pf), some (.int k), some (.ref ph)] ∧ Same H2 H' ∧
          H' ph = some (.lst ((hs ++ [last]).map V.int)) ∧ j + 1 ≤ n ∧ last = (k + (j : Int)) % (n : Int) ∧ hs ++ [last] ++ chase rd n (n - j) last = runM rd n k,
        ⟨n, [(k - 1) % (n : Int)], k, 0, rfl, rfl, same_put nh, upd_same, by omega, ?_, rfl⟩, ?_⟩
      · rw [show k + ((0 : Nat) : Int) = k by omega]
        exact (Int.emod_eq_of_lt k0 k1).symm
      rintro m σ H3 ⟨hs, last, j, rfl, rfl, s3, eh, hj, hla, hch⟩
      have atl : atI ((hs ++ [last]).map V.int) (-1) = some (.int last) := by
        rw [List.map_append]
        exact atI_last _ _
      refine ⟨_, rfl, 1, rfl, ph, _, -1, _, rfl, rfl, SqL.of eh, atl, _, rfl, pr, _, rfl, .inl (seqR (s2.trans s3)), rfl, flat_ints rd, _, rfl, ?_⟩
      show if inV (.int last) (rd.map V.int) = true then _ else _
      rw [in_ints]
      refine ite2 (fun c2 => ?_) (fun c2 => ?_)
      · have hin : last ∈ rd := of_decide_eq_true c2
        have jlt : j + 1 < n := by
          by_cases e : j + 1 = n
          · exfalso
            refine cn ?_
            have e1 : k + (j : Int) = (k - 1) + (n : Int) := by omega
            rw [hla, e1, Int.add_emod_right] at hin
            exact hin
          · omega
        have hlen : (hs ++ [last]).length ≤ n + 2 := by
          have z := congrArg List.length hch
          rw [List.length_append] at z
          have := (run_len rd n k).2
          omega
        refine ⟨fun σ' H' => ∃ (hs : List Int) (last : Int) (j' : Nat), j' = j + 1 ∧ σ' = [some (.ref pl), some (.ref pr), some (.int (n : Int)), some (.ref pf), some (.int k), some (.ref ph)] ∧ Same H2 H' ∧
          H' ph = some (.lst ((hs ++ [last]).map V.int)) ∧ j' + 1 ≤ n ∧ last = (k + (j' : Int)) % (n : Int) ∧ hs ++ [last] ++ chase rd n (n - j') last = runM rd n k, ?_, ?_⟩
        · rintro σ' H' ⟨hs', last', j', rfl, e1, e2, e3, e4, e5, e6⟩
          exact ⟨n - (j + 1), by omega, hs', last', j + 1, rfl, e1, e2, e3, e4, e5, e6⟩
        · refine ⟨_, rfl, .inl ⟨rfl, _, SqL.of eh⟩, _, rfl, 1, rfl, ph, _, -1, _, rfl, rfl, SqL.of eh, atl, last, 1, rfl, rfl, _, rfl, _, (n : Int), rfl, rfl, (by show (0 : Int) < (n : Int); omega), ph, _, _, rfl, rfl, eh, ?_, ?_⟩
          · rw [List.length_map]
            exact small1000 (by omega)
          · refine ⟨hs ++ [last], (last + 1) % (n : Int), j + 1, rfl, rfl, same_in s3 nh, ?_, by omega, ?_, ?_⟩
            · rw [upd_same, List.map_append (l₁ := hs ++ [last])]
              rfl
            · rw [hla, Int.emod_add_emod]
              congr 1
              omega
            · rw [show n - j = (n - (j + 1)) + 1 by omega, chase_more hin] at hch
              rw [← hch]
              simp
      · have hout : last ∉ rd := fun z => c2 (decide_eq_true z)
        rw [chase_stop hout, List.append_nil] at hch
        have s23 := s2.trans s3
        have nphf : ph ≠ pf := fun e => by
          rw [e, ef] at nh
          cases nh
        refine ⟨_, rfl, .inl ⟨rfl, _, SqL.of (s3 _ _ ef)⟩, _, rfl, ph, _, rfl, .inl ⟨SqL.of eh, fun t nt => ?_⟩⟩
        rw [hch]
        have s4 : Same H3 (upd H3 t (.tup ((runM rd n k).map V.int))) := same_put nt
        have ef4 := s4 _ _ (s3 _ _ ef)
        refine ⟨pf, _, _, rfl, rfl, ef4, ?_, ?_⟩
        · rw [List.length_map]
          exact small1000 (by omega)
        · refine ⟨as ++ [(t, runM rd n k)], _, _, rfl, ?_, ?_, fun x hx => ?_, ?_⟩
          · exact same_in (s23.trans s4) nf
          · rw [upd_same, List.map_append]
            rfl
          · have keep : ∀ {a : Addr} {xs : List V}, SqT K (upd H3 t (.tup ((runM rd n k).map V.int))) a xs → SqT K (upd (upd H3 t (.tup ((runM rd n k).map V.int))) pf (.lst ((as.map fun x => V.ref x.1) ++ [V.ref t]))) a xs := by
              rintro a xs ((h | ⟨o, h⟩) | h)
              · exact .inl (.inl (by rw [upd_ne (ne_of h ef4 (fun z => nomatch z))]; exact h))
              · exact .inl (.inr ⟨o, by rw [upd_ne (ne_of h ef4 (fun z => nomatch z))]; exact h⟩)
              · exact .inr h
            rcases List.mem_append.mp hx with hx | hx
            · exact keep (sameT (s3.trans s4) (ht x hx))
            · rw [List.mem_singleton.mp hx]
              exact keep (SqT.of upd_same)
          · rw [List.map_append, hm, nxt true cst, if_pos rfl, List.map_append]
            rfl
    · have cst : startB rd n k = false := Bool.eq_false_iff.mpr c
      refine ⟨as, _, _, rfl, s2, ef, ht, ?_⟩
      rw [nxt false cst, if_neg (by decide), List.append_nil]
      exact hm
  · rintro σ H2 ⟨as, y4, y5, rfl, s2, ef, ht, hm⟩
    rw [List.length_map, List.take_of_length_le (Nat.le_refl _)] at hm
    have hm' : as.map (·.2) = runsM rd n := hm
    have heads : (runsM rd n).Pairwise fun a b => hd a < hd b ∨ hd b < hd a := by
      rw [← hrd, ← hn]
      exact runs_heads
    have asl : as.length ≤ n := by
      have z := congrArg List.length hm
      rw [List.length_map, List.length_map] at z
      have z1 := List.length_filter_le (startB rd n) rd
      omega
    have inr : ∀ x ∈ as, x.2 ∈ runsM rd n := fun x hx => by
      rw [← hm']
      exact List.mem_map.mpr ⟨x, hx, rfl⟩
    refine ⟨_, rfl, pf, as, rfl, SqL.of ef, by omega, fun x hx => ⟨?_, ht x hx⟩, fun x hx y hy e => head_inj heads (inr x hx) (inr y hy) e, fun ys p perm asc np => ?_⟩
    · obtain ⟨k, _, e⟩ := mem_runs (inr x hx)
      rw [e]
      exact fun z => nomatch z
    · refine q p _ ys (s1.trans (s2.trans (same_put np))) (fun x hx => sameT (same_put np) (ht x (perm.mem_iff.mp hx))) ?_ upd_same
      refine sort_unique ?_ ?_ heads
      · rw [← hm']
        exact perm.map _
      · rw [List.pairwise_map]
        exact asc
end
end FT
end
section
set_option Elab.async false
set_option linter.all false
set_option maxRecDepth 100000
set_option maxHeartbeats 4000000
/-! FtD5: depths_in, turns_in, cells_after, rest_cells, with_cells, rest, difference. -/
namespace FT
open PySem PySem.Spec L2
open PyProof.Rows hiding St
theorem ix_in {n : Nat} {k : Int} (h0 : 0 ≤ k) (h1 : k < (n : Int)) : ixN n k = some k.toNat := by
  unfold ixN
  rw [if_pos h0, if_pos h1]
theorem flat_rep (x : V) : ∀ n : Nat, (List.replicate n [x]).flatten = List.replicate n x
  | 0 => rfl
  | n + 1 => by
    rw [List.replicate_succ, List.flatten_cons, flat_rep x n, List.replicate_succ]
    rfl
theorem getI_mem {l : List Int} {k : Int} (h0 : 0 ≤ k) (h1 : k < (l.length : Int)) : getI l k ∈ l := getD_mem (by omega)
section
variable {P : Program} {w : World} {K : PySem.W.Frag} {mg : Str → Option Value} {base : Heap} {f : Addr} {fd : FuncData}
def spDepths (K : PySem.W.Frag) : Sp := fun vs H Q _ => ∃ (pl : Addr) (cs held : List Int) (r : Bool), vs = [.ref pl] ∧ LineAt K H pl cs held r ∧ 1 ≤ cs.length ∧ cs.length < 60 ∧ held.length < 60 ∧
  ∀ p H', Same H H' → H' p = some (.lst ((depthM cs held r).map V.int)) → Q (.ref p) H'
theorem scDepths : FnScope ["line", "found", "one", "at"] ["line"] (defScope dDepths) := ⟨rfl, rfl, rfl, by decide +kernel, rfl, by decide +kernel, by decide +kernel⟩
theorem ok_depths (D : Dn K mg "depths_in" dDepths ["line"] f fd) (T : Txt mg) (G : Has P w K mg base "stretches_in" ["line"] 4 (spStretches K)) : Has P w K mg base "depths_in" ["line"] 5 (spDepths K) := by
  refine D.has (D.fn.ok scDepths (fun vs H Q E h => ?_) (fun cdv A outer s H vs Q E hr h => ?_))
  · obtain ⟨pl, cs, held, r, rfl, _⟩ := h
    rfl
  obtain ⟨pl, cs, held, r, rfl, hl0, hc1, hcl, hhl, q⟩ := h
  obtain ⟨ac, ah, hL, hC, hT⟩ := id hl0
  have nd := scDepths.nd
  refine ⟨_, pss_cons (ps_set (i := 1) nd rfl (Or.inl rfl) (pe_op op_rep (pe_lst (pa_cons pe_int pa_nil)) (pe_callB call_len_seq (by rfl) T.len b_len (pa_cons (pe_ix ix_tup (pv 0) pe_int (fun _ _ => rfl)) pa_nil))))
    (pss_cons (ps_for PassesOwn.never rfl (pi_list (pe_has G hr (by rfl) (pa_cons (pv 0) pa_nil))) (pg_name (i := 2) nd rfl (Or.inl rfl))
      (pss_one (ps_for PassesOwn.never rfl (pi_range2 (by rfl) T.range (pa_cons pe_int (pa_cons (pe_op op_sub (pe_callB call_len_seq (by rfl) T.len b_len (pa_cons (pv 2) pa_nil)) pe_int) pa_nil))) (pg_name (i := 3) nd rfl (Or.inl rfl))
        (pss_one (ps_asg (pe_callB (call_min2 rfl) (by rfl) T.min b_min (pa_cons (pv 3) (pa_cons (pe_op op_sub (pe_op op_sub (pe_callB call_len_seq (by rfl) T.len b_len (pa_cons (pv 2) pa_nil)) pe_int) (pv 3)) pa_nil)))
          (pg_sub (pv 1) (pe_ix ix_tup (pv 2) (pv 3) (fun _ _ => rfl)) set_list))))))
    (pss_one (ps_ret (pv 1)))), ?_⟩
  have hl : (cs.map V.int).length = cs.length := List.length_map _
  refine ⟨(by show 1 ≤ sizeLine; decide), fun p1 n1 => ?_⟩
  have s1 : Same H (upd H p1 (.lst [.int 0])) := same_put n1
  refine ⟨_, rfl, pl, _, 0, .ref ac, rfl, rfl, sameT s1 hL, rfl, ac, _, rfl, .inr (sameT s1 hC), p1, _, _, rfl, rfl, upd_same, ?_, ?_, ?_, fun pf nf => ?_⟩
  · rw [hl]; omega
  · rw [hl]; omega
  · rw [hl, Int.toNat_natCast, sizeLine_eq]
    show 1 * cs.length ≤ 16777216
    omega
  rw [hl, Int.toNat_natCast, flat_rep]
  generalize hH2 : upd (upd H p1 (.lst [.int 0])) pf (.lst (List.replicate cs.length (.int 0))) = H2
  have s2 : Same H H2 := by
    rw [← hH2]
    exact s1.trans (same_put nf)
  have nf0 : H pf = none := s1.free nf
  have ef : H2 pf = some (.lst ((List.replicate cs.length (0 : Int)).map V.int)) := by
    rw [← hH2, upd_same, List.map_replicate]
  refine ⟨_, rfl, pl, cs, held, r, rfl, hl0.same s2, hc1, hcl, hhl, fun ps H3 ys s3 hys hst est => ?_⟩
  have bds : ∀ x ∈ ys, ∀ y ∈ x.2, 0 ≤ y ∧ y < (cs.length : Int) := fun x hx y hy => by
    have z : x.2 ∈ ys.map (·.2) := List.mem_map.mpr ⟨x, hx, rfl⟩
    rw [hst] at z
    obtain ⟨k, hk, e⟩ := mem_runs (stretch_mem z)
    obtain ⟨k0, k1⟩ := mem_ready hk
    rw [e] at hy
    exact run_bds (by omega) k0 k1 hy
  have lens : ∀ x ∈ ys, 2 ≤ x.2.length ∧ x.2.length ≤ cs.length + 2 := fun x hx => by
    have z : x.2 ∈ ys.map (·.2) := List.mem_map.mpr ⟨x, hx, rfl⟩
    rw [hst] at z
    obtain ⟨k, hk, e⟩ := mem_runs (stretch_mem z)
    rw [e]
    exact run_len _ _ _
  -- what stands through the loops: all but found
  have keepT : ∀ {H' : Hp} {a : Addr} {xs : List V}, (∀ b o, b ≠ pf → H3 b = some o → H' b = some o) → SqT K H3 a xs → SqT K H' a xs := by
    rintro H' a xs k ((h | ⟨o, h⟩) | h)
    · exact .inl (.inl (k _ _ (ne_of h (s3 _ _ ef) (fun z => nomatch z)) h))
    · exact .inl (.inr ⟨o, k _ _ (ne_of h (s3 _ _ ef) (fun z => nomatch z)) h⟩)
    · exact .inr h
  have npf : ps ≠ pf := fun e => by
    rw [e, s3 _ _ ef] at est
    injection est with est
    injection est with est
    have z := congrArg List.length est
    cases ys with
    | nil =>
      simp at z
      rw [z] at hc1
      exact absurd hc1 (by decide)
    | cons y ys =>
      obtain ⟨n, en⟩ : ∃ n, cs.length = n + 1 := ⟨cs.length - 1, by omega⟩
      rw [en, List.replicate_succ, List.map_cons, List.map_cons] at est
      injection est with est _
      cases est
  refine ⟨ps, rfl, ⟨_, SqL.of est⟩, for_list (K := K) (a := ps) (xs := ys.map fun x => V.ref x.1) (fun i σ H' => ∃ y2 y3, σ = [some (.ref pl), some (.ref pf), y2, y3] ∧ (∀ b o, b ≠ pf → H3 b = some o → H' b = some o) ∧
      H' pf = some (.lst (((((ys.map (·.2)).take i).foldl depthOne (List.replicate cs.length 0)).map V.int))))
    ⟨none, none, rfl, (fun b o _ e => e), s3 _ _ ef⟩ (fun i σ H' _ ⟨_, _, _, k, _⟩ => SqL.of (k _ _ npf est)) ?_ ?_⟩
  · rintro i x σ H4 hx ⟨y2, y3, rfl, k4, ef4⟩
    obtain ⟨z, hz, rfl⟩ : ∃ z : Addr × List Int, ys[i]? = some z ∧ x = .ref z.1 := by
      rw [List.getElem?_map] at hx
      obtain ⟨z, e1, e2⟩ := Option.map_eq_some_iff.mp hx
      exact ⟨z, e1, e2.symm⟩
    have mz := List.mem_of_getElem? hz
    obtain ⟨l2, l3⟩ := lens z mz
    have hT4 : SqT K H4 z.1 (z.2.map V.int) := keepT k4 (hys z mz)
    have zl : (z.2.map V.int).length = z.2.length := List.length_map _
    have next : ((ys.map (·.2)).take (i + 1)).foldl depthOne (List.replicate cs.length 0) = depthOne (((ys.map (·.2)).take i).foldl depthOne (List.replicate cs.length 0)) z.2 := by
      rw [List.take_add_one, List.getElem?_map, hz, List.foldl_append]
      rfl
    generalize hg : ((ys.map (·.2)).take i).foldl depthOne (List.replicate cs.length 0) = g at ef4 next
    have gl : g.length = cs.length := by
      rw [← hg, fold2_length, List.length_replicate]
    refine ⟨_, rfl, z.1, _, rfl, .inr hT4, _, 1, rfl, rfl, 1, _, rfl, ⟨by omega, by omega, ?_, ?_⟩, ?_⟩
    · rw [zl]; omega
    · rw [zl]; omega
    rw [zl]
    have ez : ((z.2.length : Int) - 1 - 1).toNat = z.2.length - 2 := by omega
    rw [ez]
    refine for_range (lo := 1) (n := z.2.length - 2) (fun j σ H' => ∃ y3, σ = [some (.ref pl), some (.ref pf), some (.ref z.1), y3] ∧ (∀ b o, b ≠ pf → H3 b = some o → H' b = some o) ∧ H' pf = some (.lst (((List.range j).foldl (depth1 z.2) g).map V.int)))
      ⟨_, rfl, k4, ef4⟩ ?_ ?_
    · rintro j σ H5 hj ⟨y3, rfl, k5, ef5⟩
      have hT5 : SqT K H5 z.1 (z.2.map V.int) := keepT k5 (hys z mz)
      refine ⟨_, rfl, _, rfl, z.1, _, rfl, .inr hT5, _, 1, rfl, rfl, _, rfl, _, _, rfl, rfl, _, _, rfl, ?_⟩
      have at0 : (0 : Int) ≤ 1 + (j : Int) := by omega
      have at1 : (1 : Int) + (j : Int) < (z.2.length : Int) := by omega
      obtain ⟨b0, b1⟩ := bds z mz (getI z.2 (1 + (j : Int))) (getI_mem at0 at1)
      refine ⟨_, rfl, _, rfl, _, rfl, z.1, _, _, _, rfl, rfl, hT5, at_int at0 at1, pf, _, _, _, rfl, rfl, ef5, ix_in b0 ?_, _, rfl, fun b o hb e => ?_, ?_⟩
      · rw [List.length_map, fold1_length, gl]
        exact b1
      · rw [upd_ne hb]
        exact k5 b o hb e
      · rw [upd_same, zl, List.range_succ, List.foldl_append]
        show some (HO.lst _) = some (HO.lst ((depth1 z.2 ((List.range j).foldl (depth1 z.2) g) j).map V.int))
        unfold depth1
        rw [List.map_set, show (1 : Int) + (j : Int) = (j : Int) + 1 by omega]
        rfl
    · rintro σ H5 ⟨y3, rfl, k5, ef5⟩
      exact ⟨_, _, rfl, k5, by rw [next]; exact ef5⟩
  · rintro σ H4 ⟨y2, y3, rfl, k4, ef4⟩
    refine ⟨_, rfl, q pf H4 (fun b o e => ?_) ?_⟩
    · exact k4 b o (ne_of_none e nf0) (s3 _ _ (s2 _ _ e))
    · rw [List.length_map, List.take_of_length_le (by rw [List.length_map]; exact Nat.le_refl _), hst] at ef4
      exact ef4
def spTurns (K : PySem.W.Frag) : Sp := fun vs H Q _ => ∃ (pl : Addr) (cs held : List Int) (r : Bool) (m : Int), vs = [.ref pl, .int m] ∧ LineAt K H pl cs held r ∧ 1 ≤ cs.length ∧ cs.length < 60 ∧ held.length < 60 ∧
  ∀ p H', Same H H' → H' p = some (.lst ((turnsM cs held r m).map V.int)) → Q (.ref p) H'
theorem scTurns : FnScope ["line", "many", "depth"] ["line", "many"] (defScope dTurns) := ⟨rfl, rfl, rfl, by decide +kernel, rfl, by decide +kernel, by decide +kernel⟩
theorem ok_turns (D : Dn K mg "turns_in" dTurns ["line", "many"] f fd) (T : Txt mg) (G1 : Has P w K mg base "swings_in" ["line"] 4 (spSwings K)) (G2 : Has P w K mg base "depths_in" ["line"] 5 (spDepths K)) :
    Has P w K mg base "turns_in" ["line", "many"] 6 (spTurns K) := by
  refine D.has (D.fn.ok scTurns (fun vs H Q E h => ?_) (fun cdv A outer s H vs Q E hr h => ?_))
  · obtain ⟨pl, cs, held, r, m, rfl, _⟩ := h
    rfl
  obtain ⟨pl, cs, held, r, m, rfl, hl0, hc1, hcl, hhl, q⟩ := h
  obtain ⟨ac, ah, hL, hC, hT⟩ := id hl0
  have nd := scTurns.nd
  refine ⟨_, pss_cons (ps_if (pt_val (pe_has G1 (hr.mono (by decide)) (by rfl) (pa_cons (pv 0) pa_nil))) (pss_one (ps_ret (pe_op op_rep (pe_lst (pa_cons (pv 1) pa_nil)) (pe_callB call_len_seq (by rfl) T.len b_len (pa_cons (pe_ix ix_tup (pv 0) pe_int (fun _ _ => rfl)) pa_nil))))) pss_nil)
    (pss_one (ps_ret (pe_lc (own := [("depth", 2)]) (g := gName 2) (by rfl) nd (pi_list (pe_has G2 hr (by rfl) (pa_cons (pv 0) pa_nil))) (blkOk_by (own := [("depth", 2)]) (N := ["line", "many", "depth"]) (sc := defScope dTurns) (by decide +kernel))
      (fun _ _ _ _ _ => pg_name (i := 2) nd rfl (Or.inl rfl)) (fun _ _ _ _ _ => pts_nil) (fun _ _ _ _ _ => pe_callB (call_min2 rfl) (by rfl) T.min b_min (pa_cons (pv 1) (pa_cons (pv 2) pa_nil)))))), ?_⟩
  have hl : (cs.map V.int).length = cs.length := List.length_map _
  refine ⟨_, rfl, pl, cs, held, r, rfl, hl0, hcl, hhl, fun H1 s1 => ⟨_, rfl, ite2 (fun c => ?_) (fun c => ?_)⟩⟩
  · refine ⟨_, rfl, (by show 1 ≤ sizeLine; decide), fun p1 n1 => ?_⟩
    have s2 : Same H1 (upd H1 p1 (.lst [.int m])) := same_put n1
    have s12 := s1.trans s2
    refine ⟨_, rfl, pl, _, 0, .ref ac, rfl, rfl, sameT s12 hL, rfl, ac, _, rfl, .inr (sameT s12 hC), p1, _, _, rfl, rfl, upd_same, ?_, ?_, ?_, fun pf nf => ?_⟩
    · rw [hl]; omega
    · rw [hl]; omega
    · rw [hl, Int.toNat_natCast, sizeLine_eq]
      show 1 * cs.length ≤ 16777216
      omega
    · rw [hl, Int.toNat_natCast, flat_rep]
      refine q pf _ (s12.trans (same_put nf)) ?_
      rw [upd_same]
      unfold turnsM
      rw [if_pos c, List.map_replicate]
  · refine ⟨_, rfl, pl, cs, held, r, rfl, hl0.same s1, hc1, hcl, hhl, fun pd H2 s2 ed => ?_⟩
    refine ⟨pd, rfl, ⟨_, SqL.of ed⟩, fun D0 nD => ?_⟩
    refine lc_list (K := K) (a := pd) (xs := (depthM cs held r).map V.int) (fun i H' => Same H2 H' ∧ H' D0 = some (.lst ((((depthM cs held r).take i).map (minI m)).map V.int))) ⟨same_put nD, upd_same⟩ (fun i H' _ h => SqL.of (h.1 _ _ ed)) ?_ ?_
    · rintro i x H3 hx ⟨s3, e3⟩
      obtain ⟨d, rfl, hd⟩ := int_at hx
      refine ⟨rfl, _, rfl, _, rfl, m, d, rfl, _, e3, ?_, same_in s3 nD, ?_⟩
      · rw [List.length_map, List.length_map, List.length_take, depth_length]
        exact small1000 (by omega)
      · rw [upd_same, List.take_add_one, hd, List.map_append, List.map_append]
        rfl
    · rintro H3 ⟨s3, e3⟩
      refine q D0 H3 (s1.trans (s2.trans s3)) ?_
      rw [List.length_map, List.take_of_length_le (Nat.le_refl _)] at e3
      rw [e3]
      unfold turnsM
      rw [if_neg c]
def spRestC (K : PySem.W.Frag) : Sp := fun vs H Q _ => ∃ (pl : Addr) (cs held : List Int) (r : Bool), vs = [.ref pl] ∧ LineAt K H pl cs held r ∧ 1 ≤ cs.length ∧ cs.length < 60 ∧ held.length < 60 ∧
  ∀ p H', Same H H' → H' p = some (.lst ((restM cs held r).map V.int)) → Q (.ref p) H'
def spAfter (K : PySem.W.Frag) : Sp := fun vs H Q _ => ∃ (pl : Addr) (cs held : List Int) (r : Bool), vs = [.ref pl, .int (cs.length : Int)] ∧ LineAt K H pl cs held r ∧ 1 ≤ cs.length ∧ cs.length < 60 ∧ held.length < 60 ∧
  ∀ p H', Same H H' → H' p = some (.lst ((restM cs held r).map V.int)) → Q (.ref p) H'
theorem at_prev {cs : List Int} {k : Nat} (h : k < cs.length) : atI (cs.map V.int) ((k : Int) - 1) = some (.int (prevI cs k)) := by
  unfold prevI
  by_cases e : k = 0
  · subst e
    rw [if_pos rfl]
    have z : cs.map V.int = cs.dropLast.map V.int ++ [V.int (cs.getLast (by intro e; rw [e] at h; exact absurd h (by decide)))] := by
      rw [← List.map_singleton, ← List.map_append, List.dropLast_concat_getLast]
    have g : cs.getD (cs.length - 1) 0 = cs.getLast (by intro e; rw [e] at h; exact absurd h (by decide)) := by
      rw [List.getLast_eq_getElem, List.getD_eq_getElem?_getD, List.getElem?_eq_getElem (by omega)]
      rfl
    rw [g, z]
    exact atI_last _ _
  · rw [if_neg e]
    have z := at_int (ns := cs) (k := (k : Int) - 1) (by omega) (by omega)
    rw [z]
    unfold getI
    rw [show ((k : Int) - 1).toNat = k - 1 by omega]
theorem scAfter : FnScope ["line", "many", "cells", "k", "count"] ["line", "many"] (defScope dAfter) := ⟨rfl, rfl, rfl, by decide +kernel, rfl, by decide +kernel, by decide +kernel⟩
theorem ok_after (D : Dn K mg "cells_after" dAfter ["line", "many"] f fd) (T : Txt mg) (G : Has P w K mg base "turns_in" ["line", "many"] 6 (spTurns K)) : Has P w K mg base "cells_after" ["line", "many"] 7 (spAfter K) := by
  refine D.has (D.fn.ok scAfter (fun vs H Q E h => ?_) (fun cdv A outer s H vs Q E hr h => ?_))
  · obtain ⟨pl, cs, held, r, rfl, _⟩ := h
    rfl
  obtain ⟨pl, cs, held, r, rfl, hl0, hc1, hcl, hhl, q⟩ := h
  obtain ⟨ac, ah, hL, hC, hT⟩ := id hl0
  have nd := scAfter.nd
  refine ⟨_, pss_cons (ps_set (i := 2) nd rfl (Or.inr rfl) (pe_ix ix_tup (pv 0) pe_int (fun _ _ => rfl)))
    (pss_one (ps_ret (pe_lc (own := [("k", 3), ("count", 4)]) (g := gTup K 2 (gCons (gName 3) (gCons (gName 4) gNil))) (by rfl) nd (pi_enum (by rfl) T.enum (pa_cons (pe_has G hr (by rfl) (pa_cons (pv 0) (pa_cons (pv 1) pa_nil))) pa_nil))
      (blkOk_by (own := [("k", 3), ("count", 4)]) (N := ["line", "many", "cells", "k", "count"]) (sc := defScope dAfter) (by decide +kernel))
      (fun _ _ _ _ _ => pg_tup (by rfl) (pgs_cons (pg_name (i := 3) nd rfl (Or.inl rfl)) (pgs_cons (pg_name (i := 4) nd rfl (Or.inl rfl)) pgs_nil))) (fun _ _ _ _ _ => pts_nil)
      (fun _ _ _ _ _ => pe_ifExp (pt_cmpR op_eq (pe_op op_mod (pv 4) pe_int) pe_int (nomark _)) (pe_ix (ixT_of (K := K) rfl) (pv 2) (pe_op op_sub (pv 3) pe_int) (fun _ _ => rfl)) (pe_ix (ixT_of (K := K) rfl) (pv 2) (pv 3) (fun _ _ => rfl)))))), ?_⟩
  refine ⟨_, rfl, pl, _, 0, .ref ac, rfl, rfl, hL, rfl, ?_⟩
  refine ⟨_, rfl, _, rfl, pl, cs, held, r, _, rfl, hl0, hc1, hcl, hhl, fun pt H1 s1 et => ?_⟩
  refine ⟨pt, _, rfl, SqL.of et, fun D0 nD => ?_⟩
  have tl := turns_length cs held r (cs.length : Int)
  generalize ht : turnsM cs held r (cs.length : Int) = t at et tl
  have hrest : restM cs held r = (List.range cs.length).map (restAt cs t) := by
    rw [← ht]
    rfl
  refine lc_it (walk_enum (xs := t.map V.int)) (fun i H' => Same H1 H' ∧ H' D0 = some (.lst (((List.range i).map (restAt cs t)).map V.int))) ⟨same_put nD, upd_same⟩ (fun i H' _ h => SqL.of (h.1 _ _ et)) ?_ ?_
  · rintro i x H2 H3 hi ⟨s2, e2⟩ ⟨Tp, a1, a2, rfl, nT, rfl, f1, f2⟩
    cases f1
    obtain ⟨d, rfl, hd⟩ := int_at f2
    have hi' : i < cs.length := by
      rw [List.length_map, tl] at hi
      exact hi
    have gd : t.getD i 0 = d := by
      rw [List.getD_eq_getElem?_getD, hd]
      rfl
    have s3 : Same H2 (upd H2 Tp (.tup [.int (i : Nat), .int d])) := same_put nT
    have hC3 : SqT K (upd H2 Tp (.tup [.int (i : Nat), .int d])) ac (cs.map V.int) := sameT (s1.trans (s2.trans s3)) hC
    have fin : ∀ v : Int, restAt cs t i = v → ∃ acc, upd H2 Tp (.tup [.int (i : Nat), .int d]) D0 = some (.lst acc) ∧ acc.length < sizeLine ∧ (Same H1 (upd (upd H2 Tp (.tup [.int (i : Nat), .int d])) D0 (.lst (acc ++ [.int v]))) ∧
        upd (upd H2 Tp (.tup [.int (i : Nat), .int d])) D0 (.lst (acc ++ [.int v])) D0 = some (.lst (((List.range (i + 1)).map (restAt cs t)).map V.int))) := by
      intro v hv
      refine ⟨_, s3 _ _ e2, ?_, same_in (s2.trans s3) nD, ?_⟩
      · rw [List.length_map, List.length_map, List.length_range]
        exact small1000 (by omega)
      · rw [upd_same, List.range_succ, List.map_append, List.map_append, List.map_singleton, List.map_singleton, hv]
    refine ⟨Tp, _, rfl, SqT.of upd_same, rfl, _, _, rfl, _, _, rfl, rfl, rfl, ?_⟩
    refine ⟨_, rfl, d, 2, rfl, rfl, (by show (0 : Int) < 2; decide), rfl, _, rfl, ite2 (fun c => ?_) (fun c => ?_)⟩
    · have e : d % 2 = 1 := V.int.inj (of_decide_eq_true c)
      refine ⟨_, rfl, _, rfl, (i : Int), 1, rfl, rfl, ac, _, _, _, rfl, rfl, hC3, at_prev hi', fin _ ?_⟩
      unfold restAt
      rw [gd, if_pos e]
    · have e : ¬ d % 2 = 1 := fun z => c (decide_eq_true (by show V.int (d % 2) = V.int 1; rw [z]))
      refine ⟨_, rfl, _, rfl, ac, _, _, _, rfl, rfl, hC3, at_int (Int.natCast_nonneg i) (by omega), fin _ ?_⟩
      unfold restAt
      rw [gd, if_neg e]
      rfl
  · rintro H2 ⟨s2, e2⟩
    refine q D0 H2 (s1.trans s2) ?_
    rw [List.length_map, tl] at e2
    rw [hrest]
    exact e2
theorem scRestCells : FnScope ["line"] ["line"] (defScope dRestCells) := ⟨rfl, rfl, rfl, by decide +kernel, rfl, by decide +kernel, by decide +kernel⟩
theorem ok_restCells (D : Dn K mg "rest_cells" dRestCells ["line"] f fd) (T : Txt mg) (G : Has P w K mg base "cells_after" ["line", "many"] 7 (spAfter K)) : Has P w K mg base "rest_cells" ["line"] 8 (spRestC K) := by
  refine D.has (D.fn.ok scRestCells (fun vs H Q E h => ?_) (fun cdv A outer s H vs Q E hr h => ?_))
  · obtain ⟨pl, cs, held, r, rfl, _⟩ := h
    rfl
  obtain ⟨pl, cs, held, r, rfl, hl0, hc1, hcl, hhl, q⟩ := h
  obtain ⟨ac, ah, hL, hC, hT⟩ := id hl0
  refine ⟨_, pss_one (ps_ret (pe_has G hr (by rfl) (pa_cons (pv 0) (pa_cons (pe_callB call_len_seq (by rfl) T.len b_len (pa_cons (pe_ix ix_tup (pv 0) pe_int (fun _ _ => rfl)) pa_nil)) pa_nil)))), ?_⟩
  refine ⟨_, rfl, _, rfl, pl, _, 0, .ref ac, rfl, rfl, hL, rfl, ac, _, rfl, .inr hC, pl, cs, held, r, ?_, hl0, hc1, hcl, hhl, q⟩
  rw [List.length_map]
  rfl
/-- with_cells(line, a list) -/
def spWith (K : PySem.W.Frag) : Sp := fun vs H Q _ => ∃ (pl pc : Addr) (cs held ds : List Int) (r : Bool), vs = [.ref pl, .ref pc] ∧ LineAt K H pl cs held r ∧ SqL K H pc (ds.map V.int) ∧ ∀ p H', Same H H' → LineAt K H' p ds held r → Q (.ref p) H'
theorem scWith : FnScope ["line", "cells"] ["line", "cells"] (defScope dWithCells) := ⟨rfl, rfl, rfl, by decide +kernel, rfl, by decide +kernel, by decide +kernel⟩
theorem ok_with (D : Dn K mg "with_cells" dWithCells ["line", "cells"] f fd) (T : Txt mg) : Has P w K mg base "with_cells" ["line", "cells"] 1 (spWith K) := by
  refine D.has (D.fn.ok scWith (fun vs H Q E h => ?_) (fun cdv A outer s H vs Q E hr h => ?_))
  · obtain ⟨pl, pc, cs, held, ds, r, rfl, _⟩ := h
    rfl
  obtain ⟨pl, pc, cs, held, ds, r, rfl, ⟨ac, ah, hL, hC, hT⟩, hD, q⟩ := h
  refine ⟨_, pss_one (ps_ret (pe_tup (pa_cons (pe_callTy call_tuple_of (by rfl) T.tuple b_tuple (pa_cons (pv 1) pa_nil)) (pa_cons (pe_ix ix_tup (pv 0) pe_int (fun _ _ => rfl)) (pa_cons (pe_ix ix_tup (pv 0) pe_int (fun _ _ => rfl)) pa_nil))))), ?_⟩
  refine ⟨_, rfl, pc, _, rfl, .inl ⟨hD, fun t nt => ?_⟩⟩
  have s1 : Same H (upd H t (.tup (ds.map V.int))) := same_put nt
  refine ⟨_, rfl, pl, _, 1, .ref ah, rfl, rfl, sameT s1 hL, rfl, _, rfl, pl, _, 2, .bl r, rfl, rfl, sameT s1 hL, rfl, (by show 3 ≤ sizeLine; decide), fun p np => ?_⟩
  have s2 := s1.trans (same_put (o := .tup [.ref t, .ref ah, .bl r]) np)
  exact q p _ s2 ⟨t, ah, SqT.of upd_same, sameT (same_put np) (SqT.of upd_same), sameT s2 hT⟩
def spRest (K : PySem.W.Frag) : Sp := fun vs H Q _ => ∃ (pl : Addr) (cs held : List Int) (r : Bool), vs = [.ref pl] ∧ LineOk K H pl cs held r ∧ swingM cs held r = false ∧ ∀ p H', Same H H' → LineAt K H' p (restM cs held r) held r → Q (.ref p) H'
theorem scRest : FnScope ["line"] ["line"] (defScope dRest) := ⟨rfl, rfl, rfl, by decide +kernel, rfl, by decide +kernel, by decide +kernel⟩
theorem ok_rest (D : Dn K mg "rest" dRest ["line"] f fd) (G1 : Has P w K mg base "need_resting" ["line"] 5 (spNeedRest K)) (G2 : Has P w K mg base "rest_cells" ["line"] 8 (spRestC K)) (G3 : Has P w K mg base "with_cells" ["line", "cells"] 1 (spWith K)) :
    Has P w K mg base "rest" ["line"] 9 (spRest K) := by
  refine D.has (D.fn.ok scRest (fun vs H Q E h => ?_) (fun cdv A outer s H vs Q E hr h => ?_))
  · obtain ⟨pl, cs, held, r, rfl, _⟩ := h
    rfl
  obtain ⟨pl, cs, held, r, rfl, hk, sw, q⟩ := h
  obtain ⟨hl0, ft, cb, hhl⟩ := id hk
  have n7 := ft.n7
  have n1 := ft.n1
  refine ⟨_, pss_cons (ps_expr (pe_has G1 (hr.mono (by decide)) (by rfl) (pa_cons (pv 0) pa_nil))) (pss_one (ps_ret (pe_has G3 (hr.mono (by decide)) (by rfl) (pa_cons (pv 0) (pa_cons (pe_has G2 hr (by rfl) (pa_cons (pv 0) pa_nil)) pa_nil))))), ?_⟩
  refine ⟨_, rfl, pl, cs, held, r, rfl, hk, sw, fun H1 s1 => ?_⟩
  refine ⟨_, rfl, _, rfl, pl, cs, held, r, rfl, hl0.same s1, n1, by omega, hhl, fun pc H2 s2 e2 => ?_⟩
  exact ⟨pl, pc, cs, held, _, r, rfl, hl0.same (s1.trans s2), SqL.of e2, fun p H3 s3 hl3 => q p H3 (s1.trans (s2.trans s3)) hl3⟩
/-- a frame -/
def FrameAt (K : PySem.W.Frag) (H : Hp) (p : Addr) (n : Nat) (held : List Int) (r : Bool) : Prop := ∃ ah, SqT K H p [.int (n : Int), .ref ah, .bl r] ∧ SqT K H ah (held.map V.int)
theorem FrameAt.same {H H' : Hp} {p : Addr} {n : Nat} {held : List Int} {r : Bool} (l : FrameAt K H p n held r) (s : Same H H') : FrameAt K H' p n held r := let ⟨ah, h1, h2⟩ := l; ⟨ah, sameT s h1, sameT s h2⟩
def spDiff (K : PySem.W.Frag) : Sp := fun vs H Q _ => ∃ (pf pc : Addr) (n : Nat) (cs held : List Int) (r : Bool), vs = [.ref pf, .ref pc] ∧ FrameAt K H pf n held r ∧ SqT K H pc (cs.map V.int) ∧ 1 ≤ cs.length ∧ cs.length < 60 ∧ held.length < 60 ∧
  ∀ H', Same H H' → Q (.int (diffM held r cs)) H'
theorem scDiff : FnScope ["frame", "cells", "line", "last"] ["frame", "cells"] (defScope dDiff) := ⟨rfl, rfl, rfl, by decide +kernel, rfl, by decide +kernel, by decide +kernel⟩
theorem ok_diff (D : Dn K mg "difference" dDiff ["frame", "cells"] f fd) (T : Txt mg) (G1 : Has P w K mg base "swings_in" ["line"] 4 (spSwings K)) (G2 : Has P w K mg base "rest_cells" ["line"] 8 (spRestC K)) : Has P w K mg base "difference" ["frame", "cells"] 9 (spDiff K) := by
  refine D.has (D.fn.ok scDiff (fun vs H Q E h => ?_) (fun cdv A outer s H vs Q E hr h => ?_))
  · obtain ⟨pf, pc, n, cs, held, r, rfl, _⟩ := h
    rfl
  obtain ⟨pf, pc, n, cs, held, r, rfl, ⟨ah, hF, hT⟩, hC, hc1, hcl, hhl, q⟩ := h
  have nd := scDiff.nd
  refine ⟨_, pss_cons (ps_set (i := 2) nd rfl (Or.inl rfl) (pe_tup (pa_cons (pv 1) (pa_cons (pe_ix ix_tup (pv 0) pe_int (fun _ _ => rfl)) (pa_cons (pe_ix ix_tup (pv 0) pe_int (fun _ _ => rfl)) pa_nil)))))
    (pss_cons (ps_if (pt_val (pe_has G1 (hr.mono (by decide)) (by rfl) (pa_cons (pv 2) pa_nil))) (pss_one (ps_ret pe_int)) pss_nil)
    (pss_cons (ps_set (i := 3) nd rfl (Or.inl rfl) (pe_callTy call_list_of (by rfl) T.list b_list (pa_cons (pe_has G2 hr (by rfl) (pa_cons (pv 2) pa_nil)) pa_nil)))
    (pss_one (ps_ret (pe_op op_sub (pe_bm PySem.F.plainAttrs_list PySem.F.slot_list_count PySem.F.type_list_count mt_lcount (pv 3) (pa_cons pe_int pa_nil)) (pe_bm PySem.F.plainAttrs_list PySem.F.slot_list_count PySem.F.type_list_count mt_lcount (pv 3) (pa_cons pe_int pa_nil))))))), ?_⟩
  refine ⟨_, rfl, _, rfl, pf, _, 1, .ref ah, rfl, rfl, hF, rfl, _, rfl, pf, _, 2, .bl r, rfl, rfl, hF, rfl, (by show 3 ≤ sizeLine; decide), fun pl nl => ?_⟩
  have s1 : Same H (upd H pl (.tup [.ref pc, .ref ah, .bl r])) := same_put nl
  have hl0 : LineAt K (upd H pl (.tup [.ref pc, .ref ah, .bl r])) pl cs held r := ⟨pc, ah, SqT.of upd_same, sameT s1 hC, sameT s1 hT⟩
  refine ⟨_, rfl, pl, cs, held, r, rfl, hl0, hcl, hhl, fun H1 s2 => ⟨_, rfl, ite2 (fun c => ?_) (fun c => ?_)⟩⟩
  · have z := q H1 (s1.trans s2)
    unfold diffM at z
    rw [if_pos c] at z
    exact z
  · refine ⟨_, rfl, pl, cs, held, r, rfl, hl0.same s2, hc1, hcl, hhl, fun pr H2 s3 e3 => ?_⟩
    refine ⟨pr, _, rfl, .inl (SqL.of e3), fun l nl2 => ?_⟩
    have z := q _ (s1.trans (s2.trans (s3.trans (same_put (o := .lst ((restM cs held r).map V.int)) nl2))))
    unfold diffM at z
    rw [if_neg c] at z
    exact ⟨_, rfl, .inl ⟨rfl, _, SqL.of upd_same⟩, l, _, 0, rfl, rfl, SqL.of upd_same, _, rfl, .inl ⟨rfl, _, SqL.of upd_same⟩, l, _, 1, rfl, rfl, SqL.of upd_same, _, _, rfl, rfl, z⟩
end
end FT
end
section
set_option Elab.async false
set_option linter.all false
set_option maxRecDepth 100000
set_option maxHeartbeats 4000000
/-! FtD6: need_frame, need_painted, colour_next, behind. -/
namespace FT
open PySem PySem.Spec L2
open PyProof.Rows hiding St
theorem flat_pt (p : Pt) : (p.map okV).all flatV = true := by
  rw [List.all_map]
  refine List.all_eq_true.mpr fun x _ => ?_
  cases x with
  | none => rfl
  | some i => rfl
theorem count_pt (c : Int) : ∀ p : Pt, ((p.map okV).countP fun z => eqV z (.int c)) = p.count (some c)
  | [] => rfl
  | none :: p => by
    rw [List.map_cons, List.countP_cons, count_pt c p, List.count_cons]
    show _ + (if eqV .non (.int c) = true then 1 else 0) = _
    simp [eqV]
  | some i :: p => by
    rw [List.map_cons, List.countP_cons, count_pt c p, List.count_cons]
    show _ + (if (i == c) = true then 1 else 0) = _
    by_cases h : i = c
    · subst h; simp
    · simp [h]
theorem none_in_pt (p : Pt) : inV .non (p.map okV) = decide (nones p ≠ 0) := by
  unfold inV
  rw [List.any_map]
  by_cases h : nones p = 0
  · rw [decide_eq_false (fun z => z h)]
    refine List.any_eq_false.mpr fun x hx z => ?_
    cases x with
    | none => exact List.count_eq_zero.mp h hx
    | some i => exact absurd (show false = true from z) Bool.false_ne_true
  · rw [decide_eq_true h]
    exact List.any_eq_true.mpr ⟨none, List.count_pos_iff.mp (Nat.pos_of_ne_zero h), rfl⟩
section
variable {P : Program} {w : World} {K : PySem.W.Frag} {mg : Str → Option Value} {base : Heap} {f : Addr} {fd : FuncData}
def spNeedFrame (K : PySem.W.Frag) : Sp := fun vs H Q _ => ∃ (pf : Addr) (n : Nat) (held : List Int) (r : Bool), vs = [.ref pf] ∧ FrameAt K H pf n held r ∧ Fits n held r ∧ held.length < 60 ∧ ∀ H', Same H H' → Q .non H'
theorem scNeedFrame : FnScope ["frame", "least"] ["frame"] (defScope dNeedFrame) := ⟨rfl, rfl, rfl, by decide +kernel, rfl, by decide +kernel, by decide +kernel⟩
theorem ok_needFrame (D : Dn K mg "need_frame" dNeedFrame ["frame"] f fd) (T : Txt mg) (G1 : Has P w K mg base "is_in" ["value", "least", "most"] 1 spIsIn) (G2 : Has P w K mg base "is_cells" ["many", "value"] 2 (spIsCells K)) :
    Has P w K mg base "need_frame" ["frame"] 3 (spNeedFrame K) := by
  refine D.has (D.fn.ok scNeedFrame (fun vs H Q E h => ?_) (fun cdv A outer s H vs Q E hr h => ?_))
  · obtain ⟨pf, n, held, r, rfl, _⟩ := h
    rfl
  obtain ⟨pf, n, held, r, rfl, ⟨ah, hF, hT⟩, ft, hhl, q⟩ := h
  have nd := scNeedFrame.nd
  obtain ⟨tc, gc⟩ := T.mcells
  obtain ⟨tr, gr⟩ := T.lring
  refine ⟨_, pss_cons (ps_if (PW.pt (pw_or (pt_not (pt_val (pe_callB call_isi (by rfl) T.isi b_isi (pa_cons (pv 0) (pa_cons (pe_bltn (v := .ty "tuple") (by rfl) T.tuple b_tuple rfl) pa_nil)))))
      (pw_or (pt_cmpR op_ne (pe_callB call_len_seq (by rfl) T.len b_len (pa_cons (pv 0) pa_nil)) pe_int (nomark _))
      (pw_or1 (pt_not (pt_val (pe_callB call_isi (by rfl) T.isi b_isi (pa_cons (pe_ix ix_tup (pv 0) pe_int (fun _ _ => rfl)) (pa_cons (pe_bltn (v := .ty "bool") (by rfl) T.bool b_bool rfl) pa_nil))))))))) pss_never pss_nil)
    (pss_cons (ps_set (i := 1) nd rfl (Or.inl rfl) (pe_ifExp (pt_val (pe_ix ix_tup (pv 0) pe_int (fun _ _ => rfl))) (pe_glob (v := .int 3) (by rfl) gr ⟨tr, rfl⟩) pe_int))
    (pss_one (ps_if (PW.pt (pw_or (pt_not (pt_val (pe_has G1 (hr.mono (by decide)) (by rfl) (pa_cons (pe_ix ix_tup (pv 0) pe_int (fun _ _ => rfl)) (pa_cons (pv 1) (pa_cons (pe_glob (v := .int 40) (by rfl) gc ⟨tc, rfl⟩) pa_nil))))))
      (pw_or1 (pt_not (pt_val (pe_has G2 hr (by rfl) (pa_cons (pe_ix ix_tup (pv 0) pe_int (fun _ _ => rfl)) (pa_cons (pe_ix ix_tup (pv 0) pe_int (fun _ _ => rfl)) pa_nil)))))))) pss_never pss_nil))), ?_⟩
  refine ⟨_, rfl, .ref pf, _, _, _, true, rfl, .ty "tuple", tyx_tup hF, kTT, true, rfl, iteF ?_⟩
  refine ⟨_, rfl, pf, _, rfl, .inr hF, rfl, _, rfl, iteF ?_⟩
  refine ⟨_, rfl, pf, _, 2, .bl r, rfl, rfl, hF, rfl, .bl r, _, _, _, true, rfl, .ty "bool", .base (.bl r), kBB, true, rfl, iteF ?_⟩
  have n7 := ft.n7
  have rest : ∀ lo : Int, lo ≤ (n : Int) → (tIfS (tOr (tNot (tB (tCall spIsIn [] E0 (tCons (tOp (rIxT K) (tVar 0) (tC (.int 0))) (tCons (tVar 1) (tCons (tC (.int 40)) tNil)))))) (tNot (tB (tCall (spIsCells K) [] E0 (tCons (tOp (rIxT K) (tVar 0) (tC (.int 0))) (tCons (tOp (rIxT K) (tVar 0) (tC (.int 1))) tNil)))))) tNever tNext)
      { nx := fun _ H' => Q .non H', rt := Q } [some (.ref pf), some (.int lo)] H := by
    intro lo hlo
    refine ⟨_, rfl, pf, _, 0, .int (n : Int), rfl, rfl, hF, rfl, _, rfl, (n : Int), lo, 40, rfl, _, rfl, ?_⟩
    rw [decide_eq_true hlo, decide_eq_true (show (n : Int) ≤ 40 by omega)]
    refine iteF ⟨_, rfl, pf, _, 0, .int (n : Int), rfl, rfl, hF, rfl, _, rfl, pf, _, 1, .ref ah, rfl, rfl, hF, rfl, (n : Int), ah, held, rfl, hT, hhl, ft.asc, ft.bds, fun H1 s1 => ⟨true, rfl, iteF (q H1 s1)⟩⟩
  refine ⟨_, rfl, pf, _, 2, .bl r, rfl, rfl, hF, rfl, r, rfl, ?_⟩
  cases r with
  | true => exact iteT (rest 3 (by have := ft.ring rfl; omega))
  | false => exact iteF (rest 1 (by have := ft.n1; omega))
/-- what the painters' defs ask of frame and painted -/
structure PaintOk (K : PySem.W.Frag) (H : Hp) (pf pp : Addr) (n : Nat) (held : List Int) (r : Bool) (p : Pt) : Prop where
  fr : FrameAt K H pf n held r
  pt : FzT H pp (p.map okV)
  fits : Fits n held r
  hl : held.length < 60
  ok : Okp p
  bal : Bal p
  len : p.length = n
theorem PaintOk.same {H H' : Hp} {pf pp : Addr} {n : Nat} {held : List Int} {r : Bool} {p : Pt} (x : PaintOk K H pf pp n held r p) (s : Same H H') : PaintOk K H' pf pp n held r p :=
  ⟨x.fr.same s, x.pt.same s, x.fits, x.hl, x.ok, x.bal, x.len⟩
def spNeedPainted (K : PySem.W.Frag) : Sp := fun vs H Q _ => ∃ (pf pp : Addr) (n : Nat) (held : List Int) (r : Bool) (p : Pt), vs = [.ref pf, .ref pp] ∧ PaintOk K H pf pp n held r p ∧ ∀ H', Same H H' → Q .non H'
theorem scNeedPainted : FnScope ["frame", "painted", "one"] ["frame", "painted"] (defScope dNeedPainted) := ⟨rfl, rfl, rfl, by decide +kernel, rfl, by decide +kernel, by decide +kernel⟩
theorem ok_needPainted (D : Dn K mg "need_painted" dNeedPainted ["frame", "painted"] f fd) (T : Txt mg) (G1 : Has P w K mg base "is_in" ["value", "least", "most"] 1 spIsIn) (G2 : Has P w K mg base "need_frame" ["frame"] 3 (spNeedFrame K)) :
    Has P w K mg base "need_painted" ["frame", "painted"] 4 (spNeedPainted K) := by
  refine D.has (D.fn.ok scNeedPainted (fun vs H Q E h => ?_) (fun cdv A outer s H vs Q E hr h => ?_))
  · obtain ⟨pf, pp, n, held, r, p, rfl, _⟩ := h
    rfl
  obtain ⟨pf, pp, n, held, r, p, rfl, po, q⟩ := h
  obtain ⟨⟨ah, hF, hT⟩, hP, ft, hhl, okp, bal, len⟩ := id po
  have nd := scNeedPainted.nd
  obtain ⟨tm, gm⟩ := T.mpaint
  refine ⟨_, pss_cons (ps_expr (pe_has G2 hr (by rfl) (pa_cons (pv 0) pa_nil)))
    (pss_cons (ps_if (PW.pt (pw_or (pt_not (pt_val (pe_callB call_isi (by rfl) T.isi b_isi (pa_cons (pv 1) (pa_cons (pe_bltn (v := .ty "tuple") (by rfl) T.tuple b_tuple rfl) pa_nil)))))
      (pw_or1 (pt_cmpR op_ne (pe_callB call_len_seq (by rfl) T.len b_len (pa_cons (pv 1) pa_nil)) (pe_ix ix_tup (pv 0) pe_int (fun _ _ => rfl)) (nomark _))))) pss_never pss_nil)
    (pss_cons (ps_if (pt_cmpR (op_neD hr.units) (pe_lc (own := [("one", 2)]) (g := gName 2) (by rfl) nd (pi_tup (pv 1)) (blkOk_by (own := [("one", 2)]) (N := ["frame", "painted", "one"]) (sc := defScope dNeedPainted) (by decide +kernel))
        (fun _ _ _ _ _ => pg_name (i := 2) nd rfl (Or.inl rfl)) (fun _ _ _ _ _ => pts_one (PW.pt (pw_and (pt_cmpR op_notN (pv 2) pe_non (nomark _)) (pw_and1 (pt_not (pt_val (pe_has G1 (hr.mono (by decide)) (by rfl) (pa_cons (pv 2) (pa_cons pe_int (pa_cons pe_int pa_nil)))))))))) (fun _ _ _ _ _ => pv 2)) (pe_lst pa_nil) (nomark _)) pss_never pss_nil)
    (pss_cons (ps_if (pt_cmpR op_notIn_seq (pe_op op_sub (pe_countT (pv 1) (pa_cons pe_int pa_nil)) (pe_countT (pv 1) (pa_cons pe_int pa_nil))) (pe_tup (pa_cons pe_int (pa_cons pe_int pa_nil))) (by rfl)) pss_never pss_nil)
    (pss_one (ps_if (pt_cmpR op_gt (pe_ix ix_tup (pv 0) pe_int (fun _ _ => rfl)) (pe_glob (v := .int 8) (by rfl) gm ⟨tm, rfl⟩) (nomark _)) pss_never pss_nil))))), ?_⟩
  have n7 := ft.n7
  have pl : (p.map okV).length = n := by rw [List.length_map, len]
  refine ⟨_, rfl, pf, n, held, r, rfl, ⟨ah, hF, hT⟩, ft, hhl, fun H1 s1 => ?_⟩
  refine ⟨_, rfl, .ref pp, _, _, _, true, rfl, .ty "tuple", tyx_tup (K := K) (sameT s1 hP.t), kTT, true, rfl, iteF ?_⟩
  refine ⟨_, rfl, pp, _, rfl, .inr (sameT s1 hP.t), _, rfl, pf, _, 0, .int (n : Int), rfl, rfl, sameT s1 hF, rfl, rfl, _, rfl, ?_⟩
  rw [pl, decide_eq_true rfl]
  refine iteF ?_
  refine ⟨_, rfl, pp, rfl, ⟨_, sameT s1 hP.t⟩, fun D0 nD => lc_tup (K := K) (a := pp) (xs := p.map okV) (fun i H' => Same H1 H' ∧ H' D0 = some (.lst [])) ⟨same_put nD, upd_same⟩ (fun i H' _ h => sameT (s1.trans h.1) hP.t) ?_ ?_⟩
  · rintro i x H2 hx ⟨s2, e2⟩
    rw [List.getElem?_map] at hx
    obtain ⟨y, hy, rfl⟩ := Option.map_eq_some_iff.mp hx
    refine ⟨rfl, _, rfl, rfl, _, rfl, ?_⟩
    rcases okp y (List.mem_of_getElem? hy) with rfl | rfl | rfl
    · exact iteF (iteF ⟨s2, e2⟩)
    · exact iteT ⟨_, rfl, 0, 0, 1, rfl, _, rfl, iteF ⟨s2, e2⟩⟩
    · exact iteT ⟨_, rfl, 1, 0, 1, rfl, _, rfl, iteF ⟨s2, e2⟩⟩
  · rintro H2 ⟨s2, e2⟩
    refine ⟨Nat.zero_le _, fun p1 hp1 => ⟨.list [], .list [], .lst (SqL.of (show upd H2 p1 (.lst []) D0 = some (.lst []) by rw [upd_ne (ne_of_none e2 hp1)]; exact e2)) .nil, .lst (SqL.of upd_same) .nil, rfl, rfl, _, rfl, ?_⟩⟩
    refine iteF ?_
    have s3 : Same H (upd H2 p1 (.lst [])) := s1.trans (s2.trans (same_put hp1))
    have f3 := hP.same s3
    refine ⟨_, rfl, pp, _, rfl, f3, flat_pt p, _, rfl, rfl, f3, _, rfl, pp, _, rfl, f3, flat_pt p, _, rfl, rfl, f3, _, _, rfl, rfl, ?_⟩
    rw [count_pt, count_pt]
    refine ⟨(by show 2 ≤ sizeLine; decide), fun p2 hp2 => ?_⟩
    refine ⟨p2, _, rfl, .inr (SqT.of upd_same), rfl, rfl, _, rfl, ?_⟩
    have hin : inV (.int (((p.count (some 0) : Nat) : Int) - ((p.count (some 1) : Nat) : Int))) [V.int 0, V.int 1] = true := by
      show inV _ (([0, 1] : List Int).map V.int) = true
      rw [in_ints]
      refine decide_eq_true ?_
      rcases bal with b | b
      · rw [b]
        simp
      · rw [b]
        simp only [List.mem_cons, List.not_mem_nil, or_false]
        omega
    show if (!inV (.int (((p.count (some 0) : Nat) : Int) - ((p.count (some 1) : Nat) : Int))) [V.int 0, V.int 1]) = true then _ else _
    rw [hin]
    refine iteF ?_
    have s4 := s3.trans (same_put (o := .tup [.int 0, .int 1]) hp2)
    refine ⟨_, rfl, pf, _, 0, .int (n : Int), rfl, rfl, sameT s4 hF, rfl, _, 8, rfl, rfl, _, rfl, ?_⟩
    rw [decide_eq_false (by omega)]
    exact iteF (q _ s4)
def spColour : Sp := fun vs H Q _ => ∃ (pp : Addr) (p : Pt), vs = [.ref pp] ∧ FzT H pp (p.map okV) ∧ Q (.int (colM p)) H
theorem scColour : FnScope ["painted"] ["painted"] (defScope dColour) := ⟨rfl, rfl, rfl, by decide +kernel, rfl, by decide +kernel, by decide +kernel⟩
theorem ok_colour (D : Dn K mg "colour_next" dColour ["painted"] f fd) : Has P w K mg base "colour_next" ["painted"] 1 spColour := by
  refine D.has (D.fn.ok scColour (fun vs H Q E h => ?_) (fun cdv A outer s H vs Q E hr h => ?_))
  · obtain ⟨pp, p, rfl, _⟩ := h
    rfl
  obtain ⟨pp, p, rfl, hP, q⟩ := h
  refine ⟨_, pss_one (ps_ret (pe_ifExp (pt_cmpR op_eq (pe_countT (pv 0) (pa_cons pe_int pa_nil)) (pe_countT (pv 0) (pa_cons pe_int pa_nil)) (nomark _)) pe_int pe_int)), ?_⟩
  refine ⟨_, rfl, pp, _, rfl, hP, flat_pt p, _, rfl, rfl, hP, _, rfl, pp, _, rfl, hP, flat_pt p, _, rfl, rfl, hP, rfl, _, rfl, ?_⟩
  rw [count_pt, count_pt]
  have d : decide (V.int ((p.count (some 0) : Nat) : Int) = V.int ((p.count (some 1) : Nat) : Int)) = decide (p.count (some 0) = p.count (some 1)) := decide_eq_decide.mpr ⟨fun e => by injection e with e; omega, fun e => by rw [e]⟩
  rw [d]
  unfold colM at q
  refine ite2 (fun c => ?_) (fun c => ?_)
  · rw [if_pos (of_decide_eq_true c)] at q
    exact q
  · rw [if_neg fun z => c (decide_eq_true z)] at q
    exact q
def spBehind (K : PySem.W.Frag) : Sp := fun vs H Q _ => ∃ (pp : Addr) (p : Pt) (k : Nat) (c : Int), vs = [.ref pp, .int (k : Int), .int c] ∧ FzT H pp (p.map okV) ∧ k < p.length ∧ p.length < 60 ∧ ∀ q H', Same H H' → FzT H' q ((behindM p k c).map okV) → Q (.ref q) H'
theorem scBehind : FnScope ["painted", "cell", "colour"] ["painted", "cell", "colour"] (defScope dBehind) := ⟨rfl, rfl, rfl, by decide +kernel, rfl, by decide +kernel, by decide +kernel⟩
theorem cut_to (xs : List V) (k : Nat) : cutV xs none (some (k : Int)) = xs.take k := by
  unfold cutV
  rw [HT.sIx_none, HT.sIx_nat, List.drop_zero, Nat.sub_zero]
  by_cases h : k ≤ xs.length
  · rw [Nat.min_eq_left h]
  · rw [Nat.min_eq_right (by omega), List.take_of_length_le (Nat.le_refl _), List.take_of_length_le (by omega)]
theorem cut_from (xs : List V) (k : Nat) : cutV xs (some (k : Int)) none = xs.drop k := by
  unfold cutV
  rw [HT.sIx_none, HT.sIx_nat]
  by_cases h : k ≤ xs.length
  · rw [Nat.min_eq_left h, List.take_of_length_le (by rw [List.length_drop]; exact Nat.le_refl _)]
  · rw [Nat.min_eq_right (by omega), List.drop_eq_nil_of_le (by omega), List.drop_eq_nil_of_le (by omega)]
    exact List.take_nil
theorem ok_behind (D : Dn K mg "behind" dBehind ["painted", "cell", "colour"] f fd) : Has P w K mg base "behind" ["painted", "cell", "colour"] 1 (spBehind K) := by
  refine D.has (D.fn.ok scBehind (fun vs H Q E h => ?_) (fun cdv A outer s H vs Q E hr h => ?_))
  · obtain ⟨pp, p, k, c, rfl, _⟩ := h
    rfl
  obtain ⟨pp, p, k, c, rfl, hP, hk, hn, q⟩ := h
  refine ⟨_, pss_one (ps_ret (pe_op op_catF (pe_op op_catF (pe_slice sl_tup (pv 0) po_none (po_some (pv 1))) (pe_tupF (pa_cons (pv 2) pa_nil))) (pe_slice sl_tup (pv 0) (po_some (pe_op op_add (pv 1) pe_int)) po_none))), ?_⟩
  have pl : (p.map okV).length = p.length := List.length_map _
  have target : (behindM p k c).map okV = (p.map okV).take k ++ [V.int c] ++ (p.map okV).drop (k + 1) := by
    unfold behindM
    rw [List.set_eq_take_append_cons_drop, if_pos hk, List.map_append, List.map_cons, List.map_take, List.map_drop, List.append_assoc]
    rfl
  refine ⟨_, rfl, _, rfl, (k : Int), rfl, pp, _, rfl, hP.t, ?_, fun a1 n1 => ?_⟩
  · rw [HT.sIx_nat, pl, Nat.min_eq_left (by omega)]
    rintro ⟨_, z⟩
    omega
  rw [cut_to]
  have s1 : Same H (upd H a1 (.tup ((p.map okV).take k))) := same_put n1
  refine ⟨_, rfl, (by show 1 ≤ sizeLine; decide), fun a2 H2 n2 => ?_⟩
  have s2 := s1.trans n2.same
  have e1 : SqT K H2 a1 ((p.map okV).take k) := sameT n2.same (SqT.of upd_same)
  have rest : ∀ (a3 : Addr) (H3 : Hp), Same H H3 → FzT H3 a3 ((p.map okV).take k ++ [V.int c]) →
      tSl (rSlT K) (tVar 0) (tPart (tOp (rI0 fun i j => .int (i + j)) (tVar 1) (tC (.int 1)))) tNoPart [some (.ref pp), some (.int (k : Int)), some (.int c)] H3 fun y H4 => rCatF K (.ref a3) y H4 Q := by
    intro a3 H3 s3 f3
    refine ⟨_, rfl, _, rfl, (k : Int), 1, rfl, rfl, _, rfl, pp, _, rfl, (hP.same s3).t, ?_, fun a4 n4 => ?_⟩
    · rw [show (k : Int) + 1 = ((k + 1 : Nat) : Int) by omega, HT.sIx_nat, pl]
      rintro ⟨z, _⟩
      omega
    rw [show (k : Int) + 1 = ((k + 1 : Nat) : Int) by omega, cut_from]
    have s4 : Same H3 (upd H3 a4 (.tup ((p.map okV).drop (k + 1)))) := same_put n4
    refine ⟨a3, a4, _, _, rfl, rfl, (f3.same s4).t, SqT.of upd_same, ?_, fun z => ?_, fun _ z => ?_, fun _ _ a5 H5 n5 => ?_⟩
    · rw [List.length_append, List.length_take, List.length_drop, pl, sizeLine_eq]
      show min k p.length + 1 + (p.length - (k + 1)) ≤ 16777216
      omega
    · exact absurd (List.append_eq_nil_iff.mp z).2 (by simp)
    · refine q a3 _ (s3.trans s4) ?_
      have e5 : (behindM p k c).map okV = (p.map okV).take k ++ [V.int c] := by rw [target, z, List.append_nil]
      rw [e5]
      exact f3.same s4
    · refine q a5 _ ((s3.trans s4).trans n5.same) ?_
      rw [target]
      exact n5.at
  refine ⟨a1, a2, _, _, rfl, rfl, e1, n2.at.t, ?_, fun z => ?_, fun _ z2 => absurd z2 (by simp), fun _ _ a3 H3 n3 => ?_⟩
  · rw [List.length_take, pl, sizeLine_eq]
    show min k p.length + 1 ≤ 16777216
    omega
  · refine rest a2 H2 s2 ?_
    rw [z]
    exact n2.at
  · exact rest a3 H3 (s2.trans n3.same) n3.at
end
end FT
end
section
set_option Elab.async false
set_option linter.all false
set_option maxRecDepth 100000
set_option maxHeartbeats 4000000
/-! FtD7: value_in. -/
namespace FT
open PySem PySem.Spec L2
open PyProof.Rows hiding St
/-- all but d is as it was -/
def SameBut (d : Addr) (H H' : Hp) : Prop := ∀ b o, b ≠ d → H b = some o → H' b = some o
theorem SameBut.trans {d : Addr} {H1 H2 H3 : Hp} (a : SameBut d H1 H2) (b : SameBut d H2 H3) : SameBut d H1 H3 := fun x o n e => b x o n (a x o n e)
theorem SameBut.of {d : Addr} {H H' : Hp} (s : Same H H') : SameBut d H H' := fun b o _ e => s b o e
section
variable {P : Program} {w : World} {K : PySem.W.Frag} {H H' : Hp} {d : Addr} {kvs : List Ent}
theorem FzT.ne {b : Addr} {xs : List V} (f : FzT H b xs) (e : H d = some (Memo P w d kvs)) : b ≠ d := by
  obtain ⟨o, _, _, h⟩ := f
  rintro rfl
  rw [h] at e
  cases e
theorem FzT.but {b : Addr} {xs : List V} (f : FzT H b xs) (e : H d = some (Memo P w d kvs)) (s : SameBut d H H') : FzT H' b xs := by
  have n := f.ne e
  obtain ⟨o, h1, h2, h⟩ := f
  exact ⟨o, h1, h2, s _ _ n h⟩
theorem but_t {a : Addr} {xs : List V} (h : SqT K H a xs) (e : H d = some (Memo P w d kvs)) (s : SameBut d H H') : SqT K H' a xs := by
  rcases h with (h | ⟨o, h⟩) | h
  · refine .inl (.inl (s _ _ ?_ h))
    rintro rfl
    rw [h] at e
    cases e
  · refine .inl (.inr ⟨o, s _ _ ?_ h⟩)
    rintro rfl
    rw [h] at e
    cases e
  · exact .inr h
theorem FrameAt.but {p : Addr} {n : Nat} {held : List Int} {r : Bool} (l : FrameAt K H p n held r) (e : H d = some (Memo P w d kvs)) (s : SameBut d H H') : FrameAt K H' p n held r := let ⟨ah, h1, h2⟩ := l; ⟨ah, but_t h1 e s, but_t h2 e s⟩
end
/-- the memo stands and is right -/
structure KnownAt (P : Program) (w : World) (held : List Int) (r : Bool) (H : Hp) (d : Addr) (kvs : List Ent) : Prop where
  mem : H d = some (Memo P w d kvs)
  keys : KeysAt H kvs
  good : ∀ e ∈ kvs, e.2.2 = V0 held r e.1
/-- the memo has grown -/
structure Grown (P : Program) (w : World) (held : List Int) (r : Bool) (d : Addr) (c m : Nat) (H : Hp) (kvs : List Ent) (H' : Hp) (kvs' : List Ent) : Prop where
  same : SameBut d H H'
  known : KnownAt P w held r H' d kvs'
  len : kvs'.length ≤ kvs.length + c
  new : ∀ e ∈ kvs', e ∈ kvs ∨ nones e.1 ≤ m
section
variable {P : Program} {w : World} {K : PySem.W.Frag} {held : List Int} {r : Bool} {H H' : Hp} {d : Addr} {kvs : List Ent}
theorem KnownAt.same (k : KnownAt P w held r H d kvs) (s : Same H H') : KnownAt P w held r H' d kvs := ⟨s _ _ k.mem, fun e he => (k.keys e he).same s, k.good⟩
theorem KnownAt.but (k : KnownAt P w held r H d kvs) (s : SameBut d H H') (e : H' d = some (Memo P w d kvs)) : KnownAt P w held r H' d kvs := ⟨e, fun x hx => (k.keys x hx).but k.mem s, k.good⟩
theorem Grown.zero {m : Nat} (k : KnownAt P w held r H d kvs) (s : Same H H') : Grown P w held r d 0 m H kvs H' kvs := ⟨.of s, k.same s, Nat.le_refl _, fun e he => .inl he⟩
theorem Grown.wide {c c' m m' : Nat} {kvs' : List Ent} (g : Grown P w held r d c m H kvs H' kvs') (h : c ≤ c') (hm : m ≤ m') : Grown P w held r d c' m' H kvs H' kvs' :=
  ⟨g.same, g.known, by have := g.len; omega, fun e he => (g.new e he).imp id fun z => by omega⟩
theorem Grown.trans {c1 c2 m : Nat} {H1 H2 H3 : Hp} {k1 k2 k3 : List Ent} (a : Grown P w held r d c1 m H1 k1 H2 k2) (b : Grown P w held r d c2 m H2 k2 H3 k3) : Grown P w held r d (c1 + c2) m H1 k1 H3 k3 := by
  refine ⟨a.same.trans b.same, b.known, ?_, fun e he => ?_⟩
  · have := a.len
    have := b.len
    omega
  · rcases b.new e he with z | z
    · exact a.new e z
    · exact .inr z
end
theorem pt_cells {p : Pt} (h : nones p = 0) : p.map okV = (cellsM p).map V.int := by
  unfold cellsM
  rw [List.map_map]
  refine List.map_congr_left fun x hx => ?_
  cases x with
  | none => exact absurd hx (List.count_eq_zero.mp h)
  | some i => rfl
theorem pt_at {p : Pt} {k : Nat} (h : k < p.length) : atI (p.map okV) (k : Int) = some (okV p[k]) := atI_nat (by rw [List.getElem?_map, List.getElem?_eq_getElem h]; rfl)
def freeTo (p : Pt) (i : Nat) : List Nat := (List.range i).filter fun k => decide (p[k]? = some none)
theorem free_to (p : Pt) : freeTo p p.length = freeM p := rfl
theorem free_succ {p : Pt} {i : Nat} (h : i < p.length) : freeTo p (i + 1) = freeTo p i ++ (if p[i] = none then [i] else []) := by
  unfold freeTo
  rw [List.range_succ, List.filter_append]
  congr 1
  rw [List.filter_cons, List.getElem?_eq_getElem h]
  by_cases c : p[i] = none
  · rw [if_pos c, if_pos (by rw [c]; exact decide_eq_true rfl)]
    rfl
  · rw [if_neg c, if_neg (by intro z; exact c (Option.some.inj (of_decide_eq_true z)))]
    rfl
theorem freeTo_len (p : Pt) (i : Nat) : (freeTo p i).length ≤ i := by
  unfold freeTo
  exact Nat.le_trans (List.length_filter_le _ _) (by rw [List.length_range]; exact Nat.le_refl _)
theorem free_len (p : Pt) : (freeM p).length = nones p := by
  have e : ∀ q : Pt, ((List.range q.length).filter fun k => decide (q[k]? = some none)).length = q.count none := by
    intro q
    induction q with
    | nil => rfl
    | cons x q ih =>
      rw [List.length_cons, List.range_succ_eq_map, List.filter_cons, List.filter_map, List.count_cons]
      have z : ((fun k => decide ((x :: q)[k]? = some none)) ∘ Nat.succ) = fun k => decide (q[k]? = some none) := by
        funext k
        rfl
      rw [z, ← ih]
      cases x with
      | none => simp
      | some i => simp
  exact e p
theorem okV_non {x : Option Int} : decide (okV x = V.non) = decide (x = none) := by
  cases x with
  | none => rfl
  | some i => rfl
section
variable {P : Program} {w : World} {K : PySem.W.Frag} {mg : Str → Option Value} {base : Heap} {f : Addr} {fd : FuncData}
def spValue (P : Program) (w : World) (K : PySem.W.Frag) (m : Nat) : Sp := fun vs H Q _ => ∃ (pf pp d : Addr) (n : Nat) (held : List Int) (r : Bool) (p : Pt) (kvs : List Ent), vs = [.ref pf, .ref pp, .ref d] ∧ PaintOk K H pf pp n held r p ∧ KnownAt P w held r H d kvs ∧ nones p = m ∧ kvs.length + cost m ≤ 25000 ∧
  ∀ kvs' H', Grown P w held r d (cost m) m H kvs H' kvs' → Q (.int (V0 held r p)) H'
theorem scValue : FnScope ["frame", "painted", "known", "colour", "some", "told", "k"] ["frame", "painted", "known"] (defScope dValue) := ⟨rfl, rfl, rfl, by decide +kernel, rfl, by decide +kernel, by decide +kernel⟩
theorem ok_value0 (D : Dn K mg "value_in" dValue ["frame", "painted", "known"] f fd) (T : Txt mg) (G : Has P w K mg base "difference" ["frame", "cells"] 9 (spDiff K)) : Has P w K mg base "value_in" ["frame", "painted", "known"] 10 (spValue P w K 0) := by
  refine D.has (D.fn.ok scValue (fun vs H Q E h => ?_) (fun cdv A outer s H vs Q E hr h => ?_))
  · obtain ⟨pf, pp, d, n, held, r, p, kvs, rfl, _⟩ := h
    rfl
  obtain ⟨pf, pp, d, n, held, r, p, kvs, rfl, po, kn, hm, hl, q⟩ := h
  refine ⟨_, pss_cons (ps_if (pt_cmpR op_notIn_seq pe_non (pv 1) (by rfl)) (pss_one (ps_ret (pe_has G hr (by rfl) (pa_cons (pv 0) (pa_cons (pv 1) pa_nil))))) pss_nil) pss_never, ?_⟩
  refine ⟨_, rfl, pp, _, rfl, .inr po.pt.t, rfl, flat_pt p, _, rfl, ?_⟩
  show if (!inV .non (p.map okV)) = true then _ else _
  rw [none_in_pt, decide_eq_false (fun z => z hm)]
  refine iteT ?_
  have n1 := po.fits.n1
  have n7 := po.fits.n7
  refine ⟨_, rfl, _, rfl, pf, pp, n, cellsM p, held, r, rfl, po.fr, ?_, ?_, ?_, po.hl, fun H1 s1 => ?_⟩
  · rw [← pt_cells hm]
    exact po.pt.t
  · rw [cells_length, po.len]; exact n1
  · rw [cells_length, po.len]; omega
  · have z := q kvs H1 (Grown.zero kn s1)
    rw [V0_end hm] at z
    exact z
theorem ok_valueS (m : Nat) (D : Dn K mg "value_in" dValue ["frame", "painted", "known"] f fd) (T : Txt mg) (Gc : Has P w K mg base "colour_next" ["painted"] 1 spColour) (Gb : Has P w K mg base "behind" ["painted", "cell", "colour"] 1 (spBehind K))
    (G : Has P w K mg base "value_in" ["frame", "painted", "known"] (10 + m) (spValue P w K m)) : Has P w K mg base "value_in" ["frame", "painted", "known"] (10 + (m + 1)) (spValue P w K (m + 1)) := by
  refine D.has (D.fn.ok scValue (fun vs H Q E h => ?_) (fun cdv A outer s H vs Q E hr h => ?_))
  · obtain ⟨pf, pp, d, n, held, r, p, kvs, rfl, _⟩ := h
    rfl
  obtain ⟨pf, pp, d, n, held, r, p, kvs, rfl, po, kn, hm, hl, q⟩ := h
  have nd := scValue.nd
  have hr1 := hr.mono (show 1 ≤ 10 + m by omega)
  refine ⟨_, pss_cons (ps_if (pt_cmpR op_notIn_seq pe_non (pv 1) (by rfl)) pss_never pss_nil)
    (pss_cons (ps_if (pt_cmpR (op_memoNotIn hr.units) (pv 1) (pv 2) (by rfl))
      (pss_cons (ps_set (i := 3) nd rfl (Or.inr rfl) (pe_has Gc hr1 (by rfl) (pa_cons (pv 1) pa_nil)))
      (pss_cons (ps_setLc (i := 4) (own := [("k", 6)]) (g := gName 6) rfl nd rfl rfl (sw_true rfl rfl rfl (by decide +kernel)) (pi_range1 (by rfl) T.range (pa_cons (pe_callB call_len_seq (by rfl) T.len b_len (pa_cons (pv 1) pa_nil)) pa_nil))
        (blkOk_by (own := [("k", 6)]) (N := ["frame", "painted", "known", "colour", "some", "told", "k"]) (sc := defScope dValue) (by decide +kernel)) (fun _ _ _ _ _ => pg_name (i := 6) nd rfl (Or.inl rfl))
        (fun _ _ _ _ _ => pts_one (pt_cmpR op_isN (pe_ix (ixT_of (K := K) rfl) (pv 1) (pv 6) (fun _ _ => rfl)) pe_non (nomark _)))
        (fun _ _ _ _ _ => pv 6))
      (pss_cons (ps_setLc (i := 5) (own := [("k", 6)]) (g := gName 6) rfl nd rfl rfl (sw_true rfl rfl rfl (by decide +kernel)) (pi_list (pv 4))
        (blkOk_by (own := [("k", 6)]) (N := ["frame", "painted", "known", "colour", "some", "told", "k"]) (sc := defScope dValue) (by decide +kernel)) (fun _ _ _ _ _ => pg_name (i := 6) nd rfl (Or.inl rfl))
        (fun _ _ _ _ _ => pts_nil)
        (fun _ _ _ _ _ => pe_has G hr (by rfl) (pa_cons (pv 0) (pa_cons (pe_has Gb hr1 (by rfl) (pa_cons (pv 1) (pa_cons (pv 6) (pa_cons (pv 3) pa_nil)))) (pa_cons (pv 2) pa_nil)))))
      (pss_one (ps_asg (pe_ifExp (pt_cmpR op_eq (pv 3) pe_int (nomark _)) (pe_callB (cr_max rfl) (by rfl) T.max b_max (pa_cons (pv 5) pa_nil)) (pe_callB (cr_min rfl) (by rfl) T.min b_min (pa_cons (pv 5) pa_nil))) (pg_sub (pv 2) (pv 1) (set_memo hr.units))))))) pss_nil)
    (pss_one (ps_ret (pe_memoAt hr.units (pv 2) (pv 1) (fun _ _ => rfl))))), ?_⟩
  have n1 := po.fits.n1
  have n7 := po.fits.n7
  have pl : (p.map okV).length = p.length := List.length_map _
  have pn := po.len
  have hm0 : nones p ≠ 0 := by omega
  refine ⟨_, rfl, pp, _, rfl, .inr po.pt.t, rfl, flat_pt p, _, rfl, ?_⟩
  show if (!inV .non (p.map okV)) = true then _ else _
  rw [none_in_pt, decide_eq_true hm0]
  refine iteF ?_
  refine ⟨_, rfl, _, rfl, pp, d, p, kvs, rfl, rfl, kn.mem, kn.keys, po.pt, _, rfl, ?_⟩
  cases hlk : lookE kvs p with
  | some v =>
    refine iteF ?_
    refine ⟨_, rfl, _, rfl, pp, d, p, kvs, v, rfl, rfl, kn.mem, kn.keys, po.pt, hlk, ?_⟩
    obtain ⟨e, he, e1, e2⟩ := look_mem hlk
    have z := q kvs H ((Grown.zero (m := m + 1) kn (fun _ _ e => e)).wide (Nat.zero_le _) (Nat.le_refl _))
    rw [← e1, ← kn.good e he, e2] at z
    exact z
  | none =>
    refine iteT ?_
    refine ⟨_, rfl, pp, p, rfl, po.pt, ?_⟩
    refine ⟨_, rfl, pp, _, rfl, .inr po.pt.t, _, rfl, by omega, by omega, fun S nS => ?_⟩
    rw [pl, Int.toNat_natCast]
    refine lc_range (lo := 0) (n := p.length) (fun i H' => Same H H' ∧ H' S = some (.lst ((freeTo p i).map fun k => V.int ((k : Nat) : Int)))) ⟨same_put nS, upd_same⟩ ?_ ?_
    · rintro i H2 hi ⟨s2, e2⟩
      rw [Int.zero_add]
      refine ⟨rfl, _, rfl, _, rfl, pp, _, _, _, rfl, rfl, (po.pt.same s2).t, pt_at hi, rfl, _, rfl, ?_⟩
      rw [okV_non]
      refine ite2 (fun c => ?_) (fun c => ?_)
      · refine ⟨_, rfl, _, e2, ?_, same_in s2 nS, ?_⟩
        · rw [List.length_map]
          have z := freeTo_len p i
          exact small1000 (by omega)
        · rw [upd_same, free_succ hi, if_pos (of_decide_eq_true c), List.map_append]
          rfl
      · refine ⟨s2, ?_⟩
        rw [free_succ hi, if_neg (fun z => c (decide_eq_true z)), List.append_nil]
        exact e2
    · rintro H2 ⟨s2, e2⟩
      rw [free_to] at e2
      have po2 := po.same s2
      have kn2 := kn.same s2
      refine ⟨_, rfl, S, rfl, ⟨_, SqL.of e2⟩, fun D0 nD => ?_⟩
      have fl := free_len p
      have cm : cost (m + 1) = 1 + (m + 1) * cost m := rfl
      have m7 : m + 1 ≤ 7 := by
        have z : nones p ≤ p.length := List.count_le_length
        omega
      have fml : (freeM p).length = m + 1 := by omega
      have Sd : S ≠ d := by
        rintro rfl
        rw [kn.mem] at nS
        cases nS
      have Dd : D0 ≠ d := by
        rintro rfl
        rw [kn2.mem] at nD
        cases nD
      refine lc_list (K := K) (a := S) (xs := (freeM p).map fun k => V.int ((k : Nat) : Int)) (fun i H' => ∃ kvs', Grown P w held r d (i * cost m) m H2 kvs H' kvs' ∧ H' D0 = some (.lst ((((freeM p).take i).map fun k => V0 held r (behindM p k (colM p))).map V.int)))
        ⟨kvs, by rw [Nat.zero_mul]; exact Grown.zero kn2 (same_put nD), upd_same⟩ (fun i H' _ ⟨_, g, _⟩ => SqL.of (g.same _ _ Sd e2)) ?_ ?_
      · rintro i x H3 hx ⟨kv3, g3, e3⟩
        rw [List.getElem?_map] at hx
        obtain ⟨k, hk, rfl⟩ := Option.map_eq_some_iff.mp hx
        have hi : i < m + 1 := by
          have := (List.getElem?_eq_some_iff.mp hk).1
          omega
        have hfree := mem_free.mp (List.mem_of_getElem? hk)
        have hkl : k < p.length := (List.getElem?_eq_some_iff.mp hfree).1
        have po3 : PaintOk K H3 pf pp n held r p := ⟨po2.fr.but kn2.mem g3.same, po2.pt.but kn2.mem g3.same, po.fits, po.hl, po.ok, po.bal, po.len⟩
        refine ⟨rfl, _, rfl, _, rfl, _, rfl, _, rfl, pp, p, k, colM p, rfl, po3.pt, hkl, by omega, fun pq H4 s4 fq => ?_⟩
        have g4 : Grown P w held r d (i * cost m + 0) m H2 kvs H4 kv3 := g3.trans (Grown.zero g3.known s4)
        have nb := nones_behind (c := colM p) hfree
        have big : i * cost m + cost m ≤ (m + 1) * cost m := by
          have z := Nat.mul_le_mul_right (cost m) (show i + 1 ≤ m + 1 by omega)
          rw [Nat.succ_mul] at z
          exact z
        have l4 := g4.len
        refine ⟨_, rfl, pf, pq, d, n, held, r, behindM p k (colM p), kv3, rfl, ⟨po3.fr.same s4, fq, po.fits, po.hl, okp_behind po.ok (col_01 p), bal_behind hfree po.bal, by rw [behind_length]; exact po.len⟩, g4.known, by omega, by omega, fun kv5 H5 g5 => ?_⟩
        refine ⟨_, g5.same _ _ Dd (s4 _ _ e3), ?_, ⟨kv5, ?_, ?_⟩⟩
        · rw [List.length_map, List.length_map]
          have z := List.length_take_le i (freeM p)
          exact small1000 (by rw [List.length_take]; omega)
        · have g6 := g4.trans g5
          refine ⟨fun b o hb e => ?_, ?_, ?_, g6.new⟩
          · by_cases hbD : b = D0
            · rw [hbD, nD] at e
              cases e
            · rw [upd_ne hbD]
              exact g6.same b o hb e
          · refine ⟨by rw [upd_ne (Ne.symm Dd)]; exact g5.known.mem, fun e he => ?_, g5.known.good⟩
            obtain ⟨o, h1, h2, h3⟩ := g5.known.keys e he
            refine ⟨o, h1, h2, ?_⟩
            rw [upd_ne ?_]
            · exact h3
            · intro hb
              rw [hb, g5.same _ _ Dd (s4 _ _ e3)] at h3
              cases h3
          · have z := g6.len
            rw [Nat.succ_mul]
            omega
        · rw [upd_same, List.take_add_one, hk, List.map_append, List.map_append]
          rfl
      · rintro H3 ⟨kv3, g3, e3⟩
        rw [List.length_map, List.take_of_length_le (Nat.le_refl _), fml] at *
        have po3 : PaintOk K H3 pf pp n held r p := ⟨po2.fr.but kn2.mem g3.same, po2.pt.but kn2.mem g3.same, po.fits, po.hl, po.ok, po.bal, po.len⟩
        have hno : lookE kv3 p = none := by
          cases hz : lookE kv3 p with
          | none => rfl
          | some v =>
            obtain ⟨e, he, e1, _⟩ := look_mem hz
            rcases g3.new e he with z | z
            · have : lookE kvs p ≠ none := by
                unfold lookE
                intro y
                rw [Option.map_eq_none_iff, List.find?_eq_none] at y
                exact y e z (by rw [e1]; exact decide_eq_true rfl)
              exact absurd hlk this
            · rw [e1] at z
              omega
        have l3 := g3.len
        have turn := V0_turn (held := held) (r := r) hm0
        generalize hT : ((freeM p).map fun k => V0 held r (behindM p k (colM p))) = told at e3 turn
        have tpos : 0 < told.length := by
          rw [← hT, List.length_map]
          omega
        have fin : ∀ z : Int, z = V0 held r p → gSub (tVar 2) (tVar 1) (sMemo P w) (.int z) [some (.ref pf), some (.ref pp), some (.ref d), some (.int (colM p)), some (.ref S), some (.ref D0), none] H3 fun σ H' => ∃ y, σ[2]? = some (some y) ∧ ∃ y1, σ[1]? = some (some y1) ∧ rMemoAt P w y y1 H' Q := by
          intro z hz
          refine ⟨_, rfl, _, rfl, d, pp, p, kv3, z, rfl, rfl, rfl, g3.known.mem, g3.known.keys, po3.pt, hno, by omega, ?_⟩
          have keys : KeysAt (upd H3 d (Memo P w d (kv3 ++ [(p, pp, z)]))) (kv3 ++ [(p, pp, z)]) := by
            intro e he
            have : FzT H3 e.2.1 (e.1.map okV) := by
              rcases List.mem_append.mp he with he | he
              · exact g3.known.keys e he
              · rw [List.mem_singleton.mp he]
                exact po3.pt
            have ne := this.ne g3.known.mem
            obtain ⟨o, h1, h2, h3⟩ := this
            exact ⟨o, h1, h2, by rw [upd_ne ne]; exact h3⟩
          have ppd := po3.pt.ne g3.known.mem
          obtain ⟨o, h1, h2, h3⟩ := po3.pt
          refine ⟨_, rfl, _, rfl, pp, d, p, kv3 ++ [(p, pp, z)], z, rfl, rfl, upd_same, keys, ⟨o, h1, h2, by rw [upd_ne ppd]; exact h3⟩, ?_, ?_⟩
          · rw [memo_put, hno, if_pos rfl]
            rfl
          · rw [hz]
            refine q (kv3 ++ [(p, pp, V0 held r p)]) _ ⟨fun b o hb e => ?_, ⟨upd_same, ?_, ?_⟩, ?_, ?_⟩
            · rw [upd_ne hb]
              exact g3.same b o hb (s2 _ _ e)
            · rw [← hz]
              exact keys
            · intro e he
              rcases List.mem_append.mp he with he | he
              · exact g3.known.good e he
              · rw [List.mem_singleton.mp he]
            · rw [List.length_append]
              show kv3.length + 1 ≤ _
              omega
            · intro e he
              rcases List.mem_append.mp he with he | he
              · rcases g3.new e he with z | z
                · exact .inl z
                · exact .inr (by omega)
              · rw [List.mem_singleton.mp he]
                exact .inr (by show nones p ≤ _; omega)
        refine ⟨_, rfl, rfl, _, rfl, ite2 (fun c => ?_) (fun c => ?_)⟩
        · have ec : colM p = 0 := V.int.inj (of_decide_eq_true c)
          refine ⟨_, rfl, D0, told, rfl, SqL.of e3, tpos, fun z z1 z2 => fin z ?_⟩
          rw [turn]
          unfold bestM
          rw [if_pos ec]
          exact (max_is z1 z2).symm
        · have ec : ¬ colM p = 0 := fun z => c (decide_eq_true (by rw [z]))
          refine ⟨_, rfl, D0, told, rfl, SqL.of e3, tpos, fun z z1 z2 => fin z ?_⟩
          rw [turn]
          unfold bestM
          rw [if_neg ec]
          exact (min_is z1 z2).symm
theorem ok_value (D : Dn K mg "value_in" dValue ["frame", "painted", "known"] f fd) (T : Txt mg) (Gc : Has P w K mg base "colour_next" ["painted"] 1 spColour) (Gb : Has P w K mg base "behind" ["painted", "cell", "colour"] 1 (spBehind K))
    (Gd : Has P w K mg base "difference" ["frame", "cells"] 9 (spDiff K)) : ∀ m, Has P w K mg base "value_in" ["frame", "painted", "known"] (10 + m) (spValue P w K m)
  | 0 => ok_value0 D T Gd
  | m + 1 => ok_valueS m D T Gc Gb (ok_value D T Gc Gb Gd m)
end
end FT
end
section
set_option Elab.async false
set_option linter.all false
set_option maxRecDepth 100000
set_option maxHeartbeats 4000000
/-! FtD8: painters_value, painters_cells. -/
namespace FT
open PySem PySem.Spec L2
open PyProof.Rows hiding St
theorem PaintOk.but {P : Program} {w : World} {K : PySem.W.Frag} {H H' : Hp} {d pf pp : Addr} {kvs : List Ent} {n : Nat} {held : List Int} {r : Bool} {p : Pt} (x : PaintOk K H pf pp n held r p) (e : H d = some (Memo P w d kvs)) (s : SameBut d H H') : PaintOk K H' pf pp n held r p :=
  ⟨x.fr.but e s, x.pt.but e s, x.fits, x.hl, x.ok, x.bal, x.len⟩
theorem known_new {P : Program} {w : World} {held : List Int} {r : Bool} {H : Hp} {d : Addr} : KnownAt P w held r (upd H d (Memo P w d [])) d [] :=
  ⟨upd_same, (fun e he => nomatch he), (fun e he => nomatch he)⟩
theorem same_but_new {H H' : Hp} {d : Addr} {o : HO} (n : H d = none) (s : SameBut d (upd H d o) H') : Same H H' := fun b x e => by
  have hb := ne_of_none e n
  exact s b x hb (by rw [upd_ne hb]; exact e)
theorem nones_le (p : Pt) : nones p ≤ p.length := List.count_le_length
/-- the cells that reach the value -/
def playsM (held : List Int) (r : Bool) (p : Pt) : List Nat := (freeM p).filter fun k => decide (V0 held r (behindM p k (colM p)) = V0 held r p)
section
variable {P : Program} {w : World} {K : PySem.W.Frag} {mg : Str → Option Value} {base : Heap} {f : Addr} {fd : FuncData}
def spPValue (K : PySem.W.Frag) : Sp := fun vs H Q _ => ∃ (pf pp : Addr) (n : Nat) (held : List Int) (r : Bool) (p : Pt), vs = [.ref pf, .ref pp] ∧ PaintOk K H pf pp n held r p ∧ ∀ H', Same H H' → Q (.int (V0 held r p)) H'
theorem scPValue : FnScope ["frame", "painted"] ["frame", "painted"] (defScope dPValue) := ⟨rfl, rfl, rfl, by decide +kernel, rfl, by decide +kernel, by decide +kernel⟩
theorem ok_pvalue (D : Dn K mg "painters_value" dPValue ["frame", "painted"] f fd) (G1 : Has P w K mg base "need_painted" ["frame", "painted"] 4 (spNeedPainted K)) (Gv : ∀ m, Has P w K mg base "value_in" ["frame", "painted", "known"] (10 + m) (spValue P w K m)) :
    Has P w K mg base "painters_value" ["frame", "painted"] 19 (spPValue K) := by
  refine D.has (D.fn.ok scPValue (fun vs H Q E h => ?_) (fun cdv A outer s H vs Q E hr h => ?_))
  · obtain ⟨pf, pp, n, held, r, p, rfl, _⟩ := h
    rfl
  obtain ⟨pf, pp, n, held, r, p, rfl, po, q⟩ := h
  have m7 := nones_le p
  have n7 := po.fits.n7
  have pn := po.len
  refine ⟨_, pss_cons (ps_expr (pe_has G1 (hr.mono (by decide)) (by rfl) (pa_cons (pv 0) (pa_cons (pv 1) pa_nil))))
    (pss_one (ps_ret (pe_has (Gv (nones p)) (hr.mono (show 10 + nones p ≤ 18 by omega)) (by rfl) (pa_cons (pv 0) (pa_cons (pv 1) (pa_cons pe_memoNew pa_nil)))))), ?_⟩
  have c7 : cost (nones p) ≤ 8660 := by
    have z := cost_le (show nones p ≤ 7 by omega)
    rw [cost_7] at z
    exact z
  refine ⟨_, rfl, _, rfl, pf, pp, n, held, r, p, rfl, po, fun H1 s1 => ?_⟩
  refine ⟨_, rfl, _, rfl, fun d nd => ?_⟩
  refine ⟨pf, pp, d, n, held, r, p, [], rfl, (po.same s1).same (same_put nd), known_new, rfl, ?_, fun kvs' H' g => q H' (s1.trans (same_but_new nd g.same))⟩
  show 0 + cost (nones p) ≤ 25000
  omega
def spPCells (K : PySem.W.Frag) : Sp := fun vs H Q _ => ∃ (pf pp : Addr) (n : Nat) (held : List Int) (r : Bool) (p : Pt), vs = [.ref pf, .ref pp] ∧ PaintOk K H pf pp n held r p ∧
  ∀ t H', Same H H' → SqT K H' t ((playsM held r p).map fun k => V.int ((k : Nat) : Int)) → Q (.ref t) H'
theorem scPCells : FnScope ["frame", "painted", "known", "colour", "best", "found", "k"] ["frame", "painted"] (defScope dPCells) := ⟨rfl, rfl, rfl, by decide +kernel, rfl, by decide +kernel, by decide +kernel⟩
theorem ok_pcells (D : Dn K mg "painters_cells" dPCells ["frame", "painted"] f fd) (T : Txt mg) (G1 : Has P w K mg base "need_painted" ["frame", "painted"] 4 (spNeedPainted K)) (Gc : Has P w K mg base "colour_next" ["painted"] 1 spColour) (Gb : Has P w K mg base "behind" ["painted", "cell", "colour"] 1 (spBehind K))
    (Gv : ∀ m, Has P w K mg base "value_in" ["frame", "painted", "known"] (10 + m) (spValue P w K m)) :
    Has P w K mg base "painters_cells" ["frame", "painted"] 19 (spPCells K) := by
  refine D.has (D.fn.ok scPCells (fun vs H Q E h => ?_) (fun cdv A outer s H vs Q E hr h => ?_))
  · obtain ⟨pf, pp, n, held, r, p, rfl, _⟩ := h
    rfl
  obtain ⟨pf, pp, n, held, r, p, rfl, po, q⟩ := h
  have nd := scPCells.nd
  have m7 := nones_le p
  have n7 := po.fits.n7
  have pn := po.len
  have hr1 := hr.mono (show 1 ≤ 18 by decide)
  refine ⟨_, pss_cons (ps_expr (pe_has G1 (hr.mono (by decide)) (by rfl) (pa_cons (pv 0) (pa_cons (pv 1) pa_nil))))
    (pss_cons (ps_par (i := 2) (j := 3) (by rfl) nd rfl rfl (by decide) rfl rfl (pa_cons pe_memoNew (pa_cons (pe_has Gc hr1 (by rfl) (pa_cons (pv 1) pa_nil)) pa_nil)) (by rfl))
    (pss_cons (ps_set (i := 4) nd rfl (Or.inl rfl) (pe_has (Gv (nones p)) (hr.mono (show 10 + nones p ≤ 18 by omega)) (by rfl) (pa_cons (pv 0) (pa_cons (pv 1) (pa_cons (pv 2) pa_nil)))))
    (pss_cons (ps_set (i := 5) nd rfl (Or.inl rfl) (pe_lst pa_nil))
    (pss_cons (ps_for PassesOwn.never rfl (pi_range1 (by rfl) T.range (pa_cons (pe_callB call_len_seq (by rfl) T.len b_len (pa_cons (pv 1) pa_nil)) pa_nil)) (pg_name (i := 6) nd rfl (Or.inl rfl))
      (pss_one (ps_if (PW.pt (pw_and (pt_cmpR op_isN (pe_ix ix_tup (pv 1) (pv 6) (fun _ _ => rfl)) pe_non (nomark _))
          (pw_and1 (pt_cmpR op_eq (pe_has (Gv (nones p - 1)) (hr.mono (show 10 + (nones p - 1) ≤ 18 by omega)) (by rfl) (pa_cons (pv 0) (pa_cons (pe_has Gb hr1 (by rfl) (pa_cons (pv 1) (pa_cons (pv 6) (pa_cons (pv 3) pa_nil)))) (pa_cons (pv 2) pa_nil)))) (pv 4) (nomark _)))))
        (pss_one (ps_expr (pe_bm PySem.F.plainAttrs_list PySem.F.slot_list_append PySem.F.type_list_append mt_append (pv 5) (pa_cons (pv 6) pa_nil)))) pss_nil)))
    (pss_one (ps_ret (pe_callTy call_tuple_of (by rfl) T.tuple b_tuple (pa_cons (pv 5) pa_nil)))))))), ?_⟩
  have c7 : cost (nones p) ≤ 8660 := by
    have z := cost_le (show nones p ≤ 7 by omega)
    rw [cost_7] at z
    exact z
  have pl : (p.map okV).length = p.length := List.length_map _
  refine ⟨_, rfl, _, rfl, pf, pp, n, held, r, p, rfl, po, fun H1 s1 => ?_⟩
  refine fun d hd => ?_
  have po1 := (po.same s1).same (same_put (o := Memo P w d []) hd)
  refine ⟨_, rfl, pp, p, rfl, po1.pt, _, _, rfl, ?_⟩
  refine ⟨_, rfl, _, rfl, _, rfl, pf, pp, d, n, held, r, p, [], rfl, po1, known_new, rfl, (by show 0 + cost (nones p) ≤ 25000; omega), fun kv2 H2 g2 => ?_⟩
  have po2 : PaintOk K H2 pf pp n held r p := po1.but (P := P) (w := w) (kvs := []) upd_same g2.same
  have kn2 := g2.known
  have s2 : Same H H2 := s1.trans (same_but_new hd g2.same)
  refine ⟨Nat.zero_le _, fun F nF => ?_⟩
  have Fd : F ≠ d := by
    rintro rfl
    rw [kn2.mem] at nF
    cases nF
  have po3 := po2.same (same_put (o := .lst []) nF)
  refine ⟨_, rfl, pp, _, rfl, .inr po3.pt.t, _, rfl, by omega, by omega, ?_⟩
  rw [pl, Int.toNat_natCast]
  have kl2 : kv2.length ≤ 0 + cost (nones p) := g2.len
  have acc : ∀ i, i < p.length → ∀ b : Bool, (p[i]? = some none ∧ V0 held r (behindM p i (colM p)) = V0 held r p ↔ b = true) → (freeTo p (i + 1)).filter (fun k => decide (V0 held r (behindM p k (colM p)) = V0 held r p)) = (freeTo p i).filter (fun k => decide (V0 held r (behindM p k (colM p)) = V0 held r p)) ++ if b = true then [i] else [] := by
    intro i hi b hb
    rw [List.getElem?_eq_getElem hi] at hb
    rw [free_succ hi, List.filter_append]
    congr 1
    by_cases c : p[i] = none
    · rw [if_pos c, List.filter_cons]
      cases b with
      | true =>
        rw [if_pos (decide_eq_true (hb.mpr rfl).2), if_pos rfl]
        rfl
      | false =>
        rw [if_neg (fun z => absurd (hb.mp ⟨by rw [c], of_decide_eq_true z⟩) (by decide)), if_neg (by decide)]
        rfl
    · rw [if_neg c]
      cases b with
      | true => exact absurd (Option.some.inj (hb.mpr rfl).1) c
      | false =>
        rw [if_neg (by decide)]
        rfl
  refine for_range (lo := 0) (n := p.length) (fun i σ H' => ∃ y6 kv', σ = [some (.ref pf), some (.ref pp), some (.ref d), some (.int (colM p)), some (.int (V0 held r p)), some (.ref F), y6] ∧ Grown P w held r d ((freeTo p i).length * cost (nones p - 1)) (nones p) H2 kv2 H' kv' ∧
      H' F = some (.lst (((freeTo p i).filter fun k => decide (V0 held r (behindM p k (colM p)) = V0 held r p)).map fun k => V.int ((k : Nat) : Int))))
    ⟨none, kv2, rfl, by rw [show (freeTo p 0).length = 0 from rfl, Nat.zero_mul]; exact Grown.zero kn2 (same_put nF), upd_same⟩ ?_ ?_
  · rintro i σ H3 hi ⟨y6, kv3, rfl, g3, e3⟩
    rw [Int.zero_add]
    have po4 : PaintOk K H3 pf pp n held r p := po2.but kn2.mem g3.same
    refine ⟨_, rfl, _, rfl, pp, _, _, _, rfl, rfl, po4.pt.t, pt_at hi, rfl, _, rfl, ?_⟩
    rw [okV_non]
    refine ite2 (fun c => ?_) (fun c => ?_)
    · have hpi : p[i] = none := of_decide_eq_true c
      have hfree : p[i]? = some none := by rw [List.getElem?_eq_getElem hi, hpi]
      have nb := nones_behind (c := colM p) hfree
      have fs : (freeTo p (i + 1)).length = (freeTo p i).length + 1 := by
        rw [free_succ hi, if_pos hpi, List.length_append]
        rfl
      have fb : (freeTo p (i + 1)).length ≤ nones p := by
        rw [← free_len p, ← free_to p]
        unfold freeTo
        have : ∀ a b : Nat, a ≤ b → ((List.range a).filter fun k => decide (p[k]? = some none)).length ≤ ((List.range b).filter fun k => decide (p[k]? = some none)).length := fun a b h =>
          (List.Sublist.filter _ (List.range_sublist.mpr h)).length_le
        exact this _ _ hi
      have big : ((freeTo p i).length + 1) * cost (nones p - 1) ≤ cost (nones p) := by
        obtain ⟨m, hm⟩ : ∃ m, nones p = m + 1 := ⟨nones p - 1, by omega⟩
        have z := Nat.mul_le_mul_right (cost (nones p - 1)) (show (freeTo p i).length + 1 ≤ nones p by omega)
        rw [hm] at z ⊢
        show _ ≤ 1 + (m + 1) * cost m
        rw [show m + 1 - 1 = m from rfl] at z ⊢
        omega
      rw [Nat.succ_mul] at big
      refine ⟨_, rfl, _, rfl, _, rfl, _, rfl, pp, p, i, colM p, rfl, po4.pt, hi, by omega, fun pq H4 s4 fq => ?_⟩
      have g4 := g3.trans (Grown.zero g3.known s4)
      have l4 := g4.len
      refine ⟨_, rfl, pf, pq, d, n, held, r, behindM p i (colM p), kv3, rfl, ⟨po4.fr.same s4, fq, po.fits, po.hl, okp_behind po.ok (col_01 p), bal_behind hfree po.bal, by rw [behind_length]; exact po.len⟩, g4.known, by omega, by omega, fun kv5 H5 g5 => ?_⟩
      have eF := g5.same _ _ Fd (s4 _ _ e3)
      have g6 := g4.trans (g5.wide (Nat.le_refl _) (Nat.sub_le _ _))
      have g7 : Grown P w held r d ((freeTo p (i + 1)).length * cost (nones p - 1)) (nones p) H2 kv2 H5 kv5 := by
        rw [fs, Nat.succ_mul]
        exact g6.wide (by omega) (Nat.le_refl _)
      refine ⟨_, rfl, rfl, _, rfl, ite2 (fun c2 => ?_) (fun c2 => ?_)⟩
      · have ev : V0 held r (behindM p i (colM p)) = V0 held r p := V.int.inj (of_decide_eq_true c2)
        refine ⟨_, rfl, .inl ⟨rfl, _, SqL.of eF⟩, _, rfl, F, _, _, rfl, rfl, eF, ?_, ?_⟩
        · rw [List.length_map]
          have z := List.length_filter_le (fun k => decide (V0 held r (behindM p k (colM p)) = V0 held r p)) (freeTo p i)
          have z2 := freeTo_len p i
          exact small1000 (by omega)
        · refine ⟨_, kv5, rfl, ⟨fun b o hb e => ?_, ⟨by rw [upd_ne (Ne.symm Fd)]; exact g7.known.mem, fun e he => ?_, g7.known.good⟩, g7.len, g7.new⟩, ?_⟩
          · by_cases hbF : b = F
            · rw [hbF, nF] at e
              cases e
            · rw [upd_ne hbF]
              exact g7.same b o hb e
          · obtain ⟨o, h1, h2, h3⟩ := g7.known.keys e he
            refine ⟨o, h1, h2, ?_⟩
            rw [upd_ne ?_]
            · exact h3
            · intro hb
              rw [hb, eF] at h3
              cases h3
          · rw [upd_same, acc i hi true ⟨fun _ => rfl, fun _ => ⟨hfree, ev⟩⟩, List.map_append]
            rfl
      · refine ⟨_, kv5, rfl, g7, ?_⟩
        rw [acc i hi false ⟨fun z => absurd (decide_eq_true (by rw [z.2])) c2, fun z => nomatch z⟩, if_neg (by decide), List.append_nil]
        exact eF
    · refine ⟨_, kv3, rfl, ?_, ?_⟩
      · rw [free_succ hi, if_neg (fun z => c (decide_eq_true z)), List.append_nil]
        exact g3
      · rw [acc i hi false ⟨fun z => absurd (by have y := z.1; rw [List.getElem?_eq_getElem hi] at y; exact decide_eq_true (Option.some.inj y)) c, fun z => nomatch z⟩, if_neg (by decide), List.append_nil]
        exact e3
  · rintro σ H3 ⟨y6, kv3, rfl, g3, e3⟩
    rw [free_to] at e3
    refine ⟨_, rfl, F, _, rfl, .inl ⟨SqL.of e3, fun t nt => ?_⟩⟩
    refine q t _ (Same.trans (fun b o e => g3.same b o (ne_of_none (s1 _ _ e) hd) (s2 b o e)) (same_put nt)) (SqT.of upd_same)
end
end FT
end
section
set_option Elab.async false
set_option linter.all false
set_option maxRecDepth 100000
set_option maxHeartbeats 4000000
/-! FtD9: masses_in, masses. -/
namespace FT
open PySem PySem.Spec L2
open PyProof.Rows hiding St
/-- the pairs of a value and how often it stands -/
def PairsAt (K : PySem.W.Frag) (H : Hp) (cs : List Int) (ps : List Addr) (ns : List Int) : Prop := Paired (fun p (c : Int) => SqT K H p [.int c, .int ((cs.count c : Nat) : Int)]) ps ns
theorem paired_same {K : PySem.W.Frag} {H H' : Hp} {cs : List Int} (s : Same H H') : ∀ {ps : List Addr} {ns : List Int}, PairsAt K H cs ps ns → PairsAt K H' cs ps ns
  | _, _, .nil => .nil
  | _, _, .cons h t => .cons (sameT s h) (paired_same s t)
theorem paired_len {α β : Type} {F : α → β → Prop} : ∀ {ps : List α} {ns : List β}, Paired F ps ns → ps.length = ns.length
  | _, _, .nil => rfl
  | _, _, .cons _ t => by rw [List.length_cons, List.length_cons, paired_len t]
section
variable {P : Program} {w : World} {K : PySem.W.Frag} {mg : Str → Option Value} {base : Heap} {f : Addr} {fd : FuncData}
theorem listOf_of {X : Cx} (h : X.K = K) : CallR X (.type "list") (fun xs H Q => ∃ p ys, xs = [.ref p] ∧ (SqL K H p ys ∨ SqT K H p ys) ∧ ∀ l, H l = none → Q (.ref l) (upd H l (.lst ys))) := by
  subst h
  exact call_list_of
theorem pe_lcountK {X : Cx} {o e : Expr} {to : TE} {t : TA} {apos cpos : Pos} (h : X.K = K) (ho : PE X o to) (ha : PA X [e] t)
    (hbase : attributeBase o "count" X.env (eval o X.env) = eval o X.env := by rfl)
    (hfew : ((backTo cpos (starEach [e] X.env)).all (fun x => !x.1) && (backToKw cpos (keywordEach [] X.env)).all (fun x => x.1.isSome)
      && decide (([e] : List Expr).length + ([] : List Keyword).length + (if ([] : List Keyword).isEmpty then 0 else 1) < 30)) = true := by rfl)
    (hline : (apos.endLine == cpos.line) = true := by rfl) (hs : starEach [e] X.env = (false, eval e X.env) :: starEach [] X.env := by rfl) (hplain : (backTo cpos (starEach [] X.env)).any (·.1) = false := by rfl) :
    PE X (.Call (.Attribute o "count" apos) [e] [] cpos) (tBM K "list" (rCntI K) to t) := by
  subst h
  exact pe_bm PySem.F.plainAttrs_list PySem.F.slot_list_count PySem.F.type_list_count mt_lcount ho ha hbase hfew hline hs hplain
def spMassIn (K : PySem.W.Frag) : Sp := fun vs H Q _ => ∃ (pc : Addr) (cs : List Int), vs = [.ref pc] ∧ SqT K H pc (cs.map V.int) ∧ cs.length < 60 ∧
  ∀ p H' (ps : List Addr) (ns : List Int), Same H H' → PairsAt K H' cs ps ns → (∀ c, c ∈ ns ↔ c ∈ cs) → ns.length ≤ cs.length → H' p = some (.lst (ps.map V.ref)) → Q (.ref p) H'
theorem scMassIn : FnScope ["cells", "one"] ["cells"] (defScope dMassesIn) := ⟨rfl, rfl, rfl, by decide +kernel, rfl, by decide +kernel, by decide +kernel⟩
theorem ok_massIn (D : Dn K mg "masses_in" dMassesIn ["cells"] f fd) (T : Txt mg) : Has P w K mg base "masses_in" ["cells"] 1 (spMassIn K) := by
  refine D.has (D.fn.ok scMassIn (fun vs H Q E h => ?_) (fun cdv A outer s H vs Q E hr h => ?_))
  · obtain ⟨pc, cs, rfl, _⟩ := h
    rfl
  obtain ⟨pc, cs, rfl, hC, hl, q⟩ := h
  have nd := scMassIn.nd
  refine ⟨_, pss_one (ps_ret (pe_lc (own := [("one", 1)]) (g := gName 1) (by rfl) nd (pi_list (pe_callB (cr_sortedSet rfl) (by rfl) T.sorted b_sorted (pa_cons (pe_callTy (call_setI rfl) (by rfl) T.set b_set (pa_cons (pv 0) pa_nil)) pa_nil)))
    (blkOk_by (own := [("one", 1)]) (N := ["cells", "one"]) (sc := defScope dMassesIn) (by decide +kernel)) (fun _ _ _ _ _ => pg_name (i := 1) nd rfl (Or.inl rfl)) (fun _ _ _ _ _ => pts_nil)
    (fun _ _ _ _ _ => pe_tup (pa_cons (pv 1) (pa_cons (pe_lcountK (K := K) rfl (pe_callTy (listOf_of (K := K) rfl) (by rfl) T.list b_list (pa_cons (pv 0) pa_nil)) (pa_cons (pv 1) pa_nil)) pa_nil))))), ?_⟩
  refine ⟨_, rfl, pc, cs, rfl, .inr hC, by omega, fun a c na hc => ?_⟩
  have s1 : Same H (upd H a (SetO w a (fun j => decide (j ∈ cs)) c)) := same_put na
  refine ⟨a, _, c, rfl, upd_same, by omega, fun ns p2 asc mem len np2 => ?_⟩
  have s2 := s1.trans (same_put (o := .lst (ns.map V.int)) np2)
  refine ⟨p2, rfl, ⟨_, SqL.of upd_same⟩, fun D0 nD => ?_⟩
  have nDH : H D0 = none := by
    cases h : H D0 with
    | none => rfl
    | some o => exact absurd (nD.symm.trans (s2 _ _ h)) (by simp)
  have pD : p2 ≠ D0 := fun z => by
    subst z
    exact absurd (nD.symm.trans upd_same) (by simp)
  refine lc_list (K := K) (a := p2) (xs := ns.map V.int) (fun i H' => ∃ ps, Same H H' ∧ H' p2 = some (.lst (ns.map V.int)) ∧ H' D0 = some (.lst (ps.map V.ref)) ∧ PairsAt K H' cs ps (ns.take i)) ⟨[], s2.trans (same_put nD), by rw [upd_ne pD]; exact upd_same, upd_same, .nil⟩ (fun i H' _ ⟨_, _, e, _⟩ => SqL.of e) ?_ ?_
  · rintro i x H3 hx ⟨ps, s3, e2, e3, pr⟩
    obtain ⟨k, rfl, hk⟩ := int_at hx
    have hi : i < ns.length := (List.getElem?_eq_some_iff.mp hk).1
    refine ⟨rfl, _, rfl, _, rfl, pc, _, rfl, .inr (sameT s3 hC), fun l nl => ?_⟩
    have s4 : Same H3 (upd H3 l (.lst (cs.map V.int))) := same_put nl
    refine ⟨.inl ⟨rfl, _, SqL.of upd_same⟩, _, rfl, l, cs, k, rfl, rfl, SqL.of upd_same, (by show 2 ≤ sizeLine; decide), fun t nt => ?_⟩
    have s5 := s4.trans (same_put (o := .tup [.int k, .int ((cs.count k : Nat) : Int)]) nt)
    refine ⟨_, s5 _ _ e3, ?_, ⟨ps ++ [t], same_in (s3.trans s5) nDH, by rw [upd_ne pD]; exact s5 _ _ e2, ?_, ?_⟩⟩
    · rw [List.length_map, paired_len pr]
      have z := List.length_take_le i ns
      exact small1000 (by rw [List.length_take]; omega)
    · rw [upd_same, List.map_append]
      rfl
    · rw [List.take_add_one, hk]
      have ne : t ≠ D0 := fun z => by
        rw [z, s4 _ _ e3] at nt
        cases nt
      have ht : SqT K (upd (upd (upd H3 l (.lst (cs.map V.int))) t (.tup [.int k, .int ((cs.count k : Nat) : Int)])) D0 (.lst (ps.map V.ref ++ [.ref t]))) t [.int k, .int ((cs.count k : Nat) : Int)] := SqT.of (by rw [upd_ne ne]; exact upd_same)
      refine Paired.app ?_ (.cons ht .nil)
      have each : ∀ {qs : List Addr} {ms : List Int}, PairsAt K H3 cs qs ms → PairsAt K (upd (upd (upd H3 l (.lst (cs.map V.int))) t (.tup [.int k, .int ((cs.count k : Nat) : Int)])) D0 (.lst (ps.map V.ref ++ [.ref t]))) cs qs ms := by
        intro qs ms h
        induction h with
        | nil => exact .nil
        | @cons b c qs ms h _ ih =>
          refine .cons ?_ ih
          have y := sameT s5 h
          rcases y with (y | ⟨o, y⟩) | y
          · refine .inl (.inl ?_)
            rw [upd_ne ?_]
            · exact y
            · rintro rfl
              rw [s5 _ _ e3] at y
              cases y
          · refine .inl (.inr ⟨o, ?_⟩)
            rw [upd_ne ?_]
            · exact y
            · rintro rfl
              rw [s5 _ _ e3] at y
              cases y
          · exact .inr y
      exact each pr
  · rintro H3 ⟨ps, s3, e2, e3, pr⟩
    rw [List.length_map, List.take_of_length_le (Nat.le_refl _)] at pr
    refine q D0 H3 ps ns s3 pr (fun x => ?_) (by omega) e3
    rw [mem x]
    simp
def spMasses (K : PySem.W.Frag) : Sp := fun vs H Q _ => ∃ (pl : Addr) (cs held : List Int) (r : Bool), vs = [.ref pl] ∧ LineOk K H pl cs held r ∧
  ∀ t H' (ps : List Addr) (ns : List Int), Same H H' → PairsAt K H' cs ps ns → (∀ c, c ∈ ns ↔ c ∈ cs) → FzT H' t (ps.map V.ref) → Q (.ref t) H'
theorem scMasses : FnScope ["line"] ["line"] (defScope dMasses) := ⟨rfl, rfl, rfl, by decide +kernel, rfl, by decide +kernel, by decide +kernel⟩
theorem ok_masses (D : Dn K mg "masses" dMasses ["line"] f fd) (T : Txt mg) (G1 : Has P w K mg base "need_line" ["line"] 3 (spNeedLine K)) (G2 : Has P w K mg base "masses_in" ["cells"] 1 (spMassIn K)) : Has P w K mg base "masses" ["line"] 4 (spMasses K) := by
  refine D.has (D.fn.ok scMasses (fun vs H Q E h => ?_) (fun cdv A outer s H vs Q E hr h => ?_))
  · obtain ⟨pl, cs, held, r, rfl, _⟩ := h
    rfl
  obtain ⟨pl, cs, held, r, rfl, hk, q⟩ := h
  obtain ⟨⟨ac, ah, hL, hC, hT⟩, ft, cb, hhl⟩ := id hk
  have n7 := ft.n7
  refine ⟨_, pss_cons (ps_expr (pe_has G1 hr (by rfl) (pa_cons (pv 0) pa_nil)))
    (pss_one (ps_ret (pe_callTy call_tupleF (by rfl) T.tuple b_tuple (pa_cons (pe_has G2 (hr.mono (by decide)) (by rfl) (pa_cons (pe_ix ix_tup (pv 0) pe_int (fun _ _ => rfl)) pa_nil)) pa_nil)))), ?_⟩
  refine ⟨_, rfl, pl, cs, held, r, rfl, hk.1, ft, cb, hhl, fun H1 s1 => ?_⟩
  refine ⟨_, rfl, pl, _, 0, .ref ac, rfl, rfl, sameT s1 hL, rfl, ac, cs, rfl, sameT s1 hC, by omega, fun p H2 ps ns s2 pr mem len e2 => ?_⟩
  exact ⟨p, _, rfl, SqL.of e2, fun t H3 n3 => q t H3 ps ns (s1.trans (s2.trans n3.same)) (paired_same n3.same pr) mem n3.at⟩
end
/-- the dict of the pairs -/
theorem merge_val {g : Int → V} : ∀ (ns : List Int) (acc : List (L2.Key × V)) (k : Int), valV (mergeK acc (ns.map fun c => (Sum.inl c, g c))) (Sum.inl k) = if k ∈ ns then some (g k) else valV acc (Sum.inl k)
  | [], acc, k => by
    rw [if_neg (by simp)]
    rfl
  | c :: ns, acc, k => by
    show valV (mergeK (putK acc (Sum.inl c) (g c)) (ns.map fun c => (Sum.inl c, g c))) (Sum.inl k) = _
    rw [merge_val ns, valV_put]
    by_cases h : k ∈ ns
    · rw [if_pos h, if_pos (List.mem_cons_of_mem _ h)]
    · rw [if_neg h]
      by_cases e : k = c
      · subst e
        rw [if_pos rfl, if_pos List.mem_cons_self]
      · rw [if_neg (fun z => e (Sum.inl.inj z)), if_neg (fun z => by
          rcases List.mem_cons.mp z with z | z
          · exact e z
          · exact h z)]
theorem pairs_kv {K : PySem.W.Frag} {H : Hp} {cs : List Int} : ∀ {ps : List Addr} {ns : List Int}, PairsAt K H cs ps ns → Paired (fun p (kv : L2.Key × V) => SqT K H p [kV kv.1, kv.2]) ps (ns.map fun c => (Sum.inl c, V.int ((cs.count c : Nat) : Int)))
  | _, _, .nil => .nil
  | _, _, .cons h t => .cons h (pairs_kv t)
/-- what the dict of the masses says of a value -/
theorem told_of {cs ns : List Int} (mem : ∀ c, c ∈ ns ↔ c ∈ cs) (k : Int) : (valV (mergeK [] (ns.map fun c => (Sum.inl c, V.int ((cs.count c : Nat) : Int)))) (Sum.inl k)).getD (.int 0) = .int ((cs.count k : Nat) : Int) := by
  rw [merge_val]
  by_cases h : k ∈ ns
  · rw [if_pos h]
    rfl
  · rw [if_neg h, List.count_eq_zero.mpr (fun z => h ((mem k).mpr z))]
    rfl
end FT
end
section
set_option Elab.async false
set_option linter.all false
set_option maxRecDepth 100000
set_option maxHeartbeats 4000000
/-! FtD10: _law_taken, _law_order. -/
namespace FT
open PySem PySem.Spec L2
open PyProof.Rows hiding St
/-- the row of the law: script, place, seed, what is left -/
def RowAt (K : PySem.W.Frag) (H : Hp) (row : Addr) (S : Addr) (xs : List Int) : Prop :=
  ∃ a b c : Int, 0 ≤ a ∧ (S ≠ row ∨ ∀ H0, SqL K H0 S (xs.map V.int)) ∧ H row = some (.lst [.ref S, .int a, .int b, .int c]) ∧ SqL K H S (xs.map V.int)
section
variable {P : Program} {w : World} {K : PySem.W.Frag} {mg : Str → Option Value} {base : Heap} {f : Addr} {fd : FuncData}
theorem but_l {H H' : Hp} {d a : Addr} {xs : List V} (h : SqL K H a xs) (n : a ≠ d ∨ ∀ H0, SqL K H0 a xs) (s : SameBut d H H') : SqL K H' a xs := by
  rcases n with n | n
  case inr => exact n H'
  rcases h with (h | ⟨o, h⟩) | h
  · exact .inl (.inl (s _ _ n h))
  · exact .inl (.inr ⟨o, s _ _ n h⟩)
  · exact .inr h
theorem sameL {H H' : Hp} {a : Addr} {xs : List V} (s : Same H H') (h : SqL K H a xs) : SqL K H' a xs := by
  rcases h with (h | ⟨o, h⟩) | h
  · exact .inl (.inl (s _ _ h))
  · exact .inl (.inr ⟨o, s _ _ h⟩)
  · exact .inr h
theorem RowAt.same {H H' : Hp} {row S : Addr} {xs : List Int} (h : RowAt K H row S xs) (s : Same H H') : RowAt K H' row S xs :=
  let ⟨a, b, c, h0, n, e, q⟩ := h; ⟨a, b, c, h0, n, s _ _ e, sameL s q⟩
theorem scr_new {H : Hp} {row S : Addr} {xs : List V} (h : SqL K H S xs) (n : H row = none) : S ≠ row ∨ ∀ H0, SqL K H0 S xs := by
  rcases h with (h | ⟨o, h⟩) | h
  · exact .inl (ne_of_none h n)
  · exact .inl (ne_of_none h n)
  · exact .inr fun _ => .inr h
theorem but_upd {H : Hp} {d : Addr} {o : HO} : SameBut d H (upd H d o) := fun b x n e => by
  rw [upd_ne n]
  exact e
def spTaken (K : PySem.W.Frag) : Sp := fun vs H Q _ => ∃ (row S : Addr) (xs : List Int) (m : Int), vs = [.ref row, .int m] ∧ RowAt K H row S xs ∧ 0 < m ∧ m < 1000 ∧
  ∀ (v : Int) H', 0 ≤ v → v < m → SameBut row H H' → RowAt K H' row S xs → Q (.int v) H'
theorem scTaken : FnScope ["_law_row", "_law_many", "_law_found", "_law_cell"] ["_law_row", "_law_many"] (defScope dTaken) := ⟨rfl, rfl, rfl, by decide +kernel, rfl, by decide +kernel, by decide +kernel⟩
theorem ok_taken (D : Dn K mg "_law_taken" dTaken ["_law_row", "_law_many"] f fd) (T : Txt mg) : Has P w K mg base "_law_taken" ["_law_row", "_law_many"] 1 (spTaken K) := by
  refine D.has (D.fn.ok scTaken (fun vs H Q E h => ?_) (fun cdv A outer s H vs Q E hr h => ?_))
  · obtain ⟨row, S, xs, m, rfl, _⟩ := h
    rfl
  obtain ⟨row, S, xs, m, rfl, ⟨a, b, c, ha, nS, eR, hS⟩, m0, m1, q⟩ := h
  have nd := scTaken.nd
  have mods : ∀ z : Int, 0 ≤ z % m ∧ z % m < m := fun z => ⟨Int.emod_nonneg _ (by omega), Int.emod_lt_of_pos _ m0⟩
  refine ⟨_, pss_cons (ps_if (pt_cmpR op_gt (pe_ix ix_list (pv 0) pe_int (fun _ _ => rfl)) pe_int (nomark _))
      (pss_cons (ps_set (i := 2) nd rfl (Or.inl rfl) (pe_op op_mod (pe_callTy call_int1 (by rfl) T.int b_int (pa_cons (pe_ix ix_list (pv 0) pe_int (fun _ _ => rfl)) pa_nil)) (pv 1)))
      (pss_cons (ps_asg (pe_op op_fdiv (pe_ix ix_list (pv 0) pe_int (fun _ _ => rfl)) (pv 1)) (pg_sub (pv 0) pe_int set_list))
      (pss_one (ps_ret (pv 2))))) pss_nil)
    (pss_cons (ps_asg (pe_op op_add (pe_ix ix_list (pv 0) pe_int (fun _ _ => rfl)) pe_int) (pg_sub (pv 0) pe_int set_list))
    (pss_cons (ps_if (pt_cmpR op_gt (pe_ix ix_list (pv 0) pe_int (fun _ _ => rfl)) (pe_callB call_len_seq (by rfl) T.len b_len (pa_cons (pe_ix ix_list (pv 0) pe_int (fun _ _ => rfl)) pa_nil)) (nomark _))
      (pss_cons (ps_asg (pe_op op_mod (pe_callTy call_int1 (by rfl) T.int b_int (pa_cons (pe_op op_add (pe_op op_mul (pe_ix ix_list (pv 0) pe_int (fun _ _ => rfl)) pe_int) pe_int) pa_nil)) pe_int) (pg_sub (pv 0) pe_int set_list))
      (pss_one (ps_ret (pe_op op_mod (pe_callTy call_int1 (by rfl) T.int b_int (pa_cons (pe_op op_fdiv (pe_ix ix_list (pv 0) pe_int (fun _ _ => rfl)) pe_int) pa_nil)) (pv 1))))) pss_nil)
    (pss_cons (ps_set (i := 3) nd rfl (Or.inl rfl) (pe_ix ix_list (pe_ix ix_list (pv 0) pe_int (fun _ _ => rfl)) (pe_op op_sub (pe_ix ix_list (pv 0) pe_int (fun _ _ => rfl)) pe_int) (fun _ _ => rfl)))
    (pss_cons (ps_asg (pe_op op_mod (pe_callTy call_int1 (by rfl) T.int b_int (pa_cons (pe_op op_add (pe_op op_add (pe_op op_mul (pe_ix ix_list (pv 0) pe_int (fun _ _ => rfl)) pe_int) (pv 3)) pe_int) pa_nil)) pe_int) (pg_sub (pv 0) pe_int set_list))
    (pss_cons (ps_if (pt_cmpR op_ge (pv 3) (pe_op op_pow pe_int pe_int) (nomark _))
      (pss_one (ps_asg (pe_op op_fdiv (pv 3) (pv 1)) (pg_sub (pv 0) pe_int set_list))) pss_nil)
    (pss_one (ps_ret (pe_op op_mod (pe_callTy call_int1 (by rfl) T.int b_int (pa_cons (pv 3) pa_nil)) (pv 1))))))))), ?_⟩
  refine ⟨_, rfl, row, _, 3, .int c, rfl, rfl, SqL.of eR, rfl, c, 0, rfl, rfl, _, rfl, ite2 (fun _ => ?_) (fun _ => ?_)⟩
  · refine ⟨_, rfl, row, _, 3, .int c, rfl, rfl, SqL.of eR, rfl, .inl ⟨c, rfl, _, rfl, c, m, rfl, rfl, m0, ?_⟩⟩
    refine ⟨_, rfl, row, _, 3, .int c, rfl, rfl, SqL.of eR, rfl, _, rfl, c, m, rfl, rfl, ⟨m0, by omega⟩, ?_⟩
    refine ⟨_, rfl, row, _, 3, 3, rfl, rfl, eR, rfl, ?_⟩
    refine ⟨_, rfl, q (c % m) _ (mods c).1 (mods c).2 but_upd ⟨a, b, c / m, ha, nS, upd_same, but_l hS nS but_upd⟩⟩
  refine ⟨_, rfl, row, _, 1, .int a, rfl, rfl, SqL.of eR, rfl, a, 1, rfl, rfl, ?_⟩
  refine ⟨_, rfl, row, _, 1, 1, rfl, rfl, eR, rfl, ?_⟩
  have e1 : upd H row (.lst ([V.ref S, .int a, .int b, .int c].set 1 (.int (a + 1)))) row = some (.lst [.ref S, .int (a + 1), .int b, .int c]) := upd_same
  have b1 : SameBut row H (upd H row (.lst ([V.ref S, .int a, .int b, .int c].set 1 (.int (a + 1))))) := but_upd
  generalize upd H row (.lst ([V.ref S, .int a, .int b, .int c].set 1 (.int (a + 1)))) = H1 at e1 b1 ⊢
  have hS1 : SqL K H1 S (xs.map V.int) := but_l hS nS b1
  have hl : (xs.map V.int).length = xs.length := List.length_map _
  refine ⟨_, rfl, row, _, 1, .int (a + 1), rfl, rfl, SqL.of e1, rfl, _, rfl, row, _, 0, .ref S, rfl, rfl, SqL.of e1, rfl, S, _, rfl, .inl hS1, a + 1, _, rfl, rfl, _, rfl, ite2 (fun _ => ?_) (fun h1 => ?_)⟩
  · refine ⟨_, rfl, row, _, 2, .int b, rfl, rfl, SqL.of e1, rfl, b, 48271, rfl, rfl, .inr ⟨by decide, by decide⟩, _, 11, rfl, rfl, .inl ⟨_, rfl, _, 2147483647, rfl, rfl, (by show (0 : Int) < 2147483647; decide), ?_⟩⟩
    refine ⟨_, rfl, row, _, 2, 2, rfl, rfl, e1, rfl, ?_⟩
    have e2 : upd H1 row (.lst ([V.ref S, .int (a + 1), .int b, .int c].set 2 (.int ((b * 48271 + 11) % 2147483647)))) row = some (.lst [.ref S, .int (a + 1), .int ((b * 48271 + 11) % 2147483647), .int c]) := upd_same
    refine ⟨_, rfl, row, _, 2, _, rfl, rfl, SqL.of e2, rfl, _, 7, rfl, rfl, ⟨by decide, by decide⟩, .inl ⟨_, rfl, _, rfl, _, m, rfl, rfl, m0, ?_⟩⟩
    exact q _ _ (mods _).1 (mods _).2 (b1.trans but_upd) ⟨a + 1, _, c, by omega, nS, e2, but_l hS1 nS but_upd⟩
  · have h2 : ¬ (a + 1 > ((xs.map V.int).length : Int)) := fun z => h1 (decide_eq_true z)
    rw [hl] at h2
    have hx : atI (xs.map V.int) (a + 1 - 1) = some (.int (getI xs (a + 1 - 1))) := at_int (by omega) (by omega)
    generalize getI xs (a + 1 - 1) = x at hx
    refine ⟨_, rfl, row, _, 0, .ref S, rfl, rfl, SqL.of e1, rfl, _, rfl, row, _, 1, .int (a + 1), rfl, rfl, SqL.of e1, rfl, a + 1, 1, rfl, rfl, S, _, _, _, rfl, rfl, hS1, hx, ?_⟩
    refine ⟨_, rfl, row, _, 2, .int b, rfl, rfl, SqL.of e1, rfl, b, 48271, rfl, rfl, .inr ⟨by decide, by decide⟩, _, rfl, _, x, rfl, rfl, _, 11, rfl, rfl, .inl ⟨_, rfl, _, 2147483647, rfl, rfl, (by show (0 : Int) < 2147483647; decide), ?_⟩⟩
    refine ⟨_, rfl, row, _, 2, 2, rfl, rfl, e1, rfl, ?_⟩
    have e2 : upd H1 row (.lst ([V.ref S, .int (a + 1), .int b, .int c].set 2 (.int ((b * 48271 + x + 11) % 2147483647)))) row = some (.lst [.ref S, .int (a + 1), .int ((b * 48271 + x + 11) % 2147483647), .int c]) := upd_same
    have b2 : SameBut row H1 (upd H1 row (.lst ([V.ref S, .int (a + 1), .int b, .int c].set 2 (.int ((b * 48271 + x + 11) % 2147483647))))) := but_upd
    generalize upd H1 row (.lst ([V.ref S, .int (a + 1), .int b, .int c].set 2 (.int ((b * 48271 + x + 11) % 2147483647)))) = H2 at e2 b2 ⊢
    have hS2 : SqL K H2 S (xs.map V.int) := but_l hS1 nS b2
    refine ⟨_, rfl, 10, 18, rfl, rfl, ⟨by decide, by decide, by decide⟩, x, _, rfl, rfl, _, rfl, ite2 (fun _ => ?_) (fun _ => ?_)⟩
    · refine ⟨_, rfl, _, rfl, x, m, rfl, rfl, ⟨m0, by omega⟩, ?_⟩
      refine ⟨_, rfl, row, _, 3, 3, rfl, rfl, e2, rfl, ?_⟩
      refine ⟨_, rfl, .inl ⟨x, rfl, _, rfl, x, m, rfl, rfl, m0, ?_⟩⟩
      exact q _ _ (mods _).1 (mods _).2 ((b1.trans b2).trans but_upd) ⟨a + 1, _, x / m, by omega, nS, upd_same, but_l hS2 nS but_upd⟩
    · refine ⟨_, rfl, .inl ⟨x, rfl, _, rfl, x, m, rfl, rfl, m0, ?_⟩⟩
      exact q _ _ (mods _).1 (mods _).2 (b1.trans b2) ⟨a + 1, _, c, by omega, nS, e2, hS2⟩
/-- the ints 0 .. n - 1 -/
theorem rg_upTo (n : Nat) : rgV 0 (n : Int) = (upTo n).map V.int := by
  unfold rgV upTo
  rw [List.map_map, show ((n : Int) - 0).toNat = n by omega]
  refine List.map_congr_left fun i _ => ?_
  show V.int (0 + (i : Int)) = V.int (i : Int)
  rw [Int.zero_add]
theorem upTo_nodup (n : Nat) : (upTo n).Nodup := by
  unfold upTo
  refine List.Pairwise.map _ (fun a b h => ?_) List.nodup_range
  intro z
  have h' : ((a : Nat) : Int) = (b : Nat) := z
  exact h (by omega)
theorem perm_out {found left : List Int} {k : Nat} {x : Int} (h : left[k]? = some x) : (found ++ [x] ++ (left.take k ++ left.drop (k + 1))).Perm (found ++ left) := by
  obtain ⟨hk, e⟩ := List.getElem?_eq_some_iff.mp h
  have e1 : left = left.take k ++ x :: left.drop (k + 1) := by
    conv => lhs; rw [← List.take_append_drop k left, List.drop_eq_getElem_cons hk, e]
  rw [List.append_assoc]
  refine List.Perm.append_left found ?_
  conv => rhs; rw [e1]
  show (x :: (left.take k ++ left.drop (k + 1))).Perm _
  exact List.perm_middle.symm
theorem int_ne_row {H : Hp} {row S F : Addr} {xs ys : List Int} (h : RowAt K H row S xs) (e : H F = some (.lst (ys.map V.int))) : F ≠ row := by
  obtain ⟨a, b, c, _, _, er, _⟩ := h
  rintro rfl
  rw [e] at er
  cases ys with
  | nil => cases er
  | cons y ys =>
    injection er with er
    injection er with er
    injection er with er _
    cases er
def spOrder (K : PySem.W.Frag) : Sp := fun vs H Q _ => ∃ (row S : Addr) (xs : List Int) (n : Nat), vs = [.ref row, .int (n : Int)] ∧ RowAt K H row S xs ∧ n ≤ 7 ∧
  ∀ (p : Addr) H' (ord : List Int), ord.Perm (upTo n) → SameBut row H H' → RowAt K H' row S xs → H' p = some (.lst (ord.map V.int)) → Q (.ref p) H'
theorem scOrder : FnScope ["_law_row", "_law_many", "_law_left", "_law_found", "_law_turn", "_law_at"] ["_law_row", "_law_many"] (defScope dOrder) := ⟨rfl, rfl, rfl, by decide +kernel, rfl, by decide +kernel, by decide +kernel⟩
theorem ok_order (D : Dn K mg "_law_order" dOrder ["_law_row", "_law_many"] f fd) (T : Txt mg) (G : Has P w K mg base "_law_taken" ["_law_row", "_law_many"] 1 (spTaken K)) : Has P w K mg base "_law_order" ["_law_row", "_law_many"] 2 (spOrder K) := by
  refine D.has (D.fn.ok scOrder (fun vs H Q E h => ?_) (fun cdv A outer s H vs Q E hr h => ?_))
  · obtain ⟨row, S, xs, n, rfl, _⟩ := h
    rfl
  obtain ⟨row, S, xs, n, rfl, hR, n7, q⟩ := h
  have nd := scOrder.nd
  refine ⟨_, pss_cons (ps_par (i := 2) (j := 3) (by rfl) nd rfl rfl (by decide) rfl rfl (pa_cons (pe_listRg (by rfl) (by rfl) T.list (prg_1 (by rfl) T.range (pv 1))) (pa_cons (pe_lst pa_nil) pa_nil)) (by rfl))
    (pss_cons (ps_for PassesOwn.never rfl (pi_range1 (by rfl) T.range (pa_cons (pv 1) pa_nil)) (pg_name (i := 4) nd rfl (Or.inl rfl))
      (pss_cons (ps_set (i := 5) nd rfl (Or.inl rfl) (pe_has G hr (by rfl) (pa_cons (pv 0) (pa_cons (pe_callB call_len_seq (by rfl) T.len b_len (pa_cons (pv 2) pa_nil)) pa_nil))))
      (pss_cons (ps_expr (pe_bm PySem.F.plainAttrs_list PySem.F.slot_list_append PySem.F.type_list_append mt_append (pv 3) (pa_cons (pe_ix ix_list (pv 2) (pv 5) (fun _ _ => rfl)) pa_nil)))
      (pss_one (ps_set (i := 2) nd rfl (Or.inl rfl) (pe_op op_cat (pe_slice sl_list (pv 2) po_none (po_some (pv 5))) (pe_slice sl_list (pv 2) (po_some (pe_op op_add (pv 5) pe_int)) po_none)))))))
    (pss_one (ps_ret (pv 3)))), ?_⟩
  refine ⟨_, rfl, _, rfl, RgOk.of_le (by omega) (by omega) (by omega) (by omega), fun L nL => ⟨(by show 0 ≤ sizeLine; decide), fun F nF => ⟨_, _, rfl, ?_⟩⟩⟩
  rw [rg_upTo] at nF ⊢
  have s1 : Same H (upd H L (.lst ((upTo n).map V.int))) := same_put nL
  have s2 := s1.trans (same_put (o := .lst []) nF)
  have LF : L ≠ F := fun z => by
    rw [← z] at nF
    exact absurd (nF.symm.trans upd_same) (by simp)
  have nFH : H F = none := by
    cases h : H F with
    | none => rfl
    | some o => exact absurd (nF.symm.trans (s1 _ _ h)) (by simp)
  refine ⟨_, rfl, _, rfl, by omega, by omega, ?_⟩
  rw [Int.toNat_natCast]
  refine for_range (lo := 0) (n := n) (fun i σ H' => ∃ (L' : Addr) (left found : List Int) (y4 y5 : Option V), σ = [some (.ref row), some (.int (n : Int)), some (.ref L'), some (.ref F), y4, y5] ∧ SameBut row H H' ∧ RowAt K H' row S xs ∧
      H' L' = some (.lst (left.map V.int)) ∧ H' F = some (.lst (found.map V.int)) ∧ L' ≠ F ∧ left.length + i = n ∧ (found ++ left).Perm (upTo n))
    ⟨L, upTo n, [], none, none, rfl, .of s2, hR.same s2, by rw [upd_ne LF]; exact upd_same, upd_same, LF, by rw [upTo_length]; rfl, List.Perm.refl _⟩ ?_ ?_
  · rintro i σ H3 hi ⟨L', left, found, y4, y5, rfl, s3, hR3, eL, eF, lf, hl, hp⟩
    have hll : (left.map V.int).length = left.length := List.length_map _
    have Frow := int_ne_row hR3 eF
    have Lrow := int_ne_row hR3 eL
    refine ⟨_, rfl, _, rfl, L', _, rfl, .inl (SqL.of eL), row, S, xs, _, rfl, hR3, ?_, ?_, fun v H4 v0 v1 s4 hR4 => ?_⟩
    · rw [hll]; omega
    · rw [hll]; omega
    rw [hll] at v1
    have eL4 := s4 _ _ Lrow eL
    have eF4 := s4 _ _ Frow eF
    obtain ⟨k, rfl⟩ : ∃ k : Nat, v = (k : Int) := ⟨v.toNat, by omega⟩
    have hk : k < left.length := by omega
    have hx : left[k]? = some left[k] := List.getElem?_eq_getElem hk
    generalize left[k] = x at hx
    have flen : found.length ≤ n := by
      have z := hp.length_eq
      rw [List.length_append, upTo_length] at z
      omega
    refine ⟨_, rfl, .inl ⟨rfl, _, SqL.of eF4⟩, _, rfl, _, rfl, L', _, _, .int x, rfl, rfl, SqL.of eL4, atI_nat (by rw [List.getElem?_map, hx]; rfl), F, _, _, rfl, rfl, eF4, ?_, ?_⟩
    · rw [List.length_map]
      exact small1000 (by omega)
    have e5 : upd H4 F (.lst (found.map V.int ++ [.int x])) F = some (.lst ((found ++ [x]).map V.int)) := by
      rw [upd_same, List.map_append]
      rfl
    have eL5 : upd H4 F (.lst (found.map V.int ++ [.int x])) L' = some (.lst (left.map V.int)) := by rw [upd_ne lf]; exact eL4
    have s5 : SameBut row H (upd H4 F (.lst (found.map V.int ++ [.int x]))) := fun b o hb e => by
      by_cases hbF : b = F
      · rw [hbF, nFH] at e
        cases e
      · rw [upd_ne hbF]
        exact s4 _ _ hb (s3 _ _ hb e)
    have hR5 : RowAt K (upd H4 F (.lst (found.map V.int ++ [.int x]))) row S xs := by
      obtain ⟨a, b, c, h0, nS, er, hS⟩ := hR4
      refine ⟨a, b, c, h0, nS, by rw [upd_ne (Ne.symm Frow)]; exact er, ?_⟩
      obtain ⟨a', b', c', _, _, _, hS0⟩ := hR
      exact but_l hS0 nS s5
    generalize upd H4 F (.lst (found.map V.int ++ [.int x])) = H5 at e5 eL5 s5 hR5
    refine ⟨_, rfl, _, rfl, (k : Int), rfl, L', _, rfl, SqL.of eL5, fun p1 n1 => ?_⟩
    rw [cut_to]
    have t1 : Same H5 (upd H5 p1 (.lst ((left.map V.int).take k))) := same_put n1
    refine ⟨_, rfl, _, rfl, (k : Int), 1, rfl, rfl, _, rfl, L', _, rfl, SqL.of (t1 _ _ eL5), fun p2 n2 => ?_⟩
    rw [show (k : Int) + 1 = ((k + 1 : Nat) : Int) by omega, cut_from]
    have t2 := t1.trans (same_put (o := .lst ((left.map V.int).drop (k + 1))) n2)
    have q1 := same_put (o := .lst ((left.map V.int).drop (k + 1))) n2 _ _ (upd_same (H := H5) (a := p1) (o := .lst ((left.map V.int).take k)))
    refine ⟨p1, p2, _, _, rfl, rfl, q1, upd_same, ?_, fun p3 n3 => ?_⟩
    · rw [List.length_take, List.length_drop, hll, sizeLine_eq]
      omega
    have t3 := t2.trans (same_put (o := .lst ((left.map V.int).take k ++ (left.map V.int).drop (k + 1))) n3)
    have p3F : p3 ≠ F := fun z => by
      rw [z, t2 _ _ e5] at n3
      cases n3
    refine ⟨p3, left.take k ++ left.drop (k + 1), found ++ [x], _, _, rfl, s5.trans (.of t3), hR5.same t3, ?_, t3 _ _ e5, p3F, ?_, (perm_out hx).trans hp⟩
    · rw [upd_same, List.map_append, List.map_take, List.map_drop]
    · rw [List.length_append, List.length_take, List.length_drop]
      omega
  · rintro σ H3 ⟨L', left, found, y4, y5, rfl, s3, hR3, eL, eF, lf, hl, hp⟩
    have e0 : left = [] := List.eq_nil_of_length_eq_zero (by omega)
    rw [e0, List.append_nil] at hp
    exact ⟨_, rfl, q F H3 found hp s3 hR3 eF⟩
end
end FT
end
section
set_option Elab.async false
set_option linter.all false
set_option maxRecDepth 100000
set_option maxHeartbeats 4000000
/-! FtD11: law. -/
namespace FT
open PySem PySem.Spec L2
open PyProof.Rows hiding St
section
variable {K : PySem.W.Frag} {H H' : Hp} {d : Addr} {zs : List V}
theorem lst_t {a : Addr} {xs : List V} (h : SqT K H a xs) (e : H d = some (.lst zs)) (s : SameBut d H H') : SqT K H' a xs := by
  rcases h with (h | ⟨o, h⟩) | h
  · refine .inl (.inl (s _ _ ?_ h))
    rintro rfl
    rw [h] at e
    cases e
  · refine .inl (.inr ⟨o, s _ _ ?_ h⟩)
    rintro rfl
    rw [h] at e
    cases e
  · exact .inr h
theorem lst_f {b : Addr} {xs : List V} (f : FzT H b xs) (e : H d = some (.lst zs)) (s : SameBut d H H') : FzT H' b xs := by
  obtain ⟨o, h1, h2, h⟩ := f
  refine ⟨o, h1, h2, s _ _ ?_ h⟩
  rintro rfl
  rw [h] at e
  cases e
theorem FrameAt.lst {p : Addr} {n : Nat} {held : List Int} {r : Bool} (l : FrameAt K H p n held r) (e : H d = some (.lst zs)) (s : SameBut d H H') : FrameAt K H' p n held r := let ⟨ah, h1, h2⟩ := l; ⟨ah, lst_t h1 e s, lst_t h2 e s⟩
theorem RowAt.lst {row S : Addr} {xs : List Int} (h : RowAt K H row S xs) : ∃ zs, H row = some (.lst zs) := let ⟨_, _, _, _, _, e, _⟩ := h; ⟨_, e⟩
end
theorem ixN_at {n j : Nat} (hj : j < n) : ixN n (j : Int) = some j := by
  unfold ixN
  rw [if_pos (by omega), if_pos (by omega)]
  simp
theorem nones_map (n : Nat) : (noneP n).map okV = List.replicate n V.non := by
  unfold noneP
  rw [List.map_replicate]
  rfl
theorem nones_flat (n : Nat) : (List.replicate n [V.non]).flatten = List.replicate n V.non := by
  induction n with
  | zero => rfl
  | succ n ih =>
    rw [List.replicate_succ, List.replicate_succ, List.flatten_cons, ih]
    rfl
theorem ints_range (n : Nat) : (List.range n).map (fun k => V.int ((k : Nat) : Int)) = (upTo n).map V.int := by
  unfold upTo
  rw [List.map_map]
  rfl
theorem plays_all {n : Nat} {r : Bool} (h1 : 1 ≤ n) : playsM (upTo n) r (noneP n) = List.range n := by
  have hl : (noneP n).length = n := List.length_replicate
  unfold playsM
  rw [free_noneP, List.filter_eq_self]
  intro k hk
  refine decide_eq_true (V0_held_turn ?_ (noneP_ok n) (noneP_bal n) (held_all hl) (by omega))
  rw [List.mem_range] at hk
  unfold noneP
  rw [List.getElem?_replicate, if_pos hk]
theorem plays_done {held : List Int} {r : Bool} {p : Pt} (h : nones p = 0) : playsM held r p = [] := by
  unfold playsM
  rw [free_nil.mpr h]
  rfl
theorem plays_some {held : List Int} {r : Bool} {p : Pt} (h : nones p ≠ 0) : playsM held r p ≠ [] := by
  obtain ⟨k, hk, e⟩ := V0_some (held := held) (r := r) h
  intro z
  have : k ∈ playsM held r p := List.mem_filter.mpr ⟨hk, decide_eq_true e⟩
  rw [z] at this
  cases this
section
variable {P : Program} {w : World} {K : PySem.W.Frag} {mg : Str → Option Value} {base : Heap} {f : Addr} {fd : FuncData}
abbrev lawN : List Str := ["_law_script", "_law_row", "_law_many", "_law_is_ring", "_law_frame", "_law_none", "_law_loose", "_law_order_here", "_law_painted", "_law_turn", "_law_cells", "_law_line", "_law_told", "_law_value", "_law_k"]
/-- t * k, k from 1 on: a tuple of the items k times -/
def rRepN (K : PySem.W.Frag) : R2 := fun x y H Q => ∃ l k xs, x = .ref l ∧ y = .int k ∧ FzT H l xs ∧ xs ≠ [] ∧ 1 ≤ k ∧ k ≤ 1000 ∧ xs.length ≤ 1000 ∧ ∀ p H', Same H H' → FzT H' p (List.replicate k.toNat xs).flatten → Q (.ref p) H'
theorem op_repN {X : Cx} : OpR X (binaryOp .Mult) (rRepN X.K) := by
  intro pins s σ H x y v u Q I rx ry h
  obtain ⟨l, k, xs, rfl, rfl, f, ne, h1, h2, hz, q⟩ := h
  refine op_repF pins s σ H _ _ v u Q I rx ry ⟨l, k, xs, rfl, rfl, f, ne, h1, h2, hz, fun e => ?_, fun _ p H' n => q p H' n.same n.at⟩
  subst e
  refine q l H (Same.refl H) ?_
  show FzT H l ((List.replicate 1 xs).flatten)
  rw [List.replicate_one, List.flatten_singleton]
  exact f
theorem PE.weak {X : Cx} {e : Expr} {t t' : TE} (h : PE X e t) (i : ∀ σ H Q, t' σ H Q → t σ H Q) : PE X e t' := ⟨fun pins s σ H Q I q => h.run pins s σ H Q I (i σ H Q q)⟩
/-- what the law asks of the ring -/
def tRing (K : PySem.W.Frag) : TE := fun σ H Q => ∃ (row S : Addr) (xs : List Int) (n : Nat), σ[1]? = some (some (.ref row)) ∧ σ[2]? = some (some (.int (n : Int))) ∧ RowAt K H row S xs ∧
  ∀ (r : Bool) (H2 : Hp), RowAt K H2 row S xs → (r = true → 3 ≤ n) → Q (.bl r) H2
theorem RowAt.put {H : Hp} {row S F : Addr} {xs ys : List Int} {o : HO} (h : RowAt K H row S xs) (eF : H F = some (.lst (ys.map V.int))) (hS : S ≠ F ∨ ∀ H0, SqL K H0 S (xs.map V.int)) : RowAt K (upd H F o) row S xs := by
  have ne := int_ne_row h eF
  obtain ⟨a, b, c, h0, n, e, q⟩ := h
  exact ⟨a, b, c, h0, n, by rw [upd_ne (Ne.symm ne)]; exact e, but_l q hS but_upd⟩
def spLaw (K : PySem.W.Frag) : Sp := fun vs H Q _ => ∃ (a : Addr) (ns : List Int), vs = [.ref a] ∧ SqL K H a (ns.map V.int) ∧ ns.length ≤ 63 ∧ ∀ H', Q (.bl true) H'
theorem scLaw : FnScope ["_law_script", "_law_row", "_law_many", "_law_is_ring", "_law_frame", "_law_none", "_law_loose", "_law_order_here", "_law_painted", "_law_turn", "_law_cells", "_law_line", "_law_told", "_law_value", "_law_k"] ["_law_script"] (defScope dLaw) := ⟨rfl, rfl, rfl, by decide +kernel, rfl, by decide +kernel, by decide +kernel⟩
theorem ok_law (D : Dn K mg "law" dLaw ["_law_script"] f fd) (T : Txt mg) (Gt : Has P w K mg base "_law_taken" ["_law_row", "_law_many"] 1 (spTaken K)) (Go : Has P w K mg base "_law_order" ["_law_row", "_law_many"] 2 (spOrder K))
    (Gv : Has P w K mg base "painters_value" ["frame", "painted"] 19 (spPValue K)) (Gc : Has P w K mg base "painters_cells" ["frame", "painted"] 19 (spPCells K)) (Gs : Has P w K mg base "swings" ["line"] 5 (spSwings2 K)) (Gm : Has P w K mg base "masses" ["line"] 4 (spMasses K)) (Gr : Has P w K mg base "rest" ["line"] 9 (spRest K)) :
    FnOk P w K mg base CX0 20 f fd ["_law_script"] (spLaw K) := by
  refine D.fn.ok scLaw (fun vs H Q E h => ?_) (fun cdv A outer s H vs Q E hr h => ?_)
  · obtain ⟨a, ns, rfl, _⟩ := h
    rfl
  obtain ⟨S, xs, rfl, hS, h63, q⟩ := h
  have nd := scLaw.nd
  have hrt := hr.mono (show 1 ≤ 19 by decide)
  have hu1 := Nat.lt_of_le_of_lt (Nat.add_le_add_left (show 1 ≤ 64 by decide) _) hr.units
  refine ⟨_, pss_cons (ps_set (i := 1) nd rfl (Or.inr rfl) (pe_lst (pa_cons (pv 0) (pa_cons pe_int (pa_cons pe_int (pa_cons pe_int pa_nil))))))
    (pss_cons (ps_set (i := 2) nd rfl (Or.inl rfl) (pe_op op_add pe_int (pe_has Gt hrt (by rfl) (pa_cons (pv 1) (pa_cons pe_int pa_nil)))))
    (pss_cons (ps_set (i := 3) nd rfl (Or.inl rfl) (PE.weak (t' := tRing K) (pe_and (pe_cmpR op_gt (pv 2) pe_int (nomark _)) (pe_one (pe_cmpR op_eq (pe_has Gt hrt (by rfl) (pa_cons (pv 1) (pa_cons pe_int pa_nil))) pe_int (nomark _)))) (fun σ H Q ⟨row, S, xs, n, e1, e2, hR, q⟩ => by
        refine ⟨_, e2, (n : Int), 2, rfl, rfl, _, rfl, ite2 (fun c => ?_) (fun _ => q false H hR (fun z => nomatch z))⟩
        have c' := of_decide_eq_true c
        exact ⟨_, e1, row, S, xs, 2, rfl, hR, by decide, by decide, fun v H2 _ _ _ hR2 => ⟨rfl, q _ H2 hR2 fun _ => by omega⟩⟩)))
    (pss_cons (ps_par (i := 4) (j := 5) (by rfl) nd rfl rfl (by decide) rfl rfl (pa_cons (pe_tup (pa_cons (pv 2) (pa_cons (pe_tupRg (by rfl) (by rfl) T.tuple (prg_1 (by rfl) T.range (pv 2))) (pa_cons (pv 3) pa_nil)))) (pa_cons (pe_op op_repN (pe_tupF (pa_cons pe_non pa_nil)) (pv 2)) pa_nil)) (by rfl))
    (pss_cons (ps_if (PW.pt (pw_or (pt_cmpR op_ne (pe_has Gv hr (by rfl) (pa_cons (pv 4) (pa_cons (pv 5) pa_nil))) (pe_op op_mod (pe_callTy call_int1 (by rfl) T.int b_int (pa_cons (pv 2) pa_nil)) pe_int) (nomark _))
      (pw_or1 (pt_cmpR (op_neD hr.units) (pe_has Gc hr (by rfl) (pa_cons (pv 4) (pa_cons (pv 5) pa_nil))) (pe_tupRg (by rfl) (by rfl) T.tuple (prg_1 (by rfl) T.range (pv 2))) (nomark _))))) pss_never pss_nil)
    (pss_cons (ps_set (i := 6) nd rfl (Or.inl rfl) (pe_tup (pa_cons (pv 2) (pa_cons (pe_callTy call_tuple_of (by rfl) T.tuple b_tuple (pa_cons (pe_lc (own := [("_law_k", 14)]) (g := gName 14) (by rfl) nd (pi_range1 (by rfl) T.range (pa_cons (pv 2) pa_nil))
        (blkOk_by (own := [("_law_k", 14)]) (N := ["_law_script", "_law_row", "_law_many", "_law_is_ring", "_law_frame", "_law_none", "_law_loose", "_law_order_here", "_law_painted", "_law_turn", "_law_cells", "_law_line", "_law_told", "_law_value", "_law_k"]) (sc := defScope dLaw) (by decide +kernel)) (fun _ _ _ _ _ => pg_name (i := 14) nd rfl (Or.inl rfl))
        (fun _ _ _ _ _ => pts_one (pt_cmpR op_eq (pe_has Gt hrt (by rfl) (pa_cons (pv 1) (pa_cons pe_int pa_nil))) pe_int (nomark _))) (fun _ _ _ _ _ => pv 14)) pa_nil)) (pa_cons (pv 3) pa_nil)))))
    (pss_cons (ps_par (i := 7) (j := 8) (by rfl) nd rfl rfl (by decide) rfl rfl (pa_cons (pe_has Go (hr.mono (by decide)) (by rfl) (pa_cons (pv 1) (pa_cons (pv 2) pa_nil))) (pa_cons (pe_op op_rep (pe_lst (pa_cons pe_non pa_nil)) (pv 2)) pa_nil)) (by rfl))
    (pss_cons (ps_for PassesOwn.never rfl (pi_range1 (by rfl) T.range (pa_cons (pv 2) pa_nil)) (pg_name (i := 9) nd rfl (Or.inl rfl))
      (pss_one (ps_asg (pe_op op_mod (pe_callTy call_int1 (by rfl) T.int b_int (pa_cons (pv 9) pa_nil)) pe_int) (pg_sub (pv 8) (pe_ix ix_list (pv 7) (pv 9) (fun _ _ => rfl)) set_list))))
    (pss_cons (ps_set (i := 10) nd rfl (Or.inl rfl) (pe_callTy call_tupleF (by rfl) T.tuple b_tuple (pa_cons (pv 8) pa_nil)))
    (pss_cons (ps_set (i := 11) nd rfl (Or.inl rfl) (pe_tup (pa_cons (pv 10) (pa_cons (pe_ix ix_tup (pv 6) pe_int (fun _ _ => rfl)) (pa_cons (pv 3) pa_nil)))))
    (pss_cons (ps_if (pt_val (pe_has Gs (hr.mono (by decide)) (by rfl) (pa_cons (pv 11) pa_nil)))
      (pss_one (ps_ret (pe_and (pe_cmpR op_eq (pe_has Gv hr (by rfl) (pa_cons (pv 6) (pa_cons (pv 10) pa_nil))) pe_int (nomark _)) (pe_one (pe_cmpR (op_eqD hr.units) (pe_has Gc hr (by rfl) (pa_cons (pv 6) (pa_cons (pv 10) pa_nil))) (pe_tup pa_nil) (nomark _)))))) pss_nil)
    (pss_cons (ps_set (i := 12) nd rfl (Or.inl rfl) (pe_callTy (call_dictF rfl) (by rfl) T.dict b_dict (pa_cons (pe_has Gm (hr.mono (by decide)) (by rfl) (pa_cons (pe_has Gr (hr.mono (by decide)) (by rfl) (pa_cons (pv 11) pa_nil)) pa_nil)) pa_nil)))
    (pss_cons (ps_if (PW.pt (pw_or (pt_cmpR op_ne (pe_has Gv hr (by rfl) (pa_cons (pv 6) (pa_cons (pv 10) pa_nil))) (pe_op op_sub (pe_dget2 hu1 (pv 12) pe_int pe_int ⟨rfl, rfl, rfl, rfl⟩) (pe_dget2 hu1 (pv 12) pe_int pe_int ⟨rfl, rfl, rfl, rfl⟩)) (nomark _))
      (pw_or1 (pt_cmpR (op_neD hr.units) (pe_has Gc hr (by rfl) (pa_cons (pv 6) (pa_cons (pv 10) pa_nil))) (pe_tup pa_nil) (nomark _))))) pss_never pss_nil)
    (pss_cons (ps_set (i := 13) nd rfl (Or.inl rfl) (pe_has Gv hr (by rfl) (pa_cons (pv 6) (pa_cons (pv 5) pa_nil))))
    (pss_one (ps_ret (pe_and (pe_chain op_le op_le (pe_op op_sub pe_int (pv 2)) (pv 13) (pv 2)) (pe_one (pe_cmpR (op_neD hr.units) (pe_has Gc hr (by rfl) (pa_cons (pv 6) (pa_cons (pv 5) pa_nil))) (pe_tup pa_nil) (nomark _))))))))))))))))))), ?_⟩
  refine ⟨_, rfl, (by show 4 ≤ sizeLine; decide), fun row nrow => ?_⟩
  have hR0 : RowAt K (upd H row (.lst [.ref S, .int 0, .int 8290, .int 0])) row S xs := ⟨0, 8290, 0, Int.le_refl 0, scr_new hS nrow, upd_same, sameL (same_put nrow) hS⟩
  generalize upd H row (.lst [.ref S, .int 0, .int 8290, .int 0]) = H0 at hR0
  refine ⟨_, rfl, row, S, xs, 7, rfl, hR0, by decide, by decide, fun v0 H1 v0a v0b _ hR1 => ?_⟩
  refine ⟨1, v0, rfl, rfl, ?_⟩
  obtain ⟨n, hn⟩ : ∃ n : Nat, 1 + v0 = (n : Int) := ⟨(1 + v0).toNat, by omega⟩
  rw [show ((fun i j : Int => V.int (i + j)) 1 v0) = V.int (n : Int) from congrArg V.int hn]
  have n1 : 1 ≤ n := by omega
  have n7 : n ≤ 7 := by omega
  refine ⟨row, S, xs, n, rfl, rfl, hR1, fun r H2 hR2 r3 => ?_⟩
  -- the frame and nothing painted
  have nl0 : (noneP n).length = n := List.length_replicate
  have ft0 : Fits n (upTo n) r := ⟨n1, n7, r3, upTo_asc n, fun k hk => mem_upTo.mp hk⟩
  refine ⟨_, rfl, _, rfl, (n : Int), rfl, RgOk.of_le (by omega) (by omega) (by omega) (by omega), fun tu ntu => ?_⟩
  rw [rg_upTo] at *
  refine ⟨_, rfl, (by show 3 ≤ sizeLine; decide), fun pf npf => ⟨(by show 1 ≤ sizeLine; decide), fun p1 H3 n3 => ?_⟩⟩
  have s2 : Same H2 (upd H2 tu (.tup ((upTo n).map V.int))) := same_put ntu
  have fr : FrameAt K (upd (upd H2 tu (.tup ((upTo n).map V.int))) pf (.tup [.int (n : Int), .ref tu, .bl r])) pf n (upTo n) r := ⟨tu, SqT.of upd_same, sameT (same_put npf) (SqT.of upd_same)⟩
  have s3 := (s2.trans (same_put (o := .tup [.int (n : Int), .ref tu, .bl r]) npf)).trans n3.same
  have fr3 := fr.same n3.same
  have hR3 := hR2.same s3
  refine ⟨_, rfl, p1, (n : Int), [.non], rfl, rfl, n3.at, by simp, by omega, by omega, by decide, fun pn H4 s4 fn => ⟨_, _, rfl, ?_⟩⟩
  rw [Int.toNat_natCast, nones_flat] at fn
  have po0 : PaintOk K H4 pf pn n (upTo n) r (noneP n) := ⟨fr3.same s4, by rw [nones_map]; exact fn, ft0, by rw [upTo_length]; omega, noneP_ok n, noneP_bal n, nl0⟩
  have hR4 := hR3.same s4
  -- all held
  refine ⟨_, rfl, _, rfl, pf, pn, n, upTo n, r, noneP n, rfl, po0, fun H5 s5 => ?_⟩
  refine ⟨_, rfl, .inl ⟨(n : Int), rfl, (n : Int), 2, rfl, rfl, (by show (0 : Int) < 2; decide), rfl, _, rfl, ?_⟩⟩
  rw [V0_all n1, decide_eq_true rfl]
  refine iteF ?_
  refine ⟨_, rfl, _, rfl, pf, pn, n, upTo n, r, noneP n, rfl, po0.same s5, fun t H6 s6 ht => ?_⟩
  rw [plays_all n1, ints_range] at ht
  refine ⟨_, rfl, (n : Int), rfl, RgOk.of_le (by omega) (by omega) (by omega) (by omega), fun tq ntq => ?_⟩
  rw [rg_upTo]
  have s7 : Same H6 (upd H6 tq (.tup ((upTo n).map V.int))) := same_put ntq
  refine ⟨.tuple ((upTo n).map PyData.int), .tuple ((upTo n).map PyData.int), .tup (sameT s7 ht) (dp_ints _), .tup (SqT.of upd_same) (dp_ints _), shaped_t _, shaped_t _, _, rfl, ?_⟩
  rw [eqv_t, decide_eq_true rfl]
  refine iteF ?_
  have hR7 := hR4.same (s5.trans (s6.trans s7))
  have fn7 := fn.same (s5.trans (s6.trans s7))
  generalize upd H6 tq (.tup ((upTo n).map V.int)) = H7 at hR7 fn7
  -- loose
  refine ⟨_, rfl, _, rfl, _, rfl, by omega, by omega, fun D0 nD => ?_⟩
  rw [Int.toNat_natCast]
  have hSD : S ≠ D0 ∨ ∀ H0, SqL K H0 S (xs.map V.int) := by
    obtain ⟨_, _, _, _, _, _, z⟩ := hR7
    exact scr_new z nD
  refine lc_range (lo := 0) (n := n) (fun i H' => ∃ ns : List Int, RowAt K H' row S xs ∧ FzT H' pn (List.replicate n V.non) ∧ H' D0 = some (.lst (ns.map V.int)) ∧ ns.Pairwise (· < ·) ∧ (∀ k ∈ ns, 0 ≤ k ∧ k < (i : Int)) ∧ ns.length ≤ i)
    ⟨[], hR7.same (same_put nD), fn7.same (same_put nD), upd_same, List.Pairwise.nil, (fun k hk => nomatch hk), Nat.zero_le _⟩ ?_ ?_
  · rintro i H8 hi ⟨ns, hR8, fn8, e8, asc, bd, ln⟩
    rw [Int.zero_add]
    refine ⟨rfl, _, rfl, row, S, xs, 3, rfl, hR8, by decide, by decide, fun v H9 _ _ s9 hR9 => ⟨rfl, _, rfl, ?_⟩⟩
    have D0r := int_ne_row hR8 e8
    have e9 := s9 _ _ D0r e8
    obtain ⟨zs, er⟩ := hR8.lst
    have fn9 := lst_f fn8 er s9
    refine ite2 (fun _ => ?_) (fun _ => ?_)
    · refine ⟨_, rfl, _, e9, ?_, ⟨ns ++ [(i : Int)], hR9.put e9 hSD, lst_f fn9 e9 but_upd, ?_, ?_, ?_, ?_⟩⟩
      · rw [List.length_map]
        exact small1000 (by omega)
      · rw [upd_same, List.map_append]
        rfl
      · refine List.pairwise_append.mpr ⟨asc, List.pairwise_singleton _ _, fun a ha b hb => ?_⟩
        rw [List.mem_singleton.mp hb]
        exact (bd a ha).2
      · intro k hk
        rcases List.mem_append.mp hk with hk | hk
        · have := bd k hk
          omega
        · rw [List.mem_singleton.mp hk]
          omega
      · rw [List.length_append]
        show ns.length + 1 ≤ i + 1
        omega
    · exact ⟨ns, hR9, fn9, e9, asc, (fun k hk => by have := bd k hk; omega), by omega⟩
  rintro H8 ⟨held, hR8, fn8, e8, asc, bd, hln⟩
  have ftl : Fits n held r := ⟨n1, n7, r3, asc, bd⟩
  refine ⟨D0, _, rfl, .inl ⟨SqL.of e8, fun tl ntl => ⟨_, rfl, (by show 3 ≤ sizeLine; decide), fun plo nplo => ?_⟩⟩⟩
  have s8 : Same H8 (upd H8 tl (.tup (held.map V.int))) := same_put ntl
  have lo8 : FrameAt K (upd (upd H8 tl (.tup (held.map V.int))) plo (.tup [.int (n : Int), .ref tl, .bl r])) plo n held r := ⟨tl, SqT.of upd_same, sameT (same_put nplo) (SqT.of upd_same)⟩
  have s9 := s8.trans (same_put (o := .tup [.int (n : Int), .ref tl, .bl r]) nplo)
  have hR9 := hR8.same s9
  have fn9 := fn8.same s9
  generalize upd (upd H8 tl (.tup (held.map V.int))) plo (.tup [.int (n : Int), .ref tl, .bl r]) = H9 at lo8 s9 hR9 fn9
  -- the order, the list to paint
  refine ⟨_, rfl, _, rfl, row, S, xs, n, rfl, hR9, n7, fun po H10 ord hperm s10 hR10 eo => ?_⟩
  obtain ⟨zs, er⟩ := hR9.lst
  have lo10 := lo8.lst er s10
  have fn10 := lst_f fn9 er s10
  refine ⟨(by show 1 ≤ sizeLine; decide), fun l1 nl1 => ⟨_, rfl, l1, (n : Int), _, rfl, rfl, upd_same, by omega, by omega, ?_, fun pp npp => ⟨_, _, rfl, ?_⟩⟩⟩
  · rw [Int.toNat_natCast, sizeLine_eq]
    show 1 * n ≤ 16777216
    omega
  have s11 : Same H10 (upd (upd H10 l1 (.lst [.non])) pp (.lst (List.replicate (n : Int).toNat [V.non]).flatten)) := Same.trans (same_put nl1) (same_put npp)
  have ep : upd (upd H10 l1 (.lst [.non])) pp (.lst (List.replicate (n : Int).toNat [V.non]).flatten) pp = some (.lst ((noneP n).map okV)) := by rw [upd_same, Int.toNat_natCast, nones_flat, nones_map]
  have ppo : pp ≠ po := by
    intro z
    rw [z] at npp
    exact absurd (npp.symm.trans (same_put (o := .lst [.non]) nl1 _ _ eo)) (by simp)
  generalize upd (upd H10 l1 (.lst [.non])) pp (.lst (List.replicate (n : Int).toNat [V.non]).flatten) = H11 at s11 ep
  have lo11 := lo10.same s11
  have fn11 := fn10.same s11
  have eo11 := s11 _ _ eo
  have ol : ord.length = n := by rw [hperm.length_eq, upTo_length]
  -- the cells are painted, turn by turn
  refine ⟨_, rfl, _, rfl, by omega, by omega, ?_⟩
  rw [Int.toNat_natCast]
  refine for_range (lo := 0) (n := n) (fun i σ H' => ∃ (p : Pt) (y9 : Option V), σ = [some (.ref S), some (.ref row), some (.int (n : Int)), some (.bl r), some (.ref pf), some (.ref pn), some (.ref plo), some (.ref po), some (.ref pp), y9, none, none, none, none, none] ∧
      FzT H' pn (List.replicate n V.non) ∧ FrameAt K H' plo n held r ∧ H' po = some (.lst (ord.map V.int)) ∧ H' pp = some (.lst (p.map okV)) ∧ Painted n i (ord.drop i) p)
    ⟨noneP n, none, rfl, fn11, lo11, eo11, ep, by rw [List.drop_zero]; exact painted_start hperm (upTo_nodup n)⟩ ?_ ?_
  · rintro i σ H12 hi ⟨p, y9, rfl, fn12, lo12, eo12, ep12, hp⟩
    rw [Int.zero_add]
    have hoi : i < ord.length := by omega
    rw [List.drop_eq_getElem_cons hoi] at hp
    have hx : ord[i]? = some ord[i] := List.getElem?_eq_getElem hoi
    generalize ord[i] = k at hp hx
    obtain ⟨k0, hk⟩ := hp.free k List.mem_cons_self
    have hkl : k.toNat < p.length := (List.getElem?_eq_some_iff.mp hk).1
    have pl : (p.map okV).length = p.length := List.length_map _
    refine ⟨_, rfl, .inl ⟨(i : Int), rfl, (i : Int), 2, rfl, rfl, (by show (0 : Int) < 2; decide), ?_⟩⟩
    refine ⟨_, rfl, _, rfl, _, rfl, po, _, (i : Int), .int k, rfl, rfl, SqL.of eo12, atI_nat (by rw [List.getElem?_map, hx]; rfl), ?_⟩
    refine ⟨pp, _, k, k.toNat, rfl, rfl, ep12, ?_, ?_⟩
    · have e : k = ((k.toNat : Nat) : Int) := by omega
      have z : ixN (p.map okV).length ((k.toNat : Nat) : Int) = some k.toNat := ixN_at (by rw [pl]; exact hkl)
      rw [← e] at z
      exact z
    refine ⟨behindM p k.toNat ((i : Int) % 2), _, rfl, lst_f fn12 ep12 but_upd, lo12.lst ep12 but_upd, by rw [upd_ne (Ne.symm ppo)]; exact eo12, ?_, painted_step hp⟩
    rw [upd_same]
    unfold behindM
    rw [List.map_set]
    rfl
  rintro σ H12 ⟨p, y9, rfl, fn12, lo12, _, ep12, hp⟩
  obtain ⟨hn0, hbal⟩ := painted_end hp
  have hok := hp.ok
  have plen := hp.len
  -- the cells, the line
  refine ⟨_, rfl, pp, _, rfl, SqL.of ep12, fun pc H13 n13 => ?_⟩
  have s13 := n13.same
  have fc13 := n13.at
  have lo13 := lo12.same s13
  have fn13 := fn12.same s13
  obtain ⟨ah, hF, hT⟩ := id lo13
  refine ⟨_, rfl, _, rfl, plo, _, 1, .ref ah, rfl, rfl, hF, rfl, _, rfl, (by show 3 ≤ sizeLine; decide), fun pl npl => ?_⟩
  have s14 : Same H13 (upd H13 pl (.tup [.ref pc, .ref ah, .bl r])) := same_put npl
  have ln14 : LineAt K (upd H13 pl (.tup [.ref pc, .ref ah, .bl r])) pl (cellsM p) held r := ⟨pc, ah, SqT.of upd_same, by rw [← pt_cells hn0]; exact (fc13.same s14).t, sameT s14 hT⟩
  generalize upd H13 pl (.tup [.ref pc, .ref ah, .bl r]) = H14 at s14 ln14
  have cl : (cellsM p).length = n := by rw [cells_length, plen]
  have c01 := cells_01 hn0 hok
  have lk14 : LineOk K H14 pl (cellsM p) held r := ⟨ln14, by rw [cl]; exact ftl, fun c hc => by rcases c01 c hc with e | e <;> omega, by omega⟩
  have pc14 : PaintOk K H14 plo pc n held r p := ⟨lo13.same s14, fc13.same s14, ftl, by omega, hok, hbal, plen⟩
  have pn14 : PaintOk K H14 plo pn n held r (noneP n) := ⟨lo13.same s14, by rw [nones_map]; exact fn13.same s14, ftl, by omega, noneP_ok n, noneP_bal n, nl0⟩
  have vend : V0 held r p = diffM held r (cellsM p) := V0_end hn0
  refine ⟨_, rfl, pl, cellsM p, held, r, rfl, lk14, fun H15 s15 => ⟨_, rfl, ite2 (fun c => ?_) (fun c => ?_)⟩⟩
  · -- it swings
    have v0 : V0 held r p = 0 := by
      rw [vend]
      unfold diffM
      rw [if_pos c]
    refine ⟨_, rfl, _, rfl, plo, pc, n, held, r, p, rfl, pc14.same s15, fun H16 s16 => ⟨rfl, _, rfl, ?_⟩⟩
    rw [v0, decide_eq_true rfl]
    refine iteT ⟨_, rfl, _, rfl, plo, pc, n, held, r, p, rfl, (pc14.same s15).same s16, fun t H17 s17 ht => ⟨Nat.zero_le _, fun te nte => ?_⟩⟩
    rw [plays_done hn0] at ht
    exact ⟨.tuple [], .tuple [], .tup (sameT (same_put nte) ht) .nil, .tup (SqT.of upd_same) .nil, rfl, rfl, q _⟩
  have sw : swingM (cellsM p) held r = false := Bool.eq_false_iff.mpr c
  -- the masses of the line at rest
  refine ⟨_, rfl, pl, cellsM p, held, r, rfl, lk14.same s15, sw, fun pr H16 s16 hl16 => ?_⟩
  have lk16 : LineOk K H16 pr (restM (cellsM p) held r) held r := ⟨hl16, by rw [rest_length, cl]; exact ftl, fun c hc => by rcases c01 c (rest_mem hc) with e | e <;> omega, by omega⟩
  refine ⟨pr, restM (cellsM p) held r, held, r, rfl, lk16, fun t H17 ps ns s17 pairs mem ft => ?_⟩
  refine ⟨t, ps, _, rfl, ft, pairs_kv pairs, fun dd ndd => ?_⟩
  have edd : upd H17 dd (.dK (mergeK [] (ns.map fun c => (Sum.inl c, V.int (((restM (cellsM p) held r).count c : Nat) : Int))))) dd = some (.dK (mergeK [] (ns.map fun c => (Sum.inl c, V.int (((restM (cellsM p) held r).count c : Nat) : Int))))) := upd_same
  have s18 : Same H14 (upd H17 dd (.dK (mergeK [] (ns.map fun c => (Sum.inl c, V.int (((restM (cellsM p) held r).count c : Nat) : Int)))))) := s15.trans (s16.trans (s17.trans (same_put ndd)))
  generalize upd H17 dd (.dK (mergeK [] (ns.map fun c => (Sum.inl c, V.int (((restM (cellsM p) held r).count c : Nat) : Int))))) = H18 at edd s18
  have pc18 := pc14.same s18
  have pn18 := pn14.same s18
  refine ⟨_, rfl, _, rfl, plo, pc, n, held, r, p, rfl, pc18, fun H19 s19 => ?_⟩
  have e19 := s19 _ _ edd
  refine ⟨_, rfl, dd, rfl, .inl ⟨_, .inl e19⟩, _, DGet.k (k := Sum.inl 0) e19, ?_⟩
  refine ⟨_, rfl, dd, rfl, .inl ⟨_, .inl e19⟩, _, DGet.k (k := Sum.inl 1) e19, ?_⟩
  refine ⟨_, _, told_of mem 0, told_of mem 1, rfl, _, rfl, ?_⟩
  have vr : V0 held r p = (((restM (cellsM p) held r).count 0 : Nat) : Int) - (((restM (cellsM p) held r).count 1 : Nat) : Int) := by
    rw [vend]
    unfold diffM
    rw [if_neg c]
    rfl
  rw [vr, decide_eq_true rfl]
  refine iteF ?_
  refine ⟨_, rfl, _, rfl, plo, pc, n, held, r, p, rfl, pc18.same s19, fun t2 H20 s20 ht => ⟨Nat.zero_le _, fun te nte => ?_⟩⟩
  rw [plays_done hn0] at ht
  refine ⟨.tuple [], .tuple [], .tup (sameT (same_put nte) ht) .nil, .tup (SqT.of upd_same) .nil, rfl, rfl, _, rfl, ?_⟩
  refine iteF ?_
  have s21 : Same H18 (upd H20 te (.tup [])) := s19.trans (s20.trans (same_put nte))
  generalize upd H20 te (.tup []) = H21 at s21
  -- the value from the start
  refine ⟨_, rfl, _, rfl, plo, pn, n, held, r, noneP n, rfl, pn18.same s21, fun H22 s22 => ?_⟩
  have bd0 := V0_bound held r n (noneP n) (noneP_nones n)
  rw [nl0] at bd0
  generalize hv : V0 held r (noneP n) = v at bd0
  refine ⟨_, rfl, 0, (n : Int), rfl, rfl, _, rfl, 0 - (n : Int), v, rfl, rfl, _, rfl, ?_⟩
  rw [decide_eq_true (show 0 - (n : Int) ≤ v by omega)]
  refine iteT ⟨_, rfl, v, (n : Int), rfl, rfl, _, rfl, ?_⟩
  rw [decide_eq_true (show v ≤ (n : Int) by omega)]
  refine iteT ⟨_, rfl, _, rfl, plo, pn, n, held, r, noneP n, rfl, (pn18.same s21).same s22, fun t3 H23 s23 ht3 => ⟨Nat.zero_le _, fun te2 nte2 => ?_⟩⟩
  have some0 : playsM held r (noneP n) ≠ [] := plays_some (by rw [noneP_nones]; omega)
  generalize playsM held r (noneP n) = l at ht3 some0
  have htl : SqT K H23 t3 ((l.map fun k => ((k : Nat) : Int)).map V.int) := by
    rw [List.map_map]
    exact ht3
  refine ⟨.tuple ((l.map fun k => ((k : Nat) : Int)).map PyData.int), .tuple (([] : List Int).map PyData.int), .tup (sameT (same_put nte2) htl) (dp_ints _), .tup (SqT.of upd_same) .nil, shaped_t _, shaped_t _, ?_⟩
  rw [eqv_t, decide_eq_false (by simpa using some0)]
  exact q _
end
end FT
end
set_option Elab.async false
set_option linter.all false
set_option maxRecDepth 100000
set_option maxHeartbeats 4000000
/-! FtEnd: the top as it stands, the walk, the theorem. -/
namespace FT
open PySem PySem.Spec L2
open PyProof.Rows hiding St
theorem all_mk {l : PySem.W.OpenLaw} {w : World} {K : PySem.W.Frag} {h : Heap} {mg : Str → Option Value} {fa f1 f2 f3 f4 f5 f6 f7 f8 f9 f10 f11 f12 f13 f14 f15 f16 f17 f18 f19 f20 f21 f22 f23 f24 f25 f26 f27 f28 f29 f30 : Addr} (X : K.In h) (G : h.Ns mainGlobals mg) (hfa : mg "law" = some (.ref fa))
    {od1 an1 od2 an2 od3 an3 od4 an4 od5 an5 od6 an6 od7 an7 od8 an8 od9 an9 od10 an10 od11 an11 od12 an12 od13 an13 od14 an14 od15 an15 od16 an16 od17 an17 od18 an18 od19 an19 od20 an20 od21 an21 od22 an22 od23 an23 od24 an24 od25 an25 od26 an26 od27 an27 od28 an28 od29 an29 od30 an30 : Option Addr} {sl1 sl2 sl3 sl4 sl5 sl6 sl7 sl8 sl9 sl10 sl11 sl12 sl13 sl14 sl15 sl16 sl17 sl18 sl19 sl20 sl21 sl22 sl23 sl24 sl25 sl26 sl27 sl28 sl29 sl30 : Array (Option Value)}
    {oc1 kV1 dc1 pm1 cd1 ct1 oc2 kV2 dc2 pm2 cd2 ct2 oc3 kV3 dc3 pm3 cd3 ct3 oc4 kV4 dc4 pm4 cd4 ct4 oc5 kV5 dc5 pm5 cd5 ct5 oc6 kV6 dc6 pm6 cd6 ct6 oc7 kV7 dc7 pm7 cd7 ct7 oc8 kV8 dc8 pm8 cd8 ct8 oc9 kV9 dc9 pm9 cd9 ct9 oc10 kV10 dc10 pm10 cd10 ct10 oc11 kV11 dc11 pm11 cd11 ct11 oc12 kV12 dc12 pm12 cd12 ct12 oc13 kV13 dc13 pm13 cd13 ct13 oc14 kV14 dc14 pm14 cd14 ct14 oc15 kV15 dc15 pm15 cd15 ct15 oc16 kV16 dc16 pm16 cd16 ct16 oc17 kV17 dc17 pm17 cd17 ct17 oc18 kV18 dc18 pm18 cd18 ct18 oc19 kV19 dc19 pm19 cd19 ct19 oc20 kV20 dc20 pm20 cd20 ct20 oc21 kV21 dc21 pm21 cd21 ct21 oc22 kV22 dc22 pm22 cd22 ct22 oc23 kV23 dc23 pm23 cd23 ct23 oc24 kV24 dc24 pm24 cd24 ct24 oc25 kV25 dc25 pm25 cd25 ct25 oc26 kV26 dc26 pm26 cd26 ct26 oc27 kV27 dc27 pm27 cd27 ct27 oc28 kV28 dc28 pm28 cd28 ct28 oc29 kV29 dc29 pm29 cd29 ct29 oc30 kV30 dc30 pm30 cd30 ct30 : Value} {t1 t2 t3 t4 : Tok}
    (a1 : PySem.W.nsIn K mainGlobals "is_in" = some (some (.ref f1))) (l1 : K.lookup f1 = some ⟨oc1, od1, .func (PySem.W.fnOf "is_in" "is_in" (defArgs dIsIn) (defBody dIsIn) (defScope dIsIn) .none kV1 dc1 pm1 an1 cd1 ct1), sl1⟩) (c1 : PySem.W.codeIn K cd1 "is_in" = true) (k1 : PySem.W.keepIn K (.ref f1) = true)
    (a2 : PySem.W.nsIn K mainGlobals "need_line" = some (some (.ref f2))) (l2 : K.lookup f2 = some ⟨oc2, od2, .func (PySem.W.fnOf "need_line" "need_line" (defArgs dNeedLine) (defBody dNeedLine) (defScope dNeedLine) .none kV2 dc2 pm2 an2 cd2 ct2), sl2⟩) (c2 : PySem.W.codeIn K cd2 "need_line" = true) (k2 : PySem.W.keepIn K (.ref f2) = true)
    (a3 : PySem.W.nsIn K mainGlobals "is_cells" = some (some (.ref f3))) (l3 : K.lookup f3 = some ⟨oc3, od3, .func (PySem.W.fnOf "is_cells" "is_cells" (defArgs dIsCells) (defBody dIsCells) (defScope dIsCells) .none kV3 dc3 pm3 an3 cd3 ct3), sl3⟩) (c3 : PySem.W.codeIn K cd3 "is_cells" = true) (k3 : PySem.W.keepIn K (.ref f3) = true)
    (a4 : PySem.W.nsIn K mainGlobals "held_in" = some (some (.ref f4))) (l4 : K.lookup f4 = some ⟨oc4, od4, .func (PySem.W.fnOf "held_in" "held_in" (defArgs dHeldIn) (defBody dHeldIn) (defScope dHeldIn) .none kV4 dc4 pm4 an4 cd4 ct4), sl4⟩) (c4 : PySem.W.codeIn K cd4 "held_in" = true) (k4 : PySem.W.keepIn K (.ref f4) = true)
    (a5 : PySem.W.nsIn K mainGlobals "flanks" = some (some (.ref f5))) (l5 : K.lookup f5 = some ⟨oc5, od5, .func (PySem.W.fnOf "flanks" "flanks" (defArgs dFlanks) (defBody dFlanks) (defScope dFlanks) .none kV5 dc5 pm5 an5 cd5 ct5), sl5⟩) (c5 : PySem.W.codeIn K cd5 "flanks" = true) (k5 : PySem.W.keepIn K (.ref f5) = true)
    (a6 : PySem.W.nsIn K mainGlobals "is_flanked" = some (some (.ref f6))) (l6 : K.lookup f6 = some ⟨oc6, od6, .func (PySem.W.fnOf "is_flanked" "is_flanked" (defArgs dIsFlanked) (defBody dIsFlanked) (defScope dIsFlanked) .none kV6 dc6 pm6 an6 cd6 ct6), sl6⟩) (c6 : PySem.W.codeIn K cd6 "is_flanked" = true) (k6 : PySem.W.keepIn K (.ref f6) = true)
    (a7 : PySem.W.nsIn K mainGlobals "ready_in" = some (some (.ref f7))) (l7 : K.lookup f7 = some ⟨oc7, od7, .func (PySem.W.fnOf "ready_in" "ready_in" (defArgs dReadyIn) (defBody dReadyIn) (defScope dReadyIn) .none kV7 dc7 pm7 an7 cd7 ct7), sl7⟩) (c7 : PySem.W.codeIn K cd7 "ready_in" = true) (k7 : PySem.W.keepIn K (.ref f7) = true)
    (a8 : PySem.W.nsIn K mainGlobals "swings_in" = some (some (.ref f8))) (l8 : K.lookup f8 = some ⟨oc8, od8, .func (PySem.W.fnOf "swings_in" "swings_in" (defArgs dSwingsIn) (defBody dSwingsIn) (defScope dSwingsIn) .none kV8 dc8 pm8 an8 cd8 ct8), sl8⟩) (c8 : PySem.W.codeIn K cd8 "swings_in" = true) (k8 : PySem.W.keepIn K (.ref f8) = true)
    (a9 : PySem.W.nsIn K mainGlobals "swings" = some (some (.ref f9))) (l9 : K.lookup f9 = some ⟨oc9, od9, .func (PySem.W.fnOf "swings" "swings" (defArgs dSwings) (defBody dSwings) (defScope dSwings) .none kV9 dc9 pm9 an9 cd9 ct9), sl9⟩) (c9 : PySem.W.codeIn K cd9 "swings" = true) (k9 : PySem.W.keepIn K (.ref f9) = true)
    (a10 : PySem.W.nsIn K mainGlobals "stretches_in" = some (some (.ref f10))) (l10 : K.lookup f10 = some ⟨oc10, od10, .func (PySem.W.fnOf "stretches_in" "stretches_in" (defArgs dStretches) (defBody dStretches) (defScope dStretches) .none kV10 dc10 pm10 an10 cd10 ct10), sl10⟩) (c10 : PySem.W.codeIn K cd10 "stretches_in" = true) (k10 : PySem.W.keepIn K (.ref f10) = true)
    (a11 : PySem.W.nsIn K mainGlobals "need_resting" = some (some (.ref f11))) (l11 : K.lookup f11 = some ⟨oc11, od11, .func (PySem.W.fnOf "need_resting" "need_resting" (defArgs dNeedRest) (defBody dNeedRest) (defScope dNeedRest) .none kV11 dc11 pm11 an11 cd11 ct11), sl11⟩) (c11 : PySem.W.codeIn K cd11 "need_resting" = true) (k11 : PySem.W.keepIn K (.ref f11) = true)
    (a12 : PySem.W.nsIn K mainGlobals "depths_in" = some (some (.ref f12))) (l12 : K.lookup f12 = some ⟨oc12, od12, .func (PySem.W.fnOf "depths_in" "depths_in" (defArgs dDepths) (defBody dDepths) (defScope dDepths) .none kV12 dc12 pm12 an12 cd12 ct12), sl12⟩) (c12 : PySem.W.codeIn K cd12 "depths_in" = true) (k12 : PySem.W.keepIn K (.ref f12) = true)
    (a13 : PySem.W.nsIn K mainGlobals "need_frame" = some (some (.ref f13))) (l13 : K.lookup f13 = some ⟨oc13, od13, .func (PySem.W.fnOf "need_frame" "need_frame" (defArgs dNeedFrame) (defBody dNeedFrame) (defScope dNeedFrame) .none kV13 dc13 pm13 an13 cd13 ct13), sl13⟩) (c13 : PySem.W.codeIn K cd13 "need_frame" = true) (k13 : PySem.W.keepIn K (.ref f13) = true)
    (a14 : PySem.W.nsIn K mainGlobals "with_cells" = some (some (.ref f14))) (l14 : K.lookup f14 = some ⟨oc14, od14, .func (PySem.W.fnOf "with_cells" "with_cells" (defArgs dWithCells) (defBody dWithCells) (defScope dWithCells) .none kV14 dc14 pm14 an14 cd14 ct14), sl14⟩) (c14 : PySem.W.codeIn K cd14 "with_cells" = true) (k14 : PySem.W.keepIn K (.ref f14) = true)
    (a15 : PySem.W.nsIn K mainGlobals "turns_in" = some (some (.ref f15))) (l15 : K.lookup f15 = some ⟨oc15, od15, .func (PySem.W.fnOf "turns_in" "turns_in" (defArgs dTurns) (defBody dTurns) (defScope dTurns) .none kV15 dc15 pm15 an15 cd15 ct15), sl15⟩) (c15 : PySem.W.codeIn K cd15 "turns_in" = true) (k15 : PySem.W.keepIn K (.ref f15) = true)
    (a16 : PySem.W.nsIn K mainGlobals "cells_after" = some (some (.ref f16))) (l16 : K.lookup f16 = some ⟨oc16, od16, .func (PySem.W.fnOf "cells_after" "cells_after" (defArgs dAfter) (defBody dAfter) (defScope dAfter) .none kV16 dc16 pm16 an16 cd16 ct16), sl16⟩) (c16 : PySem.W.codeIn K cd16 "cells_after" = true) (k16 : PySem.W.keepIn K (.ref f16) = true)
    (a17 : PySem.W.nsIn K mainGlobals "rest_cells" = some (some (.ref f17))) (l17 : K.lookup f17 = some ⟨oc17, od17, .func (PySem.W.fnOf "rest_cells" "rest_cells" (defArgs dRestCells) (defBody dRestCells) (defScope dRestCells) .none kV17 dc17 pm17 an17 cd17 ct17), sl17⟩) (c17 : PySem.W.codeIn K cd17 "rest_cells" = true) (k17 : PySem.W.keepIn K (.ref f17) = true)
    (a18 : PySem.W.nsIn K mainGlobals "rest" = some (some (.ref f18))) (l18 : K.lookup f18 = some ⟨oc18, od18, .func (PySem.W.fnOf "rest" "rest" (defArgs dRest) (defBody dRest) (defScope dRest) .none kV18 dc18 pm18 an18 cd18 ct18), sl18⟩) (c18 : PySem.W.codeIn K cd18 "rest" = true) (k18 : PySem.W.keepIn K (.ref f18) = true)
    (a19 : PySem.W.nsIn K mainGlobals "need_painted" = some (some (.ref f19))) (l19 : K.lookup f19 = some ⟨oc19, od19, .func (PySem.W.fnOf "need_painted" "need_painted" (defArgs dNeedPainted) (defBody dNeedPainted) (defScope dNeedPainted) .none kV19 dc19 pm19 an19 cd19 ct19), sl19⟩) (c19 : PySem.W.codeIn K cd19 "need_painted" = true) (k19 : PySem.W.keepIn K (.ref f19) = true)
    (a20 : PySem.W.nsIn K mainGlobals "difference" = some (some (.ref f20))) (l20 : K.lookup f20 = some ⟨oc20, od20, .func (PySem.W.fnOf "difference" "difference" (defArgs dDiff) (defBody dDiff) (defScope dDiff) .none kV20 dc20 pm20 an20 cd20 ct20), sl20⟩) (c20 : PySem.W.codeIn K cd20 "difference" = true) (k20 : PySem.W.keepIn K (.ref f20) = true)
    (a21 : PySem.W.nsIn K mainGlobals "colour_next" = some (some (.ref f21))) (l21 : K.lookup f21 = some ⟨oc21, od21, .func (PySem.W.fnOf "colour_next" "colour_next" (defArgs dColour) (defBody dColour) (defScope dColour) .none kV21 dc21 pm21 an21 cd21 ct21), sl21⟩) (c21 : PySem.W.codeIn K cd21 "colour_next" = true) (k21 : PySem.W.keepIn K (.ref f21) = true)
    (a22 : PySem.W.nsIn K mainGlobals "behind" = some (some (.ref f22))) (l22 : K.lookup f22 = some ⟨oc22, od22, .func (PySem.W.fnOf "behind" "behind" (defArgs dBehind) (defBody dBehind) (defScope dBehind) .none kV22 dc22 pm22 an22 cd22 ct22), sl22⟩) (c22 : PySem.W.codeIn K cd22 "behind" = true) (k22 : PySem.W.keepIn K (.ref f22) = true)
    (a23 : PySem.W.nsIn K mainGlobals "value_in" = some (some (.ref f23))) (l23 : K.lookup f23 = some ⟨oc23, od23, .func (PySem.W.fnOf "value_in" "value_in" (defArgs dValue) (defBody dValue) (defScope dValue) .none kV23 dc23 pm23 an23 cd23 ct23), sl23⟩) (c23 : PySem.W.codeIn K cd23 "value_in" = true) (k23 : PySem.W.keepIn K (.ref f23) = true)
    (a24 : PySem.W.nsIn K mainGlobals "painters_value" = some (some (.ref f24))) (l24 : K.lookup f24 = some ⟨oc24, od24, .func (PySem.W.fnOf "painters_value" "painters_value" (defArgs dPValue) (defBody dPValue) (defScope dPValue) .none kV24 dc24 pm24 an24 cd24 ct24), sl24⟩) (c24 : PySem.W.codeIn K cd24 "painters_value" = true) (k24 : PySem.W.keepIn K (.ref f24) = true)
    (a25 : PySem.W.nsIn K mainGlobals "painters_cells" = some (some (.ref f25))) (l25 : K.lookup f25 = some ⟨oc25, od25, .func (PySem.W.fnOf "painters_cells" "painters_cells" (defArgs dPCells) (defBody dPCells) (defScope dPCells) .none kV25 dc25 pm25 an25 cd25 ct25), sl25⟩) (c25 : PySem.W.codeIn K cd25 "painters_cells" = true) (k25 : PySem.W.keepIn K (.ref f25) = true)
    (a26 : PySem.W.nsIn K mainGlobals "masses_in" = some (some (.ref f26))) (l26 : K.lookup f26 = some ⟨oc26, od26, .func (PySem.W.fnOf "masses_in" "masses_in" (defArgs dMassesIn) (defBody dMassesIn) (defScope dMassesIn) .none kV26 dc26 pm26 an26 cd26 ct26), sl26⟩) (c26 : PySem.W.codeIn K cd26 "masses_in" = true) (k26 : PySem.W.keepIn K (.ref f26) = true)
    (a27 : PySem.W.nsIn K mainGlobals "masses" = some (some (.ref f27))) (l27 : K.lookup f27 = some ⟨oc27, od27, .func (PySem.W.fnOf "masses" "masses" (defArgs dMasses) (defBody dMasses) (defScope dMasses) .none kV27 dc27 pm27 an27 cd27 ct27), sl27⟩) (c27 : PySem.W.codeIn K cd27 "masses" = true) (k27 : PySem.W.keepIn K (.ref f27) = true)
    (a28 : PySem.W.nsIn K mainGlobals "_law_taken" = some (some (.ref f28))) (l28 : K.lookup f28 = some ⟨oc28, od28, .func (PySem.W.fnOf "_law_taken" "_law_taken" (defArgs dTaken) (defBody dTaken) (defScope dTaken) .none kV28 dc28 pm28 an28 cd28 ct28), sl28⟩) (c28 : PySem.W.codeIn K cd28 "_law_taken" = true) (k28 : PySem.W.keepIn K (.ref f28) = true)
    (a29 : PySem.W.nsIn K mainGlobals "_law_order" = some (some (.ref f29))) (l29 : K.lookup f29 = some ⟨oc29, od29, .func (PySem.W.fnOf "_law_order" "_law_order" (defArgs dOrder) (defBody dOrder) (defScope dOrder) .none kV29 dc29 pm29 an29 cd29 ct29), sl29⟩) (c29 : PySem.W.codeIn K cd29 "_law_order" = true) (k29 : PySem.W.keepIn K (.ref f29) = true)
    (a30 : PySem.W.nsIn K mainGlobals "law" = some (some (.ref f30))) (l30 : K.lookup f30 = some ⟨oc30, od30, .func (PySem.W.fnOf "law" "law" (defArgs dLaw) (defBody dLaw) (defScope dLaw) .none kV30 dc30 pm30 an30 cd30 ct30), sl30⟩) (c30 : PySem.W.codeIn K cd30 "law" = true) (k30 : PySem.W.keepIn K (.ref f30) = true)
    (y1 : PySem.W.nsIn K mainGlobals "MOST_CELLS" = some (some (.int 40 t1)))
    (y2 : PySem.W.nsIn K mainGlobals "MOST_COLOUR" = some (some (.int 9 t2)))
    (y3 : PySem.W.nsIn K mainGlobals "LEAST_RING" = some (some (.int 3 t3)))
    (y4 : PySem.W.nsIn K mainGlobals "MOST_PAINTED" = some (some (.int 8 t4)))
    (z1 : PySem.W.nsIn K mainGlobals "isinstance" = some none)
    (z2 : PySem.W.nsIn K mainGlobals "int" = some none)
    (z3 : PySem.W.nsIn K mainGlobals "bool" = some none)
    (z4 : PySem.W.nsIn K mainGlobals "tuple" = some none)
    (z5 : PySem.W.nsIn K mainGlobals "list" = some none)
    (z6 : PySem.W.nsIn K mainGlobals "dict" = some none)
    (z7 : PySem.W.nsIn K mainGlobals "set" = some none)
    (z8 : PySem.W.nsIn K mainGlobals "len" = some none)
    (z9 : PySem.W.nsIn K mainGlobals "sorted" = some none)
    (z10 : PySem.W.nsIn K mainGlobals "range" = some none)
    (z11 : PySem.W.nsIn K mainGlobals "enumerate" = some none)
    (z12 : PySem.W.nsIn K mainGlobals "max" = some none)
    (z13 : PySem.W.nsIn K mainGlobals "min" = some none) :
    ∃ fd : FuncData, (∀ (s : Shared) (v : Value), BindsTo s fd ⟨[v], []⟩ [("_law_script", v)]) ∧ ∀ base : Heap, K.In base → base.Ns mainGlobals mg → FnOk l.prog w K mg base CX0 20 fa fd ["_law_script"] (spLaw K) := by
  have e := hfa.symm.trans (PySem.W.mg_of X G a30)
  cases e
  have T : Txt mg := ⟨PySem.W.mg_none_of X G z1, PySem.W.mg_none_of X G z2, PySem.W.mg_none_of X G z3, PySem.W.mg_none_of X G z4, PySem.W.mg_none_of X G z5, PySem.W.mg_none_of X G z6, PySem.W.mg_none_of X G z7, PySem.W.mg_none_of X G z8, PySem.W.mg_none_of X G z9, PySem.W.mg_none_of X G z10, PySem.W.mg_none_of X G z11, PySem.W.mg_none_of X G z12, PySem.W.mg_none_of X G z13, ⟨t1, PySem.W.mg_of X G y1⟩, ⟨t2, PySem.W.mg_of X G y2⟩, ⟨t3, PySem.W.mg_of X G y3⟩, ⟨t4, PySem.W.mg_of X G y4⟩⟩
  have F1 := fun_mk (st := dIsIn) l1 c1 k1
  have D1 : Dn K mg "is_in" dIsIn ["value", "least", "most"] f1 _ := ⟨F1, F1.binds (ps := ["value", "least", "most"]) fun _ _ _ _ _ _ us hl => match us, hl with | [_, _, _], _ => rfl, PySem.W.mg_of X G a1⟩
  have F2 := fun_mk (st := dNeedLine) l2 c2 k2
  have D2 : Dn K mg "need_line" dNeedLine ["line"] f2 _ := ⟨F2, F2.binds (ps := ["line"]) fun _ _ _ _ _ _ us hl => match us, hl with | [_], _ => rfl, PySem.W.mg_of X G a2⟩
  have F3 := fun_mk (st := dIsCells) l3 c3 k3
  have D3 : Dn K mg "is_cells" dIsCells ["many", "value"] f3 _ := ⟨F3, F3.binds (ps := ["many", "value"]) fun _ _ _ _ _ _ us hl => match us, hl with | [_, _], _ => rfl, PySem.W.mg_of X G a3⟩
  have F4 := fun_mk (st := dHeldIn) l4 c4 k4
  have D4 : Dn K mg "held_in" dHeldIn ["line"] f4 _ := ⟨F4, F4.binds (ps := ["line"]) fun _ _ _ _ _ _ us hl => match us, hl with | [_], _ => rfl, PySem.W.mg_of X G a4⟩
  have F5 := fun_mk (st := dFlanks) l5 c5 k5
  have D5 : Dn K mg "flanks" dFlanks ["many", "cell"] f5 _ := ⟨F5, F5.binds (ps := ["many", "cell"]) fun _ _ _ _ _ _ us hl => match us, hl with | [_, _], _ => rfl, PySem.W.mg_of X G a5⟩
  have F6 := fun_mk (st := dIsFlanked) l6 c6 k6
  have D6 : Dn K mg "is_flanked" dIsFlanked ["cells", "cell"] f6 _ := ⟨F6, F6.binds (ps := ["cells", "cell"]) fun _ _ _ _ _ _ us hl => match us, hl with | [_, _], _ => rfl, PySem.W.mg_of X G a6⟩
  have F7 := fun_mk (st := dReadyIn) l7 c7 k7
  have D7 : Dn K mg "ready_in" dReadyIn ["line"] f7 _ := ⟨F7, F7.binds (ps := ["line"]) fun _ _ _ _ _ _ us hl => match us, hl with | [_], _ => rfl, PySem.W.mg_of X G a7⟩
  have F8 := fun_mk (st := dSwingsIn) l8 c8 k8
  have D8 : Dn K mg "swings_in" dSwingsIn ["line"] f8 _ := ⟨F8, F8.binds (ps := ["line"]) fun _ _ _ _ _ _ us hl => match us, hl with | [_], _ => rfl, PySem.W.mg_of X G a8⟩
  have F9 := fun_mk (st := dSwings) l9 c9 k9
  have D9 : Dn K mg "swings" dSwings ["line"] f9 _ := ⟨F9, F9.binds (ps := ["line"]) fun _ _ _ _ _ _ us hl => match us, hl with | [_], _ => rfl, PySem.W.mg_of X G a9⟩
  have F10 := fun_mk (st := dStretches) l10 c10 k10
  have D10 : Dn K mg "stretches_in" dStretches ["line"] f10 _ := ⟨F10, F10.binds (ps := ["line"]) fun _ _ _ _ _ _ us hl => match us, hl with | [_], _ => rfl, PySem.W.mg_of X G a10⟩
  have F11 := fun_mk (st := dNeedRest) l11 c11 k11
  have D11 : Dn K mg "need_resting" dNeedRest ["line"] f11 _ := ⟨F11, F11.binds (ps := ["line"]) fun _ _ _ _ _ _ us hl => match us, hl with | [_], _ => rfl, PySem.W.mg_of X G a11⟩
  have F12 := fun_mk (st := dDepths) l12 c12 k12
  have D12 : Dn K mg "depths_in" dDepths ["line"] f12 _ := ⟨F12, F12.binds (ps := ["line"]) fun _ _ _ _ _ _ us hl => match us, hl with | [_], _ => rfl, PySem.W.mg_of X G a12⟩
  have F13 := fun_mk (st := dNeedFrame) l13 c13 k13
  have D13 : Dn K mg "need_frame" dNeedFrame ["frame"] f13 _ := ⟨F13, F13.binds (ps := ["frame"]) fun _ _ _ _ _ _ us hl => match us, hl with | [_], _ => rfl, PySem.W.mg_of X G a13⟩
  have F14 := fun_mk (st := dWithCells) l14 c14 k14
  have D14 : Dn K mg "with_cells" dWithCells ["line", "cells"] f14 _ := ⟨F14, F14.binds (ps := ["line", "cells"]) fun _ _ _ _ _ _ us hl => match us, hl with | [_, _], _ => rfl, PySem.W.mg_of X G a14⟩
  have F15 := fun_mk (st := dTurns) l15 c15 k15
  have D15 : Dn K mg "turns_in" dTurns ["line", "many"] f15 _ := ⟨F15, F15.binds (ps := ["line", "many"]) fun _ _ _ _ _ _ us hl => match us, hl with | [_, _], _ => rfl, PySem.W.mg_of X G a15⟩
  have F16 := fun_mk (st := dAfter) l16 c16 k16
  have D16 : Dn K mg "cells_after" dAfter ["line", "many"] f16 _ := ⟨F16, F16.binds (ps := ["line", "many"]) fun _ _ _ _ _ _ us hl => match us, hl with | [_, _], _ => rfl, PySem.W.mg_of X G a16⟩
  have F17 := fun_mk (st := dRestCells) l17 c17 k17
  have D17 : Dn K mg "rest_cells" dRestCells ["line"] f17 _ := ⟨F17, F17.binds (ps := ["line"]) fun _ _ _ _ _ _ us hl => match us, hl with | [_], _ => rfl, PySem.W.mg_of X G a17⟩
  have F18 := fun_mk (st := dRest) l18 c18 k18
  have D18 : Dn K mg "rest" dRest ["line"] f18 _ := ⟨F18, F18.binds (ps := ["line"]) fun _ _ _ _ _ _ us hl => match us, hl with | [_], _ => rfl, PySem.W.mg_of X G a18⟩
  have F19 := fun_mk (st := dNeedPainted) l19 c19 k19
  have D19 : Dn K mg "need_painted" dNeedPainted ["frame", "painted"] f19 _ := ⟨F19, F19.binds (ps := ["frame", "painted"]) fun _ _ _ _ _ _ us hl => match us, hl with | [_, _], _ => rfl, PySem.W.mg_of X G a19⟩
  have F20 := fun_mk (st := dDiff) l20 c20 k20
  have D20 : Dn K mg "difference" dDiff ["frame", "cells"] f20 _ := ⟨F20, F20.binds (ps := ["frame", "cells"]) fun _ _ _ _ _ _ us hl => match us, hl with | [_, _], _ => rfl, PySem.W.mg_of X G a20⟩
  have F21 := fun_mk (st := dColour) l21 c21 k21
  have D21 : Dn K mg "colour_next" dColour ["painted"] f21 _ := ⟨F21, F21.binds (ps := ["painted"]) fun _ _ _ _ _ _ us hl => match us, hl with | [_], _ => rfl, PySem.W.mg_of X G a21⟩
  have F22 := fun_mk (st := dBehind) l22 c22 k22
  have D22 : Dn K mg "behind" dBehind ["painted", "cell", "colour"] f22 _ := ⟨F22, F22.binds (ps := ["painted", "cell", "colour"]) fun _ _ _ _ _ _ us hl => match us, hl with | [_, _, _], _ => rfl, PySem.W.mg_of X G a22⟩
  have F23 := fun_mk (st := dValue) l23 c23 k23
  have D23 : Dn K mg "value_in" dValue ["frame", "painted", "known"] f23 _ := ⟨F23, F23.binds (ps := ["frame", "painted", "known"]) fun _ _ _ _ _ _ us hl => match us, hl with | [_, _, _], _ => rfl, PySem.W.mg_of X G a23⟩
  have F24 := fun_mk (st := dPValue) l24 c24 k24
  have D24 : Dn K mg "painters_value" dPValue ["frame", "painted"] f24 _ := ⟨F24, F24.binds (ps := ["frame", "painted"]) fun _ _ _ _ _ _ us hl => match us, hl with | [_, _], _ => rfl, PySem.W.mg_of X G a24⟩
  have F25 := fun_mk (st := dPCells) l25 c25 k25
  have D25 : Dn K mg "painters_cells" dPCells ["frame", "painted"] f25 _ := ⟨F25, F25.binds (ps := ["frame", "painted"]) fun _ _ _ _ _ _ us hl => match us, hl with | [_, _], _ => rfl, PySem.W.mg_of X G a25⟩
  have F26 := fun_mk (st := dMassesIn) l26 c26 k26
  have D26 : Dn K mg "masses_in" dMassesIn ["cells"] f26 _ := ⟨F26, F26.binds (ps := ["cells"]) fun _ _ _ _ _ _ us hl => match us, hl with | [_], _ => rfl, PySem.W.mg_of X G a26⟩
  have F27 := fun_mk (st := dMasses) l27 c27 k27
  have D27 : Dn K mg "masses" dMasses ["line"] f27 _ := ⟨F27, F27.binds (ps := ["line"]) fun _ _ _ _ _ _ us hl => match us, hl with | [_], _ => rfl, PySem.W.mg_of X G a27⟩
  have F28 := fun_mk (st := dTaken) l28 c28 k28
  have D28 : Dn K mg "_law_taken" dTaken ["_law_row", "_law_many"] f28 _ := ⟨F28, F28.binds (ps := ["_law_row", "_law_many"]) fun _ _ _ _ _ _ us hl => match us, hl with | [_, _], _ => rfl, PySem.W.mg_of X G a28⟩
  have F29 := fun_mk (st := dOrder) l29 c29 k29
  have D29 : Dn K mg "_law_order" dOrder ["_law_row", "_law_many"] f29 _ := ⟨F29, F29.binds (ps := ["_law_row", "_law_many"]) fun _ _ _ _ _ _ us hl => match us, hl with | [_, _], _ => rfl, PySem.W.mg_of X G a29⟩
  have F30 := fun_mk (st := dLaw) l30 c30 k30
  have D30 : Dn K mg "law" dLaw ["_law_script"] fa _ := ⟨F30, F30.binds (ps := ["_law_script"]) fun _ _ _ _ _ _ us hl => match us, hl with | [_], _ => rfl, PySem.W.mg_of X G a30⟩
  refine ⟨PySem.W.fnOf "law" "law" (defArgs dLaw) (defBody dLaw) (defScope dLaw) .none kV30 dc30 pm30 an30 cd30 ct30, fun s v => .of_eq rfl, fun base _ _ => ?_⟩
  have gIn := ok_isIn (P := l.prog) (w := w) (base := base) D1 T
  have gFlanks := ok_flanks (P := l.prog) (w := w) (base := base) D5
  have gFlanked := ok_flanked D6 T gFlanks
  have gCells := ok_isCells D3 T gIn
  have gHeld := ok_heldIn (P := l.prog) (w := w) (base := base) D4 T
  have gLine := ok_needLine D2 T gIn gCells
  have gReady := ok_ready D7 T gHeld gFlanked
  have gSwI := ok_swingsIn D8 T gReady
  have gSw := ok_swings D9 gLine gSwI
  have gNR := ok_needRest D11 gLine gSwI
  have gStr := ok_stretches D10 T gReady
  have gDep := ok_depths D12 T gStr
  have gTurn := ok_turns D15 T gSwI gDep
  have gAft := ok_after D16 T gTurn
  have gRC := ok_restCells D17 T gAft
  have gWith := ok_with (P := l.prog) (w := w) (base := base) D14 T
  have gRest := ok_rest D18 gNR gRC gWith
  have gDiff := ok_diff D20 T gSwI gRC
  have gNF := ok_needFrame D13 T gIn gCells
  have gNP := ok_needPainted D19 T gIn gNF
  have gCol := ok_colour (P := l.prog) (w := w) (base := base) D21
  have gBeh := ok_behind (P := l.prog) (w := w) (base := base) D22
  have gVal := ok_value D23 T gCol gBeh gDiff
  have gPV := ok_pvalue D24 gNP gVal
  have gPC := ok_pcells D25 T gNP gCol gBeh gVal
  have gMI := ok_massIn (P := l.prog) (w := w) (base := base) D26 T
  have gM := ok_masses D27 T gLine gMI
  have gT := ok_taken (P := l.prog) (w := w) (base := base) D28 T
  have gO := ok_order D29 T gT
  exact ok_law D30 T gT gO gPV gPC gSw gM gRest
theorem walk {l : PySem.W.OpenLaw} {q : Program} {loose : List Str} {XP : (Str → Option Value) → Heap → Prop} {YP : World → Heap → Prop} {d : DefRec} {K : Params → PySem.W.Frag} (hn : l.most = some 63) (hdf : d.params.defaults = [])
    (hY : ∀ (w : World) (h : Heap), YP w h → (K w.params).In h)
    (F : ∀ (w : World) (mg : Str → Option Value) (fa : Addr) (h : Heap), (K w.params).In h → h.Ns mainGlobals mg → mg d.name = some (.ref fa) →
      ∃ fd : FuncData, (∀ (s : Shared) (u : Value), BindsTo s fd ⟨[u], []⟩ [("_law_script", u)]) ∧ ∀ base : Heap, (K w.params).In base → base.Ns mainGlobals mg → FnOk l.prog w (K w.params) mg base CX0 20 fa fd ["_law_script"] (spLaw (K w.params))) :
    PySem.W.WalkO q loose XP YP l.row.toRowW d [] (fun f vs => PySem.call f vs) :=
  L2.walk_of (n := 63) (k := 20) (x := "_law_script") (CX := fun _ => CX0) (sp := fun w => spLaw (K w.params)) hn (by decide) hdf ⟨rfl, by decide, by decide⟩ hY F (fun _ _ a ns hl _ hS => ⟨a, ns, rfl, hS, hl, fun _ => rfl⟩) fun _ _ _ _ _ z => z
end FT
open PySem PySem.W PyProof.Rows
set_option maxRecDepth 100000 in
set_option maxHeartbeats 0 in
theorem PySem.Challenge.cw_flankturns_k90_across_held_painters_holds : PySem.Challenge.rw_flankturns_k90_across_held_painters.Holds := by
  w_on; o_law; k_head; (case hw => w_witness2)
  k_fill
  refine FT.walk (l := PySem.Challenge.rw_flankturns_k90_across_held_painters) rfl rfl (fun w h Y => PySem.W.kIn_of Y) ?F
  case F =>
    intro w mg fa h KX G hmg
    refine' FT.all_mk KX G hmg ?a1 ?l1 ?c1 ?k1 ?a2 ?l2 ?c2 ?k2 ?a3 ?l3 ?c3 ?k3 ?a4 ?l4 ?c4 ?k4 ?a5 ?l5 ?c5 ?k5 ?a6 ?l6 ?c6 ?k6 ?a7 ?l7 ?c7 ?k7 ?a8 ?l8 ?c8 ?k8 ?a9 ?l9 ?c9 ?k9 ?a10 ?l10 ?c10 ?k10 ?a11 ?l11 ?c11 ?k11 ?a12 ?l12 ?c12 ?k12 ?a13 ?l13 ?c13 ?k13 ?a14 ?l14 ?c14 ?k14 ?a15 ?l15 ?c15 ?k15 ?a16 ?l16 ?c16 ?k16 ?a17 ?l17 ?c17 ?k17 ?a18 ?l18 ?c18 ?k18 ?a19 ?l19 ?c19 ?k19 ?a20 ?l20 ?c20 ?k20 ?a21 ?l21 ?c21 ?k21 ?a22 ?l22 ?c22 ?k22 ?a23 ?l23 ?c23 ?k23 ?a24 ?l24 ?c24 ?k24 ?a25 ?l25 ?c25 ?k25 ?a26 ?l26 ?c26 ?k26 ?a27 ?l27 ?c27 ?k27 ?a28 ?l28 ?c28 ?k28 ?a29 ?l29 ?c29 ?k29 ?a30 ?l30 ?c30 ?k30 ?y1 ?y2 ?y3 ?y4 ?z1 ?z2 ?z3 ?z4 ?z5 ?z6 ?z7 ?z8 ?z9 ?z10 ?z11 ?z12 ?z13
    (case a1 => k_is); (case l1 => k_is); (case c1 => k_is); (case k1 => k_is)
    (case a2 => k_is); (case l2 => k_is); (case c2 => k_is); (case k2 => k_is)
    (case a3 => k_is); (case l3 => k_is); (case c3 => k_is); (case k3 => k_is)
    (case a4 => k_is); (case l4 => k_is); (case c4 => k_is); (case k4 => k_is)
    (case a5 => k_is); (case l5 => k_is); (case c5 => k_is); (case k5 => k_is)
    (case a6 => k_is); (case l6 => k_is); (case c6 => k_is); (case k6 => k_is)
    (case a7 => k_is); (case l7 => k_is); (case c7 => k_is); (case k7 => k_is)
    (case a8 => k_is); (case l8 => k_is); (case c8 => k_is); (case k8 => k_is)
    (case a9 => k_is); (case l9 => k_is); (case c9 => k_is); (case k9 => k_is)
    (case a10 => k_is); (case l10 => k_is); (case c10 => k_is); (case k10 => k_is)
    (case a11 => k_is); (case l11 => k_is); (case c11 => k_is); (case k11 => k_is)
    (case a12 => k_is); (case l12 => k_is); (case c12 => k_is); (case k12 => k_is)
    (case a13 => k_is); (case l13 => k_is); (case c13 => k_is); (case k13 => k_is)
    (case a14 => k_is); (case l14 => k_is); (case c14 => k_is); (case k14 => k_is)
    (case a15 => k_is); (case l15 => k_is); (case c15 => k_is); (case k15 => k_is)
    (case a16 => k_is); (case l16 => k_is); (case c16 => k_is); (case k16 => k_is)
    (case a17 => k_is); (case l17 => k_is); (case c17 => k_is); (case k17 => k_is)
    (case a18 => k_is); (case l18 => k_is); (case c18 => k_is); (case k18 => k_is)
    (case a19 => k_is); (case l19 => k_is); (case c19 => k_is); (case k19 => k_is)
    (case a20 => k_is); (case l20 => k_is); (case c20 => k_is); (case k20 => k_is)
    (case a21 => k_is); (case l21 => k_is); (case c21 => k_is); (case k21 => k_is)
    (case a22 => k_is); (case l22 => k_is); (case c22 => k_is); (case k22 => k_is)
    (case a23 => k_is); (case l23 => k_is); (case c23 => k_is); (case k23 => k_is)
    (case a24 => k_is); (case l24 => k_is); (case c24 => k_is); (case k24 => k_is)
    (case a25 => k_is); (case l25 => k_is); (case c25 => k_is); (case k25 => k_is)
    (case a26 => k_is); (case l26 => k_is); (case c26 => k_is); (case k26 => k_is)
    (case a27 => k_is); (case l27 => k_is); (case c27 => k_is); (case k27 => k_is)
    (case a28 => k_is); (case l28 => k_is); (case c28 => k_is); (case k28 => k_is)
    (case a29 => k_is); (case l29 => k_is); (case c29 => k_is); (case k29 => k_is)
    (case a30 => k_is); (case l30 => k_is); (case c30 => k_is); (case k30 => k_is)
    (case y1 => k_is); (case y2 => k_is); (case y3 => k_is); (case y4 => k_is)
    (case z1 => k_is); (case z2 => k_is); (case z3 => k_is); (case z4 => k_is)
    (case z5 => k_is); (case z6 => k_is); (case z7 => k_is); (case z8 => k_is)
    (case z9 => k_is); (case z10 => k_is); (case z11 => k_is); (case z12 => k_is)
    (case z13 => k_is)

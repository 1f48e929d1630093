import PyProof.Rows.All
import HandS.ForMost
import HandS.IsInst
import HandS.Zip
import HandS.TupMul
import HandS.TupAny
import HandS.Strs
import HandS.Replace
import HandS.Walk
import KE.GoesMore
import KE.GoesZip
import KE.GoesEnum
import PyProof.ReprRoads
import PyProof.Rows.RegFStrParts
import PySem.Challenge.RW_stairpay_k03_whole_rows
set_option Elab.async false
set_option linter.all false
set_option maxRecDepth 100000
set_option maxHeartbeats 4000000
/-! The mathematics of deals: places, figures, counts; no program in sight. -/
namespace K3

abbrev Run := Option Nat × List Nat

/-- the last run alone has no end -/
def Ends : List Run → Prop
  | [] => False
  | (none, _) :: r => r = []
  | (some _, _) :: r => Ends r

/-- the number of the run of a coin, and how many of its coins are ahead -/
def place : List Run → Nat → Nat × Nat
  | [], k => (0, k)
  | (none, _) :: _, k => (0, k)
  | (some c, _) :: r, k => if k < c then (0, k) else ((place r (k - c)).1 + 1, (place r (k - c)).2)

/-- the figure of a coin -/
def figAt : List Run → Nat → Nat
  | [], _ => 0
  | (none, f) :: _, k => f.getD (k % f.length) 0
  | (some c, f) :: r, k => if k < c then f.getD (k % f.length) 0 else figAt r (k - c)

theorem place_fig : ∀ (rs : List Run) (k : Nat), Ends rs → ∃ c f, rs[(place rs k).1]? = some (c, f) ∧ figAt rs k = f.getD ((place rs k).2 % f.length) 0
  | [], _, h => h.elim
  | (none, f) :: r, k, _ => ⟨none, f, rfl, rfl⟩
  | (some c, f) :: r, k, h => by
    by_cases hk : k < c
    · refine ⟨some c, f, ?_, ?_⟩
      · simp [place, hk]
      · simp [place, figAt, hk]
    · obtain ⟨c', f', h1, h2⟩ := place_fig r (k - c) h
      refine ⟨c', f', ?_, ?_⟩
      · simp only [place, hk, if_false]
        rw [List.getElem?_cons_succ]
        exact h1
      · simp only [place, figAt, hk, if_false]
        exact h2

theorem place_le : ∀ (rs : List Run) (k : Nat), (place rs k).2 ≤ k
  | [], k => Nat.le_refl _
  | (none, f) :: r, k => Nat.le_refl _
  | (some c, f) :: r, k => by
    by_cases hk : k < c
    · simp [place, hk]
    · have := place_le r (k - c)
      simp only [place, hk, if_false]
      omega

theorem place_lt {rs : List Run} {k : Nat} (h : Ends rs) : (place rs k).1 < rs.length := by
  obtain ⟨c, f, h1, _⟩ := place_fig rs k h
  exact (List.getElem?_eq_some_iff.mp h1).1

theorem fig_lt {t : Nat} {rs : List Run} (h : Ends rs) (hd : ∀ r ∈ rs, r.2 ≠ [] ∧ ∀ d ∈ r.2, d < t) (k : Nat) : figAt rs k < t := by
  obtain ⟨c, f, h1, h2⟩ := place_fig rs k h
  obtain ⟨hn, hb⟩ := hd _ (List.mem_of_getElem? h1)
  rw [h2]
  have hl : 0 < f.length := List.length_pos_iff.mpr hn
  have hm : (place rs k).2 % f.length < f.length := Nat.mod_lt _ hl
  rw [List.getD_eq_getElem?_getD, List.getElem?_eq_getElem hm]
  exact hb _ (List.getElem_mem hm)

/-! ### counts -/
def cntIn (f : List Nat) (d n : Nat) : Nat := n / f.length * f.count d + (f.take (n % f.length)).count d

theorem range_snoc (n : Nat) : List.range (n + 1) = List.range n ++ [n] := List.range_succ

theorem count_snoc {α : Type} [BEq α] (l : List α) (x d : α) : (l ++ [x]).count d = l.count d + if x == d then 1 else 0 := by
  rw [List.count_append, List.count_singleton]

theorem take_snoc {f : List Nat} {r : Nat} (h : r < f.length) : f.take (r + 1) = f.take r ++ [f.getD r 0] := by
  rw [List.take_add_one, List.getElem?_eq_getElem h, List.getD_eq_getElem?_getD, List.getElem?_eq_getElem h]
  rfl

theorem cntIn_succ {f : List Nat} (hf : f ≠ []) (d n : Nat) : cntIn f d (n + 1) = cntIn f d n + if f.getD (n % f.length) 0 == d then 1 else 0 := by
  have hl : 0 < f.length := List.length_pos_iff.mpr hf
  have hr : n % f.length < f.length := Nat.mod_lt _ hl
  have hn := Nat.div_add_mod n f.length
  unfold cntIn
  by_cases h : n % f.length + 1 < f.length
  · have e : n + 1 = f.length * (n / f.length) + (n % f.length + 1) := by omega
    have e1 : (n + 1) % f.length = n % f.length + 1 := by
      rw [e, Nat.mul_add_mod, Nat.mod_eq_of_lt h]
    have e2 : (n + 1) / f.length = n / f.length := by
      rw [e, Nat.mul_add_div hl, Nat.div_eq_of_lt h, Nat.add_zero]
    rw [e1, e2, take_snoc hr, count_snoc, Nat.add_assoc]
  · have h' : n % f.length + 1 = f.length := by omega
    have e : n + 1 = f.length * (n / f.length + 1) := by rw [Nat.mul_add, Nat.mul_one]; omega
    have e1 : (n + 1) % f.length = 0 := by rw [e, Nat.mul_mod_right]
    have e2 : (n + 1) / f.length = n / f.length + 1 := by rw [e, Nat.mul_div_cancel_left _ hl]
    have e3 : f.count d = (f.take (n % f.length)).count d + if f.getD (n % f.length) 0 == d then 1 else 0 := by
      rw [← count_snoc, ← take_snoc hr, h', List.take_length]
    rw [e1, e2, List.take_zero, List.count_nil, Nat.add_zero, Nat.add_mul, Nat.one_mul]
    omega

theorem cntIn_eq {f : List Nat} (hf : f ≠ []) (d : Nat) : ∀ n, cntIn f d n = ((List.range n).map fun k => f.getD (k % f.length) 0).count d
  | 0 => by simp [cntIn]
  | n + 1 => by rw [cntIn_succ hf, cntIn_eq hf d n, range_snoc, List.map_append, List.map_cons, List.map_nil, count_snoc]

/-- how many of n coins each run deals -/
def partsOf : List Run → Nat → List Nat
  | [], _ => []
  | (none, _) :: r, n => n :: partsOf r 0
  | (some c, _) :: r, n => min n c :: partsOf r (n - min n c)
theorem partsOf_len : ∀ (rs : List Run) (n : Nat), (partsOf rs n).length = rs.length
  | [], _ => rfl
  | (none, _) :: r, n => by simp [partsOf, partsOf_len r 0]
  | (some c, _) :: r, n => by simp [partsOf, partsOf_len r (n - min n c)]
theorem partsOf_le : ∀ (rs : List Run) (n : Nat), ∀ p ∈ partsOf rs n, p ≤ n
  | [], _, p, h => by simp [partsOf] at h
  | (none, _) :: r, n, p, h => by
    simp only [partsOf, List.mem_cons] at h
    rcases h with rfl | h
    · exact Nat.le_refl _
    · have := partsOf_le r 0 p h
      omega
  | (some c, _) :: r, n, p, h => by
    simp only [partsOf, List.mem_cons] at h
    rcases h with rfl | h
    · exact Nat.min_le_left _ _
    · have := partsOf_le r _ p h
      omega

def cntBy (rs : List Run) (d n : Nat) : Nat := (List.zipWith (fun (r : Run) p => cntIn r.2 d p) rs (partsOf rs n)).sum

theorem range_split (a b : Nat) : List.range (a + b) = List.range a ++ (List.range b).map (a + ·) := List.range_add

theorem cntIn_zero (f : List Nat) (d : Nat) : cntIn f d 0 = 0 := by simp [cntIn]

theorem cntBy_eq : ∀ (rs : List Run) (d n : Nat), Ends rs → (∀ r ∈ rs, r.2 ≠ []) → cntBy rs d n = ((List.range n).map (figAt rs)).count d
  | [], _, _, h, _ => h.elim
  | (none, f) :: r, d, n, h, hf => by
    have h' : r = [] := h
    subst h'
    have e : figAt [(none, f)] = fun k => f.getD (k % f.length) 0 := rfl
    rw [e, ← cntIn_eq (hf _ List.mem_cons_self)]
    simp [cntBy, partsOf]
  | (some c, f) :: r, d, n, h, hf => by
    have ih := cntBy_eq r d (n - min n c) h fun x hx => hf x (List.mem_cons_of_mem _ hx)
    have e0 : cntBy ((some c, f) :: r) d n = cntIn f d (min n c) + cntBy r d (n - min n c) := rfl
    have e1 : n = min n c + (n - min n c) := by omega
    have e2 : (List.range (min n c)).map (figAt ((some c, f) :: r)) = (List.range (min n c)).map fun k => f.getD (k % f.length) 0 := by
      refine List.map_congr_left fun k hk => ?_
      have hk' : k < c := by have := List.mem_range.mp hk; omega
      simp only [figAt, hk', if_true]
    have e3 : ((List.range (n - min n c)).map (min n c + ·)).map (figAt ((some c, f) :: r)) = (List.range (n - min n c)).map (figAt r) := by
      rw [List.map_map]
      refine List.map_congr_left fun k hk => ?_
      have hk' := List.mem_range.mp hk
      have hm : min n c = c := by omega
      have hn : ¬ min n c + k < c := by omega
      show figAt ((some c, f) :: r) (min n c + k) = figAt r k
      simp only [figAt, hn, if_false]
      rw [hm, Nat.add_sub_cancel_left]
    have e4 : List.range n = List.range (min n c) ++ (List.range (n - min n c)).map (min n c + ·) := by
      rw [← range_split, ← e1]
    rw [e0, ih, e4, List.map_append, List.count_append, e2, e3, cntIn_eq (hf _ List.mem_cons_self)]

/-! ### the law's own row -/
/-- behind i runs m of size coins are told -/
def RowInv (rs : List Run) (size i m : Nat) : Prop :=
  m ≤ size ∧ (m = size ∨ (Ends (rs.drop i) ∧ (∀ k, figAt rs (m + k) = figAt (rs.drop i) k) ∧ ∀ k, place rs (m + k) = ((place (rs.drop i) k).1 + i, (place (rs.drop i) k).2)))
theorem RowInv.start {rs : List Run} {size : Nat} (h : Ends rs) : RowInv rs size 0 0 :=
  ⟨Nat.zero_le _, .inr ⟨h, fun k => by rw [Nat.zero_add]; rfl, fun k => by rw [Nat.zero_add]; rfl⟩⟩
theorem RowInv.fin {rs : List Run} {size m : Nat} (h : RowInv rs size rs.length m) : m = size := by
  rcases h.2 with e | ⟨e, _⟩
  · exact e
  · rw [List.drop_length] at e
    exact e.elim
theorem drop_cons {rs : List Run} {i : Nat} {r : Run} (h : rs[i]? = some r) : rs.drop i = r :: rs.drop (i + 1) := by
  obtain ⟨hi, e⟩ := List.getElem?_eq_some_iff.mp h
  rw [List.drop_eq_getElem_cons hi, e]
/-- what the turn over a run without an end tells -/
theorem RowInv.none {rs : List Run} {size i m : Nat} {f : List Nat} (h : RowInv rs size i m) (hi : rs[i]? = some (.none, f)) :
    RowInv rs size (i + 1) (m + (size - m)) ∧ ∀ k, k < size - m → figAt rs (m + k) = f.getD (k % f.length) 0 ∧ place rs (m + k) = (i, k) := by
  refine ⟨⟨by have := h.1; omega, .inl (by have := h.1; omega)⟩, fun k hk => ?_⟩
  rcases h.2 with e | ⟨_, e1, e2⟩
  · omega
  · rw [e1, e2, drop_cons hi]
    exact ⟨rfl, by simp [place]⟩
theorem RowInv.some {rs : List Run} {size i m c : Nat} {f : List Nat} (h : RowInv rs size i m) (hi : rs[i]? = some (.some c, f)) :
    RowInv rs size (i + 1) (m + min c (size - m)) ∧ ∀ k, k < min c (size - m) → figAt rs (m + k) = f.getD (k % f.length) 0 ∧ place rs (m + k) = (i, k) := by
  have h1 := h.1
  rcases h.2 with e | ⟨e0, e1, e2⟩
  · refine ⟨⟨by omega, .inl (by omega)⟩, fun k hk => by omega⟩
  · have ed := drop_cons hi
    refine ⟨⟨by omega, ?_⟩, fun k hk => ?_⟩
    · by_cases hc : c ≤ size - m
      · have em : min c (size - m) = c := by omega
        rw [em]
        rw [ed] at e0
        refine .inr ⟨e0, fun k => ?_, fun k => ?_⟩
        · rw [Nat.add_assoc, e1, ed]
          have hk : ¬ c + k < c := by omega
          simp only [figAt, hk, if_false]
          rw [Nat.add_sub_cancel_left]
        · rw [Nat.add_assoc, e2, ed]
          have hk : ¬ c + k < c := by omega
          simp only [place, hk, if_false]
          rw [Nat.add_sub_cancel_left, Nat.add_assoc, Nat.add_comm 1 i]
      · exact .inl (by omega)
    · have hk' : k < c := by omega
      rw [e1, e2, ed]
      simp [figAt, place, hk']
/-- lists by turns grow -/
theorem map_grow {α : Type} (g : Nat → α) (h : Nat → α) {m n : Nat} (e : ∀ k, k < n → g (m + k) = h k) : (List.range (m + n)).map g = (List.range m).map g ++ (List.range n).map h := by
  rw [range_split, List.map_append, List.map_map]
  congr 1
  exact List.map_congr_left fun k hk => e k (List.mem_range.mp hk)

/-! ### sums -/
def sumsAt (rs : List Run) (t k : Nat) : List Nat := (List.range t).map fun j => ((List.range k).map (figAt rs)).count j
theorem sumsAt_len (rs : List Run) (t k : Nat) : (sumsAt rs t k).length = t := by simp [sumsAt]
theorem sumsAt_zero (rs : List Run) (t : Nat) : sumsAt rs t 0 = List.replicate t 0 := by
  unfold sumsAt
  rw [List.range_zero, List.map_nil]
  refine List.ext_getElem? fun i => ?_
  by_cases h : i < t
  · simp [h]
  · simp [h, Nat.le_of_not_lt h]
theorem sumsAt_get (rs : List Run) {t k j : Nat} (h : j < t) : (sumsAt rs t k)[j]? = some (((List.range k).map (figAt rs)).count j) := by
  simp [sumsAt, h]
theorem sumsAt_succ (rs : List Run) {t k : Nat} (h : figAt rs k < t) : sumsAt rs t (k + 1) = (sumsAt rs t k).set (figAt rs k) (((List.range k).map (figAt rs)).count (figAt rs k) + 1) := by
  refine List.ext_getElem? fun i => ?_
  by_cases hi : i < t
  · rw [sumsAt_get rs hi, range_snoc, List.map_append, List.map_cons, List.map_nil, count_snoc]
    by_cases e : figAt rs k = i
    · subst e
      rw [List.getElem?_set_self (by rw [sumsAt_len]; exact h)]
      simp
    · rw [List.getElem?_set_ne e, sumsAt_get rs hi]
      simp [e]
  · rw [List.getElem?_eq_none (by rw [sumsAt_len]; omega), List.getElem?_eq_none (by rw [List.length_set, sumsAt_len]; omega)]
theorem count_le_len (rs : List Run) (k j : Nat) : ((List.range k).map (figAt rs)).count j ≤ k := by
  have := List.count_le_length (a := j) (l := (List.range k).map (figAt rs))
  simpa using this
theorem sumsAt_le (rs : List Run) (t k : Nat) : ∀ n ∈ sumsAt rs t k, n ≤ k := by
  intro n hn
  obtain ⟨j, _, e⟩ := List.mem_map.mp hn
  rw [← e]
  exact count_le_len rs k j
def hasOf (rs : List Run) (t n : Nat) : List Nat := (List.range t).map fun j => cntBy rs j n
theorem hasOf_eq {rs : List Run} (h : Ends rs) (hf : ∀ r ∈ rs, r.2 ≠ []) (t n : Nat) : hasOf rs t n = sumsAt rs t n :=
  List.map_congr_left fun j _ => cntBy_eq rs j n h hf
theorem cntIn_le {f : List Nat} (hf : f ≠ []) (d n : Nat) : cntIn f d n ≤ n := by
  rw [cntIn_eq hf]
  have := List.count_le_length (a := d) (l := (List.range n).map fun k => f.getD (k % f.length) 0)
  simpa using this
end K3

/-! Rules that the hand layer lacks: xs[i] op= e, enumerate of a tuple, zip of a tuple and a list, repr of data, t * 1, a def that wants to know the guards. -/
namespace K3
open PySem PySem.Spec PyProof.Rows L2

/-! ### xs[i], by values, for xs[i] op= e -/
section
variable {X : Cx}
theorem get_list : PGet X (rIxL X.K) := by
  intro pins s σ H o i ov iv Q I ro ri h
  obtain ⟨p, xs, k, z, rfl, rfl, hq, he, q⟩ := h
  cases ro
  obtain ⟨t, rfl⟩ := ri
  obtain ⟨its, r, pl, hz⟩ := I.list hq
  obtain ⟨j, h1, h2, h3, h4, h5⟩ := atI_get he
  obtain ⟨w, ew, rw'⟩ := r.get h2
  have hl := r.length
  have fin : EP X pins σ Q w s := ⟨z, H, I, rw', q⟩
  by_cases h0 : 0 ≤ k
  · have hj : k.toNat = j := by
      rw [seqIndex_of h0 h5] at h1
      exact Option.some.inj h1
    have hn := line63
    exact wpAny_getItem_list pl.isList h0 (by omega) (by rw [hj]; simpa using ew) fin
  · have hj : (k + (its.toArray.size : Int)).toNat = j := by
      rw [seqIndex_neg (by omega) h4] at h1
      rw [List.size_toArray, ← hl]
      exact Option.some.inj h1
    have hn := line63
    exact wpAny_getItem_list_neg pl.isList (by omega) (by rw [List.size_toArray] <;> omega) (by omega) (by rw [hj]; simpa using ew) fin
end

/-! ### for i, x in enumerate(t), t a tuple -/
def IteT (K : PySem.W.Frag) (a : Addr) : It :=
  ⟨fun i H => ∃ (xs : List V) (x : V), SqT K H a xs ∧ xs[i]? = some x, fun i H v H' => ∃ T x, v = .ref T ∧ H T = none ∧ H' = upd H T (.tup [.int (i : Nat), x]) ∧ ∀ xs, SqT K H a xs → xs[i]? = some x, fun i H => ∃ xs : List V, SqT K H a xs ∧ xs.length = i⟩
theorem turn_enumT {P : Program} {w : World} {K : PySem.W.Frag} {elts : List Expr} {kk : Nat} {tpos : Pos} (a e it : Addr) :
    Turn P w K (.Tuple elts kk tpos) (IteT K a) [e, it] e (fun i h => (∃ old, IsEnum h e it ((i : Nat) : Int) old) ∧ h.IsTupleIter it a i ∧ e ≠ it ∧ a ≠ it ∧ a ≠ e) where
  mem := by simp
  obj := fun i h st b hb => by
    obtain ⟨⟨old, he⟩, ⟨o, ho, hc, hd⟩, _⟩ := st
    have e' : b = e ∨ b = it := by simpa using hb
    rcases e' with z | z
    · rw [z]; exact ⟨_, he, fun v q => nomatch q⟩
    · rw [z]; exact ⟨o, ho, fun v q => by rw [hd] at q; cases q⟩
  keep := fun i h h' st k => let ⟨⟨old, he⟩, hi, hne⟩ := st; ⟨⟨old, k e (by simp) _ he⟩, hi.at fun o q => k it (by simp) o q, hne⟩
  item := by
    intro X hP hw hK hc i pins s σ H E I hf st hg
    subst hP hw hK
    obtain ⟨⟨old, he⟩, hit, hne, hai, hae⟩ := st
    obtain ⟨xs, x, hq, hx⟩ := hg
    obtain ⟨its, rv, p, hz⟩ := I.tuple hq
    obtain ⟨u, hu, ru⟩ := rv.get hx
    have hel : e < s.heap.objs.size := Heap.lt_size he
    have hil : it < s.heap.objs.size := by obtain ⟨_, q, _⟩ := hit; exact Heap.lt_size q
    have hu' : its.toArray[i]? = some u := by simpa using hu
    have hlt : i < its.toArray.size := (Array.getElem?_eq_some_iff.mp hu').1
    have D := Draws.tuple (prog := X.prog) (w := X.w) (A := X.A.in1) (I.ok.hd hc) it a hai its.toArray
    refine wpAny_pyNext_enum_itemD D he ⟨hit, (show s.heap.IsTuple a its.toArray from p)⟩ hlt hne (by simp; exact ⟨hne, fun q => hae q.symm⟩) fun y h' tk hP ho hst' hT hsz hk => ?_
    have ey : y = u := Option.some.inj (hP.symm.trans hu')
    subst ey
    obtain ⟨hit', _⟩ := hst'
    refine ⟨_, rfl, wpAny_letOwnedTupleGo_enum (s := { s with heap := h', toks := tk + 1 }) ho fun h'' he' sb => ?_⟩
    have hT2 : h''.get? s.heap.objs.size = some { cls := .type "tuple", data := .seq #[.int i tk, y] } := (sb.2 _ (Nat.ne_of_gt hel)).trans hT
    have new : ObjOk X.prog X.w (upd H s.heap.objs.size (.tup [.int (i : Nat), x])) h'' s.heap.objs.size (.tup [.int (i : Nat), x]) :=
      ⟨by show 2 ≤ sizeLine; decide, [.int i tk, y], .cons ⟨_, rfl⟩ (.cons ru .nil), ⟨_, hT2, rfl, _, rfl⟩⟩
    have I1 : Inv X pins σ (upd H s.heap.objs.size (.tup [.int (i : Nat), x])) { s with heap := h'', toks := tk + 1 } :=
      I.turnedNew (ch := [e, it]) (fun b ob hb q => (sb.2 b (fun z => hb (by simp [z]))).trans (hk b ob (fun z => hb (by simp [z])) (fun z => hb (by simp [z])) q)) hf (Nat.le_refl _) new
    refine ⟨.ref s.heap.objs.size, _, I1, rfl, ⟨_, x, rfl, I.hok.fresh (Nat.le_refl _), rfl, fun ys hy => by rw [I.tuple_inj hy hq]; exact hx⟩, ⟨⟨y, ?_⟩, hit'.at fun o q => (sb.2 it (Ne.symm hne)).trans q, hne, hai, hae⟩, fun b hb => ?_⟩
    · have e1 : ((i + 1 : Nat) : Int) = (i : Int) + 1 := by omega
      rw [e1]; exact he'
    · have hb' : b < s.heap.objs.size := by
        have e' : b = e ∨ b = it := by simpa using hb
        rcases e' with z | z
        · rw [z]; exact hel
        · rw [z]; exact hil
      rw [upd_ne (Nat.ne_of_lt hb')]
      exact (hf b hb).1
  done := by
    intro X hP hw hK hc i pins s σ H E I hf st hg
    subst hP hw hK
    obtain ⟨⟨old, he⟩, hit, hne, hai, hae⟩ := st
    obtain ⟨xs, hq, hx⟩ := hg
    obtain ⟨its, rv, p, hz⟩ := I.tuple hq
    obtain ⟨f0, f1, f2, f3, f4, f5⟩ := hf it (by simp)
    have hl := rv.length
    have D := Draws.tuple (prog := X.prog) (w := X.w) (A := X.A.in1) (I.ok.hd hc) it a hai its.toArray
    have en : its.toArray.size = i := by rw [List.size_toArray]; omega
    refine wpAny_pyNext_enum_endD D he ⟨by rw [en]; exact hit, (show s.heap.IsTuple a its.toArray from p)⟩ fun h' eb => ⟨rfl, I.turned (t' := s.toks) (fun b o hb q => eb b o hb q) f0 f1 f3 f4 f5⟩
  self := fun A i s Q E st h => let ⟨⟨_, he⟩, _⟩ := st; wpAny_pyIter_enum he h

def iEnumT (K : PySem.W.Frag) (ta : TA) : TI := fun σ H R => ta σ H fun vs H1 => ∃ a xs, vs = [.ref a] ∧ SqT K H1 a xs ∧ R (IteT K a) H1
theorem meets_enumerate_newT (t : Addr) (items : Array Value) :
    Meets (Builtin.«enumerate.__new__» ⟨[.type "enumerate", .ref t], []⟩) (fun _ R s => s.heap.IsTuple t items ∧
      R (.ok (.ret (.ref (s.heap.push { cls := .type "tuple_iterator", data := .fields #[.ref t, .int 0 0] }).objs.size))) { s with heap := (s.heap.push { cls := .type "tuple_iterator", data := .fields #[.ref t, .int 0 0] }).push { cls := .type "enumerate", data := .fields #[.none, .bool false, .ref s.heap.objs.size, rawInt 0, .none, .none] } }) :=
  .of_wp fun prog w A R s h => by
    obtain ⟨hp, g, d, tk, os⟩ := s; obtain ⟨h1, h⟩ := h
    have hsub := sub_enumerate
    have q1 : ∀ {A' : Around} {E : Value → Shared → Prop} {Q : Value → Shared → Prop}, Q (.ref hp.objs.size) ⟨hp.push { cls := .type "tuple_iterator", data := .fields #[.ref t, .int 0 0] }, g, d, tk, os⟩ → wpAny (model prog w) A' (pyIter (.ref t)) Q E ⟨hp, g, d, tk, os⟩ :=
      fun q => wpAny_pyIter_tuple (s := ⟨hp, g, d, tk, os⟩) h1 q
    wp_walk using q1
    refine wpAny_stack_any fun st => wpAny_pure ?_
    split
    · rename_i c _ _ _ _ _
      cases (c == Value.type "enumerate")
      · wp_walk using q1
        exact ⟨_, rfl, h⟩
      · wp_walk using q1
        exact ⟨_, rfl, h⟩
    · wp_walk using q1
      exact ⟨_, rfl, h⟩
theorem call_enum_tup {prog : Program} {w : World} {A : Around} {E : Value → Shared → Prop} {s : Shared} {t : Addr} {items : Array Value} {Q : Value → Shared → Prop} (ht : s.heap.IsTuple t items)
    (h : ∀ h', IsEnum h' (s.heap.objs.size + 1) s.heap.objs.size 0 .none → h'.IsTupleIter s.heap.objs.size t 0 → (∀ b o, s.heap.get? b = some o → h'.get? b = some o) → Q (.ref (s.heap.objs.size + 1)) { s with heap := h' }) :
    wpAny (model prog w) A (call (.type "enumerate") [.ref t]) Q E s := by
  refine callType_new F.called_enumerate (by decide) (F.typeCall_enumerate_1 _) (F.newCall_enumerate_1 _) (fun obj => F.args_object_init_2 obj _) F.entry_enumerate_new
    (meets_enumerate_newT t items) ⟨ht, ?_⟩
  have hz : (s.heap.push { cls := .type "tuple_iterator", data := .fields #[.ref t, .int 0 0] }).objs.size = s.heap.objs.size + 1 := Heap.size_push ..
  show _ ∧ _
  rw [hz]
  have he : IsEnum ((s.heap.push { cls := .type "tuple_iterator", data := .fields #[.ref t, .int 0 0] }).push
      { cls := .type "enumerate", data := .fields #[.none, .bool false, .ref s.heap.objs.size, rawInt 0, .none, .none] }) (s.heap.objs.size + 1) s.heap.objs.size 0 .none := by
    have := Heap.get?_push_size (s.heap.push { cls := .type "tuple_iterator", data := .fields #[.ref t, .int 0 0] })
      (o := { cls := .type "enumerate", data := .fields #[.none, .bool false, .ref s.heap.objs.size, rawInt 0, .none, .none] }) rfl
    rw [hz] at this; exact this
  exact ⟨⟨_, he, rfl⟩, h _ he ⟨_, Heap.get?_push_of_some _ (Heap.get?_push_size _ rfl), rfl, rfl⟩ fun b o x => Heap.get?_push_of_some _ (Heap.get?_push_of_some _ x)⟩
theorem pi_enumT {X : Cx} {e : Expr} {ta : TA} {p pos tpos : Pos} {elts : List Expr} {kk : Nat} (hg : Gl X "enumerate") (hm : X.mg "enumerate" = none) (ha : PA X [e] ta) (hs : starEach [e] X.env = [(false, eval e X.env)] := by rfl) :
    PI X (.Tuple elts kk tpos) (.Call (.Name "enumerate" p) [e] [] pos) (iEnumT X.K ta) := by
  refine ⟨fun pins s σ H R I h => ?_⟩
  refine Call_ (ld_blt I hg hm boot_enumerate (PyProof.Rows.callWith_type1 (thn (ha.run pos pins s σ H _ I h) fun us s1 ⟨vs, H1, I1, r1, q1⟩ => ?_) hs rfl))
  obtain ⟨a, xs, ex, hq, q⟩ := q1
  subst ex
  cases r1 with
  | cons r rr =>
    cases rr
    cases r
    obtain ⟨its, rv, p', hz⟩ := I1.tuple hq
    have p2 : s1.heap.IsTuple a its.toArray := p'
    have hlt : a < s1.heap.objs.size := by obtain ⟨o, ho, _⟩ := id p2; exact Heap.lt_size ho
    refine call_enum_tup p2 fun h' he hit hk => wpAny_pyIter_enum he ?_
    have I2 : Inv X pins σ H1 { s1 with heap := h' } := I1.kept (t' := s1.toks) hk
    refine ⟨s1.heap.objs.size + 1, [s1.heap.objs.size + 1, s1.heap.objs.size], _, _, H1, rfl, I2, turn_enumT a (s1.heap.objs.size + 1) s1.heap.objs.size, ⟨⟨.none, he⟩, hit, Nat.succ_ne_self _, Nat.ne_of_lt hlt, Nat.ne_of_lt (Nat.lt_succ_of_lt hlt)⟩, fun b hb => ?_, q⟩
    have e' : b = s1.heap.objs.size + 1 ∨ b = s1.heap.objs.size := by simpa using hb
    have hle : s1.heap.objs.size ≤ b := by
      rcases e' with z | z
      · rw [z]; exact Nat.le_add_right _ _
      · rw [z]; exact Nat.le_refl _
    exact I1.fpOk hle (I1.hok.fresh hle)
theorem walk_enumT {K : PySem.W.Frag} {a : Addr} {xs : List V} : Walk (IteT K a) xs.length (fun H => SqT K H a xs) (YPair (fun i => some (.int (i : Nat))) (fun i => xs[i]?)) := by
  refine ⟨fun i _ hi q => ⟨xs, xs[i], q, by simp [hi]⟩, fun _ q => ⟨xs, q, rfl⟩, fun i H v H' _ q y => ?_⟩
  obtain ⟨T, x, h1, h2, h3, h4⟩ := y
  exact ⟨T, .int (i : Nat), x, h1, h2, h3, rfl, h4 xs q⟩

/-! ### for a, b in zip(t, xs), t a tuple, xs a list -/
def ItzM (K : PySem.W.Frag) (a b : Addr) : It :=
  ⟨fun i H => ∃ (xs ys : List V) (x y : V), SqT K H a xs ∧ SqL K H b ys ∧ xs[i]? = some x ∧ ys[i]? = some y,
    fun i H v H' => ∃ T x y, v = .ref T ∧ H T = none ∧ H' = upd H T (.tup [x, y]) ∧ (∀ xs, SqT K H a xs → xs[i]? = some x) ∧ ∀ ys, SqL K H b ys → ys[i]? = some y,
    fun i H => ∃ xs ys : List V, SqT K H a xs ∧ SqL K H b ys ∧ i = xs.length ∧ i = ys.length⟩
theorem sep_of {z TI TO i1 i2 a b : Addr} (D : ZipApart z TI TO i1 i2 a b) : ZipSep2 z TI TO i1 i2 [i1, a] [i2, b] :=
  { TIz := D.TIz, TOz := D.TOz, TITO := D.TITO, TIi1 := D.TIi1, mem1 := by simp, zf1 := by simp; exact ⟨fun q => D.i1z q.symm, fun q => D.l1z q.symm⟩,
    Tf1 := by simp; exact ⟨D.TOi1, fun q => D.l1TO q.symm⟩, TIi2 := D.TIi2, mem2 := by simp, zf2 := by simp; exact ⟨fun q => D.i2z q.symm, fun q => D.l2z q.symm⟩,
    Tf2 := by simp; exact ⟨D.TOi2, fun q => D.l2TO q.symm⟩, sep1_2 := by simp; exact ⟨D.i12, fun q => D.l2i1 q.symm⟩, sep2_1 := by simp; exact ⟨fun q => D.i12 q.symm, fun q => D.l1i2 q.symm⟩ }
theorem turn_zipM {P : Program} {w : World} {K : PySem.W.Frag} {elts : List Expr} {kk : Nat} {tpos : Pos} {a b z TI TO i1 i2 : Addr} (D : ZipApart z TI TO i1 i2 a b) :
    Turn P w K (.Tuple elts kk tpos) (ItzM K a b) [z, TI, TO, i1, i2] z (fun i h => IsZip h z TI TO .none ∧ IsPair h TI (.ref i1) (.ref i2) ∧ (∃ x y, IsPair h TO x y) ∧ h.IsTupleIter i1 a i ∧ h.IsListIter i2 b i) where
  mem := by simp
  obj := fun i h st c hc => by
    obtain ⟨hz, hTI, ⟨x, y, hTO⟩, ⟨o1, e1, _, d1⟩, ⟨o2, e2, _, d2⟩⟩ := st
    have e' : c = z ∨ c = TI ∨ c = TO ∨ c = i1 ∨ c = i2 := by simpa using hc
    rcases e' with q | q | q | q | q
    · rw [q]; exact ⟨_, hz, fun v q => nomatch q⟩
    · rw [q]; exact ⟨_, hTI, fun v q => nomatch q⟩
    · rw [q]; exact ⟨_, hTO, fun v q => nomatch q⟩
    · rw [q]; exact ⟨o1, e1, fun v q => by rw [d1] at q; cases q⟩
    · rw [q]; exact ⟨o2, e2, fun v q => by rw [d2] at q; cases q⟩
  keep := fun i h h' st k => by
    obtain ⟨hz, hTI, ⟨x, y, hTO⟩, h1, h2⟩ := st
    exact ⟨k z (by simp) _ hz, k TI (by simp) _ hTI, ⟨x, y, k TO (by simp) _ hTO⟩, h1.at fun o q => k i1 (by simp) o q, h2.at fun o q => k i2 (by simp) o q⟩
  item := by
    intro X hP hw hK hc i pins s σ H E I hf st hg
    subst hP hw hK
    obtain ⟨hz, hTI, ⟨x0, y0, hTO⟩, h1, h2⟩ := st
    obtain ⟨xs, ys, x, y, hqx, hqy, hx, hy⟩ := hg
    obtain ⟨its, rv, p, _⟩ := I.tuple hqx
    obtain ⟨its2, rv2, p2, _⟩ := I.list hqy
    obtain ⟨u, hu, ru⟩ := rv.get hx
    obtain ⟨u2, hu2, ru2⟩ := rv2.get hy
    have hzl : z < s.heap.objs.size := Heap.lt_size hz
    have hu' : its.toArray[i]? = some u := by simpa using hu
    have hu2' : its2.toArray[i]? = some u2 := by simpa using hu2
    have l1 : i < its.toArray.size := (Array.getElem?_eq_some_iff.mp hu').1
    have l2 : i < its2.toArray.size := (Array.getElem?_eq_some_iff.mp hu2').1
    have D1 := Draws.tuple (prog := X.prog) (w := X.w) (A := X.A.in1) (I.ok.hd hc) i1 a D.l1i1 its.toArray
    have D2 := Draws.list (prog := X.prog) (w := X.w) (A := X.A.in1) (I.ok.hd hc) i2 b D.l2i2 its2.toArray
    refine wpAny_pyNext_zipD2_item (sep_of D) D1 D2 hz hTI hTO ⟨h1, (show s.heap.IsTuple a its.toArray from p)⟩ ⟨h2, p2.isList⟩ l1 l2 fun x1 x2 h' tk e1 e2 z' TO' st1 st2 hT hsz hk => ?_
    have ex1 : x1 = u := Option.some.inj (e1.symm.trans hu')
    have ex2 : x2 = u2 := Option.some.inj (e2.symm.trans hu2')
    subst ex1 ex2
    obtain ⟨h1', _⟩ := st1
    obtain ⟨h2', _⟩ := st2
    refine ⟨_, rfl, wpAny_letOwnedTupleGo_zip (s := { s with heap := h', toks := tk }) z' fun h'' z'' sb => ?_⟩
    have hT2 : h''.get? s.heap.objs.size = some { cls := .type "tuple", data := .seq #[x1, x2] } := (sb.2 _ (Nat.ne_of_gt hzl)).trans hT
    have new : ObjOk X.prog X.w (upd H s.heap.objs.size (.tup [x, y])) h'' s.heap.objs.size (.tup [x, y]) :=
      ⟨by show 2 ≤ sizeLine; decide, [x1, x2], .cons ru (.cons ru2 .nil), ⟨_, hT2, rfl, _, rfl⟩⟩
    have I1 : Inv X pins σ (upd H s.heap.objs.size (.tup [x, y])) { s with heap := h'', toks := tk } :=
      I.turnedNew (t' := tk) (ch := [z, TI, TO, i1, i2]) (fun c o hb q => (sb.2 c (fun q' => hb (by simp [q']))).trans (hk c o (fun q' => hb (by simp [q'])) (fun q' => hb (by simp [q'])) (fun q' => hb (by simp [q'])) (fun q' => hb (by simp [q'])) q)) hf (Nat.le_refl _) new
    refine ⟨.ref s.heap.objs.size, _, I1, rfl, ⟨_, x, y, rfl, I.hok.fresh (Nat.le_refl _), rfl, fun l hl => by rw [I.tuple_inj hl hqx]; exact hx, fun l hl => by rw [I.list_inj hl hqy]; exact hy⟩, ⟨z'', ?_, ⟨x1, x2, ?_⟩, ?_, ?_⟩, fun c hcm => ?_⟩
    · exact (sb.2 _ D.TIz).trans (hk _ _ D.TIz D.TITO D.TIi1 D.TIi2 hTI)
    · exact (sb.2 _ D.TOz).trans TO'
    · exact h1'.at fun o q => (sb.2 _ D.i1z).trans q
    · exact h2'.at fun o q => (sb.2 _ D.i2z).trans q
    · have hlt : c < s.heap.objs.size := by
        have e' : c = z ∨ c = TI ∨ c = TO ∨ c = i1 ∨ c = i2 := by simpa using hcm
        rcases e' with q | q | q | q | q
        · rw [q]; exact hzl
        · rw [q]; exact Heap.lt_size hTI
        · rw [q]; exact Heap.lt_size hTO
        · rw [q]; obtain ⟨_, e1, _⟩ := h1; exact Heap.lt_size e1
        · rw [q]; obtain ⟨_, e2, _⟩ := h2; exact Heap.lt_size e2
      rw [upd_ne (Nat.ne_of_lt hlt)]
      exact (hf c hcm).1
  done := by
    intro X hP hw hK hc i pins s σ H E I hf st hg
    subst hP hw hK
    obtain ⟨hz, hTI, ⟨x0, y0, hTO⟩, h1, h2⟩ := st
    obtain ⟨xs, ys, hqx, hqy, hend, hend2⟩ := hg
    obtain ⟨its, rv, p, _⟩ := I.tuple hqx
    obtain ⟨its2, rv2, p2, _⟩ := I.list hqy
    have l1 := rv.length
    have l2 := rv2.length
    have n1 : its.toArray.size = i := by rw [List.size_toArray]; omega
    have n2 : its2.toArray.size = i := by rw [List.size_toArray]; omega
    have D1 := Draws.tuple (prog := X.prog) (w := X.w) (A := X.A.in1) (I.ok.hd hc) i1 a D.l1i1 its.toArray
    have D2 := Draws.list (prog := X.prog) (w := X.w) (A := X.A.in1) (I.ok.hd hc) i2 b D.l2i2 its2.toArray
    exact wpAny_pyNext_zipD2_end (i := i) (sep_of D) D1 D2 hz hTI hTO ⟨h1, (show s.heap.IsTuple a its.toArray from p)⟩ ⟨h2, p2.isList⟩ (by omega) (by omega) (.inl n1.symm) fun h' tk hk => ⟨rfl, I.turnedL (t' := tk) (ch := [z, TI, TO, i1, i2]) (fun c o hb q =>
      hk c o (fun q' => hb (by simp [q'])) (fun q' => hb (by simp [q'])) (fun q' => hb (by simp [q'])) (fun q' => hb (by simp [q'])) q) hf⟩
  self := fun A i s Q E st h => wpAny_pyIter_zip st.1 h
def iZipM (K : PySem.W.Frag) (ta : TA) : TI := fun σ H R => ta σ H fun vs H1 => ∃ a b xs ys, vs = [.ref a, .ref b] ∧ SqT K H1 a xs ∧ SqL K H1 b ys ∧ R (ItzM K a b) H1
theorem pi_zipM {X : Cx} {e e2 : Expr} {ta : TA} {p pos tpos : Pos} {elts : List Expr} {kk : Nat} (hg : Gl X "zip") (hm : X.mg "zip" = none) (ha : PA X [e, e2] ta)
    (hs : starEach [e, e2] X.env = (false, eval e X.env) :: starEach [e2] X.env := by rfl) (hpl : (backTo pos (starEach [e2] X.env)).any (·.1) = false := by rfl) :
    PI X (.Tuple elts kk tpos) (.Call (.Name "zip" p) [e, e2] [] pos) (iZipM X.K ta) := by
  refine ⟨fun pins s σ H R I h => ?_⟩
  refine Call_ (ld_blt I hg hm PyProof.Rows.boot_zip (PyProof.Rows.callWith_type1 (thn (ha.run pos pins s σ H _ I h) fun us s1 ⟨vs, H1, I1, r1, q1⟩ => ?_) hs hpl))
  obtain ⟨a, b, xs, ys, ex, hqx, hqy, q⟩ := q1
  subst ex
  cases r1 with
  | cons r rr =>
    cases rr with
    | cons r' rr =>
      cases rr
      cases r
      cases r'
      have fresh5 : ∀ c, c ∈ [s1.heap.objs.size + 4, s1.heap.objs.size + 2, s1.heap.objs.size + 3, s1.heap.objs.size, s1.heap.objs.size + 1] → FpOk X pins H1 c := fun c hcm => by
        have e' : c = s1.heap.objs.size + 4 ∨ c = s1.heap.objs.size + 2 ∨ c = s1.heap.objs.size + 3 ∨ c = s1.heap.objs.size ∨ c = s1.heap.objs.size + 1 := by simpa using hcm
        have hle : s1.heap.objs.size ≤ c := by
          rcases e' with z | z | z | z | z
          · rw [z]; exact Nat.le_add_right _ _
          · rw [z]; exact Nat.le_add_right _ _
          · rw [z]; exact Nat.le_add_right _ _
          · rw [z]; exact Nat.le_refl _
          · rw [z]; exact Nat.le_add_right _ _
        exact I1.fpOk hle (I1.hok.fresh hle)
      obtain ⟨its, rv, p1, _⟩ := I1.tuple hqx
      obtain ⟨its2, rv2, p2, _⟩ := I1.list hqy
      have t1 : s1.heap.IsTuple a its.toArray := p1
      have la : a < s1.heap.objs.size := by obtain ⟨o1, ho1, _⟩ := id t1; exact Heap.lt_size ho1
      refine zip_begins2 (begins_tuple a its.toArray) (begins_list b its2.toArray) t1 p2.isList fun h' hz hTI hTO h1 h2 hsz hk => wpAny_pyIter_zip hz ?_
      have I2 : Inv X pins σ H1 { s1 with heap := h' } := I1.kept (t' := s1.toks) hk
      exact ⟨s1.heap.objs.size + 4, [s1.heap.objs.size + 4, s1.heap.objs.size + 2, s1.heap.objs.size + 3, s1.heap.objs.size, s1.heap.objs.size + 1], _, _, H1, rfl, I2, turn_zipM (PySem.W.ktu_apart s1.heap.objs.size a b la p2.lt), ⟨hz, hTI, ⟨_, _, hTO⟩, ⟨_, h1, rfl, rfl⟩, ⟨_, h2, rfl, rfl⟩⟩, fresh5, q⟩
theorem walk_zipM {K : PySem.W.Frag} {a b : Addr} {xs ys : List V} (hn : xs.length = ys.length) : Walk (ItzM K a b) xs.length (fun H => SqT K H a xs ∧ SqL K H b ys) (YPair (fun i => xs[i]?) (fun i => ys[i]?)) := by
  refine ⟨fun i _ hi q => ?_, fun _ q => ⟨xs, ys, q.1, q.2, rfl, hn⟩, fun i H v H' _ q y => ?_⟩
  · have h2 : i < ys.length := by omega
    exact ⟨xs, ys, xs[i], ys[i], q.1, q.2, by simp [hi], by simp [h2]⟩
  · obtain ⟨T, x, z, h1, h2, h3, h4, h5⟩ := y
    exact ⟨T, x, z, h1, h2, h3, h4 xs q.1, h5 ys q.2⟩
theorem walk_zipT {K : PySem.W.Frag} {a b : Addr} {xs ys : List V} {n : Nat} (hn : n = min xs.length ys.length) : Walk (RZ.ItzT K a b) n (fun H => SqT K H a xs ∧ SqT K H b ys) (YPair (fun i => xs[i]?) (fun i => ys[i]?)) := by
  subst hn
  refine ⟨fun i _ hi q => ?_, fun _ q => ⟨xs, ys, q.1, q.2, by omega⟩, fun i H v H' _ q y => ?_⟩
  · have h1 : i < xs.length := by omega
    have h2 : i < ys.length := by omega
    exact ⟨xs, ys, xs[i], ys[i], q.1, q.2, by simp [h1], by simp [h2]⟩
  · obtain ⟨T, x, z, h1, h2, h3, h4, h5⟩ := y
    exact ⟨T, x, z, h1, h2, h3, h4 xs q.1, h5 ys q.2⟩

/-! ### repr of lists and tuples -/
section
variable {X : Cx}
theorem call_repr_data (hg : X.A.guards = some []) (hu : X.A.units + 66 < cLine) : CallR X (.builtin "repr") (fun xs H Q => ∃ a d, xs = [.ref a] ∧ Dp X.K H (.ref a) d ∧ d.layable0 = true ∧ d.intsShort 13 = true ∧ d.showable = true ∧ Q (.str d.shown) H) := by
  intro pins s σ H xs us Q I r h
  obtain ⟨a, d, rfl, hd, hl, hi, hs, q⟩ := h
  obtain ⟨u, rfl, ru⟩ := vals1 r
  cases ru
  obtain ⟨as, rd⟩ := Dp.reads I d _ _ hd rfl
  have hdep : d.depth ≤ 64 := by
    have h1 : (PyData.canLay0 d && decide (PyData.depth d ≤ 64) && decide (PyData.weight d ≤ 2 ^ 20)) = true := hl
    simp only [Bool.and_eq_true, decide_eq_true_eq] at h1
    exact h1.1.2
  have hsz : d.shown.length ≤ sizeLine := by
    have := shown_le13 hl hi
    rw [sizeLine_eq]
    omega
  refine repr_of_reads' rd hs (PyData.noDict_hsm (PyData.hasDict_of_layable hl)) hg (by omega) (fun _ _ e => e) (fun h' u tk hk => ?_) hsz
  exact ⟨.str d.shown, H, I.kept (t' := tk) hk, ⟨_, rfl⟩, q⟩
end

/-! ### t * 1 is t -/
theorem tuple_mul1 (l : Addr) (items : Array Value) (n : Nat) (dd : Option Addr) (sl : Array (Option Value)) (u : Tok) (c2 : items.isEmpty = false) :
    Meets (Builtin.«tuple.__mul__» ⟨[.ref l, .int 1 u], []⟩) (fun _ R s => s.heap.get? l = some { cls := .type "tuple", dict := dd, data := .seq items n, slots := sl } ∧ R (.ok (.ret (.ref l))) s) :=
  .of_wp fun prog w A R s h => by
    obtain ⟨hp, g, d, tk, os⟩ := s
    obtain ⟨hl, h⟩ := h
    have f1 := AutoSeq1.idx_int
    wp_walk using AutoSeq1.wpAny_loadPart' hl
    exact ⟨_, rfl, h⟩
def rRep1 (K : PySem.W.Frag) : R2 := fun x y H Q => ∃ l xs, x = .ref l ∧ y = .int 1 ∧ SqT K H l xs ∧ xs ≠ [] ∧ Q (.ref l) H
section
variable {X : Cx}
theorem op_rep1 : OpR X (binaryOp .Mult) (rRep1 X.K) := by
  intro pins s σ H x y v u Q I rx ry h
  obtain ⟨l, xs, rfl, rfl, hT, hne, q⟩ := h
  cases rx
  obtain ⟨t, rfl⟩ := ry
  obtain ⟨its, r, ⟨⟨cls, dd, data, sl⟩, ho, hc, n, hd⟩, hs⟩ := I.tuple hT
  simp only at hc hd
  subst hc hd
  have hi : its.toArray.isEmpty = false := by
    cases its with
    | nil => cases r; exact absurd rfl hne
    | cons a b => rfl
  exact wpAny_binaryOp_repeat_ref (T := "tuple") (U := "int") (by decide) ⟨_, ho, rfl⟩ (fun s' => typeIs_int s' 1 t) noFill_tuple_mul F.fills_int_mul F.slot_int_rmul repeat_tuple F.slot_int_index.lookup
    (call_meets F.slot_int_rmul (typeIs_int s 1 t) F.entry_int_rmul (F.args_int_rmul_2 _ _) (int_rmul_tuple 1 t l its.toArray n dd sl)
      ⟨ho, rfl, ⟨_, ho, rfl⟩, call_meets F.slot_tuple_mul ⟨_, ho, rfl⟩ F.entry_tuple_mul (F.args_tuple_mul_2 _ _) (tuple_mul1 l its.toArray n dd sl t hi) ⟨ho, ⟨.ref l, H, I, rfl, q⟩⟩⟩)
end

/-! ### defs that want to know that no repr is under way -/
structure FnG (P : Program) (w : World) (K : PySem.W.Frag) (mg : Str → Option Value) (base : Heap) (k : Nat) (f : Addr) (fd : FuncData) (ps : List Str) (sp : Sp) : Prop where
  len : ∀ vs H Q, sp vs H Q E0 → vs.length = ps.length
  run : ∀ (A : Around) (outer : List Env) (s : Shared) (H : Hp) (args : Args) (us : List Value) (vs : List V) (Q : VK), A.guards = some [] → Room k A → Env0 P w K mg base A outer s H → BindsTo s fd args (ps.zip us) → Vals vs us → sp vs H Q E0 →
    codeAny (model P w) A (.call (.ref f) args) (CR CX0 outer P w H s Q E0) s
section
variable {X : Cx} {k : Nat} {f : Addr} {fd : FuncData} {ps : List Str} {sp : Sp} {x : Str} {p pos : Pos} {e : Expr} {es : List Expr} {t : TA}
/-- f(e, ..) of such a def -/
theorem pe_callG (F : FnG X.prog X.w X.K X.mg X.base k f fd ps sp) (hgd : X.A.guards = some []) (hr : Room k X.A) (hg : Gl X x) (hm : X.mg x = some (.ref f)) (hk : PySem.W.keepIn X.K (.ref f) = true) (hb : Binds X.K fd ps [])
    (ha : PA X (e :: es) t) (hd : (x == ("__debug__" : Str)) = false := by decide) (he : starEach (e :: es) X.env = (false, eval e X.env) :: starEach es X.env := by rfl) (hpl : (backTo pos (starEach es X.env)).any (·.1) = false := by rfl) :
    PE X (.Call (.Name x p) (e :: es) [] pos) (tCall sp [] E0 t) := by
  refine ⟨fun pins s σ H Q I h => ?_⟩
  refine wpAny_Call_Name_kw (ld_glob I hg hm ?_ hd)
  refine PySem.W.callWith_K (h₀ := X.base) I.ok.mod.kin hk (thn (ha.run pos pins s σ H _ I h) fun us s1 ⟨vs, H1, I1, r, q⟩ => ⟨I1.kIn, ?_⟩) he hpl
  have hl : us.length = ps.length := by rw [← r.length]; exact F.len _ _ _ (by simpa using q)
  have q' : sp vs H1 Q E0 := by simpa using q
  have bt : BindsTo s1 fd ⟨us, []⟩ (ps.zip us) := by simpa using hb s1 us I1.kIn (by simpa using hl)
  refine wpAny_call (codeAny_mono (F.run X.A X.stack s1 H1 ⟨us, []⟩ us vs Q hgd hr I1.env0 bt r q') fun res s' hq => ?_)
  cases res with
  | error e => exact hq.elim
  | ok fl =>
    cases fl with
    | ret u => exact I1.after hq
    | next => exact False.elim hq
    | brk => exact False.elim hq
    | cont => exact False.elim hq
end
/-- such a def, by its body -/
theorem fnG_of {P : Program} {w : World} {K : PySem.W.Frag} {mg : Str → Option Value} {base : Heap} {x qual : Str} {st : Stmt} {f : Addr} {fd : FuncData} {N ps : List Str} {k : Nat} {sp : Sp} (F : Fun K x qual st f fd) (S : FnScope N ps (defScope st)) (len : ∀ vs H Q, sp vs H Q E0 → vs.length = ps.length)
    (body : ∀ (cdv : Value) (A : Around) (outer : List Env) (s : Shared) (H : Hp) (vs : List V) (Q : VK), (A.deeper (envOfC qual (defScope st) s.heap.objs.size f cdv)).guards = some [] → Room k (A.deeper (envOfC qual (defScope st) s.heap.objs.size f cdv)) → sp vs H Q E0 →
      ∃ t, PSs (cxOf CX0 P w K mg base N qual (defScope st) f cdv A outer s H E0).nox (defBody st) t ∧ t { nx := fun _ H' => Q .non H', rt := Q } (start N vs) H) : FnG P w K mg base (k + 1) f fd ps sp := by
  obtain ⟨oc, od, kV, doc, pm, an, cdv, ct, osl, rfl, lk, hcd⟩ := F.ex
  refine ⟨len, fun A outer s H args us vs Q hgd hr e0 hb r hsp => ?_⟩
  -- the library's rule at a promise that tells this one call: what is asked is asked of this A alone
  have KX : K.In s.heap := e0.mod.kin.keeps fun b o e => (e0.bs b o e).1
  have lim : s.heap.NoLimit := e0.mod.nolimit.keeps fun b o e => (e0.bs b o e).1
  have kinds : ∀ y ∈ ps.zip us, (defScope st).names.lookup y.1 = some .local ∨ ((defScope st).names.lookup y.1 = some .cell ∧ ((cellsFrom (s.heap.objs.size + 1) (defScope st).names []).lookup y.1).isSome = true) := by
    rintro ⟨n, v⟩ hy
    rcases S.par n (List.of_mem_zip hy).1 with q | q
    · exact .inl q
    · exact .inr ⟨q, PySem.W.cellsFrom_some _ _ _ (.inl q)⟩
  refine codeAny_call_function hr.depth (KX _ _ lk) rfl S.co S.gen rfl (PySem.W.codeRec_of KX hcd) (hb _ _ _ _ ?_)
  refine wpAny_newFunctionEnv_cells S.kind kinds fun env he s1 z => ?_
  subst he
  refine ⟨lim.keeps z.toInCall.keep, codeAny_func ?_⟩
  obtain ⟨t, ht, hq⟩ := body cdv A outer s H vs Q hgd (hr.deeper _) hsp
  have I := inv_start (CX := CX0) (P := P) (w := w) (K := K) (mg := mg) (base := base) (E := E0) S hr.hd e0 (len _ _ _ hsp) r z
  refine wpAny_mono (ht.nox.run [] s1 (start N vs) H _ I hq) (fun fl s' hs => ?_) fun e s' hs => hs
  cases fl with
  | ret u =>
    obtain ⟨v, σ', H', J, rv, q⟩ := hs
    exact ⟨v, H', J.os, J.bare, J.base, J.hok, rv, q⟩
  | next =>
    obtain ⟨σ', H', J, q⟩ := hs
    exact ⟨V.non, H', J.os, J.bare, J.base, J.hok, rfl, q⟩
  | brk =>
    obtain ⟨_, _, _, q⟩ := hs
    exact False.elim q
  | cont =>
    obtain ⟨_, _, _, q⟩ := hs
    exact False.elim q

/-! ### tuples that are known to the object: their methods may be called -/
section
variable {X : Cx}
def tTupF (t : TA) : TE := fun σ H Q => t σ H fun xs H1 => xs.length ≤ sizeLine ∧ ∀ (p : Addr) (o : Obj), H1 p = none → o.dict = none → Q (.ref p) (upd H1 p (.frz o (.tup xs)))
theorem pe_tupF {es : List Expr} {t : TA} {pos : Pos} {x1} (h : PA X es t) : PE X (.Tuple es x1 pos) (tTupF t) := by
  refine ⟨fun pins s σ H Q I hq => wpAny_Tuple_spliced (thn (h.run pos pins s σ H _ I hq) ?_)⟩
  rintro us s1 ⟨xs, H1, I1, r, z, q⟩
  have hf : H1 s1.heap.objs.size = none := I1.hok.fresh (Nat.le_refl _)
  have hg : (s1.heap.push { cls := .type "tuple", data := .seq us.toArray }).get? s1.heap.objs.size = some { cls := .type "tuple", data := .seq us.toArray } := Heap.get?_push_size _ rfl
  refine ⟨by rw [← r.length]; exact z, .ref s1.heap.objs.size, upd H1 s1.heap.objs.size (.frz { cls := .type "tuple", data := .seq us.toArray } (.tup xs)), I1.laid (t' := s1.toks) (fun b u e => Heap.get?_push_of_some _ e) (Nat.le_refl _) ⟨hg, z, us, r, _, hg, rfl, _, rfl⟩, rfl, q _ _ hf rfl⟩
def rSlF : V → Option Int → Option Int → Hp → VK → Prop := fun x lo hi H Q => ∃ a o xs, x = .ref a ∧ H a = some (.frz o (.tup xs)) ∧
  (HT.sIx xs.length 0 lo = 0 ∧ HT.sIx xs.length xs.length hi = xs.length → Q (.ref a) H) ∧
  (¬ (HT.sIx xs.length 0 lo = 0 ∧ HT.sIx xs.length xs.length hi = xs.length) → ∀ (p : Addr) (o' : Obj), H p = none → o'.dict = none → Q (.ref p) (upd H p (.frz o' (.tup (cutV xs lo hi)))))
theorem sl_tupF : SlR X rSlF := by
  intro pins s σ H x v vl vu lo hi sl Q I rx hs pl pu h
  obtain ⟨a, ob, xs, rfl, hx, q1, q2⟩ := h
  have hT : SqT X.K H a xs := .inl (.inr ⟨ob, hx⟩)
  by_cases hw : HT.sIx xs.length 0 lo = 0 ∧ HT.sIx xs.length xs.length hi = xs.length
  · exact sl_tupA pins s σ H _ v vl vu lo hi sl Q I rx hs pl pu ⟨a, xs, rfl, hT, q1, fun n => absurd hw n⟩
  · cases rx
    obtain ⟨its, r, ht, hz⟩ := I.tuple hT
    have hlen : its.toArray.size = xs.length := by rw [List.size_toArray]; exact r.length.symm
    refine ⟨"tuple", _, PyProof.Rows.slot_tuple_getitem.lookup, ht.typeIs, HT.getItem_tuple_cut ht hs pl pu (by rw [hlen]; exact hw) ?_ (by rw [hlen]; exact hz)⟩
    rw [hlen]
    have rc := (r.drop (HT.sIx xs.length 0 lo)).take (HT.sIx xs.length xs.length hi - HT.sIx xs.length 0 lo)
    have hfr := I.hok.fresh (Nat.le_refl s.heap.objs.size)
    refine ⟨.ref s.heap.objs.size, _, I.laid (o := .frz { cls := .type "tuple", data := .seq (List.take (HT.sIx xs.length xs.length hi - HT.sIx xs.length 0 lo) (List.drop (HT.sIx xs.length 0 lo) its.toArray.toList)).toArray } (.tup (cutV xs lo hi))) (t' := s.toks) (fun b ob q => Heap.get?_push_of_some _ q) (Nat.le_refl _) ?_, rfl, q2 hw _ _ hfr rfl⟩
    exact ⟨Heap.get?_push_size _ rfl, Nat.le_trans (cutV_length xs lo hi) hz, _, rc, IsTup.new _ _⟩
def tBMF (r : V → List V → Hp → VK → Prop) (to : TE) (t : TA) : TE := fun σ H Q => to σ H fun x H1 => (∃ a o xs, x = .ref a ∧ H1 a = some (.frz o (.tup xs)) ∧ o.dict = none) ∧ t σ H1 fun xs H2 => r x xs H2 Q
/-- t.m(e) of such a tuple -/
theorem pe_bmF {o e : Expr} {es : List Expr} {to : TE} {t : TA} {name : Str} {apos cpos : Pos} {id : String} {r : V → List V → Hp → VK → Prop} (pa : PlainAttrs "tuple") (slot : Slot "tuple" name id) (hty : typeOf (.builtin id) = pure (.type "method_descriptor")) (hm : MtR X id r) (ho : PE X o to) (ha : PA X (e :: es) t)
    (hbase : attributeBase o name X.env (eval o X.env) = eval o X.env := by rfl)
    (hfew : ((backTo cpos (starEach (e :: es) X.env)).all (fun x => !x.1) && (backToKw cpos (keywordEach [] X.env)).all (fun x => x.1.isSome)
      && decide ((e :: es).length + ([] : List Keyword).length + (if ([] : List Keyword).isEmpty then 0 else 1) < 30)) = true := by rfl)
    (hline : (apos.endLine == cpos.line) = true := by rfl) (hs : starEach (e :: es) X.env = (false, eval e X.env) :: starEach es X.env := by rfl) (hplain : (backTo cpos (starEach es X.env)).any (·.1) = false := by rfl) :
    PE X (.Call (.Attribute o name apos) (e :: es) [] cpos) (tBMF r to t) := by
  refine ⟨fun pins s σ H Q I h => wpAny_Call_method_late hbase hfew hline rfl (thn (ho.run pins s σ H _ I h) ?_)⟩
  rintro v s1 ⟨x, H1, I1, r1, ⟨a, ob, xs, rfl, ht, hd⟩, q1⟩
  cases r1
  obtain ⟨e1, _, its, rv, o2, e2, c2, n, d2⟩ := (show ObjOk X.prog X.w H1 s1.heap a (.frz ob (.tup xs)) from I1.hok a _ ht)
  refine ⟨"tuple", id, pa, slot, hty, ⟨o2, e2, c2⟩, fun b e => by cases e; exact ⟨ob, e1, hd⟩, ?_⟩
  have hA := ha.run cpos pins s1 σ H1 _ I1 q1
  rw [hs] at hA ⊢
  refine Calls.callWith_builtin (by show (false || (backTo cpos (starEach es X.env)).any (·.1)) = false; rw [hplain] <;> rfl) (Calls.evalArgs_plain (thn hA ?_))
  rintro us s2 ⟨vs, H2, I2, r2, q2⟩
  exact hm pins s2 σ H2 (.ref a) vs (.ref a) us Q I2 rfl r2 q2
end
end K3

namespace K3
open PySem PySem.Spec PyProof.Rows L2

def topS (i : Nat) : Stmt := PySem.Challenge.pw_stairpay_k03_whole_rows.main.body.getD i (.Pass ⟨0, 0, 0, 0⟩)

def letters : Str := "abcdefghijklmnopqrstuvwxyz"
def digits : Str := "0123456789"
/-- what the module's names hold -/
structure Nm (mg : Str → Option Value) : Prop where
  isinstance_ : mg "isinstance" = none
  int_ : mg "int" = none
  bool_ : mg "bool" = none
  str_ : mg "str" = none
  tuple_ : mg "tuple" = none
  list_ : mg "list" = none
  len_ : mg "len" = none
  all_ : mg "all" = none
  zip_ : mg "zip" = none
  enumerate_ : mg "enumerate" = none
  divmod_ : mg "divmod" = none
  sum_ : mg "sum" = none
  range_ : mg "range" = none
  min_ : mg "min" = none
  repr_ : mg "repr" = none
  cNames : ∃ t, mg "MOST_NAMES" = some (.int 6 t)
  cSigns : ∃ t, mg "MOST_SIGNS" = some (.int 6 t)
  cCoins : ∃ t, mg "MOST_COINS" = some (.int 1000000000000 t)
  cFigs : ∃ t, mg "MOST_FIGURES" = some (.int 400 t)
  cRuns : ∃ t, mg "MOST_RUNS" = some (.int 60 t)
  cNumber : ∃ t, mg "MOST_NUMBER" = some (.int 1000000000000000000000000000000 t)
  cRow : ∃ t, mg "MOST_ROW" = some (.int 1000 t)
  letters_ : ∃ t, mg "LETTERS" = some (.str letters t)
  digits_ : ∃ t, mg "DIGITS" = some (.str digits t)

theorem b_isinstance : bootBuiltins "isinstance" = some (.builtin "isinstance") := by decide +kernel
theorem b_int : bootBuiltins "int" = some (.type "int") := by decide +kernel
theorem b_bool : bootBuiltins "bool" = some (.type "bool") := by decide +kernel
theorem b_str : bootBuiltins "str" = some (.type "str") := by decide +kernel
theorem b_tuple : bootBuiltins "tuple" = some (.type "tuple") := by decide +kernel
theorem b_list : bootBuiltins "list" = some (.type "list") := by decide +kernel
theorem b_len : bootBuiltins "len" = some (.builtin "len") := by decide +kernel
theorem b_all : bootBuiltins "all" = some (.builtin "all") := by decide +kernel
theorem b_divmod : bootBuiltins "divmod" = some (.builtin "divmod") := by decide +kernel
theorem b_sum : bootBuiltins "sum" = some (.builtin "sum") := by decide +kernel
theorem b_min : bootBuiltins "min" = some (.builtin "min") := by decide +kernel
theorem b_repr : bootBuiltins "repr" = some (.builtin "repr") := by decide +kernel

/-- isinstance(x, T) -/
def tIsi (T : String) (K : PySem.W.Frag) (te : TE) : TE := tCB (rIsi K) (tCons te (tCons (tC (.ty T)) tNil))
section
variable {X : Cx}
theorem pe_isi {T : Str} {Tn : String} {e : Expr} {te : TE} {p p2 pos : Pos} (hi : X.mg "isinstance" = none) (hT : X.mg T = none) (he : PE X e te) (hg : Gl X "isinstance") (hg2 : Gl X T) (hb : bootBuiltins T = some (.type Tn)) (hn : T ≠ "__name__" := by decide) (hd : (T == ("__debug__" : Str)) = false := by decide)
    (s1 : starEach [e, .Name T p2] X.env = (false, eval e X.env) :: starEach [.Name T p2] X.env := by rfl) (s2 : starEach [.Name T p2] X.env = (false, eval (.Name T p2) X.env) :: starEach [] X.env := by rfl) (s3 : (backTo pos (starEach [.Name T p2] X.env)).any (·.1) = false := by rfl) :
    PE X (.Call (.Name "isinstance" p) [e, .Name T p2] [] pos) (tIsi Tn X.K te) :=
  pe_callB call_isi hg hi b_isinstance (pa_cons he (pa_cons (pe_bltn hg2 hT hb rfl hn hd) pa_nil s2) s1) (by decide) (by decide) s1 s3
end

theorem rvI {i : Int} {t : Tok} : RelV (.int i) (.int i t) := ⟨t, rfl⟩
theorem rvS {z : Str} {t : Tok} : RelV (.str z) (.str z t) := ⟨t, rfl⟩
theorem blT {p : Prop} [Decidable p] (h : p) : V.bl (decide p) = .bl true := by rw [decide_eq_true h]
theorem blF {p : Prop} [Decidable p] (h : ¬ p) : V.bl (decide p) = .bl false := by rw [decide_eq_false h]
theorem same_new {H : Hp} {p : Addr} {o : HO} (h : H p = none) : Same H (upd H p o) := fun b x e => by
  rw [upd_ne (ne_of_none e h)]
  exact e
theorem upd_free {H : Hp} {a b : Addr} {o : HO} (e : upd H a o b = none) : H b = none := by
  by_cases hb : b = a
  · subst hb
    rw [upd_same] at e
    cases e
  · rwa [upd_ne hb] at e

/-- a comprehension's turn without a test -/
theorem lcYes {te : TE} {σ : L2.St} {H : Hp} {R : V → Hp → Prop} {S : Hp → Prop} (h : te σ H R) : tYes σ H fun b H3 => if b = true then te σ H3 R else S H3 := by
  show if true = true then te σ H R else S H
  rw [if_pos rfl]
  exact h
theorem replicate_snoc {α : Type} (n : Nat) (a : α) : List.replicate n a ++ [a] = List.replicate (n + 1) a := by
  rw [List.replicate_succ']

/-! ### is_whole -/
abbrev sIsWhole : Stmt := topS 14
theorem scIsWhole : FnScope ["thing", "least", "most"] ["thing", "least", "most"] (defScope sIsWhole) := ⟨rfl, rfl, rfl, by decide +kernel, rfl, by decide +kernel, by decide +kernel⟩
def spIsWhole : Sp := fun vs H Q _ => ∃ i lo hi : Int, vs = [.int i, .int lo, .int hi] ∧ lo ≤ i ∧ i ≤ hi ∧ Q (.bl true) H
section
variable {P : Program} {w : World} {K : PySem.W.Frag} {mg : Str → Option Value} {base : Heap}
theorem ok_isWhole {f : Addr} {fd : FuncData} (F : Fun K "is_whole" "is_whole" sIsWhole f fd) (T : Nm mg) : FnOk P w K mg base CX0 1 f fd ["thing", "least", "most"] spIsWhole := by
  refine F.ok scIsWhole (fun vs H Q E h => ?_) (fun cdv A outer s H vs Q E hr h => ?_)
  · obtain ⟨_, _, _, rfl, _⟩ := h
    rfl
  · obtain ⟨i, lo, hi, rfl, h1, h2, q⟩ := h
    refine ⟨_, pss_one (ps_ret (pe_and (pe_isi T.isinstance_ T.int_ (pv 0) (by rfl) (by rfl) b_int) (pe_and (pe_not (pe_isi T.isinstance_ T.bool_ (pv 0) (by rfl) (by rfl) b_bool)) (pe_one (pe_chain op_le op_le (pv 1) (pv 0) (pv 2)))))), ?_⟩
    refine ⟨_, rfl, _, _, _, _, true, rfl, .ty _, .base (.int i), kit_ty (by decide +kernel), true, rfl, iteT ?_⟩
    refine ⟨_, rfl, _, _, _, _, false, rfl, .ty _, .base (.int i), kit_ty (by decide +kernel), false, rfl, true, rfl, iteT ?_⟩
    refine ⟨_, rfl, _, rfl, lo, i, rfl, rfl, true, blT h1, iteT ?_⟩
    refine ⟨_, rfl, i, hi, rfl, rfl, ?_⟩
    show Q (.bl (decide (i ≤ hi))) H
    rw [blT h2]
    exact q

/-! ### is_word -/
abbrev sIsWord : Stmt := topS 15
theorem scIsWord : FnScope ["thing", "sign"] ["thing"] (defScope sIsWord) := ⟨rfl, rfl, rfl, by decide +kernel, rfl, by decide +kernel, by decide +kernel⟩
def WordOk (z : Str) : Prop := 1 ≤ z.length ∧ z.length ≤ 6 ∧ ∀ c ∈ z.cps.toList, c ∈ letters.cps.toList
def spIsWord : Sp := fun vs H Q _ => ∃ z : Str, vs = [.str z] ∧ WordOk z ∧ ∀ H', Same H H' → Q (.bl true) H'
theorem ok_isWord {f : Addr} {fd : FuncData} (F : Fun K "is_word" "is_word" sIsWord f fd) (T : Nm mg) : FnOk P w K mg base CX0 1 f fd ["thing"] spIsWord := by
  obtain ⟨tS, hS⟩ := T.cSigns
  obtain ⟨tL, hL⟩ := T.letters_
  refine F.ok scIsWord (fun vs H Q E h => ?_) (fun cdv A outer s H vs Q E hr h => ?_)
  · obtain ⟨_, rfl, _⟩ := h
    rfl
  · obtain ⟨z, rfl, ⟨h1, h6, hc⟩, q⟩ := h
    have hz : z.length ≤ sizeLine := by rw [sizeLine_eq]; omega
    refine ⟨_, pss_one (ps_ret (pe_and (pe_isi T.isinstance_ T.str_ (pv 0) (by rfl) (by rfl) b_str) (pe_and
      (pe_chain op_le op_le pe_int (pe_callB call_len_str (by rfl) T.len_ b_len (pa_cons (pv 0) pa_nil)) (pe_glob (by rfl) hS rvI))
      (pe_one (pe_callB (cr_all rfl) (by rfl) T.all_ b_all (pa_cons
        (pe_lc (own := [("sign", 1)]) (g := gName 1) (tt := tYes) rfl scIsWord.nd (pi_str (pv 0)) (blkOk_by (N := ["thing", "sign"]) (sc := defScope sIsWord) (by decide +kernel)) (fun _ _ _ _ _ => pg_name (i := 1) scIsWord.nd rfl (Or.inl rfl)) (fun _ _ _ _ _ => pts_nil)
          (fun _ _ _ _ _ => pe_cmpR op_in_sign (pv 1) (pe_glob (by rfl) hL rvS) (by rfl))) pa_nil)))))), ?_⟩
    refine ⟨_, rfl, _, _, _, _, true, rfl, .ty _, .base (.str z), kit_ty (by decide +kernel), true, rfl, iteT ?_⟩
    refine ⟨_, rfl, _, rfl, hz, _, _, rfl, rfl, true, blT (by omega), iteT ⟨_, _, rfl, rfl, ?_⟩⟩
    refine ⟨true, blT (by omega), iteT ?_⟩
    refine ⟨_, rfl, _, rfl, fun D hD => ?_⟩
    refine lc_it walk_str (fun i H' => H' = upd H D (.lst (List.replicate i (.bl true)))) rfl (fun _ _ _ _ => True.intro) (fun i x H1 H2 hi hp hy => ?_) (fun H1 hp => ?_)
    · obtain ⟨rfl, c, hci, rfl⟩ := hy
      subst hp
      refine ⟨rfl, lcYes ⟨_, rfl, c, letters, rfl, rfl, _, upd_same, ?_, ?_⟩⟩
      · rw [List.length_replicate, sizeLine_eq]
        have : z.cps.size = z.length := rfl
        omega
      · have hm : c ∈ letters.cps.toList := hc c (Array.mem_toList_iff.mpr (Array.mem_of_getElem? hci))
        rw [blT hm, upd_upd, replicate_snoc]
    · subst hp
      refine ⟨D, List.replicate z.cps.size true, rfl, ?_, ?_⟩
      · rw [List.map_replicate]
        exact .of upd_same
      · show Q (.bl ((List.replicate z.cps.size true).all id)) _
        have e : (List.replicate z.cps.size true).all id = true := by simp
        rw [e]
        exact q _ (same_new hD)
end

/-! ### deals in the heap -/
theorem sqT_same {K : PySem.W.Frag} {H H' : Hp} {a : Addr} {xs : List V} (e : Same H H') (h : SqT K H a xs) : SqT K H' a xs := by
  rcases h with (h | ⟨o, h⟩) | h
  · exact .inl (.inl (e _ _ h))
  · exact .inl (.inr ⟨o, e _ _ h⟩)
  · exact .inr h
theorem tyTup {K : PySem.W.Frag} {H : Hp} {a : Addr} {xs : List V} (h : SqT K H a xs) : TyX K H (.ref a) (.type "tuple") := by
  rcases h with (h | ⟨o, h⟩) | ⟨o, its, n, hk, hc, _⟩
  · exact .base (.tup h)
  · exact .fTuple h
  · exact .kTuple hk hc
theorem same_at {H H3 : Hp} {D : Addr} {o : HO} (hD : H D = none) (s : Same H H3) : Same H (upd H3 D o) := fun b x e => by
  rw [upd_ne (ne_of_none e hD)]
  exact s b x e
def figS (f : List Nat) : Str := ⟨(f.map (· + 48)).toArray⟩
theorem figS_len (f : List Nat) : (figS f).length = f.length := by
  show (f.map (· + 48)).toArray.size = f.length
  simp
def coinV : Option Nat → V
  | none => .non
  | some c => .int c
/-- names in the heap, known to the object -/
def NamesAt (H : Hp) (a : Addr) (ns : List Str) : Prop := ∃ o, H a = some (.frz o (.tup (ns.map .str))) ∧ o.dict = none
def RunAt (K : PySem.W.Frag) (H : Hp) (x : Addr) (r : Run) : Prop := SqT K H x [coinV r.1, .str (figS r.2)]
def RunsAt (K : PySem.W.Frag) (H : Hp) (a : Addr) (rs : List Run) : Prop := ∃ xs : List Addr, SqT K H a (xs.map V.ref) ∧ xs.length = rs.length ∧ ∀ (i : Nat) (r : Run), rs[i]? = some r → ∃ x, xs[i]? = some x ∧ RunAt K H x r
def DealAt (K : PySem.W.Frag) (H : Hp) (a : Addr) (ns : List Str) (rs : List Run) : Prop := ∃ n r, SqT K H a [.ref n, .ref r] ∧ NamesAt H n ns ∧ RunsAt K H r rs
theorem NamesAt.same {H H' : Hp} {a : Addr} {ns : List Str} (e : Same H H') (h : NamesAt H a ns) : NamesAt H' a ns := let ⟨o, h1, h2⟩ := h; ⟨o, e _ _ h1, h2⟩
theorem NamesAt.sq {K : PySem.W.Frag} {H : Hp} {a : Addr} {ns : List Str} (h : NamesAt H a ns) : SqT K H a (ns.map .str) := let ⟨o, h1, _⟩ := h; .inl (.inr ⟨o, h1⟩)
theorem RunAt.same {K : PySem.W.Frag} {H H' : Hp} {a : Addr} {r : Run} (e : Same H H') (h : RunAt K H a r) : RunAt K H' a r := sqT_same e h
theorem RunsAt.same {K : PySem.W.Frag} {H H' : Hp} {a : Addr} {rs : List Run} (e : Same H H') (h : RunsAt K H a rs) : RunsAt K H' a rs :=
  let ⟨xs, h1, h2, h3⟩ := h
  ⟨xs, sqT_same e h1, h2, fun i r hi => let ⟨x, e1, e2⟩ := h3 i r hi; ⟨x, e1, e2.same e⟩⟩
theorem DealAt.same {K : PySem.W.Frag} {H H' : Hp} {a : Addr} {ns : List Str} {rs : List Run} (e : Same H H') (h : DealAt K H a ns rs) : DealAt K H' a ns rs :=
  let ⟨n, r, h1, h2, h3⟩ := h
  ⟨n, r, sqT_same e h1, h2.same e, h3.same e⟩
structure NamesOk (ns : List Str) : Prop where
  one : 1 ≤ ns.length
  six : ns.length ≤ 6
  word : ∀ z ∈ ns, WordOk z
  asc : ∀ (i : Nat) (x y : Str), ns[i]? = some x → ns[i + 1]? = some y → x.cps.toList < y.cps.toList
  nd : ns.Nodup
structure FigsOk (n : Nat) (f : List Nat) : Prop where
  ne : f ≠ []
  len : f.length ≤ 400
  lt : ∀ d ∈ f, d < n
structure RunsOk (n : Nat) (rs : List Run) : Prop where
  ends : Ends rs
  len : rs.length ≤ 60
  figs : ∀ r ∈ rs, FigsOk n r.2
  coin : ∀ r ∈ rs, ∀ c, r.1 = some c → 1 ≤ c ∧ c ≤ 1000000000000
theorem RunsOk.pos {n : Nat} {rs : List Run} (h : RunsOk n rs) : 1 ≤ rs.length := by
  cases rs with
  | nil => exact h.ends.elim
  | cons a l => exact Nat.succ_le_succ (Nat.zero_le _)
theorem Ends.last : ∀ {rs : List Run}, Ends rs → ∀ (i : Nat) (r : Run), rs[i]? = some r → (r.1 = none ↔ i + 1 = rs.length)
  | [], h, _, _, _ => h.elim
  | (none, f) :: r, h, i, x, hi => by
    have h' : r = [] := h
    subst h'
    cases i with
    | zero => simp at hi; subst hi; simp
    | succ i => simp at hi
  | (some c, f) :: r, h, i, x, hi => by
    have hl : 1 ≤ r.length := by
      cases r with
      | nil => exact (show False from h).elim
      | cons a l => exact Nat.succ_le_succ (Nat.zero_le _)
    cases i with
    | zero =>
      simp at hi
      subst hi
      constructor
      · intro e
        cases e
      · intro e
        have e' : 0 + 1 = r.length + 1 := e
        omega
    | succ i =>
      have hi' : r[i]? = some x := by simpa using hi
      have ih := Ends.last (rs := r) h i x hi'
      rw [ih]
      show i + 1 = r.length ↔ i + 1 + 1 = r.length + 1
      omega

section
variable {P : Program} {w : World} {K : PySem.W.Frag} {mg : Str → Option Value} {base : Heap}
/-! ### are_names -/
abbrev sAreNames : Stmt := topS 16
theorem scAreNames : FnScope ["thing", "one", "other"] ["thing"] (defScope sAreNames) := ⟨rfl, rfl, rfl, by decide +kernel, rfl, by decide +kernel, by decide +kernel⟩
theorem cut1 (xs : List V) (h : 1 ≤ xs.length) : cutV xs (some 1) none = xs.drop 1 := by
  unfold cutV
  rw [show HT.sIx xs.length 0 (some 1) = min 1 xs.length from HT.sIx_nat xs.length 0 1, HT.sIx_none, Nat.min_eq_left h]
  exact List.take_of_length_le (by rw [List.length_drop] <;> omega)
def spAreNames (K : PySem.W.Frag) : Sp := fun vs H Q _ => ∃ (a : Addr) (ns : List Str), vs = [.ref a] ∧ SqT K H a (ns.map .str) ∧ NamesOk ns ∧ ∀ H', Same H H' → Q (.bl true) H'
theorem ok_areNames {f fW : Addr} {fd fdW : FuncData} (F : Fun K "are_names" "are_names" sAreNames f fd) (T : Nm mg) (FW : Fun K "is_word" "is_word" sIsWord fW fdW) (gW : mg "is_word" = some (.ref fW)) (bW : Binds K fdW ["thing"] []) :
    FnOk P w K mg base CX0 2 f fd ["thing"] (spAreNames K) := by
  obtain ⟨tS, hS⟩ := T.cNames
  have GW : FnOk P w K mg base CX0 1 fW fdW ["thing"] spIsWord := ok_isWord FW T
  refine F.ok scAreNames (fun vs H Q E h => ?_) (fun cdv A outer s H vs Q E hr h => ?_)
  · obtain ⟨_, _, rfl, _⟩ := h
    rfl
  · obtain ⟨a, ns, rfl, hT, ok, q⟩ := h
    have hl : (ns.map V.str).length = ns.length := List.length_map ..
    have h1 := ok.one
    have h6 := ok.six
    refine ⟨_, pss_cons (ps_if (PW.pt (pw_or (pt_not (pt_val (pe_isi T.isinstance_ T.tuple_ (pv 0) (by rfl) (by rfl) b_tuple)))
        (pw_or (pt_not (pt_chain op_le op_le pe_int (pe_callB call_len_seq (by rfl) T.len_ b_len (pa_cons (pv 0) pa_nil)) (pe_glob (by rfl) hS rvI)))
        (pw_or1 (pt_not (pt_val (pe_callB (cr_all rfl) (by rfl) T.all_ b_all (pa_cons
          (pe_lc (own := [("one", 1)]) (g := gName 1) (tt := tYes) rfl scAreNames.nd (pi_tup (pv 0)) (blkOk_by (N := ["thing", "one", "other"]) (sc := defScope sAreNames) (by decide +kernel)) (fun _ _ _ _ _ => pg_name (i := 1) scAreNames.nd rfl (Or.inl rfl)) (fun _ _ _ _ _ => pts_nil)
            (fun _ _ _ _ _ => pe_call GW hr (by rfl) gW FW.kp bW .nil pass0 (pa_cons (pv 1) pa_nil))) pa_nil)))))))) pss_never pss_nil)
      (pss_one (ps_ret (pe_callB (cr_all rfl) (by rfl) T.all_ b_all (pa_cons
          (pe_lc (own := [("one", 1), ("other", 2)]) (g := gTup K 2 (gCons (gName 1) (gCons (gName 2) gNil))) (tt := tYes) rfl scAreNames.nd (RZ.pi_zipA (by rfl) T.zip_ (pa_cons (pv 0) (pa_cons (pe_slice sl_tupA (pv 0) (po_some pe_int) po_none) pa_nil))) (blkOk_by (N := ["thing", "one", "other"]) (sc := defScope sAreNames) (by decide +kernel))
            (fun _ _ _ _ _ => pg_tup rfl (pgs_cons (pg_name (i := 1) scAreNames.nd rfl (Or.inl rfl)) (pgs_cons (pg_name (i := 2) scAreNames.nd rfl (Or.inl rfl)) pgs_nil))) (fun _ _ _ _ _ => pts_nil)
            (fun _ _ _ _ _ => pe_cmpR op_lt_str (pv 1) (pv 2) (nomark _))) pa_nil)))), ?_⟩
    refine ⟨_, rfl, _, _, _, _, true, rfl, .ty _, tyTup hT, kit_ty (by decide +kernel), true, rfl, iteF ?_⟩
    refine ⟨.ref a, rfl, a, _, rfl, .inr hT, _, _, rfl, rfl, true, blT (by omega), iteT ⟨_, _, rfl, rfl, true, blT (by omega), iteF ?_⟩⟩
    -- all([is_word(one) for one in thing])
    refine ⟨.ref a, rfl, a, rfl, ⟨_, hT⟩, fun D hD => ?_⟩
    refine lc_it (walk_tup (xs := ns.map V.str)) (fun i H1 => Same H H1 ∧ H1 D = some (.lst (List.replicate i (.bl true)))) ⟨same_new hD, upd_same⟩ (fun i H1 _ hp => sqT_same hp.1 hT) (fun i x H1 H2 hi hp hy => ?_) (fun H1 hp => ?_)
    · obtain ⟨rfl, hx⟩ := hy
      obtain ⟨z, hz, rfl⟩ := List.mem_map.mp (List.mem_of_getElem? hx)
      refine ⟨rfl, lcYes ⟨_, rfl, z, rfl, ok.word z hz, fun H3 e3 => ⟨_, e3 _ _ hp.2, ?_, same_at hD (hp.1.trans e3), ?_⟩⟩⟩
      · rw [List.length_replicate, sizeLine_eq]
        omega
      · rw [upd_same, replicate_snoc]
    · refine ⟨D, List.replicate (ns.map V.str).length true, rfl, ?_, ?_⟩
      · rw [List.map_replicate]
        exact .of hp.2
      · have e : (List.replicate (ns.map V.str).length true).all id = true := by simp
        rw [e]
        refine ⟨true, rfl, iteF ?_⟩
        -- all([one < other for ..])
        have hT1 := sqT_same hp.1 hT
        refine ⟨.ref a, rfl, .ref a, rfl, 1, rfl, a, _, rfl, hT1, fun hw => ?_, fun _ p hpn => ?_⟩
        · exfalso
          have hw1 := hw.1
          rw [show HT.sIx (ns.map V.str).length 0 (some 1) = min 1 (ns.map V.str).length from HT.sIx_nat _ 0 1, hl] at hw1
          omega
        · rw [cut1 _ (by rw [hl]; exact h1)]
          have e1 : Same H1 (upd H1 p (.tup ((ns.map V.str).drop 1))) := same_new hpn
          refine ⟨a, p, _, _, rfl, .inr ⟨sqT_same e1 hT1, .of upd_same, fun D2 hD2 => ?_⟩⟩
          have hDp := upd_free hD2
          have e2 : Same H (upd H1 p (.tup ((ns.map V.str).drop 1))) := hp.1.trans e1
          refine lc_it (walk_zipT (xs := ns.map V.str) (ys := (ns.map V.str).drop 1) (n := ns.length - 1) (by rw [List.length_drop, hl]; omega)) (fun i H2 => Same (upd H1 p (.tup ((ns.map V.str).drop 1))) H2 ∧ H2 D2 = some (.lst (List.replicate i (.bl true)))) ⟨same_new hD2, upd_same⟩
            (fun i H2 _ hp2 => ⟨sqT_same hp2.1 (sqT_same e1 hT1), .of (hp2.1 _ _ upd_same)⟩) (fun i x H2 H3 hi hp2 hy => ?_) (fun H2 hp2 => ?_)
          · obtain ⟨T', x1, x2, rfl, hTn, rfl, g1, g2⟩ := hy
            dsimp only at g1 g2
            have i1 : i < ns.length := by omega
            have i2 : i + 1 < ns.length := by omega
            have k1 : ns[i]? = some ns[i] := List.getElem?_eq_getElem i1
            have k2 : ns[i + 1]? = some ns[i + 1] := List.getElem?_eq_getElem i2
            have ex1 : x1 = .str ns[i] := by
              rw [List.getElem?_map, k1] at g1
              exact (Option.some.inj g1).symm
            have ex2 : x2 = .str ns[i + 1] := by
              rw [List.getElem?_drop, Nat.add_comm 1 i, List.getElem?_map, k2] at g2
              exact (Option.some.inj g2).symm
            subst ex1 ex2
            have hDT : D2 ≠ T' := ne_of_none hp2.2 hTn
            refine ⟨T', _, rfl, .of upd_same, rfl, _, _, rfl, _, _, rfl, rfl, rfl, lcYes ?_⟩
            refine ⟨_, rfl, _, rfl, _, _, rfl, rfl, List.replicate i (.bl true), (upd_ne hDT).trans hp2.2, ?_, ?_, ?_⟩
            · rw [List.length_replicate, sizeLine_eq]
              omega
            · exact same_at hD2 (hp2.1.trans (same_new hTn))
            · rw [upd_same, blT (ok.asc i _ _ k1 k2), replicate_snoc]
          · refine ⟨D2, List.replicate (ns.length - 1) true, rfl, ?_, ?_⟩
            · rw [List.map_replicate]
              exact .of hp2.2
            · have e : (List.replicate (ns.length - 1) true).all id = true := by simp
              show Q (.bl ((List.replicate (ns.length - 1) true).all id)) H2
              rw [e]
              exact q _ (e2.trans hp2.1)
end
end K3

namespace K3
open PySem PySem.Spec PyProof.Rows L2
section
variable {P : Program} {w : World} {K : PySem.W.Frag} {mg : Str → Option Value} {base : Heap}
/-! ### are_figures -/
abbrev sAreFigures : Stmt := topS 17
theorem scAreFigures : FnScope ["many", "thing", "sign"] ["many", "thing"] (defScope sAreFigures) := ⟨rfl, rfl, rfl, by decide +kernel, rfl, by decide +kernel, by decide +kernel⟩
theorem cut_digits : ∀ n : Nat, n ≤ 6 → (cutS digits none (some (n : Int))).cps.toList = (List.range n).map (· + 48) := by
  have h : ∀ n : Fin 7, (cutS digits none (some ((n.val : Nat) : Int))).cps.toList = (List.range n.val).map (· + 48) := by decide +kernel
  exact fun n hn => h ⟨n, by omega⟩
theorem figS_at {f : List Nat} {i c : Nat} (h : (figS f).cps[i]? = some c) : ∃ d ∈ f, f[i]? = some d ∧ c = d + 48 := by
  have h' : ((f.map (· + 48)).toArray)[i]? = some c := h
  rw [List.getElem?_toArray, List.getElem?_map] at h'
  cases e : f[i]? with
  | none => rw [e] at h'; cases h'
  | some d =>
    rw [e] at h'
    exact ⟨d, List.mem_of_getElem? e, rfl, (Option.some.inj h').symm⟩
def spAreFigures : Sp := fun vs H Q _ => ∃ (n : Nat) (f : List Nat), vs = [.int n, .str (figS f)] ∧ n ≤ 6 ∧ FigsOk n f ∧ ∀ H', Same H H' → Q (.bl true) H'
theorem ok_areFigures {f : Addr} {fd : FuncData} (F : Fun K "are_figures" "are_figures" sAreFigures f fd) (T : Nm mg) : FnOk P w K mg base CX0 1 f fd ["many", "thing"] spAreFigures := by
  obtain ⟨tS, hS⟩ := T.cFigs
  obtain ⟨tL, hL⟩ := T.digits_
  refine F.ok scAreFigures (fun vs H Q E h => ?_) (fun cdv A outer s H vs Q E hr h => ?_)
  · obtain ⟨_, _, rfl, _⟩ := h
    rfl
  · obtain ⟨n, z, rfl, hn, ok, q⟩ := h
    have hl := figS_len z
    have h1 : 1 ≤ z.length := List.length_pos_iff.mpr ok.ne
    have h4 := ok.len
    have hz : (figS z).length ≤ sizeLine := by rw [sizeLine_eq]; omega
    refine ⟨_, pss_cons (ps_if (PW.pt (pw_or (pt_not (pt_val (pe_isi T.isinstance_ T.str_ (pv 1) (by rfl) (by rfl) b_str)))
        (pw_or1 (pt_not (pt_chain op_le op_le pe_int (pe_callB call_len_str (by rfl) T.len_ b_len (pa_cons (pv 1) pa_nil)) (pe_glob (by rfl) hS rvI)))))) pss_never pss_nil)
      (pss_one (ps_ret (pe_callB (cr_all rfl) (by rfl) T.all_ b_all (pa_cons
        (pe_lc (own := [("sign", 2)]) (g := gName 2) (tt := tYes) rfl scAreFigures.nd (pi_str (pv 1)) (blkOk_by (N := ["many", "thing", "sign"]) (sc := defScope sAreFigures) (by decide +kernel)) (fun _ _ _ _ _ => pg_name (i := 2) scAreFigures.nd rfl (Or.inl rfl)) (fun _ _ _ _ _ => pts_nil)
          (fun _ _ _ _ _ => pe_cmpR op_in_sign (pv 2) (pe_slice sl_str (pe_glob (by rfl) hL rvS) po_none (po_some (pv 0))) (by rfl))) pa_nil)))), ?_⟩
    refine ⟨_, rfl, _, _, _, _, true, rfl, .ty _, .base (.str _), kit_ty (by decide +kernel), true, rfl, iteF ?_⟩
    refine ⟨_, rfl, _, rfl, hz, _, _, rfl, rfl, true, blT (by omega), iteT ⟨_, _, rfl, rfl, true, blT (by omega), iteF ?_⟩⟩
    refine ⟨_, rfl, _, rfl, fun D hD => ?_⟩
    refine lc_it walk_str (fun i H' => H' = upd H D (.lst (List.replicate i (.bl true)))) rfl (fun _ _ _ _ => True.intro) (fun i x H1 H2 hi hp hy => ?_) (fun H1 hp => ?_)
    · obtain ⟨rfl, c, hci, rfl⟩ := hy
      subst hp
      obtain ⟨d, hd, hdi, rfl⟩ := figS_at hci
      refine ⟨rfl, lcYes ⟨_, rfl, _, rfl, _, rfl, _, rfl, by decide, d + 48, _, rfl, rfl, List.replicate i (.bl true), upd_same, ?_, ?_⟩⟩
      · rw [List.length_replicate, sizeLine_eq]
        have : (figS z).cps.size = (figS z).length := rfl
        omega
      · have hm : d + 48 ∈ (cutS digits none (some (n : Int))).cps.toList := by
          rw [cut_digits n hn]
          exact List.mem_map.mpr ⟨d, List.mem_range.mpr (ok.lt d hd), rfl⟩
        rw [blT hm, upd_upd, replicate_snoc]
    · subst hp
      refine ⟨D, List.replicate (figS z).cps.size true, rfl, ?_, ?_⟩
      · rw [List.map_replicate]
        exact .of upd_same
      · have e : (List.replicate (figS z).cps.size true).all id = true := by simp
        show Q (.bl ((List.replicate (figS z).cps.size true).all id)) _
        rw [e]
        exact q _ (same_new hD)

/-! ### is_run -/
abbrev sIsRun : Stmt := topS 18
theorem scIsRun : FnScope ["many", "thing", "is_last"] ["many", "thing", "is_last"] (defScope sIsRun) := ⟨rfl, rfl, rfl, by decide +kernel, rfl, by decide +kernel, by decide +kernel⟩
def spIsRun (K : PySem.W.Frag) : Sp := fun vs H Q _ => ∃ (n : Nat) (a : Addr) (r : Run), vs = [.int n, .ref a, .bl (decide (r.1 = none))] ∧ RunAt K H a r ∧ n ≤ 6 ∧ FigsOk n r.2 ∧ (∀ c, r.1 = some c → 1 ≤ c ∧ c ≤ 1000000000000) ∧ ∀ H', Same H H' → Q (.bl true) H'
theorem ok_isRun {f fF fW : Addr} {fd fdF fdW : FuncData} (F : Fun K "is_run" "is_run" sIsRun f fd) (T : Nm mg) (FF : Fun K "are_figures" "are_figures" sAreFigures fF fdF) (gF : mg "are_figures" = some (.ref fF)) (bF : Binds K fdF ["many", "thing"] [])
    (FW : Fun K "is_whole" "is_whole" sIsWhole fW fdW) (gW : mg "is_whole" = some (.ref fW)) (bW : Binds K fdW ["thing", "least", "most"] []) : FnOk P w K mg base CX0 2 f fd ["many", "thing", "is_last"] (spIsRun K) := by
  obtain ⟨tS, hS⟩ := T.cCoins
  have GF : FnOk P w K mg base CX0 1 fF fdF ["many", "thing"] spAreFigures := ok_areFigures FF T
  have GW : FnOk P w K mg base CX0 1 fW fdW ["thing", "least", "most"] spIsWhole := ok_isWhole FW T
  refine F.ok scIsRun (fun vs H Q E h => ?_) (fun cdv A outer s H vs Q E hr h => ?_)
  · obtain ⟨_, _, _, rfl, _⟩ := h
    rfl
  · obtain ⟨n, a, ⟨c, z⟩, rfl, hT, hn, ok, hc, q⟩ := h
    have hT : SqT K H a [coinV c, .str (figS z)] := hT
    refine ⟨_, pss_cons (ps_if (PW.pt (pw_or (pt_not (pt_val (pe_isi T.isinstance_ T.tuple_ (pv 1) (by rfl) (by rfl) b_tuple)))
        (pw_or (pt_cmpR op_ne (pe_callB call_len_seq (by rfl) T.len_ b_len (pa_cons (pv 1) pa_nil)) pe_int (nomark _))
        (pw_or1 (pt_not (pt_val (pe_call GF hr (by rfl) gF FF.kp bF .nil pass0 (pa_cons (pv 0) (pa_cons (pe_ix ix_tup (pv 1) pe_int (fun _ _ => rfl)) pa_nil))))))))) pss_never pss_nil)
      (pss_one (ps_ret (pe_ifExp (pt_val (pv 2)) (pe_cmp (pc_isN (pe_ix ix_tup (pv 1) pe_int (fun _ _ => rfl))))
        (pe_call GW hr (by rfl) gW FW.kp bW .nil pass0 (pa_cons (pe_ix ix_tup (pv 1) pe_int (fun _ _ => rfl)) (pa_cons pe_int (pa_cons (pe_glob (by rfl) hS rvI) pa_nil))))))), ?_⟩
    refine ⟨_, rfl, _, _, _, _, true, rfl, .ty _, tyTup hT, kit_ty (by decide +kernel), true, rfl, iteF ?_⟩
    refine ⟨_, rfl, a, _, rfl, .inr hT, rfl, false, rfl, iteF ?_⟩
    refine ⟨_, rfl, .ref a, rfl, a, _, 1, _, rfl, rfl, hT, atI_nat (j := 1) rfl, n, z, rfl, hn, ok, fun H1 e1 => ⟨true, rfl, iteF ?_⟩⟩
    refine ⟨_, rfl, _, rfl, ?_⟩
    have hT1 := sqT_same e1 hT
    cases c with
    | none =>
      refine iteT ⟨_, rfl, a, _, 0, _, rfl, rfl, hT1, atI_nat (j := 0) rfl, ?_⟩
      exact q _ e1
    | some c =>
      obtain ⟨c1, c2⟩ := hc c rfl
      refine iteF ⟨.ref a, rfl, a, _, 0, _, rfl, rfl, hT1, atI_nat (j := 0) rfl, (c : Int), 1, 1000000000000, rfl, by omega, by omega, q _ e1⟩
end
end K3

namespace K3
open PySem PySem.Spec PyProof.Rows L2

/-- a def of the module that keeps its promise -/
def Def (P : Program) (w : World) (K : PySem.W.Frag) (mg : Str → Option Value) (base : Heap) (k : Nat) (x : Str) (ps : List Str) (sp : Sp) : Prop :=
  ∃ f fd, FnOk P w K mg base CX0 k f fd ps sp ∧ mg x = some (.ref f) ∧ PySem.W.keepIn K (.ref f) = true ∧ Binds K fd ps []
section
variable {X : Cx} {k j : Nat} {x : Str} {ps : List Str} {sp : Sp} {e : Expr} {es : List Expr} {t : TA} {p pos : Pos}
theorem pe_d (D : Def X.prog X.w X.K X.mg X.base k x ps sp) (hr : Room k X.A) (hg : Gl X x) (ha : PA X (e :: es) t)
    (hd : (x == ("__debug__" : Str)) = false := by decide) (he : starEach (e :: es) X.env = (false, eval e X.env) :: starEach es X.env := by rfl) (hpl : (backTo pos (starEach es X.env)).any (·.1) = false := by rfl) :
    PE X (.Call (.Name x p) (e :: es) [] pos) (tCall sp [] E0 t) := by
  obtain ⟨f, fd, F, gm, kp, b⟩ := D
  exact pe_call F hr hg gm kp b .nil pass0 ha hd he hpl
end

section
variable {P : Program} {w : World} {K : PySem.W.Frag} {mg : Str → Option Value} {base : Heap}
/-! ### need_number -/
abbrev sNeedNumber : Stmt := topS 20
theorem scNeedNumber : FnScope ["thing"] ["thing"] (defScope sNeedNumber) := ⟨rfl, rfl, rfl, by decide +kernel, rfl, by decide +kernel, by decide +kernel⟩
def spNeedNumber : Sp := fun vs H Q _ => ∃ n : Nat, vs = [.int n] ∧ n ≤ 1000000 ∧ Q (.int n) H
theorem ok_needNumber {f : Addr} {fd : FuncData} (F : Fun K "need_number" "need_number" sNeedNumber f fd) (T : Nm mg) (DW : Def P w K mg base 1 "is_whole" ["thing", "least", "most"] spIsWhole) : FnOk P w K mg base CX0 2 f fd ["thing"] spNeedNumber := by
  obtain ⟨tS, hS⟩ := T.cNumber
  refine F.ok scNeedNumber (fun vs H Q E h => ?_) (fun cdv A outer s H vs Q E hr h => ?_)
  · obtain ⟨_, rfl, _⟩ := h
    rfl
  · obtain ⟨n, rfl, hn, q⟩ := h
    refine ⟨_, pss_cons (ps_if (pt_not (pt_val (pe_d DW hr (by rfl) (pa_cons (pv 0) (pa_cons pe_int (pa_cons (pe_glob (by rfl) hS rvI) pa_nil)))))) pss_never pss_nil) (pss_one (ps_ret (pv 0))), ?_⟩
    exact ⟨_, rfl, n, 0, _, rfl, by omega, by omega, true, rfl, iteF ⟨_, rfl, q⟩⟩

/-! ### need_deal -/
abbrev sNeedDeal : Stmt := topS 19
theorem scNeedDeal : FnScope ["thing", "names", "runs", "number", "run"] ["thing"] (defScope sNeedDeal) := ⟨rfl, rfl, rfl, by decide +kernel, rfl, by decide +kernel, by decide +kernel⟩
structure Good (ns : List Str) (rs : List Run) : Prop where
  names : NamesOk ns
  runs : RunsOk ns.length rs
def spNeedDeal (K : PySem.W.Frag) : Sp := fun vs H Q _ => ∃ (a : Addr) (ns : List Str) (rs : List Run), vs = [.ref a] ∧ DealAt K H a ns rs ∧ Good ns rs ∧ ∀ H', Same H H' → Q (.ref a) H'
theorem ok_needDeal {f : Addr} {fd : FuncData} (F : Fun K "need_deal" "need_deal" sNeedDeal f fd) (T : Nm mg) (DN : Def P w K mg base 2 "are_names" ["thing"] (spAreNames K)) (DR : Def P w K mg base 2 "is_run" ["many", "thing", "is_last"] (spIsRun K)) :
    FnOk P w K mg base CX0 3 f fd ["thing"] (spNeedDeal K) := by
  obtain ⟨tS, hS⟩ := T.cRuns
  refine F.ok scNeedDeal (fun vs H Q E h => ?_) (fun cdv A outer s H vs Q E hr h => ?_)
  · obtain ⟨_, _, _, rfl, _⟩ := h
    rfl
  · obtain ⟨a, ns, rs, rfl, hD, ok, q⟩ := h
    obtain ⟨n, r, hT, hN, hR⟩ := id hD
    refine ⟨_, pss_cons (ps_if (PW.pt (pw_or (pt_not (pt_val (pe_isi T.isinstance_ T.tuple_ (pv 0) (by rfl) (by rfl) b_tuple))) (pw_or1 (pt_cmpR op_ne (pe_callB call_len_seq (by rfl) T.len_ b_len (pa_cons (pv 0) pa_nil)) pe_int (nomark _))))) pss_never pss_nil)
      (pss_cons (ps_asg (pv 0) (pg_tup rfl (pgs_cons (pg_name (i := 1) scNeedDeal.nd rfl (.inl rfl)) (pgs_cons (pg_name (i := 2) scNeedDeal.nd rfl (.inl rfl)) pgs_nil))))
      (pss_cons (ps_if (pt_not (pt_val (pe_d DN hr (by rfl) (pa_cons (pv 1) pa_nil)))) pss_never pss_nil)
      (pss_cons (ps_if (PW.pt (pw_or (pt_not (pt_val (pe_isi T.isinstance_ T.tuple_ (pv 2) (by rfl) (by rfl) b_tuple))) (pw_or1 (pt_not (pt_chain op_le op_le pe_int (pe_callB call_len_seq (by rfl) T.len_ b_len (pa_cons (pv 2) pa_nil)) (pe_glob (by rfl) hS rvI)))))) pss_never pss_nil)
      (pss_cons (ps_for PassesOwn.never rfl (pi_enumT (by rfl) T.enumerate_ (pa_cons (pv 2) pa_nil)) (pg_tup rfl (pgs_cons (pg_name (i := 3) scNeedDeal.nd rfl (.inl rfl)) (pgs_cons (pg_name (i := 4) scNeedDeal.nd rfl (.inl rfl)) pgs_nil)))
        (pss_one (ps_if (pt_not (pt_val (pe_d DR hr (by rfl) (pa_cons (pe_callB call_len_seq (by rfl) T.len_ b_len (pa_cons (pv 1) pa_nil)) (pa_cons (pv 4) (pa_cons (pe_cmpR op_eq (pv 3) (pe_op op_sub (pe_callB call_len_seq (by rfl) T.len_ b_len (pa_cons (pv 2) pa_nil)) pe_int) (nomark _)) pa_nil)))))) pss_never pss_nil)))
      (pss_one (ps_ret (pv 0))))))), ?_⟩
    refine ⟨_, rfl, _, _, _, _, true, rfl, .ty _, tyTup hT, kit_ty (by decide +kernel), true, rfl, iteF ?_⟩
    refine ⟨_, rfl, a, _, rfl, .inr hT, rfl, false, rfl, iteF ?_⟩
    refine ⟨_, rfl, a, _, rfl, hT, rfl, _, _, rfl, _, _, rfl, rfl, ?_⟩
    refine ⟨_, rfl, n, ns, rfl, hN.sq, ok.names, fun H1 e1 => ⟨true, rfl, iteF ?_⟩⟩
    obtain ⟨xs, hX, hxl, hxs⟩ := hR.same e1
    have hl : (xs.map V.ref).length = rs.length := by rw [List.length_map, hxl]
    have h1 := ok.runs.pos
    have h60 := ok.runs.len
    refine ⟨_, rfl, _, _, _, _, true, rfl, .ty _, tyTup hX, kit_ty (by decide +kernel), true, rfl, iteF ?_⟩
    refine ⟨.ref r, rfl, r, _, rfl, .inr hX, _, _, rfl, rfl, true, blT (by omega), iteT ⟨_, _, rfl, rfl, true, blT (by omega), iteF ?_⟩⟩
    refine ⟨_, rfl, r, _, rfl, hX, ?_⟩
    refine for_it walk_enumT (fun i σ H2 => Same H1 H2 ∧ ∃ y z, σ = [some (.ref a), some (.ref n), some (.ref r), y, z]) ⟨.refl _, none, none, rfl⟩ (fun i σ H2 _ hp => sqT_same hp.1 hX) (fun i x σ H2 H3 hi hp hy => ?_) (fun σ H2 hp => ?_)
    · obtain ⟨e2, y, z, rfl⟩ := hp
      obtain ⟨T', x1, x2, rfl, hTn, rfl, g1, g2⟩ := hy
      dsimp only at g1 g2
      cases g1
      have hi' : i < rs.length := by omega
      obtain ⟨x, hx, hRa⟩ := hxs i rs[i] (List.getElem?_eq_getElem hi')
      have ex2 : x2 = .ref x := by
        rw [List.getElem?_map, hx] at g2
        exact (Option.some.inj g2).symm
      subst ex2
      have e3 : Same H1 (upd H2 T' (.tup [.int (i : Nat), .ref x])) := e2.trans (same_new hTn)
      refine ⟨T', _, rfl, .of upd_same, rfl, _, _, rfl, _, _, rfl, rfl, ?_⟩
      refine ⟨_, rfl, n, _, rfl, .inr (sqT_same (e1.trans e3) hN.sq), _, rfl, _, rfl, _, rfl, r, _, rfl, .inr (sqT_same e3 hX), _, _, rfl, rfl, rfl, ns.length, x, rs[i], ?_, (hRa.same e3), ok.names.six, ok.runs.figs _ (List.getElem_mem hi'), ok.runs.coin _ (List.getElem_mem hi'), fun H4 e4 => ⟨true, rfl, iteF ?_⟩⟩
      · have eb : decide (V.int (i : Nat) = V.int (((xs.map V.ref).length : Nat) - 1)) = decide (rs[i].1 = none) := by
          have hlast := Ends.last ok.runs.ends i rs[i] (List.getElem?_eq_getElem hi')
          by_cases hn : rs[i].1 = none
          · have := hlast.mp hn
            rw [decide_eq_true hn]
            exact decide_eq_true (by rw [show ((i : Nat) : Int) = ((xs.map V.ref).length : Nat) - 1 by omega])
          · rw [decide_eq_false hn]
            refine decide_eq_false fun e => hn (hlast.mpr ?_)
            have e' := V.int.inj e
            omega
        rw [List.length_map]
        show [V.int (ns.length : Nat), V.ref x, V.bl (decide (V.int (i : Nat) = V.int (((xs.map V.ref).length : Nat) - 1)))] = _
        rw [eb]
      · exact ⟨e3.trans e4, _, _, rfl⟩
    · obtain ⟨e2, y, z, rfl⟩ := hp
      exact ⟨_, rfl, q _ (e1.trans e2)⟩
end
end K3

namespace K3
open PySem PySem.Spec PyProof.Rows L2
theorem pe_imp {X : Cx} {e : Expr} {t t' : TE} (h : PE X e t) (hw : ∀ σ H Q, t' σ H Q → t σ H Q) : PE X e t' := ⟨fun pins s σ H Q I q => h.run pins s σ H Q I (hw _ _ _ q)⟩
/-! ### texts of figures -/
theorem cnt_count (c : Nat) : ∀ l : List Nat, cnt c l = (l.count c : Nat)
  | [] => rfl
  | n :: r => by
    rw [cnt_cons, cnt_count c r, List.count_cons]
    by_cases h : n = c
    · subst h
      simp
      omega
    · have h' : ¬ (n == c) = true := by simpa using h
      rw [if_neg h, if_neg h']
      omega
theorem count_map48 (d : Nat) : ∀ f : List Nat, (f.map (· + 48)).count (d + 48) = f.count d
  | [] => rfl
  | a :: l => by
    rw [List.map_cons, List.count_cons, List.count_cons, count_map48 d l]
    by_cases h : a = d
    · subst h
      simp
    · have h1 : ¬ (a == d) = true := by simpa using h
      have h2 : ¬ (a + 48 == d + 48) = true := by simpa using h
      rw [if_neg h1, if_neg h2]
theorem count_fig (f : List Nat) (d : Nat) : Txt.count (figS f) (figS [d]) = (f.count d : Nat) := by
  have e : figS [d] = ⟨#[d + 48]⟩ := rfl
  rw [e, count_cnt, cnt_count]
  have e2 : (figS f).cps.toList = f.map (· + 48) := by
    show ((f.map (· + 48)).toArray).toList = _
    simp
  rw [e2, count_map48]
theorem cut_fig (f : List Nat) (r : Nat) (h : r ≤ f.length) : cutS (figS f) none (some (r : Int)) = figS (f.take r) := by
  unfold cutS
  rw [figS_len, HT.sIx_none, HT.sIx_nat, Nat.min_eq_left h, Nat.sub_zero, List.drop_zero]
  have e2 : (figS f).cps.toList = f.map (· + 48) := by
    show ((f.map (· + 48)).toArray).toList = _
    simp
  rw [e2]
  unfold figS
  rw [List.map_take]

section
variable {P : Program} {w : World} {K : PySem.W.Frag} {mg : Str → Option Value} {base : Heap}
/-! ### count_in -/
abbrev sCountIn : Stmt := topS 21
theorem scCountIn : FnScope ["figures", "figure", "coins", "turns", "rest"] ["figures", "figure", "coins"] (defScope sCountIn) := ⟨rfl, rfl, rfl, by decide +kernel, rfl, by decide +kernel, by decide +kernel⟩
def spCountIn : Sp := fun vs H Q _ => ∃ (f : List Nat) (d n : Nat), vs = [.str (figS f), .str (figS [d]), .int n] ∧ f ≠ [] ∧ f.length ≤ 400 ∧ n ≤ 1000000 ∧ ∀ H', Same H H' → Q (.int (cntIn f d n)) H'
theorem ok_countIn {f : Addr} {fd : FuncData} (F : Fun K "count_in" "count_in" sCountIn f fd) (T : Nm mg) : FnOk P w K mg base CX0 1 f fd ["figures", "figure", "coins"] spCountIn := by
  refine F.ok scCountIn (fun vs H Q E h => ?_) (fun cdv A outer s H vs Q E hr h => ?_)
  · obtain ⟨_, _, _, rfl, _⟩ := h
    rfl
  · obtain ⟨z, d, n, rfl, ne, h4, hn, q⟩ := h
    have hl := figS_len z
    have h1 : 0 < z.length := List.length_pos_iff.mpr ne
    have hz : (figS z).length ≤ sizeLine := by rw [sizeLine_eq]; omega
    refine ⟨_, pss_cons (ps_asg (pe_callB call_divmod (by rfl) T.divmod_ b_divmod (pa_cons (pv 2) (pa_cons (pe_callB call_len_str (by rfl) T.len_ b_len (pa_cons (pv 0) pa_nil)) pa_nil)))
        (pg_tup rfl (pgs_cons (pg_name (i := 3) scCountIn.nd rfl (.inl rfl)) (pgs_cons (pg_name (i := 4) scCountIn.nd rfl (.inl rfl)) pgs_nil))))
      (pss_one (ps_ret (pe_op op_add (pe_op op_mul (pv 3) (pe_bm PySem.F.plainAttrs_str PySem.F.slot_str_count PySem.F.type_str_count mt_count (pv 0) (pa_cons (pv 1) pa_nil)))
        (pe_bm PySem.F.plainAttrs_str PySem.F.slot_str_count PySem.F.type_str_count mt_count (pe_slice sl_str (pv 0) po_none (po_some (pv 4))) (pa_cons (pv 1) pa_nil))))), ?_⟩
    refine ⟨_, rfl, _, rfl, _, rfl, hz, _, _, rfl, ⟨by omega, by omega⟩, fun p hp => ?_⟩
    have ed : ((n : Nat) : Int) / ((figS z).length : Nat) = ((n / z.length : Nat) : Int) := by rw [hl]; rfl
    have em : ((n : Nat) : Int) % ((figS z).length : Nat) = ((n % z.length : Nat) : Int) := by rw [hl]; rfl
    rw [ed, em]
    have hm : n % z.length < z.length := Nat.mod_lt _ h1
    have hd : n / z.length ≤ n := Nat.div_le_self _ _
    have hq0 : (0 : Int) ≤ ((n / z.length : Nat) : Int) := Int.natCast_nonneg _
    have hq1 : ((n / z.length : Nat) : Int) ≤ 1000000 := by
      have : n / z.length ≤ 1000000 := Nat.le_trans hd hn
      exact Int.ofNat_le.mpr this
    refine ⟨p, _, rfl, .of upd_same, rfl, _, _, rfl, _, _, rfl, rfl, ?_⟩
    refine ⟨_, rfl, _, rfl, rfl, _, rfl, _, _, rfl, rfl, _, _, rfl, rfl, .inl ⟨Int.lt_of_lt_of_le (by decide) hq0, Int.lt_of_le_of_lt hq1 (by decide)⟩, _, rfl, _, rfl, _, rfl, _, rfl, hz, ?_⟩
    rw [cut_fig _ _ (Nat.le_of_lt hm)]
    refine ⟨rfl, _, rfl, _, _, rfl, rfl, _, _, rfl, rfl, ?_⟩
    rw [count_fig, count_fig]
    have e : ((n / z.length : Nat) : Int) * (z.count d : Nat) + ((z.take (n % z.length)).count d : Nat) = (cntIn z d n : Nat) := by
      unfold cntIn
      omega
    show Q (.int (((n / z.length : Nat) : Int) * (z.count d : Nat) + ((z.take (n % z.length)).count d : Nat))) _
    rw [e]
    exact q _ (same_new hp)

/-! ### parts_of -/
abbrev sPartsOf : Stmt := topS 22
theorem scPartsOf : FnScope ["runs", "coins", "found", "left", "size", "figures", "part"] ["runs", "coins"] (defScope sPartsOf) := ⟨rfl, rfl, rfl, by decide +kernel, rfl, by decide +kernel, by decide +kernel⟩
def natV (n : Nat) : V := .int n
/-- left if size is None else min(left, size) -/
def partI : Option Nat → Nat → Nat
  | none, left => left
  | some c, left => min left c
def tPart34 : TE := fun σ H Q => ∃ (c : Option Nat) (left : Nat), σ[3]? = some (some (V.int left)) ∧ σ[4]? = some (some (coinV c)) ∧ Q (.int (partI c left)) H
theorem part34 : ∀ σ H Q, tPart34 σ H Q → tIf (tB (tIsN (tVar 4))) (tVar 3) (tCB (fun xs H Q => ∃ i j, xs = [.int i, .int j] ∧ Q (.int (if j < i then j else i)) H) (tCons (tVar 3) (tCons (tVar 4) tNil))) σ H Q := by
  rintro σ H Q ⟨c, left, h3, h4, q⟩
  cases c with
  | none => exact ⟨_, h4, _, rfl, iteT ⟨_, h3, q⟩⟩
  | some c =>
    refine ⟨_, h4, _, rfl, iteF ⟨_, h3, _, h4, _, _, rfl, ?_⟩⟩
    have e : (if ((c : Nat) : Int) < (left : Nat) then ((c : Nat) : Int) else (left : Nat)) = ((min left c : Nat) : Int) := by
      split <;> omega
    rw [e]
    exact q
def spPartsOf (K : PySem.W.Frag) : Sp := fun vs H Q _ => ∃ (r : Addr) (rs : List Run) (n : Nat), vs = [.ref r, .int n] ∧ RunsAt K H r rs ∧ rs.length ≤ 60 ∧ n ≤ 1000000 ∧ ∀ p H', Same H H' → H p = none → H' p = some (.lst ((partsOf rs n).map natV)) → Q (.ref p) H'
theorem ok_partsOf {f : Addr} {fd : FuncData} (F : Fun K "parts_of" "parts_of" sPartsOf f fd) (T : Nm mg) : FnOk P w K mg base CX0 1 f fd ["runs", "coins"] (spPartsOf K) := by
  refine F.ok scPartsOf (fun vs H Q E h => ?_) (fun cdv A outer s H vs Q E hr h => ?_)
  · obtain ⟨_, _, _, rfl, _⟩ := h
    rfl
  · obtain ⟨r, rs, n, rfl, hR, h60, hn, q⟩ := h
    obtain ⟨xs, hX, hxl, hxs⟩ := hR
    have hl : (xs.map V.ref).length = rs.length := by rw [List.length_map, hxl]
    refine ⟨_, pss_cons (ps_par (i := 2) (j := 3) rfl scPartsOf.nd rfl rfl (by decide) rfl rfl (pa_cons (pe_lst pa_nil) (pa_cons (pv 1) pa_nil)) (by rfl))
      (pss_cons (ps_for PassesOwn.never rfl (pi_tup (pv 0)) (pg_tup rfl (pgs_cons (pg_name (i := 4) scPartsOf.nd rfl (.inl rfl)) (pgs_cons (pg_name (i := 5) scPartsOf.nd rfl (.inl rfl)) pgs_nil)))
        (pss_cons (ps_set (i := 6) scPartsOf.nd rfl (.inl rfl) (pe_imp (t' := tPart34) (pe_ifExp (pt_cmp (pc_isN (pv 4))) (pv 3) (pe_callB (call_min2 rfl) (by rfl) T.min_ b_min (pa_cons (pv 3) (pa_cons (pv 4) pa_nil)))) part34))
        (pss_cons (ps_expr (pe_bm PySem.F.plainAttrs_list PySem.F.slot_list_append PySem.F.type_list_append mt_append (pv 2) (pa_cons (pv 6) pa_nil)))
        (pss_one (ps_aug (i := 3) scPartsOf.nd rfl (.inl rfl) (pv 6) ip_sub)))))
      (pss_one (ps_ret (pv 2)))), ?_⟩
    refine ⟨Nat.zero_le _, fun p hp => ⟨_, rfl, _, _, rfl, ?_⟩⟩
    refine ⟨_, rfl, r, rfl, ⟨_, sqT_same (same_new hp) hX⟩, ?_⟩
    refine for_it (walk_tup (xs := xs.map V.ref)) (fun i σ H2 => ∃ (acc : List Nat) (left : Nat) (y4 y5 y6 : Option V), σ = [some (.ref r), some (.int n), some (.ref p), some (.int left), y4, y5, y6] ∧ left ≤ n ∧ acc.length = i ∧ partsOf rs n = acc ++ partsOf (rs.drop i) left ∧ Same H H2 ∧ H2 p = some (.lst (acc.map natV)))
      ⟨[], n, none, none, none, rfl, Nat.le_refl _, rfl, rfl, same_new hp, upd_same⟩ (fun i σ H2 _ hp2 => ?_) (fun i x σ H2 H3 hi hp2 hy => ?_) (fun σ H2 hp2 => ?_)
    · obtain ⟨_, _, _, _, _, _, _, _, _, e2, _⟩ := hp2
      exact sqT_same e2 hX
    · obtain ⟨acc, left, y4, y5, y6, rfl, hle, hal, hpa, e2, hpl⟩ := hp2
      obtain ⟨rfl, hx⟩ := hy
      have hi' : i < rs.length := by omega
      obtain ⟨x', hx', hRa⟩ := hxs i rs[i] (List.getElem?_eq_getElem hi')
      have ex : x = .ref x' := by
        rw [List.getElem?_map, hx'] at hx
        exact (Option.some.inj hx).symm
      subst ex
      have hRa2 := hRa.same e2
      have hdr := drop_cons (List.getElem?_eq_getElem hi')
      rcases hrc : rs[i] with ⟨c, z⟩
      rw [hrc] at hRa2 hdr
      refine ⟨x', _, rfl, hRa2, rfl, _, _, rfl, _, _, rfl, rfl, ?_⟩
      have hstep : partsOf (rs.drop i) left = partI c left :: partsOf (rs.drop (i + 1)) (left - partI c left) := by
        rw [hdr]
        cases c with
        | none => simp [partsOf, partI]
        | some c => simp [partsOf, partI]
      have hpl2 : partI c left ≤ left := by cases c <;> simp [partI]; omega
      have hal' : (acc.map natV).length < sizeLine := by rw [List.length_map, hal, sizeLine_eq]; omega
      refine ⟨c, left, rfl, rfl, ?_⟩
      refine ⟨_, rfl, .inl ⟨rfl, _, .of hpl⟩, _, rfl, p, _, _, rfl, rfl, hpl, hal', ?_⟩
      refine ⟨_, rfl, _, rfl, _, _, rfl, rfl, ?_⟩
      refine ⟨acc ++ [partI c left], left - partI c left, some (coinV c), some (.str (figS z)), some (.int (partI c left : Nat)), ?_, by omega, by rw [List.length_append, hal]; rfl, ?_, same_at hp e2, ?_⟩
      · rw [Int.ofNat_sub hpl2]
        rfl
      · rw [hpa, hstep, List.append_assoc]
        rfl
      · rw [upd_same, List.map_append]
        rfl
    · obtain ⟨acc, left, y4, y5, y6, rfl, hle, hal, hpa, e2, hpl⟩ := hp2
      refine ⟨_, rfl, q p H2 e2 hp ?_⟩
      rw [hl, List.drop_length] at hpa
      have : partsOf rs n = acc := by rw [hpa]; exact List.append_nil _
      rw [this]
      exact hpl
end
end K3

namespace K3
open PySem PySem.Spec PyProof.Rows L2
theorem sum_cast : ∀ l : List Nat, (l.map fun m => ((m : Nat) : Int)).sum = (l.sum : Nat)
  | [] => rfl
  | a :: l => by
    rw [List.map_cons, List.sum_cons, List.sum_cons, sum_cast l]
    omega
theorem take_grow {α : Type} {l : List α} {i : Nat} {x : α} (h : l[i]? = some x) : l.take (i + 1) = l.take i ++ [x] := by
  rw [List.take_add_one, h]
  rfl
section
variable {P : Program} {w : World} {K : PySem.W.Frag} {mg : Str → Option Value} {base : Heap}
/-! ### count_by -/
abbrev sCountBy : Stmt := topS 23
theorem scCountBy : FnScope ["runs", "figure", "coins", "parts", "run", "part"] ["runs", "figure", "coins"] (defScope sCountBy) := ⟨rfl, rfl, rfl, by decide +kernel, rfl, by decide +kernel, by decide +kernel⟩
def spCountBy (K : PySem.W.Frag) : Sp := fun vs H Q _ => ∃ (r : Addr) (rs : List Run) (d n : Nat), vs = [.ref r, .str (figS [d]), .int n] ∧ RunsAt K H r rs ∧ rs.length ≤ 60 ∧ (∀ r ∈ rs, r.2 ≠ [] ∧ r.2.length ≤ 400) ∧ n ≤ 1000000 ∧ ∀ H', Same H H' → Q (.int (cntBy rs d n)) H'
theorem ok_countBy {f : Addr} {fd : FuncData} (F : Fun K "count_by" "count_by" sCountBy f fd) (T : Nm mg) (DP : Def P w K mg base 1 "parts_of" ["runs", "coins"] (spPartsOf K)) (DC : Def P w K mg base 1 "count_in" ["figures", "figure", "coins"] spCountIn) :
    FnOk P w K mg base CX0 2 f fd ["runs", "figure", "coins"] (spCountBy K) := by
  refine F.ok scCountBy (fun vs H Q E h => ?_) (fun cdv A outer s H vs Q E hr h => ?_)
  · obtain ⟨_, _, _, _, rfl, _⟩ := h
    rfl
  · obtain ⟨r, rs, d, n, rfl, hR, h60, hf, hn, q⟩ := h
    refine ⟨_, pss_cons (ps_set (i := 3) scCountBy.nd rfl (.inl rfl) (pe_d DP hr (by rfl) (pa_cons (pv 0) (pa_cons (pv 2) pa_nil))))
      (pss_one (ps_ret (pe_callB (cr_sum rfl) (by rfl) T.sum_ b_sum (pa_cons
        (pe_lc (own := [("run", 4), ("part", 5)]) (g := gTup K 2 (gCons (gName 4) (gCons (gName 5) gNil))) (tt := tYes) rfl scCountBy.nd (pi_zipM (by rfl) T.zip_ (pa_cons (pv 0) (pa_cons (pv 3) pa_nil))) (blkOk_by (N := ["runs", "figure", "coins", "parts", "run", "part"]) (sc := defScope sCountBy) (by decide +kernel))
          (fun _ _ _ _ _ => pg_tup rfl (pgs_cons (pg_name (i := 4) scCountBy.nd rfl (Or.inl rfl)) (pgs_cons (pg_name (i := 5) scCountBy.nd rfl (Or.inl rfl)) pgs_nil))) (fun _ _ _ _ _ => pts_nil)
          (fun _ _ _ _ _ => pe_d DC hr (by rfl) (pa_cons (pe_ix (r := rIxT K) ix_tup (pv 4) pe_int (fun _ _ => rfl)) (pa_cons (pv 1) (pa_cons (pv 5) pa_nil))))) pa_nil)))), ?_⟩
    refine ⟨_, rfl, _, rfl, r, rs, n, rfl, hR, h60, hn, fun p H1 e1 hp hpl => ?_⟩
    obtain ⟨xs, hX, hxl, hxs⟩ := hR.same e1
    have hl : (xs.map V.ref).length = rs.length := by rw [List.length_map, hxl]
    have hpl2 : ((partsOf rs n).map natV).length = rs.length := by rw [List.length_map, partsOf_len]
    refine ⟨_, rfl, _, rfl, r, p, _, _, rfl, hX, .of hpl, fun D hD => ?_⟩
    have hDp : p ≠ D := ne_of_none hpl hD
    refine lc_it (walk_zipM (by rw [hl, hpl2])) (fun i H2 => Same H1 H2 ∧ H2 D = some (.lst (((List.zipWith (fun (r : Run) m => cntIn r.2 d m) rs (partsOf rs n)).take i).map natV))) ⟨same_new hD, upd_same⟩
      (fun i H2 _ hp2 => ⟨sqT_same hp2.1 hX, .of (hp2.1 _ _ hpl)⟩) (fun i x H2 H3 hi hp2 hy => ?_) (fun H2 hp2 => ?_)
    · obtain ⟨T', x1, x2, rfl, hTn, rfl, g1, g2⟩ := hy
      dsimp only at g1 g2
      have hi' : i < rs.length := by omega
      have hi2 : i < (partsOf rs n).length := by rw [partsOf_len]; exact hi'
      obtain ⟨x', hx', hRa⟩ := hxs i rs[i] (List.getElem?_eq_getElem hi')
      have ex1 : x1 = .ref x' := by
        rw [List.getElem?_map, hx'] at g1
        exact (Option.some.inj g1).symm
      have ex2 : x2 = natV (partsOf rs n)[i] := by
        rw [List.getElem?_map, List.getElem?_eq_getElem hi2] at g2
        exact (Option.some.inj g2).symm
      subst ex1 ex2
      have hDT : D ≠ T' := ne_of_none hp2.2 hTn
      have e3 : Same H1 (upd H2 T' (.tup [.ref x', natV (partsOf rs n)[i]])) := hp2.1.trans (same_new hTn)
      have hRa2 : SqT K _ x' [coinV rs[i].1, .str (figS rs[i].2)] := hRa.same e3
      have hok := hf _ (List.getElem_mem hi')
      have hz : (List.zipWith (fun (r : Run) m => cntIn r.2 d m) rs (partsOf rs n))[i]? = some (cntIn rs[i].2 d (partsOf rs n)[i]) := by
        rw [List.getElem?_zipWith, List.getElem?_eq_getElem hi', List.getElem?_eq_getElem hi2]
      have hzl : (((List.zipWith (fun (r : Run) m => cntIn r.2 d m) rs (partsOf rs n)).take i).map natV).length < sizeLine := by
        rw [List.length_map, List.length_take, sizeLine_eq]
        omega
      refine ⟨T', _, rfl, .of upd_same, rfl, _, _, rfl, _, _, rfl, rfl, rfl, lcYes ?_⟩
      refine ⟨_, rfl, x', _, 1, _, rfl, rfl, hRa2, atI_nat (j := 1) rfl, _, rfl, _, rfl, rs[i].2, d, (partsOf rs n)[i], rfl, hok.1, hok.2, Nat.le_trans (partsOf_le rs n _ (List.getElem_mem hi2)) hn, fun H4 e4 => ?_⟩
      refine ⟨_, e4 _ _ ((upd_ne hDT).trans hp2.2), hzl, same_at hD (e3.trans e4), ?_⟩
      rw [upd_same, take_grow hz, List.map_append]
      rfl
    · have hfull : (List.zipWith (fun (r : Run) m => cntIn r.2 d m) rs (partsOf rs n)).take (xs.map V.ref).length = List.zipWith (fun (r : Run) m => cntIn r.2 d m) rs (partsOf rs n) :=
        List.take_of_length_le (by rw [List.length_zipWith, partsOf_len, hl]; omega)
      refine ⟨D, (List.zipWith (fun (r : Run) m => cntIn r.2 d m) rs (partsOf rs n)).map fun m => ((m : Nat) : Int), rfl, ?_, ?_⟩
      · have h2 := hp2.2
        rw [hfull] at h2
        rw [List.map_map]
        exact .of h2
      · show Q (.int _) H2
        rw [sum_cast]
        exact q _ (e1.trans hp2.1)

/-! ### has_in -/
abbrev sHasIn : Stmt := topS 24
theorem scHasIn : FnScope ["deal", "coins", "names", "runs", "number"] ["deal", "coins"] (defScope sHasIn) := ⟨rfl, rfl, rfl, by decide +kernel, rfl, by decide +kernel, by decide +kernel⟩
def spHasIn (K : PySem.W.Frag) : Sp := fun vs H Q _ => ∃ (a : Addr) (ns : List Str) (rs : List Run) (n : Nat), vs = [.ref a, .int n] ∧ DealAt K H a ns rs ∧ Good ns rs ∧ n ≤ 1000000 ∧ ∀ p H', Same H H' → H p = none → H' p = some (.tup ((hasOf rs ns.length n).map natV)) → Q (.ref p) H'
theorem ok_hasIn {f : Addr} {fd : FuncData} (F : Fun K "has_in" "has_in" sHasIn f fd) (T : Nm mg) (DB : Def P w K mg base 2 "count_by" ["runs", "figure", "coins"] (spCountBy K)) : FnOk P w K mg base CX0 3 f fd ["deal", "coins"] (spHasIn K) := by
  obtain ⟨tD, hDg⟩ := T.digits_
  refine F.ok scHasIn (fun vs H Q E h => ?_) (fun cdv A outer s H vs Q E hr h => ?_)
  · obtain ⟨_, _, _, _, rfl, _⟩ := h
    rfl
  · obtain ⟨a, ns, rs, n, rfl, hD, ok, hn, q⟩ := h
    obtain ⟨nm, r, hT, hN, hR⟩ := id hD
    refine ⟨_, pss_cons (ps_asg (pv 0) (pg_tup rfl (pgs_cons (pg_name (i := 2) scHasIn.nd rfl (.inl rfl)) (pgs_cons (pg_name (i := 3) scHasIn.nd rfl (.inr rfl)) pgs_nil))))
      (pss_one (ps_ret (pe_callTy call_tuple_of (by rfl) T.tuple_ b_tuple (pa_cons
        (pe_lc (own := [("number", 4)]) (g := gName 4) (tt := tYes) rfl scHasIn.nd (pi_range1 (by rfl) T.range_ (pa_cons (pe_callB call_len_seq (by rfl) T.len_ b_len (pa_cons (pv 2) pa_nil)) pa_nil)) (blkOk_by (N := ["deal", "coins", "names", "runs", "number"]) (sc := defScope sHasIn) (by decide +kernel))
          (fun _ _ _ _ _ => pg_name (i := 4) scHasIn.nd rfl (Or.inl rfl)) (fun _ _ _ _ _ => pts_nil)
          (fun _ _ _ _ _ => pe_d DB hr (by rfl) (pa_cons (pv 3) (pa_cons (pe_ix ix_str (pe_glob (by rfl) hDg rvS) (pv 4) (fun _ _ => rfl)) (pa_cons (pv 1) pa_nil))))) pa_nil)))), ?_⟩
    refine ⟨_, rfl, a, _, rfl, hT, rfl, _, _, rfl, _, _, rfl, rfl, ?_⟩
    have hl : (ns.map V.str).length = ns.length := List.length_map ..
    have h6 := ok.names.six
    refine ⟨_, rfl, nm, _, rfl, .inr hN.sq, ((ns.map V.str).length : Nat), rfl, by omega, by omega, fun D hDn => ?_⟩
    refine lc_it walk_range (fun i H2 => Same H H2 ∧ H2 D = some (.lst (((hasOf rs ns.length n).take i).map natV))) ⟨same_new hDn, upd_same⟩ (fun _ _ _ _ => True.intro) (fun i x H2 H3 hi hp2 hy => ?_) (fun H2 hp2 => ?_)
    · obtain ⟨rfl, rfl⟩ := hy
      have hi' : i < ns.length := by omega
      refine ⟨rfl, lcYes ?_⟩
      have hdg : atI digits.cps.toList (0 + (i : Int)) = some (i + 48) := by
        have h : ∀ j : Fin 6, atI digits.cps.toList (0 + ((j.val : Nat) : Int)) = some (j.val + 48) := by decide +kernel
        exact h ⟨i, by omega⟩
      have hz : (hasOf rs ns.length n)[i]? = some (cntBy rs i n) := by simp [hasOf, hi']
      have hzl : (((hasOf rs ns.length n).take i).map natV).length < sizeLine := by
        rw [List.length_map, List.length_take, sizeLine_eq]
        omega
      refine ⟨_, rfl, _, rfl, digits, _, _, rfl, rfl, by decide, hdg, _, rfl, r, rs, i, n, rfl, hR.same hp2.1, ok.runs.len, fun x hx => ⟨(ok.runs.figs x hx).ne, (ok.runs.figs x hx).len⟩, hn, fun H4 e4 => ?_⟩
      refine ⟨_, e4 _ _ hp2.2, hzl, same_at hDn (hp2.1.trans e4), ?_⟩
      rw [upd_same, take_grow hz, List.map_append]
      rfl
    · have hfull : (hasOf rs ns.length n).take (((ns.map V.str).length : Nat) : Int).toNat = hasOf rs ns.length n := List.take_of_length_le (by simp [hasOf])
      have h2 := hp2.2
      rw [hfull] at h2
      refine ⟨D, _, rfl, .inl ⟨.of h2, fun p hpn => ?_⟩⟩
      exact q p _ (hp2.1.trans (same_new hpn)) (hp2.1.free hpn) upd_same
end
end K3

namespace K3
open PySem PySem.Spec PyProof.Rows L2
theorem place_step {rs : List Run} {c : Nat} {z : List Nat} {left : Nat} (h : ¬ left < c) : place ((some c, z) :: rs) left = ((place rs (left - c)).1 + 1, (place rs (left - c)).2) := by
  simp [place, h]
theorem index_digit (c : Nat) (h : c < 10) : ∃ rest, Builtin.Str.occurrences digits ⟨#[c + 48]⟩ 0 digits.length 1 = c :: rest := by
  have e : ∀ j : Fin 10, Builtin.Str.occurrences digits ⟨#[j.val + 48]⟩ 0 digits.length 1 = [j.val] := by decide +kernel
  exact ⟨[], e ⟨c, h⟩⟩
theorem figS_get {f : List Nat} {i d : Nat} (h : f[i]? = some d) : atI (figS f).cps.toList (i : Int) = some (d + 48) := by
  refine atI_nat ?_
  have e2 : (figS f).cps.toList = f.map (· + 48) := by
    show ((f.map (· + 48)).toArray).toList = _
    simp
  rw [e2, List.getElem?_map, h]
  rfl
section
variable {P : Program} {w : World} {K : PySem.W.Frag} {mg : Str → Option Value} {base : Heap}
/-! ### place_in -/
abbrev sPlaceIn : Stmt := topS 25
theorem scPlaceIn : FnScope ["runs", "coin", "left", "number", "size", "figures"] ["runs", "coin"] (defScope sPlaceIn) := ⟨rfl, rfl, rfl, by decide +kernel, rfl, by decide +kernel, by decide +kernel⟩
def spPlaceIn (K : PySem.W.Frag) : Sp := fun vs H Q _ => ∃ (r : Addr) (rs : List Run) (k : Nat), vs = [.ref r, .int k] ∧ RunsAt K H r rs ∧ Ends rs ∧ ∀ p H', Same H H' → H p = none → H' p = some (.tup [natV (place rs k).1, natV (place rs k).2]) → Q (.ref p) H'
theorem ok_placeIn {f : Addr} {fd : FuncData} (F : Fun K "place_in" "place_in" sPlaceIn f fd) (T : Nm mg) : FnOk P w K mg base CX0 1 f fd ["runs", "coin"] (spPlaceIn K) := by
  refine F.ok scPlaceIn (fun vs H Q E h => ?_) (fun cdv A outer s H vs Q E hr h => ?_)
  · obtain ⟨_, _, _, rfl, _⟩ := h
    rfl
  · obtain ⟨r, rs, k, rfl, hR, hE, q⟩ := h
    obtain ⟨xs, hX, hxl, hxs⟩ := hR
    have hl : (xs.map V.ref).length = rs.length := by rw [List.length_map, hxl]
    refine ⟨_, pss_cons (ps_set (i := 2) scPlaceIn.nd rfl (.inl rfl) (pv 1))
      (pss_cons (ps_for PassesOwn.never rfl (pi_enumT (by rfl) T.enumerate_ (pa_cons (pv 0) pa_nil)) (pg_tup rfl (pgs_cons (pg_name (i := 3) scPlaceIn.nd rfl (.inl rfl)) (pgs_cons (pg_tup rfl (pgs_cons (pg_name (i := 4) scPlaceIn.nd rfl (.inl rfl)) (pgs_cons (pg_name (i := 5) scPlaceIn.nd rfl (.inl rfl)) pgs_nil))) pgs_nil)))
        (pss_cons (ps_if (PW.pt (pw_or (pt_cmp (pc_isN (pv 4))) (pw_or1 (pt_cmpR op_lt (pv 2) (pv 4) (nomark _))))) (pss_one (ps_ret (pe_tup (pa_cons (pv 3) (pa_cons (pv 2) pa_nil))))) pss_nil)
        (pss_one (ps_aug (i := 2) scPlaceIn.nd rfl (.inl rfl) (pv 4) ip_sub))))
      (pss_one (ps_ret pe_non))), ?_⟩
    refine ⟨_, rfl, _, rfl, r, _, rfl, hX, ?_⟩
    refine for_it walk_enumT (fun i σ H2 => Same H H2 ∧ ∃ (left : Nat) (y3 y4 y5 : Option V), σ = [some (.ref r), some (.int k), some (.int left), y3, y4, y5] ∧ Ends (rs.drop i) ∧ place rs k = ((place (rs.drop i) left).1 + i, (place (rs.drop i) left).2))
      ⟨.refl _, k, none, none, none, rfl, hE, rfl⟩ (fun i σ H2 _ hp => sqT_same hp.1 hX) (fun i x σ H2 H3 hi hp hy => ?_) (fun σ H2 hp => ?_)
    · obtain ⟨e2, left, y3, y4, y5, rfl, hEi, hpl⟩ := hp
      obtain ⟨T', x1, x2, rfl, hTn, rfl, g1, g2⟩ := hy
      dsimp only at g1 g2
      cases g1
      have hi' : i < rs.length := by omega
      obtain ⟨x', hx', hRa⟩ := hxs i rs[i] (List.getElem?_eq_getElem hi')
      have ex2 : x2 = .ref x' := by
        rw [List.getElem?_map, hx'] at g2
        exact (Option.some.inj g2).symm
      subst ex2
      have e3 : Same H (upd H2 T' (.tup [.int (i : Nat), .ref x'])) := e2.trans (same_new hTn)
      have hdr := drop_cons (List.getElem?_eq_getElem hi')
      have hRa2 := hRa.same e3
      rcases hrc : rs[i] with ⟨c, z⟩
      rw [hrc] at hRa2 hdr
      rw [hdr] at hEi hpl
      refine ⟨T', _, rfl, .of upd_same, rfl, _, _, rfl, _, _, rfl, ⟨x', _, rfl, hRa2, rfl, _, _, rfl, _, _, rfl, rfl, ?_⟩⟩
      have fin : ∀ p, upd H2 T' (.tup [.int (i : Nat), .ref x']) p = none → (place rs k) = (i, left) → Q (.ref p) (upd (upd H2 T' (.tup [.int (i : Nat), .ref x'])) p (.tup [.int (i : Nat), .int left])) := fun p hp e => by
        refine q p _ (e3.trans (same_new hp)) (e3.free hp) ?_
        rw [upd_same, e]
        rfl
      cases c with
      | none =>
        refine ⟨rfl, _, rfl, _, rfl, iteT (iteT ⟨_, rfl, _, rfl, by show 2 ≤ sizeLine; decide, fun p hp => fin p hp ?_⟩)⟩
        rw [hpl]
        simp [place]
      | some c =>
        by_cases hc : left < c
        · refine ⟨rfl, _, rfl, _, rfl, iteF ⟨_, rfl, _, rfl, _, _, rfl, rfl, true, blT (by omega), iteT ⟨_, rfl, _, rfl, by show 2 ≤ sizeLine; decide, fun p hp => fin p hp ?_⟩⟩⟩
          rw [hpl]
          simp [place, hc]
        · refine ⟨rfl, _, rfl, _, rfl, iteF ⟨_, rfl, _, rfl, _, _, rfl, rfl, false, blF (by omega), iteF ?_⟩⟩
          refine ⟨_, rfl, _, rfl, _, _, rfl, rfl, e3, left - c, some (.int (i : Nat)), some (.int (c : Nat)), some (.str (figS z)), ?_, hEi, ?_⟩
          · rw [Int.ofNat_sub (by omega)]
            rfl
          · rw [hpl, place_step hc, Nat.add_assoc, Nat.add_comm 1 i]
    · obtain ⟨e2, left, y3, y4, y5, rfl, hEi, hpl⟩ := hp
      rw [hl, List.drop_length] at hEi
      exact hEi.elim

/-! ### name_in -/
abbrev sNameIn : Stmt := topS 26
theorem scNameIn : FnScope ["deal", "coin", "names", "runs", "number", "left", "figures"] ["deal", "coin"] (defScope sNameIn) := ⟨rfl, rfl, rfl, by decide +kernel, rfl, by decide +kernel, by decide +kernel⟩
def nameOf (ns : List Str) (rs : List Run) (k : Nat) : Str := (ns[figAt rs k]?).getD Str.empty
def spNameIn (K : PySem.W.Frag) : Sp := fun vs H Q _ => ∃ (a : Addr) (ns : List Str) (rs : List Run) (k : Nat), vs = [.ref a, .int k] ∧ DealAt K H a ns rs ∧ Good ns rs ∧ ∀ H', Same H H' → Q (.str (nameOf ns rs k)) H'
theorem Good.fig {ns : List Str} {rs : List Run} (ok : Good ns rs) (k : Nat) : figAt rs k < ns.length :=
  fig_lt ok.runs.ends (fun r hr => ⟨(ok.runs.figs r hr).ne, (ok.runs.figs r hr).lt⟩) k
theorem Good.name {ns : List Str} {rs : List Run} (ok : Good ns rs) (k : Nat) : ns[figAt rs k]? = some (nameOf ns rs k) := by
  unfold nameOf
  rw [List.getElem?_eq_getElem (ok.fig k)]
  rfl
theorem ok_nameIn {f : Addr} {fd : FuncData} (F : Fun K "name_in" "name_in" sNameIn f fd) (T : Nm mg) (DP : Def P w K mg base 1 "place_in" ["runs", "coin"] (spPlaceIn K)) : FnOk P w K mg base CX0 2 f fd ["deal", "coin"] (spNameIn K) := by
  obtain ⟨tD, hDg⟩ := T.digits_
  refine F.ok scNameIn (fun vs H Q E h => ?_) (fun cdv A outer s H vs Q E hr h => ?_)
  · obtain ⟨_, _, _, _, rfl, _⟩ := h
    rfl
  · obtain ⟨a, ns, rs, k, rfl, hD, ok, q⟩ := h
    obtain ⟨nm, r, hT, hN, hR⟩ := id hD
    refine ⟨_, pss_cons (ps_asg (pv 0) (pg_tup rfl (pgs_cons (pg_name (i := 2) scNameIn.nd rfl (.inl rfl)) (pgs_cons (pg_name (i := 3) scNameIn.nd rfl (.inl rfl)) pgs_nil))))
      (pss_cons (ps_asg (pe_d DP hr (by rfl) (pa_cons (pv 3) (pa_cons (pv 1) pa_nil))) (pg_tup rfl (pgs_cons (pg_name (i := 4) scNameIn.nd rfl (.inl rfl)) (pgs_cons (pg_name (i := 5) scNameIn.nd rfl (.inl rfl)) pgs_nil))))
      (pss_cons (ps_set (i := 6) scNameIn.nd rfl (.inl rfl) (pe_ix ix_tup (pe_ix ix_tup (pv 3) (pv 4) (fun _ _ => rfl)) pe_int (fun _ _ => rfl)))
      (pss_one (ps_ret (pe_ix ix_tup (pv 2) (pe_bm PySem.F.plainAttrs_str PySem.F.slot_str_index PySem.F.type_str_index mt_sindex (pe_glob (by rfl) hDg rvS)
        (pa_cons (pe_ix ix_str (pv 6) (pe_op op_mod (pe_callTy call_int1 (by rfl) T.int_ b_int (pa_cons (pv 5) pa_nil)) (pe_callB call_len_str (by rfl) T.len_ b_len (pa_cons (pv 6) pa_nil))) (fun _ _ => rfl)) pa_nil)) (fun _ _ => rfl)))))), ?_⟩
    refine ⟨_, rfl, a, _, rfl, hT, rfl, _, _, rfl, _, _, rfl, rfl, ?_⟩
    refine ⟨_, rfl, _, rfl, r, rs, k, rfl, hR, ok.runs.ends, fun p H1 e1 hp hpt => ?_⟩
    refine ⟨p, _, rfl, .of hpt, rfl, _, _, rfl, _, _, rfl, rfl, ?_⟩
    obtain ⟨xs, hX, hxl, hxs⟩ := hR.same e1
    obtain ⟨c, z, hc, hfig⟩ := place_fig rs k ok.runs.ends
    obtain ⟨x, hx, hRa⟩ := hxs _ _ hc
    have hRa : SqT K H1 x [coinV c, .str (figS z)] := hRa
    have hxv : (xs.map V.ref)[(place rs k).1]? = some (.ref x) := by rw [List.getElem?_map, hx]; rfl
    have hok := ok.runs.figs _ (List.mem_of_getElem? hc)
    have h4 : z.length ≤ 400 := hok.len
    have h0 : 0 < z.length := List.length_pos_iff.mpr hok.ne
    have hm : (place rs k).2 % z.length < z.length := Nat.mod_lt _ h0
    have hzl : (figS z).length ≤ sizeLine := by rw [figS_len, sizeLine_eq]; omega
    have hd : z[(place rs k).2 % z.length]? = some (figAt rs k) := by
      rw [hfig, List.getD_eq_getElem?_getD, List.getElem?_eq_getElem hm]
      rfl
    have em : (((place rs k).2 : Nat) : Int) % ((figS z).length : Nat) = (((place rs k).2 % z.length : Nat) : Int) := by rw [figS_len]; rfl
    obtain ⟨rest, hix⟩ := index_digit (figAt rs k) (by have := ok.fig k; have := ok.names.six; omega)
    refine ⟨_, rfl, _, rfl, r, _, _, _, rfl, rfl, hX, atI_nat hxv, x, _, 1, _, rfl, rfl, hRa, atI_nat (j := 1) rfl, ?_⟩
    refine ⟨_, rfl, rfl, _, rfl, _, rfl, .inl ⟨_, rfl, _, rfl, _, rfl, hzl, _, _, rfl, rfl, by rw [figS_len]; omega, ?_⟩⟩
    refine ⟨_, _, _, rfl, rfl, hzl, by rw [em]; exact figS_get hd, _, _, _, _, rfl, rfl, hix, ?_⟩
    have hnm : (ns.map V.str)[figAt rs k]? = some (.str (nameOf ns rs k)) := by rw [List.getElem?_map, ok.name k]; rfl
    exact ⟨nm, _, _, _, rfl, rfl, sqT_same e1 hN.sq, atI_nat hnm, q _ e1⟩

/-! ### name_at -/
abbrev sNameAt : Stmt := topS 27
theorem scNameAt : FnScope ["deal", "coin"] ["deal", "coin"] (defScope sNameAt) := ⟨rfl, rfl, rfl, by decide +kernel, rfl, by decide +kernel, by decide +kernel⟩
def spNameAt (K : PySem.W.Frag) : Sp := fun vs H Q _ => ∃ (a : Addr) (ns : List Str) (rs : List Run) (k : Nat), vs = [.ref a, .int k] ∧ DealAt K H a ns rs ∧ Good ns rs ∧ k ≤ 1000000 ∧ ∀ H', Same H H' → Q (.str (nameOf ns rs k)) H'
theorem ok_nameAt {f : Addr} {fd : FuncData} (F : Fun K "name_at" "name_at" sNameAt f fd) (DD : Def P w K mg base 3 "need_deal" ["thing"] (spNeedDeal K)) (DN : Def P w K mg base 2 "need_number" ["thing"] spNeedNumber) (DI : Def P w K mg base 2 "name_in" ["deal", "coin"] (spNameIn K)) :
    FnOk P w K mg base CX0 4 f fd ["deal", "coin"] (spNameAt K) := by
  refine F.ok scNameAt (fun vs H Q E h => ?_) (fun cdv A outer s H vs Q E hr h => ?_)
  · obtain ⟨_, _, _, _, rfl, _⟩ := h
    rfl
  · obtain ⟨a, ns, rs, k, rfl, hD, ok, hk, q⟩ := h
    refine ⟨_, pss_cons (ps_expr (pe_d DD hr (by rfl) (pa_cons (pv 0) pa_nil))) (pss_one (ps_ret (pe_d DI (hr.mono (by decide)) (by rfl) (pa_cons (pv 0) (pa_cons (pe_d DN (hr.mono (by decide)) (by rfl) (pa_cons (pv 1) pa_nil)) pa_nil))))), ?_⟩
    refine ⟨_, rfl, a, ns, rs, rfl, hD, ok, fun H1 e1 => ?_⟩
    exact ⟨_, rfl, _, rfl, k, rfl, hk, a, ns, rs, k, rfl, hD.same e1, ok, fun H2 e2 => q _ (e1.trans e2)⟩

/-! ### run_at -/
abbrev sRunAt : Stmt := topS 31
theorem scRunAt : FnScope ["deal", "coin"] ["deal", "coin"] (defScope sRunAt) := ⟨rfl, rfl, rfl, by decide +kernel, rfl, by decide +kernel, by decide +kernel⟩
def spRunAt (K : PySem.W.Frag) : Sp := fun vs H Q _ => ∃ (a : Addr) (ns : List Str) (rs : List Run) (k : Nat), vs = [.ref a, .int k] ∧ DealAt K H a ns rs ∧ Good ns rs ∧ k ≤ 1000000 ∧ ∀ p H', Same H H' → H p = none → H' p = some (.tup [natV (place rs k).1, natV (place rs k).2]) → Q (.ref p) H'
theorem ok_runAt {f : Addr} {fd : FuncData} (F : Fun K "run_at" "run_at" sRunAt f fd) (DD : Def P w K mg base 3 "need_deal" ["thing"] (spNeedDeal K)) (DN : Def P w K mg base 2 "need_number" ["thing"] spNeedNumber) (DP : Def P w K mg base 1 "place_in" ["runs", "coin"] (spPlaceIn K)) :
    FnOk P w K mg base CX0 4 f fd ["deal", "coin"] (spRunAt K) := by
  refine F.ok scRunAt (fun vs H Q E h => ?_) (fun cdv A outer s H vs Q E hr h => ?_)
  · obtain ⟨_, _, _, _, rfl, _⟩ := h
    rfl
  · obtain ⟨a, ns, rs, k, rfl, hD, ok, hk, q⟩ := h
    refine ⟨_, pss_cons (ps_expr (pe_d DD hr (by rfl) (pa_cons (pv 0) pa_nil))) (pss_one (ps_ret (pe_d DP (hr.mono (by decide)) (by rfl) (pa_cons (pe_ix ix_tup (pv 0) pe_int (fun _ _ => rfl)) (pa_cons (pe_d DN (hr.mono (by decide)) (by rfl) (pa_cons (pv 1) pa_nil)) pa_nil))))), ?_⟩
    refine ⟨_, rfl, a, ns, rs, rfl, hD, ok, fun H1 e1 => ?_⟩
    obtain ⟨nm, r, hT, hN, hR⟩ := hD.same e1
    exact ⟨_, rfl, a, _, 1, _, rfl, rfl, hT, atI_nat (j := 1) rfl, _, rfl, k, rfl, hk, r, rs, k, rfl, hR, ok.runs.ends, fun p H2 e2 hp hpt => q p _ (e1.trans e2) (e1.free hp) hpt⟩

/-! ### has -/
abbrev sHas : Stmt := topS 29
theorem scHas : FnScope ["deal", "coins"] ["deal", "coins"] (defScope sHas) := ⟨rfl, rfl, rfl, by decide +kernel, rfl, by decide +kernel, by decide +kernel⟩
theorem ok_has {f : Addr} {fd : FuncData} (F : Fun K "has" "has" sHas f fd) (DD : Def P w K mg base 3 "need_deal" ["thing"] (spNeedDeal K)) (DN : Def P w K mg base 2 "need_number" ["thing"] spNeedNumber) (DH : Def P w K mg base 3 "has_in" ["deal", "coins"] (spHasIn K)) :
    FnOk P w K mg base CX0 4 f fd ["deal", "coins"] (spHasIn K) := by
  refine F.ok scHas (fun vs H Q E h => ?_) (fun cdv A outer s H vs Q E hr h => ?_)
  · obtain ⟨_, _, _, _, rfl, _⟩ := h
    rfl
  · obtain ⟨a, ns, rs, k, rfl, hD, ok, hk, q⟩ := h
    refine ⟨_, pss_cons (ps_expr (pe_d DD hr (by rfl) (pa_cons (pv 0) pa_nil))) (pss_one (ps_ret (pe_d DH hr (by rfl) (pa_cons (pv 0) (pa_cons (pe_d DN (hr.mono (by decide)) (by rfl) (pa_cons (pv 1) pa_nil)) pa_nil))))), ?_⟩
    refine ⟨_, rfl, a, ns, rs, rfl, hD, ok, fun H1 e1 => ?_⟩
    exact ⟨_, rfl, _, rfl, k, rfl, hk, a, ns, rs, k, rfl, hD.same e1, ok, hk, fun p H2 e2 hp hpt => q p _ (e1.trans e2) (e1.free hp) hpt⟩
end
end K3

namespace K3
open PySem PySem.Spec PyProof.Rows L2
section
variable {P : Program} {w : World} {K : PySem.W.Frag} {mg : Str → Option Value} {base : Heap}
/-! ### row_part -/
abbrev sRowPart : Stmt := topS 28
theorem scRowPart : FnScope ["deal", "begin", "size", "place"] ["deal", "begin", "size"] (defScope sRowPart) := ⟨rfl, rfl, rfl, by decide +kernel, rfl, by decide +kernel, by decide +kernel⟩
def rowOf (ns : List Str) (rs : List Run) (b n : Nat) : List Str := (List.range n).map fun j => nameOf ns rs (b + j)
theorem rowOf_len (ns : List Str) (rs : List Run) (b n : Nat) : (rowOf ns rs b n).length = n := by simp [rowOf]
def spRowPart (K : PySem.W.Frag) : Sp := fun vs H Q _ => ∃ (a : Addr) (ns : List Str) (rs : List Run) (b n : Nat), vs = [.ref a, .int b, .int n] ∧ DealAt K H a ns rs ∧ Good ns rs ∧ b ≤ 1000 ∧ n ≤ 1000 ∧ ∀ p H', Same H H' → H p = none → H' p = some (.tup ((rowOf ns rs b n).map .str)) → Q (.ref p) H'
theorem ok_rowPart {f : Addr} {fd : FuncData} (F : Fun K "row_part" "row_part" sRowPart f fd) (T : Nm mg) (DD : Def P w K mg base 3 "need_deal" ["thing"] (spNeedDeal K)) (DN : Def P w K mg base 2 "need_number" ["thing"] spNeedNumber)
    (DW : Def P w K mg base 1 "is_whole" ["thing", "least", "most"] spIsWhole) (DI : Def P w K mg base 2 "name_in" ["deal", "coin"] (spNameIn K)) : FnOk P w K mg base CX0 4 f fd ["deal", "begin", "size"] (spRowPart K) := by
  obtain ⟨tS, hS⟩ := T.cRow
  refine F.ok scRowPart (fun vs H Q E h => ?_) (fun cdv A outer s H vs Q E hr h => ?_)
  · obtain ⟨_, _, _, _, _, rfl, _⟩ := h
    rfl
  · obtain ⟨a, ns, rs, b, n, rfl, hD, ok, hb, hn, q⟩ := h
    have hr2 := hr.mono (show 2 ≤ 3 by decide)
    refine ⟨_, pss_cons (ps_expr (pe_d DD hr (by rfl) (pa_cons (pv 0) pa_nil))) (pss_cons (ps_expr (pe_d DN hr2 (by rfl) (pa_cons (pv 1) pa_nil)))
      (pss_cons (ps_if (pt_not (pt_val (pe_d DW (hr.mono (by decide)) (by rfl) (pa_cons (pv 2) (pa_cons pe_int (pa_cons (pe_glob (by rfl) hS rvI) pa_nil)))))) pss_never pss_nil)
      (pss_one (ps_ret (pe_callTy call_tuple_of (by rfl) T.tuple_ b_tuple (pa_cons
        (pe_lc (own := [("place", 3)]) (g := gName 3) (tt := tYes) rfl scRowPart.nd (pi_range1 (by rfl) T.range_ (pa_cons (pv 2) pa_nil)) (blkOk_by (N := ["deal", "begin", "size", "place"]) (sc := defScope sRowPart) (by decide +kernel))
          (fun _ _ _ _ _ => pg_name (i := 3) scRowPart.nd rfl (Or.inl rfl)) (fun _ _ _ _ _ => pts_nil)
          (fun _ _ _ _ _ => pe_d DI hr2 (by rfl) (pa_cons (pv 0) (pa_cons (pe_op op_add (pv 1) (pv 3)) pa_nil)))) pa_nil)))))), ?_⟩
    refine ⟨_, rfl, a, ns, rs, rfl, hD, ok, fun H1 e1 => ?_⟩
    refine ⟨_, rfl, b, rfl, by omega, ?_⟩
    refine ⟨_, rfl, n, 0, 1000, rfl, by omega, by omega, true, rfl, iteF ?_⟩
    refine ⟨_, rfl, (n : Nat), rfl, by omega, by omega, fun D hDn => ?_⟩
    refine lc_it walk_range (fun i H2 => Same H1 H2 ∧ H2 D = some (.lst (((rowOf ns rs b n).take i).map .str))) ⟨same_new hDn, upd_same⟩ (fun _ _ _ _ => True.intro) (fun i x H2 H3 hi hp2 hy => ?_) (fun H2 hp2 => ?_)
    · obtain ⟨rfl, rfl⟩ := hy
      have hi' : i < n := by omega
      refine ⟨rfl, lcYes ?_⟩
      have hz : (rowOf ns rs b n)[i]? = some (nameOf ns rs (b + i)) := by simp [rowOf, hi']
      have hzl : (((rowOf ns rs b n).take i).map V.str).length < sizeLine := by
        rw [List.length_map, List.length_take, sizeLine_eq]
        omega
      refine ⟨_, rfl, _, rfl, _, rfl, _, _, rfl, rfl, a, ns, rs, b + i, ?_, (hD.same e1).same hp2.1, ok, fun H4 e4 => ?_⟩
      · have e : (b : Int) + (0 + (i : Int)) = ((b + i : Nat) : Int) := by omega
        show [V.ref a, V.int ((b : Int) + (0 + (i : Int)))] = _
        rw [e]
      · refine ⟨_, e4 _ _ hp2.2, hzl, same_at hDn (hp2.1.trans e4), ?_⟩
        rw [upd_same, take_grow hz, List.map_append]
        rfl
    · have hfull : (rowOf ns rs b n).take ((n : Nat) : Int).toNat = rowOf ns rs b n := List.take_of_length_le (by simp [rowOf])
      have h2 := hp2.2
      rw [hfull] at h2
      refine ⟨D, _, rfl, .inl ⟨.of h2, fun p hpn => ?_⟩⟩
      exact q p _ ((e1.trans hp2.1).trans (same_new hpn)) (e1.free (hp2.1.free hpn)) upd_same

/-! ### gets -/
abbrev sGets : Stmt := topS 30
theorem scGets : FnScope ["deal", "behind", "coins", "one", "more"] ["deal", "behind", "coins"] (defScope sGets) := ⟨rfl, rfl, rfl, by decide +kernel, rfl, by decide +kernel, by decide +kernel⟩
/-- what stands more in one than in the other -/
def lessOf (l m : List Nat) : List Int := List.zipWith (fun x y : Nat => (y : Int) - x) l m
theorem lessOf_len {l m : List Nat} (h : l.length = m.length) : (lessOf l m).length = l.length := by simp [lessOf, h]
def getsOf (rs : List Run) (t b c : Nat) : List Int := lessOf (hasOf rs t b) (hasOf rs t (b + c))
theorem hasOf_len (rs : List Run) (t b : Nat) : (hasOf rs t b).length = t := by simp [hasOf]
def spGets (K : PySem.W.Frag) : Sp := fun vs H Q _ => ∃ (a : Addr) (ns : List Str) (rs : List Run) (b c : Nat), vs = [.ref a, .int b, .int c] ∧ DealAt K H a ns rs ∧ Good ns rs ∧ b ≤ 1000 ∧ c ≤ 1000 ∧ ∀ p H', Same H H' → H p = none → H' p = some (.tup ((getsOf rs ns.length b c).map .int)) → Q (.ref p) H'
theorem ok_gets {f : Addr} {fd : FuncData} (F : Fun K "gets" "gets" sGets f fd) (T : Nm mg) (DD : Def P w K mg base 3 "need_deal" ["thing"] (spNeedDeal K)) (DN : Def P w K mg base 2 "need_number" ["thing"] spNeedNumber) (DH : Def P w K mg base 3 "has_in" ["deal", "coins"] (spHasIn K)) :
    FnOk P w K mg base CX0 4 f fd ["deal", "behind", "coins"] (spGets K) := by
  refine F.ok scGets (fun vs H Q E h => ?_) (fun cdv A outer s H vs Q E hr h => ?_)
  · obtain ⟨_, _, _, _, _, rfl, _⟩ := h
    rfl
  · obtain ⟨a, ns, rs, b, c, rfl, hD, ok, hb, hc, q⟩ := h
    have hr2 := hr.mono (show 2 ≤ 3 by decide)
    refine ⟨_, pss_cons (ps_expr (pe_d DD hr (by rfl) (pa_cons (pv 0) pa_nil))) (pss_cons (ps_expr (pe_d DN hr2 (by rfl) (pa_cons (pv 1) pa_nil))) (pss_cons (ps_expr (pe_d DN hr2 (by rfl) (pa_cons (pv 2) pa_nil)))
      (pss_one (ps_ret (pe_callTy call_tuple_of (by rfl) T.tuple_ b_tuple (pa_cons
        (pe_lc (own := [("one", 3), ("more", 4)]) (g := gTup K 2 (gCons (gName 3) (gCons (gName 4) gNil))) (tt := tYes) rfl scGets.nd (RZ.pi_zipA (by rfl) T.zip_ (pa_cons (pe_d DH hr (by rfl) (pa_cons (pv 0) (pa_cons (pv 1) pa_nil))) (pa_cons (pe_d DH hr (by rfl) (pa_cons (pv 0) (pa_cons (pe_op op_add (pv 1) (pv 2)) pa_nil))) pa_nil)))
          (blkOk_by (N := ["deal", "behind", "coins", "one", "more"]) (sc := defScope sGets) (by decide +kernel))
          (fun _ _ _ _ _ => pg_tup rfl (pgs_cons (pg_name (i := 3) scGets.nd rfl (Or.inl rfl)) (pgs_cons (pg_name (i := 4) scGets.nd rfl (Or.inl rfl)) pgs_nil))) (fun _ _ _ _ _ => pts_nil)
          (fun _ _ _ _ _ => pe_op op_sub (pv 4) (pv 3))) pa_nil)))))), ?_⟩
    refine ⟨_, rfl, a, ns, rs, rfl, hD, ok, fun H1 e1 => ?_⟩
    refine ⟨_, rfl, b, rfl, by omega, ⟨_, rfl, c, rfl, by omega, ?_⟩⟩
    refine ⟨_, rfl, _, rfl, a, ns, rs, b, rfl, hD.same e1, ok, by omega, fun p1 H2 e2 hp1 ht1 => ?_⟩
    refine ⟨_, rfl, _, rfl, _, rfl, _, _, rfl, rfl, a, ns, rs, b + c, ?_, (hD.same e1).same e2, ok, by omega, fun p2 H3 e3 hp2 ht2 => ?_⟩
    · have e : (b : Int) + (c : Int) = ((b + c : Nat) : Int) := by omega
      show [V.ref a, V.int ((b : Int) + (c : Int))] = _
      rw [e]
    · have hl1 : ((hasOf rs ns.length b).map natV).length = ns.length := by rw [List.length_map, hasOf_len]
      have hl2 : ((hasOf rs ns.length (b + c)).map natV).length = ns.length := by rw [List.length_map, hasOf_len]
      have h6 := ok.names.six
      refine ⟨p1, p2, _, _, rfl, .inr ⟨.of (e3 _ _ ht1), .of ht2, fun D hDn => ?_⟩⟩
      refine lc_it (walk_zipT (n := ns.length) (by rw [hl1, hl2]; omega)) (fun i H4 => Same H3 H4 ∧ H4 D = some (.lst (((getsOf rs ns.length b c).take i).map .int))) ⟨same_new hDn, upd_same⟩
        (fun i H4 _ hp4 => ⟨.of (hp4.1 _ _ (e3 _ _ ht1)), .of (hp4.1 _ _ ht2)⟩) (fun i x H4 H5 hi hp4 hy => ?_) (fun H4 hp4 => ?_)
      · obtain ⟨T', x1, x2, rfl, hTn, rfl, g1, g2⟩ := hy
        dsimp only at g1 g2
        have z1 : (hasOf rs ns.length b)[i]? = some (cntBy rs i b) := by simp [hasOf, hi]
        have z2 : (hasOf rs ns.length (b + c))[i]? = some (cntBy rs i (b + c)) := by simp [hasOf, hi]
        have ex1 : x1 = natV (cntBy rs i b) := by
          rw [List.getElem?_map, z1] at g1
          exact (Option.some.inj g1).symm
        have ex2 : x2 = natV (cntBy rs i (b + c)) := by
          rw [List.getElem?_map, z2] at g2
          exact (Option.some.inj g2).symm
        subst ex1 ex2
        have hDT : D ≠ T' := ne_of_none hp4.2 hTn
        have hz : (getsOf rs ns.length b c)[i]? = some ((cntBy rs i (b + c) : Int) - cntBy rs i b) := by
          unfold getsOf lessOf
          rw [List.getElem?_zipWith, z1, z2]
        have hzl : (((getsOf rs ns.length b c).take i).map V.int).length < sizeLine := by
          rw [List.length_map, List.length_take, sizeLine_eq]
          omega
        refine ⟨T', _, rfl, .of upd_same, rfl, _, _, rfl, _, _, rfl, rfl, rfl, lcYes ?_⟩
        refine ⟨_, rfl, _, rfl, _, _, rfl, rfl, _, (upd_ne hDT).trans hp4.2, hzl, same_at hDn (hp4.1.trans (same_new hTn)), ?_⟩
        rw [upd_same, take_grow hz, List.map_append]
        rfl
      · have hfull : (getsOf rs ns.length b c).take ns.length = getsOf rs ns.length b c := List.take_of_length_le (by unfold getsOf; rw [lessOf_len (by rw [hasOf_len, hasOf_len]), hasOf_len]; omega)
        have h2 := hp4.2
        rw [hfull] at h2
        refine ⟨D, _, rfl, .inl ⟨.of h2, fun p hpn => ?_⟩⟩
        exact q p _ ((((e1.trans e2).trans e3).trans hp4.1).trans (same_new hpn)) (e1.free (e2.free (e3.free (hp4.1.free hpn)))) upd_same
end
end K3

namespace K3
open PySem PySem.Spec PyProof.Rows L2
/-! ### the state of the draws -/
def stK (cl : Addr) (left spot : Int) : List (L2.Key × V) := [(.inr "cells", .ref cl), (.inr "left", .int left), (.inr "spot", .int spot)]
theorem kCL : ¬ (Sum.inr ("cells" : Str) : L2.Key) = Sum.inr ("left" : Str) := by decide +kernel
theorem kCS : ¬ (Sum.inr ("cells" : Str) : L2.Key) = Sum.inr ("spot" : Str) := by decide +kernel
theorem kLC : ¬ (Sum.inr ("left" : Str) : L2.Key) = Sum.inr ("cells" : Str) := by decide +kernel
theorem kLS : ¬ (Sum.inr ("left" : Str) : L2.Key) = Sum.inr ("spot" : Str) := by decide +kernel
theorem kSL : ¬ (Sum.inr ("spot" : Str) : L2.Key) = Sum.inr ("left" : Str) := by decide +kernel
theorem kSC : ¬ (Sum.inr ("spot" : Str) : L2.Key) = Sum.inr ("cells" : Str) := by decide +kernel
theorem tCL : ¬ ("cells" : Str) = "left" := by decide +kernel
theorem tCS : ¬ ("cells" : Str) = "spot" := by decide +kernel
theorem tSL : ¬ ("spot" : Str) = "left" := by decide +kernel
theorem tLS : ¬ ("left" : Str) = "spot" := by decide +kernel
section
variable {H : Hp} {m cl : Addr} {left spot : Int}
theorem get_cells (h : H m = some (.dK (stK cl left spot))) : DGet H m (.str "cells") (some (.ref cl)) := .inl ⟨_, .inr "cells", .inl h, rfl, by unfold stK; rw [valV_pos rfl]⟩
theorem get_left (h : H m = some (.dK (stK cl left spot))) : DGet H m (.str "left") (some (.int left)) := .inl ⟨_, .inr "left", .inl h, rfl, by unfold stK; rw [valV_neg kCL, valV_pos rfl]⟩
theorem get_spot (h : H m = some (.dK (stK cl left spot))) : DGet H m (.str "spot") (some (.int spot)) := .inl ⟨_, .inr "spot", .inl h, rfl, by unfold stK; rw [valV_neg kCS, valV_neg kLS, valV_pos rfl]⟩
theorem put_left (l : Int) : putK (stK cl left spot) (.inr "left") (.int l) = stK cl l spot := by
  unfold putK stK
  simp [tCL, tSL]
theorem put_spot (l : Int) : putK (stK cl left spot) (.inr "spot") (.int l) = stK cl left l := by
  unfold putK stK
  simp [tCS, tLS]
theorem dput_left {l : Int} (h : H m = some (.dK (stK cl left spot))) : DPut H m (.str "left") (.int l) (upd H m (.dK (stK cl l spot))) := .inl ⟨_, .inr "left", h, rfl, (show 3 < sizeLine by decide), by rw [put_left]⟩
theorem dput_spot {l : Int} (h : H m = some (.dK (stK cl left spot))) : DPut H m (.str "spot") (.int l) (upd H m (.dK (stK cl left l))) := .inl ⟨_, .inr "spot", h, rfl, (show 3 < sizeLine by decide), by rw [put_spot]⟩
end
/-- the draws' state: its counter is at most B -/
def MSt (H : Hp) (m : Addr) (B : Nat) : Prop := ∃ (cl : Addr) (cs : List Int) (left spot : Int), H m = some (.dK (stK cl left spot)) ∧ H cl = some (.lst (cs.map .int)) ∧ cs ≠ [] ∧ cs.length ≤ 64 ∧ 0 ≤ spot ∧ spot ≤ B
/-- all that was tracked but m is as it was -/
def SameX (m : Addr) (H H' : Hp) : Prop := ∀ b o, b ≠ m → H b = some o → H' b = some o
theorem SameX.refl (m : Addr) (H : Hp) : SameX m H H := fun _ _ _ h => h
theorem SameX.trans {m : Addr} {H H1 H2 : Hp} (a : SameX m H H1) (b : SameX m H1 H2) : SameX m H H2 := fun c o n h => b c o n (a c o n h)
theorem SameX.of {m : Addr} {H H1 : Hp} (a : Same H H1) : SameX m H H1 := fun c o _ h => a c o h
theorem SameX.put {m : Addr} {H : Hp} {o : HO} : SameX m H (upd H m o) := fun c x n h => by rw [upd_ne n]; exact h
theorem SameX.new {m p : Addr} {H : Hp} {o : HO} (h : H p = none) : SameX m H (upd H p o) := .of (same_new h)
theorem sameX_at {m D : Addr} {H H3 : Hp} {o : HO} (hD : H D = none) (s : SameX m H H3) : SameX m H (upd H3 D o) := fun b x n e => by
  rw [upd_ne (ne_of_none e hD)]
  exact s b x n e
theorem MSt.mono {H : Hp} {m : Addr} {B C : Nat} (h : MSt H m B) (hB : B ≤ C) : MSt H m C := let ⟨cl, cs, l, s, h1, h2, h3, h4, h5, h6⟩ := h; ⟨cl, cs, l, s, h1, h2, h3, h4, h5, by omega⟩
theorem MSt.same {H H' : Hp} {m : Addr} {B : Nat} (e : Same H H') (h : MSt H m B) : MSt H' m B := let ⟨cl, cs, l, s, h1, h2, h3⟩ := h; ⟨cl, cs, l, s, e _ _ h1, e _ _ h2, h3⟩
theorem MSt.dict {H : Hp} {m : Addr} {B : Nat} (h : MSt H m B) : ∃ kvs, H m = some (.dK kvs) := let ⟨_, _, _, _, h1, _⟩ := h; ⟨_, h1⟩
theorem dict_ne {H : Hp} {m b : Addr} {o : HO} {kvs : List (L2.Key × V)} (h : H m = some (.dK kvs)) (h' : H b = some o) (d : ∀ k, o ≠ .dK k) : b ≠ m := ne_of h' h (d _)
theorem MSt.ne {H : Hp} {m b : Addr} {B : Nat} {o : HO} (h : MSt H m B) (h' : H b = some o) (d : ∀ k, o ≠ .dK k) : b ≠ m := let ⟨_, hk⟩ := h.dict; dict_ne hk h' d
theorem MSt.free {H H' : Hp} {m b : Addr} {B : Nat} (h : MSt H m B) (e : SameX m H H') (h2 : MSt H' m B) (n : H' b = none) : H b = none := by
  cases q : H b with
  | none => rfl
  | some o =>
    by_cases hb : b = m
    · subst hb
      obtain ⟨k, hk⟩ := h2.dict
      rw [hk] at n
      cases n
    · rw [e b o hb q] at n
      cases n
theorem mst_upd {H : Hp} {m cl : Addr} {cs : List Int} {left spot : Int} {B : Nat} (h : H cl = some (.lst (cs.map .int))) (n : cl ≠ m) (h1 : cs ≠ []) (h2 : cs.length ≤ 64) (h3 : 0 ≤ spot) (h4 : spot ≤ B) : MSt (upd H m (.dK (stK cl left spot))) m B :=
  ⟨cl, cs, left, spot, upd_same, by rw [upd_ne n]; exact h, h1, h2, h3, h4⟩
section
variable {P : Program} {w : World} {K : PySem.W.Frag} {mg : Str → Option Value} {base : Heap}
/-! ### _law_draw -/
abbrev sDraw : Stmt := topS 34
theorem scDraw : FnScope ["_law_m", "_law_many", "_law_found", "_law_spot", "_law_cell", "_law_mixed"] ["_law_m", "_law_many"] (defScope sDraw) := ⟨rfl, rfl, rfl, by decide +kernel, rfl, by decide +kernel, by decide +kernel⟩
def spDraw : Sp := fun vs H Q _ => ∃ (m : Addr) (many B : Nat), vs = [.ref m, .int many] ∧ 1 ≤ many ∧ many ≤ 1000 ∧ B ≤ 1000000 ∧ MSt H m B ∧ ∀ (r : Nat) H', SameX m H H' → MSt H' m (B + 1) → r < many → Q (.int r) H'
theorem ok_draw {f : Addr} {fd : FuncData} (F : Fun K "_law_draw" "_law_draw" sDraw f fd) (T : Nm mg) : FnOk P w K mg base CX0 1 f fd ["_law_m", "_law_many"] spDraw := by
  refine F.ok scDraw (fun vs H Q E h => ?_) (fun cdv A outer s H vs Q E hr h => ?_)
  · obtain ⟨_, _, _, rfl, _⟩ := h
    rfl
  · obtain ⟨m, many, B, rfl, h1, h1000, hB, hM, q⟩ := h
    obtain ⟨cl, cs, left, spot, hm, hcl, hne, hlen, hs0, hsB⟩ := id hM
    have hu := hu_of hr
    have hclm : cl ≠ m := dict_ne hm hcl fun k e => nomatch e
    refine ⟨_, pss_cons (ps_if (pt_cmpR op_gt (pe_dget hu (pv 0) pe_str (fun _ _ => rfl)) pe_int (nomark _))
        (pss_cons (ps_set (i := 2) scDraw.nd rfl (.inl rfl) (pe_op op_mod (pe_callTy call_int1 (by rfl) T.int_ b_int (pa_cons (pe_dget hu (pv 0) pe_str (fun _ _ => rfl)) pa_nil)) (pv 1)))
        (pss_cons (ps_dput hu (pv 0) pe_str (pe_op op_fdiv (pe_dget hu (pv 0) pe_str (fun _ _ => rfl)) (pv 1)) rfl)
        (pss_one (ps_ret (pv 2))))) pss_nil)
      (pss_cons (ps_set (i := 3) scDraw.nd rfl (.inl rfl) (pe_op op_add (pe_dget hu (pv 0) pe_str (fun _ _ => rfl)) pe_int))
      (pss_cons (ps_dput hu (pv 0) pe_str (pv 3) rfl)
      (pss_cons (ps_set (i := 4) scDraw.nd rfl (.inl rfl) (pe_ix ix_list (pe_dget hu (pv 0) pe_str (fun _ _ => rfl)) (pe_op op_mod (pe_callTy call_int1 (by rfl) T.int_ b_int (pa_cons (pv 3) pa_nil)) (pe_callB call_len_seq (by rfl) T.len_ b_len (pa_cons (pe_dget hu (pv 0) pe_str (fun _ _ => rfl)) pa_nil))) (fun _ _ => rfl)))
      (pss_cons (ps_set (i := 5) scDraw.nd rfl (.inl rfl) (pe_op op_mul (pe_callTy call_int1 (by rfl) T.int_ b_int (pa_cons (pe_op op_add (pe_op op_add (pe_op op_mod (pe_callTy call_int1 (by rfl) T.int_ b_int (pa_cons (pv 4) pa_nil)) pe_int) (pe_op op_mul pe_int (pv 3))) (pe_op op_mul (pe_op op_mul pe_int (pv 3)) (pv 3))) pa_nil)) pe_int))
      (pss_cons (ps_set (i := 5) scDraw.nd rfl (.inl rfl) (pe_op op_mul (pe_callTy call_int1 (by rfl) T.int_ b_int (pa_cons (pe_op op_add (pe_op op_mod (pe_callTy call_int1 (by rfl) T.int_ b_int (pa_cons (pv 5) pa_nil)) pe_int) (pe_op op_mul pe_int (pv 3))) pa_nil)) pe_int))
      (pss_one (ps_ret (pe_op op_mod (pe_callTy call_int1 (by rfl) T.int_ b_int (pa_cons (pe_op op_fdiv (pe_op op_mod (pe_callTy call_int1 (by rfl) T.int_ b_int (pa_cons (pv 5) pa_nil)) pe_int) pe_int) pa_nil)) (pv 1))))))))), ?_⟩
    have fin : ∀ (l sp x : Int), 0 ≤ sp → sp ≤ ((B + 1 : Nat) : Int) → Q (.int (x % (many : Int))) (upd H m (.dK (stK cl l sp))) := fun l sp x h0 hs => by
      have e0 : 0 ≤ x % (many : Int) := Int.emod_nonneg _ (by omega)
      have e1 : x % (many : Int) < many := Int.emod_lt_of_pos _ (by omega)
      have e2 : ((x % (many : Int)).toNat : Int) = x % (many : Int) := Int.toNat_of_nonneg e0
      have f := q (x % (many : Int)).toNat (upd H m (.dK (stK cl l sp))) .put (mst_upd hcl hclm hne hlen h0 hs) (by omega)
      rw [e2] at f
      exact f
    refine ⟨_, rfl, m, _, rfl, get_left hm, _, _, rfl, rfl, _, rfl, ite2 (fun c => ?_) (fun c => ?_)⟩
    · refine ⟨_, rfl, m, _, rfl, get_left hm, .inl ⟨_, rfl, _, rfl, _, _, rfl, rfl, by omega, ?_⟩⟩
      refine ⟨_, rfl, m, _, rfl, get_left hm, _, rfl, _, _, rfl, rfl, ⟨by omega, by omega⟩, ?_⟩
      refine ⟨_, rfl, m, _, rfl, dput_left hm, _, rfl, ?_⟩
      exact fin _ _ _ hs0 (by omega)
    · refine ⟨_, rfl, m, _, rfl, get_spot hm, _, _, rfl, rfl, ?_⟩
      refine ⟨_, rfl, _, rfl, m, _, rfl, dput_spot hm, ?_⟩
      have hm1 : upd H m (.dK (stK cl left (spot + 1))) m = some (.dK (stK cl left (spot + 1))) := upd_same
      have hcl1 : upd H m (.dK (stK cl left (spot + 1))) cl = some (.lst (cs.map .int)) := by rw [upd_ne hclm]; exact hcl
      have hlp : 0 < cs.length := List.length_pos_iff.mpr hne
      have hl : (cs.map V.int).length = cs.length := List.length_map ..
      have b0 : 0 ≤ (spot + 1) % ((cs.map V.int).length : Int) := Int.emod_nonneg _ (by omega)
      have b1 : (spot + 1) % ((cs.map V.int).length : Int) < (cs.map V.int).length := Int.emod_lt_of_pos _ (by omega)
      obtain ⟨j, hj⟩ : ∃ j : Nat, (spot + 1) % ((cs.map V.int).length : Int) = j := ⟨_, (Int.toNat_of_nonneg b0).symm⟩
      have hjl : j < cs.length := by omega
      have hat : (cs.map V.int)[j]? = some (.int cs[j]) := by rw [List.getElem?_map, List.getElem?_eq_getElem hjl]; rfl
      refine ⟨_, rfl, m, _, rfl, get_cells hm1, _, rfl, .inl ⟨_, rfl, _, rfl, m, _, rfl, get_cells hm1, cl, _, rfl, .inl (.of hcl1), _, _, rfl, rfl, by omega, ?_⟩⟩
      refine ⟨cl, _, _, _, rfl, rfl, .of hcl1, by rw [hj]; exact atI_nat hat, ?_⟩
      refine ⟨_, rfl, .inl ⟨_, rfl, _, _, rfl, rfl, by omega, _, rfl, _, _, rfl, rfl, .inl ⟨by omega, by omega⟩, _, _, rfl, rfl, _, rfl, _, _, rfl, rfl, .inl ⟨by omega, by omega⟩, _, rfl, _, _, rfl, rfl, .inr ⟨by omega, by omega⟩, _, _, rfl, rfl, .inl ⟨_, rfl, _, _, rfl, rfl, .inr ⟨by omega, by omega⟩, ?_⟩⟩⟩
      refine ⟨_, rfl, .inl ⟨_, rfl, _, _, rfl, rfl, by omega, _, rfl, _, _, rfl, rfl, .inl ⟨by omega, by omega⟩, _, _, rfl, rfl, .inl ⟨_, rfl, _, _, rfl, rfl, .inr ⟨by omega, by omega⟩, ?_⟩⟩⟩
      refine ⟨_, rfl, .inl ⟨_, rfl, _, _, rfl, rfl, by omega, _, _, rfl, rfl, ⟨by omega, by omega⟩, .inl ⟨_, rfl, _, rfl, _, _, rfl, rfl, by omega, ?_⟩⟩⟩
      exact fin _ _ _ (by omega) (by omega)
end
end K3

namespace K3
open PySem PySem.Spec PyProof.Rows L2
theorem dpInts {K : PySem.W.Frag} {H : Hp} : ∀ ns : List Int, DpAll K H (ns.map V.int) (ns.map PyData.int)
  | [] => .nil
  | n :: r => .cons (.int n) (dpInts r)
theorem eqv_nil (ns : List Int) : PyData.eqv (.list (ns.map PyData.int)) (.list []) = decide (ns = []) := by
  cases ns <;> simp [PyData.eqv, PyData.eqvAll]
theorem merge_st {cl : Addr} {left : Int} : mergeK [] [(.inr "cells", .ref cl), (.inr "left", .int left), (.inr "spot", .int 0)] = stK cl left 0 := by
  unfold mergeK stK
  simp [putK, tCL, tCS, tLS, tSL]
section
variable {P : Program} {w : World} {K : PySem.W.Frag} {mg : Str → Option Value} {base : Heap}
/-! ### _law_begun -/
abbrev sBegun : Stmt := topS 33
theorem scBegun : FnScope ["_law_script", "_law_great", "_law_cell"] ["_law_script"] (defScope sBegun) := ⟨rfl, rfl, rfl, by decide +kernel, rfl, by decide +kernel, by decide +kernel⟩
def spBegun (K : PySem.W.Frag) : Sp := fun vs H Q _ => ∃ (a : Addr) (cs : List Int), vs = [.ref a] ∧ SqL K H a (cs.map .int) ∧ cs.length ≤ 63 ∧ ∀ m H', Same H H' → MSt H' m 0 → Q (.ref m) H'
theorem sqL_same {K : PySem.W.Frag} {H H' : Hp} {a : Addr} {xs : List V} (e : Same H H') (h : SqL K H a xs) : SqL K H' a xs := by
  rcases h with (h | ⟨o, h⟩) | h
  · exact .inl (.inl (e _ _ h))
  · exact .inl (.inr ⟨o, e _ _ h⟩)
  · exact .inr h
theorem ok_begun {f : Addr} {fd : FuncData} (F : Fun K "_law_begun" "_law_begun" sBegun f fd) (T : Nm mg) : FnOk P w K mg base CX0 1 f fd ["_law_script"] (spBegun K) := by
  refine F.ok scBegun (fun vs H Q E h => ?_) (fun cdv A outer s H vs Q E hr h => ?_)
  · obtain ⟨_, _, rfl, _⟩ := h
    rfl
  · obtain ⟨a, cs, rfl, hL, h63, q⟩ := h
    have hu := hu_of hr
    refine ⟨_, pss_cons (ps_setLc (i := 1) (own := [("_law_cell", 2)]) (g := gName 2) rfl scBegun.nd rfl rfl (by rfl) (pi_list (pv 0))
        (blkOk_by (N := ["_law_script", "_law_great", "_law_cell"]) (sc := defScope sBegun) (by decide +kernel)) (fun _ _ _ _ _ => pg_name (i := 2) scBegun.nd rfl (Or.inl rfl))
        (fun _ _ _ _ _ => pts_one (pt_cmpR op_ge (pv 2) (pe_op op_pow pe_int pe_int) (nomark _)))
        (fun _ _ _ _ _ => pv 2))
      (pss_one (ps_ret (pe_disp (pps_cons pe_str (pe_op op_cat (pe_callTy call_list_of (by rfl) T.list_ b_list (pa_cons (pv 0) pa_nil)) (pe_lst (pa_cons (pe_callB call_len_seq (by rfl) T.len_ b_len (pa_cons (pv 0) pa_nil)) pa_nil)))
        (pps_cons pe_str (pe_ifExp (pt_cmpR (op_neD hr.units) (pv 1) (pe_lst pa_nil) (nomark _)) (pe_ix ix_list (pv 1) pe_int (fun _ _ => rfl)) pe_int)
        (pps_cons pe_str pe_int pps_nil))) rfl rfl (by decide) (by decide)))), ?_⟩
    have hl : (cs.map V.int).length = cs.length := List.length_map ..
    refine ⟨_, rfl, a, rfl, ⟨_, hL⟩, fun D hD => ?_⟩
    refine lc_it (walk_list (xs := cs.map V.int)) (fun i H2 => Same H H2 ∧ ∃ gs : List Int, H2 D = some (.lst (gs.map .int)) ∧ gs.length ≤ i) ⟨same_new hD, [], upd_same, Nat.zero_le _⟩ (fun i H2 _ hp2 => sqL_same hp2.1 hL) (fun i x H2 H3 hi hp2 hy => ?_) (fun H2 hp2 => ?_)
    · obtain ⟨rfl, hx⟩ := hy
      obtain ⟨e2, gs, hg, hgl⟩ := hp2
      rw [List.getElem?_map] at hx
      have hi' : i < cs.length := by omega
      rw [List.getElem?_eq_getElem hi'] at hx
      have ex : x = .int cs[i] := (Option.some.inj hx).symm
      subst ex
      refine ⟨rfl, _, rfl, _, _, rfl, rfl, ⟨by decide, by decide, by decide⟩, _, _, rfl, rfl, _, rfl, ite2 (fun _ => ?_) (fun _ => ?_)⟩
      · refine ⟨_, rfl, _, hg, ?_, same_at hD e2, gs ++ [cs[i]], ?_, ?_⟩
        · rw [List.length_map, sizeLine_eq]; omega
        · rw [upd_same, List.map_append]; rfl
        · rw [List.length_append]; exact Nat.succ_le_succ hgl
      · exact ⟨e2, gs, hg, Nat.le_succ_of_le hgl⟩
    · obtain ⟨e2, gs, hg, hgl⟩ := hp2
      rw [hl] at hgl
      refine fun p hp => ?_
      have hDp : D ≠ p := ne_of_none hg hp
      have ep : Same H (upd H2 p (.dK [])) := e2.trans (same_new hp)
      refine ⟨_, rfl, a, _, rfl, .inl (sqL_same ep hL), fun l1 h1 => ?_⟩
      have e1 : Same (upd H2 p (.dK [])) (upd (upd H2 p (.dK [])) l1 (.lst (cs.map V.int))) := same_new h1
      refine ⟨_, rfl, a, _, rfl, .inl (sqL_same (ep.trans e1) hL), (show 1 ≤ sizeLine by decide), fun l2 h2 => ?_⟩
      generalize hH4 : upd (upd H2 p (.dK [])) l1 (.lst (cs.map V.int)) = H4 at h2 e1
      have e4 : Same H2 H4 := (same_new hp).trans e1
      have hl1 : H4 l1 = some (.lst (cs.map V.int)) := by rw [← hH4]; exact upd_same
      have hp4 : H4 p = some (.dK []) := e1 _ _ upd_same
      refine ⟨l1, l2, _, _, rfl, rfl, same_new h2 _ _ hl1, upd_same, by rw [hl, sizeLine_eq]; show cs.length + 1 ≤ _; omega, fun l3 h3 => ?_⟩
      generalize hH6 : upd (upd H4 l2 (.lst [.int ((cs.map V.int).length : Nat)])) l3 (.lst (cs.map V.int ++ [.int ((cs.map V.int).length : Nat)])) = H6
      have e6 : Same H2 H6 := by rw [← hH6]; exact (e4.trans (same_new h2)).trans (same_new h3)
      have hl3 : H6 l3 = some (.lst ((cs ++ [(cs.length : Int)]).map V.int)) := by
        rw [← hH6, upd_same, hl, List.map_append]
        rfl
      have hp6 : H6 p = some (.dK []) := by rw [← hH6]; exact same_new h3 _ _ (same_new h2 _ _ hp4)
      have fin : ∀ (left : Int) H7, Same H6 H7 → H7 p = some (.dK []) ∧ ∃ kvs : List (L2.Key × V), [(V.str "cells", V.ref l3), (V.str "left", V.int left), (V.str "spot", V.int 0)] = kvs.map (fun kv => (kV kv.1, kv.2)) ∧ kvs.length ≤ 15 ∧ Q (.ref p) (upd H7 p (.dK (mergeK [] kvs))) := by
        intro left H7 e7
        refine ⟨e7 _ _ hp6, [(.inr "cells", .ref l3), (.inr "left", .int left), (.inr "spot", .int 0)], rfl, by show 3 ≤ 15; decide, ?_⟩
        rw [merge_st]
        have hlp : l3 ≠ p := ne_of hl3 hp6 (fun k => nomatch k)
        refine q p _ ?_ (mst_upd (cs := cs ++ [(cs.length : Int)]) (e7 _ _ hl3) hlp (by simp) (by rw [List.length_append]; show cs.length + 1 ≤ 64; omega) (Int.le_refl 0) (Int.le_refl 0))
        exact fun b x hx => by
          rw [upd_ne (ne_of_none (e2 _ _ hx) hp)]
          exact e7 _ _ (e6 _ _ (e2 _ _ hx))
      refine ⟨_, rfl, Nat.zero_le _, fun l4 h4 => ?_⟩
      have e7 : Same H6 (upd H6 l4 (.lst [])) := same_new h4
      have hg7 := (e6.trans e7) _ _ hg
      refine ⟨.list (gs.map PyData.int), .list [], .lst (.of hg7) (dpInts gs), .lst (.of upd_same) .nil, PySem.W.shaped_ints gs, PySem.W.shaped_ints [], _, rfl, ?_⟩
      rw [eqv_nil]
      cases gs with
      | nil => exact fin 0 _ e7
      | cons g gr => exact ⟨_, rfl, D, _, 0, _, rfl, rfl, .of hg7, atI_nat (j := 0) rfl, fin g _ e7⟩
end
end K3

namespace K3
open PySem PySem.Spec PyProof.Rows L2
section
variable {K : PySem.W.Frag} {H H' : Hp} {m : Addr} {B : Nat}
theorem sqL_sx {a : Addr} {xs : List V} (hM : MSt H m B) (e : SameX m H H') (h : SqL K H a xs) : SqL K H' a xs := by
  rcases h with (h | ⟨o, h⟩) | h
  · exact .inl (.inl (e _ _ (hM.ne h fun k q => nomatch q) h))
  · exact .inl (.inr ⟨o, e _ _ (hM.ne h fun k q => nomatch q) h⟩)
  · exact .inr h
theorem sqT_sx {a : Addr} {xs : List V} (hM : MSt H m B) (e : SameX m H H') (h : SqT K H a xs) : SqT K H' a xs := by
  rcases h with (h | ⟨o, h⟩) | h
  · exact .inl (.inl (e _ _ (hM.ne h fun k q => nomatch q) h))
  · exact .inl (.inr ⟨o, e _ _ (hM.ne h fun k q => nomatch q) h⟩)
  · exact .inr h
theorem NamesAt.sx {a : Addr} {ns : List Str} (hM : MSt H m B) (e : SameX m H H') (h : NamesAt H a ns) : NamesAt H' a ns := let ⟨o, h1, h2⟩ := h; ⟨o, e _ _ (hM.ne h1 fun k q => nomatch q) h1, h2⟩
theorem RunAt.sx {a : Addr} {r : Run} (hM : MSt H m B) (e : SameX m H H') (h : RunAt K H a r) : RunAt K H' a r := sqT_sx hM e h
theorem RunsAt.sx {a : Addr} {rs : List Run} (hM : MSt H m B) (e : SameX m H H') (h : RunsAt K H a rs) : RunsAt K H' a rs :=
  let ⟨xs, h1, h2, h3⟩ := h
  ⟨xs, sqT_sx hM e h1, h2, fun i r hi => let ⟨x, e1, e2⟩ := h3 i r hi; ⟨x, e1, e2.sx hM e⟩⟩
theorem DealAt.sx {a : Addr} {ns : List Str} {rs : List Run} (hM : MSt H m B) (e : SameX m H H') (h : DealAt K H a ns rs) : DealAt K H' a ns rs :=
  let ⟨n, r, h1, h2, h3⟩ := h
  ⟨n, r, sqT_sx hM e h1, h2.sx hM e, h3.sx hM e⟩
theorem at_sx {a : Addr} {xs : List V} (hM : MSt H m B) (e : SameX m H H') (h : H a = some (.lst xs)) : H' a = some (.lst xs) := e _ _ (hM.ne h fun k q => nomatch q) h
theorem MSt.new {p : Addr} {o : HO} (hM : MSt H m B) (h : H p = none) : MSt (upd H p o) m B := hM.same (same_new h)
end

theorem frees {H H' : Hp} {m b : Addr} {B : Nat} (h2 : MSt H' m B) (e : SameX m H H') (n : H' b = none) : H b = none := by
  cases q : H b with
  | none => rfl
  | some o =>
    by_cases hb : b = m
    · subst hb
      obtain ⟨k, hk⟩ := h2.dict
      rw [hk] at n
      cases n
    · rw [e b o hb q] at n
      cases n
theorem MSt.put {H : Hp} {m D : Addr} {B : Nat} {ys : List V} {o : HO} (hM : MSt H m B) (hD : H D = some (.lst ys)) (hy : ∀ (c : Int) (cs : List Int), ys ≠ .int c :: cs.map .int) : MSt (upd H D o) m B := by
  have hDm := hM.ne hD fun k q => nomatch q
  obtain ⟨cl, cs, l, s, h1, h2, h3, h4⟩ := hM
  have hDc : cl ≠ D := fun e => by
    rw [e, hD] at h2
    have h2' : ys = cs.map .int := HO.lst.inj (Option.some.inj h2)
    cases cs with
    | nil => exact h3 rfl
    | cons c r => exact hy c r h2'
  exact ⟨cl, cs, l, s, by rw [upd_ne (Ne.symm hDm)]; exact h1, by rw [upd_ne hDc]; exact h2, h3, h4⟩

/-- the names of a table -/
def chkNames (ns : List Str) : Bool :=
  decide (1 ≤ ns.length) && decide (ns.length ≤ 6) && ns.all (fun z => decide (1 ≤ z.length) && decide (z.length ≤ 6) && z.cps.toList.all fun c => decide (c ∈ letters.cps.toList)) &&
    (List.range 6).all (fun i => match ns[i]?, ns[i + 1]? with | some x, some y => decide (x.cps.toList < y.cps.toList) | _, _ => true) && decide ns.Nodup
theorem namesOk_of {ns : List Str} (h : chkNames ns = true) : NamesOk ns := by
  unfold chkNames at h
  simp only [Bool.and_eq_true, decide_eq_true_eq, List.all_eq_true] at h
  obtain ⟨⟨⟨⟨h1, h2⟩, h3⟩, h4⟩, h5⟩ := h
  refine ⟨h1, h2, fun z hz => ⟨(h3 z hz).1.1, (h3 z hz).1.2, (h3 z hz).2⟩, fun i x y hx hy => ?_, h5⟩
  have hi : i < 6 := by
    have := (List.getElem?_eq_some_iff.mp hy).1
    omega
  have q := h4 i (List.mem_range.mpr hi)
  rw [hx, hy] at q
  exact of_decide_eq_true q
def tabA : List Str := ["a", "b", "c", "d", "e", "f"]
def tabB : List Str := ["ada", "bob", "cy", "dan", "eve", "flo"]
def tabC : List Str := ["a", "aa", "ab", "b", "zz", "zzzzzz"]
def tabs (j : Nat) : List Str := match j with
  | 0 => tabA
  | 1 => tabB
  | _ => tabC
theorem tabs_len (j : Nat) : (tabs j).length = 6 := by
  match j with
  | 0 => rfl
  | 1 => rfl
  | n + 2 => rfl
theorem tabs_ok (j k : Nat) (h1 : 1 ≤ k) (h6 : k ≤ 6) : NamesOk ((tabs j).take k) := by
  have e : ∀ i : Fin 3, ∀ q : Fin 6, chkNames ((tabs i.val).take (q.val + 1)) = true := by decide +kernel
  obtain ⟨k', rfl⟩ : ∃ k', k = k' + 1 := ⟨k - 1, by omega⟩
  match j with
  | 0 => exact namesOk_of (e 0 ⟨k', by omega⟩)
  | 1 => exact namesOk_of (e 1 ⟨k', by omega⟩)
  | n + 2 => exact namesOk_of (e 2 ⟨k', by omega⟩)
theorem cut_take (xs : List V) (k : Nat) : cutV xs none (some (k : Int)) = xs.take k := by
  unfold cutV
  rw [HT.sIx_none, HT.sIx_nat, List.drop_zero, Nat.sub_zero]
  by_cases h : k ≤ xs.length
  · rw [Nat.min_eq_left h]
  · rw [Nat.min_eq_right (by omega), List.take_length, List.take_of_length_le (by omega)]
/-- the text of figures, one by one -/
theorem join_fig (f : List Nat) : Txt.join "" (f.map fun d => figS [d]) = figS f := by
  rw [TL.join_eq, show (("" : Str)) = ⟨#[]⟩ by decide +kernel]
  induction f with
  | nil => rfl
  | cons a l ih =>
    cases l with
    | nil => rfl
    | cons b r =>
      show Str.append (Str.append (figS [a]) ⟨#[]⟩) (Str.join ⟨#[]⟩ ((b :: r).map fun d => figS [d])) = _
      rw [ih]
      show Str.mk ((#[a + 48] ++ #[]) ++ ((b :: r).map (· + 48)).toArray) = Str.mk _
      congr 1
      apply Array.ext'
      simp
section
variable {P : Program} {w : World} {K : PySem.W.Frag} {mg : Str → Option Value} {base : Heap}
/-! ### _law_of -/
abbrev sOf : Stmt := topS 35
theorem scOf : FnScope ["_law_m", "_law_some"] ["_law_m", "_law_some"] (defScope sOf) := ⟨rfl, rfl, rfl, by decide +kernel, rfl, by decide +kernel, by decide +kernel⟩
def spOf (K : PySem.W.Frag) : Sp := fun vs H Q _ => ∃ (m a : Addr) (xs : List V) (B : Nat), vs = [.ref m, .ref a] ∧ SqL K H a xs ∧ 1 ≤ xs.length ∧ xs.length ≤ 1000 ∧ B ≤ 1000000 ∧ MSt H m B ∧ ∀ (j : Nat) H' x, SameX m H H' → MSt H' m (B + 1) → xs[j]? = some x → Q x H'
theorem ok_of {f : Addr} {fd : FuncData} (F : Fun K "_law_of" "_law_of" sOf f fd) (T : Nm mg) (DD : Def P w K mg base 1 "_law_draw" ["_law_m", "_law_many"] spDraw) : FnOk P w K mg base CX0 2 f fd ["_law_m", "_law_some"] (spOf K) := by
  refine F.ok scOf (fun vs H Q E h => ?_) (fun cdv A outer s H vs Q E hr h => ?_)
  · obtain ⟨_, _, _, _, rfl, _⟩ := h
    rfl
  · obtain ⟨m, a, xs, B, rfl, hL, h1, h1000, hB, hM, q⟩ := h
    refine ⟨_, pss_one (ps_ret (pe_ix ix_list (pv 1) (pe_d DD hr (by rfl) (pa_cons (pv 0) (pa_cons (pe_callB call_len_seq (by rfl) T.len_ b_len (pa_cons (pv 1) pa_nil)) pa_nil))) (fun _ _ => rfl))), ?_⟩
    refine ⟨_, rfl, _, rfl, _, rfl, a, _, rfl, .inl hL, m, xs.length, B, rfl, h1, h1000, hB, hM, fun j H' e' hM' hj => ?_⟩
    exact ⟨a, _, _, xs[j], rfl, rfl, sqL_sx hM e' hL, atI_nat (List.getElem?_eq_getElem hj), q j H' _ e' hM' (List.getElem?_eq_getElem hj)⟩

/-! ### _law_people -/
abbrev sPeople : Stmt := topS 36
theorem scPeople : FnScope ["_law_m", "_law_most", "_law_some"] ["_law_m", "_law_most"] (defScope sPeople) := ⟨rfl, rfl, rfl, by decide +kernel, rfl, by decide +kernel, by decide +kernel⟩
def spPeople : Sp := fun vs H Q _ => ∃ (m : Addr) (most B : Nat), vs = [.ref m, .int most] ∧ 1 ≤ most ∧ most ≤ 6 ∧ B ≤ 900000 ∧ MSt H m B ∧ ∀ n ns H', SameX m H H' → MSt H' m (B + 2) → NamesAt H' n ns → NamesOk ns → ns.length ≤ most → Q (.ref n) H'
theorem ok_people {f : Addr} {fd : FuncData} (F : Fun K "_law_people" "_law_people" sPeople f fd) (DD : Def P w K mg base 1 "_law_draw" ["_law_m", "_law_many"] spDraw) (DO : Def P w K mg base 2 "_law_of" ["_law_m", "_law_some"] (spOf K)) :
    FnOk P w K mg base CX0 3 f fd ["_law_m", "_law_most"] spPeople := by
  refine F.ok scPeople (fun vs H Q E h => ?_) (fun cdv A outer s H vs Q E hr h => ?_)
  · obtain ⟨_, _, _, rfl, _⟩ := h
    rfl
  · obtain ⟨m, most, B, rfl, h1, h6, hB, hM, q⟩ := h
    refine ⟨_, pss_cons (ps_set (i := 2) scPeople.nd rfl (.inl rfl) (pe_lst (pa_cons (pe_tupF (pa_cons pe_str (pa_cons pe_str (pa_cons pe_str (pa_cons pe_str (pa_cons pe_str (pa_cons pe_str pa_nil)))))))
        (pa_cons (pe_tupF (pa_cons pe_str (pa_cons pe_str (pa_cons pe_str (pa_cons pe_str (pa_cons pe_str (pa_cons pe_str pa_nil))))))) pa_nil))))
      (pss_one (ps_ret (pe_slice sl_tupF (pe_d DO hr (by rfl) (pa_cons (pv 0) (pa_cons (pe_op op_cat (pv 2) (pe_lst (pa_cons (pe_tupF (pa_cons pe_str (pa_cons pe_str (pa_cons pe_str (pa_cons pe_str (pa_cons pe_str (pa_cons pe_str pa_nil))))))) pa_nil))) pa_nil)))
        po_none (po_some (pe_op op_add pe_int (pe_d DD (hr.mono (by decide)) (by rfl) (pa_cons (pv 0) (pa_cons (pv 1) pa_nil)))))))), ?_⟩
    have h6s : ([.str "a", .str "b", .str "c", .str "d", .str "e", .str "f"] : List V).length ≤ sizeLine := (show 6 ≤ sizeLine by decide)
    refine ⟨h6s, fun p1 o1 hp1 hd1 => ⟨(show 6 ≤ sizeLine by decide), fun p2 o2 hp2 hd2 => ⟨(show 2 ≤ sizeLine by decide), fun l hl => ?_⟩⟩⟩
    generalize hH1 : upd H p1 (.frz o1 (.tup [.str "a", .str "b", .str "c", .str "d", .str "e", .str "f"])) = H1 at hp2 hl
    have e1 : Same H H1 := by rw [← hH1]; exact same_new hp1
    have g1 : H1 p1 = some (.frz o1 (.tup (tabA.map .str))) := by rw [← hH1]; exact upd_same
    generalize hH2 : upd H1 p2 (.frz o2 (.tup [.str "ada", .str "bob", .str "cy", .str "dan", .str "eve", .str "flo"])) = H2 at hl
    have e2 : Same H1 H2 := by rw [← hH2]; exact same_new hp2
    have g2 : H2 p2 = some (.frz o2 (.tup (tabB.map .str))) := by rw [← hH2]; exact upd_same
    refine ⟨_, rfl, _, rfl, (show 6 ≤ sizeLine by decide), fun p3 o3 hp3 hd3 => ⟨(show 1 ≤ sizeLine by decide), fun l2 hl2 => ?_⟩⟩
    generalize hH3 : upd H2 l (.lst [.ref p1, .ref p2]) = H3 at hp3 hl2
    have e3 : Same H2 H3 := by rw [← hH3]; exact same_new hl
    have g3 : H3 l = some (.lst [.ref p1, .ref p2]) := by rw [← hH3]; exact upd_same
    generalize hH4 : upd H3 p3 (.frz o3 (.tup [.str "a", .str "aa", .str "ab", .str "b", .str "zz", .str "zzzzzz"])) = H4 at hl2
    have e4 : Same H3 H4 := by rw [← hH4]; exact same_new hp3
    have g4 : H4 p3 = some (.frz o3 (.tup (tabC.map .str))) := by rw [← hH4]; exact upd_same
    refine ⟨l, l2, _, _, rfl, rfl, same_new hl2 _ _ (e4 _ _ g3), upd_same, (show 3 ≤ sizeLine by decide), fun l3 hl3 => ?_⟩
    generalize hH5 : upd (upd H4 l2 (.lst [.ref p3])) l3 (.lst ([.ref p1, .ref p2] ++ [.ref p3])) = H5
    have e5 : Same H4 H5 := by rw [← hH5]; exact (same_new hl2).trans (same_new hl3)
    have g5 : H5 l3 = some (.lst [.ref p1, .ref p2, .ref p3]) := by rw [← hH5]; exact upd_same
    have eH : Same H H5 := (((e1.trans e2).trans e3).trans e4).trans e5
    have hM5 := hM.same eH
    refine ⟨m, l3, [.ref p1, .ref p2, .ref p3], B, rfl, .of g5, (show 1 ≤ 3 by decide), (show 3 ≤ 1000 by decide), by omega, hM5, fun j H6 x e6 hM6 hx => ?_⟩
    have hz : ∃ i p o, x = .ref p ∧ H5 p = some (.frz o (.tup ((tabs i).map .str))) ∧ o.dict = none := by
      match j, hx with
      | 0, hx => exact ⟨0, p1, o1, (Option.some.inj hx).symm, e5 _ _ (e4 _ _ (e3 _ _ (e2 _ _ g1))), hd1⟩
      | 1, hx => exact ⟨1, p2, o2, (Option.some.inj hx).symm, e5 _ _ (e4 _ _ (e3 _ _ g2)), hd2⟩
      | 2, hx => exact ⟨2, p3, o3, (Option.some.inj hx).symm, e5 _ _ g4, hd3⟩
      | n + 3, hx => cases hx
    obtain ⟨i, p, o, rfl, hp, hd⟩ := hz
    refine ⟨_, rfl, _, rfl, m, most, B + 1, rfl, h1, by omega, by omega, hM6, fun r H7 e7 hM7 hr7 => ?_⟩
    have e67 : SameX m H5 H7 := e6.trans e7
    have hp7 : H7 p = some (.frz o (.tup ((tabs i).map .str))) := e67 _ _ (hM5.ne hp fun k q => nomatch q) hp
    have eX : SameX m H H7 := (SameX.of eH).trans e67
    have hok := tabs_ok i (1 + r) (by omega) (by omega)
    have hlen : ((tabs i).map V.str).length = 6 := by rw [List.length_map, tabs_len]
    have e1r : (1 : Int) + (r : Nat) = ((1 + r : Nat) : Int) := by omega
    refine ⟨_, _, rfl, rfl, _, rfl, p, o, _, rfl, hp7, fun hw => ?_, fun hw p' o' hp' hd' => ?_⟩
    · have hw2 := hw.2
      rw [e1r, HT.sIx_nat, hlen] at hw2
      refine q p ((tabs i).take (1 + r)) H7 eX hM7 ⟨o, ?_, hd⟩ hok (by rw [List.length_take, tabs_len]; omega)
      rw [List.take_of_length_le (by rw [tabs_len]; omega)]
      exact hp7
    · refine q p' ((tabs i).take (1 + r)) _ (eX.trans (.new hp')) (hM7.new hp') ⟨o', ?_, hd'⟩ hok (by rw [List.length_take, tabs_len]; omega)
      rw [upd_same, e1r, cut_take, List.map_take]

/-! ### _law_figures -/
abbrev sFigures : Stmt := topS 37
theorem scFigures : FnScope ["_law_m", "_law_total", "_law_long", "_law_k"] ["_law_m", "_law_total", "_law_long"] (defScope sFigures) := ⟨rfl, rfl, rfl, by decide +kernel, rfl, by decide +kernel, by decide +kernel⟩
def spFigures : Sp := fun vs H Q _ => ∃ (m : Addr) (total long B : Nat), vs = [.ref m, .int total, .int long] ∧ 1 ≤ total ∧ total ≤ 6 ∧ 1 ≤ long ∧ long ≤ 7 ∧ B ≤ 900000 ∧ MSt H m B ∧ ∀ f H', SameX m H H' → MSt H' m (B + 8) → f ≠ [] → f.length ≤ 7 → (∀ d ∈ f, d < total) → Q (.str (figS f)) H'
theorem ok_figures {f : Addr} {fd : FuncData} (F : Fun K "_law_figures" "_law_figures" sFigures f fd) (T : Nm mg) (DD : Def P w K mg base 1 "_law_draw" ["_law_m", "_law_many"] spDraw) : FnOk P w K mg base CX0 2 f fd ["_law_m", "_law_total", "_law_long"] spFigures := by
  refine F.ok scFigures (fun vs H Q E h => ?_) (fun cdv A outer s H vs Q E hr h => ?_)
  · obtain ⟨_, _, _, _, rfl, _⟩ := h
    rfl
  · obtain ⟨m, total, long, B, rfl, h1, h6, hl1, hl7, hB, hM, q⟩ := h
    refine ⟨_, pss_one (ps_ret (pe_join pe_str
        (pe_lc (own := [("_law_k", 3)]) (g := gName 3) (tt := tYes) rfl scFigures.nd (pi_range1 (by rfl) T.range_ (pa_cons (pe_op op_add pe_int (pe_d DD hr (by rfl) (pa_cons (pv 0) (pa_cons (pv 2) pa_nil)))) pa_nil))
          (blkOk_by (N := ["_law_m", "_law_total", "_law_long", "_law_k"]) (sc := defScope sFigures) (by decide +kernel))
          (fun _ _ _ _ _ => pg_name (i := 3) scFigures.nd rfl (Or.inl rfl)) (fun _ _ _ _ _ => pts_nil)
          (fun _ _ _ _ _ => pe_ix ix_str pe_str (pe_d DD hr (by rfl) (pa_cons (pv 0) (pa_cons (pv 1) pa_nil))) (fun _ _ => rfl))))), ?_⟩
    refine ⟨⟨_, rfl⟩, _, rfl, _, rfl, m, long, B, rfl, hl1, by omega, by omega, hM, fun r H1 e1 hM1 hr1 => ?_⟩
    refine ⟨_, _, rfl, rfl, (1 : Int) + (r : Nat), rfl, by omega, by omega, fun D hD => ?_⟩
    have et : ((1 : Int) + (r : Nat)).toNat = 1 + r := by omega
    refine lc_it walk_range (fun i H2 => SameX m H H2 ∧ MSt H2 m (B + 1 + i) ∧ ∃ f : List Nat, H2 D = some (.lst (f.map fun d => .str (figS [d]))) ∧ f.length = i ∧ ∀ d ∈ f, d < total)
      ⟨e1.trans (.new hD), hM1.new hD, [], upd_same, rfl, fun d hd => nomatch hd⟩ (fun _ _ _ _ => True.intro) (fun i x H2 H3 hi hp2 hy => ?_) (fun H2 hp2 => ?_)
    · obtain ⟨rfl, rfl⟩ := hy
      obtain ⟨e2, hM2, fs, hf, hfl, hft⟩ := hp2
      refine ⟨rfl, lcYes ⟨_, rfl, _, rfl, m, total, B + 1 + i, rfl, h1, by omega, by omega, hM2, fun d H4 e4 hM4 hd => ?_⟩⟩
      have hdg : atI ("012345" : Str).cps.toList ((d : Nat) : Int) = some (d + 48) := by
        have h : ∀ j : Fin 6, atI ("012345" : Str).cps.toList ((j.val : Nat) : Int) = some (j.val + 48) := by decide +kernel
        exact h ⟨d, by omega⟩
      refine ⟨_, _, _, rfl, rfl, (show 6 ≤ sizeLine by decide), hdg, ?_⟩
      have hDm : D ≠ m := hM2.ne hf fun k q => nomatch q
      have hf4 : H4 D = some (.lst (fs.map fun d => .str (figS [d]))) := e4 _ _ hDm hf
      refine ⟨_, hf4, by rw [List.length_map, sizeLine_eq]; omega, fun b o hb hbo => ?_, ?_, fs ++ [d], ?_, by rw [List.length_append, hfl]; rfl, fun d' hd' => ?_⟩
      · exact sameX_at (frees hM1 e1 hD) (e2.trans e4) b o hb hbo
      · refine (MSt.put hM4 hf4 fun c cs => ?_).mono (Nat.le_of_eq (by omega))
        cases fs with
        | nil => exact fun q => nomatch q
        | cons x r => exact fun q => nomatch q
      · rw [upd_same, List.map_append]
        rfl
      · rcases List.mem_append.mp hd' with z | z
        · exact hft _ z
        · rw [List.mem_singleton.mp z]; exact hd
    · obtain ⟨e2, hM2, fs, hf, hfl, hft⟩ := hp2
      rw [et] at hM2 hfl
      refine ⟨_, D, fs.map fun d => figS [d], rfl, rfl, .inl (.of ?_), ?_, ?_⟩
      · rw [List.map_map]
        exact hf
      · have hs : ((fs.map fun d => figS [d]).map fun x => x.length).sum ≤ fs.length := by
          rw [List.map_map]
          have : ∀ l : List Nat, (l.map ((fun x : Str => x.length) ∘ fun d => figS [d])).sum = l.length := fun l => by
            induction l with
            | nil => rfl
            | cons a r ih =>
              rw [List.map_cons, List.sum_cons, ih]
              show 1 + r.length = r.length + 1
              omega
          rw [this]
          exact Nat.le_refl _
        have h0 : ("" : Str).length = 0 := by decide +kernel
        rw [h0, Nat.mul_zero]
        omega
      · rw [join_fig]
        exact q fs H2 e2 (hM2.mono (by omega)) (fun e => by rw [e] at hfl; simp at hfl; omega) (by omega) hft
end
end K3

namespace K3
open PySem PySem.Spec PyProof.Rows L2
theorem sqT_put {K : PySem.W.Frag} {H : Hp} {D a : Addr} {ys xs : List V} {o : HO} (hD : H D = some (.lst ys)) (h : SqT K H a xs) : SqT K (upd H D o) a xs := by
  rcases h with (h | ⟨o', h⟩) | h
  · exact .inl (.inl (by rw [upd_ne (ne_of h hD fun q => nomatch q)]; exact h))
  · exact .inl (.inr ⟨o', by rw [upd_ne (ne_of h hD fun q => nomatch q)]; exact h⟩)
  · exact .inr h
/-- the drawn runs are few and short -/
structure Small (rs : List Run) : Prop where
  len : rs.length ≤ 6
  figs : ∀ r ∈ rs, r.2.length ≤ 7
  coin : ∀ r ∈ rs, ∀ c, r.1 = some c → c ≤ 9
section
variable {P : Program} {w : World} {K : PySem.W.Frag} {mg : Str → Option Value} {base : Heap}
/-! ### _law_runs -/
abbrev sRuns : Stmt := topS 38
theorem scRuns : FnScope ["_law_m", "_law_total", "_law_many", "_law_top", "_law_long", "_law_found", "_law_k"] ["_law_m", "_law_total", "_law_many", "_law_top", "_law_long"] (defScope sRuns) := ⟨rfl, rfl, rfl, by decide +kernel, rfl, by decide +kernel, by decide +kernel⟩
def spRuns (K : PySem.W.Frag) : Sp := fun vs H Q _ => ∃ (m : Addr) (total many top long B : Nat), vs = [.ref m, .int total, .int many, .int top, .int long] ∧ 1 ≤ total ∧ total ≤ 6 ∧ 1 ≤ many ∧ many ≤ 6 ∧ 1 ≤ top ∧ top ≤ 9 ∧ 1 ≤ long ∧ long ≤ 7 ∧ B ≤ 800000 ∧ MSt H m B ∧
  ∀ p rs H', SameX m H H' → MSt H' m (B + 54) → RunsAt K H' p rs → RunsOk total rs → Small rs → Q (.ref p) H'
theorem ends_snoc : ∀ (rs : List Run) (f : List Nat), (∀ r ∈ rs, ∃ c, r.1 = some c) → Ends (rs ++ [(none, f)])
  | [], f, _ => rfl
  | (none, g) :: r, f, h => by
    obtain ⟨c, e⟩ := h _ List.mem_cons_self
    cases e
  | (some c, g) :: r, f, h => ends_snoc r f fun x hx => h x (List.mem_cons_of_mem _ hx)
theorem ok_runs {f : Addr} {fd : FuncData} (F : Fun K "_law_runs" "_law_runs" sRuns f fd) (T : Nm mg) (DD : Def P w K mg base 1 "_law_draw" ["_law_m", "_law_many"] spDraw) (DF : Def P w K mg base 2 "_law_figures" ["_law_m", "_law_total", "_law_long"] spFigures) :
    FnOk P w K mg base CX0 3 f fd ["_law_m", "_law_total", "_law_many", "_law_top", "_law_long"] (spRuns K) := by
  refine F.ok scRuns (fun vs H Q E h => ?_) (fun cdv A outer s H vs Q E hr h => ?_)
  · obtain ⟨_, _, _, _, _, _, rfl, _⟩ := h
    rfl
  · obtain ⟨m, total, many, top, long, B, rfl, ht1, ht6, hm1, hm6, hp1, hp9, hl1, hl7, hB, hM, q⟩ := h
    have hr1 := hr.mono (show 1 ≤ 2 by decide)
    refine ⟨_, pss_cons (ps_set (i := 5) scRuns.nd rfl (.inl rfl) (pe_lst pa_nil))
      (pss_cons (ps_for PassesOwn.never rfl (pi_range1 (by rfl) T.range_ (pa_cons (pe_d DD hr1 (by rfl) (pa_cons (pv 0) (pa_cons (pv 2) pa_nil))) pa_nil)) (pg_name (i := 6) scRuns.nd rfl (.inl rfl))
        (pss_one (ps_expr (pe_bm PySem.F.plainAttrs_list PySem.F.slot_list_append PySem.F.type_list_append mt_append (pv 5) (pa_cons (pe_tup (pa_cons (pe_op op_add pe_int (pe_d DD hr1 (by rfl) (pa_cons (pv 0) (pa_cons (pv 3) pa_nil))))
          (pa_cons (pe_d DF hr (by rfl) (pa_cons (pv 0) (pa_cons (pv 1) (pa_cons (pv 4) pa_nil)))) pa_nil))) pa_nil)))))
      (pss_one (ps_ret (pe_callTy call_tuple_of (by rfl) T.tuple_ b_tuple (pa_cons (pe_op op_cat (pv 5) (pe_lst (pa_cons (pe_tup (pa_cons pe_non (pa_cons (pe_d DF hr (by rfl) (pa_cons (pv 0) (pa_cons (pv 1) (pa_cons (pv 4) pa_nil)))) pa_nil))) pa_nil))) pa_nil))))), ?_⟩
    refine ⟨Nat.zero_le _, fun D hD => ?_⟩
    have eD : Same H (upd H D (.lst [])) := same_new hD
    have gD : upd H D (.lst []) D = some (.lst []) := upd_same
    generalize upd H D (.lst []) = HD at eD gD
    refine ⟨_, rfl, _, rfl, m, many, B, rfl, hm1, by omega, by omega, hM.same eD, fun n H1 e1 hM1 hn => ?_⟩
    have gD1 : H1 D = some (.lst []) := at_sx (hM.same eD) e1 gD
    refine ⟨(n : Int), rfl, by omega, by omega, ?_⟩
    refine for_it walk_range (fun i σ H2 => ∃ (y6 : Option V) (xs : List Addr) (rs : List Run), σ = [some (.ref m), some (.int total), some (.int many), some (.int top), some (.int long), some (.ref D), y6] ∧ SameX m H H2 ∧ MSt H2 m (B + 1 + 9 * i) ∧
      H2 D = some (.lst (xs.map V.ref)) ∧ xs.length = i ∧ rs.length = i ∧ (∀ r ∈ rs, FigsOk total r.2 ∧ r.2.length ≤ 7 ∧ ∃ c, r.1 = some c ∧ 1 ≤ c ∧ c ≤ 9) ∧ ∀ j r, rs[j]? = some r → ∃ x, xs[j]? = some x ∧ RunAt K H2 x r)
      ⟨none, [], [], rfl, (SameX.of eD).trans e1, hM1, gD1, rfl, rfl, (fun r hr => nomatch hr), (fun (j : Nat) (r : Run) (h : ([] : List Run)[j]? = some r) => by simp at h)⟩ (fun _ _ _ _ _ => True.intro) (fun i x σ H3 H2 hi hp2 hy => ?_) (fun σ H2 hp2 => ?_)
    · obtain ⟨y6, xs, rs, rfl, e2, hM2, gD2, hxl, hrl, hrs, hat⟩ := hp2
      obtain ⟨rfl, rfl⟩ := hy
      refine ⟨_, rfl, .inl ⟨rfl, _, .of gD2⟩, ?_⟩
      refine ⟨_, rfl, _, rfl, m, top, _, rfl, hp1, by omega, by omega, hM2, fun c H4 e4 hM4 hc => ?_⟩
      have hDm4 : D ≠ m := hM2.ne gD2 fun k q => nomatch q
      refine ⟨_, _, rfl, rfl, _, rfl, _, rfl, _, rfl, m, total, long, _, rfl, ht1, ht6, hl1, hl7, by omega, hM4, fun fs H5 e5 hM5 hf0 hf7 hft => ?_⟩
      refine ⟨(show 2 ≤ sizeLine by decide), fun t ht => ?_⟩
      have e25 : SameX m H2 H5 := e4.trans e5
      have e26 := e25.trans (.new (o := .tup [.int ((1 : Int) + (c : Nat)), .str (figS fs)]) ht)
      have hM6 := hM5.new (o := .tup [.int ((1 : Int) + (c : Nat)), .str (figS fs)]) ht
      have gt : upd H5 t (.tup [.int ((1 : Int) + (c : Nat)), .str (figS fs)]) t = some (.tup [.int ((1 : Int) + (c : Nat)), .str (figS fs)]) := upd_same
      generalize upd H5 t (.tup [.int ((1 : Int) + (c : Nat)), .str (figS fs)]) = H6 at e26 hM6 gt
      have gD6 := e26 _ _ hDm4 gD2
      refine ⟨D, _, _, rfl, rfl, gD6, by rw [List.length_map, hxl, sizeLine_eq]; omega, ?_⟩
      refine ⟨some (.int (0 + (i : Int))), xs ++ [t], rs ++ [(some (1 + c), fs)], rfl, ?_, ?_, ?_, by rw [List.length_append, hxl]; rfl, by rw [List.length_append, hrl]; rfl, fun r hr => ?_, fun j r hj => ?_⟩
      · exact sameX_at hD (e2.trans e26)
      · refine (MSt.put hM6 gD6 fun c cs => ?_).mono (by omega)
        cases xs with
        | nil => exact fun q => nomatch q
        | cons x r => exact fun q => nomatch q
      · rw [upd_same, List.map_append]
        rfl
      · rcases List.mem_append.mp hr with z | z
        · exact hrs _ z
        · rw [List.mem_singleton.mp z]
          exact ⟨⟨hf0, (by show fs.length ≤ 400; omega), hft⟩, hf7, 1 + c, rfl, by omega, by omega⟩
      · by_cases hj2 : j < i
        · have hj' : rs[j]? = some r := by rwa [List.getElem?_append_left (by omega)] at hj
          obtain ⟨x, hx, hR⟩ := hat j r hj'
          exact ⟨x, by rw [List.getElem?_append_left (by omega)]; exact hx, sqT_put gD6 (hR.sx hM2 e26)⟩
        · have hjl : j < (rs ++ [(some (1 + c), fs)]).length := (List.getElem?_eq_some_iff.mp hj).1
          rw [List.length_append, hrl] at hjl
          have ej : j = i := by have : j < i + 1 := hjl; omega
          subst ej
          rw [List.getElem?_append_right (by omega), hrl, Nat.sub_self] at hj
          have er : r = (some (1 + c), fs) := (Option.some.inj hj).symm
          subst er
          refine ⟨t, by rw [List.getElem?_append_right (by omega), hxl, Nat.sub_self]; rfl, sqT_put gD6 ?_⟩
          have e1c : ((1 : Int) + (c : Nat)) = ((1 + c : Nat) : Int) := by omega
          rw [e1c] at gt
          exact .of gt
    · obtain ⟨y6, xs, rs, rfl, e2, hM2, gD2, hxl, hrl, hrs, hat⟩ := hp2
      have en : ((n : Nat) : Int).toNat = n := by omega
      rw [en] at hM2 hxl hrl
      have hDm4 : D ≠ m := hM2.ne gD2 fun k q => nomatch q
      refine ⟨_, rfl, _, rfl, _, rfl, _, rfl, m, total, long, _, rfl, ht1, ht6, hl1, hl7, by omega, hM2, fun fs H5 e5 hM5 hf0 hf7 hft => ?_⟩
      refine ⟨(show 2 ≤ sizeLine by decide), fun t ht => ⟨(show 1 ≤ sizeLine by decide), fun l hl => ?_⟩⟩
      have e26 := e5.trans (.new (o := .tup [.non, .str (figS fs)]) ht)
      have hM6 := hM5.new (o := .tup [.non, .str (figS fs)]) ht
      have gt : upd H5 t (.tup [.non, .str (figS fs)]) t = some (.tup [.non, .str (figS fs)]) := upd_same
      generalize upd H5 t (.tup [.non, .str (figS fs)]) = H6 at e26 hM6 gt hl
      have gD6 := e26 _ _ hDm4 gD2
      refine ⟨D, l, _, _, rfl, rfl, same_new hl _ _ gD6, upd_same, by rw [List.length_map, hxl, sizeLine_eq]; show n + 1 ≤ _; omega, fun l2 hl2 => ?_⟩
      have e67 : Same H6 (upd (upd H6 l (.lst [.ref t])) l2 (.lst (xs.map V.ref ++ [.ref t]))) := (same_new hl).trans (same_new hl2)
      have g7 : upd (upd H6 l (.lst [.ref t])) l2 (.lst (xs.map V.ref ++ [.ref t])) l2 = some (.lst ((xs ++ [t]).map V.ref)) := by rw [upd_same, List.map_append]; rfl
      generalize upd (upd H6 l (.lst [.ref t])) l2 (.lst (xs.map V.ref ++ [.ref t])) = H7 at e67 g7
      refine ⟨l2, _, rfl, .inl ⟨.of g7, fun p hp => ?_⟩⟩
      have e78 : Same H7 (upd H7 p (.tup ((xs ++ [t]).map V.ref))) := same_new hp
      have g8 : upd H7 p (.tup ((xs ++ [t]).map V.ref)) p = some (.tup ((xs ++ [t]).map V.ref)) := upd_same
      generalize upd H7 p (.tup ((xs ++ [t]).map V.ref)) = H8 at e78 g8
      have eX : SameX m H2 H8 := e26.trans (.of (e67.trans e78))
      have hM8 : MSt H8 m (B + 1 + 9 * n + 8) := (hM6.same e67).same e78
      refine q p (rs ++ [(none, fs)]) H8 (e2.trans eX) (hM8.mono (by omega)) ⟨xs ++ [t], .of g8, by rw [List.length_append, List.length_append, hxl, hrl]; rfl, fun j r hj => ?_⟩ ⟨ends_snoc rs fs fun r hr => let ⟨_, _, c, e, _⟩ := hrs r hr; ⟨c, e⟩, by rw [List.length_append, hrl]; show n + 1 ≤ 60; omega, fun r hr => ?_, fun r hr c hc => ?_⟩ ⟨by rw [List.length_append, hrl]; show n + 1 ≤ 6; omega, fun r hr => ?_, fun r hr c hc => ?_⟩
      · by_cases hj2 : j < n
        · have hj' : rs[j]? = some r := by rwa [List.getElem?_append_left (by omega)] at hj
          obtain ⟨x, hx, hR⟩ := hat j r hj'
          exact ⟨x, by rw [List.getElem?_append_left (by omega)]; exact hx, hR.sx hM2 eX⟩
        · have hjl : j < (rs ++ [((none : Option Nat), fs)]).length := (List.getElem?_eq_some_iff.mp hj).1
          rw [List.length_append, hrl] at hjl
          have ej : j = n := by have : j < n + 1 := hjl; omega
          subst ej
          rw [List.getElem?_append_right (by omega), hrl, Nat.sub_self] at hj
          have er : r = (none, fs) := (Option.some.inj hj).symm
          subst er
          refine ⟨t, by rw [List.getElem?_append_right (by omega), hxl, Nat.sub_self]; rfl, ?_⟩
          exact .of ((e67.trans e78) _ _ gt)
      · rcases List.mem_append.mp hr with z | z
        · exact (hrs _ z).1
        · rw [List.mem_singleton.mp z]
          exact ⟨hf0, by show fs.length ≤ 400; omega, hft⟩
      · rcases List.mem_append.mp hr with z | z
        · obtain ⟨_, _, c', e, h1, h2⟩ := hrs _ z
          rw [hc] at e
          cases e
          omega
        · rw [List.mem_singleton.mp z] at hc
          cases hc
      · rcases List.mem_append.mp hr with z | z
        · exact (hrs _ z).2.1
        · rw [List.mem_singleton.mp z]
          exact hf7
      · rcases List.mem_append.mp hr with z | z
        · obtain ⟨_, _, c', e, h1, h2⟩ := hrs _ z
          rw [hc] at e
          cases e
          omega
        · rw [List.mem_singleton.mp z] at hc
          cases hc
end
end K3

namespace K3
open PySem PySem.Spec PyProof.Rows L2
/-! ### data that may be shown and compared -/
structure Fit (dp w : Nat) (d : PyData) : Prop where
  lay : d.canLay0 = true
  dep : d.depth ≤ dp
  wt : d.weight ≤ w
  short : d.intsShort 13 = true
  sh : d.showable = true
theorem Fit.layable {dp w : Nat} {d : PyData} (h : Fit dp w d) (h1 : dp ≤ 64) (h2 : w ≤ 1048576) : d.layable0 = true := by
  have e1 := h.dep
  have e2 := h.wt
  show (PyData.canLay0 d && decide (PyData.depth d ≤ 64) && decide (PyData.weight d ≤ 2 ^ 20)) = true
  rw [Bool.and_eq_true, Bool.and_eq_true]
  exact ⟨⟨h.lay, decide_eq_true (by omega)⟩, decide_eq_true (by omega)⟩
theorem Fit.shaped {dp w : Nat} {d : PyData} (h : Fit dp w d) (h1 : dp ≤ 64) : SeqAt.shaped d = true := by
  have e1 := h.dep
  show (d.canLay0 && decide (d.depth ≤ 64)) = true
  rw [Bool.and_eq_true]
  exact ⟨h.lay, decide_eq_true (by omega)⟩
theorem Fit.refl {dp w : Nat} {d : PyData} (h : Fit dp w d) : PyData.eqv d d = true := PySem.SeqAt.eqv_refl d h.lay
theorem Fit.mono {dp w dp' w' : Nat} {d : PyData} (h : Fit dp w d) (h1 : dp ≤ dp') (h2 : w ≤ w') : Fit dp' w' d := ⟨h.lay, Nat.le_trans h.dep h1, Nat.le_trans h.wt h2, h.short, h.sh⟩
theorem fit_int (i : Int) (h1 : -200 ≤ i) (h2 : i ≤ 200) : Fit 0 8 (.int i) := by
  have e : ∀ j : Fin 401, (decide (PyData.weight (.int ((j.val : Int) - 200)) ≤ 8) && PyData.intsShort 13 (.int ((j.val : Int) - 200)) && PyData.showable (.int ((j.val : Int) - 200))) = true := by decide +kernel
  obtain ⟨j, hj⟩ : ∃ j : Fin 401, i = (j.val : Int) - 200 := ⟨⟨(i + 200).toNat, by omega⟩, by show i = (((i + 200).toNat : Nat) : Int) - 200; omega⟩
  have q := e j
  rw [← hj, Bool.and_eq_true, Bool.and_eq_true, decide_eq_true_eq] at q
  exact ⟨by simp [PyData.canLay0], by simp [PyData.depth], q.1.1, q.1.2, q.2⟩
theorem fit_non : Fit 0 8 .none := ⟨by simp [PyData.canLay0], by simp [PyData.depth], by simp [PyData.weight], by simp [PyData.intsShort], by simp [PyData.showable]⟩
theorem fit_str {z : Str} (h1 : z.length ≤ 8) (h2 : ∀ c ∈ z.cps.toList, c < 0x110000) : Fit 0 8 (.str z) := by
  refine ⟨?_, by simp [PyData.depth], by simp only [PyData.weight]; exact h1, by simp [PyData.intsShort], by simp [PyData.showable]⟩
  simp only [PyData.canLay0, PyData.strOk]
  rw [Array.all_eq_true_iff_forall_mem]
  exact fun c hc => decide_eq_true (h2 c (Array.mem_toList_iff.mpr hc))
theorem fitAll {dp w : Nat} : ∀ {ds : List PyData}, (∀ d ∈ ds, Fit dp w d) → PyData.canLayAll0 ds = true ∧ PyData.depthAll ds ≤ dp ∧ PyData.weightAll ds ≤ ds.length * (w + 1) ∧ PyData.intsShortAll 13 ds = true ∧ PyData.showableAll ds = true
  | [], _ => ⟨by simp [PyData.canLayAll0], by simp [PyData.depthAll], by simp [PyData.weightAll], by simp [PyData.intsShortAll], by simp [PyData.showableAll]⟩
  | d :: ds, h => by
    obtain ⟨h1, h2, h3, h4, h5⟩ := fitAll (ds := ds) fun x hx => h x (List.mem_cons_of_mem _ hx)
    have hd := h d List.mem_cons_self
    have e2 := hd.dep
    have e3 := hd.wt
    refine ⟨by simp [PyData.canLayAll0, hd.lay, h1], by simp only [PyData.depthAll]; omega, ?_, by simp [PyData.intsShortAll, hd.short, h4], by simp [PyData.showableAll, hd.sh, h5]⟩
    simp only [PyData.weightAll, List.length_cons]
    have e : (ds.length + 1) * (w + 1) = ds.length * (w + 1) + (w + 1) := Nat.succ_mul _ _
    omega
theorem fit_list {dp w : Nat} {ds : List PyData} (h : ∀ d ∈ ds, Fit dp w d) : Fit (dp + 1) (ds.length * (w + 1)) (.list ds) := by
  obtain ⟨h1, h2, h3, h4, h5⟩ := fitAll h
  exact ⟨by simp only [PyData.canLay0]; exact h1, by simp only [PyData.depth]; omega, by simp only [PyData.weight]; exact h3, by simp only [PyData.intsShort]; exact h4, by simp only [PyData.showable]; exact h5⟩
theorem fit_tup {dp w : Nat} {ds : List PyData} (h : ∀ d ∈ ds, Fit dp w d) : Fit (dp + 1) (ds.length * (w + 1)) (.tuple ds) := by
  obtain ⟨h1, h2, h3, h4, h5⟩ := fitAll h
  exact ⟨by simp only [PyData.canLay0]; exact h1, by simp only [PyData.depth]; omega, by simp only [PyData.weight]; exact h3, by simp only [PyData.intsShort]; exact h4, by simp only [PyData.showable]; exact h5⟩
/-! ### data in the heap -/
section
variable {K : PySem.W.Frag} {H H' : Hp}
theorem dpStrs : ∀ ns : List Str, DpAll K H (ns.map V.str) (ns.map PyData.str)
  | [] => .nil
  | n :: r => .cons (.str n) (dpStrs r)
theorem dpRefs {xs : List V} {ds : List PyData} (hl : xs.length = ds.length) (h : ∀ (j : Nat) (x : V) (d : PyData), xs[j]? = some x → ds[j]? = some d → Dp K H x d) : DpAll K H xs ds := by
  induction xs generalizing ds with
  | nil =>
    cases ds with
    | nil => exact .nil
    | cons d r => cases hl
  | cons x r ih =>
    cases ds with
    | nil => cases hl
    | cons d ds => exact .cons (h 0 x d rfl rfl) (ih (Nat.succ.inj hl) fun j y e hy he => h (j + 1) y e (by simpa using hy) (by simpa using he))
/-- n tuples, each new or given -/
def TupsAt (K : PySem.W.Frag) (H : Hp) (xs : List V) (n : Nat) (g : Nat → List V) : Prop := xs.length = n ∧ ∀ j, j < n → ∃ x, xs[j]? = some (.ref x) ∧ SqT K H x (g j)
theorem TupsAt.nil {g : Nat → List V} : TupsAt K H [] 0 g := ⟨rfl, fun j h => absurd h (Nat.not_lt_zero j)⟩
theorem TupsAt.same {xs : List V} {n : Nat} {g : Nat → List V} (h : TupsAt K H xs n g) (e : Same H H') : TupsAt K H' xs n g := ⟨h.1, fun j hj => let ⟨x, h1, h2⟩ := h.2 j hj; ⟨x, h1, sqT_same e h2⟩⟩
theorem TupsAt.put {xs ys : List V} {n : Nat} {g : Nat → List V} {D : Addr} {o : HO} (h : TupsAt K H xs n g) (hD : H D = some (.lst ys)) : TupsAt K (upd H D o) xs n g := ⟨h.1, fun j hj => let ⟨x, h1, h2⟩ := h.2 j hj; ⟨x, h1, sqT_put hD h2⟩⟩
theorem TupsAt.snoc {xs : List V} {n : Nat} {g : Nat → List V} {x : Addr} (h : TupsAt K H xs n g) (hx : SqT K H x (g n)) : TupsAt K H (xs ++ [.ref x]) (n + 1) g := by
  have hl := h.1
  refine ⟨by rw [List.length_append, h.1]; rfl, fun j hj => ?_⟩
  by_cases hj2 : j < n
  · obtain ⟨y, h1, h2⟩ := h.2 j hj2
    exact ⟨y, by rw [List.getElem?_append_left (by omega)]; exact h1, h2⟩
  · have ej : j = n := by omega
    subst ej
    exact ⟨x, by rw [List.getElem?_append_right (by omega), hl, Nat.sub_self]; rfl, hx⟩
theorem TupsAt.app {xs ys : List V} {n k : Nat} {g h : Nat → List V} (a : TupsAt K H xs n g) (b : TupsAt K H ys k h) (e : ∀ j, j < k → h j = g (n + j)) : TupsAt K H (xs ++ ys) (n + k) g := by
  have hl := a.1
  refine ⟨by rw [List.length_append, a.1, b.1], fun j hj => ?_⟩
  by_cases hj2 : j < n
  · obtain ⟨y, h1, h2⟩ := a.2 j hj2
    exact ⟨y, by rw [List.getElem?_append_left (by omega)]; exact h1, h2⟩
  · obtain ⟨i, rfl⟩ : ∃ i, j = n + i := ⟨j - n, by omega⟩
    obtain ⟨y, h1, h2⟩ := b.2 i (by omega)
    rw [e i (by omega)] at h2
    exact ⟨y, by rw [List.getElem?_append_right (by omega), hl, Nat.add_sub_cancel_left]; exact h1, h2⟩
theorem TupsAt.dp {xs : List V} {n : Nat} {g : Nat → List V} {d : Nat → List PyData} (h : TupsAt K H xs n g) (hd : ∀ j, j < n → DpAll K H (g j) (d j)) : DpAll K H xs ((List.range n).map fun j => .tuple (d j)) := by
  refine dpRefs (by rw [h.1]; simp) fun j x e hx he => ?_
  have hj : j < n := by
    have := (List.getElem?_eq_some_iff.mp hx).1
    rw [h.1] at this
    exact this
  obtain ⟨y, h1, h2⟩ := h.2 j hj
  rw [hx] at h1
  cases h1
  have he' : PyData.tuple (d j) = e := by
    rw [List.getElem?_map, List.getElem?_range hj] at he
    exact Option.some.inj he
  subst he'
  exact .tup h2 (hd j hj)
end
end K3

namespace K3
open PySem PySem.Spec PyProof.Rows L2
section
variable {P : Program} {w : World} {K : PySem.W.Frag} {mg : Str → Option Value} {base : Heap}
/-! ### _law_deal -/
abbrev sDeal : Stmt := topS 39
theorem scDeal : FnScope ["_law_m", "_law_most", "_law_many", "_law_top", "_law_long", "_law_people_here"] ["_law_m", "_law_most", "_law_many", "_law_top", "_law_long"] (defScope sDeal) := ⟨rfl, rfl, rfl, by decide +kernel, rfl, by decide +kernel, by decide +kernel⟩
def spDeal (K : PySem.W.Frag) : Sp := fun vs H Q _ => ∃ (m : Addr) (B : Nat), vs = [.ref m, .int 6, .int 6, .int 9, .int 7] ∧ B ≤ 700000 ∧ MSt H m B ∧
  ∀ p ns rs H', SameX m H H' → MSt H' m (B + 56) → DealAt K H' p ns rs → Good ns rs → Small rs → Q (.ref p) H'
theorem ok_deal {f : Addr} {fd : FuncData} (F : Fun K "_law_deal" "_law_deal" sDeal f fd) (T : Nm mg) (DP : Def P w K mg base 3 "_law_people" ["_law_m", "_law_most"] spPeople) (DR : Def P w K mg base 3 "_law_runs" ["_law_m", "_law_total", "_law_many", "_law_top", "_law_long"] (spRuns K)) :
    FnOk P w K mg base CX0 4 f fd ["_law_m", "_law_most", "_law_many", "_law_top", "_law_long"] (spDeal K) := by
  refine F.ok scDeal (fun vs H Q E h => ?_) (fun cdv A outer s H vs Q E hr h => ?_)
  · obtain ⟨_, _, rfl, _⟩ := h
    rfl
  · obtain ⟨m, B, rfl, hB, hM, q⟩ := h
    refine ⟨_, pss_cons (ps_set (i := 5) scDeal.nd rfl (.inl rfl) (pe_d DP hr (by rfl) (pa_cons (pv 0) (pa_cons (pv 1) pa_nil))))
      (pss_one (ps_ret (pe_tup (pa_cons (pv 5) (pa_cons (pe_d DR hr (by rfl) (pa_cons (pv 0) (pa_cons (pe_callB call_len_seq (by rfl) T.len_ b_len (pa_cons (pv 5) pa_nil)) (pa_cons (pv 2) (pa_cons (pv 3) (pa_cons (pv 4) pa_nil)))))) pa_nil))))), ?_⟩
    refine ⟨_, rfl, _, rfl, m, 6, B, rfl, by decide, by decide, by omega, hM, fun n ns H1 e1 hM1 hN hok _ => ?_⟩
    have hl : (ns.map V.str).length = ns.length := List.length_map ..
    refine ⟨_, rfl, _, rfl, _, rfl, n, _, rfl, .inr hN.sq, _, rfl, _, rfl, _, rfl, m, ns.length, 6, 9, 7, B + 2, by rw [hl]; rfl, hok.one, hok.six, by decide, by decide, by decide, by decide, by decide, by decide, by omega, hM1, fun r rs H2 e2 hM2 hR hro hsm => ?_⟩
    refine ⟨(show 2 ≤ sizeLine by decide), fun p hp => ?_⟩
    exact q p ns rs _ ((e1.trans e2).trans (.new hp)) ((hM2.new hp).mono (by omega)) ⟨n, r, .of upd_same, (hN.sx hM1 e2).same (same_new hp), hR.same (same_new hp)⟩ ⟨hok, hro⟩ hsm

/-! ### _law_row -/
abbrev sRow : Stmt := topS 40
theorem scRow : FnScope ["_law_runs_here", "_law_size", "_law_found", "_law_coins", "_law_figures_here", "_law_left", "_law_k"] ["_law_runs_here", "_law_size"] (defScope sRow) := ⟨rfl, rfl, rfl, by decide +kernel, rfl, by decide +kernel, by decide +kernel⟩
def restI : Option Nat → Nat → Nat
  | none, left => left
  | some c, left => min c left
def tRest : TE := fun σ H Q => ∃ (c : Option Nat) (size : Nat) (p : Addr) (xs : List V), σ[1]? = some (some (V.int size)) ∧ σ[2]? = some (some (V.ref p)) ∧ σ[3]? = some (some (coinV c)) ∧ H p = some (.lst xs) ∧ xs.length ≤ size ∧ Q (.int (restI c (size - xs.length) : Nat)) H
def figL (rs : List Run) (n : Nat) : List Str := (List.range n).map fun k => figS [figAt rs k]
def spRow (K : PySem.W.Frag) : Sp := fun vs H Q _ => ∃ (r : Addr) (rs : List Run) (size : Nat), vs = [.ref r, .int size] ∧ RunsAt K H r rs ∧ Ends rs ∧ (∀ x ∈ rs, x.2 ≠ [] ∧ x.2.length ≤ 400) ∧ size ≤ 1000 ∧ ∀ p H', Same H H' → H p = none → H' p = some (.lst ((figL rs size).map .str)) → Q (.ref p) H'
theorem ok_row {f : Addr} {fd : FuncData} (F : Fun K "_law_row" "_law_row" sRow f fd) (T : Nm mg) : FnOk P w K mg base CX0 1 f fd ["_law_runs_here", "_law_size"] (spRow K) := by
  refine F.ok scRow (fun vs H Q E h => ?_) (fun cdv A outer s H vs Q E hr h => ?_)
  · obtain ⟨_, _, _, rfl, _⟩ := h
    rfl
  · obtain ⟨r, rs, size, rfl, hR, hE, hfs, hsz, q⟩ := h
    obtain ⟨xs, hX, hxl, hxs⟩ := hR
    have hl : (xs.map V.ref).length = rs.length := by rw [List.length_map, hxl]
    refine ⟨_, pss_cons (ps_set (i := 2) scRow.nd rfl (.inl rfl) (pe_lst pa_nil))
      (pss_cons (ps_for PassesOwn.never rfl (pi_tup (pv 0)) (pg_tup rfl (pgs_cons (pg_name (i := 3) scRow.nd rfl (.inl rfl)) (pgs_cons (pg_name (i := 4) scRow.nd rfl (.inr rfl)) pgs_nil)))
        (pss_cons (ps_set (i := 5) scRow.nd rfl (.inl rfl) (pe_imp (t' := tRest) (pe_ifExp (pt_cmp (pc_isN (pv 3))) (pe_op op_sub (pv 1) (pe_callB call_len_seq (by rfl) T.len_ b_len (pa_cons (pv 2) pa_nil)))
            (pe_callB (call_min2 rfl) (by rfl) T.min_ b_min (pa_cons (pv 3) (pa_cons (pe_op op_sub (pv 1) (pe_callB call_len_seq (by rfl) T.len_ b_len (pa_cons (pv 2) pa_nil))) pa_nil)))) (fun σ H Q hq => ?_)))
        (pss_one (ps_set (i := 2) scRow.nd rfl (.inl rfl) (pe_op op_cat (pv 2)
          (pe_lc (own := [("_law_k", 6)]) (g := gName 6) (tt := tYes) rfl scRow.nd (pi_range1 (by rfl) T.range_ (pa_cons (pv 5) pa_nil))
            (blkOk_by (N := ["_law_runs_here", "_law_size", "_law_found", "_law_coins", "_law_figures_here", "_law_left", "_law_k"]) (sc := defScope sRow) (by decide +kernel))
            (fun _ _ _ _ _ => pg_name (i := 6) scRow.nd rfl (Or.inl rfl)) (fun _ _ _ _ _ => pts_nil)
            (fun _ _ _ _ _ => pe_ix ix_str (pv 4) (pe_op op_mod (pe_callTy call_int1 (by rfl) T.int_ b_int (pa_cons (pv 6) pa_nil)) (pe_callB call_len_str (by rfl) T.len_ b_len (pa_cons (pv 4) pa_nil))) (fun _ _ => rfl))))))))
      (pss_one (ps_ret (pv 2)))), ?_⟩
    · obtain ⟨c, size, p, xs, h1, h2, h3, hp, hle, q⟩ := hq
      have e : ((size : Int) - (xs.length : Nat)) = ((size - xs.length : Nat) : Int) := by omega
      cases c with
      | none =>
        refine ⟨_, h3, _, rfl, iteT ⟨_, h1, _, h2, p, _, rfl, .inl (.of hp), _, _, rfl, rfl, ?_⟩⟩
        show Q (.int ((size : Int) - (xs.length : Nat))) H
        rw [e]
        exact q
      | some c =>
        refine ⟨_, h3, _, rfl, iteF ⟨_, h3, _, h1, _, h2, p, _, rfl, .inl (.of hp), _, _, rfl, rfl, _, _, rfl, ?_⟩⟩
        have e2 : (if ((size : Int) - (xs.length : Nat)) < ((c : Nat) : Int) then ((size : Int) - (xs.length : Nat)) else ((c : Nat) : Int)) = ((min c (size - xs.length) : Nat) : Int) := by
          split <;> omega
        show Q (.int (if ((size : Int) - (xs.length : Nat)) < ((c : Nat) : Int) then ((size : Int) - (xs.length : Nat)) else ((c : Nat) : Int))) H
        rw [e2]
        exact q
    refine ⟨Nat.zero_le _, fun p0 hp0 => ?_⟩
    have eP := same_new (o := .lst []) hp0
    have gP : upd H p0 (.lst []) p0 = some (.lst []) := upd_same
    generalize upd H p0 (.lst []) = H0 at eP gP
    refine ⟨_, rfl, r, rfl, ⟨_, sqT_same eP hX⟩, ?_⟩
    refine for_it (walk_tup (xs := xs.map V.ref)) (fun i σ H2 => ∃ (p : Addr) (m : Nat) (y3 y4 y5 : Option V), σ = [some (.ref r), some (.int size), some (.ref p), y3, y4, y5, none] ∧ RowInv rs size i m ∧ Same H H2 ∧ H p = none ∧ H2 p = some (.lst ((figL rs m).map .str)))
      ⟨p0, 0, none, none, none, rfl, .start hE, eP, hp0, gP⟩ (fun i σ H2 _ hp2 => ?_) (fun i x σ H2 H3 hi hp2 hy => ?_) (fun σ H2 hp2 => ?_)
    · obtain ⟨_, _, _, _, _, _, _, e2, _⟩ := hp2
      exact sqT_same e2 hX
    · obtain ⟨p, m, y3, y4, y5, rfl, hRI, e2, hpn, hpl⟩ := hp2
      obtain ⟨rfl, hx⟩ := hy
      have hi' : i < rs.length := by omega
      obtain ⟨x', hx', hRa⟩ := hxs i rs[i] (List.getElem?_eq_getElem hi')
      have ex : x = .ref x' := by
        rw [List.getElem?_map, hx'] at hx
        exact (Option.some.inj hx).symm
      subst ex
      have hRa2 := hRa.same e2
      have hri : rs[i]? = some rs[i] := List.getElem?_eq_getElem hi'
      have hok := hfs _ (List.getElem_mem hi')
      rcases hrc : rs[i] with ⟨c, z⟩
      rw [hrc] at hRa2 hri hok
      have hz0 : z ≠ [] := hok.1
      have hz4 : z.length ≤ 400 := hok.2
      have hz0' : 0 < z.length := List.length_pos_iff.mpr hz0
      have hzl : (figS z).length ≤ sizeLine := by rw [figS_len, sizeLine_eq]; omega
      have hstep : RowInv rs size (i + 1) (m + restI c (size - m)) ∧ ∀ k, k < restI c (size - m) → figAt rs (m + k) = z.getD (k % z.length) 0 ∧ place rs (m + k) = (i, k) := by
        cases c with
        | none => exact hRI.none hri
        | some c => exact hRI.some hri
      have hms := hRI.1
      have hns := hstep.1.1
      have hml : ((figL rs m).map V.str).length = m := by rw [List.length_map]; simp [figL]
      refine ⟨x', _, rfl, hRa2, rfl, _, _, rfl, _, _, rfl, rfl, ?_⟩
      refine ⟨c, size, p, _, rfl, rfl, rfl, hpl, by rw [hml]; exact hms, ?_⟩
      rw [hml]
      generalize hn : restI c (size - m) = n at hstep hns
      refine ⟨_, rfl, _, rfl, (n : Int), rfl, by omega, by omega, fun D hD => ?_⟩
      refine lc_it walk_range (fun j H4 => Same H3 H4 ∧ H4 D = some (.lst (((List.range j).map fun k => figS [figAt rs (m + k)]).map .str))) ⟨same_new hD, upd_same⟩ (fun _ _ _ _ => True.intro) (fun j y H4 H5 hj hp4 hy => ?_) (fun H4 hp4 => ?_)
      · obtain ⟨rfl, rfl⟩ := hy
        have hj' : j < n := by omega
        have hm : j % z.length < z.length := Nat.mod_lt _ hz0'
        have hd : z[j % z.length]? = some (figAt rs (m + j)) := by
          rw [(hstep.2 j hj').1, List.getD_eq_getElem?_getD, List.getElem?_eq_getElem hm]
          rfl
        have em : ((0 : Int) + (j : Nat)) % ((figS z).length : Nat) = ((j % z.length : Nat) : Int) := by rw [figS_len, Int.zero_add]; rfl
        refine ⟨rfl, lcYes ⟨_, rfl, _, rfl, .inl ⟨_, rfl, _, rfl, _, rfl, hzl, _, _, rfl, rfl, (by show (0 : Int) < ((figS z).length : Nat); rw [figS_len]; omega), ?_⟩⟩⟩
        refine ⟨_, _, _, rfl, rfl, hzl, by rw [em]; exact figS_get hd, ?_⟩
        refine ⟨_, hp4.2, by rw [List.length_map, List.length_map, List.length_range, sizeLine_eq]; omega, same_at hD hp4.1, ?_⟩
        rw [upd_same, range_snoc, List.map_append, List.map_append]
        rfl
      · have en : ((n : Nat) : Int).toNat = n := by omega
        rw [en] at hp4
        have hp4' := hp4.2
        refine ⟨p, D, _, _, rfl, rfl, hp4.1 _ _ hpl, hp4', by rw [hml, List.length_map, List.length_map, List.length_range, sizeLine_eq]; omega, fun p' hp' => ?_⟩
        refine ⟨p', m + n, some (coinV c), some (.str (figS z)), some (.int (n : Nat)), rfl, hstep.1, (e2.trans hp4.1).trans (same_new hp'), e2.free (hp4.1.free hp'), ?_⟩
        rw [upd_same, ← List.map_append]
        have eg : figL rs (m + n) = figL rs m ++ (List.range n).map fun k => figS [figAt rs (m + k)] := map_grow _ _ fun k hk => rfl
        rw [eg]
    · obtain ⟨p, m, y3, y4, y5, rfl, hRI, e2, hpn, hpl⟩ := hp2
      rw [hl] at hRI
      have hm := hRI.fin
      subst hm
      exact ⟨_, rfl, q p H2 e2 hpn hpl⟩
end
end K3

namespace K3
open PySem PySem.Spec PyProof.Rows L2
section
variable {P : Program} {w : World} {K : PySem.W.Frag} {mg : Str → Option Value} {base : Heap}
/-! ### _law_places -/
abbrev sPlaces : Stmt := topS 41
theorem scPlaces : FnScope ["_law_runs_here", "_law_size", "_law_found", "_law_number", "_law_coins", "_law_figures_here", "_law_left", "_law_k"] ["_law_runs_here", "_law_size"] (defScope sPlaces) := ⟨rfl, rfl, rfl, by decide +kernel, rfl, by decide +kernel, by decide +kernel⟩
def tRest4 : TE := fun σ H Q => ∃ (c : Option Nat) (size : Nat) (p : Addr) (xs : List V), σ[1]? = some (some (V.int size)) ∧ σ[2]? = some (some (V.ref p)) ∧ σ[4]? = some (some (coinV c)) ∧ H p = some (.lst xs) ∧ xs.length ≤ size ∧ Q (.int (restI c (size - xs.length) : Nat)) H
def placeT (rs : List Run) (k : Nat) : List V := [natV (place rs k).1, natV (place rs k).2]
def spPlaces (K : PySem.W.Frag) : Sp := fun vs H Q _ => ∃ (r : Addr) (rs : List Run) (size : Nat), vs = [.ref r, .int size] ∧ RunsAt K H r rs ∧ Ends rs ∧ size ≤ 1000 ∧ ∀ p xs H', Same H H' → H p = none → H' p = some (.lst xs) → TupsAt K H' xs size (placeT rs) → Q (.ref p) H'
theorem ok_places {f : Addr} {fd : FuncData} (F : Fun K "_law_places" "_law_places" sPlaces f fd) (T : Nm mg) : FnOk P w K mg base CX0 1 f fd ["_law_runs_here", "_law_size"] (spPlaces K) := by
  refine F.ok scPlaces (fun vs H Q E h => ?_) (fun cdv A outer s H vs Q E hr h => ?_)
  · obtain ⟨_, _, _, rfl, _⟩ := h
    rfl
  · obtain ⟨r, rs, size, rfl, hR, hE, hsz, q⟩ := h
    obtain ⟨xs, hX, hxl, hxs⟩ := hR
    have hl : (xs.map V.ref).length = rs.length := by rw [List.length_map, hxl]
    refine ⟨_, pss_cons (ps_set (i := 2) scPlaces.nd rfl (.inl rfl) (pe_lst pa_nil))
      (pss_cons (ps_for PassesOwn.never rfl (pi_enumT (by rfl) T.enumerate_ (pa_cons (pv 0) pa_nil)) (pg_tup rfl (pgs_cons (pg_name (i := 3) scPlaces.nd rfl (.inr rfl)) (pgs_cons (pg_tup rfl (pgs_cons (pg_name (i := 4) scPlaces.nd rfl (.inl rfl)) (pgs_cons (pg_name (i := 5) scPlaces.nd rfl (.inl rfl)) pgs_nil))) pgs_nil)))
        (pss_cons (ps_set (i := 6) scPlaces.nd rfl (.inl rfl) (pe_imp (t' := tRest4) (pe_ifExp (pt_cmp (pc_isN (pv 4))) (pe_op op_sub (pv 1) (pe_callB call_len_seq (by rfl) T.len_ b_len (pa_cons (pv 2) pa_nil)))
            (pe_callB (call_min2 rfl) (by rfl) T.min_ b_min (pa_cons (pv 4) (pa_cons (pe_op op_sub (pv 1) (pe_callB call_len_seq (by rfl) T.len_ b_len (pa_cons (pv 2) pa_nil))) pa_nil)))) (fun σ H Q hq => ?_)))
        (pss_one (ps_set (i := 2) scPlaces.nd rfl (.inl rfl) (pe_op op_cat (pv 2)
          (pe_lc (own := [("_law_k", 7)]) (g := gName 7) (tt := tYes) rfl scPlaces.nd (pi_range1 (by rfl) T.range_ (pa_cons (pv 6) pa_nil))
            (blkOk_by (N := ["_law_runs_here", "_law_size", "_law_found", "_law_number", "_law_coins", "_law_figures_here", "_law_left", "_law_k"]) (sc := defScope sPlaces) (by decide +kernel))
            (fun _ _ _ _ _ => pg_name (i := 7) scPlaces.nd rfl (Or.inl rfl)) (fun _ _ _ _ _ => pts_nil)
            (fun _ _ _ _ _ => pe_tup (pa_cons (pv 3) (pa_cons (pv 7) pa_nil)))))))))
      (pss_one (ps_ret (pv 2)))), ?_⟩
    · obtain ⟨c, size, p, xs, h1, h2, h3, hp, hle, q⟩ := hq
      have e : ((size : Int) - (xs.length : Nat)) = ((size - xs.length : Nat) : Int) := by omega
      cases c with
      | none =>
        refine ⟨_, h3, _, rfl, iteT ⟨_, h1, _, h2, p, _, rfl, .inl (.of hp), _, _, rfl, rfl, ?_⟩⟩
        show Q (.int ((size : Int) - (xs.length : Nat))) H
        rw [e]
        exact q
      | some c =>
        refine ⟨_, h3, _, rfl, iteF ⟨_, h3, _, h1, _, h2, p, _, rfl, .inl (.of hp), _, _, rfl, rfl, _, _, rfl, ?_⟩⟩
        have e2 : (if ((size : Int) - (xs.length : Nat)) < ((c : Nat) : Int) then ((size : Int) - (xs.length : Nat)) else ((c : Nat) : Int)) = ((min c (size - xs.length) : Nat) : Int) := by
          split <;> omega
        show Q (.int (if ((size : Int) - (xs.length : Nat)) < ((c : Nat) : Int) then ((size : Int) - (xs.length : Nat)) else ((c : Nat) : Int))) H
        rw [e2]
        exact q
    refine ⟨Nat.zero_le _, fun p0 hp0 => ?_⟩
    have eP := same_new (o := .lst []) hp0
    have gP : upd H p0 (.lst []) p0 = some (.lst []) := upd_same
    generalize upd H p0 (.lst []) = H0 at eP gP
    refine ⟨_, rfl, r, _, rfl, sqT_same eP hX, ?_⟩
    refine for_it (walk_enumT (xs := xs.map V.ref)) (fun i σ H2 => ∃ (p : Addr) (m : Nat) (ys : List V) (y3 y4 y5 y6 : Option V), σ = [some (.ref r), some (.int size), some (.ref p), y3, y4, y5, y6, none] ∧ RowInv rs size i m ∧ Same H H2 ∧ H p = none ∧ H2 p = some (.lst ys) ∧ TupsAt K H2 ys m (placeT rs))
      ⟨p0, 0, [], none, none, none, none, rfl, .start hE, eP, hp0, gP, .nil⟩ (fun i σ H2 _ hp2 => ?_) (fun i x σ H2 H3 hi hp2 hy => ?_) (fun σ H2 hp2 => ?_)
    · obtain ⟨_, _, _, _, _, _, _, _, _, e2, _⟩ := hp2
      exact sqT_same e2 hX
    · obtain ⟨p, m, ys, y3, y4, y5, y6, rfl, hRI, e2, hpn, hpl, hys⟩ := hp2
      obtain ⟨T', x1, x2, rfl, hTn, rfl, g1, g2⟩ := hy
      dsimp only at g1 g2
      cases g1
      have hi' : i < rs.length := by omega
      obtain ⟨x', hx', hRa⟩ := hxs i rs[i] (List.getElem?_eq_getElem hi')
      have ex2 : x2 = .ref x' := by
        rw [List.getElem?_map, hx'] at g2
        exact (Option.some.inj g2).symm
      subst ex2
      have gT : upd H2 T' (.tup [.int (i : Nat), .ref x']) T' = some (.tup [.int (i : Nat), .ref x']) := upd_same
      have e23 : Same H2 (upd H2 T' (.tup [.int (i : Nat), .ref x'])) := same_new hTn
      generalize upd H2 T' (.tup [.int (i : Nat), .ref x']) = H3 at gT e23
      have e3 : Same H H3 := e2.trans e23
      have hRa2 := hRa.same e3
      have hri : rs[i]? = some rs[i] := List.getElem?_eq_getElem hi'
      rcases hrc : rs[i] with ⟨c, z⟩
      rw [hrc] at hRa2 hri
      have hstep : RowInv rs size (i + 1) (m + restI c (size - m)) ∧ ∀ k, k < restI c (size - m) → figAt rs (m + k) = z.getD (k % z.length) 0 ∧ place rs (m + k) = (i, k) := by
        cases c with
        | none => exact hRI.none hri
        | some c => exact hRI.some hri
      have hms := hRI.1
      have hns := hstep.1.1
      have hml : ys.length = m := hys.1
      refine ⟨T', _, rfl, .of gT, rfl, _, _, rfl, _, _, rfl, ⟨x', _, rfl, hRa2, rfl, _, _, rfl, _, _, rfl, rfl, ?_⟩⟩
      refine ⟨rfl, c, size, p, _, rfl, rfl, rfl, e23 _ _ hpl, by rw [hml]; exact hms, ?_⟩
      rw [hml]
      generalize hn : restI c (size - m) = n at hstep hns
      refine ⟨_, rfl, _, rfl, (n : Int), rfl, by omega, by omega, fun D hD => ?_⟩
      refine lc_it walk_range (fun j H4 => Same H3 H4 ∧ ∃ zs, H4 D = some (.lst zs) ∧ TupsAt K H4 zs j (fun k => [natV i, natV k])) ⟨same_new hD, [], upd_same, .nil⟩ (fun _ _ _ _ => True.intro) (fun j y H5 H4 hj hp4 hy => ?_) (fun H4 hp4 => ?_)
      · obtain ⟨rfl, rfl⟩ := hy
        obtain ⟨e4, zs, hz, hzs⟩ := hp4
        have hj' : j < n := by omega
        refine ⟨rfl, lcYes ⟨_, rfl, _, rfl, (show 2 ≤ sizeLine by decide), fun t ht => ?_⟩⟩
        have e45 : Same H4 (upd H4 t (.tup [.int (i : Nat), .int (0 + (j : Nat))])) := same_new ht
        have gt : upd H4 t (.tup [.int (i : Nat), .int (0 + (j : Nat))]) t = some (.tup [natV i, natV j]) := by rw [upd_same, Int.zero_add]; rfl
        have gz := e45 _ _ hz
        refine ⟨_, gz, by rw [hzs.1, sizeLine_eq]; omega, same_at hD (e4.trans e45), _, upd_same, ?_⟩
        exact ((hzs.same e45).snoc (g := fun k => [natV i, natV k]) (.of gt)).put gz
      · have en : ((n : Nat) : Int).toNat = n := by omega
        rw [en] at hp4
        obtain ⟨e4, zs, hz, hzs⟩ := hp4
        refine ⟨p, D, _, _, rfl, rfl, e4 _ _ (e23 _ _ hpl), hz, by rw [hml, hzs.1, sizeLine_eq]; omega, fun p' hp' => ?_⟩
        have e5 : Same H4 (upd H4 p' (.lst (ys ++ zs))) := same_new hp'
        refine ⟨p', m + n, ys ++ zs, some (.int (i : Nat)), some (coinV c), some (.str (figS z)), some (.int (n : Nat)), rfl, hstep.1, (e3.trans e4).trans e5, e3.free (e4.free hp'), upd_same, ?_⟩
        refine (((hys.same e23).same e4).same e5).app (hzs.same e5) fun k hk => ?_
        have hp := (hstep.2 k hk).2
        show [natV i, natV k] = [natV (place rs (m + k)).1, natV (place rs (m + k)).2]
        rw [hp]
    · obtain ⟨p, m, ys, y3, y4, y5, y6, rfl, hRI, e2, hpn, hpl, hys⟩ := hp2
      rw [hl] at hRI
      have hm := hRI.fin
      subst hm
      exact ⟨_, rfl, q p ys H2 e2 hpn hpl hys⟩
end
end K3

namespace K3
open PySem PySem.Spec PyProof.Rows L2
theorem ps_imp {X : Cx} {st : Stmt} {t t' : TS} (h : PS X st t) (hw : ∀ D σ H, t' D σ H → t D σ H) : PS X st t' := ⟨fun pins s σ H D I q => h.run pins s σ H D I (hw _ _ _ q)⟩
theorem neF {x : V} : V.bl (!decide (x = x)) = .bl false := by rw [decide_eq_true rfl]; rfl
theorem eqvF {dp w : Nat} {d : PyData} (h : Fit dp w d) : V.bl (!PyData.eqv d d) = .bl false := by rw [h.refl]; rfl
theorem eqvT {dp w : Nat} {d : PyData} (h : Fit dp w d) : V.bl (PyData.eqv d d) = .bl true := by rw [h.refl]
/-- [f(x, y) for x, y in zip(a, b)], a and b tuples of as many numbers -/
theorem lc_zip {K : PySem.W.Frag} {a b D : Addr} {ns ms : List Int} {H1 : Hp} {σ : L2.St} {g : TG} {te : TE} {vs : List Nat} {Qd : Hp → Prop} {N : Nat} (f : Int → Int → Int) (hN : N = (ns.map V.int).length) (hl : ns.length = ms.length) (h1000 : ns.length ≤ 1000) (hD : H1 D = none)
    (ha : SqT K H1 a (ns.map .int)) (hb : SqT K H1 b (ms.map .int))
    (hs : ∀ (n m : Int) (T : Addr) (H : Hp) (R : V → Hp → Prop) (S : Hp → Prop), R (.int (f n m)) (upd H T (.tup [.int n, .int m])) → g (.ref T) (wipe σ vs) (upd H T (.tup [.int n, .int m])) fun σ2 H2 => wipe σ2 vs = wipe σ vs ∧ tYes σ2 H2 fun b H3 => if b = true then te σ2 H3 R else S H3)
    (q : ∀ H2, Same H1 H2 → H2 D = some (.lst ((List.zipWith f ns ms).map .int)) → Qd H2) :
    ∃ W : Nat → Nat → Hp → Prop, (∃ m, W 0 m (upd H1 D (.lst []))) ∧ ∀ i m H, W i m H →
      ((RZ.ItzT K a b).stop i H ∧ Qd H) ∨ ((RZ.ItzT K a b).go i H ∧ ∃ Nx : Hp → Prop, (∀ H', Nx H' → ∃ m', m' < m ∧ W (i + 1) m' H') ∧ ∀ x H', (RZ.ItzT K a b).yld i H x H' → g x (wipe σ vs) H' fun σ2 H2 => wipe σ2 vs = wipe σ vs ∧ tYes σ2 H2 fun b H3 =>
        if b = true then te σ2 H3 fun y H4 => ∃ acc, H4 D = some (.lst acc) ∧ acc.length < sizeLine ∧ Nx (upd H4 D (.lst (acc ++ [y]))) else Nx H3) := by
  have hl1 : (ns.map V.int).length = ns.length := List.length_map ..
  have hl2 : (ms.map V.int).length = ms.length := List.length_map ..
  subst hN
  refine lc_it (walk_zipT (n := (ns.map V.int).length) (by omega)) (fun i H4 => Same H1 H4 ∧ H4 D = some (.lst (((List.zipWith f ns ms).take i).map .int))) ⟨same_new hD, upd_same⟩
    (fun i H4 _ hp4 => ⟨sqT_same hp4.1 ha, sqT_same hp4.1 hb⟩) (fun i x H4 H5 hi hp4 hy => ?_) (fun H4 hp4 => ?_)
  · obtain ⟨T', x1, x2, rfl, hTn, rfl, g1, g2⟩ := hy
    dsimp only at g1 g2
    have hi1 : i < ns.length := by omega
    have hi2 : i < ms.length := by omega
    have ex1 : x1 = .int ns[i] := by
      rw [List.getElem?_map, List.getElem?_eq_getElem hi1] at g1
      exact (Option.some.inj g1).symm
    have ex2 : x2 = .int ms[i] := by
      rw [List.getElem?_map, List.getElem?_eq_getElem hi2] at g2
      exact (Option.some.inj g2).symm
    subst ex1 ex2
    have hDT : D ≠ T' := ne_of_none hp4.2 hTn
    have hz : (List.zipWith f ns ms)[i]? = some (f ns[i] ms[i]) := by
      rw [List.getElem?_zipWith, List.getElem?_eq_getElem hi1, List.getElem?_eq_getElem hi2]
    have hzl : (((List.zipWith f ns ms).take i).map V.int).length < sizeLine := by
      rw [List.length_map, List.length_take, sizeLine_eq]
      omega
    refine hs _ _ T' H4 _ _ ⟨_, (upd_ne hDT).trans hp4.2, hzl, same_at hD (hp4.1.trans (same_new hTn)), ?_⟩
    rw [upd_same, take_grow hz, List.map_append]
    rfl
  · have hfull : (List.zipWith f ns ms).take (ns.map V.int).length = List.zipWith f ns ms := List.take_of_length_le (by rw [List.length_zipWith]; omega)
    have h2 := hp4.2
    rw [hfull] at h2
    exact q H4 hp4.1 h2

/-! ### what is gotten, by the sums -/
def intsL (l : List Nat) : List Int := l.map fun n => ((n : Nat) : Int)
theorem map_natV (l : List Nat) : l.map natV = (intsL l).map V.int := by
  unfold intsL
  rw [List.map_map]
  rfl
theorem ints_len (l : List Nat) : (intsL l).length = l.length := List.length_map ..
theorem zip_ints (l m : List Nat) : List.zipWith (fun x y : Int => y - x) (intsL l) (intsL m) = lessOf l m := by
  unfold intsL lessOf
  rw [List.zipWith_map]
theorem lessOf_add : ∀ (l m n : List Nat), l.length = m.length → m.length = n.length → List.zipWith (fun x y : Int => x + y) (lessOf l m) (lessOf m n) = lessOf l n
  | [], [], [], _, _ => rfl
  | a :: l, b :: m, c :: n, h1, h2 => by
    have ih := lessOf_add l m n (Nat.succ.inj h1) (Nat.succ.inj h2)
    show (((b : Int) - a) + ((c : Int) - b)) :: List.zipWith (fun x y : Int => x + y) (lessOf l m) (lessOf m n) = ((c : Int) - a) :: lessOf l n
    rw [ih]
    congr 1
    omega
  | [], _ :: _, _, h, _ => nomatch h
  | _ :: _, [], _, h, _ => nomatch h
  | [], [], _ :: _, _, h => nomatch h
  | _ :: _, _ :: _, [], _, h => nomatch h
theorem lessOf_self : ∀ l : List Nat, lessOf l l = List.replicate l.length 0
  | [] => rfl
  | a :: l => by
    show ((a : Int) - a) :: lessOf l l = List.replicate (l.length + 1) 0
    rw [lessOf_self l, List.replicate_succ]
    congr 1
    omega
theorem lessOf_small {B : Nat} : ∀ {l m : List Nat}, (∀ n ∈ l, n ≤ B) → (∀ n ∈ m, n ≤ B) → ∀ i ∈ lessOf l m, -(B : Int) ≤ i ∧ i ≤ B
  | [], m, _, _, i, h => by
    cases m <;> cases h
  | _ :: _, [], _, _, i, h => by cases h
  | a :: l, b :: m, h1, h2, i, h => by
    have h' : i ∈ ((b : Int) - a) :: lessOf l m := h
    rcases List.mem_cons.mp h' with e | e
    · have q1 := h1 a List.mem_cons_self
      have q2 := h2 b List.mem_cons_self
      omega
    · exact lessOf_small (fun n hn => h1 n (List.mem_cons_of_mem _ hn)) (fun n hn => h2 n (List.mem_cons_of_mem _ hn)) i e
theorem fitInts {ns : List Int} (hl : ns.length ≤ 100) (h : ∀ i ∈ ns, -200 ≤ i ∧ i ≤ 200) : Fit 1 900 (.tuple (ns.map PyData.int)) := by
  refine (fit_tup (dp := 0) (w := 8) fun d hd => ?_).mono (Nat.le_refl _) (by rw [List.length_map]; omega)
  obtain ⟨i, hi, rfl⟩ := List.mem_map.mp hd
  exact fit_int i (h i hi).1 (h i hi).2
theorem WordOk.fit {z : Str} (h : WordOk z) : Fit 0 8 (.str z) := by
  refine fit_str (by have := h.2.1; omega) fun c hc => ?_
  have hm := h.2.2 c hc
  have e : ∀ c ∈ letters.cps.toList, c < 0x110000 := by decide +kernel
  exact e c hm
theorem figS_fit {f : List Nat} (h : f.length ≤ 7) (hd : ∀ d ∈ f, d < 100) : Fit 0 8 (.str (figS f)) := by
  refine fit_str (by rw [figS_len]; omega) fun c hc => ?_
  have e2 : (figS f).cps.toList = f.map (· + 48) := by
    show ((f.map (· + 48)).toArray).toList = _
    simp
  rw [e2] at hc
  obtain ⟨d, hd', rfl⟩ := List.mem_map.mp hc
  have := hd d hd'
  show d + 48 < 0x110000
  omega
end K3

namespace K3
open PySem PySem.Spec PyProof.Rows L2
/-- data that repr shows -/
structure OkD (d : PyData) : Prop where
  lay : d.layable0 = true
  short : d.intsShort 13 = true
  sh : d.showable = true
theorem Fit.ok {dp w : Nat} {d : PyData} (h : Fit dp w d) (h1 : dp ≤ 64) (h2 : w ≤ 1048576) : OkD d := ⟨h.layable h1 h2, h.short, h.sh⟩
abbrev sRight : Stmt := topS 42
abbrev NR : List Str := ["_law_m", "_law_pact", "_law_people_here", "_law_runs_here", "_law_total", "_law_row_here", "_law_sums", "_law_own", "_law_one", "_law_again", "_law_begin", "_law_more", "_law_far", "_law_due", "_law_told", "_law_both", "_law_sign", "_law_k", "_law_two"]
theorem scRight : FnScope NR ["_law_m", "_law_pact"] (defScope sRight) := ⟨rfl, rfl, rfl, by decide +kernel, rfl, by decide +kernel, by decide +kernel⟩
def stR (i : Nat) : Stmt := (defBody sRight).getD i (.Pass ⟨0, 0, 0, 0⟩)
def sumT (rs : List Run) (t k : Nat) : List V := (sumsAt rs t k).map natV
/-- the six draws and what they check -/
def tLaps (K : PySem.W.Frag) : TS := fun D σ H => ∃ (m pa np rp ra sa oa : Addr) (ns : List Str) (rs : List Run) (xs : List V) (B : Nat) (y8 y9 y10 y11 y12 y13 y14 y15 : Option V),
  σ = [some (.ref m), some (.ref pa), some (.ref np), some (.ref rp), some (.int ns.length), some (.ref ra), some (.ref sa), some (.ref oa), y8, y9, y10, y11, y12, y13, y14, y15, none, none, none] ∧
  DealAt K H pa ns rs ∧ Good ns rs ∧ H ra = some (.lst ((rowOf ns rs 0 90).map .str)) ∧ H sa = some (.lst xs) ∧ TupsAt K H xs 91 (sumT rs ns.length) ∧ MSt H m B ∧ B ≤ 800000 ∧ ∀ σ' H', SameX m H H' → MSt H' m (B + 18) → D.nx σ' H'
theorem TupsAt.sx {K : PySem.W.Frag} {H H' : Hp} {m : Addr} {B : Nat} {xs : List V} {n : Nat} {g : Nat → List V} (hM : MSt H m B) (e : SameX m H H') (h : TupsAt K H xs n g) : TupsAt K H' xs n g := ⟨h.1, fun j hj => let ⟨x, h1, h2⟩ := h.2 j hj; ⟨x, h1, sqT_sx hM e h2⟩⟩
theorem cut_row (ns : List Str) (rs : List Run) (b c : Nat) (h : b + c ≤ 90) : cutV ((rowOf ns rs 0 90).map V.str) (some (b : Int)) (some ((b + c : Nat) : Int)) = (rowOf ns rs b c).map V.str := by
  have hl : ((rowOf ns rs 0 90).map V.str).length = 90 := by rw [List.length_map, rowOf_len]
  unfold cutV
  rw [HT.sIx_nat, HT.sIx_nat, hl, Nat.min_eq_left h, Nat.min_eq_left (show b ≤ 90 by omega), Nat.add_sub_cancel_left, ← List.map_drop, ← List.map_take]
  congr 1
  refine List.ext_getElem? fun i => ?_
  by_cases hi : i < c
  · rw [List.getElem?_take_of_lt hi, List.getElem?_drop]
    unfold rowOf
    rw [List.getElem?_map, List.getElem?_map, List.getElem?_range (by omega), List.getElem?_range hi]
    show some (nameOf ns rs (0 + (b + i))) = some (nameOf ns rs (b + i))
    rw [Nat.zero_add]
  · rw [List.getElem?_eq_none (by rw [List.length_take]; omega), List.getElem?_eq_none (by rw [rowOf_len]; omega)]
theorem dpTupI {K : PySem.W.Frag} {H : Hp} {a : Addr} {ns : List Int} (h : H a = some (.tup (ns.map .int))) : Dp K H (.ref a) (.tuple (ns.map .int)) := .tup (.of h) (dpInts ns)
section
variable {P : Program} {w : World} {K : PySem.W.Frag} {mg : Str → Option Value} {base : Heap} {f : Addr} {cdv : Value} {A : Around} {outer : List Env} {s : Shared} {H0 : Hp}
theorem right_laps (T : Nm mg) (hgd : (A.deeper (envOfC "_law_right" (defScope sRight) s.heap.objs.size f cdv)).guards = some []) (hr : Room 4 (A.deeper (envOfC "_law_right" (defScope sRight) s.heap.objs.size f cdv)))
    (DD : Def P w K mg base 1 "_law_draw" ["_law_m", "_law_many"] spDraw) (DG : Def P w K mg base 4 "gets" ["deal", "behind", "coins"] (spGets K)) (DP : Def P w K mg base 4 "row_part" ["deal", "begin", "size"] (spRowPart K)) :
    PS (cxOf CX0 P w K mg base NR "_law_right" (defScope sRight) f cdv A outer s H0 E0).nox (stR 9) (tLaps K) := by
  have hr1 := hr.mono (show 1 ≤ 4 by decide)
  have hu66 : (A.deeper (envOfC "_law_right" (defScope sRight) s.heap.objs.size f cdv)).units + 66 < cLine := by have := hr.un; omega
  refine ps_imp (ps_for PassesOwn.never rfl (pi_range1 (by rfl) T.range_ (pa_cons pe_int pa_nil)) (pg_name (i := 9) scRight.nd rfl (.inl rfl))
    (pss_cons (ps_set (i := 10) scRight.nd rfl (.inl rfl) (pe_d DD hr1 (by rfl) (pa_cons (pv 0) (pa_cons pe_int pa_nil))))
    (pss_cons (ps_par (i := 11) (j := 12) rfl scRight.nd rfl rfl (by decide) rfl rfl (pa_cons (pe_d DD hr1 (by rfl) (pa_cons (pv 0) (pa_cons pe_int pa_nil))) (pa_cons (pe_d DD hr1 (by rfl) (pa_cons (pv 0) (pa_cons pe_int pa_nil))) pa_nil)) (by rfl))
    (pss_cons (ps_set (i := 13) scRight.nd rfl (.inl rfl) (pe_lst (pa_cons (pe_callTy call_tuple_of (by rfl) T.tuple_ b_tuple (pa_cons
        (pe_lc (own := [("_law_one", 8), ("_law_two", 18)]) (g := gTup K 2 (gCons (gName 8) (gCons (gName 18) gNil))) (tt := tYes) rfl scRight.nd (RZ.pi_zipA (by rfl) T.zip_ (pa_cons (pe_ix ix_list (pv 6) (pv 10) (fun _ _ => rfl)) (pa_cons (pe_ix ix_list (pv 6) (pe_op op_add (pv 10) (pv 11)) (fun _ _ => rfl)) pa_nil)))
          (blkOk_by (N := NR) (sc := defScope sRight) (by decide +kernel))
          (fun _ _ _ _ _ => pg_tup rfl (pgs_cons (pg_name (i := 8) scRight.nd rfl (Or.inl rfl)) (pgs_cons (pg_name (i := 18) scRight.nd rfl (Or.inl rfl)) pgs_nil))) (fun _ _ _ _ _ => pts_nil)
          (fun _ _ _ _ _ => pe_op op_sub (pv 18) (pv 8))) pa_nil)) pa_nil)))
    (pss_cons (ps_expr (pe_bm PySem.F.plainAttrs_list PySem.F.slot_list_append PySem.F.type_list_append mt_append (pv 13) (pa_cons (pe_callTy call_tuple_of (by rfl) T.tuple_ b_tuple (pa_cons
        (pe_lc (own := [("_law_one", 8), ("_law_two", 18)]) (g := gTup K 2 (gCons (gName 8) (gCons (gName 18) gNil))) (tt := tYes) rfl scRight.nd (RZ.pi_zipA (by rfl) T.zip_ (pa_cons (pe_ix ix_list (pv 6) (pe_op op_add (pv 10) (pv 11)) (fun _ _ => rfl)) (pa_cons (pe_ix ix_list (pv 6) (pe_op op_add (pe_op op_add (pv 10) (pv 11)) (pv 12)) (fun _ _ => rfl)) pa_nil)))
          (blkOk_by (N := NR) (sc := defScope sRight) (by decide +kernel))
          (fun _ _ _ _ _ => pg_tup rfl (pgs_cons (pg_name (i := 8) scRight.nd rfl (Or.inl rfl)) (pgs_cons (pg_name (i := 18) scRight.nd rfl (Or.inl rfl)) pgs_nil))) (fun _ _ _ _ _ => pts_nil)
          (fun _ _ _ _ _ => pe_op op_sub (pv 18) (pv 8))) pa_nil)) pa_nil)))
    (pss_cons (ps_set (i := 14) scRight.nd rfl (.inl rfl) (pe_lst (pa_cons (pe_d DG hr (by rfl) (pa_cons (pv 1) (pa_cons (pv 10) (pa_cons (pv 11) pa_nil)))) (pa_cons (pe_d DG hr (by rfl) (pa_cons (pv 1) (pa_cons (pe_op op_add (pv 10) (pv 11)) (pa_cons (pv 12) pa_nil)))) pa_nil))))
    (pss_cons (ps_if (pt_cmpR op_ne (pe_callB (call_repr_data hgd hu66) (by rfl) T.repr_ b_repr (pa_cons (pv 14) pa_nil)) (pe_callB (call_repr_data hgd hu66) (by rfl) T.repr_ b_repr (pa_cons (pv 13) pa_nil)) (nomark _)) pss_never pss_nil)
    (pss_cons (ps_if (pt_cmpR op_ne (pe_callB (call_repr_data hgd hu66) (by rfl) T.repr_ b_repr (pa_cons (pe_d DP hr (by rfl) (pa_cons (pv 1) (pa_cons (pv 10) (pa_cons (pv 11) pa_nil)))) pa_nil))
        (pe_callB (call_repr_data hgd hu66) (by rfl) T.repr_ b_repr (pa_cons (pe_callTy call_tuple_of (by rfl) T.tuple_ b_tuple (pa_cons (pe_slice sl_list (pv 5) (po_some (pv 10)) (po_some (pe_op op_add (pv 10) (pv 11)))) pa_nil)) pa_nil)) (nomark _)) pss_never pss_nil)
    (pss_cons (ps_set (i := 15) scRight.nd rfl (.inl rfl) (pe_callTy call_tuple_of (by rfl) T.tuple_ b_tuple (pa_cons
        (pe_lc (own := [("_law_one", 8), ("_law_two", 18)]) (g := gTup K 2 (gCons (gName 8) (gCons (gName 18) gNil))) (tt := tYes) rfl scRight.nd (RZ.pi_zipA (by rfl) T.zip_ (pa_cons (pe_ix ix_list (pv 14) pe_int (fun _ _ => rfl)) (pa_cons (pe_ix ix_list (pv 14) pe_int (fun _ _ => rfl)) pa_nil)))
          (blkOk_by (N := NR) (sc := defScope sRight) (by decide +kernel))
          (fun _ _ _ _ _ => pg_tup rfl (pgs_cons (pg_name (i := 8) scRight.nd rfl (Or.inl rfl)) (pgs_cons (pg_name (i := 18) scRight.nd rfl (Or.inl rfl)) pgs_nil))) (fun _ _ _ _ _ => pts_nil)
          (fun _ _ _ _ _ => pe_op op_add (pv 8) (pv 18))) pa_nil)))
    (pss_one (ps_if (PW.pt (pw_or (pt_cmpR (op_neD hr.units) (pe_d DG hr (by rfl) (pa_cons (pv 1) (pa_cons (pv 10) (pa_cons (pe_op op_add (pv 11) (pv 12)) pa_nil)))) (pv 15) (nomark _))
        (pw_or1 (pt_cmpR (op_neD hr.units) (pe_d DG hr (by rfl) (pa_cons (pv 1) (pa_cons (pv 10) (pa_cons pe_int pa_nil)))) (pe_op (op_rep1.or op_repT) (pe_tup (pa_cons pe_int pa_nil)) (pv 4)) (nomark _))))) pss_never pss_nil))))))))))) (fun D σ H q => ?_)
  obtain ⟨m, pa, np, rp, ra, sa, oa, ns, rs, xs, B, y8, y9, y10, y11, y12, y13, y14, y15, rfl, hD, ok, hra, hsa, hxs, hM, hB, q⟩ := q
  have h6 := ok.names.six
  have h1 := ok.names.one
  refine ⟨6, rfl, by decide, by decide, ?_⟩
  refine for_it walk_range (fun i σ H2 => ∃ y8 y9 y10 y11 y12 y13 y14 y15 : Option V, σ = [some (.ref m), some (.ref pa), some (.ref np), some (.ref rp), some (.int ns.length), some (.ref ra), some (.ref sa), some (.ref oa), y8, y9, y10, y11, y12, y13, y14, y15, none, none, none] ∧ SameX m H H2 ∧ MSt H2 m (B + 3 * i))
    ⟨y8, y9, y10, y11, y12, y13, y14, y15, rfl, .refl _ _, hM⟩ (fun _ _ _ _ _ => True.intro) (fun i x σ H3 H2 hi hp2 hy => ?_) (fun σ H2 hp2 => ?_)
  · obtain ⟨z8, z9, z10, z11, z12, z13, z14, z15, rfl, e2, hM2⟩ := hp2
    obtain ⟨rfl, rfl⟩ := hy
    have hi6 : i < 6 := hi
    refine ⟨_, rfl, m, 60, _, rfl, by decide, by decide, by omega, hM2, fun b H3 e3 hM3 hb => ?_⟩
    refine ⟨_, rfl, m, 16, _, rfl, by decide, by decide, by omega, hM3, fun c H4 e4 hM4 hc => ⟨_, rfl, m, 15, _, rfl, by decide, by decide, by omega, hM4, fun d H5 e5 hM5 hd => ⟨_, _, rfl, ?_⟩⟩⟩
    have eX : SameX m H H5 := ((e2.trans e3).trans e4).trans e5
    have hD5 := hD.sx hM eX
    have hra5 := at_sx hM eX hra
    have hsa5 := at_sx hM eX hsa
    have hxs5 := hxs.sx hM eX
    obtain ⟨x1, hx1, hT1⟩ := hxs5.2 b (by omega)
    obtain ⟨x2, hx2, hT2⟩ := hxs5.2 (b + c) (by omega)
    obtain ⟨x3, hx3, hT3⟩ := hxs5.2 (b + c + d) (by omega)
    have en1 : sumT rs ns.length b = (intsL (sumsAt rs ns.length b)).map V.int := map_natV _
    have en2 : sumT rs ns.length (b + c) = (intsL (sumsAt rs ns.length (b + c))).map V.int := map_natV _
    have en3 : sumT rs ns.length (b + c + d) = (intsL (sumsAt rs ns.length (b + c + d))).map V.int := map_natV _
    rw [en1] at hT1
    rw [en2] at hT2
    rw [en3] at hT3
    have hl1 : (intsL (sumsAt rs ns.length b)).length = ns.length := by rw [ints_len, sumsAt_len]
    have hl2 : (intsL (sumsAt rs ns.length (b + c))).length = ns.length := by rw [ints_len, sumsAt_len]
    have hl3 : (intsL (sumsAt rs ns.length (b + c + d))).length = ns.length := by rw [ints_len, sumsAt_len]
    -- due
    refine ⟨_, rfl, _, rfl, sa, _, _, _, rfl, rfl, .of hsa5, atI_nat hx1, _, rfl, _, rfl, _, rfl, _, _, rfl, rfl, sa, _, _, _, rfl, rfl, .of hsa5, atI_nat (j := b + c) hx2, x1, x2, _, _, rfl, .inr ⟨hT1, hT2, fun D1 hD1 => ?_⟩⟩
    refine lc_zip (fun x y => y - x) rfl (by omega) (by omega) hD1 hT1 hT2 (fun n k U HU R S h => ⟨U, _, rfl, .of upd_same, rfl, _, _, rfl, _, _, rfl, rfl, rfl, lcYes ⟨_, rfl, _, rfl, _, _, rfl, rfl, h⟩⟩) fun H6 e6 hL1 => ?_
    rw [zip_ints] at hL1
    generalize hl1' : lessOf (sumsAt rs ns.length b) (sumsAt rs ns.length (b + c)) = l1 at hL1
    refine ⟨D1, _, rfl, .inl ⟨.of hL1, fun t1 ht1 => ⟨(show 1 ≤ sizeLine by decide), fun l hl => ?_⟩⟩⟩
    have e7 : Same H6 (upd H6 t1 (.tup (l1.map .int))) := same_new ht1
    have g7 : upd H6 t1 (.tup (l1.map .int)) t1 = some (.tup (l1.map .int)) := upd_same
    generalize upd H6 t1 (.tup (l1.map .int)) = H7 at e7 g7 hl
    have e8 : Same H7 (upd H7 l (.lst [.ref t1])) := same_new hl
    have g8 : upd H7 l (.lst [.ref t1]) l = some (.lst [.ref t1]) := upd_same
    have hl5 : H5 l = none := (e6.trans e7).free hl
    generalize upd H7 l (.lst [.ref t1]) = H8 at e8 g8
    have e58 : Same H5 H8 := (e6.trans e7).trans e8
    -- due.append
    have hsa8 := e58 _ _ hsa5
    refine ⟨_, rfl, .inl ⟨rfl, _, .of g8⟩, _, rfl, _, rfl, _, rfl, _, _, rfl, rfl, sa, _, _, _, rfl, rfl, .of hsa8, atI_nat (j := b + c) hx2, _, rfl, _, rfl, _, rfl, _, _, rfl, rfl, _, rfl, _, _, rfl, rfl, sa, _, _, _, rfl, rfl, .of hsa8, atI_nat (j := b + c + d) hx3, x2, x3, _, _, rfl,
      .inr ⟨sqT_same e58 hT2, sqT_same e58 hT3, fun D2 hD2 => ?_⟩⟩
    refine lc_zip (fun x y => y - x) rfl (by omega) (by omega) hD2 (sqT_same e58 hT2) (sqT_same e58 hT3) (fun n k U HU R S h => ⟨U, _, rfl, .of upd_same, rfl, _, _, rfl, _, _, rfl, rfl, rfl, lcYes ⟨_, rfl, _, rfl, _, _, rfl, rfl, h⟩⟩) fun H9 e9 hL2 => ?_
    rw [zip_ints] at hL2
    generalize hl2' : lessOf (sumsAt rs ns.length (b + c)) (sumsAt rs ns.length (b + c + d)) = l2 at hL2
    refine ⟨D2, _, rfl, .inl ⟨.of hL2, fun t2 ht2 => ?_⟩⟩
    have eA : Same H9 (upd H9 t2 (.tup (l2.map .int))) := same_new ht2
    have gA : upd H9 t2 (.tup (l2.map .int)) t2 = some (.tup (l2.map .int)) := upd_same
    generalize upd H9 t2 (.tup (l2.map .int)) = HA at eA gA
    have e8A : Same H8 HA := e9.trans eA
    refine ⟨l, _, _, rfl, rfl, e8A _ _ g8, (show 1 < sizeLine by decide), ?_⟩
    have eB : Same H5 (upd HA l (.lst [.ref t1, .ref t2])) := same_at hl5 (e58.trans e8A)
    have gB : upd HA l (.lst [.ref t1, .ref t2]) l = some (.lst [.ref t1, .ref t2]) := upd_same
    have g1A : HA t1 = some (.tup (l1.map .int)) := e8A _ _ (e8 _ _ g7)
    have gB1 : upd HA l (.lst [.ref t1, .ref t2]) t1 = some (.tup (l1.map .int)) := by rw [upd_ne (ne_of g1A (e8A _ _ g8) fun q => nomatch q)]; exact g1A
    have gB2 : upd HA l (.lst [.ref t1, .ref t2]) t2 = some (.tup (l2.map .int)) := by rw [upd_ne (ne_of gA (e8A _ _ g8) fun q => nomatch q)]; exact gA
    have hfold : upd HA l (.lst ([.ref t1] ++ [.ref t2])) = upd HA l (.lst [.ref t1, .ref t2]) := rfl
    rw [hfold]
    generalize upd HA l (.lst [.ref t1, .ref t2]) = HB at eB gB gB1 gB2
    -- told
    have hDB := hD5.same eB
    have hgets : ∀ x y, getsOf rs ns.length x y = lessOf (sumsAt rs ns.length x) (sumsAt rs ns.length (x + y)) := fun x y => by
      unfold getsOf
      rw [hasOf_eq ok.runs.ends (fun r hr => (ok.runs.figs r hr).ne), hasOf_eq ok.runs.ends (fun r hr => (ok.runs.figs r hr).ne)]
    refine ⟨_, rfl, _, rfl, _, rfl, pa, ns, rs, b, c, rfl, hDB, ok, by omega, by omega, fun p1 HC eC _ hp1 => ?_⟩
    rw [hgets, hl1'] at hp1
    refine ⟨_, rfl, _, rfl, _, rfl, _, _, rfl, rfl, _, rfl, pa, ns, rs, b + c, d, rfl, hDB.same eC, ok, by omega, by omega, fun p2 HD eD _ hp2 => ?_⟩
    rw [hgets, hl2'] at hp2
    refine ⟨(show 2 ≤ sizeLine by decide), fun lt hlt => ?_⟩
    have eE : Same HD (upd HD lt (.lst [.ref p1, .ref p2])) := same_new hlt
    have gE : upd HD lt (.lst [.ref p1, .ref p2]) lt = some (.lst [.ref p1, .ref p2]) := upd_same
    generalize upd HD lt (.lst [.ref p1, .ref p2]) = HE at eE gE
    have eBE : Same HB HE := (eC.trans eD).trans eE
    have gE1 : HE p1 = some (.tup (l1.map .int)) := eE _ _ (eD _ _ hp1)
    have gE2 : HE p2 = some (.tup (l2.map .int)) := eE _ _ hp2
    have hb1 : ∀ n ∈ l1, -200 ≤ n ∧ n ≤ 200 := by
      rw [← hl1']
      intro n hn
      have := lessOf_small (B := 90) (fun n hn => Nat.le_trans (sumsAt_le rs ns.length b n hn) (by omega)) (fun n hn => Nat.le_trans (sumsAt_le rs ns.length (b + c) n hn) (by omega)) n hn
      omega
    have hb2 : ∀ n ∈ l2, -200 ≤ n ∧ n ≤ 200 := by
      rw [← hl2']
      intro n hn
      have := lessOf_small (B := 90) (fun n hn => Nat.le_trans (sumsAt_le rs ns.length (b + c) n hn) (by omega)) (fun n hn => Nat.le_trans (sumsAt_le rs ns.length (b + c + d) n hn) (by omega)) n hn
      omega
    have hn1 : l1.length = ns.length := by rw [← hl1', lessOf_len (by rw [sumsAt_len, sumsAt_len]), sumsAt_len]
    have hn2 : l2.length = ns.length := by rw [← hl2', lessOf_len (by rw [sumsAt_len, sumsAt_len]), sumsAt_len]
    have hf1 := fitInts (ns := l1) (by omega) hb1
    have hf2 := fitInts (ns := l2) (by omega) hb2
    have hfd : Fit 2 1802 (.list [.tuple (l1.map PyData.int), .tuple (l2.map PyData.int)]) := by
      refine (fit_list (dp := 1) (w := 900) (ds := [.tuple (l1.map PyData.int), .tuple (l2.map PyData.int)]) fun x hx => ?_).mono (Nat.le_refl 2) (by show 2 * 901 ≤ 1802; decide)
      rcases List.mem_cons.mp hx with e | e
      · rw [e]; exact hf1
      · rw [List.mem_singleton.mp e]; exact hf2
    have okd := hfd.ok (by decide) (by decide)
    -- repr(told) != repr(due)
    refine ⟨_, rfl, lt, _, rfl, .lst (.of gE) (.cons (dpTupI gE1) (.cons (dpTupI gE2) .nil)), okd.lay, okd.short, okd.sh, _, rfl, l, _, rfl, .lst (.of (eBE _ _ gB)) (.cons (dpTupI (eBE _ _ gB1)) (.cons (dpTupI (eBE _ _ gB2)) .nil)), okd.lay, okd.short, okd.sh, rfl, false, neF, iteF ?_⟩
    -- repr(row_part) != repr(tuple(row[..]))
    have hDE := hDB.same eBE
    have hraE := eBE _ _ (eB _ _ hra5)
    refine ⟨_, rfl, _, rfl, _, rfl, pa, ns, rs, b, c, rfl, hDE, ok, by omega, by omega, fun p3 HF eF _ hp3 => ?_⟩
    have hfs : Fit 1 8100 (.tuple ((rowOf ns rs b c).map PyData.str)) := by
      refine (fit_tup (dp := 0) (w := 8) fun x hx => ?_).mono (Nat.le_refl _) (by rw [List.length_map, rowOf_len]; omega)
      obtain ⟨z, hz, rfl⟩ := List.mem_map.mp hx
      obtain ⟨j, hj, rfl⟩ := List.mem_map.mp hz
      exact (ok.names.word _ (List.mem_of_getElem? (ok.name (b + j)))).fit
    have oks := hfs.ok (by decide) (by decide)
    refine ⟨p3, _, rfl, .tup (.of hp3) (dpStrs _), oks.lay, oks.short, oks.sh, ?_⟩
    refine ⟨_, rfl, _, rfl, _, rfl, _, rfl, _, rfl, _, _, rfl, rfl, _, rfl, ra, _, rfl, .of (eF _ _ hraE), fun ls hls => ?_⟩
    have ecut : cutV ((rowOf ns rs 0 90).map V.str) (some (b : Int)) (some ((b : Int) + (c : Int))) = (rowOf ns rs b c).map V.str := cut_row ns rs b c (by omega)
    rw [ecut]
    have eG : Same HF (upd HF ls (.lst ((rowOf ns rs b c).map .str))) := same_new hls
    have gG : upd HF ls (.lst ((rowOf ns rs b c).map .str)) ls = some (.lst ((rowOf ns rs b c).map .str)) := upd_same
    generalize upd HF ls (.lst ((rowOf ns rs b c).map .str)) = HG at eG gG
    refine ⟨ls, _, rfl, .inl ⟨.of gG, fun p4 hp4 => ?_⟩⟩
    have eI : Same HG (upd HG p4 (.tup ((rowOf ns rs b c).map .str))) := same_new hp4
    have gI : upd HG p4 (.tup ((rowOf ns rs b c).map .str)) p4 = some (.tup ((rowOf ns rs b c).map .str)) := upd_same
    generalize upd HG p4 (.tup ((rowOf ns rs b c).map .str)) = HI at eI gI
    refine ⟨p4, _, rfl, .tup (.of gI) (dpStrs _), oks.lay, oks.short, oks.sh, rfl, false, neF, iteF ?_⟩
    -- both
    have eEI : Same HE HI := (eF.trans eG).trans eI
    have gIt := eEI _ _ gE
    have gI1 := eEI _ _ gE1
    have gI2 := eEI _ _ gE2
    refine ⟨_, rfl, lt, _, 0, _, rfl, rfl, .of gIt, atI_nat (j := 0) rfl, _, rfl, lt, _, 1, _, rfl, rfl, .of gIt, atI_nat (j := 1) rfl, p1, p2, _, _, rfl, .inr ⟨.of gI1, .of gI2, fun D3 hD3 => ?_⟩⟩
    refine lc_zip (ns := l1) (ms := l2) (fun x y => x + y) rfl (by omega) (by omega) hD3 (.of gI1) (.of gI2) (fun n k U HU R S h => ⟨U, _, rfl, .of upd_same, rfl, _, _, rfl, _, _, rfl, rfl, rfl, lcYes ⟨_, rfl, _, rfl, _, _, rfl, rfl, h⟩⟩) fun HJ eJ hL3 => ?_
    have hl3' : List.zipWith (fun x y : Int => x + y) l1 l2 = lessOf (sumsAt rs ns.length b) (sumsAt rs ns.length (b + c + d)) := by
      rw [← hl1', ← hl2']
      exact lessOf_add _ _ _ (by rw [sumsAt_len, sumsAt_len]) (by rw [sumsAt_len, sumsAt_len])
    rw [hl3'] at hL3
    have hgets3 : getsOf rs ns.length b (c + d) = lessOf (sumsAt rs ns.length b) (sumsAt rs ns.length (b + c + d)) := by rw [hgets, Nat.add_assoc]
    have hgets0 : getsOf rs ns.length b 0 = List.replicate ns.length 0 := by
      rw [hgets, Nat.add_zero, lessOf_self, sumsAt_len]
    have hb3 : ∀ n ∈ lessOf (sumsAt rs ns.length b) (sumsAt rs ns.length (b + c + d)), -200 ≤ n ∧ n ≤ 200 := by
      intro n hn
      have := lessOf_small (B := 90) (fun n hn => Nat.le_trans (sumsAt_le rs ns.length b n hn) (by omega)) (fun n hn => Nat.le_trans (sumsAt_le rs ns.length (b + c + d) n hn) (by omega)) n hn
      omega
    have hn3 : (lessOf (sumsAt rs ns.length b) (sumsAt rs ns.length (b + c + d))).length = ns.length := by rw [lessOf_len (by rw [sumsAt_len, sumsAt_len]), sumsAt_len]
    generalize lessOf (sumsAt rs ns.length b) (sumsAt rs ns.length (b + c + d)) = l3 at hL3 hgets3 hb3 hn3
    have hf3 := fitInts (ns := l3) (by omega) hb3
    refine ⟨D3, _, rfl, .inl ⟨.of hL3, fun p5 hp5 => ?_⟩⟩
    have eL : Same HJ (upd HJ p5 (.tup (l3.map .int))) := same_new hp5
    have gL : upd HJ p5 (.tup (l3.map .int)) p5 = some (.tup (l3.map .int)) := upd_same
    generalize upd HJ p5 (.tup (l3.map .int)) = HL at eL gL
    have eEL : Same HE HL := (eEI.trans eJ).trans eL
    -- gets(.., more + far) != both or gets(.., 0) != (0,) * total
    have hDL := hDE.same eEL
    refine ⟨_, rfl, _, rfl, _, rfl, _, rfl, _, _, rfl, rfl, pa, ns, rs, b, c + d, rfl, hDL, ok, by omega, by omega, fun p6 HM eM _ hp6 => ?_⟩
    rw [hgets3] at hp6
    refine ⟨_, rfl, _, _, dpTupI hp6, dpTupI (eM _ _ gL), hf3.shaped (by decide), hf3.shaped (by decide), false, eqvF hf3, iteF ?_⟩
    refine ⟨_, rfl, _, rfl, pa, ns, rs, b, 0, rfl, hDL.same eM, ok, by omega, by omega, fun p7 HN eN _ hp7 => ?_⟩
    rw [hgets0] at hp7
    have hf0 : Fit 1 900 (.tuple ((List.replicate ns.length (0 : Int)).map PyData.int)) := fitInts (by rw [List.length_replicate]; omega) fun n hn => by
      rw [(List.mem_replicate.mp hn).2]
      decide
    refine ⟨(show 1 ≤ sizeLine by decide), fun p8 hp8 => ⟨_, rfl, ?_⟩⟩
    have eO : Same HN (upd HN p8 (.tup [.int 0])) := same_new hp8
    have gO : upd HN p8 (.tup [.int 0]) p8 = some (.tup [.int 0]) := upd_same
    generalize upd HN p8 (.tup [.int 0]) = HO at eO gO
    have eXO : SameX m H HO := eX.trans (.of ((((eB.trans eBE).trans eEL).trans ((eM.trans eN).trans eO))))
    have hMO : MSt HO m (B + 3 * (i + 1)) := (hM5.same (((eB.trans eBE).trans eEL).trans ((eM.trans eN).trans eO))).mono (by omega)
    by_cases ht : ns.length = 1
    · refine .inl ⟨p8, [.int 0], rfl, by rw [ht]; rfl, .of gO, (fun e => nomatch e), ?_⟩
      rw [ht] at hp7 hf0
      refine ⟨_, _, dpTupI (eO _ _ hp7), .tup (.of gO) (dpInts [0]), hf0.shaped (by decide), hf0.shaped (by decide), false, eqvF hf0, iteF ?_⟩
      exact ⟨z8, _, _, _, _, _, _, _, rfl, eXO, hMO⟩
    · refine .inr ⟨p8, _, [.int 0], rfl, rfl, .of gO, (fun e => nomatch e), by omega, by omega, (show 1 ≤ 1000 by decide), fun p9 hp9 => ?_⟩
      have er : (List.replicate ((ns.length : Nat) : Int).toNat [V.int 0]).flatten = (List.replicate ns.length (0 : Int)).map V.int := by
        have et : ((ns.length : Nat) : Int).toNat = ns.length := by omega
        rw [et, List.map_replicate]
        generalize ns.length = k
        induction k with
        | zero => rfl
        | succ k ih => rw [List.replicate_succ, List.flatten_cons, ih, List.replicate_succ]; rfl
      rw [er]
      have eQ : Same HO (upd HO p9 (.tup ((List.replicate ns.length (0 : Int)).map .int))) := same_new hp9
      refine ⟨_, _, dpTupI (eQ _ _ (eO _ _ hp7)), dpTupI upd_same, hf0.shaped (by decide), hf0.shaped (by decide), false, eqvF hf0, iteF ?_⟩
      exact ⟨z8, _, _, _, _, _, _, _, rfl, eXO.trans (.of eQ), hMO.same eQ⟩
  · obtain ⟨z8, z9, z10, z11, z12, z13, z14, z15, rfl, e2, hM2⟩ := hp2
    exact q _ _ e2 hM2
end
end K3

namespace K3
open PySem PySem.Spec PyProof.Rows L2
theorem index_digit6 (c : Nat) (h : c < 6) : ∃ rest, Builtin.Str.occurrences "012345" ⟨#[c + 48]⟩ 0 ("012345" : Str).length 1 = c :: rest := by
  have e : ∀ j : Fin 6, Builtin.Str.occurrences "012345" ⟨#[j.val + 48]⟩ 0 ("012345" : Str).length 1 = [j.val] := by decide +kernel
  exact ⟨[], e ⟨c, h⟩⟩
def rSidx : V → List V → Hp → VK → Prop := fun x xs H Q => ∃ a b i rest, x = .str a ∧ xs = [.str b] ∧ Builtin.Str.occurrences a b 0 a.length 1 = i :: rest ∧ Q (.int (i : Nat)) H
theorem mt_sidx {X : Cx} : MtR X "str.index" rSidx := mt_sindex
def tSign (K : PySem.W.Frag) : TE := tOp (rIxT K) (tVar 2) (tBM K "str" rSidx (tC (.str "012345")) (tCons (tVar 16) tNil))
theorem ixN_n {n j : Nat} (hj : j < n) : ixN n (j : Int) = some j := by
  unfold ixN
  rw [if_pos (by omega), if_pos (by omega)]
  simp
/-- (0,) * total -/
def tZeros : TE := fun σ H Q => ∃ total : Nat, σ[4]? = some (some (V.int total)) ∧ 1 ≤ total ∧ total ≤ 1000 ∧ ∀ z H', Same H H' → H z = none → H' z = some (.tup (List.replicate total (.int 0))) → Q (.ref z) H'
theorem rep_zero (n : Nat) : (List.replicate ((n : Nat) : Int).toNat [V.int 0]).flatten = List.replicate n (V.int 0) := by
  have et : ((n : Nat) : Int).toNat = n := by omega
  rw [et]
  induction n with
  | zero => rfl
  | succ k ih => rw [List.replicate_succ, List.flatten_cons, ih (by omega), List.replicate_succ]; rfl
theorem zeros {K : PySem.W.Frag} : ∀ σ H Q, tZeros σ H Q → tOp (fun x y H Q => rRep1 K x y H Q ∨ rRepT K x y H Q) (tTup (tCons (tC (.int 0)) tNil)) (tVar 4) σ H Q := by
  rintro σ H Q ⟨total, h4, h1, h2, q⟩
  refine ⟨(show 1 ≤ sizeLine by decide), fun p hp => ⟨_, h4, ?_⟩⟩
  have gp : upd H p (.tup [.int 0]) p = some (.tup [.int 0]) := upd_same
  by_cases ht : total = 1
  · subst ht
    exact .inl ⟨p, [.int 0], rfl, rfl, .of gp, (fun e => nomatch e), q p _ (same_new hp) hp gp⟩
  · refine .inr ⟨p, _, [.int 0], rfl, rfl, .of gp, (fun e => nomatch e), by omega, by omega, (show 1 ≤ 1000 by decide), fun z hz => ?_⟩
    rw [rep_zero]
    exact q z _ ((same_new hp).trans (same_new hz)) ((same_new hp).free hz) upd_same
theorem place_fit {rs : List Run} (h : Ends rs) (h60 : rs.length ≤ 60) : Fit 2 1710 (.list ((List.range 90).map fun k => .tuple [.int ((place rs k).1 : Nat), .int ((place rs k).2 : Nat)])) := by
  refine (fit_list (dp := 1) (w := 18) fun x hx => ?_).mono (Nat.le_refl 2) (by rw [List.length_map, List.length_range]; decide)
  obtain ⟨k, hk, rfl⟩ := List.mem_map.mp hx
  have hk' := List.mem_range.mp hk
  have q1 := place_lt (k := k) h
  have q2 := place_le rs k
  refine (fit_tup (dp := 0) (w := 8) fun y hy => ?_).mono (Nat.le_refl 1) (Nat.le_refl 18)
  rcases List.mem_cons.mp hy with e | e
  · rw [e]; exact fit_int _ (by omega) (by omega)
  · rw [List.mem_singleton.mp e]; exact fit_int _ (by omega) (by omega)
theorem sums_fit (rs : List Run) {t : Nat} (h6 : t ≤ 6) : Fit 2 81991 (.list ((List.range 91).map fun k => .tuple ((sumsAt rs t k).map fun n => .int ((n : Nat) : Int)))) := by
  refine (fit_list (dp := 1) (w := 900) fun x hx => ?_).mono (Nat.le_refl 2) (by rw [List.length_map, List.length_range]; decide)
  obtain ⟨k, hk, rfl⟩ := List.mem_map.mp hx
  have hk' := List.mem_range.mp hk
  have e : ((sumsAt rs t k).map fun n => PyData.int ((n : Nat) : Int)) = (intsL (sumsAt rs t k)).map PyData.int := by
    unfold intsL
    rw [List.map_map]
    rfl
  rw [e]
  refine fitInts (by rw [ints_len, sumsAt_len]; omega) fun i hi => ?_
  obtain ⟨n, hn, rfl⟩ := List.mem_map.mp hi
  have := sumsAt_le rs t k n hn
  omega
theorem dpNats {K : PySem.W.Frag} {H : Hp} : ∀ ns : List Nat, DpAll K H (ns.map natV) (ns.map fun n => .int ((n : Nat) : Int))
  | [] => .nil
  | n :: r => .cons (.int _) (dpNats r)
def spRight (K : PySem.W.Frag) : Sp := fun vs H Q _ => ∃ (m pa : Addr) (ns : List Str) (rs : List Run) (B : Nat), vs = [.ref m, .ref pa] ∧ DealAt K H pa ns rs ∧ Good ns rs ∧ Small rs ∧ MSt H m B ∧ B ≤ 700000 ∧ ∀ H', SameX m H H' → MSt H' m (B + 18) → Q (.bl true) H'
section
variable {P : Program} {w : World} {K : PySem.W.Frag} {mg : Str → Option Value} {base : Heap}
theorem ok_right {f : Addr} {fd : FuncData} (F : Fun K "_law_right" "_law_right" sRight f fd) (T : Nm mg) (DD : Def P w K mg base 1 "_law_draw" ["_law_m", "_law_many"] spDraw) (DR : Def P w K mg base 1 "_law_row" ["_law_runs_here", "_law_size"] (spRow K)) (DL : Def P w K mg base 1 "_law_places" ["_law_runs_here", "_law_size"] (spPlaces K))
    (DG : Def P w K mg base 4 "gets" ["deal", "behind", "coins"] (spGets K)) (DP : Def P w K mg base 4 "row_part" ["deal", "begin", "size"] (spRowPart K)) (DN : Def P w K mg base 4 "name_at" ["deal", "coin"] (spNameAt K)) (DA : Def P w K mg base 4 "run_at" ["deal", "coin"] (spRunAt K)) (DH : Def P w K mg base 4 "has" ["deal", "coins"] (spHasIn K)) :
    FnG P w K mg base 5 f fd ["_law_m", "_law_pact"] (spRight K) := by
  refine fnG_of F scRight (fun vs H Q h => ?_) (fun cdv A outer s H vs Q hgd hr h => ?_)
  · obtain ⟨_, _, _, _, _, rfl, _⟩ := h
    rfl
  · have hu66 : (A.deeper (envOfC "_law_right" (defScope sRight) s.heap.objs.size f cdv)).units + 66 < cLine := by have := hr.un; omega
    have hr1 := hr.mono (show 1 ≤ 4 by decide)
    obtain ⟨m, pa, ns, rs, B, rfl, hD, ok, sm, hM, hB, q⟩ := h
    refine ⟨_, pss_cons (ps_asg (pv 1) (pg_tup rfl (pgs_cons (pg_name (i := 2) scRight.nd rfl (.inr rfl)) (pgs_cons (pg_name (i := 3) scRight.nd rfl (.inl rfl)) pgs_nil))))
      (pss_cons (ps_set (i := 4) scRight.nd rfl (.inl rfl) (pe_callB call_len_seq (by rfl) T.len_ b_len (pa_cons (pv 2) pa_nil)))
      (pss_cons (ps_setLc (i := 5) (own := [("_law_sign", 16)]) (g := gName 16) (tt := tYes) (te := tSign K) rfl scRight.nd rfl rfl (by rfl) (pi_list (pe_d DR hr1 (by rfl) (pa_cons (pv 3) (pa_cons pe_int pa_nil))))
        (blkOk_by (N := NR) (sc := defScope sRight) (by decide +kernel)) (fun _ _ _ _ _ => pg_name (i := 16) scRight.nd rfl (Or.inl rfl)) (fun _ _ _ _ _ => pts_nil)
        (fun _ _ _ _ _ => pe_ix (r := rIxT K) ix_tup (pv 2) (pe_bm PySem.F.plainAttrs_str PySem.F.slot_str_index PySem.F.type_str_index mt_sidx pe_str (pa_cons (pv 16) pa_nil)) (fun _ _ => rfl)))
      (pss_cons (ps_if (pt_cmpR op_ne (pe_callB (call_repr_data hgd hu66) (by rfl) T.repr_ b_repr (pa_cons
          (pe_lc (own := [("_law_k", 17)]) (g := gName 17) (tt := tYes) rfl scRight.nd (pi_range1 (by rfl) T.range_ (pa_cons pe_int pa_nil)) (blkOk_by (N := NR) (sc := defScope sRight) (by decide +kernel)) (fun _ _ _ _ _ => pg_name (i := 17) scRight.nd rfl (Or.inl rfl)) (fun _ _ _ _ _ => pts_nil)
            (fun _ _ _ _ _ => pe_d DN hr (by rfl) (pa_cons (pv 1) (pa_cons (pv 17) pa_nil)))) pa_nil)) (pe_callB (call_repr_data hgd hu66) (by rfl) T.repr_ b_repr (pa_cons (pv 5) pa_nil)) (nomark _)) pss_never pss_nil)
      (pss_cons (ps_if (pt_cmpR op_ne (pe_callB (call_repr_data hgd hu66) (by rfl) T.repr_ b_repr (pa_cons (pe_d DP hr (by rfl) (pa_cons (pv 1) (pa_cons pe_int (pa_cons pe_int pa_nil)))) pa_nil))
          (pe_callB (call_repr_data hgd hu66) (by rfl) T.repr_ b_repr (pa_cons (pe_callTy call_tuple_of (by rfl) T.tuple_ b_tuple (pa_cons (pv 5) pa_nil)) pa_nil)) (nomark _)) pss_never pss_nil)
      (pss_cons (ps_if (pt_cmpR op_ne (pe_callB (call_repr_data hgd hu66) (by rfl) T.repr_ b_repr (pa_cons
          (pe_lc (own := [("_law_k", 17)]) (g := gName 17) (tt := tYes) rfl scRight.nd (pi_range1 (by rfl) T.range_ (pa_cons pe_int pa_nil)) (blkOk_by (N := NR) (sc := defScope sRight) (by decide +kernel)) (fun _ _ _ _ _ => pg_name (i := 17) scRight.nd rfl (Or.inl rfl)) (fun _ _ _ _ _ => pts_nil)
            (fun _ _ _ _ _ => pe_d DA hr (by rfl) (pa_cons (pv 1) (pa_cons (pv 17) pa_nil)))) pa_nil)) (pe_callB (call_repr_data hgd hu66) (by rfl) T.repr_ b_repr (pa_cons (pe_d DL hr1 (by rfl) (pa_cons (pv 3) (pa_cons pe_int pa_nil))) pa_nil)) (nomark _)) pss_never pss_nil)
      (pss_cons (ps_par (i := 6) (j := 7) rfl scRight.nd rfl rfl (by decide) rfl rfl (pa_cons (pe_lst (pa_cons (pe_imp (t' := tZeros) (pe_op (op_rep1.or op_repT) (pe_tup (pa_cons pe_int pa_nil)) (pv 4)) zeros) pa_nil)) (pa_cons (pe_op op_rep (pe_lst (pa_cons pe_int pa_nil)) (pv 4)) pa_nil)) (by rfl))
      (pss_cons (ps_for PassesOwn.never rfl (pi_list (pv 5)) (pg_name (i := 8) scRight.nd rfl (.inl rfl))
          (pss_cons (ps_augS (pv 7) (pe_bmF PySem.F.plainAttrs_tuple PySem.F.slot_tuple_index PySem.F.type_tuple_index mt_tup_index (pv 2) (pa_cons (pv 8) pa_nil)) get_list pe_int ip_add set_list)
          (pss_one (ps_expr (pe_bm PySem.F.plainAttrs_list PySem.F.slot_list_append PySem.F.type_list_append mt_append (pv 6) (pa_cons (pe_callTy call_tuple_of (by rfl) T.tuple_ b_tuple (pa_cons (pv 7) pa_nil)) pa_nil))))))
      (pss_cons (ps_if (pt_cmpR op_ne (pe_callB (call_repr_data hgd hu66) (by rfl) T.repr_ b_repr (pa_cons
          (pe_lc (own := [("_law_k", 17)]) (g := gName 17) (tt := tYes) rfl scRight.nd (pi_range1 (by rfl) T.range_ (pa_cons pe_int pa_nil)) (blkOk_by (N := NR) (sc := defScope sRight) (by decide +kernel)) (fun _ _ _ _ _ => pg_name (i := 17) scRight.nd rfl (Or.inl rfl)) (fun _ _ _ _ _ => pts_nil)
            (fun _ _ _ _ _ => pe_d DH hr (by rfl) (pa_cons (pv 1) (pa_cons (pv 17) pa_nil)))) pa_nil)) (pe_callB (call_repr_data hgd hu66) (by rfl) T.repr_ b_repr (pa_cons (pv 6) pa_nil)) (nomark _)) pss_never pss_nil)
      (pss_cons (st := stR 9) (right_laps T hgd hr DD DG DP)
      (pss_one (ps_ret pe_bl))))))))))), ?_⟩
    obtain ⟨np, rp, hT, hN, hR⟩ := id hD
    have h6 := ok.names.six
    have h1 := ok.names.one
    have hnl : (ns.map V.str).length = ns.length := List.length_map ..
    refine ⟨_, rfl, pa, _, rfl, hT, rfl, _, _, rfl, _, _, rfl, rfl, ?_⟩
    refine ⟨_, rfl, np, _, rfl, .inr hN.sq, ?_⟩
    rw [hnl]
    -- the row
    refine ⟨_, rfl, rp, rs, 90, rfl, hR, ok.runs.ends, fun x hx => ⟨(ok.runs.figs x hx).ne, (ok.runs.figs x hx).len⟩, by decide, fun q1 H1 e1 _ hq1 => ?_⟩
    have hN1 := hN.same e1
    refine ⟨q1, rfl, ⟨_, .of hq1⟩, fun ra hra => ?_⟩
    have hrow : ∀ k, (rowOf ns rs 0 90)[k]? = if k < 90 then some (nameOf ns rs k) else none := fun k => by
      by_cases hk : k < 90
      · rw [if_pos hk]
        simp [rowOf, hk]
      · rw [if_neg hk, List.getElem?_eq_none (by rw [rowOf_len]; omega)]
    refine lc_it (walk_list (xs := (figL rs 90).map V.str)) (fun i H2 => Same H1 H2 ∧ H2 ra = some (.lst (((rowOf ns rs 0 90).take i).map .str))) ⟨same_new hra, upd_same⟩ (fun i H2 _ hp2 => .of (hp2.1 _ _ hq1)) (fun i x H3 H2 hi hp2 hy => ?_) (fun H2 hp2 => ?_)
    · obtain ⟨rfl, hx⟩ := hy
      have hi' : i < 90 := by rw [List.length_map] at hi; simpa [figL] using hi
      have ex : x = .str (figS [figAt rs i]) := by
        have : (figL rs 90)[i]? = some (figS [figAt rs i]) := by simp [figL, hi']
        rw [List.getElem?_map, this] at hx
        exact (Option.some.inj hx).symm
      subst ex
      obtain ⟨rest, hix⟩ := index_digit6 (figAt rs i) (by have := ok.fig i; omega)
      have hnm : (ns.map V.str)[figAt rs i]? = some (.str (nameOf ns rs i)) := by rw [List.getElem?_map, ok.name i]; rfl
      have hz : (rowOf ns rs 0 90)[i]? = some (nameOf ns rs i) := by rw [hrow, if_pos hi']
      refine ⟨rfl, lcYes ⟨_, rfl, rfl, _, rfl, _, _, _, rest, rfl, rfl, hix, np, _, _, _, rfl, rfl, (hN1.same hp2.1).sq, atI_nat hnm, ?_⟩⟩
      refine ⟨_, hp2.2, by rw [List.length_map, List.length_take, sizeLine_eq]; omega, same_at hra hp2.1, ?_⟩
      rw [upd_same, take_grow hz, List.map_append]
      rfl
    · have hfull : (rowOf ns rs 0 90).take ((figL rs 90).map V.str).length = rowOf ns rs 0 90 := List.take_of_length_le (by rw [rowOf_len, List.length_map]; simp [figL])
      rw [hfull] at hp2
      obtain ⟨e2, hra2⟩ := hp2
      have eH2 : Same H H2 := e1.trans e2
      have hfs : ∀ x ∈ (rowOf ns rs 0 90).map PyData.str, Fit 0 8 x := fun x hx => by
        obtain ⟨z, hz, rfl⟩ := List.mem_map.mp hx
        obtain ⟨j, hj, rfl⟩ := List.mem_map.mp hz
        exact (ok.names.word _ (List.mem_of_getElem? (ok.name (0 + j)))).fit
      have okl := (fit_list hfs).ok (by decide) (by rw [List.length_map, rowOf_len]; decide)
      have okt := (fit_tup hfs).ok (by decide) (by rw [List.length_map, rowOf_len]; decide)
      -- name_at
      refine ⟨90, rfl, by decide, by decide, fun D1 hD1 => ?_⟩
      have e90 : ((90 : Int)).toNat = 90 := rfl
      refine lc_it walk_range (fun i H4 => Same H2 H4 ∧ H4 D1 = some (.lst (((rowOf ns rs 0 90).take i).map .str))) ⟨same_new hD1, upd_same⟩ (fun _ _ _ _ => True.intro) (fun i x H5 H4 hi hp4 hy => ?_) (fun H4 hp4 => ?_)
      · obtain ⟨rfl, rfl⟩ := hy
        have hi' : i < 90 := hi
        have hz : (rowOf ns rs 0 90)[i]? = some (nameOf ns rs i) := by rw [hrow, if_pos hi']
        refine ⟨rfl, lcYes ⟨_, rfl, _, rfl, pa, ns, rs, i, ?_, (hD.same eH2).same hp4.1, ok, by omega, fun H6 e6 => ?_⟩⟩
        · show [V.ref pa, V.int ((0 : Int) + (i : Nat))] = _
          rw [Int.zero_add]
        · refine ⟨_, e6 _ _ hp4.2, by rw [List.length_map, List.length_take, sizeLine_eq]; omega, same_at hD1 (hp4.1.trans e6), ?_⟩
          rw [upd_same, take_grow hz, List.map_append]
          rfl
      have hfull1 : (rowOf ns rs 0 90).take ((90 : Int)).toNat = rowOf ns rs 0 90 := List.take_of_length_le (by rw [rowOf_len]; decide)
      obtain ⟨e4, hd4⟩ := hp4
      rw [hfull1] at hd4
      refine ⟨D1, _, rfl, .lst (.of hd4) (dpStrs _), okl.lay, okl.short, okl.sh, _, rfl, ra, _, rfl, .lst (.of (e4 _ _ hra2)) (dpStrs _), okl.lay, okl.short, okl.sh, rfl, false, neF, iteF ?_⟩
      -- row_part
      refine ⟨_, rfl, pa, ns, rs, 0, 90, rfl, (hD.same eH2).same e4, ok, by decide, by decide, fun p1 H5 e5 _ hp1 => ?_⟩
      refine ⟨p1, _, rfl, .tup (.of hp1) (dpStrs _), okt.lay, okt.short, okt.sh, ?_⟩
      refine ⟨_, rfl, ra, _, rfl, .inl ⟨.of (e5 _ _ (e4 _ _ hra2)), fun p2 hp2 => ?_⟩⟩
      have e6 := same_new (o := .tup ((rowOf ns rs 0 90).map .str)) hp2
      have g6 : upd H5 p2 (.tup ((rowOf ns rs 0 90).map .str)) p2 = some (.tup ((rowOf ns rs 0 90).map .str)) := upd_same
      generalize upd H5 p2 (.tup ((rowOf ns rs 0 90).map .str)) = H6 at e6 g6
      refine ⟨p2, _, rfl, .tup (.of g6) (dpStrs _), okt.lay, okt.short, okt.sh, rfl, false, neF, iteF ?_⟩
      -- run_at
      have e26 : Same H2 H6 := (e4.trans e5).trans e6
      have eH6 : Same H H6 := eH2.trans e26
      refine ⟨90, rfl, by decide, by decide, fun D2 hD2 => ?_⟩
      refine lc_it walk_range (fun i H7 => Same H6 H7 ∧ ∃ xs, H7 D2 = some (.lst xs) ∧ TupsAt K H7 xs i (placeT rs)) ⟨same_new hD2, [], upd_same, .nil⟩ (fun _ _ _ _ => True.intro) (fun i x H8 H7 hi hp7 hy => ?_) (fun H7 hp7 => ?_)
      · obtain ⟨rfl, rfl⟩ := hy
        have hi' : i < 90 := hi
        obtain ⟨e7, xs, hx7, hxs7⟩ := hp7
        refine ⟨rfl, lcYes ⟨_, rfl, _, rfl, pa, ns, rs, i, ?_, (hD.same eH6).same e7, ok, by omega, fun t H9 e9 htn ht => ?_⟩⟩
        · show [V.ref pa, V.int ((0 : Int) + (i : Nat))] = _
          rw [Int.zero_add]
        · refine ⟨_, e9 _ _ hx7, by rw [hxs7.1, sizeLine_eq]; omega, same_at hD2 (e7.trans e9), _, upd_same, ?_⟩
          exact ((hxs7.same e9).snoc (g := placeT rs) (.of ht)).put (e9 _ _ hx7)
      obtain ⟨e7, ys, hy7, hys7⟩ := hp7
      have okp := (place_fit ok.runs.ends ok.runs.len).ok (by decide) (by decide)
      have hdp : ∀ {H : Hp} {zs : List V}, TupsAt K H zs 90 (placeT rs) → DpAll K H zs ((List.range 90).map fun k => .tuple [.int ((place rs k).1 : Nat), .int ((place rs k).2 : Nat)]) := fun h =>
        h.dp (d := fun k => [.int ((place rs k).1 : Nat), .int ((place rs k).2 : Nat)]) fun j _ => .cons (.int _) (.cons (.int _) .nil)
      refine ⟨D2, _, rfl, .lst (.of hy7) (hdp hys7), okp.lay, okp.short, okp.sh, ?_⟩
      have eH7 := eH6.trans e7
      refine ⟨_, rfl, rp, rs, 90, rfl, hR.same eH7, ok.runs.ends, by decide, fun p3 zs H8 e8 _ hp3 hzs => ?_⟩
      refine ⟨p3, _, rfl, .lst (.of hp3) (hdp hzs), okp.lay, okp.short, okp.sh, rfl, false, neF, iteF ?_⟩
      -- sums, own
      have eH8 := eH7.trans e8
      have hra8 : H8 ra = some (.lst ((rowOf ns rs 0 90).map .str)) := e8 _ _ (e7 _ _ (e26 _ _ hra2))
      refine ⟨ns.length, rfl, h1, by omega, fun z0 H9 e9 hz0n hz0 => ⟨(show 1 ≤ sizeLine by decide), fun sa hsa => ?_⟩⟩
      have hz0' : H9 z0 = some (.tup (sumT rs ns.length 0)) := by
        rw [hz0]
        unfold sumT
        rw [sumsAt_zero, List.map_replicate]
        rfl
      have e10 : Same H9 (upd H9 sa (.lst [.ref z0])) := same_new hsa
      have g10 : upd H9 sa (.lst [.ref z0]) sa = some (.lst [.ref z0]) := upd_same
      have hsa8 : H8 sa = none := e9.free hsa
      generalize upd H9 sa (.lst [.ref z0]) = HA at e10 g10
      refine ⟨(show 1 ≤ sizeLine by decide), fun w0 hw0 => ?_⟩
      have e11 : Same HA (upd HA w0 (.lst [.int 0])) := same_new hw0
      have g11 : upd HA w0 (.lst [.int 0]) w0 = some (.lst [.int 0]) := upd_same
      generalize upd HA w0 (.lst [.int 0]) = HB at e11 g11
      refine ⟨_, rfl, w0, _, [.int 0], rfl, rfl, g11, by omega, by omega, (by show 1 * ((ns.length : Nat) : Int).toNat ≤ sizeLine; rw [sizeLine_eq]; omega), fun oa hoa => ?_⟩
      rw [rep_zero]
      have e12 : Same HB (upd HB oa (.lst (List.replicate ns.length (.int 0)))) := same_new hoa
      have g12 : upd HB oa (.lst (List.replicate ns.length (.int 0))) oa = some (.lst ((sumsAt rs ns.length 0).map natV)) := by
        rw [upd_same, sumsAt_zero, List.map_replicate]
        rfl
      have hoa8 : H8 oa = none := e9.free (e10.free (e11.free hoa))
      generalize upd HB oa (.lst (List.replicate ns.length (.int 0))) = HC at e12 g12
      have e8C : Same H8 HC := ((e9.trans e10).trans e11).trans e12
      have gC := e12 _ _ (e11 _ _ g10)
      have zC := e12 _ _ (e11 _ _ (e10 _ _ hz0'))
      have hso : sa ≠ oa := ne_of_none (e11 _ _ g10) hoa
      refine ⟨_, _, rfl, ?_⟩
      have hraC := e8C _ _ hra8
      refine ⟨_, rfl, ra, rfl, ⟨_, .of hraC⟩, ?_⟩
      refine for_it (walk_list (xs := (rowOf ns rs 0 90).map V.str)) (fun i σ H2 => ∃ (y8 : Option V) (xs : List V), σ = [some (.ref m), some (.ref pa), some (.ref np), some (.ref rp), some (.int ns.length), some (.ref ra), some (.ref sa), some (.ref oa), y8, none, none, none, none, none, none, none, none, none, none] ∧
        Same H8 H2 ∧ H2 sa = some (.lst xs) ∧ TupsAt K H2 xs (i + 1) (sumT rs ns.length) ∧ H2 oa = some (.lst ((sumsAt rs ns.length i).map natV)))
        ⟨none, [.ref z0], rfl, e8C, gC, TupsAt.nil.snoc (.of zC), g12⟩ (fun i σ H2 _ hp2 => ?_) (fun i x σ H2' H2 hi hp2 hy => ?_) (fun σ H2 hp2 => ?_)
      · obtain ⟨_, _, _, e2, _⟩ := hp2
        exact .of (e2 _ _ hra8)
      · obtain ⟨rfl, hx⟩ := hy
        obtain ⟨y8, xs, rfl, e2, gs, hxs, go⟩ := hp2
        have hi' : i < 90 := by rw [List.length_map, rowOf_len] at hi; exact hi
        have ex : x = .str (nameOf ns rs i) := by
          rw [List.getElem?_map, hrow, if_pos hi'] at hx
          exact (Option.some.inj hx).symm
        subst ex
        obtain ⟨on, hon, hod⟩ := hN.same (eH8.trans e2)
        have hfl := ok.fig i
        have hsum := sumsAt_get rs (k := i) hfl
        refine ⟨_, rfl, _, rfl, ⟨np, on, _, rfl, hon, hod⟩, _, rfl, np, ns, _, figAt rs i, rfl, rfl, .inl (.inr ⟨on, hon⟩), ok.name i, fun k hk e => ?_, oa, _, _, _, rfl, rfl, .of go, atI_nat (j := figAt rs i) (by rw [List.getElem?_map, hsum]; rfl), _, _, rfl, rfl, oa, _, _, figAt rs i, rfl, rfl, go, ?_, ?_⟩
        · have hk' : k < ns.length := by omega
          have h1 := ok.name i
          rw [← e] at h1
          have hkk := (List.getElem?_inj hk' ok.names.nd).mp h1.symm
          omega
        · exact ixN_n (by rw [List.length_map, sumsAt_len]; exact hfl)
        · have hoaS : oa ≠ sa := Ne.symm hso
          have eset : ((sumsAt rs ns.length i).map natV).set (figAt rs i) (.int (((((List.range i).map (figAt rs)).count (figAt rs i) : Nat) : Int) + 1)) = (sumsAt rs ns.length (i + 1)).map natV := by
            rw [sumsAt_succ rs hfl, List.map_set]
            rfl
          rw [eset]
          have eA : Same H8 (upd H2 oa (.lst ((sumsAt rs ns.length (i + 1)).map natV))) := same_at hoa8 e2
          have goA : upd H2 oa (.lst ((sumsAt rs ns.length (i + 1)).map natV)) oa = some (.lst ((sumsAt rs ns.length (i + 1)).map natV)) := upd_same
          have gsA : upd H2 oa (.lst ((sumsAt rs ns.length (i + 1)).map natV)) sa = some (.lst xs) := by rw [upd_ne hso]; exact gs
          have hxA : TupsAt K (upd H2 oa (.lst ((sumsAt rs ns.length (i + 1)).map natV))) xs (i + 1) (sumT rs ns.length) := hxs.put go
          generalize upd H2 oa (.lst ((sumsAt rs ns.length (i + 1)).map natV)) = HA2 at eA goA gsA hxA
          refine ⟨_, rfl, .inl ⟨rfl, _, .of gsA⟩, _, rfl, oa, _, rfl, .inl ⟨.of goA, fun t ht => ?_⟩⟩
          have eT : Same HA2 (upd HA2 t (.tup ((sumsAt rs ns.length (i + 1)).map natV))) := same_new ht
          have gT : upd HA2 t (.tup ((sumsAt rs ns.length (i + 1)).map natV)) t = some (.tup (sumT rs ns.length (i + 1))) := upd_same
          generalize upd HA2 t (.tup ((sumsAt rs ns.length (i + 1)).map natV)) = HT2 at eT gT
          have hxl := hxA.1
          refine ⟨sa, _, _, rfl, rfl, eT _ _ gsA, by rw [hxl, sizeLine_eq]; omega, ?_⟩
          refine ⟨some (.str (nameOf ns rs i)), xs ++ [.ref t], rfl, same_at hsa8 (eA.trans eT), upd_same, ((hxA.same eT).snoc (.of gT)).put (eT _ _ gsA), ?_⟩
          rw [upd_ne hoaS]
          exact eT _ _ goA
      · obtain ⟨y8, xs, rfl, e2, gs, hxs, go⟩ := hp2
        rw [List.length_map, rowOf_len] at hxs
        -- has
        have eX2 := eH8.trans e2
        refine ⟨91, rfl, by decide, by decide, fun D3 hD3 => ?_⟩
        refine lc_it walk_range (fun i H7 => Same H2 H7 ∧ ∃ zs, H7 D3 = some (.lst zs) ∧ TupsAt K H7 zs i (sumT rs ns.length)) ⟨same_new hD3, [], upd_same, .nil⟩ (fun _ _ _ _ => True.intro) (fun i x H8' H7 hi hp7 hy => ?_) (fun H7 hp7 => ?_)
        · obtain ⟨rfl, rfl⟩ := hy
          have hi' : i < 91 := hi
          obtain ⟨e7, zs, hx7, hxs7⟩ := hp7
          refine ⟨rfl, lcYes ⟨_, rfl, _, rfl, pa, ns, rs, i, ?_, (hD.same eX2).same e7, ok, by omega, fun t H9 e9 htn ht => ?_⟩⟩
          · show [V.ref pa, V.int ((0 : Int) + (i : Nat))] = _
            rw [Int.zero_add]
          · rw [hasOf_eq ok.runs.ends (fun r hr => (ok.runs.figs r hr).ne)] at ht
            refine ⟨_, e9 _ _ hx7, by rw [hxs7.1, sizeLine_eq]; omega, same_at hD3 (e7.trans e9), _, upd_same, ?_⟩
            exact ((hxs7.same e9).snoc (g := sumT rs ns.length) (.of ht)).put (e9 _ _ hx7)
        obtain ⟨e7, ws, hw7, hws7⟩ := hp7
        have oks := (sums_fit rs (t := ns.length) h6).ok (by decide) (by decide)
        have hdp : ∀ {H : Hp} {zs : List V}, TupsAt K H zs 91 (sumT rs ns.length) → DpAll K H zs ((List.range 91).map fun k => .tuple ((sumsAt rs ns.length k).map fun n => .int ((n : Nat) : Int))) := fun h =>
          h.dp (d := fun k => (sumsAt rs ns.length k).map fun n => .int ((n : Nat) : Int)) fun j _ => dpNats _
        refine ⟨D3, _, rfl, .lst (.of hw7) (hdp hws7), oks.lay, oks.short, oks.sh, _, rfl, sa, _, rfl, .lst (.of (e7 _ _ gs)) (hdp (hxs.same e7)), oks.lay, oks.short, oks.sh, rfl, false, neF, iteF ?_⟩
        have eX7 := eX2.trans e7
        refine ⟨m, pa, np, rp, ra, sa, oa, ns, rs, xs, B, y8, none, none, none, none, none, none, none, rfl, hD.same eX7, ok, e7 _ _ (e2 _ _ hra8), e7 _ _ gs, hxs.same e7, hM.same eX7, by omega, fun σ' H' e' hM' => ?_⟩
        exact q H' ((SameX.of eX7).trans e') hM'
end
end K3

namespace K3
open PySem PySem.Spec PyProof.Rows L2
/-! ### law -/
abbrev sLaw : Stmt := topS 43
abbrev NL : List Str := ["_law_script", "_law_m", "_law_lap", "_law_pact", "_law_kept", "_law_one"]
theorem scLaw : FnScope NL ["_law_script"] (defScope sLaw) := ⟨rfl, rfl, rfl, by decide +kernel, rfl, by decide +kernel, by decide +kernel⟩
def coinD : Option Nat → PyData
  | none => .none
  | some c => .int ((c : Nat) : Int)
def runD (r : Run) : PyData := .tuple [coinD r.1, .str (figS r.2)]
def dealD (ns : List Str) (rs : List Run) : PyData := .tuple [.tuple (ns.map PyData.str), .tuple (rs.map runD)]
theorem coin_dp {K : PySem.W.Frag} {H : Hp} (c : Option Nat) : Dp K H (coinV c) (coinD c) := by
  cases c with
  | none => exact .non
  | some c => exact .int _
theorem RunsAt.dp {K : PySem.W.Frag} {H : Hp} {a : Addr} {rs : List Run} (h : RunsAt K H a rs) : Dp K H (.ref a) (.tuple (rs.map runD)) := by
  obtain ⟨xs, h1, h2, h3⟩ := h
  refine .tup h1 (dpRefs (by rw [List.length_map, List.length_map, h2]) fun j x d hx hd => ?_)
  rw [List.getElem?_map] at hx hd
  cases hr : rs[j]? with
  | none => rw [hr] at hd; cases hd
  | some r =>
    rw [hr] at hd
    obtain ⟨y, hy, hR⟩ := h3 j r hr
    rw [hy] at hx
    cases hx
    cases hd
    exact .tup hR (.cons (coin_dp _) (.cons (.str _) .nil))
theorem DealAt.dp {K : PySem.W.Frag} {H : Hp} {a : Addr} {ns : List Str} {rs : List Run} (h : DealAt K H a ns rs) : Dp K H (.ref a) (dealD ns rs) := by
  obtain ⟨n, r, h1, h2, h3⟩ := h
  exact .tup h1 (.cons (.tup h2.sq (dpStrs _)) (.cons h3.dp .nil))
theorem deal_fit {ns : List Str} {rs : List Run} (ok : Good ns rs) (sm : Small rs) : Fit 3 2002 (dealD ns rs) := by
  have h6 := ok.names.six
  have s6 := sm.len
  have f1 : Fit 2 1000 (.tuple (ns.map PyData.str)) := by
    refine (fit_tup (dp := 0) (w := 8) fun x hx => ?_).mono (by decide) (by rw [List.length_map]; omega)
    obtain ⟨z, hz, rfl⟩ := List.mem_map.mp hx
    exact (ok.names.word z hz).fit
  have f2 : Fit 2 1000 (.tuple (rs.map runD)) := by
    refine (fit_tup (dp := 1) (w := 18) fun x hx => ?_).mono (Nat.le_refl 2) (by rw [List.length_map]; omega)
    obtain ⟨r, hr, rfl⟩ := List.mem_map.mp hx
    refine (fit_tup (dp := 0) (w := 8) fun y hy => ?_).mono (Nat.le_refl 1) (Nat.le_refl 18)
    rcases List.mem_cons.mp hy with e | e
    · rw [e]
      cases hc : r.1 with
      | none => exact fit_non
      | some c =>
        have := sm.coin r hr c hc
        exact fit_int _ (by omega) (by omega)
    · rw [List.mem_singleton.mp e]
      exact figS_fit (sm.figs r hr) fun d hd => by have := (ok.runs.figs r hr).lt d hd; omega
  refine (fit_tup (dp := 2) (w := 1000) fun x hx => ?_).mono (Nat.le_refl 3) (Nat.le_refl 2002)
  rcases List.mem_cons.mp hx with e | e
  · rw [e]; exact f1
  · rw [List.mem_singleton.mp e]; exact f2
/-! the deal that the law names -/
def ns1 : List Str := ["a", "b"]
def rs1 : List Run := [(some 3, [0]), (some 4, [0, 1]), (none, [1, 1, 0])]
theorem good1 : Good ns1 rs1 := by
  refine ⟨namesOk_of (by decide +kernel), ⟨rfl, by decide, fun r hr => ?_, fun r hr c hc => ?_⟩⟩
  · have h : ∀ r ∈ rs1, r.2 ≠ [] ∧ r.2.length ≤ 400 ∧ ∀ d ∈ r.2, d < ns1.length := by decide
    exact ⟨(h r hr).1, (h r hr).2.1, (h r hr).2.2⟩
  · have hr' : r = (some 3, [0]) ∨ r = (some 4, [0, 1]) ∨ r = (none, [1, 1, 0]) := by simpa [rs1] using hr
    rcases hr' with e | e | e <;> subst e <;> cases hc <;> decide
def L13 : List Str := ["a", "a", "a", "a", "b", "a", "b", "b", "b", "a", "b", "b", "a"]
theorem row1 : rowOf ns1 rs1 0 13 = L13 := by decide +kernel
theorem row_fit {ns : List Str} {rs : List Run} (ok : Good ns rs) (b c : Nat) (h : c ≤ 90) : Fit 1 810 (.tuple ((rowOf ns rs b c).map PyData.str)) := by
  refine (fit_tup (dp := 0) (w := 8) fun x hx => ?_).mono (Nat.le_refl _) (by rw [List.length_map, rowOf_len]; omega)
  obtain ⟨z, hz, rfl⟩ := List.mem_map.mp hx
  obtain ⟨j, hj, rfl⟩ := List.mem_map.mp hz
  exact (ok.names.word _ (List.mem_of_getElem? (ok.name (b + j)))).fit
theorem fig0 : (Str.ofString "0") = figS [0] := by decide +kernel
theorem fig01 : (Str.ofString "01") = figS [0, 1] := by decide +kernel
theorem fig110 : (Str.ofString "110") = figS [1, 1, 0] := by decide +kernel
theorem has1 : hasOf rs1 2 13 = [7, 6] := by decide +kernel
theorem gets1 : getsOf rs1 2 3 2 = [1, 1] := by decide +kernel
theorem gets2 : getsOf rs1 2 7 3 = [1, 2] := by decide +kernel
theorem place1 : place rs1 7 = (2, 0) := by decide +kernel
theorem name1 : nameOf ns1 rs1 6 = "b" := by decide +kernel
def spLaw (K : PySem.W.Frag) : Sp := fun vs H Q _ => ∃ (a : Addr) (cs : List Int), vs = [.ref a] ∧ SqL K H a (cs.map .int) ∧ cs.length ≤ 63 ∧ ∀ H', Q (.bl true) H'
section
variable {P : Program} {w : World} {K : PySem.W.Frag} {mg : Str → Option Value} {base : Heap}
theorem ok_law {f fR : Addr} {fd fdR : FuncData} (F : Fun K "law" "law" sLaw f fd) (T : Nm mg) (DB : Def P w K mg base 1 "_law_begun" ["_law_script"] (spBegun K)) (DE : Def P w K mg base 4 "_law_deal" ["_law_m", "_law_most", "_law_many", "_law_top", "_law_long"] (spDeal K))
    (GR : FnG P w K mg base 5 fR fdR ["_law_m", "_law_pact"] (spRight K)) (gR : mg "_law_right" = some (.ref fR)) (kR : PySem.W.keepIn K (.ref fR) = true) (bR : Binds K fdR ["_law_m", "_law_pact"] [])
    (DG : Def P w K mg base 4 "gets" ["deal", "behind", "coins"] (spGets K)) (DP : Def P w K mg base 4 "row_part" ["deal", "begin", "size"] (spRowPart K)) (DN : Def P w K mg base 4 "name_at" ["deal", "coin"] (spNameAt K)) (DA : Def P w K mg base 4 "run_at" ["deal", "coin"] (spRunAt K)) (DH : Def P w K mg base 4 "has" ["deal", "coins"] (spHasIn K)) :
    FnG P w K mg base 6 f fd ["_law_script"] (spLaw K) := by
  refine fnG_of F scLaw (fun vs H Q h => ?_) (fun cdv A outer s H vs Q hgd hr h => ?_)
  · obtain ⟨_, _, rfl, _⟩ := h
    rfl
  · have hu66 : (A.deeper (envOfC "law" (defScope sLaw) s.heap.objs.size f cdv)).units + 66 < cLine := by have := hr.un; omega
    have hr1 := hr.mono (show 1 ≤ 5 by decide)
    have hr4 := hr.mono (show 4 ≤ 5 by decide)
    obtain ⟨a, cs, rfl, hL, h63, q⟩ := h
    refine ⟨_, pss_cons (ps_set (i := 1) scLaw.nd rfl (.inl rfl) (pe_d DB hr1 (by rfl) (pa_cons (pv 0) pa_nil)))
      (pss_cons (ps_for PassesOwn.never rfl (pi_range1 (by rfl) T.range_ (pa_cons (pe_op op_add pe_int (pe_callB (call_min2 rfl) (by rfl) T.min_ b_min (pa_cons (pe_callB call_len_seq (by rfl) T.len_ b_len (pa_cons (pv 0) pa_nil)) (pa_cons pe_int pa_nil)))) pa_nil)) (pg_name (i := 2) scLaw.nd rfl (.inl rfl))
        (pss_cons (ps_set (i := 3) scLaw.nd rfl (.inl rfl) (pe_d DE hr4 (by rfl) (pa_cons (pv 1) (pa_cons pe_int (pa_cons pe_int (pa_cons pe_int (pa_cons pe_int pa_nil)))))))
        (pss_cons (ps_set (i := 4) scLaw.nd rfl (.inl rfl) (pe_callB (call_repr_data hgd hu66) (by rfl) T.repr_ b_repr (pa_cons (pv 3) pa_nil)))
        (pss_one (ps_if (PW.pt (pw_or (pt_not (pt_val (pe_callG GR hgd hr (by rfl) gR kR bR (pa_cons (pv 1) (pa_cons (pv 3) pa_nil))))) (pw_or1 (pt_cmpR op_ne (pe_callB (call_repr_data hgd hu66) (by rfl) T.repr_ b_repr (pa_cons (pv 3) pa_nil)) (pv 4) (nomark _))))) pss_never pss_nil)))))
      (pss_cons (ps_set (i := 5) scLaw.nd rfl (.inl rfl) (pe_tup (pa_cons (pe_tupF (pa_cons pe_str (pa_cons pe_str pa_nil))) (pa_cons (pe_tup (pa_cons (pe_tup (pa_cons pe_int (pa_cons pe_str pa_nil))) (pa_cons (pe_tup (pa_cons pe_int (pa_cons pe_str pa_nil))) (pa_cons (pe_tup (pa_cons pe_non (pa_cons pe_str pa_nil))) pa_nil)))) pa_nil))))
      (pss_cons (ps_if (pt_cmpR (op_neD hr.units) (pe_d DP hr4 (by rfl) (pa_cons (pv 5) (pa_cons pe_int (pa_cons pe_int pa_nil))))
          (pe_tup (pa_cons pe_str (pa_cons pe_str (pa_cons pe_str (pa_cons pe_str (pa_cons pe_str (pa_cons pe_str (pa_cons pe_str (pa_cons pe_str (pa_cons pe_str (pa_cons pe_str (pa_cons pe_str (pa_cons pe_str (pa_cons pe_str pa_nil)))))))))))))) (nomark _)) pss_never pss_nil)
      (pss_cons (ps_if (PW.pt (pw_or (pt_cmpR (op_neD hr.units) (pe_d DH hr4 (by rfl) (pa_cons (pv 5) (pa_cons pe_int pa_nil))) (pe_tup (pa_cons pe_int (pa_cons pe_int pa_nil))) (nomark _))
          (pw_or (pt_cmpR (op_neD hr.units) (pe_d DG hr4 (by rfl) (pa_cons (pv 5) (pa_cons pe_int (pa_cons pe_int pa_nil)))) (pe_tup (pa_cons pe_int (pa_cons pe_int pa_nil))) (nomark _))
          (pw_or1 (pt_cmpR (op_neD hr.units) (pe_d DG hr4 (by rfl) (pa_cons (pv 5) (pa_cons pe_int (pa_cons pe_int pa_nil)))) (pe_tup (pa_cons pe_int (pa_cons pe_int pa_nil))) (nomark _)))))) pss_never pss_nil)
      (pss_one (ps_ret (pe_and (pe_cmpR (op_eqD hr.units) (pe_d DA hr4 (by rfl) (pa_cons (pv 5) (pa_cons pe_int pa_nil))) (pe_tup (pa_cons pe_int (pa_cons pe_int pa_nil))) (by rfl))
          (pe_one (pe_cmpR op_eq (pe_d DN hr4 (by rfl) (pa_cons (pv 5) (pa_cons pe_int pa_nil))) pe_str (by rfl)))))))))), ?_⟩
    refine ⟨_, rfl, a, cs, rfl, hL, h63, fun m H1 e1 hM1 => ?_⟩
    have hL1 := sqL_same e1 hL
    have hcl : (cs.map V.int).length = cs.length := List.length_map ..
    refine ⟨_, rfl, a, _, rfl, .inl hL1, _, _, rfl, _, _, rfl, rfl, ?_⟩
    rw [hcl]
    obtain ⟨n, hn, hn12⟩ : ∃ n : Nat, (4 : Int) + (if (8 : Int) < (cs.length : Nat) then (8 : Int) else (cs.length : Nat)) = (n : Nat) ∧ n ≤ 12 := by
      by_cases h : (8 : Int) < (cs.length : Nat)
      · rw [if_pos h]
        exact ⟨12, rfl, by decide⟩
      · rw [if_neg h]
        exact ⟨4 + cs.length, by omega, by omega⟩
    refine ⟨(n : Nat), congrArg (fun i => [V.int i]) hn, by omega, by omega, ?_⟩
    refine for_it walk_range (fun i σ H2 => ∃ y2 y3 y4 : Option V, σ = [some (.ref a), some (.ref m), y2, y3, y4, none] ∧ MSt H2 m (74 * i)) ⟨none, none, none, rfl, hM1⟩ (fun _ _ _ _ _ => True.intro) (fun i x σ H3 H2 hi hp2 hy => ?_) (fun σ H2 hp2 => ?_)
    · obtain ⟨y2, y3, y4, rfl, hM2⟩ := hp2
      obtain ⟨rfl, rfl⟩ := hy
      have hi' : i < 12 := by omega
      refine ⟨_, rfl, m, 74 * i, rfl, by omega, hM2, fun pa ns rs H3 e3 hM3 hD3 ok sm => ?_⟩
      have okd := (deal_fit ok sm).ok (by decide) (by decide)
      refine ⟨_, rfl, pa, _, rfl, hD3.dp, okd.lay, okd.short, okd.sh, ?_⟩
      refine ⟨_, rfl, _, rfl, m, pa, ns, rs, _, rfl, hD3, ok, sm, hM3, by omega, fun H4 e4 hM4 => ?_⟩
      refine ⟨true, rfl, iteF ?_⟩
      refine ⟨_, rfl, pa, _, rfl, (hD3.sx hM3 e4).dp, okd.lay, okd.short, okd.sh, _, rfl, rfl, false, neF, iteF ?_⟩
      exact ⟨_, _, _, rfl, hM4.mono (by omega)⟩
    · obtain ⟨y2, y3, y4, rfl, hM2⟩ := hp2
      -- the deal that the law names
      refine ⟨(show 2 ≤ sizeLine by decide), fun np on hnp hon => ?_⟩
      have e3 : Same H2 (upd H2 np (.frz on (.tup (ns1.map .str)))) := same_new hnp
      have g3 : upd H2 np (.frz on (.tup (ns1.map .str))) np = some (.frz on (.tup (ns1.map .str))) := upd_same
      have hf3 : upd H2 np (.frz on (.tup [.str "a", .str "b"])) = upd H2 np (.frz on (.tup (ns1.map .str))) := rfl
      rw [hf3]
      generalize upd H2 np (.frz on (.tup (ns1.map .str))) = H3 at e3 g3
      refine ⟨(show 2 ≤ sizeLine by decide), fun r1 hr1' => ⟨(show 2 ≤ sizeLine by decide), fun r2 hr2 => ⟨(show 2 ≤ sizeLine by decide), fun r3 hr3 => ⟨(show 3 ≤ sizeLine by decide), fun rp hrp => ⟨(show 2 ≤ sizeLine by decide), fun one hone => ?_⟩⟩⟩⟩⟩
      rw [fig0] at hr2 hr3 hrp hone ⊢
      rw [fig01] at hr3 hrp hone ⊢
      rw [fig110] at hrp hone ⊢
      have e4 := same_new (o := .tup [.int 3, .str (figS [0])]) hr1'
      have g4 : upd H3 r1 (.tup [.int 3, .str (figS [0])]) r1 = some (.tup [.int 3, .str (figS [0])]) := upd_same
      generalize upd H3 r1 (.tup [.int 3, .str (figS [0])]) = H4 at e4 g4 hr2 hr3 hrp hone ⊢
      have e5 := same_new (o := .tup [.int 4, .str (figS [0, 1])]) hr2
      have g5 : upd H4 r2 (.tup [.int 4, .str (figS [0, 1])]) r2 = some (.tup [.int 4, .str (figS [0, 1])]) := upd_same
      generalize upd H4 r2 (.tup [.int 4, .str (figS [0, 1])]) = H5 at e5 g5 hr3 hrp hone ⊢
      have e6 := same_new (o := .tup [.non, .str (figS [1, 1, 0])]) hr3
      have g6 : upd H5 r3 (.tup [.non, .str (figS [1, 1, 0])]) r3 = some (.tup [.non, .str (figS [1, 1, 0])]) := upd_same
      generalize upd H5 r3 (.tup [.non, .str (figS [1, 1, 0])]) = H6 at e6 g6 hrp hone ⊢
      have e7 := same_new (o := .tup [.ref r1, .ref r2, .ref r3]) hrp
      have g7 : upd H6 rp (.tup [.ref r1, .ref r2, .ref r3]) rp = some (.tup [.ref r1, .ref r2, .ref r3]) := upd_same
      generalize upd H6 rp (.tup [.ref r1, .ref r2, .ref r3]) = H7 at e7 g7 hone ⊢
      have e8 := same_new (o := .tup [.ref np, .ref rp]) hone
      have g8 : upd H7 one (.tup [.ref np, .ref rp]) one = some (.tup [.ref np, .ref rp]) := upd_same
      generalize upd H7 one (.tup [.ref np, .ref rp]) = H8 at e8 g8
      have hD : DealAt K H8 one ns1 rs1 := by
        refine ⟨np, rp, .of g8, ⟨on, e8 _ _ (e7 _ _ (e6 _ _ (e5 _ _ (e4 _ _ g3)))), hon⟩, [r1, r2, r3], .of (e8 _ _ g7), rfl, fun j r hj => ?_⟩
        match j, hj with
        | 0, hj => cases hj; exact ⟨r1, rfl, .of (e8 _ _ (e7 _ _ (e6 _ _ (e5 _ _ g4))))⟩
        | 1, hj => cases hj; exact ⟨r2, rfl, .of (e8 _ _ (e7 _ _ (e6 _ _ g5)))⟩
        | 2, hj => cases hj; exact ⟨r3, rfl, .of (e8 _ _ (e7 _ _ g6))⟩
        | j + 3, hj => cases hj
      have hrf := row_fit good1 0 13 (by decide)
      rw [row1] at hrf
      have hif : ∀ ns : List Int, ns.length ≤ 100 → (∀ i ∈ ns, -200 ≤ i ∧ i ≤ 200) → Fit 1 900 (.tuple (ns.map PyData.int)) := fun ns h1 h2 => fitInts h1 h2
      -- row_part(one, 0, 13)
      refine ⟨_, rfl, one, ns1, rs1, 0, 13, rfl, hD, good1, by decide, by decide, fun p9 H9 e9 _ hp9 => ⟨(show 13 ≤ sizeLine by decide), fun q9 hq9 => ?_⟩⟩
      rw [row1] at hp9
      refine ⟨.tuple (L13.map PyData.str), .tuple (L13.map PyData.str), .tup (.of (same_new hq9 _ _ hp9)) (dpStrs _), .tup (xs := L13.map V.str) (.of upd_same) (dpStrs _), hrf.shaped (by decide), hrf.shaped (by decide), false, eqvF hrf, iteF ?_⟩
      have eA := (e9.trans (same_new (o := .tup (L13.map V.str)) hq9))
      generalize hA : upd H9 q9 (.tup [.str "a", .str "a", .str "a", .str "a", .str "b", .str "a", .str "b", .str "b", .str "b", .str "a", .str "b", .str "b", .str "a"]) = HA
      have eA8 : Same H8 HA := by rw [← hA]; exact eA
      have hDA := hD.same eA8
      -- has(one, 13), gets(one, 3, 2), gets(one, 7, 3)
      have h2 : ∀ (x y : Int) (H : Hp) (p : Addr), -200 ≤ x → x ≤ 200 → -200 ≤ y → y ≤ 200 → ∀ (q : Addr), H q = some (.tup [.int x, .int y]) → H p = some (.tup [.int x, .int y]) → Dp K H (.ref q) (.tuple [.int x, .int y]) ∧ Dp K H (.ref p) (.tuple [.int x, .int y]) ∧ Fit 1 900 (.tuple [.int x, .int y]) := fun x y H p h1 h2 h3 h4 q g1 g2 =>
        ⟨.tup (.of g1) (dpInts [x, y]), .tup (.of g2) (dpInts [x, y]), fitInts (ns := [x, y]) (show 2 ≤ 100 by decide) fun i hi => by
          rcases List.mem_cons.mp hi with e | e
          · rw [e]; exact ⟨h1, h2⟩
          · rw [List.mem_singleton.mp e]; exact ⟨h3, h4⟩⟩
      refine ⟨_, rfl, one, ns1, rs1, 13, rfl, hDA, good1, by decide, fun pB HB eB _ hpB => ⟨(show 2 ≤ sizeLine by decide), fun qB hqB => ?_⟩⟩
      have hB : hasOf rs1 ns1.length 13 = [7, 6] := has1
      rw [hB] at hpB
      have eC := same_new (o := .tup [.int 7, .int 6]) hqB
      have gC : upd HB qB (.tup [.int 7, .int 6]) qB = some (.tup [.int 7, .int 6]) := upd_same
      generalize upd HB qB (.tup [.int 7, .int 6]) = HC at eC gC
      obtain ⟨d1, d2, d3⟩ := h2 7 6 HC qB (by decide) (by decide) (by decide) (by decide) pB (eC _ _ hpB) gC
      refine ⟨_, _, d1, d2, d3.shaped (by decide), d3.shaped (by decide), false, eqvF d3, iteF ?_⟩
      have hDC := hDA.same (eB.trans eC)
      refine ⟨_, rfl, one, ns1, rs1, 3, 2, rfl, hDC, good1, by decide, by decide, fun pE HE eE _ hpE => ⟨(show 2 ≤ sizeLine by decide), fun qE hqE => ?_⟩⟩
      have hE : getsOf rs1 ns1.length 3 2 = [1, 1] := gets1
      rw [hE] at hpE
      have eF := same_new (o := .tup [.int 1, .int 1]) hqE
      have gF : upd HE qE (.tup [.int 1, .int 1]) qE = some (.tup [.int 1, .int 1]) := upd_same
      generalize upd HE qE (.tup [.int 1, .int 1]) = HF at eF gF
      obtain ⟨d1, d2, d3⟩ := h2 1 1 HF qE (by decide) (by decide) (by decide) (by decide) pE (eF _ _ hpE) gF
      refine ⟨_, _, d1, d2, d3.shaped (by decide), d3.shaped (by decide), false, eqvF d3, iteF ?_⟩
      have hDF := hDC.same (eE.trans eF)
      refine ⟨_, rfl, one, ns1, rs1, 7, 3, rfl, hDF, good1, by decide, by decide, fun pG HG eG _ hpG => ⟨(show 2 ≤ sizeLine by decide), fun qG hqG => ?_⟩⟩
      have hG : getsOf rs1 ns1.length 7 3 = [1, 2] := gets2
      rw [hG] at hpG
      have eI := same_new (o := .tup [.int 1, .int 2]) hqG
      have gI : upd HG qG (.tup [.int 1, .int 2]) qG = some (.tup [.int 1, .int 2]) := upd_same
      generalize upd HG qG (.tup [.int 1, .int 2]) = HI at eI gI
      obtain ⟨d1, d2, d3⟩ := h2 1 2 HI qG (by decide) (by decide) (by decide) (by decide) pG (eI _ _ hpG) gI
      refine ⟨_, _, d1, d2, d3.shaped (by decide), d3.shaped (by decide), false, eqvF d3, iteF ?_⟩
      have hDI := hDF.same (eG.trans eI)
      -- run_at(one, 7) and name_at(one, 6)
      refine ⟨_, rfl, one, ns1, rs1, 7, rfl, hDI, good1, by decide, fun pJ HJ eJ _ hpJ => ⟨(show 2 ≤ sizeLine by decide), fun qJ hqJ => ?_⟩⟩
      rw [place1] at hpJ
      have eK := same_new (o := .tup [.int 2, .int 0]) hqJ
      have gK : upd HJ qJ (.tup [.int 2, .int 0]) qJ = some (.tup [.int 2, .int 0]) := upd_same
      generalize upd HJ qJ (.tup [.int 2, .int 0]) = HK at eK gK
      obtain ⟨d1, d2, d3⟩ := h2 2 0 HK qJ (by decide) (by decide) (by decide) (by decide) pJ (eK _ _ hpJ) gK
      refine ⟨_, _, d1, d2, d3.shaped (by decide), d3.shaped (by decide), true, eqvT d3, iteT ?_⟩
      refine ⟨_, rfl, one, ns1, rs1, 6, rfl, hDI.same (eJ.trans eK), good1, by decide, fun HL eL => ?_⟩
      rw [name1]
      refine ⟨rfl, ?_⟩
      rw [decide_eq_true rfl]
      exact q HL
end
end K3

namespace K3
open PySem PySem.Spec PyProof.Rows L2
/-! ### what the top has written -/
def DefAt (K : PySem.W.Frag) (x : Str) (st : Stmt) : Prop := ∃ f fd, Fun K x x st f fd ∧ PySem.W.nsIn K mainGlobals x = some (some (.ref f))
theorem defAt_mk {K : PySem.W.Frag} {x : Str} {st : Stmt} {f : Addr} {oc : Value} {od an : Option Addr} {osl : Array (Option Value)} {kV doc pm cdv ct : Value} (a : PySem.W.nsIn K mainGlobals x = some (some (.ref f)))
    (l : K.lookup f = some ⟨oc, od, .func (PySem.W.fnOf x x (defArgs st) (defBody st) (defScope st) .none kV doc pm an cdv ct), osl⟩) (c : PySem.W.codeIn K cdv x = true) (k : PySem.W.keepIn K (.ref f) = true) : DefAt K x st := ⟨f, _, fun_mk l c k, a⟩
def ConstAt (K : PySem.W.Frag) (x : Str) (i : Int) : Prop := ∃ t, PySem.W.nsIn K mainGlobals x = some (some (.int i t))
def TextAt (K : PySem.W.Frag) (x z : Str) : Prop := ∃ t, PySem.W.nsIn K mainGlobals x = some (some (.str z t))
theorem constAt_mk {K : PySem.W.Frag} {x : Str} {i : Int} {v : Value} (h : PySem.W.nsIn K mainGlobals x = some (some v)) (e : ∃ t, v = .int i t) : ConstAt K x i := let ⟨t, e⟩ := e; ⟨t, by rw [h, e]⟩
theorem textAt_mk {K : PySem.W.Frag} {x z : Str} {v : Value} (h : PySem.W.nsIn K mainGlobals x = some (some v)) (e : ∃ t, v = .str z t) : TextAt K x z := let ⟨t, e⟩ := e; ⟨t, by rw [h, e]⟩
structure Kit (K : PySem.W.Frag) : Prop where
  d_is_whole : DefAt K "is_whole" sIsWhole
  d_is_word : DefAt K "is_word" sIsWord
  d_are_names : DefAt K "are_names" sAreNames
  d_are_figures : DefAt K "are_figures" sAreFigures
  d_is_run : DefAt K "is_run" sIsRun
  d_need_deal : DefAt K "need_deal" sNeedDeal
  d_need_number : DefAt K "need_number" sNeedNumber
  d_count_in : DefAt K "count_in" sCountIn
  d_parts_of : DefAt K "parts_of" sPartsOf
  d_count_by : DefAt K "count_by" sCountBy
  d_has_in : DefAt K "has_in" sHasIn
  d_place_in : DefAt K "place_in" sPlaceIn
  d_name_in : DefAt K "name_in" sNameIn
  d_name_at : DefAt K "name_at" sNameAt
  d_row_part : DefAt K "row_part" sRowPart
  d_has : DefAt K "has" sHas
  d_gets : DefAt K "gets" sGets
  d_run_at : DefAt K "run_at" sRunAt
  d_law_begun : DefAt K "_law_begun" sBegun
  d_law_draw : DefAt K "_law_draw" sDraw
  d_law_of : DefAt K "_law_of" sOf
  d_law_people : DefAt K "_law_people" sPeople
  d_law_figures : DefAt K "_law_figures" sFigures
  d_law_runs : DefAt K "_law_runs" sRuns
  d_law_deal : DefAt K "_law_deal" sDeal
  d_law_row : DefAt K "_law_row" sRow
  d_law_places : DefAt K "_law_places" sPlaces
  d_law_right : DefAt K "_law_right" sRight
  d_law : DefAt K "law" sLaw
  n_isinstance : PySem.W.nsIn K mainGlobals "isinstance" = some none
  n_int : PySem.W.nsIn K mainGlobals "int" = some none
  n_bool : PySem.W.nsIn K mainGlobals "bool" = some none
  n_str : PySem.W.nsIn K mainGlobals "str" = some none
  n_tuple : PySem.W.nsIn K mainGlobals "tuple" = some none
  n_list : PySem.W.nsIn K mainGlobals "list" = some none
  n_len : PySem.W.nsIn K mainGlobals "len" = some none
  n_all : PySem.W.nsIn K mainGlobals "all" = some none
  n_zip : PySem.W.nsIn K mainGlobals "zip" = some none
  n_enumerate : PySem.W.nsIn K mainGlobals "enumerate" = some none
  n_divmod : PySem.W.nsIn K mainGlobals "divmod" = some none
  n_sum : PySem.W.nsIn K mainGlobals "sum" = some none
  n_range : PySem.W.nsIn K mainGlobals "range" = some none
  n_min : PySem.W.nsIn K mainGlobals "min" = some none
  n_repr : PySem.W.nsIn K mainGlobals "repr" = some none
  cNames : ConstAt K "MOST_NAMES" 6
  cSigns : ConstAt K "MOST_SIGNS" 6
  cFigs : ConstAt K "MOST_FIGURES" 400
  cRuns : ConstAt K "MOST_RUNS" 60
  cRow : ConstAt K "MOST_ROW" 1000
  tL : TextAt K "LETTERS" letters
  tD : TextAt K "DIGITS" digits
section
variable {P : Program} {w : World} {K : PySem.W.Frag} {mg : Str → Option Value} {h : Heap}
theorem Kit.nm (Kt : Kit K) (X : K.In h) (G : h.Ns mainGlobals mg) (hc : ∃ t, mg "MOST_COINS" = some (.int 1000000000000 t)) (hn : ∃ t, mg "MOST_NUMBER" = some (.int 1000000000000000000000000000000 t)) : Nm mg where
  isinstance_ := PySem.W.mg_none_of X G Kt.n_isinstance
  int_ := PySem.W.mg_none_of X G Kt.n_int
  bool_ := PySem.W.mg_none_of X G Kt.n_bool
  str_ := PySem.W.mg_none_of X G Kt.n_str
  tuple_ := PySem.W.mg_none_of X G Kt.n_tuple
  list_ := PySem.W.mg_none_of X G Kt.n_list
  len_ := PySem.W.mg_none_of X G Kt.n_len
  all_ := PySem.W.mg_none_of X G Kt.n_all
  zip_ := PySem.W.mg_none_of X G Kt.n_zip
  enumerate_ := PySem.W.mg_none_of X G Kt.n_enumerate
  divmod_ := PySem.W.mg_none_of X G Kt.n_divmod
  sum_ := PySem.W.mg_none_of X G Kt.n_sum
  range_ := PySem.W.mg_none_of X G Kt.n_range
  min_ := PySem.W.mg_none_of X G Kt.n_min
  repr_ := PySem.W.mg_none_of X G Kt.n_repr
  cNames := let ⟨t, e⟩ := Kt.cNames; ⟨t, PySem.W.mg_of X G e⟩
  cSigns := let ⟨t, e⟩ := Kt.cSigns; ⟨t, PySem.W.mg_of X G e⟩
  cFigs := let ⟨t, e⟩ := Kt.cFigs; ⟨t, PySem.W.mg_of X G e⟩
  cRuns := let ⟨t, e⟩ := Kt.cRuns; ⟨t, PySem.W.mg_of X G e⟩
  cRow := let ⟨t, e⟩ := Kt.cRow; ⟨t, PySem.W.mg_of X G e⟩
  cCoins := hc
  cNumber := hn
  letters_ := let ⟨t, e⟩ := Kt.tL; ⟨t, PySem.W.mg_of X G e⟩
  digits_ := let ⟨t, e⟩ := Kt.tD; ⟨t, PySem.W.mg_of X G e⟩
theorem law_all {fa : Addr} (Kt : Kit K) (X : K.In h) (G : h.Ns mainGlobals mg) (hc : ∃ t, mg "MOST_COINS" = some (.int 1000000000000 t)) (hn : ∃ t, mg "MOST_NUMBER" = some (.int 1000000000000000000000000000000 t)) (hfa : mg "law" = some (.ref fa)) :
    ∃ fd : FuncData, Binds K fd ["_law_script"] [] ∧ ∀ base : Heap, FnG P w K mg base 6 fa fd ["_law_script"] (spLaw K) := by
  have T := Kt.nm X G hc hn
  obtain ⟨f, fd, F, a⟩ := Kt.d_law
  have e := hfa.symm.trans (PySem.W.mg_of X G a)
  cases e
  refine ⟨fd, F.binds (fun _ _ _ _ _ _ us hl => match us, hl with | [_], _ => rfl), fun base => ?_⟩
  have D_is_whole : Def P w K mg base 1 "is_whole" ["thing", "least", "most"] spIsWhole := let ⟨f, fd, F, g⟩ := Kt.d_is_whole; ⟨f, fd, (ok_isWhole F T), PySem.W.mg_of X G g, F.kp, F.binds (fun _ _ _ _ _ _ us hl => match us, hl with | [_, _, _], _ => rfl)⟩
  have D_is_word : Def P w K mg base 1 "is_word" ["thing"] spIsWord := let ⟨f, fd, F, g⟩ := Kt.d_is_word; ⟨f, fd, (ok_isWord F T), PySem.W.mg_of X G g, F.kp, F.binds (fun _ _ _ _ _ _ us hl => match us, hl with | [_], _ => rfl)⟩
  have D_are_names : Def P w K mg base 2 "are_names" ["thing"] (spAreNames K) := let ⟨f, fd, F, g⟩ := Kt.d_are_names; ⟨f, fd, (let ⟨fW, fdW, FW, gW⟩ := Kt.d_is_word; ok_areNames F T FW (PySem.W.mg_of X G gW) (FW.binds (fun _ _ _ _ _ _ us hl => match us, hl with | [_], _ => rfl))), PySem.W.mg_of X G g, F.kp, F.binds (fun _ _ _ _ _ _ us hl => match us, hl with | [_], _ => rfl)⟩
  have D_are_figures : Def P w K mg base 1 "are_figures" ["many", "thing"] spAreFigures := let ⟨f, fd, F, g⟩ := Kt.d_are_figures; ⟨f, fd, (ok_areFigures F T), PySem.W.mg_of X G g, F.kp, F.binds (fun _ _ _ _ _ _ us hl => match us, hl with | [_, _], _ => rfl)⟩
  have D_is_run : Def P w K mg base 2 "is_run" ["many", "thing", "is_last"] (spIsRun K) := let ⟨f, fd, F, g⟩ := Kt.d_is_run; ⟨f, fd, (let ⟨fF, fdF, FF, gF⟩ := Kt.d_are_figures; let ⟨fW, fdW, FW, gW⟩ := Kt.d_is_whole; ok_isRun F T FF (PySem.W.mg_of X G gF) (FF.binds (fun _ _ _ _ _ _ us hl => match us, hl with | [_, _], _ => rfl)) FW (PySem.W.mg_of X G gW) (FW.binds (fun _ _ _ _ _ _ us hl => match us, hl with | [_, _, _], _ => rfl))), PySem.W.mg_of X G g, F.kp, F.binds (fun _ _ _ _ _ _ us hl => match us, hl with | [_, _, _], _ => rfl)⟩
  have D_need_deal : Def P w K mg base 3 "need_deal" ["thing"] (spNeedDeal K) := let ⟨f, fd, F, g⟩ := Kt.d_need_deal; ⟨f, fd, (ok_needDeal F T D_are_names D_is_run), PySem.W.mg_of X G g, F.kp, F.binds (fun _ _ _ _ _ _ us hl => match us, hl with | [_], _ => rfl)⟩
  have D_need_number : Def P w K mg base 2 "need_number" ["thing"] spNeedNumber := let ⟨f, fd, F, g⟩ := Kt.d_need_number; ⟨f, fd, (ok_needNumber F T D_is_whole), PySem.W.mg_of X G g, F.kp, F.binds (fun _ _ _ _ _ _ us hl => match us, hl with | [_], _ => rfl)⟩
  have D_count_in : Def P w K mg base 1 "count_in" ["figures", "figure", "coins"] spCountIn := let ⟨f, fd, F, g⟩ := Kt.d_count_in; ⟨f, fd, (ok_countIn F T), PySem.W.mg_of X G g, F.kp, F.binds (fun _ _ _ _ _ _ us hl => match us, hl with | [_, _, _], _ => rfl)⟩
  have D_parts_of : Def P w K mg base 1 "parts_of" ["runs", "coins"] (spPartsOf K) := let ⟨f, fd, F, g⟩ := Kt.d_parts_of; ⟨f, fd, (ok_partsOf F T), PySem.W.mg_of X G g, F.kp, F.binds (fun _ _ _ _ _ _ us hl => match us, hl with | [_, _], _ => rfl)⟩
  have D_count_by : Def P w K mg base 2 "count_by" ["runs", "figure", "coins"] (spCountBy K) := let ⟨f, fd, F, g⟩ := Kt.d_count_by; ⟨f, fd, (ok_countBy F T D_parts_of D_count_in), PySem.W.mg_of X G g, F.kp, F.binds (fun _ _ _ _ _ _ us hl => match us, hl with | [_, _, _], _ => rfl)⟩
  have D_has_in : Def P w K mg base 3 "has_in" ["deal", "coins"] (spHasIn K) := let ⟨f, fd, F, g⟩ := Kt.d_has_in; ⟨f, fd, (ok_hasIn F T D_count_by), PySem.W.mg_of X G g, F.kp, F.binds (fun _ _ _ _ _ _ us hl => match us, hl with | [_, _], _ => rfl)⟩
  have D_place_in : Def P w K mg base 1 "place_in" ["runs", "coin"] (spPlaceIn K) := let ⟨f, fd, F, g⟩ := Kt.d_place_in; ⟨f, fd, (ok_placeIn F T), PySem.W.mg_of X G g, F.kp, F.binds (fun _ _ _ _ _ _ us hl => match us, hl with | [_, _], _ => rfl)⟩
  have D_name_in : Def P w K mg base 2 "name_in" ["deal", "coin"] (spNameIn K) := let ⟨f, fd, F, g⟩ := Kt.d_name_in; ⟨f, fd, (ok_nameIn F T D_place_in), PySem.W.mg_of X G g, F.kp, F.binds (fun _ _ _ _ _ _ us hl => match us, hl with | [_, _], _ => rfl)⟩
  have D_name_at : Def P w K mg base 4 "name_at" ["deal", "coin"] (spNameAt K) := let ⟨f, fd, F, g⟩ := Kt.d_name_at; ⟨f, fd, (ok_nameAt F D_need_deal D_need_number D_name_in), PySem.W.mg_of X G g, F.kp, F.binds (fun _ _ _ _ _ _ us hl => match us, hl with | [_, _], _ => rfl)⟩
  have D_row_part : Def P w K mg base 4 "row_part" ["deal", "begin", "size"] (spRowPart K) := let ⟨f, fd, F, g⟩ := Kt.d_row_part; ⟨f, fd, (ok_rowPart F T D_need_deal D_need_number D_is_whole D_name_in), PySem.W.mg_of X G g, F.kp, F.binds (fun _ _ _ _ _ _ us hl => match us, hl with | [_, _, _], _ => rfl)⟩
  have D_has : Def P w K mg base 4 "has" ["deal", "coins"] (spHasIn K) := let ⟨f, fd, F, g⟩ := Kt.d_has; ⟨f, fd, (ok_has F D_need_deal D_need_number D_has_in), PySem.W.mg_of X G g, F.kp, F.binds (fun _ _ _ _ _ _ us hl => match us, hl with | [_, _], _ => rfl)⟩
  have D_gets : Def P w K mg base 4 "gets" ["deal", "behind", "coins"] (spGets K) := let ⟨f, fd, F, g⟩ := Kt.d_gets; ⟨f, fd, (ok_gets F T D_need_deal D_need_number D_has_in), PySem.W.mg_of X G g, F.kp, F.binds (fun _ _ _ _ _ _ us hl => match us, hl with | [_, _, _], _ => rfl)⟩
  have D_run_at : Def P w K mg base 4 "run_at" ["deal", "coin"] (spRunAt K) := let ⟨f, fd, F, g⟩ := Kt.d_run_at; ⟨f, fd, (ok_runAt F D_need_deal D_need_number D_place_in), PySem.W.mg_of X G g, F.kp, F.binds (fun _ _ _ _ _ _ us hl => match us, hl with | [_, _], _ => rfl)⟩
  have D_law_begun : Def P w K mg base 1 "_law_begun" ["_law_script"] (spBegun K) := let ⟨f, fd, F, g⟩ := Kt.d_law_begun; ⟨f, fd, (ok_begun F T), PySem.W.mg_of X G g, F.kp, F.binds (fun _ _ _ _ _ _ us hl => match us, hl with | [_], _ => rfl)⟩
  have D_law_draw : Def P w K mg base 1 "_law_draw" ["_law_m", "_law_many"] spDraw := let ⟨f, fd, F, g⟩ := Kt.d_law_draw; ⟨f, fd, (ok_draw F T), PySem.W.mg_of X G g, F.kp, F.binds (fun _ _ _ _ _ _ us hl => match us, hl with | [_, _], _ => rfl)⟩
  have D_law_of : Def P w K mg base 2 "_law_of" ["_law_m", "_law_some"] (spOf K) := let ⟨f, fd, F, g⟩ := Kt.d_law_of; ⟨f, fd, (ok_of F T D_law_draw), PySem.W.mg_of X G g, F.kp, F.binds (fun _ _ _ _ _ _ us hl => match us, hl with | [_, _], _ => rfl)⟩
  have D_law_people : Def P w K mg base 3 "_law_people" ["_law_m", "_law_most"] spPeople := let ⟨f, fd, F, g⟩ := Kt.d_law_people; ⟨f, fd, (ok_people F D_law_draw D_law_of), PySem.W.mg_of X G g, F.kp, F.binds (fun _ _ _ _ _ _ us hl => match us, hl with | [_, _], _ => rfl)⟩
  have D_law_figures : Def P w K mg base 2 "_law_figures" ["_law_m", "_law_total", "_law_long"] spFigures := let ⟨f, fd, F, g⟩ := Kt.d_law_figures; ⟨f, fd, (ok_figures F T D_law_draw), PySem.W.mg_of X G g, F.kp, F.binds (fun _ _ _ _ _ _ us hl => match us, hl with | [_, _, _], _ => rfl)⟩
  have D_law_runs : Def P w K mg base 3 "_law_runs" ["_law_m", "_law_total", "_law_many", "_law_top", "_law_long"] (spRuns K) := let ⟨f, fd, F, g⟩ := Kt.d_law_runs; ⟨f, fd, (ok_runs F T D_law_draw D_law_figures), PySem.W.mg_of X G g, F.kp, F.binds (fun _ _ _ _ _ _ us hl => match us, hl with | [_, _, _, _, _], _ => rfl)⟩
  have D_law_deal : Def P w K mg base 4 "_law_deal" ["_law_m", "_law_most", "_law_many", "_law_top", "_law_long"] (spDeal K) := let ⟨f, fd, F, g⟩ := Kt.d_law_deal; ⟨f, fd, (ok_deal F T D_law_people D_law_runs), PySem.W.mg_of X G g, F.kp, F.binds (fun _ _ _ _ _ _ us hl => match us, hl with | [_, _, _, _, _], _ => rfl)⟩
  have D_law_row : Def P w K mg base 1 "_law_row" ["_law_runs_here", "_law_size"] (spRow K) := let ⟨f, fd, F, g⟩ := Kt.d_law_row; ⟨f, fd, (ok_row F T), PySem.W.mg_of X G g, F.kp, F.binds (fun _ _ _ _ _ _ us hl => match us, hl with | [_, _], _ => rfl)⟩
  have D_law_places : Def P w K mg base 1 "_law_places" ["_law_runs_here", "_law_size"] (spPlaces K) := let ⟨f, fd, F, g⟩ := Kt.d_law_places; ⟨f, fd, (ok_places F T), PySem.W.mg_of X G g, F.kp, F.binds (fun _ _ _ _ _ _ us hl => match us, hl with | [_, _], _ => rfl)⟩
  obtain ⟨fR, fdR, FR, gR⟩ := Kt.d_law_right
  exact ok_law F T D_law_begun D_law_deal (ok_right FR T D_law_draw D_law_row D_law_places D_gets D_row_part D_name_at D_run_at D_has) (PySem.W.mg_of X G gR) FR.kp (FR.binds (fun _ _ _ _ _ _ us hl => match us, hl with | [_, _], _ => rfl)) D_gets D_row_part D_name_at D_run_at D_has
end
end K3

namespace K3
open PySem PySem.Spec PyProof.Rows L2
/-! ### the call of the law at the heap behind the top: no repr is under way there -/
section
variable {P : Program} {w : World} {K : PySem.W.Frag} {mg mb : Str → Option Value} {k : Nat} {fa a : Addr} {fd : FuncData} {x : Str} {sp : Sp} {s₁ : Shared} {vs : List Value} {ns : List Int}
/-- the script alone is tracked, where it is no object of the module -/
def scriptH (K : PySem.W.Frag) (a : Addr) (o : HO) : Hp := fun b => if b = a ∧ K.lookup a = none then some o else none
theorem scriptH_inv {o u : HO} {b : Addr} (e : scriptH K a o b = some u) : b = a ∧ K.lookup a = none ∧ u = o := by
  unfold scriptH at e
  split at e
  · rename_i c
    cases e
    exact ⟨c.1, c.2, rfl⟩
  · cases e
theorem ground_call (KX : K.In s₁.heap) (hns : s₁.heap.Ns mainGlobals mg) (hb : s₁.heap.Ns builtinsNs mb) (hbb : ∀ x : Str, x ≠ "__name__" → mb x = bootBuiltins x) (hlim : s₁.heap.NoLimit) (hg : s₁.gens = #[])
    (ha : s₁.heap.get? a = some { cls := .type "list", data := .seq vs.toArray }) (hi : IntsAre vs ns) (hl : ns.length ≤ sizeLine) (hr : Room k callerA)
    (F : ∀ base : Heap, FnG P w K mg base k fa fd [x] sp) (hbind : Binds K fd [x] [])
    (hsp : ∀ H : Hp, SqL K H a (ns.map V.int) → sp [.ref a] H (fun v _ => v = .bl true) E0) :
    codeAny (model P w) callerA (.call (.ref fa) ⟨[.ref a], []⟩) (fun r s' => r = .ok (.ret (.bool true)) ∧ OldK s₁.heap s'.heap ∧ s'.os = s₁.os ∧ AllBare s'.gens) s₁ := by
  have rv := vals_ints hi
  have lenV := hi.length
  generalize eH : scriptH K a (.frz { cls := .type "list", data := .seq vs.toArray } (.lst (ns.map V.int))) = H
  have inv : ∀ {b u}, H b = some u → b = a ∧ K.lookup a = none ∧ u = .frz { cls := .type "list", data := .seq vs.toArray } (.lst (ns.map V.int)) := fun {b u} e => by
    rw [← eH] at e
    exact scriptH_inv e
  have hS : SqL K H a (ns.map V.int) := by
    cases hk : K.lookup a with
    | none => exact .inl (.inr ⟨_, by rw [← eH]; exact if_pos ⟨rfl, hk⟩⟩)
    | some o =>
      have e := KX a o hk
      rw [ha] at e
      cases e
      exact .inr ⟨_, vs.toArray, _, hk, rfl, rfl, rfl, by rw [List.size_toArray, lenV]; exact hl, by simpa using rv⟩
  have hok : HOk P w H s₁.heap := fun b u e => by
    obtain ⟨rfl, _, rfl⟩ := inv e
    exact ⟨ha, by rw [List.length_map]; exact hl, vs, _, rv, ha⟩
  have free : ∀ {b : Addr} {o : Obj}, s₁.heap.get? b = some o → (∀ ts n, o.data ≠ .seq ts n) → H b = none := fun {b o} e d => by
    cases q : H b with
    | none => rfl
    | some u =>
      obtain ⟨rfl, _, _⟩ := inv q
      rw [ha] at e
      cases e
      exact absurd rfl (d _ _)
  have nsK : ∀ {b : Addr} {m : Str → Option Value}, s₁.heap.Ns b m → (hidT s₁.heap H).Ns b m := fun {b m} ⟨o, es, ep, e, d, r⟩ => ⟨o, es, ep, hidT_get e (free e fun ts n q => by rw [d] at q; cases q), d, r⟩
  have hKb : K.In (hidT s₁.heap H) := fun b o e => hidT_get (KX b o e) (by
    cases q : H b with
    | none => rfl
    | some u =>
      obtain ⟨rfl, hk, _⟩ := inv q
      rw [hk] at e
      cases e)
  have hM : Mod K mg (hidT s₁.heap H) := ⟨hKb, nsK hns, ⟨mb, nsK hb, hbb⟩, let ⟨mc, h1, h2⟩ := hlim; ⟨mc, nsK h1, h2⟩⟩
  have e0 : Env0 P w K mg (hidT s₁.heap H) callerA [] s₁ H :=
    { frames := rfl, mod := hM, bs := fun b o e => of_hidT e, bsz := Nat.le_of_eq (hidT_size _ _), funs := trivial, frf := fun b hb => absurd (show b ∈ ([] : List Addr) from hb) (by simp), hok := hok, bare := .of_eq hg }
  refine codeAny_mono ((F (hidT s₁.heap H)).run callerA [] s₁ H ⟨[.ref a], []⟩ [.ref a] [.ref a] _ rfl hr e0 (by simpa using hbind s₁ [.ref a] KX rfl) (.cons rfl .nil) (hsp H hS)) fun r s' h => ?_
  cases r with
  | error e => exact False.elim h
  | ok fl =>
    cases fl with
    | next => exact False.elim h
    | brk => exact False.elim h
    | cont => exact False.elim h
    | ret u =>
      obtain ⟨v, H', os, bare, un, hok', r', q⟩ := h
      have q' : v = .bl true := q
      subst q'
      obtain rfl : u = Value.bool true := r'
      refine ⟨rfl, .of_keep fun b o e => ?_, os, bare⟩
      cases q : H b with
      | none => exact un.keep b o e q (by intro z; exact absurd (show b ∈ ([] : List Addr) from z) (by simp)) (by simp)
      | some u =>
        obtain ⟨rfl, _, rfl⟩ := inv q
        have e1 := (hok _ _ q).1
        have e2 := (hok' _ _ (un.frzs _ _ _ q)).1
        rw [e] at e1
        cases e1
        exact e2
end
theorem loose_int {q : Program} {lv : List (Str × PySem.W.WData)} {mg : Str → Option Value} {h : Heap} {x : Str} {i : Int} (X : PySem.W.XL q lv mg h) (hx : (x, PySem.W.WData.int i) ∈ lv) : ∃ t, mg x = some (.int i t) := by
  obtain ⟨v, e, r⟩ := X.2.val _ hx
  cases r
  exact ⟨_, e⟩
/-- the goal that the head leaves -/
theorem walk_ofG {l : PySem.W.OpenLaw} {q : Program} {loose : List Str} {lv : List (Str × PySem.W.WData)} {YP : World → Heap → Prop} {d : DefRec} {K : Params → PySem.W.Frag}
    (hn : l.most = some 63) (hdf : d.params.defaults = []) (hd : d.name = "law") (h1 : (Str.ofString "MOST_COINS", PySem.W.WData.int 1000000000000) ∈ lv) (h2 : (Str.ofString "MOST_NUMBER", PySem.W.WData.int 1000000000000000000000000000000) ∈ lv)
    (hY : ∀ (w : World) (h : Heap), YP w h → (K w.params).In h) (Kt : ∀ w : World, Kit (K w.params)) :
    PySem.W.WalkO q loose (PySem.W.XL q lv) YP l.row.toRowW d [] (fun f vs => PySem.call f vs) := by
  refine Att.attach_call hn hdf fun w s₀ s₁ mg mb fa o pm cd doc a vs ns G Y ho hod hcd hmg hobj hints hlen hg => ?_
  have KX := hY w _ Y
  rw [hd] at hmg
  obtain ⟨fd, hb, hF⟩ := law_all (P := l.prog) (w := w) (Kt w) KX G.T.g (loose_int G.X h1) (loose_int G.X h2) hmg
  exact ground_call KX G.T.g G.T.b G.T.builtins G.T.nolimit hg hobj hints (Nat.le_trans hlen (by decide)) ⟨rfl, by decide, by decide⟩ hF hb fun H hS => ⟨a, ns, rfl, hS, hlen, fun _ => rfl⟩
end K3

open PySem PySem.W PyProof.Rows
set_option maxHeartbeats 0 in
theorem PySem.Challenge.cw_stairpay_k03_whole_rows_holds : PySem.Challenge.rw_stairpay_k03_whole_rows.Holds := by
  w_on; o_law; k_head; (case hw => w_witness2)
  k_fill
  refine K3.walk_ofG (l := PySem.Challenge.rw_stairpay_k03_whole_rows) rfl (by decide) rfl (by simp) (by simp) (fun w h Y => PySem.W.kIn_of Y) ?F
  case F =>
    intro w
    constructor
    case d_is_whole => refine' K3.defAt_mk ?a ?l ?c ?k; (case a => k_is); (case l => k_is); (case c => k_is); (case k => k_is)
    case d_is_word => refine' K3.defAt_mk ?a ?l ?c ?k; (case a => k_is); (case l => k_is); (case c => k_is); (case k => k_is)
    case d_are_names => refine' K3.defAt_mk ?a ?l ?c ?k; (case a => k_is); (case l => k_is); (case c => k_is); (case k => k_is)
    case d_are_figures => refine' K3.defAt_mk ?a ?l ?c ?k; (case a => k_is); (case l => k_is); (case c => k_is); (case k => k_is)
    case d_is_run => refine' K3.defAt_mk ?a ?l ?c ?k; (case a => k_is); (case l => k_is); (case c => k_is); (case k => k_is)
    case d_need_deal => refine' K3.defAt_mk ?a ?l ?c ?k; (case a => k_is); (case l => k_is); (case c => k_is); (case k => k_is)
    case d_need_number => refine' K3.defAt_mk ?a ?l ?c ?k; (case a => k_is); (case l => k_is); (case c => k_is); (case k => k_is)
    case d_count_in => refine' K3.defAt_mk ?a ?l ?c ?k; (case a => k_is); (case l => k_is); (case c => k_is); (case k => k_is)
    case d_parts_of => refine' K3.defAt_mk ?a ?l ?c ?k; (case a => k_is); (case l => k_is); (case c => k_is); (case k => k_is)
    case d_count_by => refine' K3.defAt_mk ?a ?l ?c ?k; (case a => k_is); (case l => k_is); (case c => k_is); (case k => k_is)
    case d_has_in => refine' K3.defAt_mk ?a ?l ?c ?k; (case a => k_is); (case l => k_is); (case c => k_is); (case k => k_is)
    case d_place_in => refine' K3.defAt_mk ?a ?l ?c ?k; (case a => k_is); (case l => k_is); (case c => k_is); (case k => k_is)
    case d_name_in => refine' K3.defAt_mk ?a ?l ?c ?k; (case a => k_is); (case l => k_is); (case c => k_is); (case k => k_is)
    case d_name_at => refine' K3.defAt_mk ?a ?l ?c ?k; (case a => k_is); (case l => k_is); (case c => k_is); (case k => k_is)
    case d_row_part => refine' K3.defAt_mk ?a ?l ?c ?k; (case a => k_is); (case l => k_is); (case c => k_is); (case k => k_is)
    case d_has => refine' K3.defAt_mk ?a ?l ?c ?k; (case a => k_is); (case l => k_is); (case c => k_is); (case k => k_is)
    case d_gets => refine' K3.defAt_mk ?a ?l ?c ?k; (case a => k_is); (case l => k_is); (case c => k_is); (case k => k_is)
    case d_run_at => refine' K3.defAt_mk ?a ?l ?c ?k; (case a => k_is); (case l => k_is); (case c => k_is); (case k => k_is)
    case d_law_begun => refine' K3.defAt_mk ?a ?l ?c ?k; (case a => k_is); (case l => k_is); (case c => k_is); (case k => k_is)
    case d_law_draw => refine' K3.defAt_mk ?a ?l ?c ?k; (case a => k_is); (case l => k_is); (case c => k_is); (case k => k_is)
    case d_law_of => refine' K3.defAt_mk ?a ?l ?c ?k; (case a => k_is); (case l => k_is); (case c => k_is); (case k => k_is)
    case d_law_people => refine' K3.defAt_mk ?a ?l ?c ?k; (case a => k_is); (case l => k_is); (case c => k_is); (case k => k_is)
    case d_law_figures => refine' K3.defAt_mk ?a ?l ?c ?k; (case a => k_is); (case l => k_is); (case c => k_is); (case k => k_is)
    case d_law_runs => refine' K3.defAt_mk ?a ?l ?c ?k; (case a => k_is); (case l => k_is); (case c => k_is); (case k => k_is)
    case d_law_deal => refine' K3.defAt_mk ?a ?l ?c ?k; (case a => k_is); (case l => k_is); (case c => k_is); (case k => k_is)
    case d_law_row => refine' K3.defAt_mk ?a ?l ?c ?k; (case a => k_is); (case l => k_is); (case c => k_is); (case k => k_is)
    case d_law_places => refine' K3.defAt_mk ?a ?l ?c ?k; (case a => k_is); (case l => k_is); (case c => k_is); (case k => k_is)
    case d_law_right => refine' K3.defAt_mk ?a ?l ?c ?k; (case a => k_is); (case l => k_is); (case c => k_is); (case k => k_is)
    case d_law => refine' K3.defAt_mk ?a ?l ?c ?k; (case a => k_is); (case l => k_is); (case c => k_is); (case k => k_is)
    case n_isinstance => k_is
    case n_int => k_is
    case n_bool => k_is
    case n_str => k_is
    case n_tuple => k_is
    case n_list => k_is
    case n_len => k_is
    case n_all => k_is
    case n_zip => k_is
    case n_enumerate => k_is
    case n_divmod => k_is
    case n_sum => k_is
    case n_range => k_is
    case n_min => k_is
    case n_repr => k_is
    case cNames => refine' K3.constAt_mk ?a ?b; (case a => k_is); (case b => exact ⟨_, rfl⟩)
    case cSigns => refine' K3.constAt_mk ?a ?b; (case a => k_is); (case b => exact ⟨_, rfl⟩)
    case cFigs => refine' K3.constAt_mk ?a ?b; (case a => k_is); (case b => exact ⟨_, rfl⟩)
    case cRuns => refine' K3.constAt_mk ?a ?b; (case a => k_is); (case b => exact ⟨_, rfl⟩)
    case cRow => refine' K3.constAt_mk ?a ?b; (case a => k_is); (case b => exact ⟨_, rfl⟩)
    case tL => refine' K3.textAt_mk ?a ?b; (case a => k_is); (case b => exact ⟨_, rfl⟩)
    case tD => refine' K3.textAt_mk ?a ?b; (case a => k_is); (case b => exact ⟨_, rfl⟩)

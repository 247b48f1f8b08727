import PyProof.Rows.All
import Wide.All
import OpenK.AllK
import Wide.FinOn
import HandS.ForMost
import HandS.FStr
import HandS.IsInst
import HandS.CallLocal
import HandS.Rev
import HandS.Deep
import HandS.NoneIn
import HandS.StrMore
import HandS.Style
import HandS.TupAny
import HandS.Conv
import HandS.Walk
import HandS.Codes
import PySem.Challenge.RW_stepdown_k68_whole_one_step_as_rules
set_option Elab.async false
set_option maxRecDepth 100000
set_option linter.all false
set_option maxHeartbeats 4000000
section
set_option autoImplicit false
/-! The plain mathematics of law k68: tapes, their strings, the rules; no program in sight. -/
namespace K68
open TL
/-! ### tapes -/
abbrev Row := Nat × Bool × Nat
structure Cf where
  q : Nat
  L : List Nat
  a : Nat
  R : List Nat
def Trm (l : List Nat) : Prop := l.getLast? ≠ some 0
structure Cf.Ok (c : Cf) (m s : Nat) : Prop where
  q : c.q < s
  a : c.a < m
  L : ∀ b ∈ c.L, b < m
  R : ∀ b ∈ c.R, b < m
  tL : Trm c.L
  tR : Trm c.R
structure RowsOk (m s : Nat) (rows : List (Option Row)) : Prop where
  len : rows.length = m * s
  ok : ∀ r : Row, some r ∈ rows → r.1 < m ∧ r.2.2 < s
def chop (l : List Nat) : List Nat := if l.getLast? = some 0 then l.dropLast else l
def trimK : Nat → List Nat → List Nat
  | 0, l => l
  | k + 1, l => chop (trimK k l)
def trim (l : List Nat) : List Nat := trimK l.length l
theorem chop_trm {l : List Nat} (h : Trm l) : chop l = l := by
  unfold chop
  rw [if_neg h]
theorem trimK_trm {l : List Nat} (h : Trm l) : ∀ k, trimK k l = l
  | 0 => rfl
  | k + 1 => by
    show chop (trimK k l) = l
    rw [trimK_trm h k, chop_trm h]
theorem trim_trm {l : List Nat} (h : Trm l) : trim l = l := trimK_trm h _
theorem chop_len (l : List Nat) : (chop l).length ≤ l.length := by
  unfold chop
  split
  · rw [List.length_dropLast]
    omega
  · exact Nat.le_refl _
theorem chop_mem {l : List Nat} {b : Nat} (h : b ∈ chop l) : b ∈ l := by
  unfold chop at h
  split at h
  · exact List.dropLast_subset l h
  · exact h
theorem trimK_mem {b : Nat} {l : List Nat} : ∀ k, b ∈ trimK k l → b ∈ l
  | 0, h => h
  | k + 1, h => trimK_mem k (chop_mem h)
theorem trim_mem {b : Nat} {l : List Nat} (h : b ∈ trim l) : b ∈ l := trimK_mem _ h
theorem trimK_len {l : List Nat} : ∀ k, (trimK k l).length ≤ l.length
  | 0 => Nat.le_refl _
  | k + 1 => Nat.le_trans (chop_len _) (trimK_len k)
theorem trim_len (l : List Nat) : (trim l).length ≤ l.length := trimK_len _
theorem trimK_or (l : List Nat) : ∀ k, Trm (trimK k l) ∨ (trimK k l).length = l.length - k
  | 0 => .inr rfl
  | k + 1 => by
    show Trm (chop (trimK k l)) ∨ (chop (trimK k l)).length = l.length - (k + 1)
    rcases trimK_or l k with h | h
    · left
      rw [chop_trm h]
      exact h
    · by_cases z : (trimK k l).getLast? = some 0
      · right
        unfold chop
        rw [if_pos z, List.length_dropLast, h]
        omega
      · left
        rw [chop_trm z]
        exact z
theorem trim_ok (l : List Nat) : Trm (trim l) := by
  rcases trimK_or l l.length with h | h
  · exact h
  · have e : trimK l.length l = [] := List.length_eq_zero_iff.mp (by omega)
    unfold trim
    rw [e]
    unfold Trm
    simp
theorem trm_cons {w b : Nat} {l : List Nat} (h : Trm (b :: l)) : Trm (w :: b :: l) := by
  unfold Trm at *
  rw [List.getLast?_cons_cons]
  exact h
theorem trm_tail {b : Nat} {l : List Nat} (h : Trm (b :: l)) : Trm l := by
  cases l with
  | nil =>
    unfold Trm
    simp
  | cons c l =>
    unfold Trm at *
    rw [List.getLast?_cons_cons] at h
    exact h
theorem trm_tail' {l : List Nat} (h : Trm l) : Trm l.tail := by
  cases l with
  | nil => exact h
  | cons b l => exact trm_tail h
theorem trim_one0 : trim [0] = [] := rfl
theorem trim_one {w : Nat} (h : w ≠ 0) : trim [w] = [w] := trim_trm (by unfold Trm; simpa using h)
theorem trim_more {w b : Nat} {l : List Nat} (h : Trm (b :: l)) : trim (w :: b :: l) = w :: b :: l := trim_trm (trm_cons h)
/-- a step -/
def cstep (r : Row) (c : Cf) : Cf :=
  if r.2.1 = true then ⟨r.2.2, trim (r.1 :: c.L), c.R.headD 0, c.R.tail⟩ else ⟨r.2.2, c.L.tail, c.L.headD 0, trim (r.1 :: c.R)⟩
theorem headD_lt {l : List Nat} {m : Nat} (hm : 0 < m) (h : ∀ b ∈ l, b < m) : l.headD 0 < m := by
  cases l with
  | nil => exact hm
  | cons b l => exact h b (List.mem_cons_self ..)
theorem cstep_ok {r : Row} {c : Cf} {m s : Nat} (h : c.Ok m s) (h1 : r.1 < m) (h2 : r.2.2 < s) : (cstep r c).Ok m s := by
  have hm : 0 < m := by omega
  unfold cstep
  split
  · exact ⟨h2, headD_lt hm h.R, fun b hb => by
      rcases List.mem_cons.mp (trim_mem hb) with e | e
      · omega
      · exact h.L b e, fun b hb => h.R b (List.mem_of_mem_tail hb), trim_ok _, trm_tail' h.tR⟩
  · exact ⟨h2, headD_lt hm h.L, fun b hb => h.L b (List.mem_of_mem_tail hb), fun b hb => by
      rcases List.mem_cons.mp (trim_mem hb) with e | e
      · omega
      · exact h.R b e, trm_tail' h.tL, trim_ok _⟩
/-- the row of a state and a mark -/
def rowAt (m : Nat) (rows : List (Option Row)) (q a : Nat) : Option Row := (rows[q * m + a]?).getD none
/-! ### strings -/
abbrev dg (n : Nat) : Nat := 48 + n
def sgn (q : Nat) : List Nat := 40 :: (numL q ++ [41])
def front (c : Cf) : List Nat := 91 :: c.L.reverse.map dg
def back (c : Cf) : List Nat := c.R.map dg ++ [93]
def behind (c : Cf) : List Nat := numL c.q ++ 41 :: dg c.a :: back c
def down (c : Cf) : List Nat := front c ++ 40 :: behind c
def old (l q a r : Nat) : List Nat := l :: 40 :: (numL q ++ [41, dg a, r])
def newR (l w t r : Nat) : List Nat := (if l = 91 ∧ w = 0 then [91] else [l, dg w]) ++ (sgn t ++ (if r = 93 then [48, 93] else [r]))
def newL (l w t r : Nat) : List Nat := (if l = 91 then 91 :: (sgn t ++ [48]) else sgn t ++ [l]) ++ ((if r = 93 ∧ w = 0 then [] else [dg w]) ++ [r])
def new (r : Row) (x y : Nat) : List Nat := if r.2.1 = true then newR x r.1 r.2.2 y else newL x r.1 r.2.2 y
def lefts (m : Nat) : List Nat := 91 :: (List.range m).map dg
def rights (m : Nat) : List Nat := (List.range m).map dg ++ [93]
abbrev Rl := List Nat × List Nat
def rulesR (m q a : Nat) (r : Row) : List Rl := (lefts m).flatMap fun x => (rights m).map fun y => (old x q a y, new r x y)
def rulesA (m : Nat) (rows : List (Option Row)) (q a : Nat) : List Rl := match rowAt m rows q a with
  | some r => rulesR m q a r
  | none => []
def rulesQ (m : Nat) (rows : List (Option Row)) (q : Nat) : List Rl := (List.range m).flatMap (rulesA m rows q)
def rulesOf (m s : Nat) (rows : List (Option Row)) : List Rl := (List.range s).flatMap (rulesQ m rows)
theorem mem_rulesR {m q a : Nat} {r : Row} {z : Rl} (h : z ∈ rulesR m q a r) : ∃ x ∈ lefts m, ∃ y ∈ rights m, z = (old x q a y, new r x y) := by
  obtain ⟨x, hx, h⟩ := List.mem_flatMap.mp h
  obtain ⟨y, hy, rfl⟩ := List.mem_map.mp h
  exact ⟨x, hx, y, hy, rfl⟩
theorem mem_rulesA {m q a : Nat} {rows : List (Option Row)} {z : Rl} (h : z ∈ rulesA m rows q a) : ∃ r, rowAt m rows q a = some r ∧ ∃ x ∈ lefts m, ∃ y ∈ rights m, z = (old x q a y, new r x y) := by
  unfold rulesA at h
  cases e : rowAt m rows q a with
  | none =>
    rw [e] at h
    cases h
  | some r =>
    rw [e] at h
    exact ⟨r, rfl, mem_rulesR h⟩
theorem mem_rulesQ {m q : Nat} {rows : List (Option Row)} {z : Rl} (h : z ∈ rulesQ m rows q) : ∃ a r, a < m ∧ rowAt m rows q a = some r ∧ ∃ x ∈ lefts m, ∃ y ∈ rights m, z = (old x q a y, new r x y) := by
  obtain ⟨a, ha, h⟩ := List.mem_flatMap.mp h
  obtain ⟨r, h1, h2⟩ := mem_rulesA h
  exact ⟨a, r, List.mem_range.mp ha, h1, h2⟩
theorem mem_rulesOf {m s : Nat} {rows : List (Option Row)} {z : Rl} (h : z ∈ rulesOf m s rows) : ∃ q a r, q < s ∧ a < m ∧ rowAt m rows q a = some r ∧ ∃ x ∈ lefts m, ∃ y ∈ rights m, z = (old x q a y, new r x y) := by
  obtain ⟨q, hq, h⟩ := List.mem_flatMap.mp h
  obtain ⟨a, r, ha, h1, h2⟩ := mem_rulesQ h
  exact ⟨q, a, r, List.mem_range.mp hq, ha, h1, h2⟩
theorem rulesOf_mem {m s q a : Nat} {rows : List (Option Row)} {r : Row} {x y : Nat} (hq : q < s) (ha : a < m) (h : rowAt m rows q a = some r) (hx : x ∈ lefts m) (hy : y ∈ rights m) : (old x q a y, new r x y) ∈ rulesOf m s rows := by
  refine List.mem_flatMap.mpr ⟨q, List.mem_range.mpr hq, List.mem_flatMap.mpr ⟨a, List.mem_range.mpr ha, ?_⟩⟩
  unfold rulesA
  rw [h]
  exact List.mem_flatMap.mpr ⟨x, hx, List.mem_map.mpr ⟨y, hy, rfl⟩⟩
theorem old_ne (x q a y : Nat) : old x q a y ≠ [] := by
  unfold old
  simp
/-! ### one place -/
theorem split_one {s : Nat} : ∀ {u v u' v' : List Nat}, s ∉ u → s ∉ u' → u ++ s :: v = u' ++ s :: v' → u = u' ∧ v = v'
  | [], v, [], v', _, _, h => ⟨rfl, by simpa using h⟩
  | [], v, b :: u', v', _, h', h => by
    injection h with h1 h2
    exact absurd (by rw [h1]; exact List.mem_cons_self ..) h'
  | b :: u, v, [], v', h', _, h => by
    injection h with h1 h2
    exact absurd (by rw [h1]; exact List.mem_cons_self ..) h'
  | b :: u, v, b' :: u', v', h1, h2, h => by
    injection h with e1 e2
    have ih := split_one (fun z => h1 (List.mem_cons_of_mem _ z)) (fun z => h2 (List.mem_cons_of_mem _ z)) e2
    exact ⟨by rw [e1, ih.1], ih.2⟩
theorem split_free {s : Nat} {u v u' v' : List Nat} (hu : s ∉ u) (hv : s ∉ v) (h : u ++ s :: v = u' ++ s :: v') : u = u' ∧ v = v' := by
  refine split_one hu (fun hm => ?_) h
  have c : (u ++ s :: v).count s = (u' ++ s :: v').count s := by rw [h]
  have d : 0 < u'.count s := List.count_pos_iff.mpr hm
  rw [List.count_append, List.count_append, List.count_cons_self, List.count_cons_self, List.count_eq_zero.mpr hu, List.count_eq_zero.mpr hv] at c
  omega
theorem dgs_free {s : Nat} (h : s < 48) (l : List Nat) : s ∉ l.map dg := fun hm => by
  obtain ⟨b, _, e⟩ := List.mem_map.mp hm
  have : 48 + b = s := e
  omega
theorem front_free (c : Cf) : 40 ∉ front c := fun hm => by
  rcases List.mem_cons.mp hm with e | e
  · cases e
  · exact dgs_free (by decide) _ e
theorem back_free (c : Cf) {s : Nat} (h : s < 48) : s ∉ back c := fun hm => by
  rcases List.mem_append.mp hm with e | e
  · exact dgs_free h _ e
  · have := List.mem_singleton.mp e
    omega
theorem behind_free (c : Cf) : 40 ∉ behind c := fun hm => by
  rcases List.mem_append.mp hm with e | e
  · exact numL_free (.inl (by decide)) e
  · rcases List.mem_cons.mp e with e | e
    · cases e
    · rcases List.mem_cons.mp e with e | e
      · have : (40 : Nat) = 48 + c.a := e
        omega
      · exact back_free c (by decide) e
def lc (c : Cf) : Nat := match c.L with
  | [] => 91
  | b :: _ => dg b
def rc (c : Cf) : Nat := match c.R with
  | [] => 93
  | b :: _ => dg b
/-- the front without its last sign -/
def frontI (c : Cf) : List Nat := match c.L with
  | [] => []
  | _ :: l => 91 :: l.reverse.map dg
def backI (c : Cf) : List Nat := match c.R with
  | [] => []
  | _ :: l => l.map dg ++ [93]
theorem front_eq (c : Cf) : front c = frontI c ++ [lc c] := by
  obtain ⟨q, L, a, R⟩ := c
  cases L with
  | nil => rfl
  | cons b l =>
    show 91 :: (b :: l).reverse.map dg = (91 :: l.reverse.map dg) ++ [dg b]
    rw [List.reverse_cons, List.map_append]
    rfl
theorem back_eq (c : Cf) : back c = rc c :: backI c := by
  obtain ⟨q, L, a, R⟩ := c
  cases R with
  | nil => rfl
  | cons b l => rfl
theorem frontI_len (c : Cf) : (frontI c).length = c.L.length := by
  obtain ⟨q, L, a, R⟩ := c
  cases L with
  | nil => rfl
  | cons b l => simp [frontI]
/-- the string around its one rule -/
theorem down_at (c : Cf) : down c = frontI c ++ (old (lc c) c.q c.a (rc c) ++ backI c) := by
  unfold down behind old
  rw [front_eq, back_eq]
  simp
/-- y stands at k in x -/
def Oc (x y : List Nat) (k : Nat) : Prop := ∃ u v, x = u ++ (y ++ v) ∧ u.length = k
theorem oc_down {c : Cf} {l q a r k : Nat} : Oc (down c) (old l q a r) k ↔ (l = lc c ∧ q = c.q ∧ a = c.a ∧ r = rc c ∧ k = c.L.length) := by
  constructor
  · rintro ⟨u, v, h, hk⟩
    have e : front c ++ 40 :: behind c = (u ++ [l]) ++ 40 :: (numL q ++ 41 :: dg a :: r :: v) := by
      have h' : front c ++ 40 :: behind c = u ++ (old l q a r ++ v) := h
      rw [h']
      unfold old
      simp
    obtain ⟨e1, e2⟩ := split_free (front_free c) (behind_free c) e
    have e3 : numL c.q ++ 41 :: (dg c.a :: back c) = numL q ++ 41 :: (dg a :: r :: v) := e2
    obtain ⟨e4, e5⟩ := split_one (numL_free (.inl (by decide))) (numL_free (.inl (by decide))) e3
    rw [back_eq] at e5
    injection e5 with e6 e7
    injection e7 with e8 e9
    rw [front_eq] at e1
    obtain ⟨e10, e11⟩ := List.append_inj' e1 rfl
    injection e11 with e12 _
    refine ⟨e12.symm, (numL_inj e4).symm, ?_, e8.symm, ?_⟩
    · have : 48 + c.a = 48 + a := e6
      omega
    · rw [← hk, ← e10, frontI_len]
  · rintro ⟨rfl, rfl, rfl, rfl, rfl⟩
    exact ⟨frontI c, backI c, down_at c, frontI_len c⟩
theorem old_inj {l q a r l' q' a' r' : Nat} (h : old l q a r = old l' q' a' r') : l = l' ∧ q = q' ∧ a = a' ∧ r = r' := by
  unfold old at h
  injection h with h1 h2
  injection h2 with _ h3
  have e : numL q ++ 41 :: [dg a, r] = numL q' ++ 41 :: [dg a', r'] := h3
  obtain ⟨e4, e5⟩ := split_one (numL_free (.inl (by decide))) (numL_free (.inl (by decide))) e
  injection e5 with e6 e7
  injection e7 with e8 _
  refine ⟨h1, numL_inj e4, ?_, e8⟩
  have : 48 + a = 48 + a' := e6
  omega
theorem lc_mem {c : Cf} {m s : Nat} (h : c.Ok m s) : lc c ∈ lefts m := by
  obtain ⟨q, L, a, R⟩ := c
  cases L with
  | nil => exact List.mem_cons_self ..
  | cons b l => exact List.mem_cons_of_mem _ (List.mem_map.mpr ⟨b, List.mem_range.mpr (h.L b (List.mem_cons_self ..)), rfl⟩)
theorem rc_mem {c : Cf} {m s : Nat} (h : c.Ok m s) : rc c ∈ rights m := by
  obtain ⟨q, L, a, R⟩ := c
  cases R with
  | nil => exact List.mem_append_right _ (List.mem_singleton.mpr rfl)
  | cons b l => exact List.mem_append_left _ (List.mem_map.mpr ⟨b, List.mem_range.mpr (h.R b (List.mem_cons_self ..)), rfl⟩)
/-! ### no rule twice -/
theorem range_ne (n : Nat) : (List.range n).Pairwise (· ≠ ·) := List.nodup_range
theorem dgs_ne (m : Nat) : ((List.range m).map dg).Pairwise (· ≠ ·) := List.pairwise_map.mpr ((range_ne m).imp fun h e => h (by
  have e' : 48 + _ = 48 + _ := e
  omega))
theorem dgs_lt {m y : Nat} (hm : m ≤ 10) (h : y ∈ (List.range m).map dg) : y < 58 := by
  obtain ⟨b, hb, rfl⟩ := List.mem_map.mp h
  have := List.mem_range.mp hb
  show 48 + b < 58
  omega
theorem lefts_ne {m : Nat} (hm : m ≤ 10) : (lefts m).Pairwise (· ≠ ·) := by
  refine List.pairwise_cons.mpr ⟨fun y hy e => ?_, dgs_ne m⟩
  have := dgs_lt hm hy
  omega
theorem rights_ne {m : Nat} (hm : m ≤ 10) : (rights m).Pairwise (· ≠ ·) := by
  refine List.pairwise_append.mpr ⟨dgs_ne m, List.pairwise_singleton _ _, fun x hx y hy e => ?_⟩
  have h1 := dgs_lt hm hx
  have h2 := List.mem_singleton.mp hy
  omega
abbrev Ne1 (x y : Rl) : Prop := x.1 ≠ y.1
theorem rulesR_ne {m q a : Nat} {r : Row} (hm : m ≤ 10) : (rulesR m q a r).Pairwise Ne1 := by
  refine List.pairwise_flatMap.mpr ⟨fun x _ => List.pairwise_map.mpr ((rights_ne hm).imp fun h e => h (old_inj e).2.2.2), (lefts_ne hm).imp fun h z hz w hw e => ?_⟩
  obtain ⟨y, _, rfl⟩ := List.mem_map.mp hz
  obtain ⟨y', _, rfl⟩ := List.mem_map.mp hw
  exact h (old_inj e).1
theorem rulesA_ne {m q a : Nat} {rows : List (Option Row)} (hm : m ≤ 10) : (rulesA m rows q a).Pairwise Ne1 := by
  unfold rulesA
  split
  · exact rulesR_ne hm
  · exact List.Pairwise.nil
theorem rulesQ_ne {m q : Nat} {rows : List (Option Row)} (hm : m ≤ 10) : (rulesQ m rows q).Pairwise Ne1 := by
  refine List.pairwise_flatMap.mpr ⟨fun a _ => rulesA_ne hm, (range_ne m).imp fun h z hz w hw e => ?_⟩
  obtain ⟨r, _, x, _, y, _, rfl⟩ := mem_rulesA hz
  obtain ⟨r', _, x', _, y', _, rfl⟩ := mem_rulesA hw
  exact h (old_inj e).2.2.1
theorem rulesOf_ne {m s : Nat} {rows : List (Option Row)} (hm : m ≤ 10) : (rulesOf m s rows).Pairwise Ne1 := by
  refine List.pairwise_flatMap.mpr ⟨fun q _ => rulesQ_ne hm, (range_ne s).imp fun h z hz w hw e => ?_⟩
  obtain ⟨a, r, _, _, x, _, y, _, rfl⟩ := mem_rulesQ hz
  obtain ⟨a', r', _, _, x', _, y', _, rfl⟩ := mem_rulesQ hw
  exact h (old_inj e).2.1
theorem pairwise_at {R : Rl → Rl → Prop} {l : List Rl} (h : l.Pairwise R) {i j : Nat} {x y : Rl} (hx : l[i]? = some x) (hy : l[j]? = some y) (hij : i < j) : R x y := by
  obtain ⟨h1, rfl⟩ := List.getElem?_eq_some_iff.mp hx
  obtain ⟨h2, rfl⟩ := List.getElem?_eq_some_iff.mp hy
  exact List.pairwise_iff_getElem.mp h i j h1 h2 hij
theorem ne1_ix {l : List Rl} (h : l.Pairwise Ne1) {i j : Nat} {x y : Rl} (hx : l[i]? = some x) (hy : l[j]? = some y) (e : x.1 = y.1) : i = j := by
  rcases Nat.lt_trichotomy i j with hlt | rfl | hlt
  · exact absurd e (pairwise_at h hx hy hlt)
  · rfl
  · exact absurd e.symm (pairwise_at h hy hx hlt)
/-- where the rules rs stand in x: nowhere (none), or the i-th at k alone -/
def Only (x : List Nat) (rs : List Rl) (o : Option (Nat × Nat)) : Prop := ∀ (i : Nat) (z : Rl) (k : Nat), rs[i]? = some z → (Oc x z.1 k ↔ o = some (i, k))
/-- no rule where the machine has stopped -/
theorem only_none {m s : Nat} {rows : List (Option Row)} {c : Cf} (h : rowAt m rows c.q c.a = none) : Only (down c) (rulesOf m s rows) none := by
  intro i z k hz
  refine ⟨fun ho => ?_, fun e => nomatch e⟩
  obtain ⟨q, a, r, _, _, hr, x, _, y, _, rfl⟩ := mem_rulesOf (List.mem_of_getElem? hz)
  obtain ⟨_, rfl, rfl, _⟩ := oc_down.mp ho
  rw [h] at hr
  cases hr
/-- one rule at one place where it has not -/
theorem only_some {m s : Nat} {rows : List (Option Row)} {c : Cf} {r : Row} (hm : m ≤ 10) (hc : c.Ok m s) (h : rowAt m rows c.q c.a = some r) :
    ∃ i, (rulesOf m s rows)[i]? = some (old (lc c) c.q c.a (rc c), new r (lc c) (rc c)) ∧ Only (down c) (rulesOf m s rows) (some (i, c.L.length)) := by
  obtain ⟨i, hi⟩ := List.getElem?_of_mem (rulesOf_mem hc.q hc.a h (lc_mem hc) (rc_mem hc))
  refine ⟨i, hi, fun j z k hz => ?_⟩
  obtain ⟨q, a, r', _, _, _, x, _, y, _, rfl⟩ := mem_rulesOf (List.mem_of_getElem? hz)
  constructor
  · intro ho
    obtain ⟨rfl, rfl, rfl, rfl, rfl⟩ := oc_down.mp ho
    rw [ne1_ix (rulesOf_ne hm) hi hz rfl]
  · intro e
    injection e with e
    injection e with e1 e2
    subst e1
    subst e2
    rw [hi] at hz
    injection hz with hz
    injection hz with h1 h2
    rw [← h1]
    exact oc_down.mpr ⟨rfl, rfl, rfl, rfl, rfl⟩
/-- what a rule makes of the string -/
theorem replaced {c : Cf} {r : Row} {m s : Nat} (hc : c.Ok m s) (hm : m ≤ 10) : frontI c ++ (new r (lc c) (rc c) ++ backI c) = down (cstep r c) := by
  obtain ⟨q, L, a, R⟩ := c
  obtain ⟨w, mv, t⟩ := r
  have hL : Trm L := hc.tL
  have hR : Trm R := hc.tR
  have bL : ∀ b ∈ L, b < m := hc.L
  have bR : ∀ b ∈ R, b < m := hc.R
  cases mv with
  | true =>
    show frontI ⟨q, L, a, R⟩ ++ (newR (lc ⟨q, L, a, R⟩) w t (rc ⟨q, L, a, R⟩) ++ backI ⟨q, L, a, R⟩) = down ⟨t, trim (w :: L), R.headD 0, R.tail⟩
    have hback : (if rc ⟨q, L, a, R⟩ = 93 then [48, 93] else [rc ⟨q, L, a, R⟩]) ++ backI ⟨q, L, a, R⟩ = dg (R.headD 0) :: (R.tail.map dg ++ [93]) := by
      cases R with
      | nil => rfl
      | cons b R =>
        have hb : b < m := bR b (List.mem_cons_self ..)
        have : ¬ (dg b = 93) := by
          show ¬ (48 + b = 93)
          omega
        show (if dg b = 93 then [48, 93] else [dg b]) ++ _ = _
        rw [if_neg this]
        rfl
    have hfront : frontI ⟨q, L, a, R⟩ ++ (if lc ⟨q, L, a, R⟩ = 91 ∧ w = 0 then [91] else [lc ⟨q, L, a, R⟩, dg w]) = 91 :: (trim (w :: L)).reverse.map dg := by
      cases L with
      | nil =>
        show (if (91 : Nat) = 91 ∧ w = 0 then [91] else [91, dg w]) = _
        by_cases hw : w = 0
        · rw [if_pos ⟨rfl, hw⟩, hw, trim_one0]
          rfl
        · rw [if_neg (fun z => hw z.2), trim_one hw]
          rfl
      | cons b L =>
        have hb : b < m := bL b (List.mem_cons_self ..)
        have : ¬ (dg b = 91 ∧ w = 0) := fun z => by
          have z1 : 48 + b = 91 := z.1
          omega
        show (91 :: L.reverse.map dg) ++ (if dg b = 91 ∧ w = 0 then [91] else [dg b, dg w]) = _
        rw [if_neg this, trim_more hL]
        simp
    unfold newR down front behind sgn back
    have e : frontI ⟨q, L, a, R⟩ ++ ((if lc ⟨q, L, a, R⟩ = 91 ∧ w = 0 then [91] else [lc ⟨q, L, a, R⟩, dg w]) ++ (40 :: (numL t ++ [41]) ++ (if rc ⟨q, L, a, R⟩ = 93 then [48, 93] else [rc ⟨q, L, a, R⟩])) ++ backI ⟨q, L, a, R⟩)
        = (frontI ⟨q, L, a, R⟩ ++ (if lc ⟨q, L, a, R⟩ = 91 ∧ w = 0 then [91] else [lc ⟨q, L, a, R⟩, dg w])) ++ (40 :: (numL t ++ [41]) ++ ((if rc ⟨q, L, a, R⟩ = 93 then [48, 93] else [rc ⟨q, L, a, R⟩]) ++ backI ⟨q, L, a, R⟩)) := by
      simp only [List.append_assoc, List.cons_append]
    rw [e, hfront, hback]
    simp
  | false =>
    show frontI ⟨q, L, a, R⟩ ++ (newL (lc ⟨q, L, a, R⟩) w t (rc ⟨q, L, a, R⟩) ++ backI ⟨q, L, a, R⟩) = down ⟨t, L.tail, L.headD 0, trim (w :: R)⟩
    have hback : ((if rc ⟨q, L, a, R⟩ = 93 ∧ w = 0 then [] else [dg w]) ++ [rc ⟨q, L, a, R⟩]) ++ backI ⟨q, L, a, R⟩ = (trim (w :: R)).map dg ++ [93] := by
      cases R with
      | nil =>
        show ((if (93 : Nat) = 93 ∧ w = 0 then [] else [dg w]) ++ [93]) ++ [] = _
        by_cases hw : w = 0
        · rw [if_pos ⟨rfl, hw⟩, hw, trim_one0]
          rfl
        · rw [if_neg (fun z => hw z.2), trim_one hw]
          rfl
      | cons b R =>
        have hb : b < m := bR b (List.mem_cons_self ..)
        have : ¬ (dg b = 93 ∧ w = 0) := fun z => by
          have z1 : 48 + b = 93 := z.1
          omega
        show ((if dg b = 93 ∧ w = 0 then [] else [dg w]) ++ [dg b]) ++ (R.map dg ++ [93]) = _
        rw [if_neg this, trim_more hR]
        simp
    have hfront : frontI ⟨q, L, a, R⟩ ++ (if lc ⟨q, L, a, R⟩ = 91 then 91 :: (sgn t ++ [48]) else sgn t ++ [lc ⟨q, L, a, R⟩]) = (91 :: L.tail.reverse.map dg) ++ (sgn t ++ [dg (L.headD 0)]) := by
      cases L with
      | nil => rfl
      | cons b L =>
        have hb : b < m := bL b (List.mem_cons_self ..)
        have : ¬ (dg b = 91) := by
          show ¬ (48 + b = 91)
          omega
        show (91 :: L.reverse.map dg) ++ (if dg b = 91 then 91 :: (sgn t ++ [48]) else sgn t ++ [dg b]) = _
        rw [if_neg this]
        rfl
    unfold newL down front behind back
    have e : frontI ⟨q, L, a, R⟩ ++ ((if lc ⟨q, L, a, R⟩ = 91 then 91 :: (sgn t ++ [48]) else sgn t ++ [lc ⟨q, L, a, R⟩]) ++ ((if rc ⟨q, L, a, R⟩ = 93 ∧ w = 0 then [] else [dg w]) ++ [rc ⟨q, L, a, R⟩]) ++ backI ⟨q, L, a, R⟩)
        = (frontI ⟨q, L, a, R⟩ ++ (if lc ⟨q, L, a, R⟩ = 91 then 91 :: (sgn t ++ [48]) else sgn t ++ [lc ⟨q, L, a, R⟩])) ++ (((if rc ⟨q, L, a, R⟩ = 93 ∧ w = 0 then [] else [dg w]) ++ [rc ⟨q, L, a, R⟩]) ++ backI ⟨q, L, a, R⟩) := by
      simp only [List.append_assoc]
    rw [e, hfront, hback]
    unfold sgn
    simp
/-! ### how many rules -/
theorem flat_le {α β : Type} {f : α → List β} {n : Nat} : ∀ {l : List α}, (∀ a ∈ l, (f a).length ≤ n) → (l.flatMap f).length ≤ l.length * n
  | [], _ => by simp
  | a :: l, h => by
    have ih := flat_le (l := l) (f := f) (n := n) fun b hb => h b (List.mem_cons_of_mem _ hb)
    have h1 := h a (List.mem_cons_self ..)
    rw [List.flatMap_cons, List.length_append, List.length_cons, Nat.add_mul]
    omega
theorem lefts_len (m : Nat) : (lefts m).length = m + 1 := by simp [lefts]
theorem rights_len (m : Nat) : (rights m).length = m + 1 := by simp [rights]
theorem rulesR_len (m q a : Nat) (r : Row) : (rulesR m q a r).length ≤ (m + 1) * (m + 1) := by
  have h := flat_le (f := fun x => (rights m).map fun y => (old x q a y, new r x y)) (n := m + 1) (l := lefts m) fun x _ => by
    rw [List.length_map, rights_len]
    exact Nat.le_refl _
  rw [lefts_len] at h
  exact h
theorem rulesA_len (m : Nat) (rows : List (Option Row)) (q a : Nat) : (rulesA m rows q a).length ≤ (m + 1) * (m + 1) := by
  unfold rulesA
  split
  · exact rulesR_len _ _ _ _
  · exact Nat.zero_le _
theorem rulesQ_len (m : Nat) (rows : List (Option Row)) (q : Nat) : (rulesQ m rows q).length ≤ m * ((m + 1) * (m + 1)) := by
  have h := flat_le (f := rulesA m rows q) (n := (m + 1) * (m + 1)) (l := List.range m) fun a _ => rulesA_len m rows q a
  rw [List.length_range] at h
  exact h
theorem rulesOf_len (m s : Nat) (rows : List (Option Row)) : (rulesOf m s rows).length ≤ s * (m * ((m + 1) * (m + 1))) := by
  have h := flat_le (f := rulesQ m rows) (n := m * ((m + 1) * (m + 1))) (l := List.range s) fun a _ => rulesQ_len m rows a
  rw [List.length_range] at h
  exact h
end K68
end
section
/-! The ground of the walk: where the defs stand, how the data lie in the heap. -/
namespace K68
open PySem L2 TL
/-! ### the text by places -/
def top (i : Nat) : Stmt := PySem.Challenge.pw_stepdown_k68_whole_one_step_as_rules.main.body.getD i (.Pass ⟨0, 0, 0, 0⟩)
abbrev sIsRule : Stmt := top 7
abbrev sRuInit : Stmt := inClass (top 8) 0
abbrev sRuPlaces : Stmt := inClass (top 8) 2
abbrev sRuApplied : Stmt := inClass (top 8) 3
abbrev sRuReplaced : Stmt := inClass (top 8) 4
abbrev sRuFirst : Stmt := inClass (top 8) 6
abbrev sRuStopped : Stmt := inClass (top 8) 7
abbrev sRuStep : Stmt := inClass (top 8) 8
abbrev sSign : Stmt := top 11
abbrev sRight : Stmt := top 12
abbrev sLeft : Stmt := top 13
abbrev sRulesOf : Stmt := top 14
abbrev sMarks : Stmt := top 15
abbrev sStInit : Stmt := inClass (top 16) 0
abbrev sStDown : Stmt := inClass (top 16) 1
abbrev sStUp : Stmt := inClass (top 16) 2
abbrev sStPace : Stmt := inClass (top 16) 3
abbrev sStEnding : Stmt := inClass (top 16) 4
abbrev sIsInteger : Stmt := top 20
abbrev sTrimmed : Stmt := top 21
abbrev sTaInit : Stmt := inClass (top 22) 0
abbrev sTaIsRow : Stmt := inClass (top 22) 1
abbrev sTaTable : Stmt := inClass (top 22) 2
abbrev sTaRow : Stmt := inClass (top 22) 3
abbrev sTaIsSide : Stmt := inClass (top 22) 4
abbrev sTaIsConf : Stmt := inClass (top 22) 5
abbrev sTaStopped : Stmt := inClass (top 22) 7
abbrev sLDraws : Stmt := top 24
abbrev sLMachine : Stmt := top 25
abbrev sLTrimmed : Stmt := top 26
abbrev sLConf : Stmt := top 27
abbrev sLStep : Stmt := top 28
abbrev sLaw : Stmt := top 29
/-! ### texts -/
abbrev S (l : List Nat) : Str := ⟨l.toArray⟩
theorem S_len (l : List Nat) : (S l).length = l.length := by simp [Str.length]
theorem S_app (a b : List Nat) : S a ++ S b = S (a ++ b) := ext_tl (by rw [tl_append])
theorem S_num (n : Nat) : Str.ofString (toString ((n : Nat) : Int)) = S (numL n) := ext_tl (tl_num n)
theorem S_lit (s : String) : Str.ofString s = S (s.toList.map Char.toNat) := ext_tl (tl_ofString s)
theorem e_nil : Str.empty = S [] := rfl
theorem e_nil' : Str.ofString "" = S [] := ext_tl (by decide +kernel)
theorem e_open : Str.ofString "(" = S [40] := ext_tl (by decide +kernel)
theorem e_close : Str.ofString ")" = S [41] := ext_tl (by decide +kernel)
theorem e_left : Str.ofString "[" = S [91] := ext_tl (by decide +kernel)
theorem e_right : Str.ofString "]" = S [93] := ext_tl (by decide +kernel)
theorem e_zero : Str.ofString "0" = S [48] := ext_tl (by decide +kernel)
theorem e_zeroR : Str.ofString "0]" = S [48, 93] := ext_tl (by decide +kernel)
theorem e_digits : Str.ofString "0123456789" = S [48, 49, 50, 51, 52, 53, 54, 55, 56, 57] := ext_tl (by decide +kernel)
theorem S_inj {a b : List Nat} (h : S a = S b) : a = b := congrArg tl h
theorem iteP {c A B : Prop} [Decidable c] (h : c) (a : A) : if c then A else B := by
  rw [if_pos h]
  exact a
theorem iteN {c A B : Prop} [Decidable c] (h : ¬ c) (b : B) : if c then A else B := by
  rw [if_neg h]
  exact b
theorem S_eq {a b : List Nat} : (S a = S b) = (a = b) := propext ⟨S_inj, fun e => by rw [e]⟩
theorem rEq_str {a b : Str} {H : Hp} {Q : VK} : rEq (.str a) (.str b) H Q = Q (.bl (decide (a = b))) H := by
  have e : decide (V.str a = V.str b) = decide (a = b) := by simp only [V.str.injEq]
  unfold rEq
  rw [e]
  exact propext ⟨fun h => h.2, fun h => ⟨rfl, h⟩⟩
theorem rNe_str {a b : Str} {H : Hp} {Q : VK} : rNe (.str a) (.str b) H Q = Q (.bl (!decide (a = b))) H := by
  have e : decide (V.str a = V.str b) = decide (a = b) := by simp only [V.str.injEq]
  unfold rNe
  rw [e]
  exact propext ⟨fun h => h.2, fun h => ⟨rfl, h⟩⟩
theorem rEq_int {a b : Int} {H : Hp} {Q : VK} : rEq (.int a) (.int b) H Q = Q (.bl (decide (a = b))) H := by
  have e : decide (V.int a = V.int b) = decide (a = b) := by simp only [V.int.injEq]
  unfold rEq
  rw [e]
  exact propext ⟨fun h => h.2, fun h => ⟨rfl, h⟩⟩
theorem rNe_int {a b : Int} {H : Hp} {Q : VK} : rNe (.int a) (.int b) H Q = Q (.bl (!decide (a = b))) H := by
  have e : decide (V.int a = V.int b) = decide (a = b) := by simp only [V.int.injEq]
  unfold rNe
  rw [e]
  exact propext ⟨fun h => h.2, fun h => ⟨rfl, h⟩⟩
theorem cx_K {CX : CXT} {P : Program} {w : World} {K : PySem.W.Frag} {mg : Str → Option Value} {base : Heap} {N : List Str} {q : Str} {sc : Scope} {f : Addr} {cd : Value} {A : Around} {outer : List Env} {s : Shared} {H : Hp} {E : XK} : (cxOf CX P w K mg base N q sc f cd A outer s H E).K = K := rfl
theorem at0 {α : Type} {x : α} {l : List α} : atI (x :: l) 0 = some x := atI_nat (j := 0) rfl
theorem at1 {α : Type} {x y : α} {l : List α} : atI (x :: y :: l) 1 = some y := atI_nat (j := 1) rfl
theorem at2 {α : Type} {x y z : α} {l : List α} : atI (x :: y :: z :: l) 2 = some z := atI_nat (j := 2) rfl
theorem at3 {α : Type} {x y z t : α} {l : List α} : atI (x :: y :: z :: t :: l) 3 = some t := atI_nat (j := 3) rfl
abbrev nV (n : Nat) : V := .int (n : Int)
theorem line_ : sizeLine = 16777216 := sizeLine_eq
/-! ### heaps -/
/-- the tuples stand -/
def Tp (H H' : Hp) : Prop := ∀ t xs, H t = some (.tup xs) → H' t = some (.tup xs)
section
variable {H H' H'' : Hp} {p l : Addr} {o : HO}
theorem Tp.refl : Tp H H := fun _ _ h => h
theorem Tp.trans (a : Tp H H') (b : Tp H' H'') : Tp H H'' := fun t xs h => b t xs (a t xs h)
theorem Tp.new (h : H p = none) : Tp H (upd H p o) := fun t xs e => by rw [upd_ne (ne_of_none e h)]; exact e
theorem Tp.lst {xs : List V} (h : H l = some (.lst xs)) : Tp H (upd H l o) := fun t ys e => by
  rw [upd_ne (ne_of e h (by intro z; cases z))]
  exact e
theorem Tp.ins {C dx : Addr} {fs : List (Str × V)} (h : H l = some (.ins C dx fs)) : Tp H (upd H l o) := fun t ys e => by
  rw [upd_ne (ne_of e h (by intro z; cases z))]
  exact e
theorem Tp.of (h : Same H H') : Tp H H' := fun t xs e => h t _ e
theorem same_new (h : H p = none) : Same H (upd H p o) := fun b u e => by rw [upd_ne (ne_of_none e h)]; exact e
theorem same_put (s : Same H H') (h : H l = none) : Same H (upd H' l o) := fun b u e => by rw [upd_ne (ne_of_none e h)]; exact s b u e
theorem same_add (s : Same H H') (h : H' p = none) : Same H (upd H' p o) := s.trans (same_new h)
end
theorem unit65 {k : Nat} {A : Around} (hr : Room k A) : A.units + 65 < cLine := by
  have := hr.un
  omega
/-! ### lists of things -/
def All2 {B : Type} (P : V → B → Prop) (vs : List V) (bs : List B) : Prop := vs.length = bs.length ∧ ∀ (i : Nat) (v : V) (b : B), vs[i]? = some v → bs[i]? = some b → P v b
section
variable {B : Type} {P Q : V → B → Prop} {vs ws : List V} {bs cs : List B} {v : V} {b : B}
theorem All2.nil : All2 P [] [] := ⟨rfl, fun i v b h => by simp at h⟩
theorem All2.mono (h : All2 P vs bs) (k : ∀ v b, P v b → Q v b) : All2 Q vs bs := ⟨h.1, fun i v b h1 h2 => k v b (h.2 i v b h1 h2)⟩
theorem All2.snoc (h : All2 P vs bs) (hv : P v b) : All2 P (vs ++ [v]) (bs ++ [b]) := by
  refine ⟨by rw [List.length_append, List.length_append, h.1]; rfl, fun i x y h1 h2 => ?_⟩
  by_cases hi : i < vs.length
  · rw [List.getElem?_append_left hi] at h1
    rw [List.getElem?_append_left (by rw [← h.1]; exact hi)] at h2
    exact h.2 i x y h1 h2
  · rw [List.getElem?_append_right (by omega)] at h1
    rw [List.getElem?_append_right (by rw [← h.1]; omega), ← h.1] at h2
    rw [List.getElem?_singleton] at h1 h2
    split at h1
    · injection h1 with h1
      rw [if_pos (by assumption)] at h2
      injection h2 with h2
      rw [← h1, ← h2]
      exact hv
    · cases h1
theorem All2.at (h : All2 P vs bs) {i : Nat} (hb : bs[i]? = some b) : ∃ v, vs[i]? = some v ∧ P v b := by
  have hi : i < vs.length := by
    rw [h.1]
    exact (List.getElem?_eq_some_iff.mp hb).1
  exact ⟨vs[i], List.getElem?_eq_getElem hi, h.2 i _ _ (List.getElem?_eq_getElem hi) hb⟩
theorem All2.of (h : All2 P vs bs) {i : Nat} (hv : vs[i]? = some v) : ∃ b, bs[i]? = some b ∧ P v b := by
  have hi : i < bs.length := by
    rw [← h.1]
    exact (List.getElem?_eq_some_iff.mp hv).1
  exact ⟨bs[i], List.getElem?_eq_getElem hi, h.2 i _ _ hv (List.getElem?_eq_getElem hi)⟩
end
theorem map_at {l : List Nat} {i : Nat} {v : V} (h : (l.map nV)[i]? = some v) : ∃ n, l[i]? = some n ∧ v = nV n := by
  rw [List.getElem?_map] at h
  cases e : l[i]? with
  | none =>
    rw [e] at h
    cases h
  | some n =>
    rw [e] at h
    exact ⟨n, rfl, (Option.some.inj h).symm⟩
theorem at_map {l : List Nat} {i n : Nat} (h : l[i]? = some n) : (l.map nV)[i]? = some (nV n) := by
  rw [List.getElem?_map, h]
  rfl
/-! ### the data -/
abbrev mvI (b : Bool) : Int := if b = true then 1 else -1
def RowV (H : Hp) (v : V) (r : Option Row) : Prop := match r with
  | none => v = .non
  | some r => ∃ p, v = .ref p ∧ H p = some (.tup [nV r.1, .int (mvI r.2.1), nV r.2.2])
def RuleV (H : Hp) (v : V) (z : Rl) : Prop := ∃ p, v = .ref p ∧ H p = some (.tup [.str (S z.1), .str (S z.2)])
theorem RowV.mono {H H' : Hp} (t : Tp H H') (v : V) (r : Option Row) (h : RowV H v r) : RowV H' v r := by
  cases r with
  | none => exact h
  | some r =>
    obtain ⟨p, e, h⟩ := h
    exact ⟨p, e, t _ _ h⟩
theorem RuleV.mono {H H' : Hp} (t : Tp H H') (v : V) (z : Rl) (h : RuleV H v z) : RuleV H' v z := by
  obtain ⟨p, e, h⟩ := h
  exact ⟨p, e, t _ _ h⟩
def CfAt (H : Hp) (p : Addr) (c : Cf) : Prop := ∃ l r, H p = some (.tup [nV c.q, .ref l, nV c.a, .ref r]) ∧ H l = some (.tup (c.L.map nV)) ∧ H r = some (.tup (c.R.map nV))
theorem CfAt.mono {H H' : Hp} {p : Addr} {c : Cf} (t : Tp H H') (h : CfAt H p c) : CfAt H' p c := by
  obtain ⟨l, r, h1, h2, h3⟩ := h
  exact ⟨l, r, t _ _ h1, t _ _ h2, t _ _ h3⟩
/-! ### a comprehension that changes nothing else -/
theorem take_snoc {α : Type} {l : List α} {i : Nat} {x : α} (h : l[i]? = some x) : l.take (i + 1) = l.take i ++ [x] := by
  rw [List.take_succ, h]
  rfl
theorem lc_pure {J : It} {n : Nat} {G : Hp → Prop} {Y : Nat → Hp → V → Hp → Prop} (wk : Walk J n G Y) {g : TG} {te : TE} {us : List Nat} {σ : L2.St} {H1 : Hp} {D : Addr} {Qd : Hp → Prop} (fs : List V) (hn : fs.length = n) (hz : n ≤ 1000000) (hD : H1 D = none) (hG : ∀ H', Same H1 H' → G H')
    (hs : ∀ (i : Nat) (x y : V) (H H' : Hp) (R : V → Hp → Prop), fs[i]? = some y → Same H1 H → Y i H x H' → R y H → g x (wipe σ us) H' fun σ2 H2 => wipe σ2 us = wipe σ us ∧ te σ2 H2 R)
    (hd : ∀ H, Same H1 H → H D = some (.lst fs) → Qd H) :
    ∃ W : Nat → Nat → Hp → Prop, (∃ m, W 0 m (upd H1 D (.lst []))) ∧ ∀ i m H, W i m H → (J.stop i H ∧ Qd H) ∨ (J.go i H ∧ ∃ Nx : Hp → Prop, (∀ H', Nx H' → ∃ m', m' < m ∧ W (i + 1) m' H') ∧ ∀ x H', J.yld i H x H' → g x (wipe σ us) H' fun σ2 H2 => wipe σ2 us = wipe σ us ∧ tYes σ2 H2 fun b H3 => if b = true then te σ2 H3 fun y H4 => ∃ acc, H4 D = some (.lst acc) ∧ acc.length < sizeLine ∧ Nx (upd H4 D (.lst (acc ++ [y]))) else Nx H3) := by
  refine lc_it wk (fun i H => H D = some (.lst (fs.take i)) ∧ Same H1 H) ⟨upd_same, same_new hD⟩ (fun i H _ p => hG H p.2) ?_ ?_
  · rintro i x H H' hi ⟨h1, h2⟩ y
    have hf : i < fs.length := by omega
    refine hs i x fs[i] H H' (fun y H4 => ∃ acc, H4 D = some (.lst acc) ∧ acc.length < sizeLine ∧ upd H4 D (.lst (acc ++ [y])) D = some (.lst (fs.take (i + 1))) ∧ Same H1 (upd H4 D (.lst (acc ++ [y])))) (List.getElem?_eq_getElem hf) h2 y ⟨_, h1, ?_, ?_, ?_⟩
    · rw [List.length_take, line_]
      omega
    · rw [upd_same, take_snoc (List.getElem?_eq_getElem hf)]
    · exact same_put h2 hD
  · rintro H ⟨h1, h2⟩
    refine hd H h2 ?_
    rw [h1, ← hn, List.take_length]
/-! ### the data as a whole -/
def iD (l : List Nat) : PyData := .tuple (l.map fun n : Nat => PyData.int (n : Int))
def cD (c : Cf) : PyData := .tuple [.int (c.q : Int), iD c.L, .int (c.a : Int), iD c.R]
def pD (z : Nat × Nat) : PyData := .tuple [.int (z.1 : Int), .int (z.2 : Int)]
section
variable {K : PySem.W.Frag} {H : Hp}
theorem ints_dp : ∀ l : List Nat, DpAll K H (l.map nV) (l.map fun n : Nat => PyData.int (n : Int))
  | [] => .nil
  | n :: l => .cons (.int _) (ints_dp l)
theorem iD_dp {p : Addr} {l : List Nat} (h : H p = some (.tup (l.map nV))) : Dp K H (.ref p) (iD l) := .tup (SqT.of h) (ints_dp l)
theorem cD_dp {p : Addr} {c : Cf} (h : CfAt H p c) : Dp K H (.ref p) (cD c) := by
  obtain ⟨l, r, h1, h2, h3⟩ := h
  exact .tup (SqT.of h1) (.cons (.int _) (.cons (iD_dp h2) (.cons (.int _) (.cons (iD_dp h3) .nil))))
theorem pD_dp {p : Addr} {z : Nat × Nat} (h : H p = some (.tup [nV z.1, nV z.2])) : Dp K H (.ref p) (pD z) := .tup (SqT.of h) (.cons (.int _) (.cons (.int _) .nil))
theorem ints_lay : ∀ l : List Nat, PyData.canLayAll0 (l.map fun n : Nat => PyData.int (n : Int)) = true
  | [] => by simp [PyData.canLayAll0]
  | n :: l => by
    have ih := ints_lay l
    simp only [List.map_cons, PyData.canLayAll0, PyData.canLay0, ih, Bool.and_self]
theorem ints_depth : ∀ l : List Nat, PyData.depthAll (l.map fun n : Nat => PyData.int (n : Int)) = 0
  | [] => by simp [PyData.depthAll]
  | n :: l => by
    have ih := ints_depth l
    simp only [List.map_cons, PyData.depthAll, PyData.depth, ih]
    decide
theorem iD_lay (l : List Nat) : (iD l).canLay0 = true := by
  simp only [iD, PyData.canLay0]
  exact ints_lay l
theorem iD_depth (l : List Nat) : (iD l).depth = 1 := by
  simp only [iD, PyData.depth, ints_depth]
theorem shaped_of {d : PyData} (h1 : d.canLay0 = true) (h2 : d.depth ≤ 64) : SeqAt.shaped d = true := by
  show (d.canLay0 && decide (d.depth ≤ 64)) = true
  rw [Bool.and_eq_true]
  exact ⟨h1, decide_eq_true h2⟩
theorem iD_shaped (l : List Nat) : SeqAt.shaped (iD l) = true := shaped_of (iD_lay l) (by rw [iD_depth]; decide)
theorem cD_lay (c : Cf) : (cD c).canLay0 = true := by simp only [cD, PyData.canLay0, PyData.canLayAll0, iD_lay, Bool.and_self]
theorem cD_shaped (c : Cf) : SeqAt.shaped (cD c) = true := shaped_of (cD_lay c) (by simp only [cD, PyData.depth, PyData.depthAll, iD_depth]; decide)
theorem pD_lay (z : Nat × Nat) : (pD z).canLay0 = true := by simp only [pD, PyData.canLay0, PyData.canLayAll0, Bool.and_self]
theorem pD_shaped (z : Nat × Nat) : SeqAt.shaped (pD z) = true := shaped_of (pD_lay z) (by simp only [pD, PyData.depth, PyData.depthAll]; decide)
theorem pDs_shaped (z : Nat × Nat) : SeqAt.shaped (.list [pD z]) = true := shaped_of (by simp only [PyData.canLay0, PyData.canLayAll0, pD_lay, Bool.and_self]) (by simp only [pD, PyData.depth, PyData.depthAll]; decide)
theorem iD_refl (l : List Nat) : PyData.eqv (iD l) (iD l) = true := SeqAt.eqv_refl _ (iD_lay l)
theorem cD_refl (c : Cf) : PyData.eqv (cD c) (cD c) = true := SeqAt.eqv_refl _ (cD_lay c)
theorem pD_refl (z : Nat × Nat) : PyData.eqv (pD z) (pD z) = true := SeqAt.eqv_refl _ (pD_lay z)
end
/-! ### the instances' fields -/
def tfs (m s : Nat) (l : Addr) : List (Str × V) := putF "_rows" (.ref l) (putF "states" (nV s) (putF "marks" (nV m) []))
def rfs (l : Addr) : List (Str × V) := putF "_rules" (.ref l) []
def sfs (u w : Addr) : List (Str × V) := putF "lower" (.ref w) (putF "upper" (.ref u) [])
theorem n1 : ¬ (("marks" : Str) = "_rows") := by decide +kernel
theorem n2 : ¬ (("marks" : Str) = "states") := by decide +kernel
theorem n3 : ¬ (("states" : Str) = "_rows") := by decide +kernel
theorem n4 : ¬ (("upper" : Str) = "lower") := by decide +kernel
theorem tfs_marks {m s : Nat} {l : Addr} : (tfs m s l).lookup ("marks" : Str) = some (nV m) := by
  unfold tfs
  rw [lookup_putF, if_neg n1, lookup_putF, if_neg n2, lookup_putF, if_pos rfl]
theorem tfs_states {m s : Nat} {l : Addr} : (tfs m s l).lookup ("states" : Str) = some (nV s) := by
  unfold tfs
  rw [lookup_putF, if_neg n3, lookup_putF, if_pos rfl]
theorem tfs_rows {m s : Nat} {l : Addr} : (tfs m s l).lookup ("_rows" : Str) = some (.ref l) := by
  unfold tfs
  rw [lookup_putF, if_pos rfl]
theorem tfs_no {m s : Nat} {l : Addr} {x : Str} (h1 : ¬ x = "_rows") (h2 : ¬ x = "states") (h3 : ¬ x = "marks") : (tfs m s l).lookup x = none := by
  unfold tfs
  rw [lookup_putF, if_neg h1, lookup_putF, if_neg h2, lookup_putF, if_neg h3]
  rfl
theorem rfs_rules {l : Addr} : (rfs l).lookup ("_rules" : Str) = some (.ref l) := by
  unfold rfs
  rw [lookup_putF, if_pos rfl]
theorem rfs_no {l : Addr} {x : Str} (h1 : ¬ x = "_rules") : (rfs l).lookup x = none := by
  unfold rfs
  rw [lookup_putF, if_neg h1]
  rfl
theorem sfs_upper {u w : Addr} : (sfs u w).lookup ("upper" : Str) = some (.ref u) := by
  unfold sfs
  rw [lookup_putF, if_neg n4, lookup_putF, if_pos rfl]
theorem sfs_lower {u w : Addr} : (sfs u w).lookup ("lower" : Str) = some (.ref w) := by
  unfold sfs
  rw [lookup_putF, if_pos rfl]
theorem sfs_no {u w : Addr} {x : Str} (h1 : ¬ x = "lower") (h2 : ¬ x = "upper") : (sfs u w).lookup x = none := by
  unfold sfs
  rw [lookup_putF, if_neg h1, lookup_putF, if_neg h2]
  rfl
def TapeAt (C : Addr) (H : Hp) (p : Addr) (m s : Nat) (rows : List (Option Row)) : Prop := ∃ dx l vs, H p = some (.ins C dx (tfs m s l)) ∧ H l = some (.lst vs) ∧ All2 (RowV H) vs rows
def RulesAt (C : Addr) (H : Hp) (p : Addr) (rs : List Rl) : Prop := ∃ dx l vs, H p = some (.ins C dx (rfs l)) ∧ H l = some (.lst vs) ∧ All2 (RuleV H) vs rs
theorem TapeAt.mono {C : Addr} {H H' : Hp} {p : Addr} {m s : Nat} {rows : List (Option Row)} (k : Same H H') (h : TapeAt C H p m s rows) : TapeAt C H' p m s rows := by
  obtain ⟨dx, l, vs, h1, h2, h3⟩ := h
  exact ⟨dx, l, vs, k _ _ h1, k _ _ h2, h3.mono (RowV.mono (Tp.of k))⟩
theorem RulesAt.mono {C : Addr} {H H' : Hp} {p : Addr} {rs : List Rl} (k : Same H H') (h : RulesAt C H p rs) : RulesAt C H' p rs := by
  obtain ⟨dx, l, vs, h1, h2, h3⟩ := h
  exact ⟨dx, l, vs, k _ _ h1, k _ _ h2, h3.mono (RuleV.mono (Tp.of k))⟩
/-- what the top has written -/
structure Bl (mg : Str → Option Value) : Prop where
  len : mg "len" = none
  range : mg "range" = none
  isinstance : mg "isinstance" = none
  tuple : mg "tuple" = none
  list : mg "list" = none
  all : mg "all" = none
  str : mg "str" = none
  int : mg "int" = none
  bool : mg "bool" = none
  abs : mg "abs" = none
  reversed : mg "reversed" = none
structure TxT (K : PySem.W.Frag) (C : Addr) : Prop where
  cl : Cls K C
  marks : NoAttr K C "marks"
  states : NoAttr K C "states"
  rows : NoAttr K C "_rows"
structure TxR (K : PySem.W.Frag) (C : Addr) : Prop where
  cl : Cls K C
  rules : NoAttr K C "_rules"
structure TxS (K : PySem.W.Frag) (C : Addr) : Prop where
  cl : Cls K C
  upper : NoAttr K C "upper"
  lower : NoAttr K C "lower"
/-- a def of the top that another def calls -/
structure Gd (K : PySem.W.Frag) (mg : Str → Option Value) (x : Str) (st : Stmt) (ps : List Str) (f : Addr) (fd : FuncData) : Prop where
  F : Fun K x x st f fd
  g : mg x = some (.ref f)
  b : Binds K fd ps []
/-- a method -/
structure Md (K : PySem.W.Frag) (C : Addr) (cn x : Str) (q : Str) (st : Stmt) (ps : List Str) (f : Addr) (fd : FuncData) : Prop where
  F : Fun K x q st f fd
  m : Meth K C x f
  b : Binds K fd ps []
end K68
end
section
open PySem L2 TL
open C8 (Cal CalAt Met Mak pe_c pe_mk pe_mt pe_mt0 pe_cv pe_gc pss_cut tCallV tCut)
local macro_rules | `(tactic| walk_at "rd") => `(tactic| simp only [K68.cx_K, wipe, tYes, rIxT, rIxL, tRet, tRetN, tAndV, tOrV, tCB, tCons, tNil, tVar, tC, tNotV, tChain, rI0, rI, rU, tUn, tOp, L2.start, tSeq, tAsg, gName, tIfS, tTest, tDrop, tTup, tLst, tNext, tBreak, tCont, tB, tNot, tAnd, tOr, tIf, tCall, tMeth, tFld, tIsN, tNotN, tCmp, t2I, tJs, tFmt, K68.rEq_str, K68.rNe_str, K68.rEq_int, K68.rNe_int, decide_eq_true_eq, and_assoc, tPar, gTup, gCons, gNil, tCallV, tMake, tSl, tPart, tNoPart, tBM, tBM0, tM0, tM1, sFld,
  List.map, List.replicate, List.length_cons, List.length_nil, List.cons_append, List.nil_append, List.append_nil, List.set_cons_zero, List.set_cons_succ, List.getElem?_cons_zero, List.getElem?_cons_succ, Nat.zero_add, Nat.sub_self, Nat.reduceAdd, Nat.reduceSub,
  Option.some.injEq, exists_eq_left', exists_eq_left, exists_and_left, exists_false, V.int.injEq, V.bl.injEq, V.str.injEq, V.ref.injEq, List.cons.injEq, if_true, if_false, Bool.false_eq_true, true_and, and_true, false_and, and_false, false_or, or_false, decide_true, decide_false, Bool.and_self, Bool.and_true, Bool.true_and, tNever, Bool.not_true, Bool.not_false, reduceIte, reduceCtorEq])
local macro_rules | `(tactic| walk_at "tx") => `(tactic| simp only [K68.S_eq, Int.natCast_eq_zero, K68.e_nil, K68.e_nil', K68.e_open, K68.e_close, K68.e_left, K68.e_right, K68.e_zero, K68.e_zeroR, K68.e_digits, K68.S_num, K68.S_app, K68.S_len, List.cons_append, List.nil_append, List.append_assoc, List.length_append, List.length_cons, List.length_nil, List.cons.injEq, and_true, K68.line_])
namespace K68
section
variable {P : Program} {w : World} {K : PySem.W.Frag} {mg : Str → Option Value} {base : Heap} {f : Addr} {fd : FuncData}
theorem all_true (n : Nat) : (List.replicate n true).all id = true := by
  induction n with
  | zero => rfl
  | succ n ih => rw [List.replicate_succ, List.all_cons, ih]; rfl
/-! ### is_integer -/
def spInteger : Sp := fun vs H Q _ => ∃ v lo hi : Int, vs = [.int v, .int lo, .int hi] ∧ Q (.bl (decide (lo ≤ v) && decide (v ≤ hi))) H
theorem scInteger : FnScope ["value", "least", "most"] ["value", "least", "most"] (defScope sIsInteger) := ⟨rfl, rfl, rfl, by decide +kernel, rfl, by decide +kernel, by decide +kernel⟩
theorem isi_int_int {H : Hp} {i : Int} {Q : VK} (h : Q (.bl true) H) : rIsi K [.int i, .ty "int"] H Q := ⟨_, _, _, _, true, rfl, .ty "int", .base (.int i), kit_ty (by decide +kernel), h⟩
theorem isi_int_bool {H : Hp} {i : Int} {Q : VK} (h : Q (.bl false) H) : rIsi K [.int i, .ty "bool"] H Q := ⟨_, _, _, _, false, rfl, .ty "bool", .base (.int i), kit_ty (by decide +kernel), h⟩
theorem isi_tup {H : Hp} {a : Addr} {xs : List V} {Q : VK} (e : H a = some (.tup xs)) (h : Q (.bl true) H) : rIsi K [.ref a, .ty "tuple"] H Q := ⟨_, _, _, _, true, rfl, .ty "tuple", .base (.tup e), kit_ty (by decide +kernel), h⟩
theorem isi_str {H : Hp} {x : Str} {Q : VK} (h : Q (.bl true) H) : rIsi K [.str x, .ty "str"] H Q := ⟨_, _, _, _, true, rfl, .ty "str", .base (.str x), kit_ty (by decide +kernel), h⟩
theorem ok_integer (F : Fun K "is_integer" "is_integer" sIsInteger f fd) (T : Bl mg) : FnOk P w K mg base CX0 1 f fd ["value", "least", "most"] spInteger := by
  refine F.ok scInteger (fun vs H Q E h => ?_) (fun cdv A outer s H vs Q E hr h => ?_)
  · obtain ⟨v, lo, hi, rfl, _⟩ := h
    rfl
  · obtain ⟨v, lo, hi, rfl, k⟩ := h
    refine ⟨_, pss_one (ps_ret (pe_and (pe_callB call_isi (by rfl) T.isinstance (by decide +kernel) (pa_cons (pv 0) (pa_cons (pe_bltn (v := .ty "int") (by rfl) T.int PyProof.Rows.boot_int rfl) pa_nil)))
      (pe_and (pe_not (pe_callB call_isi (by rfl) T.isinstance (by decide +kernel) (pa_cons (pv 0) (pa_cons (pe_bltn (v := .ty "bool") (by rfl) T.bool (by decide +kernel) rfl) pa_nil))))
        (pe_one (pe_chain op_le op_le (pv 1) (pv 0) (pv 2)))))), ?_⟩
    walk_at "rd"
    refine isi_int_int ?_
    walk_at "rd"
    refine isi_int_bool ?_
    walk_at "rd"
    by_cases h : lo ≤ v
    · rw [decide_eq_true h] at k
      rw [if_pos h]
      exact k
    · rw [decide_eq_false h] at k
      rw [if_neg h]
      exact k
/-! ### _sign -/
def spSign : Sp := fun vs H Q _ => ∃ q : Nat, vs = [nV q] ∧ q < 10 ^ 9 ∧ Q (.str (S (sgn q))) H
theorem scSign : FnScope ["state"] ["state"] (defScope sSign) := ⟨rfl, rfl, rfl, by decide +kernel, rfl, by decide +kernel, by decide +kernel⟩
theorem small_log {n : Nat} (h : n < 10 ^ 9) : (n : Int).natAbs.log2 < 1920 := by
  rw [Int.natAbs_natCast]
  rcases Nat.eq_zero_or_pos n with e | e
  · rw [e]
    decide
  · exact (Nat.log2_lt (by omega)).mpr (Nat.lt_trans h (by decide +kernel))
theorem num_len {n : Nat} (h : n < 10 ^ 9) : (numL n).length ≤ 9 := numL_len (by decide) h
theorem sgn_len {n : Nat} (h : n < 10 ^ 9) : (sgn n).length ≤ 11 := by
  have := num_len h
  simp [sgn]
  omega
theorem ok_sign (F : Fun K "_sign" "_sign" sSign f fd) : FnOk P w K mg base CX0 1 f fd ["state"] spSign := by
  refine F.ok scSign (fun vs H Q E h => ?_) (fun cdv A outer s H vs Q E hr h => ?_)
  · obtain ⟨q, rfl, _⟩ := h
    rfl
  · obtain ⟨q, rfl, hq, k⟩ := h
    refine ⟨_, pss_one (ps_ret (pe_joined (PJ.cons pe_str (PJ.cons (pe_fmt (pv 0)) (PJ.cons pe_str .nil))))), ?_⟩
    walk_at "rd"
    have hl := num_len hq
    walk_at "tx"
    exact ⟨by omega, small_log hq, by omega, by omega, k⟩
/-! ### _right, _left -/
def spSide (g : Nat → Nat → Nat → Nat → List Nat) : Sp := fun vs H Q _ => ∃ (l r : Nat) (p : Addr) (x : Row), vs = [.str (S [l]), .ref p, .str (S [r])] ∧ H p = some (.tup [nV x.1, .int (mvI x.2.1), nV x.2.2]) ∧ x.1 < 10 ∧ x.2.2 < 10 ^ 9 ∧ Q (.str (S (g l x.1 x.2.2 r))) H
theorem scRight : FnScope ["left", "row", "right", "mark", "_", "state", "before"] ["left", "row", "right"] (defScope sRight) := ⟨rfl, rfl, rfl, by decide +kernel, rfl, by decide +kernel, by decide +kernel⟩
theorem ok_right (F : Fun K "_right" "_right" sRight f fd) (T : Bl mg) (cS : Cal P w K mg base 1 "_sign" spSign []) : FnOk P w K mg base CX0 2 f fd ["left", "row", "right"] (spSide newR) := by
  refine F.ok scRight (fun vs H Q E h => ?_) (fun cdv A outer s H vs Q E hr h => ?_)
  · obtain ⟨l, r, p, x, rfl, _⟩ := h
    rfl
  · obtain ⟨l, r, p, x, rfl, hp, h1, h2, k⟩ := h
    refine ⟨_, pss_cons (ps_asg (pv 1) (pg_tup rfl (pgs_cons (pg_name (i := 3) scRight.nd rfl (.inl rfl)) (pgs_cons (pg_name (i := 4) scRight.nd rfl (.inl rfl)) (pgs_cons (pg_name (i := 5) scRight.nd rfl (.inl rfl)) pgs_nil)))))
      (pss_cons (ps_set (i := 6) scRight.nd rfl (.inl rfl) (pe_ifExp (PW.pt (pw_and (pt_cmpR op_eq (pv 0) pe_str (nomark _)) (pw_and1 (pt_cmpR op_eq (pv 3) pe_int (nomark _))))) (pv 0)
        (pe_op op_add_str (pv 0) (pe_callTy call_str_int (by rfl) T.str (by decide +kernel) (pa_cons (pv 3) pa_nil)))))
      (pss_one (ps_ret (pe_op op_add_str (pe_op op_add_str (pv 6) (pe_c cS hr (by decide) (by rfl) (pa_cons (pv 5) pa_nil))) (pe_ifExp (pt_cmpR op_eq (pv 2) pe_str (nomark _)) pe_str (pv 2)))))), ?_⟩
    walk_at "rd"
    refine ⟨_, SqT.of hp, rfl, ?_⟩
    walk_at "rd"
    walk_at "tx"
    have hl := sgn_len h2
    have hn := numL_lt h1
    have hz := small_log (n := x.1) (by omega)
    simp only [hn, hz, true_and, List.length_cons, List.length_nil, List.cons_append, List.nil_append]
    unfold newR at k
    by_cases a : l = 91 <;> by_cases b : x.1 = 0 <;> by_cases c : r = 93 <;> simp only [a, b, c, if_true, if_false, and_true, and_false, true_and, false_and] at k ⊢
    all_goals try refine ⟨by decide, ?_⟩
    all_goals refine ⟨_, rfl, h2, _, rfl, ?_⟩
    all_goals walk_at "tx"
    all_goals exact ⟨by omega, by omega, k⟩
theorem scLeft : FnScope ["left", "row", "right", "mark", "_", "state", "before"] ["left", "row", "right"] (defScope sLeft) := ⟨rfl, rfl, rfl, by decide +kernel, rfl, by decide +kernel, by decide +kernel⟩
theorem ok_left (F : Fun K "_left" "_left" sLeft f fd) (T : Bl mg) (cS : Cal P w K mg base 1 "_sign" spSign []) : FnOk P w K mg base CX0 2 f fd ["left", "row", "right"] (spSide newL) := by
  refine F.ok scLeft (fun vs H Q E h => ?_) (fun cdv A outer s H vs Q E hr h => ?_)
  · obtain ⟨l, r, p, x, rfl, _⟩ := h
    rfl
  · obtain ⟨l, r, p, x, rfl, hp, h1, h2, k⟩ := h
    refine ⟨_, (pss_cons (ps_asg (pv 1) (pg_tup rfl (pgs_cons (pg_name (i := 3) scLeft.nd rfl (.inl rfl)) (pgs_cons (pg_name (i := 4) scLeft.nd rfl (.inl rfl)) (pgs_cons (pg_name (i := 5) scLeft.nd rfl (.inl rfl)) pgs_nil)))))
      (pss_cons (ps_set (i := 6) scLeft.nd rfl (.inl rfl) (pe_ifExp (pt_cmpR op_eq (pv 0) pe_str (nomark _)) (pe_op op_add_str (pe_op op_add_str pe_str (pe_c cS hr (by decide) (by rfl) (pa_cons (pv 5) pa_nil))) pe_str) (pe_op op_add_str (pe_c cS hr (by decide) (by rfl) (pa_cons (pv 5) pa_nil)) (pv 0))))
      (pss_one (ps_ret (pe_op op_add_str (pe_op op_add_str (pv 6) (pe_ifExp (PW.pt (pw_and (pt_cmpR op_eq (pv 2) pe_str (nomark _)) (pw_and1 (pt_cmpR op_eq (pv 3) pe_int (nomark _))))) pe_str (pe_callTy call_str_int (by rfl) T.str (by decide +kernel) (pa_cons (pv 3) pa_nil)))) (pv 2)))))), ?_⟩
    walk_at "rd"
    refine ⟨_, SqT.of hp, rfl, ?_⟩
    walk_at "rd"
    walk_at "tx"
    have hl := sgn_len h2
    have hn := numL_lt h1
    have hz := small_log (n := x.1) (by omega)
    simp only [hn, hz, true_and, List.length_cons, List.length_nil, List.cons_append, List.nil_append]
    unfold newL at k
    by_cases a : l = 91
    · rw [if_pos a] at k ⊢
      refine ⟨_, rfl, h2, _, rfl, ?_⟩
      walk_at "tx"
      refine ⟨by omega, by omega, ?_⟩
      by_cases b : x.1 = 0 <;> by_cases c : r = 93 <;> simp only [b, c, if_true, if_false, and_true, and_false, true_and, false_and] at k ⊢
      all_goals exact ⟨by omega, by omega, by simpa using k⟩
    · rw [if_neg a] at k ⊢
      refine ⟨_, rfl, h2, _, rfl, ?_⟩
      walk_at "tx"
      refine ⟨by omega, ?_⟩
      by_cases b : x.1 = 0 <;> by_cases c : r = 93 <;> simp only [b, c, if_true, if_false, and_true, and_false, true_and, false_and] at k ⊢
      all_goals exact ⟨by omega, by omega, by simpa using k⟩
/-! ### _is_rule -/
def spIsRule : Sp := fun vs H Q _ => ∃ (p : Addr) (a b : List Nat), vs = [.ref p] ∧ H p = some (.tup [.str (S a), .str (S b)]) ∧ a ≠ [] ∧ Q (.bl true) H
theorem scIsRule : FnScope ["value"] ["value"] (defScope sIsRule) := ⟨rfl, rfl, rfl, by decide +kernel, rfl, by decide +kernel, by decide +kernel⟩
theorem ok_isRule (F : Fun K "_is_rule" "_is_rule" sIsRule f fd) (T : Bl mg) : FnOk P w K mg base CX0 1 f fd ["value"] spIsRule := by
  refine F.ok scIsRule (fun vs H Q E h => ?_) (fun cdv A outer s H vs Q E hr h => ?_)
  · obtain ⟨p, a, b, rfl, _⟩ := h
    rfl
  · obtain ⟨p, a, b, rfl, hp, ha, k⟩ := h
    refine ⟨_, (pss_cons (ps_if (PW.pt (pw_or (pt_not (pt_val (pe_callB call_isi (by rfl) T.isinstance (by decide +kernel) (pa_cons (pv 0) (pa_cons (pe_bltn (v := .ty "tuple") (by rfl) T.tuple (by decide +kernel) rfl) pa_nil))))) (pw_or1 (pt_cmpR op_ne (pe_callB call_len_seq (by rfl) T.len PySem.boot_len (pa_cons (pv 0) pa_nil)) pe_int (nomark _))))) (pss_one (ps_ret pe_bl)) pss_nil)
      (pss_one (ps_ret (pe_and (pe_callB call_isi (by rfl) T.isinstance (by decide +kernel) (pa_cons (pe_ix ix_tup (pv 0) pe_int (fun _ _ => rfl)) (pa_cons (pe_bltn (v := .ty "str") (by rfl) T.str (by decide +kernel) rfl) pa_nil))) (pe_and (pe_callB call_isi (by rfl) T.isinstance (by decide +kernel) (pa_cons (pe_ix ix_tup (pv 0) pe_int (fun _ _ => rfl)) (pa_cons (pe_bltn (v := .ty "str") (by rfl) T.str (by decide +kernel) rfl) pa_nil))) (pe_one (pe_cmpR op_ne (pe_ix ix_tup (pv 0) pe_int (fun _ _ => rfl)) pe_str (nomark _)))))))), ?_⟩
    walk_at "rd"
    refine isi_tup hp ?_
    walk_at "rd"
    refine ⟨_, .inr (SqT.of hp), ?_⟩
    walk_at "rd"
    refine iteNS rfl ⟨_, SqT.of hp, _, at0, isi_str ?_⟩
    walk_at "rd"
    refine ⟨_, SqT.of hp, _, at1, isi_str ?_⟩
    walk_at "rd"
    refine ⟨_, SqT.of hp, _, at0, ?_⟩
    walk_at "rd"
    walk_at "tx"
    rw [decide_eq_false ha]
    exact k
/-! ### trimmed: of a tuple that ends with no blank -/
def spTrimmed : Sp := fun vs H Q _ => ∃ (p : Addr) (l : List Nat), vs = [.ref p] ∧ H p = some (.tup (l.map nV)) ∧ Trm l ∧ l.length ≤ 1000 ∧ Q (.ref p) H
theorem scTrimmed : FnScope ["marks", "count"] ["marks"] (defScope sTrimmed) := ⟨rfl, rfl, rfl, by decide +kernel, rfl, by decide +kernel, by decide +kernel⟩
theorem sIx_len {n : Nat} : HT.sIx n n (some (n : Int)) = n := by rw [HT.sIx_nat]; omega
theorem sl_whole {H : Hp} {p : Addr} {xs : List V} {n : Nat} {Q : VK} (hn : n = xs.length) (hp : H p = some (.tup xs)) (k : Q (.ref p) H) : rSlA K (.ref p) none (some (n : Int)) H Q := by
  subst hn
  exact ⟨p, xs, rfl, SqT.of hp, fun _ => k, fun h => absurd ⟨rfl, sIx_len⟩ h⟩
theorem ok_trimmed (F : Fun K "trimmed" "trimmed" sTrimmed f fd) (T : Bl mg) : FnOk P w K mg base CX0 1 f fd ["marks"] spTrimmed := by
  refine F.ok scTrimmed (fun vs H Q E h => ?_) (fun cdv A outer s H vs Q E hr h => ?_)
  · obtain ⟨p, l, rfl, _⟩ := h
    rfl
  · obtain ⟨p, l, rfl, hp, ht, hl, k⟩ := h
    refine ⟨_, (pss_cons (ps_set (i := 1) scTrimmed.nd rfl (.inl rfl) (pe_callB call_len_seq (by rfl) T.len PySem.boot_len (pa_cons (pv 0) pa_nil)))
      (pss_cons (ps_while PassesOwn.never (PW.pt (pw_and (pt_cmpR op_gt (pv 1) pe_int (nomark _)) (pw_and1 (pt_cmpR op_eq (pe_ix ix_tup (pv 0) (pe_op op_sub (pv 1) pe_int) (fun _ _ => rfl)) pe_int (nomark _))))) (pss_one (ps_aug (i := 1) scTrimmed.nd rfl (.inl rfl) pe_int ip_sub)))
      (pss_one (ps_ret (pe_callTy call_tuple_of (by rfl) T.tuple (by decide +kernel) (pa_cons (pe_slice sl_tupA (pv 0) po_none (po_some (pv 1))) pa_nil)))))), ?_⟩
    walk_at "rd"
    refine ⟨_, .inr (SqT.of hp), ?_⟩
    refine ⟨fun _ σ H' => σ = [some (.ref p), some (nV l.length)] ∧ H' = H, ⟨0, by walk_at "rd"; rw [List.length_map], rfl⟩, ?_⟩
    rintro _ σ H' ⟨rfl, rfl⟩
    walk_at "rd"
    have done : rSlA K (V.ref p) none (some (l.length : Int)) H' fun x H1 => ∃ p, x = V.ref p ∧ ∃ x, (SqL K H1 p x ∧ ∀ (l : Addr), H1 l = none → Q (V.ref l) (upd H1 l (HO.tup x))) ∨ SqT K H1 p x ∧ Q (V.ref p) H1 :=
      sl_whole (by rw [List.length_map]) hp ⟨_, rfl, _, .inr ⟨SqT.of hp, k⟩⟩
    rcases List.eq_nil_or_concat l with e | ⟨l', b, e⟩
    · rw [if_neg (by rw [e]; decide)]
      exact done
    · rw [List.concat_eq_append] at e
      subst e
      have hb : b ≠ 0 := fun z => ht (by rw [z]; simp)
      rw [if_pos (by simp)]
      refine ⟨_, SqT.of hp, nV b, ?_, ?_⟩
      · have e : ((l' ++ [b]).length : Int) - 1 = (l'.length : Int) := by simp
        rw [e]
        exact atI_nat (by simp)
      · walk_at "rd"
        rw [if_neg (by omega : ¬ ((b : Nat) : Int) = 0)]
        exact done
end
end K68
end
section
open PySem L2 TL
open C8 (Cal CalAt Met Mak pe_c pe_mk pe_mt pe_mt0 pe_cv pe_gc pss_cut tCallV tCut)
local macro_rules | `(tactic| walk_at "rd") => `(tactic| simp only [K68.cx_K, wipe, tYes, rIxT, rIxL, tRet, tRetN, tAndV, tOrV, tCB, tCons, tNil, tVar, tC, tNotV, tChain, rI0, rI, rU, tUn, tOp, L2.start, tSeq, tAsg, gName, tIfS, tTest, tDrop, tTup, tLst, tNext, tBreak, tCont, tB, tNot, tAnd, tOr, tIf, tCall, tMeth, tFld, tIsN, tNotN, tCmp, t2I, tJs, tFmt, K68.rEq_str, K68.rNe_str, K68.rEq_int, K68.rNe_int, decide_eq_true_eq, and_assoc, tPar, gTup, gCons, gNil, tCallV, tMake, tSl, tPart, tNoPart, tBM, tBM0, tM0, tM1, sFld,
  List.map, List.replicate, List.length_cons, List.length_nil, List.cons_append, List.nil_append, List.append_nil, List.set_cons_zero, List.set_cons_succ, List.getElem?_cons_zero, List.getElem?_cons_succ, Nat.zero_add, Nat.sub_self, Nat.reduceAdd, Nat.reduceSub,
  Option.some.injEq, exists_eq_left', exists_eq_left, exists_and_left, exists_false, V.int.injEq, V.bl.injEq, V.str.injEq, V.ref.injEq, List.cons.injEq, if_true, if_false, Bool.false_eq_true, true_and, and_true, false_and, and_false, false_or, or_false, decide_true, decide_false, Bool.and_self, Bool.and_true, Bool.true_and, tNever, Bool.not_true, Bool.not_false, reduceIte, reduceCtorEq])
local macro_rules | `(tactic| walk_at "tx") => `(tactic| simp only [K68.S_eq, Int.natCast_eq_zero, K68.e_nil, K68.e_nil', K68.e_open, K68.e_close, K68.e_left, K68.e_right, K68.e_zero, K68.e_zeroR, K68.e_digits, K68.S_num, K68.S_app, K68.S_len, List.cons_append, List.nil_append, List.append_assoc, List.length_append, List.length_cons, List.length_nil, List.cons.injEq, and_true, K68.line_])
namespace K68
section
variable {P : Program} {w : World} {K : PySem.W.Frag} {mg : Str → Option Value} {base : Heap} {f : Addr} {fd : FuncData}
/-! ### _marks, of digits -/
def spMarks : Sp := fun vs H Q _ => ∃ l : List Nat, vs = [.str (S (l.map dg))] ∧ (∀ b ∈ l, b < 10) ∧ l.length ≤ 1000 ∧ ∀ (H' : Hp) (p : Addr), Same H H' → H' p = some (.tup (l.map nV)) → Q (.ref p) H'
theorem scMarks : FnScope ["text", "sign"] ["text"] (defScope sMarks) := ⟨rfl, rfl, rfl, by decide +kernel, rfl, by decide +kernel, by decide +kernel⟩
theorem dg_sign {b : Nat} (h : b < 10) : decide (dg b ∈ (S [48, 49, 50, 51, 52, 53, 54, 55, 56, 57]).cps.toList) = true := by
  refine decide_eq_true ?_
  show 48 + b ∈ [48, 49, 50, 51, 52, 53, 54, 55, 56, 57]
  have : b = 0 ∨ b = 1 ∨ b = 2 ∨ b = 3 ∨ b = 4 ∨ b = 5 ∨ b = 6 ∨ b = 7 ∨ b = 8 ∨ b = 9 := by omega
  rcases this with h | h | h | h | h | h | h | h | h | h <;> subst h <;> decide
theorem dg_int {b : Nat} (h : b < 10) : PySem.intText? (S [dg b]) = some (b : Int) := by
  have e := int_num (n := b) (by rw [numL_lt h]; exact (by decide : 1 ≤ 4300))
  rw [S_num, numL_lt h] at e
  exact e
theorem dg_at {l : List Nat} {i c : Nat} (h : (S (l.map dg)).cps[i]? = some c) : ∃ b, l[i]? = some b ∧ c = dg b := by
  have e : (l.map dg)[i]? = some c := by simpa using h
  rw [List.getElem?_map] at e
  cases q : l[i]? with
  | none =>
    rw [q] at e
    cases e
  | some b =>
    rw [q] at e
    exact ⟨b, rfl, (Option.some.inj e).symm⟩
theorem ok_marks (F : Fun K "_marks" "_marks" sMarks f fd) (T : Bl mg) : FnOk P w K mg base CX0 1 f fd ["text"] spMarks := by
  refine F.ok scMarks (fun vs H Q E h => ?_) (fun cdv A outer s H vs Q E hr h => ?_)
  · obtain ⟨l, rfl, _⟩ := h
    rfl
  · obtain ⟨l, rfl, hl, hn, k⟩ := h
    have hsz : (S (l.map dg)).cps.size = l.length := by simp
    refine ⟨_, (pss_cons (ps_if (pt_not (pt_val (pe_callB (cr_all rfl) (by rfl) T.all (by decide +kernel) (pa_cons (pe_lc (own := [("sign", 1)]) (g := gName 1) (tt := tYes) (by rfl) scMarks.nd (pi_str (pv 0)) (blkOk_by (own := [("sign", 1)]) (N := ["text", "sign"]) (sc := defScope sMarks) (by decide +kernel)) (fun _ _ _ _ _ => pg_name (i := 1) scMarks.nd rfl (Or.inl rfl)) (fun _ _ _ _ _ => by exact pts_nil) (fun _ _ _ _ _ => by exact (pe_cmpR op_in_sign (pv 1) pe_str rfl))) pa_nil)))) (pss_one (ps_ret pe_non)) pss_nil)
      (pss_one (ps_ret (pe_callTy call_tuple_of (by rfl) T.tuple (by decide +kernel) (pa_cons (pe_lc (own := [("sign", 1)]) (g := gName 1) (tt := tYes) (by rfl) scMarks.nd (pi_str (pv 0)) (blkOk_by (own := [("sign", 1)]) (N := ["text", "sign"]) (sc := defScope sMarks) (by decide +kernel)) (fun _ _ _ _ _ => pg_name (i := 1) scMarks.nd rfl (Or.inl rfl)) (fun _ _ _ _ _ => by exact pts_nil) (fun _ _ _ _ _ => by exact (pe_callTy call_int_str (by rfl) T.int PyProof.Rows.boot_int (pa_cons (pv 1) pa_nil)))) pa_nil))))), ?_⟩
    walk_at "rd"
    refine ⟨_, rfl, _, rfl, ?_⟩
    intro D hD
    refine lc_pure walk_str ((List.replicate l.length true).map V.bl) (by simp) (by rw [hsz]; omega) hD (fun _ _ => trivial) ?_ ?_
    · rintro i x y H' H'' R hy h2 ⟨rfl, c, hc, rfl⟩ hR
      obtain ⟨b, hb, rfl⟩ := dg_at hc
      have hb10 := hl b (List.mem_of_getElem? hb)
      have ey : y = V.bl true := by
        have := List.mem_of_getElem? hy
        simp at this
        exact this.2
      subst ey
      walk_at "rd"
      walk_at "tx"
      refine ⟨_, rfl, ?_⟩
      rw [dg_sign hb10]
      exact hR
    · intro H1 h2 h1
      refine ⟨D, _, rfl, SqL.of h1, ?_⟩
      rw [all_true]
      walk_at "rd"
      refine ⟨_, rfl, _, rfl, ?_⟩
      intro D' hD'
      refine lc_pure walk_str (l.map nV) (by simp) (by rw [hsz]; omega) hD' (fun _ _ => trivial) ?_ ?_
      · rintro i x y H' H'' R hy h3 ⟨rfl, c, hc, rfl⟩ hR
        obtain ⟨b, hb, rfl⟩ := dg_at hc
        have hb10 := hl b (List.mem_of_getElem? hb)
        obtain ⟨b', hb', rfl⟩ := map_at hy
        rw [hb] at hb'
        injection hb' with e
        subst e
        walk_at "rd"
        exact ⟨_, dg_int hb10, (by decide : 1 ≤ 640), hR⟩
      · intro H2 h4 h3
        refine ⟨_, rfl, _, .inl ⟨SqL.of h3, fun p hp => ?_⟩⟩
        exact k _ p (same_add (h2.trans h4) hp) upd_same
end
end K68
end
section
open PySem L2 TL
open C8 (Cal CalAt Met Mak pe_c pe_mk pe_mt pe_mt0 pe_cv pe_gc pss_cut tCallV tCut)
local macro_rules | `(tactic| walk_at "rd") => `(tactic| simp only [K68.cx_K, wipe, tYes, rIxT, rIxL, tRet, tRetN, tAndV, tOrV, tCB, tCons, tNil, tVar, tC, tNotV, tChain, rI0, rI, rU, tUn, tOp, L2.start, tSeq, tAsg, gName, tIfS, tTest, tDrop, tTup, tLst, tNext, tBreak, tCont, tB, tNot, tAnd, tOr, tIf, tCall, tMeth, tFld, tIsN, tNotN, tCmp, t2I, tJs, tFmt, K68.rEq_str, K68.rNe_str, K68.rEq_int, K68.rNe_int, decide_eq_true_eq, and_assoc, tPar, gTup, gCons, gNil, tCallV, tMake, tSl, tPart, tNoPart, tBM, tBM0, tM0, tM1, sFld,
  List.map, List.replicate, List.length_cons, List.length_nil, List.cons_append, List.nil_append, List.append_nil, List.set_cons_zero, List.set_cons_succ, List.getElem?_cons_zero, List.getElem?_cons_succ, Nat.zero_add, Nat.sub_self, Nat.reduceAdd, Nat.reduceSub,
  Option.some.injEq, exists_eq_left', exists_eq_left, exists_and_left, exists_false, V.int.injEq, V.bl.injEq, V.str.injEq, V.ref.injEq, List.cons.injEq, if_true, if_false, Bool.false_eq_true, true_and, and_true, false_and, and_false, false_or, or_false, decide_true, decide_false, Bool.and_self, Bool.and_true, Bool.true_and, tNever, Bool.not_true, Bool.not_false, reduceIte, reduceCtorEq])
local macro_rules | `(tactic| walk_at "tx") => `(tactic| simp only [K68.S_eq, Int.natCast_eq_zero, K68.e_nil, K68.e_nil', K68.e_open, K68.e_close, K68.e_left, K68.e_right, K68.e_zero, K68.e_zeroR, K68.e_digits, K68.S_num, K68.S_app, K68.S_len, List.cons_append, List.nil_append, List.append_assoc, List.length_append, List.length_cons, List.length_nil, List.cons.injEq, and_true, K68.line_])
namespace K68
section
variable {P : Program} {w : World} {K : PySem.W.Frag} {mg : Str → Option Value} {base : Heap} {f : Addr} {fd : FuncData} {C : Addr}
/-- every object but p stands -/
def SameX (p : Addr) (H H' : Hp) : Prop := ∀ b o, b ≠ p → H b = some o → H' b = some o
theorem int1 {m x : Nat} (h : x < m) : (decide ((0 : Int) ≤ (x : Int)) && decide ((x : Int) ≤ (m : Int) - 1)) = true := by
  rw [decide_eq_true (by omega), decide_eq_true (by omega)]
  rfl
/-! ### Tape._is_row -/
def spIsRow (C : Addr) : Sp := fun vs H Q _ => ∃ (p t dx : Addr) (m s : Nat) (r : Row) (fs : List (Str × V)), vs = [.ref p, .ref t] ∧ H p = some (.ins C dx fs) ∧ fs.lookup ("marks" : Str) = some (nV m) ∧ fs.lookup ("states" : Str) = some (nV s) ∧
  H t = some (.tup [nV r.1, .int (mvI r.2.1), nV r.2.2]) ∧ r.1 < m ∧ r.2.2 < s ∧ Q (.bl true) H
theorem scIsRow : FnScope ["self", "row"] ["self", "row"] (defScope sTaIsRow) := ⟨rfl, rfl, rfl, by decide +kernel, rfl, by decide +kernel, by decide +kernel⟩
theorem ok_isRow (F : Fun K "_is_row" "Tape._is_row" sTaIsRow f fd) (T : Bl mg) (X : TxT K C) (cI : Cal P w K mg base 1 "is_integer" spInteger []) : FnOk P w K mg base CX0 2 f fd ["self", "row"] (spIsRow C) := by
  refine F.ok scIsRow (fun vs H Q E h => ?_) (fun cdv A outer s H vs Q E hr h => ?_)
  · obtain ⟨p, t, dx, m, s, r, fs, rfl, _⟩ := h
    rfl
  · obtain ⟨p, t, dx, m, s, r, fs, rfl, hp, l1, l2, ht, h1, h2, k⟩ := h
    refine ⟨_, (pss_cons (ps_if (PW.pt (pw_or (pt_not (pt_val (pe_callB call_isi (by rfl) T.isinstance (by decide +kernel) (pa_cons (pv 1) (pa_cons (pe_bltn (v := .ty "tuple") (by rfl) T.tuple (by decide +kernel) rfl) pa_nil))))) (pw_or1 (pt_cmpR op_ne (pe_callB call_len_seq (by rfl) T.len PySem.boot_len (pa_cons (pv 1) pa_nil)) pe_int (nomark _))))) (pss_one (ps_ret pe_bl)) pss_nil)
      (pss_cons (ps_if (PW.pt (pw_or (pt_not (pt_val (pe_c cI hr (by decide) (by rfl) (by exact (pa_cons (pe_ix ix_tup (pv 1) pe_int (fun _ _ => rfl)) (pa_cons (pe_un un_neg pe_int) (pa_cons pe_int pa_nil))))))) (pw_or1 (pt_cmpR op_eq (pe_ix ix_tup (pv 1) pe_int (fun _ _ => rfl)) pe_int (nomark _))))) (pss_one (ps_ret pe_bl)) pss_nil)
      (pss_one (ps_ret (pe_and (pe_c cI hr (by decide) (by rfl) (by exact (pa_cons (pe_ix ix_tup (pv 1) pe_int (fun _ _ => rfl)) (pa_cons pe_int (pa_cons (pe_op op_sub (pe_fld (pv 0) rfl) pe_int) pa_nil))))) (pe_one (pe_c cI hr (by decide) (by rfl) (by exact (pa_cons (pe_ix ix_tup (pv 1) pe_int (fun _ _ => rfl)) (pa_cons pe_int (pa_cons (pe_op op_sub (pe_fld (pv 0) rfl) pe_int) pa_nil))))))))))), ?_⟩
    walk_at "rd"
    refine isi_tup ht ?_
    walk_at "rd"
    refine ⟨_, .inr (SqT.of ht), iteNS rfl ⟨_, SqT.of ht, _, at1, _, _, _, rfl, ?_⟩⟩
    have e1 : (decide ((-1 : Int) ≤ mvI r.2.1) && decide (mvI r.2.1 ≤ 1)) = true := by
      cases r.2.1 <;> rfl
    rw [e1]
    walk_at "rd"
    refine ⟨_, SqT.of ht, _, at1, ?_⟩
    walk_at "rd"
    rw [if_neg (by cases r.2.1 <;> decide)]
    refine ⟨_, SqT.of ht, _, at0, _, _, _, hp, X.cl, X.marks, _, l1, ?_⟩
    walk_at "rd"
    refine ⟨_, _, _, rfl, ?_⟩
    rw [int1 h1]
    walk_at "rd"
    refine ⟨_, SqT.of ht, _, at2, _, _, _, hp, X.cl, X.states, _, l2, ?_⟩
    walk_at "rd"
    refine ⟨_, _, _, rfl, ?_⟩
    rw [int1 h2]
    exact k
/-! ### Tape.__init__ -/
structure Small (m s : Nat) : Prop where
  m2 : 2 ≤ m
  m10 : m ≤ 10
  s1 : 1 ≤ s
  s20 : s ≤ 20
  ms : m * s ≤ 50
  rules : s * (m * ((m + 1) * (m + 1))) ≤ 20000
def spTaInit (C : Addr) : Sp := fun vs H Q _ => ∃ (p l dx : Addr) (m s : Nat) (rows : List (Option Row)) (us : List V), vs = [.ref p, nV m, nV s, .ref l] ∧ H p = some (.ins C dx []) ∧ H l = some (.lst us) ∧ All2 (RowV H) us rows ∧ RowsOk m s rows ∧ Small m s ∧
  ∀ H', SameX p H H' → TapeAt C H' p m s rows → Q .non H'
theorem scTaInit : FnScope ["self", "marks", "states", "rows", "row"] ["self", "marks", "states", "rows"] (defScope sTaInit) := ⟨rfl, rfl, rfl, by decide +kernel, rfl, by decide +kernel, by decide +kernel⟩
theorem ok_taInit (F : Fun K "__init__" "Tape.__init__" sTaInit f fd) (T : Bl mg) (X : TxT K C) (cI : Cal P w K mg base 1 "is_integer" spInteger []) (cR : Met P w K mg base 2 C "_is_row" (spIsRow C) [])
    (g1 : ∃ t, mg "MOST_MARKS_tape" = some (.int 16 t)) (g2 : ∃ t, mg "MOST_STATES" = some (.int 4000 t)) : FnOk P w K mg base CX0 3 f fd ["self", "marks", "states", "rows"] (spTaInit C) := by
  refine F.ok scTaInit (fun vs H Q E h => ?_) (fun cdv A outer s H vs Q E hr h => ?_)
  · obtain ⟨p, l, dx, m, s, rows, us, rfl, _⟩ := h
    rfl
  · obtain ⟨p, l, dx, m, s, rows, us, rfl, hp, hl, hu, ro, sm, k⟩ := h
    have e2 := sm.m2
    have e10 := sm.m10
    have e1 := sm.s1
    have e20 := sm.s20
    have ems := sm.ms
    obtain ⟨t1, g1⟩ := g1
    obtain ⟨t2, g2⟩ := g2
    have npl : l ≠ p := ne_of hl hp (by intro q; cases q)
    refine ⟨_, (pss_cons (ps_if (PW.pt (pw_or (pt_not (pt_val (pe_c cI hr (by decide) (by rfl) (by exact (pa_cons (pv 1) (pa_cons pe_int (pa_cons (pe_gc (v := .int 16) (by rfl) ⟨_, g1, _, rfl⟩) pa_nil))))))) (pw_or1 (pt_not (pt_val (pe_c cI hr (by decide) (by rfl) (by exact (pa_cons (pv 2) (pa_cons pe_int (pa_cons (pe_gc (v := .int 4000) (by rfl) ⟨_, g2, _, rfl⟩) pa_nil)))))))))) pss_never pss_nil)
      (pss_cons (ps_if (pt_cmpR op_ne (pe_callB call_len_seq (by rfl) T.len PySem.boot_len (pa_cons (pv 3) pa_nil)) (pe_op op_mul (pv 1) (pv 2)) (nomark _)) pss_never pss_nil)
      (pss_cons (ps_fld (pv 0) (pv 1) rfl)
      (pss_cons (ps_fld (pv 0) (pv 2) rfl)
      (pss_cons (ps_for PassesOwn.never rfl (pi_list (pv 3)) (pg_name (i := 4) scTaInit.nd rfl (.inl rfl)) (pss_one (ps_if (PW.pt (pw_and (pt_cmp (pc_notN (pv 4)) rfl) (pw_and1 (pt_not (pt_val (pe_mt cR hr (by decide) (pv 0) (pa_cons (pv 4) pa_nil))))))) pss_never pss_nil)))
      (pss_one (ps_fld (pv 0) (pe_callTy call_list_of (by rfl) T.list (by decide +kernel) (pa_cons (pv 3) pa_nil)) rfl))))))), ?_⟩
    walk_at "rd"
    refine ⟨_, _, _, rfl, ?_⟩
    rw [decide_eq_true (by omega : (2 : Int) ≤ (m : Int)), decide_eq_true (by omega : (m : Int) ≤ 16)]
    walk_at "rd"
    refine ⟨_, _, _, rfl, ?_⟩
    rw [decide_eq_true (by omega : (1 : Int) ≤ (s : Int)), decide_eq_true (by omega : (s : Int) ≤ 4000)]
    walk_at "rd"
    refine ⟨_, .inl (SqL.of hl), .inl ⟨by omega, by omega⟩, ?_⟩
    have el : ((us.length : Nat) : Int) = (m : Int) * (s : Int) := by
      rw [hu.1, ro.len]
      exact Int.natCast_mul m s
    refine iteNS el ⟨C, dx, [], hp, X.cl, X.marks, (by decide), C, dx, _, upd_same, X.cl, X.states, (by show 1 < 1000; decide), ?_⟩
    rw [upd_upd]
    generalize hH1 : upd H p (.ins C dx (putF "states" (nV s) (putF "marks" (nV m) []))) = H1
    have t1 : Tp H H1 := by
      rw [← hH1]
      exact Tp.ins hp
    have hl1 : H1 l = some (.lst us) := by
      rw [← hH1, upd_ne npl]
      exact hl
    have hp1 : H1 p = some (.ins C dx (putF "states" (nV s) (putF "marks" (nV m) []))) := by
      rw [← hH1, upd_same]
    have sx : SameX p H H1 := fun b o hb e => by
      rw [← hH1, upd_ne hb]
      exact e
    have f1 : (putF "states" (nV s) (putF "marks" (nV m) [])).lookup ("marks" : Str) = some (nV m) := by
      rw [lookup_putF, if_neg n2, lookup_putF, if_pos rfl]
    have f2 : (putF "states" (nV s) (putF "marks" (nV m) [])).lookup ("states" : Str) = some (nV s) := by
      rw [lookup_putF, if_pos rfl]
    have f3 : (putF "states" (nV s) (putF "marks" (nV m) [])).lookup ("_is_row" : Str) = none := by
      rw [lookup_putF, if_neg (by decide +kernel), lookup_putF, if_neg (by decide +kernel)]
      rfl
    refine ⟨_, rfl, l, rfl, ⟨us, SqL.of hl1⟩, for_list (K := K) (a := l) (xs := us) (fun i σ H' => ∃ v, σ = [some (.ref p), some (nV m), some (nV s), some (.ref l), v] ∧ H' = H1) ⟨none, rfl, rfl⟩ (fun i σ H' _ ⟨_, _, e⟩ => by rw [e]; exact SqL.of hl1) ?_ ?_⟩
    · rintro i x σ H' hx ⟨v, rfl, rfl⟩
      obtain ⟨r, hr', hv⟩ := hu.of hx
      have hv1 := RowV.mono t1 x r hv
      walk_at "rd"
      cases r with
      | none =>
        have e : x = .non := hv1
        subst e
        simp
      | some r =>
        obtain ⟨t, rfl, ht⟩ := hv1
        have ok := ro.ok r (List.mem_of_getElem? hr')
        walk_at "rd"
        refine ⟨_, _, hp1, f3, p, t, dx, m, s, r, _, rfl, hp1, f1, f2, ht, ok.1, ok.2, ?_⟩
        walk_at "rd"
    · rintro σ H' ⟨v, rfl, rfl⟩
      walk_at "rd"
      refine ⟨us, .inl (SqL.of hl1), fun l' hl' => ?_⟩
      have npl' : p ≠ l' := ne_of_none hp1 hl'
      refine ⟨C, dx, _, (by rw [upd_ne npl']; exact hp1), X.cl, X.rows, (by show 2 < 1000; decide), k _ (fun b o hb e => ?_) ⟨dx, l', us, upd_same, by rw [upd_ne npl'.symm, upd_same], ?_⟩⟩
      · rw [upd_ne hb, upd_ne (ne_of_none (sx b o hb e) hl')]
        exact sx b o hb e
      · refine hu.mono (RowV.mono ((t1.trans (Tp.new hl')).trans (Tp.ins (C := C) (dx := dx) (fs := putF "states" (nV s) (putF "marks" (nV m) [])) ?_)))
        rw [upd_ne npl']
        exact hp1
/-! ### Tape.table, row, stopped -/
def spTable (C : Addr) : Sp := fun vs H Q _ => ∃ (p : Addr) (m s : Nat) (rows : List (Option Row)), vs = [.ref p] ∧ TapeAt C H p m s rows ∧ ∀ (H' : Hp) (l : Addr) (us : List V), Same H H' → H' l = some (.lst us) → All2 (RowV H') us rows → Q (.ref l) H'
theorem scTable : FnScope ["self"] ["self"] (defScope sTaTable) := ⟨rfl, rfl, rfl, by decide +kernel, rfl, by decide +kernel, by decide +kernel⟩
theorem ok_table (F : Fun K "table" "Tape.table" sTaTable f fd) (T : Bl mg) (X : TxT K C) : FnOk P w K mg base CX0 1 f fd ["self"] (spTable C) := by
  refine F.ok scTable (fun vs H Q E h => ?_) (fun cdv A outer s H vs Q E hr h => ?_)
  · obtain ⟨p, m, s, rows, rfl, _⟩ := h
    rfl
  · obtain ⟨p, m, s, rows, rfl, ⟨dx, l, us, h1, h2, h3⟩, k⟩ := h
    refine ⟨_, (pss_one (ps_ret (pe_callTy call_list_of (by rfl) T.list (by decide +kernel) (pa_cons (pe_fld (pv 0) rfl) pa_nil)))), ?_⟩
    walk_at "rd"
    refine ⟨C, dx, _, h1, X.cl, X.rows, _, tfs_rows, ?_⟩
    walk_at "rd"
    exact ⟨us, .inl (SqL.of h2), fun l' hl' => k _ l' us (same_new hl') upd_same (h3.mono (RowV.mono (Tp.new hl')))⟩
def spRow (C : Addr) : Sp := fun vs H Q _ => ∃ (p : Addr) (m s q a : Nat) (rows : List (Option Row)), vs = [.ref p, nV q, nV a] ∧ TapeAt C H p m s rows ∧ RowsOk m s rows ∧ Small m s ∧ q < s ∧ a < m ∧ ∀ v, RowV H v (rowAt m rows q a) → Q v H
theorem scRow : FnScope ["self", "state", "mark"] ["self", "state", "mark"] (defScope sTaRow) := ⟨rfl, rfl, rfl, by decide +kernel, rfl, by decide +kernel, by decide +kernel⟩
theorem ix_lt {m s q a : Nat} (hq : q < s) (ha : a < m) : q * m + a < m * s := by
  have h : (q + 1) * m ≤ s * m := Nat.mul_le_mul_right m hq
  rw [Nat.add_mul, Nat.one_mul, Nat.mul_comm s m] at h
  omega
theorem row_at {m s q a : Nat} {rows : List (Option Row)} (ro : RowsOk m s rows) (hq : q < s) (ha : a < m) : rows[q * m + a]? = some (rowAt m rows q a) := by
  have h : q * m + a < rows.length := by
    rw [ro.len]
    exact ix_lt hq ha
  unfold rowAt
  rw [List.getElem?_eq_getElem h]
  rfl
theorem ok_row (F : Fun K "row" "Tape.row" sTaRow f fd) (T : Bl mg) (X : TxT K C) (cI : Cal P w K mg base 1 "is_integer" spInteger []) : FnOk P w K mg base CX0 2 f fd ["self", "state", "mark"] (spRow C) := by
  refine F.ok scRow (fun vs H Q E h => ?_) (fun cdv A outer s H vs Q E hr h => ?_)
  · obtain ⟨p, m, s, q, a, rows, rfl, _⟩ := h
    rfl
  · obtain ⟨p, m, s, q, a, rows, rfl, ⟨dx, l, us, h1, h2, h3⟩, ro, sm, hq, ha, k⟩ := h
    refine ⟨_, (pss_cons (ps_if (PW.pt (pw_or (pt_not (pt_val (pe_c cI hr (by decide) (by rfl) (by exact (pa_cons (pv 1) (pa_cons pe_int (pa_cons (pe_op op_sub (pe_fld (pv 0) rfl) pe_int) pa_nil))))))) (pw_or1 (pt_not (pt_val (pe_c cI hr (by decide) (by rfl) (by exact (pa_cons (pv 2) (pa_cons pe_int (pa_cons (pe_op op_sub (pe_fld (pv 0) rfl) pe_int) pa_nil)))))))))) pss_never pss_nil)
      (pss_one (ps_ret (pe_ix ix_list (pe_fld (pv 0) rfl) (pe_op op_add (pe_op op_mul (pv 1) (pe_fld (pv 0) rfl)) (pv 2)) (fun _ _ => rfl))))), ?_⟩
    walk_at "rd"
    refine ⟨C, dx, _, h1, X.cl, X.states, _, tfs_states, ?_⟩
    walk_at "rd"
    refine ⟨_, _, _, rfl, ?_⟩
    rw [int1 hq]
    walk_at "rd"
    refine ⟨C, dx, _, h1, X.cl, X.marks, _, tfs_marks, ?_⟩
    walk_at "rd"
    refine ⟨_, _, _, rfl, ?_⟩
    rw [int1 ha]
    walk_at "rd"
    refine ⟨C, dx, _, h1, X.cl, X.rows, _, tfs_rows, C, dx, _, h1, X.cl, X.marks, _, tfs_marks, ?_⟩
    walk_at "rd"
    obtain ⟨v, hv, rv⟩ := h3.at (row_at ro hq ha)
    have e20 := sm.s20
    refine ⟨.inl ⟨by omega, by omega⟩, us, SqL.of h2, v, ?_, k v rv⟩
    have e : (q : Int) * (m : Int) + (a : Int) = ((q * m + a : Nat) : Int) := by rw [Int.natCast_add, Int.natCast_mul]
    rw [e]
    exact atI_nat hv
def spStopped (C : Addr) : Sp := fun vs H Q _ => ∃ (p t : Addr) (m s : Nat) (c : Cf) (rows : List (Option Row)), vs = [.ref p, .ref t] ∧ TapeAt C H p m s rows ∧ RowsOk m s rows ∧ Small m s ∧ CfAt H t c ∧ c.Ok m s ∧ Q (.bl (rowAt m rows c.q c.a).isNone) H
theorem scStopped : FnScope ["self", "configuration"] ["self", "configuration"] (defScope sTaStopped) := ⟨rfl, rfl, rfl, by decide +kernel, rfl, by decide +kernel, by decide +kernel⟩
theorem ok_stopped (F : Fun K "stopped" "Tape.stopped" sTaStopped f fd) (cR : Met P w K mg base 2 C "row" (spRow C) []) : FnOk P w K mg base CX0 3 f fd ["self", "configuration"] (spStopped C) := by
  refine F.ok scStopped (fun vs H Q E h => ?_) (fun cdv A outer s H vs Q E hr h => ?_)
  · obtain ⟨p, t, m, s, c, rows, rfl, _⟩ := h
    rfl
  · obtain ⟨p, t, m, s, c, rows, rfl, tp, ro, sm, ⟨l, r, h1, h2, h3⟩, ok, k⟩ := h
    obtain ⟨dx, lr, us, g1, g2, g3⟩ := id tp
    refine ⟨_, (pss_one (ps_ret (pe_cmp (pc_isN (pe_mt cR hr (by decide) (pv 0) (pa_cons (pe_ix ix_tup (pv 1) pe_int (fun _ _ => rfl)) (pa_cons (pe_ix ix_tup (pv 1) pe_int (fun _ _ => rfl)) pa_nil)))) rfl))), ?_⟩
    walk_at "rd"
    refine ⟨dx, _, g1, tfs_no (by decide +kernel) (by decide +kernel) (by decide +kernel), _, SqT.of h1, _, at0, _, SqT.of h1, _, at2, p, m, s, c.q, c.a, rows, rfl, tp, ro, sm, ok.q, ok.a, fun v hv => ?_⟩
    cases e : rowAt m rows c.q c.a with
    | none =>
      rw [e] at hv k
      have : v = .non := hv
      subst this
      exact k
    | some r =>
      rw [e] at hv k
      obtain ⟨b, rfl, _⟩ := hv
      exact k
/-! ### Tape._is_side, is_configuration -/
def spIsSide (C : Addr) : Sp := fun vs H Q _ => ∃ (p t : Addr) (m s : Nat) (l : List Nat) (rows : List (Option Row)), vs = [.ref p, .ref t] ∧ TapeAt C H p m s rows ∧ H t = some (.tup (l.map nV)) ∧ (∀ b ∈ l, b < m) ∧ Trm l ∧ l.length ≤ 1000 ∧ ∀ H', Same H H' → Q (.bl true) H'
theorem scIsSide : FnScope ["self", "value", "mark"] ["self", "value"] (defScope sTaIsSide) := ⟨rfl, rfl, rfl, by decide +kernel, rfl, by decide +kernel, by decide +kernel⟩
theorem ok_isSide (F : Fun K "_is_side" "Tape._is_side" sTaIsSide f fd) (T : Bl mg) (X : TxT K C) (cI : Cal P w K mg base 1 "is_integer" spInteger []) (cT : Cal P w K mg base 1 "trimmed" spTrimmed []) : FnOk P w K mg base CX0 2 f fd ["self", "value"] (spIsSide C) := by
  refine F.ok scIsSide (fun vs H Q E h => ?_) (fun cdv A outer s H vs Q E hr h => ?_)
  · obtain ⟨p, t, m, s, l, rows, rfl, _⟩ := h
    rfl
  · obtain ⟨p, t, m, s, l, rows, rfl, ⟨dx, lr, us, g1, g2, g3⟩, h1, hm, ht, hl, k⟩ := h
    refine ⟨_, (pss_cons (ps_if (PW.pt (pw_or (pt_not (pt_val (pe_callB call_isi (by rfl) T.isinstance (by decide +kernel) (pa_cons (pv 1) (pa_cons (pe_bltn (v := .ty "tuple") (by rfl) T.tuple (by decide +kernel) rfl) pa_nil))))) (pw_or1 (pt_cmpR (op_neD hr.units) (pv 1) (pe_c cT hr (by decide) (by rfl) (by exact (pa_cons (pv 1) pa_nil))) (nomark _))))) (pss_one (ps_ret pe_bl)) pss_nil)
      (pss_one (ps_ret (pe_callB (cr_all rfl) (by rfl) T.all (by decide +kernel) (pa_cons (pe_lc (own := [("mark", 2)]) (g := gName 2) (tt := tYes) (by rfl) scIsSide.nd (pi_tup (pv 1)) (blkOk_by (own := [("mark", 2)]) (N := ["self", "value", "mark"]) (sc := defScope sTaIsSide) (by decide +kernel)) (fun _ _ _ _ _ => pg_name (i := 2) scIsSide.nd rfl (Or.inl rfl)) (fun _ _ _ _ _ => by exact pts_nil) (fun _ _ _ _ _ => by exact (pe_c cI hr (by decide) (by rfl) (by exact (pa_cons (pv 2) (pa_cons pe_int (pa_cons (pe_op op_sub (show PE _ _ (tFld K (tVar 0) "marks") from pe_fld (pv 0) rfl) pe_int) pa_nil))))))) pa_nil))))), ?_⟩
    walk_at "rd"
    refine isi_tup h1 ?_
    walk_at "rd"
    refine ⟨t, l, rfl, h1, ht, hl, iD l, iD l, iD_dp h1, iD_dp h1, iD_shaped l, iD_shaped l, ?_⟩
    rw [iD_refl]
    walk_at "rd"
    refine ⟨_, rfl, t, rfl, ⟨_, SqT.of h1⟩, ?_⟩
    intro D hD
    refine lc_pure (walk_tup (xs := l.map nV)) ((List.replicate l.length true).map V.bl) (by simp) (by simp; omega) hD (fun H' q => SqT.of (q _ _ h1)) ?_ ?_
    · rintro i x y H' H'' R hy h2 ⟨rfl, hx⟩ hR
      obtain ⟨b, hb, rfl⟩ := map_at hx
      have ey : y = V.bl true := by
        have := List.mem_of_getElem? hy
        simp at this
        exact this.2
      subst ey
      walk_at "rd"
      refine ⟨C, dx, _, h2 _ _ g1, X.cl, X.marks, _, tfs_marks, ?_⟩
      walk_at "rd"
      refine ⟨_, _, _, rfl, ?_⟩
      rw [int1 (hm b (List.mem_of_getElem? hb))]
      exact hR
    · intro H1 h2 h3
      refine ⟨D, _, rfl, SqL.of h3, ?_⟩
      rw [all_true]
      exact k H1 h2
def spIsConf (C : Addr) : Sp := fun vs H Q _ => ∃ (p t : Addr) (m s : Nat) (c : Cf) (rows : List (Option Row)), vs = [.ref p, .ref t] ∧ TapeAt C H p m s rows ∧ CfAt H t c ∧ c.Ok m s ∧ c.L.length ≤ 1000 ∧ c.R.length ≤ 1000 ∧ ∀ H', Same H H' → Q (.bl true) H'
theorem scIsConf : FnScope ["self", "value"] ["self", "value"] (defScope sTaIsConf) := ⟨rfl, rfl, rfl, by decide +kernel, rfl, by decide +kernel, by decide +kernel⟩
theorem ok_isConf (F : Fun K "is_configuration" "Tape.is_configuration" sTaIsConf f fd) (T : Bl mg) (X : TxT K C) (cI : Cal P w K mg base 1 "is_integer" spInteger []) (cS : Met P w K mg base 2 C "_is_side" (spIsSide C) []) : FnOk P w K mg base CX0 3 f fd ["self", "value"] (spIsConf C) := by
  refine F.ok scIsConf (fun vs H Q E h => ?_) (fun cdv A outer s H vs Q E hr h => ?_)
  · obtain ⟨p, t, m, s, c, rows, rfl, _⟩ := h
    rfl
  · obtain ⟨p, t, m, s, c, rows, rfl, tp, ⟨l, r, h1, h2, h3⟩, ok, lL, lR, k⟩ := h
    obtain ⟨dx, lr, us, g1, g2, g3⟩ := id tp
    have nS : (tfs m s lr).lookup ("_is_side" : Str) = none := tfs_no (by decide +kernel) (by decide +kernel) (by decide +kernel)
    refine ⟨_, (pss_cons (ps_if (PW.pt (pw_or (pt_not (pt_val (pe_callB call_isi (by rfl) T.isinstance (by decide +kernel) (pa_cons (pv 1) (pa_cons (pe_bltn (v := .ty "tuple") (by rfl) T.tuple (by decide +kernel) rfl) pa_nil))))) (pw_or1 (pt_cmpR op_ne (pe_callB call_len_seq (by rfl) T.len PySem.boot_len (pa_cons (pv 1) pa_nil)) pe_int (nomark _))))) (pss_one (ps_ret pe_bl)) pss_nil)
      (pss_cons (ps_if (PW.pt (pw_or (pt_not (pt_val (pe_c cI hr (by decide) (by rfl) (by exact (pa_cons (pe_ix ix_tup (pv 1) pe_int (fun _ _ => rfl)) (pa_cons pe_int (pa_cons (pe_op op_sub (pe_fld (pv 0) rfl) pe_int) pa_nil))))))) (pw_or1 (pt_not (pt_val (pe_c cI hr (by decide) (by rfl) (by exact (pa_cons (pe_ix ix_tup (pv 1) pe_int (fun _ _ => rfl)) (pa_cons pe_int (pa_cons (pe_op op_sub (pe_fld (pv 0) rfl) pe_int) pa_nil)))))))))) (pss_one (ps_ret pe_bl)) pss_nil)
      (pss_one (ps_ret (pe_and (pe_mt cS hr (by decide) (pv 0) (pa_cons (pe_ix ix_tup (pv 1) pe_int (fun _ _ => rfl)) pa_nil)) (pe_one (pe_mt cS hr (by decide) (pv 0) (pa_cons (pe_ix ix_tup (pv 1) pe_int (fun _ _ => rfl)) pa_nil)))))))), ?_⟩
    walk_at "rd"
    refine isi_tup h1 ?_
    walk_at "rd"
    refine ⟨_, .inr (SqT.of h1), iteNS rfl ⟨_, SqT.of h1, _, at0, _, _, _, g1, X.cl, X.states, _, tfs_states, ?_⟩⟩
    walk_at "rd"
    refine ⟨_, _, _, rfl, ?_⟩
    rw [int1 ok.q]
    walk_at "rd"
    refine ⟨_, SqT.of h1, _, at2, _, _, _, g1, X.cl, X.marks, _, tfs_marks, ?_⟩
    walk_at "rd"
    refine ⟨_, _, _, rfl, ?_⟩
    rw [int1 ok.a]
    walk_at "rd"
    refine ⟨_, _, g1, nS, _, SqT.of h1, _, at1, p, l, m, s, c.L, rows, rfl, tp, h2, ok.L, ok.tL, lL, fun H1 s1 => ?_⟩
    walk_at "rd"
    refine ⟨_, _, s1 _ _ g1, nS, _, SqT.of (s1 _ _ h1), _, at3, p, r, m, s, c.R, rows, rfl, tp.mono s1, s1 _ _ h3, ok.R, ok.tR, lR, fun H2 s2 => ?_⟩
    exact k H2 (s1.trans s2)
end
end K68
end
section
open PySem L2 TL
open C8 (Cal CalAt Met Mak pe_c pe_mk pe_mt pe_mt0 pe_cv pe_gc pss_cut tCallV tCut)
local macro_rules | `(tactic| walk_at "rd") => `(tactic| simp only [K68.cx_K, wipe, tYes, rIxT, rIxL, tRet, tRetN, tAndV, tOrV, tCB, tCons, tNil, tVar, tC, tNotV, tChain, rI0, rI, rU, tUn, tOp, L2.start, tSeq, tAsg, gName, tIfS, tTest, tDrop, tTup, tLst, tNext, tBreak, tCont, tB, tNot, tAnd, tOr, tIf, tCall, tMeth, tFld, tCut, tIsN, tNotN, tCmp, t2I, tJs, tFmt, K68.rEq_str, K68.rNe_str, K68.rEq_int, K68.rNe_int, decide_eq_true_eq, and_assoc, tPar, gTup, gCons, gNil, tCallV, tMake, tSl, tPart, tNoPart, tBM, tBM0, tM0, tM1, sFld,
  List.map, List.replicate, List.length_cons, List.length_nil, List.cons_append, List.nil_append, List.append_nil, List.set_cons_zero, List.set_cons_succ, List.getElem?_cons_zero, List.getElem?_cons_succ, Nat.zero_add, Nat.sub_self, Nat.reduceAdd, Nat.reduceSub,
  Option.some.injEq, exists_eq_left', exists_eq_left, exists_and_left, exists_false, V.int.injEq, V.bl.injEq, V.str.injEq, V.ref.injEq, List.cons.injEq, if_true, if_false, Bool.false_eq_true, true_and, and_true, false_and, and_false, false_or, or_false, decide_true, decide_false, Bool.and_self, Bool.and_true, Bool.true_and, tNever, Bool.not_true, Bool.not_false, reduceIte, reduceCtorEq])
local macro_rules | `(tactic| walk_at "tx") => `(tactic| simp only [K68.S_eq, Int.natCast_eq_zero, K68.e_nil, K68.e_nil', K68.e_open, K68.e_close, K68.e_left, K68.e_right, K68.e_zero, K68.e_zeroR, K68.e_digits, K68.S_num, K68.S_app, K68.S_len, List.cons_append, List.nil_append, List.append_assoc, List.length_append, List.length_cons, List.length_nil, List.cons.injEq, and_true, K68.line_])
namespace K68
section
variable {P : Program} {w : World} {K : PySem.W.Frag} {mg : Str → Option Value} {base : Heap} {f : Addr} {fd : FuncData} {C : Addr}
/-! ### _rules_of -/
def spRulesOf (CT : Addr) : Sp := fun vs H Q _ => ∃ (p : Addr) (m s : Nat) (rows : List (Option Row)), vs = [.ref p] ∧ TapeAt CT H p m s rows ∧ RowsOk m s rows ∧ Small m s ∧
  ∀ (H' : Hp) (l : Addr) (us : List V), Same H H' → H' l = some (.lst us) → All2 (RuleV H') us (rulesOf m s rows) → Q (.ref l) H'
theorem scRulesOf : FnScope ["machine", "digits", "rules", "state", "mark", "row", "make", "left", "right"] ["machine"] (defScope sRulesOf) := ⟨rfl, rfl, rfl, by decide +kernel, rfl, by decide +kernel, by decide +kernel⟩
abbrev sV (c : Nat) : V := .str (S [c])
abbrev dV (m : Nat) : List V := ((List.range m).map dg).map sV
/-- since G nothing but the list at L has changed, which holds the rules done -/
def HJ (G : Hp) (L : Addr) (n : Nat) (done : List Rl) (H' : Hp) : Prop := SameX L G H' ∧ ∃ us, H' L = some (.lst us) ∧ All2 (RuleV H') us done ∧ us.length ≤ n
section
variable {G G' H H' : Hp} {D L p t : Addr} {m n n' : Nat} {done : List Rl} {o : HO}
theorem HJ.new (h : HJ G L n done H') (hp : H' p = none) : HJ G L n done (upd H' p o) := by
  obtain ⟨h1, us, h3, h4, h5⟩ := h
  exact ⟨fun b u hb e => same_new hp _ _ (h1 b u hb e), us, same_new hp _ _ h3, h4.mono (RuleV.mono (Tp.new hp)), h5⟩
theorem HJ.le (h : HJ G L n done H') (e : n ≤ n') : HJ G L n' done H' := by
  obtain ⟨h1, us, h3, h4, h5⟩ := h
  exact ⟨h1, us, h3, h4, Nat.le_trans h5 e⟩
theorem HJ.here (h : HJ G L n done H') : HJ H' L n done H' := ⟨fun _ _ _ e => e, h.2⟩
theorem HJ.back (h : HJ G' L n done H') (k : SameX L G G') : HJ G L n done H' := ⟨fun b u hb e => h.1 b u hb (k b u hb e), h.2⟩
theorem HJ.same (h : HJ G L n done H') (s : Same H G) (hL : H L = none) : Same H H' := fun b u e => h.1 b u (ne_of_none e hL) (s b u e)
theorem HJ.app (h : HJ G L n done H') {z : Rl} (ht : H' t = some (.tup [.str (S z.1), .str (S z.2)])) {us : List V} (hu : H' L = some (.lst us)) : us.length ≤ n ∧ HJ G L (n + 1) (done ++ [z]) (upd H' L (.lst (us ++ [.ref t]))) := by
  obtain ⟨h1, us', h3, h4, h5⟩ := h
  rw [hu] at h3
  injection h3 with h3
  injection h3 with h3
  subst h3
  refine ⟨h5, fun b u hb e => by rw [upd_ne hb]; exact h1 b u hb e, _, upd_same, ?_, by rw [List.length_append]; exact Nat.succ_le_succ h5⟩
  refine (h4.mono (RuleV.mono (Tp.lst hu))).snoc ⟨t, rfl, ?_⟩
  exact Tp.lst hu _ _ ht
end
theorem old_text {l q a r : Nat} (ha : a < 10) : S [l] ++ S (sgn q) ++ Str.ofString (toString ((a : Nat) : Int)) ++ S [r] = S (old l q a r) := by
  rw [S_num, S_app, S_app, S_app, numL_lt ha]
  unfold sgn old
  simp
theorem lefts_V (m : Nat) : [V.str (Str.ofString "[")] ++ dV m = (lefts m).map sV := by
  rw [e_left]
  rfl
theorem rights_V (m : Nat) : dV m ++ [V.str (Str.ofString "]")] = (rights m).map sV := by
  rw [e_right]
  simp [rights]
theorem sV_at {l : List Nat} {i : Nat} {v : V} (h : (l.map sV)[i]? = some v) : ∃ c, l[i]? = some c ∧ v = sV c := by
  rw [List.getElem?_map] at h
  cases e : l[i]? with
  | none =>
    rw [e] at h
    cases h
  | some n =>
    rw [e] at h
    exact ⟨n, rfl, (Option.some.inj h).symm⟩
theorem ok_rulesOf {fR fL : Addr} (F : Fun K "_rules_of" "_rules_of" sRulesOf f fd) (T : Bl mg) (X : TxT K C) (cR : Met P w K mg base 2 C "row" (spRow C) []) (cS : Cal P w K mg base 1 "_sign" spSign [])
    (gR : mg "_right" = some (.ref fR)) (gL : mg "_left" = some (.ref fL)) (aR : CalAt P w K mg base 2 fR (spSide newR)) (aL : CalAt P w K mg base 2 fL (spSide newL)) : FnOk P w K mg base CX0 3 f fd ["machine"] (spRulesOf C) := by
  refine F.ok scRulesOf (fun vs H Q E h => ?_) (fun cdv A outer s H vs Q E hr h => ?_)
  · obtain ⟨p, m, s, rows, rfl, _⟩ := h
    rfl
  · obtain ⟨p, m, s, rows, rfl, tp, ro, sm, k⟩ := h
    refine ⟨_, (pss_cons (ps_setLc (i := 1) (own := [("mark", 4)]) (g := gName 4) (tt := tYes) (by rfl) scRulesOf.nd rfl rfl (sw_true rfl rfl rfl (by decide +kernel)) (pi_range1 rfl T.range (pa_cons (pe_fld (pv 0) rfl) pa_nil)) (blkOk_by (own := [("mark", 4)]) (N := ["machine", "digits", "rules", "state", "mark", "row", "make", "left", "right"]) (sc := defScope sRulesOf) (by decide +kernel)) (fun _ _ _ _ _ => pg_name (i := 4) scRulesOf.nd rfl (Or.inl rfl)) (fun _ _ _ _ _ => by exact pts_nil) (fun _ _ _ _ _ => by exact (pe_callTy call_str_int (by rfl) T.str (by decide +kernel) (pa_cons (pv 4) pa_nil))))
      (pss_cons (ps_set (i := 2) scRulesOf.nd rfl (.inl rfl) (pe_lst pa_nil))
      (pss_cons (ps_for PassesOwn.never rfl (pi_range1 rfl T.range (pa_cons (pe_fld (pv 0) rfl) pa_nil)) (pg_name (i := 3) scRulesOf.nd rfl (.inl rfl)) (pss_one (ps_for PassesOwn.never rfl (pi_range1 rfl T.range (pa_cons (pe_fld (pv 0) rfl) pa_nil)) (pg_name (i := 4) scRulesOf.nd rfl (.inl rfl)) (pss_cons (ps_set (i := 5) scRulesOf.nd rfl (.inl rfl) (pe_mt cR hr (by decide) (pv 0) (pa_cons (pv 3) (pa_cons (pv 4) pa_nil))))
      (pss_cons (ps_if (pt_cmp (pc_isN (pv 5)) rfl) (pss_one ps_continue) pss_nil)
      (pss_cut (ps_set (i := 6) scRulesOf.nd rfl (.inl rfl) (pe_ifExp (pt_cmpR op_eq (pe_ix ix_tup (pv 5) pe_int (fun _ _ => rfl)) pe_int (nomark _)) (pe_gc (v := .ref fR) (by rfl) ⟨_, gR, rfl⟩) (pe_gc (v := .ref fL) (by rfl) ⟨_, gL, rfl⟩)))
      (pss_one (ps_for PassesOwn.never rfl (pi_list (pe_op op_cat (pe_lst (pa_cons pe_str pa_nil)) (pv 1))) (pg_name (i := 7) scRulesOf.nd rfl (.inl rfl)) (pss_one (ps_for PassesOwn.never rfl (pi_list (pe_op op_cat (pv 1) (pe_lst (pa_cons pe_str pa_nil)))) (pg_name (i := 8) scRulesOf.nd rfl (.inl rfl)) (pss_one (ps_expr (pe_bm PySem.F.plainAttrs_list PySem.F.slot_list_append PySem.F.type_list_append mt_append (pv 2) (pa_cons (pe_tup (pa_cons (pe_op op_add_str (pe_op op_add_str (pe_op op_add_str (pv 7) (pe_c cS hr (by decide) (by rfl) (by exact (pa_cons (pv 3) pa_nil)))) (pe_callTy call_str_int (by rfl) T.str (by decide +kernel) (pa_cons (pv 4) pa_nil))) (pv 8)) (pa_cons (pe_cv (i := 6) aR aL hr (by decide) (by decide) rfl (.inl rfl) (pa_cons (pv 7) (pa_cons (pv 5) (pa_cons (pv 8) pa_nil)))) pa_nil))) pa_nil))))))))))))))
      (pss_one (ps_ret (pv 2)))))), ?_⟩
    obtain ⟨dx, lr, us0, g1, g2, g3⟩ := id tp
    have e10 := sm.m10
    have e20 := sm.s20
    walk_at "rd"
    refine ⟨_, rfl, p, C, dx, _, _, rfl, g1, X.cl, X.marks, tfs_marks, (m : Int), rfl, by omega, by omega, ?_⟩
    intro D hD
    refine lc_pure (walk_range (lo := 0)) (dV m) (by simp) (by omega) hD (fun _ _ => trivial) ?_ ?_
    · rintro i x y H' H'' R hy h2 ⟨rfl, rfl⟩ hR
      have hi : i < m := by
        have := (List.getElem?_eq_some_iff.mp hy).1
        simpa using this
      have ey : y = sV (dg i) := by
        have : (dV m)[i]? = some (sV (dg i)) := by simp [hi]
        rw [hy] at this
        exact Option.some.inj this
      subst ey
      walk_at "rd"
      rw [Int.zero_add]
      refine ⟨small_log (by omega), ?_⟩
      rw [S_num, numL_lt (by omega)]
      exact hR
    · intro H1 s1 hD1
      refine ⟨Nat.zero_le _, fun L hL => ?_⟩
      have hL0 : H L = none := s1.free hL
      have hDL : D ≠ L := ne_of_none hD1 hL
      generalize hG : upd H1 L (.lst []) = G
      have sG : Same H G := by
        rw [← hG]
        exact same_add s1 hL
      have hDG : G D = some (.lst (dV m)) := by
        rw [← hG]
        exact same_new hL _ _ hD1
      have J0 : HJ G L 0 [] G := ⟨fun _ _ _ e => e, [], by rw [← hG, upd_same], All2.nil, Nat.le_refl _⟩
      refine ⟨_, rfl, p, C, dx, _, _, rfl, sG _ _ g1, X.cl, X.states, tfs_states, (s : Int), rfl, by omega, by omega, ?_⟩
      refine for_range (lo := 0) (fun i σ H' => ∃ a b c d e g, σ = [some (.ref p), some (.ref D), some (.ref L), a, b, c, d, e, g] ∧ HJ G L (1210 * i) ((List.range i).flatMap (rulesQ m rows)) H')
        ⟨_, _, _, _, _, _, rfl, J0⟩ ?_ ?_
      · rintro q σ H2 hq ⟨a, b, c, d, e, g, rfl, I2⟩
        have hq' : q < s := by omega
        refine ⟨_, rfl, p, C, dx, _, _, rfl, I2.same sG hL0 _ _ g1, X.cl, X.marks, tfs_marks, (m : Int), rfl, by omega, by omega, ?_⟩
        refine for_range (lo := 0) (fun j σ H' => ∃ b c d e g, σ = [some (.ref p), some (.ref D), some (.ref L), some (nV q), b, c, d, e, g] ∧ HJ G L (1210 * q + 121 * j) ((List.range q).flatMap (rulesQ m rows) ++ (List.range j).flatMap (rulesA m rows q)) H')
          ⟨b, c, d, e, g, by rw [Int.zero_add]; rfl, by simpa using I2⟩ ?_ ?_
        · rintro j σ H3 hj ⟨b, c, d, e, g, rfl, I3⟩
          have hj' : j < m := by omega
          have s3 : Same H H3 := I3.same sG hL0
          walk_at "rd"
          simp only [Int.zero_add]
          refine ⟨dx, _, s3 _ _ g1, tfs_no (by decide +kernel) (by decide +kernel) (by decide +kernel), p, m, s, q, j, rows, rfl, tp.mono s3, ro, sm, hq', hj', fun v hv => ?_⟩
          have hsn : (List.range (j + 1)).flatMap (rulesA m rows q) = (List.range j).flatMap (rulesA m rows q) ++ rulesA m rows q j := by
            rw [List.range_succ, List.flatMap_append, List.flatMap_singleton]
          cases hrow : rowAt m rows q j with
          | none =>
            rw [hrow] at hv
            have ev : v = .non := hv
            subst ev
            refine iteP rfl ?_
            rw [hsn, show rulesA m rows q j = [] by unfold rulesA; rw [hrow], List.append_nil]
            exact I3.le (by omega)
          | some r =>
            rw [hrow] at hv
            obtain ⟨rb, rfl, hrb⟩ := hv
            have rok : r.1 < m ∧ r.2.2 < s := ro.ok r (by
              have := row_at ro hq' hj'
              rw [hrow] at this
              exact List.mem_of_getElem? this)
            refine iteN (by simp) ⟨fun σ' H' => ∃ fM, ((fM = fR ∧ r.2.1 = true) ∨ (fM = fL ∧ r.2.1 = false)) ∧ σ' = [some (.ref p), some (.ref D), some (.ref L), some (nV q), some (nV j), some (.ref rb), some (.ref fM), e, g] ∧ H' = H3, ?_, ?_⟩
            · refine ⟨_, rfl, _, SqT.of hrb, _, at1, ?_⟩
              walk_at "rd"
              cases hmv : r.2.1
              · simp only [mvI, if_true, if_false, Bool.false_eq_true, (by decide : ¬ ((-1 : Int) = 1))]
                exact ⟨fL, .inr ⟨rfl, trivial⟩, rfl⟩
              · simp only [mvI, if_true]
                exact ⟨fR, .inl ⟨rfl, trivial⟩, rfl⟩
            · rintro σ' H' ⟨fM, hfM, rfl, rfl⟩
              rw [hsn, show rulesA m rows q j = rulesR m q j r by unfold rulesA; rw [hrow]]
              have nL3 : ∀ x, H' L ≠ some (.tup x) := fun x z => by
                obtain ⟨_, us, hu, _⟩ := I3
                rw [hu] at z
                cases z
              have rbL : rb ≠ L := fun z => nL3 _ (z ▸ hrb)
              generalize hB : 1210 * q + 121 * j = B at I3
              generalize hdone : (List.range q).flatMap (rulesQ m rows) ++ (List.range j).flatMap (rulesA m rows q) = done at I3
              have hnew : ∀ x y, (r.2.1 = true → newR x r.1 r.2.2 y = new r x y) ∧ (r.2.1 = false → newL x r.1 r.2.2 y = new r x y) := fun x y => ⟨fun z => by unfold new; rw [if_pos z], fun z => by unfold new; rw [if_neg (by rw [z]; decide)]⟩
              have w10 : r.1 < 10 := by omega
              have t9 : r.2.2 < 10 ^ 9 := by omega
              have q9 : q < 10 ^ 9 := by omega
              have j10 : j < 10 := by omega
              refine ⟨(by show 1 ≤ sizeLine; decide), fun p1 hp1 => ?_⟩
              refine ⟨_, rfl, p1, D, _, _, rfl, rfl, upd_same, same_new hp1 _ _ (I3.1 _ _ hDL hDG), (by rw [line_]; simp; omega), fun p2 hp2 => ?_⟩
              refine ⟨p2, rfl, ⟨_, SqL.of upd_same⟩, ?_⟩
              rw [lefts_V]
              have I4 : HJ G L B done (upd (upd H' p1 (.lst [V.str (Str.ofString "[")])) p2 (.lst ((lefts m).map sV))) := (I3.new hp1).new hp2
              have h4p : upd (upd H' p1 (.lst [V.str (Str.ofString "[")])) p2 (.lst ((lefts m).map sV)) p2 = some (.lst ((lefts m).map sV)) := upd_same
              have h4r : upd (upd H' p1 (.lst [V.str (Str.ofString "[")])) p2 (.lst ((lefts m).map sV)) rb = some (.tup [nV r.1, .int (mvI r.2.1), nV r.2.2]) := same_new hp2 _ _ (same_new hp1 _ _ hrb)
              have np2 : p2 ≠ L := by
                obtain ⟨_, us, hu, _⟩ := I3.new (o := .lst [V.str (Str.ofString "[")]) hp1
                exact (ne_of_none hu hp2).symm
              generalize upd (upd H' p1 (.lst [V.str (Str.ofString "[")])) p2 (.lst ((lefts m).map sV)) = H4 at I4 h4p h4r ⊢
              have h4D : H4 D = some (.lst (dV m)) := I4.1 _ _ hDL hDG
              refine for_list (K := K) (a := p2) (xs := (lefts m).map sV) (fun i σ H' => ∃ e g, σ = [some (.ref p), some (.ref D), some (.ref L), some (nV q), some (nV j), some (.ref rb), some (.ref fM), e, g] ∧ HJ H4 L (B + 11 * i) (done ++ ((lefts m).take i).flatMap fun x => (rights m).map fun y => (old x q j y, new r x y)) H') ⟨_, _, rfl, by simpa using I4.here⟩ (fun i σ H' _ ⟨_, _, _, I⟩ => SqL.of (I.1 p2 _ np2 h4p)) ?_ ?_
              · rintro i x σ H5 hx ⟨e, g, rfl, I5⟩
                obtain ⟨lx, hlx, rfl⟩ := sV_at hx
                refine ⟨_, rfl, (by show 1 ≤ sizeLine; decide), fun p3 hp3 => ?_⟩
                refine ⟨D, p3, _, _, rfl, rfl, same_new hp3 _ _ (I5.1 _ _ hDL h4D), upd_same, (by rw [line_]; simp; omega), fun p4 hp4 => ?_⟩
                refine ⟨p4, rfl, ⟨_, SqL.of upd_same⟩, ?_⟩
                rw [rights_V]
                generalize hdn : done ++ ((lefts m).take i).flatMap (fun x => (rights m).map fun y => (old x q j y, new r x y)) = done' at I5
                have I6 : HJ H4 L (B + 11 * i) done' (upd (upd H5 p3 (.lst [V.str (Str.ofString "]")])) p4 (.lst ((rights m).map sV))) := (I5.new hp3).new hp4
                have h6p : upd (upd H5 p3 (.lst [V.str (Str.ofString "]")])) p4 (.lst ((rights m).map sV)) p4 = some (.lst ((rights m).map sV)) := upd_same
                have h6r : upd (upd H5 p3 (.lst [V.str (Str.ofString "]")])) p4 (.lst ((rights m).map sV)) rb = some (.tup [nV r.1, .int (mvI r.2.1), nV r.2.2]) := same_new hp4 _ _ (same_new hp3 _ _ (I5.1 _ _ rbL h4r))
                have np4 : p4 ≠ L := by
                  obtain ⟨_, us, hu, _⟩ := I5.new (o := .lst [V.str (Str.ofString "]")]) hp3
                  exact (ne_of_none hu hp4).symm
                generalize upd (upd H5 p3 (.lst [V.str (Str.ofString "]")])) p4 (.lst ((rights m).map sV)) = H6 at I6 h6p h6r ⊢
                refine for_list (K := K) (a := p4) (xs := (rights m).map sV) (fun k σ H' => ∃ g, σ = [some (.ref p), some (.ref D), some (.ref L), some (nV q), some (nV j), some (.ref rb), some (.ref fM), some (sV lx), g] ∧ HJ H6 L (B + 11 * i + k) (done' ++ ((rights m).take k).map fun y => (old lx q j y, new r lx y)) H') ⟨_, rfl, by simpa using I6.here⟩ (fun i σ H' _ ⟨_, _, I⟩ => SqL.of (I.1 p4 _ np4 h6p)) ?_ ?_
                · rintro k y σ H7 hy ⟨g, rfl, I7⟩
                  obtain ⟨ry, hry, rfl⟩ := sV_at hy
                  walk_at "rd"
                  obtain ⟨_, us7, hu7, _⟩ := id I7
                  have hs := sgn_len q9
                  have hn : (numL j).length = 1 := by
                    rw [numL_lt j10]
                    rfl
                  have hi : i < m + 1 := by
                    rw [← lefts_len m]
                    exact (List.getElem?_eq_some_iff.mp hlx).1
                  have hk : k < m + 1 := by
                    rw [← rights_len m]
                    exact (List.getElem?_eq_some_iff.mp hry).1
                  refine ⟨.inl ⟨rfl, _, SqL.of hu7⟩, q, rfl, q9, _, rfl, by walk_at "tx"; omega, small_log (by omega), by walk_at "tx"; omega, by walk_at "tx"; omega, ?_⟩
                  rw [old_text j10]
                  have h7r := I7.1 _ _ rbL h6r
                  rcases hfM with ⟨e1, e2⟩ | ⟨e1, e2⟩
                  · refine .inl ⟨e1, lx, ry, rb, r, rfl, h7r, w10, t9, ?_⟩
                    rw [(hnew lx ry).1 e2]
                    refine ⟨(by show 2 ≤ sizeLine; decide), fun t ht => ?_⟩
                    obtain ⟨hlen, I8⟩ := (I7.new (o := .tup [V.str (S (old lx q j ry)), V.str (S (new r lx ry))]) ht).app (z := (old lx q j ry, new r lx ry)) upd_same (same_new ht _ _ hu7)
                    refine ⟨L, us7, _, rfl, rfl, same_new ht _ _ hu7, by rw [line_]; omega, ?_⟩
                    rw [take_snoc hry, List.map_append, List.map_singleton, ← List.append_assoc]
                    exact I8
                  · refine .inr ⟨e1, lx, ry, rb, r, rfl, h7r, w10, t9, ?_⟩
                    rw [(hnew lx ry).2 e2]
                    refine ⟨(by show 2 ≤ sizeLine; decide), fun t ht => ?_⟩
                    obtain ⟨hlen, I8⟩ := (I7.new (o := .tup [V.str (S (old lx q j ry)), V.str (S (new r lx ry))]) ht).app (z := (old lx q j ry, new r lx ry)) upd_same (same_new ht _ _ hu7)
                    refine ⟨L, us7, _, rfl, rfl, same_new ht _ _ hu7, by rw [line_]; omega, ?_⟩
                    rw [take_snoc hry, List.map_append, List.map_singleton, ← List.append_assoc]
                    exact I8
                · rintro σ H7 ⟨g, rfl, I7⟩
                  refine ⟨_, _, rfl, ?_⟩
                  rw [List.length_map, List.take_length, rights_len, ← hdn] at I7
                  rw [take_snoc hlx, List.flatMap_append, List.flatMap_singleton, ← List.append_assoc]
                  exact (I7.back I6.1).le (by omega)
              · rintro σ H5 ⟨e, g, rfl, I5⟩
                rw [List.length_map, List.take_length, lefts_len] at I5
                refine ⟨_, _, _, _, _, rfl, ?_⟩
                rw [← List.append_assoc, hdone]
                exact (I5.back I4.1).le (by omega)
        · rintro σ H3 ⟨b, c, d, e, g, rfl, I3⟩
          refine ⟨_, _, _, _, _, _, rfl, ?_⟩
          rw [List.range_succ, List.flatMap_append, List.flatMap_singleton]
          rw [Int.toNat_natCast] at I3
          exact I3.le (by omega)
      · rintro σ H2 ⟨a, b, c, d, e, g, rfl, I2⟩
        rw [Int.toNat_natCast] at I2
        have h1 := I2.same sG hL0
        obtain ⟨_, us, h3, h4, h5⟩ := I2
        exact ⟨_, rfl, k H2 L us h1 h3 h4⟩
end
end K68
end
section
open PySem L2 TL
open C8 (Cal CalAt Met Mak pe_c pe_mk pe_mt pe_mt0 pe_cv pe_gc pss_cut tCallV tCut)
local macro_rules | `(tactic| walk_at "rd") => `(tactic| simp only [K68.cx_K, wipe, tYes, rIxT, rIxL, tRet, tRetN, tAndV, tOrV, tCB, tCons, tNil, tVar, tC, tNotV, tChain, rI0, rI, rU, tUn, tOp, L2.start, tSeq, tAsg, gName, tIfS, tTest, tDrop, tTup, tLst, tNext, tBreak, tCont, tB, tNot, tAnd, tOr, tIf, tCall, tMeth, tFld, tCut, tIsN, tNotN, tCmp, t2I, tJs, tFmt, K68.rEq_str, K68.rNe_str, K68.rEq_int, K68.rNe_int, decide_eq_true_eq, and_assoc, tPar, gTup, gCons, gNil, tCallV, tMake, tSl, tPart, tNoPart, tBM, tBM0, tM0, tM1, sFld,
  List.map, List.replicate, List.length_cons, List.length_nil, List.cons_append, List.nil_append, List.append_nil, List.set_cons_zero, List.set_cons_succ, List.getElem?_cons_zero, List.getElem?_cons_succ, Nat.zero_add, Nat.sub_self, Nat.reduceAdd, Nat.reduceSub,
  Option.some.injEq, exists_eq_left', exists_eq_left, exists_and_left, exists_false, V.int.injEq, V.bl.injEq, V.str.injEq, V.ref.injEq, List.cons.injEq, if_true, if_false, Bool.false_eq_true, true_and, and_true, false_and, and_false, false_or, or_false, decide_true, decide_false, Bool.and_self, Bool.and_true, Bool.true_and, tNever, Bool.not_true, Bool.not_false, reduceIte, reduceCtorEq])
local macro_rules | `(tactic| walk_at "tx") => `(tactic| simp only [K68.S_eq, Int.natCast_eq_zero, K68.e_nil, K68.e_nil', K68.e_open, K68.e_close, K68.e_left, K68.e_right, K68.e_zero, K68.e_zeroR, K68.e_digits, K68.S_num, K68.S_app, K68.S_len, List.cons_append, List.nil_append, List.append_assoc, List.length_append, List.length_cons, List.length_nil, List.cons.injEq, and_true, K68.line_])
namespace K68
/-! ### find, by lists -/
section
variable {x y : List Nat} {k k0 : Nat}
theorem at_oc (hy : y ≠ []) : PySem.StrLaws.At (S x) (S y) (S x).length k ↔ Oc x y k := by
  rw [at_iff (x := S x) (y := S y) hy]
  show pre y (x.drop k) = true ↔ Oc x y k
  unfold pre
  rw [beq_iff_eq]
  constructor
  · intro h
    have hk : k ≤ x.length := by
      rcases Nat.lt_or_ge x.length k with z | z
      · rw [List.drop_eq_nil_of_le (by omega)] at h
        rw [List.take_nil] at h
        exact absurd h.symm hy
      · exact z
    refine ⟨x.take k, (x.drop k).drop y.length, ?_, by rw [List.length_take]; omega⟩
    have e : y ++ (x.drop k).drop y.length = x.drop k := by
      rw [← h, List.length_take]
      have : min y.length (x.drop k).length = y.length := by
        have := congrArg List.length h
        rw [List.length_take] at this
        exact this
      rw [this]
      exact List.take_append_drop _ _
    rw [e, List.take_append_drop]
  · rintro ⟨u, v, rfl, rfl⟩
    rw [List.drop_left, List.take_left]
theorem find_none (hy : y ≠ []) (h : ∀ k, ¬ Oc x y k) : PySem.Txt.find (S x) (S y) = -1 := by
  rcases PyProof.Rows.find_whole (S x) (S y) with ⟨e, _⟩ | ⟨i, _, a, _⟩
  · exact e
  · exact absurd ((at_oc hy).mp a) (h i)
theorem find_at (hy : y ≠ []) (h0 : Oc x y k0) (h : ∀ k, Oc x y k → k = k0) : PySem.Txt.find (S x) (S y) = (k0 : Int) := by
  rcases PyProof.Rows.find_whole (S x) (S y) with ⟨_, n⟩ | ⟨i, e, a, _⟩
  · exact absurd ((at_oc hy).mpr h0) (n k0)
  · rw [e, h i ((at_oc hy).mp a)]
theorem find3_past (hy : y ≠ []) (h : ∀ k, Oc x y k → k = k0) : PySem.Txt.find3 (S x) (S y) ((k0 : Int) + 1) = -1 := by
  unfold PySem.Txt.find3
  have ef : PySem.fromIndex (S x).length ((k0 : Int) + 1) = k0 + 1 := by
    unfold PySem.fromIndex
    rw [if_neg (by omega)]
    omega
  rw [ef]
  rcases PySem.StrLaws.occ_head_from (S x) (S y) (k0 + 1) 1 (Nat.le_refl 1) with ⟨e, _⟩ | ⟨i, r, _, hlo, a, _⟩
  · rw [e]
  · have := h i ((at_oc hy).mp a)
    omega
end
section
variable {P : Program} {w : World} {K : PySem.W.Frag} {mg : Str → Option Value} {base : Heap} {f : Addr} {fd : FuncData} {C : Addr}
/-! ### Rules.__init__ -/
def spRuInit (C : Addr) : Sp := fun vs H Q _ => ∃ (p l dx : Addr) (rs : List Rl) (us : List V), vs = [.ref p, .ref l] ∧ H p = some (.ins C dx []) ∧ H l = some (.lst us) ∧ All2 (RuleV H) us rs ∧ rs.length ≤ 20000 ∧ (∀ z ∈ rs, z.1 ≠ []) ∧
  ∀ H', SameX p H H' → RulesAt C H' p rs → Q .non H'
theorem scRuInit : FnScope ["self", "rules", "rule"] ["self", "rules"] (defScope sRuInit) := ⟨rfl, rfl, rfl, by decide +kernel, rfl, by decide +kernel, by decide +kernel⟩
theorem ok_ruInit (F : Fun K "__init__" "Rules.__init__" sRuInit f fd) (T : Bl mg) (X : TxR K C) (cI : Cal P w K mg base 1 "_is_rule" spIsRule []) (g1 : ∃ t, mg "MOST_RULES" = some (.int 20000 t)) : FnOk P w K mg base CX0 2 f fd ["self", "rules"] (spRuInit C) := by
  refine F.ok scRuInit (fun vs H Q E h => ?_) (fun cdv A outer s H vs Q E hr h => ?_)
  · obtain ⟨p, l, dx, rs, us, rfl, _⟩ := h
    rfl
  · obtain ⟨p, l, dx, rs, us, rfl, hp, hl, hu, hn, hne, k⟩ := h
    obtain ⟨t1, g1⟩ := g1
    have npl : l ≠ p := ne_of hl hp (by intro q; cases q)
    refine ⟨_, (pss_cons (ps_if (PW.pt (pw_or (pt_cmpR op_gt (pe_callB call_len_seq (by rfl) T.len PySem.boot_len (pa_cons (pv 1) pa_nil)) (pe_gc (v := .int 20000) (by rfl) ⟨_, g1, _, rfl⟩) (nomark _)) (pw_or1 (pt_not (pt_val (pe_callB (cr_all rfl) (by rfl) T.all (by decide +kernel) (pa_cons (pe_lc (own := [("rule", 2)]) (g := gName 2) (tt := tYes) (by rfl) scRuInit.nd (pi_list (pv 1)) (blkOk_by (own := [("rule", 2)]) (N := ["self", "rules", "rule"]) (sc := defScope sRuInit) (by decide +kernel)) (fun _ _ _ _ _ => pg_name (i := 2) scRuInit.nd rfl (Or.inl rfl)) (fun _ _ _ _ _ => by exact pts_nil) (fun _ _ _ _ _ => by exact (pe_c cI hr (by decide) (by rfl) (by exact (pa_cons (pv 2) pa_nil))))) pa_nil))))))) pss_never pss_nil)
      (pss_one (ps_fld (pv 0) (pe_callTy call_list_of (by rfl) T.list (by decide +kernel) (pa_cons (pv 1) pa_nil)) rfl))), ?_⟩
    walk_at "rd"
    refine ⟨_, .inl (SqL.of hl), ?_⟩
    refine iteN (by rw [hu.1]; omega) ?_
    refine ⟨_, rfl, l, rfl, ⟨_, SqL.of hl⟩, ?_⟩
    intro D hD
    refine lc_pure (walk_list (xs := us)) ((List.replicate us.length true).map V.bl) (by simp) (by rw [hu.1]; omega) hD (fun H' q => SqL.of (q _ _ hl)) ?_ ?_
    · rintro i x y H' H'' R hy h2 ⟨rfl, hx⟩ hR
      obtain ⟨z, hz, t, rfl, ht⟩ := hu.of hx
      have ey : y = V.bl true := by
        have := List.mem_of_getElem? hy
        simp at this
        exact this.2
      subst ey
      walk_at "rd"
      exact ⟨t, z.1, z.2, rfl, h2 _ _ ht, hne z (List.mem_of_getElem? hz), hR⟩
    · intro H1 s1 hD1
      refine ⟨D, _, rfl, SqL.of hD1, ?_⟩
      rw [all_true]
      walk_at "rd"
      refine ⟨us, .inl (SqL.of (s1 _ _ hl)), fun l' hl' => ?_⟩
      have hp1 := s1 _ _ hp
      have npl' : p ≠ l' := ne_of_none hp1 hl'
      refine ⟨C, dx, _, (by rw [upd_ne npl']; exact hp1), X.cl, X.rules, (by decide), k _ (fun b o hb e => ?_) ⟨dx, l', us, upd_same, by rw [upd_ne npl'.symm, upd_same], ?_⟩⟩
      · rw [upd_ne hb, upd_ne (ne_of_none (s1 b o e) hl')]
        exact s1 b o e
      · refine hu.mono (RuleV.mono (((Tp.of s1).trans (Tp.new hl')).trans (Tp.ins (C := C) (dx := dx) (fs := []) ?_)))
        rw [upd_ne npl']
        exact hp1
/-! ### Rules.places -/
def PlAt (H : Hp) (l : Addr) (o : Option (Nat × Nat)) : Prop := match o with
  | none => H l = some (.lst [])
  | some z => ∃ t, H l = some (.lst [.ref t]) ∧ H t = some (.tup [nV z.1, nV z.2])
structure PlOk (x : List Nat) (rs : List Rl) (o : Option (Nat × Nat)) : Prop where
  len : rs.length ≤ 20000
  ne : ∀ z ∈ rs, z.1 ≠ []
  only : Only x rs o
  inn : ∀ i k, o = some (i, k) → i < rs.length
  kk : ∀ i k, o = some (i, k) → k < 1000
def spPlaces (C : Addr) : Sp := fun vs H Q _ => ∃ (p : Addr) (x : List Nat) (rs : List Rl) (o : Option (Nat × Nat)), vs = [.ref p, .str (S x)] ∧ RulesAt C H p rs ∧ PlOk x rs o ∧ ∀ H' l, Same H H' → PlAt H' l o → Q (.ref l) H'
theorem scPlaces : FnScope ["self", "configuration", "found", "rule", "at"] ["self", "configuration"] (defScope sRuPlaces) := ⟨rfl, rfl, rfl, by decide +kernel, rfl, by decide +kernel, by decide +kernel⟩
/-- what is found among the first i rules -/
def upTo (o : Option (Nat × Nat)) (i : Nat) : Option (Nat × Nat) := match o with
  | none => none
  | some z => if z.1 < i then some z else none
theorem upTo_zero (o : Option (Nat × Nat)) : upTo o 0 = none := by
  cases o with
  | none => rfl
  | some z => show (if z.1 < 0 then some z else none) = none; rw [if_neg (Nat.not_lt_zero _)]
theorem upTo_all {o : Option (Nat × Nat)} {n : Nat} (h : ∀ i k, o = some (i, k) → i < n) : upTo o n = o := by
  cases o with
  | none => rfl
  | some z => show (if z.1 < n then some z else none) = some z; rw [if_pos (h z.1 z.2 rfl)]
theorem upTo_here (i k : Nat) : upTo (some (i, k)) i = none := by
  show (if i < i then _ else none) = none
  rw [if_neg (Nat.lt_irrefl _)]
theorem upTo_past (i k : Nat) : upTo (some (i, k)) (i + 1) = some (i, k) := by
  show (if i < i + 1 then some (i, k) else none) = _
  rw [if_pos (Nat.lt_succ_self _)]
theorem upTo_other {o : Option (Nat × Nat)} {i : Nat} (h : ∀ k, o ≠ some (i, k)) : upTo o (i + 1) = upTo o i := by
  cases o with
  | none => rfl
  | some z =>
    have : z.1 ≠ i := fun e => h z.2 (by rw [← e])
    show (if z.1 < i + 1 then some z else none) = (if z.1 < i then some z else none)
    by_cases hz : z.1 < i
    · rw [if_pos hz, if_pos (by omega)]
    · rw [if_neg hz, if_neg (by omega)]
theorem ok_places (F : Fun K "places" "Rules.places" sRuPlaces f fd) (T : Bl mg) (X : TxR K C) : FnOk P w K mg base CX0 1 f fd ["self", "configuration"] (spPlaces C) := by
  refine F.ok scPlaces (fun vs H Q E h => ?_) (fun cdv A outer s H vs Q E hr h => ?_)
  · obtain ⟨p, x, rs, o, rfl, _⟩ := h
    rfl
  · obtain ⟨p, x, rs, o, rfl, ⟨dx, l, us, g1, g2, g3⟩, po, k⟩ := h
    refine ⟨_, (pss_cons (ps_set (i := 2) scPlaces.nd rfl (.inl rfl) (pe_lst pa_nil))
      (pss_cons (ps_for PassesOwn.never rfl (pi_range1 rfl T.range (pa_cons (pe_callB call_len_seq (by rfl) T.len PySem.boot_len (pa_cons (pe_fld (pv 0) rfl) pa_nil)) pa_nil)) (pg_name (i := 3) scPlaces.nd rfl (.inl rfl)) (pss_cons (ps_set (i := 4) scPlaces.nd rfl (.inl rfl) (pe_bm PySem.F.plainAttrs_str PySem.F.slot_str_find PySem.F.type_str_find mt_find (pv 1) (pa_cons (pe_ix ix_tup (pe_ix ix_list (pe_fld (pv 0) rfl) (pv 3) (fun _ _ => rfl)) pe_int (fun _ _ => rfl)) pa_nil)))
      (pss_one (ps_while PassesOwn.never (pt_cmpR op_ge (pv 4) pe_int (nomark _)) (pss_cons (ps_expr (pe_bm PySem.F.plainAttrs_list PySem.F.slot_list_append PySem.F.type_list_append mt_append (pv 2) (pa_cons (pe_tup (pa_cons (pv 3) (pa_cons (pv 4) pa_nil))) pa_nil)))
      (pss_one (ps_set (i := 4) scPlaces.nd rfl (.inl rfl) (pe_bm PySem.F.plainAttrs_str PySem.F.slot_str_find PySem.F.type_str_find mt_find3 (pv 1) (pa_cons (pe_ix ix_tup (pe_ix ix_list (pe_fld (pv 0) rfl) (pv 3) (fun _ _ => rfl)) pe_int (fun _ _ => rfl)) (pa_cons (pe_op op_add (pv 4) pe_int) pa_nil))))))))))
      (pss_one (ps_ret (pv 2))))), ?_⟩
    walk_at "rd"
    refine ⟨Nat.zero_le _, fun L hL => ?_⟩
    have s0 : Same H (upd H L (.lst [])) := same_new hL
    have hul := g3.1
    have hlen := po.len
    refine ⟨_, rfl, p, C, dx, _, _, rfl, s0 _ _ g1, X.cl, X.rules, rfs_rules, l, rfl, us, .inl (SqL.of (s0 _ _ g2)), _, rfl, by omega, by omega, ?_⟩
    refine for_range (lo := 0) (fun i σ H' => ∃ a b, σ = [some (.ref p), some (.str (S x)), some (.ref L), a, b] ∧ Same H H' ∧ PlAt H' L (upTo o i)) ⟨_, _, rfl, s0, ?_⟩ ?_ ?_
    · rw [upTo_zero]
      exact upd_same
    · rintro i σ H1 hi ⟨a, b, rfl, s1, pl⟩
      have hir : i < rs.length := by
        rw [Int.toNat_natCast] at hi
        omega
      obtain ⟨v, hv, t, rfl, ht⟩ := g3.at (List.getElem?_eq_getElem hir)
      have hz := po.only i rs[i] 
      have hne := po.ne rs[i] (List.getElem_mem hir)
      walk_at "rd"
      simp only [Int.zero_add]
      refine ⟨rfl, C, dx, _, s1 _ _ g1, X.cl, X.rules, _, rfs_rules, l, rfl, us, SqL.of (s1 _ _ g2), _, atI_nat hv, ?_⟩
      walk_at "rd"
      refine ⟨_, SqT.of (s1 _ _ ht), _, at0, ?_⟩
      walk_at "rd"
      have hrs : rs[i]? = some rs[i] := List.getElem?_eq_getElem hir
      refine ⟨fun n σ H' => (n = 1 ∧ ∃ k, o = some (i, k) ∧ σ = [some (.ref p), some (.str (S x)), some (.ref L), some (nV i), some (nV k)] ∧ Same H H' ∧ H' L = some (.lst [])) ∨
        (n = 0 ∧ σ = [some (.ref p), some (.str (S x)), some (.ref L), some (nV i), some (.int (-1))] ∧ Same H H' ∧ PlAt H' L (upTo o (i + 1))), ?_, ?_⟩
      · by_cases ho : ∃ k, o = some (i, k)
        · obtain ⟨k0, ho⟩ := ho
          have e := find_at hne ((hz k0 hrs).mpr ho) fun k' hk' => by
            have := (hz k' hrs).mp hk'
            rw [ho] at this
            injection this with this
            injection this with _ this
            exact this.symm
          rw [ho, upTo_here] at pl
          exact ⟨1, .inl ⟨rfl, k0, ho, by rw [e], s1, pl⟩⟩
        · have ho' : ∀ k, o ≠ some (i, k) := fun k e => ho ⟨k, e⟩
          have e := find_none hne fun k' hk' => ho' k' ((hz k' hrs).mp hk')
          refine ⟨0, .inr ⟨rfl, by rw [e], s1, ?_⟩⟩
          rw [upTo_other ho']
          exact pl
      · rintro n σ H2 (⟨rfl, k0, ho, rfl, s2, pl2⟩ | ⟨rfl, rfl, s2, pl2⟩)
        · walk_at "rd"
          refine iteP (by omega) ⟨fun σ' H' => σ' = [some (.ref p), some (.str (S x)), some (.ref L), some (nV i), some (.int (-1))] ∧ Same H H' ∧ PlAt H' L (upTo o (i + 1)), fun σ' H' q => ⟨0, Nat.lt_succ_self 0, .inr ⟨rfl, q⟩⟩, .inl ⟨rfl, _, SqL.of pl2⟩, (by show 2 ≤ sizeLine; decide), fun t' ht' => ?_⟩
          have s3 : Same H (upd H2 t' (.tup [nV i, nV k0])) := same_add s2 ht'
          have s4 : Same H (upd (upd H2 t' (.tup [nV i, nV k0])) L (.lst [.ref t'])) := same_put s3 hL
          refine ⟨L, [], _, rfl, rfl, same_new ht' _ _ pl2, (by decide), rfl, C, dx, _, s4 _ _ g1, X.cl, X.rules, _, rfs_rules, l, rfl, us, SqL.of (s4 _ _ g2), _, atI_nat hv, ?_⟩
          walk_at "rd"
          refine ⟨_, SqT.of (s4 _ _ ht), _, at0, ?_⟩
          walk_at "rd"
          have e := find3_past (x := x) (k0 := k0) hne fun k' hk' => by
            have := (hz k' hrs).mp hk'
            rw [ho] at this
            injection this with this
            injection this with _ this
            exact this.symm
          refine ⟨by rw [e], s4, ?_⟩
          rw [ho, upTo_past]
          refine ⟨t', upd_same, ?_⟩
          rw [upd_ne (ne_of_none pl2 ht').symm]
          exact upd_same
        · walk_at "rd"
          exact iteN (by decide) ⟨s2, pl2⟩
    · rintro σ H1 ⟨a, b, rfl, s1, pl⟩
      refine ⟨_, rfl, k H1 L s1 ?_⟩
      rw [upTo_all (by rw [Int.toNat_natCast, hul]; exact po.inn)] at pl
      exact pl
/-! ### Rules._replaced -/
theorem cut_front {u v : List Nat} : cutS (S (u ++ v)) none (some (u.length : Int)) = S u := by
  refine ext_tl ?_
  show ((u ++ v).drop 0).take (HT.sIx (S (u ++ v)).length (S (u ++ v)).length (some (u.length : Int)) - 0) = u
  rw [HT.sIx_nat, S_len, List.length_append, List.drop_zero, Nat.sub_zero, Nat.min_eq_left (Nat.le_add_right _ _), List.take_left]
theorem cut_back {u v : List Nat} : cutS (S (u ++ v)) (some (u.length : Int)) none = S v := by
  refine ext_tl ?_
  show ((u ++ v).drop (HT.sIx (S (u ++ v)).length 0 (some (u.length : Int)))).take ((S (u ++ v)).length - HT.sIx (S (u ++ v)).length 0 (some (u.length : Int))) = v
  rw [HT.sIx_nat, S_len, List.length_append, Nat.min_eq_left (Nat.le_add_right _ _), List.drop_left, Nat.add_sub_cancel_left, List.take_length]
structure RpOk (rs : List Rl) (x : List Nat) (i k : Nat) (u v : List Nat) (z : Rl) : Prop where
  at_ : rs[i]? = some z
  hx : x = u ++ (z.1 ++ v)
  hk : k = u.length
  n : x.length ≤ 10000
  z2 : z.2.length ≤ 10000
def spReplaced (C : Addr) : Sp := fun vs H Q _ => ∃ (p : Addr) (x : List Nat) (rs : List Rl) (i k : Nat) (u v : List Nat) (z : Rl), vs = [.ref p, .str (S x), nV i, nV k] ∧ RulesAt C H p rs ∧ RpOk rs x i k u v z ∧ Q (.str (S (u ++ (z.2 ++ v)))) H
theorem scReplaced : FnScope ["self", "configuration", "rule", "at", "old", "new"] ["self", "configuration", "rule", "at"] (defScope sRuReplaced) := ⟨rfl, rfl, rfl, by decide +kernel, rfl, by decide +kernel, by decide +kernel⟩
theorem ok_replaced (F : Fun K "_replaced" "Rules._replaced" sRuReplaced f fd) (T : Bl mg) (X : TxR K C) : FnOk P w K mg base CX0 1 f fd ["self", "configuration", "rule", "at"] (spReplaced C) := by
  refine F.ok scReplaced (fun vs H Q E h => ?_) (fun cdv A outer s H vs Q E hr h => ?_)
  · obtain ⟨p, x, rs, i, k, u, v, z, rfl, _⟩ := h
    rfl
  · obtain ⟨p, x, rs, i, k, u, v, z, rfl, ⟨dx, l, us, g1, g2, g3⟩, ⟨hi, hx, hk, hn, hz2⟩, q⟩ := h
    obtain ⟨vt, hv, t, rfl, ht⟩ := g3.at hi
    refine ⟨_, (pss_cons (ps_asg (pe_ix ix_list (pe_fld (pv 0) rfl) (pv 2) (fun _ _ => rfl)) (pg_tup rfl (pgs_cons (pg_name (i := 4) scReplaced.nd rfl (.inl rfl)) (pgs_cons (pg_name (i := 5) scReplaced.nd rfl (.inl rfl)) pgs_nil))))
      (pss_one (ps_ret (pe_op op_add_str (pe_op op_add_str (pe_slice sl_str (pv 1) po_none (po_some (pv 3))) (pv 5)) (pe_slice sl_str (pv 1) (po_some (pe_op op_add (pv 3) (pe_callB call_len_str (by rfl) T.len PySem.boot_len (pa_cons (pv 4) pa_nil)))) po_none))))), ?_⟩
    walk_at "rd"
    refine ⟨_, _, _, g1, X.cl, X.rules, _, rfs_rules, l, rfl, us, SqL.of g2, _, atI_nat hv, ?_⟩
    walk_at "rd"
    refine ⟨_, SqT.of ht, rfl, ?_⟩
    walk_at "rd"
    subst hx
    subst hk
    rw [List.length_append, List.length_append] at hn
    refine ⟨_, rfl, by walk_at "tx"; omega, ?_⟩
    rw [cut_front]
    refine ⟨_, rfl, by walk_at "tx"; omega, by walk_at "tx"; omega, _, rfl, by walk_at "tx"; omega, ?_⟩
    have e : cutS (S (u ++ (z.1 ++ v))) (some ((u.length : Int) + ((S z.1).length : Int))) none = S v := by
      have e1 : (u.length : Int) + ((S z.1).length : Int) = ((u ++ z.1).length : Int) := by
        rw [S_len, List.length_append, Int.natCast_add]
      rw [e1, ← List.append_assoc]
      exact cut_back
    rw [e]
    refine ⟨_, rfl, by walk_at "tx"; omega, ?_⟩
    walk_at "tx"
    exact q
/-! ### Rules._first, stopped, step -/
def FsAt (H : Hp) (v : V) (o : Option (Nat × Nat)) : Prop := match o with
  | none => v = .non
  | some z => ∃ t, v = .ref t ∧ H t = some (.tup [nV z.1, nV z.2])
def spFirst (C : Addr) : Sp := fun vs H Q _ => ∃ (p : Addr) (x : List Nat) (rs : List Rl) (o : Option (Nat × Nat)), vs = [.ref p, .str (S x)] ∧ RulesAt C H p rs ∧ PlOk x rs o ∧ ∀ H' v, Same H H' → FsAt H' v o → Q v H'
theorem scFirst : FnScope ["self", "configuration", "rule", "at"] ["self", "configuration"] (defScope sRuFirst) := ⟨rfl, rfl, rfl, by decide +kernel, rfl, by decide +kernel, by decide +kernel⟩
theorem ok_first (F : Fun K "_first" "Rules._first" sRuFirst f fd) (T : Bl mg) (X : TxR K C) : FnOk P w K mg base CX0 1 f fd ["self", "configuration"] (spFirst C) := by
  refine F.ok scFirst (fun vs H Q E h => ?_) (fun cdv A outer s H vs Q E hr h => ?_)
  · obtain ⟨p, x, rs, o, rfl, _⟩ := h
    rfl
  · obtain ⟨p, x, rs, o, rfl, ⟨dx, l, us, g1, g2, g3⟩, po, k⟩ := h
    have hul := g3.1
    have hlen := po.len
    refine ⟨_, (pss_cons (ps_for PassesOwn.never rfl (pi_range1 rfl T.range (pa_cons (pe_callB call_len_seq (by rfl) T.len PySem.boot_len (pa_cons (pe_fld (pv 0) rfl) pa_nil)) pa_nil)) (pg_name (i := 2) scFirst.nd rfl (.inl rfl)) (pss_cons (ps_set (i := 3) scFirst.nd rfl (.inl rfl) (pe_bm PySem.F.plainAttrs_str PySem.F.slot_str_find PySem.F.type_str_find mt_find (pv 1) (pa_cons (pe_ix ix_tup (pe_ix ix_list (pe_fld (pv 0) rfl) (pv 2) (fun _ _ => rfl)) pe_int (fun _ _ => rfl)) pa_nil)))
      (pss_one (ps_if (pt_cmpR op_ge (pv 3) pe_int (nomark _)) (pss_one (ps_ret (pe_tup (pa_cons (pv 2) (pa_cons (pv 3) pa_nil))))) pss_nil))))
      (pss_one (ps_ret pe_non))), ?_⟩
    walk_at "rd"
    refine ⟨_, rfl, p, C, dx, _, _, rfl, g1, X.cl, X.rules, rfs_rules, l, rfl, us, .inl (SqL.of g2), _, rfl, by omega, by omega, ?_⟩
    refine for_range (lo := 0) (fun i σ H' => ∃ a b, σ = [some (.ref p), some (.str (S x)), a, b] ∧ H' = H ∧ upTo o i = none) ⟨_, _, rfl, rfl, upTo_zero o⟩ ?_ ?_
    · rintro i σ H1 hi ⟨a, b, rfl, rfl, pl⟩
      have hir : i < rs.length := by
        rw [Int.toNat_natCast] at hi
        omega
      obtain ⟨v, hv, t, rfl, ht⟩ := g3.at (List.getElem?_eq_getElem hir)
      have hz := po.only i rs[i]
      have hne := po.ne rs[i] (List.getElem_mem hir)
      have hrs : rs[i]? = some rs[i] := List.getElem?_eq_getElem hir
      walk_at "rd"
      simp only [Int.zero_add]
      refine ⟨rfl, C, dx, _, g1, X.cl, X.rules, _, rfs_rules, l, rfl, us, SqL.of g2, _, atI_nat hv, ?_⟩
      walk_at "rd"
      refine ⟨_, SqT.of ht, _, at0, ?_⟩
      walk_at "rd"
      by_cases ho : ∃ k, o = some (i, k)
      · obtain ⟨k0, ho⟩ := ho
        have e := find_at hne ((hz k0 hrs).mpr ho) fun k' hk' => by
          have := (hz k' hrs).mp hk'
          rw [ho] at this
          injection this with this
          injection this with _ this
          exact this.symm
        rw [e]
        refine iteP (by omega) ⟨(by show 2 ≤ sizeLine; decide), fun t' ht' => ?_⟩
        refine k _ _ (same_new ht') ?_
        rw [ho]
        exact ⟨t', rfl, upd_same⟩
      · have ho' : ∀ k, o ≠ some (i, k) := fun k e => ho ⟨k, e⟩
        have e := find_none hne fun k' hk' => ho' k' ((hz k' hrs).mp hk')
        rw [e]
        refine iteN (by decide) ?_
        rw [upTo_other ho']
        exact pl
    · rintro σ H1 ⟨a, b, rfl, rfl, pl⟩
      rw [upTo_all (by rw [Int.toNat_natCast, hul]; exact po.inn)] at pl
      refine k _ _ (Same.refl _) ?_
      rw [pl]
      exact rfl
def spRuStopped (C : Addr) : Sp := fun vs H Q _ => ∃ (p : Addr) (x : List Nat) (rs : List Rl) (o : Option (Nat × Nat)), vs = [.ref p, .str (S x)] ∧ RulesAt C H p rs ∧ PlOk x rs o ∧ ∀ H', Same H H' → Q (.bl o.isNone) H'
theorem scRuStopped : FnScope ["self", "configuration"] ["self", "configuration"] (defScope sRuStopped) := ⟨rfl, rfl, rfl, by decide +kernel, rfl, by decide +kernel, by decide +kernel⟩
theorem ok_ruStopped (F : Fun K "stopped" "Rules.stopped" sRuStopped f fd) (cF : Met P w K mg base 1 C "_first" (spFirst C) []) : FnOk P w K mg base CX0 2 f fd ["self", "configuration"] (spRuStopped C) := by
  refine F.ok scRuStopped (fun vs H Q E h => ?_) (fun cdv A outer s H vs Q E hr h => ?_)
  · obtain ⟨p, x, rs, o, rfl, _⟩ := h
    rfl
  · obtain ⟨p, x, rs, o, rfl, ra, po, k⟩ := h
    obtain ⟨dx, l, us, g1, g2, g3⟩ := id ra
    refine ⟨_, (pss_one (ps_ret (pe_cmp (pc_isN (pe_mt cF hr (by decide) (pv 0) (pa_cons (pv 1) pa_nil))) rfl))), ?_⟩
    walk_at "rd"
    refine ⟨dx, _, g1, rfs_no (by decide +kernel), p, x, rs, o, rfl, ra, po, fun H' v s1 hv => ?_⟩
    cases o with
    | none =>
      have : v = .non := hv
      subst this
      exact k H' s1
    | some z =>
      obtain ⟨t, rfl, _⟩ := hv
      exact k H' s1
def spRuStep (C : Addr) : Sp := fun vs H Q _ => ∃ (p : Addr) (x : List Nat) (rs : List Rl) (o : Option (Nat × Nat)), vs = [.ref p, .str (S x)] ∧ RulesAt C H p rs ∧ PlOk x rs o ∧
  (o = none → ∀ H', Same H H' → Q .non H') ∧ (∀ i k, o = some (i, k) → ∃ u v z, RpOk rs x i k u v z ∧ ∀ H', Same H H' → Q (.str (S (u ++ (z.2 ++ v)))) H')
theorem scRuStep : FnScope ["self", "configuration", "first"] ["self", "configuration"] (defScope sRuStep) := ⟨rfl, rfl, rfl, by decide +kernel, rfl, by decide +kernel, by decide +kernel⟩
theorem ok_ruStep (F : Fun K "step" "Rules.step" sRuStep f fd) (cF : Met P w K mg base 1 C "_first" (spFirst C) []) (cR : Met P w K mg base 1 C "_replaced" (spReplaced C) []) : FnOk P w K mg base CX0 2 f fd ["self", "configuration"] (spRuStep C) := by
  refine F.ok scRuStep (fun vs H Q E h => ?_) (fun cdv A outer s H vs Q E hr h => ?_)
  · obtain ⟨p, x, rs, o, rfl, _⟩ := h
    rfl
  · obtain ⟨p, x, rs, o, rfl, ra, po, k1, k2⟩ := h
    obtain ⟨dx, l, us, g1, g2, g3⟩ := id ra
    refine ⟨_, (pss_cons (ps_set (i := 2) scRuStep.nd rfl (.inl rfl) (pe_mt cF hr (by decide) (pv 0) (pa_cons (pv 1) pa_nil)))
      (pss_cons (ps_if (pt_cmp (pc_isN (pv 2)) rfl) (pss_one (ps_ret pe_non)) pss_nil)
      (pss_one (ps_ret (pe_mt cR hr (by decide) (pv 0) (pa_cons (pv 1) (pa_cons (pe_ix ix_tup (pv 2) pe_int (fun _ _ => rfl)) (pa_cons (pe_ix ix_tup (pv 2) pe_int (fun _ _ => rfl)) pa_nil)))))))), ?_⟩
    walk_at "rd"
    refine ⟨dx, _, g1, rfs_no (by decide +kernel), p, x, rs, o, rfl, ra, po, fun H' v s1 hv => ?_⟩
    cases o with
    | none =>
      have : v = .non := hv
      subst this
      exact iteP rfl (k1 rfl H' s1)
    | some ik =>
      obtain ⟨t, rfl, ht⟩ := hv
      obtain ⟨u, v, z, rp, k3⟩ := k2 ik.1 ik.2 rfl
      refine iteN (by simp) ⟨dx, _, s1 _ _ g1, rfs_no (by decide +kernel), _, rfl, _, SqT.of ht, _, at0, _, rfl, _, SqT.of ht, _, at1, p, x, rs, ik.1, ik.2, u, v, z, rfl, ra.mono s1, rp, k3 H' s1⟩
/-! ### Rules.applied -/
def spApplied (C : Addr) : Sp := fun vs H Q _ => ∃ (p : Addr) (x : List Nat) (rs : List Rl) (i k : Nat) (u v : List Nat) (z : Rl), vs = [.ref p, .str (S x), nV i, nV k] ∧ RulesAt C H p rs ∧ PlOk x rs (some (i, k)) ∧ RpOk rs x i k u v z ∧ ∀ H', Same H H' → Q (.str (S (u ++ (z.2 ++ v)))) H'
theorem scApplied : FnScope ["self", "configuration", "rule", "at"] ["self", "configuration", "rule", "at"] (defScope sRuApplied) := ⟨rfl, rfl, rfl, by decide +kernel, rfl, by decide +kernel, by decide +kernel⟩
theorem ok_applied (F : Fun K "applied" "Rules.applied" sRuApplied f fd) (T : Bl mg) (cP : Met P w K mg base 1 C "places" (spPlaces C) []) (cR : Met P w K mg base 1 C "_replaced" (spReplaced C) []) : FnOk P w K mg base CX0 2 f fd ["self", "configuration", "rule", "at"] (spApplied C) := by
  refine F.ok scApplied (fun vs H Q E h => ?_) (fun cdv A outer s H vs Q E hr h => ?_)
  · obtain ⟨p, x, rs, i, k, u, v, z, rfl, _⟩ := h
    rfl
  · obtain ⟨p, x, rs, i, k, u, v, z, rfl, ra, po, rp, q⟩ := h
    obtain ⟨dx, l, us, g1, g2, g3⟩ := id ra
    refine ⟨_, (pss_cons (ps_if (PW.pt (pw_or (pt_val (pe_callB call_isi (by rfl) T.isinstance (by decide +kernel) (pa_cons (pv 2) (pa_cons (pe_bltn (v := .ty "bool") (by rfl) T.bool (by decide +kernel) rfl) pa_nil)))) (pw_or (pt_val (pe_callB call_isi (by rfl) T.isinstance (by decide +kernel) (pa_cons (pv 3) (pa_cons (pe_bltn (v := .ty "bool") (by rfl) T.bool (by decide +kernel) rfl) pa_nil)))) (pw_or1 (pt_cmpR (op_notInD (unit65 hr)) (pe_tup (pa_cons (pv 2) (pa_cons (pv 3) pa_nil))) (pe_mt cP hr (by decide) (pv 0) (pa_cons (pv 1) pa_nil)) rfl))))) pss_never pss_nil)
      (pss_one (ps_ret (pe_mt cR hr (by decide) (pv 0) (pa_cons (pv 1) (pa_cons (pv 2) (pa_cons (pv 3) pa_nil))))))), ?_⟩
    walk_at "rd"
    refine isi_int_bool ?_
    walk_at "rd"
    refine isi_int_bool ?_
    walk_at "rd"
    refine ⟨(by show 2 ≤ sizeLine; decide), fun t ht => ?_⟩
    have s0 : Same H (upd H t (.tup [nV i, nV k])) := same_new ht
    refine ⟨dx, _, s0 _ _ g1, rfs_no (by decide +kernel), p, x, rs, some (i, k), rfl, ra.mono s0, po, fun H' L s1 pl => ?_⟩
    obtain ⟨t', hL, ht'⟩ := pl
    have e1 : Dp K H' (.ref t) (pD (i, k)) := pD_dp (s1 _ _ upd_same)
    have e2 : Dp K H' (.ref L) (.list [pD (i, k)]) := .lst (SqL.of hL) (.cons (pD_dp (z := (i, k)) ht') .nil)
    refine ⟨_, _, e1, e2, pD_shaped _, pDs_shaped _, ?_⟩
    have e3 : ([pD (i, k)].any fun z => PyData.eqv z (pD (i, k))) = true := by
      rw [List.any_cons, pD_refl]
      rfl
    rw [e3]
    walk_at "rd"
    have s2 := s0.trans s1
    exact ⟨dx, _, s2 _ _ g1, rfs_no (by decide +kernel), p, x, rs, i, k, u, v, z, rfl, ra.mono s2, rp, q H' s2⟩
end
end K68
end
section
/-! t[::-1] of a tuple: a rule that the layer lacks (it has the list's). -/
namespace K68
section
open PySem PySem.Spec PyProof.Rows L2 HT
section
variable {prog : Program} {w : World} {A : Around} {E : Value → Shared → Prop} {s : Shared}
theorem adjust_back (n : Nat) : Builtin.Slice.sliceAdjust none none (-1) (n : Int) = ((n : Int) - 1, -1) := by
  simp [Builtin.Slice.sliceAdjust]
theorem places_back (n : Nat) : Builtin.Slice.slicePlaces ((n : Int) - 1) (-1) (-1) = n := by
  have h1 : ¬ ((-1 : Int) > 0) := by omega
  simp only [Builtin.Slice.slicePlaces, h1, if_false]
  by_cases any : (n : Int) - 1 > -1
  · simp only [any, if_true]
    have : ((n : Int) - 1 - -1 - 1) / (- -1) + 1 = (n : Int) := by
      have e : (- -1 : Int) = 1 := by omega
      rw [e, Int.ediv_one]
      omega
    rw [this]
    omega
  · simp only [any, if_false]
    omega
theorem applied_back {sl : Addr} {vs : Value} {n : Nat} {Q : Int × Int × Nat → Shared → Prop} (hs : s.heap.IsSliceOf sl .none .none vs) (ps : IsPart vs (some (-1)))
    (h : Q ((n : Int) - 1, -1, n) s) : wpAny (model prog w) A (Builtin.Slice.sliceApplied (.ref sl) (pure (n : Int))) Q E s := by
  obtain ⟨ob, at_, _, flds⟩ := id hs
  delta Builtin.Slice.sliceApplied Builtin.Slice.sliceFields
  refine wpAny_bind (wpAny_bind (wpAny_field at_ flds (x := .none) rfl (wpAny_bind (wpAny_field at_ flds (x := .none) rfl (wpAny_bind (wpAny_field at_ flds (x := vs) rfl (wpAny_pure ?_)))))))
  refine wpAny_bind (slicePart_ ps ?_)
  show wpAny _ _ (if ((-1 : Int) == 0) = true then _ else _) _ _ s
  rw [if_neg (by decide)]
  refine wpAny_bind (slicePart_none (wpAny_bind (slicePart_none (wpAny_bind (wpAny_pure ?_)))))
  show wpAny _ _ (match Builtin.Slice.sliceAdjust none none (-1) (n : Int) with | (lo, hi) => pure (lo, (-1 : Int), Builtin.Slice.slicePlaces lo hi (-1))) _ _ s
  rw [adjust_back n]
  show wpAny _ _ (pure ((n : Int) - 1, (-1 : Int), Builtin.Slice.slicePlaces ((n : Int) - 1) (-1) (-1))) _ _ s
  rw [places_back]
  exact wpAny_pure h
theorem fm_congr {f g : Nat → Option Value} : ∀ {l : List Nat}, (∀ k ∈ l, f k = g k) → l.filterMap f = l.filterMap g
  | [], _ => rfl
  | a :: l, h => by
    rw [List.filterMap_cons, List.filterMap_cons, h a (List.mem_cons_self ..), fm_congr fun k hk => h k (List.mem_cons_of_mem _ hk)]
theorem range_back (l : List Value) : (List.range l.length).filterMap (fun (k : Nat) => l[l.length - 1 - k]?) = l.reverse := by
  apply List.ext_getElem?
  intro i
  have e : (List.range l.length).filterMap (fun (k : Nat) => l[l.length - 1 - k]?) = (List.range l.length).map fun k => l.getD (l.length - 1 - k) .none := by
    rw [← List.filterMap_eq_map]
    refine fm_congr fun k hk => ?_
    have hk' := List.mem_range.mp hk
    have hlt : l.length - 1 - k < l.length := by omega
    simp [hlt]
  rw [e, List.getElem?_map]
  by_cases hi : i < l.length
  · rw [List.getElem?_range hi, List.getElem?_reverse hi]
    have hlt : l.length - 1 - i < l.length := by omega
    simp [hlt]
  · rw [List.getElem?_eq_none (by rw [List.length_range]; omega), List.getElem?_eq_none (by rw [List.length_reverse]; omega)]
    rfl
theorem pick_back (xs : Array Value) : ((List.range xs.size).filterMap fun (k : Nat) => xs[(((xs.size : Int) - 1) + (k : Int) * (-1)).toNat]?).toArray = xs.toList.reverse.toArray := by
  have e : ((List.range xs.size).filterMap fun (k : Nat) => xs[(((xs.size : Int) - 1) + (k : Int) * (-1)).toNat]?) = (List.range xs.toList.length).filterMap (fun (k : Nat) => xs.toList[xs.toList.length - 1 - k]?) := by
    rw [Array.length_toList]
    refine fm_congr fun k hk => ?_
    have hk' := List.mem_range.mp hk
    have e1 : (((xs.size : Int) - 1) + (k : Int) * (-1)).toNat = xs.size - 1 - k := by omega
    rw [e1, Array.getElem?_toList]
  rw [e, range_back]
theorem getItem_tuple_back {t sl : Addr} {items : Array Value} {vs : Value} {Q : Value → Shared → Prop} (ht : IsTup s.heap t items) (hs : s.heap.IsSliceOf sl .none .none vs) (ps : IsPart vs (some (-1)))
    (small : items.size ≤ sizeLine) (h : Q (.ref s.heap.objs.size) { s with heap := s.heap.push { cls := .type "tuple", data := .seq items.toList.reverse.toArray } }) :
    wpAny (model prog w) A (getItem (.ref t) (.ref sl)) Q E s := by
  have hsize : sizeOk (.seq items.toList.reverse.toArray) := by
    show items.toList.reverse.toArray.size ≤ sizeLine
    rw [List.size_toArray, List.length_reverse, Array.length_toList]
    exact small
  have hTs : s.TypeIs (.ref sl) "slice" := let ⟨ob, at_, isSlice, _⟩ := id hs; ⟨ob, at_, isSlice⟩
  have slot := PyProof.Rows.slot_tuple_getitem
  unfold getItem; (try with_reducible refine wpAny_holding ?_); (try refine wpAny_bind (wpAny_pure ?_))
  refine wpAny_bind (wpAny_sequenceKey ht.typeIs (by decide) (wpAny_bind (wpAny_callSpecial?_slot (name := Str.ofString "__getitem__") ht.typeIs slot
    (wpAny_call_entry slot ht.typeIs entry_tuple_getitem ?_ (args_tuple_getitem _ _)))))
  show wpAny _ _ (bind (Builtin.Tuple.tupleItemsOf (.ref t)) _) _ _ s
  refine wpAny_bind (tupleItemsOf_ ht (wpAny_bind (wpAny_typeOf hTs ?_))); rw [if_pos (by decide)]
  refine wpAny_bind (applied_back hs ps ?_)
  have hno : ¬ ((((items.size : Int) - 1) == 0 && (-1 : Int) == 1 && items.size == items.size) = true) := by
    intro q
    rw [Bool.and_eq_true, Bool.and_eq_true] at q
    exact absurd q.1.2 (by decide)
  show wpAny _ _ (if (((items.size : Int) - 1) == 0 && (-1 : Int) == 1 && items.size == items.size) = true then _ else _) _ _ s
  rw [if_neg hno, pick_back]
  first
    | exact wpAny_bind (m := Builtin.Tuple.tupleExact _) (wpAny_newObj_type (wpAny_pure ⟨_, rfl, wpAny_pure h⟩) hsize)
    | exact wpAny_bind (m := Builtin.Tuple.tupleExact _) (wpAny_newObj_type (wpAny_bind (wpAny_pure (wpAny_pure ⟨_, rfl, wpAny_pure h⟩))) hsize)
    | exact wpAny_bind (wpAny_bind (m := Builtin.Tuple.tupleExact _) (wpAny_newObj_type (wpAny_pure (wpAny_pure ⟨_, rfl, wpAny_pure h⟩)) hsize))
    | exact wpAny_bind (wpAny_bind (m := Builtin.Tuple.tupleExact _) (wpAny_newObj_type (wpAny_pure ⟨_, rfl, wpAny_pure h⟩) hsize))
end
/-- t[::-1], t a tuple: a new one -/
def tRevT (K : PySem.W.Frag) (te : TE) : TE := fun σ H Q => te σ H fun x H1 => ∃ a xs, x = .ref a ∧ SqT K H1 a xs ∧ ∀ p, H1 p = none → Q (.ref p) (upd H1 p (.tup xs.reverse))
theorem pe_revT {X : Cx} {e : Expr} {te : TE} {k : Nat} {p1 p2 p3 pos : Pos} (he : PE X e te) : PE X (.Subscript e (.Slice none none (some (.UnaryOp .USub (.Constant (.int 1) k p1) p2)) p3) pos) (tRevT X.K te) := by
  refine ⟨fun pins s σ H Q I h => ?_⟩
  refine Subscript_ (thn (he.run pins s σ H _ I h) fun v s1 ⟨x, H1, I1, rx, a, xs, isRef, isTup, q⟩ => ?_)
  subst isRef
  cases rx
  have step : PO X (some (.UnaryOp .USub (.Constant (.int 1) k p1) p2)) (tPart (tUn (rU fun i => .int (-i)) (tC (.int 1)))) := po_some (pe_un un_neg pe_int)
  refine wpAny_Slice (thn (po_none.run pins s1 σ H1 (fun o H2 => o = none ∧ H2 = H1) I1 ⟨rfl, rfl⟩) fun lower s2 ⟨lo, H2, I2, isLo, noLo, same2⟩ => ?_)
  subst noLo same2
  refine thn (po_none.run pins s2 σ H2 (fun o H3 => o = none ∧ H3 = H2) I2 ⟨rfl, rfl⟩) fun upper s3 ⟨up, H3, I3, isUp, noUp, same3⟩ => ?_
  subst noUp same3
  refine thn (step.run pins s3 σ H3 (fun o H4 => o = some (-1) ∧ H4 = H3) I3 ⟨1, rfl, -1, rfl, rfl, rfl⟩) fun vs s4 ⟨st, H4, I4, isBack, back, same4⟩ => ?_
  subst back same4
  cases isLo
  cases isUp
  have I5 : Inv X pins σ H4 { s4 with heap := s4.heap.push { cls := .type "slice", data := .fields #[.none, .none, vs] } } := I4.kept (t' := s4.toks) fun b ob q => Heap.get?_push_of_some _ q
  obtain ⟨its, r, ht, hz⟩ := I5.tuple isTup
  have hlen := r.length
  have got : wpAny (model X.prog X.w) X.A (getItem (.ref a) (.ref s4.heap.objs.size)) (EP X pins σ Q) X.xe { s4 with heap := s4.heap.push { cls := .type "slice", data := .fields #[.none, .none, vs] } } := by
    refine getItem_tuple_back ht (Heap.IsSliceOf.new _ .none .none vs) isBack (by rw [List.size_toArray]; omega) ?_
    refine ⟨.ref _, _, I5.laid (t' := s4.toks) (o := .tup xs.reverse) (fun b ob q => Heap.get?_push_of_some _ q) (Nat.le_refl _) ?_, rfl, q _ (I5.hok.fresh (Nat.le_refl _))⟩
    exact ⟨by rw [List.length_reverse]; exact hz, _, r.reverse, IsTup.new _ _⟩
  exact tail_any (ops := [.ref a, .ref s4.heap.objs.size]) ht.typeIs (PyProof.Rows.slot_tuple_getitem.lookup) got (by with_unfolding_all rfl)
end
end K68
end
section
open PySem L2 TL
open C8 (Cal CalAt Met Mak pe_c pe_mk pe_mt pe_mt0 pe_cv pe_gc pss_cut tCallV tCut)
local macro_rules | `(tactic| walk_at "rd") => `(tactic| simp only [K68.cx_K, wipe, tYes, rIxT, rIxL, tRet, tRetN, tAndV, tOrV, tCB, tCons, tNil, tVar, tC, tNotV, tChain, rI0, rI, rU, tUn, tOp, L2.start, tSeq, tAsg, gName, tIfS, tTest, tDrop, tTup, tLst, tNext, tBreak, tCont, tB, tNot, tAnd, tOr, tIf, tCall, tMeth, tFld, tCut, K68.tRevT, tIsN, tNotN, tCmp, t2I, tJs, tFmt, K68.rEq_str, K68.rNe_str, K68.rEq_int, K68.rNe_int, decide_eq_true_eq, and_assoc, tPar, gTup, gCons, gNil, tCallV, tMake, tSl, tPart, tNoPart, tBM, tBM0, tM0, tM1, sFld,
  List.map, List.replicate, List.length_cons, List.length_nil, List.cons_append, List.nil_append, List.append_nil, List.set_cons_zero, List.set_cons_succ, List.getElem?_cons_zero, List.getElem?_cons_succ, Nat.zero_add, Nat.sub_self, Nat.reduceAdd, Nat.reduceSub,
  Option.some.injEq, exists_eq_left', exists_eq_left, exists_and_left, exists_eq, exists_eq', exists_false, V.int.injEq, V.bl.injEq, V.str.injEq, V.ref.injEq, List.cons.injEq, if_true, if_false, Bool.false_eq_true, true_and, and_true, false_and, and_false, false_or, or_false, decide_true, decide_false, Bool.and_self, Bool.and_true, Bool.true_and, tNever, Bool.not_true, Bool.not_false, reduceIte, reduceCtorEq])
local macro_rules | `(tactic| walk_at "tx") => `(tactic| simp only [K68.S_eq, Int.natCast_eq_zero, K68.e_nil, K68.e_nil', K68.e_open, K68.e_close, K68.e_left, K68.e_right, K68.e_zero, K68.e_zeroR, K68.e_digits, K68.S_num, K68.S_app, K68.S_len, List.cons_append, List.nil_append, List.append_assoc, List.length_append, List.length_cons, List.length_nil, List.cons.injEq, and_true, K68.line_])
namespace K68
section
variable {P : Program} {w : World} {K : PySem.W.Frag} {mg : Str → Option Value} {base : Heap} {f : Addr} {fd : FuncData} {CT CR CS : Addr}
def StairAt (CT CR CS : Addr) (H : Hp) (p : Addr) (m s : Nat) (rows : List (Option Row)) : Prop := ∃ dx u v, H p = some (.ins CS dx (sfs u v)) ∧ TapeAt CT H u m s rows ∧ RulesAt CR H v (rulesOf m s rows)
theorem StairAt.mono {H H' : Hp} {p : Addr} {m s : Nat} {rows : List (Option Row)} (k : Same H H') (h : StairAt CT CR CS H p m s rows) : StairAt CT CR CS H' p m s rows := by
  obtain ⟨dx, u, v, h1, h2, h3⟩ := h
  exact ⟨dx, u, v, k _ _ h1, h2.mono k, h3.mono k⟩
section
variable {H H' : Hp} {C C' u p dx' : Addr} {fs' : List (Str × V)} {m s : Nat} {rows : List (Option Row)} {rs : List Rl}
theorem SameX.tp (k : SameX p H H') (hp : H p = some (.ins C' dx' fs')) : Tp H H' := fun t xs e => k t _ (ne_of e hp (by intro z; cases z)) e
theorem TapeAt.offp (h : TapeAt C H u m s rows) (k : SameX p H H') (hp : H p = some (.ins C' dx' fs')) (hu : u ≠ p) : TapeAt C H' u m s rows := by
  obtain ⟨dx, l, vs, h1, h2, h3⟩ := h
  exact ⟨dx, l, vs, k _ _ hu h1, k _ _ (ne_of h2 hp (by intro z; cases z)) h2, h3.mono (RowV.mono (k.tp hp))⟩
theorem RulesAt.offp (h : RulesAt C H u rs) (k : SameX p H H') (hp : H p = some (.ins C' dx' fs')) (hu : u ≠ p) : RulesAt C H' u rs := by
  obtain ⟨dx, l, vs, h1, h2, h3⟩ := h
  exact ⟨dx, l, vs, k _ _ hu h1, k _ _ (ne_of h2 hp (by intro z; cases z)) h2, h3.mono (RuleV.mono (k.tp hp))⟩
theorem sameX_upd {o : HO} : SameX p H (upd H p o) := fun b u hb e => by rw [upd_ne hb]; exact e
theorem SameX.trans' {H'' : Hp} (a : SameX p H H') (b : SameX p H' H'') : SameX p H H'' := fun c o hc e => b c o hc (a c o hc e)
theorem SameX.of (a : Same H H') : SameX p H H' := fun c o _ e => a c o e
end
/-! ### RuleStair.__init__ -/
def spStInit (CT CR CS : Addr) : Sp := fun vs H Q _ => ∃ (p u dx : Addr) (m s : Nat) (rows : List (Option Row)), vs = [.ref p, .ref u] ∧ H p = some (.ins CS dx []) ∧ TapeAt CT H u m s rows ∧ RowsOk m s rows ∧ Small m s ∧
  ∀ H', SameX p H H' → StairAt CT CR CS H' p m s rows → Q .non H'
theorem scStInit : FnScope ["self", "machine", "count", "row"] ["self", "machine"] (defScope sStInit) := ⟨rfl, rfl, rfl, by decide +kernel, rfl, by decide +kernel, by decide +kernel⟩
theorem ok_stInit (F : Fun K "__init__" "RuleStair.__init__" sStInit f fd) (T : Bl mg) (XT : TxT K CT) (XS : TxS K CS) (cT : Met P w K mg base 1 CT "table" (spTable CT) []) (cO : Cal P w K mg base 3 "_rules_of" (spRulesOf CT) [])
    (cM : Mak P w K mg base 2 "Rules" CR (spRuInit CR) []) (g1 : ∃ t, mg "MOST_MARKS_rulestair" = some (.int 10 t)) (g2 : ∃ t, mg "MOST_RULES" = some (.int 20000 t)) : FnOk P w K mg base CX0 4 f fd ["self", "machine"] (spStInit CT CR CS) := by
  refine F.ok scStInit (fun vs H Q E h => ?_) (fun cdv A outer s H vs Q E hr h => ?_)
  · obtain ⟨p, u, dx, m, s, rows, rfl, _⟩ := h
    rfl
  · obtain ⟨p, u, dx, m, s, rows, rfl, hp, tp, ro, sm, k⟩ := h
    obtain ⟨t1, g1⟩ := g1
    obtain ⟨t2, g2⟩ := g2
    obtain ⟨du, lu, us, u1, u2, u3⟩ := id tp
    refine ⟨_, (pss_cons (ps_set (i := 2) scStInit.nd rfl (.inl rfl) (pe_callB call_len_seq (by rfl) T.len PySem.boot_len (pa_cons (pe_lc (own := [("row", 3)]) (g := gName 3) (by rfl) scStInit.nd (pi_list (pe_mt0 cT hr (by decide) (pv 1))) (blkOk_by (own := [("row", 3)]) (N := ["self", "machine", "count", "row"]) (sc := defScope sStInit) (by decide +kernel)) (fun _ _ _ _ _ => pg_name (i := 3) scStInit.nd rfl (Or.inl rfl)) (fun _ _ _ _ _ => by exact (pts_one (pt_cmp (pc_notN (pv 3)) rfl))) (fun _ _ _ _ _ => by exact (pv 3))) pa_nil)))
      (pss_cons (ps_if (PW.pt (pw_or (pt_cmpR op_gt (pe_fld (pv 1) rfl) (pe_gc (v := .int 10) (by rfl) ⟨_, g1, _, rfl⟩) (nomark _)) (pw_or1 (pt_cmpR op_gt (pe_op op_mul (pv 2) (pe_op op_pow (pe_op op_add (pe_fld (pv 1) rfl) pe_int) pe_int)) (pe_gc (v := .int 20000) (by rfl) ⟨_, g2, _, rfl⟩) (nomark _))))) pss_never pss_nil)
      (pss_cons (ps_fld (pv 0) (pv 1) rfl)
      (pss_one (ps_fld (pv 0) (pe_mk cM hr (by decide) (by rfl) (pa_cons (pe_c cO hr (by decide) (by rfl) (by exact (pa_cons (pv 1) pa_nil))) pa_nil)) rfl))))), ?_⟩
    walk_at "rd"
    have e10 := sm.m10
    have ems := sm.ms
    refine ⟨_, rfl, u, du, _, rfl, u1, tfs_no (by decide +kernel) (by decide +kernel) (by decide +kernel), u, m, s, rows, rfl, tp, fun H1 L us1 s1 hL hu1 => ?_⟩
    refine ⟨L, rfl, ⟨_, SqL.of hL⟩, ?_⟩
    intro D hD
    refine lc_it (walk_list (xs := us1)) (fun i H' => Same H1 H' ∧ ∃ acc, H' D = some (.lst acc) ∧ acc.length ≤ i) ⟨same_new hD, [], upd_same, Nat.le_refl _⟩ (fun i H' _ q => SqL.of (q.1 _ _ hL)) ?_ ?_
    · rintro i x H2 H3 hi ⟨s2, acc, hacc, hlen⟩ ⟨rfl, hx⟩
      have hi' : i < 1000 := by
        have := hu1.1
        have := ro.len
        omega
      walk_at "rd"
      refine ite2 (fun _ => ?_) (fun _ => ?_)
      · refine ⟨acc, hacc, by rw [line_]; omega, same_put s2 hD, acc ++ [x], upd_same, ?_⟩
        rw [List.length_append]
        exact Nat.succ_le_succ hlen
      · exact ⟨s2, acc, hacc, Nat.le_succ_of_le hlen⟩
    · rintro H2 ⟨s2, acc, hacc, hlen⟩
      have s02 := s1.trans s2
      have hcount : acc.length ≤ m * s := by
        have := hu1.1
        have := ro.len
        omega
      refine ⟨D, rfl, acc, .inl (SqL.of hacc), CT, du, _, s02 _ _ u1, XT.cl, XT.marks, _, tfs_marks, _, rfl, ?_⟩
      refine iteN (by omega) ⟨CT, du, _, s02 _ _ u1, XT.cl, XT.marks, _, tfs_marks, _, rfl, ⟨by decide, by decide, ?_⟩, .inl ⟨by omega, by omega⟩, ?_⟩
      · have e : ((m : Int) + 1) = ((m + 1 : Nat) : Int) := by omega
        rw [e, Int.natAbs_natCast]
        exact Nat.lt_of_le_of_lt (by omega : m + 1 ≤ 11) (by decide)
      refine iteN ?_ ?_
      · have h1 : acc.length * ((m + 1) * (m + 1)) ≤ 20000 := by
          refine Nat.le_trans (Nat.mul_le_mul_right _ hcount) ?_
          rw [Nat.mul_comm m s, Nat.mul_assoc]
          exact sm.rules
        have e : ((acc.length : Nat) : Int) * ((m : Int) + 1) ^ (2 : Int).toNat = ((acc.length * ((m + 1) * (m + 1)) : Nat) : Int) := by
          have e2 : (2 : Int).toNat = 2 := rfl
          rw [e2, Int.pow_succ, Int.pow_succ, Int.pow_zero, Int.one_mul, Int.natCast_mul, Int.natCast_mul, Int.natCast_add]
          rfl
        rw [e]
        omega
      have nup : u ≠ p := fun e => by
        rw [e, hp] at u1
        injection u1 with u1
        injection u1 with _ _ u1
        have := congrArg (fun fs => List.lookup ("marks" : Str) fs) u1
        simp only [tfs_marks] at this
        cases this
      have hp2 := s02 _ _ hp
      have k23 : SameX p H (upd H2 p (.ins CS dx (putF "upper" (.ref u) []))) := (SameX.of s02).trans' sameX_upd
      refine ⟨CS, dx, [], hp2, XS.cl, XS.upper, (by decide), u, m, s, rows, rfl, tp.offp k23 hp nup, ro, sm, fun H4 L2 us2 s4 hL2 hu2 => fun x3 dx3 hx3 hdx3 ne3 => ?_⟩
      have s5 : Same H4 (upd (upd H4 dx3 (.own x3)) x3 (.ins CR dx3 [])) := (same_new hdx3).trans (same_new (by rw [upd_ne ne3.symm]; exact hx3))
      have np3 : p ≠ x3 := ne_of_none (s4 _ _ upd_same) hx3
      have hlen : (rulesOf m s rows).length ≤ 20000 := Nat.le_trans (rulesOf_len m s rows) sm.rules
      refine ⟨x3, L2, dx3, rulesOf m s rows, us2, rfl, upd_same, s5 _ _ hL2, hu2.mono (RuleV.mono (Tp.of s5)), hlen, fun z hz => ?_, fun H6 sx6 ra6 => ⟨rfl, ?_⟩⟩
      · obtain ⟨q, a, r, _, _, _, x, _, y, _, rfl⟩ := mem_rulesOf hz
        exact old_ne _ _ _ _
      · have hp6 : H6 p = some (.ins CS dx (putF "upper" (.ref u) [])) := sx6 _ _ np3 (s5 _ _ (s4 _ _ upd_same))
        have k46 : SameX p H4 H6 := fun b o hb e => sx6 b o (ne_of_none e hx3) (s5 b o e)
        have k06 : SameX p H H6 := (k23.trans' (SameX.of s4)).trans' k46
        refine ⟨CS, dx, _, hp6, XS.cl, XS.lower, (by show 1 < 1000; decide), k _ (k06.trans' sameX_upd) ⟨dx, u, x3, upd_same, tp.offp (k06.trans' sameX_upd) hp nup, ra6.offp sameX_upd hp6 np3.symm⟩⟩
/-! ### RuleStair.down -/
theorem walk_revT {K : PySem.W.Frag} {a : Addr} {xs : List V} : Walk (RT.ItvT K a xs.length) xs.length (fun H => SqT K H a xs) (fun i H x H' => H' = H ∧ xs[xs.length - 1 - i]? = some x) :=
  ⟨fun i H small q => ⟨small, xs, xs[xs.length - 1 - i]'(by omega), q, by simp [show xs.length - 1 - i < xs.length by omega]⟩, fun _ _ => Nat.le_refl _, fun _ _ _ _ _ q y => ⟨y.1, y.2 xs q⟩⟩
theorem join_dg : ∀ l : List Nat, joinL [] (l.map fun n => [dg n]) = l.map dg
  | [] => rfl
  | [_] => rfl
  | a :: b :: l => by
    show [dg a] ++ ([] ++ joinL [] ((b :: l).map fun n => [dg n])) = _
    rw [join_dg (b :: l)]
    rfl
theorem join_S (l : List Nat) : PySem.Txt.join (S []) (l.map fun n => S [dg n]) = S (l.map dg) := by
  refine ext_tl ?_
  rw [join_eq, tl_join, List.map_map]
  exact join_dg l
theorem strs_V (l : List Nat) : (l.map dg).map sV = (l.map fun n => S [dg n]).map V.str := by
  rw [List.map_map, List.map_map]
  rfl
theorem sum_S (l : List Nat) : ((l.map fun n => S [dg n]).map fun x => x.length).sum = l.length := by
  induction l with
  | nil => rfl
  | cons a l ih =>
    rw [List.map_cons, List.map_cons, List.sum_cons, ih, List.length_cons]
    show 1 + l.length = l.length + 1
    omega
theorem nil_len : (Str.ofString "").length = 0 := by
  rw [e_nil']
  rfl
def spDown (CS : Addr) : Sp := fun vs H Q _ => ∃ (p t : Addr) (c : Cf) (m s : Nat), vs = [.ref p, .ref t] ∧ CfAt H t c ∧ c.Ok m s ∧ m ≤ 10 ∧ s ≤ 20 ∧ c.L.length ≤ 1000 ∧ c.R.length ≤ 1000 ∧ ∀ H', Same H H' → Q (.str (S (down c))) H'
theorem scDown : FnScope ["self", "configuration", "state", "left", "mark", "right", "before", "after", "one"] ["self", "configuration"] (defScope sStDown) := ⟨rfl, rfl, rfl, by decide +kernel, rfl, by decide +kernel, by decide +kernel⟩
theorem ok_down (F : Fun K "down" "RuleStair.down" sStDown f fd) (T : Bl mg) (cS : Cal P w K mg base 1 "_sign" spSign []) : FnOk P w K mg base CX0 2 f fd ["self", "configuration"] (spDown CS) := by
  refine F.ok scDown (fun vs H Q E h => ?_) (fun cdv A outer s H vs Q E hr h => ?_)
  · obtain ⟨p, t, c, m, s, rfl, _⟩ := h
    rfl
  · obtain ⟨p, t, c, m, s, rfl, ⟨l, r, h1, h2, h3⟩, ok, m10, s20, lL, lR, k⟩ := h
    refine ⟨_, (pss_cons (ps_asg (pv 1) (pg_tup rfl (pgs_cons (pg_name (i := 2) scDown.nd rfl (.inl rfl)) (pgs_cons (pg_name (i := 3) scDown.nd rfl (.inl rfl)) (pgs_cons (pg_name (i := 4) scDown.nd rfl (.inl rfl)) (pgs_cons (pg_name (i := 5) scDown.nd rfl (.inl rfl)) pgs_nil))))))
      (pss_cons (ps_set (i := 6) scDown.nd rfl (.inl rfl) (pe_join pe_str (pe_lc (own := [("one", 8)]) (g := gName 8) (tt := tYes) (by rfl) scDown.nd (RT.pi_revA rfl T.reversed (pv 3)) (blkOk_by (own := [("one", 8)]) (N := ["self", "configuration", "state", "left", "mark", "right", "before", "after", "one"]) (sc := defScope sStDown) (by decide +kernel)) (fun _ _ _ _ _ => pg_name (i := 8) scDown.nd rfl (Or.inl rfl)) (fun _ _ _ _ _ => by exact pts_nil) (fun _ _ _ _ _ => by exact (pe_callTy call_str_int (by rfl) T.str (by decide +kernel) (pa_cons (pv 8) pa_nil))))))
      (pss_cons (ps_set (i := 7) scDown.nd rfl (.inl rfl) (pe_join pe_str (pe_lc (own := [("one", 8)]) (g := gName 8) (tt := tYes) (by rfl) scDown.nd (pi_tup (pv 5)) (blkOk_by (own := [("one", 8)]) (N := ["self", "configuration", "state", "left", "mark", "right", "before", "after", "one"]) (sc := defScope sStDown) (by decide +kernel)) (fun _ _ _ _ _ => pg_name (i := 8) scDown.nd rfl (Or.inl rfl)) (fun _ _ _ _ _ => by exact pts_nil) (fun _ _ _ _ _ => by exact (pe_callTy call_str_int (by rfl) T.str (by decide +kernel) (pa_cons (pv 8) pa_nil))))))
      (pss_one (ps_ret (pe_op op_add_str (pe_op op_add_str (pe_op op_add_str (pe_op op_add_str (pe_op op_add_str pe_str (pv 6)) (pe_c cS hr (by decide) (by rfl) (by exact (pa_cons (pv 2) pa_nil)))) (pe_callTy call_str_int (by rfl) T.str (by decide +kernel) (pa_cons (pv 4) pa_nil))) (pv 7)) pe_str)))))), ?_⟩
    walk_at "rd"
    refine ⟨_, SqT.of h1, rfl, ?_⟩
    walk_at "rd"
    refine ⟨_, rfl, l, c.L.map nV, rfl, .inr ⟨SqT.of h2, ?_⟩⟩
    intro D hD
    refine lc_pure walk_revT ((c.L.reverse.map dg).map sV) (by simp) (by simp; omega) hD (fun H' q => SqT.of (q _ _ h2)) ?_ ?_
    · rintro i x y H' H'' R hy s2 ⟨rfl, hx⟩ hR
      obtain ⟨b, hb, rfl⟩ := map_at hx
      obtain ⟨d, hd, rfl⟩ := sV_at hy
      have hi : i < c.L.length := by
        have := (List.getElem?_eq_some_iff.mp hd).1
        simpa using this
      rw [List.length_map] at hb
      rw [List.getElem?_map, List.getElem?_reverse hi, hb] at hd
      injection hd with hd
      subst hd
      have b10 : b < 10 := Nat.lt_of_lt_of_le (ok.L b (List.mem_of_getElem? hb)) m10
      walk_at "rd"
      refine ⟨small_log (by omega), ?_⟩
      rw [S_num, numL_lt b10]
      exact hR
    · intro H1 s1 hD1
      rw [strs_V] at hD1
      refine ⟨D, rfl, _, .inl (SqL.of hD1), ?_, ?_⟩
      · rw [sum_S, nil_len, List.length_reverse]
        omega
      refine ⟨_, rfl, r, rfl, ⟨_, SqT.of (s1 _ _ h3)⟩, ?_⟩
      intro D2 hD2
      refine lc_pure (walk_tup (xs := c.R.map nV)) ((c.R.map dg).map sV) (by simp) (by simp; omega) hD2 (fun H' q => SqT.of (q _ _ (s1 _ _ h3))) ?_ ?_
      · rintro i x y H' H'' R hy s2 ⟨rfl, hx⟩ hR
        obtain ⟨b, hb, rfl⟩ := map_at hx
        obtain ⟨d, hd, rfl⟩ := sV_at hy
        rw [List.getElem?_map, hb] at hd
        injection hd with hd
        subst hd
        have b10 : b < 10 := Nat.lt_of_lt_of_le (ok.R b (List.mem_of_getElem? hb)) m10
        walk_at "rd"
        refine ⟨small_log (by omega), ?_⟩
        rw [S_num, numL_lt b10]
        exact hR
      · intro H2 s2 hD3
        rw [strs_V] at hD3
        refine ⟨D2, rfl, _, .inl (SqL.of hD3), ?_, ?_⟩
        · rw [sum_S, nil_len]
          omega
        rw [e_nil', join_S, join_S]
        have q9 : c.q < 10 ^ 9 := by
          have := ok.q
          omega
        have a10 : c.a < 10 := Nat.lt_of_lt_of_le ok.a m10
        have hl := sgn_len q9
        have hn := numL_lt a10
        have n1 : (c.L.reverse.map dg).length = c.L.length := by simp
        have n2 : (c.R.map dg).length = c.R.length := by simp
        walk_at "tx"
        refine ⟨by omega, c.q, rfl, q9, _, rfl, ?_⟩
        walk_at "tx"
        rw [hn]
        have e : 91 :: ((c.L.reverse.map dg) ++ (sgn c.q ++ (48 + c.a) :: ((c.R.map dg) ++ [93]))) = down c := by
          unfold down front behind back sgn
          simp
        refine ⟨by omega, small_log (by omega), ?_⟩
        walk_at "tx"
        rw [e]
        exact ⟨by omega, by omega, by omega, k H2 (s1.trans s2)⟩
/-! ### RuleStair.pace, ending -/
def spPace (CT CR CS : Addr) : Sp := fun vs H Q _ => ∃ (p t : Addr) (m s : Nat) (c : Cf) (rows : List (Option Row)), vs = [.ref p, .ref t] ∧ StairAt CT CR CS H p m s rows ∧ RowsOk m s rows ∧ Small m s ∧ CfAt H t c ∧ c.Ok m s ∧ Q (.int (if (rowAt m rows c.q c.a).isNone then 0 else 1)) H
theorem scPace : FnScope ["self", "configuration"] ["self", "configuration"] (defScope sStPace) := ⟨rfl, rfl, rfl, by decide +kernel, rfl, by decide +kernel, by decide +kernel⟩
theorem ok_pace (F : Fun K "pace" "RuleStair.pace" sStPace f fd) (XS : TxS K CS) (cS : Met P w K mg base 3 CT "stopped" (spStopped CT) []) : FnOk P w K mg base CX0 4 f fd ["self", "configuration"] (spPace CT CR CS) := by
  refine F.ok scPace (fun vs H Q E h => ?_) (fun cdv A outer s H vs Q E hr h => ?_)
  · obtain ⟨p, t, m, s, c, rows, rfl, _⟩ := h
    rfl
  · obtain ⟨p, t, m, s, c, rows, rfl, ⟨dx, u, v, h1, tp, ra⟩, ro, sm, ca, ok, k⟩ := h
    obtain ⟨du, lu, us, u1, u2, u3⟩ := id tp
    refine ⟨_, (pss_one (ps_ret (pe_ifExp (pt_val (pe_mt cS hr (by decide) (pe_fld (pv 0) rfl) (pa_cons (pv 1) pa_nil))) pe_int pe_int))), ?_⟩
    walk_at "rd"
    refine ⟨CS, dx, _, h1, XS.cl, XS.upper, _, sfs_upper, u, rfl, du, _, u1, tfs_no (by decide +kernel) (by decide +kernel) (by decide +kernel), u, t, m, s, c, rows, rfl, tp, ro, sm, ca, ok, ?_⟩
    cases hb : (rowAt m rows c.q c.a).isNone
    · rw [hb] at k
      exact ⟨_, rfl, k⟩
    · rw [hb] at k
      exact ⟨_, rfl, k⟩
def spEnding : Sp := fun vs H Q _ => ∃ (p t : Addr), vs = [.ref p, .ref t] ∧ Q (.int 0) H
theorem scEnding : FnScope ["self", "configuration"] ["self", "configuration"] (defScope sStEnding) := ⟨rfl, rfl, rfl, by decide +kernel, rfl, by decide +kernel, by decide +kernel⟩
theorem ok_ending (F : Fun K "ending" "RuleStair.ending" sStEnding f fd) : FnOk P w K mg base CX0 1 f fd ["self", "configuration"] spEnding := by
  refine F.ok scEnding (fun vs H Q E h => ?_) (fun cdv A outer s H vs Q E hr h => ?_)
  · obtain ⟨p, t, rfl, _⟩ := h
    rfl
  · obtain ⟨p, t, rfl, k⟩ := h
    exact ⟨_, (pss_one (ps_ret pe_int)), k⟩
end
end K68
end
section
open PySem L2 TL
open C8 (Cal CalAt Met Mak pe_c pe_mk pe_mt pe_mt0 pe_cv pe_gc pss_cut tCallV tCut)
local macro_rules | `(tactic| walk_at "rd") => `(tactic| simp only [K68.cx_K, wipe, tYes, rIxT, rIxL, tRet, tRetN, tAndV, tOrV, tCB, tCons, tNil, tVar, tC, tNotV, tChain, rI0, rI, rU, tUn, tOp, L2.start, tSeq, tAsg, gName, tIfS, tTest, tDrop, tTup, tLst, tNext, tBreak, tCont, tB, tNot, tAnd, tOr, tIf, tCall, tMeth, tFld, tCut, K68.tRevT, tIsN, tNotN, tCmp, t2I, tJs, tFmt, K68.rEq_str, K68.rNe_str, K68.rEq_int, K68.rNe_int, decide_eq_true_eq, and_assoc, tPar, gTup, gCons, gNil, tCallV, tMake, tSl, tPart, tNoPart, tBM, tBM0, tM0, tM1, sFld,
  List.map, List.replicate, List.length_cons, List.length_nil, List.cons_append, List.nil_append, List.append_nil, List.set_cons_zero, List.set_cons_succ, List.getElem?_cons_zero, List.getElem?_cons_succ, Nat.zero_add, Nat.sub_self, Nat.reduceAdd, Nat.reduceSub,
  Option.some.injEq, exists_eq_left', exists_eq_left, exists_and_left, exists_eq, exists_eq', exists_false, V.int.injEq, V.bl.injEq, V.str.injEq, V.ref.injEq, List.cons.injEq, if_true, if_false, Bool.false_eq_true, true_and, and_true, false_and, and_false, false_or, or_false, decide_true, decide_false, Bool.and_self, Bool.and_true, Bool.true_and, tNever, Bool.not_true, Bool.not_false, reduceIte, reduceCtorEq])
local macro_rules | `(tactic| walk_at "tx") => `(tactic| simp only [K68.S_eq, Int.natCast_eq_zero, K68.e_nil, K68.e_nil', K68.e_open, K68.e_close, K68.e_left, K68.e_right, K68.e_zero, K68.e_zeroR, K68.e_digits, K68.S_num, K68.S_app, K68.S_len, List.cons_append, List.nil_append, List.append_assoc, List.length_append, List.length_cons, List.length_nil, List.cons.injEq, and_true, K68.line_])
namespace K68
/-! ### the string taken apart -/
theorem count_one {s : Nat} {u v : List Nat} (hu : s ∉ u) (hv : s ∉ v) : PySem.Txt.count (S (u ++ s :: v)) (S [s]) = 1 := by
  have e := PyProof.Rows.count_is (S (u ++ s :: v)) s
  have e2 : PyProof.Rows.cnt s (u ++ s :: v) = 1 := by
    rw [PyProof.Rows.cnt_append, PyProof.Rows.cnt_cons, PyProof.Rows.cnt_none s u hu, PyProof.Rows.cnt_none s v hv, if_pos rfl]
    rfl
  exact e.trans e2
theorem split_sep {s : Nat} {u v : List Nat} (hs : s < 256) (hu : s ∉ u) (hv : s ∉ v) : PySem.Txt.split (S (u ++ s :: v)) (S [s]) = [S u, S v] := by
  refine map_tl_inj ?_
  rw [split_spl (S (u ++ s :: v)) (S [s]) (by simp) (kind_ok (by simp [hs]))]
  show spl [s] 0 [] (u ++ ([s] ++ v)) = [u, v]
  rw [spl_part1 hu, spl_last1 hv]
  rfl
theorem cut_last {u : List Nat} {b : Nat} : cutS (S (u ++ [b])) none (some (-1)) = S u := by
  refine ext_tl ?_
  show ((u ++ [b]).drop 0).take (HT.sIx (S (u ++ [b])).length (S (u ++ [b])).length (some (-1)) - 0) = u
  have e : HT.sIx (S (u ++ [b])).length (S (u ++ [b])).length (some (-1)) = u.length := by
    show (if (-1 : Int) < 0 then (-1 + ((S (u ++ [b])).length : Int)).toNat else min (-1 : Int).toNat (S (u ++ [b])).length) = u.length
    rw [if_pos (by decide), S_len, List.length_append]
    simp
    omega
  rw [e, List.drop_zero, Nat.sub_zero, List.take_left]
theorem cut_first {a : Nat} {v : List Nat} : cutS (S (a :: v)) (some 1) none = S v := cut_back (u := [a])
theorem sIx_1 (n d : Nat) : HT.sIx (n + 1) d (some 1) = 1 := by
  have := HT.sIx_nat (n + 1) d 1
  rw [show ((1 : Nat) : Int) = 1 from rfl] at this
  rw [this]
  omega
theorem cutV_tail {v : V} {l : List V} : cutV (v :: l) (some 1) none = l := by
  unfold cutV
  rw [List.length_cons, sIx_1]
  show ((v :: l).drop 1).take (l.length + 1 - 1) = l
  rw [Nat.add_sub_cancel]
  exact List.take_length
/-- t[1:] of a tuple that holds something -/
theorem sl_tail {K : PySem.W.Frag} {H : Hp} {a : Addr} {v : V} {l : List V} {Q : VK} (h : H a = some (.tup (v :: l))) (k : ∀ p, H p = none → Q (.ref p) (upd H p (.tup l))) : rSlA K (.ref a) (some 1) none H Q := by
  refine ⟨a, _, rfl, SqT.of h, fun hw => ?_, fun _ p hp => ?_⟩
  · have := hw.1
    rw [List.length_cons, sIx_1] at this
    cases this
  · rw [cutV_tail]
    exact k p hp
/-- the digits of a number -/
def digs (n : Nat) : List Nat := (numL n).map (· - 48)
theorem digs_dg (n : Nat) : (digs n).map dg = numL n := by
  unfold digs
  rw [List.map_map]
  have h := numL_digits n
  generalize numL n = l at h
  induction l with
  | nil => rfl
  | cons a l ih =>
    have ha := h a (List.mem_cons_self ..)
    rw [List.map_cons, ih fun c hc => h c (List.mem_cons_of_mem _ hc)]
    have : ((fun x => dg x) ∘ fun x => x - 48) a = a := by
      show 48 + (a - 48) = a
      omega
    rw [this]
theorem digs_lt (n : Nat) : ∀ b ∈ digs n, b < 10 := by
  intro b hb
  obtain ⟨c, hc, rfl⟩ := List.mem_map.mp hb
  have := numL_digits n c hc
  omega
theorem digs_ne (n : Nat) : digs n ≠ [] := fun e => numL_ne n (List.map_eq_nil_iff.mp e)
theorem digs_len {n : Nat} (h : n < 10 ^ 9) : (digs n).length ≤ 9 := by
  unfold digs
  rw [List.length_map]
  exact num_len h
theorem numL_text {n : Nat} (h : n < 10 ^ 9) : PySem.intText? (S (numL n)) = some (n : Int) := by
  rw [← S_num]
  exact int_num (by have := num_len h; omega)
section
variable {P : Program} {w : World} {K : PySem.W.Frag} {mg : Str → Option Value} {base : Heap} {f : Addr} {fd : FuncData} {CT CR CS : Addr}
def spUp (CT CR CS : Addr) : Sp := fun vs H Q _ => ∃ (p : Addr) (m s : Nat) (c : Cf) (rows : List (Option Row)), vs = [.ref p, .str (S (down c))] ∧ StairAt CT CR CS H p m s rows ∧ Small m s ∧ c.Ok m s ∧ c.L.length ≤ 100 ∧ c.R.length ≤ 100 ∧
  ∀ H' t, Same H H' → CfAt H' t c → Q (.ref t) H'
theorem scUp : FnScope ["self", "configuration", "before", "rest", "state", "behind", "left", "right", "number", "found"] ["self", "configuration"] (defScope sStUp) := ⟨rfl, rfl, rfl, by decide +kernel, rfl, by decide +kernel, by decide +kernel⟩
theorem ok_up (F : Fun K "up" "RuleStair.up" sStUp f fd) (T : Bl mg) (XS : TxS K CS) (cM : Cal P w K mg base 1 "_marks" spMarks []) (cC : Met P w K mg base 3 CT "is_configuration" (spIsConf CT) []) (cD : Met P w K mg base 2 CS "down" (spDown CS) []) : FnOk P w K mg base CX0 4 f fd ["self", "configuration"] (spUp CT CR CS) := by
  refine F.ok scUp (fun vs H Q E h => ?_) (fun cdv A outer s H vs Q E hr h => ?_)
  · obtain ⟨p, m, s, c, rows, rfl, _⟩ := h
    rfl
  · obtain ⟨p, m, s, c, rows, rfl, ⟨dx, u, v, h1, tp, ra⟩, sm, ok, lL, lR, k⟩ := h
    obtain ⟨du, lu, us, u1, u2, u3⟩ := id tp
    refine ⟨_, (pss_cons (ps_if (PW.pt (pw_or (pt_cmpR op_ne (pe_bm PySem.F.plainAttrs_str PySem.F.slot_str_count PySem.F.type_str_count mt_count (pv 1) (pa_cons pe_str pa_nil)) pe_int (nomark _)) (pw_or1 (pt_cmpR op_ne (pe_bm PySem.F.plainAttrs_str PySem.F.slot_str_count PySem.F.type_str_count mt_count (pv 1) (pa_cons pe_str pa_nil)) pe_int (nomark _))))) (pss_one (ps_ret pe_non)) pss_nil)
      (pss_cons (ps_asg (pe_split (pv 1) pe_str) (pg_unl rfl (pgs_cons (pg_name (i := 2) scUp.nd rfl (.inl rfl)) (pgs_cons (pg_name (i := 3) scUp.nd rfl (.inl rfl)) pgs_nil))))
      (pss_cons (ps_if (pt_cmpR op_notIn_sign pe_str (pv 3) rfl) (pss_one (ps_ret pe_non)) pss_nil)
      (pss_cons (ps_asg (pe_split (pv 3) pe_str) (pg_unl rfl (pgs_cons (pg_name (i := 4) scUp.nd rfl (.inl rfl)) (pgs_cons (pg_name (i := 5) scUp.nd rfl (.inl rfl)) pgs_nil))))
      (pss_cons (ps_par (i := 6) (j := 7) (by rfl) scUp.nd rfl rfl (by decide) rfl rfl (pa_cons (pe_c cM hr (by decide) (by rfl) (by exact (pa_cons (pe_slice sl_str (pv 2) (po_some pe_int) po_none) pa_nil))) (pa_cons (pe_c cM hr (by decide) (by rfl) (by exact (pa_cons (pe_slice sl_str (pv 5) po_none (po_some (pe_un un_neg pe_int))) pa_nil))) pa_nil)) (by rfl))
      (pss_cons (ps_set (i := 8) scUp.nd rfl (.inl rfl) (pe_c cM hr (by decide) (by rfl) (by exact (pa_cons (pv 4) pa_nil))))
      (pss_cons (ps_if (PW.pt (pw_or (pt_cmp (pc_isN (pv 6)) rfl) (pw_or (pt_not (pt_truth (pv 7) (by intro _; rfl))) (pw_or (pt_not (pt_truth (pv 8) (by intro _; rfl))) (pw_or1 (pt_cmpR op_gt (pe_callB call_len_seq (by rfl) T.len PySem.boot_len (pa_cons (pv 8) pa_nil)) pe_int (nomark _))))))) (pss_one (ps_ret pe_non)) pss_nil)
      (pss_cons (ps_set (i := 9) scUp.nd rfl (.inl rfl) (pe_tup (pa_cons (pe_callTy call_int_str (by rfl) T.int PyProof.Rows.boot_int (pa_cons (pv 4) pa_nil)) (pa_cons (pe_revT (pv 6)) (pa_cons (pe_ix ix_tup (pv 7) pe_int (fun _ _ => rfl)) (pa_cons (pe_slice sl_tupA (pv 7) (po_some pe_int) po_none) pa_nil))))))
      (pss_cons (ps_if (PW.pt (pw_or (pt_not (pt_val (pe_mt cC hr (by decide) (pe_fld (pv 0) rfl) (pa_cons (pv 9) pa_nil)))) (pw_or1 (pt_cmpR op_ne (pe_mt cD hr (by decide) (pv 0) (pa_cons (pv 9) pa_nil)) (pv 1) (nomark _))))) (pss_one (ps_ret pe_non)) pss_nil)
      (pss_one (ps_ret (pv 9)))))))))))), ?_⟩
    have e10 := sm.m10
    have e20 := sm.s20
    have okq := ok.q
    have oka := ok.a
    have q9 : c.q < 10 ^ 9 := by omega
    have hql := num_len q9
    have hfl : (front c).length = c.L.length + 1 := by simp [front]
    have hbl : (behind c).length = (numL c.q).length + c.R.length + 3 := by simp [behind, back]; omega
    have hdl : (down c).length ≤ 300 := by
      unfold down
      rw [List.length_append, List.length_cons, hfl, hbl]
      omega
    have f41 : 41 ∉ numL c.q := numL_free (.inl (by decide))
    have g41 : 41 ∉ dg c.a :: back c := fun hm => by
      rcases List.mem_cons.mp hm with e | e
      · have : 41 = 48 + c.a := e
        omega
      · exact back_free c (by decide) e
    have h41 : 41 ∉ front c ++ 40 :: numL c.q := fun hm => by
      rcases List.mem_append.mp hm with e | e
      · rcases List.mem_cons.mp e with e | e
        · cases e
        · exact dgs_free (by decide) _ e
      · rcases List.mem_cons.mp e with e | e
        · cases e
        · exact f41 e
    have c40 : PySem.Txt.count (S (down c)) (S [40]) = 1 := count_one (front_free c) (behind_free c)
    have c41 : PySem.Txt.count (S (down c)) (S [41]) = 1 := by
      have e : down c = (front c ++ 40 :: numL c.q) ++ 41 :: (dg c.a :: back c) := by
        unfold down behind
        simp
      rw [e]
      exact count_one h41 g41
    have s40 : PySem.Txt.split (S (down c)) (S [40]) = [S (front c), S (behind c)] := split_sep (by decide) (front_free c) (behind_free c)
    have s41 : PySem.Txt.split (S (behind c)) (S [41]) = [S (numL c.q), S (dg c.a :: back c)] := split_sep (by decide) f41 g41
    have cf : cutS (S (front c)) (some 1) none = S (c.L.reverse.map dg) := cut_first
    have cb : cutS (S (dg c.a :: back c)) none (some (-1)) = S ((c.a :: c.R).map dg) := cut_last (u := (c.a :: c.R).map dg)
    walk_at "rd"
    refine ⟨rfl, ?_⟩
    rw [e_open, e_close, c40, c41, s40]
    refine iteNS rfl ⟨rfl, iteNS rfl ⟨rfl, by walk_at "tx"; omega, fun l1 hl1 => ⟨l1, _, rfl, SqL.of upd_same, rfl, ?_⟩⟩⟩
    walk_at "rd"
    refine ⟨41, rfl, ?_⟩
    have m41 : 41 ∈ (S (behind c)).cps.toList := List.mem_append_right _ (List.mem_cons_self ..)
    rw [decide_eq_true m41]
    walk_at "rd"
    rw [s41]
    refine ⟨rfl, by walk_at "tx"; omega, fun l2 hl2 => ⟨l2, _, rfl, SqL.of upd_same, rfl, ?_⟩⟩
    walk_at "rd"
    have s2 : Same H (upd (upd H l1 (.lst [V.str (S (front c)), V.str (S (behind c))])) l2 (.lst [V.str (S (numL c.q)), V.str (S (dg c.a :: back c))])) := (same_new hl1).trans (same_new hl2)
    generalize upd (upd H l1 (.lst [V.str (S (front c)), V.str (S (behind c))])) l2 (.lst [V.str (S (numL c.q)), V.str (S (dg c.a :: back c))]) = H2 at s2 ⊢
    refine ⟨_, rfl, by walk_at "tx"; omega, ?_⟩
    rw [cf]
    refine ⟨c.L.reverse, rfl, fun b hb => Nat.lt_of_lt_of_le (ok.L b (List.mem_reverse.mp hb)) e10, by rw [List.length_reverse]; omega, fun H3 pl s3 hpl => ?_⟩
    refine ⟨_, rfl, by rw [S_len, List.length_cons]; unfold behind at hbl; rw [List.length_append, List.length_cons, List.length_cons] at hbl; rw [line_]; omega, ?_⟩
    rw [cb]
    refine ⟨c.a :: c.R, rfl, fun b hb => ?_, by rw [List.length_cons]; omega, fun H4 pr s4 hpr => ?_⟩
    · rcases List.mem_cons.mp hb with e | e
      · omega
      · exact Nat.lt_of_lt_of_le (ok.R b e) e10
    refine ⟨digs c.q, by rw [digs_dg], digs_lt c.q, by have := digs_len q9; omega, fun H5 pn s5 hpn => ?_⟩
    have hne : (!((digs c.q).map nV).isEmpty) = true := by
      have := digs_ne c.q
      cases e : digs c.q with
      | nil => exact absurd e this
      | cons a l => rfl
    have hpr5 := s5 _ _ hpr
    have hpl5 := s5 _ _ (s4 _ _ hpl)
    refine iteN (by simp) ⟨true, .inr (.inl ⟨_, SqT.of hpr5, rfl⟩), iteN (by decide) ⟨true, .inr (.inl ⟨_, SqT.of hpn, hne.symm⟩), iteN (by decide) ⟨pn, rfl, _, .inr (SqT.of hpn), iteN (by rw [List.length_map]; have := digs_len q9; omega) ⟨_, numL_text q9, by walk_at "tx"; omega, pl, rfl, _, SqT.of hpl5, fun p2 hp2 => ⟨pr, rfl, _, SqT.of (same_new hp2 _ _ hpr5), _, at0, sl_tail (same_new hp2 _ _ hpr5) fun p4 hp4 => ⟨(by show 4 ≤ sizeLine; decide), fun p5 hp5 => ?_⟩⟩⟩⟩⟩⟩
    have s6 : Same H5 (upd (upd (upd H5 p2 (.tup (c.L.reverse.map nV).reverse)) p4 (.tup (c.R.map nV))) p5 (.tup [nV c.q, .ref p2, nV c.a, .ref p4])) := ((same_new hp2).trans (same_new hp4)).trans (same_new hp5)
    have er : (c.L.reverse.map nV).reverse = c.L.map nV := by rw [← List.map_reverse, List.reverse_reverse]
    have ca : CfAt (upd (upd (upd H5 p2 (.tup (c.L.reverse.map nV).reverse)) p4 (.tup (c.R.map nV))) p5 (.tup [nV c.q, .ref p2, nV c.a, .ref p4])) p5 c := by
      refine ⟨p2, p4, upd_same, ?_, same_new hp5 _ _ upd_same⟩
      rw [← er]
      exact same_new hp5 _ _ (same_new hp4 _ _ upd_same)
    generalize upd (upd (upd H5 p2 (.tup (c.L.reverse.map nV).reverse)) p4 (.tup (c.R.map nV))) p5 (.tup [nV c.q, .ref p2, nV c.a, .ref p4]) = H6 at s6 ca ⊢
    have s06 : Same H H6 := (((s2.trans s3).trans s4).trans s5).trans s6
    refine ⟨CS, dx, _, s06 _ _ h1, XS.cl, XS.upper, _, sfs_upper, u, rfl, du, _, s06 _ _ u1, tfs_no (by decide +kernel) (by decide +kernel) (by decide +kernel), u, p5, m, s, c, rows, rfl, tp.mono s06, ca, ok, by omega, by omega, fun H7 s7 => ?_⟩
    walk_at "rd"
    have s07 := s06.trans s7
    refine ⟨dx, _, s07 _ _ h1, sfs_no (by decide +kernel) (by decide +kernel), p, p5, c, m, s, rfl, ca.mono (Tp.of s7), ok, e10, e20, by omega, by omega, fun H8 s8 => ?_⟩
    walk_at "rd"
    exact k H8 p5 (s07.trans s8) (ca.mono (Tp.of (s7.trans s8)))
end
end K68
end
section
open PySem L2 TL
open C8 (Cal CalAt Met Mak pe_c pe_mk pe_mt pe_mt0 pe_cv pe_gc pss_cut tCallV tCut)
local macro_rules | `(tactic| walk_at "rd") => `(tactic| simp only [K68.cx_K, wipe, tYes, rIxT, rIxL, tRet, tRetN, tAndV, tOrV, tCB, tCons, tNil, tVar, tC, tNotV, tChain, rI0, rI, rU, tUn, tOp, L2.start, tSeq, tAsg, gName, tIfS, tTest, tDrop, tTup, tLst, tNext, tBreak, tCont, tB, tNot, tAnd, tOr, tIf, tCall, tMeth, tFld, tCut, K68.tRevT, tIsN, tNotN, tCmp, t2I, tJs, tFmt, K68.rEq_str, K68.rNe_str, K68.rEq_int, K68.rNe_int, decide_eq_true_eq, and_assoc, tPar, gTup, gCons, gNil, tCallV, tMake, tSl, tPart, tNoPart, tBM, tBM0, tM0, tM1, sFld,
  List.map, List.replicate, List.length_cons, List.length_nil, List.cons_append, List.nil_append, List.append_nil, List.set_cons_zero, List.set_cons_succ, List.getElem?_cons_zero, List.getElem?_cons_succ, Nat.zero_add, Nat.sub_self, Nat.reduceAdd, Nat.reduceSub,
  Option.some.injEq, exists_eq_left', exists_eq_left, exists_and_left, exists_eq, exists_eq', exists_false, V.int.injEq, V.bl.injEq, V.str.injEq, V.ref.injEq, List.cons.injEq, if_true, if_false, Bool.false_eq_true, true_and, and_true, false_and, and_false, false_or, or_false, decide_true, decide_false, Bool.and_self, Bool.and_true, Bool.true_and, tNever, Bool.not_true, Bool.not_false, reduceIte, reduceCtorEq])
local macro_rules | `(tactic| walk_at "tx") => `(tactic| simp only [K68.S_eq, Int.natCast_eq_zero, K68.e_nil, K68.e_nil', K68.e_open, K68.e_close, K68.e_left, K68.e_right, K68.e_zero, K68.e_zeroR, K68.e_digits, K68.S_num, K68.S_app, K68.S_len, List.cons_append, List.nil_append, List.append_assoc, List.length_append, List.length_cons, List.length_nil, List.cons.injEq, and_true, K68.line_])
namespace K68
section
variable {P : Program} {w : World} {K : PySem.W.Frag} {mg : Str → Option Value} {base : Heap} {f : Addr} {fd : FuncData} {CT CR CS : Addr}
/-! ### _law_trimmed -/
theorem cat_use {H : Hp} {a b : Addr} {xs ys : List V} {Q : VK} (ha : H a = some (.tup xs)) (hb : H b = some (.tup ys)) (hn : xs.length + ys.length ≤ 10000) (k : ∀ H' p, Same H H' → H' p = some (.tup (xs ++ ys)) → Q (.ref p) H') : rCatA K (.ref a) (.ref b) H Q := by
  refine ⟨a, b, xs, ys, rfl, rfl, SqT.of ha, SqT.of hb, by rw [line_]; omega, fun e => ?_, fun _ e => ?_, fun _ _ p hp => k _ p (same_new hp) upd_same⟩
  · exact k H b (Same.refl _) (by rw [hb, e]; rfl)
  · exact k H a (Same.refl _) (by rw [ha, e, List.append_nil])
theorem tail_use {H : Hp} {a : Addr} {xs : List V} {Q : VK} (ha : H a = some (.tup xs)) (k : ∀ H' p, Same H H' → H' p = some (.tup xs.tail) → Q (.ref p) H') : rSlA K (.ref a) (some 1) none H Q := by
  cases xs with
  | nil => exact ⟨a, [], rfl, SqT.of ha, fun _ => k H a (Same.refl _) ha, fun h => absurd ⟨rfl, rfl⟩ h⟩
  | cons v l => exact sl_tail ha fun p hp => k _ p (same_new hp) upd_same
theorem sIx_back (n d : Nat) : HT.sIx n d (some (-1)) = n - 1 := by
  show (if (-1 : Int) < 0 then (-1 + (n : Int)).toNat else min (-1 : Int).toNat n) = n - 1
  rw [if_pos (by decide)]
  omega
theorem last_use {H : Hp} {a : Addr} {xs : List V} {Q : VK} (ha : H a = some (.tup xs)) (hx : xs ≠ []) (k : ∀ p, H p = none → Q (.ref p) (upd H p (.tup xs.dropLast))) : rSlA K (.ref a) none (some (-1)) H Q := by
  have hl : 0 < xs.length := List.length_pos_iff.mpr hx
  refine ⟨a, xs, rfl, SqT.of ha, fun hw => ?_, fun _ p hp => ?_⟩
  · have := hw.2
    rw [sIx_back] at this
    omega
  · have e : cutV xs none (some (-1)) = xs.dropLast := by
      unfold cutV
      rw [sIx_back]
      show (xs.drop 0).take (xs.length - 1 - 0) = xs.dropLast
      rw [List.drop_zero, Nat.sub_zero, List.dropLast_eq_take]
    rw [e]
    exact k p hp
def spLTrimmed : Sp := fun vs H Q _ => ∃ (p : Addr) (l : List Nat), vs = [.ref p] ∧ H p = some (.tup (l.map nV)) ∧ l.length ≤ 1000 ∧ ∀ H' p', Same H H' → H' p' = some (.tup ((trim l).map nV)) → Q (.ref p') H'
theorem scLTrimmed : FnScope ["_law_marks", "_law_k"] ["_law_marks"] (defScope sLTrimmed) := ⟨rfl, rfl, rfl, by decide +kernel, rfl, by decide +kernel, by decide +kernel⟩
theorem ok_lTrimmed (F : Fun K "_law_trimmed" "_law_trimmed" sLTrimmed f fd) (T : Bl mg) : FnOk P w K mg base CX0 1 f fd ["_law_marks"] spLTrimmed := by
  refine F.ok scLTrimmed (fun vs H Q E h => ?_) (fun cdv A outer s H vs Q E hr h => ?_)
  · obtain ⟨p, l, rfl, _⟩ := h
    rfl
  · obtain ⟨p, l, rfl, hp, hl, k⟩ := h
    refine ⟨_, (pss_cons (ps_for PassesOwn.never rfl (pi_range1 rfl T.range (pa_cons (pe_callB call_len_seq (by rfl) T.len PySem.boot_len (pa_cons (pv 0) pa_nil)) pa_nil)) (pg_name (i := 1) scLTrimmed.nd rfl (.inl rfl)) (pss_one (ps_if (PW.pt (pw_and (pt_cmpR op_gt (pe_callB call_len_seq (by rfl) T.len PySem.boot_len (pa_cons (pv 0) pa_nil)) pe_int (nomark _)) (pw_and1 (pt_cmpR op_eq (pe_ix ix_tup (pv 0) (pe_un un_neg pe_int) (fun _ _ => rfl)) pe_int (nomark _))))) (pss_one (ps_set (i := 0) scLTrimmed.nd rfl (.inl rfl) (pe_slice sl_tupA (pv 0) po_none (po_some (pe_un un_neg pe_int))))) pss_nil)))
      (pss_one (ps_ret (pv 0)))), ?_⟩
    walk_at "rd"
    refine ⟨_, rfl, p, rfl, _, .inr (SqT.of hp), _, rfl, by omega, by simp; omega, ?_⟩
    refine for_range (lo := 0) (fun i σ H' => ∃ pk a, σ = [some (.ref pk), a] ∧ Same H H' ∧ H' pk = some (.tup ((trimK i l).map nV))) ⟨p, _, rfl, Same.refl _, hp⟩ ?_ ?_
    · rintro i σ H1 hi ⟨pk, a, rfl, s1, h1⟩
      walk_at "rd"
      refine ⟨_, .inr (SqT.of h1), ?_⟩
      rw [show trimK (i + 1) l = chop (trimK i l) from rfl]
      generalize trimK i l = cur at h1 ⊢
      rcases List.eq_nil_or_concat cur with e | ⟨l', b, e⟩
      · subst e
        exact iteN (by decide) ⟨s1, h1⟩
      · rw [List.concat_eq_append] at e
        subst e
        refine iteP (by simp) ⟨_, SqT.of h1, nV b, by rw [List.map_append]; exact atI_last _ _, ?_⟩
        walk_at "rd"
        by_cases hb : b = 0
        · subst hb
          refine iteP rfl (last_use h1 (by simp) fun p' hp' => ⟨p', rfl, same_add s1 hp', ?_⟩)
          have e : chop (l' ++ [0]) = l' := by
            unfold chop
            rw [if_pos (by simp), List.dropLast_concat]
          rw [upd_same, e, List.map_append]
          simp
        · refine iteN (by omega) ⟨s1, ?_⟩
          rw [chop_trm (by unfold Trm; simpa using hb)]
          exact h1
    · rintro σ H1 ⟨pk, a, rfl, s1, h1⟩
      refine ⟨_, rfl, k H1 pk s1 ?_⟩
      rw [Int.toNat_natCast, List.length_map] at h1
      exact h1
/-! ### _law_draws -/
def DsAt (H : Hp) (D : Addr) (n : Nat) (ds : List Nat) : Prop := H D = some (.lst (ds.map nV)) ∧ (∀ d ∈ ds, d < 65521) ∧ ds.length ≤ n
theorem cutV_take {xs : List V} {n : Nat} : cutV xs none (some (n : Int)) = xs.take n := by
  unfold cutV
  rw [HT.sIx_nat]
  show (xs.drop 0).take (min n xs.length - 0) = xs.take n
  rw [List.drop_zero, Nat.sub_zero]
  rcases Nat.le_total n xs.length with h | h
  · rw [Nat.min_eq_left h]
  · rw [Nat.min_eq_right h, List.take_length, List.take_of_length_le h]
theorem DsAt.put {H : Hp} {D : Addr} {n : Nat} {ds : List Nat} {d : Nat} (h : DsAt H D n ds) (hd : d < 65521) : DsAt (upd H D (.lst (ds.map nV ++ [nV d]))) D (n + 1) (ds ++ [d]) := by
  refine ⟨by rw [upd_same, List.map_append]; rfl, fun e he => ?_, by rw [List.length_append]; exact Nat.succ_le_succ h.2.2⟩
  rcases List.mem_append.mp he with q | q
  · exact h.2.1 e q
  · rw [List.mem_singleton.mp q]
    exact hd
theorem DsAt.le {H : Hp} {D : Addr} {n n' : Nat} {ds : List Nat} (h : DsAt H D n ds) (e : n ≤ n') : DsAt H D n' ds := ⟨h.1, h.2.1, Nat.le_trans h.2.2 e⟩
theorem nat_mod (z : Int) {m : Nat} (hm : 0 < m) : ∃ n : Nat, n < m ∧ z % (m : Int) = (n : Int) := by
  have h0 : 0 ≤ z % (m : Int) := Int.emod_nonneg _ (by omega)
  have h1 : z % (m : Int) < (m : Int) := Int.emod_lt_of_pos _ (by omega)
  exact ⟨(z % (m : Int)).toNat, by omega, by omega⟩
/-- between the turns over the script's cells -/
def DrI (H : Hp) (a D p1 : Addr) (xs : List V) (n : Nat) (σ : L2.St) (H' : Hp) : Prop := ∃ b c d sd ds, σ = [some (.ref a), some (.int 60), some (.ref D), some (nV sd), b, c, d] ∧ sd < 2147483647 ∧ Same H H' ∧ H' p1 = some (.lst xs) ∧ DsAt H' D n ds
/-- between the turns over a great cell -/
def DrJ (H : Hp) (a D p1 : Addr) (xs : List V) (sd : Nat) (cell : Int) (n : Nat) (σ : L2.St) (H' : Hp) : Prop := ∃ z d ds, σ = [some (.ref a), some (.int 60), some (.ref D), some (nV sd), some (.int cell), some (.int z), d] ∧ Same H H' ∧ H' p1 = some (.lst xs) ∧ DsAt H' D n ds
/-- between the turns that fill up -/
def DrK (H : Hp) (a D : Addr) (i : Nat) (σ : L2.St) (H' : Hp) : Prop := ∃ b c d sd ds, σ = [some (.ref a), some (.int 60), some (.ref D), some (nV sd), b, c, d] ∧ sd < 2147483647 ∧ Same H H' ∧ DsAt H' D 5000 ds ∧ i ≤ ds.length
def spDraws (K : PySem.W.Frag) : Sp := fun vs H Q _ => ∃ (a : Addr) (ns : List Int), vs = [.ref a, .int 60] ∧ SqL K H a (ns.map V.int) ∧ ns.length ≤ 63 ∧ ∀ (H' : Hp) (l : Addr) (ds : List Nat), Same H H' → H' l = some (.lst (ds.map nV)) → ds.length = 60 → Q (.ref l) H'
theorem scDraws : FnScope ["_law_script", "_law_many", "_law_draws_here", "_law_seed", "_law_cell", "_law_number", "_law_k"] ["_law_script", "_law_many"] (defScope sLDraws) := ⟨rfl, rfl, rfl, by decide +kernel, rfl, by decide +kernel, by decide +kernel⟩
theorem ok_draws (F : Fun K "_law_draws" "_law_draws" sLDraws f fd) (T : Bl mg) : FnOk P w K mg base CX0 1 f fd ["_law_script", "_law_many"] (spDraws K) := by
  refine F.ok scDraws (fun vs H Q E h => ?_) (fun cdv A outer s H vs Q E hr h => ?_)
  · obtain ⟨a, ns, rfl, _⟩ := h
    rfl
  · obtain ⟨a, ns, rfl, hS, hn, k⟩ := h
    refine ⟨_, (pss_cons (ps_set (i := 2) scDraws.nd rfl (.inl rfl) (pe_lst pa_nil))
      (pss_cons (ps_set (i := 3) scDraws.nd rfl (.inl rfl) pe_int)
      (pss_cons (ps_for PassesOwn.never rfl (pi_list (pe_slice sl_list (pv 0) po_none (po_some pe_int))) (pg_name (i := 4) scDraws.nd rfl (.inl rfl)) (pss_cons (ps_set (i := 5) scDraws.nd rfl (.inl rfl) (pe_callB call_abs (by rfl) T.abs (by decide +kernel) (pa_cons (pv 4) pa_nil)))
      (pss_cons (ps_set (i := 3) scDraws.nd rfl (.inl rfl) (pe_op op_mod (pe_callTy call_int1 (by rfl) T.int PyProof.Rows.boot_int (pa_cons (pe_op op_add (pe_op op_add (pe_op op_mul (pv 3) pe_int) (pv 5)) pe_int) pa_nil)) pe_int))
      (pss_one (ps_if (pt_cmpR op_ge (pv 5) (pe_op op_pow pe_int pe_int) (nomark _)) (pss_one (ps_for PassesOwn.never rfl (pi_range1 rfl T.range (pa_cons pe_int pa_nil)) (pg_name (i := 6) scDraws.nd rfl (.inl rfl)) (pss_one (ps_if (pt_cmpR op_gt (pv 5) pe_int (nomark _)) (pss_cons (ps_expr (pe_bm PySem.F.plainAttrs_list PySem.F.slot_list_append PySem.F.type_list_append mt_append (pv 2) (pa_cons (pe_op op_mod (pe_callTy call_int1 (by rfl) T.int PyProof.Rows.boot_int (pa_cons (pv 5) pa_nil)) pe_int) pa_nil)))
      (pss_one (ps_set (i := 5) scDraws.nd rfl (.inl rfl) (pe_op op_fdiv (pv 5) pe_int)))) pss_nil)))) (pss_one (ps_expr (pe_bm PySem.F.plainAttrs_list PySem.F.slot_list_append PySem.F.type_list_append mt_append (pv 2) (pa_cons (pe_op op_mod (pe_op op_fdiv (pe_callTy call_int1 (by rfl) T.int PyProof.Rows.boot_int (pa_cons (pe_op op_add (pe_op op_mul (pv 3) pe_int) pe_int) pa_nil)) pe_int) pe_int) pa_nil)))))))))
      (pss_cons (ps_for PassesOwn.never rfl (pi_range1 rfl T.range (pa_cons (pv 1) pa_nil)) (pg_name (i := 6) scDraws.nd rfl (.inl rfl)) (pss_one (ps_if (pt_cmpR op_lt (pe_callB call_len_seq (by rfl) T.len PySem.boot_len (pa_cons (pv 2) pa_nil)) (pv 1) (nomark _)) (pss_cons (ps_set (i := 3) scDraws.nd rfl (.inl rfl) (pe_op op_mod (pe_callTy call_int1 (by rfl) T.int PyProof.Rows.boot_int (pa_cons (pe_op op_add (pe_op op_add (pe_op op_mul (pv 3) pe_int) (pv 6)) pe_int) pa_nil)) pe_int))
      (pss_one (ps_expr (pe_bm PySem.F.plainAttrs_list PySem.F.slot_list_append PySem.F.type_list_append mt_append (pv 2) (pa_cons (pe_op op_mod (pe_op op_fdiv (pe_callTy call_int1 (by rfl) T.int PyProof.Rows.boot_int (pa_cons (pv 3) pa_nil)) pe_int) pe_int) pa_nil))))) pss_nil)))
      (pss_one (ps_ret (pe_slice sl_list (pv 2) po_none (po_some (pv 1))))))))), ?_⟩
    walk_at "rd"
    refine ⟨Nat.zero_le _, fun D hD => ?_⟩
    have sD : Same H (upd H D (.lst [])) := same_new hD
    refine ⟨_, rfl, _, rfl, a, _, rfl, sD.seq hS, fun p1 hp1 => ?_⟩
    have e63 : cutV (ns.map V.int) none (some 63) = ns.map V.int := by
      have := cutV_take (xs := ns.map V.int) (n := 63)
      rw [show ((63 : Nat) : Int) = 63 from rfl] at this
      rw [this, List.take_of_length_le (by rw [List.length_map]; exact hn)]
    rw [e63]
    have s1 : Same H (upd (upd H D (.lst [])) p1 (.lst (ns.map V.int))) := same_add sD hp1
    have nD1 : p1 ≠ D := (ne_of_none (upd_same (H := H) (a := D) (o := .lst [])) hp1).symm
    have d1 : DsAt (upd (upd H D (.lst [])) p1 (.lst (ns.map V.int))) D (60 * 0) [] := ⟨by rw [upd_ne nD1.symm, upd_same]; rfl, by simp, Nat.le_refl _⟩
    refine ⟨p1, rfl, ⟨_, SqL.of upd_same⟩, ?_⟩
    refine for_list (K := K) (a := p1) (xs := ns.map V.int) (fun i σ H' => DrI H a D p1 (ns.map V.int) (60 * i) σ H') ⟨_, _, _, 7, [], rfl, by decide, s1, upd_same, d1⟩ (fun i σ H' _ ⟨_, _, _, _, _, _, _, _, h, _⟩ => SqL.of h) ?_ ?_
    · rintro i x σ H1 hx ⟨b, c, d, sd, ds, rfl, hsd, s2, hp, hds⟩
      obtain ⟨cell, rfl⟩ : ∃ cell, x = V.int cell := by
        rw [List.getElem?_map] at hx
        cases e : ns[i]? with
        | none =>
          rw [e] at hx
          cases hx
        | some u =>
          rw [e] at hx
          exact ⟨u, (Option.some.inj hx).symm⟩
      have hi : i < 63 := by
        have := (List.getElem?_eq_some_iff.mp hx).1
        rw [List.length_map] at this
        omega
      walk_at "rd"
      generalize (if cell < 0 then -cell else cell) = z0
      obtain ⟨sd', hsd', es⟩ := nat_mod ((sd : Int) * 48271 + z0 + 11) (m := 2147483647) (by decide)
      rw [show ((2147483647 : Nat) : Int) = 2147483647 from rfl] at es
      rw [es]
      refine ⟨.inl ⟨by omega, by omega⟩, by decide, ⟨by decide, by decide, by decide⟩, ?_⟩
      refine ite2 (fun _ => ?_) (fun _ => ?_)
      · refine ⟨60, rfl, by decide, by decide, ?_⟩
        refine for_range (lo := 0) (fun k σ H' => DrJ H a D p1 (ns.map V.int) sd' cell (60 * i + k) σ H') ⟨z0, _, ds, rfl, s2, hp, hds⟩ ?_ ?_
        · rintro k σ H2 hk ⟨z, d, ds, rfl, s3, hp3, hds3⟩
          have hk60 : k < 60 := hk
          walk_at "rd"
          refine ite2 (fun _ => ?_) (fun _ => ⟨z, _, ds, rfl, s3, hp3, hds3.1, hds3.2.1, Nat.le_succ_of_le hds3.2.2⟩)
          obtain ⟨n, hn9, en⟩ := nat_mod z (m := 1009) (by decide)
          rw [show ((1009 : Nat) : Int) = 1009 from rfl] at en
          rw [en]
          have hln := hds3.2.2
          refine ⟨.inl ⟨rfl, _, SqL.of hds3.1⟩, by decide, D, _, _, rfl, rfl, hds3.1, by rw [List.length_map, line_]; omega, ⟨by decide, by decide⟩, ?_⟩
          exact ⟨_, _, _, rfl, same_put s3 hD, by rw [upd_ne nD1]; exact hp3, hds3.put (by omega)⟩
        · rintro σ H2 ⟨z, d, ds, rfl, s3, hp3, hds3⟩
          exact ⟨_, _, _, sd', ds, rfl, hsd', s3, hp3, hds3⟩
      · obtain ⟨n, hn9, en⟩ := nat_mod (((sd' : Int) * 16807 + 5) / 3) (m := 65521) (by decide)
        rw [show ((65521 : Nat) : Int) = 65521 from rfl] at en
        rw [en]
        have hln := hds.2.2
        refine ⟨.inl ⟨rfl, _, SqL.of hds.1⟩, .inl ⟨by omega, by omega⟩, ⟨by decide, by decide⟩, by decide, D, _, _, rfl, rfl, hds.1, by rw [List.length_map, line_]; omega, ?_⟩
        exact ⟨_, _, _, sd', _, rfl, hsd', same_put s2 hD, by rw [upd_ne nD1]; exact hp, (hds.put hn9).le (by omega)⟩
    · rintro σ H1 ⟨b, c, d, sd, ds, rfl, hsd, s2, hp, hds⟩
      refine ⟨_, rfl, 60, rfl, by decide, by decide, ?_⟩
      rw [List.length_map] at hds
      refine for_range (lo := 0) (fun k σ H' => DrK H a D k σ H') ⟨_, _, _, sd, ds, rfl, hsd, s2, hds.le (by omega), Nat.zero_le _⟩ ?_ ?_
      · rintro i σ H2 hi ⟨b, c, d, sd, ds, rfl, hsd, s3, hds3, hid⟩
        have hi60 : i < 60 := hi
        walk_at "rd"
        refine ⟨_, .inl (SqL.of hds3.1), ?_⟩
        rw [List.length_map]
        refine ite2 (fun h60 => ?_) (fun h60 => ⟨_, _, _, sd, ds, rfl, hsd, s3, hds3, by omega⟩)
        obtain ⟨sd', hsd', es⟩ := nat_mod ((sd : Int) * 69621 + (0 + (i : Int)) + 1) (m := 2147483647) (by decide)
        rw [show ((2147483647 : Nat) : Int) = 2147483647 from rfl] at es
        rw [es]
        obtain ⟨n, hn9, en⟩ := nat_mod ((sd' : Int) / 7) (m := 65521) (by decide)
        rw [show ((65521 : Nat) : Int) = 65521 from rfl] at en
        rw [en]
        refine ⟨.inl ⟨by omega, by omega⟩, by decide, .inl ⟨rfl, _, SqL.of hds3.1⟩, ⟨by decide, by decide⟩, by decide, D, _, _, rfl, rfl, hds3.1, by rw [List.length_map, line_]; omega, ?_⟩
        refine ⟨_, _, _, sd', ds ++ [n], rfl, hsd', same_put s3 hD, ?_, by rw [List.length_append]; exact Nat.succ_le_succ hid⟩
        have hp3 := hds3.put hn9
        exact ⟨hp3.1, hp3.2.1, by rw [List.length_append]; show ds.length + 1 ≤ 5000; omega⟩
      · rintro σ H2 ⟨b, c, d, sd, ds, rfl, hsd, s3, hds3, hid⟩
        walk_at "rd"
        have hid' : 60 ≤ ds.length := hid
        refine ⟨D, _, rfl, SqL.of hds3.1, fun p hp => k _ p (ds.take 60) (same_add s3 hp) ?_ (by rw [List.length_take]; omega)⟩
        have := cutV_take (xs := ds.map nV) (n := 60)
        rw [show ((60 : Nat) : Int) = 60 from rfl] at this
        rw [upd_same, this, List.map_take]
/-! ### _law_machine -/
/-- between the turns that make the rows -/
def MaI (H : Hp) (l L : Addr) (m s i : Nat) (σ : L2.St) (H' : Hp) : Prop := ∃ a b c us rows, σ = [some (.ref l), some (nV m), some (nV s), some (.ref L), a, b, c] ∧ Same H H' ∧ H' L = some (.lst us) ∧ All2 (RowV H') us rows ∧ rows.length = i ∧ ∀ r : Row, some r ∈ rows → r.1 < m ∧ r.2.2 < s
def spMachine : Sp := fun vs H Q _ => ∃ (l : Addr) (m s : Nat) (ds : List Nat), vs = [.ref l, nV m, nV s] ∧ H l = some (.lst (ds.map nV)) ∧ ds.length = 60 ∧ Small m s ∧
  ∀ (H' : Hp) (l' : Addr) (us : List V) (rows : List (Option Row)), Same H H' → H' l' = some (.lst us) → All2 (RowV H') us rows → RowsOk m s rows → Q (.ref l') H'
theorem scMachine : FnScope ["_law_draws_here", "_law_marks", "_law_states", "_law_rows", "_law_k", "_law_draw", "_law_row"] ["_law_draws_here", "_law_marks", "_law_states"] (defScope sLMachine) := ⟨rfl, rfl, rfl, by decide +kernel, rfl, by decide +kernel, by decide +kernel⟩
theorem ok_machine (F : Fun K "_law_machine" "_law_machine" sLMachine f fd) (T : Bl mg) : FnOk P w K mg base CX0 1 f fd ["_law_draws_here", "_law_marks", "_law_states"] spMachine := by
  refine F.ok scMachine (fun vs H Q E h => ?_) (fun cdv A outer s H vs Q E hr h => ?_)
  · obtain ⟨l, m, s, ds, rfl, _⟩ := h
    rfl
  · obtain ⟨l, m, s, ds, rfl, hl, hd, sm, k⟩ := h
    refine ⟨_, (pss_cons (ps_set (i := 3) scMachine.nd rfl (.inl rfl) (pe_lst pa_nil))
      (pss_cons (ps_for PassesOwn.never rfl (pi_range1 rfl T.range (pa_cons (pe_op op_mul (pv 1) (pv 2)) pa_nil)) (pg_name (i := 4) scMachine.nd rfl (.inl rfl)) (pss_cons (ps_set (i := 5) scMachine.nd rfl (.inl rfl) (pe_ix ix_list (pv 0) (pv 4) (fun _ _ => rfl)))
      (pss_cons (ps_set (i := 6) scMachine.nd rfl (.inl rfl) (pe_tup (pa_cons (pe_op op_mod (pe_callTy call_int1 (by rfl) T.int PyProof.Rows.boot_int (pa_cons (pv 5) pa_nil)) (pv 1)) (pa_cons (pe_ix ix_list (pe_lst (pa_cons (pe_un un_neg pe_int) (pa_cons pe_int pa_nil))) (pe_op op_mod (pe_callTy call_int1 (by rfl) T.int PyProof.Rows.boot_int (pa_cons (pe_op op_fdiv (pv 5) pe_int) pa_nil)) pe_int) (fun _ _ => rfl)) (pa_cons (pe_op op_mod (pe_callTy call_int1 (by rfl) T.int PyProof.Rows.boot_int (pa_cons (pe_op op_fdiv (pv 5) pe_int) pa_nil)) (pv 2)) pa_nil)))))
      (pss_one (ps_expr (pe_bm PySem.F.plainAttrs_list PySem.F.slot_list_append PySem.F.type_list_append mt_append (pv 3) (pa_cons (pe_ix ix_list (pe_lst (pa_cons (pv 6) (pa_cons pe_non pa_nil))) (pe_callTy call_int1 (by rfl) T.int PyProof.Rows.boot_int (pa_cons (pe_cmpR op_eq (pe_op op_mod (pe_callTy call_int1 (by rfl) T.int PyProof.Rows.boot_int (pa_cons (pe_op op_fdiv (pv 5) pe_int) pa_nil)) pe_int) pe_int (nomark _)) pa_nil)) (fun _ _ => rfl)) pa_nil)))))))
      (pss_one (ps_ret (pv 3))))), ?_⟩
    walk_at "rd"
    have e2 := sm.m2
    have e10 := sm.m10
    have e1 := sm.s1
    have e20 := sm.s20
    have ems := sm.ms
    have eint : (m : Int) * (s : Int) = ((m * s : Nat) : Int) := (Int.natCast_mul m s).symm
    refine ⟨Nat.zero_le _, fun L hL => ?_⟩
    refine ⟨_, rfl, _, rfl, (m : Int), (s : Int), rfl, rfl, .inl ⟨by omega, by omega⟩, (m : Int) * (s : Int), rfl, by rw [eint]; omega, by rw [eint]; omega, ?_⟩
    rw [eint, Int.toNat_natCast]
    refine for_range (lo := 0) (fun i σ H' => MaI H l L m s i σ H') ⟨_, _, _, [], [], rfl, same_new hL, upd_same, All2.nil, rfl, by simp⟩ ?_ ?_
    · rintro i σ H1 hi ⟨a, b, c, us, rows, rfl, s1, hL1, hu, hlen, hok⟩
      have hid : i < ds.length := by omega
      have hx := at_map (List.getElem?_eq_getElem hid)
      generalize ds[i] = d at hx
      walk_at "rd"
      rw [Int.zero_add]
      refine ⟨_, SqL.of (s1 _ _ hl), _, atI_nat hx, ?_⟩
      walk_at "rd"
      obtain ⟨wn, hw, ew⟩ := nat_mod (d : Int) (m := m) (by omega)
      obtain ⟨mn, hm2, em⟩ := nat_mod ((d : Int) / 4) (m := 2) (by decide)
      rw [show ((2 : Nat) : Int) = 2 from rfl] at em
      obtain ⟨tn, ht, et⟩ := nat_mod ((d : Int) / 8) (m := s) (by omega)
      obtain ⟨mv, hmv⟩ : ∃ b : Bool, atI [V.int (-1), V.int 1] ((d : Int) / 4 % 2) = some (V.int (mvI b)) := by
        rw [em]
        have : mn = 0 ∨ mn = 1 := by omega
        rcases this with e | e
        · subst e
          exact ⟨false, at0⟩
        · subst e
          exact ⟨true, at1⟩
      rw [ew, et]
      refine ⟨by omega, (by show 2 ≤ sizeLine; decide), fun p1 hp1 => ⟨⟨by decide, by decide⟩, by decide, _, SqL.of upd_same, _, hmv, ⟨by decide, by decide⟩, by omega, (by show 3 ≤ sizeLine; decide), fun p2 hp2 => ?_⟩⟩
      have s3 : Same H1 (upd (upd H1 p1 (.lst [.int (-1), .int 1])) p2 (.tup [nV wn, .int (mvI mv), nV tn])) := (same_new hp1).trans (same_new hp2)
      have hr3 : upd (upd H1 p1 (.lst [.int (-1), .int 1])) p2 (.tup [nV wn, .int (mvI mv), nV tn]) p2 = some (.tup [nV wn, .int (mvI mv), nV tn]) := upd_same
      generalize upd (upd H1 p1 (.lst [.int (-1), .int 1])) p2 (.tup [nV wn, .int (mvI mv), nV tn]) = H3 at s3 hr3 ⊢
      have hlu := hu.1
      refine ⟨.inl ⟨rfl, _, SqL.of (s3 _ _ hL1)⟩, (by show 2 ≤ sizeLine; decide), fun p3 hp3 => ⟨⟨by decide, by decide⟩, by decide, _, SqL.of upd_same, ?_⟩⟩
      have s4 : Same H1 (upd H3 p3 (.lst [.ref p2, .non])) := s3.trans (same_new hp3)
      have hr4 := same_new (o := .lst [.ref p2, .non]) hp3 _ _ hr3
      have hL4 := s4 _ _ hL1
      have s5 := s1.trans s4
      generalize upd H3 p3 (.lst [.ref p2, .non]) = H4 at s4 hr4 hL4 s5 ⊢
      by_cases h5 : (d : Int) / 40 % 5 = 0
      · rw [if_pos h5]
        refine ⟨.non, at1, L, us, _, rfl, rfl, hL4, by rw [line_]; omega, _, _, _, us ++ [.non], rows ++ [none], rfl, same_put s5 hL, upd_same, (hu.mono (RowV.mono ((Tp.of s4).trans (Tp.lst hL4)))).snoc (v := .non) (b := none) rfl, by rw [List.length_append, hlen]; rfl, fun r hr => ?_⟩
        rcases List.mem_append.mp hr with e | e
        · exact hok r e
        · have := List.mem_singleton.mp e
          cases this
      · rw [if_neg h5]
        refine ⟨.ref p2, at0, L, us, _, rfl, rfl, hL4, by rw [line_]; omega, _, _, _, us ++ [.ref p2], rows ++ [some (wn, mv, tn)], rfl, same_put s5 hL, upd_same, (hu.mono (RowV.mono ((Tp.of s4).trans (Tp.lst hL4)))).snoc ⟨p2, rfl, Tp.lst hL4 _ _ hr4⟩, by rw [List.length_append, hlen]; rfl, fun r hr => ?_⟩
        rcases List.mem_append.mp hr with e | e
        · exact hok r e
        · have := List.mem_singleton.mp e
          injection this with this
          rw [this]
          exact ⟨hw, ht⟩
    · rintro σ H1 ⟨a, b, c, us, rows, rfl, s1, hL1, hu, hlen, hok⟩
      exact ⟨_, rfl, k H1 L us rows s1 hL1 hu ⟨hlen, hok⟩⟩
end
end K68
end
section
open PySem L2 TL
open C8 (Cal CalAt Met Mak pe_c pe_mk pe_mt pe_mt0 pe_cv pe_gc pss_cut tCallV tCut)
local macro_rules | `(tactic| walk_at "rd") => `(tactic| simp only [K68.cx_K, wipe, tYes, rIxT, rIxL, tRet, tRetN, tAndV, tOrV, tCB, tCons, tNil, tVar, tC, tNotV, tChain, rI0, rI, rU, tUn, tOp, L2.start, tSeq, tAsg, gName, tIfS, tTest, tDrop, tTup, tLst, tNext, tBreak, tCont, tB, tNot, tAnd, tOr, tIf, tCall, tMeth, tFld, tCut, K68.tRevT, tIsN, tNotN, tCmp, t2I, tJs, tFmt, K68.rEq_str, K68.rNe_str, K68.rEq_int, K68.rNe_int, decide_eq_true_eq, and_assoc, tPar, gTup, gCons, gNil, tCallV, tMake, tSl, tPart, tNoPart, tBM, tBM0, tM0, tM1, sFld,
  List.map, List.replicate, List.length_cons, List.length_nil, List.cons_append, List.nil_append, List.append_nil, List.set_cons_zero, List.set_cons_succ, List.getElem?_cons_zero, List.getElem?_cons_succ, Nat.zero_add, Nat.sub_self, Nat.reduceAdd, Nat.reduceSub,
  Option.some.injEq, exists_eq_left', exists_eq_left, exists_and_left, exists_eq, exists_eq', exists_false, V.int.injEq, V.bl.injEq, V.str.injEq, V.ref.injEq, List.cons.injEq, if_true, if_false, Bool.false_eq_true, true_and, and_true, false_and, and_false, false_or, or_false, decide_true, decide_false, Bool.and_self, Bool.and_true, Bool.true_and, tNever, Bool.not_true, Bool.not_false, reduceIte, reduceCtorEq])
local macro_rules | `(tactic| walk_at "tx") => `(tactic| simp only [K68.S_eq, Int.natCast_eq_zero, K68.e_nil, K68.e_nil', K68.e_open, K68.e_close, K68.e_left, K68.e_right, K68.e_zero, K68.e_zeroR, K68.e_digits, K68.S_num, K68.S_app, K68.S_len, List.cons_append, List.nil_append, List.append_assoc, List.length_append, List.length_cons, List.length_nil, List.cons.injEq, and_true, K68.line_])
namespace K68
section
variable {P : Program} {w : World} {K : PySem.W.Frag} {mg : Str → Option Value} {base : Heap} {f : Addr} {fd : FuncData} {CT CR CS : Addr}
/-! ### _law_tape_step -/
def AfAt (H : Hp) (v : V) (c : Cf) (o : Option Row) : Prop := match o with
  | none => v = .non
  | some r => ∃ t, v = .ref t ∧ CfAt H t (cstep r c)
theorem at_head (l : List Nat) : atI (l.map nV ++ [V.int 0]) 0 = some (nV (l.headD 0)) := by
  cases l with
  | nil => exact at0
  | cons a l => exact at0
def spLStep : Sp := fun vs H Q _ => ∃ (l t : Addr) (m s : Nat) (us : List V) (rows : List (Option Row)) (c : Cf), vs = [.ref l, nV m, .ref t] ∧ H l = some (.lst us) ∧ All2 (RowV H) us rows ∧ RowsOk m s rows ∧ Small m s ∧ CfAt H t c ∧ c.Ok m s ∧ c.L.length ≤ 100 ∧ c.R.length ≤ 100 ∧
  ∀ H' v, Same H H' → AfAt H' v c (rowAt m rows c.q c.a) → Q v H'
theorem scLStep : FnScope ["_law_rows", "_law_marks", "_law_configuration_here", "_law_state", "_law_left", "_law_mark", "_law_right", "_law_row"] ["_law_rows", "_law_marks", "_law_configuration_here"] (defScope sLStep) := ⟨rfl, rfl, rfl, by decide +kernel, rfl, by decide +kernel, by decide +kernel⟩
theorem ok_lStep (F : Fun K "_law_tape_step" "_law_tape_step" sLStep f fd) (T : Bl mg) (cT : Cal P w K mg base 1 "_law_trimmed" spLTrimmed []) : FnOk P w K mg base CX0 2 f fd ["_law_rows", "_law_marks", "_law_configuration_here"] spLStep := by
  refine F.ok scLStep (fun vs H Q E h => ?_) (fun cdv A outer s H vs Q E hr h => ?_)
  · obtain ⟨l, t, m, s, us, rows, c, rfl, _⟩ := h
    rfl
  · obtain ⟨l, t, m, s, us, rows, c, rfl, hl, hu, ro, sm, ⟨lL, lR, h1, h2, h3⟩, ok, nL, nR, k⟩ := h
    refine ⟨_, (pss_cons (ps_asg (pv 2) (pg_tup rfl (pgs_cons (pg_name (i := 3) scLStep.nd rfl (.inl rfl)) (pgs_cons (pg_name (i := 4) scLStep.nd rfl (.inl rfl)) (pgs_cons (pg_name (i := 5) scLStep.nd rfl (.inl rfl)) (pgs_cons (pg_name (i := 6) scLStep.nd rfl (.inl rfl)) pgs_nil))))))
      (pss_cons (ps_set (i := 7) scLStep.nd rfl (.inl rfl) (pe_ix ix_list (pv 0) (pe_op op_add (pe_op op_mul (pv 3) (pv 1)) (pv 5)) (fun _ _ => rfl)))
      (pss_cons (ps_if (pt_cmp (pc_isN (pv 7)) rfl) (pss_one (ps_ret pe_non)) pss_nil)
      (pss_cons (ps_if (pt_cmpR op_eq (pe_ix ix_tup (pv 7) pe_int (fun _ _ => rfl)) pe_int (nomark _)) (pss_one (ps_ret (pe_tup (pa_cons (pe_ix ix_tup (pv 7) pe_int (fun _ _ => rfl)) (pa_cons (pe_c cT hr (by decide) (by rfl) (by exact (pa_cons (pe_op op_catA (pe_tup (pa_cons (pe_ix ix_tup (pv 7) pe_int (fun _ _ => rfl)) pa_nil)) (pv 4)) pa_nil))) (pa_cons (pe_ix ix_tup (pe_op op_catA (pv 6) (pe_tup (pa_cons pe_int pa_nil))) pe_int (fun _ _ => rfl)) (pa_cons (pe_slice sl_tupA (pv 6) (po_some pe_int) po_none) pa_nil))))))) pss_nil)
      (pss_one (ps_ret (pe_tup (pa_cons (pe_ix ix_tup (pv 7) pe_int (fun _ _ => rfl)) (pa_cons (pe_slice sl_tupA (pv 4) (po_some pe_int) po_none) (pa_cons (pe_ix ix_tup (pe_op op_catA (pv 4) (pe_tup (pa_cons pe_int pa_nil))) pe_int (fun _ _ => rfl)) (pa_cons (pe_c cT hr (by decide) (by rfl) (by exact (pa_cons (pe_op op_catA (pe_tup (pa_cons (pe_ix ix_tup (pv 7) pe_int (fun _ _ => rfl)) pa_nil)) (pv 6)) pa_nil))) pa_nil))))))))))), ?_⟩
    have e2 := sm.m2
    have e10 := sm.m10
    have e20 := sm.s20
    have okq := ok.q
    walk_at "rd"
    refine ⟨_, SqT.of h1, rfl, ?_⟩
    walk_at "rd"
    obtain ⟨v, hv, rv⟩ := hu.at (row_at ro ok.q ok.a)
    have eix : (c.q : Int) * (m : Int) + (c.a : Int) = ((c.q * m + c.a : Nat) : Int) := by rw [Int.natCast_add, Int.natCast_mul]
    refine ⟨.inl ⟨by omega, by omega⟩, us, SqL.of hl, v, by rw [eix]; exact atI_nat hv, ?_⟩
    cases hrow : rowAt m rows c.q c.a with
    | none =>
      rw [hrow] at rv k
      have ev : v = .non := rv
      subst ev
      exact iteP rfl (k H _ (Same.refl _) rfl)
    | some r =>
      rw [hrow] at rv k
      obtain ⟨rb, rfl, hrb⟩ := rv
      refine iteN (by simp) ⟨_, rfl, _, SqT.of hrb, _, at1, ?_⟩
      walk_at "rd"
      have go : ∀ H' t', Same H H' → CfAt H' t' (cstep r c) → Q (.ref t') H' := fun H' t' s1 ca => k H' _ s1 ⟨t', rfl, ca⟩
      cases hmv : r.2.1
      · refine iteN (by decide) ⟨_, SqT.of hrb, _, at2, tail_use h2 fun H1 p1 s1 hp1 => ⟨(by show 1 ≤ sizeLine; decide), fun p2 hp2 => ?_⟩⟩
        have s2 := s1.trans (same_new (o := .tup [V.int 0]) hp2)
        refine cat_use (s2 _ _ h2) upd_same (by simp; omega) fun H2 p3 s3 hp3 => ?_
        have s4 := s2.trans s3
        refine ⟨p3, rfl, _, SqT.of hp3, _, at_head c.L, _, SqT.of (s4 _ _ hrb), _, at0, (by show 1 ≤ sizeLine; decide), fun p4 hp4 => ?_⟩
        have s5 := s4.trans (same_new (o := .tup [nV r.1]) hp4)
        refine cat_use upd_same (s5 _ _ h3) (by simp; omega) fun H3 p5 s6 hp5 => ?_
        refine ⟨p5, r.1 :: c.R, rfl, hp5, by simp; omega, fun H4 p6 s7 hp6 => ⟨(by show 4 ≤ sizeLine; decide), fun p7 hp7 => ?_⟩⟩
        have ecs : cstep r c = ⟨r.2.2, c.L.tail, c.L.headD 0, trim (r.1 :: c.R)⟩ := by
          unfold cstep
          rw [if_neg (by rw [hmv]; decide)]
        refine go _ p7 (((s5.trans s6).trans s7).trans (same_new hp7)) ?_
        rw [ecs]
        refine ⟨p1, p6, upd_same, ?_, same_new hp7 _ _ hp6⟩
        rw [List.map_tail]
        exact same_new hp7 _ _ (s7 _ _ (s6 _ _ (same_new hp4 _ _ (s3 _ _ (same_new hp2 _ _ hp1)))))
      · refine iteP (by decide) ⟨_, SqT.of hrb, _, at2, _, SqT.of hrb, _, at0, (by show 1 ≤ sizeLine; decide), fun p1 hp1 => ?_⟩
        have s1 : Same H (upd H p1 (.tup [nV r.1])) := same_new hp1
        refine cat_use upd_same (s1 _ _ h2) (by simp; omega) fun H2 p2 s2 hp2 => ?_
        refine ⟨p2, r.1 :: c.L, rfl, hp2, by simp; omega, fun H3 p3 s3 hp3 => ⟨(by show 1 ≤ sizeLine; decide), fun p4 hp4 => ?_⟩⟩
        have s4 := ((s1.trans s2).trans s3).trans (same_new (o := .tup [V.int 0]) hp4)
        refine cat_use (s4 _ _ h3) upd_same (by simp; omega) fun H4 p5 s5 hp5 => ?_
        refine ⟨p5, rfl, _, SqT.of hp5, _, at_head c.R, tail_use (s5 _ _ (s4 _ _ h3)) fun H5 p6 s6 hp6 => ⟨(by show 4 ≤ sizeLine; decide), fun p7 hp7 => ?_⟩⟩
        have ecs : cstep r c = ⟨r.2.2, trim (r.1 :: c.L), c.R.headD 0, c.R.tail⟩ := by
          unfold cstep
          rw [if_pos hmv]
        refine go _ p7 (((s4.trans s5).trans s6).trans (same_new hp7)) ?_
        rw [ecs]
        refine ⟨p3, p6, upd_same, same_new hp7 _ _ (s6 _ _ (s5 _ _ (same_new hp4 _ _ hp3))), ?_⟩
        rw [List.map_tail]
        exact same_new hp7 _ _ hp6
/-! ### _law_configuration -/
/-- the marks that the configuration's draws give -/
def drawn (ds : List Nat) (m o n : Nat) : List Nat := (List.range n).map fun k => ds.getD (o + k) 0 % m
theorem drawn_len (ds : List Nat) (m o n : Nat) : (drawn ds m o n).length = n := by simp [drawn]
theorem drawn_lt {ds : List Nat} {m o n b : Nat} (hm : 0 < m) (h : b ∈ drawn ds m o n) : b < m := by
  obtain ⟨k, _, rfl⟩ := List.mem_map.mp h
  exact Nat.mod_lt _ hm
theorem get_nV {ds : List Nat} {i : Nat} (h : i < ds.length) : (ds.map nV)[i]? = some (nV (ds.getD i 0)) := by
  refine at_map ?_
  simp [h]
theorem nV_mod (d m : Nat) : V.int ((d : Int) % (m : Int)) = nV (d % m) := by rw [← Int.natCast_emod]
def spLConf : Sp := fun vs H Q _ => ∃ (l : Addr) (m s : Nat) (ds : List Nat), vs = [.ref l, nV m, nV s, .int 4] ∧ H l = some (.lst (ds.map nV)) ∧ ds.length = 30 ∧ Small m s ∧
  ∀ (H' : Hp) (t : Addr) (c : Cf), Same H H' → CfAt H' t c → c.Ok m s → c.L.length ≤ 4 → c.R.length ≤ 4 → Q (.ref t) H'
theorem scLConf : FnScope ["_law_draws_here", "_law_marks", "_law_states", "_law_most", "_law_left", "_law_right", "_law_k"] ["_law_draws_here", "_law_marks", "_law_states", "_law_most"] (defScope sLConf) := ⟨rfl, rfl, rfl, by decide +kernel, rfl, by decide +kernel, by decide +kernel⟩
theorem ok_lConf (F : Fun K "_law_configuration" "_law_configuration" sLConf f fd) (T : Bl mg) (cT : Cal P w K mg base 1 "_law_trimmed" spLTrimmed []) : FnOk P w K mg base CX0 2 f fd ["_law_draws_here", "_law_marks", "_law_states", "_law_most"] spLConf := by
  refine F.ok scLConf (fun vs H Q E h => ?_) (fun cdv A outer s H vs Q E hr h => ?_)
  · obtain ⟨l, m, s, ds, rfl, _⟩ := h
    rfl
  · obtain ⟨l, m, s, ds, rfl, hl, hd, sm, k⟩ := h
    refine ⟨_, (pss_cons (ps_set (i := 4) scLConf.nd rfl (.inl rfl) (pe_callTy call_tuple_of (by rfl) T.tuple (by decide +kernel) (pa_cons (pe_lc (own := [("_law_k", 6)]) (g := gName 6) (tt := tYes) (by rfl) scLConf.nd (pi_range1 rfl T.range (pa_cons (pe_op op_mod (pe_callTy call_int1 (by rfl) T.int PyProof.Rows.boot_int (pa_cons (pe_ix ix_list (pv 0) pe_int (fun _ _ => rfl)) pa_nil)) (pe_op op_add (pv 3) pe_int)) pa_nil)) (blkOk_by (own := [("_law_k", 6)]) (N := ["_law_draws_here", "_law_marks", "_law_states", "_law_most", "_law_left", "_law_right", "_law_k"]) (sc := defScope sLConf) (by decide +kernel)) (fun _ _ _ _ _ => pg_name (i := 6) scLConf.nd rfl (Or.inl rfl)) (fun _ _ _ _ _ => by exact pts_nil) (fun _ _ _ _ _ => by exact (pe_op op_mod (pe_callTy call_int1 (by rfl) T.int PyProof.Rows.boot_int (pa_cons (show PE _ _ (tOp (rIxL K) (tVar 0) (tOp (rI0 fun i j => .int (i + j)) (tC (.int 1)) (tVar 6))) from pe_ix ix_list (pv 0) (pe_op op_add pe_int (pv 6)) (fun _ _ => rfl)) pa_nil)) (pv 1)))) pa_nil)))
      (pss_cons (ps_set (i := 5) scLConf.nd rfl (.inl rfl) (pe_callTy call_tuple_of (by rfl) T.tuple (by decide +kernel) (pa_cons (pe_lc (own := [("_law_k", 6)]) (g := gName 6) (tt := tYes) (by rfl) scLConf.nd (pi_range1 rfl T.range (pa_cons (pe_op op_mod (pe_callTy call_int1 (by rfl) T.int PyProof.Rows.boot_int (pa_cons (pe_op op_fdiv (pe_ix ix_list (pv 0) pe_int (fun _ _ => rfl)) pe_int) pa_nil)) (pe_op op_add (pv 3) pe_int)) pa_nil)) (blkOk_by (own := [("_law_k", 6)]) (N := ["_law_draws_here", "_law_marks", "_law_states", "_law_most", "_law_left", "_law_right", "_law_k"]) (sc := defScope sLConf) (by decide +kernel)) (fun _ _ _ _ _ => pg_name (i := 6) scLConf.nd rfl (Or.inl rfl)) (fun _ _ _ _ _ => by exact pts_nil) (fun _ _ _ _ _ => by exact (pe_op op_mod (pe_callTy call_int1 (by rfl) T.int PyProof.Rows.boot_int (pa_cons (show PE _ _ (tOp (rIxL K) (tVar 0) (tOp (rI0 fun i j => .int (i + j)) (tC (.int 5)) (tVar 6))) from pe_ix ix_list (pv 0) (pe_op op_add pe_int (pv 6)) (fun _ _ => rfl)) pa_nil)) (pv 1)))) pa_nil)))
      (pss_one (ps_ret (pe_tup (pa_cons (pe_op op_mod (pe_callTy call_int1 (by rfl) T.int PyProof.Rows.boot_int (pa_cons (pe_ix ix_list (pv 0) pe_int (fun _ _ => rfl)) pa_nil)) (pv 2)) (pa_cons (pe_c cT hr (by decide) (by rfl) (by exact (pa_cons (pv 4) pa_nil))) (pa_cons (pe_op op_mod (pe_callTy call_int1 (by rfl) T.int PyProof.Rows.boot_int (pa_cons (pe_ix ix_list (pv 0) pe_int (fun _ _ => rfl)) pa_nil)) (pv 1)) (pa_cons (pe_c cT hr (by decide) (by rfl) (by exact (pa_cons (pv 5) pa_nil))) pa_nil))))))))), ?_⟩
    have e2 := sm.m2
    have e1 := sm.s1
    have hm : 0 < m := by omega
    walk_at "rd"
    obtain ⟨n1, hn1, en1⟩ := nat_mod ((ds.getD 0 0 : Nat) : Int) (m := 5) (by decide)
    obtain ⟨n2, hn2, en2⟩ := nat_mod (((ds.getD 0 0 : Nat) : Int) / 7) (m := 5) (by decide)
    have en1 : ((ds.getD 0 0 : Nat) : Int) % (4 + 1) = (n1 : Int) := en1
    have en2 : ((ds.getD 0 0 : Nat) : Int) / 7 % (4 + 1) = (n2 : Int) := en2
    refine ⟨_, rfl, l, _, 0, _, rfl, rfl, SqL.of hl, atI_nat (j := 0) (get_nV (by omega)), .inl ⟨_, rfl, _, rfl, 4, 1, rfl, rfl, _, _, rfl, rfl, (by show (0 : Int) < 4 + 1; decide), _, rfl, by rw [en1]; omega, by rw [en1]; omega, ?_⟩⟩
    intro D hD
    refine lc_pure (walk_range (lo := 0)) ((drawn ds m 1 n1).map nV) (by rw [List.length_map, drawn_len, en1]; simp) (by rw [en1]; omega) hD (fun _ _ => trivial) ?_ ?_
    · rintro i x y H' H'' R hy s2 ⟨rfl, rfl⟩ hR
      obtain ⟨b, hb, rfl⟩ := map_at hy
      have hi : i < n1 := by
        have := (List.getElem?_eq_some_iff.mp hb).1
        rw [drawn_len] at this
        exact this
      have eb : b = ds.getD (1 + i) 0 % m := by
        have : (drawn ds m 1 n1)[i]? = some (ds.getD (1 + i) 0 % m) := by simp [drawn, hi]
        rw [hb] at this
        exact Option.some.inj this
      subst eb
      walk_at "rd"
      rw [show (1 : Int) + (0 + (i : Int)) = ((1 + i : Nat) : Int) by omega]
      refine ⟨_, SqL.of (s2 _ _ hl), _, atI_nat (get_nV (by omega)), .inl ⟨_, rfl, by omega, ?_⟩⟩
      rw [nV_mod]
      exact hR
    · intro H1 s1 hD1
      refine ⟨D, rfl, _, .inl ⟨SqL.of hD1, fun t1 ht1 => ?_⟩⟩
      have s2 : Same H (upd H1 t1 (.tup ((drawn ds m 1 n1).map nV))) := same_add s1 ht1
      have hT1 : upd H1 t1 (.tup ((drawn ds m 1 n1).map nV)) t1 = some (.tup ((drawn ds m 1 n1).map nV)) := upd_same
      generalize upd H1 t1 (.tup ((drawn ds m 1 n1).map nV)) = H2 at s2 hT1 ⊢
      refine ⟨_, rfl, l, _, 0, _, rfl, rfl, SqL.of (s2 _ _ hl), atI_nat (j := 0) (get_nV (by omega)), _, 7, rfl, rfl, ⟨by decide, by decide⟩, .inl ⟨_, rfl, _, rfl, 4, 1, rfl, rfl, _, _, rfl, rfl, (by show (0 : Int) < 4 + 1; decide), _, rfl, by rw [en2]; omega, by rw [en2]; omega, ?_⟩⟩
      intro D2 hD2
      refine lc_pure (walk_range (lo := 0)) ((drawn ds m 5 n2).map nV) (by rw [List.length_map, drawn_len, en2]; simp) (by rw [en2]; omega) hD2 (fun _ _ => trivial) ?_ ?_
      · rintro i x y H' H'' R hy s3 ⟨rfl, rfl⟩ hR
        obtain ⟨b, hb, rfl⟩ := map_at hy
        have hi : i < n2 := by
          have := (List.getElem?_eq_some_iff.mp hb).1
          rw [drawn_len] at this
          exact this
        have eb : b = ds.getD (5 + i) 0 % m := by
          have : (drawn ds m 5 n2)[i]? = some (ds.getD (5 + i) 0 % m) := by simp [drawn, hi]
          rw [hb] at this
          exact Option.some.inj this
        subst eb
        walk_at "rd"
        rw [show (5 : Int) + (0 + (i : Int)) = ((5 + i : Nat) : Int) by omega]
        refine ⟨_, SqL.of (s3 _ _ (s2 _ _ hl)), _, atI_nat (get_nV (by omega)), .inl ⟨_, rfl, by omega, ?_⟩⟩
        rw [nV_mod]
        exact hR
      · intro H3 s3 hD3
        refine ⟨D2, rfl, _, .inl ⟨SqL.of hD3, fun t2 ht2 => ?_⟩⟩
        have s4 : Same H2 (upd H3 t2 (.tup ((drawn ds m 5 n2).map nV))) := same_add s3 ht2
        have hT2 : upd H3 t2 (.tup ((drawn ds m 5 n2).map nV)) t2 = some (.tup ((drawn ds m 5 n2).map nV)) := upd_same
        generalize upd H3 t2 (.tup ((drawn ds m 5 n2).map nV)) = H4 at s4 hT2 ⊢
        have s04 := s2.trans s4
        refine ⟨_, SqL.of (s04 _ _ hl), _, atI_nat (j := 9) (get_nV (by omega)), .inl ⟨_, rfl, by omega, t1, _, rfl, s4 _ _ hT1, by rw [drawn_len]; omega, fun H5 t3 s5 hT3 => ?_⟩⟩
        refine ⟨_, SqL.of (s5 _ _ (s04 _ _ hl)), _, atI_nat (j := 10) (get_nV (by omega)), .inl ⟨_, rfl, by omega, t2, _, rfl, s5 _ _ hT2, by rw [drawn_len]; omega, fun H6 t4 s6 hT4 => ?_⟩⟩
        refine ⟨(by show 4 ≤ sizeLine; decide), fun t ht => ?_⟩
        rw [nV_mod, nV_mod]
        have k1 := trim_len (drawn ds m 1 n1)
        have k2 := trim_len (drawn ds m 5 n2)
        rw [drawn_len] at k1 k2
        refine k _ t ⟨ds.getD 9 0 % s, trim (drawn ds m 1 n1), ds.getD 10 0 % m, trim (drawn ds m 5 n2)⟩ (((s04.trans s5).trans s6).trans (same_new ht)) ⟨t3, t4, upd_same, same_new ht _ _ (s6 _ _ hT3), same_new ht _ _ hT4⟩
          ⟨Nat.mod_lt _ (by omega), Nat.mod_lt _ hm, fun b hb => drawn_lt hm (trim_mem hb), fun b hb => drawn_lt hm (trim_mem hb), trim_ok _, trim_ok _⟩ (by show (trim (drawn ds m 1 n1)).length ≤ 4; omega) (by show (trim (drawn ds m 5 n2)).length ≤ 4; omega)
end
end K68
end
section
open PySem L2 TL
open C8 (Cal CalAt Met Mak pe_c pe_mk pe_mt pe_mt0 pe_cv pe_gc pss_cut tCallV tCut)
local macro_rules | `(tactic| walk_at "rd") => `(tactic| simp only [K68.cx_K, wipe, tYes, rIxT, rIxL, tRet, tRetN, tAndV, tOrV, tCB, tCons, tNil, tVar, tC, tNotV, tChain, rI0, rI, rU, tUn, tOp, L2.start, tSeq, tAsg, gName, tIfS, tTest, tDrop, tTup, tLst, tNext, tBreak, tCont, tB, tNot, tAnd, tOr, tIf, tCall, tMeth, tFld, tCut, K68.tRevT, tIsN, tNotN, tCmp, t2I, tJs, tFmt, K68.rEq_str, K68.rNe_str, K68.rEq_int, K68.rNe_int, decide_eq_true_eq, and_assoc, tPar, gTup, gCons, gNil, tCallV, tMake, tSl, tPart, tNoPart, tBM, tBM0, tM0, tM1, sFld,
  List.map, List.replicate, List.length_cons, List.length_nil, List.cons_append, List.nil_append, List.append_nil, List.set_cons_zero, List.set_cons_succ, List.getElem?_cons_zero, List.getElem?_cons_succ, Nat.zero_add, Nat.sub_self, Nat.reduceAdd, Nat.reduceSub,
  Option.some.injEq, exists_eq_left', exists_eq_left, exists_and_left, exists_eq, exists_eq', exists_false, V.int.injEq, V.bl.injEq, V.str.injEq, V.ref.injEq, List.cons.injEq, if_true, if_false, Bool.false_eq_true, true_and, and_true, false_and, and_false, false_or, or_false, decide_true, decide_false, Bool.and_self, Bool.and_true, Bool.true_and, tNever, Bool.not_true, Bool.not_false, reduceIte, reduceCtorEq])
local macro_rules | `(tactic| walk_at "tx") => `(tactic| simp only [K68.S_eq, Int.natCast_eq_zero, K68.e_nil, K68.e_nil', K68.e_open, K68.e_close, K68.e_left, K68.e_right, K68.e_zero, K68.e_zeroR, K68.e_digits, K68.S_num, K68.S_app, K68.S_len, List.cons_append, List.nil_append, List.append_assoc, List.length_append, List.length_cons, List.length_nil, List.cons.injEq, and_true, K68.line_])
namespace K68
section
variable {P : Program} {w : World} {K : PySem.W.Frag} {mg : Str → Option Value} {base : Heap} {f : Addr} {fd : FuncData} {CT CR CS : Addr}
/-- int(n), n an int -/
theorem call_intI {X : Cx} : CallR X (.type "int") (fun xs H Q => ∃ i, xs = [.int i] ∧ Q (.int i) H) := fun pins s σ H xs us Q I r h => call_int1 pins s σ H xs us Q I r (.inl h)
theorem plOk_none {m s : Nat} {rows : List (Option Row)} {c : Cf} (sm : Small m s) (h : rowAt m rows c.q c.a = none) : PlOk (down c) (rulesOf m s rows) none where
  len := Nat.le_trans (rulesOf_len m s rows) sm.rules
  ne := fun z hz => by
    obtain ⟨q, a, r, _, _, _, x, _, y, _, rfl⟩ := mem_rulesOf hz
    exact old_ne _ _ _ _
  only := only_none h
  inn := fun i k e => by cases e
  kk := fun i k e => by cases e
theorem new_len {r : Row} {x y : Nat} (h : r.2.2 < 10 ^ 9) : (new r x y).length ≤ 100 := by
  have hs := sgn_len h
  unfold new
  split
  · unfold newR
    rw [List.length_append, List.length_append]
    have h1 : (if x = 91 ∧ r.1 = 0 then [91] else [x, dg r.1]).length ≤ 2 := by split <;> simp
    have h2 : (if y = 93 then [48, 93] else [y]).length ≤ 2 := by split <;> simp
    omega
  · unfold newL
    rw [List.length_append, List.length_append]
    have h1 : (if x = 91 then 91 :: (sgn r.2.2 ++ [48]) else sgn r.2.2 ++ [x]).length ≤ 20 := by
      split
      · rw [List.length_cons, List.length_append]
        show (sgn r.2.2).length + 1 + 1 ≤ 20
        omega
      · rw [List.length_append]
        show (sgn r.2.2).length + 1 ≤ 20
        omega
    have h2 : (if y = 93 ∧ r.1 = 0 then ([] : List Nat) else [dg r.1]).length ≤ 1 := by split <;> simp
    show _ + (_ + 1) ≤ 100
    omega
theorem down_len {c : Cf} (q9 : c.q < 10 ^ 9) (h1 : c.L.length ≤ 100) (h2 : c.R.length ≤ 100) : (down c).length ≤ 1000 := by
  have hq := num_len q9
  unfold down front behind back
  simp
  omega
/-- what is known where the machine goes on -/
theorem goes {m s : Nat} {rows : List (Option Row)} {c : Cf} {r : Row} (sm : Small m s) (ro : RowsOk m s rows) (ok : c.Ok m s) (n1 : c.L.length ≤ 100) (n2 : c.R.length ≤ 100) (h : rowAt m rows c.q c.a = some r) :
    ∃ i z, PlOk (down c) (rulesOf m s rows) (some (i, c.L.length)) ∧ RpOk (rulesOf m s rows) (down c) i c.L.length (frontI c) (backI c) z ∧ frontI c ++ (z.2 ++ backI c) = down (cstep r c) ∧ (cstep r c).Ok m s ∧ (cstep r c).L.length ≤ c.L.length + 1 ∧ (cstep r c).R.length ≤ c.R.length + 1 := by
  have e20 := sm.s20
  have okq := ok.q
  have q9 : c.q < 10 ^ 9 := by omega
  have rok : r.1 < m ∧ r.2.2 < s := ro.ok r (by
    have := row_at ro ok.q ok.a
    rw [h] at this
    exact List.mem_of_getElem? this)
  obtain ⟨i, hi, ho⟩ := only_some sm.m10 ok h
  have hlt : i < (rulesOf m s rows).length := (List.getElem?_eq_some_iff.mp hi).1
  refine ⟨i, _, ⟨Nat.le_trans (rulesOf_len m s rows) sm.rules, fun z hz => ?_, ho, fun j k e => ?_, fun j k e => ?_⟩, ⟨hi, down_at c, (frontI_len c).symm, Nat.le_trans (down_len q9 n1 n2) (by decide), Nat.le_trans (new_len (by omega)) (by decide)⟩, replaced ok sm.m10, cstep_ok ok rok.1 rok.2, ?_, ?_⟩
  · obtain ⟨q, a, r, _, _, _, x, _, y, _, rfl⟩ := mem_rulesOf hz
    exact old_ne _ _ _ _
  · injection e with e
    injection e with e1 e2
    rw [← e1]
    exact hlt
  · injection e with e
    injection e with e1 e2
    omega
  · unfold cstep
    split
    · have := trim_len (r.1 :: c.L)
      rw [List.length_cons] at this
      exact this
    · show c.L.tail.length ≤ _
      rw [List.length_tail]
      omega
  · unfold cstep
    split
    · show c.R.tail.length ≤ _
      rw [List.length_tail]
      omega
    · have := trim_len (r.1 :: c.R)
      rw [List.length_cons] at this
      exact this
theorem small_a {a b : Nat} (ha : a < 3) (hb : b < 4) : Small (2 + a) (1 + b) := by
  have h1 : a = 0 ∨ a = 1 ∨ a = 2 := by omega
  have h2 : b = 0 ∨ b = 1 ∨ b = 2 ∨ b = 3 := by omega
  rcases h1 with h | h | h <;> rcases h2 with h' | h' | h' | h' <;> subst h <;> subst h' <;> exact ⟨by decide, by decide, by decide, by decide, by decide, by decide⟩
theorem small_b {b : Nat} (hb : b < 3) : Small 2 (11 + b) := by
  have h1 : b = 0 ∨ b = 1 ∨ b = 2 := by omega
  rcases h1 with h | h | h <;> subst h <;> exact ⟨by decide, by decide, by decide, by decide, by decide, by decide⟩
theorem small_c : Small 10 1 := ⟨by decide, by decide, by decide, by decide, by decide, by decide⟩
end
end K68
end
section
open PySem L2 TL
open C8 (Cal CalAt Met Mak pe_c pe_mk pe_mt pe_mt0 pe_cv pe_gc pss_cut tCallV tCut)
local macro_rules | `(tactic| walk_at "rd") => `(tactic| simp only [K68.cx_K, wipe, tYes, rIxT, rIxL, tRet, tRetN, tAndV, tOrV, tCB, tCons, tNil, tVar, tC, tNotV, tChain, rI0, rI, rU, tUn, tOp, L2.start, tSeq, tAsg, gName, tIfS, tTest, tDrop, tTup, tLst, tNext, tBreak, tCont, tB, tNot, tAnd, tOr, tIf, tCall, tMeth, tFld, tCut, K68.tRevT, tIsN, tNotN, tCmp, t2I, tJs, tFmt, K68.rEq_str, K68.rNe_str, K68.rEq_int, K68.rNe_int, decide_eq_true_eq, and_assoc, tPar, gTup, gCons, gNil, tCallV, tMake, tSl, tPart, tNoPart, tBM, tBM0, tM0, tM1, sFld,
  List.map, List.replicate, List.length_cons, List.length_nil, List.cons_append, List.nil_append, List.append_nil, List.set_cons_zero, List.set_cons_succ, List.getElem?_cons_zero, List.getElem?_cons_succ, Nat.zero_add, Nat.sub_self, Nat.reduceAdd, Nat.reduceSub,
  Option.some.injEq, exists_eq_left', exists_eq_left, exists_and_left, exists_eq, exists_eq', exists_false, V.int.injEq, V.bl.injEq, V.str.injEq, V.ref.injEq, List.cons.injEq, if_true, if_false, Bool.false_eq_true, true_and, and_true, false_and, and_false, false_or, or_false, decide_true, decide_false, Bool.and_self, Bool.and_true, Bool.true_and, tNever, Bool.not_true, Bool.not_false, reduceIte, reduceCtorEq])
local macro_rules | `(tactic| walk_at "tx") => `(tactic| simp only [K68.S_eq, Int.natCast_eq_zero, K68.e_nil, K68.e_nil', K68.e_open, K68.e_close, K68.e_left, K68.e_right, K68.e_zero, K68.e_zeroR, K68.e_digits, K68.S_num, K68.S_app, K68.S_len, List.cons_append, List.nil_append, List.append_assoc, List.length_append, List.length_cons, List.length_nil, List.cons.injEq, and_true, K68.line_])
local macro_rules | `(tactic| walk_at "rl") => `(tactic| simp only [eq_self, Option.isNone_none, Option.isNone_some, rIsB, rNotB, K68.cx_K, wipe, tYes, rIxT, rIxL, tRet, tRetN, tAndV, tOrV, tCB, tCons, tNil, tVar, tC, tNotV, tChain, rI0, rI, rU, tUn, tOp, L2.start, tSeq, tAsg, gName, tIfS, tTest, tDrop, tTup, tLst, tNext, tBreak, tCont, tB, tNot, tAnd, tOr, tIf, tCall, tMeth, tFld, K68.tRevT, tIsN, tNotN, tCmp, t2I, tJs, tFmt, K68.rEq_str, K68.rNe_str, K68.rEq_int, K68.rNe_int, decide_eq_true_eq, and_assoc, tPar, gTup, gCons, gNil, tCallV, tMake, tSl, tPart, tNoPart, tBM, tBM0, tM0, tM1, sFld,   List.map, List.replicate, List.length_cons, List.length_nil, List.cons_append, List.nil_append, List.append_nil, List.set_cons_zero, List.set_cons_succ, List.getElem?_cons_zero, List.getElem?_cons_succ, Nat.zero_add, Nat.sub_self, Nat.reduceAdd, Nat.reduceSub,   Option.some.injEq, exists_eq_left', exists_eq_left, exists_and_left, exists_eq, exists_eq', exists_false, V.int.injEq, V.bl.injEq, V.str.injEq, V.ref.injEq, List.cons.injEq, if_true, if_false, Bool.false_eq_true, true_and, and_true, false_and, and_false, false_or, or_false, decide_true, decide_false, Bool.and_self, Bool.and_true, Bool.true_and, tNever, Bool.not_true, Bool.not_false, reduceIte, reduceCtorEq])
namespace K68
section
variable {P : Program} {w : World} {K : PySem.W.Frag} {mg : Str → Option Value} {base : Heap} {f : Addr} {fd : FuncData} {CT CR CS : Addr}
def spLaw (K : PySem.W.Frag) : Sp := fun vs H Q _ => ∃ (a : Addr) (ns : List Int), vs = [.ref a] ∧ SqL K H a (ns.map V.int) ∧ ns.length ≤ 63 ∧ ∀ H', Q (.bl true) H'
theorem scLaw : FnScope ["_law_script", "_law_draws_here", "_law_marks", "_law_states", "_law_rows", "_law_stair", "_law_here", "_law_after", "_law_string", "_law_places", "_law_found", "_law_rule", "_law_at"] ["_law_script"] (defScope sLaw) := ⟨rfl, rfl, rfl, by decide +kernel, rfl, by decide +kernel, by decide +kernel⟩
/-- the frame behind the draws -/
def LwI (a D : Addr) (G : Hp) (σ : L2.St) (H' : Hp) : Prop := ∃ m s, Small m s ∧ σ = [some (.ref a), some (.ref D), some (nV m), some (nV s), none, none, none, none, none, none, none, none, none] ∧ H' = G
def LwJ (a D : Addr) (G : Hp) (σ : L2.St) (H' : Hp) : Prop := ∃ m s, Small m s ∧ σ = [some (.ref a), some (.ref D), some (nV m), some (nV s), none, none, none, none, none, none, none, none, none] ∧ Same G H'
/-- behind the search for places -/
def LwP (a D lr x2 t9 : Addr) (m s : Nat) (av : V) (x : List Nat) (o : Option (Nat × Nat)) (G : Hp) (σ : L2.St) (H' : Hp) : Prop := ∃ L, σ = [some (.ref a), some (.ref D), some (nV m), some (nV s), some (.ref lr), some (.ref x2), some (.ref t9), some av, some (.str (S x)), some (.ref L), none, none, none] ∧ Same G H' ∧ PlAt H' L o
theorem nil_refl : PyData.eqv (.list []) (.list []) = true := SeqAt.eqv_refl _ (by simp only [PyData.canLay0, PyData.canLayAll0])
theorem nil_shaped : SeqAt.shaped (.list []) = true := shaped_of (by simp only [PyData.canLay0, PyData.canLayAll0]) (by simp only [PyData.depth, PyData.depthAll]; decide)
theorem cutV_drop {xs : List V} {n : Nat} (h : n ≤ xs.length) : cutV xs (some (n : Int)) none = xs.drop n := by
  unfold cutV
  rw [HT.sIx_nat, Nat.min_eq_left h]
  show (xs.drop n).take (xs.length - n) = xs.drop n
  rw [List.take_of_length_le]
  rw [List.length_drop]
  exact Nat.le_refl _
theorem ok_law (F : Fun K "law" "law" sLaw f fd) (T : Bl mg) (XS : TxS K CS) (cDr : Cal P w K mg base 1 "_law_draws" (spDraws K) []) (cMa : Cal P w K mg base 1 "_law_machine" spMachine []) (cTp : Mak P w K mg base 3 "Tape" CT (spTaInit CT) []) (cRS : Mak P w K mg base 4 "RuleStair" CS (spStInit CT CR CS) [])
    (cCo : Cal P w K mg base 2 "_law_configuration" spLConf []) (cSt : Cal P w K mg base 2 "_law_tape_step" spLStep []) (mDn : Met P w K mg base 2 CS "down" (spDown CS) []) (mUp : Met P w K mg base 4 CS "up" (spUp CT CR CS) []) (mPa : Met P w K mg base 4 CS "pace" (spPace CT CR CS) []) (mEn : Met P w K mg base 1 CS "ending" spEnding [])
    (mPl : Met P w K mg base 1 CR "places" (spPlaces CR) []) (mSt : Met P w K mg base 2 CR "step" (spRuStep CR) []) (mSo : Met P w K mg base 2 CR "stopped" (spRuStopped CR) []) (mAp : Met P w K mg base 2 CR "applied" (spApplied CR) []) : FnOk P w K mg base CX0 6 f fd ["_law_script"] (spLaw K) := by
  refine F.ok scLaw (fun vs H Q E h => ?_) (fun cdv A outer s H vs Q E hr h => ?_)
  · obtain ⟨a, ns, rfl, _⟩ := h
    rfl
  · obtain ⟨a, ns, rfl, hS, hn, k⟩ := h
    refine ⟨_, (pss_cons (ps_set (i := 1) scLaw.nd rfl (.inl rfl) (pe_c cDr hr (by decide) (by rfl) (by exact (pa_cons (pv 0) (pa_cons pe_int pa_nil)))))
      (pss_cons (ps_par (i := 2) (j := 3) (by rfl) scLaw.nd rfl rfl (by decide) rfl rfl (pa_cons (pe_op op_add pe_int (pe_op op_mod (pe_callTy call_intI (by rfl) T.int PyProof.Rows.boot_int (pa_cons (pe_ix ix_list (pv 1) pe_int (fun _ _ => rfl)) pa_nil)) pe_int)) (pa_cons (pe_op op_add pe_int (pe_op op_mod (pe_callTy call_intI (by rfl) T.int PyProof.Rows.boot_int (pa_cons (pe_ix ix_list (pv 1) pe_int (fun _ _ => rfl)) pa_nil)) pe_int)) pa_nil)) (by rfl))
      (pss_cut (ps_if (pt_cmpR op_eq (pe_op op_mod (pe_callTy call_intI (by rfl) T.int PyProof.Rows.boot_int (pa_cons (pe_ix ix_list (pv 1) pe_int (fun _ _ => rfl)) pa_nil)) pe_int) pe_int (nomark _)) (pss_one (ps_par (i := 2) (j := 3) (by rfl) scLaw.nd rfl rfl (by decide) rfl rfl (pa_cons pe_int (pa_cons (pe_op op_add pe_int (pe_op op_mod (pe_callTy call_intI (by rfl) T.int PyProof.Rows.boot_int (pa_cons (pe_ix ix_list (pv 1) pe_int (fun _ _ => rfl)) pa_nil)) pe_int)) pa_nil)) (by rfl))) pss_nil)
      (pss_cut (ps_if (pt_cmpR op_eq (pe_op op_mod (pe_callTy call_intI (by rfl) T.int PyProof.Rows.boot_int (pa_cons (pe_ix ix_list (pv 1) pe_int (fun _ _ => rfl)) pa_nil)) pe_int) pe_int (nomark _)) (pss_one (ps_asg (pe_tup (pa_cons pe_int (pa_cons pe_int pa_nil))) (pg_tup rfl (pgs_cons (pg_name (i := 2) scLaw.nd rfl (.inl rfl)) (pgs_cons (pg_name (i := 3) scLaw.nd rfl (.inl rfl)) pgs_nil))))) pss_nil)
      (pss_cons (ps_set (i := 4) scLaw.nd rfl (.inl rfl) (pe_c cMa hr (by decide) (by rfl) (by exact (pa_cons (pv 1) (pa_cons (pv 2) (pa_cons (pv 3) pa_nil))))))
      (pss_cons (ps_set (i := 5) scLaw.nd rfl (.inl rfl) (pe_mk cRS hr (by decide) (by rfl) (pa_cons (pe_mk cTp hr (by decide) (by rfl) (pa_cons (pv 2) (pa_cons (pv 3) (pa_cons (pv 4) pa_nil)))) pa_nil)))
      (pss_cons (ps_set (i := 6) scLaw.nd rfl (.inl rfl) (pe_c cCo hr (by decide) (by rfl) (by exact (pa_cons (pe_slice sl_list (pv 1) (po_some pe_int) po_none) (pa_cons (pv 2) (pa_cons (pv 3) (pa_cons pe_int pa_nil)))))))
      (pss_cons (ps_set (i := 7) scLaw.nd rfl (.inl rfl) (pe_c cSt hr (by decide) (by rfl) (by exact (pa_cons (pv 4) (pa_cons (pv 2) (pa_cons (pv 6) pa_nil))))))
      (pss_cons (ps_set (i := 8) scLaw.nd rfl (.inl rfl) (pe_mt mDn hr (by decide) (pv 5) (pa_cons (pv 6) pa_nil)))
      (pss_cut (ps_set (i := 9) scLaw.nd rfl (.inl rfl) (pe_mt mPl hr (by decide) (pe_fld (pv 5) rfl) (pa_cons (pv 8) pa_nil)))
      (pss_cons (ps_if (pt_cmpR op_ne (pe_mt mEn hr (by decide) (pv 5) (pa_cons (pv 6) pa_nil)) pe_int (nomark _)) (pss_one (ps_ret pe_bl)) pss_nil)
      (pss_cons (ps_if (pt_cmp (pc_isN (pv 7)) rfl) (pss_one (ps_ret (pe_and (pe_cmpR op_eq (pe_mt mPa hr (by decide) (pv 5) (pa_cons (pv 6) pa_nil)) pe_int (nomark _)) (pe_and (pe_cmpR (op_eqD hr.units) (pv 9) (pe_lst pa_nil) (nomark _)) (pe_and (pe_cmp (pc_isN (pe_mt mSt hr (by decide) (pe_fld (pv 5) rfl) (pa_cons (pv 8) pa_nil))) rfl) (pe_one (pe_cmpR op_isBl (pe_mt mSo hr (by decide) (pe_fld (pv 5) rfl) (pa_cons (pv 8) pa_nil)) pe_bl (nomark _)))))))) pss_nil)
      (pss_cons (ps_if (PW.pt (pw_or (pt_cmpR op_ne (pe_mt mPa hr (by decide) (pv 5) (pa_cons (pv 6) pa_nil)) pe_int (nomark _)) (pw_or (pt_cmpR op_ne (pe_callB call_len_seq (by rfl) T.len PySem.boot_len (pa_cons (pv 9) pa_nil)) pe_int (nomark _)) (pw_or1 (pt_cmpR op_notBl (pe_mt mSo hr (by decide) (pe_fld (pv 5) rfl) (pa_cons (pv 8) pa_nil)) pe_bl (nomark _)))))) (pss_one (ps_ret pe_bl)) pss_nil)
      (pss_cons (ps_set (i := 10) scLaw.nd rfl (.inl rfl) (pe_mt mSt hr (by decide) (pe_fld (pv 5) rfl) (pa_cons (pv 8) pa_nil)))
      (pss_cons (ps_asg (pe_ix ix_list (pv 9) pe_int (fun _ _ => rfl)) (pg_tup rfl (pgs_cons (pg_name (i := 11) scLaw.nd rfl (.inl rfl)) (pgs_cons (pg_name (i := 12) scLaw.nd rfl (.inl rfl)) pgs_nil))))
      (pss_one (ps_ret (pe_and (pe_cmpR op_eq (pv 10) (pe_mt mDn hr (by decide) (pv 5) (pa_cons (pv 7) pa_nil)) (nomark _)) (pe_and (pe_cmpR (op_eqD hr.units) (pe_mt mUp hr (by decide) (pv 5) (pa_cons (pv 10) pa_nil)) (pv 7) (nomark _)) (pe_one (pe_cmpR op_eq (pe_mt mAp hr (by decide) (pe_fld (pv 5) rfl) (pa_cons (pv 8) (pa_cons (pv 11) (pa_cons (pv 12) pa_nil)))) (pv 10) (nomark _)))))))))))))))))))))), ?_⟩
    walk_at "rl"
    refine ⟨a, ns, rfl, hS, hn, fun G D ds s0 hD hds => ?_⟩
    refine ⟨D, rfl, _, SqL.of hD, _, atI_nat (j := 50) (get_nV (by omega)), _, rfl, by decide, D, rfl, _, SqL.of hD, _, atI_nat (j := 51) (get_nV (by omega)), _, rfl, by decide, ?_⟩
    have i53 : atI (ds.map nV) 53 = some (nV (ds.getD 53 0)) := atI_nat (j := 53) (get_nV (by omega))
    have i51 : atI (ds.map nV) 51 = some (nV (ds.getD 51 0)) := atI_nat (j := 51) (get_nV (by omega))
    generalize ds.getD 50 0 = d50
    generalize ds.getD 51 0 = d51 at i51 ⊢
    generalize ds.getD 53 0 = d53 at i53
    refine ⟨LwI a D G, ?_, ?_⟩
    · walk_at "rl"
      refine ⟨_, SqL.of hD, _, i53, _, rfl, by decide, ite2 (fun _ => ?_) (fun _ => ?_)⟩
      · refine ⟨_, SqL.of hD, _, i51, _, rfl, by decide, 2, 11 + d51 % 3, small_b (Nat.mod_lt _ (by decide)), ?_, rfl⟩
        rw [show (11 : Int) + (d51 : Int) % 3 = ((11 + d51 % 3 : Nat) : Int) by omega]
        rfl
      · refine ⟨2 + d50 % 3, 1 + d51 % 4, small_a (Nat.mod_lt _ (by decide)) (Nat.mod_lt _ (by decide)), ?_, rfl⟩
        rw [show (2 : Int) + (d50 : Int) % 3 = ((2 + d50 % 3 : Nat) : Int) by omega, show (1 : Int) + (d51 : Int) % 4 = ((1 + d51 % 4 : Nat) : Int) by omega]
    · rintro σ1 H1 ⟨m1, s1, sm1, rfl, rfl⟩
      refine ⟨LwJ a D H1, ?_, ?_⟩
      · walk_at "rl"
        refine ⟨_, SqL.of hD, _, i53, _, rfl, by decide, ite2 (fun _ => ?_) (fun _ => ⟨m1, s1, sm1, rfl, Same.refl _⟩)⟩
        refine ⟨(by show 2 ≤ sizeLine; decide), fun p hp => ⟨_, SqT.of upd_same, rfl, ?_⟩⟩
        walk_at "rl"
        exact ⟨10, 1, small_c, rfl, same_new hp⟩
      · rintro σ2 H2 ⟨m, s, sm, rfl, s2⟩
        have hD2 := s2 _ _ hD
        walk_at "rl"
        refine ⟨D, m, s, ds, rfl, hD2, hds, sm, fun H3 lr us rows s3 hlr hu ro => ?_⟩
        intro x1 dx1 hx1 hdx1 ne1
        have s34 : Same H3 (upd (upd H3 dx1 (.own x1)) x1 (.ins CT dx1 [])) := (same_new hdx1).trans (same_new (by rw [upd_ne ne1.symm]; exact hx1))
        refine ⟨x1, lr, dx1, m, s, rows, us, rfl, upd_same, s34 _ _ hlr, hu.mono (RowV.mono (Tp.of s34)), ro, sm, fun H5 sx5 tp5 => ⟨rfl, ?_⟩⟩
        have s35 : Same H3 H5 := fun b o e => sx5 b o (ne_of_none e hx1) (s34 b o e)
        intro x2 dx2 hx2 hdx2 ne2
        have s56 : Same H5 (upd (upd H5 dx2 (.own x2)) x2 (.ins CS dx2 [])) := (same_new hdx2).trans (same_new (by rw [upd_ne ne2.symm]; exact hx2))
        refine ⟨x2, x1, dx2, m, s, rows, rfl, upd_same, tp5.mono s56, ro, sm, fun H7 sx7 st7 => ⟨rfl, ?_⟩⟩
        have s57 : Same H5 H7 := fun b o e => sx7 b o (ne_of_none e hx2) (s56 b o e)
        have s37 := s35.trans s57
        refine ⟨D, ds.map nV, rfl, SqL.of (s37 _ _ (s3 _ _ hD2)), fun p8 hp8 => ?_⟩
        have e30 : cutV (ds.map nV) (some 30) none = (ds.drop 30).map nV := by
          rw [List.map_drop]
          exact cutV_drop (n := 30) (by rw [List.length_map]; omega)
        rw [e30]
        have s38 := s37.trans (same_new (o := .lst ((ds.drop 30).map nV)) hp8)
        refine ⟨p8, m, s, ds.drop 30, rfl, upd_same, by rw [List.length_drop]; omega, sm, fun H9 t9 c s9 ca9 ok nL nR => ?_⟩
        have s39 := s38.trans s9
        have s79 := (same_new (o := .lst ((ds.drop 30).map nV)) hp8).trans s9
        refine ⟨lr, t9, m, s, us, rows, c, rfl, s39 _ _ hlr, hu.mono (RowV.mono (Tp.of s39)), ro, sm, ca9, ok, by omega, by omega, fun H10 av s10 hav => ?_⟩
        obtain ⟨dxs, u, v, g1, tpu, rav⟩ := id st7
        have s710 := s79.trans s10
        refine ⟨dxs, _, s710 _ _ g1, sfs_no (by decide +kernel) (by decide +kernel), x2, t9, c, m, s, rfl, ca9.mono (Tp.of s10), ok, sm.m10, sm.s20, by omega, by omega, fun H11 s11 => ?_⟩
        have s711 := s710.trans s11
        have ca := (ca9.mono (Tp.of s10)).mono (Tp.of s11)
        have st := st7.mono s711
        clear st7 tpu rav g1
        obtain ⟨dxs, u, v, g1, tpu, rav⟩ := id st
        obtain ⟨dxr, lx, ux, r1, r2, r3⟩ := id rav
        have nPl : (rfs lx).lookup ("places" : Str) = none := rfs_no (by decide +kernel)
        have nSp : (rfs lx).lookup ("step" : Str) = none := rfs_no (by decide +kernel)
        have nSo : (rfs lx).lookup ("stopped" : Str) = none := rfs_no (by decide +kernel)
        have nAp : (rfs lx).lookup ("applied" : Str) = none := rfs_no (by decide +kernel)
        have nEn : (sfs u v).lookup ("ending" : Str) = none := sfs_no (by decide +kernel) (by decide +kernel)
        have nPa : (sfs u v).lookup ("pace" : Str) = none := sfs_no (by decide +kernel) (by decide +kernel)
        have nDn : (sfs u v).lookup ("down" : Str) = none := sfs_no (by decide +kernel) (by decide +kernel)
        have nUp : (sfs u v).lookup ("up" : Str) = none := sfs_no (by decide +kernel) (by decide +kernel)
        cases hrow : rowAt m rows c.q c.a with
        | none =>
          rw [hrow] at hav
          have eav : av = .non := hav
          subst eav
          have po := plOk_none sm hrow
          refine ⟨LwP a D lr x2 t9 m s .non (down c) none H11, ?_, ?_⟩
          · walk_at "rl"
            refine ⟨CS, dxs, _, g1, XS.cl, XS.lower, _, sfs_lower, v, rfl, dxr, _, r1, nPl, v, down c, _, none, rfl, rav, po, fun H12 L s12 pl => ⟨L, rfl, s12, pl⟩⟩
          · rintro σ' H' ⟨L, rfl, s12, pl⟩
            walk_at "rl"
            have plN : H' L = some (.lst []) := pl
            refine ⟨dxs, _, s12 _ _ g1, nEn, x2, t9, rfl, ?_⟩
            walk_at "rl"
            refine ⟨dxs, _, s12 _ _ g1, nPa, x2, t9, m, s, c, rows, rfl, st.mono s12, ro, sm, ca.mono (Tp.of s12), ok, ?_⟩
            rw [hrow]
            walk_at "rl"
            refine ⟨Nat.zero_le _, fun p hp => ⟨.list [], .list [], .lst (SqL.of (same_new hp _ _ plN)) .nil, .lst (SqL.of upd_same) .nil, nil_shaped, nil_shaped, ?_⟩⟩
            rw [nil_refl]
            walk_at "rl"
            have s13 := s12.trans (same_new (o := .lst []) hp)
            refine ⟨CS, dxs, _, s13 _ _ g1, XS.cl, XS.lower, _, sfs_lower, v, rfl, dxr, _, s13 _ _ r1, nSp, v, down c, _, none, rfl, rav.mono s13, po, fun _ H14 s14 => ?_, fun i k e => by cases e⟩
            walk_at "rl"
            have s15 := s13.trans s14
            refine ⟨CS, dxs, _, s15 _ _ g1, XS.cl, XS.lower, _, sfs_lower, v, rfl, dxr, _, s15 _ _ r1, nSo, v, down c, _, none, rfl, rav.mono s15, po, fun H16 s16 => ?_⟩
            walk_at "rl"
            exact k H16
        | some r =>
          rw [hrow] at hav
          obtain ⟨t', rfl, hav'⟩ := hav
          have hav2 := hav'.mono (Tp.of s11)
          obtain ⟨i, z, po, rp, erp, ok2, nL2, nR2⟩ := goes sm ro ok (by omega) (by omega) hrow
          refine ⟨LwP a D lr x2 t9 m s (.ref t') (down c) (some (i, c.L.length)) H11, ?_, ?_⟩
          · walk_at "rl"
            refine ⟨CS, dxs, _, g1, XS.cl, XS.lower, _, sfs_lower, v, rfl, dxr, _, r1, nPl, v, down c, _, _, rfl, rav, po, fun H12 L s12 pl => ⟨L, rfl, s12, pl⟩⟩
          · rintro σ' H' ⟨L, rfl, s12, pl⟩
            walk_at "rl"
            obtain ⟨tp, hL, htp⟩ := pl
            refine ⟨dxs, _, s12 _ _ g1, nEn, x2, t9, rfl, ?_⟩
            walk_at "rl"
            refine ⟨dxs, _, s12 _ _ g1, nPa, x2, t9, m, s, c, rows, rfl, st.mono s12, ro, sm, ca.mono (Tp.of s12), ok, ?_⟩
            rw [hrow]
            walk_at "rl"
            refine ⟨_, .inl (SqL.of hL), iteNS rfl ⟨CS, dxs, _, s12 _ _ g1, XS.cl, XS.lower, _, sfs_lower, v, rfl, dxr, _, s12 _ _ r1, nSo, v, down c, _, _, rfl, rav.mono s12, po, fun H13 s13 => ?_⟩⟩
            walk_at "rl"
            have s123 := s12.trans s13
            refine ⟨CS, dxs, _, s123 _ _ g1, XS.cl, XS.lower, _, sfs_lower, v, rfl, dxr, _, s123 _ _ r1, nSp, v, down c, _, some (i, c.L.length), rfl, rav.mono s123, po, (fun e => nomatch e), fun i' k' e => ?_⟩
            injection e with e
            injection e with ei ek
            subst ei
            subst ek
            refine ⟨frontI c, backI c, z, rp, fun H14 s14 => ?_⟩
            rw [erp]
            have s124 := s123.trans s14
            refine ⟨_, SqL.of (s14 _ _ (s13 _ _ hL)), _, at0, tp, rfl, _, SqT.of (s14 _ _ (s13 _ _ htp)), rfl, ?_⟩
            walk_at "rl"
            refine ⟨dxs, _, s124 _ _ g1, nDn, x2, t', cstep r c, m, s, rfl, hav2.mono (Tp.of s124), ok2, sm.m10, sm.s20, by omega, by omega, fun H15 s15 => ?_⟩
            walk_at "rl"
            have s125 := s124.trans s15
            refine ⟨dxs, _, s125 _ _ g1, nUp, x2, m, s, cstep r c, rows, rfl, st.mono s125, sm, ok2, by omega, by omega, fun H16 t'' s16 ca16 => ?_⟩
            have s126 := s125.trans s16
            refine ⟨cD (cstep r c), cD (cstep r c), cD_dp ca16, cD_dp (hav2.mono (Tp.of s126)), cD_shaped _, cD_shaped _, ?_⟩
            rw [cD_refl]
            walk_at "rl"
            refine ⟨CS, dxs, _, s126 _ _ g1, XS.cl, XS.lower, _, sfs_lower, v, rfl, dxr, _, s126 _ _ r1, nAp, v, down c, _, i, c.L.length, frontI c, backI c, z, rfl, rav.mono s126, po, rp, fun H17 s17 => ?_⟩
            rw [erp]
            walk_at "rl"
            exact k H17
end
end K68
end
section
open PySem L2 TL
open C8 (Cal CalAt Met Mak pe_c pe_mk pe_mt pe_mt0 pe_cv pe_gc pss_cut tCallV tCut)
local macro_rules | `(tactic| walk_at "rd") => `(tactic| simp only [K68.cx_K, wipe, tYes, rIxT, rIxL, tRet, tRetN, tAndV, tOrV, tCB, tCons, tNil, tVar, tC, tNotV, tChain, rI0, rI, rU, tUn, tOp, L2.start, tSeq, tAsg, gName, tIfS, tTest, tDrop, tTup, tLst, tNext, tBreak, tCont, tB, tNot, tAnd, tOr, tIf, tCall, tMeth, tFld, tCut, K68.tRevT, tIsN, tNotN, tCmp, t2I, tJs, tFmt, K68.rEq_str, K68.rNe_str, K68.rEq_int, K68.rNe_int, decide_eq_true_eq, and_assoc, tPar, gTup, gCons, gNil, tCallV, tMake, tSl, tPart, tNoPart, tBM, tBM0, tM0, tM1, sFld,
  List.map, List.replicate, List.length_cons, List.length_nil, List.cons_append, List.nil_append, List.append_nil, List.set_cons_zero, List.set_cons_succ, List.getElem?_cons_zero, List.getElem?_cons_succ, Nat.zero_add, Nat.sub_self, Nat.reduceAdd, Nat.reduceSub,
  Option.some.injEq, exists_eq_left', exists_eq_left, exists_and_left, exists_eq, exists_eq', exists_false, V.int.injEq, V.bl.injEq, V.str.injEq, V.ref.injEq, List.cons.injEq, if_true, if_false, Bool.false_eq_true, true_and, and_true, false_and, and_false, false_or, or_false, decide_true, decide_false, Bool.and_self, Bool.and_true, Bool.true_and, tNever, Bool.not_true, Bool.not_false, reduceIte, reduceCtorEq])
local macro_rules | `(tactic| walk_at "tx") => `(tactic| simp only [K68.S_eq, Int.natCast_eq_zero, K68.e_nil, K68.e_nil', K68.e_open, K68.e_close, K68.e_left, K68.e_right, K68.e_zero, K68.e_zeroR, K68.e_digits, K68.S_num, K68.S_app, K68.S_len, List.cons_append, List.nil_append, List.append_assoc, List.length_append, List.length_cons, List.length_nil, List.cons.injEq, and_true, K68.line_])
set_option maxHeartbeats 0
namespace K68
theorem all_mk {l : PySem.W.OpenLaw} {w : World} {K : PySem.W.Frag} {h : Heap} {mg : Str → Option Value} {fa CT CR CS fI fSg fRt fLf fIr fTm fMk fTaR fTaI fTaT fTaW fTaS fTaD fTaC fRo fRuI fRuP fRuR fRuF fRuS fRuE fRuA fStI fStD fStP fStE fStU fLD fLM fLT fLC fLS fLaw : Addr} (X : K.In h) (G : h.Ns mainGlobals mg) (hfa : mg "law" = some (.ref fa))
    {odI anI odSg anSg odRt anRt odLf anLf odIr anIr odTm anTm odMk anMk odTaR anTaR odTaI anTaI odTaT anTaT odTaW anTaW odTaS anTaS odTaD anTaD odTaC anTaC odRo anRo odRuI anRuI odRuP anRuP odRuR anRuR odRuF anRuF odRuS anRuS odRuE anRuE odRuA anRuA odStI anStI odStD anStD odStP anStP odStE anStE odStU anStU odLD anLD odLM anLM odLT anLT odLC anLC odLS anLS odLaw anLaw : Option Addr} {slI slSg slRt slLf slIr slTm slMk slTaR slTaI slTaT slTaW slTaS slTaD slTaC slRo slRuI slRuP slRuR slRuF slRuS slRuE slRuA slStI slStD slStP slStE slStU slLD slLM slLT slLC slLS slLaw : Array (Option Value)} {ocI kVI dcI pmI cdI ctI ocSg kVSg dcSg pmSg cdSg ctSg ocRt kVRt dcRt pmRt cdRt ctRt ocLf kVLf dcLf pmLf cdLf ctLf ocIr kVIr dcIr pmIr cdIr ctIr ocTm kVTm dcTm pmTm cdTm ctTm ocMk kVMk dcMk pmMk cdMk ctMk ocTaR kVTaR dcTaR pmTaR cdTaR ctTaR ocTaI kVTaI dcTaI pmTaI cdTaI ctTaI ocTaT kVTaT dcTaT pmTaT cdTaT ctTaT ocTaW kVTaW dcTaW pmTaW cdTaW ctTaW ocTaS kVTaS dcTaS pmTaS cdTaS ctTaS ocTaD kVTaD dcTaD pmTaD cdTaD ctTaD ocTaC kVTaC dcTaC pmTaC cdTaC ctTaC ocRo kVRo dcRo pmRo cdRo ctRo ocRuI kVRuI dcRuI pmRuI cdRuI ctRuI ocRuP kVRuP dcRuP pmRuP cdRuP ctRuP ocRuR kVRuR dcRuR pmRuR cdRuR ctRuR ocRuF kVRuF dcRuF pmRuF cdRuF ctRuF ocRuS kVRuS dcRuS pmRuS cdRuS ctRuS ocRuE kVRuE dcRuE pmRuE cdRuE ctRuE ocRuA kVRuA dcRuA pmRuA cdRuA ctRuA ocStI kVStI dcStI pmStI cdStI ctStI ocStD kVStD dcStD pmStD cdStD ctStD ocStP kVStP dcStP pmStP cdStP ctStP ocStE kVStE dcStE pmStE cdStE ctStE ocStU kVStU dcStU pmStU cdStU ctStU ocLD kVLD dcLD pmLD cdLD ctLD ocLM kVLM dcLM pmLM cdLM ctLM ocLT kVLT dcLT pmLT cdLT ctLT ocLC kVLC dcLC pmLC cdLC ctLC ocLS kVLS dcLS pmLS cdLS ctLS ocLaw kVLaw dcLaw pmLaw cdLaw ctLaw : Value} {tk1 tk2 tk3 tk4 : Tok}
    (aCT : PySem.W.nsIn K mainGlobals "Tape" = some (some (.ref CT)))
    (pgCT : PySem.W.plainGet K CT Str.empty = true)
    (hdCT : PySem.W.hasDictIn K CT = true)
    (poCT : PySem.W.plainOver K CT = true)
    (saCT : PySem.W.findIn K (.ref CT) "__setattr__" = some (some (.builtin "object.__setattr__")))
    (mkCT : PySem.W.makesIn K CT = true)
    (kcCT : PySem.W.keepIn K (.ref CT) = true)
    (nM : PySem.W.findIn K (.ref CT) "marks" = some none)
    (nS : PySem.W.findIn K (.ref CT) "states" = some none)
    (nR : PySem.W.findIn K (.ref CT) "_rows" = some none)
    (aCR : PySem.W.nsIn K mainGlobals "Rules" = some (some (.ref CR)))
    (pgCR : PySem.W.plainGet K CR Str.empty = true)
    (hdCR : PySem.W.hasDictIn K CR = true)
    (poCR : PySem.W.plainOver K CR = true)
    (saCR : PySem.W.findIn K (.ref CR) "__setattr__" = some (some (.builtin "object.__setattr__")))
    (mkCR : PySem.W.makesIn K CR = true)
    (kcCR : PySem.W.keepIn K (.ref CR) = true)
    (nU : PySem.W.findIn K (.ref CR) "_rules" = some none)
    (aCS : PySem.W.nsIn K mainGlobals "RuleStair" = some (some (.ref CS)))
    (pgCS : PySem.W.plainGet K CS Str.empty = true)
    (hdCS : PySem.W.hasDictIn K CS = true)
    (poCS : PySem.W.plainOver K CS = true)
    (saCS : PySem.W.findIn K (.ref CS) "__setattr__" = some (some (.builtin "object.__setattr__")))
    (mkCS : PySem.W.makesIn K CS = true)
    (kcCS : PySem.W.keepIn K (.ref CS) = true)
    (nP : PySem.W.findIn K (.ref CS) "upper" = some none)
    (nW : PySem.W.findIn K (.ref CS) "lower" = some none)
    (aI : PySem.W.nsIn K mainGlobals "is_integer" = some (some (.ref fI)))
    (lI : K.lookup fI = some ⟨ocI, odI, .func (PySem.W.fnOf "is_integer" "is_integer" (defArgs sIsInteger) (defBody sIsInteger) (defScope sIsInteger) .none kVI dcI pmI anI cdI ctI), slI⟩)
    (cI : PySem.W.codeIn K cdI "is_integer" = true)
    (kI : PySem.W.keepIn K (.ref fI) = true)
    (aSg : PySem.W.nsIn K mainGlobals "_sign" = some (some (.ref fSg)))
    (lSg : K.lookup fSg = some ⟨ocSg, odSg, .func (PySem.W.fnOf "_sign" "_sign" (defArgs sSign) (defBody sSign) (defScope sSign) .none kVSg dcSg pmSg anSg cdSg ctSg), slSg⟩)
    (cSg : PySem.W.codeIn K cdSg "_sign" = true)
    (kSg : PySem.W.keepIn K (.ref fSg) = true)
    (aRt : PySem.W.nsIn K mainGlobals "_right" = some (some (.ref fRt)))
    (lRt : K.lookup fRt = some ⟨ocRt, odRt, .func (PySem.W.fnOf "_right" "_right" (defArgs sRight) (defBody sRight) (defScope sRight) .none kVRt dcRt pmRt anRt cdRt ctRt), slRt⟩)
    (cRt : PySem.W.codeIn K cdRt "_right" = true)
    (kRt : PySem.W.keepIn K (.ref fRt) = true)
    (aLf : PySem.W.nsIn K mainGlobals "_left" = some (some (.ref fLf)))
    (lLf : K.lookup fLf = some ⟨ocLf, odLf, .func (PySem.W.fnOf "_left" "_left" (defArgs sLeft) (defBody sLeft) (defScope sLeft) .none kVLf dcLf pmLf anLf cdLf ctLf), slLf⟩)
    (cLf : PySem.W.codeIn K cdLf "_left" = true)
    (kLf : PySem.W.keepIn K (.ref fLf) = true)
    (aIr : PySem.W.nsIn K mainGlobals "_is_rule" = some (some (.ref fIr)))
    (lIr : K.lookup fIr = some ⟨ocIr, odIr, .func (PySem.W.fnOf "_is_rule" "_is_rule" (defArgs sIsRule) (defBody sIsRule) (defScope sIsRule) .none kVIr dcIr pmIr anIr cdIr ctIr), slIr⟩)
    (cIr : PySem.W.codeIn K cdIr "_is_rule" = true)
    (kIr : PySem.W.keepIn K (.ref fIr) = true)
    (aTm : PySem.W.nsIn K mainGlobals "trimmed" = some (some (.ref fTm)))
    (lTm : K.lookup fTm = some ⟨ocTm, odTm, .func (PySem.W.fnOf "trimmed" "trimmed" (defArgs sTrimmed) (defBody sTrimmed) (defScope sTrimmed) .none kVTm dcTm pmTm anTm cdTm ctTm), slTm⟩)
    (cTm : PySem.W.codeIn K cdTm "trimmed" = true)
    (kTm : PySem.W.keepIn K (.ref fTm) = true)
    (aMk : PySem.W.nsIn K mainGlobals "_marks" = some (some (.ref fMk)))
    (lMk : K.lookup fMk = some ⟨ocMk, odMk, .func (PySem.W.fnOf "_marks" "_marks" (defArgs sMarks) (defBody sMarks) (defScope sMarks) .none kVMk dcMk pmMk anMk cdMk ctMk), slMk⟩)
    (cMk : PySem.W.codeIn K cdMk "_marks" = true)
    (kMk : PySem.W.keepIn K (.ref fMk) = true)
    (aTaR : PySem.W.findIn K (.ref CT) "_is_row" = some (some (.ref fTaR)))
    (iTaR : PySem.W.isFn K (.ref fTaR) = true)
    (lTaR : K.lookup fTaR = some ⟨ocTaR, odTaR, .func (PySem.W.fnOf "_is_row" "Tape._is_row" (defArgs sTaIsRow) (defBody sTaIsRow) (defScope sTaIsRow) .none kVTaR dcTaR pmTaR anTaR cdTaR ctTaR), slTaR⟩)
    (cTaR : PySem.W.codeIn K cdTaR "Tape._is_row" = true)
    (kTaR : PySem.W.keepIn K (.ref fTaR) = true)
    (aTaI : PySem.W.findIn K (.ref CT) "__init__" = some (some (.ref fTaI)))
    (iTaI : PySem.W.isFn K (.ref fTaI) = true)
    (lTaI : K.lookup fTaI = some ⟨ocTaI, odTaI, .func (PySem.W.fnOf "__init__" "Tape.__init__" (defArgs sTaInit) (defBody sTaInit) (defScope sTaInit) .none kVTaI dcTaI pmTaI anTaI cdTaI ctTaI), slTaI⟩)
    (cTaI : PySem.W.codeIn K cdTaI "Tape.__init__" = true)
    (kTaI : PySem.W.keepIn K (.ref fTaI) = true)
    (aTaT : PySem.W.findIn K (.ref CT) "table" = some (some (.ref fTaT)))
    (iTaT : PySem.W.isFn K (.ref fTaT) = true)
    (lTaT : K.lookup fTaT = some ⟨ocTaT, odTaT, .func (PySem.W.fnOf "table" "Tape.table" (defArgs sTaTable) (defBody sTaTable) (defScope sTaTable) .none kVTaT dcTaT pmTaT anTaT cdTaT ctTaT), slTaT⟩)
    (cTaT : PySem.W.codeIn K cdTaT "Tape.table" = true)
    (kTaT : PySem.W.keepIn K (.ref fTaT) = true)
    (aTaW : PySem.W.findIn K (.ref CT) "row" = some (some (.ref fTaW)))
    (iTaW : PySem.W.isFn K (.ref fTaW) = true)
    (lTaW : K.lookup fTaW = some ⟨ocTaW, odTaW, .func (PySem.W.fnOf "row" "Tape.row" (defArgs sTaRow) (defBody sTaRow) (defScope sTaRow) .none kVTaW dcTaW pmTaW anTaW cdTaW ctTaW), slTaW⟩)
    (cTaW : PySem.W.codeIn K cdTaW "Tape.row" = true)
    (kTaW : PySem.W.keepIn K (.ref fTaW) = true)
    (aTaS : PySem.W.findIn K (.ref CT) "stopped" = some (some (.ref fTaS)))
    (iTaS : PySem.W.isFn K (.ref fTaS) = true)
    (lTaS : K.lookup fTaS = some ⟨ocTaS, odTaS, .func (PySem.W.fnOf "stopped" "Tape.stopped" (defArgs sTaStopped) (defBody sTaStopped) (defScope sTaStopped) .none kVTaS dcTaS pmTaS anTaS cdTaS ctTaS), slTaS⟩)
    (cTaS : PySem.W.codeIn K cdTaS "Tape.stopped" = true)
    (kTaS : PySem.W.keepIn K (.ref fTaS) = true)
    (aTaD : PySem.W.findIn K (.ref CT) "_is_side" = some (some (.ref fTaD)))
    (iTaD : PySem.W.isFn K (.ref fTaD) = true)
    (lTaD : K.lookup fTaD = some ⟨ocTaD, odTaD, .func (PySem.W.fnOf "_is_side" "Tape._is_side" (defArgs sTaIsSide) (defBody sTaIsSide) (defScope sTaIsSide) .none kVTaD dcTaD pmTaD anTaD cdTaD ctTaD), slTaD⟩)
    (cTaD : PySem.W.codeIn K cdTaD "Tape._is_side" = true)
    (kTaD : PySem.W.keepIn K (.ref fTaD) = true)
    (aTaC : PySem.W.findIn K (.ref CT) "is_configuration" = some (some (.ref fTaC)))
    (iTaC : PySem.W.isFn K (.ref fTaC) = true)
    (lTaC : K.lookup fTaC = some ⟨ocTaC, odTaC, .func (PySem.W.fnOf "is_configuration" "Tape.is_configuration" (defArgs sTaIsConf) (defBody sTaIsConf) (defScope sTaIsConf) .none kVTaC dcTaC pmTaC anTaC cdTaC ctTaC), slTaC⟩)
    (cTaC : PySem.W.codeIn K cdTaC "Tape.is_configuration" = true)
    (kTaC : PySem.W.keepIn K (.ref fTaC) = true)
    (aRo : PySem.W.nsIn K mainGlobals "_rules_of" = some (some (.ref fRo)))
    (lRo : K.lookup fRo = some ⟨ocRo, odRo, .func (PySem.W.fnOf "_rules_of" "_rules_of" (defArgs sRulesOf) (defBody sRulesOf) (defScope sRulesOf) .none kVRo dcRo pmRo anRo cdRo ctRo), slRo⟩)
    (cRo : PySem.W.codeIn K cdRo "_rules_of" = true)
    (kRo : PySem.W.keepIn K (.ref fRo) = true)
    (aRuI : PySem.W.findIn K (.ref CR) "__init__" = some (some (.ref fRuI)))
    (iRuI : PySem.W.isFn K (.ref fRuI) = true)
    (lRuI : K.lookup fRuI = some ⟨ocRuI, odRuI, .func (PySem.W.fnOf "__init__" "Rules.__init__" (defArgs sRuInit) (defBody sRuInit) (defScope sRuInit) .none kVRuI dcRuI pmRuI anRuI cdRuI ctRuI), slRuI⟩)
    (cRuI : PySem.W.codeIn K cdRuI "Rules.__init__" = true)
    (kRuI : PySem.W.keepIn K (.ref fRuI) = true)
    (aRuP : PySem.W.findIn K (.ref CR) "places" = some (some (.ref fRuP)))
    (iRuP : PySem.W.isFn K (.ref fRuP) = true)
    (lRuP : K.lookup fRuP = some ⟨ocRuP, odRuP, .func (PySem.W.fnOf "places" "Rules.places" (defArgs sRuPlaces) (defBody sRuPlaces) (defScope sRuPlaces) .none kVRuP dcRuP pmRuP anRuP cdRuP ctRuP), slRuP⟩)
    (cRuP : PySem.W.codeIn K cdRuP "Rules.places" = true)
    (kRuP : PySem.W.keepIn K (.ref fRuP) = true)
    (aRuR : PySem.W.findIn K (.ref CR) "_replaced" = some (some (.ref fRuR)))
    (iRuR : PySem.W.isFn K (.ref fRuR) = true)
    (lRuR : K.lookup fRuR = some ⟨ocRuR, odRuR, .func (PySem.W.fnOf "_replaced" "Rules._replaced" (defArgs sRuReplaced) (defBody sRuReplaced) (defScope sRuReplaced) .none kVRuR dcRuR pmRuR anRuR cdRuR ctRuR), slRuR⟩)
    (cRuR : PySem.W.codeIn K cdRuR "Rules._replaced" = true)
    (kRuR : PySem.W.keepIn K (.ref fRuR) = true)
    (aRuF : PySem.W.findIn K (.ref CR) "_first" = some (some (.ref fRuF)))
    (iRuF : PySem.W.isFn K (.ref fRuF) = true)
    (lRuF : K.lookup fRuF = some ⟨ocRuF, odRuF, .func (PySem.W.fnOf "_first" "Rules._first" (defArgs sRuFirst) (defBody sRuFirst) (defScope sRuFirst) .none kVRuF dcRuF pmRuF anRuF cdRuF ctRuF), slRuF⟩)
    (cRuF : PySem.W.codeIn K cdRuF "Rules._first" = true)
    (kRuF : PySem.W.keepIn K (.ref fRuF) = true)
    (aRuS : PySem.W.findIn K (.ref CR) "stopped" = some (some (.ref fRuS)))
    (iRuS : PySem.W.isFn K (.ref fRuS) = true)
    (lRuS : K.lookup fRuS = some ⟨ocRuS, odRuS, .func (PySem.W.fnOf "stopped" "Rules.stopped" (defArgs sRuStopped) (defBody sRuStopped) (defScope sRuStopped) .none kVRuS dcRuS pmRuS anRuS cdRuS ctRuS), slRuS⟩)
    (cRuS : PySem.W.codeIn K cdRuS "Rules.stopped" = true)
    (kRuS : PySem.W.keepIn K (.ref fRuS) = true)
    (aRuE : PySem.W.findIn K (.ref CR) "step" = some (some (.ref fRuE)))
    (iRuE : PySem.W.isFn K (.ref fRuE) = true)
    (lRuE : K.lookup fRuE = some ⟨ocRuE, odRuE, .func (PySem.W.fnOf "step" "Rules.step" (defArgs sRuStep) (defBody sRuStep) (defScope sRuStep) .none kVRuE dcRuE pmRuE anRuE cdRuE ctRuE), slRuE⟩)
    (cRuE : PySem.W.codeIn K cdRuE "Rules.step" = true)
    (kRuE : PySem.W.keepIn K (.ref fRuE) = true)
    (aRuA : PySem.W.findIn K (.ref CR) "applied" = some (some (.ref fRuA)))
    (iRuA : PySem.W.isFn K (.ref fRuA) = true)
    (lRuA : K.lookup fRuA = some ⟨ocRuA, odRuA, .func (PySem.W.fnOf "applied" "Rules.applied" (defArgs sRuApplied) (defBody sRuApplied) (defScope sRuApplied) .none kVRuA dcRuA pmRuA anRuA cdRuA ctRuA), slRuA⟩)
    (cRuA : PySem.W.codeIn K cdRuA "Rules.applied" = true)
    (kRuA : PySem.W.keepIn K (.ref fRuA) = true)
    (aStI : PySem.W.findIn K (.ref CS) "__init__" = some (some (.ref fStI)))
    (iStI : PySem.W.isFn K (.ref fStI) = true)
    (lStI : K.lookup fStI = some ⟨ocStI, odStI, .func (PySem.W.fnOf "__init__" "RuleStair.__init__" (defArgs sStInit) (defBody sStInit) (defScope sStInit) .none kVStI dcStI pmStI anStI cdStI ctStI), slStI⟩)
    (cStI : PySem.W.codeIn K cdStI "RuleStair.__init__" = true)
    (kStI : PySem.W.keepIn K (.ref fStI) = true)
    (aStD : PySem.W.findIn K (.ref CS) "down" = some (some (.ref fStD)))
    (iStD : PySem.W.isFn K (.ref fStD) = true)
    (lStD : K.lookup fStD = some ⟨ocStD, odStD, .func (PySem.W.fnOf "down" "RuleStair.down" (defArgs sStDown) (defBody sStDown) (defScope sStDown) .none kVStD dcStD pmStD anStD cdStD ctStD), slStD⟩)
    (cStD : PySem.W.codeIn K cdStD "RuleStair.down" = true)
    (kStD : PySem.W.keepIn K (.ref fStD) = true)
    (aStP : PySem.W.findIn K (.ref CS) "pace" = some (some (.ref fStP)))
    (iStP : PySem.W.isFn K (.ref fStP) = true)
    (lStP : K.lookup fStP = some ⟨ocStP, odStP, .func (PySem.W.fnOf "pace" "RuleStair.pace" (defArgs sStPace) (defBody sStPace) (defScope sStPace) .none kVStP dcStP pmStP anStP cdStP ctStP), slStP⟩)
    (cStP : PySem.W.codeIn K cdStP "RuleStair.pace" = true)
    (kStP : PySem.W.keepIn K (.ref fStP) = true)
    (aStE : PySem.W.findIn K (.ref CS) "ending" = some (some (.ref fStE)))
    (iStE : PySem.W.isFn K (.ref fStE) = true)
    (lStE : K.lookup fStE = some ⟨ocStE, odStE, .func (PySem.W.fnOf "ending" "RuleStair.ending" (defArgs sStEnding) (defBody sStEnding) (defScope sStEnding) .none kVStE dcStE pmStE anStE cdStE ctStE), slStE⟩)
    (cStE : PySem.W.codeIn K cdStE "RuleStair.ending" = true)
    (kStE : PySem.W.keepIn K (.ref fStE) = true)
    (aStU : PySem.W.findIn K (.ref CS) "up" = some (some (.ref fStU)))
    (iStU : PySem.W.isFn K (.ref fStU) = true)
    (lStU : K.lookup fStU = some ⟨ocStU, odStU, .func (PySem.W.fnOf "up" "RuleStair.up" (defArgs sStUp) (defBody sStUp) (defScope sStUp) .none kVStU dcStU pmStU anStU cdStU ctStU), slStU⟩)
    (cStU : PySem.W.codeIn K cdStU "RuleStair.up" = true)
    (kStU : PySem.W.keepIn K (.ref fStU) = true)
    (aLD : PySem.W.nsIn K mainGlobals "_law_draws" = some (some (.ref fLD)))
    (lLD : K.lookup fLD = some ⟨ocLD, odLD, .func (PySem.W.fnOf "_law_draws" "_law_draws" (defArgs sLDraws) (defBody sLDraws) (defScope sLDraws) .none kVLD dcLD pmLD anLD cdLD ctLD), slLD⟩)
    (cLD : PySem.W.codeIn K cdLD "_law_draws" = true)
    (kLD : PySem.W.keepIn K (.ref fLD) = true)
    (aLM : PySem.W.nsIn K mainGlobals "_law_machine" = some (some (.ref fLM)))
    (lLM : K.lookup fLM = some ⟨ocLM, odLM, .func (PySem.W.fnOf "_law_machine" "_law_machine" (defArgs sLMachine) (defBody sLMachine) (defScope sLMachine) .none kVLM dcLM pmLM anLM cdLM ctLM), slLM⟩)
    (cLM : PySem.W.codeIn K cdLM "_law_machine" = true)
    (kLM : PySem.W.keepIn K (.ref fLM) = true)
    (aLT : PySem.W.nsIn K mainGlobals "_law_trimmed" = some (some (.ref fLT)))
    (lLT : K.lookup fLT = some ⟨ocLT, odLT, .func (PySem.W.fnOf "_law_trimmed" "_law_trimmed" (defArgs sLTrimmed) (defBody sLTrimmed) (defScope sLTrimmed) .none kVLT dcLT pmLT anLT cdLT ctLT), slLT⟩)
    (cLT : PySem.W.codeIn K cdLT "_law_trimmed" = true)
    (kLT : PySem.W.keepIn K (.ref fLT) = true)
    (aLC : PySem.W.nsIn K mainGlobals "_law_configuration" = some (some (.ref fLC)))
    (lLC : K.lookup fLC = some ⟨ocLC, odLC, .func (PySem.W.fnOf "_law_configuration" "_law_configuration" (defArgs sLConf) (defBody sLConf) (defScope sLConf) .none kVLC dcLC pmLC anLC cdLC ctLC), slLC⟩)
    (cLC : PySem.W.codeIn K cdLC "_law_configuration" = true)
    (kLC : PySem.W.keepIn K (.ref fLC) = true)
    (aLS : PySem.W.nsIn K mainGlobals "_law_tape_step" = some (some (.ref fLS)))
    (lLS : K.lookup fLS = some ⟨ocLS, odLS, .func (PySem.W.fnOf "_law_tape_step" "_law_tape_step" (defArgs sLStep) (defBody sLStep) (defScope sLStep) .none kVLS dcLS pmLS anLS cdLS ctLS), slLS⟩)
    (cLS : PySem.W.codeIn K cdLS "_law_tape_step" = true)
    (kLS : PySem.W.keepIn K (.ref fLS) = true)
    (aLaw : PySem.W.nsIn K mainGlobals "law" = some (some (.ref fLaw)))
    (lLaw : K.lookup fLaw = some ⟨ocLaw, odLaw, .func (PySem.W.fnOf "law" "law" (defArgs sLaw) (defBody sLaw) (defScope sLaw) .none kVLaw dcLaw pmLaw anLaw cdLaw ctLaw), slLaw⟩)
    (cLaw : PySem.W.codeIn K cdLaw "law" = true)
    (kLaw : PySem.W.keepIn K (.ref fLaw) = true)
    (zlen : PySem.W.nsIn K mainGlobals "len" = some none)
    (zrange : PySem.W.nsIn K mainGlobals "range" = some none)
    (zisinstance : PySem.W.nsIn K mainGlobals "isinstance" = some none)
    (ztuple : PySem.W.nsIn K mainGlobals "tuple" = some none)
    (zlist : PySem.W.nsIn K mainGlobals "list" = some none)
    (zall : PySem.W.nsIn K mainGlobals "all" = some none)
    (zstr : PySem.W.nsIn K mainGlobals "str" = some none)
    (zint : PySem.W.nsIn K mainGlobals "int" = some none)
    (zbool : PySem.W.nsIn K mainGlobals "bool" = some none)
    (zabs : PySem.W.nsIn K mainGlobals "abs" = some none)
    (zreversed : PySem.W.nsIn K mainGlobals "reversed" = some none)
    (k1 : PySem.W.nsIn K mainGlobals "MOST_RULES" = some (some (.int 20000 tk1)))
    (k2 : PySem.W.nsIn K mainGlobals "MOST_MARKS_rulestair" = some (some (.int 10 tk2)))
    (k3 : PySem.W.nsIn K mainGlobals "MOST_MARKS_tape" = some (some (.int 16 tk3)))
    (k4 : PySem.W.nsIn K mainGlobals "MOST_STATES" = some (some (.int 4000 tk4))) :
    ∃ fd : FuncData, (∀ (s : Shared) (v : Value), BindsTo s fd ⟨[v], []⟩ [("_law_script", v)]) ∧ ∀ base : Heap, K.In base → base.Ns mainGlobals mg → FnOk l.prog w K mg base CX0 6 fa fd ["_law_script"] (spLaw K) := by
  have e := hfa.symm.trans (PySem.W.mg_of X G aLaw)
  cases e
  have T : Bl mg := ⟨PySem.W.mg_none_of X G zlen, PySem.W.mg_none_of X G zrange, PySem.W.mg_none_of X G zisinstance, PySem.W.mg_none_of X G ztuple, PySem.W.mg_none_of X G zlist, PySem.W.mg_none_of X G zall, PySem.W.mg_none_of X G zstr, PySem.W.mg_none_of X G zint, PySem.W.mg_none_of X G zbool, PySem.W.mg_none_of X G zabs, PySem.W.mg_none_of X G zreversed⟩
  have XT : TxT K CT := ⟨⟨pgCT, hdCT, poCT, saCT⟩, nM, nS, nR⟩
  have XR : TxR K CR := ⟨⟨pgCR, hdCR, poCR, saCR⟩, nU⟩
  have XS : TxS K CS := ⟨⟨pgCS, hdCS, poCS, saCS⟩, nP, nW⟩
  have FI := fun_mk (st := sIsInteger) lI cI kI
  have bI := FI.binds (ps := ["value", "least", "most"]) fun _ _ _ _ _ _ us hl => match us, hl with | [_, _, _], _ => rfl
  have FSg := fun_mk (st := sSign) lSg cSg kSg
  have bSg := FSg.binds (ps := ["state"]) fun _ _ _ _ _ _ us hl => match us, hl with | [_], _ => rfl
  have FRt := fun_mk (st := sRight) lRt cRt kRt
  have bRt := FRt.binds (ps := ["left", "row", "right"]) fun _ _ _ _ _ _ us hl => match us, hl with | [_, _, _], _ => rfl
  have FLf := fun_mk (st := sLeft) lLf cLf kLf
  have bLf := FLf.binds (ps := ["left", "row", "right"]) fun _ _ _ _ _ _ us hl => match us, hl with | [_, _, _], _ => rfl
  have FIr := fun_mk (st := sIsRule) lIr cIr kIr
  have bIr := FIr.binds (ps := ["value"]) fun _ _ _ _ _ _ us hl => match us, hl with | [_], _ => rfl
  have FTm := fun_mk (st := sTrimmed) lTm cTm kTm
  have bTm := FTm.binds (ps := ["marks"]) fun _ _ _ _ _ _ us hl => match us, hl with | [_], _ => rfl
  have FMk := fun_mk (st := sMarks) lMk cMk kMk
  have bMk := FMk.binds (ps := ["text"]) fun _ _ _ _ _ _ us hl => match us, hl with | [_], _ => rfl
  have FTaR := fun_mk (st := sTaIsRow) lTaR cTaR kTaR
  have bTaR := FTaR.binds (ps := ["self", "row"]) fun _ _ _ _ _ _ us hl => match us, hl with | [_, _], _ => rfl
  have FTaI := fun_mk (st := sTaInit) lTaI cTaI kTaI
  have bTaI := FTaI.binds (ps := ["self", "marks", "states", "rows"]) fun _ _ _ _ _ _ us hl => match us, hl with | [_, _, _, _], _ => rfl
  have FTaT := fun_mk (st := sTaTable) lTaT cTaT kTaT
  have bTaT := FTaT.binds (ps := ["self"]) fun _ _ _ _ _ _ us hl => match us, hl with | [_], _ => rfl
  have FTaW := fun_mk (st := sTaRow) lTaW cTaW kTaW
  have bTaW := FTaW.binds (ps := ["self", "state", "mark"]) fun _ _ _ _ _ _ us hl => match us, hl with | [_, _, _], _ => rfl
  have FTaS := fun_mk (st := sTaStopped) lTaS cTaS kTaS
  have bTaS := FTaS.binds (ps := ["self", "configuration"]) fun _ _ _ _ _ _ us hl => match us, hl with | [_, _], _ => rfl
  have FTaD := fun_mk (st := sTaIsSide) lTaD cTaD kTaD
  have bTaD := FTaD.binds (ps := ["self", "value"]) fun _ _ _ _ _ _ us hl => match us, hl with | [_, _], _ => rfl
  have FTaC := fun_mk (st := sTaIsConf) lTaC cTaC kTaC
  have bTaC := FTaC.binds (ps := ["self", "value"]) fun _ _ _ _ _ _ us hl => match us, hl with | [_, _], _ => rfl
  have FRo := fun_mk (st := sRulesOf) lRo cRo kRo
  have bRo := FRo.binds (ps := ["machine"]) fun _ _ _ _ _ _ us hl => match us, hl with | [_], _ => rfl
  have FRuI := fun_mk (st := sRuInit) lRuI cRuI kRuI
  have bRuI := FRuI.binds (ps := ["self", "rules"]) fun _ _ _ _ _ _ us hl => match us, hl with | [_, _], _ => rfl
  have FRuP := fun_mk (st := sRuPlaces) lRuP cRuP kRuP
  have bRuP := FRuP.binds (ps := ["self", "configuration"]) fun _ _ _ _ _ _ us hl => match us, hl with | [_, _], _ => rfl
  have FRuR := fun_mk (st := sRuReplaced) lRuR cRuR kRuR
  have bRuR := FRuR.binds (ps := ["self", "configuration", "rule", "at"]) fun _ _ _ _ _ _ us hl => match us, hl with | [_, _, _, _], _ => rfl
  have FRuF := fun_mk (st := sRuFirst) lRuF cRuF kRuF
  have bRuF := FRuF.binds (ps := ["self", "configuration"]) fun _ _ _ _ _ _ us hl => match us, hl with | [_, _], _ => rfl
  have FRuS := fun_mk (st := sRuStopped) lRuS cRuS kRuS
  have bRuS := FRuS.binds (ps := ["self", "configuration"]) fun _ _ _ _ _ _ us hl => match us, hl with | [_, _], _ => rfl
  have FRuE := fun_mk (st := sRuStep) lRuE cRuE kRuE
  have bRuE := FRuE.binds (ps := ["self", "configuration"]) fun _ _ _ _ _ _ us hl => match us, hl with | [_, _], _ => rfl
  have FRuA := fun_mk (st := sRuApplied) lRuA cRuA kRuA
  have bRuA := FRuA.binds (ps := ["self", "configuration", "rule", "at"]) fun _ _ _ _ _ _ us hl => match us, hl with | [_, _, _, _], _ => rfl
  have FStI := fun_mk (st := sStInit) lStI cStI kStI
  have bStI := FStI.binds (ps := ["self", "machine"]) fun _ _ _ _ _ _ us hl => match us, hl with | [_, _], _ => rfl
  have FStD := fun_mk (st := sStDown) lStD cStD kStD
  have bStD := FStD.binds (ps := ["self", "configuration"]) fun _ _ _ _ _ _ us hl => match us, hl with | [_, _], _ => rfl
  have FStP := fun_mk (st := sStPace) lStP cStP kStP
  have bStP := FStP.binds (ps := ["self", "configuration"]) fun _ _ _ _ _ _ us hl => match us, hl with | [_, _], _ => rfl
  have FStE := fun_mk (st := sStEnding) lStE cStE kStE
  have bStE := FStE.binds (ps := ["self", "configuration"]) fun _ _ _ _ _ _ us hl => match us, hl with | [_, _], _ => rfl
  have FStU := fun_mk (st := sStUp) lStU cStU kStU
  have bStU := FStU.binds (ps := ["self", "configuration"]) fun _ _ _ _ _ _ us hl => match us, hl with | [_, _], _ => rfl
  have FLD := fun_mk (st := sLDraws) lLD cLD kLD
  have bLD := FLD.binds (ps := ["_law_script", "_law_many"]) fun _ _ _ _ _ _ us hl => match us, hl with | [_, _], _ => rfl
  have FLM := fun_mk (st := sLMachine) lLM cLM kLM
  have bLM := FLM.binds (ps := ["_law_draws_here", "_law_marks", "_law_states"]) fun _ _ _ _ _ _ us hl => match us, hl with | [_, _, _], _ => rfl
  have FLT := fun_mk (st := sLTrimmed) lLT cLT kLT
  have bLT := FLT.binds (ps := ["_law_marks"]) fun _ _ _ _ _ _ us hl => match us, hl with | [_], _ => rfl
  have FLC := fun_mk (st := sLConf) lLC cLC kLC
  have bLC := FLC.binds (ps := ["_law_draws_here", "_law_marks", "_law_states", "_law_most"]) fun _ _ _ _ _ _ us hl => match us, hl with | [_, _, _, _], _ => rfl
  have FLS := fun_mk (st := sLStep) lLS cLS kLS
  have bLS := FLS.binds (ps := ["_law_rows", "_law_marks", "_law_configuration_here"]) fun _ _ _ _ _ _ us hl => match us, hl with | [_, _, _], _ => rfl
  have FLaw := fun_mk (st := sLaw) lLaw cLaw kLaw
  refine ⟨PySem.W.fnOf "law" "law" (defArgs sLaw) (defBody sLaw) (defScope sLaw) .none kVLaw dcLaw pmLaw anLaw cdLaw ctLaw, fun s v => .of_eq rfl, fun base _ _ => ?_⟩
  have gI : FnOk l.prog w K mg base CX0 1 fI _ ["value", "least", "most"] (spInteger) := ok_integer FI T
  have cI : Cal l.prog w K mg base 1 "is_integer" (spInteger) [] := ⟨_, _, _, _, gI, PySem.W.mg_of X G aI, kI, bI, .nil⟩
  have gSg : FnOk l.prog w K mg base CX0 1 fSg _ ["state"] (spSign) := ok_sign FSg
  have cSg : Cal l.prog w K mg base 1 "_sign" (spSign) [] := ⟨_, _, _, _, gSg, PySem.W.mg_of X G aSg, kSg, bSg, .nil⟩
  have gRt : FnOk l.prog w K mg base CX0 2 fRt _ ["left", "row", "right"] (spSide newR) := ok_right FRt T cSg
  have cRt : Cal l.prog w K mg base 2 "_right" (spSide newR) [] := ⟨_, _, _, _, gRt, PySem.W.mg_of X G aRt, kRt, bRt, .nil⟩
  have gLf : FnOk l.prog w K mg base CX0 2 fLf _ ["left", "row", "right"] (spSide newL) := ok_left FLf T cSg
  have cLf : Cal l.prog w K mg base 2 "_left" (spSide newL) [] := ⟨_, _, _, _, gLf, PySem.W.mg_of X G aLf, kLf, bLf, .nil⟩
  have gIr : FnOk l.prog w K mg base CX0 1 fIr _ ["value"] (spIsRule) := ok_isRule FIr T
  have cIr : Cal l.prog w K mg base 1 "_is_rule" (spIsRule) [] := ⟨_, _, _, _, gIr, PySem.W.mg_of X G aIr, kIr, bIr, .nil⟩
  have gTm : FnOk l.prog w K mg base CX0 1 fTm _ ["marks"] (spTrimmed) := ok_trimmed FTm T
  have cTm : Cal l.prog w K mg base 1 "trimmed" (spTrimmed) [] := ⟨_, _, _, _, gTm, PySem.W.mg_of X G aTm, kTm, bTm, .nil⟩
  have gMk : FnOk l.prog w K mg base CX0 1 fMk _ ["text"] (spMarks) := ok_marks FMk T
  have cMk : Cal l.prog w K mg base 1 "_marks" (spMarks) [] := ⟨_, _, _, _, gMk, PySem.W.mg_of X G aMk, kMk, bMk, .nil⟩
  have gTaR : FnOk l.prog w K mg base CX0 2 fTaR _ ["self", "row"] (spIsRow CT) := ok_isRow FTaR T XT cI
  have cTaR : Met l.prog w K mg base 2 CT "_is_row" (spIsRow CT) [] := ⟨_, _, _, _, XT.cl, ⟨aTaR, iTaR, kTaR⟩, gTaR, bTaR, .nil⟩
  have gTaI : FnOk l.prog w K mg base CX0 3 fTaI _ ["self", "marks", "states", "rows"] (spTaInit CT) := ok_taInit FTaI T XT cI cTaR ⟨_, PySem.W.mg_of X G k3⟩ ⟨_, PySem.W.mg_of X G k4⟩
  have cTaI : Mak l.prog w K mg base 3 "Tape" CT (spTaInit CT) [] := ⟨_, _, _, _, ⟨mkCT, aTaI, iTaI, kcCT⟩, gTaI, PySem.W.mg_of X G aCT, bTaI, .nil⟩
  have gTaT : FnOk l.prog w K mg base CX0 1 fTaT _ ["self"] (spTable CT) := ok_table FTaT T XT
  have cTaT : Met l.prog w K mg base 1 CT "table" (spTable CT) [] := ⟨_, _, _, _, XT.cl, ⟨aTaT, iTaT, kTaT⟩, gTaT, bTaT, .nil⟩
  have gTaW : FnOk l.prog w K mg base CX0 2 fTaW _ ["self", "state", "mark"] (spRow CT) := ok_row FTaW T XT cI
  have cTaW : Met l.prog w K mg base 2 CT "row" (spRow CT) [] := ⟨_, _, _, _, XT.cl, ⟨aTaW, iTaW, kTaW⟩, gTaW, bTaW, .nil⟩
  have gTaS : FnOk l.prog w K mg base CX0 3 fTaS _ ["self", "configuration"] (spStopped CT) := ok_stopped FTaS cTaW
  have cTaS : Met l.prog w K mg base 3 CT "stopped" (spStopped CT) [] := ⟨_, _, _, _, XT.cl, ⟨aTaS, iTaS, kTaS⟩, gTaS, bTaS, .nil⟩
  have gTaD : FnOk l.prog w K mg base CX0 2 fTaD _ ["self", "value"] (spIsSide CT) := ok_isSide FTaD T XT cI cTm
  have cTaD : Met l.prog w K mg base 2 CT "_is_side" (spIsSide CT) [] := ⟨_, _, _, _, XT.cl, ⟨aTaD, iTaD, kTaD⟩, gTaD, bTaD, .nil⟩
  have gTaC : FnOk l.prog w K mg base CX0 3 fTaC _ ["self", "value"] (spIsConf CT) := ok_isConf FTaC T XT cI cTaD
  have cTaC : Met l.prog w K mg base 3 CT "is_configuration" (spIsConf CT) [] := ⟨_, _, _, _, XT.cl, ⟨aTaC, iTaC, kTaC⟩, gTaC, bTaC, .nil⟩
  have gRo : FnOk l.prog w K mg base CX0 3 fRo _ ["machine"] (spRulesOf CT) := ok_rulesOf FRo T XT cTaW cSg (PySem.W.mg_of X G aRt) (PySem.W.mg_of X G aLf) ⟨_, _, gRt, kRt, bRt⟩ ⟨_, _, gLf, kLf, bLf⟩
  have cRo : Cal l.prog w K mg base 3 "_rules_of" (spRulesOf CT) [] := ⟨_, _, _, _, gRo, PySem.W.mg_of X G aRo, kRo, bRo, .nil⟩
  have gRuI : FnOk l.prog w K mg base CX0 2 fRuI _ ["self", "rules"] (spRuInit CR) := ok_ruInit FRuI T XR cIr ⟨_, PySem.W.mg_of X G k1⟩
  have cRuI : Mak l.prog w K mg base 2 "Rules" CR (spRuInit CR) [] := ⟨_, _, _, _, ⟨mkCR, aRuI, iRuI, kcCR⟩, gRuI, PySem.W.mg_of X G aCR, bRuI, .nil⟩
  have gRuP : FnOk l.prog w K mg base CX0 1 fRuP _ ["self", "configuration"] (spPlaces CR) := ok_places FRuP T XR
  have cRuP : Met l.prog w K mg base 1 CR "places" (spPlaces CR) [] := ⟨_, _, _, _, XR.cl, ⟨aRuP, iRuP, kRuP⟩, gRuP, bRuP, .nil⟩
  have gRuR : FnOk l.prog w K mg base CX0 1 fRuR _ ["self", "configuration", "rule", "at"] (spReplaced CR) := ok_replaced FRuR T XR
  have cRuR : Met l.prog w K mg base 1 CR "_replaced" (spReplaced CR) [] := ⟨_, _, _, _, XR.cl, ⟨aRuR, iRuR, kRuR⟩, gRuR, bRuR, .nil⟩
  have gRuF : FnOk l.prog w K mg base CX0 1 fRuF _ ["self", "configuration"] (spFirst CR) := ok_first FRuF T XR
  have cRuF : Met l.prog w K mg base 1 CR "_first" (spFirst CR) [] := ⟨_, _, _, _, XR.cl, ⟨aRuF, iRuF, kRuF⟩, gRuF, bRuF, .nil⟩
  have gRuS : FnOk l.prog w K mg base CX0 2 fRuS _ ["self", "configuration"] (spRuStopped CR) := ok_ruStopped FRuS cRuF
  have cRuS : Met l.prog w K mg base 2 CR "stopped" (spRuStopped CR) [] := ⟨_, _, _, _, XR.cl, ⟨aRuS, iRuS, kRuS⟩, gRuS, bRuS, .nil⟩
  have gRuE : FnOk l.prog w K mg base CX0 2 fRuE _ ["self", "configuration"] (spRuStep CR) := ok_ruStep FRuE cRuF cRuR
  have cRuE : Met l.prog w K mg base 2 CR "step" (spRuStep CR) [] := ⟨_, _, _, _, XR.cl, ⟨aRuE, iRuE, kRuE⟩, gRuE, bRuE, .nil⟩
  have gRuA : FnOk l.prog w K mg base CX0 2 fRuA _ ["self", "configuration", "rule", "at"] (spApplied CR) := ok_applied FRuA T cRuP cRuR
  have cRuA : Met l.prog w K mg base 2 CR "applied" (spApplied CR) [] := ⟨_, _, _, _, XR.cl, ⟨aRuA, iRuA, kRuA⟩, gRuA, bRuA, .nil⟩
  have gStI : FnOk l.prog w K mg base CX0 4 fStI _ ["self", "machine"] (spStInit CT CR CS) := ok_stInit FStI T XT XS cTaT cRo cRuI ⟨_, PySem.W.mg_of X G k2⟩ ⟨_, PySem.W.mg_of X G k1⟩
  have cStI : Mak l.prog w K mg base 4 "RuleStair" CS (spStInit CT CR CS) [] := ⟨_, _, _, _, ⟨mkCS, aStI, iStI, kcCS⟩, gStI, PySem.W.mg_of X G aCS, bStI, .nil⟩
  have gStD : FnOk l.prog w K mg base CX0 2 fStD _ ["self", "configuration"] (spDown CS) := ok_down FStD T cSg
  have cStD : Met l.prog w K mg base 2 CS "down" (spDown CS) [] := ⟨_, _, _, _, XS.cl, ⟨aStD, iStD, kStD⟩, gStD, bStD, .nil⟩
  have gStP : FnOk l.prog w K mg base CX0 4 fStP _ ["self", "configuration"] (spPace CT CR CS) := ok_pace FStP XS cTaS
  have cStP : Met l.prog w K mg base 4 CS "pace" (spPace CT CR CS) [] := ⟨_, _, _, _, XS.cl, ⟨aStP, iStP, kStP⟩, gStP, bStP, .nil⟩
  have gStE : FnOk l.prog w K mg base CX0 1 fStE _ ["self", "configuration"] (spEnding) := ok_ending FStE
  have cStE : Met l.prog w K mg base 1 CS "ending" (spEnding) [] := ⟨_, _, _, _, XS.cl, ⟨aStE, iStE, kStE⟩, gStE, bStE, .nil⟩
  have gStU : FnOk l.prog w K mg base CX0 4 fStU _ ["self", "configuration"] (spUp CT CR CS) := ok_up FStU T XS cMk cTaC cStD
  have cStU : Met l.prog w K mg base 4 CS "up" (spUp CT CR CS) [] := ⟨_, _, _, _, XS.cl, ⟨aStU, iStU, kStU⟩, gStU, bStU, .nil⟩
  have gLD : FnOk l.prog w K mg base CX0 1 fLD _ ["_law_script", "_law_many"] (spDraws K) := ok_draws FLD T
  have cLD : Cal l.prog w K mg base 1 "_law_draws" (spDraws K) [] := ⟨_, _, _, _, gLD, PySem.W.mg_of X G aLD, kLD, bLD, .nil⟩
  have gLM : FnOk l.prog w K mg base CX0 1 fLM _ ["_law_draws_here", "_law_marks", "_law_states"] (spMachine) := ok_machine FLM T
  have cLM : Cal l.prog w K mg base 1 "_law_machine" (spMachine) [] := ⟨_, _, _, _, gLM, PySem.W.mg_of X G aLM, kLM, bLM, .nil⟩
  have gLT : FnOk l.prog w K mg base CX0 1 fLT _ ["_law_marks"] (spLTrimmed) := ok_lTrimmed FLT T
  have cLT : Cal l.prog w K mg base 1 "_law_trimmed" (spLTrimmed) [] := ⟨_, _, _, _, gLT, PySem.W.mg_of X G aLT, kLT, bLT, .nil⟩
  have gLC : FnOk l.prog w K mg base CX0 2 fLC _ ["_law_draws_here", "_law_marks", "_law_states", "_law_most"] (spLConf) := ok_lConf FLC T cLT
  have cLC : Cal l.prog w K mg base 2 "_law_configuration" (spLConf) [] := ⟨_, _, _, _, gLC, PySem.W.mg_of X G aLC, kLC, bLC, .nil⟩
  have gLS : FnOk l.prog w K mg base CX0 2 fLS _ ["_law_rows", "_law_marks", "_law_configuration_here"] (spLStep) := ok_lStep FLS T cLT
  have cLS : Cal l.prog w K mg base 2 "_law_tape_step" (spLStep) [] := ⟨_, _, _, _, gLS, PySem.W.mg_of X G aLS, kLS, bLS, .nil⟩
  exact ok_law FLaw T XS cLD cLM cTaI cStI cLC cLS cStD cStU cStP cStE cRuP cRuE cRuS cRuA
theorem walk {l : PySem.W.OpenLaw} {q : Program} {loose : List Str} {XP : (Str → Option Value) → Heap → Prop} {YP : World → Heap → Prop} {d : DefRec} {K : Params → PySem.W.Frag} (hn : l.most = some 63) (hdf : d.params.defaults = [])
    (hY : ∀ (w : World) (h : Heap), YP w h → (K w.params).In h)
    (F : ∀ (w : World) (mg : Str → Option Value) (fa : Addr) (h : Heap), (K w.params).In h → h.Ns mainGlobals mg → mg d.name = some (.ref fa) →
      ∃ fd : FuncData, (∀ (s : Shared) (u : Value), BindsTo s fd ⟨[u], []⟩ [("_law_script", u)]) ∧ ∀ base : Heap, (K w.params).In base → base.Ns mainGlobals mg → FnOk l.prog w (K w.params) mg base CX0 6 fa fd ["_law_script"] (spLaw (K w.params))) :
    PySem.W.WalkO q loose XP YP l.row.toRowW d [] (fun f vs => PySem.call f vs) :=
  L2.walk_of (n := 63) (k := 6) (x := "_law_script") (CX := fun _ => CX0) (sp := fun w => spLaw (K w.params)) hn (by decide) hdf ⟨rfl, by decide, by decide⟩ hY F (fun _ _ a ns hl _ hS => ⟨a, ns, rfl, hS, hl, fun _ => rfl⟩) fun _ _ _ _ _ z => z
end K68
end
open PySem L2 TL
open C8 (Cal CalAt Met Mak pe_c pe_mk pe_mt pe_mt0 pe_cv pe_gc pss_cut tCallV tCut)
local macro_rules | `(tactic| walk_at "rd") => `(tactic| simp only [K68.cx_K, wipe, tYes, rIxT, rIxL, tRet, tRetN, tAndV, tOrV, tCB, tCons, tNil, tVar, tC, tNotV, tChain, rI0, rI, rU, tUn, tOp, L2.start, tSeq, tAsg, gName, tIfS, tTest, tDrop, tTup, tLst, tNext, tBreak, tCont, tB, tNot, tAnd, tOr, tIf, tCall, tMeth, tFld, tCut, K68.tRevT, tIsN, tNotN, tCmp, t2I, tJs, tFmt, K68.rEq_str, K68.rNe_str, K68.rEq_int, K68.rNe_int, decide_eq_true_eq, and_assoc, tPar, gTup, gCons, gNil, tCallV, tMake, tSl, tPart, tNoPart, tBM, tBM0, tM0, tM1, sFld,
  List.map, List.replicate, List.length_cons, List.length_nil, List.cons_append, List.nil_append, List.append_nil, List.set_cons_zero, List.set_cons_succ, List.getElem?_cons_zero, List.getElem?_cons_succ, Nat.zero_add, Nat.sub_self, Nat.reduceAdd, Nat.reduceSub,
  Option.some.injEq, exists_eq_left', exists_eq_left, exists_and_left, exists_eq, exists_eq', exists_false, V.int.injEq, V.bl.injEq, V.str.injEq, V.ref.injEq, List.cons.injEq, if_true, if_false, Bool.false_eq_true, true_and, and_true, false_and, and_false, false_or, or_false, decide_true, decide_false, Bool.and_self, Bool.and_true, Bool.true_and, tNever, Bool.not_true, Bool.not_false, reduceIte, reduceCtorEq])
local macro_rules | `(tactic| walk_at "tx") => `(tactic| simp only [K68.S_eq, Int.natCast_eq_zero, K68.e_nil, K68.e_nil', K68.e_open, K68.e_close, K68.e_left, K68.e_right, K68.e_zero, K68.e_zeroR, K68.e_digits, K68.S_num, K68.S_app, K68.S_len, List.cons_append, List.nil_append, List.append_assoc, List.length_append, List.length_cons, List.length_nil, List.cons.injEq, and_true, K68.line_])
open PySem PySem.W PyProof.Rows in
set_option maxRecDepth 100000 in
set_option maxHeartbeats 0 in
theorem PySem.Challenge.cw_stepdown_k68_whole_one_step_as_rules_holds : PySem.Challenge.rw_stepdown_k68_whole_one_step_as_rules.Holds := by
  w_on; o_law; k_head; (case hw => w_witness2)
  k_fill
  refine K68.walk (l := PySem.Challenge.rw_stepdown_k68_whole_one_step_as_rules) rfl rfl (fun w h Y => PySem.W.kIn_of Y) ?F
  case F =>
    intro w mg fa h KX G hmg
    refine' K68.all_mk KX G hmg ?aCT ?pgCT ?hdCT ?poCT ?saCT ?mkCT ?kcCT ?nM ?nS ?nR ?aCR ?pgCR ?hdCR ?poCR ?saCR ?mkCR ?kcCR ?nU ?aCS ?pgCS ?hdCS ?poCS ?saCS ?mkCS ?kcCS ?nP ?nW ?aI ?lI ?cI ?kI ?aSg ?lSg ?cSg ?kSg ?aRt ?lRt ?cRt ?kRt ?aLf ?lLf ?cLf ?kLf ?aIr ?lIr ?cIr ?kIr ?aTm ?lTm ?cTm ?kTm ?aMk ?lMk ?cMk ?kMk ?aTaR ?iTaR ?lTaR ?cTaR ?kTaR ?aTaI ?iTaI ?lTaI ?cTaI ?kTaI ?aTaT ?iTaT ?lTaT ?cTaT ?kTaT ?aTaW ?iTaW ?lTaW ?cTaW ?kTaW ?aTaS ?iTaS ?lTaS ?cTaS ?kTaS ?aTaD ?iTaD ?lTaD ?cTaD ?kTaD ?aTaC ?iTaC ?lTaC ?cTaC ?kTaC ?aRo ?lRo ?cRo ?kRo ?aRuI ?iRuI ?lRuI ?cRuI ?kRuI ?aRuP ?iRuP ?lRuP ?cRuP ?kRuP ?aRuR ?iRuR ?lRuR ?cRuR ?kRuR ?aRuF ?iRuF ?lRuF ?cRuF ?kRuF ?aRuS ?iRuS ?lRuS ?cRuS ?kRuS ?aRuE ?iRuE ?lRuE ?cRuE ?kRuE ?aRuA ?iRuA ?lRuA ?cRuA ?kRuA ?aStI ?iStI ?lStI ?cStI ?kStI ?aStD ?iStD ?lStD ?cStD ?kStD ?aStP ?iStP ?lStP ?cStP ?kStP ?aStE ?iStE ?lStE ?cStE ?kStE ?aStU ?iStU ?lStU ?cStU ?kStU ?aLD ?lLD ?cLD ?kLD ?aLM ?lLM ?cLM ?kLM ?aLT ?lLT ?cLT ?kLT ?aLC ?lLC ?cLC ?kLC ?aLS ?lLS ?cLS ?kLS ?aLaw ?lLaw ?cLaw ?kLaw ?zlen ?zrange ?zisinstance ?ztuple ?zlist ?zall ?zstr ?zint ?zbool ?zabs ?zreversed ?k1 ?k2 ?k3 ?k4
    (case aCT => k_is)
    (case pgCT => k_is)
    (case hdCT => k_is)
    (case poCT => k_is)
    (case saCT => k_is)
    (case mkCT => k_is)
    (case kcCT => k_is)
    (case nM => k_is)
    (case nS => k_is)
    (case nR => k_is)
    (case aCR => k_is)
    (case pgCR => k_is)
    (case hdCR => k_is)
    (case poCR => k_is)
    (case saCR => k_is)
    (case mkCR => k_is)
    (case kcCR => k_is)
    (case nU => k_is)
    (case aCS => k_is)
    (case pgCS => k_is)
    (case hdCS => k_is)
    (case poCS => k_is)
    (case saCS => k_is)
    (case mkCS => k_is)
    (case kcCS => k_is)
    (case nP => k_is)
    (case nW => k_is)
    (case aI => k_is)
    (case lI => k_is)
    (case cI => k_is)
    (case kI => k_is)
    (case aSg => k_is)
    (case lSg => k_is)
    (case cSg => k_is)
    (case kSg => k_is)
    (case aRt => k_is)
    (case lRt => k_is)
    (case cRt => k_is)
    (case kRt => k_is)
    (case aLf => k_is)
    (case lLf => k_is)
    (case cLf => k_is)
    (case kLf => k_is)
    (case aIr => k_is)
    (case lIr => k_is)
    (case cIr => k_is)
    (case kIr => k_is)
    (case aTm => k_is)
    (case lTm => k_is)
    (case cTm => k_is)
    (case kTm => k_is)
    (case aMk => k_is)
    (case lMk => k_is)
    (case cMk => k_is)
    (case kMk => k_is)
    (case aTaR => k_is)
    (case iTaR => k_is)
    (case lTaR => k_is)
    (case cTaR => k_is)
    (case kTaR => k_is)
    (case aTaI => k_is)
    (case iTaI => k_is)
    (case lTaI => k_is)
    (case cTaI => k_is)
    (case kTaI => k_is)
    (case aTaT => k_is)
    (case iTaT => k_is)
    (case lTaT => k_is)
    (case cTaT => k_is)
    (case kTaT => k_is)
    (case aTaW => k_is)
    (case iTaW => k_is)
    (case lTaW => k_is)
    (case cTaW => k_is)
    (case kTaW => k_is)
    (case aTaS => k_is)
    (case iTaS => k_is)
    (case lTaS => k_is)
    (case cTaS => k_is)
    (case kTaS => k_is)
    (case aTaD => k_is)
    (case iTaD => k_is)
    (case lTaD => k_is)
    (case cTaD => k_is)
    (case kTaD => k_is)
    (case aTaC => k_is)
    (case iTaC => k_is)
    (case lTaC => k_is)
    (case cTaC => k_is)
    (case kTaC => k_is)
    (case aRo => k_is)
    (case lRo => k_is)
    (case cRo => k_is)
    (case kRo => k_is)
    (case aRuI => k_is)
    (case iRuI => k_is)
    (case lRuI => k_is)
    (case cRuI => k_is)
    (case kRuI => k_is)
    (case aRuP => k_is)
    (case iRuP => k_is)
    (case lRuP => k_is)
    (case cRuP => k_is)
    (case kRuP => k_is)
    (case aRuR => k_is)
    (case iRuR => k_is)
    (case lRuR => k_is)
    (case cRuR => k_is)
    (case kRuR => k_is)
    (case aRuF => k_is)
    (case iRuF => k_is)
    (case lRuF => k_is)
    (case cRuF => k_is)
    (case kRuF => k_is)
    (case aRuS => k_is)
    (case iRuS => k_is)
    (case lRuS => k_is)
    (case cRuS => k_is)
    (case kRuS => k_is)
    (case aRuE => k_is)
    (case iRuE => k_is)
    (case lRuE => k_is)
    (case cRuE => k_is)
    (case kRuE => k_is)
    (case aRuA => k_is)
    (case iRuA => k_is)
    (case lRuA => k_is)
    (case cRuA => k_is)
    (case kRuA => k_is)
    (case aStI => k_is)
    (case iStI => k_is)
    (case lStI => k_is)
    (case cStI => k_is)
    (case kStI => k_is)
    (case aStD => k_is)
    (case iStD => k_is)
    (case lStD => k_is)
    (case cStD => k_is)
    (case kStD => k_is)
    (case aStP => k_is)
    (case iStP => k_is)
    (case lStP => k_is)
    (case cStP => k_is)
    (case kStP => k_is)
    (case aStE => k_is)
    (case iStE => k_is)
    (case lStE => k_is)
    (case cStE => k_is)
    (case kStE => k_is)
    (case aStU => k_is)
    (case iStU => k_is)
    (case lStU => k_is)
    (case cStU => k_is)
    (case kStU => k_is)
    (case aLD => k_is)
    (case lLD => k_is)
    (case cLD => k_is)
    (case kLD => k_is)
    (case aLM => k_is)
    (case lLM => k_is)
    (case cLM => k_is)
    (case kLM => k_is)
    (case aLT => k_is)
    (case lLT => k_is)
    (case cLT => k_is)
    (case kLT => k_is)
    (case aLC => k_is)
    (case lLC => k_is)
    (case cLC => k_is)
    (case kLC => k_is)
    (case aLS => k_is)
    (case lLS => k_is)
    (case cLS => k_is)
    (case kLS => k_is)
    (case aLaw => k_is)
    (case lLaw => k_is)
    (case cLaw => k_is)
    (case kLaw => k_is)
    (case zlen => k_is)
    (case zrange => k_is)
    (case zisinstance => k_is)
    (case ztuple => k_is)
    (case zlist => k_is)
    (case zall => k_is)
    (case zstr => k_is)
    (case zint => k_is)
    (case zbool => k_is)
    (case zabs => k_is)
    (case zreversed => k_is)
    (case k1 => k_is)
    (case k2 => k_is)
    (case k3 => k_is)
    (case k4 => k_is)

import PyProof.Rows.All
import HandS.Base
import Wide.All
import OpenK.AllK
import Wide.FinOn
import KE.KStateDown
import KE.KDictWalk
import KE.KDictPairs
import KE.KDictKeyed
import KE.GoesEnum
import KE.GoesDict
import KE.SortData
import KE.DataFind
import HandS.ForMost
import HandS.Walk
import HandS.More
import HandS.Deep
import HandS.DictComp
import HandS.DictTup
import HandS.TupAny
import HandS.TupLen
import HandS.IsInst
import HandS.Star
import HandS.Defaults
import HandS.MakeKwOnly
import HandS.ClsMeth
import HandS.Zip
import HandS.Conv
import KE.KDictSum
import KE.KDictCopyH
import HandS.Words
import HandS.Head0
import HandS.Head1
import HandS.Head2
import HandS.HeadEnd
import HandS.HeadHook1
import HandS.HeadHook2
import HandS.HeadHook3
import HandS.HeadHook4
import PySem.Challenge.RW_ordersopen_k16_whole_what_precedes
set_option Elab.async false
set_option linter.all false
set_option maxRecDepth 100000
/-! The mathematics: expressions, their nodes and rows, what precedes. -/
namespace Oo
open PySem
inductive Kd where
  | read (p : Str) | store (p : Str) | step (p : Str) (b : Int) (m : Str) | op (s : Str) | call (f : Str) | thn | wand | wor | cho
inductive Ex where
  | num (n : Int) | nd (k : Kd) (es : List Ex)
abbrev Path := List Int
def ownN : Kd → Nat
  | .read _ => 1 | .store _ => 1 | .step _ _ _ => 2 | .call _ => 1 | .op _ => 0 | .thn => 0 | .wand => 0 | .wor => 0 | .cho => 0
def Ex.kids : Ex → List Ex
  | .num _ => [] | .nd _ es => es
def Ex.own : Ex → Nat
  | .num _ => 0 | .nd k _ => ownN k
def isOpen : Ex → Bool
  | .nd (.op _) _ => true
  | .nd (.call _) es => decide (1 < es.length)
  | _ => false
def isCho : Ex → Bool
  | .nd .cho _ => true
  | _ => false
mutual
def rows : Ex → Path → List Path
  | .num _, _ => []
  | .nd k es, p => rowsL es p 0 ++ List.replicate (ownN k) p
def rowsL : List Ex → Path → Nat → List Path
  | [], _, _ => []
  | e :: r, p, i => rows e (p ++ [(i : Int)]) ++ rowsL r p (i + 1)
end
mutual
def nodes : Ex → Path → List (Path × Ex)
  | .num n, p => [(p, .num n)]
  | .nd k es, p => (p, .nd k es) :: nodesL es p 0
def nodesL : List Ex → Path → Nat → List (Path × Ex)
  | [], _, _ => []
  | e :: r, p, i => nodes e (p ++ [(i : Int)]) ++ nodesL r p (i + 1)
end
theorem nodes_eq (e : Ex) (p : Path) : nodes e p = (p, e) :: nodesL e.kids p 0 := by
  cases e <;> simp [nodes, nodesL, Ex.kids]
theorem rows_eq (e : Ex) (p : Path) : rows e p = rowsL e.kids p 0 ++ List.replicate e.own p := by
  cases e <;> simp [rows, rowsL, Ex.kids, Ex.own]
theorem rowsL_append : ∀ (a b : List Ex) (p : Path) (i : Nat), rowsL (a ++ b) p i = rowsL a p i ++ rowsL b p (i + a.length)
  | [], b, p, i => by simp [rowsL]
  | x :: r, b, p, i => by
    rw [List.cons_append, rowsL, rowsL, rowsL_append r b p (i + 1), List.append_assoc, List.length_cons, show i + 1 + r.length = i + (r.length + 1) by omega]
theorem nodesL_append : ∀ (a b : List Ex) (p : Path) (i : Nat), nodesL (a ++ b) p i = nodesL a p i ++ nodesL b p (i + a.length)
  | [], b, p, i => by simp [nodesL]
  | x :: r, b, p, i => by
    rw [List.cons_append, nodesL, nodesL, nodesL_append r b p (i + 1), List.append_assoc, List.length_cons, show i + 1 + r.length = i + (r.length + 1) by omega]
/-- the part at a path -/
def sub : Ex → Path → Option Ex
  | e, [] => some e
  | e, i :: q => if 0 ≤ i then match e.kids[i.toNat]? with | some c => sub c q | none => none else none
theorem sub_append : ∀ (q r : Path) (e : Ex), sub e (q ++ r) = (sub e q).bind fun c => sub c r
  | [], r, e => rfl
  | i :: q, r, e => by
    rw [List.cons_append, sub, sub]
    split
    · cases h : e.kids[i.toNat]? with
      | none => rfl
      | some c => exact sub_append q r c
    · rfl
theorem sub_take {e c : Ex} {q : Path} (h : sub e q = some c) (n : Nat) : ∃ d, sub e (q.take n) = some d := by
  rw [← List.take_append_drop n q, sub_append] at h
  cases z : sub e (q.take n) with
  | none => rw [z] at h; cases h
  | some d => exact ⟨d, rfl⟩
/-! nodes: the keys are the paths of the parts, no path twice -/
mutual
theorem nodes_mem : ∀ (e : Ex) (p q : Path) (c : Ex), (q, c) ∈ nodes e p ↔ ∃ r, q = p ++ r ∧ sub e r = some c
  | .num n, p, q, c => by
    rw [nodes, List.mem_singleton]
    constructor
    · intro h; cases h; exact ⟨[], by simp, rfl⟩
    · rintro ⟨r, rfl, h⟩
      cases r with
      | nil => cases h; simp
      | cons i r => simp [sub, Ex.kids] at h
  | .nd k es, p, q, c => by
    rw [nodes, List.mem_cons, nodesL_mem es p 0 q c]
    constructor
    · rintro (h | ⟨j, d, r, hj, rfl, hs⟩)
      · cases h; exact ⟨[], by simp, rfl⟩
      · refine ⟨((0 + j : Nat) : Int) :: r, rfl, ?_⟩
        rw [sub, if_pos (by omega)]
        have e1 : (((0 + j : Nat) : Int)).toNat = j := by omega
        rw [e1]
        show (match es[j]? with | some c => sub c r | none => none) = some c
        rw [hj]
        exact hs
    · rintro ⟨r, rfl, h⟩
      cases r with
      | nil => cases h; left; simp
      | cons i r =>
        right
        rw [sub] at h
        split at h
        · rename_i h0
          split at h
          · rename_i d hd
            refine ⟨i.toNat, d, r, hd, ?_, h⟩
            have : ((0 + i.toNat : Nat) : Int) = i := by omega
            rw [this]
          · cases h
        · cases h
theorem nodesL_mem : ∀ (es : List Ex) (p : Path) (i : Nat) (q : Path) (c : Ex), (q, c) ∈ nodesL es p i ↔ ∃ (j : Nat) (d : Ex) (r : Path), es[j]? = some d ∧ q = p ++ ((i + j : Nat) : Int) :: r ∧ sub d r = some c
  | [], p, i, q, c => by simp [nodesL]
  | e :: es, p, i, q, c => by
    rw [nodesL, List.mem_append, nodes_mem e _ q c, nodesL_mem es p (i + 1) q c]
    constructor
    · rintro (⟨r, rfl, h⟩ | ⟨j, d, r, hj, rfl, h⟩)
      · exact ⟨0, e, r, rfl, by simp, h⟩
      · refine ⟨j + 1, d, r, hj, ?_, h⟩
        rw [show i + 1 + j = i + (j + 1) by omega]
    · rintro ⟨j, d, r, hj, rfl, h⟩
      cases j with
      | zero =>
        left
        simp at hj
        subst hj
        exact ⟨r, by simp, h⟩
      | succ j =>
        right
        refine ⟨j, d, r, by simpa using hj, ?_, h⟩
        rw [show i + 1 + j = i + (j + 1) by omega]
end
theorem app_cons_ne {p r s : Path} {i j : Int} (h : i ≠ j) : p ++ i :: r ≠ p ++ j :: s := fun e => by
  have := List.append_cancel_left e
  exact h (List.cons.inj this).1
mutual
theorem nodes_nodup : ∀ (e : Ex) (p : Path), ((nodes e p).map (·.1)).Nodup
  | .num n, p => by simp [nodes]
  | .nd k es, p => by
    rw [nodes, List.map_cons, List.nodup_cons]
    refine ⟨fun h => ?_, nodesL_nodup es p 0⟩
    obtain ⟨⟨q, c⟩, hm, e⟩ := List.mem_map.mp h
    obtain ⟨j, d, r, _, rfl, _⟩ := (nodesL_mem es p 0 q c).mp hm
    have := congrArg List.length e
    simp at this
theorem nodesL_nodup : ∀ (es : List Ex) (p : Path) (i : Nat), ((nodesL es p i).map (·.1)).Nodup
  | [], p, i => by simp [nodesL]
  | e :: es, p, i => by
    rw [nodesL, List.map_append, List.nodup_append]
    refine ⟨nodes_nodup e _, nodesL_nodup es p (i + 1), fun a ha b hb hab => ?_⟩
    obtain ⟨⟨q, c⟩, hm, e1⟩ := List.mem_map.mp ha
    obtain ⟨⟨q', c'⟩, hm', e2⟩ := List.mem_map.mp hb
    obtain ⟨r, rfl, _⟩ := (nodes_mem e _ q c).mp hm
    obtain ⟨j, d, r', _, rfl, _⟩ := (nodesL_mem es p (i + 1) q' c').mp hm'
    simp only at e1 e2
    rw [← e1, ← e2, List.append_assoc] at hab
    exact app_cons_ne (by omega) hab
end
/-! the rows -/
mutual
theorem rows_mem : ∀ (e : Ex) (p q : Path), q ∈ rows e p → ∃ r c, q = p ++ r ∧ sub e r = some c ∧ 0 < c.own
  | .num n, p, q, h => by simp [rows] at h
  | .nd k es, p, q, h => by
    rw [rows, List.mem_append] at h
    rcases h with h | h
    · obtain ⟨j, d, r, c, hj, rfl, hs, ho⟩ := rowsL_mem es p 0 q h
      refine ⟨((0 + j : Nat) : Int) :: r, c, rfl, ?_, ho⟩
      rw [sub, if_pos (by omega)]
      have e1 : (((0 + j : Nat) : Int)).toNat = j := by omega
      rw [e1]
      show (match es[j]? with | some c => sub c r | none => none) = some c
      rw [hj]
      exact hs
    · obtain ⟨h1, h2⟩ := List.mem_replicate.mp h
      subst h2
      exact ⟨[], .nd k es, by simp, rfl, by show 0 < ownN k; omega⟩
theorem rowsL_mem : ∀ (es : List Ex) (p : Path) (i : Nat) (q : Path), q ∈ rowsL es p i → ∃ (j : Nat) (d : Ex) (r : Path) (c : Ex), es[j]? = some d ∧ q = p ++ ((i + j : Nat) : Int) :: r ∧ sub d r = some c ∧ 0 < c.own
  | [], p, i, q, h => by simp [rowsL] at h
  | e :: es, p, i, q, h => by
    rw [rowsL, List.mem_append] at h
    rcases h with h | h
    · obtain ⟨r, c, rfl, hs, ho⟩ := rows_mem e _ q h
      exact ⟨0, e, r, c, rfl, by simp, hs, ho⟩
    · obtain ⟨j, d, r, c, hj, rfl, hs, ho⟩ := rowsL_mem es p (i + 1) q h
      refine ⟨j + 1, d, r, c, hj, ?_, hs, ho⟩
      rw [show i + 1 + j = i + (j + 1) by omega]
end
/-- how two rows stand: the later's path is a piece of the earlier's, or they part with the earlier to the left -/
def Po (p q : Path) : Prop := (∃ r, p = q ++ r) ∨ ∃ (c : Path) (i j : Int) (r s : Path), p = c ++ i :: r ∧ q = c ++ j :: s ∧ i < j
mutual
theorem rows_po : ∀ (e : Ex) (p : Path), (rows e p).Pairwise Po
  | .num n, p => by simp [rows]
  | .nd k es, p => by
    rw [rows, List.pairwise_append]
    refine ⟨rowsL_po es p 0, ?_, fun a ha b hb => ?_⟩
    · refine List.pairwise_replicate.mpr ?_
      exact Or.inr (.inl ⟨[], by simp⟩)
    · obtain ⟨_, rfl⟩ := List.mem_replicate.mp hb
      obtain ⟨j, d, r, c, _, rfl, _, _⟩ := rowsL_mem es _ 0 a ha
      exact .inl ⟨_, rfl⟩
theorem rowsL_po : ∀ (es : List Ex) (p : Path) (i : Nat), (rowsL es p i).Pairwise Po
  | [], p, i => by simp [rowsL]
  | e :: es, p, i => by
    rw [rowsL, List.pairwise_append]
    refine ⟨rows_po e _, rowsL_po es p (i + 1), fun a ha b hb => ?_⟩
    obtain ⟨r, c, rfl, _, _⟩ := rows_mem e _ a ha
    obtain ⟨j, d, r', c', _, rfl, _, _⟩ := rowsL_mem es p (i + 1) b hb
    exact .inr ⟨p, (i : Int), ((i + 1 + j : Nat) : Int), r, r', by simp, rfl, by omega⟩
end
/-- how far two paths go together -/
def cpl : Path → Path → Nat
  | a :: p, b :: q => if a = b then cpl p q + 1 else 0
  | _, _ => 0
theorem cpl_prefix : ∀ (q r : Path), cpl (q ++ r) q = q.length
  | [], r => by cases r <;> rfl
  | a :: q, r => by
    show (if a = a then cpl (q ++ r) q + 1 else 0) = _
    rw [if_pos rfl, cpl_prefix q r]; rfl
theorem cpl_part : ∀ (c : Path) (i j : Int) (r s : Path), i ≠ j → cpl (c ++ i :: r) (c ++ j :: s) = c.length
  | [], i, j, r, s, h => by show (if i = j then _ else 0) = 0; rw [if_neg h]
  | a :: c, i, j, r, s, h => by
    show (if a = a then cpl (c ++ i :: r) (c ++ j :: s) + 1 else 0) = _
    rw [if_pos rfl, cpl_part c i j r s h]; rfl
theorem cpl_le : ∀ (p q : Path), cpl p q ≤ p.length ∧ cpl p q ≤ q.length
  | [], q => by cases q <;> exact ⟨Nat.zero_le _, Nat.zero_le _⟩
  | a :: p, [] => ⟨Nat.zero_le _, Nat.zero_le _⟩
  | a :: p, b :: q => by
    have := cpl_le p q
    show (if a = b then _ else 0) ≤ _ ∧ (if a = b then _ else 0) ≤ _
    split
    · exact ⟨Nat.succ_le_succ this.1, Nat.succ_le_succ this.2⟩
    · exact ⟨Nat.zero_le _, Nat.zero_le _⟩
/-- below cpl the two agree -/
theorem cpl_agree : ∀ (p q : Path) (k : Nat), k < cpl p q → p[k]? = q[k]?
  | [], q, k, h => by cases q <;> exact absurd h (Nat.not_lt_zero _)
  | a :: p, [], k, h => absurd h (Nat.not_lt_zero _)
  | a :: p, b :: q, k, h => by
    have h' : k < (if a = b then cpl p q + 1 else 0) := h
    split at h'
    · rename_i e
      subst e
      cases k with
      | zero => rfl
      | succ k => simpa using cpl_agree p q k (by omega)
    · exact absurd h' (Nat.not_lt_zero _)
/-- at cpl they part -/
theorem cpl_parts : ∀ (p q : Path), cpl p q < p.length → cpl p q < q.length → p[cpl p q]? ≠ q[cpl p q]?
  | [], q, h, _ => absurd h (Nat.not_lt_zero _)
  | a :: p, [], _, h => absurd h (Nat.not_lt_zero _)
  | a :: p, b :: q, h1, h2 => by
    by_cases e : a = b
    · subst e
      have z : cpl (a :: p) (a :: q) = cpl p q + 1 := if_pos rfl
      rw [z] at h1 h2 ⊢
      simpa using cpl_parts p q (by simpa using h1) (by simpa using h2)
    · have z : cpl (a :: p) (b :: q) = 0 := if_neg e
      rw [z]
      simpa using e
def exN (e : Ex) : Bool := isCho e
/-- is the row of path p told ahead of the later row of path q? P: the points -/
def prec (P : Path → Bool) (e : Ex) (p q : Path) : Bool :=
  if cpl p q = q.length then true
  else match sub e (p.take (cpl p q)) with
    | none => false
    | some n => if isOpen n && !P (p.take (cpl p q)) then false
      else !(isCho n && ((p[cpl p q]? == some 1 && q[cpl p q]? == some 2) || (p[cpl p q]? == some 2 && q[cpl p q]? == some 1)))
theorem prec_prefix (P : Path → Bool) (e : Ex) (q r : Path) : prec P e (q ++ r) q = true := by
  unfold prec
  rw [if_pos (cpl_prefix q r)]
/-- where they part: what the node there says -/
def nodeSays (P : Path → Bool) (e : Ex) (c : Path) (i j : Int) : Bool := match sub e c with
  | none => false
  | some n => if isOpen n && !P c then false else !(isCho n && ((i == 1 && j == 2) || (i == 2 && j == 1)))
theorem prec_part (P : Path → Bool) (e : Ex) (c : Path) (i j : Int) (r s : Path) (h : i ≠ j) : prec P e (c ++ i :: r) (c ++ j :: s) = nodeSays P e c i j := by
  unfold prec nodeSays
  rw [cpl_part c i j r s h, if_neg (by rw [List.length_append, List.length_cons]; omega), List.take_left]
  have e1 : (c ++ i :: r)[c.length]? = some i := by simp
  have e2 : (c ++ j :: s)[c.length]? = some j := by simp
  rw [e1, e2]
  rfl
/-- two ways into one path -/
theorem split2 : ∀ (c d : Path) (i j : Int) (r s : Path), c ++ i :: r = d ++ j :: s → (∃ t, d = c ++ i :: t ∧ r = t ++ j :: s) ∨ (c = d ∧ i = j ∧ r = s) ∨ ∃ t, c = d ++ j :: t ∧ s = t ++ i :: r
  | [], [], i, j, r, s, h => by
    injection h with h1 h2
    exact .inr (.inl ⟨rfl, h1, h2⟩)
  | [], b :: d, i, j, r, s, h => by
    injection h with h1 h2
    subst h1
    exact .inl ⟨d, rfl, h2⟩
  | a :: c, [], i, j, r, s, h => by
    injection h with h1 h2
    subst h1
    exact .inr (.inr ⟨c, rfl, h2.symm⟩)
  | a :: c, b :: d, i, j, r, s, h => by
    injection h with h1 h2
    subst h1
    rcases split2 c d i j r s h2 with ⟨t, e1, e2⟩ | ⟨e1, e2, e3⟩ | ⟨t, e1, e2⟩
    · exact .inl ⟨t, by rw [e1]; rfl, e2⟩
    · exact .inr (.inl ⟨by rw [e1], e2, e3⟩)
    · exact .inr (.inr ⟨t, by rw [e1]; rfl, e2⟩)
/-- what precedes what precedes precedes -/
theorem prec_trans (P : Path → Bool) (e : Ex) {p q r : Path} (h1 : Po p q) (h2 : Po q r) (a : prec P e p q = true) (b : prec P e q r = true) : prec P e p r = true := by
  rcases h1 with ⟨x, rfl⟩ | ⟨c, i, j, x, y, rfl, rfl, hij⟩
  · rcases h2 with ⟨z, rfl⟩ | ⟨d, k, l, z, w, rfl, rfl, hkl⟩
    · rw [List.append_assoc]; exact prec_prefix P e r _
    · rw [prec_part P e d k l z w (by omega)] at b
      rw [List.append_assoc, List.cons_append, prec_part P e d k l _ w (by omega)]
      exact b
  · rw [prec_part P e c i j x y (by omega)] at a
    rcases h2 with ⟨z, hz⟩ | ⟨d, k, l, z, w, hq, rfl, hkl⟩
    · -- r is a piece of c ++ j :: y
      by_cases hl : r.length ≤ c.length
      · have e1 : r = c.take r.length := by
          have := congrArg (List.take r.length) hz
          rw [List.take_left, List.take_append_of_le_length hl] at this
          exact this.symm
        rw [← List.take_append_drop r.length c, ← e1, List.append_assoc]
        exact prec_prefix P e r _
      · have e1 : ∃ t, r = c ++ j :: t := by
          have h3 := congrArg (List.take r.length) hz
          rw [List.take_left, List.take_append, List.take_of_length_le (by omega)] at h3
          obtain ⟨m, hm⟩ : ∃ m, r.length - c.length = m + 1 := ⟨r.length - c.length - 1, by omega⟩
          rw [hm, List.take_succ_cons] at h3
          exact ⟨_, h3.symm⟩
        obtain ⟨t, rfl⟩ := e1
        rw [prec_part P e c i j x t (by omega)]
        exact a
    · have b' : nodeSays P e d k l = true := by
        rw [hq, prec_part P e d k l z w (by omega)] at b
        exact b
      rcases split2 c d j k y z hq with ⟨t, rfl, rfl⟩ | ⟨rfl, rfl, rfl⟩ | ⟨t, rfl, rfl⟩
      · -- d goes further: r has j at c
        rw [List.append_assoc, List.cons_append, prec_part P e c i j x _ (by omega)]
        exact a
      · rw [prec_part P e c i l x w (by omega)]
        unfold nodeSays at a b' ⊢
        cases hs : sub e c with
        | none => rw [hs] at a; exact a
        | some n =>
          rw [hs] at a b'
          simp only at a b' ⊢
          split at a
          · exact absurd a (by decide)
          · rename_i hn
            rw [if_neg hn]
            have : ((i == 1 && l == 2) || (i == 2 && l == 1)) = false := by
              simp only [Bool.or_eq_false_iff, Bool.and_eq_false_iff, beq_eq_false_iff_ne]
              constructor <;> omega
            rw [this, Bool.and_false]; rfl
      · rw [List.append_assoc, List.cons_append, prec_part P e d k l _ w (by omega)]
        exact b'
/-- a point more takes nothing away -/
theorem prec_mono {P R : Path → Bool} (h : ∀ p, P p = true → R p = true) (e : Ex) (p q : Path) (a : prec P e p q = true) : prec R e p q = true := by
  unfold prec at a ⊢
  split
  · rfl
  · rename_i hn
    rw [if_neg hn] at a
    cases hs : sub e (p.take (cpl p q)) with
    | none => rw [hs] at a; exact a
    | some n =>
      rw [hs] at a
      simp only at a ⊢
      cases ho : isOpen n with
      | false => rw [ho] at a; simpa using a
      | true =>
        rw [ho] at a
        cases hp : P (p.take (cpl p q)) with
        | false => rw [hp] at a; simp at a
        | true => rw [hp] at a; rw [h _ hp]; exact a
mutual
/-- no node chooses -/
def noCho : Ex → Bool
  | .num _ => true
  | .nd k es => !isCho (.nd k []) && noChoL es
def noChoL : List Ex → Bool
  | [] => true
  | e :: r => noCho e && noChoL r
end
theorem noChoL_get : ∀ {es : List Ex} {j : Nat} {d : Ex}, noChoL es = true → es[j]? = some d → noCho d = true
  | [], _, _, _, h => by simp at h
  | e :: r, 0, d, h, hj => by
    rw [noChoL, Bool.and_eq_true] at h
    simp at hj; subst hj; exact h.1
  | e :: r, j + 1, d, h, hj => by
    rw [noChoL, Bool.and_eq_true] at h
    exact noChoL_get h.2 (by simpa using hj)
theorem isCho_any (k : Kd) (es es' : List Ex) : isCho (.nd k es) = isCho (.nd k es') := by cases k <;> rfl
theorem noCho_sub : ∀ {q : Path} {e c : Ex}, noCho e = true → sub e q = some c → noCho c = true
  | [], e, c, h, hs => by cases hs; exact h
  | i :: q, e, c, h, hs => by
    rw [sub] at hs
    split at hs
    · split at hs
      · rename_i d hd
        cases e with
        | num n => simp [Ex.kids] at hd
        | nd k es =>
          rw [noCho, Bool.and_eq_true] at h
          exact noCho_sub (noChoL_get h.2 hd) hs
      · cases hs
    · cases hs
theorem noCho_not {e : Ex} (h : noCho e = true) : isCho e = false := by
  cases e with
  | num n => rfl
  | nd k es =>
    rw [noCho, Bool.and_eq_true] at h
    rw [isCho_any k es []]
    simpa using h.1
/-- no guard, all open nodes points: every earlier row is told -/
theorem prec_full {P : Path → Bool} {e : Ex} (h : noCho e = true) (hP : ∀ p n, sub e p = some n → isOpen n = true → P p = true) {p q : Path} {c : Ex} (hp : sub e p = some c) : prec P e p q = true := by
  unfold prec
  split
  · rfl
  · obtain ⟨n, hn⟩ := sub_take hp (cpl p q)
    rw [hn]
    simp only
    have h1 : (isOpen n && !P (p.take (cpl p q))) = false := by
      cases ho : isOpen n with
      | false => rfl
      | true => rw [hP _ n hn ho]; rfl
    rw [h1, noCho_not (noCho_sub h hn)]
    rfl
/-! how many -/
theorem sum_append_map (a b : List (Path × Ex)) : ((a ++ b).map (·.2.own)).sum = (a.map (·.2.own)).sum + (b.map (·.2.own)).sum := by
  rw [List.map_append, List.sum_append]
mutual
theorem rows_count : ∀ (e : Ex) (p : Path), (rows e p).length = ((nodes e p).map (·.2.own)).sum
  | .num n, p => rfl
  | .nd k es, p => by
    rw [rows, nodes, List.length_append, List.length_replicate, List.map_cons, List.sum_cons, rowsL_count es p 0]
    show _ = ownN k + _
    omega
theorem rowsL_count : ∀ (es : List Ex) (p : Path) (i : Nat), (rowsL es p i).length = ((nodesL es p i).map (·.2.own)).sum
  | [], p, i => rfl
  | e :: es, p, i => by
    rw [rowsL, nodesL, List.length_append, sum_append_map, rows_count e _, rowsL_count es p (i + 1)]
end
mutual
def steps : Ex → Nat
  | .num _ => 0
  | .nd k es => stepsL es + ownN k
def stepsL : List Ex → Nat
  | [] => 0
  | e :: r => steps e + stepsL r
end
mutual
theorem rows_steps : ∀ (e : Ex) (p : Path), (rows e p).length = steps e
  | .num n, p => rfl
  | .nd k es, p => by rw [rows, List.length_append, List.length_replicate, rowsL_steps es p 0, steps]
theorem rowsL_steps : ∀ (es : List Ex) (p : Path) (i : Nat), (rowsL es p i).length = stepsL es
  | [], p, i => rfl
  | e :: es, p, i => by rw [rowsL, List.length_append, rows_steps e _, rowsL_steps es p (i + 1), stepsL]
end
mutual
def dep : Ex → Nat
  | .num _ => 0
  | .nd _ es => depL es
def depL : List Ex → Nat
  | [] => 0
  | e :: r => max (dep e + 1) (depL r)
end
mutual
def cnt : Ex → Nat
  | .num _ => 1
  | .nd _ es => cntL es + 1
def cntL : List Ex → Nat
  | [] => 0
  | e :: r => cnt e + cntL r
end
mutual
theorem nodes_cnt : ∀ (e : Ex) (p : Path), (nodes e p).length = cnt e
  | .num n, p => rfl
  | .nd k es, p => by rw [nodes, List.length_cons, nodesL_cnt es p 0, cnt]
theorem nodesL_cnt : ∀ (es : List Ex) (p : Path) (i : Nat), (nodesL es p i).length = cntL es
  | [], p, i => rfl
  | e :: es, p, i => by rw [nodesL, List.length_append, nodes_cnt e _, nodesL_cnt es p (i + 1), cntL]
end
theorem depL_get : ∀ {es : List Ex} {j : Nat} {d : Ex}, es[j]? = some d → dep d + 1 ≤ depL es
  | [], _, _, h => by simp at h
  | e :: r, 0, d, h => by simp at h; subst h; exact Nat.le_max_left _ _
  | e :: r, j + 1, d, h => Nat.le_trans (depL_get (by simpa using h)) (Nat.le_max_right _ _)
theorem sub_dep : ∀ {q : Path} {e c : Ex}, sub e q = some c → q.length + dep c ≤ dep e
  | [], e, c, hs => by cases hs; exact Nat.le_of_eq (Nat.zero_add _)
  | i :: q, e, c, hs => by
    rw [sub] at hs
    split at hs
    · split at hs
      · rename_i d hd
        cases e with
        | num n => simp [Ex.kids] at hd
        | nd k es =>
          have h1 := depL_get (es := es) hd
          have h2 := sub_dep hs
          show q.length + 1 + dep c ≤ depL es
          omega
      · cases hs
    · cases hs
/-- every node in the tree -/
def All (F : Ex → Prop) (e : Ex) : Prop := ∀ q c, sub e q = some c → F c
theorem All.self {F : Ex → Prop} {e : Ex} (h : All F e) : F e := h [] e rfl
theorem All.kid {F : Ex → Prop} {k : Kd} {es : List Ex} (h : All F (.nd k es)) {j : Nat} {d : Ex} (hj : es[j]? = some d) : All F d := fun q c hs => by
  refine h ((j : Int) :: q) c ?_
  rw [sub, if_pos (by omega)]
  show (match es[((j : Int)).toNat]? with | some c => sub c q | none => none) = some c
  rw [Int.toNat_natCast, hj]
  exact hs
theorem All.num {F : Ex → Prop} {n : Int} (h : F (.num n)) : All F (.num n) := fun q c hs => by
  cases q with
  | nil => cases hs; exact h
  | cons i q => simp [sub, Ex.kids] at hs
theorem All.nd {F : Ex → Prop} {k : Kd} {es : List Ex} (h : F (.nd k es)) (hk : ∀ d ∈ es, All F d) : All F (.nd k es) := fun q c hs => by
  cases q with
  | nil => cases hs; exact h
  | cons i q =>
    rw [sub] at hs
    split at hs
    · split at hs
      · rename_i d hd
        exact hk d (List.mem_of_getElem? hd) q c hs
      · cases hs
    · cases hs
end Oo

set_option Elab.async false
set_option linter.all false
set_option maxRecDepth 100000
set_option maxHeartbeats 4000000
/-! Rules that the hand layer lacks, for the constructs of this program. -/
namespace Oo
open PySem PySem.Spec PyProof.Rows L2

/-! ### a list held against the empty list -/
section
variable {X : Cx}
def rEqNil (K : PySem.W.Frag) (neg : Bool) : R2 := fun x y H Q => ∃ (a b : Addr) (xs : List V), x = .ref a ∧ y = .ref b ∧ SqL K H a xs ∧ SqL K H b [] ∧ Q (.bl (if neg then !xs.isEmpty else xs.isEmpty)) H
theorem nil_sizes {its : List Value} {xs : List V} (r : Vals xs its) {it2 : List Value} (r2 : Vals [] it2) (h : xs ≠ []) : (its.toArray.size != it2.toArray.size) = true := by
  cases r2
  cases r with
  | nil => exact absurd rfl h
  | cons _ _ => simp
theorem op_eqNil (hu : X.A.units < cLine) : OpR X (compareOp .Eq) (rEqNil X.K false) := by
  rintro pins s σ H x y v u Q I rx ry ⟨a, b, xs, rfl, rfl, ha, hb, q⟩
  obtain rfl : v = Value.ref a := rx
  obtain rfl : u = Value.ref b := ry
  obtain ⟨its, r, pl, hz⟩ := I.list ha
  obtain ⟨it2, r2, pl2, hz2⟩ := I.list hb
  cases xs with
  | nil =>
    cases r
    cases r2
    exact SeqAt.eq_listAt (e := fun _ => true) pl.isList pl2.isList rfl hu (fun j h1 _ => absurd h1 (by simp)) (fin_bl I q rfl)
  | cons z zs => exact SeqAt.eq_list_lengthsAt pl.isList pl2.isList (nil_sizes r r2 (by simp)) hu (fin_bl I q rfl)
theorem op_neNil (hu : X.A.units < cLine) : OpR X (compareOp .NotEq) (rEqNil X.K true) := by
  rintro pins s σ H x y v u Q I rx ry ⟨a, b, xs, rfl, rfl, ha, hb, q⟩
  obtain rfl : v = Value.ref a := rx
  obtain rfl : u = Value.ref b := ry
  obtain ⟨its, r, pl, hz⟩ := I.list ha
  obtain ⟨it2, r2, pl2, hz2⟩ := I.list hb
  cases xs with
  | nil =>
    cases r
    cases r2
    exact SeqAt.RcNeAt.lists (e := fun _ => true) pl.isList pl2.isList rfl hu (fun j h1 _ => absurd h1 (by simp)) X.prog X.w _ _ (fin_bl I q rfl)
  | cons z zs => exact SeqAt.RcNeAt.lists_lengths pl.isList pl2.isList (nil_sizes r r2 (by simp)) hu X.prog X.w _ _ (fin_bl I q rfl)
end

/-! ### tuples of ints: equal, among, less -/
/-- v is a tuple of the ints ns -/
def PathV (K : PySem.W.Frag) (H : Hp) (v : V) (ns : List Int) : Prop := ∃ a, v = .ref a ∧ SqT K H a (ns.map V.int)
/-- each of xs is a tuple of the ints beside it -/
abbrev PathsV (K : PySem.W.Frag) (H : Hp) : List V → List (List Int) → Prop := Paired (PathV K H)
theorem ints_inj : ∀ {ns ms : List Int}, ns.map V.int = ms.map V.int → ns = ms
  | [], [], _ => rfl
  | [], _ :: _, h => by simp at h
  | _ :: _, [], h => by simp at h
  | n :: ns, m :: ms, h => by
    rw [List.map_cons, List.map_cons] at h
    injection h with h1 h2
    injection h1 with h1
    rw [h1, ints_inj h2]
/-- the ints of a tuple of the model -/
theorem vals_ints : ∀ {ns : List Int} {us : List Value}, Vals (ns.map V.int) us → ∀ j, j < us.length → ∃ n t, ns[j]? = some n ∧ us[j]? = some (Value.int n t)
  | [], _, .nil, j, h => absurd h (by simp)
  | n :: ns, _, .cons r t, 0, _ => by
    obtain ⟨tk, e⟩ := r
    exact ⟨n, tk, rfl, by rw [e]; rfl⟩
  | n :: ns, _, .cons r t, j + 1, h => by
    obtain ⟨m, tk, e1, e2⟩ := vals_ints t j (by simpa using h)
    exact ⟨m, tk, by simpa using e1, by simpa using e2⟩
section
variable {X : Cx} {pins : List (Addr × Obj)} {σ : L2.St} {H : Hp} {s : Shared} {a b : Addr} {ns ms : List Int}
theorem all_range_eq : ∀ {ns ms : List Int}, ((List.range (min ns.length ms.length)).all (fun j => ns[j]? == ms[j]?) && (ns.length == ms.length)) = decide (ns = ms) := by
  intro ns ms
  by_cases h : ns = ms
  · subst h
    rw [decide_eq_true rfl]
    simp
  · rw [decide_eq_false h]
    cases q : (ns.length == ms.length) with
    | false => exact Bool.and_false _
    | true =>
      rw [Bool.and_true]
      have hl : ns.length = ms.length := eq_of_beq q
      cases z : (List.range (min ns.length ms.length)).all (fun j => ns[j]? == ms[j]?) with
      | false => rfl
      | true =>
        refine absurd (List.ext_getElem? fun j => ?_) h
        by_cases hj : j < ns.length
        · exact eq_of_beq (List.all_eq_true.mp z j (List.mem_range.mpr (by omega)))
        · rw [List.getElem?_eq_none (by omega), List.getElem?_eq_none (by omega)]
theorem path_rc {A : Around} (I : Inv X pins σ H s) (ha : SqT X.K H a (ns.map V.int)) (hb : SqT X.K H b (ms.map V.int)) (hu : A.units < cLine) : SeqAt.RcAt A s (.ref a) (.ref b) (decide (ns = ms)) := by
  obtain ⟨us, r1, t1, _⟩ := I.tuple ha
  obtain ⟨ws, r2, t2, _⟩ := I.tuple hb
  have l1 : us.length = ns.length := by rw [← r1.length, List.length_map]
  have l2 : ws.length = ms.length := by rw [← r2.length, List.length_map]
  have z := SeqAt.RcAt.tuples (A := A) (s := s) (e := fun j => ns[j]? == ms[j]?) t1 t2 hu fun j h1 h2 => by
    have h1' : j < us.length := by simpa using h1
    have h2' : j < ws.length := by simpa using h2
    obtain ⟨n, t, e1, e2⟩ := vals_ints r1 j h1'
    obtain ⟨m, u, e3, e4⟩ := vals_ints r2 j h2'
    have f1 : us.toArray[j] = Value.int n t := by
      have := (List.getElem?_eq_some_iff.mp e2).2
      simpa using this
    have f2 : ws.toArray[j] = Value.int m u := by
      have := (List.getElem?_eq_some_iff.mp e4).2
      simpa using this
    rw [f1, f2, show (ns[j]? == ms[j]?) = (n == m) by rw [e1, e3]; rfl]
    exact SeqAt.EqAt.int_int n t m u
  have e : ((List.range (min us.toArray.size ws.toArray.size)).all (fun j => ns[j]? == ms[j]?) && us.toArray.size == ws.toArray.size) = decide (ns = ms) := by
    rw [← all_range_eq]
    simp only [List.size_toArray, l1, l2]
  rw [e] at z
  exact z
theorem path_eq {A : Around} (I : Inv X pins σ H s) (ha : SqT X.K H a (ns.map V.int)) (hb : SqT X.K H b (ms.map V.int)) (hu : A.units < cLine) : SeqAt.EqAt A s (.ref a) (.ref b) (decide (ns = ms)) := by
  by_cases h : a = b
  · subst h
    have e := ints_inj (I.tuple_inj ha hb)
    rw [decide_eq_true e]
    exact SeqAt.EqAt.same _
  · exact SeqAt.EqAt.of_refs h (path_rc I ha hb hu)
/-- p == q -/
def rEqP (K : PySem.W.Frag) (neg : Bool) : R2 := fun x y H Q => ∃ ns ms, PathV K H x ns ∧ PathV K H y ms ∧ Q (.bl (if neg then !decide (ns = ms) else decide (ns = ms))) H
theorem op_eqP (hu : X.A.units < cLine) : OpR X (compareOp .Eq) (rEqP X.K false) := by
  rintro pins s σ H x y v u Q I rx ry ⟨ns, ms, ⟨a, rfl, ha⟩, ⟨b, rfl, hb⟩, q⟩
  obtain rfl : v = Value.ref a := rx
  obtain rfl : u = Value.ref b := ry
  exact path_rc I ha hb hu X.prog X.w _ _ (fin_bl I q rfl)
/-- is the model's value the tuple ns? -/
noncomputable def hitP (K : PySem.W.Frag) (H : Hp) (ns : List Int) (u : Value) : Bool := open Classical in if (∃ c, u = Value.ref c ∧ SqT K H c (ns.map V.int)) then true else false
theorem hitP_eq (I : Inv X pins σ H s) {v : V} {u : Value} (r : RelV v u) (h : PathV X.K H v ms) : hitP X.K H ns u = decide (ms = ns) := by
  obtain ⟨c, rfl, hc⟩ := h
  obtain rfl : u = Value.ref c := r
  unfold hitP
  by_cases e : ms = ns
  · subst e
    rw [decide_eq_true rfl]
    exact if_pos ⟨c, rfl, hc⟩
  · rw [decide_eq_false e]
    refine if_neg fun q => e ?_
    obtain ⟨d, hd, q⟩ := q
    cases hd
    exact ints_inj (I.tuple_inj hc q)
theorem hitP_any (I : Inv X pins σ H s) : ∀ {xs : List V} {us : List Value} {ps : List (List Int)}, Vals xs us → PathsV X.K H xs ps → us.any (hitP X.K H ns) = decide (ns ∈ ps)
  | [], _, _, .nil, .nil => by simp
  | x :: xs, _, _, .cons r t, .cons (b := p) h k => by
    have ih := hitP_any I t k
    rw [List.any_cons, hitP_eq I r h, ih]
    by_cases e : p = ns
    · subst e; simp
    · rw [decide_eq_false e, Bool.false_or]
      refine decide_eq_decide.mpr ⟨fun z => List.mem_cons_of_mem _ z, fun z => (List.mem_cons.mp z).resolve_left fun y => e y.symm⟩
theorem hitP_at {A : Around} (I : Inv X pins σ H s) (ha : SqT X.K H a (ns.map V.int)) (hu : A.units < cLine) : ∀ {xs : List V} {us : List Value} {ps : List (List Int)}, Vals xs us → PathsV X.K H xs ps → ∀ u ∈ us, SeqAt.EqAt A s u (.ref a) (hitP X.K H ns u)
  | [], _, _, .nil, .nil, u, m => absurd m (by simp)
  | x :: xs, _, _, .cons (b := w) r t, .cons (b := p) h k, u, m => by
    rcases List.mem_cons.mp m with e | m
    · rw [e, hitP_eq I r h]
      obtain ⟨c, rfl, hc⟩ := h
      obtain rfl : w = Value.ref c := r
      exact path_eq I hc ha hu
    · exact hitP_at I ha hu t k u m
/-- p in ps, p not in ps: a list or a tuple of tuples of ints -/
def rInP (K : PySem.W.Frag) (neg : Bool) : R2 := fun x y H Q => ∃ ns l xs ps, PathV K H x ns ∧ y = .ref l ∧ (SqL K H l xs ∨ SqT K H l xs) ∧ PathsV K H xs ps ∧ Q (.bl (if neg then !decide (ns ∈ ps) else decide (ns ∈ ps))) H
theorem op_inP (hu : X.A.units + 1 < cLine) : OpR X (compareOp .In) (rInP X.K false) := by
  rintro pins s σ H x y v u Q I rx ry ⟨ns, l, xs, ps, ⟨a, rfl, ha⟩, rfl, hl, hp, q⟩
  obtain rfl : v = Value.ref a := rx
  obtain rfl : u = Value.ref l := ry
  rcases hl with hl | hl
  · obtain ⟨its, r, pl, _⟩ := I.list hl
    refine SeqAt.in_listAt (hitP X.K H ns) pl.isList (fun w hw => hitP_at I ha hu r hp w (by simpa using hw)) (fin_bl I q ?_)
    rw [show its.toArray.any (hitP X.K H ns) = its.any (hitP X.K H ns) by simp, hitP_any I r hp]
    rfl
  · obtain ⟨its, r, pl, _⟩ := I.tuple hl
    refine SeqAt.in_tupleAt (hitP X.K H ns) pl (fun w hw => hitP_at I ha hu r hp w (by simpa using hw)) (fin_bl I q ?_)
    rw [show its.toArray.any (hitP X.K H ns) = its.any (hitP X.K H ns) by simp, hitP_any I r hp]
    rfl
theorem op_notInP (hu : X.A.units + 1 < cLine) : OpR X (compareOp .NotIn) (rInP X.K true) := by
  rintro pins s σ H x y v u Q I rx ry ⟨ns, l, xs, ps, ⟨a, rfl, ha⟩, rfl, hl, hp, q⟩
  obtain rfl : v = Value.ref a := rx
  obtain rfl : u = Value.ref l := ry
  rcases hl with hl | hl
  · obtain ⟨its, r, pl, _⟩ := I.list hl
    refine SeqAt.notIn_listAt (hitP X.K H ns) pl.isList (fun w hw => hitP_at I ha hu r hp w (by simpa using hw)) (fin_bl I q ?_)
    rw [show its.toArray.any (hitP X.K H ns) = its.any (hitP X.K H ns) by simp, hitP_any I r hp]
    rfl
  · obtain ⟨its, r, pl, _⟩ := I.tuple hl
    refine SeqAt.notIn_tupleAt (hitP X.K H ns) pl (fun w hw => hitP_at I ha hu r hp w (by simpa using hw)) (fin_bl I q ?_)
    rw [show its.toArray.any (hitP X.K H ns) = its.any (hitP X.K H ns) by simp, hitP_any I r hp]
    rfl
end
/-- the i-th goes -/
theorem paired_erase {α β : Type} {F : α → β → Prop} : ∀ {l₁ : List α} {l₂ : List β} (j : Nat), Paired F l₁ l₂ → Paired F (l₁.eraseIdx j) (l₂.eraseIdx j)
  | _, _, _, .nil => .nil
  | _, _, 0, .cons _ t => t
  | _, _, j + 1, .cons r t => .cons r (paired_erase j t)
section
variable {X : Cx}
/-- ps.remove(p): p stands at j, not ahead of it -/
def rRemP (K : PySem.W.Frag) : V → List V → Hp → VK → Prop := fun x xs H Q => ∃ (l : Addr) (ys : List V) (y : V) (ns : List Int) (ps : List (List Int)) (j : Nat), x = .ref l ∧ xs = [y] ∧ H l = some (.lst ys) ∧ PathV K H y ns ∧ PathsV K H ys ps ∧
  ps[j]? = some ns ∧ (∀ m : Nat, m < j → ps[m]? ≠ some ns) ∧ Q .non (upd H l (.lst (ys.eraseIdx j)))
theorem mt_removeP (hu : X.A.units + 2 < cLine) : MtR X "list.remove" (rRemP X.K) := by
  rintro pins s σ H x xs v us Q I rx rxs ⟨l, ys, y, ns, ps, j, rfl, rfl, hH, ⟨a, rfl, ha⟩, hp, hj, hno, q⟩
  obtain rfl : v = Value.ref l := rx
  obtain ⟨u, rfl, ru⟩ := rxs.one
  obtain rfl : u = Value.ref a := ru
  obtain ⟨z, its, n, r, hl, e⟩ := I.lstM hH
  have hpl : ys.length = ps.length := Paired.length hp
  have hjn : j < ps.length := (List.getElem?_eq_some_iff.mp hj).1
  have hjl : j < its.toArray.size := by rw [List.size_toArray]; omega
  have at_ : ∀ (m : Nat) (hm : m < its.toArray.size), hitP X.K H ns its.toArray[m] = decide (ps[m]? = some ns) := by
    intro m hm
    have hml : m < its.length := by simpa using hm
    have hmy : m < ys.length := by omega
    obtain ⟨w, ew, rw'⟩ := r.get (List.getElem?_eq_getElem hmy)
    obtain ⟨p, ep, hpp⟩ := paired_get hp (List.getElem?_eq_getElem hmy)
    have e1 : its.toArray[m] = w := by
      have := (List.getElem?_eq_some_iff.mp ew).2
      simpa using this
    rw [e1, hitP_eq I rw' hpp, ep]
    exact decide_eq_decide.mpr ⟨fun z => by rw [z], fun z => Option.some.inj z⟩
  refine call_meets PySem.F.slot_list_remove ⟨_, e, rfl⟩ PySem.F.entry_list_remove (PySem.F.args_list_remove_2 _ _)
    (PySem.SeqAt.list_removeAt l its.toArray n none #[] (.ref a) (hitP X.K H ns) j hjl ?_ ?_ (by rw [List.size_toArray]; omega)) ⟨e, ?_, ?_⟩
  · rw [at_ j hjl]
    exact decide_eq_true hj
  · intro m hm hmj
    rw [at_ m hm]
    exact decide_eq_false (hno m hmj)
  · intro w hw
    exact hitP_at I ha (by show X.A.units + 1 < cLine; omega) r hp w (by simpa using hw)
  · have rr := r.eraseIdx j
    refine ⟨.non, _, I.lset (its' := its.eraseIdx j) (t' := s.toks) hH e ?_ rr ?_, rfl, q⟩
    · show its.toArray.eraseIdxIfInBounds j = (its.eraseIdx j).toArray
      rw [List.eraseIdxIfInBounds_toArray]
    · have z2 : (ys.eraseIdx j).length ≤ ys.length := by rw [List.length_eraseIdx]; split <;> omega
      omega
end
end Oo

set_option Elab.async false
set_option linter.all false
set_option maxRecDepth 100000
set_option maxHeartbeats 4000000
/-! sorted over tuples of ints, the empty one among them too. -/
namespace Oo
open PySem PySem.Spec PyProof.Rows L2
open PySem.W (alike alikeAll dataLt dataLe keyToks AllAlike SortsAt dataKind EachIs oneLt_alike dataKind_inv dataKind_some)
def pD (ns : List Int) : PyData := .tuple (ns.map .int)
theorem pD_alike (ns ms : List Int) : alike (pD ns) (pD ms) = true := by
  show alikeAll _ _ = true
  exact PySem.W.alike_ints ns ms
theorem pD_depth (ns : List Int) : (pD ns).depth ≤ 1 := by
  show PyData.depth (.tuple _) ≤ 1
  rw [PyData.depth, PySem.W.depth_ints]
  exact Nat.le_refl _
section
variable {prog : Program} {w : World} {A : Around} {E : Value → Shared → Prop} {s : Shared}
open PySem.SeqAt in
theorem call_tupLt {Q : Value → Shared → Prop} {l b : Addr} {items items2 : Array Value} {e r : Nat → Bool} (hl : s.heap.IsTuple l items) (hb : s.heap.IsTuple b items2)
    (he : ∀ j (h1 : j < items.size) (h2 : j < items2.size), EqAt A.in1 s items[j] items2[j] (e j)) (hr : ∀ j (h1 : j < items.size) (h2 : j < items2.size), e j = false → RcLt A.in1 s items[j] items2[j] (r j))
    (h : Q (.bool (firstLt e r (decide (items.size < items2.size)) (List.range (min items.size items2.size)))) s) : wpAny (model prog w) A (call (.builtin "tuple.__lt__") [.ref l, .ref b]) Q E s := by
  obtain ⟨⟨c1, d1, x1, y1⟩, ho, hc, n, hd⟩ := id hl
  obtain ⟨⟨c2, d2, x2, y2⟩, ho2, hc2, n2, hd2⟩ := id hb
  simp only at hc hd hc2 hd2
  subst hc hd hc2 hd2
  exact call_meets F.slot_tuple_lt ⟨_, ho, rfl⟩ F.entry_tuple_lt (F.args_tuple_lt_2 _ _) (tuple_ltAt l b items items2 n n2 d1 d2 y1 y2 e r) ⟨ho, ho2, he, hr, h⟩
open PySem.SeqAt PySem.W in
/-- tuple against tuple, as the sort of one type asks it -/
theorem oneLt_tup {xs ys : List PyData} {a b : Value} {as bs : List Addr} {Q : Bool → Shared → Prop} (ra : Reads s.heap a (.tuple xs) as) (rb : Reads s.heap b (.tuple ys) bs) (hal : alikeAll xs ys = true)
    (hu : A.units + min (PyData.tuple xs).depth (PyData.tuple ys).depth < cLine) (hq : Q (dataLt (.tuple xs) (.tuple ys)) s) : wpAny (model prog w) A (oneLt' true a b) Q E s := by
  cases ra with
  | @tuple l o vs n _ _ h1 h2 h3 h4 =>
    cases rb with
    | @tuple l' o' vs' n' _ _ k1 k2 k3 k4 =>
      have n1 : vs.size = xs.length := by simpa using PySem.SeqAt.ReadsAll.length _ _ _ h4
      have n2 : vs'.size = ys.length := by simpa using PySem.SeqAt.ReadsAll.length _ _ _ k4
      rw [dataLt_tuple, ← firstLt_toks xs ys hal, ← n1, ← n2] at hq
      rw [oneLt'_eq]
      simp only [if_true]
      refine wpAny_bind (wpAny_cRoomFor (room_here hu) ?_)
      refine wpAny_bind (wpAny_callSpecialIfBound?_slot (T := "tuple") ⟨_, h1, h2⟩ F.slot_tuple_lt (call_tupLt (e := pairEq xs ys) (r := fun j => dataLt (xs.getD j .none) (ys.getD j .none)) ⟨_, h1, h2, _, h3⟩ ⟨_, k1, k2, _, k3⟩ (fun j j1 j2 => ?_) (fun j j1 j2 hj => ?_) ?_))
      · have z := eqAt_alikeAll xs ys A.in1 s vs.toList vs'.toList _ _ h4 k4 hal (room_in hu) j (by simpa using j1) (by simpa using j2)
        simpa using z
      · have z := rcLt_alikeAll xs ys A.in1 s vs.toList vs'.toList _ _ h4 k4 hal (room_in hu) j (by simpa using j1) (by simpa using j2) hj
        simpa using z
      · exact wpAny_truthy_bool hq
theorem mapM_each {M : Model} {α β : Type} {f : α → Sem β} {Q : List β → Shared → Prop} : ∀ {l : List α} {rs : List β}, Paired (fun v r => ∀ Q' : β → Shared → Prop, Q' r s → wpAny M A (f v) Q' E s) l rs → Q rs s → wpAny M A (l.mapM f) Q E s
  | _, _, .nil, h => by rw [List.mapM_nil]; exact wpAny_pure h
  | _, _, .cons (a := x) (b := r) hx t, h => by
    rw [List.mapM_cons]
    exact wpAny_bind (hx _ (wpAny_bind (mapM_each (Q := fun bs s' => wpAny M A (pure (r :: bs)) Q E s') t (wpAny_pure h))))
/-- v reads as the tuple ns -/
abbrev RdP (h : Heap) (v : Value) (ns : List Int) : Prop := ∃ as, Reads h v (pD ns) as
/-- the first of a tuple -/
theorem firsts {M : Model} : ∀ {vs : List Value} {ps : List (List Int)}, EachIs (RdP s.heap) vs ps →
    ∃ rs : List (Option Value), Paired (fun v r => ∀ Q' : Option Value → Shared → Prop, Q' r s → wpAny M A (firstOfTuple' v) Q' E s) vs rs ∧ rs.map Option.isSome = ps.map fun p => !p.isEmpty
  | _, _, .nil => ⟨[], .nil, rfl⟩
  | _, _, .cons (a := v) (b := p) ⟨as, r⟩ t => by
    obtain ⟨rs, h1, h2⟩ := firsts (M := M) t
    obtain ⟨x, hx, hs⟩ : ∃ x : Option Value, (∀ Q' : Option Value → Shared → Prop, Q' x s → wpAny M A (firstOfTuple' v) Q' E s) ∧ x.isSome = !p.isEmpty := by
      have lk : PySem.W.Looks M s.heap (typeOf v) (.type "tuple") := PySem.W.looks_reads r
      have r' : Reads s.heap v (.tuple (p.map .int)) as := r
      cases r' with
      | @tuple l o us n _ _ k1 k2 k3 k4 =>
        refine ⟨us[0]?, fun Q' hq => ?_, ?_⟩
        · rw [PySem.W.kas_first_eq]
          refine wpAny_bind (lk.here ?_)
          rw [if_neg (by decide)]
          exact wpAny_bind (listItems_at k1 k3 (wpAny_pure hq))
        · have n1 : us.size = p.length := by simpa using PySem.SeqAt.ReadsAll.length _ _ _ k4
          cases p with
          | nil =>
            have : us[0]? = none := Array.getElem?_eq_none (by rw [n1]; exact Nat.le_refl _)
            rw [this]; rfl
          | cons z zs =>
            have hz : 0 < us.size := by rw [n1]; exact Nat.succ_pos _
            rw [Array.getElem?_eq_getElem hz]; rfl
    exact ⟨x :: rs, .cons hx h1, by rw [List.map_cons, List.map_cons, hs, h2]⟩
/-- the kind where a tuple is empty -/
theorem kind_mixed {M : Model} {vs : List Value} {ps : List (List Int)} (e : EachIs (RdP s.heap) vs ps) (h0 : [] ∈ ps) (h2 : 2 ≤ vs.length) {Q : SortKind → Shared → Prop} (h : Q (if (ps.headD []).isEmpty then oneType' else general') s) : wpAny M A (keyKind' vs.toArray) Q E s := by
  obtain ⟨rs, h1, hm⟩ := firsts (M := M) (A := A) (E := E) e
  rw [keyKind'_eq, List.mapM_toArray, map_eq_pure_bind]
  refine wpAny_bind (wpAny_bind (mapM_each h1 (wpAny_pure ?_)))
  have hall : ¬ (rs.toArray.all fun x => x.isSome) = true := by
    intro q
    have q' : ∀ x ∈ rs, Option.isSome x = true := by simpa using q
    have hin : false ∈ rs.map Option.isSome := by
      rw [hm]
      exact List.mem_map.mpr ⟨[], h0, rfl⟩
    obtain ⟨x, hx, hf⟩ := List.mem_map.mp hin
    rw [q' x hx] at hf
    exact absurd hf (by decide)
  rw [if_neg hall]
  obtain ⟨p, pr, rfl⟩ : ∃ p pr, ps = p :: pr := by
    cases ps with
    | nil => exact absurd h0 (by simp)
    | cons p pr => exact ⟨p, pr, rfl⟩
  cases rs with
  | nil => simp at hm
  | cons r rr =>
    rw [List.map_cons, List.map_cons] at hm
    have hr := (List.cons.inj hm).1
    have e0 : (((r :: rr).toArray)[0]?.bind id).isSome = r.isSome := by simp
    rw [e0, hr]
    have h' : Q (if p.isEmpty then oneType' else general') s := h
    cases hp : p.isEmpty with
    | false =>
      rw [if_pos (by rfl)]
      rw [hp] at h'
      exact wpAny_pure h'
    | true =>
      rw [hp] at h'
      rw [if_neg (by decide)]
      have lk : ∀ v ∈ vs, PySem.W.Looks M s.heap (typeOf v) (.type "tuple") := fun v hv => by
        obtain ⟨d, hd, as, rv⟩ := e.left v hv
        exact PySem.W.looks_reads rv
      rw [oneTypeOnly'_eq, List.mapM_toArray, map_eq_pure_bind]
      refine wpAny_bind (wpAny_bind (wpAny_bind (PySem.W.kas_mapM (r := Value.type "tuple") _ (fun v hv Q' hq => (lk v hv).here hq) (wpAny_pure ?_))))
      have all1 : ((List.map (fun _ => Value.type "tuple") vs).toArray.all fun x => x == Value.type "tuple") = true := by
        simp only [List.all_toArray, List.all_map, List.all_eq_true]
        intro _ _
        rfl
      have g0 : (List.map (fun _ => Value.type "tuple") vs).toArray[0]? = some (Value.type "tuple") := by
        cases vs with
        | nil => simp at h2
        | cons v vr => simp
      rw [g0]
      simp only [all1, if_true]
      exact wpAny_pure (wpAny_pure h')
/-- values that read as tuples of ints can be sorted -/
theorem sortsAt_paths {vs : List Value} {ps : List (List Int)} (e : EachIs (RdP s.heap) vs ps) (hu : A.units + 1 < cLine) : SortsAt prog w A s (dataKind s.heap (ps.map pD)) vs := by
  have hal : AllAlike (ps.map pD) := AllAlike.of pD_alike
  have e' : EachIs (fun v d => ∃ as, Reads s.heap v d as) vs (ps.map pD) := PySem.W.each_map (R := fun v d => ∃ as, Reads s.heap v d as) pD e
  have dep : ∀ d, d ∈ ps.map pD → A.units + d.depth < cLine := fun d hd => by
    obtain ⟨p, _, rfl⟩ := List.mem_map.mp hd
    have := pD_depth p
    omega
  by_cases h0 : [] ∈ ps
  · refine ⟨fun v hv => ?_, ⟨if (ps.headD []).isEmpty then oneType' else general', ?_, fun h2 E' Q hq => kind_mixed e h0 h2 hq⟩⟩
    · obtain ⟨d, hd, as, r⟩ := e'.left v hv
      exact ⟨_, dataKind_some hal hd r⟩
    · intro E' x y a b Q ha hb hq
      obtain ⟨d, as, hd, ra, rfl⟩ := dataKind_inv ha
      obtain ⟨d', as', hd', rb, rfl⟩ := dataKind_inv hb
      obtain ⟨p, hp, rfl⟩ := List.mem_map.mp hd
      obtain ⟨p', hp', rfl⟩ := List.mem_map.mp hd'
      have room : A.units + min (pD p).depth (pD p').depth < cLine := Nat.lt_of_le_of_lt (Nat.add_le_add_left (Nat.min_le_left _ _) _) (dep _ hd)
      split
      · rw [keyLt'_oneType]
        exact oneLt_tup ra rb (PySem.W.alike_ints p p') room hq
      · show wpAny (model prog w) A (oneLt' false x y) Q E' s
        exact oneLt_alike (fun h => absurd h (by decide)) ra rb (pD_alike p p') (fun h => nomatch h) room hq
  · refine SortsAt.data e' hal (.inl fun d hd => ?_) dep
    obtain ⟨p, hp, rfl⟩ := List.mem_map.mp hd
    cases p with
    | nil => exact absurd hp h0
    | cons x r => exact ⟨.int x, r.map .int, rfl⟩
theorem dataLe_paths : dataLe false pD = fun p q : List Int => decide (p ≤ q) :=
  (show dataLe false pD = dataLe false (fun b : List Int => .list ((id b).map .int)) from by
    funext p q
    rw [PySem.W.dataLe_eq, PySem.W.dataLe_eq]
    rfl).trans (PySem.W.dataLe_rows id)
end
theorem readsAll_ints {h : Heap} : ∀ {ns : List Int} {us : List Value}, Vals (ns.map V.int) us → ∃ as, ReadsAll h us (ns.map .int) as
  | [], _, .nil => ⟨[], .nil⟩
  | n :: ns, _, .cons r t => by
    obtain ⟨tk, rfl⟩ := r
    obtain ⟨as, h2⟩ := readsAll_ints t
    exact ⟨_, .cons (.int n tk) h2⟩
section
variable {X : Cx} {pins : List (Addr × Obj)} {σ : L2.St} {H : Hp} {s : Shared}
theorem reads_path (I : Inv X pins σ H s) {a : Addr} {ns : List Int} (h : SqT X.K H a (ns.map V.int)) : RdP s.heap (.ref a) ns := by
  obtain ⟨us, r, t, _⟩ := I.tuple h
  obtain ⟨o, ho, hc, n, hd⟩ := t
  obtain ⟨as, ra⟩ := readsAll_ints (h := s.heap) r
  exact ⟨as, .tuple ho hc hd (by simpa using ra)⟩
/-- a model's value that stands for v and the path p -/
theorem each_paths (I : Inv X pins σ H s) : ∀ {xs : List V} {us : List Value} {ps : List (List Int)}, Vals xs us → PathsV X.K H xs ps → EachIs (RdP s.heap) us ps ∧ EachIs (fun u p => ∃ a, u = Value.ref a ∧ SqT X.K H a (p.map V.int)) us ps
  | [], _, _, .nil, .nil => ⟨.nil, .nil⟩
  | x :: xs, _, _, .cons (b := u) r t, .cons (b := p) h k => by
    obtain ⟨a, rfl, ha⟩ := h
    obtain rfl : u = Value.ref a := r
    obtain ⟨h1, h2⟩ := each_paths I t k
    exact ⟨.cons (reads_path I ha) h1, .cons ⟨a, rfl, ha⟩ h2⟩
theorem back_paths {K : PySem.W.Frag} : ∀ {us : List Value} {ps : List (List Int)}, EachIs (fun u p => ∃ a, u = Value.ref a ∧ SqT K H a (p.map V.int)) us ps → ∃ xs, Vals xs us ∧ PathsV K H xs ps
  | _, _, .nil => ⟨[], .nil, .nil⟩
  | _, _, .cons ⟨a, e, ha⟩ t => by
    obtain ⟨xs, h1, h2⟩ := back_paths t
    exact ⟨.ref a :: xs, .cons e h1, .cons ⟨a, rfl, ha⟩ h2⟩
end
def leP (a b : List Int) : Bool := decide (a ≤ b)
theorem le_tot (a b : List Int) : (leP a b || leP b a) = true := by
  unfold leP
  rcases List.le_total a b with h | h
  · rw [decide_eq_true h]; rfl
  · rw [decide_eq_true h, Bool.or_true]
/-- sorted(xs), xs a list of tuples of ints: a new list, the same tuples upwards -/
def rSortP (K : PySem.W.Frag) : List V → Hp → VK → Prop := fun vs H Q => ∃ (l : Addr) (xs : List V) (ps : List (List Int)), vs = [V.ref l] ∧ SqL K H l xs ∧ PathsV K H xs ps ∧
  ∀ (ys : List V) (qs : List (List Int)) (p : Addr), PathsV K H ys qs → qs.Perm ps → qs.Pairwise (· ≤ ·) → H p = none → Q (.ref p) (upd H p (.lst ys))
theorem cr_sortP {X : Cx} (hu : X.A.units + 3 < cLine) : CallR X (.builtin "sorted") (rSortP X.K) := by
  intro pins s σ H vs us Q I r h
  obtain ⟨l, xs, ps, rfl, hs, hp, q⟩ := h
  obtain ⟨its, rv, hl, hz⟩ := I.list hs
  rw [Vals.ref1 r]
  obtain ⟨e1, e2⟩ := each_paths I rv hp
  have hL : ps.length ≤ sizeLine := by rw [← Paired.length hp]; exact hz
  have er' : EachIs (RdP (PySem.W.sortingHeap (PySem.W.copyHeap s.heap its) (s.heap.objs.size + 1) its)) its ps := e1.mono fun _ _ ⟨as, r⟩ => ⟨as, PyProof.Rows.Reads.keeps (fun _ _ => PySem.W.sorting_copy_old) r⟩
  refine PySem.W.sorted_vals hl.isList (sortsAt_paths (s := { s with heap := PySem.W.sortingHeap (PySem.W.copyHeap s.heap its) (s.heap.objs.size + 1) its }) er' (by show X.A.units + 2 + 1 < cLine; omega)) (by rw [e1.length]; exact hL) ?_
  have out := PySem.W.sortVals_data (h' := PySem.W.sortingHeap (PySem.W.copyHeap s.heap its) (s.heap.objs.size + 1) its) false e2 er' (AllAlike.of pD_alike)
  rw [dataLe_paths] at out
  obtain ⟨ys, rv2, hp2⟩ := back_paths out
  have hpm := List.mergeSort_perm ps (fun p q : List Int => decide (p ≤ q))
  have hpw : (ps.mergeSort (fun p q : List Int => decide (p ≤ q))).Pairwise (· ≤ ·) :=
    (List.pairwise_mergeSort (le := leP) (fun a b c h1 h2 => decide_eq_true (List.le_trans (of_decide_eq_true h1) (of_decide_eq_true h2))) le_tot ps).imp fun {a b} (h : leP a b = true) => of_decide_eq_true h
  generalize hgen : PySem.W.sortVals _ false its its = outv at rv2 hp2 ⊢
  obtain ⟨ep, he'⟩ := PyProof.Rows.sortedAll_at s.heap its outv.toArray
  have hlen : ys.length ≤ sizeLine := by
    rw [Paired.length hp2, hpm.length_eq]; exact hL
  exact ⟨.ref _, upd H (s.heap.objs.size + 1) (.lst ys), I.laid (t' := s.toks) (fun _ _ => PyProof.Rows.sortedAll_old) (Nat.le_succ _) ⟨hlen, outv, ep, rv2, he'⟩, rfl, q _ _ _ hp2 hpm hpw (I.hok.fresh (Nat.le_succ _))⟩
/-- lists of ints, less -/
theorem lexLt_lt : ∀ (a b : List Int), HT.lexLt a b = decide (a < b)
  | [], [] => by rw [HT.lexLt_nil_nil]; exact (decide_eq_false (List.lt_irrefl _)).symm
  | [], y :: ys => by rw [HT.lexLt_nil_cons]; exact (decide_eq_true (List.nil_lt_cons _ _)).symm
  | x :: xs, [] => by rw [HT.lexLt_cons_nil]; exact (decide_eq_false (by simp)).symm
  | x :: xs, y :: ys => by
    rw [HT.lexLt_cons, lexLt_lt xs ys]
    by_cases h : x = y
    · subst h
      rw [if_pos rfl]
      exact decide_eq_decide.mpr (by simp [List.cons_lt_cons_iff])
    · rw [if_neg h]
      exact decide_eq_decide.mpr (by simp [List.cons_lt_cons_iff, h])
/-- upwards and no two alike: strictly upwards -/
theorem strict_of {qs : List (List Int)} (h1 : qs.Pairwise (· ≤ ·)) (h2 : qs.Nodup) : qs.Pairwise (· < ·) := by
  refine (h1.and h2).imp fun {a b} h => ?_
  exact List.not_le.mp fun g => h.2 (List.le_antisymm h.1 g)
end Oo

set_option Elab.async false
set_option linter.all false
set_option maxRecDepth 100000
set_option maxHeartbeats 4000000
/-! x[i], v in x, len(x) of an own class's instance x, by its own methods; calls by a promise of positional values. -/
namespace Oo
open PySem PySem.Spec PyProof.Rows L2
section
variable {X : Cx} {CX : CXT} {E : XK} {k : Nat} {f C : Addr} {sp : Sp}
theorem run_one {pins : List (Addr × Obj)} {σ : L2.St} {H : Hp} {s : Shared} {Q : VK} {us : List Value} {vs : List V} (F : FnR X.prog X.w X.K X.mg X.base CX k f sp) (hr : Room k X.A) (hx : Passes CX X E)
    (I : Inv X pins σ H s) (r : Vals vs us) (h : sp vs H Q E) : wpAny (model X.prog X.w) X.A (call (.ref f) us) (EP X pins σ Q) X.xe s := wpAny_call (run_fnR F hr hx I r h)
theorem run_in1 {pins : List (Addr × Obj)} {σ : L2.St} {H : Hp} {s : Shared} {Q : VK} {us : List Value} {vs : List V} (F : FnR X.prog X.w X.K X.mg X.base CX k f sp) (hr : Room (k + 1) X.A) (hx : Passes CX X E)
    (I : Inv X pins σ H s) (r : Vals vs us) (h : sp vs H Q E) : wpAny (model X.prog X.w) X.A.in1 (call (.ref f) us) (EP X pins σ Q) X.xe s := by
  refine wpAny_call (codeAny_mono (F X.A.in1 X.stack s H us vs Q E hr.in1 I.env0.in1 r h) fun z s' hq => ?_)
  cases z with
  | error e => exact hx pins σ H s e s' I hq
  | ok fl =>
    cases fl with
    | ret u => exact I.after hq
    | next => exact False.elim hq
    | brk => exact False.elim hq
    | cont => exact False.elim hq
/-- x an instance of the class at C -/
def rOwn (C : Addr) (sp : Sp) (E : XK) : R2 := fun x y H Q => ∃ a dx fs, x = .ref a ∧ H a = some (.ins C dx fs) ∧ sp [.ref a, y] H Q E
theorem pe_ixOwn {a b : Expr} {ta tb : TE} {pos : Pos} (m : Meth X.K C "__getitem__" f) (hfn : PySem.W.fnIn X.K f = true) (F : FnR X.prog X.w X.K X.mg X.base CX k f sp) (hr : Room (k + 1) X.A) (hx : Passes CX X E)
    (pa : PE X a ta) (pb : PE X b tb) (hs : ∀ o i, subscripted b true o i = runValue (.builtin "lifetime.subscript" ⟨[o, i], []⟩) := by intro o i; rfl) : PE X (.Subscript a b pos) (tOp (rOwn C sp E) ta tb) := by
  refine ⟨fun pins s σ H Q I h => ?_⟩
  refine Subscript_ (binT pa pb I h fun v u s2 x y H2 I2 rx ry q => ?_)
  obtain ⟨a, dx, fs, rfl, e, q⟩ := q
  obtain rfl : v = Value.ref a := rx
  obtain ⟨m0, Fr0⟩ := I2.fr
  obtain ⟨mA, O, _⟩ := ins_get I2.hok e
  obtain ⟨od, J, _⟩ := O.look
  exact PySem.W.sub_K Fr0 I2.ok.mod.kin J m.at_ hfn m.fn (run_in1 (vs := [.ref a, y]) F hr hx I2 (.cons rfl (.cons ry .nil)) q) (hs _ _)
/-- y an instance, x looked for -/
def rInOwn (C : Addr) (sp : Sp) (E : XK) (neg : Bool) : R2 := fun x y H Q => ∃ a dx fs, y = .ref a ∧ H a = some (.ins C dx fs) ∧ sp [.ref a, x] H (fun v H' => ∃ b, v = .bl b ∧ Q (.bl (if neg then !b else b)) H') E
theorem op_inOwn (m : Meth X.K C "__contains__" f) (F : FnR X.prog X.w X.K X.mg X.base CX k f sp) (hr : Room k X.A) (hx : Passes CX X E) : OpR X (compareOp .In) (rInOwn C sp E false) := by
  rintro pins s σ H x y v u Q I rx ry ⟨a, dx, fs, rfl, e, q⟩
  obtain rfl : u = Value.ref a := ry
  obtain ⟨m0, Fr0⟩ := I.fr
  obtain ⟨mA, O, _⟩ := ins_get I.hok e
  obtain ⟨od, J, _⟩ := O.look
  refine PySem.W.in_K Fr0 I.ok.mod.kin J m.at_ m.fn (wpAny_mono (run_one (us := [.ref a, v]) (vs := [.ref a, x]) F hr hx I (.cons rfl (.cons rx .nil)) q) (fun r s' hq => ?_) fun _ _ z => z)
  obtain ⟨z, H', I', rz, b, rfl, hq⟩ := hq
  obtain rfl : r = Value.bool b := rz
  exact wpAny_truthy_bool ⟨.bl b, H', I', rfl, hq⟩
theorem op_notInOwn (m : Meth X.K C "__contains__" f) (F : FnR X.prog X.w X.K X.mg X.base CX k f sp) (hr : Room k X.A) (hx : Passes CX X E) : OpR X (compareOp .NotIn) (rInOwn C sp E true) := by
  rintro pins s σ H x y v u Q I rx ry ⟨a, dx, fs, rfl, e, q⟩
  obtain rfl : u = Value.ref a := ry
  obtain ⟨m0, Fr0⟩ := I.fr
  obtain ⟨mA, O, _⟩ := ins_get I.hok e
  obtain ⟨od, J, _⟩ := O.look
  refine PySem.W.notIn_K Fr0 I.ok.mod.kin J m.at_ m.fn (wpAny_mono (run_one (us := [.ref a, v]) (vs := [.ref a, x]) F hr hx I (.cons rfl (.cons rx .nil)) q) (fun r s' hq => ?_) fun _ _ z => z)
  obtain ⟨z, H', I', rz, b, rfl, hq⟩ := hq
  obtain rfl : r = Value.bool b := rz
  exact wpAny_truthy_bool ⟨.bl (!b), H', I', rfl, hq⟩
/-- len(x) -/
def rLenOwn (C : Addr) (sp : Sp) (E : XK) : List V → Hp → VK → Prop := fun xs H Q => ∃ a dx fs, xs = [.ref a] ∧ H a = some (.ins C dx fs) ∧ sp [.ref a] H (fun v H' => ∃ n : Int, v = .int n ∧ 0 ≤ n ∧ n < 2 ^ 63 ∧ Q (.int n) H') E
theorem call_lenOwn (m : Meth X.K C "__len__" f) (F : FnR X.prog X.w X.K X.mg X.base CX k f sp) (hr : Room (k + 1) X.A) (hx : Passes CX X E) : CallR X (.builtin "len") (rLenOwn C sp E) := by
  rintro pins s σ H xs us Q I r ⟨a, dx, fs, rfl, e, q⟩
  rw [Vals.ref1 r]
  obtain ⟨m0, Fr0⟩ := I.fr
  obtain ⟨mA, O, _⟩ := ins_get I.hok e
  obtain ⟨od, J, _⟩ := O.look
  refine PySem.W.len_K Fr0 I.ok.mod.kin J m.at_ m.fn (wpAny_mono (run_in1 (vs := [.ref a]) F hr hx I (.cons rfl .nil) q) (fun v s' hq => ?_) fun _ _ z => z)
  obtain ⟨z, H', I', rz, n, rfl, h0, h1, hq⟩ := hq
  obtain ⟨t, rfl⟩ := rz
  exact ⟨⟨h0, h1⟩, .int n, H', I'.tok _, ⟨_, rfl⟩, hq⟩
end

/-! ### calls by name: what a caller must know of a def -/
/-- the def that stands at the module's name x keeps sp -/
def CallP (P : Program) (w : World) (K : PySem.W.Frag) (mg : Str → Option Value) (base : Heap) (k : Nat) (x : Str) (sp : Sp) : Prop :=
  ∃ f, mg x = some (.ref f) ∧ PySem.W.keepIn K (.ref f) = true ∧ FnR P w K mg base CX0 k f sp
/-- the method m of the class at C -/
def MethP (P : Program) (w : World) (K : PySem.W.Frag) (mg : Str → Option Value) (base : Heap) (k : Nat) (C : Addr) (m : Str) (sp : Sp) : Prop :=
  ∃ f, Meth K C m f ∧ PySem.W.fnIn K f = true ∧ FnR P w K mg base CX0 k f sp
/-- the class at C, its name x, its __init__ -/
def MakeP (P : Program) (w : World) (K : PySem.W.Frag) (mg : Str → Option Value) (base : Heap) (k : Nat) (C : Addr) (x : Str) (sp : Sp) : Prop :=
  ∃ f, mg x = some (.ref C) ∧ Mk K C f ∧ FnR P w K mg base CX0 k f sp
section
variable {X : Cx} {k j : Nat} {C : Addr} {x m : Str} {sp : Sp} {e o : Expr} {es : List Expr} {t : TA} {ta : TE} {p pos apos : Pos}
/-- f(e, ..) -/
def tFn (sp : Sp) (t : TA) : TE := fun σ H Q => t σ H fun vs H1 => sp vs H1 Q L2.E0
theorem pe_fn (c : CallP X.prog X.w X.K X.mg X.base k x sp) (hr : Room j X.A) (hk : k ≤ j) (hg : Gl X x) (ha : PA X (e :: es) t) (hdb : (x == ("__debug__" : Str)) = false := by decide)
    (he : starEach (e :: es) X.env = (false, eval e X.env) :: starEach es X.env := by rfl) (hpl : (backTo pos (starEach es X.env)).any (·.1) = false := by rfl) : PE X (.Call (.Name x p) (e :: es) [] pos) (tFn sp t) := by
  obtain ⟨f, hm, kp, F⟩ := c
  refine ⟨fun pins s σ H Q I h => ?_⟩
  refine wpAny_Call_Name_kw (ld_glob I hg hm ?_ hdb)
  exact PySem.W.callWith_K (h₀ := X.base) I.ok.mod.kin kp (thn (ha.run pos pins s σ H _ I h) fun us s1 ⟨vs, H1, I1, r, q⟩ => ⟨I1.kIn, run_one F (hr.mono hk) pass0 I1 r q⟩) he hpl
/-- o.m(e, ..) -/
def tMR (C : Addr) (m : Str) (sp : Sp) (ta : TE) (t : TA) : TE := fun σ H Q => ta σ H fun x H1 => ∃ a dx fs, x = .ref a ∧ H1 a = some (.ins C dx fs) ∧ fs.lookup m = none ∧ t σ H1 fun vs H2 => sp (x :: vs) H2 Q L2.E0
theorem pe_mth {pl : Sem Bool} (he : PE X o ta) (c : Cls X.K C) (hm : MethP X.prog X.w X.K X.mg X.base k C m sp) (hr : Room j X.A) (hk : k ≤ j) (ha : PA X (e :: es) t)
    (hst : starEach (e :: es) X.env = (false, eval e X.env) :: starEach es X.env := by rfl) (hpl : (backTo pos (starEach es X.env)).any (·.1) = false := by rfl)
    (ht : eval (.Call (.Attribute o m apos) (e :: es) [] pos) X.env = (do
      let ov ← eval o X.env
      standAt apos.atName
      let (f, first) ← holding [ov] (getMethod ov m pl)
      callWith pos f first (backTo pos (starEach (e :: es) X.env)) (backToKw pos (keywordEach [] X.env))) := by rfl) :
    PE X (.Call (.Attribute o m apos) (e :: es) [] pos) (tMR C m sp ta t) := by
  obtain ⟨f, mt, _, F⟩ := hm
  refine ⟨fun pins s σ H Q I h => ?_⟩
  refine PySem.W.methodCall_KW (pl := pl) (thn (he.run pins s σ H _ I h) fun u s1 hq => ?_) ht
  obtain ⟨x, H1, I1, rx, a, dx, fs, rfl, ea, l, q⟩ := hq
  obtain rfl : u = Value.ref a := rx
  refine getmeth_ok I1 ea c mt l ?_
  refine PySem.W.callWith_K (first := [.ref a]) (h₀ := X.base) I.ok.mod.kin mt.kp (thn (ha.run pos pins s1 σ H1 _ I1 q) fun us s2 ⟨vs, H2, I2, r, q2⟩ => ⟨I2.kIn, ?_⟩) hst hpl
  exact run_one (us := .ref a :: us) (vs := .ref a :: vs) F (hr.mono hk) pass0 I2 (.cons rfl r) q2
/-- o.m() -/
theorem pe_mth0 {pl : Sem Bool} (he : PE X o ta) (c : Cls X.K C) (hm : MethP X.prog X.w X.K X.mg X.base k C m sp) (hr : Room j X.A) (hk : k ≤ j)
    (ht : eval (.Call (.Attribute o m apos) [] [] pos) X.env = (do
      let ov ← eval o X.env
      standAt apos.atName
      let (f, first) ← holding [ov] (getMethod ov m pl)
      callWith pos f first (backTo pos (starEach [] X.env)) (backToKw pos (keywordEach [] X.env))) := by rfl) :
    PE X (.Call (.Attribute o m apos) [] [] pos) (tMR C m sp ta tNil) := by
  obtain ⟨f, mt, _, F⟩ := hm
  refine ⟨fun pins s σ H Q I h => ?_⟩
  refine PySem.W.methodCall_KW (pl := pl) (thn (he.run pins s σ H _ I h) fun u s1 hq => ?_) ht
  obtain ⟨x, H1, I1, rx, a, dx, fs, rfl, ea, l, q⟩ := hq
  obtain rfl : u = Value.ref a := rx
  refine getmeth_ok I1 ea c mt l ?_
  exact PySem.W.callWith_K0 (first := [.ref a]) I1.kIn mt.kp (run_one (us := [.ref a]) (vs := [.ref a]) F (hr.mono hk) pass0 I1 (.cons rfl .nil) q)
/-- C(e, ..) -/
def tMk (C : Addr) (sp : Sp) (t : TA) : TE := fun σ H Q => t σ H fun vs H1 => ∀ x dx, H1 x = none → H1 dx = none → dx ≠ x → sp (.ref x :: vs) (upd (upd H1 dx (.own x)) x (.ins C dx [])) (fun v H2 => v = .non ∧ Q (.ref x) H2) L2.E0
theorem pe_mk (c : MakeP X.prog X.w X.K X.mg X.base k C x sp) (hr : Room j X.A) (hk : k + 1 ≤ j) (hg : Gl X x) (ha : PA X (e :: es) t) (hdb : (x == ("__debug__" : Str)) = false := by decide)
    (he : starEach (e :: es) X.env = (false, eval e X.env) :: starEach es X.env := by rfl) (hpl : (backTo pos (starEach es X.env)).any (·.1) = false := by rfl) : PE X (.Call (.Name x p) (e :: es) [] pos) (tMk C sp t) := by
  obtain ⟨f, hm, M, F⟩ := c
  refine ⟨fun pins s σ H Q I h => ?_⟩
  refine wpAny_Call_Name_kw (ld_glob I hg hm ?_ hdb)
  refine PySem.W.callWith_K (h₀ := X.base) I.ok.mod.kin M.kp (thn (ha.run pos pins s σ H _ I h) fun us s1 ⟨vs, H1, I1, r, q⟩ => ⟨I1.kIn, ?_⟩) he hpl
  exact StX.run_makeR M F (hr.mono hk) pass0 I1 r q
/-- C() -/
theorem pe_mk0 (c : MakeP X.prog X.w X.K X.mg X.base k C x sp) (hr : Room j X.A) (hk : k + 1 ≤ j) (hg : Gl X x) (hdb : (x == ("__debug__" : Str)) = false := by decide) : PE X (.Call (.Name x p) [] [] pos) (tMk C sp tNil) := by
  obtain ⟨f, hm, M, F⟩ := c
  refine ⟨fun pins s σ H Q I h => ?_⟩
  refine wpAny_Call_Name_kw (ld_glob I hg hm ?_ hdb)
  exact PySem.W.callWith_K0 I.kIn M.kp (StX.run_makeR (us := []) (vs := []) M F (hr.mono hk) pass0 I .nil h)
end
end Oo

set_option Elab.async false
set_option linter.all false
set_option maxRecDepth 100000
set_option maxHeartbeats 4000000
/-! for i, x in enumerate(t), t a tuple. -/
namespace Oo
open PySem PySem.Spec PyProof.Rows L2
open PySem.AutoSeq1 (wpAny_loadPart')
theorem meets_enum_tup (l : Addr) (items : Array Value) (n : Nat) (dct : Option Addr) (sl : Array (Option Value)) :
    Meets (Builtin.«enumerate.__new__» ⟨[.type "enumerate", .ref l], []⟩) (fun _ R s => s.heap.get? l = some { cls := .type "tuple", dict := dct, data := .seq items n, slots := sl } ∧
      R (.ok (.ret (.ref (s.heap.objs.size + 1))))
        { s with heap := (s.heap.push { cls := .type "tuple_iterator", data := .fields #[.ref l, .int 0 0] }).push { cls := .type "enumerate", data := .fields #[.none, .bool false, .ref s.heap.objs.size, rawInt 0, .none, .none] } }) :=
  .of_wp fun prog w A R s h => by
    obtain ⟨hp, g, d, tk, os⟩ := s; obtain ⟨hl, h⟩ := h
    have hsub := sub_enumerate
    have hL : Heap.IsTuple (Shared.heap ⟨hp, g, d, tk, os⟩) l items := ⟨_, hl, rfl, n, rfl⟩
    have hz : (hp.push { cls := .type "tuple_iterator", data := .fields #[.ref l, .int 0 0] }).objs.size = hp.objs.size + 1 := Heap.size_push ..
    simp only at h
    rw [← hz] at h
    wp_walk using wpAny_loadPart' hl
    refine wpAny_stack_any fun st => wpAny_pure ?_
    split
    · rename_i c _ _ _ _ _
      cases (c == Value.type "enumerate")
      · wp_walk using wpAny_loadPart' hl, wpAny_pyIter_tuple hL
        exact ⟨_, rfl, h⟩
      · wp_walk using wpAny_loadPart' hl, wpAny_pyIter_tuple hL
        exact ⟨_, rfl, h⟩
    · wp_walk using wpAny_loadPart' hl, wpAny_pyIter_tuple hL
      exact ⟨_, rfl, h⟩
theorem call_enum_tup {prog : Program} {w : World} {A : Around} {E : Value → Shared → Prop} {s : Shared} {l : Addr} {items : Array Value} {Q : Value → Shared → Prop} (hL : s.heap.IsTuple l items)
    (h : ∀ h', IsEnum h' (s.heap.objs.size + 1) s.heap.objs.size 0 .none → h'.IsTupleIter s.heap.objs.size l 0 → h'.objs.size = s.heap.objs.size + 2 →
      (∀ b o, s.heap.get? b = some o → h'.get? b = some o) → Q (.ref (s.heap.objs.size + 1)) { s with heap := h' }) :
    wpAny (model prog w) A (call (.type "enumerate") [.ref l]) Q E s := by
  obtain ⟨⟨c, dct, dt, sl⟩, hl, hc, n, hd⟩ := hL
  simp only at hc hd
  subst hc hd
  refine callType_new F.called_enumerate (by decide) (F.typeCall_enumerate_1 _) (F.newCall_enumerate_1 _) (fun obj => F.args_object_init_2 obj _) F.entry_enumerate_new
    (meets_enum_tup l items n dct sl) ⟨hl, ?_⟩
  have hz : (s.heap.push { cls := .type "tuple_iterator", data := .fields #[.ref l, .int 0 0] }).objs.size = s.heap.objs.size + 1 := Heap.size_push ..
  have he : IsEnum ((s.heap.push { cls := .type "tuple_iterator", data := .fields #[.ref l, .int 0 0] }).push
      { cls := .type "enumerate", data := .fields #[.none, .bool false, .ref s.heap.objs.size, rawInt 0, .none, .none] }) (s.heap.objs.size + 1) s.heap.objs.size 0 .none := by
    have z := Heap.get?_push_size (s.heap.push { cls := .type "tuple_iterator", data := .fields #[.ref l, .int 0 0] })
      (o := { cls := .type "enumerate", data := .fields #[.none, .bool false, .ref s.heap.objs.size, rawInt 0, .none, .none] }) rfl
    rw [hz] at z; exact z
  refine ⟨⟨_, he, rfl⟩, h _ he ⟨_, Heap.get?_push_of_some _ (Heap.get?_push_size _ rfl), rfl, rfl⟩ (by rw [Heap.size_push, hz]) fun b o x => Heap.get?_push_of_some _ (Heap.get?_push_of_some _ x)⟩
/-- the tuple at a, each item in a new pair -/
def Itet (K : PySem.W.Frag) (a : Addr) : It :=
  ⟨fun i H => ∃ (xs : List V) (x : V), SqT K H a xs ∧ xs[i]? = some x, fun i H v H' => ∃ T x, v = .ref T ∧ H T = none ∧ H' = upd H T (.tup [.int (i : Nat), x]) ∧ ∀ xs, SqT K H a xs → xs[i]? = some x, fun i H => ∃ xs : List V, SqT K H a xs ∧ xs.length = i⟩
theorem apart_tup {h : Heap} {e a : Addr} {o : Obj} {items : Array Value} {T : String} (he : h.get? e = some o) (hc : o.cls = .type T) (hT : T ≠ "tuple") (t : h.IsTuple a items) : a ≠ e := by
  rintro rfl
  obtain ⟨o', ho, hc', _⟩ := t
  rw [he] at ho
  obtain rfl := Option.some.inj ho
  rw [hc] at hc'
  injection hc' with z
  exact hT z
theorem turn_enumT {P : Program} {w : World} {K : PySem.W.Frag} {elts : List Expr} {kk : Nat} {tpos : Pos} (a e it : Addr) :
    Turn P w K (.Tuple elts kk tpos) (Itet K a) [e, it] e (fun i h => (∃ old, IsEnum h e it ((i : Nat) : Int) old) ∧ h.IsTupleIter it a i ∧ e ≠ it) where
  mem := by simp
  obj := fun i h st b hb => by
    obtain ⟨⟨old, he⟩, ⟨o, ho, hc, hd⟩, _⟩ := st
    have e' : b = e ∨ b = it := by simpa using hb
    rcases e' with z | z
    · rw [z]; exact ⟨_, he, fun v q => nomatch q⟩
    · rw [z]; exact ⟨o, ho, fun v q => by rw [hd] at q; cases q⟩
  keep := fun i h h' st k => let ⟨⟨old, he⟩, hi, hne⟩ := st; ⟨⟨old, k e (by simp) _ he⟩, hi.at fun o q => k it (by simp) o q, hne⟩
  item := by
    intro X hP hw hK hc i pins s σ H E I hf st hg
    subst hP hw hK
    obtain ⟨⟨old, he⟩, hit, hne⟩ := st
    obtain ⟨xs, x, hq, hx⟩ := hg
    obtain ⟨its, rv, p, hz⟩ := I.tuple hq
    obtain ⟨u, hu, ru⟩ := rv.get hx
    have hel : e < s.heap.objs.size := Heap.lt_size he
    have hil : it < s.heap.objs.size := by obtain ⟨_, q, _⟩ := hit; exact Heap.lt_size q
    have nae : a ≠ e := apart_tup he rfl (by decide) p
    have nai : a ≠ it := by obtain ⟨o, ho, hc', _⟩ := id hit; exact apart_tup ho hc' (by decide) p
    have hul : i < its.length := (List.getElem?_eq_some_iff.mp hu).1
    refine wpAny_pyNext_enum_itemD (Draws.tuple (A := X.A.in1) (I.ok.hd hc) it a nai its.toArray) he ⟨hit, p⟩ (by simpa using hul) hne (by simp [hne, Ne.symm nae]) fun x' h' tk hx' ho hit' hT hsz hk => ?_
    obtain rfl : x' = u := by
      have : its[i]? = some x' := by simpa using hx'
      rw [hu] at this
      exact (Option.some.inj this).symm
    refine ⟨_, rfl, wpAny_letOwnedTupleGo_enum (s := { s with heap := h', toks := tk + 1 }) ho fun h'' he' sb => ?_⟩
    have hT2 : h''.get? s.heap.objs.size = some { cls := .type "tuple", data := .seq #[.int i tk, x'] } := (sb.2 _ (Nat.ne_of_gt hel)).trans hT
    have new : ObjOk X.prog X.w (upd H s.heap.objs.size (.tup [.int (i : Nat), x])) h'' s.heap.objs.size (.tup [.int (i : Nat), x]) :=
      ⟨by show 2 ≤ sizeLine; decide, [.int i tk, x'], .cons ⟨_, rfl⟩ (.cons ru .nil), ⟨_, hT2, rfl, _, rfl⟩⟩
    have I1 : Inv X pins σ (upd H s.heap.objs.size (.tup [.int (i : Nat), x])) { s with heap := h'', toks := tk + 1 } :=
      I.turnedNew (ch := [e, it]) (fun b ob hb q => (sb.2 b (fun z => hb (by simp [z]))).trans (hk b ob (fun z => hb (by simp [z])) (fun z => hb (by simp [z])) q)) hf (Nat.le_refl _) new
    refine ⟨.ref s.heap.objs.size, _, I1, rfl, ⟨_, x, rfl, I.hok.fresh (Nat.le_refl _), rfl, fun ys hy => by rw [I.tuple_inj hy hq]; exact hx⟩, ⟨⟨x', ?_⟩, hit'.1.at fun o q => (sb.2 it (Ne.symm hne)).trans q, hne⟩, fun b hb => ?_⟩
    · have e1 : ((i + 1 : Nat) : Int) = (i : Int) + 1 := by omega
      rw [e1]; exact he'
    · have hb' : b < s.heap.objs.size := by
        have e' : b = e ∨ b = it := by simpa using hb
        rcases e' with z | z
        · rw [z]; exact hel
        · rw [z]; exact hil
      rw [upd_ne (Nat.ne_of_lt hb')]
      exact (hf b hb).1
  done := by
    intro X hP hw hK hc i pins s σ H E I hf st hg
    subst hP hw hK
    obtain ⟨⟨old, he⟩, hit, hne⟩ := st
    obtain ⟨xs, hq, hx⟩ := hg
    obtain ⟨its, rv, p, hz⟩ := I.tuple hq
    obtain ⟨f0, f1, f2, f3, f4, f5⟩ := hf it (by simp)
    have hl := rv.length
    have hn : i = its.toArray.size := by rw [List.size_toArray]; omega
    have nai : a ≠ it := by obtain ⟨o, ho, hc', _⟩ := id hit; exact apart_tup ho hc' (by decide) p
    refine wpAny_pyNext_enum_endD (Draws.tuple (A := X.A.in1) (I.ok.hd hc) it a nai its.toArray) he ⟨hn ▸ hit, p⟩ fun h' eb => ⟨rfl, I.turned (t' := s.toks) (fun b o hb q => eb b o hb q) f0 f1 f3 f4 f5⟩
  self := fun A i s Q E st h => let ⟨⟨_, he⟩, _⟩ := st; wpAny_pyIter_enum he h
def iEnumT (K : PySem.W.Frag) (ta : TA) : TI := fun σ H R => ta σ H fun vs H1 => ∃ a xs, vs = [.ref a] ∧ SqT K H1 a xs ∧ R (Itet K a) H1
theorem pi_enumT {X : Cx} {e : Expr} {ta : TA} {p pos tpos : Pos} {elts : List Expr} {kk : Nat} (hg : Gl X "enumerate") (hm : X.mg "enumerate" = none) (ha : PA X [e] ta) (hs : starEach [e] X.env = [(false, eval e X.env)] := by rfl) :
    PI X (.Tuple elts kk tpos) (.Call (.Name "enumerate" p) [e] [] pos) (iEnumT X.K ta) := by
  refine ⟨fun pins s σ H R I h => ?_⟩
  refine Call_ (ld_blt I hg hm boot_enumerate (PyProof.Rows.callWith_type1 (thn (ha.run pos pins s σ H _ I h) fun us s1 ⟨vs, H1, I1, r1, q1⟩ => ?_) hs rfl))
  obtain ⟨a, xs, ex, hq, q⟩ := q1
  subst ex
  rw [Vals.ref1 r1]
  obtain ⟨its, rv, p', hz⟩ := I1.tuple hq
  refine call_enum_tup (items := its.toArray) p' fun h' he hit hsz hk => wpAny_pyIter_enum he ?_
  have I2 : Inv X pins σ H1 { s1 with heap := h' } := I1.kept (t' := s1.toks) hk
  refine ⟨s1.heap.objs.size + 1, [s1.heap.objs.size + 1, s1.heap.objs.size], _, _, H1, rfl, I2, turn_enumT a (s1.heap.objs.size + 1) s1.heap.objs.size, ⟨⟨.none, he⟩, hit, Nat.succ_ne_self _⟩, fun b hb => ?_, q⟩
  have e' : b = s1.heap.objs.size + 1 ∨ b = s1.heap.objs.size := by simpa using hb
  have hle : s1.heap.objs.size ≤ b := by
    rcases e' with z | z
    · rw [z]; exact Nat.le_add_right _ _
    · rw [z]; exact Nat.le_refl _
  exact I1.fpOk hle (I1.hok.fresh hle)
/-- a for of n turns over anything: go, stop, one turn -/
theorem for_it {J : It} {g : TG} {tb : TS} {D : Ends} {σ : L2.St} {H : Hp} (n : Nat) (Pv : Nat → L2.St → Hp → Prop) (h0 : Pv 0 σ H) (hgo : ∀ i σ H, i < n → Pv i σ H → J.go i H) (hst : ∀ σ H, Pv n σ H → J.stop n H)
    (hs : ∀ (i : Nat) (v : V) (σ : L2.St) (H H' : Hp), i < n → Pv i σ H → J.yld i H v H' → g v σ H' fun σ2 H2 => tb { D with nx := Pv (i + 1), ct := Pv (i + 1), bk := D.nx } σ2 H2) (hd : ∀ σ H, Pv n σ H → D.nx σ H) :
    ∃ W : Nat → Nat → L2.St → Hp → Prop, (∃ m, W 0 m σ H) ∧ ∀ i m σ H, W i m σ H →
      (J.stop i H ∧ D.nx σ H) ∨ (J.go i H ∧ ∃ N : L2.St → Hp → Prop, (∀ σ' H', N σ' H' → ∃ m', m' < m ∧ W (i + 1) m' σ' H') ∧ ∀ v H', J.yld i H v H' → g v σ H' fun σ2 H2 => tb { D with nx := N, ct := N, bk := D.nx } σ2 H2) := by
  refine ⟨fun i m σ H => m = n - i ∧ i ≤ n ∧ Pv i σ H, ⟨n, rfl, Nat.zero_le _, h0⟩, ?_⟩
  rintro i m σ H ⟨rfl, hi, p⟩
  by_cases hlt : i < n
  · exact .inr ⟨hgo i σ H hlt p, Pv (i + 1), fun σ' H' p' => ⟨n - (i + 1), by omega, rfl, hlt, p'⟩, fun v H' y => hs i v σ H H' hlt p y⟩
  · have e : i = n := by omega
    subst e
    exact .inl ⟨hst σ H p, hd σ H p⟩
/-- for i, x in enumerate(t): the pair is a new tuple at T -/
theorem for_enumT {K : PySem.W.Frag} {a : Addr} {xs : List V} {g : TG} {tb : TS} {D : Ends} {σ : L2.St} {H : Hp} (Pv : Nat → L2.St → Hp → Prop) (h0 : Pv 0 σ H) (hl : ∀ i σ H, Pv i σ H → SqT K H a xs)
    (hs : ∀ (i : Nat) (x : V) (T : Addr) (σ : L2.St) (H : Hp), xs[i]? = some x → Pv i σ H → H T = none → g (.ref T) σ (upd H T (.tup [.int (i : Nat), x])) fun σ2 H2 => tb { D with nx := Pv (i + 1), ct := Pv (i + 1), bk := D.nx } σ2 H2) (hd : ∀ σ H, Pv xs.length σ H → D.nx σ H) :
    ∃ W : Nat → Nat → L2.St → Hp → Prop, (∃ m, W 0 m σ H) ∧ ∀ i m σ H, W i m σ H →
      ((Itet K a).stop i H ∧ D.nx σ H) ∨ ((Itet K a).go i H ∧ ∃ N : L2.St → Hp → Prop, (∀ σ' H', N σ' H' → ∃ m', m' < m ∧ W (i + 1) m' σ' H') ∧ ∀ v H', (Itet K a).yld i H v H' → g v σ H' fun σ2 H2 => tb { D with nx := N, ct := N, bk := D.nx } σ2 H2) :=
  for_it xs.length Pv h0 (fun i σ H hi p => ⟨xs, xs[i], hl i σ H p, List.getElem?_eq_getElem hi⟩) (fun σ H p => ⟨xs, hl _ σ H p, rfl⟩)
    (fun i v σ H H' hi p y => by
      obtain ⟨T, x, rfl, hT, rfl, f⟩ := y
      exact hs i x T σ H (f xs (hl i σ H p)) p hT) hd
/-- a list comprehension of n turns over anything -/
theorem lc_it {J : It} {g : TG} {tt : TT} {te : TE} {vs : List Nat} {σ : L2.St} {H1 : Hp} {D : Addr} {Qd : Hp → Prop} (n : Nat) (Pv : Nat → Hp → Prop) (h0 : Pv 0 (upd H1 D (.lst []))) (hgo : ∀ i H, i < n → Pv i H → J.go i H) (hst : ∀ H, Pv n H → J.stop n H)
    (hs : ∀ (i : Nat) (x : V) (H H' : Hp), i < n → Pv i H → J.yld i H x H' → g x (wipe σ vs) H' fun σ2 H2 => wipe σ2 vs = wipe σ vs ∧ tt σ2 H2 fun b H3 =>
      if b = true then te σ2 H3 fun y H4 => ∃ acc, H4 D = some (.lst acc) ∧ acc.length < sizeLine ∧ Pv (i + 1) (upd H4 D (.lst (acc ++ [y]))) else Pv (i + 1) H3) (hd : ∀ H, Pv n H → Qd H) :
    ∃ W : Nat → Nat → Hp → Prop, (∃ m, W 0 m (upd H1 D (.lst []))) ∧ ∀ i m H, W i m H →
      (J.stop i H ∧ Qd H) ∨ (J.go i H ∧ ∃ Nx : Hp → Prop, (∀ H', Nx H' → ∃ m', m' < m ∧ W (i + 1) m' H') ∧ ∀ x H', J.yld i H x H' → g x (wipe σ vs) H' fun σ2 H2 => wipe σ2 vs = wipe σ vs ∧ tt σ2 H2 fun b H3 =>
        if b = true then te σ2 H3 fun y H4 => ∃ acc, H4 D = some (.lst acc) ∧ acc.length < sizeLine ∧ Nx (upd H4 D (.lst (acc ++ [y]))) else Nx H3) := by
  refine ⟨fun i m H => m = n - i ∧ i ≤ n ∧ Pv i H, ⟨n, rfl, Nat.zero_le _, h0⟩, ?_⟩
  rintro i m H ⟨rfl, hi, p⟩
  by_cases hlt : i < n
  · exact .inr ⟨hgo i H hlt p, Pv (i + 1), fun H' p' => ⟨n - (i + 1), by omega, rfl, hlt, p'⟩, fun x H' y => hs i x H H' hlt p y⟩
  · have e : i = n := by omega
    subst e
    exact .inl ⟨hst H p, hd H p⟩
end Oo

set_option Elab.async false
set_option linter.all false
set_option maxRecDepth 100000
set_option maxHeartbeats 4000000
/-! for k, v in d.items(), d a dict of tuple keys. -/
namespace Oo
open PySem PySem.Spec PyProof.Rows L2
section
variable {X : Cx} {pins : List (Addr × Obj)} {σ : L2.St} {H : Hp} {s : Shared} {d : Addr} {o : Obj}
theorem frzT2 {kvs : List (List Key × V)} (I : Inv X pins σ H s) (h : H d = some (.frz o (.dT kvs))) :
    (d == sysModules) = false ∧ s.heap.get? d = some o ∧ o.ExactDict ∧ ∃ (es : Array DictEntry) (ep : Nat), o.data = .dict es ep ∧ es.size = kvs.length ∧ s.heap.DictRaw d es ep ∧
      ∀ (i : Nat) (k : List Key) (v : V), kvs[i]? = some (k, v) → ∃ (en : DictEntry) (q : Addr), es[i]? = some en ∧ en.key = .ref q ∧ H q = some (.tup (k.map kV)) ∧ RelV v en.val := by
  obtain ⟨hd, z, hs, xs, pr, o', es, ep, ho, hx, hdt, he, _⟩ := I.hok d _ h
  rw [hd] at ho
  cases ho
  refine ⟨hs, hd, hx, es, ep, hdt, ?_, ⟨o, hd, hx, hdt⟩, fun i k v e => ?_⟩
  · have l1 : es.size = xs.length := size_of_entries he
    have l2 : kvs.length = xs.length := Paired.length pr
    omega
  · obtain ⟨b, hb, e1, e2, e3⟩ := paired_get pr e
    have q := entry_at he i
    rw [hb] at q
    exact ⟨_, b.2.1, q, rfl, e2, e3⟩
end
/-- the pairs of a dict of tuple keys, each a new tuple of the key's own tuple and the value -/
def Itit (d : Addr) (o : Obj) (kvs : List (List Key × V)) : It :=
  ⟨fun i H => H d = some (.frz o (.dT kvs)) ∧ i < kvs.length, fun i H x H' => ∃ (T : Addr) (k : List Key) (v : V) (q : Addr), kvs[i]? = some (k, v) ∧ x = .ref T ∧ H T = none ∧ H q = some (.tup (k.map kV)) ∧ H' = upd H T (.tup [.ref q, v]), fun i H => H d = some (.frz o (.dT kvs)) ∧ kvs.length ≤ i⟩
theorem turn_itemsT {P : Program} {w : World} {K : PySem.W.Frag} {d : Addr} {o : Obj} {es : Array DictEntry} {ep : Nat} {kvs : List (List Key × V)} {elts : List Expr} {kk : Nat} {tpos : Pos} (it : Addr) (hod : o.data = .dict es ep) :
    Turn P w K (.Tuple elts kk tpos) (Itit d o kvs) [it] it (fun i h => ∃ ok ov, IsItemIter h it d i kvs.length ep ok ov) where
  mem := by simp
  obj := fun i h st b hb => by
    have e : b = it := by simpa using hb
    subst e
    obtain ⟨ok, ov, e⟩ := st
    exact ⟨_, e, fun v z => nomatch z⟩
  keep := fun i h h' st k => let ⟨ok, ov, e⟩ := st; ⟨ok, ov, k it (by simp) _ e⟩
  item := by
    intro X hP hw hK hc i pins s σ H E I hf st hg
    subst hP hw hK
    obtain ⟨hd, hi⟩ := hg
    obtain ⟨hs, hgd, hx, es', ep', hdt, hsz, hm, ent⟩ := frzT2 I hd
    obtain ⟨rfl, rfl⟩ := dict_ep hod hdt
    obtain ⟨⟨k, v⟩, hkv⟩ : ∃ p, kvs[i]? = some p := ⟨kvs[i], List.getElem?_eq_getElem hi⟩
    obtain ⟨en, q, hen, hkey, hq, hv⟩ := ent i k v hkv
    obtain ⟨ok, ov, he⟩ := st
    rw [← hsz] at he
    have hlt : it < s.heap.objs.size := Heap.lt_size he
    have hie : i < es'.size := by omega
    have een : es'[i] = en := by
      rw [Array.getElem?_eq_getElem hie] at hen
      exact Option.some.inj hen
    refine wpAny_pyNext_items_item_raw he hm hie fun h' ho hT hz hk => ?_
    rw [een] at ho hT
    refine ⟨_, rfl, wpAny_letOwnedTupleGo_items (s := { s with heap := h' }) ho fun h'' he' sb => ?_⟩
    have hT2 : h''.get? s.heap.objs.size = some { cls := .type "tuple", data := .seq #[en.key, en.val] } := (sb.2 _ (Nat.ne_of_gt hlt)).trans hT
    have new : ObjOk X.prog X.w (upd H s.heap.objs.size (.tup [.ref q, v])) h'' s.heap.objs.size (.tup [.ref q, v]) :=
      ⟨by show 2 ≤ sizeLine; decide, [en.key, en.val], .cons hkey (.cons hv .nil), ⟨_, hT2, rfl, _, rfl⟩⟩
    have I1 : Inv X pins σ (upd H s.heap.objs.size (.tup [.ref q, v])) { s with heap := h'' } :=
      I.turnedNew (t' := s.toks) (ch := [it]) (fun b ob hb e => (sb.2 b (by simpa using hb)).trans (hk b ob (by simpa using hb) e)) hf (Nat.le_refl _) new
    refine ⟨.ref s.heap.objs.size, _, I1, rfl, ⟨_, k, v, q, hkv, rfl, I.hok.fresh (Nat.le_refl _), hq, rfl⟩, ⟨en.key, en.val, ?_⟩, fun b hb => ?_⟩
    · rw [← hsz]; exact he'
    · have e : b = it := by simpa using hb
      rw [e, upd_ne (Nat.ne_of_lt hlt)]
      exact (hf it (by simp)).1
  done := by
    intro X hP hw hK hc i pins s σ H E I hf st hg
    subst hP hw hK
    obtain ⟨hd, hi⟩ := hg
    obtain ⟨f0, f1, f2, f3, f4, f5⟩ := hf it (by simp)
    obtain ⟨hs, hgd, hx, es', ep', hdt, hsz, hm, ent⟩ := frzT2 I hd
    obtain ⟨rfl, rfl⟩ := dict_ep hod hdt
    obtain ⟨ok, ov, he⟩ := st
    rw [← hsz] at he
    exact wpAny_pyNext_items_end_raw (I.ok.hd hc) he hm (by omega) fun h' eb => ⟨rfl, I.turned (t' := s.toks) (fun b ob hb e => eb b ob hb e) f0 f1 f3 f4 f5⟩
  self := fun A i s Q E st h => let ⟨_, _, e⟩ := st; PySem.W.kcp_self e h
def iItemsT (td : TE) : TI := fun σ H R => td σ H fun x H1 => ∃ d o kvs, x = .ref d ∧ H1 d = some (.frz o (.dT kvs)) ∧ R (Itit d o kvs) H1
theorem pi_itemsT {X : Cx} {e : Expr} {td : TE} {apos cpos : Pos} {elts : List Expr} {kk : Nat} {tpos : Pos} (he : PE X e td) (hbase : attributeBase e "items" X.env (eval e X.env) = eval e X.env := by rfl) (hline : (apos.endLine == cpos.line) = true := by rfl) :
    PI X (.Tuple elts kk tpos) (.Call (.Attribute e "items" apos) [] [] cpos) (iItemsT td) := by
  refine ⟨fun pins s σ H R I h => ?_⟩
  refine wpAny_Call_method (T := "dict") (id := "dict.items") hbase rfl hline F.plainAttrs_dict F.slot_dict_items F.type_dict_items (thn (he.run pins s σ H _ I h) fun u s1 ⟨x, H1, I1, rx, d, o, kvs, ex, hd, q⟩ => ?_)
  subst ex
  obtain rfl : u = Value.ref d := rx
  obtain ⟨hs, hgd, hx, es, ep, hdt, hsz, hm, ent⟩ := frzT2 I1 hd
  refine ⟨hm.typeIs, fun b hb => ?_, ?_⟩
  · injection hb with hb
    subst hb
    exact ⟨o, hgd, hx.2.1⟩
  have I2 : Inv X pins σ H1 { s1 with heap := s1.heap.push { cls := .type "dict_items", data := .fields #[.ref d] } } := I1.kept (t' := s1.toks) fun b ob q => Heap.get?_push_of_some _ q
  have fin : wpAny (model X.prog X.w) X.A (pyIter (.ref s1.heap.objs.size)) (PIE X pins σ (.Tuple elts kk tpos) R) X.xe { s1 with heap := s1.heap.push { cls := .type "dict_items", data := .fields #[.ref d] } } := by
    refine wpAny_pyIter_items_raw (d := d) ⟨_, Heap.get?_push_size _ rfl, rfl, rfl⟩ (hm.at fun o e => Heap.get?_push_of_some _ e) (pi_one (tk := s1.toks) I2 _ (turn_itemsT _ hdt) ⟨.none, .none, ?_⟩ q)
    rw [← hsz]
    exact Heap.get?_push_size _ rfl
  show wpAny _ _ (callWith cpos (.builtin "dict.items") [.ref d] [] []) _ X.xe s1
  exact method_meetsIn F.slot_dict_items F.entry_dict_items rfl (PySem.evalArgs_none ⟨rfl, hm.typeIs, F.args_dict_items_1 _, _, meets_dict_items_raw d hs, ⟨es, ep, hm⟩, fin⟩)
end Oo

set_option Elab.async false
set_option linter.all false
set_option maxRecDepth 100000
set_option maxHeartbeats 4000000
/-! dict(list of pairs) with tuple keys. -/
namespace Oo
open PySem PySem.Spec PyProof.Rows L2
theorem storedAll_nodup {K : Type} [DecidableEq K] : ∀ (ps xs : List (K × Addr × Value)), ((xs ++ ps).map (·.1)).Nodup → storedAllH xs ps = xs ++ ps
  | [], xs, _ => by rw [List.append_nil]; rfl
  | p :: ps, xs, h => by
    have hn : atKey xs p.1 = none := by
      unfold atKey
      rw [Option.map_eq_none_iff, List.find?_eq_none]
      intro x hx hc
      have e : x.1 = p.1 := by simpa using hc
      rw [List.map_append, List.nodup_append] at h
      exact h.2.2 x.1 (List.mem_map.mpr ⟨x, hx, rfl⟩) p.1 (by simp) e
    have e1 : storedAllH xs (p :: ps) = storedAllH (storedH xs p.1 p.2.1 p.2.2) ps := rfl
    rw [e1, storedH_new hn, storedAll_nodup ps _ (by simpa using h)]
    simp
section
variable {X : Cx}
/-- the pairs of the list: each a tuple of a key's tuple and a value -/
abbrev PrsT (K : PySem.W.Frag) (H : Hp) : List V → List (List Key × V) → Prop := Paired fun x kv => ∃ t q, x = .ref t ∧ SqT K H t [.ref q, kv.2] ∧ H q = some (.tup (kv.1.map kV))
def rDictPT (K : PySem.W.Frag) : List V → Hp → VK → Prop := fun vs H Q => ∃ (a : Addr) (xs : List V) (kvs : List (List Key × V)), vs = [.ref a] ∧ SqL K H a xs ∧ PrsT K H xs kvs ∧ (kvs.map (·.1)).Nodup ∧
  ∀ p, H p = none → Q (.ref p) (upd H p (.dT kvs))
/-- what the model holds of such pairs -/
theorem prs_model {pins : List (Addr × Obj)} {σ : L2.St} {H : Hp} {s : Shared} (I : Inv X pins σ H s) : ∀ {xs : List V} {its : List Value} {kvs : List (List Key × V)}, Vals xs its → PrsT X.K H xs kvs →
    ∃ (Ts : List Addr) (ps : List (List Key × Addr × Value)), its = Ts.map Value.ref ∧ Ts.length = ps.length ∧ KT H kvs ps ∧ ∀ (j : Nat) (p : List Key × Addr × Value), ps[j]? = some p → ∃ T, Ts[j]? = some T ∧ s.heap.IsTuple T #[.ref p.2.1, p.2.2]
  | [], _, _, .nil, .nil => ⟨[], [], rfl, rfl, .nil, fun j p h => by simp at h⟩
  | x :: xs, _, _, .cons (b := u) r t, .cons (b := kv) h k => by
    obtain ⟨tt, q, rfl, ht, hq⟩ := h
    obtain rfl : u = Value.ref tt := r
    obtain ⟨Ts, ps, e1, e2, e3, e4⟩ := prs_model I t k
    obtain ⟨us, rv, p, _⟩ := I.tuple ht
    cases rv with
    | cons r1 t1 =>
      cases t1 with
      | @cons _ w _ _ r2 t2 =>
        cases t2
        cases r1
        refine ⟨tt :: Ts, (kv.1, q, w) :: ps, by rw [e1]; rfl, by simp [e2], .cons ⟨rfl, hq, r2⟩ e3, fun j p' h' => ?_⟩
        cases j with
        | zero =>
          have : p' = (kv.1, q, w) := by simpa using h'.symm
          subst this
          exact ⟨tt, rfl, p⟩
        | succ j => exact e4 j p' (by simpa using h')
theorem call_dictPT (hcalm : X.calm = true) (hu : X.A.units + 3 < cLine) : CallR X (.type "dict") (rDictPT X.K) := by
  rintro pins s σ H vs us Q I r ⟨a, xs, kvs, rfl, hs, hp, hnd, q⟩
  rw [Vals.ref1 r]
  obtain ⟨its, rv, pl, hz⟩ := I.list hs
  obtain ⟨Ts, ps, rfl, hl, kt, hT⟩ := prs_model I rv hp
  obtain ⟨o, n, ho, hc, hd, hdat⟩ := pl
  have lk : kvs.length = ps.length := Paired.length kt
  have lx : xs.length = kvs.length := Paired.length hp
  have keys : ps.map (·.1) = kvs.map (·.1) := by
    have : ∀ {l : List (List Key × V)} {m : List (List Key × Addr × Value)}, KT H l m → m.map (·.1) = l.map (·.1) := by
      intro l m q
      induction q with
      | nil => rfl
      | cons h t ih => rw [List.map_cons, List.map_cons, ih, h.1]
    exact this kt
  have kall : ∀ {l : List (List Key × V)} {m : List (List Key × Addr × Value)}, KT H l m → ∀ x ∈ m, H x.2.1 = some (.tup (x.1.map kV)) := by
    intro l m q
    induction q with
    | nil => intro x hx; exact nomatch hx
    | cons h t ih =>
      intro x hx
      rcases List.mem_cons.mp hx with e | hx
      · subst e; rw [← h.1]; exact h.2.1
      · exact ih x hx
  let prs : List (Value × Value) := ps.map fun p => (Value.ref p.2.1, p.2.2)
  have hpl : prs.length = ps.length := List.length_map _
  have P := PairArg.list (prog := X.prog) (w := X.w) a (Ts.map Value.ref).toArray (fun j => Ts.getD j 0) prs
  have ok : PlainSeq "list" s.heap a (Ts.map Value.ref).toArray ∧ PairItems s.heap (Ts.map Value.ref).toArray (fun j => Ts.getD j 0) prs := by
    refine ⟨⟨o, n, ho, hc, hd, hdat⟩, by simp [hl, hpl], fun j k v hj => ?_⟩
    obtain ⟨p, hp1, hp2⟩ : ∃ p, ps[j]? = some p ∧ (Value.ref p.2.1, p.2.2) = (k, v) := by
      have : (ps.map fun p => (Value.ref p.2.1, p.2.2))[j]? = some (k, v) := hj
      rw [List.getElem?_map] at this
      exact Option.map_eq_some_iff.mp this
    injection hp2 with e1 e2
    obtain ⟨T, hT1, hT2⟩ := hT j p hp1
    have e3 : Ts.getD j 0 = T := by rw [List.getD_eq_getElem?_getD, hT1]; rfl
    show _ = some (Value.ref (Ts.getD j 0)) ∧ PairAt s.heap (Ts.getD j 0) k v
    rw [e3]
    refine ⟨by simp [hT1], .inl ?_⟩
    rw [← e1, ← e2]
    exact hT2
  refine call_dict_pairsH (knd := tupleKind (mixKind X.prog X.w)) (ps := ps) P (I.ok.hd hcalm) (by show X.A.in1.in1.units < cLine; show X.A.units + 2 < cLine; omega) ok ⟨hpl.symm, fun i key v h => ?_⟩ (fun h' hk x hx => ?_) (by rw [hpl, ← lk, ← lx]; exact hz) fun h' tk hd' hk => ?_
  · have : (ps.map fun p => (Value.ref p.2.1, p.2.2))[i]? = some (key, v) := h
    rw [List.getElem?_map] at this
    obtain ⟨⟨k, b, v'⟩, hp1, hp2⟩ := Option.map_eq_some_iff.mp this
    injection hp2 with e1 e2
    exact ⟨k, b, by rw [hp1]; simp only at e2; rw [e2], e1.symm⟩
  · obtain ⟨_, vals, r2, o2, h1, h2, n2, h3⟩ := I.hok _ _ (kall kt x hx)
    exact ⟨o2, vals.toArray, n2, hk _ _ (Nat.ne_of_lt (Heap.lt_size h1)) (by simp) h1, h2, h3, by simpa using items_are r2⟩
  · rw [storedAll_nodup ps [] (by rw [List.nil_append, keys]; exact hnd), List.nil_append] at hd'
    have hm : (s.heap.objs.size == sysModules) = false := beq_eq_false_iff_ne.mpr (Nat.ne_of_gt I.big)
    have hfr := I.hok.fresh (Nat.le_refl s.heap.objs.size)
    obtain ⟨q', es, ep, hq1, hq2, hq3, hq4, _, hq5⟩ := hd'
    exact ⟨.ref s.heap.objs.size, upd H s.heap.objs.size (.dT kvs), I.laid (t' := tk) (fun b o' e => hk b o' (by simp) e) (Nat.le_refl _)
      ⟨by rw [← lx]; exact hz, hm, ps, kt.keeps fun c ys ec => by rw [upd_ne (ne_of_none ec hfr)]; exact ec, q', es, ep, hq1, hq2, hq3, hq4, hq5⟩, rfl, q _ hfr⟩
end
end Oo

set_option Elab.async false
set_option linter.all false
set_option maxRecDepth 100000
set_option maxHeartbeats 4000000
/-! {k: v for x in iter}: the new dict's keys are tuples. -/
namespace Oo
open PySem PySem.Spec PyProof.Rows L2
section
variable {X : Cx}
theorem dictSet_t {pins : List (Addr × Obj)} {σ : L2.St} {H : Hp} {s : Shared} {E : Value → Shared → Prop} {D b : Addr} {kvs : List (List Key × V)} {k : List Key} {v : V} {r : Value} {Q : Unit → Shared → Prop} (hu : X.A.units < cLine) (I : Inv X pins σ H s)
    (hD : H D = some (.dT kvs)) (hb : H b = some (.tup (k.map kV))) (hz : kvs.length < sizeLine) (rv : RelV v r) (h : ∀ s', Inv X pins σ (upd H D (.dT (putK kvs k v))) s' → Q () s') : wpAny (model X.prog X.w) X.A (dictSet D (.ref b) r) Q E s := by
  obtain ⟨_, hs, ps, kt, dd⟩ := dt_of I.hok hD
  have l1 : ps.length ≤ sizeLine := by rw [← Paired.length kt]; omega
  have l2 : (putK kvs k v).length ≤ sizeLine := by have := length_putK kvs k v; omega
  refine wpAny_dictSet_heap (hsz := l1) (show (tupleKind (mixKind X.prog X.w)).room X.A from hu) (key_of I.hok hb) dd fun h' ⟨o, es, ep, h1, h2, h3, h4, _, h6⟩ sb => h _ ?_
  refine d_write I (by rw [hD]; exact trivial) sb ⟨o, h1⟩ ⟨l2, hs, _, (kt.put k hb rv).keeps fun c ys ec => ?_, o, es, ep, h1, h2, h3, h4, h6⟩
  rw [upd_ne (ne_of ec hD (fun z => nomatch z))]
  exact ec
/-- what is asked of {k: v for g in wi}: D the new dict -/
def tDcT (wi : TI) (g : TG) (tk tv : TE) (vs : List Nat) : TE := fun σ H Q => wi σ H fun J H1 => ∀ D, H1 D = none → ∃ W : Nat → Nat → Hp → Prop, (∃ m, W 0 m (upd H1 D (.dT []))) ∧ ∀ i m H, W i m H →
  (J.stop i H ∧ Q (.ref D) H) ∨ (J.go i H ∧ ∃ Nx : Hp → Prop, (∀ H', Nx H' → ∃ m', m' < m ∧ W (i + 1) m' H') ∧ ∀ x H', J.yld i H x H' → g x (wipe σ vs) H' fun σ2 H2 => wipe σ2 vs = wipe σ vs ∧
    tk σ2 H2 fun y H4 => tv σ2 H4 fun z H5 => ∃ (kvs : List (List Key × V)) (k : List Key) (b : Addr), y = .ref b ∧ H5 b = some (.tup (k.map kV)) ∧ H5 D = some (.dT kvs) ∧ kvs.length < sizeLine ∧ Nx (upd H5 D (.dT (putK kvs k z))))
section
variable {kx vx tg iter : Expr} {scope : Scope} {own : List (Str × Nat)} {pos pos' : Pos} {wi : TI} {g : TG} {tk tv : TE} {fp : List Addr} {tn : Nat → Heap → Prop} {it D : Addr} {J : It}
/-- the iterator's own objects, seen from the block -/
theorem fp_block {s3 : Shared} {H3 : Hp} {ce : Env} {σ' : L2.St} {H' : Hp} {s' : Shared} (I' : Inv (X.blk s3 H3 scope ce fp) [] σ' H' s') (hn : ∀ b ∈ fp, H' b = none) : ∀ b ∈ fp, FpOk (X.blk s3 H3 scope ce fp) [] H' b := by
  intro b hb
  refine ⟨hn b hb, (I'.ok.exf b hb).1, I'.ok.exfs b hb, .inl hb, fun x c => (I'.ok.exf b hb).2 x c, fun p hp => ?_⟩
  have hp' : p ∈ ([] : List (Addr × Obj)) ++ [] := hp
  exact nomatch hp'
/-- the block's loop -/
theorem dcT_loop {ce : Env} {s3 s4 : Shared} {H3 : Hp} {pins : List (Addr × Obj)} {σ : L2.St} {Qf : Value → Shared → Prop} {Q : VK} {W : Nat → Nat → Hp → Prop} {m0 : Nat} (hc : X.calm = true) (hu : X.A.units < cLine)
    (I3 : Inv X pins σ H3 s3) (I4 : Inv (X.blk s3 H3 scope ce fp) [] (wipe σ (own.map (·.2))) H3 s4) (cL : ce.locals = s3.heap.objs.size)
    (pg : PG (X.blk s3 H3 scope ce fp) tg g) (pk : PE (X.blk s3 H3 scope ce fp) kx tk) (pv : PE (X.blk s3 H3 scope ce fp) vx tv) (T : Turn X.prog X.w X.K tg J fp it tn) (st4 : tn 0 s4.heap) (f3 : ∀ b ∈ fp, FpOk X pins H3 b) (w0 : W 0 m0 H3)
    (turn : ∀ i m H, W i m H → (J.stop i H ∧ Q (.ref D) H) ∨ (J.go i H ∧ ∃ Nx : Hp → Prop, (∀ H', Nx H' → ∃ m', m' < m ∧ W (i + 1) m' H') ∧ ∀ x H', J.yld i H x H' → g x (wipe σ (own.map (·.2))) H' fun σ2 H2 => wipe σ2 (own.map (·.2)) = wipe σ (own.map (·.2)) ∧
      tk σ2 H2 fun y H4 => tv σ2 H4 fun z H5 => ∃ (kvs : List (List Key × V)) (k : List Key) (b : Addr), y = .ref b ∧ H5 b = some (.tup (k.map kV)) ∧ H5 D = some (.dT kvs) ∧ kvs.length < sizeLine ∧ Nx (upd H5 D (.dT (putK kvs k z)))))
    (land : ∀ s' H', Inv X pins σ H' s' → Q (.ref D) H' → (∃ m, s'.heap.Ns s3.heap.objs.size m) → FpOk X pins H' s3.heap.objs.size → compPost (model X.prog X.w) X.A X.xe none Qf (.ref D) s3.heap.objs.size (.ok .next) s') :
    codeAny (model X.prog X.w) X.A (.compLoop (.DictComp kx vx [⟨tg, iter, [], 0⟩] scope pos) 0 (.ref it) (.ref D) ce) (compPost (model X.prog X.w) X.A X.xe none Qf (.ref D) s3.heap.objs.size) s4 := by
  refine compLoop_anyD (fun n s' => ∃ i H', W i n H' ∧ (∀ b ∈ fp, H' b = none) ∧ tn i s'.heap ∧ Inv (X.blk s3 H3 scope ce fp) [] (wipe σ (own.map (·.2))) H' s') ?_ m0 ⟨0, H3, w0, fun b hb => (f3 b hb).1, st4, I4⟩
  rintro n s5 ⟨i, H5, w5, n5, st5, I5⟩
  rcases turn i n H5 w5 with ⟨stop, qq⟩ | ⟨go, Nx, hNx, step⟩
  · refine thnF (T.done (X.blk s3 H3 scope ce fp) rfl rfl rfl hc i [] s5 _ H5 (fun _ _ => False) I5 (fp_block I5 n5) st5 stop) fun r s6 hr => ?_
    obtain ⟨rfl, I6⟩ := hr
    have I7 : Inv X pins σ H5 s6 := I3.call' (ch := fp) I6.os I6.base I6.hok I6.bare fun b hb => by
      obtain ⟨_, a1, a2, a3, a4, a5⟩ := f3 b hb
      exact ⟨a3, a1, a4, a5⟩
    have nC : H5 s3.heap.objs.size = none := cL ▸ I6.free
    refine land s6 H5 I7 qq ?_ (I3.fpOk (Nat.le_refl _) nC)
    obtain ⟨m, hn, _⟩ := I6.loc
    exact ⟨m, cL ▸ hn⟩
  · refine thnF (T.item (X.blk s3 H3 scope ce fp) rfl rfl rfl hc i [] s5 _ H5 (fun _ _ => False) I5 (fp_block I5 n5) st5 go) fun r s6 hr => ?_
    obtain ⟨u, rfl, h6⟩ := hr
    refine thnF h6 fun _ s7 h7 => ?_
    obtain ⟨x, H7, I7, r7, y7, st7, n7⟩ := h7
    have objs := T.obj _ _ st7
    refine thnF (pg.run _ s7 _ H7 x u _ (I7.pinned (fp_block I7 n7) objs) r7 (step x H7 y7)) fun _ s8 h8 => ?_
    obtain ⟨σ8, H8, I8, hw8, q8⟩ := h8
    show wpAny _ _ (pure true) _ _ _
    refine wpAny_pure ?_
    simp only [if_true]
    refine thnF (pk.run _ s8 σ8 H8 _ I8 q8) fun z s10 h10 => ?_
    obtain ⟨yk, H10, I10, r10, q10⟩ := h10
    refine thnF (pv.run _ s10 σ8 H10 _ I10 q10) fun z2 s11 h11 => ?_
    obtain ⟨yv, H11, I11, r11, kvs, k, b, rfl, hb, hD, hz, nx⟩ := h11
    obtain rfl : z = Value.ref b := r10
    refine dictSet_t (X := X.blk s3 H3 scope ce fp) hu I11 hD hb hz r11 fun s12 I12 => ?_
    obtain ⟨m', hm, w'⟩ := hNx _ nx
    have stays : ∀ c ∈ fp, ∀ o, s7.heap.get? c = some o → s12.heap.get? c = some o ∧ upd H11 D (.dT (putK kvs k yv)) c = none := fun c hc' o e => by
      have z := I12.pin (c, o) (List.mem_append_right _ (List.mem_append_right _ (mem_pinsAt hc' e)))
      exact ⟨z.1, z.2.1⟩
    refine ⟨m', hm, i + 1, _, w', fun c hc' => ?_, T.keep _ _ _ st7 fun c hc' o e => (stays c hc' o e).1, (I12.unpinned (pins := [])).weak (by rw [← hw8, wipe_length]) fun j v e => ?_⟩
    · obtain ⟨o, e, _⟩ := objs c hc'
      exact (stays c hc' o e).2
    · rw [← hw8] at e
      exact (wipe_some e).1
theorem pe_dcT (hc : X.calm = true) (hu : X.A.units < cLine) (hN : X.N.Nodup) (hi : PI X tg iter wi) (ok : BlkOk X.N X.env.scope scope own)
    (hg : ∀ (s : Shared) (H : Hp) (C : Addr) (cl : List (Str × Addr)) (fp : List Addr), PG (X.blk s H scope (compEnvC scope cl C X.env) fp) tg g)
    (hk : ∀ (s : Shared) (H : Hp) (C : Addr) (cl : List (Str × Addr)) (fp : List Addr), PE (X.blk s H scope (compEnvC scope cl C X.env) fp) kx tk)
    (he : ∀ (s : Shared) (H : Hp) (C : Addr) (cl : List (Str × Addr)) (fp : List Addr), PE (X.blk s H scope (compEnvC scope cl C X.env) fp) vx tv) (hs : ∀ x, foldedSetIterable iter X.env x = pure x := by intro _; rfl) :
    PE X (.DictComp kx vx [⟨tg, iter, [], 0⟩] scope pos) (tDcT wi g tk tv (own.map (·.2))) := by
  refine ⟨fun pins s σ H Q I h => ?_⟩
  rw [arm_eval_DictComp]
  have cells : ∀ y ∈ scope.names, y.2 = .free → ∃ c, X.env.cells.lookup y.1 = some c := fun y hy e => I.ok.has _ (ok.free y hy e)
  refine wpAny_comprehension_free (use := none) rfl hs (closure_ok cells) ok.kind (fun y hy e => by rw [ok.uniq y hy, e]) (thn (hi.run pins s σ H _ I h) fun xv s1 hx => thn hx fun itv s2 h2 => ?_)
  obtain ⟨it, fp, tn, J, H2, rfl, I2, T, st2, f2, q⟩ := h2
  refine wpAny_newObj_type (newEnv_comp ?_)
  have hDn : H2 s2.heap.objs.size = none := I2.hok.fresh (Nat.le_refl _)
  obtain ⟨W, ⟨m0, w0⟩, turn⟩ := q _ hDn
  have I3 : Inv X pins σ (upd H2 s2.heap.objs.size (.dT [])) { s2 with heap := s2.heap.push { cls := .type "dict", data := .dict #[] } } :=
    I2.laid (t' := s2.toks) (fun _ _ e => Heap.get?_push_of_some _ e) (Nat.le_refl _) (dt_empty s2.heap I2.big)
  have f3 : ∀ b ∈ fp, FpOk X pins (upd H2 s2.heap.objs.size (.dT [])) b ∧ b < (s2.heap.push { cls := .type "dict", data := .dict #[] }).objs.size := fun b hb => by
    obtain ⟨o, e, _⟩ := T.obj _ _ st2 b hb
    have lt := Heap.lt_size e
    rw [Heap.size_push]
    exact ⟨⟨by rw [upd_ne (Nat.ne_of_lt lt)]; exact (f2 b hb).1, (f2 b hb).2⟩, Nat.lt_succ_of_lt lt⟩
  have st3 : tn 0 (s2.heap.push { cls := .type "dict", data := .dict #[] }) := T.keep _ _ _ st2 fun b _ o e => Heap.get?_push_of_some _ e
  generalize hs3 : ({ s2 with heap := s2.heap.push { cls := .type "dict", data := .dict #[] } } : Shared) = s3 at I3
  have e3 : s2.heap.push { cls := .type "dict", data := .dict #[] } = s3.heap := by rw [← hs3]
  rw [e3] at f3 st3
  generalize hD : s2.heap.objs.size = D at *
  generalize hH3 : upd H2 D (.dT []) = H3 at *
  have I4 := block_start I3 ok hN f3
  have c1 := hg s3 H3 s3.heap.objs.size (cellsFrom (s3.heap.objs.size + 1) scope.names (cloFrom X.env.cells scope.names [])) fp
  have c2 := hk s3 H3 s3.heap.objs.size (cellsFrom (s3.heap.objs.size + 1) scope.names (cloFrom X.env.cells scope.names [])) fp
  have c3 := he s3 H3 s3.heap.objs.size (cellsFrom (s3.heap.objs.size + 1) scope.names (cloFrom X.env.cells scope.names [])) fp
  show codeAny _ _ (.compStart (.DictComp kx vx [⟨tg, iter, [], 0⟩] scope pos) 0 (.ref it) (.ref D) (compEnvC scope (cellsFrom (s3.heap.objs.size + 1) scope.names (cloFrom X.env.cells scope.names [])) s3.heap.objs.size X.env)) (compPost (model X.prog X.w) X.A X.xe none _ (.ref D) s3.heap.objs.size) { s3 with heap := pushCells (s3.heap.push { cls := .type "dict", data := .dict #[] }) scope.names }
  generalize hs4 : ({ s3 with heap := pushCells (s3.heap.push { cls := .type "dict", data := .dict #[] }) scope.names } : Shared) = s4 at I4 ⊢
  have st4 : tn 0 s4.heap := T.keep _ _ _ st3 fun b _ o e => by rw [← hs4]; exact pushCells_keeps _ _ _ _ (Heap.get?_push_of_some _ e)
  have loop := dcT_loop (iter := iter) (pos := pos) (own := own) (Qf := EP X pins σ Q) hc hu I3 I4 rfl c1 c2 c3 T st4 (fun b hb => (f3 b hb).1) w0 turn fun s' H' I' hq hm f => by
    obtain ⟨m, hm⟩ := hm
    obtain ⟨f0, f1, f2, f3, f4, f5⟩ := f
    exact ⟨m, hm, fun h'' sb => ⟨.ref D, H', I'.turned (t' := s'.toks) (fun b o hb e => (sb.2 b hb).trans e) f0 f1 f3 f4 f5, rfl, hq⟩⟩
  exact codeAny_compStart_dict loop (T.self X.A 0 _ _ _ st4 loop)
end
end
end Oo

set_option Elab.async false
set_option linter.all false
set_option maxRecDepth 100000
set_option maxHeartbeats 4000000
/-! t == (), a written dict's get, sorted of a dict of int-tuple keys. -/
namespace Oo
open PySem PySem.Spec PyProof.Rows L2
section
variable {X : Cx}
/-- t == () -/
def rEqNilT (K : PySem.W.Frag) : R2 := fun x y H Q => ∃ (a b : Addr) (xs : List V), x = .ref a ∧ y = .ref b ∧ SqT K H a xs ∧ SqT K H b [] ∧ xs ≠ [] ∧ Q (.bl false) H
theorem op_eqNilT (hu : X.A.units < cLine) : OpR X (compareOp .Eq) (rEqNilT X.K) := by
  rintro pins s σ H x y v u Q I rx ry ⟨a, b, xs, rfl, rfl, ha, hb, hne, q⟩
  obtain rfl : v = Value.ref a := rx
  obtain rfl : u = Value.ref b := ry
  obtain ⟨us, r1, t1, _⟩ := I.tuple ha
  obtain ⟨ws, r2, t2, _⟩ := I.tuple hb
  cases r2
  have l1 : us.length = xs.length := r1.length.symm
  have z := SeqAt.RcAt.tuples (A := X.A) (s := s) (e := fun _ => true) t1 t2 hu fun j h1 h2 => absurd h2 (by simp)
  have e : ((List.range (min us.toArray.size ([] : List Value).toArray.size)).all (fun _ => true) && us.toArray.size == ([] : List Value).toArray.size) = false := by
    have : us.length ≠ 0 := by
      rw [l1]
      intro h
      exact hne (List.eq_nil_of_length_eq_zero h)
    simp [this]
  rw [e] at z
  exact z X.prog X.w _ _ ⟨.bl false, H, I, rfl, q⟩
/-- d.get(k, x), d a written dict of text keys -/
def tGetW (K : PySem.W.Frag) (w : World) (td ty tx : TE) : TE := fun σ H Q => td σ H fun x H1 => ∃ (d : Addr) (es : Array DictEntry) (n : Nat), x = .ref d ∧ L2.KDict K w d es n ∧ ty σ H1 fun y H2 => tx σ H2 fun z H3 =>
  ∃ (k : Str) (r : Option Value), y = .str k ∧ PySem.W.nsIn K d k = some r ∧ ((∃ u v, r = some u ∧ RelV v u ∧ Q v H3) ∨ (r = none ∧ Q z H3))
theorem pe_getW {o e f : Expr} {td ty tx : TE} {apos cpos : Pos} (ho : PE X o td) (he : PE X e ty) (hf : PE X f tx) (m : M2 X o "get" apos e f cpos) : PE X (.Call (.Attribute o "get" apos) [e, f] [] cpos) (tGetW X.K X.w td ty tx) := by
  refine ⟨fun pins s σ H Q I h => ?_⟩
  refine wpAny_Call_method m.base m.few m.line PySem.F.plainAttrs_dict PySem.F.slot_dict_get PySem.F.type_dict_get (thn (ho.run pins s σ H _ I h) fun u s1 h1 => ?_)
  obtain ⟨x, H1, I1, rx, d, es, n, rfl, D, q1⟩ := h1
  obtain rfl : u = Value.ref d := rx
  refine ⟨kd_type D I1, fun b hb => ?_, ?_⟩
  · injection hb with hb
    subst hb
    exact ⟨_, I1.kIn _ _ D.at_, rfl⟩
  rw [m.trees]
  refine Calls.callWith_builtin rfl (Calls.evalArgs_plain (Calls.spliced_cons (thn (he.run pins s1 σ H1 _ I1 q1) fun iv s2 h2 =>
    Calls.spliced_cons (thn (hf.run pins s2 σ h2.choose_spec.choose _ h2.choose_spec.choose_spec.1 h2.choose_spec.choose_spec.2.2) fun fv s3 h3 => Calls.spliced_nil ?_))))
  have ry := h2.choose_spec.choose_spec.2.1
  obtain ⟨z, H3, I3, rz, k, r, ey, en, q3⟩ := h3
  rw [ey] at ry
  obtain ⟨t, rfl⟩ := ry
  have mp := PySem.W.mapOf_K (prog := X.prog) (w := X.w) I3.kIn D.at_ D.lit
  have fk := PySem.W.find_K D.at_ en
  refine call_meetsIn PySem.F.slot_dict_get (kd_type D I3) PySem.F.entry_dict_get (PySem.F.args_dict_get_3 _ _ _) (meets_dict_get_default (strKind X.prog X.w) d (strKind_is X.prog X.w k t) D.low fv) ⟨_, mp, ?_⟩
  rcases q3 with ⟨u0, v0, rfl, rv, q3⟩ | ⟨rfl, q3⟩
  · rw [fk]
    exact ⟨v0, H3, I3.tok _, rv, q3⟩
  · rw [fk]
    exact ⟨z, H3, I3.tok _, rz, q3⟩
/-- the key tuples of a dict -/
theorem keys_paths {P : Program} {w : World} {H : Hp} {K : PySem.W.Frag} {kvs : List (List Key × V)} {es : Array DictEntry} {ps : List (List Int)} (hk : kvs.map (·.1) = ps.map fun p => p.map Sum.inl)
    (ent : ∀ (i : Nat) (k : List Key) (v : V), kvs[i]? = some (k, v) → ∃ (en : DictEntry) (q : Addr), es[i]? = some en ∧ en.key = .ref q ∧ H q = some (.tup (k.map kV)) ∧ RelV v en.val) :
    ∀ {us : List Value}, us.length = ps.length → (∀ (j : Nat) (v : Value), us[j]? = some v → ∃ hi : j < es.size, v = es[j].key) → ∃ xs, Vals xs us ∧ PathsV K H xs ps := by
  have at_ : ∀ (j : Nat) (p : List Int), ps[j]? = some p → ∃ (v : V), kvs[j]? = some (p.map Sum.inl, v) := fun j p h => by
    have : (kvs.map (·.1))[j]? = some (p.map Sum.inl) := by rw [hk, List.getElem?_map, h]; rfl
    rw [List.getElem?_map] at this
    obtain ⟨⟨k, v⟩, h1, h2⟩ := Option.map_eq_some_iff.mp this
    simp only at h2
    exact ⟨v, by rw [h1, h2]⟩
  have gen : ∀ (qs : List (List Int)) (us : List Value) (b : Nat), us.length = qs.length → (∀ (j : Nat) p, qs[j]? = some p → ps[b + j]? = some p) → (∀ (j : Nat) (v : Value), us[j]? = some v → ∃ hi : b + j < es.size, v = es[b + j].key) → ∃ xs, Vals xs us ∧ PathsV K H xs qs := by
    intro qs
    induction qs with
    | nil =>
      intro us b hl _ _
      rw [List.length_nil] at hl
      rw [List.eq_nil_of_length_eq_zero hl]
      exact ⟨[], .nil, .nil⟩
    | cons p qs ih =>
      intro us b hl hp hu
      cases us with
      | nil => simp at hl
      | cons u us =>
        obtain ⟨xs, h1, h2⟩ := ih us (b + 1) (by simpa using hl) (fun j p' h => by rw [show b + 1 + j = b + (j + 1) by omega]; exact hp (j + 1) p' (by simpa using h)) (fun j v h => by
          obtain ⟨hi, e⟩ := hu (j + 1) v (by simpa using h)
          have e1 : b + 1 + j = b + (j + 1) := by omega
          exact ⟨by omega, by rw [e]; congr 1; simp only [e1]⟩)
        obtain ⟨v, hv⟩ := at_ (b + 0) p (hp 0 p rfl)
        obtain ⟨en, q, e1, e2, e3, _⟩ := ent _ _ _ hv
        obtain ⟨hi, e⟩ := hu 0 u rfl
        have e4 : es[b + 0] = en := by
          rw [Array.getElem?_eq_getElem hi] at e1
          exact Option.some.inj e1
        refine ⟨.ref q :: xs, .cons ?_ h1, .cons ⟨q, rfl, ?_⟩ h2⟩
        · show u = Value.ref q
          rw [e, e4, e2]
        · refine SqT.of ?_
          rw [e3, List.map_map]
          rfl
  intro us hl hu
  exact gen ps us 0 hl (fun j p h => by rw [Nat.zero_add]; exact h) (fun j v h => by
    obtain ⟨hi, e⟩ := hu j v h
    have e1 : 0 + j = j := Nat.zero_add j
    exact ⟨by omega, by rw [e]; congr 1; simp only [e1]⟩)
/-- sorted(d), d a dict whose keys are tuples of ints -/
def rSortDT (K : PySem.W.Frag) : List V → Hp → VK → Prop := fun vs H Q => ∃ (d : Addr) (kvs : List (List Key × V)) (ps : List (List Int)), vs = [V.ref d] ∧ H d = some (.dT kvs) ∧ kvs.map (·.1) = ps.map (fun p => p.map Sum.inl) ∧
  ∀ (ys : List V) (qs : List (List Int)) (p : Addr), PathsV K H ys qs → qs.Perm ps → H p = none → Q (.ref p) (upd H p (.lst ys))
theorem call_sortDT (hcalm : X.calm = true) (hu : X.A.units + 3 < cLine) : CallR X (.builtin "sorted") (rSortDT X.K) := by
  rintro pins s σ H xs us Q I r ⟨d, kvs, ps, rfl, hd, hks, q⟩
  rw [Vals.ref1 r]
  obtain ⟨zl, lo, prs, pr, o', es, ep, ho, hx, hdt, he, _⟩ := I.hok d _ hd
  have raw : s.heap.DictRaw d es ep := ⟨o', ho, hx, hdt⟩
  have l1 : es.size = prs.length := size_of_entries he
  have l2 : kvs.length = prs.length := Paired.length pr
  have l3 : kvs.length = ps.length := by simpa using congrArg List.length hks
  have ent : ∀ (i : Nat) (k : List Key) (v : V), kvs[i]? = some (k, v) → ∃ (en : DictEntry) (q : Addr), es[i]? = some en ∧ en.key = .ref q ∧ H q = some (.tup (k.map kV)) ∧ RelV v en.val := fun i k v e => by
    obtain ⟨b, hb, e1, e2, e3⟩ := paired_get pr e
    have q := entry_at he i
    rw [hb] at q
    exact ⟨_, b.2.1, q, rfl, e2, e3⟩
  refine Calls.call_function_entry PyProof.Rows.kind_sorted PyProof.Rows.plain_sorted PyProof.Rows.entry_sorted (PyProof.Rows.args_sorted1 _) ?_
  unfold Builtin.«sorted»
  refine wpAny_bind (m := checkCount "sorted" 1 1 _) (wpAny_pure ?_)
  refine wpAny_bind (PySem.W.kdu_collect (A := X.A.in1) (KdlSrc.rawDict (es := es) (ep := ep) lo) (I.ok.hd hcalm) raw (by omega) fun h' tk acc hk hacc => ?_)
  have hal : acc.toList.length = ps.length := by rw [Array.length_toList, hacc.1]; omega
  obtain ⟨xs, rv, hp⟩ := keys_paths (P := X.prog) (w := X.w) (K := X.K) hks ent hal (fun j v e => hacc.2 j v (by rw [← Array.getElem?_toList]; exact e))
  have I1 : Inv X pins σ H { s with heap := h', toks := tk } := I.kept hk
  obtain ⟨e1, e2⟩ := each_paths I1 rv hp
  refine wpAny_bind (wpAny_newList ?_ (by rw [hal]; omega))
  have hoL : (h'.push (seqObj "list" acc.toList.toArray 0)).get? h'.objs.size = some (seqObj "list" acc.toList.toArray 0) := Heap.get?_push_size _ rfl
  show wpAny _ _ _ _ _ { s with heap := h'.push (seqObj "list" acc.toList.toArray 0), toks := tk }
  have old : ∀ b o, h'.get? b = some o → (PySem.W.sortingHeap (h'.push (seqObj "list" acc.toList.toArray 0)) h'.objs.size acc.toList).get? b = some o := fun b o e =>
    PySem.W.sortingHeap_old (Nat.ne_of_lt (Heap.lt_size e)) (Heap.get?_push_of_some _ e)
  have er' : PySem.W.EachIs (RdP (PySem.W.sortingHeap (h'.push (seqObj "list" acc.toList.toArray 0)) h'.objs.size acc.toList)) acc.toList ps := e1.mono fun _ _ ⟨as, r⟩ => ⟨as, PyProof.Rows.Reads.keeps old r⟩
  refine wpAny_bind (wpAny_holding (wpAny_call_entry PyProof.Rows.slot_list_sort ⟨_, hoL, rfl⟩ PyProof.Rows.entry_list_sort
    (PySem.W.list_sort_vals (s := { s with heap := h'.push (seqObj "list" acc.toList.toArray 0), toks := tk }) hoL (sortsAt_paths (s := { s with heap := PySem.W.sortingHeap (h'.push (seqObj "list" acc.toList.toArray 0)) h'.objs.size acc.toList, toks := tk }) er' (by show X.A.units + 2 + 1 < cLine; omega)) (by rw [hal]; omega) ⟨_, rfl, ?_⟩)
    (PyProof.Rows.args_list_sort _)))
  have out := PySem.W.sortVals_data (h' := PySem.W.sortingHeap (h'.push (seqObj "list" acc.toList.toArray 0)) h'.objs.size acc.toList) false e2 er' (PySem.W.AllAlike.of pD_alike)
  rw [dataLe_paths] at out
  obtain ⟨ys, rv2, hp2⟩ := back_paths out
  have hpm := List.mergeSort_perm ps (fun p q : List Int => decide (p ≤ q))
  generalize hgen : PySem.W.sortVals _ false acc.toList acc.toList = outv at rv2 hp2 ⊢
  obtain ⟨e', he'⟩ := PyProof.Rows.sortedHeap_at (vs := acc.toList) (out := outv.toArray) hoL
  have hlen : ys.length ≤ sizeLine := by
    rw [Paired.length hp2, hpm.length_eq]; omega
  refine wpAny_pure ⟨_, rfl, .ref h'.objs.size, upd H h'.objs.size (.lst ys), I1.laid (t' := tk) (fun b u e => ?_) (Nat.le_refl _)
    (show ObjOk X.prog X.w _ _ _ (.lst ys) from ⟨hlen, outv, e', rv2, he'⟩), rfl, q ys _ _ hp2 hpm (I1.hok.fresh (Nat.le_refl _))⟩
  have hb : b < h'.objs.size := Heap.lt_size e
  rw [PyProof.Rows.sortedHeap_old (Nat.ne_of_lt hb) (by rw [size_push']; exact Nat.lt_succ_of_lt hb)]
  exact Heap.get?_push_of_some _ e
end
end Oo

set_option Elab.async false
set_option linter.all false
set_option maxRecDepth 100000
set_option maxHeartbeats 4000000
/-! The text by places, the facts of the top that the walks need. -/
namespace Oo
open PySem PySem.Spec PyProof.Rows L2
def top (i : Nat) : Stmt := PySem.Challenge.pw_ordersopen_k16_whole_what_precedes.main.body.getD i (.Pass ⟨0, 0, 0, 0⟩)
/-- a def of the module -/
abbrev dF (x : Str) (i : Nat) : He.DefD := ⟨(x, none), x, x, defArgs (top i), defBody (top i), defScope (top i), [], []⟩
/-- a def of a class -/
abbrev dM (C m q : Str) (i j : Nat) (dfl : List He.Dv := []) : He.DefD := ⟨(C, some m), m, q, defArgs (inClass (top i) j), defBody (inClass (top i) j), defScope (inClass (top i) j), dfl, []⟩
def fn : List He.DefD := [dF "is_integer" 16, dF "is_name" 17, dF "are_places" 18, dM "Function" "__init__" "Function.__init__" 19 0 [.int 0], dM "Book" "__init__" "Book.__init__" 20 1, dM "Book" "__getitem__" "Book.__getitem__" 20 3, dM "Book" "__contains__" "Book.__contains__" 20 5,
  dF "operands" 24, dF "is_open" 25, dF "own_steps" 33, dF "steps_in" 34, dF "share" 35, dM "Plan" "__init__" "Plan.__init__" 36 0, dM "Plan" "relate" "Plan.relate" 36 1, dF "steps" 37, dF "precedes" 38, dF "races" 39,
  dF "is_formed" 45, dF "first_wrong" 46, dF "spots_in" 47, dF "own_steps_of" 48, dF "is_path" 49,
  dM "Task" "__init__" "Task.__init__" 50 2, dM "Task" "are_points" "Task.are_points" 50 3, dM "Task" "has" "Task.has" 50 4, dM "Task" "open_nodes" "Task.open_nodes" 50 7, dM "Task" "with_points" "Task.with_points" 50 9, dM "Task" "__len__" "Task.__len__" 50 11,
  dF "_law_bag" 52, dF "_law_take" 53, dF "_law_of" 54, dF "_law_some" 55, dF "_law_kit" 56, dF "_law_book" 57, dF "_law_leaf" 58, dF "_law_guard" 59, dF "_law_expr" 60, dF "_law_root" 61, dF "_law_operands" 62, dF "_law_nodes" 63, dF "_law_open" 64, dF "_law_points" 65, dF "_law_told" 66, dF "_law_right" 67, dF "law" 68]
def glo1 : List Str := ["is_integer", "is_name", "are_places", "Function", "Book", "SIGNS", "operands", "is_open", "EXCLUDED", "own_steps", "steps_in", "share", "Plan", "steps", "precedes", "races", "MOMENTS", "SIZES", "OWN_STEPS", "is_formed", "first_wrong", "spots_in", "own_steps_of", "is_path", "Task"]
def glo2 : List Str := ["_law_bag", "_law_take", "_law_of", "_law_some", "_law_kit", "_law_book", "_law_leaf", "_law_guard", "_law_expr", "_law_root", "_law_operands", "_law_nodes", "_law_open", "_law_points", "_law_told", "_law_right", "law"]
def gloL : List Str := glo1 ++ glo2
def freeL : List Str := ["isinstance", "len", "all", "any", "zip", "enumerate", "sorted", "int", "str", "bool", "tuple", "list", "dict", "range", "min", "max", "abs"]
def clsL : List Str := ["Function", "Book", "Plan", "Task"]
def methL : List (Str × Str) := [("Book", "__getitem__"), ("Book", "__contains__"), ("Plan", "relate"), ("Task", "are_points"), ("Task", "has"), ("Task", "open_nodes"), ("Task", "with_points"), ("Task", "__len__")]
def noatL : List (Str × Str) := [("Function", "name"), ("Function", "arguments"), ("Function", "reads"), ("Function", "stores"), ("Book", "table"), ("Plan", "task"), ("Plan", "rows"), ("Plan", "ahead"), ("Plan", "opened"), ("Plan", "own"), ("Plan", "racing"),
  ("Task", "book"), ("Task", "expression"), ("Task", "table"), ("Task", "points"), ("Task", "owners")]
def intL : List (Str × Int) := [("MOST_LETTERS", 8), ("MOST_ARGUMENTS", 3), ("MOST_PLACES", 4), ("MOST_NUMBER", 999999)]
def strL : List (Str × Str) := [("LETTERS", "abcdefghijklmnopqrstuvwxyz"), ("READ", "read"), ("STORE", "store"), ("CALL", "call")]
def fa : List He.Fa := gloL.map He.Fa.glo ++ (freeL.map He.Fa.free ++ (clsL.map He.Fa.cls ++ (clsL.map He.Fa.mkr ++ (methL.map (fun p => He.Fa.meth p.1 p.2) ++ (noatL.map (fun p => He.Fa.noat p.1 p.2) ++ (intL.map (fun p => He.Fa.int p.1 p.2) ++ strL.map (fun p => He.Fa.str p.1 p.2)))))))
def ts : List He.Tab := [(fun K => He.ga K "SIZES", ["read", "store", "step", "op", "call", "then", "and", "or", "choose"]), (fun K => He.ga K "OWN_STEPS", ["read", "store", "step", "call"])]
/-- a written dict's number at a text -/
def numAt (K : PySem.W.Frag) (d x : Str) (n : Int) : Bool := match PySem.W.nsIn K (He.ga K d) x with
  | some (some (.int j _)) => decide (j = n)
  | _ => false
def noAt (K : PySem.W.Frag) (d x : Str) : Bool := match PySem.W.nsIn K (He.ga K d) x with
  | some none => true
  | _ => false
def sizesL : List (Str × Int) := [("read", 1), ("store", 2), ("step", 3), ("op", 3), ("call", 2), ("then", 2), ("and", 2), ("or", 2), ("choose", 3)]
def ownL : List (Str × Int) := [("read", 1), ("store", 1), ("step", 2), ("call", 1)]
def ownNo : List Str := ["op", "then", "and", "or", "choose"]
/-- EXCLUDED: two pairs -/
def exclB (K : PySem.W.Frag) : Bool := match K.lookup (He.ga K "EXCLUDED") with
  | some ⟨.type c, _, .seq its _, _⟩ => decide (c = "tuple") && (match its.toList with
    | [.ref a, .ref b] => pairB K a 1 2 && pairB K b 2 1
    | _ => false)
  | _ => false
where pairB (K : PySem.W.Frag) (a : Addr) (m n : Int) : Bool := match K.lookup a with
  | some ⟨.type c, _, .seq its _, _⟩ => decide (c = "tuple") && (match its.toList with
    | [.int i _, .int j _] => decide (i = m) && decide (j = n)
    | _ => false)
  | _ => false
/-- a class's constant number -/
def cnum (K : PySem.W.Frag) (C f : Str) (n : Int) : Bool := match PySem.W.findCls K (.ref (He.ga K C)) (.type "type") f with
  | some (.val (.int j _)) => decide (j = n)
  | _ => false
def eqV2 (a b : Option (Option Value)) : Bool := decide (a = b)
def readB (K : PySem.W.Frag) (C : Str) : Bool := PySem.W.readsIn K (He.ga K C) (.type "type") && eqV2 (PySem.W.specialIn K (.ref (He.ga K C)) "__getattribute__") (some (some (.builtin "type.__getattribute__")))
def insB (K : PySem.W.Frag) (C : Str) : Bool := eqV2 (PySem.W.findIn K (.ref (He.ga K C)) "__class__") (some (some (.builtin "object.__class__"))) && (eqV2 (PySem.W.specialIn K (.builtin "object.__class__") "__get__") (some (some (.builtin "getset_descriptor.__get__"))) &&
  (decide (PySem.W.takesIn K (.builtin "object.__class__") = some true) && (decide (PySem.W.mroIn K (He.ga K C) (.type "object") = some true) && decide (PySem.W.kitOne K (.ref (He.ga K C)) (.ref (He.ga K C)) = some true))))
def exL : List (PySem.W.Frag → Bool) := [fun K => He.tupB K "SIGNS" [.str "+", .str "-", .str "*", .str "<"], fun K => He.tupB K "MOMENTS" [.str "before", .str "after"], fun K => sizesL.all fun p => numAt K "SIZES" p.1 p.2, fun K => ownL.all fun p => numAt K "OWN_STEPS" p.1 p.2, fun K => ownNo.all fun x => noAt K "OWN_STEPS" x,
  exclB, fun K => cnum K "Book" "MOST" 6, fun K => cnum K "Task" "MOST_NODES" 200, fun K => cnum K "Task" "MOST_DEPTH" 30, fun K => readB K "Book", fun K => readB K "Task", fun K => insB K "Function",
  fun K => methL.all fun p => PySem.W.fnIn K (He.ma K (He.ga K p.1) p.2)]
def ex (K : PySem.W.Frag) : Bool := exL.all fun f => f K
/-- what the walks know of the top -/
structure Txt (K : PySem.W.Frag) (w : World) (mg : Str → Option Value) : Prop where
  fact : ∀ f ∈ fa, f.ok K = true
  dfs : ∀ d ∈ fn, ∃ fd, FunD K d.name d.qual d.params d.body d.scope (d.dvs K) (d.kws K) (He.fAd K d.at_) fd
  tabs : ∀ t ∈ ts, ∃ es n, L2.KDict K w (t.1 K) es n
  exs : ∀ f ∈ exL, f K = true
  glo : ∀ x ∈ gloL, mg x = some (.ref (He.ga K x))
  free : ∀ x ∈ freeL, mg x = none
  intF : ∀ p ∈ intL, ∃ t, mg p.1 = some (.int p.2 t)
  strF : ∀ p ∈ strL, ∃ t, mg p.1 = some (.str p.2 t)
end Oo

set_option Elab.async false
set_option linter.all false
set_option maxRecDepth 100000
set_option maxHeartbeats 0
namespace Oo
open PySem PySem.Spec PyProof.Rows L2
abbrev R : PySem.W.OpenRow := PySem.W.OpenLaw.row PySem.Challenge.rw_ordersopen_k16_whole_what_precedes
def loose0 : List PySem.Str := ["_wall", "__name__", "NoName", "BadFunction", "NoExpression", "BadBook", "NoPoints", "NoFunction", "NoStep", "NoNode", "TooMany", "LETTERS", "MOST_LETTERS", "MOST_ARGUMENTS", "MOST_PLACES", "is_integer", "is_name", "are_places", "Function", "Book", "SIGNS", "JOINTS", "operands", "is_open", "step_text", "written", "READ", "STORE", "CALL", "EXCLUDED"]
def loose1 : List PySem.Str := ["own_steps", "steps_in", "share", "Plan", "steps", "precedes", "races", "MOST_NUMBER", "MOMENTS", "SIZES", "OWN_STEPS", "is_formed", "first_wrong", "spots_in", "own_steps_of", "is_path", "Task", "_law_bag", "_law_take", "_law_of", "_law_some", "_law_kit", "_law_book", "_law_leaf", "_law_guard", "_law_expr", "_law_root", "_law_operands", "_law_nodes", "_law_open"]
def loose2 : List PySem.Str := ["_law_points", "_law_told", "_law_right"]
def loose : List PySem.Str := loose0 ++ loose1 ++ loose2
/-- the part of the heap that is looked at, by its places behind the top: what the facts ask for and no more -/
def as0 : List Addr := [2, 3, 208, 213, 218, 253, 322, 327, 335, 342, 357, 364, 371, 376, 398, 409, 416, 423, 424, 425, 426, 433, 440, 447, 454, 459, 556, 567, 574, 581, 586, 593, 598, 605, 612, 617]
def as1 : List Addr := [624, 631, 638, 643, 648, 653, 658, 663, 207, 212, 217, 252, 321, 334, 341, 355, 356, 363, 370, 375, 397, 408, 415, 422, 432, 439, 446, 453, 458, 555, 566, 573, 580, 585, 592, 597]
def as2 : List Addr := [604, 611, 616, 623, 630, 637, 642, 647, 652, 657, 662, 236, 269, 284, 298, 388, 395, 473, 478, 485, 504, 518, 532, 235, 228, 268, 283, 297, 387, 394, 472, 477, 484, 503, 517, 531]
def asC : List Addr := as0 ++ as1 ++ as2
def obC (g : Addr → Option Obj) : He.AlT × Bool := (He.obsT fa fn ts (He.frG g asC), ex (He.frG g asC))
def hk : PySem.W.Hook where
  α := He.AlT × Bool
  obs := fun s => obC s.heap.get?
  val := fun w => (He.valT fn ts w, true)
  says := fun w h => ∃ K : PySem.W.Frag, K.In h ∧ He.SaysT fa fn ts w K ∧ ex K = true
  of := fun _ _ e => ⟨_, He.frG_in, congrArg (fun z : He.AlT × Bool => z.1) e, congrArg (fun z : He.AlT × Bool => z.2) e⟩
  keeps := fun _ _ _ ⟨K, hK, c⟩ k => ⟨K, PySem.W.Frag.In.keeps hK k, c⟩
def ob (s : PySem.W.SharedT) : He.AlT × Bool := obC (HandSHeadRun.getT s)
theorem ob_eq (s : PySem.W.SharedT) : ob s = hk.obs s.abs := by
  have e : HandSHeadRun.getT s = s.abs.heap.get? := funext (HandSHeadRun.getT_eq s)
  show obC _ = obC _
  rw [e]
theorem runF (w : World) : HandSHeadRun.RunEq R (PySem.W.view R.prog [68]) hk ob 8000 loose (w.withFollow "special-get-raises" false) := by
  intro os
  kernel_rfl
theorem runT (w : World) : HandSHeadRun.RunEq R (PySem.W.view R.prog [68]) hk ob 8000 loose (w.withFollow "special-get-raises" true) := by
  intro os
  kernel_rfl
theorem run (w : World) : HandSHeadRun.RunEq R (PySem.W.view R.prog [68]) hk ob 8000 loose w := PySem.W.byRow2 "special-get-raises" runF runT w
end Oo

set_option Elab.async false
set_option linter.all false
set_option maxRecDepth 100000
set_option maxHeartbeats 4000000
/-! How the heap changes; what stands in it. -/
namespace Oo
open PySem PySem.Spec PyProof.Rows L2
/-- all is kept; a list in S may be another list -/
def Kp (S : Addr → Prop) (H H' : Hp) : Prop := ∀ a o, H a = some o → H' a = some o ∨ (S a ∧ (∃ xs, o = .lst xs) ∧ ∃ ys, H' a = some (.lst ys))
abbrev One (b : Addr) : Addr → Prop := fun a => a = b
abbrev Two (b l : Addr) : Addr → Prop := fun a => a = b ∨ a = l
abbrev Nix : Addr → Prop := fun _ => False
section
variable {S S' : Addr → Prop} {H H1 H2 H' : Hp} {p a : Addr} {o : HO} {xs ys : List V} {K : PySem.W.Frag}
theorem Kp.rfl (S : Addr → Prop) (H : Hp) : Kp S H H := fun _ _ h => .inl h
theorem Kp.trans (x : Kp S H H1) (y : Kp S H1 H2) : Kp S H H2 := fun a o h => by
  rcases x a o h with h1 | ⟨s, hx, zs, h1⟩
  · exact y a o h1
  · rcases y a _ h1 with h2 | ⟨_, _, h2⟩
    · exact .inr ⟨s, hx, zs, h2⟩
    · exact .inr ⟨s, hx, h2⟩
theorem Kp.mono (x : Kp S H H1) (h : ∀ a, S a → S' a) : Kp S' H H1 := fun a o e => (x a o e).imp (fun z => z) fun ⟨s, r⟩ => ⟨h a s, r⟩
theorem Kp.of (x : Same H H1) : Kp S H H1 := fun a o h => .inl (x a o h)
theorem Kp.same (x : Kp Nix H H1) : Same H H1 := fun a o h => (x a o h).elim (fun z => z) fun z => z.1.elim
theorem Kp.free (x : Kp S H H1) (h : H1 p = none) : H p = none := by
  cases e : H p with
  | none => rfl
  | some o =>
    rcases x p o e with z | ⟨_, _, ys, z⟩
    · rw [h] at z; cases z
    · rw [h] at z; cases z
theorem Kp.new (x : Kp S H H1) (h : H1 p = none) : Kp S H (upd H1 p o) := x.trans fun a u e => .inl (by rw [upd_ne (ne_of_none e h)]; exact e)
theorem Kp.set (x : Kp S H H1) (s : S p) (h : H1 p = some (.lst xs)) : Kp S H (upd H1 p (.lst ys)) := x.trans fun a u e => by
  by_cases q : a = p
  · subst q
    rw [h] at e
    exact .inr ⟨s, ⟨xs, (Option.some.inj e).symm⟩, ys, upd_same⟩
  · exact .inl (by rw [upd_ne q]; exact e)
theorem Kp.at (x : Kp S H H1) (h : H a = some o) (s : ¬ S a) : H1 a = some o := (x a o h).elim (fun z => z) fun z => absurd z.1 s
/-- what is no list stays -/
theorem Kp.fix (x : Kp S H H1) (h : H a = some o) (s : ∀ xs, o ≠ .lst xs) : H1 a = some o := (x a o h).elim (fun z => z) fun ⟨_, ⟨ys, e⟩, _⟩ => absurd e (s ys)
theorem Kp.tup (x : Kp S H H1) (h : H a = some (.tup xs)) : H1 a = some (.tup xs) := x.fix h fun _ z => nomatch z
theorem Kp.ins {C dx : Addr} {fs : List (Str × V)} (x : Kp S H H1) (h : H a = some (.ins C dx fs)) : H1 a = some (.ins C dx fs) := x.fix h fun _ z => nomatch z
theorem Kp.dK {kvs : List (Key × V)} (x : Kp S H H1) (h : H a = some (.dK kvs)) : H1 a = some (.dK kvs) := x.fix h fun _ z => nomatch z
theorem Kp.dT {kvs : List (List Key × V)} (x : Kp S H H1) (h : H a = some (.dT kvs)) : H1 a = some (.dT kvs) := x.fix h fun _ z => nomatch z
theorem Kp.sqt (x : Kp S H H1) (h : SqT K H a xs) : SqT K H1 a xs := by
  rcases h with (h | ⟨u, h⟩) | h
  · exact .inl (.inl (x.tup h))
  · exact .inl (.inr ⟨u, x.fix h fun _ z => nomatch z⟩)
  · exact .inr h
theorem Kp.sql (x : Kp S H H1) (h : SqL K H a xs) (s : ¬ S a) : SqL K H1 a xs := by
  rcases h with (h | ⟨u, h⟩) | h
  · exact .inl (.inl (x.at h s))
  · exact .inl (.inr ⟨u, x.at h s⟩)
  · exact .inr h
theorem Kp.sub (x : Kp S H H1) (h : ∀ a, S a → S' a ∨ H a = none) : Kp S' H H1 := fun a o e => (x a o e).imp (fun z => z) fun ⟨s, r⟩ => by
  rcases h a s with z | z
  · exact ⟨z, r⟩
  · rw [e] at z; cases z
theorem same_new (h : H p = none) : Same H (upd H p o) := fun b u q => by rw [upd_ne (ne_of_none q h)]; exact q
theorem _root_.L2.Same.nw (x : Same H H1) (h : H1 p = none) : Same H (upd H1 p o) := x.trans (same_new h)
theorem _root_.L2.Same.sqt (x : Same H H1) (h : SqT K H a xs) : SqT K H1 a xs := (Kp.of (S := Nix) x).sqt h
/-- a new object that a changed heap still has -/
theorem _root_.L2.Same.two (h1 : Same H H1) (h2 : Same H1 H2) : Same H H2 := h1.trans h2
end
/-! ### expressions in the heap -/
def kHead : Kd → List V
  | .read p => [.str "read", .str p]
  | .store p => [.str "store", .str p]
  | .step p b m => [.str "step", .str p, .int b, .str m]
  | .op s => [.str "op", .str s]
  | .call f => [.str "call", .str f]
  | .thn => [.str "then"]
  | .wand => [.str "and"]
  | .wor => [.str "or"]
  | .cho => [.str "choose"]
def NodeAt (H : Hp) (a : Addr) (k : Kd) (vs : List V) : Prop := match k with
  | .call f => ∃ b, H a = some (.tup [.str "call", .str f, .ref b]) ∧ H b = some (.tup vs)
  | k => H a = some (.tup (kHead k ++ vs))
mutual
def TreeAt (H : Hp) : V → Ex → Prop
  | v, .num n => v = .int n
  | v, .nd k es => ∃ a vs, v = .ref a ∧ NodeAt H a k vs ∧ TreesAt H vs es
def TreesAt (H : Hp) : List V → List Ex → Prop
  | vs, [] => vs = []
  | vs, e :: es => ∃ v r, vs = v :: r ∧ TreeAt H v e ∧ TreesAt H r es
end
def TupK (H H' : Hp) : Prop := ∀ a xs, H a = some (.tup xs) → H' a = some (.tup xs)
theorem Kp.tk {S : Addr → Prop} {H H' : Hp} (x : Kp S H H') : TupK H H' := fun _ _ h => x.tup h
theorem _root_.L2.Same.tk {H H' : Hp} (x : Same H H') : TupK H H' := fun a _ h => x a _ h
theorem TupK.trans {H H1 H2 : Hp} (x : TupK H H1) (y : TupK H1 H2) : TupK H H2 := fun a xs h => y a xs (x a xs h)
theorem TupK.new {H H1 : Hp} {p : Addr} {o : HO} (x : TupK H H1) (h : H1 p = none) : TupK H (upd H1 p o) := x.trans (L2.Same.tk (same_new h))
theorem TupK.set {H H1 : Hp} {p : Addr} {o u : HO} (x : TupK H H1) (h : H1 p = some u) (n : ∀ xs, u ≠ .tup xs) : TupK H (upd H1 p o) := fun a xs e => by
  have e1 := x a xs e
  rw [upd_ne (ne_of e1 h (fun z => n xs z.symm))]
  exact e1
theorem NodeAt.keep {H H' : Hp} {a : Addr} {k : Kd} {vs : List V} (t : TupK H H') (h : NodeAt H a k vs) : NodeAt H' a k vs := by
  cases k <;> first | exact t _ _ h | exact (let ⟨b, h1, h2⟩ := h; ⟨b, t _ _ h1, t _ _ h2⟩)
mutual
theorem TreeAt.keep {H H' : Hp} (t : TupK H H') : ∀ {e : Ex} {v : V}, TreeAt H v e → TreeAt H' v e
  | .num n, v, h => by rw [TreeAt] at h ⊢; exact h
  | .nd k es, v, h => by
    rw [TreeAt] at h ⊢
    obtain ⟨a, vs, e, h1, h2⟩ := h
    exact ⟨a, vs, e, h1.keep t, TreesAt.keep t h2⟩
theorem TreesAt.keep {H H' : Hp} (t : TupK H H') : ∀ {es : List Ex} {vs : List V}, TreesAt H vs es → TreesAt H' vs es
  | [], vs, h => by rw [TreesAt] at h ⊢; exact h
  | e :: es, vs, h => by
    rw [TreesAt] at h ⊢
    obtain ⟨v, r, e1, h1, h2⟩ := h
    exact ⟨v, r, e1, TreeAt.keep t h1, TreesAt.keep t h2⟩
end
theorem trees_len {H : Hp} : ∀ {es : List Ex} {vs : List V}, TreesAt H vs es → vs.length = es.length
  | [], vs, h => by rw [TreesAt] at h; rw [h]; rfl
  | e :: es, vs, h => by
    rw [TreesAt] at h
    obtain ⟨v, r, rfl, _, h2⟩ := h
    rw [List.length_cons, List.length_cons, trees_len h2]
theorem trees_get {H : Hp} : ∀ {es : List Ex} {vs : List V} {i : Nat} {v : V}, TreesAt H vs es → vs[i]? = some v → ∃ e, es[i]? = some e ∧ TreeAt H v e
  | [], vs, i, v, h, q => by rw [TreesAt] at h; rw [h] at q; simp at q
  | e :: es, vs, i, v, h, q => by
    rw [TreesAt] at h
    obtain ⟨x, r, rfl, h1, h2⟩ := h
    cases i with
    | zero =>
      have : x = v := by simpa using q
      subst this
      exact ⟨e, rfl, h1⟩
    | succ i => exact trees_get (i := i) h2 (by simpa using q)
theorem trees_snoc {H : Hp} {e : Ex} {v : V} (he : TreeAt H v e) : ∀ {es : List Ex} {vs : List V}, TreesAt H vs es → TreesAt H (vs ++ [v]) (es ++ [e])
  | [], vs, h => by
    rw [TreesAt] at h
    rw [h, List.nil_append, List.nil_append, TreesAt]
    exact ⟨v, [], rfl, he, by rw [TreesAt]⟩
  | x :: es, vs, h => by
    rw [TreesAt] at h
    obtain ⟨y, r, rfl, h1, h2⟩ := h
    rw [List.cons_append, List.cons_append, TreesAt]
    exact ⟨y, r ++ [v], rfl, h1, trees_snoc he h2⟩
theorem trees1 {H : Hp} {e : Ex} {v : V} (h : TreeAt H v e) : TreesAt H [v] [e] := by rw [TreesAt]; exact ⟨v, [], rfl, h, by rw [TreesAt]⟩
theorem trees2 {H : Hp} {e f : Ex} {v u : V} (h : TreeAt H v e) (g : TreeAt H u f) : TreesAt H [v, u] [e, f] := by rw [TreesAt]; exact ⟨v, [u], rfl, h, trees1 g⟩
theorem trees3 {H : Hp} {e f d : Ex} {v u t : V} (h : TreeAt H v e) (g : TreeAt H u f) (k : TreeAt H t d) : TreesAt H [v, u, t] [e, f, d] := by rw [TreesAt]; exact ⟨v, [u, t], rfl, h, trees2 g k⟩
/-! ### paths, rows -/
def PathAt (H : Hp) (v : V) (p : Path) : Prop := ∃ a, v = .ref a ∧ H a = some (.tup (p.map V.int))
theorem PathAt.keep {H H' : Hp} {v : V} {p : Path} (t : TupK H H') (h : PathAt H v p) : PathAt H' v p := let ⟨a, e, h1⟩ := h; ⟨a, e, t _ _ h1⟩
theorem PathAt.path {K : PySem.W.Frag} {H : Hp} {v : V} {p : Path} (h : PathAt H v p) : PathV K H v p := let ⟨a, e, h1⟩ := h; ⟨a, e, SqT.of h1⟩
theorem PathAt.key {H : Hp} {a : Addr} {p : Path} (h : H a = some (.tup (p.map V.int))) : H a = some (.tup ((p.map Sum.inl : List Key).map kV)) := by
  rw [h, List.map_map]; rfl
theorem key_path {H : Hp} {a : Addr} {p : Path} (h : H a = some (.tup ((p.map Sum.inl : List Key).map kV))) : H a = some (.tup (p.map V.int)) := by
  rw [h, List.map_map]; rfl
abbrev PathsAt (H : Hp) : List V → List Path → Prop := Paired (PathAt H)
theorem PathsAt.keep {H H' : Hp} {vs : List V} {ps : List Path} (t : TupK H H') (h : PathsAt H vs ps) : PathsAt H' vs ps := Paired.mapP h fun _ _ z => z.keep t
theorem PathsAt.paths {K : PySem.W.Frag} {H : Hp} {vs : List V} {ps : List Path} (h : PathsAt H vs ps) : PathsV K H vs ps := Paired.mapP h fun _ _ z => z.path
def RowAt (H : Hp) (v : V) (p : Path) : Prop := ∃ (a q r s : Addr) (k : Str) (rs ss : List Str), v = .ref a ∧ H a = some (.tup [.str k, .ref q, .ref r, .ref s]) ∧ H q = some (.tup (p.map V.int)) ∧ H r = some (.tup (rs.map V.str)) ∧ H s = some (.tup (ss.map V.str)) ∧ rs.length ≤ 4 ∧ ss.length ≤ 4
theorem RowAt.keep {H H' : Hp} {v : V} {p : Path} (t : TupK H H') (h : RowAt H v p) : RowAt H' v p :=
  let ⟨a, q, r, s, k, rs, ss, e, h1, h2, h3, h4, h5⟩ := h; ⟨a, q, r, s, k, rs, ss, e, t _ _ h1, t _ _ h2, t _ _ h3, t _ _ h4, h5⟩
abbrev RowsAt (H : Hp) : List V → List Path → Prop := Paired (RowAt H)
theorem RowsAt.keep {H H' : Hp} {vs : List V} {ps : List Path} (t : TupK H H') (h : RowsAt H vs ps) : RowsAt H' vs ps := Paired.mapP h fun _ _ z => z.keep t
theorem Paired.app {α β : Type} {F : α → β → Prop} : ∀ {a c : List α} {b d : List β}, Paired F a b → Paired F c d → Paired F (a ++ c) (b ++ d)
  | _, _, _, _, .nil, h => h
  | _, _, _, _, .cons r t, h => .cons r (Paired.app t h)
/-! ### functions, books, tasks -/
structure Fd where
  nm : Str
  n : Nat
  rs : List Str
  ss : List Str
  hr : rs.length ≤ 4
  hs : ss.length ≤ 4
def fnFs (f : Fd) (ra sa : Addr) : List (Str × V) := [("name", .str f.nm), ("arguments", .int f.n), ("reads", .ref ra), ("stores", .ref sa)]
def FnAt (K : PySem.W.Frag) (H : Hp) (v : V) (f : Fd) : Prop := ∃ a dx ra sa, v = .ref a ∧ H a = some (.ins (He.ga K "Function") dx (fnFs f ra sa)) ∧ H ra = some (.tup (f.rs.map V.str)) ∧ H sa = some (.tup (f.ss.map V.str))
def BookAt (K : PySem.W.Frag) (H : Hp) (v : V) (B : List Fd) : Prop := ∃ (a dx d : Addr) (kvs : List (Key × V)), v = .ref a ∧ H a = some (.ins (He.ga K "Book") dx [("table", .ref d)]) ∧ H d = some (.dK kvs) ∧ ∀ f ∈ B, ∃ u, valV kvs (Sum.inr f.nm) = some u ∧ FnAt K H u f
theorem FnAt.keep {K : PySem.W.Frag} {S : Addr → Prop} {H H' : Hp} {v : V} {f : Fd} (x : Kp S H H') (h : FnAt K H v f) : FnAt K H' v f :=
  let ⟨a, dx, ra, sa, e, h1, h2, h3⟩ := h; ⟨a, dx, ra, sa, e, x.ins h1, x.tup h2, x.tup h3⟩
theorem BookAt.keep {K : PySem.W.Frag} {S : Addr → Prop} {H H' : Hp} {v : V} {B : List Fd} (x : Kp S H H') (h : BookAt K H v B) : BookAt K H' v B :=
  let ⟨a, dx, d, kvs, e, h1, h2, h3⟩ := h; ⟨a, dx, d, kvs, e, x.ins h1, x.dK h2, fun f hf => let ⟨u, e1, e2⟩ := h3 f hf; ⟨u, e1, e2.keep x⟩⟩
/-- the table of the nodes: each path's key, the node -/
def TabAt (H : Hp) (d : Addr) (e : Ex) : Prop := ∃ kvs, H d = some (.dT kvs) ∧ Paired (fun (kv : List Key × V) (q : Path × Ex) => kv.1 = q.1.map Sum.inl ∧ TreeAt H kv.2 q.2) kvs (nodes e [])
theorem TabAt.keep {S : Addr → Prop} {H H' : Hp} {d : Addr} {e : Ex} (x : Kp S H H') (h : TabAt H d e) : TabAt H' d e :=
  let ⟨kvs, h1, h2⟩ := h; ⟨kvs, x.dT h1, Paired.mapP h2 fun _ _ z => ⟨z.1, z.2.keep x.tk⟩⟩
theorem inl_inj : ∀ {p q : Path}, (p.map Sum.inl : List Key) = q.map Sum.inl → p = q
  | [], [], _ => rfl
  | [], _ :: _, h => by simp at h
  | _ :: _, [], h => by simp at h
  | a :: p, b :: q, h => by
    rw [List.map_cons, List.map_cons] at h
    injection h with h1 h2
    injection h1 with h1
    rw [h1, inl_inj h2]
theorem tab_get {H : Hp} {p : Path} {c : Ex} : ∀ {kvs : List (List Key × V)} {ns : List (Path × Ex)}, Paired (fun (kv : List Key × V) (q : Path × Ex) => kv.1 = q.1.map Sum.inl ∧ TreeAt H kv.2 q.2) kvs ns → (∀ c', (p, c') ∈ ns → c' = c) → (p, c) ∈ ns →
    ∃ v, valV kvs (p.map Sum.inl) = some v ∧ TreeAt H v c
  | _, _, .nil, _, h => by simp at h
  | kv :: kvs, q :: ns, .cons r t, hu, h => by
    by_cases e : q.1 = p
    · have e2 : q.2 = c := hu q.2 (by rw [← e]; exact List.mem_cons_self)
      exact ⟨kv.2, valV_pos (by rw [r.1, e]), by rw [← e2]; exact r.2⟩
    · have hm : (p, c) ∈ ns := by
        rcases List.mem_cons.mp h with z | z
        · exact absurd (by rw [← z]) e
        · exact z
      obtain ⟨v, h1, h2⟩ := tab_get t (fun c' hc => hu c' (List.mem_cons_of_mem _ hc)) hm
      exact ⟨v, by rw [valV_neg (by rw [r.1]; exact fun z => e (inl_inj z))]; exact h1, h2⟩
theorem nodes_one {e : Ex} {p : Path} {c c' : Ex} (h : (p, c') ∈ nodes e []) (hs : sub e p = some c) : c' = c := by
  obtain ⟨r, e1, h1⟩ := (nodes_mem e [] p c').mp h
  rw [List.nil_append] at e1
  rw [← e1, hs] at h1
  exact (Option.some.inj h1).symm
theorem nodes_in {e : Ex} {p : Path} {c : Ex} : (p, c) ∈ nodes e [] ↔ sub e p = some c := by
  rw [nodes_mem]
  constructor
  · rintro ⟨r, e1, h⟩
    rw [List.nil_append] at e1
    rw [e1]; exact h
  · exact fun h => ⟨p, rfl, h⟩
theorem TabAt.get {H : Hp} {d : Addr} {e c : Ex} {p : Path} (h : TabAt H d e) (hs : sub e p = some c) : ∃ kvs v, H d = some (.dT kvs) ∧ valV kvs (p.map Sum.inl) = some v ∧ TreeAt H v c := by
  obtain ⟨kvs, h1, h2⟩ := h
  obtain ⟨v, h3, h4⟩ := tab_get h2 (fun c' hc => nodes_one hc hs) (nodes_in.mpr hs)
  exact ⟨kvs, v, h1, h3, h4⟩
def taskFs (vb ve : V) (d pt ow : Addr) : List (Str × V) := [("book", vb), ("expression", ve), ("table", .ref d), ("points", .ref pt), ("owners", .ref ow)]
structure TaskAt (K : PySem.W.Frag) (H : Hp) (a : Addr) (B : List Fd) (e : Ex) (P : List Path) : Prop where
  ex : ∃ dx vb ve d pt ow xs ys, H a = some (.ins (He.ga K "Task") dx (taskFs vb ve d pt ow)) ∧ BookAt K H vb B ∧ TreeAt H ve e ∧ TabAt H d e ∧ H pt = some (.tup xs) ∧ PathsAt H xs P ∧ H ow = some (.lst ys) ∧ ys.length = steps e
theorem TaskAt.keep {K : PySem.W.Frag} {H H' : Hp} {a : Addr} {B : List Fd} {e : Ex} {P : List Path} (x : Same H H') (h : TaskAt K H a B e P) : TaskAt K H' a B e P := by
  obtain ⟨dx, vb, ve, d, pt, ow, xs, ys, h1, h2, h3, h4, h5, h6, h7, h8⟩ := h.ex
  have k : Kp Nix H H' := .of x
  exact ⟨dx, vb, ve, d, pt, ow, xs, ys, x _ _ h1, h2.keep k, h3.keep k.tk, h4.keep k, x _ _ h5, h6.keep k.tk, x _ _ h7, h8⟩
/-! ### well formed -/
def letters : Str := "abcdefghijklmnopqrstuvwxyz"
def goodN (s : Str) : Bool := decide (1 ≤ s.length) && (decide (s.length ≤ 8) && s.cps.toList.all fun c => decide (c ∈ letters.cps.toList))
def WfK (B : List Fd) : Kd → Nat → Prop
  | .read p, n => goodN p = true ∧ n = 0
  | .store p, n => goodN p = true ∧ n = 1
  | .step p b m, n => goodN p = true ∧ (b = 1 ∨ b = -1) ∧ (m = "before" ∨ m = "after") ∧ n = 0
  | .op s, n => s ∈ (["+", "-", "*", "<"] : List Str) ∧ n = 2
  | .call f, n => (∃ d ∈ B, d.nm = f ∧ d.n = n) ∧ n ≤ 3
  | .thn, n => n = 2
  | .wand, n => n = 2
  | .wor, n => n = 2
  | .cho, n => n = 3
def Wf (B : List Fd) : Ex → Prop
  | .num n => 0 ≤ n ∧ n ≤ 999999
  | .nd k es => WfK B k es.length
/-- the bag: at most c taken -/
def BagAt (H : Hp) (b : Addr) (c : Nat) : Prop := ∃ d m k : Int, H b = some (.lst [.int d, .int m, .int k]) ∧ 0 ≤ d ∧ 0 ≤ m ∧ m < 2 ^ 61 ∧ 0 ≤ k ∧ k ≤ c
theorem BagAt.mono {H : Hp} {b : Addr} {c c' : Nat} (h : BagAt H b c) (l : c ≤ c') : BagAt H b c' :=
  let ⟨d, m, k, h1, h2, h3, h4, h5, h6⟩ := h; ⟨d, m, k, h1, h2, h3, h4, h5, by omega⟩
theorem BagAt.same {H H' : Hp} {b : Addr} {c : Nat} (h : BagAt H b c) (x : Same H H') : BagAt H' b c :=
  let ⟨d, m, k, h1, r⟩ := h; ⟨d, m, k, x _ _ h1, r⟩
end Oo

set_option Elab.async false
set_option linter.all false
set_option maxRecDepth 100000
set_option maxHeartbeats 4000000
/-! From the facts of the top to what a walk takes. -/
namespace Oo
open PySem PySem.Spec PyProof.Rows L2
section
variable {K : PySem.W.Frag} {w : World} {mg : Str → Option Value}
theorem Txt.cls (T : Txt K w mg) {C : Str} (h : C ∈ clsL := by decide +kernel) : Cls K (He.ga K C) :=
  He.cls_ok (T.fact (.cls C) (List.mem_append_right _ (List.mem_append_right _ (List.mem_append_left _ (List.mem_map.mpr ⟨C, h, rfl⟩)))))
theorem Txt.mkr (T : Txt K w mg) {C : Str} (h : C ∈ clsL := by decide +kernel) : Mk K (He.ga K C) (He.ma K (He.ga K C) "__init__") :=
  He.mkr_ok (T.fact (.mkr C) (List.mem_append_right _ (List.mem_append_right _ (List.mem_append_right _ (List.mem_append_left _ (List.mem_map.mpr ⟨C, h, rfl⟩))))))
theorem Txt.meth (T : Txt K w mg) {C m : Str} (h : (C, m) ∈ methL := by decide +kernel) : Meth K (He.ga K C) m (He.ma K (He.ga K C) m) :=
  He.meth_ok (T.fact (.meth C m) (List.mem_append_right _ (List.mem_append_right _ (List.mem_append_right _ (List.mem_append_right _ (List.mem_append_left _ (List.mem_map.mpr ⟨(C, m), h, rfl⟩)))))))
theorem Txt.noat (T : Txt K w mg) {C f : Str} (h : (C, f) ∈ noatL := by decide +kernel) : NoAttr K (He.ga K C) f :=
  He.noat_ok (T.fact (.noat C f) (List.mem_append_right _ (List.mem_append_right _ (List.mem_append_right _ (List.mem_append_right _ (List.mem_append_right _ (List.mem_append_left _ (List.mem_map.mpr ⟨(C, f), h, rfl⟩))))))))
theorem Txt.ex (T : Txt K w mg) (i : Nat) {f : PySem.W.Frag → Bool} (h : exL[i]? = some f := by rfl) : f K = true := T.exs f (List.mem_of_getElem? h)
theorem Txt.fnin (T : Txt K w mg) {C m : Str} (h : (C, m) ∈ methL := by decide +kernel) : PySem.W.fnIn K (He.ma K (He.ga K C) m) = true := List.all_eq_true.mp (T.ex 12) (C, m) h
theorem num_ok {d x : Str} {n : Int} (h : numAt K d x n = true) : ∃ t, PySem.W.nsIn K (He.ga K d) x = some (some (.int n t)) := by
  unfold numAt at h
  split at h
  · rename_i j t e
    exact ⟨t, by rw [e, of_decide_eq_true h]⟩
  · cases h
theorem no_ok {d x : Str} (h : noAt K d x = true) : PySem.W.nsIn K (He.ga K d) x = some none := by
  unfold noAt at h
  split at h
  · assumption
  · cases h
theorem Txt.size (T : Txt K w mg) {x : Str} {n : Int} (h : (x, n) ∈ sizesL := by decide +kernel) : ∃ t, PySem.W.nsIn K (He.ga K "SIZES") x = some (some (.int n t)) := num_ok (List.all_eq_true.mp (T.ex 2) (x, n) h)
theorem Txt.ownN (T : Txt K w mg) {x : Str} {n : Int} (h : (x, n) ∈ ownL := by decide +kernel) : ∃ t, PySem.W.nsIn K (He.ga K "OWN_STEPS") x = some (some (.int n t)) := num_ok (List.all_eq_true.mp (T.ex 3) (x, n) h)
theorem Txt.ownNo (T : Txt K w mg) {x : Str} (h : x ∈ ownNo := by decide +kernel) : PySem.W.nsIn K (He.ga K "OWN_STEPS") x = some none := no_ok (List.all_eq_true.mp (T.ex 4) x h)
theorem Txt.sizes (T : Txt K w mg) : ∃ es n, L2.KDict K w (He.ga K "SIZES") es n := T.tabs _ (List.mem_of_getElem? (show ts[0]? = some _ from rfl))
theorem Txt.owns (T : Txt K w mg) : ∃ es n, L2.KDict K w (He.ga K "OWN_STEPS") es n := T.tabs _ (List.mem_of_getElem? (show ts[1]? = some _ from rfl))
theorem Txt.signs (T : Txt K w mg) (H : Hp) : SqT K H (He.ga K "SIGNS") [.str "+", .str "-", .str "*", .str "<"] := He.tupB_ok (T.ex 0) H
theorem Txt.moments (T : Txt K w mg) (H : Hp) : SqT K H (He.ga K "MOMENTS") [.str "before", .str "after"] := He.tupB_ok (T.ex 1) H
theorem pair_ok {a : Addr} {m n : Int} (h : exclB.pairB K a m n = true) (H : Hp) : SqT K H a [.int m, .int n] := by
  unfold exclB.pairB at h
  split at h
  · rename_i c d its nn sl e
    rw [Bool.and_eq_true] at h
    obtain ⟨h1, h2⟩ := h
    obtain rfl := of_decide_eq_true h1
    split at h2
    · rename_i i t j u el
      rw [Bool.and_eq_true] at h2
      obtain rfl := of_decide_eq_true h2.1
      obtain rfl := of_decide_eq_true h2.2
      exact .inr ⟨_, its, nn, e, rfl, rfl, by rw [← Array.length_toList, el]; exact (show 2 ≤ sizeLine by decide), by rw [el]; exact .cons ⟨t, rfl⟩ (.cons ⟨u, rfl⟩ .nil)⟩
    · cases h2
  · cases h
theorem Txt.excl (T : Txt K w mg) (H : Hp) : ∃ xs, SqT K H (He.ga K "EXCLUDED") xs ∧ PathsV K H xs [[1, 2], [2, 1]] := by
  have h := T.ex 5
  unfold exclB at h
  split at h
  · rename_i c d its nn sl e
    rw [Bool.and_eq_true] at h
    obtain ⟨h1, h2⟩ := h
    obtain rfl := of_decide_eq_true h1
    split at h2
    · rename_i a b el
      rw [Bool.and_eq_true] at h2
      refine ⟨[.ref a, .ref b], .inr ⟨_, its, nn, e, rfl, rfl, by rw [← Array.length_toList, el]; exact (show 2 ≤ sizeLine by decide), by rw [el]; exact .cons rfl (.cons rfl .nil)⟩, .cons ⟨a, rfl, pair_ok h2.1 H⟩ (.cons ⟨b, rfl, pair_ok h2.2 H⟩ .nil)⟩
    · cases h2
  · cases h
theorem cnum_ok {C f : Str} {n : Int} (h : cnum K C f n = true) : ∃ t, ClX.CVal K (He.ga K C) (.type "type") f (.int n) (.int n t) := by
  unfold cnum at h
  generalize hg : PySem.W.findCls K (.ref (He.ga K C)) (.type "type") f = r at h
  split at h
  · rename_i j t
    obtain rfl := of_decide_eq_true h
    exact ⟨t, hg, t, rfl⟩
  · cases h
theorem read_ok {C : Str} (h : readB K C = true) : ClX.CRead K (He.ga K C) (.type "type") := by
  unfold readB at h
  rw [Bool.and_eq_true] at h
  exact ⟨h.1, of_decide_eq_true h.2⟩
end
section
variable {P : Program} {w : World} {K : PySem.W.Frag} {mg : Str → Option Value} {base : Heap}
/-- a def of the module keeps its promise -/
theorem mkP {x : Str} {i : Nat} {N ps : List Str} {k : Nat} {sp : Sp} (T : Txt K w mg) (n : Nat) (S : FnScope N ps (defScope (top i)))
    (hb : ∀ (kV doc pm : Value) (an : Option Addr) (cdv ct : Value) (us : List Value), us.length = ps.length → bindArgs (PySem.W.fnOf x x (defArgs (top i)) (defBody (top i)) (defScope (top i)) .none kV doc pm an cdv ct) ⟨us, []⟩ = pure (ps.zip us))
    (len : ∀ vs H Q E, sp vs H Q E → vs.length = ps.length)
    (body : ∀ (cdv : Value) (A : Around) (outer : List Env) (s : Shared) (H : Hp) (vs : List V) (Q : VK) (E : XK), Room k (A.deeper (envOfC x (defScope (top i)) s.heap.objs.size (He.ga K x) cdv)) → sp vs H Q E →
      ∃ t, PSs (cxOf CX0 P w K mg base N x (defScope (top i)) (He.ga K x) cdv A outer s H E).nox (defBody (top i)) t ∧ t { nx := fun _ H' => Q .non H', rt := Q } (start N vs) H)
    (hn : fn[n]? = some (dF x i) := by rfl) (hg : x ∈ gloL := by decide +kernel) : CallP P w K mg base (k + 1) x sp := by
  obtain ⟨fd, F⟩ := T.dfs _ (List.mem_of_getElem? hn)
  refine ⟨_, T.glo x hg, F.kp, ?_⟩
  refine FnR.imp (FnOk.raw (F.ok S len fun cdv A outer s H vs Q E hr h => ?_) (F.bindsN hb) .nil) fun vs H Q E h => by rw [List.append_nil]; exact h
  obtain ⟨t, h1, h2⟩ := body cdv A outer s H vs Q E hr h
  exact ⟨t, h1.nox, h2⟩
/-- a method keeps its promise -/
theorem mkM {C m q : Str} {i j : Nat} {N ps : List Str} {k : Nat} {sp : Sp} (T : Txt K w mg) (n : Nat) (S : FnScope N ps (defScope (inClass (top i) j)))
    (hb : ∀ (kV doc pm : Value) (an : Option Addr) (cdv ct : Value) (us : List Value), us.length = ps.length → bindArgs (PySem.W.fnOf m q (defArgs (inClass (top i) j)) (defBody (inClass (top i) j)) (defScope (inClass (top i) j)) .none kV doc pm an cdv ct) ⟨us, []⟩ = pure (ps.zip us))
    (len : ∀ vs H Q E, sp vs H Q E → vs.length = ps.length)
    (body : ∀ (cdv : Value) (A : Around) (outer : List Env) (s : Shared) (H : Hp) (vs : List V) (Q : VK) (E : XK), Room k (A.deeper (envOfC q (defScope (inClass (top i) j)) s.heap.objs.size (He.ma K (He.ga K C) m) cdv)) → sp vs H Q E →
      ∃ t, PSs (cxOf CX0 P w K mg base N q (defScope (inClass (top i) j)) (He.ma K (He.ga K C) m) cdv A outer s H E).nox (defBody (inClass (top i) j)) t ∧ t { nx := fun _ H' => Q .non H', rt := Q } (start N vs) H)
    (hn : fn[n]? = some (dM C m q i j) := by rfl) : FnR P w K mg base CX0 (k + 1) (He.ma K (He.ga K C) m) sp := by
  obtain ⟨fd, F⟩ := T.dfs _ (List.mem_of_getElem? hn)
  refine FnR.imp (FnOk.raw (F.ok S len fun cdv A outer s H vs Q E hr h => ?_) (F.bindsN hb) .nil) fun vs H Q E h => by rw [List.append_nil]; exact h
  obtain ⟨t, h1, h2⟩ := body cdv A outer s H vs Q E hr h
  exact ⟨t, h1.nox, h2⟩
theorem mthP {C m : Str} {k : Nat} {sp : Sp} (T : Txt K w mg) (F : FnR P w K mg base CX0 k (He.ma K (He.ga K C) m) sp) (h : (C, m) ∈ methL := by decide +kernel) : MethP P w K mg base k (He.ga K C) m sp := ⟨_, T.meth h, T.fnin h, F⟩
theorem mkrP {C : Str} {k : Nat} {sp : Sp} (T : Txt K w mg) (F : FnR P w K mg base CX0 k (He.ma K (He.ga K C) "__init__") sp) (h : C ∈ clsL := by decide +kernel) (hg : C ∈ gloL := by decide +kernel) : MakeP P w K mg base k (He.ga K C) C sp := ⟨_, T.glo C hg, T.mkr h, F⟩
end
/-- a list comprehension of n turns that makes objects and changes lists in S alone; G: what is known of the items so far (it does not speak of the list itself) -/
theorem lc_gen {J : It} {g : TG} {tt : TT} {te : TE} {vs : List Nat} {σ : L2.St} {H1 : Hp} {D : Addr} {Qd : Hp → Prop} (S : Addr → Prop) (n : Nat) (G : Nat → List V → Hp → Prop) (hD : H1 D = none) (hS : ∀ a, S a → H1 a ≠ none)
    (h0 : ∀ H, Same H1 H → G 0 [] H) (mono : ∀ i acc H H', G i acc H → Kp (One D) H H' → G i acc H') (hz : ∀ i acc H, i < n → G i acc H → acc.length < sizeLine)
    (hgo : ∀ i H, i < n → Kp S H1 H → J.go i H) (hst : ∀ H, Kp S H1 H → J.stop n H)
    (hs : ∀ (i : Nat) (acc : List V) (x : V) (H H' : Hp) (N1 : V → Hp → Prop) (N0 : Hp → Prop), (∀ y H4, Kp S H H4 → G (i + 1) (acc ++ [y]) H4 → N1 y H4) → (∀ H3, Kp S H H3 → G (i + 1) acc H3 → N0 H3) → i < n → Kp S H1 H → G i acc H → J.yld i H x H' →
      g x (wipe σ vs) H' fun σ2 H2 => wipe σ2 vs = wipe σ vs ∧ tt σ2 H2 fun b H3 => if b = true then te σ2 H3 N1 else N0 H3)
    (hd : ∀ H acc, Kp S H1 H → H D = some (.lst acc) → G n acc H → Qd H) :
    ∃ W : Nat → Nat → Hp → Prop, (∃ m, W 0 m (upd H1 D (.lst []))) ∧ ∀ i m H, W i m H →
      (J.stop i H ∧ Qd H) ∨ (J.go i H ∧ ∃ Nx : Hp → Prop, (∀ H', Nx H' → ∃ m', m' < m ∧ W (i + 1) m' H') ∧ ∀ x H', J.yld i H x H' → g x (wipe σ vs) H' fun σ2 H2 => wipe σ2 vs = wipe σ vs ∧ tt σ2 H2 fun b H3 =>
        if b = true then te σ2 H3 fun y H4 => ∃ acc, H4 D = some (.lst acc) ∧ acc.length < sizeLine ∧ Nx (upd H4 D (.lst (acc ++ [y]))) else Nx H3) := by
  have nS : ¬ S D := fun z => hS D z hD
  refine lc_it n (fun i H => Kp S H1 H ∧ ∃ acc, H D = some (.lst acc) ∧ G i acc H) ⟨(Kp.rfl S H1).new hD, [], upd_same, h0 _ (same_new hD)⟩ (fun i H hi p => hgo i H hi p.1) (fun H p => hst H p.1) ?_ fun H ⟨k, acc, h1, h2⟩ => hd H acc k h1 h2
  rintro i x H H' hi ⟨k, acc, h1, h2⟩ y
  refine hs i acc x H H' _ _ (fun y H4 k4 g4 => ?_) (fun H3 k3 g3 => ⟨k.trans k3, acc, k3.at h1 nS, g3⟩) hi k h2 y
  have e4 := k4.at h1 nS
  refine ⟨acc, e4, hz i acc H hi h2, fun a o e => ?_, acc ++ [y], upd_same, mono _ _ _ _ g4 ((Kp.rfl (One D) H4).set _root_.rfl e4)⟩
  rw [upd_ne (ne_of_none e hD)]
  exact (k.trans k4) a o e
/-! tuples that stand in the heap: a piece, a sum, whichever object it is -/
theorem cut_whole {xs : List V} {lo hi : Option Int} (h : HT.sIx xs.length 0 lo = 0 ∧ HT.sIx xs.length xs.length hi = xs.length) : cutV xs lo hi = xs := by
  unfold cutV
  rw [h.1, h.2]
  simp
def rSlU : V → Option Int → Option Int → Hp → VK → Prop := fun x lo hi H Q => ∃ a xs, x = .ref a ∧ H a = some (.tup xs) ∧ ∀ b H2, Same H H2 → H2 b = some (.tup (cutV xs lo hi)) → Q (.ref b) H2
theorem sl_tupU {X : Cx} : SlR X rSlU := by
  intro pins s σ H x v vl vu lo hi sl Q I rx hs pl pu h
  obtain ⟨a, xs, rfl, hx, q⟩ := h
  exact sl_tupA pins s σ H _ v vl vu lo hi sl Q I rx hs pl pu ⟨a, xs, rfl, SqT.of hx, fun hw => q a H (Same.refl H) (by rw [cut_whole hw]; exact hx), fun _ p hp => q p _ (same_new hp) upd_same⟩
def rCatU : R2 := fun x y H Q => ∃ a b xs ys, x = .ref a ∧ y = .ref b ∧ H a = some (.tup xs) ∧ H b = some (.tup ys) ∧ xs.length + ys.length ≤ sizeLine ∧ ∀ p H2, Same H H2 → H2 p = some (.tup (xs ++ ys)) → Q (.ref p) H2
theorem op_catU {X : Cx} : OpR X (binaryOp .Add) rCatU := by
  rintro pins s σ H x y v u Q I rx ry ⟨a, b, xs, ys, rfl, rfl, ha, hb, hz, q⟩
  refine op_catA pins s σ H _ _ v u Q I rx ry ⟨a, b, xs, ys, rfl, rfl, SqT.of ha, SqT.of hb, hz, fun e => q b H (Same.refl H) (by rw [e]; exact hb), fun _ e => q a H (Same.refl H) (by rw [e, List.append_nil]; exact ha), fun _ _ p hp => q p _ (same_new hp) upd_same⟩
theorem cut_from {xs : List V} (k : Nat) : cutV xs (some (k : Int)) none = xs.drop k := by
  unfold cutV
  rw [HT.sIx_nat, HT.sIx_none, List.take_of_length_le (by rw [List.length_drop]; omega)]
  by_cases h : k ≤ xs.length
  · rw [Nat.min_eq_left h]
  · rw [Nat.min_eq_right (by omega), List.drop_of_length_le (Nat.le_refl _), List.drop_of_length_le (by omega)]
theorem cut_to {xs : List V} (k : Nat) : cutV xs none (some (k : Int)) = xs.take k := by
  unfold cutV
  rw [HT.sIx_nat, HT.sIx_none, List.drop_zero, Nat.sub_zero]
  by_cases h : k ≤ xs.length
  · rw [Nat.min_eq_left h]
  · rw [Nat.min_eq_right (by omega), List.take_of_length_le (Nat.le_refl _), List.take_of_length_le (by omega)]
end Oo

set_option Elab.async false
set_option linter.all false
set_option maxRecDepth 100000
set_option maxHeartbeats 4000000
/-! is_integer, is_name, are_places. -/
namespace Oo
open PySem PySem.Spec PyProof.Rows L2
abbrev tyTup : Value := .type "tuple"
def spIsInt (K : PySem.W.Frag) : Sp := fun vs H Q _ => ∃ v, vs = [v] ∧ ((∃ i, v = .int i ∧ Q (.bl true) H) ∨ (TyX K H v tyTup ∧ Q (.bl false) H))
section
variable {P : Program} {w : World} {K : PySem.W.Frag} {mg : Str → Option Value} {base : Heap}
theorem sc_is_integer : FnScope ["value"] ["value"] (defScope (top 16)) := ⟨rfl, rfl, rfl, by decide +kernel, rfl, by decide +kernel, by decide +kernel⟩
theorem tyInt {K : PySem.W.Frag} {H : Hp} (i : Int) : TyX K H (.int i) (.type "int") := .base (.int i)
theorem tyStr {K : PySem.W.Frag} {H : Hp} (x : Str) : TyX K H (.str x) (.type "str") := .base (.str x)
theorem tyT {K : PySem.W.Frag} {H : Hp} {a : Addr} {xs : List V} (h : H a = some (.tup xs)) : TyX K H (.ref a) tyTup := .base (.tup h)
theorem w_is_integer (T : Txt K w mg) : CallP P w K mg base 1 "is_integer" (spIsInt K) := by
  refine mkP T 0 sc_is_integer (fun _ _ _ _ _ _ us hl => match us, hl with | [_], _ => rfl) (fun vs H Q E h => ?_) fun cdv A outer s H vs Q E hr h => ?_
  · obtain ⟨v, rfl, _⟩ := h
    rfl
  obtain ⟨v, rfl, h⟩ := h
  refine ⟨_, pss_one (ps_ret (pe_and (pe_callB call_isi (by rfl) (T.free "isinstance" (by decide +kernel)) (by decide +kernel) (pa_cons (pv 0) (pa_cons (pe_bltn (v := .ty "int") (by rfl) (T.free "int" (by decide +kernel)) (by decide +kernel) rfl) pa_nil)))
    (pe_one (pe_not (pe_callB call_isi (by rfl) (T.free "isinstance" (by decide +kernel)) (by decide +kernel) (pa_cons (pv 0) (pa_cons (pe_bltn (v := .ty "bool") (by rfl) (T.free "bool" (by decide +kernel)) (by decide +kernel) rfl) pa_nil))))))), ?_⟩
  rcases h with ⟨i, rfl, q⟩ | ⟨ty, q⟩
  · refine ⟨_, rfl, .int i, .ty "int", _, _, true, rfl, .ty _, tyInt i, kit_ty (by decide +kernel), _, rfl, ?_⟩
    exact ⟨_, rfl, .int i, .ty "bool", _, _, false, rfl, .ty _, tyInt i, kit_ty (by decide +kernel), _, rfl, q⟩
  · exact ⟨_, rfl, v, .ty "int", _, _, false, rfl, .ty _, ty, kit_ty (by decide +kernel), _, rfl, q⟩
def spIsName : Sp := fun vs H Q _ => ∃ s, vs = [.str s] ∧ goodN s = true ∧ ∀ H', Same H H' → Q (.bl true) H'
theorem sc_is_name : FnScope ["value", "sign"] ["value"] (defScope (top 17)) := ⟨rfl, rfl, rfl, by decide +kernel, rfl, by decide +kernel, by decide +kernel⟩
theorem goodN_at {s : Str} (h : goodN s = true) : 1 ≤ s.length ∧ s.length ≤ 8 ∧ ∀ (i c : Nat), s.cps[i]? = some c → c ∈ letters.cps.toList := by
  unfold goodN at h
  rw [Bool.and_eq_true, Bool.and_eq_true, List.all_eq_true] at h
  refine ⟨of_decide_eq_true h.1, of_decide_eq_true h.2.1, fun i c hc => of_decide_eq_true (h.2.2 c ?_)⟩
  exact Array.mem_toList_iff.mpr (Array.mem_of_getElem? hc)
theorem map_true : ∀ n : Nat, (List.replicate n true).map V.bl = List.replicate n (V.bl true) := fun n => by rw [List.map_replicate]
theorem all_true : ∀ n : Nat, (List.replicate n true).all id = true := fun n => by rw [List.all_eq_true]; intro x hx; rw [(List.mem_replicate.mp hx).2]; rfl
theorem w_is_name (T : Txt K w mg) : CallP P w K mg base 1 "is_name" spIsName := by
  refine mkP T 1 sc_is_name (fun _ _ _ _ _ _ us hl => match us, hl with | [_], _ => rfl) (fun vs H Q E h => ?_) fun cdv A outer s H vs Q E hr h => ?_
  · obtain ⟨v, rfl, _⟩ := h
    rfl
  obtain ⟨z, rfl, hg, q⟩ := h
  obtain ⟨tm, hM⟩ := T.intF ("MOST_LETTERS", 8) (by decide +kernel)
  obtain ⟨tl, hL⟩ := T.strF ("LETTERS", letters) (by decide +kernel)
  obtain ⟨g1, g2, g3⟩ := goodN_at hg
  refine ⟨_, pss_cons (ps_if (PW.pt (pw_or (pt_not (pt_val (pe_callB call_isi (by rfl) (T.free "isinstance" (by decide +kernel)) (by decide +kernel) (pa_cons (pv 0) (pa_cons (pe_bltn (v := .ty "str") (by rfl) (T.free "str" (by decide +kernel)) (by decide +kernel) rfl) pa_nil)))))
      (pw_or1 (pt_not (pt_chain op_le op_le pe_int (pe_callB call_len_str (by rfl) (T.free "len" (by decide +kernel)) PySem.boot_len (pa_cons (pv 0) pa_nil)) (pe_glob (v := .int 8) (by rfl) hM ⟨_, rfl⟩)))))) (pss_one (ps_ret pe_bl)) pss_nil)
    (pss_one (ps_ret (pe_callB (cr_all rfl) (by rfl) (T.free "all" (by decide +kernel)) (by decide +kernel) (pa_cons (pe_lc (own := [("sign", 1)]) (g := gName 1) (tt := tYes) rfl sc_is_name.nd (pi_str (pv 0)) (blkOk_by (N := ["value", "sign"]) (sc := defScope (top 17)) (by decide +kernel))
      (fun _ _ _ _ _ => pg_name (i := 1) sc_is_name.nd rfl (Or.inl rfl)) (fun _ _ _ _ _ => pts_nil) (fun _ _ _ _ _ => pe_cmpR op_in_sign (pv 1) (pe_glob (v := .str letters) (by rfl) hL ⟨_, rfl⟩) rfl)) pa_nil)))), ?_⟩
  refine ⟨_, rfl, .str z, .ty "str", _, _, true, rfl, .ty _, tyStr z, kit_ty (by decide +kernel), _, rfl, ?_⟩
  refine iteF ?_
  have hz : z.length ≤ sizeLine := Nat.le_trans g2 (by decide)
  refine ⟨_, rfl, z, rfl, hz, _, _, rfl, rfl, _, rfl, ?_⟩
  rw [decide_eq_true (by omega)]
  refine iteT ?_
  refine ⟨_, _, rfl, rfl, _, rfl, ?_⟩
  rw [decide_eq_true (by omega)]
  refine iteF ?_
  have hn : z.cps.size = z.length := rfl
  refine ⟨_, rfl, z, rfl, fun D hD => lc_gen Nix z.cps.size (fun i acc H => acc = List.replicate i (V.bl true)) hD (fun a h => h.elim) (fun H _ => rfl) (fun i acc H H' e _ => e) (fun i acc H hi e => ?_) (fun i H hi _ => hi) (fun H _ => Nat.le_refl _) ?_ ?_⟩
  · rw [e, List.length_replicate]; omega
  · rintro i acc x H2 H3 N1 N0 h1 h0 hi k rfl ⟨rfl, c, hc, rfl⟩
    refine ⟨rfl, _, rfl, c, letters, rfl, rfl, ?_⟩
    rw [decide_eq_true (g3 i c hc)]
    exact h1 _ _ (Kp.rfl _ _) (by rw [List.replicate_succ'])
  · rintro H2 acc k e rfl
    refine ⟨D, List.replicate z.cps.size true, rfl, SqL.of (by rw [e, map_true]), ?_⟩
    rw [all_true]
    exact q _ k.same
abbrev ltS (a b : Str) : Prop := a.cps.toList < b.cps.toList
/-- a tuple of names, upwards -/
structure Plc (ss : List Str) : Prop where
  few : ss.length ≤ 4
  good : ∀ s ∈ ss, goodN s = true
  up : ss.Pairwise ltS
def spArePl : Sp := fun vs H Q _ => ∃ a ss, vs = [.ref a] ∧ H a = some (.tup (ss.map V.str)) ∧ Plc ss ∧ ∀ H', Same H H' → Q (.bl true) H'
theorem sc_are_places : FnScope ["value", "place", "one", "other"] ["value"] (defScope (top 18)) := ⟨rfl, rfl, rfl, by decide +kernel, rfl, by decide +kernel, by decide +kernel⟩
theorem w_are_places (T : Txt K w mg) (cN : CallP P w K mg base 1 "is_name" spIsName) : CallP P w K mg base 2 "are_places" spArePl := by
  refine mkP T 2 sc_are_places (fun _ _ _ _ _ _ us hl => match us, hl with | [_], _ => rfl) (fun vs H Q E h => ?_) fun cdv A outer s H vs Q E hr h => ?_
  · obtain ⟨a, ss, rfl, _⟩ := h
    rfl
  obtain ⟨a, ss, rfl, ha, pl, q⟩ := h
  obtain ⟨tm, hM⟩ := T.intF ("MOST_PLACES", 4) (by decide +kernel)
  have hlen : (ss.map V.str).length = ss.length := List.length_map _
  have h4 := pl.few
  have hsz : (4 : Nat) < sizeLine := by decide
  have item : ∀ (i : Nat), i < ss.length → ∃ s, ss[i]? = some s ∧ (ss.map V.str)[i]? = some (V.str s) := fun i hi => ⟨ss[i], List.getElem?_eq_getElem hi, by rw [List.getElem?_map, List.getElem?_eq_getElem hi]; rfl⟩
  refine ⟨_, pss_cons (ps_if (PW.pt (pw_or (pt_not (pt_val (pe_callB call_isi (by rfl) (T.free "isinstance" (by decide +kernel)) (by decide +kernel) (pa_cons (pv 0) (pa_cons (pe_bltn (v := .ty "tuple") (by rfl) (T.free "tuple" (by decide +kernel)) (by decide +kernel) rfl) pa_nil)))))
      (pw_or (pt_cmpR op_gt (pe_callB call_len_seq (by rfl) (T.free "len" (by decide +kernel)) PySem.boot_len (pa_cons (pv 0) pa_nil)) (pe_glob (v := .int 4) (by rfl) hM ⟨_, rfl⟩) (nomark _))
      (pw_or1 (pt_not (pt_val (pe_callB (cr_all rfl) (by rfl) (T.free "all" (by decide +kernel)) (by decide +kernel) (pa_cons (pe_lc (own := [("place", 1)]) (g := gName 1) (tt := tYes) rfl sc_are_places.nd (pi_tup (pv 0)) (blkOk_by (N := ["value", "place", "one", "other"]) (sc := defScope (top 18)) (by decide +kernel))
        (fun _ _ _ _ _ => pg_name (i := 1) sc_are_places.nd rfl (Or.inl rfl)) (fun _ _ _ _ _ => pts_nil) (fun _ _ _ _ _ => pe_fn cN hr (by decide) (by rfl) (pa_cons (pv 1) pa_nil))) pa_nil)))))))) (pss_one (ps_ret pe_bl)) pss_nil)
    (pss_one (ps_ret (pe_callB (cr_all rfl) (by rfl) (T.free "all" (by decide +kernel)) (by decide +kernel) (pa_cons (pe_lc (own := [("one", 2), ("other", 3)]) (g := gTup K 2 (gCons (gName 2) (gCons (gName 3) gNil))) (tt := tYes) rfl sc_are_places.nd
      (RZ.pi_zipA (by rfl) (T.free "zip" (by decide +kernel)) (pa_cons (pv 0) (pa_cons (pe_slice sl_tupU (pv 0) (po_some pe_int) po_none) pa_nil))) (blkOk_by (N := ["value", "place", "one", "other"]) (sc := defScope (top 18)) (by decide +kernel))
      (fun _ _ _ _ _ => pg_tup rfl (pgs_cons (pg_name (i := 2) sc_are_places.nd rfl (Or.inl rfl)) (pgs_cons (pg_name (i := 3) sc_are_places.nd rfl (Or.inl rfl)) pgs_nil))) (fun _ _ _ _ _ => pts_nil) (fun _ _ _ _ _ => pe_cmpR op_lt_str (pv 2) (pv 3) (nomark _))) pa_nil)))), ?_⟩
  refine ⟨_, rfl, .ref a, .ty "tuple", _, _, true, rfl, .ty _, tyT ha, kit_ty (by decide +kernel), _, rfl, ?_⟩
  refine iteF ?_
  refine ⟨_, rfl, a, _, rfl, .inr (SqT.of ha), _, _, rfl, rfl, _, rfl, ?_⟩
  rw [decide_eq_false (by rw [hlen]; omega)]
  refine iteF ?_
  refine ⟨_, rfl, a, rfl, ⟨_, SqT.of ha⟩, fun D hD => lc_gen Nix ss.length (fun i acc H => acc = List.replicate i (V.bl true)) hD (fun a h => h.elim) (fun H _ => rfl) (fun i acc H H' e _ => e) (fun i acc H hi e => ?_) (fun i H2 hi k => ?_) (fun H2 k => ?_) ?_ ?_⟩
  · rw [e, List.length_replicate]; omega
  · obtain ⟨s0, _, h2⟩ := item i hi
    exact ⟨_, _, SqT.of (k.tup ha), h2⟩
  · exact ⟨_, SqT.of (k.tup ha), by rw [hlen]; exact Nat.le_refl _⟩
  · rintro i acc x H2 H3 N1 N0 h1 h0 hi k rfl ⟨rfl, hx⟩
    obtain ⟨s0, e1, e2⟩ := item i hi
    have e3 := hx _ (SqT.of (k.tup ha))
    rw [e2] at e3
    obtain rfl := Option.some.inj e3
    refine ⟨rfl, _, rfl, s0, rfl, pl.good s0 (List.mem_of_getElem? e1), fun H4 k4 => ?_⟩
    exact h1 _ _ (Kp.of k4) (by rw [List.replicate_succ'])
  · rintro H2 acc k e rfl
    refine ⟨D, List.replicate ss.length true, rfl, SqL.of (by rw [e, map_true]), _, rfl, ?_⟩
    rw [all_true]
    refine iteF ?_
    have s2 : Same H H2 := k.same
    refine ⟨_, rfl, _, rfl, _, rfl, a, _, rfl, s2 _ _ ha, fun b H3 k3 hb => ?_⟩
    rw [show (some (1 : Int)) = some ((1 : Nat) : Int) from rfl, cut_from] at hb
    have ha3 := k3 _ _ (s2 _ _ ha)
    refine ⟨a, b, _, _, rfl, .inr ⟨SqT.of ha3, SqT.of hb, fun D2 hD2 => lc_gen Nix (ss.length - 1) (fun i acc H => acc = List.replicate i (V.bl true)) hD2 (fun a h => h.elim) (fun H _ => rfl) (fun i acc H H' e _ => e) (fun i acc H hi e => ?_) (fun i H4 hi k4 => ?_) (fun H4 k4 => ?_) ?_ ?_⟩⟩
    · rw [e, List.length_replicate]; omega
    · obtain ⟨s0, _, h2⟩ := item i (by omega)
      obtain ⟨s1, _, h3⟩ := item (i + 1) (by omega)
      exact ⟨_, _, _, _, SqT.of (k4.tup ha3), SqT.of (k4.tup hb), h2, by rw [List.getElem?_drop, Nat.add_comm]; exact h3⟩
    · exact ⟨_, _, SqT.of (k4.tup ha3), SqT.of (k4.tup hb), .inr (by rw [List.length_drop, hlen]; exact Nat.le_refl _)⟩
    · rintro i acc x H4 H5 N1 N0 h1 h0 hi k4 rfl ⟨t, x, y, rfl, ht, rfl, hx, hy⟩
      obtain ⟨s0, e0, h2⟩ := item i (by omega)
      obtain ⟨s1, e1, h3⟩ := item (i + 1) (by omega)
      have f1 := hx _ (SqT.of (k4.tup ha3))
      have f2 := hy _ (SqT.of (k4.tup hb))
      rw [h2] at f1
      rw [List.getElem?_drop, Nat.add_comm, h3] at f2
      obtain rfl := Option.some.inj f1
      obtain rfl := Option.some.inj f2
      refine ⟨t, _, rfl, SqT.of upd_same, rfl, _, _, rfl, _, _, rfl, rfl, rfl, _, rfl, _, rfl, s0, s1, rfl, rfl, ?_⟩
      have lt : s0.cps.toList < s1.cps.toList := by
        obtain ⟨l0, g0⟩ := List.getElem?_eq_some_iff.mp e0
        obtain ⟨l1, g1⟩ := List.getElem?_eq_some_iff.mp e1
        have z := List.pairwise_iff_getElem.mp pl.up i (i + 1) l0 l1 (Nat.lt_succ_self i)
        rw [g0, g1] at z
        exact z
      rw [decide_eq_true lt]
      exact h1 _ _ ((Kp.rfl _ _).new ht) (by rw [List.replicate_succ'])
    · rintro H4 acc k4 e4 rfl
      refine ⟨D2, List.replicate (ss.length - 1) true, rfl, SqL.of (by rw [e4, map_true]), ?_⟩
      rw [all_true]
      exact q _ (s2.trans (k3.trans k4.same))
end
end Oo

set_option Elab.async false
set_option linter.all false
set_option maxRecDepth 100000
set_option maxHeartbeats 4000000
/-! operands, is_open, own_steps_of, is_path. -/
namespace Oo
open PySem PySem.Spec PyProof.Rows L2
def wordOf : Kd → Str
  | .read _ => "read" | .store _ => "store" | .step _ _ _ => "step" | .op _ => "op" | .call _ => "call" | .thn => "then" | .wand => "and" | .wor => "or" | .cho => "choose"
/-- a node's tuple begins with its word -/
theorem node_word {H : Hp} {a : Addr} {k : Kd} {vs : List V} (h : NodeAt H a k vs) : ∃ r, H a = some (.tup (.str (wordOf k) :: r)) := by
  cases k <;> first | exact ⟨_, h⟩ | exact (let ⟨b, h1, _⟩ := h; ⟨_, h1⟩)
theorem at0 {x : V} {r : List V} : atI (x :: r) 0 = some x := atI_nat (j := 0) rfl
def spOperands (K : PySem.W.Frag) : Sp := fun vs H Q _ => ∃ v e, vs = [v] ∧ TreeAt H v e ∧ (∃ B, Wf B e) ∧ ∀ a ws H', Same H H' → H' a = some (.tup ws) → TreesAt H' ws e.kids → Q (.ref a) H'
theorem iteT2 {A B : Prop} {b : Bool} (e : b = true) (h : A) : if b = true then A else B := by rw [if_pos e]; exact h
theorem iteF2 {A B : Prop} {b : Bool} (e : b = false) (h : B) : if b = true then A else B := by rw [e, if_neg (by decide)]; exact h
section
variable {P : Program} {w : World} {K : PySem.W.Frag} {mg : Str → Option Value} {base : Heap}
theorem sc_operands : FnScope ["node"] ["node"] (defScope (top 24)) := ⟨rfl, rfl, rfl, by decide +kernel, rfl, by decide +kernel, by decide +kernel⟩
theorem w_operands (T : Txt K w mg) : CallP P w K mg base 1 "operands" (spOperands K) := by
  refine mkP T 7 sc_operands (fun _ _ _ _ _ _ us hl => match us, hl with | [_], _ => rfl) (fun vs H Q E h => ?_) fun cdv A outer s H vs Q E hr h => ?_
  · obtain ⟨v, e, rfl, _⟩ := h
    rfl
  obtain ⟨v, e, rfl, ht, ⟨B, wf⟩, q⟩ := h
  have hz : (2 : Nat) ≤ sizeLine := by decide
  refine ⟨_, pss_cons (ps_if (PW.pt (pw_or (pt_val (pe_callB call_isi (by rfl) (T.free "isinstance" (by decide +kernel)) (by decide +kernel) (pa_cons (pv 0) (pa_cons (pe_bltn (v := .ty "int") (by rfl) (T.free "int" (by decide +kernel)) (by decide +kernel) rfl) pa_nil))))
      (pw_or1 (pt_cmpR op_in_seq (pe_ix ix_tup (pv 0) pe_int (fun _ _ => rfl)) (pe_tup (pa_cons pe_str (pa_cons pe_str pa_nil))) rfl)))) (pss_one (ps_ret (pe_tup pa_nil))) pss_nil)
    (pss_cons (ps_if (pt_cmpR op_eq (pe_ix ix_tup (pv 0) pe_int (fun _ _ => rfl)) pe_str (nomark _)) (pss_one (ps_ret (pe_ix ix_tup (pv 0) pe_int (fun _ _ => rfl)))) pss_nil)
    (pss_one (ps_ret (pe_ifExp (pt_cmpR op_in_seq (pe_ix ix_tup (pv 0) pe_int (fun _ _ => rfl)) (pe_tup (pa_cons pe_str (pa_cons pe_str pa_nil))) rfl) (pe_slice sl_tupU (pv 0) (po_some pe_int) po_none) (pe_slice sl_tupU (pv 0) (po_some pe_int) po_none))))), ?_⟩
  cases e with
  | num n =>
    rw [TreeAt] at ht
    subst ht
    refine ⟨_, rfl, .int n, .ty "int", _, _, true, rfl, .ty _, tyInt n, kit_ty (by decide +kernel), _, rfl, ?_⟩
    refine iteT ?_
    exact ⟨Nat.zero_le _, fun t ht => q t [] _ (same_new ht) upd_same (by rw [Ex.kids, TreesAt])⟩
  | nd k es =>
    rw [TreeAt] at ht
    obtain ⟨a, ws, rfl, hn, hk⟩ := ht
    obtain ⟨r, hw⟩ := node_word hn
    refine ⟨_, rfl, .ref a, .ty "int", _, _, false, rfl, .ty _, tyT hw, kit_ty (by decide +kernel), _, rfl, ?_⟩
    refine iteF ?_
    refine ⟨_, rfl, a, _, _, _, rfl, rfl, SqT.of hw, at0, hz, fun t ht => ?_⟩
    refine ⟨t, _, rfl, .inr (SqT.of upd_same), rfl, rfl, _, rfl, ?_⟩
    have s1 : Same H (upd H t (.tup [.str "read", .str "step"])) := same_new ht
    have hn1 := hn.keep s1.tk
    have hk1 := hk.keep s1.tk
    generalize hH1 : upd H t (.tup [V.str "read", V.str "step"]) = H1 at *
    have wf' : WfK B k es.length := wf
    have fin : ∀ (b : Addr) (H2 : Hp), Same H1 H2 → H2 b = some (.tup ws) → Q (.ref b) H2 := fun b H2 s2 hb => q b ws H2 (s1.trans s2) hb (hk1.keep s2.tk)
    have nil : es.length = 0 → ∀ (b : Addr) (H2 : Hp), Same H1 H2 → H2 b = some (.tup []) → Q (.ref b) H2 := fun hl b H2 s2 hb => q b [] H2 (s1.trans s2) hb (by
      rw [List.eq_nil_of_length_eq_zero hl, Ex.kids, TreesAt])
    cases k with
    | read p => exact iteT2 (by rfl) ⟨Nat.zero_le _, fun u hu => nil wf'.2 u _ (same_new hu) upd_same⟩
    | step p b m => exact iteT2 (by rfl) ⟨Nat.zero_le _, fun u hu => nil wf'.2.2.2 u _ (same_new hu) upd_same⟩
    | call f =>
      obtain ⟨b, h1, h2⟩ := hn1
      refine iteF2 (by rfl) ⟨_, rfl, a, _, _, _, rfl, rfl, SqT.of h1, at0, rfl, _, rfl, iteT2 (by rfl) ?_⟩
      exact ⟨_, rfl, a, _, _, _, rfl, rfl, SqT.of h1, atI_nat (j := 2) rfl, fin b H1 (Same.refl _) h2⟩
    | store p =>
      have h1 : H1 a = some (.tup ([.str "store", .str p] ++ ws)) := hn1
      refine iteF2 (by rfl) ⟨_, rfl, a, _, _, _, rfl, rfl, SqT.of h1, at0, rfl, _, rfl, iteF2 (by rfl) ?_⟩
      refine ⟨_, rfl, a, _, _, _, rfl, rfl, SqT.of h1, at0, hz, fun t2 ht2 => ?_⟩
      refine ⟨t2, _, rfl, .inr (SqT.of upd_same), rfl, rfl, _, rfl, iteT2 (by rfl) ?_⟩
      refine ⟨_, rfl, _, rfl, a, _, rfl, same_new ht2 _ _ h1, fun b H3 s3 hb => fin b H3 ((same_new ht2).trans s3) ?_⟩
      rw [hb, show (some (2 : Int)) = some ((2 : Nat) : Int) from rfl, cut_from]
      rfl
    | op o =>
      have h1 : H1 a = some (.tup ([.str "op", .str o] ++ ws)) := hn1
      refine iteF2 (by rfl) ⟨_, rfl, a, _, _, _, rfl, rfl, SqT.of h1, at0, rfl, _, rfl, iteF2 (by rfl) ?_⟩
      refine ⟨_, rfl, a, _, _, _, rfl, rfl, SqT.of h1, at0, hz, fun t2 ht2 => ?_⟩
      refine ⟨t2, _, rfl, .inr (SqT.of upd_same), rfl, rfl, _, rfl, iteT2 (by rfl) ?_⟩
      refine ⟨_, rfl, _, rfl, a, _, rfl, same_new ht2 _ _ h1, fun b H3 s3 hb => fin b H3 ((same_new ht2).trans s3) ?_⟩
      rw [hb, show (some (2 : Int)) = some ((2 : Nat) : Int) from rfl, cut_from]
      rfl
    | _ =>
      have h1 := hn1
      refine iteF2 (by rfl) ⟨_, rfl, a, _, _, _, rfl, rfl, SqT.of h1, at0, rfl, _, rfl, iteF2 (by rfl) ?_⟩
      refine ⟨_, rfl, a, _, _, _, rfl, rfl, SqT.of h1, at0, hz, fun t2 ht2 => ?_⟩
      refine ⟨t2, _, rfl, .inr (SqT.of upd_same), rfl, rfl, _, rfl, iteF2 (by rfl) ?_⟩
      refine ⟨_, rfl, _, rfl, a, _, rfl, same_new ht2 _ _ h1, fun b H3 s3 hb => fin b H3 ((same_new ht2).trans s3) ?_⟩
      rw [hb, show (some (1 : Int)) = some ((1 : Nat) : Int) from rfl, cut_from]
      rfl
theorem sc_law_law_operands : FnScope ["_law_node"] ["_law_node"] (defScope (top 62)) := ⟨rfl, rfl, rfl, by decide +kernel, rfl, by decide +kernel, by decide +kernel⟩
theorem w_law_operands (T : Txt K w mg) : CallP P w K mg base 1 "_law_operands" (spOperands K) := by
  refine mkP T 38 sc_law_law_operands (fun _ _ _ _ _ _ us hl => match us, hl with | [_], _ => rfl) (fun vs H Q E h => ?_) fun cdv A outer s H vs Q E hr h => ?_
  · obtain ⟨v, e, rfl, _⟩ := h
    rfl
  obtain ⟨v, e, rfl, ht, ⟨B, wf⟩, q⟩ := h
  have hz : (2 : Nat) ≤ sizeLine := by decide
  refine ⟨_, pss_cons (ps_if (PW.pt (pw_or (pt_val (pe_callB call_isi (by rfl) (T.free "isinstance" (by decide +kernel)) (by decide +kernel) (pa_cons (pv 0) (pa_cons (pe_bltn (v := .ty "int") (by rfl) (T.free "int" (by decide +kernel)) (by decide +kernel) rfl) pa_nil))))
      (pw_or1 (pt_cmpR op_in_seq (pe_ix ix_tup (pv 0) pe_int (fun _ _ => rfl)) (pe_tup (pa_cons pe_str (pa_cons pe_str pa_nil))) rfl)))) (pss_one (ps_ret (pe_tup pa_nil))) pss_nil)
    (pss_cons (ps_if (pt_cmpR op_eq (pe_ix ix_tup (pv 0) pe_int (fun _ _ => rfl)) pe_str (nomark _)) (pss_one (ps_ret (pe_ix ix_tup (pv 0) pe_int (fun _ _ => rfl)))) pss_nil)
    (pss_one (ps_ret (pe_ifExp (pt_cmpR op_in_seq (pe_ix ix_tup (pv 0) pe_int (fun _ _ => rfl)) (pe_tup (pa_cons pe_str (pa_cons pe_str pa_nil))) rfl) (pe_slice sl_tupU (pv 0) (po_some pe_int) po_none) (pe_slice sl_tupU (pv 0) (po_some pe_int) po_none))))), ?_⟩
  cases e with
  | num n =>
    rw [TreeAt] at ht
    subst ht
    refine ⟨_, rfl, .int n, .ty "int", _, _, true, rfl, .ty _, tyInt n, kit_ty (by decide +kernel), _, rfl, ?_⟩
    refine iteT ?_
    exact ⟨Nat.zero_le _, fun t ht => q t [] _ (same_new ht) upd_same (by rw [Ex.kids, TreesAt])⟩
  | nd k es =>
    rw [TreeAt] at ht
    obtain ⟨a, ws, rfl, hn, hk⟩ := ht
    obtain ⟨r, hw⟩ := node_word hn
    refine ⟨_, rfl, .ref a, .ty "int", _, _, false, rfl, .ty _, tyT hw, kit_ty (by decide +kernel), _, rfl, ?_⟩
    refine iteF ?_
    refine ⟨_, rfl, a, _, _, _, rfl, rfl, SqT.of hw, at0, hz, fun t ht => ?_⟩
    refine ⟨t, _, rfl, .inr (SqT.of upd_same), rfl, rfl, _, rfl, ?_⟩
    have s1 : Same H (upd H t (.tup [.str "read", .str "step"])) := same_new ht
    have hn1 := hn.keep s1.tk
    have hk1 := hk.keep s1.tk
    generalize hH1 : upd H t (.tup [V.str "read", V.str "step"]) = H1 at *
    have wf' : WfK B k es.length := wf
    have fin : ∀ (b : Addr) (H2 : Hp), Same H1 H2 → H2 b = some (.tup ws) → Q (.ref b) H2 := fun b H2 s2 hb => q b ws H2 (s1.trans s2) hb (hk1.keep s2.tk)
    have nil : es.length = 0 → ∀ (b : Addr) (H2 : Hp), Same H1 H2 → H2 b = some (.tup []) → Q (.ref b) H2 := fun hl b H2 s2 hb => q b [] H2 (s1.trans s2) hb (by
      rw [List.eq_nil_of_length_eq_zero hl, Ex.kids, TreesAt])
    cases k with
    | read p => exact iteT2 (by rfl) ⟨Nat.zero_le _, fun u hu => nil wf'.2 u _ (same_new hu) upd_same⟩
    | step p b m => exact iteT2 (by rfl) ⟨Nat.zero_le _, fun u hu => nil wf'.2.2.2 u _ (same_new hu) upd_same⟩
    | call f =>
      obtain ⟨b, h1, h2⟩ := hn1
      refine iteF2 (by rfl) ⟨_, rfl, a, _, _, _, rfl, rfl, SqT.of h1, at0, rfl, _, rfl, iteT2 (by rfl) ?_⟩
      exact ⟨_, rfl, a, _, _, _, rfl, rfl, SqT.of h1, atI_nat (j := 2) rfl, fin b H1 (Same.refl _) h2⟩
    | store p =>
      have h1 : H1 a = some (.tup ([.str "store", .str p] ++ ws)) := hn1
      refine iteF2 (by rfl) ⟨_, rfl, a, _, _, _, rfl, rfl, SqT.of h1, at0, rfl, _, rfl, iteF2 (by rfl) ?_⟩
      refine ⟨_, rfl, a, _, _, _, rfl, rfl, SqT.of h1, at0, hz, fun t2 ht2 => ?_⟩
      refine ⟨t2, _, rfl, .inr (SqT.of upd_same), rfl, rfl, _, rfl, iteT2 (by rfl) ?_⟩
      refine ⟨_, rfl, _, rfl, a, _, rfl, same_new ht2 _ _ h1, fun b H3 s3 hb => fin b H3 ((same_new ht2).trans s3) ?_⟩
      rw [hb, show (some (2 : Int)) = some ((2 : Nat) : Int) from rfl, cut_from]
      rfl
    | op o =>
      have h1 : H1 a = some (.tup ([.str "op", .str o] ++ ws)) := hn1
      refine iteF2 (by rfl) ⟨_, rfl, a, _, _, _, rfl, rfl, SqT.of h1, at0, rfl, _, rfl, iteF2 (by rfl) ?_⟩
      refine ⟨_, rfl, a, _, _, _, rfl, rfl, SqT.of h1, at0, hz, fun t2 ht2 => ?_⟩
      refine ⟨t2, _, rfl, .inr (SqT.of upd_same), rfl, rfl, _, rfl, iteT2 (by rfl) ?_⟩
      refine ⟨_, rfl, _, rfl, a, _, rfl, same_new ht2 _ _ h1, fun b H3 s3 hb => fin b H3 ((same_new ht2).trans s3) ?_⟩
      rw [hb, show (some (2 : Int)) = some ((2 : Nat) : Int) from rfl, cut_from]
      rfl
    | _ =>
      have h1 := hn1
      refine iteF2 (by rfl) ⟨_, rfl, a, _, _, _, rfl, rfl, SqT.of h1, at0, rfl, _, rfl, iteF2 (by rfl) ?_⟩
      refine ⟨_, rfl, a, _, _, _, rfl, rfl, SqT.of h1, at0, hz, fun t2 ht2 => ?_⟩
      refine ⟨t2, _, rfl, .inr (SqT.of upd_same), rfl, rfl, _, rfl, iteF2 (by rfl) ?_⟩
      refine ⟨_, rfl, _, rfl, a, _, rfl, same_new ht2 _ _ h1, fun b H3 s3 hb => fin b H3 ((same_new ht2).trans s3) ?_⟩
      rw [hb, show (some (1 : Int)) = some ((1 : Nat) : Int) from rfl, cut_from]
      rfl
def spIsOpen (K : PySem.W.Frag) : Sp := fun vs H Q _ => ∃ v e, vs = [v] ∧ TreeAt H v e ∧ Q (.bl (isOpen e)) H
theorem sc_is_open : FnScope ["node"] ["node"] (defScope (top 25)) := ⟨rfl, rfl, rfl, by decide +kernel, rfl, by decide +kernel, by decide +kernel⟩
theorem w_is_open (T : Txt K w mg) : CallP P w K mg base 1 "is_open" (spIsOpen K) := by
  refine mkP T 8 sc_is_open (fun _ _ _ _ _ _ us hl => match us, hl with | [_], _ => rfl) (fun vs H Q E h => ?_) fun cdv A outer s H vs Q E hr h => ?_
  · obtain ⟨v, e, rfl, _⟩ := h
    rfl
  obtain ⟨v, e, rfl, ht, q⟩ := h
  refine ⟨_, pss_one (ps_ret (pe_and (pe_not (pe_callB call_isi (by rfl) (T.free "isinstance" (by decide +kernel)) (by decide +kernel) (pa_cons (pv 0) (pa_cons (pe_bltn (v := .ty "int") (by rfl) (T.free "int" (by decide +kernel)) (by decide +kernel) rfl) pa_nil))))
    (pe_one (pe_or (pe_cmpR op_eq (pe_ix ix_tup (pv 0) pe_int (fun _ _ => rfl)) pe_str (nomark _)) (pe_one (pe_and (pe_cmpR op_eq (pe_ix ix_tup (pv 0) pe_int (fun _ _ => rfl)) pe_str (nomark _))
      (pe_one (pe_cmpR op_gt (pe_callB call_len_seq (by rfl) (T.free "len" (by decide +kernel)) PySem.boot_len (pa_cons (pe_ix ix_tup (pv 0) pe_int (fun _ _ => rfl)) pa_nil)) pe_int (nomark _))))))))), ?_⟩
  cases e with
  | num n =>
    rw [TreeAt] at ht
    subst ht
    exact ⟨_, rfl, .int n, .ty "int", _, _, true, rfl, .ty _, tyInt n, kit_ty (by decide +kernel), _, rfl, _, rfl, q⟩
  | nd k es =>
    rw [TreeAt] at ht
    obtain ⟨a, ws, rfl, hn, hk⟩ := ht
    obtain ⟨r, hw⟩ := node_word hn
    refine ⟨_, rfl, .ref a, .ty "int", _, _, false, rfl, .ty _, tyT hw, kit_ty (by decide +kernel), _, rfl, _, rfl, ?_⟩
    refine ⟨_, rfl, a, _, _, _, rfl, rfl, SqT.of hw, at0, rfl, _, rfl, ?_⟩
    cases k with
    | op o => exact iteT2 (by rfl) q
    | call f =>
      obtain ⟨b, h1, h2⟩ := hn
      refine iteF2 (by rfl) ⟨_, rfl, a, _, _, _, rfl, rfl, SqT.of h1, at0, rfl, _, rfl, iteT2 (by rfl) ?_⟩
      refine ⟨_, rfl, a, _, _, _, rfl, rfl, SqT.of h1, atI_nat (j := 2) rfl, b, _, rfl, .inr (SqT.of h2), _, _, rfl, rfl, ?_⟩
      have e1 : decide ((1 : Int) < ((ws.length : Nat) : Int)) = isOpen (.nd (.call f) es) := by
        show _ = decide (1 < es.length)
        rw [trees_len hk]
        exact decide_eq_decide.mpr (by omega)
      show Q (.bl (decide ((1 : Int) < ((ws.length : Nat) : Int)))) H
      rw [e1]
      exact q
    | _ => exact iteF2 (by rfl) ⟨_, rfl, a, _, _, _, rfl, rfl, SqT.of hw, at0, rfl, _, rfl, iteF2 (by rfl) q⟩
def spOwnOf (K : PySem.W.Frag) : Sp := fun vs H Q _ => ∃ v e, vs = [v] ∧ TreeAt H v e ∧ Q (.int (e.own : Nat)) H
theorem sc_own_of : FnScope ["node"] ["node"] (defScope (top 48)) := ⟨rfl, rfl, rfl, by decide +kernel, rfl, by decide +kernel, by decide +kernel⟩
theorem w_own_steps_of (T : Txt K w mg) : CallP P w K mg base 1 "own_steps_of" (spOwnOf K) := by
  refine mkP T 20 sc_own_of (fun _ _ _ _ _ _ us hl => match us, hl with | [_], _ => rfl) (fun vs H Q E h => ?_) fun cdv A outer s H vs Q E hr h => ?_
  · obtain ⟨v, e, rfl, _⟩ := h
    rfl
  obtain ⟨v, e, rfl, ht, q⟩ := h
  obtain ⟨es0, n0, D⟩ := T.owns
  refine ⟨_, pss_one (ps_ret (pe_ifExp (pt_val (pe_callB call_isi (by rfl) (T.free "isinstance" (by decide +kernel)) (by decide +kernel) (pa_cons (pv 0) (pa_cons (pe_bltn (v := .ty "int") (by rfl) (T.free "int" (by decide +kernel)) (by decide +kernel) rfl) pa_nil)))) pe_int
    (pe_getW (pe_glob (v := .ref (He.ga K "OWN_STEPS")) (by rfl) (T.glo "OWN_STEPS" (by decide +kernel)) rfl) (pe_ix ix_tup (pv 0) pe_int (fun _ _ => rfl)) pe_int ⟨rfl, rfl, rfl, rfl⟩))), ?_⟩
  cases e with
  | num n =>
    rw [TreeAt] at ht
    subst ht
    exact ⟨_, rfl, .int n, .ty "int", _, _, true, rfl, .ty _, tyInt n, kit_ty (by decide +kernel), _, rfl, iteT q⟩
  | nd k es =>
    rw [TreeAt] at ht
    obtain ⟨a, ws, rfl, hn, hk⟩ := ht
    obtain ⟨r, hw⟩ := node_word hn
    refine ⟨_, rfl, .ref a, .ty "int", _, _, false, rfl, .ty _, tyT hw, kit_ty (by decide +kernel), _, rfl, iteF ?_⟩
    refine ⟨_, _, _, rfl, D, _, rfl, a, _, _, _, rfl, rfl, SqT.of hw, at0, ?_⟩
    cases k with
    | read p => obtain ⟨t, ht⟩ := T.ownN (x := "read") (n := 1); exact ⟨_, _, rfl, ht, .inl ⟨_, .int 1, rfl, ⟨t, rfl⟩, q⟩⟩
    | store p => obtain ⟨t, ht⟩ := T.ownN (x := "store") (n := 1); exact ⟨_, _, rfl, ht, .inl ⟨_, .int 1, rfl, ⟨t, rfl⟩, q⟩⟩
    | step p b m => obtain ⟨t, ht⟩ := T.ownN (x := "step") (n := 2); exact ⟨_, _, rfl, ht, .inl ⟨_, .int 2, rfl, ⟨t, rfl⟩, q⟩⟩
    | call f => obtain ⟨t, ht⟩ := T.ownN (x := "call") (n := 1); exact ⟨_, _, rfl, ht, .inl ⟨_, .int 1, rfl, ⟨t, rfl⟩, q⟩⟩
    | op o => exact ⟨_, _, rfl, T.ownNo (x := "op"), .inr ⟨rfl, q⟩⟩
    | thn => exact ⟨_, _, rfl, T.ownNo (x := "then"), .inr ⟨rfl, q⟩⟩
    | wand => exact ⟨_, _, rfl, T.ownNo (x := "and"), .inr ⟨rfl, q⟩⟩
    | wor => exact ⟨_, _, rfl, T.ownNo (x := "or"), .inr ⟨rfl, q⟩⟩
    | cho => exact ⟨_, _, rfl, T.ownNo (x := "choose"), .inr ⟨rfl, q⟩⟩
def spIsPath : Sp := fun vs H Q _ => ∃ v p, vs = [v] ∧ PathAt H v p ∧ p.length < 1000 ∧ ∀ H', Same H H' → Q (.bl true) H'
theorem sc_is_path : FnScope ["value", "one"] ["value"] (defScope (top 49)) := ⟨rfl, rfl, rfl, by decide +kernel, rfl, by decide +kernel, by decide +kernel⟩
theorem w_is_path (T : Txt K w mg) (cI : CallP P w K mg base 1 "is_integer" (spIsInt K)) : CallP P w K mg base 2 "is_path" spIsPath := by
  refine mkP T 21 sc_is_path (fun _ _ _ _ _ _ us hl => match us, hl with | [_], _ => rfl) (fun vs H Q E h => ?_) fun cdv A outer s H vs Q E hr h => ?_
  · obtain ⟨v, p, rfl, _⟩ := h
    rfl
  obtain ⟨v, p, rfl, ⟨a, rfl, ha⟩, hp, q⟩ := h
  have hsz : (1000 : Nat) < sizeLine := by decide
  have hlen : (p.map V.int).length = p.length := List.length_map _
  refine ⟨_, pss_one (ps_ret (pe_and (pe_callB call_isi (by rfl) (T.free "isinstance" (by decide +kernel)) (by decide +kernel) (pa_cons (pv 0) (pa_cons (pe_bltn (v := .ty "tuple") (by rfl) (T.free "tuple" (by decide +kernel)) (by decide +kernel) rfl) pa_nil)))
    (pe_one (pe_callB (cr_all rfl) (by rfl) (T.free "all" (by decide +kernel)) (by decide +kernel) (pa_cons (pe_lc (own := [("one", 1)]) (g := gName 1) (tt := tYes) rfl sc_is_path.nd (pi_tup (pv 0)) (blkOk_by (N := ["value", "one"]) (sc := defScope (top 49)) (by decide +kernel))
      (fun _ _ _ _ _ => pg_name (i := 1) sc_is_path.nd rfl (Or.inl rfl)) (fun _ _ _ _ _ => pts_nil) (fun _ _ _ _ _ => pe_fn cI hr (by decide) (by rfl) (pa_cons (pv 1) pa_nil))) pa_nil))))), ?_⟩
  refine ⟨_, rfl, .ref a, .ty "tuple", _, _, true, rfl, .ty _, tyT ha, kit_ty (by decide +kernel), _, rfl, ?_⟩
  refine ⟨_, rfl, a, rfl, ⟨_, SqT.of ha⟩, fun D hD => lc_gen Nix p.length (fun i acc H => acc = List.replicate i (V.bl true)) hD (fun a h => h.elim) (fun H _ => rfl) (fun i acc H H' e _ => e) (fun i acc H hi e => ?_) (fun i H2 hi k => ?_) (fun H2 k => ?_) ?_ ?_⟩
  · rw [e, List.length_replicate]; omega
  · exact ⟨_, _, SqT.of (k.tup ha), List.getElem?_eq_getElem (by omega)⟩
  · exact ⟨_, SqT.of (k.tup ha), by rw [hlen]; exact Nat.le_refl _⟩
  · rintro i acc x H2 H3 N1 N0 h1 h0 hi k rfl ⟨rfl, hx⟩
    have e3 := hx _ (SqT.of (k.tup ha))
    rw [List.getElem?_map, List.getElem?_eq_getElem hi] at e3
    obtain rfl := Option.some.inj e3
    exact ⟨rfl, _, rfl, _, rfl, .inl ⟨_, rfl, h1 _ _ (Kp.rfl _ _) (by rw [List.replicate_succ'])⟩⟩
  · rintro H2 acc k e rfl
    refine ⟨D, List.replicate p.length true, rfl, SqL.of (by rw [e, map_true]), ?_⟩
    rw [all_true]
    exact q _ k.same
end
end Oo

set_option Elab.async false
set_option linter.all false
set_option maxRecDepth 100000
set_option maxHeartbeats 4000000
/-! Function and Book. -/
namespace Oo
open PySem PySem.Spec PyProof.Rows L2
/-- all but p is kept -/
def But (p : Addr) (H H' : Hp) : Prop := ∀ b o, H b = some o → b ≠ p → H' b = some o
theorem But.new {p q : Addr} {H H1 : Hp} {o : HO} (x : But p H H1) (h : H1 q = none) : But p H (upd H1 q o) := fun b u e n => by rw [upd_ne (ne_of_none (x b u e n) h)]; exact x b u e n
theorem But.set {p : Addr} {H H1 : Hp} {o : HO} (x : But p H H1) : But p H (upd H1 p o) := fun b u e n => by rw [upd_ne n]; exact x b u e n
theorem But.of {p : Addr} {H H1 : Hp} (x : Same H H1) : But p H H1 := fun b u e _ => x b u e
theorem But.tk {p : Addr} {H H1 : Hp} {u : HO} (x : But p H H1) (h : H p = some u) (n : ∀ xs, u ≠ .tup xs) : TupK H H1 := fun a xs e => x a _ e (ne_of e h fun z => n xs z.symm)
theorem But.trans {p : Addr} {H H1 H2 : Hp} (x : But p H H1) (y : But p H1 H2) : But p H H2 := fun b o e n => y b o (x b o e n) n
theorem putF_app {f : Str} {v : V} : ∀ {fs : List (Str × V)}, (fs.map (·.1)).contains f = false → putF f v fs = fs ++ [(f, v)]
  | [], _ => rfl
  | (g, x) :: r, h => by
    rw [List.map_cons, List.contains_cons, Bool.or_eq_false_iff] at h
    show (if g = f then _ else (g, x) :: putF f v r) = _
    rw [if_neg (fun e => by rw [e] at h; simp at h), putF_app h.2]
    rfl
def spFnInit (K : PySem.W.Frag) : Sp := fun vs H Q _ => ∃ (p dx ra sa : Addr) (f : Fd), vs = [.ref p, .str f.nm, .int f.n, .ref ra, .ref sa] ∧ H p = some (.ins (He.ga K "Function") dx []) ∧ goodN f.nm = true ∧ f.n ≤ 3 ∧ H ra = some (.tup (f.rs.map V.str)) ∧ Plc f.rs ∧ H sa = some (.tup (f.ss.map V.str)) ∧ Plc f.ss ∧
  ∀ H', But p H H' → H' p = some (.ins (He.ga K "Function") dx (fnFs f ra sa)) → Q .non H'
/-- what a caller of C(a, .., k = v, ..) must know -/
def MakeKP (P : Program) (w : World) (K : PySem.W.Frag) (mg : Str → Option Value) (base : Heap) (k : Nat) (C : Addr) (x : Str) (n : Nat) (ks : List Str) (sp : Sp) : Prop :=
  ∃ f fd ps g, mg x = some (.ref C) ∧ Mk K C f ∧ KBn K fd ps (n + 1) ks g (fun vs zs => vs ++ zs) ∧ FnOk P w K mg base CX0 k f fd ps sp
theorem pe_mkK {X : Cx} {k j n : Nat} {C : Addr} {x : Str} {sp : Sp} {e : Expr} {es : List Expr} {kws : List Keyword} {ks : List Str} {t tk : TA} {p pos : Pos} (c : MakeKP X.prog X.w X.K X.mg X.base k C x n ks sp) (hr : Room j X.A) (hk : k + 1 ≤ j) (hg : Gl X x) (ha : PA X (e :: es) t) (hkw : PK X kws tk)
    (hall : (backToKw pos (keywordEach kws X.env)).all (·.1.isSome) = true := by rfl) (hks : (backToKw pos (keywordEach kws X.env)).filterMap (·.1) = ks := by rfl) (hdb : (x == ("__debug__" : Str)) = false := by decide)
    (he : starEach (e :: es) X.env = (false, eval e X.env) :: starEach es X.env := by rfl) (hpl : ((backTo pos (starEach (e :: es) X.env)).any (·.1) || (backToKw pos (keywordEach kws X.env)).any (·.1.isNone)) = false := by rfl) :
    PE X (.Call (.Name x p) (e :: es) kws pos) (tMakeK C n ks.length sp (fun vs zs => vs ++ zs) L2.E0 t tk) := by
  obtain ⟨f, fd, ps, g, hm, M, hb, F⟩ := c
  exact pe_makeK M F (hr.mono hk) hg hm hb pass0 ha hkw hall hks hdb he hpl
section
variable {P : Program} {w : World} {K : PySem.W.Frag} {mg : Str → Option Value} {base : Heap}
theorem sc_fn : FnScope ["self", "name", "arguments", "reads", "stores"] ["self", "name", "arguments", "reads", "stores"] (defScope (inClass (top 19) 0)) := ⟨rfl, rfl, rfl, by decide +kernel, rfl, by decide +kernel, by decide +kernel⟩
theorem w_fn_init (T : Txt K w mg) (cN : CallP P w K mg base 1 "is_name" spIsName) (cI : CallP P w K mg base 1 "is_integer" (spIsInt K)) (cP : CallP P w K mg base 2 "are_places" spArePl) :
    MakeKP P w K mg base 3 (He.ga K "Function") "Function" 2 ["reads", "stores"] (spFnInit K) := by
  obtain ⟨fd, F⟩ := T.dfs _ (List.mem_of_getElem? (show fn[3]? = some _ from rfl))
  have hb : KBn K fd ["self", "name", "arguments", "reads", "stores"] 3 ["reads", "stores"] (fun us ws => us ++ ws) (fun vs zs => vs ++ zs) := by
    obtain ⟨oc, od, dV, kV, doc, pm, an, cdv, ct, osl, rfl, lk, hcd, hD, hK⟩ := F.ex
    rcases hD with ⟨e, _⟩ | ⟨_, D, o, its, m, rfl, lT, oT, rT⟩
    · exact absurd e (fun z => nomatch z)
    refine ⟨fun s us ws X l1 l2 => BindsTo.of_looks fun M => ?_, fun r1 r2 => r1.append r2⟩
    have l3 : its.length = 1 := rT.length.symm
    match us, ws, its, l1, l2, l3, oT with
    | [a1, a2, a3], [b1, b2], [i0], _, _, _, oT =>
      obtain ⟨k, e1, e2⟩ : ∃ k, bindArgs (PySem.W.fnOf "__init__" "Function.__init__" (defArgs (inClass (top 19) 0)) (defBody (inClass (top 19) 0)) (defScope (inClass (top 19) 0)) (.ref D) kV doc pm an cdv ct) ⟨[a1, a2, a3], (["reads", "stores"] : List Str).zip [b1, b2]⟩ = seqItems? (.ref D) >>= k ∧
        k (some [i0].toArray) = pure ((["self", "name", "arguments", "reads", "stores"] : List Str).zip ([a1, a2, a3] ++ [b1, b2])) := ⟨_, rfl, rfl⟩
      exact e1 ▸ looks_items X lT oT (e2 ▸ PySem.W.Looks.now)
  refine ⟨_, fd, _, _, T.glo "Function" (by decide +kernel), T.mkr, hb, F.ok sc_fn (fun vs H Q E h => ?_) fun cdv A outer s H vs Q E hr h => ?_⟩
  · obtain ⟨p, dx, ra, sa, f, rfl, _⟩ := h
    rfl
  obtain ⟨p, dx, ra, sa, f, rfl, hp, gN, h3, hra, pr, hsa, ps, q⟩ := h
  obtain ⟨tm, hM⟩ := T.intF ("MOST_ARGUMENTS", 3) (by decide +kernel)
  refine ⟨_, PSs.nox (pss_cons (ps_if (pt_not (pt_val (pe_fn cN hr (by decide) (by rfl) (pa_cons (pv 1) pa_nil)))) (pss_one ps_never) pss_nil)
    (pss_cons (ps_if (PW.pt (pw_or (pt_not (pt_val (pe_fn cI hr (by decide) (by rfl) (pa_cons (pv 2) pa_nil)))) (pw_or1 (pt_not (pt_chain op_le op_le pe_int (pv 2) (pe_glob (v := .int 3) (by rfl) hM ⟨_, rfl⟩)))))) (pss_one ps_never) pss_nil)
    (pss_cons (ps_if (pt_not (pt_val (pe_fn cP hr (by decide) (by rfl) (pa_cons (pv 3) pa_nil)))) (pss_one ps_never) pss_nil)
    (pss_cons (ps_if (pt_not (pt_val (pe_fn cP hr (by decide) (by rfl) (pa_cons (pv 4) pa_nil)))) (pss_one ps_never) pss_nil)
    (pss_cons (ps_fld (pv 0) (pv 1) rfl) (pss_cons (ps_fld (pv 0) (pv 2) rfl) (pss_cons (ps_fld (pv 0) (pv 3) rfl) (pss_one (ps_fld (pv 0) (pv 4) rfl))))))))), ?_⟩
  refine ⟨_, rfl, f.nm, rfl, gN, fun H1 s1 => ⟨_, rfl, iteF ?_⟩⟩
  refine ⟨_, rfl, _, rfl, .inl ⟨_, rfl, _, rfl, iteF ?_⟩⟩
  refine ⟨_, rfl, _, _, rfl, rfl, _, rfl, ?_⟩
  rw [decide_eq_true (by omega)]
  refine iteT ⟨_, _, rfl, rfl, _, rfl, ?_⟩
  rw [decide_eq_true (by omega)]
  refine iteF ?_
  refine ⟨_, rfl, ra, f.rs, rfl, s1 _ _ hra, pr, fun H2 s2 => ⟨_, rfl, iteF ?_⟩⟩
  refine ⟨_, rfl, sa, f.ss, rfl, s2 _ _ (s1 _ _ hsa), ps, fun H3 s3 => ⟨_, rfl, iteF ?_⟩⟩
  have s : Same H H3 := s1.trans (s2.trans s3)
  have b0 : But p H H3 := .of s
  refine ⟨_, rfl, _, rfl, p, _, dx, _, rfl, s _ _ hp, T.cls, T.noat, by decide, ?_⟩
  refine ⟨_, rfl, _, rfl, p, _, dx, _, rfl, upd_same, T.cls, T.noat, by show 1 < 1000; decide, ?_⟩
  refine ⟨_, rfl, _, rfl, p, _, dx, _, rfl, upd_same, T.cls, T.noat, by rw [putF_app (by rfl)]; show 2 < 1000; decide, ?_⟩
  refine ⟨_, rfl, _, rfl, p, _, dx, _, rfl, upd_same, T.cls, T.noat, by rw [putF_app (by rfl), putF_app (by rfl)]; show 3 < 1000; decide, ?_⟩
  refine q _ b0.set.set.set.set ?_
  rw [upd_same, putF_app (fs := []) (by rfl)]
  rw [putF_app (by rfl), putF_app (by rfl), putF_app (by rfl)]
  rfl
end
/-- a dict comprehension (keys ints or texts) of n turns over anything -/
theorem dc_it {J : It} {g : TG} {tt : TT} {tk tv : TE} {vs : List Nat} {σ : L2.St} {H1 : Hp} {D : Addr} {Qd : Hp → Prop} (n : Nat) (Pv : Nat → Hp → Prop) (h0 : Pv 0 (upd H1 D (.dK []))) (hgo : ∀ i H, i < n → Pv i H → J.go i H) (hst : ∀ H, Pv n H → J.stop n H)
    (hs : ∀ (i : Nat) (x : V) (H H' : Hp), i < n → Pv i H → J.yld i H x H' → g x (wipe σ vs) H' fun σ2 H2 => wipe σ2 vs = wipe σ vs ∧ tt σ2 H2 fun b H3 =>
      if b = true then tk σ2 H3 fun y H4 => tv σ2 H4 fun z H5 => ∃ kvs k, y = kV k ∧ H5 D = some (.dK kvs) ∧ kvs.length < sizeLine ∧ Pv (i + 1) (upd H5 D (.dK (putK kvs k z))) else Pv (i + 1) H3) (hd : ∀ H, Pv n H → Qd H) :
    ∃ W : Nat → Nat → Hp → Prop, (∃ m, W 0 m (upd H1 D (.dK []))) ∧ ∀ i m H, W i m H →
      (J.stop i H ∧ Qd H) ∨ (J.go i H ∧ ∃ Nx : Hp → Prop, (∀ H', Nx H' → ∃ m', m' < m ∧ W (i + 1) m' H') ∧ ∀ x H', J.yld i H x H' → g x (wipe σ vs) H' fun σ2 H2 => wipe σ2 vs = wipe σ vs ∧ tt σ2 H2 fun b H3 =>
        if b = true then tk σ2 H3 fun y H4 => tv σ2 H4 fun z H5 => ∃ kvs k, y = kV k ∧ H5 D = some (.dK kvs) ∧ kvs.length < sizeLine ∧ Nx (upd H5 D (.dK (putK kvs k z))) else Nx H3) := by
  refine ⟨fun i m H => m = n - i ∧ i ≤ n ∧ Pv i H, ⟨n, rfl, Nat.zero_le _, h0⟩, ?_⟩
  rintro i m H ⟨rfl, hi, p⟩
  by_cases hlt : i < n
  · exact .inr ⟨hgo i H hlt p, Pv (i + 1), fun H' p' => ⟨n - (i + 1), by omega, rfl, hlt, p'⟩, fun x H' y => hs i x H H' hlt p y⟩
  · have e : i = n := by omega
    subst e
    exact .inl ⟨hst H p, hd H p⟩
theorem valV_no {κ : Type} [DecidableEq κ] {k : κ} : ∀ {kvs : List (κ × V)}, k ∉ kvs.map (·.1) → valV kvs k = none
  | [], _ => rfl
  | p :: r, h => by
    rw [List.map_cons, List.mem_cons, not_or] at h
    rw [valV_neg fun e => h.1 e.symm, valV_no h.2]
/-- Book's own promise, its functions in a tuple -/
def spBookT (K : PySem.W.Frag) : Sp := fun vs H Q _ => ∃ (p dx t : Addr) (us : List V) (B : List Fd), vs = [.ref p, .ref t] ∧ H p = some (.ins (He.ga K "Book") dx []) ∧ H t = some (.tup us) ∧ Paired (FnAt K H) us B ∧ (B.map (·.nm)).Nodup ∧ B.length ≤ 3 ∧
  ∀ H', But p H H' → BookAt K H' (.ref p) B → Q .non H'
def spBook (K : PySem.W.Frag) : Sp := fun vs H Q _ => ∃ (p dx : Addr) (us : List V) (B : List Fd), vs = .ref p :: us ∧ H p = some (.ins (He.ga K "Book") dx []) ∧ Paired (FnAt K H) us B ∧ (B.map (·.nm)).Nodup ∧ B.length ≤ 3 ∧
  ∀ H', But p H H' → BookAt K H' (.ref p) B → Q .non H'
section
variable {P : Program} {w : World} {K : PySem.W.Frag} {mg : Str → Option Value} {base : Heap}
abbrev bN : List Str := ["self", "functions", "table", "at", "one", "name"]
theorem sc_book : FnScope bN ["self", "functions"] (defScope (inClass (top 20) 1)) := ⟨rfl, rfl, rfl, by decide +kernel, rfl, by decide +kernel, by decide +kernel⟩
/-- where the i-th function's name leads -/
structure Tbl (us : List V) (B : List Fd) (i : Nat) (kvs : List (Key × V)) : Prop where
  keys : kvs.map (·.1) = (B.take i).map fun f => Sum.inr f.nm
  vals : ∀ j f u, j < i → B[j]? = some f → us[j]? = some u → valV kvs (Sum.inr f.nm) = some u
theorem w_book_init (T : Txt K w mg) : MakeP P w K mg base 1 (He.ga K "Book") "Book" (spBook K) := by
  obtain ⟨fd, F⟩ := T.dfs _ (List.mem_of_getElem? (show fn[4]? = some _ from rfl))
  refine mkrP (C := "Book") T ?_
  obtain ⟨oc, od, dV, kV, doc, pm, an, cdv, ct, osl, rfl, lk, hcd, hD, hK⟩ := F.ex
  have hdV : dV = .none := by
    rcases hD with ⟨_, h⟩ | ⟨e, _⟩
    · exact h
    · exact absurd rfl e
  subst hdV
  obtain ⟨tm, hM⟩ := cnum_ok (T.ex 6)
  have hR := read_ok (T.ex 9)
  have hi := T.ex 11
  unfold insB at hi
  simp only [Bool.and_eq_true] at hi
  obtain ⟨i1, i2, i3, i4, i5⟩ := hi
  have body : ∀ (A : Around) (outer : List Env) (s : Shared) (H : Hp) (vs : List V) (Q : VK) (E : XK), Room 0 (A.deeper (envOfC "Book.__init__" (defScope (inClass (top 20) 1)) s.heap.objs.size (He.ma K (He.ga K "Book") "__init__") cdv)) → spBookT K vs H Q E →
      ∃ t, PSs (cxOf CX0 P w K mg base bN "Book.__init__" (defScope (inClass (top 20) 1)) (He.ma K (He.ga K "Book") "__init__") cdv A outer s H E).nox (defBody (inClass (top 20) 1)) t ∧ t { nx := fun _ H' => Q .non H', rt := Q } (start bN vs) H := by
    intro A outer s H vs Q E hr h
    obtain ⟨p, dx, t, us, B, rfl, hp, ht, hf, nd, h3, q⟩ := h
    have hu := hu_of hr
    have hlen : us.length = B.length := Paired.length hf
    have hz : (3 : Nat) < sizeLine := by decide
    refine ⟨_, pss_cons (ps_set (i := 2) sc_book.nd rfl (Or.inr rfl) pe_dnewK)
      (pss_cons (ps_for PassesOwn.never rfl (pi_enumT (by rfl) (T.free "enumerate" (by decide +kernel)) (pa_cons (pv 1) pa_nil)) (pg_tup rfl (pgs_cons (pg_name (i := 3) sc_book.nd rfl (Or.inl rfl)) (pgs_cons (pg_name (i := 4) sc_book.nd rfl (Or.inl rfl)) pgs_nil)))
        (pss_cons (ps_if (PW.pt (pw_or (pt_not (pt_val (pe_callB call_isi (by rfl) (T.free "isinstance" (by decide +kernel)) (by decide +kernel) (pa_cons (pv 4) (pa_cons (pe_glob (v := .ref (He.ga K "Function")) (by rfl) (T.glo "Function" (by decide +kernel)) rfl) pa_nil)))))
          (pw_or1 (pt_cmp (pc_din hu (pe_fld (pv 4) rfl) (pv 2)))))) (pss_one ps_never) pss_nil)
        (pss_one (ps_dput hu (pv 2) (pe_fld (pv 4) rfl) (pv 4) rfl))))
      (pss_cons (ps_if (pt_cmpR op_gt (pe_callB call_len_seq (by rfl) (T.free "len" (by decide +kernel)) PySem.boot_len (pa_cons (pv 1) pa_nil)) (ClX.pe_cval (pe_glob (v := .ref (He.ga K "Book")) (by rfl) (T.glo "Book" (by decide +kernel)) rfl)) (nomark _)) (pss_one ps_never) pss_nil)
      (pss_one (ps_fld (pv 0) (pe_dc (own := [("name", 5)]) (g := gName 5) (tt := tYes) rfl sc_book.nd (pi_list (pe_callB (call_sortedD rfl) (by rfl) (T.free "sorted" (by decide +kernel)) (by decide +kernel) (pa_cons (pv 2) pa_nil))) (blkOk_by (N := bN) (sc := defScope (inClass (top 20) 1)) (by decide +kernel))
        (fun _ _ _ _ _ => pg_name (i := 5) sc_book.nd rfl (Or.inl rfl)) (fun _ _ _ _ _ => pts_nil) (fun _ _ _ _ _ => pv 5) (fun _ _ _ _ _ => pe_dget hu (pv 2) (pv 5) (fun _ _ => rfl))) rfl)))), ?_⟩
    intro d hd
    have fnK : ∀ H', Same H H' → Paired (FnAt K H') us B := fun H' s => Paired.mapP hf fun _ _ z => z.keep (Kp.of (S := Nix) s)
    refine ⟨_, rfl, t, us, rfl, SqT.of (same_new hd _ _ ht), for_enumT (xs := us) (fun i σ H' => ∃ (at' on : Option V) (kvs : List (Key × V)), σ = [some (.ref p), some (.ref t), some (.ref d), at', on, none] ∧ Same H H' ∧ H' d = some (.dK kvs) ∧ Tbl us B i kvs)
      ⟨none, none, [], rfl, same_new hd, upd_same, rfl, fun j f u h => absurd h (Nat.not_lt_zero _)⟩ (fun i σ H' ⟨_, _, _, _, s1, _⟩ => SqT.of (s1 _ _ ht)) ?_ ?_⟩
    · rintro i x tt σ H1 hx ⟨at', on, kvs, rfl, s1, hd1, tb⟩ htt
      have hi : i < us.length := (List.getElem?_eq_some_iff.mp hx).1
      obtain ⟨f, hfi, fa⟩ := paired_get (fnK H1 s1) hx
      obtain ⟨a, ax, ra, sa, rfl, ha, hra, hsa⟩ := fa
      have htd : d ≠ tt := ne_of_none hd1 htt
      have ha2 : (upd H1 tt (.tup [.int (i : Nat), .ref a])) a = some (.ins (He.ga K "Function") ax (fnFs f ra sa)) := same_new htt _ _ ha
      have hd2 : (upd H1 tt (.tup [.int (i : Nat), .ref a])) d = some (.dK kvs) := same_new htt _ _ hd1
      have no : valV kvs (Sum.inr f.nm) = none := valV_no (by
        rw [tb.keys]
        intro hm
        obtain ⟨f', hm', e⟩ := List.mem_map.mp hm
        injection e with e
        have hB : i < B.length := by omega
        have e2 : B[i] = f := by
          rw [List.getElem?_eq_getElem hB] at hfi
          exact Option.some.inj hfi
        obtain ⟨j, hj, ej⟩ := List.mem_iff_getElem.mp hm'
        rw [List.length_take] at hj
        rw [List.getElem_take] at ej
        have := (List.nodup_iff_pairwise_ne.mp nd)
        rw [List.pairwise_map, List.pairwise_iff_getElem] at this
        exact this j i (by omega) hB (by omega) (by rw [ej, e2, e]))
      refine ⟨tt, _, rfl, SqT.of upd_same, rfl, _, _, rfl, _, _, rfl, rfl, ?_⟩
      refine ⟨_, rfl, .ref a, .ref (He.ga K "Function"), _, _, true, rfl, .own _, .base (.ins ha2 T.cls (of_decide_eq_true i1) (of_decide_eq_true i2) (of_decide_eq_true i3) (of_decide_eq_true i4)), of_decide_eq_true i5, _, rfl, iteF ?_⟩
      refine ⟨_, rfl, a, _, ax, _, _, rfl, ha2, T.cls, T.noat, rfl, _, rfl, d, _, rfl, DGet.k (k := Sum.inr f.nm) hd2, _, rfl, ?_⟩
      rw [no]
      refine iteF ?_
      refine ⟨_, rfl, _, rfl, _, rfl, a, _, ax, _, _, rfl, ha2, T.cls, T.noat, rfl, d, _, rfl, DPut.k (k := Sum.inr f.nm) hd2 ?_, ?_⟩
      · have := congrArg List.length tb.keys
        rw [List.length_map, List.length_map, List.length_take] at this
        omega
      · refine ⟨_, _, _, rfl, fun b o e => ?_, upd_same, ?_, ?_⟩
        · rw [upd_ne (ne_of_none e hd)]
          exact same_new htt b o (s1 b o e)
        · rw [putK_new _ no, List.map_append, tb.keys]
          have hB : i < B.length := by omega
          have e2 : B[i] = f := by
            rw [List.getElem?_eq_getElem hB] at hfi
            exact Option.some.inj hfi
          rw [List.take_add_one, hfi]
          simp
        · intro j f' u' hj hf' hu'
          rw [valV_put]
          by_cases e : j = i
          · subst e
            rw [hfi] at hf'
            rw [hx] at hu'
            obtain rfl := Option.some.inj hf'
            rw [if_pos rfl]
            exact hu'
          · have ne : ¬ (Sum.inr f'.nm : Key) = Sum.inr f.nm := fun z => by
              have := tb.vals j f' u' (by omega) hf' hu'
              rw [z, no] at this
              cases this
            rw [if_neg ne]
            exact tb.vals j f' u' (by omega) hf' hu'
    · rintro σ H1 ⟨at', on, kvs, rfl, s1, hd1, tb⟩
      refine ⟨_, rfl, t, us, rfl, .inr (SqT.of (s1 _ _ ht)), _, _, _, _, rfl, hR, hM, ?_⟩
      refine ⟨_, _, rfl, rfl, _, rfl, ?_⟩
      rw [decide_eq_false (by omega)]
      refine iteF ?_
      have keys : kvs.map (·.1) = (B.map (·.nm)).map Sum.inr := by
        rw [tb.keys, List.take_of_length_le (by omega), List.map_map]; rfl
      refine ⟨_, rfl, d, kvs, B.map (·.nm), rfl, .inl hd1, keys, by rw [List.length_map]; omega, fun ys l perm srt hl => ?_⟩
      have s2 : Same H (upd H1 l (.lst (ys.map V.str))) := s1.nw hl
      have hd2 : (upd H1 l (.lst (ys.map V.str))) d = some (.dK kvs) := same_new hl _ _ hd1
      have hyl : ys.length = B.length := by rw [perm.length_eq, List.length_map]
      refine ⟨l, rfl, ⟨_, SqL.of upd_same⟩, fun D hD => dc_it ys.length (fun i H' => Same H H' ∧ H' l = some (.lst (ys.map V.str)) ∧ H' d = some (.dK kvs) ∧ ∃ acc, H' D = some (.dK acc) ∧ acc.length ≤ i ∧ ∀ j nm, j < i → ys[j]? = some nm → valV acc (Sum.inr nm) = valV kvs (Sum.inr nm)) ?_ ?_ ?_ ?_ ?_⟩
      · exact ⟨s2.nw hD, same_new hD _ _ upd_same, same_new hD _ _ hd2, [], upd_same, Nat.le_refl _, fun j nm h => absurd h (Nat.not_lt_zero _)⟩
      · rintro i H2 hi ⟨_, hl2, _⟩
        exact ⟨_, _, SqL.of hl2, List.getElem?_eq_getElem (by rw [List.length_map]; exact hi)⟩
      · rintro H2 ⟨_, hl2, _⟩
        exact ⟨_, SqL.of hl2, by rw [List.length_map]; exact Nat.le_refl _⟩
      · rintro i x H2 H3 hi ⟨s3, hl2, hd3, acc, hD2, ha, hv⟩ ⟨rfl, hx⟩
        have e3 := hx _ (SqL.of hl2)
        rw [List.getElem?_map, List.getElem?_eq_getElem hi] at e3
        obtain rfl := Option.some.inj e3
        have hin : ys[i] ∈ B.map (·.nm) := perm.mem_iff.mp (List.getElem_mem hi)
        obtain ⟨f, hfB, efn⟩ := List.mem_map.mp hin
        obtain ⟨j, hj, ej⟩ := List.mem_iff_getElem.mp hfB
        have hju : j < us.length := by omega
        have vj := tb.vals j f us[j] hju (by rw [List.getElem?_eq_getElem hj, ej]) (List.getElem?_eq_getElem hju)
        rw [efn] at vj
        have nDl : l ≠ D := ne_of hl2 hD2 (fun z => nomatch z)
        have nDd : d ≠ D := fun z => by
          rw [z] at hd2
          rw [hd2] at hD
          cases hD
        have dg := DGet.k (k := Sum.inr ys[i]) hd3
        rw [vj] at dg
        refine ⟨rfl, _, rfl, _, rfl, _, rfl, d, _, rfl, dg, acc, Sum.inr ys[i], rfl, hD2, by omega, ?_⟩
        refine ⟨fun b o e => ?_, ?_, ?_, _, upd_same, ?_, ?_⟩
        · rw [upd_ne (ne_of_none (s2 b o e) hD)]
          exact s3 b o e
        · rw [upd_ne nDl]; exact hl2
        · rw [upd_ne nDd]; exact hd3
        · have := length_putK acc (Sum.inr ys[i] : Key) us[j]
          omega
        · intro j' nm hj' hnm
          rw [valV_put]
          by_cases e : (Sum.inr nm : Key) = Sum.inr ys[i]
          · rw [if_pos e, e, vj]
          · rw [if_neg e]
            refine hv j' nm ?_ hnm
            by_cases e2 : j' = i
            · subst e2
              rw [List.getElem?_eq_getElem hi] at hnm
              exact absurd (by rw [Option.some.inj hnm]) e
            · omega
      · rintro H2 ⟨s3, hl2, hd3, acc, hD2, ha, hv⟩
        refine ⟨_, rfl, p, _, dx, _, rfl, s3 _ _ hp, T.cls, T.noat, by decide, ?_⟩
        have npD : D ≠ p := fun z => by rw [z, s2 _ _ hp] at hD; cases hD
        refine q _ (But.of s3).set ⟨p, dx, D, acc, rfl, upd_same, by rw [upd_ne npD]; exact hD2, fun f hfB => ?_⟩
        obtain ⟨j, hj, ej⟩ := List.mem_iff_getElem.mp hfB
        have hju : j < us.length := by omega
        have vj := tb.vals j f us[j] hju (by rw [List.getElem?_eq_getElem hj, ej]) (List.getElem?_eq_getElem hju)
        have hin : f.nm ∈ ys := perm.mem_iff.mpr (List.mem_map.mpr ⟨f, hfB, rfl⟩)
        obtain ⟨k, hk, ek⟩ := List.mem_iff_getElem.mp hin
        refine ⟨us[j], by rw [hv k f.nm hk (by rw [List.getElem?_eq_getElem hk, ek])]; exact vj, ?_⟩
        obtain ⟨f', hf', fa⟩ := paired_get (fnK H2 s3) (List.getElem?_eq_getElem hju)
        rw [List.getElem?_eq_getElem hj, ej] at hf'
        obtain rfl := Option.some.inj hf'
        obtain ⟨a, ax, ra, sa, ea, ha', hra, hsa⟩ := fa
        have nap : a ≠ p := ne_of ha' (s3 _ _ hp) (fun z => by injection z with _ _ z; cases z)
        exact ⟨a, ax, ra, sa, ea, by rw [upd_ne nap]; exact ha', by rw [upd_ne (ne_of hra (s3 _ _ hp) fun z => nomatch z)]; exact hra, by rw [upd_ne (ne_of hsa (s3 _ _ hp) fun z => nomatch z)]; exact hsa⟩
  refine FnR.imp (StX.fn_star (ps := ["self"]) (pv := "functions") (sp := spBookT K) lk hcd sc_book StX.cxUp_none (fun us rest hl => ?_) fun A outer s H vs Q E hr h => ?_) fun vs H Q E h => ?_
  · match us, rest, hl with
    | [a], [], _ => rfl
    | [a], r :: rs, _ => rfl
  · exact (let ⟨t, h1, h2⟩ := body A outer s H vs Q E hr h; ⟨t, h1.nox, h2⟩)
  · obtain ⟨p, dx, us, B, rfl, hp, hf, nd, h3, q⟩ := h
    refine ⟨[.ref p], us, rfl, rfl, ?_, fun t ht => ⟨p, dx, t, us, B, rfl, same_new ht _ _ hp, upd_same, Paired.mapP hf fun _ _ z => z.keep (Kp.of (S := Nix) (same_new ht)), nd, h3, fun H' b hB => q H' ((But.of (same_new ht)).trans b) hB⟩⟩
    rw [Paired.length hf]
    exact Nat.le_trans h3 (by decide)
end
end Oo

set_option Elab.async false
set_option linter.all false
set_option maxRecDepth 100000
set_option maxHeartbeats 4000000
/-! a book's item; own_steps, steps_in, share. -/
namespace Oo
open PySem PySem.Spec PyProof.Rows L2
def spHas (K : PySem.W.Frag) : Sp := fun vs H Q _ => ∃ v nm B, vs = [v, .str nm] ∧ BookAt K H v B ∧ (∃ f ∈ B, f.nm = nm) ∧ Q (.bl true) H
def spGet (K : PySem.W.Frag) : Sp := fun vs H Q _ => ∃ v nm B f, vs = [v, .str nm] ∧ BookAt K H v B ∧ f ∈ B ∧ f.nm = nm ∧ ∀ u, FnAt K H u f → Q u H
section
variable {P : Program} {w : World} {K : PySem.W.Frag} {mg : Str → Option Value} {base : Heap}
theorem sc_has : FnScope ["self", "name"] ["self", "name"] (defScope (inClass (top 20) 5)) := ⟨rfl, rfl, rfl, by decide +kernel, rfl, by decide +kernel, by decide +kernel⟩
theorem w_has (T : Txt K w mg) : MethP P w K mg base 1 (He.ga K "Book") "__contains__" (spHas K) := by
  refine mthP (C := "Book") (m := "__contains__") T (mkM T 6 sc_has (fun _ _ _ _ _ _ us hl => match us, hl with | [_, _], _ => rfl) (fun vs H Q E h => ?_) fun cdv A outer s H vs Q E hr h => ?_)
  · obtain ⟨v, nm, B, rfl, _⟩ := h
    rfl
  obtain ⟨v, nm, B, rfl, ⟨a, dx, d, kvs, rfl, ha, hd, hB⟩, ⟨f, hf, rfl⟩, q⟩ := h
  have hu := hu_of hr
  refine ⟨_, pss_one (ps_ret (pe_and (pe_callB call_isi (by rfl) (T.free "isinstance" (by decide +kernel)) (by decide +kernel) (pa_cons (pv 1) (pa_cons (pe_bltn (v := .ty "str") (by rfl) (T.free "str" (by decide +kernel)) (by decide +kernel) rfl) pa_nil)))
    (pe_one (pe_cmp (pc_din hu (pv 1) (pe_fld (pv 0) rfl)) rfl)))), ?_⟩
  refine ⟨_, rfl, .str f.nm, .ty "str", _, _, true, rfl, .ty _, tyStr _, kit_ty (by decide +kernel), _, rfl, ?_⟩
  obtain ⟨u, hu', _⟩ := hB f hf
  refine ⟨_, rfl, _, rfl, a, _, dx, _, _, rfl, ha, T.cls, T.noat, rfl, d, _, rfl, DGet.k (k := Sum.inr f.nm) hd, ?_⟩
  rw [hu']
  exact q
theorem sc_get : FnScope ["self", "name"] ["self", "name"] (defScope (inClass (top 20) 3)) := ⟨rfl, rfl, rfl, by decide +kernel, rfl, by decide +kernel, by decide +kernel⟩
theorem w_get (T : Txt K w mg) (cH : MethP P w K mg base 1 (He.ga K "Book") "__contains__" (spHas K)) : MethP P w K mg base 2 (He.ga K "Book") "__getitem__" (spGet K) := by
  refine mthP (C := "Book") (m := "__getitem__") T (mkM T 5 sc_get (fun _ _ _ _ _ _ us hl => match us, hl with | [_, _], _ => rfl) (fun vs H Q E h => ?_) fun cdv A outer s H vs Q E hr h => ?_)
  · obtain ⟨v, nm, B, f, rfl, _⟩ := h
    rfl
  obtain ⟨v, nm, B, f, rfl, hb, hf, rfl, q⟩ := h
  obtain ⟨a, dx, d, kvs, rfl, ha, hd, hB⟩ := id hb
  obtain ⟨fc, mc, _, Fc⟩ := cH
  have hu := hu_of hr
  refine ⟨_, pss_cons (ps_if (pt_cmpR (op_notInOwn mc Fc hr pass0) (pv 1) (pv 0) rfl) (pss_one ps_never) pss_nil)
    (pss_one (ps_ret (pe_dget hu (pe_fld (pv 0) rfl) (pv 1) (fun _ _ => rfl)))), ?_⟩
  refine ⟨_, rfl, _, rfl, a, dx, _, rfl, ha, _, _, B, rfl, hb, ⟨f, hf, rfl⟩, true, rfl, _, rfl, iteF ?_⟩
  obtain ⟨u, hu', fa⟩ := hB f hf
  have dg := DGet.k (k := Sum.inr f.nm) hd
  rw [hu'] at dg
  exact ⟨_, rfl, a, _, dx, _, _, rfl, ha, T.cls, T.noat, rfl, _, rfl, d, _, rfl, dg, q u fa⟩
/-! own_steps -/
def spOwnSteps (K : PySem.W.Frag) : Sp := fun vs H Q _ => ∃ vb v vp B e p, vs = [vb, v, vp] ∧ BookAt K H vb B ∧ TreeAt H v e ∧ Wf B e ∧ PathAt H vp p ∧ ∀ l rs H', Same H H' → H' l = some (.lst rs) → RowsAt H' rs (List.replicate e.own p) → Q (.ref l) H'
theorem sc_own_steps : FnScope ["book", "node", "path", "word"] ["book", "node", "path"] (defScope (top 33)) := ⟨rfl, rfl, rfl, by decide +kernel, rfl, by decide +kernel, by decide +kernel⟩
theorem z1 : (1 : Nat) ≤ sizeLine := by decide
theorem z2 : (2 : Nat) ≤ sizeLine := by decide
theorem z3 : (3 : Nat) ≤ sizeLine := by decide
theorem z4 : (4 : Nat) ≤ sizeLine := by decide
theorem z0 : (0 : Nat) ≤ sizeLine := by decide
theorem w_own_steps (T : Txt K w mg) (cG : MethP P w K mg base 2 (He.ga K "Book") "__getitem__" (spGet K)) : CallP P w K mg base 4 "own_steps" (spOwnSteps K) := by
  refine mkP T 9 sc_own_steps (fun _ _ _ _ _ _ us hl => match us, hl with | [_, _, _], _ => rfl) (fun vs H Q E h => ?_) fun cdv A outer s H vs Q E hr h => ?_
  · obtain ⟨vb, v, vp, B, e, p, rfl, _⟩ := h
    rfl
  obtain ⟨vb, v, vp, B, e, p, rfl, hb, ht, wf, ⟨pa, rfl, hp⟩, q⟩ := h
  obtain ⟨fg, mG, hfn, Fg⟩ := cG
  obtain ⟨t1, hR⟩ := T.strF ("READ", "read") (by decide +kernel)
  obtain ⟨t2, hS⟩ := T.strF ("STORE", "store") (by decide +kernel)
  obtain ⟨t3, hC⟩ := T.strF ("CALL", "call") (by decide +kernel)
  refine ⟨_, pss_cons (ps_set (i := 3) sc_own_steps.nd rfl (Or.inl rfl) (pe_ifExp (pt_val (pe_callB call_isi (by rfl) (T.free "isinstance" (by decide +kernel)) (by decide +kernel) (pa_cons (pv 1) (pa_cons (pe_bltn (v := .ty "int") (by rfl) (T.free "int" (by decide +kernel)) (by decide +kernel) rfl) pa_nil)))) pe_str (pe_ix ix_tup (pv 1) pe_int (fun _ _ => rfl))))
    (pss_cons (ps_if (pt_cmpR op_eq (pv 3) pe_str (nomark _)) (pss_one (ps_ret (pe_lst (pa_cons (pe_tup (pa_cons (pe_glob (v := .str "read") (by rfl) hR ⟨_, rfl⟩) (pa_cons (pv 2) (pa_cons (pe_tup (pa_cons (pe_ix ix_tup (pv 1) pe_int (fun _ _ => rfl)) pa_nil)) (pa_cons (pe_tup pa_nil) pa_nil))))) pa_nil)))) pss_nil)
    (pss_cons (ps_if (pt_cmpR op_eq (pv 3) pe_str (nomark _)) (pss_one (ps_ret (pe_lst (pa_cons (pe_tup (pa_cons (pe_glob (v := .str "store") (by rfl) hS ⟨_, rfl⟩) (pa_cons (pv 2) (pa_cons (pe_tup pa_nil) (pa_cons (pe_tup (pa_cons (pe_ix ix_tup (pv 1) pe_int (fun _ _ => rfl)) pa_nil)) pa_nil))))) pa_nil)))) pss_nil)
    (pss_cons (ps_if (pt_cmpR op_eq (pv 3) pe_str (nomark _)) (pss_one (ps_ret (pe_lst (pa_cons (pe_tup (pa_cons (pe_glob (v := .str "read") (by rfl) hR ⟨_, rfl⟩) (pa_cons (pv 2) (pa_cons (pe_tup (pa_cons (pe_ix ix_tup (pv 1) pe_int (fun _ _ => rfl)) pa_nil)) (pa_cons (pe_tup pa_nil) pa_nil)))))
        (pa_cons (pe_tup (pa_cons (pe_glob (v := .str "store") (by rfl) hS ⟨_, rfl⟩) (pa_cons (pv 2) (pa_cons (pe_tup pa_nil) (pa_cons (pe_tup (pa_cons (pe_ix ix_tup (pv 1) pe_int (fun _ _ => rfl)) pa_nil)) pa_nil))))) pa_nil))))) pss_nil)
    (pss_cons (ps_if (pt_cmpR op_eq (pv 3) pe_str (nomark _)) (pss_one (ps_ret (pe_lst (pa_cons (pe_tup (pa_cons (pe_glob (v := .str "call") (by rfl) hC ⟨_, rfl⟩) (pa_cons (pv 2)
        (pa_cons (pe_fld (pe_ixOwn mG hfn Fg hr pass0 (pv 0) (pe_ix ix_tup (pv 1) pe_int (fun _ _ => rfl))) rfl) (pa_cons (pe_fld (pe_ixOwn mG hfn Fg hr pass0 (pv 0) (pe_ix ix_tup (pv 1) pe_int (fun _ _ => rfl))) rfl) pa_nil))))) pa_nil)))) pss_nil)
    (pss_one (ps_ret (pe_lst pa_nil))))))), ?_⟩
  cases e with
  | num n =>
    rw [TreeAt] at ht
    subst ht
    refine ⟨_, rfl, .int n, .ty "int", _, _, true, rfl, .ty _, tyInt n, kit_ty (by decide +kernel), _, rfl, iteT ?_⟩
    refine ⟨_, rfl, rfl, _, rfl, iteF2 (by rfl) ⟨_, rfl, rfl, _, rfl, iteF2 (by rfl) ⟨_, rfl, rfl, _, rfl, iteF2 (by rfl) ⟨_, rfl, rfl, _, rfl, iteF2 (by rfl) ?_⟩⟩⟩⟩
    exact ⟨z0, fun l hl => q l [] _ (same_new hl) upd_same .nil⟩
  | nd k es =>
    rw [TreeAt] at ht
    obtain ⟨a, ws, rfl, hn, hk⟩ := ht
    obtain ⟨r, hw⟩ := node_word hn
    refine ⟨_, rfl, .ref a, .ty "int", _, _, false, rfl, .ty _, tyT hw, kit_ty (by decide +kernel), _, rfl, iteF ?_⟩
    refine ⟨_, rfl, a, _, _, _, rfl, rfl, SqT.of hw, at0, ?_⟩
    -- one row from its pieces
    have row : ∀ (H' : Hp) (t r s : Addr) (kk : Str) (rs ss : List Str), Same H H' → H' t = some (.tup [.str kk, .ref pa, .ref r, .ref s]) → H' r = some (.tup (rs.map V.str)) → H' s = some (.tup (ss.map V.str)) → rs.length ≤ 4 ∧ ss.length ≤ 4 → RowAt H' (.ref t) p :=
      fun H' t r s kk rs ss s1 h1 h2 h3 h4 => ⟨t, pa, r, s, kk, rs, ss, rfl, h1, s1 _ _ hp, h2, h3, h4⟩
    cases k with
    | read nm =>
      have h1 : H a = some (.tup ([.str "read", .str nm] ++ ws)) := hn
      refine ⟨_, rfl, rfl, _, rfl, iteT2 (by rfl) ?_⟩
      refine ⟨_, rfl, _, rfl, a, _, _, _, rfl, rfl, SqT.of h1, atI_nat (j := 1) rfl, z1, fun t1 ht1 => ⟨z0, fun t2 ht2 => ⟨z4, fun t3 ht3 => ⟨z1, fun l hl => ?_⟩⟩⟩⟩
      refine q l _ _ ((((same_new ht1).nw ht2).nw ht3).nw hl) upd_same (.cons (row _ t3 t1 t2 "read" [nm] [] ((((same_new ht1).nw ht2).nw ht3).nw hl) ?_ ?_ ?_ (by simp)) .nil)
      · exact same_new hl _ _ upd_same
      · exact (((same_new ht2).nw ht3).nw hl) _ _ upd_same
      · exact ((same_new ht3).nw hl) _ _ upd_same
    | store nm =>
      have h1 : H a = some (.tup ([.str "store", .str nm] ++ ws)) := hn
      refine ⟨_, rfl, rfl, _, rfl, iteF2 (by rfl) ⟨_, rfl, rfl, _, rfl, iteT2 (by rfl) ?_⟩⟩
      refine ⟨_, rfl, z0, fun t1 ht1 => ⟨_, rfl, a, _, _, _, rfl, rfl, SqT.of (same_new ht1 _ _ h1), atI_nat (j := 1) rfl, z1, fun t2 ht2 => ⟨z4, fun t3 ht3 => ⟨z1, fun l hl => ?_⟩⟩⟩⟩
      refine q l _ _ ((((same_new ht1).nw ht2).nw ht3).nw hl) upd_same (.cons (row _ t3 t1 t2 "store" [] [nm] ((((same_new ht1).nw ht2).nw ht3).nw hl) ?_ ?_ ?_ (by simp)) .nil)
      · exact same_new hl _ _ upd_same
      · exact (((same_new ht2).nw ht3).nw hl) _ _ upd_same
      · exact ((same_new ht3).nw hl) _ _ upd_same
    | step nm b m =>
      have h1 : H a = some (.tup ([.str "step", .str nm, .int b, .str m] ++ ws)) := hn
      refine ⟨_, rfl, rfl, _, rfl, iteF2 (by rfl) ⟨_, rfl, rfl, _, rfl, iteF2 (by rfl) ⟨_, rfl, rfl, _, rfl, iteT2 (by rfl) ?_⟩⟩⟩
      refine ⟨_, rfl, _, rfl, a, _, _, _, rfl, rfl, SqT.of h1, atI_nat (j := 1) rfl, z1, fun t1 ht1 => ⟨z0, fun t2 ht2 => ⟨z4, fun t3 ht3 => ?_⟩⟩⟩
      have s3 := (((same_new ht1 (o := .tup [.str nm])).nw ht2 (o := .tup [])).nw ht3 (o := .tup [.str "read", .ref pa, .ref t1, .ref t2]))
      refine ⟨_, rfl, z0, fun t4 ht4 => ⟨_, rfl, a, _, _, _, rfl, rfl, SqT.of ((s3.nw ht4) _ _ h1), atI_nat (j := 1) rfl, z1, fun t5 ht5 => ⟨z4, fun t6 ht6 => ⟨z2, fun l hl => ?_⟩⟩⟩⟩
      have s6 := ((s3.nw ht4 (o := .tup [])).nw ht5 (o := .tup [.str nm])).nw ht6 (o := .tup [.str "store", .ref pa, .ref t4, .ref t5])
      refine q l _ _ (s6.nw hl) upd_same (.cons (row _ t3 t1 t2 "read" [nm] [] (s6.nw hl) ?_ ?_ ?_ (by simp)) (.cons (row _ t6 t4 t5 "store" [] [nm] (s6.nw hl) ?_ ?_ ?_ (by simp)) .nil))
      · exact ((((same_new ht4).nw ht5).nw ht6).nw hl) _ _ upd_same
      · exact ((((((same_new ht2).nw ht3).nw ht4).nw ht5).nw ht6).nw hl) _ _ upd_same
      · exact (((((same_new ht3).nw ht4).nw ht5).nw ht6).nw hl) _ _ upd_same
      · exact same_new hl _ _ upd_same
      · exact (((same_new ht5).nw ht6).nw hl) _ _ upd_same
      · exact ((same_new ht6).nw hl) _ _ upd_same
    | call f =>
      obtain ⟨b, h1, h2⟩ := hn
      obtain ⟨⟨fd, hf, ef, _⟩, _⟩ := (show WfK B (.call f) es.length from wf)
      obtain ⟨ba, bx, d, kvs, eb, hba, hd, hB⟩ := id hb
      subst eb
      refine ⟨_, rfl, rfl, _, rfl, iteF2 (by rfl) ⟨_, rfl, rfl, _, rfl, iteF2 (by rfl) ⟨_, rfl, rfl, _, rfl, iteF2 (by rfl) ⟨_, rfl, rfl, _, rfl, iteT2 (by rfl) ?_⟩⟩⟩⟩
      refine ⟨_, rfl, _, rfl, _, rfl, a, _, _, _, rfl, rfl, SqT.of h1, atI_nat (j := 1) rfl, ba, bx, _, rfl, hba, _, _, B, fd, rfl, hb, hf, ef, fun u hu => ?_⟩
      obtain ⟨ua, ux, ra, sa, rfl, hua, hra, hsa⟩ := hu
      refine ⟨ua, _, ux, _, _, rfl, hua, T.cls, T.noat, rfl, ?_⟩
      refine ⟨_, rfl, _, rfl, a, _, _, _, rfl, rfl, SqT.of h1, atI_nat (j := 1) rfl, ba, bx, _, rfl, hba, _, _, B, fd, rfl, hb, hf, ef, fun u hu => ?_⟩
      obtain ⟨u2, ux2, ra2, sa2, rfl, hua2, hra2, hsa2⟩ := hu
      refine ⟨u2, _, ux2, _, _, rfl, hua2, T.cls, T.noat, rfl, z4, fun t3 ht3 => ⟨z1, fun l hl => ?_⟩⟩
      have s1 := (same_new ht3 (o := .tup [.str "call", .ref pa, .ref ra, .ref sa2])).nw hl (o := .lst [.ref t3])
      exact q l _ _ s1 upd_same (.cons (row _ t3 ra sa2 "call" fd.rs fd.ss s1 (same_new hl _ _ upd_same) (s1 _ _ hra) (s1 _ _ hsa2) ⟨fd.hr, fd.hs⟩) .nil)
    | _ =>
      refine ⟨_, rfl, rfl, _, rfl, iteF2 (by rfl) ⟨_, rfl, rfl, _, rfl, iteF2 (by rfl) ⟨_, rfl, rfl, _, rfl, iteF2 (by rfl) ⟨_, rfl, rfl, _, rfl, iteF2 (by rfl) ?_⟩⟩⟩⟩
      exact ⟨z0, fun l hl => q l [] _ (same_new hl) upd_same .nil⟩
end
end Oo

set_option Elab.async false
set_option linter.all false
set_option maxRecDepth 100000
set_option maxHeartbeats 4000000
/-! steps_in, share, spots_in, the law's nodes. -/
namespace Oo
open PySem PySem.Spec PyProof.Rows L2
theorem steps_get : ∀ {es : List Ex} {j : Nat} {d : Ex}, es[j]? = some d → steps d ≤ stepsL es
  | [], _, _, h => by simp at h
  | e :: r, 0, d, h => by simp at h; subst h; rw [stepsL]; omega
  | e :: r, j + 1, d, h => by
    have := steps_get (es := r) (j := j) (d := d) (by simpa using h)
    rw [stepsL]; omega
theorem cnt_get : ∀ {es : List Ex} {j : Nat} {d : Ex}, es[j]? = some d → cnt d ≤ cntL es
  | [], _, _, h => by simp at h
  | e :: r, 0, d, h => by simp at h; subst h; rw [cntL]; omega
  | e :: r, j + 1, d, h => by
    have := cnt_get (es := r) (j := j) (d := d) (by simpa using h)
    rw [cntL]; omega
theorem steps_kids (e : Ex) : steps e = stepsL e.kids + e.own := by cases e <;> simp [steps, stepsL, Ex.kids, Ex.own]
theorem dep_kids (e : Ex) : dep e = depL e.kids := by cases e <;> simp [dep, depL, Ex.kids]
theorem cnt_kids (e : Ex) : cnt e = cntL e.kids + 1 := by cases e <;> simp [cnt, cntL, Ex.kids]
theorem All.kids {F : Ex → Prop} {e : Ex} (h : All F e) {j : Nat} {d : Ex} (hj : e.kids[j]? = some d) : All F d := by
  cases e with
  | num n => simp [Ex.kids] at hj
  | nd k es => exact h.kid hj
theorem rowsL_take {es : List Ex} {i : Nat} {d : Ex} {p : Path} (h : es[i]? = some d) : rowsL (es.take (i + 1)) p 0 = rowsL (es.take i) p 0 ++ rows d (p ++ [(i : Int)]) := by
  have hi : i < es.length := (List.getElem?_eq_some_iff.mp h).1
  rw [List.take_add_one, h]
  show rowsL (es.take i ++ [d]) p 0 = _
  rw [rowsL_append, List.length_take, Nat.min_eq_left (by omega), Nat.zero_add]
  show _ ++ (rows d (p ++ [(i : Int)]) ++ []) = _
  rw [List.append_nil]
theorem nodesL_take {es : List Ex} {i : Nat} {d : Ex} {p : Path} (h : es[i]? = some d) : nodesL (es.take (i + 1)) p 0 = nodesL (es.take i) p 0 ++ nodes d (p ++ [(i : Int)]) := by
  have hi : i < es.length := (List.getElem?_eq_some_iff.mp h).1
  rw [List.take_add_one, h]
  show nodesL (es.take i ++ [d]) p 0 = _
  rw [nodesL_append, List.length_take, Nat.min_eq_left (by omega), Nat.zero_add]
  show _ ++ (nodes d (p ++ [(i : Int)]) ++ []) = _
  rw [List.append_nil]
theorem stepsL_append : ∀ (a b : List Ex), stepsL (a ++ b) = stepsL a + stepsL b
  | [], b => by rw [List.nil_append, stepsL, Nat.zero_add]
  | e :: r, b => by rw [List.cons_append, stepsL, stepsL, stepsL_append r b, Nat.add_assoc]
theorem stepsL_take (es : List Ex) (i : Nat) : stepsL (es.take i) ≤ stepsL es := by
  have := stepsL_append (es.take i) (es.drop i)
  rw [List.take_append_drop] at this
  omega
theorem cntL_append : ∀ (a b : List Ex), cntL (a ++ b) = cntL a + cntL b
  | [], b => by rw [List.nil_append, cntL, Nat.zero_add]
  | e :: r, b => by rw [List.cons_append, cntL, cntL, cntL_append r b, Nat.add_assoc]
theorem cntL_take (es : List Ex) (i : Nat) : cntL (es.take i) ≤ cntL es := by
  have := cntL_append (es.take i) (es.drop i)
  rw [List.take_append_drop] at this
  omega
theorem path_snoc {H : Hp} {t : Addr} {p : Path} {i : Nat} (h : H t = some (.tup (p.map V.int ++ [.int (i : Nat)]))) : PathAt H (.ref t) (p ++ [(i : Int)]) := ⟨t, rfl, by rw [h, List.map_append]; rfl⟩
def spStepsIn (K : PySem.W.Frag) (n : Nat) : Sp := fun vs H Q _ => ∃ vb v vp B e p, vs = [vb, v, vp] ∧ BookAt K H vb B ∧ TreeAt H v e ∧ All (Wf B) e ∧ dep e < n ∧ PathAt H vp p ∧ p.length + dep e ≤ 100 ∧ steps e ≤ 100 ∧
  ∀ l rs H', Same H H' → H' l = some (.lst rs) → RowsAt H' rs (rows e p) → Q (.ref l) H'
section
variable {P : Program} {w : World} {K : PySem.W.Frag} {mg : Str → Option Value} {base : Heap}
theorem sc_steps_in : FnScope ["book", "node", "path", "found", "at", "one"] ["book", "node", "path"] (defScope (top 34)) := ⟨rfl, rfl, rfl, by decide +kernel, rfl, by decide +kernel, by decide +kernel⟩
theorem no_call {x : Str} {k : Nat} {sp : Sp} (T : Txt K w mg) (n : Nat) {i : Nat} (hsp : ∀ vs H Q E, ¬ sp vs H Q E) (hn : fn[n]? = some (dF x i) := by rfl) (hg : x ∈ gloL := by decide +kernel) : CallP P w K mg base k x sp := by
  obtain ⟨fd, F⟩ := T.dfs _ (List.mem_of_getElem? hn)
  exact ⟨_, T.glo x hg, F.kp, fun A outer s H us vs Q E _ _ _ h => absurd h (hsp vs H Q E)⟩
theorem w_steps_in (T : Txt K w mg) (cO : CallP P w K mg base 1 "operands" (spOperands K)) (cW : CallP P w K mg base 4 "own_steps" (spOwnSteps K)) : ∀ n : Nat, CallP P w K mg base (4 + n) "steps_in" (spStepsIn K n)
  | 0 => no_call T 10 fun vs H Q E h => by
    obtain ⟨vb, v, vp, B, e, p, _, _, _, _, h, _⟩ := h
    exact absurd h (Nat.not_lt_zero _)
  | n + 1 => by
    have cS := w_steps_in T cO cW n
    refine mkP (k := 4 + n) T 10 sc_steps_in (fun _ _ _ _ _ _ us hl => match us, hl with | [_, _, _], _ => rfl) (fun vs H Q E h => ?_) fun cdv A outer s H vs Q E hr h => ?_
    · obtain ⟨vb, v, vp, B, e, p, rfl, _⟩ := h
      rfl
    obtain ⟨vb, v, vp, B, e, p, rfl, hb, ht, wf, hd, hp, hpl, hst, q⟩ := h
    obtain ⟨pa, rfl, hpa⟩ := id hp
    have hz : (200 : Nat) ≤ sizeLine := by decide
    refine ⟨_, pss_cons (ps_set (i := 3) sc_steps_in.nd rfl (Or.inl rfl) (pe_lst pa_nil))
      (pss_cons (ps_for PassesOwn.never rfl (pi_enumT (by rfl) (T.free "enumerate" (by decide +kernel)) (pa_cons (pe_fn cO hr (by omega) (by rfl) (pa_cons (pv 1) pa_nil)) pa_nil)) (pg_tup rfl (pgs_cons (pg_name (i := 4) sc_steps_in.nd rfl (Or.inl rfl)) (pgs_cons (pg_name (i := 5) sc_steps_in.nd rfl (Or.inl rfl)) pgs_nil)))
        (pss_one (ps_expr (pe_bm PySem.F.plainAttrs_list PySem.F.slot_list_extend PySem.F.type_list_extend mt_extend (pv 3) (pa_cons (pe_fn cS hr (by omega) (by rfl) (pa_cons (pv 0) (pa_cons (pv 5) (pa_cons (pe_tup (StX.pa_star (pv 2) (pa_cons (pv 4) pa_nil))) pa_nil)))) pa_nil)))))
      (pss_one (ps_ret (pe_op op_cat (pv 3) (pe_fn cW hr (by omega) (by rfl) (pa_cons (pv 0) (pa_cons (pv 1) (pa_cons (pv 2) pa_nil)))))))), ?_⟩
    refine ⟨z0, fun l0 hl0 => ?_⟩
    refine ⟨_, rfl, v, e, rfl, ht.keep (same_new hl0).tk, ⟨B, wf.self⟩, fun a ws H1 s1 ha hk => ?_⟩
    have s01 : Same H H1 := (same_new hl0).trans s1
    have hws := trees_len hk
    refine ⟨a, ws, rfl, SqT.of ha, for_enumT (xs := ws) (fun i σ H' => ∃ (at' on : Option V) (acc : List V), σ = [some vb, some v, some (.ref pa), some (.ref l0), at', on] ∧ Same H H' ∧ TupK H1 H' ∧ H' l0 = some (.lst acc) ∧ RowsAt H' acc (rowsL (e.kids.take i) p 0))
      ⟨none, none, [], rfl, s01, fun _ _ h => h, s1 _ _ upd_same, by rw [List.take_zero, rowsL]; exact .nil⟩ (fun i σ H' ⟨_, _, _, _, _, tk, _⟩ => SqT.of (tk _ _ ha)) ?_ ?_⟩
    · rintro i x t σ H2 hx ⟨at', on, acc, rfl, s2, tk, hl, hrw⟩ ht2
      obtain ⟨d, hdi, htd⟩ := trees_get (hk.keep tk) hx
      have s3 := same_new ht2 (o := .tup [.int (i : Nat), x])
      have hdd : dep d + 1 ≤ dep e := by rw [dep_kids e]; exact depL_get hdi
      have hsd : steps d ≤ stepsL e.kids := steps_get hdi
      have hse := steps_kids e
      refine ⟨t, _, rfl, SqT.of upd_same, rfl, _, _, rfl, _, _, rfl, rfl, ?_⟩
      refine ⟨_, rfl, .inl ⟨rfl, _, SqL.of (s3 _ _ hl)⟩, _, rfl, _, rfl, _, rfl, pa, _, rfl, .inl (SqT.of (s3 _ _ (s2 _ _ hpa))), _, rfl, ?_, fun u hu => ?_⟩
      · rw [List.length_append, List.length_map]
        show p.length + 1 ≤ sizeLine
        omega
      have s4 := s3.nw hu (o := .tup (p.map V.int ++ [.int (i : Nat)]))
      refine ⟨vb, x, .ref u, B, d, p ++ [(i : Int)], rfl, hb.keep (Kp.of (S := Nix) (s2.trans s4)), htd.keep s4.tk, wf.kids hdi, by omega, path_snoc upd_same, by rw [List.length_append]; show p.length + 1 + _ ≤ _; omega, by omega, fun l rs H3 s5 hl3 hrs => ?_⟩
      have s6 : Same H2 H3 := s4.trans s5
      have hl6 := s6 _ _ hl
      have ll : acc.length = (rowsL (e.kids.take i) p 0).length := Paired.length hrw
      have lr : rs.length = (rows d (p ++ [(i : Int)])).length := Paired.length hrs
      have st := stepsL_take e.kids i
      rw [rowsL_steps] at ll
      rw [rows_steps] at lr
      refine ⟨l0, l, acc, rs, rfl, rfl, hl6, hl3, by omega, ?_⟩
      have tk3 : TupK H3 (upd H3 l0 (.lst (acc ++ rs))) := TupK.set (fun _ _ h => h) hl6 (fun _ z => nomatch z)
      refine ⟨_, _, acc ++ rs, rfl, fun b o e => ?_, (tk.trans s6.tk).trans tk3, upd_same, ?_⟩
      · rw [upd_ne (ne_of_none e hl0)]
        exact s6 b o (s2 b o e)
      · rw [rowsL_take hdi]
        exact Paired.app ((hrw.keep s6.tk).keep tk3) (hrs.keep tk3)
    · rintro σ H2 ⟨at', on, acc, rfl, s2, tk, hl, hrw⟩
      refine ⟨_, rfl, _, rfl, _, rfl, _, rfl, vb, v, .ref pa, B, e, p, rfl, hb.keep (Kp.of (S := Nix) s2), ht.keep s2.tk, wf.self, hp.keep s2.tk, fun l rs H3 s3 hl3 hrs => ?_⟩
      have ll : acc.length = (rowsL (e.kids.take ws.length) p 0).length := Paired.length hrw
      have st := stepsL_take e.kids ws.length
      rw [rowsL_steps] at ll
      have lr : rs.length = e.own := by rw [Paired.length hrs, List.length_replicate]
      have hse := steps_kids e
      refine ⟨l0, l, acc, rs, rfl, rfl, s3 _ _ hl, hl3, by omega, fun r hr2 => ?_⟩
      refine q r (acc ++ rs) _ ((s2.trans s3).nw hr2) upd_same ?_
      rw [rows_eq, ← List.take_of_length_le (l := e.kids) (i := ws.length) (by omega)]
      have tk3 := (same_new hr2 (o := .lst (acc ++ rs))).tk
      exact Paired.app ((hrw.keep s3.tk).keep tk3) (hrs.keep tk3)
/-! share -/
def spShare : Sp := fun vs H Q _ => ∃ v u p q, vs = [v, u] ∧ RowAt H v p ∧ RowAt H u q ∧ ∀ b H', Same H H' → (∃ c, b = V.bl c) → Q b H'
theorem sc_share : FnScope ["one", "other", "place"] ["one", "other"] (defScope (top 35)) := ⟨rfl, rfl, rfl, by decide +kernel, rfl, by decide +kernel, by decide +kernel⟩
theorem all_flat (ss : List Str) : (ss.map V.str).all flatV = true := by
  rw [List.all_eq_true]
  intro x hx
  obtain ⟨s, _, rfl⟩ := List.mem_map.mp hx
  rfl
abbrev Bls (i : Nat) (acc : List V) : Prop := ∃ bs : List Bool, acc = bs.map V.bl ∧ bs.length = i
theorem Bls.snoc {i : Nat} {acc : List V} (h : Bls i acc) (b : Bool) : Bls (i + 1) (acc ++ [V.bl b]) := by
  obtain ⟨bs, rfl, hl⟩ := h
  exact ⟨bs ++ [b], by rw [List.map_append]; rfl, by rw [List.length_append, hl]; rfl⟩
theorem w_share (T : Txt K w mg) : CallP P w K mg base 1 "share" spShare := by
  refine mkP T 11 sc_share (fun _ _ _ _ _ _ us hl => match us, hl with | [_, _], _ => rfl) (fun vs H Q E h => ?_) fun cdv A outer s H vs Q E hr h => ?_
  · obtain ⟨v, u, p, q, rfl, _⟩ := h
    rfl
  obtain ⟨v, u, p, q, rfl, ⟨a, a1, a2, a3, k1, rs, ss, rfl, ha, ha1, ha2, ha3, l1, l2⟩, ⟨b, b1, b2, b3, k2, rs2, ss2, rfl, hb, hb1, hb2, hb3, l3, l4⟩, k⟩ := h
  have hz : (4 : Nat) < sizeLine := by decide
  refine ⟨_, pss_cons (ps_if (pt_val (pe_callB (cr_any rfl) (by rfl) (T.free "any" (by decide +kernel)) (by decide +kernel) (pa_cons (pe_lc (own := [("place", 2)]) (g := gName 2) (tt := tYes) rfl sc_share.nd (pi_tup (pe_ix ix_tup (pv 0) pe_int (fun _ _ => rfl))) (blkOk_by (N := ["one", "other", "place"]) (sc := defScope (top 35)) (by decide +kernel))
      (fun _ _ _ _ _ => pg_name (i := 2) sc_share.nd rfl (Or.inl rfl)) (fun _ _ _ _ _ => pts_nil) (fun _ _ _ _ _ => pe_or (pe_cmpR (r := rIn K false) op_in_seq (pv 2) (pe_ix (r := rIxT K) ix_tup (pv 1) pe_int (fun _ _ => rfl)) rfl) (pe_one (pe_cmpR (r := rIn K false) op_in_seq (pv 2) (pe_ix (r := rIxT K) ix_tup (pv 1) pe_int (fun _ _ => rfl)) rfl)))) pa_nil))) (pss_one (ps_ret pe_bl)) pss_nil)
    (pss_one (ps_ret (pe_callB (cr_any rfl) (by rfl) (T.free "any" (by decide +kernel)) (by decide +kernel) (pa_cons (pe_lc (own := [("place", 2)]) (g := gName 2) (tt := tYes) rfl sc_share.nd (pi_tup (pe_ix ix_tup (pv 1) pe_int (fun _ _ => rfl))) (blkOk_by (N := ["one", "other", "place"]) (sc := defScope (top 35)) (by decide +kernel))
      (fun _ _ _ _ _ => pg_name (i := 2) sc_share.nd rfl (Or.inl rfl)) (fun _ _ _ _ _ => pts_nil) (fun _ _ _ _ _ => pe_cmpR (r := rIn K false) op_in_seq (pv 2) (pe_ix (r := rIxT K) ix_tup (pv 0) pe_int (fun _ _ => rfl)) rfl)) pa_nil)))), ?_⟩
  refine ⟨_, rfl, a, _, _, _, rfl, rfl, SqT.of ha, atI_nat (j := 3) rfl, a3, rfl, ⟨_, SqT.of ha3⟩, fun D hD => lc_gen Nix ss.length (fun i acc H => Bls i acc) hD (fun a h => h.elim) (fun H _ => ⟨[], rfl, rfl⟩) (fun i acc H H' e _ => e) (fun i acc H hi e => ?_) (fun i H2 hi k2 => ?_) (fun H2 k2 => ?_) ?_ ?_⟩
  · obtain ⟨bs, rfl, e⟩ := e
    rw [List.length_map]; omega
  · exact ⟨_, _, SqT.of (k2.tup ha3), List.getElem?_eq_getElem (by rw [List.length_map]; exact hi)⟩
  · exact ⟨_, SqT.of (k2.tup ha3), by rw [List.length_map]; exact Nat.le_refl _⟩
  · rintro i acc x H2 H3 N1 N0 h1 h0 hi kk e ⟨rfl, hx⟩
    have e3 := hx _ (SqT.of (kk.tup ha3))
    rw [List.getElem?_map, List.getElem?_eq_getElem hi] at e3
    obtain rfl := Option.some.inj e3
    refine ⟨rfl, _, rfl, _, rfl, b, _, _, _, rfl, rfl, SqT.of (kk.tup hb), atI_nat (j := 2) rfl, b2, _, rfl, .inr (SqT.of (kk.tup hb2)), rfl, all_flat _, _, rfl, ?_⟩
    refine ite2 (fun _ => ?_) (fun _ => ?_)
    · exact h1 _ _ (Kp.rfl _ _) (e.snoc true)
    · exact ⟨_, rfl, _, rfl, b, _, _, _, rfl, rfl, SqT.of (kk.tup hb), atI_nat (j := 3) rfl, b3, _, rfl, .inr (SqT.of (kk.tup hb3)), rfl, all_flat _, h1 _ _ (Kp.rfl _ _) (e.snoc _)⟩
  · rintro H2 acc k2 e ⟨bs, rfl, hl⟩
    refine ⟨D, bs, rfl, SqL.of e, _, rfl, ?_⟩
    have s2 := k2.same
    refine ite2 (fun _ => ?_) (fun _ => ?_)
    · exact k _ _ s2 ⟨true, rfl⟩
    · refine ⟨_, rfl, b, _, _, _, rfl, rfl, SqT.of (s2 _ _ hb), atI_nat (j := 3) rfl, b3, rfl, ⟨_, SqT.of (s2 _ _ hb3)⟩, fun D hD => lc_gen Nix ss2.length (fun i acc H => Bls i acc) hD (fun a h => h.elim) (fun H _ => ⟨[], rfl, rfl⟩) (fun i acc H H' e _ => e) (fun i acc H hi e => ?_) (fun i H3 hi k3 => ?_) (fun H3 k3 => ?_) ?_ ?_⟩
      · obtain ⟨bs, rfl, e⟩ := e
        rw [List.length_map]; omega
      · exact ⟨_, _, SqT.of (k3.tup (s2 _ _ hb3)), List.getElem?_eq_getElem (by rw [List.length_map]; exact hi)⟩
      · exact ⟨_, SqT.of (k3.tup (s2 _ _ hb3)), by rw [List.length_map]; exact Nat.le_refl _⟩
      · rintro i acc x H3 H4 N1 N0 h1 h0 hi kk e ⟨rfl, hx⟩
        have e3 := hx _ (SqT.of (kk.tup (s2 _ _ hb3)))
        rw [List.getElem?_map, List.getElem?_eq_getElem hi] at e3
        obtain rfl := Option.some.inj e3
        exact ⟨rfl, _, rfl, _, rfl, a, _, _, _, rfl, rfl, SqT.of (kk.tup (s2 _ _ ha)), atI_nat (j := 2) rfl, a2, _, rfl, .inr (SqT.of (kk.tup (s2 _ _ ha2))), rfl, all_flat _, h1 _ _ (Kp.rfl _ _) (e.snoc _)⟩
      · rintro H3 acc k3 e ⟨bs, rfl, hl⟩
        exact ⟨D, bs, rfl, SqL.of e, k _ _ (s2.trans k3.same) ⟨_, rfl⟩⟩
/-! spots_in, _law_nodes -/
def SpotAt (H : Hp) (x : V) (q : Path × Ex) : Prop := ∃ t vp ve, x = .ref t ∧ H t = some (.tup [vp, ve]) ∧ PathAt H vp q.1 ∧ TreeAt H ve q.2
theorem SpotAt.keep {H H' : Hp} {x : V} {q : Path × Ex} (t : TupK H H') (h : SpotAt H x q) : SpotAt H' x q := let ⟨a, vp, ve, e, h1, h2, h3⟩ := h; ⟨a, vp, ve, e, t _ _ h1, h2.keep t, h3.keep t⟩
abbrev SpotsAt (H : Hp) : List V → List (Path × Ex) → Prop := Paired (SpotAt H)
theorem SpotsAt.keep {H H' : Hp} {xs : List V} {qs : List (Path × Ex)} (t : TupK H H') (h : SpotsAt H xs qs) : SpotsAt H' xs qs := Paired.mapP h fun _ _ z => z.keep t
def spSpots (n : Nat) : Sp := fun vs H Q _ => ∃ v vp B e p, vs = [v, vp] ∧ TreeAt H v e ∧ All (Wf B) e ∧ dep e < n ∧ PathAt H vp p ∧ p.length + dep e ≤ 100 ∧ cnt e ≤ 1000 ∧
  ∀ l rs H', Same H H' → H' l = some (.lst rs) → SpotsAt H' rs (nodes e p) → Q (.ref l) H'
theorem sc_spots : FnScope ["node", "path", "found", "at", "one"] ["node", "path"] (defScope (top 47)) := ⟨rfl, rfl, rfl, by decide +kernel, rfl, by decide +kernel, by decide +kernel⟩
theorem w_spots_in (T : Txt K w mg) (cO : CallP P w K mg base 1 "operands" (spOperands K)) : ∀ n : Nat, CallP P w K mg base (1 + n) "spots_in" (spSpots n)
  | 0 => no_call T 19 fun vs H Q E h => by
    obtain ⟨v, vp, B, e, p, _, _, _, h, _⟩ := h
    exact absurd h (Nat.not_lt_zero _)
  | n + 1 => by
    have cS := w_spots_in T cO n
    refine mkP (k := 1 + n) T 19 sc_spots (fun _ _ _ _ _ _ us hl => match us, hl with | [_, _], _ => rfl) (fun vs H Q E h => ?_) fun cdv A outer s H vs Q E hr h => ?_
    · obtain ⟨v, vp, B, e, p, rfl, _⟩ := h
      rfl
    obtain ⟨v, vp, B, e, p, rfl, ht, wf, hd, hp, hpl, hct, q⟩ := h
    obtain ⟨pa, rfl, hpa⟩ := id hp
    have hz : (3000 : Nat) < sizeLine := by decide
    refine ⟨_, pss_cons (ps_set (i := 2) sc_spots.nd rfl (Or.inl rfl) (pe_lst (pa_cons (pe_tup (pa_cons (pv 1) (pa_cons (pv 0) pa_nil))) pa_nil)))
      (pss_cons (ps_for PassesOwn.never rfl (pi_enumT (by rfl) (T.free "enumerate" (by decide +kernel)) (pa_cons (pe_fn cO hr (by omega) (by rfl) (pa_cons (pv 0) pa_nil)) pa_nil)) (pg_tup rfl (pgs_cons (pg_name (i := 3) sc_spots.nd rfl (Or.inl rfl)) (pgs_cons (pg_name (i := 4) sc_spots.nd rfl (Or.inl rfl)) pgs_nil)))
        (pss_one (ps_expr (pe_bm PySem.F.plainAttrs_list PySem.F.slot_list_extend PySem.F.type_list_extend mt_extend (pv 2) (pa_cons (pe_fn cS hr (by omega) (by rfl) (pa_cons (pv 4) (pa_cons (pe_tup (StX.pa_star (pv 1) (pa_cons (pv 3) pa_nil))) pa_nil))) pa_nil)))))
      (pss_one (ps_ret (pv 2)))), ?_⟩
    refine ⟨_, rfl, _, rfl, z2, fun t0 ht0 => ⟨z1, fun l0 hl0' => ?_⟩⟩
    have hl0 : H l0 = none := (same_new ht0).free hl0'
    have s0 := (same_new ht0 (o := .tup [.ref pa, v])).nw hl0' (o := .lst [.ref t0])
    refine ⟨_, rfl, v, e, rfl, ht.keep s0.tk, ⟨B, wf.self⟩, fun a ws H1 s1 ha hk => ?_⟩
    have s01 : Same H H1 := s0.trans s1
    have hws := trees_len hk
    refine ⟨a, ws, rfl, SqT.of ha, for_enumT (xs := ws) (fun i σ H' => ∃ (at' on : Option V) (acc : List V), σ = [some v, some (.ref pa), some (.ref l0), at', on] ∧ Same H H' ∧ TupK H1 H' ∧ H' l0 = some (.lst acc) ∧ SpotsAt H' acc ((p, e) :: nodesL (e.kids.take i) p 0))
      ⟨none, none, [.ref t0], rfl, s01, fun _ _ h => h, s1 _ _ upd_same, by rw [List.take_zero, nodesL]; exact .cons ⟨t0, _, _, rfl, s1 _ _ (same_new hl0' _ _ upd_same), hp.keep s01.tk, ht.keep s01.tk⟩ .nil⟩ (fun i σ H' ⟨_, _, _, _, _, tk, _⟩ => SqT.of (tk _ _ ha)) ?_ ?_⟩
    · rintro i x t σ H2 hx ⟨at', on, acc, rfl, s2, tk, hl, hrw⟩ ht2
      obtain ⟨d, hdi, htd⟩ := trees_get (hk.keep tk) hx
      have s3 := same_new ht2 (o := .tup [.int (i : Nat), x])
      have hdd : dep d + 1 ≤ dep e := by rw [dep_kids e]; exact depL_get hdi
      have hcd : cnt d ≤ cntL e.kids := cnt_get hdi
      have hce := cnt_kids e
      refine ⟨t, _, rfl, SqT.of upd_same, rfl, _, _, rfl, _, _, rfl, rfl, ?_⟩
      refine ⟨_, rfl, .inl ⟨rfl, _, SqL.of (s3 _ _ hl)⟩, _, rfl, _, rfl, pa, _, rfl, .inl (SqT.of (s3 _ _ (s2 _ _ hpa))), _, rfl, ?_, fun u hu => ?_⟩
      · rw [List.length_append, List.length_map]
        show p.length + 1 ≤ sizeLine
        omega
      have s4 := s3.nw hu (o := .tup (p.map V.int ++ [.int (i : Nat)]))
      refine ⟨x, .ref u, B, d, p ++ [(i : Int)], rfl, htd.keep s4.tk, wf.kids hdi, by omega, path_snoc upd_same, by rw [List.length_append]; show p.length + 1 + _ ≤ _; omega, by omega, fun l rs H3 s5 hl3 hrs => ?_⟩
      have s6 : Same H2 H3 := s4.trans s5
      have hl6 := s6 _ _ hl
      have ll : acc.length = (nodesL (e.kids.take i) p 0).length + 1 := Paired.length hrw
      have lr : rs.length = (nodes d (p ++ [(i : Int)])).length := Paired.length hrs
      have st := cntL_take e.kids i
      rw [nodesL_cnt] at ll
      rw [nodes_cnt] at lr
      refine ⟨l0, l, acc, rs, rfl, rfl, hl6, hl3, by omega, ?_⟩
      have tk3 : TupK H3 (upd H3 l0 (.lst (acc ++ rs))) := TupK.set (fun _ _ h => h) hl6 (fun _ z => nomatch z)
      refine ⟨_, _, acc ++ rs, rfl, fun b o e => ?_, (tk.trans s6.tk).trans tk3, upd_same, ?_⟩
      · rw [upd_ne (ne_of_none e hl0)]
        exact s6 b o (s2 b o e)
      · rw [nodesL_take hdi]
        exact Paired.app ((hrw.keep s6.tk).keep tk3) (hrs.keep tk3)
    · rintro σ H2 ⟨at', on, acc, rfl, s2, tk, hl, hrw⟩
      refine ⟨_, rfl, q l0 acc H2 s2 hl ?_⟩
      rw [nodes_eq, ← List.take_of_length_le (l := e.kids) (i := ws.length) (by omega)]
      exact hrw
theorem sc_lnodes : FnScope ["_law_node", "_law_path", "_law_found", "_law_at", "_law_one"] ["_law_node", "_law_path"] (defScope (top 63)) := ⟨rfl, rfl, rfl, by decide +kernel, rfl, by decide +kernel, by decide +kernel⟩
theorem w_law_nodes (T : Txt K w mg) (cO : CallP P w K mg base 1 "_law_operands" (spOperands K)) : ∀ n : Nat, CallP P w K mg base (1 + n) "_law_nodes" (spSpots n)
  | 0 => no_call T 39 fun vs H Q E h => by
    obtain ⟨v, vp, B, e, p, _, _, _, h, _⟩ := h
    exact absurd h (Nat.not_lt_zero _)
  | n + 1 => by
    have cS := w_law_nodes T cO n
    refine mkP (k := 1 + n) T 39 sc_lnodes (fun _ _ _ _ _ _ us hl => match us, hl with | [_, _], _ => rfl) (fun vs H Q E h => ?_) fun cdv A outer s H vs Q E hr h => ?_
    · obtain ⟨v, vp, B, e, p, rfl, _⟩ := h
      rfl
    obtain ⟨v, vp, B, e, p, rfl, ht, wf, hd, hp, hpl, hct, q⟩ := h
    obtain ⟨pa, rfl, hpa⟩ := id hp
    have hz : (3000 : Nat) < sizeLine := by decide
    refine ⟨_, pss_cons (ps_set (i := 2) sc_lnodes.nd rfl (Or.inl rfl) (pe_lst (pa_cons (pe_tup (pa_cons (pv 1) (pa_cons (pv 0) pa_nil))) pa_nil)))
      (pss_cons (ps_for PassesOwn.never rfl (pi_enumT (by rfl) (T.free "enumerate" (by decide +kernel)) (pa_cons (pe_fn cO hr (by omega) (by rfl) (pa_cons (pv 0) pa_nil)) pa_nil)) (pg_tup rfl (pgs_cons (pg_name (i := 3) sc_lnodes.nd rfl (Or.inl rfl)) (pgs_cons (pg_name (i := 4) sc_lnodes.nd rfl (Or.inl rfl)) pgs_nil)))
        (pss_one (ps_set (i := 2) sc_lnodes.nd rfl (Or.inl rfl) (pe_op op_cat (pv 2) (pe_fn cS hr (by omega) (by rfl) (pa_cons (pv 4) (pa_cons (pe_op op_catU (pv 1) (pe_tup (pa_cons (pv 3) pa_nil))) pa_nil)))))))
      (pss_one (ps_ret (pv 2)))), ?_⟩
    refine ⟨_, rfl, _, rfl, z2, fun t0 ht0 => ⟨z1, fun l0 hl0' => ?_⟩⟩
    have s0 := (same_new ht0 (o := .tup [.ref pa, v])).nw hl0' (o := .lst [.ref t0])
    refine ⟨_, rfl, v, e, rfl, ht.keep s0.tk, ⟨B, wf.self⟩, fun a ws H1 s1 ha hk => ?_⟩
    have s01 : Same H H1 := s0.trans s1
    have hws := trees_len hk
    refine ⟨a, ws, rfl, SqT.of ha, for_enumT (xs := ws) (fun i σ H' => ∃ (at' on : Option V) (l : Addr) (acc : List V), σ = [some v, some (.ref pa), some (.ref l), at', on] ∧ Same H H' ∧ TupK H1 H' ∧ H' l = some (.lst acc) ∧ SpotsAt H' acc ((p, e) :: nodesL (e.kids.take i) p 0))
      ⟨none, none, l0, [.ref t0], rfl, s01, fun _ _ h => h, s1 _ _ upd_same, by rw [List.take_zero, nodesL]; exact .cons ⟨t0, _, _, rfl, s1 _ _ (same_new hl0' _ _ upd_same), hp.keep s01.tk, ht.keep s01.tk⟩ .nil⟩ (fun i σ H' ⟨_, _, _, _, _, _, tk, _⟩ => SqT.of (tk _ _ ha)) ?_ ?_⟩
    · rintro i x t σ H2 hx ⟨at', on, l1, acc, rfl, s2, tk, hl, hrw⟩ ht2
      obtain ⟨d, hdi, htd⟩ := trees_get (hk.keep tk) hx
      have s3 := same_new ht2 (o := .tup [.int (i : Nat), x])
      have hdd : dep d + 1 ≤ dep e := by rw [dep_kids e]; exact depL_get hdi
      have hcd : cnt d ≤ cntL e.kids := cnt_get hdi
      have hce := cnt_kids e
      refine ⟨t, _, rfl, SqT.of upd_same, rfl, _, _, rfl, _, _, rfl, rfl, ?_⟩
      refine ⟨_, rfl, _, rfl, _, rfl, _, rfl, z1, fun u hu => ?_⟩
      have s4 := s3.nw hu (o := .tup [.int (i : Nat)])
      refine ⟨pa, u, _, _, rfl, rfl, s4 _ _ (s2 _ _ hpa), upd_same, ?_, fun c H4 s5 hc => ?_⟩
      · rw [List.length_map]
        show p.length + 1 ≤ sizeLine
        omega
      have s45 := s4.trans s5
      refine ⟨x, .ref c, B, d, p ++ [(i : Int)], rfl, htd.keep s45.tk, wf.kids hdi, by omega, path_snoc hc, by rw [List.length_append]; show p.length + 1 + _ ≤ _; omega, by omega, fun l rs H3 s6 hl3 hrs => ?_⟩
      have s7 : Same H2 H3 := s45.trans s6
      have ll : acc.length = (nodesL (e.kids.take i) p 0).length + 1 := Paired.length hrw
      have lr : rs.length = (nodes d (p ++ [(i : Int)])).length := Paired.length hrs
      have st := cntL_take e.kids i
      rw [nodesL_cnt] at ll
      rw [nodes_cnt] at lr
      refine ⟨l1, l, acc, rs, rfl, rfl, s7 _ _ hl, hl3, by omega, fun r hr3 => ?_⟩
      have s8 := s7.nw hr3 (o := .lst (acc ++ rs))
      refine ⟨_, _, r, acc ++ rs, rfl, s2.trans s8, tk.trans s8.tk, upd_same, ?_⟩
      rw [nodesL_take hdi]
      exact Paired.app (hrw.keep s8.tk) (hrs.keep (same_new hr3).tk)
    · rintro σ H2 ⟨at', on, l1, acc, rfl, s2, tk, hl, hrw⟩
      refine ⟨_, rfl, q l1 acc H2 s2 hl ?_⟩
      rw [nodes_eq, ← List.take_of_length_le (l := e.kids) (i := ws.length) (by omega)]
      exact hrw
end
end Oo

set_option Elab.async false
set_option linter.all false
set_option maxRecDepth 100000
set_option maxHeartbeats 4000000
/-! is_formed, first_wrong. -/
namespace Oo
open PySem PySem.Spec PyProof.Rows L2
def tlOf : Kd → List V → Addr → List V
  | .read p, vs, _ => .str p :: vs
  | .store p, vs, _ => .str p :: vs
  | .step p b m, vs, _ => .str p :: .int b :: .str m :: vs
  | .op s, vs, _ => .str s :: vs
  | .call f, _, b => [.str f, .ref b]
  | _, vs, _ => vs
theorem node_tl {H : Hp} {a : Addr} {k : Kd} {vs : List V} (h : NodeAt H a k vs) : ∃ b, H a = some (.tup (.str (wordOf k) :: tlOf k vs b)) ∧ ∀ f, k = .call f → H b = some (.tup vs) := by
  cases k with
  | call f => obtain ⟨b, h1, h2⟩ := h; exact ⟨b, h1, fun _ _ => h2⟩
  | _ => exact ⟨0, h, fun f e => nomatch e⟩
theorem q_eq {Q : VK} {H : Hp} {b c : Bool} (e : b = c) (h : Q (.bl c) H) : Q (.bl b) H := e ▸ h
def spFormed (K : PySem.W.Frag) : Sp := fun vs H Q _ => ∃ vb v B e, vs = [vb, v] ∧ BookAt K H vb B ∧ TreeAt H v e ∧ Wf B e ∧ ∀ H', Same H H' → Q (.bl true) H'
section
variable {P : Program} {w : World} {K : PySem.W.Frag} {mg : Str → Option Value} {base : Heap}
theorem sc_formed : FnScope ["book", "node", "word", "rest", "is_by"] ["book", "node"] (defScope (top 45)) := ⟨rfl, rfl, rfl, by decide +kernel, rfl, by decide +kernel, by decide +kernel⟩
theorem len_tl (T : Txt K w mg) {B : List Fd} {k : Kd} {es : List Ex} {ws : List V} (b : Addr) (hl : ws.length = es.length) (wf : WfK B k es.length) : ∃ t, PySem.W.nsIn K (He.ga K "SIZES") (wordOf k) = some (some (.int (((tlOf k ws b).length : Nat) : Int) t)) := by
  cases k with
  | read p => have e : (tlOf (.read p) ws b).length = 1 := by rw [show (tlOf (.read p) ws b).length = ws.length + 1 from rfl, hl, wf.2]
              rw [e]; exact T.size (x := "read") (n := 1)
  | store p => have e : (tlOf (.store p) ws b).length = 2 := by rw [show (tlOf (.store p) ws b).length = ws.length + 1 from rfl, hl, wf.2]
               rw [e]; exact T.size (x := "store") (n := 2)
  | step p i m => have e : (tlOf (.step p i m) ws b).length = 3 := by rw [show (tlOf (.step p i m) ws b).length = ws.length + 3 from rfl, hl, wf.2.2.2]
                  rw [e]; exact T.size (x := "step") (n := 3)
  | op s => have e : (tlOf (.op s) ws b).length = 3 := by rw [show (tlOf (.op s) ws b).length = ws.length + 1 from rfl, hl, wf.2]
            rw [e]; exact T.size (x := "op") (n := 3)
  | call f => exact T.size (x := "call") (n := 2)
  | thn => have e : (tlOf .thn ws b).length = 2 := by rw [show (tlOf .thn ws b).length = ws.length from rfl, hl]; exact wf
           rw [e]; exact T.size (x := "then") (n := 2)
  | wand => have e : (tlOf .wand ws b).length = 2 := by rw [show (tlOf .wand ws b).length = ws.length from rfl, hl]; exact wf
            rw [e]; exact T.size (x := "and") (n := 2)
  | wor => have e : (tlOf .wor ws b).length = 2 := by rw [show (tlOf .wor ws b).length = ws.length from rfl, hl]; exact wf
           rw [e]; exact T.size (x := "or") (n := 2)
  | cho => have e : (tlOf .cho ws b).length = 3 := by rw [show (tlOf .cho ws b).length = ws.length from rfl, hl]; exact wf
           rw [e]; exact T.size (x := "choose") (n := 3)
theorem inV_str {s : Str} {ss : List Str} (h : s ∈ ss) : inV (.str s) (ss.map V.str) = true := by
  unfold inV
  rw [List.any_eq_true]
  exact ⟨.str s, List.mem_map.mpr ⟨s, h, rfl⟩, by show decide (s = s) = true; exact decide_eq_true rfl⟩
theorem w_is_formed (T : Txt K w mg) (cI : CallP P w K mg base 1 "is_integer" (spIsInt K)) (cN : CallP P w K mg base 1 "is_name" spIsName) (cH : MethP P w K mg base 1 (He.ga K "Book") "__contains__" (spHas K)) (cG : MethP P w K mg base 2 (He.ga K "Book") "__getitem__" (spGet K)) :
    CallP P w K mg base 4 "is_formed" (spFormed K) := by
  refine mkP T 17 sc_formed (fun _ _ _ _ _ _ us hl => match us, hl with | [_, _], _ => rfl) (fun vs H Q E h => ?_) fun cdv A outer s H vs Q E hr h => ?_
  · obtain ⟨vb, v, B, e, rfl, _⟩ := h
    rfl
  obtain ⟨vb, v, B, e, rfl, hb, ht, wf, q⟩ := h
  obtain ⟨fc, mc, _, Fc⟩ := cH
  obtain ⟨fg, mG, hfn, Fg⟩ := cG
  obtain ⟨tm, hM⟩ := T.intF ("MOST_NUMBER", 999999) (by decide +kernel)
  obtain ⟨es0, n0, D⟩ := T.sizes
  have hu := hu_of hr
  refine ⟨_, pss_cons (ps_if (pt_val (pe_fn cI hr (by decide) (by rfl) (pa_cons (pv 1) pa_nil))) (pss_one (ps_ret (pe_chain op_le op_le pe_int (pv 1) (pe_glob (v := .int 999999) (by rfl) hM ⟨_, rfl⟩)))) pss_nil)
    (pss_cons (ps_if (PW.pt (pw_or (pt_not (pt_val (pe_callB call_isi (by rfl) (T.free "isinstance" (by decide +kernel)) (by decide +kernel) (pa_cons (pv 1) (pa_cons (pe_bltn (v := .ty "tuple") (by rfl) (T.free "tuple" (by decide +kernel)) (by decide +kernel) rfl) pa_nil)))))
      (pw_or (pt_cmpR (op_eqNilT (Nat.lt_of_succ_lt hu)) (pv 1) (pe_tup pa_nil) (nomark _))
      (pw_or (pt_not (pt_val (pe_callB call_isi (by rfl) (T.free "isinstance" (by decide +kernel)) (by decide +kernel) (pa_cons (pe_ix ix_tup (pv 1) pe_int (fun _ _ => rfl)) (pa_cons (pe_bltn (v := .ty "str") (by rfl) (T.free "str" (by decide +kernel)) (by decide +kernel) rfl) pa_nil)))))
      (pw_or1 (pt_cmpR (op_notIn_kd D) (pe_ix ix_tup (pv 1) pe_int (fun _ _ => rfl)) (pe_glob (v := .ref (He.ga K "SIZES")) (by rfl) (T.glo "SIZES" (by decide +kernel)) rfl) rfl)))))) (pss_one (ps_ret pe_bl)) pss_nil)
    (pss_cons (ps_par (i := 2) (j := 3) (by rfl) sc_formed.nd rfl rfl (by decide) rfl rfl (pa_cons (pe_ix ix_tup (pv 1) pe_int (fun _ _ => rfl)) (pa_cons (pe_slice sl_tupU (pv 1) (po_some pe_int) po_none) pa_nil)) (by rfl))
    (pss_cons (ps_if (pt_cmpR op_ne (pe_callB call_len_seq (by rfl) (T.free "len" (by decide +kernel)) PySem.boot_len (pa_cons (pv 3) pa_nil)) (pe_ix ix_kdict (pe_glob (v := .ref (He.ga K "SIZES")) (by rfl) (T.glo "SIZES" (by decide +kernel)) rfl) (pv 2) (fun _ _ => rfl)) (nomark _)) (pss_one (ps_ret pe_bl)) pss_nil)
    (pss_cons (ps_if (PW.pt (pw_and (pt_cmpR op_in_seq (pv 2) (pe_tup (pa_cons pe_str (pa_cons pe_str (pa_cons pe_str pa_nil)))) rfl) (pw_and1 (pt_not (pt_val (pe_fn cN hr (by decide) (by rfl) (pa_cons (pe_ix ix_tup (pv 3) pe_int (fun _ _ => rfl)) pa_nil)))))) ) (pss_one (ps_ret pe_bl)) pss_nil)
    (pss_cons (ps_if (pt_cmpR op_eq (pv 2) pe_str (nomark _))
      (pss_cons (ps_set (i := 4) sc_formed.nd rfl (Or.inl rfl) (pe_and (pe_fn cI hr (by decide) (by rfl) (pa_cons (pe_ix ix_tup (pv 3) pe_int (fun _ _ => rfl)) pa_nil)) (pe_one (pe_cmpR op_in_seq (pe_ix ix_tup (pv 3) pe_int (fun _ _ => rfl)) (pe_tup (pa_cons pe_int (pa_cons (pe_un un_neg pe_int) pa_nil))) rfl))))
      (pss_one (ps_ret (pe_and (pv 4) (pe_and (pe_callB call_isi (by rfl) (T.free "isinstance" (by decide +kernel)) (by decide +kernel) (pa_cons (pe_ix ix_tup (pv 3) pe_int (fun _ _ => rfl)) (pa_cons (pe_bltn (v := .ty "str") (by rfl) (T.free "str" (by decide +kernel)) (by decide +kernel) rfl) pa_nil)))
        (pe_one (pe_cmpR op_in_seq (pe_ix ix_tup (pv 3) pe_int (fun _ _ => rfl)) (pe_glob (v := .ref (He.ga K "MOMENTS")) (by rfl) (T.glo "MOMENTS" (by decide +kernel)) rfl) rfl))))))) pss_nil)
    (pss_cons (ps_if (pt_cmpR op_eq (pv 2) pe_str (nomark _)) (pss_one (ps_ret (pe_and (pe_callB call_isi (by rfl) (T.free "isinstance" (by decide +kernel)) (by decide +kernel) (pa_cons (pe_ix ix_tup (pv 3) pe_int (fun _ _ => rfl)) (pa_cons (pe_bltn (v := .ty "str") (by rfl) (T.free "str" (by decide +kernel)) (by decide +kernel) rfl) pa_nil)))
      (pe_one (pe_cmpR op_in_seq (pe_ix ix_tup (pv 3) pe_int (fun _ _ => rfl)) (pe_glob (v := .ref (He.ga K "SIGNS")) (by rfl) (T.glo "SIGNS" (by decide +kernel)) rfl) rfl))))) pss_nil)
    (pss_cons (ps_if (pt_cmpR op_eq (pv 2) pe_str (nomark _)) (pss_one (ps_ret (pe_and (pe_cmpR (op_inOwn mc Fc (hr.mono (by decide)) pass0) (pe_ix ix_tup (pv 3) pe_int (fun _ _ => rfl)) (pv 0) rfl) (pe_and (pe_callB call_isi (by rfl) (T.free "isinstance" (by decide +kernel)) (by decide +kernel) (pa_cons (pe_ix ix_tup (pv 3) pe_int (fun _ _ => rfl)) (pa_cons (pe_bltn (v := .ty "tuple") (by rfl) (T.free "tuple" (by decide +kernel)) (by decide +kernel) rfl) pa_nil)))
      (pe_one (pe_cmpR op_eq (pe_callB call_len_seq (by rfl) (T.free "len" (by decide +kernel)) PySem.boot_len (pa_cons (pe_ix ix_tup (pv 3) pe_int (fun _ _ => rfl)) pa_nil)) (pe_fld (pe_ixOwn mG hfn Fg hr pass0 (pv 0) (pe_ix ix_tup (pv 3) pe_int (fun _ _ => rfl))) rfl) (nomark _))))))) pss_nil)
    (pss_one (ps_ret pe_bl))))))))), ?_⟩
  cases e with
  | num n =>
    rw [TreeAt] at ht
    subst ht
    obtain ⟨w0, w1⟩ := (show 0 ≤ n ∧ n ≤ 999999 from wf)
    refine ⟨_, rfl, _, rfl, .inl ⟨n, rfl, _, rfl, iteT ?_⟩⟩
    refine ⟨_, rfl, _, _, rfl, rfl, _, rfl, ?_⟩
    rw [decide_eq_true w0]
    exact iteT ⟨_, _, rfl, rfl, q_eq (decide_eq_true w1) (q H (Same.refl H))⟩
  | nd k es =>
    rw [TreeAt] at ht
    obtain ⟨a, ws, rfl, hn, hk⟩ := ht
    obtain ⟨b, hw, hcl⟩ := node_tl hn
    have wf' : WfK B k es.length := wf
    obtain ⟨tz, hsz⟩ := len_tl T b (trees_len hk) wf'
    refine ⟨_, rfl, _, rfl, .inr ⟨tyT hw, _, rfl, iteF ?_⟩⟩
    refine ⟨_, rfl, .ref a, .ty "tuple", _, _, true, rfl, .ty _, tyT hw, kit_ty (by decide +kernel), _, rfl, iteF ?_⟩
    refine ⟨_, rfl, z0, fun t1 ht1 => ⟨a, t1, _, rfl, rfl, SqT.of (same_new ht1 _ _ hw), SqT.of upd_same, (fun z => nomatch z), _, rfl, iteF ?_⟩⟩
    have s1 : Same H (upd H t1 (.tup [])) := same_new ht1
    generalize upd H t1 (.tup []) = H1 at s1
    have hw1 := s1 _ _ hw
    refine ⟨_, rfl, a, _, _, _, rfl, rfl, SqT.of hw1, at0, .str (wordOf k), .ty "str", _, _, true, rfl, .ty _, tyStr _, kit_ty (by decide +kernel), _, rfl, iteF ?_⟩
    refine ⟨_, rfl, a, _, _, _, rfl, rfl, SqT.of hw1, at0, _, _, rfl, rfl, hsz, _, rfl, iteF ?_⟩
    refine ⟨_, rfl, a, _, _, _, rfl, rfl, SqT.of hw1, at0, _, rfl, _, rfl, a, _, rfl, hw1, fun r H2 s2 hr2 => ⟨_, _, rfl, ?_⟩⟩
    rw [show (some (1 : Int)) = some ((1 : Nat) : Int) from rfl, cut_from] at hr2
    have hr2 : H2 r = some (.tup (tlOf k ws b)) := hr2
    have s12 := s1.trans s2
    refine ⟨_, rfl, r, _, rfl, .inr (SqT.of hr2), _, rfl, _, _, .int (((tlOf k ws b).length : Nat) : Int), rfl, rfl, ⟨es0, n0, _, D.at_, D.lit, hsz, ⟨tz, rfl⟩⟩, rfl, _, rfl, iteF2 (by simp) ?_⟩
    refine ⟨_, rfl, z3, fun t3 ht3 => ⟨t3, _, rfl, .inr (SqT.of upd_same), rfl, rfl, _, rfl, ?_⟩⟩
    have s3 : Same H2 (upd H2 t3 (.tup [.str "read", .str "store", .str "step"])) := same_new ht3
    generalize upd H2 t3 (.tup [.str "read", .str "store", .str "step"]) = H3 at s3
    have hr3 := s3 _ _ hr2
    have s13 := s12.trans s3
    cases k with
    | read p =>
      refine iteT2 (by rfl) ⟨_, rfl, r, _, _, _, rfl, rfl, SqT.of hr3, at0, p, rfl, wf'.1, fun H4 s4 => ⟨_, rfl, iteF ?_⟩⟩
      refine ⟨_, rfl, rfl, _, rfl, iteF2 (by rfl) ⟨_, rfl, rfl, _, rfl, iteF2 (by rfl) ⟨_, rfl, rfl, _, rfl, iteF2 (by rfl) ?_⟩⟩⟩
      exact q H4 (s13.trans s4)
    | store p =>
      refine iteT2 (by rfl) ⟨_, rfl, r, _, _, _, rfl, rfl, SqT.of hr3, at0, p, rfl, wf'.1, fun H4 s4 => ⟨_, rfl, iteF ?_⟩⟩
      refine ⟨_, rfl, rfl, _, rfl, iteF2 (by rfl) ⟨_, rfl, rfl, _, rfl, iteF2 (by rfl) ⟨_, rfl, rfl, _, rfl, iteF2 (by rfl) ?_⟩⟩⟩
      exact q H4 (s13.trans s4)
    | step p i m =>
      refine iteT2 (by rfl) ⟨_, rfl, r, _, _, _, rfl, rfl, SqT.of hr3, at0, p, rfl, wf'.1, fun H4 s4 => ⟨_, rfl, iteF ?_⟩⟩
      have hr4 := s4 _ _ hr3
      refine ⟨_, rfl, rfl, _, rfl, iteT2 (by rfl) ?_⟩
      refine ⟨_, rfl, r, _, _, _, rfl, rfl, SqT.of hr4, atI_nat (j := 1) rfl, _, rfl, .inl ⟨_, rfl, _, rfl, ?_⟩⟩
      refine ⟨_, rfl, r, _, _, _, rfl, rfl, SqT.of hr4, atI_nat (j := 1) rfl, _, rfl, z2, fun t4 ht4 => ⟨t4, _, rfl, .inr (SqT.of upd_same), rfl, rfl, ?_⟩⟩
      have s5 : Same H4 (upd H4 t4 (.tup [.int 1, .int (-1)])) := same_new ht4
      have e1 : (if false = true then !inV (V.int i) [.int 1, .int (-1)] else inV (V.int i) [.int 1, .int (-1)]) = true := by
        rcases wf'.2.1 with rfl | rfl <;> decide
      have hr5 := s5 _ _ hr4
      refine ⟨_, rfl, _, rfl, iteT2 e1 ?_⟩
      refine ⟨_, rfl, r, _, _, _, rfl, rfl, SqT.of hr5, atI_nat (j := 2) rfl, .str m, .ty "str", _, _, true, rfl, .ty _, tyStr _, kit_ty (by decide +kernel), _, rfl, ?_⟩
      refine ⟨_, rfl, r, _, _, _, rfl, rfl, SqT.of hr5, atI_nat (j := 2) rfl, _, _, rfl, .inr (T.moments _), rfl, rfl, ?_⟩
      refine q_eq (inV_str (ss := ["before", "after"]) ?_) (q _ (s13.trans (s4.trans s5)))
      rcases wf'.2.2.1 with rfl | rfl
      · exact List.mem_cons_self
      · exact List.mem_cons_of_mem _ List.mem_cons_self
    | op o =>
      refine iteF2 (by rfl) ?_
      refine ⟨_, rfl, rfl, _, rfl, iteF2 (by rfl) ⟨_, rfl, rfl, _, rfl, iteT2 (by rfl) ?_⟩⟩
      refine ⟨_, rfl, r, _, _, _, rfl, rfl, SqT.of hr3, at0, .str o, .ty "str", _, _, true, rfl, .ty _, tyStr _, kit_ty (by decide +kernel), _, rfl, ?_⟩
      refine ⟨_, rfl, r, _, _, _, rfl, rfl, SqT.of hr3, at0, _, _, rfl, .inr (T.signs H3), rfl, rfl, ?_⟩
      rw [show ([V.str "+", V.str "-", V.str "*", V.str "<"] : List V) = (["+", "-", "*", "<"] : List Str).map V.str from rfl, inV_str wf'.1]
      exact q H3 s13
    | call f =>
      obtain ⟨⟨fd, hf, ef, en⟩, _⟩ := wf'
      obtain ⟨ba, bx, d, kvs, eb, hba, hd, hB⟩ := id hb
      subst eb
      have hcb := hcl f rfl
      refine iteF2 (by rfl) ?_
      refine ⟨_, rfl, rfl, _, rfl, iteF2 (by rfl) ⟨_, rfl, rfl, _, rfl, iteF2 (by rfl) ⟨_, rfl, rfl, _, rfl, iteT2 (by rfl) ?_⟩⟩⟩
      have hb3 := hb.keep (Kp.of (S := Nix) s13)
      refine ⟨_, rfl, r, _, _, _, rfl, rfl, SqT.of hr3, at0, _, rfl, ba, bx, _, rfl, s13 _ _ hba, _, _, B, rfl, hb3, ⟨fd, hf, ef⟩, true, rfl, _, rfl, ?_⟩
      refine ⟨_, rfl, r, _, _, _, rfl, rfl, SqT.of hr3, atI_nat (j := 1) rfl, .ref b, .ty "tuple", _, _, true, rfl, .ty _, tyT (s13 _ _ hcb), kit_ty (by decide +kernel), _, rfl, ?_⟩
      refine ⟨_, rfl, r, _, _, _, rfl, rfl, SqT.of hr3, atI_nat (j := 1) rfl, b, _, rfl, .inr (SqT.of (s13 _ _ hcb)), ?_⟩
      refine ⟨_, rfl, _, rfl, r, _, _, _, rfl, rfl, SqT.of hr3, at0, ba, bx, _, rfl, s13 _ _ hba, _, _, B, fd, rfl, hb3, hf, ef, fun u hu => ?_⟩
      obtain ⟨ua, ux, ra, sa, rfl, hua, hra, hsa⟩ := hu
      refine ⟨ua, _, ux, _, _, rfl, hua, T.cls, T.noat, rfl, rfl, ?_⟩
      exact q_eq (decide_eq_true (by rw [trees_len hk, en])) (q H3 s13)
    | _ =>
      refine iteF2 (by rfl) ?_
      refine ⟨_, rfl, rfl, _, rfl, iteF2 (by rfl) ⟨_, rfl, rfl, _, rfl, iteF2 (by rfl) ⟨_, rfl, rfl, _, rfl, iteF2 (by rfl) ?_⟩⟩⟩
      exact q H3 s13
end
end Oo

set_option Elab.async false
set_option linter.all false
set_option maxRecDepth 100000
set_option maxHeartbeats 4000000
/-! first_wrong; a task's has, are_points, open_nodes, len. -/
namespace Oo
open PySem PySem.Spec PyProof.Rows L2
open PySem.W (EachIs AllAlike)
/-! sorted over tuples of ints that stand in the heap -/
section
variable {X : Cx} {pins : List (Addr × Obj)} {σ : L2.St} {H : Hp} {s : Shared}
theorem each_pathsT (I : Inv X pins σ H s) : ∀ {xs : List V} {us : List Value} {ps : List Path}, Vals xs us → PathsAt H xs ps → EachIs (RdP s.heap) us ps ∧ EachIs (fun u p => ∃ a, u = Value.ref a ∧ H a = some (.tup (p.map V.int))) us ps
  | [], _, _, .nil, .nil => ⟨.nil, .nil⟩
  | x :: xs, _, _, .cons (b := u) r t, .cons (b := p) h k => by
    obtain ⟨a, rfl, ha⟩ := h
    obtain rfl : u = Value.ref a := r
    obtain ⟨h1, h2⟩ := each_pathsT I t k
    exact ⟨.cons (reads_path I (SqT.of ha)) h1, .cons ⟨a, rfl, ha⟩ h2⟩
theorem back_pathsT : ∀ {us : List Value} {ps : List Path}, EachIs (fun u p => ∃ a, u = Value.ref a ∧ H a = some (.tup (p.map V.int))) us ps → ∃ xs, Vals xs us ∧ PathsAt H xs ps
  | _, _, .nil => ⟨[], .nil, .nil⟩
  | _, _, .cons ⟨a, e, ha⟩ t => by
    obtain ⟨xs, h1, h2⟩ := back_pathsT t
    exact ⟨.ref a :: xs, .cons e h1, .cons ⟨a, rfl, ha⟩ h2⟩
end
def rSortT (K : PySem.W.Frag) : List V → Hp → VK → Prop := fun vs H Q => ∃ (l : Addr) (xs : List V) (ps : List Path), vs = [V.ref l] ∧ SqL K H l xs ∧ PathsAt H xs ps ∧
  ∀ (ys : List V) (qs : List Path) (p : Addr), PathsAt H ys qs → qs.Perm ps → qs.Pairwise (· ≤ ·) → H p = none → Q (.ref p) (upd H p (.lst ys))
theorem cr_sortT {X : Cx} (hu : X.A.units + 3 < cLine) : CallR X (.builtin "sorted") (rSortT X.K) := by
  intro pins s σ H vs us Q I r h
  obtain ⟨l, xs, ps, rfl, hs, hp, q⟩ := h
  obtain ⟨its, rv, hl, hz⟩ := I.list hs
  rw [Vals.ref1 r]
  obtain ⟨e1, e2⟩ := each_pathsT I rv hp
  have hL : ps.length ≤ sizeLine := by rw [← Paired.length hp]; exact hz
  have er' : EachIs (RdP (PySem.W.sortingHeap (PySem.W.copyHeap s.heap its) (s.heap.objs.size + 1) its)) its ps := e1.mono fun _ _ ⟨as, r⟩ => ⟨as, PyProof.Rows.Reads.keeps (fun _ _ => PySem.W.sorting_copy_old) r⟩
  refine PySem.W.sorted_vals hl.isList (sortsAt_paths (s := { s with heap := PySem.W.sortingHeap (PySem.W.copyHeap s.heap its) (s.heap.objs.size + 1) its }) er' (by show X.A.units + 2 + 1 < cLine; omega)) (by rw [e1.length]; exact hL) ?_
  have out := PySem.W.sortVals_data (h' := PySem.W.sortingHeap (PySem.W.copyHeap s.heap its) (s.heap.objs.size + 1) its) false e2 er' (AllAlike.of pD_alike)
  rw [dataLe_paths] at out
  obtain ⟨ys, rv2, hp2⟩ := back_pathsT out
  have hpm := List.mergeSort_perm ps (fun p q : List Int => decide (p ≤ q))
  have hpw : (ps.mergeSort (fun p q : List Int => decide (p ≤ q))).Pairwise (· ≤ ·) :=
    (List.pairwise_mergeSort (le := leP) (fun a b c h1 h2 => decide_eq_true (List.le_trans (of_decide_eq_true h1) (of_decide_eq_true h2))) le_tot ps).imp fun {a b} (h : leP a b = true) => of_decide_eq_true h
  generalize hgen : PySem.W.sortVals _ false its its = outv at rv2 hp2 ⊢
  obtain ⟨ep, he'⟩ := PyProof.Rows.sortedAll_at s.heap its outv.toArray
  have hlen : ys.length ≤ sizeLine := by
    rw [Paired.length hp2, hpm.length_eq]; exact hL
  exact ⟨.ref _, upd H (s.heap.objs.size + 1) (.lst ys), I.laid (t' := s.toks) (fun _ _ => PyProof.Rows.sortedAll_old) (Nat.le_succ _) ⟨hlen, outv, ep, rv2, he'⟩, rfl, q _ _ _ hp2 hpm hpw (I.hok.fresh (Nat.le_succ _))⟩
/-- o.f, said for a given K (within a block) -/
theorem pe_fldK {X : Cx} {K : PySem.W.Frag} {e : Expr} {f : Str} {pos : Pos} {ta : TE} (hK : X.K = K) (he : PE X e ta) (hb : attributeBase e f X.env (eval e X.env) = eval e X.env) : PE X (.Attribute e f pos) (tFld K ta f) := by
  subst hK
  exact pe_fld he hb
/-- a lock is taken and given back -/
theorem unlock {H H' : Hp} {d : Addr} {od : Obj} {u : HO} (hd : H d = some u) (s : Same (upd H d (.frz od u)) H') : Same H (upd H' d u) := fun a o e => by
  by_cases h : a = d
  · subst h
    rw [hd] at e
    rw [← Option.some.inj e]
    exact upd_same
  · rw [upd_ne h]
    exact s a o (by rw [upd_ne h]; exact e)
theorem lock_tk {H : Hp} {d : Addr} {od : Obj} {u : HO} (hd : H d = some u) (n : ∀ xs, u ≠ .tup xs) : TupK H (upd H d (.frz od u)) := TupK.set (fun _ _ h => h) hd n
theorem unlock_tk {H' : Hp} {d : Addr} {od : Obj} {u : HO} (hd : H' d = some (.frz od u)) : TupK H' (upd H' d u) := TupK.set (fun _ _ h => h) hd fun _ z => nomatch z
/-! what is known of a task -/
structure Good (B : List Fd) (e : Ex) (P : List Path) : Prop where
  wf : All (Wf B) e
  dp : dep e ≤ 4
  st : steps e ≤ 10
  ct : cnt e ≤ 150
  up : P.Pairwise (· < ·)
  op : ∀ p ∈ P, ∃ c, sub e p = some c ∧ isOpen c = true
theorem nodup_le {α : Type} [DecidableEq α] : ∀ {l m : List α}, l.Nodup → (∀ x ∈ l, x ∈ m) → l.length ≤ m.length
  | [], _, _, _ => Nat.zero_le _
  | x :: l, m, h, hs => by
    obtain ⟨h1, h2⟩ := List.nodup_cons.mp h
    have hx := hs x List.mem_cons_self
    have := nodup_le (m := m.erase x) h2 fun y hy => (List.mem_erase_of_ne (fun e => h1 (by rw [← e]; exact hy))).mpr (hs y (List.mem_cons_of_mem _ hy))
    rw [List.length_erase_of_mem hx] at this
    have := List.length_pos_of_mem hx
    rw [List.length_cons]
    omega
theorem lt_nodup {P : List Path} (h : P.Pairwise (· < ·)) : P.Nodup := h.imp fun {a b} z e => by subst e; exact List.lt_irrefl _ z
theorem Good.few {B : List Fd} {e : Ex} {P : List Path} (g : Good B e P) : P.length ≤ 150 := by
  have := nodup_le (m := (nodes e []).map (·.1)) (lt_nodup g.up) fun p hp => by
    obtain ⟨c, hc, _⟩ := g.op p hp
    exact List.mem_map.mpr ⟨(p, c), nodes_in.mpr hc, rfl⟩
  rw [List.length_map, nodes_cnt] at this
  exact Nat.le_trans this g.ct
theorem tab_nth {H : Hp} {e : Ex} {kvs : List (List Key × V)} (h : Paired (fun (kv : List Key × V) (q : Path × Ex) => kv.1 = q.1.map Sum.inl ∧ TreeAt H kv.2 q.2) kvs (nodes e [])) {i : Nat} {k : List Key} {v : V} (hi : kvs[i]? = some (k, v)) :
    ∃ p c, (nodes e [])[i]? = some (p, c) ∧ k = p.map Sum.inl ∧ TreeAt H v c := by
  obtain ⟨⟨p, c⟩, h1, h2, h3⟩ := paired_get h hi
  exact ⟨p, c, h1, h2, h3⟩
/-- a task's fields, in the making too -/
def TFs (fs : List (Str × V)) (vb ve : V) (d : Addr) : Prop := fs = ([("book", vb), ("expression", ve), ("table", .ref d)] : List (Str × V)) ∨ ∃ pt ow, fs = taskFs vb ve d pt ow
theorem TFs.tab {fs : List (Str × V)} {vb ve : V} {d : Addr} (h : TFs fs vb ve d) : fs.lookup ("table" : Str) = some (V.ref d) := by
  rcases h with rfl | ⟨pt, ow, rfl⟩ <;> rfl
theorem TFs.has {fs : List (Str × V)} {vb ve : V} {d : Addr} (h : TFs fs vb ve d) : fs.lookup ("has" : Str) = none := by
  rcases h with rfl | ⟨pt, ow, rfl⟩ <;> rfl
def spFirst (K : PySem.W.Frag) (n : Nat) : Sp := fun vs H Q _ => ∃ vb v vp B e p, vs = [vb, v, vp] ∧ BookAt K H vb B ∧ TreeAt H v e ∧ All (Wf B) e ∧ dep e < n ∧ PathAt H vp p ∧ p.length + dep e ≤ 100 ∧ ∀ H', Same H H' → Q .non H'
section
variable {P : Program} {w : World} {K : PySem.W.Frag} {mg : Str → Option Value} {base : Heap}
theorem sc_first : FnScope ["book", "node", "path", "at", "one", "found"] ["book", "node", "path"] (defScope (top 46)) := ⟨rfl, rfl, rfl, by decide +kernel, rfl, by decide +kernel, by decide +kernel⟩
theorem w_first_wrong (T : Txt K w mg) (cO : CallP P w K mg base 1 "operands" (spOperands K)) (cF : CallP P w K mg base 4 "is_formed" (spFormed K)) : ∀ n : Nat, CallP P w K mg base (4 + n) "first_wrong" (spFirst K n)
  | 0 => no_call T 18 fun vs H Q E h => by
    obtain ⟨vb, v, vp, B, e, p, _, _, _, _, h, _⟩ := h
    exact absurd h (Nat.not_lt_zero _)
  | n + 1 => by
    have cS := w_first_wrong T cO cF n
    refine mkP (k := 4 + n) T 18 sc_first (fun _ _ _ _ _ _ us hl => match us, hl with | [_, _, _], _ => rfl) (fun vs H Q E h => ?_) fun cdv A outer s H vs Q E hr h => ?_
    · obtain ⟨vb, v, vp, B, e, p, rfl, _⟩ := h
      rfl
    obtain ⟨vb, v, vp, B, e, p, rfl, hb, ht, wf, hd, hp, hpl, q⟩ := h
    obtain ⟨pa, rfl, hpa⟩ := id hp
    have hz : (200 : Nat) ≤ sizeLine := by decide
    refine ⟨_, pss_cons (ps_if (pt_not (pt_val (pe_fn cF hr (by omega) (by rfl) (pa_cons (pv 0) (pa_cons (pv 1) pa_nil))))) (pss_one (ps_ret (pv 2))) pss_nil)
      (pss_cons (ps_for PassesOwn.never rfl (pi_enumT (by rfl) (T.free "enumerate" (by decide +kernel)) (pa_cons (pe_fn cO hr (by omega) (by rfl) (pa_cons (pv 1) pa_nil)) pa_nil)) (pg_tup rfl (pgs_cons (pg_name (i := 3) sc_first.nd rfl (Or.inl rfl)) (pgs_cons (pg_name (i := 4) sc_first.nd rfl (Or.inl rfl)) pgs_nil)))
        (pss_cons (ps_set (i := 5) sc_first.nd rfl (Or.inl rfl) (pe_fn cS hr (by omega) (by rfl) (pa_cons (pv 0) (pa_cons (pv 4) (pa_cons (pe_tup (StX.pa_star (pv 2) (pa_cons (pv 3) pa_nil))) pa_nil)))))
        (pss_one (ps_if (pt_cmp (pc_notN (pv 5))) (pss_one (ps_ret (pv 5))) pss_nil))))
      (pss_one (ps_ret pe_non))), ?_⟩
    refine ⟨_, rfl, _, rfl, vb, v, B, e, rfl, hb, ht, wf.self, fun H0 s0 => ⟨_, rfl, iteF ?_⟩⟩
    refine ⟨_, rfl, v, e, rfl, ht.keep s0.tk, ⟨B, wf.self⟩, fun a ws H1 s1 ha hk => ?_⟩
    have s01 := s0.trans s1
    refine ⟨a, ws, rfl, SqT.of ha, for_enumT (xs := ws) (fun i σ H' => ∃ at' on fo : Option V, σ = [some vb, some v, some (.ref pa), at', on, fo] ∧ Same H H' ∧ TupK H1 H')
      ⟨none, none, none, rfl, s01, fun _ _ h => h⟩ (fun i σ H' ⟨_, _, _, _, _, tk⟩ => SqT.of (tk _ _ ha)) ?_ ?_⟩
    · rintro i x t σ H2 hx ⟨at', on, fo, rfl, s2, tk⟩ ht2
      obtain ⟨d, hdi, htd⟩ := trees_get (hk.keep tk) hx
      have s3 := same_new ht2 (o := .tup [.int (i : Nat), x])
      have hdd : dep d + 1 ≤ dep e := by rw [dep_kids e]; exact depL_get hdi
      refine ⟨t, _, rfl, SqT.of upd_same, rfl, _, _, rfl, _, _, rfl, rfl, ?_⟩
      refine ⟨_, rfl, _, rfl, _, rfl, pa, _, rfl, .inl (SqT.of (s3 _ _ (s2 _ _ hpa))), _, rfl, ?_, fun u hu => ?_⟩
      · rw [List.length_append, List.length_map]
        show p.length + 1 ≤ sizeLine
        omega
      have s4 := s3.nw hu (o := .tup (p.map V.int ++ [.int (i : Nat)]))
      refine ⟨vb, x, .ref u, B, d, p ++ [(i : Int)], rfl, hb.keep (Kp.of (S := Nix) (s2.trans s4)), htd.keep s4.tk, wf.kids hdi, by omega, path_snoc upd_same, by rw [List.length_append]; show p.length + 1 + _ ≤ _; omega, fun H3 s5 => ?_⟩
      refine ⟨_, rfl, _, rfl, iteF2 (by rfl) ?_⟩
      exact ⟨_, _, _, rfl, s2.trans (s4.trans s5), tk.trans (s4.trans s5).tk⟩
    · rintro σ H2 ⟨at', on, fo, rfl, s2, tk⟩
      exact q H2 s2
/-! has -/
def spHasT (K : PySem.W.Frag) : Sp := fun vs H Q _ => ∃ a dx fs vb ve d v p e c, vs = [.ref a, v] ∧ H a = some (.ins (He.ga K "Task") dx fs) ∧ TFs fs vb ve d ∧ TabAt H d e ∧ PathAt H v p ∧ p.length ≤ 900 ∧ sub e p = some c ∧ ∀ H', Same H H' → Q (.bl true) H'
theorem sc_hasT : FnScope ["self", "value"] ["self", "value"] (defScope (inClass (top 50) 4)) := ⟨rfl, rfl, rfl, by decide +kernel, rfl, by decide +kernel, by decide +kernel⟩
theorem w_hasT (T : Txt K w mg) (cP : CallP P w K mg base 2 "is_path" spIsPath) : MethP P w K mg base 3 (He.ga K "Task") "has" (spHasT K) := by
  refine mthP (C := "Task") (m := "has") T (mkM (k := 2) T 24 sc_hasT (fun _ _ _ _ _ _ us hl => match us, hl with | [_, _], _ => rfl) (fun vs H Q E h => ?_) fun cdv A outer s H vs Q E hr h => ?_)
  · obtain ⟨a, dx, fs, vb, ve, d, v, p, e, c, rfl, _⟩ := h
    rfl
  obtain ⟨a, dx, fs, vb, ve, d, v, p, e, c, rfl, ha, hf, tb, hp, hl, hs, q⟩ := h
  have hu := hu_of hr
  refine ⟨_, pss_one (ps_ret (pe_and (pe_fn cP hr (by decide) (by rfl) (pa_cons (pv 1) pa_nil)) (pe_one (pe_cmp (pc_din hu (pv 1) (pe_fld (pv 0) rfl)) rfl)))), ?_⟩
  refine ⟨_, rfl, v, p, rfl, hp, by omega, fun H1 s1 => ⟨_, rfl, ?_⟩⟩
  obtain ⟨kvs, u, hd, hv, _⟩ := (tb.keep (Kp.of (S := Nix) s1)).get hs
  obtain ⟨pa, rfl, hpa⟩ := hp.keep s1.tk
  refine ⟨_, rfl, _, rfl, a, _, dx, _, _, rfl, s1 _ _ ha, T.cls, T.noat, hf.tab, d, _, rfl, DGet.t (k := p.map Sum.inl) hd (PathAt.key hpa), ?_⟩
  rw [hv]
  exact q H1 s1
/-! are_points -/
def spArePts (K : PySem.W.Frag) : Sp := fun vs H Q _ => ∃ a dx fs vb ve d pt xs e, ∃ P : List Path, vs = [.ref a, .ref pt] ∧ H a = some (.ins (He.ga K "Task") dx fs) ∧ TFs fs vb ve d ∧ TabAt H d e ∧ dep e ≤ 50 ∧ H pt = some (.tup xs) ∧ PathsAt H xs P ∧ P.length ≤ 1000 ∧
  P.Pairwise (· < ·) ∧ (∀ p ∈ P, ∃ c, sub e p = some c ∧ isOpen c = true) ∧ ∀ H', Same H H' → Q (.bl true) H'
abbrev apN : List Str := ["self", "value", "path", "one", "other"]
theorem sc_arePts : FnScope apN ["self", "value"] (defScope (inClass (top 50) 3)) := ⟨rfl, rfl, rfl, by decide +kernel, rfl, by decide +kernel, by decide +kernel⟩
theorem w_arePts (T : Txt K w mg) (cH : MethP P w K mg base 3 (He.ga K "Task") "has" (spHasT K)) (cO : CallP P w K mg base 1 "is_open" (spIsOpen K)) : MethP P w K mg base 4 (He.ga K "Task") "are_points" (spArePts K) := by
  refine mthP (C := "Task") (m := "are_points") T (mkM (k := 3) T 23 sc_arePts (fun _ _ _ _ _ _ us hl => match us, hl with | [_, _], _ => rfl) (fun vs H Q E h => ?_) fun cdv A outer s H vs Q E hr h => ?_)
  · obtain ⟨a, dx, fs, vb, ve, d, pt, xs, e, P0, rfl, _⟩ := h
    rfl
  obtain ⟨a, dx, fs, vb, ve, d, pt, xs, e, P0, rfl, ha, hf, tb, hde, hpt, hps, hfew, hup, hop, q⟩ := h
  have hu := hu_of hr
  have hz : (1000 : Nat) < sizeLine := by decide
  have hlen : xs.length = P0.length := Paired.length hps
  refine ⟨_, pss_cons (ps_if (PW.pt (pw_or (pt_not (pt_val (pe_callB call_isi (by rfl) (T.free "isinstance" (by decide +kernel)) (by decide +kernel) (pa_cons (pv 1) (pa_cons (pe_bltn (v := .ty "tuple") (by rfl) (T.free "tuple" (by decide +kernel)) (by decide +kernel) rfl) pa_nil)))))
      (pw_or1 (pt_not (pt_val (pe_callB (cr_all rfl) (by rfl) (T.free "all" (by decide +kernel)) (by decide +kernel) (pa_cons (pe_lc (own := [("path", 2)]) (g := gName 2) (tt := tYes) rfl sc_arePts.nd (pi_tup (pv 1)) (blkOk_by (N := apN) (sc := defScope (inClass (top 50) 3)) (by decide +kernel))
        (fun _ _ _ _ _ => pg_name (i := 2) sc_arePts.nd rfl (Or.inl rfl)) (fun _ _ _ _ _ => pts_nil) (fun _ _ _ _ _ => pe_and (pe_mth (pv 0) T.cls cH hr (by decide) (pa_cons (pv 2) pa_nil)) (pe_one (pe_fn cO hr (by decide) (by rfl) (pa_cons (pe_dget hu (pe_fldK (K := K) rfl (pv 0) rfl) (pv 2) (fun _ _ => rfl)) pa_nil))))) pa_nil))))))) (pss_one (ps_ret pe_bl)) pss_nil)
    (pss_one (ps_ret (pe_callB (cr_all rfl) (by rfl) (T.free "all" (by decide +kernel)) (by decide +kernel) (pa_cons (pe_lc (own := [("one", 3), ("other", 4)]) (g := gTup K 2 (gCons (gName 3) (gCons (gName 4) gNil))) (tt := tYes) rfl sc_arePts.nd
      (RZ.pi_zipA (by rfl) (T.free "zip" (by decide +kernel)) (pa_cons (pv 1) (pa_cons (pe_slice sl_tupU (pv 1) (po_some pe_int) po_none) pa_nil))) (blkOk_by (N := apN) (sc := defScope (inClass (top 50) 3)) (by decide +kernel))
      (fun _ _ _ _ _ => pg_tup rfl (pgs_cons (pg_name (i := 3) sc_arePts.nd rfl (Or.inl rfl)) (pgs_cons (pg_name (i := 4) sc_arePts.nd rfl (Or.inl rfl)) pgs_nil))) (fun _ _ _ _ _ => pts_nil) (fun _ _ _ _ _ => pe_cmpR (r := rLtT K) (op_ltT (Nat.lt_of_succ_lt hu)) (pv 3) (pv 4) (nomark _))) pa_nil)))), ?_⟩
  refine ⟨_, rfl, .ref pt, .ty "tuple", _, _, true, rfl, .ty _, tyT hpt, kit_ty (by decide +kernel), _, rfl, ?_⟩
  refine iteF ?_
  refine ⟨_, rfl, pt, rfl, ⟨_, SqT.of hpt⟩, fun D hD => lc_gen Nix xs.length (fun i acc H => acc = List.replicate i (V.bl true)) hD (fun a h => h.elim) (fun H _ => rfl) (fun i acc H H' e _ => e) (fun i acc H hi e => ?_) (fun i H2 hi k => ?_) (fun H2 k => ?_) ?_ ?_⟩
  · rw [e, List.length_replicate]; omega
  · exact ⟨_, _, SqT.of (k.tup hpt), List.getElem?_eq_getElem hi⟩
  · exact ⟨_, SqT.of (k.tup hpt), Nat.le_refl _⟩
  · rintro i acc x H2 H3 N1 N0 h1 h0 hi k rfl ⟨rfl, hx⟩
    have s2 := k.same
    have e3 := hx _ (SqT.of (k.tup hpt))
    obtain ⟨p, hpi, hpp⟩ := paired_get (hps.keep s2.tk) e3
    obtain ⟨c, hc, ho⟩ := hop p (List.mem_of_getElem? hpi)
    have hpl : p.length ≤ 50 := by have := sub_dep hc; omega
    refine ⟨rfl, _, rfl, a, dx, fs, rfl, s2 _ _ ha, hf.has, _, rfl, a, dx, fs, vb, ve, d, x, p, e, c, rfl, s2 _ _ ha, hf, tb.keep (Kp.of (S := Nix) s2), hpp, by omega, hc, fun H4 s4 => ⟨_, rfl, ?_⟩⟩
    have s24 := s2.trans s4
    obtain ⟨kvs, u, hd, hv, htu⟩ := (tb.keep (Kp.of (S := Nix) s24)).get hc
    obtain ⟨pa, rfl, hpa⟩ := hpp.keep s4.tk
    have dg := DGet.t (k := p.map Sum.inl) hd (PathAt.key hpa)
    rw [hv] at dg
    refine ⟨_, rfl, a, _, dx, _, _, rfl, s24 _ _ ha, T.cls, T.noat, hf.tab, _, rfl, d, u, rfl, dg, u, c, rfl, htu, ?_⟩
    rw [ho]
    exact h1 _ _ (Kp.of s4) (by rw [List.replicate_succ'])
  · rintro H2 acc k e0 rfl
    refine ⟨D, List.replicate xs.length true, rfl, SqL.of (by rw [e0, map_true]), _, rfl, ?_⟩
    rw [all_true]
    refine iteF ?_
    have s2 : Same H H2 := k.same
    refine ⟨_, rfl, _, rfl, _, rfl, pt, _, rfl, s2 _ _ hpt, fun b H3 k3 hb => ?_⟩
    rw [show (some (1 : Int)) = some ((1 : Nat) : Int) from rfl, cut_from] at hb
    have ha3 := k3 _ _ (s2 _ _ hpt)
    have hps3 := (hps.keep s2.tk).keep k3.tk
    refine ⟨pt, b, _, _, rfl, .inr ⟨SqT.of ha3, SqT.of hb, fun D2 hD2 => lc_gen Nix (xs.length - 1) (fun i acc H => acc = List.replicate i (V.bl true)) hD2 (fun a h => h.elim) (fun H _ => rfl) (fun i acc H H' e _ => e) (fun i acc H hi e => ?_) (fun i H4 hi k4 => ?_) (fun H4 k4 => ?_) ?_ ?_⟩⟩
    · rw [e, List.length_replicate]; omega
    · exact ⟨_, _, _, _, SqT.of (k4.tup ha3), SqT.of (k4.tup hb), List.getElem?_eq_getElem (by omega), by rw [List.getElem?_drop]; exact List.getElem?_eq_getElem (by omega)⟩
    · exact ⟨_, _, SqT.of (k4.tup ha3), SqT.of (k4.tup hb), .inr (by rw [List.length_drop]; exact Nat.le_refl _)⟩
    · rintro i acc x H4 H5 N1 N0 h1 h0 hi k4 rfl ⟨t, x, y, rfl, ht, rfl, hx, hy⟩
      have f1 := hx _ (SqT.of (k4.tup ha3))
      have f2 := hy _ (SqT.of (k4.tup hb))
      rw [List.getElem?_drop, Nat.add_comm] at f2
      have s5 := same_new ht (o := .tup [x, y])
      obtain ⟨p, e0, a0, rfl, ha0⟩ := paired_get ((hps3.keep k4.tk).keep s5.tk) f1
      obtain ⟨p', e1, a1, rfl, ha1⟩ := paired_get ((hps3.keep k4.tk).keep s5.tk) f2
      refine ⟨t, _, rfl, SqT.of upd_same, rfl, _, _, rfl, _, _, rfl, rfl, rfl, _, rfl, _, rfl, a0, a1, p, p', rfl, rfl, SqT.of ha0, SqT.of ha1, ?_⟩
      have lt : p < p' := by
        obtain ⟨l0, g0⟩ := List.getElem?_eq_some_iff.mp e0
        obtain ⟨l1, g1⟩ := List.getElem?_eq_some_iff.mp e1
        have z := List.pairwise_iff_getElem.mp hup i (i + 1) l0 l1 (Nat.lt_succ_self i)
        rw [g0, g1] at z
        exact z
      rw [lexLt_lt, decide_eq_true lt]
      exact h1 _ _ ((Kp.rfl _ _).new ht) (by rw [List.replicate_succ'])
    · rintro H4 acc k4 e4 rfl
      refine ⟨D2, List.replicate (xs.length - 1) true, rfl, SqL.of (by rw [e4, map_true]), ?_⟩
      rw [all_true]
      exact q _ (s2.trans (k3.trans k4.same))
/-! len -/
def spLenT (K : PySem.W.Frag) : Sp := fun vs H Q _ => ∃ a B e, ∃ P : List Path, vs = [.ref a] ∧ TaskAt K H a B e P ∧ Q (.int (steps e : Nat)) H
theorem sc_lenT : FnScope ["self"] ["self"] (defScope (inClass (top 50) 11)) := ⟨rfl, rfl, rfl, by decide +kernel, rfl, by decide +kernel, by decide +kernel⟩
theorem w_lenT (T : Txt K w mg) : MethP P w K mg base 1 (He.ga K "Task") "__len__" (spLenT K) := by
  refine mthP (C := "Task") (m := "__len__") T (mkM T 27 sc_lenT (fun _ _ _ _ _ _ us hl => match us, hl with | [_], _ => rfl) (fun vs H Q E h => ?_) fun cdv A outer s H vs Q E hr h => ?_)
  · obtain ⟨a, B, e, P0, rfl, _⟩ := h
    rfl
  obtain ⟨a, B, e, P0, rfl, ta, q⟩ := h
  obtain ⟨dx, vb, ve, d, pt, ow, xs, ys, h1, h2, h3, h4, h5, h6, h7, h8⟩ := ta.ex
  refine ⟨_, pss_one (ps_ret (pe_callB call_len_seq (by rfl) (T.free "len" (by decide +kernel)) PySem.boot_len (pa_cons (pe_fld (pv 0) rfl) pa_nil))), ?_⟩
  refine ⟨_, rfl, a, _, dx, _, _, rfl, h1, T.cls, T.noat, rfl, ow, ys, rfl, .inl (SqL.of h7), ?_⟩
  rw [h8]
  exact q
end
end Oo

set_option Elab.async false
set_option linter.all false
set_option maxRecDepth 100000
set_option maxHeartbeats 4000000
/-! open_nodes; a task made; with_points. -/
namespace Oo
open PySem PySem.Spec PyProof.Rows L2
theorem hu3 {A : Around} {k : Nat} (hr : Room k A) : A.units + 3 < cLine := Nat.lt_of_le_of_lt (Nat.add_le_add_left (by decide : 3 ≤ 64) _) hr.units
theorem hu2 {A : Around} {k : Nat} (hr : Room k A) : A.units + 2 < cLine := Nat.lt_of_le_of_lt (Nat.add_le_add_left (by decide : 2 ≤ 64) _) hr.units
/-! two fors in a comprehension -/
theorem lc2_it {J : It} {g : TG} {tt : TT} {wi1 : TI} {g1 : TG} {tt1 : TT} {te : TE} {vs vs1 : List Nat} {σ : L2.St} {H1 : Hp} {D : Addr} {Qd : Hp → Prop} (n : Nat) (Pv : Nat → Hp → Prop) (h0 : Pv 0 (upd H1 D (.lst []))) (hgo : ∀ i H, i < n → Pv i H → J.go i H) (hst : ∀ H, Pv n H → J.stop n H)
    (hs : ∀ (i : Nat) (x : V) (H H' : Hp), i < n → Pv i H → J.yld i H x H' → g x (wipe σ vs) H' fun σ2 H2 => wipe σ2 vs = wipe σ vs ∧ tt σ2 H2 fun b H3 =>
      if b = true then wi1 σ2 H3 fun J1 H4 => ∃ W1 : Nat → Nat → Hp → Prop, (∃ m, W1 0 m H4) ∧ ∀ j k H, W1 j k H →
        (J1.stop j H ∧ Pv (i + 1) H) ∨ (J1.go j H ∧ ∃ Nx1 : Hp → Prop, (∀ H', Nx1 H' → ∃ k', k' < k ∧ W1 (j + 1) k' H') ∧ ∀ x H', J1.yld j H x H' → g1 x (wipe σ2 vs1) H' fun σ3 H5 => wipe σ3 vs1 = wipe σ2 vs1 ∧ tt1 σ3 H5 fun b H6 =>
          if b = true then te σ3 H6 fun y H7 => ∃ acc, H7 D = some (.lst acc) ∧ acc.length < sizeLine ∧ Nx1 (upd H7 D (.lst (acc ++ [y]))) else Nx1 H6)
      else Pv (i + 1) H3) (hd : ∀ H, Pv n H → Qd H) :
    ∃ W : Nat → Nat → Hp → Prop, (∃ m, W 0 m (upd H1 D (.lst []))) ∧ ∀ i m H, W i m H →
      (J.stop i H ∧ Qd H) ∨ (J.go i H ∧ ∃ Nx : Hp → Prop, (∀ H', Nx H' → ∃ m', m' < m ∧ W (i + 1) m' H') ∧ ∀ x H', J.yld i H x H' → g x (wipe σ vs) H' fun σ2 H2 => wipe σ2 vs = wipe σ vs ∧ tt σ2 H2 fun b H3 =>
        if b = true then wi1 σ2 H3 fun J1 H4 => ∃ W1 : Nat → Nat → Hp → Prop, (∃ m, W1 0 m H4) ∧ ∀ j k H, W1 j k H →
          (J1.stop j H ∧ Nx H) ∨ (J1.go j H ∧ ∃ Nx1 : Hp → Prop, (∀ H', Nx1 H' → ∃ k', k' < k ∧ W1 (j + 1) k' H') ∧ ∀ x H', J1.yld j H x H' → g1 x (wipe σ2 vs1) H' fun σ3 H5 => wipe σ3 vs1 = wipe σ2 vs1 ∧ tt1 σ3 H5 fun b H6 =>
            if b = true then te σ3 H6 fun y H7 => ∃ acc, H7 D = some (.lst acc) ∧ acc.length < sizeLine ∧ Nx1 (upd H7 D (.lst (acc ++ [y]))) else Nx1 H6)
        else Nx H3) := by
  refine ⟨fun i m H => m = n - i ∧ i ≤ n ∧ Pv i H, ⟨n, rfl, Nat.zero_le _, h0⟩, ?_⟩
  rintro i m H ⟨rfl, hi, p⟩
  by_cases hlt : i < n
  · exact .inr ⟨hgo i H hlt p, Pv (i + 1), fun H' p' => ⟨n - (i + 1), by omega, rfl, hlt, p'⟩, fun x H' y => hs i x H H' hlt p y⟩
  · have e : i = n := by omega
    subst e
    exact .inl ⟨hst H p, hd H p⟩
theorem in_it {J1 : It} {g1 : TG} {tt1 : TT} {te : TE} {vs1 : List Nat} {σ2 : L2.St} {H4 : Hp} {D : Addr} {Nx : Hp → Prop} (n : Nat) (Pv : Nat → Hp → Prop) (h0 : Pv 0 H4) (hgo : ∀ j H, j < n → Pv j H → J1.go j H) (hst : ∀ H, Pv n H → J1.stop n H)
    (hs : ∀ (j : Nat) (x : V) (H H' : Hp), j < n → Pv j H → J1.yld j H x H' → g1 x (wipe σ2 vs1) H' fun σ3 H5 => wipe σ3 vs1 = wipe σ2 vs1 ∧ tt1 σ3 H5 fun b H6 =>
      if b = true then te σ3 H6 fun y H7 => ∃ acc, H7 D = some (.lst acc) ∧ acc.length < sizeLine ∧ Pv (j + 1) (upd H7 D (.lst (acc ++ [y]))) else Pv (j + 1) H6) (hd : ∀ H, Pv n H → Nx H) :
    ∃ W1 : Nat → Nat → Hp → Prop, (∃ m, W1 0 m H4) ∧ ∀ j k H, W1 j k H →
      (J1.stop j H ∧ Nx H) ∨ (J1.go j H ∧ ∃ Nx1 : Hp → Prop, (∀ H', Nx1 H' → ∃ k', k' < k ∧ W1 (j + 1) k' H') ∧ ∀ x H', J1.yld j H x H' → g1 x (wipe σ2 vs1) H' fun σ3 H5 => wipe σ3 vs1 = wipe σ2 vs1 ∧ tt1 σ3 H5 fun b H6 =>
        if b = true then te σ3 H6 fun y H7 => ∃ acc, H7 D = some (.lst acc) ∧ acc.length < sizeLine ∧ Nx1 (upd H7 D (.lst (acc ++ [y]))) else Nx1 H6) := by
  refine ⟨fun j k H => k = n - j ∧ j ≤ n ∧ Pv j H, ⟨n, rfl, Nat.zero_le _, h0⟩, ?_⟩
  rintro j k H ⟨rfl, hj, p⟩
  by_cases hlt : j < n
  · exact .inr ⟨hgo j H hlt p, Pv (j + 1), fun H' p' => ⟨n - (j + 1), by omega, rfl, hlt, p'⟩, fun x H' y => hs j x H H' hlt p y⟩
  · have e : j = n := by omega
    subst e
    exact .inl ⟨hst H p, hd H p⟩
def rLenK (K : PySem.W.Frag) : List V → Hp → VK → Prop := fun xs H Q => ∃ p ys, xs = [.ref p] ∧ (SqL K H p ys ∨ SqT K H p ys) ∧ Q (.int ys.length) H
theorem call_lenK {X : Cx} {K : PySem.W.Frag} (hK : X.K = K) : CallR X (.builtin "len") (rLenK K) := by
  subst hK
  exact call_len_seq
/-! open_nodes -/
/-- the open nodes that are no points, as the nodes stand -/
def opn (P : List Path) (l : List (Path × Ex)) : List Path := (l.filter fun q => isOpen q.2 && !decide (q.1 ∈ P)).map (·.1)
theorem opn_mem {P : List Path} {e : Ex} {q : Path} : q ∈ opn P (nodes e []) ↔ (∃ c, sub e q = some c ∧ isOpen c = true) ∧ q ∉ P := by
  unfold opn
  rw [List.mem_map]
  constructor
  · rintro ⟨⟨p, c⟩, h, rfl⟩
    obtain ⟨h1, h2⟩ := List.mem_filter.mp h
    rw [Bool.and_eq_true] at h2
    exact ⟨⟨c, nodes_in.mp h1, h2.1⟩, by simpa using h2.2⟩
  · rintro ⟨⟨c, h1, h2⟩, h3⟩
    exact ⟨(q, c), List.mem_filter.mpr ⟨nodes_in.mpr h1, by simp [h2, h3]⟩, rfl⟩
theorem opn_nodup (P : List Path) (e : Ex) : (opn P (nodes e [])).Nodup := (nodes_nodup e []).sublist ((List.filter_sublist).map _)
def spOpenN (K : PySem.W.Frag) : Sp := fun vs H Q _ => ∃ a B e, ∃ P : List Path, vs = [.ref a] ∧ TaskAt K H a B e P ∧ cnt e ≤ 1000 ∧
  ∀ l ys qs H', Same H H' → H l = none → H' l = some (.lst ys) → PathsAt H' ys qs → (∀ q, q ∈ qs ↔ (∃ c, sub e q = some c ∧ isOpen c = true) ∧ q ∉ P) → qs.Nodup → Q (.ref l) H'
section
variable {P : Program} {w : World} {K : PySem.W.Frag} {mg : Str → Option Value} {base : Heap}
theorem sc_openN : FnScope ["self", "path", "node"] ["self"] (defScope (inClass (top 50) 7)) := ⟨rfl, rfl, rfl, by decide +kernel, rfl, by decide +kernel, by decide +kernel⟩
theorem w_openN (T : Txt K w mg) (cO : CallP P w K mg base 1 "is_open" (spIsOpen K)) : MethP P w K mg base 2 (He.ga K "Task") "open_nodes" (spOpenN K) := by
  refine mthP (C := "Task") (m := "open_nodes") T (mkM (k := 1) T 25 sc_openN (fun _ _ _ _ _ _ us hl => match us, hl with | [_], _ => rfl) (fun vs H Q E h => ?_) fun cdv A outer s H vs Q E hr h => ?_)
  · obtain ⟨a, B, e, P0, rfl, _⟩ := h
    rfl
  obtain ⟨a, B, e, P0, rfl, ta, hct, q⟩ := h
  obtain ⟨dx, vb, ve, d, pt, ow, xs, ys, h1, h2, h3, h4, h5, h6, h7, h8⟩ := ta.ex
  obtain ⟨kvs, hd, htb⟩ := h4
  have hz : (1000 : Nat) < sizeLine := by decide
  have lk : kvs.length = (nodes e []).length := Paired.length htb
  have ln : (nodes e []).length = cnt e := nodes_cnt e []
  refine ⟨_, pss_one (ps_ret (pe_callB (cr_sortT (hu3 hr)) (by rfl) (T.free "sorted" (by decide +kernel)) (by decide +kernel) (pa_cons (pe_lock (pe_lc (own := [("path", 1), ("node", 2)]) (g := gTup K 2 (gCons (gName 1) (gCons (gName 2) gNil)))
    rfl sc_openN.nd (pi_itemsT (pe_fld (pv 0) rfl)) (blkOk_by (N := ["self", "path", "node"]) (sc := defScope (inClass (top 50) 7)) (by decide +kernel))
    (fun _ _ _ _ _ => pg_tup rfl (pgs_cons (pg_name (i := 1) sc_openN.nd rfl (Or.inl rfl)) (pgs_cons (pg_name (i := 2) sc_openN.nd rfl (Or.inl rfl)) pgs_nil)))
    (fun _ _ _ _ _ => pts_one (PW.pt (pw_and (pt_val (pe_fn cO hr (by decide) (by rfl) (pa_cons (pv 2) pa_nil))) (pw_and1 (pt_cmpR (r := rInP K true) (op_notInP (hu_of hr)) (pv 1) (pe_fldK (K := K) rfl (pv 0) rfl) rfl))))) (fun _ _ _ _ _ => pv 1))) pa_nil))), ?_⟩
  refine ⟨d, _, hd, trivial, fun od => ?_⟩
  have htk := lock_tk (od := od) hd (fun _ z => nomatch z)
  have unl : ∀ H', Same (upd H d (.frz od (.dT kvs))) H' → Same H (upd H' d (.dT kvs)) := fun H' => unlock hd
  have ha0 : (upd H d (.frz od (.dT kvs))) a = some (.ins (He.ga K "Task") dx (taskFs vb ve d pt ow)) := by rw [upd_ne (ne_of h1 hd fun z => nomatch z)]; exact h1
  have hpt0 := htk _ _ h5
  have hps0 := h6.keep htk
  have htb0 : Paired (fun (kv : List Key × V) (q : Path × Ex) => kv.1 = q.1.map Sum.inl ∧ TreeAt (upd H d (.frz od (.dT kvs))) kv.2 q.2) kvs (nodes e []) := Paired.mapP htb fun _ _ z => ⟨z.1, z.2.keep htk⟩
  have hfr : (upd H d (.frz od (.dT kvs))) d = some (.frz od (.dT kvs)) := upd_same
  have hfree : ∀ l, (upd H d (.frz od (.dT kvs))) l = none → H l = none := fun l h => by
    by_cases e : l = d
    · rw [e, upd_same] at h; cases h
    · rw [upd_ne e] at h; exact h
  generalize upd H d (.frz od (.dT kvs)) = HL at *
  refine ⟨_, rfl, a, _, dx, _, _, rfl, ha0, T.cls, T.noat, rfl, d, od, kvs, rfl, hfr, fun D hD => lc_gen Nix kvs.length (fun i acc H' => PathsAt H' acc (opn P0 ((nodes e []).take i))) hD (fun a h => h.elim) (fun H' _ => .nil) (fun i acc H' H'' g k => g.keep k.tk) (fun i acc H' hi g => ?_) (fun i H' hi k => ⟨k.same _ _ hfr, hi⟩) (fun H' k => ⟨k.same _ _ hfr, Nat.le_refl _⟩) ?_ ?_⟩
  · rw [Paired.length g]
    have : (opn P0 ((nodes e []).take i)).length ≤ i := by
      unfold opn
      rw [List.length_map]
      exact Nat.le_trans (List.length_filter_le _ _) (by rw [List.length_take]; omega)
    omega
  · rintro i acc x H2 H3 N1 N0 n1 n0 hi k g ⟨t, kk, v, qa, hkv, rfl, ht, hqa, rfl⟩
    have s2 := k.same
    obtain ⟨p, c, hpc, rfl, htc⟩ := tab_nth (Paired.mapP htb0 fun _ _ z => ⟨z.1, z.2.keep s2.tk⟩) hkv
    have s3 := same_new ht (o := .tup [.ref qa, v])
    have hp3 : (upd H2 t (.tup [.ref qa, v])) qa = some (.tup (p.map V.int)) := s3 _ _ (key_path hqa)
    have tk : (nodes e []).take (i + 1) = (nodes e []).take i ++ [(p, c)] := by rw [List.take_add_one, hpc]; rfl
    have s23 := s2.trans s3
    refine ⟨t, _, rfl, SqT.of upd_same, rfl, _, _, rfl, _, _, rfl, rfl, rfl, _, rfl, v, c, rfl, htc.keep s3.tk, _, rfl, ?_⟩
    have stay : (isOpen c && !decide (p ∈ P0)) = false → N0 (upd H2 t (.tup [.ref qa, v])) := fun h => n0 _ (Kp.of s3) (by
      rw [tk]
      unfold opn
      rw [List.filter_append, List.filter_cons_of_neg (by show ¬ (isOpen c && !decide (p ∈ P0)) = true; rw [h]; decide), List.filter_nil, List.append_nil]
      exact PathsAt.keep s3.tk g)
    cases ho : isOpen c with
    | false => exact iteF (stay (by rw [ho]; rfl))
    | true =>
      refine iteT ?_
      refine ⟨_, rfl, _, rfl, a, _, dx, _, _, rfl, s23 _ _ ha0, T.cls, T.noat, rfl, p, pt, xs, P0, ⟨qa, rfl, SqT.of hp3⟩, rfl, .inr (SqT.of (s23 _ _ hpt0)), (hps0.keep s23.tk).paths, _, rfl, ?_⟩
      by_cases hin : p ∈ P0
      · rw [decide_eq_true hin]
        exact stay (by rw [decide_eq_true hin, Bool.not_true, Bool.and_false])
      · rw [decide_eq_false hin]
        refine ⟨_, rfl, n1 _ _ (Kp.of s3) ?_⟩
        rw [tk]
        unfold opn
        rw [List.filter_append, List.map_append]
        refine Paired.app (PathsAt.keep s3.tk g) ?_
        rw [List.filter_cons_of_pos (by show (isOpen c && !decide (p ∈ P0)) = true; rw [ho, decide_eq_false hin]; rfl)]
        exact .cons ⟨qa, rfl, hp3⟩ .nil
  · rintro H2 acc k e2 g
    have s2 := k.same
    have hdD := s2 _ _ hfr
    have s3 := unl H2 s2
    rw [List.take_of_length_le (by omega)] at g
    refine ⟨hdD, D, acc, _, rfl, SqL.of (by rw [upd_ne (ne_of e2 hdD fun z => nomatch z)]; exact e2), g.keep (unlock_tk hdD), fun ys qs l hy perm srt hl => ?_⟩
    refine q l ys qs _ (s3.nw hl) (s3.free hl) upd_same (hy.keep (same_new hl).tk) (fun q' => ?_) (perm.nodup_iff.mpr (opn_nodup P0 e))
    rw [perm.mem_iff]
    exact opn_mem
/-! Task(..) -/
/-- H0: the heap ahead of the instance -/
def spTask (K : PySem.W.Frag) : Sp := fun vs H Q _ => ∃ p dx vb ve pt xs B e, ∃ P : List Path, ∃ H0 : Hp, vs = [.ref p, vb, ve, .ref pt] ∧ H p = some (.ins (He.ga K "Task") dx []) ∧ Same H0 H ∧ H0 p = none ∧ BookAt K H0 vb B ∧ TreeAt H0 ve e ∧ H0 pt = some (.tup xs) ∧ PathsAt H0 xs P ∧ Good B e P ∧
  ∀ H', Same H0 H' → TaskAt K H' p B e P → Q .non H'
abbrev tkN : List Str := ["self", "book", "expression", "points", "wrong", "path", "node", "turn"]
theorem sc_task : FnScope tkN ["self", "book", "expression", "points"] (defScope (inClass (top 50) 2)) := ⟨rfl, rfl, rfl, by decide +kernel, rfl, by decide +kernel, by decide +kernel⟩
theorem pf1 (vb : V) : putF "book" vb [] = ([("book", vb)] : List (Str × V)) := rfl
theorem pf2 (vb ve : V) : putF "expression" ve ([("book", vb)] : List (Str × V)) = ([("book", vb), ("expression", ve)] : List (Str × V)) := rfl
theorem pf3 (vb ve vd : V) : putF "table" vd ([("book", vb), ("expression", ve)] : List (Str × V)) = ([("book", vb), ("expression", ve), ("table", vd)] : List (Str × V)) := rfl
theorem pf4 (vb ve vd vp : V) : putF "points" vp ([("book", vb), ("expression", ve), ("table", vd)] : List (Str × V)) = ([("book", vb), ("expression", ve), ("table", vd), ("points", vp)] : List (Str × V)) := rfl
theorem pf5 (vb ve vd vp vo : V) : putF "owners" vo ([("book", vb), ("expression", ve), ("table", vd), ("points", vp)] : List (Str × V)) = ([("book", vb), ("expression", ve), ("table", vd), ("points", vp), ("owners", vo)] : List (Str × V)) := rfl
theorem same_set {H0 H : Hp} {p : Addr} {o : HO} (s : Same H0 H) (h : H0 p = none) : Same H0 (upd H p o) := fun a u e => by rw [upd_ne (ne_of_none e h)]; exact s a u e
theorem spots_kvs {H : Hp} : ∀ {rs : List V} {qs : List (Path × Ex)}, SpotsAt H rs qs → ∃ kvs : List (List Key × V), PrsT K H rs kvs ∧ Paired (fun (kv : List Key × V) (q : Path × Ex) => kv.1 = q.1.map Sum.inl ∧ TreeAt H kv.2 q.2) kvs qs
  | _, _, .nil => ⟨[], .nil, .nil⟩
  | _, _, .cons (b := q) h tl => by
    obtain ⟨t, vp, ve, rfl, h1, ⟨a, rfl, ha⟩, h3⟩ := h
    obtain ⟨kvs, k1, k2⟩ := spots_kvs tl
    exact ⟨(q.1.map Sum.inl, ve) :: kvs, .cons ⟨t, a, rfl, SqT.of h1, PathAt.key ha⟩ k1, .cons ⟨rfl, h3⟩ k2⟩
theorem own_take (l : List (Path × Ex)) (i : Nat) {q : Path × Ex} (h : l[i]? = some q) : ((l.take (i + 1)).map (·.2.own)).sum = ((l.take i).map (·.2.own)).sum + q.2.own := by
  rw [List.take_add_one, h, List.map_append, List.sum_append]
  rfl
theorem own_take_le (l : List (Path × Ex)) (i : Nat) : ((l.take i).map (·.2.own)).sum ≤ (l.map (·.2.own)).sum := by
  have := sum_append_map (l.take i) (l.drop i)
  rw [List.take_append_drop] at this
  omega
theorem w_task (T : Txt K w mg) (cW : CallP P w K mg base 9 "first_wrong" (spFirst K 5)) (cS : CallP P w K mg base 6 "spots_in" (spSpots 5)) (cA : MethP P w K mg base 4 (He.ga K "Task") "are_points" (spArePts K)) (cOw : CallP P w K mg base 1 "own_steps_of" (spOwnOf K)) :
    MakeKP P w K mg base 10 (He.ga K "Task") "Task" 2 ["points"] (spTask K) := by
  obtain ⟨fd, F⟩ := T.dfs _ (List.mem_of_getElem? (show fn[22]? = some _ from rfl))
  have hb : KBn K fd ["self", "book", "expression", "points"] 3 ["points"] (fun us ws => us ++ ws) (fun vs zs => vs ++ zs) := by
    obtain ⟨oc, od, dV, kV, doc, pm, an, cdv, ct, osl, rfl, lk, hcd, hD, hK⟩ := F.ex
    rcases hD with ⟨_, rfl⟩ | ⟨e, _⟩
    · refine ⟨fun s us ws _ l1 l2 => ?_, fun r1 r2 => r1.append r2⟩
      match us, ws, l1, l2 with
      | [_, _, _], [_], _, _ => exact .of_eq rfl
    · exact absurd rfl e
  obtain ⟨tm, hM⟩ := cnum_ok (T.ex 7)
  obtain ⟨tm2, hM2⟩ := cnum_ok (T.ex 8)
  have hR := read_ok (T.ex 10)
  refine ⟨_, fd, _, _, T.glo "Task" (by decide +kernel), T.mkr, hb, F.ok (k := 9) sc_task (fun vs H Q E h => ?_) fun cdv A outer s H vs Q E hr h => ?_⟩
  · obtain ⟨p, dx, vb, ve, pt, xs, B, e, P0, H0, rfl, _⟩ := h
    rfl
  obtain ⟨p, dx, vb, ve, pt, xs, B, e, P0, H0, rfl, hp, s0, hn0, hbk, htr, hpt, hps, gd, q⟩ := h
  have hu := hu_of hr
  have hz : (1000 : Nat) < sizeLine := by decide
  have hds := gd.dp
  have hcs := gd.ct
  refine ⟨_, PSs.nox (pss_cons (ps_set (i := 4) sc_task.nd rfl (Or.inl rfl) (pe_fn cW hr (by decide) (by rfl) (pa_cons (pv 1) (pa_cons (pv 2) (pa_cons (pe_tup pa_nil) pa_nil)))))
    (pss_cons (ps_if (pt_cmp (pc_notN (pv 4))) (pss_one ps_never) pss_nil)
    (pss_cons (ps_fld (pv 0) (pv 1) rfl) (pss_cons (ps_fld (pv 0) (pv 2) rfl)
    (pss_cons (ps_fld (pv 0) (pe_callTy (call_dictPT rfl (hu3 hr)) (by rfl) (T.free "dict" (by decide +kernel)) (by decide +kernel) (pa_cons (pe_fn cS hr (by decide) (by rfl) (pa_cons (pv 2) (pa_cons (pe_tup pa_nil) pa_nil))) pa_nil)) rfl)
    (pss_cons (ps_if (pt_cmpR op_gt (pe_callB call_len_dT (by rfl) (T.free "len" (by decide +kernel)) PySem.boot_len (pa_cons (pe_fld (pv 0) rfl) pa_nil)) (ClX.pe_cval (pe_glob (v := .ref (He.ga K "Task")) (by rfl) (T.glo "Task" (by decide +kernel)) rfl)) (nomark _)) (pss_one ps_never) pss_nil)
    (pss_cons (ps_if (pt_cmpR op_ge (pe_callB (cr_max rfl) (by rfl) (T.free "max" (by decide +kernel)) (by decide +kernel) (pa_cons (pe_lock (pe_lc (own := [("path", 5)]) (g := gName 5) (tt := tYes) rfl sc_task.nd (pi_keys (pe_fld (pv 0) rfl)) (blkOk_by (N := tkN) (sc := defScope (inClass (top 50) 2)) (by decide +kernel))
      (fun _ _ _ _ _ => pg_name (i := 5) sc_task.nd rfl (Or.inl rfl)) (fun _ _ _ _ _ => pts_nil) (fun _ _ _ _ _ => pe_callB (r := rLenK K) (call_lenK rfl) (by rfl) (T.free "len" (by decide +kernel)) PySem.boot_len (pa_cons (pv 5) pa_nil)))) pa_nil)) (ClX.pe_cval (pe_glob (v := .ref (He.ga K "Task")) (by rfl) (T.glo "Task" (by decide +kernel)) rfl)) (nomark _)) (pss_one ps_never) pss_nil)
    (pss_cons (ps_if (pt_not (pt_val (pe_mth (pv 0) T.cls cA hr (by decide) (pa_cons (pv 3) pa_nil)))) (pss_one ps_never) pss_nil)
    (pss_cons (ps_fld (pv 0) (pv 3) rfl)
    (pss_one (ps_fld (pv 0) (pe_lock (pe_lc2 (own := [("path", 5), ("node", 6), ("turn", 7)]) (vs1 := [7]) (g := gTup K 2 (gCons (gName 5) (gCons (gName 6) gNil))) (g1 := gName 7) (tt := tYes) (tt1 := tYes) rfl sc_task.nd (pi_itemsT (pe_fld (pv 0) rfl)) (blkOk_by (N := tkN) (sc := defScope (inClass (top 50) 2)) (by decide +kernel)) (by decide)
      (fun _ _ _ _ _ => pg_tup rfl (pgs_cons (pg_name (i := 5) sc_task.nd rfl (Or.inl rfl)) (pgs_cons (pg_name (i := 6) sc_task.nd rfl (Or.inl rfl)) pgs_nil))) (fun _ _ _ _ _ => pts_nil)
      (fun _ _ _ _ _ => pi_range1 rfl (T.free "range" (by decide +kernel)) (pa_cons (pe_fn cOw hr (by decide) (by rfl) (pa_cons (pv 6) pa_nil)) pa_nil))
      (fun _ _ _ _ _ => pg_name (i := 7) sc_task.nd rfl (Or.inl rfl)) (fun _ _ _ _ _ => pts_nil) (fun _ _ _ _ _ => pv 5))) rfl))))))))))), ?_⟩
  -- wrong
  refine ⟨_, rfl, _, rfl, z0, fun t0 ht0 => ?_⟩
  have s1 : Same H (upd H t0 (.tup [])) := same_new ht0
  have k01 := s0.trans s1
  refine ⟨vb, ve, .ref t0, B, e, [], rfl, hbk.keep (Kp.of (S := Nix) k01), htr.keep k01.tk, gd.wf, by omega, ⟨t0, rfl, upd_same⟩, by show 0 + dep e ≤ 100; omega, fun H2 s2 => ⟨_, rfl, _, rfl, iteF2 (by rfl) ?_⟩⟩
  have k02 := k01.trans s2
  have hp2 : H2 p = some (.ins (He.ga K "Task") dx []) := (s1.trans s2) _ _ hp
  -- book, expression
  refine ⟨_, rfl, _, rfl, p, _, dx, _, rfl, hp2, T.cls, T.noat, by decide, ?_⟩
  refine ⟨_, rfl, _, rfl, p, _, dx, _, rfl, upd_same, T.cls, T.noat, by rw [pf1]; show 1 < 1000; decide, ?_⟩
  rw [pf1, pf2]
  have k03 := same_set (o := .ins (He.ga K "Task") dx [("book", vb), ("expression", ve)]) (same_set (o := .ins (He.ga K "Task") dx [("book", vb)]) k02 hn0) hn0
  have hp3 : (upd (upd H2 p (.ins (He.ga K "Task") dx [("book", vb)])) p (.ins (He.ga K "Task") dx [("book", vb), ("expression", ve)])) p = some (.ins (He.ga K "Task") dx [("book", vb), ("expression", ve)]) := upd_same
  generalize upd (upd H2 p (.ins (He.ga K "Task") dx [("book", vb)])) p (.ins (He.ga K "Task") dx [("book", vb), ("expression", ve)]) = H3 at k03 hp3 ⊢
  -- table
  refine ⟨_, rfl, z0, fun t1 ht1 => ?_⟩
  have s4 : Same H3 (upd H3 t1 (.tup [])) := same_new ht1
  have k04 := k03.trans s4
  refine ⟨ve, .ref t1, B, e, [], rfl, htr.keep k04.tk, gd.wf, by omega, ⟨t1, rfl, upd_same⟩, by show 0 + dep e ≤ 100; omega, by omega, fun l rs H5 s5 hl hrs => ?_⟩
  obtain ⟨kvs, prs, tbl⟩ := spots_kvs (K := K) hrs
  have keys : kvs.map (·.1) = ((nodes e []).map (·.1)).map fun p => p.map Sum.inl := by
    have : ∀ {l : List (List Key × V)} {m : List (Path × Ex)}, Paired (fun (kv : List Key × V) (q : Path × Ex) => kv.1 = q.1.map Sum.inl ∧ TreeAt H5 kv.2 q.2) l m → l.map (·.1) = (m.map (·.1)).map fun p => (p.map Sum.inl : List Key) := by
      intro l m h
      induction h with
      | nil => rfl
      | cons h t ih => rw [List.map_cons, List.map_cons, List.map_cons, ih, h.1]
    exact this tbl
  have lk : kvs.length = cnt e := by rw [Paired.length tbl, nodes_cnt]
  refine ⟨l, rs, kvs, rfl, SqL.of hl, prs, ?_, fun d hd => ?_⟩
  · rw [keys]
    have := nodes_nodup e []
    exact List.Pairwise.map _ (fun a b h z => h (inl_inj z)) this
  have hp5 : H5 p = some (.ins (He.ga K "Task") dx [("book", vb), ("expression", ve)]) := (s4.trans s5) _ _ hp3
  have k05 := k04.trans s5
  have s6 : Same H5 (upd H5 d (.dT kvs)) := same_new hd
  refine ⟨_, rfl, p, _, dx, _, rfl, s6 _ _ hp5, T.cls, T.noat, by show 2 < 1000; decide, ?_⟩
  rw [pf3]
  have npd : d ≠ p := fun z => by rw [z, hp5] at hd; cases hd
  have k06 := same_set (o := .ins (He.ga K "Task") dx [("book", vb), ("expression", ve), ("table", .ref d)]) (k05.trans s6) hn0
  have hp6 : (upd (upd H5 d (.dT kvs)) p (.ins (He.ga K "Task") dx [("book", vb), ("expression", ve), ("table", .ref d)])) p = some (.ins (He.ga K "Task") dx [("book", vb), ("expression", ve), ("table", .ref d)]) := upd_same
  have hd6 : (upd (upd H5 d (.dT kvs)) p (.ins (He.ga K "Task") dx [("book", vb), ("expression", ve), ("table", .ref d)])) d = some (.dT kvs) := by rw [upd_ne npd, upd_same]
  have tk6 : TupK H5 (upd (upd H5 d (.dT kvs)) p (.ins (He.ga K "Task") dx [("book", vb), ("expression", ve), ("table", .ref d)])) := TupK.set s6.tk (s6 _ _ hp5) fun _ z => nomatch z
  have tbl6 : Paired (fun (kv : List Key × V) (q : Path × Ex) => kv.1 = q.1.map Sum.inl ∧ TreeAt (upd (upd H5 d (.dT kvs)) p (.ins (He.ga K "Task") dx [("book", vb), ("expression", ve), ("table", .ref d)])) kv.2 q.2) kvs (nodes e []) := Paired.mapP tbl fun _ _ z => ⟨z.1, z.2.keep tk6⟩
  generalize upd (upd H5 d (.dT kvs)) p (.ins (He.ga K "Task") dx [("book", vb), ("expression", ve), ("table", .ref d)]) = H6 at k06 hp6 hd6 tk6 tbl6 ⊢
  -- not too many nodes
  refine ⟨_, rfl, p, _, dx, _, _, rfl, hp6, T.cls, T.noat, rfl, d, kvs, rfl, hd6, _, _, _, _, rfl, hR, hM, _, _, rfl, rfl, _, rfl, ?_⟩
  rw [decide_eq_false (by omega)]
  refine iteF ?_
  -- not too deep
  refine ⟨d, _, hd6, trivial, fun od => ?_⟩
  have htk := lock_tk (od := od) hd6 (fun _ z => nomatch z)
  have unl : ∀ H', Same (upd H6 d (.frz od (.dT kvs))) H' → Same H6 (upd H' d (.dT kvs)) := fun H' => unlock hd6
  have hpL : (upd H6 d (.frz od (.dT kvs))) p = some (.ins (He.ga K "Task") dx [("book", vb), ("expression", ve), ("table", .ref d)]) := by rw [upd_ne npd.symm]; exact hp6
  have hfr : (upd H6 d (.frz od (.dT kvs))) d = some (.frz od (.dT kvs)) := upd_same
  have hlk : kvs.length = (nodes e []).length := Paired.length tbl6
  generalize upd H6 d (.frz od (.dT kvs)) = HL at htk unl hpL hfr ⊢
  refine ⟨_, rfl, p, _, dx, _, _, rfl, hpL, T.cls, T.noat, rfl, d, od, rfl, .inr ⟨kvs, hfr, fun D hD => lc_gen Nix kvs.length (fun i acc H' => acc = ((nodes e []).take i).map (fun q => V.int ((q.1.length : Nat) : Int))) hD (fun a h => h.elim) (fun H' _ => rfl) (fun i acc H' H'' g k => g) (fun i acc H' hi g => ?_) (fun i H' hi k => ⟨k.same _ _ hfr, hi⟩) (fun H' k => ⟨k.same _ _ hfr, Nat.le_refl _⟩) ?_ ?_⟩⟩
  · rw [g, List.length_map, List.length_take]; omega
  · rintro i acc x H7 H8 N1 N0 n1 n0 hi k g ⟨rfl, kk, v, qa, hkv, rfl, hqa⟩
    obtain ⟨p', c, hpc, rfl, _⟩ := tab_nth tbl6 hkv
    refine ⟨rfl, _, rfl, qa, _, rfl, .inr (SqT.of (key_path hqa)), n1 _ _ (Kp.rfl _ _) ?_⟩
    rw [g, List.take_add_one, hpc, List.map_append, List.length_map]
    rfl
  · rintro H7 acc k e7 g
    have s7 := k.same
    have hd7 := s7 _ _ hfr
    refine ⟨hd7, D, ((nodes e []).map (fun q => ((q.1.length : Nat) : Int))), rfl, SqL.of ?_, ?_, fun m hm _ => ?_⟩
    · rw [upd_ne (ne_of e7 hd7 fun z => nomatch z), e7, g, List.take_of_length_le (by omega), List.map_map]
      rfl
    · rw [List.length_map, nodes_eq]
      exact Nat.succ_pos _
    have hm' : m ≤ 4 := by
      obtain ⟨⟨p', c⟩, hq, rfl⟩ := List.mem_map.mp hm
      have := sub_dep (nodes_in.mp hq)
      show ((p'.length : Nat) : Int) ≤ 4
      omega
    refine ⟨_, _, _, _, rfl, hR, hM2, _, _, rfl, rfl, _, rfl, ?_⟩
    rw [decide_eq_false (by omega)]
    refine iteF ?_
    have s67 := unl H7 s7
    generalize upd H7 d (.dT kvs) = H8 at s67 ⊢
    have k08 := k06.trans s67
    have hp8 := s67 _ _ hp6
    -- the points
    refine ⟨_, rfl, p, dx, _, rfl, hp8, rfl, _, rfl, p, dx, _, vb, ve, d, pt, xs, e, P0, rfl, hp8, .inl rfl, ⟨kvs, s67 _ _ hd6, Paired.mapP tbl6 fun _ _ z => ⟨z.1, z.2.keep s67.tk⟩⟩, by omega, k08 _ _ hpt, hps.keep k08.tk, Nat.le_trans gd.few (by decide), gd.up, gd.op, fun H9 s9 => ⟨_, rfl, iteF ?_⟩⟩
    have k09 := k08.trans s9
    have hp9 := s9 _ _ hp8
    have hd9 := s9 _ _ (s67 _ _ hd6)
    have tk9 := (s67.trans s9).tk
    refine ⟨_, rfl, _, rfl, p, _, dx, _, rfl, hp9, T.cls, T.noat, by show 3 < 1000; decide, ?_⟩
    rw [pf4]
    have k10 := same_set (o := .ins (He.ga K "Task") dx [("book", vb), ("expression", ve), ("table", .ref d), ("points", .ref pt)]) k09 hn0
    have hp10 : (upd H9 p (.ins (He.ga K "Task") dx [("book", vb), ("expression", ve), ("table", .ref d), ("points", .ref pt)])) p = some (.ins (He.ga K "Task") dx [("book", vb), ("expression", ve), ("table", .ref d), ("points", .ref pt)]) := upd_same
    have hd10 : (upd H9 p (.ins (He.ga K "Task") dx [("book", vb), ("expression", ve), ("table", .ref d), ("points", .ref pt)])) d = some (.dT kvs) := by rw [upd_ne npd]; exact hd9
    have tk10 := TupK.set (o := .ins (He.ga K "Task") dx [("book", vb), ("expression", ve), ("table", .ref d), ("points", .ref pt)]) tk9 hp9 fun _ z => nomatch z
    have tbl10 := Paired.mapP tbl6 fun _ _ z => (⟨z.1, z.2.keep tk10⟩ : _ ∧ TreeAt _ _ _)
    generalize upd H9 p (.ins (He.ga K "Task") dx [("book", vb), ("expression", ve), ("table", .ref d), ("points", .ref pt)]) = H10 at k10 hp10 hd10 tk10 tbl10 ⊢
    -- owners
    refine ⟨d, _, hd10, trivial, fun od2 => ?_⟩
    have htk2 := lock_tk (od := od2) hd10 (fun _ z => nomatch z)
    have unl2 : ∀ H', Same (upd H10 d (.frz od2 (.dT kvs))) H' → Same H10 (upd H' d (.dT kvs)) := fun H' => unlock hd10
    have hpL2 : (upd H10 d (.frz od2 (.dT kvs))) p = some (.ins (He.ga K "Task") dx [("book", vb), ("expression", ve), ("table", .ref d), ("points", .ref pt)]) := by rw [upd_ne npd.symm]; exact hp10
    have hfr2 : (upd H10 d (.frz od2 (.dT kvs))) d = some (.frz od2 (.dT kvs)) := upd_same
    have tblL := Paired.mapP tbl10 fun _ _ z => (⟨z.1, z.2.keep htk2⟩ : _ ∧ TreeAt _ _ _)
    generalize upd H10 d (.frz od2 (.dT kvs)) = HL2 at htk2 unl2 hpL2 hfr2 tblL ⊢
    have hsum : ((nodes e []).map (·.2.own)).sum = steps e := by rw [← rows_count, rows_steps]
    have hst := gd.st
    refine ⟨_, rfl, p, _, dx, _, _, rfl, hpL2, T.cls, T.noat, rfl, d, od2, kvs, rfl, hfr2, fun D2 hD2 => lc2_it kvs.length (fun i H' => Same HL2 H' ∧ ∃ acc, H' D2 = some (.lst acc) ∧ acc.length = (((nodes e []).take i).map (·.2.own)).sum) ⟨same_new hD2, [], upd_same, by simp⟩ (fun i H' hi ⟨s, _⟩ => ⟨s _ _ hfr2, hi⟩) (fun H' ⟨s, _⟩ => ⟨s _ _ hfr2, Nat.le_refl _⟩) ?_ ?_⟩
    · rintro i x H11 H12 hi ⟨s11, acc, hacc, hal⟩ ⟨t, kk, v, qa, hkv, rfl, ht, hqa, rfl⟩
      obtain ⟨p', c, hpc, rfl, htc⟩ := tab_nth tblL hkv
      have s12 := same_new ht (o := .tup [.ref qa, v])
      refine ⟨t, _, rfl, SqT.of upd_same, rfl, _, _, rfl, _, _, rfl, rfl, rfl, _, rfl, v, c, rfl, htc.keep (s11.trans s12).tk, ?_⟩
      have hle := own_take_le (nodes e []) (i + 1)
      rw [own_take _ i hpc] at hle
      have hle2 : (((nodes e []).take i).map (·.2.own)).sum + c.own ≤ steps e := by rw [← hsum]; exact hle
      have hc2 : c.own ≤ steps e := by omega
      refine ⟨_, rfl, by omega, by omega, in_it c.own (fun j H' => Same HL2 H' ∧ ∃ acc, H' D2 = some (.lst acc) ∧ acc.length = (((nodes e []).take i).map (·.2.own)).sum + j) ⟨s11.trans s12, acc, s12 _ _ hacc, by omega⟩ (fun j H' hj _ => by show j < ((c.own : Nat) : Int).toNat; omega) (fun H' _ => by show ((c.own : Nat) : Int).toNat ≤ c.own; omega) ?_ ?_⟩
      · rintro j x H13 H14 hj ⟨s13, acc3, hacc3, hal3⟩ ⟨rfl, rfl⟩
        refine ⟨rfl, _, rfl, acc3, hacc3, by omega, fun a o e' => ?_, _, upd_same, by rw [List.length_append, hal3]; rfl⟩
        rw [upd_ne (ne_of_none e' hD2)]
        exact s13 a o e'
      · rintro H13 ⟨s13, acc3, hacc3, hal3⟩
        exact ⟨s13, acc3, hacc3, by rw [own_take _ i hpc]; exact hal3⟩
    · rintro H11 ⟨s11, acc, hacc, hal⟩
      have hd11 := s11 _ _ hfr2
      have s12 := unl2 H11 s11
      have hD12 : (upd H11 d (.dT kvs)) D2 = some (.lst acc) := by rw [upd_ne (ne_of hacc hd11 fun z => nomatch z)]; exact hacc
      generalize upd H11 d (.dT kvs) = H12 at s12 hD12 ⊢
      have hp12 := s12 _ _ hp10
      refine ⟨hd11, _, rfl, p, _, dx, _, rfl, hp12, T.cls, T.noat, by show 4 < 1000; decide, ?_⟩
      rw [pf5]
      have k12 := k10.trans s12
      refine q _ (same_set k12 hn0) ⟨dx, vb, ve, d, pt, D2, xs, acc, upd_same, ?_, ?_, ?_, ?_, ?_, ?_, ?_⟩
      · exact hbk.keep (Kp.of (S := Nix) (same_set k12 hn0))
      · exact htr.keep (same_set k12 hn0).tk
      · have tkf := TupK.set (o := .ins (He.ga K "Task") dx [("book", vb), ("expression", ve), ("table", .ref d), ("points", .ref pt), ("owners", .ref D2)]) s12.tk hp12 fun _ z => nomatch z
        exact ⟨kvs, by rw [upd_ne npd]; exact s12 _ _ hd10, Paired.mapP tbl10 fun _ _ z => ⟨z.1, z.2.keep tkf⟩⟩
      · exact (same_set k12 hn0) _ _ hpt
      · exact hps.keep (same_set k12 hn0).tk
      · rw [upd_ne (ne_of hD12 hp12 fun z => nomatch z)]; exact hD12
      · rw [hal, List.take_of_length_le (by omega), hsum]
end
end Oo

set_option Elab.async false
set_option linter.all false
set_option maxRecDepth 100000
set_option maxHeartbeats 4000000
/-! with_points; relate. -/
namespace Oo
open PySem PySem.Spec PyProof.Rows L2
theorem made {H : Hp} {x dx : Addr} {o u : HO} (hx : H x = none) (hd : H dx = none) : Same H (upd (upd H dx o) x u) := fun a v e => by rw [upd_ne (ne_of_none e hx), upd_ne (ne_of_none e hd)]; exact e
theorem paths_get {H : Hp} {xs : List V} {ps : List Path} (h : PathsAt H xs ps) : xs.length = ps.length := Paired.length h
def spWithT (K : PySem.W.Frag) : Sp := fun vs H Q _ => ∃ a t vp B e p, ∃ P : List Path, vs = [.ref a, .ref t] ∧ H t = some (.tup [vp]) ∧ TaskAt K H a B e P ∧ Good B e P ∧ PathAt H vp p ∧ (∃ c, sub e p = some c ∧ isOpen c = true) ∧ p ∉ P ∧
  ∀ x P' H', Same H H' → TaskAt K H' x B e P' → Good B e P' → (∀ q, q ∈ P' ↔ q ∈ P ∨ q = p) → Q (.ref x) H'
def spWith (K : PySem.W.Frag) : Sp := fun vs H Q _ => ∃ a vp B e p, ∃ P : List Path, vs = [.ref a, vp] ∧ TaskAt K H a B e P ∧ Good B e P ∧ PathAt H vp p ∧ (∃ c, sub e p = some c ∧ isOpen c = true) ∧ p ∉ P ∧
  ∀ x P' H', Same H H' → TaskAt K H' x B e P' → Good B e P' → (∀ q, q ∈ P' ↔ q ∈ P ∨ q = p) → Q (.ref x) H'
section
variable {P : Program} {w : World} {K : PySem.W.Frag} {mg : Str → Option Value} {base : Heap}
abbrev wpN : List Str := ["self", "paths", "left", "path"]
theorem sc_with : FnScope wpN ["self", "paths"] (defScope (inClass (top 50) 9)) := ⟨rfl, rfl, rfl, by decide +kernel, rfl, by decide +kernel, by decide +kernel⟩
theorem w_with (T : Txt K w mg) (cP : CallP P w K mg base 2 "is_path" spIsPath) (cN : MethP P w K mg base 2 (He.ga K "Task") "open_nodes" (spOpenN K)) (cT : MakeKP P w K mg base 10 (He.ga K "Task") "Task" 2 ["points"] (spTask K)) :
    MethP P w K mg base 12 (He.ga K "Task") "with_points" (spWith K) := by
  obtain ⟨fd, F⟩ := T.dfs _ (List.mem_of_getElem? (show fn[26]? = some _ from rfl))
  refine mthP (C := "Task") (m := "with_points") T ?_
  obtain ⟨oc, od, dV, kV, doc, pm, an, cdv, ct, osl, rfl, lk, hcd, hD, hK⟩ := F.ex
  have hdV : dV = .none := by
    rcases hD with ⟨_, h⟩ | ⟨e, _⟩
    · exact h
    · exact absurd rfl e
  subst hdV
  have body : ∀ (A : Around) (outer : List Env) (s : Shared) (H : Hp) (vs : List V) (Q : VK) (E : XK), Room 11 (A.deeper (envOfC "Task.with_points" (defScope (inClass (top 50) 9)) s.heap.objs.size (He.ma K (He.ga K "Task") "with_points") cdv)) → spWithT K vs H Q E →
      ∃ t, PSs (cxOf CX0 P w K mg base wpN "Task.with_points" (defScope (inClass (top 50) 9)) (He.ma K (He.ga K "Task") "with_points") cdv A outer s H E).nox (defBody (inClass (top 50) 9)) t ∧ t { nx := fun _ H' => Q .non H', rt := Q } (start wpN vs) H := by
    intro A outer s H vs Q E hr h
    obtain ⟨a, t, vp, B, e, p, P0, rfl, ht, ta, gd, hp, ho, hnp, q⟩ := h
    have hu := hu_of hr
    have hct := gd.ct
    have hdp := gd.dp
    have hpl : p.length ≤ 4 := by
      obtain ⟨c, hc, _⟩ := ho
      have := sub_dep hc
      omega
    refine ⟨_, pss_cons (ps_set (i := 2) sc_with.nd rfl (Or.inl rfl) (pe_mth0 (pv 0) T.cls cN hr (by decide)))
      (pss_cons (ps_for PassesOwn.never rfl (pi_tup (pv 1)) (pg_name (i := 3) sc_with.nd rfl (Or.inl rfl))
        (pss_cons (ps_if (PW.pt (pw_or (pt_not (pt_val (pe_fn cP hr (by decide) (by rfl) (pa_cons (pv 3) pa_nil)))) (pw_or1 (pt_cmpR (op_notInP hu) (pv 3) (pv 2) rfl)))) (pss_one ps_never) pss_nil)
        (pss_one (ps_expr (pe_bm PySem.F.plainAttrs_list PySem.F.slot_list_remove PySem.F.type_list_remove (mt_removeP (hu2 hr)) (pv 2) (pa_cons (pv 3) pa_nil))))))
      (pss_one (ps_ret (pe_mkK cT hr (by decide) (by rfl) (pa_cons (pe_fld (pv 0) rfl) (pa_cons (pe_fld (pv 0) rfl) pa_nil)) (pk_cons (pe_callTy call_tuple_of (by rfl) (T.free "tuple" (by decide +kernel)) (by decide +kernel)
        (pa_cons (pe_callB (cr_sortT (hu3 hr)) (by rfl) (T.free "sorted" (by decide +kernel)) (by decide +kernel) (pa_cons (pe_lst (StX.pa_star (pe_fld (pv 0) rfl) (StX.pa_star (pv 1) pa_nil))) pa_nil)) pa_nil)) pk_nil))))), ?_⟩
    obtain ⟨dx, vb, ve, d, pt, ow, xs, ys, h1, h2, h3, h4, h5, h6, h7, h8⟩ := id ta.ex
    refine ⟨_, rfl, a, dx, _, rfl, h1, rfl, a, B, e, P0, rfl, ta, by omega, fun l zs qs H1 s1 hl0 hl hq hiff hnd => ?_⟩
    have hpin : p ∈ qs := (hiff p).mpr ⟨ho, hnp⟩
    obtain ⟨j, hj, ej⟩ := List.mem_iff_getElem.mp hpin
    refine ⟨_, rfl, t, rfl, ⟨_, SqT.of (s1 _ _ ht)⟩, for_tup (K := K) (a := t) (xs := [vp]) (fun i σ H' => ∃ o : Option V, σ = [some (.ref a), some (.ref t), some (.ref l), o] ∧ Same H H' ∧ (i = 0 → H' l = some (.lst zs) ∧ PathsAt H' zs qs)) ⟨none, rfl, s1, fun _ => ⟨hl, hq⟩⟩ (fun i σ H' _ ⟨_, _, s2, _⟩ => SqT.of (s2 _ _ ht)) ?_ ?_⟩
    · rintro i x σ H2 hi ⟨o, rfl, s2, hL⟩
      have hi0 : i = 0 := by
        have := (List.getElem?_eq_some_iff.mp hi).1
        rw [List.length_singleton] at this
        omega
      subst hi0
      obtain rfl : vp = x := by simpa using hi
      obtain ⟨hl2, hq2⟩ := hL rfl
      refine ⟨_, rfl, vp, p, rfl, hp.keep s2.tk, by omega, fun H3 s3 => ⟨_, rfl, iteF ?_⟩⟩
      have hp3 := hp.keep (s2.trans s3).tk
      have hq3 := hq2.keep s3.tk
      refine ⟨_, rfl, _, rfl, p, l, zs, qs, hp3.path, rfl, .inl (SqL.of (s3 _ _ hl2)), hq3.paths, _, rfl, ?_⟩
      rw [decide_eq_true hpin]
      refine iteF ?_
      refine ⟨_, rfl, .inl ⟨rfl, _, SqL.of (s3 _ _ hl2)⟩, _, rfl, l, zs, vp, p, qs, j, rfl, rfl, s3 _ _ hl2, hp3.path, hq3.paths, by rw [List.getElem?_eq_getElem hj, ej], fun m hm hc => ?_, ?_⟩
      · obtain ⟨hm', em⟩ := List.getElem?_eq_some_iff.mp hc
        have := List.pairwise_iff_getElem.mp (List.nodup_iff_pairwise_ne.mp hnd) m j hm' hj hm
        exact this (by rw [em, ej])
      · exact ⟨_, rfl, fun b o' e' => by rw [upd_ne (ne_of_none e' hl0)]; exact (s2.trans s3) b o' e', fun z => absurd z (by decide)⟩
    · rintro σ H2 ⟨o, rfl, s2, _⟩
      refine ⟨_, rfl, a, _, dx, _, _, rfl, s2 _ _ h1, T.cls, T.noat, rfl, _, rfl, a, _, dx, _, _, rfl, s2 _ _ h1, T.cls, T.noat, rfl, ?_⟩
      have hxs : xs.length = P0.length := Paired.length h6
      have hfew := gd.few
      refine ⟨_, rfl, a, _, dx, _, _, rfl, s2 _ _ h1, T.cls, T.noat, rfl, pt, xs, rfl, .inl (SqT.of (s2 _ _ h5)), _, rfl, t, _, rfl, .inl (SqT.of (s2 _ _ ht)), ?_, fun L hL => ?_⟩
      · show (xs ++ ([vp] ++ [])).length ≤ sizeLine
        rw [List.length_append]
        show xs.length + 1 ≤ sizeLine
        exact Nat.le_trans (show xs.length + 1 ≤ 151 by omega) (by decide)
      have s3 := same_new hL (o := .lst (xs ++ ([vp] ++ [])))
      have s23 := s2.trans s3
      refine ⟨L, xs ++ ([vp] ++ []), P0 ++ [p], rfl, SqL.of upd_same, Paired.app (h6.keep s23.tk) (.cons (hp.keep s23.tk) .nil), fun ws rs M hws perm srt hM => ?_⟩
      refine ⟨M, ws, rfl, .inl ⟨SqL.of upd_same, fun N hN => ⟨rfl, rfl, fun x dx2 hx hdx hne => ?_⟩⟩⟩
      have s4 := (same_new hM (o := .lst ws)).nw hN (o := .tup ws)
      have s24 := s23.trans s4
      have nd : (P0 ++ [p]).Nodup := List.nodup_append.mpr ⟨lt_nodup gd.up, by simp, fun a ha b hb e => hnp (by rw [List.mem_singleton.mp hb] at e; rw [← e]; exact ha)⟩
      have gd' : Good B e rs := ⟨gd.wf, gd.dp, gd.st, gd.ct, strict_of srt (perm.nodup_iff.mpr nd), fun q' hq' => by
        rcases List.mem_append.mp (perm.mem_iff.mp hq') with z | z
        · exact gd.op q' z
        · rw [List.mem_singleton.mp z]; exact ho⟩
      refine ⟨x, dx2, vb, ve, N, ws, B, e, rs, _, rfl, upd_same, made hx hdx, hx, h2.keep (Kp.of (S := Nix) s24), h3.keep s24.tk, upd_same, hws.keep s4.tk, gd', fun H' s5 ta' => ⟨rfl, q x rs H' (s24.trans s5) ta' gd' fun q' => ?_⟩⟩
      rw [perm.mem_iff, List.mem_append, List.mem_singleton]
  refine FnR.imp (StX.fn_star (ps := ["self"]) (pv := "paths") (sp := spWithT K) lk hcd sc_with StX.cxUp_none (fun us rest hl => ?_) fun A outer s H vs Q E hr h => ?_) fun vs H Q E h => ?_
  · match us, rest, hl with
    | [a], [], _ => rfl
    | [a], r :: rs, _ => rfl
  · exact (let ⟨t, h1, h2⟩ := body A outer s H vs Q E hr h; ⟨t, h1.nox, h2⟩)
  · obtain ⟨a, vp, B, e, p, P0, rfl, ta, gd, hp, ho, hnp, q⟩ := h
    refine ⟨[.ref a], [vp], rfl, rfl, z1, fun t ht => ⟨a, t, vp, B, e, p, P0, rfl, upd_same, ta.keep (same_new ht), gd, hp.keep (same_new ht).tk, ho, hnp, fun x P' H' s1 => q x P' H' ((same_new ht).trans s1)⟩⟩
/-! relate -/
def planFs (a rw ah op ow : Addr) : List (Str × V) := [("task", .ref a), ("rows", .ref rw), ("ahead", .ref ah), ("opened", .ref op), ("own", .ref ow)]
abbrev ptsB (P : List Path) : Path → Bool := fun q => decide (q ∈ P)
def spRelate (K : PySem.W.Frag) : Sp := fun vs H Q _ => ∃ (p dx a rw ah op ow lj : Addr) (B : List Fd) (e : Ex) (P : List Path) (rs as xs : List V) (kvs : List (List Key × V)) (i j : Nat) (pi pj : Path),
  vs = [.ref p, .int (i : Nat), .int (j : Nat)] ∧ H p = some (.ins (He.ga K "Plan") dx (planFs a rw ah op ow)) ∧ TaskAt K H a B e P ∧ dep e ≤ 100 ∧ H rw = some (.lst rs) ∧ RowsAt H rs (rows e []) ∧ H ah = some (.lst as) ∧ H op = some (.dT kvs) ∧ kvs.length ≤ 1000 ∧
  (rows e [])[i]? = some pi ∧ (rows e [])[j]? = some pj ∧ Po pi pj ∧ as[j]? = some (.ref lj) ∧ H lj = some (.lst xs) ∧ xs.length ≤ 1000 ∧
  (prec (ptsB P) e pi pj = true → ∀ H1, Same H H1 → Q .non (upd H1 lj (.lst (xs ++ [.int (i : Nat)])))) ∧
  (prec (ptsB P) e pi pj = false → (∀ H1, Same H H1 → Q .non H1) ∧ ∀ H1 q, Same H H1 → Q .non (upd H1 op (.dT (putK kvs [Sum.inl (i : Int), Sum.inl (j : Int)] (.ref q)))))
abbrev rlN : List Str := ["self", "one", "other", "first", "second", "at", "node"]
theorem sc_relate : FnScope rlN ["self", "one", "other"] (defScope (inClass (top 36) 1)) := ⟨rfl, rfl, rfl, by decide +kernel, rfl, by decide +kernel, by decide +kernel⟩
theorem excl_dec (x y : Int) : decide (([x, y] : List Int) ∈ ([[1, 2], [2, 1]] : List (List Int))) = ((some x == some 1 && some y == some 2) || (some x == some 2 && some y == some 1)) := by
  by_cases h1 : x = 1 <;> by_cases h2 : y = 2 <;> by_cases h3 : x = 2 <;> by_cases h4 : y = 1 <;> simp_all
theorem map_int_get {p : Path} {k : Nat} {x : Int} (h : p[k]? = some x) : (p.map V.int)[k]? = some (.int x) := by rw [List.getElem?_map, h]; rfl
theorem w_relate (T : Txt K w mg) (cO : CallP P w K mg base 1 "is_open" (spIsOpen K)) : MethP P w K mg base 2 (He.ga K "Plan") "relate" (spRelate K) := by
  refine mthP (C := "Plan") (m := "relate") T (mkM (k := 1) T 13 sc_relate (fun _ _ _ _ _ _ us hl => match us, hl with | [_, _, _], _ => rfl) (fun vs H Q E h => ?_) fun cdv A outer s H vs Q E hr h => ?_)
  · obtain ⟨p, dx, a, rw', ah, op, ow, lj, B, e, P0, rs, as, xs, kvs, i, j, pi, pj, rfl, _⟩ := h
    rfl
  obtain ⟨p, dx, a, rw', ah, op, ow, lj, B, e, P0, rs, as, xs, kvs, i, j, pi, pj, rfl, hp, ta, hde, hrw, hrs, hah, hop, hkl, hi, hj, po, haj, hlj, hxl, qT, qF⟩ := h
  have hu := hu_of hr
  have hu0 := Nat.lt_of_succ_lt hu
  have hz : (1000 : Nat) < sizeLine := by decide
  obtain ⟨ex1, hex, hexp⟩ := T.excl H
  refine ⟨_, pss_cons (ps_par (i := 3) (j := 4) (by rfl) sc_relate.nd rfl rfl (by decide) rfl rfl (pa_cons (pe_ix ix_tup (pe_ix ix_list (pe_fld (pv 0) rfl) (pv 1) (fun _ _ => rfl)) pe_int (fun _ _ => rfl)) (pa_cons (pe_ix ix_tup (pe_ix ix_list (pe_fld (pv 0) rfl) (pv 2) (fun _ _ => rfl)) pe_int (fun _ _ => rfl)) pa_nil)) (by rfl))
    (pss_cons (ps_set (i := 5) sc_relate.nd rfl (Or.inl rfl) pe_int)
    (pss_cons (ps_while PassesOwn.never (PW.pt (pw_and (pt_cmpR op_lt (pv 5) (pe_callB (call_min2 rfl) (by rfl) (T.free "min" (by decide +kernel)) (by decide +kernel) (pa_cons (pe_callB call_len_seq (by rfl) (T.free "len" (by decide +kernel)) PySem.boot_len (pa_cons (pv 3) pa_nil)) (pa_cons (pe_callB call_len_seq (by rfl) (T.free "len" (by decide +kernel)) PySem.boot_len (pa_cons (pv 4) pa_nil)) pa_nil))) (nomark _))
        (pw_and1 (pt_cmpR op_eq (pe_ix ix_tup (pv 3) (pv 5) (fun _ _ => rfl)) (pe_ix ix_tup (pv 4) (pv 5) (fun _ _ => rfl)) (nomark _))))) (pss_one (ps_aug (i := 5) sc_relate.nd rfl (.inl rfl) pe_int ip_add)))
    (pss_cons (ps_set (i := 6) sc_relate.nd rfl (Or.inl rfl) (pe_dget hu (pe_fld (pe_fld (pv 0) rfl) rfl) (pe_slice sl_tupU (pv 3) po_none (po_some (pv 5))) (fun _ _ => rfl)))
    (pss_one (ps_if (pt_cmpR op_eq (pv 5) (pe_callB call_len_seq (by rfl) (T.free "len" (by decide +kernel)) PySem.boot_len (pa_cons (pv 4) pa_nil)) (nomark _))
      (pss_one (ps_expr (pe_bm PySem.F.plainAttrs_list PySem.F.slot_list_append PySem.F.type_list_append mt_append (pe_ix ix_list (pe_fld (pv 0) rfl) (pv 2) (fun _ _ => rfl)) (pa_cons (pv 1) pa_nil))))
      (pss_one (ps_if (PW.pt (pw_and (pt_val (pe_fn cO hr (by decide) (by rfl) (pa_cons (pv 6) pa_nil))) (pw_and1 (pt_cmpR (op_notInP hu) (pe_slice sl_tupU (pv 3) po_none (po_some (pv 5))) (pe_fld (pe_fld (pv 0) rfl) rfl) rfl))))
        (pss_one (ps_dput hu (pe_fld (pv 0) rfl) (pe_tup (pa_cons (pv 1) (pa_cons (pv 2) pa_nil))) (pe_slice sl_tupU (pv 3) po_none (po_some (pv 5))) rfl))
        (pss_one (ps_if (PW.pt (pw_or (pt_cmpR op_ne (pe_ix ix_tup (pv 6) pe_int (fun _ _ => rfl)) pe_str (nomark _)) (pw_or1 (pt_cmpR (op_notInP hu) (pe_tup (pa_cons (pe_ix ix_tup (pv 3) (pv 5) (fun _ _ => rfl)) (pa_cons (pe_ix ix_tup (pv 4) (pv 5) (fun _ _ => rfl)) pa_nil))) (pe_glob (v := .ref (He.ga K "EXCLUDED")) (by rfl) (T.glo "EXCLUDED" (by decide +kernel)) rfl) rfl))))
          (pss_one (ps_expr (pe_bm PySem.F.plainAttrs_list PySem.F.slot_list_append PySem.F.type_list_append mt_append (pe_ix ix_list (pe_fld (pv 0) rfl) (pv 2) (fun _ _ => rfl)) (pa_cons (pv 1) pa_nil)))) pss_nil))))))))), ?_⟩
  -- the two rows
  have hlen : rs.length = (rows e []).length := Paired.length hrs
  obtain ⟨hi1, ei⟩ := List.getElem?_eq_some_iff.mp hi
  obtain ⟨hj1, ej⟩ := List.getElem?_eq_some_iff.mp hj
  have gi : rs[i]? = some rs[i] := List.getElem?_eq_getElem (by omega)
  have gj : rs[j]? = some rs[j] := List.getElem?_eq_getElem (by omega)
  obtain ⟨pi', e1, ri, fi, ri2, ri3, ki, rsi, ssi, eri, hri, hfi, _⟩ := paired_get hrs gi
  obtain ⟨pj', e2, rj, fj, rj2, rj3, kj, rsj, ssj, erj, hrj, hfj, _⟩ := paired_get hrs gj
  rw [hi] at e1
  rw [hj] at e2
  obtain rfl := Option.some.inj e1
  obtain rfl := Option.some.inj e2
  refine ⟨_, rfl, p, _, dx, _, _, rfl, hp, T.cls, T.noat, rfl, _, rfl, rw', _, _, _, rfl, rfl, SqL.of hrw, atI_nat (gi.trans (congrArg some eri)), ri, _, _, _, rfl, rfl, SqT.of hri, atI_nat (j := 1) rfl, ?_⟩
  refine ⟨_, rfl, p, _, dx, _, _, rfl, hp, T.cls, T.noat, rfl, _, rfl, rw', _, _, _, rfl, rfl, SqL.of hrw, atI_nat (gj.trans (congrArg some erj)), rj, _, _, _, rfl, rfl, SqT.of hrj, atI_nat (j := 1) rfl, ?_⟩
  have hlei := (cpl_le pi pj).1
  have hlej := (cpl_le pi pj).2
  refine ⟨_, _, rfl, ⟨fun m σ H' => ∃ k : Nat, m = cpl pi pj - k ∧ k ≤ cpl pi pj ∧ H' = H ∧ σ = [some (.ref p), some (.int (i : Nat)), some (.int (j : Nat)), some (.ref fi), some (.ref fj), some (.int (k : Nat)), none], ⟨_, 0, rfl, Nat.zero_le _, rfl, rfl⟩, ?_⟩⟩
  rintro m σ H' ⟨k, rfl, hk, rfl, rfl⟩
  have li : (pi.map V.int).length = pi.length := List.length_map _
  have lj' : (pj.map V.int).length = pj.length := List.length_map _
  refine ⟨_, rfl, _, rfl, fi, _, rfl, .inr (SqT.of hfi), _, rfl, fj, _, rfl, .inr (SqT.of hfj), _, _, rfl, _, _, rfl, rfl, _, rfl, ?_⟩
  rw [li, lj']
  have more : decide (((k : Nat) : Int) < (if ((pj.length : Nat) : Int) < ((pi.length : Nat) : Int) then ((pj.length : Nat) : Int) else ((pi.length : Nat) : Int))) = decide (k < min pi.length pj.length) := by
    refine decide_eq_decide.mpr ?_
    split <;> omega
  rw [more]
  by_cases heq : k = cpl pi pj
  case' neg =>
    have hki : k < pi.length := by omega
    have hkj : k < pj.length := by omega
    rw [decide_eq_true (show k < min pi.length pj.length by omega)]
    refine iteT ?_
    refine ⟨_, rfl, _, rfl, fi, _, _, _, rfl, rfl, SqT.of hfi, atI_nat (map_int_get (List.getElem?_eq_getElem hki)), _, rfl, _, rfl, fj, _, _, _, rfl, rfl, SqT.of hfj, atI_nat (map_int_get (List.getElem?_eq_getElem hkj)), rfl, _, rfl, ?_⟩
    rw [dec_int]
    have ag := cpl_agree pi pj k (by omega)
    rw [List.getElem?_eq_getElem hki, List.getElem?_eq_getElem hkj] at ag
    rw [Option.some.inj ag, beq_self_eq_true]
    refine iteT ⟨fun σ' H'' => ∃ k' : Nat, cpl pi pj - (k + 1) = cpl pi pj - k' ∧ k' ≤ cpl pi pj ∧ H'' = H' ∧ σ' = [some (.ref p), some (.int (i : Nat)), some (.int (j : Nat)), some (.ref fi), some (.ref fj), some (.int (k' : Nat)), none], fun σ' H'' h => ⟨cpl pi pj - (k + 1), by omega, h⟩, ?_⟩
    exact ⟨_, rfl, _, _, rfl, rfl, k + 1, rfl, by omega, rfl, by rfl⟩
  by_cases hm : k < min pi.length pj.length
  case' pos =>
    have hki : k < pi.length := by omega
    have hkj : k < pj.length := by omega
    rw [decide_eq_true hm]
    refine iteT ?_
    refine ⟨_, rfl, _, rfl, fi, _, _, _, rfl, rfl, SqT.of hfi, atI_nat (map_int_get (List.getElem?_eq_getElem hki)), _, rfl, _, rfl, fj, _, _, _, rfl, rfl, SqT.of hfj, atI_nat (map_int_get (List.getElem?_eq_getElem hkj)), rfl, _, rfl, ?_⟩
    rw [dec_int]
    have ne := cpl_parts pi pj (by omega) (by omega)
    rw [← heq, List.getElem?_eq_getElem hki, List.getElem?_eq_getElem hkj] at ne
    rw [beq_eq_false_iff_ne.mpr (fun z => ne (by rw [z]) : pi[k] ≠ pj[k])]
    refine iteF ?_
  case' neg =>
    rw [decide_eq_false hm]
    refine iteF ?_
  all_goals
    obtain ⟨dx', vb, ve, d, pt, ow', xs', ys, h1, h2, h3, h4, h5, h6, h7, h8⟩ := ta.ex
    obtain ⟨r0, c0, er0, hc0, _⟩ := rows_mem e [] pi (List.mem_of_getElem? hi)
    rw [List.nil_append] at er0
    subst er0
    obtain ⟨nn, hs⟩ := sub_take hc0 k
    -- the node
    refine ⟨_, rfl, p, _, dx, _, _, rfl, hp, T.cls, T.noat, rfl, a, _, dx', _, _, rfl, h1, T.cls, T.noat, rfl, _, rfl, _, rfl, _, rfl, fi, _, rfl, hfi, fun b H2 s2 hb => ?_⟩
    rw [cut_to, ← List.map_take] at hb
    obtain ⟨kv0, v, hd, hv, htv⟩ := (h4.keep (Kp.of (S := Nix) s2)).get hs
    have dg := DGet.t (k := (pi.take k).map Sum.inl) hd (PathAt.key hb)
    rw [hv] at dg
    refine ⟨d, v, rfl, dg, ?_⟩
    have hfj2 := s2 _ _ hfj
    refine ⟨_, rfl, _, rfl, fj, _, rfl, .inr (SqT.of hfj2), rfl, _, rfl, ?_⟩
    rw [dec_int, lj']
    have app : ∀ H3, Same H' H3 → prec (ptsB P0) e pi pj = true → Q .non (upd H3 lj (.lst (xs ++ [.int (i : Nat)]))) := fun H3 s3 h => qT h H3 s3
    by_cases hkl : k = pj.length
    case' pos =>
      rw [show (((k : Nat) : Int) == ((pj.length : Nat) : Int)) = true by rw [hkl]; exact beq_self_eq_true _]
      refine iteT ?_
      have hpr : prec (ptsB P0) e pi pj = true := by unfold prec; rw [if_pos (by omega)]
      exact ⟨_, rfl, p, _, dx, _, _, rfl, s2 _ _ hp, T.cls, T.noat, rfl, _, rfl, ah, _, _, _, rfl, rfl, SqL.of (s2 _ _ hah), atI_nat haj, .inl ⟨rfl, _, SqL.of (s2 _ _ hlj)⟩, _, rfl, lj, _, _, rfl, rfl, s2 _ _ hlj, by omega, app H2 s2 hpr⟩
    have hki : k < pi.length ∧ k < pj.length := by
      rcases po with ⟨r, e'⟩ | ⟨c, x, y, r, s', e1, e2, hxy⟩
      · have := cpl_prefix pj r
        rw [← e', ← heq] at this
        exact absurd this hkl
      · have z1 := cpl_part c x y r s' (by omega)
        rw [← e1, ← e2, ← heq] at z1
        have z2 : pi.length = c.length + (r.length + 1) := by rw [e1, List.length_append, List.length_cons]
        have z3 : pj.length = c.length + (s'.length + 1) := by rw [e2, List.length_append, List.length_cons]
        omega
    have gx := List.getElem?_eq_getElem hki.1
    have gy := List.getElem?_eq_getElem hki.2
    have hprec : prec (ptsB P0) e pi pj = if isOpen nn && !ptsB P0 (pi.take k) then false else !(isCho nn && ((pi[k]? == some 1 && pj[k]? == some 2) || (pi[k]? == some 2 && pj[k]? == some 1))) := by
      unfold prec
      rw [← heq, if_neg hkl, hs]
    rw [show (((k : Nat) : Int) == ((pj.length : Nat) : Int)) = false by rw [beq_eq_false_iff_ne]; omega]
    refine iteF ?_
    refine ⟨_, rfl, v, nn, rfl, htv, _, rfl, ?_⟩
    -- behind the second test: what the third does, in any later heap
    have child : isOpen nn = false ∨ isOpen nn = true := by cases isOpen nn <;> simp
    have hkid : ∃ kd es, nn = .nd kd es := by
      cases nn with
      | nd kd es => exact ⟨kd, es, rfl⟩
      | num n0 =>
        have h9 := hc0
        rw [← List.take_append_drop k pi, sub_append, hs] at h9
        rw [List.drop_eq_getElem_cons hki.1] at h9
        simp [sub, Ex.kids] at h9
    obtain ⟨kd, es, rfl⟩ := hkid
    rw [TreeAt] at htv
    obtain ⟨na, ws, rfl, hnn, hks⟩ := htv
    obtain ⟨r1, hw⟩ := node_word hnn
    cases hio : isOpen (.nd kd es)
    case' true =>
      refine iteT ?_
      refine ⟨_, rfl, _, rfl, _, rfl, fi, _, rfl, s2 _ _ hfi, fun b2 H3 s3 hb2 => ?_⟩
      rw [cut_to, ← List.map_take] at hb2
      refine ⟨_, rfl, p, _, dx, _, _, rfl, (s2.trans s3) _ _ hp, T.cls, T.noat, rfl, a, _, dx', _, _, rfl, (s2.trans s3) _ _ h1, T.cls, T.noat, rfl, pi.take k, pt, xs', P0, ⟨b2, rfl, SqT.of hb2⟩, rfl, .inr (SqT.of ((s2.trans s3) _ _ h5)), (h6.keep (s2.trans s3).tk).paths, _, rfl, ?_⟩
      by_cases hin : pi.take k ∈ P0
      case' neg =>
        rw [decide_eq_false hin]
        refine iteT ?_
        have hpf : prec (ptsB P0) e pi pj = false := by
          rw [hprec, hio, show ptsB P0 (pi.take k) = false from decide_eq_false hin]
          rfl
        refine ⟨_, rfl, _, rfl, _, rfl, fi, _, rfl, (s2.trans s3) _ _ hfi, fun b3 H4 s4 hb3 => ?_⟩
        have s24 := (s2.trans s3).trans s4
        refine ⟨_, rfl, p, _, dx, _, _, rfl, s24 _ _ hp, T.cls, T.noat, rfl, _, rfl, _, rfl, z2, fun t ht => ?_⟩
        have s5 := s24.nw ht (o := .tup [.int (i : Nat), .int (j : Nat)])
        exact ⟨op, _, rfl, DPut.t (k := [Sum.inl (i : Int), Sum.inl (j : Int)]) (s5 _ _ hop) upd_same (by omega), (qF hpf).2 _ _ s5⟩
      rw [decide_eq_true hin]
      refine iteF ?_
      have hpt : (isOpen (.nd kd es) && !ptsB P0 (pi.take k)) = false := by rw [show ptsB P0 (pi.take k) = true from decide_eq_true hin, Bool.not_true, Bool.and_false]
      have s23 := s2.trans s3
    case' false =>
      refine iteF ?_
      have hpt : (isOpen (.nd kd es) && !ptsB P0 (pi.take k)) = false := by rw [hio]; rfl
      have s23 := s2
      have s3 := Same.refl H2
    all_goals
      rw [hpt] at hprec
      have hprec2 : prec (ptsB P0) e pi pj = !(isCho (.nd kd es) && decide (([pi[k]'hki.1, pj[k]'hki.2] : List Int) ∈ ([[1, 2], [2, 1]] : List (List Int)))) := by
        rw [hprec, if_neg (by decide), gx, gy, excl_dec]
      refine ⟨_, rfl, na, _, _, _, rfl, rfl, SqT.of (s3 _ _ hw), at0, rfl, _, rfl, ?_⟩
      by_cases hch : kd = .cho
      case' neg =>
        have e1 : (!decide (V.str (wordOf kd) = V.str "choose")) = true := by cases kd <;> first | rfl | exact absurd rfl hch
        have e2 : isCho (.nd kd es) = false := by cases kd <;> first | rfl | exact absurd rfl hch
        rw [e2, Bool.false_and] at hprec2
        rw [e1]
        refine iteT ?_
        exact iteT ⟨_, rfl, p, _, dx, _, _, rfl, s23 _ _ hp, T.cls, T.noat, rfl, _, rfl, ah, _, _, _, rfl, rfl, SqL.of (s23 _ _ hah), atI_nat haj, .inl ⟨rfl, _, SqL.of (s23 _ _ hlj)⟩, _, rfl, lj, _, _, rfl, rfl, s23 _ _ hlj, by omega, app _ s23 hprec2⟩
      subst hch
      refine iteF2 (by rfl) ?_
      refine ⟨_, rfl, _, rfl, fi, _, _, _, rfl, rfl, SqT.of (s23 _ _ hfi), atI_nat (map_int_get gx), _, rfl, _, rfl, fj, _, _, _, rfl, rfl, SqT.of (s23 _ _ hfj), atI_nat (map_int_get gy), z2, fun t ht => ?_⟩
      have s5 := s23.nw ht (o := .tup [.int (pi[k]'hki.1), .int (pj[k]'hki.2)])
      obtain ⟨ex1, hex, hexp⟩ := T.excl (upd _ t (.tup [.int (pi[k]'hki.1), .int (pj[k]'hki.2)]))
      refine ⟨[pi[k]'hki.1, pj[k]'hki.2], He.ga K "EXCLUDED", ex1, [[1, 2], [2, 1]], ⟨t, rfl, SqT.of upd_same⟩, rfl, .inr hex, hexp, _, rfl, ?_⟩
      rw [show isCho (.nd .cho es) = true from rfl, Bool.true_and] at hprec2
      cases hdd : decide (([pi[k]'hki.1, pj[k]'hki.2] : List Int) ∈ ([[1, 2], [2, 1]] : List (List Int)))
      case' true =>
        rw [hdd] at hprec2
        exact iteF ((qF hprec2).1 _ s5)
      rw [hdd] at hprec2
      exact iteT ⟨_, rfl, p, _, dx, _, _, rfl, s5 _ _ hp, T.cls, T.noat, rfl, _, rfl, ah, _, _, _, rfl, rfl, SqL.of (s5 _ _ hah), atI_nat haj, .inl ⟨rfl, _, SqL.of (s5 _ _ hlj)⟩, _, rfl, lj, _, _, rfl, rfl, s5 _ _ hlj, by omega, app _ s5 hprec2⟩
end
end Oo

set_option Elab.async false
set_option linter.all false
set_option maxRecDepth 100000
set_option maxHeartbeats 4000000
/-! A plan made. -/
namespace Oo
open PySem PySem.Spec PyProof.Rows L2
def tells (P : List Path) (e : Ex) (k j : Nat) : Bool := match (rows e [])[k]?, (rows e [])[j]? with
  | some p, some q => prec (ptsB P) e p q
  | _, _ => false
theorem tells_at {P : List Path} {e : Ex} {k j : Nat} {p q : Path} (h1 : (rows e [])[k]? = some p) (h2 : (rows e [])[j]? = some q) : tells P e k j = prec (ptsB P) e p q := by
  unfold tells
  rw [h1, h2]
def toldL (P : List Path) (e : Ex) (j m : Nat) : List V := ((List.range m).filter fun k => tells P e k j).map fun k => V.int (k : Nat)
theorem toldL_t {P : List Path} {e : Ex} {j m : Nat} (h : tells P e m j = true) : toldL P e j (m + 1) = toldL P e j m ++ [V.int (m : Nat)] := by
  unfold toldL
  rw [List.range_succ, List.filter_append, List.filter_cons_of_pos (p := fun k => tells P e k j) h, List.filter_nil, List.map_append]
  rfl
theorem toldL_f {P : List Path} {e : Ex} {j m : Nat} (h : tells P e m j = false) : toldL P e j (m + 1) = toldL P e j m := by
  unfold toldL
  rw [List.range_succ, List.filter_append, List.filter_cons_of_neg (p := fun k => tells P e k j) (by rw [h]; decide), List.filter_nil, List.append_nil]
theorem toldL_len (P : List Path) (e : Ex) (j m : Nat) : (toldL P e j m).length ≤ m := by
  unfold toldL
  rw [List.length_map]
  exact Nat.le_trans (List.length_filter_le _ _) (by rw [List.length_range]; exact Nat.le_refl _)
theorem putK_keys {κ : Type} [DecidableEq κ] {kvs : List (κ × V)} {k : κ} {u : V} (v : V) (h : valV kvs k = some u) : (putK kvs k v).map (·.1) = kvs.map (·.1) := by
  unfold putK
  rw [valV_any, h, if_pos (show (some u).isSome = true from rfl), List.map_map]
  refine List.map_congr_left fun x _ => ?_
  show (if x.1 = k then (x.1, v) else x).1 = x.1
  split <;> rfl
def RacOk (P : List Path) (e : Ex) (q : Path) : Prop := ∃ k j : Nat, q = [(k : Int), (j : Int)] ∧ k < j ∧ j < steps e ∧ tells P e k j = false
structure PlS (H0 : Hp) (rw ah op : Addr) (las : List Addr) (e : Ex) : Prop where
  nd : las.Nodup
  ln : las.length = steps e
  nr : rw ∉ las
  na : ah ∉ las
  fr : ∀ x ∈ las, H0 x = none
  fo : H0 op = none
structure Pl (K : PySem.W.Frag) (H0 H : Hp) (p dx a rw ah op ow : Addr) (las : List Addr) (rs : List V) (okv kvs : List (List Key × V)) (P : List Path) (e : Ex) (f : Nat → Nat) (c b : Nat) : Prop where
  s : Same H0 H
  hp : H p = some (.ins (He.ga K "Plan") dx (planFs a rw ah op ow))
  hrw : H rw = some (.lst rs)
  hrs : RowsAt H rs (rows e [])
  hah : H ah = some (.lst (las.map V.ref))
  hop : H op = some (.dT kvs)
  how : H ow = some (.dT okv)
  hl : ∀ j lj, las[j]? = some lj → H lj = some (.lst (toldL P e j (f j)))
  hown : ∀ q n, sub e q = some n → ∃ o ys, valV okv (q.map Sum.inl) = some (.ref o) ∧ H o = some (.lst ys) ∧ ys.length ≤ c ∧ o ∉ las ∧ o ≠ rw ∧ o ≠ ah ∧ H0 o = none
  ks : ∃ ps : List Path, kvs.map (·.1) = ps.map (fun q => q.map Sum.inl) ∧ ∀ q ∈ ps, RacOk P e q
  kl : kvs.length ≤ b
section
variable {K : PySem.W.Frag} {H0 H H' : Hp} {p dx a rw ah op ow : Addr} {las : List Addr} {rs : List V} {okv kvs : List (List Key × V)} {P : List Path} {e : Ex} {f : Nat → Nat} {c b : Nat}
theorem Pl.same (x : Pl K H0 H p dx a rw ah op ow las rs okv kvs P e f c b) (s : Same H H') : Pl K H0 H' p dx a rw ah op ow las rs okv kvs P e f c b :=
  ⟨x.s.trans s, s _ _ x.hp, s _ _ x.hrw, x.hrs.keep s.tk, s _ _ x.hah, s _ _ x.hop, s _ _ x.how, fun j lj h => s _ _ (x.hl j lj h), fun q n h => let ⟨o, ys, h1, h2, h3⟩ := x.hown q n h; ⟨o, ys, h1, s _ _ h2, h3⟩, x.ks, x.kl⟩
theorem Pl.more (x : Pl K H0 H p dx a rw ah op ow las rs okv kvs P e f c b) {b' : Nat} (h : b ≤ b') : Pl K H0 H p dx a rw ah op ow las rs okv kvs P e f c b' :=
  ⟨x.s, x.hp, x.hrw, x.hrs, x.hah, x.hop, x.how, x.hl, x.hown, x.ks, Nat.le_trans x.kl h⟩
theorem Pl.to (x : Pl K H0 H p dx a rw ah op ow las rs okv kvs P e f c b) {f' : Nat → Nat} (h : ∀ j, toldL P e j (f j) = toldL P e j (f' j)) : Pl K H0 H p dx a rw ah op ow las rs okv kvs P e f' c b :=
  ⟨x.s, x.hp, x.hrw, x.hrs, x.hah, x.hop, x.how, fun j lj q => by rw [← h]; exact x.hl j lj q, x.hown, x.ks, x.kl⟩
theorem Pl.own (x : Pl K H0 H p dx a rw ah op ow las rs okv kvs P e f c b) {o : Addr} {ys : List V} {v : V} (ho : H o = some (.lst ys)) (n1 : o ∉ las) (n2 : o ≠ rw) (n3 : o ≠ ah) (n4 : H0 o = none) (hy : ys.length ≤ c) :
    Pl K H0 (upd H o (.lst (ys ++ [v]))) p dx a rw ah op ow las rs okv kvs P e f (c + 1) b := by
  have tk : TupK H (upd H o (.lst (ys ++ [v]))) := TupK.set (fun _ _ h => h) ho fun _ z => nomatch z
  refine ⟨same_set x.s n4, ?_, ?_, x.hrs.keep tk, ?_, ?_, ?_, fun j lj h => ?_, fun q n h => ?_, x.ks, x.kl⟩
  · rw [upd_ne (ne_of x.hp ho fun z => nomatch z)]; exact x.hp
  · rw [upd_ne n2.symm]; exact x.hrw
  · rw [upd_ne n3.symm]; exact x.hah
  · rw [upd_ne (ne_of x.hop ho fun z => nomatch z)]; exact x.hop
  · rw [upd_ne (ne_of x.how ho fun z => nomatch z)]; exact x.how
  · rw [upd_ne (fun z => n1 (by rw [← z]; exact List.mem_of_getElem? h))]; exact x.hl j lj h
  · obtain ⟨o', ys', h1, h2, h3, h4⟩ := x.hown q n h
    by_cases z : o' = o
    · subst z
      exact ⟨o', _, h1, upd_same, by rw [List.length_append]; show ys.length + 1 ≤ _; omega, h4⟩
    · exact ⟨o', ys', h1, by rw [upd_ne z]; exact h2, by omega, h4⟩
theorem Pl.put (x : Pl K H0 H p dx a rw ah op ow las rs okv kvs P e f c b) (S : PlS H0 rw ah op las e) {k j : Nat} {v : V} (hk : k < j) (hj : j < steps e) (ht : tells P e k j = false) (now : op ≠ ow) :
    Pl K H0 (upd H op (.dT (putK kvs [Sum.inl (k : Int), Sum.inl (j : Int)] v))) p dx a rw ah op ow las rs okv (putK kvs [Sum.inl (k : Int), Sum.inl (j : Int)] v) P e f c (b + 1) := by
  have tk : TupK H (upd H op (.dT (putK kvs [Sum.inl (k : Int), Sum.inl (j : Int)] v))) := TupK.set (fun _ _ h => h) x.hop fun _ z => nomatch z
  refine ⟨same_set x.s S.fo, ?_, ?_, x.hrs.keep tk, ?_, upd_same, ?_, fun j' lj h => ?_, fun q n h => ?_, ?_, ?_⟩
  · rw [upd_ne (ne_of x.hp x.hop fun z => nomatch z)]; exact x.hp
  · rw [upd_ne (ne_of x.hrw x.hop fun z => nomatch z)]; exact x.hrw
  · rw [upd_ne (ne_of x.hah x.hop fun z => nomatch z)]; exact x.hah
  · rw [upd_ne now.symm]; exact x.how
  · have := x.hl j' lj h
    rw [upd_ne (ne_of this x.hop fun z => nomatch z)]; exact this
  · obtain ⟨o', ys', h1, h2, h3⟩ := x.hown q n h
    exact ⟨o', ys', h1, by rw [upd_ne (ne_of h2 x.hop fun z => nomatch z)]; exact h2, h3⟩
  · obtain ⟨ps, e1, e2⟩ := x.ks
    cases hv : valV kvs [Sum.inl (k : Int), Sum.inl (j : Int)] with
    | none =>
      refine ⟨ps ++ [[(k : Int), (j : Int)]], ?_, fun q hq => ?_⟩
      · rw [putK_new _ hv, List.map_append, e1, List.map_append]
        rfl
      · rcases List.mem_append.mp hq with z | z
        · exact e2 q z
        · exact ⟨k, j, List.mem_singleton.mp z, hk, hj, ht⟩
    | some u =>
      refine ⟨ps, ?_, e2⟩
      rw [← e1]
      exact putK_keys _ hv
  · exact Nat.le_trans (length_putK _ _ _) (Nat.succ_le_succ x.kl)
theorem Pl.told (x : Pl K H0 H p dx a rw ah op ow las rs okv kvs P e f c b) (S : PlS H0 rw ah op las e) {j : Nat} {lj : Addr} {xs : List V} {f' : Nat → Nat} (hj : las[j]? = some lj) (e1 : ∀ i, i ≠ j → f' i = f i) (e2 : xs = toldL P e j (f' j)) :
    Pl K H0 (upd H lj (.lst xs)) p dx a rw ah op ow las rs okv kvs P e f' c b := by
  have h0 := x.hl j lj hj
  have hm := List.mem_of_getElem? hj
  have tk : TupK H (upd H lj (.lst xs)) := TupK.set (fun _ _ h => h) h0 fun _ z => nomatch z
  refine ⟨same_set x.s (S.fr lj hm), ?_, ?_, x.hrs.keep tk, ?_, ?_, ?_, fun i li h => ?_, fun q n h => ?_, x.ks, x.kl⟩
  · rw [upd_ne (ne_of x.hp h0 fun z => nomatch z)]; exact x.hp
  · rw [upd_ne (fun z => S.nr (by rw [z]; exact hm))]; exact x.hrw
  · rw [upd_ne (fun z => S.na (by rw [z]; exact hm))]; exact x.hah
  · rw [upd_ne (ne_of x.hop h0 fun z => nomatch z)]; exact x.hop
  · rw [upd_ne (ne_of x.how h0 fun z => nomatch z)]; exact x.how
  · by_cases z : i = j
    · subst z
      rw [hj] at h
      obtain rfl := Option.some.inj h
      rw [upd_same, e2]
    · have nl : li ≠ lj := fun w => by
        obtain ⟨h1, h2⟩ := List.getElem?_eq_some_iff.mp h
        obtain ⟨h3, h4⟩ := List.getElem?_eq_some_iff.mp hj
        rcases Nat.lt_or_gt_of_ne z with y | y
        · exact List.pairwise_iff_getElem.mp (List.nodup_iff_pairwise_ne.mp S.nd) i j h1 h3 y (by rw [h2, h4, w])
        · exact List.pairwise_iff_getElem.mp (List.nodup_iff_pairwise_ne.mp S.nd) j i h3 h1 y (by rw [h2, h4, w])
      rw [upd_ne nl, e1 i z]
      exact x.hl i li h
  · obtain ⟨o', ys', h1, h2, h3, h4, h5⟩ := x.hown q n h
    exact ⟨o', ys', h1, by rw [upd_ne (fun z => h4 (by rw [z]; exact hm))]; exact h2, h3, h4, h5⟩
end
theorem dcT_it {J : It} {g : TG} {tk tv : TE} {vs : List Nat} {σ : L2.St} {H1 : Hp} {D : Addr} {Qd : Hp → Prop} (n : Nat) (Pv : Nat → Hp → Prop) (h0 : Pv 0 (upd H1 D (.dT []))) (hgo : ∀ i H, i < n → Pv i H → J.go i H) (hst : ∀ H, Pv n H → J.stop n H)
    (hs : ∀ (i : Nat) (x : V) (H H' : Hp), i < n → Pv i H → J.yld i H x H' → g x (wipe σ vs) H' fun σ2 H2 => wipe σ2 vs = wipe σ vs ∧
      tk σ2 H2 fun y H4 => tv σ2 H4 fun z H5 => ∃ (kvs : List (List Key × V)) (k : List Key) (b : Addr), y = .ref b ∧ H5 b = some (.tup (k.map kV)) ∧ H5 D = some (.dT kvs) ∧ kvs.length < sizeLine ∧ Pv (i + 1) (upd H5 D (.dT (putK kvs k z)))) (hd : ∀ H, Pv n H → Qd H) :
    ∃ W : Nat → Nat → Hp → Prop, (∃ m, W 0 m (upd H1 D (.dT []))) ∧ ∀ i m H, W i m H →
      (J.stop i H ∧ Qd H) ∨ (J.go i H ∧ ∃ Nx : Hp → Prop, (∀ H', Nx H' → ∃ m', m' < m ∧ W (i + 1) m' H') ∧ ∀ x H', J.yld i H x H' → g x (wipe σ vs) H' fun σ2 H2 => wipe σ2 vs = wipe σ vs ∧
        tk σ2 H2 fun y H4 => tv σ2 H4 fun z H5 => ∃ (kvs : List (List Key × V)) (k : List Key) (b : Addr), y = .ref b ∧ H5 b = some (.tup (k.map kV)) ∧ H5 D = some (.dT kvs) ∧ kvs.length < sizeLine ∧ Nx (upd H5 D (.dT (putK kvs k z)))) := by
  refine ⟨fun i m H => m = n - i ∧ i ≤ n ∧ Pv i H, ⟨n, rfl, Nat.zero_le _, h0⟩, ?_⟩
  rintro i m H ⟨rfl, hi, p⟩
  by_cases hlt : i < n
  · exact .inr ⟨hgo i H hlt p, Pv (i + 1), fun H' p' => ⟨n - (i + 1), by omega, rfl, hlt, p'⟩, fun x H' y => hs i x H H' hlt p y⟩
  · have e : i = n := by omega
    subst e
    exact .inl ⟨hst H p, hd H p⟩
def fI (i m : Nat) : Nat → Nat := fun j => if j < i then j else if j = i then m else 0
def fO (i : Nat) : Nat → Nat := fun j => if j < i then j else 0
theorem fI0 (i : Nat) : fI i 0 = fO i := by
  funext j
  unfold fI fO
  split
  · rfl
  · split <;> rfl
theorem fIi (i : Nat) : fI i i = fO (i + 1) := by
  funext j
  unfold fI fO
  by_cases h : j < i
  · rw [if_pos h, if_pos (by omega)]
  · rw [if_neg h]
    by_cases h2 : j = i
    · rw [if_pos h2, if_pos (by omega), h2]
    · rw [if_neg h2, if_neg (by omega)]
theorem fI_at (i m : Nat) : fI i m i = m := by
  unfold fI
  rw [if_neg (by omega), if_pos rfl]
theorem fI_ne {i m m' j : Nat} (h : j ≠ i) : fI i m j = fI i m' j := by
  unfold fI
  split
  · rfl
  · simp only [h, if_false]
def planGs (a rw ah op ow rc : Addr) : List (Str × V) := [("task", .ref a), ("rows", .ref rw), ("ahead", .ref ah), ("opened", .ref op), ("own", .ref ow), ("racing", .ref rc)]
def spPlan (K : PySem.W.Frag) : Sp := fun vs H Q _ => ∃ p dx a B e, ∃ P : List Path, ∃ H0 : Hp, vs = [.ref p, .ref a] ∧ H p = some (.ins (He.ga K "Plan") dx []) ∧ Same H0 H ∧ H0 p = none ∧ TaskAt K H0 a B e P ∧ Good B e P ∧
  ∀ (H' : Hp) (rw ah op ow rc : Addr) (las : List Addr) (zs : List V) (qs : List Path), Same H0 H' → H' p = some (.ins (He.ga K "Plan") dx (planGs a rw ah op ow rc)) → H' ah = some (.lst (las.map V.ref)) → las.length = steps e → (∀ j lj, las[j]? = some lj → H' lj = some (.lst (toldL P e j j))) →
    H' rc = some (.lst zs) → PathsV K H' zs qs → (∀ q ∈ qs, RacOk P e q) → qs.length ≤ 1000 → Q .non H'
abbrev plN : List Str := ["self", "task", "row", "path", "number", "earlier", "pair"]
theorem sc_plan : FnScope plN ["self", "task"] (defScope (inClass (top 36) 0)) := ⟨rfl, rfl, rfl, by decide +kernel, rfl, by decide +kernel, by decide +kernel⟩
section
variable {P : Program} {w : World} {K : PySem.W.Frag} {mg : Str → Option Value} {base : Heap}
theorem w_plan (T : Txt K w mg) (cS : CallP P w K mg base 9 "steps_in" (spStepsIn K 5)) (cSh : CallP P w K mg base 1 "share" spShare) (cR : MethP P w K mg base 2 (He.ga K "Plan") "relate" (spRelate K)) : MakeP P w K mg base 10 (He.ga K "Plan") "Plan" (spPlan K) := by
  refine mkrP (C := "Plan") T (mkM (k := 9) T 12 sc_plan (fun _ _ _ _ _ _ us hl => match us, hl with | [_, _], _ => rfl) (fun vs H Q E h => ?_) fun cdv A outer s H vs Q E hr h => ?_)
  · obtain ⟨p, dx, a, B, e, P0, H0, rfl, _⟩ := h
    rfl
  obtain ⟨p, dx, a, B, e, P0, H0, rfl, hp, s0, hn0, ta, gd, q⟩ := h
  have hu := hu_of hr
  have hu0 := Nat.lt_of_succ_lt hu
  have hz : (1000 : Nat) < sizeLine := by decide
  have hds := gd.dp
  have hst := gd.st
  have hct := gd.ct
  refine ⟨_, pss_cons (ps_fld (pv 0) (pv 1) rfl)
    (pss_cons (ps_fld (pv 0) (pe_fn cS hr (by decide) (by rfl) (pa_cons (pe_fld (pv 1) rfl) (pa_cons (pe_fld (pv 1) rfl) (pa_cons (pe_tup pa_nil) pa_nil)))) rfl)
    (pss_cons (ps_fld (pv 0) (pe_lc (own := [("row", 2)]) (g := gName 2) (tt := tYes) rfl sc_plan.nd (pi_list (pe_fld (pv 0) rfl)) (blkOk_by (N := plN) (sc := defScope (inClass (top 36) 0)) (by decide +kernel))
      (fun _ _ _ _ _ => pg_name (i := 2) sc_plan.nd rfl (Or.inl rfl)) (fun _ _ _ _ _ => pts_nil) (fun _ _ _ _ _ => pe_lst pa_nil)) rfl)
    (pss_cons (ps_fld (pv 0) pe_dnewT rfl)
    (pss_cons (ps_fld (pv 0) (pe_lock (pe_dcT (own := [("path", 3)]) (g := gName 3) rfl hu0 sc_plan.nd (pi_keys (pe_fld (pv 1) rfl)) (blkOk_by (N := plN) (sc := defScope (inClass (top 36) 0)) (by decide +kernel))
      (fun _ _ _ _ _ => pg_name (i := 3) sc_plan.nd rfl (Or.inl rfl)) (fun _ _ _ _ _ => pv 3) (fun _ _ _ _ _ => pe_lst pa_nil))) rfl)
    (pss_cons (ps_for PassesOwn.never rfl (pi_enum (by rfl) (T.free "enumerate" (by decide +kernel)) (pa_cons (pe_fld (pv 0) rfl) pa_nil)) (pg_tup rfl (pgs_cons (pg_name (i := 4) sc_plan.nd rfl (Or.inl rfl)) (pgs_cons (pg_name (i := 2) sc_plan.nd rfl (Or.inl rfl)) pgs_nil)))
      (pss_cons (ps_expr (pe_bm PySem.F.plainAttrs_list PySem.F.slot_list_append PySem.F.type_list_append mt_append (pe_dget hu (pe_fld (pv 0) rfl) (pe_ix ix_tup (pv 2) pe_int (fun _ _ => rfl)) (fun _ _ => rfl)) (pa_cons (pv 4) pa_nil)))
      (pss_one (ps_for PassesOwn.never rfl (pi_range1 (by rfl) (T.free "range" (by decide +kernel)) (pa_cons (pv 4) pa_nil)) (pg_name (i := 5) sc_plan.nd rfl (Or.inl rfl))
        (pss_one (ps_expr (pe_mth (pv 0) T.cls cR hr (by decide) (pa_cons (pv 5) (pa_cons (pv 4) pa_nil)))))))))
    (pss_one (ps_fld (pv 0) (pe_lc (own := [("pair", 6)]) (g := gName 6) rfl sc_plan.nd (pi_list (pe_callB (call_sortDT rfl (hu3 hr)) (by rfl) (T.free "sorted" (by decide +kernel)) (by decide +kernel) (pa_cons (pe_fld (pv 0) rfl) pa_nil))) (blkOk_by (N := plN) (sc := defScope (inClass (top 36) 0)) (by decide +kernel))
      (fun _ _ _ _ _ => pg_name (i := 6) sc_plan.nd rfl (Or.inl rfl)) (fun _ _ _ _ _ => pts_one (pt_val (pe_fn cSh hr (by decide) (by rfl)
        (pa_cons (pe_ix (r := rIxL K) ix_list (pe_fldK (K := K) rfl (pv 0) rfl) (pe_ix (r := rIxT K) ix_tup (pv 6) pe_int (fun _ _ => rfl)) (fun _ _ => rfl)) (pa_cons (pe_ix (r := rIxL K) ix_list (pe_fldK (K := K) rfl (pv 0) rfl) (pe_ix (r := rIxT K) ix_tup (pv 6) pe_int (fun _ _ => rfl)) (fun _ _ => rfl)) pa_nil))))) (fun _ _ _ _ _ => pv 6)) rfl))))))), ?_⟩
  obtain ⟨dxa, vb, ve, d, pt, owa, xs, ys, h1, h2, h3, h4, h5, h6, h7, h8⟩ := ta.ex
  -- task
  refine ⟨_, rfl, _, rfl, p, _, dx, _, rfl, hp, T.cls, T.noat, by decide, ?_⟩
  rw [show putF "task" (V.ref a) [] = ([("task", .ref a)] : List (Str × V)) from rfl]
  have k1 := same_set (o := .ins (He.ga K "Plan") dx [("task", .ref a)]) s0 hn0
  have hp1 : (upd H p (.ins (He.ga K "Plan") dx [("task", .ref a)])) p = some (.ins (He.ga K "Plan") dx [("task", .ref a)]) := upd_same
  generalize upd H p (.ins (He.ga K "Plan") dx [("task", .ref a)]) = H1 at k1 hp1 ⊢
  -- rows
  refine ⟨_, rfl, a, _, dxa, _, _, rfl, k1 _ _ h1, T.cls, T.noat, rfl, _, rfl, a, _, dxa, _, _, rfl, k1 _ _ h1, T.cls, T.noat, rfl, z0, fun t0 ht0 => ?_⟩
  have k2 := k1.nw ht0 (o := .tup [])
  have hp2 := same_new ht0 (o := .tup []) _ _ hp1
  refine ⟨vb, ve, .ref t0, B, e, [], rfl, h2.keep (Kp.of (S := Nix) k2), h3.keep k2.tk, gd.wf, by omega, ⟨t0, rfl, upd_same⟩, by show 0 + dep e ≤ 100; omega, by omega, fun rw rs H2 s2 hrw hrs => ?_⟩
  have hp3 := s2 _ _ hp2
  refine ⟨_, rfl, p, _, dx, _, rfl, hp3, T.cls, T.noat, by show 1 < 1000; decide, ?_⟩
  rw [show putF "rows" (V.ref rw) ([("task", .ref a)] : List (Str × V)) = ([("task", .ref a), ("rows", .ref rw)] : List (Str × V)) from rfl]
  have k3 := same_set (o := .ins (He.ga K "Plan") dx [("task", .ref a), ("rows", .ref rw)]) (k2.trans s2) hn0
  have tk3 : TupK H2 (upd H2 p (.ins (He.ga K "Plan") dx [("task", .ref a), ("rows", .ref rw)])) := TupK.set (fun _ _ h => h) hp3 fun _ z => nomatch z
  have hrw3 : (upd H2 p (.ins (He.ga K "Plan") dx [("task", .ref a), ("rows", .ref rw)])) rw = some (.lst rs) := by rw [upd_ne (ne_of hrw hp3 fun z => nomatch z)]; exact hrw
  have hrs3 := hrs.keep tk3
  have hp4 : (upd H2 p (.ins (He.ga K "Plan") dx [("task", .ref a), ("rows", .ref rw)])) p = some (.ins (He.ga K "Plan") dx [("task", .ref a), ("rows", .ref rw)]) := upd_same
  generalize upd H2 p (.ins (He.ga K "Plan") dx [("task", .ref a), ("rows", .ref rw)]) = H3 at k3 hrw3 hrs3 hp4 ⊢
  have hn : rs.length = steps e := by rw [← rows_steps e []]; exact Paired.length hrs3
  -- ahead
  refine ⟨_, rfl, p, _, dx, _, _, rfl, hp4, T.cls, T.noat, rfl, rw, rfl, ⟨_, SqL.of hrw3⟩, fun ah hah0 => lc_it rs.length (fun i H' => Same H3 H' ∧ ∃ las : List Addr, H' ah = some (.lst (las.map V.ref)) ∧ las.length = i ∧ las.Nodup ∧ ∀ x ∈ las, H' x = some (.lst []) ∧ x ≠ ah ∧ H3 x = none) ⟨same_new hah0, [], upd_same, rfl, List.nodup_nil, fun x hx => nomatch hx⟩
    (fun i H' hi ⟨s, _⟩ => ⟨rs, rs[i], SqL.of (s _ _ hrw3), List.getElem?_eq_getElem hi⟩) (fun H' ⟨s, _⟩ => ⟨rs, SqL.of (s _ _ hrw3), Nat.le_refl _⟩) ?_ ?_⟩
  · rintro i x H4 H5 hi ⟨s4, las, hla, hln, hnd, hal⟩ ⟨rfl, hx⟩
    refine ⟨rfl, z0, fun l hl => ⟨las.map V.ref, same_new hl _ _ hla, by rw [List.length_map]; omega, same_set (s4.nw hl) hah0, las ++ [l], by rw [upd_same, List.map_append]; rfl, by rw [List.length_append, hln]; rfl, ?_, fun x hx => ?_⟩⟩
    · refine List.nodup_append.mpr ⟨hnd, by simp, fun b hb c hc ebc => ?_⟩
      rw [List.mem_singleton.mp hc] at ebc
      rw [ebc, ] at hb
      have := (hal l hb).1
      rw [hl] at this
      cases this
    · rcases List.mem_append.mp hx with z | z
      · obtain ⟨e1, e2, e3⟩ := hal x z
        exact ⟨by rw [upd_ne e2, upd_ne (ne_of_none e1 hl)]; exact e1, e2, e3⟩
      · obtain rfl := List.mem_singleton.mp z
        have nl : x ≠ ah := fun w => by rw [w, hla] at hl; cases hl
        exact ⟨by rw [upd_ne nl]; exact upd_same, nl, s4.free hl⟩
  rintro H4 ⟨s4, las, hla, hln, hnd, hal⟩
  have hp5 := s4 _ _ hp4
  refine ⟨_, rfl, p, _, dx, _, rfl, hp5, T.cls, T.noat, by show 2 < 1000; decide, ?_⟩
  rw [show putF "ahead" (V.ref ah) ([("task", .ref a), ("rows", .ref rw)] : List (Str × V)) = ([("task", .ref a), ("rows", .ref rw), ("ahead", .ref ah)] : List (Str × V)) from rfl]
  have k5 := same_set (o := .ins (He.ga K "Plan") dx [("task", .ref a), ("rows", .ref rw), ("ahead", .ref ah)]) (k3.trans s4) hn0
  have fr5 : ∀ x ∈ las, H0 x = none := fun x hx => k3.free (hal x hx).2.2
  have nr5 : rw ∉ las := fun z => by have := (hal rw z).2.2; rw [hrw3] at this; cases this
  have na5 : ah ∉ las := fun z => (hal ah z).2.1 rfl
  have tk5 : TupK H4 (upd H4 p (.ins (He.ga K "Plan") dx [("task", .ref a), ("rows", .ref rw), ("ahead", .ref ah)])) := TupK.set (fun _ _ h => h) hp5 fun _ z => nomatch z
  have stp : ∀ x xs, H4 x = some (.lst xs) → (upd H4 p (.ins (He.ga K "Plan") dx [("task", .ref a), ("rows", .ref rw), ("ahead", .ref ah)])) x = some (.lst xs) := fun x xs hx => by rw [upd_ne (ne_of hx hp5 fun z => nomatch z)]; exact hx
  have hrw5 := stp _ _ (s4 _ _ hrw3)
  have hah5 := stp _ _ hla
  have hal5 := fun x hx => stp _ _ (hal x hx).1
  have hrs5 := (hrs3.keep s4.tk).keep tk5
  have hp6 : (upd H4 p (.ins (He.ga K "Plan") dx [("task", .ref a), ("rows", .ref rw), ("ahead", .ref ah)])) p = some (.ins (He.ga K "Plan") dx [("task", .ref a), ("rows", .ref rw), ("ahead", .ref ah)]) := upd_same
  generalize upd H4 p (.ins (He.ga K "Plan") dx [("task", .ref a), ("rows", .ref rw), ("ahead", .ref ah)]) = H5 at k5 hrw5 hah5 hal5 hrs5 hp6 ⊢
  clear stp tk5
  -- opened
  intro op hop0
  have s6 : Same H5 (upd H5 op (.dT [])) := same_new hop0
  have hop6 : (upd H5 op (.dT [])) op = some (.dT []) := upd_same
  have fo : H0 op = none := k5.free hop0
  generalize upd H5 op (.dT []) = H6 at s6 hop6 ⊢
  have hp7 := s6 _ _ hp6
  refine ⟨_, rfl, p, _, dx, _, rfl, hp7, T.cls, T.noat, by show 3 < 1000; decide, ?_⟩
  rw [show putF "opened" (V.ref op) ([("task", .ref a), ("rows", .ref rw), ("ahead", .ref ah)] : List (Str × V)) = ([("task", .ref a), ("rows", .ref rw), ("ahead", .ref ah), ("opened", .ref op)] : List (Str × V)) from rfl]
  have k7 := same_set (o := .ins (He.ga K "Plan") dx [("task", .ref a), ("rows", .ref rw), ("ahead", .ref ah), ("opened", .ref op)]) (k5.trans s6) hn0
  have tk7 : TupK H6 (upd H6 p (.ins (He.ga K "Plan") dx [("task", .ref a), ("rows", .ref rw), ("ahead", .ref ah), ("opened", .ref op)])) := TupK.set (fun _ _ h => h) hp7 fun _ z => nomatch z
  have stp : ∀ x xs, H6 x = some (.lst xs) → (upd H6 p (.ins (He.ga K "Plan") dx [("task", .ref a), ("rows", .ref rw), ("ahead", .ref ah), ("opened", .ref op)])) x = some (.lst xs) := fun x xs hx => by rw [upd_ne (ne_of hx hp7 fun z => nomatch z)]; exact hx
  have hrw7 := stp _ _ (s6 _ _ hrw5)
  have hah7 := stp _ _ (s6 _ _ hah5)
  have hal7 := fun x hx => stp _ _ (s6 _ _ (hal5 x hx))
  have hrs7 := (hrs5.keep s6.tk).keep tk7
  have hop7 : (upd H6 p (.ins (He.ga K "Plan") dx [("task", .ref a), ("rows", .ref rw), ("ahead", .ref ah), ("opened", .ref op)])) op = some (.dT []) := by rw [upd_ne (ne_of hop6 hp7 fun z => nomatch z)]; exact hop6
  have hp8 : (upd H6 p (.ins (He.ga K "Plan") dx [("task", .ref a), ("rows", .ref rw), ("ahead", .ref ah), ("opened", .ref op)])) p = some (.ins (He.ga K "Plan") dx [("task", .ref a), ("rows", .ref rw), ("ahead", .ref ah), ("opened", .ref op)]) := upd_same
  generalize upd H6 p (.ins (He.ga K "Plan") dx [("task", .ref a), ("rows", .ref rw), ("ahead", .ref ah), ("opened", .ref op)]) = H7 at k7 hrw7 hah7 hal7 hrs7 hop7 hp8 ⊢
  clear stp tk7
  -- own
  obtain ⟨tkv, hd7, htab⟩ := h4.keep (Kp.of (S := Nix) k7)
  refine ⟨d, _, hd7, trivial, fun od => ?_⟩
  have htk := lock_tk (od := od) hd7 (fun _ z => nomatch z)
  have unl : ∀ H', Same (upd H7 d (.frz od (.dT tkv))) H' → Same H7 (upd H' d (.dT tkv)) := fun H' => unlock hd7
  have npd : d ≠ p := fun z => by rw [z, hp8] at hd7; cases hd7
  have hda : a ≠ d := fun z => by have := k7 _ _ h1; rw [z, hd7] at this; cases this
  have haL : (upd H7 d (.frz od (.dT tkv))) a = some (.ins (He.ga K "Task") dxa (taskFs vb ve d pt owa)) := by rw [upd_ne hda]; exact k7 _ _ h1
  have hfr : (upd H7 d (.frz od (.dT tkv))) d = some (.frz od (.dT tkv)) := upd_same
  have frL : ∀ x, (upd H7 d (.frz od (.dT tkv))) x = none → H7 x = none := fun x h => by
    by_cases z : x = d
    · rw [z, upd_same] at h; cases h
    · rw [upd_ne z] at h; exact h
  generalize upd H7 d (.frz od (.dT tkv)) = HL at htk unl haL hfr frL ⊢
  have hlk : tkv.length = (nodes e []).length := Paired.length htab
  have hnc : (nodes e []).length = cnt e := nodes_cnt e []
  refine ⟨_, rfl, a, _, dxa, _, _, rfl, haL, T.cls, T.noat, rfl, d, od, rfl, .inr ⟨tkv, hfr, fun ow how0 => dcT_it tkv.length (fun i H' => Same HL H' ∧ ∃ okv, H' ow = some (.dT okv) ∧ okv.length ≤ i ∧ ∀ q n, (q, n) ∈ (nodes e []).take i → ∃ o, valV okv (q.map Sum.inl) = some (.ref o) ∧ H' o = some (.lst []) ∧ HL o = none)
    ⟨same_new how0, [], upd_same, Nat.le_refl _, fun q n hq => by simp at hq⟩ (fun i H' hi ⟨s, _⟩ => ⟨s _ _ hfr, hi⟩) (fun H' ⟨s, _⟩ => ⟨s _ _ hfr, Nat.le_refl _⟩) ?_ ?_⟩⟩
  · rintro i x H8 H9 hi ⟨s8, okv, how, hol, hok⟩ ⟨rfl, kk, v, qa, hkv, rfl, hqa⟩
    obtain ⟨p', c', hpc, rfl, _⟩ := tab_nth htab hkv
    refine ⟨rfl, _, rfl, z0, fun o ho => ⟨okv, p'.map Sum.inl, qa, rfl, same_new ho _ _ hqa, same_new ho _ _ how, by omega, same_set (s8.nw ho) how0, _, upd_same, Nat.le_trans (length_putK _ _ _) (Nat.succ_le_succ hol), fun q n hq => ?_⟩⟩
    have how9 : (upd H9 o (.lst [])) ow = some (.dT okv) := same_new ho _ _ how
    have now : o ≠ ow := fun z => by rw [z, how] at ho; cases ho
    rw [List.take_add_one, hpc] at hq
    by_cases z : q = p'
    · subst z
      exact ⟨o, by rw [valV_put, if_pos rfl], by rw [upd_ne now]; exact upd_same, s8.free ho⟩
    · rcases List.mem_append.mp hq with y | y
      · obtain ⟨o', e1, e2, e3⟩ := hok q n y
        refine ⟨o', by rw [valV_put, if_neg fun w => z (inl_inj w)]; exact e1, ?_, e3⟩
        rw [upd_ne (ne_of e2 how fun w => nomatch w), upd_ne (ne_of_none e2 ho)]
        exact e2
      · have := List.mem_singleton.mp y
        injection this with w1 w2
        exact absurd w1 z
  rintro H8 ⟨s8, okv, how, hol, hok⟩
  have hd8 := s8 _ _ hfr
  have s9 := unl H8 s8
  have st9 : ∀ x u, H8 x = some u → x ≠ d → (upd H8 d (.dT tkv)) x = some u := fun x u hxu z => by rw [upd_ne z]; exact hxu
  have how9 := st9 _ _ how (fun z => by rw [z, hfr] at how0; cases how0)
  have hok9 : ∀ q n, sub e q = some n → ∃ o, valV okv (q.map Sum.inl) = some (.ref o) ∧ (upd H8 d (.dT tkv)) o = some (.lst []) ∧ HL o = none := fun q n hq => by
    obtain ⟨o, e1, e2, e3⟩ := hok q n (by rw [List.take_of_length_le (by omega)]; exact nodes_in.mpr hq)
    exact ⟨o, e1, st9 _ _ e2 (fun z => by rw [z, hfr] at e3; cases e3), e3⟩
  refine ⟨hd8, ?_⟩
  generalize upd H8 d (.dT tkv) = H9 at s9 how9 hok9 ⊢
  have hp9 := s9 _ _ hp8
  refine ⟨_, rfl, p, _, dx, _, rfl, hp9, T.cls, T.noat, by show 4 < 1000; decide, ?_⟩
  rw [show putF "own" (V.ref ow) ([("task", .ref a), ("rows", .ref rw), ("ahead", .ref ah), ("opened", .ref op)] : List (Str × V)) = planFs a rw ah op ow from rfl]
  have now : op ≠ ow := fun z => by
    have h := frL ow how0
    rw [← z, hop7] at h
    cases h
  have S : PlS H0 rw ah op las e := ⟨hnd, by omega, nr5, na5, fr5, fo⟩
  have x0 : Pl K H0 (upd H9 p (.ins (He.ga K "Plan") dx (planFs a rw ah op ow))) p dx a rw ah op ow las rs okv [] P0 e (fO 0) 0 0 := by
    have tk9 : TupK H9 (upd H9 p (.ins (He.ga K "Plan") dx (planFs a rw ah op ow))) := TupK.set (fun _ _ h => h) hp9 fun _ z => nomatch z
    have st : ∀ x u, H9 x = some u → u ≠ .ins (He.ga K "Plan") dx [("task", .ref a), ("rows", .ref rw), ("ahead", .ref ah), ("opened", .ref op)] → (upd H9 p (.ins (He.ga K "Plan") dx (planFs a rw ah op ow))) x = some u := fun x u h z => by rw [upd_ne (ne_of h hp9 z)]; exact h
    refine ⟨same_set (k7.trans s9) hn0, upd_same, st _ _ (s9 _ _ hrw7) (fun z => nomatch z), (hrs7.keep s9.tk).keep tk9, st _ _ (s9 _ _ hah7) (fun z => nomatch z), st _ _ (s9 _ _ hop7) (fun z => nomatch z), st _ _ how9 (fun z => nomatch z), fun j lj hj => ?_, fun q n hq => ?_, ⟨[], rfl, fun q hq => nomatch hq⟩, Nat.le_refl _⟩
    · rw [show toldL P0 e j (fO 0 j) = [] from rfl]
      exact st _ _ (s9 _ _ (hal7 lj (List.mem_of_getElem? hj))) fun z => nomatch z
    · obtain ⟨o, e1, e2, e3⟩ := hok9 q n hq
      have e4 := frL o e3
      exact ⟨o, [], e1, st _ _ e2 (fun z => nomatch z), Nat.zero_le _, (fun z => by rw [hal7 o z] at e4; cases e4), (fun z => by rw [z, hrw7] at e4; cases e4), (fun z => by rw [z, hah7] at e4; cases e4), k7.free e4⟩
  generalize upd H9 p (.ins (He.ga K "Plan") dx (planFs a rw ah op ow)) = HX at x0 ⊢
  -- the rows
  refine ⟨_, rfl, p, _, dx, _, _, rfl, x0.hp, T.cls, T.noat, rfl, rw, rs, rfl, SqL.of x0.hrw, for_it rs.length (fun i σ H' => ∃ (o2 o4 o5 : Option V) (kvs : List (List Key × V)), σ = [some (.ref p), some (.ref a), o2, none, o4, o5, none] ∧ Pl K H0 H' p dx a rw ah op ow las rs okv kvs P0 e (fO i) i (10 * i))
    ⟨none, none, none, [], rfl, x0⟩ (fun i σ H' hi ⟨_, _, _, _, _, x⟩ => ⟨rs, rs[i], SqL.of x.hrw, List.getElem?_eq_getElem hi⟩) (fun σ H' ⟨_, _, _, _, _, x⟩ => ⟨rs, SqL.of x.hrw, Nat.le_refl _⟩) ?_ ?_⟩
  · rintro i v σ H1 H2 hi ⟨o2, o4, o5, kvs, rfl, x⟩ ⟨t, row, rfl, ht, rfl, hx⟩
    have hrow := hx rs (SqL.of x.hrw)
    have x1 := x.same (same_new ht (o := .tup [.int (i : Nat), row]))
    have hlt : i < (rows e []).length := by rw [rows_steps]; omega
    obtain ⟨pi, gpi, ra, qa, r2, r3, kn, rss, sss, rfl, hra, hqa, _⟩ := paired_get x1.hrs hrow
    obtain ⟨r0, c0, epi, hsb, _⟩ := rows_mem e [] pi (List.mem_of_getElem? gpi)
    rw [List.nil_append] at epi
    subst epi
    obtain ⟨o, ys, ho1, ho2, ho3, ho4, ho5, ho6, ho7⟩ := x1.hown pi c0 hsb
    have dg := DGet.t (k := pi.map Sum.inl) x1.how (PathAt.key hqa)
    rw [ho1] at dg
    refine ⟨t, _, rfl, SqT.of upd_same, rfl, _, _, rfl, _, _, rfl, rfl, ?_⟩
    refine ⟨_, rfl, p, _, dx, _, _, rfl, x1.hp, T.cls, T.noat, rfl, _, rfl, ra, _, _, _, rfl, rfl, SqT.of hra, atI_nat (j := 1) rfl, ow, _, rfl, dg, .inl ⟨rfl, _, SqL.of ho2⟩, _, rfl, o, ys, _, rfl, rfl, ho2, by omega, ?_⟩
    have x2 := x1.own (v := .int (i : Nat)) ho2 ho4 ho5 ho6 ho7 ho3
    rw [← fI0 i] at x2
    generalize upd (upd H1 t (.tup [.int (i : Nat), .ref ra])) o (.lst (ys ++ [.int (i : Nat)])) = H3 at x2 ⊢
    refine ⟨_, rfl, (i : Int), rfl, by omega, by omega, for_it i (fun m σ H' => ∃ (o5 : Option V) (kvs : List (List Key × V)), σ = [some (.ref p), some (.ref a), some (.ref ra), none, some (.int (i : Nat)), o5, none] ∧ Pl K H0 H' p dx a rw ah op ow las rs okv kvs P0 e (fI i m) (i + 1) (10 * i + m))
      ⟨o5, kvs, rfl, x2⟩ (fun m σ H' hm _ => by show m < ((i : Nat) : Int).toNat; omega) (fun σ H' _ => by show ((i : Nat) : Int).toNat ≤ i; omega) ?_ ?_⟩
    · rintro m v σ H4 H5 hm ⟨o5, kvs, rfl, x⟩ ⟨rfl, hv⟩
      rw [Int.zero_add] at hv
      subst hv
      have hmr : m < (rows e []).length := by omega
      have gm := List.getElem?_eq_getElem hmr
      have hli : i < las.length := by rw [S.ln]; omega
      have gl := List.getElem?_eq_getElem hli
      have hlj := x.hl i _ gl
      rw [fI_at] at hlj
      have hpo : Po (rows e [])[m] pi := by
        obtain ⟨h9, e9⟩ := List.getElem?_eq_some_iff.mp gpi
        rw [← e9]
        exact List.pairwise_iff_getElem.mp (rows_po e []) m i hmr h9 hm
      have ht9 := tells_at (P := P0) gm gpi
      refine ⟨_, rfl, p, dx, _, rfl, x.hp, rfl, _, rfl, _, rfl, p, dx, a, rw, ah, op, ow, las[i], B, e, P0, rs, las.map V.ref, toldL P0 e i m, kvs, m, i, _, pi, rfl, x.hp, ta.keep x.s, by omega, x.hrw, x.hrs, x.hah, x.hop, by have := x.kl; omega, gm, gpi, hpo, by rw [List.getElem?_map, gl]; rfl, hlj, by have := toldL_len P0 e i m; omega, fun hpr H6 s6 => ?_, fun hpr => ⟨fun H6 s6 => ?_, fun H6 qv s6 => ?_⟩⟩
      · refine ⟨_, kvs, rfl, ((x.same s6).told S (f' := fI i (m + 1)) gl (fun j hj => fI_ne hj) ?_).more (by omega)⟩
        rw [fI_at, toldL_t (by rw [ht9]; exact hpr)]
      · refine ⟨_, kvs, rfl, ((x.same s6).to fun j => ?_).more (by omega)⟩
        by_cases z : j = i
        · subst z
          rw [fI_at, fI_at, toldL_f (by rw [ht9]; exact hpr)]
        · rw [fI_ne z]
      · refine ⟨_, _, rfl, (((x.same s6).put S hm (by omega) (by rw [ht9]; exact hpr) now).to fun j => ?_).more (by omega)⟩
        by_cases z : j = i
        · subst z
          rw [fI_at, fI_at, toldL_f (by rw [ht9]; exact hpr)]
        · rw [fI_ne z]
    · rintro σ H4 ⟨o5, kvs, rfl, x⟩
      rw [fIi] at x
      exact ⟨_, _, o5, kvs, rfl, x.more (by omega)⟩
  rintro σ H1 ⟨o2, o4, o5, kvs, rfl, x⟩
  -- racing
  obtain ⟨ps, ek, hps⟩ := x.ks
  have hkl := x.kl
  have hpl : ps.length = kvs.length := by simpa using (congrArg List.length ek).symm
  refine ⟨_, rfl, p, _, dx, _, _, rfl, x.hp, T.cls, T.noat, rfl, op, kvs, ps, rfl, x.hop, ek, fun ys qs sl hys perm hsl => ?_⟩
  have s2 : Same H1 (upd H1 sl (.lst ys)) := same_new hsl
  have hqs : ∀ q ∈ qs, RacOk P0 e q := fun q hq => hps q (perm.mem_iff.mp hq)
  have hys2 : PathsV K (upd H1 sl (.lst ys)) ys qs := Paired.mapP hys fun _ _ ⟨b, e1, e2⟩ => ⟨b, e1, L2.Same.sqt s2 e2⟩
  have hsl2 : (upd H1 sl (.lst ys)) sl = some (.lst ys) := upd_same
  have hyl : ys.length = qs.length := Paired.length hys
  have hql : qs.length = ps.length := perm.length_eq
  have x2 := x.same s2
  generalize upd H1 sl (.lst ys) = H2 at s2 hys2 hsl2 x2 ⊢
  refine ⟨sl, rfl, ⟨_, SqL.of hsl2⟩, fun D hD => lc_gen Nix ys.length (fun i acc H' => ∃ qs', PathsV K H' acc qs' ∧ (∀ q ∈ qs', RacOk P0 e q) ∧ acc.length ≤ i) hD (fun a h => h.elim) (fun H' _ => ⟨[], .nil, (fun q hq => nomatch hq), Nat.le_refl _⟩)
    (fun i acc H' H'' ⟨qs', g1, g2, g3⟩ k => ⟨qs', Paired.mapP g1 fun _ _ ⟨b, e1, e2⟩ => ⟨b, e1, k.sqt e2⟩, g2, g3⟩) (fun i acc H' hi ⟨_, _, _, g⟩ => by omega) (fun i H' hi k => ⟨ys, ys[i], SqL.of (k.same _ _ hsl2), List.getElem?_eq_getElem hi⟩) (fun H' k => ⟨ys, SqL.of (k.same _ _ hsl2), Nat.le_refl _⟩) ?_ ?_⟩
  · rintro i acc v H3 H4 N1 N0 n1 n0 hi k ⟨qs', g1, g2, g3⟩ ⟨rfl, hx⟩
    have s3 := k.same
    have gv := hx ys (SqL.of (s3 _ _ hsl2))
    have x3 := x2.same s3
    obtain ⟨q0, gq, qa, rfl, hqa⟩ := paired_get hys2 gv
    have rq := hqs q0 (List.mem_of_getElem? gq)
    have hqa3 := L2.Same.sqt s3 hqa
    obtain ⟨kk, jj, rfl, hkj, hjs, htl⟩ := id rq
    have hk1 : kk < rs.length := by omega
    have hj1 : jj < rs.length := by omega
    obtain ⟨pk, gk, rk⟩ := paired_get x3.hrs (List.getElem?_eq_getElem hk1)
    obtain ⟨pj, gj, rj⟩ := paired_get x3.hrs (List.getElem?_eq_getElem hj1)
    refine ⟨rfl, _, rfl, p, _, dx, _, _, rfl, x3.hp, T.cls, T.noat, rfl, _, rfl, qa, _, _, _, rfl, rfl, hqa3, atI_nat (j := 0) rfl, rw, _, _, _, rfl, rfl, SqL.of x3.hrw, atI_nat (List.getElem?_eq_getElem hk1), _, rfl, p, _, dx, _, _, rfl, x3.hp, T.cls, T.noat, rfl, _, rfl, qa, _, _, _, rfl, rfl, hqa3, atI_nat (j := 1) rfl, rw, _, _, _, rfl, rfl, SqL.of x3.hrw, atI_nat (List.getElem?_eq_getElem hj1), rs[kk], rs[jj], pk, pj, rfl, rk, rj, fun b H5 s5 ⟨c, eb⟩ => ?_⟩
    subst eb
    have g5 : PathsV K H5 acc qs' := Paired.mapP g1 fun _ _ ⟨b, e1, e2⟩ => ⟨b, e1, L2.Same.sqt s5 e2⟩
    refine ⟨c, rfl, ?_⟩
    cases c with
    | false => exact iteF (n0 _ (Kp.of s5) ⟨qs', g5, g2, Nat.le_succ_of_le g3⟩)
    | true =>
      refine iteT ⟨_, rfl, n1 _ _ (Kp.of s5) ⟨qs' ++ [[(kk : Int), (jj : Int)]], Paired.app g5 (.cons ⟨qa, rfl, L2.Same.sqt s5 hqa3⟩ .nil), fun q' hq' => ?_, by rw [List.length_append]; exact Nat.succ_le_succ g3⟩⟩
      rcases List.mem_append.mp hq' with z | z
      · exact g2 q' z
      · rw [List.mem_singleton.mp z]; exact rq
  · rintro H3 acc k e3 ⟨qs', g1, g2, g3⟩
    have s3 := k.same
    have x3 := x2.same s3
    refine ⟨_, rfl, p, _, dx, _, rfl, x3.hp, T.cls, T.noat, by show 5 < 1000; decide, ?_⟩
    rw [show putF "racing" (V.ref D) (planFs a rw ah op ow) = planGs a rw ah op ow D from rfl]
    have st : ∀ b u, H3 b = some u → u ≠ .ins (He.ga K "Plan") dx (planFs a rw ah op ow) → (upd H3 p (.ins (He.ga K "Plan") dx (planGs a rw ah op ow D))) b = some u := fun b u h z => by rw [upd_ne (ne_of h x3.hp z)]; exact h
    have gl := Paired.length g1
    refine q _ rw ah op ow D las acc qs' (same_set x3.s hn0) upd_same (st _ _ x3.hah fun z => nomatch z) S.ln (fun j lj hj => ?_) (st _ _ e3 fun z => nomatch z) (Paired.mapP g1 fun _ _ ⟨b, e1, e2⟩ => ⟨b, e1, ?_⟩) g2 (by omega)
    · have hjl : j < rs.length := by
        have := (List.getElem?_eq_some_iff.mp hj).1
        rw [S.ln] at this; omega
      have := x3.hl j lj hj
      rw [show fO rs.length j = j from if_pos hjl] at this
      exact st _ _ this fun z => nomatch z
    · rcases e2 with (h | ⟨u, h⟩) | h
      · exact .inl (.inl (st _ _ h fun z => nomatch z))
      · exact .inl (.inr ⟨u, st _ _ h fun z => nomatch z⟩)
      · exact .inr h
end
end Oo

set_option Elab.async false
set_option linter.all false
set_option maxRecDepth 100000
set_option maxHeartbeats 4000000
/-! steps, precedes, races. -/
namespace Oo
open PySem PySem.Spec PyProof.Rows L2
def spSteps (K : PySem.W.Frag) : Sp := fun vs H Q _ => ∃ a B e, ∃ P : List Path, vs = [.ref a] ∧ TaskAt K H a B e P ∧ Good B e P ∧ ∀ l rs H', Same H H' → H' l = some (.lst rs) → RowsAt H' rs (rows e []) → Q (.ref l) H'
/-- is the i-th told ahead of the j-th? -/
def rel (P : List Path) (e : Ex) (i j : Nat) : Bool := decide (i < j) && tells P e i j
theorem inV_told (P : List Path) (e : Ex) (i j : Nat) : inV (.int (i : Nat)) (toldL P e j j) = rel P e i j := by
  unfold inV toldL rel
  rw [List.any_map, Bool.eq_iff_iff, List.any_eq_true, Bool.and_eq_true, decide_eq_true_eq]
  constructor
  · rintro ⟨k, hk, he⟩
    obtain ⟨h1, h2⟩ := List.mem_filter.mp hk
    have h3 : ((k : Nat) : Int) = (i : Nat) := by simpa [eqV] using he
    have h4 : k = i := by omega
    subst h4
    exact ⟨List.mem_range.mp h1, h2⟩
  · rintro ⟨h1, h2⟩
    exact ⟨i, List.mem_filter.mpr ⟨List.mem_range.mpr h1, h2⟩, by simp [eqV]⟩
theorem told_flat (P : List Path) (e : Ex) (j m : Nat) : (toldL P e j m).all flatV = true := by
  unfold toldL
  rw [List.all_eq_true]
  intro x hx
  obtain ⟨s, _, rfl⟩ := List.mem_map.mp hx
  rfl
def spPrecedes (K : PySem.W.Frag) : Sp := fun vs H Q _ => ∃ a B e, ∃ P : List Path, ∃ i j : Nat, vs = [.ref a, .int (i : Nat), .int (j : Nat)] ∧ TaskAt K H a B e P ∧ Good B e P ∧ i < steps e ∧ j < steps e ∧ ∀ H', Same H H' → Q (.bl (rel P e i j)) H'
def spRaces (K : PySem.W.Frag) : Sp := fun vs H Q _ => ∃ a B e, ∃ P : List Path, vs = [.ref a] ∧ TaskAt K H a B e P ∧ Good B e P ∧ ∀ l zs qs H', Same H H' → H' l = some (.lst zs) → PathsV K H' zs qs → (∀ q ∈ qs, RacOk P e q) → qs.length ≤ 1000 → Q (.ref l) H'
section
variable {P : Program} {w : World} {K : PySem.W.Frag} {mg : Str → Option Value} {base : Heap}
theorem sc_steps : FnScope ["task"] ["task"] (defScope (top 37)) := ⟨rfl, rfl, rfl, by decide +kernel, rfl, by decide +kernel, by decide +kernel⟩
theorem w_steps (T : Txt K w mg) (cS : CallP P w K mg base 9 "steps_in" (spStepsIn K 5)) : CallP P w K mg base 10 "steps" (spSteps K) := by
  refine mkP (k := 9) T 14 sc_steps (fun _ _ _ _ _ _ us hl => match us, hl with | [_], _ => rfl) (fun vs H Q E h => ?_) fun cdv A outer s H vs Q E hr h => ?_
  · obtain ⟨a, B, e, P0, rfl, _⟩ := h
    rfl
  obtain ⟨a, B, e, P0, rfl, ta, gd, q⟩ := h
  have hds := gd.dp
  have hst := gd.st
  refine ⟨_, pss_one (ps_ret (pe_fn cS hr (by decide) (by rfl) (pa_cons (pe_fld (pv 0) rfl) (pa_cons (pe_fld (pv 0) rfl) (pa_cons (pe_tup pa_nil) pa_nil))))), ?_⟩
  obtain ⟨dxa, vb, ve, d, pt, owa, xs, ys, h1, h2, h3, h4, h5, h6, h7, h8⟩ := ta.ex
  refine ⟨_, rfl, a, _, dxa, _, _, rfl, h1, T.cls, T.noat, rfl, _, rfl, a, _, dxa, _, _, rfl, h1, T.cls, T.noat, rfl, z0, fun t0 ht0 => ?_⟩
  have k2 := same_new ht0 (o := .tup [])
  exact ⟨vb, ve, .ref t0, B, e, [], rfl, h2.keep (Kp.of (S := Nix) k2), h3.keep k2.tk, gd.wf, by omega, ⟨t0, rfl, upd_same⟩, by show 0 + dep e ≤ 100; omega, by omega, fun rw rs H2 s2 hrw hrs => q rw rs H2 (k2.trans s2) hrw hrs⟩
theorem sc_precedes : FnScope ["task", "one", "other", "many", "step"] ["task", "one", "other"] (defScope (top 38)) := ⟨rfl, rfl, rfl, by decide +kernel, rfl, by decide +kernel, by decide +kernel⟩
theorem w_precedes (T : Txt K w mg) (cL : MethP P w K mg base 1 (He.ga K "Task") "__len__" (spLenT K)) (cI : CallP P w K mg base 1 "is_integer" (spIsInt K)) (cP : MakeP P w K mg base 10 (He.ga K "Plan") "Plan" (spPlan K)) : CallP P w K mg base 12 "precedes" (spPrecedes K) := by
  obtain ⟨_, mL, _, FL⟩ := cL
  refine mkP (k := 11) T 15 sc_precedes (fun _ _ _ _ _ _ us hl => match us, hl with | [_, _, _], _ => rfl) (fun vs H Q E h => ?_) fun cdv A outer s H vs Q E hr h => ?_
  · obtain ⟨a, B, e, P0, i, j, rfl, _⟩ := h
    rfl
  obtain ⟨a, B, e, P0, i, j, rfl, ta, gd, hi, hj, q⟩ := h
  have hst := gd.st
  refine ⟨_, pss_cons (ps_set (i := 3) sc_precedes.nd rfl (Or.inl rfl) (pe_callB (call_lenOwn mL FL (hr.mono (by decide)) pass0) (by rfl) (T.free "len" (by decide +kernel)) PySem.boot_len (pa_cons (pv 0) pa_nil)))
    (pss_cons (ps_for PassesOwn.never rfl (pi_tup (pe_tup (pa_cons (pv 1) (pa_cons (pv 2) pa_nil)))) (pg_name (i := 4) sc_precedes.nd rfl (Or.inl rfl))
      (pss_one (ps_if (PW.pt (pw_or (pt_not (pt_val (pe_fn cI hr (by decide) (by rfl) (pa_cons (pv 4) pa_nil)))) (pw_or1 (pt_not (pt_chain op_le op_lt pe_int (pv 4) (pv 3)))))) (pss_one ps_never) pss_nil)))
    (pss_one (ps_ret (pe_cmpR op_in_seq (pv 1) (pe_ix ix_list (pe_fld (pe_mk cP hr (by decide) (by rfl) (pa_cons (pv 0) pa_nil)) rfl) (pv 2) (fun _ _ => rfl)) rfl)))), ?_⟩
  obtain ⟨dxa, vb, ve, d, pt, owa, xs, ys, h1, h2, h3, h4, h5, h6, h7, h8⟩ := ta.ex
  refine ⟨_, rfl, a, dxa, _, rfl, h1, a, B, e, P0, rfl, ta, ((steps e : Nat) : Int), rfl, by omega, by omega, ?_⟩
  refine ⟨_, rfl, _, rfl, z2, fun t ht => ?_⟩
  have s1 : Same H (upd H t (.tup [.int (i : Nat), .int (j : Nat)])) := same_new ht
  have ht1 : (upd H t (.tup [.int (i : Nat), .int (j : Nat)])) t = some (.tup [.int (i : Nat), .int (j : Nat)]) := upd_same
  generalize upd H t (.tup [.int (i : Nat), .int (j : Nat)]) = H1 at s1 ht1 ⊢
  refine ⟨t, rfl, ⟨_, SqT.of ht1⟩, for_tup (K := K) (a := t) (xs := [.int (i : Nat), .int (j : Nat)]) (fun n σ H' => ∃ o : Option V, σ = [some (.ref a), some (.int (i : Nat)), some (.int (j : Nat)), some (.int ((steps e : Nat) : Int)), o] ∧ H' = H1) ⟨none, rfl, rfl⟩ (fun n σ H' _ ⟨_, _, e⟩ => SqT.of (by rw [e]; exact ht1)) ?_ ?_⟩
  · rintro n v σ H2 hv ⟨o, rfl, rfl⟩
    have hm : ∃ k : Nat, v = .int (k : Nat) ∧ k < steps e := by
      rcases n with _ | _ | n
      · exact ⟨i, by simpa using hv.symm, hi⟩
      · exact ⟨j, by simpa using hv.symm, hj⟩
      · simp at hv
    obtain ⟨k, rfl, hk⟩ := hm
    refine ⟨_, rfl, _, rfl, .inl ⟨_, rfl, _, rfl, iteF ?_⟩⟩
    refine ⟨_, rfl, _, _, rfl, rfl, _, rfl, ?_⟩
    rw [decide_eq_true (by omega)]
    refine iteT ⟨_, rfl, _, _, rfl, rfl, _, rfl, ?_⟩
    rw [decide_eq_true (by omega)]
    exact iteF ⟨_, rfl, rfl⟩
  rintro σ H2 ⟨o, rfl, rfl⟩
  refine ⟨_, rfl, _, rfl, fun x dx hx hdx hne => ⟨x, dx, a, B, e, P0, H2, rfl, upd_same, made hx hdx, hx, ta.keep s1, gd, fun H3 rw ah op ow rc las zs qs s3 hp hah hln hl hrc hzs hqs hql => ⟨rfl, ?_⟩⟩⟩
  have hlj : j < las.length := by omega
  have gl := List.getElem?_eq_getElem hlj
  refine ⟨x, _, dx, _, _, rfl, hp, T.cls, T.noat, rfl, _, rfl, ah, _, _, _, rfl, rfl, SqL.of hah, atI_nat (j := j) (by rw [List.getElem?_map, gl]; rfl), las[j], _, rfl, .inl (SqL.of (hl j _ gl)), rfl, told_flat _ _ _ _, ?_⟩
  rw [inV_told]
  exact q _ (s1.trans s3)
theorem sc_races : FnScope ["task"] ["task"] (defScope (top 39)) := ⟨rfl, rfl, rfl, by decide +kernel, rfl, by decide +kernel, by decide +kernel⟩
theorem w_races (T : Txt K w mg) (cP : MakeP P w K mg base 10 (He.ga K "Plan") "Plan" (spPlan K)) : CallP P w K mg base 12 "races" (spRaces K) := by
  refine mkP (k := 11) T 16 sc_races (fun _ _ _ _ _ _ us hl => match us, hl with | [_], _ => rfl) (fun vs H Q E h => ?_) fun cdv A outer s H vs Q E hr h => ?_
  · obtain ⟨a, B, e, P0, rfl, _⟩ := h
    rfl
  obtain ⟨a, B, e, P0, rfl, ta, gd, q⟩ := h
  refine ⟨_, pss_one (ps_ret (pe_callTy call_list_of (by rfl) (T.free "list" (by decide +kernel)) (by decide +kernel) (pa_cons (pe_fld (pe_mk cP hr (by decide) (by rfl) (pa_cons (pv 0) pa_nil)) rfl) pa_nil))), ?_⟩
  refine ⟨_, rfl, fun x dx hx hdx hne => ⟨x, dx, a, B, e, P0, H, rfl, upd_same, made hx hdx, hx, ta, gd, fun H3 rw ah op ow rc las zs qs s3 hp hah hln hl hrc hzs hqs hql => ⟨rfl, ?_⟩⟩⟩
  refine ⟨x, _, dx, _, _, rfl, hp, T.cls, T.noat, rfl, rc, zs, rfl, .inl (SqL.of hrc), fun l hl2 => ?_⟩
  exact q l zs qs _ (s3.nw hl2) upd_same (Paired.mapP hzs fun _ _ ⟨b, e1, e2⟩ => ⟨b, e1, L2.Same.sqt (same_new hl2) e2⟩) hqs hql
end
end Oo

set_option Elab.async false
set_option linter.all false
set_option maxRecDepth 100000
set_option maxHeartbeats 4000000
/-! The law's bag. -/
namespace Oo
open PySem PySem.Spec PyProof.Rows L2
def spBag (K : PySem.W.Frag) : Sp := fun vs H Q _ => ∃ (a : Addr) (ns : List Int) (i : Nat), vs = [.ref a, .int (i : Nat)] ∧ SqL K H a (ns.map V.int) ∧ ns.length ≤ 63 ∧ i ≤ 1000 ∧ ∀ b H', Same H H' → H b = none → BagAt H' b 0 → Q (.ref b) H'
theorem posM : (0 : Int) < 2305843009213693951 := by decide
theorem posP : (0 : Int) < 2305843009213693921 := by decide
def lim : Nat := 100000000
def spTake : Sp := fun vs H Q _ => ∃ (b : Addr) (n : Int) (c : Nat), vs = [.ref b, .int n] ∧ 0 < n ∧ n ≤ 1000000 ∧ BagAt H b c ∧ c < lim ∧ ∀ k H', 0 ≤ k → k < n → Kp (One b) H H' → BagAt H' b (c + 1) → Q (.int k) H'
def spOf (K : PySem.W.Frag) : Sp := fun vs H Q _ => ∃ (b p : Addr) (xs : List V) (c : Nat), vs = [.ref b, .ref p] ∧ H p = some (.lst xs) ∧ p ≠ b ∧ xs ≠ [] ∧ xs.length ≤ 100 ∧ BagAt H b c ∧ c < lim ∧ ∀ y H', y ∈ xs → Kp (One b) H H' → BagAt H' b (c + 1) → Q y H'
section
variable {P : Program} {w : World} {K : PySem.W.Frag} {mg : Str → Option Value} {base : Heap}
theorem sc_bag : FnScope ["_law_script", "_law_at", "_law_cell", "_law_digits"] ["_law_script", "_law_at"] (defScope (top 52)) := ⟨rfl, rfl, rfl, by decide +kernel, rfl, by decide +kernel, by decide +kernel⟩
theorem w_bag (T : Txt K w mg) : CallP P w K mg base 1 "_law_bag" (spBag K) := by
  refine mkP T 28 sc_bag (fun _ _ _ _ _ _ us hl => match us, hl with | [_, _], _ => rfl) (fun vs H Q E h => ?_) fun cdv A outer s H vs Q E hr h => ?_
  · obtain ⟨a, ns, i, rfl, _⟩ := h
    rfl
  obtain ⟨a, ns, i, rfl, ha, hn, hi, q⟩ := h
  refine ⟨_, pss_cons (ps_set (i := 2) sc_bag.nd rfl (Or.inl rfl) (pe_ifExp (pt_cmpR op_lt (pv 1) (pe_callB call_len_seq (by rfl) (T.free "len" (by decide +kernel)) PySem.boot_len (pa_cons (pv 0) pa_nil)) (nomark _)) (pe_callTy call_int1 (by rfl) (T.free "int" (by decide +kernel)) (by decide +kernel) (pa_cons (pe_ix ix_list (pv 0) (pv 1) (fun _ _ => rfl)) pa_nil)) pe_int))
    (pss_cons (ps_set (i := 3) sc_bag.nd rfl (Or.inl rfl) (pe_ifExp (pt_cmpR op_ge (pe_callB call_abs (by rfl) (T.free "abs" (by decide +kernel)) (by decide +kernel) (pa_cons (pv 2) pa_nil)) (pe_op op_pow pe_int pe_int) (nomark _)) (pe_callB call_abs (by rfl) (T.free "abs" (by decide +kernel)) (by decide +kernel) (pa_cons (pv 2) pa_nil)) pe_int))
    (pss_one (ps_ret (pe_lst (pa_cons (pv 3) (pa_cons (pe_op op_mod (pe_op op_mul (pe_callTy call_int1 (by rfl) (T.free "int" (by decide +kernel)) (by decide +kernel) (pa_cons (pe_op op_add (pe_op op_add (pe_op op_mod (pv 2) pe_int) (pe_op op_mul pe_int (pv 1))) pe_int) pa_nil)) pe_int) pe_int) (pa_cons pe_int pa_nil))))))), ?_⟩
  have z3 : (3 : Nat) ≤ sizeLine := by decide
  refine ⟨_, rfl, _, rfl, a, _, rfl, .inl ha, _, _, rfl, rfl, _, rfl, ?_⟩
  refine ite2 (fun h1 => ?_) (fun h1 => ?_)
  case' refine_1 =>
    have h2 : i < ns.length := by
      have h3 := of_decide_eq_true h1
      rw [List.length_map] at h3
      omega
    refine ⟨_, rfl, _, rfl, a, _, _, _, rfl, rfl, ha, atI_nat (show (ns.map V.int)[i]? = some (.int ns[i]) by rw [List.getElem?_map, List.getElem?_eq_getElem h2]; rfl), .inl ⟨ns[i], rfl, ?_⟩⟩
  all_goals
    refine ⟨_, rfl, _, rfl, _, _, rfl, rfl, ⟨by decide, by decide, by decide⟩, _, _, rfl, rfl, _, rfl, ite2 (fun h4 => ?_) (fun h4 => ?_)⟩
  case' refine_1.refine_1 => refine ⟨_, rfl, _, rfl, ?_⟩
  case' refine_2.refine_1 => refine ⟨_, rfl, _, rfl, ?_⟩
  all_goals
    refine ⟨_, rfl, _, rfl, _, _, rfl, rfl, posM, _, rfl, _, _, rfl, rfl, .inl ⟨by decide, by decide⟩, _, _, rfl, rfl, _, _, rfl, rfl, .inl ⟨_, rfl, _, _, rfl, rfl, .inr ⟨by decide, by decide⟩, _, _, rfl, rfl, posM, z3, fun b hb => q b _ (same_new hb) hb ⟨_, _, 0, upd_same, ?_, Int.emod_nonneg _ (by decide), Int.lt_trans (Int.emod_lt_of_pos _ (by decide)) (by decide), Int.le_refl _, by decide⟩⟩⟩
    first
    | exact Int.le_refl _
    | (split <;> omega)
theorem sc_take : FnScope ["_law_bag_here", "_law_many", "_law_digit", "_law_mixed"] ["_law_bag_here", "_law_many"] (defScope (top 53)) := ⟨rfl, rfl, rfl, by decide +kernel, rfl, by decide +kernel, by decide +kernel⟩
theorem w_take (T : Txt K w mg) : CallP P w K mg base 1 "_law_take" spTake := by
  refine mkP T 29 sc_take (fun _ _ _ _ _ _ us hl => match us, hl with | [_, _], _ => rfl) (fun vs H Q E h => ?_) fun cdv A outer s H vs Q E hr h => ?_
  · obtain ⟨b, n, c, rfl, _⟩ := h
    rfl
  obtain ⟨b, n, c, rfl, hn, hn2, hb, hc, q⟩ := h
  refine ⟨_, pss_cons (ps_if (pt_cmpR op_gt (pe_ix ix_list (pv 0) pe_int (fun _ _ => rfl)) pe_int (nomark _))
      (pss_cons (ps_set (i := 2) sc_take.nd rfl (Or.inl rfl) (pe_op op_mod (pe_callTy call_int1 (by rfl) (T.free "int" (by decide +kernel)) (by decide +kernel) (pa_cons (pe_ix ix_list (pv 0) pe_int (fun _ _ => rfl)) pa_nil)) (pv 1)))
      (pss_cons (ps_asg (pe_op op_fdiv (pe_ix ix_list (pv 0) pe_int (fun _ _ => rfl)) (pv 1)) (pg_sub (pv 0) pe_int set_list))
      (pss_one (ps_ret (pv 2))))) pss_nil)
    (pss_cons (ps_asg (pe_op op_add (pe_ix ix_list (pv 0) pe_int (fun _ _ => rfl)) pe_int) (pg_sub (pv 0) pe_int set_list))
    (pss_cons (ps_set (i := 3) sc_take.nd rfl (Or.inl rfl) (pe_op op_mod (pe_op op_pow (pe_callTy call_int1 (by rfl) (T.free "int" (by decide +kernel)) (by decide +kernel) (pa_cons (pe_op op_add (pe_ix ix_list (pv 0) pe_int (fun _ _ => rfl)) (pe_op op_mul pe_int (pe_ix ix_list (pv 0) pe_int (fun _ _ => rfl)))) pa_nil)) pe_int) pe_int))
    (pss_cons (ps_set (i := 3) sc_take.nd rfl (Or.inl rfl) (pe_op op_mod (pe_op op_pow (pe_callTy call_int1 (by rfl) (T.free "int" (by decide +kernel)) (by decide +kernel) (pa_cons (pe_op op_add (pv 3) (pe_op op_mul pe_int (pe_ix ix_list (pv 0) pe_int (fun _ _ => rfl)))) pa_nil)) pe_int) pe_int))
    (pss_one (ps_ret (pe_op op_mod (pe_op op_fdiv (pv 3) pe_int) (pv 1))))))), ?_⟩
  obtain ⟨d, m, k, h1, hd, hm, hm2, hk, hkc⟩ := hb
  have hc' : c < 100000000 := hc
  refine ⟨_, rfl, b, _, _, _, rfl, rfl, SqL.of h1, atI_nat (j := 0) rfl, _, _, rfl, rfl, _, rfl, ite2 (fun h2 => ?_) (fun h2 => ?_)⟩
  · refine ⟨_, rfl, b, _, _, _, rfl, rfl, SqL.of h1, atI_nat (j := 0) rfl, .inl ⟨_, rfl, _, rfl, _, _, rfl, rfl, hn, ?_⟩⟩
    refine ⟨_, rfl, b, _, _, _, rfl, rfl, SqL.of h1, atI_nat (j := 0) rfl, _, rfl, _, _, rfl, rfl, ⟨hn, by omega⟩, _, rfl, b, _, 0, 0, rfl, rfl, h1, rfl, _, rfl, ?_⟩
    exact q _ _ (Int.emod_nonneg _ (by omega)) (Int.emod_lt_of_pos _ hn) ((Kp.rfl _ _).set rfl h1) ⟨d / n, m, k, upd_same, Int.ediv_nonneg hd (by omega), hm, hm2, hk, by omega⟩
  · refine ⟨_, rfl, b, _, _, _, rfl, rfl, SqL.of h1, atI_nat (j := 2) rfl, _, _, rfl, rfl, _, rfl, b, _, 2, 2, rfl, rfl, h1, rfl, ?_⟩
    have kp : Kp (One b) H (upd H b (.lst [.int d, .int m, .int (k + 1)])) := (Kp.rfl _ _).set rfl h1
    have h3 : (upd H b (.lst [.int d, .int m, .int (k + 1)])) b = some (.lst [.int d, .int m, .int (k + 1)]) := upd_same
    rw [show ([V.int d, .int m, .int k] : List V).set 2 (.int (k + 1)) = [.int d, .int m, .int (k + 1)] from rfl]
    generalize upd H b (.lst [.int d, .int m, .int (k + 1)]) = H1 at kp h3 ⊢
    refine ⟨_, rfl, b, _, _, _, rfl, rfl, SqL.of h3, atI_nat (j := 1) rfl, _, rfl, b, _, _, _, rfl, rfl, SqL.of h3, atI_nat (j := 2) rfl, _, _, rfl, rfl, .inl ⟨by decide, by decide⟩, _, _, rfl, rfl, .inl ⟨_, rfl, _, _, rfl, rfl, ⟨by decide, by decide, by omega⟩, _, _, rfl, rfl, posP, ?_⟩⟩
    generalize ((m + 2654435761 * (k + 1)) ^ (3 : Int).toNat) = x1
    have y1 := Int.emod_nonneg x1 (show (2305843009213693921 : Int) ≠ 0 by decide)
    have y2 := Int.emod_lt_of_pos x1 (show (0 : Int) < 2305843009213693921 by decide)
    generalize x1 % 2305843009213693921 = x2 at y1 y2 ⊢
    refine ⟨_, rfl, _, rfl, b, _, _, _, rfl, rfl, SqL.of h3, atI_nat (j := 2) rfl, _, _, rfl, rfl, .inl ⟨by decide, by decide⟩, _, _, rfl, rfl, .inl ⟨_, rfl, _, _, rfl, rfl, ⟨by decide, by decide, by omega⟩, _, _, rfl, rfl, posM, ?_⟩⟩
    refine ⟨_, rfl, _, _, rfl, rfl, ⟨by decide, by decide⟩, _, rfl, _, _, rfl, rfl, hn, ?_⟩
    exact q _ _ (Int.emod_nonneg _ (by omega)) (Int.emod_lt_of_pos _ hn) kp ⟨d, m, k + 1, h3, hd, hm, hm2, by omega, by omega⟩
theorem sc_of : FnScope ["_law_bag_here", "_law_items"] ["_law_bag_here", "_law_items"] (defScope (top 54)) := ⟨rfl, rfl, rfl, by decide +kernel, rfl, by decide +kernel, by decide +kernel⟩
theorem w_of (T : Txt K w mg) (cT : CallP P w K mg base 1 "_law_take" spTake) : CallP P w K mg base 2 "_law_of" (spOf K) := by
  refine mkP (k := 1) T 30 sc_of (fun _ _ _ _ _ _ us hl => match us, hl with | [_, _], _ => rfl) (fun vs H Q E h => ?_) fun cdv A outer s H vs Q E hr h => ?_
  · obtain ⟨b, p, xs, c, rfl, _⟩ := h
    rfl
  obtain ⟨b, p, xs, c, rfl, hp, hne, hxs, hxl, hb, hc, q⟩ := h
  have hpos := List.length_pos_iff.mpr hxs
  refine ⟨_, pss_one (ps_ret (pe_ix ix_list (pv 1) (pe_fn cT hr (by decide) (by rfl) (pa_cons (pv 0) (pa_cons (pe_callB call_len_seq (by rfl) (T.free "len" (by decide +kernel)) PySem.boot_len (pa_cons (pv 1) pa_nil)) pa_nil))) (fun _ _ => rfl))), ?_⟩
  refine ⟨_, rfl, _, rfl, _, rfl, p, xs, rfl, .inl (SqL.of hp), b, xs.length, c, rfl, by omega, by omega, hb, hc, fun k H' k0 kn kp hb' => ?_⟩
  obtain ⟨j, rfl⟩ := Int.eq_ofNat_of_zero_le k0
  have hj : j < xs.length := by omega
  have gj := List.getElem?_eq_getElem hj
  exact ⟨p, xs, _, _, rfl, rfl, SqL.of (kp.at hp hne), atI_nat gj, q _ _ (List.mem_of_getElem? gj) kp hb'⟩
end
end Oo

set_option Elab.async false
set_option linter.all false
set_option maxRecDepth 100000
set_option maxHeartbeats 4000000
/-! The law's kit and book. -/
namespace Oo
open PySem PySem.Spec PyProof.Rows L2
theorem str_inj {x y : Str} (h : x.cps.toList = y.cps.toList) : x = y := by
  cases x; cases y
  congr 1
  exact Array.toList_inj.mp h
theorem lt_of_not {x p : Str} (h : ltCps x.cps.toList p.cps.toList = false) (hne : p ≠ x) : ltS p x := by
  rw [PyProof.Rows.ltCps_eq, decide_eq_false_iff_not] at h
  by_cases z : p.cps.toList < x.cps.toList
  · exact z
  · exact absurd (str_inj (List.le_antisymm (List.not_lt.mp h) (List.not_lt.mp z))) hne
theorem up_from : ∀ {l : List Str} {p : Str}, risingS p l = true → (p :: l).Nodup → (p :: l).Pairwise ltS
  | [], p, _, _ => List.pairwise_singleton _ _
  | x :: r, p, h, hn => by
    unfold risingS at h
    rw [Bool.and_eq_true, Bool.not_eq_true'] at h
    obtain ⟨h1, h2⟩ := List.nodup_cons.mp hn
    have ih := up_from h.2 h2
    have px : ltS p x := lt_of_not h.1 fun e => h1 (by rw [e]; exact List.mem_cons_self)
    refine List.pairwise_cons.mpr ⟨fun y hy => ?_, ih⟩
    rcases List.mem_cons.mp hy with z | z
    · rw [z]; exact px
    · exact List.lt_trans px ((List.pairwise_cons.mp ih).1 y z)
theorem up_of {l : List Str} (h : sortedS l = true) (hn : l.Nodup) : l.Pairwise ltS := by
  cases l with
  | nil => exact .nil
  | cons x r => exact up_from h hn
theorem kp_set {S : Addr → Prop} {H H1 : Hp} {p : Addr} {o : HO} (x : Kp S H H1) (h : H p = none) : Kp S H (upd H1 p o) := fun a u e => by rw [upd_ne (ne_of_none e h)]; exact x a u e
theorem BagAt.ne {H : Hp} {b D : Addr} {c : Nat} (h : BagAt H b c) (hD : H D = none) : b ≠ D := fun z => by
  obtain ⟨d, m, k, h1, _⟩ := h
  rw [z, hD] at h1
  cases h1
theorem BagAt.has {H : Hp} {b : Addr} {c : Nat} (h : BagAt H b c) : H b ≠ none := fun z => by
  obtain ⟨d, m, k, h1, _⟩ := h
  rw [z] at h1
  cases h1
theorem BagAt.set {H : Hp} {b p : Addr} {o : HO} {c : Nat} (h : BagAt H b c) (n : b ≠ p) : BagAt (upd H p o) b c := by
  obtain ⟨d, m, k, h1, r⟩ := h
  exact ⟨d, m, k, by rw [upd_ne n]; exact h1, r⟩
theorem BagAt.kp {S : Addr → Prop} {H H' : Hp} {b : Addr} {c : Nat} (h : BagAt H b c) (k : Kp S H H') (n : ¬ S b) : BagAt H' b c := by
  obtain ⟨d, m, j, h1, r⟩ := h
  exact ⟨d, m, j, k.at h1 n, r⟩
def spSome (K : PySem.W.Frag) : Sp := fun vs H Q _ => ∃ (b p : Addr) (ss : List Str) (c : Nat), vs = [.ref b, .ref p] ∧ H p = some (.lst (ss.map V.str)) ∧ p ≠ b ∧ ss.length ≤ 4 ∧ ss.Nodup ∧ (∀ s ∈ ss, goodN s = true) ∧ BagAt H b c ∧ c + 10 ≤ lim ∧
  ∀ t rs H', Kp (One b) H H' → H' t = some (.tup (rs.map V.str)) → Plc rs → BagAt H' b (c + 4) → Q (.ref t) H'
section
variable {P : Program} {w : World} {K : PySem.W.Frag} {mg : Str → Option Value} {base : Heap}
abbrev smN : List Str := ["_law_bag_here", "_law_items", "_law_one"]
theorem sc_some : FnScope smN ["_law_bag_here", "_law_items"] (defScope (top 55)) := ⟨rfl, rfl, rfl, by decide +kernel, rfl, by decide +kernel, by decide +kernel⟩
theorem w_some (T : Txt K w mg) (cT : CallP P w K mg base 1 "_law_take" spTake) : CallP P w K mg base 2 "_law_some" (spSome K) := by
  refine mkP (k := 1) T 31 sc_some (fun _ _ _ _ _ _ us hl => match us, hl with | [_, _], _ => rfl) (fun vs H Q E h => ?_) fun cdv A outer s H vs Q E hr h => ?_
  · obtain ⟨b, p, ss, c, rfl, _⟩ := h
    rfl
  obtain ⟨b, p, ss, c, rfl, hp, hne, hl, hnd, hgd, hb, hc, q⟩ := h
  have hz : (1000 : Nat) < sizeLine := by decide
  refine ⟨_, pss_one (ps_ret (pe_callTy call_tuple_of (by rfl) (T.free "tuple" (by decide +kernel)) (by decide +kernel) (pa_cons (pe_callB cr_sortedS (by rfl) (T.free "sorted" (by decide +kernel)) (by decide +kernel) (pa_cons (pe_lc (own := [("_law_one", 2)]) (g := gName 2) rfl sc_some.nd (pi_list (pv 1)) (blkOk_by (N := smN) (sc := defScope (top 55)) (by decide +kernel))
    (fun _ _ _ _ _ => pg_name (i := 2) sc_some.nd rfl (Or.inl rfl)) (fun _ _ _ _ _ => pts_one (pt_cmpR op_eq (pe_fn cT hr (by decide) (by rfl) (pa_cons (pv 0) (pa_cons pe_int pa_nil))) pe_int (nomark _))) (fun _ _ _ _ _ => pv 2)) pa_nil)) pa_nil))), ?_⟩
  refine ⟨_, rfl, p, rfl, ⟨_, SqL.of hp⟩, fun D hD => lc_gen (One b) ss.length (fun i acc H' => ∃ rs : List Str, acc = rs.map V.str ∧ rs.Sublist (ss.take i) ∧ BagAt H' b (c + i)) hD (fun a h => by rw [show a = b from h]; exact hb.has) (fun H' s => ⟨[], rfl, List.nil_sublist _, hb.same s⟩)
    (fun i acc H' H'' ⟨rs, e1, e2, e3⟩ k => ⟨rs, e1, e2, e3.kp k (hb.ne hD)⟩) (fun i acc H' hi ⟨rs, e1, e2, _⟩ => ?_) (fun i H' hi k => ⟨_, _, SqL.of (k.at hp hne), List.getElem?_eq_getElem (by rw [List.length_map]; exact hi)⟩) (fun H' k => ⟨_, SqL.of (k.at hp hne), by rw [List.length_map]; exact Nat.le_refl _⟩) ?_ ?_⟩
  · have := e2.length_le
    rw [List.length_take] at this
    rw [e1, List.length_map]
    omega
  · rintro i acc x H2 H3 N1 N0 n1 n0 hi k ⟨rs, rfl, hsub, hb2⟩ ⟨rfl, hx⟩
    have gx := hx _ (SqL.of (k.at hp hne))
    rw [List.getElem?_map, List.getElem?_eq_getElem hi] at gx
    obtain rfl := Option.some.inj gx
    have tk : ss.take (i + 1) = ss.take i ++ [ss[i]] := by rw [List.take_add_one, List.getElem?_eq_getElem hi]; rfl
    have hcl : c + i < lim := by omega
    refine ⟨rfl, _, rfl, b, 2, c + i, rfl, by decide, by decide, hb2, hcl, fun z H4 z0 z2 kp hb4 => ⟨rfl, _, rfl, ite2 (fun _ => ⟨_, rfl, n1 _ _ kp ⟨rs ++ [ss[i]], by rw [List.map_append]; rfl, ?_, hb4⟩⟩) (fun _ => n0 _ kp ⟨rs, rfl, ?_, hb4⟩)⟩⟩
    · rw [tk]
      exact List.Sublist.append hsub (List.Sublist.refl _)
    · rw [tk]
      exact hsub.trans (List.sublist_append_left _ _)
  · rintro H2 acc k e2 ⟨rs, rfl, hsub, hb2⟩
    rw [List.take_of_length_le (Nat.le_refl _)] at hsub
    have hrl := hsub.length_le
    refine ⟨D, rs, rfl, SqL.of e2, by omega, fun ys pl perm srt hpl => ⟨pl, _, rfl, .inl ⟨SqL.of upd_same, fun t ht => ?_⟩⟩⟩
    have nb := hb2.ne hpl
    have hb3 : BagAt (upd H2 pl (.lst (ys.map V.str))) b (c + ss.length) := hb2.set nb
    refine q t ys _ ((k.new hpl).new ht) upd_same ⟨by rw [perm.length_eq]; omega, fun s hs => hgd s (hsub.subset (perm.mem_iff.mp hs)), up_of srt (perm.nodup_iff.mpr (hnd.sublist hsub))⟩ ((hb3.set (hb3.ne ht)).mono (by omega))
/-! the kit -/
def FnRow (H : Hp) (x : V) (f : Fd) : Prop := ∃ t ra sa, x = .ref t ∧ H t = some (.tup [.str f.nm, .int (f.n : Nat), .ref ra, .ref sa]) ∧ H ra = some (.tup (f.rs.map V.str)) ∧ H sa = some (.tup (f.ss.map V.str))
theorem FnRow.keep {H H' : Hp} {x : V} {f : Fd} (t : TupK H H') (h : FnRow H x f) : FnRow H' x f := let ⟨a, ra, sa, e, h1, h2, h3⟩ := h; ⟨a, ra, sa, e, t _ _ h1, t _ _ h2, t _ _ h3⟩
def FdOk (f : Fd) : Prop := goodN f.nm = true ∧ f.n ≤ 3 ∧ Plc f.rs ∧ Plc f.ss
structure KitAt (S : Addr → Prop) (H : Hp) (v : V) (ps : List Str) (B : List Fd) (g : Bool) : Prop where
  ex : ∃ d lp lf fs, v = .ref d ∧ H d = some (.dK [(Sum.inr "places", .ref lp), (Sum.inr "functions", .ref lf), (Sum.inr "guards", .bl g)]) ∧ H lp = some (.lst (ps.map V.str)) ∧ ¬ S lp ∧ H lf = some (.lst fs) ∧ ¬ S lf ∧ Paired (FnRow H) fs B
  ps : ps ≠ [] ∧ ps.length ≤ 4 ∧ ∀ s ∈ ps, goodN s = true
  fns : (B.map (·.nm)).Nodup ∧ B.length ≤ 3 ∧ ∀ f ∈ B, FdOk f
theorem KitAt.keep {S : Addr → Prop} {H H' : Hp} {v : V} {ps : List Str} {B : List Fd} {g : Bool} (x : KitAt S H v ps B g) (k : Kp S H H') : KitAt S H' v ps B g :=
  let ⟨d, lp, lf, fs, e, h1, h2, h3, h4, h5, h6⟩ := x.ex
  ⟨⟨d, lp, lf, fs, e, k.dK h1, k.at h2 h3, h3, k.at h4 h5, h5, Paired.mapP h6 fun _ _ z => z.keep k.tk⟩, x.ps, x.fns⟩
theorem KitAt.two {b l : Addr} {H : Hp} {v : V} {ps : List Str} {B : List Fd} {g : Bool} (x : KitAt (One b) H v ps B g) (h : H l = none) : KitAt (Two b l) H v ps B g :=
  let ⟨d, lp, lf, fs, e, h1, h2, h3, h4, h5, h6⟩ := x.ex
  ⟨⟨d, lp, lf, fs, e, h1, h2, fun z => (show lp = b ∨ lp = l from z).elim h3 (fun w => by rw [w, h] at h2; cases h2), h4, fun z => (show lf = b ∨ lf = l from z).elim h5 (fun w => by rw [w, h] at h4; cases h4), h6⟩, x.ps, x.fns⟩
def poolsL : List (List Str) := [["x", "y", "z", "w"], ["a", "aa", "aaa", "aaaaaaaa"], ["f", "g", "h", "x"], ["zb", "zc", "b", "c"]]
def namesL : List (List Str) := [["f", "g", "h"], ["a", "ab", "abcdefgh"], ["x", "f", "zz"]]
theorem pools_ok : ∀ ps ∈ poolsL, ps.length = 4 ∧ ps.Nodup ∧ ∀ s ∈ ps, goodN s = true := by decide +kernel
theorem names_ok : ∀ ps ∈ namesL, ps.length = 3 ∧ ps.Nodup ∧ ∀ s ∈ ps, goodN s = true := by decide +kernel
def spKit (K : PySem.W.Frag) : Sp := fun vs H Q _ => ∃ (b : Addr) (g : Bool) (c : Nat), vs = [.ref b, .bl g] ∧ BagAt H b c ∧ c + 100 ≤ lim ∧ ∀ v ps B H', Kp (One b) H H' → KitAt (One b) H' v ps B g → BagAt H' b (c + 60) → Q v H'
abbrev ktN : List Str := ["_law_bag_here", "_law_guards", "_law_pools", "_law_places", "_law_names", "_law_functions", "_law_name"]
theorem sc_kit : FnScope ktN ["_law_bag_here", "_law_guards"] (defScope (top 56)) := ⟨rfl, rfl, rfl, by decide +kernel, rfl, by decide +kernel, by decide +kernel⟩
theorem four {H : Hp} {p1 p2 p3 p4 pp : Addr} {o1 o2 o3 o4 : HO} (o5 : HO) (h1 : H p1 = none) (h2 : (upd H p1 o1) p2 = none) (h3 : (upd (upd H p1 o1) p2 o2) p3 = none) (h4 : (upd (upd (upd H p1 o1) p2 o2) p3 o3) p4 = none) (h5 : (upd (upd (upd (upd H p1 o1) p2 o2) p3 o3) p4 o4) pp = none) :
    ∃ HF, HF = upd (upd (upd (upd (upd H p1 o1) p2 o2) p3 o3) p4 o4) pp o5 ∧ Same H HF ∧ HF p1 = some o1 ∧ HF p2 = some o2 ∧ HF p3 = some o3 ∧ HF p4 = some o4 ∧ HF pp = some o5 ∧ H p2 = none ∧ H p3 = none ∧ H p4 = none ∧ H pp = none := by
  have s1 : Same H (upd H p1 o1) := same_new h1
  have s2 : Same (upd H p1 o1) (upd (upd H p1 o1) p2 o2) := same_new h2
  have s3 : Same (upd (upd H p1 o1) p2 o2) (upd (upd (upd H p1 o1) p2 o2) p3 o3) := same_new h3
  have s4 : Same (upd (upd (upd H p1 o1) p2 o2) p3 o3) (upd (upd (upd (upd H p1 o1) p2 o2) p3 o3) p4 o4) := same_new h4
  have s5 : Same (upd (upd (upd (upd H p1 o1) p2 o2) p3 o3) p4 o4) (upd (upd (upd (upd (upd H p1 o1) p2 o2) p3 o3) p4 o4) pp o5) := same_new h5
  exact ⟨_, rfl, s1.trans (s2.trans (s3.trans (s4.trans s5))), s5 _ _ (s4 _ _ (s3 _ _ (s2 _ _ upd_same))), s5 _ _ (s4 _ _ (s3 _ _ upd_same)), s5 _ _ (s4 _ _ upd_same), s5 _ _ upd_same, upd_same, s1.free h2, (s1.trans s2).free h3, (s1.trans (s2.trans s3)).free h4, (s1.trans (s2.trans (s3.trans s4))).free h5⟩
theorem three {H : Hp} {p1 p2 p3 pp : Addr} {o1 o2 o3 : HO} (o5 : HO) (h1 : H p1 = none) (h2 : (upd H p1 o1) p2 = none) (h3 : (upd (upd H p1 o1) p2 o2) p3 = none) (h5 : (upd (upd (upd H p1 o1) p2 o2) p3 o3) pp = none) :
    ∃ HF, HF = upd (upd (upd (upd H p1 o1) p2 o2) p3 o3) pp o5 ∧ Same H HF ∧ HF p1 = some o1 ∧ HF p2 = some o2 ∧ HF p3 = some o3 ∧ HF pp = some o5 ∧ H p2 = none ∧ H p3 = none ∧ H pp = none := by
  have s1 : Same H (upd H p1 o1) := same_new h1
  have s2 : Same (upd H p1 o1) (upd (upd H p1 o1) p2 o2) := same_new h2
  have s3 : Same (upd (upd H p1 o1) p2 o2) (upd (upd (upd H p1 o1) p2 o2) p3 o3) := same_new h3
  have s5 : Same (upd (upd (upd H p1 o1) p2 o2) p3 o3) (upd (upd (upd (upd H p1 o1) p2 o2) p3 o3) pp o5) := same_new h5
  exact ⟨_, rfl, s1.trans (s2.trans (s3.trans s5)), s5 _ _ (s3 _ _ (s2 _ _ upd_same)), s5 _ _ (s3 _ _ upd_same), s5 _ _ upd_same, upd_same, s1.free h2, (s1.trans s2).free h3, (s1.trans (s2.trans s3)).free h5⟩
theorem w_kit (T : Txt K w mg) (cT : CallP P w K mg base 1 "_law_take" spTake) (cO : CallP P w K mg base 2 "_law_of" (spOf K)) (cS : CallP P w K mg base 2 "_law_some" (spSome K)) : CallP P w K mg base 3 "_law_kit" (spKit K) := by
  refine mkP (k := 2) T 32 sc_kit (fun _ _ _ _ _ _ us hl => match us, hl with | [_, _], _ => rfl) (fun vs H Q E h => ?_) fun cdv A outer s H vs Q E hr h => ?_
  · obtain ⟨b, g, c, rfl, _⟩ := h
    rfl
  obtain ⟨b, g, c, rfl, hb, hc, q⟩ := h
  have hz : (1000 : Nat) < sizeLine := by decide
  have hlim : lim = 100000000 := rfl
  refine ⟨_, pss_cons (ps_set (i := 2) sc_kit.nd rfl (Or.inl rfl) (pe_lst (pa_cons (pe_lst (pa_cons pe_str (pa_cons pe_str (pa_cons pe_str (pa_cons pe_str pa_nil))))) (pa_cons (pe_lst (pa_cons pe_str (pa_cons pe_str (pa_cons pe_str (pa_cons pe_str pa_nil))))) (pa_cons (pe_lst (pa_cons pe_str (pa_cons pe_str (pa_cons pe_str (pa_cons pe_str pa_nil))))) (pa_cons (pe_lst (pa_cons pe_str (pa_cons pe_str (pa_cons pe_str (pa_cons pe_str pa_nil))))) pa_nil))))))
    (pss_cons (ps_set (i := 3) sc_kit.nd rfl (Or.inl rfl) (pe_fn cO hr (by decide) (by rfl) (pa_cons (pv 0) (pa_cons (pv 2) pa_nil))))
    (pss_cons (ps_set (i := 4) sc_kit.nd rfl (Or.inl rfl) (pe_fn cO hr (by decide) (by rfl) (pa_cons (pv 0) (pa_cons (pe_lst (pa_cons (pe_lst (pa_cons pe_str (pa_cons pe_str (pa_cons pe_str pa_nil)))) (pa_cons (pe_lst (pa_cons pe_str (pa_cons pe_str (pa_cons pe_str pa_nil)))) (pa_cons (pe_lst (pa_cons pe_str (pa_cons pe_str (pa_cons pe_str pa_nil)))) pa_nil)))) pa_nil))))
    (pss_cons (ps_set (i := 5) sc_kit.nd rfl (Or.inl rfl) (pe_lst pa_nil))
    (pss_cons (ps_for PassesOwn.never rfl (pi_list (pe_slice sl_list (pv 4) po_none (po_some (pe_fn cT hr (by decide) (by rfl) (pa_cons (pv 0) (pa_cons pe_int pa_nil)))))) (pg_name (i := 6) sc_kit.nd rfl (Or.inl rfl))
      (pss_one (ps_expr (pe_bm PySem.F.plainAttrs_list PySem.F.slot_list_append PySem.F.type_list_append mt_append (pv 5) (pa_cons (pe_tup (pa_cons (pv 6) (pa_cons (pe_fn cT hr (by decide) (by rfl) (pa_cons (pv 0) (pa_cons pe_int pa_nil))) (pa_cons (pe_fn cS hr (by decide) (by rfl) (pa_cons (pv 0) (pa_cons (pv 3) pa_nil))) (pa_cons (pe_fn cS hr (by decide) (by rfl) (pa_cons (pv 0) (pa_cons (pv 3) pa_nil))) pa_nil))))) pa_nil)))))
    (pss_one (ps_ret (pe_disp (pps_cons pe_str (pv 3) (pps_cons pe_str (pv 5) (pps_cons pe_str (pv 1) pps_nil))) (by rfl) (by rfl) (by simp) (by decide)))))))), ?_⟩
  refine ⟨z4, fun p1 h1 => ⟨z4, fun p2 h2 => ⟨z4, fun p3 h3 => ⟨z4, fun p4 h4 => ⟨z4, fun pp hpp => ?_⟩⟩⟩⟩⟩
  obtain ⟨HF, eF, sF, a1, a2, a3, a4, a5, f2, f3, f4, f5⟩ := four (.lst [.ref p1, .ref p2, .ref p3, .ref p4]) h1 h2 h3 h4 hpp
  rw [← eF]
  clear eF h2 h3 h4 hpp
  have hbF := hb.same sF
  refine ⟨_, rfl, _, rfl, b, pp, _, c, rfl, a5, (hb.ne f5).symm, List.cons_ne_nil _ _, by simp, hbF, by omega, fun y H1 hy k1 hb1 => ?_⟩
  have hyl : ∃ ps lp, y = V.ref lp ∧ HF lp = some (.lst (ps.map V.str)) ∧ H lp = none ∧ ps ∈ poolsL := by
    simp only [List.mem_cons, List.not_mem_nil, or_false] at hy
    rcases hy with rfl | rfl | rfl | rfl
    · exact ⟨_, p1, rfl, a1.trans rfl, h1, List.mem_of_getElem? (i := 0) rfl⟩
    · exact ⟨_, p2, rfl, a2.trans rfl, f2, List.mem_of_getElem? (i := 1) rfl⟩
    · exact ⟨_, p3, rfl, a3.trans rfl, f3, List.mem_of_getElem? (i := 2) rfl⟩
    · exact ⟨_, p4, rfl, a4.trans rfl, f4, List.mem_of_getElem? (i := 3) rfl⟩
  obtain ⟨ps, lp, rfl, hlp, flp, hps⟩ := hyl
  obtain ⟨l4, nps, gps⟩ := pools_ok ps hps
  have nlp : lp ≠ b := (hb.ne flp).symm
  have hlp1 := k1.at hlp nlp
  have kk1 : Kp (One b) H H1 := (Kp.of sF).trans k1
  clear a1 a2 a3 a4 a5 f2 f3 f4 f5 hy k1 hbF sF h1
  clear HF hlp
  refine ⟨_, rfl, z3, fun n1 h1 => ⟨z3, fun n2 h2 => ⟨z3, fun n3 h3 => ⟨z3, fun np hnp => ?_⟩⟩⟩⟩
  obtain ⟨HF, eF, sF, a1, a2, a3, a5, f2, f3, f5⟩ := three (.lst [.ref n1, .ref n2, .ref n3]) h1 h2 h3 hnp
  rw [← eF]
  clear eF h2 h3 hnp
  refine ⟨b, np, _, c + 1, rfl, a5, (hb1.ne f5).symm, List.cons_ne_nil _ _, by simp, hb1.same sF, by omega, fun y H2 hy k2 hb2 => ?_⟩
  have hyl : ∃ ns ln, y = V.ref ln ∧ HF ln = some (.lst (ns.map V.str)) ∧ H1 ln = none ∧ ns ∈ namesL := by
    simp only [List.mem_cons, List.not_mem_nil, or_false] at hy
    rcases hy with rfl | rfl | rfl
    · exact ⟨_, n1, rfl, a1.trans rfl, h1, List.mem_of_getElem? (i := 0) rfl⟩
    · exact ⟨_, n2, rfl, a2.trans rfl, f2, List.mem_of_getElem? (i := 1) rfl⟩
    · exact ⟨_, n3, rfl, a3.trans rfl, f3, List.mem_of_getElem? (i := 2) rfl⟩
  obtain ⟨ns, ln, rfl, hln, fln, hns⟩ := hyl
  obtain ⟨l3, nns, gns⟩ := names_ok ns hns
  have hln2 := k2.at hln (hb1.ne fln).symm
  have kk2 : Kp (One b) H H2 := kk1.trans ((Kp.of sF).trans k2)
  have hlp2 := k2.at (sF _ _ hlp1) nlp
  clear a1 a2 a3 a5 f2 f3 f5 hy k2 sF h1
  clear HF hln
  -- the functions
  refine ⟨z0, fun lf hlf => ?_⟩
  have s3 := same_new hlf (o := .lst [])
  have nlf : lf ≠ b := (hb2.ne hlf).symm
  have nlpf : lp ≠ lf := ne_of_none hlp2 hlf
  refine ⟨_, rfl, _, rfl, b, 4, c + 2, rfl, by decide, by decide, hb2.same s3, by omega, fun k H3 k0 k4 kp3 hb3 => ?_⟩
  obtain ⟨j, rfl⟩ := Int.eq_ofNat_of_zero_le k0
  have hln3 := kp3.at (s3 _ _ hln2) (hb1.ne fln).symm
  have hlp3 := kp3.at (s3 _ _ hlp2) nlp
  have hlf3 := kp3.at (show (upd H2 lf (.lst [])) lf = some (.lst []) from upd_same) nlf
  refine ⟨_, rfl, ln, _, rfl, SqL.of hln3, fun nl hnl => ?_⟩
  rw [cut_to, ← List.map_take]
  have hnd : (ns.take j).Nodup := nns.sublist (List.take_sublist _ _)
  have hgd : ∀ s ∈ ns.take j, goodN s = true := fun s hs => gns s (List.mem_of_mem_take hs)
  have hll : (ns.take j).length ≤ 3 := by rw [List.length_take]; omega
  generalize ns.take j = nms at hnd hgd hll ⊢
  have nnlf : nl ≠ lf := (ne_of_none hlf3 hnl).symm
  have nnb : nl ≠ b := (hb3.ne hnl).symm
  have kk3 : Kp (One b) H H3 := kk2.trans ((Kp.of s3).trans kp3)
  have s4 := same_new hnl (o := .lst (nms.map V.str))
  refine ⟨nl, rfl, ⟨_, SqL.of upd_same⟩, for_it nms.length (fun i σ H' => ∃ (on : Option V) (fs : List V) (B : List Fd), σ = [some (.ref b), some (.bl g), some (.ref pp), some (.ref lp), some (.ref ln), some (.ref lf), on] ∧ Kp (One b) H H' ∧ H' lp = some (.lst (ps.map V.str)) ∧ H' nl = some (.lst (nms.map V.str)) ∧ H' lf = some (.lst fs) ∧ Paired (FnRow H') fs B ∧ B.map (·.nm) = nms.take i ∧ (∀ f ∈ B, FdOk f) ∧ BagAt H' b (c + 3 + 9 * i))
    ⟨none, [], [], rfl, kk3.trans (Kp.of s4), s4 _ _ hlp3, upd_same, s4 _ _ hlf3, .nil, rfl, (fun f hf => nomatch hf), hb3.same s4⟩ (fun i σ H' hi ⟨_, _, _, _, _, _, h, _⟩ => ⟨_, _, SqL.of h, List.getElem?_eq_getElem (by rw [List.length_map]; exact hi)⟩) (fun σ H' ⟨_, _, _, _, _, _, h, _⟩ => ⟨_, SqL.of h, by rw [List.length_map]; exact Nat.le_refl _⟩) ?_ ?_⟩
  · rintro i x σ H4 H5 hi ⟨on, fs, B, rfl, kk4, hlp4, hnl4, hlf4, hfs, hBn, hBo, hb4⟩ ⟨rfl, hx⟩
    have gx := hx _ (SqL.of hnl4)
    rw [List.getElem?_map, List.getElem?_eq_getElem hi] at gx
    obtain rfl := Option.some.inj gx
    have hfl : fs.length = B.length := Paired.length hfs
    have hBl := congrArg List.length hBn
    rw [List.length_map, List.length_take] at hBl
    refine ⟨_, rfl, .inl ⟨rfl, _, SqL.of hlf4⟩, _, rfl, _, rfl, b, 4, _, rfl, by decide, by decide, hb4, by omega, fun k2 H6 k0 k4 kp6 hb6 => ?_⟩
    refine ⟨_, rfl, _, rfl, b, lp, ps, _, rfl, kp6.at hlp4 nlp, nlp, by omega, nps, gps, hb6, by omega, fun t1 rs H7 kp7 ht1 plc1 hb7 => ?_⟩
    refine ⟨_, rfl, _, rfl, b, lp, ps, _, rfl, kp7.at (kp6.at hlp4 nlp) nlp, nlp, by omega, nps, gps, hb7, by omega, fun t2 ss H8 kp8 ht2 plc2 hb8 => ⟨z4, fun t ht => ?_⟩⟩
    obtain ⟨fnn, rfl⟩ := Int.eq_ofNat_of_zero_le k0
    have k8 : Kp (One b) H5 (upd H8 t (.tup [.str nms[i], .int (fnn : Nat), .ref t1, .ref t2])) := (kp6.trans (kp7.trans kp8)).new ht
    have ht8 : (upd H8 t (.tup [.str nms[i], .int (fnn : Nat), .ref t1, .ref t2])) t = some (.tup [.str nms[i], .int (fnn : Nat), .ref t1, .ref t2]) := upd_same
    have ht18 := same_new ht (o := .tup [.str nms[i], .int (fnn : Nat), .ref t1, .ref t2]) _ _ (kp8.tup ht1)
    have ht28 := same_new ht (o := .tup [.str nms[i], .int (fnn : Nat), .ref t1, .ref t2]) _ _ ht2
    have hb9 := hb8.same (same_new ht (o := .tup [.str nms[i], .int (fnn : Nat), .ref t1, .ref t2]))
    generalize upd H8 t (.tup [.str nms[i], .int (fnn : Nat), .ref t1, .ref t2]) = H9 at k8 ht8 ht18 ht28 hb9 ⊢
    have hlf9 := k8.at hlf4 nlf
    have tk : TupK H9 (upd H9 lf (.lst (fs ++ [.ref t]))) := TupK.set (fun _ _ h => h) hlf9 fun _ z => nomatch z
    refine ⟨lf, fs, _, rfl, rfl, hlf9, by omega, _, fs ++ [.ref t], B ++ [⟨nms[i], fnn, rs, ss, plc1.few, plc2.few⟩], rfl, kp_set (kk4.trans k8) (kk2.free hlf), ?_, ?_, upd_same, Paired.app (Paired.mapP hfs fun _ _ z => (z.keep k8.tk).keep tk) (.cons ⟨t, t1, t2, rfl, tk _ _ ht8, tk _ _ ht18, tk _ _ ht28⟩ .nil), ?_, ?_, ?_⟩
    · rw [upd_ne nlpf]; exact k8.at hlp4 nlp
    · rw [upd_ne nnlf]; exact k8.at hnl4 nnb
    · rw [List.map_append, hBn, List.take_add_one, List.getElem?_eq_getElem hi]; rfl
    · intro f hf
      rcases List.mem_append.mp hf with z | z
      · exact hBo f z
      · rw [List.mem_singleton.mp z]
        exact ⟨hgd _ (List.getElem_mem hi), by show fnn ≤ 3; omega, plc1, plc2⟩
    · exact (hb9.set nlf.symm).mono (by omega)
  rintro σ H4 ⟨on, fs, B, rfl, kk4, hlp4, hnl4, hlf4, hfs, hBn, hBo, hb4⟩
  rw [List.take_of_length_le (Nat.le_refl _)] at hBn
  have hBl := congrArg List.length hBn
  rw [List.length_map] at hBl
  intro d hd
  refine ⟨_, rfl, _, rfl, _, rfl, upd_same, [(Sum.inr "places", .ref lp), (Sum.inr "functions", .ref lf), (Sum.inr "guards", .bl g)], rfl, by simp, ?_⟩
  have s5 : Same H4 (upd (upd H4 d (.dK [])) d (.dK (mergeK [] [(Sum.inr "places", .ref lp), (Sum.inr "functions", .ref lf), (Sum.inr "guards", .bl g)]))) := fun a u e => by
    have ne := ne_of_none e hd
    rw [upd_ne ne, upd_ne ne]; exact e
  refine q _ ps B _ (kk4.trans (Kp.of s5)) ⟨⟨d, lp, lf, fs, rfl, upd_same, s5 _ _ hlp4, nlp, s5 _ _ hlf4, nlf, Paired.mapP hfs fun _ _ z => z.keep s5.tk⟩, ⟨(fun z => by rw [z] at l4; cases l4), by omega, gps⟩, ⟨by rw [hBn]; exact hnd, by omega, hBo⟩⟩ ((hb4.same s5).mono (by omega))
end
end Oo

set_option Elab.async false
set_option linter.all false
set_option maxRecDepth 100000
set_option maxHeartbeats 4000000
/-! The law's book. -/
namespace Oo
open PySem PySem.Spec PyProof.Rows L2
def spLBook (K : PySem.W.Frag) : Sp := fun vs H Q _ => ∃ (lf : Addr) (fs : List V) (B : List Fd), vs = [.ref lf] ∧ H lf = some (.lst fs) ∧ Paired (FnRow H) fs B ∧ (B.map (·.nm)).Nodup ∧ B.length ≤ 3 ∧ (∀ f ∈ B, FdOk f) ∧ ∀ v H', Same H H' → BookAt K H' v B → Q v H'
theorem but_made {H H' : Hp} {x dx : Addr} {o u : HO} (hx : H x = none) (hd : H dx = none) (b : But x (upd (upd H dx o) x u) H') : Same H H' := fun a v e => b a v (made hx hd a v e) (ne_of_none e hx)
section
variable {P : Program} {w : World} {K : PySem.W.Frag} {mg : Str → Option Value} {base : Heap}
abbrev lbN : List Str := ["_law_functions", "_law_made", "_law_row"]
theorem sc_lbook : FnScope lbN ["_law_functions"] (defScope (top 57)) := ⟨rfl, rfl, rfl, by decide +kernel, rfl, by decide +kernel, by decide +kernel⟩
theorem w_lbook (T : Txt K w mg) (cF : MakeKP P w K mg base 3 (He.ga K "Function") "Function" 2 ["reads", "stores"] (spFnInit K)) (cB : MakeP P w K mg base 1 (He.ga K "Book") "Book" (spBook K)) : CallP P w K mg base 5 "_law_book" (spLBook K) := by
  refine mkP (k := 4) T 33 sc_lbook (fun _ _ _ _ _ _ us hl => match us, hl with | [_], _ => rfl) (fun vs H Q E h => ?_) fun cdv A outer s H vs Q E hr h => ?_
  · obtain ⟨lf, fs, B, rfl, _⟩ := h
    rfl
  obtain ⟨lf, fs, B, rfl, hlf, hfs, hnd, hB3, hok, q⟩ := h
  have hu := hu_of hr
  have hu0 := Nat.lt_of_succ_lt hu
  have hz : (1000 : Nat) < sizeLine := by decide
  refine ⟨_, pss_cons (ps_setLc (i := 1) (own := [("_law_row", 2)]) (g := gName 2) (tt := tYes) rfl sc_lbook.nd rfl rfl (by rfl) (pi_list (pv 0)) (blkOk_by (N := lbN) (sc := defScope (top 57)) (by decide +kernel))
      (fun _ _ _ _ _ => pg_name (i := 2) sc_lbook.nd rfl (Or.inl rfl)) (fun _ _ _ _ _ => pts_nil) (fun _ _ _ _ _ => pe_mkK cF hr (by decide) (by rfl) (pa_cons (pe_ix (r := rIxT K) ix_tup (pv 2) pe_int (fun _ _ => rfl)) (pa_cons (pe_ix (r := rIxT K) ix_tup (pv 2) pe_int (fun _ _ => rfl)) pa_nil))
        (pk_cons (pe_ix (r := rIxT K) ix_tup (pv 2) pe_int (fun _ _ => rfl)) (pk_cons (pe_ix (r := rIxT K) ix_tup (pv 2) pe_int (fun _ _ => rfl)) pk_nil))))
    (pss_cons (ps_if (pt_cmpR op_lt (pe_callB call_len_seq (by rfl) (T.free "len" (by decide +kernel)) PySem.boot_len (pa_cons (pv 1) pa_nil)) pe_int (nomark _))
      (pss_one (ps_ret (pe_ifExp (pt_cmpR (op_eqNil hu0) (pv 1) (pe_lst pa_nil) (nomark _)) (pe_mk0 cB hr (by decide) (by rfl)) (pe_mk cB hr (by decide) (by rfl) (pa_cons (pe_ix ix_list (pv 1) pe_int (fun _ _ => rfl)) pa_nil))))) pss_nil)
    (pss_one (ps_ret (pe_ifExp (pt_cmpR op_eq (pe_callB call_len_seq (by rfl) (T.free "len" (by decide +kernel)) PySem.boot_len (pa_cons (pv 1) pa_nil)) pe_int (nomark _)) (pe_mk cB hr (by decide) (by rfl) (pa_cons (pe_ix ix_list (pv 1) pe_int (fun _ _ => rfl)) (pa_cons (pe_ix ix_list (pv 1) pe_int (fun _ _ => rfl)) pa_nil)))
      (pe_mk cB hr (by decide) (by rfl) (pa_cons (pe_ix ix_list (pv 1) pe_int (fun _ _ => rfl)) (pa_cons (pe_ix ix_list (pv 1) pe_int (fun _ _ => rfl)) (pa_cons (pe_ix ix_list (pv 1) pe_int (fun _ _ => rfl)) pa_nil)))))))), ?_⟩
  have hlen : fs.length = B.length := Paired.length hfs
  refine ⟨_, rfl, lf, rfl, ⟨_, SqL.of hlf⟩, fun D hD => lc_gen Nix fs.length (fun i acc H' => Paired (FnAt K H') acc (B.take i)) hD (fun a h => h.elim) (fun H' s => .nil) (fun i acc H' H'' g k => Paired.mapP g fun _ _ z => z.keep k) (fun i acc H' hi g => ?_) (fun i H' hi k => ⟨_, _, SqL.of (k.same _ _ hlf), List.getElem?_eq_getElem hi⟩) (fun H' k => ⟨_, SqL.of (k.same _ _ hlf), Nat.le_refl _⟩) ?_ ?_⟩
  · have := Paired.length g
    rw [List.length_take] at this
    omega
  · rintro i acc x H2 H3 N1 N0 n1 n0 hi k g ⟨rfl, hx⟩
    have s2 := k.same
    have gx := hx _ (SqL.of (s2 _ _ hlf))
    obtain ⟨f, gf, t, ra, sa, rfl, ht, hra, hsa⟩ := paired_get hfs gx
    obtain ⟨g1, g2, g3, g4⟩ := hok f (List.mem_of_getElem? gf)
    have ht2 := SqT.of (K := K) (s2 _ _ ht)
    refine ⟨rfl, _, rfl, t, _, _, _, rfl, rfl, ht2, atI_nat (j := 0) rfl, _, rfl, t, _, _, _, rfl, rfl, ht2, atI_nat (j := 1) rfl, _, rfl, t, _, _, _, rfl, rfl, ht2, atI_nat (j := 2) rfl, _, rfl, t, _, _, _, rfl, rfl, ht2, atI_nat (j := 3) rfl, rfl, rfl, fun a dx ha hdx hne => ?_⟩
    refine ⟨a, dx, ra, sa, f, rfl, upd_same, g1, g2, made ha hdx _ _ (s2 _ _ hra), g3, made ha hdx _ _ (s2 _ _ hsa), g4, fun H4 b4 h4 => ⟨rfl, ?_⟩⟩
    have s4 := but_made ha hdx b4
    refine n1 _ _ (Kp.of s4) ?_
    rw [List.take_add_one, gf]
    exact Paired.app (Paired.mapP g fun _ _ z => z.keep (Kp.of (S := Nix) s4)) (.cons ⟨a, dx, ra, sa, rfl, h4, s4 _ _ (s2 _ _ hra), s4 _ _ (s2 _ _ hsa)⟩ .nil)
  · rintro H2 acc k e2 g
    have s2 := k.same
    rw [List.take_of_length_le (by omega)] at g
    have hal : acc.length = B.length := Paired.length g
    have fin : ∀ H3, Same H2 H3 → ∀ x dx, H3 x = none → H3 dx = none → spBook K (.ref x :: acc) (upd (upd H3 dx (.own x)) x (.ins (He.ga K "Book") dx [])) (fun v H4 => v = .non ∧ Q (.ref x) H4) L2.E0 := fun H3 s3 x dx hx hdx => by
      have m := made (o := .own x) (u := .ins (He.ga K "Book") dx []) hx hdx
      exact ⟨x, dx, acc, B, rfl, upd_same, Paired.mapP g fun _ _ z => z.keep (Kp.of (S := Nix) (s3.trans m)), hnd, hB3, fun H4 b4 hb4 => ⟨rfl, q _ _ (s2.trans (s3.trans (but_made hx hdx b4))) hb4⟩⟩
    refine ⟨_, rfl, D, acc, rfl, .inl (SqL.of e2), _, _, rfl, rfl, _, rfl, ?_⟩
    match acc, hal, e2, fin with
    | [], _, e2, fin =>
      refine iteT ⟨_, rfl, z0, fun l hl => ⟨D, l, [], rfl, rfl, SqL.of (same_new hl _ _ e2), SqL.of upd_same, _, rfl, iteT ?_⟩⟩
      exact fun x dx hx hdx hne => fin _ (same_new hl) x dx hx hdx
    | [u], _, e2, fin =>
      refine iteT ⟨_, rfl, z0, fun l hl => ⟨D, l, [u], rfl, rfl, SqL.of (same_new hl _ _ e2), SqL.of upd_same, _, rfl, iteF ?_⟩⟩
      exact ⟨_, rfl, D, _, _, _, rfl, rfl, SqL.of (same_new hl _ _ e2), atI_nat (j := 0) rfl, fun x dx hx hdx hne => fin _ (same_new hl) x dx hx hdx⟩
    | [u, v], _, e2, fin =>
      refine iteF ⟨_, rfl, D, _, rfl, .inl (SqL.of e2), rfl, _, rfl, iteT ?_⟩
      exact ⟨_, rfl, D, _, _, _, rfl, rfl, SqL.of e2, atI_nat (j := 0) rfl, _, rfl, D, _, _, _, rfl, rfl, SqL.of e2, atI_nat (j := 1) rfl, fun x dx hx hdx hne => fin _ (Same.refl _) x dx hx hdx⟩
    | [u, v, t], _, e2, fin =>
      refine iteF ⟨_, rfl, D, _, rfl, .inl (SqL.of e2), rfl, _, rfl, iteF ?_⟩
      exact ⟨_, rfl, D, _, _, _, rfl, rfl, SqL.of e2, atI_nat (j := 0) rfl, _, rfl, D, _, _, _, rfl, rfl, SqL.of e2, atI_nat (j := 1) rfl, _, rfl, D, _, _, _, rfl, rfl, SqL.of e2, atI_nat (j := 2) rfl, fun x dx hx hdx hne => fin _ (Same.refl _) x dx hx hdx⟩
    | _ :: _ :: _ :: _ :: _, hal, _, _ => simp only [List.length_cons] at hal; omega
end
end Oo

set_option Elab.async false
set_option linter.all false
set_option maxRecDepth 100000
set_option maxHeartbeats 4000000
/-! The law's expressions. -/
namespace Oo
open PySem PySem.Spec PyProof.Rows L2
def LeftAt (H : Hp) (l : Addr) (n : Nat) : Prop := H l = some (.lst [.int (n : Nat)])
def cap : Nat → Nat
  | 0 => 1
  | d + 1 => 3 * cap d + 1
def cost : Nat → Nat
  | 0 => 4
  | d + 1 => 3 * cost d + 3
theorem cap_pos : ∀ d, 1 ≤ cap d
  | 0 => Nat.le_refl _
  | d + 1 => Nat.le_add_left _ _
theorem cost_pos : ∀ d, 4 ≤ cost d
  | 0 => Nat.le_refl _
  | d + 1 => by have := cost_pos d; show 4 ≤ 3 * cost d + 3; omega
structure Got (B : List Fd) (g : Bool) (d : Nat) (e : Ex) : Prop where
  wf : All (Wf B) e
  dp : dep e ≤ d
  ct : cnt e ≤ cap d
  nc : g = false → noCho e = true
theorem Got.step {B : List Fd} {g : Bool} {d : Nat} {e : Ex} (h : Got B g d e) : Got B g (d + 1) e := ⟨h.wf, Nat.le_succ_of_le h.dp, by have := h.ct; show cnt e ≤ 3 * cap d + 1; omega, h.nc⟩
theorem Got.mono {B : List Fd} {g : Bool} {d : Nat} {e : Ex} (h : Got B g 0 e) : Got B g d e := by
  induction d with
  | zero => exact h
  | succ d ih => exact ih.step
theorem Got.nd {B : List Fd} {g : Bool} {d : Nat} {k : Kd} {es : List Ex} (hw : WfK B k es.length) (hk : ∀ x ∈ es, Got B g d x) (hl : es.length ≤ 3) (hc : g = false → isCho (.nd k []) = false) : Got B g (d + 1) (.nd k es) := by
  refine ⟨All.nd hw fun x hx => (hk x hx).wf, ?_, ?_, fun hg => ?_⟩
  · have : ∀ es : List Ex, (∀ x ∈ es, Got B g d x) → depL es ≤ d + 1 := by
      intro es
      induction es with
      | nil => intro _; rw [depL]; omega
      | cons a r ih =>
        intro h
        have h1 := (h a List.mem_cons_self).dp
        have h2 := ih fun x hx => h x (List.mem_cons_of_mem _ hx)
        rw [depL]
        omega
    rw [dep]
    exact this es hk
  · have : ∀ es : List Ex, (∀ x ∈ es, Got B g d x) → cntL es ≤ es.length * cap d := by
      intro es
      induction es with
      | nil => intro _; rw [cntL]; exact Nat.zero_le _
      | cons a r ih =>
        intro h
        have h1 := (h a List.mem_cons_self).ct
        have h2 := ih fun x hx => h x (List.mem_cons_of_mem _ hx)
        rw [cntL, List.length_cons, Nat.succ_mul]
        omega
    have h1 := this es hk
    have h2 := Nat.mul_le_mul_right (cap d) hl
    rw [cnt]
    show cntL es + 1 ≤ 3 * cap d + 1
    omega
  · have : ∀ es : List Ex, (∀ x ∈ es, Got B g d x) → noChoL es = true := by
      intro es
      induction es with
      | nil => intro _; rw [noChoL]
      | cons a r ih =>
        intro h
        rw [noChoL, (h a List.mem_cons_self).nc hg, ih fun x hx => h x (List.mem_cons_of_mem _ hx)]
        rfl
    rw [noCho, hc hg, this es hk]
    rfl
theorem Got.num {B : List Fd} {g : Bool} {z : Int} (h0 : 0 ≤ z) (h1 : z ≤ 999999) : Got B g 0 (.num z) := ⟨All.num ⟨h0, h1⟩, by rw [dep]; exact Nat.le_refl _, by rw [cnt]; exact Nat.le_refl _, fun _ => by rw [noCho]⟩
def Give (K : PySem.W.Frag) (H : Hp) (b l : Addr) (kit : V) (B : List Fd) (g : Bool) (n c co d : Nat) (Q : VK) : Prop := ∀ v e n' H', Kp (Two b l) H H' → TreeAt H' v e → Got B g d e → steps e + n' ≤ n → BagAt H' b (c + co) → LeftAt H' l n' → Q v H'
def spLeaf (K : PySem.W.Frag) : Sp := fun vs H Q _ => ∃ (b l : Addr) (kit : V) (ps : List Str) (B : List Fd) (g : Bool) (n c : Nat), vs = [.ref b, kit, .ref l] ∧ BagAt H b c ∧ c + 10 ≤ lim ∧ KitAt (Two b l) H kit ps B g ∧ LeftAt H l n ∧ b ≠ l ∧ Give K H b l kit B g n c 3 0 Q
def spExpr (K : PySem.W.Frag) (m : Nat) : Sp := fun vs H Q _ => ∃ (b l : Addr) (kit : V) (ps : List Str) (B : List Fd) (g : Bool) (n c d : Nat), vs = [.ref b, kit, .ref l, .int (d : Nat)] ∧ d < m ∧ BagAt H b c ∧ c + cost d + 10 ≤ lim ∧ KitAt (Two b l) H kit ps B g ∧ LeftAt H l n ∧ b ≠ l ∧ Give K H b l kit B g n c (cost d) d Q
def spGuard (K : PySem.W.Frag) (m : Nat) : Sp := fun vs H Q _ => ∃ (b l : Addr) (kit : V) (ps : List Str) (B : List Fd) (n c d : Nat), vs = [.ref b, kit, .ref l, .int ((d + 1 : Nat) : Int)] ∧ d < m ∧ BagAt H b c ∧ c + 3 * cost d + 11 ≤ lim ∧ KitAt (Two b l) H kit ps B true ∧ LeftAt H l n ∧ b ≠ l ∧ Give K H b l kit B true n c (3 * cost d + 1) (d + 1) Q
theorem Kp.one {b l : Addr} {H H' : Hp} (k : Kp (One b) H H') : Kp (Two b l) H H' := k.mono fun a h => .inl h
theorem LeftAt.kp {b l : Addr} {H H' : Hp} {n : Nat} (h : LeftAt H l n) (k : Kp (One b) H H') (ne : b ≠ l) : LeftAt H' l n := k.at h fun z => ne (show l = b from z).symm
theorem LeftAt.same {l : Addr} {H H' : Hp} {n : Nat} (h : LeftAt H l n) (k : Same H H') : LeftAt H' l n := k _ _ h
theorem Kp.left {b l : Addr} {H H' : Hp} {n : Nat} {x : V} (k : Kp (Two b l) H H') (h : LeftAt H' l n) : Kp (Two b l) H (upd H' l (.lst [x])) := k.set (.inr _root_.rfl) h
theorem z5' : (5 : Nat) ≤ sizeLine := by decide
theorem ky1 : ¬ (Sum.inr ("places" : Str) : Key) = Sum.inr ("functions" : Str) := by decide
theorem ky2 : ¬ (Sum.inr ("places" : Str) : Key) = Sum.inr ("guards" : Str) := by decide
theorem ky3 : ¬ (Sum.inr ("functions" : Str) : Key) = Sum.inr ("guards" : Str) := by decide
theorem kit_places {S : Addr → Prop} {H : Hp} {v : V} {ps : List Str} {B : List Fd} {g : Bool} (x : KitAt S H v ps B g) : ∃ d lp, v = .ref d ∧ DGet H d (.str "places") (some (.ref lp)) ∧ H lp = some (.lst (ps.map V.str)) ∧ ¬ S lp := by
  obtain ⟨d, lp, lf, fs, e, h1, h2, h3, h4, h5, h6⟩ := x.ex
  have dg := DGet.k (k := Sum.inr "places") h1
  rw [valV_pos rfl] at dg
  exact ⟨d, lp, e, dg, h2, h3⟩
theorem kit_fns {S : Addr → Prop} {H : Hp} {v : V} {ps : List Str} {B : List Fd} {g : Bool} (x : KitAt S H v ps B g) : ∃ d lf fs, v = .ref d ∧ DGet H d (.str "functions") (some (.ref lf)) ∧ H lf = some (.lst fs) ∧ ¬ S lf ∧ Paired (FnRow H) fs B := by
  obtain ⟨d, lp, lf, fs, e, h1, h2, h3, h4, h5, h6⟩ := x.ex
  have dg := DGet.k (k := Sum.inr "functions") h1
  rw [valV_neg ky1, valV_pos rfl] at dg
  exact ⟨d, lf, fs, e, dg, h4, h5, h6⟩
theorem kit_guards {S : Addr → Prop} {H : Hp} {v : V} {ps : List Str} {B : List Fd} {g : Bool} (x : KitAt S H v ps B g) : ∃ d, v = .ref d ∧ DGet H d (.str "guards") (some (.bl g)) := by
  obtain ⟨d, lp, lf, fs, e, h1, h2, h3, h4, h5, h6⟩ := x.ex
  have dg := DGet.k (k := Sum.inr "guards") h1
  rw [valV_neg ky2, valV_neg ky3, valV_pos rfl] at dg
  exact ⟨d, e, dg⟩
section
variable {P : Program} {w : World} {K : PySem.W.Frag} {mg : Str → Option Value} {base : Heap}
theorem sc_leaf : FnScope ["_law_bag_here", "_law_kit_here", "_law_left"] ["_law_bag_here", "_law_kit_here", "_law_left"] (defScope (top 58)) := ⟨rfl, rfl, rfl, by decide +kernel, rfl, by decide +kernel, by decide +kernel⟩
theorem w_leaf (T : Txt K w mg) (cT : CallP P w K mg base 1 "_law_take" spTake) (cO : CallP P w K mg base 2 "_law_of" (spOf K)) : CallP P w K mg base 3 "_law_leaf" (spLeaf K) := by
  refine mkP (k := 2) T 34 sc_leaf (fun _ _ _ _ _ _ us hl => match us, hl with | [_, _, _], _ => rfl) (fun vs H Q E h => ?_) fun cdv A outer s H vs Q E hr h => ?_
  · obtain ⟨b, l, kit, ps, B, g, n, c, rfl, _⟩ := h
    rfl
  obtain ⟨b, l, kit, ps, B, g, n, c, rfl, hb, hc, hk, hl, hbl, q⟩ := h
  have hu := hu_of hr
  have hz : (1000 : Nat) < sizeLine := by decide
  refine ⟨_, pss_cons (ps_if (PW.pt (pw_and (pt_cmpR op_gt (pe_ix ix_list (pv 2) pe_int (fun _ _ => rfl)) pe_int (nomark _)) (pw_and1 (pt_cmpR op_gt (pe_fn cT hr (by decide) (by rfl) (pa_cons (pv 0) (pa_cons pe_int pa_nil))) pe_int (nomark _)))))
      (pss_cons (ps_asg (pe_op op_sub (pe_ix ix_list (pv 2) pe_int (fun _ _ => rfl)) pe_int) (pg_sub (pv 2) pe_int set_list))
      (pss_one (ps_ret (pe_tup (pa_cons pe_str (pa_cons (pe_fn cO hr (by decide) (by rfl) (pa_cons (pv 0) (pa_cons (pe_dget hu (pv 1) pe_str (fun _ _ => rfl)) pa_nil))) pa_nil)))))) pss_nil)
    (pss_one (ps_ret (pe_fn cO hr (by decide) (by rfl) (pa_cons (pv 0) (pa_cons (pe_lst (pa_cons pe_int (pa_cons pe_int (pa_cons pe_int (pa_cons pe_int (pa_cons (pe_fn cT hr (by decide) (by rfl) (pa_cons (pv 0) (pa_cons pe_int pa_nil))) pa_nil)))))) pa_nil))))), ?_⟩
  refine ⟨_, rfl, l, _, _, _, rfl, rfl, SqL.of hl, atI_nat (j := 0) rfl, _, _, rfl, rfl, _, rfl, ite2 (fun hn => ⟨_, rfl, b, 3, c, rfl, by decide, by decide, hb, by omega, fun k H1 k0 k3 kp1 hb1 => ⟨_, _, rfl, rfl, _, rfl, ite2 (fun _ => ?gA) (fun _ => ?gB)⟩⟩) (fun hn => ?gC)⟩
  case gA =>
      have hn' : 1 ≤ n := by have := of_decide_eq_true hn; omega
      have hl1 := hl.kp kp1 hbl
      have hk1 := hk.keep kp1.one
      obtain ⟨n, rfl⟩ : ∃ m, n = m + 1 := ⟨n - 1, by omega⟩
      refine ⟨_, rfl, l, _, _, _, rfl, rfl, SqL.of hl1, atI_nat (j := 0) rfl, _, _, rfl, rfl, _, rfl, l, _, 0, 0, rfl, rfl, hl1, rfl, ?_⟩
      rw [show ([V.int ((n + 1 : Nat) : Int)] : List V).set 0 (.int (((n + 1 : Nat) : Int) - 1)) = [.int (n : Nat)] from by rw [show ((n + 1 : Nat) : Int) - 1 = (n : Nat) by omega]; rfl]
      have kp2 : Kp (Two b l) H (upd H1 l (.lst [.int (n : Nat)])) := (kp1.one).left hl1
      have hk2 := hk.keep kp2
      have hl2 : LeftAt (upd H1 l (.lst [.int (n : Nat)])) l n := upd_same
      have hb2 : BagAt (upd H1 l (.lst [.int (n : Nat)])) b (c + 1) := hb1.set hbl
      generalize upd H1 l (.lst [.int (n : Nat)]) = H2 at kp2 hk2 hl2 hb2 ⊢
      obtain ⟨d, lp, rfl, dg, hlp, nlp⟩ := kit_places hk2
      refine ⟨_, rfl, _, rfl, d, _, rfl, dg, b, lp, _, c + 1, rfl, hlp, fun z => nlp (.inl z), fun z => hk.ps.1 (List.map_eq_nil_iff.mp z), by rw [List.length_map]; have := hk.ps.2.1; omega, hb2, by omega, fun y H3 hy kp3 hb3 => ⟨z2, fun t ht => ?_⟩⟩
      obtain ⟨s, hs, rfl⟩ := List.mem_map.mp hy
      have s4 := same_new ht (o := .tup [.str "read", .str s])
      refine q (.ref t) (.nd (.read s) []) n _ (kp2.trans (kp3.one.trans (Kp.of s4))) ?_ ⟨All.nd ⟨hk.ps.2.2 s hs, rfl⟩ (fun x hx => nomatch hx), by rw [dep, depL]; exact Nat.le_refl _, by rw [cnt, cntL]; exact Nat.le_refl _, fun _ => by simp [noCho, noChoL, isCho]⟩ (by show 0 + 1 + n ≤ n + 1; omega) ((hb3.same s4).mono (by omega)) ((hl2.kp kp3 hbl).same s4)
      rw [TreeAt]
      exact ⟨t, [], rfl, upd_same, by rw [TreesAt]⟩
  case' gB =>
      have hl1 := hl.kp kp1 hbl
      have kq1 : Kp (Two b l) H H1 := kp1.one
      obtain ⟨c1, hc1, hbb⟩ : ∃ c1, c1 ≤ c + 1 ∧ BagAt H1 b c1 := ⟨_, Nat.le_refl _, hb1⟩
  case' gC =>
    obtain ⟨H1, hl1, kq1, c1, hc1, hbb, hH⟩ : ∃ H1, LeftAt H1 l n ∧ Kp (Two b l) H H1 ∧ ∃ c1, c1 ≤ c + 1 ∧ BagAt H1 b c1 ∧ H = H1 := ⟨H, hl, Kp.rfl _ _, c, Nat.le_succ _, hb, rfl⟩
    rw [hH]
  all_goals
    refine ⟨_, rfl, _, rfl, b, 1000000, c1, rfl, by decide, by decide, hbb, by omega, fun k2 H2 k0 kn kp2 hb2 => ⟨z5', fun q5 hq5 => ?_⟩⟩
    have s3 := same_new hq5 (o := .lst [.int 0, .int 1, .int 2, .int 999999, .int k2])
    refine ⟨b, q5, _, c1 + 1, rfl, upd_same, (hb2.ne hq5).symm, List.cons_ne_nil _ _, by simp, hb2.same s3, by omega, fun y H3 hy kp3 hb3 => ?_⟩
    have hyz : ∃ z : Int, y = .int z ∧ 0 ≤ z ∧ z ≤ 999999 := by
      simp only [List.mem_cons, List.not_mem_nil, or_false] at hy
      rcases hy with rfl | rfl | rfl | rfl | rfl
      · exact ⟨_, rfl, by omega, by omega⟩
      · exact ⟨_, rfl, by omega, by omega⟩
      · exact ⟨_, rfl, by omega, by omega⟩
      · exact ⟨_, rfl, by omega, by omega⟩
      · exact ⟨_, rfl, by omega, by omega⟩
    obtain ⟨z, rfl, z0', z9⟩ := hyz
    refine q (.int z) (.num z) n H3 (kq1.trans (kp2.one.trans ((Kp.of s3).trans kp3.one))) (by rw [TreeAt]) (Got.num z0' z9) (by show 0 + n ≤ n; omega) (hb3.mono (by omega)) (((hl1.kp kp2 hbl).same s3).kp kp3 hbl)
end
end Oo

set_option Elab.async false
set_option linter.all false
set_option maxRecDepth 100000
set_option maxHeartbeats 4000000
/-! The law's guard, expression, root. -/
namespace Oo
open PySem PySem.Spec PyProof.Rows L2
theorem sub1 (d : Nat) : ((d + 1 : Nat) : Int) - 1 = (d : Nat) := by omega
theorem sub2 (d : Nat) : ((d + 2 : Nat) : Int) - 2 = (d : Nat) := by omega
theorem sub1L (b : Addr) (kit : V) (l : Addr) (d : Nat) : [V.ref b, kit, V.ref l, V.int (((d + 1 : Nat) : Int) - 1)] = [V.ref b, kit, V.ref l, V.int (d : Nat)] := by rw [sub1]
theorem set1 (n : Nat) : ([V.int ((n + 1 : Nat) : Int)] : List V).set 0 (.int (((n + 1 : Nat) : Int) - 1)) = [.int (n : Nat)] := by rw [sub1]; rfl
theorem set2 (n : Nat) : ([V.int ((n + 2 : Nat) : Int)] : List V).set 0 (.int (((n + 2 : Nat) : Int) - 2)) = [.int (n : Nat)] := by rw [sub2]; rfl
theorem and_ite {a : Bool} {F X Y : Prop} (b : Bool) (hF : (if b = true then X else Y) → F) (h : if (a && b) = true then X else Y) : if a = true then F else if false = true then X else Y := by
  cases a with
  | true => rw [if_pos rfl]; exact hF h
  | false => rw [if_neg (by decide)]; exact h
theorem BagAt.at {H : Hp} {b : Addr} {c c' : Nat} (h : BagAt H b c) (e : c = c') : BagAt H b c' := e ▸ h
theorem kit_of {b l : Addr} {p : Addr} (n : ¬ Two b l p) : p ≠ b ∧ p ≠ l := ⟨fun z => n (.inl z), fun z => n (.inr z)⟩
section
variable {P : Program} {w : World} {K : PySem.W.Frag} {mg : Str → Option Value} {base : Heap}
abbrev gdN : List Str := ["_law_bag_here", "_law_kit_here", "_law_left", "_law_depth", "_law_first", "_law_second", "_law_word", "_law_found"]
theorem sc_guard : FnScope gdN ["_law_bag_here", "_law_kit_here", "_law_left", "_law_depth"] (defScope (top 59)) := ⟨rfl, rfl, rfl, by decide +kernel, rfl, by decide +kernel, by decide +kernel⟩
theorem w_guard (T : Txt K w mg) (m k : Nat) (hk2 : 2 ≤ k) (cO : CallP P w K mg base 2 "_law_of" (spOf K)) (cE : CallP P w K mg base k "_law_expr" (spExpr K m)) : CallP P w K mg base (k + 1) "_law_guard" (spGuard K m) := by
  refine mkP (k := k) T 35 sc_guard (fun _ _ _ _ _ _ us hl => match us, hl with | [_, _, _, _], _ => rfl) (fun vs H Q E h => ?_) fun cdv A outer s H vs Q E hr h => ?_
  · obtain ⟨b, l, kit, ps, B, n, c, d, rfl, _⟩ := h
    rfl
  obtain ⟨b, l, kit, ps, B, n, c, d, rfl, hd, hb, hc, hk, hl, hbl, q⟩ := h
  have hz : (1000 : Nat) < sizeLine := by decide
  refine ⟨_, pss_cons (ps_par (i := 4) (j := 5) (by rfl) sc_guard.nd rfl rfl (by decide) rfl rfl (pa_cons (pe_fn cE hr (Nat.le_refl _) (by rfl) (pa_cons (pv 0) (pa_cons (pv 1) (pa_cons (pv 2) (pa_cons (pe_op op_sub (pv 3) pe_int) pa_nil))))) (pa_cons (pe_fn cE hr (Nat.le_refl _) (by rfl) (pa_cons (pv 0) (pa_cons (pv 1) (pa_cons (pv 2) (pa_cons (pe_op op_sub (pv 3) pe_int) pa_nil))))) pa_nil)) (by rfl))
    (pss_cons (ps_set (i := 6) sc_guard.nd rfl (Or.inl rfl) (pe_fn cO hr hk2 (by rfl) (pa_cons (pv 0) (pa_cons (pe_lst (pa_cons pe_str (pa_cons pe_str (pa_cons pe_str pa_nil)))) pa_nil))))
    (pss_cons (ps_set (i := 7) sc_guard.nd rfl (Or.inl rfl) (pe_tup (pa_cons (pv 6) (pa_cons (pv 4) (pa_cons (pv 5) pa_nil)))))
    (pss_one (ps_ret (pe_ifExp (pt_cmpR op_ne (pv 6) pe_str (nomark _)) (pv 7) (pe_op op_catU (pv 7) (pe_tup (pa_cons (pe_fn cE hr (Nat.le_refl _) (by rfl) (pa_cons (pv 0) (pa_cons (pv 1) (pa_cons (pv 2) (pa_cons (pe_op op_sub (pv 3) pe_int) pa_nil))))) pa_nil)))))))), ?_⟩
  refine ⟨_, rfl, _, rfl, _, rfl, _, rfl, _, _, rfl, rfl, b, l, kit, ps, B, true, n, c, d, sub1L b kit l d, hd, hb, by omega, hk, hl, hbl, fun v1 e1 n1 H1 k1 t1 g1 s1 hb1 hl1 => ?_⟩
  refine ⟨_, rfl, _, rfl, _, rfl, _, rfl, _, _, rfl, rfl, b, l, kit, ps, B, true, n1, c + cost d, d, sub1L b kit l d, hd, hb1, by omega, hk.keep k1, hl1, hbl, fun v2 e2 n2 H2 k2 t2 g2 s2 hb2 hl2 => ⟨_, _, rfl, ?_⟩⟩
  refine ⟨_, rfl, z3, fun lw hlw => ?_⟩
  have s3 := same_new hlw (o := .lst [.str "and", .str "or", .str "choose"])
  refine ⟨b, lw, _, c + cost d + cost d, rfl, upd_same, (hb2.ne hlw).symm, List.cons_ne_nil _ _, by simp, hb2.same s3, by omega, fun y H3 hy k3 hb3 => ?_⟩
  have kk3 : Kp (Two b l) H2 H3 := (Kp.of s3).trans k3.one
  have hl3 := (hl2.same s3).kp k3 hbl
  have kall := k1.trans (k2.trans kk3)
  have t13 := t1.keep (k2.trans kk3).tk
  have t23 := t2.keep kk3.tk
  simp only [List.mem_cons, List.not_mem_nil, or_false] at hy
  rcases hy with rfl | rfl | rfl
  · refine ⟨_, rfl, _, rfl, _, rfl, z3, fun t ht => ⟨_, rfl, rfl, _, rfl, iteT2 (by rfl) ⟨_, rfl, ?_⟩⟩⟩
    have s4 := same_new ht (o := .tup [.str "and", v1, v2])
    have es : steps (.nd .wand [e1, e2]) = steps e1 + steps e2 := by simp [steps, stepsL, ownN]
    refine q (.ref t) (.nd .wand [e1, e2]) n2 _ (kall.trans (Kp.of s4)) ?_ (Got.nd rfl (fun x hx => ?_) (by simp) (fun h => nomatch h)) (by omega) ((hb3.same s4).mono (by omega)) (hl3.same s4)
    · rw [TreeAt]; exact ⟨t, [v1, v2], rfl, upd_same, trees2 (t13.keep s4.tk) (t23.keep s4.tk)⟩
    · simp only [List.mem_cons, List.not_mem_nil, or_false] at hx
      rcases hx with rfl | rfl
      · exact g1
      · exact g2
  · refine ⟨_, rfl, _, rfl, _, rfl, z3, fun t ht => ⟨_, rfl, rfl, _, rfl, iteT2 (by rfl) ⟨_, rfl, ?_⟩⟩⟩
    have s4 := same_new ht (o := .tup [.str "or", v1, v2])
    have es : steps (.nd .wor [e1, e2]) = steps e1 + steps e2 := by simp [steps, stepsL, ownN]
    refine q (.ref t) (.nd .wor [e1, e2]) n2 _ (kall.trans (Kp.of s4)) ?_ (Got.nd rfl (fun x hx => ?_) (by simp) (fun h => nomatch h)) (by omega) ((hb3.same s4).mono (by omega)) (hl3.same s4)
    · rw [TreeAt]; exact ⟨t, [v1, v2], rfl, upd_same, trees2 (t13.keep s4.tk) (t23.keep s4.tk)⟩
    · simp only [List.mem_cons, List.not_mem_nil, or_false] at hx
      rcases hx with rfl | rfl
      · exact g1
      · exact g2
  · refine ⟨_, rfl, _, rfl, _, rfl, z3, fun t ht => ⟨_, rfl, rfl, _, rfl, iteF2 (by rfl) ⟨_, rfl, ?_⟩⟩⟩
    have s4 := same_new ht (o := .tup [.str "choose", v1, v2])
    have ht4 : (upd H3 t (.tup [.str "choose", v1, v2])) t = some (.tup [.str "choose", v1, v2]) := upd_same
    have hb4 := hb3.same s4
    have hl4 := hl3.same s4
    have k4 := kall.trans (Kp.of (S := Two b l) s4)
    have t14 := t13.keep s4.tk
    have t24 := t23.keep s4.tk
    generalize upd H3 t (.tup [.str "choose", v1, v2]) = H4 at s4 ht4 hb4 hl4 k4 t14 t24 ⊢
    refine ⟨_, rfl, _, rfl, _, rfl, _, rfl, _, _, rfl, rfl, b, l, kit, ps, B, true, n2, c + cost d + cost d + 1, d, sub1L b kit l d, hd, hb4, by omega, hk.keep k4, hl4, hbl, fun v3 e3 n3 H5 k5 t3 g3 s5 hb5 hl5 => ⟨z1, fun u hu => ?_⟩⟩
    have s6 := same_new hu (o := .tup [v3])
    refine ⟨t, u, _, _, rfl, rfl, s6 _ _ (k5.tup ht4), upd_same, by show 3 + 1 ≤ sizeLine; exact z4, fun p H6 s7 hp => ?_⟩
    have s67 := s6.trans s7
    have es : steps (.nd .cho [e1, e2, e3]) = steps e1 + steps e2 + steps e3 := by simp [steps, stepsL, ownN]; omega
    refine q (.ref p) (.nd .cho [e1, e2, e3]) n3 _ (k4.trans (k5.trans (Kp.of s67))) ?_ (Got.nd rfl (fun x hx => ?_) (by simp) (fun h => nomatch h)) (by omega) ((hb5.same s67).mono (by omega)) (hl5.same s67)
    · rw [TreeAt]; exact ⟨p, [v1, v2, v3], rfl, hp, trees3 ((t14.keep k5.tk).keep s67.tk) ((t24.keep k5.tk).keep s67.tk) (t3.keep s67.tk)⟩
    · simp only [List.mem_cons, List.not_mem_nil, or_false] at hx
      rcases hx with rfl | rfl | rfl
      · exact g1
      · exact g2
      · exact g3
abbrev exN' : List Str := ["_law_bag_here", "_law_kit_here", "_law_left", "_law_depth", "_law_way", "_law_by", "_law_when", "_law_one", "_law_parts", "_law_turn", "_law_first", "_law_second"]
theorem sc_expr : FnScope exN' ["_law_bag_here", "_law_kit_here", "_law_left", "_law_depth"] (defScope (top 60)) := ⟨rfl, rfl, rfl, by decide +kernel, rfl, by decide +kernel, by decide +kernel⟩
theorem w_expr (T : Txt K w mg) (cT : CallP P w K mg base 1 "_law_take" spTake) (cO : CallP P w K mg base 2 "_law_of" (spOf K)) (cL : CallP P w K mg base 3 "_law_leaf" (spLeaf K)) : ∀ m : Nat, CallP P w K mg base (2 + 2 * m) "_law_expr" (spExpr K m)
  | 0 => no_call T 36 fun vs H Q E h => by
    obtain ⟨b, l, kit, ps, B, g, n, c, d, _, h, _⟩ := h
    exact absurd h (Nat.not_lt_zero _)
  | m + 1 => by
    have cE := w_expr T cT cO cL m
    have cG := w_guard T m (2 + 2 * m) (Nat.le_add_right _ _) cO cE
    refine mkP (k := 2 + 2 * m + 1) T 36 sc_expr (fun _ _ _ _ _ _ us hl => match us, hl with | [_, _, _, _], _ => rfl) (fun vs H Q E h => ?_) fun cdv A outer s H vs Q E hr h => ?_
    · obtain ⟨b, l, kit, ps, B, g, n, c, d, rfl, _⟩ := h
      rfl
    obtain ⟨b, l, kit, ps, B, g, n, c, d, rfl, hd, hb, hc, hk, hl, hbl, q⟩ := h
    have hz : (1000 : Nat) < sizeLine := by decide
    have hu := hu_of hr
    have hu0 := Nat.lt_of_succ_lt hu
    refine ⟨_, pss_cons (ps_set (i := 4) sc_expr.nd rfl (Or.inl rfl) (pe_fn cT hr (by omega) (by rfl) (pa_cons (pv 0) (pa_cons pe_int pa_nil))))
      (pss_cons (ps_if (PW.pt (pw_or (pt_cmpR op_eq (pv 3) pe_int (nomark _)) (pw_or (pt_cmpR op_eq (pe_ix ix_list (pv 2) pe_int (fun _ _ => rfl)) pe_int (nomark _)) (pw_or1 (pt_cmpR op_eq (pv 4) pe_int (nomark _)))))) (pss_one (ps_ret (pe_fn cL hr (by omega) (by rfl) (pa_cons (pv 0) (pa_cons (pv 1) (pa_cons (pv 2) pa_nil)))))) pss_nil)
      (pss_cons (ps_if (pt_cmpR op_lt (pv 4) pe_int (nomark _)) (pss_cons (ps_asg (pe_op op_sub (pe_ix ix_list (pv 2) pe_int (fun _ _ => rfl)) pe_int) (pg_sub (pv 2) pe_int set_list))
        (pss_one (ps_ret (pe_tup (pa_cons pe_str (pa_cons (pe_fn cO hr (by omega) (by rfl) (pa_cons (pv 0) (pa_cons (pe_dget hu (pv 1) pe_str (fun _ _ => rfl)) pa_nil))) (pa_cons (pe_fn cE hr (by omega) (by rfl) (pa_cons (pv 0) (pa_cons (pv 1) (pa_cons (pv 2) (pa_cons (pe_op op_sub (pv 3) pe_int) pa_nil))))) pa_nil))))))) pss_nil)
      (pss_cons (ps_if (PW.pt (pw_and (pt_cmpR op_lt (pv 4) pe_int (nomark _)) (pw_and1 (pt_cmpR op_gt (pe_ix ix_list (pv 2) pe_int (fun _ _ => rfl)) pe_int (nomark _))))) (pss_cons (ps_asg (pe_op op_sub (pe_ix ix_list (pv 2) pe_int (fun _ _ => rfl)) pe_int) (pg_sub (pv 2) pe_int set_list))
        (pss_cons (ps_par (i := 5) (j := 6) (by rfl) sc_expr.nd rfl rfl (by decide) rfl rfl (pa_cons (pe_fn cO hr (by omega) (by rfl) (pa_cons (pv 0) (pa_cons (pe_lst (pa_cons pe_int (pa_cons (pe_un un_neg pe_int) pa_nil))) pa_nil))) (pa_cons (pe_fn cO hr (by omega) (by rfl) (pa_cons (pv 0) (pa_cons (pe_lst (pa_cons pe_str (pa_cons pe_str pa_nil))) pa_nil))) pa_nil)) (by rfl))
        (pss_one (ps_ret (pe_tup (pa_cons pe_str (pa_cons (pe_fn cO hr (by omega) (by rfl) (pa_cons (pv 0) (pa_cons (pe_dget hu (pv 1) pe_str (fun _ _ => rfl)) pa_nil))) (pa_cons (pv 5) (pa_cons (pv 6) pa_nil))))))))) pss_nil)
      (pss_cons (ps_if (PW.pt (pw_and (pt_cmpR op_lt (pv 4) pe_int (nomark _)) (pw_and1 (pt_cmpR (op_neNil hu0) (pe_dget hu (pv 1) pe_str (fun _ _ => rfl)) (pe_lst pa_nil) (nomark _))))) (pss_cons (ps_asg (pe_op op_sub (pe_ix ix_list (pv 2) pe_int (fun _ _ => rfl)) pe_int) (pg_sub (pv 2) pe_int set_list))
        (pss_cons (ps_set (i := 7) sc_expr.nd rfl (Or.inl rfl) (pe_fn cO hr (by omega) (by rfl) (pa_cons (pv 0) (pa_cons (pe_dget hu (pv 1) pe_str (fun _ _ => rfl)) pa_nil))))
        (pss_cons (ps_setLc (i := 8) (own := [("_law_turn", 9)]) (g := gName 9) (tt := tYes) rfl sc_expr.nd rfl rfl (by rfl) (pi_range1 (by rfl) (T.free "range" (by decide +kernel)) (pa_cons (pe_ix ix_tup (pv 7) pe_int (fun _ _ => rfl)) pa_nil)) (blkOk_by (N := exN') (sc := defScope (top 60)) (by decide +kernel))
          (fun _ _ _ _ _ => pg_name (i := 9) sc_expr.nd rfl (Or.inl rfl)) (fun _ _ _ _ _ => pts_nil) (fun _ _ _ _ _ => pe_fn cE hr (by omega) (by rfl) (pa_cons (pv 0) (pa_cons (pv 1) (pa_cons (pv 2) (pa_cons (pe_op op_sub (pv 3) pe_int) pa_nil))))))
        (pss_one (ps_ret (pe_tup (pa_cons pe_str (pa_cons (pe_ix ix_tup (pv 7) pe_int (fun _ _ => rfl)) (pa_cons (pe_callTy call_tuple_of (by rfl) (T.free "tuple" (by decide +kernel)) (by decide +kernel) (pa_cons (pv 8) pa_nil)) pa_nil))))))))) pss_nil)
      (pss_cons (ps_if (PW.pt (pw_and (pt_cmpR op_eq (pv 4) pe_int (nomark _)) (pw_and1 (pt_val (pe_dget hu (pv 1) pe_str (fun _ _ => rfl)))))) (pss_one (ps_ret (pe_fn cG hr (by omega) (by rfl) (pa_cons (pv 0) (pa_cons (pv 1) (pa_cons (pv 2) (pa_cons (pv 3) pa_nil))))))) pss_nil)
      (pss_cons (ps_par (i := 10) (j := 11) (by rfl) sc_expr.nd rfl rfl (by decide) rfl rfl (pa_cons (pe_fn cE hr (by omega) (by rfl) (pa_cons (pv 0) (pa_cons (pv 1) (pa_cons (pv 2) (pa_cons (pe_op op_sub (pv 3) pe_int) pa_nil))))) (pa_cons (pe_fn cE hr (by omega) (by rfl) (pa_cons (pv 0) (pa_cons (pv 1) (pa_cons (pv 2) (pa_cons (pe_op op_sub (pv 3) pe_int) pa_nil))))) pa_nil)) (by rfl))
      (pss_one (ps_ret (pe_ifExp (pt_cmpR op_eq (pv 4) pe_int (nomark _)) (pe_tup (pa_cons pe_str (pa_cons (pv 10) (pa_cons (pv 11) pa_nil)))) (pe_tup (pa_cons pe_str (pa_cons (pe_fn cO hr (by omega) (by rfl) (pa_cons (pv 0) (pa_cons (pe_lst (pa_cons pe_str (pa_cons pe_str (pa_cons pe_str (pa_cons pe_str pa_nil))))) pa_nil))) (pa_cons (pv 10) (pa_cons (pv 11) pa_nil)))))))))))))), ?_⟩
    refine ⟨_, rfl, b, 11, c, rfl, by decide, by decide, hb, by have := cost_pos d; omega, fun wy H1 w0 w11 k1 hb1 => ?_⟩
    have hl1 := hl.kp k1 hbl
    have leaf : spLeaf K [V.ref b, kit, V.ref l] H1 Q L2.E0 := ⟨b, l, kit, ps, B, g, n, c + 1, rfl, hb1, by have := cost_pos d; omega, hk.keep k1.one, hl1, hbl, fun v e n' H' kk t gg s hb' hl' => q v e n' H' (k1.one.trans kk) t gg.mono s (hb'.mono (by have := cost_pos d; omega)) hl'⟩
    refine ⟨_, rfl, rfl, _, rfl, ite2 (fun _ => iteT ⟨_, rfl, _, rfl, _, rfl, leaf⟩) (fun hd0 => ⟨_, rfl, l, _, _, _, rfl, rfl, SqL.of hl1, atI_nat (j := 0) rfl, rfl, _, rfl, ite2 (fun _ => iteT ⟨_, rfl, _, rfl, _, rfl, leaf⟩) (fun hn0 => ⟨_, rfl, rfl, _, rfl, ite2 (fun _ => ⟨_, rfl, _, rfl, _, rfl, leaf⟩) (fun hw0 => ?_)⟩)⟩)⟩
    have hd0' : d ≠ 0 := fun z => hd0 (by rw [z]; rfl)
    have hn0' : n ≠ 0 := fun z => hn0 (by rw [z]; rfl)
    obtain ⟨d, rfl⟩ : ∃ d', d = d' + 1 := ⟨d - 1, by omega⟩
    obtain ⟨n, rfl⟩ : ∃ n', n = n' + 1 := ⟨n - 1, by omega⟩
    have hcd : cost (d + 1) = 3 * cost d + 3 := rfl
    have hcp := cost_pos d
    have hdm : d < m := by omega
    clear leaf hd0 hn0 hw0 hd0' hn0'
    -- store
    refine ⟨_, rfl, _, _, rfl, rfl, _, rfl, ite2 (fun _ => ?gS) (fun _ => ?gR)⟩
    case gS =>
      refine ⟨_, rfl, l, _, _, _, rfl, rfl, SqL.of hl1, atI_nat (j := 0) rfl, _, _, rfl, rfl, _, rfl, l, _, 0, 0, rfl, rfl, hl1, rfl, ?_⟩
      rw [set1]
      have kp2 : Kp (Two b l) H (upd H1 l (.lst [.int (n : Nat)])) := (k1.one).left hl1
      have hk2 := hk.keep kp2
      have hl2 : LeftAt (upd H1 l (.lst [.int (n : Nat)])) l n := upd_same
      have hb2 : BagAt (upd H1 l (.lst [.int (n : Nat)])) b (c + 1) := hb1.set hbl
      generalize upd H1 l (.lst [.int (n : Nat)]) = H2 at kp2 hk2 hl2 hb2 ⊢
      obtain ⟨dk, lp, rfl, dg, hlp, nlp⟩ := kit_places hk2
      refine ⟨_, rfl, _, rfl, dk, _, rfl, dg, b, lp, _, c + 1, rfl, hlp, fun z => nlp (.inl z), fun z => hk.ps.1 (List.map_eq_nil_iff.mp z), by rw [List.length_map]; have := hk.ps.2.1; omega, hb2, by omega, fun y H3 hy kp3 hb3 => ?_⟩
      obtain ⟨s, hs, rfl⟩ := List.mem_map.mp hy
      refine ⟨_, rfl, _, rfl, _, rfl, _, rfl, _, _, rfl, rfl, b, l, .ref dk, ps, B, g, n, c + 1 + 1, d, sub1L b (.ref dk) l d, hdm, hb3, by omega, hk2.keep kp3.one, hl2.kp kp3 hbl, hbl, fun v e n' H4 k4 t4 g4 s4 hb4 hl4 => ⟨z3, fun t ht => ?_⟩⟩
      have s5 := same_new ht (o := .tup [.str "store", .str s, v])
      have es : steps (.nd (.store s) [e]) = steps e + 1 := by simp [steps, stepsL, ownN]
      refine q (.ref t) (.nd (.store s) [e]) n' _ (kp2.trans (kp3.one.trans (k4.trans (Kp.of s5)))) ?_ (Got.nd ⟨hk.ps.2.2 s hs, rfl⟩ (fun x hx => by rw [List.mem_singleton.mp hx]; exact g4) (by simp) (fun _ => rfl)) (by omega) ((hb4.same s5).mono (by omega)) (hl4.same s5)
      rw [TreeAt]
      exact ⟨t, [v], rfl, upd_same, trees1 (t4.keep s5.tk)⟩
    case gR =>
    -- step
    refine ⟨_, rfl, _, _, rfl, rfl, _, rfl, and_ite (decide (1 < ((n + 1 : Nat) : Int))) (fun z => ⟨_, rfl, l, _, _, _, rfl, rfl, SqL.of hl1, atI_nat (j := 0) rfl, _, _, rfl, rfl, _, rfl, z⟩) (ite2 (fun hT => ?gT) (fun _ => ?gR))⟩
    case gT =>
      rw [Bool.and_eq_true] at hT
      have hT2 := of_decide_eq_true hT.2
      obtain ⟨n, rfl⟩ : ∃ n', n = n' + 1 := ⟨n - 1, by omega⟩
      refine ⟨_, rfl, l, _, _, _, rfl, rfl, SqL.of hl1, atI_nat (j := 0) rfl, _, _, rfl, rfl, _, rfl, l, _, 0, 0, rfl, rfl, hl1, rfl, ?_⟩
      rw [set2]
      have kp2 : Kp (Two b l) H (upd H1 l (.lst [.int (n : Nat)])) := (k1.one).left hl1
      have hk2 := hk.keep kp2
      have hl2 : LeftAt (upd H1 l (.lst [.int (n : Nat)])) l n := upd_same
      have hb2 : BagAt (upd H1 l (.lst [.int (n : Nat)])) b (c + 1) := hb1.set hbl
      generalize upd H1 l (.lst [.int (n : Nat)]) = H2 at kp2 hk2 hl2 hb2 ⊢
      refine ⟨_, rfl, _, rfl, z2, fun lx hlx => ?_⟩
      have s3 := same_new hlx (o := .lst [.int 1, .int (-1)])
      refine ⟨b, lx, _, c + 1, rfl, upd_same, (hb2.ne hlx).symm, List.cons_ne_nil _ _, by simp, hb2.same s3, by omega, fun y H3 hy k3 hb3 => ?_⟩
      refine ⟨_, rfl, z2, fun lz hlz => ?_⟩
      have s4 := same_new hlz (o := .lst [.str "before", .str "after"])
      refine ⟨b, lz, _, c + 2, rfl, upd_same, (hb3.ne hlz).symm, List.cons_ne_nil _ _, by simp, hb3.same s4, by omega, fun y2 H4 hy2 k4 hb4 => ⟨_, _, rfl, ?_⟩⟩
      have k24 : Kp (Two b l) H2 H4 := (Kp.of s3).trans (k3.one.trans ((Kp.of s4).trans k4.one))
      have hl4 := ((((hl2.same s3).kp k3 hbl).same s4).kp k4 hbl)
      have hk4 := hk2.keep k24
      obtain ⟨dk, lp, rfl, dg, hlp, nlp⟩ := kit_places hk4
      refine ⟨_, rfl, _, rfl, dk, _, rfl, dg, b, lp, _, c + 3, rfl, hlp, fun z => nlp (.inl z), fun z => hk.ps.1 (List.map_eq_nil_iff.mp z), by rw [List.length_map]; have := hk.ps.2.1; omega, hb4, by omega, fun y5 H5 hy5 kp5 hb5 => ?_⟩
      obtain ⟨s, hs, rfl⟩ := List.mem_map.mp hy5
      have hy' : ∃ bi : Int, y = .int bi ∧ (bi = 1 ∨ bi = -1) := by
        simp only [List.mem_cons, List.not_mem_nil, or_false] at hy
        rcases hy with rfl | rfl
        · exact ⟨1, rfl, .inl rfl⟩
        · exact ⟨-1, rfl, .inr rfl⟩
      obtain ⟨bi, rfl, hbi⟩ := hy'
      have hy2' : ∃ ms : Str, y2 = .str ms ∧ (ms = "before" ∨ ms = "after") := by
        simp only [List.mem_cons, List.not_mem_nil, or_false] at hy2
        rcases hy2 with rfl | rfl
        · exact ⟨_, rfl, .inl rfl⟩
        · exact ⟨_, rfl, .inr rfl⟩
      obtain ⟨ms, rfl, hms⟩ := hy2'
      refine ⟨_, rfl, _, rfl, z4, fun t ht => ?_⟩
      have s6 := same_new ht (o := .tup [.str "step", .str s, .int bi, .str ms])
      have es : steps (.nd (.step s bi ms) []) = 2 := by simp [steps, stepsL, ownN]
      refine q (.ref t) (.nd (.step s bi ms) []) n _ (kp2.trans (k24.trans (kp5.one.trans (Kp.of s6)))) ?_ (Got.nd ⟨hk.ps.2.2 s hs, hbi, hms, rfl⟩ (fun x hx => nomatch hx) (by simp) (fun _ => rfl)) (by omega) ((hb5.same s6).mono (by omega)) ((hl4.kp kp5 hbl).same s6)
      rw [TreeAt]
      exact ⟨t, [], rfl, upd_same, by rw [TreesAt]⟩
    case gR =>
    -- call
    obtain ⟨dk, lf, fs, rfl, dg, hlf, nlf, hfs⟩ := kit_fns (hk.keep k1.one)
    refine ⟨_, rfl, _, _, rfl, rfl, _, rfl, ite2 (fun _ => ⟨_, rfl, dk, _, rfl, dg, z0, fun le hle => ⟨lf, le, fs, rfl, rfl, SqL.of (same_new hle _ _ hlf), SqL.of upd_same, _, rfl, ite2 (fun hC => ?gC) (fun _ => ?gR1)⟩⟩) (fun _ => iteF ?gR2)⟩
    case gC =>
      have s1 := same_new hle (o := .lst [])
      have hl1' := hl1.same s1
      have hb1' := hb1.same s1
      have kq := k1.one.trans (Kp.of (S := Two b l) s1)
      have hlf1 := s1 _ _ hlf
      have hfs1 := Paired.mapP hfs fun _ _ z => FnRow.keep s1.tk z
      generalize upd H1 le (.lst []) = H1' at s1 hl1' hb1' kq hlf1 hfs1 ⊢
      refine ⟨_, rfl, l, _, _, _, rfl, rfl, SqL.of hl1', atI_nat (j := 0) rfl, _, _, rfl, rfl, _, rfl, l, _, 0, 0, rfl, rfl, hl1', rfl, ?_⟩
      rw [set1]
      have kp2 : Kp (Two b l) H (upd H1' l (.lst [.int (n : Nat)])) := kq.left hl1'
      have kq2 : Kp (Two b l) H1' (upd H1' l (.lst [.int (n : Nat)])) := (Kp.rfl _ _).left hl1'
      have hk2 := hk.keep kp2
      have hl2 : LeftAt (upd H1' l (.lst [.int (n : Nat)])) l n := upd_same
      have hb2 : BagAt (upd H1' l (.lst [.int (n : Nat)])) b (c + 1) := hb1'.set hbl
      have hlf2 := kq2.at hlf1 nlf
      have hfs2 := Paired.mapP hfs1 fun _ _ z => FnRow.keep kq2.tk z
      generalize upd H1' l (.lst [.int (n : Nat)]) = H2 at kp2 kq2 hk2 hl2 hb2 hlf2 hfs2 ⊢
      obtain ⟨dk', lf', fs', e1, dg2, hlf3, nlf3, hfs3⟩ := kit_fns hk2
      injection e1 with e1
      subst e1
      have hne : fs' ≠ [] := fun z => by
        have l1 : fs'.length = B.length := Paired.length hfs3
        have l2 : fs.length = B.length := Paired.length hfs
        rw [z] at l1
        have l3 : fs = [] := List.eq_nil_of_length_eq_zero (by rw [l2, ← l1]; rfl)
        rw [l3] at hC
        exact absurd hC (by decide)
      have hfl : fs'.length = B.length := Paired.length hfs3
      have hB3 := hk.fns.2.1
      refine ⟨_, rfl, _, rfl, dk, _, rfl, dg2, b, lf', fs', c + 1, rfl, hlf3, fun z => nlf3 (.inl z), hne, by omega, hb2, by omega, fun y H3 hy kp3 hb3 => ?_⟩
      obtain ⟨j, hj, ej⟩ := List.mem_iff_getElem.mp hy
      obtain ⟨f, gf, t, ra, sa, rfl, ht, hra, hsa⟩ := paired_get hfs3 (List.getElem?_eq_getElem hj |>.trans (congrArg some ej))
      have hf := List.mem_of_getElem? gf
      have hf3 : f.n ≤ 3 := (hk.fns.2.2 f hf).2.1
      have ht3 := kp3.tup ht
      have hl3 := hl2.kp kp3 hbl
      have hk3 := hk2.keep kp3.one
      refine ⟨_, rfl, t, _, _, _, rfl, rfl, SqT.of ht3, atI_nat (j := 1) rfl, ((f.n : Nat) : Int), rfl, by omega, by omega, fun D hD => lc_gen (Two b l) f.n (fun i acc H' => ∃ es n', TreesAt H' acc es ∧ acc.length = i ∧ es.length = i ∧ (∀ x ∈ es, Got B g d x) ∧ stepsL es + n' ≤ n ∧ BagAt H' b (c + 2 + i * cost d) ∧ LeftAt H' l n') hD ?_ ?_ ?_ ?_ ?_ ?_ ?_ ?_⟩
      · intro a ha
        rcases ha with rfl | rfl
        · exact hb3.has
        · intro z; rw [show H3 a = some _ from hl3] at z; cases z
      · intro H' s
        exact ⟨[], n, by rw [TreesAt], rfl, rfl, (fun x hx => nomatch hx), by show 0 + n ≤ n; omega, (hb3.same s).mono (by omega), hl3.same s⟩
      · rintro i acc H' H'' ⟨es, n', h1, h2, h2', h3, h4, h5, h6⟩ k
        have nD : l ≠ D := fun z => by rw [← z, show H3 l = some _ from hl3] at hD; cases hD
        exact ⟨es, n', TreesAt.keep k.tk h1, h2, h2', h3, h4, h5.kp k (hb3.ne hD), k.at h6 nD⟩
      · rintro i acc H' hi ⟨es, n', h1, h2, _⟩
        omega
      · intro i H' hi k
        show i < ((f.n : Nat) : Int).toNat
        omega
      · intro H' k
        show ((f.n : Nat) : Int).toNat ≤ f.n
        omega
      · rintro i acc x H4 H5 N1 N0 n1 n0 hi k ⟨es, n', h1, h2, h2', h3, h4, h5, h6⟩ ⟨rfl, rfl⟩
        have hmul : i * cost d + cost d ≤ 3 * cost d := by
          have := Nat.mul_le_mul_right (cost d) (show i + 1 ≤ 3 by omega)
          rw [Nat.succ_mul] at this
          exact this
        refine ⟨rfl, _, rfl, _, rfl, _, rfl, _, rfl, _, _, rfl, rfl, b, l, .ref dk, ps, B, g, n', c + 2 + i * cost d, d, sub1L b (.ref dk) l d, hdm, h5, by omega, hk3.keep k, h6, hbl, fun v e n2 H6 k6 t6 g6 s6 hb6 hl6 => n1 v H6 k6 ⟨es ++ [e], n2, trees_snoc t6 (TreesAt.keep k6.tk h1), by rw [List.length_append, h2]; rfl, by rw [List.length_append, h2']; rfl, fun x hx => ?_, ?_, hb6.mono (by rw [Nat.succ_mul]; omega), hl6⟩⟩
        · rcases List.mem_append.mp hx with z | z
          · exact h3 x z
          · rw [List.mem_singleton.mp z]; exact g6
        · rw [stepsL_append]
          show stepsL es + (steps e + 0) + n2 ≤ n
          omega
      · rintro H4 acc k e4 ⟨es, n', h1, h2, h2', h3, h4, h5, h6⟩
        refine ⟨_, rfl, t, _, _, _, rfl, rfl, SqT.of (k.tup ht3), atI_nat (j := 0) rfl, _, rfl, D, acc, rfl, .inl ⟨SqL.of e4, fun u hu => ⟨z3, fun p hp => ?_⟩⟩⟩
        have s5 := same_new hu (o := .tup acc)
        have s6 := same_new hp (o := .tup [.str "call", .str f.nm, .ref u])
        have s56 := s5.trans s6
        have hmul : f.n * cost d ≤ 3 * cost d := Nat.mul_le_mul_right _ hf3
        have es' : steps (.nd (.call f.nm) es) = stepsL es + 1 := by simp [steps, ownN]
        refine q (.ref p) (.nd (.call f.nm) es) n' _ (kp2.trans (kp3.one.trans (k.trans (Kp.of s56)))) ?_ (Got.nd ⟨⟨f, hf, rfl, h2'.symm⟩, by omega⟩ h3 (by omega) (fun _ => rfl)) (by omega) ((h5.same s56).mono (by omega)) (h6.same s56)
        rw [TreeAt]
        exact ⟨p, acc, rfl, ⟨u, upd_same, s6 _ _ upd_same⟩, TreesAt.keep s56.tk h1⟩
    case' gR1 =>
      have kq : Kp (Two b l) H (upd H1 le (.lst [])) := k1.one.trans (Kp.of (same_new hle))
      have hbq := hb1.same (same_new hle (o := .lst []))
      have hlq := hl1.same (same_new hle (o := .lst []))
      generalize upd H1 le (.lst []) = H2 at kq hbq hlq ⊢
    case' gR2 =>
      obtain ⟨H2, kq, hbq, hlq, hH⟩ : ∃ H2, Kp (Two b l) H H2 ∧ BagAt H2 b (c + 1) ∧ LeftAt H2 l (n + 1) ∧ H1 = H2 := ⟨H1, k1.one, hb1, hl1, rfl⟩
      rw [hH]
    all_goals
      have hk2 := hk.keep kq
      obtain ⟨dk2, ek, dgg⟩ := kit_guards hk2
      injection ek with ek
      subst ek
      refine ⟨_, rfl, rfl, _, rfl, and_ite g (fun z => ⟨_, rfl, dk, _, rfl, dgg, _, rfl, z⟩) (ite2 (fun hG => ?_) (fun _ => ?_))⟩
      · rw [Bool.and_eq_true] at hG
        obtain rfl := hG.2
        exact ⟨_, rfl, _, rfl, _, rfl, _, rfl, b, l, .ref dk, ps, B, n + 1, c + 1, d, rfl, hdm, hbq, by omega, hk2, hlq, hbl, fun v e n' H' kk t gg s hb' hl' => q v e n' H' (kq.trans kk) t gg s (hb'.mono (by omega)) hl'⟩
      · refine ⟨_, rfl, _, rfl, _, rfl, _, rfl, _, _, rfl, rfl, b, l, .ref dk, ps, B, g, n + 1, c + 1, d, sub1L b (.ref dk) l d, hdm, hbq, by omega, hk2, hlq, hbl, fun v1 e1 n1 H3 k3 t1 g1 s1 hb3 hl3 => ?_⟩
        refine ⟨_, rfl, _, rfl, _, rfl, _, rfl, _, _, rfl, rfl, b, l, .ref dk, ps, B, g, n1, c + 1 + cost d, d, sub1L b (.ref dk) l d, hdm, hb3, by omega, hk2.keep k3, hl3, hbl, fun v2 e2 n2 H4 k4 t2 g2 s2 hb4 hl4 => ⟨_, _, rfl, ?_⟩⟩
        have t14 := t1.keep k4.tk
        have gk : ∀ x ∈ [e1, e2], Got B g d x := fun x hx => by
          simp only [List.mem_cons, List.not_mem_nil, or_false] at hx
          rcases hx with rfl | rfl
          · exact g1
          · exact g2
        refine ⟨_, rfl, rfl, _, rfl, ite2 (fun _ => ⟨_, rfl, _, rfl, z3, fun t ht => ?_⟩) (fun _ => ?_)⟩
        · have s5 := same_new ht (o := .tup [.str "then", v1, v2])
          have es : steps (.nd .thn [e1, e2]) = steps e1 + steps e2 := by simp [steps, stepsL, ownN]
          refine q (.ref t) (.nd .thn [e1, e2]) n2 _ (kq.trans (k3.trans (k4.trans (Kp.of s5)))) ?_ (Got.nd rfl gk (by simp) (fun _ => rfl)) (by omega) ((hb4.same s5).mono (by omega)) (hl4.same s5)
          rw [TreeAt]
          exact ⟨t, [v1, v2], rfl, upd_same, trees2 (t14.keep s5.tk) (t2.keep s5.tk)⟩
        · refine ⟨_, rfl, z4, fun lx hlx => ?_⟩
          have s5 := same_new hlx (o := .lst [.str "+", .str "-", .str "*", .str "<"])
          refine ⟨b, lx, _, c + 1 + cost d + cost d, rfl, upd_same, (hb4.ne hlx).symm, List.cons_ne_nil _ _, by simp, hb4.same s5, by omega, fun y H5 hy k5 hb5 => ⟨_, rfl, _, rfl, z4, fun t ht => ?_⟩⟩
          have hy' : ∃ s : Str, y = .str s ∧ s ∈ (["+", "-", "*", "<"] : List Str) := by
            simp only [List.mem_cons, List.not_mem_nil, or_false] at hy
            rcases hy with rfl | rfl | rfl | rfl
            · exact ⟨_, rfl, List.mem_of_getElem? (i := 0) rfl⟩
            · exact ⟨_, rfl, List.mem_of_getElem? (i := 1) rfl⟩
            · exact ⟨_, rfl, List.mem_of_getElem? (i := 2) rfl⟩
            · exact ⟨_, rfl, List.mem_of_getElem? (i := 3) rfl⟩
          obtain ⟨s, rfl, hs⟩ := hy'
          have s6 := same_new ht (o := .tup [.str "op", .str s, v1, v2])
          have k56 : Kp (Two b l) H4 _ := (Kp.of s5).trans (k5.one.trans (Kp.of s6))
          have es : steps (.nd (.op s) [e1, e2]) = steps e1 + steps e2 := by simp [steps, stepsL, ownN]
          refine q (.ref t) (.nd (.op s) [e1, e2]) n2 _ (kq.trans (k3.trans (k4.trans k56))) ?_ (Got.nd ⟨hs, rfl⟩ gk (by simp) (fun _ => rfl)) (by omega) ((hb5.same s6).mono (by omega)) (((hl4.same s5).kp k5 hbl).same s6)
          rw [TreeAt]
          exact ⟨t, [v1, v2], rfl, upd_same, trees2 (t14.keep k56.tk) (t2.keep k56.tk)⟩
end
end Oo

set_option Elab.async false
set_option linter.all false
set_option maxRecDepth 100000
set_option maxHeartbeats 4000000
/-! The law's root, open nodes, points. -/
namespace Oo
open PySem PySem.Spec PyProof.Rows L2
def spRoot (K : PySem.W.Frag) : Sp := fun vs H Q _ => ∃ (b : Addr) (kit : V) (ps : List Str) (B : List Fd) (g : Bool) (n c : Nat), vs = [.ref b, kit, .int (n : Nat)] ∧ BagAt H b c ∧ c + 1000 ≤ lim ∧ KitAt (One b) H kit ps B g ∧
  ∀ v e H', Kp (One b) H H' → TreeAt H' v e → Got B g 4 e → steps e ≤ n → BagAt H' b (c + 500) → Q v H'
theorem Kp.drop {b l : Addr} {H H1 : Hp} {o : HO} {H' : Hp} (h : H l = none) (k : Kp (Two b l) (upd H l o) H') : Kp (One b) H H' := fun a u e => by
  rcases k a u (by rw [upd_ne (ne_of_none e h)]; exact e) with z | ⟨s, r⟩
  · exact .inl z
  · rcases s with s | s
    · exact .inr ⟨s, r⟩
    · rw [s, h] at e; cases e
section
variable {P : Program} {w : World} {K : PySem.W.Frag} {mg : Str → Option Value} {base : Heap}
abbrev rtN : List Str := ["_law_bag_here", "_law_kit_here", "_law_most", "_law_left", "_law_first", "_law_second"]
theorem sc_root : FnScope rtN ["_law_bag_here", "_law_kit_here", "_law_most"] (defScope (top 61)) := ⟨rfl, rfl, rfl, by decide +kernel, rfl, by decide +kernel, by decide +kernel⟩
theorem w_root (T : Txt K w mg) (cT : CallP P w K mg base 1 "_law_take" spTake) (cO : CallP P w K mg base 2 "_law_of" (spOf K)) (cE : CallP P w K mg base 12 "_law_expr" (spExpr K 5)) : CallP P w K mg base 13 "_law_root" (spRoot K) := by
  refine mkP (k := 12) T 37 sc_root (fun _ _ _ _ _ _ us hl => match us, hl with | [_, _, _], _ => rfl) (fun vs H Q E h => ?_) fun cdv A outer s H vs Q E hr h => ?_
  · obtain ⟨b, kit, ps, B, g, n, c, rfl, _⟩ := h
    rfl
  obtain ⟨b, kit, ps, B, g, n, c, rfl, hb, hc, hk, q⟩ := h
  have hz : (1000 : Nat) < sizeLine := by decide
  refine ⟨_, pss_cons (ps_set (i := 3) sc_root.nd rfl (Or.inl rfl) (pe_lst (pa_cons (pv 2) pa_nil)))
    (pss_cons (ps_if (pt_cmpR op_eq (pe_fn cT hr (by decide) (by rfl) (pa_cons (pv 0) (pa_cons pe_int pa_nil))) pe_int (nomark _)) (pss_one (ps_ret (pe_fn cE hr (by decide) (by rfl) (pa_cons (pv 0) (pa_cons (pv 1) (pa_cons (pv 3) (pa_cons pe_int pa_nil))))))) pss_nil)
    (pss_cons (ps_par (i := 4) (j := 5) (by rfl) sc_root.nd rfl rfl (by decide) rfl rfl (pa_cons (pe_fn cE hr (by decide) (by rfl) (pa_cons (pv 0) (pa_cons (pv 1) (pa_cons (pv 3) (pa_cons pe_int pa_nil))))) (pa_cons (pe_fn cE hr (by decide) (by rfl) (pa_cons (pv 0) (pa_cons (pv 1) (pa_cons (pv 3) (pa_cons pe_int pa_nil))))) pa_nil)) (by rfl))
    (pss_one (ps_ret (pe_tup (pa_cons pe_str (pa_cons (pe_fn cO hr (by decide) (by rfl) (pa_cons (pv 0) (pa_cons (pe_lst (pa_cons pe_str (pa_cons pe_str (pa_cons pe_str (pa_cons pe_str pa_nil))))) pa_nil))) (pa_cons (pv 4) (pa_cons (pv 5) pa_nil))))))))), ?_⟩
  refine ⟨_, rfl, z1, fun l hl0 => ?_⟩
  have s1 := same_new hl0 (o := .lst [.int (n : Nat)])
  have hk1 : KitAt (Two b l) (upd H l (.lst [.int (n : Nat)])) kit ps B g := (hk.two hl0).keep (Kp.of s1)
  have hl1 : LeftAt (upd H l (.lst [.int (n : Nat)])) l n := upd_same
  have hb1 := hb.same s1
  have hbl := hb.ne hl0
  have dr : ∀ H', Kp (Two b l) (upd H l (.lst [.int (n : Nat)])) H' → Kp (One b) H H' := fun H' k => Kp.drop (H1 := H) hl0 k
  generalize upd H l (.lst [.int (n : Nat)]) = H1 at hk1 hl1 hb1 dr ⊢
  have c3 : cost 3 = 147 := rfl
  have c4 : cost 4 = 444 := rfl
  refine ⟨_, rfl, b, 2, c, rfl, by decide, by decide, hb1, by omega, fun k H2 k0 k2 kp2 hb2 => ⟨rfl, _, rfl, ite2 (fun _ => ?_) (fun _ => ?_)⟩⟩
  · exact ⟨_, rfl, _, rfl, _, rfl, b, l, kit, ps, B, g, n, c + 1, 4, rfl, by decide, hb2, by omega, hk1.keep kp2.one, hl1.kp kp2 hbl, hbl, fun v e n' H3 k3 t3 g3 st3 hb3 hl3 => q v e H3 (dr _ (kp2.one.trans k3)) t3 g3 (by omega) (hb3.mono (by omega))⟩
  · refine ⟨_, rfl, _, rfl, _, rfl, b, l, kit, ps, B, g, n, c + 1, 3, rfl, by decide, hb2, by omega, hk1.keep kp2.one, hl1.kp kp2 hbl, hbl, fun v1 e1 n1 H3 k3 t1 g1 st1 hb3 hl3 => ?_⟩
    refine ⟨_, rfl, _, rfl, _, rfl, b, l, kit, ps, B, g, n1, c + 1 + cost 3, 3, rfl, by decide, hb3, by omega, hk1.keep (kp2.one.trans k3), hl3, hbl, fun v2 e2 n2 H4 k4 t2 g2 st2 hb4 hl4 => ⟨_, _, rfl, ?_⟩⟩
    refine ⟨_, rfl, z4, fun lx hlx => ?_⟩
    have s5 := same_new hlx (o := .lst [.str "+", .str "-", .str "*", .str "<"])
    refine ⟨b, lx, _, c + 1 + cost 3 + cost 3, rfl, upd_same, (hb4.ne hlx).symm, List.cons_ne_nil _ _, by simp, hb4.same s5, by omega, fun y H5 hy k5 hb5 => ⟨_, rfl, _, rfl, z4, fun t ht => ?_⟩⟩
    have hy' : ∃ s : Str, y = .str s ∧ s ∈ (["+", "-", "*", "<"] : List Str) := by
      simp only [List.mem_cons, List.not_mem_nil, or_false] at hy
      rcases hy with rfl | rfl | rfl | rfl
      · exact ⟨_, rfl, List.mem_of_getElem? (i := 0) rfl⟩
      · exact ⟨_, rfl, List.mem_of_getElem? (i := 1) rfl⟩
      · exact ⟨_, rfl, List.mem_of_getElem? (i := 2) rfl⟩
      · exact ⟨_, rfl, List.mem_of_getElem? (i := 3) rfl⟩
    obtain ⟨s, rfl, hs⟩ := hy'
    have s6 := same_new ht (o := .tup [.str "op", .str s, v1, v2])
    have k56 : Kp (Two b l) H4 _ := (Kp.of s5).trans (k5.one.trans (Kp.of s6))
    have es : steps (.nd (.op s) [e1, e2]) = steps e1 + steps e2 := by simp [steps, stepsL, ownN]
    have gk : ∀ x ∈ [e1, e2], Got B g 3 x := fun x hx => by
      simp only [List.mem_cons, List.not_mem_nil, or_false] at hx
      rcases hx with rfl | rfl
      · exact g1
      · exact g2
    refine q (.ref t) (.nd (.op s) [e1, e2]) _ (dr _ (kp2.one.trans (k3.trans (k4.trans k56)))) ?_ (Got.nd ⟨hs, rfl⟩ gk (by simp) (fun _ => rfl)) (by omega) ((hb5.same s6).mono (by omega))
    rw [TreeAt]
    exact ⟨t, [v1, v2], rfl, upd_same, trees2 (t1.keep (k4.trans k56).tk) (t2.keep k56.tk)⟩
/-! the open nodes, plainly -/
/-- Good with no points -/
theorem call_isiK {X : Cx} {K : PySem.W.Frag} (hK : X.K = K) : CallR X (.builtin "isinstance") (rIsi K) := by
  subst hK
  exact call_isi
def opnL (e : Ex) : List Path := opn [] (nodes e [])
def isO (q : Path × Ex) : Bool := isOpen q.2
def isNd (q : Path × Ex) : Bool := match q.2 with
  | .num _ => false
  | _ => true
theorem take_snoc {α : Type} {l : List α} {i : Nat} {x : α} (h : l[i]? = some x) : l.take (i + 1) = l.take i ++ [x] := by rw [List.take_add_one, h]; rfl
theorem filter_snoc {α : Type} {l : List α} {f : α → Bool} {x : α} (h : f x = true) : (l ++ [x]).filter f = l.filter f ++ [x] := by
  rw [List.filter_append, List.filter_cons_of_pos h, List.filter_nil]
theorem filter_drop {α : Type} {l : List α} {f : α → Bool} {x : α} (h : f x = false) : (l ++ [x]).filter f = l.filter f := by
  rw [List.filter_append, List.filter_cons_of_neg (by rw [h]; decide), List.filter_nil, List.append_nil]
def spLOpen (K : PySem.W.Frag) : Sp := fun vs H Q _ => ∃ v B e, vs = [v] ∧ TreeAt H v e ∧ All (Wf B) e ∧ dep e ≤ 4 ∧ cnt e ≤ 150 ∧
  ∀ l ys qs H', Same H H' → H l = none → H' l = some (.lst ys) → PathsAt H' ys qs → (∀ q, q ∈ qs ↔ ∃ c, sub e q = some c ∧ isOpen c = true) → qs.Pairwise (· < ·) → Q (.ref l) H'
abbrev loN : List Str := ["_law_expr_here", "_law_some_here", "_law_pair", "_law_path", "_law_node"]
theorem sc_lopen : FnScope loN ["_law_expr_here"] (defScope (top 64)) := ⟨rfl, rfl, rfl, by decide +kernel, rfl, by decide +kernel, by decide +kernel⟩
theorem w_lopen (T : Txt K w mg) (cN : CallP P w K mg base 6 "_law_nodes" (spSpots 5)) : CallP P w K mg base 7 "_law_open" (spLOpen K) := by
  refine mkP (k := 6) T 40 sc_lopen (fun _ _ _ _ _ _ us hl => match us, hl with | [_], _ => rfl) (fun vs H Q E h => ?_) fun cdv A outer s H vs Q E hr h => ?_
  · obtain ⟨v, B, e, rfl, _⟩ := h
    rfl
  obtain ⟨v, B, e, rfl, ht, wf, hd, hct, q⟩ := h
  have hz : (1000 : Nat) < sizeLine := by decide
  refine ⟨_, pss_cons (ps_setLc (i := 1) (own := [("_law_pair", 2)]) (g := gName 2) rfl sc_lopen.nd rfl rfl (by rfl) (pi_list (pe_fn cN hr (by decide) (by rfl) (pa_cons (pv 0) (pa_cons (pe_tup pa_nil) pa_nil)))) (blkOk_by (N := loN) (sc := defScope (top 64)) (by decide +kernel))
      (fun _ _ _ _ _ => pg_name (i := 2) sc_lopen.nd rfl (Or.inl rfl)) (fun _ _ _ _ _ => pts_one (pt_not (pt_val (pe_callB (r := rIsi K) (call_isiK rfl) (by rfl) (T.free "isinstance" (by decide +kernel)) (by decide +kernel) (pa_cons (pe_ix (r := rIxT K) ix_tup (pv 2) pe_int (fun _ _ => rfl)) (pa_cons (pe_bltn (v := .ty "int") (by rfl) (T.free "int" (by decide +kernel)) (by decide +kernel) rfl) pa_nil)))))) (fun _ _ _ _ _ => pv 2))
    (pss_one (ps_ret (pe_callB (cr_sortT (hu3 hr)) (by rfl) (T.free "sorted" (by decide +kernel)) (by decide +kernel) (pa_cons (pe_lc (own := [("_law_path", 3), ("_law_node", 4)]) (g := gTup K 2 (gCons (gName 3) (gCons (gName 4) gNil))) rfl sc_lopen.nd (pi_list (pv 1)) (blkOk_by (N := loN) (sc := defScope (top 64)) (by decide +kernel))
      (fun _ _ _ _ _ => pg_tup rfl (pgs_cons (pg_name (i := 3) sc_lopen.nd rfl (Or.inl rfl)) (pgs_cons (pg_name (i := 4) sc_lopen.nd rfl (Or.inl rfl)) pgs_nil)))
      (fun _ _ _ _ _ => pts_one (PW.pt (pw_or (pt_cmpR op_eq (pe_ix (r := rIxT K) ix_tup (pv 4) pe_int (fun _ _ => rfl)) pe_str (nomark _)) (pw_or1 (PW.pt (pw_and (pt_cmpR op_eq (pe_ix (r := rIxT K) ix_tup (pv 4) pe_int (fun _ _ => rfl)) pe_str (nomark _)) (pw_and1 (pt_cmpR op_gt (pe_callB (r := rLenK K) (call_lenK rfl) (by rfl) (T.free "len" (by decide +kernel)) PySem.boot_len (pa_cons (pe_ix (r := rIxT K) ix_tup (pv 4) pe_int (fun _ _ => rfl)) pa_nil)) pe_int (nomark _))))))))) (fun _ _ _ _ _ => pv 3)) pa_nil)))), ?_⟩
  refine ⟨_, rfl, z0, fun t0 ht0 => ?_⟩
  have s0 := same_new ht0 (o := .tup [])
  refine ⟨v, .ref t0, B, e, [], rfl, ht.keep s0.tk, wf, by omega, ⟨t0, rfl, upd_same⟩, by show 0 + dep e ≤ 100; omega, by omega, fun ln rs H1 s1 hln hrs => ?_⟩
  have s01 := s0.trans s1
  have hrl : rs.length = cnt e := by rw [Paired.length hrs, nodes_cnt]
  have hnl : (nodes e []).length = cnt e := nodes_cnt e []
  refine ⟨ln, rfl, ⟨_, SqL.of hln⟩, fun D hD => lc_gen Nix rs.length (fun i acc H' => SpotsAt H' acc (((nodes e []).take i).filter isNd)) hD (fun a h => h.elim) (fun H' _ => .nil) (fun i acc H' H'' g k => SpotsAt.keep k.tk g) (fun i acc H' hi g => ?_) (fun i H' hi k => ⟨rs, rs[i], SqL.of (k.same _ _ hln), List.getElem?_eq_getElem hi⟩) (fun H' k => ⟨rs, SqL.of (k.same _ _ hln), Nat.le_refl _⟩) ?_ ?_⟩
  · have := Paired.length g
    have h2 := List.length_filter_le isNd ((nodes e []).take i)
    rw [List.length_take] at h2
    omega
  · rintro i acc x H2 H3 N1 N0 n1 n0 hi k g ⟨rfl, hx⟩
    have s2 := k.same
    have gx := hx rs (SqL.of (s2 _ _ hln))
    obtain ⟨⟨p, c⟩, gn, t, vp, ve, rfl, ht1, hp1, hc1⟩ := paired_get (hrs.keep s2.tk) gx
    refine ⟨rfl, _, rfl, t, _, _, _, rfl, rfl, SqT.of ht1, atI_nat (j := 1) rfl, ?_⟩
    cases c with
    | num z =>
      rw [TreeAt] at hc1
      subst hc1
      exact ⟨.int z, .ty "int", _, _, true, rfl, .ty _, tyInt z, kit_ty (by decide +kernel), _, rfl, iteF (n0 _ (Kp.rfl _ _) (by rw [take_snoc gn, filter_drop rfl]; exact g))⟩
    | nd kd es =>
      have hc2 := hc1
      rw [TreeAt] at hc1
      obtain ⟨a, ws, rfl, hnn, hks⟩ := hc1
      obtain ⟨r1, hw⟩ := node_word hnn
      exact ⟨.ref a, .ty "int", _, _, false, rfl, .ty _, tyT hw, kit_ty (by decide +kernel), _, rfl, iteT ⟨_, rfl, n1 _ _ (Kp.rfl _ _) (by rw [take_snoc gn, filter_snoc rfl]; exact Paired.app g (.cons ⟨t, vp, _, rfl, ht1, hp1, hc2⟩ .nil))⟩⟩
  rintro H2 acc k e2 g
  have s2 := k.same
  rw [List.take_of_length_le (by omega)] at g
  have hal := Paired.length g
  have hfl := List.length_filter_le isNd (nodes e [])
  have hnd2 : ∀ q ∈ (nodes e []).filter isNd, ∃ kd es, q.2 = .nd kd es := fun q hq => by
    obtain ⟨_, h2⟩ := List.mem_filter.mp hq
    obtain ⟨p, c⟩ := q
    cases c with
    | num z => cases h2
    | nd kd es => exact ⟨kd, es, rfl⟩
  generalize hL : (nodes e []).filter isNd = L at g hal hfl hnd2
  refine ⟨_, rfl, D, rfl, ⟨_, SqL.of e2⟩, fun D2 hD2 => lc_gen Nix acc.length (fun i acc2 H' => PathsAt H' acc2 (((L.take i).filter isO).map fun q : Path × Ex => q.1)) hD2 (fun a h => h.elim) (fun H' _ => .nil) (fun i acc H' H'' g k => g.keep k.tk) (fun i acc H' hi g => ?_) (fun i H' hi k => ⟨acc, acc[i], SqL.of (k.same _ _ e2), List.getElem?_eq_getElem hi⟩) (fun H' k => ⟨acc, SqL.of (k.same _ _ e2), Nat.le_refl _⟩) ?_ ?_⟩
  · have := Paired.length g
    rw [List.length_map] at this
    have h2 := List.length_filter_le isO (L.take i)
    rw [List.length_take] at h2
    omega
  · rintro i acc2 x H3 H4 N1 N0 n1 n0 hi k3 g3 ⟨rfl, hx⟩
    have s3 := k3.same
    have gx := hx acc (SqL.of (s3 _ _ e2))
    obtain ⟨⟨p, c⟩, gn, t, vp, ve, rfl, ht1, hp1, hc1⟩ := paired_get (SpotsAt.keep s3.tk g) gx
    obtain ⟨kd, es, rfl⟩ : ∃ kd es, c = .nd kd es := hnd2 (p, c) (List.mem_of_getElem? gn)
    rw [TreeAt] at hc1
    obtain ⟨a, ws, rfl, hnn, hks⟩ := hc1
    obtain ⟨r1, hw⟩ := node_word hnn
    have hoo : isO (p, Ex.nd kd es) = isOpen (.nd kd es) := rfl
    have yes : isOpen (.nd kd es) = true → N1 vp H4 := fun ho => n1 _ _ (Kp.rfl _ _) (by rw [take_snoc gn, filter_snoc (f := isO) (hoo.trans ho), List.map_append]; exact Paired.app g3 (.cons hp1 .nil))
    have no : isOpen (.nd kd es) = false → N0 H4 := fun ho => n0 _ (Kp.rfl _ _) (by rw [take_snoc gn, filter_drop (f := isO) (hoo.trans ho)]; exact g3)
    refine ⟨t, _, rfl, SqT.of ht1, rfl, _, _, rfl, _, _, rfl, rfl, rfl, _, rfl, a, _, _, _, rfl, rfl, SqT.of hw, at0, rfl, _, rfl, ?_⟩
    cases kd with
    | op o => exact iteT2 (by rfl) (iteT ⟨_, rfl, yes rfl⟩)
    | call f =>
      obtain ⟨bb, h1, h2⟩ := hnn
      refine iteF2 (by rfl) ⟨_, rfl, a, _, _, _, rfl, rfl, SqT.of h1, at0, rfl, _, rfl, iteT2 (by rfl) ?_⟩
      have hwl := trees_len hks
      refine ⟨_, rfl, a, _, _, _, rfl, rfl, SqT.of h1, atI_nat (j := 2) rfl, bb, _, rfl, .inr (SqT.of h2), _, _, rfl, rfl, _, rfl, ite2 (fun hb => ⟨_, rfl, yes ?_⟩) (fun hb => no ?_)⟩
      · have h5 := of_decide_eq_true hb
        show decide (1 < es.length) = true
        exact decide_eq_true (by omega)
      · have h5 : ¬ ((1 : Int) < ((ws.length : Nat) : Int)) := fun z => hb (decide_eq_true z)
        show decide (1 < es.length) = false
        exact decide_eq_false (by omega)
    | _ => exact iteF2 (by rfl) ⟨_, rfl, a, _, _, _, rfl, rfl, SqT.of hw, at0, rfl, _, rfl, iteF2 (by rfl) (iteF (no rfl))⟩
  · rintro H3 acc2 k3 e3 g3
    rw [List.take_of_length_le (by omega)] at g3
    have s3 := k3.same
    refine ⟨D2, acc2, _, rfl, SqL.of e3, g3, fun ys qs l hy perm srt hl => ?_⟩
    have s4 := same_new hl (o := .lst ys)
    have nd : ((L.filter isO).map (·.1)).Nodup := (nodes_nodup e []).sublist (List.Sublist.map _ ((List.filter_sublist).trans (by rw [← hL]; exact List.filter_sublist)))
    have sAll := s01.trans (s2.trans s3)
    refine q l ys qs _ (sAll.trans s4) (sAll.free hl) upd_same (hy.keep s4.tk) (fun q' => ?_) (strict_of srt (perm.nodup_iff.mpr nd))
    rw [perm.mem_iff, List.mem_map]
    constructor
    · rintro ⟨⟨p, c⟩, h1, rfl⟩
      obtain ⟨h2, h3⟩ := List.mem_filter.mp h1
      rw [← hL] at h2
      exact ⟨c, nodes_in.mp (List.mem_filter.mp h2).1, h3⟩
    · rintro ⟨c, h1, h2⟩
      refine ⟨(q', c), List.mem_filter.mpr ⟨?_, h2⟩, rfl⟩
      rw [← hL]
      refine List.mem_filter.mpr ⟨nodes_in.mpr h1, ?_⟩
      cases c with
      | num z => cases h2
      | nd kd es => rfl
end
end Oo

set_option Elab.async false
set_option linter.all false
set_option maxRecDepth 100000
set_option maxHeartbeats 4000000
/-! The law's points, told. -/
namespace Oo
open PySem PySem.Spec PyProof.Rows L2
def spPoints (K : PySem.W.Frag) : Sp := fun vs H Q _ => ∃ (b : Addr) (v : V) (B : List Fd) (e : Ex) (c : Nat), vs = [.ref b, v] ∧ BagAt H b c ∧ c + 300 ≤ lim ∧ TreeAt H v e ∧ All (Wf B) e ∧ dep e ≤ 4 ∧ cnt e ≤ 150 ∧
  ∀ t xs (R : List Path) H', Kp (One b) H H' → H' t = some (.tup xs) → PathsAt H' xs R → R.Pairwise (· < ·) → (∀ p ∈ R, ∃ c, sub e p = some c ∧ isOpen c = true) → BagAt H' b (c + 200) → Q (.ref t) H'
section
variable {P : Program} {w : World} {K : PySem.W.Frag} {mg : Str → Option Value} {base : Heap}
abbrev ptN : List Str := ["_law_bag_here", "_law_expr_here", "_law_lot", "_law_path"]
theorem sc_points : FnScope ptN ["_law_bag_here", "_law_expr_here"] (defScope (top 65)) := ⟨rfl, rfl, rfl, by decide +kernel, rfl, by decide +kernel, by decide +kernel⟩
theorem opn_few {e : Ex} {qs : List Path} (h : ∀ q, q ∈ qs ↔ ∃ c, sub e q = some c ∧ isOpen c = true) (up : qs.Pairwise (· < ·)) (hc : cnt e ≤ 150) : qs.length ≤ 150 := by
  have := nodup_le (m := (nodes e []).map (·.1)) (lt_nodup up) fun p hp => by
    obtain ⟨c, hc, _⟩ := (h p).mp hp
    exact List.mem_map.mpr ⟨(p, c), nodes_in.mpr hc, rfl⟩
  rw [List.length_map, nodes_cnt] at this
  omega
theorem w_points (T : Txt K w mg) (cT : CallP P w K mg base 1 "_law_take" spTake) (cO : CallP P w K mg base 7 "_law_open" (spLOpen K)) : CallP P w K mg base 8 "_law_points" (spPoints K) := by
  refine mkP (k := 7) T 41 sc_points (fun _ _ _ _ _ _ us hl => match us, hl with | [_, _], _ => rfl) (fun vs H Q E h => ?_) fun cdv A outer s H vs Q E hr h => ?_
  · obtain ⟨b, v, B, e, c, rfl, _⟩ := h
    rfl
  obtain ⟨b, v, B, e, c, rfl, hb, hc, ht, wf, hd, hct, q⟩ := h
  have hz : (1000 : Nat) < sizeLine := by decide
  refine ⟨_, pss_cons (ps_set (i := 2) sc_points.nd rfl (Or.inr rfl) (pe_fn cT hr (by decide) (by rfl) (pa_cons (pv 0) (pa_cons pe_int pa_nil))))
    (pss_cons (ps_if (pt_cmpR op_eq (pv 2) pe_int (nomark _)) (pss_one (ps_ret (pe_callTy call_tuple_of (by rfl) (T.free "tuple" (by decide +kernel)) (by decide +kernel) (pa_cons (pe_fn cO hr (by decide) (by rfl) (pa_cons (pv 1) pa_nil)) pa_nil)))) pss_nil)
    (pss_one (ps_ret (pe_callTy call_tuple_of (by rfl) (T.free "tuple" (by decide +kernel)) (by decide +kernel) (pa_cons (pe_lc (own := [("_law_path", 3)]) (g := gName 3) rfl sc_points.nd (pi_list (pe_fn cO hr (by decide) (by rfl) (pa_cons (pv 1) pa_nil))) (blkOk_by (N := ptN) (sc := defScope (top 65)) (by decide +kernel))
      (fun _ _ _ _ _ => pg_name (i := 3) sc_points.nd rfl (Or.inl rfl)) (fun _ _ _ _ _ => pts_one (PW.pt (pw_and (pt_cmpR op_lt (pv 2) pe_int (nomark _)) (pw_and1 (pt_cmpR op_eq (pe_fn cT hr (by decide) (by rfl) (pa_cons (pv 0) (pa_cons pe_int pa_nil))) pe_int (nomark _)))))) (fun _ _ _ _ _ => pv 3)) pa_nil))))), ?_⟩
  refine ⟨_, rfl, b, 6, c, rfl, by decide, by decide, hb, by omega, fun k H1 k0 k6 kp1 hb1 => ⟨_, rfl, rfl, _, rfl, ite2 (fun _ => ?_) (fun _ => ?_)⟩⟩
  · refine ⟨_, rfl, v, B, e, rfl, ht.keep kp1.tk, wf, hd, hct, fun l ys qs H2 s2 hl0 hl hys hq up => ⟨l, ys, rfl, .inl ⟨SqL.of hl, fun t htt => ?_⟩⟩⟩
    have s3 := s2.nw htt (o := .tup ys)
    exact q t ys qs _ (kp1.trans (Kp.of s3)) upd_same (hys.keep (same_new htt).tk) up (fun p hp => (hq p).mp hp) ((hb1.same s3).mono (by omega))
  · refine ⟨_, rfl, v, B, e, rfl, ht.keep kp1.tk, wf, hd, hct, fun l ys qs H2 s2 hl0 hl hys hq up => ?_⟩
    have few := opn_few hq up hct
    have hyl : ys.length = qs.length := Paired.length hys
    have hlb : l ≠ b := (hb1.ne hl0).symm
    have hb2 := hb1.same s2
    refine ⟨l, rfl, ⟨_, SqL.of hl⟩, fun D hD => lc_gen (One b) ys.length (fun i acc H' => ∃ qs', PathsAt H' acc qs' ∧ qs'.Sublist (qs.take i) ∧ BagAt H' b (c + 1 + i)) hD (fun a h => by rw [show a = b from h]; exact hb2.has) (fun H' s => ⟨[], .nil, List.nil_sublist _, hb2.same s⟩)
      (fun i acc H' H'' ⟨qs', g1, g2, g3⟩ k => ⟨qs', g1.keep k.tk, g2, g3.kp k (hb2.ne hD)⟩) (fun i acc H' hi ⟨qs', g1, g2, _⟩ => ?_) (fun i H' hi k => ⟨_, _, SqL.of (k.at hl hlb), List.getElem?_eq_getElem hi⟩) (fun H' k => ⟨_, SqL.of (k.at hl hlb), Nat.le_refl _⟩) ?_ ?_⟩
    · have h1 := g2.length_le
      rw [List.length_take] at h1
      have h2 : acc.length = qs'.length := Paired.length g1
      omega
    · rintro i acc x H3 H4 N1 N0 n1 n0 hi k3 ⟨qs', g1, g2, g3⟩ ⟨rfl, hx⟩
      have gx := hx ys (SqL.of (k3.at hl hlb))
      obtain ⟨p, gp, hp⟩ := paired_get (hys.keep k3.tk) gx
      refine ⟨rfl, _, rfl, _, _, rfl, rfl, _, rfl, ite2 (fun _ => ?_) (fun _ => iteF (n0 _ (Kp.rfl _ _) ⟨qs', g1, ?_, g3.mono (by omega)⟩))⟩
      · refine ⟨_, rfl, b, 3, c + 1 + i, rfl, by decide, by decide, g3, by omega, fun z H5 z0 z3 kp5 hb5 => ⟨rfl, _, rfl, ite2 (fun _ => ⟨_, rfl, n1 _ _ kp5 ⟨qs' ++ [p], Paired.app (g1.keep kp5.tk) (.cons (hp.keep kp5.tk) .nil), ?_, hb5⟩⟩) (fun _ => n0 _ kp5 ⟨qs', g1.keep kp5.tk, ?_, hb5⟩)⟩⟩
        · rw [take_snoc gp]; exact List.Sublist.append g2 (List.Sublist.refl _)
        · rw [take_snoc gp]; exact g2.trans (List.sublist_append_left _ _)
      · rw [take_snoc gp]; exact g2.trans (List.sublist_append_left _ _)
    · rintro H3 acc k3 e3 ⟨qs', g1, g2, g3⟩
      rw [List.take_of_length_le (by omega)] at g2
      refine ⟨D, acc, rfl, .inl ⟨SqL.of e3, fun t htt => ?_⟩⟩
      have s4 := same_new htt (o := .tup acc)
      exact q t acc qs' _ (kp1.trans ((Kp.of s2).trans (k3.trans (Kp.of s4)))) upd_same (g1.keep s4.tk) (up.sublist g2) (fun p hp => (hq p).mp (g2.subset hp)) ((g3.same s4).mono (by omega))
/-! told -/
def outL (R : List Path) (e : Ex) (i n : Nat) : List V := ((List.range n).filter fun j => rel R e i j).map fun j => V.int (j : Nat)
def ToldAt (H : Hp) (l : Addr) (R : List Path) (e : Ex) : Prop := ∃ ls : List Addr, H l = some (.lst (ls.map V.ref)) ∧ ls.length = steps e ∧ ∀ i li, ls[i]? = some li → H li = some (.lst (outL R e i (steps e)))
theorem ToldAt.keep {H H' : Hp} {l : Addr} {R : List Path} {e : Ex} (s : Same H H') (h : ToldAt H l R e) : ToldAt H' l R e := let ⟨ls, h1, h2, h3⟩ := h; ⟨ls, s _ _ h1, h2, fun i li g => s _ _ (h3 i li g)⟩
def spTold (K : PySem.W.Frag) : Sp := fun vs H Q _ => ∃ (a : Addr) (B : List Fd) (e : Ex) (R : List Path), vs = [.ref a] ∧ TaskAt K H a B e R ∧ Good B e R ∧ ∀ l H', Same H H' → ToldAt H' l R e → Q (.ref l) H'
theorem outL_len (R : List Path) (e : Ex) (i n : Nat) : (outL R e i n).length ≤ n := by
  unfold outL
  rw [List.length_map]
  exact Nat.le_trans (List.length_filter_le _ _) (by rw [List.length_range]; exact Nat.le_refl _)
theorem outL_t {R : List Path} {e : Ex} {i n : Nat} (h : rel R e i n = true) : outL R e i (n + 1) = outL R e i n ++ [.int (n : Nat)] := by
  unfold outL
  rw [List.range_succ, List.filter_append, List.filter_cons_of_pos (p := fun j => rel R e i j) h, List.filter_nil, List.map_append]
  rfl
theorem outL_f {R : List Path} {e : Ex} {i n : Nat} (h : rel R e i n = false) : outL R e i (n + 1) = outL R e i n := by
  unfold outL
  rw [List.range_succ, List.filter_append, List.filter_cons_of_neg (p := fun j => rel R e i j) (by rw [h]; decide), List.filter_nil, List.append_nil]
abbrev tdN : List Str := ["_law_task", "_law_many", "_law_one", "_law_other"]
theorem sc_told : FnScope tdN ["_law_task"] (defScope (top 66)) := ⟨rfl, rfl, rfl, by decide +kernel, rfl, by decide +kernel, by decide +kernel⟩
theorem w_told (T : Txt K w mg) (cL : MethP P w K mg base 1 (He.ga K "Task") "__len__" (spLenT K)) (cP : CallP P w K mg base 12 "precedes" (spPrecedes K)) : CallP P w K mg base 13 "_law_told" (spTold K) := by
  obtain ⟨_, mL, _, FL⟩ := cL
  refine mkP (k := 12) T 42 sc_told (fun _ _ _ _ _ _ us hl => match us, hl with | [_], _ => rfl) (fun vs H Q E h => ?_) fun cdv A outer s H vs Q E hr h => ?_
  · obtain ⟨a, B, e, R, rfl, _⟩ := h
    rfl
  obtain ⟨a, B, e, R, rfl, ta, gd, q⟩ := h
  have hst := gd.st
  have hz : (1000 : Nat) < sizeLine := by decide
  refine ⟨_, pss_cons (ps_set (i := 1) sc_told.nd rfl (Or.inr rfl) (pe_callB (call_lenOwn mL FL (hr.mono (by decide)) pass0) (by rfl) (T.free "len" (by decide +kernel)) PySem.boot_len (pa_cons (pv 0) pa_nil)))
    (pss_one (ps_ret (pe_lc (own := [("_law_one", 2)]) (g := gName 2) (tt := tYes) rfl sc_told.nd (pi_range1 (by rfl) (T.free "range" (by decide +kernel)) (pa_cons (pv 1) pa_nil)) (blkOk_by (N := tdN) (sc := defScope (top 66)) (by decide +kernel))
      (fun _ _ _ _ _ => pg_name (i := 2) sc_told.nd rfl (Or.inr rfl)) (fun _ _ _ _ _ => pts_nil)
      (fun _ _ _ _ _ => pe_lc (own := [("_law_other", 3)]) (g := gName 3) rfl sc_told.nd (pi_range1 (by rfl) (T.free "range" (by decide +kernel)) (pa_cons (pv 1) pa_nil)) (by exact blkOk_by (by kernel_rfl))
        (fun _ _ _ _ _ => pg_name (i := 3) sc_told.nd rfl (Or.inl rfl)) (fun _ _ _ _ _ => pts_one (pt_val (pe_fn cP hr (by decide) (by rfl) (pa_cons (pv 0) (pa_cons (pv 2) (pa_cons (pv 3) pa_nil)))))) (fun _ _ _ _ _ => pv 3))))), ?_⟩
  obtain ⟨dxa, vb, ve, d, pt, owa, xs, ys, h1, h2, h3, h4, h5, h6, h7, h8⟩ := ta.ex
  refine ⟨_, rfl, a, dxa, _, rfl, h1, a, B, e, R, rfl, ta, ((steps e : Nat) : Int), rfl, by omega, by omega, ?_⟩
  refine ⟨_, rfl, ((steps e : Nat) : Int), rfl, by omega, by omega, fun D hD => lc_it (steps e) (fun i H' => Same H H' ∧ ∃ ls : List Addr, H' D = some (.lst (ls.map V.ref)) ∧ ls.length = i ∧ ∀ k lk, ls[k]? = some lk → H' lk = some (.lst (outL R e k (steps e))) ∧ lk ≠ D) ⟨same_new hD, [], upd_same, rfl, fun k lk g => by simp at g⟩
    (fun i H' hi _ => by show i < ((steps e : Nat) : Int).toNat; omega) (fun H' _ => by show ((steps e : Nat) : Int).toNat ≤ steps e; omega) ?_ ?_⟩
  · rintro i x H1 H2 hi ⟨s1, ls, hD1, hln, hls⟩ ⟨rfl, hv⟩
    rw [Int.zero_add] at hv
    subst hv
    refine ⟨rfl, _, rfl, ((steps e : Nat) : Int), rfl, by omega, by omega, fun D2 hD2 => lc_gen Nix (steps e) (fun j acc H' => acc = outL R e i j) hD2 (fun a h => h.elim) (fun H' _ => rfl) (fun j acc H' H'' g k => g) (fun j acc H' hj g => by rw [g]; have := outL_len R e i j; omega) (fun j H' hj _ => by show j < ((steps e : Nat) : Int).toNat; omega) (fun H' _ => by show ((steps e : Nat) : Int).toNat ≤ steps e; omega) ?_ ?_⟩
    · rintro j acc x H3 H4 N1 N0 n1 n0 hj k3 rfl ⟨rfl, hv⟩
      rw [Int.zero_add] at hv
      subst hv
      refine ⟨rfl, _, rfl, _, rfl, _, rfl, a, B, e, R, i, j, rfl, ta.keep (s1.trans k3.same), gd, hi, hj, fun H5 s5 => ⟨_, rfl, ?_⟩⟩
      cases hr2 : rel R e i j with
      | true => exact iteT ⟨_, rfl, n1 _ _ (Kp.of s5) (outL_t hr2).symm⟩
      | false => exact iteF (n0 _ (Kp.of s5) (outL_f hr2).symm)
    · rintro H3 acc k3 e3 rfl
      have s3 := k3.same
      have hD3 := s3 _ _ hD1
      have nD : D2 ≠ D := fun z => by rw [z, hD1] at hD2; cases hD2
      refine ⟨ls.map V.ref, hD3, by rw [List.length_map]; omega, same_set (s1.trans s3) hD, ls ++ [D2], by rw [upd_same, List.map_append]; rfl, by rw [List.length_append, hln]; rfl, fun k lk g => ?_⟩
      by_cases hk : k < ls.length
      · rw [List.getElem?_append_left hk] at g
        obtain ⟨g1, g2⟩ := hls k lk g
        exact ⟨by rw [upd_ne g2]; exact s3 _ _ g1, g2⟩
      · rw [List.getElem?_append_right (by omega)] at g
        have hk0 : k - ls.length = 0 := by
          have := (List.getElem?_eq_some_iff.mp g).1
          rw [List.length_singleton] at this
          omega
        rw [hk0] at g
        obtain rfl : D2 = lk := by simpa using g
        obtain rfl : k = i := by omega
        exact ⟨by rw [upd_ne nD]; exact e3, nD⟩
  · rintro H1 ⟨s1, ls, hD1, hln, hls⟩
    exact q D H1 s1 ⟨ls, hD1, hln, fun i li g => (hls i li g).1⟩
end
end Oo

set_option Elab.async false
set_option linter.all false
set_option maxRecDepth 100000
set_option maxHeartbeats 4000000
/-! The law's right. -/
namespace Oo
open PySem PySem.Spec PyProof.Rows L2
theorem rel_trans {R : List Path} {e : Ex} {i j k : Nat} (h1 : rel R e i j = true) (h2 : rel R e j k = true) : rel R e i k = true := by
  unfold rel at *
  rw [Bool.and_eq_true, decide_eq_true_eq] at *
  obtain ⟨l1, t1⟩ := h1
  obtain ⟨l2, t2⟩ := h2
  refine ⟨by omega, ?_⟩
  unfold tells at *
  cases hi : (rows e [])[i]? with
  | none => rw [hi] at t1; cases t1
  | some p =>
    cases hj : (rows e [])[j]? with
    | none => rw [hi, hj] at t1; cases t1
    | some q =>
      cases hk : (rows e [])[k]? with
      | none => rw [hj, hk] at t2; cases t2
      | some r =>
        rw [hi, hj] at t1
        rw [hj, hk] at t2
        obtain ⟨hi1, ei⟩ := List.getElem?_eq_some_iff.mp hi
        obtain ⟨hj1, ej⟩ := List.getElem?_eq_some_iff.mp hj
        obtain ⟨hk1, ek⟩ := List.getElem?_eq_some_iff.mp hk
        have p1 := List.pairwise_iff_getElem.mp (rows_po e []) i j hi1 hj1 l1
        have p2 := List.pairwise_iff_getElem.mp (rows_po e []) j k hj1 hk1 l2
        rw [ei, ej] at p1
        rw [ej, ek] at p2
        exact prec_trans _ _ p1 p2 t1 t2
theorem out_get {R : List Path} {e : Ex} {i n k : Nat} {x : V} (h : (outL R e i n)[k]? = some x) : ∃ j : Nat, x = .int (j : Nat) ∧ j < n ∧ rel R e i j = true := by
  have hm := List.mem_of_getElem? h
  unfold outL at hm
  obtain ⟨j, h1, rfl⟩ := List.mem_map.mp hm
  obtain ⟨h2, h3⟩ := List.mem_filter.mp h1
  exact ⟨j, rfl, List.mem_range.mp h2, h3⟩
theorem inV_out (R : List Path) (e : Ex) (i : Nat) {j n : Nat} (hj : j < n) : inV (.int (j : Nat)) (outL R e i n) = rel R e i j := by
  unfold inV outL
  rw [List.any_map, Bool.eq_iff_iff, List.any_eq_true]
  constructor
  · rintro ⟨k, hk, he⟩
    obtain ⟨h1, h2⟩ := List.mem_filter.mp hk
    have h3 : ((k : Nat) : Int) = (j : Nat) := by simpa [eqV] using he
    have h4 : k = j := by omega
    rw [← h4]
    exact h2
  · intro h
    exact ⟨j, List.mem_filter.mpr ⟨List.mem_range.mpr hj, h⟩, by simp [eqV]⟩
theorem out_flat (R : List Path) (e : Ex) (i n : Nat) : (outL R e i n).all flatV = true := by
  unfold outL
  rw [List.all_eq_true]
  intro x hx
  obtain ⟨s, _, rfl⟩ := List.mem_map.mp hx
  rfl
def spRight (K : PySem.W.Frag) : Sp := fun vs H Q _ => ∃ (a l : Addr) (B : List Fd) (e : Ex) (R : List Path), vs = [.ref a, .ref l] ∧ TaskAt K H a B e R ∧ Good B e R ∧ ToldAt H l R e ∧ ∀ H', Same H H' → Q (.bl true) H'
section
variable {P : Program} {w : World} {K : PySem.W.Frag} {mg : Str → Option Value} {base : Heap}
abbrev rgN : List Str := ["_law_task", "_law_told_here", "_law_rows", "_law_one", "_law_other", "_law_beyond", "_law_path", "_law_inner", "_law_last", "_law_pair"]
theorem sc_right : FnScope rgN ["_law_task", "_law_told_here"] (defScope (top 67)) := ⟨rfl, rfl, rfl, by decide +kernel, rfl, by decide +kernel, by decide +kernel⟩
theorem w_right (T : Txt K w mg) (cS : CallP P w K mg base 10 "steps" (spSteps K)) (cR : CallP P w K mg base 12 "races" (spRaces K)) : CallP P w K mg base 13 "_law_right" (spRight K) := by
  refine mkP (k := 12) T 43 sc_right (fun _ _ _ _ _ _ us hl => match us, hl with | [_, _], _ => rfl) (fun vs H Q E h => ?_) fun cdv A outer s H vs Q E hr h => ?_
  · obtain ⟨a, l, B, e, R, rfl, _⟩ := h
    rfl
  obtain ⟨a, l, B, e, R, rfl, ta, gd, tl, q⟩ := h
  have hst := gd.st
  have hz : (1000 : Nat) < sizeLine := by decide
  have hu := hu_of hr
  have hu0 := Nat.lt_of_succ_lt hu
  refine ⟨_, pss_cons (ps_set (i := 2) sc_right.nd rfl (Or.inl rfl) (pe_fn cS hr (by decide) (by rfl) (pa_cons (pv 0) pa_nil)))
    (pss_cons (ps_for PassesOwn.never rfl (pi_range1 (by rfl) (T.free "range" (by decide +kernel)) (pa_cons (pe_callB call_len_seq (by rfl) (T.free "len" (by decide +kernel)) PySem.boot_len (pa_cons (pv 2) pa_nil)) pa_nil)) (pg_name (i := 3) sc_right.nd rfl (Or.inr rfl))
      (pss_cons (ps_for PassesOwn.never rfl (pi_list (pe_ix ix_list (pv 1) (pv 3) (fun _ _ => rfl))) (pg_name (i := 4) sc_right.nd rfl (Or.inl rfl))
        (pss_cons (ps_setLc (i := 5) (own := [("_law_last", 8)]) (g := gName 8) rfl sc_right.nd rfl rfl (by rfl) (pi_list (pe_ix ix_list (pv 1) (pv 4) (fun _ _ => rfl))) (blkOk_by (N := rgN) (sc := defScope (top 67)) (by decide +kernel))
          (fun _ _ _ _ _ => pg_name (i := 8) sc_right.nd rfl (Or.inl rfl)) (fun _ _ _ _ _ => pts_one (pt_cmpR (r := rIn K true) op_notIn_seq (pv 8) (pe_ix (r := rIxL K) ix_list (pv 1) (pv 3) (fun _ _ => rfl)) rfl)) (fun _ _ _ _ _ => pv 8))
        (pss_one (ps_if (PW.pt (pw_or (pt_cmpR op_le (pv 4) (pv 3) (nomark _)) (pw_or1 (pt_cmpR (op_neNil hu0) (pv 5) (pe_lst pa_nil) (nomark _))))) (pss_one (ps_ret pe_bl)) pss_nil))))
      (pss_one (ps_for PassesOwn.never rfl (pi_range2 (by rfl) (T.free "range" (by decide +kernel)) (pa_cons (pe_op op_add (pv 3) pe_int) (pa_cons (pe_callB call_len_seq (by rfl) (T.free "len" (by decide +kernel)) PySem.boot_len (pa_cons (pv 2) pa_nil)) pa_nil))) (pg_name (i := 4) sc_right.nd rfl (Or.inl rfl))
        (pss_cons (ps_par (i := 6) (j := 7) (by rfl) sc_right.nd rfl rfl (by decide) rfl rfl (pa_cons (pe_ix ix_tup (pe_ix ix_list (pv 2) (pv 4) (fun _ _ => rfl)) pe_int (fun _ _ => rfl)) (pa_cons (pe_ix ix_tup (pe_ix ix_list (pv 2) (pv 3) (fun _ _ => rfl)) pe_int (fun _ _ => rfl)) pa_nil)) (by rfl))
        (pss_one (ps_if (PW.pt (pw_and (pt_cmpR (op_eqP hu0) (pe_slice sl_tupU (pv 7) po_none (po_some (pe_callB call_len_seq (by rfl) (T.free "len" (by decide +kernel)) PySem.boot_len (pa_cons (pv 6) pa_nil)))) (pv 6) (nomark _)) (pw_and1 (pt_cmpR op_notIn_seq (pv 4) (pe_ix ix_list (pv 1) (pv 3) (fun _ _ => rfl)) rfl)))) (pss_one (ps_ret pe_bl)) pss_nil)))))))
    (pss_one (ps_ret (pe_cmpR (op_eqNil hu0) (pe_lc (own := [("_law_pair", 9)]) (g := gName 9) rfl sc_right.nd (pi_list (pe_fn cR hr (by decide) (by rfl) (pa_cons (pv 0) pa_nil))) (blkOk_by (N := rgN) (sc := defScope (top 67)) (by decide +kernel))
      (fun _ _ _ _ _ => pg_name (i := 9) sc_right.nd rfl (Or.inl rfl)) (fun _ _ _ _ _ => pts_one (PW.pt (pw_or (pt_cmpR (r := rIn K false) op_in_seq (pe_ix (r := rIxT K) ix_tup (pv 9) pe_int (fun _ _ => rfl)) (pe_ix (r := rIxL K) ix_list (pv 1) (pe_ix (r := rIxT K) ix_tup (pv 9) pe_int (fun _ _ => rfl)) (fun _ _ => rfl)) rfl)
        (pw_or1 (pt_cmpR op_ge (pe_ix (r := rIxT K) ix_tup (pv 9) pe_int (fun _ _ => rfl)) (pe_ix (r := rIxT K) ix_tup (pv 9) pe_int (fun _ _ => rfl)) (nomark _)))))) (fun _ _ _ _ _ => pv 9)) (pe_lst pa_nil) (nomark _))))), ?_⟩
  refine ⟨_, rfl, a, B, e, R, rfl, ta, gd, fun lr rs H1 s1 hlr hrs => ?_⟩
  have hrl : rs.length = steps e := by rw [← rows_steps e []]; exact Paired.length hrs
  have tl1 := tl.keep s1
  have ta1 := ta.keep s1
  obtain ⟨ls, tD, tn, tls⟩ := tl1
  have tat : ∀ (H2 : Hp), Same H1 H2 → ∀ i (hi : i < ls.length), SqL K H2 l (ls.map V.ref) ∧ atI (ls.map V.ref) ((i : Nat) : Int) = some (.ref ls[i]) ∧ H2 ls[i] = some (.lst (outL R e i (steps e))) := fun H2 s2 i hi => by
    have g := List.getElem?_eq_getElem hi
    exact ⟨SqL.of (s2 _ _ tD), atI_nat (by rw [List.getElem?_map, g]; rfl), s2 _ _ (tls i _ g)⟩
  refine ⟨_, rfl, lr, rs, rfl, .inl (SqL.of hlr), ((rs.length : Nat) : Int), rfl, by omega, by omega, for_it rs.length (fun i σ H' => ∃ o3 o4 o5 o6 o7 : Option V, σ = [some (.ref a), some (.ref l), some (.ref lr), o3, o4, o5, o6, o7, none, none] ∧ Same H1 H') ⟨none, none, none, none, none, rfl, Same.refl _⟩
    (fun i σ H' hi _ => by show i < ((rs.length : Nat) : Int).toNat; omega) (fun σ H' _ => by show ((rs.length : Nat) : Int).toNat ≤ rs.length; omega) ?_ ?_⟩
  · rintro i v σ H2 H3 hi ⟨o3, o4, o5, o6, o7, rfl, s2⟩ ⟨rfl, hv⟩
    rw [Int.zero_add] at hv
    subst hv
    have his : i < steps e := by omega
    have hil : i < ls.length := by omega
    obtain ⟨g1, g2, g3⟩ := tat H3 s2 i hil
    refine ⟨_, rfl, _, rfl, l, _, _, _, rfl, rfl, g1, g2, ls[i], rfl, ⟨_, SqL.of g3⟩, for_it (outL R e i (steps e)).length (fun k σ H' => ∃ o4 o5 : Option V, σ = [some (.ref a), some (.ref l), some (.ref lr), some (.int (i : Nat)), o4, o5, o6, o7, none, none] ∧ Same H1 H') ⟨o4, o5, rfl, s2⟩
      (fun k σ H' hk ⟨_, _, _, s⟩ => ⟨_, _, SqL.of (tat H' s i hil).2.2, List.getElem?_eq_getElem hk⟩) (fun σ H' ⟨_, _, _, s⟩ => ⟨_, SqL.of (tat H' s i hil).2.2, Nat.le_refl _⟩) ?_ ?_⟩
    · rintro k v σ H4 H5 hk ⟨o4, o5, rfl, s4⟩ ⟨rfl, hx⟩
      have gx := hx _ (SqL.of (tat H5 s4 i hil).2.2)
      obtain ⟨j, rfl, hj, hrel⟩ := out_get gx
      have hij : i < j := by
        unfold rel at hrel
        rw [Bool.and_eq_true, decide_eq_true_eq] at hrel
        exact hrel.1
      have hjl : j < ls.length := by omega
      obtain ⟨t1, t2, t3⟩ := tat H5 s4 j hjl
      refine ⟨_, rfl, _, rfl, l, _, _, _, rfl, rfl, t1, t2, ls[j], rfl, ⟨_, SqL.of t3⟩, fun D hD => lc_gen Nix (outL R e j (steps e)).length (fun i acc H' => acc = []) hD (fun a h => h.elim) (fun H' _ => rfl) (fun i acc H' H'' g k => g) (fun i acc H' hi g => by rw [g]; exact Nat.lt_of_lt_of_le (Nat.zero_lt_one) z1)
        (fun m H' hm k => ⟨_, _, SqL.of (k.same _ _ t3), List.getElem?_eq_getElem hm⟩) (fun H' k => ⟨_, SqL.of (k.same _ _ t3), Nat.le_refl _⟩) ?_ ?_⟩
      · rintro m acc x H6 H7 N1 N0 n1 n0 hm k6 rfl ⟨rfl, hx⟩
        have gx := hx _ (SqL.of (k6.same _ _ t3))
        obtain ⟨z, rfl, hz', hrel2⟩ := out_get gx
        obtain ⟨u1, u2, u3⟩ := tat H7 (s4.trans k6.same) i hil
        refine ⟨rfl, _, rfl, _, rfl, _, rfl, l, _, _, _, rfl, rfl, u1, u2, ls[i], _, rfl, .inl (SqL.of u3), rfl, out_flat _ _ _ _, _, rfl, iteF2 (by rw [inV_out R e i hz', rel_trans hrel hrel2]; rfl) (n0 _ (Kp.rfl _ _) rfl)⟩
      · rintro H6 acc k6 e6 rfl
        refine ⟨_, rfl, _, rfl, _, _, rfl, rfl, _, rfl, ?_⟩
        rw [decide_eq_false (by omega)]
        refine iteF ⟨_, rfl, z0, fun le hle => ⟨D, le, [], rfl, rfl, SqL.of (same_new hle _ _ e6), SqL.of upd_same, _, rfl, iteF ?_⟩⟩
        exact ⟨_, _, rfl, (s4.trans k6.same).nw hle⟩
    · rintro σ H4 ⟨o4, o5, rfl, s4⟩
      have hlr4 := s4 _ _ hlr
      refine ⟨_, rfl, _, _, rfl, rfl, _, rfl, lr, rs, rfl, .inl (SqL.of hlr4), _, _, rfl, ⟨by omega, by omega, by omega, by omega⟩, for_it (rs.length - (i + 1)) (fun k σ H' => ∃ o4 o6 o7 : Option V, σ = [some (.ref a), some (.ref l), some (.ref lr), some (.int (i : Nat)), o4, o5, o6, o7, none, none] ∧ Same H1 H') ⟨o4, o6, o7, rfl, s4⟩
        (fun k σ H' hk _ => by show k < (((rs.length : Nat) : Int) - (((i : Nat) : Int) + 1)).toNat; omega) (fun σ H' _ => by show (((rs.length : Nat) : Int) - (((i : Nat) : Int) + 1)).toNat ≤ rs.length - (i + 1); omega) ?_ ?_⟩
      · rintro k v σ H5 H6 hk ⟨o4, o6, o7, rfl, s5⟩ ⟨rfl, hv⟩
        rw [show ((i : Nat) : Int) + 1 + (k : Nat) = ((i + 1 + k : Nat) : Int) by omega] at hv
        subst hv
        generalize hj : i + 1 + k = j
        have hjr : j < rs.length := by omega
        have hir : i < rs.length := hi
        have hlr5 := s5 _ _ hlr
        have gi := List.getElem?_eq_getElem hir
        have gj := List.getElem?_eq_getElem hjr
        obtain ⟨pi, epi, ri, fi, ri2, ri3, ki, rsi, ssi, eri, hri, hfi, _⟩ := paired_get (hrs.keep s5.tk) gi
        obtain ⟨pj, epj, rj, fj, rj2, rj3, kj, rsj, ssj, erj, hrj, hfj, _⟩ := paired_get (hrs.keep s5.tk) gj
        refine ⟨_, rfl, _, rfl, lr, _, _, _, rfl, rfl, SqL.of hlr5, atI_nat (gj.trans (congrArg some erj)), rj, _, _, _, rfl, rfl, SqT.of hrj, atI_nat (j := 1) rfl, ?_⟩
        refine ⟨_, rfl, _, rfl, lr, _, _, _, rfl, rfl, SqL.of hlr5, atI_nat (gi.trans (congrArg some eri)), ri, _, _, _, rfl, rfl, SqT.of hri, atI_nat (j := 1) rfl, _, _, rfl, ?_⟩
        refine ⟨_, rfl, _, rfl, fj, _, rfl, .inr (SqT.of hfj), _, rfl, fi, _, rfl, hfi, fun bb H7 s7 hb7 => ?_⟩
        rw [List.length_map, cut_to, ← List.map_take] at hb7
        refine ⟨_, rfl, pi.take pj.length, pj, ⟨bb, rfl, SqT.of hb7⟩, ⟨fj, rfl, SqT.of (s7 _ _ hfj)⟩, _, rfl, ite2 (fun hp => ?_) (fun _ => iteF ⟨_, _, _, rfl, s5.trans s7⟩)⟩
        have hpe : pi.take pj.length = pj := of_decide_eq_true hp
        have hrel : rel R e i j = true := by
          unfold rel
          rw [tells_at epi epj, decide_eq_true (by omega)]
          have hpp : pi = pj ++ pi.drop pj.length := by
            have := List.take_append_drop pj.length pi
            rw [hpe] at this
            exact this.symm
          rw [hpp, prec_prefix]
          rfl
        obtain ⟨u1, u2, u3⟩ := tat H7 (s5.trans s7) i hil
        refine ⟨_, rfl, _, rfl, _, rfl, l, _, _, _, rfl, rfl, u1, u2, ls[i], _, rfl, .inl (SqL.of u3), rfl, out_flat _ _ _ _, _, rfl, iteF2 (by rw [inV_out R e i (by omega), hrel]; rfl) ?_⟩
        exact ⟨_, _, _, rfl, s5.trans s7⟩
      · rintro σ H5 ⟨o4, o6, o7, rfl, s5⟩
        exact ⟨_, _, _, _, _, rfl, s5⟩
  · rintro σ H2 ⟨o3, o4, o5, o6, o7, rfl, s2⟩
    refine ⟨_, rfl, a, B, e, R, rfl, ta1.keep s2, gd, fun lz zs qs H3 s3 hlz hzs hok hql => ?_⟩
    have hzl : zs.length = qs.length := Paired.length hzs
    refine ⟨lz, rfl, ⟨_, SqL.of hlz⟩, fun D hD => lc_gen Nix zs.length (fun i acc H' => acc = []) hD (fun a h => h.elim) (fun H' _ => rfl) (fun i acc H' H'' g k => g) (fun i acc H' hi g => by rw [g]; exact Nat.lt_of_lt_of_le (Nat.zero_lt_one) z1)
      (fun m H' hm k => ⟨_, _, SqL.of (k.same _ _ hlz), List.getElem?_eq_getElem hm⟩) (fun H' k => ⟨_, SqL.of (k.same _ _ hlz), Nat.le_refl _⟩) ?_ ?_⟩
    · rintro m acc x H4 H5 N1 N0 n1 n0 hm k4 rfl ⟨rfl, hx⟩
      have s4 := k4.same
      have gx := hx _ (SqL.of (s4 _ _ hlz))
      obtain ⟨q0, gq, qa, rfl, hqa⟩ := paired_get hzs gx
      obtain ⟨kk, jj, rfl, hkj, hjs, htl⟩ := hok q0 (List.mem_of_getElem? gq)
      have hqa3 := L2.Same.sqt s4 hqa
      have hkl : kk < ls.length := by omega
      obtain ⟨u1, u2, u3⟩ := tat H5 (s2.trans (s3.trans s4)) kk hkl
      have hrel : rel R e kk jj = false := by unfold rel; rw [htl, Bool.and_false]
      refine ⟨rfl, _, rfl, qa, _, _, _, rfl, rfl, hqa3, atI_nat (j := 1) rfl, _, rfl, _, rfl, qa, _, _, _, rfl, rfl, hqa3, atI_nat (j := 0) rfl, l, _, _, _, rfl, rfl, u1, u2, ls[kk], _, rfl, .inl (SqL.of u3), rfl, out_flat _ _ _ _, _, rfl, iteF2 (by rw [inV_out R e kk hjs, hrel]; rfl) ?_⟩
      refine ⟨_, rfl, qa, _, _, _, rfl, rfl, hqa3, atI_nat (j := 0) rfl, _, rfl, qa, _, _, _, rfl, rfl, hqa3, atI_nat (j := 1) rfl, _, _, rfl, rfl, _, rfl, ?_⟩
      rw [decide_eq_false (by omega)]
      exact iteF (n0 _ (Kp.rfl _ _) rfl)
    · rintro H4 acc k4 e4 rfl
      exact ⟨z0, fun le hle => ⟨D, le, [], rfl, rfl, SqL.of (same_new hle _ _ e4), SqL.of upd_same, q _ (s1.trans (s2.trans (s3.trans (k4.same.nw hle))))⟩⟩
end
end Oo

set_option Elab.async false
set_option linter.all false
set_option maxRecDepth 100000
set_option maxHeartbeats 4000000
/-! The law. -/
namespace Oo
open PySem PySem.Spec PyProof.Rows L2
def rgI (i n : Nat) : List Int := (List.range (n - (i + 1))).map fun k => ((i + 1 + k : Nat) : Int)
def fullD (fs : List (List Int)) : PyData := .list (fs.map fun f => .list (f.map .int))
theorem lay_ints : ∀ f : List Int, PyData.canLayAll0 (f.map .int) = true ∧ PyData.depthAll (f.map .int) = 0
  | [] => ⟨rfl, rfl⟩
  | x :: r => by
    obtain ⟨h1, h2⟩ := lay_ints r
    exact ⟨by rw [List.map_cons, PyData.canLayAll0, h1]; rfl, by rw [List.map_cons, PyData.depthAll, h2]; rfl⟩
theorem lay_full : ∀ fs : List (List Int), PyData.canLayAll0 (fs.map fun f => .list (f.map .int)) = true ∧ PyData.depthAll (fs.map fun f => .list (f.map .int)) ≤ 1
  | [] => ⟨rfl, Nat.zero_le _⟩
  | f :: r => by
    obtain ⟨h1, h2⟩ := lay_full r
    obtain ⟨h3, h4⟩ := lay_ints f
    refine ⟨by rw [List.map_cons, PyData.canLayAll0, PyData.canLay0, h1, h3]; rfl, ?_⟩
    rw [List.map_cons, PyData.depthAll, PyData.depth, h4]
    omega
theorem full_shaped (fs : List (List Int)) : SeqAt.shaped (fullD fs) = true := by
  obtain ⟨h1, h2⟩ := lay_full fs
  unfold SeqAt.shaped fullD
  rw [PyData.canLay0, h1, PyData.depth, decide_eq_true (by omega)]
  rfl
theorem full_eqv (fs : List (List Int)) : PyData.eqv (fullD fs) (fullD fs) = true := SeqAt.eqv_refl _ (SeqAt.canLay_of_shaped (full_shaped fs))
theorem dp_ints {K : PySem.W.Frag} {H : Hp} : ∀ f : List Int, DpAll K H (f.map V.int) (f.map .int)
  | [] => .nil
  | x :: r => .cons (.int x) (dp_ints r)
theorem dp_lists {K : PySem.W.Frag} {H : Hp} : ∀ (ls : List Addr) (fs : List (List Int)), ls.length = fs.length → (∀ (i : Nat) li f, ls[i]? = some li → fs[i]? = some f → H li = some (.lst (f.map V.int))) → DpAll K H (ls.map V.ref) (fs.map fun f => .list (f.map .int))
  | [], [], _, _ => .nil
  | l :: ls, f :: fs, hl, h => .cons (.lst (SqL.of (h 0 l f rfl rfl)) (dp_ints f)) (dp_lists ls fs (by simpa using hl) fun i li g h1 h2 => h (i + 1) li g (by simpa using h1) (by simpa using h2))
  | [], _ :: _, hl, _ => by simp at hl
  | _ :: _, [], hl, _ => by simp at hl
theorem rgI_step {i n : Nat} (h : i < n) : rgI i (n + 1) = rgI i n ++ [((n : Nat) : Int)] := by
  unfold rgI
  rw [show n + 1 - (i + 1) = (n - (i + 1)) + 1 by omega, List.range_succ, List.map_append]
  congr 2
  show [((i + 1 + (n - (i + 1)) : Nat) : Int)] = _
  rw [show i + 1 + (n - (i + 1)) = n by omega]
theorem rgI_nil {i n : Nat} (h : n ≤ i + 1) : rgI i n = [] := by
  unfold rgI
  rw [show n - (i + 1) = 0 by omega]
  rfl
theorem out_full {R : List Path} {e : Ex} {i : Nat} : ∀ n : Nat, (∀ j, j < n → rel R e i j = decide (i < j)) → outL R e i n = (rgI i n).map V.int
  | 0, _ => by rw [rgI_nil (by omega)]; rfl
  | n + 1, h => by
    have ih := out_full n fun j hj => h j (by omega)
    by_cases hi : i < n
    · rw [outL_t (by rw [h n (by omega), decide_eq_true hi]), ih, rgI_step hi, List.map_append]
      rfl
    · rw [outL_f (by rw [h n (by omega), decide_eq_false hi]), ih, rgI_nil (by omega), rgI_nil (by omega)]
theorem rgV_rgI (i n : Nat) : rgV (((i : Nat) : Int) + 1) (n : Nat) = (rgI i n).map V.int := by
  unfold rgV rgI
  rw [List.map_map, show (((n : Nat) : Int) - (((i : Nat) : Int) + 1)).toNat = n - (i + 1) by omega]
  refine List.map_congr_left fun k _ => ?_
  show V.int _ = V.int _
  rw [show ((i : Nat) : Int) + 1 + (k : Nat) = ((i + 1 + k : Nat) : Int) by omega]
/-- a point more takes nothing away -/
theorem rel_mono {R S : List Path} (h : ∀ p ∈ R, p ∈ S) {e : Ex} {i j : Nat} (a : rel R e i j = true) : rel S e i j = true := by
  unfold rel at *
  rw [Bool.and_eq_true] at *
  refine ⟨a.1, ?_⟩
  have a2 := a.2
  unfold tells at *
  cases hi : (rows e [])[i]? with
  | none => rw [hi] at a2; cases a2
  | some p =>
    cases hj : (rows e [])[j]? with
    | none => rw [hi, hj] at a2; cases a2
    | some q =>
      rw [hi, hj] at a2
      exact prec_mono (fun p hp => decide_eq_true (h p (of_decide_eq_true hp))) e p q a2
/-- no guard, all open nodes points -/
theorem rel_full {R : List Path} {e : Ex} (hn : noCho e = true) (hR : ∀ q, q ∈ R ↔ ∃ c, sub e q = some c ∧ isOpen c = true) {i j : Nat} (hj : j < steps e) : rel R e i j = decide (i < j) := by
  unfold rel
  by_cases h : i < j
  · rw [decide_eq_true h, Bool.true_and]
    have hi2 : i < (rows e []).length := by rw [rows_steps]; omega
    have hj2 : j < (rows e []).length := by rw [rows_steps]; omega
    have gi := List.getElem?_eq_getElem hi2
    have gj := List.getElem?_eq_getElem hj2
    rw [tells_at gi gj]
    obtain ⟨r, c, e1, hs, _⟩ := rows_mem e [] _ (List.mem_of_getElem? gi)
    rw [List.nil_append] at e1
    rw [e1]
    exact prec_full hn (fun p n hp ho => decide_eq_true ((hR p).mpr ⟨n, hp, ho⟩)) hs
  · rw [decide_eq_false h]; rfl
def spLaw (K : PySem.W.Frag) : Sp := fun vs H Q _ => ∃ (a : Addr) (ns : List Int), vs = [.ref a] ∧ SqL K H a (ns.map V.int) ∧ ns.length ≤ 63 ∧ ∀ H', Q (.bl true) H'
theorem Got.good {B : List Fd} {g : Bool} {e : Ex} (h : Got B g 4 e) (hs : steps e ≤ 10) {R : List Path} (up : R.Pairwise (· < ·)) (op : ∀ p ∈ R, ∃ c, sub e p = some c ∧ isOpen c = true) : Good B e R :=
  ⟨h.wf, h.dp, hs, Nat.le_trans h.ct (by decide), up, op⟩
theorem same_kp {b : Addr} {H H1 H2 : Hp} (s : Same H H1) (k : Kp (One b) H1 H2) (h : H b = none) : Same H H2 := fun x u e => by
  rcases k x u (s x u e) with z | ⟨z, _⟩
  · exact z
  · rw [show x = b from z, h] at e; cases e
section
variable {P : Program} {w : World} {K : PySem.W.Frag} {mg : Str → Option Value} {base : Heap}
abbrev lwN : List Str := ["_law_script", "_law_at", "_law_bag_here", "_law_turn", "_law_kit_here", "_law_book_here", "_law_expr_here", "_law_task", "_law_told_here", "_law_path", "_law_more", "_law_one", "_law_other", "_law_full"]
theorem sc_law : FnScope lwN ["_law_script"] (defScope (top 68)) := ⟨rfl, rfl, rfl, by decide +kernel, rfl, by decide +kernel, by decide +kernel⟩
theorem w_law (T : Txt K w mg) {fd : FuncData} (F : FunD K "law" "law" (defArgs (top 68)) (defBody (top 68)) (defScope (top 68)) ((dF "law" 68).dvs K) ((dF "law" 68).kws K) (He.fAd K (dF "law" 68).at_) fd)
    (cBag : CallP P w K mg base 1 "_law_bag" (spBag K)) (cT : CallP P w K mg base 1 "_law_take" spTake) (cKit : CallP P w K mg base 3 "_law_kit" (spKit K)) (cBook : CallP P w K mg base 5 "_law_book" (spLBook K)) (cRoot : CallP P w K mg base 13 "_law_root" (spRoot K))
    (cTask : MakeKP P w K mg base 10 (He.ga K "Task") "Task" 2 ["points"] (spTask K)) (cPts : CallP P w K mg base 8 "_law_points" (spPoints K)) (cTold : CallP P w K mg base 13 "_law_told" (spTold K)) (cRight : CallP P w K mg base 13 "_law_right" (spRight K))
    (cN : MethP P w K mg base 2 (He.ga K "Task") "open_nodes" (spOpenN K)) (cW : MethP P w K mg base 12 (He.ga K "Task") "with_points" (spWith K)) (cOpen : CallP P w K mg base 7 "_law_open" (spLOpen K)) :
    FnOk P w K mg base CX0 14 (He.ga K "law") fd ["_law_script"] (spLaw K) := by
  refine F.ok (k := 13) sc_law (fun vs H Q E h => ?_) fun cdv A outer s H vs Q E hr h => ?_
  · obtain ⟨a, ns, rfl, _⟩ := h
    rfl
  obtain ⟨a, ns, rfl, ha, hns, q⟩ := h
  have hz : (1000 : Nat) < sizeLine := by decide
  have hu := hu_of hr
  have hu0 := Nat.lt_of_succ_lt hu
  refine ⟨_, PSs.nox (pss_cons (ps_for PassesOwn.never rfl (pi_range1 (by rfl) (T.free "range" (by decide +kernel)) (pa_cons (pe_callB (call_max2 rfl) (by rfl) (T.free "max" (by decide +kernel)) (by decide +kernel) (pa_cons pe_int (pa_cons (pe_callB (call_min2 rfl) (by rfl) (T.free "min" (by decide +kernel)) (by decide +kernel) (pa_cons pe_int (pa_cons (pe_callB call_len_seq (by rfl) (T.free "len" (by decide +kernel)) PySem.boot_len (pa_cons (pv 0) pa_nil)) pa_nil))) pa_nil))) pa_nil)) (pg_name (i := 1) sc_law.nd rfl (Or.inl rfl))
      (pss_cons (ps_set (i := 2) sc_law.nd rfl (Or.inl rfl) (pe_fn cBag hr (by decide) (by rfl) (pa_cons (pv 0) (pa_cons (pv 1) pa_nil))))
      (pss_one (ps_for PassesOwn.never rfl (pi_range1 (by rfl) (T.free "range" (by decide +kernel)) (pa_cons pe_int pa_nil)) (pg_name (i := 3) sc_law.nd rfl (Or.inl rfl))
        (pss_cons (ps_set (i := 4) sc_law.nd rfl (Or.inl rfl) (pe_fn cKit hr (by decide) (by rfl) (pa_cons (pv 2) (pa_cons (pe_cmpR op_eq (pe_fn cT hr (by decide) (by rfl) (pa_cons (pv 2) (pa_cons pe_int pa_nil))) pe_int (nomark _)) pa_nil))))
        (pss_cons (ps_par (i := 5) (j := 6) (by rfl) sc_law.nd rfl rfl (by decide) rfl rfl (pa_cons (pe_fn cBook hr (by decide) (by rfl) (pa_cons (pe_dget hu (pv 4) pe_str (fun _ _ => rfl)) pa_nil)) (pa_cons (pe_fn cRoot hr (by decide) (by rfl) (pa_cons (pv 2) (pa_cons (pv 4) (pa_cons (pe_fn cT hr (by decide) (by rfl) (pa_cons (pv 2) (pa_cons pe_int pa_nil))) pa_nil)))) pa_nil)) (by rfl))
        (pss_cons (ps_set (i := 7) sc_law.nd rfl (Or.inl rfl) (pe_mkK cTask hr (by decide) (by rfl) (pa_cons (pv 5) (pa_cons (pv 6) pa_nil)) (pk_cons (pe_fn cPts hr (by decide) (by rfl) (pa_cons (pv 2) (pa_cons (pv 6) pa_nil))) pk_nil)))
        (pss_cons (ps_set (i := 8) sc_law.nd rfl (Or.inr rfl) (pe_fn cTold hr (by decide) (by rfl) (pa_cons (pv 7) pa_nil)))
        (pss_cons (ps_if (pt_not (pt_val (pe_fn cRight hr (by decide) (by rfl) (pa_cons (pv 7) (pa_cons (pv 8) pa_nil))))) (pss_one (ps_ret pe_bl)) pss_nil)
        (pss_cons (ps_for PassesOwn.never rfl (pi_list (pe_slice sl_list (pe_mth0 (pv 7) T.cls cN hr (by decide)) po_none (po_some pe_int))) (pg_name (i := 9) sc_law.nd rfl (Or.inl rfl))
          (pss_cons (ps_set (i := 10) sc_law.nd rfl (Or.inr rfl) (pe_fn cTold hr (by decide) (by rfl) (pa_cons (pe_mth (pv 7) T.cls cW hr (by decide) (pa_cons (pv 9) pa_nil)) pa_nil)))
          (pss_one (ps_for PassesOwn.never rfl (pi_range1 (by rfl) (T.free "range" (by decide +kernel)) (pa_cons (pe_callB call_len_seq (by rfl) (T.free "len" (by decide +kernel)) PySem.boot_len (pa_cons (pv 8) pa_nil)) pa_nil)) (pg_name (i := 11) sc_law.nd rfl (Or.inr rfl))
            (pss_one (ps_if (pt_cmpR (op_neNil hu0) (pe_lc (own := [("_law_other", 12)]) (g := gName 12) rfl sc_law.nd (pi_list (pe_ix ix_list (pv 8) (pv 11) (fun _ _ => rfl))) (blkOk_by (N := lwN) (sc := defScope (top 68)) (by decide +kernel))
              (fun _ _ _ _ _ => pg_name (i := 12) sc_law.nd rfl (Or.inl rfl)) (fun _ _ _ _ _ => pts_one (pt_cmpR (r := rIn K true) op_notIn_seq (pv 12) (pe_ix (r := rIxL K) ix_list (pv 10) (pv 11) (fun _ _ => rfl)) rfl)) (fun _ _ _ _ _ => pv 12)) (pe_lst pa_nil) (nomark _)) (pss_one (ps_ret pe_bl)) pss_nil))))))
        (pss_one (ps_if (pt_not (pt_val (pe_dget hu (pv 4) pe_str (fun _ _ => rfl))))
          (pss_cons (ps_set (i := 13) sc_law.nd rfl (Or.inl rfl) (pe_fn cTold hr (by decide) (by rfl) (pa_cons (pe_mkK cTask hr (by decide) (by rfl) (pa_cons (pv 5) (pa_cons (pv 6) pa_nil)) (pk_cons (pe_callTy call_tuple_of (by rfl) (T.free "tuple" (by decide +kernel)) (by decide +kernel) (pa_cons (pe_fn cOpen hr (by decide) (by rfl) (pa_cons (pv 6) pa_nil)) pa_nil)) pk_nil)) pa_nil)))
          (pss_one (ps_if (pt_cmpR (op_neD hr.units) (pv 13) (pe_lc (own := [("_law_one", 11)]) (g := gName 11) (tt := tYes) rfl sc_law.nd (pi_range1 (by rfl) (T.free "range" (by decide +kernel)) (pa_cons (pe_callB call_len_seq (by rfl) (T.free "len" (by decide +kernel)) PySem.boot_len (pa_cons (pv 8) pa_nil)) pa_nil)) (blkOk_by (N := lwN) (sc := defScope (top 68)) (by decide +kernel))
            (fun _ _ _ _ _ => pg_name (i := 11) sc_law.nd rfl (Or.inl rfl)) (fun _ _ _ _ _ => pts_nil) (fun _ _ _ _ _ => pe_listRg rfl (by rfl) (T.free "list" (by decide +kernel)) (prg_2 (by rfl) (T.free "range" (by decide +kernel)) (pe_op op_add (pv 11) pe_int) (pe_callB (r := rLenK K) (call_lenK rfl) (by rfl) (T.free "len" (by decide +kernel)) PySem.boot_len (pa_cons (pv 8) pa_nil))))) (nomark _)) (pss_one (ps_ret pe_bl)) pss_nil))) pss_nil))))))))))))
    (pss_one (ps_ret pe_bl))), ?_⟩
  refine ⟨_, rfl, a, _, rfl, .inl ha, _, _, rfl, _, _, rfl, ?_⟩
  generalize hL : ((ns.map V.int).length : Int) = L
  have hL0 : 0 ≤ L := by omega
  refine ⟨_, rfl, by split <;> (try split) <;> omega, by split <;> (try split) <;> omega, for_it _ (fun i σ H' => ∃ o1 o2 o3 o4 o5 o6 o7 o8 o9 o10 o11 o13 : Option V, σ = [some (.ref a), o1, o2, o3, o4, o5, o6, o7, o8, o9, o10, o11, none, o13] ∧ Same H H') ⟨none, none, none, none, none, none, none, none, none, none, none, none, rfl, Same.refl _⟩
    (fun i σ H' hi _ => hi) (fun σ H' _ => Nat.le_refl _) ?_ ?_⟩
  · rintro i v σ H1 H2 hi ⟨o1, o2, o3, o4, o5, o6, o7, o8, o9, o10, o11, o13, rfl, s1⟩ ⟨rfl, hv⟩
    rw [Int.zero_add] at hv
    subst hv
    have hi' : i ≤ 1000 := by
      have : i < 6 := by
        refine Nat.lt_of_lt_of_le hi ?_
        split <;> (try split) <;> omega
      omega
    refine ⟨_, rfl, _, rfl, a, ns, i, rfl, (Kp.of (S := Nix) s1).sql ha (fun z => z), hns, hi', fun b H3 s3 hb0 hb3 => ?_⟩
    have hbH : H b = none := s1.free hb0
    have sH3 := s1.trans s3
    refine ⟨_, rfl, by decide, by decide, for_it 3 (fun t σ H' => ∃ o3 o4 o5 o6 o7 o8 o9 o10 o11 o13 : Option V, σ = [some (.ref a), some (.int (i : Nat)), some (.ref b), o3, o4, o5, o6, o7, o8, o9, o10, o11, none, o13] ∧ Same H H' ∧ BagAt H' b (2000 * t)) ⟨o3, o4, o5, o6, o7, o8, o9, o10, o11, o13, rfl, sH3, hb3⟩
      (fun t σ H' ht _ => ht) (fun σ H' _ => Nat.le_refl _) ?_ ?_⟩
    · rintro tn v σ H4 H5 htn ⟨o3, o4, o5, o6, o7, o8, o9, o10, o11, o13, rfl, s4, hb4⟩ ⟨rfl, rfl⟩
      have hlim : lim = 100000000 := rfl
      refine ⟨_, rfl, _, rfl, b, 2, _, rfl, by decide, by decide, hb4, by omega, fun z H6 z0' z2' k6 hb6 => ⟨rfl, b, _, _, rfl, hb6, by omega, fun kit ps B H7 k7 hk7 hb7 => ?_⟩⟩
      generalize decide (V.int z = V.int 0) = g at hk7
      have kA := k6.trans k7
      obtain ⟨dk, lf, fs, rfl, dg, hlf, nlf, hfs⟩ := kit_fns hk7
      refine ⟨_, rfl, dk, _, rfl, dg, lf, fs, B, rfl, hlf, hfs, hk7.fns.1, hk7.fns.2.1, hk7.fns.2.2, fun vb H8 s8 hbk8 => ?_⟩
      refine ⟨_, rfl, _, rfl, _, rfl, b, 11, _, rfl, by decide, by decide, hb7.same s8, by omega, fun n H9 n0 n11 k9 hb9 => ?_⟩
      obtain ⟨n, rfl⟩ := Int.eq_ofNat_of_zero_le n0
      refine ⟨b, .ref dk, ps, B, g, n, _, rfl, hb9, by omega, (hk7.keep (Kp.of s8)).keep k9, fun ve e H10 k10 ht10 got hst hb10 => ⟨_, _, rfl, ?_⟩⟩
      have kB : Kp (One b) H5 H10 := kA.trans ((Kp.of s8).trans (k9.trans k10))
      have hbk10 := hbk8.keep (k9.trans k10)
      have hk10 := ((hk7.keep (Kp.of s8)).keep k9).keep k10
      refine ⟨_, rfl, _, rfl, _, rfl, _, rfl, b, ve, B, e, _, rfl, hb10, by omega, ht10, got.wf, got.dp, Nat.le_trans got.ct (by decide), fun t xs R H11 k11 htt hxs up op hb11 => ⟨rfl, rfl, fun x dx hx hdx hne => ?_⟩⟩
      have good : Good B e R := got.good (by omega) up op
      refine ⟨x, dx, vb, ve, t, xs, B, e, R, H11, rfl, upd_same, made hx hdx, hx, hbk10.keep k11, ht10.keep k11.tk, htt, hxs, good, fun H12 s12 ta12 => ⟨rfl, ?_⟩⟩
      refine ⟨_, rfl, x, B, e, R, rfl, ta12, good, fun l H13 s13 tl13 => ?_⟩
      refine ⟨_, rfl, _, rfl, x, l, B, e, R, rfl, ta12.keep s13, good, tl13, fun H14 s14 => ⟨_, rfl, iteF ?_⟩⟩
      have ta14 := (ta12.keep s13).keep s14
      have tl14 := tl13.keep s14
      have sA : Same H11 H14 := s12.trans (s13.trans s14)
      have kC : Kp (One b) H5 H14 := kB.trans (k11.trans (Kp.of sA))
      have hb14 := hb11.same sA
      have hk14 := (hk10.keep k11).keep (Kp.of sA)
      have ht14 := ht10.keep (k11.trans (Kp.of sA)).tk
      have hbk14 := hbk10.keep (k11.trans (Kp.of sA))
      obtain ⟨ls, tD, tln, tls⟩ := tl14
      have tat : ∀ (H2 : Hp), Same H14 H2 → ∀ k (hk : k < ls.length), SqL K H2 l (ls.map V.ref) ∧ atI (ls.map V.ref) ((k : Nat) : Int) = some (.ref ls[k]) ∧ H2 ls[k] = some (.lst (outL R e k (steps e))) := fun H2 s2 k hk => by
        have g := List.getElem?_eq_getElem hk
        exact ⟨SqL.of (s2 _ _ tD), atI_nat (by rw [List.getElem?_map, g]; rfl), s2 _ _ (tls k _ g)⟩
      have hct150 : cnt e ≤ 150 := good.ct
      have hst10 : steps e ≤ 10 := good.st
      -- the open nodes
      obtain ⟨dxa, vb', ve', d', pt', owa, xs', ys', hx14, _⟩ := id ta14.ex
      refine ⟨_, rfl, x, dxa, _, rfl, hx14, rfl, x, B, e, R, rfl, ta14, by omega, fun lo yo qo H15 s15 hlo0 hlo hyo hiff hnd => ⟨_, rfl, lo, yo, rfl, SqL.of hlo, fun lc hlc => ?_⟩⟩
      rw [show (some (2 : Int)) = some ((2 : Nat) : Int) from rfl, cut_to]
      have s16 := s15.nw hlc (o := .lst (yo.take 2))
      have hlc16 : (upd H15 lc (.lst (yo.take 2))) lc = some (.lst (yo.take 2)) := upd_same
      have hyo16 := hyo.keep (same_new hlc (o := .lst (yo.take 2))).tk
      generalize upd H15 lc (.lst (yo.take 2)) = H16 at s16 hlc16 hyo16 ⊢
      refine ⟨lc, rfl, ⟨_, SqL.of hlc16⟩, for_it (yo.take 2).length (fun k σ H' => ∃ o9 o10 o11 : Option V, σ = [some (.ref a), some (.int (i : Nat)), some (.ref b), some (.int (0 + (tn : Nat))), some (.ref dk), some vb, some ve, some (.ref x), some (.ref l), o9, o10, o11, none, o13] ∧ Same H16 H') ⟨o9, o10, o11, rfl, Same.refl _⟩
        (fun k σ H' hk ⟨_, _, _, _, s⟩ => ⟨_, _, SqL.of (s _ _ hlc16), List.getElem?_eq_getElem hk⟩) (fun σ H' ⟨_, _, _, _, s⟩ => ⟨_, SqL.of (s _ _ hlc16), Nat.le_refl _⟩) ?_ ?_⟩
      · rintro k v σ H17 H18 hk ⟨o9, o10, o11, rfl, s17⟩ ⟨rfl, hxk⟩
        have gk := hxk _ (SqL.of (s17 _ _ hlc16))
        have hk2 : k < 2 := by rw [List.length_take] at hk; omega
        rw [List.getElem?_take, if_pos hk2] at gk
        obtain ⟨p, gp, hp⟩ := paired_get hyo16 gk
        obtain ⟨hop, hnp⟩ := (hiff p).mp (List.mem_of_getElem? gp)
        have sB := s16.trans s17
        refine ⟨_, rfl, x, dxa, _, rfl, sB _ _ hx14, rfl, _, rfl, x, v, B, e, p, R, rfl, ta14.keep sB, good, hp.keep s17.tk, hop, hnp, fun y R' H19 s19 ta19 gd19 hiff' => ?_⟩
        refine ⟨y, B, e, R', rfl, ta19, gd19, fun lm H20 s20 tlm => ?_⟩
        obtain ⟨ms, mD, mln, mls⟩ := tlm
        have sC := s19.trans s20
        have sD := sB.trans sC
        have mat : ∀ (H2 : Hp), Same H20 H2 → ∀ k (hk : k < ms.length), SqL K H2 lm (ms.map V.ref) ∧ atI (ms.map V.ref) ((k : Nat) : Int) = some (.ref ms[k]) ∧ H2 ms[k] = some (.lst (outL R' e k (steps e))) := fun H2 s2 k hk => by
          have g := List.getElem?_eq_getElem hk
          exact ⟨SqL.of (s2 _ _ mD), atI_nat (by rw [List.getElem?_map, g]; rfl), s2 _ _ (mls k _ g)⟩
        refine ⟨_, rfl, l, _, rfl, .inl (SqL.of (sD _ _ tD)), (((ls.map V.ref).length : Nat) : Int), rfl, by rw [List.length_map]; omega, by rw [List.length_map]; omega, for_it ls.length (fun j σ H' => ∃ o11 : Option V, σ = [some (.ref a), some (.int (i : Nat)), some (.ref b), some (.int (0 + (tn : Nat))), some (.ref dk), some vb, some ve, some (.ref x), some (.ref l), some v, some (.ref lm), o11, none, o13] ∧ Same H20 H') ⟨o11, rfl, Same.refl _⟩
          (fun j σ H' hj _ => by show j < (((ls.map V.ref).length : Nat) : Int).toNat; rw [List.length_map]; omega) (fun σ H' _ => by show (((ls.map V.ref).length : Nat) : Int).toNat ≤ ls.length; rw [List.length_map]; omega) ?_ ?_⟩
        · rintro j v2 σ H21 H22 hj ⟨o11, rfl, s21⟩ ⟨rfl, hv2⟩
          rw [Int.zero_add] at hv2
          subst hv2
          obtain ⟨u1, u2, u3⟩ := tat H22 (sD.trans s21) j hj
          refine ⟨_, rfl, _, rfl, l, _, _, _, rfl, rfl, u1, u2, ls[j], rfl, ⟨_, SqL.of u3⟩, fun D hD => lc_gen Nix (outL R e j (steps e)).length (fun i acc H' => acc = []) hD (fun a h => h.elim) (fun H' _ => rfl) (fun i acc H' H'' g k => g) (fun i acc H' hi g => by rw [g]; exact Nat.lt_of_lt_of_le (Nat.zero_lt_one) z1)
            (fun m H' hm k => ⟨_, _, SqL.of (k.same _ _ u3), List.getElem?_eq_getElem hm⟩) (fun H' k => ⟨_, SqL.of (k.same _ _ u3), Nat.le_refl _⟩) ?_ ?_⟩
          · rintro m acc x2 H23 H24 N1 N0 n1 n0' hm k23 rfl ⟨rfl, hx2⟩
            have gx := hx2 _ (SqL.of (k23.same _ _ u3))
            obtain ⟨z3', rfl, hz', hrel⟩ := out_get gx
            have hjm : j < ms.length := by omega
            obtain ⟨m1, m2, m3⟩ := mat H24 (s21.trans k23.same) j hjm
            refine ⟨rfl, _, rfl, _, rfl, _, rfl, lm, _, _, _, rfl, rfl, m1, m2, ms[j], _, rfl, .inl (SqL.of m3), rfl, out_flat _ _ _ _, _, rfl, iteF2 (by rw [inV_out R' e j hz', rel_mono (fun p hp => (hiff' p).mpr (.inl hp)) hrel]; rfl) (n0' _ (Kp.rfl _ _) rfl)⟩
          · rintro H23 acc k23 e23 rfl
            refine ⟨z0, fun le hle => ⟨D, le, [], rfl, rfl, SqL.of (same_new hle _ _ e23), SqL.of upd_same, _, rfl, iteF ?_⟩⟩
            exact ⟨_, rfl, s21.trans (k23.same.nw hle)⟩
        · rintro σ H21 ⟨o11, rfl, s21⟩
          exact ⟨_, _, _, rfl, s17.trans (sC.trans s21)⟩
      rintro σ H17 ⟨o9, o10, o11, rfl, s17⟩
      have sB := s16.trans s17
      have kD : Kp (One b) H5 H17 := kC.trans (Kp.of sB)
      have hb17 := hb14.same sB
      have hk17 := hk14.keep (Kp.of sB)
      have ht17 := ht14.keep sB.tk
      have hbk17 := hbk14.keep (Kp.of (S := Nix) sB)
      obtain ⟨dk2, ek, dgg⟩ := kit_guards hk17
      injection ek with ek
      subst ek
      refine ⟨_, rfl, dk, _, rfl, dgg, _, rfl, ?_⟩
      cases g with
      | true => exact iteF ⟨_, _, _, _, _, _, _, _, _, _, rfl, same_kp s4 kD hbH, hb17.mono (by omega)⟩
      | false =>
        refine iteT ?_
        refine ⟨_, rfl, _, rfl, _, rfl, ve, B, e, rfl, ht17, got.wf, got.dp, hct150, fun l2 ys2 qs2 H18 s18 hl20 hl2 hys2 hq2 up2 => ⟨l2, ys2, rfl, .inl ⟨SqL.of hl2, fun t2 ht2 => ⟨rfl, rfl, fun x2 dx2 hx2 hdx2 hne2 => ?_⟩⟩⟩⟩
        have s19 := s18.nw ht2 (o := .tup ys2)
        have ht19 : (upd H18 t2 (.tup ys2)) t2 = some (.tup ys2) := upd_same
        have hys19 := hys2.keep (same_new ht2 (o := .tup ys2)).tk
        generalize upd H18 t2 (.tup ys2) = H19 at s19 ht19 hys19 hx2 hdx2 ⊢
        have good2 : Good B e qs2 := got.good (by omega) up2 fun p hp => (hq2 p).mp hp
        refine ⟨x2, dx2, vb, ve, t2, ys2, B, e, qs2, H19, rfl, upd_same, made hx2 hdx2, hx2, hbk17.keep (Kp.of (S := Nix) s19), ht17.keep s19.tk, ht19, hys19, good2, fun H20 s20 ta20 => ⟨rfl, ?_⟩⟩
        refine ⟨x2, B, e, qs2, rfl, ta20, good2, fun lm H21 s21 tlm => ?_⟩
        obtain ⟨ms, mD, mln, mls⟩ := tlm
        have sE : Same H17 H21 := s19.trans (s20.trans s21)
        have sF := sB.trans sE
        refine ⟨_, rfl, _, rfl, l, _, rfl, .inl (SqL.of (sF _ _ tD)), (((ls.map V.ref).length : Nat) : Int), rfl, by rw [List.length_map]; omega, by rw [List.length_map]; omega, fun D hD => lc_it ls.length (fun j H' => Same H21 H' ∧ ∃ us : List Addr, H' D = some (.lst (us.map V.ref)) ∧ us.length = j ∧ ∀ k uk, us[k]? = some uk → H' uk = some (.lst ((rgI k (steps e)).map V.int)) ∧ uk ≠ D) ⟨same_new hD, [], upd_same, rfl, fun k uk g => by simp at g⟩
          (fun j H' hj _ => by show j < (((ls.map V.ref).length : Nat) : Int).toNat; rw [List.length_map]; omega) (fun H' _ => by show (((ls.map V.ref).length : Nat) : Int).toNat ≤ ls.length; rw [List.length_map]; omega) ?_ ?_⟩
        · rintro j v2 H22 H23 hj ⟨s22, us, uD, uln, uls⟩ ⟨rfl, hv2⟩
          rw [Int.zero_add] at hv2
          subst hv2
          refine ⟨rfl, _, rfl, _, _, rfl, rfl, _, rfl, l, _, rfl, .inl (SqL.of ((sF.trans s22) _ _ tD)), _, _, rfl, rfl, RgOk.of_le (by omega) (by rw [List.length_map]; omega) (by omega) (by omega), fun u hu' => ?_⟩
          rw [List.length_map, tln, rgV_rgI]
          have nD : u ≠ D := fun z => by rw [z, uD] at hu'; cases hu'
          refine ⟨us.map V.ref, same_new hu' _ _ uD, by rw [List.length_map]; omega, same_set (s22.nw hu') hD, us ++ [u], by rw [upd_same, List.map_append]; rfl, by rw [List.length_append, uln]; rfl, fun k uk g => ?_⟩
          by_cases hk : k < us.length
          · rw [List.getElem?_append_left hk] at g
            obtain ⟨g1, g2⟩ := uls k uk g
            exact ⟨by rw [upd_ne g2]; exact same_new hu' _ _ g1, g2⟩
          · rw [List.getElem?_append_right (by omega)] at g
            have hk0 : k - us.length = 0 := by
              have := (List.getElem?_eq_some_iff.mp g).1
              rw [List.length_singleton] at this
              omega
            rw [hk0] at g
            obtain rfl : u = uk := by simpa using g
            obtain rfl : k = j := by omega
            exact ⟨by rw [upd_ne nD]; exact upd_same, nD⟩
        · rintro H22 ⟨s22, us, uD, uln, uls⟩
          have fl : ∀ ws : List Addr, ws.length = ls.length → ws.length = ((List.range (steps e)).map fun k => rgI k (steps e)).length := fun ws h => by rw [List.length_map, List.length_range]; omega
          have fg : ∀ (k : Nat) f, ((List.range (steps e)).map fun k => rgI k (steps e))[k]? = some f → k < steps e ∧ f = rgI k (steps e) := fun k f h => by
            rw [List.getElem?_map] at h
            obtain ⟨k', h1, rfl⟩ := Option.map_eq_some_iff.mp h
            obtain ⟨h2, h3⟩ := List.getElem?_eq_some_iff.mp h1
            rw [List.getElem_range] at h3
            rw [List.length_range] at h2
            exact ⟨h2, by rw [h3]⟩
          refine ⟨fullD ((List.range (steps e)).map fun k => rgI k (steps e)), fullD ((List.range (steps e)).map fun k => rgI k (steps e)), Dp.lst (SqL.of (s22 _ _ mD)) (dp_lists ms _ (fl ms (by omega)) fun k mk f h1 h2 => ?_), Dp.lst (SqL.of uD) (dp_lists us _ (fl us (by omega)) fun k uk f h1 h2 => ?_), full_shaped _, full_shaped _, _, rfl, iteF2 (by rw [full_eqv]; rfl) ?_⟩
          · obtain ⟨h3, rfl⟩ := fg k f h2
            rw [← out_full (R := qs2) (e := e) (steps e) fun j hj => rel_full (got.nc rfl) hq2 hj]
            exact s22 _ _ (mls k mk h1)
          · obtain ⟨h3, rfl⟩ := fg k f h2
            exact (uls k uk h1).1
          · exact ⟨_, _, _, _, _, _, _, _, _, _, rfl, same_kp s4 (kD.trans (Kp.of (sE.trans s22))) hbH, (hb17.same (sE.trans s22)).mono (by omega)⟩
    · rintro σ H4 ⟨o3, o4, o5, o6, o7, o8, o9, o10, o11, o13, rfl, s4, hb4⟩
      exact ⟨_, _, _, _, _, _, _, _, _, _, _, _, rfl, s4⟩
  · rintro σ H2 ⟨o1, o2, o3, o4, o5, o6, o7, o8, o9, o10, o11, o13, rfl, s1⟩
    exact q _
end
end Oo

set_option Elab.async false
set_option linter.all false
set_option maxRecDepth 100000
set_option maxHeartbeats 4000000
/-! The join. -/
namespace Oo
open PySem PySem.Spec PyProof.Rows L2
theorem txt_of {w : World} {K : PySem.W.Frag} {h : Heap} {mg : Str → Option Value} (X : K.In h) (G : h.Ns mainGlobals mg) (c : He.SaysT fa fn ts w K) (e : ex K = true) : Txt K w mg where
  fact := fun f hf => c.d.facts hf
  dfs := fun d hd => c.d.defs hd
  tabs := fun t ht => by
    obtain ⟨i, hi, ei⟩ := List.mem_iff_getElem.mp ht
    exact c.tab i (t := t) (by rw [List.getElem?_eq_getElem hi, ei])
  exs := fun f hf => List.all_eq_true.mp e f hf
  glo := fun x hx => He.glo_ok X G (c.d.facts (List.mem_append_left _ (List.mem_map.mpr ⟨x, hx, rfl⟩)))
  free := fun x hx => He.free_ok X G (c.d.facts (List.mem_append_right _ (List.mem_append_left _ (List.mem_map.mpr ⟨x, hx, rfl⟩))))
  intF := fun p hp => He.int_ok X G (c.d.facts (f := He.Fa.int p.1 p.2) (List.mem_append_right _ (List.mem_append_right _ (List.mem_append_right _ (List.mem_append_right _ (List.mem_append_right _ (List.mem_append_right _ (List.mem_append_left _ (List.mem_map.mpr ⟨p, hp, rfl⟩)))))))))
  strF := fun p hp => He.str_ok X G (c.d.facts (f := He.Fa.str p.1 p.2) (List.mem_append_right _ (List.mem_append_right _ (List.mem_append_right _ (List.mem_append_right _ (List.mem_append_right _ (List.mem_append_right _ (List.mem_append_right _ (List.mem_map.mpr ⟨p, hp, rfl⟩)))))))))
theorem facts {P : Program} {w : World} {K : PySem.W.Frag} {mg : Str → Option Value} {f : Addr} (T : Txt K w mg) (hfa : mg ("law" : Str) = some (.ref f)) :
    ∃ fd : FuncData, (∀ (s : Shared) (v : Value), BindsTo s fd ⟨[v], []⟩ [("_law_script", v)]) ∧ ∀ base : Heap, K.In base → base.Ns mainGlobals mg → FnOk P w K mg base CX0 14 f fd ["_law_script"] (spLaw K) := by
  obtain ⟨fd, F⟩ := T.dfs _ (List.mem_of_getElem? (show fn[44]? = some (dF "law" 68) from rfl))
  have e := hfa.symm.trans (T.glo "law" (by decide +kernel))
  cases e
  have b := FunD.bindsA (ps := ["_law_script"]) F fun _ _ _ _ _ _ us hl => match us, hl with | [_], _ => rfl
  refine ⟨fd, fun s v => b s [v] rfl, fun base _ _ => ?_⟩
  have cInt := w_is_integer (P := P) (base := base) T
  have cName := w_is_name (P := P) (base := base) T
  have cPl := w_are_places T cName
  have cOps := w_operands (P := P) (base := base) T
  have cLOps := w_law_operands (P := P) (base := base) T
  have cOpn := w_is_open (P := P) (base := base) T
  have cOwnOf := w_own_steps_of (P := P) (base := base) T
  have cPath := w_is_path T cInt
  have cFn := w_fn_init T cName cInt cPl
  have cBk := w_book_init (P := P) (base := base) T
  have cHas := w_has (P := P) (base := base) T
  have cGet := w_get T cHas
  have cOwn := w_own_steps T cGet
  have cSI := w_steps_in T cOps cOwn 5
  have cSh := w_share (P := P) (base := base) T
  have cSp := w_spots_in T cOps 5
  have cLN := w_law_nodes T cLOps 5
  have cFm := w_is_formed T cInt cName cHas cGet
  have cFW := w_first_wrong T cOps cFm 5
  have cHT := w_hasT T cPath
  have cAP := w_arePts T cHT cOpn
  have cLen := w_lenT (P := P) (base := base) T
  have cON := w_openN T cOpn
  have cTask := w_task T cFW cSp cAP cOwnOf
  have cWP := w_with T cPath cON cTask
  have cRel := w_relate T cOpn
  have cPlan := w_plan T cSI cSh cRel
  have cSteps := w_steps T cSI
  have cPrec := w_precedes T cLen cInt cPlan
  have cRaces := w_races T cPlan
  have cBag := w_bag (P := P) (base := base) T
  have cTake := w_take (P := P) (base := base) T
  have cOf := w_of T cTake
  have cSome := w_some T cTake
  have cKit := w_kit T cTake cOf cSome
  have cLBook := w_lbook T cFn cBk
  have cLeaf := w_leaf T cTake cOf
  have cExpr := w_expr T cTake cOf cLeaf 5
  have cRoot := w_root T cTake cOf cExpr
  have cLO := w_lopen T cLN
  have cPts := w_points T cTake cLO
  have cTold := w_told T cLen cPrec
  have cRight := w_right T cSteps cRaces
  exact w_law T F cBag cTake cKit cLBook cRoot cTask cPts cTold cRight cON cWP cLO
end Oo
open PySem PySem.W PySem.Calls PyProof.Rows
theorem PySem.Challenge.cw_ordersopen_k16_whole_what_precedes_holds : PySem.Challenge.rw_ordersopen_k16_whole_what_precedes.Holds := by
  w_on; o_law
  refine HandSHeadRun.head_any (r := OpenLaw.row PySem.Challenge.rw_ordersopen_k16_whole_what_precedes) (q := view (OpenLaw.row PySem.Challenge.rw_ordersopen_k16_whole_what_precedes).prog [68]) (H := Oo.hk) (ob := Oo.ob) (M := 8000) (loose := Oo.loose) (d := HandSHeadRun.topDef (OpenLaw.row PySem.Challenge.rw_ordersopen_k16_whole_what_precedes).prog 68) (kwd := []) Oo.ob_eq
    (by kernel_rfl) (fun s => by kernel_rfl) Oo.run (by kernel_rfl) (by kernel_rfl) (by kernel_rfl) (by rfl) (by first | assumption | decide +kernel) (by decide +kernel) ⟨rfl, rfl, rfl, rfl, rfl, by decide +kernel⟩ ?hw ?hc
  case hw => w_witness2
  case hc =>
    refine L2.walk_ofE (l := PySem.Challenge.rw_ordersopen_k16_whole_what_precedes) (n := 63) (k := 14) (x := "_law_script") (CX := L2.CX0) rfl (by decide) (by kernel_rfl) ⟨rfl, by decide, by decide⟩ ?F (fun _ _ _ _ z => z)
    intro w mg fa h Y G hmg0
    obtain ⟨K, KX, c, ce⟩ := Y
    have hmg : mg ("law" : PySem.Str) = some (.ref fa) := by
      have e : (HandSHeadRun.topDef (OpenLaw.row PySem.Challenge.rw_ordersopen_k16_whole_what_precedes).prog 68).name = ("law" : PySem.Str) := by kernel_rfl
      rw [← e]
      exact hmg0
    obtain ⟨fd, hb, hF⟩ := Oo.facts (P := (PySem.Challenge.rw_ordersopen_k16_whole_what_precedes).prog) (w := w) (Oo.txt_of KX G c ce) hmg
    exact ⟨K, fd, Oo.spLaw K, KX, hb, fun H a ns hl _ hS => ⟨a, ns, rfl, hS, hl, fun _ => rfl⟩, hF⟩
